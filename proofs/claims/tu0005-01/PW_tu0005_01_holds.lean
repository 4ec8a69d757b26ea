import PyProof.Rows.All
import Wide.All
import OpenK.AllK
import Wide.FinOn
import Lean
import PySem.Challenge.RW_tu0005_01
set_option Elab.async false
open Prod renaming fst → CF
open Lean renaming Syntax → iM, mkIdent → CG
open String renaming ofList → Ln
open Nat renaming ble → nJ, le_trans → bR, le_of_ble_eq_true → iN, lt_succ_of_le → uk, le_of_lt_succ → kf, lt_of_lt_of_le → ey, add_le_add → nK, not_lt → kU, le_succ_of_le → rM, le_of_lt → da, ne_of_lt → kg, le_add_right → f6, add_right_comm → iO, le_succ → lM, add_lt_add_left → ZT, zero_add → nO, add_comm → o3, add_sub_add_right → CH, lt_succ_self → ki, le_sub_one_of_lt → xJ, exists_eq_add_one → mD, sub_pos_of_lt → um, le_refl → bE, sub_right_comm → Lq, sub_add_cancel → CI, lt_of_succ_lt_succ → rO, le_add_left → Lr, sub_le_of_le_add → Ls, add_lt_of_lt_sub → ZU, lt_of_le_of_lt → gI, casesAuxOn → fe, zero_le → fx, succ_le_succ → je, succ_pos → jh, le_of_eq → eQ, lt_irrefl → qu, succ_add → LF, lt_succ_of_lt → lN, lt_of_lt_of_eq → rT, sub_lt_sub_left → uy, le_antisymm → rU, add_le_add_left → lQ, add_assoc → rW, add_le_add_right → Z4, lt_trans → lR, not_lt_zero → o6, sub_self → kW, le_of_succ_le_succ → o7, lt_or_ge → CO, add_sub_cancel' → mH, exists_eq_add_of_le → xP, le_of_add_le_add_left → aaa, add_sub_cancel → lS, add_sub_cancel_left → ir, sub_sub_self → xQ, sub_eq_zero_of_le → CP, lt_or_eq_of_le → rX, sub_le → rY, lt_add_of_pos_right → qw, le_of_succ_le → xW, mul_le_mul_left → qy, add_sub_of_le → LV, lt_of_sub_pos → LX, one_pos → xY, sub_lt → uC, exists_eq_add_of_lt → aal, succ_lt_succ → C2, sub_zero → C3
open Int renaming le_trans → c0, lt_of_le_of_lt → mC, lt_of_lt_of_le → o1, le_of_lt_add_one → ZR, not_lt → ez, not_le → o2, ofNat_le → nL, natCast_nonneg → nM, sub_le_sub_right → Lo, ofNat_lt → nN, add_zero → eP, natCast_succ → xH, add_le_add_left → ZS, natAbs_of_nonneg → xI, le_of_lt → jN, le_antisymm → rN, add_le_add → kh, natCast_sub → Lp, sub_le_sub → uo, ofNat_natAbs_of_nonpos → Lu, mul_add → Lv, mul_one → Lw, add_comm → rP, lt_trans → ur, eq_ofNat_of_zero_le → ZZ, sub_zero → rS, le_refl → dZ, add_le_add_right → kl, lt_irrefl → LQ, sub_self → rZ, zero_add → km, le_add_of_nonneg_right → CT, le_of_eq → nS, le_of_add_le_add_right → aad, add_right_comm → CU, add_lt_add_right → aae, lt_of_add_lt_add_right → aaf, fdiv_eq_ediv_of_nonneg → r1, ediv_nonneg → CW, add_assoc → qx, neg_le_neg → CX, mul_nonneg → LU, add_nonneg → r2, mul_le_mul_of_nonneg_left → CY, fmod_eq_emod_of_nonneg → aah, fmod_nonneg_of_pos → aai, pow_succ → LW, neg_nonpos_of_nonneg → L1, sub_nonneg_of_le → aao, sub_le_sub_left → L2, add_pos_of_pos_of_nonneg → L3, add_pos_of_nonneg_of_pos → aap
open List renaming range → jb, pairwise_singleton → CJ, pairwise_cons → uq, mem_cons → ec, replicate → xK, prefix_refl → iq, getElem?_eq_some_iff → d7, getElem?_append_left → mE, casesOn → bY, getElem?_eq_getElem → gp, getElem?_append_right → iP, getElem?_set → Lx, getElem?_eq_none → jc, length_set → kj, getElem?_concat_length → Ly, length_append → b4, prefix_append → o4, mem_filterMap → qr, mem_range → kV, findIdx?_eq_some_iff_getElem → ZW, getD_eq_getElem?_getD → jd, contains_iff_mem → qs, all_eq_true → h1, eq_nil_of_length_eq_zero → o5, append_nil → ei, contains_cons → ZY, isEmpty_iff → kk, map_eq_nil_iff → CK, mem_map → f9, getElem_mem → uv, length → xM, map_cons → g0, map_congr_left → nP, nodup_cons → jf, getElem?_toArray → uw, mem_singleton → dY, size_toArray → jg, reverse_cons → mF, getElem?_take → CL, getElem?_drop → LB, take_of_length_le → ux, sum_cons → xN, toArray → mG, length_map → bF, nil_append → nR, map_map → jO, length_range → LG, getElem?_map → lO, getElem?_range → Z2, findIdx?_cons → Z3, drop_eq_getElem_cons → CM, forall_mem_cons → LH, append_assoc → eR, lookup_cons → hr, mem_append → dR, forIn_cons → LJ, sizeOf_lt_of_mem → LL, length_cons → gA, length_reverse → ff, eraseDups_cons → Z5, length_filter_le → LM, filterMap_cons → uA, length_filterMap_le → Z7, mem_iff_getElem? → Z8, getElem?_reverse → LN, mem_of_getElem? → fI, cons_append → xO, filter_eq_nil_iff → Z9, length_take_le → Z', length_drop → CQ, mem_filter → CR, mem_of_mem_take → aac, reverseAux → xR, pairwise_append → CS, take_left → r0, take_length → o8, length_nil → CV, map_nil → xT, not_mem_nil → kX, map_append → fy, drop_eq_nil_iff → aag, getElem?_eq_none_iff → xU, getElem?_set_self → xV, set_set → LS, sublist_append_left → CZ, filter_cons → xX, range' → uB, getElem?_set_ne → aaj, map_reverse → iu, mem_reverse → lU, sum_append → C0, reverse_append → nT, length_pos_iff → xZ, reverse_eq_nil_iff → aak, sum_reverse → LY, take_succ_cons → aam, take_zero → LZ, take_append_of_le_length → r3, pairwise_iff_getElem → C1, reverse_reverse → L0, pairwise_reverse → aan
open Classical renaming byCases → bZ, byContradiction → eA
open And renaming elim → bC, right → qp, left → qq
open PySem renaming BoolOp → rQ, intKind → nQ, strKind → qt, mem_of_lookup → LO
open Or renaming elim → eF
open Option renaming map_eq_some_iff → ZV, casesOn → gJ, isNone → Lz, isNone_iff_eq_none → uu, map → LC, bind_some → Z1, isSome_iff_exists → LI, elim_none → aaq, some → I, none → J
open Bool renaming and_eq_true_iff → cI, or_eq_true_iff → ZX, casesOn → hK, false_or → LA, false_and → LD, false_ne_true → rR, and_eq_true → rV, or_eq_true → qv, not_eq_true' → uz, not_eq_false → LK, or_eq_false_iff → Z6, or_false → LP, true_and → lT, or_true → xS, and_true → LR, and_false → C4
open Exists renaming elim → f7
open Array renaming toArray_toList → Z0, isEmpty_iff → aab
open ForInStep renaming yield → lP
open Decidable renaming not_not → CN, decide → U
set_option compiler.extract_closed false
set_option linter.all false
set_option tactic.hygienic false
set_option genInjectivity false
set_option genSizeOf false
set_option genCtorIdx false
set_option backward.match.sparseCases false
theorem Tactic.aar{α:Type _}{P:Prop}{x:α}(h:J=I x):P:=nomatch h
theorem Tactic.aas{α:Type _}{P:Prop}{x:α}(h:I x=J):P:=nomatch h
theorem Tactic.aat{α β:Type _}{a c:α}{b d:β}(h:I (a,b)=I (c,d)):a=c∧b=d:=⟨congrArg CF (Option.some.inj h),congrArg Prod.snd (Option.some.inj h)⟩
@[elab_as_elim] theorem Tactic.L4{α:Sort _}{a b:α}{motive:α→Prop}(h:a=b)(p:motive b):motive a:=h▸p
@[elab_as_elim] theorem Tactic.L5{α:Sort _}{a b:α}{motive:α→Prop}(h:b=a)(p:motive b):motive a:=h▸p
section
set_option compiler.extract_closed false
def Tactic.eS(n:Nat)(k:Lean.Name)(l:List iM):List iM:=.node .none k (l.take n).reverse.toArray::l.drop n
def Tactic.rp(s:String)(a:List iM):iM:=((s.splitOn " ").foldl (fun l w=>
  let c:=w.toList;let h:=c.headD 'a';let d:=c.getD 1 '0';let n:=d.toNat-48;let x:=(Ln c.tail).toName
  if h=='a' then .atom .none (Ln c.tail)::l else if h=='@' then(CG x).raw::l else if h=='$' then a.getD n .missing::l else if h=='n' then eS n `null l
  else if h=='s' then eS 1 ``Lean.Parser.Tactic.tacticSeq (eS 1 ``Lean.Parser.Tactic.tacticSeq1Indented (eS n `null l))
  else eS (h.toNat-48) ((if d=='T' then `Lean.Parser.Tactic else if d=='M' then `Lean.Parser.Term else .anonymous)++(Ln (c.drop 2)).toName) l) []).headD .missing
def Tactic.nl(l:List iM):List iM:=[.node .none `null l.toArray]
def Tactic.sq(l:List iM):iM:=rp "$0 1TtacticSeq1Indented 1TtacticSeq" (nl (l.intersperse (.atom .none "")))
def Tactic.L6(t:iM)(c:Char):iM:=rp (if c=='R' then "a $0 2Trepeat1'" else if c=='f' then "a @rfl 2Texact" else if c=='F' then "a a a @rfl 2Texact s1 2Ngroup a $0 2Ngroup n2 2Tfirst" else if c=='T' then "a a $0 2Ngroup a a @rfl 2Texact s1 2Ngroup n2 2Tfirst" else if c=='D' then "a a a n0 1ToptConfig 2Tdecide s1 2Ngroup a $0 2Ngroup n2 2Tfirst" else if c=='I' then "a a 1Mhole n1 2Tintro" else if c=='t' then "a $0 a 3Tparen" else if c=='a' then "a @gV @eY a0 1Nnum n1 2Mapp n1 2Mapp 2Texact" else if c=='b' then "a @gV @eY a1 1Nnum n1 2Mapp n1 2Mapp 2Texact" else if c=='S' then "a n0 $0 3TtacticIterate____" else if c=='U' then "a a 1TtacticBv_omega a a n0 $0 3TtacticIterate____ s3 a 3Tparen" else if c=='d' then "a 1TtacticBv_omega" else "a a a a a a @Un 2Tapply s1 2TwithReducible s1 a 3Tparen a a @rfl 2Texact a a n0 $0 3TtacticIterate____ s5 a 3Tparen s1 2Ngroup a a a a a @iy 2Tapply s1 2TwithReducible s1 a 3Tparen a a @rfl 2Texact a a n0 $0 3TtacticIterate____ s5 a 3Tparen s1 2Ngroup a a a @n4 2Tapply s1 2TwithReducible s1 2Ngroup n3 2Tfirst") [t]
def Tactic.rwx(rs:List iM):iM:=rs.foldr (fun r z=>rp "a a a a a $0 $1 a a 2MsyntheticHole n2 2Mapp 2Trefine s1 2Ngroup a a n0 1ToptConfig a $2 n1 a 3TrwRuleSeq n0 4TrewriteSeq s1 2Ngroup n2 2Tfirst s1 a 3Tparen a $3 s3 a 3Tparen" [(CG (if r[0].getNumArgs==0 then ``Tactic.L4 else ``Tactic.L5)).raw,r[1],r,z]) (rp "a a a 1TtacticRfl s1 2TwithReducible s1 2TtacticTry_" [])
def Tactic.evm(o9:String)(t:iM)(z:iM):iM:=rp "a $0 2Tfirst" (nl (((o9.splitOn " ").map (fun p=>
  let s:=p.splitOn "/"
  sq (rp "a a $0 2Tapply s1 2TwithReducible" [(CG (.mkSimple s.head!)).raw]::s.getLast!.toList.map (L6 t)))++[z]).map fun s=>rp "a $0 2Ngroup" [s]))
def Tactic.inj(h:iM):iM:=let f:=fun s=>(CG (h.getId.appendAfter s)).raw;rp "a a a @Tactic.aar $0 n1 2Mapp 2Texact s1 2Ngroup a a @Tactic.aas $0 n1 2Mapp 2Texact s1 2Ngroup a a $0 n1 2Tsubst s1 2Ngroup a a a a $1 1TrcasesPat.one n1 1TrcasesPatMed n0 2TrcasesPatLo a $2 1TrcasesPat.one n1 1TrcasesPatMed n0 2TrcasesPatLo n3 a 3TrcasesPat.tuple n1 1TrcasesPatMed n1 n0 a @Tactic.aat $0 n1 2Mapp n1 n2 4Tobtain a a $0 n1 2Tclear a a n0 $1 2TelimTarget n1 n0 n0 4Tcases a a n0 $2 2TelimTarget n1 n0 n0 4Tcases 3T«tactic_<;>_» s5 a 3Tparen s1 2Ngroup a a a $0 1MletId n0 n0 a @Option.some.inj $0 n1 2Mapp 5MletIdDecl 1MletDecl 2Treplace a a n0 $0 2TelimTarget n1 n0 n0 4Tcases s3 a 3Tparen s1 2Ngroup a a a 1TtacticExfalso a a $0 n0 3Tinjection a a 1Tdone s5 a 3Tparen s1 2Ngroup a a a a $1 1TrcasesPat.one n1 1TrcasesPatMed n0 2TrcasesPatLo a $2 1TrcasesPat.one n1 1TrcasesPatMed n0 2TrcasesPatLo n3 a 3TrcasesPat.tuple n1 1TrcasesPatMed n1 n0 a @Prod.mk.inj $0 n1 2Mapp n1 n2 4Tobtain a a $0 n1 2Tclear a a n0 $1 2TelimTarget n1 n0 n0 4Tcases a a n0 $2 2TelimTarget n1 n0 n0 4Tcases 3T«tactic_<;>_» s5 a 3Tparen s1 2Ngroup a a a $0 a $1 $2 n2 n2 3Tinjection a a n0 $1 2TelimTarget n1 n0 n0 4Tcases a a n0 $2 2TelimTarget n1 n0 n0 4Tcases 3T«tactic_<;>_» s3 a 3Tparen s1 2Ngroup a a a $0 a $1 n1 n2 3Tinjection a a n0 $1 2TelimTarget n1 n0 n0 4Tcases s3 a 3Tparen s1 2Ngroup n9 2Tfirst" [h,f "a",f "b"]
end
local macro_rules | `(tactic| erw [$rs,*]) => pure (Tactic.rwx (rs.getElems.toList.map (·.raw)))
local macro_rules | `(tactic| injections $h:ident) => pure (Tactic.inj h)
noncomputable section
section
namespace Tactic
theorem cz{a c k:Nat}(h:a≤c)(e:nJ c k=true):a≤k:=bR h (iN e)
theorem nU{a c k:Nat}(h:a≤c)(e:nJ c k=true):a<k+1:=uk (cz h e)
theorem qz{a c k:Nat}(h:a<c)(e:nJ c (k+1)=true):a≤k:=kf (ey h (iN e))
theorem r4{a b c k:Nat}(h:a≤b)(g:b≤c)(e:nJ c k=true):a≤k:=cz (bR h g) e
theorem r5{a b c k:Nat}(h:a<b)(g:b≤c)(e:nJ c (k+1)=true):a≤k:=qz (ey h g) e
theorem x1{a b c k:Nat}(h:a=b)(g:b≤c)(e:nJ c k=true):a≤k:=h▸cz g e
theorem kn{a b c d k:Nat}(h:a≤c)(g:b≤d)(e:nJ (c+d) k=true):a+b≤k:=cz (nK h g) e
theorem d3{a c k:Int}(h:a≤c)(e:U (c≤k)=true):a≤k:=c0 h (of_decide_eq_true e)
theorem kY{a c k:Int}(h:a≤c)(e:U (c<k)=true):a<k:=mC h (of_decide_eq_true e)
theorem C5{a c k:Int}(h:a<c)(e:U (c≤k)=true):a<k:=o1 h (of_decide_eq_true e)
theorem C6{a c k:Int}(h:a<c)(e:U (c≤k+1)=true):a≤k:=ZR (C5 h e)
theorem d0{a c k:Int}(h:c≤a)(e:U (k≤c)=true):k≤a:=c0 (of_decide_eq_true e) h
theorem L7{a c k:Int}(h:c<a)(e:U (k≤c)=true):k<a:=mC (of_decide_eq_true e) h
theorem L8{a c k:Int}(h:¬a<c)(e:U (k≤c)=true):k≤a:=d0 (ez.mp h) e
theorem L9{a c k:Int}(h:U (a≤c)=false)(e:U (k≤c)=true):k<a:=L7 (o2.mp (of_decide_eq_false h)) e
theorem C7{a c k:Int}(h:U (c≤a)=false)(e:U (c≤k)=true):a<k:=C5 (o2.mp (of_decide_eq_false h)) e
theorem uD{a c:Nat}{k:Int}(h:a≤c)(e:U ((c:Int)≤k)=true):(a:Int)≤k:=c0 (nL.mpr h) (of_decide_eq_true e)
theorem x8{a b c:Nat}{k:Int}(h:a≤b)(g:b≤c)(e:U ((c:Int)≤k)=true):(a:Int)≤k:=uD (bR h g) e
theorem r6{a:Nat}{k:Int}(e:U (k≤0)=true):k≤(a:Int):=c0 (of_decide_eq_true e) (nM a)
theorem C8{a c d k:Int}(h:a≤c)(e:U (c-d≤k)=true):a-d≤k:=d3 (Lo h d) e
theorem mI{a b:Nat}(h:a≤b):(a:Int)≤b:=nL.mpr h
theorem L'{a b:Nat}(h:a<b):(a:Int)<b:=nN.mpr h
theorem x9{a b:Nat}(h:b≤a):¬(a:Int)<b:=ez.mpr (mI h)
theorem C9{a b:Nat}(h:U ((a:Int)<b)=true):a<b:=nN.mp (of_decide_eq_true h)
theorem C'{a b:Nat}(h:U ((a:Int)<b)=false):¬a<b:=fun g=>of_decide_eq_false h (L' g)
theorem uE{a b:Nat}(h:¬a<b):b≤a:=kU.mp h
theorem Dc{a b:Int}(h:¬a<b):b≤a:=ez.mp h
theorem Dd{a b:Nat}(h:¬a≤b):b<a:=Nat.not_le.mp h
theorem uF{a b:Int}:a+(b+0)=a+b:=by rw[eP]
theorem x'{a:Int}:a+0+0=a:=by rw[eP,eP]
theorem De{a b:Nat}(h:a<b):b=b-1+1:=(Nat.succ_pred_eq_of_pos (Nat.zero_lt_of_lt h)).symm
theorem ya{a b:Nat}(h:a≤b):a≤b+1:=rM h
theorem Df{a c k:Nat}(h:c≤a)(e:nJ k c=true):k≤a:=bR (iN e) h
theorem uG{a b c:Nat}(h:a<b)(g:b≤c):a≤c:=da (ey h g)
theorem Dg{a b c:Nat}(h:a<b)(g:b≤c+1):a≤c:=kf (ey h g)
theorem Ma{a b c:Nat}(h:a<b)(g:b≤c):¬a=c:=kg (ey h g)
theorem yb{a b c:Nat}(h:a<b):a<b+c:=ey h (f6 ..)
theorem Mb{a b c d:Nat}(h:a<b):a<b+c+d:=yb (yb h)
theorem Dh{j k l:Nat}(h:j<k+(l+1)):j<k+1+l:=by rw[iO];exact h
theorem Mc{j k l:Nat}(h:j<k+1+l):j<k+(l+1):=by rw[iO]at h;exact h
theorem yc{k l n:Nat}(h:k+(l+1)≤n):k+1+l≤n:=by rw[iO];exact h
theorem yd{k l n c:Nat}(h:k+l≤n)(e:nJ n c=true):k≤c:=cz (bR (f6 ..) h) e
theorem ye{c K:Int}{m:Nat}(h:c+((m+1:Nat):Int)≤K):c+(m:Int)≤K:=by rw[xH]at h;lia
theorem Md{c K:Int}{m:Nat}(h:c+((m+1:Nat):Int)≤K):c+1+(m:Int)≤K:=by rw[xH]at h;lia
theorem Me{c K:Int}{m k:Nat}(g:k≤m)(h:c+(m:Int)≤K):c+(k:Int)≤K:=c0 (ZS (mI g) c) h
theorem Mf{s K:Int}(h:¬s< -K):¬K< -s:=by lia
theorem Di{a b:Int}(h:¬a-b>0):0≤ -(a-b):=by lia
theorem Dj{s:Int}(h:s>0):(s.natAbs:Int)=s:=xI (jN h)
theorem Dk{s:Int}(h:0≤s):s=(s.toNat:Int):=(Int.toNat_of_nonneg h).symm
theorem Mg{p k:Int}(h:¬p>k)(g:¬k>p):p=k:=rN (ez.mp h) (ez.mp g)
theorem Dl{n:Nat}{k:Int}(h:(n:Int)=k):((n+1:Nat):Int)=k+1:=by rw[←h];rfl
theorem Mh{w:Int}{j:Nat}(h:w≤(j:Int)):w≤((j+1:Nat):Int):=c0 h (mI (lM j))
theorem Dm{a b c d k:Int}(h:a≤c)(g:b≤d)(e:U (c+d<k)=true):a+b<k:=kY (kh h g) e
theorem Dn{a b c d k:Int}(h:c≤a)(g:d≤b)(e:U (k≤c+d)=true):k≤a+b:=d0 (kh h g) e
theorem Dp{a b:Nat}(h:(a:Int)<b):a<b:=nN.mp h
theorem Mi{a b:Nat}(h:a+1=b):(a:Int)=(b:Int)-1:=by lia
theorem Mj{a b:Nat}(h:(a:Int)=(b:Int)-1):a+1=b:=by lia
theorem Mk{a b c:Nat}(h:a<b):c+a<c+b:=ZT h c
theorem Ml{a k c:Nat}(h:a<k)(e:nJ k (c+1)=true):0+a≤c:=(nO a).symm▸qz h e
theorem aau{i n m:Nat}(h:i<n)(e:m=n):i<m:=e▸h
theorem Mm{i n m:Nat}(h:¬i<n)(e:m=n):m≤i:=e▸kU.mp h
theorem Mn{a b c:Int}(h:a<b)(g:b≤c):a≤c:=jN (o1 h g)
theorem yf{k n m:Nat}(h:n-k=m+1):m=n-(k+1):=(congrArg Nat.pred h).symm
theorem Mo{v k i:Nat}(aa:k≤v)(ab:v≤i):(v-k)+(i-v)=i-k:=(o3 ..).trans (Nat.sub_add_sub_cancel ab aa)
theorem Mp{i n:Nat}(h:i<n):n+1-(i+1)<n+1-i:=by rw[CH,Nat.succ_sub (da h)];exact ki _
theorem Dq{a b:Nat}(h:a<b):((b-1-a:Nat):Int)=(b:Int)-1-a:=by rw[Lp (xJ h),Lp (Nat.zero_lt_of_lt h:1≤b)];rfl
theorem Mq{m x:Nat}(h:x<2):m+4*(2-(x+1))+4=m+4*(2-x):=let⟨y,e⟩:=mD.mpr (um h);by rw[←yf e,e];rfl
theorem Mr{m x:Nat}(h:x<2):m+(2-(x+1))+1≤m+(2-x):=let⟨y,e⟩:=mD.mpr (um h);by rw[←yf e,e];exact bE _
theorem Dr{i n:Nat}(h:i<n):n+1-(i+1)=n-1-i+1:=by rw[CH,Lq,CI (um h)]
theorem Ms{i n:Nat}(h:i+1<n+1):n+1-(i+1)=n-1-i+1:=Dr (rO h)
theorem Mt{a b:Nat}(aa:1≤b)(h:b<a):b-1<a-1:=Nat.sub_lt_sub_right aa h
theorem Mu{x y:Nat}(h:y≠0):(x:Int)+y-1=((x+y-1:Nat):Int):=by rw[Lp (bR (Nat.one_le_iff_ne_zero.mpr h) (Lr y x))];rfl
theorem Ds{b c:Nat}(h:b≤c+1):b-1≤c:=Ls h
theorem Mv{b c x:Nat}(g:x<b-1)(h:b≤c+1):x<c:=ey g (Ds h)
theorem Mw{b x:Nat}(g:x<b-1):x+1<b:=ZU g
theorem uH{a b n:Nat}(h:1+a+b<n+1):a<n:=ey (Nat.lt_add_of_pos_left Nat.zero_lt_one) (bR (f6 (1+a) b) (kf h))
theorem o'{a b n:Nat}(h:1+a+b<n+1):b<n:=uH (a:=b) (b:=a) (by rw[iO];exact h)
theorem jP{a b n:Nat}(h:a+b<n+1):a<n+1:=gI (f6 ..) h
theorem qA{x y n:Nat}(e:x=y)(h:x<n):y<n:=e▸h
theorem Dt{i:Int}{n:Nat}(h0:0≤i)(h:i<n):i.toNat<n:=(Int.toNat_lt h0).mpr h
theorem Mx{a b c x y z k:Int}(h:z≤c)(g:x≤a)(f:b≤y)(e:U (k≤x-y+z)=true):k≤a-b+c:=d0 (kh (uo g f) h) e
theorem My{a b c x y z k:Int}(h:c≤z)(g:a≤x)(f:y≤b)(e:U (x-y+z≤k)=true):a-b+c≤k:=d3 (kh (uo g f) h) e
theorem Mz{a b x y k:Int}(h:a≤x)(g:y≤b)(e:U (x-y≤k)=true):a-b≤k:=d3 (uo h g) e
theorem MA{a b x y k:Int}(h:x≤a)(g:b≤y)(e:U (k≤x-y)=true):k≤a-b:=d0 (uo h g) e
theorem MB{a c k:Int}(h:c≤a)(e:U (k<c)=true):k<a:=o1 (of_decide_eq_true e) h
theorem MC{x:Int}{a b c d:Int}(h:a≤x∧x≤b)(e:U (c<a)=true)(f:U (b<d)=true):c<x∧x<d:=⟨MB h.1 e,kY h.2 f⟩
theorem Du{n:Nat}(h:¬1<n):¬1<(n:Int):=fun g=>h (nN.mp g)
theorem MD{s:Int}(h:¬s>0):(s.natAbs:Int)= -s:=Lu (ez.mp h)
theorem ME{s:Int}(h:0≤s):(s.natAbs:Int)=s:=xI h
theorem MF{x m y k:Nat}(h:x≤k*m)(g:y≤k):x+y≤k*(m+1):=nK h g
theorem MG{x y k:Int}{m:Nat}(h:x≤k)(g:y≤k*(m:Int)):x+y≤k*((m+1:Nat):Int):=by rw[xH,Lv,Lw,rP];exact kh g h
theorem MH{x y k:Int}{m:Nat}(h: -k≤x)(g: -(k*(m:Int))≤y): -(k*((m+1:Nat):Int))≤x+y:=by rw[xH,Lv,Lw,Int.neg_add,rP];exact kh h g
end Tactic
end
section
@[elab_as_elim] theorem Tactic.eT{α:Sort _}{c:Prop}{d:Decidable c}{a b:α}{motive:α→Prop}(aa:c→motive a)(ab:¬c→motive b):motive (@ite α c d a b):=by
 by_cases h:c
 ·rw[if_pos h];exact aa h
 ·rw[if_neg h];exact ab h
end
section
local macro_rules | `(tactic| cases $h:ident) => pure (Tactic.inj h)
section
open PySem PySem.W PySem.Calls PyProof.Rows
set_option Elab.async false
set_option maxRecDepth 100000
namespace Tactic.H
noncomputable section
open PySem.W renaming boot_o_0→lV,boot_o_1→g4,boot_o_2→ji,boot_o_3→qB,boot_o_4→qC,boot_o_5→Dv,boot_o_6→Dw,boot_o_7→aX,boot_o_8→cq,boot_o_9→Dx,boot_o_10→Dy
open PySem.W.BT renaming node→N,nil→Z
noncomputable abbrev dg:Program:=PySem.Challenge.pw_tu0005_01
noncomputable def st(i:Nat):Stmt:=(dg.main.body[i]?).getD default
noncomputable def mt(i j:Nat):Stmt:=match st i with
 | .ClassDef _ _ _ b _ _ _ _ _ _ _=>(b[j]?).getD default
 |_=>default
noncomputable def c6(t:BT)(n:Nat)(l:List (Params→Obj))(P:Params):BT:=List.rec (fun t ag=>t) (fun o ag f t n=>f (t.ins n (o P)) (n+1)) l t n
noncomputable def lf:Life:=Life.mk [] [] [] 0 [] [] false #[] [] 0 false false false 0 [2000,10,10] false 0 true [] [] 0 false
noncomputable def pa:Drawn:=Drawn.mk 0 0 0 0
noncomputable def ak(x:String)(t:Nat):Value:=.str (Str.ofString x) t
def c4(t:Nat):Value:=ak "/claim/cut.py" t
noncomputable def r(a:Nat):Value:=.ref a
noncomputable def i(n:Int):Value:=.int n 0
noncomputable def bU(c:String)(l:List Value)(_:Params):Obj:=⟨.type c,J,.fields l.toArray,#[]⟩
noncomputable def cD(l:List Value)(_:Params):Obj:=⟨.none,J,.fields l.toArray,#[]⟩
noncomputable def bW(l:List Value)(_:Params):Obj:=⟨.type "tuple",J,.seq l.toArray 0,#[]⟩
noncomputable def fz(f:FuncData)(_:Params):Obj:=⟨.type "function",J,.func f,#[]⟩
noncomputable def cE(f:FuncData)(_:Params):Obj:=⟨.none,J,.func f,#[]⟩
noncomputable def u(x:String):Str:=Str.ofString x
noncomputable def k(x:String)(t:Nat)(v:Value)(P:Params):DictEntry:=⟨PyData.keyHash P (Str.ofString x),.str (Str.ofString x) t,v⟩
noncomputable def fn(s:Stmt)(qual:String)(globals:Nat)(nV Dz doc pm:Value)(an:Option Addr)(code mJ:Value)(bi:Nat):FuncData:=match s with
 | .FunctionDef n a b _ _ _ sc _ _ _=>{name:=n,qualname:=u qual,params:=a,body:=.stmts b,scope:=sc,globals:=globals,closure:=[],defaults:=nV,kwdefaults:=Dz,doc:=doc,pyModule:=pm,annotations:=an,code:=code,closureTuple:=mJ,builtins:=bi}
 |_=>default
def bq(s:Stmt)(q:String):FuncData:=fn s q 0 .none .none .none .none J .none .none 0
noncomputable def d4(l:List (Params→DictEntry))(n:Nat)(P:Params):Obj:=⟨.type "dict",J,.dict (l.map fun f=>f P).toArray n,#[]⟩
noncomputable def fr(l:List (Option Value))(_:Params):Obj:=⟨.type "frame",J,.plain,l.toArray⟩
def cJ(s:Stmt)(q:String)(m c:Value):=fz (fn s q 3 .none .none .none m J c .none 0)
def ed:Value:=ak "gluepage.breaks" 767
def eU:Value:=ak "gluepage.nodes" 492
def fq:Value:=ak "gluepage.scaled" 272
def gq:Value:=ak "law_tu0005_01" 1169
def jj:Value:=ak "gluepage.errors" 194
def co(A B:String)(a:Nat)(L n:Int)(x y z u v m:Nat):=bU "code" [ak A a,ak B (a+1),c4 (a+2),i L,i n,i 0,i 0,i 3,r x,.bool true,i 181,r y,.none,r z,r u,r v,i m,i L,c4 (m+1)]
def o0:=bU "code" [ak "<module>" 182,ak "<module>" 183,c4 184,i 1,i 0,i 0,i 0,i 0,r 11,.bool false,i 181,r 12,.none,.none,.none,.none,i 185,i 1,c4 186]
def a0:=fr [(I (r 13)),(I (r 3)),(I (r 3)),J,(I (ak "__main__" 164)),J,(I (r 0))]
def yg(P:Params):Heap:=⟨⟨[lV P,g4 P,ji P,qB P,qC P,Dv P,Dw P,aX P,cq P,Dx P,Dy P,aX P,cq P,o0 P,a0 P]⟩,lf⟩
def t0(P:Params):BT:=N (lV P) (N (g4 P) (N (qB P) (N (aX P) Z Z) (N (aX P) Z Z)) (N (Dv P) (N (Dx P) Z Z) (N (o0 P) Z Z))) (N (ji P) (N (qC P) (N (cq P) Z Z) (N (cq P) Z Z)) (N (Dw P) (N (Dy P) Z Z) (N (a0 P) Z Z)))
def iQ:=bU "builtin_function_or_method" [.builtin "type.__prepare__",.type "type"]
def yh:=bW [r 39]
def t1(P:Params):BT:=c6 (((t0 P).ins 3 (d4 [k "__name__" 165 jj,k "__doc__" 166 .none,k "__package__" 167 .none,k "__loader__" 168 (.builtin "__main__.__loader__#opaque"),k "__spec__" 169 .none,k "__annotations__" 170 (r 6),k "__builtins__" 171 (r 4),k "__file__" 173 (c4 172),k "__cached__" 174 .none,k "_wall" 193 (r 21),k "PageError" 223 (r 39),k "BadArgument" 239 (r 52),k "BadUnit" 255 (r 64)] 13 P)).ins 12 (cD [i 1,i 0,r 20,i 5,i 0,r 27,i 9,i 0,r 48,i 11,i 0,r 60] P)) 15 [aX,cq,bW [ak "k" 190],aX,cE (bq (st 0) "_wall"),co "_wall" "_wall" 187 1 1 15 16 17 18 19 191,cJ (st 0) "_wall" (ak "__main__" 164) (r 20),bW [.type "ValueError"],iQ,d4 [k "__module__" 203 jj,k "__qualname__" 205 (ak "PageError" 204),k "__firstlineno__" 207 (.int 5 206),k "__init__" 216 (r 36),k "__static_attributes__" 218 (r 37)] 5,aX,cD [i 7,i 4,r 35],bU "code" [ak "PageError" 198,ak "PageError" 199,c4 200,i 5,i 0,i 0,i 0,i 0,r 25,.bool false,i 181,r 26,.none,.none,.none,.none,i 201,i 5,c4 202],fr [(I (r 27)),(I (r 3)),(I (r 24)),J,(I jj),J,(I (r 0))],bW [ak "" 208],aX,cq,bW [ak "self" 212,ak "reason" 213],aX,cE (bq (mt 2 0) "PageError.__init__"),co "__init__" "PageError.__init__" 209 7 2 30 31 32 33 34 214,fz (fn (mt 2 0) "PageError.__init__" 3 (r 29) .none .none jj J (r 35) .none 0),bW [ak "reason" 217],d4 [k "__module__" 203 jj,k "__firstlineno__" 207 (.int 5 206),k "__init__" 216 (r 36),k "__static_attributes__" 218 (r 37),k "__weakref__" 220 (r 40),k "__doc__" 221 .none] 3,fun P=>⟨(.type "type"),J,.cls ⟨u "PageError",[.type "ValueError"],[r 39,.type "ValueError",.type "Exception",.type "BaseException",.type "object"],38,u "PageError",true,[],[r 52,r 64],false,J,false⟩,#[(I (r 22)),J,(I (ak "PageError" 196)),(I (ak "PageError" 204)),(I (.builtin "ValueError.__new__")),(I (.bool true))]⟩,bU "getset_descriptor" [ak "__weakref__" 219,r 39,.builtin "ExceptionGroup.__weakref__",.none],bU "super" [r 39,r 39,r 39],bU "builtin_function_or_method" [.builtin "object.__init_subclass__",r 39],yh,iQ,d4 [k "__module__" 231 jj,k "__qualname__" 233 (ak "BadArgument" 232),k "__firstlineno__" 235 (.int 9 234),k "__static_attributes__" 236 (r 50)] 4,aX,cq,bU "code" [ak "BadArgument" 226,ak "BadArgument" 227,c4 228,i 9,i 0,i 0,i 0,i 0,r 46,.bool false,i 181,r 47,.none,.none,.none,.none,i 229,i 9,c4 230],fr [(I (r 48)),(I (r 3)),(I (r 45)),J,(I jj),J,(I (r 0))],aX,d4 [k "__module__" 231 jj,k "__firstlineno__" 235 (.int 9 234),k "__static_attributes__" 236 (r 50),k "__doc__" 237 .none] 2,fun P=>⟨(.type "type"),J,.cls ⟨u "BadArgument",[r 39],[r 52,r 39,.type "ValueError",.type "Exception",.type "BaseException",.type "object"],51,u "BadArgument",true,[],[],false,J,false⟩,#[(I (r 43)),J,(I (ak "BadArgument" 224)),(I (ak "BadArgument" 232)),(I (.builtin "ValueError.__new__")),(I (.bool true))]⟩,bU "super" [r 52,r 52,r 52],bU "builtin_function_or_method" [.builtin "object.__init_subclass__",r 52],yh,iQ,d4 [k "__module__" 247 jj,k "__qualname__" 249 (ak "BadUnit" 248),k "__firstlineno__" 251 (.int 11 250),k "__static_attributes__" 252 (r 62)] 4,aX,cq,bU "code" [ak "BadUnit" 242,ak "BadUnit" 243,c4 244,i 11,i 0,i 0,i 0,i 0,r 58,.bool false,i 181,r 59,.none,.none,.none,.none,i 245,i 11,c4 246],fr [(I (r 60)),(I (r 3)),(I (r 57)),J,(I jj),J,(I (r 0))],aX,d4 [k "__module__" 247 jj,k "__firstlineno__" 251 (.int 11 250),k "__static_attributes__" 252 (r 62),k "__doc__" 253 .none] 2,fun P=>⟨(.type "type"),J,.cls ⟨u "BadUnit",[r 39],[r 64,r 39,.type "ValueError",.type "Exception",.type "BaseException",.type "object"],63,u "BadUnit",true,[],[],false,J,false⟩,#[(I (r 55)),J,(I (ak "BadUnit" 240)),(I (ak "BadUnit" 248)),(I (.builtin "ValueError.__new__")),(I (.bool true))]⟩,bU "super" [r 64,r 64,r 64],bU "builtin_function_or_method" [.builtin "object.__init_subclass__",r 64]] P
def yi:=bU "tuple_iterator" [.none,i 4]
def e1(P:Params):BT:=c6 ((((t1 P).ins 3 (d4 [k "__name__" 165 fq,k "__doc__" 166 .none,k "__package__" 167 .none,k "__loader__" 168 (.builtin "__main__.__loader__#opaque"),k "__spec__" 169 .none,k "__annotations__" 170 (r 6),k "__builtins__" 171 (r 4),k "__file__" 173 (c4 172),k "__cached__" 174 .none,k "_wall" 193 (r 21),k "PageError" 223 (r 39),k "BadArgument" 239 (r 52),k "BadUnit" 255 (r 64),k "Overflow" 271 (r 76),k "UNITY" 275 (.int 65536 274),k "MAX_DIMEN" 281 (.int 1073741823 280),k "MAX_NUMBER" 287 (.int 2147483647 286),k "INF_BAD" 289 (.int 10000 288),k "NORMAL" 294 (.int 0 290),k "FIL" 295 (.int 1 291),k "FILL" 296 (.int 2 292),k "FILLL" 297 (.int 3 293),k "is_whole" 306 (r 89),k "check_whole" 313 (r 96),k "check_number" 320 (r 103),k "check_dimen" 327 (r 110),k "rounded" 335 (r 117),k "reading" 343 (r 124),k "decimal_text" 356 (r 131),k "times" 365 (r 138),k "times_scaled" 366 (r 138),k "badness" 375 (r 145),k "order_text" 382 (r 152),k "part_text" 391 (r 159)] 34 P)).ins 12 (cD [i 1,i 0,r 20,i 5,i 0,r 27,i 9,i 0,r 48,i 11,i 0,r 60,i 13,i 0,r 72,i 21,i 0,r 88,i 23,i 0,r 95,i 27,i 0,r 102,i 31,i 0,r 109,i 35,i 0,r 116,i 41,i 0,r 123,i 43,i 0,r 130,i 54,i 0,r 137,i 57,i 0,r 144,i 73,i 0,r 151,i 75,i 0,r 158] P)).ins 39 (⟨(.type "type"),J,.cls ⟨u "PageError",[.type "ValueError"],[r 39,.type "ValueError",.type "Exception",.type "BaseException",.type "object"],38,u "PageError",true,[],[r 52,r 64,r 76],false,J,false⟩,#[(I (r 22)),J,(I (ak "PageError" 196)),(I (ak "PageError" 204)),(I (.builtin "ValueError.__new__")),(I (.bool true))]⟩)) 67 [yh,iQ,d4 [k "__module__" 263 jj,k "__qualname__" 265 (ak "Overflow" 264),k "__firstlineno__" 267 (.int 13 266),k "__static_attributes__" 268 (r 74)] 4,aX,cq,bU "code" [ak "Overflow" 258,ak "Overflow" 259,c4 260,i 13,i 0,i 0,i 0,i 0,r 70,.bool false,i 181,r 71,.none,.none,.none,.none,i 261,i 13,c4 262],fr [(I (r 72)),(I (r 3)),(I (r 69)),J,(I jj),J,(I (r 0))],aX,d4 [k "__module__" 263 jj,k "__firstlineno__" 267 (.int 13 266),k "__static_attributes__" 268 (r 74),k "__doc__" 269 .none] 2,fun P=>⟨(.type "type"),J,.cls ⟨u "Overflow",[r 39],[r 76,r 39,.type "ValueError",.type "Exception",.type "BaseException",.type "object"],75,u "Overflow",true,[],[],false,J,false⟩,#[(I (r 67)),J,(I (ak "Overflow" 256)),(I (ak "Overflow" 264)),(I (.builtin "ValueError.__new__")),(I (.bool true))]⟩,bU "super" [r 76,r 76,r 76],bU "builtin_function_or_method" [.builtin "object.__init_subclass__",r 76],bW [.int 0 290,.int 1 291,.int 2 292,.int 3 293],yi,aX,bU "StopIteration" [r 81,.none,.none,.none,.bool false,.none],aX,cq,bW [ak "value" 301,ak "low" 302,ak "high" 303],aX,cE (bq (st 12) "is_whole"),co "is_whole" "is_whole" 298 21 3 83 84 85 86 87 304,cJ (st 12) "is_whole" fq (r 88),aX,cq,bW [ak "value" 310],aX,cE (bq (st 13) "check_whole"),co "check_whole" "check_whole" 307 23 1 90 91 92 93 94 311,cJ (st 13) "check_whole" fq (r 95),aX,cq,bW [ak "value" 317],aX,cE (bq (st 14) "check_number"),co "check_number" "check_number" 314 27 1 97 98 99 100 101 318,cJ (st 14) "check_number" fq (r 102),aX,cq,bW [ak "value" 324],aX,cE (bq (st 15) "check_dimen"),co "check_dimen" "check_dimen" 321 31 1 104 105 106 107 108 325,cJ (st 15) "check_dimen" fq (r 109),aX,cq,bW [ak "number" 331,ak "by" 332],aX,cE (bq (st 16) "rounded"),co "rounded" "rounded" 328 35 2 111 112 113 114 115 333,cJ (st 16) "rounded" fq (r 116),aX,cq,bW [ak "whole" 339,ak "scale" 340],aX,cE (bq (st 17) "reading"),co "reading" "reading" 336 41 2 118 119 120 121 122 341,cJ (st 17) "reading" fq (r 123),aX,cq,bW [ak "value" 347,ak "sign" 348,ak "points" 349,ak "part" 350,ak "scale" 351,ak "near" 352,ak "places" 353],aX,cE (bq (st 18) "decimal_text"),co "decimal_text" "decimal_text" 344 43 1 125 126 127 128 129 354,cJ (st 18) "decimal_text" fq (r 130),aX,cq,bW [ak "count" 360,ak "value" 361,ak "more" 362],aX,cE (bq (st 19) "times"),co "times" "times" 357 54 3 132 133 134 135 136 363,cJ (st 19) "times" fq (r 137),aX,cq,bW [ak "excess" 370,ak "total" 371,ak "ratio" 372],aX,cE (bq (st 21) "badness"),co "badness" "badness" 367 57 2 139 140 141 142 143 373,cJ (st 21) "badness" fq (r 144),aX,cq,bW [ak "order" 379],aX,cE (bq (st 22) "order_text"),co "order_text" "order_text" 376 73 1 146 147 148 149 150 380,cJ (st 22) "order_text" fq (r 151),aX,cq,bW [ak "value" 386,ak "order" 387,ak "unit" 388],aX,cE (bq (st 23) "part_text"),co "part_text" "part_text" 383 75 3 153 154 155 156 157 389,cJ (st 23) "part_text" fq (r 158)] P
def DA:=[k "__name__" 165 eU,k "__doc__" 166 .none,k "__package__" 167 .none,k "__loader__" 168 (.builtin "__main__.__loader__#opaque"),k "__spec__" 169 .none,k "__annotations__" 170 (r 6),k "__builtins__" 171 (r 4),k "__file__" 173 (c4 172),k "__cached__" 174 .none,k "_wall" 193 (r 21),k "PageError" 223 (r 39),k "BadArgument" 239 (r 52),k "BadUnit" 255 (r 64),k "Overflow" 271 (r 76),k "UNITY" 275 (.int 65536 274),k "MAX_DIMEN" 281 (.int 1073741823 280),k "MAX_NUMBER" 287 (.int 2147483647 286),k "INF_BAD" 289 (.int 10000 288),k "NORMAL" 294 (.int 0 290),k "FIL" 295 (.int 1 291),k "FILL" 296 (.int 2 292),k "FILLL" 297 (.int 3 293),k "is_whole" 306 (r 89),k "check_whole" 313 (r 96),k "check_number" 320 (r 103),k "check_dimen" 327 (r 110),k "rounded" 335 (r 117),k "reading" 343 (r 124),k "decimal_text" 356 (r 131),k "times" 365 (r 138),k "times_scaled" 366 (r 138),k "badness" 375 (r 145),k "order_text" 382 (r 152),k "part_text" 391 (r 159),k "Glue" 491 (r 227),k "CHAR" 502 (.int 0 494),k "LIGATURE" 503 (.int 1 495),k "HBOX" 504 (.int 2 496),k "VBOX" 505 (.int 3 497),k "RULE" 506 (.int 4 498),k "KERN" 507 (.int 5 499),k "GLUE" 508 (.int 6 500),k "PENALTY" 509 (.int 7 501),k "DISC" 517 (.int 8 510),k "MARK" 518 (.int 9 511),k "INSERT" 519 (.int 10 512),k "ADJUST" 520 (.int 11 513),k "MATH" 521 (.int 12 514),k "SPECIAL" 522 (.int 13 515),k "UNSET" 523 (.int 14 516)]
def DB:=bU "tuple_iterator" [.none,i 7]
def t3(P:Params):BT:=c6 (((e1 P).ins 3 (d4 DA 50 P)).ins 12 (cD [i 1,i 0,r 20,i 5,i 0,r 27,i 9,i 0,r 48,i 11,i 0,r 60,i 13,i 0,r 72,i 21,i 0,r 88,i 23,i 0,r 95,i 27,i 0,r 102,i 31,i 0,r 109,i 35,i 0,r 116,i 41,i 0,r 123,i 43,i 0,r 130,i 54,i 0,r 137,i 57,i 0,r 144,i 73,i 0,r 151,i 75,i 0,r 158,i 77,i 0,r 165] P)) 160 [aX,iQ,d4 [k "__module__" 399 fq,k "__qualname__" 401 (ak "Glue" 400),k "__firstlineno__" 403 (.int 77 402),k "__init__" 420 (r 174),k "parts" 427 (r 181),k "same" 435 (r 188),k "added" 443 (r 195),k "times" 453 (r 202),k "over" 461 (r 209),k "negated" 468 (r 216),k "text" 478 (r 224),k "__static_attributes__" 484 (r 225)] 12,aX,cD [i 79,i 4,r 173,i 88,i 4,r 180,i 91,i 4,r 187,i 94,i 4,r 194,i 97,i 4,r 201,i 101,i 4,r 208,i 104,i 4,r 215,i 107,i 4,r 223],bU "code" [ak "Glue" 394,ak "Glue" 395,c4 396,i 77,i 0,i 0,i 0,i 0,r 163,.bool false,i 181,r 164,.none,.none,.none,.none,i 397,i 77,c4 398],fr [(I (r 165)),(I (r 3)),(I (r 162)),J,(I fq),J,(I (r 0))],bW [.int 0 404,.int 0 405,.int 0 406,.int 0 407,.int 0 408],aX,cq,bW [ak "self" 412,ak "width" 413,ak "stretch" 414,ak "stretch_order" 415,ak "shrink" 416,ak "shrink_order" 417],aX,cE (bq (mt 24 0) "Glue.__init__"),co "__init__" "Glue.__init__" 409 79 6 168 169 170 171 172 418,fz (fn (mt 24 0) "Glue.__init__" 3 (r 167) .none .none fq J (r 173) .none 0),aX,cq,bW [ak "self" 424],aX,cE (bq (mt 24 1) "Glue.parts"),co "parts" "Glue.parts" 421 88 1 175 176 177 178 179 425,cJ (mt 24 1) "Glue.parts" fq (r 180),aX,cq,bW [ak "self" 431,ak "other" 432],aX,cE (bq (mt 24 2) "Glue.same"),co "same" "Glue.same" 428 91 2 182 183 184 185 186 433,cJ (mt 24 2) "Glue.same" fq (r 187),aX,cq,bW [ak "self" 439,ak "other" 440],aX,cE (bq (mt 24 3) "Glue.added"),co "added" "Glue.added" 436 94 2 189 190 191 192 193 441,cJ (mt 24 3) "Glue.added" fq (r 194),aX,cq,bW [ak "self" 447,ak "count" 448,ak "stretch" 449,ak "shrink" 450],aX,cE (bq (mt 24 4) "Glue.times"),co "times" "Glue.times" 444 97 2 196 197 198 199 200 451,cJ (mt 24 4) "Glue.times" fq (r 201),aX,cq,bW [ak "self" 457,ak "by" 458],aX,cE (bq (mt 24 5) "Glue.over"),co "over" "Glue.over" 454 101 2 203 204 205 206 207 459,cJ (mt 24 5) "Glue.over" fq (r 208),aX,cq,bW [ak "self" 465],aX,cE (bq (mt 24 6) "Glue.negated"),co "negated" "Glue.negated" 462 104 1 210 211 212 213 214 466,cJ (mt 24 6) "Glue.negated" fq (r 215),bW [ak "pt" 469],aX,cq,bW [ak "self" 473,ak "unit" 474,ak "found" 475],aX,cE (bq (mt 24 7) "Glue.text"),co "text" "Glue.text" 470 107 2 218 219 220 221 222 476,fz (fn (mt 24 7) "Glue.text" 3 (r 217) .none .none fq J (r 223) .none 0),bW [ak "shrink" 479,ak "shrink_order" 480,ak "stretch" 481,ak "stretch_order" 482,ak "width" 483],d4 [k "__module__" 399 fq,k "__firstlineno__" 403 (.int 77 402),k "__init__" 420 (r 174),k "parts" 427 (r 181),k "same" 435 (r 188),k "added" 443 (r 195),k "times" 453 (r 202),k "over" 461 (r 209),k "negated" 468 (r 216),k "text" 478 (r 224),k "__static_attributes__" 484 (r 225),k "__dict__" 486 (r 228),k "__weakref__" 488 (r 229),k "__doc__" 489 .none] 4,fun P=>⟨(.type "type"),J,.cls ⟨u "Glue",[.type "object"],[r 227,.type "object"],226,u "Glue",true,[],[],false,J,false⟩,#[J,J,(I (ak "Glue" 392)),(I (ak "Glue" 400)),(I (.builtin "object.__new__")),(I (.bool true))]⟩,bU "getset_descriptor" [ak "__dict__" 485,r 227,.builtin "function.__dict__",.builtin "function.__dict__#set"],bU "getset_descriptor" [ak "__weakref__" 487,r 227,.builtin "ExceptionGroup.__weakref__",.none],bU "super" [r 227,r 227,r 227],bU "builtin_function_or_method" [.builtin "object.__init_subclass__",r 227],bW [.int 0 494,.int 1 495,.int 2 496,.int 3 497,.int 4 498,.int 5 499,.int 6 500,.int 7 501],bU "tuple_iterator" [.none,i 8],aX,bU "StopIteration" [r 234,.none,.none,.none,.bool false,.none],bW [.int 8 510,.int 9 511,.int 10 512,.int 11 513,.int 12 514,.int 13 515,.int 14 516],DB,aX,bU "StopIteration" [r 238,.none,.none,.none,.bool false,.none]] P
def DC:=(DA++[k "NATURAL" 527 (.int 0 524),k "STRETCHED" 528 (.int 1 525),k "SHRUNK" 529 (.int 2 526),k "FONT_KERN" 534 (.int 0 530),k "EXPLICIT" 535 (.int 1 531),k "ACCENT_KERN" 536 (.int 2 532),k "MU_KERN" 537 (.int 3 533),k "PLAIN" 545 (.int 0 538),k "ALEADERS" 546 (.int 1 539),k "CLEADERS" 547 (.int 2 540),k "XLEADERS" 548 (.int 3 541),k "MU_SKIP" 549 (.int 4 542),k "NONSCRIPT" 550 (.int 5 543),k "NAMED" 551 (.int 100 544),k "check_short" 559 (r 258),k "Box" 600 (r 275)])
def lW(P:Params):BT:=c6 (((t3 P).ins 3 (d4 DC 66 P)).ins 12 (cD [i 1,i 0,r 20,i 5,i 0,r 27,i 9,i 0,r 48,i 11,i 0,r 60,i 13,i 0,r 72,i 21,i 0,r 88,i 23,i 0,r 95,i 27,i 0,r 102,i 31,i 0,r 109,i 35,i 0,r 116,i 41,i 0,r 123,i 43,i 0,r 130,i 54,i 0,r 137,i 57,i 0,r 144,i 73,i 0,r 151,i 75,i 0,r 158,i 77,i 0,r 165,i 120,i 0,r 257,i 125,i 0,r 264] P)) 240 [bW [.int 0 524,.int 1 525,.int 2 526],bU "tuple_iterator" [.none,i 3],aX,bU "StopIteration" [r 242,.none,.none,.none,.bool false,.none],bW [.int 0 530,.int 1 531,.int 2 532,.int 3 533],yi,aX,bU "StopIteration" [r 246,.none,.none,.none,.bool false,.none],bW [.int 0 538,.int 1 539,.int 2 540,.int 3 541,.int 4 542,.int 5 543,.int 100 544],DB,aX,bU "StopIteration" [r 250,.none,.none,.none,.bool false,.none],aX,cq,bW [ak "items" 555,ak "node" 556],aX,cE (bq (st 31) "check_short"),co "check_short" "check_short" 552 120 1 252 253 254 255 256 557,cJ (st 31) "check_short" eU (r 257),aX,iQ,d4 [k "__module__" 567 eU,k "__qualname__" 569 (ak "Box" 568),k "__firstlineno__" 571 (.int 125 570),k "__init__" 583 (r 272),k "__static_attributes__" 593 (r 273)] 5,aX,cD [i 127,i 4,r 271],bU "code" [ak "Box" 562,ak "Box" 563,c4 564,i 125,i 0,i 0,i 0,i 0,r 262,.bool false,i 181,r 263,.none,.none,.none,.none,i 565,i 125,c4 566],fr [(I (r 264)),(I (r 3)),(I (r 261)),J,(I eU),J,(I (r 0))],aX,cq,bW [ak "self" 575,ak "kind" 576,ak "width" 577,ak "height" 578,ak "depth" 579,ak "items" 580],aX,cE (bq (mt 32 0) "Box.__init__"),co "__init__" "Box.__init__" 572 127 6 266 267 268 269 270 581,cJ (mt 32 0) "Box.__init__" eU (r 271),bW [ak "depth" 584,ak "height" 585,ak "items" 586,ak "kind" 587,ak "order" 588,ak "ratio" 589,ak "shift" 590,ak "sign" 591,ak "width" 592],d4 [k "__module__" 567 eU,k "__firstlineno__" 571 (.int 125 570),k "__init__" 583 (r 272),k "__static_attributes__" 593 (r 273),k "__dict__" 595 (r 276),k "__weakref__" 597 (r 277),k "__doc__" 598 .none] 4,fun P=>⟨(.type "type"),J,.cls ⟨u "Box",[.type "object"],[r 275,.type "object"],274,u "Box",true,[],[],false,J,false⟩,#[J,J,(I (ak "Box" 560)),(I (ak "Box" 568)),(I (.builtin "object.__new__")),(I (.bool true))]⟩,bU "getset_descriptor" [ak "__dict__" 594,r 275,.builtin "function.__dict__",.builtin "function.__dict__#set"],bU "getset_descriptor" [ak "__weakref__" 596,r 275,.builtin "ExceptionGroup.__weakref__",.none],bU "super" [r 275,r 275,r 275],bU "builtin_function_or_method" [.builtin "object.__init_subclass__",r 275]] P
def r7(P:Params):BT:=c6 (((lW P).ins 3 (d4 (DC++[k "Kern" 632 (r 296),k "Skip" 666 (r 318),k "Penalty" 696 (r 339)]) 69 P)).ins 12 (cD [i 1,i 0,r 20,i 5,i 0,r 27,i 9,i 0,r 48,i 11,i 0,r 60,i 13,i 0,r 72,i 21,i 0,r 88,i 23,i 0,r 95,i 27,i 0,r 102,i 31,i 0,r 109,i 35,i 0,r 116,i 41,i 0,r 123,i 43,i 0,r 130,i 54,i 0,r 137,i 57,i 0,r 144,i 73,i 0,r 151,i 75,i 0,r 158,i 77,i 0,r 165,i 120,i 0,r 257,i 125,i 0,r 264,i 139,i 0,r 285,i 147,i 0,r 306,i 160,i 0,r 328] P)) 280 [aX,iQ,d4 [k "__module__" 608 eU,k "__qualname__" 610 (ak "Kern" 609),k "__firstlineno__" 612 (.int 139 611),k "kind" 613 (.int 5 499),k "__init__" 622 (r 293),k "__static_attributes__" 625 (r 294)] 6,aX,cD [i 142,i 4,r 292],bU "code" [ak "Kern" 603,ak "Kern" 604,c4 605,i 139,i 0,i 0,i 0,i 0,r 283,.bool false,i 181,r 284,.none,.none,.none,.none,i 606,i 139,c4 607],fr [(I (r 285)),(I (r 3)),(I (r 282)),J,(I eU),J,(I (r 0))],aX,cq,bW [ak "self" 617,ak "width" 618,ak "sort" 619],aX,cE (bq (mt 33 1) "Kern.__init__"),co "__init__" "Kern.__init__" 614 142 3 287 288 289 290 291 620,cJ (mt 33 1) "Kern.__init__" eU (r 292),bW [ak "sort" 623,ak "width" 624],d4 [k "__module__" 608 eU,k "__firstlineno__" 612 (.int 139 611),k "kind" 613 (.int 5 499),k "__init__" 622 (r 293),k "__static_attributes__" 625 (r 294),k "__dict__" 627 (r 297),k "__weakref__" 629 (r 298),k "__doc__" 630 .none] 4,fun P=>⟨(.type "type"),J,.cls ⟨u "Kern",[.type "object"],[r 296,.type "object"],295,u "Kern",true,[],[],false,J,false⟩,#[J,J,(I (ak "Kern" 601)),(I (ak "Kern" 609)),(I (.builtin "object.__new__")),(I (.bool true))]⟩,bU "getset_descriptor" [ak "__dict__" 626,r 296,.builtin "function.__dict__",.builtin "function.__dict__#set"],bU "getset_descriptor" [ak "__weakref__" 628,r 296,.builtin "ExceptionGroup.__weakref__",.none],bU "super" [r 296,r 296,r 296],bU "builtin_function_or_method" [.builtin "object.__init_subclass__",r 296],aX,iQ,d4 [k "__module__" 640 eU,k "__qualname__" 642 (ak "Skip" 641),k "__firstlineno__" 644 (.int 147 643),k "kind" 645 (.int 6 500),k "__init__" 655 (r 315),k "__static_attributes__" 659 (r 316)] 6,aX,cD [i 150,i 4,r 314],bU "code" [ak "Skip" 635,ak "Skip" 636,c4 637,i 147,i 0,i 0,i 0,i 0,r 304,.bool false,i 181,r 305,.none,.none,.none,.none,i 638,i 147,c4 639],fr [(I (r 306)),(I (r 3)),(I (r 303)),J,(I eU),J,(I (r 0))],bW [.none],aX,cq,bW [ak "self" 649,ak "glue" 650,ak "sort" 651,ak "leader" 652],aX,cE (bq (mt 34 1) "Skip.__init__"),co "__init__" "Skip.__init__" 646 150 4 309 310 311 312 313 653,fz (fn (mt 34 1) "Skip.__init__" 3 (r 308) .none .none eU J (r 314) .none 0),bW [ak "glue" 656,ak "leader" 657,ak "sort" 658],d4 [k "__module__" 640 eU,k "__firstlineno__" 644 (.int 147 643),k "kind" 645 (.int 6 500),k "__init__" 655 (r 315),k "__static_attributes__" 659 (r 316),k "__dict__" 661 (r 319),k "__weakref__" 663 (r 320),k "__doc__" 664 .none] 4,fun P=>⟨(.type "type"),J,.cls ⟨u "Skip",[.type "object"],[r 318,.type "object"],317,u "Skip",true,[],[],false,J,false⟩,#[J,J,(I (ak "Skip" 633)),(I (ak "Skip" 641)),(I (.builtin "object.__new__")),(I (.bool true))]⟩,bU "getset_descriptor" [ak "__dict__" 660,r 318,.builtin "function.__dict__",.builtin "function.__dict__#set"],bU "getset_descriptor" [ak "__weakref__" 662,r 318,.builtin "ExceptionGroup.__weakref__",.none],bU "super" [r 318,r 318,r 318],bU "builtin_function_or_method" [.builtin "object.__init_subclass__",r 318],aX,iQ,d4 [k "__module__" 674 eU,k "__qualname__" 676 (ak "Penalty" 675),k "__firstlineno__" 678 (.int 160 677),k "kind" 679 (.int 7 501),k "__init__" 687 (r 336),k "__static_attributes__" 689 (r 337)] 6,aX,cD [i 163,i 4,r 335],bU "code" [ak "Penalty" 669,ak "Penalty" 670,c4 671,i 160,i 0,i 0,i 0,i 0,r 326,.bool false,i 181,r 327,.none,.none,.none,.none,i 672,i 160,c4 673],fr [(I (r 328)),(I (r 3)),(I (r 325)),J,(I eU),J,(I (r 0))],aX,cq,bW [ak "self" 683,ak "value" 684],aX,cE (bq (mt 35 1) "Penalty.__init__"),co "__init__" "Penalty.__init__" 680 163 2 330 331 332 333 334 685,cJ (mt 35 1) "Penalty.__init__" eU (r 335),bW [ak "value" 688],d4 [k "__module__" 674 eU,k "__firstlineno__" 678 (.int 160 677),k "kind" 679 (.int 7 501),k "__init__" 687 (r 336),k "__static_attributes__" 689 (r 337),k "__dict__" 691 (r 340),k "__weakref__" 693 (r 341),k "__doc__" 694 .none] 4,fun P=>⟨(.type "type"),J,.cls ⟨u "Penalty",[.type "object"],[r 339,.type "object"],338,u "Penalty",true,[],[],false,J,false⟩,#[J,J,(I (ak "Penalty" 667)),(I (ak "Penalty" 675)),(I (.builtin "object.__new__")),(I (.bool true))]⟩,bU "getset_descriptor" [ak "__dict__" 690,r 339,.builtin "function.__dict__",.builtin "function.__dict__#set"],bU "getset_descriptor" [ak "__weakref__" 692,r 339,.builtin "ExceptionGroup.__weakref__",.none],bU "super" [r 339,r 339,r 339],bU "builtin_function_or_method" [.builtin "object.__init_subclass__",r 339]] P
def DD:=[k "__name__" 165 ed,k "__doc__" 166 .none,k "__package__" 167 .none,k "__loader__" 168 (.builtin "__main__.__loader__#opaque"),k "__spec__" 169 .none,k "__annotations__" 170 (r 6),k "__builtins__" 171 (r 4),k "__file__" 173 (c4 172),k "__cached__" 174 .none,k "_wall" 193 (r 21),k "PageError" 223 (r 39),k "BadArgument" 239 (r 52),k "BadUnit" 255 (r 64),k "Overflow" 271 (r 76),k "UNITY" 275 (.int 65536 274),k "MAX_DIMEN" 281 (.int 1073741823 280),k "MAX_NUMBER" 287 (.int 2147483647 286),k "INF_BAD" 289 (.int 10000 288),k "NORMAL" 294 (.int 0 290),k "FIL" 295 (.int 1 291),k "FILL" 296 (.int 2 292),k "FILLL" 297 (.int 3 293),k "is_whole" 306 (r 89),k "check_whole" 313 (r 96),k "check_number" 320 (r 103),k "check_dimen" 327 (r 110),k "rounded" 335 (r 117),k "reading" 343 (r 124),k "decimal_text" 356 (r 131),k "times" 365 (r 138),k "times_scaled" 366 (r 138),k "badness" 375 (r 145),k "order_text" 382 (r 152),k "part_text" 391 (r 159),k "Glue" 491 (r 227),k "CHAR" 502 (.int 0 494),k "LIGATURE" 503 (.int 1 495),k "HBOX" 504 (.int 2 496),k "VBOX" 505 (.int 3 497),k "RULE" 506 (.int 4 498),k "KERN" 507 (.int 5 499),k "GLUE" 508 (.int 6 500),k "PENALTY" 509 (.int 7 501),k "DISC" 517 (.int 8 510),k "MARK" 518 (.int 9 511),k "INSERT" 519 (.int 10 512),k "ADJUST" 520 (.int 11 513),k "MATH" 521 (.int 12 514),k "SPECIAL" 522 (.int 13 515),k "UNSET" 523 (.int 14 516),k "NATURAL" 527 (.int 0 524),k "STRETCHED" 528 (.int 1 525),k "SHRUNK" 529 (.int 2 526),k "FONT_KERN" 534 (.int 0 530),k "EXPLICIT" 535 (.int 1 531),k "ACCENT_KERN" 536 (.int 2 532),k "MU_KERN" 537 (.int 3 533),k "PLAIN" 545 (.int 0 538),k "ALEADERS" 546 (.int 1 539),k "CLEADERS" 547 (.int 2 540),k "XLEADERS" 548 (.int 3 541),k "MU_SKIP" 549 (.int 4 542),k "NONSCRIPT" 550 (.int 5 543),k "NAMED" 551 (.int 100 544),k "check_short" 559 (r 258),k "Box" 600 (r 275),k "Kern" 632 (r 296),k "Skip" 666 (r 318),k "Penalty" 696 (r 339),k "Disc" 730 (r 360),k "Mark" 760 (r 381),k "width_of" 766 (r 390),k "EJECT" 772 (.int (-10000) 770),k "FORBID" 773 (.int 10000 771),k "VERY_LOOSE" 778 (.int 0 774),k "LOOSE_FIT" 779 (.int 1 775),k "DECENT_FIT" 780 (.int 2 776),k "TIGHT_FIT" 781 (.int 3 777),k "PLAIN_BREAK" 784 (.int 0 782),k "HYPHEN_BREAK" 785 (.int 1 783),k "TOO_LONG" 788 (.int 10001 787),k "WORST_LINE" 790 (.int 100000000 789),k "NO_SUMS" 797 (r 403)]
def DE:=bU "tuple_iterator" [.none,i 2]
def pb(P:Params):BT:=c6 (((r7 P).ins 3 (d4 DD 83 P)).ins 12 (cD [i 1,i 0,r 20,i 5,i 0,r 27,i 9,i 0,r 48,i 11,i 0,r 60,i 13,i 0,r 72,i 21,i 0,r 88,i 23,i 0,r 95,i 27,i 0,r 102,i 31,i 0,r 109,i 35,i 0,r 116,i 41,i 0,r 123,i 43,i 0,r 130,i 54,i 0,r 137,i 57,i 0,r 144,i 73,i 0,r 151,i 75,i 0,r 158,i 77,i 0,r 165,i 120,i 0,r 257,i 125,i 0,r 264,i 139,i 0,r 285,i 147,i 0,r 306,i 160,i 0,r 328,i 165,i 0,r 349,i 172,i 0,r 370,i 177,i 0,r 389] P)) 344 [aX,iQ,d4 [k "__module__" 704 eU,k "__qualname__" 706 (ak "Disc" 705),k "__firstlineno__" 708 (.int 165 707),k "kind" 709 (.int 8 510),k "__init__" 719 (r 357),k "__static_attributes__" 723 (r 358)] 6,aX,cD [i 168,i 4,r 356],bU "code" [ak "Disc" 699,ak "Disc" 700,c4 701,i 165,i 0,i 0,i 0,i 0,r 347,.bool false,i 181,r 348,.none,.none,.none,.none,i 702,i 165,c4 703],fr [(I (r 349)),(I (r 3)),(I (r 346)),J,(I eU),J,(I (r 0))],aX,cq,bW [ak "self" 713,ak "pre" 714,ak "post" 715,ak "middle" 716],aX,cE (bq (mt 36 1) "Disc.__init__"),co "__init__" "Disc.__init__" 710 168 4 351 352 353 354 355 717,cJ (mt 36 1) "Disc.__init__" eU (r 356),bW [ak "middle" 720,ak "post" 721,ak "pre" 722],d4 [k "__module__" 704 eU,k "__firstlineno__" 708 (.int 165 707),k "kind" 709 (.int 8 510),k "__init__" 719 (r 357),k "__static_attributes__" 723 (r 358),k "__dict__" 725 (r 361),k "__weakref__" 727 (r 362),k "__doc__" 728 .none] 4,fun P=>⟨(.type "type"),J,.cls ⟨u "Disc",[.type "object"],[r 360,.type "object"],359,u "Disc",true,[],[],false,J,false⟩,#[J,J,(I (ak "Disc" 697)),(I (ak "Disc" 705)),(I (.builtin "object.__new__")),(I (.bool true))]⟩,bU "getset_descriptor" [ak "__dict__" 724,r 360,.builtin "function.__dict__",.builtin "function.__dict__#set"],bU "getset_descriptor" [ak "__weakref__" 726,r 360,.builtin "ExceptionGroup.__weakref__",.none],bU "super" [r 360,r 360,r 360],bU "builtin_function_or_method" [.builtin "object.__init_subclass__",r 360],aX,iQ,d4 [k "__module__" 738 eU,k "__qualname__" 740 (ak "Mark" 739),k "__firstlineno__" 742 (.int 172 741),k "kind" 743 (.int 9 511),k "__init__" 751 (r 378),k "__static_attributes__" 753 (r 379)] 6,aX,cD [i 175,i 4,r 377],bU "code" [ak "Mark" 733,ak "Mark" 734,c4 735,i 172,i 0,i 0,i 0,i 0,r 368,.bool false,i 181,r 369,.none,.none,.none,.none,i 736,i 172,c4 737],fr [(I (r 370)),(I (r 3)),(I (r 367)),J,(I eU),J,(I (r 0))],aX,cq,bW [ak "self" 747,ak "tokens" 748],aX,cE (bq (mt 37 1) "Mark.__init__"),co "__init__" "Mark.__init__" 744 175 2 372 373 374 375 376 749,cJ (mt 37 1) "Mark.__init__" eU (r 377),bW [ak "tokens" 752],d4 [k "__module__" 738 eU,k "__firstlineno__" 742 (.int 172 741),k "kind" 743 (.int 9 511),k "__init__" 751 (r 378),k "__static_attributes__" 753 (r 379),k "__dict__" 755 (r 382),k "__weakref__" 757 (r 383),k "__doc__" 758 .none] 4,fun P=>⟨(.type "type"),J,.cls ⟨u "Mark",[.type "object"],[r 381,.type "object"],380,u "Mark",true,[],[],false,J,false⟩,#[J,J,(I (ak "Mark" 731)),(I (ak "Mark" 739)),(I (.builtin "object.__new__")),(I (.bool true))]⟩,bU "getset_descriptor" [ak "__dict__" 754,r 381,.builtin "function.__dict__",.builtin "function.__dict__#set"],bU "getset_descriptor" [ak "__weakref__" 756,r 381,.builtin "ExceptionGroup.__weakref__",.none],bU "super" [r 381,r 381,r 381],bU "builtin_function_or_method" [.builtin "object.__init_subclass__",r 381],aX,cq,cE (bq (st 38) "width_of"),bU "code" [ak "width_of" 761,ak "width_of" 762,c4 763,i 177,i 1,i 0,i 0,i 3,r 386,.bool true,i 181,r 387,.none,.none,.none,r 388,i 764,i 177,c4 765],cJ (st 38) "width_of" eU (r 389),bW [(.int (-10000) 770),.int 10000 771],DE,aX,bU "StopIteration" [r 393,.none,.none,.none,.bool false,.none],bW [.int 0 774,.int 1 775,.int 2 776,.int 3 777],yi,aX,bU "StopIteration" [r 397,.none,.none,.none,.bool false,.none],bW [.int 0 782,.int 1 783],DE,aX,bU "StopIteration" [r 401,.none,.none,.none,.bool false,.none],bW [.int 0 791,.int 0 792,.int 0 793,.int 0 794,.int 0 795,.int 0 796]] P
def DF:=(DD++[k "Shape" 848 (r 434),k "Settings" 887 (r 455),k "Way" 924 (r 476)])
def yj(P:Params):BT:=c6 (((pb P).ins 3 (d4 DF 86 P)).ins 12 (cD [i 1,i 0,r 20,i 5,i 0,r 27,i 9,i 0,r 48,i 11,i 0,r 60,i 13,i 0,r 72,i 21,i 0,r 88,i 23,i 0,r 95,i 27,i 0,r 102,i 31,i 0,r 109,i 35,i 0,r 116,i 41,i 0,r 123,i 43,i 0,r 130,i 54,i 0,r 137,i 57,i 0,r 144,i 73,i 0,r 151,i 75,i 0,r 158,i 77,i 0,r 165,i 120,i 0,r 257,i 125,i 0,r 264,i 139,i 0,r 285,i 147,i 0,r 306,i 160,i 0,r 328,i 165,i 0,r 349,i 172,i 0,r 370,i 177,i 0,r 389,i 197,i 0,r 409,i 223,i 0,r 444,i 238,i 0,r 465] P)) 404 [aX,iQ,d4 [k "__module__" 805 ed,k "__qualname__" 807 (ak "Shape" 806),k "__firstlineno__" 809 (.int 197 808),k "__init__" 818 (r 417),k "special" 825 (r 424),k "line" 834 (r 431),k "__static_attributes__" 841 (r 432)] 7,aX,cD [i 199,i 4,r 416,i 209,i 4,r 423,i 214,i 4,r 430],bU "code" [ak "Shape" 800,ak "Shape" 801,c4 802,i 197,i 0,i 0,i 0,i 0,r 407,.bool false,i 181,r 408,.none,.none,.none,.none,i 803,i 197,c4 804],fr [(I (r 409)),(I (r 3)),(I (r 406)),J,(I ed),J,(I (r 0))],aX,bW [.int 0 810,.int 1 811,r 411,.int 0 812],aX,cq,cE (bq (mt 46 0) "Shape.__init__"),bU "code" [ak "__init__" 813,ak "Shape.__init__" 814,c4 815,i 199,i 6,i 0,i 0,i 3,r 413,.bool true,i 181,r 414,.none,.none,.none,r 415,i 816,i 199,c4 817],fz (fn (mt 46 0) "Shape.__init__" 3 (r 412) .none .none ed J (r 416) .none 0),aX,cq,bW [ak "self" 822],aX,cE (bq (mt 46 1) "Shape.special"),co "special" "Shape.special" 819 209 1 418 419 420 421 422 823,cJ (mt 46 1) "Shape.special" ed (r 423),aX,cq,bW [ak "self" 829,ak "number" 830,ak "is_hung" 831],aX,cE (bq (mt 46 2) "Shape.line"),co "line" "Shape.line" 826 214 2 425 426 427 428 429 832,cJ (mt 46 2) "Shape.line" ed (r 430),bW [ak "done" 835,ak "hang_after" 836,ak "hang_indent" 837,ak "narrow" 838,ak "rows" 839,ak "width" 840],d4 [k "__module__" 805 ed,k "__firstlineno__" 809 (.int 197 808),k "__init__" 818 (r 417),k "special" 825 (r 424),k "line" 834 (r 431),k "__static_attributes__" 841 (r 432),k "__dict__" 843 (r 435),k "__weakref__" 845 (r 436),k "__doc__" 846 .none] 4,fun P=>⟨(.type "type"),J,.cls ⟨u "Shape",[.type "object"],[r 434,.type "object"],433,u "Shape",true,[],[],false,J,false⟩,#[J,J,(I (ak "Shape" 798)),(I (ak "Shape" 806)),(I (.builtin "object.__new__")),(I (.bool true))]⟩,bU "getset_descriptor" [ak "__dict__" 842,r 434,.builtin "function.__dict__",.builtin "function.__dict__#set"],bU "getset_descriptor" [ak "__weakref__" 844,r 434,.builtin "ExceptionGroup.__weakref__",.none],bU "super" [r 434,r 434,r 434],bU "builtin_function_or_method" [.builtin "object.__init_subclass__",r 434],aX,iQ,d4 [k "__module__" 856 ed,k "__qualname__" 858 (ak "Settings" 857),k "__firstlineno__" 860 (.int 223 859),k "__init__" 867 (r 452),k "__static_attributes__" 880 (r 453)] 5,aX,cD [i 225,i 4,r 451],bU "code" [ak "Settings" 851,ak "Settings" 852,c4 853,i 223,i 0,i 0,i 0,i 0,r 442,.bool false,i 181,r 443,.none,.none,.none,.none,i 854,i 223,c4 855],fr [(I (r 444)),(I (r 3)),(I (r 441)),J,(I ed),J,(I (r 0))],aX,cq,bW [ak "self" 864],aX,cE (bq (mt 47 0) "Settings.__init__"),co "__init__" "Settings.__init__" 861 225 1 446 447 448 449 450 865,cJ (mt 47 0) "Settings.__init__" ed (r 451),bW [ak "adjacent" 868,ak "double_hyphen" 869,ak "emergency" 870,ak "ex_hyphen_penalty" 871,ak "final_hyphen" 872,ak "hyphen_penalty" 873,ak "left_skip" 874,ak "line_penalty" 875,ak "looseness" 876,ak "pretolerance" 877,ak "right_skip" 878,ak "tolerance" 879],d4 [k "__module__" 856 ed,k "__firstlineno__" 860 (.int 223 859),k "__init__" 867 (r 452),k "__static_attributes__" 880 (r 453),k "__dict__" 882 (r 456),k "__weakref__" 884 (r 457),k "__doc__" 885 .none] 4,fun P=>⟨(.type "type"),J,.cls ⟨u "Settings",[.type "object"],[r 455,.type "object"],454,u "Settings",true,[],[],false,J,false⟩,#[J,J,(I (ak "Settings" 849)),(I (ak "Settings" 857)),(I (.builtin "object.__new__")),(I (.bool true))]⟩,bU "getset_descriptor" [ak "__dict__" 881,r 455,.builtin "function.__dict__",.builtin "function.__dict__#set"],bU "getset_descriptor" [ak "__weakref__" 883,r 455,.builtin "ExceptionGroup.__weakref__",.none],bU "super" [r 455,r 455,r 455],bU "builtin_function_or_method" [.builtin "object.__init_subclass__",r 455],aX,iQ,d4 [k "__module__" 895 ed,k "__qualname__" 897 (ak "Way" 896),k "__firstlineno__" 899 (.int 238 898),k "__init__" 911 (r 473),k "__static_attributes__" 917 (r 474)] 5,aX,cD [i 240,i 4,r 472],bU "code" [ak "Way" 890,ak "Way" 891,c4 892,i 238,i 0,i 0,i 0,i 0,r 463,.bool false,i 181,r 464,.none,.none,.none,.none,i 893,i 238,c4 894],fr [(I (r 465)),(I (r 3)),(I (r 462)),J,(I ed),J,(I (r 0))],aX,cq,bW [ak "self" 903,ak "spot" 904,ak "line" 905,ak "fit" 906,ak "demerits" 907,ak "before" 908],aX,cE (bq (mt 48 0) "Way.__init__"),co "__init__" "Way.__init__" 900 240 6 467 468 469 470 471 909,cJ (mt 48 0) "Way.__init__" ed (r 472),bW [ak "before" 912,ak "demerits" 913,ak "fit" 914,ak "line" 915,ak "spot" 916],d4 [k "__module__" 895 ed,k "__firstlineno__" 899 (.int 238 898),k "__init__" 911 (r 473),k "__static_attributes__" 917 (r 474),k "__dict__" 919 (r 477),k "__weakref__" 921 (r 478),k "__doc__" 922 .none] 4,fun P=>⟨(.type "type"),J,.cls ⟨u "Way",[.type "object"],[r 476,.type "object"],475,u "Way",true,[],[],false,J,false⟩,#[J,J,(I (ak "Way" 888)),(I (ak "Way" 896)),(I (.builtin "object.__new__")),(I (.bool true))]⟩,bU "getset_descriptor" [ak "__dict__" 918,r 476,.builtin "function.__dict__",.builtin "function.__dict__#set"],bU "getset_descriptor" [ak "__weakref__" 920,r 476,.builtin "ExceptionGroup.__weakref__",.none],bU "super" [r 476,r 476,r 476],bU "builtin_function_or_method" [.builtin "object.__init_subclass__",r 476]] P
def yk(P:Params):BT:=c6 (((yj P).ins 3 (d4 (DF++[k "Trial" 962 (r 497),k "check_settings" 970 (r 508),k "is_dropped" 977 (r 515),k "legal_breaks" 993 (r 522),k "start_behind" 1001 (r 529),k "add_glue" 1009 (r 536),k "wide" 1018 (r 543),k "sums_ahead" 1028 (r 550),k "widened" 1036 (r 557),k "spots" 1052 (r 564),k "ground_of" 1061 (r 571),k "line_totals" 1067 (r 576),k "fitted" 1077 (r 583),k "line_demerits" 1088 (r 590),k "pair_demerits" 1099 (r 597),k "ways_to" 1128 (r 604),k "picked" 1142 (r 611),k "places_of" 1150 (r 618)]) 104 P)).ins 12 (cD [i 1,i 0,r 20,i 5,i 0,r 27,i 9,i 0,r 48,i 11,i 0,r 60,i 13,i 0,r 72,i 21,i 0,r 88,i 23,i 0,r 95,i 27,i 0,r 102,i 31,i 0,r 109,i 35,i 0,r 116,i 41,i 0,r 123,i 43,i 0,r 130,i 54,i 0,r 137,i 57,i 0,r 144,i 73,i 0,r 151,i 75,i 0,r 158,i 77,i 0,r 165,i 120,i 0,r 257,i 125,i 0,r 264,i 139,i 0,r 285,i 147,i 0,r 306,i 160,i 0,r 328,i 165,i 0,r 349,i 172,i 0,r 370,i 177,i 0,r 389,i 197,i 0,r 409,i 223,i 0,r 444,i 238,i 0,r 465,i 246,i 0,r 486,i 255,i 0,r 507,i 259,i 0,r 514,i 261,i 0,r 521,i 285,i 0,r 528,i 293,i 0,r 535,i 299,i 0,r 542,i 304,i 0,r 549,i 316,i 0,r 556,i 318,i 0,r 563,i 329,i 0,r 570,i 335,i 0,r 575,i 337,i 0,r 582,i 350,i 0,r 589,i 358,i 0,r 596,i 365,i 0,r 603,i 394,i 0,r 610,i 407,i 0,r 617] P)) 481 [aX,iQ,d4 [k "__module__" 932 ed,k "__qualname__" 934 (ak "Trial" 933),k "__firstlineno__" 936 (.int 246 935),k "__init__" 948 (r 494),k "__static_attributes__" 955 (r 495)] 5,aX,cD [i 248,i 4,r 493],bU "code" [ak "Trial" 927,ak "Trial" 928,c4 929,i 246,i 0,i 0,i 0,i 0,r 484,.bool false,i 181,r 485,.none,.none,.none,.none,i 930,i 246,c4 931],fr [(I (r 486)),(I (r 3)),(I (r 483)),J,(I ed),J,(I (r 0))],aX,cq,bW [ak "self" 940,ak "settings" 941,ak "shape" 942,ak "most" 943,ak "ground" 944,ak "is_last" 945],aX,cE (bq (mt 49 0) "Trial.__init__"),co "__init__" "Trial.__init__" 937 248 6 488 489 490 491 492 946,cJ (mt 49 0) "Trial.__init__" ed (r 493),bW [ak "apart" 949,ak "ground" 950,ak "is_last" 951,ak "most" 952,ak "settings" 953,ak "shape" 954],d4 [k "__module__" 932 ed,k "__firstlineno__" 936 (.int 246 935),k "__init__" 948 (r 494),k "__static_attributes__" 955 (r 495),k "__dict__" 957 (r 498),k "__weakref__" 959 (r 499),k "__doc__" 960 .none] 4,fun P=>⟨(.type "type"),J,.cls ⟨u "Trial",[.type "object"],[r 497,.type "object"],496,u "Trial",true,[],[],false,J,false⟩,#[J,J,(I (ak "Trial" 925)),(I (ak "Trial" 933)),(I (.builtin "object.__new__")),(I (.bool true))]⟩,bU "getset_descriptor" [ak "__dict__" 956,r 497,.builtin "function.__dict__",.builtin "function.__dict__#set"],bU "getset_descriptor" [ak "__weakref__" 958,r 497,.builtin "ExceptionGroup.__weakref__",.none],bU "super" [r 497,r 497,r 497],bU "builtin_function_or_method" [.builtin "object.__init_subclass__",r 497],aX,cq,bW [ak "settings" 966,ak "value" 967],aX,cE (bq (st 50) "check_settings"),co "check_settings" "check_settings" 963 255 1 502 503 504 505 506 968,cJ (st 50) "check_settings" ed (r 507),aX,cq,bW [ak "node" 974],aX,cE (bq (st 51) "is_dropped"),co "is_dropped" "is_dropped" 971 259 1 509 510 511 512 513 975,cJ (st 51) "is_dropped" ed (r 514),aX,cq,bW [ak "items" 981,ak "settings" 982,ak "found" 983,ak "may" 984,ak "is_behind" 985,ak "place" 986,ak "node" 987,ak "kind" 988,ak "penalty" 989,ak "sort" 990],aX,cE (bq (st 52) "legal_breaks"),co "legal_breaks" "legal_breaks" 978 261 2 516 517 518 519 520 991,cJ (st 52) "legal_breaks" ed (r 521),aX,cq,bW [ak "items" 997,ak "place" 998],aX,cE (bq (st 53) "start_behind"),co "start_behind" "start_behind" 994 285 2 523 524 525 526 527 999,cJ (st 53) "start_behind" ed (r 528),aX,cq,bW [ak "row" 1005,ak "glue" 1006],aX,cE (bq (st 54) "add_glue"),co "add_glue" "add_glue" 1002 293 2 530 531 532 533 534 1007,cJ (st 54) "add_glue" ed (r 535),aX,cq,bW [ak "items" 1013,ak "found" 1014,ak "node" 1015],aX,cE (bq (st 55) "wide"),co "wide" "wide" 1010 299 1 537 538 539 540 541 1016,cJ (st 55) "wide" ed (r 542),aX,cq,bW [ak "items" 1022,ak "row" 1023,ak "found" 1024,ak "node" 1025],aX,cE (bq (st 56) "sums_ahead"),co "sums_ahead" "sums_ahead" 1019 304 1 544 545 546 547 548 1026,cJ (st 56) "sums_ahead" ed (r 549),aX,cq,bW [ak "sums" 1032,ak "more" 1033],aX,cE (bq (st 57) "widened"),co "widened" "widened" 1029 316 2 551 552 553 554 555 1034,cJ (st 57) "widened" ed (r 556),aX,cq,bW [ak "items" 1040,ak "settings" 1041,ak "sums" 1042,ak "found" 1043,ak "place" 1044,ak "penalty" 1045,ak "sort" 1046,ak "start" 1047,ak "begin" 1048,ak "end" 1049],aX,cE (bq (st 58) "spots"),co "spots" "spots" 1037 318 2 558 559 560 561 562 1050,cJ (st 58) "spots" ed (r 563),aX,cq,bW [ak "settings" 1056,ak "extra" 1057,ak "row" 1058],aX,cE (bq (st 59) "ground_of"),co "ground_of" "ground_of" 1053 329 2 565 566 567 568 569 1059,cJ (st 59) "ground_of" ed (r 570),aX,cq,cE (bq (st 60) "line_totals"),bU "code" [ak "line_totals" 1062,ak "line_totals" 1063,c4 1064,i 335,i 3,i 0,i 0,i 3,r 572,.bool true,i 181,r 573,.none,.none,.none,r 574,i 1065,i 335,c4 1066],cJ (st 60) "line_totals" ed (r 575),aX,cq,bW [ak "width" 1071,ak "sums" 1072,ak "short" 1073,ak "bad" 1074],aX,cE (bq (st 61) "fitted"),co "fitted" "fitted" 1068 337 2 577 578 579 580 581 1075,cJ (st 61) "fitted" ed (r 582),aX,cq,bW [ak "settings" 1081,ak "bad" 1082,ak "penalty" 1083,ak "cost" 1084,ak "found" 1085],aX,cE (bq (st 62) "line_demerits"),co "line_demerits" "line_demerits" 1078 350 3 584 585 586 587 588 1086,cJ (st 62) "line_demerits" ed (r 589),aX,cq,bW [ak "settings" 1092,ak "is_twice" 1093,ak "is_end" 1094,ak "apart" 1095,ak "found" 1096],aX,cE (bq (st 63) "pair_demerits"),co "pair_demerits" "pair_demerits" 1089 358 4 591 592 593 594 595 1097,cJ (st 63) "pair_demerits" ed (r 596),aX,cq,bW [ak "trial" 1103,ak "spot" 1104,ak "active" 1105,ak "is_end" 1106,ak "place" 1107,ak "penalty" 1108,ak "sort" 1109,ak "end" 1110,ak "settings" 1111,ak "kept" 1112,ak "best" 1113,ak "least" 1114,ak "number" 1115,ak "way" 1116,ak "line" 1117,ak "sums" 1118,ak "bad" 1119,ak "fit" 1120,ak "is_resort" 1121,ak "demerits" 1122,ak "is_twice" 1123,ak "group" 1124,ak "old" 1125],aX,cE (bq (st 64) "ways_to"),co "ways_to" "ways_to" 1100 365 4 598 599 600 601 602 1126,cJ (st 64) "ways_to" ed (r 603),aX,cq,bW [ak "ways" 1132,ak "looseness" 1133,ak "best" 1134,ak "way" 1135,ak "found" 1136,ak "apart" 1137,ak "far" 1138,ak "is_nearer" 1139],aX,cE (bq (st 65) "picked"),co "picked" "picked" 1129 394 2 605 606 607 608 609 1140,cJ (st 65) "picked" ed (r 610),aX,cq,bW [ak "way" 1146,ak "found" 1147],aX,cE (bq (st 66) "places_of"),co "places_of" "places_of" 1143 407 1 612 613 614 615 616 1148,cJ (st 66) "places_of" ed (r 617)] P
def uI(P:Params):BT:=c6 (((yk P).ins 3 (d4 [k "__name__" 165 gq,k "__doc__" 166 .none,k "__package__" 167 .none,k "__loader__" 168 (.builtin "__main__.__loader__#opaque"),k "__spec__" 169 .none,k "__annotations__" 170 (r 6),k "__builtins__" 171 (r 4),k "__file__" 173 (c4 172),k "__cached__" 174 .none,k "_wall" 193 (r 21),k "PageError" 223 (r 39),k "BadArgument" 239 (r 52),k "BadUnit" 255 (r 64),k "Overflow" 271 (r 76),k "UNITY" 275 (.int 65536 274),k "MAX_DIMEN" 281 (.int 1073741823 280),k "MAX_NUMBER" 287 (.int 2147483647 286),k "INF_BAD" 289 (.int 10000 288),k "NORMAL" 294 (.int 0 290),k "FIL" 295 (.int 1 291),k "FILL" 296 (.int 2 292),k "FILLL" 297 (.int 3 293),k "is_whole" 306 (r 89),k "check_whole" 313 (r 96),k "check_number" 320 (r 103),k "check_dimen" 327 (r 110),k "rounded" 335 (r 117),k "reading" 343 (r 124),k "decimal_text" 356 (r 131),k "times" 365 (r 138),k "times_scaled" 366 (r 138),k "badness" 375 (r 145),k "order_text" 382 (r 152),k "part_text" 391 (r 159),k "Glue" 491 (r 227),k "CHAR" 502 (.int 0 494),k "LIGATURE" 503 (.int 1 495),k "HBOX" 504 (.int 2 496),k "VBOX" 505 (.int 3 497),k "RULE" 506 (.int 4 498),k "KERN" 507 (.int 5 499),k "GLUE" 508 (.int 6 500),k "PENALTY" 509 (.int 7 501),k "DISC" 517 (.int 8 510),k "MARK" 518 (.int 9 511),k "INSERT" 519 (.int 10 512),k "ADJUST" 520 (.int 11 513),k "MATH" 521 (.int 12 514),k "SPECIAL" 522 (.int 13 515),k "UNSET" 523 (.int 14 516),k "NATURAL" 527 (.int 0 524),k "STRETCHED" 528 (.int 1 525),k "SHRUNK" 529 (.int 2 526),k "FONT_KERN" 534 (.int 0 530),k "EXPLICIT" 535 (.int 1 531),k "ACCENT_KERN" 536 (.int 2 532),k "MU_KERN" 537 (.int 3 533),k "PLAIN" 545 (.int 0 538),k "ALEADERS" 546 (.int 1 539),k "CLEADERS" 547 (.int 2 540),k "XLEADERS" 548 (.int 3 541),k "MU_SKIP" 549 (.int 4 542),k "NONSCRIPT" 550 (.int 5 543),k "NAMED" 551 (.int 100 544),k "check_short" 559 (r 258),k "Box" 600 (r 275),k "Kern" 632 (r 296),k "Skip" 666 (r 318),k "Penalty" 696 (r 339),k "Disc" 730 (r 360),k "Mark" 760 (r 381),k "width_of" 766 (r 390),k "EJECT" 772 (.int (-10000) 770),k "FORBID" 773 (.int 10000 771),k "VERY_LOOSE" 778 (.int 0 774),k "LOOSE_FIT" 779 (.int 1 775),k "DECENT_FIT" 780 (.int 2 776),k "TIGHT_FIT" 781 (.int 3 777),k "PLAIN_BREAK" 784 (.int 0 782),k "HYPHEN_BREAK" 785 (.int 1 783),k "TOO_LONG" 788 (.int 10001 787),k "WORST_LINE" 790 (.int 100000000 789),k "NO_SUMS" 797 (r 403),k "Shape" 848 (r 434),k "Settings" 887 (r 455),k "Way" 924 (r 476),k "Trial" 962 (r 497),k "check_settings" 970 (r 508),k "is_dropped" 977 (r 515),k "legal_breaks" 993 (r 522),k "start_behind" 1001 (r 529),k "add_glue" 1009 (r 536),k "wide" 1018 (r 543),k "sums_ahead" 1028 (r 550),k "widened" 1036 (r 557),k "spots" 1052 (r 564),k "ground_of" 1061 (r 571),k "line_totals" 1067 (r 576),k "fitted" 1077 (r 583),k "line_demerits" 1088 (r 590),k "pair_demerits" 1099 (r 597),k "ways_to" 1128 (r 604),k "picked" 1142 (r 611),k "places_of" 1150 (r 618),k "choose" 1168 (r 625),k "_law_pool" 1180 (r 632),k "_law_take" 1189 (r 639),k "_law_settings" 1198 (r 646),k "_law_exchanged" 1206 (r 653),k "_law_end" 1214 (r 660),k "_law_word" 1226 (r 667),k "_law_glue" 1235 (r 674),k "_law_text" 1241 (r 679),k "_law_gap" 1259 (r 686),k "_law_badness" 1270 (r 693),k "_law_line" 1276 (r 698),k "_law_cost" 1295 (r 705),k "_law_same" 1305 (r 712),k "_law_answer" 1317 (r 719),k "_law_ranks" 1323 (r 724),k "_law_alike" 1329 (r 729),k "law" 1335 (r 734)] 122 P)).ins 12 (cD [i 1,i 0,r 20,i 5,i 0,r 27,i 9,i 0,r 48,i 11,i 0,r 60,i 13,i 0,r 72,i 21,i 0,r 88,i 23,i 0,r 95,i 27,i 0,r 102,i 31,i 0,r 109,i 35,i 0,r 116,i 41,i 0,r 123,i 43,i 0,r 130,i 54,i 0,r 137,i 57,i 0,r 144,i 73,i 0,r 151,i 75,i 0,r 158,i 77,i 0,r 165,i 120,i 0,r 257,i 125,i 0,r 264,i 139,i 0,r 285,i 147,i 0,r 306,i 160,i 0,r 328,i 165,i 0,r 349,i 172,i 0,r 370,i 177,i 0,r 389,i 197,i 0,r 409,i 223,i 0,r 444,i 238,i 0,r 465,i 246,i 0,r 486,i 255,i 0,r 507,i 259,i 0,r 514,i 261,i 0,r 521,i 285,i 0,r 528,i 293,i 0,r 535,i 299,i 0,r 542,i 304,i 0,r 549,i 316,i 0,r 556,i 318,i 0,r 563,i 329,i 0,r 570,i 335,i 0,r 575,i 337,i 0,r 582,i 350,i 0,r 589,i 358,i 0,r 596,i 365,i 0,r 603,i 394,i 0,r 610,i 407,i 0,r 617,i 413,i 0,r 624,i 427,i 0,r 631,i 435,i 0,r 638,i 442,i 0,r 645,i 452,i 0,r 652,i 458,i 0,r 659,i 463,i 0,r 666,i 473,i 0,r 673,i 477,i 0,r 678,i 480,i 0,r 685,i 499,i 0,r 692,i 507,i 0,r 697,i 533,i 0,r 704,i 551,i 0,r 711,i 558,i 0,r 718,i 562,i 0,r 723,i 568,i 0,r 728,i 576,i 0,r 733] P)) 619 [aX,cq,bW [ak "items" 1154,ak "settings" 1155,ak "shape" 1156,ak "tolerance" 1157,ak "extra" 1158,ak "is_last" 1159,ak "ground" 1160,ak "trial" 1161,ak "active" 1162,ak "spot" 1163,ak "found" 1164,ak "apart" 1165],aX,cE (bq (st 67) "choose"),co "choose" "choose" 1151 413 6 619 620 621 622 623 1166,cJ (st 67) "choose" ed (r 624),aX,cq,bW [ak "script" 1174,ak "whole" 1175,ak "cell" 1176,ak "part" 1177],aX,cE (bq (st 69) "_law_pool"),co "_law_pool" "_law_pool" 1171 427 1 626 627 628 629 630 1178,cJ (st 69) "_law_pool" gq (r 631),aX,cq,bW [ak "pool" 1184,ak "many" 1185,ak "digit" 1186],aX,cE (bq (st 70) "_law_take"),co "_law_take" "_law_take" 1181 435 2 633 634 635 636 637 1187,cJ (st 70) "_law_take" gq (r 638),aX,cq,bW [ak "pool" 1193,ak "is_filled" 1194,ak "found" 1195],aX,cE (bq (st 71) "_law_settings"),co "_law_settings" "_law_settings" 1190 442 2 640 641 642 643 644 1196,cJ (st 71) "_law_settings" gq (r 645),aX,cq,bW [ak "settings" 1202,ak "found" 1203],aX,cE (bq (st 72) "_law_exchanged"),co "_law_exchanged" "_law_exchanged" 1199 452 1 647 648 649 650 651 1204,cJ (st 72) "_law_exchanged" gq (r 652),aX,cq,bW [ak "sort" 1210,ak "parts" 1211],aX,cE (bq (st 73) "_law_end"),co "_law_end" "_law_end" 1207 458 1 654 655 656 657 658 1212,cJ (st 73) "_law_end" gq (r 659),aX,cq,bW [ak "pool" 1218,ak "told" 1219,ak "size" 1220,ak "sort" 1221,ak "apart" 1222,ak "kind" 1223],aX,cE (bq (st 74) "_law_word"),co "_law_word" "_law_word" 1215 463 2 661 662 663 664 665 1224,cJ (st 74) "_law_word" gq (r 666),aX,cq,bW [ak "pool" 1230,ak "told" 1231,ak "parts" 1232],aX,cE (bq (st 75) "_law_glue"),co "_law_glue" "_law_glue" 1227 473 2 668 669 670 671 672 1233,cJ (st 75) "_law_glue" gq (r 673),aX,cq,cE (bq (st 76) "_law_text"),bU "code" [ak "_law_text" 1236,ak "_law_text" 1237,c4 1238,i 477,i 1,i 0,i 0,i 3,r 675,.bool true,i 181,r 676,.none,.none,.none,r 677,i 1239,i 477,c4 1240],cJ (st 76) "_law_text" gq (r 678),aX,cq,bW [ak "pool" 1245,ak "told" 1246,ak "settings" 1247,ak "sort" 1248,ak "at" 1249,ak "gap" 1250,ak "parts" 1251,ak "turn" 1252,ak "fee" 1253,ak "ahead" 1254,ak "behind" 1255,ak "middle" 1256],aX,cE (bq (st 77) "_law_gap"),co "_law_gap" "_law_gap" 1242 480 3 680 681 682 683 684 1257,cJ (st 77) "_law_gap" gq (r 685),aX,cq,bW [ak "excess" 1263,ak "total" 1264,ak "ratio" 1265,ak "least" 1266,ak "rest" 1267],aX,cE (bq (st 78) "_law_badness"),co "_law_badness" "_law_badness" 1260 499 2 687 688 689 690 691 1268,cJ (st 78) "_law_badness" gq (r 692),aX,cq,cE (bq (st 79) "_law_line"),bU "code" [ak "_law_line" 1271,ak "_law_line" 1272,c4 1273,i 507,i 3,i 0,i 0,i 3,r 694,.bool true,i 181,r 695,.none,.none,.none,r 696,i 1274,i 507,c4 1275],cJ (st 79) "_law_line" gq (r 697),aX,cq,bW [ak "told" 1280,ak "way" 1281,ak "rows" 1282,ak "settings" 1283,ak "at" 1284,ak "fit" 1285,ak "found" 1286,ak "to" 1287,ak "between" 1288,ak "worse" 1289,ak "own" 1290,ak "alone" 1291,ak "fee" 1292],aX,cE (bq (st 80) "_law_cost"),co "_law_cost" "_law_cost" 1277 533 2 699 700 701 702 703 1293,cJ (st 80) "_law_cost" gq (r 704),aX,cq,bW [ak "one" 1299,ak "other" 1300,ak "this" 1301,ak "that" 1302],aX,cE (bq (st 81) "_law_same"),co "_law_same" "_law_same" 1296 551 2 706 707 708 709 710 1303,cJ (st 81) "_law_same" gq (r 711),aX,cq,bW [ak "told" 1309,ak "nodes" 1310,ak "settings" 1311,ak "is_last" 1312,ak "given" 1313,ak "answer" 1314],aX,cE (bq (st 82) "_law_answer"),co "_law_answer" "_law_answer" 1306 558 4 713 714 715 716 717 1315,cJ (st 82) "_law_answer" gq (r 718),aX,cq,cE (bq (st 83) "_law_ranks"),bU "code" [ak "_law_ranks" 1318,ak "_law_ranks" 1319,c4 1320,i 562,i 3,i 0,i 0,i 3,r 720,.bool true,i 181,r 721,.none,.none,.none,r 722,i 1321,i 562,c4 1322],cJ (st 83) "_law_ranks" gq (r 723),aX,cq,cE (bq (st 84) "_law_alike"),bU "code" [ak "_law_alike" 1324,ak "_law_alike" 1325,c4 1326,i 568,i 3,i 0,i 0,i 3,r 725,.bool true,i 181,r 726,.none,.none,.none,r 727,i 1327,i 568,c4 1328],cJ (st 84) "_law_alike" gq (r 728),aX,cq,cE (bq (st 85) "law"),bU "code" [ak "law" 1330,ak "law" 1331,c4 1332,i 576,i 1,i 0,i 0,i 3,r 730,.bool true,i 181,r 731,.none,.none,.none,r 732,i 1333,i 576,c4 1334],cJ (st 85) "law" gq (r 733)] P
@[irreducible] def hs(P:Params):Heap:=⟨⟨(uI P).list 735⟩,lf⟩
noncomputable def DG:List Addr:=[2,3,15,17,18,20,21,22,29,30,32,33,35,36,37,38,39,40,43,50,51,52,55,62,63,64,67,74,75,76,83,85,86,88,89,90,92,93,95,96,97,99,100,102,103,104,106,107,109,110,111,113,114,116,117,118,120,121,123,124,125,127,128,130,131,132,134,135,137,138,139,141,142,144,145,146,148,149,151,152,153,155,156,158,159,167,168,170,171,173,174,175,177,178,180,181,182,184,185,187,188,189,191,192,194,195,196,198,199,201,202,203,205,206,208,209,210,212,213,215,216,217,218,220,221,223,224,225,226,227,228,229,252,254,255,257,258,266,268,269,271,272,273,274,275,276,277,287,289,290,292,293,294,295,296,297,298,308,309,311,312,314,315,316,317,318,319,320,330,332,333,335,336,337,338,339,340,341,351,353,354,356,357,358,359,360,361,362,372,374,375,377,378,379,380,381,382,383,386,389,390,403,411,412,413,416,417,418,420,421,423,424,425,427,428,430,431,432,433,434,435,436,446,448,449,451,452,453,454,455,456,457,467,469,470,472,473,474,475,476,477,478,488,490,491,493,494,495,496,497,498,499,502,504,505,507,508,509,511,512,514,515,516,518,519,521,522,523,525,526,528,529,530,532,533,535,536,537,539,540,542,543,544,546,547,549,550,551,553,554,556,557,558,560,561,563,564,565,567,568,570,571,572,575,576,577,579,580,582,583,584,586,587,589,590,591,593,594,596,597,598,600,601,603,604,605,607,608,610,611,612,614,615,617,618,619,621,622,624,625,626,628,629,631,632,633,635,636,638,639,640,642,643,645,646,647,649,650,652,653,654,656,657,659,660,661,663,664,666,667,668,670,671,673,674,675,678,679,680,682,683,685,686,687,689,690,692,693,694,697,698,699,701,702,704,705,706,708,709,711,712,713,715,716,718,719,720,723,724,725,728,729,730,733,734]
@[irreducible] def c7(P:Params):Frag:=DG.map fun a=>(a,((uI P).get a).getD default)
noncomputable abbrev g5:=PySem.W.Fast.tw10110043849684766642
noncomputable abbrev g6:=PySem.W.Fast.tw14364793385576792824
theorem MI:segRunT=g5:=PySem.W.Fast.te10110043849684766642
theorem MJ:treeTable=g6:=PySem.W.Fast.te14364793385576792824
def ev:Env:={scope:=dg.main.scope,locals:=mainNs,globals:=mainNs,cells:=[],code:=.ref 13,frame:=I 14}
def yl:List Stmt:=behindTheImports dg
def aW:Code:=.body yl ev
noncomputable def B:List Frame:=[topFrame ⟨0,0,0,0⟩]
def S(t:Params→BT)(n toks:Nat)(w:World)(os:OsState):SharedT:=⟨t w.params,n,lf,#[],pa,toks,os⟩
def s1:List Stmt:=[st 0,st 1,st 2,st 3,st 4]
theorem cL:∀w:World,(fun os:OsState=>g5 g6 dg w 11 (I (.ref 6)) 1 685 (S t0 15 187 w os) (piecesOf s1 ev aW ⟨0,0,0,0⟩ B))=fun os=>I (.next,S t1 67 256 w os,aW,⟨11,0,12,8⟩):=fun w=>by kernel_rfl
def s2:List Stmt:=[st 5,st 6,st 7,st 8,st 9,st 10,st 11,st 12,st 13,st 14,st 15,st 16,st 17,st 18,st 19,st 20,st 21,st 22,st 23]
theorem MK:∀w:World,(fun os:OsState=>g5 g6 dg (w.withFollow "special-get-raises" false) 11 (I (.ref 6)) 1 729 (S t1 67 256 (w.withFollow "special-get-raises" false) os) (piecesOf s2 ev aW ⟨11,0,12,8⟩ B))=fun os=>I (.next,S e1 160 392 (w.withFollow "special-get-raises" false) os,aW,⟨75,0,76,81⟩):=fun w=>by kernel_rfl
theorem ML:∀w:World,(fun os:OsState=>g5 g6 dg (w.withFollow "special-get-raises" true) 11 (I (.ref 6)) 1 729 (S t1 67 256 (w.withFollow "special-get-raises" true) os) (piecesOf s2 ev aW ⟨11,0,12,8⟩ B))=fun os=>I (.next,S e1 160 392 (w.withFollow "special-get-raises" true) os,aW,⟨75,0,76,81⟩):=fun w=>by kernel_rfl
theorem ck:∀w:World,(fun os:OsState=>g5 g6 dg w 11 (I (.ref 6)) 1 729 (S t1 67 256 w os) (piecesOf s2 ev aW ⟨11,0,12,8⟩ B))=fun os=>I (.next,S e1 160 392 w os,aW,⟨75,0,76,81⟩):=byRow2 "special-get-raises" MK ML
def s3:List Stmt:=[st 24,st 25,st 26,st 27]
theorem MM:∀w:World,(fun os:OsState=>g5 g6 dg (w.withFollow "special-get-raises" false) 11 (I (.ref 6)) 1 801 (S e1 160 392 (w.withFollow "special-get-raises" false) os) (piecesOf s3 ev aW ⟨75,0,76,81⟩ B))=fun os=>I (.next,S t3 240 524 (w.withFollow "special-get-raises" false) os,aW,⟨116,43,116,48⟩):=fun w=>by kernel_rfl
theorem MN:∀w:World,(fun os:OsState=>g5 g6 dg (w.withFollow "special-get-raises" true) 11 (I (.ref 6)) 1 801 (S e1 160 392 (w.withFollow "special-get-raises" true) os) (piecesOf s3 ev aW ⟨75,0,76,81⟩ B))=fun os=>I (.next,S t3 240 524 (w.withFollow "special-get-raises" true) os,aW,⟨116,43,116,48⟩):=fun w=>by kernel_rfl
theorem gK:∀w:World,(fun os:OsState=>g5 g6 dg w 11 (I (.ref 6)) 1 801 (S e1 160 392 w os) (piecesOf s3 ev aW ⟨75,0,76,81⟩ B))=fun os=>I (.next,S t3 240 524 w os,aW,⟨116,43,116,48⟩):=byRow2 "special-get-raises" MM MN
def s4:List Stmt:=[st 28,st 29,st 30,st 31,st 32]
theorem MO:∀w:World,(fun os:OsState=>g5 g6 dg (w.withFollow "special-get-raises" false) 11 (I (.ref 6)) 1 604 (S t3 240 524 (w.withFollow "special-get-raises" false) os) (piecesOf s4 ev aW ⟨116,43,116,48⟩ B))=fun os=>I (.next,S lW 280 601 (w.withFollow "special-get-raises" false) os,aW,⟨125,0,138,27⟩):=fun w=>by kernel_rfl
theorem MP:∀w:World,(fun os:OsState=>g5 g6 dg (w.withFollow "special-get-raises" true) 11 (I (.ref 6)) 1 604 (S t3 240 524 (w.withFollow "special-get-raises" true) os) (piecesOf s4 ev aW ⟨116,43,116,48⟩ B))=fun os=>I (.next,S lW 280 601 (w.withFollow "special-get-raises" true) os,aW,⟨125,0,138,27⟩):=fun w=>by kernel_rfl
theorem hL:∀w:World,(fun os:OsState=>g5 g6 dg w 11 (I (.ref 6)) 1 604 (S t3 240 524 w os) (piecesOf s4 ev aW ⟨116,43,116,48⟩ B))=fun os=>I (.next,S lW 280 601 w os,aW,⟨125,0,138,27⟩):=byRow2 "special-get-raises" MO MP
def s5:List Stmt:=[st 33,st 34,st 35]
theorem qD:∀w:World,(fun os:OsState=>g5 g6 dg w 11 (I (.ref 6)) 1 713 (S lW 280 601 w os) (piecesOf s5 ev aW ⟨125,0,138,27⟩ B))=fun os=>I (.next,S r7 344 697 w os,aW,⟨160,0,164,40⟩):=fun w=>by kernel_rfl
def r8:List Stmt:=[st 36,st 37,st 38,st 39,st 40,st 41,st 42,st 43,st 44,st 45]
theorem MQ:∀w:World,(fun os:OsState=>g5 g6 dg (w.withFollow "special-get-raises" false) 11 (I (.ref 6)) 1 787 (S r7 344 697 (w.withFollow "special-get-raises" false) os) (piecesOf r8 ev aW ⟨160,0,164,40⟩ B))=fun os=>I (.next,S pb 404 798 (w.withFollow "special-get-raises" false) os,aW,⟨196,0,196,7⟩):=fun w=>by kernel_rfl
theorem MR:∀w:World,(fun os:OsState=>g5 g6 dg (w.withFollow "special-get-raises" true) 11 (I (.ref 6)) 1 787 (S r7 344 697 (w.withFollow "special-get-raises" true) os) (piecesOf r8 ev aW ⟨160,0,164,40⟩ B))=fun os=>I (.next,S pb 404 798 (w.withFollow "special-get-raises" true) os,aW,⟨196,0,196,7⟩):=fun w=>by kernel_rfl
theorem nW:∀w:World,(fun os:OsState=>g5 g6 dg w 11 (I (.ref 6)) 1 787 (S r7 344 697 w os) (piecesOf r8 ev aW ⟨160,0,164,40⟩ B))=fun os=>I (.next,S pb 404 798 w os,aW,⟨196,0,196,7⟩):=byRow2 "special-get-raises" MQ MR
def ym:List Stmt:=[st 46,st 47,st 48]
theorem iv:∀w:World,(fun os:OsState=>g5 g6 dg w 11 (I (.ref 6)) 1 756 (S pb 404 798 w os) (piecesOf ym ev aW ⟨196,0,196,7⟩ B))=fun os=>I (.next,S yj 481 925 w os,aW,⟨238,0,245,28⟩):=fun w=>by kernel_rfl
def yn:List Stmt:=[st 49,st 50,st 51,st 52,st 53,st 54,st 55,st 56,st 57,st 58,st 59,st 60,st 61,st 62,st 63,st 64,st 65,st 66]
theorem MS:∀w:World,(fun os:OsState=>g5 g6 dg w 11 (I (.ref 6)) 1 792 (S yj 481 925 w os) (piecesOf yn ev aW ⟨238,0,245,28⟩ B))=fun os=>I (.next,S yk 619 1151 w os,aW,⟨407,0,412,22⟩):=fun w=>by kernel_rfl
def yo:List Stmt:=[st 67,st 68,st 69,st 70,st 71,st 72,st 73,st 74,st 75,st 76,st 77,st 78,st 79,st 80,st 81,st 82,st 83,st 84,st 85]
theorem MT:∀w:World,(fun os:OsState=>g5 g6 dg w 11 (I (.ref 6)) 1 579 (S yk 619 1151 w os) (piecesOf yo ev aW ⟨407,0,412,22⟩ B))=fun os=>I (.next,S uI 735 1336 w os,aW,⟨576,0,609,68⟩):=fun w=>by kernel_rfl
end
end Tactic.H
end
section
open PySem PySem.W PySem.Calls PyProof.Rows
set_option Elab.async false
set_option maxRecDepth 100000
namespace Tactic.H
noncomputable section
def fg:Program:={dg with main:={dg.main with body:=[st 85]}}
noncomputable def lo:List Str:=(["_wall","PageError","BadArgument","BadUnit","Overflow","UNITY","MAX_DIMEN","MAX_NUMBER","INF_BAD","NORMAL","FIL","FILL","FILLL","is_whole","check_whole","check_number","check_dimen","rounded","reading","decimal_text","times","times_scaled","badness","order_text","part_text","Glue","CHAR","LIGATURE","HBOX","VBOX","RULE","KERN","GLUE","PENALTY","DISC","MARK","INSERT","ADJUST","MATH","SPECIAL","UNSET","NATURAL","STRETCHED","SHRUNK","FONT_KERN","EXPLICIT","ACCENT_KERN","MU_KERN","PLAIN","ALEADERS","CLEADERS","XLEADERS","MU_SKIP","NONSCRIPT","NAMED","check_short","Box","Kern","Skip","Penalty","Disc","Mark","width_of","EJECT","FORBID","VERY_LOOSE","LOOSE_FIT","DECENT_FIT","TIGHT_FIT","PLAIN_BREAK","HYPHEN_BREAK","TOO_LONG","WORST_LINE","NO_SUMS","Shape","Settings","Way","Trial","check_settings","is_dropped","legal_breaks","start_behind","add_glue","wide","sums_ahead","widened","spots","ground_of","line_totals","fitted","line_demerits","pair_demerits","ways_to","picked","places_of","choose","_law_pool","_law_take","_law_settings","_law_exchanged","_law_end","_law_word","_law_glue","_law_text","_law_gap","_law_badness","_law_line","_law_cost","_law_same","_law_answer","_law_ranks","_law_alike"]:List String).map Str.ofString
def ai:Hook:=kHook c7 DG (fun ag=>by kernel_rfl)
def jQ(w:World)(os:OsState):Shared:=⟨hs w.params,#[],pa,1336,os⟩
end
end Tactic.H
end
section
open PySem PySem.W PySem.Calls PyProof.Rows
set_option Elab.async false
set_option maxRecDepth 100000
namespace Tactic.H
noncomputable section
theorem MU{w:World}{n:Nat}{a b:OsState→SharedT}{DH:Thread}{c:Code}{q:Pos}
  (h:(fun os:OsState=>g5 g6 dg w 11 (I (.ref 6)) 1 n (a os) DH)=fun os=>I (.next,b os,c,q)) (os:OsState):
  segRun treeTable dg w 11 (I (.ref 6)) 1 n (a os).abs DH=I (.next,(b os).abs,c,q):=by
 have aa:=congrFun h os;replace aa:=(MJ).symm▸((MI).symm▸aa);exact segRun_of aa
abbrev r9(M:Nat)(w:World)(s:Shared)(t:Thread):Option Shared:=topRun treeTable dg w 11 (I (.ref 6)) M s t
theorem mK{w:World}{os:OsState}{n N:Nat}{a b:OsState→SharedT}{l rest:List Stmt}{p dp:Pos}{r:Shared}
  (h:(fun os:OsState=>g5 g6 dg w 11 (I (.ref 6)) 1 n (a os) (piecesOf l ev aW p B))=fun os=>I (.next,b os,aW,dp))
  (k:r9 N w (b os).abs (restOf rest ev aW dp B)=I r):r9 (n+N) w (a os).abs (restOf (l++rest) ev aW p B)=I r:=
 piece_app (MU h os) k
theorem MV(w:World)(os:OsState):r9 2 w (S uI 735 1336 w os).abs (restOf [] ev aW ⟨576,0,609,68⟩ B)=I (jQ w os):=by kernel_rfl
theorem MW(w:World)(os:OsState):r9 (685+(729+(801+(604+(713+(787+(756+(792+(579+2))))))))) w (S t0 15 187 w os).abs (restOf (s1++(s2++(s3++(s4++(s5++(r8++(ym++(yn++(yo++[]))))))))) ev aW ⟨0,0,0,0⟩ B)=I (jQ w os):=mK (cL w) (mK (ck w) (mK (gK w) (mK (hL w) (mK (qD w) (mK (nW w) (mK (iv w) (mK (MS w) (mK (MT w) (MV w os)))))))))
theorem MX:yl=s1++(s2++(s3++(s4++(s5++(r8++(ym++(yn++(yo++[])))))))):=by kernel_rfl
def DI(w:World)(os:OsState):Shared:=⟨yg w.params,#[],pa,187,os⟩
theorem MY(w:World)(os:OsState):segRun treeTable dg w 11 (I (.ref 6)) 1 1 (DI w os) (blockOf yl ev aW ⟨0,0,0,0⟩ B)=I (.next,(S t0 15 187 w os).abs,aW,⟨0,0,0,0⟩):=by kernel_rfl
theorem MZ(w:World)(os:OsState):topGo treeTable dg w 11 (I (.ref 6)) 12 ⟨boot_heap w.params,#[],pa,181,os⟩ (topStub dg)=I (DI w os,⟨denote treeTable aW,aW,⟨0,0,0,0⟩,B⟩):=by kernel_rfl
theorem M0(w:World)(os:OsState):r9 (12+(1+(685+(729+(801+(604+(713+(787+(756+(792+(579+2))))))))))) w ⟨boot_heap w.params,#[],pa,181,os⟩ (topStub dg)=I (jQ w os):=go_top (MZ w os) (piece_block (MY w os) (by erw[MX];exact MW w os))
theorem M1(w:World):staticsOk (importedModules dg.main.body) (boot_heap w.params) (hs w.params)=true:=by erw[PySem.W.Fast.te5923862056798008813];kernel_rfl
theorem M3(w:World):namesBound dg (hs w.params)=true:=by kernel_rfl
theorem M4(w:World):laidKept (boot_heap w.params) (hs w.params)=true:=by kernel_rfl
theorem M5(w:World)(os:OsState):seen ((recsOf fg).map (·.name)) (ownsOf fg) [] {(jQ w os)with gens:= #[]}=expectedOf fg:=by erw[PySem.W.Fast.te5160383126252970620,PySem.W.Fast.te3399658132070893891,PySem.W.Fast.te5991557255702980513];kernel_rfl
theorem M6(w:World):(hs w.params).bltView=bltViewBooted:=by kernel_rfl
theorem M7(w:World):(hs w.params).keysOk (looseW fg lo) ((recsOf fg).map (·.name)) ((litsOf fg).map (·.1)) ((clssOf fg (looseW fg lo)).map (·.name))=true:=by erw[PySem.W.Fast.te10880121769531294198,PySem.W.Fast.te821141287760084731,PySem.W.Fast.te3399658132070893891,PySem.W.Fast.te7409074990110511671,PySem.W.Fast.te13664370479719496447];kernel_rfl
theorem M8(w:World):(hs w.params).accountedOkI (importedModules dg.main.body)=true:=by erw[PySem.W.Fast.te14722251495701143533,PySem.W.Fast.te5923862056798008813];kernel_rfl
theorem M9(w:World):(hs w.params).isNs mainGlobals=true:=by kernel_rfl
theorem M'(w:World):(hs w.params).isNs builtinsNs=true:=by kernel_rfl
theorem Na(w:World):tablesOk fg (hs w.params)=true:=by erw[PySem.W.Fast.te10994771534591457954];kernel_rfl
theorem Nb(w:World)(os:OsState):tabsOk fg (jQ w os)=true:=by erw[PySem.W.Fast.te479339242167458305];kernel_rfl
theorem Nc(w:World)(os:OsState):pinSeenD fg (drecsOf fg) (jQ w os)=pinGoodD (drecsOf fg):=by erw[PySem.W.Fast.te16090120013241838585,PySem.W.Fast.te3247288618530077131];kernel_rfl
theorem Nd(w:World)(os:OsState):plainSeenE fg (looseW fg lo) (jQ w os)=plainGoodE fg (looseW fg lo):=by erw[PySem.W.Fast.te2386780881361962483,PySem.W.Fast.te821141287760084731];kernel_rfl
theorem Nf(w:World)(os:OsState):plainSeenD fg lo (jQ w os)=plainGoodD fg lo:=by erw[PySem.W.Fast.te11698064438423848299];kernel_rfl
theorem Ng(w:World)(os:OsState):wideSeen fg (jQ w os)=wideGood fg:=by erw[PySem.W.Fast.te7317090234206586261];kernel_rfl
theorem Nh(w:World)(os:OsState):clsSeenW fg lo (jQ w os)=clsGoodW fg lo:=by erw[PySem.W.Fast.te7369524293546568484];kernel_rfl
theorem Ni(w:World)(os:OsState):ai.obs (jQ w os)=ai.val w:=by kernel_rfl
theorem Nj(w:World):((boot_heap w.params).isNs mainGlobals&&(#[]:Array GenState).size==0,(boot_heap w.params).objs.size,(boot_heap w.params).nsMap mainGlobals "__annotations__")=(true,11,I (.ref 6)):=by erw[PySem.W.Fast.te8920871248978507458];kernel_rfl
theorem Nk(w:World):(fencedOpening treeTable dg w 13000).map (fun s=>(s.heap,s.gens,s.drawn,s.toks))=I (boot_heap w.params,Array.mk [],boot_drawn,boot_toks):=boot_open (p:=dg) (by kernel_rfl) (by kernel_rfl) (fun s=>by kernel_rfl) w
theorem Nl(w:World)(os:OsState):openSeen fg lo (importedModules dg.main.body) (fun ag=>true) true (jQ w os)=openGood fg lo:=by
 delta openSeen openGood;erw[M5 w os,Nb w os,Nc w os,Nd w os,Nf w os,Ng w os,Nh w os];erw[M6 w,M7 w,M8 w,M9 w,M' w,Na w]
 rfl
theorem left:LeftO dg fg lo (fun ag=>true) ai.obs ai.val 13000 true:=LeftO.of_pieces (H₀:=boot_heap) (H₁:=hs) (gs₀:= #[]) (gs₁:= #[]) (d₀:=pa) (d₁:=pa) (k₀:=181) (k₁:=1336) (m₀:=11) (ann:=I (.ref 6))
  (M:=12+(1+(685+(729+(801+(604+(713+(787+(756+(792+(579+2)))))))))))
  (fun w=>(Nk w).trans (by kernel_rfl)) Nj M0 (by kernel_rfl)
  (fun w=>funext fun os=>Prod.ext (by
    show(staticsOk (importedModules dg.main.body) (boot_heap w.params) (hs w.params)&&namesBound dg (hs w.params)&&gensDone (jQ w os)&&laidKept (boot_heap w.params) (hs w.params))=true;erw[M1 w,M3 w,M4 w];rfl)
   (Prod.ext (Nl w os) (Ni w os)))
end
end Tactic.H
end
section
open PySem PySem.W PySem.Calls PyProof.Rows
set_option Elab.async false
set_option maxRecDepth 100000
namespace Tactic.H
noncomputable section
theorem Nm:PySem.Challenge.rw_tu0005_01.wellSaid=true:=by erw[PySem.W.Fast.te9446332074065402090];kernel_rfl
def DJ:DefRec:=match st 85 with
 | .FunctionDef n a b _ _ _ sc _ _ p=>⟨n,a,b,sc,p⟩
 |_=>⟨u "",⟨[],[],J,[],[],J,[]⟩,[],⟨.function,[],false,false,[]⟩,default⟩
theorem head(call:WalkO fg lo (fun ag ag=>True) ai.says PySem.Challenge.rw_tu0005_01.row.toRowW DJ [] fun f vs=>PySem.call f vs):PySem.Challenge.rw_tu0005_01.Holds:=by refine holds_law Nm fun dH=>?_;refine holds_open (q:=fg) (loose:=lo) (Xt:=fun ag=>true) (XP:=fun ag ag=>True) (Yf:=ai.obs) (Ya:=ai.val) (YP:=ai.says) (N:=13000) left ai.of ai.keeps (fun ag ag=>trivial) (fun ag ag ag ag ag=>trivial) (by kernel_rfl) (by kernel_rfl) (by kernel_rfl) (fun s e=>recFacts_of (by rfl)) (by rfl) dH (by decide+kernel) ⟨rfl,rfl,rfl,rfl,rfl,by decide+kernel⟩ ⟨[.list []],by decide+kernel,by decide+kernel⟩ call
end
end Tactic.H
end
end
section
local macro_rules | `(tactic| cases $h:ident) => pure (Tactic.inj h)
section
open PySem PySem.W
namespace Tactic
inductive V where
 |bB|bool (b:Bool)|int (i:Int)|str (n:Nat)
 |tup (xs:List V)|lst (xs:List V)|obj (t:Option Nat) (c:Nat) (fs:List (Nat×V))
 deriving Inhabited
noncomputable def V.ctorIdx(x:V):Nat:=V.casesOn x 0 (fun ag=>1) (fun ag=>2) (fun ag=>3) (fun ag=>4) (fun ag=>5) (fun ag ag ag=>6)
inductive X where
 |v (v:V)|cell (i:Nat)
 deriving Inhabited
noncomputable def X.ctorIdx(x:X):Nat:=X.casesOn x (fun ag=>0) (fun ag=>1)
inductive Cell where
 |gone|lst (xs:List V)|cw (kvs:List (Int×V))|e9 (kvs:List (Nat×X))|inst (c:Nat) (fs:List (Nat×X))
 deriving Inhabited
noncomputable def Cell.ctorIdx(x:Cell):Nat:=Cell.casesOn x 0 (fun ag=>1) (fun ag=>2) (fun ag=>3) (fun ag ag=>4)
structure St where
 loc:List (Option X)
 heap:List Cell
 tag:Nat
 base:Nat
inductive jR where|add|sub|mul|fdiv|mod|pow(u:Unit:=())
inductive bk where|eq|ne|lt|le|gt|ge|is|nX|fA(u:Unit:=())
inductive gB where|len|abs|min|max|sum|tuple|list|sorted|divmod|int|isInt|isBool(u:Unit:=())
inductive cB where|one(i:Nat)|many(is:List Nat)
noncomputable def jR.ctorIdx(x:jR):Nat:=jR.casesOn x 0 1 2 3 4 (fun ag=>5)
noncomputable def bk.ctorIdx(x:bk):Nat:=bk.casesOn x 0 1 2 3 4 5 6 7 (fun ag=>8)
noncomputable def gB.ctorIdx(x:gB):Nat:=gB.casesOn x 0 1 2 3 4 5 6 7 8 9 10 (fun ag=>11)
noncomputable def cB.ctorIdx(x:cB):Nat:=cB.casesOn x (fun ag=>0) (fun ag=>1)
mutual
inductive ao where
 |const (v:V)
 |loc (i:Nat)
 |bin (o:jR) (a b:ao)
 |neg (a:ao)
 |not (a:ao)
 |and (a b:ao)
 |or (a b:ao)
 |cmp (a:ao) (o:bk) (b:ao)
 |kZ (a:ao) (o:bk) (b:ao) (br:bk) (c:ao)
 |k0 (t a b:ao)
 |attr (e:ao) (n:Nat)
 |item (e i:ao)
 |rev (e:ao)
 |uJ (e:ao) (n:Nat)
 |uK (e:ao)
 |tup (es:az)
 |lst (es:az)
 |jk (es:az)
 |r' (e:ao)
 |pd (e:ao)
 |cw
 |e9 (a8:List Nat) (es:az)
 |call (f:Nat) (es:az)
 |new (c:Nat) (es:az)
 |bi (b:gB) (es:az)
 |uL (e:ao) (n:Nat) (es:az)
 |append (e a:ao)
 |extend (e a:ao)
 |qE (e k:ao)
 |pe (e k d:ao)
 |comp (elt:ao) (aF:cB) (src:Src)
 |sa (elt:ao) (aF:cB) (src:Src) (c:ao)
inductive az where
 |nil
 |cons (e:ao) (es:az)
inductive Src where
 |of (e:ao)|enum (e:ao)|zip (a b:ao)|range (b:ao)|lX (a b:ao)
end
mutual
inductive dS where
 |loc (i:Nat)|attr (e:ao) (n:Nat)|item (e i:ao)|tup (ts:dI)
inductive dI where
 |nil|cons (t:dS) (ts:dI)
end
mutual
inductive c8 where
 |assign (t:dS) (e:ao)
 |jS (ts:dI) (es:az)
 |aug (i:Nat) (e:ao)
 |pf (e i v:ao)
 |ite (c:ao) (a b:bD)
 |mL (aF:cB) (src:Src) (body:bD)
 |sb (c:ao) (body:bD)
 |ret (e:ao)
 |expr (e:ao)
 |cont
 |pass
 |raise
inductive bD where
 |nil|cons (s:c8) (ss:bD)
end
noncomputable def er{α:Type}(n:Nat):List (Nat×α)→Option α
 |[]=>J
 |(m,x)::r=>if m=n then I x else er n r
noncomputable def fS{α:Type}(n:Nat)(x:α):List (Nat×α)→List (Nat×α)
 |[]=>[(n,x)]
 |(m,y)::r=>if m=n then(m,x)::r else(m,y)::fS n x r
theorem Nn{α:Type}{n:Nat}:er n ([]:List (Nat×α))=J:=rfl
theorem qF{α:Type}{n m:Nat}{x:α}{r:List (Nat×α)}:er n ((m,x)::r)=if m=n then I x else er n r:=rfl
theorem DK{α:Type}{n:Nat}{x:α}:fS n x []=[(n,x)]:=rfl
theorem DL{α:Type}{n m:Nat}{x y:α}{r:List (Nat×α)}:fS n x ((m,y)::r)=if m=n then(m,x)::r else(m,y)::fS n x r:=rfl
noncomputable def g7(n:Int):List (Int×V)→Option V
 |[]=>J
 |(m,x)::r=>if m=n then I x else g7 n r
noncomputable def mM(n:Int)(x:V):List (Int×V)→List (Int×V)
 |[]=>[(n,x)]
 |(m,y)::r=>if m=n then(m,x)::r else(m,y)::mM n x r
noncomputable def small(a:Int):Bool:=U (-(2^62)<a)&&U (a<2^62)
noncomputable def intOf:V→Option Int
 | .int i=>I i
 |_=>J
noncomputable def boolOf:V→Option Bool
 | .bool b=>I b
 |_=>J
noncomputable def strOf:V→Option Nat
 | .str n=>I n
 |_=>J
noncomputable def ko:V→Option (List V)
 | .lst xs=>I xs
 |_=>J
noncomputable def sd:V→Option (List V)
 | .tup xs=>I xs
 |_=>J
noncomputable def kp:V→Option (List V)
 | .lst xs=>I xs
 | .tup xs=>I xs
 |_=>J
noncomputable def fit(n:Nat):Bool:=U (n≤100000)
noncomputable def DM(x y:V):Option V:=match x with
 | .int a=>(intOf y).map fun b=>.int (a+b)
 | .lst a=>(ko y).bind fun b=>if fit (a.length+b.length)then I (.lst (a++b))else J
 | .tup a=>(sd y).bind fun b=>if fit (a.length+b.length)then I (.tup (a++b))else J
 |_=>J
noncomputable def uM(o:jR)(a b:Int):Option V:=match o with
 | .add=>I (.int (a+b))
 | .sub=>I (.int (a-b))
 | .mul=>if small a||small b then I (.int (a*b))else J
 | .fdiv=>if b=0∨small b=false then J else I (.int (Int.fdiv a b))
 | .mod=>if b=0 then J else I (.int (Int.fmod a b))
 | .pow _=>if 0≤b∧b≤400∧ -(2^20)<a∧a<2^20 then I (.int (a^b.toNat))else J
noncomputable def uN(o:jR)(x y:V):Option V:=match o with
 | .add=>DM x y
 |o=>(intOf x).bind fun a=>(intOf y).bind fun b=>uM o a b
noncomputable def h2:List V→Option (List Int)
 |[]=>I []
 | .int a::r=>(h2 r).map (a:: ·)
 |_=>J
def pg(xs aS:List V):Option Bool:=match h2 xs,h2 aS with
 |some a,I b=>I (U (a=b))
 |_,_=>J
noncomputable def uO(x y:V):Option Bool:=match x with
 | .int a=>(intOf y).map fun b=>decide (a=b)
 | .bool a=>(boolOf y).map fun b=>a==b
 | .lst xs=>(ko y).bind fun aS=>if xs.length=aS.length then pg xs aS else I false
 | .tup xs=>(sd y).bind fun aS=>pg xs aS
 |_=>J
noncomputable def kq:V→Bool
 | .bB=>true
 |_=>false
noncomputable def uP:V→Option Nat
 | .obj t _ _=>t
 |_=>J
def yp(x y:V):Option Bool:=if kq y then I (kq x)else(uP x).bind fun t=>(uP y).bind fun t'=>if t=t' then I true else J
def Np(x:V)(xs:List V):Option Bool:=(intOf x).bind fun a=>(h2 xs).map fun l=>l.contains a
noncomputable def DN(o:bk)(a b:Int):Option Bool:=match o with
 | .lt=>I (U (a<b))
 | .le=>I (U (a≤b))
 | .gt=>I (U (a>b))
 | .ge=>I (U (a≥b))
 |_=>J
noncomputable def Nq(o:bk)(x y:V):Option Bool:=match o with
 | .eq=>uO x y
 | .ne=>(uO x y).map (!·)
 | .is=>yp x y
 | .nX=>(yp x y).map (!·)
 | .fA _=>(ko y).bind (Np x)
 |o=>(intOf x).bind fun a=>(intOf y).bind fun b=>DN o a b
noncomputable def idx(i:Int)(n:Nat):Option Nat:=if 0≤i∧i<n∧i≤100000 then I i.toNat else J
def gL(x i:V):Option V:=(kp x).bind fun xs=>(intOf i).bind fun j=>(idx j xs.length).bind (xs[·]?)
noncomputable def ph:List V→Option Int
 |[]=>I 0
 | .int a::r=>(ph r).map (a+ ·)
 |_=>J
noncomputable def insI(a:Int):List Int→List Int
 |[]=>[a]
 |b::r=>if a≤b then a::b::r else b::insI a r
noncomputable def sortI:List Int→List Int
 |[]=>[]
 |a::r=>insI a (sortI r)
theorem DO{a b:Int}{r:List Int}:insI a (b::r)=if a≤b then a::b::r else b::insI a r:=rfl
theorem DP{a:Int}{r:List Int}:sortI (a::r)=insI a (sortI r):=rfl
noncomputable def v1:List V→Option V
 |[a]=>I a
 |_=>J
noncomputable def v2:List V→Option (V×V)
 |[a,b]=>I (a,b)
 |_=>J
def dt(vs:List V):Option (Int×Int):=(v2 vs).bind fun p=>(intOf p.1).bind fun a=>(intOf p.2).map fun b=>(a,b)
def uQ{α:Type}(xs:List V)(a:α):Option α:=if fit xs.length then I a else J
noncomputable def se(b:gB)(vs:List V):Option V:=match b with
 | .len=>(v1 vs).bind fun a=>(kp a).bind fun xs=>uQ xs (.int xs.length)
 | .abs=>(v1 vs).bind fun a=>(intOf a).map fun i=>.int i.natAbs
 | .min=>(dt vs).map fun p=>.int (if p.2<p.1 then p.2 else p.1)
 | .max=>(dt vs).map fun p=>.int (if p.2>p.1 then p.2 else p.1)
 | .sum=>(v1 vs).bind fun a=>(ko a).bind fun xs=>(ph xs).map .int
 | .tuple=>(v1 vs).bind fun a=>(ko a).bind fun xs=>uQ xs (.tup xs)
 | .list=>(v1 vs).bind fun a=>(kp a).bind fun xs=>uQ xs (.lst xs)
 | .sorted=>J
 | .divmod=>(dt vs).bind fun p=>if p.2=0∨small p.2=false then J else I (.tup [.int (Int.fdiv p.1 p.2),.int (Int.fmod p.1 p.2)])
 | .int=>(v1 vs).bind fun a=>(boolOf a).map fun b=>.int (if b then 1 else 0)
 | .isInt=>(v1 vs).bind fun a=>(intOf a).map fun ag=>.bool true
 | .isBool _=>(v1 vs).bind fun a=>(intOf a).map fun ag=>.bool false
noncomputable def aY{α β:Type}(o:Option (α×St))(f:α→St→Option β):Option β:=match o with
 |some p=>f p.1 p.2
 |none=>J
noncomputable def valOf:X→Option V
 | .v v=>I v
 | .cell _=>J
noncomputable def jT:X→Option Nat
 | .v _=>J
 | .cell i=>I i
def fJ(x:X):Option Int:=(valOf x).bind intOf
def k1(x:X):Option Bool:=(valOf x).bind boolOf
def xL(x:X):Option (List V):=(valOf x).bind ko
def uR(x:X):Option (List V):=(valOf x).bind sd
noncomputable def uS:Cell→Option (List V)
 | .lst xs=>I xs
 |_=>J
noncomputable def yq:Cell→Option (List (Int×V))
 | .cw kvs=>I kvs
 |_=>J
noncomputable def pj:Cell→Option (Nat×List (Nat×X))
 | .inst c fs=>I (c,fs)
 |_=>J
noncomputable def objOf:V→Option (Nat×List (Nat×V))
 | .obj _ c fs=>I (c,fs)
 |_=>J
noncomputable def uT:Cell→Option Unit
 | .gone=>I ()
 |_=>J
noncomputable def St.setCell(st:St)(i:Nat)(c:Cell):St:={st with heap:=st.heap.set i c}
noncomputable def St.f'(st:St)(i:Nat)(x:X):St:={st with loc:=st.loc.set i (I x)}
noncomputable def St.nY(st:St)(i:Nat):St:={st with loc:=st.loc.set i J}
noncomputable def St.new(st:St)(c:Cell):X×St:=(.cell st.heap.length,{st with heap:=st.heap++[c]})
def St.lst(st:St)(i:Nat):Option (List V):=(st.heap[i]?).bind uS
def St.jl(st:St)(i:Nat):Option (List (Int×V)):=(st.heap[i]?).bind yq
noncomputable def St.val(st:St):X→Option V
 | .v v=>I v
 | .cell i=>(st.lst i).map .lst
noncomputable def mN:List (Nat×X)→Option (List (Nat×V))
 |[]=>I []
 |(n,x)::r=>(valOf x).bind fun v=>(mN r).map ((n,v):: ·)
noncomputable def DQ(n:Nat):X→Bool
 | .v _=>true
 | .cell j=>decide (j<n)
def uU(n:Nat)(l:List (Nat×X)):Bool:=l.all fun p=>DQ n p.2
noncomputable def St.freeze(st:St):X→Option (V×St)
 | .v v=>I (v,st)
 | .cell i=>(st.lst i).bind fun xs=>if st.base≤i then I (.lst xs,st.setCell i .gone)else J
noncomputable def vals(st:St):List X→Option (List V)
 |[]=>I []
 |x::r=>(st.val x).bind fun v=>(vals st r).map (v:: ·)
noncomputable def yr:Cell→Cell→Option Bool
 | .cw a,d=>(yq d).bind fun b=>if b.isEmpty then I a.isEmpty else J
 | .lst a,d=>(uS d).bind fun b=>uO (.lst a) (.lst b)
 |_,_=>J
def ys(x y:X):Option (Nat×Nat):=(jT x).bind fun i=>(jT y).map fun j=>(i,j)
def St.uV(st:St)(o:bk)(x y:X):Option Bool:=(st.val x).bind fun a=>(st.val y).bind fun b=>Nq o a b
noncomputable def St.cmp(st:St)(o:bk)(x y:X):Option Bool:=match o with
 | .eq=>(match ys x y with
  |some p=>(st.heap[p.1]?).bind fun c=>(st.heap[p.2]?).bind fun d=>yr c d
  |none=>st.uV .eq x y)
 |o=>st.uV o x y
noncomputable abbrev Calls:=Nat→List X→List Cell→Nat→Nat→Option (X×List Cell×Nat)
noncomputable def nZ:List String:=["reason","width","stretch","stretch_order","shrink","shrink_order","kind","height","depth","items","shift","sign","order","ratio","sort","glue","leader","value","pre","post","middle","tokens","font","code","hang_indent","narrow","hang_after","rows","done","pretolerance","tolerance","line_penalty","hyphen_penalty","ex_hyphen_penalty","adjacent","double_hyphen","final_hyphen","looseness","emergency","left_skip","right_skip","spot","line","fit","demerits","before","settings","shape","most","ground","is_last","apart","special","is_on","nodes","words","gaps","ends","size","extra","end"]
noncomputable def gC:Nat→Nat:=fun c=>match c with
 |0=>5
 |1=>7
 |2=>8
 |3=>9
 |4=>10
 |5=>11
 |6=>12
 |7=>14
 |8=>17
 |9=>18
 |10=>19
 |_=>999
noncomputable def mO:Nat→Nat→Option Nat:=fun c n=>if c=7∧n=52 then I 15 else if c=7∧n=42 then I 16 else J
noncomputable def qG:Nat→Nat→Option V:=fun c n=>if n=6 then(match c with|2=>I (.int 5)|3=>I (.int 6)|4=>I (.int 7)|5=>I (.int 8)|6=>I (.int 9)|_=>J)else J
noncomputable def tagged(c:Nat):Bool:=U (1≤c)&&U (c≤6)
noncomputable def kept(c:Nat):Bool:=c==8||c==10
noncomputable def St.yt(st:St)(n:Nat):X→Option Nat
 | .v v=>(objOf v).bind fun p=>if(er n p.2).isNone then mO p.1 n else J
 | .cell i=>((st.heap[i]?).bind pj).bind fun p=>if(er n p.2).isNone then mO p.1 n else J
def iR(c n:Nat):Bool:=U (c<11)&&U (n<61)&&(mO c n).isNone
def sf(c n:Nat)(r:Option X):Option X:=if iR c n then r.or ((qG c n).map .v)else J
noncomputable def St.attr(st:St)(x:X)(n:Nat):Option X:=match x with
 | .v v=>(objOf v).bind fun p=>sf p.1 n ((er n p.2).map .v)
 | .cell i=>((st.heap[i]?).bind pj).bind fun p=>sf p.1 n (er n p.2)
def St.setAttr(st:St)(x:X)(n:Nat)(y:X):Option St:=(jT x).bind fun i=>((st.heap[i]?).bind pj).bind fun p=>
 if iR p.1 n&&((valOf y).isSome||decide (st.base≤i))then I (st.setCell i (.inst p.1 (fS n y p.2)))else J
noncomputable def n0:Cell→V→Option X
 | .lst xs,i=>(gL (.lst xs) i).map .v
 | .cw kvs,i=>(intOf i).bind fun k=>(g7 k kvs).map .v
 | .e9 kvs,i=>(strOf i).bind fun n=>if n<61 then er n kvs else J
 |_,_=>J
def St.item(st:St)(x i:X):Option X:=(valOf i).bind fun i=>match x with
 | .v a=>(gL a i).map .v
 | .cell a=>(st.heap[a]?).bind fun c=>n0 c i
noncomputable def pk(own:Bool):Cell→V→X→Option Cell
 | .lst xs,i,x=>(intOf i).bind fun i=>(valOf x).bind fun v=>(idx i xs.length).map fun k=>.lst (xs.set k v)
 | .cw kvs,k,x=>(intOf k).bind fun k=>(valOf x).bind fun v=>if fit kvs.length then I (.cw (mM k v kvs))else J
 | .e9 kvs,k,x=>(strOf k).bind fun n=>if n<61∧fit kvs.length=true∧((valOf x).isSome||own)=true then I (.e9 (fS n x kvs))else J
 |_,_,_=>J
def St.setItem(st:St)(x i:X)(y:X):Option St:=(valOf i).bind fun i=>(jT x).bind fun a=>(st.heap[a]?).bind fun c=>(pk (U (st.base≤a)) c i y).map fun c=>st.setCell a c
noncomputable def pairs:Nat→List V→List V
 |_,[]=>[]
 |i,x::r=>.tup [.int i,x]::pairs (i+1) r
noncomputable def k2:List V→List V→List V
 |x::xs,y::aS=>.tup [x,y]::k2 xs aS
 |_,_=>[]
noncomputable def iw:List Nat→List X→St→St
 |i::is,x::xs,st=>iw is xs (st.f' i x)
 |_,_,st=>st
def yu(n:Nat)(v:V):Option (List V):=(sd v).bind fun vs=>if n=vs.length then I vs else J
noncomputable def hM(aF:cB)(v:V)(st:St):Option St:=match aF with
 | .one i=>I (st.f' i (.v v))
 | .many is=>(yu is.length v).map fun vs=>iw is (vs.map .v) st
noncomputable def g8(aF:cB)(st:St):St:=match aF with
 | .one i=>st.nY i
 | .many is=>is.foldl St.nY st
inductive R where|next|cont|ret(x:X)
noncomputable def R.ctorIdx(x:R):Nat:=R.casesOn x 0 1 (fun ag=>2)
noncomputable def jm:R→Bool
 | .ret _=>true
 |_=>false
noncomputable def forL(aF:cB)(body:St→Option (R×St)):List V→St→Option (R×St)
 |[],st=>I (.next,st)
 |v::vs,st=>(hM aF v st).bind fun st=>aY (body st) fun r st=>if jm r then I (r,st)else forL aF body vs st
noncomputable def lY(test:St→Option (Bool×St))(body:St→Option (R×St)):Nat→St→Option (R×St)
 |0,_=>J
 |n+1,st=>aY (test st) fun b st=>if b then(aY (body st) fun r st=>if jm r then I (r,st)else lY test body n st)else I (.next,st)
noncomputable def fh(aF:cB)(test:St→Option (Bool×St))(elt:St→Option (V×St)):List V→St→Option (List V×St)
 |[],st=>I ([],st)
 |v::vs,st=>(hM aF v st).bind fun st=>aY (test st) fun b st=>if b then(aY (elt st) fun y st=>aY (fh aF test elt vs st) fun aS st=>I (y::aS,st))else fh aF test elt vs st
noncomputable def St.lend(st:St):X→Option (List V×St)
 | .v v=>(kp v).bind fun xs=>if fit xs.length then I (xs,st)else J
 | .cell i=>(st.lst i).bind fun xs=>if fit xs.length then I (xs,st.setCell i .gone)else J
noncomputable def St.back(st:St)(x:X)(xs:List V):Option St:=match x with
 | .cell i=>((st.heap[i]?).bind uT).map fun ag=>st.setCell i (.lst xs)
 | .v _=>I st
noncomputable def gM(a b:Int):List V:=(jb (b-a).toNat).map fun(k:Nat)=>.int (a+k)
noncomputable def inR(n:Int):Bool:=U (-100000≤n)&&U (n≤100000)
def kr(xs:List V)(r:X×St):Option (X×St):=if fit xs.length then I r else J
def hN(o:Option (X×St)):Option (Bool×St):=aY o fun x st=>(k1 x).map fun b=>(b,st)
def gN(o:Option (X×St)):Option (V×St):=aY o fun x st=>(valOf x).map fun v=>(v,st)
def sg(c:Nat)(st:St)(h:List Cell)(t:Nat):Option (X×St):=((h[st.heap.length]?).bind pj).bind fun p=>if p.1≠c then J else
 if kept c then I (.cell st.heap.length,{st with heap:=h,tag:=t})
 else(mN p.2).map fun fs=>(.v (.obj (if tagged c then I t else J) c fs),{st with heap:=h.take st.heap.length,tag:=if tagged c then t+1 else t})
def yv(x:X):Option Unit:=(valOf x).bind fun v=>if kq v then I ()else J
noncomputable def yw(st:St)(o:Option (X×List Cell×Nat)):Option (X×St):=o.map fun p=>(p.1,{st with heap:=p.2.1,tag:=p.2.2})
noncomputable def yx(a8:List Nat)(xs:List X):Bool:=U (a8.length=xs.length)&&U (a8.length≤15)&& !a8.isEmpty&&U (a8.Nodup)&&a8.all fun k=>decide (k<61)
noncomputable def hO(b:gB)(st:St)(xs:List X):Option (X×St):=match b with
 | .sorted=>(xs.head?.bind jT).bind fun i=>(st.jl i).bind fun kvs=>if xs.length=1∧kvs.length<64 then I (.v (.lst ((sortI (kvs.map (·.1))).map .int)),st)else J
 |b=>(vals st xs).bind fun vs=>(se b vs).map fun r=>(.v r,st)
def uW(st:St)(x:X)(xs aS:List V)(st1:St):Option (X×St):=if st1.base=st.base then(st1.back x xs).map fun st2=>(.v (.lst aS),{st2 with loc:=st.loc})else J
def uX(o:Option (X×St)):Option (X×St):=aY o fun x st=>(k1 x).map fun b=>(.v (.bool b),st)
mutual
noncomputable def aj(C:Calls):ao→St→Option (X×St)
 | .const v,st=>I (.v v,st)
 | .loc i,st=>(st.loc[i]?).bind fun x=>x.map fun x=>(x,st)
 | .bin o a b,st=>aY (aj C a st) fun x st=>aY (aj C b st) fun y st=>(st.val x).bind fun u=>(st.val y).bind fun v=>(uN o u v).map fun r=>(.v r,st)
 | .neg a,st=>aY (aj C a st) fun x st=>(fJ x).map fun i=>(.v (.int (-i)),st)
 | .not a,st=>aY (aj C a st) fun x st=>(k1 x).map fun b=>(.v (.bool (!b)),st)
 | .and a b,st=>aY (aj C a st) fun x st=>(k1 x).bind fun t=>if t then uX (aj C b st)else I (.v (.bool false),st)
 | .or a b,st=>aY (aj C a st) fun x st=>(k1 x).bind fun t=>if t then I (.v (.bool true),st)else uX (aj C b st)
 | .cmp a o b,st=>aY (aj C a st) fun x st=>aY (aj C b st) fun y st=>(st.cmp o x y).map fun r=>(.v (.bool r),st)
 | .kZ a o b br c,st=>aY (aj C a st) fun x st=>aY (aj C b st) fun y st=>(st.cmp o x y).bind fun t=>if t then(aY (aj C c st) fun z st=>(st.cmp br y z).map fun r=>(.v (.bool r),st))else I (.v (.bool false),st)
 | .k0 t a b,st=>aY (aj C t st) fun x st=>(k1 x).bind fun t=>if t then aj C a st else aj C b st
 | .attr e n,st=>aY (aj C e st) fun x st=>(st.attr x n).map fun r=>(r,st)
 | .item e i,st=>aY (aj C e st) fun x st=>aY (aj C i st) fun y st=>(st.item x y).map fun r=>(r,st)
 | .rev e,st=>aY (aj C e st) fun x st=>(st.val x).bind fun v=>(ko v).bind fun xs=>kr xs (.v (.lst xs.reverse),st)
 | .uJ e n,st=>aY (aj C e st) fun x st=>(st.val x).bind fun v=>(ko v).bind fun xs=>kr xs (.v (.lst (xs.take n)),st)
 | .uK e,st=>aY (aj C e st) fun x st=>(uR x).bind fun xs=>if xs.isEmpty then J else kr xs (.v (.tup (xs.drop 1)),st)
 | .tup es,st=>aY (ix C es st) fun vs st=>kr vs (.v (.tup vs),st)
 | .lst es,st=>aY (ix C es st) fun vs st=>kr vs (.v (.lst vs),st)
 | .jk es,st=>aY (ix C es st) fun vs st=>kr vs (st.new (.lst vs))
 | .r' e,st=>aY (aj C e st) fun x st=>(st.val x).bind fun v=>(kp v).bind fun xs=>kr xs (st.new (.lst xs))
 | .pd e,st=>aY (aj C e st) fun x st=>(st.val x).bind fun v=>(ko v).bind fun xs=>kr xs (st.new (.lst xs.reverse))
 | .cw,st=>I (st.new (.cw []))
 | .e9 a8 es,st=>aY (dq C es st) fun xs st=>if yx a8 xs then I (st.new (.e9 (a8.zip xs)))else J
 | .call f es,st=>aY (dq C es st) fun xs st=>yw st (C f xs st.heap st.tag st.heap.length)
 | .new c es,st=>aY (dq C es st) fun xs st=>(C (gC c) (.cell st.heap.length::xs) (st.heap++[.inst c []]) st.tag st.heap.length).bind fun p=>(yv p.1).bind fun ag=>sg c st p.2.1 p.2.2
 | .bi b es,st=>aY (dq C es st) fun xs st=>hO b st xs
 | .uL e n es,st=>aY (aj C e st) fun x st=>(st.yt n x).bind fun f=>aY (dq C es st) fun xs st=>yw st (C f (x::xs) st.heap st.tag st.heap.length)
 | .append e a,st=>aY (aj C e st) fun o st=>(jT o).bind fun i=>(st.lst i).bind fun ag=>aY (aj C a st) fun x st=>aY (st.freeze x) fun v st=>(st.lst i).bind fun xs=>kr xs (.v .bB,st.setCell i (.lst (xs++[v])))
 | .extend e a,st=>aY (aj C e st) fun o st=>(jT o).bind fun i=>(st.lst i).bind fun ag=>aY (aj C a st) fun x st=>(xL x).bind fun aS=>(st.lst i).bind fun xs=>kr (xs++aS) (.v .bB,st.setCell i (.lst (xs++aS)))
 | .qE e k,st=>aY (aj C e st) fun o st=>(jT o).bind fun i=>(st.jl i).bind fun ag=>aY (aj C k st) fun x st=>(fJ x).bind fun k=>(st.jl i).map fun kvs=>(.v ((g7 k kvs).getD .bB),st)
 | .pe e k d,st=>aY (aj C e st) fun o st=>(jT o).bind fun i=>(st.jl i).bind fun ag=>aY (aj C k st) fun x st=>(fJ x).bind fun k=>aY (aj C d st) fun y st=>(valOf y).bind fun d=>(st.jl i).map fun kvs=>(.v ((g7 k kvs).getD d),st)
 | .comp elt aF src,st=>(fi C src st).bind fun p=>aY (fh aF (fun st=>I (true,st)) (fun st=>gN (aj C elt st)) p.2.1 (g8 aF p.2.2)) fun aS st1=>uW p.2.2 p.1 p.2.1 aS st1
 | .sa elt aF src c,st=>(fi C src st).bind fun p=>aY (fh aF (fun st=>hN (aj C c st)) (fun st=>gN (aj C elt st)) p.2.1 (g8 aF p.2.2)) fun aS st1=>uW p.2.2 p.1 p.2.1 aS st1
noncomputable def ix(C:Calls):az→St→Option (List V×St)
 | .nil,st=>I ([],st)
 | .cons e es,st=>aY (aj C e st) fun x st=>(valOf x).bind fun v=>aY (ix C es st) fun vs st=>I (v::vs,st)
noncomputable def dq(C:Calls):az→St→Option (List X×St)
 | .nil,st=>I ([],st)
 | .cons e es,st=>aY (aj C e st) fun x st=>aY (dq C es st) fun xs st=>I (x::xs,st)
noncomputable def fi(C:Calls):Src→St→Option (X×List V×St)
 | .of e,st=>aY (aj C e st) fun x st=>(st.lend x).map fun p=>(x,p.1,p.2)
 | .enum e,st=>aY (aj C e st) fun x st=>(xL x).bind fun xs=>if fit xs.length then I (.v .bB,pairs 0 xs,st)else J
 | .zip a b,st=>aY (aj C a st) fun x st=>(xL x).bind fun xs=>aY (aj C b st) fun y st=>(xL y).bind fun aS=>if fit (xs.length+aS.length)then I (.v .bB,k2 xs aS,st)else J
 | .range b,st=>aY (aj C b st) fun y st=>(fJ y).bind fun n=>if inR n then I (.v .bB,gM 0 n,st)else J
 | .lX a b,st=>aY (aj C a st) fun x st=>(fJ x).bind fun m=>aY (aj C b st) fun y st=>(fJ y).bind fun n=>if inR m&&inR n then I (.v .bB,gM m n,st)else J
end
mutual
noncomputable def asg(C:Calls):dS→X→St→Option St
 | .loc i,x,st=>I (st.f' i x)
 | .attr e n,x,st=>aY (aj C e st) fun o st=>st.setAttr o n x
 | .item e i,x,st=>aY (aj C e st) fun o st=>aY (aj C i st) fun j st=>st.setItem o j x
 | .tup ts,x,st=>(uR x).bind fun vs=>gb C ts (vs.map .v) st
noncomputable def gb(C:Calls):dI→List X→St→Option St
 | .nil,xs,st=>if xs.isEmpty then I st else J
 | .cons t ts,xs,st=>xs.head?.bind fun x=>(asg C t x st).bind fun st=>gb C ts xs.tail st
end
noncomputable def n1(r:R)(st:St)(k:St→Option (R×St)):Option (R×St):=match r with
 | .next=>k st
 |r=>I (r,st)
mutual
noncomputable def iS(C:Calls):c8→St→Option (R×St)
 | .assign t e,st=>aY (aj C e st) fun x st=>(asg C t x st).map fun st=>(.next,st)
 | .jS ts es,st=>aY (dq C es st) fun xs st=>(gb C ts xs st).map fun st=>(.next,st)
 | .aug i e,st=>((st.loc[i]?).bind fun x=>x.bind fJ).bind fun a=>aY (aj C e st) fun y st=>(fJ y).map fun b=>(.next,st.f' i (.v (.int (a+b))))
 | .pf e i v,st=>aY (aj C e st) fun x st=>aY (aj C i st) fun j st=>((st.item x j).bind fJ).bind fun a=>aY (aj C v st) fun y st=>(fJ y).bind fun b=>(st.setItem x j (.v (.int (a+b)))).map fun st=>(.next,st)
 | .ite c a b,st=>aY (aj C c st) fun x st=>(k1 x).bind fun t=>if t then bI C a st else bI C b st
 | .mL aF src body,st=>(fi C src st).bind fun p=>(valOf p.1).bind fun ag=>forL aF (bI C body) p.2.1 p.2.2
 | .sb c body,st=>lY (fun st=>hN (aj C c st)) (bI C body) 100 st
 | .ret e,st=>aY (aj C e st) fun x st=>I (.ret x,st)
 | .expr e,st=>aY (aj C e st) fun ag st=>I (.next,st)
 | .cont,st=>I (.cont,st)
 | .pass,st=>I (.next,st)
 | .raise,_=>J
noncomputable def bI(C:Calls):bD→St→Option (R×St)
 | .nil,st=>I (.next,st)
 | .cons s ss,st=>aY (iS C s st) fun r st=>n1 r st fun st=>bI C ss st
end
end Tactic
end
section
open PySem PySem.W
namespace Tactic
theorem insI_perm(a:Int):∀l:List Int,(insI a l).Perm (a::l):=by
 intro aT
 induction aT with
 |nil=>exact .refl _
 |cons b r aD=>
  show(if a≤b then a::b::r else b::insI a r).Perm _;refine bZ (fun h:a≤b=>?_) (fun h=>?_)
  ·erw[if_pos h]
  ·erw[if_neg h];exact((aD).cons b).trans (.swap a b r)
theorem sortI_perm:∀l:List Int,(sortI l).Perm l:=by
 intro aT
 induction aT with
 |nil=>exact .refl _
 |cons a r aD=>exact(insI_perm a _).trans ((aD).cons a)
theorem Nr(a:Int):∀{l:List Int},l.Pairwise (· ≤ ·)→(insI a l).Pairwise (· ≤ ·):=by
 intro aT
 induction aT with
 |nil=>intro _;exact CJ _ a
 |cons b r aD=>
  intro h;refine bC (fun aa ab=>?_) (uq.mp h);show(if a≤b then a::b::r else b::insI a r).Pairwise _;refine bZ (fun du:a≤b=>?_) (fun du=>?_)
  ·erw[if_pos du];exact uq.mpr ⟨fun x aC=>(ec.mp aC).elim (fun e=>e▸du) fun aC=>c0 du (aa x aC),h⟩
  ·erw[if_neg du];exact uq.mpr ⟨fun x aC=>(ec.mp ((insI_perm a r).mem_iff.mp aC)).elim (fun e=>e▸jN (o2.mp du)) (aa x),aD ab⟩
theorem DR:∀l:List Int,(sortI l).Pairwise (· ≤ ·):=by
 intro aT
 induction aT with
 |nil=>exact .nil
 |cons a r aD=>exact Nr a (aD)
end Tactic
end
section
open PySem PySem.W
namespace Tactic
noncomputable def st(i:Nat):Stmt:=(PySem.Challenge.pw_tu0005_01.main.body[i]?).getD default
noncomputable def mt(i j:Nat):Stmt:=match st i with
 | .ClassDef _ _ _ b _ _ _ _ _ _ _=>(b[j]?).getD default
 |_=>default
noncomputable def c9(a:Str)(b:String):Bool:=a==Str.ofString b
def jU(x:Str):Option Nat:=nZ.findIdx? fun s=>c9 x s
noncomputable def constOf:List (String×V):=[("EJECT",.int (-10000)),("FORBID",.int 10000),("VERY_LOOSE",.int 0),("LOOSE_FIT",.int 1),("DECENT_FIT",.int 2),("TIGHT_FIT",.int 3),("PLAIN_BREAK",.int 0),("HYPHEN_BREAK",.int 1),("TOO_LONG",.int 10001),("WORST_LINE",.int 100000000),("NO_SUMS",.tup [.int 0,.int 0,.int 0,.int 0,.int 0,.int 0]),("MAX_DIMEN",.int 1073741823),("MAX_NUMBER",.int 2147483647),("INF_BAD",.int 10000),("NORMAL",.int 0),("FILLL",.int 3),("CHAR",.int 0),("LIGATURE",.int 1),("HBOX",.int 2),("VBOX",.int 3),("RULE",.int 4),("KERN",.int 5),("GLUE",.int 6),("PENALTY",.int 7),("DISC",.int 8),("MATH",.int 12),("UNSET",.int 14),("NATURAL",.int 0),("FONT_KERN",.int 0),("EXPLICIT",.int 1),("MU_KERN",.int 3),("PLAIN",.int 0),("ALEADERS",.int 1),("XLEADERS",.int 3),("NONSCRIPT",.int 5),("NAMED",.int 100)]
noncomputable def qH:List String:=["is_whole","check_whole","check_number","check_dimen","badness","Glue.__init__","check_short","Box.__init__","Kern.__init__","Skip.__init__","Penalty.__init__","Disc.__init__","Mark.__init__","width_of","Shape.__init__","Shape.special","Shape.line","Settings.__init__","Way.__init__","Trial.__init__","check_settings","is_dropped","legal_breaks","start_behind","add_glue","wide","sums_ahead","widened","spots","ground_of","line_totals","fitted","line_demerits","pair_demerits","ways_to","picked","places_of","choose","_law_pool","_law_take","_law_settings","_law_exchanged","_law_end","_law_word","_law_glue","_law_text","_law_gap","_law_badness","_law_line","_law_cost","_law_same","_law_answer","_law_ranks","_law_alike","law"]
noncomputable def qI:List String:=["Glue","Box","Kern","Skip","Penalty","Disc","Mark","Shape","Settings","Way","Trial"]
noncomputable def sh(i:Nat):Bool:=[5,7,8,9,10,11,12,14,15,16,17,18,19].contains i
noncomputable def n2:List (String×gB):=[("len",.len),("abs",.abs),("min",.min),("max",.max),("sum",.sum),("tuple",.tuple),("list",.list),("sorted",.sorted),("divmod",.divmod),("int",.int)]
noncomputable def k3{α:Type}(x:Str):List (String×α)→Option α
 |[]=>J
 |(n,a)::r=>if c9 x n then I a else k3 x r
structure bV where
 vars:List (Str×Nat)
 Nt:List String
 yy:Nat
 si:List Str
 frees:List Str
 cells:List Str
def bV.gl(cx:bV)(x:Str):Bool:=cx.si.contains x&& !c9 x "__debug__"
def bV.var(cx:bV)(x:Str):Option Nat:=if c9 x "__debug__" then J else cx.vars.lookup x
def bV.ak(cx:bV)(x:Str):Option Nat:=if cx.frees.contains x then J else cx.var x
noncomputable def sj:Operator→Option jR
 | .Add=>I .add| .Sub=>I .sub| .Mult=>I .mul| .FloorDiv=>I .fdiv| .Mod=>I .mod| .Pow=>I .pow|_=>J
noncomputable def k4:CmpOp→Option bk
 | .Eq=>I .eq| .NotEq=>I .ne| .Lt=>I .lt| .LtE=>I .le| .Gt=>I .gt| .GtE=>I .ge| .Is=>I .is| .IsNot=>I .nX| .In=>I .fA|_=>J
noncomputable def lZ(cx:bV):List Expr→Option (List Nat)
 |[]=>I []
 | .Name x _::r=>(cx.ak x).bind fun i=>(lZ cx r).map (i:: ·)
 |_=>J
noncomputable def jV(cx:bV):Expr→Option cB
 | .Name x _=>(cx.ak x).map .one
 | .Tuple es _ _=>(lZ cx es).map .many
 |_=>J
noncomputable def pn:Expr→List Str
 | .Name x _=>[x]
 | .Tuple es _ _=>es.filterMap fun(e:Expr)=>match e with| .Name x _=>I x|_=>J
 |_=>[]
noncomputable def cInt:Expr→Option Int
 | .Constant c _ _=>match c with
  | .int i=>I i
  |_=>J
 |_=>J
noncomputable def yz:Expr→Bool
 | .UnaryOp o a _=>decide (o= .USub)&&U (cInt a=I 1)
 |_=>false
noncomputable def uY:Expr→Bool
 | .Slice lo aw st _=>lo.isNone&&aw.isNone&&(match st with
  |some s=>yz s
  |none=>false)
 |_=>false
def yA(aH:ao)(lo aw st:Option Expr):Option ao:=match lo,aw,st with
 |none,J,I s=>if yz s then I (.rev aH)else J
 |none,I h,J=>(cInt h).bind fun i=>if 0≤i then I (.uJ aH i.toNat)else J
 |some l,J,J=>if cInt l=I 1 then I (.uK aH)else J
 |_,_,_=>J
noncomputable def d8(cx:bV)(scope:Scope)(tgt:Expr):bV:={cx with cells:=[],frees:=scope.names.filterMap (fun(x,ej)=>if ej== .free then I x else J),si:=scope.names.filterMap (fun(x,ej)=>if ej== .globalImplicit then I x else J),vars:=(pn tgt).zipIdx.map (fun(x,i)=>(x,cx.yy+i))++scope.names.filterMap fun(x,ej)=>if ej== .free then(cx.var x).map (x,·)else J}
noncomputable def qJ{α:Type}[BEq α]:List α→Bool
 |[]=>true
 |a::r=> !r.contains a&&qJ r
noncomputable def uZ(cx:bV)(scope:Scope)(tgt:Expr):Bool:=scope.kind== .function&&scope.names.all (fun y=>y.2 != .cell)&&qJ (scope.names.map (·.1))&&(pn tgt).all (fun x=>scope.names.lookup x==I .local)&&
 qJ ((d8 cx scope tgt).vars.map (·.1))&&qJ ((d8 cx scope tgt).vars.map (·.2))&&
 scope.names.all (fun y=>y.2 != .free||(cx.cells.contains y.1&& !cx.frees.contains y.1&&(cx.var y.1).isSome&& !c9 y.1 "__classdict__"))
noncomputable def keyOf:Option Expr→Option Nat
 |some e=>match e with
  | .Constant c _ _=>(match c with
   | .str s=>jU s
   |_=>J)
  |_=>J
 |none=>J
noncomputable def keysOf:List (Option Expr)→Option (List Nat)
 |[]=>I []
 |k::r=>(keyOf k).bind fun n=>(keysOf r).map (n:: ·)
noncomputable def nameOf:Expr→Option Str
 | .Call f _ _ _=>match f with
  | .Name x _=>I x
  |_=>J
 |_=>J
noncomputable def yB(cx:bV)(f:Str):az→Option Src
 | .cons a .nil=>if cx.gl f&&c9 f "enumerate" then I (.enum a)else if cx.gl f&&c9 f "range" then I (.range a)else J
 | .cons a (.cons b .nil)=>if cx.gl f&&c9 f "zip" then I (.zip a b)else if cx.gl f&&c9 f "range" then I (.lX a b)else J
 |_=>J
def l0(cx:bV)(it:Expr)(e:Option ao)(as:Option az):Option Src:=match(nameOf it).bind fun f=>as.bind (yB cx f)with
 |some s=>I s
 |none=>e.map .of
noncomputable def mP(aF:cB)(s:Src):Bool:=match s,aF with
 | .enum _,.one _=>false
 | .zip _ _,.one _=>false
 |_,_=>true
noncomputable def Nu:Const→Option ao
 | .int i=>I (.const (.int i))
 | .bool b=>I (.const (.bool b))
 | .none=>I (.const .bB)
 | .str s=>(jU s).map fun n=>.const (.str n)
 |_=>J
def yC(cx:bV)(x:Str):Option ao:=match cx.var x with
 |some i=>I (.loc i)
 |none=>if cx.gl x then(k3 x constOf).map .const else J
noncomputable def Nv(o:PySem.UnaryOp)(a:Option ao):Option ao:=match o with
 | .USub=>a.map .neg
 | .Not=>a.map .not
 |_=>J
noncomputable def DS(a:ao):List CmpOp→az→Option ao
 |[o],.cons b .nil=>(k4 o).map fun o=>.cmp a o b
 |[o,br],.cons b (.cons c .nil)=>(k4 o).bind fun o=>(k4 br).map fun br=>.kZ a o b br c
 |_,_=>J
noncomputable def yD(cx:bV):Expr→Option gB
 | .Name t _=>if cx.gl t&&c9 t "int" then I .isInt else if cx.gl t&&c9 t "bool" then I .isBool else J
 |_=>J
def sk(x:Str)(es:az):Option ao:=match k3 x n2 with
 |some b=>I (.bi b es)
 |none=>match qH.findIdx? (c9 x)with
  |some i=>if sh i then J else I (.call i es)
  |none=>(qI.findIdx? (c9 x)).map fun c=>.new c es
noncomputable def one:az→Option ao
 | .cons a .nil=>I a
 |_=>J
noncomputable def DT(po:ao):az→Option ao
 | .cons a .nil=>I (.qE po a)
 | .cons a (.cons b .nil)=>I (.pe po a b)
 |_=>J
def yE(n:Str)(po:ao)(es:az):Option ao:=if c9 n "append" then(one es).map (.append po)else if c9 n "extend" then(one es).map (.extend po)else if c9 n "get" then DT po es else(jU n).map fun k=>.uL po k es
noncomputable def DU(cx:bV)(f:Expr)(args:List Expr)(pos:Pos)(hd:Option ao)(es:Option az)(bs:Option ao):Option ao:=match f with
 | .Name x _=>if(cx.var x).isSome|| !cx.gl x then J else if c9 x "isinstance" then(match args with
   |[_,t]=>hd.bind fun bx=>(yD cx t).map fun b=>.bi b (.cons bx .nil)
   |_=>J)else es.bind (sk x)
 | .Attribute _ n apos=>if !(apos.endLine==pos.line&&U (args.length<30))then J else bs.bind fun po=>es.bind fun es=>yE n po es
 |_=>J
mutual
noncomputable def aW(cx:bV):Expr→Option ao
 | .Constant c _ _=>Nu c
 | .Name x _=>yC cx x
 | .BinOp a o b _=>(sj o).bind fun o=>(aW cx a).bind fun a=>(aW cx b).map fun b=>.bin o a b
 | .UnaryOp o a _=>Nv o (aW cx a)
 | .BoolOp op es _=>cBool cx op es
 | .Compare a os bs _=>(aW cx a).bind fun a=>(dv cx bs).bind fun bs=>DS a os bs
 | .IfExp t a b _=>(aW cx t).bind fun t=>(aW cx a).bind fun a=>(aW cx b).map fun b=>.k0 t a b
 | .Attribute e n _=>(jU n).bind fun n=>(aW cx e).map fun e=>.attr e n
 | .Subscript e i _=>(aW cx e).bind fun e=>match i with
  | .Slice lo aw st _=>yA e lo aw st
  |i=>(aW cx i).map fun i=>.item e i
 | .Tuple es _ _=>(dv cx es).map .tup
 | .List es _=>(dv cx es).map .lst
 | .Dict a8 vs _=>if a8.isEmpty&&vs.isEmpty then I .cw else if a8.length≠vs.length then J else(keysOf a8).bind fun a8=>(mQ cx vs).map fun vs=>.e9 a8 vs
 | .Call f args yF pos=>if yF.isEmpty then DU cx f args pos (u0 cx args) (dv cx args) (DV cx f)else J
 | .ListComp elt gens scope _=>match gens with
  |[⟨tgt,iter,ifs,k⟩]=>if k≠0 then J else(jV (d8 cx scope tgt) tgt).bind fun aF=>(l0 cx iter (aW cx iter) (mR cx iter)).bind fun src=>if !mP aF src|| !uZ cx scope tgt then J else(aW (d8 cx scope tgt) elt).bind fun elt=>if ifs.isEmpty then I (.comp elt aF src)else if ifs.length≠1 then J else(u0 (d8 cx scope tgt) ifs).map fun c=>.sa elt aF src c
  |_=>J
 |_=>J
noncomputable def DV(cx:bV):Expr→Option ao
 | .Attribute o _ _=>aW cx o
 |_=>J
noncomputable def u0(cx:bV):List Expr→Option ao
 |[]=>J
 |e::_=>aW cx e
noncomputable def mR(cx:bV):Expr→Option az
 | .Call _ args yF _=>if yF.isEmpty then dv cx args else J
 |_=>J
noncomputable def dv(cx:bV):List Expr→Option az
 |[]=>I .nil
 |e::r=>(aW cx e).bind fun e=>(dv cx r).map fun r=>.cons e r
noncomputable def mQ(cx:bV):List Expr→Option az
 |[]=>I .nil
 |e::r=>(match e with
   | .List es _=>(dv cx es).map ao.jk
   | .Subscript e i _=>if uY i then(aW cx e).map ao.pd else J
   |e=>aW cx e).bind fun e=>(mQ cx r).map fun r=>.cons e r
noncomputable def cBool(cx:bV):rQ→List Expr→Option ao
 |_,[]=>J
 |op,e::r=>match r with
  |[]=>aW cx e
  |r=>(aW cx e).bind fun e=>(cBool cx op r).map fun r=>match op with
   | .And=>.and e r
   | .Or=>.or e r
end
noncomputable def u1(cx:bV):Expr→Option Expr
 | .Call f as a8 _=>match as with
  |[a]=>(match f with
   | .Name x _=>if c9 x "list"&&(cx.var x).isNone&&cx.gl x&&a8.isEmpty then I a else J
   |_=>J)
  |_=>J
 |_=>J
noncomputable def listOf:Expr→Option (List Expr)
 | .List es _=>I es
 |_=>J
noncomputable def k5:Expr→Option (List Expr)
 | .Tuple es _ _=>I es
 |_=>J
def pq(cx:bV)(e:Expr):Option ao:=match listOf e with
 |some es=>(dv cx es).map .jk
 |none=>aW cx e
def u2(cx:bV)(e:Expr):Option ao:=match u1 cx e with
 |some a=>(aW cx a).map .r'
 |none=>pq cx e
noncomputable def Nw(cx:bV):Expr→Bool
 | .Name x _=>cx.Nt.any (c9 x)
 | .Subscript .. =>true
 |_=>false
def l1(cx:bV)(t e:Expr):Option ao:=if Nw cx t then u2 cx e else aW cx e
mutual
noncomputable def iy(cx:bV):Expr→Option dS
 | .Name x _=>(cx.ak x).map .loc
 | .Attribute e n _=>(jU n).bind fun n=>(aW cx e).map fun e=>.attr e n
 | .Subscript e i _=>(aW cx e).bind fun e=>(aW cx i).map fun i=>.item e i
 | .Tuple ts _ _=>(jW cx ts).map .tup
 |_=>J
noncomputable def jW(cx:bV):List Expr→Option dI
 |[]=>I .nil
 |t::r=>(iy cx t).bind fun t=>(jW cx r).map fun r=>.cons t r
end
noncomputable def n3(cx:bV):List Expr→List Expr→Option az
 |[],[]=>I .nil
 |t::ts,e::es=>(l1 cx t e).bind fun e=>(n3 cx ts es).map fun es=>.cons e es
 |_,_=>J
noncomputable def sl(es:List Expr):Bool:=U (es.length≤100)&&(!es.all (constantsAlone 8)||es.all (foldedForSure 8))
def yG(cx:bV)(t e:Expr):Option c8:=match k5 t,k5 e with
 |some ts,I es=>if sl es then(jW cx ts).bind fun yH=>(n3 cx ts es).map fun es=>.jS yH es else J
 |_,_=>(iy cx t).bind fun t'=>(l1 cx t e).map fun e=>.assign t' e
noncomputable def DW(cx:bV)(o:Operator)(e:Expr):Expr→Option c8
 | .Name x _=>if o= .Add then(cx.ak x).bind fun i=>(aW cx e).map fun e=>.aug i e else J
 | .Subscript a i _=>if o= .Add then(aW cx a).bind fun a=>(aW cx i).bind fun i=>(aW cx e).map fun e=>.pf a i e else J
 |_=>J
noncomputable def isCall:Expr→Bool
 | .Call .. =>true
 |_=>false
mutual
noncomputable def n4(cx:bV):Stmt→Option c8
 | .Assign ts e _=>match ts with
  |[t]=>yG cx t e
  |_=>J
 | .AugAssign t o e _=>DW cx o e t
 | .If t a b _=>(aW cx t).bind fun t=>(ks cx a).bind fun a=>(ks cx b).map fun b=>.ite t a b
 | .For t it b r _=>if !r.isEmpty then J else(jV cx t).bind fun aF=>(l0 cx it (aW cx it) (mR cx it)).bind fun s=>if !mP aF s then J else(ks cx b).map fun b=>.mL aF s b
 | .While t b r _=>if !r.isEmpty then J else(aW cx t).bind fun t=>(ks cx b).map fun b=>.sb t b
 | .Return r _=>match r with
  |some e=>(pq cx e).map .ret
  |none=>J
 | .Expr e _=>if isCall e then(aW cx e).map .expr else J
 | .Continue _=>I .cont
 | .Pass _=>I .pass
 | .Raise .. =>I .raise
 |_=>J
noncomputable def ks(cx:bV):List Stmt→Option bD
 |[]=>I .nil
 |s::r=>(n4 cx s).bind fun s=>(ks cx r).map fun r=>.cons s r
end
noncomputable def DX(f:Nat):List String:=match f with
 |22=>["found"]
 |26=>["row","found"]
 |28=>["found"]
 |29=>["row"]
 |34=>["kept","best","least"]
 |36=>["found"]
 |46=>["parts"]
 |48=>["parts"]
 |_=>[]
def ps(f:Nat):Stmt:=[st 12,st 13,st 14,st 15,st 21,mt 24 0,st 31,mt 32 0,mt 33 1,mt 34 1,mt 35 1,mt 36 1,mt 37 1,st 38,mt 46 0,mt 46 1,mt 46 2,mt 47 0,mt 48 0,mt 49 0,st 50,st 51,st 52,st 53,st 54,st 55,st 56,st 57,st 58,st 59,st 60,st 61,st 62,st 63,st 64,st 65,st 66,st 67,st 69,st 70,st 71,st 72,st 73,st 74,st 75,st 76,st 77,st 78,st 79,st 80,st 81,st 82,st 83,st 84,st 85].getD f default
noncomputable def slotsOf(sc:Scope):List (Str×Nat):=((sc.names.filter fun x=>x.2== .local||x.2== .cell).map (·.1)).zipIdx
structure l2 where
 np:Nat
 ns:Nat
 dflt:List V
 rc:Bool
 body:bD
noncomputable def iT(f:Nat):List V:=match f with
 |5=>[.int 0,.int 0,.int 0,.int 0,.int 0]
 |9=>[.bB]
 |14=>[.int 0,.int 1,.tup [],.int 0]
 |_=>[]
noncomputable def yI(n:Nat)(c:Cell):Bool:=match c with
 | .inst _ fs=>uU n fs
 | .e9 _=>false
 |_=>true
noncomputable def DY(f:Nat):Bool:=f==38
def bl(f:Nat):Option l2:=match ps f with
 | .FunctionDef _ a b _ _ _ sc _ _ _=>
  let vars:=slotsOf sc
  (ks ⟨vars,DX f,vars.length,sc.names.filterMap (fun(x,ej)=>if ej== .globalImplicit then I x else J),[],sc.names.filterMap (fun(x,ej)=>if ej== .cell then I x else J)⟩ b).map fun body=>⟨a.args.length,vars.length+3,iT f,DY f,body⟩
 |_=>J
noncomputable def k6:R→X
 | .ret x=>x
 |_=>.v .bB
noncomputable def DZ(rc:Bool)(k:Nat)(st:St):Cell→Option (X×List Cell×Nat)
 | .lst xs=>if rc then I (.cell k,st.heap.take k++[.lst xs],st.tag)else I (.v (.lst xs),st.heap.take k,st.tag)
 | .inst c fs=>if(mN fs).isSome then I (.cell k,st.heap.take k++[.inst c fs],st.tag)else J
 |_=>J
noncomputable def sm(rc:Bool)(k:Nat)(x:X)(st:St):Option (X×List Cell×Nat):=match x with
 | .v v=>I (.v v,st.heap.take k,st.tag)
 | .cell i=>if k≤i then(st.heap[i]?).bind (DZ rc k st)else J
def l3(k b:Nat)(st:St):Bool:=U (st.base=b)&&U (k≤st.heap.length)&&(U (k=b)||(U (k=b+1)&&(st.heap[b]?).any (yI (b+1))))
noncomputable def qK(fn:l2)(xs:List X):List (Option X):=(xs++(fn.dflt.drop (fn.dflt.length-(fn.np-xs.length))).map X.v).map I++xK (fn.ns-fn.np) J
noncomputable def bu(fns:Nat→Option l2):Nat→Calls
 |0=>fun ag ag ag ag ag=>J
 |n+1=>fun f xs h t b=>(fns f).bind fun fn=>if xs.length≤fn.np∧fn.np≤xs.length+fn.dflt.length then
   aY (bI (bu fns n) fn.body ⟨qK fn xs,h,t,b⟩) fun r st=>if l3 h.length b st then sm fn.rc h.length (k6 r) st else J
  else J
end Tactic
end
section
open PySem PySem.W PySem.Calls PyProof.Rows
namespace Tactic
inductive D0{α β:Type}(o:Option (α×St))(f:α→St→Option β)(b:β):Prop where
 |mk (x:α) (s:St) (e:o=I (x,s)) (h:f x s=I b):D0 o f b
theorem b2{α β:Type}{o:Option (α×St)}{f:α→St→Option β}{b:β}(h:aY o f=I b):D0 o f b:=match o,h with
 |some (x,s),h=>⟨x,s,rfl,h⟩
inductive dD{α β:Type}(o:Option α)(f:α→Option β)(b:β):Prop where
 |mk (a:α) (e:o=I a) (h:f a=I b):dD o f b
theorem aU{α β:Type}{o:Option α}{f:α→Option β}{b:β}(h:o.bind f=I b):dD o f b:=match o,h with
 |some a,h=>⟨a,rfl,h⟩
inductive D1{α β:Type}(o:Option α)(f:α→β)(b:β):Prop where
 |mk (a:α) (e:o=I a) (h:f a=b):D1 o f b
theorem omap{α β:Type}{o:Option α}{f:α→β}{b:β}(h:o.map f=I b):D1 o f b:=match o,h with
 |some a,h=>⟨a,rfl,Option.some.inj h⟩
theorem c1{α:Type}{c:Prop}[Decidable c]{o:Option α}{b:α}(h:(if c then o else J)=I b):c∧o=I b:=by
 refine bZ (fun ah:c=>?_) (fun ah=>?_)
 ·rw[if_pos ah]at h;exact⟨ah,h⟩
 ·rw[if_neg ah]at h;cases h
theorem ht{α:Type}{c:Prop}[Decidable c]{o:Option α}{b:α}(h:(if c then J else o)=I b):¬c∧o=I b:=by
 refine bZ (fun ah:c=>?_) (fun ah=>?_)
 ·rw[if_pos ah]at h;cases h
 ·rw[if_neg ah]at h;exact⟨ah,h⟩
theorem pw{α:Type}{c:Prop}[Decidable c]{a b:Option α}{r:α}(h:(if c then a else b)=I r):(c∧a=I r)∨(¬c∧b=I r):=by
 refine bZ (fun ah:c=>?_) (fun ah=>?_)
 ·rw[if_pos ah]at h;exact .inl ⟨ah,h⟩
 ·rw[if_neg ah]at h;exact .inr ⟨ah,h⟩
theorem h3{α:Type}{c:Prop}[Decidable c]{a b:Option α}{r:α}(h:(if c then a else b)=I r):(c∧a=I r)∨b=I r:=(pw h).imp id qp
theorem cQ{α:Type}{a:α}{p:Prop}(h:J=I a):p:=nomatch h
noncomputable abbrev a4:Program:=PySem.Challenge.pw_tu0005_01
noncomputable def nm(n:Nat):Str:=Str.ofString (nZ.getD n "")
noncomputable def dE:Nat→Addr:=fun c=>match c with
 |0=>227|1=>275|2=>296|3=>318|4=>339|5=>360|6=>381|7=>434|8=>455|9=>476|10=>497|_=>0
structure a3 where
 F:Addr→Obj→Prop
 t:List Addr
 p:List (Addr×Addr)
structure a3.le(a b:a3):Prop where
 F:∀x o,a.F x o→b.F x o
 t:a.t<+:b.t
 p:a.p<+:b.p
theorem a3.le.rfl{a:a3}:a.le a:=⟨fun ag ag h=>h,iq _,iq _⟩
theorem a3.le.trans{a b c:a3}(x:a.le b)(y:b.le c):a.le c:=⟨fun ag ag h=>y.F _ _ (x.F _ _ h),x.t.trans y.t,x.p.trans y.p⟩
theorem l4{α:Type}{l dh:List α}(h:l<+:dh){i:Nat}{a:α}(e:l[i]? =I a):dh[i]? =I a:=by obtain⟨r,rfl⟩:=h;have:i<l.length:=(d7.mp e).1;erw[mE this];exact e
noncomputable def NsObj(o:Obj)(m:Str→Option Value):Prop:=∃es ep,o.data= .dict es ep∧StrKeys es∧∀name,nsFind es name=m name
theorem NsObj.ns{h:Heap}{a:Addr}{o:Obj}{m}(x:NsObj o m)(e:h.get? a=I o):h.Ns a m:=by obtain⟨es,ep,d,r⟩:=x;exact⟨o,es,ep,e,d,r⟩
theorem Ns.obj{h:Heap}{a:Addr}{m}(x:h.Ns a m):∃o,h.get? a=I o∧NsObj o m:=by obtain⟨o,es,ep,e,d,r⟩:=x;exact⟨o,e,es,ep,d,r⟩
noncomputable def D2(o:Obj)(T:String)(vs:List Value):Prop:=∃n,o={cls:=.type T,data:=.seq vs.toArray n}
inductive dc(W:a3):V→Value→Prop where
 |bB:dc W .bB .none
 |bool (b):dc W (.bool b) (.bool b)
 |int (i t):dc W (.int i) (.int i t)
 |str (n t):dc W (.str n) (.str (nm n) t)
 |tup {xs:List V} {vs:List Value} {a:Addr} {o:Obj} (f:W.F a o) (s:D2 o "tuple" vs) (l:vs.length=xs.length) (e:∀(i:Nat) (x:V) (v:Value),xs[i]? =I x→vs[i]? =I v→dc W x v):dc W (.tup xs) (.ref a)
 |lst {xs:List V} {vs:List Value} {a:Addr} {o:Obj} (f:W.F a o) (s:D2 o "list" vs) (l:vs.length=xs.length) (e:∀(i:Nat) (x:V) (v:Value),xs[i]? =I x→vs[i]? =I v→dc W x v):dc W (.lst xs) (.ref a)
 |obj {t:Option Nat} {c:Nat} {fs:List (Nat×V)} {x dx:Addr} {od:Obj} {m:Str→Option Value} {g:Nat→Value} (f:W.F x (instObj (dE c) dx)) (fd:W.F dx od) (n:NsObj od m)
   (a5:∀i,t=I i→W.t[i]? =I x) (ex:∀s v,m s=I v→∃n y,s=nm n∧er n fs=I y) (g1:∀n y,er n fs=I y→m (nm n)=I (g n)) (g2:∀n y,er n fs=I y→dc W y (g n)):dc W (.obj t c fs) (.ref x)
theorem dc.mono{W W':a3}(h:W.le W'){v:V}{x:Value}(r:dc W v x):dc W' v x:=by
 induction r with
 |bB=>exact .bB
 |bool b=>exact .bool b
 |int i t=>exact .int i t
 |str n t=>exact .str n t
 |tup f s l _ aG=>exact .tup (h.F _ _ f) s l aG
 |lst f s l _ aG=>exact .lst (h.F _ _ f) s l aG
 |obj f fd n a5 ex g1 _ aG=>exact .obj (h.F _ _ f) (h.F _ _ fd) n (fun i e=>l4 h.t (a5 i e)) ex g1 aG
noncomputable def b8(W:a3):X→Value→Prop
 | .v v,x=>dc W v x
 | .cell i,x=>∃q,W.p[i]? =I q∧x= .ref q.1
theorem b8.mono{W W':a3}(h:W.le W'){v:X}{x:Value}(r:b8 W v x):b8 W' v x:=by
 induction v using X.casesOn with
 |v v=>exact dc.mono h r
 |cell i=>obtain⟨q,e,aC⟩:=r;exact⟨q,l4 h.p e,aC⟩
def b5(W:a3)(xs:List V)(vs:List Value):Prop:=vs.length=xs.length∧∀(i:Nat) (x:V) (v:Value),xs[i]? =I x→vs[i]? =I v→dc W x v
theorem b5.mono{W W':a3}(h:W.le W'){xs:List V}{vs:List Value}(r:b5 W xs vs):b5 W' xs vs:=⟨r.1,fun i x v a b=>(r.2 i x v a b).mono h⟩
theorem b5.nil{W:a3}:b5 W [] []:=⟨rfl,fun i x v a=>by simp at a⟩
theorem b5.cons{W:a3}{x:V}{v:Value}{xs:List V}{vs:List Value}(a:dc W x v)(b:b5 W xs vs):b5 W (x::xs) (v::vs):=⟨by simp[b.1],fun i y u aa ab=>by induction i using fe with
  |zero=>simp at aa ab;subst aa ab;exact a
  |succ i=>simp at aa ab;exact b.2 i y u aa ab⟩
theorem b5.so{W:a3}{x:V}{xs:List V}{vs:List Value}(h:b5 W (x::xs) vs):∃v r,vs=v::r∧dc W x v∧b5 W xs r:=by
 induction vs using bY with
 |nil=>simp[b5]at h
 |cons v r=>exact⟨v,r,rfl,h.2 0 x v rfl rfl,by simpa using h.1,fun i y u aa ab=>h.2 (i+1) y u (by simpa using aa) (by simpa using ab)⟩
theorem b5.u3{W:a3}{vs:List Value}(h:b5 W [] vs):vs=[]:=by induction vs using bY with|nil=>rfl|cons v r=>simp[b5]at h
theorem b5.get{W:a3}{xs:List V}{vs:List Value}(h:b5 W xs vs){i:Nat}{x:V}(e:xs[i]? =I x):∃v,vs[i]? =I v∧dc W x v:=by have aw:i<xs.length:=(d7.mp e).1;have aJ:=h.1▸aw;exact⟨vs[i],gp aJ,h.2 i x _ e (gp aJ)⟩
theorem b5.append{W:a3}{xs aS:List V}{vs us:List Value}(a:b5 W xs vs)(b:b5 W aS us):b5 W (xs++aS) (vs++us):=by
 refine⟨by simp[a.1,b.1],fun i x v aa ab=>?_⟩;refine bZ (fun aw:i<xs.length=>?_) (fun aw=>?_)
 ·rw[mE aw]at aa;rw[mE (a.1▸aw)]at ab;exact a.2 i x v aa ab
 ·rw[iP (uE ‹_›)]at aa;rw[iP (by have:=a.1;exact Mm ‹_› ‹_›)]at ab;rw[a.1]at ab;exact b.2 _ x v aa ab
noncomputable def cM(W:a3):List X→List Value→Prop
 |[],[]=>True
 |x::xs,v::vs=>b8 W x v∧cM W xs vs
 |_,_=>False
theorem cM.mono{W W':a3}(h:W.le W'):∀{xs:List X} {vs:List Value},cM W xs vs→cM W' xs vs
 |[],[],_=>trivial
 |_::_,_::_,r=>⟨r.1.mono h,cM.mono h r.2⟩
 |[],_::_,r=>r.elim
 |_::_,[],r=>r.elim
noncomputable def iU(bd:Nat):X→Prop
 | .v _=>True
 | .cell j=>j<bd
inductive LstAt(W:a3)(h:Heap)(q:Addr×Addr)(xs:List V):Prop where
 |mk (e:q.1=q.2) (vs:List Value) (p:h.PlainList q.2 vs.toArray) (r:b5 W xs vs):LstAt W h q xs
inductive D3(w:World)(W:a3)(h:Heap)(q:Addr×Addr)(kvs:List (Int×V)):Prop where
 |mk (e:q.1=q.2∧(q.2==sysModules)=false) (a8:List (Int×Value)) (d:h.DictOf (intKind a4 w) q.2 a8) (k:a8.map (·.1)=kvs.map (·.1)) (r:b5 W (kvs.map (·.2)) (a8.map (·.2))):D3 w W h q kvs
inductive D4(w:World)(W:a3)(h:Heap)(bd:Nat)(q:Addr×Addr)(kvs:List (Nat×X)):Prop where
 |mk (e:q.1=q.2∧(q.2==sysModules)=false) (a8:List (Str×Value)) (d:h.DictOf (strKind a4 w) q.2 a8) (k:a8.map (·.1)=kvs.map (fun x=>nm x.1)) (r:cM W (kvs.map (·.2)) (a8.map (·.2))) (b:∀x∈kvs,iU bd x.2):D4 w W h bd q kvs
inductive D5(W:a3)(h:Heap)(bd:Nat)(q:Addr×Addr)(c:Nat)(fs:List (Nat×X)):Prop where
 |mk (f:W.F q.1 (instObj (dE c) q.2)) (m:Str→Option Value) (hm:h.Ns1 q.2 m) (ex:∀s v,m s=I v→∃n y,s=nm n∧er n fs=I y) (g:∀n y,er n fs=I y→iU bd y∧∃v,m (nm n)=I v∧b8 W y v):D5 W h bd q c fs
noncomputable def e'(w:World)(W:a3)(h:Heap)(bd:Nat)(q:Addr×Addr):Cell→Prop
 | .gone=>True
 | .lst xs=>LstAt W h q xs
 | .cw kvs=>D3 w W h q kvs
 | .e9 kvs=>D4 w W h bd q kvs
 | .inst c fs=>D5 W h bd q c fs
structure bS where
 env:Env
 vars:List (Str×Nat)
 bd:Nat→Nat
 sr:List Str
noncomputable def bS.e2(fm:bS)(x:Str):Option NameKind:=if x∈fm.sr then I .free else fm.env.kindOf x
theorem bS.n5{fm:bS}{x:Str}{k:NameKind}(h:fm.e2 x=I k)(ai:k≠ .free):fm.env.kindOf x=I k:=by
 unfold bS.e2 at h
 split at h
 ·cases h;exact absurd rfl ai
 ·exact h
noncomputable def su:Cell→Bool
 | .gone=>false
 |_=>true
inductive qL(W:a3)(v:Option Value)(y:X):Prop where
 |mk (z:Value) (e:v=I z) (r:b8 W y z):qL W v y
theorem qL.mono{W W':a3}{v:Option Value}{y:X}(h:W.le W')(x:qL W v y):qL W' v y:=by obtain⟨z,e,r⟩:=x;exact⟨z,e,r.mono h⟩
inductive hu(fm:bS)(a:Addr):Prop where
 |loc (e:a=fm.env.locals):hu fm a
 |cell (x:Str) (i:Nat) (aa:fm.vars.lookup x=I i) (ab:fm.e2 x=I .cell) (aq:fm.env.cells.lookup x=I a):hu fm a
def Nx(W:a3)(fm:bS)(loc:List (Option X))(m:Str→Option Value):Prop:=∀x (i:Nat) v,fm.vars.lookup x=I i→fm.e2 x=I .local→loc[i]? =I (I v)→qL W (m x) v
def SlotG(W:a3)(loc:List (Option X))(i:Nat)(v:Option Value):Prop:=∀y,loc[i]? =I (I y)→qL W v y
inductive yJ(W:a3)(fm:bS)(loc:List (Option X))(h:Heap):Prop where
 |mk (m:Str→Option Value) (hm:h.Ns fm.env.locals m) (g:Nx W fm loc m):yJ W fm loc h
inductive yK(W:a3)(fm:bS)(loc:List (Option X))(h:Heap)(x:Str)(i:Nat):Prop where
 |mk (c:Addr) (v:Option Value) (e:fm.env.cells.lookup x=I c) (n:c≠fm.env.locals) (f:h.IsCell c v) (g:SlotG W loc i v):yK W fm loc h x i
inductive u4(G:Addr→Obj→Prop)(W:a3)(fm:bS)(loc:List (Option X))(x:Str)(i:Nat):Prop where
 |mk (c:Addr) (v:Option Value) (o:Obj) (e:fm.env.cells.lookup x=I c) (g:G c o) (d:o.data= .cell v) (r:SlotG W loc i v):u4 G W fm loc x i
structure ku(G:Addr→Obj→Prop)(W:a3)(fm:bS)(loc:List (Option X))(h:Heap):Prop where
 ns:yJ W fm loc h
 jn:∀x (i:Nat),fm.vars.lookup x=I i→fm.e2 x=I .cell→yK W fm loc h x i
 jo:∀x (i:Nat),fm.vars.lookup x=I i→fm.e2 x=I .free→u4 G W fm loc x i
inductive gD(p:List (Addr×Addr))(l:List Cell)(i:Nat)(c:Cell)(q:Addr×Addr):Prop where
 |mk (aa:l[i]? =I c) (ab:su c=true) (aq:p[i]? =I q):gD p l i c q
inductive yL(p:List (Addr×Addr))(fm:bS)(l:List Cell)(a:Addr):Prop where
 |fr (h:hu fm a):yL p fm l a
 |hp (i:Nat) (c:Cell) (q:Addr×Addr) (h:gD p l i c q) (e:q.2=a):yL p fm l a
abbrev fT(W:a3)(fm:bS)(st:St)(a:Addr):Prop:=yL W.p fm st.heap a
theorem hu.eq{fm:bS}{a b:Addr}(h:hu fm b)(e:a=b):hu fm a:=e▸h
noncomputable def hv(fm:bS)(b n i:Nat):Nat:=if i<b then fm.bd i else n
theorem yM{fm:bS}{b n i:Nat}(h:b≤i):hv fm b n i=n:=if_neg (kU.mpr h)
theorem yN{fm:bS}{b n i:Nat}(h:i<b):hv fm b n i=fm.bd i:=if_pos h
structure Rel(w:World)(ae:Heap)(G:Addr→Obj→Prop)(W:a3)(fm:bS)(st:St)(s:Shared):Prop where
 cD:∀a o,W.F a o→s.heap.get? a=I o
 e3:∀a o,G a o→s.heap.get? a=I o
 len:W.p.length=st.heap.length
 tag:W.t.length=st.tag
 cl:∀{i c q},gD W.p st.heap i c q→e' w W s.heap (hv fm st.base st.heap.length i) q c
 apart:∀{i j c d q r},gD W.p st.heap i c q→gD W.p st.heap j d r→q.2=r.2→i=j
 fU:∀a,fT W fm st a→∀o,¬W.F a o
 eB:∀a,fT W fm st a→∀o,¬G a o
 g9:∀{i c q},gD W.p st.heap i c q→¬hu fm q.2
 lo:ku G W fm st.loc s.heap
 gens:s.gens= #[]
 cP:st.base≤st.heap.length
 fz:∀a o br,W.F a o→¬G a br
 base:∀a o,ae.get? a=I o→W.F a o
 above:ae.objs.size≤fm.env.locals
 n6:∀i,i<st.base→fm.bd i≤st.base
structure cH(w:World)(ae:Heap)(cb cm:Str→Option Value):Prop where
 K:(H.c7 w.params).In ae
 g:ae.Ns mainGlobals cb
 b:ae.Ns builtinsNs cm
 lim:ae.NoLimit
 blt:∀x:Str,x≠"__name__"→cm x=bootBuiltins x
structure d1(n:Nat)(A:Around):Prop where
 h:A.handled=J
 d:A.depth+3*n+110<recursionLimit
 u:A.units+60*n+60<cLine
inductive d9(w:World)(ae:Heap)(G:Addr→Obj→Prop)(W:a3)(fm:bS)(s:Shared)(st':St)(x:X)(v:Value)(s':Shared):Prop where
 |mk (W':a3) (l:W.le W') (R:Rel w ae G W' fm st' s') (r:b8 W' x v) (o:s'.os=s.os):d9 w ae G W fm s st' x v s'
noncomputable abbrev bL:Value→Shared→Prop:=fun ag ag=>False
structure Off(G:Addr→Obj→Prop)(W:a3)(fm:bS)(st:St)(a:Addr):Prop where
 o:¬fT W fm st a
 f:∀o,¬W.F a o
 g:∀o,¬G a o
noncomputable def Ny:List Addr:=[89,96,103,110,145,174,258,272,293,315,336,357,378,390,417,424,431,452,473,494,508,515,522,529,536,543,550,557,564,571,576,583,590,597,604,611,618,625,632,639,646,653,660,667,674,679,686,693,698,705,712,719,724,729,734]
def g'(f:Nat):Addr:=Ny.getD f 0
structure px(n:Nat)(A:Around):Prop where
 h:A.handled=J
 d:A.depth+3*n+108<recursionLimit
 u:A.units+60*n+40<cLine
structure eC(w:World)(ae:Heap)(C:Calls)(n:Nat):Prop where
 fn:∀{A G W fm st s f xs us x h t},px n A→Rel w ae G W fm st s→cM W xs us→f<55→C f xs st.heap st.tag st.heap.length=I (x,h,t)→wpAny (model a4 w) A (call (.ref (g' f)) us) (d9 w ae G W fm s {st with heap:=h,tag:=t} x) bL s
 init:∀{A G W fm st s c xs us h t x dx},px n A→Rel w ae G W fm st s→cM W xs us→c<11→s.heap.get? x=I (instObj (dE c) dx)→s.heap.get? dx=I emptyDict→Off G W fm st x→Off G W fm st dx→x≠dx→C (gC c) (.cell st.heap.length::xs) (st.heap++[.inst c []]) st.tag st.heap.length=I (.v .bB,h,t)→codeAny (model a4 w) A (.call (.ref (g' (gC c))) ⟨.ref x::us,[]⟩) (fun r s'=>r= .ok (.ret .none)∧∃W',W.le W'∧W'.p=W.p∧Rel w ae G W' fm {st with heap:=h.take st.heap.length,tag:=t} s'∧h.length=st.heap.length+1∧(∀dr fs,h[st.heap.length]? =I (.inst dr fs)→Off G W' fm {st with heap:=h.take st.heap.length,tag:=t} dx∧e' w {W' with p:=W'.p++[(x,dx)]} s'.heap (st.heap.length+1) (x,dx) (.inst dr fs))∧s'.os=s.os) s
def jX(fm:bS)(st:St)(sc:Scope)(env:Env):bS:=⟨env,slotsOf sc,hv fm st.base st.heap.length,[]⟩
inductive D6(env:Env)(h aa:Heap)(y:Str):Prop where
 |mk (c:Addr) (v:Option Value) (e:env.cells.lookup y=I c) (n:c≠env.locals) (f:aa.IsCell c v) (z:h.get? c=J):D6 env h aa y
structure Made(fm:bS)(st:St)(s:Shared)(sc:Scope)(env:Env)(aa:Heap):Prop where
 es:env.scope=sc
 nd:(sc.names.map (·.1)).Nodup
 loc:env.locals=s.heap.objs.size
 keep:∀b o,s.heap.get? b=I o→aa.get? b=I o
 ns:∃m,aa.Ns env.locals m
 cells:∀y (i:Nat),(slotsOf sc).lookup y=I i→(jX fm st sc env).e2 y=I .cell→D6 env s.heap aa y
def D7(w:World)(ae:Heap)(G0:Addr→Obj→Prop)(W1:a3)(fm:bS)(st:St)(ext:List Cell)(s:Shared):Prop:=∀{sc:Scope} {env:Env} {jY:Heap} {tk:Nat},Made fm st s sc env jY→Rel w ae G0 W1 (jX fm st sc env) {st with loc:=[],base:=st.heap.length,heap:=st.heap++ext} {s with heap:=jY,toks:=tk}
noncomputable def D8(W:a3)(v:Value):R→Prop
 | .ret x=>b8 W x v
 |_=>v= .none
def yO(w:World)(ae:Heap)(C:Calls)(n:Nat):Prop:=∀{A:Around} {W1:a3} {fm:bS} {st et:St} {s:Shared} {f:Nat},f<55→∀{fn:l2},bl f=I fn→px (n+1) A→∀{ext:List Cell} {G0:Addr→Obj→Prop},(∀b o,ae.get? b=I o→s.heap.get? b=I o)→(∀a o,ae.get? a=I o→W1.F a o)→D7 w ae G0 W1 fm st ext s→∀{xs:List X} {us:List Value},cM W1 xs us→xs.length≤fn.np→fn.np≤xs.length+fn.dflt.length→∀{r:Tactic.R} {kx:Result→Shared→Prop},bI C fn.body ⟨(xs++(fn.dflt.drop (fn.dflt.length-(fn.np-xs.length))).map X.v).map I++xK (fn.ns-fn.np) J,st.heap++ext,st.tag,st.heap.length⟩=I (r,et)→(∀{fm':bS} {eD:a3} {h4:Shared} {v:Value},W1.le eD→Rel w ae G0 eD fm' et h4→(∀i,fm'.bd i=hv fm st.base st.heap.length i)→D8 eD v r→h4.os=s.os→kx (.ok (.ret v)) h4)→codeAny (model a4 w) A (.call (.ref (g' f)) ⟨us,[]⟩) kx s
structure mS where
 w:World
 ae:Heap
 cb:Str→Option Value
 cm:Str→Option Value
 n:Nat
def sv(k:mS):Prop:=cH k.w k.ae k.cb k.cm→eC k.w k.ae (bu bl k.n) k.n→eC k.w k.ae (bu bl (k.n+1)) (k.n+1)∧yO k.w k.ae (bu bl k.n) k.n
theorem mS.some:Nonempty mS:=⟨⟨⟨fun ag ag=>0,{strHash:=fun ag=>0,shareClass:=fun ag=>0,mergeTok:=id,idOf:=fun ag=>0,idOfShared:=fun ag ag=>0,followText:=fun ag=>false,idOfImm:=fun ag=>0}⟩,default,fun ag=>J,fun ag=>J,0⟩⟩
def qM:mS:= @Classical.epsilon mS mS.some fun k=>¬sv k
def w:World:=qM.w
def ae:Heap:=qM.ae
def cb:Str→Option Value:=qM.cb
def cm:Str→Option Value:=qM.cm
def n:Nat:=qM.n
def C:Calls:=bu bl n
theorem Nz(h:sv qM)(k:mS):sv k:=eA fun x=>absurd h (@Classical.epsilon_spec mS (fun k=>¬sv k) ⟨k,x⟩)
variable{G:Addr→Obj→Prop}{W W':a3}{fm:bS}{st:St}{s:Shared}
theorem DictOf.at'{K:Type}[DecidableEq K]{knd:KeyKind a4 w K}{h h':Heap}{a:Addr}{a8:List (K×Value)}(x:h.DictOf knd a a8)(ai:∀o,h.get? a=I o→h'.get? a=I o):h'.DictOf knd a a8:=by obtain⟨o,es,ep,aO,r⟩:=x;exact⟨o,es,ep,ai o aO,r⟩
theorem IsCell.at'{h h':Heap}{a:Addr}{v}(x:h.IsCell a v)(ai:∀o,h.get? a=I o→h'.get? a=I o):h'.IsCell a v:=by obtain⟨o,aO,r⟩:=x;exact⟨o,ai o aO,r⟩
theorem e'.at'{h h':Heap}{bd:Nat}{q:Addr×Addr}{c:Cell}(x:e' w W h bd q c)(ai:∀o,h.get? q.2=I o→h'.get? q.2=I o):e' w W h' bd q c:=by
 induction c using Cell.casesOn with
 |gone=>trivial
 |lst xs=>obtain⟨e,vs,p,r⟩:=x;exact⟨e,vs,p.at ai,r⟩
 |cw kvs=>obtain⟨e,a8,p,k,r⟩:=x;exact⟨e,a8,DictOf.at' p ai,k,r⟩
 |e9 kvs=>obtain⟨e,a8,p,k,r,b⟩:=x;exact⟨e,a8,DictOf.at' p ai,k,r,b⟩
 |inst c fs=>obtain⟨e,m,p,ex,g⟩:=x;exact⟨e,m,p.at ai,ex,g⟩
theorem iU.mono{a b:Nat}(h:a≤b){x:X}(c:iU a x):iU b x:=by induction x using X.casesOn with|v _=>trivial|cell j=>exact ey c h
theorem e'.mono(eG:W.le W'){h:Heap}{bd D9:Nat}(ae:bd≤D9){q:Addr×Addr}{c:Cell}(x:e' w W h bd q c):e' w W' h D9 q c:=by
 induction c using Cell.casesOn with
 |gone=>trivial
 |lst xs=>obtain⟨e,vs,p,r⟩:=x;exact⟨e,vs,p,r.mono eG⟩
 |cw kvs=>obtain⟨e,a8,p,k,r⟩:=x;exact⟨e,a8,p,k,r.mono eG⟩
 |e9 kvs=>obtain⟨e,a8,p,k,r,b⟩:=x;exact⟨e,a8,p,k,r.mono eG,fun y aV=>(b y aV).mono ae⟩
 |inst c fs=>obtain⟨e,m,p,ex,r⟩:=x;exact⟨eG.F _ _ e,m,p,ex,fun n y aA=>⟨(r n y aA).1.mono ae,by obtain⟨v,a,b⟩:=(r n y aA).2;exact⟨v,a,b.mono eG⟩⟩⟩
theorem Ns.at'{h h':Heap}{a:Addr}{m}(x:h.Ns a m)(ai:∀o,h.get? a=I o→h'.get? a=I o):h'.Ns a m:=by obtain⟨o,es,ep,e,r⟩:=x;exact⟨o,es,ep,ai o e,r⟩
theorem Ns.alive{h:Heap}{a:Addr}{m}(x:h.Ns a m):∃o,h.get? a=I o:=by obtain⟨o,_,_,e,_⟩:=x;exact⟨o,e⟩
theorem ku.keep{iz:Addr→Obj→Prop}{loc:List (Option X)}{h h':Heap}(L:ku G W fm loc h)(eG:W.le W')(dF:∀a o,G a o→iz a o)(ai:∀a,hu fm a→∀o,h.get? a=I o→h'.get? a=I o):ku iz W' fm loc h' where
 ns:=by obtain⟨m,hm,g⟩:=L.ns;exact⟨m,Ns.at' hm (ai _ (.loc rfl)),fun x i v a b c=>(g x i v a b c).mono eG⟩
 jn:=fun x i a b=>by obtain⟨c,v,e,n,f,g⟩:=L.jn x i a b;exact⟨c,v,e,n,IsCell.at' f (ai c (.cell x i a b e)),fun y aV=>(g y aV).mono eG⟩
 jo:=fun x i a b=>by obtain⟨c,v,o,e,g,d,r⟩:=L.jo x i a b;exact⟨c,v,o,e,dF _ _ g,d,fun y aV=>(r y aV).mono eG⟩
theorem ku.mono{loc:List (Option X)}{h:Heap}(L:ku G W fm loc h)(eG:W.le W'):ku G W' fm loc h:=L.keep eG (fun ag ag g=>g) fun ag ag ag e=>e
theorem ku.alive{loc:List (Option X)}{h:Heap}(L:ku G W fm loc h){a:Addr}(f:hu fm a):∃o,h.get? a=I o:=by
 rcases f with e|⟨x,i,aa,ab,aq⟩
 ·obtain⟨m,hm,_⟩:=L.ns;exact e▸Ns.alive hm
 ·obtain⟨c,v,e,_,⟨o,aO,_⟩,_⟩:=L.jn x i aa ab;exact⟨o,Option.some.inj (e.symm.trans aq)▸aO⟩
theorem Rel.ns(R:Rel w ae G W fm st s):yJ W fm st.loc s.heap:=R.lo.ns
theorem Rel.jn(R:Rel w ae G W fm st s)(x:Str)(i:Nat)(aa:fm.vars.lookup x=I i)(ab:fm.e2 x=I .cell):yK W fm st.loc s.heap x i:=R.lo.jn x i aa ab
theorem Rel.jo(R:Rel w ae G W fm st s)(x:Str)(i:Nat)(aa:fm.vars.lookup x=I i)(ab:fm.e2 x=I .free):u4 G W fm st.loc x i:=R.lo.jo x i aa ab
theorem Rel.cells(R:Rel w ae G W fm st s)(i:Nat)(c:Cell)(q:Addr×Addr)(aa:st.heap[i]? =I c)(ab:W.p[i]? =I q):e' w W s.heap (hv fm st.base st.heap.length i) q c:=by
 refine bZ (fun h:su c=true=>?_) (fun h=>?_)
 ·exact R.cl ⟨aa,h,ab⟩
 ·cases c<;>first|trivial|exact absurd rfl h
theorem e'.alive{h:Heap}{bd:Nat}{q:Addr×Addr}{c:Cell}(x:e' w W h bd q c)(ar:su c=true):∃o,h.get? q.2=I o:=by
 induction c using Cell.casesOn with
 |gone=>cases ar
 |lst xs=>obtain⟨e,vs,⟨n,p⟩,r⟩:=x;exact⟨_,p⟩
 |cw kvs=>obtain⟨e,a8,⟨o,_,_,aO,_⟩,r⟩:=x;exact⟨o,aO⟩
 |e9 kvs=>obtain⟨e,a8,⟨o,_,_,aO,_⟩,r⟩:=x;exact⟨o,aO⟩
 |inst c fs=>obtain⟨e,m,hm,r⟩:=x;exact Ns.alive hm.ns
theorem Rel.alive(R:Rel w ae G W fm st s){a:Addr}(h:fT W fm st a):∃o,s.heap.get? a=I o:=by
 rcases h with h|⟨i,c,q,l,e⟩
 ·exact R.lo.alive h
 ·exact e▸(R.cl l).alive l.2
theorem Rel.u5(R:Rel w ae G W fm st s){h':Heap}{k:Nat}(ai:∀b o,s.heap.get? b=I o→fT W fm st b∨W.F b o∨G b o→h'.get? b=I o):Rel w ae G W fm st {s with heap:=h',toks:=k}:={R with
  cD:=fun a o f=>ai _ _ (R.cD a o f) (.inr (.inl f))
  e3:=fun a o g=>ai _ _ (R.e3 a o g) (.inr (.inr g))
  cl:=fun{i c q} l=>(R.cl l).at' fun o e=>ai _ _ e (.inl (.hp i c q l rfl))
  lo:=R.lo.keep .rfl (fun ag ag g=>g) fun a f o e=>ai a o e (.inl (.fr f))}
theorem Rel.keep(R:Rel w ae G W fm st s){h':Heap}{k:Nat}(ai:∀b o,s.heap.get? b=I o→h'.get? b=I o):Rel w ae G W fm st {s with heap:=h',toks:=k}:=R.u5 fun b o e ag=>ai b o e
theorem Rel.toks(R:Rel w ae G W fm st s){k:Nat}:Rel w ae G W fm st {s with toks:=k}:=R.keep fun ag ag e=>e
noncomputable def a3.iA(W:a3)(a:Addr)(o:Obj):a3:={W with F:=fun x y=>W.F x y∨(x=a∧y=o)}
theorem a3.gE{a:Addr}{o:Obj}:W.le (W.iA a o):=⟨fun ag ag h=>.inl h,iq _,iq _⟩
theorem mT{o:Option Obj}{x:Obj}(h:o=J)(e:o=I x):False:=by rw[h]at e;cases e
theorem Rel.D'(R:Rel w ae G W fm st s){a:Addr}(h:s.heap.get? a=J):Off G W fm st a:=⟨fun aO=>(R.alive aO).elim fun ag e=>mT h e,fun ag f=>mT h (R.cD _ _ f),fun ag g=>mT h (R.e3 _ _ g)⟩
theorem Rel.h5(R:Rel w ae G W fm st s){a:Addr}(h:s.heap.objs.size≤a):Off G W fm st a:=R.D' (Heap.get?_none_of_le h)
theorem fT.off{a b:Addr}(h:fT W fm st a)(x:Off G W fm st b):a≠b:=fun e=>x.o (e▸h)
theorem Off.ne{a b:Addr}{o:Obj}(x:Off G W fm st b)(h:fT W fm st a∨W.F a o∨G a o):a≠b:=fun e=>h.elim (fun h=>x.o (e▸h)) fun h=>h.elim (fun f=>x.f _ (e▸f)) fun g=>x.g _ (e▸g)
theorem Off.aav{a b:Addr}(x:Off G W fm st b)(h:hu fm a):a≠b:=fT.off (.fr h) x
theorem Rel.mU(R:Rel w ae G W fm st s){a:Addr}{o:Obj}(off:Off G W fm st a)(aO:s.heap.get? a=I o):Rel w ae G (W.iA a o) fm st s:={R with
  cD:=fun b br f=>f.elim (R.cD b br) fun e=>e.1▸e.2▸aO
  cl:=fun l=>(R.cl l).mono a3.gE (bE _)
  fU:=fun b h br f=>f.elim (R.fU b h br) fun e=>off.o (e.1▸h)
  eB:=R.eB
  lo:=R.lo.mono a3.gE
  fz:=fun b a0 cK f g=>f.elim (fun f=>R.fz b a0 cK f g) fun e=>off.g cK (e.1▸g)
  base:=fun a o h=>.inl (R.base a o h)}
theorem Rel.Ea(R:Rel w ae G W fm st s){o:Obj}(hf:o.isFreed=false){k:Nat}:Rel w ae G (W.iA s.heap.objs.size o) fm st {s with heap:=s.heap.push o,toks:=k}:=(R.keep fun ag ag e=>Heap.get?_push_of_some o e).mU (R.h5 (bE _)) (Heap.get?_push_size _ hf)
theorem Rel.but(R:Rel w ae G W fm st s){a:Addr}(aO:fT W fm st a){h':Heap}(aL:Heap.SameBut a s.heap h'){b:Addr}{o:Obj}(h:W.F b o∨G b o):h'.get? b=I o:=by
 refine eF (h) (fun f=>?_) (fun g=>?_)
 ·exact(aL.2 b fun e=>R.fU a aO o (e▸f)).trans (R.cD _ _ f)
 ·exact(aL.2 b fun e=>R.eB a aO o (e▸g)).trans (R.e3 _ _ g)
theorem Eb{l:List (Option X)}{i j:Nat}{x:Option X}:(l.set i x)[j]? =if i=j∧i<l.length then I x else l[j]? :=by
 erw[Lx];refine bZ (fun h:i=j=>?_) (fun h=>?_)
 ·subst h;refine bZ (fun ab:i<l.length=>?_) (fun ab=>?_)
  ·erw[if_pos rfl,if_pos ab,if_pos ⟨rfl,ab⟩]
  ·erw[if_pos rfl,if_neg ab,if_neg fun e=>ab e.2,jc (Nat.le_of_not_lt ab)]
 ·erw[if_neg h,if_neg fun e=>h e.1]
inductive yP(l:List (Option X))(i:Nat)(v:X)(j:Nat)(u:X):Prop where
 |same (e:i=j) (h:v=u):yP l i v j u
 |other (n:¬(i=j∧i<l.length)) (h:l[j]? =I (I u)):yP l i v j u
theorem u6{l:List (Option X)}{i j:Nat}{v u:X}(h:(l.set i (I v))[j]? =I (I u)):yP l i v j u:=by
 rw[Eb]at h
 rcases pw h with⟨e,h⟩|⟨n,h⟩
 ·exact .same e.1 (Option.some.inj (Option.some.inj h))
 ·exact .other n h
theorem SlotG.set{loc:List (Option X)}{i j:Nat}{v:X}{o:Option Value}(g:SlotG W loc j o)(h:i≠j):SlotG W (loc.set i (I v)) j o:=fun y aV=>by
 rcases u6 aV with⟨e,_⟩|⟨_,e⟩
 ·exact absurd e h
 ·exact g y e
theorem u7{fm:bS}{x y:Str}{a b:NameKind}(aa:fm.e2 x=I a)(ab:fm.e2 y=I b)(n:a≠b)(e:y=x):False:=n (Option.some.inj (aa.symm.trans (e▸ab)))
theorem Ec{h:Heap}{a:Addr}{m h6}(x:h.Ns a m)(y:h.Ns a h6):h6=m:=by obtain⟨o,es,ep,e,d,_,f⟩:=x;obtain⟨br,aaw,aax,e4,sx,_,sy⟩:=y;cases e.symm.trans e4;cases d.symm.trans sx;exact funext fun z=>(sy z).symm.trans (f z)
theorem Rel.NA(R:Rel w ae G W fm st s){x:Str}{i:Nat}{v:X}{val:Value}(aC:fm.vars.lookup x=I i)(ai:fm.e2 x=I .local)
  (l5:∀y j,fm.vars.lookup y=I j→j=i→y=x) (aJ:b8 W v val) {m:Str→Option Value} {h':Heap} {k:Nat}
  (hm:s.heap.Ns fm.env.locals m) (aA:h'.Ns fm.env.locals (fun y=>if y=x then I val else m y)) (aL:Heap.SameBut fm.env.locals s.heap h'):Rel w ae G W fm (st.f' i v) {s with heap:=h',toks:=k}:=by
 have aO:fT W fm st fm.env.locals:=.fr (.loc rfl);obtain⟨h6,mV,ar⟩:=R.ns;cases Ec hm mV;refine{R with cD:=fun b o f=>R.but aO aL (.inl f),e3:=fun b o g=>R.but aO aL (.inr g),cl:=fun l=>(R.cl l).at' fun o e=>(aL.2 _ fun e=>R.g9 l (.loc e)).trans e,fU:=R.fU,eB:=R.eB,lo:=⟨⟨_,aA,fun y j u aa ab aq=>?_⟩,fun y j aa ab=>?_,fun y j aa ab=>?_⟩}
 ·rcases u6 aq with⟨e,au⟩|⟨n,e⟩
  ·exact⟨val,if_pos (l5 y j aa e.symm),au▸aJ⟩
  ·obtain⟨z,ba,b0⟩:=ar y j u aa ab e;exact⟨z,(if_neg fun sz=>n (by cases sz;cases aC.symm.trans aa;exact⟨rfl,(d7.mp e).1⟩)).trans ba,b0⟩
 ·obtain⟨c,fK,e,n,f,g⟩:=R.jn _ _ aa ab;exact⟨c,fK,e,n,f.sameBut aL n,g.set fun e=>u7 ai ab (by decide) (l5 y j aa e.symm)⟩
 ·obtain⟨c,fK,o,e,g,d,r⟩:=R.jo _ _ aa ab;exact⟨c,fK,o,e,g,d,r.set fun e=>u7 ai ab (by decide) (l5 y j aa e.symm)⟩
theorem Rel.NB(R:Rel w ae G W fm st s){x:Str}{i:Nat}{v:X}{val:Value}{c:Addr}(aC:fm.vars.lookup x=I i)(ai:fm.e2 x=I .cell)
  (ah:fm.env.cells.lookup x=I c) (l5:∀y j,fm.vars.lookup y=I j→j=i→y=x)
  (yQ:∀y j,fm.vars.lookup y=I j→fm.e2 y=I .cell→fm.env.cells.lookup y=I c→y=x) (aJ:b8 W v val) {h':Heap} {k:Nat}
  (aA:h'.IsCell c (I val)) (aL:Heap.SameBut c s.heap h'):Rel w ae G W fm (st.f' i v) {s with heap:=h',toks:=k}:=by
 have aO:hu fm c:=.cell x i aC ai ah;have mW:c≠fm.env.locals:=by obtain⟨dr,fK,e,n,_⟩:=R.jn _ _ aC ai;cases ah.symm.trans e;exact n
 obtain⟨m,hm,ar⟩:=R.ns;refine{R with cD:=fun b o f=>R.but (.fr aO) aL (.inl f),e3:=fun b o g=>R.but (.fr aO) aL (.inr g),cl:=fun l=>(R.cl l).at' fun o e=>(aL.2 _ fun e=>R.g9 l (aO.eq e)).trans e,fU:=R.fU,eB:=R.eB,lo:=⟨⟨m,hm.sameBut aL (Ne.symm mW),fun y j u aa ab aq=>?_⟩,fun y j aa ab=>?_,fun y j aa ab=>?_⟩}
 ·rcases u6 aq with⟨e,_⟩|⟨_,e⟩
  ·exact(u7 ai ab (by decide) (l5 y j aa e.symm)).elim
  ·exact ar y j u aa ab e
 ·obtain⟨dr,fK,e,n,f,g⟩:=R.jn _ _ aa ab;refine bZ (fun qN:dr=c=>?_) (fun qN=>?_)
  ·subst qN;cases yQ y j aa ab e;cases aC.symm.trans aa;refine⟨dr,I val,e,n,aA,fun u ha=>?_⟩
   rcases u6 ha with⟨_,au⟩|⟨n,au⟩
   ·exact⟨val,rfl,au▸aJ⟩
   ·exact absurd ⟨rfl,(d7.mp au).1⟩ n
  ·exact⟨dr,fK,e,n,f.sameBut aL qN,g.set fun pz=>qN (Option.some.inj ((l5 y j aa pz.symm▸e).symm.trans ah))⟩
 ·obtain⟨c,fK,o,e,g,d,r⟩:=R.jo _ _ aa ab;exact⟨c,fK,o,e,g,d,r.set fun e=>u7 ai ab (by decide) (l5 y j aa e.symm)⟩
inductive yR(p:List (Addr×Addr))(l:List Cell)(i:Nat)(dr:Cell)(j:Nat)(d:Cell)(r:Addr×Addr):Prop where
 |same (e:i=j) (au:dr=d) (aq:p[i]? =I r):yR p l i dr j d r
 |other (n:i≠j) (h:gD p l j d r):yR p l i dr j d r
theorem k7{p:List (Addr×Addr)}{l:List Cell}{i j:Nat}{dr d:Cell}{r:Addr×Addr}(h:gD p (l.set i dr) j d r):yR p l i dr j d r:=by
 obtain⟨aa,ab,aq⟩:=h;rw[Lx]at aa
 rcases pw aa with⟨e,h⟩|⟨n,h⟩
 ·exact .same e (Option.some.inj (c1 h).2) (e▸aq)
 ·exact .other n ⟨h,ab,aq⟩
theorem sA{p:List (Addr×Addr)}{l:List Cell}{i:Nat}{c:Cell}{q r:Addr×Addr}(h:gD p l i c q)(aq:p[i]? =I r):r=q:=Option.some.inj (aq.symm.trans h.3)
theorem yS{b i j:Nat}{l:List Cell}{c d:Cell}{h:Heap}{q:Addr×Addr}(x:e' w W h (hv fm b l.length j) q d):e' w W h (hv fm b (l.set i c).length j) q d:=by erw[kj];exact x
theorem Rel.setC(R:Rel w ae G W fm st s){i:Nat}{c dr:Cell}{q:Addr×Addr}(ah:st.heap[i]? =I c)(ar:su c=true)(aE:W.p[i]? =I q){h':Heap}{k:Nat}
  (aL:Heap.SameBut q.2 s.heap h') (aA:e' w W h' (hv fm st.base st.heap.length i) q dr):Rel w ae G W fm (st.setCell i dr) {s with heap:=h',toks:=k}:=by
 have L:gD W.p st.heap i c q:=⟨ah,ar,aE⟩
 have aO:fT W fm st q.2:=.hp i c q L rfl;have own:∀a,fT W fm (st.setCell i dr) a→fT W fm st a:=by
  rintro a (h|⟨j,d,r,l,e⟩)
  ·exact .fr h
  ·rcases k7 l with⟨_,_,aq⟩|⟨_,l⟩
   ·exact e▸sA L aq▸aO
   ·exact .hp j d r l e
 refine{R with cD:=fun b o f=>R.but aO aL (.inl f),e3:=fun b o g=>R.but aO aL (.inr g),len:=R.len.trans (kj ..).symm,cl:=fun{j d r} l=>yS ?_,apart:=fun aM bt h=>?_,fU:=fun a h=>R.fU a (own a h),eB:=fun a h=>R.eB a (own a h),g9:=fun l=>?_,lo:=R.lo.keep .rfl (fun ag ag g=>g) fun a f o e=>(aL.2 a fun e=>R.g9 L (f.eq e.symm)).trans e,cP:=(kj ..).symm▸R.cP}
 ·rcases k7 l with⟨e,au,aq⟩|⟨n,l⟩
  ·exact e▸au▸sA L aq▸aA
  ·exact(R.cl l).at' fun o e=>(aL.2 _ fun e4=>n (R.apart L l e4.symm)).trans e
 ·rcases k7 aM with⟨ay,_,aa⟩|⟨ky,aM⟩<;>rcases k7 bt with⟨au,_,ab⟩|⟨cU,bt⟩
  ·exact ay.symm.trans au
  ·exact absurd (R.apart L bt (sA L aa▸h)) cU
  ·exact absurd (R.apart L aM (sA L ab▸h.symm)) ky
  ·exact R.apart aM bt h
 ·rcases k7 l with⟨_,_,aq⟩|⟨_,l⟩
  ·exact sA L aq▸R.g9 L
  ·exact R.g9 l
inductive yT(p:List (Addr×Addr))(l:List Cell)(q:Addr×Addr)(c:Cell)(j:Nat)(d:Cell)(r:Addr×Addr):Prop where
 |new (e:l.length=j) (ay:c=d) (au:q=r):yT p l q c j d r
 |old (e:j<l.length) (h:gD p l j d r):yT p l q c j d r
theorem sC{p:List (Addr×Addr)}{l:List Cell}{q r:Addr×Addr}{c d:Cell}{j:Nat}(ar:p.length=l.length)(h:gD (p++[q]) (l++[c]) j d r):yT p l q c j d r:=by
 obtain⟨aa,ab,aq⟩:=h
 rcases Nat.lt_trichotomy j l.length with h|h|h
 ·exact .old h ⟨(mE h).symm.trans aa,ab,(mE (ar.symm▸h)).symm.trans aq⟩
 ·cases h;exact .new rfl (Option.some.inj (Ly.symm.trans aa)) (Option.some.inj ((ar▸Ly (l:=p) (a:=q):(p++[q])[l.length]? =I q).symm.trans aq))
 ·cases (jc (b4 (as:=l) (bs:=[c])▸h:(l++[c]).length≤j)).symm.trans aa
theorem Rel.n7(R:Rel w ae G W fm st s){q:Addr×Addr}{c:Cell}(off:Off G W fm st q.2)
  (ah:e' w {W with p:=W.p++[q]} s.heap (st.heap.length+1) q c):Rel w ae G {W with p:=W.p++[q]} fm {st with heap:=st.heap++[c]} s:=by
 have Ed:W.le {W with p:=W.p++[q]}:=⟨fun ag ag h=>h,iq _,o4 _ _⟩
 have own:∀a,fT {W with p:=W.p++[q]} fm {st with heap:=st.heap++[c]} a→fT W fm st a∨q.2=a:=by
  rintro a (h|⟨j,d,r,l,e⟩)
  ·exact .inl (.fr h)
  ·rcases sC R.len l with⟨_,_,au⟩|⟨_,l⟩
   ·exact .inr (au▸e)
   ·exact .inl (.hp j d r l e)
 have len:(st.heap++[c]).length=st.heap.length+1:=b4;refine{R with len:=(b4 (as:=W.p)).trans (R.len▸len.symm),cl:=fun{j d r} l=>?_,apart:=fun aM bt h=>?_,fU:=fun a h o f=>(own a h).elim (fun h=>R.fU a h o f) fun e=>off.f o (e▸f),eB:=fun a h o g=>(own a h).elim (fun h=>R.eB a h o g) fun e=>off.g o (e▸g),g9:=fun l h=>?_,lo:=R.lo.mono Ed,cP:=bR R.cP (len▸lM _)}
 ·show e' _ _ _ (hv fm st.base (st.heap++[c]).length j) r d;erw[len]
  rcases sC R.len l with⟨e,ay,au⟩|⟨a',l⟩
  ·exact(show hv fm st.base (st.heap.length+1) j=st.heap.length+1 from if_neg (kU.mpr (e▸R.cP))).symm▸ay▸au▸ah
  ·refine(R.cl l).mono Ed ?_;unfold hv;refine bZ (fun h:j<st.base=>?_) (fun h=>?_)
   ·erw[if_pos h,if_pos h];exact bE _
   ·erw[if_neg h,if_neg h];exact lM _
 ·rcases sC R.len aM with⟨c2,_,x3⟩|⟨_,aM⟩<;>rcases sC R.len bt with⟨eU,_,gq⟩|⟨_,bt⟩
  ·exact c2.symm.trans eU
  ·exact absurd (.hp _ _ _ bt (x3▸h.symm)) off.o
  ·exact absurd (.hp _ _ _ aM (gq▸h)) off.o
  ·exact R.apart aM bt h
 ·rcases sC R.len l with⟨_,_,au⟩|⟨_,l⟩
  ·exact off.o (.fr (au▸h))
  ·exact R.g9 l h
theorem aay{G:Addr→Obj→Prop}{a b:Addr}{o:Obj}(h:G b o)(e:a=b):G a o:=e▸h
theorem Rel.Ee{iz:Addr→Obj→Prop}(R:Rel w ae G W fm st s)(dF:∀a o,G a o→iz a o)(h:∀a o,iz a o→G a o∨(s.heap.get? a=I o∧¬fT W fm st a∧∀br,¬W.F a br)):Rel w ae iz W fm st s:={R with
  e3:=fun a o g=>(h a o g).elim (R.e3 a o) qq
  eB:=fun a aO o g=>(h a o g).elim (R.eB a aO o) fun x=>x.2.1 aO
  lo:=R.lo.keep .rfl dF fun ag ag ag e=>e
  fz:=fun a o br f g=>(h a br g).elim (R.fz a o br f) fun x=>x.2.2 o f}
theorem Rel.yU{iz:Addr→Obj→Prop}(R:Rel w ae iz W fm st s)(dF:∀a o,G a o→iz a o)(jo:∀x (i:Nat),fm.vars.lookup x=I i→fm.e2 x=I .free→u4 G W fm st.loc x i):Rel w ae G W fm st s:={R with e3:=fun a o g=>R.e3 a o (dF _ _ g),eB:=fun a h o g=>R.eB a h o (dF _ _ g),fz:=fun a o br f g=>R.fz a o br f (dF _ _ g),lo:=⟨R.lo.ns,R.lo.jn,jo⟩}
theorem Rel.gone(R:Rel w ae G W fm st s){i:Nat}{c:Cell}{q:Addr×Addr}(L:gD W.p st.heap i c q):Rel w ae G W fm (st.setCell i .gone) s∧Off G W fm (st.setCell i .gone) q.2:=by
 have get {j d r} (l:gD W.p (st.heap.set i .gone) j d r):i≠j∧gD W.p st.heap j d r:=by
  rcases k7 l with⟨_,au,_⟩|⟨n,h⟩
  ·cases au;cases l.2
  ·exact⟨n,h⟩
 have own {a} (h:fT W fm (st.setCell i .gone) a):fT W fm st a∧q.2≠a:=by
  rcases h with h|⟨j,d,r,l,e⟩
  ·exact⟨.fr h,fun e=>R.g9 L (e▸h)⟩
  ·exact⟨.hp j d r (get l).2 e,fun e4=>(get l).1 (R.apart L (get l).2 (e4.trans e.symm))⟩
 exact⟨{R with len:=R.len.trans (kj ..).symm,cl:=fun l=>yS (R.cl (get l).2),apart:=fun aM bt h=>R.apart (get aM).2 (get bt).2 h,fU:=fun a h=>R.fU a (own h).1,eB:=fun a h=>R.eB a (own h).1,g9:=fun l=>R.g9 (get l).2,lo:=R.lo,cP:=(kj ..).symm▸R.cP},⟨fun h=>(own h).2 rfl,R.fU _ (.hp i c q L rfl),R.eB _ (.hp i c q L rfl)⟩⟩
theorem Rel.lend(R:Rel w ae G W fm st s){i:Nat}{xs:List V}{q:Addr×Addr}(ah:st.heap[i]? =I (.lst xs))(aE:W.p[i]? =I q){o:Obj}(aO:s.heap.get? q.2=I o):
  Rel w ae (fun a br=>G a br∨(a=q.2∧br=o)) W fm (st.setCell i .gone) s:=
 have x:=R.gone ⟨ah,rfl,aE⟩
 x.1.Ee (fun ag ag g=>.inl g) fun a br g=>g.imp id fun e=>by cases e.1;cases e.2;exact⟨aO,x.2.o,x.2.f⟩
theorem Rel.back{q:Addr×Addr}{o:Obj}(R:Rel w ae (fun a br=>G a br∨(a=q.2∧br=o)) W fm st s){i:Nat}{xs:List V}(ah:st.heap[i]? =I .gone)(aE:W.p[i]? =I q)(iV:e' w W s.heap 0 q (.lst xs))
  (dF:∀o,¬G q.2 o) (cv:¬hu fm q.2):Rel w ae G W fm (st.setCell i (.lst xs)) s:=by
 have Ef:∀a,fT W fm st a→q.2≠a:=fun a h e=>R.eB a h o (.inr ⟨e.symm,rfl⟩);have own {a} (h:fT W fm (st.setCell i (.lst xs)) a):fT W fm st a∨q.2=a:=by
  rcases h with h|⟨j,d,r,l,e⟩
  ·exact .inl (.fr h)
  ·rcases k7 l with⟨_,_,aq⟩|⟨_,l⟩
   ·exact .inr (by cases aE.symm.trans aq;exact e)
   ·exact .inl (.hp j d r l e)
 have yV:=R.yU (fun ag ag g=>.inl g) fun x j a b=>by
  obtain⟨c,v,br,e,g,d,r⟩:=R.jo _ _ a b
  rcases g with g|⟨ay,au⟩
  ·exact⟨c,v,br,e,g,d,r⟩
  ·obtain⟨_,vs,⟨n,p⟩,_⟩:=iV;cases ay;cases au;cases (R.e3 _ _ (.inr ⟨rfl,rfl⟩)).symm.trans p;cases d
 refine{yV with len:=R.len.trans (kj ..).symm,cl:=fun{j d r} l=>yS ?_,apart:=fun aM bt h=>?_,fU:=fun a h br f=>(own h).elim (fun h=>R.fU a h br f) fun e=>R.fz _ _ _ f (.inr ⟨e.symm,rfl⟩),eB:=fun a h br g=>(own h).elim (fun h=>R.eB a h br (.inl g)) fun e=>dF br (e▸g),g9:=fun l=>?_,cP:=(kj ..).symm▸R.cP}
 ·rcases k7 l with⟨_,au,aq⟩|⟨_,l⟩
  ·cases aE.symm.trans aq;exact au▸iV.mono .rfl (fx _)
  ·exact R.cl l
 ·rcases k7 aM with⟨ay,_,aa⟩|⟨ky,aM⟩<;>rcases k7 bt with⟨au,_,ab⟩|⟨cU,bt⟩
  ·exact ay.symm.trans au
  ·cases aE.symm.trans aa;exact absurd h (Ef _ (.hp _ _ _ bt rfl))
  ·cases aE.symm.trans ab;exact absurd h.symm (Ef _ (.hp _ _ _ aM rfl))
  ·exact R.apart aM bt h
 ·rcases k7 l with⟨_,_,aq⟩|⟨_,l⟩
  ·cases aE.symm.trans aq;exact cv
  ·exact R.g9 l
theorem Rel.NC(R:Rel w ae G W fm st s){i:Nat}{xs:List V}{q:Addr×Addr}(ah:st.heap[i]? =I (.lst xs))(aE:W.p[i]? =I q):
  ∃o,W.le (W.iA q.2 o)∧Rel w ae G (W.iA q.2 o) fm (st.setCell i .gone) s∧dc (W.iA q.2 o) (.lst xs) (.ref q.1):=by
 obtain⟨e,vs,⟨n,p⟩,r⟩:=R.cells i _ q ah aE;have x:=R.gone ⟨ah,rfl,aE⟩;exact⟨_,a3.gE,x.1.mU x.2 p,e▸ .lst (.inr ⟨rfl,rfl⟩) ⟨n,rfl⟩ r.1 (r.mono a3.gE).2⟩
noncomputable def sD(ae h:Heap)(L:Addr):List (Addr×Obj):=(jb h.objs.size).filterMap fun a=>if a=L∨(ae.get? a).isSome then J else(h.get? a).map fun o=>(a,o)
theorem yW{ae h:Heap}{L a:Addr}{o:Obj}:(a,o)∈sD ae h L↔a≠L∧ae.get? a=J∧h.get? a=I o:=by
 unfold sD;erw[qr]
 constructor
 ·rintro⟨b,_,bf⟩
  split at bf
  ·cases bf
  ·rename_i aA;obtain⟨br,aO,e⟩:=ZV.mp bf;cases (e);refine⟨fun e=>aA (.inl e),?_,aO⟩;cases aK:ae.get? a with
   |none=>rfl
   |some _=>exact absurd (.inr (by erw[aK];rfl)) aA
 ·rintro⟨aa,ab,aq⟩;refine⟨a,kV.mpr (Heap.lt_size aq),?_⟩;erw[if_neg (by rintro(e|e);exact aa e;rw[ab]at e;cases e),aq]
  rfl
theorem Rel.fr(R:Rel w ae G W fm st s){m}(hm:s.heap.Ns fm.env.locals m):Fr ae fm.env.locals s.heap m:=⟨hm,fun b o e=>R.cD _ _ (R.base b o e),R.above⟩
theorem Rel.news(R:Rel w ae G W fm st s):News ae fm.env.locals s.heap (sD ae s.heap fm.env.locals):=by rintro⟨a,o⟩ hp;obtain⟨aa,ab,aq⟩:=yW.mp hp;exact⟨aq,aa,ab⟩
theorem Rel.ND(R:Rel w ae G W fm st s){m}(hm:s.heap.Ns fm.env.locals m){h':Heap}{k:Nat}(aA:h'.Ns fm.env.locals m)(ai:∀b o,b≠fm.env.locals→s.heap.get? b=I o→h'.get? b=I o):Rel w ae G W fm st {s with heap:=h',toks:=k}:=by
 obtain⟨h6,mV,ar⟩:=R.ns;cases Ec hm mV;exact{R with
  cD:=fun a o f=>ai _ _ (fun e=>R.fU _ (.fr (.loc rfl)) o (e▸f)) (R.cD a o f)
  e3:=fun a o g=>ai _ _ (fun e=>R.eB _ (.fr (.loc rfl)) o (e▸g)) (R.e3 a o g)
  cl:=fun l=>(R.cl l).at' fun o=>ai _ o fun e=>R.g9 l (.loc e)
  lo:=⟨⟨_,aA,ar⟩,fun x i a b=>by obtain⟨c,v,e,n,f,g⟩:=R.jn _ _ a b;exact⟨c,v,e,n,IsCell.at' f (ai c · n),g⟩,R.lo.jo⟩}
theorem Rel.Eg(R:Rel w ae G W fm st s){m}(hm:s.heap.Ns fm.env.locals m){h':Heap}{k:Nat}{news:List (Addr×Obj)}(F:Fr ae fm.env.locals h' m)(N:News ae fm.env.locals h' news)
  (aL:∀p∈sD ae s.heap fm.env.locals,p∈news):Rel w ae G W fm st {s with heap:=h',toks:=k}:=
 R.ND hm F.ns fun b o bf e=>by
  cases aK:ae.get? b with
  |some br=>have:=R.cD _ _ (R.base b br aK);rw[e]at this;cases this;exact F.keep b _ aK
  |none=>exact(N _ (aL _ (yW.mpr ⟨bf,aK,e⟩))).1
theorem Rel.yX(R:Rel w ae G W fm st s){m}(hm:s.heap.Ns fm.env.locals m){h':Heap}{k:Nat}{a:Addr}{o:Obj}(F:Fr ae fm.env.locals h' m)(N:News ae fm.env.locals h' ((a,o)::sD ae s.heap fm.env.locals))(aB:s.heap.objs.size≤a):
  Rel w ae G (W.iA a o) fm st {s with heap:=h',toks:=k}:=
 (R.Eg (k:=k) hm F N fun p hp=>.tail _ hp).mU (R.h5 aB) (N _ (.head _)).1
end Tactic
end
section
open PySem PySem.W PySem.Calls PyProof.Rows
namespace Tactic
structure dw(cx:bV)(fm:bS):Prop where
 vars:fm.vars=cx.vars
 kind:fm.env.scope.kind= .function
 ej:∀x (i:Nat),cx.vars.lookup x=I i→fm.e2 x=I .local∨fm.e2 x=I .cell∨(fm.e2 x=I .free∧((fm.env.kindOf x=I .free∧(x==("__classdict__":Str))=false)∨fm.env.kindOf x=I .cell)∧x∈cx.frees)
 inj:∀x y (i:Nat),cx.vars.lookup x=I i→cx.vars.lookup y=I i→x=y
 apart:∀x y (i j:Nat) c,cx.vars.lookup x=I i→cx.vars.lookup y=I j→fm.env.cells.lookup x=I c→fm.env.cells.lookup y=I c→fm.e2 x=I .cell→fm.e2 y=I .cell→x=y
 sE:∀x,x∈cx.cells→fm.env.kindOf x=I .cell
 gl:∀x,x∈cx.si→fm.env.kindOf x=I .globalImplicit
 glob:fm.env.globals=mainGlobals
 blt:fm.env.builtins=builtinsNs
inductive hx(w:World)(ae:Heap)(G:Addr→Obj→Prop)(W:a3)(fm:bS)(s:Shared)(st':St)(s':Shared):Prop where
 |mk (W':a3) (l:W.le W') (R:Rel w ae G W' fm st' s') (o:s'.os=s.os):hx w ae G W fm s st' s'
section
variable(w:World)(ae:Heap)(C:Calls)(n:Nat)
def bj(cx:bV)(e:Expr):Prop:=∀{aH},aW cx e=I aH→∀{A},d1 n A→∀{G W fm st s x st'},dw cx fm→Rel w ae G W fm st s→aj C aH st=I (x,st')→wpAny (model a4 w) A (eval e fm.env) (d9 w ae G W fm s st' x) bL s
def ST(cx:bV)(e:Expr):Prop:=∀{aH},aW cx e=I aH→∀{A},d1 n A→∀{G W fm st s b st'},dw cx fm→Rel w ae G W fm st s→aj C aH st=I (.v (.bool b),st')→wpAny (model a4 w) A (isTrue e fm.env (eval e fm.env)) (fun b' s'=>b'=b∧hx w ae G W fm s st' s') bL s
end
section
variable{cx:bV}{A:Around}{G:Addr→Obj→Prop}{W:a3}{fm:bS}{st st':St}{s:Shared}
theorem d1.yY(h:d1 n A){k:Nat}(ai:k≤60):A.units+k<cLine:=gI (nK (f6 _ _) ai) h.u
theorem d9.self{x:X}{v:Value}{s':Shared}(R:Rel w ae G W fm st' s')(r:b8 W x v)(o:s'.os=s.os):d9 w ae G W fm s st' x v s':=⟨W,.rfl,R,r,o⟩
theorem d9.step{W':a3}{s1:Shared}{x:X}{v:Value}{s':Shared}(h:W.le W')(o:s1.os=s.os)(p:d9 w ae G W' fm s1 st' x v s'):d9 w ae G W fm s st' x v s':=by obtain⟨cN,a,b,c,d⟩:=p;exact⟨cN,h.trans a,b,c,d.trans o⟩
theorem dk{A:Around}{m:Sem Value}{x:X}{Q:Value→Shared→Prop}(h:wpAny (model a4 w) A m (d9 w ae G W fm s st' x) bL s)(k:∀u s₁ W1,W.le W1→Rel w ae G W1 fm st' s₁→b8 W1 x u→s₁.os=s.os→Q u s₁):wpAny (model a4 w) A m Q bL s:=wpAny_mono h (fun u s₁ q=>match q with|⟨W1,a,b,c,d⟩=>k u s₁ W1 a b c d) fun ag ag x=>x
theorem sF{α:Type}{A:Around}{m:Sem α}{Q:α→Shared→Prop}(h:wpAny (model a4 w) A m (fun ag=>hx w ae G W fm s st') bL s)(k:∀u s₁ W1,W.le W1→Rel w ae G W1 fm st' s₁→s₁.os=s.os→Q u s₁):wpAny (model a4 w) A m Q bL s:=wpAny_mono h (fun u s₁ q=>match q with|⟨W1,a,b,d⟩=>k u s₁ W1 a b d) fun ag ag x=>x
theorem l6{A:Around}{m:Sem Bool}{b:Bool}{Q:Bool→Shared→Prop}(h:wpAny (model a4 w) A m (fun b' s'=>b'=b∧hx w ae G W fm s st' s') bL s)(k:∀s₁ W1,W.le W1→Rel w ae G W1 fm st' s₁→s₁.os=s.os→Q b s₁):wpAny (model a4 w) A m Q bL s:=wpAny_mono h (fun u s₁ q=>match q with|⟨e,W1,a,b,d⟩=>e▸k s₁ W1 a b d) fun ag ag x=>x
theorem sel{A:Around}{m:Sem Value}{x:X}{W1:a3}{s₁:Shared}(h:wpAny (model a4 w) A m (d9 w ae G W1 fm s₁ st' x) bL s₁)(l:W.le W1)(o:s₁.os=s.os):wpAny (model a4 w) A m (d9 w ae G W fm s st' x) bL s₁:=wpAny_mono h (fun ag ag q=>q.step l o) fun ag ag x=>x
theorem X.v.NF{a b:V}(h:X.v a=X.v b):a=b:=Option.some.inj (congrArg valOf h)
theorem NG{v:Value}(r:b8 W (.v .bB) v):v= .none:=by cases r;rfl
theorem pA{b:Bool}{v:Value}(r:b8 W (.v (.bool b)) v):v= .bool b:=by cases r;rfl
theorem hP{i:Int}{v:Value}(r:b8 W (.v (.int i)) v):∃t,v= .int i t:=by cases r with|int i t=>exact⟨t,rfl⟩
theorem k8{e:Expr}(h:bj w ae C n cx e)(he:∀env whole,isTrue e env whole=(do let v←whole;standAt e.pos;holding [v] (truthy v))):ST w ae C n cx e:=by intro aH ah A ax G W fm st s b st' hf R aN;refine wpAny_isTrue_value ?_ (he _ _);refine dk (h ah ax hf R aN) fun v s' W' l dd r o=>?_;erw[pA r];exact wpAny_truthy_bool ⟨rfl,W',l,dd,o⟩
theorem NH{i:Int}{k:Nat}{p:Pos}:bj w ae C n cx (.Constant (.int i) k p):=by intro aH ah A ax G W fm st s x st' hf R aN;cases ah;cases aN;exact wpAny_Constant_int (.self R.toks (.int i _) rfl)
theorem s_bool{b:Bool}{k:Nat}{p:Pos}:bj w ae C n cx (.Constant (.bool b) k p):=by intro aH ah A ax G W fm st s x st' hf R aN;cases ah;cases aN;exact wpAny_Constant_bool (.self R (.bool b) rfl)
theorem NI{k:Nat}{p:Pos}:bj w ae C n cx (.Constant .none k p):=by intro aH ah A ax G W fm st s x st' hf R aN;cases ah;cases aN;exact wpAny_Constant_none (.self R .bB rfl)
theorem sG{x:Str}{k:Nat}(h:jU x=I k):x=nm k:=by unfold jU at h;obtain⟨ai,hp,_⟩:=ZW.mp h;unfold c9 at hp;unfold nm;erw[jd,gp ai];exact beq_iff_eq.mp hp
theorem NJ{x:Str}{k:Nat}{p:Pos}:bj w ae C n cx (.Constant (.str x) k p):=by intro aH ah A ax G W fm st s v st' hf R aN;obtain⟨c,aa,rfl⟩:=omap (show(jU x).map _=I aH from ah);cases aN;erw[sG aa];exact wpAny_Constant_str (.self R.toks (.str c _) rfl)
inductive yZ(W:a3)(T:String)(xs:List V)(v:Value):Prop where
 |mk (vs:List Value) (l:Addr) (k:Nat) (e:v= .ref l) (f:W.F l {cls:=.type T,data:=.seq vs.toArray k}) (r:b5 W xs vs):yZ W T xs v
theorem lst_inv{xs:List V}{v:Value}(r:dc W (.lst xs) v):yZ W "list" xs v:=by
 cases r with
 |lst f sq l e=>obtain⟨k,rfl⟩:=sq;exact⟨_,_,_,rfl,f,l,e⟩
theorem y0{xs:List V}{v:Value}(r:dc W (.tup xs) v):yZ W "tuple" xs v:=by
 cases r with
 |tup f sq l e=>obtain⟨k,rfl⟩:=sq;exact⟨_,_,_,rfl,f,l,e⟩
theorem y1(R:Rel w ae G W fm st s){xs:List V}{v:Value}(r:dc W (.lst xs) v):∃vs l,v= .ref l∧s.heap.PlainList l vs.toArray∧b5 W xs vs:=by refine eA fun cF=>?_;obtain⟨vs,l,k,e,f,r⟩:=lst_inv r;refine cF ?_;exact⟨vs,l,e,⟨k,R.cD _ _ f⟩,r⟩
theorem n8(R:Rel w ae G W fm st s){xs:List V}{v:Value}(r:dc W (.tup xs) v):∃vs l k,v= .ref l∧s.heap.get? l=I {cls:=.type "tuple",data:=.seq vs.toArray k}∧b5 W xs vs:=by refine eA fun cF=>?_;obtain⟨vs,l,k,e,f,r⟩:=y0 r;refine cF ?_;exact⟨vs,l,k,e,R.cD _ _ f,r⟩
theorem n9{i:Nat}{xs:List V}(h:st.lst i=I xs):st.heap[i]? =I (.lst xs):=by
 obtain⟨c,ah,h⟩:=aU h
 induction c using Cell.casesOn<;>cases h
 exact ah
theorem Eh{i:Nat}{xs:List (Int×V)}(h:st.jl i=I xs):st.heap[i]? =I (.cw xs):=by
 obtain⟨c,ah,h⟩:=aU h
 induction c using Cell.casesOn<;>cases h
 exact ah
inductive Ei(W:a3)(h:Heap)(xs:List V)(v:Value):Prop where
 |mk (vs:List Value) (l:Addr) (e:v= .ref l) (p:h.PlainList l vs.toArray) (r:b5 W xs vs):Ei W h xs v
theorem n'(R:Rel w ae G W fm st s){x:X}{xs:List V}{v:Value}(r:b8 W x v)(h:st.val x=I (.lst xs)):Ei W s.heap xs v:=by
 induction x using X.casesOn with
 |v a=>cases h;obtain⟨vs,l,e,p,r⟩:=y1 R r;exact⟨vs,l,e,p,r⟩
 |cell i=>obtain⟨q,aE,rfl⟩:=r;obtain⟨aS,ah,e⟩:=omap h;cases e;obtain⟨e,vs,p,r⟩:=R.cells i _ q (n9 ah) aE;exact⟨vs,q.1,rfl,by erw[e];exact p,r⟩
theorem kz{x:X}{a:V}(h:st.val x=I a)(aA:∀xs,a≠ .lst xs):x= .v a:=by
 induction x using X.casesOn with
 |v b=>cases h;rfl
 |cell i=>obtain⟨aS,ah,e⟩:=omap h;exact absurd e.symm (aA _)
theorem Ej(R:Rel w ae G W fm st s)(hf:dw cx fm){x:Str}{i:Nat}{v:X}(aC:cx.vars.lookup x=I i)(aJ:st.loc[i]? =I (I v)){Q:Value→Shared→Prop}(h:∀y,b8 W v y→Q y s):
  wpAny (model a4 w) A (loadName fm.env x) Q bL s:=by
 rcases hf.ej x i aC with ai|ai|⟨ai,y2,_⟩
 ·obtain⟨m,hm,ar⟩:=R.ns;obtain⟨y,aa,ab⟩:=ar x i v (by erw[hf.vars];exact aC) ai aJ;exact wpAny_loadName_local hf.kind (bS.n5 ai (by decide)) hm aa (h y ab)
 ·obtain⟨c,fK,e,_,f,g⟩:=R.jn x i (by erw[hf.vars];exact aC) ai;obtain⟨z,rfl,ab⟩:=g v aJ;exact wpAny_loadName_cell hf.kind (bS.n5 ai (by decide)) e f (h z ab)
 ·obtain⟨c,fK,o,e,g,d,r⟩:=R.jo x i (by erw[hf.vars];exact aC) ai;obtain⟨z,rfl,ab⟩:=r v aJ
  rcases y2 with⟨l7,y2⟩|l7
  ·exact wpAny_loadName_free hf.kind l7 e ⟨o,R.e3 _ _ g,d⟩ (h z ab) y2
  ·exact wpAny_loadName_cell hf.kind l7 e ⟨o,R.e3 _ _ g,d⟩ (h z ab)
theorem y3{x:Str}(h:c9 x "__debug__"=false):(x==("__debug__":Str))=false:=h
theorem u9{x:Str}{i:Nat}(h:cx.var x=I i):cx.vars.lookup x=I i∧c9 x "__debug__"=false:=by
 unfold bV.var at h
 split at h
 ·cases h
 ·rename_i aA;exact⟨h,by simpa using aA⟩
theorem Ek{x:Str}(h:cx.gl x=true):x∈cx.si∧c9 x "__debug__"=false:=by unfold bV.gl at h;refine bC (fun a b=>?_) (cI.mp h);exact⟨qs.mp a,by simpa using b⟩
end
end Tactic
end
section
open PySem PySem.W PySem.Calls PyProof.Rows
namespace Tactic
noncomputable section
section
variable{cx:bV}{A:Around}{G:Addr→Obj→Prop}{W:a3}{fm:bS}{st st':St}{s:Shared}
noncomputable def y4(o:Option (Option Value))(j:Int):Bool:=match o with
 |some (I v)=>(match v with
  | .int i _=>decide (i=j)
  |_=>false)
 |_=>false
theorem El{o:Option (Option Value)}{j:Int}(h:y4 o j=true):∃t,o=I (I (.int j t)):=by
 induction o using gJ with
 |none=>cases h
 |some o=>induction o using gJ with
  |none=>cases h
  |some v=>induction v using Value.casesOn with
   |int i t=>cases of_decide_eq_true (p:=i=j) h;exact⟨t,rfl⟩
   |_=>cases h
noncomputable def pB(o:Option (Option Value))(a:Addr):Bool:=match o with
 |some (I v)=>(match v with
  | .ref b=>b==a
  |_=>false)
 |_=>false
theorem qO{o:Option (Option Value)}{a:Addr}(h:pB o a=true):o=I (I (.ref a)):=by
 induction o using gJ with
 |none=>cases h
 |some o=>induction o using gJ with
  |none=>cases h
  |some v=>induction v using Value.casesOn with
   |ref b=>cases beq_iff_eq.mp (show(b==a)=true from h);rfl
   |_=>cases h
theorem Em{xs:List V}:∀{ns:List Int},h2 xs=I ns→xs=ns.map .int:=by
 induction xs with
 |nil=>intro ns h;cases h;rfl
 |cons x r aG=>
  intro ns h
  induction x using V.casesOn with
  |int a=>obtain⟨l,aa,rfl⟩:=omap (show(h2 r).map (a:: ·)=_ from h);exact congrArg (V.int a:: ·) (aG aa)
  |_=>cases h
noncomputable def constOk(P:Params)(x:String×V):Bool:=match x.2 with
 | .int j=>y4 (nsIn (H.c7 P) mainGlobals (Str.ofString x.1)) j
 | .tup xs=>pB (nsIn (H.c7 P) mainGlobals (Str.ofString x.1)) 403&&U (h2 xs=I [0,0,0,0,0,0])
 |_=>false
theorem NK(P:Params):constOf.all (constOk P)=true:=by kernel_rfl
theorem NL(P:Params):(H.c7 P).lookup 403=I {cls:=.type "tuple",data:=.seq [.int 0 791,.int 0 792,.int 0 793,.int 0 794,.int 0 795,.int 0 796].toArray 0}:=by kernel_rfl
theorem y5{α:Type}{x:Str}{a:α}{l:List (String×α)}:k3 x l=I a→∃n,(n,a)∈l∧x=Str.ofString n:=by
 induction l with
 |nil=>intro h;cases h
 |cons y r aG=>
  intro h
  rcases h3 (show(if c9 x y.1=true then I y.2 else k3 x r)=I a from h)with⟨e,h⟩|h
  ·cases Option.some.inj h;exact⟨y.1,.head _,beq_iff_eq.mp e⟩
  ·obtain⟨n,a,b⟩:=aG h;exact⟨n,.tail _ a,b⟩
theorem NM(aQ:cH w ae cb cm){x:Str}{v:V}(h:k3 x constOf=I v):∃val,cb x=I val∧∀W:a3,(∀a o,ae.get? a=I o→W.F a o)→dc W v val:=by
 obtain⟨aaz,hm,rfl⟩:=y5 h;have ah:=h1.mp (NK w.params) _ hm;clear h hm
 induction v using V.casesOn with
 |int j=>obtain⟨t,ay⟩:=El ah;exact⟨_,mg_of aQ.K aQ.g ay,fun W ag=>.int j t⟩
 |tup xs=>obtain⟨aa,ab⟩:=cI.mp ah;refine⟨_,mg_of aQ.K aQ.g (qO aa),fun W eG=>?_⟩;erw[Em (of_decide_eq_true ab)];exact let i {k t}:dc W (.int k) (.int k t):=.int k t;let r:=b5.cons i (.cons i (.cons i (.cons i (.cons i (.cons i .nil)))));.tup (eG _ _ (aQ.K _ _ (NL w.params))) ⟨0,rfl⟩ r.1 r.2
 |_=>cases ah
theorem y6(aQ:cH w ae cb cm)(R:Rel w ae G W fm st s)(hf:dw cx fm){x:Str}(aC:cx.gl x=true){v:Value}(aJ:cb x=I v){pos:Pos}{Q:Value→Shared→Prop}(h:Q v s):
  wpAny (model a4 w) A (eval (.Name x pos) fm.env) Q bL s:=by
 obtain⟨a,b⟩:=Ek aC;refine Calls.Name_function_global hf.kind (hf.gl x a) ?_ (y3 b);refine Calls.loadGlobal_global (env:=fm.env) ?_ aJ h;erw[hf.glob];exact aQ.g.keeps fun b o e=>R.cD _ _ (R.base b o e)
theorem NN(aQ:cH w ae cb cm)(R:Rel w ae G W fm st s)(hf:dw cx fm){x:Str}(aC:cx.gl x=true){v:Value}(hm:cb x=J)(aA:x≠"__name__")(aJ:bootBuiltins x=I v){pos:Pos}{Q:Value→Shared→Prop}(h:Q v s):
  wpAny (model a4 w) A (eval (.Name x pos) fm.env) Q bL s:=by
 obtain⟨a,b⟩:=Ek aC;refine Calls.Name_function_global hf.kind (hf.gl x a) ?_ (y3 b);have ai:∀b o,ae.get? b=I o→s.heap.get? b=I o:=fun b o e=>R.cD _ _ (R.base b o e);refine Calls.loadGlobal_builtin (env:=fm.env) ?_ hm ?_ ((aQ.blt x aA).trans aJ) h
 ·erw[hf.glob];exact aQ.g.keeps ai
 ·erw[hf.blt];exact aQ.b.keeps ai
theorem En(aQ:cH w ae cb cm){x:Str}{p:Pos}:bj w ae C n cx (.Name x p):=by
 intro aH ah A ax G W fm st s v st' hf R aN;have ah:yC cx x=I aH:=ah;unfold yC at ah;generalize aC:cx.var x=o at ah
 induction o using gJ with
 |some i=>cases ah;obtain⟨y,ar,aN⟩:=aU (show(st.loc[i]?).bind _=I (v,st')from aN);obtain⟨z,rfl,aN⟩:=omap aN;cases aN;obtain⟨a,b⟩:=u9 aC;exact wpAny_Name (Ej R hf a ar fun y r=>.self R r rfl) (y3 b)
 |none=>obtain⟨aK,ah⟩:=c1 ah;obtain⟨c,aa,rfl⟩:=omap ah;cases aN;obtain⟨val,ab,aq⟩:=NM aQ aa;exact y6 aQ R hf aK ab (.self R (aq W R.base) rfl)
theorem two{a b:Expr}{bx bN:ao}(aB:bj w ae C n cx a)(bf:bj w ae C n cx b)(ca:aW cx a=I bx)(dy:aW cx b=I bN)(ax:d1 n A)(hf:dw cx fm)(R:Rel w ae G W fm st s){x y:X}{s1 s2:St}
  (bT:aj C bx st=I (x,s1)) (cV:aj C bN s1=I (y,s2)) {P:Value→Value→Shared→Prop}
  (h:∀u v W' s',W.le W'→Rel w ae G W' fm s2 s'→s'.os=s.os→b8 W' x u→b8 W' y v→P u v s'):
  wpAny (model a4 w) A (eval a fm.env) (fun u s₁=>wpAny (model a4 w) A (eval b fm.env) (fun v s₂=>P u v s₂) bL s₁) bL s:=
 dk (aB ca ax hf R bT) fun u s₁ W1 aM aZ a7 a0=>dk (bf dy ax hf aZ cV) fun v s₂ cN bt cy b3 cK=>h u v cN s₂ (aM.trans bt) cy (cK.trans a0) (a7.mono bt) b3
theorem NO{a:Int}{k:Nat}(aa: -(k:Int)<a)(ab:a<k):a.natAbs<k:=by
 induction a using Int.casesOn with
 |ofNat n=>exact nN.mp ab
 |negSucc n=>exact nN.mp (Int.lt_of_neg_lt_neg (show-(k:Int)< -((n+1:Nat):Int)from aa))
theorem Eo{a:Int}(h:small a=true):a.natAbs<2^62:=NO (of_decide_eq_true (cI.mp h).1) (of_decide_eq_true (cI.mp h).2)
theorem NP{a:Int}(h:small a=true):a.natAbs.log2<62:=by
 refine bZ (fun e:a.natAbs=0=>?_) (fun e=>?_)
 ·erw[e];decide
 ·exact(Nat.log2_lt e).mpr (Eo h)
theorem Ep{a:Int}(h:small a=true):Builtin.Int.intBits a≤64:=by obtain⟨aa,ab⟩:=cI.mp h;exact intBits_le_64 (ur (by decide) (of_decide_eq_true aa)) (ur (of_decide_eq_true ab) (by decide))
theorem ite_le{c:Prop}[Decidable c]{m k:Nat}(h:m≤k):(if c then 0 else m)≤k:=by
 refine bZ (fun e:c=>?_) (fun e=>?_)
 ·erw[if_pos e];exact fx _
 ·erw[if_neg e];exact h
theorem noPylong{a b:Int}(h:small b=true):Builtin.divisionGoesByPylong a b=false:=Bool.and_eq_false_iff.mpr (.inl (decide_eq_false (kU.mpr (ite_le (bR (je (Nat.div_le_div_right (da (NP h)))) (by decide))))))
theorem Er{a b c d:Nat}(aa:a=c)(ab:b=d)(bw:c+d≤100000):a+b≤sizeLine:=by erw[aa,ab,sizeLine_eq];exact bR bw (by decide)
theorem NQ(R:Rel w ae G W fm st s){l b:Addr}{xs aS:List V}{vs us:List Value}(aa:s.heap.PlainList l vs.toArray)(ab:s.heap.PlainList b us.toArray)(a7:b5 W xs vs)(b3:b5 W aS us)(bw:xs.length+aS.length≤100000):
  wpAny (model a4 w) A (binaryOp .Add (.ref l) (.ref b)) (d9 w ae G W fm s st (.v (.lst (xs++aS)))) bL s:=by
 obtain⟨m,hm,_⟩:=R.ns;refine add_lists (R.fr hm) R.news aa.isList ab.isList (fun h' pC hy=>?_) (Er a7.1 b3.1 bw);exact⟨_,a3.gE,(R.yX hm (k:=s.toks) pC hy (bE _)),.lst (.inr ⟨rfl,rfl⟩) ⟨0,rfl⟩ (a7.append b3).1 ((a7.append b3).mono a3.gE).2,rfl⟩
theorem NR(R:Rel w ae G W fm st s){xs aS:List V}{u v:Value}(aa:dc W (.tup xs) u)(ab:dc W (.tup aS) v)(bw:xs.length+aS.length≤100000):
  wpAny (model a4 w) A (binaryOp .Add u v) (d9 w ae G W fm s st (.v (.tup (xs++aS)))) bL s:=by
 obtain⟨m,hm,_⟩:=R.ns;obtain⟨vs,l,dH,rfl,ay,a7⟩:=n8 R aa;obtain⟨us,bt,ft,rfl,au,b3⟩:=n8 R ab;refine add_tuples (R.fr hm) R.news ⟨_,ay,rfl,_,rfl⟩ ⟨_,au,rfl,_,rfl⟩ (fun h=>?_) (fun ag h=>?_) (fun ag ag h' pC hy=>?_) (Er a7.1 b3.1 bw)
 ·have:xs=[]:=by have:=a7.1;rw[h]at this;exact o5 this.symm
  subst this;exact .self R ab rfl
 ·have:aS=[]:=by have:=b3.1;rw[h]at this;exact o5 this.symm
  subst this;rw[ei];exact .self R aa rfl
 ·have dd:=R.yX hm (k:=s.toks) pC hy (bE _);exact⟨_,a3.gE,dd,.tup (.inr ⟨rfl,rfl⟩) ⟨0,rfl⟩ (a7.append b3).1 ((a7.append b3).mono a3.gE).2,rfl⟩
theorem kA{x:V}{i:Int}(h:intOf x=I i):x= .int i:=by cases x<;>cases h;rfl
theorem qP{x:V}{xs:List V}(h:ko x=I xs):x= .lst xs:=by cases x<;>cases h;rfl
theorem u'{x:V}{xs:List V}(h:sd x=I xs):x= .tup xs:=by cases x<;>cases h;rfl
theorem y7{x:V}{b:Bool}(h:boolOf x=I b):x= .bool b:=by cases x<;>cases h;rfl
theorem Es{x:V}{k:Nat}(h:strOf x=I k):x= .str k:=by cases x<;>cases h;rfl
theorem y8{x:V}{xs:List V}(h:kp x=I xs):x= .lst xs∨x= .tup xs:=by cases x<;>cases h<;>first|exact .inl rfl|exact .inr rfl
theorem l8{x:X}{a:V}{i:Int}{u:Value}(aB:st.val x=I a)(aw:intOf a=I i)(r:b8 W x u):∃t,u= .int i t:=by obtain rfl:=kA aw;cases kz aB (fun ag e=>by cases e);exact hP r
theorem dO{k:Nat}(h:fit k=true):k≤100000:=of_decide_eq_true h
theorem Et{b:Bool}(h:¬b=false):b=true:=by cases b<;>first|rfl|exact absurd rfl h
theorem NS(R:Rel w ae G W fm st s){o:Operator}{br:jR}(aO:sj o=I br){i j:Int}{t1 e1:Tok}{z:V}(bw:uM br i j=I z):
  wpAny (model a4 w) A (binaryOp o (.int i t1) (.int j e1)) (d9 w ae G W fm s st (.v z)) bL s:=by
 have k {z}:d9 w ae G W fm s st (.v (.int z)) (.int z s.toks) {s with toks:=s.toks+1}:=.self R.toks (.int _ _) rfl;cases o<;>cases aO
 ·cases bw;exact add_int k
 ·cases bw;exact sub_int k
 ·obtain⟨aL,bw⟩:=c1 bw;cases bw;exact mul_int k ((ZX.mp aL).elim (fun h=>IntMulOk.of_left (Ep h)) fun h=>IntMulOk.of_right (Ep h))
 ·obtain⟨a',bw⟩:=ht bw;cases bw;exact mod_int' a' k
 ·obtain⟨⟨aa,ab,aq,ba⟩,bw⟩:=c1 bw;cases bw;exact pow_int_small aa (c0 ab (by decide)) (ey (Eo (cI.mpr ⟨decide_eq_true (ur (by decide) aq),decide_eq_true (ur ba (by decide))⟩)) (by decide)) k
 ·obtain⟨a',bw⟩:=ht bw;cases bw;exact floordiv_int (fun e=>a' (.inl e)) k (.inl (noPylong (Et fun e=>a' (.inr e))))
theorem NT{o:jR}{a b z:V}(h:uN o a b=I z):(o= .add∧DM a b=I z)∨((intOf a).bind fun i=>(intOf b).bind fun j=>uM o i j)=I z:=by cases o<;>first|exact .inl ⟨rfl,h⟩|exact .inr h
theorem NU{o:Operator}(h:sj o=I .add):o= .Add:=by cases o<;>first|rfl|cases h
theorem NV(R:Rel w ae G W fm st s){o:Operator}{br:jR}(aO:sj o=I br){x y:X}{u v:Value}(ct:b8 W x u)(dP:b8 W y v){a b z:V}(aB:st.val x=I a)(bf:st.val y=I b)(bw:uN br a b=I z):
  wpAny (model a4 w) A (binaryOp o u v) (d9 w ae G W fm s st (.v z)) bL s:=by
 have num:∀{i j:Int},intOf a=I i→intOf b=I j→uM br i j=I z→wpAny (model a4 w) A (binaryOp o u v) (d9 w ae G W fm s st (.v z)) bL s:=by intro i j aa ab aq;obtain⟨t1,rfl⟩:=l8 aB aa ct;obtain⟨e1,rfl⟩:=l8 bf ab dP;exact NS R aO aq
 rcases NT bw with⟨rfl,bw⟩|bw
 ·obtain rfl:=NU aO
  induction a using V.casesOn with
  |int i=>obtain⟨j,ab,rfl⟩:=omap bw;exact num rfl ab rfl
  |lst xs=>obtain⟨aS,ab,k9⟩:=aU bw;obtain rfl:=qP ab;obtain⟨ar,k9⟩:=c1 k9;cases k9;obtain⟨vs,l,rfl,cL,a7⟩:=n' R ct aB;obtain⟨us,bt,rfl,ck,b3⟩:=n' R dP bf;exact NQ R cL ck a7 b3 (dO ar)
  |tup xs=>obtain⟨aS,ab,k9⟩:=aU bw;obtain rfl:=u' ab;obtain⟨ar,k9⟩:=c1 k9;cases k9;cases kz aB (fun ag e=>by cases e);cases kz bf (fun ag e=>by cases e);exact NR R ct dP (dO ar)
  |_=>cases bw
 ·obtain⟨i,aa,bw⟩:=aU bw;obtain⟨j,ab,bw⟩:=aU bw;exact num aa ab bw
theorem l9{x:X}{i:Int}(h:fJ x=I i):x= .v (.int i):=by obtain⟨v,aa,ab⟩:=aU h;cases x<;>cases aa;erw[kA ab]
theorem mX{x:X}{b:Bool}(h:k1 x=I b):x= .v (.bool b):=by obtain⟨v,aa,ab⟩:=aU h;cases x<;>cases aa;erw[y7 ab]
theorem va{x:X}{xs:List V}(h:xL x=I xs):x= .v (.lst xs):=by obtain⟨v,aa,ab⟩:=aU h;cases x<;>cases aa;erw[qP ab]
theorem Eu{x:X}{xs:List V}(h:uR x=I xs):x= .v (.tup xs):=by obtain⟨v,aa,ab⟩:=aU h;cases x<;>cases aa;erw[u' ab]
theorem mY{x:X}{i:Nat}(h:jT x=I i):x= .cell i:=by cases x<;>cases h;rfl
theorem l'{x:X}{v:V}(h:valOf x=I v):x= .v v:=by cases x<;>cases h;rfl
theorem NW{a b:Expr}{o:Operator}{p:Pos}(aB:bj w ae C n cx a)(bf:bj w ae C n cx b):bj w ae C n cx (.BinOp a o b p):=by intro aH ah A ax G W fm st s v st' hf R aN;obtain⟨br,aO,ah⟩:=aU (show(sj o).bind _=I aH from ah);obtain⟨bx,ca,ah⟩:=aU ah;obtain⟨bN,dy,rfl⟩:=omap ah;obtain⟨x,s1,bT,aa⟩:=b2 (show aY (aj C bx st) _=I (v,st')from aN);clear aN ah;obtain⟨y,s2,cV,ab⟩:=b2 aa;obtain⟨u,ay,aq⟩:=aU ab;obtain⟨q,au,ba⟩:=aU aq;clear aa ab aq;obtain⟨z,bw,b0⟩:=omap ba;cases b0;exact wpAny_BinOp (two aB bf ca dy ax hf R bT cV fun pD fK W' s' l dd a0 ct dP=>sel (NV dd aO ct dP ay au bw) l a0)
theorem Ew{a:Expr}{p:Pos}(aB:bj w ae C n cx a):bj w ae C n cx (.UnaryOp .USub a p):=by intro aH ah A ax G W fm st s v st' hf R aN;obtain⟨bx,ca,rfl⟩:=omap (show(aW cx a).map ao.neg=I aH from ah);obtain⟨x,s1,bT,aa⟩:=b2 (show aY (aj C bx st) _=I (v,st')from aN);obtain⟨i,aw,ab⟩:=omap aa;cases ab;obtain rfl:=l9 aw;refine wpAny_UnaryOp (dk (aB ca ax hf R bT) fun u s₁ W1 aM aZ a7 a0=>?_);obtain⟨t,rfl⟩:=hP a7;exact neg_int ⟨W1,aM,aZ.toks,.int _ _,a0⟩
theorem NX{a:Expr}{p:Pos}(aB:bj w ae C n cx a):bj w ae C n cx (.UnaryOp .Not a p):=by intro aH ah A ax G W fm st s v st' hf R aN;obtain⟨bx,ca,rfl⟩:=omap (show(aW cx a).map ao.not=I aH from ah);obtain⟨x,s1,bT,aa⟩:=b2 (show aY (aj C bx st) _=I (v,st')from aN);obtain⟨i,aw,ab⟩:=omap aa;cases ab;obtain rfl:=mX aw;refine wpAny_UnaryOp (dk (aB ca ax hf R bT) fun u s₁ W1 aM aZ a7 a0=>?_);erw[pA a7];exact not_of (wpAny_truthy_bool ⟨W1,aM,aZ,.bool _,a0⟩)
theorem NY{a:Expr}{p:Pos}(aB:ST w ae C n cx a):ST w ae C n cx (.UnaryOp .Not a p):=by intro aH ah A ax G W fm st s v st' hf R aN;obtain⟨bx,ca,rfl⟩:=omap (show(aW cx a).map ao.not=I aH from ah);obtain⟨x,s1,bT,aa⟩:=b2 (show aY (aj C bx st) _=I (_,st')from aN);obtain⟨i,aw,ab⟩:=omap aa;cases ab;obtain rfl:=mX aw;exact wpAny_isTrue_Not (wpAny_mono (aB ca ax hf R bT) (fun u s₁ q=>⟨by erw[q.1],q.2⟩) fun ag ag x=>x)
theorem NZ{t a b:Expr}{p:Pos}(a5:ST w ae C n cx t)(aB:bj w ae C n cx a)(bf:bj w ae C n cx b):bj w ae C n cx (.IfExp t a b p):=by
 intro aH ah A ax G W fm st s v st' hf R aN;obtain⟨pt,mJ,ah⟩:=aU (show(aW cx t).bind _=I aH from ah);obtain⟨bx,ca,ah⟩:=aU ah;obtain⟨bN,dy,rfl⟩:=omap ah;obtain⟨x,s1,sH,aa⟩:=b2 (show aY (aj C pt st) _=I (v,st')from aN);obtain⟨c,aw,ab⟩:=aU aa;clear aN aa ah;obtain rfl:=mX aw;refine wpAny_IfExp (l6 (a5 mJ ax hf R sH) fun s₁ W1 aM aZ a0=>?_)
 induction c using hK with
 |true=>exact sel (aB ca ax hf aZ ab) aM a0
 |false=>exact sel (bf dy ax hf aZ ab) aM a0
end
end
end Tactic
end
section
open PySem PySem.W PySem.Calls PyProof.Rows PySem.SeqAt
namespace Tactic
noncomputable section
section
variable{cx:bV}{A:Around}{G:Addr→Obj→Prop}{W:a3}{fm:bS}{st st':St}{s:Shared}
theorem ints_of{xs:List V}{ns:List Int}{vs:List Value}(h:h2 xs=I ns)(r:b5 W xs vs):IntsAre vs ns:=by
 cases Em h;clear h
 induction ns generalizing vs with
 |nil=>cases r.u3;exact .nil
 |cons a l aG=>obtain⟨v,q,rfl,a7,b3⟩:=r.so;cases a7;exact .cons _ _ (aG b3)
theorem y9:∀ns ms:List Int,PyData.eqvAll (ns.map PyData.int) (ms.map PyData.int)=U (ns=ms)
 |[],[]|[],_::_|_::_,[]=>rfl
 |n::r,k::q=>(congrArg (U (n=k)&& ·) (y9 r q)).trans ((Bool.decide_and ..).symm.trans (decide_eq_decide.mpr ⟨fun h=>h.1▸h.2▸rfl,fun h=>List.cons.inj h⟩))
theorem Ex{h:Heap}{a:Addr}{vs:List Value}{k:Nat}{ns:List Int}(ar:h.get? a=I {cls:=.type "tuple",data:=.seq vs.toArray k})(aw:IntsAre vs ns):Reads h (.ref a) (.tuple (ns.map PyData.int)) []:=Reads.tuple ar rfl rfl (by simpa using readsAll_of_ints aw)
theorem Ey(ns:List Int):PyData.canLay0 (.tuple (ns.map PyData.int))=true∧PyData.depth (.tuple (ns.map PyData.int))≤2:=by have aa:=W.depthAll_ints ns;exact⟨by simp only[PyData.canLay0];exact canLayAll0_ints ns,by simp only[PyData.depth];exact je ‹_›⟩
theorem Ez(ns:List Int):PyData.canLay0 (.list (ns.map PyData.int))=true∧PyData.depth (.list (ns.map PyData.int))≤2:=by have aa:=W.depthAll_ints ns;exact⟨by simp only[PyData.canLay0];exact canLayAll0_ints ns,by simp only[PyData.depth];exact je ‹_›⟩
theorem EA{xs aS:List V}{r:Bool}(h:pg xs aS=I r):∃a b,h2 xs=I a∧h2 aS=I b∧r=U (a=b):=by
 unfold pg at h;generalize h2 xs=a0 at h⊢;generalize h2 aS=cK at h⊢
 induction a0 using gJ with
 |none=>cases h
 |some a=>induction cK using gJ with
  |none=>cases h
  |some b=>cases h;exact⟨a,b,rfl,rfl,rfl⟩
def y'(A:Around)(s:Shared)(u v:Value)(r:Bool):Prop:=RcAt A s u v r∧RcNeAt A s u v (!r)
theorem EB(ax:d1 n A){mZ db:PyData}{u v:Value}{as bs:List Addr}(EC:Reads s.heap u mZ as)(ED:Reads s.heap v db bs)(aB:mZ.canLay0=true∧mZ.depth≤2)(bf:db.canLay0=true):y' A s u v (PyData.eqv mZ db):=have ha:=ax.yY (bR (Nat.min_le_left _ _) (bR aB.2 (by decide)))
 ⟨rcAt_reads EC ED aB.1 bf ha,rcNeAt_reads EC ED aB.1 bf ha⟩
theorem N0(ax:d1 n A){l b:Addr}{xs aS:List V}{vs us:List Value}(aa:s.heap.PlainList l vs.toArray)(ab:s.heap.PlainList b us.toArray)(a7:b5 W xs vs)(b3:b5 W aS us){r:Bool}(h:(if xs.length=aS.length then pg xs aS else I false)=I r):
  y' A s (.ref l) (.ref b) r:=by
 rcases pw h with⟨_,h⟩|⟨aA,h⟩
 ·obtain⟨a,c,ay,au,rfl⟩:=EA h;exact y9 a c▸EB ax (reads_of_ints aa.isList (ints_of ay a7)) (reads_of_ints ab.isList (ints_of au b3)) (Ez a) (Ez c).1
 ·cases h;have k':=bne_iff_ne.mpr fun e=>aA (a7.1.symm.trans (e.trans b3.1));have ha:=ax.yY (fx _);exact⟨.lists_lengths aa.isList ab.isList k' ha,.lists_lengths aa.isList ab.isList k' ha⟩
theorem za(ax:d1 n A)(R:Rel w ae G W fm st s){x y:X}{u v:Value}(ct:b8 W x u)(dP:b8 W y v){a b:V}{r:Bool}(aB:st.val x=I a)(bf:st.val y=I b)(h:uO a b=I r):y' A s u v r:=by
 induction a using V.casesOn with
 |int i=>obtain⟨j,ab,rfl⟩:=omap h;obtain⟨t1,rfl⟩:=l8 aB rfl ct;obtain⟨e1,rfl⟩:=l8 bf ab dP;exact⟨.int_int _ _ _ _,.int_int _ _ _ _⟩
 |bool i=>obtain⟨j,ab,rfl⟩:=omap h;cases y7 ab;cases kz aB (fun ag e=>by cases e);cases kz bf (fun ag e=>by cases e);erw[pA ct,pA dP];exact⟨.bool_bool _ _,.bool_bool _ _⟩
 |lst xs=>obtain⟨aS,ab,aq⟩:=aU h;obtain rfl:=qP ab;obtain⟨vs,l,rfl,cL,a7⟩:=n' R ct aB;obtain⟨us,bt,rfl,ck,b3⟩:=n' R dP bf;exact N0 ax cL ck a7 b3 aq
 |tup xs=>obtain⟨aS,ab,aq⟩:=aU h;obtain rfl:=u' ab;cases kz aB (fun ag e=>by cases e);cases kz bf (fun ag e=>by cases e);obtain⟨vs,l,dH,rfl,ay,a7⟩:=n8 R ct;obtain⟨us,bt,ft,rfl,au,b3⟩:=n8 R dP;obtain⟨a,c,aa,ab,rfl⟩:=EA aq;exact y9 a c▸EB ax (Ex ay (ints_of aa a7)) (Ex au (ints_of ab b3)) (Ey a) (Ey c).1
 |_=>cases h
theorem N1(R:Rel w ae G W fm st s){y:X}{v:Value}{i:Int}(t:Tok){xs:List V}{ns:List Int}(dP:b8 W y v)(bf:st.val y=I (.lst xs))(aa:h2 xs=I ns){Q:Value→Shared→Prop}(aE:Q (.bool (ns.contains i)) s):
  wpAny (model a4 w) A (compareOp .In (.int i t) v) Q bL s:=by
 obtain⟨us,bt,rfl,ck,b3⟩:=n' R dP bf;have aw:=ints_of aa b3;refine in_listAt (fun y=>match y with| .int j _=>decide (j=i)|_=>false) ck.isList ?_ ?_
 ·intro y aV;rw[List.mem_toArray]at aV;have:∃j u,y= .int j u:=by
   clear aE aa ck b3
   induction aw with
   |nil=>cases aV
   |cons j u r aG=>cases aV with
    |head=>exact⟨_,_,rfl⟩
    |tail _ aV=>exact aG aV
  obtain⟨j,pD,rfl⟩:=this;have:=EqAt.int_int (A:=A.in1) (s:=s) j pD i t
  rwa [show(j==i)=U (j=i)from rfl]at this
 ·have:us.toArray.any (fun y=>match y with| .int j _=>decide (j=i)|_=>false)=ns.contains i:=by
   erw[List.any_toArray];clear aE aa ck b3
   induction aw with
   |nil=>rfl
   |cons j u r aG=>erw[List.any_cons,aG,ZY];congr 1;exact decide_eq_decide.mpr eq_comm
  erw[this];exact aE
end
end
end Tactic
end
section
open PySem PySem.W PySem.Calls PyProof.Rows PySem.SeqAt
namespace Tactic
noncomputable section
section
variable{cx:bV}{A:Around}{G:Addr→Obj→Prop}{W:a3}{fm:bS}{st st':St}{s:Shared}
theorem N2{v:V}{u:Value}(r:dc W v u):(u==Value.none)=kq v:=by cases r<;>rfl
theorem N3{x:X}{a:V}{u:Value}(ct:b8 W x u)(h:st.val x=I a):(u==Value.none)=kq a:=by
 induction x using X.casesOn with
 |v b=>cases h;exact N2 ct
 |cell i=>
  obtain⟨q,_,rfl⟩:=ct;obtain⟨aS,_,rfl⟩:=omap h
  rfl
theorem N4{x:X}{a:V}{u:Value}(ct:b8 W x u)(h:st.val x=I a)(aA:kq a=true):u= .none:=by
 cases a<;>cases aA;cases kz h (fun ag e=>by cases e);cases ct
 rfl
theorem N5{z:V}{t:Nat}(h:uP z=I t):∃c fs,z= .obj (I t) c fs:=by cases z<;>cases h;exact⟨_,_,rfl⟩
theorem EE{x:X}{a:V}{u:Value}(ct:b8 W x u)(h:st.val x=I a){t:Nat}(a5:uP a=I t):∃p,u= .ref p∧W.t[t]? =I p:=by obtain⟨c,fs,rfl⟩:=N5 a5;cases kz h (fun ag e=>by cases e);cases ct with|obj f fd nn a5 ex g1 g2=>exact⟨_,rfl,a5 _ rfl⟩
theorem EF{x y:X}{u v:Value}(ct:b8 W x u)(dP:b8 W y v){a b:V}{r:Bool}(aB:st.val x=I a)(bf:st.val y=I b)(h:yp a b=I r){Q:Value→Shared→Prop}:
  (Q (.bool r) s→wpAny (model a4 w) A (compareOp .Is u v) Q bL s)∧(Q (.bool (!r)) s→wpAny (model a4 w) A (compareOp .IsNot u v) Q bL s):=by
 rcases pw h with⟨aA,h⟩|⟨_,h⟩
 ·cases h;obtain rfl:=N4 dP bf aA;erw[←N3 ct aB];exact⟨is_none_gen,isnot_none_gen⟩
 ·obtain⟨t,aa,h⟩:=aU h;obtain⟨t',ab,h⟩:=aU h;obtain⟨e,b0⟩:=c1 (show(if t=t' then I true else J)=I r from h);cases e;cases b0;obtain⟨p,rfl,ay⟩:=EE ct aB aa;obtain⟨q,rfl,au⟩:=EE dP bf ab;cases ay.symm.trans au;exact⟨wpAny_is_ref_self,wpAny_isNot_ref_self⟩
theorem EG{i:Nat}{a:List V}(h:st.heap[i]? =I (.lst a)):st.val (.cell i)=I (.lst a):=congrArg (fun o=>(o.bind uS).map V.lst) h
theorem N6(ax:d1 n A)(R:Rel w ae G W fm st s){i j:Nat}{u v:Value}(ct:b8 W (.cell i) u)(dP:b8 W (.cell j) v){c d:Cell}(aa:st.heap[i]? =I c)(ab:st.heap[j]? =I d){r:Bool}(h:yr c d=I r){Q:Value→Shared→Prop}(aE:Q (.bool r) s):
  wpAny (model a4 w) A (compareOp .Eq u v) Q bL s:=by
 induction c using Cell.casesOn with
 |cw a=>
  obtain⟨b,hd,aq⟩:=aU (show(yq d).bind _=I r from h);cases d<;>cases (hd);obtain⟨vb,ba⟩:=c1 aq;cases ba;obtain⟨eu,cL,rfl⟩:=ct;obtain⟨gc,ck,rfl⟩:=dP;obtain⟨⟨ay,ky⟩,dH,fj,hQ,v1⟩:=R.cells _ _ _ aa cL;obtain⟨⟨au,cU⟩,ft,vc,ma,v2⟩:=R.cells _ _ _ ab ck;cases kk.mp vb;cases CK.mp ma;erw[ay,au];refine keq_eq (r:=true) ky cU fj vc (ax.yY (fx _)) (fun ar=>?_) ?_
  ·cases o5 ar;exact .nil
  ·induction dH using bY with
   |nil=>induction a using bY with
    |nil=>exact aE
    |cons=>cases hQ
   |cons=>induction a using bY with
    |nil=>cases hQ
    |cons=>exact aE
 |lst a=>obtain⟨b,hd,aq⟩:=aU (show(uS d).bind _=I r from h);cases d<;>cases (hd);exact(za ax R ct dP (EG aa) (EG ab) aq).1 a4 w _ _ aE
 |gone|e9|inst=>cases h
theorem vd{o:CmpOp}{br:bk}(aO:k4 o=I br){x y:X}{u v:Value}(ct:b8 W x u)(dP:b8 W y v){a b:V}(ay:st.val x=I a)(au:st.val y=I b){r:Bool}(h:((intOf a).bind fun a=>(intOf b).bind fun b=>DN br a b)=I r){Q:Value→Shared→Prop}(aE:Q (.bool r) s):
  wpAny (model a4 w) A (compareOp o u v) Q bL s:=by
 obtain⟨i,aa,ab⟩:=aU h;obtain⟨j,aq,ba⟩:=aU ab;obtain⟨t1,rfl⟩:=l8 ay aa ct;obtain⟨e1,rfl⟩:=l8 au aq dP;cases o<;>cases aO<;>cases ba
 ·exact lt_int aE
 ·exact le_int aE
 ·exact gt_int aE
 ·exact ge_int aE
theorem N7(ax:d1 n A)(R:Rel w ae G W fm st s){o:CmpOp}{br:bk}(aO:k4 o=I br){x y:X}{u v:Value}(ct:b8 W x u)(dP:b8 W y v){r:Bool}(h:st.uV br x y=I r){Q:Value→Shared→Prop}(aE:Q (.bool r) s):
  wpAny (model a4 w) A (compareOp o u v) Q bL s:=by
 obtain⟨a,ay,h⟩:=aU h;obtain⟨b,au,h⟩:=aU h;cases o<;>cases aO
 ·exact(za ax R ct dP ay au h).1 a4 w _ _ aE
 ·obtain⟨dz,h',rfl⟩:=omap h;exact(za ax R ct dP ay au h').2 a4 w _ _ aE
 ·exact vd rfl ct dP ay au h aE
 ·exact vd rfl ct dP ay au h aE
 ·exact vd rfl ct dP ay au h aE
 ·exact vd rfl ct dP ay au h aE
 ·exact(EF ct dP ay au h).1 aE
 ·obtain⟨dz,h',rfl⟩:=omap h;exact(EF ct dP ay au h').2 aE
 ·obtain⟨xs,aa,ab⟩:=aU h;obtain rfl:=qP aa;obtain⟨i,aq,ba⟩:=aU ab;obtain⟨ns,b0,rfl⟩:=omap ba;obtain⟨t1,rfl⟩:=l8 ay aq ct;exact N1 R t1 dP au b0 aE
theorem N8{o:bk}{x y:X}{r:Bool}(h:st.cmp o x y=I r):st.uV o x y=I r∨o= .eq∧((ys x y).bind fun p=>(st.heap[p.1]?).bind fun c=>(st.heap[p.2]?).bind fun d=>yr c d)=I r:=by
 induction o using bk.casesOn with
 |eq=>
  unfold St.cmp at h;generalize ys x y=c at h⊢
  induction c using gJ with
  |none=>exact .inl h
  |some p=>exact .inr ⟨rfl,h⟩
 |_=>exact .inl h
theorem oa(ax:d1 n A)(R:Rel w ae G W fm st s){o:CmpOp}{br:bk}(aO:k4 o=I br){x y:X}{u v:Value}(ct:b8 W x u)(dP:b8 W y v){r:Bool}(h:st.cmp br x y=I r){Q:Value→Shared→Prop}(aE:Q (.bool r) s):
  wpAny (model a4 w) A (compareOp o u v) Q bL s:=by
 rcases N8 h with aa|⟨e,aa⟩
 ·exact N7 ax R aO ct dP aa aE
 ·clear h;cases e;obtain⟨p,hp,h⟩:=aU aa;obtain⟨i,aC,aq⟩:=aU hp;obtain⟨j,aV,rfl⟩:=omap aq;obtain rfl:=mY aC;obtain rfl:=mY aV;obtain⟨c,aa,h⟩:=aU h;obtain⟨d,ab,h⟩:=aU h;cases o<;>cases aO;exact N6 ax R ct dP aa ab h aE
theorem ve{cx:bV}{o:CmpOp}{b:Expr}{bN:ao}(h:aW cx b=I bN):behindInMarks o b=false:=by cases b<;>first|rfl|exact cQ h
theorem ob{e:Expr}{r:List Expr}{bg:az}(h:dv cx (e::r)=I bg):∃bx bN,aW cx e=I bx∧dv cx r=I bN∧bg= .cons bx bN:=by refine eA fun cF=>?_;obtain⟨bx,ca,h⟩:=aU (show(aW cx e).bind _=_ from h);obtain⟨bN,dy,e⟩:=omap h;refine cF ?_;exact⟨bx,bN,ca,dy,e.symm⟩
theorem N9{bg:az}(h:dv cx []=I bg):bg= .nil:=by cases h;rfl
theorem EH{e:Expr}{bg:az}(h:dv cx [e]=I bg):∃bx,aW cx e=I bx∧bg= .cons bx .nil:=by obtain⟨bx,bN,ca,dy,rfl⟩:=ob h;erw[N9 dy];exact⟨bx,ca,rfl⟩
theorem N'{e au:Expr}{bg:az}(h:dv cx [e,au]=I bg):∃bx bN,aW cx e=I bx∧aW cx au=I bN∧bg= .cons bx (.cons bN .nil):=by refine eA fun cF=>?_;obtain⟨bx,bN,ca,dy,rfl⟩:=ob h;obtain⟨pc,mb,rfl⟩:=EH dy;refine cF ?_;exact⟨bx,pc,ca,mb,rfl⟩
inductive EI(cx:bV)(a:Expr)(o:CmpOp)(b:Expr)(aH:ao):Prop where
 |mk (bx bN:ao) (br:bk) (ca:aW cx a=I bx) (dy:aW cx b=I bN) (aO:k4 o=I br) (e:aH= .cmp bx br bN):EI cx a o b aH
theorem EJ{a b:Expr}{o:CmpOp}{p:Pos}{aH:ao}(ah:aW cx (.Compare a [o] [b] p)=I aH):EI cx a o b aH:=by refine eA fun cF=>?_;obtain⟨bx,ca,ah⟩:=aU (show(aW cx a).bind _=I aH from ah);obtain⟨Oa,zb,ah⟩:=aU ah;obtain⟨bN,dy,rfl⟩:=EH zb;obtain⟨br,aO,e⟩:=omap (show(k4 o).map _=I aH from ah);refine cF ?_;exact⟨bx,bN,br,ca,dy,aO,e.symm⟩
inductive EK(cx:bV)(a:Expr)(o:CmpOp)(b:Expr)(cK:CmpOp)(c:Expr)(aH:ao):Prop where
 |mk (bx bN pc:ao) (br qQ:bk) (ca:aW cx a=I bx) (dy:aW cx b=I bN) (mb:aW cx c=I pc) (aO:k4 o=I br) (kB:k4 cK=I qQ) (e:aH= .kZ bx br bN qQ pc):EK cx a o b cK c aH
theorem kZ{a b c:Expr}{o cK:CmpOp}{p:Pos}{aH:ao}(ah:aW cx (.Compare a [o,cK] [b,c] p)=I aH):EK cx a o b cK c aH:=by refine eA fun cF=>?_;obtain⟨bx,ca,ah⟩:=aU (show(aW cx a).bind _=I aH from ah);obtain⟨Oa,zb,ah⟩:=aU ah;obtain⟨bN,pc,dy,mb,rfl⟩:=N' zb;obtain⟨br,aO,ah⟩:=aU (show(k4 o).bind _=I aH from ah);obtain⟨qQ,kB,e⟩:=omap ah;refine cF ?_;exact⟨bx,bN,pc,br,qQ,ca,dy,mb,aO,kB,e.symm⟩
theorem Ob{a b:Expr}{o:CmpOp}{p:Pos}(aB:bj w ae C n cx a)(bf:bj w ae C n cx b):bj w ae C n cx (.Compare a [o] [b] p):=by intro aH ah A ax G W fm st s v st' hf R aN;obtain⟨bx,bN,br,ca,dy,aO,rfl⟩:=EJ ah;obtain⟨x,s1,bT,aa⟩:=b2 (show aY (aj C bx st) _=I (v,st')from aN);obtain⟨y,s2,cV,ab⟩:=b2 aa;obtain⟨r,av,aq⟩:=omap ab;cases aq;exact wpAny_Compare1 (two aB bf ca dy ax hf R bT cV fun pD fK W' s' l dd a0 ct dP=>oa ax dd aO ct dP av ⟨W',l,dd,.bool _,a0⟩) (ve dy)
theorem Oc{a b:Expr}{o:CmpOp}{p:Pos}(aB:bj w ae C n cx a)(bf:bj w ae C n cx b):ST w ae C n cx (.Compare a [o] [b] p):=by intro aH ah A ax G W fm st s v st' hf R aN;obtain⟨bx,bN,br,ca,dy,aO,rfl⟩:=EJ ah;obtain⟨x,s1,bT,aa⟩:=b2 (show aY (aj C bx st) _=I (_,st')from aN);obtain⟨y,s2,cV,ab⟩:=b2 aa;obtain⟨r,av,aq⟩:=omap ab;cases aq;exact wpAny_isTrue_Compare1 (two aB bf ca dy ax hf R bT cV fun pD fK W' s' l dd a0 ct dP=>oa ax dd aO ct dP av (wpAny_truthy_bool ⟨rfl,W',l,dd,a0⟩)) (ve dy)
inductive zc(C:Calls)(bx:ao)(o:bk)(bN:ao)(cK:bk)(pc:ao)(st:St)(x:X)(st':St):Prop where
 |no (c2:X) (s1:St) (bT:aj C bx st=I (c2,s1)) (y:X) (cV:aj C bN s1=I (y,st')) (h:st'.cmp o c2 y=I false) (e:x= .v (.bool false)):zc C bx o bN cK pc st x st'
 |yes (c2:X) (s1:St) (bT:aj C bx st=I (c2,s1)) (y:X) (s2:St) (cV:aj C bN s1=I (y,s2)) (h:s2.cmp o c2 y=I true) (z:X) (jq:aj C pc s2=I (z,st')) (r:Bool) (ab:st'.cmp cK y z=I r) (e:x= .v (.bool r)):zc C bx o bN cK pc st x st'
theorem sI{α:Type}{a b c:α}(h:(if true=true then a else b)=c):a=c:=h
theorem EL{bx bN pc:ao}{o cK:bk}{x:X}(aN:aj C (.kZ bx o bN cK pc) st=I (x,st')):zc C bx o bN cK pc st x st':=by
 obtain⟨c2,s1,bT,aa⟩:=b2 (show aY (aj C bx st) _=I (x,st')from aN);obtain⟨y,s2,cV,ab⟩:=b2 aa;obtain⟨t,av,aq⟩:=aU ab
 induction t using hK with
 |false=>cases aq;exact .no c2 s1 bT y cV av rfl
 |true=>obtain⟨z,s3,jq,ba⟩:=b2 (sI aq);obtain⟨r,sJ,b0⟩:=omap ba;cases b0;exact .yes c2 s1 bT y s2 cV av z jq r sJ rfl
theorem Od{a b c:Expr}{o cK:CmpOp}{p:Pos}(aB:bj w ae C n cx a)(bf:bj w ae C n cx b)(iW:bj w ae C n cx c):bj w ae C n cx (.Compare a [o,cK] [b,c] p):=by
 intro aH ah A ax G W fm st s v st' hf R aN;obtain⟨bx,bN,pc,br,qQ,ca,dy,mb,aO,kB,rfl⟩:=kZ ah;refine Compare_chain ?_ (by simp only[lastMarks];exact ve mb);cases EL aN with
 |no c2 s1 bT y cV av e=>subst e;exact dk (aB ca ax hf R bT) fun u s₁ W1 aM aZ a7 a0=>chain_link (dk (bf dy ax hf aZ cV) fun v s₂ cN bt cy b3 gd=>oa ax cy aO (a7.mono bt) b3 av (wpAny_truthy_bool ⟨cN,aM.trans bt,cy,.bool _,gd.trans a0⟩))
 |yes c2 s1 bT y s2 cV av z jq r sJ e=>
  subst e;exact dk (aB ca ax hf R bT) fun u s₁ W1 aM aZ a7 a0=>chain_link (dk (bf dy ax hf aZ cV) fun v s₂ cN bt cy b3 gd=>oa ax cy aO (a7.mono bt) b3 av (wpAny_truthy_bool
   (chain_last (dk (iW mb ax hf cy jq) fun fK gO h7 fa ek m1 pE=>oa ax ek kB (b3.mono fa) m1 sJ ⟨h7,(aM.trans bt).trans fa,ek,.bool _,pE.trans (gd.trans a0)⟩))))
theorem Oe{a b c:Expr}{o cK:CmpOp}{p:Pos}(aB:bj w ae C n cx a)(bf:bj w ae C n cx b)(iW:bj w ae C n cx c):ST w ae C n cx (.Compare a [o,cK] [b,c] p):=by
 intro aH ah A ax G W fm st s v st' hf R aN;obtain⟨bx,bN,pc,br,qQ,ca,dy,mb,aO,kB,rfl⟩:=kZ ah;refine isTrue_chain ?_ (by simp only[lastMarks];exact ve mb);cases EL aN with
 |no c2 s1 bT y cV av e=>cases e;exact dk (aB ca ax hf R bT) fun u s₁ W1 aM aZ a7 a0=>test_link (dk (bf dy ax hf aZ cV) fun v s₂ cN bt cy b3 gd=>oa ax cy aO (a7.mono bt) b3 av (wpAny_truthy_bool ⟨rfl,cN,aM.trans bt,cy,gd.trans a0⟩))
 |yes c2 s1 bT y s2 cV av z jq r sJ e=>
  cases e;exact dk (aB ca ax hf R bT) fun u s₁ W1 aM aZ a7 a0=>test_link (dk (bf dy ax hf aZ cV) fun v s₂ cN bt cy b3 gd=>oa ax cy aO (a7.mono bt) b3 av (wpAny_truthy_bool
   (test_last (dk (iW mb ax hf cy jq) fun fK gO h7 fa ek m1 pE=>oa ax ek kB (b3.mono fa) m1 sJ (wpAny_truthy_bool ⟨rfl,h7,(aM.trans bt).trans fa,ek,pE.trans (gd.trans a0)⟩)))))
inductive zd(C:Calls)(op:rQ)(bx bN:ao)(st:St)(x:X)(st':St):Prop where
 |now (t:Bool) (bT:aj C bx st=I (.v (.bool t),st')) (a5:t=U (op= .Or)) (e:x= .v (.bool t)):zd C op bx bN st x st'
 |later (t:Bool) (s1:St) (bT:aj C bx st=I (.v (.bool t),s1)) (a5:t= !U (op= .Or)) (b:Bool) (cV:aj C bN s1=I (.v (.bool b),st')) (e:x= .v (.bool b)):zd C op bx bN st x st'
theorem Of{o:Option (X×St)}{x:X}(h:uX o=I (x,st')):∃b,o=I (.v (.bool b),st')∧x= .v (.bool b):=by obtain⟨y,s1,rfl,h⟩:=b2 h;obtain⟨b,bf,h⟩:=omap h;obtain rfl:=mX bf;cases h;exact⟨b,rfl,rfl⟩
theorem EM{op:rQ}{bx bN:ao}{x:X}(aN:aj C (match op,bN with| .And,r=>.and bx r| .Or,r=>.or bx r) st=I (x,st')):zd C op bx bN st x st':=by
 have key:∃c2 s1,aj C bx st=I (c2,s1)∧∃t,k1 c2=I t∧(if t=U (op= .Or)then I (.v (.bool t),s1)else uX (aj C bN s1))=I (x,st'):=by
  induction op using BoolOp.casesOn with
  |And=>obtain⟨c2,s1,bT,aa⟩:=b2 (show aY (aj C bx st) _=I (x,st')from aN);obtain⟨t,a5,ab⟩:=aU aa;exact⟨c2,s1,bT,t,a5,by cases t<;>exact ab⟩
  |Or=>obtain⟨c2,s1,bT,aa⟩:=b2 (show aY (aj C bx st) _=I (x,st')from aN);obtain⟨t,a5,ab⟩:=aU aa;exact⟨c2,s1,bT,t,a5,by cases t<;>exact ab⟩
 obtain⟨c2,s1,bT,t,a5,h⟩:=key;obtain rfl:=mX a5;refine bZ (fun e:t=U (op= .Or)=>?_) (fun e=>?_)
 ·rw[if_pos e]at h
  injections h
  exact .now t bT e rfl
 ·rw[if_neg e]at h;obtain⟨b,cV,au⟩:=Of h;exact .later t s1 bT (by revert e;injections t<;>cases U (op= .Or)<;>simp) b cV au
theorem Og{op:rQ}{p:Pos}:∀{es:List Expr},(∀e,e∈es→bj w ae C n cx e)→∀{aH},cBool cx op es=I aH→∀{A},d1 n A→∀{G W fm st s x st'},dw cx fm→Rel w ae G W fm st s→aj C aH st=I (x,st')→wpAny (model a4 w) A (eval (.BoolOp op es p) fm.env) (d9 w ae G W fm s st' x) bL s:=by
 intro es
 induction es with
 |nil=>intro _ _ ah;exact cQ ah
 |cons e r aD=>
  intro h aH ah A ax G W fm st s x st' hf R aN
  induction r using bY with
  |nil=>exact BoolOp_one (h e (.head _) ah ax hf R aN)
  |cons au r=>
   obtain⟨bx,ca,ah⟩:=aU (show(aW cx e).bind _=I aH from ah);obtain⟨bN,dy,rfl⟩:=omap ah;have aG:∀{W st s},Rel w ae G W fm st s→aj C bN st=I (x,st')→_:=fun R=> @aD (fun e he=>h e (.tail _ he)) bN dy A ax G _ fm _ _ x st' hf R;have one:=fun{b s1}=>h e (.head _) ca ax hf R (x:=.v (.bool b)) (st':=s1);cases EM aN with
   |now t bT a5 e=>subst e;cases op<;>(cases a5;first|refine BoolOp_and (dk (one bT) fun u s₁ W1 aM aZ a7 a0=>?_)|refine BoolOp_or (dk (one bT) fun u s₁ W1 aM aZ a7 a0=>?_))<;>(erw[pA a7];exact wpAny_truthy_bool ⟨W1,aM,aZ,.bool _,a0⟩)
   |later t s1 bT a5 b cV e=>subst e;cases op<;>(cases a5;first|refine BoolOp_and (dk (one bT) fun u s₁ W1 aM aZ a7 a0=>?_)|refine BoolOp_or (dk (one bT) fun u s₁ W1 aM aZ a7 a0=>?_))<;>(erw[pA a7];exact wpAny_truthy_bool (sel (aG aZ cV) aM a0))
theorem Oh{op:rQ}{es:List Expr}{p:Pos}(h:∀e,e∈es→bj w ae C n cx e):bj w ae C n cx (.BoolOp op es p):=fun ah ag ax ag ag ag ag ag ag ag hf R aN=>Og h (show cBool cx op es=_ from ah) ax hf R aN
theorem hx.step{W':a3}{s1 s':Shared}(h:W.le W')(o:s1.os=s.os)(p:hx w ae G W' fm s1 st' s'):hx w ae G W fm s st' s':=by obtain⟨cN,a,b,d⟩:=p;exact⟨cN,h.trans a,b,d.trans o⟩
theorem EN{op:rQ}:∀{es:List Expr},(∀e,e∈es→ST w ae C n cx e)→∀{aH},cBool cx op es=I aH→∀{A},d1 n A→∀{G W fm st s b st'},dw cx fm→Rel w ae G W fm st s→aj C aH st=I (.v (.bool b),st')→wpAny (model a4 w) A (allTrue op es fm.env) (fun b' s'=>b'=b∧hx w ae G W fm s st' s') bL s:=by
 intro es
 induction es with
 |nil=>intro _ _ ah;exact cQ ah
 |cons e r aD=>
  intro h aH ah A ax G W fm st s b st' hf R aN
  induction r using bY with
  |nil=>
   have:=h e (.head _) ah ax hf R aN
   induction op using BoolOp.casesOn with
   |And=>
    refine wpAny_allTrue_And_cons (wpAny_mono this (fun b' s' q=>?_) fun ag ag x=>x)
    induction b' using hK with
    |true=>exact wpAny_allTrue_And_nil q
    |false=>exact q
   |Or=>
    refine wpAny_allTrue_Or_cons (wpAny_mono this (fun b' s' q=>?_) fun ag ag x=>x)
    induction b' using hK with
    |true=>exact q
    |false=>exact wpAny_allTrue_Or_nil q
  |cons au r=>
   obtain⟨bx,ca,ah⟩:=aU (show(aW cx e).bind _=I aH from ah);obtain⟨bN,dy,rfl⟩:=omap ah;have aG:∀{W st s},Rel w ae G W fm st s→aj C bN st=I (.v (.bool b),st')→_:=fun R=> @aD (fun e he=>h e (.tail _ he)) bN dy A ax G _ fm _ _ b st' hf R;have one:=fun{b s1}=>h e (.head _) ca ax hf R (b:=b) (st':=s1);cases EM aN with
   |now t bT a5 e=>
    cases e;cases op<;>cases a5
    ·exact wpAny_allTrue_And_cons (l6 (one bT) fun s₁ W1 aM aZ a0=>⟨rfl,W1,aM,aZ,a0⟩)
    ·exact wpAny_allTrue_Or_cons (l6 (one bT) fun s₁ W1 aM aZ a0=>⟨rfl,W1,aM,aZ,a0⟩)
   |later t s1 bT a5 b' cV e=>
    cases e;cases op<;>cases a5
    ·exact wpAny_allTrue_And_cons (l6 (one bT) fun s₁ W1 aM aZ a0=>wpAny_mono (aG aZ cV) (fun ag ag q=>⟨q.1,q.2.step aM a0⟩) fun ag ag x=>x)
    ·exact wpAny_allTrue_Or_cons (l6 (one bT) fun s₁ W1 aM aZ a0=>wpAny_mono (aG aZ cV) (fun ag ag q=>⟨q.1,q.2.step aM a0⟩) fun ag ag x=>x)
theorem aaA{op:rQ}{es:List Expr}{p:Pos}(h:∀e,e∈es→ST w ae C n cx e):ST w ae C n cx (.BoolOp op es p):=fun ah ag ax ag ag ag ag ag ag ag hf R aN=>wpAny_isTrue_BoolOp (EN h (show cBool cx op es=_ from ah) ax hf R aN)
end
end
end Tactic
end
section
open PySem PySem.W PySem.Calls PyProof.Rows PySem.SeqAt
namespace Tactic
noncomputable section
section
variable{cx:bV}{A:Around}{G:Addr→Obj→Prop}{W:a3}{fm:bS}{st st':St}{s:Shared}
noncomputable def Oi(P:Params)(c k:Nat):Option V→Bool
 |none=>(findIn (H.c7 P) (.ref (dE c)) (nm k)).any Lz
 |some v=>(match v with
  | .int j=>y4 (findIn (H.c7 P) (.ref (dE c)) (nm k)) j
  |_=>false)
def EO(P:Params)(c k:Nat):Bool:=(mO c k).isSome||Oi P c k (qG c k)
def EP(P:Params)(c:Nat):Bool:=plainGet (H.c7 P) (dE c) ""&&hasDictIn (H.c7 P) (dE c)&&plainOver (H.c7 P) (dE c)&&(findIn (H.c7 P) (.ref (dE c)) "__setattr__"==I (I (.builtin "object.__setattr__")))
theorem Oj(P:Params):(jb 11).all (EP P)=true:=by kernel_rfl
theorem Ol(P:Params):((jb 11).all fun c=>(jb 61).all fun k=>EO P c k)=true:=by kernel_rfl
theorem Om(P:Params):specialIn (H.c7 P) (.int 0 0) "__get__"=I J:=by kernel_rfl
theorem Oo:((jb 61).all fun k=> !copiedNames.contains (nm k))=true:=by kernel_rfl
theorem Oq:((jb 61).all fun k=>nm k !=Str.ofString ""&&(jb 61).all fun j=>nm k !=nm j||k==j)=true:=by kernel_rfl
theorem qR{k j:Nat}(ai:k<61)(h:nm k=nm j):k=j:=by
 have:=h1.mp Oq k (kV.mpr ai);refine bC (fun aa ab=>?_) (cI.mp this);refine bZ (fun a':j<61=>?_) (fun a'=>?_)
 ·have:=h1.mp ab j (kV.mpr a');replace this:=h▸this
  simpa using this
 ·have e:nm j=Str.ofString "":=by
   unfold nm;erw[jd,jc (by show nZ.length≤j;have:nZ.length=61:=rfl;exact uE ‹_›)]
   rfl
  replace aa:=e▸(h▸aa);simp at aa
theorem vf{o:Obj}{m:Str→Option Value}(h:NsObj o m)(k:Str):lookIn k o=I (m k):=by
 refine eA fun cF=>?_;obtain⟨es,ep,d,ai,hf⟩:=h;refine cF ?_;delta lookIn;erw[d]
 dsimp only
 erw[←hf k];delta nsFind findBy;erw[←Array.find?_toList];cases hh:es.toList.find? (fun e=>e.key.isStr k)with
 |some e=>rfl
 |none=>
  have:es.toList.any (·.refKey)=false:=by erw[List.any_eq_false];intro e he;obtain⟨x,t,ex⟩:=ai e (Array.mem_toList_iff.mp he);delta DictEntry.refKey;erw[ex];simp
  erw[this];rfl
theorem Ot{x:X}{v:Value}(r:b8 W x v):handedIn v=true:=by
 induction x using X.casesOn with
 |v a=>cases r<;>rfl
 |cell i=>obtain⟨q,_,rfl⟩:=r;rfl
theorem qS{c k:Nat}(h:iR c k=true):c<11∧k<61∧mO c k=J:=by unfold iR at h;refine bC (fun h aq=>?_) (cI.mp h);refine bC (fun aa ab=>?_) (cI.mp h);exact⟨of_decide_eq_true aa,of_decide_eq_true ab,uu.mp aq⟩
theorem vg(P:Params){c:Nat}(h:c<11):plainGet (H.c7 P) (dE c) ""=true∧hasDictIn (H.c7 P) (dE c)=true∧plainOver (H.c7 P) (dE c)=true∧findIn (H.c7 P) (.ref (dE c)) "__setattr__"=I (I (.builtin "object.__setattr__")):=by have:=h1.mp (Oj P) c (kV.mpr h);unfold EP at this;refine bC (fun this ba=>?_) (cI.mp this);refine bC (fun this aq=>?_) (cI.mp this);refine bC (fun aa ab=>?_) (cI.mp this);exact⟨aa,ab,aq,beq_iff_eq.mp ba⟩
theorem ER{o:Option (Option Value)}(h:o.any Lz=true):o=I J:=by
 rcases o with _|_|v<;>first|rfl|cases h
theorem ze(P:Params){c k:Nat}(h:iR c k=true):(findIn (H.c7 P) (.ref (dE c)) (nm k)=I J∧qG c k=J)∨∃i t,findIn (H.c7 P) (.ref (dE c)) (nm k)=I (I (.int i t))∧qG c k=I (.int i):=by
 refine eA fun cF=>?_;obtain⟨aa,ab,aq⟩:=qS h;refine cF ?_;have e:=h1.mp (h1.mp (Ol P) c (kV.mpr aa)) k (kV.mpr ab);unfold EO at e;rw[aq]at e;clear aq h;generalize qG c k=o at e⊢
 induction o using gJ with
 |none=>exact .inl ⟨ER e,rfl⟩
 |some v=>induction v using V.casesOn with
  |int j=>refine f7 (El e) fun t e=>?_;exact .inr ⟨j,t,e,rfl⟩
  |_=>cases e
theorem ES(P:Params)(i:Int)(t:Tok):specialIn (H.c7 P) (.int i t) "__get__"=I J:=Om P
theorem Ou{k:Nat}(h:k<61):copiedNames.contains (nm k)=false:=by
 have:=h1.mp Oo k (kV.mpr h)
 simpa using this
theorem Rel.K(R:Rel w ae G W fm st s)(aQ:cH w ae cb cm):(H.c7 w.params).In s.heap:=aQ.K.keeps fun b o e=>R.cD _ _ (R.base b o e)
theorem ET{E:Value→Shared→Prop}(K:(H.c7 w.params).In s.heap){x:Addr}{ox od:Obj}{m:Str→Option Value}{c k:Nat}{v:Value}{expr:Bool}{Q:Value→Shared→Prop}(cc:InstAt s.heap x ox (dE c) (I od))(aA:NsObj od m)(aB:iR c k=true)
  (aJ:m (nm k)=I v∨m (nm k)=J∧∃i t,v= .int i t∧findIn (H.c7 w.params) (.ref (dE c)) (nm k)=I (I v)) (hh:handedIn v=true) (h:Q v {s with toks:=s.toks+1}):wpAny (model a4 w) A (getAttr (.ref x) (nm k) expr) Q E s:=by
 obtain⟨aa,ab,aq⟩:=qS aB;obtain⟨g,d,_,_⟩:=vg w.params aa;refine get_value K cc (plainGet_of g).1 ?_ hh h
 rcases aJ with aJ|⟨aJ,i,t,rfl,hf⟩
 ·rcases ze w.params aB with⟨e,_⟩|⟨i,t,e,_⟩
  ·exact findObj_own d e rfl (by erw[vf aA,aJ])
  ·refine findObj_own d e ?_ (by erw[vf aA,aJ]);unfold noGet;erw[Option.all_some,ES w.params i t]
   rfl
 ·exact findObj_cls d hf (ES w.params i t) hh (Ou ab) (by erw[vf aA,aJ])
theorem EU(K:(H.c7 w.params).In s.heap)(R:Rel w ae G W fm st s){x:Addr}{ox od:Obj}{m:Str→Option Value}{c k:Nat}{expr:Bool}(L:Nat→Option X)(cc:InstAt s.heap x ox (dE c) (I od))(aA:NsObj od m)
  (ex:∀s v,m s=I v→∃n,s=nm n∧L n≠J) (g:∀n y,L n=I y→∃v,m (nm n)=I v∧b8 W y v) {r:X} (h:sf c k (L k)=I r):wpAny (model a4 w) A (getAttr (.ref x) (nm k) expr) (d9 w ae G W fm s st r) bL s:=by
 refine bC (fun aB h=>?_) (c1 h);cases ar:L k with
 |some y=>replace h:=ar▸h;cases h;obtain⟨v,e,r⟩:=g k _ ar;exact ET K cc aA aB (.inl e) (Ot r) (.self R.toks r rfl)
 |none=>
  replace h:=ar▸h;obtain⟨v,aJ,rfl⟩:=omap (show(qG c k).map X.v=I r from h);have hm:m (nm k)=J:=by
   cases aE:m (nm k)with
   |none=>rfl
   |some v=>obtain⟨j,e,a'⟩:=ex _ _ aE;replace a':=(qR (qS aB).2.1 e).symm▸a';exact absurd ar a'
  rcases ze w.params aB with⟨_,e⟩|⟨i,t,e,au⟩
  ·replace aJ:=e▸aJ;cases aJ
  ·replace aJ:=au▸aJ;cases aJ;exact ET K cc aA aB (.inr ⟨hm,i,t,rfl,e⟩) rfl (.self R.toks (.int i t) rfl)
inductive EV(W:a3)(t:Option Nat)(c:Nat)(fs:List (Nat×V))(v:Value):Prop where
 |mk (x dx:Addr) (od:Obj) (m:Str→Option Value) (e:v= .ref x) (f:W.F x (instObj (dE c) dx)) (fd:W.F dx od) (n:NsObj od m) (a5:∀i,t=I i→W.t[i]? =I x) (ex:∀s v,m s=I v→∃n y,s=nm n∧er n fs=I y) (g:∀n y,er n fs=I y→∃v,m (nm n)=I v∧dc W y v):EV W t c fs v
theorem EW{t:Option Nat}{c:Nat}{fs:List (Nat×V)}{v:Value}(h:dc W (.obj t c fs) v):EV W t c fs v:=by
 cases h with
 |obj f fd n a5 ex g1 g2=>exact⟨_,_,_,_,rfl,f,fd,n,a5,ex,fun n y e=>⟨_,g1 n y e,g2 n y e⟩⟩
theorem EX{v:V}{p:Nat×List (Nat×V)}(h:objOf v=I p):∃t,v= .obj t p.1 p.2:=by
 induction v using V.casesOn<;>cases h
 exact⟨_,rfl⟩
inductive EY(st:St)(i:Nat)(p:Nat×List (Nat×X)):Prop where
 |mk (c:Nat) (fs:List (Nat×X)) (e:p=(c,fs)) (h:st.heap[i]? =I (.inst c fs)):EY st i p
theorem zf{i:Nat}{p:Nat×List (Nat×X)}(h:(st.heap[i]?).bind pj=I p):EY st i p:=by
 obtain⟨c,ah,h⟩:=aU h
 induction c using Cell.casesOn<;>cases h
 exact⟨_,_,rfl,ah⟩
theorem Ov(aQ:cH w ae cb cm)(R:Rel w ae G W fm st s){x:X}{u:Value}(ct:b8 W x u){k:Nat}{r:X}(h:st.attr x k=I r){expr:Bool}:wpAny (model a4 w) A (getAttr u (nm k) expr) (d9 w ae G W fm s st r) bL s:=by
 induction x using X.casesOn with
 |v v=>
  obtain⟨p,aa,ab⟩:=aU (show(objOf v).bind _=I r from h);obtain⟨t,rfl⟩:=EX aa;obtain⟨x,dx,od,m,rfl,f,fd,nn,_,ex,g⟩:=EW ct;refine EU (R.K aQ) R (fun n=>(er n p.2).map X.v) ⟨R.cD _ _ f,rfl,rfl,R.cD _ _ fd⟩ nn (fun s v e=>?_) (fun n y e=>?_) ab
  ·obtain⟨n,y,ay,au⟩:=ex s v e;exact⟨n,ay,by erw[au];nofun⟩
  ·obtain⟨zg,ay,rfl⟩:=omap e;exact g n zg ay
 |cell i=>obtain⟨p,aa,ab⟩:=aU (show((st.heap[i]?).bind pj).bind _=I r from h);obtain⟨c,fs,rfl,ah⟩:=zf aa;obtain⟨q,aE,rfl⟩:=ct;obtain⟨f,m,hm,ex,g⟩:=R.cells _ _ _ ah aE;obtain⟨od,aO,nn⟩:=Ns.obj hm.ns;refine EU (R.K aQ) R (fun n=>er n fs) ⟨R.cD _ _ f,rfl,rfl,aO⟩ nn (fun s v e=>?_) (fun n y e=>(g n y e).2) ab;obtain⟨n,y,ay,au⟩:=ex s v e;exact⟨n,ay,by erw[au];nofun⟩
theorem Ow(aQ:cH w ae cb cm){e:Expr}{x:Str}{p:Pos}(he:bj w ae C n cx e)(aC:∀env,eval (.Attribute e x p) env=(do
   let o←eval e env
   standAt p.atName
   let r←holding [o] (getAttr o x true)
   letTemporaryGo e o r
   pure r)):bj w ae C n cx (.Attribute e x p):=by
 intro aH ah A ax G W fm st s v st' hf R aN;obtain⟨k,ai,ah⟩:=aU (show(jU x).bind _=I aH from ah);obtain⟨aH,ce,rfl⟩:=omap ah;rw[sG ai]at aC⊢;obtain⟨o,s1,iX,aa⟩:=b2 (show aY (aj C aH st) _=I (v,st')from aN);obtain⟨r,av,ab⟩:=omap aa;cases ab;exact Attribute_any_ (dk (he ce ax hf R iX) fun u s₁ W1 aM aZ a7 a0=>sel (Ov aQ aZ a7 av) aM a0) (aC _)
end
end
end Tactic
end
section
open PySem PySem.W PySem.Calls PyProof.Rows PySem.SeqAt
namespace Tactic
noncomputable section
section
variable{cx:bV}{A:Around}{G:Addr→Obj→Prop}{W:a3}{fm:bS}{st st':St}{s:Shared}
theorem Ox(P:Params){c k:Nat}(h:iR c k=true):takerIn (H.c7 P) (dE c) (nm k)=I J:=by
 unfold takerIn
 rcases ze P h with⟨e,_⟩|⟨i,t,e,_⟩
 ·erw[e];rfl
 ·erw[e];have:takesIn (H.c7 P) (.int i t)=I false:=by kernel_rfl
  erw[this];rfl
theorem Oy{R:Except Value Flow→Shared→Prop}(K:(H.c7 w.params).In s.heap){x dx:Addr}{m:Str→Option Value}{c k:Nat}{v:Value}{tk:Tok}(aC:s.heap.get? x=I (instObj (dE c) dx))(aA:s.heap.Ns1 dx m)(aB:iR c k=true)
  (hw:∃ns,Within m ns∧ns.length≤1000)
  (h:∀h',h'.Ns1 dx (fun y=>if y=nm k then I v else m y)→Heap.SameBut dx s.heap h'→R (.ok (.ret .none)) {s with heap:=h',toks:=s.toks+1}):
  codeAny (model a4 w) A (.call (.builtin "object.__setattr__") ⟨[.ref x,.str (nm k) tk,v],[]⟩) R s:=by
 obtain⟨aa,ab,aq⟩:=qS aB;obtain⟨g,hd,hp,aL⟩:=vg w.params aa;obtain⟨od,aO,_⟩:=Ns.obj aA.ns;have cc:InstAt s.heap x (instObj (dE c) dx) (dE c) (I od):=⟨aC,rfl,rfl,aO⟩
 refine osa_open K cc hp (Ox w.params aB) fun b=>?_;obtain⟨cd,ah,la⟩:=any_some hd;refine wpAny_bind (wpAny_pure (wpAny_bind (wpAny_bind (wpAny_loadPart aC (wpAny_bind ((looks_clsIn K ah).here ?_))))));erw[la];refine wpAny_pure (a:=I dx) (wpAny_bind (wpAny_pure (wpAny_bind ?_)));refine wpAny_nsSet1 aA fun h' hy fL=>?_;obtain⟨ns,hw,ar⟩:=hw;obtain⟨o,es,ep,e,d,z⟩:=hy.count (hw.cons (nm k) v);refine wpAny_bind (wpAny_lookBehind e (by erw[d];exact pastItsLine_dict (by erw[sizeLine_eq];simp at z;lia)) ?_);exact wpAny_pure (h h' hy fL)
theorem Oz{Q:Unit→Shared→Prop}{E:Value→Shared→Prop}(K:(H.c7 w.params).In s.heap){x dx:Addr}{m:Str→Option Value}{c k:Nat}{v:Value}(aC:s.heap.get? x=I (instObj (dE c) dx))(aA:s.heap.Ns1 dx m)(aB:iR c k=true)
  (hw:∃ns,Within m ns∧ns.length≤1000)
  (h:∀h',h'.Ns1 dx (fun y=>if y=nm k then I v else m y)→Heap.SameBut dx s.heap h'→Q () {s with heap:=h',toks:=s.toks+2}):
  wpAny (model a4 w) A (setAttr (.ref x) (nm k) v) Q E s:=by
 obtain⟨aa,ab,aq⟩:=qS aB;obtain⟨g,hd,hp,aL⟩:=vg w.params aa;obtain⟨od,aO,_⟩:=Ns.obj aA.ns;have cc:InstAt s.heap x (instObj (dE c) dx) (dE c) (I od):=⟨aC,rfl,rfl,aO⟩
 exact set_plain K cc aL (Oy (s:={s with toks:=s.toks+1}) K aC aA aB hw fun h' hy fL=>h h' hy fL)
theorem OA{P:Nat→X→Prop}{m:Str→Option Value}(ex:∀s v,m s=I v→∃n y,s=nm n∧P n y):∃ns,Within m ns∧ns.length≤1000:=by
 refine⟨Str.ofString ""::nZ.map Str.ofString,fun y aV=>?_,by have:nZ.length=61:=rfl;simp[this]⟩;cases hm:m y with
 |none=>exact absurd hm aV
 |some v=>
  obtain⟨k,_,rfl,_⟩:=ex y v hm;unfold nm;refine bZ (fun ai:k<nZ.length=>?_) (fun ai=>?_)
  ·refine .tail _ (f9.mpr ⟨nZ[k],uv ai,?_⟩);erw[jd,gp ai];rfl
  ·erw[jd,jc (uE ‹_›)];exact .head _
theorem zh{α:Type}{k j:Nat}{x:α}:∀{l:List (Nat×α)},er j (fS k x l)=if k=j then I x else er j l:=by
 intro aT
 induction aT with
 |nil=>simp only[DK,Nn,qF]
 |cons dA r aD=>
  obtain⟨i,y⟩:=dA;simp only[DL];refine bZ (fun aw:i=k=>?_) (fun aw=>?_)
  ·subst aw;simp only[if_pos rfl,qF];refine bZ (fun a':i=j=>?_) (fun a'=>?_)<;>simp[a',qF]
  ·simp only[if_neg aw,qF,aD];refine bZ (fun a':i=j=>?_) (fun a'=>?_)
   ·subst a';simp[Ne.symm aw]
   ·simp[a']
theorem OB{fs:List (Nat×X)}{bd:Nat}{m:Str→Option Value}{h h':Heap}{c k:Nat}{q:Addr×Addr}{x:X}{v:Value}(ai:k<61)(hf:W.F q.1 (instObj (dE c) q.2))(ex:∀s v,m s=I v→∃n y,s=nm n∧er n fs=I y)
  (g:∀n y,er n fs=I y→iU bd y∧∃v,m (nm n)=I v∧b8 W y v) (N:h'.Ns1 q.2 (fun y=>if y=nm k then I v else m y)) (aC:iU bd x) (r:b8 W x v):e' w W h' bd q (.inst c (fS k x fs)):=by
 refine⟨hf,_,N,fun s u ha=>?_,fun j y aV=>?_⟩
 ·split at ha
  ·rename_i e;exact⟨k,x,e,by erw[zh,if_pos rfl]⟩
  ·obtain⟨j,y,e,a'⟩:=ex s u ha;refine⟨j,y,e,?_⟩;rw[zh,if_neg ?_]
   ·exact a'
   ·rintro rfl;rename_i iY;exact iY e
 ·rw[zh]at aV
  split at aV
  ·rename_i e;cases aV;subst e;exact⟨aC,v,by simp,r⟩
  ·rename_i iY;obtain⟨a,u,e,eV⟩:=g j y aV;refine⟨a,u,?_,eV⟩;erw[if_neg fun e4=>iY (qR ai e4.symm)];exact e
theorem below(R:Rel w ae G W fm st s){x:X}{v:Value}(r:b8 W x v):iU st.heap.length x:=by
 induction x using X.casesOn with
 |v a=>trivial
 |cell i=>obtain⟨q,aE,_⟩:=r;have:=(d7.mp aE).1;rw[R.len]at this;exact this
theorem OC(aQ:cH w ae cb cm)(R:Rel w ae G W fm st s){o x:X}{u v:Value}(sr:b8 W o u)(ct:b8 W x v){k:Nat}(h:st.setAttr o k x=I st'):wpAny (model a4 w) A (setAttr u (nm k) v) (fun ag=>hx w ae G W fm s st') bL s:=by
 obtain⟨i,aw,aa⟩:=aU (show(jT o).bind _=I st' from h);obtain rfl:=mY aw;obtain⟨p,hp,ab⟩:=aU aa;obtain⟨c,fs,rfl,ah⟩:=zf hp;obtain⟨aB,aq⟩:=c1 ab;clear h aa ab;cases aq;obtain⟨aB,aJ⟩:=cI.mp aB;obtain⟨q,aE,rfl⟩:=sr;obtain⟨f,m,hm,ex,g⟩:=R.cells _ _ _ ah aE;refine Oz (R.K aQ) (R.cD _ _ f) hm aB (OA ex) fun h' hy fL=>⟨W,.rfl,R.setC ah rfl aE fL (OB (h:=s.heap) (qS aB).2.1 f ex g hy ?_ ct),rfl⟩
 induction x using X.casesOn with
 |v a=>trivial
 |cell j=>have bf:st.base≤i:=of_decide_eq_true (show U (st.base≤i)=true from aJ);erw[yM bf];exact below R ct
end
end
end Tactic
end
section
open PySem PySem.W PySem.Calls PyProof.Rows PySem.SeqAt
namespace Tactic
noncomputable section
inductive ew{h8 K α:Type}(f:h8→K)(P:α→Value→Prop):List (h8×α)→List (K×Value)→Prop where
 |nil:ew f P [] []
 |cons {k:h8} {a:α} {v:Value} {r dz}:P a v→ew f P r dz→ew f P ((k,a)::r) ((f k,v)::dz)
theorem ew.keys{h8 K α:Type}{f:h8→K}{P:α→Value→Prop}{l dh}(h:ew f P l dh):dh.map (·.1)=l.map (fun x=>f x.1):=by
 induction h with
 |nil=>rfl
 |cons _ _ aG=>simp[aG]
theorem ew.length{h8 K α:Type}{f:h8→K}{P:α→Value→Prop}{l dh}(h:ew f P l dh):dh.length=l.length:=by have:=congrArg xM h.keys;simpa using this
theorem ew.zi{h8 K:Type}{f:h8→K}{W:a3}{l:List (h8×V)}:∀{dh:List (K×Value)},dh.map (·.1)=l.map (fun x=>f x.1)→b5 W (l.map (·.2)) (dh.map (·.2))→ew f (dc W) l dh:=by
 induction l with
 |nil=>intro dh h _;cases CK.mp h;exact .nil
 |cons x r aG=>
  intro dh h g
  rcases dh with _|⟨y,dz⟩
  ·cases h
  ·refine bC (fun e b0=>?_) (List.cons.inj h);obtain⟨u,q,vh,g1,g2⟩:=b5.so g;refine bC (fun ay au=>?_) (List.cons.inj vh);obtain⟨jr,v⟩:=y;cases e;cases ay;cases au;exact .cons g1 (aG b0 g2)
theorem ew.OD{h8 K:Type}{f:h8→K}{W:a3}{l dh}(h:ew f (dc W) l dh):b5 W (l.map (·.2)) (dh.map (·.2)):=by
 induction h with
 |nil=>exact .nil
 |cons a _ aG=>exact .cons a aG
theorem ew.EZ{h8 K:Type}{f:h8→K}{W:a3}{l:List (h8×X)}:∀{dh:List (K×Value)},dh.map (·.1)=l.map (fun x=>f x.1)→cM W (l.map (·.2)) (dh.map (·.2))→ew f (b8 W) l dh:=by
 induction l with
 |nil=>intro dh h _;cases CK.mp h;exact .nil
 |cons x r aG=>
  intro dh h g
  rcases dh with _|⟨y,dz⟩
  ·cases h
  ·refine bC (fun e b0=>?_) (List.cons.inj h);obtain⟨jr,v⟩:=y;cases e;exact .cons g.1 (aG b0 g.2)
theorem ew.OE{h8 K:Type}{f:h8→K}{W:a3}{l dh}(h:ew f (b8 W) l dh):cM W (l.map (·.2)) (dh.map (·.2)):=by
 induction h with
 |nil=>trivial
 |cons a _ aG=>exact⟨a,aG⟩
theorem E0{K:Type}[DecidableEq K]{k j:K}{v:Value}{r:List (K×Value)}:valueAt ((k,v)::r) j=if k=j then I v else valueAt r j:=by unfold valueAt;erw[List.find?_cons];refine bZ (fun h:k=j=>?_) (fun h=>?_)<;>simp[h]
theorem E1{K:Type}[DecidableEq K]{k:K}{v u:Value}{r:List (K×Value)}(aA:k ∉ r.map (·.1)):stored ((k,v)::r) k u=(k,u)::r:=by
 unfold stored;erw[if_pos (by simp)];simp only[g0,if_true]
 congr 1
 conv=>rhs;erw[←List.map_id r]
 refine nP fun x aC=>?_;erw[if_neg]
 ·rfl
 ·rintro rfl;exact aA (f9.mpr ⟨x,aC,rfl⟩)
theorem E2{K:Type}[DecidableEq K]{k j:K}{v u:Value}{r:List (K×Value)}(aA:j≠k):stored ((j,v)::r) k u=(j,v)::stored r k u:=by
 unfold stored;erw[List.any_cons,decide_eq_false aA,LA,g0,if_neg aA];refine bZ (fun h:(r.any fun x=>decide (x.1=k))=true=>?_) (fun h=>?_)
 ·erw[if_pos h,if_pos h]
 ·erw[if_neg h,if_neg h];rfl
theorem ew.er{P:X→Value→Prop}{l dh}(h:ew nm P l dh){k:Nat}(ai:k<61){x:X}(e:Tactic.er k l=I x):∃v,valueAt dh (nm k)=I v∧P x v:=by
 induction h with
 |nil=>cases e
 |cons a _ aG=>
  erw[E0]
  rcases pw e with⟨h,e⟩|⟨h,e⟩
  ·cases e;cases h;exact⟨_,if_pos rfl,a⟩
  ·erw[if_neg fun e4=>h (qR ai e4.symm).symm];exact aG e
theorem ew.fS{P:X→Value→Prop}{l dh}(h:ew nm P l dh){k:Nat}(ai:k<61){x:X}{v:Value}(a:P x v)(aA:(dh.map (·.1)).Nodup):ew nm P (Tactic.fS k x l) (stored dh (nm k) v):=by
 induction h with
 |nil=>exact .cons a .nil
 | @cons j y u r dz b q aG=>
  refine bC (fun zj zk=>?_) (jf.mp aA);show ew nm P (if j=k then _ else _) _;refine bZ (fun h:j=k=>?_) (fun h=>?_)
  ·erw[if_pos h];subst h;erw[E1 zj];exact .cons a q
  ·erw[if_neg h,E2 fun e4=>h (qR ai e4.symm).symm];exact .cons b (aG zk)
theorem ew.g7{P:V→Value→Prop}{l dh}(h:ew id P l dh)(k:Int):(∃x v,Tactic.g7 k l=I x∧valueAt dh k=I v∧P x v)∨(Tactic.g7 k l=J∧valueAt dh k=J):=by
 induction h with
 |nil=>exact .inr ⟨rfl,rfl⟩
 | @cons j y u r dz a _ aG=>
  erw[E0,show Tactic.g7 k ((j,y)::r)=if j=k then I y else Tactic.g7 k r from rfl];refine bZ (fun e:j=k=>?_) (fun e=>?_)
  ·erw[if_pos e,if_pos (show id j=k from e)];exact .inl ⟨_,_,rfl,rfl,a⟩
  ·erw[if_neg e,if_neg (show¬id j=k from e)];exact aG
theorem ew.mM{P:V→Value→Prop}{l dh}(h:ew id P l dh){k:Int}{x:V}{v:Value}(a:P x v)(aA:(dh.map (·.1)).Nodup):ew id P (Tactic.mM k x l) (stored dh k v):=by
 induction h with
 |nil=>exact .cons (k:=k) a .nil
 | @cons j y u r dz b q aG=>
  refine bC (fun zj zk=>?_) (jf.mp aA);show ew id P (if j=k then _ else _) _;refine bZ (fun e:j=k=>?_) (fun e=>?_)
  ·erw[if_pos e];cases e;erw[show stored ((id j,u)::dz) j v=(j,v)::dz from E1 zj];exact .cons (k:=j) a q
  ·erw[if_neg e,show stored ((id j,u)::dz) k v=(j,u)::stored dz k v from E2 e];exact .cons (k:=j) b (aG zk)
theorem DictOf.nodup{K:Type}[DecidableEq K]{knd:KeyKind a4 w K}{h:Heap}{a:Addr}{a8:List (K×Value)}(x:h.DictOf knd a a8):(a8.map (·.1)).Nodup:=by obtain⟨_,_,_,_,_,_,_,_,n⟩:=x;exact n
section
variable{cx:bV}{A:Around}{G:Addr→Obj→Prop}{W:a3}{fm:bS}{st st':St}{s:Shared}
theorem OF(slice:Expr)(o i:Value):subscripted slice false o i=operate [i,o] (getItem o i)∨subscripted slice false o i=operate [o,i] (getItem o i):=by
 induction slice using Expr.casesOn with
 |Slice a b c p=>rcases c with _|c<;>first|exact .inl rfl|exact .inr rfl
 |_=>exact .inr rfl
theorem tail_any{value slice:Expr}{o i:Value}{T id:String}{Q:Value→Shared→Prop}(d':s.TypeIs o T)
  (ar:typeLookup (.type T) "__getitem__"=pure (I (.builtin id))) (h:wpAny (model a4 w) A (getItem o i) Q bL s):wpAny (model a4 w) A (subscriptTail value slice o i) Q bL s:=by
 unfold subscriptTail;refine wpAny_bind ?_;erw[getitemInPython_of_ne d'.not_modules];refine wpAny_bind (wpAny_specialOf d' ar ?_);have fin:wpAny (model a4 w) A (subscripted slice false o i) (fun r gO=>wpAny (model a4 w) A (letTemporaryGo value o r>>=fun ag=>pure r) Q bL gO) bL s:=by
  have q:=wpAny_mono h (fun r gO vi=>(wpAny_bind (wpAny_letTemporaryGo (wpAny_pure vi)):wpAny (model a4 w) A (letTemporaryGo value o r>>=fun ag=>pure r) Q bL gO)) fun ag ag x=>x
  rcases OF slice o i with e|e<;>(erw[e];exact wpAny_operating q)
 first
  |exact wpAny_pure (wpAny_bind fin)
  |exact wpAny_bind (wpAny_pure (wpAny_bind fin))
  |exact wpAny_bind fin
theorem zl{i:Int}{m j:Nat}(h:idx i m=I j):0≤i∧i<m∧j=i.toNat∧i≤100000:=by refine bC (fun hh h=>?_) (c1 h);exact⟨hh.1,hh.2.1,(Option.some.inj h).symm,hh.2.2⟩
theorem OG{i:Int}{m:Nat}(h0:0≤i)(aa:i<m):seqIndex? i m=I i.toNat:=by unfold seqIndex?;have:¬i<0:=ez.mpr h0;simp[this,h0,aa]
theorem OH{i:Int}{m n:Nat}(e:m=n)(h:i<m):i<n:=e▸h
inductive zm(w:World)(A:Around)(s:Shared)(u v:Value)(P:Value→Shared→Prop):Prop where
 |mk (T id:String) (aa:s.TypeIs u T) (ab:typeLookup (.type T) "__getitem__"=pure (I (.builtin id))) (h:wpAny (model a4 w) A (getItem u v) P bL s):zm w A s u v P
theorem item_list(R:Rel w ae G W fm st s){xs:List V}{l:Addr}{vs:List Value}{i y:V}{u:Value}(p:s.heap.PlainList l vs.toArray)(q:b5 W xs vs)(jZ:b8 W (.v i) u)(h:gL (.lst xs) i=I y):
  zm w A s (.ref l) u (d9 w ae G W fm s st (.v y)):=by
 obtain⟨j,ab,h⟩:=aU (show(intOf i).bind _=I y from h);obtain⟨k,ai,aV⟩:=aU h;obtain rfl:=kA ab;obtain⟨t,rfl⟩:=hP jZ;obtain⟨h0,aa,rfl,ab⟩:=zl ai;obtain⟨v,aJ,bO⟩:=q.get aV;have ar:=q.1.symm;exact⟨_,_,p.isList.typeIs,slot_list_getitem.lookup,(wpAny_getItem_list p.isList h0 (mC ab (by decide)) ((uw).trans aJ) (.self R bO rfl))⟩
theorem E3{k:Nat}{v:Value}(r:b8 W (.v (.str k)) v):∃t,v= .str (nm k) t:=by cases r with|str k t=>exact⟨t,rfl⟩
theorem E4(aQ:cH w ae cb cm)(R:Rel w ae G W fm st s){x i r:X}{u v:Value}(ct:b8 W x u)(jZ:b8 W i v)(h:st.item x i=I r):zm w A s u v (d9 w ae G W fm s st r):=by
 obtain⟨i,aw,hh⟩:=aU h;clear h;obtain rfl:=l' aw
 induction x using X.casesOn with
 |v a=>
  obtain⟨y,aV,rfl⟩:=omap (show(gL a i).map X.v=I r from hh);obtain⟨xs,aL,OI⟩:=aU (show(kp _).bind _=I y from aV)
  rcases y8 aL with rfl|rfl
  ·obtain⟨vs,l,rfl,p,q⟩:=y1 R ct;exact item_list R p q jZ aV
  ·obtain⟨j,ab,OJ⟩:=aU OI;obtain⟨k,ai,OK⟩:=aU OJ;obtain rfl:=kA ab;obtain⟨h0,aa,rfl,ab⟩:=zl ai;obtain⟨t,rfl⟩:=hP jZ;obtain⟨vs,l,dH,rfl,ay,a7⟩:=n8 R ct;obtain⟨v,aJ,bO⟩:=a7.get OK;have a5:IsTup s.heap l vs.toArray:=⟨_,ay,rfl,_,rfl⟩
   exact⟨_,_,a5.typeIs,slot_tuple_getitem.lookup,getItem_tuple a5 (c0 (by decide) h0) (mC ab (by decide)) (OG h0 (OH a7.1.symm aa)) ((uw).trans aJ) (.self R bO rfl)⟩
 |cell a=>
  obtain⟨q,aE,rfl⟩:=ct;obtain⟨c,ah,h⟩:=aU (show(st.heap[a]?).bind _=I r from hh);clear hh
  induction c using Cell.casesOn with
  |lst xs=>obtain⟨y,aV,rfl⟩:=omap (show(gL (.lst xs) i).map X.v=I r from h);obtain⟨e,vs,p,bO⟩:=R.cells _ _ _ ah aE;erw[e];exact item_list R p bO jZ aV
  |cw kvs=>
   obtain⟨k,ai,h⟩:=aU (show(intOf i).bind _=I r from h);obtain⟨y,aV,rfl⟩:=omap h;obtain rfl:=kA ai;obtain⟨⟨e,ns⟩,a8,d,js,mc⟩:=R.cells _ _ _ ah aE;obtain⟨t,rfl⟩:=hP jZ
   rcases(ew.zi (f:=id) js mc).g7 k with⟨x,v,aa,ab,aq⟩|⟨aa,ab⟩
   ·obtain rfl:=Option.some.inj (aa.symm.trans aV);erw[e];exact⟨_,_,d.typeIs,slot_dict_getitem.lookup,wpAny_getItem_of (k:=k) (knd:=nQ a4 w) (by simp[nQ,Value.isInt]) d.mapOf ab (.self R.toks aq rfl)⟩
   ·exact cQ (aa.symm.trans aV)
  |e9 kvs=>obtain⟨k,zo,fk⟩:=aU (show(strOf i).bind _=I r from h);clear h;obtain rfl:=Es zo;obtain⟨ai,fk⟩:=c1 fk;obtain⟨⟨e,ns⟩,a8,d,js,mc,_⟩:=R.cells _ _ _ ah aE;obtain⟨v,aJ,bO⟩:=(ew.EZ js mc).er ai fk;obtain⟨t,rfl⟩:=E3 jZ;erw[e];exact⟨_,_,d.typeIs,slot_dict_getitem.lookup,wpAny_getItem_of (k:=nm k) (knd:=qt a4 w) (by simp[qt,Value.isStrOf]) d.mapOf aJ (.self R.toks bO rfl)⟩
  |gone|inst=>cases h
theorem OL(aQ:cH w ae cb cm)(R:Rel w ae G W fm st s){x i r:X}{u v:Value}(ct:b8 W x u)(jZ:b8 W i v)(h:st.item x i=I r){value slice:Expr}:
  wpAny (model a4 w) A (subscriptTail value slice u v) (d9 w ae G W fm s st r) bL s:=by
 obtain⟨T,id,aa,ab,aq⟩:=E4 (A:=A) aQ R ct jZ h;exact tail_any aa ab aq
end
end
end Tactic
end
section
open PySem PySem.W PySem.Calls PyProof.Rows PySem.SeqAt
namespace Tactic
noncomputable section
section
variable{cx:bV}{A:Around}{G:Addr→Obj→Prop}{W:a3}{fm:bS}{st st':St}{s:Shared}
theorem E5(f:Array Value→Array Value)(af:Array Value)(n:Nat):∃k,Obj.mapSeq f {cls:=.type "list",data:=.seq af n}={cls:=.type "list",data:=.seq (f af) k}:=by simp[Obj.mapSeq]
theorem OM{E:Value→Shared→Prop}{l:Addr}{items:Array Value}{k:Int}{t:Tok}{v:Value}{Q:Unit→Shared→Prop}(ar:s.heap.PlainList l items)
  (h0:0≤k) (eH:k<2^63) (aA:k<items.size)
  (cR:∀h',h'.PlainList l (items.setIfInBounds k.toNat v)→Heap.SameBut l s.heap h'→Q () {s with heap:=h'}):
  wpAny (model a4 w) A (setItem (.ref l) (.int k t) v) Q E s:=by
 obtain⟨ne,aO⟩:=id ar;have hd:({cls:=.type "list",data:=.seq items ne}:Obj).data= .seq items ne:=rfl;unfold setItem
 try with_reducible refine wpAny_holding ?_
 first|refine wpAny_bind (wpAny_pure ?_)|skip
 refine wpAny_bind (wpAny_sequenceKey ar.isList.typeIs (by decide) ?_);refine wpAny_bind (wpAny_callSpecial?_slot (name:=Str.ofString "__setitem__") ar.isList.typeIs slot_list_setitem
  (wpAny_call_entry slot_list_setitem ar.isList.typeIs entry_list_setitem ?_ (args_list_setitem _ _ _)))
 show wpAny _ _ (Builtin.List.listSubscript? (.int k t)>>=_) _ _ s;refine wpAny_bind (wpAny_listSubscript_int (fitsIndex_of h0 eH) ?_);clear eH;obtain⟨j,rfl⟩:=ZZ h0;have a':j<items.size:=by exact Dp ‹_›
 have sL:=Array.getElem?_eq_getElem a';refine wpAny_bind (wpAny_bind (wpAny_seqItemAt aO hd (wpAny_pure ?_)));erw[sL];obtain⟨aaB,la⟩:=Obj.data_mapSeq hd (·.setIfInBounds j v);have hs:(s.heap.update l (Obj.mapSeq (·.setIfInBounds j v))).PlainList l (items.setIfInBounds j v):=by obtain⟨k,ai⟩:=E5 (·.setIfInBounds j v) items ne;refine⟨k,?_⟩;erw[Heap.get?_update_self _ aO (Obj.isFreed_of_seq la),ai]
 refine wpAny_bind (wpAny_setSeqItemAt aO hd ?_)
 first
  |exact wpAny_bind (wpAny_pure (wpAny_pure ⟨.none,rfl,wpAny_pure (cR _ hs (Heap.SameBut.update ..))⟩))
  |exact wpAny_pure ⟨.none,rfl,wpAny_pure (cR _ hs (Heap.SameBut.update ..))⟩
theorem b5.set{xs:List V}{vs:List Value}(h:b5 W xs vs){k:Nat}{x:V}{v:Value}(r:dc W x v):b5 W (xs.set k x) (vs.set k v):=by
 refine⟨by simp[h.1],fun i y u aa ab=>?_⟩;rw[Lx]at aa ab;refine bZ (fun e:k=i=>?_) (fun e=>?_)
 ·subst e;simp only[if_true]at aa ab
  split at aa
  ·split at ab
   ·cases aa;cases ab;exact r
   ·cases ab
  ·cases aa
 ·rw[if_neg e]at aa ab;exact h.2 i y u aa ab
theorem ON{bd k:Nat}{x:X}:∀{l:List (Nat×X)},(∀y∈l,iU bd y.2)→iU bd x→∀y∈fS k x l,iU bd y.2:=by
 intro aT
 induction aT with
 |nil=>intro _ aC y aV;simp only[DK,dY]at aV;subst aV;exact aC
 |cons dA r aD=>
  obtain⟨j,z⟩:=dA;intro h aC y aV;rw[DL]at aV
  split at aV
  ·rcases ec.mp aV with rfl|aV
   ·exact aC
   ·exact h y (.tail _ aV)
  ·rcases ec.mp aV with rfl|aV
   ·exact h _ (.head _)
   ·exact aD (fun y aV=>h y (.tail _ aV)) aC y aV
theorem E6(aQ:cH w ae cb cm)(R:Rel w ae G W fm st s){o i x:X}{u v z:Value}(sr:b8 W o u)(jZ:b8 W i v)(ct:b8 W x z)(h:st.setItem o i x=I st'):
  wpAny (model a4 w) A (setItem u v z) (fun ag=>hx w ae G W fm s st') bL s:=by
 obtain⟨i,aw,hh⟩:=aU h;clear h;obtain rfl:=l' aw;obtain⟨a,aB,aa⟩:=aU hh;obtain rfl:=mY aB;obtain⟨q,aE,rfl⟩:=sr;obtain⟨c,ah,h0⟩:=aU aa;clear hh aa;obtain⟨dr,h,rfl⟩:=omap h0;clear h0
 induction c using Cell.casesOn with
 |lst xs=>obtain⟨j,a',aq⟩:=aU (show(intOf i).bind _=I dr from h);obtain⟨y,aV,ba⟩:=aU aq;clear h aq;obtain⟨k,ai,rfl⟩:=omap ba;obtain rfl:=kA a';obtain rfl:=l' aV;obtain⟨h0,aa,rfl,ab⟩:=zl ai;obtain⟨t,rfl⟩:=hP jZ;obtain⟨e,vs,p,bO⟩:=R.cells _ _ _ ah aE;erw[e];refine OM p h0 (kY ‹_› rfl) (by simpa [bO.1]using aa) fun h' cn fL=>?_;exact⟨W,.rfl,R.setC ah rfl aE fL ⟨e,vs.set j.toNat z,by simpa using cn,bO.set ct⟩,rfl⟩
 |cw kvs=>
  obtain⟨k,ai,aq⟩:=aU (show(intOf i).bind _=I dr from h);obtain⟨y,aV,ba⟩:=aU aq;clear h aq;obtain rfl:=kA ai;obtain rfl:=l' aV;refine bC (fun eH ba=>?_) (c1 ba);cases ba;obtain⟨t,rfl⟩:=hP jZ;obtain⟨⟨e,ns⟩,a8,d,js,mc⟩:=R.cells _ _ _ ah aE;erw[e];have iB:=ew.zi (f:=id) js mc;refine wpAny_setItem_pairs (k:=k) (knd:=nQ a4 w) (by simp[nQ,Value.isInt]) d (fun h' qT fL=>?_) ?_
  ·have sM:=iB.mM (k:=k) ct (DictOf.nodup d);exact⟨W,.rfl,R.setC ah rfl aE fL ⟨⟨e,ns⟩,_,qT,sM.keys,sM.OD⟩,rfl⟩
  ·erw[iB.length,sizeLine_eq];have:=dO eH;exact cz ‹_› rfl
 |e9 kvs=>
  obtain⟨k,ai,aq⟩:=aU (show(strOf i).bind _=I dr from h);clear h;obtain rfl:=Es ai;obtain⟨⟨ai,eH,aC⟩,aq⟩:=c1 aq;cases aq;obtain⟨t,rfl⟩:=E3 jZ;obtain⟨⟨e,ns⟩,a8,d,js,mc,bf⟩:=R.cells _ _ _ ah aE;erw[e];have iB:=ew.EZ js mc;refine wpAny_setItem_pairs (k:=nm k) (knd:=qt a4 w) (by simp[qt,Value.isStrOf]) d (fun h' qT fL=>?_) ?_
  ·have sM:=iB.fS ai ct (DictOf.nodup d);refine⟨W,.rfl,R.setC ah rfl aE fL ⟨⟨e,ns⟩,_,qT,sM.keys,sM.OE,ON bf ?_⟩,rfl⟩
   induction x using X.casesOn with
   |v y=>trivial
   |cell j=>
    have oc:st.base≤a:=by simpa [valOf]using aC
    erw[yM oc];exact below R ct
  ·erw[iB.length,sizeLine_eq];have:=dO eH;exact cz ‹_› rfl
 |gone|inst=>cases h
theorem OO(aQ:cH w ae cb cm){e i:Expr}{p:Pos}(he:bj w ae C n cx e)(aw:bj w ae C n cx i){aH pi:ao}(ce:aW cx e=I aH)(ci:aW cx i=I pi){A:Around}(ax:d1 n A){G W fm st s x st'}(hf:dw cx fm)(R:Rel w ae G W fm st s)(aN:aj C (.item aH pi) st=I (x,st')):
  wpAny (model a4 w) A (eval (.Subscript e i p) fm.env) (d9 w ae G W fm s st' x) bL s:=by
 obtain⟨x,s1,bT,aa⟩:=b2 (show aY (aj C aH st) _=I (_,st')from aN);obtain⟨y,s2,cV,ab⟩:=b2 aa;obtain⟨r,av,aq⟩:=omap ab;cases aq;exact Subscript_ (two he aw ce ci ax hf R bT cV fun pD fK W' s' l dd a0 ct dP=>sel (OL aQ dd ct dP av) l a0)
theorem Rel.zp(R:Rel w ae G W fm st s){xs:List V}{vs:List Value}{k:Nat}(r:b5 W xs vs):d9 w ae G W fm s st (.v (.lst xs)) (.ref s.heap.objs.size) {s with heap:=s.heap.push {cls:=.type "list",data:=.seq vs.toArray},toks:=k}:=⟨_,a3.gE,R.Ea rfl,.lst (.inr ⟨rfl,rfl⟩) ⟨0,rfl⟩ r.1 (r.mono a3.gE).2,rfl⟩
theorem Rel.zq(R:Rel w ae G W fm st s){xs:List V}{vs:List Value}{k:Nat}(r:b5 W xs vs):d9 w ae G W fm s st (.v (.tup xs)) (.ref s.heap.objs.size) {s with heap:=s.heap.push {cls:=.type "tuple",data:=.seq vs.toArray},toks:=k}:=⟨_,a3.gE,R.Ea rfl,.tup (.inr ⟨rfl,rfl⟩) ⟨0,rfl⟩ r.1 (r.mono a3.gE).2,rfl⟩
theorem Rel.qU(R:Rel w ae G W fm st s){q:Addr×Addr}:(W.p++[q])[st.heap.length]? =I q:=R.len▸Ly
theorem a3.sN{q:Addr×Addr}:W.le {W with p:=W.p++[q]}:=⟨fun ag ag h=>h,iq _,o4 _ _⟩
theorem Rel.E7(R:Rel w ae G W fm st s){xs:List V}{vs:List Value}{k:Nat}(r:b5 W xs vs):d9 w ae G W fm s (st.new (.lst xs)).2 (st.new (.lst xs)).1 (.ref s.heap.objs.size) {s with heap:=s.heap.push {cls:=.type "list",data:=.seq vs.toArray},toks:=k}:=⟨_,a3.sN,(R.keep (k:=k) fun ag ag e=>Heap.get?_push_of_some _ e).n7 (q:=(s.heap.objs.size,s.heap.objs.size)) (R.h5 (bE _)) ⟨rfl,vs,⟨0,Heap.get?_push_size _ rfl⟩,r.mono a3.sN⟩,⟨_,R.qU,rfl⟩,rfl⟩
end
end
end Tactic
end
section
open PySem PySem.W PySem.Calls PyProof.Rows PySem.SeqAt
namespace Tactic
noncomputable section
section
variable{cx:bV}{A:Around}{G:Addr→Obj→Prop}{W W':a3}{fm fm':bS}{st st':St}{s:Shared}
noncomputable abbrev iZ(G:Addr→Obj→Prop)(E:List (Addr×Obj)):Addr→Obj→Prop:=fun a o=>G a o∨(a,o)∈E
theorem Rel.i0(R:Rel w ae G W fm st s){E:List (Addr×Obj)}(h:∀a o,(a,o)∈E→s.heap.get? a=I o∧¬fT W fm st a∧∀br,¬W.F a br):Rel w ae (iZ G E) W fm st s:=R.Ee (fun ag ag g=>.inl g) fun a o g=>g.imp id (h a o)
theorem Rel.E8{E:List (Addr×Obj)}(R:Rel w ae (iZ G E) W fm st s)(h:∀a o,(a,o)∈E→∀v,o.data≠ .cell v):Rel w ae G W fm st s:=R.yU (fun ag ag g=>.inl g) fun x i a b=>by obtain⟨c,v,o,e,g,d,r⟩:=R.jo x i a b;exact⟨c,v,o,e,g.resolve_right fun g=>h _ _ g v d,d,r⟩
theorem Rel.zr{E:List (Addr×Obj)}(R:Rel w ae (iZ G E) W fm st s){a:Addr}{o:Obj}(h:(a,o)∈E)(dF:∀o,¬G a o):Off G W fm st a:=⟨fun aO=>R.eB a aO o (.inr h),fun br f=>R.fz a br o f (.inr h),dF⟩
theorem Rel.vj(R:Rel w ae G W fm st s){d:Addr}(hd:Off G W fm st d){h':Heap}{k:Nat}(aL:Heap.SameBut d s.heap h'):Rel w ae G W fm st {s with heap:=h',toks:=k}:=R.u5 fun b o e h=>(aL.2 b (hd.ne h)).trans e
theorem Rel.E9(R:Rel w ae G W fm st s)(i:Nat):hv fm st.base st.heap.length i≤st.heap.length:=by
 refine bZ (fun h:i<st.base=>?_) (fun h=>?_)
 ·exact(yN h).symm▸bR (R.n6 i h) R.cP
 ·exact(yM (Nat.le_of_not_lt h)).symm▸bE _
noncomputable def own(fm:bS)(h:Heap)(a:Addr)(o:Obj):Prop:=hu fm a∧h.get? a=I o
abbrev i1(G:Addr→Obj→Prop)(fm:bS)(h:Heap):Addr→Obj→Prop:=fun a o=>G a o∨own fm h a o
theorem own.zt{h:Heap}{a:Addr}{o:Obj}(x:own fm h a o):fT W fm st a:=.fr x.1
theorem Rel.owned(R:Rel w ae G W fm st s){a:Addr}(f:hu fm a):∃o,own fm s.heap a o:=(R.lo.alive f).elim fun o e=>⟨o,f,e⟩
theorem Rel.E'(R:Rel w ae G W fm st s){a:Addr}{o:Obj}(g:i1 G fm s.heap a o):s.heap.get? a=I o:=g.elim (R.e3 a o) qp
theorem Rel.enter(R:Rel w ae G W fm st s){loc':List (Option X)}{b':Nat}{h':Heap}{k:Nat}(ai:∀b o,s.heap.get? b=I o→h'.get? b=I o)
  (fresh:∀a,hu fm' a→s.heap.get? a=J) (lo:ku (i1 G fm s.heap) W fm' loc' h')
  (bd:∀i,i<st.heap.length→hv fm st.base st.heap.length i≤hv fm' b' st.heap.length i) (cP:b'≤st.heap.length) (n6:∀i,i<b'→fm'.bd i≤b') (above:ae.objs.size≤fm'.env.locals):
  Rel w ae (i1 G fm s.heap) W fm' {st with loc:=loc',base:=b'} {s with heap:=h',toks:=k} where
 cD:=fun a o f=>ai _ _ (R.cD a o f)
 e3:=fun a o g=>ai _ _ (R.E' g)
 len:=R.len
 tag:=R.tag
 cl:=fun{i c q} l=>((R.cl l).mono .rfl (bd i (d7.mp l.1).1)).at' fun o=>ai _ o
 apart:=R.apart
 fU:=fun a h o f=>by
  rcases h with h|⟨i,c,q,l,e⟩
  ·exact mT (fresh a h) (R.cD a o f)
  ·exact R.fU a (.hp i c q l e) o f
 eB:=fun a h o g=>by
  rcases h with h|⟨i,c,q,l,e⟩
  ·exact mT (fresh a h) (R.E' g)
  ·exact g.elim (R.eB a (.hp i c q l e) o) fun g=>R.g9 l (g.1.eq e)
 g9:=fun{i c q} l h=>(R.alive (.hp i c q l rfl)).elim fun ag e=>mT (fresh _ h) e
 lo:=lo
 gens:=R.gens
 cP:=cP
 fz:=fun a o br f g=>g.elim (R.fz _ _ _ f) fun g=>R.fU a g.zt o f
 base:=R.base
 above:=above
 n6:=n6
theorem Rel.leave(R:Rel w ae G W fm st s){s':Shared}{H:List Cell}{P:List (Addr×Addr)}(eG:W.le W')(dd:Rel w ae (i1 G fm s.heap) W' fm' st' s')
  (dM:P.length=H.length) (m2:∀{i c q},gD P H i c q→gD W'.p st'.heap i c q)
  (OP:W.p<+:P)
  (h9:∀{i c q},gD P H i c q→e' w W' s'.heap (hv fm' st'.base st'.heap.length i) q c→e' w {W' with p:=P} s'.heap (hv fm st.base H.length i) q c) (vk:st.base≤H.length):
  Rel w ae G {W' with p:=P} fm {st with heap:=H,tag:=st'.tag} s' where
 cD:=dd.cD
 e3:=fun a o g=>dd.e3 a o (.inl g)
 len:=dM
 tag:=dd.tag
 cl:=fun l=>h9 l (dd.cl (m2 l))
 apart:=fun aM bt h=>dd.apart (m2 aM) (m2 bt) h
 fU:=fun a h o f=>by
  rcases h with h|⟨i,c,q,l,e⟩
  ·exact(R.owned h).elim fun br g=>dd.fz a o br f (.inr g)
  ·exact dd.fU a (.hp i c q (m2 l) e) o f
 eB:=fun a h o g=>by
  rcases h with h|⟨i,c,q,l,e⟩
  ·exact R.eB a (.fr h) o g
  ·exact dd.eB a (.hp i c q (m2 l) e) o (.inl g)
 g9:=fun{i c q} l h=>(R.owned h).elim fun o g=>dd.eB q.2 (.hp i c q (m2 l) rfl) o (.inr g)
 lo:=R.lo.keep ⟨eG.F,eG.t,OP⟩ (fun ag ag g=>g) fun a f o e=>dd.e3 a o (.inr ⟨f,e⟩)
 gens:=dd.gens
 cP:=vk
 fz:=fun a o br f g=>dd.fz a o br f (.inl g)
 base:=dd.base
 above:=R.above
 n6:=R.n6
end
end
end Tactic
end
section
open PySem PySem.W PySem.Calls PyProof.Rows PySem.SeqAt
namespace Tactic
noncomputable section
section
variable{cx:bV}{A:Around}{G:Addr→Obj→Prop}{W W':a3}{fm fm':bS}{st st':St}{s:Shared}
inductive vl(w:World)(ae:Heap)(G:Addr→Obj→Prop)(W:a3)(fm:bS)(s:Shared)(st':St)(xs:List X)(us:List Value)(s':Shared):Prop where
 |mk (W':a3) (l:W.le W') (R:Rel w ae G W' fm st' s') (r:cM W' xs us) (o:s'.os=s.os):vl w ae G W fm s st' xs us s'
theorem qV{A:Around}{m:Sem (List Value)}{xs:List X}{Q:List Value→Shared→Prop}(h:wpAny (model a4 w) A m (vl w ae G W fm s st' xs) bL s)(k:∀u s₁ W1,W.le W1→Rel w ae G W1 fm st' s₁→cM W1 xs u→s₁.os=s.os→Q u s₁):wpAny (model a4 w) A m Q bL s:=wpAny_mono h (fun u s₁ q=>match q with|⟨W1,a,b,c,d⟩=>k u s₁ W1 a b c d) fun ag ag x=>x
theorem lb{e:Expr}{rest:List Expr}{env:Env}{aH:ao}(h:aW cx e=I aH):starEach (e::rest) env=(false,eval e env)::starEach rest env:=by
 induction e using Expr.casesOn<;>first|rfl|exact cQ h
theorem qW{pos:Pos}{env:Env}:∀{es:List Expr} {bg:az},dv cx es=I bg→(backTo pos (starEach es env)).any (·.1)=false:=by
 intro aT
 induction aT with
 |nil=>intro _ _;exact rfl
 |cons e r aD=>
  intro _ h;obtain⟨bx,bN,ca,dy,rfl⟩:=ob h;erw[lb ca];show(false||(backTo pos (starEach r env)).any (·.1))=false
  erw[aD dy];rfl
theorem zu{pos:Pos}:∀{es:List Expr},(∀e,e∈es→bj w ae C n cx e)→∀{bg},dv cx es=I bg→∀{A},d1 n A→∀{G W fm st s xs st'},dw cx fm→Rel w ae G W fm st s→dq C bg st=I (xs,st')→wpAny (model a4 w) A (spliced (backTo pos (starEach es fm.env))) (vl w ae G W fm s st' xs) bL s:=by
 intro aT
 induction aT with
 |nil=>intro _ _ ah _ _ _ _ _ _ _ _ _ _ R aN;cases ah;cases aN;exact args_nil ⟨_,.rfl,R,trivial,rfl⟩
 |cons e r aD=>intro h _ ah A ax _ _ _ st _ xs st' hf R aN;obtain⟨bx,bN,ca,dy,rfl⟩:=ob ah;obtain⟨x,s1,bT,aa⟩:=b2 (show aY (aj C bx st) _=I (xs,st')from aN);obtain⟨aS,s2,cV,ab⟩:=b2 aa;cases ab;exact args_cons (dk (h e (.head _) ca ax hf R bT) fun u s₁ W1 aM aZ a7 a0=>qV (aD (fun e he=>h e (.tail _ he)) dy ax hf aZ cV) fun v s₂ cN bt cy b3 cK=>⟨cN,aM.trans bt,cy,⟨a7.mono bt,b3⟩,cK.trans a0⟩) (lb ca)
theorem Fb:∀{bg:az} {st st':St} {vs:List V},ix C bg st=I (vs,st')→dq C bg st=I (vs.map .v,st')
 | .nil,_,_,_,h=>by cases h;rfl
 | .cons e es,st,st',vs,h=>by
  obtain⟨x,s1,ay,aa⟩:=b2 (show aY (aj C e st) _=I (vs,st')from h);obtain⟨v,aJ,ab⟩:=aU aa;obtain⟨ws,s2,au,aq⟩:=b2 ab;cases aq;obtain rfl:=l' aJ;show aY (aj C e st) _=_;erw[ay];have ba:aY (dq C es s1) (fun xs st=>I (X.v v::xs,st))=I (X.v v::ws.map .v,s2):=by erw[Fb au];rfl
  exact ba
theorem cM.toV:∀{vs:List V} {us:List Value},cM W (vs.map .v) us→b5 W vs us
 |[],[],_=>.nil
 |_::_,_::_,h=>.cons h.1 (cM.toV h.2)
 |[],_::_,h=>h.elim
 |_::_,[],h=>h.elim
inductive OQ(w:World)(ae:Heap)(G:Addr→Obj→Prop)(W:a3)(fm:bS)(s:Shared)(st':St)(xs:List V)(us:List Value)(s':Shared):Prop where
 |mk (W':a3) (l:W.le W') (R:Rel w ae G W' fm st' s') (r:b5 W' xs us) (o:s'.os=s.os):OQ w ae G W fm s st' xs us s'
theorem zv{es:List Expr}{pos:Pos}(h:∀e,e∈es→bj w ae C n cx e){bg:az}(ah:dv cx es=I bg){A:Around}(ax:d1 n A){G W fm st s vs st'}(hf:dw cx fm)(R:Rel w ae G W fm st s)(aN:ix C bg st=I (vs,st')){Q:List Value→Shared→Prop}
  (k:∀u s₁ W1,W.le W1→Rel w ae G W1 fm st' s₁→b5 W1 vs u→s₁.os=s.os→Q u s₁):wpAny (model a4 w) A (spliced (backTo pos (starEach es fm.env))) Q bL s:=
 qV (zu h ah ax hf R (Fb aN)) fun u s₁ W1 l dd r o=>k u s₁ W1 l dd r.toV o
theorem hz{k:Nat}(h:fit k=true):k≤sizeLine:=by have:=of_decide_eq_true h;erw[sizeLine_eq];exact cz ‹_› rfl
theorem oe{xs:List V}{r p:X×St}(h:kr xs r=I p):fit xs.length=true∧r=p:=by obtain⟨a,b⟩:=c1 h;exact⟨a,Option.some.inj b⟩
theorem OR{es:List Expr}{k:Nat}{p:Pos}(h:∀e,e∈es→bj w ae C n cx e):bj w ae C n cx (.Tuple es k p):=by intro aH ah A ax G W fm st s v st' hf R aN;obtain⟨bg,iW,rfl⟩:=omap (show(dv cx es).map ao.tup=I aH from ah);obtain⟨vs,s1,ev,aa⟩:=b2 (show aY (ix C bg st) _=I (v,st')from aN);refine bC (fun eH ab=>?_) (oe aa);cases ab;exact wpAny_Tuple (zv h iW ax hf R ev fun us s' W1 aM aZ a7 a0=>⟨by erw[a7.1];exact hz eH,(aZ.zq (k:=s'.toks) a7).step aM a0⟩)
theorem OS{es:List Expr}{p:Pos}(h:∀e,e∈es→bj w ae C n cx e):bj w ae C n cx (.List es p):=by intro aH ah A ax G W fm st s v st' hf R aN;obtain⟨bg,iW,rfl⟩:=omap (show(dv cx es).map ao.lst=I aH from ah);obtain⟨vs,s1,ev,aa⟩:=b2 (show aY (ix C bg st) _=I (v,st')from aN);refine bC (fun eH ab=>?_) (oe aa);cases ab;exact wpAny_List (zv h iW ax hf R ev fun us s' W1 aM aZ a7 a0=>⟨by erw[a7.1];exact hz eH,(aZ.zp (k:=s'.toks) a7).step aM a0⟩)
def e5(w:World)(ae:Heap)(C:Calls)(n:Nat)(cx:bV)(e:Expr)(aH:ao):Prop:=∀A,d1 n A→∀{G W fm st s x st'},dw cx fm→Rel w ae G W fm st s→aj C aH st=I (x,st')→wpAny (model a4 w) A (eval e fm.env) (d9 w ae G W fm s st' x) bL s
theorem bj.qX{e:Expr}{aH:ao}(h:bj w ae C n cx e)(ah:aW cx e=I aH):e5 w ae C n cx e aH:=fun ag ax ag ag ag ag ag ag ag hf R aN=>h ah ax hf R aN
theorem Fc{es:List Expr}{p:Pos}(h:∀e,e∈es→bj w ae C n cx e){bg:az}(ah:dv cx es=I bg):e5 w ae C n cx (.List es p) (.jk bg):=by intro A ax G W fm st s v st' hf R aN;obtain⟨vs,s1,ev,aa⟩:=b2 (show aY (ix C bg st) _=I (v,st')from aN);refine bC (fun eH ab=>?_) (oe aa);cases ab;exact wpAny_List (zv h ah ax hf R ev fun us s' W1 aM aZ a7 a0=>⟨by erw[a7.1];exact hz eH,(aZ.E7 (k:=s'.toks) a7).step aM a0⟩)
theorem zw(R:Rel w ae G W fm st s){x:X}{u:Value}(ct:b8 W x u){xs:List V}(aJ:st.val x=I (.lst xs))(eH:fit xs.length=true){og oh oi:Value}{lo aw sp:Option Int}(pl:IsPart og lo)(pu:IsPart oh aw)(c6:IsPart oi sp)(h0:sp≠I 0)
  {value slice:Expr} {k:Nat} {Q:Value→Shared→Prop} (h:∀vs (jr:Nat),b5 W xs vs→Rel w ae G W fm st {s with heap:=s.heap.push {cls:=.type "slice",data:=.fields #[og,oh,oi]},toks:=k}→Q (.ref (s.heap.push {cls:=.type "slice",data:=.fields #[og,oh,oi]}).objs.size) {s with heap:=(s.heap.push {cls:=.type "slice",data:=.fields #[og,oh,oi]}).push {cls:=.type "list",data:=.seq (slicePick vs.toArray lo aw sp).toList.toArray},toks:=k}):
  wpAny (model a4 w) A (subscriptTail value slice u (.ref s.heap.objs.size)) Q bL {s with heap:=s.heap.push {cls:=.type "slice",data:=.fields #[og,oh,oi]},toks:=k}:=by
 obtain⟨vs,l,rfl,p,r⟩:=n' R ct aJ;have aZ:=R.keep (h':=s.heap.push {cls:=.type "slice",data:=.fields #[og,oh,oi]}) (k:=k) fun b o e=>Heap.get?_push_of_some _ e;have cL:(s.heap.push {cls:=.type "slice",data:=.fields #[og,oh,oi]}).PlainList l vs.toArray:=p.at fun o e=>Heap.get?_push_of_some _ e;refine tail_any (s:={s with heap:=s.heap.push {cls:=.type "slice",data:=.fields #[og,oh,oi]},toks:=k}) cL.isList.typeIs slot_list_getitem.lookup (wpAny_getItem_list_slice cL.isList (Heap.IsSliceOf.new ..) pl pu c6 h0 ?_ ?_)
 ·have:=h vs 0 r aZ;replace this:=Z0▸this;exact this
 ·have:=hz eH;erw[jg,r.1];exact this
theorem b5.reverse{xs:List V}{vs:List Value}(h:b5 W xs vs):b5 W xs.reverse vs.reverse:=by
 induction xs generalizing vs with
 |nil=>erw[h.u3];exact .nil
 |cons x r aG=>obtain⟨v,q,rfl,a,b⟩:=h.so;erw[mF,mF];exact(aG b).append (.cons a .nil)
theorem b5.take{xs:List V}{vs:List Value}(h:b5 W xs vs)(k:Nat):b5 W (xs.take k) (vs.take k):=by
 refine⟨by simp[h.1],fun i x v a b=>?_⟩;rw[CL]at a b
 split at a
 ·rename_i ai;rw[if_pos ai]at b;exact h.2 i x v a b
 ·cases a
theorem b5.drop{xs:List V}{vs:List Value}(h:b5 W xs vs)(k:Nat):b5 W (xs.drop k) (vs.drop k):=by refine⟨by simp[h.1],fun i x v a b=>?_⟩;rw[LB]at a b;exact h.2 _ x v a b
theorem OT(vs:List Value)(k:Nat):(slicePick vs.toArray J (I (k:Int)) J).toList=vs.take k:=by refine(congrArg Array.toList (kms_pick_eq ..)).trans ?_;show(vs.drop 0).take ((if(k:Int)<0 then vs.length-(-(k:Int)).toNat else min k vs.length)-0)=_;erw[if_neg (ez.mpr (nM k))];exact kmk_take_min ..
theorem Fd{cL ck gK:Pos}{k:Nat}{Q:Value→Shared→Prop}{env:Env}{E:Value→Shared→Prop}(h:∀t k,Q (.ref s.heap.objs.size) {s with heap:=s.heap.push {cls:=.type "slice",data:=.fields #[.none,.none,.int (-1) t]},toks:=k}):
  wpAny (model a4 w) A (eval (.Slice J J (I (.UnaryOp .USub (.Constant (.int 1) k cL) ck)) gK) env) Q E s:=by
 refine wpAny_Slice ?_;erw[evalPart_none];refine wpAny_pure (wpAny_pure ?_);erw[evalPart_some];refine wpAny_UnaryOp (wpAny_Constant_int (neg_int ?_));exact h _ _
inductive Fe(C:Calls)(aH:ao)(f:List V→St→X×St)(st:St)(v:X)(st':St):Prop where
 |mk (x:X) (s1:St) (bT:aj C aH st=I (x,s1)) (xs:List V) (aJ:s1.val x=I (.lst xs)) (eH:fit xs.length=true) (e:f xs s1=(v,st')):Fe C aH f st v st'
theorem zx{aH:ao}{f:List V→St→X×St}{v:X}(h:aY (aj C aH st) (fun x st=>(st.val x).bind fun v=>(ko v).bind fun xs=>kr xs (f xs st))=I (v,st')):Fe C aH f st v st':=by refine eA fun cF=>?_;obtain⟨x,s1,bT,aa⟩:=b2 h;obtain⟨a,aJ,ab⟩:=aU aa;obtain⟨xs,ar,aq⟩:=aU ab;refine cF ?_;refine bC (fun eH e=>?_) (oe aq);obtain rfl:=qP ar;exact⟨x,s1,bT,xs,aJ,eH,e⟩
theorem OU{e:Expr}{aH:ao}{p cL ck gK:Pos}{k:Nat}(he:bj w ae C n cx e)(ce:aW cx e=I aH):e5 w ae C n cx (.Subscript e (.Slice J J (I (.UnaryOp .USub (.Constant (.int 1) k cL) ck)) gK) p) (.rev aH):=by intro A ax G W fm st s v st' hf R aN;obtain⟨x,s1,ev,xs,aJ,eH,e⟩:=zx (f:=fun xs st=>(.v (.lst xs.reverse),st)) aN;cases e;refine Subscript_ (dk (he ce ax hf R ev) fun u s₁ W1 aM aZ a7 a0=>Fd fun t k=>zw aZ a7 aJ eH .none .none (.int _ t) (by simp) fun vs ag bO cy=>?_);erw[krv_pick];exact(cy.zp (k:=k) bO.reverse).step aM (by exact a0)
theorem OV{e:Expr}{aH:ao}{p cL ck gK:Pos}{k:Nat}(he:bj w ae C n cx e)(ce:aW cx e=I aH):e5 w ae C n cx (.Subscript e (.Slice J J (I (.UnaryOp .USub (.Constant (.int 1) k cL) ck)) gK) p) (.pd aH):=by intro A ax G W fm st s v st' hf R aN;obtain⟨x,s1,ev,xs,aJ,eH,e⟩:=zx (f:=fun xs st=>st.new (.lst xs.reverse)) aN;cases e;refine Subscript_ (dk (he ce ax hf R ev) fun u s₁ W1 aM aZ a7 a0=>Fd fun t k=>zw aZ a7 aJ eH .none .none (.int _ t) (by simp) fun vs ag bO cy=>?_);erw[krv_pick];exact(cy.E7 (k:=k) bO.reverse).step aM (by exact a0)
theorem OW{e:Expr}{aH:ao}{p cL gK:Pos}{k m:Nat}(he:bj w ae C n cx e)(ce:aW cx e=I aH):e5 w ae C n cx (.Subscript e (.Slice J (I (.Constant (.int (.ofNat m)) k cL)) J gK) p) (.uJ aH m):=by intro A ax G W fm st s v st' hf R aN;obtain⟨x,s1,ev,xs,aJ,eH,e⟩:=zx (f:=fun xs st=>(.v (.lst (xs.take m)),st)) aN;cases e;refine Subscript_ (dk (he ce ax hf R ev) fun u s₁ W1 aM aZ a7 a0=>?_);refine wpAny_Slice ?_;erw[evalPart_none];refine wpAny_pure ?_;erw[evalPart_some];refine wpAny_Constant_int ?_;refine wpAny_pure (zw aZ a7 aJ eH .none (.int _ _) .none (by simp) fun vs ag bO cy=>?_);erw[show(Int.ofNat m)=(m:Int)from rfl,OT];exact(cy.zp (k:=s₁.toks+1) (bO.take m)).step aM (by exact a0)
theorem OX{e:Expr}{aH:ao}{p cL gK:Pos}{k:Nat}(he:bj w ae C n cx e)(ce:aW cx e=I aH):e5 w ae C n cx (.Subscript e (.Slice (I (.Constant (.int 1) k cL)) J J gK) p) (.uK aH):=by
 intro A ax G W fm st s v st' hf R aN;obtain⟨x,s1,ev,aa⟩:=b2 (show aY (aj C aH st) _=I (v,st')from aN);obtain⟨xs,aC,ab⟩:=aU aa;refine bC (fun iY aq=>?_) (ht ab);refine bC (fun eH ba=>?_) (oe aq);clear aN aa ab aq;cases ba;obtain rfl:=Eu aC;refine Subscript_ (dk (he ce ax hf R ev) fun u s₁ W1 aM aZ a7 a0=>?_);obtain⟨vs,l,dH,rfl,ay,bO⟩:=n8 aZ a7;refine wpAny_Slice ?_;erw[evalPart_some];refine wpAny_Constant_int ?_;erw[evalPart_none];refine wpAny_pure (wpAny_pure ?_);have cy:=aZ.keep (h':=s₁.heap.push {cls:=.type "slice",data:=.fields #[.int 1 s₁.toks,.none,.none]}) (k:=s₁.toks+1) fun b o e=>Heap.get?_push_of_some _ e;have a5:IsTup (s₁.heap.push {cls:=.type "slice",data:=.fields #[.int 1 s₁.toks,.none,.none]}) l vs.toArray:=⟨_,Heap.get?_push_of_some _ ay,rfl,_,rfl⟩
 have ar:=bO.1;have hp:1≤vs.length:=by
  erw[ar]
  induction xs using bY with
  |nil=>exact absurd rfl iY
  |cons a r=>exact jh _
 refine tail_any (s:={s₁ with heap:=s₁.heap.push {cls:=.type "slice",data:=.fields #[.int 1 s₁.toks,.none,.none]},toks:=s₁.toks+1}) a5.typeIs slot_tuple_getitem.lookup
  (getItem_tuple_from (a:=1) (u:=s₁.toks) a5 (Heap.IsSliceOf.new ..) (bE _) (by simpa using hp) ?_ ?_)
 ·exact(cy.zq (k:=s₁.toks+1) (bO.drop 1)).step aM (by exact a0)
 ·have:=of_decide_eq_true eH;erw[jg,ar,sizeLine_eq];exact cz ‹_› rfl
end
end
end Tactic
end
section
open PySem PySem.W PySem.Calls PyProof.Rows PySem.SeqAt
namespace Tactic
noncomputable section
section
variable{cx:bV}{A:Around}{G:Addr→Obj→Prop}{W W':a3}{fm fm':bS}{st st':St}{s:Shared}{xs:List X}{us:List Value}{i j:Int}{a:V}{aS:List V}
noncomputable def bv:gB→Value
 | .len=>.builtin "len"| .abs=>.builtin "abs"| .min=>.builtin "min"| .max=>.builtin "max"| .sum=>.builtin "sum"| .tuple=>.type "tuple"| .list=>.type "list"| .sorted=>.builtin "sorted"
 | .divmod=>.builtin "divmod"| .int=>.type "int"| .isInt=>.builtin "isinstance"| .isBool _=>.builtin "isinstance"
noncomputable def vm(P:Params)(x:String×Value):Bool:=(nsIn (H.c7 P) mainGlobals (Str.ofString x.1)).any Lz&&U (bootBuiltins (Str.ofString x.1)=I x.2)&&U (Str.ofString x.1≠"__name__")
theorem OY(P:Params):(n2.all fun x=>vm P (x.1,bv x.2))=true:=by kernel_rfl
theorem OZ(P:Params):([("isinstance",.builtin "isinstance"),("int",.type "int"),("bool",.type "bool")].all (vm P))=true:=by kernel_rfl
theorem sO(aQ:cH w ae cb cm)(R:Rel w ae G W fm st s)(hf:dw cx fm){x:Str}(aC:cx.gl x=true){v:Value}(a5:∃y,x=Str.ofString y∧vm w.params (y,v)=true){pos:Pos}{Q:Value→Shared→Prop}(h:Q v s):
  wpAny (model a4 w) A (eval (.Name x pos) fm.env) Q bL s:=by
 obtain⟨y,rfl,a5⟩:=a5;refine bC (fun a5 aq=>?_) (cI.mp a5);refine bC (fun aa ab=>?_) (cI.mp a5);exact NN aQ R hf aC (mg_none_of aQ.K aQ.g (ER aa)) (of_decide_eq_true aq) (of_decide_eq_true ab) h
theorem Ff(aQ:cH w ae cb cm)(R:Rel w ae G W fm st s)(hf:dw cx fm){x:Str}(aC:cx.gl x=true){b:gB}(a5:k3 x n2=I b){pos:Pos}{Q:Value→Shared→Prop}(h:Q (bv b) s):
  wpAny (model a4 w) A (eval (.Name x pos) fm.env) Q bL s:=by
 obtain⟨y,aV,rfl⟩:=y5 a5;exact sO aQ R hf aC ⟨y,rfl,h1.mp (OY w.params) _ aV⟩ h
theorem vn(ax:A.handled=J){l:Addr}{vs:List Value}{ns:List Int}{Q:Value→Shared→Prop}(ar:s.heap.IsList l vs.toArray)(aw:IntsAre vs ns)
  (h:∀h' tk t',(∀b o,s.heap.get? b=I o→h'.get? b=I o)→Q (.int ns.sum t') {s with heap:=h',toks:=tk}):wpAny (model a4 w) A (call (.builtin "sum") [.ref l]) Q bL s:=by
 refine f7 (aw.allInts.items) fun xs e=>?_;have aA:=aw.numsOf;have au:vs=(intItems xs).toList:=by erw[←e]
 rw[au,nums_intItems]at aA;rw[e]at ar;refine sum_intListG ax ar fun h' tk t' ai=>?_;erw[preSum_eq,ux (by simp),aA];exact h h' tk t' ai
theorem O0{xs:List V}:∀{i:Int},ph xs=I i→∃ns,h2 xs=I ns∧ns.sum=i:=by
 induction xs with
 |nil=>intro i h;cases h;exact⟨[],rfl,rfl⟩
 |cons x r aG=>
  intro i h
  induction x using V.casesOn with
  |int a=>obtain⟨j,aa,rfl⟩:=omap (show(ph r).map (a+ ·)=I i from h);obtain⟨ns,e,rfl⟩:=aG aa;exact⟨a::ns,congrArg (LC (a:: ·)) e,xN⟩
  |_=>cases h
theorem O1(a:Int):(if a<0 then-a else a)=(a.natAbs:Int):=by
 refine bZ (fun h:a<0=>?_) (fun h=>?_)
 ·erw[if_pos h];exact(Lu (jN h)).symm
 ·erw[if_neg h];exact(xI (ez.mp h)).symm
theorem cM.O2{us:List Value}(h:cM W [] us):us=[]:=by
 rcases us with _|⟨u,r⟩
 ·rfl
 ·exact h.elim
theorem cM.one{x:X}{us:List Value}(h:cM W [x] us):∃u,us=[u]∧b8 W x u:=by
 rcases us with _|⟨u,r⟩
 ·exact h.elim
 ·cases h.2.O2;exact⟨u,rfl,h.1⟩
theorem cM.two{x y:X}{us:List Value}(h:cM W [x,y] us):∃u v,us=[u,v]∧b8 W x u∧b8 W y v:=by
 rcases us with _|⟨u,r⟩
 ·exact h.elim
 ·obtain⟨v,rfl,ab⟩:=cM.one h.2;exact⟨u,v,rfl,h.1,ab⟩
theorem zy{aS:List V}{vs:List Value}(r:b5 W aS vs)(ar:aS.length≤100000){k:Nat}(ai:100000≤k):vs.toArray.size≤k:=bR (eQ r.1) (bR ar ai)
theorem Fg{aS:List V}{vs:List Value}(r:b5 W aS vs)(ar:aS.length≤100000):(vs.toArray.size:Int)<2^63:=mC (nL.mpr (zy r ar (bE _))) (by decide)
theorem zz{x:X}{r:List X}{l:List V}(h:vals st (x::r)=I l):∃v q,st.val x=I v∧vals st r=I q∧l=v::q:=by refine eA fun cF=>?_;obtain⟨v,aJ,h⟩:=aU (show(st.val x).bind _=I l from h);obtain⟨q,aE,e⟩:=omap h;refine cF ?_;exact⟨v,q,aJ,aE,e.symm⟩
theorem O3{xs:List X}(h:vals st xs=I []):xs=[]:=by
 induction xs using bY with
 |nil=>rfl
 |cons x r=>obtain⟨v,q,_,_,e⟩:=zz h;cases e
theorem qY{xs:List X}{a:V}(h:vals st xs=I [a]):∃x,xs=[x]∧st.val x=I a:=by
 induction xs using bY with
 |nil=>cases h
 |cons x r=>obtain⟨v,q,aJ,aE,e⟩:=zz h;cases e;erw[O3 aE];exact⟨x,rfl,aJ⟩
theorem O4{xs:List X}{a b:V}(h:vals st xs=I [a,b]):∃x y,xs=[x,y]∧st.val x=I a∧st.val y=I b:=by
 induction xs using bY with
 |nil=>cases h
 |cons x r=>obtain⟨v,q,aJ,aE,e⟩:=zz h;cases e;obtain⟨y,rfl,aV⟩:=qY aE;exact⟨x,y,rfl,aJ,aV⟩
theorem oj{vs:List V}{a:V}(h:v1 vs=I a):vs=[a]:=by
 rcases vs with _|⟨x,_|⟨y,r⟩⟩
 ·cases h
 ·cases h;rfl
 ·cases h
theorem O5{vs:List V}{p:V×V}(h:v2 vs=I p):vs=[p.1,p.2]:=by
 rcases vs with _|⟨x,_|⟨y,_|⟨z,r⟩⟩⟩
 ·cases h
 ·cases h
 ·cases Option.some.inj h;rfl
 ·cases h
theorem zA{vs:List V}{p:Int×Int}(h:dt vs=I p):vs=[.int p.1,.int p.2]:=by obtain⟨q,aa,ab⟩:=aU h;obtain⟨a,aq,ba⟩:=aU ab;obtain⟨b,b0,rfl⟩:=omap ba;erw[O5 aa,kA aq,kA b0]
theorem O6(a7:cM W xs us)(aJ:vals st xs=I [.int i]):∃t,us=[.int i t]:=by obtain⟨x,rfl,e⟩:=qY aJ;obtain⟨u,rfl,eV⟩:=a7.one;obtain⟨t,rfl⟩:=l8 e rfl eV;exact⟨t,rfl⟩
theorem zB(a7:cM W xs us)(aJ:vals st xs=I [.int i,.int j]):∃t t',us=[.int i t,.int j t']:=by refine eA fun cF=>?_;obtain⟨x,y,rfl,e,e4⟩:=O4 aJ;obtain⟨u,v,rfl,eV,bO⟩:=a7.two;obtain⟨t,rfl⟩:=l8 e rfl eV;obtain⟨t',rfl⟩:=l8 e4 rfl bO;refine cF ?_;exact⟨t,t',rfl⟩
theorem zC{α:Type}{xs:List V}{a b:α}(h:uQ xs a=I b):xs.length≤100000∧b=a:=by refine bC (fun hf h=>?_) (c1 h);exact⟨dO hf,(Option.some.inj h).symm⟩
theorem zD(R:Rel w ae G W fm st s)(a7:cM W xs us)(aJ:vals st xs=I [a])(aL:kp a=I aS):∃l T vs k,us=[.ref l]∧s.heap.get? l=I {cls:=.type T,data:=.seq (mG vs) k}∧b5 W aS vs∧((T="list"∧a= .lst aS)∨(T="tuple"∧a= .tup aS)):=by
 obtain⟨x,rfl,e⟩:=qY aJ;obtain⟨u,rfl,eV⟩:=a7.one
 rcases y8 aL with rfl|rfl
 ·obtain⟨vs,l,rfl,⟨k,p⟩,bO⟩:=n' R eV e;exact⟨l,_,vs,k,rfl,p,bO,.inl ⟨rfl,rfl⟩⟩
 ·cases kz e (fun ag e=>by cases e);obtain⟨vs,l,k,rfl,ay,bO⟩:=n8 R eV;exact⟨l,_,vs,k,rfl,ay,bO,.inr ⟨rfl,rfl⟩⟩
theorem Fh(R:Rel w ae G W fm st s)(a7:cM W xs us)(aJ:vals st xs=I [a])(aL:ko a=I aS):∃l vs,us=[.ref l]∧s.heap.PlainList l (mG vs)∧b5 W aS vs:=by obtain rfl:=qP aL;obtain⟨x,rfl,e⟩:=qY aJ;obtain⟨u,rfl,eV⟩:=a7.one;obtain⟨vs,l,rfl,p,bO⟩:=n' R eV e;exact⟨l,vs,rfl,p,bO⟩
noncomputable def Fi:gB→Bool
 | .isInt=>false
 | .isBool _=>false
 |_=>true
theorem O7(ax:d1 n A)(R:Rel w ae G W fm st s){xs:List X}{us:List Value}(r:cM W xs us){b:gB}{vs:List V}{z:V}(aJ:vals st xs=I vs)(bw:se b vs=I z)(aa:Fi b=true):
  wpAny (model a4 w) A (call (bv b) us) (d9 w ae G W fm s st (.v z)) bL s:=by
 induction b using gB.casesOn with
 |len=>
  obtain⟨a,aB,bw⟩:=aU bw;obtain⟨aS,aL,bw⟩:=aU bw;obtain⟨ar,rfl⟩:=zC bw;rw[oj aB]at aJ;obtain⟨l,T,qZ,k,rfl,e,bO,d'⟩:=zD R r aJ aL
  rcases d' with⟨rfl,_⟩|⟨rfl,_⟩
  ·refine Calls.call_len_list (Heap.PlainList.isList ⟨k,e⟩) (Fg bO ar) ?_;erw[jg,bO.1];exact .self R.toks (.int _ _) rfl
  ·refine len_tuple (items:=qZ.toArray) ⟨_,e,rfl,_,rfl⟩ (Fg bO ar) ?_;erw[jg,bO.1];exact .self R.toks (.int _ _) rfl
 |abs=>obtain⟨a,aB,bw⟩:=aU bw;obtain⟨i,aw,rfl⟩:=omap bw;rw[oj aB,kA aw]at aJ;obtain⟨t,rfl⟩:=O6 r aJ;refine call_abs_int fun u tk=>?_;erw[O1];exact .self R.toks (.int _ _) rfl
 |min=>
  obtain⟨p,hp,rfl⟩:=omap bw;rw[zA hp]at aJ;obtain⟨t,t',rfl⟩:=zB r aJ;refine min_two_ints ax.h fun h' tk ai=>?_
  split
  ·exact .self (R.keep ai) (.int _ _) rfl
  ·exact .self (R.keep ai) (.int _ _) rfl
 |max=>
  obtain⟨p,hp,rfl⟩:=omap bw;rw[zA hp]at aJ;obtain⟨t,t',rfl⟩:=zB r aJ;refine max_two_ints ax.h fun h' tk ai=>?_
  split
  ·exact .self (R.keep ai) (.int _ _) rfl
  ·exact .self (R.keep ai) (.int _ _) rfl
 |sum=>obtain⟨a,aB,bw⟩:=aU bw;obtain⟨aS,aL,bw⟩:=aU bw;obtain⟨i,aw,rfl⟩:=omap bw;rw[oj aB]at aJ;obtain⟨l,qZ,rfl,p,bO⟩:=Fh R r aJ aL;obtain⟨ns,m3,rfl⟩:=O0 aw;exact vn ax.h p.isList (ints_of m3 bO) fun h' tk t' ai=>.self (R.keep ai) (.int _ _) rfl
 |tuple=>obtain⟨a,aB,bw⟩:=aU bw;obtain⟨aS,aL,bw⟩:=aU bw;obtain⟨ar,rfl⟩:=zC bw;rw[oj aB]at aJ;obtain⟨l,qZ,rfl,p,bO⟩:=Fh R r aJ aL;refine call_tuple_list p.isList (fun h' ai=>?_) (zy bO ar (by decide));exact((R.keep (k:=s.toks) ai).zq (k:=s.toks) bO).step .rfl (by rfl)
 |list=>obtain⟨a,aB,bw⟩:=aU bw;obtain⟨aS,aL,bw⟩:=aU bw;obtain⟨ar,rfl⟩:=zC bw;rw[oj aB]at aJ;obtain⟨l,T,qZ,k,rfl,e,bO,d'⟩:=zD R r aJ aL;refine call_list_seq l (d'.elim (fun h=>.inl h.1) fun h=>.inr h.1) e rfl rfl (fun h' dr ai e=>?_) (zy bO ar (by decide));exact⟨_,a3.gE,(R.keep (k:=s.toks) ai).mU (R.h5 (bE _)) e,.lst (.inr ⟨rfl,rfl⟩) ⟨dr,rfl⟩ bO.1 (bO.mono a3.gE).2,rfl⟩
 |sorted=>cases bw
 |divmod=>
  obtain⟨p,hp,bw⟩:=aU bw
  ·obtain⟨bf,bw⟩:=ht bw;cases bw;rw[zA hp]at aJ;obtain⟨t,t',rfl⟩:=zB r aJ;obtain⟨m,hm,_⟩:=R.ns;refine divmod_N (R.fr hm) R.news (fun e=>bf (.inl e)) (fun h' pC hy=>?_) (.inl (noPylong (Et fun e=>bf (.inr e))));exact⟨_,a3.gE,(R.yX hm (k:=s.toks+1+1) pC hy (bE _)),.tup (vs:=[_,_]) (.inr ⟨rfl,rfl⟩) ⟨0,rfl⟩ rfl ((b5.cons (.int _ _) (.cons (.int _ _) .nil)):b5 _ [_,_] [_,_]).2,rfl⟩
 |int=>obtain⟨a,aB,bw⟩:=aU bw;obtain⟨b,i2,rfl⟩:=omap bw;rw[oj aB,y7 i2]at aJ;obtain⟨x,rfl,e⟩:=qY aJ;obtain⟨u,rfl,eV⟩:=r.one;cases kz e (fun ag e=>by cases e);erw[pA eV];exact call_int_bool (.self R.toks (.int _ _) rfl)
 |isInt=>cases aa
 |isBool=>cases aa
end
end
end Tactic
end
section
open PySem PySem.W PySem.Calls PyProof.Rows PySem.SeqAt
namespace Tactic
noncomputable section
theorem O8{vs:List Value}:∀{a8:List (Int×Value)},vs.length=a8.length→(∀(j:Nat) (v:Value),vs[j]? =I v→∃k x,a8[j]? =I (k,x)∧(nQ a4 w).is k v=true)→IntsAre vs (a8.map (·.1)):=by
 induction vs with
 |nil=>intro a8 ar _;cases o5 ar.symm;exact .nil
 |cons v r aG=>
  intro a8 ar h
  rcases a8 with _|⟨y,q⟩
  ·cases ar
  ·obtain⟨jr,pF,e,ai⟩:=h 0 v rfl;cases Option.some.inj e;obtain⟨t,rfl⟩:=Value.isInt_shape ai;exact .cons _ _ (aG (Nat.succ.inj ar) fun j v e=>h (j+1) v e)
theorem O9{W:a3}{vs:List Value}{ns:List Int}(h:IntsAre vs ns):b5 W (ns.map .int) vs:=by
 induction h with
 |nil=>exact .nil
 |cons n t r aG=>exact .cons (.int n t) aG
section
variable{cx:bV}{A:Around}{G:Addr→Obj→Prop}{W W':a3}{fm fm':bS}{st st':St}{s:Shared}
theorem zE(ax:d1 n A)(R:Rel w ae G W fm st s){i:Nat}{kvs:List (Int×V)}{u:Value}(r:b8 W (.cell i) u)(ah:st.heap[i]? =I (.cw kvs))(vo:kvs.length<64):
  wpAny (model a4 w) A (call (.builtin "sorted") [u]) (d9 w ae G W fm s st (.v (.lst ((sortI (kvs.map (·.1))).map .int)))) bL s:=by
 obtain⟨q,aE,rfl⟩:=r;obtain⟨⟨e,ns⟩,a8,d,js,mc⟩:=R.cells _ _ _ ah aE;erw[e];obtain⟨m,hm,_⟩:=R.ns;obtain⟨ep,md⟩:=d.dictAt;have ar:a8.length=kvs.length:=(bF ..).symm.trans ((congrArg xM js).trans (bF ..));refine kdu_sorted (kdl_dict (knd:=nQ a4 w) (kvs:=a8) (ep:=ep) ns) ax.h (R.fr hm) R.news md (by erw[ar,sizeLine_eq];exact bR (da vo) (by decide)) fun D h' tk vs pC hy aM hlen dM=>?_;have aZ:=R.Eg (k:=tk) hm pC hy fun p hp=>.tail _ hp;have off:Off G W fm st D:=R.D' (by
  rcases aK:s.heap.get? D with _|o
  ·rfl
  ·exact absurd (aM _ (yW.mpr ⟨(hy _ (.head _)).2.1,(hy _ (.head _)).2.2,aK⟩)) (qu _))
 have zF:h'.get? D=I (seqObj "list" vs.toArray 0):=(hy _ (.head _)).1;refine wpAny_call_entry slot_list_sort ⟨_,zF,rfl⟩ entry_list_sort (list_sort_tree (s:={s with heap:=h',toks:=tk}) zF (O8 hlen dM) (hlen.trans ar▸vo) fun out O' a1 a2 pG=>⟨_,rfl,?_⟩) (args_list_sort _);obtain⟨ay,Fj⟩:=sortedHeap_at (out:=out) zF;have cy:Rel w ae G W fm st {s with heap:=sortedHeap h' D vs out,toks:=tk}:=aZ.u5 (k:=tk) fun b o bf ai=>(sortedHeap_old (off.ne ai) (Heap.lt_size bf)).trans bf;have ha:O'=sortI (kvs.map (·.1)):=by erw[←js];exact lks_uniq (a2.trans (sortI_perm _).symm) pG (DR _)
 have bO:b5 W ((sortI (kvs.map (·.1))).map .int) out.toList:=by erw[←ha];exact O9 a1
 exact⟨_,a3.gE,(cy.mU off Fj),.lst (vs:=out.toList) (.inr ⟨rfl,rfl⟩) ⟨ay,by erw[Z0]⟩ bO.1 (bO.mono a3.gE).2,rfl⟩
theorem zG{es:List Expr}{pos:Pos}(h:∀e,e∈es→bj w ae C n cx e){bg:az}(ah:dv cx es=I bg){A:Around}(ax:d1 n A){G W fm st s xs st'}(hf:dw cx fm)(R:Rel w ae G W fm st s)(aN:dq C bg st=I (xs,st')){f:Value}{Q:Value→Shared→Prop}
  (bf:(∃i,f= .builtin i)∨∃i,f= .type i) (aE:∀us W' s',W.le W'→Rel w ae G W' fm st' s'→s'.os=s.os→cM W' xs us→wpAny (model a4 w) A (call f us) Q bL s'):
  wpAny (model a4 w) A (callWith pos f [] (backTo pos (starEach es fm.env)) []) Q bL s:=by
 have Fl:wpAny (model a4 w) A (evalArgs f true (backTo pos (starEach es fm.env)) []) (fun a s₁=>wpAny (model a4 w) A (call f ([]++a.pos) a.kw) Q bL s₁) bL s:=by
  induction es using bY with
  |nil=>cases ah;cases aN;exact evalArgs_nil3 (aE [] W s .rfl R rfl trivial)
  |cons e r=>obtain⟨bx,bN,ca,_,_⟩:=ob ah;have:=qV (zu (pos:=pos) h ah ax hf R aN) fun us s' W1 aM aZ a7 a0=>aE us W1 s' aM aZ a0 a7;rw[lb ca]at this⊢;exact evalArgs_plain this
 rcases bf with⟨i,rfl⟩|⟨i,rfl⟩
 ·exact callWith_builtin (qW ah) Fl
 ·exact PyProof.Rows.callWith_type (qW ah) Fl
theorem Fm(b:gB):(∃i,bv b= .builtin i)∨∃i,bv b= .type i:=by cases b<;>first|exact .inl ⟨_,rfl⟩|exact .inr ⟨_,rfl⟩
theorem bi_not:(n2.all fun x=>Fi x.2)=true:=rfl
theorem Pa{b:gB}{xs:List X}{r:X×St}(h:hO b st xs=I r):b= .sorted∨((vals st xs).bind fun vs=>(se b vs).map fun r=>(X.v r,st))=I r:=by cases b<;>first|exact .inl rfl|exact .inr h
theorem Pb(aQ:cH w ae cb cm){f:Str}{bq p:Pos}{es:List Expr}{b:gB}(h:∀e,e∈es→bj w ae C n cx e)(aC:cx.gl f=true)(bf:k3 f n2=I b){bg:az}(ah:dv cx es=I bg):e5 w ae C n cx (.Call (.Name f bq) es [] p) (.bi b bg):=by
 intro A ax G W fm st s v st' hf R aN;obtain⟨xs,s1,ex,aa⟩:=b2 (show aY (dq C bg st) _=I (v,st')from aN);refine Call_ (Ff aQ R hf aC bf (zG h ah ax hf R ex (Fm b) fun us W1 s' aM aZ a0 a7=>?_));clear aN ex;refine eF (Pa aa) (fun aL=>?_) (fun ab=>?_)
 ·subst aL;obtain⟨i,aw,ab⟩:=aU (show((xs.head?).bind jT).bind _=I (v,st')from aa);obtain⟨kvs,ai,aq⟩:=aU ab;obtain⟨⟨ar,vo⟩,ba⟩:=c1 aq;clear aa ab aq
  rcases xs with _|⟨x,_|⟨y,r⟩⟩
  ·cases ar
  ·obtain rfl:=mY (show jT x=I i from aw);cases ba;obtain⟨u,rfl,eV⟩:=a7.one;exact sel (zE ax aZ eV (Eh ai) vo) aM a0
  ·cases ar
 ·obtain⟨y,aV,_⟩:=y5 bf;obtain⟨vs,m4,ab⟩:=aU ab;obtain⟨r,av,aq⟩:=omap ab;cases aq;exact sel (O7 ax aZ a7 m4 av (h1.mp bi_not _ aV)) aM a0
theorem Pc{vs:List V}{z:V}(h:se .isInt vs=I z):∃i,vs=[.int i]∧z= .bool true:=by obtain⟨a,aa,ab⟩:=aU (show(v1 vs).bind _=I z from h);obtain⟨i,aq,rfl⟩:=omap ab;erw[oj aa,kA aq];exact⟨i,rfl,rfl⟩
theorem Pd{vs:List V}{z:V}(h:se .isBool vs=I z):∃i,vs=[.int i]∧z= .bool false:=by obtain⟨a,aa,ab⟩:=aU (show(v1 vs).bind _=I z from h);obtain⟨i,aq,rfl⟩:=omap ab;erw[oj aa,kA aq];exact⟨i,rfl,rfl⟩
theorem Pe(aQ:cH w ae cb cm){f t:Str}{bq c' p:Pos}{e:Expr}{b:gB}(h:bj w ae C n cx e)(aC:cx.gl f=true)(me:c9 f "isinstance"=true)(Fn:cx.gl t=true)(bf:(c9 t "int"=true∧b= .isInt)∨(c9 t "bool"=true∧b= .isBool)){aH:ao}(ah:aW cx e=I aH):
  e5 w ae C n cx (.Call (.Name f bq) [e,.Name t c'] [] p) (.bi b (.cons aH .nil)):=by
 intro A ax G W fm st s v st' hf R aN;have o9:=fun{x}=>h1.mp (OZ w.params) x;obtain⟨xs,s1,ex,aa⟩:=b2 (show aY (dq C (.cons aH .nil) st) _=I (v,st')from aN);obtain⟨x,s2,ee,ab⟩:=b2 (show aY (aj C aH st) _=I (xs,s1)from ex);cases ab;refine Call_ (sO aQ R hf aC (v:=.builtin "isinstance") ⟨"isinstance",beq_iff_eq.mp me,o9 (.head _)⟩ ?_);refine callWith_builtin1 ?_ (lb ah) rfl;refine args_cons (dk (h ah ax hf R ee) fun u s₁ W1 aM aZ a7 a0=>args_cons ?_ rfl) (lb ah);have one:∀{i:Int},vals s2 [x]=I [.int i]→x= .v (.int i):=fun m4=>by obtain⟨pF,e,au⟩:=qY m4;cases e;exact kz au (fun ag e=>by cases e)
 rcases bf with⟨a5,rfl⟩|⟨a5,rfl⟩
 ·obtain⟨vs,m4,aq⟩:=aU (show(vals s2 [x]).bind _=I (v,st')from aa);obtain⟨z,bw,ba⟩:=omap aq;obtain⟨i,rfl,rfl⟩:=Pc bw;cases ba;obtain rfl:=one m4;obtain⟨t,rfl⟩:=hP a7;exact sO aQ aZ hf Fn (v:=.type "int") ⟨"int",beq_iff_eq.mp a5,o9 (.tail _ (.head _))⟩ (args_nil (IsiPair.int_int (d9.step aM a0 (.self aZ (.bool _) rfl))))
 ·obtain⟨vs,m4,aq⟩:=aU (show(vals s2 [x]).bind _=I (v,st')from aa);obtain⟨z,bw,ba⟩:=omap aq;obtain⟨i,rfl,rfl⟩:=Pd bw;cases ba;obtain rfl:=one m4;obtain⟨t,rfl⟩:=hP a7;exact sO aQ aZ hf Fn (v:=.type "bool") ⟨"bool",beq_iff_eq.mp a5,o9 (.tail _ (.tail _ (.head _)))⟩ (args_nil (IsiPair.int_bool (d9.step aM a0 (.self aZ.toks (.bool _) rfl))))
end
end
end Tactic
end
section
open PySem PySem.W PySem.Calls PyProof.Rows PySem.SeqAt
namespace Tactic
noncomputable section
section
variable{cx:bV}{A:Around}{G:Addr→Obj→Prop}{W W':a3}{fm fm':bS}{st st':St}{s:Shared}
theorem Fo{cx:bV}{o:Expr}{po:ao}(h:aW cx o=I po)(attr:Str)(env:Env)(whole:Sem Value):attributeBase o attr env whole=whole:=by
 induction o using Expr.casesOn with
 |Call f as a8 p=>
  induction f using Expr.casesOn with
  |Name id q=>
   induction as using bY with
   |cons=>rfl
   |nil=>
    induction a8 using bY with
    |cons=>rfl
    |nil=>
     have:(id !=("super":Str))=true:=by
      erw[bne_iff_ne];rintro rfl;have ay:k3 (Str.ofString "super") n2=J:=by kernel_rfl
      have au:qH.findIdx? (c9 (Str.ofString "super"))=J:=by kernel_rfl
      have bo:qI.findIdx? (c9 (Str.ofString "super"))=J:=by kernel_rfl
      have cg:c9 (Str.ofString "super") "isinstance"=false:=by kernel_rfl
      have h:=h;refine bC (fun ag h=>?_) (ht h);rw[if_neg (by erw[cg];decide)]at h;obtain⟨bg,_,h⟩:=aU h;unfold sk at h;replace h:=bo▸(au▸(ay▸h));cases h
     exact if_pos (by erw[this];rfl)
  |_=>rfl
 |_=>rfl
theorem Pf{pos:Pos}{env:Env}{es:List Expr}{bg:az}(h:dv cx es=I bg):(backTo pos (starEach es env)).all (fun x=> !x.1)=true:=by
 have:=qW (pos:=pos) (env:=env) h;rw[List.any_eq_false]at this;rw[h1];intro x aC
 simpa using this x aC
theorem sP{E:Value→Shared→Prop}{env:Env}{o:Expr}{name:Str}{apos pos:Pos}{args:List Expr}{po:ao}{bg:az}{Q:Value→Shared→Prop}(aO:aW cx o=I po)(fu:dv cx args=I bg)(ar:args.length<30)(jt:(apos.endLine==pos.line)=true)
  (h:wpAny (model a4 w) A (eval o env) (fun ju s₁=>wpAny (model a4 w) A (getMethod ju name (do return(←importBound o env).getD true)) (fun zH s₂=>wpAny (model a4 w) A (callWith pos zH.1 zH.2 (backTo pos (starEach args env)) []) Q E s₂) E s₁) E s):
  wpAny (model a4 w) A (eval (.Call (.Attribute o name apos) args [] pos) env) Q E s:=by
 erw[arm_eval_Call,Fo aO];refine wpAny_bind (wpAny_mono h (fun ju s₁ h₁=>?_) fun ag ag e=>e);refine wpAny_bind (wpAny_standAt ?_);have Pg:methodCallForm (args.length+([]:List Keyword).length) (backTo pos (starEach args env)) (backToKw pos (keywordEach [] env))=true:=by unfold methodCallForm;erw[Pf fu];exact decide_eq_true (p:=args.length+0+0<30) ar
 have Ph:methodCallPos true o env apos pos=pure pos:=by unfold methodCallPos;simp[jt]
 unfold methodCall;erw[Pg];refine wpAny_bind (wpAny_holding (wpAny_mono ?_ (fun ag ag x=>x) fun ag ag x=>x));refine wpAny_mono h₁ (fun zH s₂ h₂=>?_) fun ag ag x=>x;exact wpAny_bind (wpAny_of_eq Ph h₂)
inductive Fp(w:World)(ae:Heap)(G:Addr→Obj→Prop)(W:a3)(fm:bS)(s:Shared)(st':St)(v:V)(u:Value):Prop where
 |mk (W':a3) (l:W.le W') (R:Rel w ae G W' fm st' s) (r:dc W' v u):Fp w ae G W fm s st' v u
theorem Pj(R:Rel w ae G W fm st s){x:X}{u:Value}(r:b8 W x u){v:V}(h:st.freeze x=I (v,st')):Fp w ae G W fm s st' v u:=by
 induction x using X.casesOn with
 |v a=>cases h;exact⟨W,.rfl,R,r⟩
 |cell i=>obtain⟨xs,ah,aa⟩:=aU (show(st.lst i).bind _=I (v,st')from h);refine bC (fun bf ab=>?_) (c1 aa);cases ab;obtain⟨q,aE,rfl⟩:=r;obtain⟨o,l,dd,bO⟩:=R.NC (n9 ah) aE;exact⟨_,l,dd,bO⟩
inductive Fq(W:a3)(h:Heap)(i:Nat)(xs:List V)(u:Value):Prop where
 |mk (q:Addr×Addr) (aE:W.p[i]? =I q) (e:u= .ref q.2) (au:q.1=q.2) (vs:List Value) (p:h.PlainList q.2 vs.toArray) (r:b5 W xs vs):Fq W h i xs u
theorem Fs(R:Rel w ae G W fm st s){i:Nat}{u:Value}(r:b8 W (.cell i) u){xs:List V}(h:st.lst i=I xs):Fq W s.heap i xs u:=by refine eA fun cF=>?_;obtain⟨q,aE,rfl⟩:=r;obtain⟨e,vs,p,bO⟩:=R.cells _ _ _ (n9 h) aE;refine cF ?_;exact⟨q,aE,by erw[e],e,vs,p,bO⟩
inductive Ft(w:World)(W:a3)(h:Heap)(i:Nat)(kvs:List (Int×V))(u:Value):Prop where
 |mk (q:Addr×Addr) (aE:W.p[i]? =I q) (e:u= .ref q.2) (ns:(q.2==sysModules)=false) (a8:List (Int×Value)) (d:h.DictOf (intKind a4 w) q.2 a8) (iB:ew id (dc W) kvs a8):Ft w W h i kvs u
theorem vp(R:Rel w ae G W fm st s){i:Nat}{u:Value}(r:b8 W (.cell i) u){kvs:List (Int×V)}(h:st.jl i=I kvs):Ft w W s.heap i kvs u:=by refine eA fun cF=>?_;obtain⟨q,aE,rfl⟩:=r;obtain⟨⟨e,ns⟩,a8,d,js,mc⟩:=R.cells _ _ _ (Eh h) aE;refine cF ?_;exact⟨q,aE,by erw[e],ns,a8,d,ew.zi (f:=id) js mc⟩
theorem Fu{h:Heap}{l:Addr}{af:Array Value}(p:h.PlainList l af):∀a,Value.ref l= .ref a→∃o,h.get? a=I o∧o.dict=J:=by rintro a e;cases e;refine f7 (p) fun k p=>?_;exact⟨_,p,rfl⟩
theorem sQ{a:Expr}{bx:ao}(ca:aW cx a=I bx):dv cx [a]=I (.cons bx .nil):=by show(aW cx a).bind _=_;erw[ca];rfl
theorem Fv{q gu:Addr×Addr}{i:Nat}{W W':a3}(l:W.le W')(h:W.p[i]? =I q)(h':W'.p[i]? =I gu):gu=q:=Option.some.inj (h'.symm.trans (l4 l.p h))
theorem Pk{o a:Expr}{apos pos:Pos}{po bx:ao}(aO:bj w ae C n cx o)(aB:bj w ae C n cx a)(co:aW cx o=I po)(ca:aW cx a=I bx)(jt:(apos.endLine==pos.line)=true):
  e5 w ae C n cx (.Call (.Attribute o "append" apos) [a] [] pos) (.append po bx):=by
 have cs:=sQ ca;intro A ax G W fm st s v st' hf R aN;obtain⟨x,s1,iX,aa⟩:=b2 (show aY (aj C po st) _=I (v,st')from aN);obtain⟨i,aw,ab⟩:=aU aa;obtain⟨zI,i3,aq⟩:=aU ab;clear aN aa ab;obtain⟨z,s2,bT,ba⟩:=b2 aq;obtain⟨y,s3,sz,b0⟩:=b2 ba;obtain⟨xs,ah,d2⟩:=aU b0;refine bC (fun eH fk=>?_) (oe d2);clear aq ba b0 d2;cases fk;obtain rfl:=mY aw;refine sP co cs (by simp) jt (dk (aO co ax hf R iX) fun u s₁ W1 aM aZ a7 a0=>?_);obtain⟨q,aE,rfl,e,Pl,dA,_⟩:=Fs aZ a7 i3;refine getMethod_builtin dA.isList.typeIs PySem.F.plainAttrs_list PySem.F.slot_list_append PySem.F.type_list_append (Fu dA) (callWith_builtin (qW cs) ?_);erw[lb ca];refine evalArgs_plain (spliced_cons (dk (aB ca ax hf aZ bT) fun z s₂ cN bt cy b3 cK=>spliced_nil ?_));obtain⟨h7,fa,ek,m1⟩:=Pj cy b3 sz;have om:=l4 fa.p (l4 bt.p aE);obtain⟨bo,vs,p,bO⟩:=ek.cells _ _ _ (n9 ah) om;refine wpAny_list_append_plain p (fun h' dp fL=>?_) ?_
 ·exact⟨h7,(aM.trans bt).trans fa,ek.setC (n9 ah) rfl om fL ⟨bo,vs++[z],by simpa using dp,bO.append (.cons m1 .nil)⟩,.bB,cK.trans a0⟩
 ·have:=hz eH;erw[jg,bO.1];exact this
theorem Pm{o a:Expr}{apos pos:Pos}{po bx:ao}(aO:bj w ae C n cx o)(aB:bj w ae C n cx a)(co:aW cx o=I po)(ca:aW cx a=I bx)(jt:(apos.endLine==pos.line)=true):
  e5 w ae C n cx (.Call (.Attribute o "extend" apos) [a] [] pos) (.extend po bx):=by
 have cs:=sQ ca;intro A ax G W fm st s v st' hf R aN;obtain⟨x,s1,iX,aa⟩:=b2 (show aY (aj C po st) _=I (v,st')from aN);obtain⟨i,aw,ab⟩:=aU aa;obtain⟨zI,i3,aq⟩:=aU ab;clear aN aa ab;obtain⟨z,s2,bT,ba⟩:=b2 aq;obtain⟨aS,aV,b0⟩:=aU ba;obtain⟨xs,ah,d2⟩:=aU b0;obtain⟨eH,fk⟩:=oe d2;clear aq ba b0 d2;cases fk;obtain rfl:=mY aw;obtain rfl:=va aV;refine sP co cs (by simp) jt (dk (aO co ax hf R iX) fun u s₁ W1 aM aZ a7 a0=>?_);obtain⟨q,aE,rfl,e,Pl,dA,_⟩:=Fs aZ a7 i3;refine getMethod_builtin dA.isList.typeIs PySem.F.plainAttrs_list PySem.F.slot_list_extend PySem.F.type_list_extend (Fu dA) (callWith_builtin (qW cs) ?_);erw[lb ca];refine evalArgs_plain (spliced_cons (dk (aB ca ax hf aZ bT) fun z s₂ cN bt cy b3 cK=>spliced_nil ?_));have om:=l4 bt.p aE;obtain⟨bo,vs,⟨dH,p⟩,bO⟩:=cy.cells _ _ _ (n9 ah) om;obtain⟨us,l,rfl,⟨ft,ck⟩,eV⟩:=y1 cy b3;have ar:=of_decide_eq_true eH;replace ar:=b4▸ar;refine call_meets PySem.F.slot_list_extend ⟨_,p,rfl⟩ PySem.F.entry_list_extend (PySem.F.args_list_extend_2 _ _)
  (AutoSeq1.list_extend_list_list_0 q.2 vs.toArray dH l us.toArray ft ?_ ?_ ?_) ⟨p,ck,?_⟩
 ·intro hh;have ab:=(cI.mp hh).2;unfold Builtin.List.listTooLong at ab;have:=of_decide_eq_true ab;replace this:=sizeLine_eq▸(eV.1▸(bO.1▸(jg▸(jg▸this))))
  omega
 ·erw[jg,bO.1,sizeLine_eq];omega
 ·erw[jg,jg,bO.1,eV.1,sizeLine_eq];omega
 ·refine⟨cN,aM.trans bt,cy.setC (n9 ah) rfl om (Heap.SameBut.update ..) ⟨bo,vs++us,?_,bO.append eV⟩,.bB,cK.trans a0⟩;obtain⟨k,ai⟩:=E5 (fun x=>x++us.toArray) vs.toArray dH;refine⟨k,?_⟩;erw[Heap.get?_update_self _ p (by erw[ai];rfl),ai];simp
theorem ew.getD{W:a3}{l:List (Int×V)}{dh:List (Int×Value)}(h:ew id (dc W) l dh)(k:Int){d:V}{zJ:Value}(r:dc W d zJ):dc W ((Tactic.g7 k l).getD d) ((valueAt dh k).getD zJ):=by
 rcases h.g7 k with⟨x,v,aa,ab,aq⟩|⟨aa,ab⟩
 ·erw[aa,ab];exact aq
 ·erw[aa,ab];exact r
theorem Pn{o a:Expr}{apos pos:Pos}{po bx:ao}(aO:bj w ae C n cx o)(aB:bj w ae C n cx a)(co:aW cx o=I po)(ca:aW cx a=I bx)(jt:(apos.endLine==pos.line)=true):
  e5 w ae C n cx (.Call (.Attribute o "get" apos) [a] [] pos) (.qE po bx):=by
 intro A ax G W fm st s v st' hf R aN;obtain⟨x,s1,iX,aa⟩:=b2 (show aY (aj C po st) _=I (v,st')from aN);obtain⟨i,aw,ab⟩:=aU aa;obtain⟨zI,i3,aq⟩:=aU ab;clear aN aa ab;obtain⟨z,s2,bT,ba⟩:=b2 aq;obtain⟨k,ai,b0⟩:=aU ba;obtain⟨kvs,ah,d2⟩:=omap b0;clear aq ba b0;cases d2;obtain rfl:=mY aw;obtain rfl:=l9 ai;refine sP co (sQ ca) (by simp) jt (dk (aO co ax hf R iX) fun u s₁ W1 aM aZ a7 a0=>?_);obtain⟨q,aE,rfl,ns,Po,sR,_⟩:=vp aZ a7 i3;refine getMethod_builtin sR.typeIs PySem.F.plainAttrs_dict PySem.F.slot_dict_get PySem.F.type_dict_get sR.mapOf.noDict ?_;erw[lb ca];refine wpAny_dict_get1 (knd:=nQ a4 w) ns (dk (aB ca ax hf aZ bT) fun z s₂ cN bt cy b3 cK=>?_);obtain⟨gu,zK,_,_,a8,d,iB⟩:=vp cy ((a7).mono bt) ah;obtain rfl:=Fv bt aE zK;obtain⟨t,rfl⟩:=hP b3;exact⟨k,valueAt a8,by simp[nQ,Value.isInt],d.mapOf,cN,aM.trans bt,cy.toks,iB.getD k .bB,cK.trans a0⟩
theorem Pp{o a b:Expr}{apos pos:Pos}{po bx bN:ao}(aO:bj w ae C n cx o)(aB:bj w ae C n cx a)(bf:bj w ae C n cx b)(co:aW cx o=I po)(ca:aW cx a=I bx)(dy:aW cx b=I bN)(jt:(apos.endLine==pos.line)=true):
  e5 w ae C n cx (.Call (.Attribute o "get" apos) [a,b] [] pos) (.pe po bx bN):=by
 have cs:dv cx [a,b]=I (.cons bx (.cons bN .nil)):=by show(aW cx a).bind _=_;erw[ca,Z1,sQ dy];rfl
 intro A ax G W fm st s v st' hf R aN;obtain⟨x,s1,iX,aa⟩:=b2 (show aY (aj C po st) _=I (v,st')from aN);obtain⟨i,aw,ab⟩:=aU aa;obtain⟨zI,i3,aq⟩:=aU ab;clear aN aa ab;obtain⟨z,s2,bT,ba⟩:=b2 aq;obtain⟨k,ai,b0⟩:=aU ba;obtain⟨y,s3,cV,d2⟩:=b2 b0;obtain⟨zJ,hd,fk⟩:=aU d2;obtain⟨kvs,ah,pH⟩:=omap fk;clear aq ba b0 d2 fk;cases pH;obtain rfl:=mY aw;obtain rfl:=l9 ai;obtain rfl:=l' hd;refine sP co cs (by simp) jt (dk (aO co ax hf R iX) fun u s₁ W1 aM aZ a7 a0=>?_);obtain⟨q,aE,rfl,ns,Po,sR,_⟩:=vp aZ a7 i3;refine getMethod_builtin sR.typeIs PySem.F.plainAttrs_dict PySem.F.slot_dict_get PySem.F.type_dict_get sR.mapOf.noDict ?_;erw[lb ca,lb dy];refine wpAny_dict_get2 (knd:=nQ a4 w) ns (dk (aB ca ax hf aZ bT) fun z s₂ cN bt cy b3 cK=>dk (bf dy ax hf cy cV) fun y gO h7 fa ek m1 gd=>?_);obtain⟨gu,zK,_,_,a8,d,iB⟩:=vp ek ((a7).mono (bt.trans fa)) ah;obtain rfl:=Fv (bt.trans fa) aE zK;obtain⟨t,rfl⟩:=hP (b3.mono fa);exact⟨k,valueAt a8,by simp[nQ,Value.isInt],d.mapOf,h7,(aM.trans bt).trans fa,ek.toks,iB.getD k m1,gd.trans (cK.trans a0)⟩
end
end
end Tactic
end
section
open PySem PySem.W PySem.Calls PyProof.Rows PySem.SeqAt
namespace Tactic
noncomputable section
section
variable{cx:bV}{A:Around}{G:Addr→Obj→Prop}{W W':a3}{fm fm':bS}{st st':St}{s:Shared}
noncomputable abbrev q0:Obj:={cls:=.type "dict",data:=.dict #[]}
theorem Fw(aQ:cH w ae cb cm)(R:Rel w ae G W fm st s):(s.heap.objs.size==sysModules)=false:=by refine eA fun cF=>?_;obtain⟨o,es,ep,e,_⟩:=aQ.g;refine cF ?_;have:=Heap.lt_size (R.cD _ _ (R.base _ _ e));rw[beq_eq_false_iff_ne];rintro h;rw[h]at this;exact absurd this (by decide)
theorem Pq(aQ:cH w ae cb cm){p:Pos}:e5 w ae C n cx (.Dict [] [] p) .cw:=by intro A ax G W fm st s v st' hf R aN;cases aN;refine wpAny_Dict_empty ?_;have aZ:=R.keep (h':=s.heap.push q0) (k:=s.toks) fun b o e=>Heap.get?_push_of_some _ e;exact⟨_,a3.sN,aZ.n7 (q:=(s.heap.objs.size,s.heap.objs.size)) (R.h5 (bE _)) ⟨⟨rfl,Fw aQ R⟩,[],Heap.DictOf.new _,rfl,.nil⟩,⟨_,R.qU,rfl⟩,rfl⟩
noncomputable def nV(cx:bV)(e:Expr):Option ao:=match e with
 | .List es _=>(dv cx es).map ao.jk
 | .Subscript e i _=>if uY i then(aW cx e).map ao.pd else J
 |e=>aW cx e
theorem Pr{e:Expr}{r:List Expr}:mQ cx (e::r)=(nV cx e).bind fun e=>(mQ cx r).map fun r=>.cons e r:=by
 induction e using Expr.casesOn<;>rfl
theorem Pt{k:Option Expr}{a:Nat}(h:keyOf k=I a):∃s i p,k=I (.Constant (.str s) i p)∧jU s=I a:=by
 induction k using gJ with
 |none=>cases h
 |some e=>
  cases e with
  |Constant c i p=>
   induction c using Const.casesOn with
   |str s=>exact⟨s,i,p,rfl,h⟩
   |_=>exact cQ h
  |_=>exact cQ h
inductive pI:List (Option Expr)→List Nat→Prop where
 |nil:pI [] []
 |cons {s:Str} {i:Nat} {p:Pos} {a:Nat} {a8:List (Option Expr)} {eS:List Nat} (h:jU s=I a) (r:pI a8 eS):pI (I (.Constant (.str s) i p)::a8) (a::eS)
theorem Pu{a8:List (Option Expr)}:∀{eS:List Nat},keysOf a8=I eS→pI a8 eS:=by
 induction a8 with
 |nil=>intro eS h;cases Option.some.inj (show I []=I eS from h);exact .nil
 |cons k a8 aG=>intro eS h;obtain⟨a,aa,h'⟩:=aU (show(keyOf k).bind _=I eS from h);obtain⟨b,ab,rfl⟩:=omap h';obtain⟨s,i,p,rfl,aq⟩:=Pt aa;exact .cons aq (aG ab)
noncomputable def sS(env:Env)(pos:Pos):List (Option Expr)→List Expr→List (Sem Value×Sem Value)
 |some k::a8,v::vs=>(eval k env,do let x←eval v env;standAt pos;pure x)::sS env pos a8 vs
 |_,_=>[]
theorem Pw{env:Env}{pos:Pos}{a8:List (Option Expr)}{eS:List Nat}(h:pI a8 eS):∀{vs:List Expr},a8.length=vs.length→(evalEachOpt a8 env).zip ((evalEach vs env).map fun v=>do let x←v;standAt pos;pure x)=(sS env pos a8 vs).map fun p=>(I p.1,p.2):=by
 induction h with
 |nil=>intro vs ar;cases o5 ar.symm;rfl
 |cons _ _ aG=>
  intro vs ar
  rcases vs with _|⟨v,vs⟩
  ·cases ar
  ·exact congrArg (_:: ·) (aG (Nat.succ.inj ar))
theorem pairs_len{env:Env}{pos:Pos}{a8:List (Option Expr)}{eS:List Nat}(h:pI a8 eS):∀{vs:List Expr},a8.length=vs.length→(sS env pos a8 vs).length=eS.length:=by
 induction h with
 |nil=>intro vs _;rfl
 |cons _ _ aG=>
  intro vs ar
  rcases vs with _|⟨v,vs⟩
  ·cases ar
  ·exact congrArg (· +1) (aG (Nat.succ.inj ar))
theorem Fx{e:Expr}{r:List Expr}{bg:az}(h:mQ cx (e::r)=I bg):∃bx bN,nV cx e=I bx∧mQ cx r=I bN∧bg= .cons bx bN:=by rw[Pr]at h;obtain⟨a,aB,h'⟩:=aU h;obtain⟨b,bf,e⟩:=omap h';exact⟨a,b,aB,bf,e.symm⟩
inductive Fy(C:Calls)(e:ao)(es:az)(st:St)(xs:List X)(st':St):Prop where
 |mk (x:X) (s1:St) (bT:aj C e st=I (x,s1)) (aS:List X) (cV:dq C es s1=I (aS,st')) (h:xs=x::aS):Fy C e es st xs st'
theorem zL{e:ao}{es:az}{xs:List X}(h:dq C (.cons e es) st=I (xs,st')):Fy C e es st xs st':=by obtain⟨x,s1,bT,aa⟩:=b2 (show aY (aj C e st) _=I (xs,st')from h);obtain⟨aS,s2,cV,ab⟩:=b2 aa;cases ab;exact⟨x,s1,bT,aS,cV,rfl⟩
theorem aaC{vs:List Expr}:∀{bg:az} {st st':St} {xs:List X},mQ cx vs=I bg→dq C bg st=I (xs,st')→xs.length=vs.length:=by
 induction vs with
 |nil=>intro bg st st' xs h e;cases h;cases e;rfl
 |cons v vs aG=>intro bg st st' xs h e;obtain⟨a,b,_,Px,rfl⟩:=Fx h;obtain⟨x,s1,_,aS,ee,rfl⟩:=zL e;exact congrArg (· +1) (aG Px ee)
inductive Fz(w:World)(ae:Heap)(G:Addr→Obj→Prop)(W:a3)(fm:bS)(s:Shared)(st':St)(xs:List X)(eS:List Nat)(us:List (Value×Value))(s':Shared):Prop where
 |mk (W':a3) (l:W.le W') (R:Rel w ae G W' fm st' s') (o:s'.os=s.os) (kvs:List (Str×Value)) (c:Carries (qt a4 w) us kvs) (e:kvs.map (·.1)=eS.map nm) (r:cM W' xs (kvs.map (·.2))):Fz w ae G W fm s st' xs eS us s'
theorem Py{a8:List (Option Expr)}{eS:List Nat}{pos:Pos}(ai:pI a8 eS){A:Around}(ax:d1 n A)(hf:dw cx fm):∀{vs:List Expr} {bg:az},a8.length=vs.length→(∀e,e∈vs→∀aH,nV cx e=I aH→e5 w ae C n cx e aH)→mQ cx vs=I bg→∀{W st s xs st'},Rel w ae G W fm st s→dq C bg st=I (xs,st')→wpAny (model a4 w) A (evalPairs (sS fm.env pos a8 vs)) (Fz w ae G W fm s st' xs eS) bL s:=by
 induction ai with
 |nil=>intro vs bg ar h ah W st s xs st' R aN;cases o5 ar.symm;cases ah;cases aN;exact evalPairs_nil ⟨_,.rfl,R,rfl,[],trivial,rfl,trivial⟩
 |cons zM _ aG=>
  intro vs bg ar h ah W st s xs st' R aN
  rcases vs with _|⟨v,vs⟩
  ·cases ar
  ·obtain⟨bx,bN,ca,dy,rfl⟩:=Fx ah;obtain⟨x,s1,bT,aS,cV,rfl⟩:=zL aN;erw[sG zM];refine evalPairs_cons (wpAny_Constant_str (wpAny_bind (dk (h v (.head _) bx ca _ ax hf R.toks bT) fun u s₁ W1 aM aZ a7 a0=>wpAny_bind (wpAny_standAt (wpAny_pure ?_)))));refine wpAny_mono (aG (Nat.succ.inj ar) (fun e he=>h e (.tail _ he)) dy aZ cV) (fun us s₂ q=>?_) fun ag ag x=>x;obtain⟨cN,bt,cy,cK,kvs,c,ay,au⟩:=q;exact⟨cN,aM.trans bt,cy,cK.trans a0,(nm _,u)::kvs,⟨by simp[qt,Value.isStrOf],rfl,c⟩,congrArg (_:: ·) ay,a7.mono bt,au⟩
theorem Pz{a8:List Nat}(h:a8.Nodup)(ai:∀k∈a8,k<61):(a8.map nm).Nodup:=by
 induction a8 with
 |nil=>exact .nil
 |cons k r aG=>refine bC (fun aa ab=>?_) (jf.mp h);refine jf.mpr ⟨fun hm=>?_,aG ab fun k l7=>ai k (.tail _ l7)⟩;obtain⟨j,a',e⟩:=f9.mp hm;exact aa (qR (ai k (.head _)) e.symm▸a')
theorem PA(R:Rel w ae G W fm st s){xs:List X}:∀{us:List Value},cM W xs us→∀x∈xs,iU st.heap.length x:=by
 induction xs with
 |nil=>intro us _ x h;cases h
 |cons x xs aG=>
  intro us r y h
  rcases us with _|⟨u,us⟩
  ·exact r.elim
  ·exact(ec.mp h).elim (fun e=>e▸below R r.1) (aG r.2 y)
theorem PB{a8:List Nat}{xs:List X}(h:yx a8 xs=true):a8.length=xs.length∧a8.length≤15∧a8≠[]∧a8.Nodup∧∀k∈a8,k<61:=by refine bC (fun h b0=>?_) (cI.mp h);refine bC (fun h ba=>?_) (cI.mp h);refine bC (fun h aq=>?_) (cI.mp h);refine bC (fun aa ab=>?_) (cI.mp h);exact⟨of_decide_eq_true aa,of_decide_eq_true ab,(fun e=>by cases e;cases aq),of_decide_eq_true ba,fun k ai=>of_decide_eq_true (h1.mp b0 k ai)⟩
theorem PC(aQ:cH w ae cb cm){a8:List (Option Expr)}{vs:List Expr}{eS:List Nat}{bg:az}{pos:Pos}(ai:keysOf a8=I eS)(hlen:a8.length=vs.length)(h:∀e,e∈vs→∀aH,nV cx e=I aH→e5 w ae C n cx e aH)(ah:mQ cx vs=I bg):
  e5 w ae C n cx (.Dict a8 vs pos) (.e9 eS bg):=by
 intro A ax G W fm st s v st' hf R aN;obtain⟨xs,s1,ex,aa⟩:=b2 (show aY (dq C bg st) _=I (v,st')from aN);refine bC (fun gP ab=>?_) (c1 aa);cases ab;obtain⟨aa,ab,aq,ba,b0⟩:=PB gP;clear gP;have ai:=Pu ai;have iC:=pairs_len (env:=fm.env) (pos:=pos) ai hlen;refine wpAny_Dict_pairs (knd:=qt a4 w) (pairs:=sS fm.env pos a8 vs) (Pw ai hlen) (fun e=>aq (o5 (iC.symm.trans (congrArg xM e)))) (iC.symm▸ab) ?_;have off:=R.h5 (a:=s.heap.objs.size) (bE _);have aZ:=(R.keep (h':=s.heap.push q0) (k:=s.toks) fun b o e=>Heap.get?_push_of_some _ e).i0 (E:=[(s.heap.objs.size,q0)]) fun a o hm=>by refine bC (fun ay au=>?_) (Prod.mk.inj (dY.mp hm));have hp:(s.heap.push q0).get? s.heap.objs.size=I q0:=Heap.get?_push_size _ rfl;exact⟨ay▸au▸hp,ay▸off.o,ay▸off.f⟩
 refine wpAny_mono (Py ai ax hf hlen h ah aZ ex) (fun us s' q=>?_) fun ag ag x=>x;obtain⟨W1,aM,cy,a0,kvs,c,ay,au⟩:=q;have FA:=cy.zr (a:=s.heap.objs.size) (o:=q0) (.head _) off.g;have hd:=cy.e3 _ _ (.inr (.head _));refine⟨kvs,c,?_,fun h' qT fL=>?_⟩
 ·exact DictOf.at' (Heap.DictOf.new (knd:=qt a4 w) s.heap) fun o e=>hd.trans ((Heap.get?_push_size _ rfl).symm.trans e)
 ·have ek:=(cy.E8 fun a o hm v e=>by cases (Prod.mk.inj (dY.mp hm)).2;cases e).vj (k:=s'.toks+us.length) FA fL;rw[show merged [] kvs=kvs from(merged_append_of_fresh [] kvs (by erw[nR,ay];exact Pz ba b0)).trans (nR _)]at qT;refine⟨_,aM.trans a3.sN,ek.n7 (q:=(s.heap.objs.size,s.heap.objs.size)) FA ⟨⟨rfl,Fw aQ R⟩,kvs,qT,?_,?_,fun y aV=>(PA ek au y.2 (List.of_mem_zip aV).2).mono (lM _)⟩,⟨_,ek.qU,rfl⟩,a0⟩
  ·erw[ay,show(eS.zip xs).map (fun x=>nm x.1)=((eS.zip xs).map (·.1)).map nm from by erw[jO];rfl,List.map_fst_zip (eQ aa)]
  ·erw[List.map_snd_zip (eQ aa.symm)];exact au.mono a3.sN
end
end
end Tactic
end
section
open PySem PySem.W PySem.Calls PyProof.Rows PySem.SeqAt
namespace Tactic
noncomputable section
section
variable{cx:bV}{A:Around}{G dJ:Addr→Obj→Prop}{W W' W1:a3}{fm fm':bS}{st st' st1:St}{s:Shared}
noncomputable def vq(W:a3)(h:Heap)(aF:cB)(fb:V)(v:Value):Prop:=match aF with
 | .one _=>dc W fb v
 | .many _=>∃us vals T,fb= .tup us∧v= .ref T∧h.IsTuple T (mG vals)∧b5 W us vals
noncomputable def vr(aF:cB)(fb:V):Prop:=match aF with
 | .one _=>True
 | .many _=>∃us,fb= .tup us
structure lg(w:World)(A:Around)(G:Addr→Obj→Prop)(W:a3)(fm:bS)(st:St)(h:Heap)(cc:Addr)(aF:cB)(target:Expr)(xs:List V)(bq ea wr:List Addr)(P d5:Nat→Value→Heap→Prop)(cS:Nat→Heap→Prop):Prop where
 K:KTurns a4 w A target cc bq wr xs.length P d5 cS
 hA:cS 0 h
 wr:∀b∈wr,b∈ea
 off:∀b∈ea,Off G W fm st b
 bq:∀b∈bq,b∈ea∨(∃o,W.F b o)∨∃o,G b o
 item:∀(i:Nat) v h fb,xs[i]? =I fb→P i v h→(∀a o,W.F a o→h.get? a=I o)→vr aF fb→vq W h aF fb v
 alive:∀i h,cS i h→∀b∈ea,∃o,h.get? b=I o
 self:∀(s:Shared) (Q:Value→Shared→Prop) (E:Value→Shared→Prop),cS 0 s.heap→Q (.ref cc) s→wpAny (model a4 w) A (pyIter (.ref cc)) Q E s
noncomputable def tgt(aF:cB)(t:Expr):Prop:=match aF with
 | .one _=>∃x p,t= .Name x p
 | .many _=>∃es k p,t= .Tuple es k p
theorem FC{t:Expr}{aF:cB}(h:jV cx t=I aF):tgt aF t:=by
 induction t using Expr.casesOn with
 |Name x p=>obtain⟨i,_,rfl⟩:=omap (show(cx.ak x).map cB.one=I aF from h);exact⟨_,_,rfl⟩
 |Tuple es k p=>obtain⟨i,_,rfl⟩:=omap (show(lZ cx es).map cB.many=I aF from h);exact⟨_,_,_,rfl⟩
 |_=>exact cQ h
theorem zN{t:Expr}{aF:cB}(a5:tgt aF t){cc:Addr}{v:Value}{cl:String}(mW:["enumerate","zip","dict_itemiterator","dict_reverseitemiterator","odict_iterator","itertools.zip_longest","itertools.pairwise"].contains cl=false)
  {M:Model} {E:Value→Shared→Prop} {Q:Unit→Shared→Prop} {o:Obj} (aO:s.heap.get? cc=I o) (ah:o.cls= .type cl) (aE:Q () s):wpAny M A (letOwnedTupleGo t (.ref cc) v) Q E s:=by
 induction aF using cB.casesOn with
 |one i=>obtain⟨x,p,rfl⟩:=a5;exact wpAny_pure aE
 |many is=>
  obtain⟨es,k,p,rfl⟩:=a5;unfold letOwnedTupleGo
  induction v using Value.casesOn with
  |ref a=>
   refine wpAny_bind (wpAny_load aO ?_);erw[ah];generalize o.data=d
   induction d using Data.casesOn with
   |fields vs=>
    dsimp only
    erw[mW,LD,if_neg rR];exact wpAny_pure aE
   |_=>exact wpAny_pure aE
  |_=>exact wpAny_pure aE
theorem pJ{aF:cB}{h:Heap}{xs:List V}{vs:List Value}{i:Nat}{v:Value}{fb:V}(ex:xs[i]? =I fb)(r:b5 W xs vs)(e:vs.toArray[i]? =I v)(fV:∀a o,W.F a o→h.get? a=I o)(hm:vr aF fb):vq W h aF fb v:=by
 have bO:=r.2 i _ v ex ((uw).symm.trans e)
 induction aF using cB.casesOn with
 |one j=>exact bO
 |many is=>obtain⟨us,au⟩:=hm;subst au;obtain⟨vs,l,k,rfl,f,r⟩:=y0 bO;exact⟨us,_,_,rfl,rfl,⟨_,fV _ _ f,rfl,k,rfl⟩,r⟩
theorem iD{α:Type}{P:α→Prop}:∀b∈([]:List α),P b:=fun ag h=>nomatch h
theorem dW{α:Type}{P:α→Prop}{a:α}{l:List α}(h:P a)(t:∀b∈l,P b):∀b∈a::l,P b:=fun b ae=>(ec.mp ae).elim (fun e=>e▸h) (t b)
theorem FD(ax:A.handled=J)(R:Rel w ae G W fm st s){aF:cB}{t:Expr}(a5:tgt aF t){xs:List V}{vs:List Value}{l:Addr}(p:s.heap.PlainList l vs.toArray)(r:b5 W xs vs)(ar:(∃o,W.F l o)∨∃o,G l o):
  ∃P d5 cS,lg w A G W fm st (s.heap.push {cls:=.type "list_iterator",data:=.fields #[.ref l,.int 0 0]}) s.heap.objs.size aF t xs [s.heap.objs.size,l] [s.heap.objs.size] [s.heap.objs.size] P d5 cS:=by
 have iY:l≠s.heap.objs.size:=by refine f7 (p) fun k e=>?_;exact kg (Heap.lt_size e)
 have hB:=Walks.list (prog:=a4) (w:=w) (A:=A) ax s.heap.objs.size l iY vs.toArray;rw[show vs.toArray.size=xs.length from r.1]at hB;refine⟨_,_,_,KTurns.ofWalks hB fun i v s' Q E aL aE=>?_,⟨⟨_,Heap.get?_push_size _ rfl,rfl,rfl⟩,(p.at fun o e=>Heap.get?_push_of_some _ e).isList⟩,fun b h=>h,dW (R.h5 (bE _)) iD,dW (.inl (.head _)) (dW (.inr ar) iD),fun i v h fb ex dM fV hm=>pJ ex r dM fV hm,fun i h aL=>dW (by obtain⟨⟨o,aO,_⟩,_⟩:=aL;exact⟨o,aO⟩) iD,hB.self 0⟩;obtain⟨⟨o,aO,ah,_⟩,_⟩:=aL;exact zN a5 (cl:="list_iterator") (by decide) aO ah aE
theorem PD(ax:A.handled=J)(R:Rel w ae G W fm st s){aF:cB}{t:Expr}(a5:tgt aF t){xs:List V}{vs:List Value}{l:Addr}{k:Nat}(p:s.heap.get? l=I {cls:=.type "tuple",data:=.seq vs.toArray k})(r:b5 W xs vs)(ar:(∃o,W.F l o)∨∃o,G l o):
  ∃P d5 cS,lg w A G W fm st (s.heap.push {cls:=.type "tuple_iterator",data:=.fields #[.ref l,.int 0 0]}) s.heap.objs.size aF t xs [s.heap.objs.size,l] [s.heap.objs.size] [s.heap.objs.size] P d5 cS:=by
 have iY:l≠s.heap.objs.size:=kg (Heap.lt_size p);have hB:=Walks.tuple (prog:=a4) (w:=w) (A:=A) ax s.heap.objs.size l iY vs.toArray;rw[show vs.toArray.size=xs.length from r.1]at hB;refine⟨_,_,_,KTurns.ofWalks hB fun i v s' Q E aL aE=>?_,⟨⟨_,Heap.get?_push_size _ rfl,rfl,rfl⟩,⟨_,Heap.get?_push_of_some _ p,rfl,_,rfl⟩⟩,fun b h=>h,dW (R.h5 (bE _)) iD,dW (.inl (.head _)) (dW (.inr ar) iD),fun i v h fb ex dM fV hm=>pJ ex r dM fV hm,fun i h aL=>dW (by obtain⟨⟨o,aO,_⟩,_⟩:=aL;exact⟨o,aO⟩) iD,hB.self 0⟩;obtain⟨⟨o,aO,ah,_⟩,_⟩:=aL;exact zN a5 (cl:="tuple_iterator") (by decide) aO ah aE
theorem PE{xs:List V}:∀{k i:Nat},(pairs k xs)[i]? =(xs[i]?).map fun x=>V.tup [.int ((k+i:Nat):Int),x]:=by
 induction xs with
 |nil=>intro k i;rfl
 |cons x r aG=>
  intro k i
  induction i using fe with
  |zero=>rfl
  |succ i=>exact(aG (k:=k+1) (i:=i)).trans (by erw[show k+1+i=k+(i+1)from LF k i];rfl)
theorem FE{xs:List V}:∀{k:Nat},(pairs k xs).length=xs.length:=by
 induction xs with
 |nil=>intro k;rfl
 |cons x r aG=>intro k;exact congrArg (· +1) aG
theorem PF{xs:List V}:∀{aS:List V} {i:Nat} {z:V},(k2 xs aS)[i]? =I z→∃x y,xs[i]? =I x∧aS[i]? =I y∧z= .tup [x,y]:=by
 induction xs with
 |nil=>intro aS i z h;exact cQ h
 |cons x xs aG=>
  intro aS i z h
  rcases aS with _|⟨y,aS⟩
  ·exact cQ h
  ·induction i using fe with
   |zero=>exact⟨x,y,rfl,rfl,(Option.some.inj h).symm⟩
   |succ i=>exact aG (i:=i) h
theorem FF{xs:List V}:∀{aS:List V},(k2 xs aS).length=min xs.length aS.length:=by
 induction xs with
 |nil=>intro aS;exact(Nat.zero_min _).symm
 |cons x xs aG=>
  intro aS
  rcases aS with _|⟨y,aS⟩
  ·rfl
  ·exact(congrArg Nat.succ aG).trans (Nat.succ_min_succ ..).symm
theorem PG(ax:A.handled=J)(R:Rel w ae G W fm st s){is:List Nat}{es:List Expr}{k:Nat}{p:Pos}{xs:List V}{vs:List Value}{l:Addr}(pl:s.heap.PlainList l vs.toArray)(r:b5 W xs vs)(ar:(∃o,W.F l o)∨∃o,G l o){h':Heap}
  (he:IsEnum h' (s.heap.objs.size+1) s.heap.objs.size 0 .none) (hit:h'.IsListIter s.heap.objs.size l 0) (ai:∀b o,s.heap.get? b=I o→h'.get? b=I o):
  ∃P d5 cS,lg w A G W fm st h' (s.heap.objs.size+1) (.many is) (.Tuple es k p) (pairs 0 xs) [s.heap.objs.size+1,s.heap.objs.size,l] [s.heap.objs.size+1,s.heap.objs.size] [s.heap.objs.size+1,s.heap.objs.size] P d5 cS:=by
 have dQ:l<s.heap.objs.size:=by refine f7 (pl) fun k e=>?_;exact Heap.lt_size e
 have hB:=(WalksT.enumerate (prog:=a4) (w:=w) (A:=A) ax (s.heap.objs.size+1) s.heap.objs.size l (Nat.succ_ne_self _) (kg (lN dQ)) (kg dQ) vs.toArray).toU;rw[show vs.toArray.size=(pairs 0 xs).length from r.1.trans FE.symm]at hB;refine⟨_,_,_,KTurns.ofWalksU hB,⟨⟨_,he⟩,hit,(pl.at fun o e=>ai _ o e).isList⟩,fun b h=>h,dW (R.h5 (lM _)) (dW (R.h5 (bE _)) iD),dW (.inl (.head _)) (dW (.inl (.tail _ (.head _))) (dW (.inr ar) iD)),fun i v h fb ex dM fV hm=>?_,fun i h aL=>by obtain⟨⟨_,aa⟩,⟨_,ab,_⟩,_⟩:=aL;exact dW ⟨_,aa⟩ (dW ⟨_,ab⟩ iD),hB.self 0⟩;obtain⟨T,vals,rfl,⟨t,x,aC,rfl⟩,d'⟩:=dM;rw[PE]at ex;obtain⟨y,aV,rfl⟩:=omap ex;refine⟨_,[.int i t,x],T,rfl,rfl,d',?_⟩;rw[nO];exact .cons (.int _ _) (.cons (r.2 i y x aV ((uw).symm.trans aC)) .nil)
theorem PH(N aM bt:Nat)(a1:aM<N)(a2:bt<N):ZipApart (N+4) (N+2) (N+3) N (N+1) aM bt:=by
 constructor<;>(lia)
theorem PI(ax:A.handled=J)(R:Rel w ae G W fm st s){is:List Nat}{es:List Expr}{k:Nat}{p:Pos}{xs aS:List V}{vs us:List Value}{aM bt:Addr}(cL:s.heap.PlainList aM vs.toArray)(ck:s.heap.PlainList bt us.toArray)(a7:b5 W xs vs)(b3:b5 W aS us)
  (FG:(∃o,W.F aM o)∨∃o,G aM o) (oo:(∃o,W.F bt o)∨∃o,G bt o) {h':Heap}
  (bw:IsZip h' (s.heap.objs.size+4) (s.heap.objs.size+2) (s.heap.objs.size+3) .none) (PJ:IsPair h' (s.heap.objs.size+2) (.ref s.heap.objs.size) (.ref (s.heap.objs.size+1)))
  (PK:IsPair h' (s.heap.objs.size+3) .none .none) (zO:h'.IsListIter s.heap.objs.size aM 0) (m3:h'.IsListIter (s.heap.objs.size+1) bt 0) (ai:∀c o,s.heap.get? c=I o→h'.get? c=I o):
  ∃P d5 cS,lg w A G W fm st h' (s.heap.objs.size+4) (.many is) (.Tuple es k p) (k2 xs aS) [s.heap.objs.size+4,s.heap.objs.size+2,s.heap.objs.size+3,s.heap.objs.size,s.heap.objs.size+1,aM,bt]
   [s.heap.objs.size+4,s.heap.objs.size+2,s.heap.objs.size+3,s.heap.objs.size,s.heap.objs.size+1] [s.heap.objs.size+4,s.heap.objs.size+3,s.heap.objs.size,s.heap.objs.size+1] P d5 cS:=by
 have PL:aM<s.heap.objs.size:=by refine f7 (cL) fun k e=>?_;exact Heap.lt_size e
 have PM:bt<s.heap.objs.size:=by refine f7 (ck) fun k e=>?_;exact Heap.lt_size e
 have hB:=(WalksT.zip2 (prog:=a4) (w:=w) (A:=A) ax _ _ _ _ _ aM bt (PH _ _ _ PL PM) vs.toArray us.toArray).toU;rw[show min vs.toArray.size us.toArray.size=(k2 xs aS).length from(show min vs.length us.length=_ from a7.1▸b3.1▸rfl).trans FF.symm]at hB;have h0 {k}:Off G W fm st (s.heap.objs.size+k):=R.h5 (f6 _ _);refine⟨_,_,_,KTurns.ofWalksU hB,⟨bw,PJ,⟨_,_,PK⟩,zO,m3,(cL.at fun o e=>ai _ o e).isList,(ck.at fun o e=>ai _ o e).isList⟩,dW (.head _) (dW (.tail _ (.tail _ (.head _))) (dW (.tail _ (.tail _ (.tail _ (.head _)))) (dW (.tail _ (.tail _ (.tail _ (.tail _ (.head _))))) iD))),dW h0 (dW h0 (dW h0 (dW (R.h5 (bE _)) (dW h0 iD)))),dW (.inl (.head _)) (dW (.inl (.tail _ (.head _))) (dW (.inl (.tail _ (.tail _ (.head _)))) (dW (.inl (.tail _ (.tail _ (.tail _ (.head _))))) (dW (.inl (.tail _ (.tail _ (.tail _ (.tail _ (.head _)))))) (dW (.inr FG) (dW (.inr oo) iD)))))),fun i v h fb ex dM fV hm=>?_,fun i h aL=>by obtain⟨aa,ab,⟨_,_,aq⟩,⟨_,ba,_⟩,⟨_,b0,_⟩,_⟩:=aL;exact dW ⟨_,aa⟩ (dW ⟨_,ab⟩ (dW ⟨_,aq⟩ (dW ⟨_,ba⟩ (dW ⟨_,b0⟩ iD)))),hB.self 0⟩
 obtain⟨T,vals,rfl,⟨x,y,aC,aV,rfl⟩,d'⟩:=dM;obtain⟨a,b,aB,bf,rfl⟩:=PF ex;exact⟨_,[x,y],T,rfl,rfl,d',.cons (a7.2 i a x aB ((uw).symm.trans aC)) (.cons (b3.2 i b y bf ((uw).symm.trans aV)) .nil)⟩
theorem PN(ax:A.handled=J)(R:Rel w ae G W fm st s){aF:cB}{t:Expr}(a5:tgt aF t){a b:Int}:
  ∃P d5 cS,lg w A G W fm st (s.heap.push {cls:=.type "range_iterator",data:=.fields #[rawInt a,rawInt (Builtin.Range.rangeSize a b 1),rawInt 1]}) s.heap.objs.size aF t (gM a b) [s.heap.objs.size] [s.heap.objs.size] [s.heap.objs.size] P d5 cS:=by
 have k':(b-a).toNat=(gM a b).length:=((bF _).trans LG).symm;have hB:=Walks.range (prog:=a4) (w:=w) (A:=A) ax s.heap.objs.size a 1 (b-a).toNat;rw[k']at hB;refine⟨_,_,_,KTurns.ofWalks hB fun i v s' Q E aL aE=>zN a5 (cl:="range_iterator") (by decide) aL rfl aE,?_,fun b h=>h,dW (R.h5 (bE _)) iD,dW (.inl (.head _)) iD,fun i v h fb ex dM fV mV=>?_,fun i h aL=>dW ⟨_,aL⟩ iD,hB.self 0⟩
 ·have:=Heap.get?_push_size s.heap (o:={cls:=.type "range_iterator",data:=.fields #[rawInt a,rawInt (Builtin.Range.rangeSize a b 1),rawInt 1]}) rfl;rw[rangeSize_nat]at this⊢;rw[k']at this⊢;show IsRangeIter _ _ (a+((0:Nat):Int)*1) (((gM a b).length:Int)-((0:Nat):Int)) 1;erw[show a+((0:Nat):Int)*1=a from eP a,show((gM a b).length:Int)-((0:Nat):Int)=(gM a b).length from rS _];exact this
 ·obtain⟨y,aV,e⟩:=omap ((lO ..).symm.trans ex);cases e
  induction aF using cB.casesOn with
  |many is=>refine f7 (mV) fun us e=>?_;cases e
  |one j=>obtain⟨t,rfl⟩:=dM;cases Option.some.inj ((Z2 (rT (d7.mp aV).1 LG)).symm.trans aV);erw[Lw];exact .int _ _
end
end
end Tactic
end
section
open PySem PySem.W PySem.Calls PyProof.Rows PySem.SeqAt
namespace Tactic
noncomputable section
section
variable{cx:bV}{A:Around}{G dJ:Addr→Obj→Prop}{W W' W1:a3}{fm fm':bS}{st st' st1:St}{s:Shared}
inductive FH(G dJ:Addr→Obj→Prop)(W1:a3)(fm:bS)(i:Nat)(xs:List V):Prop where
 |mk (q:Addr×Addr) (vs:List Value) (k:Nat) (aE:W1.p[i]? =I q) (e:q.1=q.2) (bO:b5 W1 xs vs) (g:dJ=fun a br=>G a br∨(a=q.2∧br={cls:=.type "list",data:=.seq (mG vs) k})) (cF:∀o,¬G q.2 o) (nl:¬hu fm q.2):FH G dJ W1 fm i xs
noncomputable def FI(G dJ:Addr→Obj→Prop)(W1:a3)(fm:bS)(x:X)(xs:List V):Prop:=match x with
 | .v _=>dJ=G
 | .cell i=>FH G dJ W1 fm i xs
inductive oq(w:World)(ae:Heap)(A:Around)(G:Addr→Obj→Prop)(W:a3)(fm:bS)(s:Shared)(x:X)(xs:List V)(st1:St)(aF:cB)(target:Expr)(vt:Value)(s₂:Shared):Prop where
 |mk (cc:Addr) (W1:a3) (dJ:Addr→Obj→Prop) (bq ea wr:List Addr) (P d5:Nat→Value→Heap→Prop) (cS:Nat→Heap→Prop) (e:vt= .ref cc) (l:W.le W1) (R:Rel w ae dJ W1 fm st1 s₂) (o:s₂.os=s.os) (T:lg w A dJ W1 fm st1 s₂.heap cc aF target xs bq ea wr P d5 cS) (L:FI G dJ W1 fm x xs):oq w ae A G W fm s x xs st1 aF target vt s₂
theorem oq.step{W':a3}{s1:Shared}{x:X}{xs:List V}{aF:cB}{t:Expr}{v:Value}{s':Shared}(h:W.le W')(o:s1.os=s.os)(p:oq w ae A G W' fm s1 x xs st1 aF t v s'):oq w ae A G W fm s x xs st1 aF t v s':=by obtain⟨cc,W1,dJ,bq,ea,wr,P,d5,cS,a,b,c,d,e,f⟩:=p;exact⟨cc,W1,dJ,bq,ea,wr,P,d5,cS,a,h.trans b,c,d.trans o,e,f⟩
theorem PO(ax:A.handled=J)(R:Rel w ae G W fm st s){x:X}{u:Value}(r:b8 W x u){xs:List V}(h:st.lend x=I (xs,st')){aF:cB}{t:Expr}(a5:tgt aF t):
  wpAny (model a4 w) A (pyIter u) (oq w ae A G W fm s x xs st' aF t) bL s:=by
 induction x using X.casesOn with
 |v v=>
  obtain⟨aS,aL,aa⟩:=aU (show(kp v).bind _=I (xs,st')from h);obtain⟨_,ab⟩:=c1 aa;cases ab
  rcases y8 aL with rfl|rfl
  ·obtain⟨vs,l,k,rfl,f,bO⟩:=lst_inv r;have p:=R.cD _ _ f;obtain⟨P,d5,cS,T⟩:=FD ax R a5 ⟨k,p⟩ bO (.inl ⟨_,f⟩);exact wpAny_pyIter_list ⟨_,p,rfl,_,rfl⟩ ⟨_,W,G,_,_,_,P,d5,cS,rfl,.rfl,R.keep (k:=s.toks) fun b o e=>Heap.get?_push_of_some _ e,rfl,T,rfl⟩
  ·obtain⟨vs,l,k,rfl,f,bO⟩:=y0 r;have p:=R.cD _ _ f;obtain⟨P,d5,cS,T⟩:=PD ax R a5 p bO (.inl ⟨_,f⟩);exact wpAny_pyIter_tuple ⟨_,p,rfl,_,rfl⟩ ⟨_,W,G,_,_,_,P,d5,cS,rfl,.rfl,R.keep (k:=s.toks) fun b o e=>Heap.get?_push_of_some _ e,rfl,T,rfl⟩
 |cell i=>obtain⟨aS,i3,aa⟩:=aU (show(st.lst i).bind _=I (xs,st')from h);obtain⟨_,ab⟩:=c1 aa;cases ab;have ah:=n9 i3;obtain⟨q,aE,rfl⟩:=r;obtain⟨e,vs,⟨k,p⟩,bO⟩:=R.cells _ _ _ ah aE;have L:=R.lend ah aE p;obtain⟨P,d5,cS,T⟩:=FD ax L a5 ⟨k,p⟩ bO (.inr ⟨_,.inr ⟨rfl,rfl⟩⟩);erw[show q.1=q.2 from e];exact wpAny_pyIter_list ⟨_,p,rfl,_,rfl⟩ ⟨_,W,_,_,_,_,P,d5,cS,rfl,.rfl,L.keep (k:=s.toks) fun b o e=>Heap.get?_push_of_some _ e,rfl,T,q,vs,k,aE,e,bO,rfl,R.eB q.2 (.hp i _ q ⟨ah,rfl,aE⟩ rfl),R.g9 ⟨ah,rfl,aE⟩⟩
theorem PQ{a b:Int}(aa: -100000≤a∧a≤100000)(ab: -100000≤b∧b≤100000):Builtin.Range.small a b 1=true:=small_one (d0 aa.1 rfl) (kY aa.2 rfl) (d0 ab.1 rfl) (kY ab.2 rfl)
noncomputable def zP:List (String×Value):=[("enumerate",.type "enumerate"),("zip",.type "zip"),("range",.type "range")]
theorem PR(P:Params):(zP.all (vm P))=true:=by kernel_rfl
theorem PS(aQ:cH w ae cb cm)(R:Rel w ae G W fm st s)(hf:dw cx fm){x:Str}(aC:cx.gl x=true){y:String}{v:Value}(aV:(y,v)∈zP)(a5:c9 x y=true){pos:Pos}{Q:Value→Shared→Prop}(h:Q v s):
  wpAny (model a4 w) A (eval (.Name x pos) fm.env) Q bL s:=
 sO aQ R hf aC ⟨y,beq_iff_eq.mp a5,h1.mp (PR w.params) _ aV⟩ h
theorem FJ{s':Shared}{st1:St}{W1:a3}{sT FK FL:Value}{a b:Int}{h:Heap}{k:Nat}{aF:cB}{t:Expr}(ax:A.handled=J)(aZ:Rel w ae G W1 fm st1 s')(aM:W.le W1)(a0:s'.os=s.os)(a5:tgt aF t)
  (e:h=s'.heap.push {cls:=.type "range",data:=.fields #[sT,FK,FL]}) (aa: -100000≤a∧a≤100000) (ab: -100000≤b∧b≤100000) {t1 e1 t3:Tok} (bT:sT= .int a t1:=by rfl) (cV:FK= .int b e1:=by rfl) (jq:FL= .int 1 t3:=by rfl):
  wpAny (model a4 w) A (pyIter (.ref s'.heap.objs.size)) (oq w ae A G W fm s (.v .bB) (gM a b) st1 aF t) bL {s' with heap:=h,toks:=k}:=by
 subst e bT cV jq;have cy:=aZ.keep (h':=s'.heap.push {cls:=.type "range",data:=.fields #[.int a t1,.int b e1,.int 1 t3]}) (k:=k) fun b o e=>Heap.get?_push_of_some _ e;refine wpAny_pyIter_range (s:={s' with heap:=s'.heap.push {cls:=.type "range",data:=.fields #[.int a t1,.int b e1,.int 1 t3]},toks:=k}) (Heap.get?_push_size _ rfl) (PQ aa ab) ?_;obtain⟨P,d5,cS,T⟩:=PN ax cy a5 (a:=a) (b:=b);exact⟨_,W1,G,_,_,_,P,d5,cS,rfl,aM,cy.keep (k:=k) fun b o e=>Heap.get?_push_of_some _ e,a0,T,rfl⟩
theorem vu{a:ao}{x:X}(bT:aj C a st=I (x,st')):dq C (.cons a .nil) st=I ([x],st'):=by show aY (aj C a st) _=_;erw[bT];rfl
theorem FN{a b:ao}{x y:X}{s1:St}(bT:aj C a st=I (x,s1))(cV:aj C b s1=I (y,st')):dq C (.cons a (.cons b .nil)) st=I ([x,y],st'):=by
 have h:aY (dq C (.cons b .nil) s1) (fun xs st=>I (x::xs,st))=I ([x,y],st'):=by erw[vu cV];rfl
 show aY (aj C a st) _=_;erw[bT];exact h
theorem sU{i:Int}(h:inR i=true): -100000≤i∧i≤100000:=by obtain⟨a,b⟩:=cI.mp h;exact⟨of_decide_eq_true a,of_decide_eq_true b⟩
noncomputable def pK(w:World)(ae:Heap)(A:Around)(G:Addr→Obj→Prop)(W:a3)(fm:bS)(s:Shared)(it:Expr)(x:X)(xs:List V)(st':St)(aF:cB)(t:Expr):Prop:=wpAny (model a4 w) A (eval it fm.env) (fun u s₁=>wpAny (model a4 w) A (pyIter u) (oq w ae A G W fm s x xs st' aF t) bL s₁) bL s
theorem PT(ax:d1 n A)(hf:dw cx fm)(R:Rel w ae G W fm st s){it t:Expr}{aH:ao}{aF:cB}{x:X}{xs:List V}(hit:bj w ae C n cx it)(ce:aW cx it=I aH)(a5:tgt aF t)(aN:fi C (.of aH) st=I (x,xs,st')):pK w ae A G W fm s it x xs st' aF t:=by obtain⟨y,s1,ee,aa⟩:=b2 (show aY (aj C aH st) (fun x st=>(st.lend x).map fun p=>(x,p.1,p.2))=I (x,xs,st')from aN);obtain⟨p,pL,ab⟩:=omap aa;cases ab;exact dk (hit ce ax hf R ee) fun u s₁ W1 aM aZ a7 a0=>wpAny_mono (PO ax.h aZ a7 pL a5) (fun ag ag q=>q.step aM a0) fun ag ag x=>x
section
variable{f:Str}{bq p:Pos}{as:List Expr}{t:Expr}{aF:cB}{x:X}{xs:List V}(aQ:cH w ae cb cm)(ax:d1 n A)(hf:dw cx fm)(R:Rel w ae G W fm st s)(fu:∀e,e∈as→bj w ae C n cx e)(a5:tgt aF t)
include aQ ax hf R fu a5
theorem vv{y:String}{v:Value}{bg:az}{zs:List X}(hC:dv cx as=I bg)(aK:(cx.gl f&&c9 f y)=true)(hm:(y,v)∈zP)(aJ:∃i,v= .type i)(ex:dq C bg st=I (zs,st'))
  (k:∀us W' s',W.le W'→Rel w ae G W' fm st' s'→s'.os=s.os→cM W' zs us→wpAny (model a4 w) A (call v us) (fun u s₁=>wpAny (model a4 w) A (pyIter u) (oq w ae A G W fm s x xs st' aF t) bL s₁) bL s'):pK w ae A G W fm s (.Call (.Name f bq) as [] p) x xs st' aF t:=by
 obtain⟨aK,aV⟩:=cI.mp aK;exact Call_ (PS aQ R hf aK hm aV (zG fu hC ax hf R ex (.inr aJ) k))
theorem PU{a:ao}(hC:dv cx as=I (.cons a .nil))(aK:(cx.gl f&&c9 f "enumerate")=true)(gP:mP aF (.enum a)=true)(aN:fi C (.enum a) st=I (x,xs,st')):pK w ae A G W fm s (.Call (.Name f bq) as [] p) x xs st' aF t:=by
 obtain⟨z,s1,bT,aa⟩:=b2 (show aY (aj C a st) (fun x st=>(xL x).bind fun xs=>if fit xs.length then I (X.v .bB,pairs 0 xs,st)else J)=I (x,xs,st')from aN);obtain⟨aS,bw,ab⟩:=aU aa;obtain⟨_,aq⟩:=c1 ab;obtain rfl:=va bw;cases aq;refine vv aQ ax hf R fu a5 hC aK (.head _) ⟨_,rfl⟩ (vu bT) fun us W1 s' aM aZ a0 a7=>?_;obtain⟨u,rfl,eV⟩:=a7.one;obtain⟨vs,l,k,rfl,cD,bO⟩:=lst_inv eV;have iB:s'.heap.PlainList l vs.toArray:=⟨k,aZ.cD _ _ cD⟩
 refine call_enumerate_list iB.isList fun h' he hit k' ai=>?_
 induction aF using cB.casesOn with
 |one=>cases gP
 |many is=>obtain⟨es,jr,dp,rfl⟩:=a5;obtain⟨P,d5,cS,T⟩:=PG (h':=h') (is:=is) (es:=es) (k:=jr) (p:=dp) ax.h aZ iB bO (.inl ⟨_,cD⟩) he hit ai;exact wpAny_pyIter_enum he ⟨_,W1,G,_,_,_,P,d5,cS,rfl,aM,aZ.keep (k:=s'.toks) ai,a0,T,rfl⟩
theorem PV{a b:ao}(hC:dv cx as=I (.cons a (.cons b .nil)))(aK:(cx.gl f&&c9 f "zip")=true)(gP:mP aF (.zip a b)=true)(aN:fi C (.zip a b) st=I (x,xs,st')):pK w ae A G W fm s (.Call (.Name f bq) as [] p) x xs st' aF t:=by
 obtain⟨z,s1,bT,aa⟩:=b2 (show aY (aj C a st) (fun x st=>(xL x).bind fun xs=>aY (aj C b st) fun y st=>(xL y).bind fun aS=>if fit (xs.length+aS.length)then I (X.v .bB,k2 xs aS,st)else J)=I (x,xs,st')from aN);obtain⟨aS,bw,ab⟩:=aU aa;obtain⟨mf,s2,cV,aq⟩:=b2 ab;obtain⟨zs,k9,ba⟩:=aU aq;obtain⟨_,b0⟩:=c1 ba;clear aN aa ab aq ba;obtain rfl:=va bw;obtain rfl:=va k9;cases b0;refine vv aQ ax hf R fu a5 hC aK (.tail _ (.head _)) ⟨_,rfl⟩ (FN bT cV) fun us W1 s' aM aZ a0 a7=>?_;obtain⟨u,v,rfl,eV,bO⟩:=a7.two;obtain⟨vs,l,k,rfl,cD,PW⟩:=lst_inv eV;obtain⟨us,bt,ft,rfl,FO,PX⟩:=lst_inv bO;have iB:s'.heap.PlainList l vs.toArray:=⟨k,aZ.cD _ _ cD⟩
 have FP:s'.heap.PlainList bt us.toArray:=⟨ft,aZ.cD _ _ FO⟩
 refine call_zip_2 iB.isList FP.isList fun h' ia mf lh jv PY k' ai=>?_
 induction aF using cB.casesOn with
 |one=>cases gP
 |many is=>obtain⟨es,jr,dp,rfl⟩:=a5;obtain⟨P,d5,cS,T⟩:=PI (h':=h') (is:=is) (es:=es) (k:=jr) (p:=dp) ax.h aZ iB FP PW PX (.inl ⟨_,cD⟩) (.inl ⟨_,FO⟩) ia mf lh jv PY ai;exact wpAny_pyIter_zip ia ⟨_,W1,G,_,_,_,P,d5,cS,rfl,aM,aZ.keep (k:=s'.toks) ai,a0,T,rfl⟩
theorem src_range{b:ao}(hC:dv cx as=I (.cons b .nil))(aK:(cx.gl f&&c9 f "range")=true)(aN:fi C (.range b) st=I (x,xs,st')):pK w ae A G W fm s (.Call (.Name f bq) as [] p) x xs st' aF t:=by obtain⟨z,s1,bT,aa⟩:=b2 (show aY (aj C b st) (fun y st=>(fJ y).bind fun n=>if inR n then I (X.v .bB,gM 0 n,st)else J)=I (x,xs,st')from aN);obtain⟨m,bw,ab⟩:=aU aa;obtain⟨hm,aq⟩:=c1 ab;obtain rfl:=l9 bw;cases aq;refine vv aQ ax hf R fu a5 hC aK (.tail _ (.tail _ (.head _))) ⟨_,rfl⟩ (vu bT) fun us W1 s' aM aZ a0 a7=>?_;obtain⟨u,rfl,eV⟩:=a7.one;obtain⟨t',rfl⟩:=hP eV;exact call_range_1 (FJ ax.h aZ aM a0 a5 rfl ⟨by decide,by decide⟩ (sU hm))
theorem PZ{a b:ao}(hC:dv cx as=I (.cons a (.cons b .nil)))(aK:(cx.gl f&&c9 f "range")=true)(aN:fi C (.lX a b) st=I (x,xs,st')):pK w ae A G W fm s (.Call (.Name f bq) as [] p) x xs st' aF t:=by obtain⟨z,s1,bT,aa⟩:=b2 (show aY (aj C a st) (fun x st=>(fJ x).bind fun m=>aY (aj C b st) fun y st=>(fJ y).bind fun n=>if inR m&&inR n then I (X.v .bB,gM m n,st)else J)=I (x,xs,st')from aN);obtain⟨m,bw,ab⟩:=aU aa;obtain⟨mf,s2,cV,aq⟩:=b2 ab;obtain⟨ma,k9,ba⟩:=aU aq;obtain⟨hm,b0⟩:=c1 ba;clear aN aa ab aq ba;obtain rfl:=l9 bw;obtain rfl:=l9 k9;obtain⟨hm,vw⟩:=cI.mp hm;cases b0;refine vv aQ ax hf R fu a5 hC aK (.tail _ (.tail _ (.head _))) ⟨_,rfl⟩ (FN bT cV) fun us W1 s' aM aZ a0 a7=>?_;obtain⟨u,v,rfl,eV,bO⟩:=a7.two;obtain⟨t',rfl⟩:=hP eV;obtain⟨sV,rfl⟩:=hP bO;exact call_range_2 (FJ ax.h aZ aM a0 a5 rfl (sU hm) (sU vw))
end
inductive sW(cx:bV)(f:Str)(bg:az)(src:Src):Prop where
 |enum (a:ao) (e:bg= .cons a .nil) (h:(cx.gl f&&c9 f "enumerate")=true) (au:src= .enum a):sW cx f bg src
 |range (a:ao) (e:bg= .cons a .nil) (h:(cx.gl f&&c9 f "range")=true) (au:src= .range a):sW cx f bg src
 |zip (a b:ao) (e:bg= .cons a (.cons b .nil)) (h:(cx.gl f&&c9 f "zip")=true) (au:src= .zip a b):sW cx f bg src
 |lX (a b:ao) (e:bg= .cons a (.cons b .nil)) (h:(cx.gl f&&c9 f "range")=true) (au:src= .lX a b):sW cx f bg src
theorem P0{f:Str}{bg:az}{src:Src}(h:yB cx f bg=I src):sW cx f bg src:=by
 induction bg using az.casesOn with
 |nil=>exact cQ h
 |cons a r=>
 induction r using az.casesOn with
 |nil=>
  rcases h3 h with⟨aK,e⟩|h
  ·exact .enum a rfl aK (Option.some.inj e).symm
  ·obtain⟨aK,e⟩:=c1 h;exact .range a rfl aK (Option.some.inj e).symm
 |cons b r=>
 induction r using az.casesOn with
 |cons=>exact cQ h
 |nil=>
  rcases h3 h with⟨aK,e⟩|h
  ·exact .zip a b rfl aK (Option.some.inj e).symm
  ·obtain⟨aK,e⟩:=c1 h;exact .lX a b rfl aK (Option.some.inj e).symm
theorem P1{it:Expr}{f:Str}(h:nameOf it=I f):∃bq args a8 p,it= .Call (.Name f bq) args a8 p:=by
 induction it using Expr.casesOn with
 |Call g args a8 p=>
  induction g using Expr.casesOn with
  |Name x bq=>cases h;exact⟨bq,args,a8,p,rfl⟩
  |_=>exact cQ h
 |_=>exact cQ h
theorem FQ(aQ:cH w ae cb cm)(ax:d1 n A)(hf:dw cx fm)(R:Rel w ae G W fm st s){it t:Expr}{src:Src}{aF:cB}{x:X}{xs:List V}(hit:bj w ae C n cx it)(fu:∀f as p,it= .Call f as [] p→∀e,e∈as→bj w ae C n cx e)
  (ah:l0 cx it (aW cx it) (mR cx it)=I src) (a5:tgt aF t) (gP:mP aF src=true) (aN:fi C src st=I (x,xs,st')):pK w ae A G W fm s it x xs st' aF t:=by
 cases vx:(nameOf it).bind fun f=>(mR cx it).bind (yB cx f)with
 |none=>
  have ah:(aW cx it).map Src.of=I src:=by erw[←ah];unfold l0;erw[vx]
  obtain⟨aH,ce,rfl⟩:=omap ah;exact PT ax hf R hit ce a5 aN
 |some P2=>
  have ah:I P2=I src:=by erw[←ah];unfold l0;erw[vx]
  cases ah;obtain⟨f,P4,aa⟩:=aU vx;obtain⟨bg,P5,ab⟩:=aU aa;clear vx aa;obtain⟨bq,args,a8,p,rfl⟩:=P1 P4;obtain⟨zQ,hC⟩:=c1 (show(if a8.isEmpty then dv cx args else J)=I bg from P5);obtain rfl:=kk.mp zQ;have aB:=fu _ _ _ rfl;cases P0 ab with
  |enum a e aK au=>subst e au;exact PU aQ ax hf R aB a5 hC aK gP aN
  |range a e aK au=>subst e au;exact src_range aQ ax hf R aB a5 hC aK aN
  |zip a b e aK au=>subst e au;exact PV aQ ax hf R aB a5 hC aK gP aN
  |lX a b e aK au=>subst e au;exact PZ aQ ax hf R aB a5 hC aK aN
end
end
end Tactic
end
section
open PySem PySem.W PySem.Calls PyProof.Rows PySem.SeqAt
namespace Tactic
noncomputable section
section
variable{cx:bV}{A:Around}{G dJ:Addr→Obj→Prop}{W W' W1:a3}{fm fm':bS}{st st' st1:St}{s:Shared}
theorem q1{x:Str}{i:Nat}(h:cx.ak x=I i):cx.vars.lookup x=I i∧c9 x "__debug__"=false∧x ∉ cx.frees:=by refine bC (fun aA h=>?_) (ht h);refine bC (fun a b=>?_) (u9 h);exact⟨a,b,by simpa using aA⟩
theorem zR(R:Rel w ae G W fm st s)(hf:dw cx fm){x:Str}{i:Nat}(aC:cx.ak x=I i){v:X}{u:Value}(r:b8 W v u){E:Value→Shared→Prop}:
  wpAny (model a4 w) A (storeName fm.env x u) (fun ag s'=>Rel w ae G W fm (st.f' i v) s'∧s'.os=s.os) E s:=by
 obtain⟨aC,_,zS⟩:=q1 aC;have sL:fm.vars.lookup x=I i:=by erw[hf.vars];exact aC
 have l5:∀y j,fm.vars.lookup y=I j→j=i→y=x:=by rintro y j h rfl;rw[hf.vars]at h;exact hf.inj y x _ h aC
 rcases hf.ej x i aC with ai|ai|⟨_,_,h⟩
 ·obtain⟨m,hm,_⟩:=R.ns;exact wpAny_storeName_local (bS.n5 ai (by decide)) hm (fun h' hy fL=>⟨R.NA sL ai l5 r hm hy fL,rfl⟩) (by erw[hf.kind];rfl)
 ·obtain⟨c,fK,e,_,f,g⟩:=R.jn x i sL ai;refine wpAny_storeName_cell hf.kind (bS.n5 ai (by decide)) e f fun h' P6 fL=>⟨?_,rfl⟩;exact R.NB (k:=s.toks) sL ai e l5 (fun y j aa ab aq=>(hf.apart x y i j c aC (by erw[←hf.vars];exact aa) e aq ai ab).symm) r P6 fL
 ·exact absurd h zS
theorem vy(R:Rel w ae G W fm st s)(hf:dw cx fm){x:Str}{i:Nat}{p:Pos}(aC:cx.ak x=I i){v:X}{u:Value}(r:b8 W v u){E:Value→Shared→Prop}:
  wpAny (model a4 w) A (assign (.Name x p) fm.env u) (fun ag s'=>Rel w ae G W fm (st.f' i v) s'∧s'.os=s.os) E s:=wpAny_assign_Name (zR R hf aC r)
theorem zT{e:Expr}{es:List Expr}{is:List Nat}(h:lZ cx (e::es)=I is):∃x p i r,e= .Name x p∧cx.ak x=I i∧lZ cx es=I r∧is=i::r:=by
 induction e using Expr.casesOn with
 |Name x p=>obtain⟨i,aa,h⟩:=aU (show(cx.ak x).bind _=I is from h);obtain⟨zU,ab,e⟩:=omap h;exact⟨x,p,i,zU,rfl,aa,ab,e.symm⟩
 |_=>exact cQ h
theorem P7(hf:dw cx fm){E:Value→Shared→Prop}{es:List Expr}:∀{is:List Nat} {us:List V} {vals:List Value} {st:St} {s:Shared},lZ cx es=I is→Rel w ae G W fm st s→b5 W us vals→is.length=us.length→wpAny (model a4 w) A (assignInOrder ((assignEach es fm.env).map (·.2)) vals) (fun ag s'=>Rel w ae G W fm (iw is (us.map .v) st) s'∧s'.os=s.os) E s:=by
 induction es with
 |nil=>intro is us vals st s h R r ar;cases Option.some.inj (show I []=I is from h);cases o5 ar.symm;erw[r.u3];exact wpAny_pure ⟨R,rfl⟩
 |cons e es aG=>
  intro is us vals st s h R r ar;obtain⟨x,p,i,zU,rfl,aa,ab,rfl⟩:=zT h
  induction us using bY with
  |nil=>cases ar
  |cons u us=>obtain⟨v,vs,rfl,a7,b3⟩:=r.so;refine wpAny_bind (wpAny_holding (wpAny_mono (vy (v:=.v u) R hf aa a7) (fun ag s' q=>?_) fun ag ag x=>x));refine wpAny_mono (aG ab q.1 b3 (Nat.succ.inj ar)) (fun ag mg gu=>?_) fun ag ag x=>x;exact⟨gu.1,gu.2.trans q.2⟩
theorem P8{env:Env}{es:List Expr}:∀{is:List Nat},lZ cx es=I is→(assignEach es env).length=is.length∧(assignEach es env).findIdx? (·.1)=J:=by
 induction es with
 |nil=>intro is h;cases Option.some.inj (show I []=I is from h);exact⟨rfl,rfl⟩
 |cons e es aG=>intro is h;obtain⟨x,p,i,zU,rfl,aa,ab,rfl⟩:=zT h;obtain⟨a,b⟩:=aG ab;have ay:assignEach (.Name x p::es) env=(false,assign (.Name x p) env)::assignEach es env:=rfl;erw[ay];exact⟨congrArg (· +1) a,by erw[Z3,b];rfl⟩
theorem zV(ax:A.handled=J)(R:Rel w ae G W fm st s)(hf:dw cx fm){t:Expr}{aF:cB}(a5:jV cx t=I aF){fb:V}{v:Value}(aJ:vq W s.heap aF fb v)(bf:hM aF fb st=I st'){E:Value→Shared→Prop}:
  wpAny (model a4 w) A (assign t fm.env v) (fun ag s'=>Rel w ae G W fm st' s'∧s'.os=s.os) E s:=by
 induction t using Expr.casesOn with
 |Name x p=>obtain⟨i,aw,rfl⟩:=omap (show(cx.ak x).map cB.one=I aF from a5);cases bf;exact vy (v:=.v fb) R hf aw aJ
 |Tuple es k p=>obtain⟨is,aw,rfl⟩:=omap (show(lZ cx es).map cB.many=I aF from a5);obtain⟨us,vals,T,rfl,rfl,d',r⟩:=aJ;obtain⟨vs,vz,rfl⟩:=omap (show(yu is.length (.tup us)).map _=I st' from bf);obtain⟨ar,e⟩:=c1 (show(if is.length=us.length then I us else J)=I vs from vz);cases e;obtain⟨a,b⟩:=P8 (env:=fm.env) aw;refine wpAny_assign_Tuple ax d' (by erw[a,ar,jg,r.1]) b fun h' ai=>?_;exact P7 hf aw (R.keep (h':=h') (k:=s.toks) fun b o e=>ai b o (kg (Heap.lt_size e)) e) r ar
 |_=>exact cQ a5
theorem FR{aF:cB}{fb:V}(h:hM aF fb st=I st'):vr aF fb:=by
 induction aF using cB.casesOn with
 |one i=>trivial
 |many is=>obtain⟨vs,aa,_⟩:=omap (show(yu is.length fb).map _=I st' from h);obtain⟨us,ab,_⟩:=aU aa;exact⟨us,u' ab⟩
end
end
end Tactic
end
section
open PySem PySem.W PySem.Calls PyProof.Rows PySem.SeqAt
namespace Tactic
noncomputable section
section
variable{cx:bV}{A:Around}{G dJ:Addr→Obj→Prop}{W W' W1:a3}{fm fm':bS}{st st' st1:St}{s:Shared}
theorem Rel.P9{sX:a3}{hA:St}{s0:Shared}(yV:Rel w ae G sX fm hA s0){E:List (Addr×Obj)}(R:Rel w ae (iZ G E) W fm st s):Rel w ae G W fm st s:=by refine R.yU (fun ag ag g=>.inl g) fun x i a b=>?_;obtain⟨c,v,o,e,g,d,r⟩:=R.jo x i a b;obtain⟨dr,fK,br,e4,ot,sx,_⟩:=yV.jo x i a b;cases e.symm.trans e4;cases (R.e3 c o g).symm.trans (R.e3 c br (.inl ot));exact⟨c,v,o,e,ot,d,r⟩
noncomputable def vA(h:Heap)(l:List Addr):List (Addr×Obj):=l.filterMap fun b=>(h.get? b).map fun o=>(b,o)
theorem vB{h:Heap}{l:List Addr}{a:Addr}{o:Obj}:(a,o)∈vA h l↔a∈l∧h.get? a=I o:=by
 unfold vA;erw[qr]
 constructor
 ·rintro⟨b,ae,e⟩;obtain⟨br,aa,ab⟩:=ZV.mp e;cases ab;exact⟨ae,aa⟩
 ·rintro⟨aa,ab⟩;exact⟨a,aa,by erw[ab];rfl⟩
theorem Rel.FT(R:Rel w ae G W fm st s){l:List Addr}(off:∀b∈l,Off G W fm st b):Rel w ae (iZ G (vA s.heap l)) W fm st s:=R.i0 fun a o h=>by obtain⟨aa,ab⟩:=vB.mp h;exact⟨ab,(off a aa).o,(off a aa).f⟩
theorem Rel.vC(R:Rel w ae G W fm st s){wr:List Addr}(off:∀b∈wr,Off G W fm st b){h':Heap}{k:Nat}(ai:∀b o,b ∉ wr→s.heap.get? b=I o→h'.get? b=I o):Rel w ae G W fm st {s with heap:=h',toks:=k}:=R.u5 fun b o e h=>ai b o (fun hw=>(off b hw).ne h rfl) e
theorem FU{hA:St}{h0:Heap}{cc:Addr}{aF:cB}{target:Expr}{xs:List V}{bq ea wr:List Addr}{P d5:Nat→Value→Heap→Prop}{cS:Nat→Heap→Prop}(T:lg w A dJ W1 fm' hA h0 cc aF target xs bq ea wr P d5 cS){i:Nat}{fb:V}(aC:xs[i]? =I fb)(P':vr aF fb)
  (R:Rel w ae G W fm st s) (hle:W1.le W) (aL:cS i s.heap) (off:∀b∈ea,Off G W fm st b) {E:Value→Shared→Prop} {Q:Option Value→Shared→Prop} {Q2:Value→Shared→Prop}
  (cR:∀v s₁,wpAny (model a4 w) A (letOwnedTupleGo target (.ref cc) v) (fun ag s'=>Q2 v s') E s₁→Q (I v) s₁)
  (h:∀v h' tk,Rel w ae G W fm st {s with heap:=h',toks:=tk}→cS (i+1) h'→vq W h' aF fb v→(∀b o,b ∉ wr→s.heap.get? b=I o→h'.get? b=I o)→Q2 v {s with heap:=h',toks:=tk}):
  wpAny (model a4 w) A (pyNext (.ref cc)) Q E s:=by
 have FV:∀b∈wr,Off G W fm st b:=fun b bf=>off b (T.wr b bf);have aw:i<xs.length:=(d7.mp aC).1;refine T.K.item i s _ _ aw aL fun v aa tk ib ai=>cR v _ ?_;refine T.K.go i v {s with heap:=aa,toks:=tk} _ _ ib fun ab dM fM zW=>?_;have cy:=(R.vC (k:=tk) FV ai).vC (k:=tk) FV zW;refine h v ab tk cy fM ?_ fun b o bf e=>zW b o bf (ai b o bf e);have:=T.item i v ab fb aC dM (fun a o f=>cy.cD a o (hle.F a o f)) P'
 induction aF using cB.casesOn with
 |one j=>exact dc.mono hle this
 |many is=>obtain⟨us,vals,Qa,ay,au,d',r⟩:=this;exact⟨us,vals,Qa,ay,au,d',r.mono hle⟩
theorem zX{hA st2:St}{cN:a3}{s2:Shared}{h0:Heap}{cc:Addr}{aF:cB}{target:Expr}{xs:List V}{bq ea wr L:List Addr}{P d5:Nat→Value→Heap→Prop}{cS:Nat→Heap→Prop}(T:lg w A dJ W1 fm' hA h0 cc aF target xs bq ea wr P d5 cS){i:Nat}
  (dF:∀a o,dJ a o→G a o) (R:Rel w ae G W fm st s) (hle:W1.le W) (aL:cS i s.heap) (cv:∀b∈ea,b∈L) (off:∀b∈L,Off G W fm st b) (alive:∀b∈L,∃o,s.heap.get? b=I o) (Qb:W.le cN) (cy:Rel w ae (iZ G (vA s.heap L)) cN fm st2 s2):
  Rel w ae G cN fm st2 s2∧cS i s2.heap∧(∀b∈L,Off G cN fm st2 b)∧∀b∈L,s2.heap.get? b=s.heap.get? b:=by
 refine⟨Rel.P9 R cy,T.K.frame _ _ _ aL fun b bf o e=>?_,fun b bf=>by obtain⟨o,e⟩:=alive b bf;exact cy.zr (vB.mpr ⟨bf,e⟩) (off b bf).g,fun b bf=>?_⟩
 ·rcases T.bq b bf with h|⟨br,f⟩|⟨br,g⟩
  ·exact cy.e3 b o (.inr (vB.mpr ⟨cv b h,e⟩))
  ·have aa:=R.cD b br (hle.F _ _ f);rw[e]at aa;cases aa;exact cy.cD b o (Qb.F _ _ (hle.F _ _ f))
  ·have aa:=R.e3 b br (dF _ _ g);rw[e]at aa;cases aa;exact cy.e3 b o (.inl (dF _ _ g))
 ·refine f7 (alive b bf) fun o e=>?_;erw[e];exact cy.e3 b o (.inr (vB.mpr ⟨bf,e⟩))
end
end
end Tactic
end
section
open PySem PySem.W PySem.Calls PyProof.Rows PySem.SeqAt
namespace Tactic
noncomputable section
section
variable{prog:Program}{A:Around}{E:Value→Shared→Prop}{R:Result→Shared→Prop}{s:Shared}
theorem Qc{elt target iter:Expr}{ifs:List Expr}{scope:Scope}{pos:Pos}{it acc:Value}{env:Env}(cc:Nat→Shared→Prop)
  (turn:∀n s,cc n s→wpAny (model prog w) A (pyNext it) (fun r s₁=>match r with
   |none=>R (.ok .next) s₁
   |some v=>wpAny (model prog w) A (letOwnedTupleGo target it v) (fun ag s₁'=>wpAny (model prog w) A (assign target env v) (fun ag s₂=>
     wpAny (model prog w) A (forIn ifs true fun c r=>if r=true then do let ok←isTrue c env (eval c env);pure (lP ok)else pure (lP r)) (fun ok gO=>
      if ok=true then wpAny (model prog w) A (eval elt env) (fun x pM=>
       wpAny (model prog w) A (call (.builtin "list.append") [acc,x]) (fun ag sY=>∃m,m<n∧cc m sY) bL pM) bL gO
      else∃m,m<n∧cc m gO) bL s₂) bL s₁') bL s₁) bL s)
  (n:Nat) (h:cc n s):
  codeAny (model prog w) A (.compLoop (.ListComp elt [⟨target,iter,ifs,0⟩] scope pos) 0 it acc env) R s:=by
 refine codeAny_loop rfl cc (fun n s q2=>?_) n h;show wpAny _ A ((compTurn (.ListComp elt [⟨target,iter,ifs,0⟩] scope pos) 0 it acc env).onRaise (fun x=>do noteFrame x env;theTreesLotGoes x)) _ _ s;refine wpAny_noted ?_;rw[compTurn_list];refine wpAny_bind (wpAny_standAt (wpAny_bind (wpAny_mono (turn n s q2) (fun r s₁ h₁=>?_) fun ag ag h'=>h'.elim)))
 induction r using gJ with
 |none=>exact wpAny_pure h₁
 |some v=>
  refine wpAny_bind (wpAny_mono h₁ (fun ag s₁' h₁'=>?_) fun ag ag h'=>h'.elim);refine wpAny_bind (wpAny_mono h₁' (fun ag s₂ h₂=>wpAny_bind (wpAny_mono h₂ (fun ok gO vi=>?_) fun ag ag h'=>h'.elim)) fun ag ag h'=>h'.elim)
  induction ok using hK with
  |false=>exact wpAny_pure ⟨rfl,vi⟩
  |true=>exact wpAny_bind (wpAny_bind (wpAny_mono vi (fun x pM Qd=>wpAny_bind (wpAny_mono Qd (fun ag sY Qe=>wpAny_pure (wpAny_pure ⟨rfl,Qe⟩)) fun ag ag h'=>h'.elim)) fun ag ag h'=>h'.elim))
end
end
end Tactic
end
section
open PySem PySem.W PySem.Calls PyProof.Rows PySem.SeqAt
namespace Tactic
noncomputable section
section
variable{cx:bV}{A:Around}{G dJ:Addr→Obj→Prop}{W W' W1:a3}{fm fm' m5:bS}{st st' st1:St}{s:Shared}
inductive CompI(w:World)(ae:Heap)(G:Addr→Obj→Prop)(W:a3)(fm:bS)(s:Shared)(d6:St)(test:St→Option (Bool×St))(gv:St→Option (V×St))(aF:cB)(xs aS:List V)(ea:List Addr)(cS:Nat→Heap→Prop)(acc:Addr)(k:Nat)(s':Shared):Prop where
 |mk (i:Nat) (st:St) (W':a3) (done:List V) (vs:List Value) (rest:List V) (e:k=xs.length+1-i) (aw:i≤xs.length) (aN:fh aF test gv (xs.drop i) st=I (rest,d6)) (l:W.le W') (R:Rel w ae G W' fm st s') (aL:cS i s'.heap) (off:∀b∈ea,Off G W' fm st b) (ou:Off G W' fm st acc)
   (pN:s'.heap.PlainList acc (mG vs)) (bO:b5 W' done vs) (sZ:done++rest=aS) (zY:vs.length≤i) (o:s'.os=s.os):CompI w ae G W fm s d6 test gv aF xs aS ea cS acc k s'
inductive zZ(aF:cB)(test:St→Option (Bool×St))(gv:St→Option (V×St))(v:V)(vs:List V)(st:St)(aS:List V)(d6:St):Prop where
 |no (st1:St) (ae:hM aF v st=I st1) (st2:St) (a5:test st1=I (false,st2)) (h:fh aF test gv vs st2=I (aS,d6)):zZ aF test gv v vs st aS d6
 |yes (st1:St) (ae:hM aF v st=I st1) (st2:St) (a5:test st1=I (true,st2)) (y:V) (i4:St) (he:gv st2=I (y,i4)) (q3:List V) (h:fh aF test gv vs i4=I (q3,d6)) (e:aS=y::q3):zZ aF test gv v vs st aS d6
theorem FW{aF:cB}{test:St→Option (Bool×St)}{gv:St→Option (V×St)}{v:V}{vs aS:List V}{d6:St}(h:fh aF test gv (v::vs) st=I (aS,d6)):zZ aF test gv v vs st aS d6:=by
 obtain⟨st1,bf,aa⟩:=aU (show(hM aF v st).bind _=I (aS,d6)from h);obtain⟨b,st2,a5,ab⟩:=b2 aa
 induction b using hK with
 |false=>exact .no st1 bf st2 a5 ab
 |true=>obtain⟨y,i4,he,aq⟩:=b2 (sI ab);obtain⟨q3,aaD,av,ba⟩:=b2 aq;cases ba;exact .yes st1 bf st2 a5 y i4 he q3 av rfl
theorem Qf{elt target iter:Expr}{ifs:List Expr}{scope:Scope}{pos:Pos}{cc:Addr}{aF:cB}{xs aS:List V}{bq ea wr:List Addr}{P d5:Nat→Value→Heap→Prop}{cS:Nat→Heap→Prop}{hA d6:St}{h0:Heap}{acc:Addr}{kx:Result→Shared→Prop}
  {test:St→Option (Bool×St)} {gv:St→Option (V×St)}
  (T:lg w A dJ W1 m5 hA h0 cc aF target xs bq ea wr P d5 cS) (dF:∀a o,dJ a o→G a o) (hf:dw cx fm) (a5:jV cx target=I aF) (ax:d1 n A)
  (d':∀{G W st s b st'},Rel w ae G W fm st s→test st=I (b,st')→wpAny (model a4 w) A (forIn ifs true fun c r=>if r=true then do let ok←isTrue c fm.env (eval c fm.env);pure (lP ok)else pure (lP r)) (fun ok s'=>ok=b∧hx w ae G W fm s st' s') bL s)
  (hR:∀{G W st s v st'},Rel w ae G W fm st s→gv st=I (v,st')→wpAny (model a4 w) A (eval elt fm.env) (d9 w ae G W fm s st' (.v v)) bL s)
  (bw:xs.length≤200000) (R:Rel w ae G W fm st s) (hle:W1.le W) (aL:cS 0 s.heap) (off:∀b∈ea,Off G W fm st b) (ou:Off G W fm st acc) (ov:acc ∉ ea) (pN:s.heap.PlainList acc ([]:List Value).toArray)
  (aN:fh aF test gv xs st=I (aS,d6))
  (el:∀W' s' vs,W.le W'→Rel w ae G W' fm d6 s'→Off G W' fm d6 acc→s'.heap.PlainList acc (mG vs)→b5 W' aS vs→s'.os=s.os→kx (.ok .next) s'):
  codeAny (model a4 w) A (.compLoop (.ListComp elt [⟨target,iter,ifs,0⟩] scope pos) 0 (.ref cc) (.ref acc) fm.env) kx s:=by
 refine Qc (CompI w ae G W fm s d6 test gv aF xs aS ea cS acc) ?_ (xs.length+1) ⟨0,st,W,[],[],aS,rfl,fx _,aN,.rfl,R,aL,off,ou,pN,.nil,rfl,bE _,rfl⟩;clear aN R aL off ou pN;rintro k s' ⟨i,st,W',done,vs,rest,rfl,aw,aN,kC,R,aL,off,ou,pN,bO,sZ,zY,aO⟩;have FX:acc ∉ wr:=fun h=>ov (T.wr _ h);refine bZ (fun dQ:i<xs.length=>?_) (fun dQ=>?_)
 ·have aC:xs[i]? =I xs[i]:=gp dQ;rw[CM dQ]at aN;have h9:∃st1,hM aF xs[i] st=I st1:=by
   rcases FW aN with⟨st1,bf,_,_,_⟩|⟨st1,bf,_,_,_,_,_,_,_,_⟩<;>exact⟨st1,bf⟩
  refine FU T aC (h9.elim fun ag h=>FR h) R (hle.trans kC) aL off (Q2:=fun v s'=>wpAny (model a4 w) A (assign target fm.env v) (fun ag s₂=>
     wpAny (model a4 w) A (forIn ifs true fun c r=>if r=true then do let ok←isTrue c fm.env (eval c fm.env);pure (lP ok)else pure (lP r)) (fun ok gO=>
      if ok=true then wpAny (model a4 w) A (eval elt fm.env) (fun x pM=>
       wpAny (model a4 w) A (call (.builtin "list.append") [.ref acc,x]) (fun ag sY=>∃m,m<xs.length+1-i∧CompI w ae G W fm s d6 test gv aF xs aS ea cS acc m sY) bL pM) bL gO
      else∃m,m<xs.length+1-i∧CompI w ae G W fm s d6 test gv aF xs aS ea cS acc m gO) bL s₂) bL s') (fun v s₁ q=>q) fun v aa tk aZ q4 hit ai=>?_
  have FY:aa.PlainList acc (mG vs):=pN.at fun o e=>ai _ o FX e;clear h9 ai pN R aL;have cv:∀b∈acc::ea,Off G W' fm st b:=LH.mpr ⟨ou,off⟩;have alive:∀b∈acc::ea,∃o,aa.get? b=I o:=LH.mpr ⟨by obtain⟨k,e⟩:=FY;exact⟨_,e⟩,T.alive _ _ q4⟩;have vD:∀{ab:Heap},ab.get? acc=aa.get? acc→ab.PlainList acc (mG vs):=fun e=>by obtain⟨k,ay⟩:=FY;exact⟨k,e.trans ay⟩
  have vE:=aZ.FT cv;have lt:xs.length+1-(i+1)<xs.length+1-i:=uy (lN dQ) (ki i)
  rcases FW aN with⟨st1,h9,st2,z0,z1⟩|⟨st1,h9,st2,z0,y,i4,mh,q3,z1,aV⟩
  ·refine wpAny_mono (zV ax.h vE hf a5 hit h9) (fun ag s2 q=>l6 (d' q.1 z0) fun s3 h7 fa ek gd=>?_) fun ag ag x=>x;erw[if_neg rR];obtain⟨jw,z2,vF,same⟩:=zX T dF aZ (hle.trans kC) q4 (fun b h=>.tail _ h) cv alive fa ek;exact⟨_,lt,i+1,st2,h7,done,vs,rest,rfl,dQ,z1,kC.trans fa,jw,z2,fun b h=>vF b (.tail _ h),vF acc (.head _),vD (same acc (.head _)),bO.mono fa,sZ,rM zY,gd.trans (q.2.trans aO)⟩
  ·refine wpAny_mono (zV ax.h vE hf a5 hit h9) (fun ag s2 q=>l6 (d' q.1 z0) fun s3 h7 fa ek gd=>?_) fun ag ag x=>x;erw[if_pos rfl];refine dk (hR ek mh) fun u s4 FZ z3 jw z4 pE=>?_;have pO:=fa.trans z3;obtain⟨z5,Qg,F0,same⟩:=zX T dF aZ (hle.trans kC) q4 (fun b h=>.tail _ h) cv alive pO jw;have vG:=F0 acc (.head _);have F1:=kC.trans pO;refine wpAny_list_append_plain (vD (same acc (.head _))) (fun h' dp fL=>?_) (by erw[jg,sizeLine_eq];exact cz (bR ‹_› (bR ‹_› ‹_›)) rfl);refine⟨_,lt,i+1,i4,FZ,done++[y],vs++[u],q3,rfl,dQ,z1,F1,z5.vj (k:=s4.toks) vG fL,T.K.frame _ _ _ Qg fun b bf o e=>?_,fun b h=>F0 b (.tail _ h),vG,List.push_toArray vs u▸dp,(bO.mono pO).append (.cons z4 .nil),(eR ..).trans ((congrArg (done++ ·) aV).symm.trans sZ),bR (eQ b4) (je zY),pE.trans (gd.trans (q.2.trans aO))⟩;have iY:b≠acc:=fun e=>by
    have i2:acc∈bq:=e▸bf
    rcases T.bq _ i2 with h|⟨br,f⟩|⟨br,g⟩
    ·exact ov h
    ·exact vG.f _ ((hle.trans F1).F _ _ f)
    ·exact vG.g _ (dF _ _ g)
   exact(fL.2 b iY).trans e
 ·have e:i=xs.length:=rU aw (kU.mp dQ);rw[e,List.drop_length]at aN;rw[e]at aL;cases aN;rw[ei]at sZ;subst sZ;exact T.K.done s' _ _ aL fun h' tk ai=>el W' _ vs kC (R.vC (k:=tk) (fun b bf=>off b (T.wr b bf)) ai) ou (pN.at fun o e=>ai _ o FX e) bO aO
end
end
end Tactic
end
section
open PySem PySem.W PySem.Calls PyProof.Rows PySem.SeqAt
namespace Tactic
noncomputable section
theorem z6{α:Type}[BEq α][LawfulBEq α]:∀{l:List α},qJ l=true→l.Nodup:=by
 intro aT
 induction aT with
 |nil=>intro _;exact .nil
 |cons a r aD=>intro h;refine bC (fun aa ab=>?_) (cI.mp h);exact jf.mpr ⟨fun hm=>by(rw[qs.mpr hm]at aa;cases aa),aD ab⟩
theorem lj{β:Type}:∀{l:List (Str×β)} {x:Str} {k:β},(l.map (·.1)).Nodup→(x,k)∈l→l.lookup x=I k:=by
 intro aT
 induction aT with
 |nil=>intro _ _ _ _;first|contradiction|(intros;contradiction)|(simp at*;done)
 |cons dA r aD=>
  obtain⟨y,j⟩:=dA;intro x k h m;rw[g0,jf]at h;erw[hr];refine eF (ec.mp m) (fun e=>?_) (fun F2=>?_)
  ·cases e;simp
  ·have:(x==y)=false:=by erw[beq_eq_false_iff_ne];rintro rfl;exact h.1 (f9.mpr ⟨(x,k),F2,rfl⟩)
   erw[this];exact aD h.2 F2
theorem vH{β:Type}:∀{l:List (Str×β)} {x:Str} {k:β},l.lookup x=I k→(x,k)∈l:=by
 intro aT
 induction aT with
 |nil=>intro _ _ _;first|contradiction|(intros;contradiction)|(simp at*;done)
 |cons dA r aD=>
  obtain⟨y,j⟩:=dA;intro x k h;rw[hr]at h;cases e:(x==y)with
  |true=>rw[e]at h;cases h;erw[beq_iff_eq.mp e];exact .head _
  |false=>rw[e]at h;exact .tail _ (aD h)
theorem Qh{l:List (Str×Nat)}(h:(l.map (·.2)).Nodup):∀{x y:Str} {i:Nat},(x,i)∈l→(y,i)∈l→x=y:=by
 induction l with
 |nil=>intro x y i m;cases m
 |cons a r aG=>
  intro x y i hQ ma;rw[g0,jf]at h;refine eF (ec.mp hQ) (fun ay=>?_) (fun dH=>?_)<;>refine eF (ec.mp ma) (fun au=>?_) (fun ft=>?_)
  ·replace au:=(ay).symm▸au;exact(congrArg CF au).symm
  ·subst ay;exact absurd (f9.mpr ⟨(y,i),ft,rfl⟩:i∈r.map (·.2)) h.1
  ·subst au;exact absurd (f9.mpr ⟨(x,i),dH,rfl⟩:i∈r.map (·.2)) h.1
  ·exact aG h.2 dH ft
structure kD(cx:bV)(scope:Scope)(tgt:Expr):Prop where
 kind:scope.kind= .function
 Qi:∀y∈scope.names,y.2≠ .cell
 nd:(scope.names.map (·.1)).Nodup
 aF:∀x∈pn tgt,scope.names.lookup x=I .local
 Qj:((d8 cx scope tgt).vars.map (·.2)).Nodup
 fr:∀y∈scope.names,y.2= .free→y.1∈cx.cells∧y.1 ∉ cx.frees∧(∃i,cx.var y.1=I i)∧(y.1==("__classdict__":Str))=false
theorem Qk{cx:bV}{scope:Scope}{tgt:Expr}(h:uZ cx scope tgt=true):kD cx scope tgt:=by
 unfold uZ at h;simp only[rV,h1,qv,beq_iff_eq,bne_iff_ne,ne_eq,uz,qs]at h;obtain⟨⟨⟨⟨⟨⟨aa,ab⟩,aq⟩,ba⟩,b0⟩,d2⟩,fk⟩:=h;refine⟨aa,ab,z6 aq,ba,z6 d2,fun y aV e=>?_⟩
 rcases fk y aV with h|⟨⟨⟨a,b⟩,c⟩,d⟩
 ·exact absurd e h
 ·exact⟨a,fun hm=>by(rw[qs.mpr hm]at b;cases b),LI.mp c,d⟩
theorem kD.locals{cx:bV}{scope:Scope}{tgt:Expr}(h:kD cx scope tgt):∀y∈scope.names,y.2= .local→scope.names.lookup y.1=I .local:=fun y aV e=>lj h.nd (by erw[←e];exact aV)
theorem z7{cx:bV}{scope:Scope}{tgt:Expr}{x:Str}:x∈(d8 cx scope tgt).frees↔(x,NameKind.free)∈scope.names:=by
 simp only[d8,qr]
 constructor
 ·rintro⟨⟨y,k⟩,aV,e⟩
  split at e
  ·rename_i ai;cases e;erw[←beq_iff_eq.mp ai];exact aV
  ·cases e
 ·intro h;exact⟨_,h,by simp⟩
theorem Ql{cx:bV}{scope:Scope}{tgt:Expr}{x:Str}:x∈(d8 cx scope tgt).si↔(x,NameKind.globalImplicit)∈scope.names:=by
 simp only[d8,qr]
 constructor
 ·rintro⟨⟨y,k⟩,aV,e⟩
  split at e
  ·rename_i ai;cases e;erw[←beq_iff_eq.mp ai];exact aV
  ·cases e
 ·intro h;exact⟨_,h,by simp⟩
theorem Qm{cx:bV}{scope:Scope}{tgt:Expr}{x:Str}{i:Nat}(h:(d8 cx scope tgt).vars.lookup x=I i):(x∈pn tgt∧cx.yy≤i∧i<cx.yy+(pn tgt).length)∨((x,NameKind.free)∈scope.names∧cx.var x=I i):=by
 have m:=vH h;simp only[d8,dR,f9,qr]at m
 rcases m with⟨⟨y,j⟩,aV,e⟩|⟨⟨y,k⟩,aV,e⟩
 ·cases e;obtain⟨a,b,c⟩:=List.mem_zipIdx aV;exact .inl ⟨by erw[c];exact uv _,f6 _ _,by lia⟩
 ·split at e
  ·rename_i ai;obtain⟨j,aa,ab⟩:=omap e;cases ab;exact .inr ⟨by erw[←beq_iff_eq.mp ai];exact aV,aa⟩
  ·cases e
section
variable{cx:bV}{A:Around}{G dJ:Addr→Obj→Prop}{W W' W1:a3}{fm fm' m5:bS}{st st' st1:St}{s:Shared}
theorem Qn{env:Env}(ai:env.scope.kind= .function):∀{names:List (Str×NameKind)} {x:Str},names.lookup x=I .free→env.kindOf x=I .cell→(names.map fun(n,k)=>if(k==NameKind.free&&env.scope.kind== .function&&env.kindOf n==I .cell)then(n,NameKind.cell)else(n,k)).lookup x=I .cell:=by
 intro aT
 induction aT with
 |nil=>intro _ h _;simp at h
 |cons dA r aD=>
  obtain⟨m,k⟩:=dA;intro x h aC;show List.lookup x ((if(k==NameKind.free&&env.scope.kind== .function&&env.kindOf m==I .cell)=true then(m,NameKind.cell)else(m,k))::_)=_;cases he:x==m with
  |true=>simp only[hr,he]at h;cases h;replace aC:=(beq_iff_eq.mp he)▸aC;erw[if_pos (by simp[ai,aC]),hr,he]
  |false=>
   simp only[hr,he]at h;have aG:=aD h aC;refine Tactic.eT (fun h=>?_) (fun h=>?_)
   ·erw[hr,he];exact aG
   ·erw[hr,he];exact aG
theorem Qo{env:Env}{ej:NameKind}(z8:ej≠ .free):∀{names:List (Str×NameKind)} {x:Str},names.lookup x=I ej→(names.map fun(n,k)=>if(k==NameKind.free&&env.scope.kind== .function&&env.kindOf n==I .cell)then(n,NameKind.cell)else(n,k)).lookup x=I ej:=by
 intro aT
 induction aT with
 |nil=>intro _ h;simp at h
 |cons dA r aD=>
  obtain⟨m,k⟩:=dA;intro x h;show List.lookup x ((if(k==NameKind.free&&env.scope.kind== .function&&env.kindOf m==I .cell)=true then(m,NameKind.cell)else(m,k))::_)=_;cases he:x==m with
  |true=>simp only[hr,he]at h;cases h;erw[if_neg (by simp[z8]),hr,he]
  |false=>
   simp only[hr,he]at h;have aG:=aD h;refine Tactic.eT (fun h=>?_) (fun h=>?_)
   ·erw[hr,he];exact aG
   ·erw[hr,he];exact aG
def jx(cx:bV)(scope:Scope)(tgt:Expr)(cl:List (Str×Addr))(c:Addr)(fm:bS):bS:=⟨compEnvC scope cl c fm.env,(d8 cx scope tgt).vars,fm.bd,(d8 cx scope tgt).frees⟩
theorem s6{scope:Scope}{tgt:Expr}{cl:List (Str×Addr)}{c:Addr}(ok:kD cx scope tgt){x:Str}{i:Nat}(h:(d8 cx scope tgt).vars.lookup x=I i):
  (x∈pn tgt∧(jx cx scope tgt cl c fm).e2 x=I .local)∨((x,NameKind.free)∈scope.names∧cx.var x=I i∧(jx cx scope tgt cl c fm).e2 x=I .free):=by
 rcases Qm h with⟨h,_⟩|⟨aa,ab⟩
 ·refine .inl ⟨h,?_⟩;have ar:=ok.aF x h;unfold bS.e2;rw[if_neg ?_]
  ·exact lookup_relabel_local ar
  ·intro hm;have:=lj ok.nd (z7 (cx:=cx) (tgt:=tgt).mp hm);rw[ar]at this;cases this
 ·refine .inr ⟨aa,ab,?_⟩;unfold bS.e2;rw[if_pos];exact z7 (cx:=cx) (tgt:=tgt).mpr aa
theorem Qp(hf:dw cx fm){scope:Scope}{tgt:Expr}(cl:List (Str×Addr))(c:Addr)(ok:kD cx scope tgt):dw (d8 cx scope tgt) (jx cx scope tgt cl c fm) where
 vars:=rfl
 kind:=ok.kind
 ej:=fun x i h=>by
  rcases s6 (fm:=fm) (cl:=cl) (c:=c) ok h with⟨_,h⟩|⟨aa,ab,aq⟩
  ·exact .inl h
  ·obtain⟨a,b,_,d⟩:=ok.fr _ aa rfl;exact .inr (.inr ⟨aq,.inr (Qn hf.kind (lj ok.nd aa) (hf.sE x a)),z7.mpr aa⟩)
 inj:=fun x y i aa ab=>Qh ok.Qj (vH aa) (vH ab)
 apart:=fun x y i j dr aa ab aq ba b0 d2=>by
  rcases s6 (fm:=fm) (cl:=cl) (c:=c) ok aa with⟨_,h⟩|⟨_,_,h⟩<;>(rw[h]at b0;cases b0)
 sE:=fun x h=>by simp[d8]at h
 gl:=fun x h=>Qo (by decide) (lj ok.nd (Ql.mp h))
 glob:=hf.glob
 blt:=hf.blt
theorem Qq{env:Env}:∀{names:List (Str×NameKind)} {acc:List (Str×Addr)},(∀y∈names,y.2= .free→∃c,env.cells.lookup y.1=I c)→(names.map (·.1)).Nodup→∃cl,(forIn names acc fun x r=>match x with|(name,kind)=>if(kind== .free)=true then do let c←cellOf env name;pure (lP ((name,c)::r))else pure (lP r))=(pure cl:Sem (List (Str×Addr)))∧(∀y∈names,y.2= .free→cl.lookup y.1=env.cells.lookup y.1)∧∀y,y ∉ names.map (·.1)→cl.lookup y=acc.lookup y:=by
 intro aT
 induction aT with
 |nil=>intro acc _ _;exact⟨acc,rfl,fun ag h=>(nomatch h),fun ag ag=>rfl⟩
 |cons dA r aD=>
  obtain⟨m,k⟩:=dA;intro acc h aA;rw[g0,jf]at aA;refine bZ (fun ai:k= .free=>?_) (fun ai=>?_)
  ·subst ai;obtain⟨c,ah⟩:=h _ (.head _) rfl;obtain⟨cl,e,a,b⟩:=aD (fun y aV=>h y (.tail _ aV)) aA.2;refine⟨cl,?_,fun y aV hf=>?_,fun y aV=>?_⟩
   ·erw[LJ];simp only[beq_self_eq_true,if_true,cellOf,ah,pure_bind];exact e
   ·rcases ec.mp aV with rfl|aV
    ·erw[b _ aA.1,hr];simp[ah]
    ·exact a y aV hf
   ·rw[g0,ec,not_or]at aV;erw[b y aV.2,hr,beq_eq_false_iff_ne.mpr aV.1]
  ·obtain⟨cl,e,a,b⟩:=aD (fun y aV=>h y (.tail _ aV)) aA.2;refine⟨cl,?_,fun y aV hf=>?_,fun y aV=>?_⟩
   ·erw[LJ];have:(k==NameKind.free)=false:=beq_eq_false_iff_ne.mpr ai;simp only[this,Bool.false_eq_true,if_false,pure_bind];exact e
   ·rcases ec.mp aV with rfl|aV
    ·exact absurd hf ai
    ·exact a y aV hf
   ·rw[g0,ec,not_or]at aV;exact b y aV.2
theorem Qr{scope:Scope}{tgt:Expr}(hf:dw cx fm)(R:Rel w ae G W fm st s)(ok:kD cx scope tgt):∃cl,closureFor scope fm.env=pure cl∧∀x,(x,NameKind.free)∈scope.names→cl.lookup x=fm.env.cells.lookup x:=by
 have Qs:∀y∈scope.names,y.2= .free→∃c,fm.env.cells.lookup y.1=I c:=by
  rintro⟨x,k⟩ aV rfl;obtain⟨a,b,⟨i,aw⟩,d⟩:=ok.fr _ aV rfl;refine bC (fun aw ag=>?_) (u9 aw)
  rcases hf.ej x i aw with h|h|⟨_,_,h⟩
  ·have:=bS.n5 h (by decide);rw[hf.sE x a]at this;cases this
  ·obtain⟨c,_,e,_⟩:=R.jn x i (by erw[hf.vars];exact aw) h;exact⟨c,e⟩
  ·exact absurd h b
 refine eA fun cF=>?_;obtain⟨cl,e,a,_⟩:=Qq (env:=fm.env) (names:=scope.names) (acc:=[]) Qs ok.nd;refine cF ?_;refine⟨cl,?_,fun x aC=>a _ aC rfl⟩;unfold closureFor;erw[←bind_pure (pure cl:Sem (List (Str×Addr))),←e]
end
end
end Tactic
end
section
open PySem PySem.W PySem.Calls PyProof.Rows PySem.SeqAt
namespace Tactic
noncomputable section
noncomputable def vI:cB→List Nat
 | .one i=>[i]
 | .many is=>is
theorem Qt{cx:bV}{es:List Expr}:∀{is:List Nat},lZ cx es=I is→∀x∈es.filterMap (fun(e:Expr)=>match e with| .Name x _=>I x|_=>J),∃i∈is,cx.vars.lookup x=I i:=by
 induction es with
 |nil=>intro is _ x aC;cases aC
 |cons e es aG=>
  intro is h x aC;obtain⟨y,p,i,r,rfl,aa,ab,rfl⟩:=zT h
  rcases ec.mp (show x∈y::es.filterMap _ from aC)with e|aC
  ·exact⟨i,.head _,e▸(q1 aa).1⟩
  ·obtain⟨j,a',e⟩:=aG ab x aC;exact⟨j,.tail _ a',e⟩
theorem Qu{cx:bV}{t:Expr}{aF:cB}(h:jV cx t=I aF){x:Str}(aC:x∈pn t):∃i∈vI aF,cx.vars.lookup x=I i:=by
 induction t using Expr.casesOn with
 |Name y p=>obtain⟨i,aw,rfl⟩:=omap (show(cx.ak y).map cB.one=I aF from h);exact⟨i,.head _,dY.mp (show x∈[y]from aC)▸(q1 aw).1⟩
 |Tuple es k p=>obtain⟨is,aw,rfl⟩:=omap (show(lZ cx es).map cB.many=I aF from h);exact Qt aw x aC
 |_=>exact cQ h
theorem Qv{l:List (Option X)}{j i:Nat}{v:X}(h:(l.set j J)[i]? =I (I v)):l[i]? =I (I v)∧j≠i:=by
 rw[Eb]at h
 rcases pw h with⟨_,h⟩|⟨aA,h⟩
 ·cases Option.some.inj h
 ·exact⟨h,fun e=>aA ⟨e,e▸(d7.mp h).1⟩⟩
theorem Qw(is:List Nat):∀(st:St),(is.foldl St.nY st).heap=st.heap∧(is.foldl St.nY st).tag=st.tag∧(is.foldl St.nY st).base=st.base∧(∀(i:Nat) v,(is.foldl St.nY st).loc[i]? =I (I v)→st.loc[i]? =I (I v)∧i ∉ is):=by
 induction is with
 |nil=>exact fun st=>⟨rfl,rfl,rfl,fun i v h=>⟨h,fun h=>nomatch h⟩⟩
 |cons j is aG=>intro st;obtain⟨a,b,c,d⟩:=aG (st.nY j);refine⟨a,b,c,fun i v h=>?_⟩;refine bC (fun aa ab=>?_) (d i v h);refine bC (fun aa n=>?_) (Qv aa);exact⟨aa,fun hm=>(ec.mp hm).elim (fun e=>n e.symm) ab⟩
theorem vJ(aF:cB)(st:St):g8 aF st={st with loc:=(g8 aF st).loc}∧∀(i:Nat) v,(g8 aF st).loc[i]? =I (I v)→st.loc[i]? =I (I v)∧i ∉ vI aF:=by
 have e:g8 aF st=(vI aF).foldl St.nY st:=by induction aF using cB.casesOn<;>rfl
 refine eA fun cF=>?_;obtain⟨a,b,c,d⟩:=Qw (vI aF) st;refine cF ?_;erw[e];refine⟨?_,d⟩;erw[←a,←b,←c]
section
variable{cx:bV}{A:Around}{G dJ:Addr→Obj→Prop}{W W' W1:a3}{fm fm' m5:bS}{st st' st1 st2 d6:St}{s s₂:Shared}
theorem Qx{E:List (Addr×Obj)}{x:X}{xs:List V}(L:FI G dJ W1 fm x xs)(hle:W1.le W')(R:Rel w ae (iZ dJ E) W' fm st s)(h:st.back x xs=I st2)(hR:∀a o,(a,o)∈E→∀br,¬dJ a br):Rel w ae (iZ G E) W' fm st2 s:=by
 induction x using X.casesOn with
 |v a=>cases h;cases L;exact R
 |cell i=>
  obtain⟨q,vs,k,aE,e,bO,rfl,dF,cv⟩:=L;obtain⟨_,aK,h⟩:=omap (show((st.heap[i]?).bind uT).map _=I st2 from h);obtain⟨c,ah,aK⟩:=aU aK
  induction c using Cell.casesOn<;>cases aK
  cases h;have Qy:(iZ (fun a br=>G a br∨(a=q.2∧br={cls:=.type "list",data:=.seq (mG vs) k})) E)=fun a br=>iZ G E a br∨(a=q.2∧br={cls:=.type "list",data:=.seq (mG vs) k}):=funext fun a=>funext fun br=>propext or_right_comm;exact(Qy▸R).back ah (l4 hle.p aE) ⟨e,vs,⟨k,R.e3 _ _ (.inl (.inr ⟨rfl,rfl⟩))⟩,bO.mono hle⟩ (fun o g=>g.elim (dF o) fun g=>hR _ _ g _ (.inr ⟨rfl,rfl⟩)) cv
theorem F3{scope:Scope}{target:Expr}{cl:List (Str×Addr)}{c:Addr}{x:Str}{i:Nat}(ok:kD cx scope target)(aa:(jx cx scope target cl c fm).vars.lookup x=I i)(ab:(jx cx scope target cl c fm).e2 x=I .cell):False:=by
 rcases s6 (fm:=fm) (cl:=cl) (c:=c) ok aa with⟨_,h⟩|⟨_,_,h⟩<;>cases ab.symm.trans h
theorem F4{scope:Scope}{target:Expr}{cl:List (Str×Addr)}{c a:Addr}(ok:kD cx scope target)(h:hu (jx cx scope target cl c fm) a):a=c:=by
 rcases h with e|⟨x,i,aa,ab,_⟩
 ·exact e
 ·exact(F3 ok aa ab).elim
theorem Qz(aF:cB)(st:St):(g8 aF st).heap=st.heap:=by erw[(vJ aF st).1]
theorem F5{scope:Scope}{target:Expr}{cl:List (Str×Addr)}{c b:Addr}{aF:cB}{H:Heap}(ok:kD cx scope target)(off:Off dJ W1 fm st1 b)(QA:b≠c):Off (i1 dJ fm H) W1 (jx cx scope target cl c fm) (g8 aF st1) b:=by
 refine⟨?_,off.f,fun o g=>g.elim (off.g o) fun g=>off.o g.zt⟩;rintro(h|⟨i,d,q,l,e⟩)
 ·exact QA (F4 ok h)
 ·exact off.o (.hp i d q (Qz aF st1▸l) e)
theorem QB{scope:Scope}{target:Expr}{cl:List (Str×Addr)}{c:Addr}{aF:cB}{h₁:Heap}{m:Str→Option Value}(ok:kD cx scope target)(hf:dw cx fm)(R:Rel w ae dJ W1 fm st1 s)(a5:jV (d8 cx scope target) target=I aF)(mW:∀x,(x,NameKind.free)∈scope.names→cl.lookup x=fm.env.cells.lookup x)
  (s7:h₁.Ns c m):ku (i1 dJ fm s.heap) W1 (jx cx scope target cl c fm) (g8 aF st1).loc h₁:=by
 refine⟨⟨_,s7,fun x i v aa ab aq=>?_⟩,fun x i aa ab=>(F3 ok aa ab).elim,fun x i aa ab=>?_⟩
 ·rcases s6 (fm:=fm) (cl:=cl) (c:=c) ok aa with⟨h,_⟩|⟨_,_,h⟩
  ·obtain⟨j,a',e⟩:=Qu a5 h;cases (show(d8 cx scope target).vars.lookup x=I i from aa).symm.trans e;exact absurd a' ((vJ aF st1).2 i v aq).2
  ·cases ab.symm.trans h
 ·rcases s6 (fm:=fm) (cl:=cl) (c:=c) ok aa with⟨_,h⟩|⟨aq,ba,_⟩
  ·cases ab.symm.trans h
  ·obtain⟨a,b,_,_⟩:=ok.fr _ aq rfl;refine bC (fun aJ ag=>?_) (u9 ba);have ai:fm.e2 x=I .cell:=by
    rcases hf.ej x i aJ with h|h|⟨_,_,h⟩
    ·cases (bS.n5 h (by decide)).symm.trans (hf.sE x a)
    ·exact h
    ·exact absurd h b
   have vK:fm.vars.lookup x=I i:=by erw[hf.vars];exact aJ
   obtain⟨dr,v,e,_,⟨o,aO,hd⟩,r⟩:=R.jn x i vK ai;exact⟨dr,v,o,(mW x aq).trans e,.inr ⟨.cell x i vK ai e,aO⟩,hd,fun y aV=>r y ((vJ aF st1).2 i y aV).1⟩
theorem QC{elt target iter:Expr}{ifs:List Expr}{scope:Scope}{pos:Pos}{cc:Addr}{aF:cB}{xs aS:List V}{bq ea wr:List Addr}{P d5:Nat→Value→Heap→Prop}{cS:Nat→Heap→Prop}{cl:List (Str×Addr)}
  {RR:Value→Addr→Result→Shared→Prop} {test:St→Option (Bool×St)} {gv:St→Option (V×St)}
  (ok:kD cx scope target) (hf:dw cx fm) (R:Rel w ae dJ W1 fm st1 s₂) (T:lg w A dJ W1 fm st1 s₂.heap cc aF target xs bq ea wr P d5 cS) (a5:jV (d8 cx scope target) target=I aF) (ax:d1 n A)
  (mW:∀x,(x,NameKind.free)∈scope.names→cl.lookup x=fm.env.cells.lookup x)
  (d':∀{fm' G W st s b st'},dw (d8 cx scope target) fm'→Rel w ae G W fm' st s→test st=I (b,st')→wpAny (model a4 w) A (forIn ifs true fun c r=>if r=true then do let ok←isTrue c fm'.env (eval c fm'.env);pure (lP ok)else pure (lP r)) (fun ok s'=>ok=b∧hx w ae G W fm' s st' s') bL s)
  (hR:∀{fm' G W st s v st'},dw (d8 cx scope target) fm'→Rel w ae G W fm' st s→gv st=I (v,st')→wpAny (model a4 w) A (eval elt fm'.env) (d9 w ae G W fm' s st' (.v v)) bL s)
  (bw:xs.length≤200000) (aN:fh aF test gv xs (g8 aF st1)=I (aS,d6)) (s8:d6.base=st1.base)
  (QD:∀acc c gQ m W' s',W1.le W'→Rel w ae (iZ dJ [(c,gQ)]) W' fm {d6 with loc:=st1.loc} s'→NsObj gQ m→(∀o,¬dJ c o)→dc W' (.lst aS) (.ref acc)→s'.os=s₂.os→RR (.ref acc) c (.ok .next) s'):
  wpAny (model a4 w) A (newList []) (fun acc gO=>wpAny (model a4 w) A (newFunctionEnv scope fm.env.globals cl [] fm.env.qual J .none (I fm.env)) (fun F6 pM=>
   codeAny (model a4 w) A (.compStart (.ListComp elt [⟨target,iter,ifs,0⟩] scope pos) 0 (.ref cc) acc {F6 with scope:=relabel scope fm.env}) (RR acc F6.locals) pM) bL gO) bL s₂:=by
 refine wpAny_newObj_type (wpAny_newFunctionEnv ok.Qi (by intro y aV;simp at aV) (fun h₁ hns₁ hsb₁=>?_) ok.kind)
 dsimp only at hns₁ hsb₁⊢
 generalize z9:s₂.heap.push {cls:=.type "list",dict:=J,data:=.seq ([]:List Value).toArray}=vL at hns₁ hsb₁⊢;have ll:vL.objs.size=s₂.heap.objs.size+1:=by erw[←z9,Heap.size_push]
 have vM:s₂.heap.objs.size≠vL.objs.size:=by erw[ll];exact kg (ki _)
 have old:∀b o,s₂.heap.get? b=I o→h₁.get? b=I o:=fun b o e=>hsb₁.extBut b o (by erw[ll];exact kg (lN (Heap.lt_size e))) (Heap.get?_push_of_some _ (z9▸Heap.get?_push_of_some _ e));have ov:h₁.PlainList s₂.heap.objs.size ([]:List Value).toArray:=⟨_,hsb₁.extBut _ _ vM (Heap.get?_push_of_some _ (z9▸Heap.get?_push_size _ rfl))⟩
 have Aa:s₂.heap.get? vL.objs.size=J:=Heap.get?_none_of_le (by erw[ll];exact lM _);generalize qN:vL.objs.size=c at hns₁ hsb₁ ll vM Aa⊢;have me:dw (d8 cx scope target) (jx cx scope target cl c fm):=Qp hf cl c ok;refine bC (fun ay au=>?_) (vJ aF st1);have QE:fm.env.locals≤c:=by obtain⟨o,aO⟩:=R.lo.alive (.loc rfl);exact ll▸da (lN (Heap.lt_size aO))
 have Ab:Rel w ae (i1 dJ fm s₂.heap) W1 (jx cx scope target cl c fm) (g8 aF st1) {s₂ with heap:=h₁,toks:=s₂.toks+([]:List (Str×Value)).length}:=ay▸R.enter (fm':=jx cx scope target cl c fm) (loc':=(g8 aF st1).loc) (b':=st1.base) old (fun a f=>F4 ok f▸Aa) (QB ok hf R a5 mW hns₁) (fun i aw=>bE _) R.cP R.n6 (bR R.above QE)
 have QF:∀b,(∃o,s₂.heap.get? b=I o)→Off dJ W1 fm st1 b→Off (i1 dJ fm s₂.heap) W1 (jx cx scope target cl c fm) (g8 aF st1) b:=fun b bf off=>F5 ok off fun e=>bf.elim fun o aO=>mT Aa (e▸aO);have hst₁:cS 0 h₁:=T.K.frame _ _ _ T.hA fun b ag o e=>old b o e;have ou:Off (i1 dJ fm s₂.heap) W1 (jx cx scope target cl c fm) (g8 aF st1) s₂.heap.objs.size:=F5 ok (R.h5 (bE _)) vM;have loop:∀gO:Shared,gO={s₂ with heap:=h₁,toks:=s₂.toks+([]:List (Str×Value)).length}→codeAny (model a4 w) A (.compLoop (.ListComp elt [⟨target,iter,ifs,0⟩] scope pos) 0 (.ref cc) (.ref s₂.heap.objs.size) (compEnvC scope cl c fm.env)) (RR (.ref s₂.heap.objs.size) c) gO:=by
  rintro gO rfl;refine Qf (fm:=jx cx scope target cl c fm) (G:=i1 dJ fm s₂.heap) T (fun ag ag g=>.inl g) me a5 ax (fun R h=>d' me R h) (fun R h=>hR me R h) bw Ab .rfl hst₁ (fun b bf=>QF b (T.alive 0 _ T.hA b bf) (T.off b bf)) ou (fun hm=>?_) ov aN ?_
  ·obtain⟨o,aO⟩:=T.alive 0 _ T.hA _ hm;exact qu _ (Heap.lt_size aO)
  ·intro W' s' vs hle dd vN pl bO aO;have vO:=R.leave (H:=d6.heap) (P:=W'.p) hle dd dd.len id hle.p (fun{i c q} ag iV=>s8▸iV) (s8▸dd.cP);have QG:({st1 with heap:=d6.heap,tag:=d6.tag}:St)={d6 with loc:=st1.loc}:=by erw[←s8]
   rw[QG]at vO;have F7:=dd.eB c (.fr (.loc rfl));obtain⟨m,hm,_⟩:=dd.ns;obtain⟨gQ,QH,mi⟩:=Ns.obj hm;have Ac:Off dJ W' fm {d6 with loc:=st1.loc} c:=by
    refine⟨?_,dd.fU c (.fr (.loc rfl)),fun o g=>F7 o (.inl g)⟩;rintro(h|⟨i,d,q,l,e⟩)
    ·exact(R.owned h).elim fun o g=>F7 o (.inr g)
    ·exact dd.g9 l (.loc e)
   have vE:=vO.i0 (E:=[(c,gQ)]) fun a o hm=>by refine bC (fun ay au=>?_) (Prod.mk.inj (dY.mp hm));exact⟨ay▸au▸QH,ay▸Ac.o,ay▸Ac.f⟩
   obtain⟨k,iC⟩:=pl;have QI:Off (iZ dJ [(c,gQ)]) W' fm {d6 with loc:=st1.loc} s₂.heap.objs.size:=by
    refine⟨?_,vN.f,fun br g=>g.elim (fun g=>vN.g br (.inl g)) fun g=>vM (Prod.mk.inj (dY.mp g)).1⟩;rintro(h|⟨i,d,q,l,e⟩)
    ·exact(R.owned h).elim fun o g=>vN.g o (.inr g)
    ·exact vN.o (.hp i d q l e)
   exact QD _ _ gQ m _ s' (hle.trans a3.gE) (vE.mU QI iC) mi Ac.g (.lst (.inr ⟨rfl,rfl⟩) ⟨k,rfl⟩ bO.1 (bO.mono a3.gE).2) aO
 subst qN;exact codeAny_compStart_list (loop _ rfl) (T.self _ _ _ hst₁ (loop _ rfl))
end
end
end Tactic
end
section
open PySem PySem.W PySem.Calls PyProof.Rows PySem.SeqAt
namespace Tactic
noncomputable section
section
variable{cx:bV}{A:Around}{G dJ:Addr→Obj→Prop}{W W' W1:a3}{fm fm' m5:bS}{st st' st1 st2 d6:St}{s s₂:Shared}
theorem QJ{x:X}{xs:List V}(h:st.lend x=I (xs,st')):xs.length≤200000:=by
 have key:∀{aS:List V} {st2:St},(if fit aS.length then I (aS,st2)else J)=I (xs,st')→xs.length≤200000:=fun h=>by obtain⟨hf,e⟩:=c1 h;cases e;exact bR (of_decide_eq_true hf) (by decide)
 induction x using X.casesOn with
 |v v=>obtain⟨aS,_,h⟩:=aU (show(kp v).bind _=I (xs,st')from h);exact key h
 |cell i=>obtain⟨aS,_,h⟩:=aU (show(st.lst i).bind _=I (xs,st')from h);exact key h
theorem F8{a b:Int}(aB:inR a=true)(bf:inR b=true):(gM a b).length≤200000:=by erw[bF,LG];exact Int.toNat_le.mpr (uo (sU bf).2 (sU aB).1)
theorem QK{src:Src}{x:X}{xs:List V}(h:fi C src st=I (x,xs,st')):xs.length≤200000:=by
 induction src using Src.casesOn with
 |of e=>obtain⟨y,s1,_,h⟩:=b2 (show aY (aj C e st) (fun x st=>(st.lend x).map fun p=>(x,p.1,p.2))=I (x,xs,st')from h);obtain⟨p,ar,e⟩:=omap h;cases e;exact QJ ar
 |enum e=>obtain⟨y,s1,_,h⟩:=b2 (show aY (aj C e st) (fun x st=>(xL x).bind fun xs=>if fit xs.length then I (X.v .bB,pairs 0 xs,st)else J)=I (x,xs,st')from h);obtain⟨aS,_,h⟩:=aU h;obtain⟨hf,e⟩:=c1 h;cases e;erw[FE];exact bR (of_decide_eq_true hf) (by decide)
 |zip a b=>obtain⟨y,s1,_,h⟩:=b2 (show aY (aj C a st) (fun x st=>(xL x).bind fun xs=>aY (aj C b st) fun y st=>(xL y).bind fun aS=>if fit (xs.length+aS.length)then I (X.v .bB,k2 xs aS,st)else J)=I (x,xs,st')from h);obtain⟨aS,_,h⟩:=aU h;obtain⟨fq,s2,_,h⟩:=b2 h;obtain⟨zs,_,h⟩:=aU h;obtain⟨hf,e⟩:=c1 h;cases e;erw[FF];have:=of_decide_eq_true hf;lia
 |range a=>obtain⟨y,s1,_,h⟩:=b2 (show aY (aj C a st) (fun y st=>(fJ y).bind fun n=>if inR n then I (X.v .bB,gM 0 n,st)else J)=I (x,xs,st')from h);obtain⟨m,_,h⟩:=aU h;obtain⟨hf,e⟩:=c1 h;cases e;exact F8 rfl hf
 |lX a b=>obtain⟨y,s1,_,h⟩:=b2 (show aY (aj C a st) (fun x st=>(fJ x).bind fun m=>aY (aj C b st) fun y st=>(fJ y).bind fun n=>if inR m&&inR n then I (X.v .bB,gM m n,st)else J)=I (x,xs,st')from h);obtain⟨m,_,h⟩:=aU h;obtain⟨fq,s2,_,h⟩:=b2 h;obtain⟨ma,_,h⟩:=aU h;obtain⟨hf,e⟩:=c1 h;cases e;obtain⟨aa,ab⟩:=cI.mp hf;exact F8 aa ab
theorem F9{it:Expr}{src:Src}(h:l0 cx it (aW cx it) (mR cx it)=I src)(env:Env)(x:Value):foldedSetIterable it env x=pure x:=by cases it<;>first|rfl|exact cQ h
theorem QL{x:X}{xs:List V}{l:List (Option X)}(h:st.back x xs=I st2):({st with loc:=l}:St).back x xs=I {st2 with loc:=l}:=by
 induction x using X.casesOn with
 |v a=>cases h;rfl
 |cell i=>obtain⟨u,aK,e⟩:=omap (show((st.heap[i]?).bind uT).map _=I st2 from h);show((st.heap[i]?).bind uT).map _=_;erw[aK,←e];rfl
inductive Ad(C:Calls)(src:Src)(aF:cB)(test:St→Option (Bool×St))(elt:St→Option (V×St))(st:St)(x:X)(st':St):Prop where
 |mk (x0:X) (xs:List V) (st1:St) (ay:fi C src st=I (x0,xs,st1)) (aS:List V) (d6:St) (au:fh aF test elt xs (g8 aF st1)=I (aS,d6)) (bo:d6.base=st1.base) (st2:St) (cg:d6.back x0 xs=I st2) (ex:x= .v (.lst aS)) (es:st'={st2 with loc:=st1.loc}):Ad C src aF test elt st x st'
theorem F'{src:Src}{aF:cB}{test:St→Option (Bool×St)}{elt:St→Option (V×St)}{x:X}(h:((fi C src st).bind fun p=>aY (fh aF test elt p.2.1 (g8 aF p.2.2)) fun aS st1=>uW p.2.2 p.1 p.2.1 aS st1)=I (x,st')):Ad C src aF test elt st x st':=by obtain⟨⟨x0,xs,st1⟩,ay,h⟩:=aU h;obtain⟨aS,d6,au,h⟩:=b2 h;obtain⟨bo,h⟩:=c1 (show(if d6.base=st1.base then(d6.back x0 xs).map _ else J)=I (x,st')from h);obtain⟨st2,cg,e⟩:=omap h;cases e;exact⟨x0,xs,st1,ay,aS,d6,au,bo,st2,cg,rfl,rfl⟩
theorem Ga(aQ:cH w ae cb cm){elt tgt it:Expr}{ifs:List Expr}{scope:Scope}{pos p:Pos}{use:Option (Value→Sem Unit)}{Q:Value→Shared→Prop}{x:X}{src:Src}{aF:cB}{test:St→Option (Bool×St)}{gv:St→Option (V×St)}
  (ow:jV (d8 cx scope tgt) tgt=I aF) (lp:l0 cx it (aW cx it) (mR cx it)=I src) (gP:mP aF src=true) (ok:kD cx scope tgt) (hit:bj w ae C n cx it) (fu:∀f as p,it= .Call f as [] p→∀e,e∈as→bj w ae C n cx e)
  (ax:d1 n A) (hf:dw cx fm) (R:Rel w ae G W fm st s) (aN:Ad C src aF test gv st x st')
  (d':∀{fm' G W st s b st'},dw (d8 cx scope tgt) fm'→Rel w ae G W fm' st s→test st=I (b,st')→wpAny (model a4 w) A (forIn ifs true fun c r=>if r=true then do let ok←isTrue c fm'.env (eval c fm'.env);pure (lP ok)else pure (lP r)) (fun ok s'=>ok=b∧hx w ae G W fm' s st' s') bL s)
  (hR:∀{fm' G W st s v st'},dw (d8 cx scope tgt) fm'→Rel w ae G W fm' st s→gv st=I (v,st')→wpAny (model a4 w) A (eval elt fm'.env) (d9 w ae G W fm' s st' (.v v)) bL s)
  (h:∀acc c gQ m W' s',W.le W'→Rel w ae (iZ G [(c,gQ)]) W' fm st' s'→NsObj gQ m→(∀o,¬G c o)→b8 W' x (.ref acc)→s'.os=s.os→compPost (model a4 w) A bL use Q (.ref acc) c (.ok .next) s'):
  wpAny (model a4 w) A (comprehension (.ListComp elt [⟨tgt,it,ifs,0⟩] scope pos) scope fm.env p (newList []) false (eval it fm.env) use) Q bL s:=by
 obtain⟨cl,QM,mW⟩:=Qr hf R ok;obtain⟨x0,xs,st1,ay,aS,d6,au,bo,st2,cg,rfl,rfl⟩:=aN;refine wpAny_comprehension_free rfl (F9 lp fm.env) QM ok.kind ok.locals (wpAny_mono (FQ aQ ax hf R hit fu lp (FC ow) gP ay) (fun u s₁ q=>wpAny_mono q (fun vt s₂ q=>?_) fun ag ag x=>x) fun ag ag x=>x);obtain⟨cc,W1,dJ,bq,ea,wr,P,d5,cS,rfl,aM,aZ,a0,T,L⟩:=q;refine QC (RR:=fun acc c=>compPost (model a4 w) A bL use Q acc c) ok hf aZ T ow ax mW d' hR (QK ay) au bo fun acc c gQ m W' s' bt cy mi dF bO cK=>?_;have ek:=Qx L bt cy (QL cg) fun a o hm=>by rw[dY]at hm;cases hm;exact dF
 refine h acc c gQ m W' s' (aM.trans bt) ek mi (fun o g=>?_) bO (cK.trans a0)
 induction x0 using X.casesOn with
 |v a=>cases L;exact dF o g
 |cell i=>obtain⟨q,vs,k,_,_,_,rfl,_⟩:=L;exact dF o (.inl g)
inductive Gb(cx:bV)(tgt it:Expr)(ifs:List Expr)(scope:Scope)(elt:Expr)(aH:ao):Prop where
 |mk (aF:cB) (ow:jV (d8 cx scope tgt) tgt=I aF) (src:Src) (lp:l0 cx it (aW cx it) (mR cx it)=I src) (gP:mP aF src=true) (ok:uZ cx scope tgt=true) (m6:ao) (mh:aW (d8 cx scope tgt) elt=I m6)
   (h:(ifs=[]∧aH= .comp m6 aF src)∨∃c pc,ifs=[c]∧aW (d8 cx scope tgt) c=I pc∧aH= .sa m6 aF src pc):Gb cx tgt it ifs scope elt aH
theorem QN{elt tgt it:Expr}{ifs:List Expr}{scope:Scope}{pos:Pos}{aH:ao}(i3:aW cx (.ListComp elt [⟨tgt,it,ifs,0⟩] scope pos)=I aH):Gb cx tgt it ifs scope elt aH:=by
 have ah:=i3;obtain⟨_,aa⟩:=ht ah;obtain⟨aF,ow,ab⟩:=aU aa;obtain⟨src,lp,aq⟩:=aU ab;obtain⟨gP,ba⟩:=ht aq;obtain⟨m6,mh,b0⟩:=aU ba;clear i3 ah aa ab aq ba;simp only[qv,uz,not_or,LK]at gP;refine⟨aF,ow,src,lp,gP.1,gP.2,m6,mh,?_⟩
 rcases h3 b0 with⟨d2,fk⟩|d2
 ·exact .inl ⟨kk.mp d2,(Option.some.inj fk).symm⟩
 ·obtain⟨ar,fk⟩:=ht d2;obtain⟨pc,pH,s9⟩:=omap fk;obtain⟨c,rfl⟩:=List.length_eq_one_iff.mp (CN.mp ar);exact .inr ⟨c,pc,rfl,pH,s9.symm⟩
theorem Gd(aQ:cH w ae cb cm){elt tgt it:Expr}{ifs:List Expr}{scope:Scope}{pos p:Pos}{aH:ao}{use:Option (Value→Sem Unit)}{Q:Value→Shared→Prop}{x:X}
  (ah:aW cx (.ListComp elt [⟨tgt,it,ifs,0⟩] scope pos)=I aH) (hit:bj w ae C n cx it) (fu:∀f as p,it= .Call f as [] p→∀e,e∈as→bj w ae C n cx e) (mh:bj w ae C n (d8 cx scope tgt) elt) (ta:∀c∈ifs,ST w ae C n (d8 cx scope tgt) c)
  (ax:d1 n A) (hf:dw cx fm) (R:Rel w ae G W fm st s) (aN:aj C aH st=I (x,st'))
  (h:∀acc c gQ m W' s',W.le W'→Rel w ae (iZ G [(c,gQ)]) W' fm st' s'→NsObj gQ m→(∀o,¬G c o)→b8 W' x (.ref acc)→s'.os=s.os→compPost (model a4 w) A bL use Q (.ref acc) c (.ok .next) s'):
  wpAny (model a4 w) A (comprehension (.ListComp elt [⟨tgt,it,ifs,0⟩] scope pos) scope fm.env p (newList []) false (eval it fm.env) use) Q bL s:=by
 obtain⟨aF,ow,src,lp,gP,ok,m6,QO,aw⟩:=QN ah;have ok:=Qk ok;have pL:∀{fm' G W st s v st'},dw (d8 cx scope tgt) fm'→Rel w ae G W fm' st s→gN (aj C m6 st)=I (v,st')→wpAny (model a4 w) A (eval elt fm'.env) (d9 w ae G W fm' s st' (.v v)) bL s:=by intro fm' G W st s v st' me dd h;obtain⟨y,s1,e,h⟩:=b2 h;obtain⟨fK,aJ,h⟩:=omap h;cases h;obtain rfl:=l' aJ;exact mh QO ax me dd e
 rcases aw with⟨rfl,rfl⟩|⟨jy,pc,rfl,QP,rfl⟩
 ·refine Ga aQ ow lp gP ok hit fu ax hf R (F' (test:=fun st=>I (true,st)) (elt:=fun st=>gN (aj C m6 st)) aN) (fun me dd h=>?_) pL h;cases h;exact wpAny_tests_nil ⟨rfl,_,.rfl,dd,rfl⟩
 ·refine Ga aQ ow lp gP ok hit fu ax hf R (F' (test:=fun st=>hN (aj C pc st)) (elt:=fun st=>gN (aj C m6 st)) aN) (fun me dd h=>?_) pL h;obtain⟨y,s1,e,h⟩:=b2 h;obtain⟨b,bf,h⟩:=omap h;cases h;obtain rfl:=mX bf;exact wpAny_tests_one (ta _ (.head _) QP ax me dd e)
theorem Ge{c:Addr}{gQ:Obj}{m:Str→Option Value}(R:Rel w ae (iZ G [(c,gQ)]) W fm st s)(mi:NsObj gQ m)(dF:∀o,¬G c o):Rel w ae G W fm st s∧Off G W fm st c∧s.heap.Ns c m:=by have hm:(c,gQ)∈[(c,gQ)]:=.head _;refine⟨R.E8 fun a o h v=>?_,R.zr hm dF,mi.ns (R.e3 _ _ (.inr hm))⟩;rw[dY]at h;cases h;obtain⟨es,ep,d,_⟩:=mi;erw[d];exact fun h=>nomatch h
theorem QQ(aQ:cH w ae cb cm){elt tgt it:Expr}{ifs:List Expr}{scope:Scope}{pos:Pos}(hit:bj w ae C n cx it)(fu:∀f as p,it= .Call f as [] p→∀e,e∈as→bj w ae C n cx e)(mh:bj w ae C n (d8 cx scope tgt) elt)(ta:∀c∈ifs,ST w ae C n (d8 cx scope tgt) c):
  bj w ae C n cx (.ListComp elt [⟨tgt,it,ifs,0⟩] scope pos):=by
 intro aH ah A ax G W fm st s x st' hf R aN;rw[eval_ListComp];refine Gd aQ (use:=J) ah hit fu mh ta ax hf R aN fun acc c gQ m W' s' l dd mi dF r o=>?_;obtain⟨aZ,off,aA⟩:=Ge dd mi dF;exact⟨m,aA,fun h' fL=>⟨W',l,aZ.vj (k:=s'.toks) off fL,r,o⟩⟩
theorem QR(aQ:cH w ae cb cm){elt tgt it:Expr}{ifs:List Expr}{scope:Scope}{pos Gf py:Pos}{y:Str}{i:Nat}{aH:ao}{x:X}(vP:swapsWith (.ListComp elt [⟨tgt,it,ifs,0⟩] scope pos) (I (.Name y py)) Gf.line fm.env=pure true)
  (ah:aW cx (.ListComp elt [⟨tgt,it,ifs,0⟩] scope pos)=I aH) (hit:bj w ae C n cx it) (fu:∀f as p,it= .Call f as [] p→∀e,e∈as→bj w ae C n cx e) (mh:bj w ae C n (d8 cx scope tgt) elt) (ta:∀c∈ifs,ST w ae C n (d8 cx scope tgt) c)
  (aV:cx.ak y=I i) (ax:d1 n A) (hf:dw cx fm) (R:Rel w ae G W fm st s) (aN:aj C aH st=I (x,st')) {Q:Flow→Shared→Prop} (cR:∀s',hx w ae G W fm s (st'.f' i x) s'→Q .next s'):
  wpAny (model a4 w) A (exec (.Assign [.Name y py] (.ListComp elt [⟨tgt,it,ifs,0⟩] scope pos) Gf) fm.env) Q bL s:=by
 erw[exec_Assign_Name_used _ _ _ _ vP];refine wpAny_bind (wpAny_standAt (wpAny_bind ?_));refine wpAny_bind (wpAny_mono (Gd aQ (use:=I (assign (.Name y py) fm.env)) (Q:=fun ag s'=>Q .next s') ah hit fu mh ta ax hf R aN fun acc c gQ m W' s' l dd mi dF r o=>?_) (fun ag s' aE=>wpAny_pure (wpAny_pure aE)) fun ag ag e=>e);refine wpAny_mono (vy dd hf aV r) (fun ag mg q=>?_) fun ag ag x=>x;obtain⟨aZ,off,aA⟩:=Ge q.1 mi dF;exact⟨m,aA,fun h' fL=>cR _ ⟨W',l,aZ.vj (k:=mg.toks) off fL,q.2.trans o⟩⟩
end
end
end Tactic
end
section
open PySem PySem.W PySem.Calls PyProof.Rows PySem.SeqAt
namespace Tactic
noncomputable section
theorem QS(P:Params):((jb 55).all fun f=>sh f||(pB (nsIn (H.c7 P) mainGlobals (Str.ofString (qH.getD f ""))) (g' f)))=true:=by kernel_rfl
theorem QT(P:Params):((jb 55).all fun f=>keepIn (H.c7 P) (.ref (g' f))&&isFn (H.c7 P) (.ref (g' f)))=true:=by kernel_rfl
theorem QU(P:Params):((jb 11).all fun c=>pB (nsIn (H.c7 P) mainGlobals (Str.ofString (qI.getD c ""))) (dE c)&&makesIn (H.c7 P) (dE c)&&pB (findIn (H.c7 P) (.ref (dE c)) "__init__") (g' (gC c))&&keepIn (H.c7 P) (.ref (dE c))&&U (gC c<55))=true:=by kernel_rfl
theorem QV(P:Params):(pB (findIn (H.c7 P) (.ref (dE 7)) (nm 52)) (g' 15)&&pB (findIn (H.c7 P) (.ref (dE 7)) (nm 42)) (g' 16))=true:=by kernel_rfl
theorem Gg(P:Params){f:Nat}(h:f<55)(hm:sh f=false):nsIn (H.c7 P) mainGlobals (Str.ofString (qH.getD f ""))=I (I (.ref (g' f))):=by have:=h1.mp (QS P) f (kV.mpr h);rw[hm,LA]at this;exact qO this
theorem vQ(P:Params){f:Nat}(h:f<55):keepIn (H.c7 P) (.ref (g' f))=true∧typeIn (H.c7 P) (.ref (g' f))=I (.type "function"):=by have:=h1.mp (QT P) f (kV.mpr h);refine bC (fun a b=>?_) (cI.mp this);exact⟨a,beq_iff_eq.mp b⟩
theorem Gh(P:Params){c:Nat}(h:c<11):nsIn (H.c7 P) mainGlobals (Str.ofString (qI.getD c ""))=I (I (.ref (dE c)))∧makesIn (H.c7 P) (dE c)=true∧findIn (H.c7 P) (.ref (dE c)) "__init__"=I (I (.ref (g' (gC c))))∧keepIn (H.c7 P) (.ref (dE c))=true∧gC c<55:=by
 have:=h1.mp (QU P) c (kV.mpr h);simp only[rV,decide_eq_true_eq]at this;obtain⟨⟨⟨⟨a,b⟩,d⟩,e⟩,f⟩:=this;exact⟨qO a,b,qO d,e,f⟩
theorem Gi(P:Params){c k f:Nat}(h:mO c k=I f):c=7∧k<61∧f<55∧findIn (H.c7 P) (.ref (dE c)) (nm k)=I (I (.ref (g' f))):=by
 have:=QV P;refine bC (fun a b=>?_) (cI.mp this);unfold mO at h
 split at h
 ·rename_i e;obtain⟨rfl,rfl⟩:=e;cases h;exact⟨rfl,by decide,by decide,qO a⟩
 ·split at h
  ·rename_i e;obtain⟨rfl,rfl⟩:=e;cases h;exact⟨rfl,by decide,by decide,qO b⟩
  ·cases h
theorem d1.i{n:Nat}{A:Around}(h:d1 n A):px n A:=⟨h.h,gI (lQ (by decide) _) h.d,gI (lQ (by decide) _) h.u⟩
section
variable{cx:bV}{A:Around}{G:Addr→Obj→Prop}{W W':a3}{fm fm':bS}{st st':St}{s:Shared}
theorem Ae(aQ:cH w ae cb cm){es:List Expr}{pos:Pos}(h:∀e,e∈es→bj w ae C n cx e){bg:az}(ah:dv cx es=I bg)(ax:d1 n A)(hf:dw cx fm)(R:Rel w ae G W fm st s){xs:List X}(aN:dq C bg st=I (xs,st')){f:Value}{first:List Value}{Q:Value→Shared→Prop}
  (ai:keepIn (H.c7 w.params) f=true) (aE:∀us W' s',W.le W'→Rel w ae G W' fm st' s'→s'.os=s.os→cM W' xs us→wpAny (model a4 w) A (call f (first++us)) Q bL s'):
  wpAny (model a4 w) A (callWith pos f first (backTo pos (starEach es fm.env)) []) Q bL s:=by
 induction es using bY with
 |nil=>cases ah;cases aN;exact callWith_K0 (R.K aQ) ai (aE [] W s .rfl R rfl trivial)
 |cons e r=>obtain⟨bx,bN,ca,dy,_⟩:=ob ah;exact callWith_K aQ.K ai (qV (zu (pos:=pos) h ah ax hf R aN) fun us s' W1 aM aZ a7 a0=>⟨aZ.K aQ,aE us W1 s' aM aZ a0 a7⟩) (lb ca) (qW dy)
theorem Gj{o:Option (X×List Cell×Nat)}{x:X}(h:yw st o=I (x,st')):∃h' t,o=I (x,h',t)∧st'={st with heap:=h',tag:=t}:=by obtain⟨⟨y,h',t⟩,e,au⟩:=omap h;cases au;exact⟨h',t,e,rfl⟩
theorem Gk{x:Str}{i:Nat}{l:List String}(h:l.findIdx? (c9 x)=I i):i<l.length∧x=Str.ofString (l.getD i ""):=by refine eA fun cF=>?_;obtain⟨ai,hp,_⟩:=ZW.mp h;refine cF ?_;refine⟨ai,?_⟩;erw[jd,gp ai];exact beq_iff_eq.mp hp
theorem QW(aQ:cH w ae cb cm)(bk:eC w ae C n){f:Str}{bq p:Pos}{es:List Expr}{i:Nat}(h:∀e,e∈es→bj w ae C n cx e)(aC:cx.gl f=true)(aw:qH.findIdx? (c9 f)=I i)(hm:sh i=false){bg:az}(ah:dv cx es=I bg):
  e5 w ae C n cx (.Call (.Name f bq) es [] p) (.call i bg):=by
 intro A ax G W fm st s v st' hf R aN;obtain⟨dQ,rfl⟩:=Gk aw;obtain⟨xs,s1,ex,aa⟩:=b2 (show aY (dq C bg st) _=I (v,st')from aN);obtain⟨h',t,jq,rfl⟩:=Gj aa;exact Call_ (y6 aQ R hf aC (mg_of aQ.K aQ.g (Gg w.params dQ hm)) (Ae aQ h ah ax hf R ex (vQ w.params dQ).1 fun us W1 s' aM aZ a0 a7=>sel (bk.fn ax.i aZ a7 dQ jq) aM a0))
inductive MethAt(s:Shared)(k f:Nat)(u:Value):Prop where
 |mk (x0 dx c:Nat) (m:Str→Option Value) (od:Obj) (e:u= .ref x0) (Gl:mO c k=I f) (aC:s.heap.get? x0=I (instObj (dE c) dx)) (vR:s.heap.get? dx=I od) (nn:NsObj od m) (Gm:m (nm k)=J):MethAt s k f u
theorem Gn{c k f:Nat}(pP:mO c k=I f){m:Str→Option Value}{α:Type}{fs:List (Nat×α)}(ex:∀s v,m s=I v→∃n y,s=nm n∧er n fs=I y)(aA:(er k fs).isNone=true):m (nm k)=J:=by
 cases aE:m (nm k)with
 |none=>rfl
 |some v=>obtain⟨j,y,e,a'⟩:=ex _ _ aE;rw[←qR (Gi w.params pP).2.1 e]at a';rw[a']at aA;cases aA
theorem QX{G:Addr→Obj→Prop}{W:a3}{fm:bS}{st:St}{s:Shared}(R:Rel w ae G W fm st s){x:X}{u:Value}(r:b8 W x u){k f:Nat}(pP:st.yt k x=I f):MethAt s k f u:=by
 induction x using X.casesOn with
 |v v=>obtain⟨p,aa,ab⟩:=aU (show(objOf v).bind _=I f from pP);refine bC (fun aA aq=>?_) (c1 ab);obtain⟨t,rfl⟩:=EX aa;obtain⟨x,dx,od,m,rfl,f1,fd,nn,_,ex,_⟩:=EW r;exact⟨x,dx,p.1,m,od,rfl,aq,R.cD _ _ f1,R.cD _ _ fd,nn,Gn aq ex aA⟩
 |cell i=>obtain⟨p,aa,ab⟩:=aU (show((st.heap[i]?).bind pj).bind _=I f from pP);refine bC (fun aA aq=>?_) (c1 ab);obtain⟨c,fs,rfl,ah⟩:=zf aa;obtain⟨q,aE,rfl⟩:=r;obtain⟨f1,m,hm,ex,_⟩:=R.cells _ _ _ ah aE;obtain⟨od,QY,nn⟩:=Ns.obj hm.ns;exact⟨q.1,q.2,c,m,od,rfl,aq,R.cD _ _ f1,QY,nn,Gn aq ex aA⟩
theorem QZ(aQ:cH w ae cb cm)(bk:eC w ae C n){o:Expr}{apos pos:Pos}{es:List Expr}{k:Nat}{po:ao}{bg:az}(aO:bj w ae C n cx o)(h:∀e,e∈es→bj w ae C n cx e)(co:aW cx o=I po)(ah:dv cx es=I bg)(ar:es.length<30)(jt:(apos.endLine==pos.line)=true):
  e5 w ae C n cx (.Call (.Attribute o (nm k) apos) es [] pos) (.uL po k bg):=by
 intro A ax G W fm st s v st' hf R aN;obtain⟨x,s1,iX,aa⟩:=b2 (show aY (aj C po st) _=I (v,st')from aN);obtain⟨f,pP,ab⟩:=aU aa;obtain⟨xs,s2,ex,aq⟩:=b2 ab;obtain⟨h',t,jq,rfl⟩:=Gj aq;clear aN aa ab aq;refine sP co ah ar jt (dk (aO co ax hf R iX) fun u s₁ W1 aM aZ a7 a0=>?_);obtain⟨x0,dx,c,m,od,rfl,Gl,aC,vR,nn,Gm⟩:=QX aZ a7 pP;obtain⟨aaE,ai,Af,Ag⟩:=Gi w.params Gl;have Q0:c<11:=by lia
 obtain⟨g,_,_,_⟩:=vg w.params Q0;exact method_fn (aZ.K aQ) (C:=dE c) (ox:=instObj (dE c) dx) (od:=I od) ⟨aC,rfl,rfl,vR⟩ (plainGet_of g).1 (plainGet_of g).2 Ag (vQ w.params Af).2 (by show LC (fun x=>x.isSome) (lookIn (nm k) od)=I false;erw[vf nn,Gm];rfl)
  (Ae aQ h ah ax hf aZ ex (vQ w.params Af).1 fun us cN s' bt cy cK b3=>sel (bk.fn ax.i cy (xs:=x::xs) (us:=.ref x0::us) ⟨a7.mono bt,b3⟩ Af jq) (aM.trans bt) (cK.trans a0))
theorem Rel.Q1(R:Rel w ae G W fm st s)(x:Addr):Rel w ae G {W with t:=W.t++[x]} fm {st with tag:=st.tag+1} s:=by
 have eG:W.le {W with t:=W.t++[x]}:=⟨fun ag ag h=>h,o4 _ _,iq _⟩
 exact{R with tag:=b4.trans (congrArg (· +1) R.tag),cl:=fun l=>(R.cl l).mono eG (bE _),lo:=R.lo.mono eG}
theorem tb:∀{fs:List (Nat×X)} {gs:List (Nat×V)},mN fs=I gs→∀k,(∀y,er k gs=I y→er k fs=I (.v y))∧(∀y,er k fs=I y→∃z,er k gs=I z):=by
 intro aT
 induction aT with
 |nil=>intro _ h k;cases h;exact⟨fun y h=>(by cases h),fun y h=>(by cases h)⟩
 |cons dA r aD=>
  obtain⟨j,x⟩:=dA;intro gs h k;obtain⟨a,aC,h⟩:=aU (show(valOf x).bind _=I gs from h);obtain⟨l,aa,rfl⟩:=omap h;obtain rfl:=l' aC;obtain⟨cZ,dt⟩:=aD aa k;erw[qF,qF];refine bZ (fun e:j=k=>?_) (fun e=>?_)
  ·erw[if_pos e,if_pos e];exact⟨fun y aV=>by cases aV;rfl,fun y aV=>⟨a,rfl⟩⟩
  ·erw[if_neg e,if_neg e];exact⟨cZ,dt⟩
theorem Gp{dx x:Addr}{od:Obj}{c:Nat}{fs:List (Nat×X)}{gs:List (Nat×V)}{h:Heap}{bd:Nat}{t:Option Nat}{p:List (Addr×Addr)}(hp:mN fs=I gs)(iV:e' w {W with p:=p} h bd (x,dx) (.inst c fs))(tc:h.get? dx=I od)(hd:W.F dx od)(a5:∀i,t=I i→W.t[i]? =I x):
  dc W (.obj t c gs) (.ref x):=by
 obtain⟨f,m,hm,ex,g⟩:=iV;obtain⟨aaF,e,nn⟩:=Ns.obj hm.ns
 dsimp only at f e
 rw[tc]at e;cases e;have inv:∀{v:V} {u:Value},dc {W with p:=p} v u→dc W v u:=by
  intro v u r
  induction r with
  |bB=>exact .bB
  |bool b=>exact .bool b
  |int i t=>exact .int i t
  |str n t=>exact .str n t
  |tup f s l _ aG=>exact .tup f s l aG
  |lst f s l _ aG=>exact .lst f s l aG
  |obj f fd n a5 ex g1 _ aG=>exact .obj f fd n a5 ex g1 aG
 refine .obj (g:=fun k=>(m (nm k)).getD .none) (m:=m) f hd nn a5 (fun s v aL=>?_) (fun k y ai=>?_) (fun k y ai=>?_)
 ·obtain⟨j,y,e,a'⟩:=ex s v aL;exact⟨j,_,e,((tb hp j).2 y a').choose_spec⟩
 ·obtain⟨_,v,e,_⟩:=g k _ ((tb hp k).1 y ai);erw[e];rfl
 ·obtain⟨_,v,e,r⟩:=g k _ ((tb hp k).1 y ai);erw[e];exact inv r
end
end
end Tactic
end
section
open PySem PySem.W PySem.Calls PyProof.Rows PySem.SeqAt
namespace Tactic
noncomputable section
section
variable{cx:bV}{A:Around}{G:Addr→Obj→Prop}{W W':a3}{fm fm':bS}{st st':St}{s:Shared}
theorem Q3{Ah:Addr}{us:List Value}(h:d1 n A):px n (A.under (.builtin "type.__call__" ⟨.ref Ah::us,[]⟩)):=by
 have ay:(Code.builtin "type.__call__" ⟨.ref Ah::us,[]⟩).weight≤2:=bR (eQ (by kernel_rfl:_=1)) (by decide);have au:(Code.builtin "type.__call__" ⟨.ref Ah::us,[]⟩).cUnits≤20:=by
  first|exact bR (eQ (by kernel_rfl:_=1)) (by decide)|exact bR (eQ (by kernel_rfl:_=2)) (by decide)|exact bR (eQ (by kernel_rfl:_=3)) (by decide)|exact bR (eQ (by kernel_rfl:_=4)) (by decide)
 have kE {a b m x y z:Nat} (aC:x≤y) (h:a+m+(y+z)<b):a+x+m+z<b:=by refine gI ?_ h;erw[iO a x m,rW (a+m) x z];exact lQ (Z4 aC z) _
 exact⟨h.h,kE ay h.d,kE au h.u⟩
theorem Q4{H:List Cell}{k:Nat}{c:Cell}(ar:H.length=k+1)(ah:H[k]? =I c):H.take k++[c]=H:=by refine f7 (d7.mp ah) fun aa ab=>?_;erw[←ab];have:=List.take_append_getElem aa;erw[this,ux (eQ ‹_›)]
inductive Ai(c:Nat)(st:St)(H:List Cell)(t:Nat)(fs:List (Nat×X))(v:X)(st':St):Prop where
 |keep (h:kept c=true) (e:v= .cell st.heap.length) (au:st'={st with heap:=H,tag:=t}):Ai c st H t fs v st'
 |frozen (gs:List (Nat×V)) (h:mN fs=I gs) (e:v= .v (.obj (if tagged c then I t else J) c gs)) (au:st'={st with heap:=H.take st.heap.length,tag:=if tagged c then t+1 else t}):Ai c st H t fs v st'
theorem Q5{c:Nat}{H:List Cell}{t:Nat}{v:X}(h:sg c st H t=I (v,st')):∃fs,H[st.heap.length]? =I (.inst c fs)∧Ai c st H t fs v st':=by
 obtain⟨p,hp,aa⟩:=aU h;obtain⟨d,hd,hp⟩:=aU hp;have la:∃fs,d= .inst p.1 fs∧fs=p.2:=by
  induction d using Cell.casesOn<;>cases hp
  exact⟨_,rfl,rfl⟩
 obtain⟨fs,rfl,rfl⟩:=la;obtain⟨ah,ab⟩:=ht aa;obtain rfl:p.1=c:=CN.mp ah;refine⟨p.2,hd,?_⟩
 rcases h3 ab with⟨ai,e⟩|aq
 ·cases e;exact .keep ai rfl rfl
 ·obtain⟨gs,aK,e⟩:=omap aq;cases e;exact .frozen gs aK rfl rfl
theorem Q6{x:X}{u:Unit}(h:yv x=I u):x= .v .bB:=by
 obtain⟨v,aJ,aa⟩:=aU h;refine bC (fun aA ag=>?_) (c1 aa);erw[l' aJ]
 induction v using V.casesOn<;>first|rfl|cases aA
theorem Q7(aQ:cH w ae cb cm)(bk:eC w ae C n){f:Str}{bq p:Pos}{es:List Expr}{c:Nat}(h:∀e,e∈es→bj w ae C n cx e)(aC:cx.gl f=true)(aw:qI.findIdx? (c9 f)=I c){bg:az}(ah:dv cx es=I bg):
  e5 w ae C n cx (.Call (.Name f bq) es [] p) (.new c bg):=by
 intro A ax G W fm st s v st' hf R aN;obtain⟨dQ,rfl⟩:=Gk aw;have dQ:=dQ;obtain⟨dH,ft,vS,q5,mj⟩:=Gh w.params dQ;obtain⟨xs,s1,ex,aa⟩:=b2 (show aY (dq C bg st) _=I (v,st')from aN);obtain⟨⟨y,H,t1⟩,jq,ab⟩:=aU aa;obtain⟨_,aV,aq⟩:=aU ab;obtain⟨fs,Gq,aA⟩:=Q5 (show sg c s1 H t1=I (v,st')from aq);clear aN aa ab aq;obtain rfl:=Q6 (show yv y=_ from aV);refine Call_ (y6 aQ R hf aC (mg_of aQ.K aQ.g dH) ?_);refine Ae aQ h ah ax hf R ex q5 fun us W1 s' aM aZ a0 a7=>?_;refine wpAny_call ?_;obtain⟨hh,g,d,t,os⟩:=s';have Aj:=aZ.K aQ;refine make_core (makes_of Aj ft) (looks_findIn Aj vS) (fun self=>bind_fn Aj self (vQ w.params mj).2) (.inl rfl) ?_;have ai:∀b o,hh.get? b=I o→((hh.push emptyDict).push (instObj (dE c) hh.objs.size)).get? b=I o:=fun b o e=>Heap.get?_push_of_some _ (Heap.get?_push_of_some _ e);have Q8:((hh.push emptyDict).push (instObj (dE c) hh.objs.size)).get? (hh.objs.size+1)=I (instObj (dE c) hh.objs.size):=by heap_get
 have vR:((hh.push emptyDict).push (instObj (dE c) hh.objs.size)).get? hh.objs.size=I emptyDict:=Heap.get?_push_of_some _ (Heap.get?_push_at rfl rfl);refine codeAny_mono (bk.init (Q3 ax) (aZ.keep (k:=t) ai) a7 dQ Q8 vR (aZ.h5 (a:=hh.objs.size+1) (lM _)) (aZ.h5 (a:=hh.objs.size) (bE _)) (Nat.succ_ne_self _) jq) fun r mg q=>?_;obtain⟨rfl,cN,bt,ep,ek,hlen,Q9,cK⟩:=q;refine⟨rfl,?_⟩;show d9 w ae G W fm s st' v _ _;obtain⟨vT,Ak⟩:=Q9 _ _ Gq;have hp:cN.p.length=s1.heap.length:=by erw[ep];exact aZ.len
 cases aA with
 |keep aaG ay au=>
  subst ay au;have jw:=ek.n7 (q:=(hh.objs.size+1,hh.objs.size)) (c:=.inst c fs) vT (by erw[show({s1 with heap:=H.take s1.heap.length,tag:=t1}:St).heap.length=s1.heap.length from by simp[hlen]];exact Ak);have e:({s1 with heap:=H.take s1.heap.length++[.inst c fs],tag:=t1}:St)={s1 with heap:=H,tag:=t1}:=by erw[Q4 hlen Gq]
  refine⟨{cN with p:=cN.p++[(hh.objs.size+1,hh.objs.size)]},(aM.trans bt).trans ⟨fun ag ag h=>h,iq _,o4 _ _⟩,?_,⟨(hh.objs.size+1,hh.objs.size),?_,rfl⟩,cK.trans a0⟩
  ·erw[←e];exact jw
  ·show(cN.p++[_])[s1.heap.length]? =_;erw[iP (eQ ‹_›)];simp[hp]
 |frozen gs pQ ay au=>
  subst ay au;have hm:∃m,mg.heap.Ns1 hh.objs.size m:=by obtain⟨_,m,hm,_,_⟩:=Ak;exact⟨m,hm⟩
  obtain⟨m,hm⟩:=hm;obtain⟨od,tc,nn⟩:=Ns.obj hm.ns;have jw:=ek.mU vT tc;have Gr:e' w {(cN.iA hh.objs.size od)with p:=cN.p++[(hh.objs.size+1,hh.objs.size)]} mg.heap (s1.heap.length+1) (hh.objs.size+1,hh.objs.size) (.inst c fs):=e'.mono (W:={cN with p:=cN.p++[(hh.objs.size+1,hh.objs.size)]}) (W':={(cN.iA hh.objs.size od)with p:=cN.p++[(hh.objs.size+1,hh.objs.size)]}) ⟨fun ag ag h=>.inl h,iq _,iq _⟩ (bE _) Ak
  refine bZ (fun a5:tagged c=true=>?_) (fun a5=>?_)
  ·erw[if_pos a5,if_pos a5];have fa:cN.le {(cN.iA hh.objs.size od)with t:=cN.t++[hh.objs.size+1]}:=⟨fun ag ag h=>.inl h,o4 _ _,iq _⟩
   refine⟨_,(aM.trans bt).trans fa,(jw.Q1 (hh.objs.size+1)),?_,cK.trans a0⟩;refine Gp (W:={(cN.iA hh.objs.size od)with t:=cN.t++[hh.objs.size+1]}) (p:=cN.p++[(hh.objs.size+1,hh.objs.size)]) (h:=mg.heap) (bd:=s1.heap.length+1) (dx:=hh.objs.size) pQ
    (e'.mono (W:={(cN.iA hh.objs.size od)with p:=cN.p++[(hh.objs.size+1,hh.objs.size)]}) (W':={(cN.iA hh.objs.size od)with t:=cN.t++[hh.objs.size+1],p:=cN.p++[(hh.objs.size+1,hh.objs.size)]}) ⟨fun ag ag h=>h,o4 _ _,iq _⟩ (bE _) Gr) tc (.inr ⟨rfl,rfl⟩) fun i aw=>?_
   cases aw;have:cN.t.length=t1:=jw.tag;erw[iP (eQ ‹_›)];simp[this]
  ·erw[if_neg a5,if_neg a5];refine⟨_,(aM.trans bt).trans a3.gE,jw,?_,cK.trans a0⟩;exact Gp (W:=cN.iA hh.objs.size od) pQ Gr tc (.inr ⟨rfl,rfl⟩) fun i aw=>nomatch aw
end
end
end Tactic
end
section
open PySem PySem.W PySem.Calls PyProof.Rows PySem.SeqAt
namespace Tactic
noncomputable section
section
variable{cx:bV}{A:Around}{G:Addr→Obj→Prop}{W W':a3}{fm fm':bS}{st st':St}{s:Shared}
noncomputable def az.ctorIdx(x:az):Nat:=az.casesOn x 0 (fun ag ag=>1)
theorem Al{e:Expr}{i:Int}(h:cInt e=I i):∃k p,e= .Constant (.int i) k p:=by
 cases e with
 |Constant c k p=>
  induction c using Const.casesOn with
  |int j=>cases h;exact⟨k,p,rfl⟩
  |_=>exact cQ h
 |_=>exact cQ h
theorem Gs{e:Expr}(h:yz e=true):∃k p dp,e= .UnaryOp .USub (.Constant (.int 1) k p) dp:=by
 induction e using Expr.casesOn with
 |UnaryOp o a q=>refine bC (fun aa ab=>?_) (cI.mp h);obtain⟨k,p,rfl⟩:=Al (of_decide_eq_true ab);erw[of_decide_eq_true aa];exact⟨_,_,_,rfl⟩
 |_=>exact absurd h rR
theorem Q'{e:Expr}(h:uY e=true):∃k p dp q,e= .Slice J J (I (.UnaryOp .USub (.Constant (.int 1) k p) dp)) q:=by
 induction e using Expr.casesOn with
 |Slice lo aw st q=>
  obtain⟨aa,aq⟩:=cI.mp h;obtain⟨aa,ab⟩:=cI.mp aa;obtain rfl:=uu.mp aa;obtain rfl:=uu.mp ab
  induction st using gJ with
  |none=>exact absurd aq rR
  |some s=>obtain⟨k,p,dp,rfl⟩:=Gs aq;exact⟨_,_,_,_,rfl⟩
 |_=>exact absurd h rR
theorem Ra{e:Expr}{lo aw sp:Option Expr}{aH td:ao}{p gK:Pos}(he:bj w ae C n cx e)(ce:aW cx e=I aH)(h:yA aH lo aw sp=I td):e5 w ae C n cx (.Subscript e (.Slice lo aw sp gK) p) td:=by
 induction lo using gJ with
 |none=>
  induction aw using gJ with
  |none=>
   induction sp using gJ with
   |none=>exact cQ h
   |some s=>refine bC (fun hm h=>?_) (c1 h);cases h;obtain⟨k,cL,ck,rfl⟩:=Gs hm;exact OU he ce
  |some x=>
   induction sp using gJ with
   |some=>exact cQ h
   |none=>obtain⟨i,aw,h⟩:=aU h;refine bC (fun h0 h=>?_) (c1 h);cases h;obtain⟨k,cL,rfl⟩:=Al aw;obtain⟨m,rfl⟩:=ZZ h0;exact OW he ce
 |some l=>
  induction aw using gJ with
  |some=>exact cQ h
  |none=>
   induction sp using gJ with
   |some=>exact cQ h
   |none=>refine bC (fun aa h=>?_) (c1 h);cases h;obtain⟨k,cL,rfl⟩:=Al aa;exact OX he ce
theorem Rb{t a b:Expr}{p:Pos}(a5:ST w ae C n cx t)(aB:ST w ae C n cx a)(bf:ST w ae C n cx b):ST w ae C n cx (.IfExp t a b p):=by
 intro aH ah A ax G W fm st s v st' hf R aN;obtain⟨pt,mJ,ah⟩:=aU (show(aW cx t).bind _=I aH from ah);obtain⟨bx,ca,ah⟩:=aU ah;obtain⟨bN,dy,rfl⟩:=omap ah;obtain⟨x,s1,sH,aa⟩:=b2 (show aY (aj C pt st) _=I (_,st')from aN);obtain⟨c,i2,ab⟩:=aU aa;obtain rfl:=mX i2;refine wpAny_bind (l6 (a5 mJ ax hf R sH) fun s₁ W1 aM aZ a0=>?_)
 induction c using hK with
 |true=>exact wpAny_mono (aB ca ax hf aZ (sI ab)) (fun ag ag q=>⟨q.1,q.2.step aM a0⟩) fun ag ag x=>x
 |false=>exact wpAny_mono (bf dy ax hf aZ ab) (fun ag ag q=>⟨q.1,q.2.step aM a0⟩) fun ag ag x=>x
theorem bj.of{e:Expr}(h:∀aH,aW cx e=I aH→e5 w ae C n cx e aH):bj w ae C n cx e:=by intro aH ah A ax G W fm st s pF st' hf R aN;exact h aH ah _ ax hf R aN
theorem Am{e:Expr}(h:aW cx e=J):bj w ae C n cx e∧ST w ae C n cx e:=by
 constructor
 ·intro aH ah;rw[h]at ah;cases ah
 ·intro aH ah;rw[h]at ah;cases ah
theorem Gu{c:Const}{k:Nat}{p:Pos}:bj w ae C n cx (.Constant c k p):=by
 induction c using Const.casesOn with
 |int i=>exact NH
 |bool b=>exact s_bool
 |none=>exact NI
 |str x=>exact NJ
 |_=>exact(Am rfl).1
theorem pR{es:List Expr}{p:ao}{c6:az}(h:dv cx es=I (.cons p c6)):∃e r,es=e::r∧aW cx e=I p∧dv cx r=I c6:=by
 induction es using bY with
 |nil=>cases h
 |cons e r=>obtain⟨a,b,c,d,e⟩:=ob h;cases e;exact⟨_,_,rfl,c,d⟩
theorem te{es:List Expr}(h:dv cx es=I .nil):es=[]:=by
 induction es using bY with
 |nil=>rfl
 |cons e r=>obtain⟨a,b,c,d,e⟩:=ob h;cases e
theorem Gv{es:List Expr}{p:ao}(h:dv cx es=I (.cons p .nil)):∃e,es=[e]:=by refine eA fun cF=>?_;obtain⟨e,r,rfl,_,ab⟩:=pR h;refine cF ?_;erw[te ab];exact⟨e,rfl⟩
theorem Rc{es:List Expr}{p q:ao}(h:dv cx es=I (.cons p (.cons q .nil))):∃e au,es=[e,au]:=by obtain⟨e,r,rfl,_,ab⟩:=pR h;obtain⟨au,rfl⟩:=Gv ab;exact⟨e,au,rfl⟩
theorem Rd{bx aH:ao}{os:List CmpOp}{bg:az}(h:DS bx os bg=I aH):(∃o b,os=[o]∧bg= .cons b .nil)∨∃o br b c,os=[o,br]∧bg= .cons b (.cons c .nil):=by
 induction bg using az.casesOn with
 |nil=>rcases os with _|⟨o,_|⟨br,_|_⟩⟩<;>exact cQ h
 |cons b r=>induction r using az.casesOn with
  |nil=>rcases os with _|⟨o,_|⟨br,_|_⟩⟩<;>first|exact .inl ⟨o,b,rfl,rfl⟩|exact cQ h
  |cons c r=>induction r using az.casesOn with
   |nil=>rcases os with _|⟨o,_|⟨br,_|_⟩⟩<;>first|exact .inr ⟨o,br,b,c,rfl,rfl⟩|exact cQ h
   |cons _ _=>rcases os with _|⟨o,_|⟨br,_|_⟩⟩<;>exact cQ h
theorem Gw{a:Expr}{os:List CmpOp}{bs:List Expr}{p:Pos}{aH:ao}(h:aW cx (.Compare a os bs p)=I aH):(∃o b,os=[o]∧bs=[b])∨∃o br b c,os=[o,br]∧bs=[b,c]:=by
 obtain⟨bx,_,h⟩:=aU (show(aW cx a).bind _=I aH from h);obtain⟨bg,aa,h⟩:=aU h
 rcases Rd h with⟨o,b,rfl,rfl⟩|⟨o,br,b,c,rfl,rfl⟩
 ·obtain⟨e,rfl⟩:=Gv aa;exact .inl ⟨_,_,rfl,rfl⟩
 ·obtain⟨e,au,rfl⟩:=Rc aa;exact .inr ⟨_,_,_,_,rfl,rfl⟩
theorem Rf{a:Expr}{os:List CmpOp}{bs:List Expr}{p:Pos}(aB:bj w ae C n cx a)(oc:∀b,b∈bs→bj w ae C n cx b):bj w ae C n cx (.Compare a os bs p)∧ST w ae C n cx (.Compare a os bs p):=by
 constructor
 ·intro aH ah
  rcases Gw ah with⟨o,b,rfl,rfl⟩|⟨o,br,b,c,rfl,rfl⟩
  ·exact Ob aB (oc _ (.head _)) ah
  ·exact Od aB (oc _ (.head _)) (oc _ (.tail _ (.head _))) ah
 ·intro aH ah
  rcases Gw ah with⟨o,b,rfl,rfl⟩|⟨o,br,b,c,rfl,rfl⟩
  ·exact Oc aB (oc _ (.head _)) ah
  ·exact Oe aB (oc _ (.head _)) (oc _ (.tail _ (.head _))) ah
theorem Rg{t:Expr}{b:gB}(h:yD cx t=I b):∃x p,t= .Name x p∧cx.gl x=true∧((c9 x "int"=true∧b= .isInt)∨(c9 x "bool"=true∧b= .isBool)):=by
 induction t using Expr.casesOn with
 |Name x p=>
  rcases h3 (show(if _ then _ else _)=I b from h)with⟨aa,e⟩|h
  ·cases e;obtain⟨a,b⟩:=cI.mp aa;exact⟨x,p,rfl,a,.inl ⟨b,rfl⟩⟩
  ·obtain⟨aa,e⟩:=c1 h;cases e;obtain⟨a,b⟩:=cI.mp aa;exact⟨x,p,rfl,a,.inr ⟨b,rfl⟩⟩
 |_=>exact cQ h
theorem Rh(aQ:cH w ae cb cm)(bk:eC w ae C n){x:Str}{bq p:Pos}{as:List Expr}{bg:az}{aH:ao}(has:∀e,e∈as→bj w ae C n cx e)(aK:cx.gl x=true)(aa:dv cx as=I bg)(h:sk x bg=I aH):e5 w ae C n cx (.Call (.Name x bq) as [] p) aH:=by
 unfold sk at h;cases bf:k3 x n2 with
 |some b=>replace h:=bf▸h;cases h;exact Pb aQ has aK bf aa
 |none=>
  replace h:=bf▸h;cases aw:qH.findIdx? (c9 x)with
  |some i=>replace h:=aw▸h;refine bC (fun hm h=>?_) (ht (show(if sh i then J else I (ao.call i bg))=I aH from h));cases h;exact QW aQ bk has aK aw (by simpa using hm) aa
  |none=>replace h:=aw▸h;obtain⟨c,aw,rfl⟩:=omap (show(qI.findIdx? (c9 x)).map _=I aH from h);exact Q7 aQ bk has aK aw aa
theorem Gx{bg:az}{bx:ao}(h:one bg=I bx):bg= .cons bx .nil:=by
 match bg,h with
 | .cons a .nil,h=>cases h;rfl
theorem Ri{po aH:ao}{bg:az}(h:DT po bg=I aH):(∃a,bg= .cons a .nil∧aH= .qE po a)∨∃a b,bg= .cons a (.cons b .nil)∧aH= .pe po a b:=by
 induction bg using az.casesOn with
 |nil=>exact cQ h
 |cons a r=>
 induction r using az.casesOn with
 |nil=>cases h;exact .inl ⟨a,rfl,rfl⟩
 |cons b r=>
 induction r using az.casesOn with
 |nil=>cases h;exact .inr ⟨a,b,rfl,rfl⟩
 |cons=>exact cQ h
theorem Rj(aQ:cH w ae cb cm)(bk:eC w ae C n){x:Str}{o:Expr}{q p:Pos}{as:List Expr}{po:ao}{bg:az}{aH:ao}(has:∀e,e∈as→bj w ae C n cx e)(aO:bj w ae C n cx o)(co:aW cx o=I po)(aa:dv cx as=I bg)(ar:(q.endLine==p.line)=true)(aA:as.length<30)(h:yE x po bg=I aH):e5 w ae C n cx (.Call (.Attribute o x q) as [] p) aH:=by
 rcases h3 (show(if c9 x "append" then _ else _)=I aH from h)with⟨aC,h⟩|h
 ·obtain⟨bx,ab,rfl⟩:=omap h;obtain rfl:=Gx ab;obtain⟨e,r,rfl,ef,e6⟩:=pR aa;obtain rfl:=te e6;erw[beq_iff_eq.mp aC];exact Pk aO (has _ (.head _)) co ef ar
 ·rcases h3 h with⟨aC,h⟩|h
  ·obtain⟨bx,ab,rfl⟩:=omap h;obtain rfl:=Gx ab;obtain⟨e,r,rfl,ef,e6⟩:=pR aa;obtain rfl:=te e6;erw[beq_iff_eq.mp aC];exact Pm aO (has _ (.head _)) co ef ar
  ·rcases h3 h with⟨aC,h⟩|h
   ·erw[beq_iff_eq.mp aC]
    rcases Ri h with⟨a,rfl,rfl⟩|⟨a,b,rfl,rfl⟩
    ·obtain⟨e,r,rfl,ef,e6⟩:=pR aa;obtain rfl:=te e6;exact Pn aO (has _ (.head _)) co ef ar
    ·obtain⟨e,r,rfl,ef,e6⟩:=pR aa;obtain⟨au,b3,rfl,fW,m7⟩:=pR e6;obtain rfl:=te m7;exact Pp aO (has _ (.head _)) (has _ (.tail _ (.head _))) co ef fW ar
   ·obtain⟨k,ai,rfl⟩:=omap h;erw[sG ai];exact QZ aQ bk aO has co aa aA ar
theorem Rk(aQ:cH w ae cb cm){x:Str}{bq p:Pos}{as:List Expr}{aH:ao}(aK:cx.gl x=true)(aw:c9 x "isinstance"=true)(h:(match as with|[_,t]=>(u0 cx as).bind fun bx=>(yD cx t).map fun b=>ao.bi b (.cons bx .nil)|_=>J)=I aH)(has:∀e,e∈as→bj w ae C n cx e):e5 w ae C n cx (.Call (.Name x bq) as [] p) aH:=by
 induction as using bY with
 |nil=>exact cQ h
 |cons a r=>
 induction r using bY with
 |nil=>exact cQ h
 |cons t r=>
 induction r using bY with
 |nil=>obtain⟨bx,ca,h⟩:=aU (show(aW cx a).bind _=I aH from h);obtain⟨b,bf,rfl⟩:=omap h;obtain⟨y,q,rfl,aa,ab⟩:=Rg bf;exact Pe aQ (has _ (.head _)) aK aw aa ab ca
 |cons=>exact cQ h
theorem Rl(aQ:cH w ae cb cm)(bk:eC w ae C n){f:Expr}{as:List Expr}{a8:List Keyword}{p:Pos}(has:∀e,e∈as→bj w ae C n cx e)(s8:∀o x q,f= .Attribute o x q→bj w ae C n cx o):bj w ae C n cx (.Call f as a8 p):=by
 refine bj.of fun aH ah=>?_;refine bC (fun zQ ah=>?_) (c1 (show(if a8.isEmpty then DU cx f as p (u0 cx as) (dv cx as) (DV cx f)else J)=I aH from ah));obtain rfl:=kk.mp zQ
 induction f using Expr.casesOn with
 |Name x bq=>
  refine bC (fun aK ah=>?_) (ht (show(if((cx.var x).isSome|| !cx.gl x)=true then J else if c9 x "isinstance"=true then _ else(dv cx as).bind (sk x))=I aH from ah))
  simp only[qv,uz,not_or,LK]at aK
  rcases h3 ah with⟨aw,ah⟩|ah
  ·exact Rk aQ aK.2 aw ah has
  ·obtain⟨bg,aa,ah⟩:=aU ah;exact Rh aQ bk has aK.2 aa ah
 |Attribute o x q=>refine bC (fun ar ah=>?_) (ht (show(if(!(q.endLine==p.line&&U (as.length<30)))=true then J else(aW cx o).bind fun po=>(dv cx as).bind fun es=>yE x po es)=I aH from ah));simp only[uz,LK,rV,decide_eq_true_eq]at ar;obtain⟨po,co,ah⟩:=aU ah;obtain⟨bg,aa,ah⟩:=aU ah;exact Rj aQ bk has (s8 _ _ _ rfl) co aa ar.1 ar.2 ah
 |_=>exact cQ ah
theorem Rm(aQ:cH w ae cb cm){e i:Expr}{p:Pos}(he:bj w ae C n cx e)(aw:bj w ae C n cx i):bj w ae C n cx (.Subscript e i p):=by
 refine bj.of fun aH ah=>?_;have plain:((aW cx e).bind fun e=>(aW cx i).map fun i=>ao.item e i)=I aH→e5 w ae C n cx (.Subscript e i p) aH:=fun h=>by obtain⟨td,ce,h⟩:=aU h;obtain⟨pi,ci,rfl⟩:=omap h;intro A ax G W fm st s pF st' hf R aN;exact OO aQ he aw ce ci ax hf R aN
 induction i using Expr.casesOn with
 |Slice l u sp q=>obtain⟨td,ce,ah⟩:=aU (show((aW cx e).bind fun e=>yA e l u sp)=I aH from ah);exact Ra he ce ah
 |_=>exact plain ah
theorem Rn(aQ:cH w ae cb cm){a8:List (Option Expr)}{vs:List Expr}{p:Pos}(h:∀e,e∈vs→∀aH,nV cx e=I aH→e5 w ae C n cx e aH):bj w ae C n cx (.Dict a8 vs p):=by
 refine bj.of fun aH ah=>?_
 rcases h3 (show(if(a8.isEmpty&&vs.isEmpty)=true then I ao.cw else if a8.length≠vs.length then J else _)=I aH from ah)with⟨aa,e⟩|ah
 ·obtain⟨aa,ab⟩:=cI.mp aa;cases e;obtain rfl:=kk.mp aa;obtain rfl:=kk.mp ab;exact Pq aQ
 ·obtain⟨ar,ah⟩:=ht ah;obtain⟨eS,ai,ah⟩:=aU ah;obtain⟨bg,ab,rfl⟩:=omap ah;exact PC aQ ai (CN.mp ar) h ab
theorem Ro(aQ:cH w ae cb cm){elt:Expr}{gens:List Comprehension}{scope:Scope}{p:Pos}
  (h:∀tgt it ifs k,gens=[⟨tgt,it,ifs,k⟩]→bj w ae C n cx it∧(∀f as p,it= .Call f as [] p→∀e,e∈as→bj w ae C n cx e)∧bj w ae C n (d8 cx scope tgt) elt∧∀c,c∈ifs→ST w ae C n (d8 cx scope tgt) c):bj w ae C n cx (.ListComp elt gens scope p):=by
 refine bj.of fun aH ah=>?_
 induction gens using bY with
 |nil=>exact cQ ah
 |cons g r=>
 induction g using Comprehension.casesOn with
 |mk tgt it ifs k=>
 induction r using bY with
 |cons=>exact cQ ah
 |nil=>
  have ai:k=0:=by
   refine bZ (fun ai:k=0=>?_) (fun ai=>?_)
   ·exact ai
   ·refine bC (fun aA ag=>?_) (ht (show(if k≠0 then J else _)=I aH from ah));exact absurd ai aA
  subst ai;obtain⟨aa,ab,aq,ba⟩:=h _ _ _ _ rfl;intro A ax G W fm st s pF st' hf R aN;exact QQ aQ aa ab aq ba ah ax hf R aN
end
end
end Tactic
end
section
open PySem PySem.W PySem.Calls PyProof.Rows PySem.SeqAt
namespace Tactic
noncomputable section
section
theorem mf{S a b m:Nat}(e:S=1+a+b)(h:S<m+1):a<m∧b<m:=⟨uH (qA ‹_› ‹_›),o' (qA ‹_› ‹_›)⟩
theorem lh{S a b c m:Nat}(e:S=1+a+b+c)(h:S<m+1):a<m∧b<m∧c<m:=⟨uH (jP (qA ‹_› ‹_›)),o' (jP (qA ‹_› ‹_›)),by lia⟩
theorem jv{S a b c d m:Nat}(e:S=1+a+b+c+d)(h:S<m+1):a<m∧b<m∧c<m∧d<m:=⟨uH (jP (jP (qA ‹_› ‹_›))),o' (jP (jP (qA ‹_› ‹_›))),by lia,by lia⟩
theorem Rp(aQ:cH w ae cb cm)(bk:eC w ae C n){m:Nat}(aG:∀e:Expr,sizeOf e<m→∀cx,bj w ae C n cx e∧ST w ae C n cx e)(e:Expr)(hm:sizeOf e<m+1)(cx:bV):bj w ae C n cx e∧ST w ae C n cx e:=by
 have mem:∀{es:List Expr} {e:Expr},e∈es→sizeOf es≤m→∀cx,bj w ae C n cx e∧ST w ae C n cx e:=fun h ar=>aG _ (ey (LL h) ar)
 induction e using Expr.casesOn with
 |Constant c k p=>exact⟨Gu,k8 Gu fun ag ag=>rfl⟩
 |Name x p=>exact⟨En aQ,k8 (En aQ) fun ag ag=>rfl⟩
 |BinOp a o b p=>obtain⟨ia,_,mf,_⟩:=jv (Expr.BinOp.sizeOf_spec ..) hm;have:bj w ae C n cx (.BinOp a o b p):=NW (aG a ia cx).1 (aG b mf cx).1;exact⟨this,k8 this fun ag ag=>rfl⟩
 |UnaryOp o a p=>
  have aB:=aG a (lh (Expr.UnaryOp.sizeOf_spec ..) hm).2.1 cx
  induction o using UnaryOp.casesOn with
  |USub=>exact⟨Ew aB.1,k8 (Ew aB.1) fun ag ag=>rfl⟩
  |Not=>exact⟨NX aB.1,NY aB.2⟩
  |_=>exact Am rfl
 |BoolOp op es p=>have hm:=da (lh (Expr.BoolOp.sizeOf_spec ..) hm).2.1;refine⟨Oh fun e he=>(mem he hm cx).1,?_⟩;intro aH ah A ax G W fm st s b st' hf R aN;exact EN (fun e he=>(mem he hm cx).2) (show cBool cx op es=I aH from ah) ax hf R aN
 |Compare a os bs p=>exact Rf (aG a (jv (Expr.Compare.sizeOf_spec ..) hm).1 cx).1 fun b bf=>(mem bf (da (jv (Expr.Compare.sizeOf_spec ..) hm).2.2.1) cx).1
 |IfExp t a b p=>have a5:=aG t (jv (Expr.IfExp.sizeOf_spec ..) hm).1 cx;have aB:=aG a (jv (Expr.IfExp.sizeOf_spec ..) hm).2.1 cx;have bf:=aG b (jv (Expr.IfExp.sizeOf_spec ..) hm).2.2.1 cx;exact⟨NZ a5.2 aB.1 bf.1,Rb a5.2 aB.2 bf.2⟩
 |Attribute e x p=>
  have he:bj w ae C n cx e:=(aG e (lh (Expr.Attribute.sizeOf_spec ..) hm).1 cx).1;have:bj w ae C n cx (.Attribute e x p):=by
   intro aH ah;have i3:=ah;obtain⟨k,_,aa⟩:=aU (show(jU x).bind _=I aH from i3);obtain⟨td,ce,_⟩:=omap aa;clear i3 aa;intro A ax G W fm st s pF st' hf R aN;refine Ow aQ he (fun env=>?_) ah ax hf R aN;have ay:eval (.Attribute e x p) env=(do
    let o←attributeBase e x env (eval e env)
    standAt p.atName
    let r←holding [o] (getAttr o x true)
    letTemporaryGo e o r
    pure r):=rfl
   erw[ay,Fo ce]
  exact⟨this,k8 this fun ag ag=>rfl⟩
 |Subscript e i p=>have:bj w ae C n cx (.Subscript e i p):=Rm aQ (aG e (lh (Expr.Subscript.sizeOf_spec ..) hm).1 cx).1 (aG i (lh (Expr.Subscript.sizeOf_spec ..) hm).2.1 cx).1;exact⟨this,k8 this fun ag ag=>rfl⟩
 |Tuple es k p=>have:bj w ae C n cx (.Tuple es k p):=OR fun e he=>(mem he (da (lh (Expr.Tuple.sizeOf_spec ..) hm).1) cx).1;exact⟨this,k8 this fun ag ag=>rfl⟩
 |List es p=>have:bj w ae C n cx (.List es p):=OS fun e he=>(mem he (da (mf (Expr.List.sizeOf_spec ..) hm).1) cx).1;exact⟨this,k8 this fun ag ag=>rfl⟩
 |Dict a8 vs p=>
  have hm:=(lh (Expr.Dict.sizeOf_spec ..) hm).2.1;have:bj w ae C n cx (.Dict a8 vs p):=Rn aQ fun e he aH hd=>by
   have k':=lR (LL he) hm;have plain:∀{e:Expr},sizeOf e<m→aW cx e=I aH→e5 w ae C n cx e aH:=fun h hd=>bj.qX (aG _ h cx).1 hd
   induction e using Expr.casesOn with
   |List es q=>obtain⟨bg,ah,rfl⟩:=omap (show(dv cx es).map ao.jk=I aH from hd);exact Fc (fun e he=>(mem he (da (mf (Expr.List.sizeOf_spec ..) (lN k')).1) cx).1) ah
   |Subscript e i q=>refine bC (fun av hd=>?_) (c1 (show(if uY i then(aW cx e).map ao.pd else J)=I aH from hd));obtain⟨aH,ce,rfl⟩:=omap hd;obtain⟨k,cL,ck,gK,rfl⟩:=Q' av;exact OV (aG e (lh (Expr.Subscript.sizeOf_spec ..) (lN k')).1 cx).1 ce
   |_=>exact plain k' hd
  exact⟨this,k8 this fun ag ag=>rfl⟩
 |Call f as a8 p=>
  obtain⟨aa,ab,_⟩:=jv (Expr.Call.sizeOf_spec ..) hm;have:bj w ae C n cx (.Call f as a8 p):=Rl aQ bk (fun e he=>(mem he (da ab) cx).1) fun o x q e=>by subst e;exact(aG o (lh (Expr.Attribute.sizeOf_spec ..) (lN aa)).1 cx).1
  exact⟨this,k8 this fun ag ag=>rfl⟩
 |ListComp elt gens scope p=>
  obtain⟨aa,ab,_⟩:=jv (Expr.ListComp.sizeOf_spec ..) hm;have:bj w ae C n cx (.ListComp elt gens scope p):=Ro aQ fun tgt it ifs k e=>by subst e;obtain⟨_,aq,ba,_⟩:=jv (Comprehension.mk.sizeOf_spec ..) (lN (mf (List.cons.sizeOf_spec ..) (lN ab)).1);refine⟨(aG it aq cx).1,fun f as p e a aB=>?_,(aG elt aa _).1,fun c ah=>(mem ah (da ba) _).2⟩;subst e;exact(mem aB (da (jv (Expr.Call.sizeOf_spec ..) (lN aq)).2.1) cx).1
  exact⟨this,k8 this fun ag ag=>rfl⟩
 |_=>exact Am rfl
theorem hb(aQ:cH w ae cb cm)(bk:eC w ae C n)(e:Expr)(cx:bV):bj w ae C n cx e∧ST w ae C n cx e:=by
 have:∀m,∀e:Expr,sizeOf e<m→∀cx,bj w ae C n cx e∧ST w ae C n cx e:=by
  intro m
  induction m with
  |zero=>intro e h;exact absurd h (o6 _)
  |succ m aG=>exact Rp aQ bk aG
 exact this _ e (ki _) cx
end
end
end Tactic
end
section
open PySem PySem.W PySem.Calls PyProof.Rows PySem.SeqAt
namespace Tactic
noncomputable section
section
variable{cx:bV}{A:Around}{G:Addr→Obj→Prop}{W W':a3}{fm fm':bS}{st st':St}{s:Shared}
def ml(w:World)(ae:Heap)(C:Calls)(n:Nat)(cx:bV)(t:Expr)(pt:dS):Prop:=∀A,d1 n A→∀{G W fm st s x u st'},dw cx fm→Rel w ae G W fm st s→b8 W x u→asg C pt x st=I st'→wpAny (model a4 w) A (assign t fm.env u) (fun ag=>hx w ae G W fm s st') bL s
theorem Rq{x:Str}{p:Pos}{i:Nat}(h:cx.ak x=I i):ml w ae C n cx (.Name x p) (.loc i):=by intro A ax G W fm st s x u st' hf R r aB;cases aB;exact wpAny_mono (vy R hf h r) (fun ag s' q=>⟨W,.rfl,q.1,q.2⟩) fun ag ag x=>x
theorem Rr(aQ:cH w ae cb cm){e:Expr}{k:Nat}{p:Pos}{aH:ao}(he:bj w ae C n cx e)(ce:aW cx e=I aH):ml w ae C n cx (.Attribute e (nm k) p) (.attr aH k):=by
 intro A ax G W fm st s x u st' hf R r aB;obtain⟨o,s1,iX,aa⟩:=b2 (show aY (aj C aH st) (fun o st=>st.setAttr o k x)=I st' from aB);show wpAny _ A (do
  let ju←holding [u] (eval e fm.env)
  standAt p.atName
  holding [u,ju] (setAttr ju (nm k) u)
  release [u,ju] []) _ _ s
 refine wpAny_bind (wpAny_holding (dk (he ce ax hf R iX) fun ju s₁ W1 aM aZ a7 a0=>?_));refine wpAny_bind (wpAny_standAt (wpAny_bind (wpAny_holding (wpAny_mono (OC aQ aZ a7 (r.mono aM) aa) (fun ag s₂ q=>?_) fun ag ag x=>x))));exact wpAny_releaseD (hx.step aM a0 q)
set_option backward.match.sparseCases true in
theorem Rt(aQ:cH w ae cb cm){e i:Expr}{p:Pos}{aH pi:ao}(he:bj w ae C n cx e)(aw:bj w ae C n cx i)(ce:aW cx e=I aH)(ci:aW cx i=I pi):ml w ae C n cx (.Subscript e i p) (.item aH pi):=by
 intro A ax G W fm st s x u st' hf R r aB;obtain⟨o,s1,iX,aa⟩:=b2 (show aY (aj C aH st) (fun o st=>aY (aj C pi st) fun j st=>st.setItem o j x)=I st' from aB);obtain⟨j,s2,pz,ab⟩:=b2 aa;show wpAny _ A (do
  let ju←holding [u] (eval e fm.env)
  let tf←holding [u,ju] (eval i fm.env)
  standAt p
  holding [u,ju,tf] (setItem ju tf u)
  release (match(generalizing:=false) i with| .Slice _ _ J _=>[tf,u,ju]|_=>[u,ju,tf]) []) _ _ s
 refine wpAny_bind (wpAny_holding (dk (he ce ax hf R iX) fun ju s₁ W1 aM aZ a7 a0=>?_));refine wpAny_bind (wpAny_holding (dk (aw ci ax hf aZ pz) fun tf s₂ cN bt cy b3 cK=>?_));refine wpAny_bind (wpAny_standAt (wpAny_bind (wpAny_holding (wpAny_mono (E6 aQ cy (a7.mono bt) b3 (r.mono (aM.trans bt)) ab) (fun ag gO q=>?_) fun ag ag x=>x))));exact wpAny_releaseD (hx.step (aM.trans bt) (cK.trans a0) q)
theorem b5.Gy:∀{vs:List V} {us:List Value},b5 W vs us→cM W (vs.map .v) us:=by
 intro aT
 induction aT with
 |nil=>intro _ h;erw[h.u3];trivial
 |cons v vs aD=>intro _ h;obtain⟨u,us,rfl,a,b⟩:=h.so;exact⟨a,aD b⟩
theorem cM.length:∀{xs:List X} {us:List Value},cM W xs us→us.length=xs.length
 |[],[],_=>rfl
 |_::_,_::_,h=>by simp[cM.length h.2]
 |[],_::_,h=>h.elim
 |_::_,[],h=>h.elim
theorem vU{t:Expr}{ts:List Expr}{fX:dI}(h:jW cx (t::ts)=I fX):∃a b,iy cx t=I a∧jW cx ts=I b∧fX= .cons a b:=by refine eA fun cF=>?_;obtain⟨a,aa,h⟩:=aU (show(iy cx t).bind _=_ from h);obtain⟨b,ab,rfl⟩:=omap h;refine cF ?_;exact⟨a,b,aa,ab,rfl⟩
theorem An{t:Expr}{ts:List Expr}{pt:dS}{env:Env}(h:iy cx t=I pt):assignEach (t::ts) env=(false,assign t env)::assignEach ts env:=by
 induction t using Expr.casesOn<;>first|rfl|exact cQ h
theorem Gz{env:Env}:∀{ts:List Expr} {fX:dI},jW cx ts=I fX→(assignEach ts env).length=ts.length∧(assignEach ts env).findIdx? (·.1)=J:=by
 intro aT
 induction aT with
 |nil=>intro _ _;exact⟨rfl,rfl⟩
 |cons t ts aD=>intro _ h;obtain⟨a,b,aa,ab,rfl⟩:=vU h;obtain⟨cZ,dt⟩:=aD ab;erw[An aa];exact⟨by simp[cZ],by erw[Z3,dt];rfl⟩
inductive GA(C:Calls)(t:dS)(ts:dI)(xs:List X)(st st':St):Prop where
 |mk (x:X) (r:List X) (e:xs=x::r) (s1:St) (h:asg C t x st=I s1) (ab:gb C ts r s1=I st'):GA C t ts xs st st'
theorem Ao{t:dS}{ts:dI}{xs:List X}(h:gb C (.cons t ts) xs st=I st'):GA C t ts xs st st':=by
 obtain⟨x,aC,aa⟩:=aU (show xs.head?.bind (fun x=>(asg C t x st).bind fun st=>gb C ts xs.tail st)=I st' from h);obtain⟨s1,ab,aq⟩:=aU aa
 induction xs using bY with
 |nil=>cases aC
 |cons y r=>cases aC;exact⟨_,r,rfl,s1,ab,aq⟩
theorem Ap{xs:List X}(h:gb C .nil xs st=I st'):xs=[]∧st'=st:=by refine bC (fun aa ab=>?_) (c1 (show(if xs.isEmpty then I st else J)=I st' from h));cases ab;exact⟨kk.mp aa,rfl⟩
theorem GB{f:Value→Sem Unit}{fs:List (Value→Sem Unit)}{v:Value}{vs:List Value}:assignInOrder (f::fs) (v::vs)=(do holding vs (f v);assignInOrder fs vs):=rfl
theorem GC:∀{ts:List Expr} {fX:dI},jW cx ts=I fX→(∀t,t∈ts→∀pt,iy cx t=I pt→ml w ae C n cx t pt)→∀{A},d1 n A→∀{G W fm st s xs us st'},dw cx fm→Rel w ae G W fm st s→cM W xs us→gb C fX xs st=I st'→wpAny (model a4 w) A (assignInOrder ((assignEach ts fm.env).map (·.2)) us) (fun ag=>hx w ae G W fm s st') bL s:=by
 intro aT
 induction aT with
 |nil=>
  intro _ ah _ _ _ _ _ _ _ _ xs us _ _ R r aB;cases ah;obtain⟨rfl,rfl⟩:=Ap aB
  induction us using bY with
  |nil=>exact wpAny_pure ⟨_,.rfl,R,rfl⟩
  |cons=>exact r.elim
 |cons t ts aD=>
  intro _ ah h A ax _ _ fm _ s xs us _ hf R r aB;obtain⟨a,b,aa,ab,rfl⟩:=vU ah;obtain⟨x,xs,rfl,s1,bT,Ru⟩:=Ao aB
  induction us using bY with
  |nil=>exact r.elim
  |cons u us=>erw[An aa];show wpAny _ _ (assignInOrder (assign t fm.env::(assignEach ts fm.env).map (·.2)) (u::us)) _ _ _;erw[GB];refine wpAny_bind (wpAny_holding (sF (h t (.head _) a aa _ ax hf R r.1 bT) fun ag s' W1 aM aZ a0=>?_));exact wpAny_mono (aD ab (fun t a5=>h t (.tail _ a5)) ax hf aZ (r.2.mono aM) Ru) (fun ag mg gu=>hx.step aM a0 gu) fun ag ag x=>x
theorem GD:∀{ts:List Expr} {fX:dI} {xs:List X} {st:St},jW cx ts=I fX→gb C fX xs st=I st'→ts.length=xs.length:=by
 intro aT
 induction aT with
 |nil=>
  intro _ _ _ ah aB;cases ah;obtain⟨rfl,_⟩:=Ap aB
  rfl
 |cons t ts aD=>intro _ _ _ ah aB;obtain⟨_,_,_,ab,rfl⟩:=vU ah;obtain⟨x,r,rfl,s1,_,h⟩:=Ao aB;erw[gA,gA,aD ab h]
theorem Rv{ts:List Expr}{k:Nat}{p:Pos}{fX:dI}(ah:jW cx ts=I fX)(h:∀t,t∈ts→∀pt,iy cx t=I pt→ml w ae C n cx t pt):ml w ae C n cx (.Tuple ts k p) (.tup fX):=by intro A ax G W fm st s x u st' hf R r aB;obtain⟨vs,aC,aB⟩:=aU (show(uR x).bind (fun vs=>gb C fX (vs.map .v) st)=I st' from aB);obtain rfl:=Eu aC;obtain⟨us,l,dH,rfl,ay,bO⟩:=n8 R r;refine bC (fun a b=>?_) (Gz (env:=fm.env) ah);have hlen:=GD ah aB;rw[bF]at hlen;refine wpAny_assign_Tuple (items:=us.toArray) ax.h ⟨_,ay,rfl,_,rfl⟩ (by erw[a,hlen,jg,bO.1]) b fun h' ai=>?_;exact sF (GC ah h ax hf (R.keep (h':=h') (k:=s.toks) fun b o e=>ai b o (kg (Heap.lt_size e)) e) bO.Gy aB) fun ag ag W1 a b c=>⟨W1,a,b,c⟩
theorem Rw(aQ:cH w ae cb cm)(bk:eC w ae C n){m:Nat}(aG:∀t:Expr,sizeOf t<m→∀pt,iy cx t=I pt→ml w ae C n cx t pt)(t:Expr)(hm:sizeOf t<m+1)(pt:dS)(h:iy cx t=I pt):ml w ae C n cx t pt:=by
 induction t using Expr.casesOn with
 |Name x p=>obtain⟨i,aw,rfl⟩:=omap (show(cx.ak x).map dS.loc=I pt from h);exact Rq aw
 |Attribute e x p=>obtain⟨k,ai,h⟩:=aU (show(jU x).bind _=I pt from h);obtain⟨aH,ce,rfl⟩:=omap h;erw[sG ai];exact Rr aQ (hb aQ bk e cx).1 ce
 |Subscript e i p=>obtain⟨aH,ce,h⟩:=aU (show(aW cx e).bind _=I pt from h);obtain⟨pi,ci,rfl⟩:=omap h;exact Rt aQ (hb aQ bk e cx).1 (hb aQ bk i cx).1 ce ci
 |Tuple ts k p=>obtain⟨fX,aa,rfl⟩:=omap (show(jW cx ts).map dS.tup=I pt from h);simp only[Expr.Tuple.sizeOf_spec]at hm;exact Rv aa fun t a5=>aG t (by have:=LL a5;lia)
 |_=>exact cQ h
theorem GF(aQ:cH w ae cb cm)(bk:eC w ae C n){t:Expr}{pt:dS}(h:iy cx t=I pt):ml w ae C n cx t pt:=by
 have:∀m,∀t:Expr,sizeOf t<m→∀pt,iy cx t=I pt→ml w ae C n cx t pt:=by
  intro m
  induction m with
  |zero=>intro e h;exact absurd h (o6 _)
  |succ m aG=>exact Rw aQ bk aG
 exact this _ t (ki _) pt h
end
end
end Tactic
end
section
open PySem PySem.W PySem.Calls PyProof.Rows PySem.SeqAt
namespace Tactic
noncomputable section
section
variable{cx:bV}{A:Around}{G:Addr→Obj→Prop}{W W':a3}{fm fm':bS}{st st':St}{s:Shared}
theorem Rx(aQ:cH w ae cb cm){f:Str}{bq p:Pos}{a:Expr}{bx:ao}(aB:bj w ae C n cx a)(aC:cx.gl f=true)(ar:c9 f "list"=true)(ca:aW cx a=I bx):e5 w ae C n cx (.Call (.Name f bq) [a] [] p) (.r' bx):=by
 intro A ax G W fm st s v st' hf R aN;obtain⟨x,s1,bT,aa⟩:=b2 (show aY (aj C bx st) _=I (v,st')from aN);obtain⟨b,aJ,ab⟩:=aU aa;obtain⟨aS,aL,aq⟩:=aU ab;refine bC (fun eH ba=>?_) (oe aq);clear aN aa ab aq;cases ba;have Ry:k3 f n2=I .list:=by erw[beq_iff_eq.mp ar];kernel_rfl
 refine Call_ (Ff aQ R hf aC Ry (zG (fun e he=>by rw[dY]at he;subst he;exact aB) (sQ ca) ax hf R (vu bT) (Fm .list) fun us W1 s' aM aZ a0 a7=>?_));have m4:vals s1 [x]=I [b]:=by show(s1.val x).bind _=_;erw[aJ];rfl
 obtain⟨l,T,qZ,k,rfl,e,bO,d'⟩:=zD aZ a7 m4 aL;refine call_list_seq l (d'.elim (fun h=>.inl h.1) fun h=>.inr h.1) e rfl rfl (fun h' dr ai e=>?_) (by have:=hz eH;erw[jg,bO.1];exact this);have le:W1.le {W1 with p:=W1.p++[(s'.heap.objs.size,s'.heap.objs.size)]}:=⟨fun ag ag h=>h,iq _,o4 _ _⟩
 refine⟨{W1 with p:=W1.p++[(s'.heap.objs.size,s'.heap.objs.size)]},aM.trans le,(aZ.keep (k:=s'.toks) ai).n7 (q:=(s'.heap.objs.size,s'.heap.objs.size)) (c:=.lst aS) (aZ.h5 (bE _)) ⟨rfl,qZ,⟨dr,e⟩,bO.mono le⟩,⟨(s'.heap.objs.size,s'.heap.objs.size),?_,rfl⟩,a0⟩;erw[←aZ.len,iP (bE _),kW];rfl
theorem Rz{e:Expr}{es:List Expr}(h:listOf e=I es):∃p,e= .List es p:=by induction e using Expr.casesOn<;>cases h;exact⟨_,rfl⟩
theorem GG{e:Expr}{es:List Expr}(h:k5 e=I es):∃k p,e= .Tuple es k p:=by induction e using Expr.casesOn<;>cases h;exact⟨_,_,rfl⟩
theorem GH(aQ:cH w ae cb cm)(bk:eC w ae C n){e:Expr}{aH:ao}(h:pq cx e=I aH):e5 w ae C n cx e aH:=by
 unfold pq at h;cases he:listOf e with
 |some es=>rw[he]at h;obtain⟨p,rfl⟩:=Rz he;obtain⟨bg,aa,rfl⟩:=omap (show(dv cx es).map ao.jk=I aH from h);exact Fc (fun e he=>(hb aQ bk e cx).1) aa
 |none=>rw[he]at h;exact bj.qX (hb aQ bk e cx).1 h
theorem RA{e a:Expr}(h:u1 cx e=I a):∃x bq p,e= .Call (.Name x bq) [a] [] p∧cx.gl x=true∧c9 x "list"=true:=by
 induction e using Expr.casesOn with
 |Call f as a8 p=>
  induction as using bY with
  |nil=>exact cQ h
  |cons b as=>
  induction as using bY with
  |cons=>exact cQ h
  |nil=>
   induction f using Expr.casesOn with
   |Name x bq=>obtain⟨hh,h⟩:=c1 (show(if(c9 x "list"&&(cx.var x).isNone&&cx.gl x&&a8.isEmpty)=true then I b else J)=I a from h);cases h;simp only[rV]at hh;obtain⟨⟨⟨aa,ab⟩,aq⟩,ba⟩:=hh;obtain rfl:=kk.mp ba;exact⟨x,bq,p,rfl,aq,aa⟩
   |_=>exact cQ h
 |_=>exact cQ h
theorem RB(aQ:cH w ae cb cm)(bk:eC w ae C n){e:Expr}{aH:ao}(h:u2 cx e=I aH):e5 w ae C n cx e aH:=by
 unfold u2 at h;cases aB:u1 cx e with
 |some a=>rw[aB]at h;obtain⟨x,bq,p,rfl,aa,ab⟩:=RA aB;obtain⟨bx,ca,rfl⟩:=omap (show(aW cx a).map ao.r'=I aH from h);exact Rx aQ (hb aQ bk a cx).1 aa ab ca
 |none=>rw[aB]at h;exact GH aQ bk h
theorem GI(aQ:cH w ae cb cm)(bk:eC w ae C n){t e:Expr}{aH:ao}(h:l1 cx t e=I aH):e5 w ae C n cx e aH:=by
 rcases h3 h with⟨_,h⟩|h
 ·exact RB aQ bk h
 ·exact bj.qX (hb aQ bk e cx).1 h
theorem GJ{t e:Expr}{ts es:List Expr}{bg:az}(h:n3 cx (t::ts) (e::es)=I bg):∃a b,l1 cx t e=I a∧n3 cx ts es=I b∧bg= .cons a b:=by refine eA fun cF=>?_;obtain⟨a,aa,h⟩:=aU (show(l1 cx t e).bind _=_ from h);obtain⟨b,ab,rfl⟩:=omap h;refine cF ?_;exact⟨a,b,aa,ab,rfl⟩
theorem RC{t e:Expr}{rest:List Expr}{env:Env}{aH:ao}(h:l1 cx t e=I aH):starEach (e::rest) env=(false,eval e env)::starEach rest env:=by
 have:∀a q,e≠ .Starred a q:=by
  rintro a q rfl
  rcases h3 h with⟨_,h⟩|h<;>exact cQ h
 induction e using Expr.casesOn<;>first|rfl|exact absurd rfl (this _ _)
theorem RD:∀{ts es:List Expr} {bg:az},n3 cx ts es=I bg→ts.length=es.length:=by
 intro ts
 induction ts with
 |nil=>
  intro es _ h
  induction es using bY with
  |nil=>rfl
  |cons=>exact cQ h
 |cons t ts aD=>
  intro es _ h
  induction es using bY with
  |nil=>exact cQ h
  |cons e es=>obtain⟨a,b,_,ab,_⟩:=GJ h;exact congrArg (· +1) (aD ab)
theorem RE(aQ:cH w ae cb cm)(bk:eC w ae C n){pos:Pos}:∀{ts es:List Expr} {bg:az},n3 cx ts es=I bg→∀{A},d1 n A→∀{G W fm st s xs st'},dw cx fm→Rel w ae G W fm st s→dq C bg st=I (xs,st')→wpAny (model a4 w) A (spliced (backTo pos (starEach es fm.env))) (vl w ae G W fm s st' xs) bL s:=by
 intro ts
 induction ts with
 |nil=>
  intro es bg ah A ax G W fm st s xs st' hf R aN
  induction es using bY with
  |nil=>cases ah;cases aN;exact args_nil ⟨_,.rfl,R,trivial,rfl⟩
  |cons=>exact cQ ah
 |cons t ts aD=>
  intro es bg ah A ax G W fm st s xs st' hf R aN
  induction es using bY with
  |nil=>exact cQ ah
  |cons e es=>obtain⟨a,b,aa,ab,rfl⟩:=GJ ah;obtain⟨x,s1,bT,aS,cV,rfl⟩:=zL aN;exact args_cons (dk (GI aQ bk aa _ ax hf R bT) fun u s₁ W1 aM aZ a7 a0=>qV (aD ab ax hf aZ cV) fun v s₂ cN bt cy b3 cK=>⟨cN,aM.trans bt,cy,⟨a7.mono bt,b3⟩,cK.trans a0⟩) (RC aa)
theorem RF(st:St){i j:Nat}(x y:X)(h:i≠j):(st.f' i x).f' j y=(st.f' j y).f' i x:=by simp only[St.f',List.set_comm _ _ h]
theorem RG:∀{is:List Nat} {xs:List X} {st:St} {i:Nat} {x:X},i ∉ is→iw is xs (st.f' i x)=(iw is xs st).f' i x:=by
 intro is
 induction is with
 |nil=>intro xs _ _ _ _;induction xs using bY<;>rfl
 |cons j is aD=>
  intro xs st i x h
  induction xs using bY with
  |nil=>rfl
  |cons y xs=>show iw is xs ((st.f' i x).f' j y)=(iw is xs (st.f' j y)).f' i x;erw[RF st x y (fun e=>h (by erw[e];exact .head _)),aD fun hm=>h (.tail _ hm)]
theorem RH:∀{is vV:List Nat} {xs aS:List X} {st:St},is.length=xs.length→iw (is++vV) (xs++aS) st=iw vV aS (iw is xs st):=by
 intro is
 induction is with
 |nil=>
  intro vV xs aS st h
  induction xs using bY with
  |nil=>rfl
  |cons=>exact nomatch h
 |cons i is aD=>
  intro vV xs aS st h
  induction xs using bY with
  |nil=>exact nomatch h
  |cons x xs=>exact aD (st:=st.f' i x) (Nat.succ.inj h)
theorem RI:∀{is:List Nat} {xs:List X} {st:St},is.Nodup→is.length=xs.length→iw is.reverse xs.reverse st=iw is xs st:=by
 intro is
 induction is with
 |nil=>
  intro xs _ _ h
  induction xs using bY with
  |nil=>rfl
  |cons=>exact nomatch h
 |cons i is aD=>
  intro xs st aA ar
  induction xs using bY with
  |nil=>exact nomatch ar
  |cons x xs=>refine bC (fun aa ab=>?_) (jf.mp aA);erw[mF,mF,RH ((ff ..).trans ((Nat.succ.inj ar).trans (ff ..).symm)),aD ab (Nat.succ.inj ar)];show(iw is xs st).f' i x=iw is xs (st.f' i x);erw[RG aa]
theorem RJ(hf:dw cx fm):∀{ns:List Str} {is:List Nat} {xs:List X} {us:List Value} {st:St} {s:Shared},(∀(j:Nat) (x:Str) (i:Nat),ns[j]? =I x→is[j]? =I i→cx.ak x=I i)→ns.length=is.length→Rel w ae G W fm st s→cM W xs us→ns.length=xs.length→wpAny (model a4 w) A (assignInOrder (ns.map fun x=>bindName fm.env x) us) (fun ag s'=>Rel w ae G W fm (iw is xs st) s'∧s'.os=s.os) bL s:=by
 intro ns
 induction ns with
 |nil=>
  intro is xs us st s h ar R r oo
  induction is using bY with
  |cons=>exact nomatch ar
  |nil=>
  induction xs using bY with
  |cons=>exact nomatch oo
  |nil=>
  induction us using bY with
  |cons=>exact r.elim
  |nil=>exact wpAny_pure ⟨R,rfl⟩
 |cons x ns aD=>
  intro is xs us st s h ar R r oo
  induction is using bY with
  |nil=>exact nomatch ar
  |cons i is=>
  induction xs using bY with
  |nil=>exact nomatch oo
  |cons y xs=>
  induction us using bY with
  |nil=>exact r.elim
  |cons u us=>
  show wpAny _ _ (assignInOrder (bindName fm.env x::ns.map fun x=>bindName fm.env x) (u::us)) _ _ _;rw[GB];refine wpAny_bind (wpAny_holding (wpAny_mono (wpAny_bindName (zR (v:=y) R hf (h 0 x i rfl rfl) r.1)) (fun ag s' q=>?_) fun ag ag x=>x));exact wpAny_mono (aD (fun j x i a b=>h (j+1) x i a b) (Nat.succ.inj ar) q.1 r.2 (Nat.succ.inj oo)) (fun ag mg gu=>⟨gu.1,gu.2.trans q.2⟩) fun ag ag x=>x
end
end
end Tactic
end
section
open PySem PySem.W PySem.Calls PyProof.Rows PySem.SeqAt
namespace Tactic
noncomputable section
noncomputable def vW(W:a3):R→Flow→Prop
 | .next,.next=>True
 | .cont,.cont=>True
 | .ret x,.ret v=>b8 W x v
 |_,_=>False
inductive lq(w:World)(ae:Heap)(G:Addr→Obj→Prop)(W:a3)(fm:bS)(s:Shared)(st':St)(r:R)(dB:Flow)(s':Shared):Prop where
 |mk (W':a3) (l:W.le W') (R:Rel w ae G W' fm st' s') (f:vW W' r dB) (o:s'.os=s.os):lq w ae G W fm s st' r dB s'
def jz(w:World)(ae:Heap)(C:Calls)(n:Nat)(cx:bV)(x:Stmt)(c6:c8):Prop:=∀A,d1 n A→∀{G W fm st s r st'},dw cx fm→Rel w ae G W fm st s→iS C c6 st=I (r,st')→wpAny (model a4 w) A (exec x fm.env) (lq w ae G W fm s st' r) bL s
def oy(w:World)(ae:Heap)(C:Calls)(n:Nat)(cx:bV)(x:List Stmt)(c6:bD):Prop:=∀A,d1 n A→∀{G W fm st s r st'},dw cx fm→Rel w ae G W fm st s→bI C c6 st=I (r,st')→wpAny (model a4 w) A (execs x fm.env) (lq w ae G W fm s st' r) bL s
set_option backward.match.sparseCases true in
noncomputable def j0(env:Env)(line:Nat):Expr→Option Str
 | .Name id pos=>if env.kindOf id==I .local&&pos.line==line then I id else J
 |_=>J
theorem GK:∀(k:Nat) {l:List Str},l.length≤k→l.eraseDups.length≤l.length
 |_,[],_=>by erw[List.eraseDups_nil];exact bE _
 |k+1,a::as,h=>by erw[Z5];have aa:=LM (fun b=> !b==a) as;exact je (bR (GK k (bR aa (o7 h))) aa)
theorem RK{l:List Str}:l.eraseDups.length=l.length→l.Nodup:=by
 induction l with
 |nil=>exact fun ag=>.nil
 |cons a as aG=>intro h;rw[Z5]at h;have h:=Nat.succ.inj h;have e:=rU (LM _ as) (bR (eQ h.symm) (GK _ (bE _)));have au:=List.length_filter_eq_length_iff.mp e;replace h:=(List.filter_eq_self.mpr au)▸h;exact jf.mpr ⟨fun hm=>(by have:=au a hm;rw[beq_self_eq_true]at this;cases this),aG h⟩
theorem RL{α:Type}{ef e6 fW m7 Aq:Prop}[Decidable ef][Decidable e6][Decidable fW][Decidable m7][Decidable Aq]{X A RM B:α}(e:X=if ef then A else if e6 then A else if fW then A else if m7 then A else if Aq then RM else B)(h:¬m7→¬Aq):X=A∨(¬fW∧X=B):=by
 refine bZ (fun aa:ef=>?_) (fun aa=>?_)
 ·exact .inl (e.trans (if_pos aa))
 have e:=e.trans (if_neg aa);refine bZ (fun ab:e6=>?_) (fun ab=>?_)
 ·exact .inl (e.trans (if_pos ab))
 have e:=e.trans (if_neg ab);refine bZ (fun aq:fW=>?_) (fun aq=>?_)
 ·exact .inl (e.trans (if_pos aq))
 have e:=e.trans (if_neg aq);refine bZ (fun ba:m7=>?_) (fun ba=>?_)
 ·exact .inl (e.trans (if_pos ba))
 exact .inr ⟨aq,(e.trans (if_neg ba)).trans (if_neg (h ba))⟩
set_option backward.match.sparseCases true in
theorem RN{ts vs:List Expr}{kt kv:Nat}{pt pv:Pos}{env:Env}(h:sl vs=true):swappedStores [.Tuple ts kt pt] (.Tuple vs kv pv) env=pure J∨
  ∃line,swappedStores [.Tuple ts kt pt] (.Tuple vs kv pv) env=pure (I (ts.filterMap (j0 env line)))∧(ts.filterMap (j0 env line)).length=ts.length∧(ts.filterMap (j0 env line)).Nodup:=by
 have e:swappedStores [.Tuple ts kt pt] (.Tuple vs kv pv) env=(if(!(ts.length==2||ts.length==3)||vs.length !=ts.length||env.blockKind != .function)=true then pure J else
   if(vs.any fun| .Starred .. =>true|_=>false)=true then pure J else
   if((ts.filterMap (j0 env ((ts.head?.map (·.pos.line)).getD 0))).length !=ts.length||(ts.filterMap (j0 env ((ts.head?.map (·.pos.line)).getD 0))).eraseDups.length !=(ts.filterMap (j0 env ((ts.head?.map (·.pos.line)).getD 0))).length)=true then pure J else
   if vs.all (foldedForSure 8)=true then pure J else
   if vs.all (constantsAlone 8)=true then unsupported "assign.tuple-of-constant-expressions:order-of-the-stores" else pure (I (ts.filterMap (j0 env ((ts.head?.map (·.pos.line)).getD 0))))):=rfl
 rcases RL e fun vX b0=>vX (by have:=(cI.mp h).2;replace this:=b0▸this;exact this)with h|⟨aq,ae⟩
 ·exact .inl h
 ·refine bC (fun a b=>?_) (Z6.mp (Bool.eq_false_iff.mpr aq));exact .inr ⟨_,ae,bne_eq_false_iff_eq.mp a,RK (bne_eq_false_iff_eq.mp b)⟩
theorem RO{env:Env}{line:Nat}{ts:List Expr}:(ts.filterMap (j0 env line)).length=ts.length→∀(j:Nat) x,(ts.filterMap (j0 env line))[j]? =I x→∃p,ts[j]? =I (.Name x p):=by
 induction ts with
 |nil=>intro _ j x h;exact cQ h
 |cons t ts aG=>
  intro ar j x h;rw[uA]at ar h;generalize aV:j0 env line t=o at ar h
  rcases o with _|y
  ·exact absurd (Z7 (j0 env line) ts) (Nat.not_le.mpr (rT (ki _) ar.symm))
  ·induction j using fe with
   |zero=>
    cases Option.some.inj h
    induction t using Expr.casesOn with
    |Name id pos=>cases Option.some.inj (c1 (show(if(env.kindOf id==I .local&&pos.line==line)=true then I id else J)=I _ from aV)).2;exact⟨pos,rfl⟩
    |_=>exact cQ aV
   |succ j=>exact aG (Nat.succ.inj ar) j x h
section
variable{cx:bV}{A:Around}{G:Addr→Obj→Prop}{W W':a3}{fm fm':bS}{st st':St}{s:Shared}
theorem GL{M:Model}{E:Value→Shared→Prop}{env:Env}{t value:Expr}{pos:Pos}{Q:Flow→Shared→Prop}(h:wpAny M A (eval value env) (fun v s₁=>wpAny M A (assign t env v) (fun ag=>Q .next) E s₁) E s)
  (aL:swapsWith value (I t) pos.line env=pure false) (hw:swappedStores [t] value env=pure J) (he:(assignEach [t] env).map (·.2)=[assign t env]):wpAny M A (exec (.Assign [t] value pos) env) Q E s:=by
 erw[exec_Assign];refine wpAny_bind (wpAny_standAt ?_);show wpAny M A (swapsWith value (I t) pos.line env>>=_) _ _ _;erw[aL];refine wpAny_bind (wpAny_pure ?_);erw[if_neg (by decide)];refine wpAny_bind (wpAny_mono h (fun v s₁ h₁=>?_) fun ag ag x=>x);erw[hw,he];refine wpAny_bind (wpAny_pure ?_);show wpAny M A (do assignAll v [assign t env];pure .next) Q E s₁;exact wpAny_bind (wpAny_mono h₁ (fun ag ag x=>wpAny_pure x) fun ag ag x=>x)
theorem RP{t e:Expr}{line:Nat}{env:Env}{aH:ao}(h:l1 cx t e=I aH):(∃elt gens sc p,e= .ListComp elt gens sc p)∨swapsWith e (I t) line env=pure false:=by
 have no:∀{x:Expr},x=e→aW cx x=none→pq cx x=none→u1 cx x=none→False:=by
  rintro x rfl aa ab aq;unfold l1 u2 at h;replace h:=aq▸(ab▸(aa▸h))
  rcases h3 h with⟨_,h⟩|h<;>exact cQ h
 induction e using Expr.casesOn<;>first|exact .inl ⟨_,_,_,_,rfl⟩|exact .inr rfl|exact(no rfl rfl rfl rfl).elim
theorem RQ{t e:Expr}{env:Env}{pt:dS}(h:iy cx t=I pt)(aA:k5 t=J∨k5 e=J):swappedStores [t] e env=pure J:=by
 induction t using Expr.casesOn<;>first|rfl|exact cQ h|skip
 rcases aA with aA|aA
 ·cases aA
 ·induction e using Expr.casesOn<;>first|rfl|cases aA
theorem RS{elt:Expr}{gens:List Comprehension}{scope:Scope}{p:Pos}{aH:ao}(h:aW cx (.ListComp elt gens scope p)=I aH):∃tgt it ifs,gens=[⟨tgt,it,ifs,0⟩]:=by
 induction gens using bY with
 |nil=>exact cQ h
 |cons g r=>
 induction g using Comprehension.casesOn with
 |mk tgt it ifs k=>
 induction r using bY with
 |cons=>exact cQ h
 |nil=>
  refine bZ (fun ai:k=0=>?_) (fun ai=>?_)
  ·subst ai;exact⟨tgt,it,ifs,rfl⟩
  ·refine bC (fun aA ag=>?_) (ht (show(if k≠0 then J else _)=I aH from h));exact absurd ai aA
theorem RT(aQ:cH w ae cb cm)(bk:eC w ae C n){t e:Expr}{p:Pos}{pt:dS}{aH:ao}(a5:iy cx t=I pt)(aJ:l1 cx t e=I aH)(aA:k5 t=J∨k5 e=J):jz w ae C n cx (.Assign [t] e p) (.assign pt aH):=by
 intro A ax G W fm st s r st' hf R aC;obtain⟨x,s1,ev,aa⟩:=b2 (show aY (aj C aH st) (fun x st=>(asg C pt x st).map fun st=>(Tactic.R.next,st))=I (r,st')from aC);obtain⟨s2,aB,ab⟩:=omap aa;clear aC aa;cases ab;have plain:swapsWith e (I t) p.line fm.env=pure false→wpAny (model a4 w) A (exec (.Assign [t] e p) fm.env) (lq w ae G W fm s s2 .next) bL s:=fun aL=>by refine GL ?_ aL (RQ a5 aA) (by erw[An a5];rfl);exact dk (GI aQ bk aJ _ ax hf R ev) fun v s₁ W1 aM aZ a7 a0=>sF (GF aQ bk a5 _ ax hf aZ a7 aB) fun ag s₂ cN bt cy cK=>⟨cN,aM.trans bt,cy,trivial,cK.trans a0⟩
 rcases RP (line:=p.line) (env:=fm.env) aJ with⟨elt,gens,sc,q,rfl⟩|aL
 ·induction t using Expr.casesOn with
  |Name y py=>
   have i2:∃b,swapsWith (.ListComp elt gens sc q) (I (.Name y py)) p.line fm.env=pure b:=⟨_,rfl⟩
   obtain⟨b,i2⟩:=i2
   induction b using hK with
   |false=>exact plain i2
   |true=>
    have ce:aW cx (.ListComp elt gens sc q)=I aH:=by
     rcases h3 aJ with⟨_,h⟩|h<;>exact h
    obtain⟨i,aw,rfl⟩:=omap (show(cx.ak y).map dS.loc=I pt from a5);cases aB;obtain⟨tgt,it,ifs,rfl⟩:=RS ce;exact QR aQ i2 ce (hb aQ bk it cx).1 (fun f as p e a aB=>(hb aQ bk a cx).1) (hb aQ bk elt _).1 (fun c ah=>(hb aQ bk c _).2) aw ax hf R ev fun s' q=>by obtain⟨W1,aM,aZ,a0⟩:=q;exact⟨W1,aM,aZ,trivial,a0⟩
  |_=>exact plain rfl
 ·exact plain aL
theorem RU:∀{ts:List Expr} {fX:dI} {ns:List Str} {xs:List X} {st st':St},jW cx ts=I fX→ns.length=ts.length→(∀(j:Nat) x,ns[j]? =I x→∃p,ts[j]? =I (.Name x p))→gb C fX xs st=I st'→∃is:List Nat,(∀(j:Nat) (x:Str) (i:Nat),ns[j]? =I x→is[j]? =I i→cx.ak x=I i)∧ns.length=is.length∧iw is xs st=st':=by
 intro ts
 induction ts with
 |nil=>
  intro fX ns xs st st' ah ar h aB
  induction ns using bY with
  |cons=>exact nomatch ar
  |nil=>
  cases ah;obtain⟨rfl,rfl⟩:=Ap aB;exact⟨[],fun j x i h=>(by simp at h),rfl,rfl⟩
 |cons t ts aD=>
  intro fX ns xs st st' ah ar h aB
  induction ns using bY with
  |nil=>exact nomatch ar
  |cons y ns=>
  obtain⟨a,b,aa,ab,rfl⟩:=vU ah;obtain⟨p,hp⟩:=h 0 y rfl;simp only[List.getElem?_cons_zero,Option.some.injEq]at hp;subst hp;obtain⟨i,aw,rfl⟩:=omap (show(cx.ak y).map dS.loc=I a from aa);obtain⟨x,xs,rfl,s1,bT,aB⟩:=Ao aB;cases bT;obtain⟨is,cZ,dt,gw⟩:=aD (ns:=ns) ab (Nat.succ.inj ar) (fun j x a'=>by simpa using h (j+1) x (by simpa using a')) aB;refine⟨i::is,fun j x k a' ai=>?_,by simp[dt],gw⟩
  induction j using fe with
  |zero=>simp at a' ai;subst a' ai;exact aw
  |succ j=>exact cZ j x k (by simpa using a') (by simpa using ai)
theorem RV{P:Str→Nat→Prop}(inj:∀x y i,P x i→P y i→x=y):∀{ns:List Str} {is:List Nat},ns.length=is.length→(∀(j:Nat) (x:Str) (i:Nat),ns[j]? =I x→is[j]? =I i→P x i)→ns.Nodup→is.Nodup:=by
 intro ns
 induction ns with
 |nil=>
  intro is ar _ _
  induction is using bY with
  |nil=>exact .nil
  |cons=>exact nomatch ar
 |cons x ns aD=>
  intro is ar h aA
  induction is using bY with
  |nil=>exact nomatch ar
  |cons i is=>
  obtain⟨aa,ab⟩:=jf.mp aA;refine jf.mpr ⟨fun hm=>?_,aD (Nat.succ.inj ar) (fun j x i a b=>h (j+1) x i a b) ab⟩;obtain⟨j,a'⟩:=Z8.mp hm;have tg:j<ns.length:=by have:=(d7.mp a').1;exact rT this (Nat.succ.inj ar).symm
  have:=inj _ _ _ (h 0 x i rfl rfl) (h (j+1) _ i (gp tg) a');exact aa (this▸uv tg)
theorem cM.snoc{x:X}{u:Value}(h:b8 W x u):∀{xs:List X} {us:List Value},cM W xs us→cM W (xs++[x]) (us++[u])
 |[],[],_=>⟨h,trivial⟩
 |_::_,_::_,r=>⟨r.1,cM.snoc h r.2⟩
 |[],_::_,r=>r.elim
 |_::_,[],r=>r.elim
theorem cM.reverse:∀{xs:List X} {us:List Value},cM W xs us→cM W xs.reverse us.reverse
 |[],[],_=>trivial
 |_::_,_::_,r=>by erw[mF,mF];exact cM.snoc r.1 (cM.reverse r.2)
 |[],_::_,r=>r.elim
 |_::_,[],r=>r.elim
theorem RW(aQ:cH w ae cb cm)(bk:eC w ae C n){ts es:List Expr}{kt Ar:Nat}{cL ck p:Pos}{fX:dI}{bg:az}(a5:jW cx ts=I fX)(he:n3 cx ts es=I bg)(vP:sl es=true):jz w ae C n cx (.Assign [.Tuple ts kt cL] (.Tuple es Ar ck) p) (.jS fX bg):=by
 intro A ax G W fm st s r st' hf R aC;obtain⟨xs,s1,ev,aa⟩:=b2 (show aY (dq C bg st) (fun xs st=>(gb C fX xs st).map fun st=>(Tactic.R.next,st))=I (r,st')from aC);obtain⟨s2,aB,ab⟩:=omap aa;clear aC aa;cases ab;have hlen:=GD a5 aB;have val:∀{Q:Value→Shared→Prop},(∀T us W' s',W.le W'→Rel w ae G W' fm s1 s'→cM W' xs us→s'.os=s.os→s'.heap.get? T=I {cls:=.type "tuple",data:=.seq (mG us)}→Q (.ref T) s')→xs.length≤100000→wpAny (model a4 w) A (eval (.Tuple es Ar ck) fm.env) Q bL s:=fun h ar=>by refine wpAny_Tuple (qV (RE aQ bk he ax hf R ev) fun us s' W1 aM aZ a7 a0=>?_);refine⟨by erw[a7.length,sizeLine_eq];exact cz ‹_› rfl,?_⟩;exact h _ us W1 _ aM (aZ.keep (h':=s'.heap.push {cls:=.type "tuple",data:=.seq us.toArray}) (k:=s'.toks) fun b o e=>Heap.get?_push_of_some _ e) a7 a0 (Heap.get?_push_size _ rfl)
 have ar:xs.length≤100000:=by
  have aa:=vP;unfold sl at aa;have ab:=of_decide_eq_true (cI.mp aa).1;have aq:=RD he
  lia
 ·rcases RN (ts:=ts) (kt:=kt) (kv:=Ar) (pt:=cL) (pv:=ck) (env:=fm.env) vP with hw|⟨line,hw,aa,ab⟩
  ·refine GL ?_ rfl hw rfl;refine val (fun T us W1 s' aM aZ a7 a0 d'=>?_) ar;refine bC (fun a b=>?_) (Gz (env:=fm.env) a5);refine wpAny_assign_Tuple (items:=us.toArray) ax.h ⟨_,d',rfl,_,rfl⟩ (by erw[a,hlen,jg,a7.length]) b fun h' ai=>?_;have cy:=aZ.keep (h':=h') (k:=s'.toks) fun b o e=>ai b o (kg (Heap.lt_size e)) e;refine sF (GC a5 (fun t ag pt h=>GF aQ bk h) ax hf cy a7 aB) fun ag mg cN bt ek cK=>?_;exact⟨cN,aM.trans bt,ek,trivial,cK.trans a0⟩
  ·refine Assign_Tuple_swapped ?_ rfl hw;refine val (fun T us W1 s' aM aZ a7 a0 d'=>?_) ar;have e:(ts.filterMap (j0 fm.env line)).length=us.toArray.size:=by erw[aa,hlen,jg,a7.length]
   erw[e];refine unpackItems_tuple ax.h ⟨_,d',rfl,_,rfl⟩ fun h' ai=>?_;have cy:=aZ.keep (h':=h') (k:=s'.toks) fun b o e=>ai b o (kg (Heap.lt_size e)) e;obtain⟨is,cZ,dt,gw⟩:=RU a5 aa (RO aa) aB;have nd:=RV (P:=fun x i=>cx.ak x=I i) (fun x y i aa ab=>hf.inj _ _ i (q1 aa).1 (q1 ab).1) dt cZ ab;have GN:is.length=xs.length:=by erw[←dt,aa,hlen]
   refine wpAny_mono (RJ (ns:=(ts.filterMap (j0 fm.env line)).reverse) (is:=is.reverse) (us:=us.toArray.toList.reverse) hf (fun j x i a' aw=>?_) (by simp[dt]) cy (by simpa using a7.reverse) (by simp[aa,hlen])) (fun ag mg q=>?_) fun ag ag x=>x
   ·have tg:j<is.length:=by have:=(d7.mp aw).1;simpa using this
    rw[LN tg]at aw;rw[LN (by erw[dt];exact tg),dt]at a';exact cZ _ x i a' aw
   ·refine bC (fun ek gd=>?_) (q);rw[RI nd GN,gw]at ek;exact⟨W1,aM,ek,trivial,gd.trans a0⟩
end
end
end Tactic
end
section
open PySem PySem.W PySem.Calls PyProof.Rows PySem.SeqAt
namespace Tactic
noncomputable section
section
variable{cx:bV}{A:Around}{G dJ:Addr→Obj→Prop}{W W' W1:a3}{fm fm':bS}{st st' d6:St}{s:Shared}
theorem As{α:Type}{M:Model}{m:Sem α}{Q:α→Shared→Prop}{E:Value→Shared→Prop}(h:wpAny M A m Q bL s):wpAny M A m Q E s:=wpAny_mono h (fun ag ag q=>q) fun ag ag f=>f.elim
theorem lq.step{W':a3}{s1 s':Shared}{r:R}{dB:Flow}(h:W.le W')(o:s1.os=s.os)(p:lq w ae G W' fm s1 st' r dB s'):lq w ae G W fm s st' r dB s':=by obtain⟨cN,a,b,c,d⟩:=p;exact⟨cN,h.trans a,b,c,d.trans o⟩
theorem Au{A:Around}{m:Sem Flow}{r:R}{W1:a3}{s₁:Shared}(h:wpAny (model a4 w) A m (lq w ae G W1 fm s₁ st' r) bL s₁)(l:W.le W1)(o:s₁.os=s.os):wpAny (model a4 w) A m (lq w ae G W fm s st' r) bL s₁:=wpAny_mono h (fun ag ag q=>q.step l o) fun ag ag x=>x
theorem Av{A:Around}{m:Sem Flow}{r:R}{Q:Flow→Shared→Prop}{E:Value→Shared→Prop}(h:wpAny (model a4 w) A m (lq w ae G W fm s st' r) bL s)(k:∀dB s₁ W1,W.le W1→Rel w ae G W1 fm st' s₁→vW W1 r dB→s₁.os=s.os→Q dB s₁):wpAny (model a4 w) A m Q E s:=wpAny_mono h (fun u s₁ q=>match q with|⟨W1,a,b,c,d⟩=>k u s₁ W1 a b c d) fun ag ag x=>x.elim
theorem GO{r:R}{dB:Flow}(h:jm r=true)(f:vW W r dB):∃v,dB= .ret v:=by
 induction r using R.casesOn with
 |ret x=>induction dB using Flow.casesOn<;>first|exact⟨_,rfl⟩|exact f.elim
 |_=>cases h
theorem GP{r:R}{dB:Flow}(h:jm r=false)(f:vW W r dB):dB= .next∨dB= .cont:=by
 induction r using R.casesOn with
 |ret x=>cases h
 |_=>induction dB using Flow.casesOn<;>first|exact .inl rfl|exact .inr rfl|exact f.elim
theorem RX(aQ:cH w ae cb cm)(bk:eC w ae C n){x:Str}{e:Expr}{p cL:Pos}{i:Nat}{aH:ao}(aC:cx.ak x=I i)(ce:aW cx e=I aH):jz w ae C n cx (.AugAssign (.Name x cL) .Add e p) (.aug i aH):=by intro A ax G W fm st s r st' hf R aN;obtain⟨cZ,h0,aa⟩:=aU (show((st.loc[i]?).bind fun x=>x.bind fJ).bind (fun a=>aY (aj C aH st) fun y st=>(fJ y).map fun b=>(Tactic.R.next,st.f' i (.v (.int (a+b)))))=I (r,st')from aN);obtain⟨y,s1,ev,ab⟩:=b2 aa;obtain⟨dt,m3,aq⟩:=omap ab;obtain⟨z,ar,ba⟩:=aU h0;obtain⟨mf,rfl,b0⟩:=aU ba;clear aN h0 aa ab ba;cases aq;obtain rfl:=l9 m3;obtain rfl:=l9 b0;refine wpAny_AugAssign_Name (Ej R hf (q1 aC).1 ar fun y dP=>?_);obtain⟨t,rfl⟩:=hP dP;refine dk ((hb aQ bk e cx).1 ce ax hf R ev) fun u s₁ W1 aM aZ a7 a0=>?_;obtain⟨t',rfl⟩:=hP a7;exact iadd_int (wpAny_mono (zR (v:=.v (.int (cZ+dt))) aZ.toks hf aC (.int _ _)) (fun ag s' q=>⟨W1,aM,q.1,trivial,q.2.trans a0⟩) fun ag ag x=>x)
theorem RY(aQ:cH w ae cb cm)(bk:eC w ae C n){a i e:Expr}{p cL:Pos}{bx pi aH:ao}(ca:aW cx a=I bx)(ci:aW cx i=I pi)(ce:aW cx e=I aH):jz w ae C n cx (.AugAssign (.Subscript a i cL) .Add e p) (.pf bx pi aH):=by
 intro A ax G W fm st s r st' hf R aN;obtain⟨x,s1,bT,aa⟩:=b2 (show aY (aj C bx st) (fun x st=>aY (aj C pi st) fun j st=>((st.item x j).bind fJ).bind fun a=>aY (aj C aH st) fun y st=>(fJ y).bind fun b=>(st.setItem x j (.v (.int (a+b)))).map fun st=>(Tactic.R.next,st))=I (r,st')from aN);obtain⟨j,s2,pz,ab⟩:=b2 aa;obtain⟨cZ,h0,aq⟩:=aU ab;obtain⟨y,s3,ev,ba⟩:=b2 aq;obtain⟨dt,m3,b0⟩:=aU ba;obtain⟨s4,aL,d2⟩:=omap b0;obtain⟨v,aJ,fk⟩:=aU h0;clear aN h0 aa ab aq ba b0;cases d2;obtain rfl:=l9 m3;obtain rfl:=l9 fk;refine wpAny_AugAssign_Subscript_any ?_ (by induction i using Expr.casesOn<;>first|(intro _ _ _;rfl)|exact cQ ci)
 refine dk ((hb aQ bk a cx).1 ca ax hf R bT) fun u s₁ W1 aM aZ a7 a0=>dk ((hb aQ bk i cx).1 ci ax hf aZ pz) fun vY s₂ cN bt cy b3 cK=>?_;obtain⟨T,id,_,_,aq⟩:=E4 (A:=A) aQ cy (a7.mono bt) b3 aJ;refine dk aq fun old gO h7 fa ek m1 gd=>?_;obtain⟨t,rfl⟩:=hP m1;refine dk ((hb aQ bk e cx).1 ce ax hf ek ev) fun aaH pM FZ z3 jw z4 pE=>?_;obtain⟨t',rfl⟩:=hP z4;have pO:=fa.trans z3;exact iadd_int (sF (E6 aQ jw.toks (a7.mono (bt.trans pO)) (b3.mono pO) (x:=.v (.int (cZ+dt))) (.int _ _) aL) fun ag sY RZ eb z5 R0=>⟨RZ,((aM.trans bt).trans pO).trans eb,z5,trivial,(R0.trans pE).trans (gd.trans (cK.trans a0))⟩)
theorem R1(aQ:cH w ae cb cm)(bk:eC w ae C n){t:Expr}{a b:List Stmt}{p:Pos}{pt:ao}{bx bN:bD}(mJ:aW cx t=I pt)(aB:oy w ae C n cx a bx)(bf:oy w ae C n cx b bN):jz w ae C n cx (.If t a b p) (.ite pt bx bN):=by
 intro A ax G W fm st s r st' hf R aN;obtain⟨x,s1,sH,aa⟩:=b2 (show aY (aj C pt st) (fun x st=>(k1 x).bind fun t=>if t then bI C bx st else bI C bN st)=I (r,st')from aN);obtain⟨c,ah,ab⟩:=aU aa;obtain rfl:=mX ah;refine wpAny_If (l6 ((hb aQ bk t cx).2 mJ ax hf R sH) fun s₁ W1 aM aZ a0=>?_)
 induction c using hK with
 |true=>exact Au (aB _ ax hf aZ (sI ab)) aM a0
 |false=>exact Au (bf _ ax hf aZ ab) aM a0
inductive Aw(w:World)(ae:Heap)(C:Calls)(G:Addr→Obj→Prop)(W:a3)(fm:bS)(s:Shared)(pt:ao)(bN:bD)(r:R)(st':St)(k:Nat)(s':Shared):Prop where
 |mk (st1:St) (W1:a3) (h:lY (fun st=>hN (aj C pt st)) (bI C bN) k st1=I (r,st')) (l:W.le W1) (R:Rel w ae G W1 fm st1 s') (o:s'.os=s.os):Aw w ae C G W fm s pt bN r st' k s'
theorem R2{o:Option (X×St)}{b:Bool}(h:hN o=I (b,st')):o=I (.v (.bool b),st'):=by obtain⟨x,s1,e,aa⟩:=b2 h;obtain⟨b',bf,ab⟩:=omap aa;cases ab;erw[e,mX bf]
theorem R3(aQ:cH w ae cb cm)(bk:eC w ae C n){t:Expr}{b:List Stmt}{p:Pos}{pt:ao}{bN:bD}(mJ:aW cx t=I pt)(bf:oy w ae C n cx b bN):jz w ae C n cx (.While t b [] p) (.sb pt bN):=by
 intro A ax G W fm st s r st' hf R aN;refine wpAny_While (codeAny_whileLoop (Aw w ae C G W fm s pt bN r st') ?_ 100 ⟨st,W,aN,.rfl,R,rfl⟩);clear aN R;rintro k s' ⟨st1,W1,hw,aM,aZ,a0⟩
 induction k using fe with
 |zero=>cases hw
 |succ k=>
  obtain⟨c,s1,a5,aa⟩:=b2 (show aY (hN (aj C pt st1)) (fun b st=>if b then(aY (bI C bN st) fun r st=>if jm r then I (r,st)else lY (fun st=>hN (aj C pt st)) (bI C bN) k st)else I (.next,st))=I (r,st')from hw);refine As (l6 ((hb aQ bk t cx).2 mJ ax hf aZ (R2 a5)) fun s₁ cN bt cy cK=>?_)
  induction c using hK with
  |false=>cases aa;erw[if_neg (by decide)];exact wpAny_execs_nil ⟨cN,aM.trans bt,cy,trivial,cK.trans a0⟩
  |true=>
   obtain⟨b3,s2,cV,ab⟩:=b2 (sI aa);erw[if_pos rfl];refine Av (bf _ ax hf cy cV) fun dB s₂ h7 fa ek hS gd=>?_;cases av:jm b3 with
   |true=>rw[av]at ab;cases ab;obtain⟨v,rfl⟩:=GO av hS;exact⟨h7,(aM.trans bt).trans fa,ek,hS,gd.trans (cK.trans a0)⟩
   |false=>
    rw[av]at ab;have:∃m,m<k+1∧Aw w ae C G W fm s pt bN r st' m s₂:=⟨k,ki _,s2,h7,ab,(aM.trans bt).trans fa,ek,gd.trans (cK.trans a0)⟩
    rcases GP av hS with rfl|rfl<;>exact this
inductive Ax(w:World)(ae:Heap)(C:Calls)(G:Addr→Obj→Prop)(W:a3)(fm:bS)(s:Shared)(aF:cB)(bN:bD)(xs:List V)(ea:List Addr)(cS:Nat→Heap→Prop)(r:R)(st':St)(k:Nat)(s':Shared):Prop where
 |mk (i:Nat) (st1:St) (W':a3) (e:k=xs.length+1-i) (aw:i≤xs.length) (aN:forL aF (bI C bN) (xs.drop i) st1=I (r,st')) (l:W.le W') (R:Rel w ae G W' fm st1 s') (aL:cS i s'.heap) (off:∀b∈ea,Off G W' fm st1 b) (o:s'.os=s.os):Ax w ae C G W fm s aF bN xs ea cS r st' k s'
theorem R4{target:Expr}{body:List Stmt}{cc:Addr}{aF:cB}{xs:List V}{bq ea wr:List Addr}{P d5:Nat→Value→Heap→Prop}{cS:Nat→Heap→Prop}{hA:St}{h0:Heap}{r:R}{bN:bD}{kx:Result→Shared→Prop}
  (T:lg w A G W1 fm hA h0 cc aF target xs bq ea wr P d5 cS) (hf:dw cx fm) (a5:jV cx target=I aF) (ax:d1 n A) (h9:oy w ae C n cx body bN)
  (R:Rel w ae G W fm st s) (hle:W1.le W) (aL:cS 0 s.heap) (off:∀b∈ea,Off G W fm st b) (aN:forL aF (bI C bN) xs st=I (r,st'))
  (el:∀dB s',lq w ae G W fm s st' r dB s'→kx (.ok dB) s'):codeAny (model a4 w) A (.forLoop target (.ref cc) body [] fm.env) kx s:=by
 refine codeAny_forLoop_any (Ax w ae C G W fm s aF bN xs ea cS r st') ?_ (xs.length+1) ⟨0,st,W,rfl,fx _,aN,.rfl,R,aL,off,rfl⟩;clear aN R aL off;rintro k s' ⟨i,st1,W',rfl,aw,aN,kC,R,aL,off,aO⟩;refine bZ (fun dQ:i<xs.length=>?_) (fun dQ=>?_)
 ·have aC:=gp dQ;rw[CM dQ]at aN;obtain⟨st2,GQ,aa⟩:=aU (show(hM aF xs[i] st1).bind (fun st=>aY (bI C bN st) fun r st=>if jm r then I (r,st)else forL aF (bI C bN) (xs.drop (i+1)) st)=I (r,st')from aN);obtain⟨b3,i4,cV,ab⟩:=b2 aa;clear aN aa;refine FU T aC (FR GQ) R (hle.trans kC) aL off (fun v s₁ q=>q) fun v aa tk aZ q4 hit ai=>?_;refine As (wpAny_mono (zV ax.h (aZ.FT off) hf a5 hit GQ) (fun ag s2 q=>Av (h9 _ ax hf q.1 cV) fun dB s3 h7 fa ek hS gd=>?_) fun ag ag x=>x);obtain⟨jw,z2,vF,_⟩:=zX T (fun ag ag g=>g) aZ (hle.trans kC) q4 (fun b h=>h) off (T.alive _ _ q4) fa ek;cases av:jm b3 with
  |true=>rw[av]at ab;cases ab;obtain⟨v,rfl⟩:=GO av hS;exact el _ _ ⟨h7,kC.trans fa,jw,hS,gd.trans (q.2.trans aO)⟩
  |false=>
   rw[av]at ab;have:∃m,m<xs.length+1-i∧Ax w ae C G W fm s aF bN xs ea cS r st' m s3:=⟨xs.length+1-(i+1),Mp ‹_›,i+1,i4,h7,rfl,dQ,ab,kC.trans fa,jw,z2,vF,gd.trans (q.2.trans aO)⟩
   rcases GP av hS with rfl|rfl<;>exact this
 ·have e:i=xs.length:=by exact rU ‹_› (kU.mp ‹_›)
  subst e;rw[List.drop_length]at aN;cases aN;exact T.K.done s' _ _ aL fun h' tk ai=>wpAny_execs_nil (el _ _ ⟨W',kC,R.vC (k:=tk) (fun b bf=>off b (T.wr b bf)) ai,trivial,aO⟩)
theorem R5(aQ:cH w ae cb cm)(bk:eC w ae C n){t it:Expr}{b:List Stmt}{p:Pos}{aF:cB}{src:Src}{bN:bD}(a5:jV cx t=I aF)(lp:l0 cx it (aW cx it) (mR cx it)=I src)(gP:mP aF src=true)(bf:oy w ae C n cx b bN):jz w ae C n cx (.For t it b [] p) (.mL aF src bN):=by intro A ax G W fm st s r st' hf R aN;obtain⟨⟨x,xs,s1⟩,es,aa⟩:=aU (show(fi C src st).bind (fun p=>(valOf p.1).bind fun ag=>forL aF (bI C bN) p.2.1 p.2.2)=I (r,st')from aN);obtain⟨v,aJ,ab⟩:=aU aa;obtain rfl:=l' aJ;refine wpAny_For (wpAny_mono (FQ aQ ax hf R (hb aQ bk it cx).1 (fun f as p e a aB=>(hb aQ bk a cx).1) lp (FC a5) gP es) (fun u s₁ q=>wpAny_mono q (fun vt s₂ q=>?_) fun ag ag x=>x) fun ag ag x=>x) (F9 lp fm.env);obtain⟨cc,W1,dJ,bq,ea,wr,P,d5,cS,rfl,aM,aZ,a0,T,L⟩:=q;cases L;exact R4 T hf a5 ax bf aZ .rfl T.hA T.off ab fun dB s' q=>q.step aM a0
theorem R6(aQ:cH w ae cb cm)(bk:eC w ae C n){e:Expr}{p:Pos}{aH:ao}(h:pq cx e=I aH):jz w ae C n cx (.Return (I e) p) (.ret aH):=by intro A ax G W fm st s r st' hf R aN;obtain⟨x,s1,ev,aa⟩:=b2 (show aY (aj C aH st) (fun x st=>I (.ret x,st))=I (r,st')from aN);cases aa;exact wpAny_Return_some (dk (GH aQ bk h _ ax hf R ev) fun u s₁ W1 aM aZ a7 a0=>⟨W1,aM,aZ,a7,a0⟩)
theorem R7(aQ:cH w ae cb cm)(bk:eC w ae C n){e:Expr}{p:Pos}{aH:ao}(h:aW cx e=I aH)(ah:isCall e=true):jz w ae C n cx (.Expr e p) (.expr aH):=by intro A ax G W fm st s r st' hf R aN;obtain⟨x,s1,ev,aa⟩:=b2 (show aY (aj C aH st) (fun ag st=>I (.next,st))=I (r,st')from aN);cases aa;exact wpAny_Expr_any (dk ((hb aQ bk e cx).1 h ax hf R ev) fun u s₁ W1 aM aZ a7 a0=>⟨W1,aM,aZ,trivial,a0⟩) (by unfold interactive;erw[hf.kind];rfl) (by induction e using Expr.casesOn<;>first|rfl|cases ah)
end
end
end Tactic
end
section
open PySem PySem.W PySem.Calls PyProof.Rows PySem.SeqAt
namespace Tactic
noncomputable section
section
variable{cx:bV}
theorem th{x:Stmt}{c6:c8}(h:J=I c6):jz w ae C n cx x c6:=cQ h
theorem R8(aQ:cH w ae cb cm)(bk:eC w ae C n){t e:Expr}{p:Pos}{c6:c8}(h:yG cx t e=I c6):jz w ae C n cx (.Assign [t] e p) c6:=by
 have one:(k5 t=J∨k5 e=J)→((iy cx t).bind fun t'=>(l1 cx t e).map fun e=>c8.assign t' e)=I c6→jz w ae C n cx (.Assign [t] e p) c6:=fun aA h=>by obtain⟨pt,aa,h⟩:=aU h;obtain⟨aH,ab,rfl⟩:=omap h;exact RT aQ bk aa ab aA
 unfold yG at h;cases aa:k5 t with
 |none=>replace h:=aa▸h;exact one (.inl aa) h
 |some ts=>
  cases ab:k5 e with
  |none=>replace h:=ab▸(aa▸h);exact one (.inr ab) h
  |some es=>replace h:=ab▸(aa▸h);obtain⟨dH,cL,rfl⟩:=GG aa;obtain⟨ft,ck,rfl⟩:=GG ab;refine bC (fun aL h=>?_) (c1 (show(if sl es then(jW cx ts).bind fun yH=>(n3 cx ts es).map fun es=>c8.jS yH es else J)=I c6 from h));obtain⟨fX,aq,h⟩:=aU h;obtain⟨bg,ba,rfl⟩:=omap h;exact RW aQ bk aq ba aL
theorem R9(aQ:cH w ae cb cm)(bk:eC w ae C n){t e:Expr}{o:Operator}{p:Pos}{c6:c8}(h:DW cx o e t=I c6):jz w ae C n cx (.AugAssign t o e p) c6:=by
 induction t using Expr.casesOn with
 |Name x q=>obtain⟨rfl,h⟩:=c1 (show(if o= .Add then(cx.ak x).bind fun i=>(aW cx e).map fun e=>c8.aug i e else J)=I c6 from h);obtain⟨i,aa,h⟩:=aU h;obtain⟨aH,ab,rfl⟩:=omap h;exact RX aQ bk aa ab
 |Subscript a i q=>obtain⟨rfl,h⟩:=c1 (show(if o= .Add then(aW cx a).bind fun a=>(aW cx i).bind fun i=>(aW cx e).map fun e=>c8.pf a i e else J)=I c6 from h);obtain⟨bx,aa,h⟩:=aU h;obtain⟨pi,ab,h⟩:=aU h;obtain⟨aH,aq,rfl⟩:=omap h;exact RY aQ bk aa ab aq
 |_=>exact th h
theorem GR{α:Type}{l:List α}(h:¬(!l.isEmpty)=true):l=[]:=by simpa using h
theorem GS{t a b n:Nat}(h:1+t+a+b<n+1):b<n:=o' (a:=t+a) (rW 1 t a▸h)
theorem R'(aQ:cH w ae cb cm)(bk:eC w ae C n){m:Nat}(aG:∀xs:List Stmt,sizeOf xs<m→∀c6,ks cx xs=I c6→oy w ae C n cx xs c6)(x:Stmt)(hm:sizeOf x<m+1)(c6:c8)(h:n4 cx x=I c6):jz w ae C n cx x c6:=by
 induction x using Stmt.casesOn with
 |Assign ts e p=>
  induction ts using bY with
  |nil=>exact th h
  |cons t ts=>
  induction ts using bY with
  |nil=>exact R8 aQ bk h
  |cons=>exact th h
 |AugAssign t o e p=>exact R9 aQ bk h
 |If t a b p=>simp only[Stmt.If.sizeOf_spec]at hm;obtain⟨pt,aa,h⟩:=aU (show(aW cx t).bind _=I c6 from h);obtain⟨bx,ab,h⟩:=aU h;obtain⟨bN,aq,rfl⟩:=omap h;exact R1 aQ bk aa (aG a (o' (jP (jP ‹_›))) _ ab) (aG b (GS (jP ‹_›)) _ aq)
 |For t it b o p=>simp only[Stmt.For.sizeOf_spec]at hm;refine bC (fun aO h=>?_) (ht (show(if(!o.isEmpty)=true then J else(jV cx t).bind fun aF=>(l0 cx it (aW cx it) (mR cx it)).bind fun s=>if(!mP aF s)=true then J else(ks cx b).map fun b=>c8.mL aF s b)=I c6 from h));obtain rfl:=GR aO;obtain⟨aF,aa,h⟩:=aU h;obtain⟨src,ab,h⟩:=aU h;refine bC (fun ai h=>?_) (ht h);obtain⟨bN,aq,rfl⟩:=omap h;exact R5 aQ bk aa ab (by simpa using ai) (aG b (GS (jP (jP ‹_›))) _ aq)
 |While t b o p=>simp only[Stmt.While.sizeOf_spec]at hm;refine bC (fun aO h=>?_) (ht (show(if(!o.isEmpty)=true then J else(aW cx t).bind fun t=>(ks cx b).map fun b=>c8.sb t b)=I c6 from h));obtain rfl:=GR aO;obtain⟨pt,aa,h⟩:=aU h;obtain⟨bN,aq,rfl⟩:=omap h;exact R3 aQ bk aa (aG b (o' (jP (jP ‹_›))) _ aq)
 |Return r p=>
  induction r using gJ with
  |none=>exact th h
  |some e=>obtain⟨aH,aa,rfl⟩:=omap (show(pq cx e).map c8.ret=I c6 from h);exact R6 aQ bk aa
 |Expr e p=>refine bC (fun ah h=>?_) (c1 (show(if isCall e then(aW cx e).map c8.expr else J)=I c6 from h));obtain⟨aH,aa,rfl⟩:=omap h;exact R7 aQ bk aa ah
 |Continue p=>cases h;intro A ax G W fm st s r st' hf R aN;cases aN;exact wpAny_Continue ⟨_,.rfl,R,trivial,rfl⟩
 |Pass p=>cases h;intro A ax G W fm st s r st' hf R aN;cases aN;exact wpAny_Pass ⟨_,.rfl,R,trivial,rfl⟩
 |Raise a b p=>cases h;intro A ax G W fm st s r st' hf R aN;cases aN
 |_=>exact th h
theorem Sa{r a7:R}{st st':St}{k:St→Option (R×St)}(h:n1 a7 st k=I (r,st')):(a7= .next∧k st=I (r,st'))∨(a7≠ .next∧r=a7∧st'=st):=by
 induction a7 using R.casesOn with
 |next=>exact .inl ⟨rfl,h⟩
 |cont=>cases h;exact .inr ⟨nofun,rfl,rfl⟩
 |ret x=>cases h;exact .inr ⟨nofun,rfl,rfl⟩
theorem Sb(aQ:cH w ae cb cm)(bk:eC w ae C n){xs:List Stmt}{c6:bD}(h:ks cx xs=I c6):oy w ae C n cx xs c6:=by
 have:∀m,∀xs:List Stmt,sizeOf xs<m→∀c6,ks cx xs=I c6→oy w ae C n cx xs c6:=by
  intro m
  induction m with
  |zero=>intro e h;exact absurd h (o6 _)
  |succ m aG=>
   intro xs hm c6 h
   induction xs using bY with
   |nil=>cases h;intro A ax G W fm st s r st' hf R aN;cases aN;exact wpAny_execs_nil ⟨_,.rfl,R,trivial,rfl⟩
   |cons x xs=>
    simp only[List.cons.sizeOf_spec]at hm;obtain⟨cL,aa,h⟩:=aU (show(n4 cx x).bind _=I c6 from h);obtain⟨ck,ab,rfl⟩:=omap h;intro A ax G W fm st s r st' hf R aN;obtain⟨a7,s1,ay,aq⟩:=b2 (show aY (iS C cL st) (fun r st=>n1 r st fun st=>bI C ck st)=I (r,st')from aN);refine wpAny_execs_cons (Av (R' aQ bk aG x (by lia) cL aa _ ax hf R ay) fun dB s' W1 aM aZ hS a0=>?_)
    rcases Sa aq with⟨rfl,ba⟩|⟨iY,rfl,rfl⟩
    ·cases dB with
     |next=>exact Au (aG xs (o' ‹_›) ck ab _ ax hf aZ ba) aM a0
     |_=>exact hS.elim
    ·cases dB with
     |next=>
      cases r with
      |next=>exact absurd rfl iY
      |_=>exact hS.elim
     |_=>exact⟨W1,aM,aZ,hS,a0⟩
 exact this _ xs (ki _) c6 h
end
end
end Tactic
end
section
open PySem PySem.W PySem.Calls PyProof.Rows PySem.SeqAt
namespace Tactic
noncomputable section
theorem dc.hT{W:a3}{P:List (Addr×Addr)}{v:V}{u:Value}(r:dc W v u):dc {W with p:=P} v u:=by
 induction r with
 |bB=>exact .bB
 |bool b=>exact .bool b
 |int i t=>exact .int i t
 |str n t=>exact .str n t
 |tup f s l _ aG=>exact .tup f s l aG
 |lst f s l _ aG=>exact .lst f s l aG
 |obj f fd n a5 ex g1 _ aG=>exact .obj f fd n a5 ex g1 aG
theorem b5.hT{W:a3}{P:List (Addr×Addr)}{xs:List V}{us:List Value}(r:b5 W xs us):b5 {W with p:=P} xs us:=⟨r.1,fun i x v a b=>(r.2 i x v a b).hT⟩
theorem b8.hT{W:a3}{P:List (Addr×Addr)}{x:X}{u:Value}{k:Nat}(dM:P<+:W.p)(ai:k≤P.length)(ae:iU k x)(r:b8 W x u):b8 {W with p:=P} x u:=by
 induction x using X.casesOn with
 |v a=>exact dc.hT r
 |cell i=>
  obtain⟨q,aE,rfl⟩:=r;have aw:=ey ae ai;obtain⟨gu,h'⟩:∃gu,P[i]? =I gu:=⟨P[i],gp aw⟩
  have:=l4 dM h';rw[aE]at this;cases this;exact⟨q,h',rfl⟩
theorem cM.hT{W:a3}{P:List (Addr×Addr)}{k:Nat}(dM:P<+:W.p)(ai:k≤P.length):∀{xs:List X} {us:List Value},(∀x∈xs,iU k x)→cM W xs us→cM {W with p:=P} xs us
 |[],[],_,_=>trivial
 |x::xs,u::us,ae,r=>⟨r.1.hT dM ai (ae x (.head _)),cM.hT dM ai (fun y aV=>ae y (.tail _ aV)) r.2⟩
 |[],_::_,_,r=>r.elim
 |_::_,[],_,r=>r.elim
theorem e'.hT{W:a3}{P:List (Addr×Addr)}{h:Heap}{k:Nat}{q:Addr×Addr}{c:Cell}(dM:P<+:W.p)(ai:k≤P.length)(x:e' w W h k q c):e' w {W with p:=P} h k q c:=by
 induction c using Cell.casesOn with
 |gone=>trivial
 |lst xs=>obtain⟨e,vs,p,r⟩:=x;exact⟨e,vs,p,r.hT⟩
 |cw kvs=>obtain⟨e,a8,p,m,r⟩:=x;exact⟨e,a8,p,m,r.hT⟩
 |e9 kvs=>obtain⟨e,a8,p,m,r,b⟩:=x;refine⟨e,a8,p,m,r.hT dM ai fun x aC=>?_,b⟩;obtain⟨y,aV,rfl⟩:=f9.mp aC;exact b y aV
 |inst c fs=>obtain⟨e,m,p,ex,g⟩:=x;exact⟨e,m,p,ex,fun n y aA=>⟨(g n y aA).1,by obtain⟨v,a,b⟩:=(g n y aA).2;exact⟨v,a,b.hT dM ai (g n y aA).1⟩⟩⟩
section
variable{G:Addr→Obj→Prop}{W eD:a3}{fm fm':bS}{st et:St}{s h4:Shared}
theorem Ay{p r:List (Addr×Addr)}{l:List Cell}{k i:Nat}{c:Cell}{q:Addr×Addr}(hp:p<+:r)(h:gD p (l.take k) i c q):i<k∧gD r l i c q:=by refine eA fun cF=>?_;obtain⟨aa,ab,aq⟩:=h;refine cF ?_;rw[CL]at aa;obtain⟨aw,aa⟩:=c1 aa;exact⟨aw,aa,ab,l4 hp aq⟩
theorem Rel.cut(R:Rel w ae G W fm st s)(eG:W.le eD)(gf:Rel w ae (i1 G fm s.heap) eD fm' et h4)(ai:st.heap.length≤et.heap.length)(bf:et.base=st.heap.length)(h9:∀i,fm'.bd i=hv fm st.base st.heap.length i):
  Rel w ae G {eD with p:=W.p} fm {st with heap:=et.heap.take st.heap.length,tag:=et.tag} h4:=by
 have hlen:=List.length_take_of_le ai;refine R.leave (H:=et.heap.take st.heap.length) (P:=W.p) eG gf (R.len.trans hlen.symm) (fun l=>(Ay eG.p l).2) (iq _) (fun{i c q} l ah=>?_) (bR R.cP (eQ hlen.symm));rw[bf,yN ((Ay eG.p l).1),h9]at ah;erw[hlen];exact e'.hT eG.p (bR (R.E9 i) (eQ R.len.symm)) ah
theorem Rel.vZ(R:Rel w ae G W fm st s)(eG:W.le eD)(gf:Rel w ae (i1 G fm s.heap) eD fm' et h4){i:Nat}{c:Cell}{q:Addr×Addr}(aw:st.heap.length≤i)(ah:et.heap[i]? =I c)(ar:su c=true)(aE:eD.p[i]? =I q):
  Off G {eD with p:=W.p} fm {st with heap:=et.heap.take st.heap.length,tag:=et.tag} q.2:=by
 have L:gD eD.p et.heap i c q:=⟨ah,ar,aE⟩
 have own:fT eD fm' et q.2:=.hp i c q L rfl;refine⟨?_,fun o f=>gf.fU _ own o f,fun o g=>gf.eB _ own o (.inl g)⟩;rintro(h|⟨j,d,r,l,e⟩)
 ·exact(R.owned h).elim fun o g=>gf.eB _ own o (.inr g)
 ·obtain⟨a',l⟩:=Ay eG.p l;exact kU.mpr aw (gf.apart L l e.symm▸a')
theorem Rel.Sd{loc:List (Option X)}(R:Rel w ae G W fm st s)(lo:ku G W fm loc s.heap):Rel w ae G W fm {st with loc:=loc} s:={R with lo:=lo}
end
theorem Se{ej:Str→Option NameKind}{x:Str}:∀{binds:List (Str×Value)} {m:Str→Option Value},x ∉ binds.map (·.1)→bindL ej binds m x=m x:=by
 intro aT
 induction aT with
 |nil=>intro _ _;exact rfl
 |cons dA r aD=>
  obtain⟨y,v⟩:=dA;intro m h;rw[g0,ec,not_or]at h;erw[aD h.2]
  split
  ·simp[h.1]
  ·rfl
theorem Sf{ej:Str→Option NameKind}{x:Str}{v:Value}(ai:ej x=I .local):∀{binds:List (Str×Value)} {m:Str→Option Value},(binds.map (·.1)).Nodup→(x,v)∈binds→bindL ej binds m x=I v:=by
 intro aT
 induction aT with
 |nil=>intro _ _ _;first|contradiction|(intros;contradiction)|(simp at*;done)
 |cons dA r aD=>
  obtain⟨y,u⟩:=dA;intro m h hm;rw[g0,jf]at h;show bindL ej r _ x=_
  rcases ec.mp hm with e|hm
  ·cases e;erw[Se h.1,if_pos ai];simp
  ·exact aD h.2 hm
theorem Sg{ej:Str→Option NameKind}{x:Str}:∀{binds:List (Str×Value)} {m:Str→Option Value},x ∉ binds.map (·.1)→bindC ej binds m x=m x:=by
 intro aT
 induction aT with
 |nil=>intro _ _;exact rfl
 |cons dA r aD=>
  obtain⟨y,v⟩:=dA;intro m h;rw[g0,ec,not_or]at h;erw[aD h.2]
  split
  ·rfl
  ·simp[h.1]
theorem Sh{ej:Str→Option NameKind}{x:Str}{v:Value}(ai:ej x≠I .local):∀{binds:List (Str×Value)} {m:Str→Option Value},(binds.map (·.1)).Nodup→(x,v)∈binds→bindC ej binds m x=I v:=by
 intro aT
 induction aT with
 |nil=>intro _ _ _;first|contradiction|(intros;contradiction)|(simp at*;done)
 |cons dA r aD=>
  obtain⟨y,u⟩:=dA;intro m h hm;rw[g0,jf]at h;show bindC ej r _ x=_
  rcases ec.mp hm with e|hm
  ·cases e;erw[Sg h.1,if_neg ai];simp
  ·exact aD h.2 hm
theorem GU{x:Str}:∀{names:List (Str×NameKind)} {n:Nat} {acc:List (Str×Addr)},((x,NameKind.cell)∈names∨∃c,acc.lookup x=I c)→∃c,(cellsFrom n names acc).lookup x=I c:=by
 intro aT
 induction aT with
 |nil=>intro _ _ h;exact h.elim (fun h=>nomatch h) id
 |cons dA r aD=>
  obtain⟨y,k⟩:=dA;intro n acc h;unfold cellsFrom
  split
  ·refine aD ?_;refine bZ (fun e:x=y=>?_) (fun e=>?_)
   ·subst e;exact .inr ⟨n,by simp⟩
   ·rcases h with h|⟨c,h⟩
    ·rcases ec.mp h with e4|h
     ·cases e4;exact absurd rfl e
     ·exact .inl h
    ·exact .inr ⟨c,by erw[hr,beq_eq_false_iff_ne.mpr e];exact h⟩
  ·rename_i ai;refine aD ?_
   rcases h with h|h
   ·rcases ec.mp h with e4|h
    ·cases e4;exact absurd rfl ai
    ·exact .inl h
   ·exact .inr h
end
end Tactic
end
section
open PySem PySem.W PySem.Calls PyProof.Rows PySem.SeqAt
namespace Tactic
noncomputable section
structure Az(fd:FuncData)(names:List Str):Prop where
 po:fd.params.posonlyargs=[]
 kE:fd.params.args.map (·.arg)=names
 sT:fd.params.vararg=J
 GV:fd.params.kwonlyargs=[]
 kw:fd.params.kwarg=J
def GW(h:Heap)(fd:FuncData)(ds:List Value):Prop:=(∃T o n,fd.defaults= .ref T∧h.get? T=I o∧o.data= .seq ds.toArray n)∨(fd.defaults= .none∧ds=[])
theorem AA{names:List Str}:∀{vs:List Value} {i:Nat} {x:Str},names.Nodup→names[i]? =I x→(names.zip vs).lookup x=vs[i]? :=by
 induction names with
 |nil=>intro vs i x _ h;exact cQ h
 |cons y r aG=>
  intro vs i x aA h;refine bC (fun aa ab=>?_) (jf.mp aA)
  rcases vs with _|⟨v,vs⟩
  ·rfl
  ·erw[List.zip_cons_cons,hr]
   induction i using fe with
   |zero=>cases Option.some.inj h;erw[beq_self_eq_true];rfl
   |succ i=>erw[show(x==y)=false from beq_eq_false_iff_ne.mpr fun e=>aa (e▸fI (show r[i]? =I x from h))];exact aG (vs:=vs) ab (show r[i]? =I x from h)
noncomputable def q6(r:List (Str×Value))(p:Str×Value):List (Str×Value):=if(r.lookup p.1).isNone=true then r++[(p.1,p.2)]else r
theorem Si{a b:List (Str×Value)}{x:Str}:(a++b).lookup x=(a.lookup x).or (b.lookup x):=by
 induction a with
 |nil=>rfl
 |cons p a aG=>
  obtain⟨y,v⟩:=p;erw[xO,hr,hr];generalize (x==y)=b
  induction b using hK with
  |true=>rfl
  |false=>exact aG
theorem Sj{L:List (Str×Value)}{x n:Str}{d:Value}:(([(n,d)]:List (Str×Value)).lookup x).or (L.lookup x)=((n,d)::L).lookup x:=by
 erw[hr,hr];generalize (x==n)=b
 induction b using hK<;>rfl
theorem Sk{x:Str}{L:List (Str×Value)}:∀{r:List (Str×Value)},(L.foldl q6 r).lookup x=(r.lookup x).or (L.lookup x):=by
 induction L with
 |nil=>intro r;exact(Option.or_none).symm
 |cons p L aG=>
  intro r;obtain⟨n,d⟩:=p;refine aG.trans ?_;unfold q6;refine bZ (fun h:(r.lookup n).isNone=true=>?_) (fun h=>?_)
  ·erw[if_pos h,Si,Option.or_assoc,Sj]
  ·erw[if_neg h,hr];refine bZ (fun e:x=n=>?_) (fun e=>?_)
   ·cases e
    rcases aJ:r.lookup x with _|v
    ·replace h:=aJ▸h;exact absurd rfl h
    ·rfl
   ·erw[beq_eq_false_iff_ne.mpr e]
theorem Sl{f:Str→Option Value}{names:List Str}:∀{full:List Value},(∀(i:Nat) x,names[i]? =I x→f x=full[i]?)→full.length=names.length→names.filterMap (fun n=>(f n).map (n,·))=names.zip full:=by
 induction names with
 |nil=>intro full _ _;exact List.zip_nil_left.symm
 |cons x names aG=>
  intro full h ar
  rcases full with _|⟨v,full⟩
  ·cases ar
  ·erw[uA,h 0 x rfl];exact congrArg ((x,v):: ·) (aG (fun i x aC=>h (i+1) x aC) (Nat.succ.inj ar))
theorem Sm{α β:Type}(g:β→α→β)(f:α→β→Sem (ForInStep β))(hf:∀a r,f a r=pure (.yield (g r a))):∀(l:List α) (b:β),forIn l b f=pure (l.foldl g b):=by
 intro aT
 induction aT with
 |nil=>intro b;exact rfl
 |cons a l aD=>intro b;rw[LJ,hf,pure_bind];exact aD _
theorem Sn{names:List Str}{vals:List Value}(aA:names.Nodup){k:Nat}(ai:k≤vals.length):((names.take k).filter fun n=>((names.zip vals).lookup n).isNone)=[]:=by erw[Z9];intro x aC;refine f7 (Z8.mp aC) fun i aw=>?_;have ar:=ey (d7.mp aw).1 (Z' ..);rw[List.getElem?_take_of_lt ar]at aw;erw[AA aA aw,gp (ey ar ai)];exact rR
theorem So{names:List Str}{vals ds:List Value}(aA:names.Nodup){k d:Nat}(ai:k≤vals.length)(hd:d=vals.length-k){i:Nat}{x:Str}(aC:names[i]? =I x):(((names.drop k).zip ds).foldl q6 (names.zip vals)).lookup x=(vals++ds.drop d)[i]? :=by
 erw[Sk,AA aA aC];refine eF (CO i vals.length) (fun aJ=>?_) (fun aJ=>?_)
 ·erw[mE aJ,gp aJ];rfl
 ·have e:=mH (bR ai aJ);have au:d+(i-vals.length)=i-k:=by subst hd;exact Mo ‹_› ‹_›
  erw[jc aJ,iP aJ,LB,au];exact AA (aA.sublist (List.drop_sublist _ _)) (by erw[LB,e];exact aC)
theorem GX{V N D:Nat}(aa:V≤N)(ab:N≤V+D)(aq:D≤N):D-(N-V)=V-(N-D)∧V+(D-(D-(N-V)))=N:=by obtain⟨a,rfl⟩:=xP aa;obtain⟨b,rfl⟩:=xP (aaa ab);rw[o3 V a]at aq⊢;erw[lS,ir,Nat.add_sub_add_left,xQ (aaa aq),lS];exact⟨rfl,o3 _ _⟩
theorem Sp{fd:FuncData}{vals:List Value}{names:List Str}{ds:List Value}(P:Az fd names)(aA:names.Nodup)(aa:vals.length≤names.length)(ab:names.length≤vals.length+ds.length)(aq:ds.length≤names.length):
  ∃k,bindArgs fd ⟨vals,[]⟩=seqItems? fd.defaults>>=k∧∀o:Option (Array Value),(o.getD #[]).toList=ds→k o=pure (names.zip (vals++ds.drop (ds.length-(names.length-vals.length)))):=by
 obtain⟨fn,aaI,⟨cL,ck,gK,hL,qD,nW,iv⟩,f4,aaJ,aaK,aaL,aaM,aaN,aaO,aaP,aaQ,aaR,aaS,aaT⟩:=fd;obtain⟨rfl,kE,rfl,rfl,rfl⟩:=P;have kE:ck.map (·.arg)=names:=kE;refine⟨_,rfl,fun o aO=>?_⟩;have eI:ds.drop (ds.length-names.length)=ds:=by erw[CP aq,List.drop_zero]
 refine(if_neg ?_).trans ?_
 ·intro h;have h:=of_decide_eq_true (cI.mp h).1;have h:names.length<vals.length:=kE▸h;exact absurd h (kU.mpr aa)
 refine(if_neg ?_).trans ?_
 ·show¬(!((((ck.map (·.arg)).take ((ck.map (·.arg)).length-((o.getD #[]).toList.drop ((o.getD #[]).toList.length-(ck.map (·.arg)).length)).length)).filter fun n=>(((ck.map (·.arg)).zip vals).lookup n).isNone).isEmpty))=true;erw[kE,aO,eI,Sn aA (Ls ab)];exact rR
 refine Eq.trans (b:=pure (((((ck.map (·.arg)).drop ((ck.map (·.arg)).length-((o.getD #[]).toList.drop ((o.getD #[]).toList.length-(ck.map (·.arg)).length)).length)).zip ((o.getD #[]).toList.drop ((o.getD #[]).toList.length-(ck.map (·.arg)).length))).foldl q6 ((ck.map (·.arg)).zip vals)))>>=fun r=>pure ((ck.map Arg.arg++[]).filterMap fun n=>(r.lookup n).map (n,·))) (congrArg (· >>=_) (Sm q6 _ (fun a r=>?_) _ _)) ?_
 ·obtain⟨n,d⟩:=a;unfold q6
  dsimp only
  split<;>rfl
 ·erw[pure_bind,ei,kE,aO,eI];refine congrArg pure (Sl (fun i x aC=>So aA (Ls ab) (GX aa ab aq).1 aC) ?_);erw[b4,CQ];exact(GX aa ab aq).2
theorem Sq{s:Shared}{fd:FuncData}{vals:List Value}{names:List Str}{ds:List Value}(P:Az fd names)(D:GW s.heap fd ds)(aA:names.Nodup)(aa:vals.length≤names.length)(ab:names.length≤vals.length+ds.length)(aq:ds.length≤names.length):
  BindsTo s fd ⟨vals,[]⟩ (names.zip (vals++ds.drop (ds.length-(names.length-vals.length)))):=by
 obtain⟨k,e,ai⟩:=Sp P aA aa ab aq
 rcases D with⟨T,o,n,ay,au,bo⟩|⟨ay,rfl⟩
 ·exact BindsTo.of_defaults ay au bo e (ai _ rfl)
 ·exact BindsTo.of_eq (e.trans (by erw[ay];exact ai J rfl))
end
end Tactic
end
section
open PySem PySem.W PySem.Calls PyProof.Rows PySem.SeqAt
namespace Tactic
noncomputable section
def v3(P:Params)(f:Nat):Option FuncData:=match(H.c7 P).lookup (g' f)with
 |some o=>(match o.data with
  | .func fd=>I fd
  |_=>J)
 |none=>J
noncomputable abbrev GY:=Arguments×FuncBody×Scope×Addr×List (Str×Addr)×Addr
noncomputable def Sr(fd:FuncData):GY:=(fd.params,fd.body,fd.scope,fd.globals,fd.closure,fd.builtins)
noncomputable def Ss(x:Stmt):Option GY:=match x with
 | .FunctionDef _ a b _ _ _ sc _ _ _=>I (a,.stmts b,sc,mainGlobals,[],builtinsNs)
 |_=>J
theorem Su(P:Params):(jb 55).map (fun f=>(v3 P f).map Sr)=(jb 55).map (fun f=>Ss (ps f)):=by kernel_rfl
noncomputable def AB(K:Frag)(v:V)(u:Value):Bool:=match v with
 | .int i=>(match u with
  | .int j _=>decide (j=i)
  |_=>false)
 | .bB=>(match u with
  | .none=>true
  |_=>false)
 | .tup xs=>xs.isEmpty&&(match u with
  | .ref a=>(match K.lookup a with
   |some o=>(match o with
    |⟨c,d,.seq af _,GZ⟩=>decide (c= .type "tuple")&&d.isNone&&af.isEmpty&&GZ.isEmpty
    |_=>false)
   |none=>false)
  |_=>false)
 |_=>false
theorem Sv{K:Frag}{h:Heap}{W:a3}(X:K.In h)(eG:∀a o,h.get? a=I o→W.F a o){v:V}{u:Value}(e:AB K v u=true):dc W v u:=by
 induction v using V.casesOn with
 |int i=>induction u using Value.casesOn with
  |int j t=>cases of_decide_eq_true (p:=j=i) e;exact .int _ _
  |_=>cases e
 |bB=>induction u using Value.casesOn with
  |none=>exact .bB
  |_=>cases e
 |tup xs=>
  refine bC (fun ay au=>?_) (cI.mp e);cases kk.mp ay
  induction u using Value.casesOn with
  |ref a=>
   dsimp only at au
   generalize aO:K.lookup a=o at au
   rcases o with _|⟨c,d,Sw,GZ⟩
   ·cases au
   ·induction Sw using Data.casesOn with
    |seq af k=>refine bC (fun au bo=>?_) (cI.mp au);refine bC (fun au cg=>?_) (cI.mp au);refine bC (fun au dC=>?_) (cI.mp au);cases of_decide_eq_true au;cases uu.mp dC;cases aab.mp cg;cases aab.mp bo;exact .tup (vs:=[]) (eG _ _ (X _ _ aO)) ⟨k,rfl⟩ rfl fun i x v h=>cQ h
    |_=>cases au
  |_=>cases au
 |_=>cases e
noncomputable def allB(K:Frag):List V→List Value→Bool
 |[],[]=>true
 |v::vs,u::us=>AB K v u&&allB K vs us
 |_,_=>false
theorem Sx{K:Frag}{h:Heap}{W:a3}(X:K.In h)(eG:∀a o,h.get? a=I o→W.F a o){vs:List V}:∀{us:List Value},allB K vs us=true→b5 W vs us:=by
 induction vs with
 |nil=>intro us e;rcases us with _|_;exact .nil;cases e
 |cons v vs aG=>
  intro us e
  rcases us with _|⟨u,us⟩
  ·cases e
  ·refine bC (fun a b=>?_) (cI.mp (show(AB K v u&&allB K vs us)=true from e));exact .cons (Sv X eG a) (aG b)
def v5(K:Frag)(vs:List V)(u:Value):Bool:=match u with
 | .none=>vs.isEmpty
 | .ref T=>(match K.lookup T with
  |some o=>(match o.data with
   | .seq af _=>allB K vs af.toList
   |_=>false)
  |none=>false)
 |_=>false
theorem Sy{K:Frag}{h:Heap}{W:a3}{fd:FuncData}{h':Heap}(X:K.In h)(eG:∀a o,h.get? a=I o→W.F a o)(ai:∀a o,h.get? a=I o→h'.get? a=I o){vs:List V}(e:v5 K vs fd.defaults=true):∃ds,GW h' fd ds∧b5 W vs ds:=by
 generalize he:fd.defaults=u at e
 induction u using Value.casesOn with
 |none=>cases kk.mp e;exact⟨[],.inr ⟨he,rfl⟩,.nil⟩
 |ref T=>
  unfold v5 at e
  dsimp only at e
  generalize aO:K.lookup T=o at e
  rcases o with _|o
  ·cases e
  ·dsimp only at e
   generalize hd:o.data=d at e
   induction d using Data.casesOn with
   |seq af k=>exact⟨af.toList,.inl ⟨T,o,k,he,ai _ _ (X _ _ aO),by erw[hd]⟩,Sx X eG e⟩
   |_=>cases e
 |_=>cases e
theorem Sz(P:Params):((jb 55).all fun f=>match v3 P f with
 |some fd=>codeIn (H.c7 P) fd.code fd.qualname&&v5 (H.c7 P) (iT f) fd.defaults
 |none=>false)=true:=by kernel_rfl
noncomputable def SA(f:Nat):Stmt→Bool
 | .FunctionDef _ a b _ _ _ sc _ _ _=>decide (sc.kind= .function)&& !sc.isCoroutine&& !sc.isGenerator&&qJ (sc.names.map (·.1))&&U (a.args.map (·.arg)=((slotsOf sc).map (·.1)).take a.args.length)&&
  a.posonlyargs.isEmpty&&a.kwonlyargs.isEmpty&&a.vararg.isNone&&a.kwarg.isNone&&U ((iT f).length≤a.args.length)
 |_=>false
theorem SD:((jb 55).all fun f=>SA f (ps f))=true:=by kernel_rfl
structure FnAt(P:Params)(f:Nat)(a:Arguments)(b:List Stmt)(sc:Scope)(o:Obj)(fd:FuncData):Prop where
 look:(H.c7 P).lookup (g' f)=I o
 data:o.data= .func fd
 params:fd.params=a
 body:fd.body= .stmts b
 scope:fd.scope=sc
 globals:fd.globals=mainGlobals
 closure:fd.closure=[]
 builtins:fd.builtins=builtinsNs
 code:codeIn (H.c7 P) fd.code fd.qualname=true
 dflt:v5 (H.c7 P) (iT f) fd.defaults=true
theorem SE{P:Params}{f:Nat}{fd:FuncData}(h:v3 P f=I fd):∃o,(H.c7 P).lookup (g' f)=I o∧o.data= .func fd:=by
 unfold v3 at h;generalize (H.c7 P).lookup (g' f)=o at h
 rcases o with _|o
 ·cases h
 ·dsimp only at h
  generalize hd:o.data=d at h
  induction d using Data.casesOn with
  |func aaU=>cases Option.some.inj h;exact⟨o,rfl,hd⟩
  |_=>cases h
theorem SF(P:Params){f:Nat}(hf:f<55){nm:Str}{a:Arguments}{b:List Stmt}{dl:List Expr}{oz:Option Expr}{c':List TypeParam}{sc:Scope}{ts:Option Scope}{bd:Str}{p:Pos}(h:ps f= .FunctionDef nm a b dl oz c' sc ts bd p):∃o fd,FnAt P f a b sc o fd:=by have aa:=List.map_inj_left.mp (Su P) f (kV.mpr hf);rw[h]at aa;obtain⟨fd,G1,aw⟩:=omap aa;obtain⟨o,aO,hd⟩:=SE G1;have ab:=h1.mp (Sz P) f (kV.mpr hf);rw[G1]at ab;obtain⟨aq,ba⟩:=cI.mp ab;exact⟨o,fd,aO,hd,congrArg (·.1) aw,congrArg (·.2.1) aw,congrArg (·.2.2.1) aw,congrArg (·.2.2.2.1) aw,congrArg (·.2.2.2.2.1) aw,congrArg (·.2.2.2.2.2) aw,aq,ba⟩
structure G2(f:Nat)(a:Arguments)(sc:Scope):Prop where
 kind:sc.kind= .function
 co:sc.isCoroutine=false
 gen:sc.isGenerator=false
 nd:(sc.names.map (·.1)).Nodup
 pre:a.args.map (·.arg)=((slotsOf sc).map (·.1)).take a.args.length
 po:a.posonlyargs=[]
 GV:a.kwonlyargs=[]
 sT:a.vararg=J
 kw:a.kwarg=J
 dl:(iT f).length≤a.args.length
theorem SG{f:Nat}(hf:f<55){nm:Str}{a:Arguments}{b:List Stmt}{dl:List Expr}{oz:Option Expr}{c':List TypeParam}{sc:Scope}{ts:Option Scope}{bd:Str}{p:Pos}(h:ps f= .FunctionDef nm a b dl oz c' sc ts bd p):G2 f a sc:=by have ab:=h1.mp SD f (kV.mpr hf);rw[h]at ab;refine bC (fun ab SH=>?_) (cI.mp ab);refine bC (fun ab SI=>?_) (cI.mp ab);refine bC (fun ab G3=>?_) (cI.mp ab);refine bC (fun ab v7=>?_) (cI.mp ab);refine bC (fun ab G4=>?_) (cI.mp ab);refine bC (fun ab G5=>?_) (cI.mp ab);refine bC (fun ab ti=>?_) (cI.mp ab);refine bC (fun ab pG=>?_) (cI.mp ab);refine bC (fun a1 a2=>?_) (cI.mp ab);exact⟨of_decide_eq_true a1,(uz _).mp a2,(uz _).mp pG,z6 ti,of_decide_eq_true G5,kk.mp G4,kk.mp v7,uu.mp G3,uu.mp SI,of_decide_eq_true SH⟩
def G6(f:Nat)(sc:Scope):bV:=⟨slotsOf sc,DX f,(slotsOf sc).length,sc.names.filterMap (fun(x,ej)=>if ej== .globalImplicit then I x else J),[],sc.names.filterMap (fun(x,ej)=>if ej== .cell then I x else J)⟩
inductive G7(f:Nat)(fn:l2):Prop where
 |mk (nm:Str) (a:Arguments) (b:List Stmt) (dl:List Expr) (oz:Option Expr) (c':List TypeParam) (sc:Scope) (ts:Option Scope) (bd:Str) (p:Pos) (body:bD) (e:ps f= .FunctionDef nm a b dl oz c' sc ts bd p) (ae:ks (G6 f sc) b=I body) (pP:fn=⟨a.args.length,(slotsOf sc).length+3,iT f,DY f,body⟩):G7 f fn
theorem SJ{f:Nat}{fn:l2}(h:bl f=I fn):G7 f fn:=by
 unfold bl at h;generalize e:ps f=x at h
 induction x using Stmt.casesOn with
 |FunctionDef nm a b dl oz c' sc ts bd p=>obtain⟨body,aa,ab⟩:=omap h;exact⟨nm,a,b,dl,oz,c',sc,ts,bd,p,body,e,aa,ab.symm⟩
 |_=>cases h
theorem tj{sc:Scope}{x:Str}{i:Nat}(h:(slotsOf sc).lookup x=I i):((slotsOf sc).map (·.1))[i]? =I x∧((x,NameKind.local)∈sc.names∨(x,NameKind.cell)∈sc.names):=by
 have m:=vH h;unfold slotsOf at m⊢;have ma:=List.mem_zipIdx_iff_getElem?.mp m;refine⟨by erw[lO,List.getElem?_zipIdx,ma];simp,?_⟩;obtain⟨y,aV,e⟩:=f9.mp (fI ma);obtain⟨aa,ab⟩:=CR.mp aV;simp only[qv,beq_iff_eq]at ab;obtain⟨eU,fq⟩:=y
 dsimp only at e ab
 subst e
 rcases ab with rfl|rfl
 ·exact .inl aa
 ·exact .inr aa
end
end Tactic
end
section
open PySem PySem.W PySem.Calls PyProof.Rows PySem.SeqAt
namespace Tactic
noncomputable section
section
variable{A:Around}{G:Addr→Obj→Prop}{W W1:a3}{fm:bS}{st et:St}{s:Shared}
theorem tl{sc:Scope}{env:Env}(he:env.scope=sc)(nd:(sc.names.map (·.1)).Nodup){x:Str}{i:Nat}(h:(slotsOf sc).lookup x=I i):(jX fm st sc env).e2 x=I .local∨(jX fm st sc env).e2 x=I .cell∧(x,NameKind.cell)∈sc.names:=by
 have e:(jX fm st sc env).e2 x=sc.names.lookup x:=by unfold bS.e2;erw[if_neg (by simp[jX])];show env.scope.names.lookup x=_;erw[he]
 erw[e]
 rcases(tj h).2 with m|m
 ·exact .inl (lj nd m)
 ·exact .inr ⟨lj nd m,m⟩
theorem SK{f:Nat}{sc:Scope}{env:Env}(he:env.scope=sc)(ok:G2 f a sc)(aK:env.globals=mainGlobals)(vk:env.builtins=builtinsNs)(yQ:env.cells.Pairwise fun x y=>x.2≠y.2):dw (G6 f sc) (jX fm st sc env) where
 vars:=rfl
 kind:=by erw[he];exact ok.kind
 ej:=fun x i h=>(tl he ok.nd h).elim .inl fun h=>.inr (.inl h.1)
 inj:=fun x y i aa ab=>by have au:=(tj ab).1;rw[((tj aa).1)]at au;cases au;rfl
 apart:=fun x y i j c aa ab aq ba b0 d2=>name_of_addr yQ (LO aq) (LO ba)
 sE:=fun x h=>by
  obtain⟨⟨y,k⟩,aV,e⟩:=qr.mp h
  dsimp only at e
  split at e
  ·rename_i ai;cases (e);show env.scope.names.lookup x=_;erw[he,←beq_iff_eq.mp ai];exact lj ok.nd aV
  ·cases e
 gl:=fun x h=>by
  obtain⟨⟨y,k⟩,aV,e⟩:=qr.mp h
  dsimp only at e
  split at e
  ·rename_i ai;cases (e);show env.scope.names.lookup x=_;erw[he,←beq_iff_eq.mp ai];exact lj ok.nd aV
  ·cases e
 glob:=aK
 blt:=vk
theorem cM.get:∀{xs:List X} {us:List Value} {i:Nat} {x:X},cM W xs us→xs[i]? =I x→∃u,us[i]? =I u∧b8 W x u:=by
 intro xs
 induction xs with
 |nil=>intro us i y _ e;exact cQ e
 |cons x xs aD=>
  intro us i y h e
  induction us using bY with
  |nil=>exact h.elim
  |cons u us=>
  induction i using fe with
  |zero=>cases Option.some.inj e;exact⟨u,rfl,h.1⟩
  |succ i=>exact aD (i:=i) h.2 e
theorem cM.app:∀{xs aS:List X} {us vs:List Value},cM W xs us→cM W aS vs→cM W (xs++aS) (us++vs)
 |[],_,[],_,_,h=>h
 |_::_,_,_::_,_,a,h=>⟨a.1,cM.app a.2 h⟩
 |[],_,_::_,_,a,_=>a.elim
 |_::_,_,[],_,a,_=>a.elim
def SM(G:Addr→Obj→Prop)(W:a3)(fm:bS)(st:St)(s:Shared)(iz:Addr→Obj→Prop)(fm':bS)(st':St):Prop:=∀a,(∃o,s.heap.get? a=I o)→Off G W fm st a→Off iz W fm' st' a
theorem G8{sc:Scope}(h:(sc.names.map (·.1)).Nodup):((slotsOf sc).map (·.1)).Nodup:=by unfold slotsOf;rw[List.zipIdx_map_fst];exact h.sublist (List.Sublist.map _ List.filter_sublist)
theorem fill{u d N:Nat}(aa:u≤N)(ab:N≤u+d):u+(d-(d-(N-u)))=N:=by erw[xQ (Nat.sub_le_iff_le_add'.mpr ab),mH aa]
theorem G9(aQ:cH w ae cb cm)(bk:eC w ae C n):yO w ae C n:=by
 intro A W1 fm st et s f hf fn kF ax ext G0 ai fV mk xs us fu aa ab r kx aN el;obtain⟨nm,a,b,dl,oz,c',sc,ts,bd,p,body,eI,vb,rfl⟩:=SJ kF;obtain⟨o,fd,F⟩:=SF w.params hf eI;have S:=SG hf eI;have K:=aQ.K.keeps ai;obtain⟨ds,D,G'⟩:=Sy (W:=W1) aQ.K fV ai F.dflt;have tm:us.length=xs.length:=fu.length;have v8:ds.length=(iT f).length:=G'.1;have q7:(a.args.map (·.arg)).length=a.args.length:=bF _;have AD:(a.args.map (·.arg)).Nodup:=by erw[S.pre];exact List.Nodup.sublist (List.take_sublist _ _) (G8 S.nd)
 dsimp only at aa ab aN
 have PP:Az fd (a.args.map (·.arg)):=⟨by erw[F.params,S.po],by erw[F.params],by erw[F.params,S.sT],by erw[F.params,S.GV],by erw[F.params,S.kw]⟩
 have BT:=Sq (vals:=us) PP D AD (q7.symm▸tm▸aa) (q7.symm▸tm▸v8▸ab) (by erw[q7,v8];exact S.dl);generalize Ha:us++ds.drop (ds.length-((a.args.map (·.arg)).length-us.length))=full at BT;have Hb:full.length=a.args.length:=by erw[←Ha,b4,CQ,q7];exact fill (tm▸aa) (tm▸v8▸ab)
 have Hc:cM W1 (xs++((iT f).drop ((iT f).length-(a.args.length-xs.length))).map X.v) full:=by erw[←Ha,v8,q7,tm];exact cM.app fu (b5.Gy (G'.drop _))
 have q8:(((a.args.map (·.arg)).zip full).map (·.1))=a.args.map (·.arg):=List.map_fst_zip (by erw[q7,Hb];exact bE _);refine codeAny_call_function (o:=o) (fd:=fd) (body:=b) (by have:=ax.d;lia) (K _ _ F.look) F.data (by erw[F.scope];exact S.co) (by erw[F.scope];exact S.gen) F.body (codeRec_of K F.code) ?_;refine BT _ _ _ _ ?_;erw[F.closure,F.scope];have vD:∀x∈a.args.map (·.arg),∃i,(slotsOf sc).lookup x=I i:=by intro x aC;replace aC:=S.pre▸aC;obtain⟨y,aV,rfl⟩:=f9.mp (aac aC);exact⟨y.2,lj (G8 S.nd) aV⟩
 refine wpAny_newFunctionEnv_cells S.kind (fun x aC=>?_) fun env he s1 x=>?_
 ·have hm:x.1∈a.args.map (·.arg):=by erw[←q8];exact f9.mpr ⟨x,aC,rfl⟩
  obtain⟨i,aw⟩:=vD _ hm
  rcases(tj aw).2 with m|m
  ·exact .inl (lj S.nd m)
  ·exact .inr ⟨lj S.nd m,LI.mpr (GU (.inl m))⟩
 ·have hC:env.scope=sc:=by erw[he];rfl
  have Hd:env.locals=s.heap.objs.size:=by erw[he];rfl
  have SN:env.cells=cellsFrom (s.heap.objs.size+1) sc.names []:=by erw[he];rfl
  have SO:env.globals=mainGlobals:=by erw[he];exact F.globals
  have SP:env.builtins=builtinsNs:=by erw[he];exact F.builtins
  refine⟨(aQ.lim.keeps ai).keeps x.toInCall.keep,codeAny_func ?_⟩;obtain⟨jY,tk,rfl⟩:=x.toInCall.same;have He:∀y (i:Nat),(slotsOf sc).lookup y=I i→(jX fm st sc env).e2 y=I .cell→∃c,env.cells.lookup y=I c∧c≠env.locals∧jY.IsCell c (bindC env.kindOf ((a.args.map (·.arg)).zip full) (fun ag=>J) y)∧s.heap.get? c=J:=by
   intro y i aV ai
   rcases tl (fm:=fm) (st:=st) hC S.nd aV with h|⟨_,hm⟩
   ·cases ai.symm.trans h
   ·obtain⟨c,ah⟩:=GU (n:=s.heap.objs.size+1) (acc:=[]) (.inl hm);replace ah:=(SN).symm▸ah;have dQ:=x.above _ _ (LO ah);exact⟨c,ah,Nat.ne_of_gt dQ,x.cell _ _ ah,Heap.get?_none_of_le (Hd▸da dQ)⟩
  have SQ:=mk (tk:=tk) ⟨hC,S.nd,Hd,x.toInCall.keep,⟨_,x.toInCall.ns⟩,fun y i aa ab=>(He y i aa ab).elim fun c e=>⟨c,_,e.1,e.2.1,e.2.2.1,e.2.2.2⟩⟩;have slot:∀y (i:Nat) v,(slotsOf sc).lookup y=I i→((xs++((iT f).drop ((iT f).length-(a.args.length-xs.length))).map X.v).map I++xK ((slotsOf sc).length+3-a.args.length) J)[i]? =I (I v)→∃u,(y,u)∈(a.args.map (·.arg)).zip full∧b8 W1 v u:=by
   intro y i v aV aJ;have Hf:(xs++((iT f).drop ((iT f).length-(a.args.length-xs.length))).map X.v).length=a.args.length:=by erw[←Hc.length,Hb]
   have aw:i<a.args.length:=by
    apply Nat.lt_of_not_le;intro q9;rw[iP (by erw[bF,Hf];exact q9),List.getElem?_replicate]at aJ
    split at aJ<;>cases aJ
   rw[mE (by erw[bF,Hf];exact aw),lO]at aJ;obtain⟨fK,vK,e⟩:=omap aJ;cases e;obtain⟨u,ha,eV⟩:=Hc.get vK;have aA:(a.args.map (·.arg))[i]? =I y:=by erw[S.pre,CL,if_pos aw];exact(tj aV).1
   refine⟨u,?_,eV⟩;refine fI (i:=i) ?_;erw[List.getElem?_zip_eq_some];exact⟨aA,ha⟩
  have vO:=SQ.Sd (loc:=(xs++((iT f).drop ((iT f).length-(a.args.length-xs.length))).map X.v).map I++xK ((slotsOf sc).length+3-a.args.length) J)
   ⟨⟨_,x.toInCall.ns,fun y i v aa ab aq=>by
    obtain⟨u,ha,eV⟩:=slot y i v aa aq;exact⟨u,Sf (bS.n5 ab (by decide)) (q8.symm▸AD) ha,eV⟩⟩,
   fun y i aa ab=>by
    obtain⟨c,ay,au,bo,_⟩:=He y i aa ab;refine⟨c,_,ay,au,bo,fun z bw=>?_⟩;obtain⟨u,ha,eV⟩:=slot y i z aa bw;refine⟨u,Sh ?_ (q8.symm▸AD) ha,eV⟩;erw[show env.kindOf y=I .cell from bS.n5 ab (by decide)];decide,
   fun y i aa ab=>by rcases tl (fm:=fm) (st:=st) hC S.nd aa with h|⟨h,_⟩<;>cases ab.symm.trans h⟩
  have SR:d1 n (A.deeper env):=⟨ax.h,by show A.depth+1+3*n+110<_;have:=ax.d;lia,by show A.units+3+60*n+60<_;have:=ax.u;lia⟩
  refine As (wpAny_mono (Sb aQ bk vb _ SR (SK (fm:=fm) (st:=st) hC S SO SP x.apart) vO aN) (fun dB h4 q=>?_) fun ag ag x=>x);obtain⟨eD,j1,gf,hS,mm⟩:=q;refine el j1 gf (fun i=>rfl) ?_ mm
  induction r using R.casesOn with
  |ret y=>induction dB using Flow.casesOn with
   |ret v=>exact hS
   |_=>exact hS.elim
  |next=>induction dB using Flow.casesOn with
   |next=>rfl
   |_=>exact hS.elim
  |cont=>induction dB using Flow.casesOn with
   |cont=>rfl
   |_=>exact hS.elim
theorem enter_call(aQ:cH w ae cb cm)(bk:eC w ae C n){f:Nat}(hf:f<55){fn:l2}(kF:bl f=I fn)(ax:px (n+1) A)(R:Rel w ae G W fm st s){ext:List Cell}(le:W.le W1)
  (SS:∀{fm':bS} {s1:Shared} {iz:Addr→Obj→Prop},Rel w ae iz W fm' {st with loc:=[],base:=st.heap.length} s1→(∀b o,s.heap.get? b=I o→s1.heap.get? b=I o)→SM G W fm st s iz fm' {st with loc:=[],base:=st.heap.length}→Rel w ae iz W1 fm' {st with loc:=[],base:=st.heap.length,heap:=st.heap++ext} s1)
  {xs:List X} {us:List Value} (fu:cM W1 xs us) (aa:xs.length≤fn.np) (ab:fn.np≤xs.length+fn.dflt.length) {r:Tactic.R} {kx:Result→Shared→Prop}
  (aN:bI C fn.body ⟨(xs++(fn.dflt.drop (fn.dflt.length-(fn.np-xs.length))).map X.v).map I++xK (fn.ns-fn.np) J,st.heap++ext,st.tag,st.heap.length⟩=I (r,et))
  (el:∀{fm' eD h4 v},W1.le eD→Rel w ae (i1 G fm s.heap) eD fm' et h4→(∀i,fm'.bd i=hv fm st.base st.heap.length i)→D8 eD v r→h4.os=s.os→kx (.ok (.ret v)) h4):
  codeAny (model a4 w) A (.call (.ref (g' f)) ⟨us,[]⟩) kx s:=by
 refine G9 aQ bk hf kF ax (G0:=i1 G fm s.heap) (fm:=fm) (fun b o e=>R.cD _ _ (R.base b o e)) (fun a o h=>le.F _ _ (R.base a o h)) ?_ fu aa ab aN el;intro sc env jY tk M;have fresh:∀a,hu (jX fm st sc env) a→s.heap.get? a=J:=by
  rintro a (e|⟨y,i,aa,ab,aq⟩)
  ·exact Heap.get?_none_of_le (e.trans M.loc▸bE _)
  ·obtain⟨c,v,ay,_,_,cg⟩:=M.cells y i aa ab;cases ay.symm.trans aq;exact cg
 have ar:fm.env.locals≤env.locals:=by refine f7 (R.lo.alive (.loc rfl)) fun o aO=>?_;exact M.loc▸da (Heap.lt_size aO)
 have Ab:Rel w ae (i1 G fm s.heap) W (jX fm st sc env) {st with loc:=[],base:=st.heap.length} {s with heap:=jY,toks:=tk}:=by
  refine f7 (M.ns) fun m s7=>?_;refine R.enter (fm':=jX fm st sc env) (loc':=[]) (b':=st.heap.length) M.keep fresh ⟨⟨_,s7,fun y i v ag ag h=>by cases h⟩,fun y i aa ab=>?_,fun y i aa ab=>?_⟩ (fun i aw=>?_) (bE _) (fun i aw=>?_) (bR R.above ar)
  ·obtain⟨c,v,ay,au,bo,cg⟩:=M.cells y i aa ab;exact⟨c,v,ay,au,bo,fun z h=>by cases h⟩
  ·rcases tl (fm:=fm) (st:=st) M.es M.nd aa with h|⟨h,_⟩<;>cases ab.symm.trans h
  ·exact(yN (fm:=jX fm st sc env) aw).symm▸bE _
  ·exact R.E9 i
 refine SS Ab M.keep ?_;rintro c ⟨aaV,SU⟩ off;refine⟨?_,off.f,fun br g=>g.elim (off.g br) fun g=>off.o g.zt⟩;rintro(h|⟨i,d,q,l,e⟩)
 ·exact mT (fresh c h) SU
 ·exact off.o (.hp i d q l e)
end
end
end Tactic
end
section
open PySem PySem.W PySem.Calls PyProof.Rows PySem.SeqAt
namespace Tactic
noncomputable section
inductive Hg(fns:Nat→Option l2)(n f:Nat)(xs:List X)(h:List Cell)(t b:Nat)(res:X×List Cell×Nat):Prop where
 |mk (fn:l2) (r:R) (et:St) (kF:fns f=I fn) (aa:xs.length≤fn.np) (ab:fn.np≤xs.length+fn.dflt.length) (aC:bI (bu fns n) fn.body ⟨qK fn xs,h,t,b⟩=I (r,et)) (ef:et.base=b) (e6:h.length≤et.heap.length)
   (fW:h.length=b∨(h.length=b+1∧(et.heap[b]?).any (yI (b+1))=true)) (lr:sm fn.rc h.length (k6 r) et=I res):Hg fns n f xs h t b res
theorem AE{fns:Nat→Option l2}{n f:Nat}{xs:List X}{h:List Cell}{t b:Nat}{res:X×List Cell×Nat}(e:bu fns (n+1) f xs h t b=I res):Hg fns n f xs h t b res:=by refine eA fun cF=>?_;obtain⟨fn,kF,ay⟩:=aU (show(fns f).bind (fun fn=>if xs.length≤fn.np∧fn.np≤xs.length+fn.dflt.length then aY (bI (bu fns n) fn.body ⟨qK fn xs,h,t,b⟩) fun r st=>if l3 h.length b st then sm fn.rc h.length (k6 r) st else J else J)=I res from e);obtain⟨⟨aa,ab⟩,au⟩:=c1 ay;obtain⟨r,et,aC,bo⟩:=b2 au;obtain⟨ok,lr⟩:=c1 bo;refine cF ?_;unfold l3 at ok;simp only[rV,qv,decide_eq_true_eq]at ok;exact⟨fn,r,et,kF,aa,ab,aC,ok.1.1,ok.1.2,ok.2,lr⟩
inductive tn(rc:Bool)(k:Nat)(y:X)(st:St)(res:X×List Cell×Nat):Prop where
 |val (a:V) (e:y= .v a) (au:res=(.v a,st.heap.take k,st.tag)):tn rc k y st res
 |cell (i:Nat) (aS:List V) (e:y= .cell i) (aw:k≤i) (ah:st.heap[i]? =I (.lst aS)) (au:res=(.cell k,st.heap.take k++[.lst aS],st.tag)):tn rc k y st res
 |lst (i:Nat) (aS:List V) (e:y= .cell i) (aw:k≤i) (ah:st.heap[i]? =I (.lst aS)) (au:res=(.v (.lst aS),st.heap.take k,st.tag)):tn rc k y st res
 |inst (i c:Nat) (fs:List (Nat×X)) (gs:List (Nat×V)) (e:y= .cell i) (aw:k≤i) (ah:st.heap[i]? =I (.inst c fs)) (hp:mN fs=I gs) (au:res=(.cell k,st.heap.take k++[.inst c fs],st.tag)):tn rc k y st res
theorem AF{rc:Bool}{k:Nat}{y:X}{st:St}{res:X×List Cell×Nat}(h:sm rc k y st=I res):tn rc k y st res:=by
 induction y using X.casesOn with
 |v a=>exact .val a rfl (Option.some.inj h).symm
 |cell i=>
  obtain⟨aw,aa⟩:=c1 (show(if k≤i then(st.heap[i]?).bind (DZ rc k st)else J)=I res from h);obtain⟨c,ah,ab⟩:=aU aa
  induction c using Cell.casesOn with
  |lst xs=>
   rcases h3 (show(if rc=true then I (X.cell k,st.heap.take k++[.lst xs],st.tag)else I (X.v (.lst xs),st.heap.take k,st.tag))=I res from ab)with⟨_,e⟩|e
   ·exact .cell i xs rfl aw ah (Option.some.inj e).symm
   ·exact .lst i xs rfl aw ah (Option.some.inj e).symm
  |inst c fs=>obtain⟨hp,e⟩:=c1 (show(if(mN fs).isSome then I (X.cell k,st.heap.take k++[.inst c fs],st.tag)else J)=I res from ab);obtain⟨gs,pQ⟩:=LI.mp hp;exact .inst i c fs gs rfl aw ah pQ (Option.some.inj e).symm
  |_=>exact cQ ab
theorem SV{k:Nat}:∀{fs:List (Nat×X)},uU k fs=true→∀j y,er j fs=I y→iU k y:=by
 intro aT
 induction aT with
 |nil=>intro _ j y h;cases h
 |cons dA r aD=>
  obtain⟨i,x⟩:=dA;intro h j y e;obtain⟨aa,ab⟩:=cI.mp (show(DQ k x&&uU k r)=true from h)
  rcases h3 (show(if i=j then I x else er j r)=I y from e)with⟨_,e⟩|e
  ·cases e
   induction x using X.casesOn with
   |v v=>trivial
   |cell c=>exact show c<k from of_decide_eq_true aa
  ·exact aD ab j y e
section
theorem SW(aQ:cH w ae cb cm)(bk:eC w ae C n):eC w ae (bu bl (n+1)) (n+1):=by
 constructor
 ·intro A G W fm st s f xs us x h t ax R fu hf ah;obtain⟨fn,r,et,kF,aa,ab,aC,ef,e6,fW,lr⟩:=AE ah;refine wpAny_call ?_;refine enter_call aQ bk hf kF ax R (ext:=[]) .rfl (fun dd ag ag=>by erw[ei];exact dd) fu aa ab (by erw[ei];exact aC) fun{fm' eD h4 v} j1 gf h9 aJ mm=>?_;have ct:b8 eD (k6 r) v:=by
   cases r with
   |ret y=>exact aJ
   |next=>erw[aJ];exact .bB
   |cont=>erw[aJ];exact .bB
  have q':=R.cut j1 gf e6 ef h9;have v9:W.le {eD with p:=W.p}:=⟨j1.F,j1.t,iq _⟩
  have qU:∀q:Addr×Addr,(W.p++[q])[st.heap.length]? =I q:=fun q=>by erw[←R.len,iP (bE _),kW];rfl
  have Hh:∀q:Addr×Addr,({eD with p:=W.p}:a3).le {eD with p:=W.p++[q]}:=fun q=>⟨fun ag ag h=>h,iq _,o4 _ _⟩;show d9 w ae G W fm s _ x v h4;have E:=AF lr;clear aC bk aJ lr ah;generalize k6 r=y at E ct
  rcases E with⟨a,e,au⟩|⟨i,aS,e,aw,iV,au⟩|⟨i,aS,e,aw,iV,au⟩|⟨i,c,fs,gs,e,aw,iV,pQ,au⟩
  ·cases e;cases au;exact⟨_,v9,q',dc.hT ct,mm⟩
  ·cases e;cases au;obtain⟨q,aE,rfl⟩:=ct;obtain⟨e,vs,pl,bO⟩:=gf.cells i _ q iV aE;exact⟨{eD with p:=W.p++[q]},v9.trans (Hh q),q'.n7 (c:=.lst aS) (R.vZ j1 gf aw iV rfl aE) ⟨e,vs,pl,bO.hT⟩,⟨q,qU q,rfl⟩,mm⟩
  ·cases e;cases au;obtain⟨q,aE,rfl⟩:=ct;obtain⟨e,vs,⟨k,pl⟩,bO⟩:=gf.cells i _ q iV aE;refine⟨_,v9.trans a3.gE,q'.mU (R.vZ j1 gf aw iV rfl aE) pl,?_,mm⟩;erw[e];exact .lst (.inr ⟨rfl,rfl⟩) ⟨k,rfl⟩ bO.1 (bO.hT.mono a3.gE).2
  ·cases e;cases au;obtain⟨q,aE,rfl⟩:=ct;obtain⟨f0,m,hm,ex,g⟩:=gf.cells i _ q iV aE;refine⟨{eD with p:=W.p++[q]},v9.trans (Hh q),q'.n7 (c:=.inst c fs) (R.vZ j1 gf aw iV rfl aE) ⟨f0,m,hm,ex,fun j y a'=>?_⟩,⟨q,qU q,rfl⟩,mm⟩;obtain⟨z,bw⟩:=(tb pQ j).2 y a';obtain rfl:=Option.some.inj (a'.symm.trans ((tb pQ j).1 z bw));obtain⟨_,v,e,r⟩:=g j _ a';exact⟨trivial,v,e,(dc.hT (W:=eD) (P:=W.p++[q]) r:dc {eD with p:=W.p++[q]} z v)⟩
 ·intro A G W fm st s c xs us h t x dx ax R fu ah Hi Hj SX vT iY Hk;obtain⟨fn,r,et,kF,aa,ab,aC,ef,e6,fW,lr⟩:=AE Hk;have hlen:(st.heap++[Cell.inst c []]).length=st.heap.length+1:=by simp
  rw[hlen]at e6 fW lr;have fW:(et.heap[st.heap.length]?).any (yI (st.heap.length+1))=true:=by
   rcases fW with h|h
   ·lia
   ·exact h.2
  have AG:W.le {(W.iA x (instObj (dE c) dx))with p:=W.p++[(x,dx)]}:=⟨fun ag ag h=>.inl h,iq _,o4 _ _⟩
  have SY:b8 {(W.iA x (instObj (dE c) dx))with p:=W.p++[(x,dx)]} (.cell st.heap.length) (.ref x):=⟨(x,dx),by
   show(W.p++[(x,dx)])[st.heap.length]? =_;erw[←R.len,iP (bE _),kW];rfl,rfl⟩
  refine enter_call aQ bk (Gh w.params ah).2.2.2.2 kF ax R (ext:=[.inst c []]) AG (fun{fm' s1 iz} dd ai Hl=>?_) (xs:=.cell st.heap.length::xs) (us:=.ref x::us) ⟨SY,fu.mono AG⟩ aa ab aC fun{fm' eD h4 v} j1 gf h9 aJ mm=>?_
  ·have a0:=Hl x ⟨_,Hi⟩ SX;have cK:=Hl dx ⟨_,Hj⟩ vT;refine(dd.mU a0 (ai _ _ Hi)).n7 (q:=(x,dx)) (c:=.inst c []) ⟨cK.o,?_,cK.g⟩ ?_
   ·rintro o (f|⟨e,_⟩)
    ·exact cK.f o f
    ·exact iY e.symm
   ·refine⟨.inr ⟨rfl,rfl⟩,fun ag=>J,?_,fun s v h=>(by cases h),fun k y h=>by cases h⟩;exact Heap.Ns1.of_empty ⟨_,#[],_,ai _ _ Hj,rfl,fun e he=>absurd he (by simp),fun ag=>rfl⟩
  ·have ct:b8 eD (k6 r) v:=by
    cases r with
    |ret y=>exact aJ
    |next=>erw[aJ];exact .bB
    |cont=>erw[aJ];exact .bB
   have S0:v= .none∧h=et.heap.take (st.heap.length+1)∧t=et.tag:=by
    have E:=AF lr;clear aC bk aJ lr Hk;generalize k6 r=y at E ct
    rcases E with⟨a,e,au⟩|⟨i,aS,e,aw,ah,au⟩|⟨i,aS,e,aw,ah,au⟩|⟨i,c,fs,gs,e,aw,ah,hp,au⟩
    ·subst e;obtain⟨e,bo⟩:=Prod.mk.inj au;cases X.v.NF e;exact⟨NG ct,Prod.mk.inj bo⟩
    ·cases au
    ·cases au
    ·cases au
   obtain⟨rfl,rfl,rfl⟩:=S0;have v':=AG.trans j1;have q':=R.cut v' gf (da ‹_›) ef h9;have Hm:(et.heap.take (st.heap.length+1)).take st.heap.length=et.heap.take st.heap.length:=by erw[List.take_take];congr 1;lia
   refine⟨rfl,{eD with p:=W.p},⟨v'.F,v'.t,iq _⟩,rfl,by erw[Hm];exact q',by erw[List.length_take];lia,fun dr fs wa=>?_,mm⟩;rw[CL,if_pos (ki _)]at wa;have aE:=l4 j1.p (by
    show(W.p++[(x,dx)])[st.heap.length]? =_;erw[←R.len,iP (bE _),kW];rfl)
   refine⟨by erw[Hm];exact R.vZ v' gf (bE _) wa rfl aE,?_⟩;obtain⟨f0,m,hm,ex,g⟩:=gf.cells _ _ _ wa aE;rw[wa]at fW;have:e' w eD h4.heap (st.heap.length+1) (x,dx) (.inst dr fs):=⟨f0,m,hm,ex,fun k y ai=>⟨SV fW k y ai,(g k y ai).2⟩⟩
   exact e'.hT (W:=eD) (P:=W.p++[(x,dx)]) j1.p (by erw[b4,R.len];exact bE _) this
theorem Hn(k:mS):sv k:=Nz (fun aQ bk=>⟨SW aQ bk,G9 aQ bk⟩) k
theorem S1{w:World}{ae:Heap}{cb cm:Str→Option Value}(aQ:cH w ae cb cm):∀n,eC w ae (bu bl n) n:=by
 intro eW
 induction eW with
 |zero=>exact⟨fun ag ag ag ag h=>(by cases h),fun ag ag ag ag ag ag ag ag ag h=>(by cases h)⟩
 |succ n aD=>exact(Hn ⟨w,ae,cb,cm,n⟩ aQ (aD)).1
theorem S2{w:World}{ae:Heap}{cb cm:Str→Option Value}(aQ:cH w ae cb cm)(n:Nat):yO w ae (bu bl n) n:=(Hn ⟨w,ae,cb,cm,n⟩ aQ (S1 aQ n)).2
end
end
end Tactic
end
section
open PySem PySem.W PySem.Calls PyProof.Rows PySem.SeqAt
namespace Tactic
noncomputable section
noncomputable def m5:bS:=⟨⟨⟨.function,[],false,false,[]⟩,0,0,[],Str.empty,J,.none,J,0⟩,[],fun ag=>0,[]⟩
noncomputable def hA:St:=⟨[],[],0,0⟩
noncomputable def sX(h:Heap):a3:=⟨fun a o=>h.get? a=I o,[],[]⟩
theorem S3{w:World}{s:Shared}(aK:s.gens= #[]):D7 w s.heap (fun ag ag=>False) (sX s.heap) m5 hA [] s:=by
 intro sc env jY tk M;obtain⟨m,s7⟩:=M.ns;have no {i c q} {P:Prop} (l:gD [] [] i c q):P:=cQ l.1;have fresh:∀a,hu (jX m5 hA sc env) a→s.heap.get? a=J:=by
  rintro a (e|⟨y,i,aa,ab,aq⟩)
  ·exact Heap.get?_none_of_le (e.trans M.loc▸bE _)
  ·obtain⟨c,v,ay,_,_,cg⟩:=M.cells y i aa ab;cases ay.symm.trans aq;exact cg
 exact{
  cD:=M.keep
  e3:=fun a o g=>g.elim
  len:=rfl
  tag:=rfl
  cl:=fun l=>no l
  apart:=fun l=>no l
  fU:=fun a h o f=>by
   rcases h with h|⟨i,c,q,l,_⟩
   ·exact mT (fresh a h) f
   ·exact no l
  eB:=fun a h o g=>g
  g9:=fun l=>no l
  lo:=⟨⟨m,s7,fun x i v ag ag h=>by cases h⟩,fun x i aa ab=>by
   obtain⟨c,v,ay,au,bo,cg⟩:=M.cells x i aa ab;exact⟨c,v,ay,au,bo,fun y h=>by cases h⟩,fun x i aa ab=>by
   rcases tl (fm:=m5) (st:=hA) M.es M.nd aa with h|⟨h,_⟩<;>cases ab.symm.trans h⟩
  gens:=aK
  cP:=bE _
  fz:=fun a o br f g=>g
  base:=fun a o h=>h
  above:=M.loc▸bE _
  n6:=fun i h=>absurd h (o6 i)}
theorem has_int{d:WData}(h:WShape.has [] d .int=true):∃i,d= .int i:=by cases d<;>first|exact⟨_,rfl⟩|cases h
theorem has_list{d:WData}(h:WShape.has [] d (.list .int)=true):∃xs,d= .list xs∧WShape.hasItems [] xs .int=true:=by
 cases d with
 |list xs=>exact⟨xs,rfl,(LP _).symm.trans h⟩
 |_=>cases h
theorem S4{P:Params}{h:Heap}{W:a3}:∀{vs:List Value} {xs:List WData},WShape.hasItems [] xs .int=true→WellAll P h vs xs→∃ns:List Int,ns.length=xs.length∧b5 W (ns.map .int) vs:=by
 intro vs
 induction vs with
 |nil=>
  intro xs _ hw
  induction xs using bY with
  |nil=>exact⟨[],rfl,.nil⟩
  |cons=>exact nomatch hw
 |cons v vs aD=>
  intro xs he hw
  induction xs using bY with
  |nil=>exact nomatch hw
  |cons d ds=>
  cases hw with|cons a b=>
  obtain⟨aa,ab⟩:=cI.mp (show(WShape.has [] d .int&&WShape.hasItems [] ds .int)=true from he);obtain⟨i,rfl⟩:=has_int aa;obtain⟨ns,e,r⟩:=aD ab b;cases a;exact⟨i::ns,congrArg (· +1) e,.cons (.int _ _) r⟩
set_option backward.match.sparseCases true in
theorem S5{xs:List WData}(h:WTm.holds [] (OpenLaw.pre PySem.Challenge.rw_tu0005_01) {args:=[.list xs]}=true):xs.length≤63:=by
 have e:WTm.value [] (OpenLaw.pre PySem.Challenge.rw_tu0005_01) {args:=[.list xs]}=match I (WData.bool (!U ((63:Int)<(xs.length:Int))))with
  |some (.bool false)=>I (.bool false)
  |some (.bool true)=>I (.bool true)
  |_=>J:=rfl
 unfold WTm.holds at h;rw[e]at h;refine bZ (fun ar:(63:Int)<(xs.length:Int)=>?_) (fun ar=>?_)
 ·rw[decide_eq_true ar]at h;cases h
 ·omega
set_option tactic.hygienic true in
theorem S6(tp:∀ns:List Int,ns.length≤63→∃h t,bu bl 20 54 [.v (.lst (ns.map .int))] [] 0 0=I (.v (.bool true),h,t)):
  WalkO H.fg H.lo (fun ag ag=>True) H.ai.says PySem.Challenge.rw_tu0005_01.row.toRowW H.DJ [] fun f vs=>PySem.call f vs:=by
 intro w aaW s₁ cb cm G Y a o pm cd doc nV Dz aa ab aq ba b0 S7 args vals as yg aaX aaY S8 aaZ;have K:=Y;have aQ:cH w s₁.heap cb cm:=⟨K,G.T.g,G.T.b,G.T.nolimit,G.T.builtins⟩
 have aB:cb (Str.ofString "law")=I (.ref (g' 54)):=mg_of K G.T.g (Gg w.params (f:=54) (by decide) rfl);have dC:cb (Str.ofString "law")=I (.ref a):=b0;rw[aB]at dC;cases dC;obtain⟨cL,ck⟩:=pre_splitW yg;obtain⟨d,r,rfl,eu,gc⟩:=hasAllW_cons cL;cases hasAllW_nil gc;obtain⟨xs,rfl,hc⟩:=has_list eu;have hlen:=S5 ck;cases S8 with|cons ic oA=>
 cases oA;cases ic with|list ar hw=>
 rename_i l vs;obtain⟨ns,ay,bO⟩:=S4 (W:=sX s₁.heap) hc hw;obtain⟨hh,t,ah⟩:=tp ns (by omega);obtain⟨fn,r,et,kF,ef,e6,aC,_,_,_,lr⟩:=AE ah;refine wpAny_call ?_;have S9:px 20 callerA:=⟨rfl,by decide,by decide⟩
 have hf:54<55:=by decide
 refine S2 aQ 19 hf kF S9 (ext:=[]) (G0:=fun ag ag=>False) (fm:=m5) (st:=hA) (W1:=sX s₁.heap) (fun b o e=>e) (fun a o h=>h) (S3 S7) (xs:=[.v (.lst (ns.map .int))]) (us:=[.ref l]) ⟨?_,trivial⟩ ef e6 aC fun{fm' eD h4 v} j1 gf h9 aJ mm=>?_
 ·exact .lst (vs:=vs) (o:={cls:=.type "list",data:=.seq vs.toArray}) ar ⟨0,rfl⟩ bO.1 bO.2
 ·have av:k6 r= .v (.bool true):=by
   cases AF lr with
   |val a e au=>erw[e];cases au;rfl
   |cell i aS e aw ah au=>cases au
   |lst i aS e aw ah au=>cases au
   |inst i c fs gs e aw ah hp au=>cases au
  have ct:b8 eD (k6 r) v:=by
   induction r using R.casesOn with
   |ret y=>exact aJ
   |next=>erw[aJ];exact .bB
   |cont=>erw[aJ];exact .bB
  rw[av]at ct;cases ct;have post:WTm.holds [] (.eq .res (.lit (.bool true))) {args:=[.list xs],res:=I (.bool true),after:=[.list xs]}=true:=by have e:WTm.value [] (.eq .res (.lit (.bool true))) {args:=[.list xs],res:=I (.bool true),after:=[.list xs]}=I (.bool (same (.bool true) (.bool true))):=rfl;unfold WTm.holds;erw[e,same_self]
  have S':WShape.has [] (.bool true) .bool=true:=rfl;exact⟨.inl ⟨.bool true,.bool true,[],rfl,fun ag=>rfl,.bool true,cI.mpr ⟨S',post⟩,fun ag=>⟨.nil,fun a h=>nomatch h⟩⟩,.of_keep fun b o e=>gf.cD _ _ (gf.base b o e),mm,.of_eq gf.gens⟩
theorem Ta(tp:∀ns:List Int,ns.length≤63→∃h t,bu bl 20 54 [.v (.lst (ns.map .int))] [] 0 0=I (.v (.bool true),h,t)):PySem.Challenge.rw_tu0005_01.Holds:=H.head (S6 tp)
end
end Tactic
end
end
section
namespace Tactic
inductive bc where
 |root
 |go (cA:Nat) (line fit bJ:Int) (before:bc)
 deriving Inhabited
noncomputable def bc.ctorIdx(x:bc):Nat:=bc.casesOn x 0 (fun ag ag ag ag ag=>1)
noncomputable def bc.cA:bc→Nat
 | .root=>0
 | .go s _ _ _ _=>s
noncomputable def bc.line:bc→Int
 | .root=>0
 | .go _ l _ _ _=>l
noncomputable def bc.fit:bc→Int
 | .root=>2
 | .go _ _ f _ _=>f
noncomputable def bc.bJ:bc→Int
 | .root=>0
 | .go _ _ _ d _=>d
noncomputable def bc.path:bc→List Nat
 | .root=>[]
 | .go s _ _ _ b=>s::b.path
structure bM where
 bad:Nat→Nat→Int
 fit:Nat→Nat→Int
 cst:Nat→Nat→Int
 hU:Nat→Bool
 M:Nat
 A:Int
 most:Int
 cC:Int→Int
noncomputable def bM.cu(P:bM)(f g:Int):Int:=if 1<(f-g).natAbs then P.A else 0
def bM.fN(P:bM)(b:Nat)(w:bc):Int:=w.bJ+P.cst w.cA b+P.cu (P.fit w.cA b) w.fit
inductive fB(P:bM):List Nat→Nat→Int→Int→Int→Prop where
 |root:fB P [] 0 0 2 0
 |step {p a k f d b} (h:fB P p a k f d) (lt:a<b) (ok:P.bad a b≤P.most) (m8:∀t,a<t→t<b→P.hU t=false):fB P (b::p) b (k+1) (P.fit a b) (d+P.cst a b+P.cu (P.fit a b) f)
noncomputable def bM.live(P:bM)(a j:Nat):Prop:=∀t,a<t→t≤j→P.hU t=false∧P.bad a t≤10000
structure Ho(P:bM)(b:Nat)(act m9:List bc):Prop where
 old:∀bP,bP∈m9→(bP∈act∧P.bad bP.cA b≤10000∧P.hU b=false)∨∃w,w∈act∧P.bad w.cA b≤P.most∧bP= .go b (w.line+1) (P.fit w.cA b) (P.fN b w) w
 keep:∀w,w∈act→P.bad w.cA b≤10000→P.hU b=false→w∈m9
 new:∀w,w∈act→P.bad w.cA b≤P.most→∃bP,bP∈m9∧bP.cA=b∧P.cC bP.line=P.cC (w.line+1)∧∀g,bP.bJ+P.cu g bP.fit≤P.fN b w+P.cu g (P.fit w.cA b)
inductive Run(P:bM):Nat→List bc→Prop where
 |zero:Run P 0 [.root]
 |succ {j act m9} (h:Run P j act) (s:Ho P (j+1) act m9):Run P (j+1) m9
theorem Run.sound{P:bM}{j:Nat}{act:List bc}(h:Run P j act):∀w,w∈act→fB P w.path w.cA w.line w.fit w.bJ∧w.cA≤j∧P.live w.cA j:=by
 induction h with
 |zero=>intro w h;erw[dY.mp h];exact⟨.root,bE _,fun t aa ab=>absurd (ey aa ab) (qu _)⟩
 | @succ j _ _ h s aG=>
  intro w hw
  rcases s.old w hw with⟨aa,ab,aq⟩|⟨v,aa,ab,rfl⟩
  ·obtain⟨a,b,c⟩:=aG w aa;refine⟨a,rM b,fun t aM bt=>?_⟩
   rcases rX bt with l|rfl
   ·exact c t aM (kf l)
   ·exact⟨aq,ab⟩
  ·obtain⟨a,b,c⟩:=aG v aa;exact⟨.step a (uk b) ab fun t aM bt=>(c t aM (kf bt)).1,bE _,fun t aM bt=>absurd (ey aM bt) (qu _)⟩
theorem Tb{P:bM}{b:Nat}{w:bc}{d x:Int}(h:w.bJ+P.cu (P.fit w.cA b) w.fit≤d+x):P.fN b w≤d+P.cst w.cA b+x:=by unfold bM.fN;lia
theorem Run.complete{P:bM}(mono:∀a t b,a<t→t<b→P.bad a b≤P.most→P.bad a t≤10000)(gs:∀i j,P.cC i=P.cC j→P.cC (i+1)=P.cC (j+1)){j:Nat}{act:List bc}(h:Run P j act):∀{p:List Nat} {b:Nat} {k f d:Int},fB P p b k f d→b≤j→P.live b j→∃w,w∈act∧w.cA=b∧P.cC w.line=P.cC k∧∀g,w.bJ+P.cu g w.fit≤d+P.cu g f:=by
 induction h with
 |zero=>
  intro p b k f d hp ae _;cases hp with
  |root=>exact⟨.root,.head _,rfl,rfl,fun g=>dZ _⟩
  |step h lt=>exact absurd (ey lt ae) (o6 _)
 | @succ j _ _ h s aG=>
  intro p b k f d hp ae ar
  rcases rX ae with l|rfl
  ·have l:=kf l;obtain⟨w,aa,rfl,aq,ba⟩:=aG hp l fun t aM bt=>ar t aM (rM bt);obtain⟨ay,au⟩:=ar _ (uk l) (bE _);exact⟨w,s.keep w aa au ay,rfl,aq,ba⟩
  ·cases hp with
   |step aE lt ok m8=>obtain⟨w,aa,rfl,aq,ba⟩:=aG aE (kf lt) fun t aM bt=>⟨m8 t aM (uk bt),mono _ _ _ aM (uk bt) ok⟩;obtain⟨bP,cZ,dt,gw,lu⟩:=s.new w aa ok;exact⟨bP,cZ,dt,gw.trans (gs _ _ aq),fun g=>c0 (lu g) (kl (Tb (ba _)) _)⟩
noncomputable def sum2(p:Nat→Nat→Int):List Nat→Int
 |x::y::r=>p x y+sum2 p (y::r)
 |_=>0
noncomputable def gx(q:Nat→Nat→Nat→Int):List Nat→Int
 |x::y::z::r=>q x y z+gx q (y::z::r)
 |_=>0
noncomputable def all2(R:Nat→Nat→Prop):List Nat→Prop
 |x::y::r=>R x y∧all2 R (y::r)
 |_=>True
noncomputable def at2(p:Nat→Nat→Int):List Nat→List Nat→Int
 |a::_,l::_=>p a l
 |_,_=>0
noncomputable def m'(q:Nat→Nat→Nat→Int)(acc l:List Nat):Int:=(match acc,l with
 |a1::a2::_,aM::_=>q a2 a1 aM
 |_,_=>0)+(match acc,l with
 |a1::_,aM::bt::_=>q a1 aM bt
 |_,_=>0)
section
variable{p:Nat→Nat→Int}{q:Nat→Nat→Nat→Int}{x y z u:Nat}{r s:List Nat}
theorem Hp:sum2 p []=0:=rfl
theorem Hq:sum2 p [x]=0:=rfl
theorem Hr:sum2 p (x::y::r)=p x y+sum2 p (y::r):=rfl
theorem Hs:at2 p [] r=0:=rfl
theorem Ht:at2 p (x::r) []=0:=rfl
theorem Hu:at2 p (x::r) (y::s)=p x y:=rfl
theorem Hv:gx q []=0:=rfl
theorem Hw:gx q [x]=0:=rfl
theorem Hx:gx q [x,y]=0:=rfl
theorem Hy:gx q (x::y::z::r)=q x y z+gx q (y::z::r):=rfl
theorem Hz:m' q [] r=0+0:=rfl
theorem HA:m' q [x] []=0+0:=rfl
theorem HB:m' q (x::y::r) []=0+0:=rfl
theorem HC:m' q [x] [y]=0+0:=rfl
theorem HD:m' q [x] (y::z::r)=0+q x y z:=rfl
theorem HE:m' q (x::y::r) [z]=q y x z+0:=rfl
theorem HF:m' q (x::y::r) (z::u::s)=q y x z+q x z u:=rfl
end
theorem Tc(p:Nat→Nat→Int):∀(l acc:List Nat),sum2 (fun x y=>p y x) (l.reverseAux acc)=sum2 p l+sum2 (fun x y=>p y x) acc+at2 p acc l:=by
 intro aT
 induction aT with
 |nil=>intro acc;cases acc<;>simp[xR,Hp,Hq,Hr,Hs,Ht,Hu]
 |cons x l aD=>intro acc;erw[xR,aD (x::acc)];cases l<;>cases acc<;>simp only[Hp,Hq,Hr,Hs,Ht,Hu]<;>lia
theorem Td(q:Nat→Nat→Nat→Int):∀(l acc:List Nat),gx (fun x y z=>q z y x) (l.reverseAux acc)=gx q l+gx (fun x y z=>q z y x) acc+m' q acc l:=by
 intro aT
 induction aT with
 |nil=>intro acc;rcases acc with _|⟨a,_|_⟩<;>simp[xR,Hv,Hw,Hx,Hy,Hz,HA,HB,HC,HD,HE,HF]
 |cons x l aD=>
  intro acc;erw[xR,aD (x::acc)]
  rcases l with _|⟨aM,_|⟨bt,l⟩⟩<;>rcases acc with _|⟨a,_|⟨a2,acc⟩⟩<;>simp only[Hv,Hw,Hx,Hy,Hz,HA,HB,HC,HD,HE,HF]<;>lia
theorem Te(p:Nat→Nat→Int)(l:List Nat):sum2 (fun x y=>p y x) l.reverse=sum2 p l:=by have h:=Tc p l [];have e:at2 p [] l=0:=rfl;rw[e]at h;exact h.trans (x')
theorem Tf(q:Nat→Nat→Nat→Int)(l:List Nat):gx (fun x y z=>q z y x) l.reverse=gx q l:=by have h:=Td q l [];have e:m' q [] l=0:=rfl;rw[e]at h;exact h.trans (x')
theorem Tg(R:Nat→Nat→Prop):∀(l acc:List Nat),all2 R l→all2 (fun x y=>R y x) acc→(∀x y,acc.head?=I x→l.head?=I y→R x y)→all2 (fun x y=>R y x) (l.reverseAux acc):=by
 intro aT
 induction aT with
 |nil=>intro acc _ h _;exact h
 |cons x l aD=>
  intro acc aa ab aq;rw[xR];refine aD (x::acc) ?_ ?_ fun a b ay au=>?_
  ·induction l using bY with
   |nil=>trivial
   |cons y r=>exact aa.2
  ·induction acc using bY with
   |nil=>trivial
   |cons a r=>exact⟨aq a x rfl rfl,ab⟩
  ·induction l using bY with
   |nil=>injections au
   |cons y r=>injections ay;injections au;exact aa.1
theorem Th{R:Nat→Nat→Prop}{l:List Nat}(h:all2 R l):all2 (fun x y=>R y x) l.reverse:=Tg R l [] h trivial fun ag ag e=>nomatch e
theorem HG(p:Nat→Nat→Int)(f:Nat→Nat):∀l:List Nat,sum2 p (l.map f)=sum2 (fun x y=>p (f x) (f y)) l
 |[]|[_]=>rfl
 |x::y::r=>by show p (f x) (f y)+sum2 p ((y::r).map f)=_;erw[HG p f (y::r)];rfl
theorem HH(q:Nat→Nat→Nat→Int)(f:Nat→Nat):∀l:List Nat,gx q (l.map f)=gx (fun x y z=>q (f x) (f y) (f z)) l
 |[]|[_]|[_,_]=>rfl
 |x::y::z::r=>by show q (f x) (f y) (f z)+gx q ((y::z::r).map f)=_;erw[HH q f (y::z::r)];rfl
theorem HI{R:Nat→Nat→Prop}{f:Nat→Nat}:∀{l:List Nat},all2 (fun x y=>R (f x) (f y)) l→all2 R (l.map f)
 |[],_|[_],_=>trivial
 |x::y::r,h=>⟨h.1,HI (l:=y::r) h.2⟩
theorem wb{R S:Nat→Nat→Prop}:∀{l:List Nat},(∀x y,x∈l→y∈l→R x y→S x y)→all2 R l→all2 S l
 |[],_,_|[_],_,_=>trivial
 |x::y::r,i,h=>⟨i x y (.head _) (.tail _ (.head _)) h.1,wb (l:=y::r) (fun a b aB ae=>i a b (.tail _ aB) (.tail _ ae)) h.2⟩
theorem AH{p q:Nat→Nat→Int}:∀{l:List Nat},all2 (fun x y=>p x y=q x y) l→sum2 p l=sum2 q l
 |[],_|[_],_=>rfl
 |x::y::r,h=>by show p x y+sum2 p (y::r)=q x y+sum2 q (y::r);erw[h.1,AH (l:=y::r) h.2]
theorem AI(p q:Nat→Nat→Int):∀l:List Nat,sum2 (fun x y=>p x y+q x y) l=sum2 p l+sum2 q l
 |[]|[_]=>rfl
 |x::y::r=>by show p x y+q x y+sum2 (fun x y=>p x y+q x y) (y::r)=p x y+sum2 p (y::r)+(q x y+sum2 q (y::r));erw[AI p q (y::r)];lia
noncomputable def AJ(R:Nat→Nat→Nat→Prop):List Nat→Prop
 |x::y::z::r=>R x y z∧AJ R (y::z::r)
 |_=>True
theorem Ti{p q:Nat→Nat→Nat→Int}:∀{l:List Nat},AJ (fun x y z=>p x y z=q x y z) l→gx p l=gx q l:=by
 intro l
 induction l with
 |nil=>intro _;rfl
 |cons x l aD=>
  intro h
  induction l using bY with
  |nil=>rfl
  |cons y l=>
  induction l using bY with
  |nil=>rfl
  |cons z r=>
  show p x y z+gx p (y::z::r)=q x y z+gx q (y::z::r);erw[h.1,aD h.2]
theorem HJ{R:Nat→Nat→Nat→Prop}{S:Nat→Nat→Prop}(i:∀x y z,S x y→S y z→R x y z):∀{l:List Nat},all2 S l→AJ R l
 |[],_|[_],_|[_,_],_=>trivial
 |x::y::z::r,h=>⟨i x y z h.1 h.2.1,HJ i (l:=y::z::r) h.2⟩
noncomputable def bM.ok(P:bM)(a b:Nat):Prop:=a<b∧P.bad a b≤P.most∧∀t,a<t→t<b→P.hU t=false
def bM.kG(P:bM)(l:List Nat):Int:=sum2 (fun y x=>P.cst x y) l+gx (fun z y x=>P.cu (P.fit y z) (P.fit x y)) l
noncomputable def bM.HK(P:bM):List Nat→Int
 |y::x::_=>P.fit x y
 |_=>2
set_option tactic.hygienic true in
theorem fB.kG{P:bM}(h0:∀b,0<b→P.bad 0 b≤P.most→P.cu (P.fit 0 b) 2=0){p b k f d}(h:fB P p b k f d):(p++[0]).head?=I b∧all2 (fun y x=>P.ok x y) (p++[0])∧k=p.length∧f=P.HK (p++[0])∧d=P.kG (p++[0]):=by
 induction h with
 |root=>exact⟨rfl,trivial,rfl,rfl,rfl⟩
 |step h lt ok m8 aG=>
  rename_i p a k f d b;obtain⟨cZ,dt,gw,lu,tq⟩:=aG;cases hp:p++[0]with
  |nil=>rw[hp]at cZ;injections cZ
  |cons x r=>
   rw[hp]at cZ dt lu tq
   injections cZ
   have e:(b::p)++[0]=b::a::r:=by erw[xO,hp]
   erw[e];refine⟨rfl,⟨⟨lt,ok,m8⟩,dt⟩,by erw[gw];rfl,rfl,?_⟩
   induction r using bY with
   |nil=>
    have aB:a=0:=by induction p using bY with
     |nil=>injections hp;rfl
     |cons y q=>simp at hp
    subst aB;have hf:f=2:=lu;erw[tq,hf,h0 b lt ok];show(0+0:Int)+P.cst 0 b+0=P.cst 0 b+0+0
    lia
   |cons z r=>
    erw[tq,lu];show sum2 _ _+gx _ _+P.cst a b+P.cu (P.fit a b) (P.fit z a)=(P.cst a b+sum2 _ _)+(P.cu (P.fit a b) (P.fit z a)+gx _ _)
    lia
theorem fB.of{P:bM}(h0:∀b,0<b→P.bad 0 b≤P.most→P.cu (P.fit 0 b) 2=0):∀{p:List Nat} {b:Nat},(p++[0]).head?=I b→all2 (fun y x=>P.ok x y) (p++[0])→fB P p b p.length (P.HK (p++[0])) (P.kG (p++[0])):=by
 intro aT
 induction aT with
 |nil=>intro b h _;injections h;exact .root
 |cons y p aD=>
  intro b h aB
  injections h
  cases hp:p++[0]with
  |nil=>simp at hp
  |cons x r=>
   have e:(y::p)++[0]=y::x::r:=by erw[xO,hp]
   rw[e]at aB⊢;have aG:=aD (by erw[hp];rfl) (by erw[hp];exact aB.2);have st:=aG.step aB.1.1 aB.1.2.1 aB.1.2.2;have:=(st.kG h0).2.2.2.2;rw[e]at this;rw[this]at st;exact st
structure gR(P cn:bM)(g:Nat→Nat→Int)(pc:Nat→Int):Prop where
 M:cn.M=P.M
 A:cn.A=P.A
 most:cn.most=P.most
 bad:∀a b,a<b→b≤P.M→cn.bad (P.M-b) (P.M-a)=P.bad a b
 fit:∀a b,a<b→b≤P.M→cn.fit (P.M-b) (P.M-a)=P.fit a b
 hU:∀t,0<t→t<P.M→cn.hU (P.M-t)=P.hU t
 cst:∀a b,a<b→b≤P.M→P.cst a b=g a b+pc b
 HL:∀a b,a<b→b≤P.M→cn.cst (P.M-b) (P.M-a)=g a b+pc a
 HM:pc 0=0
 HN:pc P.M=0
theorem Tj(P:bM)(f g:Int):P.cu f g=P.cu g f:=by unfold bM.cu;erw[←Int.natAbs_neg (f-g),Int.neg_sub]
theorem le_head{b:Nat}:∀{r:List Nat},all2 (fun y x=>x<y) (b::r)→∀e,e∈b::r→e≤b
 |[],_,e,h=>by rw[dY]at h;exact eQ ‹_›
 |x::r,aB,e,h=>by
  rcases ec.mp h with rfl|h
  ·exact bE _
  ·exact da (gI (le_head (b:=x) aB.2 e h) aB.1)
theorem AK{R S:Nat→Nat→Prop}:∀{l:List Nat},all2 R l→(∀e,e∈l→∀x,R e x→S e x)→all2 S l
 |[],_,_|[_],_,_=>trivial
 |x::y::r,h,i=>⟨i x (.head _) y h.1,AK (l:=y::r) h.2 fun e he=>i e (.tail _ he)⟩
theorem Tn(pc:Nat→Int):∀(b:Nat) (q:List Nat),sum2 (fun ag x=>pc x) (b::q++[0])+pc b=sum2 (fun y ag=>pc y) (b::q++[0])+pc 0:=by
 intro b aT
 induction aT generalizing b with
 |nil=>show pc 0+0+pc b=pc b+0+pc 0;lia
 |cons x q aD=>
  have:=aD x;show pc x+sum2 (fun ag x=>pc x) (x::q++[0])+pc b=pc b+sum2 (fun y ag=>pc y) (x::q++[0])+pc 0
  lia
theorem To{M x t:Nat}(h:t<M-x):x<M-t:=Nat.lt_sub_of_add_lt (o3 t x▸ZU h)
theorem Tp{M y t:Nat}(aV:y≤M)(a5:t≤M)(h:M-y<t):M-t<y:=(Nat.sub_lt_iff_lt_add' a5).mpr ((Nat.sub_lt_iff_lt_add aV).mp h)
theorem gR.Tq{P cn:bM}{g:Nat→Nat→Int}{pc:Nat→Int}(m:gR P cn g pc){x y:Nat}(h:P.ok x y)(aV:y≤P.M):cn.ok (P.M-y) (P.M-x):=by refine⟨uy (ey h.1 aV) h.1,by erw[m.bad _ _ h.1 aV,m.most];exact h.2.1,fun t t1 e1=>?_⟩;have cZ:=To e1;have HO:=ey e1 (rY ..);have dt:=Tp aV (da HO) t1;have:=m.hU _ (gI (fx _) cZ) (ey dt aV);rw[xQ (da HO)]at this;exact this.trans (h.2.2 _ cZ dt)
theorem gR.pt{P cn:bM}{g:Nat→Nat→Int}{pc:Nat→Int}(m:gR P cn g pc)(h0:∀b,0<b→P.bad 0 b≤P.most→P.cu (P.fit 0 b) 2=0)(Tr:∀b,0<b→cn.bad 0 b≤cn.most→cn.cu (cn.fit 0 b) 2=0)
  {q:List Nat} {k f d:Int} (h:fB P (P.M::q) P.M k f d):∃sy,fB cn (P.M::q.reverse.map (P.M- ·)) P.M k sy d:=by
 obtain⟨_,ab,aq,_,b0⟩:=h.kG h0;have dQ:all2 (fun y x=>x<y) (P.M::(q++[0])):=AK (l:=P.M::(q++[0])) ab fun ag ag ag h=>h.1;have ib:∀e,e∈P.M::q++[0]→e≤P.M:=le_head (r:=q++[0]) dQ;have d2:all2 (fun y x=>P.ok x y∧y≤P.M) (P.M::q++[0]):=AK ab fun e he ag h=>⟨h,ib e he⟩;have pL:(P.M::q.reverse.map (P.M- ·))++[0]=(P.M::q++[0]).reverse.map (P.M- ·):=by simp
 have AL:all2 (fun y x=>cn.ok x y) ((P.M::q.reverse.map (P.M- ·))++[0]):=by erw[pL];refine HI (Th (R:=fun y x=>cn.ok (P.M-y) (P.M-x)) (wb (fun y x ag ag h=>?_) d2));exact m.Tq h.1 h.2
 have hp:=fB.of (P:=cn) Tr (p:=P.M::q.reverse.map (P.M- ·)) (b:=P.M) rfl AL;have ai:((P.M::q.reverse.map (P.M- ·)).length:Int)=k:=by erw[aq];simp
 have hd:cn.kG ((P.M::q.reverse.map (P.M- ·))++[0])=d:=by
  erw[b0,pL];unfold bM.kG;erw[HG,HH];have ay:sum2 (fun y x=>cn.cst (P.M-x) (P.M-y)) (P.M::q++[0]).reverse=sum2 (fun y x=>P.cst x y) (P.M::q++[0]):=by
   erw[Te (fun y x=>cn.cst (P.M-y) (P.M-x)),AH (q:=fun y x=>g x y+pc x) (wb (fun y x ag ag h=>m.HL _ _ h.1.1 h.2) d2),AH (p:=fun y x=>P.cst x y) (q:=fun y x=>g x y+pc y) (wb (fun y x ag ag h=>m.cst _ _ h.1.1 h.2) d2),AI (fun y x=>g x y) (fun ag x=>pc x),AI (fun y x=>g x y) (fun y ag=>pc y)]
   have:=Tn pc P.M q;rw[m.HM,m.HN]at this
   lia
  have au:gx (fun z y x=>cn.cu (cn.fit (P.M-y) (P.M-z)) (cn.fit (P.M-x) (P.M-y))) (P.M::q++[0]).reverse=gx (fun z y x=>P.cu (P.fit y z) (P.fit x y)) (P.M::q++[0]):=by erw[Tf (fun z y x=>cn.cu (cn.fit (P.M-y) (P.M-x)) (cn.fit (P.M-z) (P.M-y)))];refine Ti (HJ (S:=fun y x=>P.ok x y∧y≤P.M) (fun z y x aa ab=>?_) d2);erw[m.fit _ _ aa.1.1 aa.2,m.fit _ _ ab.1.1 ab.2,Tj P (P.fit y z)];unfold bM.cu;erw[m.A]
  erw[ay,au]
 rw[ai,hd]at hp;exact⟨_,hp⟩
def bestOf(w:bc)(ws:List bc):bc:=ws.foldl (fun b w=>if w.bJ<b.bJ then w else b) w
noncomputable def fC(cP L:Int)(s:bc×Int)(w:bc):bc×Int:=if((L≤w.line-cP∧w.line-cP<s.2)∨(s.2<w.line-cP∧w.line-cP≤L))∨(w.line-cP=s.2∧w.bJ<s.1.bJ)then(w,w.line-cP)else s
def picked(ws:List bc)(L:Int):bc×Int:=if L=0 then(bestOf (ws.headD .root) ws,0)else ws.foldl (fC (bestOf (ws.headD .root) ws).line L) (bestOf (ws.headD .root) ws,0)
theorem Ts:∀(ws pre:List bc) (b:bc),b∈pre→(∀w,w∈pre→b.bJ≤w.bJ∧(w.bJ=b.bJ→b.line≤w.line))→(pre++ws).Pairwise (fun a b=>a.line≤b.line)→bestOf b ws∈pre++ws∧∀w,w∈pre++ws→(bestOf b ws).bJ≤w.bJ∧(w.bJ=(bestOf b ws).bJ→(bestOf b ws).line≤w.line):=by
 intro aT
 induction aT with
 |nil=>intro pre b ae h _;rw[ei];exact⟨ae,h⟩
 |cons v ws aD=>
  intro pre b ae h aL;have e:pre++v::ws=(pre++[v])++ws:=by simp
  have hle:∀w,w∈pre→w.line≤v.line:=fun w hw=>(CS.mp aL).2.2 w hw v (.head _);rw[e]at aL⊢;show bestOf (if v.bJ<b.bJ then v else b) ws∈_∧∀w,w∈_→(bestOf (if v.bJ<b.bJ then v else b) ws).bJ≤_∧_;refine aD (pre++[v]) _ ?_ (fun w hw=>?_) aL
  ·refine Tactic.eT (fun h=>?_) (fun h=>?_)<;>simp[ae]
  ·rcases dR.mp hw with hw|hw
   ·refine bC (fun aa ab=>?_) (h w hw);refine Tactic.eT (fun h=>?_) (fun h=>?_)
    ·exact⟨Mn ‹_› ‹_›,fun e=>by lia⟩
    ·exact⟨aa,ab⟩
   ·rw[dY]at hw;subst hw;have:=hle b ae;refine Tactic.eT (fun h=>?_) (fun h=>?_)
    ·exact⟨dZ _,fun ag=>dZ _⟩
    ·exact⟨Dc ‹_›,fun ag=>this⟩
theorem AM{ws:List bc}(aA:ws≠[])(aL:ws.Pairwise (fun a b=>a.line≤b.line)):bestOf (ws.headD .root) ws∈ws∧∀w,w∈ws→(bestOf (ws.headD .root) ws).bJ≤w.bJ∧(w.bJ=(bestOf (ws.headD .root) ws).bJ→(bestOf (ws.headD .root) ws).line≤w.line):=by
 induction ws using bY with
 |nil=>exact absurd rfl aA
 |cons v r=>
  have e:bestOf ((v::r).headD .root) (v::r)=bestOf v r:=by show bestOf (if v.bJ<v.bJ then v else v) r=_;erw[if_neg (LQ _)]
  erw[e];exact Ts r [v] v (.head _) (fun w h=>by rw[dY]at h;subst h;exact⟨dZ _,fun ag=>dZ _⟩) aL
noncomputable def nc(L HP f:Int):Prop:=(L≤f∧f<HP)∨(HP<f∧f≤L)
noncomputable def tr(L f:Int):Prop:=(0≤f∧f≤L)∨(L≤f∧f≤0)
theorem HQ{L f:Int}(h:nc L f f):False:=h.elim (fun h=>LQ _ h.2) fun h=>LQ _ h.1
theorem Tt{L a b c:Int}(h:nc L a b)(k:nc L b c):nc L a c:=by
 rcases h with⟨aa,ab⟩|⟨aa,ab⟩<;>rcases k with⟨dH,ft⟩|⟨dH,ft⟩
 ·exact .inl ⟨dH,ur ft ab⟩
 ·exact absurd (o1 dH ft) (ez.mpr aa)
 ·exact absurd (o1 ft ab) (ez.mpr dH)
 ·exact .inr ⟨ur aa dH,ft⟩
theorem Tu{L a b:Int}(h:tr L a)(k:nc L a b):tr L b:=by
 rcases k with⟨dH,ft⟩|⟨dH,ft⟩
 ·rcases h with⟨_,ab⟩|⟨_,ab⟩
  ·exact absurd (o1 ft ab) (ez.mpr dH)
  ·exact .inr ⟨dH,c0 (jN ft) ab⟩
 ·rcases h with⟨aa,_⟩|⟨aa,_⟩
  ·exact .inl ⟨c0 aa (jN dH),ft⟩
  ·exact absurd (o1 dH ft) (ez.mpr aa)
theorem Tv{L a b:Int}(h:tr L a)(k:tr L b)(n:¬nc L a b)(m:¬nc L b a):a=b:=by
 rcases Int.lt_trichotomy a b with l|l|l
 ·rcases k with⟨_,k⟩|⟨dH,k⟩
  ·exact absurd (.inr ⟨l,k⟩) n
  ·rcases h with⟨h,ab⟩|⟨h,_⟩
   ·exact absurd (mC h l) (ez.mpr k)
   ·exact absurd (.inl ⟨h,l⟩) m
 ·exact l
 ·rcases h with⟨_,h⟩|⟨aa,h⟩
  ·exact absurd (.inr ⟨l,h⟩) m
  ·rcases k with⟨k,ft⟩|⟨k,_⟩
   ·exact absurd (mC k l) (ez.mpr h)
   ·exact absurd (.inl ⟨k,l⟩) n
structure AN(ws all:List bc)(cP L:Int)(s:bc×Int):Prop where
 mem:s.1∈all
 line:s.1.line-cP=s.2
 HR:tr L s.2
 least:∀w,w∈ws→w.line-cP=s.2→s.1.bJ≤w.bJ
 near:∀w,w∈ws→¬nc L s.2 (w.line-cP)
theorem Tw{all:List bc}{cP L:Int}:∀(ws pre:List bc) (s:bc×Int),(∀w,w∈ws→w∈all)→AN pre all cP L s→AN (pre++ws) all cP L (ws.foldl (fC cP L) s):=by
 intro aT
 induction aT with
 |nil=>intro pre s _ h;erw[ei];exact h
 |cons v ws aD=>
  intro pre s AO h;erw[show pre++v::ws=(pre++[v])++ws from(eR pre [v] ws).symm];refine aD (pre++[v]) (fC cP L s v) (fun w hw=>AO w (.tail _ hw)) ?_;obtain⟨aa,ab,aq,ba,b0⟩:=h;have hm:∀{Q:bc→Prop},(∀w,w∈pre→Q w)→Q v→∀w,w∈pre++[v]→Q w:=fun a b w hw=>(dR.mp hw).elim (a w) fun hw=>dY.mp hw▸b;refine bZ (fun aA:nc L s.2 (v.line-cP)=>?_) (fun aA=>?_)
  ·erw[show fC cP L s v=(v,v.line-cP)from if_pos (.inl aA)];exact⟨AO v (.head _),rfl,Tu aq aA,hm (fun w hw e=>absurd (by erw[e];exact aA) (b0 w hw)) fun ag=>dZ _,hm (fun w hw k=>b0 w hw (Tt aA k)) HQ⟩
  ·refine bZ (fun ah:v.line-cP=s.2∧v.bJ<s.1.bJ=>?_) (fun ah=>?_)
   ·erw[show fC cP L s v=(v,v.line-cP)from if_pos (.inr ah)];refine bC (fun ef e6=>?_) (ah);refine⟨AO v (.head _),rfl,by erw[ef];exact aq,hm (fun w hw e=>c0 (jN e6) (ba w hw (e.trans ef))) fun ag=>dZ _,hm (fun w hw=>?_) HQ⟩;erw[ef];exact b0 w hw
   ·erw[show fC cP L s v=s from if_neg fun h=>h.elim aA ah];exact⟨aa,ab,aq,hm ba fun e=>ez.mp fun l=>ah ⟨e,l⟩,hm b0 aA⟩
theorem tu{ws:List bc}{L:Int}(cv:L≠0)(aA:ws≠[])(aL:ws.Pairwise (fun a b=>a.line≤b.line)):AN ws ws (bestOf (ws.headD .root) ws).line L (picked ws L):=by
 unfold picked;erw[if_neg cv];refine Tw ws [] _ (fun ag h=>h) ⟨(AM aA aL).1,rZ _,?_,fun ag h=>(nomatch h),fun ag h=>(nomatch h)⟩;refine eF (Int.le_total 0 L) (fun h=>?_) (fun h=>?_)
 ·exact .inl ⟨dZ 0,h⟩
 ·exact .inr ⟨h,dZ 0⟩
def HS(ws fO:List bc):Prop:=∀w,w∈ws→∃bP,bP∈fO∧bP.line=w.line∧bP.bJ≤w.bJ
theorem Tx{ws fO:List bc}{L:Int}(cv:L≠0)(aA:ws≠[])(gg:fO≠[])(aL:ws.Pairwise (fun a b=>a.line≤b.line))(ra:fO.Pairwise (fun a b=>a.line≤b.line))(a:HS ws fO)(b:HS fO ws):
  (picked ws L).2=(picked fO L).2∧(picked ws L).1.line=(picked fO L).1.line∧(picked ws L).1.bJ=(picked fO L).1.bJ:=by
 have p:=tu cv aA aL;have dp:=tu cv gg ra;have e:(bestOf (fO.headD .root) fO).line=(bestOf (ws.headD .root) ws).line:=by refine bC (fun m ae=>?_) (AM aA aL);refine bC (fun h6 bf=>?_) (AM gg ra);obtain⟨x,c2,x2,x3⟩:=a _ m;obtain⟨y,eU,fq,gq⟩:=b _ h6;refine bC (fun ef e6=>?_) (bf x c2);refine bC (fun fj vc=>?_) (ae y eU);have au:=c0 fj gq;exact rN (x2▸e6 (rN (c0 x3 au) ef)) (fq▸vc (rN (c0 gq (c0 ef x3)) fj))
 replace dp:=e▸dp;generalize (bestOf (ws.headD .root) ws).line=cP at p dp;generalize picked ws L=s at p⊢;generalize picked fO L=s' at dp⊢;obtain⟨u,rb,vY,Tz⟩:=a _ p.mem;obtain⟨v,v1,v2,TA⟩:=b _ dp.mem;have vh:u.line-cP=s.2:=by erw[vY];exact p.line
 have ev:v.line-cP=s'.2:=by erw[v2];exact dp.line
 have au:=Tv p.HR dp.HR (ev▸p.near v v1) (vh▸dp.near u rb);refine⟨au,?_,rN (c0 (p.least v v1 (ev.trans au.symm)) TA) (c0 (dp.least u rb (vh.trans au)) Tz)⟩;have:=p.line.trans (au.trans dp.line.symm);erw[←Int.sub_add_cancel s.1.line cP,this,Int.sub_add_cancel]
structure Ent where
 d:Int
 w:bc
 ln:Int
structure de where
 kept:List bc
 best:List (Int×Ent)
 least:List (Int×Int)
noncomputable def lk{α:Type}(k:Int):List (Int×α)→Option α
 |[]=>J
 |(m,x)::r=>if m=k then I x else lk k r
noncomputable def fl{α:Type}(k:Int)(x:α):List (Int×α)→List (Int×α)
 |[]=>[(k,x)]
 |(m,y)::r=>if m=k then(m,x)::r else(m,y)::fl k x r
theorem AP{α:Type}{k m:Int}{x y:α}{r:List (Int×α)}:fl k x ((m,y)::r)=if m=k then(m,x)::r else(m,y)::fl k x r:=rfl
theorem nf{α:Type}{k j:Int}{x:α}:∀{l:List (Int×α)},lk j (fl k x l)=if k=j then I x else lk j l:=by
 intro l
 induction l with
 |nil=>rfl
 |cons dA r aD=>
  obtain⟨m,y⟩:=dA;erw[AP];refine bZ (fun h:m=k=>?_) (fun h=>?_)
  ·subst h;erw[if_pos rfl];show(if m=j then I x else lk j r)=if m=j then I x else if m=j then I y else lk j r
   split<;>rfl
  ·erw[if_neg h];show(if m=j then I y else lk j (fl k x r))=if k=j then I x else if m=j then I y else lk j r;erw[aD]
   split
   ·split
    ·lia
    ·rfl
   ·rfl
theorem HT{α:Type}{k:Int}:∀{l:List (Int×α)},k∈l.map (·.1)↔ ∃x,lk k l=I x:=by
 intro aT
 induction aT with
 |nil=>exact⟨fun h=>(nomatch h),fun h=>h.elim fun ag e=>(nomatch e)⟩
 |cons dA r aD=>
  obtain⟨m,y⟩:=dA;show k∈m::r.map (·.1)↔ ∃x,(if m=k then I y else lk k r)=I x;erw[ec,aD];refine bZ (fun h:m=k=>?_) (fun h=>?_)
  ·subst h;simp
  ·erw[if_neg h];simp[Ne.symm h]
def bM.over(P:bM)(b:Nat)(w:bc):Bool:=U (10000<P.bad w.cA b)||P.hU b
def bM.key(P:bM)(b:Nat)(w:bc):Int:=4*P.cC (w.line+1)+P.fit w.cA b
def gS(P:bM)(ie:Bool)(n b i:Nat)(w:bc)(s:de):Bool:=P.over b w&&(ie&&(s.kept.isEmpty&&(s.best.isEmpty&&U (i+1=n))))
noncomputable def put(P:bM)(b:Nat)(w:bc)(d:Int)(s:de):de:=if((lk (P.key b w) s.best).all fun o=>decide (d≤o.d))then⟨s.kept,fl (P.key b w) ⟨d,w,w.line+1⟩ s.best,fl (P.cC (w.line+1)) (min d ((lk (P.cC (w.line+1)) s.least).getD d)) s.least⟩else s
noncomputable def turn(P:bM)(ie:Bool)(n b i:Nat)(w:bc)(s:de):de:=let s1:de:=if P.over b w then s else⟨s.kept++[w],s.best,s.least⟩
 if U (P.most<P.bad w.cA b)&& !gS P ie n b i w s then s1 else put P b w (if gS P ie n b i w s then w.bJ else P.fN b w) s1
noncomputable def ig(P:bM)(ie:Bool)(n b:Nat):Nat→List bc→de→de
 |_,[],s=>s
 |i,w::r,s=>ig P ie n b (i+1) r (turn P ie n b i w s)
def iE(P:bM)(b:Nat)(s:de)(key:Int):Option bc:=(lk key s.best).bind fun o=>if o.d≤(lk (key/4) s.least).getD 0+P.A then I (.go b o.ln (key%4) o.d o.w)else J
def fin(P:bM)(b:Nat)(s:de):List bc:=s.kept++(sortI (s.best.map (·.1))).filterMap (iE P b s)
def lx(P:bM)(ie:Bool)(b:Nat)(act:List bc):List bc:=fin P b (ig P ie act.length b 0 act ⟨[],[],[]⟩)
structure wc(P:bM)(b:Nat)(pre:List bc)(s:de):Prop where
 kept:s.kept=pre.filter fun w=> !P.over b w
 pS:∀key o,lk key s.best=I o→∃w,w∈pre∧P.bad w.cA b≤P.most∧o=⟨P.fN b w,w,w.line+1⟩∧key=P.key b w
 all:∀w,w∈pre→P.bad w.cA b≤P.most→∃o,lk (P.key b w) s.best=I o∧o.d≤P.fN b w
 low:∀key o,lk key s.best=I o→∃v,lk (key/4) s.least=I v∧v≤o.d
 tv:∀g v,lk g s.least=I v→∃key o,lk key s.best=I o∧key/4=g∧o.d=v
theorem TB(P:bM)(n b i:Nat)(w:bc)(s:de):turn P false n b i w s=if P.most<P.bad w.cA b then(if P.over b w then s else⟨s.kept++[w],s.best,s.least⟩)else put P b w (P.fN b w) (if P.over b w then s else⟨s.kept++[w],s.best,s.least⟩):=by
 have:gS P false n b i w s=false:=by simp[gS]
 unfold turn;erw[this];refine bZ (fun h:P.most<P.bad w.cA b=>?_) (fun h=>?_)<;>simp[h]
theorem q5{g f:Int}(h:0≤f∧f≤3):(4*g+f)/4=g∧(4*g+f)%4=f:=by have ae:f<4:=mC h.2 (by decide);erw[rP,Int.add_mul_ediv_left f g (by decide),Int.add_mul_emod_self_left,Int.ediv_eq_zero_of_lt h.1 ae,km,Int.emod_eq_of_lt h.1 ae];exact⟨rfl,rfl⟩
theorem HU{P:bM}(ax:0≤P.A)(f g:Int):0≤P.cu f g∧P.cu f g≤P.A:=by
 unfold bM.cu;refine Tactic.eT (fun h=>?_) (fun h=>?_)
 ·exact⟨ax,dZ _⟩
 ·exact⟨dZ _,ax⟩
theorem TC{P:bM}{b:Nat}{pre:List bc}{w:bc}{s:de}{k:List bc}(hf:∀a b,0≤P.fit a b∧P.fit a b≤3)(ai:k=(pre++[w]).filter fun w=> !P.over b w)(ok:P.bad w.cA b≤P.most)(h:wc P b pre s):wc P b (pre++[w]) (put P b w (P.fN b w) ⟨k,s.best,s.least⟩):=by
 have aK:P.key b w/4=P.cC (w.line+1):=(q5 (hf w.cA b)).1;unfold put
 dsimp only
 split
 ·rename_i ah;have ah:∀o,lk (P.key b w) s.best=I o→P.fN b w≤o.d:=fun o e=>by rw[e]at ah;simpa using ah
  have hm:∀v,lk (P.cC (w.line+1)) s.least=I v→v=((lk (P.cC (w.line+1)) s.least).getD (P.fN b w)):=fun v e=>by erw[e];rfl
  refine⟨ai,fun key o e=>?_,fun v aJ ae=>?_,fun key o e=>?_,fun g v e=>?_⟩
  ·dsimp only at e
   rw[nf]at e
   split at e
   ·rename_i au
    injections e
    exact⟨w,by simp,ok,rfl,au.symm⟩
   ·obtain⟨v,a,b,c⟩:=h.pS key o e;exact⟨v,by simp[a],b,c⟩
  ·dsimp only
   erw[nf]
   split
   ·rename_i au;refine⟨_,rfl,?_⟩;refine eF (dR.mp aJ) (fun aJ=>?_) (fun aJ=>?_)
    ·obtain⟨o,a,c⟩:=h.all v aJ ae;rw[←au]at a;exact c0 (ah o a) c
    ·rw[dY]at aJ;subst aJ;exact dZ _
   ·rename_i au;refine eF (dR.mp aJ) (fun aJ=>?_) (fun aJ=>?_)
    ·exact h.all v aJ ae
    ·rw[dY]at aJ;subst aJ;exact absurd rfl au
  ·dsimp only at e⊢
   rw[nf]at e⊢
   split at e
   ·rename_i au
    injections e
    erw[←au,aK,if_pos rfl];exact⟨_,rfl,Int.min_le_left ..⟩
   ·obtain⟨v,a,c⟩:=h.low key o e
    split
    ·rename_i bo;erw[bo,a];exact⟨_,rfl,c0 (Int.min_le_right ..) c⟩
    ·exact⟨v,a,c⟩
  ·dsimp only at e⊢
   rw[nf]at e
   split at e
   ·rename_i au
    injections e
    refine bZ (fun dQ:P.fN b w≤(lk (P.cC (w.line+1)) s.least).getD (P.fN b w)=>?_) (fun dQ=>?_)
    ·exact⟨P.key b w,_,by erw[nf,if_pos rfl],by erw[aK,au],by erw[Int.min_eq_left dQ]⟩
    ·cases ar:lk (P.cC (w.line+1)) s.least with
     |none=>rw[ar]at dQ;exact absurd (dZ _) dQ
     |some u=>
      rw[ar]at dQ;obtain⟨key,o,a,c,d⟩:=h.tv _ u ar;refine⟨key,o,?_,c.trans au,by erw[d];show u=min _ u;erw[Int.min_eq_right (by simpa using Int.le_of_not_le dQ)]⟩;rw[nf,if_neg ?_]
      ·exact a
      ·intro cg;rw[←cg]at a;exact dQ (d▸ah o a)
   ·obtain⟨key,o,a,c,d⟩:=h.tv g v e;refine⟨key,o,?_,c,d⟩;rw[nf,if_neg ?_]
    ·exact a
    ·rintro rfl;rename_i au;exact au (by erw[←c,aK])
 ·rename_i ah;refine⟨ai,fun key o e=>?_,fun v aJ ae=>?_,h.low,h.tv⟩
  ·obtain⟨v,a,b,c⟩:=h.pS key o e;exact⟨v,by simp[a],b,c⟩
  ·refine eF (dR.mp aJ) (fun aJ=>?_) (fun aJ=>?_)
   ·exact h.all v aJ ae
   ·rw[dY]at aJ;subst aJ;cases ar:lk (P.key b v) s.best with
    |none=>rw[ar]at ah;exact absurd rfl ah
    |some o=>rw[ar]at ah;refine⟨o,rfl,?_⟩;simp at ah;exact jN ah
theorem AQ{P:bM}{n b:Nat}(hf:∀a b,0≤P.fit a b∧P.fit a b≤3):∀(ws pre:List bc) (i:Nat) (s:de),wc P b pre s→wc P b (pre++ws) (ig P false n b i ws s):=by
 intro aT
 induction aT with
 |nil=>intro pre i s h;erw[ei];exact h
 |cons w ws aD=>
  intro pre i s h;have e:pre++w::ws=(pre++[w])++ws:=by simp
  erw[e];refine aD (pre++[w]) (i+1) _ ?_;have ai:(if P.over b w then s else⟨s.kept++[w],s.best,s.least⟩:de)=⟨(pre++[w]).filter fun w=> !P.over b w,s.best,s.least⟩:=by erw[List.filter_append,←h.kept];cases aO:P.over b w<;>simp[aO]
  erw[TB,ai]
  split
  ·rename_i ah;refine⟨rfl,fun key o e=>?_,fun v aJ ae=>?_,h.low,h.tv⟩
   ·obtain⟨v,a,b,c⟩:=h.pS key o e;exact⟨v,by simp[a],b,c⟩
   ·rcases dR.mp aJ with aJ|aJ
    ·exact h.all v aJ ae
    ·rw[dY]at aJ;subst aJ;exact absurd ah (absurd ‹_› (ez.mpr ‹_›))
  ·rename_i ah;exact TC hf rfl (Dc ‹_›) h
theorem TF{a x:Int}:∀{l:List Int},x∈insI a l↔x=a∨x∈l:=by
 intro aT
 induction aT with
 |nil=>show x∈[a]↔_;simp
 |cons b r aD=>
  erw[DO];refine Tactic.eT (fun h=>?_) (fun h=>?_)
  ·simp
  ·rw[ec,aD,ec]
   constructor<;>(rintro(h|h|h)<;>simp[h])
theorem HV{x:Int}:∀{l:List Int},x∈sortI l↔x∈l:=by
 intro aT
 induction aT with
 |nil=>exact Iff.rfl
 |cons a r aD=>rw[DP,TF,aD,ec]
theorem tx{P:bM}{b:Nat}{s:de}{w:bc}:w∈fin P b s↔w∈s.kept∨∃key o,lk key s.best=I o∧o.d≤(lk (key/4) s.least).getD 0+P.A∧w= .go b o.ln (key%4) o.d o.w:=by
 unfold fin;erw[dR,qr];refine or_congr Iff.rfl ⟨fun h=>?_,fun h=>?_⟩
 ·obtain⟨key,aa,ab⟩:=h;unfold iE at ab;cases ar:lk key s.best with
  |none=>rw[ar]at ab;injections ab
  |some o=>
   rw[ar]at ab;refine bZ (fun ah:o.d≤(lk (key/4) s.least).getD 0+P.A=>?_) (fun ah=>?_)
   ·refine⟨key,o,ar,ah,?_⟩;have ab:(if o.d≤(lk (key/4) s.least).getD 0+P.A then I (bc.go b o.ln (key%4) o.d o.w)else J)=I w:=ab;rw[if_pos ah]at ab
    injections ab;rfl
   ·have ab:(if o.d≤(lk (key/4) s.least).getD 0+P.A then I (bc.go b o.ln (key%4) o.d o.w)else J)=I w:=ab;rw[if_neg ah]at ab;injections ab
 ·obtain⟨key,o,aa,ab,aq⟩:=h;refine⟨key,HV.mpr (HT.mpr ⟨o,aa⟩),?_⟩;unfold iE;erw[aa];show(if _ then I _ else J)=_;erw[if_pos ab,aq]
theorem TG{P:bM}{b:Nat}{act:List bc}(hf:∀a b,0≤P.fit a b∧P.fit a b≤3)(ax:0≤P.A):Ho P b act (lx P false b act):=by
 have h:=AQ (P:=P) (n:=act.length) (b:=b) hf act [] 0 ⟨[],[],[]⟩ ⟨rfl,fun ag ag e=>(nomatch e),fun ag e=>(nomatch e),fun ag ag e=>(nomatch e),fun ag ag e=>(nomatch e)⟩;rw[nR]at h;have tA:∀w:bc,P.key b w/4=P.cC (w.line+1)∧P.key b w%4=P.fit w.cA b:=fun w=>q5 (hf w.cA b);refine⟨fun bP hw=>?_,fun w hw aa ab=>tx.mpr (.inl ?_),fun w hw ok=>?_⟩
 ·rcases tx.mp hw with ai|⟨key,o,a,c,e⟩
  ·rw[h.kept]at ai;refine bC (fun m aO=>?_) (CR.mp ai);have:P.over b bP=false:=by simpa using aO
   unfold bM.over at this;refine bC (fun a0 cK=>?_) (Z6.mp this);exact .inl ⟨m,ez.mp (of_decide_eq_false a0),cK⟩
  ·obtain⟨v,cZ,dt,gw,lu⟩:=h.pS key o a;subst gw lu;exact .inr ⟨v,cZ,dt,by erw[e,(tA v).2]⟩
 ·erw[h.kept];refine CR.mpr ⟨hw,?_⟩;unfold bM.over;erw[ab,decide_eq_false (ez.mpr aa)];rfl
 ·obtain⟨o,a,c⟩:=h.all w hw ok;obtain⟨v,aM,bt⟩:=h.low _ o a;obtain⟨ic,_,_,ay,dH⟩:=h.pS _ o a;have HW:∀key o ic,o=(⟨P.fN b ic,ic,ic.line+1⟩:Ent)→key=P.key b ic→P.cC o.ln=key/4:=fun key o ic e k=>by erw[e,k,(tA ic).1]
  refine bZ (fun ah:o.d≤v+P.A=>?_) (fun ah=>?_)
  ·refine⟨_,tx.mpr (.inr ⟨_,o,a,by erw[aM];exact ah,rfl⟩),rfl,(HW _ _ _ ay dH).trans (tA w).1,fun g=>?_⟩;show o.d+P.cu g (P.key b w%4)≤_;erw[(tA w).2];exact kl c _
  ·obtain⟨HX,br,gT,dr,sx⟩:=h.tv _ v aM;obtain⟨oA,_,_,au,ft⟩:=h.pS _ br gT;refine⟨_,tx.mpr (.inr ⟨HX,br,gT,by erw[dr,aM,sx];exact CT ax,rfl⟩),rfl,(HW _ _ _ au ft).trans (dr.trans (tA w).1),fun g=>?_⟩;show br.d+P.cu g (HX%4)≤_;exact c0 (kh (nS sx) (HU ax _ _).2) (c0 (jN (o2.mp ah)) (c0 c (CT (HU ax _ _).1)))
structure gU(c:Int)(w bP:bc):Prop where
 cA:bP.cA=w.cA
 line:bP.line=w.line
 fit:bP.fit=w.fit
 path:bP.path=w.path
 bJ:bP.bJ=w.bJ+c
inductive dm{α β:Type}(R:α→β→Prop):List α→List β→Prop where
 |nil:dm R [] []
 |cons {a b l m} (h:R a b) (t:dm R l m):dm R (a::l) (b::m)
theorem dm.snoc{α β:Type}{R:α→β→Prop}{l:List α}{m:List β}{a:α}{b:β}(h:dm R l m)(r:R a b):dm R (l++[a]) (m++[b]):=by
 induction h with
 |nil=>exact .cons r .nil
 |cons h _ aG=>exact .cons h aG
theorem dm.length{α β:Type}{R:α→β→Prop}{l:List α}{m:List β}(h:dm R l m):m.length=l.length:=by
 induction h with
 |nil=>rfl
 |cons _ _ aG=>simp[aG]
theorem dm.app{α β:Type}{R:α→β→Prop}{l:List α}{m:List β}{dh:List α}{h6:List β}(h:dm R l m)(r:dm R dh h6):dm R (l++dh) (m++h6):=by
 induction h with
 |nil=>exact r
 |cons h _ aG=>exact .cons h aG
structure wd(c:Int)(x y:Int×Ent):Prop where
 key:y.1=x.1
 d:y.2.d=x.2.d+c
 w:y.2.w.path=x.2.w.path
 ln:y.2.ln=x.2.ln
structure kH(c:Int)(s s':de):Prop where
 kept:dm (gU c) s.kept s'.kept
 best:dm (wd c) s.best s'.best
 least:dm (fun x y=>y.1=x.1∧y.2=x.2+c) s.least s'.least
 emp:s.best=[]→s.least=[]
theorem we{α β:Type}{R:Int×α→Int×β→Prop}(ai:∀x y,R x y→y.1=x.1){k:Int}{l:List (Int×α)}{m:List (Int×β)}(h:dm R l m):(lk k l=J∧lk k m=J)∨∃x y,lk k l=I x∧lk k m=I y∧R (k,x) (k,y):=by
 induction h with
 |nil=>exact .inl ⟨rfl,rfl⟩
 | @cons a b l m r _ aG=>
  obtain⟨i,x⟩:=a;obtain⟨j,y⟩:=b;have e:j=i:=ai _ _ r;subst e;refine bZ (fun h:j=k=>?_) (fun h=>?_)
  ·subst h;exact .inr ⟨x,y,if_pos rfl,if_pos rfl,r⟩
  ·rcases aG with⟨a,b⟩|⟨u,v,a,b,c⟩
   ·exact .inl ⟨(if_neg h).trans a,(if_neg h).trans b⟩
   ·exact .inr ⟨u,v,(if_neg h).trans a,(if_neg h).trans b,c⟩
theorem HY{α β:Type}{R:Int×α→Int×β→Prop}(ai:∀x y,R x y→y.1=x.1){k:Int}{x:α}{y:β}(r:R (k,x) (k,y)){l:List (Int×α)}{m:List (Int×β)}(h:dm R l m):dm R (fl k x l) (fl k y m):=by
 induction h with
 |nil=>exact .cons r .nil
 | @cons a b l m q t aG=>
  obtain⟨i,u⟩:=a;obtain⟨j,v⟩:=b;have e:j=i:=ai _ _ q;subst e;show dm R (if j=k then(j,x)::l else(j,u)::fl k x l) (if j=k then(j,y)::m else(j,v)::fl k y m)
  split
  ·rename_i e;subst e;exact .cons r t
  ·exact .cons q aG
theorem HZ(d x c:Int):min (d+c) (x+c)=min d x+c:=by lia
theorem H0{P:bM}{b:Nat}{c jy d:Int}{w bP:bc}{s s':de}(hw:gU jy w bP)(h:kH c s s'):kH c (put P b w d s) (put P b bP (d+c) s'):=by
 have js:P.key b bP=P.key b w:=by unfold bM.key;erw[hw.line,hw.cA]
 have hR:∀x y,wd c x y→y.1=x.1:=fun ag ag h=>h.key;have q2:∀x y:Int×Int,(y.1=x.1∧y.2=x.2+c)→y.1=x.1:=fun ag ag h=>h.1;have fit:kH c ⟨s.kept,fl (P.key b w) ⟨d,w,w.line+1⟩ s.best,fl (P.cC (w.line+1)) (min d ((lk (P.cC (w.line+1)) s.least).getD d)) s.least⟩ ⟨s'.kept,fl (P.key b w) ⟨d+c,bP,bP.line+1⟩ s'.best,fl (P.cC (w.line+1)) (min (d+c) ((lk (P.cC (w.line+1)) s'.least).getD (d+c))) s'.least⟩:=by
  have a7:wd c (P.key b w,(⟨d,w,w.line+1⟩:Ent)) (P.key b w,⟨d+c,bP,bP.line+1⟩):=⟨rfl,rfl,hw.path,by show bP.line+1=w.line+1;erw[hw.line]⟩
  have b3:(fun x y:Int×Int=>y.1=x.1∧y.2=x.2+c) (P.cC (w.line+1),min d ((lk (P.cC (w.line+1)) s.least).getD d)) (P.cC (w.line+1),min (d+c) ((lk (P.cC (w.line+1)) s'.least).getD (d+c))):=by
   refine⟨rfl,?_⟩;show min (d+c) _=min d _+c
   rcases we (k:=P.cC (w.line+1)) q2 h.least with⟨a,b⟩|⟨x,y,a,b,_,r⟩
   ·erw[a,b];exact HZ d d c
   ·erw[a,b];have r:y=x+c:=r;subst r;exact HZ d x c
  refine⟨h.kept,HY hR a7 h.best,HY q2 b3 h.least,fun e=>?_⟩
  ·dsimp only at e
   cases ae:s.best with
   |nil=>rw[ae]at e;injections e
   |cons p r=>
    rw[ae]at e;have e:(if p.1=P.key b w then(p.1,_)::r else(p.1,p.2)::fl (P.key b w) _ r)=[]:=e
    split at e<;>injections e
 unfold put;erw[js,hw.line]
 rcases we (k:=P.key b w) hR h.best with⟨a,e⟩|⟨x,y,a,e,r⟩
 ·erw[a,e];rw[hw.line]at fit;exact fit
 ·have hd:y.d=x.d+c:=r.d;erw[a,e];refine bZ (fun ah:d≤x.d=>?_) (fun ah=>?_)
  ·erw[if_pos (show(I x).all (fun o=>decide (d≤o.d))=true from decide_eq_true ah),if_pos (show(I y).all (fun o=>decide (d+c≤o.d))=true from decide_eq_true (hd▸kl ah c))];rw[hw.line]at fit;exact fit
  ·erw[if_neg (show¬(I x).all (fun o=>decide (d≤o.d))=true from fun h=>ah (of_decide_eq_true h)),if_neg (show¬(I y).all (fun o=>decide (d+c≤o.d))=true from fun h=>ah (aad (hd▸of_decide_eq_true h)))];exact h
def oB(P:bM)(b:Nat)(w:bc)(s:de):de:=if P.over b w then s else⟨s.kept++[w],s.best,s.least⟩
theorem AR{P:bM}{l:Bool}{n b i:Nat}{w:bc}{s:de}(h:gS P l n b i w s=false):turn P l n b i w s=if P.most<P.bad w.cA b then oB P b w s else put P b w (P.fN b w) (oB P b w s):=by unfold turn;erw[h];refine bZ (fun h:P.most<P.bad w.cA b=>?_) (fun h=>?_)<;>simp[h,oB]
theorem H2{P:bM}{b:Nat}{c:Int}{w bP:bc}{s s':de}(hw:gU c w bP)(h:kH c s s'):kH c (oB P b w s) (oB P b bP s'):=by
 have:P.over b bP=P.over b w:=by unfold bM.over;erw[hw.cA]
 unfold oB;erw[this]
 split
 ·exact h
 ·exact⟨h.kept.snoc hw,h.best,h.least,h.emp⟩
theorem TH{P:bM}{n b i:Nat}{c:Int}{w bP:bc}{s s':de}(hw:gU c w bP)(h:kH c s s')(av:gS P true n b i bP s'=false):kH c (turn P false n b i w s) (turn P true n b i bP s'):=by
 erw[AR av,AR (l:=false) (by simp[gS])];have e:P.fN b bP=P.fN b w+c:=by unfold bM.fN;erw[hw.cA,hw.fit,hw.bJ];lia
 erw[hw.cA,e]
 split
 ·exact H2 hw h
 ·exact H0 hw (H2 hw h)
theorem TJ{P:bM}{n b i:Nat}{c:Int}{w bP:bc}{s s':de}(hw:gU c w bP)(h:kH c s s')(av:gS P true n b i bP s'=true)(aA:fin P b (turn P false n b i w s)≠[]):∃dr,kH dr (turn P false n b i w s) (turn P true n b i bP s'):=by
 unfold gS at av;simp only[rV,lT,kk,decide_eq_true_eq]at av;obtain⟨aO,ai,ae,aw⟩:=av;have kB:P.over b w=true:=by erw[←aO];unfold bM.over;erw[hw.cA]
 obtain⟨k,be,le⟩:=s;obtain⟨jr,aa0,aa1⟩:=s'
 dsimp only at ai ae
 subst ai ae;obtain⟨aa,ab,aq,ba⟩:=h;cases aa;cases ab;have ar:=ba rfl;subst ar;cases aq;rw[AR (l:=false) (by simp[gS])]at aA⊢;have aL:oB P b w ⟨[],[],[]⟩=⟨[],[],[]⟩:=by unfold oB;erw[if_pos kB]
 rw[aL]at aA⊢;refine bZ (fun hm:P.most<P.bad w.cA b=>?_) (fun hm=>?_)
 ·rw[if_pos hm]at aA;exact absurd rfl aA
 ·erw[if_neg hm];refine⟨bP.bJ-P.fN b w,?_⟩;have e:turn P true n b i bP ⟨[],[],[]⟩=put P b bP (P.fN b w+(bP.bJ-P.fN b w)) ⟨[],[],[]⟩:=by
   have av:gS P true n b i bP ⟨[],[],[]⟩=true:=by simp[gS,aO,aw]
   unfold turn;erw[av,aO,show P.fN b w+(bP.bJ-P.fN b w)=bP.bJ by lia];simp
  erw[e];exact H0 hw ⟨.nil,.nil,.nil,fun ag=>rfl⟩
theorem TK{P:bM}{l:Bool}{n b i:Nat}{w:bc}{s:de}(av:gS P l n b i w s=true):i+1=n:=of_decide_eq_true (cI.mp (cI.mp (cI.mp (cI.mp av).2).2).2).2
theorem TL{P:bM}{n b:Nat}{c:Int}{ws fO:List bc}(ax:dm (gU c) ws fO):∀{i:Nat} {s s':de},kH c s s'→i+ws.length=n→fin P b (ig P false n b i ws s)≠[]→∃dr,kH dr (ig P false n b i ws s) (ig P true n b i fO s'):=by
 induction ax with
 |nil=>intro i s s' h _ _;exact⟨c,h⟩
 | @cons w bP l m hw t aG=>
  intro i s s' h aw aA;cases av:gS P true n b i bP s' with
  |false=>exact aG (TH hw h av) ((iO i 1 _).trans aw) aA
  |true=>
   cases t with
   |nil=>exact TJ hw h av aA
   | @cons _ _ l _=>have aw:i+1+(l.length+1)=n:=(iO i 1 _).trans aw;exact absurd ((TK av).trans aw.symm) (kg (qw (jh _)))
theorem TM{α β:Type}{R:Int×α→Int×β→Prop}(ai:∀x y,R x y→y.1=x.1){l:List (Int×α)}{m:List (Int×β)}(h:dm R l m):m.map (·.1)=l.map (·.1):=by
 induction h with
 |nil=>rfl
 |cons r _ aG=>erw[g0,g0,aG,ai _ _ r]
theorem TN{P:bM}{b:Nat}{c:Int}{s s':de}(h:kH c s s')(low:∀key o,lk key s.best=I o→∃v,lk (key/4) s.least=I v):∀a8:List Int,dm (gU c) (a8.filterMap (iE P b s)) (a8.filterMap (iE P b s')):=by
 intro aT
 induction aT with
 |nil=>exact .nil
 |cons k a8 aD=>
  have aG:=aD;have hR:∀x y,wd c x y→y.1=x.1:=fun ag ag h=>h.key;have q2:∀x y:Int×Int,(y.1=x.1∧y.2=x.2+c)→y.1=x.1:=fun ag ag h=>h.1;erw[uA,uA];unfold iE at aG⊢
  rcases we (k:=k) hR h.best with⟨a,e⟩|⟨x,y,a,e,r⟩
  ·erw[a,e];exact aG
  ·obtain⟨v,aJ⟩:=low k x a
   rcases we (k:=k/4) q2 h.least with⟨a2,_⟩|⟨u,pD,a2,au,_,b3⟩
   ·replace aJ:=a2▸aJ;injections aJ
   ·have b3:pD=u+c:=b3;have hd:y.d=x.d+c:=r.d;have ar:y.ln=x.ln:=r.ln;erw[a,e,a2,au,b3];simp only[Z1,Option.getD_some,hd];refine bZ (fun ah:x.d≤u+P.A=>?_) (fun ah=>?_)
    ·erw[if_pos ah,if_pos (by erw[CU];exact kl ah c)];exact .cons ⟨rfl,ar,rfl,congrArg (b:: ·) r.w,rfl⟩ aG
    ·erw[if_neg ah,if_neg (by erw[CU];exact fun h=>ah (aad h))];exact aG
theorem TO{P:bM}{b:Nat}{c:Int}{act m9:List bc}(hf:∀a b,0≤P.fit a b∧P.fit a b≤3)(h:dm (gU c) act m9)(aA:lx P false b act≠[]):∃dr,dm (gU dr) (lx P false b act) (lx P true b m9):=by have ok:=AQ (P:=P) (n:=act.length) (b:=b) hf act [] 0 ⟨[],[],[]⟩ ⟨rfl,fun ag ag e=>(nomatch e),fun ag e=>(nomatch e),fun ag ag e=>(nomatch e),fun ag ag e=>(nomatch e)⟩;obtain⟨dr,g⟩:=TL (P:=P) (b:=b) h (i:=0) (s:=⟨[],[],[]⟩) (s':=⟨[],[],[]⟩) ⟨.nil,.nil,.nil,fun ag=>rfl⟩ (nO _) aA;refine⟨dr,?_⟩;delta lx fin;erw[h.length,TM (fun ag ag h=>h.key) g.best];exact g.kept.app (TN g (fun key o e=>by obtain⟨v,a,_⟩:=ok.low key o e;exact⟨v,a⟩) _)
noncomputable def bK(P:bM)(ie:Bool):Nat→List bc
 |0=>[.root]
 |j+1=>lx P ie (j+1) (bK P ie j)
structure hD(P:bM):Prop where
 fit:∀a b,0≤P.fit a b∧P.fit a b≤3
 A:0≤P.A
 hU:P.hU P.M=true
 pos:0<P.M
 mono:∀a t b,a<t→t<b→P.bad a b≤P.most→P.bad a t≤10000
 gs:∀i j,P.cC i=P.cC j→P.cC (i+1)=P.cC (j+1)
 dn:∀b,0<b→P.bad 0 b≤P.most→P.cu (P.fit 0 b) 2=0
theorem H3{P:bM}(h:hD P):∀j,Run P j (bK P false j):=by
 intro eW
 induction eW with
 |zero=>exact .zero
 |succ j aD=>exact .succ (aD) (TG h.fit h.A)
theorem wg{P:bM}(h:hD P){w:bc}(hw:w∈bK P false P.M):fB P w.path P.M w.line w.fit w.bJ:=by
 refine eA fun cF=>?_;obtain⟨a,b,c⟩:=(H3 h P.M).sound w hw;refine cF ?_;have e:w.cA=P.M:=by
  refine eF (CO w.cA P.M) (fun l=>?_) (fun l=>?_)
  ·have:=(c P.M l (bE _)).1;rw[h.hU]at this;injections this
  ·exact rU b l
 erw[←e];exact a
theorem H4{P:bM}(h:hD P){p:List Nat}{k f d:Int}(hp:fB P p P.M k f d):∃w,w∈bK P false P.M∧P.cC w.line=P.cC k∧w.bJ≤d:=by
 refine eA fun cF=>?_;obtain⟨w,a,_,c,e⟩:=(H3 h P.M).complete h.mono h.gs hp (bE _) fun t aM bt=>absurd (ey aM bt) (qu _);refine cF ?_;refine⟨w,a,c,?_⟩;have aa:=e f;have ab:P.cu f f=0:=by unfold bM.cu;erw[if_neg (by lia)]
 have aq:0≤P.cu f w.fit:=by have:=h.A;unfold bM.cu;refine Tactic.eT (fun h=>?_) (fun h=>?_)<;>lia
 lia
theorem AS{P:bM}(h:hD P){p:List Nat}{k f d:Int}(hp:fB P p P.M k f d):∃q,p=P.M::q:=by
 have ib:=h.pos;generalize he:P.M=b at hp ib⊢;cases hp with
 |root=>exact absurd ib (qu _)
 |step=>exact⟨_,rfl⟩
theorem rd{P cn:bM}{g:Nat→Nat→Int}{pc:Nat→Int}(m:gR P cn g pc)(h:hD P)(h':hD cn)(aK:cn.cC=P.cC){w:bc}(hw:w∈bK P false P.M):∃bP,bP∈bK cn false P.M∧P.cC bP.line=P.cC w.line∧bP.bJ≤w.bJ:=by have s:=wg h hw;refine f7 (AS h s) fun q e=>?_;rw[e]at s;refine f7 (m.pt h.dn h'.dn s) fun sy s'=>?_;rw[←m.M]at s';obtain⟨bP,a,b,c⟩:=H4 h' s';rw[m.M]at a;rw[aK]at b;exact⟨bP,a,b,c⟩
theorem wh{P:bM}(h:hD P)(aK:∀i,P.cC i=i):(bK P false P.M).Pairwise fun a b=>a.line≤b.line:=by
 obtain⟨j,a'⟩:∃j,P.M=j+1:=mD.mpr (h.pos);have ok:=AQ (P:=P) (n:=(bK P false j).length) (b:=j+1) h.fit (bK P false j) [] 0 ⟨[],[],[]⟩ ⟨rfl,fun ag ag e=>(nomatch e),fun ag e=>(nomatch e),fun ag ag e=>(nomatch e),fun ag ag e=>(nomatch e)⟩;erw[a'];show(fin P (j+1) (ig P false (bK P false j).length (j+1) 0 (bK P false j) ⟨[],[],[]⟩)).Pairwise _;generalize ig P false (bK P false j).length (j+1) 0 (bK P false j) ⟨[],[],[]⟩=s at ok;rw[nR]at ok;have ai:s.kept=[]:=by
  erw[ok.kept,Z9];intro w _;have:P.over (j+1) w=true:=by unfold bM.over;erw[←a',h.hU,xS]
  simp[this]
 unfold fin;erw[ai,nR];refine List.Pairwise.filterMap _ (fun a b du x aC y aV=>?_) (DR _);have ln:∀{k:Int} {x:bc},iE P (j+1) s k=I x→x.line=k/4:=by
  intro k x aC;unfold iE at aC;cases ar:lk k s.best with
  |none=>rw[ar]at aC;injections aC
  |some o=>
   rw[ar]at aC;have aC:(if o.d≤(lk (k/4) s.least).getD 0+P.A then I (bc.go (j+1) o.ln (k%4) o.d o.w)else J)=I x:=aC
   split at aC
   ·injections aC
    obtain⟨w,_,_,ay,au⟩:=ok.pS k o ar;erw[ay,au];exact((q5 (h.fit w.cA (j+1))).1.trans (aK _)).symm
   ·injections aC
 erw[ln aC,ln aV];exact Int.ediv_le_ediv (by decide) du
noncomputable def hE(P:bM)(ie:Bool)(L:Int):Option (List Nat):=if(bK P ie P.M).isEmpty then J else if U ((picked (bK P ie P.M) L).2≠L)&& !ie then J else I (picked (bK P ie P.M) L).1.path
theorem wi{ws:List bc}{L:Int}(aA:ws≠[])(aL:L≠0→ws.Pairwise fun a b=>a.line≤b.line):(picked ws L).1∈ws:=by
 refine bZ (fun cv:L=0=>?_) (fun cv=>?_)
 ·subst cv;unfold picked;erw[if_pos rfl];show bestOf (ws.headD .root) ws∈ws
  induction ws using bY with
  |nil=>exact absurd rfl aA
  |cons v r=>
   have:∀(l:List bc) (b:bc),bestOf b l=b∨bestOf b l∈l:=by
    intro l
    induction l with
    |nil=>intro b;exact .inl rfl
    |cons x l aG=>
     intro b
     rcases aG (if x.bJ<b.bJ then x else b)with e|e
     ·refine bZ (fun ah:x.bJ<b.bJ=>?_) (fun ah=>?_)
      ·right
       have e:bestOf b (x::l)=x:=by show bestOf (if x.bJ<b.bJ then x else b) l=x;erw[e,if_pos ah]
       erw[e];exact .head _
      ·left
       show bestOf (if x.bJ<b.bJ then x else b) l=b;erw[e,if_neg ah]
     ·exact .inr (.tail _ e)
   rcases this (v::r) v with e|e
   ·show bestOf v (v::r)∈_;erw[e];exact .head _
   ·exact e
 ·exact(tu cv aA (aL cv)).mem
theorem H5:∀(ws:List bc) (b:bc),(bestOf b ws).bJ≤b.bJ∧∀w,w∈ws→(bestOf b ws).bJ≤w.bJ:=by
 intro aT
 induction aT with
 |nil=>intro b;exact⟨dZ _,fun ag h=>(nomatch h)⟩
 |cons v ws aD=>
  intro b;obtain⟨aa,ab⟩:=aD (if v.bJ<b.bJ then v else b);have aq:(if v.bJ<b.bJ then v else b).bJ≤b.bJ∧(if v.bJ<b.bJ then v else b).bJ≤v.bJ:=by
   split
   ·rename_i h;exact⟨jN h,dZ _⟩
   ·rename_i h;exact⟨dZ _,ez.mp h⟩
  refine⟨c0 aa aq.1,fun w hw=>?_⟩
  rcases ec.mp hw with rfl|hw
  ·exact c0 aa aq.2
  ·exact ab w hw
section
variable{P cn:bM}{g ot:Nat→Nat→Int}{pc AU:Nat→Int}
theorem AV(m:gR P cn g pc)(h6:gR cn P ot AU)(h:hD P)(h':hD cn)(aK:cn.cC=P.cC):bK P false P.M=[]↔bK cn false P.M=[]:=by
 constructor
 ·intro e;cases aE:bK cn false P.M with
  |nil=>rfl
  |cons w r=>obtain⟨v,aJ,_⟩:=rd h6 h' h aK.symm (w:=w) (by erw[m.M,aE];exact .head _);replace aJ:=e▸(m.M▸aJ);cases aJ
 ·intro e;cases aE:bK P false P.M with
  |nil=>rfl
  |cons w r=>obtain⟨v,aJ,_⟩:=rd m h h' aK (w:=w) (by erw[aE];exact .head _);replace aJ:=e▸aJ;cases aJ
theorem TP(m:gR P cn g pc)(h6:gR cn P ot AU)(h:hD P)(h':hD cn)(aK:cn.cC=P.cC)(aA:bK P false P.M≠[]):(picked (bK P false P.M) 0).1.bJ=(picked (bK cn false P.M) 0).1.bJ:=by have gg:bK cn false P.M≠[]:=fun e=>aA ((AV m h6 h h' aK).mpr e);have ay:=wi (L:=0) aA fun h=>absurd rfl h;have au:=wi (L:=0) gg fun h=>absurd rfl h;refine eA fun cF=>?_;obtain⟨v,v1,_,v2⟩:=rd m h h' aK ay;obtain⟨u,rb,_,vY⟩:=rd h6 h' h aK.symm (w:=(picked (bK cn false P.M) 0).1) (by erw[m.M];exact au);refine cF ?_;replace rb:=m.M▸rb;have f1:∀w,w∈bK P false P.M→(picked (bK P false P.M) 0).1.bJ≤w.bJ:=(H5 _ _).2;have f2:∀w,w∈bK cn false P.M→(picked (bK cn false P.M) 0).1.bJ≤w.bJ:=(H5 _ _).2;exact rN (c0 (f1 u rb) vY) (c0 (f2 v v1) v2)
theorem H6(m:gR P cn g pc)(h6:gR cn P ot AU)(h:hD P)(h':hD cn)(aK:∀i,P.cC i=i)(mn:∀i,cn.cC i=i){L:Int}(cv:L≠0)(aA:bK P false P.M≠[]):
  (picked (bK P false P.M) L).2=(picked (bK cn false P.M) L).2∧(picked (bK P false P.M) L).1.line=(picked (bK cn false P.M) L).1.line∧(picked (bK P false P.M) L).1.bJ=(picked (bK cn false P.M) L).1.bJ:=by
 have e:cn.cC=P.cC:=funext fun i=>(mn i).trans (aK i).symm;have gg:bK cn false P.M≠[]:=fun x=>aA ((AV m h6 h h' e).mpr x);refine Tx cv aA gg (wh h aK) (by have:=wh h' mn;rw[m.M]at this;exact this) (fun w hw=>?_) fun w hw=>?_
 ·obtain⟨v,a,b,c⟩:=rd m h h' e hw;rw[aK,aK]at b;exact⟨v,a,b,c⟩
 ·obtain⟨v,a,b,c⟩:=rd h6 h' h e.symm (w:=w) (by erw[m.M];exact hw);rw[m.M]at a;rw[mn,mn]at b;exact⟨v,a,b,c⟩
end
theorem TQ{c:Int}{ws fO:List bc}(h:dm (gU c) ws fO):∀{b b':bc},gU c b b'→gU c (bestOf b ws) (bestOf b' fO):=by
 induction h with
 |nil=>intro b b' h;exact h
 | @cons w bP l m r _ aG=>
  intro b b' ae;show gU c (bestOf (if w.bJ<b.bJ then w else b) l) (bestOf (if bP.bJ<b'.bJ then bP else b') m);refine aG ?_;erw[r.bJ,ae.bJ];refine bZ (fun ah:w.bJ<b.bJ=>?_) (fun ah=>?_)
  ·erw[if_pos ah,if_pos (aae ah c)];exact r
  ·erw[if_neg ah,if_neg fun h=>ah (aaf h)];exact ae
theorem TR{c cP L:Int}{ws fO:List bc}(h:dm (gU c) ws fO):∀{s s':bc×Int},gU c s.1 s'.1→s'.2=s.2→gU c (ws.foldl (fC cP L) s).1 (fO.foldl (fC cP L) s').1∧(fO.foldl (fC cP L) s').2=(ws.foldl (fC cP L) s).2:=by
 induction h with
 |nil=>intro s s' h e;exact⟨h,e⟩
 | @cons w bP l m r _ aG=>
  intro s s' aL e;have key:gU c (fC cP L s w).1 (fC cP L s' bP).1∧(fC cP L s' bP).2=(fC cP L s w).2:=by
   unfold fC;erw[r.line,e,r.bJ,aL.bJ];refine bZ (fun ah:((L≤w.line-cP∧w.line-cP<s.2)∨(s.2<w.line-cP∧w.line-cP≤L))∨(w.line-cP=s.2∧w.bJ<s.1.bJ)=>?_) (fun ah=>?_)
   ·erw[if_pos ah,if_pos (ah.imp id fun h=>⟨h.1,aae h.2 c⟩)];exact⟨r,rfl⟩
   ·erw[if_neg ah,if_neg fun h=>ah (h.imp id fun h=>⟨h.1,aaf h.2⟩)];exact⟨aL,e⟩
  exact aG key.1 key.2
theorem H7{c L:Int}{ws fO:List bc}(h:dm (gU c) ws fO)(aA:ws≠[]):gU c (picked ws L).1 (picked fO L).1∧(picked fO L).2=(picked ws L).2:=by
 cases h with
 |nil=>exact absurd rfl aA
 | @cons w bP l m r t=>
  have ae:=TQ (.cons r t) r;unfold picked;show gU c (if L=0 then(bestOf w (w::l),0)else(w::l).foldl (fC (bestOf w (w::l)).line L) (bestOf w (w::l),0)).1 (if L=0 then(bestOf bP (bP::m),0)else(bP::m).foldl (fC (bestOf bP (bP::m)).line L) (bestOf bP (bP::m),0)).1∧(if L=0 then(bestOf bP (bP::m),0)else(bP::m).foldl (fC (bestOf bP (bP::m)).line L) (bestOf bP (bP::m),0)).2=(if L=0 then(bestOf w (w::l),0)else(w::l).foldl (fC (bestOf w (w::l)).line L) (bestOf w (w::l),0)).2
  refine bZ (fun cv:L=0=>?_) (fun cv=>?_)
  ·erw[if_pos cv,if_pos cv];exact⟨ae,rfl⟩
  ·erw[if_neg cv,if_neg cv,ae.line];exact TR (.cons r t) ae rfl
theorem aa2(P:bM)(l:Bool)(b:Nat):lx P l b []=[]:=rfl
theorem TS{P:bM}(h:hD P):∀j,bK P false j≠[]→∃c,dm (gU c) (bK P false j) (bK P true j):=by
 intro eW
 induction eW with
 |zero=>intro _;exact⟨0,.cons ⟨rfl,rfl,rfl,rfl,(eP _).symm⟩ .nil⟩
 |succ j aD=>intro aA;have TU:bK P false j≠[]:=fun e=>aA (by show lx P false (j+1) (bK P false j)=[];erw[e];rfl);refine f7 (aD TU) fun c ah=>?_;exact TO h.fit ah aA
theorem TV{P:bM}(h:hD P){L:Int}(aA:bK P false P.M≠[]):bK P true P.M≠[]∧(picked (bK P true P.M) L).1.path=(picked (bK P false P.M) L).1.path∧(picked (bK P true P.M) L).2=(picked (bK P false P.M) L).2:=by refine f7 (TS h P.M aA) fun c ah=>?_;have:=ah.length;refine⟨fun e=>?_,(H7 ah aA).1.path,(H7 ah aA).2⟩;rw[e]at this;exact aA (o5 this.symm)
end Tactic
end
section
open PySem PySem.W
namespace Tactic.L
def body(f:Nat):bD:=((bl f).map (·.body)).getD .nil
theorem bG{α β:Type}{o:Option (α×St)}{a:α}{s:St}{f:α→St→Option β}{r:Option β}(h:o=I (a,s))(ab:f a s=r):aY o f=r:=h▸ab
theorem bz{α β:Type}{o:Option α}{a:α}{f:α→Option β}{r:Option β}(h:o=I a)(ab:f a=r):o.bind f=r:=h▸ab
theorem eo{α β:Type}{o:Option α}{a:α}{f:α→β}{b:β}(h:o=I a)(ab:f a=b):o.map f=I b:=h▸ab▸rfl
noncomputable def app:bD→bD→bD
 | .nil,b=>b
 | .cons s a,b=>.cons s (app a b)
theorem AW(C:Calls)(b:bD):∀(a:bD) (st:St),bI C (app a b) st=aY (bI C a st) fun r st=>n1 r st fun st=>bI C b st
 | .nil,st=>rfl
 | .cons s a,st=>by
  show aY (iS C s st) _=aY (aY (iS C s st) _) _;cases iS C s st with
  |none=>rfl
  |some p=>cases h:p.1 with
   |next=>show n1 p.1 p.2 _=aY (n1 p.1 p.2 _) _;erw[h];exact AW C b a p.2
   |_=>show n1 p.1 p.2 _=aY (n1 p.1 p.2 _) _;erw[h];rfl
theorem rf{α:Sort _}{a b r:α}(h:a=r):(if true=true then a else b)=r:=h
section
variable(C:Calls)(st:St)
theorem H8(e):fi C (.of e) st=aY (aj C e st) fun x st=>(st.lend x).map fun p=>(x,p.1,p.2):=rfl
theorem TX(e):fi C (.enum e) st=aY (aj C e st) fun x st=>(xL x).bind fun xs=>if fit xs.length then I (.v .bB,pairs 0 xs,st)else J:=rfl
theorem TY(a b):fi C (.zip a b) st=aY (aj C a st) fun x st=>(xL x).bind fun xs=>aY (aj C b st) fun y st=>(xL y).bind fun aS=>if fit (xs.length+aS.length)then I (.v .bB,k2 xs aS,st)else J:=rfl
theorem TZ(b):fi C (.range b) st=aY (aj C b st) fun y st=>(fJ y).bind fun n=>if inR n then I (.v .bB,gM 0 n,st)else J:=rfl
theorem T1(a b):fi C (.lX a b) st=aY (aj C a st) fun x st=>(fJ x).bind fun m=>aY (aj C b st) fun y st=>(fJ y).bind fun n=>if inR m&&inR n then I (.v .bB,gM m n,st)else J:=rfl
theorem wj(t e):iS C (.assign t e) st=aY (aj C e st) fun x st=>(asg C t x st).map fun st=>(.next,st):=rfl
theorem T2(ts es):iS C (.jS ts es) st=aY (dq C es st) fun xs st=>(gb C ts xs st).map fun st=>(.next,st):=rfl
theorem T3(e i v):iS C (.pf e i v) st=aY (aj C e st) fun x st=>aY (aj C i st) fun j st=>((st.item x j).bind fJ).bind fun a=>aY (aj C v st) fun y st=>(fJ y).bind fun b=>(st.setItem x j (.v (.int (a+b)))).map fun st=>(.next,st):=rfl
theorem T4(c a b):iS C (.ite c a b) st=aY (aj C c st) fun x st=>(k1 x).bind fun t=>if t then bI C a st else bI C b st:=rfl
theorem T5(e):iS C (.ret e) st=aY (aj C e st) fun x st=>I (.ret x,st):=rfl
theorem T6(e):iS C (.expr e) st=aY (aj C e st) fun ag st=>I (.next,st):=rfl
theorem H9(e n x):asg C (.attr e n) x st=aY (aj C e st) fun o st=>st.setAttr o n x:=rfl
theorem H'(e i x):asg C (.item e i) x st=aY (aj C e st) fun o st=>aY (aj C i st) fun j st=>st.setItem o j x:=rfl
end
section
variable{C:Calls}{st st1 st2 i4:St}{a b c e:ao}{es:az}{x y z:X}{i j k:Int}{n:Nat}{p q:Bool}{u v w:V}{xs aS vs:List V}{o br:bk}
theorem a9:aj C (.const v) st=I (.v v,st):=rfl
theorem aP(h:st.loc[n]? =I (I x)):aj C (.loc n) st=I (x,st):=bz h rfl
theorem j2{op:jR}{r:V}(aa:aj C a st=I (x,st1))(ab:aj C b st1=I (y,st2))(ha:st2.val x=I u)(aJ:st2.val y=I v)(h:uN op u v=I r):aj C (.bin op a b) st=I (.v r,st2):=bG aa (bG ab (bz ha (bz aJ (eo h rfl))))
theorem ng(aa:aj C a st=I (.v (.int i),st1))(ab:aj C b st1=I (.v (.int j),st2)):aj C (.bin .add a b) st=I (.v (.int (i+j)),st2):=j2 aa ab rfl rfl rfl
theorem oC(aa:aj C a st=I (.v (.int i),st1))(ab:aj C b st1=I (.v (.int j),st2)):aj C (.bin .sub a b) st=I (.v (.int (i-j)),st2):=j2 aa ab rfl rfl rfl
theorem oD(aa:aj C a st=I (.v (.int i),st1))(ab:aj C b st1=I (.v (.int j),st2))(h:(small i||small j)=true):aj C (.bin .mul a b) st=I (.v (.int (i*j)),st2):=j2 aa ab rfl rfl (if_pos h)
theorem Ia(aa:aj C a st=I (.v (.int i),st1))(ab:aj C b st1=I (.v (.int j),st2))(h:¬(j=0∨small j=false)):aj C (.bin .fdiv a b) st=I (.v (.int (i.fdiv j)),st2):=j2 aa ab rfl rfl (if_neg h)
theorem wk(aa:aj C a st=I (.v (.int i),st1))(ab:aj C b st1=I (.v (.int j),st2))(h:¬j=0):aj C (.bin .mod a b) st=I (.v (.int (i.fmod j)),st2):=j2 aa ab rfl rfl (if_neg h)
theorem wm(aa:aj C a st=I (.v (.int i),st1)):aj C (.neg a) st=I (.v (.int (-i)),st1):=bG aa rfl
theorem wo(aa:aj C a st=I (.v (.bool p),st1)):aj C (.not a) st=I (.v (.bool (!p)),st1):=bG aa rfl
theorem Ib(aa:aj C a st=I (.v (.bool p),st1))(ab:p=true→aj C b st1=I (.v (.bool q),st1)):aj C (.and a b) st=I (.v (.bool (p&&q)),st1):=bG aa (match p,ab with
 |false,_=>rfl
 |true,ab=>bz rfl (rf (bG (ab rfl) rfl)))
theorem ly(aa:aj C a st=I (.v (.bool p),st1))(ab:aj C b st1=I (.v (.bool q),st1)):aj C (.and a b) st=I (.v (.bool (p&&q)),st1):=Ib aa fun ag=>ab
theorem tB(aa:aj C a st=I (.v (.bool p),st1))(ab:p=false):aj C (.and a b) st=I (.v (.bool false),st1):=bG aa (by erw[ab];rfl)
theorem T7(aa:aj C a st=I (.v (.bool p),st1))(ab:p=true):aj C (.or a b) st=I (.v (.bool true),st1):=bG aa (by erw[ab];rfl)
theorem Ic(aa:aj C a st=I (.v (.bool p),st1))(ab:p=false→aj C b st1=I (.v (.bool q),st1)):aj C (.or a b) st=I (.v (.bool (p||q)),st1):=bG aa (match p,ab with
 |true,_=>rfl
 |false,ab=>bz rfl ((if_neg (by decide)).trans (bG (ab rfl) rfl)))
theorem rg(aa:aj C a st=I (.v (.bool p),st1))(ab:aj C b st1=I (.v (.bool q),st1)):aj C (.or a b) st=I (.v (.bool (p||q)),st1):=Ic aa fun ag=>ab
theorem hV(aa:aj C a st=I (x,st1))(ab:aj C b st1=I (y,st2))(h:st2.cmp o x y=I p):aj C (.cmp a o b) st=I (.v (.bool p),st2):=bG aa (bG ab (eo h rfl))
theorem mq(aa:aj C a st=I (.v (.int i),st1))(ab:aj C b st1=I (.v (.int j),st2)):aj C (.cmp a .eq b) st=I (.v (.bool (U (i=j))),st2):=hV aa ab rfl
theorem T8(aa:aj C a st=I (.v (.int i),st1))(ab:aj C b st1=I (.v (.int j),st2)):aj C (.cmp a .ne b) st=I (.v (.bool (!U (i=j))),st2):=hV aa ab rfl
theorem wq(aa:aj C a st=I (.v (.int i),st1))(ab:aj C b st1=I (.v (.int j),st2)):aj C (.cmp a .lt b) st=I (.v (.bool (U (i<j))),st2):=hV aa ab rfl
theorem AX(aa:aj C a st=I (.v (.int i),st1))(ab:aj C b st1=I (.v (.int j),st2)):aj C (.cmp a .le b) st=I (.v (.bool (U (i≤j))),st2):=hV aa ab rfl
theorem pT(aa:aj C a st=I (.v (.int i),st1))(ab:aj C b st1=I (.v (.int j),st2)):aj C (.cmp a .gt b) st=I (.v (.bool (U (i>j))),st2):=hV aa ab rfl
theorem rh(aa:aj C a st=I (.v (.int i),st1))(ab:aj C b st1=I (.v (.int j),st2)):aj C (.cmp a .ge b) st=I (.v (.bool (U (i≥j))),st2):=hV aa ab rfl
theorem tC(aa:aj C a st=I (.v u,st1)):aj C (.cmp a .is (.const .bB)) st=I (.v (.bool (kq u)),st1):=hV aa a9 rfl
theorem wt(aa:aj C a st=I (.v u,st1)):aj C (.cmp a .nX (.const .bB)) st=I (.v (.bool (!kq u)),st1):=hV aa a9 rfl
theorem AY(aa:aj C a st=I (x,st1))(ab:aj C b st1=I (y,st2))(hp:st2.cmp o x y=I p)(aq:aj C c st2=I (z,st2))(aE:st2.cmp br y z=I q):aj C (.kZ a o b br c) st=I (.v (.bool (p&&q)),st2):=bG aa (bG ab (bz hp (match p with
 |false=>rfl
 |true=>rf (bG aq (eo aE rfl)))))
theorem T9(aa:aj C a st=I (.v (.int i),st1))(ab:aj C b st1=I (.v (.int j),st2))(aq:aj C c st2=I (.v (.int k),st2)):aj C (.kZ a .le b .le c) st=I (.v (.bool (U (i≤j)&&U (j≤k))),st2):=AY aa ab rfl aq rfl
theorem T'(aa:aj C a st=I (.v (.int i),st1))(ab:aj C b st1=I (.v (.int j),st2))(aq:aj C c st2=I (.v (.int k),st2)):aj C (.kZ a .le b .lt c) st=I (.v (.bool (U (i≤j)&&U (j<k))),st2):=AY aa ab rfl aq rfl
theorem Ua(aa:aj C a st=I (.v (.int i),st1))(ab:aj C b st1=I (.v (.int j),st2))(aq:aj C c st2=I (.v (.int k),st2)):aj C (.kZ a .lt b .le c) st=I (.v (.bool (U (i<j)&&U (j≤k))),st2):=AY aa ab rfl aq rfl
theorem jA(aa:aj C a st=I (.v (.bool p),st1))(ab:p=true→aj C b st1=I (x,st2))(aq:p=false→aj C c st1=I (x,st2)):aj C (.k0 a b c) st=I (x,st2):=bG aa (match p,ab,aq with
 |true,ab,_=>ab rfl
 |false,_,aq=>aq rfl)
theorem Ie(aa:aj C a st=I (.v (.bool p),st1))(ab:p=true→aj C b st1=I (.v u,st1))(aq:p=false→aj C c st1=I (.v v,st1)):aj C (.k0 a b c) st=I (.v (bif p then u else v),st1):=jA aa (fun e=>by erw[e];exact ab e) fun e=>by erw[e];exact aq e
theorem AZ(aa:aj C a st=I (.v (.bool p),st1))(ab:p=true→aj C b st1=I (.v (.int i),st1))(aq:p=false→aj C c st1=I (.v (.int j),st1)):aj C (.k0 a b c) st=I (.v (.int (bif p then i else j)),st1):=jA aa (fun e=>by erw[e];exact ab e) fun e=>by erw[e];exact aq e
theorem Ub(aa:aj C a st=I (.v (.bool p),st1))(ab:aj C b st1=I (.v u,st1))(aq:aj C c st1=I (.v v,st1)):aj C (.k0 a b c) st=I (.v (bif p then u else v),st1):=Ie aa (fun ag=>ab) fun ag=>aq
theorem A0(aa:aj C a st=I (.v (.bool p),st1))(ab:aj C b st1=I (.v (.int i),st1))(aq:aj C c st1=I (.v (.int j),st1)):aj C (.k0 a b c) st=I (.v (.int (bif p then i else j)),st1):=AZ aa (fun ag=>ab) fun ag=>aq
theorem hg{t:Option Nat}{cl:Nat}{fs:List (Nat×V)}(aa:aj C a st=I (.v (.obj t cl fs),st1))(h:sf cl n ((er n fs).map .v)=I x):aj C (.attr a n) st=I (x,st1):=bG aa (eo h rfl)
theorem tD{m cl:Nat}{fs:List (Nat×X)}(aa:aj C a st=I (.cell m,st1))(hm:st1.heap[m]? =I (.inst cl fs))(h:sf cl n (er n fs)=I x):aj C (.attr a n) st=I (x,st1):=bG aa (eo (bz (bz hm rfl) h) rfl)
theorem hi(aa:aj C a st=I (.v u,st1))(ab:aj C b st1=I (.v v,st2))(h:gL u v=I w):aj C (.item a b) st=I (.v w,st2):=bG aa (bG ab (eo (eo h rfl) rfl))
theorem gy{m:Nat}{cl:Cell}(aa:aj C a st=I (.cell m,st1))(ab:aj C b st1=I (.v v,st2))(hm:st2.heap[m]? =I cl)(h:n0 cl v=I x):aj C (.item a b) st=I (x,st2):=bG aa (bG ab (eo (bz rfl (bz hm h)) rfl))
theorem pU(aa:aj C a st=I (x,st1))(h:st1.val x=I (.lst xs))(hf:fit xs.length=true):aj C (.rev a) st=I (.v (.lst xs.reverse),st1):=bG aa (bz h (if_pos hf))
theorem Uc(aa:aj C a st=I (x,st1))(h:st1.val x=I (.lst xs))(hf:fit xs.length=true):aj C (.uJ a n) st=I (.v (.lst (xs.take n)),st1):=bG aa (bz h (if_pos hf))
theorem Ud(aa:aj C a st=I (.v (.tup (u::xs)),st1))(hf:fit (u::xs).length=true):aj C (.uK a) st=I (.v (.tup xs),st1):=bG aa (if_pos hf)
theorem eX(aa:ix C es st=I (vs,st1))(hf:fit vs.length=true):aj C (.tup es) st=I (.v (.tup vs),st1):=bG aa (if_pos hf)
theorem hW(aa:ix C es st=I (vs,st1))(hf:fit vs.length=true):aj C (.lst es) st=I (.v (.lst vs),st1):=bG aa (if_pos hf)
theorem di:ix C .nil st=I ([],st):=rfl
theorem bA(aa:aj C a st=I (.v u,st1))(ab:ix C es st1=I (vs,st2)):ix C (.cons a es) st=I (u::vs,st2):=bG aa (bz rfl (bG ab rfl))
theorem cW:dq C .nil st=I ([],st):=rfl
theorem bH{l:List X}(aa:aj C a st=I (x,st1))(ab:dq C es st1=I (l,st2)):dq C (.cons a es) st=I (x::l,st2):=bG aa (bG ab rfl)
theorem fY{bi:gB}{l:List X}(aa:dq C es st=I (l,st1))(h:hO bi st1 l=I (x,st2)):aj C (.bi bi es) st=I (x,st2):=bG aa h
variable{f m t t' bs:Nat}{l dh:List X}{lo:List (Option X)}{h h':List Cell}{ss mr iF:bD}{s:c8}{r:Option (R×St)}{rr:R}{aF:cB}{src:Src}
theorem fo(aa:dq C es st=I (l,⟨lo,h,t,bs⟩))(ah:C f l h t h.length=I (x,h',t')):aj C (.call f es) st=I (x,⟨lo,h',t',bs⟩):=bG aa (eo ah rfl)
theorem Ue(aa:aj C a st=I (x,st1))(hm:st1.yt n x=I f)(ab:dq C es st1=I (l,⟨lo,h,t,bs⟩))(ah:C f (x::l) h t h.length=I (y,h',t')):aj C (.uL a n es) st=I (y,⟨lo,h',t',bs⟩):=bG aa (bz hm (bG ab (eo ah rfl)))
theorem tE{c:Cell}:(h++[c])[h.length]? =I c:=by erw[iP (bE _),kW];rfl
theorem lz{c:Nat}{fs:List (Nat×X)}{gs:List (Nat×V)}(aa:dq C es st=I (l,⟨lo,h,t,bs⟩))(ah:C (gC c) (.cell h.length::l) (h++[.inst c []]) t h.length=I (.v .bB,h++[.inst c fs],t'))(ai:kept c=false)(hp:mN fs=I gs):
  aj C (.new c es) st=I (.v (.obj (if tagged c then I t' else J) c gs),⟨lo,h,if tagged c then t'+1 else t',bs⟩):=
 bG aa (bz ah (show sg c ⟨lo,h,t,bs⟩ (h++[.inst c fs]) t'=_ from bz (bz tE rfl) (by erw[if_neg (fun h=>h rfl),if_neg (by erw[ai];decide),r0];exact eo hp rfl)))
theorem A1{c:Nat}{fs:List (Nat×X)}(aa:dq C es st=I (l,⟨lo,h,t,bs⟩))(ah:C (gC c) (.cell h.length::l) (h++[.inst c []]) t h.length=I (.v .bB,h++[.inst c fs],t'))(ai:kept c=true):
  aj C (.new c es) st=I (.cell h.length,⟨lo,h++[.inst c fs],t',bs⟩):=
 bG aa (bz ah (show sg c ⟨lo,h,t,bs⟩ (h++[.inst c fs]) t'=_ from bz (bz tE rfl) (by erw[if_neg (fun h=>h rfl),if_pos ai])))
theorem nh(aa:ix C es st=I (vs,⟨lo,h,t,bs⟩))(hf:fit vs.length=true):aj C (.jk es) st=I (.cell h.length,⟨lo,h++[.lst vs],t,bs⟩):=bG aa (if_pos hf)
theorem wu(aa:aj C a st=I (x,⟨lo,h,t,bs⟩))(aJ:(⟨lo,h,t,bs⟩:St).val x=I v)(aL:kp v=I vs)(hf:fit vs.length=true):aj C (.r' a) st=I (.cell h.length,⟨lo,h++[.lst vs],t,bs⟩):=bG aa (bz aJ (bz aL (if_pos hf)))
theorem Ug(aa:aj C a st=I (x,⟨lo,h,t,bs⟩))(aJ:(⟨lo,h,t,bs⟩:St).val x=I (.lst vs))(hf:fit vs.length=true):aj C (.pd a) st=I (.cell h.length,⟨lo,h++[.lst vs.reverse],t,bs⟩):=bG aa (bz aJ (if_pos hf))
theorem wx:aj C .cw ⟨lo,h,t,bs⟩=I (.cell h.length,⟨lo,h++[.cw []],t,bs⟩):=rfl
theorem Uh{a8:List Nat}(aa:dq C es st=I (l,⟨lo,h,t,bs⟩))(ai:yx a8 l=true):aj C (.e9 a8 es) st=I (.cell h.length,⟨lo,h++[.e9 (a8.zip l)],t,bs⟩):=bG aa (if_pos ai)
theorem gV(hm:h[m]? =I (.lst xs)):St.lst ⟨lo,h,t,bs⟩ m=I xs:=bz hm rfl
theorem A2(aa:aj C a st=I (.cell m,st1))(ar:st1.lst m=I aS)(ab:aj C b st1=I (.v v,⟨lo,h,t,bs⟩))(hm:St.lst ⟨lo,h,t,bs⟩ m=I xs)(hf:fit xs.length=true):aj C (.append a b) st=I (.v .bB,⟨lo,h.set m (.lst (xs++[v])),t,bs⟩):=bG aa (bz rfl (bz ar (bG ab (bG rfl (bz hm (if_pos hf))))))
theorem Ui(aa:aj C a st=I (.cell m,st1))(ar:st1.lst m=I aS)(ab:aj C b st1=I (.v (.lst vs),⟨lo,h,t,bs⟩))(hm:St.lst ⟨lo,h,t,bs⟩ m=I xs)(hf:fit (xs++vs).length=true):aj C (.extend a b) st=I (.v .bB,⟨lo,h.set m (.lst (xs++vs)),t,bs⟩):=bG aa (bz rfl (bz ar (bG ab (bz rfl (bz hm (if_pos hf))))))
theorem Uj{kv:List (Int×V)}(aa:aj C a st=I (.cell m,st1))(ab:aj C b st1=I (.v (.int i),st1))(hd:st1.jl m=I kv):aj C (.qE a b) st=I (.v ((g7 i kv).getD .bB),st1):=bG aa (bz rfl (bz hd (bG ab (bz rfl (eo hd rfl)))))
theorem Uk{kv:List (Int×V)}(aa:aj C a st=I (.cell m,st1))(ab:aj C b st1=I (.v (.int i),st1))(aq:aj C c st1=I (.v v,st1))(hd:st1.jl m=I kv):aj C (.pe a b c) st=I (.v ((g7 i kv).getD v),st1):=bG aa (bz rfl (bz hd (bG ab (bz rfl (bG aq (bz rfl (eo hd rfl)))))))
theorem hj(aa:aj C a st=I (.v v,st1))(aL:kp v=I vs)(hf:fit vs.length=true):fi C (.of a) st=I (.v v,vs,st1):=(H8 ..).trans (bG aa (eo (bz aL (if_pos hf)) rfl))
theorem Ul(aa:aj C a st=I (.cell m,⟨lo,h,t,bs⟩))(aL:St.lst ⟨lo,h,t,bs⟩ m=I vs)(hf:fit vs.length=true):fi C (.of a) st=I (.cell m,vs,⟨lo,h.set m .gone,t,bs⟩):=(H8 ..).trans (bG aa (eo (bz aL (if_pos hf)) rfl))
theorem A3(aa:aj C a st=I (.v (.lst vs),st1))(hf:fit vs.length=true):fi C (.enum a) st=I (.v .bB,pairs 0 vs,st1):=(TX ..).trans (bG aa (bz rfl (if_pos hf)))
theorem Um(aa:aj C a st=I (.v (.lst vs),st1))(ab:aj C b st1=I (.v (.lst xs),st2))(hf:fit (vs.length+xs.length)=true):fi C (.zip a b) st=I (.v .bB,k2 vs xs,st2):=(TY ..).trans (bG aa (bz rfl (bG ab (bz rfl (if_pos hf)))))
theorem wy(aa:aj C a st=I (.v (.int i),st1))(hf:inR i=true):fi C (.range a) st=I (.v .bB,gM 0 i,st1):=(TZ ..).trans (bG aa (bz rfl (if_pos hf)))
theorem Ig(aa:aj C a st=I (.v (.int i),st1))(ab:aj C b st1=I (.v (.int j),st2))(hf:(inR i&&inR j)=true):fi C (.lX a b) st=I (.v .bB,gM i j,st2):=(T1 ..).trans (bG aa (bz rfl (bG ab (bz rfl (if_pos hf)))))
theorem ri{elt:ao}(aa:fi C src st=I (.v v,vs,⟨lo,h,t,bs⟩)){dX:List (Option X)}(ab:fh aF (fun st=>I (true,st)) (fun st=>gN (aj C elt st)) vs (g8 aF ⟨lo,h,t,bs⟩)=I (aS,⟨dX,h',t',bs⟩)):aj C (.comp elt aF src) st=I (.v (.lst aS),⟨lo,h',t',bs⟩):=bz aa (bG ab (if_pos rfl))
theorem A4{elt:ao}(aa:fi C src st=I (.v v,vs,⟨lo,h,t,bs⟩)){dX:List (Option X)}(ab:fh aF (fun st=>hN (aj C c st)) (fun st=>gN (aj C elt st)) vs (g8 aF ⟨lo,h,t,bs⟩)=I (aS,⟨dX,h',t',bs⟩)):aj C (.sa elt aF src c) st=I (.v (.lst aS),⟨lo,h',t',bs⟩):=bz aa (bG ab (if_pos rfl))
theorem rj{elt:ao}(aa:hM aF u st=I st1)(ab:aj C elt st1=I (.v w,st2))(aq:fh aF (fun st=>I (true,st)) (fun st=>gN (aj C elt st)) vs st2=I (aS,i4)):fh aF (fun st=>I (true,st)) (fun st=>gN (aj C elt st)) (u::vs) st=I (w::aS,i4):=bz aa (bG rfl (rf (bG (bG ab rfl) (bG aq rfl))))
theorem wz{elt:ao}(aa:hM aF u st=I st1)(ah:aj C c st1=I (.v (.bool true),st1))(ab:aj C elt st1=I (.v w,st2))(aq:fh aF (fun st=>hN (aj C c st)) (fun st=>gN (aj C elt st)) vs st2=I (aS,i4)):fh aF (fun st=>hN (aj C c st)) (fun st=>gN (aj C elt st)) (u::vs) st=I (w::aS,i4):=bz aa (bG (bG ah rfl) (rf (bG (bG ab rfl) (bG aq rfl))))
theorem wA{elt:ao}(aa:hM aF u st=I st1)(ah:aj C c st1=I (.v (.bool false),st1))(aq:fh aF (fun st=>hN (aj C c st)) (fun st=>gN (aj C elt st)) vs st1=I (aS,i4)):fh aF (fun st=>hN (aj C c st)) (fun st=>gN (aj C elt st)) (u::vs) st=I (aS,i4):=bz aa (bG (bG ah rfl) ((if_neg (by decide)).trans aq))
def Wp(Q:R→St→Prop)(o:Option (R×St)):Prop:=∃r st,o=I (r,st)∧Q r st
variable{Q:R→St→Prop}
theorem pV{r:R}{o:Option (R×St)}(h:o=I (r,st))(q:Q r st):Wp Q o:=⟨r,st,h,q⟩
theorem w_eq{o br:Option (R×St)}(h:br=o)(q:Wp Q o):Wp Q br:=h▸q
theorem aa3{ni:R→St→Prop}{o:Option (R×St)}(h:Wp Q o)(i:∀r st,Q r st→ni r st):Wp ni o:=by obtain⟨r,st,e,q⟩:=h;exact⟨r,st,e,i r st q⟩
theorem aa4{o:Option (R×St)}(h:∀ni:R→St→Prop,(∀r st,Q r st→ni r st)→Wp ni o):Wp Q o:=h Q fun ag ag q=>q
theorem rk(ar:let dX:=lo;Wp Q (bI C ss ⟨dX,h,t,bs⟩)):Wp Q (bI C ss ⟨lo,h,t,bs⟩):=ar
theorem mu(ah:iS C s st=I (.next,st1))(h:Wp Q (bI C ss st1)):Wp Q (bI C (.cons s ss) st):=w_eq (bG ah rfl) h
theorem dT(aa:aj C a st=I (x,⟨lo,h,t,bs⟩))(av:Wp Q (bI C ss ⟨lo.set n (I x),h,t,bs⟩)):Wp Q (bI C (.cons (.assign (.loc n) a) ss) st):=mu ((wj ..).trans (bG aa rfl)) av
theorem A5{c:Nat}{fs:List (Nat×X)}(aa:aj C a st=I (x,st1))(ab:aj C b st1=I (.cell m,⟨lo,h,t,bs⟩))(hm:h[m]? =I (.inst c fs))(aO:(iR c n&&((valOf x).isSome||decide (bs≤m)))=true)(av:Wp Q (bI C ss ⟨lo,h.set m (.inst c (fS n x fs)),t,bs⟩)):Wp Q (bI C (.cons (.assign (.attr b n) a) ss) st):=mu ((wj ..).trans (bG aa (eo ((H9 ..).trans (bG ab (bz rfl (bz (bz hm rfl) (if_pos aO))))) rfl))) av
theorem A6{cl cl':Cell}(aa:aj C a st=I (x,st1))(ab:aj C b st1=I (.cell m,st2))(aq:aj C c st2=I (.v v,⟨lo,h,t,bs⟩))(hm:h[m]? =I cl)(aO:pk (U (bs≤m)) cl v x=I cl')(av:Wp Q (bI C ss ⟨lo,h.set m cl',t,bs⟩)):Wp Q (bI C (.cons (.assign (.item b c) a) ss) st):=mu ((wj ..).trans (bG aa (eo ((H' ..).trans (bG ab (bG aq (bz rfl (bz rfl (bz hm (eo aO rfl))))))) rfl))) av
theorem Ih{cl cl':Cell}(ab:aj C b st=I (.cell m,st1))(aq:aj C c st1=I (.v v,st2))(ba:st2.item (.cell m) (.v v)=I (.v (.int i)))(aa:aj C a st2=I (.v (.int j),⟨lo,h,t,bs⟩))(hm:h[m]? =I cl)(aO:pk (U (bs≤m)) cl v (.v (.int (i+j)))=I cl')(av:Wp Q (bI C ss ⟨lo,h.set m cl',t,bs⟩)):Wp Q (bI C (.cons (.pf b c a) ss) st):=mu ((T3 ..).trans (bG ab (bG aq (bz (bz ba rfl) (bG aa (bz rfl (eo (bz rfl (bz rfl (bz hm (eo aO rfl)))) rfl))))))) av
theorem hk{ts:dI}(aa:dq C es st=I (l,st1))(ab:gb C ts l st1=I st2)(av:Wp Q (bI C ss st2)):Wp Q (bI C (.cons (.jS ts es) ss) st):=mu ((T2 ..).trans (bG aa (eo ab rfl))) av
theorem wB{ts:dI}(aa:aj C a st=I (.v (.tup vs),st1))(ab:gb C ts (vs.map .v) st1=I st2)(av:Wp Q (bI C ss st2)):Wp Q (bI C (.cons (.assign (.tup ts) a) ss) st):=mu ((wj ..).trans (bG aa (eo (bz rfl ab) rfl))) av
theorem A7(h0:st.loc[n]? =I (I (.v (.int i))))(aa:aj C a st=I (.v (.int j),⟨lo,h,t,bs⟩))(av:Wp Q (bI C ss ⟨lo.set n (I (.v (.int (i+j)))),h,t,bs⟩)):Wp Q (bI C (.cons (.aug n a) ss) st):=mu (bz (bz h0 rfl) (bG aa rfl)) av
theorem iy{d:Bool}{P cn:Prop}(hd:d=true)(h:P):cond d P cn:=by erw[hd];exact h
theorem Un{d:Bool}{P cn:Prop}(hd:d=false)(h:cn):cond d P cn:=by erw[hd];exact h
theorem n4{d:Bool}{P cn:Prop}(aa:d=true→P)(ab:d=false→cn):cond d P cn:=by cases d;exact ab rfl;exact aa rfl
theorem ih{d:Bool}{s1 s2:bD}(ah:aj C c st=I (.v (.bool d),st1))(ay:app mr ss=s1)(au:app iF ss=s2)(h:cond d (Wp Q (bI C s1 st1)) (Wp Q (bI C s2 st1))):Wp Q (bI C (.cons (.ite c mr iF) ss) st):=by
 subst ay au;show Wp Q (aY (iS C (.ite c mr iF) st) _);erw[T4,ah]
 match d,h with
 |true,h=>exact w_eq (AW ..).symm h
 |false,h=>exact w_eq (AW ..).symm h
def Uo(C:Calls)(Q:R→St→Prop)(ss:bD)(r:R)(st:St):Prop:=match r with
 | .ret x=>Q (.ret x) st
 | .next=>Wp Q (bI C ss st)
 | .cont=>False
theorem gW(aa:fi C src st=I (.v v,vs,st1))(ab:Wp (Uo C Q ss) (forL aF (bI C mr) vs st1)):Wp Q (bI C (.cons (.mL aF src mr) ss) st):=by
 refine eA fun cF=>?_;obtain⟨r,s2,e,q⟩:=ab;refine cF ?_;have aL:iS C (.mL aF src mr) st=I (r,s2):=bz aa (bz rfl e)
 induction r using R.casesOn with
 |next=>exact mu aL q
 |ret x=>exact pV (bG aL rfl) q
 |cont=>exact q.elim
theorem wC{w:bD}(ab:lY (fun st=>hN (aj C c st)) (bI C w) 100 st=I (.next,st2))(av:Wp Q (bI C ss st2)):Wp Q (bI C (.cons (.sb c w) ss) st):=mu ab av
theorem hX(ah:aj C a st=I (x,st1))(h:Q (.ret x) st1):Wp Q (bI C (.cons (.ret a) ss) st):=pV (bG ((T5 ..).trans (bG ah rfl)) rfl) h
theorem oE(ah:aj C a st=I (x,st1))(h:Wp Q (bI C ss st1)):Wp Q (bI C (.cons (.expr a) ss) st):=mu ((T6 ..).trans (bG ah rfl)) h
theorem Up(h:Q .cont st):Wp Q (bI C (.cons .cont ss) st):=pV rfl h
theorem Uq(h:Wp Q (bI C ss st)):Wp Q (bI C (.cons .pass ss) st):=h
theorem gh(h:Q .next st):Wp Q (bI C .nil st):=pV rfl h
theorem pW{bd:St→Option (R×St)}(h:Q .next st):Wp Q (forL aF bd [] st):=pV rfl h
theorem pX{bd:St→Option (R×St)}(aa:hM aF v st=I st1)(ab:Wp (fun r st=>jm r=false∧Wp Q (forL aF bd vs st)) (bd st1)):Wp Q (forL aF bd (v::vs) st):=by obtain⟨r,s2,e,q,g⟩:=ab;exact w_eq (bz aa (bG e (if_neg (by erw[q];decide)))) g
theorem aa5{bd:St→Option (R×St)}(aa:hM aF v st=I st1)(ab:bd st1=I (.ret x,st2))(q:Q (.ret x) st2):Wp Q (forL aF bd (v::vs) st):=pV (bz aa (bG ab rfl)) q
theorem eY{e:List Cell}(k:Nat):(h++e)[h.length+k]? =e[k]? :=by erw[iP (f6 ..),ir]
theorem e7{e:List Cell}{c:Cell}(hm:h[m]? =I c):(h++e)[m]? =I c:=by erw[mE (d7.mp hm).1,hm]
theorem nj{e:List Cell}(k:Nat)(c:Cell):(h++e).set (h.length+k) c=h++e.set k c:=by erw[List.set_append_right _ _ (f6 ..),ir]
theorem Ur{jy:Cell}(aa:ix C es st=I (vs,⟨lo,h++[jy],t,bs⟩))(hf:fit vs.length=true):aj C (.jk es) st=I (.cell (h.length+1),⟨lo,h++[jy,.lst vs],t,bs⟩):=by erw[nh aa hf,b4,eR];rfl
theorem Us{jy:Cell}{ee:List Cell}(aa:aj C a st=I (.cell (h.length+1),st1))(ar:st1.lst (h.length+1)=I aS)(ab:aj C b st1=I (.v v,⟨lo,h++jy:: .lst xs::ee,t,bs⟩))(hf:fit xs.length=true):aj C (.append a b) st=I (.v .bB,⟨lo,h++jy:: .lst (xs++[v])::ee,t,bs⟩):=by erw[A2 aa ar ab (gV (eY 1)) hf];have e:(h++jy:: .lst xs::ee).set (h.length+1) (.lst (xs++[v]))=h++jy:: .lst (xs++[v])::ee:=nj 1 _;erw[e]
theorem Ut{m:Nat}(ar:st.lst m=I xs)(hf:fit xs.length=true):hO .tuple st [.cell m]=I (.v (.tup xs),st):=bz (bz (eo ar rfl) rfl) (eo (bz rfl (bz rfl (if_pos hf))) rfl)
theorem A8{T:St→Option (Bool×St)}{bd:St→Option (R×St)}(aa:T st=I (false,st1)):lY T bd (n+1) st=I (.next,st1):=bG aa rfl
theorem Ii{T:St→Option (Bool×St)}{bd:St→Option (R×St)}{q:Option (R×St)}(aa:T st=I (true,st1))(ab:bd st1=I (rr,st2))(av:jm rr=false)(aq:lY T bd n st2=q):lY T bd (n+1) st=q:=bG aa (rf (bG ab ((if_neg (by erw[av];decide)).trans aq)))
theorem tF(aa:aj C a st=I (.v (.bool p),st1)):hN (aj C a st)=I (p,st1):=bG aa rfl
theorem Uu{cl cl':Cell}{ee:List Cell}(ab:aj C b st=I (.cell h.length,st1))(aq:aj C c st1=I (.v v,st2))(ba:st2.item (.cell h.length) (.v v)=I (.v (.int i)))(aa:aj C a st2=I (.v (.int j),⟨lo,h++cl::ee,t,bs⟩))(aO:pk (U (bs≤h.length)) cl v (.v (.int (i+j)))=I cl')(av:Wp Q (bI C ss ⟨lo,h++cl'::ee,t,bs⟩)):Wp Q (bI C (.cons (.pf b c a) ss) st):=Ih ab aq ba aa (eY 0) aO (by have e:(h++cl::ee).set h.length cl'=h++cl'::ee:=nj 0 _;erw[e];exact av)
theorem i5{bd:St→Option (R×St)}(cc:List V→St→Prop)(ae:∀v vs st,cc (v::vs) st→∀ni:R→St→Prop,(∀r st,jm r=false→cc vs st→ni r st)→(∀r st,jm r=true→Q r st→ni r st)→∃st1,hM aF v st=I st1∧Wp ni (bd st1))(he:∀st,cc [] st→Q .next st):∀(vs:List V) (st:St),cc vs st→Wp Q (forL aF bd vs st):=by
 intro aT
 induction aT with
 |nil=>intro st h;exact pW (he st h)
 |cons v vs aD=>intro st h;obtain⟨st1,ay,r,s2,au,q⟩:=ae v vs st h (fun r st=>(jm r=true∧Q r st)∨(jm r=false∧cc vs st)) (fun ag ag e i=>.inr ⟨e,i⟩) fun ag ag e i=>.inl ⟨e,i⟩;exact q.elim (fun q=>pV (bz ay (bG au (if_pos q.1))) q.2) fun q=>w_eq (bz ay (bG au (if_neg (by erw[q.1];decide)))) (aD s2 q.2)
theorem Uv{ee:List Cell}(aa:aj C a st=I (.cell h.length,st1))(ar:st1.lst h.length=I aS)(ab:aj C b st1=I (.v v,⟨lo,h++ .lst xs::ee,t,bs⟩))(hf:fit xs.length=true):aj C (.append a b) st=I (.v .bB,⟨lo,h++ .lst (xs++[v])::ee,t,bs⟩):=by erw[A2 aa ar ab (gV (eY 0)) hf];have e:(h++ .lst xs::ee).set h.length (.lst (xs++[v]))=h++ .lst (xs++[v])::ee:=nj 0 _;erw[e]
theorem rl:gb C .nil [] st=I st:=rfl
theorem Uw{ts:dI}(av:gb C ts l ⟨lo.set n (I x),h,t,bs⟩=I st2):gb C (.cons (.loc n) ts) (x::l) ⟨lo,h,t,bs⟩=I st2:=bz rfl (bz rfl av)
theorem fD{k:Nat}:hM (.one k) v ⟨lo,h,t,bs⟩=I ⟨lo.set k (I (.v v)),h,t,bs⟩:=rfl
theorem tG{k jr:Nat}:hM (.many [k,jr]) (.tup [v,u]) ⟨lo,h,t,bs⟩=I ⟨(lo.set k (I (.v v))).set jr (I (.v u)),h,t,bs⟩:=rfl
theorem Ux{k jr Ij:Nat}:hM (.many [k,jr,Ij]) (.tup [v,u,w]) ⟨lo,h,t,bs⟩=I ⟨((lo.set k (I (.v v))).set jr (I (.v u))).set Ij (I (.v w)),h,t,bs⟩:=rfl
theorem A9{ts:dI}{c:Nat}{fs:List (Nat×X)}(ab:aj C b st=I (.cell m,⟨lo,h,t,bs⟩))(hm:h[m]? =I (.inst c fs))(aO:(iR c n&&((valOf x).isSome||decide (bs≤m)))=true)(av:gb C ts l ⟨lo,h.set m (.inst c (fS n x fs)),t,bs⟩=I st2):gb C (.cons (.attr b n) ts) (x::l) st=I st2:=bz rfl (bz ((H9 ..).trans (bG ab (bz rfl (bz (bz hm rfl) (if_pos aO))))) av)
theorem A'{ts:dI}{cl cl':Cell}(ab:aj C b st=I (.cell m,st1))(aq:aj C c st1=I (.v v,⟨lo,h,t,bs⟩))(hm:h[m]? =I cl)(aO:pk (U (bs≤m)) cl v x=I cl')(av:gb C ts l ⟨lo,h.set m cl',t,bs⟩=I st2):gb C (.cons (.item b c) ts) (x::l) st=I st2:=bz rfl (bz ((H' ..).trans (bG ab (bG aq (bz rfl (bz rfl (bz hm (eo aO rfl))))))) av)
def tH(f:Nat):Option (Nat×Nat×List V×Bool):=(bl f).map fun g=>(g.np,g.ns,g.dflt,g.rc)
def Out(rc:Bool)(h:List Cell)(o:X×List Cell×Nat)(r:R)(st:St):Prop:=l3 h.length h.length st=true∧sm rc h.length (k6 r) st=I o
theorem Uy{n np ns:Nat}{df:List V}{rc:Bool}{o:X×List Cell×Nat}{B:bD}(hm:tH f=I (np,ns,df,rc))(ae:body f=B)(ar:U (l.length≤np∧np≤l.length+df.length)=true)(rm:qK ⟨np,ns,df,rc,.nil⟩ l=lo)(run:Wp (Out rc h o) (bI (bu bl n) B ⟨lo,h,t,h.length⟩)):bu bl (n+1) f l h t h.length=I o:=by
 subst ae rm;unfold tH at hm;unfold body at run;cases fV:bl f with
 |none=>replace hm:=fV▸hm;injections hm
 |some F=>
  rw[fV]at hm run
  injections hm
  obtain⟨r,st,e,eu,gc⟩:=run;exact bz fV ((if_pos (of_decide_eq_true ar)).trans (bG e ((if_pos eu).trans gc)))
theorem tI{e:List Cell}:l3 h.length h.length ⟨lo,h++e,t,h.length⟩=true:=by unfold l3;simp only[decide_true,lT,Bool.true_or,LR,b4,decide_eq_true_eq];exact f6 ..
theorem Ik:l3 h.length h.length ⟨lo,h,t,h.length⟩=true:=by
 have:=tI (lo:=lo) (h:=h) (t:=t) (e:=[])
 rwa [ei]at this
theorem dN{rc:Bool}(aJ:v=u):Out rc h (.v u,h,t) (.ret (.v v)) ⟨lo,h,t,h.length⟩:=by subst aJ;exact⟨Ik,by show I (X.v v,h.take h.length,t)=_;erw[o8]⟩
theorem Uz{rc:Bool}(ar:h'.length=h.length):Out rc h (.v .bB,h',t) .next ⟨lo,h',t,h.length⟩:=by
 refine⟨?_,?_⟩
 ·unfold l3;erw[ar];simp only[decide_true,lT,Bool.true_or,bE]
 ·show I (X.v V.bB,h'.take h.length,t)=_;erw[←ar,o8]
theorem UA{rc:Bool}:Out rc h (.v .bB,h,t) .next ⟨lo,h,t,h.length⟩:=⟨Ik,by show I (X.v V.bB,h.take h.length,t)=_;erw[o8]⟩
theorem nk{rc:Bool}{e:List Cell}(aJ:v=u):Out rc h (.v u,h,t) (.ret (.v v)) ⟨lo,h++e,t,h.length⟩:=by subst aJ;exact⟨tI,by show I (X.v v,(h++e).take h.length,t)=_;erw[r0]⟩
theorem wD{e:List Cell}(k:Nat)(he:e[k]? =I (.lst xs))(aJ:xs=aS):Out false h (.v (.lst aS),h,t) (.ret (.cell (h.length+k))) ⟨lo,h++e,t,h.length⟩:=by subst aJ;refine⟨tI,?_⟩;show(if h.length≤h.length+k then _ else J)=_;erw[if_pos (f6 ..),eY,he];show I (X.v (V.lst xs),(h++e).take h.length,t)=_;erw[r0]
theorem UB{c:Nat}{fs:List (Nat×X)}(aa:aj C a st=I (x,⟨lo,h++[.inst c fs],t,bs⟩))(ab:aj C b ⟨lo,h++[.inst c fs],t,bs⟩=I (.cell h.length,⟨lo,h++[.inst c fs],t,bs⟩))(aO:(iR c n&&((valOf x).isSome||decide (bs≤h.length)))=true)(av:Wp Q (bI C ss ⟨lo,h++[.inst c (fS n x fs)],t,bs⟩)):Wp Q (bI C (.cons (.assign (.attr b n) a) ss) st):=A5 aa ab (eY 0) aO (by have e:(h++[Cell.inst c fs]).set h.length (.inst c (fS n x fs))=h++[.inst c (fS n x fs)]:=nj 0 _;erw[e];exact av)
def UC(c:Nat)(h:List Cell)(fs:List (Nat×X))(t:Nat)(r:R)(st:St):Prop:=k6 r= .v .bB∧∃lo,st=⟨lo,h++[.inst c fs],t,h.length⟩
theorem aa6{n c f t' np ns:Nat}{df:List V}{rc:Bool}{fs:List (Nat×X)}{B:bD}(hm:tH f=I (np,ns,df,rc))(ae:body f=B)(ar:U ((X.cell h.length::l).length≤np∧np≤(X.cell h.length::l).length+df.length)=true)(rm:qK ⟨np,ns,df,rc,.nil⟩ (.cell h.length::l)=lo)(av:uU (h.length+1) fs=true)(run:Wp (UC c h fs t') (bI (bu bl n) B ⟨lo,h++[.inst c []],t,h.length⟩)):bu bl (n+1) f (.cell h.length::l) (h++[.inst c []]) t h.length=I (.v .bB,h++[.inst c fs],t'):=by
 subst ae rm;unfold tH at hm;unfold body at run;cases fV:bl f with
 |none=>replace hm:=fV▸hm;injections hm
 |some F=>
  rw[fV]at hm run
  injections hm
  obtain⟨r,st,e,eu,lo,rfl⟩:=run;refine bz fV ((if_pos (of_decide_eq_true ar)).trans (bG e ((if_pos ?_).trans ?_)))
  ·unfold l3;simp only[decide_true,lT,qv,rV,b4,gA,CV,bE,nO];exact .inr (by erw[show(h++[Cell.inst c fs])[h.length]? =_ from eY 0];exact av)
  ·erw[eu];show I (X.v V.bB,(h++[Cell.inst c fs]).take (h++[Cell.inst c []]).length,t')=_;erw[show(h++[Cell.inst c []]).length=(h++[Cell.inst c fs]).length by erw[b4,b4];rfl,o8]
end
end Tactic.L
end
section
open PySem PySem.W
set_option maxRecDepth 100000
namespace Tactic.L
local macro_rules | `(tactic| repeat1' $t:tacticSeq) => pure (Tactic.evm "a9/ aP/f cW/ di/ bH/RR bA/RR ng/RR oC/RR oD/RRF Ia/RRD wk/RRD wm/R wo/R ly/RR Ib/RIR tB/RF rg/RR Ic/RIR T7/RF tC/R wt/R mq/RR T8/RR wq/RR AX/RR pT/RR rh/RR T9/RRR T'/RRR Ua/RRR A0/RRR Ub/RRR AZ/RIRIR Ie/RIRIR hg/Rf tD/RTf hi/RRF gy/RRTF eX/RF hW/RF fY/RF lz/Rtff Ur/RF nh/RF wu/RffF wx/ Uv/RaRt Us/RbRt Ue/RfRt fo/Rt hV/RRF j2/RRffF" t t)
local macro_rules | `(tactic| iterate $t:tacticSeq) => pure (Tactic.evm "dT/RS A7/fRS oE/RS hX/R UB/RRFS A5/RRTfS A6/RRRTFS Uu/RRtRTS Ih/RRtRTTS hk/RSS wB/RUS Uw/S rl/ ih/RddX Up/ gh/ Uq/S" t (Tactic.sq []))
local macro_rules | `(tactic| symm_saturate) => pure (Tactic.rp "a n0 n0 a a a 1TConv.lhs a a 1TConv.reduce a a a a n0 1ToptConfig n0 a n1 a n0 n0 @Int.reduceOfNat 3TsimpLemma a n0 n0 @Int.reduceNegSucc 3TsimpLemma n3 a n3 5TConv.simp n1 1TConv.convSeq1Indented 1TConv.convSeq 2TConv.convTry_ n1 1TConv.convSeq1Indented 1TConv.convSeq a 3TConv.paren n5 1TConv.convSeq1Indented 1TConv.convSeq a 3TConv.paren n1 1TConv.convSeq1Indented 1TConv.convSeq 5TConv.conv" [])
local macro_rules | `(tactic| bv_omega) => pure (Tactic.rp "a n0 1ToptConfig n0 a n1 a n0 n0 @qK 3TsimpLemma a n0 n0 @gA 3TsimpLemma a n0 n0 @CV 3TsimpLemma a n0 n0 @List.drop 3TsimpLemma a n0 n0 @List.map 3TsimpLemma a n0 n0 @app 3TsimpLemma a n0 n0 @List.append 3TsimpLemma a n0 n0 @xK 3TsimpLemma a n0 n0 @xO 3TsimpLemma a n0 n0 @nR 3TsimpLemma a n0 n0 @Nat.reduceSub 3TsimpLemma a n0 n0 @Nat.reduceAdd 3TsimpLemma nG a n3 n0 6Tdsimp" [])
local macro_rules | `(tactic| ac_rfl) => pure (Tactic.rp "a a @Uy a a 1TsymmSaturate s1 2MbyTactic a a 1TsymmSaturate s1 2MbyTactic @rfl a a 1TtacticBv_omega s1 2MbyTactic a a 2MsyntheticHole n5 2Mapp 2Trefine s1 a 3Tparen" [])
local macro_rules | `(tactic| and_intros) => pure (Tactic.rp "a a @aa6 a a 1TsymmSaturate s1 2MbyTactic a a 1TsymmSaturate s1 2MbyTactic @rfl a a 1TtacticBv_omega s1 2MbyTactic a a 2MsyntheticHole a a 2MsyntheticHole n6 2Mapp 2Trefine a a a @rfl 2Texact s1 2TtacticTry_ s3 a 3Tparen" [])
section
variable{n t:Nat}{h:List Cell}{i j k:Int}
theorem j3{a:Int}(h: -4611686018427387904<a)(ab:a<4611686018427387904):small a=true:=by unfold small;exact cI.mpr ⟨decide_eq_true h,decide_eq_true ab⟩
theorem oF:bu bl (n+1) 0 [.v (.int i),.v (.int j),.v (.int k)] h t h.length=I (.v (.bool (U (j≤i)&&U (i≤k))),h,t):=by
 ac_rfl
 iterate fail
 exact dN rfl
theorem Il:bu bl (n+1) 1 [.v (.int i)] h t h.length=I (.v (.int i),h,t):=by
 ac_rfl
 iterate fail
 exact dN rfl
theorem wF(aa: -2147483647≤i)(ab:i≤2147483647):bu bl (n+2) 2 [.v (.int i)] h t h.length=I (.v (.int i),h,t):=by
 ac_rfl
 iterate (exact Il)
 ·intro h;rw[decide_eq_true aa,decide_eq_true ab]at h;injections h
 intro _
 iterate fail
 exact dN rfl
theorem UD(aa: -1073741823≤i)(ab:i≤1073741823):bu bl (n+2) 3 [.v (.int i)] h t h.length=I (.v (.int i),h,t):=by
 ac_rfl
 iterate (exact Il)
 ·intro h;rw[decide_eq_true aa,decide_eq_true ab]at h;injections h
 intro _
 iterate fail
 exact dN rfl
noncomputable def eJ(e t:Int):Int:=bif U (e=0)then 0 else bif U (t≤0)then 10000 else bif U ((e*297).fdiv t>1290)then 10000 else((e*297).fdiv t*(e*297).fdiv t*(e*297).fdiv t+131072).fdiv 262144
theorem Im{e w:Int}(he:0≤e)(aa7:e≤7230584)(hw:w<1000000000):bu bl (n+1) 4 [.v (.int e),.v (.int w)] h t h.length=I (.v (.int (eJ e w)),h,t):=by
 ac_rfl
 iterate fail
 ·intro aa;have:=of_decide_eq_true aa;exact absurd ‹_› (ez.mpr ‹_›)
 intro _
 iterate fail
 ·intro aa
  iterate fail
  refine dN ?_;simp only[eJ,aa,cond_true]
 intro aa
 iterate fail
 ·intro ab
  iterate fail
  refine dN ?_;simp only[eJ,aa,ab,cond_true,cond_false]
 intro ab;have Io:=of_decide_eq_false ab;have a5:=j3 (L9 ‹_› rfl) (d3 ‹_› rfl);have kI:0≤(e*297).fdiv w:=by erw[r1 _ (by lia)];exact CW (by lia) (by lia)
 iterate fail
 ·intro aq
  iterate (first|(erw[qv];exact .inr rfl)|(erw[a5];lia))
  ·intro ba
   iterate fail
   refine dN ?_;simp only[eJ,aa,ab,ba,cond_true,cond_false]
  ·intro ba;have eu:=of_decide_eq_false ba;have aL:=j3 (d0 ‹_› rfl) (C7 ‹_› rfl)
   iterate (erw[qv];exact .inr aL)
   refine dN ?_;simp only[eJ,aa,ab,ba,cond_true,cond_false]
 ·intro aq;have:=of_decide_eq_false aq;lia
end
section
variable{n t:Nat}{h:List Cell}
structure bb where
 (w s o k:Int)
noncomputable def bb.fs(g:bb):List (Nat×V):=[(1,.int g.w),(2,.int g.s),(3,.int g.o),(4,.int g.k),(5,.int 0)]
noncomputable def iG(g:bb):V:=.obj J 0 g.fs
noncomputable def lA(l:List (Nat×V)):List (Nat×X):=l.map fun p=>(p.1,.v p.2)
def i6(i:Int):Prop:= -1073741823≤i∧i≤1073741823
theorem kJ{i:Int}(aw:i6 i):bu bl (n+2) 3 [.v (.int i)] h t h.length=I (.v (.int i),h,t):=UD aw.1 aw.2
theorem wG:i6 0:=⟨by decide,by decide⟩
theorem UE{w s o k:Int}(hw:i6 w)(aL:i6 s)(aO:0≤o∧o≤3)(ai:i6 k)(bw:s=0→o=0):
  bu bl (n+3) (gC 0) [.cell h.length,.v (.int w),.v (.int s),.v (.int o),.v (.int k),.v (.int 0)] (h++[.inst 0 []]) t h.length=I (.v .bB,h++[.inst 0 (lA (bb.fs ⟨w,s,o,k⟩))],t):=by
 and_intros
 iterate (exact oF)
 ·intro aa;rw[decide_eq_true aO.1,decide_eq_true aO.2]at aa;injections aa
 intro _
 iterate (first|exact kJ hw|exact kJ aL|exact kJ ai)
 have ay:(bif !U (k=0)then(0:Int)else 0)=0:=by cases U (k=0)<;>rfl
 have au:(bif !U (s=0)then o else 0)=o:=by
  refine bZ (fun e:s=0=>?_) (fun e=>?_)
  ·erw[bw e];cases U (s=0)<;>rfl
  ·erw[decide_eq_false e];rfl
 exact⟨rfl,_,by erw[ay,au];rfl⟩
theorem Ip:bu bl (n+3) (gC 0) [.cell h.length] (h++[.inst 0 []]) t h.length=I (.v .bB,h++[.inst 0 (lA (bb.fs ⟨0,0,0,0⟩))],t):=by
 and_intros
 iterate (first|with_reducible exact oF|exact kJ wG)
 exact⟨rfl,_,rfl⟩
theorem aa8{i j k:Int}{fs:Cell}:bu bl (n+1) 0 [.v (.int i),.v (.int j),.v (.int k)] (h++[fs]) t (h++[fs]).length=I (.v (.bool (U (j≤i)&&U (i≤k))),h++[fs],t):=oF
noncomputable def Ba(w:Int):List (Nat×V):=[(6,.int 2),(1,.int w),(7,.int 0),(8,.int 0),(9,.lst []),(10,.int 0),(11,.int 0),(12,.int 0),(13,.tup [.int 0,.int 1])]
theorem UG{w:Int}(hw:i6 w):bu bl (n+3) (gC 1) [.cell h.length,.v (.int 2),.v (.int w),.v (.int 0),.v (.int 0),.v (.lst [])] (h++[.inst 1 []]) t h.length=I (.v .bB,h++[.inst 1 (lA (Ba w))],t):=by
 and_intros
 iterate (first|with_reducible exact oF|exact kJ hw|exact kJ wG)
 exact⟨rfl,_,rfl⟩
noncomputable def Iq(w s:Int):List (Nat×V):=[(1,.int w),(14,.int s)]
theorem UH{w s:Int}(hw:i6 w)(aL:0≤s∧s≤3):bu bl (n+3) (gC 2) [.cell h.length,.v (.int w),.v (.int s)] (h++[.inst 2 []]) t h.length=I (.v .bB,h++[.inst 2 (lA (Iq w s))],t):=by
 and_intros
 iterate (exact oF)
 ·intro aa;rw[decide_eq_true aL.1,decide_eq_true aL.2]at aa;injections aa
 intro _
 iterate (exact kJ hw)
 exact⟨rfl,_,rfl⟩
noncomputable def Ir(g:bb):List (Nat×V):=[(15,iG g),(14,.int 0),(16,.bB)]
theorem UI{g:bb}:bu bl (n+2) (gC 3) [.cell h.length,.v (iG g),.v (.int 0)] (h++[.inst 3 []]) t h.length=I (.v .bB,h++[.inst 3 (lA (Ir g))],t):=by
 and_intros
 iterate (with_reducible exact oF)
 exact⟨rfl,_,rfl⟩
noncomputable def It(v:Int):List (Nat×V):=[(17,.int v)]
theorem UJ{v:Int}(aJ: -2147483647≤v∧v≤2147483647):bu bl (n+3) (gC 4) [.cell h.length,.v (.int v)] (h++[.inst 4 []]) t h.length=I (.v .bB,h++[.inst 4 (lA (It v))],t):=by
 and_intros
 iterate (exact wF aJ.1 aJ.2)
 exact⟨rfl,_,rfl⟩
theorem UK:bu bl (n+3) (gC 6) [.cell h.length,.v (.lst [])] (h++[.inst 6 []]) t h.length=I (.v .bB,h++[.inst 6 (lA [(21,.tup [])])],t):=by
 and_intros
 iterate fail
 exact⟨rfl,_,rfl⟩
noncomputable def fv(p:Nat×Int):V:=.obj (I p.1) 1 (Ba p.2)
theorem UL{C:Calls}{Q:R→St→Prop}{a x y z:Option X}:∀(l:List (Nat×Int)) (u:Option X),(∀u,Q .next ⟨[a,u,x,y,z],h,t,h.length⟩)→Wp Q (forL (.one 1) (bI C (.cons (.ite (.cmp (.attr (.loc 1) 6) .gt (.const (.int 5))) (.cons .raise .nil) .nil) .nil)) (l.map fv) ⟨[a,u,x,y,z],h,t,h.length⟩):=by
 intro aT
 induction aT with
 |nil=>intro u aE;exact pW (aE u)
 |cons p l aD=>
  intro u aE;refine pX rfl ?_
  iterate fail
  exact⟨rfl,aD _ aE⟩
theorem Bb{l:List (Nat×Int)}(hf:fit (l.map fv).length=true):bu bl (n+1) 6 [.v (.lst (l.map fv))] h t h.length=I (.v (.lst (l.map fv)),h,t):=by
 ac_rfl
 refine gW (hj (by repeat1' fail) rfl hf) ?_;refine UL l _ fun u=>?_;show Wp _ _
 iterate fail
 exact dN rfl
noncomputable abbrev i7:=List (Nat×Int)
noncomputable def Iu(a b m:i7):List (Nat×V):=[(18,.lst (a.map fv)),(19,.lst (b.map fv)),(20,.lst (m.map fv))]
theorem UM{a b m:i7}(aB:fit (a.map fv).length=true)(ae:fit (b.map fv).length=true)(hm:fit (m.map fv).length=true):bu bl (n+2) (gC 5) [.cell h.length,.v (.lst (a.map fv)),.v (.lst (b.map fv)),.v (.lst (m.map fv))] (h++[.inst 5 []]) t h.length=I (.v .bB,h++[.inst 5 (lA (Iu a b m))],t):=by
 and_intros
 iterate (first|exact Bb aB|exact Bb ae|exact Bb hm)
 exact⟨rfl,_,rfl⟩
end
section
variable{n t:Nat}{h:List Cell}
inductive aI where
 |box (t:Nat) (w:Int)|gX (t:Nat) (w s:Int)|skip (t:Nat) (g:bb)|b9 (t:Nat) (v:Int)|cf (t:Nat) (a b m:i7)|mark (t:Nat)
noncomputable def aI.ctorIdx(x:aI):Nat:=aI.casesOn x (fun ag ag=>0) (fun ag ag ag=>1) (fun ag ag=>2) (fun ag ag=>3) (fun ag ag ag ag=>4) (fun ag=>5)
noncomputable def enc:aI→V
 | .box t w=>.obj (I t) 1 (Ba w)
 | .gX t w s=>.obj (I t) 2 (Iq w s)
 | .skip t g=>.obj (I t) 3 (Ir g)
 | .b9 t v=>.obj (I t) 4 (It v)
 | .cf t a b m=>.obj (I t) 5 (Iu a b m)
 | .mark t=>.obj (I t) 6 [(21,.tup [])]
noncomputable def fp:aI→Bool
 | .gX _ _ s=>decide (s=1)
 | .skip .. =>true
 | .b9 .. =>true
 |_=>false
theorem i8{it:aI}:bu bl (n+1) 21 [.v (enc it)] h t h.length=I (.v (.bool (fp it)),h,t):=by
 cases it
 all_goals ac_rfl
 all_goals iterate fail
 all_goals exact dN rfl
noncomputable def Bc:aI→Int
 | .box _ w=>w
 | .gX _ w _=>w
 | .skip _ g=>g.w
 |_=>0
noncomputable def lB:aI→Bool
 | .cf .. =>true
 |_=>false
theorem Iv{it:aI}(hd:lB it=false):bu bl (n+1) 13 [.v (enc it)] h t h.length=I (.v (.int (Bc it)),h,t):=by
 cases it<;>first|cases hd|skip
 all_goals ac_rfl
 all_goals iterate fail
 all_goals exact dN rfl
theorem UN{C:Calls}{Q:R→St→Prop}{a x y z:Option X}{bs:Nat}(ll:∀p:Nat×Int,C 13 [.v (fv p)] h t h.length=I (.v (.int p.2),h,t)):∀(l:i7) (i:Int) (u:Option X),(∀u,Q .next ⟨[a,I (.v (.int (i+(l.map (·.2)).sum))),u,x,y,z],h,t,bs⟩)→Wp Q (forL (.one 2) (bI C (.cons (.aug 1 (.call 13 (.cons (.loc 2) .nil))) .nil)) (l.map fv) ⟨[a,I (.v (.int i)),u,x,y,z],h,t,bs⟩):=by
 intro aT
 induction aT with
 |nil=>intro i u aE;exact pW (by have:=aE u;rwa [xT,List.sum_nil,eP]at this)
 |cons p l aD=>
  intro i u aE;refine pX rfl ?_
  iterate (exact ll p)
  refine⟨rfl,aD (i+p.2) _ fun u=>?_⟩;have:=aE u
  rwa [g0,xN,←qx]at this
noncomputable def dU(l:i7):Int:=(l.map (·.2)).sum
theorem Bd{l:i7}(hf:fit (l.map fv).length=true):bu bl (n+2) 25 [.v (.lst (l.map fv))] h t h.length=I (.v (.int (dU l)),h,t):=by
 ac_rfl
 iterate fail
 refine gW (hj (by repeat1' fail) rfl hf) ?_;refine UN (fun p=>Iv (it:=.box p.1 p.2) rfl) l 0 _ fun u=>?_;show Wp _ _
 iterate fail
 exact dN (by rw[km];rfl)
noncomputable def Iw(z:Int):List (Nat×V):=[(1,.int z),(24,.int 0),(25,.int z),(26,.int 1),(27,.tup []),(28,.int 0)]
def pY(z:Int):V:=.obj J 7 (Iw z)
theorem UO{z:Int}(bw:i6 z):bu bl (n+3) (gC 7) [.cell h.length,.v (.int z)] (h++[.inst 7 []]) t h.length=I (.v .bB,h++[.inst 7 (lA (Iw z))],t):=by
 and_intros
 have UP:i6 (z-((0:Int).natAbs:Int)):=by rwa [show z-((0:Int).natAbs:Int)=z from rS z]
 iterate (first|with_reducible exact kJ bw|with_reducible exact kJ wG|with_reducible exact kJ UP|with_reducible exact wF (by decide) (by decide)|((with_reducible apply ri);(with_reducible apply hj);(repeat1' fail);exact rfl;exact rfl;exact rfl)|with_reducible exact oF)
 exact⟨rfl,_,by erw[Int.natAbs_zero,show z-((0:Nat):Int)=z from rS z];rfl⟩
theorem UQ{z:Int}:bu bl (n+1) 15 [.v (pY z)] h t h.length=I (.v (.int 0),h,t):=by
 ac_rfl
 iterate fail
 exact dN rfl
theorem UR{z i:Int}(aa:1≤i)(ab:i≤4294967294):bu bl (n+2) 16 [.v (pY z),.v (.int i)] h t h.length=I (.v (.tup [.int 0,.int z]),h,t):=by
 ac_rfl
 iterate (exact oF)
 ·intro aq;rw[decide_eq_true aa,decide_eq_true (show i≤2*2147483647 from ab)]at aq;injections aq
 intro _
 iterate fail
 exact dN rfl
structure cj where
 (cT hp dV cu loose:Int)
 (ls rs:bb)
noncomputable def cj.fs(S:cj):List (Nat×X):=[(29,.v (.int 0)),(30,.v (.int 10000)),(31,.v (.int S.cT)),(32,.v (.int S.hp)),(33,.v (.int S.hp)),(34,.v (.int S.cu)),(35,.v (.int S.dV)),(36,.v (.int 0)),(37,.v (.int S.loose)),(38,.v (.int 0)),(39,.v (iG S.ls)),(40,.v (iG S.rs))]
noncomputable def cj.cell(S:cj):Cell:=.inst 8 S.fs
noncomputable def wH:cj:=⟨0,0,0,0,0,⟨0,0,0,0⟩,⟨0,0,0,0⟩⟩
theorem Iy:bu bl (n+4) (gC 8) [.cell h.length] (h++[.inst 8 []]) t h.length=I (.v .bB,h++[.inst 8 wH.fs],t):=by
 and_intros
 iterate (with_reducible exact Ip)
 exact⟨rfl,_,rfl⟩
def Num(i:Int):Prop:= -2147483647≤i∧i≤2147483647
theorem US{C:Calls}{Q:R→St→Prop}{a x y z:Option X}{bs:Nat}(ll:∀{i:Int},Num i→C 2 [.v (.int i)] h t h.length=I (.v (.int i),h,t)):∀(l:List Int) (u:Option X),(∀i,i∈l→Num i)→(∀u,Q .next ⟨[a,u,x,y,z],h,t,bs⟩)→Wp Q (forL (.one 1) (bI C (.cons (.expr (.call 2 (.cons (.loc 1) .nil))) .nil)) (l.map .int) ⟨[a,u,x,y,z],h,t,bs⟩):=by
 intro aT
 induction aT with
 |nil=>intro u _ aE;exact pW (aE u)
 |cons i l aD=>
  intro u ar aE;refine pX rfl ?_
  iterate (exact ll (ar i (.head _)))
  exact⟨rfl,aD _ (fun j a'=>ar j (.tail _ a')) aE⟩
structure Be(S:cj):Prop where
 cT:Num S.cT
 hp:Num S.hp
 dV:Num S.dV
 cu:Num S.cu
 loose:Num S.loose
theorem UT{S:cj}{s:Nat}(fM:Be S)(aL:h[s]? =I S.cell):bu bl (n+3) 20 [.cell s] h t h.length=I (.v .bB,h,t):=by
 ac_rfl
 refine gW (hj (by repeat1' (exact aL)) rfl rfl) ?_;refine US (fun aw=>wF aw.1 aw.2) [0,10000,S.cT,S.hp,S.hp,S.cu,S.dV,0,S.loose] _ ?_ fun u=>?_
 ·have h0:Num 0:=⟨by decide,by decide⟩
  simp only[LH,kX,false_implies,implies_true,and_true];exact⟨h0,⟨by decide,by decide⟩,fM.cT,fM.hp,fM.hp,fM.cu,fM.dV,h0,fM.loose⟩
 ·show Wp _ _
  iterate (first|with_reducible exact kJ wG|exact aL)
  exact UA
def lC(s:Nat)(z most:Int)(g:V)(last:Bool)(apart:Int):List (Nat×X):=[(46,.cell s),(47,.v (pY z)),(48,.v (.int most)),(49,.v g),(50,.v (.bool last)),(51,.v (.int apart))]
noncomputable def jB(S:cj):Int:=bif U (S.loose=0)then 0 else 4294967294
theorem UU{S:cj}{s:Nat}{z most:Int}{g:V}{last:Bool}(aL:h[s]? =I S.cell):bu bl (n+3) (gC 10) [.cell h.length,.cell s,.v (pY z),.v (.int most),.v g,.v (.bool last)] (h++[.inst 10 []]) t h.length=I (.v .bB,h++[.inst 10 (lC s z most g last (jB S))],t):=by
 and_intros
 ·show(U (s<h.length+1)&&true)=true;erw[decide_eq_true (lN (d7.mp aL).1)];rfl
 iterate (first|with_reducible exact UQ|exact e7 aL|(erw[decide_eq_true (bE _)];rfl))
 exact⟨rfl,_,rfl⟩
end
section
variable{n t:Nat}{h:List Cell}
theorem Iz{s b:V}{l f d:Int}:bu bl (n+1) (gC 9) [.cell h.length,.v s,.v (.int l),.v (.int f),.v (.int d),.v b] (h++[.inst 9 []]) t h.length=I (.v .bB,h++[.inst 9 (lA [(41,s),(42,.int l),(43,.int f),(44,.int d),(45,b)])],t):=by
 and_intros
 iterate fail
 exact⟨rfl,_,rfl⟩
theorem dO{n:Nat}(h:n≤100000):fit n=true:=decide_eq_true h
theorem fZ{α β:Type}{l:List α}{f:α→β}{k:Nat}(h:l.length≤k)(ai:k≤100000):fit (l.map f).length=true:=dO ((bF f).symm▸bR h ai)
theorem item_at{vs:List V}{w:V}{k:Nat}{j:Int}(aK:vs[k]? =I w)(a':j=(k:Int))(ai:k≤100000):gL (.lst vs) (.int j)=I w:=by subst a';refine bz rfl (bz rfl (bz (a:=k) ?_ aK));have:=(d7.mp aK).1;exact(if_pos ⟨nM _,nN.mpr this,nL.mpr ai⟩)
noncomputable def gF(p:Int):Int:=if-10000>p then-10000 else p
noncomputable def one{α:Type}(b:Bool)(x:α):List α:=bif b then[x]else[]
noncomputable def brk(hp:Int)(bh:Bool)(i:Nat):aI→List (Nat×Int×Int)
 | .skip .. =>one bh (i,0,0)
 | .b9 _ v=>one (U (v<10000)) (i,gF v,0)
 | .cf .. =>one (U (hp<10000)) (i,gF hp,1)
 |_=>[]
noncomputable def eK(hp:Int):Nat→Bool→List aI→List (Nat×Int×Int)
 |_,_,[]=>[]
 |i,bh,it::r=>brk hp bh i it++eK hp (i+1) (!fp it) r
theorem Bf{hp:Int}{i:Nat}{bh:Bool}{it:aI}{r:List aI}:eK hp i bh (it::r)=brk hp bh i it++eK hp (i+1) (!fp it) r:=rfl
def b6(hp:Int)(af:List aI):List (Nat×Int×Int):=eK hp 0 false af++[(af.length,-10000,1)]
noncomputable def oG(p:Nat×Int×Int):V:=.tup [.int p.1,.int p.2.1,.int p.2.2]
noncomputable def hF:List aI→Prop
 |[]=>True
 | .gX .. ::r=>(∃t w q,r= .box t w::q)∧hF r
 |_::r=>hF r
theorem wI{α:Type}{b:Bool}{x:α}:(one b x).length≤1:=by cases b<;>exact iN rfl
theorem IA{hp:Int}{bh:Bool}{i:Nat}{it:aI}:(brk hp bh i it).length≤1:=by cases it<;>first|exact fx _|exact wI
theorem j4{st:St}{xs:List V}(hf:fit xs.length=true):hO .len st [.v (.lst xs)]=I (.v (.int xs.length),st):=bz rfl (eo (bz rfl (bz rfl (if_pos hf))) rfl)
theorem ne_nil{st:St}{xs:List V}:st.cmp .ne (.v (.lst xs)) (.v (.lst []))=I (!xs.isEmpty):=by cases xs<;>rfl
inductive j5(af:List aI)(hp:Int)(s:Nat)(h:List Cell)(t:Nat)(c6:List V)(st:St):Prop where
 |mk (pre r:List aI) (acc:List (Nat×Int×Int)) (bh:Bool) (x5 x6 x7 cX cY:Option X) (ay:af=pre++r) (au:c6=pairs pre.length (r.map enc)) (bo:acc++eK hp pre.length bh r=eK hp 0 false af) (cg:hF r) (dC:acc.length≤pre.length)
  (gG:st=⟨[I (.v (.lst (af.map enc))),I (.cell s),I (.cell h.length),I (.v (.bool true)),I (.v (.bool bh)),x5,x6,x7,cX,cY,J,J,J],h++[.lst (acc.map oG)],t,h.length⟩)
theorem j5.next{af:List aI}{hp:Int}{s:Nat}{pre r:List aI}{it:aI}{acc:List (Nat×Int×Int)}{bh:Bool}{x5 x6 x7 cX cY:Option X}{l:List V}(ay:af=pre++it::r)(bo:acc++eK hp pre.length bh (it::r)=eK hp 0 false af)(cg:hF r)(dC:acc.length≤pre.length)(a:List (Nat×Int×Int))(ae:brk hp bh pre.length it=a)(ar:acc.map oG++a.map oG=l):
  j5 af hp s h t (pairs (pre.length+1) (r.map enc)) ⟨[I (.v (.lst (af.map enc))),I (.cell s),I (.cell h.length),I (.v (.bool true)),I (.v (.bool (!fp it))),x5,x6,x7,cX,cY,J,J,J],h++[.lst l],t,h.length⟩:=by
 have hlen:(pre++[it]).length=pre.length+1:=by erw[b4];rfl
 refine⟨pre++[it],r,acc++a,!fp it,x5,x6,x7,cX,cY,by erw[ay,eR];rfl,by erw[hlen],?_,cg,?_,by erw[←ar,fy]⟩
 ·erw[hlen,←bo,eR];subst ae
  rfl
 ·have:=IA (hp:=hp) (bh:=bh) (i:=pre.length) (it:=it);rw[ae]at this;erw[hlen,b4];exact nK dC this
theorem IB{α:Type}{af pre r:List α}{it:α}(e:af=pre++it::r):pre.length<af.length:=by erw[e,b4];exact qw (jh _)
theorem UW{α:Type}{af pre r:List α}(e:af=pre++r):pre.length≤af.length:=by erw[e,b4];exact f6 ..
theorem IC{α β:Type}{f:α→β}{acc:List α}{n m:Nat}(h:acc.length≤n)(aa:n≤m)(ab:m≤1000):fit (acc.map f).length=true:=dO (by rw[bF];exact bR h (bR aa (bR ab (by decide))))
theorem UX{af:List aI}{S:cj}{s:Nat}(aL:h[s]? =I S.cell)(aA:af.length≤1000)(ai:hF af):bu bl (n+2) 22 [.v (.lst (af.map enc)),.cell s] h t h.length=I (.v (.lst ((b6 S.hp af).map oG)),h,t):=by
 have ar:(af.map enc).length=af.length:=bF ..;have kK:fit (af.map enc).length=true:=dO (x1 ‹_› ‹_› rfl)
 ac_rfl
 iterate fail
 refine gW (A3 (by repeat1' fail) kK) ?_;refine i5 (j5 af S.hp s h t) ?_ ?_ _ _ ⟨[],af,[],false,J,J,J,J,J,rfl,rfl,rfl,ai,bE _,rfl⟩
 ·rintro v vs st ⟨pre,r,acc,bh,x5,x6,x7,cX,cY,ay,au,bo,cg,dC,rfl⟩
  induction r using bY with
  |nil=>injections au
  |cons it r=>
  obtain⟨rfl,rfl⟩:=List.cons.inj au;refine fun Q cR el=>⟨_,tG,?_⟩;have hf:fit (acc.map oG).length=true:=IC dC (da (IB ay)) aA;cases it with
  |box aF w=>
   iterate (with_reducible exact i8)
   exact cR _ _ rfl (j5.next ay bo cg dC [] rfl (ei _))
  |mark aF=>
   iterate (with_reducible exact i8)
   exact cR _ _ rfl (j5.next ay bo cg dC [] rfl (ei _))
  |skip aF g=>
   iterate (with_reducible exact i8)
   ·intro aa;have aa:bh=true:=aa
    iterate (first|with_reducible exact i8|exact hf)
    exact cR _ _ rfl (j5.next ay bo cg dC [(pre.length,0,0)] (by erw[aa];rfl) rfl)
   ·intro aa;have aa:bh=false:=aa
    iterate (with_reducible exact i8)
    exact cR _ _ rfl (j5.next ay bo cg dC [] (by erw[aa];rfl) (ei _))
  |b9 aF v=>
   iterate (with_reducible exact i8)
   ·intro aa
    iterate (first|with_reducible exact i8|exact hf)
    exact cR _ _ rfl (j5.next ay bo cg dC [(pre.length,gF v,0)] (by show one (U (v<10000)) _=_;erw[aa];rfl) rfl)
   ·intro aa
    iterate (with_reducible exact i8)
    exact cR _ _ rfl (j5.next ay bo cg dC [] (by show one (U (v<10000)) _=_;erw[aa];rfl) (ei _))
  |cf aF a b m=>
   iterate ((with_reducible apply jA);(repeat1' (exact ne_nil));intro _;(repeat1' (exact e7 aL));intro _;(repeat1' (exact e7 aL)))
   ·intro aa
    iterate (first|with_reducible exact i8|exact hf)
    exact cR _ _ rfl (j5.next ay bo cg dC [(pre.length,gF S.hp,1)] (by show one (U (S.hp<10000)) _=_;erw[aa];rfl) rfl)
   ·intro aa
    iterate (with_reducible exact i8)
    exact cR _ _ rfl (j5.next ay bo cg dC [] (by show one (U (S.hp<10000)) _=_;erw[aa];rfl) (ei _))
  |gX aF w aa9=>
   obtain⟨⟨o9,UY,q,rfl⟩,cg⟩:=cg
   iterate fail
   ·intro _;have aw:gL (.lst (af.map enc)) (.int ((pre.length:Int)+1))=I (enc (.box o9 UY)):=by refine item_at (k:=pre.length+1) ?_ rfl (bR (IB ay) (bR aA (by decide)));erw[ay,fy,iP (by erw[bF];exact lM _),bF,ir];rfl
    iterate (first|exact aw|exact j4 kK)
    ·intro aa;exact absurd (cI.mp (cI.mp aa).2).2 (by decide)
    intro _
    iterate (with_reducible exact i8)
    exact cR _ _ rfl (j5.next ay bo cg dC [] rfl (ei _))
   ·intro _
    iterate (with_reducible exact i8)
    exact cR _ _ rfl (j5.next ay bo cg dC [] rfl (ei _))
 ·rintro st ⟨pre,r,acc,bh,x5,x6,x7,cX,cY,ay,au,bo,cg,dC,rfl⟩
  induction r using bY with
  |cons=>injections au
  |nil=>
  show Wp _ _;have hf:fit (acc.map oG).length=true:=IC dC (UW ay) aA
  iterate (exact hf)
  iterate (first|exact j4 kK|exact hf)
  refine wD 0 rfl ?_;erw[ar];unfold b6;erw[←bo,fy];erw[ei];rfl
end
section
variable{n t:Nat}{h:List Cell}
noncomputable def ij:List aI→Nat
 |[]=>0
 |it::r=>bif fp it then ij r+1 else 0
theorem Bg{af:List aI}{it:aI}{p:Nat}(hp:af[p]? =I it)(aA:af.length≤1000):gL (.lst (af.map enc)) (.int (p:Int))=I (enc it):=by refine item_at (k:=p) (by erw[lO,hp];rfl) rfl ?_;have:=(d7.mp hp).1;exact r5 ‹_› ‹_› rfl
noncomputable def gY(af:List aI)(p:Nat):Nat:=match af[p]? with
 |some (.cf _ _ b _)=>bif b.isEmpty then p+1+ij (af.drop (p+1))else p+1
 |_=>p+ij (af.drop p)
theorem Bh{it:aI}{r:List aI}:ij (it::r)=bif fp it then ij r+1 else 0:=rfl
theorem ID:∀l:List aI,ij l≤l.length:=by
 intro aT
 induction aT with
 |nil=>exact bE _
 |cons it r aD=>erw[Bh];have:=aD;cases fp it<;>simp<;>exact‹_›
theorem Bi{C:Calls}{af:List aI}{bs:Nat}{x y z:Option X}(ll:∀it,C 21 [.v (enc it)] h t h.length=I (.v (.bool (fp it)),h,t))(aA:af.length≤1000):∀(q:List aI) (p k:Nat),af.drop p=q→p≤af.length→ij q<k→lY (fun st=>hN (aj C (.and (.cmp (.loc 1) .lt (.bi .len (.cons (.loc 0) .nil))) (.call 21 (.cons (.item (.loc 0) (.loc 1)) .nil))) st)) (bI C (.cons (.aug 1 (.const (.int 1))) .nil)) k ⟨[I (.v (.lst (af.map enc))),I (.v (.int p)),x,y,z],h,t,bs⟩=I (.next,⟨[I (.v (.lst (af.map enc))),I (.v (.int ((p+ij q:Nat):Int))),x,y,z],h,t,bs⟩):=by
 intro q
 induction q with
 |nil=>
  intro p k aE hp ai
  induction k using fe with
  |zero=>exact absurd ai (o6 _)
  |succ k=>
   have ar:af.length≤p:=aag.mp aE;have kK:fit (af.map enc).length=true:=fZ (by assumption) (by first|decide|lia)
   refine A8 (tF (p:=false) ?_)
   repeat1' (first|exact j4 kK|exact decide_eq_false (by erw[bF];exact x9 ‹_›))
 |cons it q aD=>
  intro p k aE hp ai
  induction k using fe with
  |zero=>exact absurd ai (o6 _)
  |succ k=>
   have hit:af[p]? =I it:=by erw[←List.head?_drop,aE];rfl
   have dQ:=(d7.mp hit).1;have kK:fit (af.map enc).length=true:=fZ (by assumption) (by first|decide|lia)
   have e:aj C (.and (.cmp (.loc 1) .lt (.bi .len (.cons (.loc 0) .nil))) (.call 21 (.cons (.item (.loc 0) (.loc 1)) .nil))) ⟨[I (.v (.lst (af.map enc))),I (.v (.int p)),x,y,z],h,t,bs⟩=I (.v (.bool (U ((p:Int)<(af.map enc).length)&&fp it)),⟨[I (.v (.lst (af.map enc))),I (.v (.int p)),x,y,z],h,t,bs⟩):=by
    repeat1' (first|exact j4 kK|exact ll it|exact Bg hit aA)
   rw[decide_eq_true (by erw[bF];exact mI ‹_›),lT]at e;cases hd:fp it with
   |false=>rw[hd]at e;erw[A8 (tF e)];erw[Bh];erw[hd];rfl
   |true=>rw[hd]at e;rw[Bh]at ai⊢;rw[hd]at ai⊢;refine Ii (tF e) (rr:=.next) rfl rfl ?_;have:=aD (p+1) k (by erw[←List.tail_drop,aE];rfl) dQ (rO ai);rw[show p+1+ij q=p+(ij q+1)by exact iO _ _ _]at this;exact this
noncomputable def IE:aI→Int
 | .box .. =>2
 | .gX .. =>5
 | .skip .. =>6
 | .b9 .. =>7
 | .cf .. =>8
 | .mark _=>9
theorem tJ{C:Calls}{a:ao}{st st1:St}{it:aI}(aa:aj C a st=I (.v (enc it),st1)):aj C (.attr a 6) st=I (.v (.int (IE it)),st1):=by cases it<;>exact hg aa rfl
set_option tactic.hygienic true in
theorem UZ{af:List aI}{p:Nat}(aA:af.length≤90)(hp:p≤af.length):bu bl (n+2) 23 [.v (.lst (af.map enc)),.v (.int p)] h t h.length=I (.v (.int (gY af p:Nat)),h,t):=by
 have kK:fit (af.map enc).length=true:=fZ (by assumption) (by first|decide|lia)
 have gg:af.length≤1000:=by exact cz ‹_› rfl
 have av:∀p,ij (af.drop p)<100:=fun p=>gI (ID _) (gI (List.drop_sublist p af).length_le (nU aA rfl))
 ac_rfl
 cases aw:af[p]? with
 |none=>
  have ar:=xU.mp aw
  iterate (first|exact j4 kK|exact decide_eq_false (by erw[bF];exact x9 ‹_›))
  refine wC (Bi (fun it=>i8) gg _ p 100 rfl hp (av p)) ?_
  iterate fail
  exact dN (by delta gY;erw[aw])
 |some it=>
  have dQ:=(d7.mp aw).1;have hd:U ((p:Int)<((af.map enc).length:Int))=true:=decide_eq_true (by erw[bF];exact mI ‹_›);have md:=Bg aw gg
  iterate (first|exact j4 kK|exact md|((with_reducible apply tJ);(repeat1' (exact md))))
  ·intro aa;rw[hd,lT]at aa;cases it<;>first|(cases aa;done)|skip
   rename_i aF a b m
   iterate (first|exact md|exact ne_nil)
   ·intro ab
    iterate fail
    refine dN (congrArg V.int ?_);delta gY;erw[aw]
    induction b using bY with
    |nil=>injections ab
    |cons=>rfl
   ·intro ab
    iterate fail
    refine wC (Bi (fun it=>i8) gg _ (p+1) 100 rfl dQ (av _)) ?_
    iterate fail
    refine dN (congrArg V.int ?_);delta gY;erw[aw]
    induction b using bY with
    |nil=>rfl
    |cons=>injections ab
  ·intro aa;rw[hd,lT]at aa;refine wC (Bi (fun it=>i8) gg _ p 100 rfl hp (av p)) ?_
   iterate fail
   refine dN (congrArg V.int ?_);delta gY;erw[aw];cases it<;>first|rfl|cases aa
end
section
variable{n t:Nat}{h:List Cell}
noncomputable abbrev c3:=Nat→Int
noncomputable def gH(v:c3):List V:=[.int (v 0),.int (v 1),.int (v 2),.int (v 3),.int (v 4),.int (v 5)]
def c'(v:c3):V:=.tup (gH v)
noncomputable def upd(v:c3)(k:Nat)(s:Int):c3:=fun j=>if j=k then v j+s else v j
noncomputable def i0(v:c3)(g:bb):c3:=upd (upd (upd v 0 g.w) (1+g.o.toNat) g.s) 5 g.k
theorem get_set{h:List Cell}{m:Nat}{c d:Cell}(hm:h[m]? =I c):(h.set m d)[m]? =I d:=by erw[xV (d7.mp hm).1]
theorem IF{o:Nat}(h:o<6):o=0∨o=1∨o=2∨o=3∨o=4∨o=5:=by revert o;decide
theorem wJ{v:c3}{o:Nat}(aO:o<6):n0 (.lst (gH v)) (.int (o:Int))=I (.v (.int (v o))):=by
 rcases IF aO with rfl|rfl|rfl|rfl|rfl|rfl<;>rfl
theorem rn{v:c3}{s:Int}{b:Bool}{o:Nat}(aO:o<6):pk b (.lst (gH v)) (.int (o:Int)) (.v (.int (v o+s)))=I (.lst (gH (upd v o s))):=by
 rcases IF aO with rfl|rfl|rfl|rfl|rfl|rfl<;>rfl
theorem pJ{lo:List (Option X)}{bs m:Nat}{c:Cell}{v:V}{x:X}(hm:h[m]? =I c)(aC:n0 c v=I x):St.item ⟨lo,h,t,bs⟩ (.cell m) (.v v)=I x:=bz rfl (bz hm aC)
noncomputable def oH(g:bb):Prop:=0≤g.o∧g.o≤3
theorem U0{v:c3}{g:bb}{m:Nat}(aK:oH g)(hm:h[m]? =I (.lst (gH v))):bu bl (n+1) 24 [.cell m,.v (iG g)] h t h.length=I (.v .bB,h.set m (.lst (gH (i0 v g))),t):=by
 have aO:(1+g.o)=((1+g.o.toNat:Nat):Int):=by have:=aK.1;lia
 have IG:1+g.o.toNat<6:=by have:=aK.2;lia
 ac_rfl
 iterate (first|exact pJ hm (wJ (o:=0) (by decide))|exact hm|exact rn (o:=0) (by decide))
 have Bj:=get_set (d:=.lst (gH (upd v 0 g.w))) hm
 iterate (first|(erw[aO];exact pJ Bj (wJ IG))|exact Bj|(erw[aO];exact rn IG))
 have vw:=get_set (d:=.lst (gH (upd (upd v 0 g.w) (1+g.o.toNat) g.s))) Bj
 iterate (first|exact pJ vw (wJ (o:=5) (by decide))|exact vw|exact rn (o:=5) (by decide))
 erw[LS,LS];exact Uz (by erw[kj])
theorem Bk{v:c3}{g:bb}{ee:List Cell}(aK:oH g):bu bl (n+1) 24 [.cell h.length,.v (iG g)] (h++ .lst (gH v)::ee) t (h++ .lst (gH v)::ee).length=I (.v .bB,h++ .lst (gH (i0 v g))::ee,t):=by have e:(h++ .lst (gH v)::ee).set h.length (.lst (gH (i0 v g)))=h++ .lst (gH (i0 v g))::ee:=nj 0 _;erw[U0 (v:=v) aK (eY 0),e]
noncomputable def dn:c3:=fun ag=>0
theorem Bl{lo:List (Option X)}{bs:Nat}{v:c3}{ee:List Cell}{o:Nat}(aO:o<6):St.item ⟨lo,h++ .lst (gH v)::ee,t,bs⟩ (.cell h.length) (.v (.int (o:Int)))=I (.v (.int (v o))):=pJ (eY 0) (wJ aO)
theorem wK{lo:List (Option X)}{bs:Nat}{v:c3}{ee:List Cell}:hO .tuple ⟨lo,h++ .lst (gH v)::ee,t,bs⟩ [.cell h.length]=I (.v (c' v),⟨lo,h++ .lst (gH v)::ee,t,bs⟩):=Ut (gV (eY 0)) rfl
def eL(S:cj)(x:Int):c3:=upd (i0 (i0 dn S.ls) S.rs) 1 x
theorem U1{S:cj}{s:Nat}{x:Int}(aL:h[s]? =I S.cell)(ar:oH S.ls)(av:oH S.rs)(aC:i6 x):bu bl (n+3) 29 [.cell s,.v (.int x)] h t h.length=I (.v (c' (eL S x)),h,t):=by
 ac_rfl
 refine dT (wu (vs:=gH dn) a9 rfl rfl rfl) ?_
 iterate (first|with_reducible exact Bk ar|with_reducible exact Bk av|with_reducible exact kJ aC|exact e7 aL|exact Bl (o:=1) (by decide)|exact rn (o:=1) (by decide)|exact wK)
 exact nk rfl
theorem U2{v:c3}{x:Int}:bu bl (n+1) 27 [.v (c' v),.v (.int x)] h t h.length=I (.v (c' (upd v 0 x)),h,t):=by
 ac_rfl
 iterate ((with_reducible apply Ud);(repeat1' fail);exact rfl)
 exact dN rfl
theorem U3{b e g:c3}:bu bl (n+1) 30 [.v (c' b),.v (c' e),.v (c' g)] h t h.length=I (.v (c' fun k=>e k-b k+g k),h,t):=by
 ac_rfl
 iterate ((with_reducible apply ri);(with_reducible apply wy);(repeat1' fail);exact rfl;show fh _ _ _ [V.int 0,V.int 1,V.int 2,V.int 3,V.int 4,V.int 5] _=_;repeat ((with_reducible apply rj);exact fD;repeat1' fail);exact rfl)
 exact dN rfl
end
section
variable{n t:Nat}{h:List Cell}
noncomputable def j6(v:c3):aI→c3
 | .skip _ g=>i0 v g
 | .cf _ _ _ m=>upd v 0 (dU m)
 |it=>upd v 0 (Bc it)
noncomputable def mv(v:c3):List aI→List c3
 |[]=>[]
 |it::r=>j6 v it::mv (j6 v it) r
noncomputable def pZ:aI→Prop
 | .skip _ g=>oH g
 | .cf _ a b m=>a.length≤1000∧b.length≤1000∧m.length≤1000
 |_=>True
theorem nq{l:i7}(ar:l.length≤1000):fit (l.map fv).length=true:=fZ (by assumption) (by first|decide|lia)
inductive ro(af:List aI)(h:List Cell)(t:Nat)(vs:List V)(st:St):Prop where
 |mk (pre r:List aI) (acc:List c3) (v:c3) (x3:Option X) (ay:af=pre++r) (au:vs=r.map enc) (bo:acc++mv v r=dn::mv dn af) (cg:acc.length=pre.length+1)
  (gG:st=⟨[I (.v (.lst (af.map enc))),I (.cell h.length),I (.cell (h.length+1)),x3,J,J,J],h++[.lst (gH v),.lst (acc.map c')],t,h.length⟩)
theorem ro.next{af:List aI}{pre r:List aI}{it:aI}{acc:List c3}{v w:c3}{x3:Option X}(ay:af=pre++it::r)(bo:acc++mv v (it::r)=dn::mv dn af)(cg:acc.length=pre.length+1)(hw:w=j6 v it):
  ro af h t (r.map enc) ⟨[I (.v (.lst (af.map enc))),I (.cell h.length),I (.cell (h.length+1)),x3,J,J,J],h++[.lst (gH w),.lst (acc.map c'++[c' w])],t,h.length⟩:=by
 subst hw;exact .mk (pre++[it]) r (acc++[j6 v it]) (j6 v it) x3 (by erw[ay,eR];rfl) rfl (by erw[←bo,eR];rfl) (by erw[b4,b4,cg];rfl) (by erw[fy];rfl)
set_option tactic.hygienic true in
theorem U4{af:List aI}(aA:af.length≤1000)(aw:∀it,it∈af→pZ it):bu bl (n+3) 26 [.v (.lst (af.map enc))] h t h.length=I (.v (.lst ((dn::mv dn af).map c')),h,t):=by
 ac_rfl
 refine dT (wu (vs:=gH dn) a9 rfl rfl rfl) ?_
 iterate fail
 refine gW (hj (by repeat1' fail) rfl (fZ (by assumption) (by first|decide|lia))) ?_
 refine i5 (ro af h t) ?_ ?_ _ _ (.mk [] af [dn] dn J rfl rfl rfl rfl rfl)
 ·rintro v vs st ⟨pre,r,acc,v,x3,ay,au,bo,cg,rfl⟩
  induction r using bY with
  |nil=>injections au
  |cons it r=>
  obtain⟨rfl,rfl⟩:=List.cons.inj au;have hlen:acc.length≤1001:=by have:=congrArg xM ay;simp at this;lia
  have hf:fit (acc.map c').length=true:=fZ (by assumption) (by first|decide|lia)
  have hit:=aw it (by erw[ay];simp);refine fun Q cR el=>⟨_,fD,?_⟩
  iterate ((with_reducible apply tJ);(repeat1' fail))
  ·intro aa;cases it<;>first|(cases aa;done)|skip
   rename_i aF g;have aK:oH g:=hit
   iterate (first|with_reducible exact Bk aK|exact wK|exact hf)
   exact cR _ _ rfl (ro.next ay bo cg rfl)
  ·intro aa
   iterate ((with_reducible apply tJ);(repeat1' fail))
   ·intro ab;cases it<;>first|(cases ab;done)|skip
    rename_i aF a b m
    iterate (first|exact(Bd (n:=n) (t:=t) (h:=h++[.lst (gH v),.lst (acc.map c')]) (nq hit.2.2))|exact Bl (o:=0) (by decide)|exact rn (o:=0) (by decide)|exact wK|exact hf)
    exact cR _ _ rfl (ro.next ay bo cg rfl)
   ·intro ab;have hd:lB it=false:=by cases it<;>first|rfl|cases ab
    iterate (first|with_reducible exact Iv hd|exact Bl (o:=0) (by decide)|exact rn (o:=0) (by decide)|exact wK|exact hf)
    exact cR _ _ rfl (ro.next ay bo cg (by cases it<;>first|rfl|(cases aa;done)|cases ab))
 ·rintro st ⟨pre,r,acc,v,x3,ay,au,bo,cg,rfl⟩
  induction r using bY with
  |cons=>injections au
  |nil=>
  show Wp _ _
  iterate fail
  exact wD 1 rfl (by erw[←bo];show _=(acc++[]).map c';erw[ei])
def Sum(af:List aI)(k:Nat):c3:=(af.take k).foldl j6 dn
theorem IH:∀(af:List aI) (v:c3) (k:Nat),k≤af.length→(v::mv v af)[k]? =I ((af.take k).foldl j6 v)
 |[],v,0,_=>rfl
 |_::_,v,0,_=>rfl
 |it::r,v,k+1,h=>IH r (j6 v it) k (o7 h)
noncomputable def mw(af:List aI)(p:Nat):c3:=match af[p]? with
 |some (.cf _ _ b _)=>upd (Sum af (gY af p)) 0 (-dU b)
 |_=>Sum af (gY af p)
noncomputable def kL(af:List aI)(p:Nat):c3:=match af[p]? with
 |some (.cf _ a _ _)=>upd (Sum af p) 0 (dU a)
 |_=>Sum af p
def nr(af:List aI)(q:Nat×Int×Int):V:=.tup [.int q.1,.int q.2.1,.int q.2.2,.int (gY af q.1:Nat),c' (mw af q.1),c' (kL af q.1)]
inductive tK(af:List aI)(q:Nat×Int×Int):Prop where
 |item (it:aI) (h:af[q.1]? =I it) (s:U (q.2.2=1)=lB it)
 |last (h:q.1=af.length)
theorem U5{hp:Int}{af:List aI}:∀(pre r:List aI) (bh:Bool),af=pre++r→∀q,q∈eK hp pre.length bh r→tK af q:=by
 intro pre aT
 induction aT generalizing pre with
 |nil=>intro _ _ q aE;exact nomatch aE
 |cons it r aD=>
  intro bh e q aE
  rcases dR.mp aE with h|h
  ·have h0:af[pre.length]? =I it:=by erw[e,iP (bE _),kW];rfl
   have U6:∀{b:Bool} {x y:Nat×Int×Int},y∈one b x→y=x:=by
    intro b x y aV;induction b using hK with
    |false=>exact nomatch aV
    |true=>exact dY.mp aV
   cases it<;>first|exact absurd (show q∈[]from h) kX|(cases U6 h;exact .item _ h0 rfl)
  ·have:=aD (pre++[it]) (!fp it) (by erw[e,eR];rfl) q (by erw[b4];exact h);exact this
theorem II{hp:Int}{af:List aI}{q:Nat×Int×Int}(aE:q∈b6 hp af):tK af q:=by
 rcases dR.mp aE with h|h
 ·exact U5 [] af false rfl q h
 ·cases dY.mp h;exact .last rfl
theorem tK.le{af:List aI}{q:Nat×Int×Int}(h:tK af q):q.1≤af.length:=by
 cases h with
 |item it h=>exact da (d7.mp h).1
 |last h=>exact eQ h
theorem U7{hp:Int}:∀(r:List aI) (i:Nat) (bh:Bool),(eK hp i bh r).length≤r.length:=by
 intro aT
 induction aT with
 |nil=>intro _ _;exact bE _
 |cons it r aD=>
  intro i bh;have aa:=IA (hp:=hp) (bh:=bh) (i:=i) (it:=it);have ab:=aD (i+1) (!fp it);erw[Bf];erw[b4,gA]
  lia
theorem U8{p n r:Nat}(hp:p≤n)(h:r≤n-p):p+r≤n:=bR (lQ h p) (eQ (mH hp))
set_option tactic.hygienic true in
theorem IJ{af:List aI}{p:Nat}(hp:p≤af.length):gY af p≤af.length:=by
 have run {q} (aE:q≤af.length):q+ij (af.drop q)≤af.length:=U8 aE (CQ (i:=q) (l:=af)▸ID (af.drop q));delta gY;cases aw:af[p]? with
 |none=>exact run hp
 |some it=>
  have:=(d7.mp aw).1
  induction it using aI.casesOn with
  |cf t a b m=>
   induction b using bY with
   |nil=>exact run (q:=p+1) this
   |cons=>exact this
  |_=>exact run hp
inductive tL(af:List aI)(L:List (Nat×Int×Int))(s:Nat)(h:List Cell)(t:Nat)(vs:List V)(st:St):Prop where
 |mk (pre r:List (Nat×Int×Int)) (x4 x5 x6 x7 cX cY:Option X) (ay:L=pre++r) (au:vs=r.map oG)
  (gG:st=⟨[I (.v (.lst (af.map enc))),I (.cell s),I (.v (.lst ((dn::mv dn af).map c'))),I (.cell h.length),x4,x5,x6,x7,cX,cY,J,J,J],h++[.lst (pre.map (nr af))],t,h.length⟩)
theorem tL.next{af:List aI}{L:List (Nat×Int×Int)}{s:Nat}{pre r:List (Nat×Int×Int)}{q:Nat×Int×Int}{x4 x5 x6 x7 cX cY:Option X}{v:V}(ay:L=pre++q::r)(aJ:v=nr af q):
  tL af L s h t (r.map oG) ⟨[I (.v (.lst (af.map enc))),I (.cell s),I (.v (.lst ((dn::mv dn af).map c'))),I (.cell h.length),x4,x5,x6,x7,cX,cY,J,J,J],h++[.lst (pre.map (nr af)++[v])],t,h.length⟩:=by
 subst aJ;exact .mk (pre++[q]) r x4 x5 x6 x7 cX cY (by erw[ay,eR];rfl) rfl (by erw[fy];rfl)
theorem IK{af:List aI}{k:Nat}(ai:k≤af.length)(aA:af.length≤1000):gL (.lst ((dn::mv dn af).map c')) (.int (k:Int))=I (c' (Sum af k)):=item_at (k:=k) (by erw[lO,IH af dn k ai];rfl) rfl (r4 ‹_› ‹_› rfl)
set_option tactic.hygienic true in
theorem U9{af:List aI}{S:cj}{s:Nat}(aL:h[s]? =I S.cell)(aA:af.length≤90)(ai:hF af)(aw:∀it,it∈af→pZ it):bu bl (n+4) 28 [.v (.lst (af.map enc)),.cell s] h t h.length=I (.v (.lst ((b6 S.hp af).map (nr af))),h,t):=by
 have gg:af.length≤1000:=by exact cz ‹_› rfl
 have kK:fit (af.map enc).length=true:=fZ (by assumption) (by first|decide|lia)
 have cv:(b6 S.hp af).length≤1001:=by have:=U7 (hp:=S.hp) af 0 false;delta b6;erw[b4];show _+1≤_;exact cz (je (bR ‹_› ‹_›)) rfl
 ac_rfl
 iterate (with_reducible exact U4 gg aw)
 have ar:=UX (n:=n+1) (t:=t) (h:=h++[.lst []]) (e7 aL) gg ai;refine gW (hj (by repeat1' (exact ar)) rfl (fZ (by assumption) (by first|decide|lia))) ?_
 refine i5 (tL af (b6 S.hp af) s h t) ?_ ?_ _ _ (.mk [] _ J J J J J J rfl rfl rfl)
 ·rintro v vs st ⟨pre,r,x4,x5,x6,x7,cX,cY,ay,au,rfl⟩
  induction r using bY with
  |nil=>cases au
  |cons q r=>
  obtain⟨rfl,rfl⟩:=List.cons.inj au;have aE:tK af q:=II (hp:=S.hp) (by erw[ay];exact List.mem_append_right _ (.head _));have hf:fit (pre.map (nr af)).length=true:=dO (by have:=congrArg xM ay;simp at this;erw[bF];lia);obtain⟨p,b9,sort⟩:=q;have hp:p≤af.length:=aE.le;have aa:=IK (IJ hp) gg;have ab:=IK hp gg;refine fun Q cR el=>⟨_,Ux,?_⟩
  iterate (first|with_reducible exact UZ aA hp|exact aa|exact ab|exact j4 kK)
  ·intro aq;obtain⟨ba,b0⟩:=cI.mp aq;cases aE with
   |last h=>have:=of_decide_eq_true ba;rw[bF]at this;have h:p=af.length:=h;exact absurd this (by lia)
   |item it h0 hd=>
    rw[b0]at hd;cases it<;>first|(cases hd;done)|skip
    rename_i aF a b m;have hit:pZ (.cf aF a b m):=aw _ (fI h0);have md:=Bg h0 gg;have f1:=nq hit.1;have f2:=nq hit.2.1
    iterate (first|exact md|with_reducible exact Bd f1|with_reducible exact Bd f2|with_reducible exact U2|exact hf)
    refine cR _ _ rfl (tL.next ay ?_);delta nr mw kL;have h0:af[p]? =I (aI.cf aF a b m):=h0;erw[h0]
  ·intro aq
   iterate (first|exact hf)
   refine cR _ _ rfl (tL.next ay ?_);delta nr mw kL;cases aE with
   |last h=>have h:p=af.length:=h;have h0:af[p]? =J:=jc (eQ h.symm);erw[h0]
   |item it h0 hd=>
    have h0:af[p]? =I it:=h0;have d2:U (sort=1)=false:=by have:U ((p:Int)<((af.map enc).length:Int))=true:=decide_eq_true (by have:=(d7.mp h0).1;erw[bF];lia);rw[this,lT]at aq;exact aq
    have hd:U (sort=1)=lB it:=hd;rw[d2]at hd;erw[h0];cases it<;>first|rfl|cases hd
 ·rintro st ⟨pre,r,x4,x5,x6,x7,cX,cY,ay,au,rfl⟩
  induction r using bY with
  |cons=>cases au
  |nil=>
  show Wp _ _
  iterate fail
  exact wD 0 rfl (by erw[ay,ei])
end
section
variable{n t:Nat}{h:List Cell}
noncomputable def nt(v:c3):Bool:= !U (v 2=0)||(!U (v 3=0)|| !U (v 4=0))
noncomputable def e8(z:Int)(v:c3):Int×Int:=bif U (z-v 0>0)then bif nt v then(0,2)else bif U (eJ (z-v 0) (v 1)>99)then(eJ (z-v 0) (v 1),0)else(eJ (z-v 0) (v 1),bif U (eJ (z-v 0) (v 1)>12)then 1 else 2)
 else bif U (-(z-v 0)>v 5)then(10001,3)else(eJ (-(z-v 0)) (v 5),bif U (eJ (-(z-v 0)) (v 5)>12)then 3 else 2)
structure wL(z:Int)(v:c3):Prop where
 lo: -7230584≤z-v 0
 aw:z-v 0≤7230584
 st:v 1<1000000000
 oI:v 5<1000000000
noncomputable def IL(p:Int×Int):V:=.tup [.int p.1,.int p.2]
theorem rq{v:c3}{k:Nat}(ai:k<6):gL (c' v) (.int (k:Int))=I (.int (v k)):=show gL (.lst ((jb 6).map fun i=>V.int (v i))) _=_ from item_at (by erw[lO,Z2 ai];rfl) rfl (qz ai rfl)
theorem U'{z:Int}{v:c3}(bw:wL z v):bu bl (n+2) 31 [.v (.int z),.v (c' v)] h t h.length=I (.v (IL (e8 z v)),h,t):=by
 have oJ:=rq (v:=v) (k:=0) (by decide);have g1:=rq (v:=v) (k:=1) (by decide);have g2:=rq (v:=v) (k:=2) (by decide);have g3:=rq (v:=v) (k:=3) (by decide);have Va:=rq (v:=v) (k:=4) (by decide);have tM:=rq (v:=v) (k:=5) (by decide)
 ac_rfl
 iterate (exact oJ)
 ·intro aa
  iterate (first|exact g2|exact g3|exact Va)
  ·intro ab
   iterate fail
   exact dN (by unfold e8;erw[aa,show nt v=true from ab];rfl)
  ·intro ab;have ae:=Im (n:=n) (t:=t) (h:=h) (e:=z-v 0) (w:=v 1) (jN (of_decide_eq_true aa)) bw.aw bw.st
   iterate (first|exact g1|exact ae)
   ·intro aq
    iterate fail
    exact dN (by unfold e8;erw[aa,show nt v=false from ab,aq];rfl)
   ·intro aq
    iterate fail
    exact dN (by unfold e8;erw[aa,show nt v=false from ab,aq];rfl)
 ·intro aa
  iterate (first|exact tM)
  ·intro ab
   iterate fail
   exact dN (by unfold e8;erw[aa,ab];rfl)
  ·intro ab;have ae:=Im (n:=n) (t:=t) (h:=h) (e:= -(z-v 0)) (w:=v 5) (by have:=of_decide_eq_false aa;exact Di ‹_›) (by have:=bw.lo;exact CX ‹_›) bw.oI
   iterate (first|exact tM|exact ae)
   exact dN (by unfold e8;erw[aa,ab];rfl)
noncomputable def lc(c:Int):Int:=bif U ((c.natAbs:Int)≥10000)then 100000000 else c*c
def nu(cT bad b9:Int):Int:=lc (cT+bad)+(bif U (b9>0)then b9*b9 else bif U (b9> -10000)then-(b9*b9)else 0)
theorem Vb{a b:Int}(aB:Num a)(ae:Num b):(small (a+b)||small (a+b))=true:=by erw[j3 (a:=a+b) (by have:=aB.1;have:=ae.1;exact Dn ‹_› ‹_› rfl) (by have:=aB.2;have:=ae.2;exact Dm ‹_› ‹_› rfl)];rfl
theorem IM{S:cj}{s:Nat}{bad b9:Int}(aL:h[s]? =I S.cell)(ar:Num S.cT)(ae:Num bad)(hp:Num b9):bu bl (n+1) 32 [.cell s,.v (.int bad),.v (.int b9)] h t h.length=I (.v (.int (nu S.cT bad b9)),h,t):=by
 have nv:(small b9||small b9)=true:=by erw[j3 (a:=b9) (by have:=hp.1;exact d0 ‹_› rfl) (by have:=hp.2;exact kY ‹_› rfl)];rfl
 ac_rfl
 iterate (first|exact aL|exact(Vb ar ae))
 ·intro aa
  iterate (exact nv)
  exact dN (by unfold nu;erw[aa];rfl)
 ·intro aa
  iterate fail
  ·intro ab
   iterate (exact nv)
   exact dN (by unfold nu;erw[aa,ab];rfl)
  ·intro ab
   iterate fail
   exact dN (by unfold nu;erw[aa,ab];exact congrArg V.int (eP _).symm)
noncomputable def p0(S:cj)(tw en:Bool)(ap:Int):Int:=(bif tw then bif en then 0 else S.dV else 0)+(bif U (ap>1)then S.cu else 0)
theorem IP{S:cj}{s:Nat}{tw en:Bool}{ap:Int}(aL:h[s]? =I S.cell):bu bl (n+1) 33 [.cell s,.v (.bool tw),.v (.bool en),.v (.int ap)] h t h.length=I (.v (.int (p0 S tw en ap)),h,t):=by
 ac_rfl
 iterate (exact aL)
 ·intro aa
  iterate (exact aL)
  ·intro ab
   iterate (exact aL)
   exact dN (by unfold p0;erw[show tw=true from aa,ab,km];rfl)
  ·intro ab
   iterate (exact aL)
   exact dN (by unfold p0;erw[show tw=true from aa,ab,km];exact congrArg V.int (eP _).symm)
 ·intro aa
  iterate (exact aL)
  ·intro ab
   iterate (exact aL)
   exact dN (by unfold p0;erw[show tw=false from aa,ab];rfl)
  ·intro ab
   iterate (exact aL)
   exact dN (by unfold p0;erw[show tw=false from aa,ab];rfl)
end
section
variable{n t:Nat}{h:List Cell}
structure fE where
 (p b9 sort st:Int)
 (jC en:c3)
def nx(a:fE):V:=.tup [.int a.p,.int a.b9,.int a.sort,.int a.st,c' a.jC,c' a.en]
def wM:fE:=⟨-1,0,0,0,dn,dn⟩
noncomputable def gj(g:c3)(a b:fE):c3:=bif U (a.st>b.p)then g else fun k=>b.en k-a.jC k+g k
structure gZ where
 S:cj
 (s i9:Nat)
 (z most len:Int)
 g:c3
 N:Nat→fE
 M:Nat
 last:Bool
noncomputable def gZ.par(G:gZ):bM where
 bad a b:=(e8 G.z (gj G.g (G.N a) (G.N b))).1
 fit a b:=(e8 G.z (gj G.g (G.N a) (G.N b))).2
 cst a b:=nu G.S.cT (e8 G.z (gj G.g (G.N a) (G.N b))).1 (G.N b).b9+(bif U ((G.N b).sort=1)&&U ((G.N a).sort=1)then bif U ((G.N b).p=G.len)then 0 else G.S.dV else 0)
 hU b:=U ((G.N b).b9= -10000)
 M:=G.M
 A:=G.S.cu
 most:=G.most
 cC i:=bif U (G.S.loose=0)then 1 else i
structure Bm(G:gZ)(h:List Cell):Prop where
 aL:h[G.s]? =I G.S.cell
 iH:h[G.i9]? =I (.inst 10 (lC G.s G.z G.most (c' G.g) G.last (jB G.S)))
 eW:G.N 0=wM
 fit:∀a b,wL G.z (gj G.g (G.N a) (G.N b))
 cT:Num G.S.cT
 b9:∀b,Num (G.N b).b9
 cu:0≤G.S.cu
noncomputable def cG(N:Nat→fE):bc→V
 | .root=>.obj J 9 [(41,nx wM),(42,.int 0),(43,.int 2),(44,.int 0),(45,.bB)]
 | .go s l f d b=>.obj J 9 [(41,nx (N s)),(42,.int l),(43,.int f),(44,.int d),(45,cG N b)]
def wN(N:Nat→fE)(e:Ent):V:=.tup [.int e.d,cG N e.w,.int e.ln]
def fP(N:Nat→fE)(l:List (Int×Ent)):List (Int×V):=l.map fun p=>(p.1,wN N p.2)
noncomputable def gk(l:List (Int×Int)):List (Int×V):=l.map fun p=>(p.1,.int p.2)
theorem wO{α:Type}{f:α→V}{k:Int}:∀{l:List (Int×α)},g7 k (l.map fun p=>(p.1,f p.2))=(lk k l).map f:=by
 intro aT
 induction aT with
 |nil=>exact rfl
 |cons dA r aD=>obtain⟨m,x⟩:=dA;show(if m=k then I (f x)else g7 k (r.map fun p=>(p.1,f p.2)))=LC f (if m=k then I x else lk k r);erw[aD];split<;>rfl
theorem IQ{α:Type}{f:α→V}{k:Int}{x:α}:∀{l:List (Int×α)},mM k (f x) (l.map fun p=>(p.1,f p.2))=(fl k x l).map fun p=>(p.1,f p.2):=by
 intro aT
 induction aT with
 |nil=>exact rfl
 |cons dA r aD=>obtain⟨m,y⟩:=dA;show(if m=k then(m,f x)::r.map _ else(m,f y)::mM k (f x) (r.map _))=(if m=k then(m,x)::r else(m,y)::fl k x r).map _;erw[aD];split<;>rfl
theorem Vc{α:Type}{k:Int}{x:α}:∀{l:List (Int×α)},(fl k x l).length≤l.length+1:=by
 intro aT
 induction aT with
 |nil=>exact bE _
 |cons dA r aD=>
  obtain⟨m,y⟩:=dA;erw[AP];refine Tactic.eT (fun h=>?_) (fun h=>?_)
  ·exact lM _
  ·exact je aD
theorem IS{α:Type}{k:Int}{x:α}:∀{l:List (Int×α)},(fl k x l).map (·.1)=if k∈l.map (·.1)then l.map (·.1)else l.map (·.1)++[k]:=by
 intro aT
 induction aT with
 |nil=>exact rfl
 |cons dA r aD=>
  obtain⟨m,y⟩:=dA;erw[AP];refine bZ (fun e:m=k=>?_) (fun e=>?_)
  ·erw[if_pos e,if_pos (by erw[e];exact .head _)];rfl
  ·erw[if_neg e,g0,g0,aD];refine bZ (fun i:k∈r.map (·.1)=>?_) (fun i=>?_)
   ·erw[if_pos i,if_pos (.tail _ i)]
   ·erw[if_neg i,if_neg];rfl;intro c;refine eF (ec.mp c) (fun c=>?_) (fun c=>?_)
    ·exact e c.symm
    ·exact i c
theorem Vd{lo:Int}:∀(n:Nat) (l:List Int),l.Nodup→(∀k,k∈l→lo≤k∧k<lo+n)→l.length≤n:=by
 intro n
 induction n with
 |zero=>
  intro l _ h
  induction l using bY with
  |nil=>exact bE _
  |cons k r=>exact absurd (h k (.head _)).1 (o2.mpr (eP lo▸(h k (.head _)).2))
 |succ n aD=>
  intro l aA h;have:=aD (l.erase (lo+n)) (aA.erase _) fun k ai=>by
   refine bC (fun aa ab=>?_) (aA.mem_erase_iff.mp ai);have aq:k<lo+n+1:=by rw[qx];exact(h k ab).2
   exact⟨(h k ab).1,Int.lt_iff_le_and_ne.mpr ⟨Int.lt_add_one_iff.mp aq,aa⟩⟩
  refine bZ (fun c:lo+(n:Int)∈l=>?_) (fun c=>?_)
  ·rw[List.length_erase_of_mem c]at this;exact Nat.le_add_of_sub_le this
  ·rw[List.erase_of_not_mem c]at this;exact rM this
structure j7(s:de):Prop where
 nd:(s.best.map (·.1)).Nodup
 ik:∀k,k∈s.best.map (·.1)→4≤k∧k<64
 low:∀k,k∈s.best.map (·.1)→∃v,lk (k/4) s.least=I v
theorem j7.len{s:de}(h:j7 s):s.best.length≤60:=by
 have:=Vd (lo:=4) 60 _ h.nd fun k ai=>h.ik k ai
 rwa [bF]at this
theorem tN{e w:Int}(he:0≤e):0≤eJ e w∧eJ e w≤10000:=by
 have Bn:(0:Int)≤0∧(0:Int)≤10000:=by decide
 have a7:(0:Int)≤10000∧(10000:Int)≤10000:=by decide
 unfold eJ;refine bZ (fun aa:e=0=>?_) (fun aa=>?_)
 ·erw[decide_eq_true aa];exact Bn
 refine bZ (fun ab:w≤0=>?_) (fun ab=>?_)
 ·erw[decide_eq_false aa,decide_eq_true ab];exact a7
 refine bZ (fun aq:(e*297).fdiv w>1290=>?_) (fun aq=>?_)
 ·erw[decide_eq_false aa,decide_eq_false ab,decide_eq_true aq];exact a7
 erw[decide_eq_false aa,decide_eq_false ab,decide_eq_false aq];have kI:0≤(e*297).fdiv w:=by have hw:=jN (o2.mp ab);erw[r1 _ hw];exact CW (LU he (by decide)) hw
 generalize (e*297).fdiv w=q at aq kI;have eu:=ez.mp aq;erw[r1 _ (by decide)];have a1:=LU kI kI;have a2:=Int.mul_le_mul eu eu kI (by decide);have pG:=LU a1 kI;have ti:=Int.mul_le_mul a2 eu kI (by decide);exact⟨CW (r2 pG (by decide)) (by decide),ZR (Int.ediv_lt_of_lt_mul (by decide) (mC (kl ti _) (by decide)))⟩
structure mx(p:Int×Int):Prop where
 lV:0≤p.1
 g4:p.1≤10001
 f0:0≤p.2
 f1:p.2≤3
theorem p1{z:Int}{v:c3}:mx (e8 z v):=by
 have mk:∀{b f:Int},(0≤b∧b≤10000)→0≤f→f≤3→mx (b,f):=fun h aa ab=>⟨h.1,by show _≤(10001:Int);have:=h.2;exact d3 ‹_› rfl,aa,ab⟩;unfold e8;refine bZ (fun aa:z-v 0>0=>?_) (fun aa=>?_)
 ·erw[decide_eq_true aa];have:=tN (e:=z-v 0) (w:=v 1) (jN aa);cases nt v
  ·cases U (eJ (z-v 0) (v 1)>99)
   ·cases U (eJ (z-v 0) (v 1)>12)
    ·exact mk (f:=2) this (by decide) (by decide)
    ·exact mk (f:=1) this (by decide) (by decide)
   ·exact mk (f:=0) this (by decide) (by decide)
  ·exact mk (b:=0) (f:=2) (by decide) (by decide) (by decide)
 ·erw[decide_eq_false aa];have:=tN (e:= -(z-v 0)) (w:=v 5) (Di ‹_›);cases U (-(z-v 0)>v 5)
  ·cases U (eJ (-(z-v 0)) (v 5)>12)
   ·exact mk (f:=2) this (by decide) (by decide)
   ·exact mk (f:=3) this (by decide) (by decide)
  ·exact(⟨by decide,by decide,by decide,by decide⟩:mx (10001,3))
theorem Ve{P:bM}{b:Nat}{w:bc}{d:Int}{s:de}(aL:j7 s)(ai:4≤P.key b w∧P.key b w<64)(aK:P.key b w/4=P.cC (w.line+1)):j7 (put P b w d s):=by
 unfold put;refine Tactic.eT (fun h=>?_) (fun h=>?_)
 ·have mem:∀k,k∈(fl (P.key b w) (⟨d,w,w.line+1⟩:Ent) s.best).map (·.1)→k=P.key b w∨k∈s.best.map (·.1):=fun k ai=>by
   rw[IS]at ai
   split at ai
   ·exact .inr ai
   ·refine eF (dR.mp ai) (fun ai=>?_) (fun ai=>?_)
    ·exact .inr ai
    ·exact .inl (dY.mp ai)
  refine⟨?_,fun k ai=>?_,fun k ai=>?_⟩
  ·show((fl (P.key b w) (⟨d,w,w.line+1⟩:Ent) s.best).map (·.1)).Nodup;erw[IS]
   split
   ·exact aL.nd
   ·rename_i c;refine List.nodup_append.mpr ⟨aL.nd,jf.mpr ⟨kX,.nil⟩,fun a aB b ae e=>?_⟩;rw[dY]at ae;subst ae e;exact c aB
  ·rcases mem k ai with rfl|ai
   ·assumption
   ·exact aL.ik k ai
  ·show∃v,lk (k/4) (fl _ _ _)=I v;erw[nf]
   split
   ·exact⟨_,rfl⟩
   ·rename_i c
    rcases mem k ai with rfl|ai
    ·exact absurd aK.symm c
    ·exact aL.low k ai
 ·exact aL
end
section
variable{n t:Nat}{h:List Cell}
theorem Bo{G:gZ}(h0:G.N 0=wM){w:bc}{C:Calls}{a:ao}{st st1:St}(aa:aj C a st=I (.v (cG G.N w),st1)):aj C (.attr a 41) st=I (.v (nx (G.N w.cA)),st1):=by
 cases w with
 |root=>erw[show bc.root.cA=0 from rfl,h0];exact hg aa rfl
 |go=>exact hg aa rfl
theorem IT{N:Nat→fE}{w:bc}{C:Calls}{a:ao}{st st1:St}(aa:aj C a st=I (.v (cG N w),st1)):aj C (.attr a 42) st=I (.v (.int w.line),st1):=by cases w<;>exact hg aa rfl
theorem IU{N:Nat→fE}{w:bc}{C:Calls}{a:ao}{st st1:St}(aa:aj C a st=I (.v (cG N w),st1)):aj C (.attr a 43) st=I (.v (.int w.fit),st1):=by cases w<;>exact hg aa rfl
theorem wQ{N:Nat→fE}{w:bc}{C:Calls}{a:ao}{st st1:St}(aa:aj C a st=I (.v (cG N w),st1)):aj C (.attr a 44) st=I (.v (.int w.bJ),st1):=by cases w<;>exact hg aa rfl
theorem Vf{C:Calls}{lo:List (Option X)}{bs:Nat}:dq C (.cons (.jk .nil) (.cons .cw (.cons .cw .nil))) ⟨lo,h,t,bs⟩=I ([.cell h.length,.cell (h.length+1),.cell (h.length+2)],⟨lo,h++[.lst [],.cw [],.cw []],t,bs⟩):=by
 have ay:aj C .cw ⟨lo,h++[.lst []],t,bs⟩=I (.cell (h.length+1),⟨lo,h++[.lst [],.cw []],t,bs⟩):=by erw[wx,b4,eR];rfl
 have au:aj C .cw ⟨lo,h++[.lst [],.cw []],t,bs⟩=I (.cell (h.length+2),⟨lo,h++[.lst [],.cw [],.cw []],t,bs⟩):=by erw[wx,b4,eR];rfl
 exact bH (nh di rfl) (bH ay (bH au cW))
theorem aa'{C:Calls}{a b:ao}{s1:St}{lo:List (Option X)}{bs m k:Nat}{ee:List Cell}{c:Cell}{v:V}{x:X}(aa:aj C a s1=I (.cell (h.length+k),s1))(ab:aj C b s1=I (.v v,⟨lo,h++ee,t,bs⟩))(hm:ee[k]? =I c)(aC:n0 c v=I x):aj C (.item a b) s1=I (x,⟨lo,h++ee,t,bs⟩):=gy aa ab ((eY k).trans hm) aC
theorem IV{C:Calls}{Q:R→St→Prop}{ss:bD}{a b c:ao}{s0 s1 s2:St}{lo:List (Option X)}{bs k:Nat}{x:X}{v:V}{ee ee':List Cell}{cl cl':Cell}(aa:aj C a s0=I (x,s1))(ab:aj C b s1=I (.cell (h.length+k),s2))(aq:aj C c s2=I (.v v,⟨lo,h++ee,t,bs⟩))(hm:ee[k]? =I cl)(aO:pk (U (bs≤h.length+k)) cl v x=I cl')(he:ee.set k cl'=ee')(av:Wp Q (bI C ss ⟨lo,h++ee',t,bs⟩)):Wp Q (bI C (.cons (.assign (.item b c) a) ss) s0):=A6 aa ab aq ((eY k).trans hm) aO (by erw[nj,he];exact av)
abbrev hl(h:List Cell)(N:Nat→fE)(s:de)(ee:List Cell):List Cell:=h++ .lst (s.kept.map (cG N)):: .cw (fP N s.best):: .cw (gk s.least)::ee
noncomputable abbrev Bp:ao:=.bin .add (.bin .mul (.const (.int 4)) (.loc 21)) (.loc 17)
abbrev Bq:bD:=.cons (.assign (.loc 21) (.bi .min (.cons (.loc 14) (.cons (.bin .add (.attr (.loc 0) 51) (.const (.int 1))) .nil)))) (.cons (.assign (.loc 22) (.qE (.loc 10) Bp)) (.cons (.ite (.or (.cmp (.loc 22) .is (.const .bB)) (.cmp (.loc 19) .le (.item (.loc 22) (.const (.int 0)))))
 (.cons (.assign (.item (.loc 10) Bp) (.tup (.cons (.loc 19) (.cons (.loc 13) (.cons (.loc 14) .nil))))) (.cons (.assign (.item (.loc 11) (.loc 21)) (.bi .min (.cons (.loc 19) (.cons (.pe (.loc 11) (.loc 21) (.loc 19)) .nil)))) .nil)) .nil) .nil))
theorem Vg{d x:Int}:(if x<d then x else d)=min d x:=by refine Tactic.eT (fun h=>?_) (fun h=>?_)<;>lia
theorem IW{i j k:Int}{st:St}(ai:(if j<i then j else i)=k):hO .min st [.v (.int i),.v (.int j)]=I (.v (.int k),st):=by subst ai;rfl
theorem Vh{G:gZ}{i:Int}(aa:1≤i)(ab:i≤4294967294):(if jB G.S+1<i then jB G.S+1 else i)=G.par.cC i:=by
 show _=bif U (G.S.loose=0)then 1 else i;unfold jB;cases U (G.S.loose=0)
 ·show(if 4294967294+1<i then _ else i)=i;exact if_neg (ez.mpr (c0 ab (by decide)))
 ·show(if 0+1<i then 0+1 else i)=1;refine bZ (fun c:(0:Int)+1<i=>?_) (fun c=>?_)
  ·erw[if_pos c];rfl
  ·erw[if_neg c];exact rN (ez.mp c) aa
theorem IX{k:Int}:(small 4||small k)=true:=by erw[j3 (a:=4) (by decide) (by decide)];rfl
theorem Br{C:Calls}{Q:R→St→Prop}{G:gZ}{w:bc}{b:Nat}{d:Int}{s:de}{ee:List Cell}{c2 x2 x3 x4 x5 x6 x7 cX c5 fF hn x18 x20 x21 x22 x23 x24 ho:Option X}(iH:h[G.i9]? =I (.inst 10 (lC G.s G.z G.most (c' G.g) G.last (jB G.S))))(aa:0≤w.line)(ab:w.line≤4000)(ae:s.best.length≤100000)(ar:s.least.length≤100000)
  (aE:∀x22,Q .next ⟨[I (.cell G.i9),c2,x2,x3,x4,x5,x6,x7,cX,I (.cell h.length),I (.cell (h.length+1)),I (.cell (h.length+2)),c5,I (.v (cG G.N w)),I (.v (.int (w.line+1))),fF,hn,I (.v (.int (G.par.fit w.cA b))),x18,I (.v (.int d)),x20,I (.v (.int (G.par.cC (w.line+1)))),x22,x23,x24,ho],hl h G.N (put G.par b w d s) ee,t,h.length⟩):
  Wp Q (bI C Bq ⟨[I (.cell G.i9),c2,x2,x3,x4,x5,x6,x7,cX,I (.cell h.length),I (.cell (h.length+1)),I (.cell (h.length+2)),c5,I (.v (cG G.N w)),I (.v (.int (w.line+1))),fF,hn,I (.v (.int (G.par.fit w.cA b))),x18,I (.v (.int d)),x20,x21,x22,x23,x24,ho],hl h G.N s ee,t,h.length⟩):=by
 refine dT (fY (by repeat1' (exact(e7 (e:=.lst (s.kept.map (cG G.N)):: .cw (fP G.N s.best):: .cw (gk s.least)::ee) iH))) (IW (Vh (kl aa 1) (kY ‹_› rfl)))) ?_;have hd:∀lo,St.jl ⟨lo,hl h G.N s ee,t,h.length⟩ (h.length+1)=I (fP G.N s.best):=fun lo=>bz ((eY 1).trans rfl) rfl;refine dT (Uj (by repeat1' fail) (by repeat1' (exact IX)) (hd _)) ?_;have ai:g7 (4*G.par.cC (w.line+1)+G.par.fit w.cA b) (fP G.N s.best)=(lk (G.par.key b w) s.best).map (wN G.N):=wO;erw[ai];have tO:fit (fP G.N s.best).length=true:=dO (by erw[fP,bF];exact ae);have dB:fit (gk s.least).length=true:=dO (by erw[gk,bF];exact ar);have wr:((lk (G.par.key b w) s.best).all fun o=>decide (d≤o.d))=true→∀x22,Wp Q (bI C (.cons (.assign (.item (.loc 10) Bp) (.tup (.cons (.loc 19) (.cons (.loc 13) (.cons (.loc 14) .nil))))) (.cons (.assign (.item (.loc 11) (.loc 21)) (.bi .min (.cons (.loc 19) (.cons (.pe (.loc 11) (.loc 21) (.loc 19)) .nil)))) .nil)) ⟨[I (.cell G.i9),c2,x2,x3,x4,x5,x6,x7,cX,I (.cell h.length),I (.cell (h.length+1)),I (.cell (h.length+2)),c5,I (.v (cG G.N w)),I (.v (.int (w.line+1))),fF,hn,I (.v (.int (G.par.fit w.cA b))),x18,I (.v (.int d)),x20,I (.v (.int (G.par.cC (w.line+1)))),x22,x23,x24,ho],hl h G.N s ee,t,h.length⟩):=fun ah x22=>by
  refine IV (k:=1) (cl':=.cw (fP G.N (fl (G.par.key b w) ⟨d,w,w.line+1⟩ s.best))) (ee':=.lst (s.kept.map (cG G.N)):: .cw (fP G.N (fl (G.par.key b w) ⟨d,w,w.line+1⟩ s.best)):: .cw (gk s.least)::ee) (by repeat1' fail) (by repeat1' fail) (by repeat1' (exact IX)) rfl ?_ rfl ?_
  ·show(if fit (fP G.N s.best).length then I (Cell.cw (mM (G.par.key b w) (wN G.N ⟨d,w,w.line+1⟩) (fP G.N s.best)))else J)=_;erw[if_pos tO];exact congrArg (fun l=>I (Cell.cw l)) IQ
  have hd2:∀lo,St.jl ⟨lo,h++ .lst (s.kept.map (cG G.N)):: .cw (fP G.N (fl (G.par.key b w) ⟨d,w,w.line+1⟩ s.best)):: .cw (gk s.least)::ee,t,h.length⟩ (h.length+2)=I (gk s.least):=fun lo=>bz ((eY 2).trans rfl) rfl;have oo:(g7 (G.par.cC (w.line+1)) (gk s.least)).getD (.int d)= .int ((lk (G.par.cC (w.line+1)) s.least).getD d):=by unfold gk;erw[wO];cases lk (G.par.cC (w.line+1)) s.least<;>rfl
  have hm:(if(lk (G.par.cC (w.line+1)) s.least).getD d<d then(lk (G.par.cC (w.line+1)) s.least).getD d else d)=min d ((lk (G.par.cC (w.line+1)) s.least).getD d):=Vg;refine IV (k:=2) (cl':=.cw (gk (fl (G.par.cC (w.line+1)) (min d ((lk (G.par.cC (w.line+1)) s.least).getD d)) s.least))) (fY (bH (by repeat1' fail) (bH (Uk (by repeat1' fail) (by repeat1' fail) (by repeat1' fail) (hd2 _)) cW)) (by erw[oo];exact IW hm)) (by repeat1' fail) (by repeat1' fail) rfl ?_ rfl ?_
  ·show(if fit (gk s.least).length then I (Cell.cw (mM _ _ (gk s.least)))else J)=_;erw[if_pos dB];exact congrArg (fun l=>I (Cell.cw l)) IQ
  refine gh ?_;have:=aE x22;unfold put at this;rw[if_pos ah]at this;exact this
 cases e:lk (G.par.key b w) s.best with
 |none=>
  iterate fail
  exact wr (by erw[e];rfl) _
 |some o=>
  iterate (exact rfl)
  ·intro aq;exact wr (by erw[e];exact aq) _
  ·intro aq;refine gh ?_;have:=aE (I (.v (wN G.N o)));unfold put at this;rw[if_neg (by erw[e];show¬U (d≤o.d)=true;erw[show U (d≤o.d)=false from aq];exact fun h=>nomatch h)]at this;exact this
end
section
variable{n t:Nat}{h:List Cell}
theorem rt{C:Calls}{a b:ao}{st st1 st2:St}{q:Bool}(aa:aj C a st=I (.v (.bool true),st1))(ab:aj C b st1=I (.v (.bool q),st2)):aj C (.and a b) st=I (.v (.bool q),st2):=bG aa (bz rfl (rf (bG ab rfl)))
noncomputable abbrev IY:ao:=.and (.attr (.loc 0) 50) (.and (.cmp (.loc 9) .eq (.lst .nil)) (.and (.cmp (.loc 10) .eq .cw) (.cmp (.loc 12) .eq (.bin .sub (.bi .len (.cons (.loc 2) .nil)) (.const (.int 1))))))
theorem Vi{C:Calls}{G:gZ}{s:de}{ee:List Cell}{vs:List V}{i:Nat}{lo:List (Option X)}(iH:h[G.i9]? =I (.inst 10 (lC G.s G.z G.most (c' G.g) G.last (jB G.S))))(hf:fit vs.length=true)
  (h0:lo[0]? =I (I (.cell G.i9))) (ab:lo[2]? =I (I (.v (.lst vs)))) (s9:lo[9]? =I (I (.cell h.length))) (Bs:lo[10]? =I (I (.cell (h.length+1)))) (Bt:lo[12]? =I (I (.v (.int (i:Nat))))):
  ∃ee',aj C IY ⟨lo,hl h G.N s ee,t,h.length⟩=I (.v (.bool (G.last&&(s.kept.isEmpty&&(s.best.isEmpty&&U (i+1=vs.length))))),⟨lo,hl h G.N s ee',t,h.length⟩):=by
 obtain⟨kept,best,least⟩:=s;have aB:aj C (.attr (.loc 0) 50) ⟨lo,hl h G.N ⟨kept,best,least⟩ ee,t,h.length⟩=I (.v (.bool G.last),⟨lo,hl h G.N ⟨kept,best,least⟩ ee,t,h.length⟩):=tD (aP h0) (e7 (e:=.lst (kept.map (cG G.N)):: .cw (fP G.N best):: .cw (gk least)::ee) iH) rfl;cases cv:G.last with
 |false=>replace aB:=cv▸aB;exact⟨ee,tB aB rfl⟩
 |true=>
 replace aB:=cv▸aB;have ai:aj C (.cmp (.loc 9) .eq (.lst .nil)) ⟨lo,hl h G.N ⟨kept,best,least⟩ ee,t,h.length⟩=I (.v (.bool kept.isEmpty),⟨lo,hl h G.N ⟨kept,best,least⟩ ee,t,h.length⟩):=by refine hV (aP s9) (hW di rfl) (bz (a:=.lst (kept.map (cG G.N))) (eo (gV (eY 0)) rfl) (bz rfl ?_));cases kept<;>rfl
 induction kept using bY with
 |cons k r=>exact⟨ee,rt aB (tB ai rfl)⟩
 |nil=>
 have aw:aj C .cw ⟨lo,hl h G.N ⟨[],best,least⟩ ee,t,h.length⟩=I (.cell (h.length+(3+ee.length)),⟨lo,hl h G.N ⟨[],best,least⟩ (ee++[.cw []]),t,h.length⟩):=by erw[wx,b4,eR];show I (X.cell (h.length+(ee.length+3)),_)=_;erw[o3 ee.length 3];rfl
 have hd:aj C (.cmp (.loc 10) .eq .cw) ⟨lo,hl h G.N ⟨[],best,least⟩ ee,t,h.length⟩=I (.v (.bool best.isEmpty),⟨lo,hl h G.N ⟨[],best,least⟩ (ee++[.cw []]),t,h.length⟩):=hV (aP Bs) aw (bz ((eY 1).trans rfl) (bz ((eY (3+ee.length)).trans (by erw[o3];show(ee++[Cell.cw []])[ee.length]? =_;exact tE)) (by cases best<;>rfl)))
 induction best using bY with
 |cons=>exact⟨_,rt aB (rt ai (tB hd rfl))⟩
 |nil=>
 refine⟨ee++[.cw []],rt aB (rt ai (rt hd ?_))⟩;have:U ((i:Int)=(vs.length:Int)-1)=U (i+1=vs.length):=decide_eq_decide.mpr ⟨fun h=>Mj ‹_›,fun h=>Mi ‹_›⟩;show aj C _ _=I (X.v (V.bool (U (i+1=vs.length))),_);erw[←this];exact mq (aP Bt) (oC (fY (bH (aP ab) cW) (j4 hf)) a9)
theorem Vj{C:Calls}{Q:R→St→Prop}{ss:bD}{G:gZ}{s:de}{ee:List Cell}{vs:List V}{i:Nat}{lo:List (Option X)}(iH:h[G.i9]? =I (.inst 10 (lC G.s G.z G.most (c' G.g) G.last (jB G.S))))(hf:fit vs.length=true)
  (h0:lo[0]? =I (I (.cell G.i9))) (ab:lo[2]? =I (I (.v (.lst vs)))) (s9:lo[9]? =I (I (.cell h.length))) (Bs:lo[10]? =I (I (.cell (h.length+1)))) (Bt:lo[12]? =I (I (.v (.int (i:Nat)))))
  (av:∀ee',Wp Q (bI C ss ⟨lo.set 18 (I (.v (.bool (G.last&&(s.kept.isEmpty&&(s.best.isEmpty&&U (i+1=vs.length))))))),hl h G.N s ee',t,h.length⟩)):Wp Q (bI C (.cons (.assign (.loc 18) IY) ss) ⟨lo,hl h G.N s ee,t,h.length⟩):=
 by obtain⟨ee',e⟩:=Vi (C:=C) (s:=s) (ee:=ee) (t:=t) iH hf h0 ab s9 Bs Bt;exact dT e (av ee')
inductive oK(G:gZ)(act:List bc)(b:Nat)(h:List Cell)(t:Nat)(vs:List V)(st:St):Prop where
 |mk (pre r:List bc) (s:de) (ee:List Cell) (c5 x13 x14 fF hn iI x18 x19 x20 x21 x22 x23 x24 ho:Option X) (ay:act=pre++r) (au:vs=pairs pre.length (r.map (cG G.N))) (bo:ig G.par G.last act.length b pre.length r s=ig G.par G.last act.length b 0 act ⟨[],[],[]⟩) (cg:s.kept.length≤pre.length) (dC:s.least.length≤pre.length) (gG:j7 s)
  (wR:st=⟨[I (.cell G.i9),I (.v (nx (G.N b))),I (.v (.lst (act.map (cG G.N)))),I (.v (.bool (U ((G.N b).p=G.len)))),I (.v (.int (G.N b).p)),I (.v (.int (G.N b).b9)),I (.v (.int (G.N b).sort)),I (.v (c' (G.N b).en)),I (.cell G.s),I (.cell h.length),I (.cell (h.length+1)),I (.cell (h.length+2)),c5,x13,x14,fF,hn,iI,x18,x19,x20,x21,x22,x23,x24,ho],hl h G.N s ee,t,h.length⟩)
def p2(w:bc):Prop:=0≤w.line∧w.line≤13
theorem Vk{G:gZ}{b:Nat}{w:bc}(hw:p2 w):(4≤G.par.key b w∧G.par.key b w<64)∧G.par.key b w/4=G.par.cC (w.line+1):=by
 have av:mx (e8 G.z (gj G.g (G.N w.cA) (G.N b))):=p1;have aa:0≤G.par.fit w.cA b:=av.f0;have ab:G.par.fit w.cA b≤3:=av.f1;have aq:1≤G.par.cC (w.line+1)∧G.par.cC (w.line+1)≤14:=by
  show 1≤(bif U (G.S.loose=0)then 1 else w.line+1)∧(bif U (G.S.loose=0)then 1 else w.line+1)≤14;cases U (G.S.loose=0)
  ·exact⟨Int.le_add_of_nonneg_left hw.1,kl hw.2 1⟩
  ·exact(⟨by decide,by decide⟩:(1:Int)≤1∧(1:Int)≤14)
 exact⟨⟨kh (CY aq.1 (by decide)) aa,mC (kh (CY aq.2 (by decide)) ab) (by decide)⟩,(q5 ⟨aa,ab⟩).1⟩
theorem IZ{P:bM}{l:Bool}{m b i:Nat}{w:bc}{s:de}{o X:Bool}(aO:P.over b w=o)(my:gS P l m b i w s=X)(ab:(U (P.most<P.bad w.cA b)&& !X)=true):turn P l m b i w s=if o then s else⟨s.kept++[w],s.best,s.least⟩:=by subst aO my;exact if_pos ab
theorem Bu{P:bM}{l:Bool}{m b i:Nat}{w:bc}{s:de}{o X:Bool}(aO:P.over b w=o)(my:gS P l m b i w s=X)(ab:(U (P.most<P.bad w.cA b)&& !X)=false):turn P l m b i w s=put P b w (if X then w.bJ else P.fN b w) (if o then s else⟨s.kept++[w],s.best,s.least⟩):=by subst aO my;exact if_neg (by erw[ab];decide)
structure TurnOk(s s':de):Prop where
 k:j7 s'
 kept:s'.kept.length≤s.kept.length+1
 least:s'.least.length≤s.least.length+1
theorem I0{G:gZ}{b i:Nat}{m:Nat}{w:bc}{s:de}(hw:p2 w)(aL:j7 s):TurnOk s (turn G.par G.last m b i w s):=by
 have ai:=Vk (G:=G) (b:=b) hw;have aux:∀(s1:de) (d:Int),j7 s1→s1.kept.length≤s.kept.length+1→s1.least=s.least→TurnOk s (put G.par b w d s1):=fun s1 d aa ab aq=>by
  refine⟨Ve aa ai.1 ai.2,?_,?_⟩
  ·unfold put;refine Tactic.eT (fun h=>?_) (fun h=>?_)<;>exact ab
  ·unfold put;refine Tactic.eT (fun h=>?_) (fun h=>?_)
   ·erw[aq];exact Vc
   ·erw[aq];exact lM _
 have aa:j7 (if G.par.over b w then s else⟨s.kept++[w],s.best,s.least⟩):=by refine Tactic.eT (fun h=>?_) (fun h=>?_);exact aL;exact⟨aL.nd,aL.ik,aL.low⟩
 have ab:(if G.par.over b w then s else⟨s.kept++[w],s.best,s.least⟩:de).kept.length≤s.kept.length+1:=by refine Tactic.eT (fun h=>?_) (fun h=>?_);exact lM _;exact eQ b4
 have aq:(if G.par.over b w then s else⟨s.kept++[w],s.best,s.least⟩:de).least=s.least:=by refine Tactic.eT (fun h=>?_) (fun h=>?_)<;>rfl
 unfold turn
 dsimp only
 refine Tactic.eT (fun h=>?_) (fun h=>?_)
 ·exact⟨aa,ab,by erw[aq];exact lM _⟩
 ·exact aux _ _ aa ab aq
theorem oK.next{G:gZ}{act:List bc}{b:Nat}{pre r:List bc}{w:bc}{s s':de}{ee:List Cell}{c5 x13 x14 fF hn iI x18 x19 x20 x21 x22 x23 x24 ho:Option X}(hw:p2 w)(ay:act=pre++w::r)(bo:ig G.par G.last act.length b pre.length (w::r) s=ig G.par G.last act.length b 0 act ⟨[],[],[]⟩)(cg:s.kept.length≤pre.length)(dC:s.least.length≤pre.length)(gG:j7 s)(aL:turn G.par G.last act.length b pre.length w s=s'):
  oK G act b h t (pairs (pre.length+1) (r.map (cG G.N))) ⟨[I (.cell G.i9),I (.v (nx (G.N b))),I (.v (.lst (act.map (cG G.N)))),I (.v (.bool (U ((G.N b).p=G.len)))),I (.v (.int (G.N b).p)),I (.v (.int (G.N b).b9)),I (.v (.int (G.N b).sort)),I (.v (c' (G.N b).en)),I (.cell G.s),I (.cell h.length),I (.cell (h.length+1)),I (.cell (h.length+2)),c5,x13,x14,fF,hn,iI,x18,x19,x20,x21,x22,x23,x24,ho],hl h G.N s' ee,t,h.length⟩:=by
 subst aL;have k:=I0 (G:=G) (b:=b) (i:=pre.length) (m:=act.length) hw gG;have ar:(pre++[w]).length=pre.length+1:=b4;exact .mk (pre++[w]) r _ ee c5 x13 x14 fF hn iI x18 x19 x20 x21 x22 x23 x24 ho (by erw[ay,eR];rfl) (by erw[ar]) (by erw[ar];exact bo) (by erw[ar];exact bR k.kept (je cg)) (by erw[ar];exact bR k.least (je dC)) k.k rfl
theorem I1{G:gZ}{b:Nat}{w:bc}:w.bJ+(nu G.S.cT (G.par.bad w.cA b) (G.N b).b9+p0 G.S (U ((G.N b).sort=1)&&U ((G.N w.cA).sort=1)) (U ((G.N b).p=G.len)) (((G.par.fit w.cA b-w.fit).natAbs:Nat):Int))=G.par.fN b w:=by
 have:(bif U ((((G.par.fit w.cA b-w.fit).natAbs:Nat):Int)>1)then G.S.cu else 0)=G.par.cu (G.par.fit w.cA b) w.fit:=by
  delta bM.cu;refine bZ (fun c:1<(G.par.fit w.cA b-w.fit).natAbs=>?_) (fun c=>?_)
  ·erw[if_pos c,decide_eq_true (by exact mI ‹_›)];rfl
  ·erw[if_neg c,decide_eq_false (by exact Du ‹_›)];rfl
 delta bM.fN p0;erw[this];show _=w.bJ+(nu G.S.cT (G.par.bad w.cA b) (G.N b).b9+_)+_;erw[qx w.bJ,qx]
end
section
variable{n t:Nat}{h:List Cell}
inductive tP(G:gZ)(b:Nat)(s:de)(h:List Cell)(t:Nat)(vs:List V)(st:St):Prop where
 |mk (a8:List Int) (acc:List V) (ee:List Cell) (x0 x2 x3 x4 x5 x6 x7 c5 x13 x14 fF hn iI x18 x19 x20 x21 x22 x23 x24 ho:Option X) (au:vs=a8.map .int) (bo:acc++(a8.filterMap (iE G.par b s)).map (cG G.N)=(fin G.par b s).map (cG G.N)) (cg:acc.length+a8.length≤6000) (dC:∀k,k∈a8→k∈s.best.map (·.1))
  (wR:st=⟨[x0,I (.v (nx (G.N b))),x2,x3,x4,x5,x6,x7,I (.cell G.s),I (.cell h.length),I (.cell (h.length+1)),I (.cell (h.length+2)),c5,x13,x14,fF,hn,iI,x18,x19,x20,x21,x22,x23,x24,ho],h++ .lst acc:: .cw (fP G.N s.best):: .cw (gk s.least)::ee,t,h.length⟩)
theorem zE{st:St}{m:Nat}{kv:List (Int×V)}(hd:st.jl m=I kv)(ar:kv.length<64):hO .sorted st [.cell m]=I (.v (.lst ((sortI (kv.map (·.1))).map .int)),st):=by have e:hO .sorted st [.cell m]=(st.jl m).bind fun kvs=>if[X.cell m].length=1∧kvs.length<64 then I (.v (.lst ((sortI (kvs.map (·.1))).map .int)),st)else J:=rfl;erw[e];exact bz hd (if_pos ⟨rfl,ar⟩)
theorem I2:∀l:List Int,(sortI l).length=l.length:=by
 intro aT
 induction aT with
 |nil=>exact rfl
 |cons a r aD=>
  have:∀l:List Int,(insI a l).length=l.length+1:=fun l=>by
   induction l with
   |nil=>rfl
   |cons b r aG=>erw[DO];refine Tactic.eT (fun h=>?_) (fun h=>?_);rfl;erw[gA,aG];rfl
  erw[DP,this,aD];rfl
theorem Vl{P:bM}{b:Nat}{s:de}:(fin P b s).length≤s.kept.length+s.best.length:=by unfold fin;erw[b4];have:=Z7 (iE P b s) (sortI (s.best.map (·.1)));rw[I2,bF]at this;exact lQ ‹_› _
theorem I3{N:Nat→fE}{l:List (Int×Ent)}:(fP N l).map (·.1)=l.map (·.1):=jO
theorem Vm{P:bM}{b:Nat}{s:de}{k v:Int}{o:Ent}(aO:lk k s.best=I o)(aJ:lk (k/4) s.least=I v):iE P b s k=if o.d≤v+P.A then I (.go b o.ln (k%4) o.d o.w)else J:=by unfold iE;erw[aO,aJ];rfl
noncomputable abbrev Vn:bD:=.cons (.mL (.one 12) (.of (.bi .sorted (.cons (.loc 10) .nil))) (.cons (.assign (.tup (.cons (.loc 19) (.cons (.loc 13) (.cons (.loc 14) .nil)))) (.item (.loc 10) (.loc 12))) (.cons (.ite (.cmp (.loc 19) .le (.bin .add (.item (.loc 11) (.bin .fdiv (.loc 12) (.const (.int 4)))) (.bi .abs (.cons (.attr (.loc 8) 34) .nil))))
 (.cons (.expr (.append (.loc 9) (.new 9 (.cons (.loc 1) (.cons (.loc 14) (.cons (.bin .mod (.loc 12) (.const (.int 4))) (.cons (.loc 19) (.cons (.loc 13) .nil)))))))) .nil) .nil) .nil))) (.cons (.ret (.loc 9)) .nil)
theorem tP.next{G:gZ}{b:Nat}{s:de}{k:Int}{a8:List Int}{acc I4 new:List V}{ee:List Cell}{x0 x2 x3 x4 x5 x6 x7 c5 x13 x14 fF hn iI x18 x19 x20 x21 x22 x23 x24 ho:Option X}(bo:acc++((k::a8).filterMap (iE G.par b s)).map (cG G.N)=(fin G.par b s).map (cG G.N))(cg:acc.length+(k::a8).length≤6000)(dC:∀j,j∈k::a8→j∈s.best.map (·.1))(aA:new=(iE G.par b s k).toList.map (cG G.N))(aB:acc++new=I4):
  tP G b s h t (a8.map .int) ⟨[x0,I (.v (nx (G.N b))),x2,x3,x4,x5,x6,x7,I (.cell G.s),I (.cell h.length),I (.cell (h.length+1)),I (.cell (h.length+2)),c5,x13,x14,fF,hn,iI,x18,x19,x20,x21,x22,x23,x24,ho],h++ .lst I4:: .cw (fP G.N s.best):: .cw (gk s.least)::ee,t,h.length⟩:=by
 subst aB aA;refine .mk a8 _ ee x0 x2 x3 x4 x5 x6 x7 c5 x13 x14 fF hn iI x18 x19 x20 x21 x22 x23 x24 ho rfl ?_ ?_ (fun j a'=>dC j (.tail _ a')) rfl
 ·erw[←bo,eR,←fy];cases aE:iE G.par b s k with
  |none=>erw[uA,aE];rfl
  |some w=>erw[uA,aE];rfl
 ·rw[gA]at cg;erw[b4,bF];cases iE G.par b s k with
  |none=>exact da ‹_›
  |some=>exact yc ‹_›
theorem Vo{G:gZ}{b:Nat}{s:de}{ee:List Cell}{x0 x2 x3 x4 x5 x6 x7 c5 x13 x14 fF hn iI x18 x19 x20 x21 x22 x23 x24 ho:Option X}(ok:Bm G h)(ai:j7 s)(ar:s.kept.length≤5000):Wp (Out false h (.v (.lst ((fin G.par b s).map (cG G.N))),h,t)) (bI (bu bl (n+2)) Vn ⟨[x0,I (.v (nx (G.N b))),x2,x3,x4,x5,x6,x7,I (.cell G.s),I (.cell h.length),I (.cell (h.length+1)),I (.cell (h.length+2)),c5,x13,x14,fF,hn,iI,x18,x19,x20,x21,x22,x23,x24,ho],hl h G.N s ee,t,h.length⟩):=by
 have hd:∀lo,St.jl ⟨lo,hl h G.N s ee,t,h.length⟩ (h.length+1)=I (fP G.N s.best):=fun lo=>bz ((eY 1).trans rfl) rfl;have vk:=ai.len;have Vp:(sortI (s.best.map (·.1))).length=s.best.length:=by erw[I2,bF]
 refine gW (hj (fY (bH (by repeat1' fail) cW) (zE (hd _) (by unfold fP;erw[bF];exact nU ‹_› rfl))) rfl (dO (by erw[I3,bF];exact x1 ‹_› ‹_› rfl))) ?_;erw[I3];refine i5 (tP G b s h t) ?_ ?_ _ _ (.mk _ (s.kept.map (cG G.N)) ee x0 x2 x3 x4 x5 x6 x7 c5 x13 x14 fF hn iI x18 x19 x20 x21 x22 x23 x24 ho rfl ?_ (by erw[bF,Vp];exact kn ‹_› ‹_› rfl) (fun k ai=>HV.mp ai) rfl)
 ·rintro v vs st ⟨a8,acc,ee,x0,x2,x3,x4,x5,x6,x7,c5,x13,x14,fF,hn,iI,x18,x19,x20,x21,x22,x23,x24,ho,au,bo,cg,dC,rfl⟩
  induction a8 using bY with
  |nil=>injections au
  |cons k a8=>
  obtain⟨rfl,rfl⟩:=List.cons.inj au;have I5:=dC k (.head _);obtain⟨o,aO⟩:=HT.mp I5;obtain⟨v,aJ⟩:=ai.low k I5;have Vq:n0 (.cw (fP G.N s.best)) (.int k)=I (.v (.tup [.int o.d,cG G.N o.w,.int o.ln])):=by show(g7 k (fP G.N s.best)).map X.v=_;unfold fP;erw[wO,aO];rfl
  have Vr:n0 (.cw (gk s.least)) (.int (k.fdiv 4))=I (.v (.int v)):=by show(g7 (k.fdiv 4) (gk s.least)).map X.v=_;unfold gk;erw[wO,r1 _ (by decide),aJ];rfl
  have hf:=dO (by rw[gA]at cg;exact yd ‹_› rfl);have aA:=Vm (P:=G.par) (b:=b) aO aJ;have ax:((G.S.cu.natAbs:Nat):Int)=G.par.A:=xI ok.cu;refine fun Q cR el=>⟨_,fD,?_⟩
  iterate (first|exact eY 1|exact eY 2|exact Vq|exact Vr|exact(e7 (e:=.lst acc:: .cw (fP G.N s.best):: .cw (gk s.least)::ee) ok.aL))
  ·intro aa;rw[ax]at aa
   iterate (first|with_reducible exact Iz|exact hf)
   rw[if_pos (of_decide_eq_true aa)]at aA;exact cR _ _ rfl (tP.next bo cg dC (by erw[aA,←aah _ (by decide)];rfl) rfl)
  ·intro aa;rw[ax]at aa
   iterate fail
   rw[if_neg (of_decide_eq_false aa)]at aA;exact cR _ _ rfl (tP.next bo cg dC (new:=[]) (by erw[aA];rfl) (ei _))
 ·rintro st ⟨a8,acc,ee,x0,x2,x3,x4,x5,x6,x7,c5,x13,x14,fF,hn,iI,x18,x19,x20,x21,x22,x23,x24,ho,au,bo,cg,dC,rfl⟩
  induction a8 using bY with
  |cons=>injections au
  |nil=>
  show Wp _ _
  iterate fail
  exact wD 0 rfl (by erw[←bo];exact(ei _).symm)
 ·unfold fin;erw[fy]
end
section
variable{n t:Nat}{h:List Cell}
set_option maxHeartbeats 2000000 in
theorem Vs{G:gZ}{act:List bc}{b:Nat}(ok:Bm G h)(hw:∀w,w∈act→p2 w)(aA:act.length≤5000):bu bl (n+3) 34 [.cell G.i9,.v (nx (G.N b)),.v (.lst (act.map (cG G.N))),.v (.bool (U ((G.N b).p=G.len)))] h t h.length=I (.v (.lst ((lx G.par G.last b act).map (cG G.N))),h,t):=by
 have I6:fit (act.map (cG G.N)).length=true:=fZ (by assumption) (by first|decide|lia)
 ac_rfl
 have iH:=ok.iH;refine hk (by repeat1' (exact rfl)) (by iterate fail) ?_;refine dT (by repeat1' (exact iH)) ?_;refine hk Vf (by iterate fail) ?_;refine gW (A3 (by repeat1' fail) I6) ?_;refine i5 (oK G act b h t) ?_ ?_ _ _ (.mk [] act ⟨[],[],[]⟩ [] J J J J J J J J J J J J J J rfl rfl rfl (bE _) (bE _) ⟨.nil,fun ag h=>(nomatch h),fun ag h=>(nomatch h)⟩ rfl)
 ·rintro v vs st ⟨pre,r,s,ee,c5,x13,x14,fF,hn,iI,x18,x19,x20,x21,x22,x23,x24,ho,ay,au,bo,cg,dC,gG,rfl⟩;cases r with
  |nil=>cases au
  |cons w r=>
  obtain⟨rfl,rfl⟩:=List.cons.inj au;have j8:p2 w:=hw w (by erw[ay];simp);have iC:pre.length≤5000:=bR (CZ pre (w::r)).length_le (ay▸aA);have av:mx (e8 G.z (gj G.g (G.N w.cA) (G.N b))):=p1;have q8:Num (G.par.bad w.cA b):=⟨d0 (show 0≤G.par.bad w.cA b from av.lV) rfl,d3 (show G.par.bad w.cA b≤10001 from av.g4) rfl⟩
  refine fun Q cR el=>⟨_,tG,?_⟩;obtain⟨T,d'⟩:∃T,T=Bq:=⟨_,rfl⟩
  unfold Bq at d';erw[←d'];have a5:=e7 (e:=.lst (s.kept.map (cG G.N)):: .cw (fP G.N s.best):: .cw (gk s.least)::ee) iH;have eW:=ok.eW;have aM:1≤w.line+1:=kl j8.1 1;have bt:w.line+1≤4294967294:=d3 (kl j8.2 1) rfl;have eH:∀{h:List Cell},bu bl (n+2) 31 [.v (.int G.z),.v (bif U ((G.N w.cA).st>(G.N b).p)then c' G.g else c' fun k=>(G.N b).en k-(G.N w.cA).jC k+G.g k)] h t h.length=I (.v (.tup [.int (G.par.bad w.cA b),.int (G.par.fit w.cA b)]),h,t):=fun{h}=>by
   have e:(bif U ((G.N w.cA).st>(G.N b).p)then c' G.g else c' fun k=>(G.N b).en k-(G.N w.cA).jC k+G.g k)=c' (gj G.g (G.N w.cA) (G.N b)):=by unfold gj;cases U ((G.N w.cA).st>(G.N b).p)<;>rfl
   erw[e];exact U' (ok.fit w.cA b)
  iterate (first|((with_reducible apply IT);(repeat1' fail))|((with_reducible apply Bo eW);(repeat1' fail))|with_reducible exact U3|with_reducible exact UR aM bt|exact a5|exact eH)
  ·intro aa;refine rk ?_;intro _;have aO:G.par.over b w=true:=aa;refine Vj (i:=pre.length) iH I6 rfl rfl rfl rfl rfl fun ee'=>?_;have Vt:(G.last&&(s.kept.isEmpty&&(s.best.isEmpty&&U (pre.length+1=(act.map (cG G.N)).length))))=gS G.par G.last act.length b pre.length w s:=by unfold gS;erw[aO,bF,lT]
   erw[Vt];generalize my:gS G.par G.last act.length b pre.length w s=X;have a5:=e7 (e:=.lst (s.kept.map (cG G.N)):: .cw (fP G.N s.best):: .cw (gk s.least)::ee') iH;have tQ:=e7 (e:=.lst (s.kept.map (cG G.N)):: .cw (fP G.N s.best):: .cw (gk s.least)::ee') ok.aL
   iterate (exact a5)
   ·intro ab;refine rk ?_;intro _
    iterate fail
    exact cR _ _ rfl (oK.next j8 ay bo cg dC gG (IZ aO my ab))
   ·intro ab;refine rk ?_;intro _
    iterate ((with_reducible apply wQ);(repeat1' fail))
    ·intro aq;have ar:=IM (n:=n+1) (t:=t) tQ ok.cT q8 (ok.b9 b);have hp:=fun(tw en:Bool) ap=>IP (n:=n+1) (t:=t) (tw:=tw) (en:=en) (ap:=ap) tQ
     iterate (first|((with_reducible apply IU);(repeat1' fail))|((with_reducible apply Bo eW);(repeat1' fail))|exact ar|exact hp _ _ _)
     erw[I1,d'];refine Br iH j8.1 (d3 j8.2 rfl) (cz gG.len rfl) (r4 dC iC rfl) fun x22=>cR _ _ rfl (oK.next j8 ay bo cg dC gG ((Bu aO my ab).trans (by erw[show X=false from by revert aq;cases X<;>decide];rfl)))
    ·intro aq;erw[d'];refine Br iH j8.1 (d3 j8.2 rfl) (cz gG.len rfl) (r4 dC iC rfl) fun x22=>cR _ _ rfl (oK.next j8 ay bo cg dC gG ((Bu aO my ab).trans (by erw[show X=true from by revert aq;cases X<;>decide];rfl)))
  ·intro aa;refine rk ?_;intro _;have aO:G.par.over b w=false:=aa;have my:gS G.par G.last act.length b pre.length w s=false:=by unfold gS;erw[aO];rfl
   have Vu:fit (s.kept.map (cG G.N)).length=true:=fZ (by assumption) (by first|decide|lia)
   have a5:=e7 (e:=.lst (s.kept.map (cG G.N)++[cG G.N w]):: .cw (fP G.N s.best):: .cw (gk s.least)::ee) iH;have tQ:=e7 (e:=.lst (s.kept.map (cG G.N)++[cG G.N w]):: .cw (fP G.N s.best):: .cw (gk s.least)::ee) ok.aL;have I7:s.kept.map (cG G.N)++[cG G.N w]=(s.kept++[w]).map (cG G.N):=by erw[fy];rfl
   iterate (first|exact Vu|exact a5)
   ·intro ab;refine rk ?_;intro _
    iterate fail
    erw[I7];exact cR _ _ rfl (oK.next (s':=⟨s.kept++[w],s.best,s.least⟩) j8 ay bo cg dC gG (IZ aO my ab))
   ·intro ab;refine rk ?_;intro _;have ar:=IM (n:=n+1) (t:=t) tQ ok.cT q8 (ok.b9 b);have hp:=fun(tw en:Bool) ap=>IP (n:=n+1) (t:=t) (tw:=tw) (en:=en) (ap:=ap) tQ
    iterate (first|((with_reducible apply wQ);(repeat1' fail))|((with_reducible apply IU);(repeat1' fail))|((with_reducible apply Bo eW);(repeat1' fail))|exact ar|exact hp _ _ _)
    erw[I1,d',I7];refine Br (s:=⟨s.kept++[w],s.best,s.least⟩) iH j8.1 (d3 j8.2 rfl) (cz gG.len rfl) (r4 dC iC rfl) fun x22=>cR _ _ rfl (oK.next j8 ay bo cg dC gG (Bu aO my ab))
 ·rintro st ⟨pre,r,s,ee,c5,x13,x14,fF,hn,iI,x18,x19,x20,x21,x22,x23,x24,ho,ay,au,bo,cg,dC,gG,rfl⟩;cases r with
  |cons=>cases au
  |nil=>
  have hs:(fin G.par b s)=lx G.par G.last b act:=congrArg (fin G.par b) bo;have iC:pre.length≤5000:=bR (CZ pre []).length_le (ay▸aA);erw[←hs];exact Vo ok gG (bR cg iC)
end
section
variable{n t:Nat}{h:List Cell}
inductive Vv(N:Nat→fE)(ws:List bc)(L:Int)(h:List Cell)(t:Nat)(vs:List V)(st:St):Prop where
 |mk (r:List bc) (b:bc) (x3 x4 x5 x6 x7 cX cY x10:Option X) (au:vs=r.map (cG N)) (bo:bestOf b r=bestOf (ws.headD .root) ws) (wR:st=⟨[I (.v (.lst (ws.map (cG N)))),I (.v (.int L)),I (.v (cG N b)),x3,x4,x5,x6,x7,cX,cY,x10],h,t,h.length⟩)
inductive Vw(N:Nat→fE)(ws:List bc)(L:Int)(b:bc)(h:List Cell)(t:Nat)(vs:List V)(st:St):Prop where
 |mk (r:List bc) (s:bc×Int) (x3 x6 x7 cX cY x10:Option X) (au:vs=r.map (cG N)) (bo:r.foldl (fC b.line L) s=ws.foldl (fC b.line L) (b,0)) (wR:st=⟨[I (.v (.lst (ws.map (cG N)))),I (.v (.int L)),I (.v (cG N b)),x3,I (.v (cG N s.1)),I (.v (.int s.2)),x6,x7,cX,cY,x10],h,t,h.length⟩)
theorem Vx{a b c d e f:Prop}[Decidable a][Decidable b][Decidable c][Decidable d][Decidable e][Decidable f](h:((decide a&&decide b||decide c&&decide d)||decide e&&decide f)=true):(a∧b∨c∧d)∨e∧f:=by simpa using h
theorem Vy{a b c d e f:Prop}[Decidable a][Decidable b][Decidable c][Decidable d][Decidable e][Decidable f](h:((decide a&&decide b||decide c&&decide d)||decide e&&decide f)=false):¬((a∧b∨c∧d)∨e∧f):=fun x=>by
 have:((decide a&&decide b||decide c&&decide d)||decide e&&decide f)=true:=by simpa using x
 rw[h]at this;injections this
theorem tu{N:Nat→fE}{ws:List bc}{L:Int}(aA:ws≠[])(ar:ws.length≤5000):bu bl (n+1) 35 [.v (.lst (ws.map (cG N))),.v (.int L)] h t h.length=I (.v (.tup [cG N (picked ws L).1,.int (picked ws L).2]),h,t):=by
 have hf:fit (ws.map (cG N)).length=true:=fZ (by assumption) (by first|decide|lia)
 have h0:gL (.lst (ws.map (cG N))) (.int 0)=I (cG N (ws.headD .root)):=by
  induction ws using bY with
  |nil=>exact absurd rfl aA
  |cons w r=>exact item_at (k:=0) rfl rfl (by decide)
 ac_rfl
 iterate (exact h0)
 refine gW (hj (by repeat1' fail) rfl hf) ?_;refine i5 (Vv N ws L h t) ?_ ?_ _ _ (.mk ws _ _ _ _ _ _ _ _ _ rfl rfl rfl)
 ·rintro v vs st ⟨r,b,x3,x4,x5,x6,x7,cX,cY,x10,au,bo,rfl⟩
  induction r using bY with
  |nil=>injections au
  |cons w r=>
  obtain⟨rfl,rfl⟩:=List.cons.inj au;have bo:bestOf (if w.bJ<b.bJ then w else b) r=_:=bo;refine fun Q cR el=>⟨_,fD,?_⟩
  iterate ((with_reducible apply wQ);(repeat1' fail))
  ·intro aa
   iterate fail
   rw[if_pos (of_decide_eq_true aa)]at bo;exact cR _ _ rfl (.mk r w _ _ _ _ _ _ _ _ rfl bo rfl)
  ·intro aa
   iterate fail
   rw[if_neg (of_decide_eq_false aa)]at bo;exact cR _ _ rfl (.mk r b _ _ _ _ _ _ _ _ rfl bo rfl)
 ·rintro st ⟨r,b,x3,x4,x5,x6,x7,cX,cY,x10,au,bo,rfl⟩
  induction r using bY with
  |cons=>injections au
  |nil=>
  have bo:b=_:=bo;show Wp _ _
  iterate fail
  ·intro aa;have cv:L≠0:=by intro e;rw[e]at aa;exact absurd aa (by decide)
   refine gW (hj (by repeat1' fail) rfl hf) ?_;refine i5 (Vw N ws L b h t) ?_ ?_ _ _ (.mk ws (b,0) _ _ _ _ _ _ rfl rfl rfl)
   ·rintro v vs st ⟨r,s,x3,x6,x7,cX,cY,x10,au,bo,rfl⟩
    induction r using bY with
    |nil=>injections au
    |cons w r=>
    obtain⟨rfl,rfl⟩:=List.cons.inj au;have bo:r.foldl (fC b.line L) (fC b.line L s w)=_:=bo;unfold fC at bo;refine fun Q cR el=>⟨_,fD,?_⟩
    iterate (first|((with_reducible apply wQ);(repeat1' fail))|((with_reducible apply IT);(repeat1' fail)))
    ·intro aa
     iterate fail
     rw[if_pos (Vx aa)]at bo;exact cR _ _ rfl (.mk r (w,w.line-b.line) _ _ _ _ _ _ rfl bo rfl)
    ·intro aa
     iterate fail
     rw[if_neg (Vy aa)]at bo;exact cR _ _ rfl (.mk r s _ _ _ _ _ _ rfl bo rfl)
   ·rintro st ⟨r,s,x3,x6,x7,cX,cY,x10,au,cg,rfl⟩
    induction r using bY with
    |cons=>injections au
    |nil=>
    show Wp _ _
    iterate fail
    have cg:s=_:=cg;refine dN ?_;unfold picked;erw[if_neg cv,←bo,←cg]
  ·intro aa;have cv:L=0:=by
    by_cases e:L=0
    ·exact e
    ·rw[decide_eq_false e]at aa;injections aa
   iterate fail
   refine dN ?_;unfold picked;erw[if_pos cv,←bo]
theorem Vz{N:Nat→fE}{C:Calls}{a:ao}{st st1:St}{s:Nat}{l f d:Int}{b:bc}(aa:aj C a st=I (.v (cG N (.go s l f d b)),st1)):aj C (.attr a 45) st=I (.v (cG N b),st1):=hg aa rfl
theorem VA{N:Nat→fE}{w:bc}:kq (cG N w)=false:=by cases w<;>rfl
theorem VB{C:Calls}{N:Nat→fE}{x2 x3 x4:Option X}:∀(w:bc) (acc:List V) (k:Nat),w.path.length<k→acc.length+w.path.length≤1000→lY (fun st=>hN (aj C (.cmp (.attr (.loc 0) 45) .nX (.const .bB)) st)) (bI C (.cons (.expr (.append (.loc 1) (.item (.attr (.loc 0) 41) (.const (.int 0))))) (.cons (.assign (.loc 0) (.attr (.loc 0) 45)) .nil))) k ⟨[I (.v (cG N w)),I (.cell h.length),x2,x3,x4],h++[.lst acc],t,h.length⟩=I (.next,⟨[I (.v (cG N .root)),I (.cell h.length),x2,x3,x4],h++[.lst (acc++w.path.map fun s=>.int (N s).p)],t,h.length⟩):=by
 intro w
 induction w with
 |root=>
  intro acc k ai _
  induction k using fe with
  |zero=>exact absurd ai (o6 _)
  |succ k=>have e:aj C (.cmp (.attr (.loc 0) 45) .nX (.const .bB)) ⟨[I (.v (cG N .root)),I (.cell h.length),x2,x3,x4],h++[.lst acc],t,h.length⟩=I (.v (.bool false),⟨[I (.v (cG N .root)),I (.cell h.length),x2,x3,x4],h++[.lst acc],t,h.length⟩):=wt (u:=.bB) (hg (aP rfl) rfl);erw[A8 (tF e)];erw[ei]
 |go s l f d b aD=>
  intro acc k ai ar
  induction k using fe with
  |zero=>exact absurd ai (o6 _)
  |succ k=>
   have hp:(bc.go s l f d b).path.length=b.path.length+1:=rfl;have hf:=dO (yd ‹_› rfl);have e:aj C (.cmp (.attr (.loc 0) 45) .nX (.const .bB)) ⟨[I (.v (cG N (.go s l f d b))),I (.cell h.length),x2,x3,x4],h++[.lst acc],t,h.length⟩=I (.v (.bool (!kq (cG N b))),⟨[I (.v (cG N (.go s l f d b))),I (.cell h.length),x2,x3,x4],h++[.lst acc],t,h.length⟩):=wt (Vz (aP rfl));rw[VA]at e;have ae:Wp (fun r st=>r= .next∧st=⟨[I (.v (cG N b)),I (.cell h.length),x2,x3,x4],h++[.lst (acc++[.int (N s).p])],t,h.length⟩) (bI C (.cons (.expr (.append (.loc 1) (.item (.attr (.loc 0) 41) (.const (.int 0))))) (.cons (.assign (.loc 0) (.attr (.loc 0) 45)) .nil)) ⟨[I (.v (cG N (.go s l f d b))),I (.cell h.length),x2,x3,x4],h++[.lst acc],t,h.length⟩):=by
    iterate (exact hf)
    exact⟨rfl,rfl⟩
   obtain⟨r,st,ae,rfl,rfl⟩:=ae;refine Ii (tF e) ae rfl ?_;have:=aD (acc++[.int (N s).p]) k (kf ‹_›) (by erw[b4];exact yc ‹_›);erw[this,eR];rfl
theorem VC{N:Nat→fE}{w:bc}(hw:w.path.length<100):bu bl (n+1) 36 [.v (cG N w)] h t h.length=I (.v (.lst (w.path.map fun s=>.int (N s).p).reverse),h,t):=by
 ac_rfl
 iterate fail
 refine wC (VB w [] 100 hw (Ml ‹_› rfl)) ?_
 iterate ((with_reducible apply pU);(repeat1' fail);exact eo (gV (eY 0)) rfl;exact dO (by rw[nR,bF];exact qz ‹_› rfl))
 exact nk rfl
end
section
variable{n t:Nat}{h:List Cell}
structure ny(j:Nat)(w:bc):Prop where
 p:(w.path.length:Int)=w.line
 l:w.line≤j
structure p3(j:Nat)(s:de):Prop where
 kept:∀w,w∈s.kept→ny j w
 best:∀k o,lk k s.best=I o→ny j o.w∧o.ln=o.w.line+1
theorem VD{P:bM}{b j:Nat}{w:bc}{d:Int}{s:de}(hw:ny j w)(aL:p3 j s):p3 j (put P b w d s):=by
 unfold put;refine Tactic.eT (fun h=>?_) (fun h=>?_)
 ·refine⟨aL.kept,fun k o e=>?_⟩
  dsimp only at e
  rw[nf]at e
  split at e
  ·injections e;exact⟨hw,rfl⟩
  ·exact aL.best k o e
 ·exact aL
theorem VE{P:bM}{l:Bool}{m b i j:Nat}{w:bc}{s:de}(hw:ny j w)(aL:p3 j s):p3 j (turn P l m b i w s):=by
 have aa:p3 j (if P.over b w then s else⟨s.kept++[w],s.best,s.least⟩):=by
  refine Tactic.eT (fun h=>?_) (fun h=>?_)
  ·exact aL
  ·refine⟨fun v aJ=>?_,aL.best⟩;refine eF (dR.mp aJ) (fun aJ=>?_) (fun aJ=>?_)
   ·exact aL.kept v aJ
   ·rw[dY]at aJ;subst aJ;exact hw
 unfold turn
 dsimp only
 refine Tactic.eT (fun h=>?_) (fun h=>?_)
 ·exact aa
 ·exact VD hw aa
theorem VF{P:bM}{l:Bool}{m b j:Nat}:∀(ws:List bc) (i:Nat) (s:de),(∀w,w∈ws→ny j w)→p3 j s→p3 j (ig P l m b i ws s):=by
 intro aT
 induction aT with
 |nil=>intro _ _ _ h;exact h
 |cons w ws aD=>intro i s hw h;exact aD (i+1) _ (fun v aJ=>hw v (.tail _ aJ)) (VE (hw w (.head _)) h)
theorem VG{G:gZ}{m b:Nat}:∀(ws:List bc) (i:Nat) (s:de),(∀w,w∈ws→p2 w)→j7 s→j7 (ig G.par G.last m b i ws s)∧(ig G.par G.last m b i ws s).kept.length≤s.kept.length+ws.length:=by
 intro aT
 induction aT with
 |nil=>intro _ _ _ h;exact⟨h,bE _⟩
 |cons w ws aD=>intro i s hw h;have k:=I0 (G:=G) (b:=b) (i:=i) (m:=m) (hw w (.head _)) h;have:=aD (i+1) _ (fun v aJ=>hw v (.tail _ aJ)) k.k;refine⟨this.1,bR this.2 ?_⟩;erw[gA];exact bR (Z4 k.kept _) (eQ (Nat.succ_add_eq_add_succ ..))
structure Bv(j:Nat)(l:List bc):Prop where
 w:∀w,w∈l→ny j w
 n:l.length≤1+60*j
theorem ny.ln{j:Nat}{w:bc}(h:ny j w)(a':j≤13):p2 w:=⟨h.p▸nM _,c0 h.l (mI a')⟩
theorem Bw{G:gZ}:∀j,j≤14→Bv j (bK G.par G.last j):=by
 intro eW
 induction eW with
 |zero=>intro _;exact⟨fun w hw=>by erw[dY.mp hw];exact⟨rfl,dZ _⟩,bE _⟩
 |succ j aD=>
  intro a';have aG:=aD (xW a');have ar:=VF (P:=G.par) (l:=G.last) (m:=(bK G.par G.last j).length) (b:=j+1) (j:=j) (bK G.par G.last j) 0 ⟨[],[],[]⟩ aG.w ⟨fun ag h=>(nomatch h),fun ag ag h=>(nomatch h)⟩;refine bC (fun ai aA=>?_) (VG (G:=G) (m:=(bK G.par G.last j).length) (b:=j+1) (bK G.par G.last j) 0 ⟨[],[],[]⟩ (fun w hw=>(aG.w w hw).ln (o7 a')) ⟨.nil,fun ag h=>(nomatch h),fun ag h=>(nomatch h)⟩);show Bv (j+1) (fin G.par (j+1) (ig G.par G.last (bK G.par G.last j).length (j+1) 0 (bK G.par G.last j) ⟨[],[],[]⟩));generalize ig G.par G.last (bK G.par G.last j).length (j+1) 0 (bK G.par G.last j) ⟨[],[],[]⟩=s at ar ai aA;refine⟨fun w hw=>?_,?_⟩
  ·rcases tx.mp hw with hw|⟨key,o,aa,_,rfl⟩
   ·have:=ar.kept w hw;exact⟨this.p,by have:=this.l;exact Mh ‹_›⟩
   ·refine bC (fun ab aq=>?_) (ar.best key o aa);have a:=ab.p;have b:=ab.l;refine⟨?_,?_⟩
    ·exact(Dl a).trans aq.symm
    ·exact c0 (nS aq) (kl b 1)
  ·exact bR Vl (show _≤(1+60*j)+60 from nK (bR aA (bR (eQ (nO _)) aG.n)) ai.len)
theorem VH{P:bM}{l:Bool}{i:Nat}(h:bK P l i=[]):∀d,bK P l (i+d)=[]:=by
 intro eW
 induction eW with
 |zero=>exact h
 |succ d aD=>show lx P l _ (bK P l (i+d))=[];erw[aD];rfl
def node(af:List aI)(q:Nat×Int×Int):fE:=⟨q.1,q.2.1,q.2.2,(gY af q.1:Nat),mw af q.1,kL af q.1⟩
def j9:fE:=⟨1000000,0,0,0,dn,upd dn 0 1000000⟩
noncomputable def nodes(af:List aI)(L:List (Nat×Int×Int)):Nat→fE
 |0=>wM
 |j+1=>match L[j]? with
  |some q=>node af q
  |none=>j9
noncomputable def p4(i:Int):Int:=if 10000<i then 10000 else i
def j'(af:List aI)(S:cj)(s i9:Nat)(z hG x:Int)(last:Bool):gZ:=⟨S,s,i9,z,p4 hG,af.length,eL S x,nodes af (b6 S.hp af),(b6 S.hp af).length,last⟩
noncomputable def ru(N:Nat→fE):Option (List Nat)→V
 |none=>.bB
 |some p=>.lst (p.map fun s=>.int (N s).p).reverse
structure p5(af:List aI)(S:cj)(z hG x:Int):Prop where
 n:af.length≤90
 k:hF af
 it:∀it,it∈af→pZ it
 fQ:Be S
 ls:oH S.ls
 rs:oH S.rs
 dx:i6 x
 VI:i6 z
 I8:Num hG
 cu:0≤S.cu
 L:(b6 S.hp af).length≤14
 b9:∀q,q∈b6 S.hp af→Num q.2.1
 fit:∀a b,wL z (gj (eL S x) (nodes af (b6 S.hp af) a) (nodes af (b6 S.hp af) b))
inductive VJ(af:List aI)(G:gZ)(cv:Nat)(h:List Cell)(t:Nat)(vs:List V)(st:St):Prop where
 |mk (j:Nat) (x2 x3 x4 x6 cY x10 x11 c5 x13 x14:Option X) (ay:j≤cv) (au:vs=((b6 G.S.hp af).drop j).map (nr af)) (bo:bK G.par G.last j≠[])
  (wR:st=⟨[I (.v (.lst (af.map enc))),I (.cell G.s),x2,x3,x4,I (.v (.bool G.last)),x6,I (.cell h.length),I (.v (.lst ((bK G.par G.last j).map (cG G.N)))),cY,x10,x11,c5,x13,x14],h++[.inst 10 (lC G.s G.z G.most (c' G.g) G.last (jB G.S))],t,h.length⟩)
theorem VK{Q:bc→Prop}:∀(l:List bc) (b:bc),Q b→(∀w,w∈l→Q w)→Q (bestOf b l):=by
 intro aT
 induction aT with
 |nil=>intro _ ae _;exact ae
 |cons w l aD=>intro b ae h;exact aD (if w.bJ<b.bJ then w else b) (by split;exact h w (.head _);exact ae) fun v aJ=>h v (.tail _ aJ)
theorem VL{Q:bc→Prop}{cP L:Int}:∀(l:List bc) (s:bc×Int),Q s.1→(∀w,w∈l→Q w)→Q (l.foldl (fC cP L) s).1:=by
 intro aT
 induction aT with
 |nil=>intro _ ae _;exact ae
 |cons w l aD=>intro s ae h;exact aD (fC cP L s w) (by unfold fC;split;exact h w (.head _);exact ae) fun v aJ=>h v (.tail _ aJ)
theorem I9{Q:bc→Prop}{ws:List bc}{L:Int}(aA:ws≠[])(h:∀w,w∈ws→Q w):Q (picked ws L).1:=by
 have ae:Q (bestOf (ws.headD .root) ws):=by
  induction ws using bY with
  |nil=>exact absurd rfl aA
  |cons w r=>exact VK (w::r) w (h w (.head _)) h
 unfold picked
 split
 ·exact ae
 ·exact VL ws _ ae h
theorem eq_nil{st:St}{xs:List V}:st.cmp .eq (.v (.lst xs)) (.v (.lst []))=I xs.isEmpty:=by cases xs<;>rfl
set_option maxHeartbeats 1000000 in
theorem VM{af:List aI}{S:cj}{s:Nat}{z hG x:Int}{last:Bool}(aL:h[s]? =I S.cell)(ok:p5 af S z hG x):
  bu bl (n+5) 37 [.v (.lst (af.map enc)),.cell s,.v (pY z),.v (.int hG),.v (.int x),.v (.bool last)] h t h.length=I (.v (ru (nodes af (b6 S.hp af)) (hE (j' af S s h.length z hG x last).par last S.loose)),h,t):=by
 obtain⟨G,dF⟩:∃G,G=j' af S s h.length z hG x last:=⟨_,rfl⟩
 have Ag:fit (af.map enc).length=true:=dO (by rw[bF];have:=ok.n;exact cz ‹_› rfl)
 ac_rfl
 refine oE (fo (by repeat1' fail) (UT (n:=n+1) (t:=t) ok.fQ aL)) ?_;refine dT (fo (by repeat1' fail) (U1 (n:=n+1) (t:=t) aL ok.ls ok.rs ok.dx)) ?_;refine dT (A1 (by repeat1' (exact wF ok.I8.1 ok.I8.2)) (UU aL) rfl) ?_;refine dT (hW (bA (lz (by repeat1' fail) Iz rfl rfl) di) rfl) ?_;show Wp _ (bI _ _ ⟨[I (.v (.lst (af.map enc))),I (.cell s),I (.v (pY z)),I (.v (.int hG)),I (.v (.int x)),I (.v (.bool last)),I (.v (c' (eL S x))),I (.cell h.length),I (.v (.lst ([bc.root].map (cG (nodes af (b6 S.hp af)))))),J,J,J,J,J,J],h++[.inst 10 (lC s z (p4 hG) (c' (eL S x)) last (jB S))],t,h.length⟩);have VN:fit ((b6 S.hp af).map (nr af)).length=true:=dO (by rw[bF];have:=ok.L;exact cz ‹_› rfl);refine gW (hj (fo (by repeat1' fail) (U9 (n:=n) (t:=t) (h:=h++[.inst 10 (lC s z (p4 hG) (c' (eL S x)) last (jB S))]) (e7 aL) ok.n ok.k ok.it)) rfl VN) ?_;have oL:G.S=S:=by rw[dF];rfl
 have gs:G.s=s:=by rw[dF];rfl
 have tR:G.N=nodes af (b6 S.hp af):=by rw[dF];rfl
 have I':G.par.M=(b6 S.hp af).length:=by rw[dF];rfl
 have gl:G.last=last:=by rw[dF];rfl
 have VO:G.len=af.length:=by rw[dF];rfl
 have m2:∀e,h++[.inst 10 (lC G.s G.z G.most (c' G.g) G.last (jB G.S))]=e→Bm G e:=fun e he=>by
  subst he;refine⟨by rw[gs,oL];exact e7 aL,by rw[dF];exact eY 0,by rw[tR];rfl,by rw[tR,dF];exact ok.fit,by rw[oL];exact ok.fQ.cT,fun b=>?_,by rw[oL];exact ok.cu⟩;have h0:Num 0:=⟨by decide,by decide⟩
  rw[tR]
  induction b using fe with
  |zero=>exact h0
  |succ j=>
   show Num (match(b6 S.hp af)[j]? with|some q=>node af q|none=>j9).b9
   cases aE:(b6 S.hp af)[j]? with
   |none=>exact h0
   |some q=>exact ok.b9 q (fI aE)
 have rv:=m2 _ rfl;refine i5 (VJ af G (b6 S.hp af).length h t) ?_ ?_ _ _ (.mk 0 _ _ _ _ J J J J J J (fx _) (by rw[oL];rfl) (fun h=>nomatch h) (by rw[dF];rfl))
 ·rintro v vs st ⟨j,x2,x3,x4,x6,cY,x10,x11,c5,x13,x14,ay,au,bo,rfl⟩;replace au:=oL▸au;cases aE:(b6 S.hp af)[j]? with
  |none=>
   replace au:=(aag.mpr (xU.mp aE))▸au
   injections au
  |some q=>
  have a':j<(b6 S.hp af).length:=(d7.mp aE).1;have Ja:j≤13:=by have:=ok.L;exact r5 ‹_› ‹_› rfl
  replace au:=((d7.mp aE).2)▸((CM a')▸au);obtain⟨rfl,rfl⟩:=List.cons.inj au;have aB:=Bw (G:=G) j (rM Ja);have hw:=Vs (n:=n+1) (t:=t) (b:=j+1) rv (fun w hw=>(aB.w w hw).ln Ja) (by have:=aB.n;exact cz (bR ‹_› (lQ (qy _ ‹_›) _)) rfl);have VP:G.N (j+1)=node af q:=by
   rw[tR];show(match(b6 S.hp af)[j]? with|some q=>node af q|none=>j9)=_
   rw[aE]
  replace hw:=(show G.i9=h.length by rw[dF];rfl)▸(VO▸(VP▸hw));have hlen:(af.map enc).length=af.length:=bF ..;refine fun Q cR el=>⟨_,fD,?_⟩
  iterate (first|exact j4 Ag|(rw[hlen];exact hw)|exact eq_nil)
  ·intro aa;have h0:bK G.par G.last (j+1)=[]:=CK.mp (kk.mp aa)
   iterate fail
   refine el _ _ rfl (nk ?_);have ib:bK G.par G.last G.par.M=[]:=by have:=VH h0 ((b6 S.hp af).length-(j+1));erw[I',←this,LV a']
   rw[←dF];unfold hE;rw[←gl,ib];rfl
  ·intro aa
   iterate fail
   refine cR _ _ rfl (.mk (j+1) _ _ _ _ _ _ _ _ _ _ a' (by rw[oL]) (fun h0=>?_) rfl);have aa:((bK G.par G.last (j+1)).map (cG G.N)).isEmpty=false:=aa;replace aa:=h0▸aa
   injections aa
 ·rintro st ⟨j,x2,x3,x4,x6,cY,x10,x11,c5,x13,x14,ay,au,bo,rfl⟩;replace au:=oL▸au;have a':j=(b6 S.hp af).length:=by
   refine eF (CO j (b6 S.hp af).length) (fun c=>?_) (fun c=>?_)
   ·replace au:=(CM c)▸au;injections au
   ·exact rU ay c
  have Bx:j≤14:=bR ay ok.L;have aB:=Bw (G:=G) j Bx;have hp:=tu (n:=n+3) (t:=t) (N:=G.N) (L:=G.S.loose) (h:=h++[.inst 10 (lC G.s G.z G.most (c' G.g) G.last (jB G.S))]) bo (cz (bR aB.n (lQ (qy 60 Bx) 1)) rfl);have hw:ny j (picked (bK G.par G.last j) G.S.loose).1:=I9 bo aB.w;have iC:(picked (bK G.par G.last j) G.S.loose).1.path.length<100:=gI (nL.mp (c0 (nS hw.p) hw.l)) (nU Bx rfl);have VQ:=VC (n:=n+3) (t:=t) (N:=G.N) (h:=h++[.inst 10 (lC G.s G.z G.most (c' G.g) G.last (jB G.S))]) iC;have Jb:hE G.par G.last G.S.loose=if(!U ((picked (bK G.par G.last j) G.S.loose).2=G.S.loose)&& !G.last)=true then J else I (picked (bK G.par G.last j) G.S.loose).1.path:=by
   have he:(bK G.par G.last j).isEmpty=false:=by
    cases aE:bK G.par G.last j with
    |nil=>exact absurd aE bo
    |cons=>rfl
   unfold hE;rw[I',←a',he,decide_not];rfl
  rw[←tR,←dF,←oL,←gl];show Wp _ _
  iterate (first|exact(rv.aL)|exact hp)
  ·intro aa
   iterate fail
   rw[Jb,if_pos aa];exact nk rfl
  ·intro aa
   iterate (exact VQ)
   rw[Jb,if_neg (by rw[aa];decide)];exact nk rfl
end
section
variable{n t:Nat}{h:List Cell}
theorem VR{f np ns:Nat}{df:List V}{rc:Bool}{B:bD}{l:List X}{lo:List (Option X)}{Jc:X×List Cell×Nat→Prop}(hm:tH f=I (np,ns,df,rc))(ae:body f=B)(ar:U (l.length≤np∧np≤l.length+df.length)=true)(rm:qK ⟨np,ns,df,rc,.nil⟩ l=lo)(run:Wp (fun r st=>∃o,Out rc h o r st∧Jc o) (bI (bu bl n) B ⟨lo,h,t,h.length⟩)):∃o,bu bl (n+1) f l h t h.length=I o∧Jc o:=by obtain⟨r,st,e,o,q,p⟩:=run;exact⟨o,Uy hm ae ar rm ⟨r,st,e,q⟩,p⟩
theorem rv{lo:List (Option X)}{h' e:List Cell}{t':Nat}(ar:h'.length=h.length):l3 h.length h.length ⟨lo,h'++e,t',h.length⟩=true:=by erw[←ar];exact tI
theorem Jd{rc:Bool}{lo:List (Option X)}{h' e:List Cell}{t':Nat}{u:V}(ar:h'.length=h.length):Out rc h (.v u,h',t') (.ret (.v u)) ⟨lo,h'++e,t',h.length⟩:=⟨rv ar,by show I (X.v u,(h'++e).take h.length,t')=_;erw[←ar,r0]⟩
theorem p6{rc:Bool}{lo:List (Option X)}{h':List Cell}{t':Nat}{u:V}(ar:h'.length=h.length):Out rc h (.v u,h',t') (.ret (.v u)) ⟨lo,h',t',h.length⟩:=by
 have:=Jd (rc:=rc) (lo:=lo) (e:=[]) (t':=t') (u:=u) ar
 rwa [ei]at this
theorem tS{rc:Bool}{lo:List (Option X)}{h' e:List Cell}{t':Nat}(ar:h'.length=h.length):Out rc h (.v .bB,h',t') .next ⟨lo,h'++e,t',h.length⟩:=⟨rv ar,by show I (X.v .bB,(h'++e).take h.length,t')=_;erw[←ar,r0]⟩
theorem By{rc:Bool}{lo:List (Option X)}{h':List Cell}{t':Nat}(ar:h'.length=h.length):Out rc h (.v .bB,h',t') .next ⟨lo,h',t',h.length⟩:=by
 have:=tS (rc:=rc) (lo:=lo) (e:=[]) (t':=t') ar
 rwa [ei]at this
structure eg where
 (a c:Int)
noncomputable def eE(p:eg):Cell:=.lst [.int p.a,.int p.c]
noncomputable def tk(p:eg)(k:Int):Int:=bif U (p.a>0)then p.a.fmod k else((7*(p.c+1)*(p.c+1)+5*(p.c+1)+3).fmod 101).fmod k
noncomputable def bQ(p:eg)(k:Int):eg:=bif U (p.a>0)then⟨p.a.fdiv k,p.c⟩else⟨p.a,p.c+1⟩
structure fc(m:Nat)(p:eg):Prop where
 lo:0≤p.c
 aw:p.c+m≤4000000000000000000
theorem fc.bQ{m:Nat}{p:eg}{k:Int}(h:fc (m+1) p):fc m (bQ p k):=by
 have aa:=h.lo;have ab:=h.aw;unfold L.bQ;cases U (p.a>0)
 ·exact⟨by show 0≤p.c+1;lia,by show p.c+1+_≤_;exact Md ‹_›⟩
 ·exact⟨aa,by show p.c+_≤_;exact ye ‹_›⟩
theorem oM{p:eg}{k:Int}(ai:0<k):0≤tk p k:=by
 unfold tk;cases U (p.a>0)
 ·exact aai _ ai
 ·exact aai _ ai
theorem oN{p:eg}{k:Int}(ai:0<k):tk p k<k:=by
 unfold tk;cases U (p.a>0)
 ·exact Int.fmod_lt_of_pos _ ai
 ·exact Int.fmod_lt_of_pos _ ai
theorem ka{m:Nat}{p:eg}{k:Int}{hh:List Cell}(hp:fc (m+1) p)(ai:0<k)(zW:k≤1000):bu bl (n+1) 39 [.cell 0,.v (.int k)] (eE p::hh) t (eE p::hh).length=I (.v (.int (tk p k)),eE (bQ p k)::hh,t):=by
 have aa:=hp.lo;have ab:=hp.aw;have fl:small k=true:=j3 (d0 ‹_› rfl) (kY ‹_› rfl);have sc:(small (7*(p.c+1))||small (p.c+1))=true:=by erw[j3 (a:=p.c+1) (by lia) (by lia),xS]
 ac_rfl
 iterate (exact rfl)
 ·intro aq
  iterate (first|(erw[fl];exact rfl)|exact rfl|lia)
  refine(?_:Out false _ _ (.ret (.v (.int (p.a.fmod k)))) ⟨_,eE ⟨p.a.fdiv k,p.c⟩::hh,t,_⟩);delta tk bQ;erw[aq];exact p6 rfl
 ·intro aq
  iterate (first|exact sc|exact rfl|lia)
  refine(?_:Out false _ _ (.ret (.v (.int (((7*(p.c+1)*(p.c+1)+5*(p.c+1)+3).fmod 101).fmod k)))) ⟨_,eE ⟨p.a,p.c+1⟩::hh,t,_⟩);delta tk bQ;erw[aq];exact p6 rfl
end
local macro_rules | `(tactic| subst_eqs) => pure (Tactic.rp "a a @VR a a 1TsymmSaturate s1 2MbyTactic a a 1TsymmSaturate s1 2MbyTactic @rfl a a 1TtacticBv_omega s1 2MbyTactic a a 2MsyntheticHole n5 2Mapp 2Trefine s1 a 3Tparen" [])
section
variable{n t:Nat}{h:List Cell}
noncomputable def pick{α:Type}(d:α)(l:List α)(i:Int):α:=l.getD i.toNat d
theorem VS{α:Type}{f:α→V}{d:α}{l:List α}{i:Int}(h0:0≤i)(aa:i<l.length)(ab:l.length≤1000):gL (.lst (l.map f)) (.int i)=I (f (pick d l i)):=by
 have aw:i.toNat<l.length:=by exact Dt ‹_› ‹_›
 refine item_at (k:=i.toNat) ?_ (Dk ‹_›) (r5 ‹_› ‹_› rfl);erw[lO,gp aw];unfold pick;erw[jd,gp aw];rfl
theorem VT{α:Type}{Q:α→Prop}{d:α}{l:List α}{i:Int}(h:∀x,x∈l→Q x)(h0:0≤i)(aa:i<l.length):Q (pick d l i):=by
 have aw:i.toNat<l.length:=by exact Dt ‹_› ‹_›
 unfold pick;erw[jd,gp aw];exact h _ (uv aw)
theorem jD{α:Type}{Q:α→Prop}{d:α}{l:List α}{p:eg}{k:Int}(h:∀x,x∈l→Q x)(ai:0<k)(ar:k=l.length):Q (pick d l (tk p k)):=VT h (oM ai) (by erw[←ar];exact oN ai)
theorem tT{α:Type}{f:α→V}{d:α}{l:List α}{p:eg}{k:Int}(ai:0<k)(ar:k=l.length)(ab:k≤1000):gL (.lst (l.map f)) (.int (tk p k))=I (f (pick d l (tk p k))):=VS (oM ai) (by erw[←ar];exact oN ai) (by lia)
structure hH(g:bb):Prop where
 oO:0≤g.w
 ic:g.w≤20
 s0:0≤g.s
 s1:g.s≤20
 o0:0≤g.o
 a0:g.o≤3
 kb:0≤g.k
 dH:g.k≤20
structure tU(S:cj):Prop where
 Bz:0≤S.cT
 Je:S.cT≤100
 wU: -10000≤S.hp
 rx:S.hp≤10000
 VU:0≤S.dV
 VV:S.dV≤3000
 BA:0≤S.cu
 VW:S.cu≤5000
 ls:hH S.ls
 rs:hH S.rs
 lo:S.loose=0
noncomputable def cj.ex(S:cj):cj:=⟨S.cT,S.hp,S.dV,S.cu,0,S.rs,S.ls⟩
theorem BB{C:Calls}{Q:R→St→Prop}{ss:bD}{a b:ao}{fs fs':List (Nat×X)}{m:Nat}{x:X}{s0 s1:St}{lo:List (Option X)}{jy:Cell}{bs:Nat}(aa:aj C a s0=I (x,s1))(ab:aj C b s1=I (.cell 1,⟨lo,[jy,Cell.inst 8 fs],t,bs⟩))(aL:fS m x fs=fs')(aO:(iR 8 m&&((valOf x).isSome||decide (bs≤1)))=true)(av:Wp Q (bI C ss ⟨lo,[jy,Cell.inst 8 fs'],t,bs⟩)):Wp Q (bI C (.cons (.assign (.attr b m) a) ss) s0):=A5 aa ab rfl aO (by show Wp Q (bI C ss ⟨lo,[jy,.inst 8 (fS m x fs)],t,bs⟩);erw[aL];exact av)
theorem Jf{lo:List (Option X)}{h':List Cell}{t':Nat}{S:cj}(ar:h'.length=h.length):Out false h (.cell h.length,h'++[S.cell],t') (.ret (.cell h.length)) ⟨lo,h'++[S.cell],t',h.length⟩:=by refine⟨rv ar,?_⟩;show(if h.length≤h.length then((h'++[S.cell])[h.length]?).bind _ else J)=_;erw[if_pos (bE _),←ar,show(h'++[S.cell])[h'.length]? =_ from tE];show I (X.cell h'.length,(h'++[S.cell]).take h'.length++[S.cell],t')=_;erw[r0]
theorem p7{α:Type}{f:α→V}{d:α}{l:List α}{a:ao}{p:eg}{m j bs:Nat}{k:Int}{lo:List (Option X)}{hh:List Cell}(aB:aj (bu bl (n+1)) a ⟨lo,eE p::hh,t,bs⟩=I (.v (.lst (l.map f)),⟨lo,eE p::hh,t,bs⟩))(ar:lo[j]? =I (I (.cell 0)))(hp:fc (m+1) p)(h0:0<k∧k≤1000)(ai:k=l.length):
  aj (bu bl (n+1)) (.item a (.call 39 (.cons (.loc j) (.cons (.const (.int k)) .nil)))) ⟨lo,eE p::hh,t,bs⟩=I (.v (f (pick d l (tk p k))),⟨lo,eE (bQ p k)::hh,t,bs⟩):=
 hi aB (fo (bH (aP ar) (bH a9 cW)) (ka hp h0.1 h0.2)) (tT h0.1 ai h0.2)
inductive Jg(m:Nat)(ends:Bool)(t:Nat):X×List Cell×Nat→Prop where
 |mk (p:eg) (S:cj) (hp:fc m p) (fM:tU S) (aB:ends=false→S.cu=0):Jg m ends t (.cell 1,[eE p,S.cell],t)
noncomputable def p8:List bb:=[⟨0,0,0,0⟩,⟨3,2,0,0⟩,⟨0,5,0,1⟩]
noncomputable def p9:List bb:=[⟨0,0,0,0⟩,⟨2,4,0,0⟩,⟨0,9,0,0⟩,⟨1,2,1,0⟩]
theorem VX:∀g,g∈p8→hH g:=by
 intro g aK;simp only[p8,ec,kX,or_false]at aK
 rcases aK with rfl|rfl|rfl<;>exact⟨by decide,by decide,by decide,by decide,by decide,by decide,by decide,by decide⟩
theorem VY:∀g,g∈p9→hH g:=by
 intro g aK;simp only[p9,ec,kX,or_false]at aK
 rcases aK with rfl|rfl|rfl|rfl<;>exact⟨by decide,by decide,by decide,by decide,by decide,by decide,by decide,by decide⟩
theorem tV{α:Type}{f:α→V}{d:α}{l:List α}{a:ao}{p:eg}{m at' bs:Nat}{k:Int}{lo:List (Option X)}{fs fs':List (Nat×X)}{Q:R→St→Prop}{ss:bD}(hp:fc (m+1) p)(h0:0<k∧k≤1000)(ai:k=l.length)(aL:fS at' (.v (f (pick d l (tk p k)))) fs=fs')(ar:lo[0]? =I (I (.cell 0)))(ab:lo[2]? =I (I (.cell 1)))(aO:iR 8 at'=true){xs:List V}
  (aB:aj (bu bl (n+1)) a ⟨lo,[eE p,Cell.inst 8 fs],t,bs⟩=I (.v (.lst xs),⟨lo,[eE p,Cell.inst 8 fs],t,bs⟩)) (aC:l.map f=xs)
  (av:Wp Q (bI (bu bl (n+1)) ss ⟨lo,[eE (bQ p k),Cell.inst 8 fs'],t,bs⟩)):Wp Q (bI (bu bl (n+1)) (.cons (.assign (.attr (.loc 2) at') (.item a (.call 39 (.cons (.loc 0) (.cons (.const (.int k)) .nil))))) ss) ⟨lo,[eE p,Cell.inst 8 fs],t,bs⟩):=
 BB (p7 (by erw[aC];exact aB) ar hp h0 ai) (aP ab) aL (by erw[aO];rfl) av
structure VZ(m:Nat)(ends:Bool)(p:eg)(ad:Int)(P:Prop):Prop where
 e:P
 p:fc m p
 q:0≤ad∧ad≤5000
 z:ends=false→ad=0
noncomputable abbrev V0:ao:=.k0 (.loc 1) (.item (.lst (.cons (.const (.int 5000)) (.cons (.const (.int 200)) (.cons (.const (.int 0)) .nil)))) (.call 39 (.cons (.loc 0) (.cons (.const (.int 3)) .nil)))) (.const (.int 0))
theorem V1{m bs:Nat}{p:eg}{ends:Bool}{lo:List (Option X)}{c:Cell}(hp:fc (m+1) p)(h0:lo[0]? =I (I (.cell 0)))(aa:lo[1]? =I (I (.v (.bool ends)))):
  ∃dp ad,VZ m ends dp ad (aj (bu bl (n+1)) V0 ⟨lo,[eE p,c],t,bs⟩=I (.v (.int ad),⟨lo,[eE dp,c],t,bs⟩)):=by
 induction ends using hK with
 |false=>exact⟨p,0,jA (aP aa) (fun h=>nomatch h) (fun ag=>a9),⟨hp.lo,by have:=hp.aw;exact ye ‹_›⟩,by decide,fun ag=>rfl⟩
 |true=>refine⟨bQ p 3,pick 0 [5000,200,0] (tk p 3),jA (aP aa) (fun ag=>?_) (fun h=>nomatch h),hp.bQ,jD (α:=Int) (Q:=fun x=>0≤x∧x≤5000) (by decide) (by decide) (by decide),fun h=>nomatch h⟩;exact p7 (d:=0) (l:=[5000,200,0]) (f:=V.int) (k:=3) (hW (bA a9 (bA a9 (bA a9 di))) rfl) h0 hp (by decide) (by decide)
theorem V2{w s o k:Int}(hw:0≤w∧w≤20)(aL:0≤s∧s≤20)(aO:0≤o∧o≤3)(ai:0≤k∧k≤20)(bw:s=0→o=0):bu bl (n+3) (gC 0) [.cell h.length,.v (.int w),.v (.int s),.v (.int o),.v (.int k),.v (.int 0)] (h++[.inst 0 []]) t h.length=I (.v .bB,h++[.inst 0 (lA (bb.fs ⟨w,s,o,k⟩))],t):=UE ⟨d0 (qq ‹_›) rfl,d3 (qp ‹_›) rfl⟩ ⟨d0 (qq ‹_›) rfl,d3 (qp ‹_›) rfl⟩ aO ⟨d0 (qq ‹_›) rfl,d3 (qp ‹_›) rfl⟩ bw
theorem oP{lo:List (Option X)}{bs:Nat}{st:St}{es:az}{w s o k:Int}(aa:dq (bu bl (n+3)) es st=I ([.v (.int w),.v (.int s),.v (.int o),.v (.int k),.v (.int 0)],⟨lo,h,t,bs⟩))(hw:0≤w∧w≤20)(aL:0≤s∧s≤20)(aO:0≤o∧o≤3)(ai:0≤k∧k≤20)(bw:s=0→o=0):
  aj (bu bl (n+3)) (.new 0 es) st=I (.v (iG ⟨w,s,o,k⟩),⟨lo,h,t,bs⟩):=lz aa (V2 hw aL aO ai bw) rfl rfl
theorem Jh{lo:List (Option X)}{bs:Nat}:aj (bu bl (n+3)) (.new 0 .nil) ⟨lo,h,t,bs⟩=I (.v (iG ⟨0,0,0,0⟩),⟨lo,h,t,bs⟩):=lz cW Ip rfl rfl
theorem tW{C:Calls}{st:St}{w s o k z:Int}:dq C (.cons (.const (.int w)) (.cons (.const (.int s)) (.cons (.const (.int o)) (.cons (.const (.int k)) (.cons (.const (.int z)) .nil))))) st=I ([.v (.int w),.v (.int s),.v (.int o),.v (.int k),.v (.int z)],st):=rfl
theorem V3{lo:List (Option X)}{bs:Nat}{e:az}(he:e= .cons (.new 0 .nil) (.cons (.new 0 (.cons (.const (.int 3)) (.cons (.const (.int 2)) (.cons (.const (.int 0)) (.cons (.const (.int 0)) (.cons (.const (.int 0)) .nil)))))) (.cons (.new 0 (.cons (.const (.int 0)) (.cons (.const (.int 5)) (.cons (.const (.int 0)) (.cons (.const (.int 1)) (.cons (.const (.int 0)) .nil)))))) .nil))):
  aj (bu bl (n+3)) (.lst e) ⟨lo,h,t,bs⟩=I (.v (.lst (p8.map iG)),⟨lo,h,t,bs⟩):=by
 subst he;exact hW (bA Jh (bA (oP tW (by decide) (by decide) (by decide) (by decide) (by decide)) (bA (oP tW (by decide) (by decide) (by decide) (by decide) (by decide)) di))) rfl
theorem V4{lo:List (Option X)}{bs:Nat}{e:az}(he:e= .cons (.new 0 .nil) (.cons (.new 0 (.cons (.const (.int 2)) (.cons (.const (.int 4)) (.cons (.const (.int 0)) (.cons (.const (.int 0)) (.cons (.const (.int 0)) .nil)))))) (.cons (.new 0 (.cons (.const (.int 0)) (.cons (.const (.int 9)) (.cons (.const (.int 0)) (.cons (.const (.int 0)) (.cons (.const (.int 0)) .nil)))))) (.cons (.new 0 (.cons (.const (.int 1)) (.cons (.const (.int 2)) (.cons (.const (.int 1)) (.cons (.const (.int 0)) (.cons (.const (.int 0)) .nil)))))) .nil)))):
  aj (bu bl (n+3)) (.lst e) ⟨lo,h,t,bs⟩=I (.v (.lst (p9.map iG)),⟨lo,h,t,bs⟩):=by
 subst he;exact hW (bA Jh (bA (oP tW (by decide) (by decide) (by decide) (by decide) (by decide)) (bA (oP tW (by decide) (by decide) (by decide) (by decide) (by decide)) (bA (oP tW (by decide) (by decide) (by decide) (by decide) (by decide)) di)))) rfl
set_option maxHeartbeats 1000000 in
theorem V5{m:Nat}{p:eg}{ends:Bool}(hp:fc (m+6) p):∃o,bu bl (n+5) 40 [.cell 0,.v (.bool ends)] [eE p] t 1=I o∧Jg m ends t o:=by
 subst_eqs
 refine dT (A1 cW Iy rfl) ?_;have aa:=hp.bQ (k:=4);have ab:=aa.bQ (k:=6);have aq:=ab.bQ (k:=3);refine tV (d:=0) (l:=[10,0,1,100]) (f:=V.int) (fs:=wH.fs) (fs':=cj.fs ⟨pick 0 [10,0,1,100] (tk p 4),0,0,0,0,⟨0,0,0,0⟩,⟨0,0,0,0⟩⟩) hp (by decide) (by decide) (by exact rfl) (by exact rfl) (by exact rfl) (by decide) (by repeat1' fail) (by exact rfl) ?_;have eu:=jD (α:=Int) (Q:=fun x=>0≤x∧x≤100) (d:=0) (l:=[10,0,1,100]) (p:=p) (k:=4) (by decide) (by decide) (by decide);generalize pick (0:Int) [10,0,1,100] (tk p 4)=cT at eu⊢;refine tV (d:=0) (l:=[50,-30,0,10000,200,-10000]) (f:=V.int) (fs':=fS 32 (.v (.int (pick 0 [50,-30,0,10000,200,-10000] (tk (bQ p 4) 6)))) (cj.fs ⟨cT,0,0,0,0,⟨0,0,0,0⟩,⟨0,0,0,0⟩⟩)) aa (by decide) (by decide) (by exact rfl) (by exact rfl) (by exact rfl) (by decide) (by repeat1' fail) (by exact rfl) ?_;have gc:=jD (α:=Int) (Q:=fun x=> -10000≤x∧x≤10000) (d:=0) (l:=[50,-30,0,10000,200,-10000]) (p:=(bQ p 4)) (k:=6) (by decide) (by decide) (by decide);generalize pick (0:Int) [50,-30,0,10000,200,-10000] (tk (bQ p 4) 6)=aV at gc⊢;generalize bQ (bQ p 4) 6=ck at ab aq⊢;refine BB (fs':=cj.fs ⟨cT,aV,0,0,0,⟨0,0,0,0⟩,⟨0,0,0,0⟩⟩) (by repeat1' (exact rfl)) (aP rfl) (rfl) rfl ?_;refine tV (d:=0) (l:=[0,3000,500]) (f:=V.int) (fs':=cj.fs ⟨cT,aV,pick 0 [0,3000,500] (tk ck 3),0,0,⟨0,0,0,0⟩,⟨0,0,0,0⟩⟩) ab (by decide) (by decide) (by exact rfl) (by exact rfl) (by exact rfl) (by decide) (by repeat1' fail) (by exact rfl) ?_;have hc:=jD (α:=Int) (Q:=fun x=>0≤x∧x≤3000) (d:=0) (l:=[0,3000,500]) (p:=ck) (k:=3) (by decide) (by decide) (by decide);generalize pick (0:Int) [0,3000,500] (tk ck 3)=dV at hc⊢;obtain⟨hL,ad,⟨cg,ba,ry,jv⟩⟩:=V1 (n:=n+3) (t:=t) (c:=cj.cell ⟨cT,aV,dV,0,0,⟨0,0,0,0⟩,⟨0,0,0,0⟩⟩) (bs:=[eE p].length) (lo:=[I (.cell 0),I (.v (.bool ends)),I (.cell 1),J,J,J]) (ends:=ends) aq rfl rfl;refine BB (fs:=cj.fs ⟨cT,aV,dV,0,0,⟨0,0,0,0⟩,⟨0,0,0,0⟩⟩) (fs':=cj.fs ⟨cT,aV,dV,ad,0,⟨0,0,0,0⟩,⟨0,0,0,0⟩⟩) cg (aP (rfl)) (rfl) rfl ?_;have b0:=ba.bQ (k:=3);refine tV (d:=⟨0,0,0,0⟩) (l:=p8) (f:=iG) (fs':=cj.fs ⟨cT,aV,dV,ad,0,pick ⟨0,0,0,0⟩ p8 (tk hL 3),⟨0,0,0,0⟩⟩) ba (by decide) (by decide) (rfl) (rfl) (rfl) (by decide) (V3 rfl) rfl ?_;have Ji:=jD (α:=bb) (Q:=hH) (d:=⟨0,0,0,0⟩) (l:=p8) (p:=hL) (k:=3) VX (by decide) (by decide);generalize pick (⟨0,0,0,0⟩:bb) p8 (tk hL 3)=ls at Ji⊢;refine tV (d:=⟨0,0,0,0⟩) (l:=p9) (f:=iG) (fs':=cj.fs ⟨cT,aV,dV,ad,0,ls,pick ⟨0,0,0,0⟩ p9 (tk (bQ hL 3) 4)⟩) b0 (by decide) (by decide) (rfl) (rfl) (rfl) (by decide) (V4 rfl) rfl ?_;have Jj:=jD (α:=bb) (Q:=hH) (d:=⟨0,0,0,0⟩) (l:=p9) (p:=(bQ hL 3)) (k:=4) VY (by decide) (by decide);generalize pick (⟨0,0,0,0⟩:bb) p9 (tk (bQ hL 3) 4)=rs at Jj⊢;refine hX (aP rfl) ⟨_,Jf (h':=[eE (bQ (bQ hL 3) 4)]) rfl,.mk _ _ (b0.bQ (k:=4)) ⟨eu.1,eu.2,gc.1,gc.2,hc.1,hc.2,ry.1,ry.2,Ji,Jj,rfl⟩ jv⟩
end
section
variable{n t:Nat}{h:List Cell}
theorem p'{C:Calls}{ts:dI}{b:ao}{m c bs:Nat}{lo:List (Option X)}{x:X}{l:List X}{fs fs':List (Nat×X)}{st2:St}(ab:aj C b ⟨lo,h++[.inst c fs],t,bs⟩=I (.cell h.length,⟨lo,h++[.inst c fs],t,bs⟩))(aL:fS m x fs=fs')(aO:(iR c m&&((valOf x).isSome||decide (bs≤h.length)))=true)(av:gb C ts l ⟨lo,h++[.inst c fs'],t,bs⟩=I st2):
  gb C (.cons (.attr b m) ts) (x::l) ⟨lo,h++[.inst c fs],t,bs⟩=I st2:=
 A9 ab (eY 0) aO (by have e:(h++[Cell.inst c fs]).set h.length (.inst c (fS m x fs))=h++[.inst c (fS m x fs)]:=nj 0 _;erw[e,aL];exact av)
theorem V6{S:cj}{s:Nat}(aL:h[s]? =I S.cell):bu bl (n+5) 41 [.cell s] h t h.length=I (.cell h.length,h++[S.ex.cell],t):=by
 ac_rfl
 refine dT (A1 cW Iy rfl) ?_;have ra:=e7 (e:=[wH.cell]) aL;refine hk (by repeat1' (exact ra)) (p' (aP rfl) (fs:=wH.fs) (fs':=cj.fs ⟨S.cT,0,0,0,0,⟨0,0,0,0⟩,⟨0,0,0,0⟩⟩) rfl rfl (p' (aP rfl) (fs':=cj.fs ⟨S.cT,0,0,S.cu,0,⟨0,0,0,0⟩,⟨0,0,0,0⟩⟩) rfl rfl (p' (aP rfl) (fs':=cj.fs ⟨S.cT,0,S.dV,S.cu,0,⟨0,0,0,0⟩,⟨0,0,0,0⟩⟩) rfl rfl rl))) ?_;have ra:=e7 (e:=[cj.cell ⟨S.cT,0,S.dV,S.cu,0,⟨0,0,0,0⟩,⟨0,0,0,0⟩⟩]) aL;refine hk (by repeat1' (exact ra)) (p' (aP rfl) (fs:=cj.fs ⟨S.cT,0,S.dV,S.cu,0,⟨0,0,0,0⟩,⟨0,0,0,0⟩⟩) (fs':=fS 32 (.v (.int S.hp)) (cj.fs ⟨S.cT,0,S.dV,S.cu,0,⟨0,0,0,0⟩,⟨0,0,0,0⟩⟩)) rfl rfl (p' (aP rfl) (fs':=cj.fs ⟨S.cT,S.hp,S.dV,S.cu,0,⟨0,0,0,0⟩,⟨0,0,0,0⟩⟩) rfl rfl rl)) ?_;refine hk (by repeat1' (exact(e7 (e:=[cj.cell ⟨S.cT,S.hp,S.dV,S.cu,0,⟨0,0,0,0⟩,⟨0,0,0,0⟩⟩]) aL))) (p' (aP rfl) (fs:=cj.fs ⟨S.cT,S.hp,S.dV,S.cu,0,⟨0,0,0,0⟩,⟨0,0,0,0⟩⟩) (fs':=cj.fs ⟨S.cT,S.hp,S.dV,S.cu,0,S.rs,⟨0,0,0,0⟩⟩) rfl rfl (p' (aP rfl) (fs':=S.ex.fs) rfl rfl rl)) ?_;exact hX (aP rfl) (Jf rfl)
section
variable{lo:List (Option X)}{bs:Nat}{st:St}{es:az}
theorem wV{w:Int}(aa:dq (bu bl (n+3)) es st=I ([.v (.int 2),.v (.int w),.v (.int 0),.v (.int 0),.v (.lst [])],⟨lo,h,t,bs⟩))(hw:i6 w):aj (bu bl (n+3)) (.new 1 es) st=I (.v (enc (.box t w)),⟨lo,h,t+1,bs⟩):=lz aa (UG hw) rfl rfl
theorem V7{w s:Int}(aa:dq (bu bl (n+3)) es st=I ([.v (.int w),.v (.int s)],⟨lo,h,t,bs⟩))(hw:i6 w)(aL:0≤s∧s≤3):aj (bu bl (n+3)) (.new 2 es) st=I (.v (enc (.gX t w s)),⟨lo,h,t+1,bs⟩):=lz aa (UH hw aL) rfl rfl
theorem BC{g:bb}(aa:dq (bu bl (n+2)) es st=I ([.v (iG g),.v (.int 0)],⟨lo,h,t,bs⟩)):aj (bu bl (n+2)) (.new 3 es) st=I (.v (enc (.skip t g)),⟨lo,h,t+1,bs⟩):=lz aa UI rfl rfl
theorem BD{v:Int}(aa:dq (bu bl (n+3)) es st=I ([.v (.int v)],⟨lo,h,t,bs⟩))(aJ: -2147483647≤v∧v≤2147483647):aj (bu bl (n+3)) (.new 4 es) st=I (.v (enc (.b9 t v)),⟨lo,h,t+1,bs⟩):=lz aa (UJ aJ) rfl rfl
theorem Jk{a b m:i7}(aa:dq (bu bl (n+2)) es st=I ([.v (.lst (a.map fv)),.v (.lst (b.map fv)),.v (.lst (m.map fv))],⟨lo,h,t,bs⟩))(aB:a.length≤1000)(ae:b.length≤1000)(hm:m.length≤1000):aj (bu bl (n+2)) (.new 5 es) st=I (.v (enc (.cf t a b m)),⟨lo,h,t+1,bs⟩):=lz aa (UM (nq aB) (nq ae) (nq hm)) rfl rfl
theorem V8(aa:dq (bu bl (n+3)) es st=I ([.v (.lst [])],⟨lo,h,t,bs⟩)):aj (bu bl (n+3)) (.new 6 es) st=I (.v (enc (.mark t)),⟨lo,h,t+1,bs⟩):=lz aa UK rfl rfl
end
noncomputable def b7(g:bb):V:=.tup [.int g.w,.int g.s,.int g.o,.int g.k]
structure jE(g:bb):Prop where
 b:hH g
 k:g.k≤g.w
inductive mz:List bb→List aI→Prop where
 |nil:mz [] []
 |one (t t':Nat) (g:bb) (aK:jE g):mz [g] [.b9 t 10000,.skip t' g]
inductive Jl(i:Int)(h:List Cell):X×List Cell×Nat→Prop where
 |mk (gs:List bb) (af:List aI) (t':Nat) (aO:mz gs af) (aw:i=1→gs=[⟨0,6,1,0⟩]):Jl i h (.v (.tup [.lst (gs.map b7),.lst (af.map enc)]),h,t')
theorem Jm{i:Int}:∃o,bu bl (n+4) 42 [.v (.int i)] h t h.length=I o∧Jl i h o:=by
 subst_eqs
 iterate fail
 ·intro aa
  iterate fail
  exact⟨_,dN rfl,.mk [] [] t .nil fun ab=>by replace aa:=ab▸aa;cases aa⟩
 ·intro aa;cases ab:U (i=1)with
  |true=>have ab:=of_decide_eq_true ab;subst ab;refine dT (x:=.v (b7 ⟨0,6,1,0⟩)) (jA (p:=U ((1:Int)=1)) (mq (aP rfl) a9) (fun ag=>by repeat1' (exact rfl)) (fun h=>absurd h (by decide))) ?_;refine hX (eX (bA (hW (bA (aP rfl) di) rfl) (bA (hW (bA (BD (by repeat1' fail) (by decide)) (bA (BC (bH (oP (w:=0) (s:=6) (o:=1) (k:=0) (by repeat1' (exact rfl)) (by decide) (by decide) (by decide) (by decide) (by decide)) (bH a9 cW))) di)) rfl) di)) rfl) ?_;exact⟨_,p6 rfl,.mk [⟨0,6,1,0⟩] [.b9 t 10000,.skip (t+1) ⟨0,6,1,0⟩] (t+1+1) (.one t (t+1) ⟨0,6,1,0⟩ ⟨⟨by decide,by decide,by decide,by decide,by decide,by decide,by decide,by decide⟩,by decide⟩) fun ag=>rfl⟩
  |false=>refine dT (x:=.v (b7 ⟨2,9,0,1⟩)) (jA (p:=false) (by erw[←ab];exact mq (aP rfl) a9) (fun h=>nomatch h) (fun ag=>by repeat1' (exact rfl))) ?_;refine hX (eX (bA (hW (bA (aP rfl) di) rfl) (bA (hW (bA (BD (by repeat1' fail) (by decide)) (bA (BC (bH (oP (w:=2) (s:=9) (o:=0) (k:=1) (by repeat1' (exact rfl)) (by decide) (by decide) (by decide) (by decide) (by decide)) (bH a9 cW))) di)) rfl) di)) rfl) ?_;exact⟨_,p6 rfl,.mk [⟨2,9,0,1⟩] [.b9 t 10000,.skip (t+1) ⟨2,9,0,1⟩] (t+1+1) (.one t (t+1) ⟨2,9,0,1⟩ ⟨⟨by decide,by decide,by decide,by decide,by decide,by decide,by decide,by decide⟩,by decide⟩) fun aq=>by replace ab:=aq▸ab;cases ab⟩
end
section
variable{n t:Nat}{h:List Cell}
structure Tl where
 (z most x:Int)
 (eI ay:List bb)
noncomputable def dj(T:Tl):List (Nat×X):=[(54,.cell 2),(55,.cell 3),(56,.cell 4),(27,.cell 5),(57,.v (.tup [.lst (T.eI.map b7),.lst (T.ay.map b7)])),(58,.v (.int T.z)),(46,.cell 1),(48,.v (.int T.most)),(59,.v (.int T.x)),(49,.cell 7)]
noncomputable abbrev av(p:eg)(c:Cell)(nd ws gs rs:List V)(d:List (Nat×X))(g:List V)(e:List Cell):List Cell:=eE p::c:: .lst nd:: .lst ws:: .lst gs:: .lst rs:: .e9 d:: .lst g::e
theorem iJ{C:Calls}{Q:R→St→Prop}{ss:bD}{a b:ao}{s0 s1:St}{lo:List (Option X)}{bs m:Nat}{hh hh':List Cell}{xs aS:List V}{v:V}(aa:aj C a s0=I (.cell m,s1))(ar:s1.lst m=I aS)(ab:aj C b s1=I (.v v,⟨lo,hh,t,bs⟩))(hm:hh[m]? =I (.lst xs))(hf:fit xs.length=true)(he:hh.set m (.lst (xs++[v]))=hh')(av:Wp Q (bI C ss ⟨lo,hh',t,bs⟩)):Wp Q (bI C (.cons (.expr (.append a b)) ss) s0):=oE (A2 aa ar ab (gV hm) hf) (by erw[he];exact av)
theorem Jn{C:Calls}{Q:R→St→Prop}{ss:bD}{a b:ao}{s0 s1:St}{lo:List (Option X)}{bs m:Nat}{hh hh':List Cell}{xs aS vs:List V}(aa:aj C a s0=I (.cell m,s1))(ar:s1.lst m=I aS)(ab:aj C b s1=I (.v (.lst vs),⟨lo,hh,t,bs⟩))(hm:hh[m]? =I (.lst xs))(hf:fit (xs++vs).length=true)(he:hh.set m (.lst (xs++vs))=hh')(av:Wp Q (bI C ss ⟨lo,hh',t,bs⟩)):Wp Q (bI C (.cons (.expr (.extend a b)) ss) s0):=oE (Ui aa ar ab (gV hm) hf) (by erw[he];exact av)
inductive kM:List aI→Int→Prop where
 |box (t:Nat) (w:Int) (h0:8≤w) (aa:w≤25):kM [.box t w] w
 |gX (t t' sV:Nat) (w k s:Int) (h0:8≤w) (aa:w≤25) (kb: -4≤k) (dH:k≤2):kM [.box t w,.gX t' k s,.box sV 6] (w+(k+6))
 |mark (t t':Nat) (w:Int) (h0:8≤w) (aa:w≤25):kM [.box t w,.mark t'] w
inductive Jo(m:Nat)(c:Cell)(nd ws gs rs:List V)(d:List (Nat×X))(g:List V):X×List Cell×Nat→Prop where
 |mk (p:eg) (af:List aI) (w:Int) (t':Nat) (hp:fc m p) (hw:kM af w):Jo m c nd ws gs rs d g (.v .bB,av p c (nd++af.map enc) (ws++[.int w]) gs rs d g [],t')
theorem fc.mono{m:Nat}{p:eg}(h:fc (m+1) p):fc m p:=⟨h.lo,by have:=h.aw;exact ye ‹_›⟩
theorem Jp{m:Nat}{p:eg}{c:Cell}{nd ws gs rs:List V}{T:Tl}{g:List V}(hp:fc (m+4) p)(aA:nd.length≤1000)(hw:ws.length≤1000):
  ∃o,bu bl (n+4) 43 [.cell 0,.cell 6] (av p c nd ws gs rs (dj T) g []) t (av p c nd ws gs rs (dj T) g []).length=I o∧Jo m c nd ws gs rs (dj T) g o:=by
 subst_eqs
 have aa:=hp.bQ (k:=18);have ab:=aa.bQ (k:=5);have t1:∀{l:List Cell},_:=fun{l}=>ka (n:=n+2) (t:=t) (hh:=l) hp (k:=18) (by decide) (by decide);have e1:∀{l:List Cell},_:=fun{l}=>ka (n:=n+2) (t:=t) (hh:=l) aa (k:=5) (by decide) (by decide);have a1:=oM (p:=p) (k:=18) (by decide);have a2:=oN (p:=p) (k:=18) (by decide);have fn:fit nd.length=true:=dO (cz ‹_› rfl);have V9:∀v:V,fit (nd++[v]).length=true:=fun v=>dO (by erw[b4];exact nU ‹_› rfl);have V':∀u v w:V,fit ((nd++[u])++[v,w]).length=true:=fun u v w=>dO (by erw[b4,b4];show _+1+2≤_;lia);have BE:fit ws.length=true:=dO (cz ‹_› rfl);refine hk (by repeat1' (first|exact t1|exact e1)) (by iterate fail) ?_
 generalize tk p 18=fj at a1 a2⊢;generalize bQ (bQ p 18) 5=ck at ab⊢;generalize tk (bQ p 18) 5=vc;refine iJ (hh':=av ck c (nd++[enc (.box t (8+fj))]) ws gs rs (dj T) g []) (by repeat1' (exact rfl)) rfl (wV (by repeat1' fail) ⟨by lia,by lia⟩) rfl fn rfl ?_
 iterate fail
 ·intro _;have aq:=ab.bQ (k:=2);have t3:∀{l:List Cell},_:=fun{l}=>ka (n:=n+2) (t:=t+1) (hh:=l) ab (k:=2) (by decide) (by decide);have lW:∀{l:List Cell},_:=fun{l}=>ka (n:=n+2) (t:=t+1) (hh:=l) aq (k:=2) (by decide) (by decide);have Wa:=tT (f:=V.int) (l:=[2,-4]) (d:=0) (p:=ck) (k:=2) (by decide) rfl (by decide);have tX:=jD (α:=Int) (Q:=fun x=> -4≤x∧x≤2) (d:=0) (l:=[2,-4]) (p:=ck) (k:=2) (by decide) (by decide) (by decide);have g4:=oM (p:=bQ ck 2) (k:=2) (by decide);have ji:=oN (p:=bQ ck 2) (k:=2) (by decide);have ba:=aq.bQ (k:=2);refine hk (by repeat1' (first|exact t3|exact lW|exact Wa)) (by iterate fail) ?_
  generalize pick 0 [2,-4] (tk ck 2)=k at tX⊢;generalize tk (bQ ck 2) 2=s at g4 ji⊢;generalize bQ (bQ ck 2) 2=hL at ba⊢;refine Jn (hh':=av hL c ((nd++[enc (.box t (8+fj))])++[enc (.gX (t+1) k s),enc (.box (t+1+1) 6)]) ws gs rs (dj T) g []) (by repeat1' (exact rfl)) rfl (hW (bA (V7 (by repeat1' fail) ⟨by have:=tX.1;exact d0 ‹_› rfl,by have:=tX.2;exact d3 ‹_› rfl⟩ ⟨g4,C6 ‹_› rfl⟩) (bA (wV (by repeat1' fail) ⟨by decide,by decide⟩) di)) rfl) rfl (V' _ _ _) rfl ?_
  iterate fail
  refine iJ (hh':=av hL c ((nd++[enc (.box t (8+fj))])++[enc (.gX (t+1) k s),enc (.box (t+1+1) 6)]) (ws++[.int (8+fj+(k+6))]) gs rs (dj T) g []) (by repeat1' (exact rfl)) rfl (by repeat1' fail) rfl BE rfl ?_;refine gh ⟨_,By rfl,?_⟩;erw[eR];exact .mk hL [.box t (8+fj),.gX (t+1) k s,.box (t+1+1) 6] _ _ ba (.gX _ _ _ _ _ _ (by lia) (by lia) tX.1 tX.2)
 ·intro _
  iterate fail
  ·intro _;refine iJ (hh':=av ck c ((nd++[enc (.box t (8+fj))])++[enc (.mark (t+1))]) ws gs rs (dj T) g []) (by repeat1' (exact rfl)) rfl (V8 (by repeat1' fail)) rfl (V9 _) rfl ?_;refine iJ (hh':=av ck c ((nd++[enc (.box t (8+fj))])++[enc (.mark (t+1))]) (ws++[.int (8+fj)]) gs rs (dj T) g []) (by repeat1' (exact rfl)) rfl (by repeat1' fail) rfl BE rfl ?_;refine gh ⟨_,By rfl,?_⟩;erw[eR];exact .mk ck [.box t (8+fj),.mark (t+1)] _ _ ab.mono.mono (.mark _ _ _ (by lia) (by lia))
  ·intro _;refine iJ (hh':=av ck c (nd++[enc (.box t (8+fj))]) (ws++[.int (8+fj)]) gs rs (dj T) g []) (by repeat1' (exact rfl)) rfl (by repeat1' fail) rfl BE rfl ?_;exact gh ⟨_,By rfl,.mk ck [.box t (8+fj)] _ _ ab.mono.mono (.box _ _ (by lia) (by lia))⟩
end
section
variable{n t:Nat}{h:List Cell}
inductive Jq(m:Nat)(c:Cell)(nd ws gs rs:List V)(d:List (Nat×X))(g:List V)(e:List Cell):X×List Cell×Nat→Prop where
 |mk (p:eg) (x:bb) (t0 t':Nat) (hp:fc m p) (aC:jE x):Jq m c nd ws gs rs d g e (.v (b7 x),av p c (nd++[enc (.skip t0 x)]) ws gs rs d g e,t')
theorem Wb{m:Nat}{p:eg}{c:Cell}{nd ws gs rs:List V}{T:Tl}{g:List V}{e:List Cell}(hp:fc (m+4) p)(aA:nd.length≤1000):
  ∃o,bu bl (n+4) 44 [.cell 0,.cell 6] (av p c nd ws gs rs (dj T) g e) t (av p c nd ws gs rs (dj T) g e).length=I o∧Jq m c nd ws gs rs (dj T) g e o:=by
 subst_eqs
 have aa:=hp.bQ (k:=4);have ab:=aa.bQ (k:=6);have aq:=ab.bQ (k:=9);have ba:=aq.bQ (k:=4);have t1:∀{l:List Cell},_:=fun{l}=>ka (n:=n+2) (t:=t) (hh:=l) hp (k:=4) (by decide) (by decide);have e1:∀{l:List Cell},_:=fun{l}=>ka (n:=n+2) (t:=t) (hh:=l) aa (k:=6) (by decide) (by decide);have t3:∀{l:List Cell},_:=fun{l}=>ka (n:=n+2) (t:=t) (hh:=l) ab (k:=9) (by decide) (by decide);have lW:∀{l:List Cell},_:=fun{l}=>ka (n:=n+2) (t:=t) (hh:=l) aq (k:=4) (by decide) (by decide);have a1:=oM (p:=p) (k:=4) (by decide);have a2:=oN (p:=p) (k:=4) (by decide);have g4:=oM (p:=bQ p 4) (k:=6) (by decide);have ji:=oN (p:=bQ p 4) (k:=6) (by decide);have ef:=oM (p:=bQ (bQ (bQ p 4) 6) 9) (k:=4) (by decide);have e6:=oN (p:=bQ (bQ (bQ p 4) 6) 9) (k:=4) (by decide);have io:=tT (f:=V.int) (l:=[0,0,0,0,0,0,1,2,3]) (d:=0) (p:=bQ (bQ p 4) 6) (k:=9) (by decide) rfl (by decide);have wW:=jD (α:=Int) (Q:=fun x=>0≤x∧x≤3) (d:=0) (l:=[0,0,0,0,0,0,1,2,3]) (p:=bQ (bQ p 4) 6) (k:=9) (by decide) (by decide) (by decide);have fn:=dO (cz ‹_› rfl);refine dT (eX (vs:=[.int (4+tk p 4),.int (1+tk (bQ p 4) 6),.int (pick 0 [0,0,0,0,0,0,1,2,3] (tk (bQ (bQ p 4) 6) 9)),.int (tk (bQ (bQ (bQ p 4) 6) 9) 4)]) (by repeat1' (first|exact t1|exact e1|exact t3|exact lW|exact io)) rfl) ?_
 generalize tk p 4=c2 at a1 a2⊢;generalize tk (bQ p 4) 6=x2 at g4 ji⊢;generalize pick (0:Int) [0,0,0,0,0,0,1,2,3] (tk (bQ (bQ p 4) 6) 9)=x3 at wW⊢;generalize tk (bQ (bQ (bQ p 4) 6) 9) 4=x4 at ef e6⊢;generalize bQ (bQ (bQ (bQ p 4) 6) 9) 4=hL at ba⊢;refine iJ (hh':=av hL c (nd++[enc (.skip t ⟨4+c2,1+x2,x3,x4⟩)]) ws gs rs (dj T) g e) (by repeat1' (exact rfl)) rfl (BC (bH (oP (w:=4+c2) (s:=1+x2) (o:=x3) (k:=x4) (by repeat1' (exact rfl)) ⟨by lia,by lia⟩ ⟨by lia,by lia⟩ wW ⟨d0 ‹_› rfl,C6 ‹_› rfl⟩ (by intro h;lia)) (bH a9 cW))) rfl fn rfl ?_;exact hX (aP rfl) ⟨_,p6 rfl,.mk hL ⟨4+c2,1+x2,x3,x4⟩ t _ ba ⟨⟨by show 0≤4+c2;lia,by show 4+c2≤20;lia,by show 0≤1+x2;lia,by show 1+x2≤20;lia,wW.1,wW.2,ef,by show x4≤20;lia⟩,by show x4≤4+c2;lia⟩⟩
structure nz(x:i7):Prop where
 n:x.length≤2
 b:∀q,q∈x→0≤q.2∧q.2≤6
 s0:0≤dU x
 s1:dU x≤6
inductive BF(m:Nat)(hh:List Cell):X×List Cell×Nat→Prop where
 |mk (p:eg) (x:i7) (t':Nat) (hp:fc m p) (aC:nz x):BF m hh (.v (.tup [.int (dU x),.lst (x.map fv)]),eE p::hh,t')
theorem BG{m:Nat}{p:eg}{hh:List Cell}(hp:fc (m+1) p):∃o,bu bl (n+4) 45 [.cell 0] (eE p::hh) t (eE p::hh).length=I o∧BF m hh o:=by
 subst_eqs
 have aa:=hp.bQ (k:=4);have t1:=ka (n:=n+2) (t:=t) (hh:=hh) hp (k:=4) (by decide) (by decide);have cZ:=tT (f:=V.int) (l:=[0,3,2,6]) (d:=0) (p:=p) (k:=4) (by decide) rfl (by decide);have eu:=jD (α:=Int) (Q:=fun x=>x=0∨(2≤x∧x≤6)) (d:=0) (l:=[0,3,2,6]) (p:=p) (k:=4) (by decide) (by decide) (by decide);refine dT (x:=.v (.int (pick 0 [0,3,2,6] (tk p 4)))) (by repeat1' (first|exact t1|exact cZ)) ?_
 generalize pick (0:Int) [0,3,2,6] (tk p 4)=x at eu⊢;generalize bQ p 4=cL at aa⊢;have ah:∀{C:Calls} {lo:List (Option X)} {hh:List Cell} {t bs:Nat} {b:Bool},U (x>0)=b→lo[1]? =I (I (.v (.int x)))→aj C (.cmp (.loc 1) .gt (.const (.int 0))) ⟨lo,hh,t,bs⟩=I (.v (.bool b),⟨lo,hh,t,bs⟩):=fun ae h=>by erw[←ae];exact pT (aP h) a9
 rcases eu with rfl|⟨eu,gc⟩
 ·refine hX (eX (bA (aP rfl) (bA (A4 (hj (eX (vs:=[.int 1,.int (0-1)]) (by repeat1' fail) rfl) rfl rfl) (wA fD (ah rfl rfl) (wA fD (ah rfl rfl) rfl))) di)) rfl) ?_;exact⟨_,p6 rfl,.mk cL [] t aa ⟨by decide,fun ag h=>(nomatch h),by decide,by decide⟩⟩
 ·have Jr:U (x>0)=true:=decide_eq_true (jN ‹_›);refine hX (eX (bA (aP rfl) (bA (A4 (hj (eX (vs:=[.int 1,.int (x-1)]) (by repeat1' fail) rfl) rfl rfl) (wz fD (ah Jr rfl) (wV (w:=1) (by repeat1' fail) ⟨by decide,by decide⟩) (wz fD (ah Jr rfl) (wV (w:=x-1) (by repeat1' fail) ⟨by lia,C8 ‹_› rfl⟩) rfl))) di)) rfl) ?_;have aL:dU [(t,1),(t+1,x-1)]=x:=by show 1+(x-1+0)=x;lia
  have:=BF.mk (m:=m) (hh:=hh) cL [(t,1),(t+1,x-1)] (t+1+1) aa ⟨bE 2,fun q aE=>?_,by erw[aL];exact d0 ‹_› rfl,by erw[aL];exact d3 ‹_› rfl⟩
  ·rw[aL]at this;exact⟨_,p6 rfl,this⟩
  ·simp only[ec,kX,or_false]at aE
   rcases aE with rfl|rfl
   ·exact(⟨by decide,by decide⟩:(0:Int)≤1∧(1:Int)≤6)
   ·exact⟨by show 0≤x-1;lia,by show x-1≤6;exact C8 ‹_› rfl⟩
end
section
variable{n t:Nat}{h:List Cell}
structure Row where
 (g first last gs ge:Nat)
 b9:Int
 cf:Bool
 (pre post:Int)
noncomputable def eM(r:Row):V:=.tup [.int r.g,.int r.first,.int r.last,.int r.b9,.bool r.cf,.int r.pre,.int r.post]
noncomputable def lD(x:Nat×bb):aI:=.skip x.1 x.2
noncomputable def jF(x:Nat×Int):aI:=.b9 x.1 x.2
noncomputable def jG(gi gs len:Nat):Nat→List (Nat×Int)→List Row
 |_,[]=>[]
 |k,x::r=>one (U (x.2<10000)) ⟨gi,k,k,gs,gs+len,x.2,false,0,0⟩++jG gi gs len (k+1) r
noncomputable def il(gi:Nat):Nat→List (Nat×Int)→List V
 |_,[]=>[]
 |k,x::r=>one (U (x.2<10000)) (.tup [.int gi,.int k,.int k,.int x.2,.bool false,.int 0,.int 0])++il gi (k+1) r
theorem Js{gi gs len k:Nat}{x:Nat×Int}{r:List (Nat×Int)}:jG gi gs len k (x::r)=one (U (x.2<10000)) ⟨gi,k,k,gs,gs+len,x.2,false,0,0⟩++jG gi gs len (k+1) r:=rfl
theorem Jt{gi k:Nat}{x:Nat×Int}{r:List (Nat×Int)}:il gi k (x::r)=one (U (x.2<10000)) (.tup [.int gi,.int k,.int k,.int x.2,.bool false,.int 0,.int 0])++il gi (k+1) r:=rfl
theorem tY{α β:Type}{f:α→β}{b:Bool}{x:α}:(one b x).map f=one b (f x):=by cases b<;>rfl
theorem Wc{gi gs len:Nat}:∀(l:List (Nat×Int)) (k:Nat),(jG gi gs len k l).map eM=il gi k l:=by
 intro aT
 induction aT with
 |nil=>intro _;exact rfl
 |cons x r aD=>intro k;erw[Js,Jt];erw[fy,tY,aD];rfl
theorem Wd{gi:Nat}{x:Nat×Int}:∀(l:List (Nat×Int)) (k:Nat),il gi k (l++[x])=il gi k l++one (U (x.2<10000)) (.tup [.int gi,.int (k+l.length:Nat),.int (k+l.length:Nat),.int x.2,.bool false,.int 0,.int 0]):=by
 intro aT
 induction aT with
 |nil=>intro k;exact ei _
 |cons y r aD=>intro k;show one _ _++il gi (k+1) (r++[x])=(one _ _++il gi (k+1) r)++_;erw[aD (k+1),eR,show k+1+r.length=k+(y::r).length by erw[gA];exact iO _ _ _]
theorem We{gi:Nat}:∀(l:List (Nat×Int)) (k:Nat),(il gi k l).length≤l.length:=by
 intro aT
 induction aT with
 |nil=>intro _;exact bE _
 |cons x r aD=>
  intro k;erw[Jt];erw[b4,gA];have:=aD (k+1);have:(one (U (x.2<10000)) (V.tup [.int gi,.int k,.int k,.int x.2,.bool false,.int 0,.int 0])).length≤1:=wI
  lia
structure BH(x:Nat×Int):Prop where
 lo: -12000≤x.2
 aw:x.2≤10000
inductive jH(hp:Int)(gi p:Nat):List aI→List bb→List Row→Prop where
 |glue (l:List (Nat×bb)) (aA:l≠[]) (ar:l.length≤2) (aK:∀x,x∈l→jE x.2):jH hp gi p (l.map lD) (l.map (·.2)) [⟨gi,p,p+l.length-1,p,p+l.length,0,false,0,0⟩]
 |jI (l:List (Nat×Int)) (aA:l≠[]) (ar:l.length≤2) (aJ:∀x,x∈l→BH x):jH hp gi p (l.map jF) [] (jG gi p l.length p l)
 |cf (t:Nat) (a b m:i7) (aB:nz a) (ae:nz b) (hm:nz m):jH hp gi p [.cf t a b m] [⟨dU m,0,0,0⟩] (one (U (hp<10000)) ⟨gi,p,p,p,p+1,hp,true,dU a,dU b⟩)
inductive BI(m:Nat)(S:cj)(nd ws gs rs:List V)(d:List (Nat×X))(g:List V):X×List Cell×Nat→Prop where
 |mk (p:eg) (af:List aI) (eN:List bb) (rws:List Row) (t':Nat) (hp:fc m p) (aO:jH S.hp gs.length nd.length af eN rws):BI m S nd ws gs rs d g (.v .bB,av p S.cell (nd++af.map enc) ws (gs++[.lst (eN.map b7)]) (rs++rws.map eM) d g [],t')
theorem wX{C:Calls}{Q:R→St→Prop}{ss:bD}{a b:ao}{s0 s1:St}{lo:List (Option X)}{bs m k:Nat}{hh hh':List Cell}{xs aS vs:List V}(aa:aj C a s0=I (.cell m,s1))(ar:s1.lst m=I aS)(ab:aj C b s1=I (.cell k,⟨lo,hh,t,bs⟩))(ai:hh[k]? =I (.lst vs))(ae:bs≤k)(hm:(hh.set k .gone)[m]? =I (.lst xs))(hf:fit xs.length=true)(he:(hh.set k .gone).set m (.lst (xs++[.lst vs]))=hh')(av:Wp Q (bI C ss ⟨lo,hh',t,bs⟩)):Wp Q (bI C (.cons (.expr (.append a b)) ss) s0):=by subst he;have au:(⟨lo,hh,t,bs⟩:St).freeze (.cell k)=I (.lst vs,⟨lo,hh.set k .gone,t,bs⟩):=bz (gV ai) (if_pos ae);have bo:(⟨lo,hh.set k .gone,t,bs⟩:St).lst m=I xs:=gV hm;refine oE (x:=.v .bB) (st1:=⟨lo,(hh.set k .gone).set m (.lst (xs++[V.lst vs])),t,bs⟩) (bG aa (bz rfl (bz ar (bG ab (bG au (bz bo (if_pos hf))))))) av
theorem oQ{st:St}{m:Nat}{xs:List V}(hm:st.lst m=I xs)(hf:fit xs.length=true):hO .len st [.cell m]=I (.v (.int xs.length),st):=bz (bz (eo hm rfl) rfl) (eo (bz rfl (bz rfl (if_pos hf))) rfl)
theorem Ju{st:St}{b:Bool}:hO .int st [.v (.bool b)]=I (.v (.int (if b then 1 else 0)),st):=rfl
noncomputable def ik(b:Bool):List V:=bif b then[.int 0,.int 1]else[.int 0]
structure Wf(k:Nat)(b:Bool)(v:V)(vs:List V):Prop where
 v:v= .int k
 vs:vs=(ik b).drop (k+1)
 k:k<2
theorem Jv{b:Bool}{k:Nat}{v:V}{vs:List V}(h:v::vs=(ik b).drop k):Wf k b v vs:=by
 match b,k,h with
 |true,0,h=>cases h;exact⟨rfl,rfl,by decide⟩
 |true,1,h=>cases h;exact⟨rfl,rfl,by decide⟩
 |true,k+2,h=>cases k<;>cases h
 |false,0,h=>cases h;exact⟨rfl,rfl,by decide⟩
 |false,k+1,h=>cases k<;>cases h
theorem Jw{b:Bool}{k:Nat}(h:[]=(ik b).drop k)(ai:k≤2):k≠0:=by rintro rfl;cases b<;>cases h
theorem Jx{C:Calls}{st:St}{a:ao}{b:Bool}(aa:aj C a st=I (.v (.bool b),st)):fi C (.range (.bin .add (.const (.int 1)) (.bi .int (.cons a .nil)))) st=I (.v .bB,ik b,st):=by
 have ab:aj C (.bin .add (.const (.int 1)) (.bi .int (.cons a .nil))) st=I (.v (.int (1+if b then 1 else 0)),st):=ng a9 (fY (bH aa cW) Ju);cases b
 ·exact wy ab rfl
 ·exact wy ab rfl
inductive Wg(b:Bool)(S:cj)(nd ws gs rs:List V)(d:List (Nat×X))(g:List V)(fj:Int)(m:Nat)(vs:List V)(st:St):Prop where
 |mk (p:eg) (l:List (Nat×bb)) (t:Nat) (x7 cX cY x10 x11 c5 x13 x14:Option X) (aa:vs=(ik b).drop l.length) (ab:l.length≤2) (aq:∀x,x∈l→jE x.2) (ba:fc (m+4*(2-l.length)) p)
  (b0:st=⟨[I (.cell 0),I (.cell 6),I (.cell 1),I (.v (.int fj)),I (.v (.int nd.length)),I (.v (.int gs.length)),I (.cell 8),x7,cX,cY,x10,x11,c5,x13,x14],av p S.cell (nd++(l.map lD).map enc) ws gs rs d g [.lst ((l.map (·.2)).map b7)],t,8⟩)
inductive BJ(b:Bool)(S:cj)(nd ws gs rs:List V)(d:List (Nat×X))(g:List V)(fj:Int)(m:Nat)(vs:List V)(st:St):Prop where
 |mk (p:eg) (l:List (Nat×Int)) (t:Nat) (x7 cX cY x10 x11 c5 x13 x14:Option X) (aa:vs=(ik b).drop l.length) (ab:l.length≤2) (aq:∀x,x∈l→BH x) (ba:fc (m+(2-l.length)) p)
  (b0:st=⟨[I (.cell 0),I (.cell 6),I (.cell 1),I (.v (.int fj)),I (.v (.int nd.length)),I (.v (.int gs.length)),I (.cell 8),x7,cX,cY,x10,x11,c5,x13,x14],av p S.cell (nd++(l.map jF).map enc) ws gs (rs++il gs.length nd.length l) d g [.lst []],t,8⟩)
theorem fc.le{m k:Nat}{p:eg}(h:fc m p)(ai:k≤m):fc k p:=⟨h.lo,by have:=h.aw;exact Me ‹_› ‹_›⟩
set_option maxHeartbeats 1000000 in
theorem Wh{m:Nat}{p:eg}{S:cj}{nd ws gs rs:List V}{T:Tl}{g:List V}(hp:fc (m+9) p)(aA:nd.length≤990)(aK:gs.length≤990)(aba:rs.length≤1000):
  ∃o,bu bl (n+5) 46 [.cell 0,.cell 6,.cell 1] (av p S.cell nd ws gs rs (dj T) g []) t (av p S.cell nd ws gs rs (dj T) g []).length=I o∧BI m S nd ws gs rs (dj T) g o:=by
 subst_eqs
 have aa:=hp.bQ (k:=8);have t1:∀{l:List Cell},_:=fun{l}=>ka (n:=n+3) (t:=t) (hh:=l) hp (k:=8) (by decide) (by decide);have fn:fit nd.length=true:=dO (by exact cz ‹_› rfl);have fz:fit gs.length=true:=dO (by exact cz ‹_› rfl);have fr:fit rs.length=true:=dO (by exact cz ‹_› rfl);refine hk (l:=[.v (.int (tk p 8)),.v (.int nd.length),.v (.int gs.length),.cell 8]) (st1:=⟨_,av (bQ p 8) S.cell nd ws gs rs (dj T) g [.lst []],t,8⟩) (bH (fo (by repeat1' fail) t1) (bH (fY (by repeat1' (exact rfl)) (oQ rfl fn)) (bH (fY (by repeat1' (exact rfl)) (oQ rfl fz)) (bH (nh di rfl) cW)))) (by iterate fail) ?_;generalize tk p 8=fj;generalize bQ p 8=cL at aa⊢
 iterate fail
 ·intro _;refine gW (Jx (by repeat1' fail)) ?_;generalize U (fj=3)=b;refine i5 (Wg b S nd ws gs rs (dj T) g fj m) ?_ ?_ _ _ (.mk cL [] t J J J J J J J J rfl (by decide) (fun ag h=>(nomatch h)) aa (by rw[xT,xT,ei];rfl))
  ·rintro v vs st ⟨p,l,t,x7,cX,cY,x10,x11,c5,x13,x14,ay,au,bo,cg,rfl⟩;obtain⟨rfl,rfl,ai⟩:=Jv ay;refine fun Q cR el=>⟨_,fD,?_⟩;refine eA fun cF=>?_;obtain⟨o,aO,g1⟩:=Wb (n:=n) (m:=m+4*(2-(l.length+1))) (p:=p) (c:=S.cell) (nd:=nd++(l.map lD).map enc) (ws:=ws) (gs:=gs) (rs:=rs) (T:=T) (g:=g) (e:=[.lst ((l.map (·.2)).map b7)]) (t:=t) (by erw[show m+4*(2-(l.length+1))+4=m+4*(2-l.length)by exact Mq ‹_›];exact cg) (by simp only[b4,bF];exact kn ‹_› ‹_› rfl);obtain⟨dp,x,t0,t',tZ,aC⟩:=g1;refine cF ?_;refine iJ (hh':=av dp S.cell ((nd++(l.map lD).map enc)++[enc (.skip t0 x)]) ws gs rs (dj T) g [.lst ((l.map (·.2)).map b7++[b7 x])]) (aP rfl) rfl (fo (by repeat1' fail) aO) rfl (dO (by simp only[bF];exact cz ‹_› rfl)) rfl ?_;refine gh (cR _ _ rfl (.mk dp (l++[(t0,x)]) t' (I (.v (.int l.length))) cX cY x10 x11 c5 x13 x14 (by erw[b4];rfl) (by erw[b4];exact ai) (fun y aV=>?_) (by erw[b4];exact tZ) ?_))
   ·refine eF (dR.mp aV) (fun aV=>?_) (fun aV=>?_)
    ·exact bo y aV
    ·erw[dY.mp aV];exact aC
   ·simp only[fy,eR];rfl
  ·rintro st ⟨p,l,t,x7,cX,cY,x10,x11,c5,x13,x14,ay,au,bo,cg,rfl⟩;have vz:=Jw ay au;have hS:fit ((l.map (·.2)).map b7).length=true:=dO (by simp only[bF];exact cz ‹_› rfl);show Wp _ _;refine iJ (hh':=av p S.cell (nd++(l.map lD).map enc) ws gs (rs++[eM ⟨gs.length,nd.length,nd.length+l.length-1,nd.length,nd.length+l.length,0,false,0,0⟩]) (dj T) g [.lst ((l.map (·.2)).map b7)]) (by repeat1' (exact rfl)) rfl (eX (vs:=[.int gs.length,.int nd.length,.int ((nd.length:Int)+((l.map (·.2)).map b7).length-1),.int 0,.bool false,.int 0,.int 0]) (by repeat1' (exact oQ rfl hS)) rfl) rfl fr ?_ ?_
   ·have:(nd.length:Int)+((l.map (·.2)).map b7).length-1=((nd.length+l.length-1:Nat):Int):=by simp only[bF];exact Mu ‹_›
    erw[this];rfl
   refine wX (hh':=av p S.cell (nd++(l.map lD).map enc) ws (gs++[.lst ((l.map (·.2)).map b7)]) (rs++[eM ⟨gs.length,nd.length,nd.length+l.length-1,nd.length,nd.length+l.length,0,false,0,0⟩]) (dj T) g [.gone]) (by repeat1' (exact rfl)) rfl (aP rfl) rfl (by decide) rfl fz rfl ?_;refine gh ⟨_,tS (h':=av p S.cell (nd++(l.map lD).map enc) ws (gs++[.lst ((l.map (·.2)).map b7)]) (rs++[eM ⟨gs.length,nd.length,nd.length+l.length-1,nd.length,nd.length+l.length,0,false,0,0⟩]) (dj T) g []) (e:=[.gone]) rfl,?_⟩;exact .mk p _ _ _ _ (cg.le (by exact f6 _ _)) (.glue l (fun h=>vz (by erw[h];rfl)) au bo)
 ·intro _
  iterate fail
  ·intro _;have ae:∃b,aj (bu bl (n+4)) (.and (.cmp (.loc 3) .eq (.const (.int 5))) (.cmp (.bi .len (.cons (.item (.loc 1) (.const (.str 27))) .nil)) .le (.loc 5))) ⟨[I (.cell 0),I (.cell 6),I (.cell 1),I (.v (.int fj)),I (.v (.int nd.length)),I (.v (.int gs.length)),I (.cell 8),J,J,J,J,J,J,J,J],av cL S.cell nd ws gs rs (dj T) g [.lst []],t,8⟩=I (.v (.bool b),⟨[I (.cell 0),I (.cell 6),I (.cell 1),I (.v (.int fj)),I (.v (.int nd.length)),I (.v (.int gs.length)),I (.cell 8),J,J,J,J,J,J,J,J],av cL S.cell nd ws gs rs (dj T) g [.lst []],t,8⟩):=⟨_,by repeat1' (first|exact oQ rfl fr|exact rfl)⟩
   obtain⟨b,ae⟩:=ae;refine gW (Jx ae) ?_;refine i5 (BJ b S nd ws gs rs (dj T) g fj m) ?_ ?_ _ _ (.mk cL [] t J J J J J J J J rfl (by decide) (fun ag h=>(nomatch h)) (aa.le (by show m+2≤_;lia)) (by rw[xT,xT,ei];delta il;rw[ei];rfl))
   ·rintro v vs st ⟨p,l,t,x7,cX,cY,x10,x11,c5,x13,x14,ay,au,bo,cg,rfl⟩;obtain⟨rfl,rfl,ai⟩:=Jv ay;have cg:fc (m+(2-(l.length+1))+1) p:=cg.le (by exact Mr ‹_›);have e1:∀{l:List Cell},_:=fun{l}=>ka (n:=n+3) (t:=t) (hh:=l) cg (k:=9) (by decide) (by decide);have Wi:=tT (f:=V.int) (l:=[50,-50,10000,120,-300,9999,-10000,0,-12000]) (d:=0) (p:=p) (k:=9) (by decide) rfl (by decide);have BK:=jD (α:=Int) (Q:=fun x=> -12000≤x∧x≤10000) (d:=0) (l:=[50,-50,10000,120,-300,9999,-10000,0,-12000]) (p:=p) (k:=9) (by decide) (by decide) (by decide);have b0:=cg.bQ (k:=9);refine fun Q cR el=>⟨_,fD,?_⟩;refine dT (x:=.v (.int (pick 0 [50,-50,10000,120,-300,9999,-10000,0,-12000] (tk p 9)))) (by repeat1' (first|exact e1|exact Wi)) ?_
    generalize pick (0:Int) [50,-50,10000,120,-300,9999,-10000,0,-12000] (tk p 9)=v at BK⊢;generalize bQ p 9=ck at b0⊢;have zS:fit (rs++il gs.length nd.length l).length=true:=dO (by have:=We (gi:=gs.length) l nd.length;erw[b4];lia);refine iJ (hh':=av ck S.cell ((nd++(l.map jF).map enc)++[enc (.b9 t v)]) ws gs (rs++il gs.length nd.length l) (dj T) g [.lst []]) (by repeat1' (exact rfl)) rfl (BD (by repeat1' fail) ⟨by exact d0 (qq ‹_›) rfl,by exact d3 (qp ‹_›) rfl⟩) rfl (dO (by simp only[b4,bF];exact kn ‹_› ‹_› rfl)) rfl ?_;have Jy:∀new:List V,new=one (U (v<10000)) (.tup [.int gs.length,.int (nd.length+l.length:Nat),.int (nd.length+l.length:Nat),.int v,.bool false,.int 0,.int 0])→∀cX cY x10 x11 c5 x13 x14,BJ b S nd ws gs rs (dj T) g fj m ((ik b).drop (l.length+1)) ⟨[I (.cell 0),I (.cell 6),I (.cell 1),I (.v (.int fj)),I (.v (.int nd.length)),I (.v (.int gs.length)),I (.cell 8),I (.v (.int l.length)),cX,cY,x10,x11,c5,x13,x14],av ck S.cell ((nd++(l.map jF).map enc)++[enc (.b9 t v)]) ws gs ((rs++il gs.length nd.length l)++new) (dj T) g [.lst []],t+1,8⟩:=fun new aA cX cY x10 x11 c5 x13 x14=>by
     refine BJ.mk ck (l++[(t,v)]) (t+1) (I (.v (.int l.length))) cX cY x10 x11 c5 x13 x14 (by erw[b4];rfl) (by erw[b4];exact ai) (fun y aV=>?_) (by erw[b4];exact b0) ?_
     ·refine eF (dR.mp aV) (fun aV=>?_) (fun aV=>?_)
      ·exact bo y aV
      ·erw[dY.mp aV];exact⟨BK.1,BK.2⟩
     ·erw[aA,Wd];simp only[fy,eR];rfl
    iterate fail
    ·intro d2;refine iJ (hh':=av ck S.cell ((nd++(l.map jF).map enc)++[enc (.b9 t v)]) ws gs ((rs++il gs.length nd.length l)++[.tup [.int gs.length,.int ((nd.length:Int)+l.length),.int ((nd.length:Int)+l.length),.int v,.bool false,.int 0,.int 0]]) (dj T) g [.lst []]) (by repeat1' (exact rfl)) rfl (by repeat1' (exact rfl)) rfl zS rfl ?_;exact gh (cR _ _ rfl (Jy _ (by erw[d2];rfl) _ _ _ _ _ _ _))
    ·intro d2;refine gh (cR _ _ rfl (?_));have:=Jy [] (by erw[d2];rfl);rw[ei]at this;exact this _ _ _ _ _ _ _
   ·rintro st ⟨p,l,t,x7,cX,cY,x10,x11,c5,x13,x14,ay,au,bo,cg,rfl⟩;show Wp _ _;refine wX (hh':=av p S.cell (nd++(l.map jF).map enc) ws (gs++[.lst []]) (rs++il gs.length nd.length l) (dj T) g [.gone]) (by repeat1' (exact rfl)) rfl (aP rfl) rfl (by decide) rfl fz rfl ?_;refine gh ⟨_,tS (h':=av p S.cell (nd++(l.map jF).map enc) ws (gs++[.lst []]) (rs++il gs.length nd.length l) (dj T) g []) (e:=[.gone]) rfl,?_⟩;erw[←Wc (gs:=nd.length) (len:=l.length)];exact .mk p _ _ _ _ (cg.le (by exact f6 _ _)) (.jI l (fun h=>(Jw ay au) (by erw[h];rfl)) au bo)
  ·intro _;refine eA fun cF=>?_;obtain⟨a0,ic,g1⟩:=BG (n:=n) (m:=m+7) (p:=cL) (t:=t) (hh:=[S.cell,.lst nd,.lst ws,.lst gs,.lst rs,.e9 (dj T),.lst g,.lst []]) aa;obtain⟨eu,a,t1,Wj,aB⟩:=g1;obtain⟨cK,oA,g2⟩:=BG (n:=n) (m:=m+6) (p:=eu) (t:=t1) (hh:=[S.cell,.lst nd,.lst ws,.lst gs,.lst rs,.e9 (dj T),.lst g,.lst []]) Wj;obtain⟨gc,b,e1,Wk,ae⟩:=g2;obtain⟨gd,Wl,g3⟩:=BG (n:=n) (m:=m+5) (p:=gc) (t:=e1) (hh:=[S.cell,.lst nd,.lst ws,.lst gs,.lst rs,.e9 (dj T),.lst g,.lst []]) Wk;obtain⟨hc,fG,t3,om,hm⟩:=g3;refine cF ?_;refine hk (l:=[.v (.tup [.int (dU a),.lst (a.map fv)]),.v (.tup [.int (dU b),.lst (b.map fv)]),.v (.tup [.int (dU fG),.lst (fG.map fv)])]) (st1:=⟨_,av hc S.cell nd ws gs rs (dj T) g [.lst []],t3,8⟩) (bH (fo (by repeat1' fail) ic) (bH (fo (by repeat1' fail) oA) (bH (fo (by repeat1' fail) Wl) cW))) (by iterate fail) ?_;refine iJ (hh':=av hc S.cell (nd++[enc (.cf t3 a b fG)]) ws gs rs (dj T) g [.lst []]) (by repeat1' (exact rfl)) rfl (Jk (by repeat1' (exact rfl)) (by have:=aB.n;exact cz ‹_› rfl) (by have:=ae.n;exact cz ‹_› rfl) (by have:=hm.n;exact cz ‹_› rfl)) rfl fn rfl ?_;refine iJ (hh':=av hc S.cell (nd++[enc (.cf t3 a b fG)]) ws gs rs (dj T) g [.lst [b7 ⟨dU fG,0,0,0⟩]]) (by repeat1' (exact rfl)) rfl (by repeat1' (exact rfl)) rfl rfl rfl ?_
   iterate (exact rfl)
   ·intro ab;refine iJ (hh':=av hc S.cell (nd++[enc (.cf t3 a b fG)]) ws gs (rs++[eM ⟨gs.length,nd.length,nd.length,nd.length,nd.length+1,S.hp,true,dU a,dU b⟩]) (dj T) g [.lst [b7 ⟨dU fG,0,0,0⟩]]) (by repeat1' (exact rfl)) rfl (by repeat1' (exact rfl)) rfl fr rfl ?_;refine wX (hh':=av hc S.cell (nd++[enc (.cf t3 a b fG)]) ws (gs++[.lst [b7 ⟨dU fG,0,0,0⟩]]) (rs++[eM ⟨gs.length,nd.length,nd.length,nd.length,nd.length+1,S.hp,true,dU a,dU b⟩]) (dj T) g [.gone]) (by repeat1' (exact rfl)) rfl (aP rfl) rfl (by decide) rfl fz rfl ?_;refine gh ⟨_,tS (h':=av hc S.cell (nd++[enc (.cf t3 a b fG)]) ws (gs++[.lst [b7 ⟨dU fG,0,0,0⟩]]) (rs++[eM ⟨gs.length,nd.length,nd.length,nd.length,nd.length+1,S.hp,true,dU a,dU b⟩]) (dj T) g []) (e:=[.gone]) rfl,?_⟩;have:=jH.cf (hp:=S.hp) (gi:=gs.length) (p:=nd.length) t3 a b fG aB ae hm;rw[show U (S.hp<10000)=true from ab]at this;exact .mk hc _ _ _ _ (om.le (by exact f6 _ _)) this
   ·intro ab;refine wX (hh':=av hc S.cell (nd++[enc (.cf t3 a b fG)]) ws (gs++[.lst [b7 ⟨dU fG,0,0,0⟩]]) rs (dj T) g [.gone]) (by repeat1' (exact rfl)) rfl (aP rfl) rfl (by decide) rfl fz rfl ?_;refine gh ⟨_,tS (h':=av hc S.cell (nd++[enc (.cf t3 a b fG)]) ws (gs++[.lst [b7 ⟨dU fG,0,0,0⟩]]) rs (dj T) g []) (e:=[.gone]) rfl,?_⟩;have:=jH.cf (hp:=S.hp) (gi:=gs.length) (p:=nd.length) t3 a b fG aB ae hm;rw[show U (S.hp<10000)=false from ab]at this;have:=BI.mk (nd:=nd) (ws:=ws) (gs:=gs) (rs:=rs) (d:=dj T) (g:=g) hc _ _ _ (t3+1) (om.le (show m≤m+5 by exact f6 _ _)) this;rw[show rs++(one false _).map eM=rs from ei _]at this;exact this
end
section
variable{n t:Nat}{h:List Cell}
theorem Wm{q:Int}(h0:0≤q):(q^3).fdiv 262144+(if U (2*(q^3).fmod 262144≥262144)then 1 else 0)=(q*q*q+131072).fdiv 262144:=by
 have e:q^3=q*q*q:=by erw[show(3:Nat)=2+1 from rfl,LW,show(2:Nat)=1+1 from rfl,LW,LW,Int.pow_zero,Int.one_mul]
 erw[e];generalize q*q*q=c;erw[r1 _ (by decide),r1 _ (by decide),aah _ (by decide)];refine bZ (fun h:2*(c%262144)≥262144=>?_) (fun h=>?_)
 ·erw[decide_eq_true h,if_pos rfl];lia
 ·erw[decide_eq_false h,if_neg (by decide)];lia
theorem Wn{e w:Int}(he:0≤e)(hw: -1000000000<w)(wY:w<1000000000):bu bl (n+1) 47 [.v (.int e),.v (.int w)] h t h.length=I (.v (.int (eJ e w)),h,t):=by
 ac_rfl
 iterate fail
 ·intro aa
  iterate fail
  exact dN (by unfold eJ;erw[aa];rfl)
 intro aa;cases ab:U (w≤0)with
 |true=>
  refine dT (x:=.v (.int 1291)) (jA (p:=true) (by erw[←ab];exact AX (aP rfl) a9) (fun ag=>a9) (fun h=>nomatch h)) ?_
  iterate fail
  exact dN (by unfold eJ;erw[aa,ab];rfl)
 |false=>
  have Io:=of_decide_eq_false ab;have a5:small w=true:=j3 (d0 ‹_› rfl) (d3 ‹_› rfl);refine dT (x:=.v (.int ((e*297).fdiv w))) (jA (p:=false) (by erw[←ab];exact AX (aP rfl) a9) (fun h=>nomatch h) (fun ag=>by erw[Int.mul_comm];exact Ia (oD a9 (aP rfl) rfl) (aP rfl) (by erw[a5];lia))) ?_;have kI:0≤(e*297).fdiv w:=by erw[r1 _ (by lia)];exact CW (by lia) (by lia)
  iterate fail
  ·intro aq
   iterate fail
   exact dN (by unfold eJ;erw[aa,ab,aq];rfl)
  ·intro aq;have eu:=of_decide_eq_false aq;have hp:∀{C:Calls} {st:St},st.loc[2]? =I (I (.v (.int ((e*297).fdiv w))))→aj C (.bin .pow (.loc 2) (.const (.int 3))) st=I (.v (.int (((e*297).fdiv w)^3)),st):=fun ar=>j2 (aP ar) a9 rfl rfl (if_pos ⟨by decide,by decide,d0 ‹_› rfl,C7 ‹_› rfl⟩);refine wB (vs:=[.int ((((e*297).fdiv w)^3).fdiv 262144),.int ((((e*297).fdiv w)^3).fmod 262144)]) (fY (bH (hp rfl) (bH (j2 a9 a9 rfl rfl (r:=.int 262144) rfl) cW)) rfl) (by dsimp only[List.map];iterate fail) ?_;refine hX (ng (aP rfl) (fY (bH (rh (oD a9 (aP rfl) rfl) (j2 a9 a9 rfl rfl (r:=.int 262144) rfl)) cW) Ju)) ?_;exact dN (by unfold eJ;erw[aa,ab,aq,Wm kI];rfl)
theorem set_same{α:Type}:∀{l:List α} {m:Nat} {x:α},l[m]? =I x→l.set m x=l:=by
 intro l
 induction l with
 |nil=>intro _ _ _;rfl
 |cons y r aD=>
  intro m x h
  induction m using fe with
  |zero=>injections h;rfl
  |succ m=>exact congrArg (y:: ·) (aD (m:=m) h)
theorem BL{C:Calls}{st:St}{a elt:ao}{aF:cB}{m:Nat}{vs aS:List V}{lo dX:List (Option X)}{bs:Nat}{test:St→Option (Bool×St)}{E:ao}(hR:aj C E st=(fi C (.of a) st).bind fun p=>aY (fh aF test (fun st=>gN (aj C elt st)) p.2.1 (g8 aF p.2.2)) fun aS st1=>uW p.2.2 p.1 p.2.1 aS st1)
  (aa:aj C a st=I (.cell m,⟨lo,h,t,bs⟩)) (hm:h[m]? =I (.lst vs)) (hf:fit vs.length=true) (ab:fh aF test (fun st=>gN (aj C elt st)) vs (g8 aF ⟨lo,h.set m .gone,t,bs⟩)=I (aS,⟨dX,h.set m .gone,t,bs⟩)):aj C E st=I (.v (.lst aS),⟨lo,h,t,bs⟩):=by
 erw[hR];refine bz (Ul aa (gV hm) hf) (bG ab ?_);have ae:(⟨dX,h.set m .gone,t,bs⟩:St).back (.cell m) vs=I ⟨dX,h,t,bs⟩:=by refine eo (bz (get_set hm) rfl) ?_;show(⟨dX,(h.set m .gone).set m (.lst vs),t,bs⟩:St)=_;erw[LS,set_same hm]
 exact(if_pos rfl).trans (eo ae rfl)
theorem Wo{C:Calls}{k i bs:Nat}{sel:bb→Int}(aL:∀g,gL (b7 g) (.int i)=I (.int (sel g))):∀(l:List bb) (lo:List (Option X)),k<lo.length→∃dX,fh (.one k) (fun st=>I (true,st)) (fun st=>gN (aj C (.item (.loc k) (.const (.int i))) st)) (l.map b7) ⟨lo,h,t,bs⟩=I ((l.map sel).map .int,⟨dX,h,t,bs⟩):=by
 intro aT
 induction aT with
 |nil=>intro lo _;exact⟨lo,rfl⟩
 |cons g r aD=>intro lo ai;obtain⟨dX,e⟩:=aD (lo.set k (I (.v (b7 g)))) (by erw[kj];exact ai);exact⟨dX,rj fD (hi (aP (by erw[xV ai])) a9 (aL g)) e⟩
theorem Wq{C:Calls}{k i bs:Nat}{sel:bb→Int}{c:ao}{p:bb→Bool}(aL:∀g,gL (b7 g) (.int i)=I (.int (sel g)))(ah:∀g lo,lo[k]? =I (I (.v (b7 g)))→aj C c ⟨lo,h,t,bs⟩=I (.v (.bool (p g)),⟨lo,h,t,bs⟩)):∀(l:List bb) (lo:List (Option X)),k<lo.length→∃dX,fh (.one k) (fun st=>hN (aj C c st)) (fun st=>gN (aj C (.item (.loc k) (.const (.int i))) st)) (l.map b7) ⟨lo,h,t,bs⟩=I (((l.filter p).map sel).map .int,⟨dX,h,t,bs⟩):=by
 intro aT
 induction aT with
 |nil=>intro lo _;exact⟨lo,rfl⟩
 |cons g r aD=>
  intro lo ai;obtain⟨dX,e⟩:=aD (lo.set k (I (.v (b7 g)))) (by erw[kj];exact ai);have aK:(lo.set k (I (X.v (b7 g))))[k]? =I (I (.v (b7 g))):=by erw[xV ai]
  have aa:=ah g _ aK;cases hp:p g with
  |true=>replace aa:=hp▸aa;refine⟨dX,?_⟩;erw[xX,hp];exact wz fD aa (hi (aP aK) a9 (aL g)) e
  |false=>replace aa:=hp▸aa;refine⟨dX,?_⟩;erw[xX,hp];exact wA fD aa e
theorem sum_ints:∀l:List Int,ph (l.map .int)=I l.sum:=by
 intro aT
 induction aT with
 |nil=>exact rfl
 |cons i r aD=>show(ph (r.map .int)).map (i+ ·)=_;erw[aD];rfl
theorem vn{st:St}{l:List Int}:hO .sum st [.v (.lst (l.map .int))]=I (.v (.int l.sum),st):=by have e:∀xs:List V,hO .sum st [.v (.lst xs)]=((ph xs).map V.int).map fun r=>(X.v r,st):=fun ag=>rfl;rw[e,sum_ints];rfl
end
section
variable{n t:Nat}{h:List Cell}
structure bX where
 T:Tl
 S:cj
 ws:List Int
 gs:List (List bb)
 rs:List Row
 gr:List bb
 en:Nat
noncomputable def lE(l:List bb):V:=.lst (l.map b7)
noncomputable def rz(D:bX):List (Nat×X):=dj D.T++[(60,.v (.int D.en))]
structure oR(D:bX)(h:List Cell):Prop where
 fQ:h[1]? =I D.S.cell
 ws:h[3]? =I (.lst (D.ws.map .int))
 gs:h[4]? =I (.lst (D.gs.map lE))
 rs:h[5]? =I (.lst (D.rs.map eM))
 kc:h[6]? =I (.e9 (rz D))
 gr:h[7]? =I (.lst (D.gr.map b7))
structure iK(D:bX):Prop where
 w:D.ws.length=D.gs.length+1
 oA:D.ws.length≤5
 r:∀r,r∈D.rs→r.g<D.gs.length
 b3:D.rs.length≤13
 g:∀l,l∈D.gs→l.length≤2
 a4:∀l,l∈D.gs→∀g,g∈l→jE g
 dg:∀w,w∈D.ws→8≤w∧w≤40
 pr:∀r,r∈D.rs→(0≤r.pre∧r.pre≤6)∧(0≤r.post∧r.post≤6)
 eI:∀g,g∈D.T.eI→jE g
 ay:∀g,g∈D.T.ay→jE g
 aT:D.T.eI.length≤1
 aM:D.T.ay.length≤1
 gr:∀g,g∈D.gr→hH g
 qa:D.gr.length≤3
noncomputable def f3(w:Int):bb:=⟨w,0,0,0⟩
noncomputable def bX.lo(D:bX)(a:Option Nat):Nat:=(a.bind (D.rs[·]?)).elim 0 (·.g+1)
noncomputable def bX.aw(D:bX)(b:Nat):Nat:=(D.rs[b]?).elim (D.ws.length-1) (·.g)
noncomputable def bX.kN(D:bX)(a:Option Nat):List bb:=(a.bind (D.rs[·]?)).elim D.T.eI fun r=>[f3 r.post]
noncomputable def bX.i'(D:bX)(b:Nat):List bb:=(D.rs[b]?).elim D.T.ay fun r=>[f3 r.pre]
noncomputable def kO(ws:List Int)(gs:List (List bb))(eb:Nat):Nat→Nat→List bb
 |_,0=>[]
 |k,m+1=>f3 (ws.getD k 0)::((bif U (k<eb)then gs.getD k []else[])++kO ws gs eb (k+1) m)
theorem Wr{ws:List Int}{gs:List (List bb)}{eb k m:Nat}:kO ws gs eb k (m+1)=f3 (ws.getD k 0)::((bif U (k<eb)then gs.getD k []else[])++kO ws gs eb (k+1) m):=rfl
def bX.line(D:bX)(a:Option Nat)(b:Nat):List bb:=((D.gr++D.kN a)++D.i' b)++kO D.ws D.gs (D.aw b) (D.lo a) (D.aw b+1-D.lo a)
noncomputable def hz(z W H K F:Int):Int×Int:=bif U (z-W>0)&&U (H>0)then(0,2)else bif U (z-W< -K)then(10001,3)
 else bif U (eJ ((z-W).natAbs:Nat) (bif U (z-W>0)then F else K)≤12)then(eJ ((z-W).natAbs:Nat) (bif U (z-W>0)then F else K),2)
 else(eJ ((z-W).natAbs:Nat) (bif U (z-W>0)then F else K),bif U (z-W<0)then 3 else bif U (eJ ((z-W).natAbs:Nat) (bif U (z-W>0)then F else K)≤99)then 1 else 0)
def ip(z:Int)(l:List bb):Int×Int:=hz z (l.map (·.w)).sum ((l.filter fun g=>decide (g.o>0)).map (·.s)).sum (l.map (·.k)).sum ((l.filter fun g=>decide (g.o=0)).map (·.s)).sum
theorem BM{C:Calls}{Q:R→St→Prop}{ss:bD}{a b:ao}{s0 s1:St}{lo:List (Option X)}{bs:Nat}{xs:List bb}{aS:List V}{g:bb}(aa:aj C a s0=I (.cell h.length,s1))(ar:s1.lst h.length=I aS)(ab:aj C b s1=I (.v (b7 g),⟨lo,h++[.lst (xs.map b7)],t,bs⟩))(hf:xs.length≤1000)(av:Wp Q (bI C ss ⟨lo,h++[.lst ((xs++[g]).map b7)],t,bs⟩)):Wp Q (bI C (.cons (.expr (.append a b)) ss) s0):=iJ aa ar ab (eY 0) (fZ (by assumption) (by first|decide|lia)) (by erw[fy];exact nj 0 _) av
theorem BN{C:Calls}{Q:R→St→Prop}{ss:bD}{a b:ao}{s0 s1:St}{lo:List (Option X)}{bs:Nat}{xs gs:List bb}{aS:List V}(aa:aj C a s0=I (.cell h.length,s1))(ar:s1.lst h.length=I aS)(ab:aj C b s1=I (.v (.lst (gs.map b7)),⟨lo,h++[.lst (xs.map b7)],t,bs⟩))(hf:xs.length+gs.length≤1000)(av:Wp Q (bI C ss ⟨lo,h++[.lst ((xs++gs).map b7)],t,bs⟩)):Wp Q (bI C (.cons (.expr (.extend a b)) ss) s0):=Jn aa ar ab (eY 0) (dO (by erw[b4,bF,bF];exact cz ‹_› rfl)) (by erw[fy];exact nj 0 _) av
noncomputable def nA(a:Option Nat):Int:=a.elim (-1) fun i=>i
theorem qb{α:Type}{f:α→V}{l:List α}{k:Nat}{x:α}(aC:l[k]? =I x)(ar:l.length≤1000):n0 (.lst (l.map f)) (.int (k:Int))=I (.v (f x)):=by have:gL (.lst (l.map f)) (.int (k:Int))=I (f x):=item_at (k:=k) (by erw[lO,aC];rfl) rfl (by have:=(d7.mp aC).1;exact r5 ‹_› ‹_› rfl);exact eo this rfl
theorem Ws{ws:List Int}{gs:List (List bb)}{eb:Nat}(aK:∀l,l∈gs→l.length≤2):∀(m k:Nat),(kO ws gs eb k m).length≤3*m:=by
 intro eW
 induction eW with
 |zero=>intro _;exact bE _
 |succ m aD=>
  intro k;have:=aD (k+1);have ab:(gs.getD k []).length≤2:=by
   erw[jd];cases aE:gs[k]? with
   |none=>exact fx _
   |some l=>exact aK l (fI aE)
  erw[Wr];erw[gA,b4];cases U (k<eb)
  ·show 0+_+1≤_;lia
  ·show(gs.getD k []).length+_+1≤_;lia
inductive Wt(D:bX)(fin:List bb)(eb:Nat)(c2 x2:Option X)(h:List Cell)(t:Nat)(vs:List V)(st:St):Prop where
 |mk (k m:Nat) (acc:List bb) (x4 x6 x7 cX cY x10 x11 c5:Option X) (ay:vs=(uB k m).map fun i=>V.int (i:Nat)) (au:acc++kO D.ws D.gs eb k m=fin) (bo:0<m→k+m≤eb+1)
  (dC:st=⟨[I (.cell 6),c2,x2,I (.cell h.length),x4,I (.v (.int eb)),x6,x7,cX,cY,x10,x11,c5],h++[.lst (acc.map b7)],t,h.length⟩)
theorem Wu{l:List Int}(h:∀x,x∈l→0≤x∧x≤20):0≤l.sum∧l.sum≤20*l.length:=by
 induction l with
 |nil=>exact⟨by decide,by decide⟩
 |cons x r aG=>refine bC (fun a b=>?_) (aG fun y aV=>h y (.tail _ aV));refine bC (fun c d=>?_) (h x (.head _));erw[xN,gA,xH,Lv,rP (20*_)];exact⟨r2 c a,kh d b⟩
end
section
variable{n t:Nat}{h:List Cell}
noncomputable abbrev t2(k:Nat):ao:=.item (.loc 0) (.const (.str k))
noncomputable abbrev t4(l k:Nat):ao:=.item (.item (t2 27) (.loc l)) (.const (.int k))
noncomputable abbrev Wv:c8:=.ite (.cmp (.loc 1) .ge (.const (.int 0))) (.cons (.assign (.loc 4) (.bin .add (t4 1 0) (.const (.int 1)))) (.cons (.expr (.append (.loc 3) (.tup (.cons (t4 1 6) (.cons (.const (.int 0)) (.cons (.const (.int 0)) (.cons (.const (.int 0)) .nil))))))) .nil)) (.cons (.expr (.extend (.loc 3) (.item (t2 57) (.const (.int 0))))) .nil)
noncomputable abbrev Ww:c8:=.ite (.cmp (.loc 2) .lt (.bi .len (.cons (t2 27) .nil))) (.cons (.assign (.loc 5) (t4 2 0)) (.cons (.expr (.append (.loc 3) (.tup (.cons (t4 2 5) (.cons (.const (.int 0)) (.cons (.const (.int 0)) (.cons (.const (.int 0)) .nil))))))) .nil)) (.cons (.expr (.extend (.loc 3) (.item (t2 57) (.const (.int 1))))) .nil)
section
variable{C:Calls}{Q:R→St→Prop}{ss:bD}{D:bX}{a:Option Nat}{b bs:Nat}{c2 x2 x4 x5 x6 x7 cX cY x10 x11 c5:Option X}{acc:List bb}
theorem wZ{l k i:Nat}{r:Row}{v:V}(dG:oR D h)(ok:iK D){lo:List (Option X)}{e:List Cell}(h0:lo[0]? =I (I (.cell 6)))(ar:lo[l]? =I (I (.v (.int (i:Nat)))))(av:D.rs[i]? =I r)(aJ:gL (eM r) (.int (k:Nat))=I v):aj C (t4 l k) ⟨lo,h++e,t,bs⟩=I (.v v,⟨lo,h++e,t,bs⟩):=hi (gy (gy (aP h0) a9 (e7 dG.kc) rfl) (aP ar) (e7 dG.rs) (qb av (by have:=ok.b3;exact cz ‹_› rfl))) a9 aJ
theorem Wx(dG:oR D h)(ok:iK D)(aB:∀i,a=I i→i<D.rs.length)(ov:acc.length≤100)
  (av:Wp Q (bI C ss ⟨[I (.cell 6),I (.v (.int (nA a))),x2,I (.cell h.length),I (.v (.int (D.lo a))),x5,x6,x7,cX,cY,x10,x11,c5],h++[.lst ((acc++D.kN a).map b7)],t,bs⟩)):
  Wp Q (bI C (.cons Wv ss) ⟨[I (.cell 6),I (.v (.int (nA a))),x2,I (.cell h.length),I (.v (.int 0)),x5,x6,x7,cX,cY,x10,x11,c5],h++[.lst (acc.map b7)],t,bs⟩):=by
 induction a using gJ with
 |none=>refine ih (rh (aP rfl) a9) rfl rfl ?_;exact BN (gs:=D.T.eI) (aP rfl) (gV (eY 0)) (hi (gy (aP rfl) a9 (e7 dG.kc) rfl) a9 rfl) (by have:=ok.aT;exact kn ‹_› ‹_› rfl) av
 |some i=>have aw:=aB i rfl;have qc:=gp aw;refine ih (rh (aP rfl) a9) rfl rfl ?_;erw[show U (nA (I i)≥0)=true from decide_eq_true (nM i)];refine dT (ng (wZ (i:=i) dG ok rfl rfl qc rfl) a9) ?_;refine BM (g:=f3 D.rs[i].post) (aP rfl) (gV (eY 0)) (eX (bA (wZ (k:=6) (i:=i) dG ok rfl rfl qc rfl) (bA a9 (bA a9 (bA a9 di)))) rfl) (cz ‹_› rfl) ?_;unfold bX.lo bX.kN at av;rw[show(I i).bind (D.rs[·]?)=I D.rs[i]from qc]at av;exact av
theorem Wy(dG:oR D h)(ok:iK D)(ae:b≤D.rs.length)(ov:acc.length≤200)
  (av:Wp Q (bI C ss ⟨[I (.cell 6),c2,I (.v (.int b)),I (.cell h.length),x4,I (.v (.int (D.aw b))),x6,x7,cX,cY,x10,x11,c5],h++[.lst ((acc++D.i' b).map b7)],t,bs⟩)):
  Wp Q (bI C (.cons Ww ss) ⟨[I (.cell 6),c2,I (.v (.int b)),I (.cell h.length),x4,I (.v (.int ((D.ws.map V.int).length-1:Int))),x6,x7,cX,cY,x10,x11,c5],h++[.lst (acc.map b7)],t,bs⟩):=by
 have fr:fit (D.rs.map eM).length=true:=dO (by erw[bF];have:=ok.b3;exact cz ‹_› rfl);have ah:aj C (.cmp (.loc 2) .lt (.bi .len (.cons (t2 27) .nil))) ⟨[I (.cell 6),c2,I (.v (.int b)),I (.cell h.length),x4,I (.v (.int ((D.ws.map V.int).length-1:Int))),x6,x7,cX,cY,x10,x11,c5],h++[.lst (acc.map b7)],t,bs⟩=I (.v (.bool (U ((b:Int)<((D.rs.map eM).length:Nat)))),⟨[I (.cell 6),c2,I (.v (.int b)),I (.cell h.length),x4,I (.v (.int ((D.ws.map V.int).length-1:Int))),x6,x7,cX,cY,x10,x11,c5],h++[.lst (acc.map b7)],t,bs⟩):=wq (aP rfl) (fY (bH (gy (aP rfl) a9 (e7 dG.kc) rfl) cW) (oQ (gV (e7 dG.rs)) fr))
 refine ih ah rfl rfl ?_;unfold bX.aw bX.i' at av;cases aE:D.rs[b]? with
 |none=>have ar:=xU.mp aE;rw[aE]at av;erw[decide_eq_false (by erw[bF];exact x9 ‹_›)];refine BN (gs:=D.T.ay) (aP rfl) (gV (eY 0)) (hi (gy (aP rfl) a9 (e7 dG.kc) rfl) a9 rfl) (by have:=ok.aM;exact kn ‹_› ‹_› rfl) ?_;erw[show((D.ws.map V.int).length-1:Int)=((D.ws.length-1:Nat):Int)by erw[bF];have:=ok.w;lia];exact av
 |some r=>have ar:=(d7.mp aE).1;rw[aE]at av;erw[decide_eq_true (by erw[bF];exact mI ‹_›)];refine dT (wZ (i:=b) dG ok rfl rfl aE rfl) ?_;exact BM (g:=f3 r.pre) (aP rfl) (gV (eY 0)) (eX (bA (wZ (k:=5) (i:=b) dG ok rfl rfl aE rfl) (bA a9 (bA a9 (bA a9 di)))) rfl) (cz ‹_› rfl) av
end
theorem w0{D:bX}(ok:iK D){b:Nat}:D.aw b<D.ws.length∧D.aw b≤D.gs.length:=by
 have h:=ok.w;unfold bX.aw;cases aE:D.rs[b]? with
 |none=>erw[h];exact⟨ki _,bE _⟩
 |some r=>have:=ok.r r (fI aE);exact⟨by erw[h];exact lN this,da this⟩
structure oS(g:bb):Prop where
 s0:0≤g.s
 s1:g.s≤20
 kb:0≤g.k
 dH:g.k≤20
 o0:0≤g.o
 a0:g.o≤3
theorem Jz(w:Int):oS (f3 w):=⟨by show(0:Int)≤0;decide,by show(0:Int)≤20;decide,by show(0:Int)≤0;decide,by show(0:Int)≤20;decide,by show(0:Int)≤0;decide,by show(0:Int)≤3;decide⟩
theorem hH.gz{g:bb}(h:hH g):oS g:=⟨h.s0,h.s1,h.kb,h.dH,h.o0,h.a0⟩
theorem Wz{Q:bb→Prop}{D:bX}(ok:iK D){eb:Nat}(hw:∀w,Q (f3 w))(hp:∀g,jE g→Q g):∀(m k:Nat),∀g,g∈kO D.ws D.gs eb k m→Q g:=by
 intro eW
 induction eW with
 |zero=>intro _ g h;exact absurd h kX
 |succ m aD=>
  intro k g aK
  rcases ec.mp aK with rfl|aK
  ·exact hw _
  refine eF (dR.mp aK) (fun aK=>?_) (fun aK=>?_)
  ·cases hd:U (k<eb)with
   |false=>replace aK:=hd▸aK;exact absurd aK kX
   |true=>
    replace aK:=hd▸aK;have aK:g∈D.gs.getD k []:=aK;replace aK:=jd▸aK;cases aE:D.gs[k]? with
    |none=>replace aK:=aE▸aK;exact absurd aK kX
    |some l=>replace aK:=aE▸aK;exact hp g (ok.a4 l (fI aE) g aK)
  ·exact aD (k+1) g aK
theorem JA{Q:bb→Prop}{D:bX}(ok:iK D)(hw:∀w,Q (f3 w))(hp:∀g,jE g→Q g)(dF:∀g,hH g→Q g){a:Option Nat}{b:Nat}:∀g,g∈D.line a b→Q g:=by
 intro g aK;refine eF (dR.mp aK) (fun aK=>?_) (fun aK=>?_)
 ·refine eF (dR.mp aK) (fun aK=>?_) (fun aK=>?_)
  ·refine eF (dR.mp aK) (fun aK=>?_) (fun aK=>?_)
   ·exact dF g (ok.gr g aK)
   ·unfold bX.kN at aK;cases aE:a.bind (D.rs[·]?)with
    |none=>replace aK:=aE▸aK;exact hp g (ok.eI g aK)
    |some r=>replace aK:=aE▸aK;erw[dY.mp aK];exact hw _
  ·unfold bX.i' at aK;cases aE:D.rs[b]? with
   |none=>replace aK:=aE▸aK;exact hp g (ok.ay g aK)
   |some r=>replace aK:=aE▸aK;erw[dY.mp aK];exact hw _
 ·exact Wz ok hw hp _ _ g aK
theorem BO{α:Type}{a b:List α}{m n:Nat}(h:a.length≤m)(g:b.length≤n):(a++b).length≤m+n:=b4▸nK h g
theorem WA{D:bX}(ok:iK D){a:Option Nat}{b:Nat}:(D.line a b).length≤100:=by
 have b0:(D.kN a).length≤1:=by
  unfold bX.kN;cases a.bind (D.rs[·]?)with
  |none=>exact ok.aT
  |some r=>exact bE _
 have d2:(D.i' b).length≤1:=by
  unfold bX.i';cases D.rs[b]? with
  |none=>exact ok.aM
  |some r=>exact bE _
 exact cz (BO (BO (BO ok.qa b0) d2) (bR (Ws ok.g _ _) (qy 3 (bR (rY ..) (bR (w0 ok).1 ok.oA))))) rfl
end
section
variable{n t:Nat}{h:List Cell}
noncomputable abbrev WB(i:Nat):ao:=.bi .sum (.cons (.comp (.item (.loc 10) (.const (.int (i:Nat)))) (.one 10) (.of (.loc 3))) .nil)
noncomputable abbrev JB(i:Nat)(o:bk):ao:=.bi .sum (.cons (.sa (.item (.loc 10) (.const (.int (i:Nat)))) (.one 10) (.of (.loc 3)) (.cmp (.item (.loc 10) (.const (.int 2))) o (.const (.int 0)))) .nil)
section
variable{C:Calls}{lo:List (Option X)}{l:List bb}{bs:Nat}
theorem JC{i:Nat}{sel:bb→Int}(aL:∀g,gL (b7 g) (.int (i:Nat))=I (.int (sel g)))(aq:lo[3]? =I (I (.cell h.length)))(ar:10<lo.length)(hf:l.length≤1000):aj C (WB i) ⟨lo,h++[.lst (l.map b7)],t,bs⟩=I (.v (.int (l.map sel).sum),⟨lo,h++[.lst (l.map b7)],t,bs⟩):=by refine eA fun cF=>?_;obtain⟨dX,e⟩:=Wo (C:=C) (k:=10) (h:=(h++[Cell.lst (l.map b7)]).set h.length .gone) (t:=t) (bs:=bs) aL l (lo.set 10 J) (by erw[kj];exact ar);refine cF ?_;exact fY (bH (BL rfl (aP aq) (eY 0) (fZ (by assumption) (by first|decide|lia)) e) cW) vn
theorem JD{i:Nat}{o:bk}{sel:bb→Int}{p:bb→Bool}(aL:∀g,gL (b7 g) (.int (i:Nat))=I (.int (sel g)))(ah:∀g:bb,∀st:St,st.cmp o (.v (.int g.o)) (.v (.int 0))=I (p g))(aq:lo[3]? =I (I (.cell h.length)))(ar:10<lo.length)(hf:l.length≤1000):aj C (JB i o) ⟨lo,h++[.lst (l.map b7)],t,bs⟩=I (.v (.int ((l.filter p).map sel).sum),⟨lo,h++[.lst (l.map b7)],t,bs⟩):=by refine eA fun cF=>?_;obtain⟨dX,e⟩:=Wq (C:=C) (k:=10) (h:=(h++[Cell.lst (l.map b7)]).set h.length .gone) (t:=t) (bs:=bs) (p:=p) (c:=.cmp (.item (.loc 10) (.const (.int 2))) o (.const (.int 0))) aL (fun g lo aK=>hV (hi (aP aK) a9 rfl) a9 (ah g _)) l (lo.set 10 J) (by erw[kj];exact ar);refine cF ?_;exact fY (bH (BL rfl (aP aq) (eY 0) (fZ (by assumption) (by first|decide|lia)) e) cW) vn
end
theorem get_map{l:List Int}{k:Nat}(ai:k<l.length):l[k]? =I (l.getD k 0):=by erw[jd,gp ai];rfl
theorem BP{l:List (List bb)}{k:Nat}(ai:k<l.length):l[k]? =I (l.getD k []):=by erw[jd,gp ai];rfl
theorem JE{l:List bb}{sel:bb→Int}(ar:l.length≤100)(h:∀g,g∈l→0≤sel g∧sel g≤20):0≤(l.map sel).sum∧(l.map sel).sum≤2000:=by
 have:=Wu (l:=l.map sel) fun x aC=>by obtain⟨g,aK,rfl⟩:=f9.mp aC;exact h g aK
 rw[bF]at this
 lia
theorem w1{ws:List Int}{gs:List (List bb)}{eb k m:Nat}:kO ws gs eb k (m+1)=f3 (ws.getD k 0)::((bif U (k<eb)then gs.getD k []else[])++kO ws gs eb (k+1) m):=rfl
theorem BQ{i j:Nat}:gM (i:Int) (j:Int)=(uB i (j-i)).map fun k=>V.int (k:Nat):=by unfold gM;erw[List.range'_eq_map_range,jO,Int.toNat_sub];exact nP fun k ag=>congrArg V.int (Int.natCast_add i k).symm
theorem WC{i j:Nat}:gM (i:Int) ((j:Int)+1)=(uB i (j+1-i)).map fun k=>V.int (k:Nat):=BQ (j:=j+1)
set_option maxHeartbeats 1000000 in
theorem WD{D:bX}{a:Option Nat}{b:Nat}(dG:oR D h)(ok:iK D)(aB:∀i,a=I i→i<D.rs.length)(ae:b≤D.rs.length):
  bu bl (n+2) 48 [.cell 6,.v (.int (nA a)),.v (.int b)] h t h.length=I (.v (IL (ip D.T.z (D.line a b))),h,t):=by
 have hlen:=WA ok (a:=a) (b:=b);have BR:=JA (Q:=oS) ok Jz (fun g aK=>aK.b.gz) (fun g aK=>aK.gz) (a:=a) (b:=b);have BS:=w0 ok (b:=b);have wY:=ok.oA;have abb:=ok.qa;have abc:(D.gr++D.kN a).length≤100:=bR (bR (CZ _ (D.i' b)).length_le (CZ ..).length_le) hlen
 ac_rfl
 refine hk (l:=[.cell h.length,.v (.int 0),.v (.int ((D.ws.map V.int).length-1:Int))]) (st1:=⟨_,h++[.lst (D.gr.map b7)],t,h.length⟩) (bH (wu (gy (aP rfl) a9 dG.kc rfl) (eo (gV dG.gr) rfl) rfl (fZ (by assumption) (by first|decide|lia))) (bH a9 (bH (oC (fY (bH (gy (aP rfl) a9 (e7 dG.kc) rfl) cW) (oQ (gV (e7 dG.ws)) (fZ (by assumption) (by decide)))) a9) cW))) (by iterate fail) ?_
 refine Wx dG ok aB (by exact cz ‹_› rfl) ?_;refine Wy dG ok ae (by exact cz ‹_› rfl) ?_;have rm:D.lo a≤20:=by
  unfold bX.lo;cases aE:a.bind (D.rs[·]?)with
  |none=>exact fx _
  |some r=>
   have av:r∈D.rs:=by
    induction a using gJ with
    |none=>injections aE
    |some i=>exact fI aE
   exact bR (ok.r r av) (bR (xW (eQ ok.w.symm)) (cz wY rfl))
 refine gW (Ig (i:=(D.lo a:Nat)) (j:=((D.aw b:Nat):Int)+1) (by repeat1' fail) (by repeat1' fail) (cI.mpr ⟨cI.mpr ⟨decide_eq_true (by exact r6 rfl),decide_eq_true (by exact uD ‹_› rfl)⟩,cI.mpr ⟨decide_eq_true (by exact r6 rfl),decide_eq_true (x8 BS.1 wY rfl)⟩⟩)) ?_;erw[WC];refine i5 (Wt D (D.line a b) (D.aw b) (I (.v (.int (nA a)))) (I (.v (.int b))) h t) ?_ ?_ _ _ (.mk (D.lo a) (D.aw b+1-D.lo a) _ _ _ _ _ _ _ _ _ rfl rfl (fun h=>eQ (LV (da (LX h)))) rfl)
 ·rintro v vs st ⟨k,m,acc,x4,x6,x7,cX,cY,x10,x11,c5,ay,au,bo,rfl⟩
  induction m using fe with
  |zero=>injections ay
  |succ m=>
  obtain⟨rfl,rfl⟩:=List.cons.inj ay;have bo:=bo (jh m);have ai:k<D.ws.length:=gI (bR (f6 k m) (o7 bo)) BS.1;have ov:acc.length+3≤110:=by
   have:acc.length≤(D.line a b).length:=by erw[←au,b4];exact f6 _ _
   exact kn (bR this hlen) (bE 3) rfl
  have WE:=qb (f:=V.int) (get_map ai) (by exact cz ‹_› rfl);refine fun Q cR el=>⟨_,fD,?_⟩;refine BM (g:=f3 (D.ws.getD k 0)) (aP rfl) (gV (eY 0)) (eX (bA (gy (gy (aP rfl) a9 (e7 dG.kc) rfl) (aP rfl) (e7 dG.ws) WE) (bA a9 (bA a9 (bA a9 di)))) rfl) (by exact yd ‹_› rfl) ?_
  iterate fail
  ·intro aa;have jY:=of_decide_eq_true aa;have BU:k<D.gs.length:=ey (Dp jY) BS.2;have WG:=qb (f:=lE) (BP BU) (bR (xW (eQ ok.w.symm)) (cz wY rfl));have WH:(D.gs.getD k []).length≤2:=by erw[jd,gp BU];exact ok.g _ (uv BU)
   refine BN (gs:=D.gs.getD k []) (aP rfl) (gV (eY 0)) (gy (gy (aP rfl) a9 (e7 dG.kc) rfl) (aP rfl) (e7 dG.gs) WG) (by erw[b4];exact bR (lQ WH _) (cz ov rfl)) ?_;refine gh (cR _ _ rfl (.mk (k+1) m _ _ _ _ _ _ _ _ _ rfl ?_ (fun ag=>bR (eQ (iO k 1 m)) bo) rfl));erw[←au,w1,decide_eq_true (show k<D.aw b by exact C9 ‹_›),eR,eR];rfl
  ·intro aa;have jY:=of_decide_eq_false aa;refine gh (cR _ _ rfl (.mk (k+1) m _ _ _ _ _ _ _ _ _ rfl ?_ (fun ag=>bR (eQ (iO k 1 m)) bo) rfl));erw[←au,w1,decide_eq_false (show¬k<D.aw b by exact C' ‹_›),eR];rfl
 ·rintro st ⟨k,m,acc,x4,x6,x7,cX,cY,x10,x11,c5,ay,au,bo,rfl⟩
  induction m using fe with
  |succ=>injections ay
  |zero=>
  have au:acc=D.line a b:=by erw[←au];exact(ei _).symm
  subst au;refine dT (oC (gy (aP rfl) a9 (e7 dG.kc) rfl) (JC (i:=0) (sel:=(·.w)) (fun ag=>rfl) rfl (by exact iN rfl) (by exact cz ‹_› rfl))) ?_;have fV:=JE (l:=D.line a b) (sel:=(·.k)) hlen fun g aK=>⟨(BR g aK).kb,(BR g aK).dH⟩;have dF:=JE (l:=(D.line a b).filter fun g=>decide (g.o=0)) (sel:=(·.s)) (bR (LM ..) hlen) fun g aK=>by have:=BR g ((CR.mp aK).1);exact⟨this.s0,this.s1⟩
  unfold ip;generalize eG:((D.line a b).map (·.w)).sum=W;have WI:∀lo,lo[7]? =I (I (.v (.int (D.T.z-W))))→lo[3]? =I (I (.cell h.length))→10<lo.length→aj (bu bl (n+1)) (.and (.cmp (.loc 7) .gt (.const (.int 0))) (.cmp (JB 1 .gt) .gt (.const (.int 0)))) ⟨lo,h++[.lst ((D.line a b).map b7)],t,h.length⟩=I (.v (.bool (U (D.T.z-W>0)&&U (((((D.line a b).filter fun g=>decide (g.o>0)).map (·.s)).sum)>0))),⟨lo,h++[.lst ((D.line a b).map b7)],t,h.length⟩):=fun lo fk aq ar=>
   ly (pT (aP fk) a9) (pT (JD (i:=1) (sel:=(·.s)) (p:=fun g=>decide (g.o>0)) (fun ag=>rfl) (fun ag ag=>rfl) aq ar (by exact cz ‹_› rfl)) a9)
  refine ih (WI _ rfl rfl (by exact iN rfl)) rfl rfl ?_;generalize m2:(((D.line a b).filter fun g=>decide (g.o>0)).map (·.s)).sum=H;refine n4 (fun aa=>?_) (fun aa=>?_)
  ·dsimp only[app]
   iterate fail
   refine nk ?_;unfold hz;erw[aa];rfl
  dsimp only[app]
  refine dT (JC (i:=3) (sel:=(·.k)) (fun ag=>rfl) rfl (by exact iN rfl) (by exact cz ‹_› rfl)) ?_;generalize abd:((D.line a b).map (·.k)).sum=K at fV⊢
  iterate fail
  ·intro ab
   iterate fail
   refine nk ?_;unfold hz;erw[aa,ab];rfl
  intro ab;generalize WJ:(((D.line a b).filter fun g=>decide (g.o=0)).map (·.s)).sum=F at dF⊢;have i2: -1000000000<(bif U (D.T.z-W>0)then F else K)∧(bif U (D.T.z-W>0)then F else K)<1000000000:=by cases U (D.T.z-W>0)<;>simp only[cond_true,cond_false]<;>exact MC ‹_› rfl rfl
  refine dT (fo (bH (fY (bH (aP rfl) cW) rfl) (bH (A0 (pT (aP rfl) a9) (by erw[←WJ];exact JD (i:=1) (sel:=(·.s)) (p:=fun g=>decide (g.o=0)) (fun ag=>rfl) (fun ag ag=>rfl) rfl (by exact iN rfl) (by exact cz ‹_› rfl)) (aP rfl)) cW)) (Wn (n:=n) (t:=t) (h:=h++[.lst ((D.line a b).map b7)]) (e:=((D.T.z-W).natAbs:Nat)) (w:=bif U (D.T.z-W>0)then F else K) (nM _) i2.1 i2.2)) ?_
  iterate fail
  ·intro aq
   iterate fail
   refine nk ?_;unfold hz;erw[aa,ab,aq];rfl
  ·intro aq
   iterate fail
   refine nk ?_;unfold hz;erw[aa,ab,aq];rfl
end
section
variable{n t:Nat}{h:List Cell}
noncomputable def Bn:Row:=⟨0,0,0,0,0,0,false,0,0⟩
def bX.row(D:bX)(i:Nat):Row:=(D.rs[i]?).getD Bn
theorem hY{D:bX}{i:Nat}(aw:i<D.rs.length):D.rs[i]? =I (D.row i):=by unfold bX.row;erw[gp aw];rfl
noncomputable def nB(a:Option Nat):Nat:=a.elim 0 (· +1)
theorem WK(a:Option Nat):nA a+1=(nB a:Nat):=by cases a<;>rfl
structure BV(D:bX)(a:Option Nat)(b:Nat):Prop where
 ca:∀i,a=I i→i<D.rs.length
 dy:b≤D.rs.length
 m8:∀t,nB a≤t→t<b→ -10000<(D.row t).b9
 bad:(ip D.T.z (D.line a b)).1≤p4 D.T.most
noncomputable def w2(c:Int):Int:=bif U (c≥10000)then 100000000 else c*c
noncomputable def rA(p:Int):Int:=bif U (p> -10000)then p*(p.natAbs:Nat)else 0
def bX.dV(D:bX)(a:Option Nat)(b:Nat):Int:=a.elim 0 fun i=>bif (D.row i).cf&&(D.row b).cf then D.S.dV else 0
def bX.step(D:bX)(a:Option Nat)(b:Nat)(f:Int):Int:=w2 (D.S.cT+(ip D.T.z (D.line a b)).1)+(bif U (b<D.rs.length)then rA (D.row b).b9+D.dV a b else 0)+(bif U ((((ip D.T.z (D.line a b)).2-f).natAbs:Nat)>(1:Int))then D.S.cu else 0)
noncomputable def oT(D:bX):Option Nat→List Nat→Prop
 |_,[]=>True
 |a,b::r=>BV D a b∧oT D (I b) r
noncomputable def bX.cost(D:bX):Option Nat→Int→List Nat→Int
 |_,_,[]=>0
 |a,f,b::r=>D.step a b f+D.cost (I b) (ip D.T.z (D.line a b)).2 r
inductive WL(D:bX)(kG:Int)(h:List Cell)(t:Nat)(c2:Option X)(vs:List V)(st:St):Prop where
 |mk (a:Option Nat) (f d:Int) (r:List Nat) (x7 cX cY x10 x11 c5 x13 x14 fF:Option X) (ay:vs=r.map fun b=>V.int (b:Nat)) (au:oT D a r) (bo:d+D.cost a f r=kG)
  (dC:st=⟨[I (.cell 6),c2,I (.cell 5),I (.cell 1),I (.v (.int (nA a))),I (.v (.int f)),I (.v (.int d)),x7,cX,cY,x10,x11,c5,x13,x14,fF],h,t,h.length⟩)
inductive WM(D:bX)(a:Option Nat)(b:Nat)(f d:Int)(h:List Cell)(t:Nat)(c2 cY x10 x11 c5 x13 x14 fF:Option X)(vs:List V)(st:St):Prop where
 |mk (k m:Nat) (cX:Option X) (ay:vs=(uB k m).map fun i=>V.int (i:Nat)) (au:nB a≤k) (bo:0<m→k+m≤b)
  (dC:st=⟨[I (.cell 6),c2,I (.cell 5),I (.cell 1),I (.v (.int (nA a))),I (.v (.int f)),I (.v (.int d)),I (.v (.int (b:Nat))),cX,cY,x10,x11,c5,x13,x14,fF],h,t,h.length⟩)
theorem add_l{st st1 st2:St}{C:Calls}{a b:ao}{xs aS:List V}(aa:aj C a st=I (.v (.lst xs),st1))(ab:aj C b st1=I (.v (.lst aS),st2))(hf:fit (xs.length+aS.length)=true):aj C (.bin .add a b) st=I (.v (.lst (xs++aS)),st2):=j2 aa ab rfl rfl (if_pos hf)
theorem WN{z W H K F:Int}:mx (hz z W H K F):=by
 have mk:∀{f:Int},0≤f→f≤3→mx (eJ ((z-W).natAbs:Nat) (bif U (z-W>0)then F else K),f):=fun aa ab=>by have:=tN (e:=((z-W).natAbs:Nat)) (w:=bif U (z-W>0)then F else K) (nM _);exact⟨this.1,by show _≤(10001:Int);have:=this.2;exact d3 ‹_› rfl,aa,ab⟩
 unfold hz;cases U (z-W>0)&&U (H>0)
 ·cases U (z-W< -K)
  ·cases U (eJ ((z-W).natAbs:Nat) (bif U (z-W>0)then F else K)≤12)
   ·cases U (z-W<0)
    ·cases U (eJ ((z-W).natAbs:Nat) (bif U (z-W>0)then F else K)≤99)
     ·exact mk (f:=0) (by decide) (by decide)
     ·exact mk (f:=1) (by decide) (by decide)
    ·exact mk (f:=3) (by decide) (by decide)
   ·exact mk (f:=2) (by decide) (by decide)
  ·exact(⟨by decide,by decide,by decide,by decide⟩:mx (10001,3))
 ·exact(⟨by decide,by decide,by decide,by decide⟩:mx (0,2))
noncomputable abbrev WO:ao:=.k0 (.and (.cmp (.loc 4) .ge (.const (.int 0))) (.and (.item (.item (.loc 2) (.loc 4)) (.const (.int 4))) (.item (.item (.loc 2) (.loc 7)) (.const (.int 4))))) (.attr (.loc 3) 35) (.const (.int 0))
theorem WQ{D:bX}{a:Option Nat}{b bs:Nat}{C:Calls}{lo:List (Option X)}(dG:oR D h)(ok:iK D)(aB:∀i,a=I i→i<D.rs.length)(ae:b<D.rs.length)(ab:lo[2]? =I (I (.cell 5)))(aq:lo[3]? =I (I (.cell 1)))(ba:lo[4]? =I (I (.v (.int (nA a)))))(fk:lo[7]? =I (I (.v (.int (b:Nat))))):aj C WO ⟨lo,h,t,bs⟩=I (.v (.int (D.dV a b)),⟨lo,h,t,bs⟩):=by
 have Io:=ok.b3
 induction a using gJ with
 |none=>exact jA (p:=false) (tB (rh (aP ba) a9) rfl) (fun h=>nomatch h) (fun ag=>a9)
 |some i=>
  have aw:=aB i rfl;have a7:=qb (f:=eM) (hY aw) (cz ‹_› rfl);have b3:=qb (f:=eM) (hY ae) (cz ‹_› rfl);have ah:aj C (.and (.cmp (.loc 4) .ge (.const (.int 0))) (.and (.item (.item (.loc 2) (.loc 4)) (.const (.int 4))) (.item (.item (.loc 2) (.loc 7)) (.const (.int 4))))) ⟨lo,h,t,bs⟩=I (.v (.bool (U ((i:Int)≥0)&&((D.row i).cf&&(D.row b).cf))),⟨lo,h,t,bs⟩):=ly (rh (aP ba) a9) (ly (hi (gy (aP ab) (aP ba) dG.rs a7) a9 rfl) (hi (gy (aP ab) (aP fk) dG.rs b3) a9 rfl))
  rw[decide_eq_true (nM i),lT]at ah;exact AZ ah (fun ag=>tD (aP aq) dG.fQ rfl) (fun ag=>a9)
theorem JF{D:bX}{a:Option Nat}{b:Nat}{f d x y z' w c kG:Int}(aC:w2 (D.S.cT+(ip D.T.z (D.line a b)).1)=x)(aV:(bif U (b<D.rs.length)then rA (D.row b).b9+D.dV a b else 0)=y+z')(hw:(bif U ((((ip D.T.z (D.line a b)).2-f).natAbs:Nat)>(1:Int))then D.S.cu else 0)=w)(h:d+(D.step a b f+c)=kG):d+x+y+z'+w+c=kG:=by
 unfold bX.step at h;rw[aC,aV,hw]at h
 lia
set_option maxHeartbeats 1000000 in
theorem JG{D:bX}{l:List Nat}(dG:oR D h)(ok:iK D)(fM:0≤D.S.cT∧D.S.cT≤100)(ar:l.length≤100)(ah:oT D J (l++[D.rs.length]))(hp:∀i,Num (D.row i).b9):
  bu bl (n+3) 49 [.cell 6,.v (.lst (l.map fun b=>.int (b:Nat)))] h t h.length=I (.v (.int (D.cost J 2 (l++[D.rs.length]))),h,t):=by
 have fr:fit (D.rs.map eM).length=true:=dO (by erw[bF];have:=ok.b3;exact cz ‹_› rfl);have BW:(D.rs.map eM).length=D.rs.length:=bF ..;have hlen:∀st:St,st.heap=h→hO .len st [.cell 5]=I (.v (.int D.rs.length),st):=fun st hh=>by erw[←BW];exact oQ (bz (by erw[hh];exact dG.rs) rfl) fr
 ac_rfl
 refine hk (l:=[.cell 5,.cell 1,.v (.int (-1)),.v (.int 2),.v (.int 0)]) (by repeat1' (first|exact dG.kc|exact rfl)) (by iterate fail) ?_
 refine gW (hj (vs:=(l++[D.rs.length]).map fun b=>V.int (b:Nat)) (add_l (aP rfl) (hW (bA (fY (bH (aP rfl) cW) (hlen _ rfl)) di) rfl) (dO (by erw[bF];exact nU ‹_› rfl))) (by erw[fy];rfl) (dO (by erw[bF,b4];exact nU ‹_› rfl))) ?_;refine i5 (WL D (D.cost J 2 (l++[D.rs.length])) h t _) ?_ ?_ _ _ (.mk J 2 0 (l++[D.rs.length]) _ _ _ _ _ _ _ _ _ rfl ah (km _) rfl)
 ·rintro v vs st ⟨a,f,d,r,x7,cX,cY,x10,x11,c5,x13,x14,fF,ay,au,bo,rfl⟩
  induction r using bY with
  |nil=>injections ay
  |cons b r=>
  obtain⟨rfl,rfl⟩:=List.cons.inj ay;obtain⟨⟨mr,iF,WR,WS⟩,au⟩:=au;refine fun Q cR el=>⟨_,fD,?_⟩;have aG:inR ((nB a:Nat):Int)=true∧inR ((b:Nat):Int)=true:=by
   have:=ok.b3;have:nB a≤20:=by
    induction a using gJ with
    |none=>exact fx _
    |some i=>have:=mr i rfl;exact r4 ‹_› ‹_› rfl
   exact⟨cI.mpr ⟨decide_eq_true (r6 rfl),decide_eq_true (uD this rfl)⟩,cI.mpr ⟨decide_eq_true (r6 rfl),decide_eq_true (x8 iF ok.b3 rfl)⟩⟩
  refine gW (Ig (i:=(nB a:Nat)) (j:=(b:Nat)) (by erw[←WK];repeat1' fail) (by repeat1' fail) (cI.mpr aG)) ?_;erw[BQ];refine i5 (WM D a b f d h t _ cY x10 x11 c5 x13 x14 fF) ?_ ?_ _ _ (.mk (nB a) (b-nB a) cX rfl (bE _) (fun h=>eQ (LV (da (LX h)))) rfl)
  ·rintro v vs st ⟨k,m,WT,cg,dC,gG,rfl⟩
   induction m using fe with
   |zero=>injections cg
   |succ m=>
   obtain⟨rfl,rfl⟩:=List.cons.inj cg;have gG:=gG (jh m);have JH:k<b:=ey (qw (jh m)) gG;have ai:=WR k dC JH;have WU:=qb (f:=eM) (hY (D:=D) (i:=k) (ey JH iF)) (by have:=ok.b3;exact cz ‹_› rfl);refine fun Q cR el=>⟨_,fD,?_⟩
   iterate (first|exact dG.rs|exact WU|exact rfl)
   ·intro aa;have:=of_decide_eq_true aa;exact absurd ‹_› (ez.mpr ‹_›)
   ·intro _;refine gh (cR _ _ rfl (.mk (k+1) m _ rfl (ya ‹_›) (fun ag=>bR (eQ (iO k 1 m)) gG) rfl))
  ·rintro st ⟨k,m,WT,cg,dC,gG,rfl⟩;have jt:=WD (n:=n) (t:=t) dG ok mr iF;have el:mx (ip D.T.z (D.line a b)):=WN;obtain⟨F,fV⟩:∃F,ip D.T.z (D.line a b)=F:=⟨_,rfl⟩
   rw[fV]at jt WS el;have vz:=fM.1;have FG:=fM.2;have vb:=el.lV;have abe:=el.g4;have nv:(small (D.S.cT+F.1)||small (D.S.cT+F.1))=true:=by erw[j3 (a:=D.S.cT+F.1) (Dn ‹_› ‹_› rfl) (Dm ‹_› ‹_› rfl)];rfl
   refine wB (vs:=[.int F.1,.int F.2]) (fo (by repeat1' fail) jt) (by dsimp only[List.map];iterate fail) ?_
   iterate (exact dG.kc)
   ·intro aa;have aa:F.1>p4 D.T.most:=of_decide_eq_true aa;exact absurd ‹_› (ez.mpr ‹_›)
   intro _;have WV:∀(lo:List (Option X)) (bs:Nat),hO .len ⟨lo,h,t,bs⟩ [.cell 5]=I (.v (.int D.rs.length),⟨lo,h,t,bs⟩):=fun ag ag=>hlen _ rfl
   iterate (first|exact dG.kc|exact dG.fQ|exact nv|exact WV _ _|((with_reducible apply j2)<;>exact rfl))
   ·intro aa;have jY:=of_decide_eq_true aa;have bf:b<D.rs.length:=by exact C9 ‹_›
    have WW:=qb (f:=eM) (hY bf) (by have:=ok.b3;exact cz ‹_› rfl);have JI:=hp b;have WX:(small (D.row b).b9||small ((D.row b).b9.natAbs:Nat))=true:=by rw[j3 (a:=(D.row b).b9) (by have:=JI.1;exact d0 ‹_› rfl) (by have:=JI.2;exact kY ‹_› rfl)];rfl
    refine dT (hi (gy (aP rfl) (aP rfl) dG.rs WW) a9 rfl) ?_;refine A7 rfl (j:=rA (D.row b).b9) (A0 (pT (aP rfl) (wm a9)) (oD (aP rfl) (fY (bH (aP rfl) cW) rfl) WX) a9) ?_;refine A7 rfl (WQ dG ok mr bf rfl rfl rfl rfl) ?_
    iterate (exact dG.fQ)
    exact cR _ _ rfl (.mk (I b) F.2 _ r _ _ _ _ _ _ _ _ _ rfl au (by erw[←fV];exact JF (by erw[fV];rfl) (by erw[decide_eq_true bf];rfl) rfl bo) rfl)
   ·intro aa;have jY:=of_decide_eq_false aa;have bf:¬b<D.rs.length:=by exact C' ‹_›
    iterate (exact dG.fQ)
    refine cR _ _ rfl (.mk (I b) F.2 _ r _ _ _ _ _ _ _ _ _ rfl au ?_ rfl);have:=JF (D:=D) (a:=a) (b:=b) (f:=f) (d:=d) (y:=0) (z':=0) rfl (by erw[decide_eq_false bf];rfl) rfl bo;rw[eP,eP,fV]at this;exact this
 ·rintro st ⟨a,f,d,r,x7,cX,cY,x10,x11,c5,x13,x14,fF,ay,au,bo,rfl⟩
  induction r using bY with
  |cons=>injections ay
  |nil=>
  show Wp _ _
  iterate fail
  exact dN (by erw[←bo];exact congrArg V.int (eP _).symm)
end
section
variable{n t:Nat}{h:List Cell}
theorem WY{it:aI}{st:St}:st.cmp .nX (.v (enc it)) (.v (enc it))=I false:=by
 cases it
 all_goals exact eo (bz rfl (bz rfl (if_pos rfl))) rfl
theorem WZ{C:Calls}{Q:R→St→Prop}{a b x4 x5 x6:Option X}{bs:Nat}:∀(l:List aI) (x2 x3:Option X),(∀x2 x3,Q .next ⟨[a,b,x2,x3,x4,x5,x6],h,t,bs⟩)→Wp Q (forL (.many [2,3]) (bI C (.cons (.ite (.cmp (.loc 2) .nX (.loc 3)) (.cons (.ret (.const (.bool false))) .nil) .nil) .nil)) (k2 (l.map enc) (l.map enc)) ⟨[a,b,x2,x3,x4,x5,x6],h,t,bs⟩):=by
 intro aT
 induction aT with
 |nil=>intro x2 x3 aE;exact pW (aE x2 x3)
 |cons it l aD=>intro x2 x3 aE;refine pX tG ?_;refine ih (d:=false) (hV (aP rfl) (aP rfl) WY) rfl rfl ?_;exact gh ⟨rfl,aD _ _ aE⟩
theorem W0{l:List aI}(ar:l.length≤1000):bu bl (n+1) 50 [.v (.lst (l.map enc)),.v (.lst (l.map enc))] h t h.length=I (.v (.bool true),h,t):=by
 have hf:fit (l.map enc).length=true:=fZ (by assumption) (by first|decide|lia)
 ac_rfl
 iterate (exact j4 hf)
 ·intro aa;rw[decide_eq_true rfl]at aa;injections aa
 intro _;refine gW (Um (by repeat1' fail) (by repeat1' fail) (dO (by rw[bF];exact kn ‹_› ‹_› rfl))) ?_;refine WZ l _ _ fun x2 x3=>?_;show Wp _ _
 iterate fail
 exact dN rfl
theorem W2{lo:List (Option X)}{bs:Nat}{z:Int}{st:St}{es:az}(aa:dq (bu bl (n+3)) es st=I ([.v (.int z)],⟨lo,h,t,bs⟩))(bw:i6 z):aj (bu bl (n+3)) (.new 7 es) st=I (.v (pY z),⟨lo,h,t,bs⟩):=lz aa (UO bw) rfl rfl
theorem JJ{D:bX}{af:List aI}{S:cj}{s:Nat}{last:Bool}(a5:h[6]? =I (.e9 (rz D)))(aL:h[s]? =I S.cell)(ok:p5 af S D.T.z D.T.most D.T.x):
  bu bl (n+6) 51 [.cell 6,.v (.lst (af.map enc)),.cell s,.v (.bool last)] h t h.length=I (.v (ru (nodes af (b6 S.hp af)) (hE (j' af S s h.length D.T.z D.T.most D.T.x last).par last S.loose)),h,t):=by
 have aA:=ok.n;have hf:fit (af.map enc).length=true:=fZ (by assumption) (by first|decide|lia)
 have ar:∀st:St,hO .list st [.v (.lst (af.map enc))]=I (.v (.lst (af.map enc)),st):=fun st=>by have e:∀xs:List V,hO .list st [.v (.lst xs)]=(if fit xs.length then I (V.lst xs)else J).map fun r=>(X.v r,st):=fun ag=>rfl;erw[e,if_pos hf];rfl
 ac_rfl
 refine dT (fY (bH (aP rfl) cW) (ar _)) ?_;refine dT (fo (bH (aP rfl) (bH (aP rfl) (bH (W2 (bH (gy (aP rfl) a9 a5 rfl) cW) ok.VI) (bH (gy (aP rfl) a9 a5 rfl) (bH (gy (aP rfl) a9 a5 rfl) (bH (aP rfl) cW)))))) (VM (n:=n) (t:=t) (last:=last) aL ok)) ?_;refine hX (jA (p:=true) (fo (bH (aP rfl) (bH (aP rfl) cW)) (W0 (cz ‹_› rfl))) (fun ag=>aP rfl) (fun h=>nomatch h)) ?_;exact dN rfl
theorem ints_map:∀l:List Int,h2 (l.map .int)=I l:=by
 intro aT
 induction aT with
 |nil=>exact rfl
 |cons i r aD=>show(h2 (r.map .int)).map (i:: ·)=_;erw[aD];rfl
theorem BX{st:St}{l:List Int}:st.cmp .eq (.v (.lst (l.map .int))) (.v (.lst (l.map .int)))=I true:=by show(if(l.map V.int).length=(l.map V.int).length then pg (l.map .int) (l.map .int)else I false)=_;erw[if_pos rfl];unfold pg;erw[ints_map];show I (U (l=l))=_;erw[decide_eq_true rfl]
theorem W3{st:St}{l:List Int}{i:Int}:st.cmp .fA (.v (.int i)) (.v (.lst (l.map .int)))=I (l.contains i):=by show(h2 (l.map .int)).map (fun l=>l.contains i)=_;rw[ints_map];rfl
theorem W4{C:Calls}{Q:R→St→Prop}{a b c x4 x5 x6 x7:Option X}{bs:Nat}:∀(l:List Int) (x3:Option X),(∀x3,Q .next ⟨[a,b,c,x3,x4,x5,x6,x7],h,t,bs⟩)→Wp Q (forL (.one 3) (bI C (.cons (.ite (.bi .isBool (.cons (.loc 3) .nil)) (.cons (.ret (.const .bB)) .nil) .nil) .nil)) (l.map .int) ⟨[a,b,c,x3,x4,x5,x6,x7],h,t,bs⟩):=by
 intro aT
 induction aT with
 |nil=>intro x3 aE;exact pW (aE x3)
 |cons i l aD=>intro x3 aE;refine pX fD ?_;refine ih (d:=false) (fY (bH (aP rfl) cW) rfl) rfl rfl ?_;exact gh ⟨rfl,aD _ aE⟩
theorem W5{C:Calls}{ans:List Int}{bs:Nat}{b c x3 x4 x7:Option X}:∀(pl:List Int) (k:Nat) (x5 x6:Option X),∃dX,fh (.many [5,6]) (fun st=>hN (aj C (.cmp (.loc 6) .fA (.loc 0)) st)) (fun st=>gN (aj C (.loc 5) st)) (pairs k (pl.map .int)) ⟨[I (.v (.lst (ans.map .int))),b,c,x3,x4,x5,x6,x7],h,t,bs⟩=I (((pl.zipIdx k).filter fun p=>ans.contains p.1).map fun p=>V.int (p.2:Nat),⟨dX,h,t,bs⟩):=by
 intro aT
 induction aT with
 |nil=>intro k x5 x6;exact⟨_,rfl⟩
 |cons p pl aD=>
  intro k x5 x6;refine f7 (aD (k+1) (I (.v (.int k))) (I (.v (.int p)))) fun dX e=>?_;have aa:∀r,ans.contains p=r→aj C (.cmp (.loc 6) .fA (.loc 0)) ⟨[I (.v (.lst (ans.map .int))),b,c,x3,x4,I (.v (.int k)),I (.v (.int p)),x7],h,t,bs⟩=I (.v (.bool r),⟨[I (.v (.lst (ans.map .int))),b,c,x3,x4,I (.v (.int k)),I (.v (.int p)),x7],h,t,bs⟩):=fun r av=>by erw[←av];exact hV (aP rfl) (aP rfl) W3
  refine⟨dX,?_⟩;erw[List.zipIdx_cons,xX];cases ah:ans.contains p with
  |true=>exact wz tG (aa _ ah) (aP rfl) e
  |false=>exact wA tG (aa _ ah) e
theorem W6{C:Calls}{pl:List Int}{bs:Nat}{a c x3 x4 x6 x7:Option X}(ar:pl.length≤1000):∀(idx:List Nat) (x5:Option X),(∀i,i∈idx→i<pl.length)→∃dX,fh (.one 5) (fun st=>I (true,st)) (fun st=>gN (aj C (.item (.loc 1) (.loc 5)) st)) (idx.map fun i=>V.int (i:Nat)) ⟨[a,I (.v (.lst (pl.map .int))),c,x3,x4,x5,x6,x7],h,t,bs⟩=I ((idx.map fun i=>pl.getD i 0).map .int,⟨dX,h,t,bs⟩):=by
 intro aT
 induction aT with
 |nil=>intro x5 _;exact⟨_,rfl⟩
 |cons i idx aD=>intro x5 aw;refine f7 (aD (I (.v (.int i))) fun j a'=>aw j (.tail _ a')) fun dX e=>?_;have aw:=aw i (.head _);refine⟨dX,rj fD (hi (aP rfl) (aP rfl) (w:=.int (pl.getD i 0)) (item_at (k:=i) ?_ rfl (r5 ‹_› ‹_› rfl))) e⟩;erw[lO,get_map aw];rfl
structure w3(ans pl:List Int)(en:Int)(idx:List Nat):Prop where
 f:((pl.zipIdx 0).filter fun p=>ans.contains p.1).map (·.2)=idx
 i:∀i,i∈idx→i<pl.length
 e:ans=(idx.map fun i=>pl.getD i 0)++[en]
theorem JK{ans pl:List Int}{en:Int}{idx:List Nat}(av:w3 ans pl en idx)(aB:ans.length≤1000)(hp:pl.length≤1000):
  bu bl (n+1) 52 [.v (.lst (ans.map .int)),.v (.lst (pl.map .int)),.v (.int en)] h t h.length=I (.v (.lst (idx.map fun i=>.int (i:Nat))),h,t):=by
 have dW:fit (ans.map V.int).length=true:=fZ (by assumption) (by first|decide|lia)
 have bq:fit (pl.map V.int).length=true:=fZ (by assumption) (by first|decide|lia)
 have GN:idx.length≤ans.length:=by erw[av.e,b4,bF];exact f6 _ _
 ac_rfl
 refine gW (hj (by repeat1' fail) rfl dW) ?_;refine W4 ans _ fun x3=>?_;refine f7 (W5 (C:=bu bl n) (h:=h) (t:=t) (ans:=ans) (bs:=h.length) (b:=I (.v (.lst (pl.map .int)))) (c:=I (.v (.int en))) (x3:=x3) (x4:=J) (x7:=J) pl 0 J J) fun dX e=>?_;have hm:(((pl.zipIdx 0).filter fun p=>ans.contains p.1).map fun p=>V.int (p.2:Nat))=idx.map fun i=>V.int (i:Nat):=by erw[←av.f,jO];rfl
 rw[hm]at e;refine dT (A4 (A3 (aP rfl) bq) e) ?_;refine f7 (W6 (C:=bu bl n) (h:=h) (t:=t) (pl:=pl) (bs:=h.length) (a:=I (.v (.lst (ans.map .int)))) (c:=I (.v (.int en))) (x3:=x3) (x4:=I (.v (.lst (idx.map fun i=>V.int (i:Nat))))) (x6:=J) (x7:=J) hp idx J av.i) fun W7 au=>?_;have aC:((idx.map fun i=>pl.getD i 0).map V.int++[V.int en])=ans.map .int:=by erw[av.e,fy];rfl
 have ax:aj (bu bl n) (.bin .add (.comp (.item (.loc 1) (.loc 5)) (.one 5) (.of (.loc 4))) (.lst (.cons (.loc 2) .nil))) ⟨[I (.v (.lst (ans.map .int))),I (.v (.lst (pl.map .int))),I (.v (.int en)),x3,I (.v (.lst (idx.map fun i=>V.int (i:Nat)))),J,J,J],h,t,h.length⟩=I (.v (.lst (ans.map .int)),⟨[I (.v (.lst (ans.map .int))),I (.v (.lst (pl.map .int))),I (.v (.int en)),x3,I (.v (.lst (idx.map fun i=>V.int (i:Nat)))),J,J,J],h,t,h.length⟩):=(add_l (ri (hj (aP rfl) rfl (fZ (by assumption) (by first|decide|exact cz ‹_› rfl))) au) (hW (bA (aP rfl) di) rfl) (dO (by erw[bF,bF];show _+1≤_;lia))).trans (by erw[aC])
 exact hX (jA (p:=true) (hV ax (aP rfl) BX) (fun ag=>aP rfl) (fun h=>nomatch h)) (dN rfl)
end
section
variable{n t:Nat}{h:List Cell}
theorem BY{α:Type}{f g:α→V}{C:Calls}{k bs:Nat}{elt:ao}{P:List (Option X)→Prop}(dM:∀lo x,P lo→P (lo.set k x))(he:∀x lo,P lo→lo[k]? =I (I (.v (f x)))→aj C elt ⟨lo,h,t,bs⟩=I (.v (g x),⟨lo,h,t,bs⟩)):∀(l:List α) (lo:List (Option X)),k<lo.length→P lo→∃dX,fh (.one k) (fun st=>I (true,st)) (fun st=>gN (aj C elt st)) (l.map f) ⟨lo,h,t,bs⟩=I (l.map g,⟨dX,h,t,bs⟩):=by
 intro aT
 induction aT with
 |nil=>intro lo _ _;exact⟨lo,rfl⟩
 |cons x r aD=>intro lo ai hp;obtain⟨dX,e⟩:=aD (lo.set k (I (.v (f x)))) (by erw[kj];exact ai) (dM _ _ hp);exact⟨dX,rj fD (he x _ (dM _ _ hp) (by erw[xV ai])) e⟩
structure JL(D:bX)(ans mA:List Int)(idx jJ:List Nat):Prop where
 r:w3 ans (D.rs.map fun r=>(r.first:Nat)) D.en idx
 dz:w3 mA (D.rs.reverse.map fun r=>(D.en:Int)-1-(r.last:Nat)) D.en jJ
 c:oT D J (idx++[D.rs.length])
 dr:oT D J ((jJ.reverse.map fun i=>D.rs.length-1-i)++[D.rs.length])
 e:D.cost J 2 (idx++[D.rs.length])=D.cost J 2 ((jJ.reverse.map fun i=>D.rs.length-1-i)++[D.rs.length])
 l:idx.length≤100
 dh:jJ.length≤100
noncomputable abbrev BZ(ans mA:List Int)(x5 x6 x7 cX cY x10:Option X)(en:Int):List (Option X):=[I (.cell 6),I (.v (.lst (ans.map .int))),I (.v (.lst (mA.map .int))),I (.cell 5),I (.v (.int en)),x5,x6,x7,cX,cY,x10]
set_option maxHeartbeats 1000000 in
theorem W8{D:bX}{ans mA:List Int}{idx jJ:List Nat}(dG:oR D h)(ok:iK D)(fM:0≤D.S.cT∧D.S.cT≤100)(hp:∀i,Num (D.row i).b9)(al:JL D ans mA idx jJ):
  bu bl (n+4) 53 [.cell 6,.v (.lst (ans.map .int)),.v (.lst (mA.map .int))] h t h.length=I (.v (.bool true),h,t):=by
 have ab:=ok.b3;have W9:=al.l;have Xa:=al.dh;have fr:fit (D.rs.map eM).length=true:=fZ (by assumption) (by first|decide|lia)
 have gm:ans.length≤1000:=by erw[al.r.e,b4,bF];show _+1≤_;exact nU ‹_› rfl
 have Xb:mA.length≤1000:=by erw[al.dz.e,b4,bF];show _+1≤_;exact nU ‹_› rfl
 have BW:(D.rs.map eM).length=D.rs.length:=bF ..;have hlen:∀(lo:List (Option X)),hO .len ⟨lo,h,t,h.length⟩ [.cell 5]=I (.v (.int D.rs.length),⟨lo,h,t,h.length⟩):=fun lo=>by erw[←BW];exact oQ (gV dG.rs) fr
 have ai:=JK (n:=n+2) (h:=h) (t:=t) al.r gm (by erw[bF];exact cz ‹_› rfl);have l7:=JK (n:=n+2) (h:=h) (t:=t) al.dz Xb (by erw[bF,ff];exact cz ‹_› rfl);have ah:=JG (n:=n) (t:=t) dG ok fM W9 al.c hp;have iW:=JG (n:=n) (t:=t) dG ok fM (l:=jJ.reverse.map fun i=>D.rs.length-1-i) (by erw[bF,ff];exact Xa) al.dr hp
 ac_rfl
 refine hk (l:=[.cell 5,.v (.int D.en)]) (by repeat1' (first|exact dG.kc|exact rfl)) (by iterate fail) ?_
 refine f7 (BY (C:=bu bl (n+3)) (h:=h.set 5 .gone) (t:=t) (bs:=h.length) (f:=eM) (g:=fun r=>V.int (r.first:Nat)) (k:=8) (elt:=.item (.loc 8) (.const (.int 1))) (P:=fun ag=>True) (fun ag ag ag=>trivial) (fun r lo ag ar=>hi (aP ar) a9 rfl) D.rs (BZ ans mA J J J J J J D.en) (by exact iN rfl) trivial) fun lo1 ay=>?_;rw[show(D.rs.map fun r=>V.int (r.first:Nat))=(D.rs.map fun r=>((r.first:Nat):Int)).map V.int by erw[jO];rfl]at ay;refine dT (fo (bH (aP rfl) (bH (BL rfl (aP rfl) dG.rs fr ay) (bH (aP rfl) cW))) ai) ?_;obtain⟨W7,au⟩:=BY (C:=bu bl (n+3)) (h:=h) (t:=t) (bs:=h.length) (f:=eM) (g:=fun r=>V.int ((D.en:Int)-1-(r.last:Nat))) (k:=8) (elt:=.bin .sub (.bin .sub (.loc 4) (.const (.int 1))) (.item (.loc 8) (.const (.int 2)))) (P:=fun lo=>lo[4]? =I (I (.v (.int D.en)))) (fun lo x ar=>by erw[aaj (by decide)];exact ar) (fun r lo ba ar=>oC (oC (aP ba) a9) (hi (aP ar) a9 rfl)) D.rs.reverse (BZ ans mA (I (.v (.lst (idx.map fun i=>V.int (i:Nat))))) J J J J J D.en) (by exact iN rfl) rfl;rw[show(D.rs.reverse.map fun r=>V.int ((D.en:Int)-1-(r.last:Nat)))=(D.rs.reverse.map fun r=>(D.en:Int)-1-(r.last:Nat)).map V.int by erw[jO];rfl,iu]at au;refine dT (fo (bH (aP rfl) (bH (ri (hj (pU (aP rfl) (eo (gV dG.rs) rfl) fr) rfl (by erw[ff];exact fr)) au) (bH (aP rfl) cW))) l7) ?_;refine ih (d:=(kq (.lst (idx.map fun i=>V.int (i:Nat)))||kq (.lst (jJ.map fun i=>V.int (i:Nat))))) (rg (tC (aP rfl)) (tC (aP rfl))) rfl rfl ?_
 refine dT (fo (bH (aP rfl) (bH (aP rfl) cW)) ah) ?_;obtain⟨abf,bo⟩:=BY (C:=bu bl (n+3)) (h:=h) (t:=t) (bs:=h.length) (f:=fun i:Nat=>V.int (i:Nat)) (g:=fun i=>V.int ((D.rs.length:Int)-1-(i:Nat))) (k:=8) (elt:=.bin .sub (.bin .sub (.bi .len (.cons (.loc 3) .nil)) (.const (.int 1))) (.loc 8)) (P:=fun lo=>lo[3]? =I (I (.cell 5))) (fun lo x ar=>by erw[aaj (by decide)];exact ar) (fun r lo ba ar=>oC (oC (fY (bH (aP ba) cW) (hlen lo)) a9) (aP ar)) jJ.reverse (BZ ans mA (I (.v (.lst (idx.map fun i=>V.int (i:Nat))))) (I (.v (.lst (jJ.map fun i=>V.int (i:Nat))))) (I (.v (.int (D.cost J 2 (idx++[D.rs.length]))))) J J J D.en) (by exact iN rfl) rfl;have hm:(jJ.reverse.map fun i=>V.int ((D.rs.length:Int)-1-(i:Nat)))=(jJ.reverse.map fun i=>D.rs.length-1-i).map fun b=>V.int (b:Nat):=by erw[jO];refine nP fun i aw=>?_;have:=al.dz.i i (lU.mp aw);rw[bF,ff]at this;show V.int _=V.int ((D.rs.length-1-i:Nat):Int);erw[show((D.rs.length-1-i:Nat):Int)=(D.rs.length:Int)-1-i by exact Dq ‹_›]
 rw[hm,iu]at bo;refine hX (ly (wt (aP rfl)) (mq (aP rfl) (fo (bH (aP rfl) (bH (ri (hj (pU (aP rfl) rfl (fZ (by assumption) (by first|decide|lia))) rfl (dO (by erw[ff,bF];exact cz ‹_› rfl))) bo) cW)) iW))) ?_
 exact dN (by erw[al.e,decide_eq_true rfl];rfl)
end
noncomputable abbrev Xc:bD:=bD.cons (c8.ret (((ao.bi gB.len (az.cons (ao.loc 20) az.nil)).cmp bk.eq (ao.bi gB.len (az.cons (ao.loc 21) az.nil))).and (ao.call 53 (az.cons (ao.loc 12) (az.cons (ao.loc 20) (az.cons (ao.loc 21) az.nil)))))) bD.nil
noncomputable abbrev Xd:bD:=bD.cons (c8.ite (((ao.loc 20).cmp bk.is (ao.const V.bB)).or ((ao.loc 21).cmp bk.is (ao.const V.bB))) (bD.cons (c8.ret (((ao.loc 20).cmp bk.is (ao.const V.bB)).and (((ao.loc 21).cmp bk.is (ao.const V.bB)).and (ao.loc 9).not))) bD.nil) bD.nil) Xc
noncomputable abbrev Xe:bD:=bD.cons (c8.ite ((ao.loc 8).cmp bk.eq (ao.const (V.int 0))) (bD.cons (c8.ret (((ao.loc 20).cmp bk.eq (ao.loc 18)).and ((ao.loc 21).cmp bk.eq (ao.loc 19)))) bD.nil) bD.nil) Xd
noncomputable abbrev Xf:bD:=bD.cons (c8.jS (dI.cons (dS.loc 20) (dI.cons (dS.loc 21) dI.nil)) (az.cons (ao.call 51 (az.cons (ao.loc 12) (az.cons (ao.loc 15) (az.cons (ao.loc 7) (az.cons (ao.loc 9) az.nil))))) (az.cons (ao.call 51 (az.cons (ao.loc 12) (az.cons (ao.loc 16) (az.cons (ao.loc 17) (az.cons (ao.loc 9) az.nil))))) az.nil))) Xe
noncomputable abbrev Xg:bD:=bD.cons (c8.jS (dI.cons (dS.attr (ao.loc 7) 37) (dI.cons (dS.attr (ao.loc 17) 37) dI.nil)) (az.cons (ao.loc 8) (az.cons (ao.loc 8) az.nil))) Xf
noncomputable abbrev Xh:bD:=bD.cons (c8.ite (((ao.loc 8).cmp bk.eq (ao.const (V.int 0))).and (ao.loc 9).not) (bD.cons (c8.ret (ao.const (V.bool true))) bD.nil) bD.nil) Xg
noncomputable abbrev Xi:bD:=bD.cons (c8.ite (ao.call 53 (az.cons (ao.loc 12) (az.cons (ao.loc 18) (az.cons (ao.loc 19) az.nil)))).not (bD.cons (c8.ret (ao.const (V.bool false))) bD.nil) bD.nil) Xh
noncomputable abbrev Xj:bD:=bD.cons (c8.ite (((ao.loc 18).cmp bk.is (ao.const V.bB)).or ((ao.loc 19).cmp bk.is (ao.const V.bB))) (bD.cons (c8.ret (((ao.loc 18).cmp bk.is (ao.const V.bB)).and ((ao.loc 19).cmp bk.is (ao.const V.bB)))) bD.nil) bD.nil) Xi
noncomputable abbrev JM:bD:=bD.cons (c8.jS (dI.cons (dS.loc 18) (dI.cons (dS.loc 19) dI.nil)) (az.cons (ao.call 51 (az.cons (ao.loc 12) (az.cons (ao.loc 15) (az.cons (ao.loc 7) (az.cons (ao.const (V.bool false)) az.nil))))) (az.cons (ao.call 51 (az.cons (ao.loc 12) (az.cons (ao.loc 16) (az.cons (ao.loc 17) (az.cons (ao.const (V.bool false)) az.nil))))) az.nil))) Xj
noncomputable abbrev Xk:bD:=bD.cons (c8.assign (dS.loc 17) (ao.call 41 (az.cons (ao.loc 7) az.nil))) JM
noncomputable abbrev Xl:bD:=bD.cons (c8.assign (dS.loc 16) (((((ao.loc 22).attr 6).cmp bk.eq (ao.const (V.int 8))).k0 (ao.new 5 (az.cons ((ao.loc 22).attr 19).rev (az.cons ((ao.loc 22).attr 18).rev (az.cons ((ao.loc 22).attr 20).rev az.nil)))) (ao.loc 22)).comp (cB.one 22) (Src.of (ao.loc 15).rev))) Xk
noncomputable abbrev Xm:bD:=bD.cons (c8.assign (dS.item (ao.loc 12) (ao.const (V.str 60))) (ao.bi gB.len (az.cons (ao.loc 15) az.nil))) Xl
noncomputable abbrev JN:bD:=bD.cons (c8.assign (dS.loc 15) (ao.bin jR.add ((ao.loc 12).item (ao.const (V.str 54))) ((ao.loc 11).item (ao.const (V.int 1))))) Xm
noncomputable abbrev JO:bD:=bD.cons (c8.mL (cB.one 14) (Src.range (ao.loc 2)) (bD.cons (c8.ite ((ao.loc 14).cmp bk.gt (ao.const (V.int 0))) (bD.cons (c8.expr (ao.call 46 (az.cons (ao.loc 1) (az.cons (ao.loc 12) (az.cons (ao.loc 7) az.nil))))) bD.nil) bD.nil) (bD.cons (c8.expr (ao.call 43 (az.cons (ao.loc 1) (az.cons (ao.loc 12) az.nil)))) bD.nil))) JN
noncomputable abbrev Xn:bD:=bD.cons (c8.mL (cB.one 13) (Src.of (ao.tup (az.cons ((ao.loc 7).attr 39) (az.cons ((ao.loc 7).attr 40) az.nil)))) (bD.cons (c8.expr (((ao.loc 12).item (ao.const (V.str 49))).append (ao.tup (az.cons ((ao.loc 13).attr 1) (az.cons ((ao.loc 13).attr 2) (az.cons ((ao.loc 13).attr 3) (az.cons ((ao.loc 13).attr 4) az.nil))))))) bD.nil)) JO
noncomputable abbrev Xo:bD:=bD.cons (c8.jS (dI.cons (dS.item (ao.loc 12) (ao.const (V.str 48))) (dI.cons (dS.item (ao.loc 12) (ao.const (V.str 59))) (dI.cons (dS.item (ao.loc 12) (ao.const (V.str 49))) dI.nil))) (az.cons (ao.loc 4) (az.cons (ao.loc 5) (az.cons (ao.jk (az.cons (ao.tup (az.cons (ao.const (V.int 0)) (az.cons (ao.loc 5) (az.cons (ao.const (V.int 0)) (az.cons (ao.const (V.int 0)) az.nil))))) az.nil)) az.nil)))) Xn
noncomputable abbrev Xp:bD:=bD.cons (c8.assign (dS.loc 12) (ao.e9 [54,55,56,27,57,58,46] (az.cons ((ao.loc 10).item (ao.const (V.int 1))).pd (az.cons (ao.jk az.nil) (az.cons (ao.jk az.nil) (az.cons (ao.jk az.nil) (az.cons (ao.tup (az.cons ((ao.loc 10).item (ao.const (V.int 0))) (az.cons ((ao.loc 11).item (ao.const (V.int 0))) az.nil))) (az.cons (ao.loc 3) (az.cons (ao.loc 7) az.nil))))))))) Xo
noncomputable abbrev Xq:bD:=bD.cons (c8.jS (dI.cons (dS.loc 10) (dI.cons (dS.loc 11) dI.nil)) (az.cons (ao.call 42 (az.cons ((ao.loc 6).item (ao.const (V.int 0))) az.nil)) (az.cons (ao.call 42 (az.cons ((ao.loc 6).item (ao.const (V.int 1))) az.nil)) az.nil))) Xp
noncomputable abbrev Xr:bD:=bD.cons (c8.assign (dS.tup (dI.cons (dS.loc 8) (dI.cons (dS.loc 9) dI.nil))) ((ao.lst (az.cons (ao.tup (az.cons (ao.const (V.int 0)) (az.cons (ao.const (V.bool true)) az.nil))) (az.cons (ao.tup (az.cons (ao.const (V.int 1)) (az.cons (ao.const (V.bool true)) az.nil))) (az.cons (ao.tup (az.cons (ao.const (V.int 0)) (az.cons (ao.const (V.bool false)) az.nil))) (az.cons (ao.tup (az.cons (ao.const (V.int 1)) (az.cons (ao.const (V.bool false)) az.nil))) (az.cons (ao.tup (az.cons (ao.const (V.int 2)) (az.cons (ao.const (V.bool true)) az.nil))) (az.cons (ao.tup (az.cons (ao.const (V.int 0)) (az.cons (ao.const (V.bool false)) az.nil))) (az.cons (ao.tup (az.cons (ao.const (V.int 1)).neg (az.cons (ao.const (V.bool true)) az.nil))) (az.cons (ao.tup (az.cons (ao.const (V.int 1)).neg (az.cons (ao.const (V.bool false)) az.nil))) az.nil))))))))).item (ao.call 39 (az.cons (ao.loc 1) (az.cons (ao.const (V.int 8)) az.nil))))) Xq
noncomputable abbrev Xs:bD:=bD.cons (c8.assign (dS.loc 7) (ao.call 40 (az.cons (ao.loc 1) (az.cons ((ao.loc 6).cmp bk.eq (ao.tup (az.cons (ao.const (V.int 1)) (az.cons (ao.const (V.int 1)) az.nil)))) az.nil)))) Xr
noncomputable abbrev Xu:bD:=bD.cons (c8.jS (dI.cons (dS.loc 5) (dI.cons (dS.loc 6) dI.nil)) (az.cons ((ao.lst (az.cons (ao.const (V.int 0)) (az.cons (ao.const (V.int 0)) (az.cons (ao.const (V.int 20)) az.nil)))).item (ao.call 39 (az.cons (ao.loc 1) (az.cons (ao.const (V.int 3)) az.nil)))) (az.cons ((ao.lst (az.cons (ao.tup (az.cons (ao.const (V.int 0)) (az.cons (ao.const (V.int 0)) az.nil))) (az.cons (ao.tup (az.cons (ao.const (V.int 1)) (az.cons (ao.const (V.int 1)) az.nil))) (az.cons (ao.tup (az.cons (ao.const (V.int 0)) (az.cons (ao.const (V.int 1)) az.nil))) (az.cons (ao.tup (az.cons (ao.const (V.int 1)) (az.cons (ao.const (V.int 1)) az.nil))) (az.cons (ao.tup (az.cons (ao.const (V.int 2)) (az.cons (ao.const (V.int 1)) az.nil))) (az.cons (ao.tup (az.cons (ao.const (V.int 0)) (az.cons (ao.const (V.int 2)) az.nil))) az.nil))))))).item (ao.call 39 (az.cons (ao.loc 1) (az.cons (ao.const (V.int 6)) az.nil)))) az.nil))) Xs
noncomputable abbrev Xv:bD:=bD.cons (c8.jS (dI.cons (dS.loc 3) (dI.cons (dS.loc 4) dI.nil)) (az.cons (ao.bin jR.add (ao.const (V.int 36)) (ao.call 39 (az.cons (ao.loc 1) (az.cons (ao.const (V.int 40)) az.nil)))) (az.cons ((ao.lst (az.cons (ao.const (V.int 1000)) (az.cons (ao.const (V.int 10000)) (az.cons (ao.const (V.int 12000)) (az.cons (ao.const (V.int 200)) (az.cons (ao.const (V.int 10000)) az.nil)))))).item (ao.call 39 (az.cons (ao.loc 1) (az.cons (ao.const (V.int 5)) az.nil)))) az.nil))) Xu
noncomputable abbrev Xw:bD:=bD.cons (c8.assign (dS.loc 2) ((ao.lst (az.cons (ao.const (V.int 3)) (az.cons (ao.const (V.int 5)) (az.cons (ao.const (V.int 4)) (az.cons (ao.const (V.int 5)) (az.cons (ao.const (V.int 3)) az.nil)))))).item (ao.call 39 (az.cons (ao.loc 1) (az.cons (ao.const (V.int 5)) az.nil))))) Xv
noncomputable abbrev Xx:bD:=bD.cons (c8.assign (dS.loc 1) (ao.call 38 (az.cons (ao.loc 0) az.nil))) Xw
theorem Xy:body 54=Xx:=by
 conv=>(lhs;reduce;(try simp only[Int.reduceOfNat,Int.reduceNegSucc]))
section
variable{n t:Nat}{h:List Cell}
noncomputable def SL(S:cj)(L:Int):cj:=⟨S.cT,S.hp,S.dV,S.cu,L,S.ls,S.rs⟩
noncomputable def bX.to(D:bX)(L:Int):bX:={D with S:=SL D.S L}
def eZ(D:bX)(af:List aI)(S:cj)(last:Bool):Option (List Nat):=hE (j' af S 0 0 D.T.z D.T.most D.T.x last).par last S.loose
def lF(af:List aI)(hp:Int)(p:List Nat):List Int:=(p.map fun s=>(nodes af (b6 hp af) s).p).reverse
theorem rB{af:List aI}{hp:Int}{p:List Nat}:ru (nodes af (b6 hp af)) (I p)= .lst ((lF af hp p).map .int):=by delta ru lF;erw[iu,jO];rfl
structure B0(D:bX)(af a6:List aI)(L:Int)(p dp:List Nat):Prop where
 l:L≠0→p.length=dp.length
 e:∃idx jJ,JL (D.to L) (lF af D.S.hp p) (lF a6 D.S.hp dp) idx jJ
structure B1(D:bX)(af a6:List aI):Prop where
 ok:∀L,Num L→p5 af (SL D.S L) D.T.z D.T.most D.T.x
 AL:∀L,Num L→p5 a6 (SL D.S.ex L) D.T.z D.T.most D.T.x
 bB:∀L,eZ D af (SL D.S L) false=J↔eZ D a6 (SL D.S.ex L) false=J
 last:∀L,eZ D af (SL D.S 0) false≠ .none→eZ D af (SL D.S L) true≠ .none∧eZ D a6 (SL D.S.ex L) true≠ .none
 same:eZ D af (SL D.S 0) false≠ .none→eZ D af (SL D.S 0) true=eZ D af (SL D.S 0) false∧eZ D a6 (SL D.S.ex 0) true=eZ D a6 (SL D.S.ex 0) false
 alike:∀L last p dp,eZ D af (SL D.S 0) false≠ .none→eZ D af (SL D.S L) last=I p→eZ D a6 (SL D.S.ex L) last=I dp→B0 D af a6 L p dp
 len:∀L last p,eZ D af (SL D.S L) last=I p→p.length≤1000
 Xz:∀L last p,eZ D a6 (SL D.S.ex L) last=I p→p.length≤1000
abbrev w4(r:R)(st:St):Prop:=∃o,Out false [] o r st∧∃h t,o=(.v (.bool true),h,t)
theorem t5{lo:List (Option X)}{H:List Cell}{t:Nat}{b:Bool}(ae:b=true):w4 (.ret (.v (.bool b))) ⟨lo,H,t,0⟩:=by subst ae;exact⟨_,Jd (h:=[]) (h':=[]) (e:=H) rfl,_,_,rfl⟩
theorem oU{C:Calls}{st:St}{k:Nat}(h:st.loc[k]? =I (I (.v .bB))):aj C (.cmp (.loc k) .is (.const .bB)) st=I (.v (.bool true),st):=tC (u:=.bB) (aP h)
theorem w5{C:Calls}{st:St}{k:Nat}{xs:List V}(h:st.loc[k]? =I (I (.v (.lst xs)))):aj C (.cmp (.loc k) .is (.const .bB)) st=I (.v (.bool false),st):=tC (u:=.lst xs) (aP h)
noncomputable abbrev jK(D:bX)(p:eg)(nd:List V)(L:Int):List Cell:=[eE p,(SL D.S L).cell,.lst nd,.lst (D.ws.map .int),.lst (D.gs.map lE),.lst (D.rs.map eM),.e9 (rz D),.lst (D.gr.map b7),(SL D.S.ex L).cell]
theorem XA(D:bX)(p:eg)(nd:List V)(L:Int):oR (D.to L) (jK D p nd L):=⟨rfl,rfl,rfl,rfl,rfl,rfl⟩
abbrev XB(af a6:List aI)(x0 x2 x3 x4 x5 x6 x10 x11 x13 x14 x18 x19 x20 x21 x22 x23 x24:Option X)(L:Int)(last:Bool):List (Option X):=[x0,I (.cell 0),x2,x3,x4,x5,x6,I (.cell 1),I (.v (.int L)),I (.v (.bool last)),x10,x11,I (.cell 6),x13,x14,I (.v (.lst (af.map enc))),I (.v (.lst (a6.map enc))),I (.cell 8),x18,x19,x20,x21,x22,x23,x24]
set_option maxHeartbeats 2000000 in
theorem XC{D:bX}{af a6:List aI}{p:eg}{nd:List V}{L:Int}{last:Bool}{x0 x2 x3 x4 x5 x6 x10 x11 x13 x14 x18 x19 x20 x21 x22 x23 x24:Option X}(M:B1 D af a6)(ok:iK D)(fM:tU D.S)(hp:∀i,Num (D.row i).b9)(cv:Num L):
  Wp w4 (bI (bu bl (n+6)) JM ⟨XB af a6 x0 x2 x3 x4 x5 x6 x10 x11 x13 x14 x18 x19 x20 x21 x22 x23 x24 L last,jK D p nd 0,t,0⟩):=by
 have eW:Num 0:=⟨by decide,by decide⟩
 have XD:∀L,iK (D.to L):=fun L=>⟨ok.w,ok.oA,ok.r,ok.b3,ok.g,ok.a4,ok.dg,ok.pr,ok.eI,ok.ay,ok.aT,ok.aM,ok.gr,ok.qa⟩;have XE:0≤D.S.cT∧D.S.cT≤100:=⟨fM.Bz,fM.Je⟩
 have a1:∀{t:Nat} (L:Int) (last:Bool),Num L→bu bl (n+6) 51 [.cell 6,.v (.lst (af.map enc)),.cell 1,.v (.bool last)] (jK D p nd L) t (jK D p nd L).length=I (.v (ru (nodes af (b6 D.S.hp af)) (eZ D af (SL D.S L) last)),jK D p nd L,t):=fun{t} L last cv=>JJ (D:=D) (S:=SL D.S L) rfl rfl (M.ok L cv);have a2:∀{t:Nat} (L:Int) (last:Bool),Num L→bu bl (n+6) 51 [.cell 6,.v (.lst (a6.map enc)),.cell 8,.v (.bool last)] (jK D p nd L) t (jK D p nd L).length=I (.v (ru (nodes a6 (b6 D.S.hp a6)) (eZ D a6 (SL D.S.ex L) last)),jK D p nd L,t):=fun{t} L last cv=>JJ (D:=D) (S:=SL D.S.ex L) rfl rfl (M.AL L cv);have w6:∀{af:List aI} {hp:Int} {p:List Nat},(lF af hp p).length=p.length:=fun{_ ag _}=>by unfold lF;erw[ff,bF]
 have al:∀{t:Nat} (L:Int) (last:Bool) (cL ck:List Nat),eZ D af (SL D.S 0) false≠none→eZ D af (SL D.S L) last=I cL→eZ D a6 (SL D.S.ex L) last=I ck→bu bl (n+6) 53 [.cell 6,.v (.lst ((lF af D.S.hp cL).map .int)),.v (.lst ((lF a6 D.S.hp ck).map .int))] (jK D p nd L) t (jK D p nd L).length=I (.v (.bool true),jK D p nd L,t):=fun{t} L last cL ck h0 aa ab=>
  by obtain⟨_,_,_,e⟩:=M.alike L last cL ck h0 aa ab;exact W8 (n:=n+2) (XA D p nd L) (XD L) XE hp e
 refine hk (by repeat1' (first|exact a1 0 false eW|exact a2 0 false eW)) (by iterate fail) ?_
 cases ah:eZ D af (SL D.S 0) false with
 |none=>have iW:=(M.bB 0).mp ah;erw[iW];refine ih (d:=true) (rg (p:=true) (q:=true) (oU rfl) (oU rfl)) rfl rfl ?_;exact hX (ly (oU rfl) (oU rfl)) (t5 rfl)
 |some cL=>
 have h0:eZ D af (SL D.S 0) false≠J:=by erw[ah];exact fun h=>nomatch h
 cases iW:eZ D a6 (SL D.S.ex 0) false with
 |none=>exact absurd ((M.bB 0).mpr iW) h0
 |some ck=>
 erw[rB,rB];refine ih (d:=false) (rg (p:=false) (q:=false) (w5 rfl) (w5 rfl)) rfl rfl ?_;refine ih (d:=false) (wo (p:=true) (fo (bH (aP rfl) (bH (aP rfl) (bH (aP rfl) cW))) (al 0 false cL ck h0 ah iW))) rfl rfl ?_;refine ih (d:=U (L=0)&& !last) (ly (mq (aP rfl) a9) (wo (aP rfl))) rfl rfl ?_;refine n4 (fun aa=>hX a9 (t5 rfl)) fun aa=>?_;refine hk (st1:=⟨_,jK D p nd 0,t,0⟩) (l:=[.v (.int L),.v (.int L)]) (bH (aP rfl) (bH (aP rfl) cW)) (st2:=⟨_,jK D p nd L,t,0⟩) (A9 (aP rfl) rfl rfl (A9 (aP rfl) rfl rfl rl)) ?_;refine hk (by repeat1' (first|exact a1 L last cv|exact a2 L last cv)) (by iterate fail) ?_
 refine ih (d:=U (L=0)) (mq (aP rfl) a9) rfl rfl ?_;refine n4 (fun ab=>?_) fun ab=>?_
 ·have XF:=of_decide_eq_true ab;subst XF;have B2:last=true:=by
   induction last using hK with
   |true=>rfl
   |false=>injections aa
  subst B2;refine bC (fun ay au=>?_) (M.same h0);erw[ay,au,ah,iW,rB,rB];exact hX (ly (hV (aP rfl) (aP rfl) BX) (hV (aP rfl) (aP rfl) BX)) (t5 rfl)
 ·cases hd:eZ D af (SL D.S L) last with
  |none=>
   have B2:last=false:=by
    induction last using hK with
    |false=>rfl
    |true=>exact absurd hd (M.last L h0).1
   subst B2;erw[(M.bB L).mp hd];refine ih (d:=true) (rg (p:=true) (q:=true) (oU rfl) (oU rfl)) rfl rfl ?_;exact hX (ly (oU rfl) (ly (oU rfl) (wo (aP rfl)))) (t5 rfl)
  |some eu=>
  cases la:eZ D a6 (SL D.S.ex L) last with
  |none=>
   induction last using hK with
   |true=>exact absurd la (M.last L h0).2
   |false=>rw[(M.bB L).mpr la]at hd;injections hd
  |some gc=>
  erw[rB,rB];refine ih (d:=false) (rg (p:=false) (q:=false) (w5 rfl) (w5 rfl)) rfl rfl ?_;refine hX (ly (mq (fY (bH (aP rfl) cW) (j4 (dO ?_))) (fY (bH (aP rfl) cW) (j4 (dO ?_)))) (fo (bH (aP rfl) (bH (aP rfl) (bH (aP rfl) cW))) (al L last eu gc h0 hd la))) (t5 ?_)
  ·erw[bF,w6];have:=M.len L last eu hd;exact cz ‹_› rfl
  ·erw[bF,w6];have:=M.Xz L last gc la;exact cz ‹_› rfl
  ·erw[bF,bF,w6,w6,((M.alike L last eu gc h0 hd la).l (of_decide_eq_false ab)),decide_eq_true rfl];rfl
end
section
variable{n t:Nat}{h:List Cell}
inductive f5:aI→aI→Prop where
 |same (it:aI) (h:lB it=false):f5 it it
 |cf (t t':Nat) (a b m:i7):f5 (.cf t a b m) (.cf t' b.reverse a.reverse m.reverse)
noncomputable abbrev XG:ao:=.k0 (.cmp (.attr (.loc 22) 6) .eq (.const (.int 8))) (.new 5 (.cons (.rev (.attr (.loc 22) 19)) (.cons (.rev (.attr (.loc 22) 18)) (.cons (.rev (.attr (.loc 22) 20)) .nil)))) (.loc 22)
theorem XH{bs:Nat}:∀(l:List aI) (lo:List (Option X)) (t:Nat),22<lo.length→(∀it,it∈l→pZ it)→∃dX a6 t',fh (.one 22) (fun st=>I (true,st)) (fun st=>gN (aj (bu bl (n+2)) XG st)) (l.map enc) ⟨lo,h,t,bs⟩=I (a6.map enc,⟨dX,h,t',bs⟩)∧dm f5 l a6:=by
 intro aT
 induction aT with
 |nil=>intro lo t _ _;exact⟨lo,[],t,rfl,.nil⟩
 |cons it r aD=>
  intro lo t ai aw;have aK:(lo.set 22 (I (X.v (enc it))))[22]? =I (I (.v (enc it))):=by erw[xV ai]
  have l7:22<(lo.set 22 (I (X.v (enc it)))).length:=by erw[kj];exact ai
  have av:=fun x aC=>aw x (List.Mem.tail it aC);cases hd:lB it with
  |false=>
   obtain⟨dX,a6,t',e,m⟩:=aD (lo.set 22 (I (.v (enc it)))) t l7 av;have z8:U (IE it=8)=false:=by cases it<;>first|rfl|cases hd
   exact⟨dX,it::a6,t',rj fD (jA (p:=false) (by erw[←z8];exact mq (tJ (aP aK)) a9) (fun h=>nomatch h) (fun ag=>aP aK)) e,.cons (.same it hd) m⟩
  |true=>
   cases it with
   |cf t0 a b fG=>
    obtain⟨dX,a6,t',e,m⟩:=aD (lo.set 22 (I (.v (enc (.cf t0 a b fG))))) (t+1) l7 av;have hit:=aw _ (.head _);have aC:dq (bu bl (n+2)) (.cons (.rev (.attr (.loc 22) 19)) (.cons (.rev (.attr (.loc 22) 18)) (.cons (.rev (.attr (.loc 22) 20)) .nil))) ⟨lo.set 22 (I (.v (enc (.cf t0 a b fG)))),h,t,bs⟩=I ([.v (.lst (b.reverse.map fv)),.v (.lst (a.reverse.map fv)),.v (.lst (fG.reverse.map fv))],⟨lo.set 22 (I (.v (enc (.cf t0 a b fG)))),h,t,bs⟩):=by erw[iu,iu,iu];exact bH (pU (hg (aP aK) rfl) rfl (nq hit.2.1)) (bH (pU (hg (aP aK) rfl) rfl (nq hit.1)) (bH (pU (hg (aP aK) rfl) rfl (nq hit.2.2)) cW))
    refine⟨dX,.cf t b.reverse a.reverse fG.reverse::a6,t',rj fD (jA (p:=true) (mq (tJ (it:=.cf t0 a b fG) (aP aK)) a9) (fun ag=>Jk aC ?_ ?_ ?_) (fun h=>nomatch h)) e,.cons (.cf t0 t a b fG) m⟩
    ·erw[ff];exact hit.2.1
    ·erw[ff];exact hit.1
    ·erw[ff];exact hit.2.2
   |_=>injections hd
inductive Lay(hp:Int)(bp:List aI):List aI→List Int→List (List bb)→List Row→Prop where
 |one {fw:List aI} {wv:Int} (w:kM fw wv):Lay hp bp (bp++fw) [wv] [] []
 |more {af dK fw:List aI} {ws:List Int} {wv:Int} {gs:List (List bb)} {eN:List bb} {rs rw:List Row} (l:Lay hp bp af ws gs rs) (g:jH hp gs.length af.length dK eN rw) (w:kM fw wv):Lay hp bp ((af++dK)++fw) (ws++[wv]) (gs++[eN]) (rs++rw)
structure w7(T:Tl)(S:cj)(gr:List bb)(bp aR:List aI)(cU:Nat):Prop where
 m:∀af ws gs rs a6,Lay S.hp bp af ws gs rs→ws.length=cU→dm f5 (af++aR).reverse a6→B1 ⟨T,S,ws,gs,rs,gr,(af++aR).length⟩ (af++aR) a6
 ok:∀af ws gs rs,Lay S.hp bp af ws gs rs→ws.length=cU→iK ⟨T,S,ws,gs,rs,gr,(af++aR).length⟩
 b9:∀af ws gs rs,Lay S.hp bp af ws gs rs→∀r,r∈rs→Num r.b9
 it:∀af ws gs rs,Lay S.hp bp af ws gs rs→∀it,it∈af++aR→pZ it
 ay:aR.length≤2
abbrev rC(x0 x2 x3 x4 x5 x6 x10 x13 x14:Option X)(ay:List bb)(aR:List aI)(L:Int)(last:Bool):List (Option X):=[x0,I (.cell 0),x2,x3,x4,x5,x6,I (.cell 1),I (.v (.int L)),I (.v (.bool last)),x10,I (.v (.tup [.lst (ay.map b7),.lst (aR.map enc)])),I (.cell 6),x13,x14,J,J,J,J,J,J,J,J,J,J]
theorem XI{T:Tl}{S:cj}{gr:List bb}{bp aR af:List aI}{ws:List Int}{gs:List (List bb)}{rs:List Row}{cU:Nat}{p:eg}{L:Int}{last:Bool}{x0 x2 x3 x4 x5 x6 x10 x13 x14:Option X}(M:w7 T S gr bp aR cU)(l:Lay S.hp bp af ws gs rs)(aA:ws.length=cU)(fM:tU S)(cv:Num L)(ar:af.length≤80):
  Wp w4 (bI (bu bl (n+6)) JN ⟨rC x0 x2 x3 x4 x5 x6 x10 x13 x14 T.ay aR L last,av p S.cell (af.map enc) (ws.map .int) (gs.map lE) (rs.map eM) (dj T) (gr.map b7) [],t,0⟩):=by
 have Fj:=M.ay;have hf:fit ((af.map enc).length+(aR.map enc).length)=true:=dO (by erw[bF,bF];exact kn ‹_› ‹_› rfl);have hlen:(af++aR).length≤82:=by erw[b4];exact kn ‹_› ‹_› rfl
 have B3:fit ((af++aR).map enc).length=true:=fZ (by assumption) (by first|decide|lia)
 have XJ:aj (bu bl (n+6)) (.bin .add (.item (.loc 12) (.const (.str 54))) (.item (.loc 11) (.const (.int 1)))) ⟨rC x0 x2 x3 x4 x5 x6 x10 x13 x14 T.ay aR L last,av p S.cell (af.map enc) (ws.map .int) (gs.map lE) (rs.map eM) (dj T) (gr.map b7) [],t,0⟩=I (.v (.lst ((af++aR).map enc)),⟨rC x0 x2 x3 x4 x5 x6 x10 x13 x14 T.ay aR L last,av p S.cell (af.map enc) (ws.map .int) (gs.map lE) (rs.map eM) (dj T) (gr.map b7) [],t,0⟩):=by erw[fy];exact j2 (u:=.lst (af.map enc)) (v:=.lst (aR.map enc)) (gy (aP rfl) a9 rfl rfl) (hi (aP rfl) a9 rfl) rfl rfl (if_pos hf)
 refine dT XJ ?_;have XK:SL S 0=S:=by have:=fM.lo;cases S;show cj.mk _ _ _ _ _ _ _=_;erw[show(0:Int)=_ from this.symm]
 refine A6 (cl':=.e9 (rz ⟨T,S,ws,gs,rs,gr,(af++aR).length⟩)) (fY (bH (aP rfl) cW) (j4 B3)) (aP rfl) a9 rfl (by erw[bF];rfl) ?_;obtain⟨dX,a6,t',e,m⟩:=XH (n:=n+4) (h:=av p S.cell (af.map enc) (ws.map .int) (gs.map lE) (rs.map eM) (rz ⟨T,S,ws,gs,rs,gr,(af++aR).length⟩) (gr.map b7) []) (bs:=0) (af++aR).reverse ((rC x0 x2 x3 x4 x5 x6 x10 x13 x14 T.ay aR L last).set 15 (I (.v (.lst ((af++aR).map enc))))) t (iN rfl) (fun it aw=>M.it af ws gs rs l it (lU.mp aw));rw[iu]at e;refine dT (ri (hj (pU (aP rfl) rfl B3) rfl (by erw[ff];exact B3)) e) ?_;refine dT (fo (bH (aP rfl) cW) (V6 (n:=n+1) (t:=t') (S:=S) (s:=1) (h:=av p S.cell (af.map enc) (ws.map .int) (gs.map lE) (rs.map eM) (rz ⟨T,S,ws,gs,rs,gr,(af++aR).length⟩) (gr.map b7) []) rfl)) ?_;have:=XC (n:=n) (t:=t') (D:=⟨T,S,ws,gs,rs,gr,(af++aR).length⟩) (af:=af++aR) (a6:=a6) (p:=p) (nd:=af.map enc) (L:=L) (last:=last) (x0:=x0) (x2:=x2) (x3:=x3) (x4:=x4) (x5:=x5) (x6:=x6) (x10:=x10) (x11:=I (.v (.tup [.lst (T.ay.map b7),.lst (aR.map enc)]))) (x13:=x13) (x14:=x14) (x18:=J) (x19:=J) (x20:=J) (x21:=J) (x22:=J) (x23:=J) (x24:=J) (M.m af ws gs rs a6 l aA m) (M.ok af ws gs rs l aA) fM (fun i=>?_) cv
 ·unfold jK at this;rw[XK]at this;exact this
 ·unfold bX.row;cases aE:rs[i]? with
  |none=>exact⟨by decide,by decide⟩
  |some r=>exact M.b9 af ws gs rs l r (fI aE)
end
section
variable{n t:Nat}{h:List Cell}
structure XM(af:List aI)(k:Nat):Prop where
 n:af.length≤k
theorem w8{af:List aI}{w:Int}(h:kM af w):XM af 3:=by cases h<;>exact⟨by first|exact iN rfl⟩
theorem XN{gi gs len:Nat}:∀(l:List (Nat×Int)) (k:Nat),(jG gi gs len k l).length≤l.length:=by
 intro aT
 induction aT with
 |nil=>intro _;exact bE _
 |cons x r aD=>intro k;have:=aD (k+1);have:(one (U (x.2<10000)) (⟨gi,k,k,gs,gs+len,x.2,false,0,0⟩:Row)).length≤1:=wI;erw[Js];erw[b4,gA];exact bR (nK this (aD (k+1))) (eQ (o3 ..))
theorem JP{hp:Int}{gi p:Nat}{af:List aI}{eN:List bb}{rws:List Row}(h:jH hp gi p af eN rws):af.length≤2∧rws.length≤2:=by
 cases h with
 |glue l aA ar aK=>rw[bF];exact⟨ar,iN rfl⟩
 |jI l aA ar aJ=>rw[bF];exact⟨ar,bR (XN _ _) ar⟩
 |cf=>exact⟨iN rfl,bR wI (by decide)⟩
theorem XO{hp:Int}{bp af:List aI}{ws:List Int}{gs:List (List bb)}{rs:List Row}(h:Lay hp bp af ws gs rs):0<ws.length:=by
 cases h with
 |one=>exact xY
 |more=>erw[b4];exact jh _
inductive XQ(T:Tl)(S:cj)(gr:List bb)(bp aR:List aI)(cU:Nat)(L:Int)(last:Bool)(x0 x2 x3 x4 x5 x6 x10 x13:Option X)(vs:List V)(st:St):Prop where
 |mk (k t:Nat) (p:eg) (af:List aI) (ws:List Int) (gs:List (List bb)) (rs:List Row) (x14:Option X) (ay:vs=(uB k (cU-k)).map fun i=>V.int (i:Nat)) (au:(k=0∧af=bp∧ws=[]∧gs=[]∧rs=[])∨Lay S.hp bp af ws gs rs) (ai:k≤cU) (g4:af.length≤2+5*k) (ji:ws.length=k) (qB:gs.length≤k) (qC:rs.length≤2*k) (hp:fc (13*(cU-k)) p)
  (bo:st=⟨rC x0 x2 x3 x4 x5 x6 x10 x13 x14 T.ay aR L last,av p S.cell (af.map enc) (ws.map .int) (gs.map lE) (rs.map eM) (dj T) (gr.map b7) [],t,0⟩)
theorem XR{T:Tl}{S:cj}{gr:List bb}{bp aR:List aI}{cU:Nat}{p:eg}{L:Int}{last:Bool}{x0 x3 x4 x5 x6 x10 x13 x14:Option X}(M:w7 T S gr bp aR cU)(fM:tU S)(cv:Num L)(aa:1≤cU)(b0:cU≤5)(hR:bp.length≤2)(hp:fc (13*cU) p):
  Wp w4 (bI (bu bl (n+6)) JO ⟨rC x0 (I (.v (.int (cU:Nat)))) x3 x4 x5 x6 x10 x13 x14 T.ay aR L last,av p S.cell (bp.map enc) [] [] [] (dj T) (gr.map b7) [],t,0⟩):=by
 refine gW (wy (i:=(cU:Nat)) (aP rfl) (cI.mpr ⟨decide_eq_true (r6 rfl),decide_eq_true (uD ‹_› rfl)⟩)) ?_;erw[show gM 0 ((cU:Nat):Int)=(uB 0 (cU-0)).map fun i=>V.int (i:Nat)from BQ (i:=0)];refine i5 (XQ T S gr bp aR cU L last x0 (I (.v (.int (cU:Nat)))) x3 x4 x5 x6 x10 x13) ?_ ?_ _ _ (.mk 0 t p bp [] [] [] x14 rfl (.inl ⟨rfl,rfl,rfl,rfl,rfl⟩) (fx _) hR rfl (bE _) (bE _) hp rfl)
 ·rintro v vs st ⟨k,t,p,af,ws,gs,rs,x14,ay,au,ai,g4,ji,qB,qC,hp,rfl⟩;cases hm:cU-k with
  |zero=>rw[hm]at ay;injections ay
  |succ m=>
  rw[hm]at ay;obtain⟨rfl,rfl⟩:=List.cons.inj ay;have mV:m=cU-(k+1):=by exact yf ‹_›
  have zM:k+1≤cU:=LX (rT (jh m) hm.symm);have po:∀c,c≤13→13*(cU-(k+1))+c≤13*(cU-k):=fun c ah=>by erw[hm,←mV];exact lQ ah _
  refine fun Q cR el=>⟨_,fD,?_⟩;refine ih (pT (aP rfl) a9) rfl rfl ?_
  rcases au with⟨rfl,rfl,rfl,rfl,rfl⟩|l
  ·refine Un rfl ?_;refine eA fun cF=>?_;obtain⟨o,aO,g1⟩:=Jp (n:=n+2) (t:=t) (m:=13*(cU-1)) (p:=p) (c:=S.cell) (nd:=af.map enc) (ws:=[]) (gs:=[]) (rs:=[]) (T:=T) (g:=gr.map b7) (hp.le (po 4 (by decide))) (by erw[bF];exact cz ‹_› rfl) (fx _);obtain⟨dp,fw,wv,t',tZ,hw⟩:=g1;have hf:=(w8 hw).n;refine cF ?_;refine oE (fo (bH (aP rfl) (bH (aP rfl) cW)) aO) ?_;refine gh (cR _ _ rfl (.mk 1 t' dp (af++fw) [wv] [] [] (I (.v (.int ((0:Nat):Int)))) (by erw[mV]) (.inr (.one hw)) (gI ‹_› ‹_›) (by erw[b4];exact kn ‹_› ‹_› rfl) rfl (fx _) (fx _) tZ ?_));erw[fy];rfl
  ·have zo:=ji▸XO l;refine iy (decide_eq_true (nN.mpr zo)) ?_;refine eA fun cF=>?_;obtain⟨o,aO,g1⟩:=Wh (n:=n+1) (t:=t) (m:=13*(cU-(k+1))+4) (p:=p) (S:=S) (nd:=af.map enc) (ws:=ws.map .int) (gs:=gs.map lE) (rs:=rs.map eM) (T:=T) (g:=gr.map b7) (hp.le (po 13 (bE _))) (by erw[bF];exact cz (bR ‹_› (lQ (qy _ (bR ‹_› ‹_›)) _)) rfl) (by erw[bF];exact cz (bR ‹_› (bR ‹_› ‹_›)) rfl) (by erw[bF];exact cz (bR ‹_› (qy _ (bR ‹_› ‹_›))) rfl);obtain⟨cL,dK,eN,rws,t1,rx,aK⟩:=g1;rw[bF,bF]at aK;have w9:=JP aK;obtain⟨cK,kB,g2⟩:=Jp (n:=n+2) (t:=t1) (m:=13*(cU-(k+1))) (p:=cL) (c:=S.cell) (nd:=af.map enc++dK.map enc) (ws:=ws.map .int) (gs:=gs.map lE++[.lst (eN.map b7)]) (rs:=rs.map eM++rws.map eM) (T:=T) (g:=gr.map b7) rx (by erw[b4,bF,bF];exact kn (bR g4 (lQ (qy 5 (bR ai b0)) 2)) w9.1 rfl) (by erw[bF];exact cz (bR (eQ ji) (bR ai b0)) rfl);obtain⟨dp,fw,wv,t',tZ,hw⟩:=g2;have hf:=(w8 hw).n;refine cF ?_;refine oE (fo (bH (aP rfl) (bH (aP rfl) (bH (aP rfl) cW))) aO) ?_;refine oE (fo (bH (aP rfl) (bH (aP rfl) cW)) kB) ?_;refine gh (cR _ _ rfl (.mk (k+1) t' dp ((af++dK)++fw) (ws++[wv]) (gs++[eN]) (rs++rws) (I (.v (.int (k:Nat)))) (by erw[mV]) (.inr (.more l aK hw)) zM (by erw[b4,b4];exact show _≤((2+5*k)+2)+3 from nK (nK g4 w9.1) hf) (by erw[b4,ji];rfl) (by erw[b4];exact je qB) (by erw[b4];exact nK qC w9.2) tZ ?_));simp only[fy];rfl
 ·rintro st ⟨k,t,p,af,ws,gs,rs,x14,ay,au,ai,g4,ji,qB,qC,hp,rfl⟩;cases hm:cU-k with
  |succ m=>rw[hm]at ay;injections ay
  |zero=>
  have ai:k=cU:=rU ai (Nat.le_of_sub_eq_zero hm)
  rcases au with⟨rfl,_⟩|l
  ·exact absurd (show 1≤0 from ai▸aa) (by decide)
  ·exact XI M l (ji.trans ai) fM cv (cz (bR g4 (lQ (qy 5 (ai▸b0)) 2)) rfl)
end
section
variable{n t:Nat}{h:List Cell}
inductive XS(h:List Cell)(t:Nat)(x0:Option X)(vs:List V)(st:St):Prop where
 |mk (r:List Int) (a:Int) (x2 x3 x4 x5 x6:Option X) (ay:vs=r.map .int) (au:st=⟨[x0,I (.v (.int a)),x2,x3,x4,x5,x6],h,t,h.length⟩)
theorem XT{lo:List (Option X)}{xs:List V}:Out true h (.cell h.length,h++[.lst xs],t) (.ret (.cell h.length)) ⟨lo,h++[.lst xs],t,h.length⟩:=by refine⟨tI,?_⟩;show(if h.length≤h.length then((h++[Cell.lst xs])[h.length]?).bind _ else J)=_;erw[if_pos (bE _),show(h++[Cell.lst xs])[h.length]? =_ from tE];show I (X.cell h.length,(h++[Cell.lst xs]).take h.length++[Cell.lst xs],t)=_;erw[r0]
theorem w'{C:Calls}{st:St}{k:Int}(h:0≤k∧k≤400):aj C (.bin .pow (.const (.int 10)) (.const (.int k))) st=I (.v (.int (10^k.toNat)),st):=j2 a9 a9 rfl rfl (if_pos ⟨h.1,h.2,by decide,by decide⟩)
theorem B4{k:Nat}:¬(10:Int)^k=0:=Int.ne_of_gt (Int.pow_pos (by decide))
theorem XU{ns:List Int}(aA:ns.length≤1000):∃o,bu bl (n+1) 38 [.v (.lst (ns.map .int))] h t h.length=I o∧∃a,o=(.cell h.length,h++[eE ⟨a,0⟩],t):=by
 have hf:fit (ns.map V.int).length=true:=fZ (by assumption) (by first|decide|lia)
 subst_eqs
 iterate fail
 refine gW (hj (vs:=(ns.take 24).map .int) (Uc (aP rfl) rfl hf) (by erw[List.map_take];rfl) (dO (by erw[bF];exact cz (Z' ..) rfl))) ?_;refine i5 (XS h t _) ?_ ?_ _ _ (.mk (ns.take 24) 0 _ _ _ _ _ rfl rfl)
 ·rintro v vs st ⟨r,a,x2,x3,x4,x5,x6,ay,rfl⟩
  induction r using bY with
  |nil=>injections ay
  |cons i r=>
  obtain⟨rfl,rfl⟩:=List.cons.inj ay;refine fun Q cR el=>⟨_,fD,?_⟩;refine dT (fY (bH (aP rfl) cW) rfl) ?_;obtain⟨d,hd⟩:∃d,U (((i.natAbs:Nat):Int)<10^Int.toNat 18)=d:=⟨_,rfl⟩
  have dQ:∀{C:Calls} {st:St},st.loc[3]? =I (I (.v (.int (i.natAbs:Nat))))→aj C (.cmp (.loc 3) .lt (.bin .pow (.const (.int 10)) (.const (.int 18)))) st=I (.v (.bool d),st):=fun h=>by erw[←hd];exact wq (aP h) (w' (by decide))
  refine ih (dQ rfl) rfl rfl ?_;refine n4 (fun aa=>?_) fun aa=>?_
  ·have jY:((i.natAbs:Nat):Int)<1000000000000000000:=by subst aa;have:=of_decide_eq_true hd;rw[show Int.toNat 18=18 from rfl]at this;exact‹_›
   have nv:∀b:Int,(small (2*((i.natAbs:Nat):Int)+1+(if U (i<0)=true then 1 else 0))||small b)=true:=fun b=>by have ae:∀e:Int,0≤e→e≤1→small (2*((i.natAbs:Nat):Int)+1+e)=true:=fun e a b=>j3 (by lia) (by lia);exact ZX.mpr (.inl (Tactic.eT (motive:=fun e=>small (2*((i.natAbs:Nat):Int)+1+e)=true) (fun ag=>ae 1 (by decide) (by decide)) fun ag=>ae 0 (by decide) (by decide)))
   refine dT (wk (oD (ng (ng (oD a9 (aP rfl) rfl) a9) (fY (bH (wq (aP rfl) a9) cW) rfl)) a9 (nv _)) (w' (by decide)) B4) ?_;refine dT (wk (ng (oD (aP rfl) a9 (by erw[j3 (a:=1000003) (by decide) (by decide),xS])) (aP rfl)) (w' (by decide)) B4) ?_;exact gh (cR _ _ rfl (.mk r _ _ _ _ _ _ rfl rfl))
  ·refine dT (wk (ng (oD (aP rfl) a9 (by erw[j3 (a:=1000003) (by decide) (by decide),xS])) (aP rfl)) (w' (by decide)) B4) ?_;exact gh (cR _ _ rfl (.mk r _ _ _ _ _ _ rfl rfl))
 ·rintro st ⟨r,a,x2,x3,x4,x5,x6,ay,rfl⟩;exact hX (nh (bA (aP rfl) (bA a9 di)) rfl) ⟨_,XT,a,rfl⟩
end
section
variable{n t:Nat}{h:List Cell}
structure t6(T:Tl)(S:cj)(bp aR:List aI)(cU:Nat):Prop where
 dn:36≤T.z
 ia:T.z≤75
 m0:200≤T.most
 hQ:T.most≤12000
 x0:0≤T.x
 c2:T.x≤20
 fQ:tU S
 eI:∃t7,mz T.eI t7∧bp=t7.reverse
 ay:mz T.ay aR
 ad:S.cu≠0→T.eI=[⟨0,6,1,0⟩]∧T.ay=[⟨0,6,1,0⟩]
 ky:1≤cU
 JQ:cU≤5
noncomputable def qd(T:Tl)(S:cj):List bb:=[⟨0,T.x,0,0⟩,S.ls,S.rs]
theorem qe{gs:List bb}{af:List aI}(h:mz gs af):af.length≤2:=by cases h<;>exact iN rfl
noncomputable def JR(q:Int×Int):V:=.tup [.int q.1,.int q.2]
noncomputable def XW(q:Int×Bool):V:=.tup [.int q.1,.bool q.2]
noncomputable def JS:List (Int×Int):=[(0,0),(1,1),(0,1),(1,1),(2,1),(0,2)]
noncomputable def t8:List (Int×Bool):=[(0,true),(1,true),(0,false),(1,false),(2,true),(0,false),(-1,true),(-1,false)]
set_option maxHeartbeats 2000000 in
theorem XX(ib:∀T S bp aR cU,t6 T S bp aR cU→w7 T S (qd T S) bp aR cU){ns:List Int}(aA:ns.length≤1000):∃o,bu bl (n+7) 54 [.v (.lst (ns.map .int))] [] t 0=I o∧∃h t,o=(.v (.bool true),h,t):=by
 show∃o,bu bl (n+7) 54 [.v (.lst (ns.map .int))] [] t ([]:List Cell).length=I o∧∃h t,o=(.v (.bool true),h,t)
 refine VR (np:=1) (ns:=25) (df:=[]) (rc:=false) (lo:=[I (.v (.lst (ns.map .int))),J,J,J,J,J,J,J,J,J,J,J,J,J,J,J,J,J,J,J,J,J,J,J,J]) (by conv=>(lhs;reduce)) Xy rfl rfl ?_;obtain⟨o,aO,a,rfl⟩:=XU (n:=n+5) (t:=t) (h:=[]) aA;refine dT (fo (bH (aP rfl) cW) aO) ?_;have hp:fc (65+6+6) ⟨a,0⟩:=⟨dZ 0,by show(0:Int)+((77:Nat):Int)≤4000000000000000000;decide⟩
 generalize (⟨a,0⟩:eg)=p at hp;have aa:=hp.bQ (k:=5);have ab:=aa.bQ (k:=40);have aq:=ab.bQ (k:=5);have ba:=aq.bQ (k:=3);have b0:=ba.bQ (k:=6);have gc:=jD (α:=Int) (Q:=fun x=>3≤x∧x≤5) (d:=0) (l:=[3,5,4,5,3]) (p:=p) (k:=5) (by decide) (by decide) (by decide);refine dT (p7 (n:=n+5) (hh:=[]) (f:=V.int) (d:=0) (l:=[3,5,4,5,3]) (k:=5) (m:=76) (hW (bA a9 (bA a9 (bA a9 (bA a9 (bA a9 di))))) rfl) rfl hp (by decide) (by decide)) ?_;generalize pick (0:Int) [3,5,4,5,3] (tk p 5)=JT at gc⊢;obtain⟨cU,rfl⟩:∃cU:Nat,JT=(cU:Int):=⟨JT.toNat,Dk (d0 (qq ‹_›) rfl)⟩
 have dn:=oM (p:=bQ p 5) (k:=40) (by decide);have ia:=oN (p:=bQ p 5) (k:=40) (by decide);have B5:=jD (α:=Int) (Q:=fun x=>200≤x∧x≤12000) (d:=0) (l:=[1000,10000,12000,200,10000]) (p:=bQ (bQ p 5) 40) (k:=5) (by decide) (by decide) (by decide);refine hk (bH (ng a9 (fo (bH (aP rfl) (bH a9 cW)) (ka (n:=n+5) (hh:=[]) aa (k:=40) (by decide) (by decide)))) (bH (p7 (n:=n+5) (hh:=[]) (f:=V.int) (d:=0) (l:=[1000,10000,12000,200,10000]) (k:=5) (m:=74) (hW (bA a9 (bA a9 (bA a9 (bA a9 (bA a9 di))))) rfl) rfl ab (by decide) (by decide)) cW)) (by iterate fail) ?_;generalize tk (bQ p 5) 40=z' at dn ia⊢;generalize pick (0:Int) [1000,10000,12000,200,10000] (tk (bQ (bQ p 5) 40) 5)=most at B5⊢;generalize bQ (bQ (bQ p 5) 40) 5=gK at aq ba b0⊢;have B6:=jD (α:=Int) (Q:=fun x=>0≤x∧x≤20) (d:=0) (l:=[0,0,20]) (p:=gK) (k:=3) (by decide) (by decide) (by decide);refine hk (bH (p7 (n:=n+5) (hh:=[]) (f:=V.int) (d:=0) (l:=[0,0,20]) (k:=3) (m:=73) (hW (bA a9 (bA a9 (bA a9 di))) rfl) rfl aq (by decide) (by decide)) (bH (p7 (n:=n+5) (hh:=[]) (f:=JR) (d:=(0,0)) (l:=JS) (k:=6) (m:=72) (hW (bA (eX (bA a9 (bA a9 di)) rfl) (bA (eX (bA a9 (bA a9 di)) rfl) (bA (eX (bA a9 (bA a9 di)) rfl) (bA (eX (bA a9 (bA a9 di)) rfl) (bA (eX (bA a9 (bA a9 di)) rfl) (bA (eX (bA a9 (bA a9 di)) rfl) di)))))) rfl) rfl ba (by decide) (by decide)) cW)) (by iterate fail) ?_;generalize pick (0:Int) [0,0,20] (tk gK 3)=x at B6⊢;generalize pick ((0,0):Int×Int) JS (tk (bQ gK 3) 6)=XY;generalize bQ (bQ gK 3) 6=qD at b0⊢;obtain⟨i,j⟩:=XY;obtain⟨o,aO,g⟩:=V5 (n:=n+1) (m:=66) (p:=qD) (ends:=U ([i,j]=[1,1])) (t:=t) b0;obtain⟨nW,S,d2,fM,aB⟩:=g;refine dT (fo (bH (aP rfl) (bH (hV (aP rfl) (eX (bA a9 (bA a9 di)) rfl) rfl) cW)) aO) ?_;have B7:=jD (α:=Int×Bool) (Q:=fun q=> -2≤q.1∧q.1≤2) (d:=(0,true)) (l:=t8) (p:=nW) (k:=8) (by decide) (by decide) (by decide);have fk:=d2.bQ (k:=8);refine wB (vs:=[.int (pick ((0,true):Int×Bool) t8 (tk nW 8)).1,.bool (pick ((0,true):Int×Bool) t8 (tk nW 8)).2]) (p7 (n:=n+5) (hh:=[S.cell]) (f:=XW) (d:=(0,true)) (l:=t8) (k:=8) (m:=65) (hW (bA (eX (bA a9 (bA a9 di)) rfl) (bA (eX (bA a9 (bA a9 di)) rfl) (bA (eX (bA a9 (bA a9 di)) rfl) (bA (eX (bA a9 (bA a9 di)) rfl) (bA (eX (bA a9 (bA a9 di)) rfl) (bA (eX (bA a9 (bA a9 di)) rfl) (bA (eX (bA (wm a9) (bA a9 di)) rfl) (bA (eX (bA (wm a9) (bA a9 di)) rfl) di)))))))) rfl) rfl d2 (by decide) (by decide)) (by dsimp only[List.map];iterate fail) ?_;generalize pick ((0,true):Int×Bool) t8 (tk nW 8)=q at B7⊢;generalize bQ nW 8=iv at fk⊢;obtain⟨L,last⟩:=q;obtain⟨o,aO,g⟩:=Jm (n:=n+2) (i:=i) (h:=[eE iv,S.cell]) (t:=t);obtain⟨xa,cZ,t1,xb,zO⟩:=g;obtain⟨o,kB,g⟩:=Jm (n:=n+2) (i:=j) (h:=[eE iv,S.cell]) (t:=t1);obtain⟨xc,dt,e1,XZ,m3⟩:=g;refine hk (bH (fo (bH (hi (aP rfl) a9 rfl) cW) aO) (bH (fo (bH (hi (aP rfl) a9 rfl) cW) kB) cW)) (by iterate fail) ?_;have f1:fit (cZ.map enc).length=true:=dO (by erw[bF];exact cz (qe xb) rfl);obtain⟨T,d'⟩:∃T:Tl,T=⟨36+z',most,x,xa,xc⟩:=⟨_,rfl⟩
 refine dT (x:=.cell 6) (h:=[eE iv,S.cell,.lst (cZ.reverse.map enc),.lst [],.lst [],.lst [],.e9 [(54,.cell 2),(55,.cell 3),(56,.cell 4),(27,.cell 5),(57,.v (.tup [.lst (xa.map b7),.lst (xc.map b7)])),(58,.v (.int (36+z'))),(46,.cell 1)]]) (Uh (h:=[eE iv,S.cell,.lst (cZ.reverse.map enc),.lst [],.lst [],.lst []]) (bH (x:=.cell 2) (by erw[iu];exact Ug (h:=[eE iv,S.cell]) (hi (aP rfl) a9 rfl) rfl f1) (bH (x:=.cell 3) (nh (h:=[eE iv,S.cell,.lst (cZ.reverse.map enc)]) di rfl) (bH (x:=.cell 4) (nh (h:=[eE iv,S.cell,.lst (cZ.reverse.map enc),.lst []]) di rfl) (bH (x:=.cell 5) (nh (h:=[eE iv,S.cell,.lst (cZ.reverse.map enc),.lst [],.lst []]) di rfl) (bH (eX (bA (hi (aP rfl) a9 rfl) (bA (hi (aP rfl) a9 rfl) di)) rfl) (bH (aP rfl) (bH (aP rfl) cW))))))) rfl) ?_;refine hk (l:=[.v (.int most),.v (.int x),.cell 7]) (bH (aP rfl) (bH (aP rfl) (bH (nh (h:=[eE iv,S.cell,.lst (cZ.reverse.map enc),.lst [],.lst [],.lst [],.e9 [(54,.cell 2),(55,.cell 3),(56,.cell 4),(27,.cell 5),(57,.v (.tup [.lst (xa.map b7),.lst (xc.map b7)])),(58,.v (.int (36+z'))),(46,.cell 1)]]) (bA (eX (bA a9 (bA (aP rfl) (bA a9 (bA a9 di)))) rfl) di) rfl) cW))) (st2:=⟨_,av iv S.cell (cZ.reverse.map enc) [] [] [] (dj T) [b7 ⟨0,x,0,0⟩] [],e1,0⟩) (by subst d';exact A' (aP rfl) a9 rfl rfl (A' (aP rfl) a9 rfl rfl (A' (aP rfl) a9 rfl rfl rl))) ?_;refine gW (hj (vs:=[iG S.ls,iG S.rs]) (eX (bA (tD (aP rfl) rfl rfl) (bA (tD (aP rfl) rfl rfl) di)) rfl) rfl rfl) ?_;refine pX fD ?_;refine iJ (hh':=av iv S.cell (cZ.reverse.map enc) [] [] [] (dj T) [b7 ⟨0,x,0,0⟩,b7 S.ls] []) (gy (aP rfl) a9 rfl rfl) rfl (eX (bA (hg (aP rfl) rfl) (bA (hg (aP rfl) rfl) (bA (hg (aP rfl) rfl) (bA (hg (aP rfl) rfl) di)))) rfl) rfl rfl rfl ?_;refine gh ⟨rfl,pX fD ?_⟩;refine iJ (hh':=av iv S.cell (cZ.reverse.map enc) [] [] [] (dj T) [b7 ⟨0,x,0,0⟩,b7 S.ls,b7 S.rs] []) (gy (aP rfl) a9 rfl rfl) rfl (eX (bA (hg (aP rfl) rfl) (bA (hg (aP rfl) rfl) (bA (hg (aP rfl) rfl) (bA (hg (aP rfl) rfl) di)))) rfl) rfl rfl rfl ?_;refine gh ⟨rfl,pW ?_⟩;have dH:1≤cU:=nL.mp (c0 (by decide:1≤(3:Int)) gc.1);have mj:cU≤5:=nL.mp gc.2;have M:=ib T S cZ.reverse dt cU (by
  subst d';refine⟨CT dn,ZS (Int.le_sub_one_of_lt ia) 36,B5.1,B5.2,B6.1,B6.2,fM,⟨cZ,xb,rfl⟩,XZ,fun ax=>?_,dH,mj⟩;have:U ([i,j]=[1,1])=true:=by
   cases hd:U ([i,j]=[1,1])with
   |true=>rfl
   |false=>exact absurd (aB hd) ax
  have:=of_decide_eq_true this
  injection this with aa ab
  injection ab with ab
  exact⟨zO aa,m3 ab⟩)
 have aC:T.x=x:=by erw[d']
 have he:T.ay=xc:=by erw[d']
 have:=XR (n:=n) (t:=e1) (p:=iv) (L:=L) (last:=last) (x0:=I (.v (.lst (ns.map .int)))) (x3:=I (.v (.int (36+z')))) (x4:=I (.v (.int most))) (x5:=I (.v (.int x))) (x6:=I (.v (JR (i,j)))) (x10:=I (.v (.tup [.lst (xa.map b7),.lst (cZ.map enc)]))) (x13:=I (.v (iG S.rs))) (x14:=J) M fM ⟨d0 B7.1 rfl,d3 B7.2 rfl⟩ dH mj (by erw[ff];exact qe xb) (fk.le (qy 13 mj));unfold qd at this;replace this:=he▸(aC▸this);exact this
end
end Tactic.L
end
section
open PySem PySem.W
namespace Tactic.L
def lG(it:aI):c3:=j6 dn it
def cp(l:List aI)(c:Nat):Int:=(l.map fun it=>lG it c).sum
def fR(g:bb):c3:=i0 dn g
def cO(l:List bb)(c:Nat):Int:=(l.map fun g=>fR g c).sum
theorem hq(v:c3)(k:Nat)(s:Int)(c:Nat):upd v k s c=v c+(if c=k then s else 0):=by unfold upd;split<;>lia
theorem qf(g:bb)(c:Nat):fR g c=(if c=0 then g.w else 0)+(if c=1+g.o.toNat then g.s else 0)+(if c=5 then g.k else 0):=by
 delta fR i0;rw[hq,hq,hq];show 0+_+_+_=_
 lia
theorem nC(v:c3)(g:bb)(c:Nat):i0 v g c=v c+fR g c:=by
 rw[qf];unfold i0;rw[hq,hq,hq]
 lia
theorem X0(v:c3)(it:aI)(c:Nat):j6 v it c=v c+lG it c:=by
 have h:∀s:Int,upd v 0 s c=v c+upd dn 0 s c:=fun s=>by
  rw[hq,hq];show _=_+(0+_)
  lia
 cases it with
 |skip t g=>exact nC v g c
 |_=>exact h _
theorem X1:∀(l:List aI) (v:c3) (c:Nat),l.foldl j6 v c=v c+cp l c:=by
 intro aT
 induction aT with
 |nil=>intro v c;exact(eP _).symm
 |cons it r aD=>intro v c;show r.foldl j6 (j6 v it) c=v c+(lG it c+cp r c);rw[aD,X0];exact qx _ _ _
theorem rD(af:List aI)(k c:Nat):Sum af k c=cp (af.take k) c:=by unfold Sum;rw[X1];exact km _
theorem nD(a b:List aI)(c:Nat):cp (a++b) c=cp a c+cp b c:=by unfold cp;erw[fy,C0]
theorem kP(a:aI)(b:List aI)(c:Nat):cp (a::b) c=lG a c+cp b c:=rfl
theorem nE(a b:List bb)(c:Nat):cO (a++b) c=cO a c+cO b c:=by unfold cO;erw[fy,C0]
theorem lH(a:bb)(b:List bb)(c:Nat):cO (a::b) c=fR a c+cO b c:=rfl
theorem JU:∀(l:List aI) (c:Nat),cp l.reverse c=cp l c:=by
 intro aT
 induction aT with
 |nil=>intro _;exact rfl
 |cons a r aD=>
  intro c;erw[mF,nD,aD,kP];show cp r c+(lG a c+0)=lG a c+cp r c
  lia
theorem X2(T:Tl)(S:cj)(c:Nat):eL S T.x c=cO [⟨0,T.x,0,0⟩,S.ls,S.rs] c:=by
 unfold eL;erw[hq,nC,nC,lH,lH,lH,qf ⟨0,T.x,0,0⟩];show 0+_+_+(if c=1 then T.x else 0)=(if c=0 then(0:Int)else 0)+(if c=1+0 then T.x else 0)+(if c=5 then 0 else 0)+(_+(_+0));have ay:(if c=0 then(0:Int)else 0)=0:=by refine Tactic.eT (fun h=>?_) (fun h=>?_)<;>rfl
 have au:(if c=5 then(0:Int)else 0)=0:=by refine Tactic.eT (fun h=>?_) (fun h=>?_)<;>rfl
 erw[ay,au]
 lia
structure X3(l:List bb):Prop where
 w:(l.map (·.w)).sum=cO l 0
 k:(l.map (·.k)).sum=cO l 5
 f:((l.filter fun g=>decide (g.o=0)).map (·.s)).sum=cO l 1
 h:((l.filter fun g=>decide (g.o>0)).map (·.s)).sum=cO l 2+cO l 3+cO l 4
 ck:0≤cO l 2
 gK:0≤cO l 3
 hL:0≤cO l 4
 cL:0≤cO l 1
 qD:0≤cO l 5
theorem xd{g:bb}{c:Nat}(h0:¬c=0)(b0:¬c=5):fR g c=if c=1+g.o.toNat then g.s else 0:=by erw[qf,if_neg h0,if_neg b0,km,eP]
theorem JV{g:bb}:fR g 0=g.w:=by erw[qf,if_pos rfl,if_neg (by lia),if_neg (by decide),eP,eP]
theorem B8{g:bb}(o:g.o≤3):fR g 5=g.k:=by erw[qf,if_neg (by decide),if_neg (by lia),if_pos rfl,km,km]
theorem B9{l:List bb}{f:bb→Int}{c:Nat}(h:∀g,g∈l→f g=fR g c):(l.map f).sum=cO l c:=congrArg List.sum (nP h)
theorem JW{p:bb→Bool}{f:bb→Int}:∀l:List bb,((l.filter p).map f).sum=(l.map fun g=>bif p g then f g else 0).sum:=by
 intro aT
 induction aT with
 |nil=>exact rfl
 |cons g r aD=>
  erw[xX,g0,xN,←aD];cases p g
  ·exact(km _).symm
  ·rfl
theorem X4:∀l:List bb,(l.map fun g=>fR g 2+fR g 3+fR g 4).sum=cO l 2+cO l 3+cO l 4:=by
 intro aT
 induction aT with
 |nil=>exact rfl
 |cons g r aD=>erw[g0,xN,aD,lH,lH,lH];lia
theorem xe{c:Nat}(h0:¬c=0)(b0:¬c=5):∀{l:List bb},(∀g,g∈l→oS g)→0≤cO l c:=by
 intro aT
 induction aT with
 |nil=>intro _;exact dZ _
 |cons g r aD=>
  intro h;erw[lH,xd h0 b0];refine r2 ?_ (aD fun x aC=>h x (.tail _ aC))
  split
  ·exact(h g (.head _)).s0
  ·exact dZ _
theorem X5:∀{l:List bb},(∀g,g∈l→oS g)→0≤cO l 5:=by
 intro aT
 induction aT with
 |nil=>intro _;exact dZ _
 |cons g r aD=>intro h;erw[lH,B8 (h g (.head _)).a0];exact r2 (h g (.head _)).kb (aD fun x aC=>h x (.tail _ aC))
theorem X6{o:Int}(h0:0≤o)(aa:o≤3):o=0∨o=1∨o=2∨o=3:=by lia
theorem B'{l:List bb}(h:∀g,g∈l→oS g):X3 l:=by
 refine⟨B9 fun g aK=>JV.symm,B9 fun g aK=>(B8 (h g aK).a0).symm,(JW l).trans (B9 fun g aK=>?_),(JW l).trans (Eq.trans (congrArg List.sum (nP fun g aK=>?_)) (X4 l)),xe (by decide) (by decide) h,xe (by decide) (by decide) h,xe (by decide) (by decide) h,xe (by decide) (by decide) h,X5 h⟩
 all_goals
  erw[xd (by decide) (by decide)]
  try erw[xd (by decide) (by decide),xd (by decide) (by decide)]
  have o0:=(h g aK).o0;have a0:=(h g aK).a0;generalize g.s=s;generalize g.o=o at o0 a0⊢
  rcases X6 o0 a0 with rfl|rfl|rfl|rfl
 ·rfl
 ·rfl
 ·rfl
 ·rfl
 ·rfl
 ·exact((eP _).trans (eP _)).symm
 ·exact((eP _).trans (km _)).symm
 ·exact(km _).symm
theorem X7{a b c:Int}(aB:0≤a)(ae:0≤b)(ah:0≤c):(!U (a=0)||(!U (b=0)|| !U (c=0)))=U (a+b+c>0):=by erw[←decide_not,←decide_not,←decide_not,←Bool.decide_or,←Bool.decide_or];exact decide_eq_decide.mpr ⟨fun h=>by lia,fun h=>by lia⟩
theorem X8{b:Int}{p:Bool}:(bif p then((0,2):Int×Int)else bif U (b≤12)then(b,2)else(b,bif U (b≤99)then 1 else 0))=bif p then(0,2)else bif U (b>99)then(b,0)else(b,bif U (b>12)then 1 else 2):=by
 cases p
 ·refine bZ (fun c:b≤12=>?_) (fun c=>?_)
  ·erw[decide_eq_true c,decide_eq_false (ez.mpr c),decide_eq_false (ez.mpr (c0 c (by decide)))];rfl
  ·erw[decide_eq_false c,decide_eq_true (show b>12 from o2.mp c)];refine bZ (fun fW:b≤99=>?_) (fun fW=>?_)
   ·erw[decide_eq_true fW,decide_eq_false (ez.mpr fW)];rfl
   ·erw[decide_eq_false fW,decide_eq_true (show b>99 from o2.mp fW)];rfl
 ·rfl
theorem X9{b:Int}{n:Bool}{y:Int}(h:¬b≤12→n=true):(bif U (b≤12)then((b,2):Int×Int)else(b,bif n then 3 else y))=(b,bif U (b>12)then 3 else 2):=by
 refine bZ (fun c:b≤12=>?_) (fun c=>?_)
 ·erw[decide_eq_true c,decide_eq_false (ez.mpr c)];rfl
 ·erw[decide_eq_false c,decide_eq_true (show b>12 from o2.mp c),h c];rfl
theorem X'{z:Int}{l:List bb}(h:∀g,g∈l→oS g):ip z l=e8 z (cO l):=by
 obtain⟨cZ,dt,gw,lu,tq,Yb,Yc,abg,Yd⟩:=B' h;delta ip;erw[cZ,dt,gw,lu];delta hz e8;erw[show nt (cO l)=_ from X7 tq Yb Yc];generalize cO l 2+cO l 3+cO l 4=H;generalize cO l 5=K at Yd⊢;generalize cO l 1=F;generalize z-cO l 0=s;refine bZ (fun ef:s>0=>?_) (fun ef=>?_)
 ·erw[decide_eq_true ef,decide_eq_false (show¬s< -K by lia),decide_eq_false (show¬s<0 by lia),show(s.natAbs:Int)=s by exact Dj ‹_›];exact X8
 ·erw[decide_eq_false ef,show(s.natAbs:Int)= -s from Lu (ez.mp ef)];refine bZ (fun e6:s< -K=>?_) (fun e6=>?_)
  ·erw[decide_eq_true e6,decide_eq_true (show-s>K by lia)];rfl
  ·erw[decide_eq_false e6,decide_eq_false (show¬ -s>K by exact Mf ‹_›)];refine X9 fun fW=>decide_eq_true ?_;refine eF (Int.lt_or_eq_of_le (ez.mp ef)) (fun h=>?_) (fun h=>?_)
   ·exact h
   ·subst h;exact absurd (by decide:(0:Int)≤12) fW
noncomputable def oV(b:Bool):List aI→Bool
 |[]=>b
 |it::r=>oV (!fp it) r
theorem nF{hp:Int}:∀(a b:List aI) (i:Nat) (bh:Bool),eK hp i bh (a++b)=eK hp i bh a++eK hp (i+a.length) (oV bh a) b:=by
 intro aT
 induction aT with
 |nil=>intro b i bh;exact rfl
 |cons it r aD=>intro b i bh;show brk hp bh i it++eK hp (i+1) (!fp it) (r++b)=(brk hp bh i it++eK hp (i+1) (!fp it) r)++eK hp (i+(r.length+1)) (oV (!fp it) r) b;erw[aD b,eR,show i+1+r.length=i+(r.length+1)from LF ..]
theorem JX:∀(a b:List aI) (x:Bool),oV x (a++b)=oV (oV x a) b:=by
 intro aT
 induction aT with
 |nil=>intro _ _;exact rfl
 |cons it r aD=>intro b x;exact aD b _
structure JY(l:List aI):Prop where
 kd:∀hp i bh,eK hp i bh l=[]
 bh:∀b,oV b l=true
theorem JZ{l:List aI}{w:Int}(h:kM l w):JY l:=by cases h<;>exact⟨fun ag ag ag=>rfl,fun ag=>rfl⟩
theorem J0{l:List aI}{w:Int}(h:kM l w):JY l.reverse:=by cases h<;>exact⟨fun ag ag ag=>rfl,fun ag=>rfl⟩
theorem J1{gs:List bb}{l:List aI}(h:mz gs l)(hp:Int)(i:Nat)(bh:Bool):eK hp i bh l=[]:=by cases h<;>rfl
theorem J2{gs:List bb}{l:List aI}(h:mz gs l)(hp:Int)(i:Nat):eK hp i false l.reverse=[]:=by cases h<;>rfl
def rE(r:Row):Nat×Int×Int:=(r.first,gF r.b9,bif r.cf then 1 else 0)
def qg(q e:Nat)(r:Row):Nat×Int×Int:=(q+(e-1-r.last),gF r.b9,bif r.cf then 1 else 0)
theorem J3{α:Type}{b:Bool}{x:α}:(one b x).reverse=one b x:=by cases b<;>rfl
theorem rF{gi gs len k:Nat}{x:Nat×Int}{r:List (Nat×Int)}:jG gi gs len k (x::r)=one (U (x.2<10000)) ⟨gi,k,k,gs,gs+len,x.2,false,0,0⟩++jG gi gs len (k+1) r:=rfl
theorem Ye{hp:Int}{gi gs len:Nat}:∀(l:List (Nat×Int)) (k:Nat) (bh:Bool),eK hp k bh (l.map jF)=(jG gi gs len k l).map rE:=by
 intro aT
 induction aT with
 |nil=>intro _ _;exact rfl
 |cons x r aD=>intro k bh;show one (U (x.2<10000)) (k,gF x.2,0)++eK hp (k+1) false (r.map jF)=_;erw[rF,fy,tY,aD];rfl
theorem Yg{hp:Int}{gi gs len:Nat}:∀(l:List (Nat×Int)) (k q:Nat) (bh:Bool),eK hp q bh (l.map jF).reverse=(jG gi gs len k l).reverse.map (qg q (k+l.length)):=by
 intro aT
 induction aT with
 |nil=>intro _ _ _;exact rfl
 |cons x r aD=>
  intro k q bh;erw[g0,mF,nF,aD (k+1) q bh];erw[rF,nT,J3,fy,tY,ff,bF,gA,show k+1+r.length=k+(r.length+1)from LF ..]
  congr 1
  show one (U (x.2<10000)) (q+r.length,gF x.2,0)++[]=one _ (q+(k+(r.length+1)-1-k),gF x.2,0);erw[ei,show k+(r.length+1)-1-k=r.length from ir k r.length]
structure J4(p e:Nat)(r:Row):Prop where
 gs:r.gs=p
 ge:r.ge=e
 f0:p≤r.first
 dB:r.first≤r.last
 aM:r.last<e
theorem qh{α:Type}{b:Bool}{x y:α}(h:y∈one b x):y=x:=by
 induction b using hK with
 |false=>exact nomatch h
 |true=>exact dY.mp h
theorem Yh{gi gs len:Nat}:∀(l:List (Nat×Int)) (k:Nat),gs≤k→k+l.length=gs+len→∀r,r∈jG gi gs len k l→J4 gs (gs+len) r:=by
 intro aT
 induction aT with
 |nil=>intro _ _ _ r h;exact nomatch h
 |cons x l aD=>
  intro k aa ab r h;rw[rF]at h;refine eF (dR.mp h) (fun h=>?_) (fun h=>?_)
  ·erw[qh h];exact⟨rfl,rfl,aa,bE _,rT (qw (jh _)) ab⟩
  ·exact aD (k+1) (rM aa) ((iO k 1 _).trans ab) r h
theorem Yi{hp:Int}{gi p:Nat}{dK:List aI}{eN:List bb}{rw:List Row}(h:jH hp gi p dK eN rw):∀r,r∈rw→J4 p (p+dK.length) r:=by
 intro r av;cases h with
 |glue l aA ar aK=>have:0<l.length:=xZ.mpr aA;erw[dY.mp av,bF];exact⟨rfl,rfl,bE _,xJ (qw this),uC (ey this (Lr ..)) xY⟩
 |jI l aA ar aJ=>erw[bF];exact Yh l p (bE _) rfl r av
 |cf t a b m=>erw[qh av];exact⟨rfl,rfl,bE _,bE _,ki _⟩
structure Yj(hp:Int)(p:Nat)(dK:List aI)(rw:List Row):Prop where
 f:eK hp p true dK=rw.map rE
 r:∀q,eK hp q true dK.reverse=rw.reverse.map (qg q (p+dK.length))
theorem Yk{hp:Int}:∀(l:List (Nat×bb)) (i:Nat),eK hp i false (l.map lD)=[]:=by
 intro aT
 induction aT with
 |nil=>intro _;exact rfl
 |cons _ r aD=>intro i;exact aD (i+1)
theorem J5{hp:Int}{l:List (Nat×bb)}(aA:l≠[])(i:Nat):eK hp i true (l.map lD)=[(i,0,0)]:=by
 induction l using bY with
 |nil=>exact absurd rfl aA
 |cons x r=>exact congrArg (_:: ·) (Yk r (i+1))
theorem Yl{hp:Int}{gi p:Nat}{dK:List aI}{eN:List bb}{rw:List Row}(h:jH hp gi p dK eN rw):Yj hp p dK rw:=by
 cases h with
 |glue l aA ar aK=>refine⟨J5 aA p,fun q=>?_⟩;erw[←iu,J5 (fun h=>aA (aak.mp h)),bF];exact congrArg (fun k=>[(q+k,(0:Int),(0:Int))]) (kW _).symm
 |jI l aA ar aJ=>exact⟨Ye l p true,fun q=>by erw[bF];exact Yg l p q true⟩
 |cf t a b m=>
  refine⟨?_,fun q=>?_⟩
  ·erw[tY];exact ei _
  ·erw[J3,tY];show one _ (q,gF hp,(1:Int))++[]=one _ (q+(p-p),gF hp,(1:Int));erw[ei,kW];rfl
structure Ym(hp:Int)(af:List aI)(rs:List Row):Prop where
 f:eK hp 0 false af=rs.map rE
 b:oV false af=true
 r:∀i bh,eK hp i bh af.reverse=rs.reverse.map (qg i af.length)
 l:∀r,r∈rs→r.last<af.length
theorem Yn{i j n m l:Nat}(h:l<n)(hm:j+n=i+m)(aA:n≤m):j+(n-1-l)=i+(m-1-l):=by
 obtain⟨x,rfl⟩:=aal h;obtain⟨y,rfl⟩:=xP aA;rw[iO (l+x) 1 y]at hm⊢;rw[lS,ir,lS,rW l,ir]
 lia
theorem Ca{rs:List Row}{i j n m:Nat}(h:∀r,r∈rs→r.last<n)(hm:j+n=i+m)(aA:n≤m):rs.map (qg j n)=rs.map (qg i m):=by refine nP fun r av=>?_;unfold qg;erw[Yn (h r av) hm aA]
set_option tactic.hygienic true in
theorem Yo{hp:Int}{bp af:List aI}{ws:List Int}{gs:List (List bb)}{rs:List Row}(h:Lay hp bp af ws gs rs)(h0:∀i,eK hp i false bp=[])(aa:∀i bh,eK hp i bh bp.reverse=[]):Ym hp af rs:=by
 induction h with
 |one w=>
  have a:=JZ w;have b:=J0 w;refine⟨?_,?_,fun i bh=>?_,fun r h=>nomatch h⟩
  ·erw[nF,h0,a.kd];rfl
  ·erw[JX,a.bh]
  ·erw[nT,nF,b.kd,aa];rfl
 |more l g w aG=>
  rename_i af dK fw ws wv gs eN rs rw;have a:=JZ w;have b:=J0 w;have gl:=Yl g;have xf:=Yi g;refine⟨?_,?_,fun i bh=>?_,fun r av=>?_⟩
  ·erw[nF,nF,a.kd,aG.f,aG.b,nO,gl.f,ei,fy]
  ·erw[JX,a.bh]
  ·erw[nT,nT,nF,b.kd,b.bh,nF,gl.r,aG.r,nR,nT,fy];simp only[ff,b4];erw[Ca (rs:=rw.reverse) (i:=i) (m:=af.length+dK.length+fw.length) (fun r av=>(xf r (lU.mp av)).aM) (by lia) (f6 _ _)];erw[Ca (rs:=rs.reverse) (i:=i) (m:=af.length+dK.length+fw.length) (fun r av=>aG.l r (lU.mp av)) (by lia) (by lia)]
  ·simp only[b4];refine eF (dR.mp av) (fun av=>?_) (fun av=>?_)
   ·have:=aG.l r av;exact Mb ‹_›
   ·have:=(xf r av).aM;exact yb ‹_›
theorem Cb{a b:aI}(h:f5 a b):fp b=fp a:=by cases h<;>rfl
theorem Yp{a b:aI}(h:f5 a b)(hp:Int)(bh:Bool)(i:Nat):brk hp bh i b=brk hp bh i a:=by cases h<;>rfl
theorem Yq{a b:aI}(h:f5 a b)(c:Nat):lG b c=lG a c:=by
 cases h with
 |same=>rfl
 |cf t t' x y m=>show upd dn 0 (dU m.reverse) c=upd dn 0 (dU m) c;unfold dU;erw[iu,LY]
theorem Yr{hp:Int}{l m:List aI}(h:dm f5 l m):∀(i:Nat) (bh:Bool),eK hp i bh m=eK hp i bh l:=by
 induction h with
 |nil=>intro _ _;rfl
 |cons r _ aG=>intro i bh;erw[Bf,Bf];erw[Yp r,Cb r,aG]
theorem Ys{l m:List aI}(h:dm f5 l m):∀(k c:Nat),cp (m.take k) c=cp (l.take k) c:=by
 induction h with
 |nil=>intro _ _;rfl
 |cons r _ aG=>
  intro k c
  induction k using fe with
  |zero=>rfl
  |succ k=>erw[aam,aam,kP,kP,Yq r,aG]
inductive oW:List aI→Row→Prop where
 |glue (l:List (Nat×bb)) (r:Row) (aA:l≠[]) (f:r.first=r.gs) (gm:r.last+1=r.gs+l.length) (d:r.cf=false) (pr:r.pre=0) (po:r.post=0):oW (l.map lD) r
 |jI (l:List (Nat×Int)) (r:Row) (k:Nat) (ai:k<l.length) (f:r.first=r.gs+k) (gm:r.last=r.gs+k) (d:r.cf=false) (pr:r.pre=0) (po:r.post=0):oW (l.map jF) r
 |cf (t:Nat) (a b m:i7) (r:Row) (f:r.first=r.gs) (gm:r.last=r.gs) (d:r.cf=true) (pr:r.pre=dU a) (po:r.post=dU b):oW [.cf t a b m] r
inductive oX(af:List aI)(r:Row):Prop where
 |mk (pre gap post:List aI) (x y:aI) (e:af=((pre++[x])++gap)++(y::post)) (aC:fp x=false) (aV:fp y=false) (gs:r.gs=pre.length+1) (ge:r.ge=r.gs+gap.length) (k:oW gap r)
noncomputable def kQ(n:Nat)(r:Row):Row:=⟨r.g,n-1-r.last,n-1-r.first,n-r.ge,n-r.gs,r.b9,r.cf,r.post,r.pre⟩
theorem Cc{α β:Type}{R:α→β→Prop}:∀{a b:List α} {m:List β},dm R (a++b) m→∃gT b',m=gT++b'∧dm R a gT∧dm R b b':=by
 intro aT
 induction aT with
 |nil=>intro b m h;exact⟨[],m,rfl,.nil,h⟩
 |cons x a aD=>
  intro b m h;cases h with
  |cons r t=>obtain⟨gT,b',rfl,aa,ab⟩:=aD t;exact⟨_::gT,b',rfl,.cons r aa,ab⟩
theorem Yt{l m:List aI}(h:dm f5 l m):(∀x,x∈l→lB x=false)→m=l:=by
 induction h with
 |nil=>intro _;rfl
 |cons r _ aG=>
  intro hd;erw[aG fun x aC=>hd x (.tail _ aC)];cases r with
  |same=>rfl
  |cf=>cases hd _ (.head _)
theorem kd_len{gap:List aI}{r:Row}(h:oW gap r):r.gs≤r.first∧r.first≤r.last∧r.last<r.gs+gap.length:=by
 cases h with
 |glue l r aA f gm=>have:0<l.length:=xZ.mpr aA;erw[bF,←gm,f];exact⟨bE _,kf (rT (qw this) gm.symm),ki _⟩
 |jI l r k ai f gm=>erw[bF,f,gm];exact⟨f6 ..,bE _,ZT ai _⟩
 |cf t a b m r f gm=>erw[f,gm];exact⟨bE _,bE _,ki _⟩
theorem Cd{n l g:Nat}(h:l+1=g):n-1-l=n-g:=by erw[Nat.sub_sub,o3 1 l,h]
theorem Yu{n g f l:Nat}(h:f+l=g)(aK:g≤n)(ar:0<l):n-1-f+1=n-g+l:=by obtain⟨m,rfl⟩:=xP aK;obtain⟨j,rfl⟩:=mD.mpr ar;subst h;rw[ir,iO,←rW m];show f+m+j-f+1=_;rw[rW,ir]
theorem Yv{n g f l k:Nat}(h:f+l=g)(aK:g≤n)(ai:k<l):n-1-(f+k)=n-g+(l-1-k):=by obtain⟨m,rfl⟩:=xP aK;obtain⟨j,rfl⟩:=aal ai;subst h;rw[ir,lS,ir,iO];show f+m+(k+j)-(f+k)=_;rw[Nat.add_add_add_comm,ir]
theorem J6{l k:Nat}(ai:k<l):l-1-k<l:=gI (rY ..) (uC (gI (fx _) ai) xY)
theorem Yw{X G P:Nat}:X+G+P-X=X+G+P-(X+G)+G:=by rw[ir,rW,ir,o3]
theorem J7(l:i7):dU l.reverse=dU l:=by unfold dU;erw[iu,LY]
theorem J8{α:Type}{f:α→aI}{l:List α}{m:List aI}(h:dm f5 (l.map f).reverse m)(hd:∀x,lB (f x)=false):m=l.reverse.map f:=by rw[←iu]at h;exact Yt h fun x aC=>by obtain⟨q,_,rfl⟩:=f9.mp aC;exact hd q
theorem Yx{gap Ce:List aI}{r:Row}{n:Nat}(h:oW gap r)(m:dm f5 gap.reverse Ce)(aA:r.gs+gap.length=r.ge)(ar:r.ge≤n):oW Ce (kQ n r):=by
 cases h with
 |glue l r gg f gm d pr po=>rw[bF]at aA;erw[J8 m fun ag=>rfl];exact .glue _ _ (fun h=>gg (aak.mp h)) (Cd (gm.trans aA)) (by erw[ff];exact Yu (by erw[f];exact aA) ar (xZ.mpr gg)) d po pr
 |jI l r k ai f gm d pr po=>
  rw[bF]at aA;erw[J8 m fun ag=>rfl];have e:n-1-(r.gs+k)=n-r.ge+(l.length-1-k):=Yv aA ar ai;refine .jI _ _ (l.length-1-k) ?_ ?_ ?_ d po pr
  ·erw[ff];exact J6 ai
  ·show n-1-r.last=_;erw[gm];exact e
  ·show n-1-r.first=_;erw[f];exact e
 |cf t a b fG r f gm d pr po=>
  have aA:r.gs+1=r.ge:=aA;have m:dm f5 [aI.cf t a b fG] Ce:=m;cases m with
  |cons q t9=>
   cases t9;cases q with
   |same _ h=>injections h
   |cf _ t'=>exact .cf _ _ _ _ _ (Cd (by erw[gm];exact aA)) (Cd (by erw[f];exact aA)) d (po.trans (J7 _).symm) (pr.trans (J7 _).symm)
set_option tactic.hygienic true in
theorem Yy{af a6:List aI}{r:Row}(h:oX af r)(m:dm f5 af.reverse a6):oX a6 (kQ af.length r):=by
 obtain⟨pre,gap,post,x,y,rfl,aC,aV,gs,ge,k⟩:=h;have ar:(((pre++[x])++gap)++(y::post)).length=pre.length+1+gap.length+(post.length+1):=by simp only[b4,gA,CV]
 replace m:=mF▸(nT▸(nT▸(nT▸m)));obtain⟨gT,b',rfl,hQ,ma⟩:=Cc m;obtain⟨ot,dr,rfl,J9,Cf⟩:=Cc ma;obtain⟨dp,gu,rfl,Yz,YA⟩:=Cc hQ;have Cf:dm f5 (x::pre.reverse) dr:=Cf;cases Cf with
 |cons ct lW=>
 rename_i pF YB;cases YA with
 |cons dP pb=>
 rename_i zg _;cases pb;have aM:=Yz.length;have bt:=J9.length;rw[ff]at aM bt;erw[ar];have q9:r.ge≤pre.length+1+gap.length+(post.length+1):=by erw[ge,gs];exact f6 ..
 refine .mk dp ot YB zg pF (by simp only[eR,xO,nR]) ((Cb dP).trans aV) ((Cb ct).trans aC) ?_ ?_ (Yx k J9 ge.symm q9)
 ·show pre.length+1+gap.length+(post.length+1)-r.ge=_;erw[ge,gs,ir,aM]
 ·show _-r.gs=_-r.ge+_;erw[ge,gs,bt];exact Yw
theorem J'{y:aI}{post:List aI}(aV:fp y=false):∀l:List aI,(∀x,x∈l→fp x=true)→ij (l++y::post)=l.length:=by
 intro aT
 induction aT with
 |nil=>intro _;show(bif fp y then _ else 0)=0;erw[aV];rfl
 |cons x l aD=>intro h;show(bif fp x then ij (l++y::post)+1 else 0)=_;erw[h x (.head _),aD fun z bw=>h z (.tail _ bw)];rfl
theorem Ka{α:Type}{a g c:List α}{k:Nat}(ai:k<g.length):((a++g)++c)[a.length+k]? =g[k]? :=by erw[mE (by erw[b4];exact Mk ‹_›),iP (f6 ..),ir]
theorem Kb{α:Type}{a g c:List α}{k:Nat}(ai:k≤g.length):((a++g)++c).drop (a.length+k)=g.drop k++c:=by rw[eR,List.drop_append,List.drop_eq_nil_of_le (f6 ..),ir,nR,List.drop_append,show k-g.length=0 from CP (by assumption),List.drop_zero]
theorem Kc{α:Type}{a g c:List α}{k:Nat}(ai:k≤g.length):((a++g)++c).take (a.length+k)=a++g.take k:=by erw[eR,List.take_append,ux (f6 ..),ir,List.take_append,show k-g.length=0 from CP (by assumption),LZ,ei]
theorem Cg:∀(l:List (Nat×Int)) (c:Nat),cp (l.map jF) c=0:=by
 intro aT
 induction aT with
 |nil=>intro _;exact rfl
 |cons x r aD=>
  intro c;have:lG (jF x) c=0:=by show upd dn 0 0 c=0;erw[hq];show 0+(if c=0 then(0:Int)else 0)=0;refine Tactic.eT (fun h=>?_) (fun h=>?_)<;>rfl
  erw[g0,kP,this,aD];rfl
structure oY(af:List aI)(r:Row):Prop where
 st:gY af r.first=r.ge
 en:∀c,kL af r.first c=cp (af.take r.gs) c+(if c=0 then r.pre else 0)
 jC:∀c,mw af r.first c=cp (af.take r.ge) c-(if c=0 then r.post else 0)
 f0:r.gs≤r.first
 dB:r.first≤r.last
 aM:r.last<r.ge
 ln:r.ge<af.length
 oJ:0<r.gs
theorem YC{af:List aI}{p:Nat}{it:aI}(aK:af[p]? =I it)(hd:lB it=false):gY af p=p+ij (af.drop p)∧kL af p=Sum af p∧mw af p=Sum af (gY af p):=by delta kL mw gY;erw[aK];cases it<;>first|exact⟨rfl,rfl,rfl⟩|cases hd
theorem ja{af:List aI}{r:Row}(h:oX af r):oY af r:=by
 refine eA fun cF=>?_;obtain⟨pre,gap,post,x,y,e,aC,aV,gs,ge,k⟩:=h;have ax:(pre++[x]).length=r.gs:=by erw[b4,gs];rfl
 obtain⟨Kd,Ke,xg⟩:=kd_len k;refine cF ?_;have oJ:0<r.gs:=gs▸jh _;replace xg:=(ge).symm▸xg;have hlen:r.ge<af.length:=by erw[e,b4,b4,ax,←ge];exact qw (jh _)
 have YD:af.take r.gs=pre++[x]:=by
  have:=Kc (a:=pre++[x]) (g:=gap) (c:=y::post) (fx _)
  rwa [Nat.add_zero,LZ,ei,ax,←e]at this
 have plain:∀(m:Nat),m<gap.length→r.first=r.gs+m→(∀z,z∈gap→fp z=true)→(∀z,z∈gap→lB z=false)→(∀c,cp (gap.take m) c=0)→r.pre=0→r.post=0→oY af r:=fun m hm hf hd aA aJ pr po=>by
  have aK:af[r.first]? =I gap[m]:=by erw[e,hf,←ax,Ka hm,gp hm]
  obtain⟨s1,s2,s3⟩:=YC aK (aA _ (uv hm));have ua:gY af r.first=r.ge:=by erw[s1,hf,ge,e,←ax,Kb (da hm),J' aV _ fun z bw=>hd z (List.mem_of_mem_drop bw),CQ,rW,mH (da hm)]
  refine⟨ua,fun c=>?_,fun c=>?_,Kd,Ke,xg,hlen,oJ⟩
  ·erw[s2,rD,pr,YD,hf,e,←ax,Kc (da hm),nD,aJ c,ite_self]
  ·erw[s3,ua,rD,po,ite_self,rS]
 cases k with
 |glue l _ aA f gm d pr po=>
  have:0<l.length:=xZ.mpr aA;refine plain 0 (by erw[bF];exact this) f (fun z bw=>?_) (fun z bw=>?_) (fun c=>rfl) pr po
  ·obtain⟨q,_,rfl⟩:=f9.mp bw;rfl
  ·obtain⟨q,_,rfl⟩:=f9.mp bw;rfl
 |jI l _ k ai f gm d pr po=>
  refine plain k (by erw[bF];exact ai) f (fun z bw=>?_) (fun z bw=>?_) (fun c=>?_) pr po
  ·obtain⟨q,_,rfl⟩:=f9.mp bw;rfl
  ·obtain⟨q,_,rfl⟩:=f9.mp bw;rfl
  ·erw[←List.map_take,Cg]
 |cf t a b m _ f gm d pr po=>
  have q9:r.ge=r.gs+1:=ge;have aK:af[r.first]? =I (.cf t a b m):=by erw[e,f,←ax];exact Ka (k:=0) (Nat.zero_lt_succ _)
  have ua:gY af r.first=r.ge:=by
   delta gY;erw[aK];show(bif b.isEmpty then r.first+1+ij (af.drop (r.first+1))else r.first+1)=_;have:ij (af.drop (r.first+1))=0:=by erw[e,f,←ax,Kb (k:=1) (bE _)];exact J' aV [] fun ag h=>nomatch h
   erw[this,f];cases b.isEmpty
   ·exact q9.symm
   ·exact q9.symm
  refine⟨ua,fun c=>?_,fun c=>?_,Kd,Ke,xg,hlen,oJ⟩
  ·unfold kL;erw[aK];show upd (Sum af r.first) 0 (dU a) c=_;erw[hq,rD,f,pr]
  ·unfold mw;erw[aK];show upd (Sum af (gY af r.first)) 0 (-dU b) c=_;erw[hq,rD,ua,po]
   split
   ·rfl
   ·exact(eP _).trans (rS _).symm
structure YE(af:List aI)(r dz:Row):Prop where
 gs:dz.gs=r.gs
 ge:dz.ge=r.ge
 z:∀c,cp (af.take r.ge) c=cp (af.take r.gs) c
 po:r.post=0
 pr:dz.pre=0
 f:r.first<dz.first
 l:r.last<dz.last
def Kf(af:List aI)(r dz:Row):Prop:=r.ge≤dz.gs∨YE af r dz
def eO(ws:List Int)(k c:Nat):Int:=cO ((ws.take k).map f3) c
def e0(gs:List (List bb))(k c:Nat):Int:=((gs.take k).map fun l=>cO l c).sum
def Ci(gs:List (List bb))(r dz:Row):Prop:=r.g<dz.g∨(dz.g=r.g∧gs.getD r.g []=[]∧r.pre=0∧dz.pre=0∧r.post=0∧dz.post=0)
structure Kg(bp af:List aI)(ws:List Int)(gs:List (List bb))(rs:List Row):Prop where
 at':∀r,r∈rs→oX af r
 dg:rs.Pairwise (Kf af)
 g:∀r,r∈rs→r.g<gs.length
 a:∀r,r∈rs→∀c,cp (af.take r.gs) c=cp bp c+eO ws (r.g+1) c+e0 gs r.g c
 b:∀r,r∈rs→∀c,cp (af.take r.ge) c=cp bp c+eO ws (r.g+1) c+e0 gs (r.g+1) c
 t:∀c,cp af c=cp bp c+eO ws ws.length c+e0 gs gs.length c
 a4:rs.Pairwise (Ci gs)
 w:ws.length=gs.length+1
 last:∃pre x,af=pre++[x]∧fp x=false
theorem Kh{af b:List aI}{r:Row}(h:oX af r):oX (af++b) r:=by obtain⟨pre,gap,post,x,y,rfl,aC,aV,gs,ge,k⟩:=h;exact .mk pre gap (post++b) x y (by erw[eR,xO]) aC aV gs ge k
theorem ub(w:Int)(c:Nat):fR (f3 w) c=if c=0 then w else 0:=by
 rw[qf];show(if c=0 then w else 0)+(if c=1+(0:Int).toNat then 0 else 0)+(if c=5 then 0 else 0)=_;have e:∀P [Decidable P],(if P then(0:Int)else 0)=0:=fun P ag=>by refine Tactic.eT (fun h=>?_) (fun h=>?_)<;>rfl
 rw[e,e];exact x'
noncomputable def YF:aI→Bool
 | .skip .. =>true
 |_=>false
theorem qi{it:aI}(h:YF it=false)(hd:lB it=false)(c:Nat):lG it c=if c=0 then Bc it else 0:=by
 have e:∀s:Int,upd dn 0 s c=if c=0 then s else 0:=fun s=>by rw[hq];exact km _
 cases it with
 |skip t g=>injections h
 |cf=>injections hd
 |_=>exact e _
theorem Ki{fw:List aI}{wv:Int}(h:kM fw wv)(c:Nat):cp fw c=fR (f3 wv) c:=by
 rw[ub];cases h with
 |box t w=>rw[kP,qi rfl rfl];exact eP _
 |gX t t' sV w k s=>
  rw[kP,kP,kP,qi rfl rfl,qi rfl rfl,qi rfl rfl]
  split<;>exact rfl
 |mark t t' w=>rw[kP,kP,qi rfl rfl,qi rfl rfl];show(if c=0 then wv else 0)+((if c=0 then 0 else 0)+0)=_;refine Tactic.eT (fun h=>?_) (fun h=>?_)<;>lia
theorem Kj{hp:Int}{gi p:Nat}{dK:List aI}{eN:List bb}{rw:List Row}(h:jH hp gi p dK eN rw)(c:Nat):cp dK c=cO eN c:=by
 cases h with
 |glue l=>delta cp cO;erw[jO,jO];rfl
 |jI l=>exact Cg l c
 |cf t a b m=>
  show upd dn 0 (dU m) c+0=fR (f3 (dU m)) c+0;erw[ub,hq];show 0+_+0=_
  lia
theorem Kk{gs:List bb}{l:List aI}(h:mz gs l)(c:Nat):cp l c=cO gs c:=by
 cases h with
 |nil=>rfl
 |one t t' g=>rw[kP,qi rfl rfl];show(if c=0 then(0:Int)else 0)+(fR g c+0)=fR g c+0;refine Tactic.eT (fun h=>?_) (fun h=>?_)<;>exact Int.add_left_comm _ _ _
theorem xh{ws:List Int}{w:Int}{k c:Nat}(h:k≤ws.length):eO (ws++[w]) k c=eO ws k c:=by unfold eO;erw[r3 h]
theorem Cj{gs:List (List bb)}{l:List bb}{k c:Nat}(h:k≤gs.length):e0 (gs++[l]) k c=e0 gs k c:=by unfold e0;erw[r3 h]
theorem YG{ws:List Int}{w:Int}{c:Nat}:eO (ws++[w]) (ws.length+1) c=eO ws ws.length c+fR (f3 w) c:=by unfold eO;erw[ux (by erw[b4];exact bE _),o8,fy,nE];exact uF
theorem Kl{gs:List (List bb)}{l:List bb}{c:Nat}:e0 (gs++[l]) (gs.length+1) c=e0 gs gs.length c+cO l c:=by unfold e0;erw[ux (by erw[b4];exact bE _),o8,fy,C0];exact uF
structure YH(gi p:Nat)(dK:List aI)(r:Row):Prop where
 k:oW dK r
 gs:r.gs=p
 ge:r.ge=p+dK.length
 g:r.g=gi
theorem Km{gi gs len:Nat}:∀(l:List (Nat×Int)) (k:Nat) (r:Row),r∈jG gi gs len k l→∃j v,k≤j∧j<k+l.length∧r=⟨gi,j,j,gs,gs+len,v,false,0,0⟩:=by
 intro aT
 induction aT with
 |nil=>intro _ _ h;exact nomatch h
 |cons x l aD=>
  intro k r h;rw[rF]at h
  rcases dR.mp h with h|h
  ·exact⟨k,x.2,bE _,by erw[gA];lia,qh h⟩
  ·obtain⟨j,v,aa,ab,aq⟩:=aD (k+1) r h;exact⟨j,v,da ‹_›,by erw[gA];exact Mc ‹_›,aq⟩
theorem YI{gi gs len:Nat}{P:Row→Row→Prop}(dM:∀j nG v fK,j<nG→P ⟨gi,j,j,gs,gs+len,v,false,0,0⟩ ⟨gi,nG,nG,gs,gs+len,fK,false,0,0⟩):∀(l:List (Nat×Int)) (k:Nat),(jG gi gs len k l).Pairwise P:=by
 intro aT
 induction aT with
 |nil=>intro _;exact .nil
 |cons x l aD=>
  intro k;erw[rF];refine CS.mpr ⟨?_,aD (k+1),fun a aB b ae=>?_⟩
  ·cases U (x.2<10000)
   ·exact .nil
   ·exact CJ _ _
  ·obtain⟨j,v,aa,_,rfl⟩:=Km l (k+1) b ae;erw[qh aB];exact dM _ _ _ _ (yc ‹_›)
theorem YJ{hp:Int}{gi p:Nat}{dK:List aI}{eN:List bb}{rw:List Row}(h:jH hp gi p dK eN rw):∀r,r∈rw→YH gi p dK r:=by
 intro r av;cases h with
 |glue l aA ar aK=>have:0<l.length:=xZ.mpr aA;erw[dY.mp av];exact⟨.glue l _ aA rfl (CI (bR (by assumption) (Lr ..))) rfl rfl rfl,rfl,by erw[bF],rfl⟩
 |jI l aA ar aJ=>obtain⟨j,v,aa,ab,rfl⟩:=Km l p r av;exact⟨.jI l _ (j-p) (Nat.sub_lt_left_of_lt_add ‹_› ‹_›) (mH (by assumption)).symm (mH (by assumption)).symm rfl rfl rfl,rfl,by erw[bF],rfl⟩
 |cf t a b m=>erw[qh av];exact⟨.cf t a b m _ rfl rfl rfl rfl rfl,rfl,rfl,rfl⟩
theorem Kn{hp:Int}{gi p:Nat}{dK:List aI}{eN:List bb}{rw:List Row}{P:Row→Row→Prop}(h:jH hp gi p dK eN rw)(dM:eN=[]→(∀c,cp dK c=0)→∀j nG v fK,j<nG→P ⟨gi,j,j,p,p+dK.length,v,false,0,0⟩ ⟨gi,nG,nG,p,p+dK.length,fK,false,0,0⟩):rw.Pairwise P:=by
 cases h with
 |glue l aA ar aK=>exact CJ _ _
 |jI l aA ar aJ=>rw[bF]at dM;exact YI (dM rfl (Cg l)) l p
 |cf t a b m=>
  cases U (hp<10000)
  ·exact .nil
  ·exact CJ _ _
theorem Ko{fw:List aI}{wv:Int}(h:kM fw wv):(∃y post,fw=y::post∧fp y=false)∧∃pre x,fw=pre++[x]∧fp x=false:=by
 cases h with
 |box t w=>exact⟨⟨_,_,rfl,rfl⟩,[],_,rfl,rfl⟩
 |gX t t' sV w k s=>exact⟨⟨_,_,rfl,rfl⟩,[.box t w,.gX t' k s],_,rfl,rfl⟩
 |mark t t' w=>exact⟨⟨_,_,rfl,rfl⟩,[.box t wv],_,rfl,rfl⟩
set_option tactic.hygienic true in
theorem Kp{hp:Int}{bp af:List aI}{ws:List Int}{gs:List (List bb)}{rs:List Row}(h:Lay hp bp af ws gs rs):Kg bp af ws gs rs:=by
 induction h with
 |one w=>
  rename_i fw wv;obtain⟨_,pre,x,e,aC⟩:=Ko w;refine⟨fun ag h=>(nomatch h),.nil,fun ag h=>(nomatch h),fun ag h=>(nomatch h),fun ag h=>(nomatch h),fun c=>?_,.nil,rfl,bp++pre,x,by erw[e,eR],aC⟩;erw[nD,Ki w];show _=_+(fR (f3 wv) c+0)+0
  lia
 |more l g w aG=>
  rename_i af dK fw ws wv gs eN rs rw;obtain⟨⟨y,post,sz,aV⟩,YK,x2,au,YL⟩:=Ko w;obtain⟨pre,x,ex,aC⟩:=aG.last;have kR:=YJ g;have old:∀r,r∈rs→oY af r:=fun r av=>ja (aG.at' r av);have tk:∀k,k≤af.length→((af++dK)++fw).take k=af.take k:=fun k ai=>by erw[eR,r3 ai]
  have nat:∀r,r∈rw→oX ((af++dK)++fw) r:=fun r av=>by obtain⟨k,aa,ab,_⟩:=kR r av;exact .mk pre dK post x y (by erw[←ex,←sz]) aC aV (by erw[aa,ex,b4];rfl) (by erw[ab,aa]) k
  have Kq:((af++dK)++fw).take af.length=af:=by erw[tk _ (bE _),o8]
  have Kr:((af++dK)++fw).take (af.length+dK.length)=af++dK:=by erw[r3 (by erw[b4];exact bE _),ux (by erw[b4];exact bE _)]
  have hw:=aG.w;have YM:∀i,i<gs.length→(gs++[eN]).getD i []=gs.getD i []:=fun i aw=>by erw[jd,jd,mE aw]
  have YN:(gs++[eN]).getD gs.length []=eN:=by erw[jd,iP (bE _),kW];rfl
  refine⟨fun r av=>?_,?_,fun r av=>?_,fun r av c=>?_,fun r av c=>?_,fun c=>?_,?_,?_,(af++dK)++YK,x2,by erw[au,eR,eR,eR],YL⟩
  ·rcases dR.mp av with av|av
   ·erw[eR];exact Kh (aG.at' r av)
   ·exact nat r av
  ·refine CS.mpr ⟨aG.dg.imp_of_mem fun{a b} aB ae h=>?_,Kn g fun ag bw j nG v fK a'=>.inr ⟨rfl,rfl,fun c=>?_,rfl,rfl,a',a'⟩,fun a aB b ae=>.inl ?_⟩
   ·have aa:=old a aB
    rcases h with h|⟨ab,aq,ba,b0,d2,fk,pH⟩
    ·exact .inl h
    ·exact .inr ⟨ab,aq,fun c=>by erw[tk _ (da aa.ln),tk _ (by have:=aa.ln;have:=aa.f0;have:=aa.dB;have:=aa.aM;lia)];exact ba c,b0,d2,fk,pH⟩
   ·show cp (List.take (af.length+dK.length) _) c=cp (List.take af.length _) c;erw[Kr,Kq,nD,bw c];exact eP _
   ·erw[(kR b ae).gs];exact da (old a aB).ln
  ·erw[b4]
   rcases dR.mp av with av|av
   ·have:=aG.g r av;exact ya ‹_›
   ·erw[(kR r av).g];exact ki _
  ·rcases dR.mp av with av|av
   ·have aa:=old r av;have ab:=aG.g r av;erw[tk _ (by have:=aa.ln;have:=aa.f0;have:=aa.dB;have:=aa.aM;lia),aG.a r av c,xh (by lia),Cj (da ‹_›)]
   ·erw[(kR r av).gs,(kR r av).g,Kq,aG.t c,xh (eQ (Eq.symm ‹_›)),Cj (bE _),hw]
  ·rcases dR.mp av with av|av
   ·have aa:=old r av;have ab:=aG.g r av;erw[tk _ (da aa.ln),aG.b r av c,xh (by lia),Cj (‹_›)]
   ·erw[(kR r av).ge,(kR r av).g,Kr,nD,aG.t c,Kj g,xh (eQ (Eq.symm ‹_›)),Kl,hw];exact qx _ _ _
  ·erw[nD,nD,aG.t c,Kj g,Ki w,b4,b4];erw[YG,Kl];lia
  ·refine CS.mpr ⟨aG.a4.imp_of_mem fun{a b} aB ae h=>?_,Kn g fun he ag j nG v fK a'=>.inr ⟨rfl,by erw[YN,he],rfl,rfl,rfl,rfl⟩,fun a aB b ae=>.inl ?_⟩
   ·rcases h with h|⟨aa,ab,aq⟩
    ·exact .inl h
    ·exact .inr ⟨aa,by erw[YM _ (aG.g a aB)];exact ab,aq⟩
   ·erw[(kR b ae).g];exact aG.g a aB
  ·erw[b4,b4,hw];rfl
structure gn(hp:Int)(af:List aI)(R:List Row):Prop where
 at':∀r,r∈R→oX af r
 dg:R.Pairwise (Kf af)
 kd:b6 hp af=R.map rE++[(af.length,-10000,1)]
def hZ(af:List aI)(R:List Row)(j c:Nat):Int:=(R[j-1]?).elim (cp af c) fun r=>cp (af.take r.gs) c+(if c=0 then r.pre else 0)
noncomputable def jL(af:List aI)(R:List Row)(j c:Nat):Int:=match j with
 |0=>0
 |j+1=>(R[j]?).elim (cp af c) fun r=>cp (af.take r.ge) c-(if c=0 then r.post else 0)
theorem uc{af:List aI}{R:List Row}{j c:Nat}:jL af R (j+1) c=(R[j]?).elim (cp af c) fun r=>cp (af.take r.ge) c-(if c=0 then r.post else 0):=rfl
theorem ud{hp:Int}{af:List aI}{R:List Row}(h:gn hp af R){j:Nat}{r:Row}(av:R[j]? =I r):nodes af (b6 hp af) (j+1)=node af (rE r):=by
 have a':=(d7.mp av).1;show(match(b6 hp af)[j]? with|some q=>node af q|none=>j9)=_
 erw[h.kd,mE (by erw[bF];exact a'),lO,av];rfl
theorem xi{hp:Int}{af:List aI}{R:List Row}(h:gn hp af R):nodes af (b6 hp af) (R.length+1)=node af (af.length,-10000,1):=by
 show(match(b6 hp af)[R.length]? with|some q=>node af q|none=>j9)=_
 erw[h.kd,iP (by erw[bF];exact bE _),bF,kW];rfl
theorem YO{hp:Int}{af:List aI}{R:List Row}(h:gn hp af R){j:Nat}(a':R.length+1<j):nodes af (b6 hp af) j=j9:=by
 induction j using fe with
 |zero=>lia
 |succ j=>
  show(match(b6 hp af)[j]? with|some q=>node af q|none=>j9)=_
  erw[h.kd,jc (by erw[b4,bF];show _+1≤_;exact kf ‹_›)]
theorem YQ(af:List aI)(c:Nat):cp (af.take af.length) c=cp af c:=by erw[o8]
theorem ue{af:List aI}{R:List Row}{j c:Nat}:hZ af R (j+1) c=(R[j]?).elim (cp af c) fun r=>cp (af.take r.gs) c+(if c=0 then r.pre else 0):=rfl
inductive xj(hp:Int)(af:List aI)(R:List Row)(b:Nat):Prop where
 |row (r:Row) (av:R[b]? =I r) (a:oY af r) (e:nodes af (b6 hp af) (b+1)=node af (rE r))
 |last (ae:b=R.length) (av:R[b]? =J) (e:nodes af (b6 hp af) (b+1)=node af (af.length,-10000,1))
theorem YR{hp:Int}{af:List aI}{R:List Row}(h:gn hp af R){b:Nat}(ae:b≤R.length):xj hp af R b:=by
 rcases rX ae with ae|rfl
 ·have av:=gp ae;exact .row _ av (ja (h.at' _ (fI av))) (ud h av)
 ·exact .last rfl (jc (bE _)) (xi h)
theorem Ks{hp:Int}{af:List aI}{R:List Row}{b:Nat}(h:xj hp af R b)(c:Nat):(nodes af (b6 hp af) (b+1)).en c=hZ af R (b+1) c:=by
 erw[ue];cases h with
 |row r av a e=>erw[e,av];exact a.en c
 |last ae av e=>erw[e,av];show kL af af.length c=cp af c;unfold kL;erw[jc (bE _)];exact(rD af af.length c).trans (YQ af c)
theorem YS{hp:Int}{af:List aI}{R:List Row}{b:Nat}(h:xj hp af R b):0≤(nodes af (b6 hp af) (b+1)).p:=by
 cases h with
 |row r av a e=>erw[e];exact nM _
 |last ae av e=>erw[e];exact nM _
theorem Kt{g:c3}{a b:fE}{c:Nat}{e s:Int}(he:b.en c=e)(aL:a.jC c=s)(bw:a.st>b.p→e=s):gj g a b c=e-s+g c:=by
 unfold gj;refine bZ (fun hd:a.st>b.p=>?_) (fun hd=>?_)
 ·erw[decide_eq_true hd,bw hd,rZ,km];rfl
 ·erw[decide_eq_false hd];show b.en c-a.jC c+g c=_;erw[he,aL]
theorem YT{hp:Int}{af:List aI}{R:List Row}(h:gn hp af R){i b:Nat}{r:Row}(av:R[i]? =I r)(xk:i<b)(n:xj hp af R b)(aL:((r.ge:Nat):Int)>(nodes af (b6 hp af) (b+1)).p)(c:Nat):hZ af R (b+1) c=jL af R (i+1) c:=by
 cases n with
 |last ae aE e=>rw[e]at aL;exact absurd (nN.mp aL) (kU.mpr (da (ja (h.at' r (fI av))).ln))
 |row dz aE a e=>
  rw[e]at aL;refine f7 (d7.mp av) fun aw pz=>?_;refine f7 (d7.mp aE) fun ae cV=>?_;have dM:=C1.mp h.dg i b aw ae xk;rw[pz,cV]at dM
  rcases dM with dM|⟨ay,_,z,po,pr,_,_⟩
  ·exact absurd (gI (bR dM a.f0) (nN.mp aL)) (qu _)
  ·erw[ue,uc,aE,av];show cp (af.take dz.gs) c+(if c=0 then dz.pre else 0)=cp (af.take r.ge) c-(if c=0 then r.post else 0);erw[ay,pr,po,z c,ite_self,eP,rS]
theorem Ck{hp:Int}{af:List aI}{R:List Row}(h:gn hp af R){a b:Nat}(g:c3)(du:a<b)(ae:b≤R.length+1)(c:Nat):
  gj g (nodes af (b6 hp af) a) (nodes af (b6 hp af) b) c=hZ af R b c-jL af R a c+g c:=by
 obtain⟨b,rfl⟩:=mD.mpr (gI (fx _) du);have ae:=o7 ae;have n:=YR h ae
 induction a using fe with
 |zero=>exact Kt (Ks n c) rfl fun hd=>absurd (o1 hd (dZ 0)) (ez.mpr (YS n))
 |succ i=>
  have xk:=rO du;have av:=gp (ey xk ae);have kE:=ja (h.at' _ (fI av));have e:=ud h av;refine Kt (Ks n c) ?_ fun hd=>YT h av xk n ?_ c
  ·erw[e,uc,av];exact kE.jC c
  ·rw[e]at hd;have hd:((gY af R[i].first:Nat):Int)>_:=hd
   rwa [kE.st]at hd
theorem xl{ws:List Int}{k c:Nat}(h:k<ws.length):eO ws (k+1) c=eO ws k c+fR (f3 (ws.getD k 0)) c:=by unfold eO;erw[List.take_succ,fy,nE,get_map h];exact uF
theorem xm{gs:List (List bb)}{k c:Nat}(h:k<gs.length):e0 gs (k+1) c=e0 gs k c+cO (gs.getD k []) c:=by unfold e0;erw[List.take_succ,fy,C0,BP h];exact uF
theorem YU(x w g a b c d:Int):x+(w+(a-(b+x)+(c-(d+w))))=a-b+(c-d):=by lia
theorem YV{ws:List Int}{gs:List (List bb)}{eb c:Nat}(hw:eb<ws.length)(aK:eb≤gs.length):∀(m k:Nat),k+m=eb→cO (kO ws gs eb k (m+1)) c=eO ws (eb+1) c-eO ws k c+(e0 gs eb c-e0 gs k c):=by
 intro eW
 induction eW with
 |zero=>intro k h;obtain rfl:k=eb:=h;erw[w1,decide_eq_false (qu _),xl hw,rZ,eP,rP (eO ws k c),Int.add_sub_cancel];exact eP _
 |succ m aD=>intro k h;have ai:=rT (qw (jh m)) h;erw[w1,decide_eq_true ai,lH];show _+cO (gs.getD k []++_) c=_;erw[nE,(aD (k+1) ((iO k 1 m).trans h)),xl (lR ai hw),xm (ey ai aK)];exact YU _ _ 0 _ _ _ _
theorem Cm{ws:List Int}{gs:List (List bb)}{eb k c:Nat}(hw:eb<ws.length)(aK:eb≤gs.length)(ai:k≤eb):cO (kO ws gs eb k (eb+1-k)) c=eO ws (eb+1) c-eO ws k c+(e0 gs eb c-e0 gs k c):=by erw[Nat.succ_sub ai];exact YV hw aK _ _ (mH ai)
noncomputable def fH(a:Nat):Option Nat:=match a with
 |0=>J
 |a+1=>I a
structure Told(D:bX)(bp aR af:List aI):Prop where
 f:Kg bp af D.ws D.gs D.rs
 eI:∀c,cp bp c=cO D.T.eI c
 ay:∀c,cp aR c=cO D.T.ay c
theorem xn(w:Int)(c:Nat):cO [f3 w] c=if c=0 then w else 0:=by show fR (f3 w) c+0=_;rw[ub,eP]
theorem YW(g s e m E W G w k:Int)(h:m=W-w+(G-k)):g+s+e+m=E+W+G+e-(E+w+k-s)+g:=by lia
section
variable{D:bX}{bp aR af:List aI}
theorem Told.tk(h:Told D bp aR af){r:Row}(av:r∈D.rs):(af++aR).take r.gs=af.take r.gs∧(af++aR).take r.ge=af.take r.ge:=by have a:=ja (h.f.at' r av);have e:=da a.ln;exact⟨r3 (bR (bR a.f0 a.dB) (bR (da a.aM) e)),r3 e⟩
theorem xo{j:Nat}{r:Row}(av:D.rs[j]? =I r):D.aw j=r.g∧D.i' j=[f3 r.pre]:=by delta bX.aw bX.i';erw[av];exact⟨rfl,rfl⟩
theorem xp:D.aw D.rs.length=D.ws.length-1∧D.i' D.rs.length=D.T.ay:=by delta bX.aw bX.i';erw[jc (bE _)];exact⟨rfl,rfl⟩
theorem Told.w0(h:Told D bp aR af){j:Nat}(a':j≤D.rs.length):D.aw j≤D.gs.length∧D.aw j<D.ws.length:=by
 have key:D.aw j≤D.gs.length:=by
  rcases rX a' with a'|rfl
  ·have av:=hY a';erw[(xo av).1];exact da (h.f.g _ (fI av))
  ·erw[xp.1,h.f.w];exact bE _
 exact⟨key,by erw[h.f.w];exact uk key⟩
theorem Told.Cn(h:Told D bp aR af){j:Nat}(a':j≤D.rs.length)(c:Nat):hZ (af++aR) D.rs (j+1) c=cp bp c+eO D.ws (D.aw j+1) c+e0 D.gs (D.aw j) c+cO (D.i' j) c:=by
 unfold hZ;erw[lS]
 rcases rX a' with a'|rfl
 ·have av:=hY a';have hm:=fI av;refine bC (fun ay au=>?_) (xo av);erw[ay,au,av,xn,←h.f.a _ hm,←(h.tk hm).1];rfl
 ·refine bC (fun ay au=>?_) (xp (D:=D));erw[ay,au,jc (bE _),←h.ay c,h.f.w];refine(nD af aR c).trans (congrArg (· +cp aR c) ?_);erw[h.f.t c,h.f.w];rfl
theorem Told.Ku(h:Told D bp aR af){a:Nat}(aB:a≤D.rs.length)(c:Nat):jL (af++aR) D.rs a c=cp bp c+eO D.ws (D.lo (fH a)) c+e0 D.gs (D.lo (fH a)) c-cO (D.kN (fH a)) c:=by
 induction a using fe with
 |zero=>show 0=cp bp c+0+0-cO D.T.eI c;erw[←h.eI c,eP,eP,rZ]
 |succ i=>have av:=hY aB;have hm:=fI av;have ay:D.lo (fH (i+1))=(D.row i).g+1:=congrArg (fun o:Option Row=>o.elim 0 (·.g+1)) av;have au:D.kN (fH (i+1))=[f3 (D.row i).post]:=congrArg (fun o:Option Row=>o.elim D.T.eI fun r=>[f3 r.post]) av;erw[ay,au,uc,av,xn,←h.f.b _ hm,←(h.tk hm).2];rfl
theorem Told.YX(h:Told D bp aR af){a j:Nat}(du:a<j+1)(a':j≤D.rs.length)(c:Nat):cO (kO D.ws D.gs (D.aw j) (D.lo (fH a)) (D.aw j+1-D.lo (fH a))) c=eO D.ws (D.aw j+1) c-eO D.ws (D.lo (fH a)) c+(e0 D.gs (D.aw j) c-e0 D.gs (D.lo (fH a)) c):=by
 refine bC (fun ab aa=>?_) (h.w0 a')
 induction a using fe with
 |zero=>exact Cm aa ab (fx _)
 |succ i=>
  have aw:=ey (rO du) a';have qc:=hY aw;have ay:D.lo (fH (i+1))=(D.row i).g+1:=congrArg (fun o:Option Row=>o.elim 0 (·.g+1)) qc;have Kv:=h.f.g _ (fI qc);erw[ay]
  rcases rX a' with a'|rfl
  ·have Kw:=hY a';rw[(xo Kw).1]at aa ab⊢;have dM:Ci D.gs (D.row i) (D.row j):=by
    have:=C1.mp h.f.a4 i j aw a' (rO du)
    rwa [(d7.mp qc).2,(d7.mp Kw).2]at this
   rcases dM with dM|⟨e,bw,_⟩
   ·exact Cm aa ab dM
   ·erw[e,kW,xm Kv,bw,rZ,show cO [] c=0 from rfl,eP,rZ];rfl
  ·rw[xp.1]at aa ab⊢;exact Cm aa ab (xJ (by erw[h.f.w];exact C2 Kv))
theorem YY(h:Told D bp aR af){a b:Nat}(du:a<b)(ae:b≤D.rs.length+1)(c:Nat):cO (D.line (fH a) (b-1)) c=hZ (af++aR) D.rs b c-jL (af++aR) D.rs a c+cO D.gr c:=by obtain⟨j,rfl⟩:=mD.mpr (gI (fx _) du);have a':=o7 ae;rw[lS,h.Cn a',h.Ku (bR (kf du) a')];unfold bX.line;rw[nE,nE,nE];exact YW _ _ _ _ _ _ _ _ _ (h.YX du a' c)
end
noncomputable def kS:aI→Prop
 | .box _ w=> -40≤w∧w≤40
 | .gX _ w _=> -40≤w∧w≤40
 | .skip _ g=>hH g
 | .cf _ a b m=>nz a∧nz b∧nz m
 |_=>True
structure xq(r:Row):Prop where
 dA:0≤r.pre
 cL:r.pre≤6
 kI:0≤r.post
 eu:r.post≤6
 eW: -12000≤r.b9
 ky:r.b9≤10000
structure Co(af:List aI)(ws:List Int)(gs:List (List bb))(rs:List Row):Prop where
 it:∀it,it∈af→kS it
 ln:af.length≤2+5*ws.length
 b3:rs.length≤2*gs.length
 g2:∀l,l∈gs→l.length≤2
 a4:∀l,l∈gs→∀g,g∈l→jE g
 dg:∀w,w∈ws→8≤w∧w≤40
 pr:∀r,r∈rs→xq r
 k:hF af
 qj:hF af.reverse
theorem Kx:∀{a b:List aI},hF a→hF b→hF (a++b):=by
 intro aT
 induction aT with
 |nil=>intro _ _ h;exact h
 |cons it r aD=>
  intro b aB ae;cases it with
  |gX t w s=>obtain⟨⟨t',bP,q,rfl⟩,ab⟩:=aB;exact⟨⟨t',bP,q++b,rfl⟩,aD ab ae⟩
  |box=>exact aD aB ae
  |skip=>exact aD aB ae
  |b9=>exact aD aB ae
  |cf=>exact aD aB ae
  |mark=>exact aD aB ae
structure jM(l:List aI):Prop where
 it:∀it,it∈l→kS it
 k:hF l
 qj:hF l.reverse
theorem Ky{fw:List aI}{wv:Int}(h:kM fw wv):jM fw∧8≤wv∧wv≤40:=by
 cases h with
 |box t w h0 aa=>refine⟨⟨fun it aw=>?_,trivial,trivial⟩,h0,d3 ‹_› rfl⟩;erw[dY.mp aw];exact⟨d0 ‹_› rfl,d3 ‹_› rfl⟩
 |gX t t' sV w k s h0 aa kb dH=>
  refine⟨⟨fun it aw=>?_,⟨⟨_,_,_,rfl⟩,trivial⟩,⟨⟨_,_,_,rfl⟩,trivial⟩⟩,by lia,by lia⟩;simp only[ec,kX,or_false]at aw
  rcases aw with rfl|rfl|rfl
  ·exact⟨d0 ‹_› rfl,d3 ‹_› rfl⟩
  ·exact⟨d0 ‹_› rfl,d3 ‹_› rfl⟩
  ·exact⟨by decide,by decide⟩
 |mark t t' w h0 aa=>
  refine⟨⟨fun it aw=>?_,trivial,trivial⟩,h0,d3 ‹_› rfl⟩;simp only[ec,kX,or_false]at aw
  rcases aw with rfl|rfl
  ·exact⟨d0 ‹_› rfl,d3 ‹_› rfl⟩
  ·exact trivial
theorem Kz:∀l:List (Nat×bb),hF (l.map lD):=by
 intro aT
 induction aT with
 |nil=>exact trivial
 |cons _ r aD=>exact aD
theorem KA:∀l:List (Nat×Int),hF (l.map jF):=by
 intro aT
 induction aT with
 |nil=>exact trivial
 |cons _ r aD=>exact aD
structure YZ(eN:List bb)(rw:List Row):Prop where
 g2:eN.length≤2
 a4:∀g,g∈eN→jE g
 pr:∀r,r∈rw→xq r
theorem Y0{gi gs len:Nat}:∀(l:List (Nat×Int)) (k:Nat),(∀x,x∈l→BH x)→∀r,r∈jG gi gs len k l→xq r:=by
 intro aT
 induction aT with
 |nil=>intro _ _ _ h;exact nomatch h
 |cons x l aD=>
  intro k aC r h;rw[rF]at h;refine eF (dR.mp h) (fun h=>?_) (fun h=>?_)
  ·have:=aC x (.head _);erw[qh h];exact⟨dZ 0,by show(0:Int)≤6;decide,dZ 0,by show(0:Int)≤6;decide,this.lo,this.aw⟩
  ·exact aD (k+1) (fun y aV=>aC y (.tail _ aV)) r h
theorem Y1{hp:Int}{gi p:Nat}{dK:List aI}{eN:List bb}{rw:List Row}(h0: -10000≤hp)(aa:hp≤10000)(h:jH hp gi p dK eN rw):jM dK∧YZ eN rw:=by
 cases h with
 |glue l aA ar aK=>
  refine⟨⟨fun it aw=>?_,Kz l,by erw[←iu];exact Kz _⟩,by erw[bF];exact ar,fun g mn=>?_,fun r av=>?_⟩
  ·obtain⟨x,aC,rfl⟩:=f9.mp aw;exact(aK x aC).b
  ·obtain⟨x,aC,rfl⟩:=f9.mp mn;exact aK x aC
  ·erw[dY.mp av];exact⟨dZ 0,by show(0:Int)≤6;decide,dZ 0,by show(0:Int)≤6;decide,by show-12000≤(0:Int);decide,by show(0:Int)≤10000;decide⟩
 |jI l aA ar aJ=>refine⟨⟨fun it aw=>?_,KA l,by erw[←iu];exact KA _⟩,fx _,fun g mn=>(nomatch mn),Y0 l p aJ⟩;obtain⟨x,aC,rfl⟩:=f9.mp aw;exact trivial
 |cf t a b m aB ae hm=>
  refine⟨⟨fun it aw=>?_,trivial,trivial⟩,iN rfl,fun g mn=>?_,fun r av=>?_⟩
  ·erw[dY.mp aw];exact⟨aB,ae,hm⟩
  ·erw[dY.mp mn];exact⟨⟨hm.s0,by have:=hm.s1;show dU m≤20;exact d3 ‹_› rfl,dZ 0,by show(0:Int)≤20;decide,dZ 0,by show(0:Int)≤3;decide,dZ 0,by show(0:Int)≤20;decide⟩,hm.s0⟩
  ·erw[qh av];exact⟨aB.s0,aB.s1,ae.s0,ae.s1,d0 ‹_› rfl,aa⟩
theorem rG{gs:List bb}{l:List aI}(h:mz gs l):jM l∧(∀g,g∈gs→jE g)∧gs.length≤1:=by
 cases h with
 |nil=>exact⟨⟨fun ag h=>(nomatch h),trivial,trivial⟩,fun ag h=>(nomatch h),fx _⟩
 |one t t' g aK=>
  refine⟨⟨fun it aw=>?_,trivial,trivial⟩,fun x aC=>?_,bE _⟩
  ·simp only[ec,kX,or_false]at aw
   rcases aw with rfl|rfl
   ·exact trivial
   ·exact aK.b
  ·erw[dY.mp aC];exact aK
theorem jM.app{a b:List aI}(aB:jM a)(ae:jM b):jM (a++b):=by
 refine⟨fun it aw=>?_,Kx aB.k ae.k,by erw[nT];exact Kx ae.qj aB.qj⟩;refine eF (dR.mp aw) (fun aw=>?_) (fun aw=>?_)
 ·exact aB.it it aw
 ·exact ae.it it aw
theorem jM.rev{a:List aI}(aB:jM a):jM a.reverse:=⟨fun it aw=>aB.it it (lU.mp aw),aB.qj,by rw[L0];exact aB.k⟩
theorem Cp{hp:Int}{bp af:List aI}{ws:List Int}{gs:List (List bb)}{rs:List Row}(h0: -10000≤hp)(aa:hp≤10000)(hR:jM bp)(ar:bp.length≤2)(h:Lay hp bp af ws gs rs):Co af ws gs rs:=by
 induction h with
 |one w=>obtain⟨b,oO,ic⟩:=Ky w;have:=(w8 w).n;obtain⟨cZ,dt,gw⟩:=hR.app b;refine⟨cZ,by erw[b4];exact kn ‹_› ‹_› rfl,bE _,fun ag h=>(nomatch h),fun ag h=>(nomatch h),fun x aC=>?_,fun ag h=>(nomatch h),dt,gw⟩;erw[dY.mp aC];exact⟨oO,ic⟩
 |more l g w aG=>
  obtain⟨b,oO,ic⟩:=Ky w;refine bC (fun xf kR=>?_) (Y1 h0 aa g);have:=(w8 w).n;have w9:=JP g;obtain⟨cZ,dt,gw⟩:=((⟨aG.it,aG.k,aG.qj⟩:jM _).app xf).app b;refine⟨cZ,?_,?_,fun x aC=>?_,fun x aC=>?_,fun x aC=>?_,fun x aC=>?_,dt,gw⟩
  ·have:=aG.ln;simp only[b4,gA,CV];lia
  ·have:=aG.b3;simp only[b4,gA,CV];exact MF ‹_› (qp ‹_›)
  ·refine eF (dR.mp aC) (fun aC=>?_) (fun aC=>?_)
   ·exact aG.g2 x aC
   ·erw[dY.mp aC];exact kR.g2
  ·refine eF (dR.mp aC) (fun aC=>?_) (fun aC=>?_)
   ·exact aG.a4 x aC
   ·erw[dY.mp aC];exact kR.a4
  ·refine eF (dR.mp aC) (fun aC=>?_) (fun aC=>?_)
   ·exact aG.dg x aC
   ·erw[dY.mp aC];exact⟨oO,ic⟩
  ·refine eF (dR.mp aC) (fun aC=>?_) (fun aC=>?_)
   ·exact aG.pr x aC
   ·exact kR.pr x aC
set_option tactic.hygienic true in
theorem Y2{l m:List aI}(h:dm f5 l m)(ai:hF l):hF m:=by
 induction h with
 |nil=>trivial
 |cons r t aG=>
  cases r with
  |cf=>exact aG ai
  |same _ hd=>
   rename_i it _ _;cases it with
   |gX aF w s=>
    obtain⟨⟨t',bP,q,rfl⟩,ab⟩:=ai;refine⟨?_,aG ab⟩;cases t with
    |cons dz _=>cases dz with
     |same=>exact⟨_,_,_,rfl⟩
   |box=>exact aG ai
   |skip=>exact aG ai
   |b9=>exact aG ai
   |cf=>exact aG ai
   |mark=>exact aG ai
theorem Cq{x:i7}(h:nz x):nz x.reverse:=by
 have e:dU x.reverse=dU x:=by unfold dU;erw[iu,LY]
 exact⟨by erw[ff];exact h.n,fun q aE=>h.b q (lU.mp aE),by erw[e];exact h.s0,by erw[e];exact h.s1⟩
theorem Y3{l m:List aI}(h:dm f5 l m)(ai:∀it,it∈l→kS it):∀it,it∈m→kS it:=by
 induction h with
 |nil=>exact ai
 |cons r t aG=>
  intro it aw
  rcases ec.mp aw with rfl|aw
  ·have:=ai _ (.head _);cases r with
   |same=>exact this
   |cf=>exact⟨Cq this.2.1,Cq this.1,Cq this.2.2⟩
  ·exact aG (fun x aC=>ai x (.tail _ aC)) it aw
theorem Cr{it:aI}(h:kS it):pZ it:=by
 cases it with
 |skip t g=>exact⟨h.o0,h.a0⟩
 |cf t a b m=>exact⟨by have:=h.1.n;exact cz ‹_› rfl,by have:=h.2.1.n;exact cz ‹_› rfl,by have:=h.2.2.n;exact cz ‹_› rfl⟩
 |_=>trivial
structure dD(n v:Int):Prop where
 lo: -n≤v
 aw:v≤n
theorem dD.add{m n a b:Int}(h:dD m a)(g:dD n b):dD (m+n) (a+b):=⟨Int.neg_add▸kh h.lo g.lo,kh h.aw g.aw⟩
theorem dD.mono{m n v:Int}(h:dD m v)(g:m≤n):dD n v:=⟨c0 (CX g) h.lo,c0 h.aw g⟩
theorem dD.z{n:Int}(h:0≤n):dD n 0:=⟨L1 h,h⟩
theorem dD.pos{n v:Int}(h:0≤v)(g:v≤n):dD n v:=⟨c0 (L1 (c0 h g)) h,g⟩
theorem dD.ite{n v:Int}{c:Prop}{d:Decidable c}(h:dD n v)(g:0≤n):dD n (@ite _ c d v 0):=Tactic.eT (fun ag=>h) fun ag=>.z g
theorem Cs{g:bb}(h:hH g)(c:Nat):dD 60 (fR g c):=by erw[qf];exact((dD.ite (.pos h.oO h.ic) (by decide)).add (dD.ite (.pos h.s0 h.s1) (by decide))).add (dD.ite (.pos h.kb h.dH) (by decide))
theorem uf{s:Int}(h0: -60≤s)(aa:s≤60)(c:Nat):dD 60 (upd dn 0 s c):=by erw[hq];exact(dD.z (dZ 0)).add (dD.ite ⟨h0,aa⟩ (by decide))
theorem Y4{it:aI}(h:kS it)(c:Nat):dD 60 (lG it c):=by
 cases it with
 |skip t g=>exact Cs h c
 |cf t a b m=>exact uf (by have:=h.2.2.s0;exact d0 ‹_› rfl) (by have:=h.2.2.s1;exact d3 ‹_› rfl) c
 |box t w=>exact uf (by have:=h.1;exact d0 ‹_› rfl) (by have:=h.2;exact d3 ‹_› rfl) c
 |gX t w s=>exact uf (by have:=h.1;exact d0 ‹_› rfl) (by have:=h.2;exact d3 ‹_› rfl) c
 |b9=>exact uf (by decide: -60≤(0:Int)) (by decide:(0:Int)≤60) c
 |mark=>exact uf (by decide: -60≤(0:Int)) (by decide:(0:Int)≤60) c
theorem Y5:∀{l:List aI},(∀it,it∈l→kS it)→∀c,dD (60*l.length) (cp l c):=by
 intro aT
 induction aT with
 |nil=>intro _ _;exact⟨dZ 0,dZ 0⟩
 |cons a r aD=>intro h c;have aa:=Y4 (h a (.head _)) c;have ab:=aD (fun x aC=>h x (.tail _ aC)) c;have a1:=aa.lo;have a2:=aa.aw;have pG:=ab.lo;have ti:=ab.aw;erw[kP,gA];exact⟨MH ‹_› ‹_›,MG ‹_› ‹_›⟩
theorem rH{l:List aI}(h:∀it,it∈l→kS it)(k c:Nat):dD (60*l.length) (Sum l k c):=by
 erw[rD];have:=Y5 (l:=l.take k) (fun it aw=>h it (aac aw)) c;have ab:(l.take k).length≤l.length:=by erw[List.length_take];exact Nat.min_le_right _ _
 exact this.mono (CY (nL.mpr ab) (by decide))
theorem Y6{l:List aI}(h:∀it,it∈l→kS it)(q:Nat×Int×Int)(c:Nat):dD (60*l.length+6) ((node l q).en c)∧dD (60*l.length+6) ((node l q).jC c):=by
 have hw:∀{v:c3} {s:Int},dD (60*l.length) (v c)→ -6≤s→s≤6→dD (60*l.length+6) (upd v 0 s c):=fun aJ h0 aa=>by erw[hq];exact aJ.add (dD.ite ⟨h0,aa⟩ (by decide))
 have aE:∀{v:c3},dD (60*l.length) (v c)→dD (60*l.length+6) (v c):=fun aJ=>aJ.mono (CT (by decide));show dD _ (kL l q.1 c)∧dD _ (mw l q.1 c);delta kL mw;cases aw:l[q.1]? with
 |none=>exact⟨aE (rH h _ c),aE (rH h _ c)⟩
 |some it=>
  have hit:=h it (fI aw);cases it with
  |cf t a b m=>exact⟨hw (rH h _ c) (by have:=hit.1.s0;exact d0 ‹_› rfl) hit.1.s1,hw (rH h _ c) (by have:=hit.2.1.s1;exact CX ‹_›) (c0 (CX hit.2.1.s0) (by decide))⟩
  |_=>exact⟨aE (rH h _ c),aE (rH h _ c)⟩
structure KC(a:fE)(c:Nat):Prop where
 e:dD 1006000 (a.en c)
 b:dD 6000 (a.jC c)
theorem xr{l:List aI}(h:∀it,it∈l→kS it)(ar:l.length≤90)(L:List (Nat×Int×Int))(j c:Nat):KC (nodes l L j) c:=by
 induction j using fe with
 |zero=>exact⟨⟨by show-1006000≤(0:Int);decide,by show(0:Int)≤1006000;decide⟩,⟨by show-6000≤(0:Int);decide,by show(0:Int)≤6000;decide⟩⟩
 |succ j=>
  show KC (match L[j]? with|some q=>node l q|none=>j9) c
  cases L[j]? with
  |some q=>refine bC (fun aa ab=>?_) (Y6 h q c);have q:60*(l.length:Int)+6≤6000:=c0 (kl (CY (nL.mpr ar) (by decide)) 6) (by decide);exact⟨aa.mono (c0 q (by decide)),ab.mono q⟩
  |none=>refine⟨?_,⟨by show-6000≤(0:Int);decide,by show(0:Int)≤6000;decide⟩⟩;show dD _ (upd dn 0 1000000 c);erw[hq];exact(dD.z (dZ 0)).add (dD.ite (n:=1006000) ⟨by decide,by decide⟩ (by decide))
theorem Ct{S:cj}{x:Int}(ar:hH S.ls)(av:hH S.rs)(h0:0≤x)(aa:x≤20)(c:Nat):dD 200 (eL S x c):=by unfold eL;erw[hq,nC,nC];exact((((dD.z (dZ 0)).add (Cs ar c)).add (Cs av c)).add (dD.ite (.pos h0 aa) (by decide))).mono (by decide)
theorem Y7{l:List aI}{L:List (Nat×Int×Int)}{S:cj}{z x:Int}(h:∀it,it∈l→kS it)(ar:l.length≤90)(Y8:hH S.ls)(Y9:hH S.rs)(h0:0≤x)(aa:x≤20)(abh:36≤z)(ia:z≤75)(a b:Nat):wL z (gj (eL S x) (nodes l L a) (nodes l L b)):=by
 have key:∀c,dD 1013000 (gj (eL S x) (nodes l L a) (nodes l L b) c):=fun c=>by
  have g:=Ct Y8 Y9 h0 aa c;have na:=xr h ar L a c;have nb:=xr h ar L b c;have g1:=g.lo;have g2:=g.aw;have ay:=nb.e.lo;have au:=nb.e.aw;have g4:=na.b.lo;have ji:=na.b.aw;unfold gj;cases U ((nodes l L a).st>(nodes l L b).p)
  ·show dD _ ((nodes l L b).en c-(nodes l L a).jC c+eL S x c);exact⟨Mx ‹_› ‹_› ‹_› rfl,My ‹_› ‹_› ‹_› rfl⟩
  ·show dD _ (eL S x c);exact⟨d0 ‹_› rfl,d3 ‹_› rfl⟩
 have kb:=key 0;exact⟨by have:=kb.aw;exact MA ‹_› ‹_› rfl,by have:=kb.lo;exact Mz ‹_› ‹_› rfl,by have:=(key 1).aw;exact kY ‹_› rfl,by have:=(key 5).aw;exact kY ‹_› rfl⟩
theorem ug{af a6:List aI}(m:dm f5 af.reverse a6){k:Nat}(ai:k≤af.length)(c:Nat):cp (a6.take (af.length-k)) c=cp af c-cp (af.take k) c:=by
 erw[Ys m,←List.reverse_drop,JU];have:cp (af.take k++af.drop k) c=_:=nD _ _ c;rw[List.take_append_drop]at this
 lia
theorem Y'{af a6:List aI}(m:dm f5 af.reverse a6)(c:Nat):cp a6 c=cp af c:=by have h:=ug m (fx _) c;have l:=m.length;rw[ff]at l;rw[C3,←l,o8,LZ]at h;erw[h];exact eP _
theorem Za(a b c:Int):a-(b-c)=a-b+c:=by lia
theorem oY.KD{af:List aI}{r:Row}(a:oY af r):r.gs<af.length:=lR (gI (bR a.f0 a.dB) a.aM) a.ln
theorem oY.KG{af:List aI}{r:Row}(a:oY af r):r.last≤af.length-1:=xJ (lR a.aM a.ln)
theorem Zb{hp:Int}{af a6:List aI}{R:List Row}(h:gn hp af R)(m:dm f5 af.reverse a6)(kd:eK hp 0 false a6=R.reverse.map (qg 0 af.length)):gn hp a6 (R.reverse.map (kQ af.length)):=by
 have l:=m.length;replace l:=ff▸l;refine⟨fun r av=>?_,?_,?_⟩
 ·obtain⟨q,aE,rfl⟩:=f9.mp av;exact Yy (h.at' q (lU.mp aE)) m
 ·erw[List.pairwise_map,aan];refine h.dg.imp_of_mem fun{r dz} av xt hp=>?_;have a:=ja (h.at' r av);have gT:=ja (h.at' dz xt)
  rcases hp with hp|⟨ay,au,z,po,pr,f,gm⟩
  ·exact .inl (Nat.sub_le_sub_left hp _)
  ·refine .inr ⟨congrArg (af.length- ·) au.symm,congrArg (af.length- ·) ay.symm,fun c=>?_,pr,po,uy (ey gm gT.KG) gm,uy (ey f (bR gT.dB gT.KG)) f⟩;show cp (a6.take (af.length-dz.gs)) c=cp (a6.take (af.length-dz.ge)) c;erw[ug m (da gT.KD),ug m (da gT.ln),ay,au,z c]
 ·unfold b6;erw[kd,l,jO];refine congrArg (· ++_) (nP fun r av=>?_);show(0+_,_,_)=(_,_,_)
  erw[nO];rfl
theorem xu{α:Type}{R:List α}{f:α→α}{j:Nat}{r:α}(a':R[j]? =I r):(R.reverse.map f)[R.length-1-j]? =I (f r):=by have ar:=(d7.mp a').1;erw[lO,LN (J6 ar),xQ (xJ ar),a'];rfl
theorem Zc{n i:Nat}:n+1-(i+1)-1=n-1-i:=by rw[CH,Lq]
theorem KH{n i:Nat}(h:i<n):n+1-(i+1)=n-1-i+1:=by erw[CH,Lq,CI (um h)]
theorem Zd{af a6:List aI}{R:List Row}(m:dm f5 af.reverse a6)(el:∀r,r∈R→r.ge≤af.length){a:Nat}(aB:a≤R.length)(c:Nat):hZ a6 (R.reverse.map (kQ af.length)) (R.length+1-a) c=cp af c-jL af R a c:=by
 induction a using fe with
 |zero=>erw[C3,ue,jc (by erw[bF,ff];exact bE _)];show cp a6 c=_-0;erw[Y' m,rS]
 |succ i=>have av:=gp (Nat.lt_of_succ_le aB);erw[KH aB,ue,xu av,uc,av];show cp (a6.take (af.length-R[i].ge)) c+(if c=0 then R[i].post else 0)=cp af c-(cp (af.take R[i].ge) c-(if c=0 then R[i].post else 0));erw[ug m (el _ (fI av))];exact(Za _ _ _).symm
theorem Ze{af a6:List aI}{R:List Row}(m:dm f5 af.reverse a6)(el:∀r,r∈R→r.gs≤af.length){b:Nat}(h0:0<b)(ae:b≤R.length+1)(c:Nat):jL a6 (R.reverse.map (kQ af.length)) (R.length+1-b) c=cp af c-hZ af R b c:=by
 obtain⟨j,rfl⟩:=mD.mpr h0;erw[ue]
 rcases rX (o7 ae)with a'|rfl
 ·have av:=gp a';erw[KH a',uc,xu av,av];show cp (a6.take (af.length-R[j].gs)) c-(if c=0 then R[j].pre else 0)=cp af c-(cp (af.take R[j].gs) c+(if c=0 then R[j].pre else 0));erw[ug m (el _ (fI av)),Int.sub_sub]
 ·erw[kW,jc (bE _)];exact(rZ _).symm
theorem Zf(v x y g:Int):v-x-(v-y)+g=y-x+g:=by lia
theorem Zg{hp:Int}{af a6:List aI}{R:List Row}(h:gn hp af R)(h':gn hp a6 (R.reverse.map (kQ af.length)))(m:dm f5 af.reverse a6){a b:Nat}(g:c3)(du:a<b)(ae:b≤R.length+1)(c:Nat):
  gj g (nodes a6 (b6 hp a6) (R.length+1-b)) (nodes a6 (b6 hp a6) (R.length+1-a)) c=hZ af R b c-jL af R a c+g c:=by
 have ar:(R.reverse.map (kQ af.length)).length=R.length:=by erw[bF,ff]
 have aB:=ey du ae;erw[Ck h' g (uy aB du) (by erw[ar];exact rY ..),Zd m (fun r av=>da (ja (h.at' r av)).ln) (kf aB),Ze m (fun r av=>da (ja (h.at' r av)).KD) (gI (fx _) du) ae];exact Zf _ _ _ _
structure b1(D:bX)(bp aR af a6:List aI):Prop where
 told:Told D bp aR af
 b:Co af D.ws D.gs D.rs
 rws:gn D.S.hp (af++aR) D.rs
 nH:gn D.S.hp a6 (D.rs.reverse.map (kQ (af++aR).length))
 qk:dm f5 (af++aR).reverse a6
 en:D.en=(af++aR).length
 gr:D.gr=qd D.T D.S
 ok:iK D
 fA:t6 D.T D.S bp aR D.ws.length
 xv:jM (af++aR)
 ln:(af++aR).length≤89
theorem KI{T:Tl}{S:cj}{bp aR af:List aI}{ws:List Int}{gs:List (List bb)}{rs:List Row}{cU n:Nat}(cc:t6 T S bp aR cU)(l:Lay S.hp bp af ws gs rs)(aA:ws.length=cU):iK ⟨T,S,ws,gs,rs,qd T S,n⟩:=by
 refine eA fun cF=>?_;obtain⟨t7,lI,lJ⟩:=cc.eI;refine cF ?_;have lV:=rG lI;have g4:=rG cc.ay;have f:=Kp l;have gz:=Cp cc.fQ.wU cc.fQ.rx (by erw[lJ];exact lV.1.rev) (by erw[lJ,ff];exact qe lI) l;have b0:=cc.JQ;have hw:=f.w;refine⟨hw,by show ws.length≤5;lia,f.g,?_,gz.g2,gz.a4,gz.dg,fun r av=>?_,lV.2.1,g4.2.1,lV.2.2,g4.2.2,fun g aK=>?_,bE _⟩
 ·have:=gz.b3;show rs.length≤13;lia
 ·have:=gz.pr r av;exact⟨⟨this.dA,this.cL⟩,this.kI,this.eu⟩
 ·simp only[qd,ec,kX,or_false]at aK
  rcases aK with rfl|rfl|rfl
  ·exact⟨dZ 0,by show(0:Int)≤20;decide,cc.x0,cc.c2,dZ 0,by show(0:Int)≤3;decide,dZ 0,by show(0:Int)≤20;decide⟩
  ·exact cc.fQ.ls
  ·exact cc.fQ.rs
theorem Zh{T:Tl}{S:cj}{bp aR af a6:List aI}{ws:List Int}{gs:List (List bb)}{rs:List Row}{cU:Nat}(cc:t6 T S bp aR cU)(l:Lay S.hp bp af ws gs rs)(aA:ws.length=cU)(m:dm f5 (af++aR).reverse a6):b1 ⟨T,S,ws,gs,rs,qd T S,(af++aR).length⟩ bp aR af a6:=by
 refine eA fun cF=>?_;obtain⟨t7,lI,lJ⟩:=cc.eI;refine cF ?_;have f:=Kp l;have gz:=Cp cc.fQ.wU cc.fQ.rx (by erw[lJ];exact(rG lI).1.rev) (by erw[lJ,ff];exact qe lI) l;have qa:=Yo l (fun i=>by erw[lJ];exact J2 lI _ i) (fun i bh=>by erw[lJ,L0];exact J1 lI _ i bh);have old:=fun r av=>ja (f.at' r av);have tk:∀k,k≤af.length→(af++aR).take k=af.take k:=fun k ai=>r3 ai;have el:gn S.hp (af++aR) rs:=by
  refine⟨fun r av=>Kh (f.at' r av),f.dg.imp_of_mem fun{a b} aB ae h=>?_,?_⟩
  ·have aa:=old a aB;have eu:=aa.ln;have gc:=aa.f0;have hc:=aa.dB;have ry:=aa.aM
   rcases h with h|⟨ab,aq,ba,b0,d2,fk,pH⟩
   ·exact .inl h
   ·exact .inr ⟨ab,aq,fun c=>by erw[tk _ (da ‹_›),tk _ (by lia)];exact ba c,b0,d2,fk,pH⟩
  ·unfold b6;erw[nF,qa.f,J1 cc.ay,ei]
 have xb:=qe cc.ay;refine⟨⟨f,fun c=>by erw[lJ,JU];exact Kk lI c,Kk cc.ay⟩,gz,el,Zb el m ?_,m,rfl,rfl,KI cc l aA,by erw[aA];exact cc,(⟨gz.it,gz.k,gz.qj⟩:jM af).app (rG cc.ay).1,?_⟩
 ·erw[Yr m,nT,nF,J2 cc.ay,qa.r,nR,ff,nO];exact Ca (fun r av=>qa.l r (lU.mp av)) (by erw[b4];lia) (by erw[b4];exact f6 _ _)
 ·have:=gz.ln;have:=cc.JQ;erw[b4];lia
noncomputable def eh(v:c3):Int:=v 0-v 5
theorem Zi(a b c d:Int):a-b+(c-d)=a+c-(b+d):=by lia
theorem KJ(a b c d e f p:Int):a+c+e+p-(b+d+f+0)=a-b+(c-d)+(e-f)+p:=by lia
theorem xw{m A B p KL KN q:Int}{d:Nat}(aa:A+8*d≤KL)(hd:1≤d)(ab:B≤KN)(h:p≤q+8):m+A+B+p≤m+KL+KN+q:=by lia
theorem Zj(a b c d e f p q:Int):a+c+e+p-(b+d+f+q)=a-b+(c-d)+(e-f)+(p-q):=by lia
theorem Zk{z w k:Int}(h0:0≤k)(h:z-w>0):w-k≤z:=by lia
theorem KO{z w k:Int}: -(z-w)>k↔ ¬w-k≤z:=⟨fun h=>by lia,fun h=>by lia⟩
theorem fit_le{z:Int}{v:c3}(k:0≤v 5):(e8 z v).1≤10000↔eh v≤z:=by
 unfold e8;refine bZ (fun h:z-v 0>0=>?_) (fun h=>?_)
 ·erw[decide_eq_true h];refine⟨fun ag=>Zk k h,fun ag=>?_⟩;cases nt v
  ·cases U (eJ (z-v 0) (v 1)>99)<;>exact((tN (e:=z-v 0) (w:=v 1) (jN h)).2)
  ·exact(by decide:(0:Int)≤10000)
 ·erw[decide_eq_false h];refine bZ (fun e: -(z-v 0)>v 5=>?_) (fun e=>?_)
  ·erw[decide_eq_true e];exact⟨fun ab=>absurd ab (by decide:¬(10001:Int)≤10000),fun ab=>absurd ab (KO.mp e)⟩
  ·erw[decide_eq_false e];exact⟨fun ag=>CN.mp fun n=>e (KO.mpr n),fun ag=>(tN (Int.neg_nonneg_of_nonpos (ez.mp h))).2⟩
theorem Cu:∀{l:List bb},(∀g,g∈l→jE g)→0≤eh (cO l):=by
 intro aT
 induction aT with
 |nil=>intro _;exact dZ 0
 |cons g r aD=>intro h;have aG:=aD fun x aC=>h x (.tail _ aC);have aK:=h g (.head _);show 0≤cO (g::r) 0-cO (g::r) 5;erw[lH,lH,JV,B8 aK.b.a0];exact c0 (r2 (aao aK.k) aG) (nS (Zi _ _ _ _))
theorem Zl{A X Y w:Int}{d:Nat}(h:A+8*d≤X-Y)(hw:8≤w):A+8*((d+1:Nat):Int)≤X+w-(Y+0):=by lia
theorem Zm{A X Y a b:Int}(h:A≤X-Y)(ab:0≤a-b):A≤X+a-(Y+b):=by lia
theorem Zn{ws:List Int}(h:∀w,w∈ws→8≤w∧w≤40){k:Nat}:∀d:Nat,k+d≤ws.length→eh (eO ws k)+8*d≤eh (eO ws (k+d)):=by
 intro eW
 induction eW with
 |zero=>intro _;exact nS (eP _)
 |succ d aD=>intro ai;show _≤eO ws (k+d+1) 0-eO ws (k+d+1) 5;erw[xl (k:=k+d) ai,xl (k:=k+d) ai,ub,ub];exact Zl (aD (xW ai)) ((h _ (fI (get_map (l:=ws) (k:=k+d) ai))).1)
theorem Zo{gs:List (List bb)}(h:∀l,l∈gs→∀g,g∈l→jE g){k:Nat}:∀d,k+d≤gs.length→eh (e0 gs k)≤eh (e0 gs (k+d)):=by
 intro eW
 induction eW with
 |zero=>intro _;exact dZ _
 |succ d aD=>intro ai;show _≤e0 gs (k+d+1) 0-e0 gs (k+d+1) 5;erw[xm (k:=k+d) ai,xm (k:=k+d) ai];exact Zm (aD (xW ai)) (Cu (h _ (fI (BP (l:=gs) (k:=k+d) ai))))
section
variable{D:bX}{bp aR af a6:List aI}
theorem b1.KP(h:b1 D bp aR af a6){j:Nat}(a':j<D.rs.length)(c:Nat):hZ (af++aR) D.rs (j+1) c=cp bp c+eO D.ws ((D.row j).g+1) c+e0 D.gs (D.row j).g c+(if c=0 then(D.row j).pre else 0):=by refine bC (fun ay au=>?_) (xo (hY a'));erw[h.told.Cn (da a'),ay,au,xn]
theorem b1.KQ(h:b1 D bp aR af a6)(c:Nat):hZ (af++aR) D.rs (D.rs.length+1) c=cp bp c+eO D.ws D.ws.length c+e0 D.gs D.gs.length c+cO D.T.ay c:=by refine bC (fun ay au=>?_) (xp (D:=D));erw[h.told.Cn (bE _),ay,au,h.told.f.w];rfl
theorem b1.KR(h:b1 D bp aR af a6){j:Nat}(a':j<D.rs.length)(c:Nat):jL (af++aR) D.rs (j+1) c=cp bp c+eO D.ws ((D.row j).g+1) c+e0 D.gs ((D.row j).g+1) c-(if c=0 then(D.row j).post else 0):=by have av:=hY a';have ay:D.lo (fH (j+1))=(D.row j).g+1:=congrArg (fun o:Option Row=>o.elim 0 (·.g+1)) av;have au:D.kN (fH (j+1))=[f3 (D.row j).post]:=congrArg (fun o:Option Row=>o.elim D.T.eI fun r=>[f3 r.post]) av;erw[h.told.Ku a',ay,au,xn]
theorem b1.a4(h:b1 D bp aR af a6){i j:Nat}(iL:i<j)(a':j<D.rs.length):(D.row i).g<(D.row j).g∨((D.row j).g=(D.row i).g∧(D.row i).pre=0∧(D.row j).pre=0∧(D.row i).post=0∧(D.row j).post=0):=by
 have aw:=hY (D:=D) (i:=i) (lR ‹_› ‹_›);have:Ci D.gs (D.row i) (D.row j):=by
  have:=C1.mp h.told.f.a4 i j (lR ‹_› ‹_›) a' iL
  rwa [(d7.mp aw).2,(d7.mp (hY a')).2]at this
 rcases this with aa|⟨aa,_,ab⟩
 ·exact .inl aa
 ·exact .inr ⟨aa,ab⟩
theorem b1.row(h:b1 D bp aR af a6){j:Nat}(a':j<D.rs.length):xq (D.row j)∧(D.row j).g<D.gs.length:=by have hm:=fI (hY a');exact⟨h.b.pr _ hm,h.told.f.g _ hm⟩
theorem b1.KS(h:b1 D bp aR af a6){j:Nat}(a':j<D.rs.length):eh (hZ (af++aR) D.rs (j+1))=eh (cp bp)+eh (eO D.ws ((D.row j).g+1))+eh (e0 D.gs (D.row j).g)+(D.row j).pre:=by unfold eh;rw[h.KP a',h.KP a'];exact KJ _ _ _ _ _ _ _
theorem b1.KU(h:b1 D bp aR af a6){j:Nat}(a':j<D.rs.length):eh (jL (af++aR) D.rs (j+1))=eh (cp bp)+eh (eO D.ws ((D.row j).g+1))+eh (e0 D.gs ((D.row j).g+1))+ -(D.row j).post:=by unfold eh;rw[h.KR a',h.KR a'];exact KJ _ _ _ _ _ _ (-(D.row j).post)
theorem b1.Zp(h:b1 D bp aR af a6):eh (hZ (af++aR) D.rs (D.rs.length+1))=eh (cp bp)+eh (eO D.ws D.ws.length)+eh (e0 D.gs D.gs.length)+eh (cO D.T.ay):=by unfold eh;rw[h.KQ,h.KQ];exact Zj _ _ _ _ _ _ _ _
theorem b1.xx(h:b1 D bp aR af a6){i j:Nat}(iL:i<j)(a':j≤D.ws.length):eh (eO D.ws i)+8*(j-i:Nat)≤eh (eO D.ws j)∧1≤j-i:=by have:=Zn h.ok.dg (k:=i) (j-i) (by erw[mH (da iL)];exact a');rw[mH (da iL)]at this;exact⟨this,um iL⟩
theorem b1.xy(h:b1 D bp aR af a6){i j:Nat}(iL:i≤j)(a':j≤D.gs.length):eh (e0 D.gs i)≤eh (e0 D.gs j):=by
 have:=Zo h.ok.a4 (k:=i) (j-i) (by erw[mH iL];exact a')
 rwa [mH iL]at this
theorem b1.Zq(h:b1 D bp aR af a6){t b:Nat}(h0:0<t)(ae:t<b)(ib:b≤D.rs.length+1):eh (hZ (af++aR) D.rs t)≤eh (hZ (af++aR) D.rs b):=by
 obtain⟨i,rfl⟩:=mD.mpr h0;obtain⟨j,rfl⟩:=mD.mpr (lR h0 ae);have iL:=rO ae;have aw:=ey iL (o7 ib);obtain⟨bi,gi⟩:=h.row aw;have hw:=h.told.f.w;have uh:∀{q:Int},0≤q→(D.row i).pre≤q+8:=fun aE=>c0 bi.cL (c0 (by decide) (kl aE 8));erw[h.KS aw];refine eF (CO j D.rs.length) (fun a'=>?_) (fun a'=>?_)
 ·obtain⟨Cv,rI⟩:=h.row a';erw[h.KS a']
  rcases h.a4 iL a' with aK|⟨e,ay,au,_⟩
  ·obtain⟨hQ,d⟩:=h.xx (C2 aK) (by erw[hw];exact je (da rI));exact xw hQ d (h.xy (da aK) (da rI)) (uh Cv.dA)
  ·erw[e,ay,au];exact dZ _
 ·obtain rfl:j=D.rs.length:=rU (o7 ib) a';erw[h.Zp];obtain⟨hQ,d⟩:=h.xx (i:=(D.row i).g+1) (j:=D.ws.length) (by erw[hw];exact C2 gi) (bE _);exact xw hQ d (h.xy (da gi) (bE _)) (uh (Cu h.ok.ay))
theorem b1.Zr(h:b1 D bp aR af a6){a t:Nat}(md:a<t)(a5:t≤D.rs.length):eh (jL (af++aR) D.rs a)≤eh (jL (af++aR) D.rs t):=by
 obtain⟨j,rfl⟩:=mD.mpr (gI (fx a) md);obtain⟨Cv,rI⟩:=h.row a5;have KV:(D.row j).g+1≤D.ws.length:=by erw[(h.told.f.w)];exact je (da rI)
 have uh:∀{p:Int},p≤0→p≤ -(D.row j).post+8:=fun hp=>c0 hp (by have:=Cv.eu;lia);erw[h.KU a5]
 induction a using fe with
 |zero=>obtain⟨hQ,d⟩:=h.xx (i:=0) (jh _) KV;have eI:=congrArg eh (funext h.told.eI);refine c0 (b:=eh (cp bp)+0+0+0) ?_ (xw hQ d (h.xy (i:=0) (fx _) rI) (uh (dZ 0)));erw[eI,eP,eP,eP];exact Cu h.ok.eI
 |succ i=>
  have iL:=rO md;have aw:=lR iL a5;obtain⟨bi,gi⟩:=h.row aw;erw[h.KU aw]
  rcases h.a4 iL a5 with aK|⟨e,_,_,ay,au⟩
  ·obtain⟨hQ,d⟩:=h.xx (C2 aK) KV;exact xw hQ d (h.xy (je (da aK)) rI) (uh (L1 bi.kI))
  ·erw[e,ay,au];exact dZ _
end
noncomputable abbrev pr(D:bX)(af:List aI)(S:cj):bM:=(j' af S 0 0 D.T.z D.T.most D.T.x false).par
def nI(af:List aI)(R:List Row)(g:c3)(a b:Nat):c3:=fun c=>hZ af R b c-jL af R a c+g c
theorem KW(i:Int):p4 i≤10000:=by unfold p4;refine Tactic.eT (fun h=>?_) (fun h=>?_)<;>lia
theorem Zs{z:Int}{v:c3}(ab:0<v 2)(h:(e8 z v).1≤10000):2≤(e8 z v).2∧(e8 z v).2≤3:=by
 have aw:nt v=true:=by unfold nt;erw[decide_eq_false (show¬v 2=0 by lia)];rfl
 unfold e8 at h⊢;rw[aw]at h⊢;cases hd:U (z-v 0>0)with
 |true=>exact⟨by show(2:Int)≤2;decide,by show(2:Int)≤3;decide⟩
 |false=>
  rw[hd]at h;cases he:U (-(z-v 0)>v 5)with
  |true=>rw[he]at h;exact absurd h (by show¬(10001:Int)≤10000;decide)
  |false=>show 2≤(bif U (eJ (-(z-v 0)) (v 5)>12)then(3:Int)else 2)∧(bif U (eJ (-(z-v 0)) (v 5)>12)then(3:Int)else 2)≤3;cases U (eJ (-(z-v 0)) (v 5)>12)<;>decide
theorem Zt{z:Int}{v:c3}(aa:¬z-v 0>0)(ab: -(z-v 0)>v 5):(e8 z v).1=10001:=by unfold e8;erw[decide_eq_false aa,decide_eq_true ab];rfl
section
variable{D:bX}{af:List aI}{R:List Row}{S:cj}
theorem KX(h:gn S.hp af R):(pr D af S).M=R.length+1:=by show(b6 S.hp af).length=_;erw[h.kd,b4,bF];rfl
theorem xA(h:gn S.hp af R){a b:Nat}(du:a<b)(ae:b≤R.length+1):e8 D.T.z (gj (eL S D.T.x) (nodes af (b6 S.hp af) a) (nodes af (b6 S.hp af) b))=e8 D.T.z (nI af R (eL S D.T.x) a b):=by erw[show gj (eL S D.T.x) (nodes af (b6 S.hp af) a) (nodes af (b6 S.hp af) b)=nI af R (eL S D.T.x) a b from funext fun c=>Ck h _ du ae c]
structure xB(D:bX)(S:cj)(af:List aI):Prop where
 it:∀it,it∈af→kS it
 n:af.length≤90
 ls:hH S.ls
 rs:hH S.rs
 x0:0≤D.T.x
 c2:D.T.x≤20
 dn:36≤D.T.z
 ia:D.T.z≤75
theorem Zu(aA:af.length≤90)(j:Nat):(nodes af (b6 S.hp af) j).st≤90:=by
 induction j using fe with
 |zero=>show(0:Int)≤90;decide
 |succ j=>
  show(match(b6 S.hp af)[j]? with|some q=>node af q|none=>j9).st≤90
  cases aE:(b6 S.hp af)[j]? with
  |none=>show(0:Int)≤90;decide
  |some q=>have:=IJ (II (fI aE)).le;show((gY af q.1:Nat):Int)≤90;exact x8 ‹_› ‹_› rfl
theorem KY(h:gn S.hp af R)(d:xB D S af){a b:Nat}(ae:R.length+1<b):(pr D af S).bad a b=10001:=by
 show(e8 D.T.z (gj (eL S D.T.x) (nodes af (b6 S.hp af) a) (nodes af (b6 S.hp af) b))).1=_;erw[YO h ae];have aL:=Zu (S:=S) d.n a;have kb:=(xr d.it d.n (b6 S.hp af) a 0).b;have mj:=(xr d.it d.n (b6 S.hp af) a 5).b;have oJ:=Ct d.ls d.rs d.x0 d.c2 0;have tM:=Ct d.ls d.rs d.x0 d.c2 5;generalize nodes af (b6 S.hp af) a=nd at aL kb mj⊢;generalize eL S D.T.x=g at oJ tM⊢;have e:gj g nd j9=fun k=>j9.en k-nd.jC k+g k:=by unfold gj;erw[decide_eq_false (show¬nd.st>1000000 from ez.mpr (c0 aL (by decide)))];rfl
 have oO:993800≤j9.en 0-nd.jC 0+g 0:=kh (L2 kb.aw 1000000) oJ.lo;have Zv:j9.en 5-nd.jC 5+g 5≤6200:=kh (L2 mj.lo 0) tM.aw;erw[e];exact Zt (ez.mpr (Int.sub_nonpos_of_le (c0 d.ia (c0 (by decide) oO)))) ((Int.neg_sub ..).symm▸mC Zv (o1 (by decide) (uo oO d.ia)))
noncomputable def oZ(p:Int):Int:=bif U (p>0)then p*p else bif U (p> -10000)then-(p*p)else 0
structure ql(nd:fE)(len pc:Int)(ds en:Bool):Prop where
 b9:oZ nd.b9=pc
 s:U (nd.sort=1)=(ds||en)
 p:U (nd.p=len)=en
noncomputable def qm(R:List Row):Nat→Int
 |0=>0
 |j+1=>(R[j]?).elim 0 fun r=>oZ (gF r.b9)
noncomputable def kT(R:List Row):Nat→Bool
 |0=>false
 |j+1=>(R[j]?).elim false (·.cf)
theorem ui{R:List Row}{j:Nat}:qm R (j+1)=(R[j]?).elim 0 fun r=>oZ (gF r.b9):=rfl
theorem rJ{R:List Row}{j:Nat}:kT R (j+1)=(R[j]?).elim false (·.cf):=rfl
def Zw(D:bX)(R:List Row)(S:cj)(bad:Nat→Nat→Int)(a b:Nat):Int:=lc (S.cT+bad a b)+(bif kT R a&&kT R b then S.dV else 0)
theorem KZ(h:gn S.hp af R){j:Nat}{r:Row}(av:R[j]? =I r):ql (nodes af (b6 S.hp af) (j+1)) af.length (oZ (gF r.b9)) r.cf false:=by
 have a:=ja (h.at' r (fI av));have eu:=a.ln;have gc:=a.dB;have hc:=a.aM;erw[ud h av];refine⟨rfl,?_,decide_eq_false ?_⟩
 ·show U ((bif r.cf then(1:Int)else 0)=1)=_;cases r.cf<;>rfl
 ·show¬((r.first:Nat):Int)=(af.length:Nat)
  lia
theorem K0(h:gn S.hp af R):ql (nodes af (b6 S.hp af) (R.length+1)) af.length 0 false true:=by erw[xi h];exact⟨rfl,rfl,decide_eq_true rfl⟩
theorem K1:ql (nodes af (b6 S.hp af) 0) af.length 0 false false:=⟨rfl,rfl,decide_eq_false (by show¬(-1:Int)=(af.length:Nat);lia)⟩
theorem K2(h:gn S.hp af R){j:Nat}(a':j≤R.length+1):ql (nodes af (b6 S.hp af) j) af.length (qm R j) (kT R j) (U (j=R.length+1)):=by
 induction j using fe with
 |zero=>erw[decide_eq_false (by lia)];exact K1
 |succ j=>
  erw[ui,rJ];cases av:R[j]? with
  |some r=>have:=(d7.mp av).1;erw[decide_eq_false (by lia)];exact KZ h av
  |none=>
   have:=xU.mp av;obtain rfl:j=R.length:=by lia
   erw[decide_eq_true rfl];exact K0 h
theorem K3{N:Nat→fE}{a b:Nat}{len bx bN:Int}{mZ db bT cV:Bool}{cT dV bad:Int}(aB:ql (N a) len bx mZ bT)(ae:ql (N b) len bN db cV)(aa:bT=false)(ab:cV=true→db=false):
  nu cT bad (N b).b9+(bif U ((N b).sort=1)&&U ((N a).sort=1)then bif U ((N b).p=len)then 0 else dV else 0)=lc (cT+bad)+(bif mZ&&db then dV else 0)+bN:=by
 have ay:nu cT bad (N b).b9=lc (cT+bad)+bN:=by erw[←ae.b9];rfl
 erw[ay,aB.s,ae.s,ae.p,aa]
 induction cV using hK with
 |false=>cases mZ<;>cases db<;>(simp only[LP,LR,C4,lT,LD,cond_true,cond_false];exact CU _ _ _)
 |true=>erw[ab rfl];cases mZ<;>(simp only[LP,xS,LR,C4,lT,LD,cond_true,cond_false];exact CU _ _ _)
theorem K4:kT R (R.length+1)=false∧qm R (R.length+1)=0:=by erw[ui,rJ,jc (bE _)];exact⟨rfl,rfl⟩
end
theorem dB{M a b:Nat}(h:a<b)(ae:b≤M):M-b<M-a:=uy (ey h ae) h
theorem gR.sym{P cn:bM}{g:Nat→Nat→Int}{pc:Nat→Int}(m:gR P cn g pc):gR cn P (fun a b=>g (P.M-b) (P.M-a)) fun j=>pc (P.M-j):=by
 have e:∀{a},a≤P.M→P.M-(P.M-a)=a:=xQ;have qn:=m.M;have tO:∀{a b},a<b→b≤P.M→cn.bad a b=P.bad (P.M-b) (P.M-a)∧cn.fit a b=P.fit (P.M-b) (P.M-a)∧cn.cst a b=g (P.M-b) (P.M-a)+pc (P.M-b):=fun{a b} aa ab=>by have l:=dB aa ab;have r:=rY P.M a;have cZ:=m.bad _ _ l r;have dt:=m.fit _ _ l r;have gw:=m.HL _ _ l r;rw[e ab,e (bR (da aa) ab)]at cZ dt gw;exact⟨cZ,dt,gw⟩
 refine⟨qn.symm,m.A.symm,m.most.symm,fun a b aa ab=>?_,fun a b aa ab=>?_,fun t aa ab=>?_,fun a b aa ab=>?_,fun a b aa ab=>?_,m.HN,?_⟩
 ·rw[qn]at ab⊢;exact(tO aa ab).1.symm
 ·rw[qn]at ab⊢;exact(tO aa ab).2.1.symm
 ·rw[qn]at ab⊢;have:=m.hU _ (um ab) (uC (gI (fx _) ab) aa);rw[e (da ab)]at this;exact this.symm
 ·rw[qn]at ab;exact(tO aa ab).2.2
 ·rw[qn]at ab⊢;exact m.cst _ _ (dB aa ab) (rY ..)
 ·show pc (P.M-cn.M)=0;erw[qn,kW];exact m.HM
section
variable{D:bX}{bp aR af a6:List aI}{L:Int}
theorem Zx(S:cj)(x L:Int):eL (SL S.ex L) x=eL (SL S L) x:=by
 funext c
 unfold eL;erw[hq,hq,nC,nC,nC,nC];show dn c+fR S.rs c+fR S.ls c+_=dn c+fR S.ls c+fR S.rs c+_
 lia
theorem b1.qX(h:b1 D bp aR af a6):xB D (SL D.S L) (af++aR):=⟨h.xv.it,by have:=h.ln;exact ya ‹_›,h.fA.fQ.ls,h.fA.fQ.rs,h.fA.x0,h.fA.c2,h.fA.dn,h.fA.ia⟩
theorem b1.K5(h:b1 D bp aR af a6):xB D (SL D.S.ex L) a6:=by have l:=h.qk.length;rw[ff]at l;exact⟨Y3 h.qk h.xv.rev.it,by have:=h.ln;exact x1 ‹_› ‹_› rfl,h.fA.fQ.rs,h.fA.fQ.ls,h.fA.x0,h.fA.c2,h.fA.dn,h.fA.ia⟩
theorem b1.Cw(h:b1 D bp aR af a6){a b:Nat}(du:a<b)(ae:b≤D.rs.length+1):cO (D.line (fH a) (b-1))=nI (af++aR) D.rs (eL (SL D.S L) D.T.x) a b:=by
 funext c
 erw[YY h.told du ae c,h.gr];unfold nI;erw[show eL (SL D.S L) D.T.x c=eL D.S D.T.x c from rfl,X2];rfl
theorem b1.gz(h:b1 D bp aR af a6){a:Option Nat}{b:Nat}:∀g,g∈D.line a b→oS g:=JA h.ok Jz (fun ag h=>h.b.gz) fun ag h=>h.gz
theorem b1.hz(h:b1 D bp aR af a6){a b:Nat}(du:a<b)(ae:b≤D.rs.length+1):ip D.T.z (D.line (fH a) (b-1))=((pr D (af++aR) (SL D.S L)).bad a b,(pr D (af++aR) (SL D.S L)).fit a b):=by erw[X' h.gz,h.Cw (L:=L) du ae,←xA (S:=SL D.S L) h.rws du ae];rfl
theorem b1.mj(h:b1 D bp aR af a6){a b:Nat}(du:a<b)(ae:b≤D.rs.length+1):0≤nI (af++aR) D.rs (eL (SL D.S L) D.T.x) a b 5:=by erw[←h.Cw (L:=L) du ae];exact(B' h.gz).qD
theorem b1.fits(h:b1 D bp aR af a6){a b:Nat}(du:a<b)(ae:b≤D.rs.length+1):(pr D (af++aR) (SL D.S L)).bad a b≤10000↔eh (nI (af++aR) D.rs (eL (SL D.S L) D.T.x) a b)≤D.T.z:=by erw[←fit_le (h.mj du ae),←xA (S:=SL D.S L) h.rws du ae];exact Iff.rfl
theorem Zy{p q r a b c:Int}:(p-q+r)-(a-b+c)=(p-a)-(q-b)+(r-c):=by lia
theorem Cx{af:List aI}{R:List Row}{g:c3}{a b:Nat}:eh (nI af R g a b)=eh (hZ af R b)-eh (jL af R a)+eh g:=Zy
theorem b1.mono(h:b1 D bp aR af a6){a t b:Nat}(aa:a<t)(ab:t<b)(ae:b≤D.rs.length+1)(hf:(pr D (af++aR) (SL D.S L)).bad a b≤10000):(pr D (af++aR) (SL D.S L)).bad a t≤10000∧(pr D (af++aR) (SL D.S L)).bad t b≤10000:=by have e:=c0 (nS Cx.symm) ((h.fits (L:=L) (lR aa ab) ae).mp hf);exact⟨(h.fits aa (uG ‹_› ‹_›)).mpr (c0 (nS Cx) (c0 (kl (Lo (h.Zq (Df ‹_› rfl) ab ae) _) _) e)),(h.fits ab ae).mpr (c0 (nS Cx) (c0 (kl (L2 (h.Zr aa (Dg ‹_› ‹_›)) _) _) e))⟩
theorem six{a b c d:Int}(aa:0≤a)(ab:b=6)(aq:0≤c)(ba:0≤d):0<a+b+c+d:=L3 (L3 (ab▸aap aa (by decide)) aq) ba
theorem Zz{a b c d:Int}(aa:0≤a)(ab:0≤b)(aq:c=6)(ba:0≤d):0<a+b+c+d:=L3 (aq▸aap (r2 aa ab) (by decide)) ba
theorem b1.two(h:b1 D bp aR af a6)(ax:D.S.cu≠0){a b:Nat}(du:a<b)(ae:b≤D.rs.length+1)(he:a=0∨b=D.rs.length+1)(hf:(pr D (af++aR) (SL D.S L)).bad a b≤10000):2≤(pr D (af++aR) (SL D.S L)).fit a b∧(pr D (af++aR) (SL D.S L)).fit a b≤3:=by
 refine bC (fun eI ay=>?_) (h.fA.ad ax);have i2:(e8 D.T.z (nI (af++aR) D.rs (eL (SL D.S L) D.T.x) a b)).1≤10000:=by erw[←xA (S:=SL D.S L) h.rws du ae];exact hf
 have ab:0<nI (af++aR) D.rs (eL (SL D.S L) D.T.x) a b 2:=by
  erw[←h.Cw (L:=L) du ae];have q:∀l:List bb,(∀g,g∈l→g∈D.line (fH a) (b-1))→0≤cO l 2:=fun l ar=>(B' fun g aK=>h.gz g (ar g aK)).ck;unfold bX.line at q⊢;erw[nE,nE,nE];have eu:=q D.gr fun g aK=>dR.mpr (.inl (dR.mpr (.inl (dR.mpr (.inl aK)))));have gc:=q (D.kN (fH a)) fun g aK=>dR.mpr (.inl (dR.mpr (.inl (dR.mpr (.inr aK)))));have hc:=q (D.i' (b-1)) fun g aK=>dR.mpr (.inl (dR.mpr (.inr aK)));have ry:=q _ fun g aK=>dR.mpr (.inr aK);have v6:cO [⟨0,6,1,0⟩] 2=6:=rfl
  rcases he with rfl|rfl
  ·have:cO (D.kN (fH 0)) 2=6:=by show cO D.T.eI 2=6;erw[eI];exact v6
   exact Tactic.L.six eu this hc ry
  ·have:cO (D.i' (D.rs.length+1-1)) 2=6:=by unfold bX.i';erw[lS,jc (bE _)];erw[ay];exact v6
   exact Zz eu gc this ry
 have:=Zs ab i2;rw[←xA (S:=SL D.S L) h.rws du ae]at this;exact this
end
theorem K6{P:bM}{f:Int}(h:P.A≠0→2≤f∧f≤3):P.cu f 2=0:=by
 refine bZ (fun ax:P.A=0=>?_) (fun ax=>?_)
 ·show(if _ then P.A else 0)=0;erw[ax];exact ite_self _
 ·exact if_neg (kU.mpr (nL.mp (c0 (nS (xI (aao (h ax).1))) (Lo (h ax).2 2))))
theorem K7{D:bX}{af:List aI}{R:List Row}{S:cj}(h:gn S.hp af R):(pr D af S).hU (R.length+1)=true:=by show U ((nodes af (b6 S.hp af) (R.length+1)).b9= -10000)=true;erw[xi h];rfl
theorem Cy{D:bX}{af:List aI}{R:List Row}{S:cj}(h:gn S.hp af R){j:Nat}{r:Row}(av:R[j]? =I r):(pr D af S).hU (j+1)=U (gF r.b9= -10000):=by show U ((nodes af (b6 S.hp af) (j+1)).b9= -10000)=_;erw[ud h av];rfl
theorem K8(P:bM)(L:Int)(h:P.cC=fun i=>bif U (L=0)then 1 else i):∀i j,P.cC i=P.cC j→P.cC (i+1)=P.cC (j+1):=by
 intro i j e;rw[h]at e⊢;revert e;cases U (L=0)
 ·intro e;have e:i=j:=e;erw[e]
 ·exact fun ag=>rfl
section
variable{D:bX}{bp aR af a6:List aI}{L:Int}
theorem b1.qo(h:b1 D bp aR af a6):(D.rs.reverse.map (kQ (af++aR).length)).length=D.rs.length:=by erw[bF,ff]
theorem b1.M(h:b1 D bp aR af a6):(pr D (af++aR) (SL D.S L)).M=D.rs.length+1:=KX (S:=SL D.S L) h.rws
theorem b1.hI(h:b1 D bp aR af a6):(pr D a6 (SL D.S.ex L)).M=D.rs.length+1:=by erw[←h.qo];exact KX (S:=SL D.S.ex L) h.nH
theorem b1.Cz(h:b1 D bp aR af a6){a b:Nat}(du:a<b)(ae:b≤D.rs.length+1):e8 D.T.z (gj (eL (SL D.S.ex L) D.T.x) (nodes a6 (b6 D.S.hp a6) (D.rs.length+1-b)) (nodes a6 (b6 D.S.hp a6) (D.rs.length+1-a)))=e8 D.T.z (gj (eL (SL D.S L) D.T.x) (nodes (af++aR) (b6 D.S.hp (af++aR)) a) (nodes (af++aR) (b6 D.S.hp (af++aR)) b)):=by rw[Zx];refine congrArg (e8 D.T.z) (funext fun c=>?_);rw[Zg h.rws h.nH h.qk _ du ae,Ck h.rws _ du ae]
theorem b1.K9(h:b1 D bp aR af a6){j:Nat}(a':j≤D.rs.length+1):ql (nodes a6 (b6 D.S.hp a6) (D.rs.length+1-j)) a6.length (qm D.rs j) (kT D.rs j) (U (j=0)):=by
 induction j using fe with
 |zero=>have:=K0 (S:=SL D.S.ex 0) h.nH;rw[h.qo]at this;exact this
 |succ i=>
  erw[decide_eq_false (Nat.succ_ne_zero i),ui,rJ];cases av:D.rs[i]? with
  |some r=>have aw:=(d7.mp av).1;erw[show D.rs.length+1-(i+1)=(D.rs.length-1-i)+1 by exact Dr ‹_›];exact KZ (S:=SL D.S.ex 0) (r:=kQ (af++aR).length r) h.nH (xu av)
  |none=>have:=xU.mp av;erw[show D.rs.length+1-(i+1)=0 by exact CP (je ‹_›)];exact K1 (S:=SL D.S.ex 0)
theorem b1.lK(h:b1 D bp aR af a6):gR (pr D (af++aR) (SL D.S L)) (pr D a6 (SL D.S.ex L)) (Zw D D.rs (SL D.S L) (pr D (af++aR) (SL D.S L)).bad) (qm D.rs):=by
 refine⟨h.hI.trans h.M.symm,rfl,rfl,fun a b aa ab=>?_,fun a b aa ab=>?_,fun t aa ab=>?_,fun a b aa ab=>?_,fun a b aa ab=>?_,rfl,by rw[h.M];exact K4.2⟩
 all_goals (rw[h.M]at*)
 ·exact congrArg CF (h.Cz aa ab)
 ·exact congrArg Prod.snd (h.Cz aa ab)
 ·obtain⟨i,rfl⟩:∃i,t=i+1:=⟨t-1,by exact De ‹_›⟩
  have av:=hY (D:=D) (i:=i) (by exact kf ‹_›);rw[Cy (S:=SL D.S L) h.rws av,show D.rs.length+1-(i+1)=(D.rs.length-1-i)+1 by exact Ms ‹_›];exact Cy (S:=SL D.S.ex L) (r:=kQ (af++aR).length (D.row i)) h.nH (xu av)
 ·exact K3 (K2 (S:=SL D.S L) h.rws (by exact uG ‹_› ‹_›)) (K2 (S:=SL D.S L) h.rws ab) (decide_eq_false (by exact Ma ‹_› ‹_›)) fun e=>by rw[of_decide_eq_true e];exact K4.1
 ·refine(K3 (h.K9 ab) (h.K9 (da (ey aa ab))) (decide_eq_false (by lia)) fun e=>by rw[of_decide_eq_true e];rfl).trans ?_
  show lc (D.S.cT+(e8 D.T.z (gj (eL (SL D.S.ex L) D.T.x) (nodes a6 (b6 D.S.hp a6) (D.rs.length+1-b)) (nodes a6 (b6 D.S.hp a6) (D.rs.length+1-a)))).1)+(bif kT D.rs b&&kT D.rs a then D.S.dV else 0)+qm D.rs a=_;rw[h.Cz (L:=L) aa ab,Bool.and_comm];rfl
theorem b1.K'(h:b1 D bp aR af a6){a b:Nat}(hf:(pr D (af++aR) (SL D.S L)).bad a b≤(pr D (af++aR) (SL D.S L)).most):b≤D.rs.length+1∧(pr D (af++aR) (SL D.S L)).bad a b≤10000:=by
 have:(pr D (af++aR) (SL D.S L)).most≤10000:=KW D.T.most;refine⟨?_,c0 ‹_› ‹_›⟩;refine bZ (fun ae:b≤D.rs.length+1=>?_) (fun ae=>?_)
 ·exact ae
 ·have:=KY (S:=SL D.S L) (a:=a) (b:=b) h.rws h.qX (Dd ‹_›);lia
theorem b1.La(h:b1 D bp aR af a6){a b:Nat}(hf:(pr D a6 (SL D.S.ex L)).bad a b≤(pr D a6 (SL D.S.ex L)).most):b≤D.rs.length+1∧(pr D a6 (SL D.S.ex L)).bad a b≤10000:=by
 have:(pr D a6 (SL D.S.ex L)).most≤10000:=KW D.T.most;refine⟨?_,c0 ‹_› ‹_›⟩;refine bZ (fun ae:b≤D.rs.length+1=>?_) (fun ae=>?_)
 ·exact ae
 ·have:=KY (S:=SL D.S.ex L) (a:=a) (b:=b) h.nH h.K5 (by erw[h.qo];exact Dd ‹_›);lia
theorem b1.ke(h:b1 D bp aR af a6):hD (pr D (af++aR) (SL D.S L)):=by
 refine⟨fun a b=>⟨p1.f0,p1.f1⟩,h.fA.fQ.BA,by erw[h.M];exact K7 (S:=SL D.S L) h.rws,by erw[h.M];exact jh _,fun a t b aa ab hf=>?_,K8 _ L rfl,fun b ae hf=>K6 fun ax=>?_⟩
 ·refine bC (fun ae aq=>?_) (h.K' hf);exact(h.mono aa ab ae aq).1
 ·refine bC (fun ib aq=>?_) (h.K' hf);exact h.two ax ae ib (.inl rfl) aq
theorem b1.back(h:b1 D bp aR af a6){a b:Nat}(aa:a<b)(ab:b≤D.rs.length+1):(pr D a6 (SL D.S.ex L)).bad a b=(pr D (af++aR) (SL D.S L)).bad (D.rs.length+1-b) (D.rs.length+1-a)∧(pr D a6 (SL D.S.ex L)).fit a b=(pr D (af++aR) (SL D.S L)).fit (D.rs.length+1-b) (D.rs.length+1-a):=by have m:=gR.sym (h.lK (L:=L));have e:=m.bad a b aa (by rw[h.hI];exact ab);have f:=m.fit a b aa (by rw[h.hI];exact ab);rw[h.hI]at e f;exact⟨e.symm,f.symm⟩
theorem b1.lL(h:b1 D bp aR af a6):hD (pr D a6 (SL D.S.ex L)):=by
 refine⟨fun a b=>⟨p1.f0,p1.f1⟩,h.fA.fQ.BA,?_,by erw[h.hI];exact jh _,fun a t b aa ab hf=>?_,K8 _ L rfl,fun b ae hf=>K6 fun ax=>?_⟩
 ·erw[h.hI,←h.qo];exact K7 (S:=SL D.S.ex L) h.nH
 ·refine bC (fun ae aq=>?_) (h.La hf);rw[(h.back (lR aa ab) ae).1]at aq;have a5:=bR (da ab) ae;erw[(h.back aa a5).1];exact(h.mono (dB ab ae) (dB aa a5) (rY ..) aq).2
 ·refine bC (fun ib aq=>?_) (h.La hf);refine bC (fun e f=>?_) (h.back (L:=L) ae ib);rw[e,C3]at aq;erw[f,C3];exact h.two ax (uC (jh _) ae) (bE _) (.inr rfl) aq
end
noncomputable def hJ(p:List Nat):List Nat:=p.reverse.map (· -1)
theorem xC{b:Nat}{p:List Nat}:hJ (b::p)=hJ p++[b-1]:=by unfold hJ;erw[mF,fy];rfl
noncomputable def rK:Option Nat→List Nat→Option Nat
 |a,[]=>a
 |_,b::r=>rK (I b) r
noncomputable def xD(D:bX):Option Nat→Int→List Nat→Int
 |_,f,[]=>f
 |a,_,b::r=>xD D (I b) (ip D.T.z (D.line a b)).2 r
theorem ZA{D:bX}{c:Nat}:∀(l:List Nat) (a:Option Nat) (f:Int),D.cost a f (l++[c])=D.cost a f l+D.step (rK a l) c (xD D a f l):=by
 intro aT
 induction aT with
 |nil=>intro a f;exact rP _ _
 |cons b r aD=>intro a f;show D.step a b f+D.cost (I b) _ (r++[c])=D.step a b f+D.cost (I b) _ r+_;rw[aD,qx];rfl
theorem ZC{D:bX}{c:Nat}:∀(l:List Nat) (a:Option Nat),oT D a l→BV D (rK a l) c→oT D a (l++[c]):=by
 intro aT
 induction aT with
 |nil=>intro _ _ s;exact⟨s,trivial⟩
 |cons _ r aD=>intro _ h s;exact⟨h.1,aD _ h.2 s⟩
theorem ZD{c:Nat}:∀(l:List Nat) (a:Option Nat),rK a (l++[c])=I c:=by
 intro aT
 induction aT with
 |nil=>intro _;exact rfl
 |cons _ r aD=>intro _;exact aD _
theorem ZE{D:bX}{c:Nat}:∀(l:List Nat) (a:Option Nat) (f:Int),xD D a f (l++[c])=(ip D.T.z (D.line (rK a l) c)).2:=by
 intro aT
 induction aT with
 |nil=>intro _ _;exact rfl
 |cons _ r aD=>intro _ _;exact aD _ _
theorem ZF(p:Int):rA p=oZ (gF p):=by
 delta rA gF;refine bZ (fun h:p> -10000=>?_) (fun h=>?_)
 ·erw[decide_eq_true h,if_neg (by lia)];delta oZ;refine bZ (fun h0:p>0=>?_) (fun h0=>?_)
  ·erw[decide_eq_true h0];show p*(p.natAbs:Nat)=p*p;erw[show(p.natAbs:Int)=p by exact Dj ‹_›]
  ·erw[decide_eq_false h0,decide_eq_true h];show p*(p.natAbs:Nat)= -(p*p);erw[show(p.natAbs:Int)= -p by exact MD ‹_›,Int.mul_neg]
 ·erw[decide_eq_false h];refine Tactic.eT (fun h=>?_) (fun h=>?_)
  ·rfl
  ·erw[show p= -10000 by exact Mg ‹_› ‹_›];rfl
theorem ZG{c:Int}(h:0≤c):w2 c=lc c:=by delta w2 lc;erw[show(c.natAbs:Int)=c by exact ME ‹_›]
theorem ZH(a:Nat):nB (fH a)=a:=by cases a<;>rfl
section
variable{D:bX}{bp aR af a6:List aI}{L:Int}
theorem ZI{a b:Nat}(du:a<b)(ae:b≤D.rs.length+1):(bif U (b-1<D.rs.length)then rA (D.row (b-1)).b9+(D.to L).dV (fH a) (b-1)else 0)=(bif kT D.rs a&&kT D.rs b then D.S.dV else 0)+qm D.rs b:=by
 obtain⟨j,rfl⟩:∃j,b=j+1:=⟨b-1,De ‹_›⟩
 erw[lS];refine bZ (fun a':j<D.rs.length=>?_) (fun a'=>?_)
 ·erw[decide_eq_true a',ui,rJ,hY a',ZF];show oZ (gF (D.row j).b9)+(D.to L).dV (fH a) j=(bif kT D.rs a&&(D.row j).cf then D.S.dV else 0)+oZ (gF (D.row j).b9);have:(D.to L).dV (fH a) j=bif kT D.rs a&&(D.row j).cf then D.S.dV else 0:=by
   induction a using fe with
   |zero=>rfl
   |succ i=>erw[rJ,hY (D:=D) (i:=i) (uG ‹_› ‹_›)];rfl
  erw[this,rP]
 ·erw[decide_eq_false a',ui,rJ,jc (uE ‹_›),aaq,aaq,C4];rfl
theorem b1.step(h:b1 D bp aR af a6){a b:Nat}{f:Int}(du:a<b)(ae:b≤D.rs.length+1):(D.to L).step (fH a) (b-1) f=(pr D (af++aR) (SL D.S L)).cst a b+(pr D (af++aR) (SL D.S L)).cu ((pr D (af++aR) (SL D.S L)).fit a b) f:=by
 erw[(h.lK (L:=L)).cst a b du (by erw[h.M];exact ae)];unfold bX.step;erw[h.hz (L:=L) du ae,ZI du ae,ZG (c:=D.S.cT+((pr D (af++aR) (SL D.S L)).bad a b,(pr D (af++aR) (SL D.S L)).fit a b).1) (r2 h.fA.fQ.Bz p1.lV)];have e:(bif U ((((pr D (af++aR) (SL D.S L)).fit a b-f).natAbs:Nat)>(1:Int))then D.S.cu else 0)=(pr D (af++aR) (SL D.S L)).cu ((pr D (af++aR) (SL D.S L)).fit a b) f:=by
  unfold bM.cu;generalize (pr D (af++aR) (SL D.S L)).fit a b-f=x;refine bZ (fun aC:1<x.natAbs=>?_) (fun aC=>?_)
  ·erw[if_pos aC,decide_eq_true (by exact mI ‹_›)];rfl
  ·erw[if_neg aC,decide_eq_false (by exact Du ‹_›)];rfl
 erw[e];have as:∀x y z w:Int,x+(y+z)+w=x+y+z+w:=fun x y z w=>by lia
 exact as _ _ _ _
structure ZJ(D:bX)(p:List Nat)(b:Nat)(f d:Int):Prop where
 ch:oT D J (hJ p)
 cost:D.cost J 2 (hJ p)=d
 gm:rK J (hJ p)=fH b
 lf:xD D J 2 (hJ p)=f
set_option tactic.hygienic true in
theorem b1.Lb(h:b1 D bp aR af a6){p:List Nat}{b:Nat}{k f d:Int}(hp:fB (pr D (af++aR) (SL D.S L)) p b k f d):b≤D.rs.length+1→ZJ (D.to L) p b f d:=by
 induction hp with
 |root=>intro _;exact⟨trivial,rfl,rfl,rfl⟩
 |step aE lt ok m8 aG=>
  rename_i p a k f d b;intro ae;obtain⟨cZ,dt,gw,lu⟩:=aG (uG ‹_› ‹_›);have ar:((ip D.T.z (D.line (fH a) (b-1))).1=_∧(ip D.T.z (D.line (fH a) (b-1))).2=_):=⟨congrArg CF (h.hz (L:=L) lt ae),congrArg Prod.snd (h.hz (L:=L) lt ae)⟩
  have aL:BV (D.to L) (fH a) (b-1):=by
   refine⟨fun i e=>?_,by show b-1≤D.rs.length;exact Ds ‹_›,fun t t1 e1=>?_,c0 (nS ar.1) ok⟩
   ·induction a using fe with
    |zero=>injections e
    |succ a=>injections e;exact Dg ‹_› ‹_›
   ·have a5:=bR (eQ (ZH a).symm) t1;have av:=hY (D:=D) (i:=t) (Mv ‹_› ‹_›);have:=m8 (t+1) (je ‹_›) (Mw ‹_›);rw[Cy (S:=SL D.S L) h.rws av]at this;have:=of_decide_eq_false this;unfold gF at this;show-10000<(D.row t).b9
    split at this<;>lia
  refine⟨by erw[xC];exact ZC _ _ cZ (by erw[gw];exact aL),?_,?_,?_⟩
  all_goals (erw[xC])
  ·erw[ZA,dt,gw,lu,h.step lt ae];exact(qx _ _ _).symm
  ·erw[ZD]
   induction b using fe with
   |zero=>lia
   |succ b=>rfl
  ·erw[ZE,gw];exact ar.2
end
structure xE(p:List Nat)(b:Nat)(k:Int):Prop where
 dec:p.Pairwise (· > ·)
 ik:∀e,e∈p→1≤e∧e≤b
 k:(p.length:Int)=k
theorem fB.oI{P:bM}{p:List Nat}{b:Nat}{k f d:Int}(h:fB P p b k f d):xE p b k:=by
 induction h with
 |root=>exact⟨.nil,fun ag h=>(nomatch h),rfl⟩
 |step _ lt _ _ aG=>
  obtain⟨cZ,dt,gw⟩:=aG;refine⟨uq.mpr ⟨fun e he=>by have:=(dt e he).2;exact gI ‹_› ‹_›,cZ⟩,fun e he=>?_,by erw[gA];exact Dl ‹_›⟩
  rcases ec.mp he with rfl|he
  ·exact⟨Df ‹_› rfl,bE _⟩
  ·have:=dt e he;exact⟨this.1,by lia⟩
theorem ZK{ans:List Int}:∀(pl:List Int) (k:Nat) (idx:List Nat),idx.Pairwise (· < ·)→(∀i,i∈idx→k≤i∧i<k+pl.length)→(∀j x,pl[j]? =I x→ans.contains x=idx.contains (k+j))→((pl.zipIdx k).filter fun p=>ans.contains p.1).map (·.2)=idx:=by
 intro pl
 induction pl with
 |nil=>
  intro k idx _ aa _
  induction idx using bY with
  |nil=>rfl
  |cons i r=>exact absurd (show i<k from(aa i (.head _)).2) (kU.mpr (aa i (.head _)).1)
 |cons x pl aD=>
  intro k idx aL aa ah;erw[List.zipIdx_cons,xX];have h0:ans.contains x=idx.contains k:=ah 0 x rfl;have aA:∀j x,pl[j]? =I x→ans.contains x=idx.contains (k+1+j):=fun j x aC=>by erw[ah (j+1) x aC,show k+(j+1)=k+1+j by lia]
  refine bZ (fun ai:k∈idx=>?_) (fun ai=>?_)
  ·induction idx using bY with
   |nil=>cases ai
   |cons i r=>
    rw[uq]at aL;have e:i=k:=by
     refine eF (ec.mp ai) (fun e=>?_) (fun e=>?_)
     ·exact e.symm
     ·have:=aL.1 k e;have:=(aa i (.head _)).1;exact absurd ‹_› (kU.mpr ‹_›)
    subst e;erw[h0,qs.mpr ai,if_pos rfl,g0]
    congr 1
    refine aD (i+1) r aL.2 (fun j a'=>⟨aL.1 j a',by have:=(aa j (.tail _ a')).2;rw[gA]at this;exact Dh ‹_›⟩) fun j y aV=>?_;erw[aA j y aV,ZY,beq_false_of_ne (show i+1+j≠i by lia),LA]
  ·have:idx.contains k=false:=by
    cases aE:idx.contains k with
    |false=>rfl
    |true=>exact absurd (qs.mp aE) ai
   erw[h0,this];refine aD (k+1) idx aL (fun j a'=>?_) aA;have:=aa j a';rw[gA]at this;have:j≠k:=fun e=>ai (e▸a');exact⟨by lia,Dh (qp ‹_›)⟩
theorem Lc{hp:Int}{af:List aI}{R:List Row}(h:gn hp af R){i j:Nat}{r dz:Row}(av:R[i]? =I r)(xt:R[j]? =I dz)(iL:i<j):r.first<dz.first:=by
 have a:=ja (h.at' r (fI av));refine f7 (d7.mp av) fun aw e=>?_;refine f7 (d7.mp xt) fun a' e4=>?_;have dM:=C1.mp h.dg i j aw a' iL;rw[e,e4]at dM
 rcases dM with dM|⟨_,_,_,_,_,hf,_⟩
 ·have:=a.dB;have:=a.aM;have:=(ja (h.at' dz (fI xt))).f0;lia
 ·exact hf
theorem Ld{hp:Int}{af:List aI}{R:List Row}(h:gn hp af R){q:List Nat}(s:xE q R.length q.length):w3 (lF af hp ((R.length+1)::q)) (R.map fun r=>((r.first:Nat):Int)) af.length (hJ q):=by
 have iC:∀i,i<R.length→∃r,R[i]? =I r∧(R.map fun r=>((r.first:Nat):Int))[i]? =I ((r.first:Nat):Int)∧(R.map fun r=>((r.first:Nat):Int)).getD i 0=(r.first:Nat)∧r.first<af.length:=fun i aw=>by
  have av:=gp aw;have e:(R.map fun r=>((r.first:Nat):Int))[i]? =I ((R[i].first:Nat):Int):=by erw[lO,av];rfl
  have a:=ja (h.at' _ (fI av));exact⟨R[i],av,e,by erw[jd,e];rfl,gI a.dB (lR a.aM a.ln)⟩
 have CA:∀i,i∈hJ q→i<R.length:=fun i aw=>by obtain⟨e,he,rfl⟩:=f9.mp aw;have:=s.ik e (lU.mp he);exact ey (uC this.1 xY) this.2
 have he:lF af hp ((R.length+1)::q)=(hJ q).map (fun i=>(R.map fun r=>((r.first:Nat):Int)).getD i 0)++[(af.length:Int)]:=by
  delta lF hJ;erw[g0,mF,xi h,←iu,jO];refine congrArg (· ++[(af.length:Int)]) (nP fun e aE=>?_);have:=s.ik e (lU.mp aE);obtain⟨r,aa,_,aq,_⟩:=iC (e-1) (ey (uC this.1 xY) this.2);show _=(R.map fun r=>((r.first:Nat):Int)).getD (e-1) 0;erw[aq];obtain⟨j,rfl⟩:∃j,e=j+1:=⟨e-1,(CI (qq ‹_›)).symm⟩
  rw[lS]at aa;erw[ud h aa];rfl
 refine⟨?_,fun i aw=>by erw[bF];exact CA i aw,he⟩;refine ZK _ 0 _ ?_ (fun i aw=>⟨fx _,by erw[bF,nO];exact CA i aw⟩) fun j x aC=>?_
 ·delta hJ;erw[List.pairwise_map,aan];exact s.dec.imp_of_mem fun{a b} aB ae du=>by have:=s.ik a aB;have:=s.ik b ae;have:a>b:=du;exact Mt (qq ‹_›) ‹_›
 ·have a':j<R.length:=by
   have:=(d7.mp aC).1
   rwa [bF]at this
  obtain⟨r,aa,ab,aq,ba⟩:=iC j a';rw[ab]at aC
  injections aC
  erw[nO,Bool.eq_iff_iff,qs,qs,he]
  constructor
  ·intro hm;refine eF (dR.mp hm) (fun hm=>?_) (fun hm=>?_)
   ·obtain⟨i,aw,e⟩:=f9.mp hm;obtain⟨dz,dH,_,vS,_⟩:=iC i (CA i aw);rw[vS]at e
    rcases Nat.lt_trichotomy i j with l|l|l
    ·exact absurd (Int.ofNat.inj e) (kg (Lc h dH aa l))
    ·rwa [←l]
    ·exact absurd (Int.ofNat.inj e) (Nat.ne_of_gt (Lc h aa dH l))
   ·exact absurd (Int.ofNat.inj (dY.mp hm)) (kg ba)
  ·intro hm;exact dR.mpr (.inl (f9.mpr ⟨j,hm,aq⟩))
theorem fB.re{P:bM}{gr:Int→Int}{p:List Nat}{b:Nat}{k f d:Int}(h:fB P p b k f d):fB {P with cC:=gr} p b k f d:=by
 induction h with
 |root=>exact .root
 |step _ lt ok m8 aG=>exact .step aG lt ok m8
theorem xF{P:bM}{L:Int}:hE P false L=J↔(bK P false P.M=[]∨(picked (bK P false P.M) L).2≠L):=by
 unfold hE;cases bK P false P.M with
 |nil=>exact⟨fun ag=>.inl rfl,fun ag=>rfl⟩
 |cons w r=>
  show(if(U ((picked (w::r) L).2≠L)&& !false)=true then J else I _)=J↔_;refine bZ (fun ah:(picked (w::r) L).2≠L=>?_) (fun ah=>?_)
  ·erw[decide_eq_true ah];exact⟨fun ag=>.inr ah,fun ag=>rfl⟩
  ·erw[decide_eq_false ah];exact⟨fun h=>(nomatch h),fun h=>h.elim (fun h=>(nomatch h)) fun h=>absurd h ah⟩
theorem Le{P:bM}{L:Int}{p:List Nat}(ah:hE P false L=I p):bK P false P.M≠[]∧p=(picked (bK P false P.M) L).1.path:=by
 unfold hE at ah;cases aB:bK P false P.M with
 |nil=>replace ah:=aB▸ah;injections ah
 |cons w r=>
  replace ah:=aB▸ah;refine⟨fun h=>(nomatch h),?_⟩;have ah:(if(U ((picked (w::r) L).2≠L)&& !false)=true then J else I (picked (w::r) L).1.path)=I p:=ah
  split at ah
  ·injections ah
  ·injections ah;rfl
theorem uj{P:bM}{L:Int}(h:hD P)(aA:bK P false P.M≠[]):hE P true L=I (picked (bK P false P.M) L).1.path:=by
 obtain⟨aa,ab,_⟩:=TV (L:=L) h aA;unfold hE;erw[←ab];cases aB:bK P true P.M with
 |nil=>exact absurd aB aa
 |cons w r=>erw[Bool.not_true,C4];rfl
theorem Lf{P:bM}{last:Bool}{L:Int}{p:List Nat}(h:hD P)(aA:bK P false P.M≠[])(ah:hE P last L=I p):p=(picked (bK P false P.M) L).1.path:=by
 induction last using hK with
 |false=>exact(Le ah).2
 |true=>replace ah:=(uj h aA)▸ah;exact(Option.some.inj ah).symm
theorem Lg(ws:List bc):(picked ws 0).2=0:=rfl
theorem Lh{P:bM}(aA:bK P false P.M≠[]):hE P false 0=I (picked (bK P false P.M) 0).1.path:=by
 cases ah:hE P false 0 with
 |none=>exact absurd (xF.mp ah) (fun h=>h.elim aA fun h=>h rfl)
 |some p=>erw[(Le ah).2]
theorem Li{af:List aI}{S:cj}{z hG x L:Int}{last:Bool}{p:List Nat}(cv:(b6 S.hp af).length≤14)(ah:hE (j' af S 0 0 z hG x last).par last L=I p):p.length≤14:=by
 have aB:=Bw (G:=j' af S 0 0 z hG x last) (b6 S.hp af).length cv;have ah:(if(bK (j' af S 0 0 z hG x last).par last (b6 S.hp af).length).isEmpty then J else if U ((picked (bK (j' af S 0 0 z hG x last).par last (b6 S.hp af).length) L).2≠L)&& !last then J else I (picked (bK (j' af S 0 0 z hG x last).par last (b6 S.hp af).length) L).1.path)=I p:=ah;have aB:Bv (b6 S.hp af).length (bK (j' af S 0 0 z hG x last).par last (b6 S.hp af).length):=aB;generalize bK (j' af S 0 0 z hG x last).par last (b6 S.hp af).length=l at aB ah
 induction l using bY with
 |nil=>injections ah
 |cons w r=>
  have hp:(picked (w::r) L).1.path.length≤14:=I9 (Q:=fun w=>w.path.length≤14) (fun h=>(nomatch h)) fun v aJ=>by
   have:=aB.w v aJ;have a:=this.p;have b:=this.l
   lia
  have ah:(if(U ((picked (w::r) L).2≠L)&& !last)=true then J else I (picked (w::r) L).1.path)=I p:=ah
  split at ah
  ·injections ah
  ·injections ah;exact hp
theorem Lj{D:bX}{S:cj}{af:List aI}{R:List Row}(h:gn S.hp af R)(d:xB D S af)(k:hF af)(el:R.length≤13)(hp:∀r,r∈R→r.b9≤10000)(fQ:Be S)(cu:0≤S.cu)(m0:200≤D.T.most)(hQ:D.T.most≤12000):p5 af S D.T.z D.T.most D.T.x:=by
 have x0:=d.x0;have c2:=d.c2;have dn:=d.dn;have ia:=d.ia;refine⟨d.n,k,fun it aw=>Cr (d.it it aw),fQ,⟨d.ls.o0,d.ls.a0⟩,⟨d.rs.o0,d.rs.a0⟩,⟨d0 ‹_› rfl,d3 ‹_› rfl⟩,⟨d0 ‹_› rfl,d3 ‹_› rfl⟩,⟨d0 ‹_› rfl,d3 ‹_› rfl⟩,cu,?_,fun q aE=>?_,Y7 d.it d.n d.ls d.rs x0 c2 dn ia⟩
 ·erw[h.kd,b4,bF];exact je ‹_›
 ·replace aE:=h.kd▸aE;refine eF (dR.mp aE) (fun aE=>?_) (fun aE=>?_)
  ·obtain⟨r,av,rfl⟩:=f9.mp aE;have:=hp r av;show Num (gF r.b9);unfold gF;refine Tactic.eT (fun h=>?_) (fun h=>?_)
   ·exact⟨by decide,by decide⟩
   ·exact⟨L8 ‹_› rfl,d3 ‹_› rfl⟩
  ·erw[dY.mp aE];exact⟨by show-2147483647≤(-10000:Int);decide,by show(-10000:Int)≤2147483647;decide⟩
section
variable{D:bX}{bp aR af a6:List aI}
theorem b1.CB(h:b1 D bp aR af a6){L:Int}(cv:Num L):p5 (af++aR) (SL D.S L) D.T.z D.T.most D.T.x∧p5 a6 (SL D.S.ex L) D.T.z D.T.most D.T.x:=by
 have iF:=h.fA.fQ;have a1:=iF.Bz;have a2:=iF.Je;have pG:=iF.wU;have ti:=iF.rx;have G5:=iF.VU;have G4:=iF.VV;have v7:=iF.BA;have G3:=iF.VW;have ky:Num D.S.cT:=⟨d0 ‹_› rfl,d3 ‹_› rfl⟩
 have cU:Num D.S.hp:=⟨d0 ‹_› rfl,d3 ‹_› rfl⟩
 have Lk:Num D.S.dV:=⟨d0 ‹_› rfl,d3 ‹_› rfl⟩
 have vX:Num D.S.cu:=⟨d0 ‹_› rfl,d3 ‹_› rfl⟩
 refine⟨Lj (S:=SL D.S L) h.rws h.qX h.xv.k h.ok.b3 (fun r av=>(h.b.pr r av).ky) ⟨ky,cU,Lk,vX,cv⟩ v7 h.fA.m0 h.fA.hQ,Lj (S:=SL D.S.ex L) h.nH h.K5 (Y2 h.qk h.xv.qj) (by erw[h.qo];exact h.ok.b3) (fun r av=>?_) ⟨ky,cU,Lk,vX,cv⟩ v7 h.fA.m0 h.fA.hQ⟩;obtain⟨q,aE,rfl⟩:=f9.mp av;exact(h.b.pr q (lU.mp aE)).ky
theorem rL{af:List aI}{S:cj}{z m x:Int}{s t:Nat}{last:Bool}(h:S.loose≠0)(i:Int):(j' af S s t z m x last).par.cC i=i:=by show(bif U (S.loose=0)then 1 else i)=i;erw[decide_eq_false h];rfl
theorem b1.empty(h:b1 D bp aR af a6)(L:Int):bK (pr D (af++aR) (SL D.S L)) false (D.rs.length+1)=[]↔bK (pr D a6 (SL D.S.ex L)) false (D.rs.length+1)=[]:=by
 have:=AV (h.lK (L:=L)) (gR.sym h.lK) h.ke h.lL rfl
 rwa [h.M]at this
theorem b1.act(h:b1 D bp aR af a6)(L:Int)(aA:bK (pr D (af++aR) (SL D.S 0)) false (D.rs.length+1)≠[]):bK (pr D (af++aR) (SL D.S L)) false (D.rs.length+1)≠[]:=by
 intro e;cases aB:bK (pr D (af++aR) (SL D.S 0)) false (D.rs.length+1)with
 |nil=>exact aA aB
 |cons w r=>have s:=wg (h.ke (L:=0)) (w:=w) (by erw[h.M,aB];exact .head _);have s:fB (pr D (af++aR) (SL D.S L)) w.path (pr D (af++aR) (SL D.S L)).M w.line w.fit w.bJ:=fB.re (gr:=(pr D (af++aR) (SL D.S L)).cC) s;obtain⟨v,aJ,_⟩:=H4 (h.ke (L:=L)) s;replace aJ:=e▸(h.M▸aJ);cases aJ
structure Ll(D:bX)(P cn:bM)(L:Int)(w bP:bc):Prop where
 s:fB P w.path (D.rs.length+1) w.line w.fit w.bJ
 s':fB cn bP.path (D.rs.length+1) bP.line bP.fit bP.bJ
 d:w.bJ=bP.bJ
 l:L≠0→w.line=bP.line
theorem b1.ZL(h:b1 D bp aR af a6){L:Int}(aA:bK (pr D (af++aR) (SL D.S L)) false (D.rs.length+1)≠[]):
  Ll D (pr D (af++aR) (SL D.S L)) (pr D a6 (SL D.S.ex L)) L (picked (bK (pr D (af++aR) (SL D.S L)) false (D.rs.length+1)) L).1 (picked (bK (pr D a6 (SL D.S.ex L)) false (D.rs.length+1)) L).1:=by
 have gg:=fun e=>aA ((h.empty L).mpr e);have CC:=fun cv:L≠0=>wh (h.ke (L:=L)) (rL cv);have CD:=fun cv:L≠0=>wh (h.lL (L:=L)) (rL cv);replace CC:=h.M▸CC;replace CD:=h.hI▸CD;have s:=wg (h.ke (L:=L)) (w:=(picked (bK (pr D (af++aR) (SL D.S L)) false (D.rs.length+1)) L).1) (by erw[h.M];exact wi aA CC);have s':=wg (h.lL (L:=L)) (w:=(picked (bK (pr D a6 (SL D.S.ex L)) false (D.rs.length+1)) L).1) (by erw[h.hI];exact wi gg CD);replace s:=h.M▸s;replace s':=h.hI▸s';refine bZ (fun cv:L=0=>?_) (fun cv=>?_)
 ·subst cv;have:=TP (h.lK (L:=0)) (gR.sym h.lK) h.ke h.lL rfl (by erw[h.M];exact aA);replace this:=h.M▸this;exact⟨s,s',this,fun h=>absurd rfl h⟩
 ·have:=H6 (h.lK (L:=L)) (gR.sym h.lK) h.ke h.lL (rL cv) (rL cv) cv (by erw[h.M];exact aA);replace this:=h.M▸this;exact⟨s,s',this.2.2,fun ag=>this.2.1⟩
theorem ZM{n:Nat}{q:List Nat}(aE:∀e,e∈q→1≤e∧e≤n):hJ (q.reverse.map (n+1- ·))=(hJ q).reverse.map fun i=>n-1-i:=by unfold hJ;erw[←iu,←iu,L0,jO,jO];refine nP fun e he=>?_;obtain⟨j,rfl⟩:=mD.mpr (aE e he).1;exact Zc
theorem b1.ZN(h:b1 D bp aR af a6){L:Int}{w bP:bc}(t:Ll D (pr D (af++aR) (SL D.S L)) (pr D a6 (SL D.S.ex L)) L w bP)(aa:w.path.length≤14)(ab:bP.path.length≤14):B0 D (af++aR) a6 L w.path bP.path:=by
 obtain⟨s,s',hd,ar⟩:=t;have oI:=fB.oI s;have xG:=fB.oI s';obtain⟨q,e⟩:=AS (h.ke (L:=L)) (by erw[h.M];exact s);obtain⟨gu,e4⟩:=AS (h.lL (L:=L)) (by erw[h.hI];exact s');replace e:=h.M▸e;replace e4:=h.hI▸e4;rw[e]at s oI aa⊢;rw[e4]at s' xG ab⊢;have nv:=(gR.sym (h.lK (L:=L))).pt h.lL.dn h.ke.dn (by erw[h.hI];exact s');rw[h.hI]at nv;obtain⟨sy,ZO⟩:=nv;have t9:∀{p:List Nat} {k:Int},xE ((D.rs.length+1)::p) (D.rs.length+1) k→xE p D.rs.length p.length:=fun hp=>by obtain⟨cZ,dt,_⟩:=hp;rw[uq]at cZ;exact⟨cZ.2,fun e he=>⟨(dt e (.tail _ he)).1,by have:D.rs.length+1>e:=cZ.1 e he;exact kf ‹_›⟩,rfl⟩
 have a:=h.Lb s (bE _);have b:=h.Lb ZO (bE _);have ef:=a.ch;have e6:=b.ch;have fW:=a.cost;have m7:=b.cost;rw[xC,lS]at ef fW;rw[xC,lS,ZM (t9 xG).ik]at e6 m7;have ln:=h.qk.length;replace ln:=ff▸ln;have dz:=Ld (q:=gu) h.nH (by erw[h.qo];exact t9 xG);rw[h.qo,jO,ln,show(D.rs.reverse.map ((fun r:Row=>((r.first:Nat):Int))∘kQ (af++aR).length))=D.rs.reverse.map fun r=>((af++aR).length:Int)-1-(r.last:Nat)from nP fun r av=>by have:=ja (h.rws.at' r (lU.mp av));have eu:=this.ln;have gc:=this.aM;show(((af++aR).length-1-r.last:Nat):Int)=_;exact Dq (lR ‹_› ‹_›),←h.en]at dz
 have r:=Ld (q:=q) h.rws (t9 oI);replace r:=(h.en).symm▸r;have Lm:∀p:List Nat,(hJ p).length=p.length:=fun p=>by unfold hJ;erw[bF,ff]
 rw[gA]at aa ab;refine⟨fun cv=>?_,hJ q,hJ gu,r,dz,ef,e6,by erw[show(D.to L).rs.length=D.rs.length from rfl,fW,m7];exact hd,by erw[Lm];exact qz ‹_› rfl,by erw[Lm];exact qz ‹_› rfl⟩;have dH:=oI.k;have ft:=xG.k;have vS:=ar cv
 lia
theorem mB(D:bX)(af:List aI)(S:cj)(last:Bool):eZ D af S last=hE (pr D af S) last S.loose:=rfl
theorem b1.len(h:b1 D bp aR af a6){L:Int}{last:Bool}:(∀p,eZ D (af++aR) (SL D.S L) last=I p→p.length≤14)∧∀p,eZ D a6 (SL D.S.ex L) last=I p→p.length≤14:=by
 have eW:Num 0:=⟨by decide,by decide⟩
 obtain⟨c,dr⟩:=h.CB eW;exact⟨fun p ah=>Li (S:=SL D.S L) c.L ah,fun p ah=>Li (S:=SL D.S.ex L) dr.L ah⟩
theorem b1.none(h:b1 D bp aR af a6)(L:Int):hE (pr D (af++aR) (SL D.S L)) false L=J↔hE (pr D a6 (SL D.S.ex L)) false L=J:=by
 erw[xF,xF,h.M,h.hI];refine bZ (fun aA:bK (pr D (af++aR) (SL D.S L)) false (D.rs.length+1)=[]=>?_) (fun aA=>?_)
 ·exact⟨fun ag=>.inl ((h.empty L).mp aA),fun ag=>.inl aA⟩
 ·have gg:=fun e=>aA ((h.empty L).mpr e);have:(picked (bK (pr D (af++aR) (SL D.S L)) false (D.rs.length+1)) L).2=(picked (bK (pr D a6 (SL D.S.ex L)) false (D.rs.length+1)) L).2:=by
   refine bZ (fun cv:L=0=>?_) (fun cv=>?_)
   ·subst cv;erw[Lg,Lg]
   ·have:=H6 (h.lK (L:=L)) (gR.sym h.lK) h.ke h.lL (rL cv) (rL cv) cv (by erw[h.M];exact aA);replace this:=h.M▸this;exact this.1
  erw[this];exact⟨fun x=>.inr (x.resolve_left aA),fun x=>.inr (x.resolve_left gg)⟩
theorem b1.CE(h:b1 D bp aR af a6)(ah:eZ D (af++aR) (SL D.S 0) false≠ .none)(L:Int):bK (pr D (af++aR) (SL D.S L)) false (D.rs.length+1)≠[]∧bK (pr D a6 (SL D.S.ex L)) false (D.rs.length+1)≠[]:=by rw[mB]at ah;have:bK (pr D (af++aR) (SL D.S L)) false (D.rs.length+1)≠[]:=h.act L fun e=>ah (xF.mpr (.inl (by erw[h.M];exact e)));exact⟨this,fun e=>this ((h.empty L).mpr e)⟩
theorem b1.same(h:b1 D bp aR af a6){L:Int}{last:Bool}{p dp:List Nat}(ah:eZ D (af++aR) (SL D.S 0) false≠ .none)(e:eZ D (af++aR) (SL D.S L) last=I p)(e4:eZ D a6 (SL D.S.ex L) last=I dp):B0 D (af++aR) a6 L p dp:=by refine bC (fun a gT=>?_) (h.CE ah L);have aM:=h.len.1 p e;have bt:=h.len.2 dp e4;rw[mB]at e e4;have q:=Lf (h.ke (L:=L)) (by erw[h.M];exact a) e;have gu:=Lf (h.lL (L:=L)) (by erw[h.hI];exact gT) e4;replace q:=h.M▸q;replace gu:=h.hI▸gu;rw[q]at aM⊢;rw[gu]at bt⊢;exact h.ZN (h.ZL a) aM bt
theorem b1.tp(h:b1 D bp aR af a6):B1 D (af++aR) a6:=by
 refine⟨fun L cv=>(h.CB cv).1,fun L cv=>(h.CB cv).2,fun L=>?_,fun L ah=>?_,fun ah=>?_,fun L last p dp ah e e4=>h.same ah e e4,fun L last p ah=>bR (h.len.1 p ah) (by decide),fun L last p ah=>bR (h.len.2 p ah) (by decide)⟩
 ·erw[mB,mB];exact h.none L
 ·obtain⟨a,gT⟩:=h.CE ah L;erw[mB,mB,uj h.ke (by erw[h.M];exact a),uj h.lL (by erw[h.hI];exact gT)];exact⟨fun h=>(nomatch h),fun h=>(nomatch h)⟩
 ·obtain⟨a,gT⟩:=h.CE ah 0;have z:∀S:cj,(SL S 0).loose=0:=fun ag=>rfl;rw[mB,mB,mB,mB,z,z,uj h.ke (by rw[h.M];exact a),uj h.lL (by rw[h.hI];exact gT),Lh (by rw[h.M];exact a),Lh (by rw[h.hI];exact gT)];exact⟨rfl,rfl⟩
end
theorem ZP{T:Tl}{S:cj}{bp aR:List aI}{cU:Nat}(cc:t6 T S bp aR cU):w7 T S (qd T S) bp aR cU:=by
 have gz:∀{af:List aI} {ws:List Int} {gs:List (List bb)} {rs:List Row},Lay S.hp bp af ws gs rs→Co af ws gs rs:=fun l=>by obtain⟨t7,lI,lJ⟩:=cc.eI;exact Cp cc.fQ.wU cc.fQ.rx (by erw[lJ];exact(rG lI).1.rev) (by erw[lJ,ff];exact qe lI) l
 refine⟨fun af ws gs rs a6 l aA qk=>(Zh cc l aA qk).tp,fun af ws gs rs l aA=>KI cc l aA,fun af ws gs rs l r av=>?_,fun af ws gs rs l it aw=>?_,qe cc.ay⟩
 ·have:=(gz l).pr r av;have a:=this.eW;have b:=this.ky;exact⟨d0 ‹_› rfl,d3 ‹_› rfl⟩
 ·refine eF (dR.mp aw) (fun aw=>?_) (fun aw=>?_)
  ·exact Cr ((gz l).it it aw)
  ·exact Cr ((rG cc.ay).1.it it aw)
end Tactic.L
end
section
open PySem PySem.W
theorem Tactic.ZQ:PySem.Challenge.rw_tu0005_01.Holds:=Tactic.Ta fun ns h=>by obtain⟨o,e,h',t',rfl⟩:=Tactic.L.XX (n:=13) (t:=0) (fun ag ag ag ag ag cc=>Tactic.L.ZP cc) (ns:=ns) (cz ‹_› rfl);exact⟨h',t',e⟩
end
end
theorem PySem.Challenge.cw_tu0005_01_holds : PySem.Challenge.rw_tu0005_01.Holds :=
 Tactic.ZQ
