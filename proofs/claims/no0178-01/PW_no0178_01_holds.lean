import PyProof.Rows.All
import Open.FastLooks
import Wide.Built
import KE.KIntText
import KE.KRevIter
import Lean
import PySem.Challenge.RW_no0178_01
set_option Elab.async false
set_option linter.unusedVariables false
set_option genSizeOf false
set_option genInjectivity false
set_option bootstrap.genMatcherCode false
set_option compiler.extract_closed false
namespace Mine
open Array renaming any_toList → YA
open Bool renaming false → U, true → G, and_eq_true_iff → kv, noConfusion → d3, false_ne_true → fV, and_eq_false_iff → Kl, or_eq_false_iff → rY, and_eq_true → ia, eq_iff_iff → v4, or_false → zt, not_eq_true' → r1, or_eq_true → jr, false_or → z4, true_or → ab6, false_and → My, true_and → sM, or_assoc → NI, and_false → agg, and_true → Bm, or_true → NX
open Char renaming toNat → Rg
open Classical renaming propDecidable → AT
open Decidable renaming em → tU
open ForInStep renaming yield → sg
open Int renaming le_trans → Kn, not_lt → rX, natCast_nonneg → k6, ofNat_lt → o5, eq_ofNat_of_zero_le → t0, ofNat_le → v3, toNat_natCast → Ff, natCast_zero → aad, sub_zero → aae, ofNat_natAbs_of_nonpos → afB, le_of_lt → Ny, natAbs_of_nonneg → afC, ofNat_inj → pD, ofNat_eq_zero → afI, natCast_sub → w7, toNat_of_nonneg → agR, natAbs_natCast → s2, toNat_sub → air
open Lean renaming Name → QS, Ident → QT, mkIdent → Cy, Syntax → mw, mkNullNode → Jh
open List renaming replicate → rH, range' → tE, range → oQ, toArray → Eu, getElem?_nil → Xe, take_nil → Xf, dropLast_eq_take → JS, reverse_cons → Ev, map_cons → h5, find?_cons → JY, any_cons → Ez, mem_cons → eV, nodup_nil → nJ, eq_nil_of_length_eq_zero → J1, append_toArray → XI, size_toArray → gL, all_append → XK, all_eq_true → hh, getElem?_toArray → nN, length_pos_of_mem → XT, mem_of_getLast? → EU, getLast?_eq_getElem? → zn, mem_of_getElem? → o7, mem_map → nO, findIdx?_eq_some_iff_getElem → Ku, getElem?_eq_getElem → hi, getElem?_drop → EY, getElem?_eq_some_iff → jl, drop_zero → X9, length_dropLast → Ym, getD_eq_getElem?_getD → E6, lookup_cons → j6, drop_take → KV, take_take → YF, take_length → YG, drop_eq_nil_of_le → Fd, length_take_le' → YH, length_map → c2, length_range → Fe, length_drop → KW, length_take → zx, mem_singleton → ee, length_reverse → zG, getElem?_reverse → ZX, getElem?_map → jq, length_set → aai, getElem?_set_self → aaj, getElem?_set_ne → aak, drop_eq_nil_iff → FL, all_cons → jv, getElem?_eq_none → wk, lookup → LK, mem_append → iG, length_append → bK, length_nil → jM, toList_toArray → LX, flatten_cons → abF, append_nil → dV, sum_cons → abH, ext_getElem? → abW, map_reverse → Gb, mem_reverse → abY, nodup_cons → Ge, map_fst_zip → acj, length → n5, filterMap_cons_none → GA, isEmpty_iff → adj, getElem?_append_right → sr, getElem?_append_left → MG, zipWith → adC, find?_some → adJ, mem_of_find?_eq_some → adK, any_eq_true → adM, append_assoc → cM, idxOf_append → M1, mem_append_left → lu, mem_cons_self → eT, mem_cons_of_mem → f0, mem_range → ad1, length_cons → el, idxOf_cons_self → M2, map_append → fO, foldl_append → wL, length_eq_zero_iff → Nb, drop_eq_getElem_cons → Ni, getLast?_concat → jR, dropLast_concat → Nv, not_mem_nil → Hj, reverse_append → Hk, flatten_append → Bd, map_nil → qU, length_singleton → Ho, flatMap_cons → wW, mem_append_right → oj, nodup_append → uL, idxOf_lt_length_of_mem → uN, getElem_idxOf → wY, map_congr_left → q0, getLast?_eq_some_getLast → w4, length_pos_iff → uR, exists_cons_of_ne_nil → uS, foldl_cons → N1, isEmpty_eq_false_iff → agp, append_ne_nil_of_right_ne_nil → HD, map → uW, forall_mem_cons → dS, reverse_nil → Bw, map_take → ahs, cons_append → jz, nil_append → pI, getElem_mem → u1, map_map → H1, drop_append → ah4, take_left → aif, exists_cons_of_length_pos → tl, getLast?_cons_cons → I3
open List.cons renaming inj → za
open Nat renaming toDigits → Rf, succ → oY, casesOn → JR, lt_irrefl → vV, le_trans → ca, le_of_ble_eq_true → bw, lt_of_le_of_lt → dP, add_le_add_left → nM, min_le_right → Ka, le_of_lt → k5, zero_le → eh, log2_lt → XJ, lt_of_lt_of_le → hB, lt_of_not_le → XM, pow_le_pow_right → XN, succ_pos → hC, ne_of_gt → zm, lt_succ_self → k7, lt_trans → h9, add_comm → hS, le_refl → dt, le_add_left → kG, add_sub_cancel' → X5, sub_eq_zero_of_le → Ky, zero_add → mN, ne_of_lt → zr, le_succ → jm, succ_le_succ → jI, le_total → KS, min_eq_left → v5, min_eq_right → KU, min_le_left → YE, le_add_right → gc, not_lt_zero → Zq, eq_or_lt_of_le → Le, le_of_lt_succ → r4, le_antisymm → zC, lt_one_iff → ZL, noConfusion → kb, add_zero → aaJ, lt_succ_of_lt → zW, add_assoc → pl, lt_or_ge → F9, le_of_eq → lp, not_lt → mc, succ_ne_self → adw, add_le_add_right → GK, add_right_comm → adV, sub_lt → uE, one_pos → jx, mod_lt → pw, le_of_not_lt → AY, mul_one → aen, mul_comm → A0, div_lt_of_lt_mul → G1, mod_eq_of_lt → aep, sub_add_cancel → A2, two_pos → sB, le_zero → aer, le_pred_of_lt → aes, le_sub_of_add_le' → aet, add_sub_cancel_left → sC, lt_sub_of_add_lt → Nh, succ_pred_eq_of_pos → Nk, sub_pos_of_lt → Nl, add_sub_of_le → G3, sub_le → A4, add_le_add → No, div_le_self → Bc, add_lt_add_right → afN, mul_succ → afS, max_le → pH, mul_le_mul_left → xc, le_succ_of_le → OH, lt_succ_of_le → H2, sub_self → H4, add_sub_cancel → BR, lt_or_eq_of_le → aiA, le_max_left → IT, le_max_right → P6, max_eq_left → P7, succ_sub_succ → akw
open Nat.succ renaming inj → pe
open Ne renaming symm → Fc
open Option renaming none → J, some → B, isSome_map → JX, eq_none_iff_forall_ne_some → nK, bind_some → qt, map_some → YK, getD_none → KX, not_isSome_iff_eq_none → Zu, isNone_iff_eq_none → FR, isSome_iff_exists → AN, map → adS, map_eq_some_iff → qM, getD_some → afV, not_isSome → ag1, isSome → ahY, some_or → BU, map_map → P9, none_or → Ch, or_eq_some_iff → akp
open Option.some renaming inj → dg
open Prod renaming fst → MU
open Prod.mk renaming inj → sa
open PyProof.Rows renaming reads_tuple_at → J6, reads_list_at → EH, le_int → al1, gt_int → al2, ge_int → al3, add_str → al4, iadd_str → al5, add_int → al6, iadd_int → al7, sub_int → al8, isub_int → al9, mul_int → ama, imul_int → amb, floordiv_int → amc, ifloordiv_int → amd, mod_int' → ame, imod_int → amf, getItem_tuple → amg, len_tuple → amh, len_list → ami, call_abs_int → amj, neg_int → amn, not_of → amo, divmod_int → amp
open PySem renaming Heap → b1, Value → aZ, Shared → br, call_meetsIn → EJ, sizeLine_eq → EM, typeIs_str → o6, Expr → bh, call_gives → zp, wpAny_holding → jH, wpAny_bind → cE, slot_list_setitem → Yp, wpAny_pure → fv, wpAny_loadPart → Yz, wpAny_loadName_local → YO, wpAny_loadName_cell → YQ, wpAny_loadName_free → YR, wpAny_mono → t4, wpAny_UnaryOp → YV, wpAny_truthy_list → YX, wpAny_isTrue_value → Y0, wpAny_standAt → kK, wpAny_allTrue_And_cons → Y6, wpAny_allTrue_Or_cons → Y7, wpAny_Constant_int → K4, wpAny_Constant_str → K5, wpAny_List → Fi, wpAny_Call_NameR → Fk, getMethod_builtin → Fn, arm_eval_Call → Fp, wpAny_evalPart_none → ZO, wpAny_pyIter_list → Z1, call_reversed_list → aac, wpAny_storeName_local → aal, wpAny_Expr_any → aam, wpAny_execs_nil → Ls, wpAny_assign_Name → zN, wpAny_release → Lu, wpAny_assign_Tuple → aaA, method_meetsIn → aa3, evalArgs_none → aa4, NameKind → pk, wpAny_newObj_type → abq, eval_ListComp → abu, wpAny_comprehension_free → LU, typeLookup_type → L4, builtinLookup_eq_fast → L5, wpAny_runValue → abM, codeAny_builtin → F4, plainId_quiet → L7, wpAny_specialOf → F6, wpAny_call → L9, wpAny_tryCatch → abT, wpAny_rule → Mg
open PySem.Around renaming under_plainId → F5
open PySem.Builtin renaming divisionGoesByPylong → Kk
open PySem.Builtin.Int renaming intBits → Ki
open PySem.Builtin.List renaming listSubscript? → amm, listSameRef → abP, listExtendWith → abQ, listLengthHint → amz
open PySem.Builtin.Range renaming rangeSize → ams
open PySem.Builtin.Str renaming occurrences → al0, padded → amk
open PySem.Calls renaming spliced_nil → nR, spliced_cons → nS
open PySem.Challenge renaming rw_no0178_01 → dI, pw_no0178_01 → GS
open PySem.Code renaming builtin → MK
open PySem.Data renaming fields → Fx
open PySem.Env renaming kindOf → FA
open PySem.Expr renaming Name → wB
open PySem.F renaming slot_dict_get → zi, entry_dict_get → EK, args_dict_get_2 → XC, args_dict_get_3 → XD, slot_str_getitem → XS, slot_str_zfill → Yc, slot_str_startswith → Ye, slot_str_index → KB, entry_str_index → Yh, slot_str_upper → Yi, slot_list_pop → Yk, plainAttrs_str → zD, plainAttrs_dict → Lf, plainAttrs_list → ZK, slot_dict_items → aa2, plain_list_iadd → abN, slot_str_join → Ma, slot_dict_values → aca
open PySem.Heap renaming lt_size → vU, SameBut → tX, get?_push_size → iZ, get?_push_of_some → iA, get?_update_self → EZ, size_push → LP, ExtBut → ab2
open PySem.Heap.IsSliceOf renaming new → amr
open PySem.Heap.SameBut renaming update → Yl
open PySem.IsRange renaming new → Z8
open PySem.MeetsSeq renaming list_pop_last → aml
open PySem.NameKind renaming free → lh, cell → sh
open PySem.Obj renaming mapSeq → zq, putName → E8
open PySem.P renaming getItem_str → XU
open PySem.PadOk renaming parts → KA
open PySem.PyData renaming canLayAll0 → vW, depthAll → vX, eqv → Xq, keyHash → zv, canLay0 → abB
open PySem.SeqAt.EqAt renaming str_int → alY, int_str → alZ, str_str → amA
open PySem.Str renaming ofString → bu, join → abE
open PySem.StrLaws renaming At → X3
open PySem.Txt renaming upper → Kw, zfill → Kx, startswith → Kz
open PySem.Value renaming str → Fo, ref → ZJ, int → zJ
open PySem.Value.ref renaming inj → zE
open PySem.Value.str renaming inj → Xk
open PySem.W renaming plainGet_of → KQ, putName_dict → E9, callWith_of → K6, view → adQ, readsAllW_nil_inv → alp, readsAllW_cons_inv → alq
open PySem.W.Fast renaming te14364793385576792824 → amB, te10156331382660048174 → amC, te11892475500146522536 → amD, te6613529449190102663 → amE
open PySem.W.Looks renaming of_pure → r2
open PySem.W.SharedT renaming abs → adT
open PySem.W.WShape renaming hasItems → alo, has → alx
open PySem.W.WTm renaming holds → alt, value → alu
open PySem.Walks renaming listRev → ZW
open String renaming ofList → QV
def nm(s:String):QS:=(s.splitOn ".").foldl Lean.Name.mkStr .anonymous
def words(s:String):Array QT:=(s.splitOn " ").toArray.map λ s=>Cy (nm s)
abbrev nz:=List (QS×Array mw)
def rB(x:mw):nz->nz
 |(k,c)::r=>(k,c.push x)::r
 | []=> []
def xZ:Nat->nz->nz
 |0,r=>r
 |n+1,(k,c)::r=>xZ n (rB (.node .none k c) r)
 |_,[]=> []
def p5(s:String)(r:nz):nz:=(nm s,#[])::r
def Jg(r:nz):nz:=p5 "null" (p5 "Lean.Parser.Tactic.tacticSeq1Indented" (p5 "Lean.Parser.Tactic.tacticSeq" r))
def QU(a:Array mw)(st:nz)(w:String):nz:=
 let d:=w.toList
 let c:=d.headD ' '
 let t:=QV d.tail
 let u:=QV d.tail.tail
 if t= "" then
  if c=')' then xZ 1 st
  else if c='{' then Jg st
  else if c='}' then xZ 3 st
  else if c='<' then Jg (rB (.atom .none "|") (p5 "group" st))
  else if c='>' then xZ 4 st
  else rB (.atom .none w) st
 else if c='#' then rB (a.getD ((t.toList.headD ' ').toNat - 48) .missing) st
 else if c='(' then
  let e:=t.toList.headD ' '
  if e='T' then p5 ("Lean.Parser.Tactic." ++u) st
  else if e='P' then p5 ("Lean.Parser.Term." ++u) st
  else if e=':' then p5 u st
  else p5 t st
 else if c='\'' then rB (Cy (nm t)) st
 else if c='`' then rB (.atom .none t) st
 else rB (.atom .none w) st
def sx(a:Array mw)(s:String):mw:=match(s.splitOn " ").foldl (QU a) [(.anonymous,#[])]with
 |(_,c)::_=>c.getD 0 .missing
 | []=> .missing
def sxs(au:Array mw)(e:String):mw:=au.foldr (λ t r=>sx #[t,r] "(Tparen `( { #0 ; #1 } `) )") (sx #[] e)
def sxf(d0:Array QT)(e:String)(x:Array mw:= #[]):mw:=Jh (d0.map λ w=>sx (#[w.raw]++x) e)
def sxobt:Nat->Array mw->mw->mw
 |0,_,t=>t
 |n+1,ps,t=>
  if ps.size>7 then
   let z:=Cy `alJ
   sx #[sxobt n ((ps.extract 0 5).push (sx #[z] "(TrcasesPatLo (TrcasesPatMed (null (TrcasesPat.one #0 ) ) ) (null ) )")) t,sxobt n (ps.extract 5 ps.size) z] "(Tparen `( { #0 ; #1 } `) )"
  else sx #[Cy (.mkSimple ("oe" ++Nat.repr ps.size)),t,if t.isIdent then sx #[t] "(TtacticTry_ try { (Tclear clear (null #0 ) ) } )" else sx #[] "(Tskip skip )",Jh (ps.map λ p=>sx #[p] "(TrintroPat.one (TrcasesPat.paren `( #0 `) ) )"),Jh (ps.foldl (λ a q=>if a.isEmpty then #[q]else(a.push (.atom .none ",")).push q) #[])] "(Tfirst first (null < (Tparen `( { (Trefine refine (Papp #0 (null #1 (PsyntheticHole ? _ ) ) ) ) ; #2 ; (Trintro rintro #3 (null ) ) } `) ) > < (Trcases rcases (null (TelimTarget (null ) #1 ) ) (null with (TrcasesPatLo (TrcasesPatMed (null (TrcasesPat.tuple ⟨ #4 ⟩ ) ) ) (null ) ) ) ) > ) )"
@[elab_as_elim] theorem rwl{α:Sort _}{a b:α}{f:α->Prop}(h:a=b)(q:f b):f a:=h▸q
@[elab_as_elim] theorem rwr{α:Sort _}{a b:α}{f:α->Prop}(h:b=a)(q:f b):f a:=h▸q
theorem E0.oe2{A C:Prop}{bI:Prop}(h:A/\C)(k:A->C->bI):bI:=h.elim k
theorem E0.oe3{A C ae:Prop}{bI:Prop}(h:A/\C/\ae)(k:A->C->ae->bI):bI:=let⟨bX,Y,Z⟩:=h;k bX Y Z
theorem E0.oe4{A C ae ag:Prop}{bI:Prop}(h:A/\C/\ae/\ag)(k:A->C->ae->ag->bI):bI:=let⟨bX,Y,Z,aE⟩:=h;k bX Y Z aE
theorem E0.oe5{A C ae ag hx:Prop}{bI:Prop}(h:A/\C/\ae/\ag/\hx)(k:A->C->ae->ag->hx->bI):bI:=let⟨bX,Y,Z,aE,bv⟩:=h;k bX Y Z aE bv
theorem E1.oe2{α:Sort _}{A:α->Prop}{bI:Prop}(h: ∃x,A x)(k: ∀x,A x->bI):bI:=h.elim k
theorem E1.oe3{α:Sort _}{A C:α->Prop}{bI:Prop}(h: ∃x,A x/\C x)(k: ∀x,A x->C x->bI):bI:=let⟨x,bX,Y⟩:=h;k _ bX Y
theorem E1.oe4{α:Sort _}{A C ae:α->Prop}{bI:Prop}(h: ∃x,A x/\C x/\ae x)(k: ∀x,A x->C x->ae x->bI):bI:=let⟨x,bX,Y,Z⟩:=h;k _ bX Y Z
theorem E1.oe5{α:Sort _}{A C ae ag:α->Prop}{bI:Prop}(h: ∃x,A x/\C x/\ae x/\ag x)(k: ∀x,A x->C x->ae x->ag x->bI):bI:=let⟨x,bX,Y,Z,aE⟩:=h;k _ bX Y Z aE
theorem E1.oe6{α:Sort _}{A C ae ag hx:α->Prop}{bI:Prop}(h: ∃x,A x/\C x/\ae x/\ag x/\hx x)(k: ∀x,A x->C x->ae x->ag x->hx x->bI):bI:=let⟨x,bX,Y,Z,aE,bv⟩:=h;k _ bX Y Z aE bv
theorem E2.oe3{α:Sort _}{dv:Sort _}{A:α->dv->Prop}{bI:Prop}(h: ∃x y,A x y)(k: ∀x y,A x y->bI):bI:=let⟨x,y,bX⟩:=h;k _ _ bX
theorem E2.oe4{α:Sort _}{dv:Sort _}{A C:α->dv->Prop}{bI:Prop}(h: ∃x y,A x y/\C x y)(k: ∀x y,A x y->C x y->bI):bI:=let⟨x,y,bX,Y⟩:=h;k _ _ bX Y
theorem E2.oe5{α:Sort _}{dv:Sort _}{A C ae:α->dv->Prop}{bI:Prop}(h: ∃x y,A x y/\C x y/\ae x y)(k: ∀x y,A x y->C x y->ae x y->bI):bI:=let⟨x,y,bX,Y,Z⟩:=h;k _ _ bX Y Z
theorem E2.oe6{α:Sort _}{dv:Sort _}{A C ae ag:α->dv->Prop}{bI:Prop}(h: ∃x y,A x y/\C x y/\ae x y/\ag x y)(k: ∀x y,A x y->C x y->ae x y->ag x y->bI):bI:=let⟨x,y,bX,Y,Z,aE⟩:=h;k _ _ bX Y Z aE
theorem E3.oe4{α:Sort _}{dv:Sort _}{ku:Sort _}{A:α->dv->ku->Prop}{bI:Prop}(h: ∃x y z,A x y z)(k: ∀x y z,A x y z->bI):bI:=let⟨x,y,z,bX⟩:=h;k _ _ _ bX
theorem E3.oe5{α:Sort _}{dv:Sort _}{ku:Sort _}{A C:α->dv->ku->Prop}{bI:Prop}(h: ∃x y z,A x y z/\C x y z)(k: ∀x y z,A x y z->C x y z->bI):bI:=let⟨x,y,z,bX,Y⟩:=h;k _ _ _ bX Y
theorem E3.oe6{α:Sort _}{dv:Sort _}{ku:Sort _}{A C ae:α->dv->ku->Prop}{bI:Prop}(h: ∃x y z,A x y z/\C x y z/\ae x y z)(k: ∀x y z,A x y z->C x y z->ae x y z->bI):bI:=let⟨x,y,z,bX,Y,Z⟩:=h;k _ _ _ bX Y Z
theorem E4.oe5{α:Sort _}{dv:Sort _}{ku:Sort _}{Cz:Sort _}{A:α->dv->ku->Cz->Prop}{bI:Prop}(h: ∃x y z w,A x y z w)(k: ∀x y z w,A x y z w->bI):bI:=let⟨x,y,z,w,bX⟩:=h;k _ _ _ _ bX
theorem E4.oe6{α:Sort _}{dv:Sort _}{ku:Sort _}{Cz:Sort _}{A C:α->dv->ku->Cz->Prop}{bI:Prop}(h: ∃x y z w,A x y z w/\C x y z w)(k: ∀x y z w,A x y z w->C x y z w->bI):bI:=let⟨x,y,z,w,bX,Y⟩:=h;k _ _ _ _ bX Y
theorem E0.oe6{A C ae ag hx F:Prop}{bI:Prop}(h:A/\C/\ae/\ag/\hx/\F)(k:A->C->ae->ag->hx->F->bI):bI:=let⟨bX,Y,Z,aE,bv,cw⟩:=h;k bX Y Z aE bv cw
theorem E1.oe7{α:Sort _}{A C ae ag hx F:α->Prop}{bI:Prop}(h: ∃x,A x/\C x/\ae x/\ag x/\hx x/\F x)(k: ∀x,A x->C x->ae x->ag x->hx x->F x->bI):bI:=let⟨x,bX,Y,Z,aE,bv,cw⟩:=h;k _ bX Y Z aE bv cw
theorem E2.oe7{α:Sort _}{dv:Sort _}{A C ae ag hx:α->dv->Prop}{bI:Prop}(h: ∃x y,A x y/\C x y/\ae x y/\ag x y/\hx x y)(k: ∀x y,A x y->C x y->ae x y->ag x y->hx x y->bI):bI:=let⟨x,y,bX,Y,Z,aE,bv⟩:=h;k _ _ bX Y Z aE bv
theorem E3.oe7{α:Sort _}{dv:Sort _}{ku:Sort _}{A C ae ag:α->dv->ku->Prop}{bI:Prop}(h: ∃x y z,A x y z/\C x y z/\ae x y z/\ag x y z)(k: ∀x y z,A x y z->C x y z->ae x y z->ag x y z->bI):bI:=let⟨x,y,z,bX,Y,Z,aE⟩:=h;k _ _ _ bX Y Z aE
theorem bW{p:Prop}[Decidable p](h: ¬p):decide p=U:=decide_eq_false h
theorem ce{p:Prop}[Decidable p](h:p):decide p=G:=decide_eq_true h
theorem aQ{c:Prop}{_:Decidable c}(h:c){α:Sort _}{t e:α}:ite c t e=t:=if_pos h
theorem aL{c:Prop}{_:Decidable c}(h: ¬c){α:Sort _}{t e:α}:ite c t e=e:=if_neg h
open E0 E1 E2 E3 E4
local macro_rules
  | `(tactic| rw [$rs,*]) => return sxs (rs.getElems.raw.map fun r => if r[0].isNone then sx #[Lean.mkIdent `rwl, r[1], r, sxf (words "T1 T2 T3 T4 T5 T6 T7 T8 T9 Ua Ub Uc Ud Ue Uf Ug Uh Ui") "< (Trefine refine (Papp #0 (null #1 (PsyntheticHole ? _ ) ) ) ) >" #[r[1]]] "(Tfirst first (null < (TwithReducible with_reducible { (Tfirst first #3 ) } ) > < (Trefine refine (Papp #0 (null #1 (PsyntheticHole ? _ ) ) ) ) > < (TrewriteSeq rewrite (ToptConfig (null ) ) (TrwRuleSeq [ (null #2 ) ] ) (null ) ) > ) )" else sx #[Lean.mkIdent `rwr, r[1], r] "(Tfirst first (null < (Trefine refine (Papp #0 (null #1 (PsyntheticHole ? _ ) ) ) ) > < (TrewriteSeq rewrite (ToptConfig (null ) ) (TrwRuleSeq [ (null #2 ) ] ) (null ) ) > ) )") "(TtacticTry_ try { (TwithReducible with_reducible { (TtacticRfl rfl ) } ) } )"
  | `(tactic| rw [$rs,*] at $h:ident) => return sxs (rs.getElems.raw.map fun r => sx #[h, if r[0].isNone then r[1] else sx #[r[1]] "(Papp 'Eq.symm (null #0 ) )", r] "(Tfirst first (null < (Treplace replace (PletDecl (PletIdDecl (PletId #0 ) (null ) (null ) := (Psubst #1 ▸ (null #0 ) ) ) ) ) > < (TrewriteSeq rewrite (ToptConfig (null ) ) (TrwRuleSeq [ (null #2 ) ] ) (null (Tlocation at (TlocationHyp (null #0 ) ) ) ) ) > ) )") "(TtacticTry_ try { (TwithReducible with_reducible { (TtacticRfl rfl ) } ) } )"
  | `(tactic| obtain ⟨$ps,*⟩ := $t:term) => return sxobt 9 ps.getElems t
  | `(tactic| cases $h:ident) => return sx #[h] "(Tfirst first (null < (Tparen `( { (Tinjection injection #0 (null ) ) ; (Tdone done ) } `) ) > < (Trcases rcases (null (TelimTarget (null ) #0 ) ) (null with (TrcasesPatLo (TrcasesPatMed (null (TrcasesPat.one 'rfl ) ) ) (null ) ) ) ) > < (Tparen `( { (Trcases rcases (null (TelimTarget (null ) (Papp 'Option.some.inj (null #0 ) ) ) ) (null with (TrcasesPatLo (TrcasesPatMed (null (TrcasesPat.one 'Y ) ) ) (null ) ) ) ) ; (Tclear clear (null #0 ) ) ; (Trcases rcases (null (TelimTarget (null ) 'Y ) ) (null with (TrcasesPatLo (TrcasesPatMed (null (TrcasesPat.one 'rfl ) ) ) (null ) ) ) ) } `) ) > < (Tcases cases (null (TelimTarget (null ) (Pexplicit @ #0 ) ) ) (null ) (null ) ) > ) )"
local macro_rules
  | `(nofun) => return sx #[] "(PbyTactic by { (Tfirst first (null < (Tparen `( { (TtacticRepeat_ repeat { (Tintro intro (null 'h ) ) } ) ; (Tinjection injection 'h (null ) ) ; (Tdone done ) } `) ) > < (Tparen `( { (TtacticRepeat_ repeat { (Tintro intro (null 'h ) ) } ) ; (Tcases cases (null (TelimTarget (null ) (Pexplicit @ 'h ) ) ) (null ) (null ) ) ; (Tdone done ) } `) ) > < (Tparen `( { (Tintros intros (null ) ) ; (Tcontradiction contradiction ) } `) ) > < (Trintro rintro (null (TrintroPat.one (TrcasesPat.tuple ⟨ (null ) ⟩ ) ) ) (null ) ) > ) ) } )"
  | `(nomatch $h:ident) => return sx #[h] "(PbyTactic by { (Tfirst first (null < (Tparen `( { (Tinjection injection #0 (null ) ) ; (Tdone done ) } `) ) > < (Tparen `( { (Tcases cases (null (TelimTarget (null ) (Pexplicit @ #0 ) ) ) (null ) (null ) ) ; (Tdone done ) } `) ) > < (Tcontradiction contradiction ) > ) ) } )"
local macro_rules
  | `(tactic| right) => do return sx #[← `(tactic| lia)] "(Tfirst first (null < (Tassumption assumption ) > < (Texact exact (Papp 'Nat.le_of_ble_eq_true (null 'rfl ) ) ) > < (Texact exact (Papp 'Nat.le_trans (null (PbyTactic by { (Tassumption assumption ) } ) (Papp 'Nat.le_of_ble_eq_true (null 'rfl ) ) ) ) ) > < (Texact exact (Papp 'Nat.lt_of_le_of_lt (null (PbyTactic by { (Tassumption assumption ) } ) (Papp 'Nat.le_of_ble_eq_true (null 'rfl ) ) ) ) ) > < (Texact exact (Papp 'Nat.le_of_lt (null (PbyTactic by { (Tassumption assumption ) } ) ) ) ) > < (Texact exact (Papp 'Nat.le_trans (null (Papp 'Nat.le_add_right (null (Phole _ ) (Phole _ ) ) ) (PbyTactic by { (Tassumption assumption ) } ) ) ) ) > < (Texact exact (Papp 'Nat.lt_of_le_of_lt (null (Papp 'Nat.le_add_right (null (Phole _ ) (Phole _ ) ) ) (PbyTactic by { (Tassumption assumption ) } ) ) ) ) > < (Texact exact (Papp 'Nat.le_trans (null (PbyTactic by { (Tassumption assumption ) } ) (PbyTactic by { (Tassumption assumption ) } ) ) ) ) > < #0 > ) )"
set_option maxRecDepth 20000
local macro_rules
  | `(tactic| walk_at $s:str) => match s.getString with
    | "d" => do
      let ids := words "Sq Sr Ss Su Sv Sw Sx Sy Sz SA SD SE SF SG SH SI SJ SK SM SN SO SP SQ SR SS SU SV SW SX SY SZ S0 S1 S2 S3 S4 S5 S6 S7 S8 S9 Ta Tb Tc Td Te Tf Tg Th Ti Tj Tk JD JE Tl Tm Tn To Tp Tq Tr Ts Tt Tu Tv Tw Tx Tz TA TB TC TF Ee TG TH rS JO Uj Et Ul Um Un Uo Up Uq Ur Us Ut Uu Uv Uw Ux Uy Uz UA UB UC UD UE UF UG UH UI UJ UK UL UM UN UO UP UQ UR US UT UU UV UW UX UY UZ U0 U1 U2 U3 U4 U5 U6 U7 U8 U9 Va Vb Vc Vd Ve Vf Vg Vh Vi Vj Vk Vl Vm Vn Vo Vp Vq Vr Vs Vt Vu Vv Vw Vx Vy Vz VA VB VC VD VE VF VG VH VI VJ VK VL VM VN VO VP VQ VR VS VT VU VV VW VX VY VZ V0 V1 V2 V3 V4 V5 V6 V7 V8 V9 Wa Wb Wc Wd We Wf Wg Wh Wi Wj Wk Wl Wm Wn Wo Wp Wq Wr Ws Wt Option.bind_some id_eq List.getElem?_cons_zero List.getElem?_cons_succ List.set_cons_zero List.set_cons_succ tF Wu Wv Ww Wx Wy Wz WA WB WC WD WE WF WG WH WI WJ WK WL WM WN WO WP WQ WR WS WT WU WV WW WX WY WZ W0 W1 W2 W3 W4 W5 W6 W7 W8 W9 Xa Xb Xc aej aek ad2 ad3 ad4 ad5 ad6 ad7 ad8 ad9 aea aeb aec aed aee aef aeg aeh aei yz yp tI x5 x6 yo yi yl yh yf yn yg yj ym yC yB kC oS oU rL mD iy vK yS lR oT vL rK qd ye yk yA yx yt yq yv yu yr yw yy yd x8 yb ya x7 yc x9 qc yQ yD yI yG yO vI yR yP yE yM tJ yF yH vJ yJ yL yK yN"
      `(tactic| dsimp only [$[$ids:ident],*])
    | "c" => return sx #[sxf (words "TJ TK TL TM TN TO TP TQ TR TS TT TU TV TW TX TY TZ T0") "< (Trefine refine (Papp #0 (null (PsyntheticHole ? _ ) ) ) ) >"] "(TwithReducible with_reducible { (Tfirst first #0 ) } )"
    | "e" => return sx #[] "(Tparen `( { (TtacticTry_ try { (:PyProof.Rows.tacticWalk_at_ walk_at (str `\"c\" ) ) } ) ; (TtacticTry_ try { (:PyProof.Rows.tacticWalk_at_ walk_at (str `\"d\" ) ) } ) ; (TtacticRepeat_ repeat { (Tparen `( { (:PyProof.Rows.tacticWalk_at_ walk_at (str `\"c\" ) ) ; (TtacticTry_ try { (:PyProof.Rows.tacticWalk_at_ walk_at (str `\"d\" ) ) } ) } `) ) } ) } `) )"
    | "n" => return sx #[sxf (words "od kg sI sJ lv uJ") "< (Texact exact (Papp #0 (null (PbyTactic by { (:PyProof.Rows.tacticWalk_at_ walk_at (str `\"s\" ) ) } ) (PbyTactic by { (:PyProof.Rows.tacticWalk_at_ walk_at (str `\"s\" ) ) } ) ) ) ) >", sx #[] "(Tfirst first (null < (Tassumption assumption ) > < (Texact exact (Papp 'Ne.symm (null (PbyTactic by { (Tassumption assumption ) } ) ) ) ) > < (Texact exact (Papp 'a0 (null (PbyTactic by { (:PyProof.Rows.tacticWalk_at_ walk_at (str `\"s\" ) ) } ) (PbyTactic by { (Tassumption assumption ) } ) ) ) ) > < (Texact exact (Papp 'Ne.symm (null (Papp 'a0 (null (PbyTactic by { (:PyProof.Rows.tacticWalk_at_ walk_at (str `\"s\" ) ) } ) (PbyTactic by { (Tassumption assumption ) } ) ) ) ) ) ) > ) )"] "(Tfirst first (null < #1 > < (Tfirst first #0 ) > ) )"
    | "s" => return sx #[] "(Tfirst first (null < (Tassumption assumption ) > < (Texact exact 'aY ) > < (Tparen `( { (Trefine refine (Papp 'aC (null (PsyntheticHole ? _ ) (PsyntheticHole ? _ ) ) ) ) ; (Tfirst first (null < (Tparen `( { (Tintro intro (null 'co ) ) ; (Tsubst subst (null 'co ) ) ; (Tdone done ) } `) ) > < (:PyProof.Rows.tacticWalk_at_ walk_at (str `\"n\" ) ) > ) ) ; (:PyProof.Rows.tacticWalk_at_ walk_at (str `\"s\" ) ) } `) ) > ) )"
    | "x" => return sx #[sxf (words "aiW Pk aiY aiX ai0 aiZ") "< (Trefine refine (Papp #0 (null (PbyTactic by { (Texact exact 'rfl ) } ) (PsyntheticHole ? _ ) ) ) ) >"] "(Tparen `( { (:PyProof.Rows.tacticWalk_at_ walk_at (str `\"e\" ) ) ; (TtacticRepeat_ repeat { (Tparen `( { (Tfirst first #0 ) ; (:PyProof.Rows.tacticWalk_at_ walk_at (str `\"e\" ) ) } `) ) } ) } `) )"
    | _ => Lean.Macro.throwUnsupported
local macro_rules | `(tactic| left) => `(tactic| walk_at "e")
section
open PySem PySem.W PyProof.Rows
section
set_option maxRecDepth 100000
theorem ho{a b:Bool}(x:a=G)(y:b=G):(a&&b)=G:=kv.mpr ⟨x,y⟩
theorem QW:sreFenced dI.row.prog.main=G:=by kernel_rfl
theorem QX:((moduleNames dI.row.prog.main.body).isEmpty||lookedIntoSs (moduleNames dI.row.prog.main.body) dI.row.prog.main.body)=G:=by kernel_rfl
theorem QY:namesResolve dI.row.prog=G:=by kernel_rfl
theorem QZ:(dI.row.prog.boundNames.all λ n=>!worldNames.contains n)=G:=by kernel_rfl
theorem Q0:noRoadLSs { strict:=!(importedModules dI.row.prog.main.body).all cThrough.contains,foot:=J,bare:=(["vars","dir","locals"]:List Str).filter (readsOut dI.row.prog dI.row.prog.main.body) } dI.row.prog.main.body=G:=by kernel_rfl
theorem Q1:(namesMeet dI.row.prog dI.row.prog.main.body λ _ n=>attrL n)=G:=by kernel_rfl
theorem Q2:looksOpen dI.row.prog=G:=ho (ho (ho (ho (ho QW QX) QY) QZ) Q0) Q1
theorem Q3:dI.row.partSaid=G:=by
 unfold OpenRow.partSaid
 rw[Q2]
 kernel_rfl
theorem Q4:dI.footing.all footLine=G:=by kernel_rfl
theorem Q5:noClassBlock dI.prog dI.footing=G:=by kernel_rfl
theorem Q6:noRoadLSs { strict:=true,foot:=B dI.bound',writes:=dI.writes,may:=dI.may } dI.footing=G:=by kernel_rfl
theorem Q7:dI.namesIt=G:=by kernel_rfl
theorem Q8:dI.bound'.all (λ n=>!builtinNamed n||PySem.Challenge.rw_no0178_01.about==[n]||!dI.reads n)=G:=by kernel_rfl
theorem Q9:namesMeet dI.prog dI.footing (λ sc n=>(!(["type","isinstance","issubclass","getattr","hasattr"]:List Str).contains n||sc.names.lookup n==B .globalImplicit)&&
  (dI.may !=B n||sc.kind== .module||sc.names.lookup n==B .globalImplicit))=G:=by kernel_rfl
theorem Ra:(namesMeet dI.prog dI.above λ _ n=>!dI.own.contains n)=G:=by kernel_rfl
theorem Rb:(namesMeet dI.prog dI.footing λ sc n=>sc.kind== .module||sc.names.lookup n !=B .globalExplicit)=G:=by kernel_rfl
theorem Rc:(dI.prog.main.body.flatMap importedNames).all (λ n=>!dI.reads n||(drawsOf n dI.prog.main.body).all λ rC=>rC.2 !=("attrgetter" :Str)&&rC.2 !=("methodcaller" :Str))=G:=by kernel_rfl
theorem Ji:dI.row.wellSaid=G:=by
 unfold OpenRow.wellSaid
 rw[Q3]
 kernel_rfl
theorem Rd:dI.wellSaid=G:=by
 unfold OpenLaw.wellSaid
 refine ho (ho (ho (ho (ho (ho (ho (ho (ho (ho (ho (ho (ho (ho (ho (ho (ho (ho Ji ?_) Q4) Q5) ?_) ?_) Q6) ?_) Q7) ?_) Q8) ?_) Rc) Q9) ?_) ?_) ?_) Ra) Rb
 all_goals kernel_rfl
end
end
section
open PySem
set_option genInjectivity true in
inductive V where
 |none|bool (b:Bool)|int (i:Int)|str (s:List Nat)|tup (X:List V)|ref (a:Nat)|fi (X:List V)
 deriving Inhabited
set_option genInjectivity true in
inductive a2 where
 |s (x:List Nat)|i (n:Int)|p (a b:Int)
 deriving DecidableEq
set_option genInjectivity true in
inductive O where
 |list (X:List V)|dict (kvs:List (a2×V))|inst (ae bL:Nat) (a9:List (Nat×V))|owned (x:Nat)
abbrev St:=Nat->Option O
abbrev ax:=List (Option V)
noncomputable def St.del(j:St)(a:Nat):St:= λ b=>if b=a then J else j b
noncomputable def St.set(j:St)(a:Nat)(o:O):St:= λ b=>if b=a then B o else j b
inductive f4 where|add|sub|mul|fdiv|mod|pow
inductive k0 where|eq|ne|lt|le|gt|ge|is|oN|isin|p6
inductive dy where|len|abs|int|str|chr|ord|tuple
mutual
inductive a7 where
 |bad
 |loc (i:Nat)
 |ea (v:V)
 |tup (xs:lN)
 |lst (xs:lN)
 |tx (cU:List a2) (X:lN)
 |bin (op:f4) (a b:a7)
 |cmp (op:k0) (a b:a7)
 |inl (neg:Bool) (a:a7) (es:lN)
 |inv (a d:a7)
 |vt (neg:Bool) (a:a7)
 |and (a b:a7)
 |or (a b:a7)
 |not (a:a7)
 |neg (a:a7)
 |ite (c a b:a7)
 |attr (a:a7) (n:Nat)
 |sub (a i:a7)
 |slice (a lo bo:a7)
 |fn (f:Nat) (xs:lN)
 |mx (o:a7) (n:Nat) (xs:lN)
 |cq (b:dy) (a:a7)
 |divmod (a b:a7)
 |join (rev:Bool) (sep l:a7)
 |comp (i:Nat) (ir:a7) (it:fF)
 |vu (i:Nat) (c it:a7)
inductive lN where
 |nil|cons (x:a7) (xs:lN)
inductive fF where
 |val (x:a7)|x1 (x:a7)|rD (a b:a7)|rev (x:a7)
end
inductive oO where
 |bad|loc (i:Nat)|tup (is:List Nat)|attr (o:a7) (n:Nat)|sub (o i:a7)
mutual
inductive S where
 |bad
 |expr (x:a7)
 |asg (t:oO) (x:a7)
 |aug (i:Nat) (op:f4) (x:a7)
 |CA (o i:a7) (op:f4) (x:a7)
 |c4 (c:a7) (a b:ef)
 |gi (c:a7) (b:ef)
 |hy (i:Nat) (it:fF) (b:ef)
 |vv (k v:Nat) (x:a7) (b:ef)
 |ret (x:a7)
 |brk|cont|pass
inductive ef where
 |nil|cons (s:S) (eZ:ef)
end
inductive bM where
 |next|brk|cont|ret (v:V)
noncomputable def ay:Nat:=1000000
noncomputable def V.toKey(v:V):Option a2:=match v with
 | .str s=>B (.s s)
 | .int i=>B (.i i)
 | .tup [.int a, .int b]=>B (.p a b)
 |_=>J
noncomputable def dJ(kvs:List (a2×V))(k:a2):Option V:=(kvs.find? λ x=>decide (x.1=k)).map (·.2)
noncomputable def ha(kvs:List (a2×V))(k:a2)(v:V):List (a2×V):=
 if(dJ kvs k).isSome then kvs.map (λ x=>if x.1=k then(x.1,v)else x)else kvs++ [(k,v)]
noncomputable def a2.CB:a2->a2->Bool
 | .s _, .s _=>G
 | .i _, .i _=>G
 | .p _ _, .p _ _=>G
 |_,_=>U
noncomputable def eg(kvs:List (a2×V))(k:a2):Bool:=match kvs with
 | []=>G
 |(gj,_)::_=>gj.CB k
noncomputable def hN(a9:List (Nat×V))(n:Nat)(v:V):List (Nat×V):=match a9 with
 | []=> [(n,v)]
 |(m,u)::r=>if m=n then(n,v)::r else(m,u)::hN r n v
mutual
noncomputable def h2:V->Nat
 | .tup X=>CC X+1
 |_=>0
noncomputable def CC:List V->Nat
 | []=>0
 |v::X=>max (h2 v) (CC X)
end
mutual
noncomputable def f6:V->Bool
 | .tup X=>ty X
 | .ref _| .fi _=>U
 |_=>G
noncomputable def ty:List V->Bool
 | []=>G
 |v::X=>f6 v&&ty X
end
mutual
noncomputable def lO:V->V->Option Bool
 | .none,b=>match b with| .none=>B G|_=>B U
 | .bool a,b=>match b with| .bool b=>B (a==b)| .int _=>J|_=>B U
 | .int a,b=>match b with| .int b=>B (decide (a=b))| .bool _=>J|_=>B U
 | .str a,b=>match b with| .str b=>B (decide (a=b))|_=>B U
 | .tup a,b=>match b with| .tup b=>rE a b|_=>B U
 |_,_=>J
noncomputable def rE:List V->List V->Option Bool
 | [],b=>match b with| []=>B G|_::_=>B U
 |a::as,b=>match b with
  | []=>B U
  |b::fL=>match lO a b,rE as fL with
   |some x,B y=>B (x&&y)
   |_,_=>J
end
noncomputable def jg(a b:V):Option Bool:=if f6 a/\f6 b/\h2 a<=60/\h2 b<=60 then lO a b else J
noncomputable def gU(v:V):List V->Option Bool
 | []=>if f6 v/\h2 v<=60 then B U else J
 |a::as=>match jg a v,gU v as with
  |some x,B y=>B (x||y)
  |_,_=>J
noncomputable def oP(f:Int->Int->Option V)(a b:V):Option V:=match a with
 | .int a=>(match b with
  | .int b=>f a b
  |_=>J)
 |_=>J
noncomputable def Jj(a b:V):Option V:=match a with
 | .str a=>(match b with
  | .str b=>if a.length+b.length<=ay then B (.str (a++b))else J
  |_=>J)
 |a=>oP (λ a b=>B (.int (a+b))) a b
noncomputable def my(op:f4)(a b:V):Option V:=match op with
 | .add=>Jj a b
 | .sub=>oP (λ a b=>B (.int (a - b))) a b
 | .mul=>oP (λ a b=>if a.natAbs<2^40/\b.natAbs<2^40 then B (.int (a*b))else J) a b
 | .fdiv=>oP (λ a b=>if b=0\/2^100<=b.natAbs then J else B (.int (a.fdiv b))) a b
 | .mod=>oP (λ a b=>if b=0\/2^200<=b.natAbs then J else B (.int (a.fmod b))) a b
 | .pow=>oP (λ a b=>if a=10/\0<=b/\b<=40 then B (.int (a^b.toNat))else J) a b
noncomputable def vw:k0->Int->Int->Option Bool
 | .lt,a,b=>B (decide (a<b))
 | .le,a,b=>B (decide (a<=b))
 | .gt,a,b=>B (decide (b<a))
 | .ge,a,b=>B (decide (b<=a))
 |_,_,_=>J
noncomputable def CD(a b:V):Option Bool:=match b with
 | .none=>(match a with
  | .none=>B G
  | .bool _| .fi _=>J
  |_=>B U)
 |_=>J
noncomputable def kw(j:St)(v c:V):Option Bool:=match c with
 | .tup X=>gU v X
 | .ref a=>(match j a with
  |some (.list X)=>gU v X
  |some (.dict kvs)=>v.toKey.bind λ k=>if eg kvs k then B (dJ kvs k).isSome else J
  |_=>J)
 | .str s=>(match v with
  | .str [c]=>B (s.contains c)
  |_=>J)
 |_=>J
noncomputable def fu(j:St)(op:k0)(a b:V):Option Bool:=match op with
 | .eq=>jg a b
 | .ne=>(jg a b).map (!·)
 | .is=>CD a b
 | .oN=>(CD a b).map (!·)
 | .isin=>kw j a b
 | .p6=>(kw j a b).map (!·)
 |op=>(match a with
  | .int a=>(match b with
   | .int b=>vw op a b
   |_=>J)
  |_=>J)
noncomputable def kx(n:Nat)(k:Int):Option Nat:=
 if 0<=k/\k<n/\k<2^40 then B k.toNat else J
noncomputable def dU(j:St):V->V->Option V
 | .tup X, .int k=>(kx X.length k).bind (X[·]?)
 | .str s, .int k=>if k= -1 then(s.getLast?).map (λ c=> .str [c])else(kx s.length k).bind λ i=>(s[i]?).map (λ c=> .str [c])
 | .ref a,v=>match j a with
  |some (.list X)=>(match v with| .int k=>(kx X.length k).bind (X[·]?)|_=>J)
  |some (.dict kvs)=>v.toKey.bind λ k=>if eg kvs k then dJ kvs k else J
  |_=>J
 |_,_=>J
noncomputable def CE:V->V->V->Option V
 | .str s, .int a, .int b=>if 0<=a/\a<=b/\b<2^40/\s.length<=ay then B (.str ((s.take b.toNat).drop a.toNat))else J
 |_,_,_=>J
noncomputable def tz(n:Nat):List Nat:=(Rf 10 n).map Rg
noncomputable def tA(j:St)(v:V):Option Nat:=match v with
 | .str s=>B s.length
 | .tup X=>B X.length
 | .ref a=>(match j a with
  |some (.list X)=>B X.length
  |_=>J)
 |_=>J
noncomputable def ofInt(f:Int->Option V)(v:V):Option V:=match v with
 | .int i=>f i
 |_=>J
noncomputable def gV(j:St)(b:dy)(v:V):Option V:=match b with
 | .len=>(tA j v).bind λ n=>if n<=ay then B (.int n)else J
 | .abs=>ofInt (λ i=>B (.int (if i<0 then -i else i))) v
 | .int=>(match v with
  | .str s=>if s≠ []/\s.length<=600/\s.all (λ c=>48<=c&&c<=57)then B (.int (s.foldl (λ n c=>n*10+(c - 48)) 0:Nat))else J
  |v=>ofInt (λ i=>B (.int i)) v)
 | .str=>ofInt (λ i=>if 0<=i/\i.natAbs<2^1000 then B (.str (tz i.toNat))else J) v
 | .chr=>ofInt (λ i=>if 0<=i/\i<55296 then B (.str [i.toNat])else J) v
 | .ord=>(match v with
  | .str [c]=>B (.int c)
  |_=>J)
 | .tuple=>(match v with
  | .ref a=>(match j a with
   |some (.list X)=>if X.length<=ay then B (.tup X)else J
   |_=>J)
  |_=>J)
noncomputable def iu:List V->Option (List (List Nat))
 | []=>B []
 | .str s::r=>(iu r).map (s:: ·)
 |_=>J
noncomputable def rF(j:St)(rev:Bool):V->V->Option V
 | .str [], .ref a=>match j a with
  |some (.list X)=>(iu X).bind λ l=>
   let r:=(if rev then l.reverse else l).flatten
   if r.length<=ay/\X.length<=ay then B (.str r)else J
  |_=>J
 |_,_=>J
noncomputable def ky(j:St):V->Option Bool
 | .bool b=>B b
 | .ref a=>match j a with
  |some (.list X)=>if X.length<=ay then B (!X.isEmpty)else J
  |_=>J
 |_=>J
noncomputable def nA(j:St):V->V->V->Option St
 | .ref a,i,v=>match j a with
  |some (.list X)=>(match i with| .int k=>(kx X.length k).map λ aU=>j.set a (.list (X.set aU v))|_=>J)
  |some (.dict kvs)=>i.toKey.bind λ k=>if eg kvs k/\kvs.length<ay then B (j.set a (.dict (ha kvs k v)))else J
  |_=>J
 |_,_,_=>J
inductive iv where
 |own (f x:Nat)|list (a:Nat)|dict (a:Nat)|str (s:List Nat)
structure em where
 jX:Nat->Nat->Bool
 tB:Nat->Nat->Option Nat
 tC:Nat->List V->St->(V->St->Prop)->Prop
noncomputable def alK:=0
noncomputable def alL:=1
noncomputable def alM:=2
noncomputable def alN:=3
noncomputable def alO:=4
noncomputable def alP:=5
noncomputable def alQ:=6
noncomputable def k1(P:em)(j:St):V->Nat->Option iv
 | .ref x,n=>match j x with
  |some (.inst ae _ a9)=>if n<7\/(a9.lookup n).isSome then J else(P.tB ae n).map (.own · x)
  |some (.list _)=>if n<2 then B (.list x)else J
  |some (.dict _)=>if n=2 then B (.dict x)else J
  |_=>J
 | .str s,n=>if 3<=n/\n<=6 then B (.str s)else J
 |_,_=>J
noncomputable def vx(s:List Nat)(c:Nat)(p:Nat):Option Nat:=((s.drop p).findIdx? (· ==c)).map (· +p)
abbrev b9{α:Type}(o:Option α)(Q:α->Prop):Prop:=match o with
 |some a=>Q a
 |none=>False
@[simp] theorem alR{α:Type}(a:α)(Q:α->Prop):b9 (B a) Q=Q a:=rfl
@[simp] theorem alS{α:Type}(Q:α->Prop):b9 J Q=False:=rfl
def mz(a:Nat)(m:Nat)(X:List V)(j:St)(Q:V->St->Prop):Prop:=match m,X with
 |0,[v]=>(match j a with
  |some (.list bj)=>bj.length<ay/\Q .none (j.set a (.list (bj++ [v])))
  |_=>False)
 |1,[]=>(match j a with
  |some (.list bj)=>bj.length<ay/\(match bj.getLast? with
   |some v=>Q v (j.set a (.list bj.dropLast))
   |none=>False)
  |_=>False)
 |_,_=>False
def rG(a:Nat)(X:List V)(j:St)(Q:V->St->Prop):Prop:=match X with
 | [k]=>(match j a with
  |some (.dict kvs)=>(match k.toKey with
   |some k=>eg kvs k=G/\Q ((dJ kvs k).getD .none) j
   |none=>False)
  |_=>False)
 | [k,d]=>(match j a with
  |some (.dict kvs)=>(match k.toKey with
   |some k=>eg kvs k=G/\Q ((dJ kvs k).getD d) j
   |none=>False)
  |_=>False)
 |_=>False
def tD(s:List Nat)(m:Nat)(X:List V)(j:St)(Q:V->St->Prop):Prop:=match m with
 |3=>(match X with
  | [.int n]=>0<=n/\n<=100/\s.length<=ay/\s.head?≠B 45/\s.head?≠B 43/\Q (.str (rH (n.toNat - s.length) 48++s)) j
  |_=>False)
 |4=>(match X with
  | [.str t]=>Q (.bool (t.isPrefixOf s)) j
  |_=>False)
 |5=>(match X with
  | [.str [c]]=>b9 (vx s c 0) λ i=>Q (.int i) j
  | [.str [c], .int p]=>0<=p/\p<2^40/\b9 (vx s c p.toNat) λ i=>Q (.int i) j
  |_=>False)
 |6=>(match X with
  | []=>s=tE 97 26/\Q (.str (tE 65 26)) j
  |_=>False)
 |_=>False
def rI(P:em)(r:iv)(m:Nat)(X:List V)(j:St)(Q:V->St->Prop):Prop:=match r with
 | .own f x=>P.tC f (.ref x::X) j Q
 | .list a=>mz a m X j Q
 | .dict a=>rG a X j Q
 | .str s=>tD s m X j Q
structure fG where
 items:List V
 live:St->Prop
noncomputable def CF(cU:List a2)(X:List V):Option (List (a2×V)):=if cU.length=X.length/\cU.length<=15 then B (cU.zip X)else J
noncomputable def vy:List (a2×V)->Bool
 | []=>G
 |(k,_)::r=>r.all (λ x=>k.CB x.1&&decide (x.1≠k))&&vy r
noncomputable def mA(j:St):V->Option fG
 | .tup X=>B ⟨X,λ _=>True⟩
 | .fi X=>B ⟨X,λ _=>True⟩
 | .str s=>B ⟨s.map λ c=> .str [c],λ _=>True⟩
 | .ref a=>match j a with
  |some (.list X)=>B ⟨X,λ D=>D a=B (.list X)⟩
  |_=>J
 |_=>J
noncomputable def vz(j:St):V->Option fG
 | .ref a=>match j a with
  |some (.list X)=>B ⟨X.reverse,λ D=>D a=B (.list X)⟩
  |_=>J
 |_=>J
noncomputable def a2.val:a2->V
 | .s x=> .str x
 | .i n=> .int n
 | .p a b=> .tup [.int a, .int b]
noncomputable def hb(a b:Int):List V:=(oQ (b - a).toNat).map λ k=> .int (a+(k:Nat))
noncomputable def p7:V->V->Option fG
 | .int a, .int b=>if a.natAbs<=ay/\b.natAbs<=ay then B ⟨hb a b,λ _=>True⟩else J
 |_,_=>J
def lP(op:f4)(aX fM:V)(j:St)(Q:V->St->Prop):Prop:=match op,aX,fM with
 | .add, .ref x, .ref y=>(match j x,j y with
  |some (.list u),B (.list v)=>u.length+v.length<=ay/\ ∀c,j c=J->Q (.ref c) (j.set c (.list (u++v)))
  |_,_=>False)
 |op,aX,fM=>b9 (my op aX fM) λ r=>Q r j
noncomputable def a2.fR:a2->Bool
 | .s x=>x.all (λ c=>decide (c<0x110000))
 | .i _=>G
 | .p _ _=>U
def vA(aX iw:V)(j:St)(Q:V->St->Prop):Prop:=match aX,iw with
 | .str t, .ref x=>(match j x with
  |some (.dict kvs)=>kvs.all (λ x=>x.1.fR)=G/\b9 (iu (kvs.map (·.2))) λ l=>Q (.bool (l.any λ y=>decide (y=t))) j
  |_=>False)
 |_,_=>False
def x0(neg:Bool)(aX:V)(j:St)(Q:V->St->Prop):Prop:=match aX with
 | .ref x=>(match j x with
  |some (.list X)=>Q (.bool (X.isEmpty !=neg)) j
  |_=>False)
 |_=>False
def CG(aX:V)(j:St)(Q:V->St->Prop):Prop:=match aX with
 | .int i=>Q (.int (-i)) j
 |_=>False
def vB(P:em)(aX:V)(n:Nat)(j:St)(Q:V->St->Prop):Prop:=match aX with
 | .ref x=>(match j x with
  |some (.inst ae _ a9)=>P.jX ae n=G/\b9 (a9.lookup n) λ v=>Q v j
  |_=>False)
 |_=>False
def x2(aX f7 jh:V)(j:St)(Q:V->St->Prop):Prop:=match aX,f7,jh with
 | .fi X, .none, .int k=>0<=k/\k<=1000/\X.length<=ay/\ ∀c,j c=J->Q (.ref c) (j.set c (.list (X.take k.toNat)))
 |aX,f7,jh=>b9 (CE aX f7 jh) λ r=>Q r j
def CH(aX fM:V)(j:St)(Q:V->St->Prop):Prop:=match aX,fM with
 | .int x, .int y=>y≠0/\y.natAbs<2^100/\Q (.tup [.int (x.fdiv y), .int (x.fmod y)]) j
 |_,_=>False
def vC(P:em)(ey:V)(n:Nat)(v:V)(j:St)(K:St->Prop):Prop:=match ey with
 | .ref x=>(match j x with
  |some (.inst ae bL a9)=>P.jX ae n=G/\a9.length<100/\K (j.set x (.inst ae bL (hN a9 n v)))
  |_=>False)
 |_=>False
noncomputable def tF:List Nat->List V->ax->ax
 |i::is,v::X,E=>tF is X (E.set i (B v))
 |_,_,E=>E
def vD(d:V)(j:St)(K:Nat->List (a2×V)->Prop):Prop:=match d with
 | .ref a=>(match j a with
  |some (.dict kvs)=>kvs.all (λ x=>x.1.fR)=G/\K a kvs
  |_=>False)
 |_=>False
def Rh(k v:Nat)(e:V)(E:ax)(K:ax->Prop):Prop:=match e with
 | .tup [a,b]=>K ((E.set k (B a)).set v (B b))
 |_=>False
structure c1 where
 np:Nat
 nl:Nat
 body:ef
section
set_option maxRecDepth 20000
noncomputable def jY:List Str:=["append","pop","get","zfill","startswith","index","upper","texts","atom_numbers","functors","functor_numbers","atom","func","text","functor","name","arity","symbols","prefixes","infixes","postfixes","add","prefix","infix","postfix","is_operator","table_of","operators","quoted","ignore_ops","numbervars","names","taken","out","last","prefixed","work","write","infix_operator","postfix_operator","raw","needs_space","token","later","variable_text","write_atom","write_list","is_numbered","shape","write_functional","write_operation","prefix_operator","left_limit"].map bu
noncomputable abbrev alT:Nat:=122
noncomputable abbrev alU:Nat:=287
noncomputable abbrev alV:Nat:=472
noncomputable def Jk:List (Nat×Nat×Nat):=[(122,11,56),(122,13,63),(122,14,70),(122,12,77),(122,15,84),(122,16,91),(287,22,242),(287,23,249),(287,24,256),(287,25,263),(287,26,270),(287,21,277),(472,13,357),(472,40,364),(472,42,371),(472,41,378),(472,43,385),(472,37,392),(472,44,399),(472,47,406),(472,45,413),(472,46,420),(472,49,427),(472,48,434),(472,50,441),(472,52,448),(472,51,455),(472,38,462),(472,39,469)]
open ef renaming cons->af,nil->ar
open S renaming ret->cf,asg->a6,hy->iU,expr->cQ,c4->bQ,gi->nB,bad->Jl,vv->Jm,aug->iV,brk->Jn,CA->Jo,cont->Jp
open a7 renaming tup->bD,ea->M,loc->H,lst->fH,tx->jC,fn->cV,mx->bO,sub->a4,attr->dK,neg->vE,cmp->a1,cq->ez,and->dO,or->gk,bin->c3,divmod->Ri,join->CI,not->oR,slice->vF,inl->kz,ite->nC,comp->CJ,vu->Jq,vt->Rj,inv->Rk
open lN renaming cons->L,nil->al
open V renaming str->av,int->an,bool->en,tup->CK,none->fS
open oO renaming attr->gH,loc->bT,sub->mB,tup->ix
open fF renaming val->kA,rev->Jr,x1->CL,rD->Js
open k0 renaming ge->p8,eq->cu,le->kB,lt->mC,isin->gl,ne->lQ,gt->p9,oN->rJ,is->Jt,p6->tG
open dy renaming len->iW,chr->vG,abs->CM,str->vH,ord->qa,int->CN,tuple->CO
open f4 renaming pow->x3,sub->jZ,add->dw,fdiv->x4,mod->qb,mul->CP
open a2 renaming s->CQ,i->tH
noncomputable def x5:c1:=⟨0,0,af (cf (bD (L (M (av [91,93])) (L (M (av [46])) (L (M (av [123,125])) (L (M (av [45])) (L (M (av [43])) (L (M (av [42])) (L (M (av [47])) (L (M (av [44])) (L (M (av [124])) (L (M (av [59])) (L (M (av [45,62])) (L (M (av [92,43])) (L (M (av [58,45])) (L (M (av [63,45])) (L (M (av [45,45,62])) (L (M (av [33])) (L (M (av [116,114,117,101])) (L (M (av [102,97,105,108])) (L (M (av [102,97,108,115,101])) (L (M (av [99,97,108,108])) (L (M (av [61])) (L (M (av [94])) (L (M (av [101,114,114,111,114])) (L (M (av [])) (L (M (av [101,110,100,95,111,102,95,102,105,108,101])) (L (M (av [115,121,115,116,101,109])) (L (M (av [36,86,65,82])) (L (M (av [99,97,116,99,104])) (L (M (av [116,104,114,111,119])) al))))))))))))))))))))))))))))))) ar⟩
noncomputable def x6:c1:=⟨0,0,af (cf (bD (L (bD (L (M (av [46])) (L (M (an 2)) al))) (L (bD (L (M (av [44])) (L (M (an 2)) al))) (L (bD (L (M (av [59])) (L (M (an 2)) al))) (L (bD (L (M (av [45,62])) (L (M (an 2)) al))) (L (bD (L (M (av [92,43])) (L (M (an 1)) al))) (L (bD (L (M (av [58,45])) (L (M (an 2)) al))) (L (bD (L (M (av [58,45])) (L (M (an 1)) al))) (L (bD (L (M (av [63,45])) (L (M (an 1)) al))) (L (bD (L (M (av [45,45,62])) (L (M (an 2)) al))) (L (bD (L (M (av [123,125])) (L (M (an 1)) al))) (L (bD (L (M (av [61])) (L (M (an 2)) al))) (L (bD (L (M (av [94])) (L (M (an 2)) al))) (L (bD (L (M (av [45])) (L (M (an 1)) al))) (L (bD (L (M (av [45])) (L (M (an 2)) al))) (L (bD (L (M (av [43])) (L (M (an 2)) al))) (L (bD (L (M (av [47])) (L (M (an 2)) al))) (L (bD (L (M (av [101,114,114,111,114])) (L (M (an 2)) al))) (L (bD (L (M (av [36,86,65,82])) (L (M (an 1)) al))) (L (bD (L (M (av [99,97,116,99,104])) (L (M (an 3)) al))) (L (bD (L (M (av [116,104,114,111,119])) (L (M (an 1)) al))) (L (bD (L (M (av [33])) (L (M (an 0)) al))) (L (bD (L (M (av [116,114,117,101])) (L (M (an 0)) al))) (L (bD (L (M (av [102,97,105,108])) (L (M (an 0)) al))) (L (bD (L (M (av [102,97,108,115,101])) (L (M (an 0)) al))) (L (bD (L (M (av [99,97,108,108])) (L (M (an 1)) al))) (L (bD (L (M (av [99,97,108,108])) (L (M (an 2)) al))) (L (bD (L (M (av [99,97,108,108])) (L (M (an 3)) al))) (L (bD (L (M (av [99,97,108,108])) (L (M (an 4)) al))) (L (bD (L (M (av [99,97,108,108])) (L (M (an 5)) al))) (L (bD (L (M (av [99,97,108,108])) (L (M (an 6)) al))) (L (bD (L (M (av [99,97,108,108])) (L (M (an 7)) al))) (L (bD (L (M (av [99,97,108,108])) (L (M (an 8)) al))) al)))))))))))))))))))))))))))))))))) ar⟩
noncomputable def x7:c1:=⟨1,3,af (a6 (gH (H 0) 7) (fH al)) (af (a6 (gH (H 0) 8) (jC [] al)) (af (a6 (gH (H 0) 9) (fH al)) (af (a6 (gH (H 0) 10) (jC [] al)) (af (iU 1 (kA (cV 28 al)) (af (cQ (bO (H 0) 11 (L (H 1) al))) ar)) (af (iU 2 (kA (cV 35 al)) (af (cQ (bO (H 0) 12 (L (a4 (H 2) (M (an 0))) (L (a4 (H 2) (M (an 1))) al)))) ar)) ar)))))⟩
noncomputable def x8:c1:=⟨2,4,af (a6 (bT 2) (bO (dK (H 0) 8) 2 (L (H 1) (L (vE (M (an 1))) al)))) (af (bQ (a1 p8 (H 2) (M (an 0))) (af (cf (H 2)) ar) ar) (af (a6 (bT 3) (ez iW (dK (H 0) 7))) (af (cQ (bO (dK (H 0) 7) 0 (L (H 1) al))) (af (a6 (mB (dK (H 0) 8) (H 1)) (H 3)) (af (cf (H 3)) ar)))))⟩
noncomputable def x9:c1:=⟨2,2,af (cf (a4 (dK (H 0) 7) (H 1))) ar⟩
noncomputable def ya:c1:=⟨3,6,af (a6 (bT 3) (bD (L (H 1) (L (H 2) al)))) (af (a6 (bT 4) (bO (dK (H 0) 10) 2 (L (H 3) (L (vE (M (an 1))) al)))) (af (bQ (a1 p8 (H 4) (M (an 0))) (af (cf (H 4)) ar) ar) (af (a6 (bT 5) (ez iW (dK (H 0) 9))) (af (cQ (bO (dK (H 0) 9) 0 (L (H 3) al))) (af (a6 (mB (dK (H 0) 10) (H 3)) (H 5)) (af (cf (H 5)) ar))))))⟩
noncomputable def yb:c1:=⟨3,3,af (cf (bO (H 0) 14 (L (bO (H 0) 11 (L (H 1) al)) (L (H 2) al)))) ar⟩
noncomputable def yc:c1:=⟨2,2,af (cf (a4 (a4 (dK (H 0) 9) (H 1)) (M (an 0)))) ar⟩
noncomputable def yd:c1:=⟨2,2,af (cf (a4 (a4 (dK (H 0) 9) (H 1)) (M (an 1)))) ar⟩
noncomputable def ye:c1:=⟨1,2,af (a6 (bT 1) (fH al)) (af (nB (dO (a1 cu (a4 (H 0) (M (an 0))) (M (av [115]))) (a1 cu (a4 (H 0) (M (an 1))) (M (an 0)))) (af (cQ (bO (H 1) 0 (L (a4 (a4 (H 0) (M (an 2))) (M (an 0))) al))) (af (a6 (bT 0) (a4 (a4 (H 0) (M (an 2))) (M (an 1)))) ar))) (af (cf (bD (L (H 1) (L (H 0) al)))) ar))⟩
noncomputable def yf:c1:=⟨1,1,af (cf (dO (a1 kB (M (an 48)) (H 0)) (a1 kB (H 0) (M (an 57))))) ar⟩
noncomputable def yg:c1:=⟨1,1,af (cf (dO (a1 kB (M (an 97)) (H 0)) (a1 kB (H 0) (M (an 122))))) ar⟩
noncomputable def yh:c1:=⟨1,1,af (cf (dO (a1 kB (M (an 65)) (H 0)) (a1 kB (H 0) (M (an 90))))) ar⟩
noncomputable def yi:c1:=⟨1,1,af (cf (gk (cV 147 (L (H 0) al)) (gk (cV 154 (L (H 0) al)) (gk (cV 140 (L (H 0) al)) (a1 cu (H 0) (M (an 95))))))) ar⟩
noncomputable def yj:c1:=⟨1,1,af (cf (dO (a1 kB (M (an 0)) (H 0)) (dO (a1 mC (H 0) (M (an 128))) (a1 gl (ez vG (H 0)) (M (av [43,45,42,47,92,94,60,62,61,126,58,46,63,64,35,38,36])))))) ar⟩
noncomputable def yk:c1:=⟨1,4,af (a6 (bT 1) (ez CM (H 0))) (af (a6 (bT 2) (fH al)) (af (nB (a1 p8 (H 1) (c3 x3 (M (an 10)) (M (an 18)))) (af (a6 (ix [1,3]) (Ri (H 1) (c3 x3 (M (an 10)) (M (an 18))))) (af (cQ (bO (H 2) 0 (L (bO (ez vH (H 3)) 3 (L (M (an 18)) al)) al))) ar))) (af (cQ (bO (H 2) 0 (L (ez vH (H 1)) al))) (af (bQ (a1 mC (H 0) (M (an 0))) (af (cQ (bO (H 2) 0 (L (M (av [45])) al))) ar) ar) (af (cf (CI G (M (av [])) (H 2))) ar)))))⟩
noncomputable def yl:c1:=⟨1,2,af (bQ (gk (a1 cu (H 0) (M (av []))) (oR (cV 147 (L (ez qa (a4 (H 0) (M (an 0)))) al)))) (af (cf (M (en U))) ar) ar) (af (iU 1 (kA (H 0)) (af (bQ (oR (cV 161 (L (ez qa (H 1)) al))) (af (cf (M (en U))) ar) ar) ar)) (af (cf (M (en G))) ar))⟩
noncomputable def ym:c1:=⟨1,2,af (bQ (a1 cu (H 0) (M (av []))) (af (cf (M (en U))) ar) ar) (af (iU 1 (kA (H 0)) (af (bQ (oR (cV 168 (L (ez qa (H 1)) al))) (af (cf (M (en U))) ar) ar) ar)) (af (cf (M (en G))) ar))⟩
noncomputable def yn:c1:=⟨1,1,af (bQ (a1 gl (H 0) (bD (L (M (av [91,93])) (L (M (av [123,125])) (L (M (av [33])) (L (M (av [59])) al)))))) (af (cf (M (en G))) ar) ar) (af (bQ (cV 182 (L (H 0) al)) (af (cf (M (en G))) ar) ar) (af (cf (dO (cV 189 (L (H 0) al)) (dO (a1 lQ (H 0) (M (av [46]))) (oR (bO (H 0) 4 (L (M (av [47,42])) al)))))) ar))⟩
noncomputable def yo:c1:=⟨1,1,af (bQ (a1 gl (H 0) (M (CK [av [102,120],av [102,121]]))) (af (cf (M (av [112,114,101,102,105,120]))) ar) ar) (af (bQ (a1 gl (H 0) (M (CK [av [120,102,120],av [120,102,121],av [121,102,120]]))) (af (cf (M (av [105,110,102,105,120]))) ar) ar) (af (bQ (a1 gl (H 0) (M (CK [av [120,102],av [121,102]]))) (af (cf (M (av [112,111,115,116,102,105,120]))) ar) ar) (af (cf (M fS)) ar)))⟩
noncomputable def yp:c1:=⟨2,3,af (a6 (bT 2) (c3 jZ (H 0) (M (an 1)))) (af (bQ (a1 cu (H 1) (M (av [102,120]))) (af (cf (bD (L (M (an 0)) (L (H 2) al)))) ar) ar) (af (bQ (a1 cu (H 1) (M (av [102,121]))) (af (cf (bD (L (M (an 0)) (L (H 0) al)))) ar) ar) (af (bQ (a1 cu (H 1) (M (av [120,102]))) (af (cf (bD (L (H 2) (L (M (an 0)) al)))) ar) ar) (af (bQ (a1 cu (H 1) (M (av [121,102]))) (af (cf (bD (L (H 0) (L (M (an 0)) al)))) ar) ar) (af (bQ (a1 cu (H 1) (M (av [120,102,121]))) (af (cf (bD (L (H 2) (L (H 0) al)))) ar) ar) (af (bQ (a1 cu (H 1) (M (av [121,102,120]))) (af (cf (bD (L (H 0) (L (H 2) al)))) ar) ar) (af (cf (bD (L (H 2) (L (H 2) al)))) ar)))))))⟩
noncomputable def yq:c1:=⟨3,7,af (a6 (gH (H 0) 17) (H 1)) (af (a6 (gH (H 0) 18) (jC [] al)) (af (a6 (gH (H 0) 19) (jC [] al)) (af (a6 (gH (H 0) 20) (jC [] al)) (af (cQ (bO (H 0) 21 (L (M (an 1000)) (L (M (av [120,102,121])) (L (M (an 7)) al))))) (af (bQ (H 2) (af Jl ar) ar) ar)))))⟩
noncomputable def yr:c1:=⟨2,2,af (cf (bO (dK (H 0) 18) 2 (L (H 1) al))) ar⟩
noncomputable def yt:c1:=⟨2,2,af (cf (bO (dK (H 0) 19) 2 (L (H 1) al))) ar⟩
noncomputable def yu:c1:=⟨2,2,af (cf (bO (dK (H 0) 20) 2 (L (H 1) al))) ar⟩
noncomputable def yv:c1:=⟨2,2,af (cf (gk (a1 gl (H 1) (dK (H 0) 18)) (gk (a1 gl (H 1) (dK (H 0) 19)) (a1 gl (H 1) (dK (H 0) 20))))) ar⟩
noncomputable def yw:c1:=⟨2,3,af (a6 (bT 2) (cV 213 (L (H 1) al))) (af (bQ (a1 cu (H 2) (M (av [112,114,101,102,105,120]))) (af (cf (dK (H 0) 18)) ar) ar) (af (bQ (a1 cu (H 2) (M (av [105,110,102,105,120]))) (af (cf (dK (H 0) 19)) ar) ar) (af (cf (dK (H 0) 20)) ar)))⟩
noncomputable def yx:c1:=⟨4,5,af (a6 (bT 4) (bO (H 0) 26 (L (H 2) al))) (af (bQ (a1 p9 (H 1) (M (an 0))) (af (a6 (mB (H 4) (H 3)) (bD (L (H 1) (L (H 2) al)))) ar) (af (bQ (a1 gl (H 3) (H 4)) (af Jl ar) ar) ar)) ar)⟩
noncomputable def tI:c1:=⟨1,2,af (bQ (gk (a1 cu (H 0) (M (an 39))) (a1 cu (H 0) (M (an 92)))) (af (cf (c3 dw (M (av [92])) (ez vG (H 0)))) ar) ar) (af (bQ (dO (a1 kB (M (an 7)) (H 0)) (a1 kB (H 0) (M (an 13)))) (af (cf (c3 dw (M (av [92])) (a4 (M (av [97,98,116,110,118,102,114])) (c3 jZ (H 0) (M (an 7)))))) ar) ar) (af (bQ (gk (a1 mC (H 0) (M (an 32))) (a1 cu (H 0) (M (an 127)))) (af (a6 (bT 1) (M (av [48,49,50,51,52,53,54,55,56,57,97,98,99,100,101,102]))) (af (cf (c3 dw (c3 dw (c3 dw (M (av [92,120])) (a4 (H 1) (c3 x4 (H 0) (M (an 16))))) (a4 (H 1) (c3 qb (H 0) (M (an 16))))) (M (av [92])))) ar)) ar) (af (cf (ez vG (H 0))) ar)))⟩
noncomputable def yy:c1:=⟨1,3,af (a6 (bT 1) (fH (L (M (av [39])) al))) (af (iU 2 (kA (H 0)) (af (cQ (bO (H 1) 0 (L (cV 298 (L (ez qa (H 2)) al)) al))) ar)) (af (cQ (bO (H 1) 0 (L (M (av [39])) al))) (af (cf (CI U (M (av [])) (H 1))) ar)))⟩
noncomputable def yz:c1:=⟨3,4,af (a6 (bT 3) (bO (H 0) 13 (L (H 1) al))) (af (bQ (dO (H 2) (oR (cV 196 (L (H 3) al)))) (af (cf (cV 305 (L (H 3) al))) ar) ar) (af (cf (H 3)) ar))⟩
noncomputable def yA:c1:=⟨1,2,af (a6 (bT 1) (ez vG (c3 dw (M (an 65)) (c3 qb (H 0) (M (an 26)))))) (af (bQ (a1 mC (H 0) (M (an 26))) (af (cf (H 1)) ar) ar) (af (cf (c3 dw (H 1) (cV 175 (L (c3 x4 (H 0) (M (an 26))) al)))) ar))⟩
noncomputable def yB:c1:=⟨1,2,af (a6 (bT 1) (ez qa (H 0))) (af (cf (gk (cV 161 (L (H 1) al)) (a1 p8 (H 1) (M (an 128))))) ar)⟩
noncomputable def yC:c1:=⟨1,1,af (cf (gk (a1 cu (H 0) (M (av [59]))) (gk (a1 cu (H 0) (M (av [33]))) (cV 189 (L (H 0) al))))) ar⟩
noncomputable def yD:c1:=⟨7,9,af (a6 (gH (H 0) 17) (H 1)) (af (a6 (gH (H 0) 27) (H 2)) (af (a6 (gH (H 0) 28) (H 3)) (af (a6 (gH (H 0) 29) (H 4)) (af (a6 (gH (H 0) 30) (H 5)) (af (a6 (gH (H 0) 31) (jC [] al)) (af (a6 (gH (H 0) 32) (jC [] al)) (af (bQ (a1 rJ (H 6) (M fS)) (af (Jm 7 8 (H 6) (af (a6 (mB (dK (H 0) 31) (H 7)) (H 8)) (af (a6 (mB (dK (H 0) 32) (H 8)) (M (en G))) ar))) ar) ar) (af (a6 (gH (H 0) 33) (fH al)) (af (a6 (gH (H 0) 34) (M (av []))) (af (a6 (gH (H 0) 35) (M (en U))) (af (a6 (gH (H 0) 36) (fH al)) ar)))))))))))⟩
noncomputable def tJ:c1:=⟨3,7,af (a6 (gH (H 0) 33) (fH al)) (af (a6 (gH (H 0) 34) (M (av []))) (af (a6 (gH (H 0) 35) (M (en U))) (af (a6 (gH (H 0) 36) (fH (L (bD (L (M (av [116,101,114,109])) (L (H 1) (L (H 2) (L (a1 p8 (H 2) (M (an 1201))) al))))) al))) (af (nB (dK (H 0) 36) (af (a6 (ix [3,4,5,6]) (bO (dK (H 0) 36) 1 al)) (af (bQ (a1 cu (H 3) (M (av [116,101,114,109]))) (af (cQ (bO (H 0) 37 (L (H 4) (L (H 5) (L (H 6) al))))) ar) (af (bQ (a1 cu (H 3) (M (av [105,110,102,105,120]))) (af (cQ (bO (H 0) 38 (L (H 4) al))) ar) (af (bQ (a1 cu (H 3) (M (av [112,111,115,116,102,105,120]))) (af (cQ (bO (H 0) 39 (L (H 4) al))) ar) (af (cQ (bO (H 0) 40 (L (H 4) al))) ar)) ar)) ar)) ar))) (af (cf (CI U (M (av [])) (dK (H 0) 33))) ar)))))⟩
noncomputable def yE:c1:=⟨2,2,af (bQ (a1 lQ (H 1) (M (av []))) (af (cQ (bO (dK (H 0) 33) 0 (L (H 1) al))) (af (a6 (gH (H 0) 34) (a4 (H 1) (c3 jZ (ez iW (H 1)) (M (an 1))))) (af (a6 (gH (H 0) 35) (M (en U))) ar))) ar) ar⟩
noncomputable def yF:c1:=⟨2,2,af (bQ (a1 lQ (H 1) (M (av []))) (af (bQ (bO (H 0) 41 (L (a4 (H 1) (M (an 0))) al)) (af (cQ (bO (dK (H 0) 33) 0 (L (M (av [32])) al))) ar) ar) (af (cQ (bO (H 0) 40 (L (H 1) al))) ar)) ar) ar⟩
noncomputable def vI:c1:=⟨2,2,af (bQ (gk (a1 cu (dK (H 0) 34) (M (av []))) (a1 cu (dK (H 0) 34) (M (av [32])))) (af (cf (M (en U))) ar) ar) (af (bQ (dO (dK (H 0) 35) (gk (a1 cu (H 1) (M (av [40]))) (dO (a1 cu (dK (H 0) 34) (M (av [45]))) (cV 140 (L (ez qa (H 1)) al))))) (af (cf (M (en G))) ar) ar) (af (bQ (cV 327 (L (dK (H 0) 34) al)) (af (cf (gk (cV 327 (L (H 1) al)) (a1 cu (H 1) (M (av [39]))))) ar) ar) (af (bQ (cV 168 (L (ez qa (dK (H 0) 34)) al)) (af (cf (cV 168 (L (ez qa (H 1)) al))) ar) ar) (af (cf (dO (a1 cu (dK (H 0) 34) (M (av [39]))) (a1 cu (H 1) (M (av [39]))))) ar))))⟩
noncomputable def yG:c1:=⟨2,3,af (iU 2 (Jr (H 1)) (af (cQ (bO (dK (H 0) 36) 0 (L (H 2) al))) ar)) ar⟩
noncomputable def vJ:c1:=⟨4,6,af (a6 (bT 4) (a4 (H 1) (M (an 0)))) (af (bQ (a1 cu (H 4) (M (av [118]))) (af (cQ (bO (H 0) 42 (L (bO (H 0) 44 (L (a4 (H 1) (M (an 1))) al)) al))) ar) (af (bQ (a1 cu (H 4) (M (av [105]))) (af (cQ (bO (H 0) 42 (L (cV 175 (L (a4 (H 1) (M (an 1))) al)) al))) ar) (af (bQ (a1 cu (H 4) (M (av [97]))) (af (cQ (bO (H 0) 45 (L (a4 (H 1) (M (an 1))) (L (H 3) al)))) ar) (af (bQ (a1 cu (a4 (H 1) (M (an 1))) (M (an 0))) (af (cQ (bO (H 0) 46 (L (H 1) al))) ar) (af (bQ (bO (H 0) 47 (L (H 1) al)) (af (cQ (bO (H 0) 42 (L (cV 320 (L (a4 (a4 (a4 (H 1) (M (an 2))) (M (an 0))) (M (an 1))) al)) al))) ar) (af (bQ (dO (a1 cu (a4 (H 1) (M (an 1))) (M (an 9))) (oR (dK (H 0) 29))) (af (cQ (bO (H 0) 42 (L (M (av [123])) al))) (af (cQ (bO (H 0) 43 (L (fH (L (bD (L (M (av [116,101,114,109])) (L (a4 (a4 (H 1) (M (an 2))) (M (an 0))) (L (M (an 1201)) (L (M (en G)) al))))) (L (bD (L (M (av [114,97,119])) (L (M (av [125])) (L (M (an 0)) (L (M (en U)) al))))) al))) al))) ar)) (af (a6 (bT 5) (bO (H 0) 48 (L (H 1) al))) (af (bQ (a1 Jt (H 5) (M fS)) (af (cQ (bO (H 0) 49 (L (H 1) al))) ar) (af (cQ (bO (H 0) 50 (L (H 1) (L (H 5) (L (H 2) al))))) ar)) ar))) ar)) ar)) ar)) ar)) ar)) ar)⟩
noncomputable def yH:c1:=⟨2,3,af (bQ (a1 gl (H 1) (dK (H 0) 31)) (af (cf (a4 (dK (H 0) 31) (H 1))) ar) ar) (af (a6 (bT 2) (c3 dw (M (av [95])) (ez vH (H 1)))) (af (nB (a1 gl (H 2) (dK (H 0) 32)) (af (a6 (bT 2) (c3 dw (H 2) (M (av [95])))) ar)) (af (cf (H 2)) ar)))⟩
noncomputable def yI:c1:=⟨2,2,af (bQ (gk (oR (dK (H 0) 30)) (a1 lQ (a4 (H 1) (M (an 1))) (M (an 17)))) (af (cf (M (en U))) ar) ar) (af (cf (dO (a1 cu (a4 (a4 (a4 (H 1) (M (an 2))) (M (an 0))) (M (an 0))) (M (av [105]))) (a1 p8 (a4 (a4 (a4 (H 1) (M (an 2))) (M (an 0))) (M (an 1))) (M (an 0))))) ar)⟩
noncomputable def yJ:c1:=⟨3,4,af (a6 (bT 3) (cV 313 (L (dK (H 0) 17) (L (H 1) (L (dK (H 0) 28) al))))) (af (bQ (dO (oR (H 2)) (bO (dK (H 0) 27) 25 (L (H 1) al))) (af (cQ (bO (H 0) 42 (L (M (av [40])) al))) (af (cQ (bO (H 0) 40 (L (H 3) al))) (af (cQ (bO (H 0) 40 (L (M (av [41])) al))) ar))) (af (cQ (bO (H 0) 42 (L (H 3) al))) ar)) ar)⟩
noncomputable def yK:c1:=⟨2,6,af (a6 (ix [2,3]) (cV 133 (L (H 1) al))) (af (cQ (bO (H 0) 42 (L (M (av [91])) al))) (af (a6 (bT 4) (fH al)) (af (iU 5 (kA (H 2)) (af (bQ (H 4) (af (cQ (bO (H 4) 0 (L (bD (L (M (av [114,97,119])) (L (M (av [44])) (L (M (an 0)) (L (M (en U)) al))))) al))) ar) ar) (af (cQ (bO (H 4) 0 (L (bD (L (M (av [116,101,114,109])) (L (H 5) (L (M (an 999)) (L (M (en G)) al))))) al))) ar))) (af (bQ (a1 lQ (H 3) (bD (L (M (av [97])) (L (M (an 0)) al)))) (af (cQ (bO (H 4) 0 (L (bD (L (M (av [114,97,119])) (L (M (av [124])) (L (M (an 0)) (L (M (en U)) al))))) al))) (af (cQ (bO (H 4) 0 (L (bD (L (M (av [116,101,114,109])) (L (H 3) (L (M (an 999)) (L (M (en G)) al))))) al))) ar)) ar) (af (cQ (bO (H 4) 0 (L (bD (L (M (av [114,97,119])) (L (M (av [93])) (L (M (an 0)) (L (M (en U)) al))))) al))) (af (cQ (bO (H 0) 43 (L (H 4) al))) ar))))))⟩
noncomputable def yL:c1:=⟨2,4,af (cQ (bO (H 0) 42 (L (cV 313 (L (dK (H 0) 17) (L (bO (dK (H 0) 17) 15 (L (a4 (H 1) (M (an 1))) al)) (L (dK (H 0) 28) al)))) al))) (af (a6 (bT 2) (fH al)) (af (iU 3 (kA (a4 (H 1) (M (an 2)))) (af (bQ (H 2) (af (cQ (bO (H 2) 0 (L (bD (L (M (av [114,97,119])) (L (M (av [44])) (L (M (an 0)) (L (M (en U)) al))))) al))) ar) (af (cQ (bO (H 2) 0 (L (bD (L (M (av [114,97,119])) (L (M (av [40])) (L (M (an 0)) (L (M (en U)) al))))) al))) ar)) (af (cQ (bO (H 2) 0 (L (bD (L (M (av [116,101,114,109])) (L (H 3) (L (M (an 999)) (L (M (en G)) al))))) al))) ar))) (af (cQ (bO (H 2) 0 (L (bD (L (M (av [114,97,119])) (L (M (av [41])) (L (M (an 0)) (L (M (en U)) al))))) al))) (af (cQ (bO (H 0) 43 (L (H 2) al))) ar))))⟩
noncomputable def yM:c1:=⟨2,5,af (bQ (gk (dK (H 0) 29) (a1 lQ (a4 (H 1) (M (an 0))) (M (av [115])))) (af (cf (M fS)) ar) ar) (af (bQ (gk (a1 cu (a4 (H 1) (M (an 1))) (M (an 0))) (gk (a1 cu (a4 (H 1) (M (an 1))) (M (an 9))) (bO (H 0) 47 (L (H 1) al)))) (af (cf (M fS)) ar) ar) (af (a6 (bT 2) (bO (dK (H 0) 17) 15 (L (a4 (H 1) (M (an 1))) al))) (af (a6 (bT 3) (a4 (H 1) (M (an 2)))) (af (bQ (a1 cu (ez iW (H 3)) (M (an 2))) (af (a6 (bT 4) (bO (dK (H 0) 27) 23 (L (H 2) al))) (af (bQ (a1 rJ (H 4) (M fS)) (af (cf (bD (L (M (av [105,110,102,105,120])) (L (a4 (H 4) (M (an 0))) (L (a4 (H 4) (M (an 1))) al))))) ar) ar) ar)) ar) (af (bQ (a1 cu (ez iW (H 3)) (M (an 1))) (af (a6 (bT 4) (bO (dK (H 0) 27) 22 (L (H 2) al))) (af (bQ (a1 rJ (H 4) (M fS)) (af (bQ (dO (a1 cu (H 2) (M (an 3))) (dO (a1 cu (a4 (a4 (H 3) (M (an 0))) (M (an 0))) (M (av [105]))) (a1 p8 (a4 (a4 (H 3) (M (an 0))) (M (an 1))) (M (an 0))))) (af (cf (M fS)) ar) ar) (af (cf (bD (L (M (av [112,114,101,102,105,120])) (L (a4 (H 4) (M (an 0))) (L (a4 (H 4) (M (an 1))) al))))) ar)) ar) (af (a6 (bT 4) (bO (dK (H 0) 27) 24 (L (H 2) al))) (af (bQ (a1 rJ (H 4) (M fS)) (af (cf (bD (L (M (av [112,111,115,116,102,105,120])) (L (a4 (H 4) (M (an 0))) (L (a4 (H 4) (M (an 1))) al))))) ar) ar) ar)))) ar) (af (cf (M fS)) ar))))))⟩
noncomputable def yN:c1:=⟨4,12,af (a6 (ix [4,5,6]) (H 2)) (af (a6 (ix [7,8]) (cV 220 (L (H 5) (L (H 6) al)))) (af (a6 (bT 9) (bO (dK (H 0) 17) 15 (L (a4 (H 1) (M (an 1))) al))) (af (a6 (bT 10) (a4 (H 1) (M (an 2)))) (af (a6 (bT 11) (fH al)) (af (bQ (a1 p9 (H 5) (H 3)) (af (cQ (bO (H 0) 42 (L (M (av [40])) al))) ar) ar) (af (bQ (a1 cu (H 4) (M (av [112,114,101,102,105,120]))) (af (cQ (bO (H 0) 51 (L (H 9) al))) (af (cQ (bO (H 11) 0 (L (bD (L (M (av [116,101,114,109])) (L (a4 (H 10) (M (an 0))) (L (H 8) (L (M (en U)) al))))) al))) ar)) (af (cQ (bO (H 11) 0 (L (bD (L (M (av [116,101,114,109])) (L (a4 (H 10) (M (an 0))) (L (bO (H 0) 52 (L (a4 (H 10) (M (an 0))) (L (H 5) (L (H 7) al)))) (L (M (en U)) al))))) al))) (af (cQ (bO (H 11) 0 (L (bD (L (H 4) (L (H 9) (L (M (an 0)) (L (M (en U)) al))))) al))) (af (bQ (a1 cu (H 4) (M (av [105,110,102,105,120]))) (af (cQ (bO (H 11) 0 (L (bD (L (M (av [116,101,114,109])) (L (a4 (H 10) (M (an 1))) (L (H 8) (L (M (en U)) al))))) al))) ar) ar) ar)))) (af (bQ (a1 p9 (H 5) (H 3)) (af (cQ (bO (H 11) 0 (L (bD (L (M (av [114,97,119])) (L (M (av [41])) (L (M (an 0)) (L (M (en U)) al))))) al))) ar) ar) (af (cQ (bO (H 0) 43 (L (H 11) al))) ar))))))))⟩
noncomputable def yO:c1:=⟨4,5,af (a6 (bT 4) (bO (H 0) 48 (L (H 1) al))) (af (bQ (dO (a1 rJ (H 4) (M fS)) (dO (a1 cu (a4 (H 4) (M (an 1))) (H 2)) (a1 cu (a4 (cV 220 (L (a4 (H 4) (M (an 1))) (L (a4 (H 4) (M (an 2))) al))) (M (an 1))) (H 2)))) (af (cf (c3 jZ (H 2) (M (an 1)))) ar) ar) (af (cf (H 3)) ar))⟩
noncomputable def yP:c1:=⟨2,3,af (a6 (bT 2) (cV 313 (L (dK (H 0) 17) (L (H 1) (L (dK (H 0) 28) al))))) (af (cQ (bO (H 0) 42 (L (H 2) al))) (af (bQ (cV 334 (L (H 2) al)) (af (a6 (gH (H 0) 35) (M (en G))) ar) (af (cQ (bO (H 0) 40 (L (M (av [32])) al))) ar)) ar))⟩
noncomputable def yQ:c1:=⟨2,3,af (a6 (bT 2) (cV 313 (L (dK (H 0) 17) (L (H 1) (L (dK (H 0) 28) al))))) (af (bQ (a1 cu (H 1) (M (an 7))) (af (cQ (bO (H 0) 40 (L (M (av [44])) al))) ar) (af (bQ (a1 cu (H 1) (M (an 8))) (af (cQ (bO (H 0) 40 (L (M (av [124])) al))) ar) (af (bQ (cV 334 (L (H 2) al)) (af (cQ (bO (H 0) 42 (L (H 2) al))) ar) (af (cQ (bO (H 0) 40 (L (M (av [32])) al))) (af (cQ (bO (H 0) 40 (L (H 2) al))) (af (cQ (bO (H 0) 40 (L (M (av [32])) al))) ar)))) ar)) ar)) ar)⟩
noncomputable def yR:c1:=⟨2,3,af (a6 (bT 2) (cV 313 (L (dK (H 0) 17) (L (H 1) (L (dK (H 0) 28) al))))) (af (bQ (cV 334 (L (H 2) al)) (af (cQ (bO (H 0) 42 (L (H 2) al))) ar) (af (cQ (bO (H 0) 40 (L (M (av [32])) al))) (af (cQ (bO (H 0) 40 (L (H 2) al))) ar))) ar)⟩
noncomputable def qc:c1:=⟨8,9,af (a6 (bT 8) (cV 472 (L (H 0) (L (H 1) (L (H 3) (L (H 4) (L (H 5) (L (H 6) al)))))))) (af (cf (bO (H 8) 13 (L (H 2) (L (H 7) al)))) ar)⟩
noncomputable def yS:c1:=⟨1,7,af (a6 (bT 1) (fH al)) (af (a6 (bT 2) (M (an 5))) (af (iU 3 (kA (vF (H 0) (M fS) (M (an 40)))) (af (a6 (bT 4) (ez CN (H 3))) (af (a6 (bT 2) (c3 qb (c3 dw (c3 CP (H 2) (M (an 31))) (H 4)) (M (an 1009)))) (af (a6 (bT 5) (ez CM (H 4))) (af (iU 6 (CL (M (an 60))) (af (cQ (bO (H 1) 0 (L (c3 qb (H 5) (M (an 840))) al))) (af (iV 5 x4 (M (an 840))) (af (bQ (a1 cu (H 5) (M (an 0))) (af Jn ar) ar) ar)))) (af (bQ (a1 p9 (ez iW (H 1)) (M (an 400))) (af Jn ar) ar) ar)))))) (af (cf (fH (L (H 1) (L (M (an 0)) (L (H 2) al))))) ar)))⟩
noncomputable def vK:c1:=⟨2,3,af (bQ (a1 mC (a4 (H 0) (M (an 1))) (ez iW (a4 (H 0) (M (an 0))))) (af (a6 (bT 2) (a4 (a4 (H 0) (M (an 0))) (a4 (H 0) (M (an 1))))) (af (Jo (H 0) (M (an 1)) dw (M (an 1))) ar)) (af (bQ (a1 mC (ez iW (a4 (H 0) (M (an 0)))) (M (an 3))) (af (a6 (bT 2) (M (an 0))) ar) (af (a6 (mB (H 0) (M (an 2))) (c3 qb (c3 dw (c3 CP (a4 (H 0) (M (an 2))) (M (an 37))) (M (an 11))) (M (an 1009)))) (af (a6 (bT 2) (a4 (H 0) (M (an 2)))) ar))) ar)) (af (cf (c3 qb (H 2) (H 1))) ar)⟩
noncomputable def rK:c1:=⟨2,8,af (a6 (bT 2) (fH (L (M (an 500)) (L (M (an 499)) (L (M (an 999)) (L (M (an 1000)) (L (M (an 1001)) (L (M (an 1200)) (L (M (an 1199)) (L (M (an 1)) (L (M (an 2)) al))))))))))) (af (a6 (bT 3) (jC [] al)) (af (a6 (bT 4) (jC [CQ [44]] (L (bD (L (M (an 1000)) (L (M (av [120,102,121])) al))) al))) (af (a6 (bT 5) (jC [] al)) (af (iU 6 (kA (H 1)) (af (a6 (bT 7) (cV 498 (L (H 0) (L (M (an 7)) al)))) (af (bQ (kz U (H 7) (L (M (an 1)) (L (M (an 3)) (L (M (an 5)) al)))) (af (a6 (mB (H 3) (H 6)) (bD (L (a4 (H 2) (cV 498 (L (H 0) (L (M (an 9)) al)))) (L (a4 (fH (L (M (av [102,121])) (L (M (av [102,120])) al))) (cV 498 (L (H 0) (L (M (an 2)) al)))) al)))) ar) ar) (af (bQ (kz U (H 7) (L (M (an 0)) (L (M (an 2)) (L (M (an 3)) al)))) (af (a6 (mB (H 4) (H 6)) (bD (L (a4 (H 2) (cV 498 (L (H 0) (L (M (an 9)) al)))) (L (a4 (fH (L (M (av [121,102,120])) (L (M (av [120,102,121])) (L (M (av [120,102,120])) al)))) (cV 498 (L (H 0) (L (M (an 3)) al)))) al)))) ar) ar) (af (bQ (kz U (H 7) (L (M (an 4)) (L (M (an 5)) al))) (af (a6 (mB (H 5) (H 6)) (bD (L (a4 (H 2) (cV 498 (L (H 0) (L (M (an 9)) al)))) (L (a4 (fH (L (M (av [121,102])) (L (M (av [120,102])) al))) (cV 498 (L (H 0) (L (M (an 2)) al)))) al)))) ar) ar) ar))))) (af (bQ (a1 cu (cV 498 (L (H 0) (L (M (an 2)) al))) (M (an 1))) (af (a6 (mB (H 4) (M (av [124]))) (bD (L (M (an 1100)) (L (M (av [120,102,121])) al)))) ar) ar) (af (cf (bD (L (H 3) (L (H 4) (L (H 5) al))))) ar))))))⟩
noncomputable def qd:c1:=⟨6,13,af (Jo (H 5) (M (an 0)) jZ (M (an 1))) (af (a6 (bT 6) (cV 498 (L (H 0) (L (nC (dO (a1 mC (H 4) (M (an 4))) (a1 p9 (a4 (H 5) (M (an 0))) (M (an 0)))) (M (an 12)) (M (an 4))) al)))) (af (bQ (a1 cu (H 6) (M (an 0))) (af (cf (bD (L (M (av [118])) (L (cV 498 (L (H 0) (L (M (an 4)) al))) al)))) ar) ar) (af (bQ (a1 cu (H 6) (M (an 1))) (af (a6 (bT 7) (a4 (H 2) (cV 498 (L (H 0) (L (ez iW (H 2)) al))))) (af (cf (bD (L (M (av [105])) (L (nC (a1 cu (cV 498 (L (H 0) (L (M (an 2)) al))) (M (an 0))) (H 7) (vE (H 7))) al)))) ar)) ar) (af (bQ (a1 cu (H 6) (M (an 2))) (af (cf (bD (L (M (av [97])) (L (bO (H 1) 11 (L (a4 (H 3) (cV 498 (L (H 0) (L (ez iW (H 3)) al)))) al)) al)))) ar) ar) (af (bQ (a1 cu (H 6) (M (an 3))) (af (a6 (bT 8) (fH (L (M (av [97])) (L (M (av [91,93])) (L (M (av [123,125])) (L (M (av [44])) (L (M (av [124])) (L (M (av [59])) (L (M (av [105,116,39,115,10])) (L (M (av [91])) (L (M (av [47,42])) (L (M (av [120,49])) al)))))))))))) (af (cf (bD (L (M (av [97])) (L (bO (H 1) 11 (L (a4 (H 8) (cV 498 (L (H 0) (L (M (an 10)) al)))) al)) al)))) ar)) ar) (af (bQ (a1 mC (H 6) (M (an 7))) (af (a6 (bT 9) (a4 (c3 dw (H 3) (fH (L (M (av [44])) (L (M (av [124])) al)))) (cV 498 (L (H 0) (L (c3 dw (ez iW (H 3)) (M (an 2))) al))))) (af (a6 (bT 10) (bO (H 1) 12 (L (H 9) (L (M (an 2)) al)))) ar)) (af (bQ (a1 mC (H 6) (M (an 9))) (af (a6 (bT 10) (bO (H 1) 12 (L (a4 (H 3) (cV 498 (L (H 0) (L (ez iW (H 3)) al)))) (L (M (an 1)) al)))) ar) (af (bQ (a1 cu (H 6) (M (an 9))) (af (a6 (bT 10) (M (an 0))) ar) (af (bQ (a1 cu (H 6) (M (an 10))) (af (a6 (bT 10) (M (an 9))) ar) (af (a6 (bT 10) (a4 (fH (L (bO (H 1) 12 (L (M (av [102])) (L (M (an 3)) al))) (L (bO (H 1) 12 (L (M (av [91,93])) (L (M (an 1)) al))) (L (bO (H 1) 12 (L (M (av [123,125])) (L (M (an 2)) al))) (L (bO (H 1) 12 (L (M (av [44])) (L (M (an 1)) al))) (L (M (an 17)) al)))))) (cV 498 (L (H 0) (L (M (an 5)) al))))) ar)) ar)) ar)) ar)) (af (a6 (bT 11) (CJ 12 (cV 510 (L (H 0) (L (H 1) (L (H 2) (L (H 3) (L (c3 dw (H 4) (M (an 1))) (L (H 5) al))))))) (CL (bO (H 1) 16 (L (H 10) al))))) (af (cf (bD (L (M (av [115])) (L (H 10) (L (ez CO (H 11)) al))))) ar))))))))⟩
noncomputable def vL:c1:=⟨1,5,af (a6 (ix [1,2]) (H 0)) (af (a6 (bT 3) (nC (a1 cu (a4 (H 2) (M (an 0))) (M (av [121]))) (H 1) (c3 jZ (H 1) (M (an 1))))) (af (a6 (bT 4) (nC (a1 cu (a4 (H 2) (vE (M (an 1)))) (M (av [121]))) (H 1) (c3 jZ (H 1) (M (an 1))))) (af (cf (bD (L (H 3) (L (H 4) al)))) ar)))⟩
noncomputable def oS:c1:=⟨6,18,af (a6 (ix [6,7,8]) (H 1)) (af (a6 (bT 9) (a4 (a4 (H 2) (H 4)) (M (an 1)))) (af (bQ (dO (a1 cu (a4 (a4 (H 2) (H 4)) (M (an 0))) (M (av [110,97,109,101]))) (dO (a1 gl (H 9) (H 6)) (a1 gl (bD (L (c3 dw (H 4) (M (an 1))) (L (H 5) al))) (H 3)))) (af (a6 (ix [10,11]) (a4 (H 3) (bD (L (c3 dw (H 4) (M (an 1))) (L (H 5) al))))) (af (bQ (a1 kB (H 11) (a4 (cV 517 (L (a4 (H 6) (H 9)) al)) (M (an 1)))) (af (cf (bD (L (bD (L (M (av [115])) (L (bO (H 0) 12 (L (H 9) (L (M (an 1)) al))) (L (bD (L (H 10) al)) al)))) (L (a4 (a4 (H 6) (H 9)) (M (an 0))) al)))) ar) ar) ar)) ar) (af (iU 12 (Js (c3 dw (H 4) (M (an 1))) (c3 jZ (H 5) (M (an 1)))) (af (a6 (bT 9) (a4 (a4 (H 2) (H 12)) (M (an 1)))) (af (bQ (dO (a1 cu (a4 (a4 (H 2) (H 12)) (M (an 0))) (M (av [110,97,109,101]))) (dO (a1 gl (H 9) (H 7)) (dO (a1 gl (bD (L (H 4) (L (H 12) al))) (H 3)) (a1 gl (bD (L (c3 dw (H 12) (M (an 1))) (L (H 5) al))) (H 3))))) (af (a6 (ix [13,14]) (a4 (H 3) (bD (L (H 4) (L (H 12) al))))) (af (a6 (ix [15,16]) (a4 (H 3) (bD (L (c3 dw (H 12) (M (an 1))) (L (H 5) al))))) (af (a6 (bT 17) (cV 517 (L (a4 (H 7) (H 9)) al))) (af (bQ (dO (a1 kB (H 14) (a4 (H 17) (M (an 0)))) (a1 kB (H 16) (a4 (H 17) (M (an 1))))) (af (cf (bD (L (bD (L (M (av [115])) (L (bO (H 0) 12 (L (H 9) (L (M (an 2)) al))) (L (bD (L (H 13) (L (H 15) al))) al)))) (L (a4 (a4 (H 7) (H 9)) (M (an 0))) al)))) ar) ar) ar)))) ar) ar))) (af (a6 (bT 9) (a4 (a4 (H 2) (c3 jZ (H 5) (M (an 1)))) (M (an 1)))) (af (bQ (dO (a1 cu (a4 (a4 (H 2) (c3 jZ (H 5) (M (an 1)))) (M (an 0))) (M (av [110,97,109,101]))) (dO (a1 gl (H 9) (H 8)) (a1 gl (bD (L (H 4) (L (c3 jZ (H 5) (M (an 1))) al))) (H 3)))) (af (a6 (ix [10,11]) (a4 (H 3) (bD (L (H 4) (L (c3 jZ (H 5) (M (an 1))) al))))) (af (bQ (a1 kB (H 11) (a4 (cV 517 (L (a4 (H 8) (H 9)) al)) (M (an 0)))) (af (cf (bD (L (bD (L (M (av [115])) (L (bO (H 0) 12 (L (H 9) (L (M (an 1)) al))) (L (bD (L (H 10) al)) al)))) (L (a4 (a4 (H 8) (H 9)) (M (an 0))) al)))) ar) ar) ar)) ar) (af (cf (M fS)) ar))))))⟩
noncomputable def oT:c1:=⟨4,12,af (iU 4 (kA (H 2)) (af (bQ (dO (a1 cu (a4 (H 4) (M (an 0))) (M (av [116,101,114,109]))) (a1 Jt (a4 (H 4) (M (an 1))) (M fS))) (af (cf (M fS)) ar) ar) ar)) (af (a6 (bT 5) (ez iW (H 2))) (af (bQ (dO (a1 cu (H 5) (M (an 1))) (a1 cu (a4 (a4 (H 2) (M (an 0))) (M (an 0))) (M (av [110,97,109,101])))) (af (cf (nC (kz U (a4 (a4 (H 2) (M (an 0))) (M (an 1))) (L (M (av [44])) (L (M (av [124])) al))) (M fS) (bD (L (M (av [97])) (L (bO (H 0) 11 (L (a4 (a4 (H 2) (M (an 0))) (M (an 1))) al)) al))))) ar) ar) (af (a6 (bT 6) (jC [] al)) (af (iU 7 (Js (M (an 1)) (c3 dw (H 5) (M (an 1)))) (af (iU 8 (CL (c3 dw (c3 jZ (H 5) (H 7)) (M (an 1)))) (af (a6 (bT 9) (M fS)) (af (a6 (bT 4) (a4 (H 2) (H 8))) (af (bQ (a1 p9 (H 7) (M (an 1))) (af (a6 (bT 9) (cV 524 (L (H 0) (L (H 1) (L (H 2) (L (H 6) (L (H 8) (L (c3 dw (H 8) (H 7)) al)))))))) ar) (af (bQ (a1 cu (a4 (H 4) (M (an 0))) (M (av [116,101,114,109]))) (af (a6 (bT 9) (bD (L (a4 (H 4) (M (an 1))) (L (M (an 0)) al)))) ar) (af (bQ (dO (kz G (a4 (H 4) (M (an 1))) (L (M (av [44])) (L (M (av [124])) al))) (oR (Jq 10 (a1 gl (a4 (H 4) (M (an 1))) (H 10)) (H 1)))) (af (a6 (bT 9) (bD (L (bD (L (M (av [97])) (L (bO (H 0) 11 (L (a4 (H 4) (M (an 1))) al)) al))) (L (M (an 0)) al)))) ar) ar) ar)) ar)) (af (bQ (a1 rJ (H 9) (M fS)) (af (a6 (mB (H 6) (bD (L (H 8) (L (c3 dw (H 8) (H 7)) al)))) (H 9)) ar) ar) ar))))) ar)) (af (a6 (bT 11) (bO (H 6) 2 (L (bD (L (M (an 0)) (L (H 5) al))) (L (bD (L (M fS) (L (M (an 0)) al))) al)))) (af (cf (nC (a1 kB (a4 (H 11) (M (an 1))) (H 3)) (a4 (H 11) (M (an 0))) (M fS))) ar))))))⟩
noncomputable def lR:c1:=⟨2,6,af (a6 (bT 2) (M (av []))) (af (nB (gk (a1 lQ (a4 (H 0) (H 1)) (M (av [39]))) (a1 cu (vF (H 0) (c3 dw (H 1) (M (an 1))) (c3 dw (H 1) (M (an 2)))) (M (av [39])))) (af (bQ (a1 cu (a4 (H 0) (H 1)) (M (av [39]))) (af (iV 2 dw (M (av [39]))) (af (iV 1 dw (M (an 2))) ar)) (af (bQ (a1 lQ (a4 (H 0) (H 1)) (M (av [92]))) (af (iV 2 dw (a4 (H 0) (H 1))) (af (iV 1 dw (M (an 1))) ar)) (af (bQ (a1 cu (a4 (H 0) (c3 dw (H 1) (M (an 1)))) (M (av [120]))) (af (a6 (bT 3) (bO (H 0) 5 (L (M (av [92])) (L (c3 dw (H 1) (M (an 2))) al)))) (af (a6 (bT 4) (M (an 0))) (af (iU 5 (kA (vF (H 0) (c3 dw (H 1) (M (an 2))) (H 3))) (af (a6 (bT 4) (c3 dw (c3 CP (H 4) (M (an 16))) (bO (M (av [48,49,50,51,52,53,54,55,56,57,97,98,99,100,101,102])) 5 (L (H 5) al)))) ar)) (af (iV 2 dw (ez vG (H 4))) (af (a6 (bT 1) (c3 dw (H 3) (M (an 1)))) ar))))) (af (iV 2 dw (a4 (M (av [7,8,9,10,11,12,13,92,39])) (bO (M (av [97,98,116,110,118,102,114,92,39])) 5 (L (a4 (H 0) (c3 dw (H 1) (M (an 1)))) al)))) (af (iV 1 dw (M (an 2))) ar))) ar)) ar)) ar)) (af (cf (bD (L (H 2) (L (c3 dw (H 1) (M (an 1))) al)))) ar))⟩
noncomputable def oU:c1:=⟨1,11,af (a6 (bT 1) (M (av [97,98,99,100,101,102,103,104,105,106,107,108,109,110,111,112,113,114,115,116,117,118,119,120,121,122]))) (af (a6 (bT 2) (c3 dw (c3 dw (H 1) (bO (H 1) 6 al)) (M (av [95,48,49,50,51,52,53,54,55,56,57])))) (af (a6 (bT 3) (M (av [43,45,42,47,92,94,60,62,61,126,58,46,63,64,35,38,36]))) (af (a6 (bT 4) (fH al)) (af (a6 (bT 5) (M (an 0))) (af (a6 (bT 6) (M (en U))) (af (nB (a1 mC (H 5) (ez iW (H 0))) (af (a6 (bT 7) (a4 (H 0) (H 5))) (af (a6 (bT 8) (H 5)) (af (bQ (a1 cu (H 7) (M (av [32]))) (af (iV 5 dw (M (an 1))) (af (a6 (bT 6) (M (en U))) (af Jp ar))) ar) (af (bQ (a1 cu (H 7) (M (av [39]))) (af (a6 (ix [9,5]) (cV 536 (L (H 0) (L (c3 dw (H 5) (M (an 1))) al)))) (af (cQ (bO (H 4) 0 (L (bD (L (M (av [113,110,97,109,101])) (L (H 9) (L (H 6) al)))) al))) ar)) (af (bQ (gk (a1 gl (H 7) (H 2)) (a1 gl (H 7) (H 3))) (af (a6 (bT 10) (nC (a1 gl (H 7) (H 2)) (H 2) (H 3))) (af (nB (dO (a1 mC (H 5) (ez iW (H 0))) (a1 gl (a4 (H 0) (H 5)) (H 10))) (af (iV 5 dw (M (an 1))) ar)) (af (a6 (bT 9) (vF (H 0) (H 8) (H 5))) (af (bQ (gk (a1 gl (H 7) (H 1)) (a1 gl (H 7) (H 3))) (af (cQ (bO (H 4) 0 (L (bD (L (M (av [110,97,109,101])) (L (H 9) (L (H 6) al)))) al))) ar) (af (bQ (a1 gl (H 7) (M (av [48,49,50,51,52,53,54,55,56,57]))) (af (cQ (bO (H 4) 0 (L (bD (L (M (av [105,110,116])) (L (ez CN (H 9)) (L (H 6) al)))) al))) ar) (af (cQ (bO (H 4) 0 (L (bD (L (M (av [118,97,114])) (L (H 9) (L (H 6) al)))) al))) ar)) ar)) ar)))) (af (bQ (a1 gl (H 7) (M (av [33,59]))) (af (cQ (bO (H 4) 0 (L (bD (L (M (av [110,97,109,101])) (L (H 7) (L (H 6) al)))) al))) (af (iV 5 dw (M (an 1))) ar)) (af (cQ (bO (H 4) 0 (L (bD (L (M (av [112,117,110,99,116])) (L (H 7) (L (H 6) al)))) al))) (af (iV 5 dw (M (an 1))) ar))) ar)) ar)) (af (a6 (bT 6) (M (en G))) ar)))))) (af (cf (c3 dw (H 4) (fH (L (bD (L (M (av [110,111,110,101])) (L (M (av [])) (L (M (en U)) al)))) (L (bD (L (M (av [110,111,110,101])) (L (M (av [])) (L (M (en U)) al)))) al))))) ar)))))))⟩
noncomputable def rL:c1:=⟨5,9,af (a6 (bT 5) (fH al)) (af (a6 (bT 6) (M (av [110,111,110,101]))) (af (nB (M (en G)) (af (a6 (ix [7,3]) (cV 555 (L (H 0) (L (H 1) (L (H 2) (L (H 3) (L (M (en G)) al))))))) (af (cQ (bO (H 5) 0 (L (cV 529 (L (H 0) (L (H 1) (L (H 7) (L (M (an 999)) al))))) al))) (af (a6 (bT 8) (a4 (a4 (H 2) (H 3)) (M (an 1)))) (af (bQ (dO (a1 cu (a4 (a4 (H 2) (H 3)) (M (an 0))) (M (av [112,117,110,99,116]))) (a1 cu (H 8) (H 4))) (af (cf (bD (L (H 5) (L (H 6) (L (c3 dw (H 3) (M (an 1))) al))))) ar) ar) (af (bQ (gk (a1 lQ (a4 (a4 (H 2) (H 3)) (M (an 0))) (M (av [112,117,110,99,116]))) (gk (kz G (H 8) (L (M (av [44])) (L (M (av [124])) al))) (a1 cu (H 6) (M (av [124]))))) (af (cf (bD (L (fH (L (M fS) al)) (L (M (av [110,111,110,101])) (L (H 3) al))))) ar) ar) (af (a6 (bT 6) (H 8)) (af (iV 3 dw (M (an 1))) ar)))))))) ar))⟩
noncomputable def iy:c1:=⟨5,19,af (a6 (bT 5) (fH al)) (af (a6 (bT 6) (M (en G))) (af (nB (M (en G)) (af (a6 (ix [7,8,9]) (a4 (H 2) (H 3))) (af (a6 (bT 10) (a4 (H 2) (c3 dw (H 3) (M (an 1))))) (af (bQ (gk (a1 cu (H 7) (M (av [110,111,110,101]))) (dO (a1 cu (H 7) (M (av [112,117,110,99,116]))) (kz U (H 8) (L (M (av [41])) (L (M (av [93])) (L (M (av [125])) al)))))) (af (cf (bD (L (H 5) (L (H 3) al)))) ar) ar) (af (bQ (dO (a1 cu (H 7) (M (av [112,117,110,99,116]))) (dO (H 4) (kz U (H 8) (L (M (av [44])) (L (M (av [124])) al))))) (af (cf (bD (L (H 5) (L (H 3) al)))) ar) ar) (af (iV 3 dw (M (an 1))) (af (bQ (dO (a1 cu (H 7) (M (av [112,117,110,99,116]))) (dO (a1 cu (a4 (H 10) (M (an 0))) (M (av [112,117,110,99,116]))) (kz U (c3 dw (H 8) (a4 (H 10) (M (an 1)))) (L (M (av [91,93])) (L (M (av [123,125])) al))))) (af (a6 (ix [7,8]) (bD (L (M (av [113,110,97,109,101])) (L (c3 dw (H 8) (a4 (H 10) (M (an 1)))) al)))) (af (iV 3 dw (M (an 1))) (af (a6 (bT 10) (a4 (H 2) (H 3))) ar))) ar) (af (bQ (dO (kz U (H 7) (L (M (av [110,97,109,101])) (L (M (av [113,110,97,109,101])) al))) (dO (a1 cu (H 10) (bD (L (M (av [112,117,110,99,116])) (L (M (av [40])) (L (M (en G)) al))))) (gk (H 6) (a1 tG (H 8) (a4 (H 1) (M (an 1))))))) (af (a6 (ix [11,12,3]) (cV 550 (L (H 0) (L (H 1) (L (H 2) (L (c3 dw (H 3) (M (an 1))) (L (M (av [41])) al))))))) (af (a6 (bT 13) (M fS)) (af (bQ (dO (kz U (H 12) (L (M (av [110,111,110,101])) (L (M (av [44])) al))) (a1 tG (M fS) (H 11))) (af (a6 (bT 13) (bD (L (M (av [115])) (L (bO (H 0) 12 (L (H 8) (L (ez iW (H 11)) al))) (L (ez CO (H 11)) al))))) ar) ar) (af (cQ (bO (H 5) 0 (L (bD (L (M (av [116,101,114,109])) (L (H 13) al))) al))) ar)))) (af (bQ (dO (a1 cu (H 7) (M (av [110,97,109,101]))) (dO (a1 cu (H 8) (M (av [45]))) (dO (H 6) (dO (a1 cu (a4 (H 10) (M (an 0))) (M (av [105,110,116]))) (a4 (H 10) (M (an 2))))))) (af (cQ (bO (H 5) 0 (L (bD (L (M (av [116,101,114,109])) (L (bD (L (M (av [105])) (L (vE (a4 (H 10) (M (an 1)))) al))) al))) al))) (af (iV 3 dw (M (an 1))) ar)) (af (bQ (dO (a1 cu (H 7) (M (av [113,110,97,109,101]))) (kz U (H 8) (L (M (av [44])) (L (M (av [124])) al)))) (af (a6 (bT 14) (dO (Rj U (H 5)) (gk (a1 cu (a4 (H 10) (M (an 0))) (M (av [110,111,110,101]))) (dO (a1 cu (a4 (H 10) (M (an 0))) (M (av [112,117,110,99,116]))) (kz G (a4 (H 10) (M (an 1))) (L (M (av [40])) (L (M (av [91])) (L (M (av [123])) al)))))))) (af (a6 (bT 15) (dO (H 6) (gk (H 14) (a1 tG (H 8) (a4 (H 1) (M (an 1))))))) (af (cQ (bO (H 5) 0 (L (bD (L (M (av [116,101,114,109])) (L (nC (H 15) (bD (L (M (av [97])) (L (bO (H 0) 11 (L (H 8) al)) al))) (M fS)) al))) al))) ar))) (af (bQ (a1 cu (H 7) (M (av [105,110,116]))) (af (cQ (bO (H 5) 0 (L (bD (L (M (av [116,101,114,109])) (L (bD (L (M (av [105])) (L (H 8) al))) al))) al))) ar) (af (bQ (a1 cu (H 7) (M (av [118,97,114]))) (af (cQ (bO (H 5) 0 (L (bD (L (M (av [116,101,114,109])) (L (bD (L (M (av [118])) (L (H 8) al))) al))) al))) ar) (af (bQ (dO (a1 cu (H 7) (M (av [112,117,110,99,116]))) (kz U (H 8) (L (M (av [40])) (L (M (av [123])) al)))) (af (a6 (ix [16,3]) (cV 555 (L (H 0) (L (H 1) (L (H 2) (L (H 3) (L (M (en U)) al))))))) (af (a6 (bT 13) (cV 529 (L (H 0) (L (H 1) (L (H 16) (L (M (an 1200)) al)))))) (af (bQ (gk (a1 lQ (a4 (a4 (H 2) (H 3)) (M (an 1))) (a4 (jC [CQ [40],CQ [123]] (L (M (av [41])) (L (M (av [125])) al))) (H 8))) (a1 lQ (a4 (a4 (H 2) (H 3)) (M (an 0))) (M (av [112,117,110,99,116])))) (af (a6 (bT 13) (M fS)) ar) (af (bQ (dO (a1 cu (H 8) (M (av [123]))) (a1 rJ (H 13) (M fS))) (af (a6 (bT 13) (bD (L (M (av [115])) (L (M (an 9)) (L (bD (L (H 13) al)) al))))) ar) ar) ar)) (af (cQ (bO (H 5) 0 (L (bD (L (M (av [116,101,114,109])) (L (H 13) al))) al))) (af (iV 3 dw (M (an 1))) ar))))) (af (bQ (dO (a1 cu (H 7) (M (av [112,117,110,99,116]))) (a1 cu (H 8) (M (av [91])))) (af (a6 (ix [11,12,3]) (cV 550 (L (H 0) (L (H 1) (L (H 2) (L (H 3) (L (M (av [93])) al))))))) (af (a6 (bT 13) (M fS)) (af (bQ (a1 tG (M fS) (H 11)) (af (a6 (bT 13) (nC (a1 cu (H 12) (M (av [124]))) (bO (H 11) 1 al) (bD (L (M (av [97])) (L (M (an 0)) al))))) (af (iU 17 (Jr (H 11)) (af (a6 (bT 13) (bD (L (M (av [115])) (L (M (an 0)) (L (bD (L (H 17) (L (H 13) al))) al))))) ar)) ar)) ar) (af (cQ (bO (H 5) 0 (L (bD (L (M (av [116,101,114,109])) (L (H 13) al))) al))) ar)))) (af (cQ (bO (H 5) 0 (L (bD (L (M (av [110,97,109,101])) (L (H 8) al))) al))) (af (bQ (H 6) (af (a6 (bT 6) (Jq 18 (a1 gl (H 8) (H 18)) (H 1))) ar) (af (a6 (bT 6) (a1 tG (H 8) (a4 (H 1) (M (an 2))))) ar)) (af Jp ar)))) ar)) ar)) ar)) ar)) ar)) ar)) (af (a6 (bT 6) (M (en U))) (af (bQ (a1 p9 (H 3) (c3 jZ (ez iW (H 2)) (M (an 2)))) (af (cf (bD (L (fH (L (bD (L (M (av [116,101,114,109])) (L (M fS) al))) al)) (L (c3 jZ (ez iW (H 2)) (M (an 2))) al)))) ar) ar) ar)))))))))) ar))⟩
noncomputable def mD:c1:=⟨3,7,af (bQ (a1 cu (a4 (H 0) (M (an 0))) (M (av [118]))) (af (a6 (bT 3) (c3 dw (M (av [95])) (ez vH (a4 (H 0) (M (an 1)))))) (af (nB (dO (Rk (H 3) (H 1)) (a1 tG (a4 (H 0) (M (an 1))) (H 1))) (af (iV 3 dw (M (av [95]))) ar)) (af (cf (bD (L (M (av [118])) (L (bO (H 1) 2 (L (a4 (H 0) (M (an 1))) (L (H 3) al))) al)))) ar))) ar) (af (bQ (a1 lQ (a4 (H 0) (M (an 0))) (M (av [115]))) (af (cf (H 0)) ar) ar) (af (bQ (dO (H 2) (dO (a1 cu (a4 (H 0) (M (an 1))) (M (an 17))) (dO (a1 cu (a4 (a4 (a4 (H 0) (M (an 2))) (M (an 0))) (M (an 0))) (M (av [105]))) (a1 p8 (a4 (a4 (a4 (H 0) (M (an 2))) (M (an 0))) (M (an 1))) (M (an 0)))))) (af (a6 (bT 4) (a4 (a4 (a4 (H 0) (M (an 2))) (M (an 0))) (M (an 1)))) (af (cf (bD (L (M (av [118])) (L (c3 dw (a4 (M (av [65,66,67,68,69,70,71,72,73,74,75,76,77,78,79,80,81,82,83,84,85,86,87,88,89,90])) (c3 qb (H 4) (M (an 26)))) (nC (a1 p9 (H 4) (M (an 25))) (ez vH (c3 x4 (H 4) (M (an 26)))) (M (av [])))) al)))) ar)) ar) (af (a6 (bT 5) (CJ 6 (cV 560 (L (H 6) (L (H 1) (L (H 2) al)))) (kA (a4 (H 0) (M (an 2)))))) (af (cf (bD (L (M (av [115])) (L (a4 (H 0) (M (an 1))) (L (ez CO (H 5)) al))))) ar))))⟩
noncomputable def kC:c1:=⟨1,19,af (a6 (bT 1) (cV 491 (L (H 0) al))) (af (a6 (bT 2) (cV 122 al)) (af (a6 (bT 3) (fH (L (M (av [45])) (L (M (av [94])) (L (M (av [43])) (L (M (av [102,111,111])) (L (M (av [126,62])) (L (M (av [33])) (L (M (av [109,121,32,111,112])) (L (M (av [])) (L (M (av [65])) (L (M (av [46])) al)))))))))))) (af (a6 (bT 4) (cV 505 (L (H 1) (L (H 3) al)))) (af (a6 (bT 5) (cV 287 (L (H 2) (L (M (en U)) al)))) (af (iU 6 (kA (H 4)) (af (Jm 7 8 (H 6) (af (cQ (bO (H 5) 21 (L (a4 (H 8) (M (an 0))) (L (a4 (H 8) (M (an 1))) (L (bO (H 2) 11 (L (H 7) al)) al))))) ar)) ar)) (af (a6 (bT 9) (c3 dw (fH (L (M (an 0)) (L (M (an 1)) (L (M (an 27)) (L (c3 dw (c3 x3 (M (an 10)) (M (an 20))) (M (an 7))) al))))) (CJ 10 (c3 qb (ez CM (ez CN (H 10))) (c3 x3 (M (an 10)) (M (an 40)))) (kA (vF (H 0) (M fS) (M (an 3))))))) (af (a6 (bT 11) (cV 510 (L (H 1) (L (H 2) (L (H 9) (L (H 3) (L (M (an 0)) (L (fH (L (M (an 9)) al)) al)))))))) (af (a6 (bT 12) (a1 cu (cV 498 (L (H 1) (L (M (an 4)) al))) (M (an 3)))) (af (a6 (bT 13) (a1 cu (cV 498 (L (H 1) (L (M (an 3)) al))) (M (an 2)))) (af (a6 (bT 14) (a4 (fH (L (jC [] al) (L (jC [tH 1,tH 2] (L (M (av [88,49])) (L (M (av [95,51])) al))) (L (jC [tH 2,tH 1] (L (M (av [95,51])) (L (M (av [95,48])) al))) (L (jC [tH 3,tH 1] (L (M (av [95,48])) (L (M (av [95,48,95])) al))) al))))) (cV 498 (L (H 1) (L (M (an 4)) al))))) (af (a6 (bT 15) (cV 484 (L (H 2) (L (H 5) (L (H 11) (L (M (en G)) (L (H 12) (L (H 13) (L (H 14) al))))))))) (af (a6 (ix [16,17]) (cV 555 (L (H 2) (L (H 4) (L (cV 543 (L (H 15) al)) (L (M (an 0)) (L (M (en U)) al))))))) (af (a6 (bT 18) (cV 529 (L (H 2) (L (H 4) (L (H 16) (L (M (an 1200)) al)))))) (af (cf (a1 cu (H 18) (cV 560 (L (H 11) (L (H 14) (L (H 13) al)))))) ar))))))))))))))⟩
noncomputable def Rl:List Str:=[]
noncomputable def Rm:List Str:=[]
noncomputable def Rn:List Str:=["self","text","row"].map bu
noncomputable def Ro:List Str:=["self","text","found","number"].map bu
noncomputable def Rp:List Str:=["self","number"].map bu
noncomputable def Rq:List Str:=["self","atom","arity","key","found","number"].map bu
noncomputable def Rr:List Str:=["self","text","arity"].map bu
noncomputable def Rs:List Str:=["self","functor"].map bu
noncomputable def Rt:List Str:=["self","functor"].map bu
noncomputable def Ru:List Str:=["term","items"].map bu
noncomputable def Rv:List Str:=["code"].map bu
noncomputable def Rw:List Str:=["code"].map bu
noncomputable def Rx:List Str:=["code"].map bu
noncomputable def Ry:List Str:=["code"].map bu
noncomputable def Rz:List Str:=["code"].map bu
noncomputable def RA:List Str:=["value","rest","pieces","piece"].map bu
noncomputable def RB:List Str:=["text","char"].map bu
noncomputable def RC:List Str:=["text","char"].map bu
noncomputable def RD:List Str:=["text"].map bu
noncomputable def RE:List Str:=["type_text"].map bu
noncomputable def RF:List Str:=["priority","type_text","lower"].map bu
noncomputable def RG:List Str:=["self","symbols","standard","priority","type_text","names","name"].map bu
noncomputable def RH:List Str:=["self","a"].map bu
noncomputable def RI:List Str:=["self","a"].map bu
noncomputable def RJ:List Str:=["self","a"].map bu
noncomputable def RK:List Str:=["self","a"].map bu
noncomputable def RL:List Str:=["self","type_text","kind"].map bu
noncomputable def RM:List Str:=["self","priority","type_text","a","table"].map bu
noncomputable def RN:List Str:=["code","digits"].map bu
noncomputable def RO:List Str:=["text","parts","char"].map bu
noncomputable def RP:List Str:=["symbols","a","quoted","text"].map bu
noncomputable def RQ:List Str:=["number","letter"].map bu
noncomputable def RR:List Str:=["char","code"].map bu
noncomputable def RS:List Str:=["text"].map bu
noncomputable def RT:List Str:=["self","symbols","operators","quoted","ignore_ops","numbervars","names","k","text"].map bu
noncomputable def RU:List Str:=["self","term","most","kind","item","limit","alone"].map bu
noncomputable def RV:List Str:=["self","text"].map bu
noncomputable def RW:List Str:=["self","text"].map bu
noncomputable def RX:List Str:=["self","first"].map bu
noncomputable def RY:List Str:=["self","items","item"].map bu
noncomputable def RZ:List Str:=["self","term","most","alone","kind","shape"].map bu
noncomputable def R0:List Str:=["self","k","text"].map bu
noncomputable def R1:List Str:=["self","term"].map bu
noncomputable def R2:List Str:=["self","a","alone","text"].map bu
noncomputable def R3:List Str:=["self","term","items","tail","rows","item"].map bu
noncomputable def R4:List Str:=["self","term","rows","item"].map bu
noncomputable def R5:List Str:=["self","term","name","args","entry"].map bu
noncomputable def R6:List Str:=["self","term","shape","most","kind","priority","type_text","left","right","name","args","rows"].map bu
noncomputable def R7:List Str:=["self","operand","priority","most","shape"].map bu
noncomputable def R8:List Str:=["self","a","text"].map bu
noncomputable def R9:List Str:=["self","a","text"].map bu
noncomputable def Sa:List Str:=["self","a","text"].map bu
noncomputable def tK:List Str:=["symbols","operators","term","quoted","ignore_ops","numbervars","names","most","writer"].map bu
noncomputable def Sb:List Str:=["script","figures","mix","cell","whole","rest","step"].map bu
noncomputable def Sc:List Str:=["pool","bound","figure"].map bu
noncomputable def Sd:List Str:=["pool","names","levels","prefixes","infixes","postfixes","name","kinds"].map bu
noncomputable def Se:List Str:=["pool","book","wholes","names","depth","room","kind","whole","texts","name","shape","args","step"].map bu
noncomputable def Sf:List Str:=["entry","priority","kind","left","right"].map bu
noncomputable def Sg:List Str:=["book","tables","parts","best","first","last","prefixes","infixes","postfixes","text","inner","level","middle","left","low","right","high","sides"].map bu
noncomputable def Sh:List Str:=["book","tables","parts","most","part","count","best","width","first","found","table","whole"].map bu
noncomputable def Si:List Str:=["text","place","value","end","code","mark"].map bu
noncomputable def Sj:List Str:=["text","letters","words","signs","tokens","place","glued","mark","begun","value","row"].map bu
noncomputable def Sk:List Str:=["book","tables","tokens","place","closer","terms","last","parts","mark"].map bu
noncomputable def Sl:List Str:=["book","tables","tokens","place","inner","parts","want","kind","value","glued","after","terms","last","whole","alone","free","inside","term","table"].map bu
noncomputable def Sm:List Str:=["term","names","numbering","text","whole","args","part"].map bu
noncomputable def Sn:List Str:=["script","pool","book","names","tables","operators","table","name","entry","wholes","cell","term","ignoring","numbering","called","text","parts","place","whole"].map bu
noncomputable def kD:List (Nat×List Str×c1):=[(28,Rl,x5),
 (35,Rm,x6),
 (49,Rn,x7),
 (56,Ro,x8),
 (63,Rp,x9),
 (70,Rq,ya),
 (77,Rr,yb),
 (84,Rs,yc),
 (91,Rt,yd),
 (133,Ru,ye),
 (140,Rv,yf),
 (147,Rw,yg),
 (154,Rx,yh),
 (161,Ry,yi),
 (168,Rz,yj),
 (175,RA,yk),
 (182,RB,yl),
 (189,RC,ym),
 (196,RD,yn),
 (213,RE,yo),
 (220,RF,yp),
 (235,RG,yq),
 (242,RH,yr),
 (249,RI,yt),
 (256,RJ,yu),
 (263,RK,yv),
 (270,RL,yw),
 (277,RM,yx),
 (298,RN,tI),
 (305,RO,yy),
 (313,RP,yz),
 (320,RQ,yA),
 (327,RR,yB),
 (334,RS,yC),
 (349,RT,yD),
 (357,RU,tJ),
 (364,RV,yE),
 (371,RW,yF),
 (378,RX,vI),
 (385,RY,yG),
 (392,RZ,vJ),
 (399,R0,yH),
 (406,R1,yI),
 (413,R2,yJ),
 (420,R3,yK),
 (427,R4,yL),
 (434,R5,yM),
 (441,R6,yN),
 (448,R7,yO),
 (455,R8,yP),
 (462,R9,yQ),
 (469,Sa,yR),
 (484,tK,qc),
 (491,Sb,yS),
 (498,Sc,vK),
 (505,Sd,rK),
 (510,Se,qd),
 (517,Sf,vL),
 (524,Sg,oS),
 (529,Sh,oT),
 (536,Si,lR),
 (543,Sj,oU),
 (550,Sk,rL),
 (555,Sl,iy),
 (560,Sm,mD),
 (565,Sn,kC)]
noncomputable def So:List (Str×Nat):=[(bu "__annotations__",6),(bu "__builtins__",4),(bu "_wall",21),(bu "fixed_atoms",28),(bu "fixed_functors",35),(bu "Symbols",122),(bu "list_items",133),(bu "is_digit",140),(bu "is_small",147),(bu "is_capital",154),(bu "is_alnum",161),(bu "is_symbol",168),(bu "number_text",175),(bu "is_alnum_name",182),(bu "is_symbol_name",189),(bu "is_plain_name",196),(bu "standard_rows",206),(bu "fixity",213),(bu "bounds",220),(bu "OperatorTable",287),(bu "escaped",298),(bu "quoted_text",305),(bu "atom_text",313),(bu "numbered_text",320),(bu "is_word",327),(bu "is_tight",334),(bu "Writer",472),(bu "term_text",484),(bu "_law_pool",491),(bu "_law_pick",498),(bu "_law_tables",505),(bu "_law_term",510),(bu "_law_sides",517),(bu "_law_above",524),(bu "_law_reading",529),(bu "_law_quoted",536),(bu "_law_cut",543),(bu "_law_many",550),(bu "_law_parts",555),(bu "_law_named",560),(bu "law",565)]
noncomputable def Sp:List (Str×V):=[(bu "A_NIL", .int 0),(bu "A_MINUS", .int 3),(bu "A_COMMA", .int 7),(bu "A_BAR", .int 8),(bu "F_DOT", .int 0),(bu "F_CURLY", .int 9),(bu "F_VARNAME", .int 17),(bu "COMMA_PRIORITY", .int 1000),(bu "PREFIX_TYPES", .tup [.str [102,120], .str [102,121]]),(bu "INFIX_TYPES", .tup [.str [120,102,120], .str [120,102,121], .str [121,102,120]]),(bu "POSTFIX_TYPES", .tup [.str [120,102], .str [121,102]]),(bu "WHOLE_PRIORITY", .int 1201),(bu "ARGUMENT_PRIORITY", .int 999)]
end
section
abbrev b6:=ax->St->(V->St->Prop)->Prop
abbrev ST:=ax->St->(Bool->St->Prop)->Prop
abbrev SL:=ax->St->(List V->St->Prop)->Prop
abbrev oV:=ax->St->(fG->St->Prop)->Prop
abbrev dz:=ax->St->(bM->ax->St->Prop)->Prop
abbrev mE:=V->ax->St->(ax->St->Prop)->Prop
variable{e0:Bool}{j:St}{Q:V->St->Prop}{v aX fM iw gm f7 jh ey r old bm b8 dA fl:V}{X bj bR:List V}{lS yT:List V->St->Prop}{es:SL}{E:ax}{kvs:List (a2×V)}{cU:List a2}{op:f4}{cd lT b7 nD:b6}{ei neg t rev qe:Bool}{nE yU:k0}{P:em}{n f i ag a k f8 aU rM yV m:Nat}{e1:iv}{cq b:dy}{ds fT:Bool->St->Prop}{fI qf:fG->St->Prop}{s:fG}{dE:Option V->St->Prop}{bq I eo:ST}{bI tL:ax->St->Prop}{K:bM->ax->St->Prop}{gt:mE}{c5 gI e6:dz}{ej:bM}{F:c1}{live:St->Prop}{xs Ju:lN}{x y c z Jv:a7}{it:fF}{Jw:oO}{qg Jx eZ:ef}{Jy:S}{hc he yW rN Jz:Int}{lU nF gn yX d:List Nat}{α:Type}{JA:α}{JB:α->Prop}{JC:Nat->List V->St->(V->St->Prop)->Prop}
def oW(j:St)(Q:V->St->Prop)(v:V):Prop:=Q v j
theorem Sq:oW j Q v=Q v j:=rfl
def CR(Q:V->St->Prop)(X:List V)(j:St):Prop:=Q (.tup X) j
theorem Sr:CR Q X j=Q (.tup X) j:=rfl
def CS(v:V)(lS:List V->St->Prop)(X:List V)(j:St):Prop:=lS (v::X) j
theorem Ss:CS v lS X j=lS (v::X) j:=rfl
def CT(es:SL)(E:ax)(lS:List V->St->Prop)(v:V)(j:St):Prop:=es E j (CS v lS)
theorem Su:CT es E lS v j=es E j (CS v lS):=rfl
def CU(Q:V->St->Prop)(X:List V)(j:St):Prop:= ∀a,j a=J->Q (.ref a) (j.set a (.list X))
theorem Sv:CU Q X j=(∀a,j a=J->Q (.ref a) (j.set a (.list X))):=rfl
def yY(j:St)(Q:V->St->Prop)(kvs:List (a2×V)):Prop:=vy kvs=G/\ ∀a,j a=J->Q (.ref a) (j.set a (.dict kvs))
theorem Sw:yY j Q kvs=(vy kvs=G/\ ∀a,j a=J->Q (.ref a) (j.set a (.dict kvs))):=rfl
def CV(cU:List a2)(Q:V->St->Prop)(bj:List V)(j:St):Prop:=b9 (CF cU bj) (yY j Q)
theorem Sx:CV cU Q bj j=b9 (CF cU bj) (yY j Q):=rfl
def CW(op:f4)(aX:V)(Q:V->St->Prop)(fM:V)(j:St):Prop:=lP op aX fM j Q
theorem Sy:CW op aX Q fM j=lP op aX fM j Q:=rfl
def CX(op:f4)(cd:b6)(E:ax)(Q:V->St->Prop)(aX:V)(j:St):Prop:=cd E j (CW op aX Q)
theorem Sz:CX op cd E Q aX j=cd E j (CW op aX Q):=rfl
def CY(j:St)(Q:V->St->Prop)(ei:Bool):Prop:=Q (.bool ei) j
theorem SA:CY j Q ei=Q (.bool ei) j:=rfl
def CZ(nE:k0)(aX:V)(Q:V->St->Prop)(fM:V)(j:St):Prop:=b9 (fu j nE aX fM) (CY j Q)
theorem SD:CZ nE aX Q fM j=b9 (fu j nE aX fM) (CY j Q):=rfl
def C0(nE:k0)(cd:b6)(E:ax)(Q:V->St->Prop)(aX:V)(j:St):Prop:=cd E j (CZ nE aX Q)
theorem SE:C0 nE cd E Q aX j=cd E j (CZ nE aX Q):=rfl
def C1(neg:Bool)(j:St)(Q:V->St->Prop)(ei:Bool):Prop:=Q (.bool (ei !=neg)) j
theorem SF:C1 neg j Q ei=Q (.bool (ei !=neg)) j:=rfl
def C2(neg:Bool)(aX:V)(Q:V->St->Prop)(X:List V)(j:St):Prop:=b9 (gU aX X) (C1 neg j Q)
theorem SG:C2 neg aX Q X j=b9 (gU aX X) (C1 neg j Q):=rfl
def C3(neg:Bool)(es:SL)(E:ax)(Q:V->St->Prop)(aX:V)(j:St):Prop:=es E j (C2 neg aX Q)
theorem SH:C3 neg es E Q aX j=es E j (C2 neg aX Q):=rfl
def C4(aX:V)(Q:V->St->Prop)(iw:V)(j:St):Prop:=vA aX iw j Q
theorem SI:C4 aX Q iw j=vA aX iw j Q:=rfl
def C5(cd:b6)(E:ax)(Q:V->St->Prop)(aX:V)(j:St):Prop:=cd E j (C4 aX Q)
theorem SJ:C5 cd E Q aX j=cd E j (C4 aX Q):=rfl
def C6(neg:Bool)(Q:V->St->Prop)(aX:V)(j:St):Prop:=x0 neg aX j Q
theorem SK:C6 neg Q aX j=x0 neg aX j Q:=rfl
def rO(cd:b6)(E:ax)(aX:V)(j:St)(Q:V->St->Prop)(t:Bool):Prop:=match t with|true=>cd E j Q|false=>Q aX j
def C7(cd:b6)(E:ax)(Q:V->St->Prop)(aX:V)(j:St):Prop:=b9 (ky j aX) (rO cd E aX j Q)
theorem SM:C7 cd E Q aX j=b9 (ky j aX) (rO cd E aX j Q):=rfl
def rP(cd:b6)(E:ax)(aX:V)(j:St)(Q:V->St->Prop)(t:Bool):Prop:=match t with|true=>Q aX j|false=>cd E j Q
def C8(cd:b6)(E:ax)(Q:V->St->Prop)(aX:V)(j:St):Prop:=b9 (ky j aX) (rP cd E aX j Q)
theorem SN:C8 cd E Q aX j=b9 (ky j aX) (rP cd E aX j Q):=rfl
def C9(j:St)(Q:V->St->Prop)(t:Bool):Prop:=Q (.bool (!t)) j
theorem SO:C9 j Q t=Q (.bool (!t)) j:=rfl
def Db(Q:V->St->Prop)(aX:V)(j:St):Prop:=b9 (ky j aX) (C9 j Q)
theorem SP:Db Q aX j=b9 (ky j aX) (C9 j Q):=rfl
def Dc(Q:V->St->Prop)(aX:V)(j:St):Prop:=CG aX j Q
theorem SQ:Dc Q aX j=CG aX j Q:=rfl
def tM(b7:b6)(cd:b6)(E:ax)(Q:V->St->Prop)(t:Bool)(j:St):Prop:=match t with|true=>b7 E j Q|false=>cd E j Q
def Dd(P:em)(n:Nat)(Q:V->St->Prop)(aX:V)(j:St):Prop:=vB P aX n j Q
theorem SR:Dd P n Q aX j=vB P aX n j Q:=rfl
def De(aX:V)(Q:V->St->Prop)(gm:V)(j:St):Prop:=b9 (dU j aX gm) (oW j Q)
theorem SS:De aX Q gm j=b9 (dU j aX gm) (oW j Q):=rfl
def Df(cd:b6)(E:ax)(Q:V->St->Prop)(aX:V)(j:St):Prop:=cd E j (De aX Q)
theorem SU:Df cd E Q aX j=cd E j (De aX Q):=rfl
def Dg(aX:V)(f7:V)(Q:V->St->Prop)(jh:V)(j:St):Prop:=x2 aX f7 jh j Q
theorem SV:Dg aX f7 Q jh j=x2 aX f7 jh j Q:=rfl
def Dh(aX:V)(lT:b6)(E:ax)(Q:V->St->Prop)(f7:V)(j:St):Prop:=lT E j (Dg aX f7 Q)
theorem SW:Dh aX lT E Q f7 j=lT E j (Dg aX f7 Q):=rfl
def Di(cd:b6)(lT:b6)(E:ax)(Q:V->St->Prop)(aX:V)(j:St):Prop:=cd E j (Dh aX lT E Q)
theorem SX:Di cd lT E Q aX j=cd E j (Dh aX lT E Q):=rfl
def Dj(P:em)(f:Nat)(Q:V->St->Prop)(X:List V)(j:St):Prop:=P.tC f X j Q
theorem SY:Dj P f Q X j=P.tC f X j Q:=rfl
def qh(P:em)(e1:iv)(n:Nat)(Q:V->St->Prop)(X:List V)(j:St):Prop:=rI P e1 n X j Q
theorem SZ:qh P e1 n Q X j=rI P e1 n X j Q:=rfl
def Dk(P:em)(n:Nat)(es:SL)(E:ax)(j:St)(Q:V->St->Prop)(e1:iv):Prop:=es E j (qh P e1 n Q)
theorem S0:Dk P n es E j Q e1=es E j (qh P e1 n Q):=rfl
def Dl(P:em)(n:Nat)(es:SL)(E:ax)(Q:V->St->Prop)(ey:V)(j:St):Prop:=b9 (k1 P j ey n) (Dk P n es E j Q)
theorem S1:Dl P n es E Q ey j=b9 (k1 P j ey n) (Dk P n es E j Q):=rfl
def Dm(cq:dy)(Q:V->St->Prop)(aX:V)(j:St):Prop:=b9 (gV j cq aX) (oW j Q)
theorem S2:Dm cq Q aX j=b9 (gV j cq aX) (oW j Q):=rfl
def Dn(aX:V)(Q:V->St->Prop)(fM:V)(j:St):Prop:=CH aX fM j Q
theorem S3:Dn aX Q fM j=CH aX fM j Q:=rfl
def Do(cd:b6)(E:ax)(Q:V->St->Prop)(aX:V)(j:St):Prop:=cd E j (Dn aX Q)
theorem S4:Do cd E Q aX j=cd E j (Dn aX Q):=rfl
def Dp(rev:Bool)(aX:V)(Q:V->St->Prop)(f7:V)(j:St):Prop:=b9 (rF j rev aX f7) (oW j Q)
theorem S5:Dp rev aX Q f7 j=b9 (rF j rev aX f7) (oW j Q):=rfl
def Dq(rev:Bool)(cd:b6)(E:ax)(Q:V->St->Prop)(aX:V)(j:St):Prop:=cd E j (Dp rev aX Q)
theorem S6:Dq rev cd E Q aX j=cd E j (Dp rev aX Q):=rfl
def Dr(j:St)(ds:Bool->St->Prop)(t:Bool):Prop:=ds t j
theorem S7:Dr j ds t=ds t j:=rfl
def k2(ds:Bool->St->Prop)(v:V)(j:St):Prop:=b9 (ky j v) (Dr j ds)
theorem S8:k2 ds v j=b9 (ky j v) (Dr j ds):=rfl
def Ds(ds:Bool->St->Prop)(t:Bool)(j:St):Prop:=ds (!t) j
theorem S9:Ds ds t j=ds (!t) j:=rfl
def qi(I:ST)(E:ax)(ds:Bool->St->Prop)(t:Bool)(j:St):Prop:=match t with|true=>I E j ds|false=>ds U j
def qj(I:ST)(E:ax)(ds:Bool->St->Prop)(t:Bool)(j:St):Prop:=match t with|true=>ds G j|false=>I E j ds
def tN(bq:ST)(I:ST)(E:ax)(ds:Bool->St->Prop)(t:Bool)(j:St):Prop:=match t with|true=>bq E j ds|false=>I E j ds
def oX(j:St)(fI:fG->St->Prop)(s:fG):Prop:=fI s j
theorem Ta:oX j fI s=fI s j:=rfl
def Dt(fI:fG->St->Prop)(v:V)(j:St):Prop:=b9 (mA j v) (oX j fI)
theorem Tb:Dt fI v j=b9 (mA j v) (oX j fI):=rfl
def Du(fI:fG->St->Prop)(v:V)(j:St):Prop:=b9 (p7 (.int 0) v) (oX j fI)
theorem Tc:Du fI v j=b9 (p7 (.int 0) v) (oX j fI):=rfl
def Dv(aX:V)(fI:fG->St->Prop)(fM:V)(j:St):Prop:=b9 (p7 aX fM) (oX j fI)
theorem Td:Dv aX fI fM j=b9 (p7 aX fM) (oX j fI):=rfl
def Dw(cd:b6)(E:ax)(fI:fG->St->Prop)(aX:V)(j:St):Prop:=cd E j (Dv aX fI)
theorem Te:Dw cd E fI aX j=cd E j (Dv aX fI):=rfl
def Dx(fI:fG->St->Prop)(v:V)(j:St):Prop:=b9 (vz j v) (oX j fI)
theorem Tf:Dx fI v j=b9 (vz j v) (oX j fI):=rfl
def yZ(dE:Option V->St->Prop)(v:V)(j:St):Prop:=dE (B v) j
theorem Tg:yZ dE v j=dE (B v) j:=rfl
def Dy(i:Nat)(b7:b6)(E:ax)(v:V)(j:St)(dE:Option V->St->Prop):Prop:=b7 (E.set i (B v)) j (yZ dE)
theorem Th:Dy i b7 E v j dE=b7 (E.set i (B v)) j (yZ dE):=rfl
def mF(dE:Option V->St->Prop)(t:Bool)(j:St):Prop:=dE (if t then B (.int 1)else J) j
def Dz(i:Nat)(bq:ST)(E:ax)(v:V)(j:St)(dE:Option V->St->Prop):Prop:=bq (E.set i (B v)) j (mF dE)
theorem Ti:Dz i bq E v j dE=bq (E.set i (B v)) j (mF dE):=rfl
def DA(ag:Nat)(bR:List V)(mG:List V->St->(List V->St->Prop)->Prop)(Q:List V->St->Prop)(r:Option V)(j:St):Prop:=
 j ag=B (.list bR)/\match r with
  |some r=>mG (bR++ [r]) (j.set ag (.list (bR++ [r]))) Q
  |none=>mG bR j Q
def h3(live:St->Prop)(fy:V->St->(Option V->St->Prop)->Prop)(ag:Nat):List V->List V->St->(List V->St->Prop)->Prop
 | [],bR,j,Q=>live j/\j ag=B (.list bR)/\Q bR j
 |v::X,bR,j,Q=>live j/\fy v j (DA ag bR (h3 live fy ag X) Q)
def DB(ag:Nat)(Q:V->St->Prop)(bR:List V)(j:St):Prop:=Q (.ref ag) j
theorem Tj:DB ag Q bR j=Q (.ref ag) j:=rfl
def DC(i:Nat)(b7:b6)(E:ax)(Q:V->St->Prop)(s:fG)(j:St):Prop:=s.items.length<=ay/\ ∀ag,j ag=J->h3 s.live (Dy i b7 E) ag s.items [] (j.set ag (.list [])) (DB ag Q)
theorem Tk:DC i b7 E Q s j=(s.items.length<=ay/\ ∀ag,j ag=J->h3 s.live (Dy i b7 E) ag s.items [] (j.set ag (.list [])) (DB ag Q)):=rfl
def DD(ag:Nat)(Q:V->St->Prop)(bR:List V)(j:St):Prop:=Q (.bool (!bR.isEmpty)) (j.del ag)
theorem JD:DD ag Q bR j=Q (.bool (!bR.isEmpty)) (j.del ag):=rfl
def vM(i:Nat)(bq:ST)(E:ax)(j:St)(Q:V->St->Prop)(s:fG):Prop:=s.items.length<=ay/\ ∀ag,j ag=J->h3 s.live (Dz i bq E) ag s.items [] (j.set ag (.list [])) (DD ag Q)
theorem JE:vM i bq E j Q s=(s.items.length<=ay/\ ∀ag,j ag=J->h3 s.live (Dz i bq E) ag s.items [] (j.set ag (.list [])) (DD ag Q)):=rfl
def DE(i:Nat)(bq:ST)(E:ax)(Q:V->St->Prop)(v:V)(j:St):Prop:=b9 (mA j v) (vM i bq E j Q)
theorem Tl:DE i bq E Q v j=b9 (mA j v) (vM i bq E j Q):=rfl
def JF(E:ax)(j:St)(Q:V->St->Prop):Prop:=False
def DF(i:Nat)(E:ax)(j:St)(Q:V->St->Prop):Prop:=b9 ((E[i]?).bind id) (oW j Q)
def j0(v:V)(E:ax)(j:St)(Q:V->St->Prop):Prop:=Q v j
def DG(es:SL)(E:ax)(j:St)(Q:V->St->Prop):Prop:=es E j (CR Q)
def DH(es:SL)(E:ax)(j:St)(Q:V->St->Prop):Prop:=es E j (CU Q)
def y0(cU:List a2)(es:SL)(E:ax)(j:St)(Q:V->St->Prop):Prop:=es E j (CV cU Q)
def DI(op:f4)(b7:b6)(cd:b6)(E:ax)(j:St)(Q:V->St->Prop):Prop:=b7 E j (CX op cd E Q)
def DJ(nE:k0)(b7:b6)(cd:b6)(E:ax)(j:St)(Q:V->St->Prop):Prop:=b7 E j (C0 nE cd E Q)
def DK(neg:Bool)(b7:b6)(es:SL)(E:ax)(j:St)(Q:V->St->Prop):Prop:=b7 E j (C3 neg es E Q)
def DL(b7:b6)(cd:b6)(E:ax)(j:St)(Q:V->St->Prop):Prop:=b7 E j (C5 cd E Q)
def DM(neg:Bool)(b7:b6)(E:ax)(j:St)(Q:V->St->Prop):Prop:=b7 E j (C6 neg Q)
def JG(b7:b6)(cd:b6)(E:ax)(j:St)(Q:V->St->Prop):Prop:=b7 E j (C7 cd E Q)
def JH(b7:b6)(cd:b6)(E:ax)(j:St)(Q:V->St->Prop):Prop:=b7 E j (C8 cd E Q)
def DN(b7:b6)(E:ax)(j:St)(Q:V->St->Prop):Prop:=b7 E j (Db Q)
def DO(b7:b6)(E:ax)(j:St)(Q:V->St->Prop):Prop:=b7 E j (Dc Q)
def DP(eo:ST)(b7:b6)(cd:b6)(E:ax)(j:St)(Q:V->St->Prop):Prop:=eo E j (tM b7 cd E Q)
def DQ(P:em)(n:Nat)(b7:b6)(E:ax)(j:St)(Q:V->St->Prop):Prop:=b7 E j (Dd P n Q)
def DR(b7:b6)(cd:b6)(E:ax)(j:St)(Q:V->St->Prop):Prop:=b7 E j (Df cd E Q)
def DS(b7:b6)(cd:b6)(lT:b6)(E:ax)(j:St)(Q:V->St->Prop):Prop:=b7 E j (Di cd lT E Q)
def DT(P:em)(f:Nat)(es:SL)(E:ax)(j:St)(Q:V->St->Prop):Prop:=es E j (Dj P f Q)
def DU(P:em)(n:Nat)(b7:b6)(es:SL)(E:ax)(j:St)(Q:V->St->Prop):Prop:=b7 E j (Dl P n es E Q)
def DV(cq:dy)(b7:b6)(E:ax)(j:St)(Q:V->St->Prop):Prop:=b7 E j (Dm cq Q)
def DW(b7:b6)(cd:b6)(E:ax)(j:St)(Q:V->St->Prop):Prop:=b7 E j (Do cd E Q)
def y1(rev:Bool)(b7:b6)(cd:b6)(E:ax)(j:St)(Q:V->St->Prop):Prop:=b7 E j (Dq rev cd E Q)
def vN(i:Nat)(b7:b6)(it:oV)(E:ax)(j:St)(Q:V->St->Prop):Prop:=it E j (DC i b7 E Q)
def y2(i:Nat)(bq:ST)(b7:b6)(E:ax)(j:St)(Q:V->St->Prop):Prop:=b7 E j (DE i bq E Q)
def qk(b7:b6)(E:ax)(j:St)(ds:Bool->St->Prop):Prop:=b7 E j (k2 ds)
def DX(bq:ST)(E:ax)(j:St)(ds:Bool->St->Prop):Prop:=bq E j (Ds ds)
def JI(bq:ST)(I:ST)(E:ax)(j:St)(ds:Bool->St->Prop):Prop:=bq E j (qi I E ds)
def JJ(bq:ST)(I:ST)(E:ax)(j:St)(ds:Bool->St->Prop):Prop:=bq E j (qj I E ds)
def DY(eo:ST)(bq:ST)(I:ST)(E:ax)(j:St)(ds:Bool->St->Prop):Prop:=eo E j (tN bq I E ds)
def tO(E:ax)(j:St)(lS:List V->St->Prop):Prop:=lS [] j
def y3(b7:b6)(es:SL)(E:ax)(j:St)(lS:List V->St->Prop):Prop:=b7 E j (CT es E lS)
def DZ(b7:b6)(E:ax)(j:St)(fI:fG->St->Prop):Prop:=b7 E j (Dt fI)
def D0(b7:b6)(E:ax)(j:St)(fI:fG->St->Prop):Prop:=b7 E j (Du fI)
def D1(b7:b6)(cd:b6)(E:ax)(j:St)(fI:fG->St->Prop):Prop:=b7 E j (Dw cd E fI)
def D2(b7:b6)(E:ax)(j:St)(fI:fG->St->Prop):Prop:=b7 E j (Dx fI)
noncomputable def eA(e:b6):b6×ST:=(e,qk e)
section
variable(P:em)
mutual
noncomputable def eb:a7->b6×ST
 | .bad=>eA JF
 | .loc i=>eA (DF i)
 | .ea v=>eA (j0 v)
 | .tup xs=>eA (DG (iX xs))
 | .lst xs=>eA (DH (iX xs))
 | .tx cU xs=>eA (y0 cU (iX xs))
 | .bin op a b=>eA (DI op (eb a).1 (eb b).1)
 | .cmp op a b=>eA (DJ op (eb a).1 (eb b).1)
 | .inl neg a xs=>eA (DK neg (eb a).1 (iX xs))
 | .inv a b=>eA (DL (eb a).1 (eb b).1)
 | .vt neg a=>eA (DM neg (eb a).1)
 | .and a b=>(JG (eb a).1 (eb b).1,JI (eb a).2 (eb b).2)
 | .or a b=>(JH (eb a).1 (eb b).1,JJ (eb a).2 (eb b).2)
 | .not a=>(DN (eb a).1,DX (eb a).2)
 | .neg a=>eA (DO (eb a).1)
 | .ite c a b=>(DP (eb c).2 (eb a).1 (eb b).1,DY (eb c).2 (eb a).2 (eb b).2)
 | .attr a n=>eA (DQ P n (eb a).1)
 | .sub a b=>eA (DR (eb a).1 (eb b).1)
 | .slice a b c=>eA (DS (eb a).1 (eb b).1 (eb c).1)
 | .fn f xs=>eA (DT P f (iX xs))
 | .mx a n xs=>eA (DU P n (eb a).1 (iX xs))
 | .cq b a=>eA (DV b (eb a).1)
 | .divmod a b=>eA (DW (eb a).1 (eb b).1)
 | .join rev a b=>eA (y1 rev (eb a).1 (eb b).1)
 | .comp i a it=>eA (vN i (eb a).1 (lV it))
 | .vu i a b=>eA (y2 i (eb a).2 (eb b).1)
noncomputable def iX:lN->SL
 | .nil=>tO
 | .cons x xs=>y3 (eb x).1 (iX xs)
noncomputable def lV:fF->oV
 | .val x=>DZ (eb x).1
 | .x1 x=>D0 (eb x).1
 | .rD a b=>D1 (eb a).1 (eb b).1
 | .rev x=>D2 (eb x).1
end
def cg(x:a7):b6:=(eb P x).1
def dF(x:a7):ST:=(eb P x).2
end
def rQ(E:ax)(bI:ax->St->Prop)(j:St):Prop:=bI E j
theorem Tm:rQ E bI j=bI E j:=rfl
def y4(P:em)(n:Nat)(v:V)(E:ax)(bI:ax->St->Prop)(ey:V)(j:St):Prop:=vC P ey n v j (rQ E bI)
theorem Tn:y4 P n v E bI ey j=vC P ey n v j (rQ E bI):=rfl
def D3(ey:V)(v:V)(E:ax)(bI:ax->St->Prop)(gm:V)(j:St):Prop:=b9 (nA j ey gm v) (rQ E bI)
theorem To:D3 ey v E bI gm j=b9 (nA j ey gm v) (rQ E bI):=rfl
def y5(nD:b6)(v:V)(E:ax)(bI:ax->St->Prop)(ey:V)(j:St):Prop:=nD E j (D3 ey v E bI)
theorem Tp:y5 nD v E bI ey j=nD E j (D3 ey v E bI):=rfl
def nG(P:em)(t:oO)(v:V)(E:ax)(j:St)(K:ax->St->Prop):Prop:=match t with
 | .bad=>False
 | .loc i=>K (E.set i (B v)) j
 | .tup is=>(match v with
  | .tup X=>X.length=is.length/\K (tF is X E) j
  |_=>False)
 | .attr o n=>cg P o E j (y4 P n v E K)
 | .sub o i=>cg P o E j (y5 (cg P i) v E K)
def vO(K:bM->ax->St->Prop)(E:ax)(j:St):Prop:=K .next E j
theorem Tq:vO K E j=K .next E j:=rfl
def D4(E:ax)(K:bM->ax->St->Prop)(v:V)(j:St):Prop:=K .next E j
theorem Tr:D4 E K v j=K .next E j:=rfl
def nH(gt:mE)(E:ax)(K:bM->ax->St->Prop)(v:V)(j:St):Prop:=gt v E j (vO K)
theorem Ts:nH gt E K v j=gt v E j (vO K):=rfl
def D5(i:Nat)(E:ax)(j:St)(K:bM->ax->St->Prop)(r:V):Prop:=K .next (E.set i (B r)) j
theorem Tt:D5 i E j K r=K .next (E.set i (B r)) j:=rfl
def D6(i:Nat)(op:f4)(old:V)(E:ax)(K:bM->ax->St->Prop)(v:V)(j:St):Prop:=b9 (my op old v) (D5 i E j K)
theorem Tu:D6 i op old E K v j=b9 (my op old v) (D5 i E j K):=rfl
def D7(i:Nat)(op:f4)(b7:b6)(E:ax)(j:St)(K:bM->ax->St->Prop)(old:V):Prop:=b7 E j (D6 i op old E K)
theorem Tv:D7 i op b7 E j K old=b7 E j (D6 i op old E K):=rfl
def D8(ey:V)(gm:V)(E:ax)(j:St)(K:bM->ax->St->Prop)(r:V):Prop:=b9 (nA j ey gm r) (rQ E (vO K))
theorem Tw:D8 ey gm E j K r=b9 (nA j ey gm r) (rQ E (vO K)):=rfl
def D9(op:f4)(ey:V)(gm:V)(old:V)(E:ax)(K:bM->ax->St->Prop)(v:V)(j:St):Prop:=b9 (my op old v) (D8 ey gm E j K)
theorem Tx:D9 op ey gm old E K v j=b9 (my op old v) (D8 ey gm E j K):=rfl
def Ea(op:f4)(b7:b6)(ey:V)(gm:V)(E:ax)(j:St)(K:bM->ax->St->Prop)(old:V):Prop:=b7 E j (D9 op ey gm old E K)
theorem Tz:Ea op b7 ey gm E j K old=b7 E j (D9 op ey gm old E K):=rfl
def Eb(op:f4)(b7:b6)(ey:V)(E:ax)(K:bM->ax->St->Prop)(gm:V)(j:St):Prop:=b9 (dU j ey gm) (Ea op b7 ey gm E j K)
theorem TA:Eb op b7 ey E K gm j=b9 (dU j ey gm) (Ea op b7 ey gm E j K):=rfl
def Ec(nD:b6)(op:f4)(b7:b6)(E:ax)(K:bM->ax->St->Prop)(ey:V)(j:St):Prop:=nD E j (Eb op b7 ey E K)
theorem TB:Ec nD op b7 E K ey j=nD E j (Eb op b7 ey E K):=rfl
def lW(gI:dz)(c5:dz)(E:ax)(K:bM->ax->St->Prop)(t:Bool)(j:St):Prop:=match t with|true=>gI E j K|false=>c5 E j K
def Ed(E:ax)(K:bM->ax->St->Prop)(v:V)(j:St):Prop:=K (.ret v) E j
theorem TC:Ed E K v j=K (.ret v) E j:=rfl
def gW(l:dz)(K:bM->ax->St->Prop)(ej:bM)(E:ax)(j:St):Prop:=match ej with
 | .next| .cont=>l E j K
 | .brk=>K .next E j
 | .ret v=>K (.ret v) E j
def tP(c5:dz)(e6:dz)(E:ax)(K:bM->ax->St->Prop)(t:Bool)(j:St):Prop:=match t with|true=>c5 E j (gW e6 K)|false=>K .next E j
def ep(c:ST)(b:dz):Nat->dz
 |0=>λ _ _ _=>False
 |n+1=>λ E j K=>c E j (tP b (ep c b n) E K)
def TD(b l:dz)(K:bM->ax->St->Prop)(E:ax)(j:St):Prop:=b E j (gW l K)
def ql(live:St->Prop)(JK:mE)(b:dz):List V->dz
 | []=>λ E j K=>live j/\K .next E j
 |v::X=>λ E j K=>live j/\JK v E j (TD b (ql live JK b X) K)
def vP(i:Nat):mE:= λ v E j K=>K (E.set i (B v)) j
def TE(j:St)(K:ax->St->Prop)(E:ax):Prop:=K E j
def JL(i aU:Nat):mE:= λ e E j K=>Rh i aU e E (TE j K)
def hz(i:Nat)(b:dz)(live:St->Prop)(X:List V):dz:=ql live (vP i) b X
def mH(i aU:Nat)(b:dz)(X:List V):dz:=ql (λ _=>True) (JL i aU) b X
def kFor(i:Nat)(c5:dz)(E:ax)(K:bM->ax->St->Prop)(s:fG)(j:St):Prop:=hz i c5 s.live s.items E j K
theorem TF:kFor i c5 E K s j=hz i c5 s.live s.items E j K:=rfl
def vQ(a:Nat)(kvs:List (a2×V))(K:bM->ax->St->Prop)(ej:bM)(E:ax)(j:St):Prop:=K ej E (j.set a (.dict kvs))
theorem Ee:vQ a kvs K ej E j=K ej E (j.set a (.dict kvs)):=rfl
def Ef(i:Nat)(k:Nat)(c5:dz)(E:ax)(j:St)(K:bM->ax->St->Prop)(a:Nat)(kvs:List (a2×V)):Prop:=mH i k c5 (kvs.map λ x=> .tup [x.1.val,x.2]) E (j.del a) (vQ a kvs K)
theorem TG:Ef i k c5 E j K a kvs=mH i k c5 (kvs.map λ x=> .tup [x.1.val,x.2]) E (j.del a) (vQ a kvs K):=rfl
def Eg(i:Nat)(k:Nat)(c5:dz)(E:ax)(K:bM->ax->St->Prop)(iw:V)(j:St):Prop:=vD iw j (Ef i k c5 E j K)
theorem TH:Eg i k c5 E K iw j=vD iw j (Ef i k c5 E j K):=rfl
def d9(l:dz)(K:bM->ax->St->Prop)(ej:bM)(E:ax)(j:St):Prop:=match ej with
 | .next=>l E j K
 |ej=>K ej E j
def TI(E:ax)(j:St)(K:bM->ax->St->Prop):Prop:=False
def Eh(b7:b6)(E:ax)(j:St)(K:bM->ax->St->Prop):Prop:=b7 E j (D4 E K)
def tQ(gt:mE)(b7:b6)(E:ax)(j:St)(K:bM->ax->St->Prop):Prop:=b7 E j (nH gt E K)
def Ei(i:Nat)(op:f4)(b7:b6)(E:ax)(j:St)(K:bM->ax->St->Prop):Prop:=b9 ((E[i]?).bind id) (D7 i op b7 E j K)
def Ej(cd:b6)(nD:b6)(op:f4)(b7:b6)(E:ax)(j:St)(K:bM->ax->St->Prop):Prop:=cd E j (Ec nD op b7 E K)
def Ek(eo:ST)(gI:dz)(c5:dz)(E:ax)(j:St)(K:bM->ax->St->Prop):Prop:=eo E j (lW gI c5 E K)
def El(eo:ST)(c5:dz)(E:ax)(j:St)(K:bM->ax->St->Prop):Prop:= ∃n,ep eo c5 n E j K
def Em(i:Nat)(it:oV)(c5:dz)(E:ax)(j:St)(K:bM->ax->St->Prop):Prop:=it E j (kFor i c5 E K)
def En(i:Nat)(k:Nat)(b7:b6)(c5:dz)(E:ax)(j:St)(K:bM->ax->St->Prop):Prop:=b7 E j (Eg i k c5 E K)
def Eo(b7:b6)(E:ax)(j:St)(K:bM->ax->St->Prop):Prop:=b7 E j (Ed E K)
def qm(ej:bM)(E:ax)(j:St)(K:bM->ax->St->Prop):Prop:=K ej E j
def JM(gI:dz)(c5:dz)(E:ax)(j:St)(K:bM->ax->St->Prop):Prop:=gI E j (d9 c5 K)
section
variable(P:em)
mutual
noncomputable def wpS:S->dz
 | .bad=>TI
 | .expr x=>Eh (cg P x)
 | .asg t x=>tQ (nG P t) (cg P x)
 | .aug i op x=>Ei i op (cg P x)
 | .CA o i op x=>Ej (cg P o) (cg P i) op (cg P x)
 | .c4 c a b=>Ek (dF P c) (aK a) (aK b)
 | .gi c b=>El (dF P c) (aK b)
 | .hy i it b=>Em i (lV P it) (aK b)
 | .vv k v x b=>En k v (cg P x) (aK b)
 | .ret x=>Eo (cg P x)
 | .brk=>qm .brk
 | .cont=>qm .cont
 | .pass=>qm .next
noncomputable def aK:ef->dz
 | .nil=>qm .next
 | .cons s eZ=>JM (wpS s) (aK eZ)
end
end
def cr(Q:V->St->Prop)(ej:bM)(E:ax)(j:St):Prop:=match ej with
 | .ret v=>Q v j
 | .next=>Q .none j
 |_=>False
def rR(P:em)(F:c1)(args:List V)(j:St)(Q:V->St->Prop):Prop:=
 args.length=F.np/\aK P F.body (args.map B++rH (F.nl - F.np) J) j (cr Q)
noncomputable def k3(f:Nat):Option c1:=(kD.find? λ t=>t.1==f).map (·.2.2)
noncomputable def qn(f n:Nat):List V:=if f=484/\n=7 then [.int 1201]else []
noncomputable def mI:List (Nat×Nat):=[(122,49),(287,235),(472,349)]
noncomputable def JN:List (Nat×List Nat):=[(122,[7,8,9,10]),(287,[17,18,19,20]),(472,[17,27,28,29,30,31,32,33,34,35,36])]
noncomputable def Ep(ae n:Nat):Bool:=JN.any λ t=>t.1==ae&&t.2.contains n
noncomputable def Er(ae n:Nat):Option Nat:=(Jk.find? λ t=>t.1==ae&&t.2.1==n).map (·.2.2)
noncomputable abbrev aD(c:Nat->List V->St->(V->St->Prop)->Prop):em:=⟨Ep,Er,c⟩
@[irreducible] def aj:Nat->Nat->List V->St->(V->St->Prop)->Prop
 |0=>λ _ _ _ _=>False
 |k+1=>λ f X j Q=>match k3 f with
  |some F=>rR (aD (aj k)) F (X++qn f X.length) j Q
  |none=>match mI.lookup f with
   |some f8=> ∀x bL,j x=J->j bL=J->x≠bL->aj k f8 (.ref x::X) ((j.set bL (.owned x)).set x (.inst f bL [])) (λ r D=>r= .none/\Q (.ref x) D)
   |none=>False
theorem dn(h:k3 f=B F)(t:rR (aD (aj k)) F (X++qn f X.length) j Q):aj (k+1) f X j Q:=by
 with_unfolding_all show(match k3 f with
  |some F=>rR (aD (aj k)) F (X++qn f X.length) j Q
  |none=>match mI.lookup f with
   |some f8=> ∀x bL,j x=J->j bL=J->x≠bL->aj k f8 (.ref x::X) ((j.set bL (.owned x)).set x (.inst f bL [])) (λ r D=>r= .none/\Q (.ref x) D)
   |none=>False)
 rw[h];exact t
theorem Es(h:k3 f=J)(Z:mI.lookup f=B f8)(t: ∀x bL,j x=J->j bL=J->x≠bL->aj k f8 (.ref x::X) ((j.set bL (.owned x)).set x (.inst f bL [])) (λ r D=>r= .none/\Q (.ref x) D)):aj (k+1) f X j Q:=by
 with_unfolding_all show(match k3 f with
  |some F=>rR (aD (aj k)) F (X++qn f X.length) j Q
  |none=>match mI.lookup f with
   |some f8=> ∀x bL,j x=J->j bL=J->x≠bL->aj k f8 (.ref x::X) ((j.set bL (.owned x)).set x (.inst f bL [])) (λ r D=>r= .none/\Q (.ref x) D)
   |none=>False)
 rw[h];dsimp only;rw[Z];exact t
theorem TJ(h:gI E j K):lW gI c5 E K G j:=h
theorem TK(h:c5 E j K):lW gI c5 E K U j:=h
theorem TL(h:I E j ds):qi I E ds G j:=h
theorem TM(h:ds U j):qi I E ds U j:=h
theorem TN(h:ds G j):qj I E ds G j:=h
theorem TO(h:I E j ds):qj I E ds U j:=h
theorem TP(h:bq E j ds):tN bq I E ds G j:=h
theorem TQ(h:I E j ds):tN bq I E ds U j:=h
theorem TR(h:b7 E j Q):tM b7 cd E Q G j:=h
theorem TS(h:cd E j Q):tM b7 cd E Q U j:=h
theorem TT(h:cd E j Q):rO cd E v j Q G:=h
theorem TU(h:Q v j):rO cd E v j Q U:=h
theorem TV(h:Q v j):rP cd E v j Q G:=h
theorem TW(h:cd E j Q):rP cd E v j Q U:=h
theorem TX(h:dE (B (.int 1)) j):mF dE G j:=h
theorem TY(h:dE J j):mF dE U j:=h
theorem TZ(h:c5 E j (gW e6 K)):tP c5 e6 E K G j:=h
theorem T0(h:K .next E j):tP c5 e6 E K U j:=h
theorem T1(e:e0=G)(h:gI E j K):lW gI c5 E K e0 j:=by subst e;exact h
theorem T2(e:e0=U)(h:c5 E j K):lW gI c5 E K e0 j:=by subst e;exact h
theorem T3(e:e0=G)(h:I E j ds):qi I E ds e0 j:=by subst e;exact h
theorem T4(e:e0=U)(h:ds U j):qi I E ds e0 j:=by subst e;exact h
theorem T5(e:e0=G)(h:ds G j):qj I E ds e0 j:=by subst e;exact h
theorem T6(e:e0=U)(h:I E j ds):qj I E ds e0 j:=by subst e;exact h
theorem T7(e:e0=G)(h:bq E j ds):tN bq I E ds e0 j:=by subst e;exact h
theorem T8(e:e0=U)(h:I E j ds):tN bq I E ds e0 j:=by subst e;exact h
theorem T9(e:e0=G)(h:b7 E j Q):tM b7 cd E Q e0 j:=by subst e;exact h
theorem Ua(e:e0=U)(h:cd E j Q):tM b7 cd E Q e0 j:=by subst e;exact h
theorem Ub(e:e0=G)(h:cd E j Q):rO cd E v j Q e0:=by subst e;exact h
theorem Uc(e:e0=U)(h:Q v j):rO cd E v j Q e0:=by subst e;exact h
theorem Ud(e:e0=G)(h:Q v j):rP cd E v j Q e0:=by subst e;exact h
theorem Ue(e:e0=U)(h:cd E j Q):rP cd E v j Q e0:=by subst e;exact h
theorem Uf(e:e0=G)(h:dE (B (.int 1)) j):mF dE e0 j:=by subst e;exact h
theorem Ug(e:e0=U)(h:dE J j):mF dE e0 j:=by subst e;exact h
theorem Uh(e:e0=G)(h:c5 E j (gW e6 K)):tP c5 e6 E K e0 j:=by subst e;exact h
theorem Ui(e:e0=U)(h:K .next E j):tP c5 e6 E K e0 j:=by subst e;exact h
theorem j1:ep eo c5 (n+1) E j K=eo E j (tP c5 (ep eo c5 n) E K):=rfl
theorem rS:gW e6 K .next E j=e6 E j K:=rfl
theorem JO:gW e6 K .cont E j=e6 E j K:=rfl
theorem Uj:gW e6 K .brk E j=K .next E j:=rfl
theorem Et:gW e6 K (.ret v) E j=K (.ret v) E j:=rfl
theorem alW:hz i c5 live [] E j K=(live j/\K .next E j):=rfl
theorem kE:hz i c5 live (v::X) E j K=(live j/\c5 (E.set i (B v)) j (gW (hz i c5 live X) K)):=rfl
theorem alX:mH i k c5 [] E j K=(True/\K .next E j):=rfl
theorem Uk:mH i k c5 (.tup [aX,fM]::X) E j K=(True/\c5 ((E.set i (B aX)).set k (B fM)) j (gW (mH i k c5 X) K)):=rfl
theorem Ul:d9 e6 K .next E j=e6 E j K:=rfl
theorem Um:d9 e6 K .brk E j=K .brk E j:=rfl
theorem Un:d9 e6 K .cont E j=K .cont E j:=rfl
theorem Uo:d9 e6 K (.ret v) E j=K (.ret v) E j:=rfl
theorem Up:cr Q (.ret v) E j=Q v j:=rfl
theorem Uq:cr Q .next E j=Q .none j:=rfl
theorem Ur:cg P (.loc i) E j Q=b9 ((E[i]?).bind id) (oW j Q):=rfl
theorem Us:cg P (.ea v) E j Q=Q v j:=rfl
theorem Ut:cg P (.tup xs) E j Q=iX P xs E j (CR Q):=rfl
theorem Uu:cg P (.lst xs) E j Q=iX P xs E j (CU Q):=rfl
theorem Uv:cg P (.tx cU xs) E j Q=iX P xs E j (CV cU Q):=rfl
theorem Uw:cg P (.bin op x y) E j Q=cg P x E j (CX op (cg P y) E Q):=rfl
theorem Ux:cg P (.cmp yU x y) E j Q=cg P x E j (C0 yU (cg P y) E Q):=rfl
theorem Uy:cg P (.inl neg x xs) E j Q=cg P x E j (C3 neg (iX P xs) E Q):=rfl
theorem Uz:cg P (.inv x y) E j Q=cg P x E j (C5 (cg P y) E Q):=rfl
theorem UA:cg P (.vt neg x) E j Q=cg P x E j (C6 neg Q):=rfl
theorem UB:cg P (.and x y) E j Q=cg P x E j (C7 (cg P y) E Q):=rfl
theorem UC:cg P (.or x y) E j Q=cg P x E j (C8 (cg P y) E Q):=rfl
theorem UD:cg P (.not x) E j Q=cg P x E j (Db Q):=rfl
theorem UE:cg P (.neg x) E j Q=cg P x E j (Dc Q):=rfl
theorem UF:cg P (.ite c x y) E j Q=dF P c E j (tM (cg P x) (cg P y) E Q):=rfl
theorem UG:cg P (.attr x n) E j Q=cg P x E j (Dd P n Q):=rfl
theorem UH:cg P (.sub x y) E j Q=cg P x E j (Df (cg P y) E Q):=rfl
theorem UI:cg P (.slice x y z) E j Q=cg P x E j (Di (cg P y) (cg P z) E Q):=rfl
theorem UJ:cg P (.fn f xs) E j Q=iX P xs E j (Dj P f Q):=rfl
theorem UK:cg P (.mx x n xs) E j Q=cg P x E j (Dl P n (iX P xs) E Q):=rfl
theorem UL:cg P (.cq b x) E j Q=cg P x E j (Dm b Q):=rfl
theorem UM:cg P (.divmod x y) E j Q=cg P x E j (Do (cg P y) E Q):=rfl
theorem UN:cg P (.join rev x y) E j Q=cg P x E j (Dq rev (cg P y) E Q):=rfl
theorem UO:cg P (.comp i x it) E j Q=lV P it E j (DC i (cg P x) E Q):=rfl
theorem UP:cg P (.vu i c x) E j Q=cg P x E j (DE i (dF P c) E Q):=rfl
theorem UQ:iX P (.nil) E j yT=yT [] j:=rfl
theorem UR:iX P (.cons x xs) E j yT=cg P x E j (CT (iX P xs) E yT):=rfl
theorem US:dF P (.not x) E j fT=dF P x E j (Ds fT):=rfl
theorem UT:dF P (.and x y) E j fT=dF P x E j (qi (dF P y) E fT):=rfl
theorem UU:dF P (.or x y) E j fT=dF P x E j (qj (dF P y) E fT):=rfl
theorem UV:dF P (.ite c x y) E j fT=dF P c E j (tN (dF P x) (dF P y) E fT):=rfl
theorem UW:dF P (.loc i) E j fT=cg P (.loc i) E j (k2 fT):=rfl
theorem UX:dF P (.ea v) E j fT=cg P (.ea v) E j (k2 fT):=rfl
theorem UY:dF P (.cmp yU x y) E j fT=cg P (.cmp yU x y) E j (k2 fT):=rfl
theorem UZ:dF P (.inl neg x Ju) E j fT=cg P (.inl neg x Ju) E j (k2 fT):=rfl
theorem U0:dF P (.inv x y) E j fT=cg P (.inv x y) E j (k2 fT):=rfl
theorem U1:dF P (.vt neg x) E j fT=cg P (.vt neg x) E j (k2 fT):=rfl
theorem U2:dF P (.attr x n) E j fT=cg P (.attr x n) E j (k2 fT):=rfl
theorem U3:dF P (.sub x y) E j fT=cg P (.sub x y) E j (k2 fT):=rfl
theorem U4:dF P (.fn f xs) E j fT=cg P (.fn f xs) E j (k2 fT):=rfl
theorem U5:dF P (.mx x n xs) E j fT=cg P (.mx x n xs) E j (k2 fT):=rfl
theorem U6:dF P (.vu i x y) E j fT=cg P (.vu i x y) E j (k2 fT):=rfl
theorem U7:lV P (.val x) E j qf=cg P x E j (Dt qf):=rfl
theorem U8:lV P (.x1 x) E j qf=cg P x E j (Du qf):=rfl
theorem U9:lV P (.rD x y) E j qf=cg P x E j (Dw (cg P y) E qf):=rfl
theorem Va:lV P (.rev x) E j qf=cg P x E j (Dx qf):=rfl
theorem Vb:nG P (.loc i) v E j tL=tL (E.set i (B v)) j:=rfl
theorem Vc:nG P (.attr x n) v E j tL=cg P x E j (y4 P n v E tL):=rfl
theorem Vd:nG P (.sub x y) v E j tL=cg P x E j (y5 (cg P y) v E tL):=rfl
theorem Ve:wpS P (.expr x) E j K=cg P x E j (D4 E K):=rfl
theorem Vf:wpS P (.asg Jw x) E j K=cg P x E j (nH (nG P Jw) E K):=rfl
theorem Vg:wpS P (.aug i op x) E j K=b9 ((E[i]?).bind id) (D7 i op (cg P x) E j K):=rfl
theorem Vh:wpS P (.CA y Jv op x) E j K=cg P y E j (Ec (cg P Jv) op (cg P x) E K):=rfl
theorem Vi:wpS P (.c4 c qg Jx) E j K=dF P c E j (lW (aK P qg) (aK P Jx) E K):=rfl
theorem Vj:wpS P (.gi c qg) E j K= ∃n,ep (dF P c) (aK P qg) n E j K:=rfl
theorem Vk:wpS P (.hy i it qg) E j K=lV P it E j (kFor i (aK P qg) E K):=rfl
theorem Vl:wpS P (.vv i aU y qg) E j K=cg P y E j (Eg i aU (aK P qg) E K):=rfl
theorem Vm:wpS P (.ret x) E j K=cg P x E j (Ed E K):=rfl
theorem Vn:wpS P (.brk) E j K=K .brk E j:=rfl
theorem Vo:wpS P (.cont) E j K=K .cont E j:=rfl
theorem Vp:wpS P (.pass) E j K=K .next E j:=rfl
theorem Vq:aK P (.nil) E j K=K .next E j:=rfl
theorem Vr:aK P (.cons Jy eZ) E j K=wpS P Jy E j (d9 (aK P eZ) K):=rfl
theorem Vs:lP .add (.int hc) (.int he) j Q=Q (.int (hc+he)) j:=rfl
theorem Vt:lP .sub (.int hc) (.int he) j Q=Q (.int (hc - he)) j:=rfl
theorem Vu:my .add (.int hc) (.int he)=B (.int (hc+he)):=rfl
theorem Vv:my .sub (.int hc) (.int he)=B (.int (hc - he)):=rfl
theorem Vw:fu j .lt (.int hc) (.int he)=B (decide (hc<he)):=rfl
theorem Vx:fu j .le (.int hc) (.int he)=(B (decide (hc<=he))):=rfl
theorem Vy:fu j .gt (.int hc) (.int he)=B (decide (he<hc)):=rfl
theorem Vz:fu j .ge (.int hc) (.int he)=(B (decide (he<=hc))):=rfl
theorem VA:fu j .eq (.str lU) (.str nF)=B (decide (lU=nF)):=rfl
theorem VB:fu j .ne (.str lU) (.str nF)=B (!decide (lU=nF)):=rfl
theorem VC:fu j .eq (.int hc) (.int he)=B (decide (hc=he)):=rfl
theorem VD:fu j .ne (.int hc) (.int he)=B (!decide (hc=he)):=rfl
theorem VE:fu j .is .none .none=B G:=rfl
theorem VF:fu j .is (.tup X) .none=B U:=rfl
theorem VG:fu j .oN .none .none=B U:=rfl
theorem VH:fu j .oN (.tup X) .none=B G:=rfl
theorem VI:fu j .oN (.ref rM) .none=B G:=rfl
theorem VJ:fu j .isin (.str [yV]) (.str gn)=B (gn.contains yV):=rfl
theorem VK:ky j (.bool qe)=B qe:=rfl
theorem VL:CG (.int yW) j Q=Q (.int (-yW)) j:=rfl
theorem VM:b9 (B JA) JB=JB JA:=rfl
theorem VN:rI P (.own f rM) m X j Q=P.tC f (.ref rM::X) j Q:=rfl
theorem VO:rI P (.list rM) m X j Q=mz rM m X j Q:=rfl
theorem VP:rI P (.dict rM) m X j Q=rG rM X j Q:=rfl
theorem VQ:rI P (.str gn) m X j Q=tD gn m X j Q:=rfl
theorem VR:(aD JC).tC f X j Q=JC f X j Q:=rfl
theorem VS:k1 P j (.str gn) 3=B (.str gn):=rfl
theorem VT:k1 P j (.str gn) 4=B (.str gn):=rfl
theorem VU:k1 P j (.str gn) 5=B (.str gn):=rfl
theorem VV:k1 P j (.str gn) 6=B (.str gn):=rfl
theorem VW:gV j .ord (.str [yV])=B (.int yV):=rfl
theorem VX:gV j .int (.int yW)=B (.int yW):=rfl
theorem VY:dU j (.tup [bm]) (.int 0)=B bm:=rfl
theorem VZ:dU j (.tup [bm,b8]) (.int 0)=B bm:=rfl
theorem V0:dU j (.tup [bm,b8]) (.int 1)=B b8:=rfl
theorem V1:dU j (.tup [bm,b8,dA]) (.int 0)=B bm:=rfl
theorem V2:dU j (.tup [bm,b8,dA]) (.int 1)=B b8:=rfl
theorem V3:dU j (.tup [bm,b8,dA]) (.int 2)=B dA:=rfl
theorem V4:dU j (.tup [bm,b8,dA,fl]) (.int 0)=B bm:=rfl
theorem V5:dU j (.tup [bm,b8,dA,fl]) (.int 1)=B b8:=rfl
theorem V6:dU j (.tup [bm,b8,dA,fl]) (.int 2)=B dA:=rfl
theorem V7:dU j (.tup [bm,b8,dA,fl]) (.int 3)=B fl:=rfl
theorem V8:gU (.str gn) [.str lU]=B (decide (lU=gn)||false):=rfl
theorem V9:gU (.str gn) [.str lU, .str nF]=B (decide (lU=gn)||(decide (nF=gn)||false)):=rfl
theorem Wa:gU (.str gn) [.str lU, .str nF, .str yX]=B (decide (lU=gn)||(decide (nF=gn)||(decide (yX=gn)||false))):=rfl
theorem Wb:gU (.str gn) [.str lU, .str nF, .str yX, .str d]=B (decide (lU=gn)||(decide (nF=gn)||(decide (yX=gn)||(decide (d=gn)||false)))):=rfl
theorem Wc:gU (.int rN) [.int hc, .int he]=B (decide (hc=rN)||(decide (he=rN)||false)):=rfl
theorem Wd:gU (.int rN) [.int hc, .int he, .int Jz]=B (decide (hc=rN)||(decide (he=rN)||(decide (Jz=rN)||false))):=rfl
theorem We:mA j (.tup X)=B ⟨X,λ _=>True⟩:=rfl
theorem Wf:mA j (.fi X)=B ⟨X,λ _=>True⟩:=rfl
theorem Wg:mA j (.str gn)=B ⟨gn.map λ c=> .str [c],λ _=>True⟩:=rfl
theorem Wh:gV j .len (.tup [bm])=B (.int 1):=rfl
theorem Wi:gV j .len (.tup [bm,b8])=B (.int 2):=rfl
theorem Wj:gV j .len (.tup [bm,b8,dA])=B (.int 3):=rfl
theorem Wk:(!G)=U:=rfl
theorem Wl:(!U)=G:=rfl
theorem Wm:(G&&qe)=qe:=rfl
theorem Wn:(U&&qe)=U:=rfl
theorem Wo:(G||qe)=G:=rfl
theorem Wp:(U||qe)=qe:=rfl
theorem Wq:(G !=U)=G:=rfl
theorem Wr:(U !=U)=U:=rfl
theorem Ws:(G !=G)=U:=rfl
theorem Wt:(U !=G)=G:=rfl
theorem Wu:decide (([]:List Nat)=[])=G:=rfl
theorem Wv:decide ((0:Int)<= -1)=U:=rfl
theorem Ww:decide (([112,114,101,102,105,120]:List Nat)=[112,114,101,102,105,120])=G:=rfl
theorem Wx:decide (([105,110,102,105,120]:List Nat)=[112,114,101,102,105,120])=U:=rfl
theorem Wy:decide (([105,110,102,105,120]:List Nat)=[105,110,102,105,120])=G:=rfl
theorem Wz:decide (([112,111,115,116,102,105,120]:List Nat)=[112,114,101,102,105,120])=U:=rfl
theorem WA:decide (([112,111,115,116,102,105,120]:List Nat)=[105,110,102,105,120])=U:=rfl
theorem WB:decide (([118]:List Nat)=[115])=U:=rfl
theorem WC:decide (([105]:List Nat)=[115])=U:=rfl
theorem WD:decide (([97]:List Nat)=[115])=U:=rfl
theorem WE:decide (([115]:List Nat)=[115])=G:=rfl
theorem WF:decide ((1:Int)=2)=U:=rfl
theorem WG:decide ((1:Int)=1)=G:=rfl
theorem WH:decide ((2:Int)=2)=G:=rfl
theorem WI:decide ((2:Int)=1)=U:=rfl
theorem WJ:decide ((3:Int)=2)=U:=rfl
theorem WK:decide ((3:Int)=1)=U:=rfl
theorem WL:decide (([115]:List Nat)=[118])=U:=rfl
theorem WM:decide (([115]:List Nat)=[105])=U:=rfl
theorem WN:decide (([115]:List Nat)=[97])=U:=rfl
theorem WO:decide (([118]:List Nat)=[118])=G:=rfl
theorem WP:decide (([105]:List Nat)=[118])=U:=rfl
theorem WQ:decide (([105]:List Nat)=[105])=G:=rfl
theorem WR:decide (([97]:List Nat)=[118])=U:=rfl
theorem WS:decide (([97]:List Nat)=[105])=U:=rfl
theorem WT:decide (([97]:List Nat)=[97])=G:=rfl
theorem WU:decide (([116,101,114,109]:List Nat)=[116,101,114,109])=G:=rfl
theorem WV:decide (([114,97,119]:List Nat)=[116,101,114,109])=U:=rfl
theorem WW:decide (([114,97,119]:List Nat)=[105,110,102,105,120])=U:=rfl
theorem WX:decide (([114,97,119]:List Nat)=[112,111,115,116,102,105,120])=U:=rfl
theorem WY:decide (([105,110,102,105,120]:List Nat)=[116,101,114,109])=U:=rfl
theorem WZ:decide (([112,111,115,116,102,105,120]:List Nat)=[116,101,114,109])=U:=rfl
theorem W0:decide (([112,111,115,116,102,105,120]:List Nat)=[112,111,115,116,102,105,120])=G:=rfl
theorem W1:decide ((1201:Int)<=1201)=G:=rfl
theorem W2:decide (([92]:List Nat)=[39])=U:=rfl
theorem W3:decide (([92]:List Nat)=[92])=G:=rfl
theorem W4:decide (([39]:List Nat)=[39])=G:=rfl
theorem W5:decide (([32]:List Nat)=[32])=G:=rfl
theorem W6:decide (([39]:List Nat)=[32])=U:=rfl
theorem W7:decide (([116,101,114,109]:List Nat)=[110,97,109,101])=U:=rfl
theorem W8:decide (([110,97,109,101]:List Nat)=[110,97,109,101])=G:=rfl
theorem W9:decide (([110,97,109,101]:List Nat)=[116,101,114,109])=U:=rfl
theorem Xa:decide (([110,111,110,101]:List Nat)=[110,111,110,101])=G:=rfl
theorem Xb:decide (([112,117,110,99,116]:List Nat)=[110,111,110,101])=U:=rfl
theorem Xc:decide (([112,117,110,99,116]:List Nat)=[112,117,110,99,116])=G:=rfl
end
end
section
open PySem PySem.W PyProof.Rows
noncomputable def hp(s:List Nat):Bool:=s.all (λ c=>decide (c<0x110000))
section
variable(h:b1)(j:St)
def y6(X:List V)(aB:List aZ->Prop)(x:aZ):Prop:= ∃a xs,x= .ref a/\j a=J/\h.IsTuple a (Eu xs)/\aB xs
def y7(X:List V)(aB:List aZ->Prop)(x:aZ):Prop:= ∃a xs,x= .ref a/\j a=J/\h.IsList a (Eu xs)/\aB xs
def JP(s:List Nat)(x:aZ):Prop:= ∃t,x= .str ⟨s.toArray⟩ t/\hp s=G
def JQ(v:V)(X:List V)(gz:aZ->Prop)(fU:List aZ->Prop)(xs:List aZ):Prop:= ∃y ys,xs=y::ys/\gz y/\fU ys
def bk:V->aZ->Prop:=V.rec (motive_1:= λ _=>aZ->Prop) (motive_2:= λ _=>List aZ->Prop) (λ x=>x= .none) (λ b x=>x= .bool b) (λ i x=> ∃t,x= .int i t) JP (y6 h j) (λ a x=>x= .ref a) (y7 h j) (λ xs=>xs=[]) JQ
def b3:List V->List aZ->Prop:=V.rec_1 (motive_1:= λ _=>aZ->Prop) (motive_2:= λ _=>List aZ->Prop) (λ x=>x= .none) (λ b x=>x= .bool b) (λ i x=> ∃t,x= .int i t) JP (y6 h j) (λ a x=>x= .ref a) (y7 h j) (λ xs=>xs=[]) JQ
end
section
variable{h:b1}{j:St}{X bj:List V}{xs ys:List aZ}{v:V}{x:aZ}
theorem b3.inv(r:b3 h j (v::X) xs): ∃y ys,xs=y::ys/\bk h j v y/\b3 h j X ys:=r
theorem bk.tup(r:bk h j (.tup X) x): ∃a xs,x= .ref a/\j a=J/\h.IsTuple a (Eu xs)/\b3 h j X xs:=r
theorem bk.fi(r:bk h j (.fi X) x): ∃a xs,x= .ref a/\j a=J/\h.IsList a (Eu xs)/\b3 h j X xs:=r
theorem bk.int{i:Int}(r:bk h j (.int i) x): ∃t,x= .int i t:=r
theorem bk.str{s:List Nat}(r:bk h j (.str s) x): ∃t,x= .str ⟨s.toArray⟩ t/\hp s=G:=r
theorem bk.ref{a:Nat}(r:bk h j (.ref a) x):x= .ref a:=r
theorem b3.nil:b3 h j [] []:=rfl
theorem b3.nI(r:b3 h j [] xs):xs=[]:=r
theorem b3.cons(a:bk h j v x)(r:b3 h j X xs):b3 h j (v::X) (x::xs):=⟨x,xs,rfl,a,r⟩
theorem b3.one(a:bk h j v x):b3 h j [v] [x]:= .cons a .nil
theorem b3.Xd(X:List V): ∀xs,b3 h j X xs->X.length=xs.length:=
 List.rec (motive:= λ X=> ∀xs,b3 h j X xs->X.length=xs.length) (λ xs r=>r▸rfl) (λ v X aB xs r=>by obtain⟨y,ys,rfl,_,r⟩:=r.inv;exact congrArg oY (aB ys r)) X
theorem b3.length(r:b3 h j X xs):X.length=xs.length:=b3.Xd X xs r
theorem b3.append{cD:List aZ}: ∀{X:List V} {xs:List aZ},b3 h j X xs->b3 h j bj cD->b3 h j (X++bj) (xs++cD):=
 λ {X}=>List.rec (motive:= λ X=> ∀xs,b3 h j X xs->b3 h j bj cD->b3 h j (X++bj) (xs++cD)) (λ xs r q=>r▸q) (λ v X aB xs r q=>by obtain⟨y,ys,rfl,a,r⟩:=r.inv;exact .cons a (aB ys r q)) X _
theorem b3.get: ∀{X:List V} {xs:List aZ} {i:Nat},b3 h j X xs->X[i]?=B v-> ∃x,xs[i]?=B x/\bk h j v x:=
 λ {X}=>List.rec (motive:= λ X=> ∀{xs i},b3 h j X xs->X[i]?=B v-> ∃x,xs[i]?=B x/\bk h j v x) (λ {xs i} _ e=>by rw[Xe]at e;cases e)
  (λ u X aB {xs i} r e=>by
   obtain⟨y,ys,rfl,a,r⟩:=r.inv
   exact JR (motive:= λ i=>(u::X)[i]?=B v-> ∃x,(y::ys)[i]?=B x/\bk h j v x) i (λ e=>⟨y,rfl,dg e▸a⟩) (λ i e=>aB (xs:=ys) (i:=i) r e) e) X
theorem b3.set(q:bk h j v x): ∀{X:List V} {xs:List aZ} (i:Nat),b3 h j X xs->b3 h j (X.set i v) (xs.set i x):=
 λ {X}=>List.rec (motive:= λ X=> ∀{xs} (i:Nat),b3 h j X xs->b3 h j (X.set i v) (xs.set i x)) (λ {xs} i r=>r▸rfl)
  (λ u X aB {xs} i r=>by
   obtain⟨y,ys,rfl,a,r⟩:=r.inv
   exact JR (motive:= λ i=>b3 h j ((u::X).set i v) ((y::ys).set i x)) i (.cons q r) (λ i=> .cons a (aB (xs:=ys) i r))) X
theorem b3.take: ∀{X:List V} {xs:List aZ} (n:Nat),b3 h j X xs->b3 h j (X.take n) (xs.take n):=
 λ {X}=>List.rec (motive:= λ X=> ∀{xs} (n:Nat),b3 h j X xs->b3 h j (X.take n) (xs.take n)) (λ {xs} n r=>r▸(by rw[Xf,Xf];exact rfl))
  (λ u X aB {xs} n r=>by
   obtain⟨y,ys,rfl,a,r⟩:=r.inv
   exact JR (motive:= λ n=>b3 h j ((u::X).take n) ((y::ys).take n)) n rfl (λ n=> .cons a (aB (xs:=ys) n r))) X
theorem b3.dropLast(r:b3 h j X xs):b3 h j X.dropLast xs.dropLast:=by
 rw[JS,JS,r.length];exact r.take _
theorem b3.reverse: ∀{X:List V} {xs:List aZ},b3 h j X xs->b3 h j X.reverse xs.reverse:=
 λ {X}=>List.rec (motive:= λ X=> ∀xs,b3 h j X xs->b3 h j X.reverse xs.reverse) (λ xs r=>r▸rfl)
  (λ v X aB xs r=>by obtain⟨y,ys,rfl,a,r⟩:=r.inv;rw[Ev,Ev];exact(aB ys r).append (.one a)) X _
end
structure Step(F:Nat->Prop)(j:St)(h:b1)(D:St)(h':b1):Prop where
 keep: ∀a o,h.get? a=B o->j a=J-> ¬F a->h'.get? a=B o
 k4: ∀a o,h.get? a=B o->j a=J-> ¬F a->D a=J
 old: ∀a o,h.get? a=B o-> ¬F a-> ∃ji,h'.get? a=B ji
def c6:Nat->Prop:= λ _=>False
def Seq(o:Obj):Prop:= ∃xs n,o.data= .seq xs n
def gA(F:Nat->Prop)(h:b1):Prop:= ∀a o,F a->h.get? a=B o-> ¬Seq o
theorem d4{h:b1}:gA c6 h:= λ _ _ f=>f.elim
section
variable{F:Nat->Prop}{j D eL:St}{h h' gX:b1}
theorem Step.refl:Step F j h j h:=⟨λ _ _ e _ _=>e,λ _ _ _ e _=>e,λ _ o e _=>⟨o,e⟩⟩
theorem Step.trans(a:Step F j h D h')(b:Step F D h' eL gX):Step F j h eL gX:=
 ⟨λ x o e s f=>b.keep x o (a.keep x o e s f) (a.k4 x o e s f) f,λ x o e s f=>let⟨ji,dL⟩:=a.old x o e f;b.k4 x ji dL (a.k4 x o e s f) f,
  λ x o e f=>let⟨ji,dL⟩:=a.old x o e f;b.old x ji dL f⟩
theorem Step.narrow{bI:Nat->Prop}(a:Step F j h D h')(k: ∀x o,F x->h.get? x=B o->bI x):Step bI j h D h':=
 ⟨λ x o e s f=>a.keep x o e s λ g=>f (k x o g e),λ x o e s f=>a.k4 x o e s λ g=>f (k x o g e),λ x o e f=>a.old x o e λ g=>f (k x o g e)⟩
theorem Step.weak{bI:Nat->Prop}(a:Step F j h D h')(k: ∀x,F x->bI x):Step bI j h D h':=a.narrow λ x _ f _=>k x f
theorem Step.toF(a:Step c6 j h D h'):Step F j h D h':=a.weak λ _ f=>f.elim
theorem Step.seq(st:Step F j h D h')(n:gA F h){a:Nat}{o:Obj}(e:j a=J)(ba:h.get? a=B o)(hd:Seq o):D a=J/\h'.get? a=B o:=
 ⟨st.k4 _ _ ba e λ f=>n _ _ f ba hd,st.keep _ _ ba e λ f=>n _ _ f ba hd⟩
theorem Step.tup(st:Step F j h D h')(n:gA F h){a:Nat}{xs:Array aZ}(e:j a=J)(t:h.IsTuple a xs):D a=J/\h'.IsTuple a xs:=by
 obtain⟨o,ba,ap,k,hd⟩:=t
 have q:=st.seq n e ba ⟨_,_,hd⟩
 exact⟨q.1,o,q.2,ap,k,hd⟩
theorem Step.lst(st:Step F j h D h')(n:gA F h){a:Nat}{xs:Array aZ}(e:j a=J)(t:h.IsList a xs):D a=J/\h'.IsList a xs:=by
 obtain⟨o,ba,ap,k,hd⟩:=t
 have q:=st.seq n e ba ⟨_,_,hd⟩
 exact⟨q.1,o,q.2,ap,k,hd⟩
section
variable(st:Step F j h D h')(n:gA F h)
include st n
theorem Xg(X:List V){i vR:List aZ->Prop}(k: ∀xs,i xs->vR xs)(x:aZ)(r:y6 h j X i x):y6 h' D X vR x:=by
 obtain⟨a,xs,rfl,e,t,r⟩:=r
 exact⟨a,xs,rfl,(st.tup n e t).1,(st.tup n e t).2,k _ r⟩
theorem Xh(X:List V){i vR:List aZ->Prop}(k: ∀xs,i xs->vR xs)(x:aZ)(r:y7 h j X i x):y7 h' D X vR x:=by
 obtain⟨a,xs,rfl,e,t,r⟩:=r
 exact⟨a,xs,rfl,(st.lst n e t).1,(st.lst n e t).2,k _ r⟩
theorem bk.y8(v:V): ∀x,bk h j v x->bk h' D v x:=
 V.rec (motive_1:= λ v=> ∀x,bk h j v x->bk h' D v x) (motive_2:= λ X=> ∀xs,b3 h j X xs->b3 h' D X xs) (λ _ r=>r) (λ _ _ r=>r) (λ _ _ r=>r) (λ _ _ r=>r)
  (λ X aB x r=>Xg st n X aB x r) (λ _ _ r=>r) (λ X aB x r=>Xh st n X aB x r) (λ _ r=>r) (λ v X a b xs ⟨y,ys,e,p,q⟩=>⟨y,ys,e,a _ p,b _ q⟩) v
theorem b3.y8(X:List V): ∀xs,b3 h j X xs->b3 h' D X xs:=
 List.rec (motive:= λ X=> ∀xs,b3 h j X xs->b3 h' D X xs) (λ _ r=>r) (λ v X b xs ⟨y,ys,e,p,q⟩=>⟨y,ys,e,bk.y8 st n v _ p,b _ q⟩) X
end
theorem bk.step(st:Step F j h D h')(n:gA F h){v:V}{x:aZ}(r:bk h j v x):bk h' D v x:=bk.y8 st n v x r
theorem b3.step(st:Step F j h D h')(n:gA F h){v:List V}{x:List aZ}(r:b3 h j v x):b3 h' D v x:=b3.y8 st n v x r
end
theorem Step.h4{F:Nat->Prop}{j:St}{h h':b1}(k: ∀b o,h.get? b=B o->h'.get? b=B o):Step F j h j h':=
 ⟨λ b o e _ f=>k b o e,λ _ _ _ e _=>e,λ b o e _=>⟨o,k b o e⟩⟩
structure Cn where
 prog:Program
 w:World
 eE:b1
 A:Around
abbrev Cn.wp(c:Cn){α:Type}(m:Sem α)(Q:α->br->Prop)(s:br):Prop:=wpAny (model c.prog c.w) c.A m Q (λ _ _=>False) s
structure Cn.Ok(c:Cn):Prop where
 hand:c.A.handled=J
 units:c.A.units+200<cLine
 Ew: ∃q,c.eE.get? sysModules=B q
noncomputable def oZ(k:a2)(v:aZ):Bool:=k.casesOn (λ x=>Value.isStrOf ⟨x.toArray⟩ v) (λ n=>Value.isInt n v) (λ _ _=>U)
noncomputable def Xi(w:World)(k:a2):Int:=k.casesOn (λ x=>hashStr w ⟨x.toArray⟩) hashInt (λ _ _=>0)
def Xj(k:a2)(v:aZ):Prop:=(∃x t,k= .s x/\v= .str ⟨x.toArray⟩ t)\/ ∃n t,k= .i n/\v= .int n t
theorem o0{k:a2}{v:aZ}(h:oZ k v=G):Xj k v:=by
 cases k with
 |s x=>obtain⟨t,rfl⟩:=Value.isStrOf_shape h;exact .inl ⟨x,t,rfl,rfl⟩
 |i n=>obtain⟨t,rfl⟩:=Value.isInt_shape h;exact .inr ⟨n,t,rfl,rfl⟩
 |p a b=>cases h
theorem JT(x:List Nat)(t:Tok):oZ (.s x) (.str ⟨x.toArray⟩ t)=G:=beq_self_eq_true (⟨x.toArray⟩:Str)
theorem JU(n:Int)(t:Tok):oZ (.i n) (.int n t)=G:=beq_self_eq_true n
theorem Ex{x y:List Nat}(h:(⟨x.toArray⟩:Str)=⟨y.toArray⟩):x=y:=congrArg (λ s:Str=>s.cps.toList) h
theorem y9{p q:Prop}[Decidable p][Decidable q](a:p->q)(b:q->p):decide p=decide q:=decide_eq_decide.mpr ⟨a,b⟩
noncomputable def hA(c:Cn):KeyKind c.prog c.w a2 where
 is:=oZ
 hash:=Xi c.w
 inj:= λ v a b aI az=>by
  rcases o0 aI with⟨x,t,rfl,rfl⟩|⟨n,t,rfl,rfl⟩<;>rcases o0 az with⟨y,u,rfl,e⟩|⟨m,u,rfl,e⟩
  .exact congrArg a2.s (Ex (Xk e).1)
  .exact Value.noConfusion e
  .exact Value.noConfusion e
  .exact congrArg a2.i (Value.int.inj e).1
 byValue:= λ k v h=>by rcases o0 h with⟨x,t,rfl,rfl⟩|⟨n,t,rfl,rfl⟩<;>rfl
 pyHash:= λ h q=>by
  rcases o0 h with⟨x,t,rfl,rfl⟩|⟨n,t,rfl,rfl⟩
  .exact wpAny_pyHash_str q
  .exact wpAny_pyHash_int q
 eqBool:= λ aI az q=>by
  rcases o0 aI with⟨x,t,rfl,rfl⟩|⟨n,t,rfl,rfl⟩<;>rcases o0 az with⟨y,u,rfl,rfl⟩|⟨m,u,rfl,rfl⟩
  .exact wpAny_eqBool_str (by rw[y9 (λ e=>congrArg a2.s (Ex e)) λ e=>by rw[a2.s.inj e]];exact q)
  .exact alY _ t _ u _ _ _ _ (by rewrite[bW (λ e=>nomatch e)]at q;exact q)
  .exact alZ _ t _ u _ _ _ _ (by rewrite[bW (λ e=>nomatch e)]at q;exact q)
  .exact (intKind c.prog c.w).eqBool (beq_self_eq_true n) (beq_self_eq_true m) (by rw[y9 (λ e=>congrArg a2.i e) a2.i.inj];exact q)
 «strs» := λ k x t v h=>by
  rcases o0 h with⟨y,u,rfl,e⟩|⟨m,u,rfl,e⟩
  .rw[(Xk e).1];exact(strKind c.prog c.w).«strs» _ _ t v (beq_self_eq_true (⟨y.toArray⟩:Str))
  .exact Value.noConfusion e
theorem Ey{x y a b:Int}: [x,y]=[a,b]↔a2.p x y= .p a b:=
 ⟨λ e=>by rw[(za e).1,(za (za e).2).1],λ e=>by rw[(a2.p.inj e).1,(a2.p.inj e).2]⟩
def JV(c:Cn)(h:b1)(k:a2)(a:Addr):Prop:= ∃x y,k= .p x y/\IsTupleKey (intKind c.prog c.w) h [x,y] a
noncomputable def rT(c:Cn):HeapKind c.prog c.w a2 where
 is:=JV c
 hash:= λ k=>k.casesOn (λ _=>0) (λ _=>0) (λ x y=>tupleKeyHash (intKind c.prog c.w) [x,y])
 draws:= λ _=>3
 room:= λ A=>A.units<cLine
 inj:= λ⟨x,y,e,p⟩ ⟨Xl,zb,dL,rU⟩=>by rw[e,dL];exact Ey.mp (p.inj rU)
 keeps:= λ⟨x,y,e,p⟩ ba hd ab=>⟨x,y,e,p.keeps ba hd ab⟩
 pyHash:= λ bE ⟨x,y,e,p⟩ q=>by subst e;exact wpAny_pyHash_tuple bE p q
 eqBool:= λ bE ⟨x,y,e,p⟩ ⟨Xl,zb,dL,rU⟩ q=>by
  subst e;subst dL
  exact wpAny_eqBool_tuple bE p rU (by rw[y9 Ey.mp Ey.mpr];exact q)
 quiet:= λ⟨x,y,e,p⟩ q=>wpAny_eqIsQuiet_tuple p q
section
variable{dv:Type}{R:V->dv->Prop}
def dW(R:V->dv->Prop)(kvs:List (a2×V)):List (a2×dv)->Prop:=List.rec (motive:= λ _=>List (a2×dv)->Prop) (λ l=>l=[]) (λ cn _ aB l=> ∃b m,l=(cn.1,b)::m/\R cn.2 b/\aB m) kvs
noncomputable def look(l:List (a2×dv))(k:a2):Option dv:=(l.find? λ x=>decide (x.1=k)).map (·.2)
theorem JW(k gj:a2)(b:dv)(r):look ((gj,b)::r) k=if gj=k then B b else look r k:=by
 by_cases e:gj=k<;>simp [look,e]
theorem dW.inv{k:a2}{v:V}{r}{l:List (a2×dv)}(p:dW R ((k,v)::r) l): ∃b m,l=(k,b)::m/\R v b/\dW R r m:=p
theorem dW.cons{k:a2}{v:V}{b:dv}{r}{m:List (a2×dv)}(a:R v b)(p:dW R r m):dW R ((k,v)::r) ((k,b)::m):=⟨b,m,rfl,a,p⟩
theorem dW.nil:dW R [] []:=rfl
theorem dW.mono{j2:V->dv->Prop}(k: ∀v b,R v b->j2 v b)(kvs:List (a2×V)): ∀l,dW R kvs l->dW j2 kvs l:=
 List.rec (motive:= λ kvs=> ∀l,dW R kvs l->dW j2 kvs l) (λ l e=>e) (λ cn r aB l ⟨b,m,e,a,p⟩=>⟨b,m,e,k _ _ a,aB _ p⟩) kvs
theorem dW.len(kvs:List (a2×V)): ∀l,dW R kvs l->kvs.length=l.length:=
 List.rec (motive:= λ kvs=> ∀l,dW R kvs l->kvs.length=l.length) (λ l e=>by rw[show l=[]from e];rfl) (λ cn r aB l p=>by obtain⟨b,m,rfl,_,p⟩:=p.inv;exact congrArg oY (aB m p)) kvs
theorem dW.look(k:a2)(kvs:List (a2×V)): ∀l,dW R kvs l->(dJ kvs k=J/\Mine.look l k=J)\/ ∃v b,dJ kvs k=B v/\Mine.look l k=B b/\R v b:=
 List.rec (motive:= λ kvs=> ∀l,dW R kvs l->(dJ kvs k=J/\Mine.look l k=J)\/ ∃v b,dJ kvs k=B v/\Mine.look l k=B b/\R v b) (λ l e=>by rw[show l=[]from e];exact .inl ⟨rfl,rfl⟩)
  (λ cn r aB l p=>by
   obtain⟨gj,v⟩:=cn
   obtain⟨b,m,rfl,a,p⟩:=p.inv
   show(Mine.look _ _=_/\_)\/ ∃v b,Mine.look _ _=_/\_
   rw[JW,JW]
   by_cases e:gj=k
   .rw[aQ e,aQ e];exact .inr ⟨v,b,rfl,rfl,a⟩
   .rw[aL e,aL e];exact aB m p) kvs
theorem dW.map(k:a2){v:V}{g:dv->dv}(aM: ∀u b,R u b->R v (g b))(kvs:List (a2×V)): ∀l,dW R kvs l->dW R (kvs.map λ x=>if x.1=k then(x.1,v)else x) (l.map λ x=>if x.1=k then(x.1,g x.2)else x):=
 List.rec (motive:= λ kvs=> ∀l,dW R kvs l->dW R (kvs.map λ x=>if x.1=k then(x.1,v)else x) (l.map λ x=>if x.1=k then(x.1,g x.2)else x)) (λ l e=>by rw[show l=[]from e];exact rfl)
  (λ cn r aB l p=>by
   obtain⟨gj,u⟩:=cn
   obtain⟨b,m,rfl,a,p⟩:=p.inv
   rw[h5,h5]
   dsimp only
   by_cases e:gj=k
   .rw[aQ e,aQ e];exact .cons (aM u b a) (aB m p)
   .rw[aL e,aL e];exact .cons a (aB m p)) kvs
theorem dW.snoc(k:a2){v:V}{b:dv}(a:R v b)(kvs:List (a2×V)): ∀l,dW R kvs l->dW R (kvs++ [(k,v)]) (l++ [(k,b)]):=
 List.rec (motive:= λ kvs=> ∀l,dW R kvs l->dW R (kvs++ [(k,v)]) (l++ [(k,b)])) (λ l e=>by rw[show l=[]from e];exact .cons a .nil)
  (λ cn r aB l p=>by obtain⟨gJ,m,rfl,q,p⟩:=p.inv;exact .cons q (aB m p)) kvs
theorem dW.put(k:a2){v:V}{b:dv}{g:dv->dv}(a:R v b)(aM: ∀u b,R u b->R v (g b)){kvs:List (a2×V)}{l}(p:dW R kvs l):dW R (ha kvs k v) (if(Mine.look l k).isSome then l.map λ x=>if x.1=k then(x.1,g x.2)else x else l++ [(k,b)]):=by
 unfold ha
 rcases p.look k with⟨ao,aH⟩|⟨u,gJ,ao,aH,_⟩<;>rw[ao,aH]
 .exact dW.snoc k a _ _ p
 .exact dW.map k aM _ _ p
theorem Xm(k:a2)(l:List (a2×dv)):l.any (λ x=>decide (x.1=k))=(look l k).isSome:=by
 unfold look
 rw[JX]
 induction l with
 |nil=>rfl
 |cons a r aB=>rw[JY,Ez,aB];cases decide (a.1=k)<;>rfl
end
noncomputable def d2(n:Nat):Str:=jY.getD n (bu "")
section
variable(c:Cn)(h:b1)(j:St)
def iY(a9:List (Nat×V)):List DictEntry->Prop:=List.rec (motive:= λ _=>List DictEntry->Prop) (λ l=>l=[])
 (λ f _ aB l=> ∃e es,l=e::es/\f.1<jY.length/\(∃t,e.key= .str (d2 f.1) t)/\bk h j f.2 e.val/\aB es) a9
def zc(v:V)(q:Addr×aZ):Prop:=j q.1=J/\(∃o,h.get? q.1=B o/\Seq o)/\bk h j v q.2
def tR(a:Nat)(kvs:List (a2×V)):Prop:= ∃l,h.DictOf (hA c) a l/\dW (bk h j) kvs l
def vS(a:Nat)(kvs:List (a2×V)):Prop:= ∃l,h.DictOfH (rT c) a l/\dW (zc h j) kvs l
def h6(a:Nat)(kvs:List (a2×V)):Prop:=tR c h j a kvs\/vS c h j a kvs
def JZ(a:Nat)(X:List V):Prop:= ∃xs:List aZ,h.PlainList a xs.toArray/\b3 h j X xs
def J0(a ae bL:Nat)(a9:List (Nat×V)):Prop:=h.get? a=B (instObj ae bL)/\j bL=B (.owned a)/\ ∃es n,h.get? bL=B (dictOf es n)/\iY h j a9 es
def mJ(a:Nat)(o:O):Prop:=o.casesOn (JZ h j a) (h6 c h j a) (J0 h j a) (λ _=>True)
structure bN:Prop where
 base: ∀b o,c.eE.get? b=B o->h.get? b=B o
 low: ∀b o,c.eE.get? b=B o->j b=J
 lt: ∀a o,j a=B o-> ∃q,h.get? a=B q
 obj: ∀a o,j a=B o->mJ c h j a o
end
section
variable{c:Cn}{F:Nat->Prop}{j D:St}{h h':b1}{a:Nat}{kvs:List (a2×V)}{X:List V}
theorem bN.list(S:bN c h j)(e:j a=B (.list X)):JZ h j a X:=S.obj a _ e
theorem bN.dict(S:bN c h j)(e:j a=B (.dict kvs)):h6 c h j a kvs:=S.obj a _ e
theorem bN.inst{ae bL a9}(S:bN c h j)(e:j a=B (.inst ae bL a9)):J0 h j a ae bL a9:=S.obj a _ e
def IsDict(h:b1)(a:Nat):Prop:= ∃o es db,h.get? a=B o/\o.ExactDict/\o.data= .dict es db
theorem h6.o1(d:h6 c h j a kvs):IsDict h a:=by
 rcases d with⟨l,⟨o,es,db,ao,aH,cG,_⟩,_⟩|⟨l,⟨o,es,db,ao,aH,cG,_⟩,_⟩<;>exact⟨o,es,db,ao,aH,cG⟩
theorem IsDict.noSeq{o:Obj}(d:IsDict h a)(e:h.get? a=B o): ¬Seq o:=by
 obtain⟨q,es,db,ao,aH,cG⟩:=d
 rintro⟨xs,n,ec⟩
 rw[ao]at e;rw[dg e,ec]at cG;exact Data.noConfusion cG
theorem iY.step(st:Step F j h D h')(n:gA F h)(a9:List (Nat×V)): ∀l,iY h j a9 l->iY h' D a9 l:=
 List.rec (motive:= λ a9=> ∀l,iY h j a9 l->iY h' D a9 l) (λ l e=>e) (λ f r aB l ⟨e,es,q,a,b,c,d⟩=>⟨e,es,q,a,b,c.step st n,aB _ d⟩) a9
theorem tR.step(st:Step F j h D h')(n:gA F h)(ak: ∀o,h.get? a=B o->h'.get? a=B o)(d:tR c h j a kvs):tR c h' D a kvs:=by
 obtain⟨l,⟨o,es,db,ao,r⟩,p⟩:=d
 exact⟨l,⟨o,es,db,ak _ ao,r⟩,p.mono (λ _ _ q=>q.step st n) _ _⟩
end
section
variable{c:Cn}{F:Nat->Prop}{j D:St}{h h':b1}{a m:Nat}{o:O}{kvs:List (a2×V)}{X:List V}{k:a2}
theorem dW.all{dv:Type}{R:V->dv->Prop}(kvs:List (a2×V)): ∀l,dW R kvs l-> ∀x∈l, ∃v,R v x.2:=
 List.rec (motive:= λ kvs=> ∀l,dW R kvs l-> ∀x∈l, ∃v,R v x.2) (λ l e x aJ=>by rw[show l=[]from e]at aJ;cases aJ)
  (λ cn r aB l p x aJ=>by
   obtain⟨b,m,rfl,q,p⟩:=p.inv
   rcases eV.mp aJ with rfl|aJ
   .exact ⟨_,q⟩
   .exact aB m p x aJ) kvs
theorem zc.step(st:Step F j h D h')(n:gA F h){v:V}{q:Addr×aZ}(p:zc h j v q):zc h' D v q:=by
 obtain⟨s,⟨o,ba,ab⟩,r⟩:=p
 have e:=st.seq n s ba ab
 exact⟨e.1,⟨o,e.2,ab⟩,r.step st n⟩
theorem vS.step(st:Step F j h D h')(n:gA F h)(ak: ∀o,h.get? a=B o->h'.get? a=B o)(d:vS c h j a kvs):vS c h' D a kvs:=by
 obtain⟨l,⟨o,es,db,ao,aH,cG,ec,hO,gY⟩,p⟩:=d
 refine⟨l,⟨o,es,db,ak _ ao,aH,cG,ec,λ x aJ=>?_,gY⟩,p.mono (λ _ _ q=>q.step st n) _ _⟩
 obtain⟨v,s,_⟩:=p.all _ _ x aJ
 obtain⟨y,z,e,ji,items,k,ba,ap,hd,bo⟩:=hO x aJ
 exact⟨y,z,e,ji,items,k,(st.seq n s ba ⟨_,_,hd⟩).2,ap,hd,bo⟩
theorem h6.step(st:Step F j h D h')(n:gA F h)(ak: ∀o,h.get? a=B o->h'.get? a=B o)(d:h6 c h j a kvs):h6 c h' D a kvs:=d.imp (·.step st n ak) (·.step st n ak)
theorem tS{es:Array DictEntry}(e:es.toList=[]):KeysOf (hA c) es/\Pairs (hA c) es.toList []:=by
 rw[e]
 refine⟨λ x aJ=>?_, .nil⟩
 have aJ:x∈es.toList:=Array.mem_toList_iff.mpr aJ
 rw[e]at aJ;cases aJ
theorem h6.tT(ag:h6 c h j a kvs)(f:eg kvs k=G)(np: ∀x y,k≠ .p x y):tR c h j a kvs:=by
 rcases ag with ag|⟨l,⟨o,es,db,ao,aH,cG,ec,hO,gY⟩,p⟩
 .exact ag
 cases kvs with
 |nil=>
  rw[show l=[]from p]at ec
  exact⟨[],⟨o,es,db,ao,aH,cG,(tS ec).1,(tS ec).2,nJ⟩,rfl⟩
 |cons cn r=>
  obtain⟨gj,v⟩:=cn
  obtain⟨b,m,rfl,_⟩:=p.inv
  obtain⟨x,y,e,_⟩:=hO _ (.head _)
  have e:gj= .p x y:=e
  subst e
  cases k with
  |p x y=>exact absurd rfl (np x y)
  |s _=>exact d3 f
  |i _=>exact d3 f
theorem h6.zd{x y:Int}(ag:h6 c h j a kvs)(f:eg kvs (.p x y)=G):vS c h j a kvs:=by
 rcases ag with⟨l,⟨o,es,db,ao,aH,cG,ec,hO,gY⟩,p⟩|ag
 .cases kvs with
  |nil=>
   rw[show l=[]from p]at hO
   have e:es.toList=[]:=J1 hO.length
   exact⟨[],⟨o,es,db,ao,aH,cG,e,(λ x aJ=>nomatch aJ),nJ⟩,rfl⟩
  |cons cn r=>
   obtain⟨gj,v⟩:=cn
   obtain⟨b,m,rfl,_⟩:=p.inv
   generalize es.toList=gZ at hO
   cases hO with
   |cons q _ _=>
    rcases o0 q with⟨s,t,e,_⟩|⟨s,t,e,_⟩<;>(have e:gj=_:=e;subst e;exact d3 f)
 .exact ag
theorem mJ.step(st:Step F j h D h')(n:gA F h)(ak: ∀q,h.get? a=B q->h'.get? a=B q)
  (hd: ∀ae bL a9,o= .inst ae bL a9->D bL=B (.owned a)/\ ∀q,h.get? bL=B q->h'.get? bL=B q) (r:mJ c h j a o):mJ c h' D a o:=by
 cases o with
 |list X=>obtain⟨xs,⟨q,e⟩,r⟩:=r;exact⟨xs,⟨q,ak _ e⟩,r.step st n⟩
 |dict kvs=>exact h6.step st n ak r
 |inst ae bL a9=>
  obtain⟨e,_,es,k,ao,aH⟩:=r
  exact⟨ak _ e,(hd ae bL a9 rfl).1,es,k,(hd ae bL a9 rfl).2 _ ao,aH.step st n _ _⟩
 |owned _=>trivial
theorem bN.change(S:bN c h j)(st:Step F j h D h')(n:gA F h)(az: ∀b o,c.eE.get? b=B o-> ¬F b/\D b=J)(o2: ∀b o,D b=B o-> ∃q,h'.get? b=B q)
  (Xn: ∀b o,D b=B o->mJ c h' D b o\/j b=B o/\(∀q,h.get? b=B q->h'.get? b=B q)/\ ∀ae bL a9,o= .inst ae bL a9->D bL=B (.owned b)/\ ∀q,h.get? bL=B q->h'.get? bL=B q):bN c h' D where
 base:= λ b o e=>st.keep b o (S.base b o e) (S.low b o e) (az b o e).1
 low:= λ b o e=>(az b o e).2
 lt:=o2
 obj:= λ b o e=>(Xn b o e).elim id λ q=>mJ.step st n q.2.1 q.2.2 (S.obj b o q.1)
theorem bN.step(S:bN c h j)(st:Step F j h j h')(n:gA F h)(ak: ∀a o q,j a=B o->h.get? a=B q->h'.get? a=B q)(az: ∀b o,c.eE.get? b=B o-> ¬F b):bN c h' j:=
 S.change st n (λ b o e=>⟨az b o e,S.low b o e⟩) (λ b o e=>(S.lt b o e).imp λ q=>ak b o q e) λ b o e=> .inr ⟨e,λ q=>ak b o q e,λ ae bL a9 o3=>by
  subst o3;exact⟨(S.inst e).2.1,λ q=>ak bL _ q (S.inst e).2.1⟩⟩
theorem bN.grow(S:bN c h j)(k: ∀b o,h.get? b=B o->h'.get? b=B o):bN c h' j:=S.step (F:=c6) (Step.h4 k) d4 (λ _ _ _ _=>k _ _) λ _ _ _ f=>f
theorem St.vT(j:St)(a:Nat)(o:O):j.set a o a=B o:=aQ rfl
theorem St.j3(j:St){a b:Nat}(o:O)(e:b≠a):j.set a o b=j b:=aL e
theorem St.EA(j:St)(a:Nat):j.del a a=J:=aQ rfl
theorem St.qo(j:St){a b:Nat}(e:b≠a):j.del a b=j b:=aL e
theorem f9{α:Type}{x:Option α}{y:α}(e:x=B y):x≠J:= λ q=>nomatch e.symm.trans q
theorem bN.ne(S:bN c h j){b:Nat}{q:Obj}(l:c.eE.get? b=B q)(e:j a≠J):b≠a:= λ x=>e (x▸S.low b q l)
theorem bN.put{gK:O}(S:bN c h j)(ak: ∀b q,b≠m->h.get? b=B q->h'.get? b=B q)(ba: ∃q,h'.get? m=B q)(b7:j a=B gK)(no: ∀x,gK≠ .owned x)(aG:m=a\/j m=B (.owned a))
  (new:Step c6 j h (j.set a o) h'->mJ c h' (j.set a o) a o):bN c h' (j.set a o)/\Step c6 j h (j.set a o) h':=by
 have J2:j m≠J:=aG.elim (λ e=>e▸f9 b7) f9
 have st:Step c6 j h (j.set a o) h':=
  ⟨λ b q e s _=>ak b q (λ x=>J2 ((congrArg j x).symm.trans s)) e,λ b _ _ s _=>(St.j3 j o (λ x=>f9 b7 ((congrArg j x).symm.trans s))).trans s,λ b q e _=>(tU (b=m)).elim (λ e=>e▸ba) λ n=>⟨q,ak b q n e⟩⟩
 refine⟨S.change st d4 (λ b q l=>⟨id,(St.j3 j o (S.ne l (f9 b7))).trans (S.low b q l)⟩) (λ b q e=>?_) λ b q e=>?_,st⟩
 .rcases tU (b=a)with rfl|n
  .obtain ⟨x,aJ⟩:=S.lt _ _ b7;exact st.old _ x aJ id
  .rw[St.j3 j o n]at e;obtain⟨x,aJ⟩:=S.lt _ _ e;exact st.old _ x aJ id
 .rcases tU (b=a)with rfl|n
  .rw[St.vT]at e;exact .inl (dg e▸new st)
  rw[St.j3 j o n]at e
  by_cases J3:b=m
  .subst J3
   rw[aG.resolve_left n]at e
   exact .inl (dg e▸trivial)
  refine .inr ⟨e,λ q=>ak b q J3,λ ae bL a9 o3=>?_⟩
  subst o3
  have d:=(S.inst e).2.1
  have J4:bL≠a:= λ x=>by rw[x,b7]at d;exact no _ (dg d)
  refine⟨(St.j3 j o J4).trans d,λ q=>ak bL q λ x=>?_⟩
  rw[x,aG.resolve_left λ y=>J4 (x.trans y)]at d
  exact n (O.owned.inj (dg d)).symm
theorem bN.fresh(S:bN c h j)(aI:h.get? a=J):j a=J:=by
 cases e:j a with
 |none=>rfl
 |some o=>obtain⟨q,co⟩:=S.lt _ _ e;rw[aI]at co;cases co
theorem jD(h:b1):h.get? h.objs.size=J:=by
 cases e:h.get? h.objs.size with
 |none=>rfl
 |some o=>exact absurd (vU e) (vV _)
theorem bN.set(S:bN c h j)(qp:j a=J)(bX:c.eE.get? a=J)(dM:gA F h)(tV: ∀b,F b->b=a)(aq: ∃q,h'.get? a=B q)(ba:F a\/h.get? a=J)(ak: ∀b q,h.get? b=B q->h'.get? b=B q)
  (new:Step F j h (j.set a o) h'->mJ c h' (j.set a o) a o):bN c h' (j.set a o)/\Step F j h (j.set a o) h':=by
 have st:Step F j h (j.set a o) h':=⟨λ b q e _ _=>ak b q e,λ b q e s f=>(St.j3 j o (λ x=>by rw[x]at e f;exact ba.elim f λ g=>by rw[g]at e;cases e)).trans s,λ b q e _=>⟨q,ak b q e⟩⟩
 refine⟨S.change st dM (λ b q l=>⟨(λ f=>by rw[tV b f,bX]at l;cases l),(St.j3 j o (λ x=>by rw[x,bX]at l;cases l)).trans (S.low b q l)⟩) (λ b q e=>?_) λ b q e=>?_,st⟩
 .rcases tU (b=a)with rfl|n
  .exact aq
  .rw[St.j3 j o n]at e;exact(S.lt _ _ e).imp (ak _)
 .rcases tU (b=a)with rfl|n
  .rw[St.vT]at e;exact .inl (dg e▸new st)
  rw[St.j3 j o n]at e
  refine .inr ⟨e,ak b,λ ae bL a9 o3=>⟨?_,ak bL⟩⟩
  subst o3
  have d:=(S.inst e).2.1
  exact(St.j3 j o λ x=>by rw[x,qp]at d;cases d).trans d
theorem bN.new(S:bN c h j)(aI:h.get? a=J)(aq: ∃q,h'.get? a=B q)(ak: ∀b q,h.get? b=B q->h'.get? b=B q)(new:Step c6 j h (j.set a o) h'->mJ c h' (j.set a o) a o):bN c h' (j.set a o)/\Step c6 j h (j.set a o) h':=
 S.set (S.fresh aI) (nK.mpr λ q e=>by rw[S.base _ _ e]at aI;cases aI) d4 (λ _ f=>f.elim) aq (.inr aI) ak new
theorem bN.del(S:bN c h j)(no: ∀x,j a≠B (.owned x)):bN c h (j.del a)/\Step c6 j h (j.del a) h:=by
 have J5: ∀b,j b=J->j.del a b=J:= λ b e=>by unfold St.del;split<;>first|rfl|exact e
 have EB: ∀b q,j.del a b=B q->j b=B q:= λ b q e=>by unfold St.del at e;split at e<;>first|exact e|cases e
 have st:Step c6 j h (j.del a) h:=⟨λ b o e _ _=>e,λ b o _ e _=>J5 b e,λ b o e _=>⟨o,e⟩⟩
 refine⟨S.change st d4 (λ b q l=>⟨id,J5 b (S.low b q l)⟩) (λ b q e=>S.lt b q (EB b q e)) λ b q e=> .inr ⟨EB b q e,λ _ e=>e,λ ae bL a9 o3=>⟨?_,λ _ e=>e⟩⟩,st⟩
 subst o3
 have d:=(S.inst (EB _ _ e)).2.1
 exact(St.qo j λ x=>no _ (x▸d)).trans d
end
noncomputable def eP:V->PyData:=V.rec (motive_1:= λ _=>PyData) (motive_2:= λ _=>List PyData) .none .bool .int (λ s=> .str ⟨s.toArray⟩) (λ _ aB=> .tuple aB) (λ _=> .none) (λ _ _=> .none) [] (λ _ _ d hf=>d::hf)
noncomputable def lX:List V->List PyData:=V.rec_1 (motive_1:= λ _=>PyData) (motive_2:= λ _=>List PyData) .none .bool .int (λ s=> .str ⟨s.toArray⟩) (λ _ aB=> .tuple aB) (λ _=> .none) (λ _ _=> .none) [] (λ _ _ d hf=>d::hf)
def ze(h:b1)(j:St)(v:V):Prop:= ∀x,bk h j v x->f6 v=G->(∃as,Reads h x (eP v) as)/\(eP v).canLay0=G/\(eP v).depth=h2 v
def zf(h:b1)(j:St)(X:List V):Prop:= ∀xs,b3 h j X xs->ty X=G->(∃as,ReadsAll h xs (lX X) as)/\vW (lX X)=G/\vX (lX X)=CC X
section
variable{h:b1}{j:St}
theorem Xo(X:List V)(aB:zf h j X):ze h j (.tup X):=by
 rintro _ ⟨a,xs,rfl,_,t,r⟩ p
 obtain⟨o,ba,ap,n,hd⟩:=t
 obtain⟨⟨as,q⟩,c,d⟩:=aB xs r p
 exact⟨⟨_,J6 ba ap hd q⟩,c,congrArg oY d⟩
theorem Xp(v:V)(X:List V)(gz:ze h j v)(fU:zf h j X):zf h j (v::X):=by
 intro xs r p
 obtain⟨y,ys,rfl,a,r⟩:=r.inv
 have p:=kv.mp p
 obtain⟨⟨as,q⟩,c,d⟩:=gz y a p.1
 obtain⟨⟨fL,qq⟩,nL,hP⟩:=fU ys r p.2
 exact⟨⟨_, .cons q qq⟩,kv.mpr ⟨c,nL⟩,congr (congrArg max d) hP⟩
theorem EC(v:V):ze h j v:=
 V.rec (motive_1:=ze h j) (motive_2:=zf h j) (λ x r _=>by have r:x= .none:=r;subst r;exact⟨⟨_, .none⟩,rfl,rfl⟩) (λ b x r _=>by have r:x= .bool b:=r;subst r;exact⟨⟨_, .bool b⟩,rfl,rfl⟩)
  (λ i x ⟨t,r⟩ _=>by subst r;exact⟨⟨_, .int i t⟩,rfl,rfl⟩) (λ s x ⟨t,r,ok⟩ _=>by subst r;exact⟨⟨_, .str _ t⟩,(by simpa [hp]using ok:(⟨s.toArray⟩:Str).cps.all (λ c=>decide (c<0x110000))=G),rfl⟩) Xo
  (λ a x r p=>d3 p) (λ X aB x r p=>d3 p) (λ xs r _=>by have r:xs=[]:=r;subst r;exact⟨⟨_, .nil⟩,rfl,rfl⟩) Xp v
end
theorem J7(a b:List Nat):((⟨a.toArray⟩:Str)==⟨b.toArray⟩)=decide (a=b):=y9 Ex λ e=>e▸rfl
def ED(a:V):Prop:= ∀b r,lO a b=B r->f6 b=G->Xq (eP a) (eP b)=r
def EE(a:List V):Prop:= ∀b r,rE a b=B r->ty b=G->PyData.eqvAll (lX a) (lX b)=r
theorem Xr(a:V)(as:List V)(gz:ED a)(fU:EE as):EE (a::as)
 | [],r,h,_=>dg h
 |b::fL,r,h,p=>by
  have p:=kv.mp p
  have h:(match lO a b,rE as fL with|some x,B y=>B (x&&y)|_,_=>J)=B r:=h
  cases ao:lO a b with
  |none=>rw[ao]at h;cases h
  |some x=>
   cases aH:rE as fL with
   |none=>rw[ao,aH]at h;cases h
   |some y=>
    rw[ao,aH]at h
    rw[<-dg h, <-gz b x ao p.1, <-fU fL y aH p.2];rfl
abbrev e7{r x:Bool}(h:B x=B r):x=r:=dg h
theorem EF(a:V):ED a:=
 V.rec (motive_1:=ED) (motive_2:=EE)
  (λ b r=>b.casesOn (λ h _=>e7 h) (λ _ h _=>e7 h) (λ _ h _=>e7 h) (λ _ h _=>e7 h) (λ _ h _=>e7 h) (λ _ _ p=>nomatch p) (λ _ _ p=>nomatch p))
  (λ a b r=>b.casesOn (λ h _=>e7 h) (λ _ h _=>e7 h) (λ _ h _=>nomatch h) (λ _ h _=>e7 h) (λ _ h _=>e7 h) (λ _ _ p=>nomatch p) (λ _ _ p=>nomatch p))
  (λ a b r=>b.casesOn (λ h _=>e7 h) (λ _ h _=>nomatch h) (λ _ h _=>e7 h) (λ _ h _=>e7 h) (λ _ h _=>e7 h) (λ _ _ p=>nomatch p) (λ _ _ p=>nomatch p))
  (λ a b r=>b.casesOn (λ h _=>e7 h) (λ _ h _=>e7 h) (λ _ h _=>e7 h) (λ _ h _=>(J7 _ _).trans (e7 h)) (λ _ h _=>e7 h) (λ _ _ p=>nomatch p) (λ _ _ p=>nomatch p))
  (λ X aB b r=>b.casesOn (λ h _=>e7 h) (λ _ h _=>e7 h) (λ _ h _=>e7 h) (λ _ h _=>e7 h) (λ bj h p=>aB bj r h p) (λ _ _ p=>nomatch p) (λ _ _ p=>nomatch p))
  (λ _ b r h _=>nomatch h) (λ _ _ b r h _=>nomatch h)
  (λ b r=>b.casesOn (λ h _=>e7 h) (λ _ _ h _=>e7 h)) Xr a
section
variable{c:Cn}{s:br}{j:St}{a b:V}{x y:aZ}{r:Bool}{Q:aZ->br->Prop}
theorem EG(e:jg a b=B r):(f6 a=G/\f6 b=G/\h2 a<=60/\h2 b<=60)/\lO a b=B r:=by
 unfold jg at e
 by_cases h:f6 a=G/\f6 b=G/\h2 a<=60/\h2 b<=60
 .rw[aQ h]at e;exact⟨h,e⟩
 .rw[aL h]at e;cases e
theorem zg{v:V}(r:bk s.heap j v x)(p:f6 v=G)(d:h2 v<=60): ∃as,Reads s.heap x (eP v) as/\SeqAt.shaped (eP v)=G:=by
 obtain⟨⟨as,q⟩,cl,g0⟩:=EC v x r p
 exact⟨as,q,kv.mpr ⟨cl,ce (by rw[g0];exact ca d (bw rfl))⟩⟩
theorem Cn.Ok.J8(ae:c.Ok):c.A.units+64<cLine:=dP (nM (bw rfl) _) ae.units
theorem Xs(ae:c.Ok)(e:jg a b=B r)(cs:bk s.heap j a x)(ei:bk s.heap j b y)(h:Q (.bool r) s):c.wp (compareOp .Eq x y) Q s:=by
 obtain⟨⟨p,q,d,hP⟩,e⟩:=EG e
 obtain⟨as,kF,bt⟩:=zg cs p d
 obtain⟨fL,hQ,b2⟩:=zg ei q hP
 exact eq_dataH kF hQ bt b2 ae.J8 (by rw[EF a b r e q];exact h)
theorem Xu(ae:c.Ok)(e:jg a b=B r)(cs:bk s.heap j a x)(ei:bk s.heap j b y)(h:Q (.bool (!r)) s):c.wp (compareOp .NotEq x y) Q s:=by
 obtain⟨⟨p,q,d,hP⟩,e⟩:=EG e
 obtain⟨as,kF,bt⟩:=zg cs p d
 obtain⟨fL,hQ,b2⟩:=zg ei q hP
 exact ne_dataH kF hQ bt b2 ae.J8 (by rw[EF a b r e q];exact h)
theorem Xv{u:V}{bj:List V}(e:gU a (u::bj)=B r): ∃p q,jg u a=B p/\gU a bj=B q/\r=(p||q):=by
 have e:(match jg u a,gU a bj with|some x,B y=>B (x||y)|_,_=>J)=B r:=e
 cases ao:jg u a with
 |none=>rw[ao]at e;cases e
 |some x=>
  cases aH:gU a bj with
  |none=>rw[ao,aH]at e;cases e
  |some y=>rw[ao,aH]at e;exact⟨x,y,rfl,rfl,(e7 e).symm⟩
def J9(h:b1)(a:V)(X:List V)(xs:List aZ)(r:Bool):Prop:=f6 a=G/\h2 a<=60/\(∃as,ReadsAll h xs (lX X) as)/\vW (lX X)=G/\((lX X).any λ y=>y.eqv (eP a))=r
theorem Xw(X:List V): ∀xs r,b3 s.heap j X xs->gU a X=B r->J9 s.heap a X xs r:=
 List.rec (motive:= λ X=> ∀xs r,b3 s.heap j X xs->gU a X=B r->J9 s.heap a X xs r)
  (λ xs r q e=>by
   rw[q.nI]
   have e:(if f6 a=G/\h2 a<=60 then B U else J)=B r:=e
   by_cases h:f6 a=G/\h2 a<=60
   .rw[aQ h]at e;exact⟨h.1,h.2,⟨_, .nil⟩,rfl,e7 e⟩
   .rw[aL h]at e;cases e)
  (λ u bj aB xs r q e=>by
   obtain⟨y,ys,rfl,kF,hQ⟩:=q.inv
   obtain⟨p,cj,ao,aH,rfl⟩:=Xv e
   obtain⟨Y,Z,⟨as,aE⟩,bv,cw⟩:=aB ys cj hQ aH
   obtain⟨⟨ga,hg,g1,iz⟩,ao⟩:=EG ao
   obtain⟨⟨fL,ed⟩,eQ,_⟩:=EC u y kF ga
   exact⟨Y,Z,⟨_, .cons ed aE⟩,kv.mpr ⟨eQ,bv⟩,congr (congrArg or (EF u a p ao hg)) cw⟩) X
theorem Cn.Ok.mem(ae:c.Ok){d:PyData}{hf}(h:d.depth<=60):c.A.units+1+min (vX hf) d.depth<cLine:=
 dP (ca (nM (ca (Ka _ _) h) _) (by right)) ae.units
variable{X:List V}{xs:List aZ}{l:Nat}
theorem Kb(ae:c.Ok)(rs:b3 s.heap j X xs)(cs:bk s.heap j a x)(e:gU a X=B r):
  ∃as fL,Reads s.heap x (eP a) as/\(eP a).canLay0=G/\ReadsAll s.heap xs (lX X) fL/\vW (lX X)=G/\c.A.units+1+min (vX (lX X)) (eP a).depth<cLine/\((lX X).any λ y=>y.eqv (eP a))=r:=by
 obtain⟨Y,Z,⟨fL,aE⟩,bv,cw⟩:=Xw X xs r rs e
 obtain⟨⟨as,q⟩,cl,g0⟩:=EC a x cs Y
 exact⟨as,fL,q,cl,aE,bv,ae.mem (g0▸Z),cw⟩
theorem Kc(ae:c.Ok)(ah:s.heap.IsList l xs.toArray)(rs:b3 s.heap j X xs)(cs:bk s.heap j a x)(e:gU a X=B r):
  (Q (.bool r) s->c.wp (compareOp .In x (.ref l)) Q s)/\(Q (.bool (!r)) s->c.wp (compareOp .NotIn x (.ref l)) Q s):=by
 obtain⟨as,fL,q,cl,aE,bv,u,rfl⟩:=Kb ae rs cs e
 obtain⟨o,ba,ap,k,hd⟩:=ah
 exact⟨SeqAt.in_list_reads (EH ba ap hd aE) q bv cl u,SeqAt.notIn_list_reads (EH ba ap hd aE) q bv cl u⟩
theorem Xx(ae:c.Ok)(ah:s.heap.IsTuple l xs.toArray)(rs:b3 s.heap j X xs)(cs:bk s.heap j a x)(e:gU a X=B r):
  (Q (.bool r) s->c.wp (compareOp .In x (.ref l)) Q s)/\(Q (.bool (!r)) s->c.wp (compareOp .NotIn x (.ref l)) Q s):=by
 obtain⟨as,fL,q,cl,aE,bv,u,rfl⟩:=Kb ae rs cs e
 obtain⟨o,ba,ap,k,hd⟩:=ah
 exact⟨SeqAt.in_tuple_reads (J6 ba ap hd aE) q bv cl u,SeqAt.notIn_tuple_reads (J6 ba ap hd aE) q bv cl u⟩
end
theorem Xy{k:a2}(X:List V)(e:V.toKey (.tup X)=B k): ∃a b,X=[.int a, .int b]/\k= .p a b:=by
 cases X with
 |nil=>cases e
 |cons Xz r=>
  cases Xz with
  |int a=>
   cases r with
   |nil=>cases e
   |cons EI c7=>
    cases EI with
    |int b=>
     cases c7 with
     |nil=>exact⟨a,b,rfl,(dg e).symm⟩
     |cons _ _=>cases e
    |_=>cases e
  |_=>cases e
def vY(c:Cn)(h:b1)(j:St)(k:a2)(x:aZ):Prop:=oZ k x=G\/ ∃a,x= .ref a/\JV c h k a/\j a=J/\ ∃o,h.get? a=B o/\Seq o
theorem vZ{c:Cn}{h:b1}{j:St}{k:a2}{v:V}{x:aZ}(r:bk h j v x)(e:v.toKey=B k):vY c h j k x:=by
 cases v with
 |str s=>obtain⟨t,rfl,_⟩:=r;rw[<-dg e];exact .inl (JT s t)
 |int i=>obtain⟨t,rfl⟩:=r;rw[<-dg e];exact .inl (JU i t)
 |tup X=>
  obtain⟨a,b,rfl,rfl⟩:=Xy X e
  obtain⟨l,xs,rfl,cW,⟨o,ba,ap,n,hd⟩,r⟩:=r.tup
  obtain⟨y,ys,rfl,⟨t,rfl⟩,c7⟩:=r.inv
  obtain⟨z,cD,rfl,⟨u,rfl⟩,h7⟩:=c7.inv
  rw[h7.nI]at hd
  exact .inr ⟨l,rfl,⟨a,b,rfl,o,_,n,ba,ap,hd, .cons (intKind_is _ _ _ _) (.cons (intKind_is _ _ _ _) .nil)⟩,cW,o,ba,_,_,hd⟩
 |_=>cases e
theorem zh{k:a2}{x:aZ}(h:oZ k x=G)(a b:Int):k≠ .p a b:= λ e=>by rw[e]at h;cases h
theorem v0{c:Cn}{h:b1}{j:St}{d:Nat}{o:O}(ae:c.Ok)(S:bN c h j)(e:j d=B o):(d==sysModules)=U:=
 beq_eq_false_iff_ne.mpr λ q=>by obtain⟨ji,ab⟩:=ae.Ew;rw[q,S.low _ _ ab]at e;cases e
section
variable{c:Cn}{s:br}{j:St}{d:Nat}{kvs:List (a2×V)}{k:a2}{x z:aZ}{Q:aZ->br->Prop}
theorem dW.isSome{dv:Type}{R:V->dv->Prop}{l}(p:dW R kvs l)(k:a2):(Mine.look l k).isSome=(dJ kvs k).isSome:=by
 rcases p.look k with⟨ao,aH⟩|⟨u,b,ao,aH,_⟩<;>rw[ao,aH]<;>rfl
theorem Cn.Ok.tW(ae:c.Ok):c.A.units+1<cLine:=dP (nM (bw rfl) _) ae.units
theorem XA(ae:c.Ok)(aq:(d==sysModules)=U)(ag:h6 c s.heap j d kvs)(f:eg kvs k=G)(rV:vY c s.heap j k x):
  ((∀tk,Q (.bool (dJ kvs k).isSome) { s with toks:=tk })->c.wp (compareOp .In x (.ref d)) Q s)/\((∀tk,Q (.bool (!(dJ kvs k).isSome)) { s with toks:=tk })->c.wp (compareOp .NotIn x (.ref d)) Q s):=by
 rcases rV with cn|⟨a,rfl,t,_⟩
 .obtain ⟨l,dl,p⟩:=ag.tT f (zh cn)
  rw[<-p.isSome k]
  exact⟨λ q=>wpAny_in_of (knd:=hA c) cn aq dl.mapOf (q _),λ q=>wpAny_notIn_of (knd:=hA c) cn aq dl.mapOf (q _)⟩
 .obtain ⟨y,w,rfl,_⟩:=id t
  obtain⟨l,dl,p⟩:=ag.zd f
  rw[<-p.isSome]
  exact⟨λ q=>wpAny_in_heap (knd:=rT c) ae.tW t aq dl (q _),λ q=>wpAny_notIn_heap (knd:=rT c) ae.tW t aq dl (q _)⟩
theorem XB{v:V}(ae:c.Ok)(ag:h6 c s.heap j d kvs)(f:eg kvs k=G)(rV:vY c s.heap j k x)(e:dJ kvs k=B v)(h: ∀y tk,bk s.heap j v y->Q y { s with toks:=tk }):c.wp (getItem (.ref d) x) Q s:=by
 rcases rV with cn|⟨a,rfl,t,_⟩
 .obtain ⟨l,dl,p⟩:=ag.tT f (zh cn)
  rcases p.look k with⟨ao,_⟩|⟨u,b,ao,aH,r⟩
  .rw[ao]at e;cases e
  .rw[ao]at e;exact wpAny_getItem_of (knd:=hA c) cn dl.mapOf aH (h _ _ (dg e▸r))
 .obtain ⟨y,w,rfl,_⟩:=id t
  obtain⟨l,dl,p⟩:=ag.zd f
  rcases p.look _ with⟨ao,_⟩|⟨u,b,ao,aH,r⟩
  .rw[ao]at e;cases e
  .rw[ao]at e;exact wpAny_getItem_heap (knd:=rT c) ae.tW t dl aH (h _ _ (dg e▸r.2.2))
theorem Kd(ae:c.Ok)(aq:(d==sysModules)=U)(ag:h6 c s.heap j d kvs)(f:eg kvs k=G)(rV:vY c s.heap j k x)(hq:s.TypeIs (.ref d) "dict"):
  ((∀y tk,bk s.heap j ((dJ kvs k).getD .none) y->Q y { s with toks:=tk })->c.wp (call (.builtin "dict.get") [.ref d,x]) Q s)/\
  ∀lY,bk s.heap j lY z->(∀y tk,bk s.heap j ((dJ kvs k).getD lY) y->Q y { s with toks:=tk })->c.wp (call (.builtin "dict.get") [.ref d,x,z]) Q s:=by
 rcases rV with cn|⟨a,rfl,t,_⟩
 .obtain ⟨l,dl,p⟩:=ag.tT f (zh cn)
  have fin: ∀{lY z},bk s.heap j lY z->bk s.heap j ((dJ kvs k).getD lY) ((look l k).getD z):= λ r=>by
   rcases p.look k with⟨ao,aH⟩|⟨u,b,ao,aH,cj⟩<;>rw[ao,aH]
   .exact r
   .exact cj
  exact⟨λ h=>EJ zi hq EK (XC _ _) (meets_dict_get (hA c) _ cn aq) ⟨_,dl.mapOf,h _ _ (fin (lY:= .none) rfl)⟩,
   λ lY r h=>EJ zi hq EK (XD _ _ _) (meets_dict_get_default (hA c) _ cn aq z) ⟨_,dl.mapOf,h _ _ (fin r)⟩⟩
 .obtain ⟨y,w,rfl,_⟩:=id t
  obtain⟨l,dl,p⟩:=ag.zd f
  have fin: ∀{lY z},bk s.heap j lY z->bk s.heap j ((dJ kvs (.p y w)).getD lY) (((look l (.p y w)).map (·.2)).getD z):= λ r=>by
   rcases p.look (.p y w)with⟨ao,aH⟩|⟨u,b,ao,aH,cj⟩<;>rw[ao,aH]
   .exact r
   .exact cj.2.2
  exact⟨λ h=>EJ zi hq EK (XC _ _) (meetsH_dict_get (rT c) _ _ aq) ⟨ae.tW,_,_,t,dl,h _ _ (fin (lY:= .none) rfl)⟩,
   λ lY r h=>EJ zi hq EK (XD _ _ _) (meetsH_dict_get_default (rT c) _ _ aq z) ⟨ae.tW,_,_,t,dl,h _ _ (fin r)⟩⟩
theorem XE{v:V}{Q:Unit->br->Prop}(ae:c.Ok)(S:bN c s.heap j)(EL:j d=B (.dict kvs))(f:eg kvs k=G)(bb:kvs.length<ay)(rV:vY c s.heap j k x)(hR:bk s.heap j v z)
  (q: ∀h' tk,bN c h' (j.set d (.dict (ha kvs k v)))->Step c6 j s.heap (j.set d (.dict (ha kvs k v))) h'->Q () { s with heap:=h',toks:=tk }):c.wp (setItem (.ref d) x z) Q s:=by
 have line: ∀n,kvs.length=n->n<=sizeLine:= λ n e=>by rw[<-e];exact ca (k5 bb) (by rw[EM];decide)
 have fin: ∀{h'} tk,tX d s.heap h'->IsDict h' d->(Step c6 j s.heap (j.set d (.dict (ha kvs k v))) h'->h6 c h' (j.set d (.dict (ha kvs k v))) d (ha kvs k v))->Q () { s with heap:=h',toks:=tk }:= λ {h'} tk ab ⟨o,_,_,ba,_⟩ new=>by
  have a:=S.put (h':=h') (o:= .dict (ha kvs k v)) (λ b q az e=>(ab.2 b az).trans e) ⟨o,ba⟩ EL (λ _ e=>nomatch e) (.inl rfl) new
  exact q h' tk a.1 a.2
 rcases rV with cn|⟨a,rfl,t,cW,ba⟩
 .obtain ⟨l,dl,p⟩:=(S.dict EL).tT f (zh cn)
  refine wpAny_setItem_pairs (knd:=hA c) cn dl (λ h' aG ab=>fin _ ab ?_ λ st=> .inl ⟨_,aG,?_⟩) (line _ (p.len _ _))
  .obtain ⟨o,es,db,ao,aH,cG,_⟩:=aG;exact⟨o,es,db,ao,aH,cG⟩
  .have:=dW.put (g:= λ _=>z) k hR (λ _ _ _=>hR) p
   rw[<-Xm]at this
   exact this.mono (λ _ _ r=>r.step st d4) _ _
 .obtain ⟨y,w,rfl,_⟩:=id t
  obtain⟨l,dl,p⟩:=(S.dict EL).zd f
  refine wpAny_setItem_heap (knd:=rT c) ae.tW t dl (λ h' aG ab=>fin _ ab ?_ λ st=> .inr ⟨_,aG,?_⟩) (line _ (p.len _ _))
  .obtain ⟨o,es,db,ao,aH,cG,_⟩:=aG;exact⟨o,es,db,ao,aH,cG⟩
  .exact (dW.put (b:=(a,z)) (g:= λ b=>(b.1,z)) (.p y w) ⟨cW,ba,hR⟩ (λ _ _ r=>⟨r.1,r.2.1,hR⟩) p).mono (λ _ _ r=>r.step st d4) _ _
end
theorem fJ{α:Type}{o:Option α}{Q:α->Prop}(h:b9 o Q): ∃a,o=B a/\Q a:=by
 cases o with
 |none=>exact h.elim
 |some a=>exact⟨a,rfl,h⟩
theorem h8{α:Type}{p:Prop}[Decidable p]{x r:α}(e:(if p then B x else J)=B r):p/\x=r:=by
 by_cases h:p
 .rw[aQ h]at e;exact⟨h,dg e⟩
 .rw[aL h]at e;cases e
theorem Ke{α:Type}{p:Prop}[Decidable p]{x r:α}(e:(if p then J else B x)=B r): ¬p/\x=r:=by
 by_cases h:p
 .rw[aQ h]at e;cases e
 .rw[aL h]at e;exact⟨h,dg e⟩
noncomputable def EN(op:k0):CmpOp:=op.casesOn .Eq .NotEq .Lt .LtE .Gt .GtE .Is .IsNot .In .NotIn
section
variable{c:Cn}{s:br}{j:St}{a b r:V}{x y:aZ}{t:Bool}{Q:aZ->br->Prop}
theorem EO{o:Option Bool}(e:o.map (!·)=B t): ∃u,o=B u/\t=!u:=by
 cases o with
 |none=>cases e
 |some u=>exact⟨u,rfl,(e7 e).symm⟩
theorem Kf(e:CD a b=B t)(cs:bk s.heap j a x)(ei:bk s.heap j b y):plainIs x y=G/\(x==y)=t:=by
 cases b with
 |none=>
  have ei:y= .none:=ei
  subst ei
  cases a with
  |none=>have cs:x= .none:=cs;subst cs;exact⟨rfl,e7 e⟩
  |int i=>obtain⟨u,rfl⟩:=cs.int;exact⟨rfl,e7 e⟩
  |str i=>obtain⟨u,rfl,_⟩:=cs.str;exact⟨rfl,e7 e⟩
  |tup X=>obtain⟨l,xs,rfl,_⟩:=cs.tup;exact⟨rfl,e7 e⟩
  |ref l=>have cs:=cs.ref;subst cs;exact⟨rfl,e7 e⟩
  |_=>cases e
 |_=>cases e
theorem XF{l:Nat}(e:kw j a (.ref l)=B t):(∃X,j l=B (.list X)/\gU a X=B t)\/ ∃kvs k,j l=B (.dict kvs)/\a.toKey=B k/\eg kvs k=G/\(dJ kvs k).isSome=t:=by
 have e:(match j l with|some (.list X)=>gU a X|some (.dict kvs)=>a.toKey.bind λ k=>if eg kvs k then B (dJ kvs k).isSome else J|_=>J)=B t:=e
 cases h:j l with
 |none=>rw[h]at e;cases e
 |some o=>
  rw[h]at e
  cases o with
  |list X=>exact .inl ⟨X,rfl,e⟩
  |dict kvs=>
   cases ak:a.toKey with
   |none=>rw[ak]at e;cases e
   |some k=>
    rw[ak]at e
    have e:=h8 (p:=eg kvs k=G) e
    exact .inr ⟨kvs,k,rfl,rfl,e.1,e.2⟩
  |_=>cases e
theorem XG{l:List Nat}(e:kw j a (.str l)=B t): ∃k,a= .str [k]/\l.contains k=t:=by
 cases a with
 |str m=>
  cases m with
  |nil=>cases e
  |cons k m=>
   cases m with
   |nil=>exact⟨k,rfl,e7 e⟩
   |cons _ _=>cases e
 |_=>cases e
theorem Kg(ae:c.Ok)(S:bN c s.heap j)(e:kw j a b=B t)(cs:bk s.heap j a x)(ei:bk s.heap j b y):
  ((∀tk,Q (.bool t) { s with toks:=tk })->c.wp (compareOp .In x y) Q s)/\((∀tk,Q (.bool (!t)) { s with toks:=tk })->c.wp (compareOp .NotIn x y) Q s):=by
 cases b with
 |tup X=>
  obtain⟨l,xs,rfl,_,h,rs⟩:=ei.tup
  have:=Xx (Q:=Q) ae h rs cs e
  exact⟨λ q=>this.1 (q s.toks),λ q=>this.2 (q s.toks)⟩
 |ref l=>
  have ei:=ei.ref
  subst ei
  rcases XF e with⟨X,ao,aH⟩|⟨kvs,k,ao,aH,f,cG⟩
  .obtain ⟨xs,h,rs⟩:=S.list ao
   have:=Kc (Q:=Q) ae h.isList rs cs aH
   exact⟨λ q=>this.1 (q s.toks),λ q=>this.2 (q s.toks)⟩
  .subst cG
   exact XA ae (v0 ae S ao) (S.dict ao) f (vZ cs aH)
 |str l=>
  obtain⟨k,rfl,aH⟩:=XG e
  obtain⟨u,rfl,_⟩:=cs.str
  obtain⟨v,rfl,_⟩:=ei.str
  have e:(!(al0 ⟨l.toArray⟩ ⟨#[k]⟩ 0 (⟨l.toArray⟩:Str).length 1).isEmpty)=t:=by rw[StrLaws.found_one];simpa using aH
  exact⟨λ q=>P.in_str (y:=⟨#[k]⟩) (by rw[e];exact q s.toks),λ q=>P.notIn_str (y:=⟨#[k]⟩) (by rw[e];exact q s.toks)⟩
 |_=>cases e
theorem zj{f:Int->Int->Option Bool}(e:(match a with| .int a=>(match b with| .int b=>f a b|_=>J)|_=>J)=B t)(cs:bk s.heap j a x)(ei:bk s.heap j b y): ∃i aU u v,x= .int i u/\y= .int aU v/\f i aU=B t:=by
 cases a with
 |int i=>
  cases b with
  |int aU=>obtain⟨u,rfl⟩:=cs.int;obtain⟨v,rfl⟩:=ei.int;exact⟨i,aU,u,v,rfl,rfl,e⟩
  |_=>cases e
 |_=>cases e
theorem XH(ae:c.Ok)(S:bN c s.heap j)(cs:bk s.heap j a x)(ei:bk s.heap j b y)(op:k0)(h:fu j op a b=B t)(q: ∀tk,Q (.bool t) { s with toks:=tk }):c.wp (compareOp (EN op) x y) Q s:=by
 cases op with
 |eq=>exact Xs ae h cs ei (q s.toks)
 |ne=>obtain⟨u,e,rfl⟩:=EO h;exact Xu ae e cs ei (q s.toks)
 |is=>have p:=Kf h cs ei;exact wpAny_is_plain p.1 (p.2▸q s.toks)
 |oN=>obtain⟨u,e,rfl⟩:=EO h;have p:=Kf e cs ei;exact wpAny_isNot_plain p.1 (p.2▸q s.toks)
 |isin=>exact(Kg ae S h cs ei).1 q
 |p6=>obtain⟨u,e,rfl⟩:=EO h;exact(Kg ae S e cs ei).2 q
 |lt=>obtain⟨i,aU,u,v,rfl,rfl,e⟩:=zj (f:=vw .lt) h cs ei;exact wpAny_lt_int (e7 e▸q s.toks)
 |le=>obtain⟨i,aU,u,v,rfl,rfl,e⟩:=zj (f:=vw .le) h cs ei;exact al1 (e7 e▸q s.toks)
 |gt=>obtain⟨i,aU,u,v,rfl,rfl,e⟩:=zj (f:=vw .gt) h cs ei;exact al2 (e7 e▸q s.toks)
 |ge=>obtain⟨i,aU,u,v,rfl,rfl,e⟩:=zj (f:=vw .ge) h cs ei;exact al3 (e7 e▸q s.toks)
end
structure cN(F:Nat->Prop)(j:St)(s:br)(D:St)(s':br):Prop where
 h:Step F j s.heap D s'.heap
 o:s'.os=s.os
 g:s'.gens=s.gens
section
variable{F:Nat->Prop}{j cR rW:St}{s cT jE:br}
theorem cN.refl:cN F j s j s:=⟨Step.refl,rfl,rfl⟩
theorem cN.trans(a:cN F j s cR cT)(b:cN F cR cT rW jE):cN F j s rW jE:=⟨a.h.trans b.h,b.o.trans a.o,b.g.trans a.g⟩
theorem cN.toF(a:cN c6 j s cR cT):cN F j s cR cT:=⟨a.h.toF,a.o,a.g⟩
theorem cN.tk{h:b1}{g d tk os hP qr}(a:cN F j s cR ⟨h,g,d,tk,os⟩):cN F j s cR ⟨h,g,hP,qr,os⟩:=⟨a.h,a.o,a.g⟩
theorem cN.on{h h':b1}{g d tk os hP qr}(a:cN F j s cR ⟨h,g,d,tk,os⟩)(b:Step F cR h rW h'):cN F j s rW ⟨h',g,hP,qr,os⟩:=⟨a.h.trans b,a.o,a.g⟩
theorem cN.off{h h':b1}{g d tk os hP qr}(a:Step F j h cR h')(b:cN F cR ⟨h',g,d,tk,os⟩ rW jE):cN F j ⟨h,g,hP,qr,os⟩ rW jE:=⟨a.trans b.h,b.o,b.g⟩
theorem cN.weak{bI:Nat->Prop}(a:cN F j s cR cT)(k: ∀x,F x->bI x):cN bI j s cR cT:=⟨a.h.weak k,a.o,a.g⟩
end
def e2(c:Cn)(j:St)(s:br)(Q:V->St->Prop)(v:aZ)(s':br):Prop:= ∃V D,Q V D/\bk s'.heap D V v/\bN c s'.heap D/\cN c6 j s D s'
theorem lZ{n:Nat}(h:n<=ay):n<=sizeLine:=ca h (by rw[EM];exact bw rfl)
theorem EP(a b:List Nat):(⟨a.toArray⟩:Str)++⟨b.toArray⟩=⟨(a++b).toArray⟩:=by
 show(⟨_++_⟩:Str)=_
 rw[XI]
theorem jj(a:List Nat):(⟨a.toArray⟩:Str).length=a.length:=gL
theorem Kh{a b:Int}(aI:a.natAbs<2^40):IntMulOk a b:=by
 have h:Ki a<=40:=intBits_le aI
 unfold IntMulOk
 rw[bW (by simp only[shortFactorBits];right)]
 exact fV
theorem Kj{a b:Int}(h:b.natAbs<2^200):Kk a b=U:=by
 unfold Kk
 have az:(if(b==0)=G then 0 else b.natAbs.log2/30+1)<=300:=by
  split
  .exact eh _
  .rename_i az
   have:b.natAbs.log2<200:=(XJ (by simpa using az)).mpr h
   right
 simp only[Kl,decide_eq_false_iff_not]
 exact .inl (by right)
noncomputable def mK(op:f4):Operator:=op.casesOn .Add .Sub .Mult .FloorDiv .Mod .Pow
section
variable{c:Cn}{s:br}{j:St}{a b r:V}{x y:aZ}{Q:aZ->br->Prop}
theorem tY{f:Int->Int->Option V}(e:oP f a b=B r)(cs:bk s.heap j a x)(ei:bk s.heap j b y): ∃i aU u v,x= .int i u/\y= .int aU v/\f i aU=B r:=by
 cases a with
 |int i=>
  cases b with
  |int aU=>obtain⟨u,rfl⟩:=cs.int;obtain⟨v,rfl⟩:=ei.int;exact⟨i,aU,u,v,rfl,rfl,e⟩
  |_=>cases e
 |_=>cases e
theorem Km{a b:List Nat}(p:hp a=G)(q:hp b=G):hp (a++b)=G:=by unfold hp;rw[XK];exact kv.mpr ⟨p,q⟩
theorem EQ(cs:bk s.heap j a x)(ei:bk s.heap j b y)(op:f4)(e:my op a b=B r)(q: ∀z tk,bk s.heap j r z->Q z { s with toks:=tk }):c.wp (binaryOp (mK op) x y) Q s/\c.wp (inplaceOp (mK op) x y) Q s:=by
 cases op with
 |add=>
  have go:Jj a b=B r:=e
  cases a with
  |str m=>
   cases b with
   |str n=>
    obtain⟨u,rfl,ed⟩:=cs.str
    obtain⟨v,rfl,eQ⟩:=ei.str
    have e:=h8 go
    have k: ∀t' tk,Q (.str (⟨m.toArray⟩++⟨n.toArray⟩) t') { s with toks:=tk }:= λ t' tk=>by rw[EP];exact q _ _ (e.2▸⟨t',rfl,Km ed eQ⟩)
    have ah:(⟨m.toArray⟩:Str).length+(⟨n.toArray⟩:Str).length<=sizeLine:=lZ e.1
    exact⟨al4 k ah,al5 k ah⟩
   |_=>cases e
  |int w=>
   have go:oP (λ a b=>B (.int (a+b))) (.int w) b=B r:=go
   obtain⟨i,aU,u,v,rfl,rfl,e⟩:=tY go cs ei
   have k:=q _ (s.toks+1) (dg (show B (V.int (i+aU))=B r from e)▸⟨s.toks,rfl⟩:bk s.heap j r (.int (i+aU) s.toks))
   exact⟨al6 k,al7 k⟩
  |_=>cases e
 |sub=>
  obtain⟨i,aU,u,v,rfl,rfl,e⟩:=tY (f:= λ a b=>B (.int (a - b))) e cs ei
  have k:=q _ (s.toks+1) (dg (show B (V.int (i - aU))=B r from e)▸⟨s.toks,rfl⟩:bk s.heap j r (.int (i - aU) s.toks))
  exact⟨al8 k,al9 k⟩
 |mul=>
  obtain⟨i,aU,u,v,rfl,rfl,e⟩:=tY (f:= λ a b=>if a.natAbs<2^40/\b.natAbs<2^40 then B (.int (a*b))else J) e cs ei
  have e:=h8 e
  have k:=q _ (s.toks+1) (e.2▸⟨s.toks,rfl⟩:bk s.heap j r (.int (i*aU) s.toks))
  exact⟨ama k (Kh e.1.1),amb k (Kh e.1.1)⟩
 |fdiv=>
  obtain⟨i,aU,u,v,rfl,rfl,e⟩:=tY (f:= λ a b=>if b=0\/2^100<=b.natAbs then J else B (.int (a.fdiv b))) e cs ei
  have e:=Ke e
  have k:=q _ (s.toks+1) (e.2▸⟨s.toks,rfl⟩:bk s.heap j r (.int (i.fdiv aU) s.toks))
  have d:Kk i aU=U:=Kj (hB (XM λ z=>e.1 (.inr z)) (XN (hC 1) (bw rfl)))
  exact⟨amc (λ z=>e.1 (.inl z)) k (.inl d),amd (λ z=>e.1 (.inl z)) k (.inl d)⟩
 |mod=>
  obtain⟨i,aU,u,v,rfl,rfl,e⟩:=tY (f:= λ a b=>if b=0\/2^200<=b.natAbs then J else B (.int (a.fmod b))) e cs ei
  have e:=Ke e
  have k:=q _ (s.toks+1) (e.2▸⟨s.toks,rfl⟩:bk s.heap j r (.int (i.fmod aU) s.toks))
  exact⟨ame (λ z=>e.1 (.inl z)) k,amf (λ z=>e.1 (.inl z)) k⟩
 |pow=>
  obtain⟨i,aU,u,v,rfl,rfl,e⟩:=tY (f:= λ a b=>if a=10/\0<=b/\b<=40 then B (.int (a^b.toNat))else J) e cs ei
  have e:=h8 e
  have k:=q _ (s.toks+1) (e.2▸⟨s.toks,rfl⟩:bk s.heap j r (.int (i^aU.toNat) s.toks))
  have az:(Ki i:Int)*aU<=2^27:=by
   rw[e.1.1,show Ki 10=4 by decide+kernel]
   exact Kn (Int.mul_le_mul_of_nonneg_left e.1.2.2 (by decide)) (by decide)
  exact⟨pow_int e.1.2.1 az k,ipow_int e.1.2.1 az k⟩
theorem zk{h:b1}{g d tk os mL mM}{o:O}{q:Obj}{Q:V->St->Prop}(aA:q.isFreed=U)(S:bN c h j)(new:Step c6 j h (j.set h.objs.size o) (h.push q)->mJ c (h.push q) (j.set h.objs.size o) h.objs.size o)
  (co: ∀c,j c=J->Q (.ref c) (j.set c o)):e2 c j ⟨h,g,mL,mM,os⟩ Q (.ref h.objs.size) ⟨h.push q,g,d,tk,os⟩:=
 have a:=S.new (jD h) ⟨q,iZ h aA⟩ (λ b x e=>iA q e) new
 ⟨_,_,co _ (S.fresh (jD h)),rfl,a.1,a.2,rfl,rfl⟩
theorem ER{h:b1}{X:List V}{xs:List aZ}(r:b3 h j X xs){k:Nat}(st:Step c6 j h (j.set h.objs.size (.list X)) (h.push { cls:= .type "list",data:= .seq xs.toArray k })):
  mJ c (h.push { cls:= .type "list",data:= .seq xs.toArray k }) (j.set h.objs.size (.list X)) h.objs.size (.list X):=⟨xs,⟨_,iZ _ rfl⟩,r.step st d4⟩
theorem e2.ret{h:b1}{g d tk os mL mM}{v:V}{Q:V->St->Prop}(S:bN c h j)(r:bk h j v x)(q:Q v j):e2 c j ⟨h,g,mL,mM,os⟩ Q x ⟨h,g,d,tk,os⟩:=⟨v,j,q,r,S,Step.refl,rfl,rfl⟩
theorem XO{Q:V->St->Prop}(S:bN c s.heap j)(cs:bk s.heap j a x)(ei:bk s.heap j b y)(op:f4)(h:lP op a b j Q):c.wp (binaryOp (mK op) x y) (e2 c j s Q) s:=by
 have val:b9 (my op a b) (λ r=>Q r j)->c.wp (binaryOp (mK op) x y) (e2 c j s Q) s:= λ h=>by
  obtain⟨r,e,q⟩:=fJ h
  exact(EQ cs ei op e λ z tk j4=>⟨r,j,q,j4,S,Step.refl,rfl,rfl⟩).1
 cases op with
 |add=>
  cases a with
  |ref m=>
   cases b with
   |ref n=>
    have h:(match j m,j n with|some (.list u),B (.list v)=>u.length+v.length<=ay/\ ∀c,j c=J->Q (.ref c) (j.set c (.list (u++v)))|_,_=>False):=h
    cases ao:j m with
    |none=>rw[ao]at h;exact h.elim
    |some o4=>
     cases o4 with
     |list u=>
      cases aH:j n with
      |none=>rw[ao,aH]at h;exact h.elim
      |some ES=>
       cases ES with
       |list v=>
        rw[ao,aH]at h
        obtain⟨xs,⟨k,ba⟩,a5⟩:=S.list ao
        obtain⟨ys,⟨eQ,v1⟩,c7⟩:=S.list aH
        have aJ:=cs.ref;have bJ:=ei.ref
        subst aJ;subst bJ
        obtain⟨cH,g,d,tk,os⟩:=s
        refine concat_meets ⟨_,ba,rfl⟩ ⟨_,v1,rfl⟩ noFill_list_add seq_list_add PySem.F.slot_list_add PySem.F.entry_list_add (PySem.F.args_list_add_2 _ _) (list_addW m n xs.toArray ys.toArray k eQ J J #[] #[] ?_) ⟨ba,v1,?_⟩
        .rw[gL,gL, <-a5.length, <-c7.length];exact lZ h.1
        .rw[XI];exact zk rfl S (ER (a5.append c7)) h.2
       |_=>rw[ao,aH]at h;exact h.elim
     |_=>rw[ao]at h;exact h.elim
   |_=>exact val h
  |_=>exact val h
 |_=>exact val h
end
theorem zl{n aU:Nat}{k:Int}(h:kx n k=B aU):(0<=k/\k<n/\k<2^40)/\k.toNat=aU:=h8 h
theorem fits63{k:Int}(h:k<2^40):k<2^63:=Int.lt_of_lt_of_le h (by decide)
theorem Ko{n:Nat}{k:Int}(bX:0<=k)(Y:k<n):seqIndex? k n=B k.toNat:=by
 unfold seqIndex?
 simp only[aL (rX.mpr bX)]
 exact aQ (kv.mpr ⟨ce bX,ce Y⟩)
theorem XQ{n:Nat}(bX:0<n):seqIndex? (-1) n=B (n - 1):=by
 obtain⟨m,rfl⟩:=Nat.exists_eq_succ_of_ne_zero (zm bX)
 have e:(if(-1:Int)<0 then(-1:Int)+(m.succ:Nat)else -1)=m:=by
  rw[aQ (by decide)];show(-1:Int)+((m:Int)+1)=m;right
 unfold seqIndex?
 simp only[e]
 exact aQ (kv.mpr ⟨ce (k6 m),ce (o5.mpr (k7 m))⟩)
theorem ET{l:List Nat}{c:Nat}(ok:hp l=G)(h:c∈l):hp [c]=G:=kv.mpr ⟨hh.mp ok c h,rfl⟩
def qs(c:Cn)(s:br)(x y:aZ)(Q:aZ->br->Prop):Prop:= ∃T id,s.TypeIs x T/\typeLookup (.type T) "__getitem__" =pure (B (.builtin id))/\c.wp (getItem x y) Q s
section
variable{c:Cn}{s:br}{j:St}{a i v:V}{x y:aZ}{Q:aZ->br->Prop}
theorem l0{α dv:Type}{o:Option α}{f:α->Option dv}{r:dv}(e:o.bind f=B r): ∃a,o=B a/\f a=B r:=by
 cases o with
 |none=>cases e
 |some a=>exact⟨a,rfl,e⟩
theorem jF{α dv:Type}{o:Option α}{f:α->dv}{r:dv}(e:o.map f=B r): ∃a,o=B a/\f a=r:=by
 cases o with
 |none=>cases e
 |some a=>exact⟨a,rfl,dg e⟩
theorem XR{X:List V}{k:Int}(cs:bk s.heap j (.tup X) x)(k8:bk s.heap j (.int k) y)(h:(kx X.length k).bind (X[·]?)=B v)(q: ∀z tk,bk s.heap j v z->Q z { s with toks:=tk }):qs c s x y Q:=by
 obtain⟨l,xs,rfl,_,t,r⟩:=cs.tup
 obtain⟨u,rfl⟩:=k8.int
 obtain⟨aU,Y,Z⟩:=l0 h
 obtain⟨⟨j5,ed,eQ⟩,rfl⟩:=zl Y
 obtain⟨z,bb,j4⟩:=r.get Z
 exact⟨"tuple",_,t.typeIs,slot_tuple_getitem.lookup,amg t (Kn (by decide) j5) (fits63 eQ) (Ko j5 (by rw[gL, <-r.length];exact ed)) (by rw[nN];exact bb) (q z s.toks j4)⟩
theorem item_list{l:Nat}{X:List V}{k:Int}(S:bN c s.heap j)(ao:j l=B (.list X))(k8:bk s.heap j (.int k) y)(h:(kx X.length k).bind (X[·]?)=B v)(q: ∀z tk,bk s.heap j v z->Q z { s with toks:=tk }):qs c s (.ref l) y Q:=by
 obtain⟨xs,t,r⟩:=S.list ao
 obtain⟨u,rfl⟩:=k8.int
 obtain⟨aU,Y,Z⟩:=l0 h
 obtain⟨⟨j5,ed,eQ⟩,rfl⟩:=zl Y
 obtain⟨z,bb,j4⟩:=r.get Z
 exact⟨"list",_,t.isList.typeIs,slot_list_getitem.lookup,wpAny_getItem_list t.isList j5 (fits63 eQ) (by rw[nN];exact bb) (q z s.toks j4)⟩
theorem item_str{l:List Nat}{k:Int}(cs:bk s.heap j (.str l) x)(k8:bk s.heap j (.int k) y)(h:dU j (.str l) (.int k)=B v)(q: ∀z tk,bk s.heap j v z->Q z { s with toks:=tk }):qs c s x y Q:=by
 obtain⟨t,rfl,ok⟩:=cs.str
 obtain⟨u,rfl⟩:=k8.int
 refine⟨"str",_,o6 _ _ _,XS.lookup,?_⟩
 have h:(if k= -1 then(l.getLast?).map (λ c=>V.str [c])else(kx l.length k).bind λ i=>(l[i]?).map (λ c=> .str [c]))=B v:=h
 by_cases ak:k= -1
 .rw[aQ ak]at h
  obtain⟨c,ap,rfl⟩:=jF h
  subst ak
  have jG:0<l.length:=XT (EU ap)
  refine XU (c:=c) (by decide) ?_ (q _ _ ⟨_,rfl,ET ok (EU ap)⟩)
  rw[jj,XQ jG,qt]
  rw[zn]at ap
  show l.toArray[l.length - 1]?=_
  rw[nN];exact ap
 .rw[aL ak]at h
  obtain⟨aU,Y,Z⟩:=l0 h
  obtain⟨⟨j5,ed,eQ⟩,rfl⟩:=zl Y
  obtain⟨c,ap,rfl⟩:=jF Z
  refine XU (c:=c) ?_ ?_ (q _ _ ⟨_,rfl,ET ok (o7 ap)⟩)
  .simp only[rY,decide_eq_false_iff_not];clear h Y Z ap;right
  .rw[jj,Ko j5 ed,qt]
   show l.toArray[k.toNat]?=_
   rw[nN];exact ap
theorem tZ{d:Nat}{kvs:List (a2×V)}(ag:h6 c s.heap j d kvs):s.TypeIs (.ref d) "dict" :=by
 obtain⟨o,es,db,ao,aH,_⟩:=ag.o1;exact⟨o,ao,aH.1⟩
theorem XV{l:Nat}(h:dU j (.ref l) i=B v):(∃X k,j l=B (.list X)/\i= .int k/\(kx X.length k).bind (X[·]?)=B v)\/ ∃kvs k,j l=B (.dict kvs)/\i.toKey=B k/\eg kvs k=G/\dJ kvs k=B v:=by
 have h:(match j l with|some (.list X)=>(match(generalizing:=false) i with| .int k=>(kx X.length k).bind (X[·]?)|_=>J)|some (.dict kvs)=>i.toKey.bind λ k=>if eg kvs k then dJ kvs k else J|_=>J)=B v:=h
 cases e:j l with
 |none=>rw[e]at h;cases h
 |some o=>
  rw[e]at h
  cases o with
  |list X=>
   cases i with
   |int k=>exact .inl ⟨X,k,rfl,rfl,h⟩
   |_=>cases h
  |dict kvs=>
   obtain⟨k,ak,h⟩:=l0 h
   have h:(if eg kvs k=G then dJ kvs k else J)=B v:=h
   by_cases f:eg kvs k=G
   .rw[aQ f]at h;exact .inr ⟨kvs,k,rfl,ak,f,h⟩
   .rw[aL f]at h;cases h
  |_=>cases h
theorem Kp(ae:c.Ok)(S:bN c s.heap j)(cs:bk s.heap j a x)(k8:bk s.heap j i y)(h:dU j a i=B v)(q: ∀z tk,bk s.heap j v z->Q z { s with toks:=tk }):qs c s x y Q:=by
 cases a with
 |tup X=>
  cases i with
  |int k=>exact XR cs k8 h q
  |_=>cases h
 |str l=>
  cases i with
  |int k=>exact item_str cs k8 h q
  |_=>cases h
 |ref l=>
  have cs:=cs.ref
  subst cs
  rcases XV h with⟨X,k,ao,rfl,Z⟩|⟨kvs,k,ao,ak,f,Z⟩
  .exact item_list S ao k8 Z q
  .exact ⟨"dict",_,tZ (S.dict ao),slot_dict_getitem.lookup,XB ae (S.dict ao) f (vZ k8 ak) Z q⟩
 |_=>cases h
theorem XW(slice:bh)(o i:aZ): ∃Kq,subscripted slice U o i=operate Kq (getItem o i):=by
 cases slice with
 |Slice a b st p=>cases st<;>first|exact⟨_,rfl⟩|(cases a<;>cases b<;>exact⟨_,rfl⟩)
 |_=>exact⟨_,rfl⟩
theorem Kr{XX slice:bh}(h:qs c s x y Q):c.wp (subscriptTail XX slice x y) Q s:=by
 obtain⟨T,id,hq,ah,aM⟩:=h
 obtain⟨Kq,e⟩:=XW slice x y
 exact tail_any hq ah aM e
end
noncomputable def zo(b:dy):aZ:=b.casesOn (.builtin "len") (.builtin "abs") (.type "int") (.type "str") (.builtin "chr") (.builtin "ord") (.type "tuple")
theorem XY(m:Nat):bu (toString ((m:Nat):Int))=⟨(tz m).toArray⟩:=by
 have:=KIN.signs_num m
 generalize bu (toString ((m:Nat):Int))=x at this ⊢
 obtain⟨⟨l⟩⟩:=x
 exact congrArg (λ l:List Nat=>(⟨l.toArray⟩:Str)) this
theorem Ks{l:List Nat}(h: ∀c∈l,c<1000):hp l=G:=hh.mpr λ c ap=>ce (h9 (h c ap) (by decide))
theorem XZ(m:Nat):hp (tz m)=G:=Ks λ c ap=>by
 unfold tz at ap
 obtain⟨d,hd,rfl⟩:=nO.mp ap
 have:=Nat.isDigit_of_mem_toDigits (by decide) (by decide) hd
 unfold Char.isDigit at this
 simp only[ia,decide_eq_true_eq,UInt32.le_iff_toNat_le]at this
 exact dP this.2 (by decide)
section
variable{c:Cn}{s:br}{j:St}{a r:V}{x:aZ}{Q:V->St->Prop}
theorem EV{h h':b1}{g d tk os mL mM}{X:List V}{xs:List aZ}{k:Nat}(S:bN c h j)(ak: ∀b o,h.get? b=B o->h'.get? b=B o)(r:b3 h j X xs)(q:Q (.tup X) j):
  e2 c j ⟨h,g,mL,mM,os⟩ Q (.ref h'.objs.size) ⟨h'.push { cls:= .type "tuple",data:= .seq xs.toArray k },g,d,tk,os⟩:=by
 have v2: ∀b o,h.get? b=B o->(h'.push { cls:= .type "tuple",data:= .seq xs.toArray k }).get? b=B o:= λ b o e=>iA _ (ak b o e)
 have st:Step c6 j h j (h'.push { cls:= .type "tuple",data:= .seq xs.toArray k }):=Step.h4 v2
 exact⟨_,j,q,⟨_,xs,rfl,(S.grow ak).fresh (jD h'),⟨_,iZ _ rfl,rfl,_,rfl⟩,r.step st d4⟩,S.grow v2,st,rfl,rfl⟩
theorem EW{f:Int->Option V}(e:ofInt f a=B r)(cs:bk s.heap j a x): ∃i u,x= .int i u/\f i=B r:=by
 cases a with
 |int i=>obtain⟨u,rfl⟩:=cs.int;exact⟨i,u,rfl,e⟩
 |_=>cases e
theorem X0{l n:Nat}(e:tA j (.ref l)=B n): ∃X,j l=B (.list X)/\X.length=n:=by
 have e:(match j l with|some (.list X)=>B X.length|_=>J)=B n:=e
 cases h:j l with
 |none=>rw[h]at e;cases e
 |some o=>
  rw[h]at e
  cases o with
  |list X=>exact⟨X,rfl,dg e⟩
  |_=>cases e
theorem X1{n:Nat}{Q:aZ->br->Prop}(S:bN c s.heap j)(cs:bk s.heap j a x)(e:tA j a=B n)(aq:n<=ay)(q: ∀u tk,Q (.int n u) { s with toks:=tk }):c.wp (call (.builtin "len") [x]) Q s:=by
 cases a with
 |str l=>
  obtain⟨t,rfl,_⟩:=cs.str
  have e:=dg e
  subst e
  exact P.len_str (by rw[jj];clear q;unfold ay at aq;right) (by rw[jj];exact q _ _)
 |tup X=>
  obtain⟨l,xs,rfl,_,t,r⟩:=cs.tup
  have e:=(dg e).symm.trans r.length
  subst e
  exact amh t (by rw[gL];clear q;unfold ay at aq;right) (by rw[gL];exact q _ _)
 |ref l=>
  have cs:=cs.ref
  subst cs
  obtain⟨X,ao,aH⟩:=X0 e
  obtain⟨xs,t,r⟩:=S.list ao
  have e:=aH.symm.trans r.length
  subst e
  exact ami t.isList (by rw[gL];clear q;unfold ay at aq;right) (by rw[gL];exact q _ _)
 |_=>cases e
theorem X2(S:bN c s.heap j)(cs:bk s.heap j a x)(b:dy)(h:gV j b a=B r)(q:Q r j):c.wp (call (zo b) [x]) (e2 c j s Q) s:=by
 obtain⟨cH,g,d,tk,os⟩:=s
 cases b with
 |len=>
  obtain⟨n,e,h⟩:=l0 h
  have h:=h8 h
  exact X1 S cs e h.1 λ u tk=> .ret S (h.2▸⟨_,rfl⟩) q
 |abs=>
  obtain⟨i,u,rfl,e⟩:=EW h cs
  exact amj λ u tk=> .ret S (dg e▸⟨_,rfl⟩) q
 |int=>
  cases a with
  |str l=>
   obtain⟨t,rfl,ok⟩:=cs.str
   have h:=h8 h
   obtain⟨bf,a3,dp⟩:=h.1
   refine KIN.call_text (intText_digits (x:=⟨l.toArray⟩) ?_ ?_ ?_) (by rw[jj];exact ca a3 (bw rfl)) (.ret S (h.2▸⟨_,rfl⟩) q)
   .intro c ap
    have:=hh.mp dp c ap
    simpa using this
   .simpa using bf
   .rw[jj];exact ca a3 (bw rfl)
  |int i=>
   obtain⟨u,rfl⟩:=cs.int
   exact call_int_int (.ret S (dg h▸⟨_,rfl⟩) q)
  |_=>cases h
 |str=>
  obtain⟨i,u,rfl,e⟩:=EW h cs
  have e:=h8 e
  obtain⟨m,rfl⟩:=t0 e.1.1
  refine P.str_of_int ?_ ?_
  .have:(m:Int).natAbs.log2<1000:=by
    by_cases z:m=0
    .subst z;decide
    .exact (XJ z).mpr e.1.2
   right
  .show e2 c j ⟨cH,_,_,_,_⟩ Q (.str (bu (toString ((m:Nat):Int))) tk) _
   rw[XY]
   exact .ret S (e.2▸⟨_,rfl,XZ m⟩) q
 |chr=>
  obtain⟨i,u,rfl,e⟩:=EW h cs
  have e:=h8 e
  refine P.chr_of_int (by have:=e.1;simp;right) ?_
  exact .ret S (e.2▸⟨_,rfl,by have:=e.1;simp [hp];right⟩) q
 |ord=>
  cases a with
  |str l=>
   obtain⟨t,rfl,ok⟩:=cs.str
   cases l with
   |nil=>cases h
   |cons k m=>
    cases m with
    |nil=>exact P.ord_of_char (.ret S (dg h▸⟨_,rfl⟩) q)
    |cons _ _=>cases h
  |_=>cases h
 |tuple=>
  cases a with
  |ref l=>
   have cs:=cs.ref
   subst cs
   have h:(match j l with|some (.list X)=>if X.length<=ay then B (V.tup X)else J|_=>J)=B r:=h
   cases e:j l with
   |none=>rw[e]at h;cases h
   |some o=>
    rw[e]at h
    cases o with
    |list X=>
     have h:=h8 h
     obtain⟨xs,t,rs⟩:=S.list e
     exact call_tuple_list t.isList (λ h' ak=>EV S ak rs (h.2▸q)) (by rw[gL, <-rs.length];exact lZ h.1)
    |_=>cases h
  |_=>cases h
end
end
section
open PySem PySem.W PyProof.Rows Builtin.Str
theorem b3.inv1{h:b1}{j:Mine.St}{v:V}{xs:List aZ}(r:b3 h j [v] xs): ∃x,xs=[x]/\bk h j v x:=by
 obtain⟨y,ys,rfl,a,q⟩:=r.inv
 exact⟨y,by rw[q.nI],a⟩
theorem b3.inv2{h:b1}{j:Mine.St}{v u:V}{xs:List aZ}(r:b3 h j [v,u] xs): ∃x y,xs=[x,y]/\bk h j v x/\bk h j u y:=by
 obtain⟨y,ys,rfl,a,q⟩:=r.inv
 obtain⟨z,rfl,b⟩:=q.inv1
 exact⟨y,z,rfl,a,b⟩
theorem Kt(l:List Nat)(c p i:Nat)(h:vx l c p=B i): ∃b5,occurrences ⟨l.toArray⟩ ⟨#[c]⟩ p (⟨l.toArray⟩:Str).length 1=i::b5:=by
 obtain⟨aU,Y,rfl⟩:=jF h
 obtain⟨fb,Z,aE⟩:=Ku.mp Y
 have EX: ∀k,X3 ⟨l.toArray⟩ ⟨#[c]⟩ (⟨l.toArray⟩:Str).length k↔l[k]?=B c:= λ k=>by
  unfold X3
  rw[StrLaws.subAt_one]
 have get:l[aU+p]?=B c:=by
  have:(l.drop p)[aU]?=B c:=by rw[hi fb,beq_iff_eq.mp Z]
  rw[EY,hS]at this;exact this
 rcases StrLaws.occ_head_from ⟨l.toArray⟩ ⟨#[c]⟩ p 1 (dt _)with⟨_,q⟩|⟨i,r,e,kF,hQ,X4⟩
 .exact absurd ((EX (aU+p)).mpr get) (q _ (kG p aU))
 .have bv:=(EX i).mp hQ
  rcases Nat.lt_trichotomy i (aU+p)with cw|cw|cw
  .exfalso
   have hj:(l.drop p)[i - p]?=B c:=by rw[EY,X5 kF];exact bv
   obtain⟨kH,jk⟩:=jl.mp hj
   exact aE (i - p) (Nat.sub_lt_right_of_lt_add kF cw) (beq_iff_eq.mpr jk)
  .rw[e,cw];exact⟨r,rfl⟩
  .exact absurd ((EX _).mpr get) (X4 _ (kG p aU) cw)
theorem X6(x y:Str)(i:Int)(t u v:Tok)(k:Nat)(b5:List Nat)(h:occurrences x y (fromIndex x.length i) x.length 1=k::b5):
  Gives (Builtin.«str.index» ⟨[.str x t, .str y u, .int i v],[]⟩) (.int k):=by
 show Gives (match occurrences x y (fromIndex x.length i) (min x.length x.length) 1 with|i::_=>retInt i| []=>(do rule "str.index.not-found";raiseError "ValueError" "substring not found")) _
 rw[Nat.min_self,h]
 exact .of_eq rfl
theorem Kv:Kw ⟨(tE 97 26).toArray⟩=⟨(tE 65 26).toArray⟩:=by decide+kernel
theorem X7(l:List Nat)(k:Nat)(Y:l.head?≠B 45)(Z:l.head?≠B 43):Kx ⟨l.toArray⟩ (k:Int)=⟨(rH (k - l.length) 48++l).toArray⟩:=by
 unfold Kx
 rw[jj]
 by_cases h:(k:Int)<=(l.length:Int)
 .rw[aQ (by first|exact h|simpa using h),Ky (v3.mp h)];rfl
 .rw[aL (by first|exact h|simpa using h)]
  unfold zfilled
  have e:(⟨l.toArray⟩:Str).cps[0]?=l.head?:=by simp [List.head?_eq_getElem?]
  rw[e]
  split
  .rename_i h;exact absurd h Z
  .rename_i h;exact absurd h Y
  .unfold amk
   simp
theorem X8(l t:List Nat):Kz ⟨l.toArray⟩ ⟨t.toArray⟩=t.isPrefixOf l:=by
 unfold Kz
 rw[StrLaws.subAt_eq,jj,jj,v4]
 simp only[mN,X9,ia,decide_eq_true_eq,beq_iff_eq,List.isPrefixOf_iff_prefix]
 exact⟨λ⟨Y,Z⟩=>Z▸List.take_prefix _ _,λ h=>⟨h.length_le,(List.prefix_iff_eq_take.mp h).symm⟩⟩
section
variable{c:Cn}{s:br}{j:Mine.St}{l:List Nat}{t:Tok}{X:List V}{xs:List aZ}{Q:V->Mine.St->Prop}
theorem e2.of{h:b1}{g d tk os mL mM}{v:V}{x:aZ}(S:bN c h j)(q:Q v j)(r:bk h j v x):e2 c j ⟨h,g,mL,mM,os⟩ Q x ⟨h,g,d,tk,os⟩:= .ret S r q
theorem Yb(ok:hp l=G)(S:bN c s.heap j)(cs:b3 s.heap j X xs)(h:tD l 3 X j Q):c.wp (call (.builtin "str.zfill") (.str ⟨l.toArray⟩ t::xs)) (e2 c j s Q) s:=by
 cases X with
 |nil=>exact h.elim
 |cons v r=>
  cases v with
  |int k=>
   cases r with
   |nil=>
    obtain⟨x,rfl,u,rfl⟩:=cs.inv1
    obtain⟨bX,Y,Z,aE,bv,q⟩:=h
    obtain⟨k,rfl⟩:=t0 bX
    have aT:PadOk (k:Int)=G:=by
     unfold PadOk fitsSsize tooLong
     simp [EM];clear q cs Z aE bv;right
    refine zp Yc (o6 _ _ _) PySem.F.entry_str_zfill (PySem.F.args_str_zfill_2 _ _) (gives_str_zfill _ _ t u (KA aT).1 (KA aT).2) ?_
    refine post_val_or_made (fits_zfilled (KA aT).2) λ t' gj=>?_
    show e2 c j s Q (.str (Kx ⟨l.toArray⟩ (k:Int)) t') _
    rw[X7 l k aE bv]
    exact .of S q ⟨_,rfl,Km (Ks λ c ap=>by rw[List.eq_of_mem_replicate ap];decide) ok⟩
   |cons _ _=>exact h.elim
  |_=>exact h.elim
theorem Yd(S:bN c s.heap j)(cs:b3 s.heap j X xs)(h:tD l 4 X j Q):c.wp (call (.builtin "str.startswith") (.str ⟨l.toArray⟩ t::xs)) (e2 c j s Q) s:=by
 cases X with
 |nil=>exact h.elim
 |cons v r=>
  cases v with
  |str m=>
   cases r with
   |nil=>
    obtain⟨x,rfl,u,rfl,_⟩:=cs.inv1
    refine zp Ye (o6 _ _ _) PySem.F.entry_str_startswith (PySem.F.args_str_startswith_2 _ _) (gives_str_startswith _ _ t _) ?_
    show e2 c j s Q (.bool (Kz _ _)) _
    rw[X8]
    exact .of S h rfl
   |cons _ _=>exact h.elim
  |_=>exact h.elim
theorem Yg(S:bN c s.heap j)(cs:b3 s.heap j X xs)(h:tD l 5 X j Q):c.wp (call (.builtin "str.index") (.str ⟨l.toArray⟩ t::xs)) (e2 c j s Q) s:=by
 cases X with
 |nil=>exact h.elim
 |cons v r=>
  cases v with
  |str m=>
   cases m with
   |nil=>exact h.elim
   |cons k m=>
    cases m with
    |cons _ _=>cases r<;>exact h.elim
    |nil=>
     cases r with
     |nil=>
      obtain⟨x,rfl,u,rfl,_⟩:=cs.inv1
      obtain⟨i,bo,q⟩:=fJ h
      obtain⟨b5,e⟩:=Kt _ _ _ _ bo
      exact zp KB (o6 _ _ _) Yh (PySem.F.args_str_index_2 _ _) (gives_str_index _ _ t _ _ _ e) (.of S q ⟨_,rfl⟩)
     |cons EI r=>
      cases EI with
      |int p=>
       cases r with
       |nil=>
        obtain⟨x,y,rfl,⟨u,rfl,_⟩,w,rfl⟩:=cs.inv2
        obtain⟨bX,Y,h⟩:=h
        obtain⟨i,bo,q⟩:=fJ h
        obtain⟨b5,e⟩:=Kt _ _ _ _ bo
        have aH:fromIndex (⟨l.toArray⟩:Str).length p=p.toNat:=by
         unfold fromIndex
         rw[aL (rX.mpr bX),Int.max_eq_right bX]
        exact zp KB (o6 _ _ _) Yh (PySem.F.args_str_index_3 _ _ _) (X6 _ _ _ t _ _ _ _ (by rw[aH];exact e)) (.of S q ⟨_,rfl⟩)
       |cons _ _=>exact h.elim
      |_=>exact h.elim
  |_=>exact h.elim
theorem m_upper(S:bN c s.heap j)(cs:b3 s.heap j X xs)(h:tD l 6 X j Q):c.wp (call (.builtin "str.upper") (.str ⟨l.toArray⟩ t::xs)) (e2 c j s Q) s:=by
 cases X with
 |cons _ _=>exact h.elim
 |nil=>
  rw[cs.nI]
  obtain⟨rfl,q⟩:=h
  have ah:tooLong (Kw ⟨(tE 97 26).toArray⟩).length=U:=by rw[Kv];decide+kernel
  refine zp Yi (o6 _ _ _) PySem.F.entry_str_upper (PySem.F.args_str_upper_1 _) (gives_str_upper _ t ah) ?_
  show(Made.str (Kw ⟨(tE 97 26).toArray⟩)).post _ _
  rw[Kv]
  exact⟨by decide+kernel, .of S q ⟨_,rfl,by decide⟩⟩
end
end
section
open PySem PySem.W PyProof.Rows
section
variable{c:Cn}{s:br}{j:St}{l:Nat}{X bj:List V}{v:V}{x:aZ}{xs ys:List aZ}{Q:V->St->Prop}
theorem bk.nn{h:b1}{j:St}:bk h j .none .none:=rfl
theorem KC{h h':b1}(S:bN c h j)(e:j l=B (.list bj))(ab:tX l h h')(ah:h'.PlainList l xs.toArray)(r:b3 h j X xs):bN c h' (j.set l (.list X))/\Step c6 j h (j.set l (.list X)) h':=
 have⟨k,ah⟩:=ah
 S.put (λ b q az e=>(ab.2 b az).trans e) ⟨_,ah⟩ e (λ _ e=>nomatch e) (.inl rfl) λ st=>⟨xs,⟨k,ah⟩,r.step st d4⟩
theorem KD{h h':b1}{g d tk os mL mM}(S:bN c h j)(e:j l=B (.list bj))(ab:tX l h h')(ah:h'.PlainList l xs.toArray)(r:b3 h j X xs)(hR:bk h j v x)(q:Q v (j.set l (.list X))):e2 c j ⟨h,g,mL,mM,os⟩ Q x ⟨h',g,d,tk,os⟩:=
 have a:=KC S e ab ah r
 ⟨v,_,q,hR.step a.2 d4,a.1,a.2,rfl,rfl⟩
theorem KE(S:bN c s.heap j)(ao:j l=B (.list bj))(cs:b3 s.heap j [v] xs)(bb:bj.length<ay)(q:Q .none (j.set l (.list (bj++ [v])))):c.wp (call (.builtin "list.append") (.ref l::xs)) (e2 c j s Q) s:=by
 obtain⟨ys,ah,a5⟩:=S.list ao
 obtain⟨y,rfl,hk⟩:=cs.inv1
 exact wpAny_list_append_plain ah (λ h' gB gM=>KD S ao gM (xs:=ys++ [y]) (by rw[<-List.push_toArray];exact gB) (a5.append (.one hk)) .nn q) (by rw[gL, <-a5.length];exact lZ (k5 bb))
theorem Yj(S:bN c s.heap j)(ao:j l=B (.list bj))(bb:bj.length<ay)(ev:bj.getLast?=B v)(q:Q v (j.set l (.list bj.dropLast))):c.wp (call (.builtin "list.pop") [.ref l]) (e2 c j s Q) s:=by
 obtain⟨ys,⟨k,ah⟩,a5⟩:=S.list ao
 rw[zn,a5.length]at ev
 obtain⟨y,bJ,hk⟩:=a5.get ev
 have Y:ys.toArray.size - 1<ys.toArray.size:=(jl.mp bJ).1
 refine call_meets Yk ⟨_,ah,rfl⟩ PySem.F.entry_list_pop (PySem.F.args_list_pop_1 _) (aml _ _ k y (by rw[nN];exact bJ) ?_) ⟨ah,?_⟩
 .rw[gL, <-a5.length];exact lZ (k5 bb)
 .refine KD S ao (Yl ..) (xs:=ys.dropLast) ⟨k+1,?_⟩ a5.dropLast hk q
  have e:(ys.toArray.eraseIdxIfInBounds (ys.toArray.size - 1))=ys.dropLast.toArray:=by
   unfold Array.eraseIdxIfInBounds
   rw[dif_pos Y]
   apply Array.ext'
   simp [List.eraseIdx_length_sub_one]
  rw[EZ (zq λ xs=>xs.eraseIdxIfInBounds (ys.toArray.size - 1)) ah rfl]
  show B (zq _ ⟨_,_, .seq _ _,_⟩)=_
  simp only[zq,e]
  have Z:(ys.dropLast.toArray.size==ys.toArray.size)=U:=beq_eq_false_iff_ne.mpr (by rw[gL,Ym];exact zr Y)
  rw[Z];rfl
theorem E5{P:List V->Prop}(h:match j l with|some (.list bj)=>P bj|_=>False): ∃bj,j l=B (.list bj)/\P bj:=by
 cases e:j l with
 |none=>rw[e]at h;exact h.elim
 |some o=>
  rw[e]at h
  cases o with
  |list bj=>exact⟨bj,rfl,h⟩
  |_=>exact h.elim
theorem zs{P:List (a2×V)->Prop}(h:match j l with|some (.dict bj)=>P bj|_=>False): ∃bj,j l=B (.dict bj)/\P bj:=by
 cases e:j l with
 |none=>rw[e]at h;exact h.elim
 |some o=>
  rw[e]at h
  cases o with
  |dict bj=>exact⟨bj,rfl,h⟩
  |_=>exact h.elim
theorem KG{P:a2->Prop}(h:match v.toKey with|some k=>P k|none=>False): ∃k,v.toKey=B k/\P k:=by
 cases e:v.toKey with
 |none=>rw[e]at h;exact h.elim
 |some k=>rw[e]at h;exact⟨k,rfl,h⟩
theorem Yn(ae:c.Ok)(S:bN c s.heap j)(cs:b3 s.heap j X xs)(h:rG l X j Q):c.wp (call (.builtin "dict.get") (.ref l::xs)) (e2 c j s Q) s:=by
 cases X with
 |nil=>exact h.elim
 |cons v r=>
  cases r with
  |nil=>
   obtain⟨y,rfl,hk⟩:=cs.inv1
   obtain⟨kvs,ao,h⟩:=zs (P:= λ kvs=>match v.toKey with|some k=>eg kvs k=G/\Q ((dJ kvs k).getD .none) j|none=>False) h
   obtain⟨k,ak,f,q⟩:=KG (P:= λ k=>eg kvs k=G/\Q ((dJ kvs k).getD .none) j) h
   exact(Kd (z:=y) ae (v0 ae S ao) (S.dict ao) f (vZ hk ak) (tZ (S.dict ao))).1 λ y tk hk=>⟨_,j,q,hk,S,Step.refl,rfl,rfl⟩
  |cons u r=>
   cases r with
   |nil=>
    obtain⟨y,z,rfl,hk,j4⟩:=cs.inv2
    obtain⟨kvs,ao,h⟩:=zs (P:= λ kvs=>match v.toKey with|some k=>eg kvs k=G/\Q ((dJ kvs k).getD u) j|none=>False) h
    obtain⟨k,ak,f,q⟩:=KG (P:= λ k=>eg kvs k=G/\Q ((dJ kvs k).getD u) j) h
    exact(Kd ae (v0 ae S ao) (S.dict ao) f (vZ hk ak) (tZ (S.dict ao))).2 u j4 λ y tk hk=>⟨_,j,q,hk,S,Step.refl,rfl,rfl⟩
   |cons _ _=>exact h.elim
end
section
variable{c:Cn}{s:br}{j D:St}{o i v:V}{x y z:aZ}{Q:Unit->br->Prop}
theorem Yo{l:Nat}{items:Array aZ}{k:Int}{t:Tok}{v:aZ}(ah:s.heap.PlainList l items)(bX:0<=k)(KH:k<2^63)(aq:k<items.size)
  (kI: ∀h',h'.PlainList l (items.setIfInBounds k.toNat v)->tX l s.heap h'->Q () { s with heap:=h' }):c.wp (setItem (.ref l) (.int k t) v) Q s:=by
 obtain⟨ne,ba⟩:=id ah
 unfold setItem
 refine jH ?_
 refine cE (wpAny_sequenceKey ah.isList.typeIs (by decide) ?_)
 refine cE (wpAny_callSpecial?_slot (name:=bu "__setitem__") ah.isList.typeIs Yp
  (wpAny_call_entry Yp ah.isList.typeIs entry_list_setitem ?_ (args_list_setitem _ _ _)))
 show wpAny _ _ (amm (.int k t)>>=_) _ _ s
 refine cE (wpAny_listSubscript_int (fitsIndex_of bX KH) ?_)
 clear KH
 obtain⟨aU,rfl⟩:=t0 bX
 have fb:aU<items.size:=o5.mp aq
 show wpAny _ _ ((seqItemAt l aU>>= λ r=>pure (r.map (aU,·)))>>=_) _ _ s
 refine cE (cE (wpAny_seqItemAt ba rfl (fv ?_)))
 rw[Array.getElem?_eq_getElem fb]
 show wpAny _ _ (setSeqItemAt l aU v>>=_) _ _ s
 have Yq:(s.heap.update l (zq (·.setIfInBounds aU v))).PlainList l (items.setIfInBounds aU v):=by
  refine⟨ne,(EZ _ ba rfl).trans ?_⟩
  simp [zq]
 exact cE (wpAny_setSeqItemAt ba rfl (fv ⟨.none,rfl,fv (kI _ Yq (Yl ..))⟩))
theorem Yr{l:Nat}(h:nA j (.ref l) i v=B D):(∃X k,j l=B (.list X)/\i= .int k/\(kx X.length k).map (λ aU=>j.set l (.list (X.set aU v)))=B D)\/
  ∃kvs k,j l=B (.dict kvs)/\i.toKey=B k/\(eg kvs k=G/\kvs.length<ay)/\j.set l (.dict (ha kvs k v))=D:=by
 have h:(match j l with|some (.list X)=>(match(generalizing:=false) i with| .int k=>(kx X.length k).map (λ aU=>j.set l (.list (X.set aU v)))|_=>J)|some (.dict kvs)=>i.toKey.bind λ k=>if eg kvs k/\kvs.length<ay then B (j.set l (.dict (ha kvs k v)))else J|_=>J)=B D:=h
 cases e:j l with
 |none=>rw[e]at h;cases h
 |some o=>
  rw[e]at h
  cases o with
  |list X=>
   cases i with
   |int k=>exact .inl ⟨X,k,rfl,rfl,h⟩
   |_=>cases h
  |dict kvs=>
   obtain⟨k,ak,h⟩:=l0 h
   exact .inr ⟨kvs,k,rfl,ak,h8 h⟩
  |_=>cases h
theorem KI(ae:c.Ok)(S:bN c s.heap j)(fi:bk s.heap j o x)(k8:bk s.heap j i y)(hR:bk s.heap j v z)(h:nA j o i v=B D)
  (q: ∀h' tk,bN c h' D->Step c6 j s.heap D h'->Q () { s with heap:=h',toks:=tk }):c.wp (setItem x y z) Q s:=by
 cases o with
 |ref l=>
  have fi:=fi.ref
  subst fi
  rcases Yr h with⟨X,k,ao,rfl,Z⟩|⟨kvs,k,ao,ak,⟨f,bb⟩,Z⟩
  .obtain ⟨aU,fb,rfl⟩:=jF Z
   obtain⟨⟨j5,ed,eQ⟩,rfl⟩:=zl fb
   obtain⟨xs,ah,r⟩:=S.list ao
   obtain⟨u,rfl⟩:=k8.int
   refine Yo ah j5 (fits63 eQ) (by rw[gL, <-r.length];exact ed) λ h' gB gM=>?_
   have a:=KC S ao gM (xs:=xs.set k.toNat z) (by rw[List.setIfInBounds_toArray]at gB;exact gB) (r.set hR k.toNat)
   exact q h' s.toks a.1 a.2
  .subst Z
   exact XE ae S ao f bb (vZ k8 ak) hR q
 |_=>cases h
end
theorem Ys:jY.Nodup:=by decide+kernel
theorem Yt{n m:Nat}(aq:n<jY.length)(aG:m<jY.length)(e:d2 n=d2 m):n=m:=by
 unfold d2 at e
 rw[E6,E6,hi aq,hi aG]at e
 exact(List.getElem_inj Ys).mp e
structure Yu(K:Frag)(ae n:Nat):Prop where
 lt:n<jY.length
 get:plainGet K ae (d2 n)=G
 dict:hasDictIn K ae=G
 no:findIn K (.ref ae) (d2 n)=B J
 set:findIn K (.ref ae) "__setattr__" =B (B (.builtin "object.__setattr__"))
 over:plainOver K ae=G
noncomputable def t1(K:Frag)(ae n:Nat):Bool:=decide (n<jY.length)&&(plainGet K ae (d2 n)&&(hasDictIn K ae&&((findIn K (.ref ae) (d2 n)==B J)&&((findIn K (.ref ae) "__setattr__" ==B (B (.builtin "object.__setattr__")))&&plainOver K ae))))
theorem aV{a b:Bool}(h:(a&&b)=G):a=G/\b=G:=kv.mp h
theorem KJ{K:Frag}{ae n:Nat}(h:t1 K ae n=G):Yu K ae n:=by
 obtain⟨Y,h⟩:=aV h
 obtain⟨Z,h⟩:=aV h
 obtain⟨aE,h⟩:=aV h
 obtain⟨bv,h⟩:=aV h
 obtain⟨cw,h⟩:=aV h
 exact⟨of_decide_eq_true Y,Z,aE,beq_iff_eq.mp bv,beq_iff_eq.mp cw,h⟩
section
variable{h:b1}{j:St}
theorem iY.inv{m:Nat}{u:V}{a9:List (Nat×V)}{es:List DictEntry}(r:iY h j ((m,u)::a9) es): ∃e t2,es=e::t2/\m<jY.length/\(∃t,e.key= .str (d2 m) t)/\bk h j u e.val/\iY h j a9 t2:=r
theorem KL{e:DictEntry}{m n:Nat}(a:m<jY.length)(aq:n<jY.length)(b: ∃t,e.key= .str (d2 m) t):e.key.isStr (d2 n)=decide (n=m):=by
 obtain⟨t,b⟩:=b
 rw[b]
 show(d2 m==d2 n)=_
 by_cases q:n=m
 .rw[q,ce rfl];exact beq_self_eq_true _
 .rw[bW q];exact beq_eq_false_iff_ne.mpr λ z=>q (Yt aq a z.symm)
theorem KM{n:Nat}(aq:n<jY.length)(a9:List (Nat×V)): ∀es,iY h j a9 es->es.any (·.refKey)=U/\((a9.lookup n=J/\es.find? (λ x=>x.key.isStr (d2 n))=J)\/ ∃v e,a9.lookup n=B v/\es.find? (λ x=>x.key.isStr (d2 n))=B e/\bk h j v e.val):=
 List.rec (motive:= λ a9=> ∀es,iY h j a9 es->es.any (·.refKey)=U/\((a9.lookup n=J/\es.find? (λ x=>x.key.isStr (d2 n))=J)\/ ∃v e,a9.lookup n=B v/\es.find? (λ x=>x.key.isStr (d2 n))=B e/\bk h j v e.val))
  (λ es r=>by rw[show es=[]from r];exact⟨rfl, .inl ⟨rfl,rfl⟩⟩)
  (λ f a9 aB es r=>by
   obtain⟨m,u⟩:=f
   obtain⟨e,es,rfl,a,b,q,r⟩:=r.inv
   obtain⟨gz,fU⟩:=aB es r
   refine⟨?_,?_⟩
   .rw[Ez,gz,zt]
    obtain⟨t,b⟩:=b
    unfold DictEntry.refKey
    rw[b]
   .rw[j6,JY,KL a aq b]
    by_cases z:n=m
    .rw[ce z,beq_iff_eq.mpr z];exact .inr ⟨u,e,rfl,rfl,q⟩
    .rw[bW z,beq_eq_false_iff_ne.mpr z];exact fU) a9
theorem KN{a9:List (Nat×V)}{es:List DictEntry}(r:iY h j a9 es){n:Nat}(aq:n<jY.length):(a9.lookup n=J->getL (d2 n) es=B J)/\ ∀v,a9.lookup n=B v-> ∃x,getL (d2 n) es=B (B x)/\bk h j v x:=by
 obtain⟨gz,fU⟩:=KM aq a9 es r
 unfold getL
 rcases fU with⟨ao,aH⟩|⟨v,e,ao,aH,q⟩
 .rw[aH]
  dsimp only
  rw[gz]
  exact⟨λ _=>rfl,λ v e=>by rw[ao]at e;cases e⟩
 .rw[aH]
  exact⟨(λ z=>by rw[ao]at z;cases z),λ o8 z=>⟨_,rfl,dg (ao.symm.trans z)▸q⟩⟩
theorem KO{n:Nat}(aq:n<jY.length){v:V}{x:aZ}(hR:bk h j v x)(eM:Int)(t:Tok)(a9:List (Nat×V)): ∀es,iY h j a9 es->iY h j (hN a9 n v) (putL (d2 n) eM (.str (d2 n) t) x es)/\es.length=a9.length:=
 List.rec (motive:= λ a9=> ∀es,iY h j a9 es->iY h j (hN a9 n v) (putL (d2 n) eM (.str (d2 n) t) x es)/\es.length=a9.length)
  (λ es r=>by rw[show es=[]from r];exact⟨⟨_,[],rfl,aq,⟨t,rfl⟩,hR,rfl⟩,rfl⟩)
  (λ f a9 aB es r=>by
   obtain⟨m,u⟩:=f
   obtain⟨e,es,rfl,a,b,q,r⟩:=r.inv
   obtain⟨gz,fU⟩:=aB es r
   refine⟨?_,congrArg oY fU⟩
   show iY h j (if m=n then(n,v)::a9 else(m,u)::hN a9 n v) (if e.key.isStr (d2 n)=G then _ else _)
   rw[KL a aq b]
   by_cases z:m=n
   .subst z
    rw[aQ rfl,aQ (ce rfl)];exact⟨_,es,rfl,aq,b,hR,r⟩
   .rw[aL z,aL (λ w=>z (of_decide_eq_true w).symm)];exact⟨_,_,rfl,a,b,q,gz⟩) a9
theorem Yv{v:V}{x:aZ}(r:bk h j v x):handedIn x=G:=by
 cases v with
 |none=>rw[show x= .none from r];rfl
 |bool b=>rw[show x= .bool b from r];rfl
 |int i=>obtain⟨t,rfl⟩:=r.int;rfl
 |str l=>obtain⟨t,rfl,_⟩:=r.str;rfl
 |tup X=>obtain⟨l,xs,rfl,_⟩:=r.tup;rfl
 |ref l=>rw[r.ref];rfl
 |fi X=>obtain⟨l,xs,rfl,_⟩:=r.fi;rfl
end
section
variable{c:Cn}{K:Frag}{P:em}{s:br}{j:St}{a v:V}{x y:aZ}{m:Nat}
theorem E7{h:b1}{x ae bL:Nat}{a9}(S:bN c h j)(e:j x=B (.inst ae bL a9)):
  ∃es k,InstAt h x (instObj ae bL) ae (B (dictOf es k))/\h.get? bL=B (dictOf es k)/\iY h j a9 es/\j bL=B (.owned x):=by
 obtain⟨ao,aH,es,k,cG,r⟩:=S.inst e
 exact⟨es,k,⟨ao,rfl,rfl,cG⟩,cG,r,aH⟩
theorem KP{l:Nat}{R:Nat->Nat->List (Nat×V)->Prop}(h:match j l with|some (.inst ae bL a9)=>R ae bL a9|_=>False): ∃ae bL a9,j l=B (.inst ae bL a9)/\R ae bL a9:=by
 cases e:j l with
 |none=>rw[e]at h;exact h.elim
 |some o=>
  rw[e]at h
  cases o with
  |inst ae bL a9=>exact⟨ae,bL,a9,rfl,h⟩
  |_=>exact h.elim
theorem Yw{Q:V->St->Prop}(zu:K.In c.eE)(aA: ∀ae n,P.jX ae n=G->t1 K ae n=G)(S:bN c s.heap j)(cs:bk s.heap j a x)(h:vB P a m j Q){expr:Bool}:c.wp (getAttr x (d2 m) expr) (e2 c j s Q) s:=by
 cases a with
 |ref l=>
  have cs:=cs.ref
  subst cs
  obtain⟨ae,bL,a9,ao,eR,h⟩:=KP (R:= λ ae _ a9=>P.jX ae m=G/\b9 (a9.lookup m) λ v=>Q v j) h
  obtain⟨v,bF,q⟩:=fJ h
  have eR:=KJ (aA _ _ eR)
  obtain⟨es,k,aW,_,r,_⟩:=E7 S ao
  obtain⟨y,bJ,hk⟩:=(KN r eR.lt).2 v bF
  exact get_value (zu.keeps S.base) aW (KQ eR.get).1 (findObj_own eR.dict eR.no rfl bJ) (Yv hk) ⟨_,j,q,hk,S,Step.refl,rfl,rfl⟩
 |_=>exact h.elim
theorem Yx(nm:Str)(eM:Int)(k v:aZ)(es:List DictEntry):(putL nm eM k v es).length<=es.length+1:=
 List.rec (motive:= λ es=>(putL nm eM k v es).length<=es.length+1) (dt _) (λ e r aB=>by
  show(if e.key.isStr nm=G then _ else _:List DictEntry).length<=_
  by_cases q:e.key.isStr nm=G
  .rw[aQ q];exact jm _
  .rw[aL q];exact jI aB) es
theorem Yy{x ae bL:Nat}{es:List DictEntry}{k:Nat}{name:Str}{tk:Tok}{v:aZ}{R:Result->br->Prop}(a7:K.In s.heap)(aW:InstAt s.heap x (instObj ae bL) ae (B (dictOf es k)))
  (ag:s.heap.get? bL=B (dictOf es k)) (aT:plainOver K ae=G) (aN:takerIn K ae name=B J) (gp:hasDictIn K ae=G) (ah:es.any (·.refKey)=U) (bb:es.length<900)
  (h:R (.ok (.ret .none)) { s with heap:=s.heap.update bL (E8 name (zv c.w.params name) (.str name s.toks) v),toks:=s.toks+1 }):
  codeAny (model c.prog c.w) c.A (.call (.builtin "object.__setattr__") ⟨[.ref x, .str name tk,v],[]⟩) R s:=by
 refine osa_open a7 aW aT aN λ b=>?_
 obtain⟨ek,t3,rZ⟩:=any_some gp
 have zw:=EZ (E8 name (zv c.w.params name) (.str name s.toks) v) ag (by rw[E9];rfl)
 refine cE (fv (cE (cE (Yz aW.at_ (cE ((looks_clsIn a7 t3).here ?_))))))
 rw[rZ]
 refine fv (a:=B bL) (cE (fv (cE ?_)))
 unfold nsSet
 refine cE (cE (wpAny_askSetting (fv (cE (wpAny_mkText (cE (Yz ag ?_)))))))
 have ap:(!es.toArray.any (·.key.isStr name)&&es.toArray.any (·.refKey))=U:=by
  rw[<-YA, <-YA]
  exact Kl.mpr (.inr ah)
 dsimp only
 rw[aRefKeyMayBeTheName_at,ap]
 refine wpAny_updatePart ag (cE (wpAny_lookBehind zw ?_ (fv h)))
 rw[E9]
 exact pastItsLine_dict (by have:=Yx name (zv c.w.params name) (.str name s.toks) v es;rw[gL,EM];right)
theorem YB{Q:Unit->br->Prop}{Fa:St->Prop}(zu:K.In c.eE)(aA: ∀ae n,P.jX ae n=G->t1 K ae n=G)(S:bN c s.heap j)(fi:bk s.heap j a x)(hR:bk s.heap j v y)(h:vC P a m v j Fa)
  (q: ∀D h' tk,Fa D->bN c h' D->Step c6 j s.heap D h'->Q () { s with heap:=h',toks:=tk }):c.wp (setAttr x (d2 m) y) Q s:=by
 cases a with
 |ref l=>
  have fi:=fi.ref
  subst fi
  obtain⟨ae,bL,a9,ao,eR,jG,ak⟩:=KP (R:= λ ae bL a9=>P.jX ae m=G/\a9.length<100/\Fa (j.set l (.inst ae bL (hN a9 m v)))) h
  have eR:=KJ (aA _ _ eR)
  obtain⟨es,k,aW,ag,r,Fb⟩:=E7 S ao
  have aN:takerIn K ae (d2 m)=B J:=by unfold takerIn;rw[eR.no];rfl
  have ah:=(KO eR.lt hR 0 0 a9 es r).2
  refine set_plain (zu.keeps S.base) aW eR.set (Yy (s:={ s with toks:=s.toks+1 }) (zu.keeps S.base) aW ag eR.over aN eR.dict (KM eR.lt a9 es r).1 (by rw[ah];exact h9 jG (by decide)) ?_)
  dsimp only
  have zw:=EZ (E8 (d2 m) (zv c.w.params (d2 m)) (.str (d2 m) (s.toks+1)) y) ag (by rw[E9];rfl)
  have KR:l≠bL:= λ z=>by rw[z,Fb]at ao;cases ao
  have v2: ∀b q,b≠bL->s.heap.get? b=B q->(s.heap.update bL (E8 (d2 m) (zv c.w.params (d2 m)) (.str (d2 m) (s.toks+1)) y)).get? b=B q:=
   λ b q az e=>(Heap.get?_update_other _ _ (Fc az)).trans e
  have a:=S.put (o:= .inst ae bL (hN a9 m v)) v2 ⟨_,zw⟩ ao (λ _ e=>nomatch e) (.inr Fb) λ st=>
   ⟨v2 _ _ KR aW.at_,(St.j3 j _ (Fc KR)).trans Fb,_,_,by rw[zw,E9],((KO eR.lt hR _ _ a9 es r).1.step st d4 _ _)⟩
  exact q _ _ _ ak a.1 a.2
 |_=>exact h.elim
end
end
section
open PySem PySem.W PyProof.Rows Builtin.Str
theorem YC(a b len:Nat):strSliceIndices (B (a:Int)) (B (b:Int)) 1 len=strSliceIndices (B ((min a len:Nat):Int)) (B ((min b len:Nat):Int)) 1 len:=by
 have h: ∀n:Nat, ¬((n:Int)<0):= λ n=>rX.mpr (k6 n)
 have e: ∀n:Nat,min (n:Int) len=min ((min n len:Nat):Int) len:= λ n=>(KS n len).elim (λ q=>by rw[v5 q]) λ q=>by rw[KU q,Int.min_eq_right (v3.mpr q),Int.min_self]
 simp only[strSliceIndices,h,if_false,show((1:Int)>0)=True from by simp,if_true,e a,e b]
theorem YD{l:List Nat}{a b:Nat}(k9:a<=b):(strSliceIndices (B (a:Int)) (B (b:Int)) 1 (⟨l.toArray⟩:Str).length).filterMap ((⟨l.toArray⟩:Str).cps[·]?)=(l.take b).drop a/\
  (strSliceIndices (B (a:Int)) (B (b:Int)) 1 (⟨l.toArray⟩:Str).length).length=((l.take b).drop a).length:=by
 have Y:min a l.length<=min b l.length:=Nat.le_min.mpr ⟨ca (YE _ _) k9,Ka _ _⟩
 have Z:min b l.length<=l.length:=Ka _ _
 rw[jj,YC]
 refine⟨?_,?_⟩
 .have:=StrLaws.sliced_plain ⟨l.toArray⟩ Y (by rw[jj];exact Z)
  rw[jj]at this
  rw[this, <-KV,show l.take (min b l.length)=l.take b by rw[<-YF,YG]]
  rcases KS a l.length with aI|aI
  .rw[v5 aI]
  .rw[KU aI,Fd (ca (YH b l) (dt _)),Fd (ca (YH b l) aI)]
 .rw[StrLaws.strSliceIndices_plain Y Z,c2,Fe,KW,zx]
  rcases KS a l.length with aI|aI
  .rw[v5 aI]
  .rw[KU aI,Ky Z,Ky (ca Z aI)]
theorem YI{c:Cn}{s:br}{l:List Nat}{t:Tok}{a b:Int}{u v:Tok}{e6:Nat}{Q:aZ->br->Prop}(bX:0<=a)(k9:a<=b)(ah:l.length<=ay)(YJ:s.heap.IsSlice e6 (B (a,u)) (B (b,v)) J)
  (q: ∀t' tk,Q (.str ⟨((l.take b.toNat).drop a.toNat).toArray⟩ t') { s with toks:=tk }):c.wp (getItem (.str ⟨l.toArray⟩ t) (.ref e6)) Q s:=by
 obtain⟨a,rfl⟩:=t0 bX
 obtain⟨b,rfl⟩:=t0 (Kn bX k9)
 obtain⟨e,aH⟩:=YD (l:=l) (v3.mp k9)
 have sub:((l.take b).drop a).Sublist l:=(List.drop_sublist _ _).trans (List.take_sublist _ _)
 refine wpAny_getItem_str_slice YJ rfl ?_
 unfold sliceMade slicePicked
 dsimp only[YK,Option.map_none,KX]
 refine post_val_or_str ⟨?_,λ t' k=>?_⟩
 .split
  .rw[jj];exact lZ ah
  .rw[e,jj];exact lZ (ca sub.length_le ah)
 .split
  .rename_i ap
   have ap:=(aV ap).2
   rw[beq_iff_eq,aH,jj]at ap
   have:=q t' k
   simp only[Ff]at this
   rw[sub.eq_of_length ap]at this
   exact this
  .rw[e];exact q t' k
theorem YL{l:List Nat}(ok:hp l=G)(a b:Nat):hp ((l.take a).drop b)=G:=
 hh.mpr λ x aJ=>hh.mp ok x (List.mem_of_mem_take (List.mem_of_mem_drop aJ))
end
section
open PySem PySem.W PyProof.Rows
inductive bI where
 |fn (a:Nat)|ea (v:V)|cq (b:dy)|divmod|range|reversed
structure dQ where
 names:List Str
 scope:Scope
 cL:List (Str×bI)
noncomputable def dQ.at(aa:dQ)(x:Str):Option Nat:=if(aa.scope.names.lookup x==B .local||(aa.scope.names.lookup x==B .cell||aa.scope.names.lookup x==B .free))=G then aa.names.findIdx? (· ==x)else J
noncomputable def dQ.glob(aa:dQ)(x:Str):Option bI:=if(aa.scope.names.lookup x==B .globalImplicit&&!(x==("__debug__" :Str)))=G then aa.cL.lookup x else J
inductive o9(env:Env)(h:b1)(x:Str)(y:aZ):Prop
 |loc (m):env.kindOf x=B .local->h.Ns env.locals m->m x=B y->o9 env h x y
 |cell (c:Nat):(env.kindOf x=B .cell\/env.kindOf x=B .free/\(x==("__classdict__" :Str))=U)->env.cells.lookup x=B c->h.IsCell c (B y)->o9 env h x y
def fw(env:Env)(b:Nat):Prop:=b=env.locals\/ ∃x,env.cells.lookup x=B b
structure j7(aa:dQ)(env:Env)(E:ax)(j:St)(h:b1):Prop where
 kind:env.scope.kind= .function
 glob:env.globals=mainGlobals
 v7:env.builtins=builtinsNs
 imp: ∀x,aa.scope.names.lookup x=B .globalImplicit->env.kindOf x=B .globalImplicit
 get: ∀x i v,aa.at x=B i->E[i]?=B (B v)-> ∃y,o9 env h x y/\bk h j v y
 apart: ∀b,fw env b->j b=J
 live: ∀b,fw env b-> ∃o,h.get? b=B o
 cells: ∀x,aa.scope.names.lookup x=B .cell->env.kindOf x=B .cell/\ ∃c,env.cells.lookup x=B c
section
variable{aa:dQ}{env:Env}{E:ax}{j D:St}{h h':b1}{x:Str}{y:aZ}{F:Nat->Prop}
theorem Ns.of_same{a:Nat}{m}(n:h.Ns a m)(e: ∀o,h.get? a=B o->h'.get? a=B o):h'.Ns a m:=by
 obtain⟨o,es,db,ba,r⟩:=n
 exact⟨o,es,db,e o ba,r⟩
theorem o9.keep(a:o9 env h x y)(k: ∀b,fw env b-> ∀o,h.get? b=B o->h'.get? b=B o):o9 env h' x y:=by
 rcases a with⟨m,q,n,e⟩|⟨c,q,e,⟨o,ba,hd⟩⟩
 .exact .loc m q (Ns.of_same n (k _ (.inl rfl))) e
 .exact .cell c q e ⟨o,k _ (.inr ⟨x,e⟩) o ba,hd⟩
theorem j7.pa(f:j7 aa env E j h)(st:Step F j h D h')(dM:gA F h)(nP: ∀b,fw env b-> ¬F b):j7 aa env E D h' where
 kind:=f.kind
 glob:=f.glob
 v7:=f.v7
 imp:=f.imp
 get:= λ x i v a e=>by
  obtain⟨y,n,r⟩:=f.get x i v a e
  exact⟨y,n.keep (λ b az o ba=>st.keep _ _ ba (f.apart b az) (nP b az)),r.step st dM⟩
 apart:= λ b az=>by obtain⟨o,ba⟩:=f.live b az;exact st.k4 _ _ ba (f.apart b az) (nP b az)
 live:= λ b az=>by obtain⟨o,ba⟩:=f.live b az;exact st.old _ _ ba (nP b az)
 cells:=f.cells
theorem j7.step(f:j7 aa env E j h)(st:Step c6 j h D h'):j7 aa env E D h':=f.pa st d4 λ _ _=>id
end
def zy(h:b1)(j:St)(y:aZ)(g:bI):Prop:=g.casesOn (λ a=>y= .ref a) (λ v=>bk h j v y) (λ b=>y=zo b) (y= .builtin "divmod") (y= .type "range") (y= .type "reversed")
structure v6(P:Params)(cL:List (Str×bI))(K:Frag)(eE:b1):Prop where
 r0:K.In eE
 Ew: ∃q,eE.get? sysModules=B q
 nolimit:eE.NoLimit
 names: ∃gC jn,eE.Ns mainGlobals gC/\eE.Ns builtinsNs jn/\ ∀x g,cL.lookup x=B g-> ∃y,(gC x=B y\/gC x=J/\jn x=B y)/\zy eE (λ _=>J) y g
section
variable{c:Cn}{K:Frag}{s:br}{j:St}{aa:dQ}{env:Env}{E:ax}{x:Str}{pos:Pos}{Q:aZ->br->Prop}
theorem bN.YM(S:bN c s.heap j):Step c6 (λ _=>J) c.eE j s.heap:=⟨λ a o e _ _=>S.base a o e,λ a o e _ _=>S.low a o e,λ a o e _=>⟨o,S.base a o e⟩⟩
theorem YN{i:Nat}{v:V}(f:j7 aa env E j s.heap)(hd:(x==("__debug__" :Str))=U)(a:aa.at x=B i)(e:E[i]?=B (B v))(h: ∀y,bk s.heap j v y->Q y s):c.wp (eval (.Name x pos) env) Q s:=by
 obtain⟨y,n,r⟩:=f.get x i v a e
 refine wpAny_Name ?_ hd
 rcases n with⟨m,k,n,e⟩|⟨b,k|⟨k,eQ⟩,e,fW⟩
 .exact YO f.kind k n e (h y r)
 .exact YQ f.kind k e fW (h y r)
 .exact YR f.kind k e fW (h y r) eQ
theorem v8{g:bI}(b:v6 c.w.params aa.cL K c.eE)(S:bN c s.heap j)(f:j7 aa env E j s.heap)(e:aa.glob x=B g)(h: ∀y,zy s.heap j y g->Q y s):c.wp (eval (.Name x pos) env) Q s:=by
 unfold dQ.glob at e
 by_cases ap:(aa.scope.names.lookup x==B .globalImplicit&&!(x==("__debug__" :Str)))=G
 .rw[aQ ap]at e
  obtain⟨ao,aH⟩:=aV ap
  obtain⟨gC,jn,ib,i0,k⟩:=b.names
  obtain⟨y,bJ,aM⟩:=k x g e
  have kI:Q y s:=h y (by
   cases g with
   |ea v=>exact bk.step S.YM d4 aM
   |_=>exact aM)
  have KY:s.heap.Ns env.globals gC:=by rw[f.glob];exact ib.keeps S.base
  refine Calls.Name_function_global f.kind (f.imp _ (beq_iff_eq.mp ao)) ?_ ((r1 _).mp aH)
  rcases bJ with bJ|⟨bJ,az⟩
  .exact Calls.loadGlobal_global KY bJ kI
  .exact Calls.loadGlobal_builtin KY bJ (by rw[f.v7];exact i0.keeps S.base) az kI
 .rw[aL ap]at e;cases e
end
noncomputable def zz(K:Frag)(ae n f:Nat):Bool:=decide (n<jY.length)&&(plainGet K ae (d2 n)&&((findIn K (.ref ae) (d2 n)==B (B (.ref f)))&&isFn K (.ref f)))
structure kJ extends Cn where
 K:Frag
 P:em
 cL:List (Str×bI)
structure kJ.Ok(d:kJ):Prop where
 ok:d.toCn.Ok
 base:v6 d.w.params d.cL d.K d.eE
 jX: ∀ae n,d.P.jX ae n=G->t1 d.K ae n=G
 mx: ∀ae n f,d.P.tB ae n=B f->zz d.K ae n f=G
 call: ∀f X j Q,d.P.tC f X j Q->keepIn d.K (.ref f)=G/\ ∀s xs,b3 s.heap j X xs->bN d.toCn s.heap j->d.toCn.wp (call (.ref f) xs) (e2 d.toCn j s Q) s
structure dc where
 d:kJ
 aa:dQ
 env:Env
structure dc.At(p:dc)(E:ax)(j:St)(h:b1):Prop where
 la:j7 p.aa p.env E j h
 bV:bN p.d.toCn h j
abbrev dc.wp(p:dc){α:Type}(m:Sem α)(Q:α->br->Prop)(s:br):Prop:=p.d.toCn.wp m Q s
def v9(c:Cn)(j:St)(s:br)(Q:Bool->St->Prop)(b:Bool)(s':br):Prop:= ∃D,Q b D/\bN c s'.heap D/\cN c6 j s D s'
def YS(c:Cn)(n:Nat)(j:St)(s:br)(Q:List V->St->Prop)(xs:List aZ)(s':br):Prop:= ∃X D,Q X D/\xs.length=n/\b3 s'.heap D X xs/\bN c s'.heap D/\cN c6 j s D s'
section
variable(p:dc)
def cB(e:bh)(T:b6):Prop:= ∀s j E Q,p.At E j s.heap->T E j Q->p.wp (eval e p.env) (e2 p.d.toCn j s Q) s
def gb(e:bh)(T:ST):Prop:= ∀s j E Q,p.At E j s.heap->T E j Q->p.wp (isTrue e p.env (eval e p.env)) (v9 p.d.toCn j s Q) s
def jJ(es:List bh)(T:SL):Prop:= ∀s j E Q pos,p.At E j s.heap->T E j Q->p.wp (spliced (backTo pos (starEach es p.env))) (YS p.d.toCn es.length j s Q) s
end
section
variable{p:dc}{s:br}{j cR:St}{E:ax}{h nQ:b1}
theorem e2.pre{c:Cn}{Q:V->St->Prop}{v:aZ}{cT s':br}(q:e2 c cR cT Q v s')(st:cN c6 j s cR cT):e2 c j s Q v s':=by
 obtain⟨V,D,a,b,c,d⟩:=q;exact⟨V,D,a,b,c,st.trans d⟩
theorem v9.pre{c:Cn}{Q:Bool->St->Prop}{v:Bool}{cT s':br}(q:v9 c cR cT Q v s')(st:cN c6 j s cR cT):v9 c j s Q v s':=by
 obtain⟨D,a,c,d⟩:=q;exact⟨D,a,c,st.trans d⟩
theorem dc.At.step(a:p.At E j h)(S:bN p.d.toCn nQ cR)(st:Step c6 j h cR nQ):p.At E cR nQ:=⟨a.la.step st,S⟩
theorem mono{α:Type}{m:Sem α}{Q R:α->br->Prop}(a:p.wp m Q s)(k: ∀x s',Q x s'->R x s'):p.wp m R s:=t4 a k λ _ _ e=>e
theorem cB.then{e:bh}{T:b6}{Q:V->St->Prop}{R:aZ->br->Prop}(aF:cB p e T)(a:p.At E j s.heap)(t:T E j Q)
  (k: ∀v cR x cT,Q v cR->bk cT.heap cR v x->p.At E cR cT.heap->cN c6 j s cR cT->R x cT):p.wp (eval e p.env) R s:=
 mono (aF s j E Q a t) λ x cT q=>by obtain⟨v,cR,q,r,S,st⟩:=q;exact k v cR x cT q r (a.step S st.h) st
theorem gb.then{e:bh}{T:ST}{Q:Bool->St->Prop}{R:Bool->br->Prop}(aF:gb p e T)(a:p.At E j s.heap)(t:T E j Q)
  (k: ∀b cR cT,Q b cR->p.At E cR cT.heap->cN c6 j s cR cT->R b cT):p.wp (isTrue e p.env (eval e p.env)) R s:=
 mono (aF s j E Q a t) λ x cT q=>by obtain⟨cR,q,S,st⟩:=q;exact k x cR cT q (a.step S st.h) st
theorem jJ.then{es:List bh}{pos:Pos}{T:SL}{Q:List V->St->Prop}{R:List aZ->br->Prop}(aF:jJ p es T)(a:p.At E j s.heap)(t:T E j Q)
  (k: ∀X cR xs cT,xs.length=es.length->Q X cR->b3 cT.heap cR X xs->p.At E cR cT.heap->cN c6 j s cR cT->R xs cT):p.wp (spliced (backTo pos (starEach es p.env))) R s:=
 mono (aF s j E Q pos a t) λ x cT q=>by obtain⟨v,cR,q,l,r,S,st⟩:=q;exact k v cR x cT l q r (a.step S st.h) st
variable{l r e:bh}{bq I:b6}{pos:Pos}
theorem YT{op:f4}(aI:cB p l bq)(az:cB p r I):cB p (.BinOp l (mK op) r pos) (DI op bq I):= λ s j E Q a t=>
 wpAny_BinOp (aI.then a t λ aX aP x bt bs a5 bz bB=>az.then bz bs λ fM bA y b2 dq c7 cO cy=>mono (XO cO.bV (a5.step cy.h d4) c7 op dq) λ v s' q=>q.pre (bB.trans cy))
theorem YU(aI:cB p e bq):cB p (.UnaryOp .USub e pos) (DO bq):= λ s j E Q a t=>
 YV (aI.then a t λ aX aP x bt bs a5 bz bB=>by
  cases aX with
  |int i=>obtain⟨u,rfl⟩:=a5.int;exact amn ⟨_,aP,bs,⟨_,rfl⟩,bz.bV,bB.tk⟩
  |_=>exact bs.elim)
end
section
variable{p:dc}{s:br}{j cR:St}{E:ax}{h nQ:b1}
theorem YW{l:Nat}{t:Bool}(e:ky j (.ref l)=B t): ∃X,j l=B (.list X)/\X.length<=ay/\(!X.isEmpty)=t:=by
 have e:(match j l with|some (.list X)=>if X.length<=ay then B (!X.isEmpty)else J|_=>J)=B t:=e
 cases q:j l with
 |none=>rw[q]at e;cases e
 |some o=>
  rw[q]at e
  cases o with
  |list X=>exact⟨X,rfl,h8 e⟩
  |_=>cases e
theorem KZ{X:List V}{xs:List aZ}(r:b3 h j X xs):xs.toArray.isEmpty=X.isEmpty:=by
 cases X with
 |nil=>rw[r.nI];rfl
 |cons v X=>obtain⟨y,ys,rfl,_⟩:=r.inv;simp
theorem wa{v:V}{x:aZ}{t:Bool}{Q:Bool->br->Prop}(S:bN p.d.toCn s.heap j)(r:bk s.heap j v x)(e:ky j v=B t)(h: ∀tk,Q t { s with toks:=tk }):p.wp (truthy x) Q s:=by
 cases v with
 |bool b=>rw[show x= .bool b from r];exact wpAny_truthy_bool (e7 e▸h s.toks)
 |ref l=>
  rw[r.ref]
  obtain⟨X,ao,bb,rfl⟩:=YW e
  obtain⟨xs,bg,rs⟩:=S.list ao
  exact YX bg.isList (by rw[gL, <-rs.length];unfold ay at bb;clear e ao rs;right) (by rw[KZ rs];exact h _)
 |_=>cases e
variable{e l r c:bh}{bq I:b6}{eo mO:ST}{pos:Pos}
theorem YY(aI:cB p e bq):cB p (.UnaryOp .Not e pos) (DN bq):= λ s j E Q a t=>
 YV (aI.then a t λ aX aP x bt bs a5 bz bB=>amo (by
  obtain⟨b,ao,q⟩:=fJ bs
  exact wa bz.bV a5 ao λ tk=>⟨_,aP,q,rfl,bz.bV,bB.tk⟩))
theorem YZ(ap:gb p c eo)(aI:cB p l bq)(az:cB p r I):cB p (.IfExp c l r pos) (DP eo bq I):= λ s j E Q a t=>
 wpAny_IfExp (ap.then a t λ b aP bt bs bz bB=>by
  cases b
  .exact mono (az _ _ _ _ bz bs) λ _ _ q=>q.pre bB
  .exact mono (aI _ _ _ _ bz bs) λ _ _ q=>q.pre bB)
theorem Fg(aF:isTrue e p.env (eval e p.env)=(do let v<-eval e p.env;standAt e.pos;holding [v] (truthy v)))(aI:cB p e bq):gb p e (qk bq):= λ s j E Q a t=>
 Y0 (aI.then a t λ v aP x bt bs a5 bz bB=>by
  obtain⟨b,ao,q⟩:=fJ bs
  exact wa bz.bV a5 ao λ tk=>⟨aP,q,bz.bV,bB.tk⟩) aF
theorem Y1(ap:gb p e eo):gb p (.UnaryOp .Not e pos) (DX eo):= λ s j E Q a t=>
 wpAny_isTrue_Not (ap.then a t λ b aP bt bs bz bB=>⟨aP,bs,bz.bV,bB⟩)
theorem Y2:jJ p [] tO:= λ s j E Q pos a t=>nR ⟨[],j,t,rfl, .nil,a.bV,cN.refl⟩
theorem Y3{es:List bh}{au:SL}(ab:starEach (e::es) p.env=(U,eval e p.env)::starEach es p.env)(aI:cB p e bq)(az:jJ p es au):jJ p (e::es) (y3 bq au):= λ s j E Q pos a t=>by
 rw[ab]
 exact nS (aI.then a t λ v aP x bt bs a5 bz bB=>az.then bz bs λ X bA xs b2 jK dq c7 cO cy=>⟨v::X,bA,dq,congrArg oY jK, .cons (a5.step cy.h d4) c7,cO.bV,bB.trans cy⟩)
end
section
variable{p:dc}{s:br}{j cR:St}{E:ax}{h nQ:b1}{e dL l r c:bh}{es:List bh}{bq I:b6}{eo mO:ST}{au:SL}{pos:Pos}
def mP(p:dc)(op:BoolOp)(es:List bh)(T:b6):Prop:= ∀s j E Q pos,p.At E j s.heap->T E j Q->p.wp (boolOp pos op (evalEach es p.env)) (e2 p.d.toCn j s Q) s
def nT(p:dc)(op:BoolOp)(es:List bh)(T:ST):Prop:= ∀s j E Q,p.At E j s.heap->T E j Q->p.wp (allTrue op es p.env) (v9 p.d.toCn j s Q) s
theorem K0{op:BoolOp}(aI:cB p e bq):mP p op [e] bq:= λ s j E Q pos a t=>aI s j E Q a t
theorem Y4(aI:cB p e bq)(az:mP p .And (dL::es) I):mP p .And (e::dL::es) (JG bq I):= λ s j E Q pos a t=>by
 show p.wp (do let v<-eval e p.env;standAt pos;let t<-holding [v] (truthy v);match BoolOp.And,t with| .And,U| .Or,G=>pure v|_,_=>boolOp pos .And (evalEach (dL::es) p.env)) _ s
 refine cE (aI.then a t λ v aP x bt bs a5 bz bB=>cE (kK (cE (jH ?_))))
 obtain⟨b,ao,q⟩:=fJ bs
 refine wa bz.bV a5 ao λ tk=>?_
 cases b
 .exact fv ⟨_,aP,q,a5,bz.bV,bB.tk⟩
 .exact mono (az _ _ _ _ pos bz q) λ _ _ q=>q.pre bB.tk
theorem Y5(aI:cB p e bq)(az:mP p .Or (dL::es) I):mP p .Or (e::dL::es) (JH bq I):= λ s j E Q pos a t=>by
 show p.wp (do let v<-eval e p.env;standAt pos;let t<-holding [v] (truthy v);match BoolOp.Or,t with| .And,U| .Or,G=>pure v|_,_=>boolOp pos .Or (evalEach (dL::es) p.env)) _ s
 refine cE (aI.then a t λ v aP x bt bs a5 bz bB=>cE (kK (cE (jH ?_))))
 obtain⟨b,ao,q⟩:=fJ bs
 refine wa bz.bV a5 ao λ tk=>?_
 cases b
 .exact mono (az _ _ _ _ pos bz q) λ _ _ q=>q.pre bB.tk
 .exact fv ⟨_,aP,q,a5,bz.bV,bB.tk⟩
theorem K1{op:BoolOp}(ap:gb p e eo):nT p op [e] eo:= λ s j E Q a t=>by
 cases op
 .refine Y6 (ap.then a t λ b aP bt bs bz bB=>?_)
  cases b
  .exact ⟨aP,bs,bz.bV,bB⟩
  .exact wpAny_allTrue_And_nil ⟨aP,bs,bz.bV,bB⟩
 .refine Y7 (ap.then a t λ b aP bt bs bz bB=>?_)
  cases b
  .exact wpAny_allTrue_Or_nil ⟨aP,bs,bz.bV,bB⟩
  .exact ⟨aP,bs,bz.bV,bB⟩
theorem Y8(ap:gb p e eo)(hd:nT p .And es mO):nT p .And (e::es) (JI eo mO):= λ s j E Q a t=>
 Y6 (ap.then a t λ b aP bt bs bz bB=>by
  cases b
  .exact ⟨aP,bs,bz.bV,bB⟩
  .exact mono (hd _ _ _ _ bz bs) λ _ _ q=>q.pre bB)
theorem Y9(ap:gb p e eo)(hd:nT p .Or es mO):nT p .Or (e::es) (JJ eo mO):= λ s j E Q a t=>
 Y7 (ap.then a t λ b aP bt bs bz bB=>by
  cases b
  .exact mono (hd _ _ _ _ bz bs) λ _ _ q=>q.pre bB
  .exact ⟨aP,bs,bz.bV,bB⟩)
theorem K2{op:BoolOp}(h:mP p op es bq):cB p (.BoolOp op es pos) bq:= λ s j E Q a t=>h s j E Q pos a t
theorem K3{op:BoolOp}(h:nT p op es eo):gb p (.BoolOp op es pos) eo:= λ s j E Q a t=>wpAny_isTrue_BoolOp (h s j E Q a t)
end
section
variable{p:dc}{e l r:bh}{es:List bh}{bq I:b6}{au:SL}{pos:Pos}
theorem Fh{n:Nat}(h:n<=1000):n<=ay:=ca h (bw rfl)
theorem Za{x:Str}{i:Nat}(hd:(x==("__debug__" :Str))=U)(bo:p.aa.at x=B i):cB p (.Name x pos) (DF i):= λ s j E Q a t=>by
 obtain⟨o,e,q⟩:=fJ t
 have e:E[i]?=B (B o):=by
  obtain⟨u,Y,Z⟩:=l0 e
  rw[Y,show u=B o from Z]
 exact YN a.la hd bo e λ y r=>⟨o,j,q,r,a.bV,cN.refl⟩
theorem Zb(ae:p.d.Ok)(aM:p.aa.cL=p.d.cL){x:Str}{v:V}(h:p.aa.glob x=B (.ea v)):cB p (.Name x pos) (j0 v):= λ s j E Q a t=>
 v8 (aM▸ae.base) a.bV a.la h λ y r=>⟨v,j,t,r,a.bV,cN.refl⟩
theorem Zc{k:Nat}:cB p (.Constant .none k pos) (j0 .none):= λ s j E Q a t=>wpAny_Constant_none (.of a.bV t rfl)
theorem Zd{k:Nat}{b:Bool}:cB p (.Constant (.bool b) k pos) (j0 (.bool b)):= λ s j E Q a t=>wpAny_Constant_bool (.of a.bV t rfl)
theorem Ze{k:Nat}{i:Int}:cB p (.Constant (.int i) k pos) (j0 (.int i)):= λ s j E Q a t=>K4 (.of a.bV t ⟨_,rfl⟩)
theorem Zf{k:Nat}{l:List Nat}(ok:hp l=G):cB p (.Constant (.str ⟨l.toArray⟩) k pos) (j0 (.str l)):= λ s j E Q a t=>K5 (.of a.bV t ⟨_,rfl,ok⟩)
theorem Zg{k:Nat}(aq:es.length<=1000)(aI:jJ p es au):cB p (.Tuple es k pos) (DG au):= λ s j E Q a t=>
 wpAny_Tuple (aI.then a t λ X aP xs bt pb bs a5 bz bB=>⟨lZ (pb.symm▸Fh aq),(EV (g:=bt.gens) (d:=bt.drawn) (tk:=bt.toks) (os:=bt.os) bz.bV (λ _ _ e=>e) a5 bs).pre bB⟩)
theorem Zh(aq:es.length<=1000)(aI:jJ p es au):cB p (.List es pos) (DH au):= λ s j E Q a t=>
 Fi (aI.then a t λ X aP xs bt pb bs a5 bz bB=>⟨lZ (pb.symm▸Fh aq),e2.pre (zk rfl bz.bV (ER a5) bs) bB⟩)
theorem Zi(ae:p.d.Ok)(aI:cB p l bq)(az:cB p r I):cB p (.Subscript l r pos) (DR bq I):= λ s j E Q a t=>
 Subscript_ (aI.then a t λ aX aP x bt bs a5 bz bB=>az.then bz bs λ fM bA y b2 dq c7 cO cy=>by
  obtain⟨v,e,q⟩:=fJ dq
  exact Kr (Kp ae.ok cO.bV (a5.step cy.h d4) c7 e λ z tk j4=>⟨v,bA,q,j4,cO.bV,bB.trans cy.tk⟩))
end
section
variable{p:dc}{e:bh}{es:List bh}{bq:b6}{pos:Pos}
theorem Zj(ae:p.d.Ok){n:Nat}{attr:Str}(az: ∀t,attributeBase e attr p.env t=t)(aq:d2 n=attr)(aI:cB p e bq):cB p (.Attribute e attr pos) (DQ p.d.P n bq):= λ s j E Q a t=>
 Attribute_any_ (aI.then a t λ aX aP x bt bs a5 bz bB=>by
  rw[<-aq]
  exact mono (Yw ae.base.r0 ae.jX bz.bV a5 bs) λ _ _ q=>q.pre bB) (by rw[arm_eval_Attribute,az])
def Arg(e:bh):Prop:= ∀es env,starEach (e::es) env=(U,eval e env)::starEach es env
def jL(env:Env)(es:List bh):Prop:= ∀pos,(backTo pos (starEach es env)).any (·.1)=U
theorem mQ{env:Env}:jL env []:= λ _=>rfl
theorem mR{env:Env}(h:Arg e)(k:jL env es):jL env (e::es):= λ pos=>by rw[h];exact k pos
end
section
variable{p:dc}{s:br}{e dL:bh}{es:List bh}{bq I:b6}{au:SL}{pos np:Pos}{x:Str}
theorem Fj{c:Cn}{f:aZ}{zA:List (Bool×Sem aZ)}{Q:Args->br->Prop}(aT:zA.any (·.1)=U)(h:c.wp (spliced zA) (λ X s'=>Q ⟨X,[]⟩ s') s):c.wp (evalArgs f G zA []) Q s:=by
 cases zA with
 |nil=>
  unfold evalArgs
  show wpAny _ _ (spliced []>>=_) _ _ s
  exact cE (t4 h (λ X s' h'=>cE (fv (jH (cE (fv (cE (fv (fv h')))))))) λ _ _ x=>x)
 |cons t r=>
  obtain⟨b,t⟩:=t
  rw[Ez,rY]at aT
  have az:b=U:=aT.1
  subst az
  exact Calls.evalArgs_plain h
theorem wb{f:aZ}{first:List aZ}{Q:aZ->br->Prop}(ak: ∀h,Looks (model p.d.prog p.d.w) h (keeperOf f) .machine)(aT:jL p.env es)
  (h:p.wp (spliced (backTo pos (starEach es p.env))) (λ X cT=>p.wp (call f (first++X)) Q cT) s):p.wp (callWith pos f first (backTo pos (starEach es p.env)) []) Q s:=
 K6 (P:= λ _=>True) (by rw[aT pos];rfl) (λ h _=>⟨.machine, .inr (.inl rfl),ak h⟩) (Fj (aT pos) (mono h λ _ _ h=>⟨trivial,h⟩))
theorem K7(ae:p.d.Ok)(aM:p.aa.cL=p.d.cL){f:Nat}(aA:p.aa.glob x=B (.fn f))(aT:jL p.env es)(aI:jJ p es au):cB p (.Call (.Name x np) es [] pos) (DT p.d.P f au):= λ s j E Q a t=>
 Fk (v8 (aM▸ae.base) a.bV a.la aA λ y bJ=>by
  have bJ:y= .ref f:=bJ
  subst bJ
  exact K6 (P:= λ h=>p.d.K.In h/\keepIn p.d.K (.ref f)=G) (by rw[aT pos];rfl) (λ h ⟨a7,e⟩=>keeps_K e h a7) (Fj (aT pos) (aI.then a t λ X aP xs bt pb bs a5 bz bB=>
   have k:=ae.call _ _ _ _ bs
   ⟨⟨ae.base.r0.keeps bz.bV.base,k.1⟩,mono (k.2 bt xs a5 bz.bV) λ _ _ q=>q.pre bB⟩)))
theorem Zk(ae:p.d.Ok)(aM:p.aa.cL=p.d.cL){b:dy}(aA:p.aa.glob x=B (.cq b))(ab:Arg e)(aI:cB p e bq):cB p (.Call (.Name x np) [e] [] pos) (DV b bq):= λ s j E Q a t=>
 Fk (v8 (aM▸ae.base) a.bV a.la aA λ y bJ=>by
  have bJ:y=zo b:=bJ
  subst bJ
  refine wb (λ h=>by cases b<;>exact r2 rfl) (mR ab mQ) ?_
  rw[ab]
  exact nS (aI.then a t λ v aP y bt bs a5 bz bB=>nR (by
   obtain⟨r,e,q⟩:=fJ bs
   exact mono (X2 bz.bV a5 b e q) λ _ _ q=>q.pre bB)))
end
section
variable{p:dc}{s:br}{e dL:bh}{es:List bh}{bq I:b6}{au:SL}{pos np:Pos}{x:Str}
theorem bk.ofInt{h:b1}{j:St}{i:Int}{t:Tok}:bk h j (.int i) (.int i t):=⟨t,rfl⟩
theorem Zl(ae:p.d.Ok)(aM:p.aa.cL=p.d.cL)(aA:p.aa.glob x=B .divmod)(ab:Arg e)(gM:Arg dL)(aI:cB p e bq)(az:cB p dL I):cB p (.Call (.Name x np) [e,dL] [] pos) (DW bq I):= λ s j E Q a t=>
 Fk (v8 (aM▸ae.base) a.bV a.la aA λ y bJ=>by
  have bJ:y= .builtin "divmod" :=bJ
  subst bJ
  refine wb (λ h=>r2 rfl) (mR ab (mR gM mQ)) ?_
  rw[ab,gM]
  refine nS (aI.then a t λ v aP y bt bs a5 bz bB=>nS (az.then bz bs λ o8 bA zb b2 dq c7 cO cy=>nR ?_))
  have a5:=a5.step cy.h d4
  cases v with
  |int i=>
   cases o8 with
   |int aU=>
    obtain⟨u,rfl⟩:=a5.int
    obtain⟨w,rfl⟩:=c7.int
    obtain⟨bf,a3,q⟩:=dq
    refine amp bf ?_ (.inl (Kj (hB a3 (XN (hC 1) (bw rfl)))))
    exact(EV (g:=b2.gens) (d:=b2.drawn) (tk:=b2.toks+1+1) (os:=b2.os) (k:=0) cO.bV (λ _ _ e=>e) (.cons .ofInt (.one .ofInt)) q).pre (bB.trans cy)
   |_=>exact dq.elim
  |_=>exact dq.elim)
end
def qu(p:dc)(l:bh)(op:CmpOp)(r:bh)(T:b6):Prop:= ∀s j E Q,p.At E j s.heap->T E j Q->
 p.wp (eval l p.env) (λ a cT=>p.wp (eval r p.env) (λ b jE=>p.wp (compareOp op a b) (λ v s'=>(∃b,v= .bool b)/\e2 p.d.toCn j s Q v s') jE) cT) s
section
variable{p:dc}{s:br}{l r e:bh}{es:List bh}{op:CmpOp}{T bq I:b6}{au:SL}{pos q:Pos}
theorem bk.ofBool{h:b1}{j:St}{b:Bool}:bk h j (.bool b) (.bool b):=rfl
theorem K8(h:behindInMarks op r=U)(ap:qu p l op r T):cB p (.Compare l [op] [r] pos) T:= λ s j E Q a t=>
 wpAny_Compare1 (mono (ap s j E Q a t) λ _ _ Y=>mono Y λ _ _ Z=>mono Z λ _ _ q=>q.2) h
theorem Zm(h:behindInMarks op r=U)(ap:qu p l op r T):gb p (.Compare l [op] [r] pos) (qk T):= λ s j E Q a t=>
 wpAny_isTrue_Compare1 (mono (ap s j E _ a t) λ _ _ Y=>mono Y λ _ _ Z=>mono Z λ v s' ⟨_,V,D,q,hR,S,st⟩=>by
  obtain⟨b,e,q⟩:=fJ q
  exact wa S hR e λ tk=>⟨D,q,S,st.tk⟩) h
theorem Zn(ae:p.d.Ok)(op:k0)(aI:cB p l bq)(az:cB p r I):qu p l (EN op) r (DJ op bq I):= λ s j E Q a t=>
 aI.then a t λ aX aP x bt bs a5 bz bB=>az.then bz bs λ fM bA y b2 dq c7 cO cy=>by
  obtain⟨b,e,q⟩:=fJ dq
  exact XH ae.ok cO.bV (a5.step cy.h d4) c7 op e λ tk=>⟨⟨b,rfl⟩,_,bA,q,rfl,cO.bV,bB.trans cy.tk⟩
theorem K9{c:Cn}{h:b1}{j:St}{xs:List aZ}{X:List V}(S:bN c h j)(r:b3 h j X xs): ∃h',h'=h.push { cls:= .type "list",data:= .seq xs.toArray }/\h'.IsList h.objs.size xs.toArray/\bN c h' j/\Step c6 j h j h'/\b3 h' j X xs:=by
 have ak: ∀b o,h.get? b=B o->(h.push { cls:= .type "list",data:= .seq xs.toArray }).get? b=B o:= λ b o e=>iA _ e
 have st:Step c6 j h j (h.push { cls:= .type "list",data:= .seq xs.toArray }):=Step.h4 ak
 exact⟨_,rfl,⟨_,iZ _ rfl,rfl,_,rfl⟩,S.grow ak,st,r.step st d4⟩
theorem Zo(ae:p.d.Ok)(neg:Bool)(aq:es.length<=1000)(aI:cB p l bq)(az:jJ p es au):qu p l (if neg then .NotIn else .In) (.List es q) (DK neg bq au):= λ s j E Q a t=>
 aI.then a t λ aX aP x bt bs a5 bz bB=>Fi (az.then bz bs λ X bA ys b2 jK dq c7 cO cy=>⟨lZ (jK.symm▸Fh aq),by
  obtain⟨b,e,q⟩:=fJ dq
  obtain⟨h',rfl,hr,l1,fX,h7⟩:=K9 cO.bV c7
  have m:=Kc (s:={ b2 with heap:=b2.heap.push { cls:= .type "list",data:= .seq ys.toArray } }) (Q:= λ v s'=>(∃b,v= .bool b)/\e2 p.d.toCn j s Q v s') ae.ok hr h7 ((a5.step cy.h d4).step fX d4) e
  cases neg
  .exact m.1 ⟨⟨b,rfl⟩, .bool b,bA,(by cases b<;>exact q), .ofBool,l1,(bB.trans cy).trans ⟨fX,rfl,rfl⟩⟩
  .exact m.2 ⟨⟨!b,rfl⟩, .bool !b,bA,(by cases b<;>exact q), .ofBool,l1,(bB.trans cy).trans ⟨fX,rfl,rfl⟩⟩⟩)
end
section
variable{p:dc}{s:br}{l e:bh}{bq:b6}{q:Pos}
theorem Zp(ae:p.d.Ok)(aI:cB p l bq):qu p l .Eq (.List [] q) (DM U bq):= λ s j E Q a t=>
 aI.then a t λ aX aP x bt bs a5 bz bB=>Fi (nR ⟨eh _,by
  obtain⟨h',rfl,hr,l1,fX,_⟩:=K9 bz.bV (b3.nil (h:=bt.heap) (j:=aP))
  cases aX with
  |ref k=>
   have a5:=a5.ref
   subst a5
   obtain⟨X,ao,q⟩:=E5 (P:= λ X=>Q (.bool (X.isEmpty !=U)) aP) bs
   obtain⟨xs,bg,rs⟩:=l1.list ao
   have fin: ∀b,Q (.bool b) aP->(∃gJ,Value.bool b= .bool gJ)/\e2 p.d.toCn j s Q (.bool b) { bt with heap:=bt.heap.push { cls:= .type "list",data:= .seq ([]:List aZ).toArray } }:= λ b q=>⟨⟨b,rfl⟩, .bool b,aP,q, .ofBool,l1,bB.trans ⟨fX,rfl,rfl⟩⟩
   cases X with
   |nil=>
    rw[rs.nI]at bg
    exact SeqAt.eq_listAt (e:= λ _=>G) bg.isList hr rfl (dP (gc _ _) ae.ok.units) (λ aU Y _=>absurd Y (Zq _)) (fin _ q)
   |cons v X=>
    obtain⟨y,ys,rfl,_⟩:=rs.inv
    exact SeqAt.eq_list_lengthsAt bg.isList hr (by simp) (dP (gc _ _) ae.ok.units) (fin _ q)
  |_=>exact bs.elim⟩)
end
section
variable{p:dc}{s:br}{e:bh}{es:List bh}{bq:b6}{au:SL}{pos iB:Pos}{wc:Str}
theorem Zr{env:Env}(aT:jL env es)(pos:Pos):(backTo pos (starEach es env)).all (λ x=>!x.1)=G:=by
 rw[hh]
 intro x aJ
 have:=List.any_eq_false.mp (aT pos) x aJ
 simpa using this
theorem zB{o:bh}{jo:aZ}{Q:aZ->br->Prop}(ah:(iB.endLine==pos.line)=G)(ap:es.length<20)(aT:jL p.env es)
  (h: ∀bg,p.wp (getMethod jo wc bg) (λ pc cT=>p.wp (callWith pos pc.1 pc.2 (backTo pos (starEach es p.env)) []) Q cT) s):
  p.wp (methodCall o wc iB pos p.env jo (es.length+([]:List Keyword).length) (backTo pos (starEach es p.env)) (backToKw pos (keywordEach [] p.env))) Q s:=by
 have Zs:methodCallForm (es.length+([]:List Keyword).length) (backTo pos (starEach es p.env)) (backToKw pos (keywordEach [] p.env))=G:=by
  unfold methodCallForm
  rw[Zr aT]
  have e:backToKw pos (keywordEach [] p.env)=[]:=rfl
  rw[e]
  clear h aT e
  simp
  right
 have Fl:methodCallPos G o p.env iB pos=pure pos:=by unfold methodCallPos;simp [ah]
 unfold methodCall
 rw[Zs]
 exact cE (jH (t4 (h _) (λ pc cT nQ=>cE (wpAny_of_eq Fl nQ)) λ _ _ e=>e))
end
section
variable{P:em}{j:St}{v:V}{n:Nat}{e1:iv}
def La(P:em)(j:St)(v:V)(n:Nat)(e1:iv):Prop:= ∃x ae bL a9 f,v= .ref x/\j x=B (.inst ae bL a9)/\a9.lookup n=J/\P.tB ae n=B f/\e1= .own f x
def Lb(j:St)(v:V)(n:Nat)(e1:iv):Prop:= ∃x X,v= .ref x/\j x=B (.list X)/\n<2/\e1= .list x
def Lc(j:St)(v:V)(n:Nat)(e1:iv):Prop:= ∃x kvs,v= .ref x/\j x=B (.dict kvs)/\n=2/\e1= .dict x
def Ld(v:V)(n:Nat)(e1:iv):Prop:= ∃l,v= .str l/\(3<=n/\n<=6)/\e1= .str l
theorem Zt(e:k1 P j v n=B e1):La P j v n e1\/Lb j v n e1\/Lc j v n e1\/Ld v n e1:=by
 cases v with
 |str l=>have e:=h8 e;exact .inr (.inr (.inr ⟨l,rfl,e.1,e.2.symm⟩))
 |ref x=>
  have e:(match j x with|some (.inst ae _ a9)=>if n<7\/(a9.lookup n).isSome then J else(P.tB ae n).map (iv.own · x)|some (.list _)=>if n<2 then B (.list x)else J|some (.dict _)=>if n=2 then B (.dict x)else J|_=>J)=B e1:=e
  cases q:j x with
  |none=>rw[q]at e;cases e
  |some o=>
   rw[q]at e
   cases o with
   |list X=>have e:=h8 e;exact .inr (.inl ⟨x,X,rfl,q,e.1,e.2.symm⟩)
   |dict kvs=>have e:=h8 e;exact .inr (.inr (.inl ⟨x,kvs,rfl,q,e.1,e.2.symm⟩))
   |inst ae bL a9=>
    have e:(if n<7\/(a9.lookup n).isSome then J else(P.tB ae n).map (iv.own · x))=B e1:=e
    by_cases h:n<7\/(a9.lookup n).isSome
    .rw[aQ h]at e;cases e
    .rw[aL h]at e
     obtain⟨f,aA,rfl⟩:=jF e
     exact .inl ⟨x,ae,bL,a9,f,rfl,q,Zu.mp λ z=>h (.inr z),aA,rfl⟩
   |owned _=>cases e
 |_=>cases e
end
structure Zv(K:Frag)(ae n f:Nat):Prop where
 lt:n<jY.length
 get:plainGet K ae (d2 n)=G
 find:findIn K (.ref ae) (d2 n)=B (B (.ref f))
 fn:isFn K (.ref f)=G
theorem Zw{K:Frag}{ae n f:Nat}(h:zz K ae n f=G):Zv K ae n f:=by
 obtain⟨Y,h⟩:=aV h
 obtain⟨Z,h⟩:=aV h
 obtain⟨aE,h⟩:=aV h
 exact⟨of_decide_eq_true Y,Z,beq_iff_eq.mp aE,h⟩
section
variable{p:dc}{s:br}{j:St}{E:ax}{es:List bh}{au:SL}{pos:Pos}{Q:V->St->Prop}{n:Nat}{v:V}{x:aZ}{e1:iv}
def t5(p:dc)(es:List bh)(pos:Pos)(n:Nat)(j:St)(Q:V->St->Prop)(x:aZ)(s:br):Prop:=
 ∀bg,p.wp (getMethod x (d2 n) bg) (λ pc cT=>p.wp (callWith pos pc.1 pc.2 (backTo pos (starEach es p.env)) []) (e2 p.d.toCn j s Q) cT) s
theorem Zx(ae:p.d.Ok)(aT:jL p.env es)(aI:jJ p es au)(a:p.At E j s.heap)(r:bk s.heap j v x)(e:La p.d.P j v n e1)(t:au E j (qh p.d.P e1 n Q)):t5 p es pos n j Q x s:= λ bg=>by
 obtain⟨k,pd,bL,a9,f,rfl,ao,qp,j8,rfl⟩:=e
 have r:=r.ref
 subst r
 have aG:=Zw (ae.mx _ _ _ j8)
 obtain⟨hf,aU,aW,ag,ic,amq⟩:=E7 a.bV ao
 have a7:=ae.base.r0.keeps a.bV.base
 refine method_fn a7 aW (KQ aG.get).1 (KQ aG.get).2 aG.find (beq_iff_eq.mp aG.fn) (by show(lookIn (d2 n) (dictOf hf aU)).map _=_;rw[lookIn_dict,(KN ic aG.lt).1 qp];rfl) ?_
 exact K6 (P:= λ h=>p.d.K.In h/\keepIn p.d.K (.ref f)=G) (by rw[aT pos];rfl) (λ h ⟨a7,e⟩=>keeps_K e h a7) (Fj (aT pos) (aI.then a t λ X bA ys b2 jK dq c7 cO cy=>
  have k:=ae.call _ _ _ _ dq
  ⟨⟨ae.base.r0.keeps cO.bV.base,k.1⟩,mono (k.2 b2 _ (.cons rfl c7) cO.bV) λ _ _ q=>q.pre cy⟩))
end
section
variable{p:dc}{s:br}{j:St}{E:ax}{es:List bh}{au:SL}{pos:Pos}{Q:V->St->Prop}{n:Nat}{v:V}{x:aZ}{e1:iv}
theorem r3{T id:String}(hq:s.TypeIs x T)(cP:PlainAttrs T){nm:Str}(aq:d2 n=nm)(e6:Slot T nm id)(Fm:typeOf (.builtin id)=pure (.type "method_descriptor"))(hd: ∀a,x= .ref a-> ∃o,s.heap.get? a=B o/\o.dict=J)
  (aT:jL p.env es) (aI:jJ p es au) (a:p.At E j s.heap) (t:au E j (qh p.d.P e1 n Q))
  (go: ∀X aP (bt:br) xs,rI p.d.P e1 n X aP Q->b3 bt.heap aP X xs->bN p.d.toCn bt.heap aP->p.wp (call (.builtin id) (x::xs)) (e2 p.d.toCn aP bt Q) bt):t5 p es pos n j Q x s:= λ bg=>
 Fn hq cP (aq▸e6) Fm hd (wb (first:=[x]) (λ h=>r2 rfl) aT (aI.then a t λ X bA ys b2 jK dq c7 cO cy=>mono (go X bA b2 ys dq c7 cO.bV) λ _ _ q=>q.pre cy))
end
theorem Zy:d2 3=bu "zfill" :=by kernel_rfl
theorem Zz:d2 4=bu "startswith" :=by kernel_rfl
theorem ZA:d2 5=bu "index" :=by kernel_rfl
theorem ZB:d2 6=bu "upper" :=by kernel_rfl
section
variable{p:dc}{s:br}{j:St}{E:ax}{es:List bh}{au:SL}{pos:Pos}{Q:V->St->Prop}{n:Nat}{v:V}{x:aZ}{e1:iv}
theorem no_dict{l:List Nat}{t:Tok}: ∀a,Fo ⟨l.toArray⟩ t= .ref a-> ∃o,s.heap.get? a=B o/\o.dict=J:= λ a h=>Value.noConfusion h
theorem ZC{n:Nat}(h:3<=n/\n<=6):n=3\/n=4\/n=5\/n=6:=
 (Le h.2).elim (λ e=> .inr (.inr (.inr e))) λ q=>(Le (r4 q)).elim (λ e=> .inr (.inr (.inl e))) λ q=>(Le (r4 q)).elim (λ e=> .inr (.inl e)) λ q=> .inl (zC (r4 q) h.1)
theorem ZD(aT:jL p.env es)(aI:jJ p es au)(a:p.At E j s.heap)(r:bk s.heap j v x)(e:Ld v n e1)(t:au E j (qh p.d.P e1 n Q)):t5 p es pos n j Q x s:=by
 obtain⟨l,rfl,aq,rfl⟩:=e
 obtain⟨u,rfl,ok⟩:=r.str
 have jp:s.TypeIs (.str ⟨l.toArray⟩ u) "str" :=o6 _ _ _
 have ie: ∀b,Fo ⟨l.toArray⟩ u= .ref b-> ∃o,s.heap.get? b=B o/\o.dict=J:=no_dict
 rcases ZC aq with rfl|rfl|rfl|rfl
 .exact @r3 p s j E es au pos Q 3 (.str ⟨l.toArray⟩ u) (.str l) "str" "str.zfill" jp zD (bu "zfill") Zy Yc PySem.F.type_str_zfill ie aT aI a t λ X aP bt xs h r S=>Yb ok S r h
 .exact @r3 p s j E es au pos Q 4 (.str ⟨l.toArray⟩ u) (.str l) "str" "str.startswith" jp zD (bu "startswith") Zz Ye PySem.F.type_str_startswith ie aT aI a t λ X aP bt xs h r S=>Yd S r h
 .exact @r3 p s j E es au pos Q 5 (.str ⟨l.toArray⟩ u) (.str l) "str" "str.index" jp zD (bu "index") ZA KB PySem.F.type_str_index ie aT aI a t λ X aP bt xs h r S=>Yg S r h
 .exact @r3 p s j E es au pos Q 6 (.str ⟨l.toArray⟩ u) (.str l) "str" "str.upper" jp zD (bu "upper") ZB Yi PySem.F.type_str_upper ie aT aI a t λ X aP bt xs h r S=>m_upper S r h
end
theorem ZE:d2 0=bu "append" :=by kernel_rfl
theorem ZF:d2 1=bu "pop" :=by kernel_rfl
theorem ZG:d2 2=bu "get" :=by kernel_rfl
section
variable{p:dc}{s:br}{j:St}{E:ax}{es:List bh}{au:SL}{bq:b6}{pos iB:Pos}{Q:V->St->Prop}{n:Nat}{v:V}{x:aZ}{e1:iv}
theorem ZH(ae:p.d.Ok)(aT:jL p.env es)(aI:jJ p es au)(a:p.At E j s.heap)(r:bk s.heap j v x)(e:Lc j v n e1)(t:au E j (qh p.d.P e1 n Q)):t5 p es pos n j Q x s:=by
 obtain⟨l,kvs,rfl,ao,rfl,rfl⟩:=e
 have r:=r.ref
 subst r
 have ag:=a.bV.dict ao
 exact @r3 p s j E es au pos Q 2 (.ref l) (.dict l) "dict" "dict.get" (tZ ag) Lf (bu "get") ZG zi PySem.F.type_dict_get (λ b az=>by
  obtain⟨o,es,db,Y,Z,_⟩:=ag.o1
  exact⟨o,(zE az)▸Y,Z.2.1⟩) aT aI a t λ X aP bt xs h r S=>Yn ae.ok S r h
theorem ZI(aT:jL p.env es)(aI:jJ p es au)(a:p.At E j s.heap)(r:bk s.heap j v x)(e:Lb j v n e1)(t:au E j (qh p.d.P e1 n Q)):t5 p es pos n j Q x s:=by
 obtain⟨l,bj,rfl,ao,aq,rfl⟩:=e
 have r:=r.ref
 subst r
 obtain⟨ys,bg,_⟩:=a.bV.list ao
 have ie: ∀b,ZJ l= .ref b-> ∃o,s.heap.get? b=B o/\o.dict=J:= λ b az=>by obtain⟨k,e⟩:=bg;exact⟨_,(zE az)▸e,rfl⟩
 cases n with
 |zero=>
  exact @r3 p s j E es au pos Q 0 (.ref l) (.list l) "list" "list.append" bg.isList.typeIs ZK (bu "append") ZE PySem.F.slot_list_append PySem.F.type_list_append ie aT aI a t λ X aP bt xs h r S=>by
   cases X with
   |nil=>exact h.elim
   |cons v X=>
    cases X with
    |cons _ _=>exact h.elim
    |nil=>
     obtain⟨bj,e,h⟩:=E5 (P:= λ bj=>bj.length<ay/\Q .none (aP.set l (.list (bj++ [v])))) h
     exact KE S e r h.1 h.2
 |succ n=>
  have aq:n=0:=ZL.mp (Nat.lt_of_succ_lt_succ aq)
  subst aq
  exact @r3 p s j E es au pos Q 1 (.ref l) (.list l) "list" "list.pop" bg.isList.typeIs ZK (bu "pop") ZF Yk PySem.F.type_list_pop ie aT aI a t λ X aP bt xs h r S=>by
   cases X with
   |cons _ _=>exact h.elim
   |nil=>
    rw[r.nI]
    obtain⟨bj,e,h⟩:=E5 (P:= λ bj=>bj.length<ay/\(match bj.getLast? with|some v=>Q v (aP.set l (.list bj.dropLast))|none=>False)) h
    have q:=h.2
    cases ev:bj.getLast? with
    |none=>rw[ev]at q;exact q.elim
    |some v=>rw[ev]at q;exact Yj S e h.1 ev q
theorem ZM(ae:p.d.Ok){o:bh}{a:Str}(az: ∀t,attributeBase o a p.env t=t)(ah:(iB.endLine==pos.line)=G)(ap:es.length<20)(aT:jL p.env es)(aq:d2 n=a)
  (ba:cB p o bq) (aI:jJ p es au):cB p (.Call (.Attribute o a iB) es [] pos) (DU p.d.P n bq au):= λ s j E Q A t=>by
 rw[Fp,az]
 refine cE (ba.then A t λ ey aP x bt bs a5 bz bB=>cE (kK (zB ah ap aT λ bg=>?_)))
 obtain⟨e1,e,bs⟩:=fJ bs
 have go:t5 p es pos n aP Q x bt:=by
  rcases Zt e with e|e|e|e
  .exact Zx ae aT aI bz a5 e bs
  .exact ZI aT aI bz a5 e bs
  .exact ZH ae aT aI bz a5 e bs
  .exact ZD aT aI bz a5 e bs
 rw[<-aq]
 exact mono (go bg) λ _ _ q=>mono q λ _ _ q=>q.pre bB
end
def r5(p:dc)(e:Option bh)(T:b6):Prop:= ∀s j E Q,p.At E j s.heap->T E j Q->p.wp (evalPart e p.env) (e2 p.d.toCn j s Q) s
section
variable{p:dc}{c:Cn}{s:br}{j:St}{v:bh}{e lo bo:Option bh}{bq I eo:b6}{pos q:Pos}{x y z:aZ}{aX f7 jh:V}{Q:V->St->Prop}
theorem ZN:r5 p J (j0 .none):= λ s j E Q a t=>ZO (.of a.bV t rfl)
theorem ZP{e:bh}(h:cB p e bq):r5 p (B e) bq:=h
theorem r5.then{E:ax}{R:aZ->br->Prop}(aF:r5 p e bq)(a:p.At E j s.heap)(t:bq E j Q)
  (k: ∀v cR x cT,Q v cR->bk cT.heap cR v x->p.At E cR cT.heap->cN c6 j s cR cT->R x cT):p.wp (evalPart e p.env) R s:=
 mono (aF s j E Q a t) λ x cT q=>by obtain⟨v,cR,q,r,S,st⟩:=q;exact k v cR x cT q r (a.step S st.h) st
theorem bk.n{h:b1}(r:bk h j .none x):x= .none:=r
theorem ZQ{bj:List V}{k:Int}(S:bN c s.heap j)(a5:bk s.heap j (.fi bj) x)(c7:bk s.heap j .none y)(h7:bk s.heap j (.int k) z){e6:Nat}(ab:s.heap.IsSliceOf e6 y z .none)
  (h:0<=k/\k<=1000/\bj.length<=ay/\ ∀c,j c=J->Q (.ref c) (j.set c (.list (bj.take k.toNat)))):qs c s x (.ref e6) (e2 c j s Q):=by
 obtain⟨l,xs,rfl,Fq,ah,rs⟩:=a5.fi
 have c7:=c7.n
 subst c7
 obtain⟨j5,_,mS,q⟩:=h
 obtain⟨n,rfl⟩:=t0 j5
 obtain⟨u,rfl⟩:=h7.int
 refine⟨"list",_,ah.typeIs,PySem.F.slot_list_getitem.lookup,wpAny_getItem_list_slice ah ab .none (.int _ _) .none (λ e=>nomatch e) ?_ ?_⟩
 .rw[slicePick_upto']
  exact zk rfl S (ER (rs.take n)) q
 .rw[gL, <-rs.length];exact lZ mS
theorem ZR(S:bN c s.heap j)(a5:bk s.heap j aX x)(c7:bk s.heap j f7 y)(h7:bk s.heap j jh z){e6:Nat}(ab:s.heap.IsSliceOf e6 y z .none)(h:b9 (CE aX f7 jh) λ r=>Q r j):qs c s x (.ref e6) (e2 c j s Q):=by
 obtain⟨r,e,q⟩:=fJ h
 cases aX with
 |str l=>
  cases f7 with
  |int a=>
   cases jh with
   |int b=>
    obtain⟨⟨bf,a3,dp,zF⟩,rfl⟩:=h8 (p:=0<=a/\a<=b/\b<2^40/\l.length<=ay) e
    obtain⟨t,rfl,ok⟩:=a5.str
    obtain⟨u,rfl⟩:=c7.int
    obtain⟨v,rfl⟩:=h7.int
    exact⟨"str",_,o6 _ _ _,XS.lookup,YI bf a3 zF (u:=u) (v:=v) ab λ t' tk=>⟨_,j,q,⟨_,rfl,YL ok _ _⟩,S,⟨Step.refl,rfl,rfl⟩⟩⟩
   |_=>cases e
  |_=>cases e
 |_=>cases e
theorem ZS(S:bN c s.heap j)(a5:bk s.heap j aX x)(c7:bk s.heap j f7 y)(h7:bk s.heap j jh z){e6:Nat}(ab:s.heap.IsSliceOf e6 y z .none)(h:x2 aX f7 jh j Q):qs c s x (.ref e6) (e2 c j s Q):=by
 have st:b9 (CE aX f7 jh) (λ r=>Q r j)->_:=ZR S a5 c7 h7 ab
 cases aX with
 |fi bj=>
  cases f7 with
  |none=>
   cases jh with
   |int k=>exact ZQ S a5 c7 h7 ab h
   |_=>exact st h
  |_=>exact st h
 |_=>exact st h
theorem ZT(aI:cB p v bq)(az:r5 p lo I)(ap:r5 p bo eo):cB p (.Subscript v (.Slice lo bo J q) pos) (DS bq I eo):= λ s j E Q a t=>
 Subscript_ (aI.then a t λ aX aP x bt bs a5 bz bB=>wpAny_Slice (az.then bz bs λ f7 bA y b2 dq c7 cO cy=>ap.then cO dq λ jh dR z eF nU h7 iC fX=>ZO (by
  have ak: ∀b o,eF.heap.get? b=B o->(eF.heap.push { cls:= .type "slice",data:= .fields #[y,z, .none] }).get? b=B o:= λ b o e=>iA _ e
  have j9:cN c6 dR eF dR { eF with heap:=eF.heap.push { cls:= .type "slice",data:= .fields #[y,z, .none] } }:=⟨Step.h4 ak,rfl,rfl⟩
  have Fs:=fX.trans j9
  have aW:=ZS (s:={ eF with heap:=eF.heap.push { cls:= .type "slice",data:= .fields #[y,z, .none] } }) (iC.bV.grow ak) ((a5.step cy.h d4).step Fs.h d4) (c7.step Fs.h d4) (h7.step j9.h d4) (amr eF.heap y z .none) nU
  exact mono (Kr aW) λ _ _ q=>q.pre ((bB.trans cy).trans Fs))))
end
def lb(c:Cn)(aW:Nat)(j:St)(h:b1):Prop:=j aW=J/\c.eE.get? aW=J/\ ∃o,h.get? aW=B o/\ ¬Seq o
def l2(aW:Nat)(h h':b1):Prop:= ∀b o,b≠aW->h.get? b=B o->h'.get? b=B o
section
variable{c:Cn}{aW:Nat}{j:St}{h h':b1}
theorem l2.step(k:l2 aW h h'):Step (· =aW) j h j h':=⟨λ b o e _ f=>k b o f e,λ _ _ _ e _=>e,λ b o e f=>⟨o,k b o f e⟩⟩
theorem lb.dM(a:lb c aW j h):gA (· =aW) h:= λ b o f e=>by
 obtain⟨_,_,q,co,n⟩:=a
 rw[f,co]at e;exact dg e▸n
theorem lb.bV(a:lb c aW j h)(S:bN c h j)(k:l2 aW h h'):bN c h' j:=
 S.step k.step a.dM (λ b o q e eq=>k b q (λ x=>f9 e (x▸a.1)) eq) λ b o e x=>f9 e (x▸a.2.1)
end
structure r6(c:Cn)(aW:Nat)(X:List V)(live:St->Prop)(fz:Nat->St->b1->Prop):Prop where
 alone: ∀k j h,fz k j h->lb c aW j h
 keep: ∀k j h F D h',fz k j h->Step F j h D h'-> ¬F aW->gA F h->bN c h' D->live D->fz k D h'
 item: ∀k (s:br) j (Q:Option aZ->br->Prop) v,fz k j s.heap->bN c s.heap j->live j->X[k]?=B v->
  (∀x h' tk,bk h' j v x->fz (k+1) j h'->bN c h' j->Step (· =aW) j s.heap j h'->Q (B x) { s with heap:=h',toks:=tk })->c.wp (pyNext (.ref aW)) Q s
 done: ∀(s:br) j (Q:Option aZ->br->Prop),fz X.length j s.heap->bN c s.heap j->live j->
  (∀h' tk,bN c h' j->Step (· =aW) j s.heap j h'->Q J { s with heap:=h',toks:=tk })->c.wp (pyNext (.ref aW)) Q s
 self: ∀k (s:br) j (Q:aZ->br->Prop),fz k j s.heap->bN c s.heap j->Q (.ref aW) s->c.wp (pyIter (.ref aW)) Q s
structure Ft(aW:Nat)(fF:Nat->b1->Prop):Prop where
 obj: ∀k h,fF k h-> ∃o,h.get? aW=B o/\ ¬Seq o
 keep: ∀k h h',fF k h->(∀o,h.get? aW=B o->h'.get? aW=B o)->fF k h'
def Runs(c:Cn)(aW:Nat)(X:List V)(fF:Nat->b1->Prop)(j:St)(h:b1):Prop:= ∃iD Pv mT,Walks c.prog c.w c.A aW iD [aW] X.length Pv mT/\(∀k,fF k h->k<=X.length->mT k h)/\(∀k h',mT k h'->fF k h')/\ ∀i v x,X[i]?=B v->Pv i x->bk h j v x
section
variable{c:Cn}{aW:Nat}{X:List V}{live:St->Prop}{fF:Nat->b1->Prop}{a7:St->b1->Prop}
theorem Lg{h h':b1}(k: ∀b o,b ∉ [aW]->h.get? b=B o->h'.get? b=B o):l2 aW h h':= λ b o n e=>k b o (λ m=>n (ee.mp m)) e
theorem r6.of(O:Ft aW fF)(bX:c.eE.get? aW=J)(t6: ∀j h F D h',a7 j h->Step F j h D h'->gA F h->bN c h' D->live D->a7 D h')(W: ∀j h,a7 j h->bN c h j->j aW=J->(∃o,h.get? aW=B o/\ ¬Seq o)->Runs c aW X fF j h):
  r6 c aW X live (λ k j h=>k<=X.length/\fF k h/\j aW=J/\a7 j h) where
 alone:= λ k j h ⟨_,a,b,_⟩=>⟨b,bX,O.obj k h a⟩
 keep:= λ k j h F D h' ⟨hs,a,b,x⟩ st tV dM S l=>by
  obtain⟨o,e,_⟩:=O.obj k h a
  exact⟨hs,O.keep k h h' a λ q e=>st.keep _ q e b tV,st.k4 _ o e b tV,t6 _ _ _ _ _ x st dM S l⟩
 item:= λ k s j Q v ⟨hs,a,b,x⟩ S l bF kI=>by
  have bC:lb c aW j s.heap:=⟨b,bX,O.obj k _ a⟩
  obtain⟨iD,Pv,mT,W,t,f,r⟩:=W j _ x S b bC.2.2
  have lt:=(jl.mp bF).1
  refine W.item k s Q _ lt (t k a hs) λ y h' tk p eS ak=>?_
  have ak:=Lg ak
  have st:Step (· =aW) j s.heap j h':=ak.step
  have g2:=bC.bV S ak
  exact kI y h' tk ((r k v y bF p).step st bC.dM) ⟨lt,f _ _ eS,b,t6 _ _ _ _ _ x st bC.dM g2 l⟩ g2 st
 done:= λ s j Q ⟨hs,a,b,x⟩ S l kI=>by
  have bC:lb c aW j s.heap:=⟨b,bX,O.obj _ _ a⟩
  obtain⟨iD,Pv,mT,W,t,f,r⟩:=W j _ x S b bC.2.2
  refine W.done s Q _ (t _ a hs) λ h' tk ak=>?_
  have ak:=Lg ak
  exact kI h' tk (bC.bV S ak) ak.step
 self:= λ k s j Q ⟨hs,a,b,x⟩ S kI=>by
  obtain⟨iD,Pv,mT,W,t,f,r⟩:=W j _ x S b (O.obj k _ a)
  exact W.self k s Q _ (t k a hs) kI
end
def t7(aW:Nat)(T:String)(bj:Nat->Array aZ)(k:Nat)(h:b1):Prop:= ∃o,h.get? aW=B o/\o.cls= .type T/\o.data= .fields (bj k)
def l3(c:Cn)(j:St)(s:br)(Q:fG->St->Prop)(lc:aZ)(s':br):Prop:=
 ∃fm D aW fz,lc= .ref aW/\Q fm D/\r6 c aW fm.items fm.live fz/\fz 0 D s'.heap/\fm.live D/\bN c s'.heap D/\cN c6 j s D s'/\s.heap.get? aW=J
section
variable{c:Cn}{aW a:Nat}{X bj:List V}{xs:List aZ}{j cR:St}{h nQ:b1}{T:String}{f:Nat->Array aZ}{fF:Nat->b1->Prop}{fm:fG}{a7:St->b1->Prop}{Q:fG->St->Prop}
theorem t8:Ft aW (t7 aW T f):=⟨λ k h ⟨o,e,_,d⟩=>⟨o,e,λ⟨_,_,q⟩=>Data.noConfusion (d.symm.trans q)⟩,λ k h h' ⟨o,e,r⟩ q=>⟨o,q o e,r⟩⟩
theorem Fu(n: ∃o,h.get? aW=B o/\ ¬Seq o)(q: ∃o,h.get? a=B o/\Seq o):a≠aW:= λ e=>by
 obtain⟨o,Y,n⟩:=n
 obtain⟨q,Z,s⟩:=q
 rw[e,Y]at Z;exact n (dg Z▸s)
theorem Fv{iD Pv mT}{n:Nat}(W:Walks c.prog c.w c.A aW iD [aW] n Pv mT)(aq:n=xs.length)(r:b3 h j X xs)(t: ∀k,fF k h->k<=X.length->mT k h)(f: ∀k h',mT k h'->fF k h')(p: ∀i x,i<xs.length->Pv i x->xs[i]?=B x):Runs c aW X fF j h:=
 ⟨iD,Pv,mT,(aq.trans r.length.symm)▸W,t,f,λ i v x bF aJ=>by
  obtain⟨y,bJ,hk⟩:=r.get bF
  rw[p i x (jl.mp bJ).1 aJ]at bJ
  exact dg bJ▸hk⟩
theorem Lh(ae:c.Ok)(ah:h.IsList a xs.toArray)(r:b3 h j X xs)(n: ∃o,h.get? aW=B o/\ ¬Seq o):Runs c aW X (t7 aW "list_iterator" λ i=> #[.ref a, .int i 0]) j h:=by
 have ne:a≠aW:=Fu n (by obtain⟨o,e,_,k,d⟩:=ah;exact⟨o,e,_,k,d⟩)
 exact Fv (Walks.list ae.hand aW a ne xs.toArray) gL r (λ k it _=>⟨it,ah⟩) (λ k h' s=>s.1) λ i x _ e=>nN▸e
theorem ZU(ae:c.Ok)(ah:h.IsTuple a xs.toArray)(r:b3 h j X xs)(n: ∃o,h.get? aW=B o/\ ¬Seq o):Runs c aW X (t7 aW "tuple_iterator" λ i=> #[.ref a, .int i 0]) j h:=by
 have ne:a≠aW:=Fu n (by obtain⟨o,e,_,k,d⟩:=ah;exact⟨o,e,_,k,d⟩)
 exact Fv (Walks.tuple ae.hand aW a ne xs.toArray) gL r (λ k it _=>⟨it,ah⟩) (λ k h' s=>s.1) λ i x _ e=>nN▸e
theorem ZV(ae:c.Ok)(ah:h.IsList a xs.toArray)(r:b3 h j X xs)(n: ∃o,h.get? aW=B o/\ ¬Seq o):Runs c aW X.reverse (t7 aW "list_reverseiterator" λ i=> #[.ref a,rawInt ((xs.length:Int) - 1 - i)]) j h:=by
 have ne:a≠aW:=Fu n (by obtain⟨o,e,_,k,d⟩:=ah;exact⟨o,e,_,k,d⟩)
 have ay:xs.toArray.size=xs.length:=gL
 have ln:xs.reverse.length=xs.length:=zG
 have W:=ZW (prog:=c.prog) (w:=c.w) ae.hand aW a ne xs.toArray
 rw[ay]at W
 refine Fv (xs:=xs.reverse) W ln.symm r.reverse (λ k it hs=>⟨?_,it,ah⟩) (λ k h' s=>s.2.1) λ i x bo e=>?_
 .rw[zG,r.length]at hs;exact hs
 .rw[ln]at bo
  rw[ZX bo];exact nN▸e
theorem zH(S:bN c h j):c.eE.get? h.objs.size=J:=nK.mpr λ o e=>f9 (S.base _ o e) (jD h)
theorem l3.pre{lc:aZ}{s cT s':br}(p:l3 c cR cT Q lc s')(st:cN c6 j s cR cT):l3 c j s Q lc s':=by
 obtain⟨fm,D,aW,fz,a,b,c,d,l,e,f,g⟩:=p
 exact⟨fm,D,aW,fz,a,b,c,d,l,e,st.trans f,nK.mpr λ o q=>by obtain⟨ji,qq⟩:=st.h.old _ _ q id;exact f9 qq g⟩
theorem r7{q:Obj}{g d tk os mL mM}(S:bN c h j)(co:q.isFreed=U)(l:fm.live j)(kI:Q fm j)(O:Ft h.objs.size fF)(wd:(h.push q).get? h.objs.size=B q->fF 0 (h.push q))(x:Step c6 j h j (h.push q)->a7 j (h.push q))
  (t6: ∀j h F D h',a7 j h->Step F j h D h'->gA F h->bN c h' D->fm.live D->a7 D h') (W: ∀j h',a7 j h'->bN c h' j->j h.objs.size=J->(∃o,h'.get? h.objs.size=B o/\ ¬Seq o)->Runs c h.objs.size fm.items fF j h'):
  l3 c j ⟨h,g,mL,mM,os⟩ Q (.ref h.objs.size) ⟨h.push q,g,d,tk,os⟩:=by
 have ak: ∀b o,h.get? b=B o->(h.push q).get? b=B o:= λ b o e=>iA _ e
 exact⟨fm,j,_,_,rfl,kI,r6.of O (zH S) t6 W,⟨eh _,wd (iZ _ co),S.fresh (jD h),x (Step.h4 ak)⟩,l,S.grow ak,⟨Step.h4 ak,rfl,rfl⟩,jD h⟩
theorem t9{q:Obj}(ap:q.cls= .type T)(hd:q.data= .fields (f 0))(e:h.get? aW=B q):t7 aW T f 0 h:=⟨q,e,ap,hd⟩
end
section
variable{c:Cn}{s:br}{j:St}{v:V}{x:aZ}{fm:fG}{Q:fG->St->Prop}
def Fw(_:St)(_:b1):Prop:=True
theorem ZY{l:Nat}(e:mA j (.ref l)=B fm): ∃X,j l=B (.list X)/\fm=⟨X,λ D=>D l=B (.list X)⟩:=by
 have e:(match j l with|some (.list X)=>B (⟨X,λ D=>D l=B (.list X)⟩:fG)|_=>J)=B fm:=e
 cases q:j l with
 |none=>rw[q]at e;cases e
 |some o=>
  rw[q]at e
  cases o with
  |list X=>exact⟨X,rfl,(dg e).symm⟩
  |_=>cases e
theorem ZZ{X:List V}(ae:c.Ok)(S:bN c s.heap j)(r:bk s.heap j (.tup X) x)(q:Q ⟨X,λ _=>True⟩ j):c.wp (pyIter x) (l3 c j s Q) s:=by
 obtain⟨t,xs,rfl,e,it,rs⟩:=r.tup
 exact wpAny_pyIter_tuple it (r7 (a7:= λ j h=>j t=J/\h.IsTuple t xs.toArray/\b3 h j X xs) S rfl trivial q t8 (t9 rfl rfl) (λ st=>⟨(st.tup d4 e it).1,(st.tup d4 e it).2,rs.step st d4⟩)
  (λ _ _ _ _ _ ⟨a,b,d⟩ st dM _ _=>⟨(st.tup dM a b).1,(st.tup dM a b).2,d.step st dM⟩) λ _ _ ⟨_,b,d⟩ _ _ n=>ZU ae b d n)
theorem Z0{X:List V}(ae:c.Ok)(S:bN c s.heap j)(r:bk s.heap j (.fi X) x)(q:Q ⟨X,λ _=>True⟩ j):c.wp (pyIter x) (l3 c j s Q) s:=by
 obtain⟨t,xs,rfl,e,it,rs⟩:=r.fi
 exact Z1 it (r7 (a7:= λ j h=>j t=J/\h.IsList t xs.toArray/\b3 h j X xs) S rfl trivial q t8 (t9 rfl rfl) (λ st=>⟨(st.lst d4 e it).1,(st.lst d4 e it).2,rs.step st d4⟩)
  (λ _ _ _ _ _ ⟨a,b,d⟩ st dM _ _=>⟨(st.lst dM a b).1,(st.lst dM a b).2,d.step st dM⟩) λ _ _ ⟨_,b,d⟩ _ _ n=>Lh ae b d n)
theorem Z2{l:Nat}{X:List V}(ae:c.Ok)(S:bN c s.heap j)(e:j l=B (.list X))(q:Q ⟨X,λ D=>D l=B (.list X)⟩ j):c.wp (pyIter (.ref l)) (l3 c j s Q) s:=by
 obtain⟨xs,bg,rs⟩:=S.list e
 exact Z1 bg.isList (r7 (a7:= λ j _=>j l=B (.list X)) S rfl e q t8 (t9 rfl rfl) (λ _=>e) (λ _ _ _ _ _ _ _ _ _ l=>l) λ _ _ e S _ n=>by
  obtain⟨xs,bg,rs⟩:=S.list e;exact Lh ae bg.isList rs n)
theorem Li{h:b1}{l:List Nat}(ok:hp l=G)(i:Nat)(v:V)(x:aZ)(bF:(l.map λ c=>V.str [c])[i]?=B v)(aJ:SignAt ⟨l.toArray⟩ i x):bk h j v x:=by
 obtain⟨c,u,e,rfl⟩:=aJ
 have e:l[i]?=B c:=nN▸e
 rw[jq,e]at bF
 exact dg bF▸⟨u,rfl,ET ok (o7 e)⟩
theorem Z3{l:List Nat}(ae:c.Ok)(S:bN c s.heap j)(r:bk s.heap j (.str l) x)(q:Q ⟨l.map λ c=> .str [c],λ _=>True⟩ j):c.wp (pyIter x) (l3 c j s Q) s:=by
 obtain⟨t,rfl,ok⟩:=r.str
 have aq:(⟨l.toArray⟩:Str).cps.size=(l.map λ c=>V.str [c]).length:=gL.trans (c2 _).symm
 cases aI:(⟨l.toArray⟩:Str).cps.all (· <128)
 .exact wpAny_pyIter_wide aI (r7 (a7:=Fw) S rfl trivial q t8 (t9 (f:= λ i=> #[.str ⟨l.toArray⟩ t, .int i 0]) rfl rfl) (λ _=>trivial) (λ _ _ _ _ _ _ _ _ _ _=>trivial) λ _ _ _ _ _ _=>
   ⟨_,_,_,aq▸Walks.strWide ae.hand _ ⟨l.toArray⟩ t,λ k it _=>it,λ k h' it=>it,Li ok⟩)
 .exact wpAny_pyIter_ascii aI (r7 (a7:=Fw) S rfl trivial q t8 (t9 (f:= λ i=> #[.str ⟨l.toArray⟩ t, .int i 0]) rfl rfl) (λ _=>trivial) (λ _ _ _ _ _ _ _ _ _ _=>trivial) λ _ _ _ _ _ _=>
   ⟨_,_,_,aq▸Walks.strAscii ae.hand _ ⟨l.toArray⟩ t,λ k it _=>it,λ k h' it=>it,Li ok⟩)
theorem Lj(ae:c.Ok)(S:bN c s.heap j)(r:bk s.heap j v x)(e:mA j v=B fm)(q:Q fm j):c.wp (pyIter x) (l3 c j s Q) s:=by
 cases v with
 |tup X=>exact ZZ ae S r (dg e▸q)
 |fi X=>exact Z0 ae S r (dg e▸q)
 |str l=>exact Z3 ae S r (dg e▸q)
 |ref l=>
  obtain⟨X,ao,rfl⟩:=ZY e
  have r:=r.ref
  subst r
  exact Z2 ae S ao q
 |_=>cases e
end
def qv(p:dc)(e:bh)(T:oV):Prop:= ∀s j E Q,p.At E j s.heap->T E j Q->p.wp (eval e p.env) (λ ua cT=>p.wp (pyIter ua) (l3 p.d.toCn j s Q) cT) s
section
variable{p:dc}{c:Cn}{s:br}{j:St}{e dL:bh}{bq I:b6}{pos np:Pos}{x:Str}{aX fM:V}{fm:fG}{Q:fG->St->Prop}
theorem Z4(ae:p.d.Ok)(aI:cB p e bq):qv p e (DZ bq):= λ s j E Q a t=>aI.then a t λ v aP x bt bs a5 bz bB=>by
 obtain⟨fm,ao,q⟩:=fJ bs
 exact mono (Lj ae.ok bz.bV a5 ao q) λ _ _ p=>p.pre bB
theorem Lk(e:p7 aX fM=B fm): ∃i aU,aX= .int i/\fM= .int aU/\(i.natAbs<=ay/\aU.natAbs<=ay)/\(⟨hb i aU,λ _=>True⟩:fG)=fm:=by
 cases aX with
 |int i=>
  cases fM with
  |int aU=>exact⟨i,aU,rfl,rfl,h8 e⟩
  |_=>cases e
 |_=>cases e
theorem zI{i:Int}(h:i.natAbs<=ay): -(2^62)<=i/\i<2^62:=by unfold ay at h;omega
theorem Z5(a b:Int):(((hb a b).length:Int) - ((0:Nat):Int))=ams a b 1:=by
 rw[rangeSize_one,show(hb a b).length=(b - a).toNat by unfold hb;rw[c2,Fe]]
 split<;>right
theorem range_items{h:b1}{a:Int}{n:Nat}(i:Nat)(v:V)(x:aZ)(bF:((oQ n).map λ k=>V.int (a+(k:Nat)))[i]?=B v)(aJ: ∃t,x=zJ (a+i*1) t):bk h j v x:=by
 obtain⟨t,rfl⟩:=aJ
 rw[jq]at bF
 obtain⟨k,ak,rfl⟩:=jF bF
 obtain⟨Y,Z⟩:=jl.mp ak
 rw[List.getElem_range]at Z
 subst Z
 rw[Int.mul_one]
 exact⟨t,rfl⟩
theorem Ll{a b:Int}{t u v:Tok}{r:Nat}(ae:c.Ok)(S:bN c s.heap j)(aO:IsRange s.heap r a b 1 t u v)(aI:a.natAbs<=ay)(az:b.natAbs<=ay)(q:Q ⟨hb a b,λ _=>True⟩ j):c.wp (pyIter (.ref r)) (l3 c j s Q) s:=by
 refine wpAny_pyIter_range aO (small_one (zI aI).1 (zI aI).2 (zI az).1 (zI az).2) ?_
 rw[<-Z5]
 refine r7 (a7:=Fw) (fF:= λ k h=>IsRangeIter h s.heap.objs.size (a+(k:Nat)*1) (((hb a b).length:Int) - (k:Nat)) 1) S rfl trivial q ⟨λ k h e=>⟨_,e,λ⟨_,_,q⟩=>Data.noConfusion q⟩,λ k h h' e q=>q _ e⟩ (λ e=>?_)
  (λ _=>trivial) (λ _ _ _ _ _ _ _ _ _ _=>trivial) λ _ _ _ _ _ _=>⟨_,_,_,Walks.range ae.hand _ a 1 (hb a b).length,λ k it _=>it,λ k h' it=>it,range_items⟩
 have ao:a+((0:Nat):Int)*1=a:=Int.add_zero a
 show IsRangeIter _ _ (a+((0:Nat):Int)*1) _ _
 rw[ao];exact e
theorem zK(ae:p.d.Ok)(aM:p.aa.cL=p.d.cL){g:bI}{T:String}{es:List bh}{E:ax}{R:aZ->br->Prop}(Z6: ∀y,zy s.heap j y g->y= .type T)(ah: ∀h,Looks (model p.d.prog p.d.w) h (keeperOf (.type T)) .machine)(aA:p.aa.glob x=B g)(aT:jL p.env es)(a:p.At E j s.heap)
  (h:p.wp (spliced (backTo pos (starEach es p.env))) (λ X cT=>p.wp (call (.type T) X) R cT) s):p.wp (eval (.Call (.Name x np) es [] pos) p.env) R s:=
 Fk (v8 (aM▸ae.base) a.bV a.la aA λ y bJ=>by
  have bJ:=Z6 y bJ
  subst bJ
  exact wb (first:=[]) ah aT h)
theorem Z7(ae:p.d.Ok)(aM:p.aa.cL=p.d.cL)(aA:p.aa.glob x=B .range)(ab:Arg e)(aI:cB p e bq):qv p (.Call (.Name x np) [e] [] pos) (D0 bq):= λ s j E Q a t=>
 zK ae aM (g:= .range) (T:= "range") (λ _ h=>h) (λ h=>r2 rfl) aA (mR ab mQ) a (by
  rw[ab]
  refine nS (aI.then a t λ v aP y bt bs a5 bz bB=>nR ?_)
  obtain⟨fm,ao,q⟩:=fJ bs
  obtain⟨i,aU,bo,rfl,⟨Y,Z⟩,rfl⟩:=Lk ao
  have bo:i=0:=(V.int.inj bo).symm
  subst bo
  obtain⟨u,rfl⟩:=a5.int
  refine call_range_1 ?_
  have ak: ∀c o,bt.heap.get? c=B o->(bt.heap.push { cls:= .type "range",data:= .fields #[.int 0 bt.toks, .int aU u, .int 1 (bt.toks+1)] }).get? c=B o:= λ c o e=>iA _ e
  exact mono (Ll ae.ok (bz.bV.grow ak) (Z8 ..) Y Z q) λ _ _ p=>p.pre (bB.trans ⟨(Step.h4 ak),rfl,rfl⟩))
theorem Z9(ae:p.d.Ok)(aM:p.aa.cL=p.d.cL)(aA:p.aa.glob x=B .range)(ab:Arg e)(gM:Arg dL)(aI:cB p e bq)(az:cB p dL I):qv p (.Call (.Name x np) [e,dL] [] pos) (D1 bq I):= λ s j E Q a t=>
 zK ae aM (g:= .range) (T:= "range") (λ _ h=>h) (λ h=>r2 rfl) aA (mR ab (mR gM mQ)) a (by
  rw[ab,gM]
  refine nS (aI.then a t λ v aP y bt bs a5 bz bB=>nS (az.then bz bs λ o8 bA zb b2 dq c7 cO cy=>nR ?_))
  obtain⟨fm,ao,q⟩:=fJ dq
  obtain⟨i,aU,rfl,rfl,⟨Y,Z⟩,rfl⟩:=Lk ao
  obtain⟨u,rfl⟩:=a5.int
  obtain⟨nV,rfl⟩:=c7.int
  refine call_range_2 ?_
  have ak: ∀c o,b2.heap.get? c=B o->(b2.heap.push { cls:= .type "range",data:= .fields #[.int i u, .int aU nV, .int 1 b2.toks] }).get? c=B o:= λ c o e=>iA _ e
  exact mono (Ll ae.ok (cO.bV.grow ak) (Z8 ..) Y Z q) λ _ _ p=>p.pre ((bB.trans cy).trans ⟨(Step.h4 ak),rfl,rfl⟩))
theorem aaa{v:V}(e:vz j v=B fm): ∃l X,v= .ref l/\j l=B (.list X)/\fm=⟨X.reverse,λ D=>D l=B (.list X)⟩:=by
 cases v with
 |ref l=>
  have e:(match j l with|some (.list X)=>B (⟨X.reverse,λ D=>D l=B (.list X)⟩:fG)|_=>J)=B fm:=e
  cases q:j l with
  |none=>rw[q]at e;cases e
  |some o=>
   rw[q]at e
   cases o with
   |list X=>exact⟨l,X,rfl,q,(dg e).symm⟩
   |_=>cases e
 |_=>cases e
theorem aab(ae:p.d.Ok)(aM:p.aa.cL=p.d.cL)(aA:p.aa.glob x=B .reversed)(ab:Arg e)(aI:cB p e bq):qv p (.Call (.Name x np) [e] [] pos) (D2 bq):= λ s j E Q a t=>
 zK ae aM (g:= .reversed) (T:= "reversed") (λ _ h=>h) (λ h=>r2 rfl) aA (mR ab mQ) a (by
  rw[ab]
  refine nS (aI.then a t λ v aP y bt bs a5 bz bB=>nR ?_)
  obtain⟨fm,ao,q⟩:=fJ bs
  obtain⟨l,X,rfl,aH,rfl⟩:=aaa ao
  have a5:=a5.ref
  subst a5
  obtain⟨xs,bg,rs⟩:=bz.bV.list aH
  have aq:X.length=xs.toArray.size:=rs.length.trans gL.symm
  refine aac bg.isList ?_
  rw[<-aq]
  refine wpAny_pyIter_revIter (i:=(X.length:Int) - 1) ⟨_,iZ _ rfl,rfl,rfl⟩ (l3.pre (r7 (a7:= λ j _=>j l=B (.list X)) (fF:=t7 bt.heap.objs.size "list_reverseiterator" λ i=> #[.ref l,rawInt ((X.length:Int) - 1 - i)]) bz.bV rfl aH q t8
   (t9 rfl (by show Fx _=Fx #[_,rawInt ((X.length:Int) - 1 - ((0:Nat):Int))];rw[aad,aae])) (λ _=>aH) (λ _ _ _ _ _ _ _ _ _ l=>l) λ _ _ e S _ n=>?_) bB)
  obtain⟨ys,bg,rs⟩:=S.list e
  rw[rs.length]
  exact ZV ae.ok bg.isList rs n)
end
theorem hl{α:Type}{x:α}{P:Prop}(e:J=B x):P:=nomatch e
noncomputable def dQ.store(aa:dQ)(x:Str):Option Nat:=if(aa.scope.names.lookup x==B .local||aa.scope.names.lookup x==B .cell)=G then aa.names.findIdx? (· ==x)else J
structure aaf(p:dc):Prop where
 same:p.env.scope=p.aa.scope
 inj: ∀x y b,p.env.cells.lookup x=B b->p.env.cells.lookup y=B b->x=y
 low: ∀b,fw p.env b->p.d.eE.get? b=J
 apart: ∀x b,p.env.cells.lookup x=B b->b≠p.env.locals
structure mU(p:dc)(E:ax)(j:St)(h:b1):Prop where
 e8:j7 p.aa p.env E j h
 st:aaf p
 ns: ∃m,h.Ns p.env.locals m
 ub: ∀x b,p.env.cells.lookup x=B b-> ∃v,h.IsCell b v
 len:E.length=p.aa.names.length
structure dc.eH(p:dc)(E:ax)(j:St)(h:b1):Prop where
 fo:mU p E j h
 bV:bN p.d.toCn h j
section
variable{p:dc}{j D:St}{E:ax}{h h':b1}{F:Nat->Prop}{i:Nat}{x:Str}{b:Nat}
theorem dc.eH.at(a:p.eH E j h):p.At E j h:=⟨a.fo.e8,a.bV⟩
theorem mU.pa(f:mU p E j h)(st:Step F j h D h')(dM:gA F h)(nP: ∀b,fw p.env b-> ¬F b):mU p E D h' where
 e8:=f.e8.pa st dM nP
 st:=f.st
 ns:=f.ns.imp λ m n=>Ns.of_same n λ o e=>st.keep _ _ e (f.e8.apart _ (.inl rfl)) (nP _ (.inl rfl))
 ub:= λ x c e=>by
  obtain⟨v,o,ba,hd⟩:=f.ub x c e
  exact⟨v,o,st.keep _ _ ba (f.e8.apart _ (.inr ⟨x,e⟩)) (nP _ (.inr ⟨x,e⟩)),hd⟩
 len:=f.len
theorem dc.eH.step(a:p.eH E j h)(S:bN p.d.toCn h' D)(st:Step c6 j h D h'):p.eH E D h':=⟨a.fo.pa st d4 λ _ _=>id,S⟩
theorem mU.dM(f:mU p E j h):gA (fw p.env) h:=by
 rintro a o (rfl|⟨x,aJ⟩) e ⟨xs,n,q⟩
 .obtain ⟨m,ji,es,db,ba,hd,_⟩:=f.ns
  rw[ba]at e;rw[dg e,q]at hd;exact Data.noConfusion hd
 .obtain ⟨v,ji,ba,hd⟩:=f.ub x a aJ
  rw[ba]at e;rw[dg e,q]at hd;exact Data.noConfusion hd
theorem we{aa:dQ}{c:Bool}(h:(if c=G then aa.names.findIdx? (· ==x)else J)=B i):c=G/\aa.names[i]?=B x:=by
 by_cases q:c=G
 .rw[aQ q]at h
  obtain⟨Y,Z,_⟩:=Ku.mp h
  exact⟨q,by rw[hi Y];exact congrArg B (beq_iff_eq.mp Z)⟩
 .rw[aL q]at h;exact hl h
theorem aag{aa:dQ}{y:Str}(aJ:aa.at x=B i)(bJ:aa.at y=B i):x=y:=dg ((we aJ).2.symm.trans (we bJ).2)
theorem Fy{aa:dQ}(aJ:aa.store x=B i):aa.at x=B i/\(aa.scope.names.lookup x=B .local\/aa.scope.names.lookup x=B .cell)/\i<aa.names.length:=by
 have e:=we aJ
 have ak:aa.scope.names.lookup x=B .local\/aa.scope.names.lookup x=B .cell:=((jr _ _).mp e.1).imp beq_iff_eq.mp beq_iff_eq.mp
 refine⟨?_,ak,(jl.mp e.2).1⟩
 unfold dQ.store at aJ
 rw[aQ e.1]at aJ
 unfold dQ.at
 rcases ak with q|q<;>(rw[q];exact aJ)
theorem dc.eH.frame(a:p.eH E j h)(gd:fw p.env b)(ab:tX b h h'):Step (fw p.env) j h j h'/\bN p.d.toCn h' j:=by
 have st:Step (fw p.env) j h j h':=⟨λ c o e _ n=>(ab.2 c λ x=>n (x▸gd)).trans e,λ _ _ _ e _=>e,λ c o e n=>⟨o,(ab.2 c λ x=>n (x▸gd)).trans e⟩⟩
 exact⟨st,a.bV.step st a.fo.dM (λ c o q e eq=>(ab.2 c λ x=>f9 e (x▸a.fo.e8.apart b gd)).trans eq) λ c o e uc=>f9 e (a.fo.st.low c uc)⟩
end
section
variable{p:dc}{s:br}{j:St}{E:ax}{h h':b1}{i:Nat}{x:Str}{b:Nat}{v:V}{y:aZ}
theorem Ns.same{a:Nat}{m n}(k:h.Ns a m)(l:h.Ns a n):m=n:=by
 obtain⟨o,es,db,ba,hd,_,f⟩:=k
 obtain⟨ji,t2,Lm,mV,rZ,_,aah⟩:=l
 rw[ba]at mV
 rw[dg mV,rZ]at hd
 funext z
 rw[<-f z, <-aah z,(Data.dict.inj hd).1]
theorem dc.eH.put(a:p.eH E j h)(aJ:p.aa.store x=B i)(r:bk h j v y)(gd:fw p.env b)(ab:tX b h h')(aq:o9 p.env h' x y)(bb: ∀z u,z≠x->o9 p.env h z u->o9 p.env h' z u)
  (Ln: ∃m,h'.Ns p.env.locals m) (qw: ∀z c,p.env.cells.lookup z=B c-> ∃v,h'.IsCell c v):p.eH (E.set i (B v)) j h'/\Step (fw p.env) j h j h':=by
 have st:=a.frame gd ab
 have f:=a.fo
 obtain⟨aI,_,bo⟩:=Fy aJ
 refine⟨⟨⟨⟨f.e8.kind,f.e8.glob,f.e8.v7,f.e8.imp,λ z aU u fb e=>?_,f.e8.apart,λ c uc=>?_,f.e8.cells⟩,f.st,Ln,qw,(aai).trans f.len⟩,st.2⟩,st.1⟩
 .rcases tU (i=aU)with rfl|n
  .rw[aaj (f.len▸bo)]at e
   rw[aag fb aI]
   exact⟨y,aq,dg (dg e)▸r.step st.1 f.dM⟩
  .rw[aak n]at e
   obtain⟨nV,k,Fz⟩:=f.e8.get z aU u fb e
   exact⟨nV,bb z nV (λ q=>n (dg (aI.symm.trans (q▸fb)))) k,Fz.step st.1 f.dM⟩
 .rcases uc with rfl|⟨z,e⟩
  .obtain ⟨m,o,es,db,ba,_⟩:=Ln;exact⟨o,ba⟩
  .obtain ⟨u,o,ba,_⟩:=qw z c e;exact⟨o,ba⟩
theorem wg{Q:Unit->br->Prop}(a:p.eH E j s.heap)(r:bk s.heap j v y)(aJ:p.aa.store x=B i)(q: ∀h' tk,p.eH (E.set i (B v)) j h'->Step (fw p.env) j s.heap j h'->Q () { s with heap:=h',toks:=tk }):p.wp (storeName p.env x y) Q s:=by
 have f:=a.fo
 obtain⟨_,ak,_⟩:=Fy aJ
 have zL: ∀{k},p.aa.scope.names.lookup x=B k->p.env.kindOf x=B k:= λ e=>by unfold FA;rw[f.st.same];exact e
 rcases ak with ak|ak
 .obtain ⟨m,n⟩:=f.ns
  refine aal (zL ak) n (λ h' aq ab=>?_) (by rw[f.e8.kind];rfl)
  have P:=a.put aJ r (.inl rfl) ab (.loc _ (zL ak) aq (aQ rfl)) (λ z u bb k=>?_) ⟨_,aq⟩ λ z c e=>(f.ub z c e).imp λ u fW=>fW.sameBut ab (f.st.apart z c e)
  .exact q h' _ P.1 P.2
  .rcases k with⟨gf,k,i1,e⟩|⟨c,k,e,fW⟩
   .exact .loc _ k aq ((aL bb).trans (Ns.same n i1▸e))
   .exact .cell c k e (fW.sameBut ab (f.st.apart z c e))
 .obtain ⟨_,c,ap⟩:=f.e8.cells x ak
  obtain⟨amt,fW⟩:=f.ub x c ap
  refine wpAny_storeName_cell f.e8.kind (zL ak) ap fW λ h' Lo ab=>?_
  have ne:=Fc (f.st.apart x c ap)
  have P:=a.put aJ r (.inr ⟨x,ap⟩) ab (.cell c (.inl (zL ak)) ap Lo) (λ z u bb k=>?_) (f.ns.imp λ m n=>n.sameBut ab ne) λ z nL e=>?_
  .exact q h' s.toks P.1 P.2
  .rcases k with⟨gf,k,i1,e⟩|⟨nL,k,e,FC⟩
   .exact .loc gf k (i1.sameBut ab ne) e
   .exact .cell nL k e (FC.sameBut ab λ q=>bb (f.st.inj z x c (q▸e) ap))
  .rcases tU (nL=c)with rfl|n
   .exact ⟨_,Lo⟩
   .exact (f.ub z nL e).imp λ u FC=>FC.sameBut ab n
end
def Lp(h:b1)(j:St)(ej:bM)(w:Flow):Prop:=ej.casesOn (w= .next) (w= .brk) (w= .cont) (λ v=> ∃x,w= .ret x/\bk h j v x)
def l4(p:dc)(j:St)(s:br)(K:bM->ax->St->Prop)(ej:Flow)(s':br):Prop:= ∃ka iE D,K ka iE D/\Lp s'.heap D ka ej/\p.eH iE D s'.heap/\cN (fw p.env) j s D s'
section
variable(p:dc)
def i2(st:Stmt)(T:dz):Prop:= ∀s j E K,p.eH E j s.heap->T E j K->p.wp (exec st p.env) (l4 p j s K) s
def nW(eZ:List Stmt)(T:dz):Prop:= ∀s j E K,p.eH E j s.heap->T E j K->p.wp (execs eZ p.env) (l4 p j s K) s
def ud(t:bh)(T:mE):Prop:= ∀s j E v x K Q,p.eH E j s.heap->bk s.heap j v x->T v E j K->(∀iE D s',K iE D->p.eH iE D s'.heap->cN (fw p.env) j s D s'->Q () s')->p.wp (assign t p.env x) Q s
end
section
variable{p:dc}{s:br}{j cR:St}{E:ax}{h nQ:b1}{e:bh}{bq:b6}{eo:ST}{pos q:Pos}{eZ Lq:List Stmt}{gI c5:dz}
theorem l4.pre{K:bM->ax->St->Prop}{ej:Flow}{s':br}{cT:br}(k:l4 p cR cT K ej s')(st:cN (fw p.env) j s cR cT):l4 p j s K ej s':=by
 obtain⟨a,b,c,d,e,f,g⟩:=k;exact⟨a,b,c,d,e,f,st.trans g⟩
theorem cB.kL{Q:V->St->Prop}{R:aZ->br->Prop}(aF:cB p e bq)(a:p.eH E j s.heap)(t:bq E j Q)(k: ∀v cR x cT,Q v cR->bk cT.heap cR v x->p.eH E cR cT.heap->cN c6 j s cR cT->R x cT):p.wp (eval e p.env) R s:=
 aF.then a.at t λ v aP x bt bs a5 bz bB=>k v aP x bt bs a5 (a.step bz.bV bB.h) bB
theorem gb.kL{Q:Bool->St->Prop}{R:Bool->br->Prop}(aF:gb p e eo)(a:p.eH E j s.heap)(t:eo E j Q)(k: ∀v cR cT,Q v cR->p.eH E cR cT.heap->cN c6 j s cR cT->R v cT):p.wp (isTrue e p.env (eval e p.env)) R s:=
 aF.then a.at t λ v aP bt bs bz bB=>k v aP bt bs (a.step bz.bV bB.h) bB
theorem mU.Lr(f:mU p E j h):interactive p.env=U:=by unfold interactive;rw[f.e8.kind];rfl
theorem amu{g:bh}{args:List bh}{zM:List Keyword}(aI:cB p (.Call g args zM q) bq):i2 p (.Expr (.Call g args zM q) pos) (Eh bq):= λ s j E K a t=>
 aam (aI.kL a t λ v aP x bt bs a5 bz bB=>⟨_,E,aP,bs,rfl,bz,bB.toF⟩) a.fo.Lr rfl
theorem aan(aI:cB p e bq):i2 p (.Return (B e) pos) (Eo bq):= λ s j E K a t=>
 wpAny_Return_some (aI.kL a t λ v aP x bt bs a5 bz bB=>⟨.ret v,E,aP,bs,⟨x,rfl,a5⟩,bz,bB.toF⟩)
theorem aao:i2 p (.Pass pos) (qm .next):= λ s j E K a t=>wpAny_Pass ⟨_,E,j,t,rfl,a,cN.refl⟩
theorem aap:i2 p (.Break pos) (qm .brk):= λ s j E K a t=>
 show p.wp (do standAt pos;pure Flow.brk) _ s from cE (kK (fv ⟨_,E,j,t,rfl,a,cN.refl⟩))
theorem aaq:i2 p (.Continue pos) (qm .cont):= λ s j E K a t=>
 show p.wp (do standAt pos;pure Flow.cont) _ s from cE (kK (fv ⟨_,E,j,t,rfl,a,cN.refl⟩))
theorem aar(ap:gb p e eo)(aI:nW p eZ gI)(az:nW p Lq c5):i2 p (.If e eZ Lq pos) (Ek eo gI c5):= λ s j E K a t=>
 wpAny_If (ap.kL a t λ v aP bt bs bz bB=>by
  cases v
  .exact mono (az _ _ _ _ bz bs) λ _ _ k=>k.pre bB.toF
  .exact mono (aI _ _ _ _ bz bs) λ _ _ k=>k.pre bB.toF)
theorem aas:nW p [] (qm .next):= λ s j E K a t=>Ls ⟨_,E,j,t,rfl,a,cN.refl⟩
theorem aat{st:Stmt}(aI:i2 p st gI)(az:nW p eZ c5):nW p (st::eZ) (JM gI c5):= λ s j E K a t=>
 wpAny_execs_cons (mono (aI _ _ _ _ a t) λ ej bt k=>by
  obtain⟨ka,FD,aP,bs,ic,bz,bB⟩:=k
  cases ka with
  |next=>rw[show ej= .next from ic];exact mono (az _ _ _ _ bz bs) λ _ _ k=>k.pre bB
  |brk=>rw[show ej= .brk from ic];exact⟨_,FD,aP,bs,rfl,bz,bB⟩
  |cont=>rw[show ej= .cont from ic];exact⟨_,FD,aP,bs,rfl,bz,bB⟩
  |ret v=>obtain⟨x,rfl,r⟩:=ic;exact⟨_,FD,aP,bs,⟨x,rfl,r⟩,bz,bB⟩)
end
def r8(aa:dQ)(is:List Nat):List bh->Prop:=List.rec (motive:= λ _=>List bh->Prop) (λ es=>es=[]) (λ i _ aB es=> ∃x q r,es= .Name x q::r/\aa.store x=B i/\aB r) is
section
variable{p:dc}{s:br}{j:St}{E:ax}{e dL:bh}{bq I:b6}{pos q:Pos}{x:Str}{i n:Nat}
theorem aau(bo:p.aa.store x=B i):ud p (.Name x pos) (vP i):= λ s j E v y K Q a r t q=>
 zN (wg a r bo λ h' tk wh st=>q _ _ { s with heap:=h',toks:=tk } t wh ⟨st,rfl,rfl⟩)
theorem aav(ae:p.d.Ok){attr:Str}(aq:d2 n=attr)(aI:cB p e bq):ud p (.Attribute e attr pos) (λ v E j K=>bq E j (y4 p.d.P n v E K)):= λ s j E v x K Q a r t q=>
 show p.wp (do let jo<-holding [x] (eval e p.env);standAt pos.atName;holding [x,jo] (setAttr jo attr x);release [x,jo] []) _ s from
 cE (jH (aI.kL a t λ ey aP y bt bs a5 bz bB=>cE (kK (cE (jH (by
  rw[<-aq]
  exact YB ae.base.r0 ae.jX bz.bV a5 (r.step bB.h d4) bs λ bA h' tk eQ ig cy=>Lu (q _ _ { bt with heap:=h',toks:=tk } eQ (bz.step ig cy) (bB.on cy).toF)))))))
theorem aaw(ae:p.d.Ok)(aI:cB p e bq)(az:cB p dL I):ud p (.Subscript e dL pos) (λ v E j K=>bq E j (y5 I v E K)):= λ s j E v x K Q a r t q=>by
 rw[arm_assign_Subscript]
 refine cE (jH (aI.kL a t λ ey aP y bt bs a5 bz bB=>cE (jH (az.kL bz bs λ gm bA z b2 dq c7 cO cy=>cE (kK (cE (jH ?_)))))))
 obtain⟨dR,e,k⟩:=fJ dq
 exact KI ae.ok cO.bV (a5.step cy.h d4) c7 ((r.step bB.h d4).step cy.h d4) e λ h' tk l1 fX=>Lu (q _ _ { b2 with heap:=h',toks:=tk } k (cO.step l1 fX) ((bB.trans cy).on fX).toF)
theorem Lv(is:List Nat): ∀{es:List bh} {X:List V} {xs:List aZ} {s:br} {j:St} {E:ax} {K:ax->St->Prop} {Q:Unit->br->Prop},r8 p.aa is es->p.eH E j s.heap->b3 s.heap j X xs->
  X.length=is.length->K (tF is X E) j->(∀iE D s',K iE D->p.eH iE D s'.heap->cN (fw p.env) j s D s'->Q () s')->p.wp (assignInOrder ((assignEach es p.env).map (·.2)) xs) Q s:=
 List.rec (motive:= λ is=> ∀{es:List bh} {X:List V} {xs:List aZ} {s:br} {j:St} {E:ax} {K:ax->St->Prop} {Q:Unit->br->Prop},r8 p.aa is es->p.eH E j s.heap->b3 s.heap j X xs->
   X.length=is.length->K (tF is X E) j->(∀iE D s',K iE D->p.eH iE D s'.heap->cN (fw p.env) j s D s'->Q () s')->p.wp (assignInOrder ((assignEach es p.env).map (·.2)) xs) Q s)
  (λ {es X xs s j E K Q} bo a r ah k q=>by
   cases X with
   |cons _ _=>exact kb ah
   |nil=>
    rw[show es=[]from bo,r.nI]
    exact fv (q _ _ _ k a cN.refl))
  (λ i is aB {es X xs s j E K Q} bo a r ah k q=>by
   obtain⟨x,FE,es,rfl,ab,bo⟩:=bo
   cases X with
   |nil=>exact kb ah
   |cons v X=>
    obtain⟨y,ys,rfl,a5,r⟩:=r.inv
    show p.wp (do holding _ (assign (.Name x FE) p.env y);assignInOrder ((assignEach es p.env).map (·.2)) ys) _ s
    exact cE (jH (zN (wg a a5 ab λ h' tk wh st=>aB (s:={ s with heap:=h',toks:=tk }) bo wh (r.step st a.fo.dM) (pe ah) k λ iE D s' gj cO cy=>q _ _ _ gj cO (cN.off st cy)))))
  is
theorem aax{env:Env}(is:List Nat): ∀es,r8 p.aa is es->(assignEach es env).length=is.length/\(assignEach es env).findIdx? (·.1)=J:=
 List.rec (motive:= λ is=> ∀es,r8 p.aa is es->(assignEach es env).length=is.length/\(assignEach es env).findIdx? (·.1)=J) (λ es h=>by rw[show es=[]from h];exact⟨rfl,rfl⟩)
  (λ i is aB es ⟨x,FE,t2,e,_,h⟩=>by
   subst e
   exact⟨congrArg oY (aB _ h).1,by
    show List.findIdx? _ ((U,assign (.Name x FE) env)::assignEach t2 env)=J
    rw[List.findIdx?_cons,(aB _ h).2];rfl⟩) is
def aay(is:List Nat):mE:= λ v E j K=>match v with
 | .tup X=>X.length=is.length/\K (tF is X E) j
 |_=>False
theorem aaz(ae:p.d.Ok){es:List bh}{k:Nat}{is:List Nat}(bo:r8 p.aa is es):ud p (.Tuple es k pos) (aay is):= λ s j E v x K Q a r t q=>by
 cases v with
 |tup X=>
  obtain⟨ah,zO⟩:=t
  obtain⟨l,xs,rfl,e,it,rs⟩:=r.tup
  obtain⟨jK,wi⟩:=aax (env:=p.env) is es bo
  refine aaA ae.ok.hand it (by rw[jK, <-ah,rs.length,gL]) wi λ h' aJ=>?_
  have ak: ∀b o,s.heap.get? b=B o->h'.get? b=B o:= λ b o e=>aJ b o (λ q=>f9 e (q▸jD _)) e
  have st:Step c6 j s.heap j h':=Step.h4 ak
  exact Lv is (s:={ s with heap:=h' }) bo (a.step (a.bV.grow ak) st) (rs.step st d4) ah zO λ iE D s' gj cO cy=>q _ _ _ gj cO (cN.off st.toF cy)
 |_=>exact t.elim
end
section
variable{p:dc}{s:br}{j:St}{E:ax}{e dL Lw t:bh}{bq I Lx:b6}{eo:ST}{c5:dz}{eZ:List Stmt}{pos q np:Pos}{x:Str}{i:Nat}{op:f4}{g:mE}
theorem lf{α:Type}{m:Sem α}{Q R:α->br->Prop}{hx:aZ->br->Prop}(a:p.wp m Q s)(k: ∀x s',Q x s'->R x s'):wpAny (model p.d.prog p.d.w) p.d.A m R hx s:=t4 a k λ _ _ e=>e.elim
theorem zP(ab:swapsWithSole [t] e pos.line p.env=pure U)(hw:swappedStores [t] e p.env=pure J)(aN:(assignEach [t] p.env).map (·.2)=[assign t p.env])(aI:cB p e bq)(aM:ud p t g):i2 p (.Assign [t] e pos) (tQ g bq):= λ s j E K a k=>
 wpAny_Assign_stores (aI.kL a k λ u aP x bt bs a5 bz bB=>by
  rw[aN]
  show p.wp (assign t p.env x) _ bt
  exact aM _ _ _ _ _ _ _ bz a5 bs λ iE D s' k cO cy=>⟨_,iE,D,k,rfl,cO,bB.toF.trans cy⟩) ab hw
theorem aaB(bo:p.aa.store x=B i)(aI:cB p e bq):i2 p (.AugAssign (.Name x np) (mK op) e pos) (Ei i op bq):= λ s j E K a t=>by
 obtain⟨o,ao,t⟩:=fJ t
 have ao:E[i]?=B (B o):=by
  obtain⟨u,Y,Z⟩:=l0 ao
  rw[Y,show u=B o from Z]
 obtain⟨y,nm,fi⟩:=a.fo.e8.get x i o (Fy bo).1 ao
 have go:p.wp (eval e p.env) (λ v jE=>p.wp (inplaceOp (mK op) y v) (λ r nX=>p.wp (storeName p.env x r) (λ _=>l4 p j s K .next) nX) jE) s:=
  aI.kL a t λ u aP z bt bs a5 bz bB=>by
   obtain⟨r,aH,k⟩:=fJ bs
   exact(EQ (fi.step bB.h d4) a5 op aH λ z tk j4=>wg (s:={ bt with toks:=tk }) bz j4 bo λ h' qr cO cy=>⟨_,_,aP,k,rfl,cO,bB.toF.on cy⟩).2
 refine wpAny_AugAssign_Name ?_
 rcases nm with⟨m,k,n,e⟩|⟨c,k|⟨k,eQ⟩,e,fW⟩
 .exact YO a.fo.e8.kind k n e go
 .exact YQ a.fo.e8.kind k e fW go
 .exact YR a.fo.e8.kind k e fW go eQ
def Ly(e:bh):Prop:= ∀jo lc new,augStore e jo lc new=(do holding [new,jo,lc] (setItem jo lc new);release [new,jo,lc] [];pure .next)
theorem aaC(ae:p.d.Ok)(ab:Ly dL)(Y:cB p e bq)(Z:cB p dL I)(aE:cB p Lw Lx):i2 p (.AugAssign (.Subscript e dL q) (mK op) Lw pos) (Ej bq I op Lx):= λ s j E K a t=>by
 rw[arm_exec_AugAssign_3]
 refine cE (kK (cE (Y.kL a t λ ey aP x bt bs a5 bz bB=>cE (jH (Z.kL bz bs λ gm bA y b2 dq c7 cO cy=>?_)))))
 have a5:=a5.step cy.h d4
 obtain⟨old,ao,dq⟩:=fJ dq
 obtain⟨T,id,_,_,aM⟩:=Kp (Q:= λ z s'=> ∃tk,s'={ b2 with toks:=tk }/\bk b2.heap bA old z) ae.ok cO.bV a5 c7 ao λ z tk j4=>⟨tk,rfl,j4⟩
 refine cE (jH (cE (kK (cE (mono aM λ z s' bb=>?_)))))
 obtain⟨tk,rfl,j4⟩:=bb
 refine cE (jH (aE.kL (s:={ b2 with toks:=tk }) cO dq λ u dR q eF nU h7 iC fX=>cE (kK ?_)))
 obtain⟨r,aH,nU⟩:=fJ nU
 obtain⟨fY,cG,k⟩:=fJ nU
 refine wpAny_operating (EQ (j4.step fX.h d4) h7 op aH λ fc qr aaD=>cE (kK ?_)).2
 rw[ab]
 exact cE (jH (KI (s:={ eF with toks:=qr }) ae.ok iC.bV (a5.step fX.h d4) (c7.step fX.h d4) aaD cG λ h' amv ue j9=>
  cE (Lu (fv ⟨_,E,fY,k,rfl,iC.step ue j9,(((bB.trans cy).tk.trans fX).on j9).toF⟩))))
theorem Lz{aW:Nat->br->Prop}{R:Flow->br->Prop}{n m:Nat}{e6:dz}{K:bM->ax->St->Prop}{ka:bM}{ej:Flow}{fe:St}{eI:br}(aG:m<n)(k:gW e6 K ka E j)(ic:Lp s.heap j ka ej)(a:p.eH E j s.heap)(st:cN (fw p.env) fe eI j s)(mG:e6 E j K->aW m s)(fin: ∀f s,l4 p fe eI K f s->R f s):
  match(generalizing:=false) ej with
  | .next| .cont=> ∃m,m<n/\aW m s
  | .brk=>R .next s
  | .ret v=>R (.ret v) s:=by
 cases ka with
 |next=>rw[show ej= .next from ic];exact⟨m,aG,mG k⟩
 |cont=>rw[show ej= .cont from ic];exact⟨m,aG,mG k⟩
 |brk=>rw[show ej= .brk from ic];exact fin _ _ ⟨_,E,j,k,rfl,a,st⟩
 |ret v=>obtain⟨x,rfl,r⟩:=ic;exact fin _ _ ⟨_,E,j,k,⟨x,rfl,r⟩,a,st⟩
def zQ(p:dc)(fe:St)(eI:br)(T:ax->St->b1->Prop)(s:br):Prop:= ∃E j,p.eH E j s.heap/\cN (fw p.env) fe eI j s/\T E j s.heap
theorem aaE(ap:gb p e eo)(az:nW p eZ c5):i2 p (.While e eZ [] pos) (El eo c5):= λ s j E K a t=>by
 obtain⟨n,t⟩:=t
 refine wpAny_While (codeAny_whileLoop (λ n cT=>zQ p j s (λ E j _=>ep eo c5 n E j K) cT) ?_ n ⟨E,j,a,cN.refl,t⟩)
 intro n cT z
 obtain⟨FF,cR,bz,bB,bs⟩:=z
 cases n with
 |zero=>exact bs.elim
 |succ n=>
  refine lf (p:=p) (ap _ _ _ _ bz.at bs) λ v b2 k=>?_
  obtain⟨bA,dq,ig,cy⟩:=k
  have cO:=bz.step ig cy.h
  have cy:=bB.trans cy.toF
  cases v
  .exact Ls ⟨_,FF,bA,dq,rfl,cO,cy⟩
  .refine lf (p:=p) (az _ _ _ _ cO dq) λ ej eF k=>?_
   obtain⟨ka,aaF,dR,nU,ic,iC,fX⟩:=k
   exact Lz (aW:= λ n cT=>zQ p j s (λ E j _=>ep eo c5 n E j K) cT) (k7 n) nU ic iC (cy.trans fX) (λ t=>⟨aaF,dR,iC,cy.trans fX,t⟩) λ _ _ q=>q
end
def uf(e:bh):Prop:= ∀env x,foldedSetIterable e env x=pure x
def LA(p:dc)(t:bh)(it:aZ)(R:ax->St->br->Prop)(r:Option aZ)(s:br):Prop:=
 ∃v,r=B v/\p.wp (letOwnedTupleGo t it v) (λ _ cT=>p.wp (assign t p.env v) (λ _ jE=> ∃E j,R E j jE) cT) s
def LB(p:dc)(aW:Nat)(j:St)(s:br)(fA:St->b1->Prop)(R:ax->St->Prop)(iE:ax)(D:St)(s':br):Prop:=R iE D/\p.eH iE D s'.heap/\cN (λ b=>fw p.env b\/b=aW) j s D s'/\fA D s'.heap
section
variable{p:dc}{s:br}{j cR:St}{E:ax}{e:bh}{c5:dz}{eZ:List Stmt}{pos np:Pos}{x:Str}{i:Nat}{T:oV}
theorem aaG{live:St->Prop}{pf:mE}{b:dz}{K:bM->ax->St->Prop}: ∀X,ql live pf b X E j K->live j:= λ X=>
 List.rec (motive:= λ X=>ql live pf b X E j K->live j) (λ t=>t.1) (λ _ _ _ t=>t.1) X
theorem FG{F:Nat->Prop}{aW:Nat}{FH cH r9:b1}{fe:St}(st:Step F fe FH j cH)(q:Step (λ b=>F b\/b=aW) j cH cR r9)(fN:FH.get? aW=J):Step F fe FH cR r9:=
 ((st.weak (bI:= λ b=>F b\/b=aW) λ _=> .inl).trans q).narrow λ x o aJ e=>aJ.resolve_right λ h=>f9 e (h▸fN)
theorem FI{F:Nat->Prop}{aW:Nat}{eI s s':br}{fe:St}(st:cN F fe eI j s)(q:cN (λ b=>F b\/b=aW) j s cR s')(fN:eI.heap.get? aW=J):cN F fe eI cR s':=⟨FG st.h q.h fN,q.o.trans st.o,q.g.trans st.g⟩
def LC(p:dc)(fA:List V->St->b1->Prop)(l:List V->dz)(K:bM->ax->St->Prop)(n:Nat)(E:ax)(j:St)(h:b1):Prop:= ∃X:List V,n=X.length/\fA X j h/\l X E j K
theorem LD{j2:Flow->br->Prop}{t:bh}{aW:Nat}{live:St->Prop}{pf:mE}{K:bM->ax->St->Prop}{X:List V}{fe:St}{eI:br}(az:nW p eZ c5)(fA:List V->St->b1->Prop)
  (keep: ∀X E j h D h',p.eH E j h->fA X j h->Step (fw p.env) j h D h'->bN p.d.toCn h' D->live D->fA X D h')
  (next: ∀v X s E j R,p.eH E j s.heap->live j->fA (v::X) j s.heap->pf v E j R->p.wp (pyNext (.ref aW)) (LA p t (.ref aW) (LB p aW j s (fA X) R)) s)
  (stop: ∀s E j,p.eH E j s.heap->live j->fA [] j s.heap->p.wp (pyNext (.ref aW)) (λ r s'=>r=J/\p.eH E j s'.heap/\cN (· =aW) j s j s') s)
  (a:p.eH E j s.heap) (z:fA X j s.heap) (k:ql live pf c5 X E j K) (st:cN (fw p.env) fe eI j s) (fN:eI.heap.get? aW=J) (fin: ∀f s,l4 p fe eI K f s->j2 f s):
  codeAny (model p.d.prog p.d.w) p.d.A (.forLoop t (.ref aW) eZ [] p.env) (λ r s'=>match r with| .ok f=>j2 f s'| .error e=>cameBackBy (model p.d.prog p.d.w) p.d.A p.env (λ _ _=>False) e s') s:=by
 refine codeAny_forLoop_any (λ n=>zQ p fe eI (LC p fA (ql live pf c5) K n)) ?_ X.length ⟨E,j,a,st,X,rfl,z,k⟩
 intro n cT z
 obtain⟨FF,cR,bz,bB,z⟩:=z
 obtain⟨X,rfl,js,bs⟩:=z
 cases X with
 |nil=>
  refine lf (p:=p) (stop _ _ _ bz bs.1 js) λ r b2 q=>?_
  obtain⟨rfl,cO,cy⟩:=q
  exact Ls (fin _ _ ⟨_,FF,cR,bs.2,rfl,cO,FI bB (cy.weak λ _=> .inr) fN⟩)
 |cons v X=>
  refine lf (p:=p) (next v X _ _ _ _ bz bs.1 js bs.2) λ r b2 q=>?_
  obtain⟨v,rfl,q⟩:=q
  refine lf (p:=p) q λ _ eF q=>lf (p:=p) q λ _ jt q=>?_
  obtain⟨amw,fY,qx,mW,j9,aaH⟩:=q
  have st:=FI bB j9 fN
  refine lf (p:=p) (az _ _ _ _ mW qx) λ ej qy q=>?_
  obtain⟨ka,aaI,hD,zR,ic,kM,FJ⟩:=q
  exact Lz (aW:= λ n=>zQ p fe eI (LC p fA (ql live pf c5) K n)) (k7 X.length) zR ic kM (st.trans FJ) (λ t=>⟨aaI,hD,kM,st.trans FJ,X,rfl,keep _ _ _ _ _ _ mW aaH FJ.h kM.bV (aaG _ t),t⟩) fin
theorem mU.FK{aW:Nat}{h:b1}(f:mU p E j h)(fN:h.get? aW=J): ¬fw p.env aW:= λ a9=>by
 obtain⟨o,e⟩:=f.e8.live aW a9;exact f9 e fN
theorem dc.eH.one{aW k:Nat}{X:List V}{live:St->Prop}{fz:Nat->St->b1->Prop}{h h':b1}(a:p.eH E j h)(W:r6 p.d.toCn aW X live fz)(aU:fz k j h)(n: ¬fw p.env aW)(S:bN p.d.toCn h' j)(st:Step (· =aW) j h j h'):p.eH E j h':=
 ⟨a.fo.pa st (W.alone k j h aU).dM λ b gd q=>n (q▸gd),S⟩
theorem zS{α:Type}{l r:List α}{k:Nat}{v:α}(e:v::r=l.drop k):l[k]?=B v/\r=l.drop (k+1):=by
 have h:l[k]?=B v:=by rw[<-aaJ k, <-EY, <-e];rfl
 exact⟨h,by rw[<-List.tail_drop, <-e];rfl⟩
def zT(l:List V)(fz:Nat->St->b1->Prop)(X:List V)(j:St)(h:b1):Prop:= ∃k,X=l.drop k/\k<=l.length/\fz k j h
theorem aaK(bo:p.aa.store x=B i)(ab:uf e)(mX:qv p e T)(az:nW p eZ c5):i2 p (.For (.Name x np) e eZ [] pos) (Em i T c5):= λ s j E K a t=>by
 refine wpAny_For (mono (mX s j E _ a.at t) λ ua bt Y=>mono Y λ lc b2 k=>?_) (λ x=>ab _ x)
 obtain⟨fm,bA,aW,fz,rfl,dq,W,nY,b0,ig,cy,gN⟩:=k
 have ju:=a.fo.FK gN
 refine LD az (zT fm.items fz) (λ X E j h D h' a z st S l=>?_) (λ v X s E j R a l z t=>?_) (λ s E j a l z=>?_) (a.step ig cy.h) ⟨0,rfl,eh _,nY⟩ dq cy.toF gN (λ _ _ q=>q)
 .obtain ⟨k,e,hs,aU⟩:=z
  exact⟨k,e,hs,W.keep _ _ _ _ _ _ aU st ju a.fo.dM S l⟩
 .obtain ⟨k,e,hs,aU⟩:=z
  obtain⟨bF,dL⟩:=zS e
  exact W.item k s j _ v aU a.bV l bF λ y h' tk hk wj ig cy=>⟨y,rfl,wpAny_of_eq (a:=()) rfl (zN (wg (s:={ s with heap:=h',toks:=tk }) (a.one W aU ju ig cy) hk bo λ aE amx iC fX=>
   ⟨_,j,t,iC,⟨(cy.weak λ _=> .inr).trans (fX.weak λ _=> .inl),rfl,rfl⟩,k+1,dL,(jl.mp bF).1,W.keep _ _ _ _ _ _ wj fX ju (a.one W aU ju ig cy).fo.dM iC.bV l⟩))⟩
 .obtain ⟨k,e,hs,aU⟩:=z
  rw[zC hs (FL.mp e.symm)]at aU
  exact W.done s j _ aU a.bV l λ h' tk g2 eS=>⟨rfl,a.one W aU ju g2 eS,⟨eS,rfl,rfl⟩⟩
end
section
variable{p:dc}{c:Cn}{s:br}{j cR rW:St}{E:ax}{h nQ:b1}{a:Nat}{kvs:List (a2×V)}
theorem h6.fR(ag:h6 c h j a kvs)(f:kvs.all (λ x=>x.1.fR)=G):tR c h j a kvs:=by
 cases kvs with
 |nil=>exact ag.tT (k:= .i 0) rfl λ _ _ e=>nomatch e
 |cons cn r=>
  have f:=(aV (jv▸f)).1
  refine ag.tT (k:=cn.1) ?_ λ x y e=>?_
  .show cn.1.CB cn.1=G
   cases cn.1<;>rfl
  .rw[e]at f;exact d3 f
theorem aaL{k:a2}{y:aZ}(e:oZ k y=G)(f:k.fR=G):bk h j k.val y:=by
 rcases o0 e with⟨x,t,rfl,rfl⟩|⟨n,t,rfl,rfl⟩
 .exact ⟨t,rfl,f⟩
 .exact ⟨t,rfl⟩
theorem FM{b:Nat}(e:j b=J):j.del a b=J:=by unfold St.del;split<;>first|rfl|exact e
theorem aaM{K:bM->ax->St->Prop}{ej:Flow}{eI:br}(A:p.eH E j eI.heap)(e:j a=B (.dict kvs))(q:l4 p (j.del a) eI (vQ a kvs K) ej s):l4 p j eI K ej s:=by
 obtain⟨ka,aaN,bA,k,ic,cO,st,pg,aaO⟩:=q
 have lg: ¬fw p.env a:= λ f=>f9 e (A.fo.e8.apart a f)
 have ag:=A.bV.dict e
 obtain⟨o,es,db,ba,aJ⟩:=ag.o1
 have bX:p.d.eE.get? a=J:=nK.mpr λ o q=>f9 e (A.bV.low a o q)
 have aH:=st.k4 a o ba (St.EA j a) lg
 have v1:=st.keep a o ba (St.EA j a) lg
 have mY:=(A.bV.del (a:=a) λ x q=>by rw[e]at q;exact O.noConfusion (dg q)).2
 have LF:=(ag.step mY d4 λ _ q=>q).step st A.fo.dM λ ji q=>(dg (ba.symm.trans q))▸v1
 have dM:gA (· =a) s.heap:= λ b q cd co=>by rw[cd]at co;exact LF.o1.noSeq co
 have C:=cO.bV.set (F:=(· =a)) (h':=s.heap) (o:= .dict kvs) aH bX dM (λ _ e=>e) ⟨o,v1⟩ (.inl rfl) (λ _ _ e=>e) λ st=>LF.step st dM λ _ q=>q
 refine⟨ka,aaN,_,k,?_,⟨cO.fo.pa C.2 dM λ b gd q=>lg (q▸gd),C.1⟩,⟨λ b o q s f=>st.keep b o q (FM s) f,λ b o q s f=>(St.j3 bA _ (λ x:b=a=>f9 e ((congrArg j x).symm.trans s))).trans (st.k4 b o q (FM s) f),λ b o q f=>st.old b o q f⟩,pg,aaO⟩
 cases ka with
 |ret v=>exact ic.imp λ x q=>⟨q.1,q.2.step C.2 dM⟩
 |_=>exact ic
end
theorem dW.get{dv:Type}{R:V->dv->Prop}(kvs:List (a2×V)): ∀(l:List (a2×dv)) (i:Nat) (k:a2) (b:dv),dW R kvs l->l[i]?=B (k,b)-> ∃v,kvs[i]?=B (k,v)/\R v b:=
 List.rec (motive:= λ kvs=> ∀(l:List (a2×dv)) (i:Nat) (k:a2) (b:dv),dW R kvs l->l[i]?=B (k,b)-> ∃v,kvs[i]?=B (k,v)/\R v b) (λ l i k b p e=>by rw[show l=[]from p]at e;exact hl e)
  (λ cn r aB l i k b p e=>by
   obtain⟨gj,v⟩:=cn
   obtain⟨gJ,m,rfl,a,p⟩:=p.inv
   cases i with
   |zero=>
    obtain⟨rfl,rfl⟩:=sa (dg e)
    exact⟨v,rfl,a⟩
   |succ i=>exact aB m i k b p e) kvs
noncomputable def LG(x:a2×V):V:= .tup [x.1.val,x.2]
def qz(c:Cn)(aW a db:Nat)(kvs:List (a2×V))(l:List (a2×aZ))(X:List V)(j:St)(h:b1):Prop:=
 ∃k ok jo,(X=(kvs.map LG).drop k/\k<=l.length)/\IsItemIter h aW a k l.length db ok jo/\j aW=J/\j a=J/\h.DictAt (hA c) a l db/\dW (bk h j) kvs l
section
variable{p:dc}{s:br}{j D:St}{E:ax}{h h':b1}{aW a db i aU:Nat}{kvs:List (a2×V)}{l:List (a2×aZ)}{X:List V}{k v:Str}{gq zU ph:Pos}{b8:Nat}
theorem FN{c:Cn}{F:Nat->Prop}(st:Step F j h D h')(dM:gA F h)(lg: ¬F a)(z:j a=J/\h.DictAt (hA c) a l db/\dW (bk h j) kvs l):D a=J/\h'.DictAt (hA c) a l db/\dW (bk h' D) kvs l:=by
 obtain⟨e,d,qA⟩:=z
 obtain⟨o,es,ba,r⟩:=d
 exact⟨st.k4 _ _ ba e lg,⟨o,es,st.keep _ _ ba e lg,r⟩,qA.mono (λ _ _ q=>q.step st dM) _ _⟩
theorem LH{F:Nat->Prop}(st:Step F j h D h')(dM:gA F h)(ju: ¬F aW)(lg: ¬F a)(z:qz p.d.toCn aW a db kvs l X j h):qz p.d.toCn aW a db kvs l X D h':=by
 obtain⟨k,ok,jo,e,it,sb,z⟩:=z
 exact⟨k,ok,jo,e,st.keep _ _ it sb ju,st.k4 _ _ it sb ju,FN st dM lg z⟩
theorem aaP(ae:p.d.Ok)(ju: ¬fw p.env aW)(bX:p.d.eE.get? aW=J)(A:p.eH E j s.heap)(z:qz p.d.toCn aW a db kvs l [] j s.heap):p.wp (pyNext (.ref aW)) (λ r s'=>r=J/\p.eH E j s'.heap/\cN (· =aW) j s j s') s:=by
 obtain⟨k,ok,jo,⟨e,hs⟩,it,sb,b7,d,qA⟩:=z
 have bF:l[k]?=J:=wk (by rw[<-dW.len _ _ qA];have:=FL.mp e.symm;rw[c2]at this;exact this)
 refine wpAny_pyNext_items_end ae.ok.hand it d bF λ aE aF=>?_
 have bC:lb p.d.toCn aW j s.heap:=⟨sb,bX,_,it,λ⟨_,_,q⟩=>Data.noConfusion q⟩
 have ak:l2 aW s.heap aE:= λ b o n e=>aF b o n e
 exact⟨rfl,⟨A.fo.pa ak.step bC.dM λ b gd q=>ju (q▸gd),bC.bV A.bV ak⟩,⟨ak.step,rfl,rfl⟩⟩
theorem aaQ(ae:p.d.Ok)(bo:p.aa.store k=B i)(fb:p.aa.store v=B aU)(ju: ¬fw p.env aW)(lg: ¬fw p.env a)(ne:a≠aW)(bX:p.d.eE.get? aW=J)(fR:kvs.all (λ x=>x.1.fR)=G){u:V}{R:ax->St->Prop}(A:p.eH E j s.heap)(z:qz p.d.toCn aW a db kvs l (u::X) j s.heap)(t:JL i aU u E j R):
  p.wp (pyNext (.ref aW)) (LA p (.Tuple [.Name k gq, .Name v zU] b8 ph) (.ref aW) (LB p aW j s (qz p.d.toCn aW a db kvs l X) R)) s:=by
 obtain⟨n,ok,jo,⟨e,hs⟩,it,sb,z⟩:=z
 obtain⟨bE,dL⟩:=zS e
 rw[jq]at bE
 obtain⟨cn,zV,rfl⟩:=jF bE
 have ln:=dW.len _ _ z.2.2
 have o2:n<l.length:=ln▸(jl.mp zV).1
 have ah:=hi o2
 generalize l[n]=zM at ah
 obtain⟨zO,nZ⟩:=zM
 obtain⟨w,hw,FO⟩:=z.2.2.get _ _ _ _ _ ah
 have aaR:cn=(zO,w):=dg (zV.symm.trans hw)
 subst aaR
 have aaS:zO.fR=G:=hh.mp fR _ (o7 hw)
 have bC:lb p.d.toCn aW j s.heap:=⟨sb,bX,_,it,λ⟨_,_,q⟩=>Data.noConfusion q⟩
 refine wpAny_pyNext_items_item it z.2.1 ah λ key aE aaT aaU aaV aaW aaX=>⟨_,rfl,wpAny_letOwnedTupleGo_items aaU λ bv aaY FP=>aaA ae.ok.hand (items:= #[key,nZ]) (⟨_,(FP.2 _ (zm (vU it))).trans aaV,rfl,_,rfl⟩) rfl rfl λ cw LI=>?_⟩
 have apart: ∀b:Nat,b<s.heap.objs.size->b≠bv.objs.size:= λ b az=>by rw[show bv.objs.size=s.heap.objs.size+1 from FP.1.trans aaW];exact zr (zW az)
 have ak:l2 aW s.heap cw:= λ b o az e=>LI b o (apart b (vU e)) ((FP.2 b az).trans (aaX b o az e))
 have kM:p.eH E j cw:=⟨A.fo.pa ak.step bC.dM λ b gd q=>ju (q▸gd),bC.bV A.bV ak⟩
 have aaZ:=FN ak.step bC.dM ne z
 have fc:qz p.d.toCn aW a db kvs l X j cw:=⟨n+1,key,nZ,⟨dL,o2⟩,LI aW _ (apart aW (vU it)) aaY,sb,aaZ⟩
 refine Lv [i,aU] (s:={ s with heap:=cw }) (K:=R) ⟨k,gq,_,rfl,bo,v,zU,_,rfl,fb,rfl⟩ kM (.cons (aaL aaT aaS) (.one (FO.step ak.step bC.dM))) rfl t λ aa0 gO sd zX pj LJ=>⟨aa0,gO,zX,pj,cN.off (ak.step.weak λ _=> .inr) (LJ.weak λ _=> .inl),LH LJ.h kM.fo.dM ju lg fc⟩
end
section
variable{p:dc}{s:br}{j:St}{E:ax}{o:bh}{i aU a:Nat}{bq:b6}{c5:dz}{eZ:List Stmt}{k v:Str}{gq zU ph iB FQ pos:Pos}{b8:Nat}{kvs:List (a2×V)}{K:bM->ax->St->Prop}
theorem aa1(ae:p.d.Ok)(A:p.eH E j s.heap)(e:j a=B (.dict kvs))(fR:kvs.all (λ x=>x.1.fR)=G){R:aZ->br->Prop}
  (go: ∀aW db l h',s.heap.get? aW=J->(∀b o,s.heap.get? b=B o->h'.get? b=B o)->qz p.d.toCn aW a db kvs l (kvs.map LG) (j.del a) h'->R (.ref aW) { s with heap:=h' }) (bg:Sem Bool):
  p.wp (getMethod (.ref a) "items" bg) (λ pc cT=>p.wp (callWith FQ pc.1 pc.2 [] []) (λ ua jE=>p.wp (pyIter ua) R jE) cT) s:=by
 have ag:=A.bV.dict e
 obtain⟨mZ,es,db,Y,Z,aE⟩:=ag.o1
 obtain⟨l,se,qA⟩:=ag.fR fR
 refine Fn (T:= "dict") (tZ ag) Lf aa2 PySem.F.type_dict_items (λ b az=>⟨mZ,(zE az)▸Y,Z.2.1⟩) ?_
 refine aa3 aa2 PySem.F.entry_dict_items rfl (aa4 ⟨rfl,se.typeIs,PySem.F.args_dict_items_1 _,_,meets_dict_items (hA p.d.toCn) a (v0 ae.ok A.bV e),⟨l,se⟩,?_⟩)
 obtain⟨o,es,db,kN⟩:=se
 have kN:s.heap.DictAt (hA p.d.toCn) a l db:=⟨o,es,kN⟩
 have ed: ∀b o,s.heap.get? b=B o->(s.heap.push { cls:= .type "dict_items",data:= .fields #[.ref a] }).get? b=B o:= λ b o e=>iA _ e
 refine wpAny_pyIter_items (d:=a) (kvs:=l) (knd:=hA p.d.toCn) ⟨_,iZ _ rfl,rfl,rfl⟩ (kN.at λ o e=>ed _ _ e) ?_
 have ak: ∀b o,s.heap.get? b=B o->((s.heap.push { cls:= .type "dict_items",data:= .fields #[.ref a] }).push { cls:= .type "dict_itemiterator",data:= .fields #[.none, .bool U, .ref a, .int 0 0, .int l.length 0, .int db 0, .none, .none] }).get? b=B o:= λ b o e=>iA _ (ed _ _ e)
 have gN:s.heap.get? (s.heap.push { cls:= .type "dict_items",data:= .fields #[.ref a] }).objs.size=J:=nK.mpr λ o e=>f9 (ed _ _ e) (jD _)
 have mY:=(A.bV.del (a:=a) λ x q=>by rw[e]at q;exact O.noConfusion (dg q)).2
 exact go _ db l _ gN ak ⟨0, .none, .none,⟨rfl,eh _⟩,iZ _ rfl,FM (A.bV.fresh gN),FN (F:=c6) (Step.h4 ak) d4 id ⟨St.EA j a,kN,qA.mono (λ _ _ q=>q.step mY d4) _ _⟩⟩
theorem aa5{P:Nat->List (a2×V)->Prop}{iw:V}(h:vD iw j P): ∃a kvs,iw= .ref a/\j a=B (.dict kvs)/\kvs.all (λ x=>x.1.fR)=G/\P a kvs:=by
 cases iw with
 |ref a=>
  obtain⟨kvs,e,f,h⟩:=zs (P:= λ kvs=>kvs.all (λ x=>x.1.fR)=G/\P a kvs) h
  exact⟨a,kvs,rfl,e,f,h⟩
 |_=>exact h.elim
theorem aa6(ae:p.d.Ok)(bo:p.aa.store k=B i)(fb:p.aa.store v=B aU)(aa7: ∀t,attributeBase o "items" p.env t=t)(ah:(iB.endLine==FQ.line)=G)(ba:cB p o bq)(az:nW p eZ c5):
  i2 p (.For (.Tuple [.Name k gq, .Name v zU] b8 ph) (.Call (.Attribute o "items" iB) [] [] FQ) eZ [] pos) (En i aU bq c5):= λ s j E K A t=>by
 refine wpAny_For ?_ (λ x=>rfl)
 rw[Fp,aa7]
 refine cE (ba.kL A t λ ey aP x bt bs a5 bz bB=>cE (kK (zB ah (hC _) mQ λ bg=>?_)))
 obtain⟨a,kvs,rfl,ao,fR,bs⟩:=aa5 bs
 have a5:=a5.ref
 subst a5
 refine aa1 ae bz ao fR (λ aW db l h' gN ak z=>?_) bg
 have ag:=bz.bV.del (a:=a) λ x q=>by rw[ao]at q;exact O.noConfusion (dg q)
 have ad:=bz.step ag.1 ag.2
 have st:Step c6 (aP.del a) bt.heap (aP.del a) h':=Step.h4 ak
 have lg: ¬fw p.env a:= λ f=>f9 ao (bz.fo.e8.apart a f)
 have ju:=ad.fo.FK gN
 have bX:p.d.eE.get? aW=J:=nK.mpr λ o e=>f9 (bz.bV.base _ _ e) gN
 obtain⟨mZ,es,Lm,Y,_⟩:=(bz.bV.dict ao).o1
 have ne:a≠aW:= λ q=>f9 Y (q▸gN)
 exact LD az (live:= λ _=>True) (qz p.d.toCn aW a db kvs l) (λ X E j h D h' a z st S l=>LH st a.fo.dM ju lg z) (λ v X s E j R a l z t=>aaQ ae bo fb ju lg ne bX fR a z t) (λ s E j a l z=>aaP ae ju bX a z)
  (ad.step (ad.bV.grow ak) st) z bs ⟨st.toF,rfl,rfl⟩ gN (λ f s q=>(aaM bz ao q).pre bB.toF)
end
theorem l5{α dv:Type}[BEq dv][LawfulBEq dv]{x:dv}{k:α}(l:List (dv×α)):l.lookup x=B k->(x,k)∈l:=
 List.rec (motive:= λ l=>l.lookup x=B k->(x,k)∈l) (λ h=>hl h) (λ y r aB h=>by
  obtain⟨y,aU⟩:=y
  rw[j6]at h
  cases e:x==y with
  |true=>
   rw[e]at h
   rw[beq_iff_eq.mp e,dg h];exact .head _
  |false=>rw[e]at h;exact .tail _ (aB h)) l
section
variable{env:Env}
theorem aa8(names:List (Str×pk)): ∀bR:List (Str×Addr),(∀x∈names,x.2= .free-> ∃c,env.cells.lookup x.1=B c)->
  ∃cl,(forIn names bR λ(x:Str×pk) sf=>(if x.2== .free then do let c<-cellOf env x.1;pure (sg ((x.1,c)::sf))else pure (sg sf):Sem (ForInStep (List (Str×Addr)))))=pure cl/\
   (∀n c,cl.lookup n=B c->bR.lookup n=B c\/env.cells.lookup n=B c)/\(∀n,(∃c,bR.lookup n=B c)\/(n,lh)∈names-> ∃c,cl.lookup n=B c):=
 List.rec (motive:= λ names=> ∀bR:List (Str×Addr),(∀x∈names,x.2= .free-> ∃c,env.cells.lookup x.1=B c)->
  ∃cl,(forIn names bR λ(x:Str×pk) sf=>(if x.2== .free then do let c<-cellOf env x.1;pure (sg ((x.1,c)::sf))else pure (sg sf):Sem (ForInStep (List (Str×Addr)))))=pure cl/\
   (∀n c,cl.lookup n=B c->bR.lookup n=B c\/env.cells.lookup n=B c)/\(∀n,(∃c,bR.lookup n=B c)\/(n,lh)∈names-> ∃c,cl.lookup n=B c))
  (λ bR _=>⟨bR,rfl,λ n c h=> .inl h,λ n h=>h.elim id λ x=>nomatch x⟩)
  (λ t6 r aB bR h=>by
   obtain⟨x,k⟩:=t6
   rw[List.forIn_cons]
   have aO: ∀y∈r,y.2= .free-> ∃c,env.cells.lookup y.1=B c:= λ y bJ=>h y (.tail _ bJ)
   by_cases ak:k= .free
   .subst ak
    obtain⟨c,ap⟩:=h (x, .free) (.head _) rfl
    obtain⟨cl,Y,Z,aE⟩:=aB ((x,c)::bR) aO
    have e:cellOf env x=pure c:=by unfold cellOf;rw[ap]
    refine⟨cl,?_,λ n d hd=>(Z n d hd).elim (λ q=>?_) .inr,λ n aq=>aE n (aq.elim (λ q=> .inl ?_) λ q=>(eV.mp q).elim (λ q=> .inl ⟨c,?_⟩) .inr)⟩
    .show (do let c<-cellOf env x;pure (sg ((x,c)::bR)))>>=_=_
     rw[e];exact Y
    .rw[j6]at q
     cases e:n==x with
     |true=>rw[e]at q;rw[beq_iff_eq.mp e];exact .inr (dg q▸ap)
     |false=>rw[e]at q;exact .inl q
    .rw[j6]
     cases n==x with
     |true=>exact⟨c,rfl⟩
     |false=>exact q
    .rw[(sa q).1];exact List.lookup_cons_self
   .obtain ⟨cl,Y,Z,aE⟩:=aB bR aO
    refine⟨cl,?_,Z,λ n aq=>aE n (aq.imp id λ q=>(eV.mp q).resolve_left λ q=>ak (sa q).2.symm)⟩
    show(if(k==lh)=G then _ else pure (sg bR))>>=_=_
    rw[beq_eq_false_iff_ne.mpr ak];exact Y) names
theorem aa9{scope:Scope}(h: ∀x∈scope.names,x.2= .free-> ∃c,env.cells.lookup x.1=B c):
  ∃cl,closureFor scope env=pure cl/\(∀n c,cl.lookup n=B c->env.cells.lookup n=B c)/\ ∀n,(n,lh)∈scope.names-> ∃c,cl.lookup n=B c:=by
 obtain⟨cl,Y,Z,aE⟩:=aa8 scope.names [] h
 refine⟨cl,?_,λ n c q=>(Z n c q).elim (λ q=>hl q) id,λ n q=>aE n (.inr q)⟩
 exact congrArg (λ m=>m>>= λ r=>pure r) Y
theorem aba{x:Str}{k:pk}(names:List (Str×pk)):names.lookup x=B k->
  (names.map λ(n,k)=>if(k==lh&&env.scope.kind== .function&&env.kindOf n==B .cell)then(n,sh)else(n,k)).lookup x=
   B (if(k==lh&&env.scope.kind== .function&&env.kindOf x==B .cell)then sh else k):=
 List.rec (motive:= λ names=>names.lookup x=B k->(names.map λ(n,k)=>if(k==lh&&env.scope.kind== .function&&env.kindOf n==B .cell)then(n,sh)else(n,k)).lookup x=
   B (if(k==lh&&env.scope.kind== .function&&env.kindOf x==B .cell)then sh else k)) (λ h=>hl h)
  (λ abb r aB h=>by
   obtain⟨n,aU⟩:=abb
   rw[j6]at h
   show LK x ((if(aU==lh&&env.scope.kind== .function&&env.kindOf n==B .cell)=G then(n,sh)else(n,aU))::_)=_
   have split: ∀b:Bool,(if b=G then(n,sh)else(n,aU))=(n,if b=G then sh else aU):= λ b=>by cases b<;>rfl
   rw[split,j6]
   cases e:x==n with
   |true=>rw[e]at h;rw[beq_iff_eq.mp e,dg h]
   |false=>rw[e]at h;exact aB h) names
end
structure lj(aa:dQ)(x:Str)(sc:Scope):Prop where
 kind:sc.kind= .function
 loc:sc.names.lookup x=B .local
 all: ∀y∈sc.names,(y.2= .local/\(y.1=x\/aa.names.findIdx? (· ==y.1)=J)/\sc.names.lookup y.1=B .local)\/(y.2= .free/\aa.scope.names.lookup y.1=B .cell/\y.1≠x)\/y.2= .globalImplicit
noncomputable def abc(aa:dQ)(x:Str)(sc:Scope)(y:Str×pk):Bool:=
 (y.2== .local&&((y.1==x||(aa.names.findIdx? (· ==y.1)).isNone)&&(sc.names.lookup y.1==B .local)))||((y.2== .free&&((aa.scope.names.lookup y.1==B .cell)&&!(y.1==x)))||y.2== .globalImplicit)
noncomputable def LL(aa:dQ)(x:Str)(sc:Scope):Bool:=sc.kind== .function&&((sc.names.lookup x==B .local)&&sc.names.all (abc aa x sc))
theorem abd{aa:dQ}{x:Str}{sc:Scope}(h:LL aa x sc=G):lj aa x sc:=by
 obtain⟨Y,h⟩:=aV h
 obtain⟨Z,aE⟩:=aV h
 refine⟨beq_iff_eq.mp Y,beq_iff_eq.mp Z,λ y bJ=>((jr _ _).mp (hh.mp aE y bJ)).imp (λ q=>?_) λ q=>((jr _ _).mp q).imp (λ q=>?_) beq_iff_eq.mp⟩
 .obtain ⟨a,q⟩:=aV q
  obtain⟨b,c⟩:=aV q
  exact⟨beq_iff_eq.mp a,((jr _ _).mp b).imp beq_iff_eq.mp FR.mp,beq_iff_eq.mp c⟩
 .obtain ⟨a,q⟩:=aV q
  obtain⟨b,c⟩:=aV q
  exact⟨beq_iff_eq.mp a,beq_iff_eq.mp b,λ e=>by rw[e,beq_self_eq_true]at c;exact d3 c⟩
section
variable{aa:dQ}{env:Env}{E:ax}{j:St}{h:b1}{x:Str}{sc:Scope}{cl:List (Str×Addr)}{ae i:Nat}{v:V}{y:aZ}{m:Str->Option aZ}
theorem lj.LM(fx:lj aa x sc): ∀y∈sc.names,y.2≠ .cell:= λ y bJ q=>by
 rcases fx.all y bJ with e|e|e
 .exact NameKind.noConfusion (q.symm.trans e.1)
 .exact NameKind.noConfusion (q.symm.trans e.1)
 .exact NameKind.noConfusion (q.symm.trans e)
theorem abe(fx:lj aa x sc)(f:j7 aa env E j h)(bo:aa.names.findIdx? (· ==x)=B i)
  (l6: ∀n c,cl.lookup n=B c->env.cells.lookup n=B c) (m0: ∀n,(n,lh)∈sc.names-> ∃c,cl.lookup n=B c) (n0:j ae=J) (aq:h.Ns ae m) (aG:m x=B y) (r:bk h j v y):
  j7 { aa with scope:=sc } (compEnvC sc cl ae env) (E.set i (B v)) j h:=by
 have si: ∀n k,sc.names.lookup n=B k->(compEnvC sc cl ae env).kindOf n=B (if(k==lh&&env.scope.kind== .function&&env.kindOf n==B .cell)then sh else k):= λ n k e=>aba _ e
 have a9: ∀b,fw (compEnvC sc cl ae env) b->b=ae\/fw env b:= λ b gd=>gd.imp id λ⟨n,e⟩=> .inr ⟨n,l6 n b e⟩
 refine⟨fx.kind,f.glob,f.v7,λ n e=>si n _ e,λ z aU u fb e=>?_,λ b gd=>(a9 b gd).elim (λ e=>e▸n0) (f.apart b),λ b gd=>(a9 b gd).elim (λ e=>by obtain⟨o,_,_,ba,_⟩:=aq;exact⟨o,e▸ba⟩) (f.live b),λ n e=>absurd rfl (fx.LM _ (l5 _ e))⟩
 have aM:=we fb
 unfold dQ.at at fb
 rw[aQ aM.1]at fb
 obtain⟨k,ak⟩: ∃k,sc.names.lookup z=B k:=by
  cases q:sc.names.lookup z with
  |none=>have:=aM.1;rw[show({ aa with scope:=sc }:dQ).scope.names.lookup z=J from q]at this;exact d3 this
  |some k=>exact⟨k,rfl⟩
 have abf:aa.names[i]?=B x:=by
  obtain⟨bz,cO,_⟩:=Ku.mp bo
  rw[hi bz];exact congrArg B (beq_iff_eq.mp cO)
 rcases fx.all _ (l5 _ ak)with⟨rfl,q,_⟩|⟨rfl,bf,a3⟩|rfl
 .have bb:z=x:=q.resolve_right λ q=>f9 fb q
  subst bb
  have abg:aU=i:=dg (fb.symm.trans bo)
  subst abg
  rw[aaj (by have:=(jl.mp e).1;rw[aai]at this;exact this)]at e
  exact⟨y, .loc m (si z _ ak) aq aG,dg (dg e)▸r⟩
 .have ne:i≠aU:= λ q=>a3 (dg ((q▸aM.2).symm.trans abf))
  rw[aak ne]at e
  obtain⟨c,ap⟩:=m0 z (l5 _ ak)
  have ed:=(f.cells z bf).1
  obtain⟨nV,nm,Fz⟩:=f.get z aU u (by unfold dQ.at;rw[bf];exact fb) e
  have mS:=si z _ ak
  rw[ed,f.kind]at mS
  refine⟨nV,?_,Fz⟩
  rcases nm with⟨gf,k,_,_⟩|⟨nL,k,dL,fW⟩
  .exact NameKind.noConfusion (dg (ed.symm.trans k))
  .rw[l6 z c ap]at dL
   exact .cell c (.inl mS) ap (dg dL▸fW)
 .have:=aM.1
  rw[show({ aa with scope:=sc }:dQ).scope.names.lookup z=B .globalImplicit from ak]at this
  exact d3 this
end
noncomputable def dc.comp(p:dc)(sc:Scope)(cl:List (Str×Addr))(ae:Nat):dc:=⟨p.d,{ p.aa with scope:=sc },compEnvC sc cl ae p.env⟩
def abh(c:Cn)(iF:V->Prop)(j:St)(s:br)(Q:Option V->St->Prop)(x:aZ)(s':br):Prop:= ∃V D,Q (B V) D/\(bk s'.heap D V x/\iF V)/\bN c s'.heap D/\cN c6 j s D s'
def abi(c:Cn)(j:St)(s:br)(Q:Option V->St->Prop)(s':br):Prop:= ∃D,Q J D/\bN c s'.heap D/\cN c6 j s D s'
def TurnOk(p:dc)(iF:V->Prop)(ifs:List bh)(ir:bh)(T:ax->St->(Option V->St->Prop)->Prop):Prop:= ∀s j E Q,p.At E j s.heap->T E j Q->
 p.wp (forIn ifs G λ c r=>if r=G then do let ok<-isTrue c p.env (eval c p.env);pure (sg ok)else pure (sg r))
  (λ ok nX=>if ok=G then p.wp (eval ir p.env) (abh p.d.toCn iF j s Q) nX else abi p.d.toCn j s Q nX) s
def zY(c:Cn)(ae ag:Nat)(iF:V->Prop)(ff:List V->List V->St->Prop)(fA:List V->St->b1->Prop)(fe:St)(eI:br)(n:Nat)(s:br):Prop:=
 ∃X bR j m,(n=X.length/\bR.length+n<=ay/\ ∀v∈bR,iF v)/\fA X j s.heap/\bN c s.heap j/\cN c6 fe eI j s/\s.heap.Ns ae m/\j ae=J/\j ag=B (.list bR)/\ff X bR j
section
variable{p:dc}{c:Cn}{s s' eI:br}{j fe cR:St}{E:ax}{h h' eE:b1}{ir it:bh}{x:Str}{fj pos:Pos}{ifs:List bh}{sc:Scope}{cl:List (Str×Addr)}{i aW ae ag:Nat}{items:List V}{live:St->Prop}{fz:Nat->St->b1->Prop}{iF:V->Prop}{m:Str->Option aZ}
 {fy:V->St->(Option V->St->Prop)->Prop} {ll:List V->St->Prop}
theorem FS{bR:List V}: ∀X,h3 live fy ag X bR j ll->live j:= λ X=>
 List.casesOn (motive:= λ X=>h3 live fy ag X bR j ll->live j) X (λ t=>t.1) λ _ _ t=>t.1
theorem Ns.alone(n:h.Ns ae m)(e:j ae=J)(bX:c.eE.get? ae=J):lb c ae j h:=by
 obtain⟨o,es,db,ba,hd,_⟩:=n
 exact⟨e,bX,o,ba,λ⟨_,_,q⟩=>Data.noConfusion (hd.symm.trans q)⟩
theorem abj(n:h.Ns ae m): ∃o,h.get? ae=B o:=by obtain⟨o,es,db,ba,_⟩:=n;exact⟨o,ba⟩
theorem Ns.go(n:h.Ns ae m)(e:j ae=J)(st:Step c6 j h cR h'):h'.Ns ae m/\cR ae=J:=⟨Ns.of_same n λ o q=>st.keep _ o q e id,by obtain⟨o,q⟩:=abj n;exact st.k4 _ o q e id⟩
theorem wl(st:Step c6 fe eE j h)(q:Step (· =aW) j h cR h')(fN:eE.get? aW=J):Step c6 fe eE cR h':=FG st (q.weak λ _=> .inr) fN
theorem FT(st:cN c6 fe eI j s)(q:cN (· =aW) j s cR s')(fN:eI.heap.get? aW=J):cN c6 fe eI cR s':=FI st (q.weak λ _=> .inr) fN
theorem abk{fA:List V->St->b1->Prop}{X bR:List V}(aq:bR.length+(X.length+1)<=ay)(aO: ∀v∈bR,iF v)(z:fA X j s.heap)(S:bN c s.heap j)(st:cN c6 fe eI j s)(ns:s.heap.Ns ae m)(e:j ae=J)(q:DA ag bR (h3 live fy ag X) ll J j):
  ∃k,k<X.length+1/\zY c ae ag iF (λ X bR j=>h3 live fy ag X bR j ll) fA fe eI k s:=
 ⟨X.length,k7 _,X,bR,j,m,⟨rfl,Nat.le_of_succ_le aq,aO⟩,z,S,st,ns,e,q.1,q.2⟩
theorem abl{fA:List V->St->b1->Prop}{X bR:List V}{qB:V}{y:aZ}(keep: ∀D h',Step c6 j s.heap D h'->bN c h' D->live D->fA X D h')(amy:ag≠ae)(aq:bR.length+(X.length+1)<=ay)(aO: ∀v∈bR,iF v)(bF:bk s.heap j qB y/\iF qB)(S:bN c s.heap j)(st:cN c6 fe eI j s)(ns:s.heap.Ns ae m)(e:j ae=J)
  (q:DA ag bR (h3 live fy ag X) ll (B qB) j):c.wp (call (.builtin "list.append") [.ref ag,y]) (λ _ s'=> ∃k,k<X.length+1/\zY c ae ag iF (λ X bR j=>h3 live fy ag X bR j ll) fA fe eI k s') s:=by
 have go:=KE (v:=qB) (xs:=[y]) (Q:= λ _ D=>D=j.set ag (.list (bR++ [qB]))) S q.1 (.one bF.1) (hB (Nat.lt_add_of_pos_right (hC _)) aq) rfl
 refine t4 go (λ _ s' k=>?_) λ _ _ e=>e
 obtain⟨_,D,rfl,_,g2,eS⟩:=k
 have g:=Ns.go ns e eS.h
 have t:=q.2
 refine⟨X.length,k7 _,X,bR++ [qB],_,m,⟨rfl,?_,λ v lm=>(iG.mp lm).elim (aO v) λ q=>ee.mp q▸bF.2⟩,keep _ _ eS.h g2 (FS _ t),g2,st.trans eS,g.1,g.2,St.vT ..,t⟩
 rw[bK,pl,hS [qB].length];exact aq
end
section
variable{p:dc}{s eI:br}{j fe:St}{E:ax}{ir it:bh}{x:Str}{fj pos:Pos}{ifs:List bh}{sc:Scope}{cl:List (Str×Addr)}{i aW ae ag:Nat}{items:List V}{live:St->Prop}{fz:Nat->St->b1->Prop}{iF:V->Prop}
 {fy:V->St->(Option V->St->Prop)->Prop} {ll:List V->St->Prop} {R:Result->br->Prop}
theorem abm(W:r6 p.d.toCn aW items live fz)(fx:lj p.aa x sc)(bo:p.aa.names.findIdx? (· ==x)=B i)(l6: ∀n c,cl.lookup n=B c->p.env.cells.lookup n=B c)(m0: ∀n,(n,lh)∈sc.names-> ∃c,cl.lookup n=B c)
  (FU:aW≠ae) (wm:ag≠ae) (f:j7 p.aa p.env E fe eI.heap) (gN:eI.heap.get? aW=J) (i3:eI.heap.get? ae=J) (abn:p.d.eE.get? ae=J) (T:ax->St->(Option V->St->Prop)->Prop) (hq: ∀v j Q,fy v j Q->T (E.set i (B v)) j Q) (ok:TurnOk (p.comp sc cl ae) iF ifs ir T)
  (hm: ∀X D s' m,X.length<=ay->(∀v∈X,iF v)->D ag=B (.list X)->ll X D->bN p.d.toCn s'.heap D->cN c6 fe eI D s'->s'.heap.Ns ae m->D ae=J->R (.ok .next) s') (n:Nat)
  (st:zY p.d.toCn ae ag iF (λ X bR j=>h3 live fy ag X bR j ll) (zT items fz) fe eI n s):codeAny (model p.d.prog p.d.w) p.d.A (.compLoop (.ListComp ir [⟨.Name x fj,it,ifs,0⟩] sc pos) 0 (.ref aW) (.ref ag) (compEnvC sc cl ae p.env)) R s:=by
 refine codeAny_compLoop_tests (zY p.d.toCn ae ag iF (λ X bR j=>h3 live fy ag X bR j ll) (zT items fz) fe eI) ?_ n st
 intro ib bt z
 obtain⟨X,bR,aP,m,z⟩:=z
 obtain⟨⟨rfl,aq,aO⟩,js,ug,bB,ns,z⟩:=z
 obtain⟨sj,bS,t⟩:=z
 obtain⟨k,e,hs,aU⟩:=js
 cases X with
 |nil=>
  rw[zC hs (FL.mp e.symm)]at aU
  exact lf (p:=p) (W.done bt aP (λ r s'=>r=J/\bN p.d.toCn s'.heap aP/\cN (· =aW) aP bt aP s') aU ug t.1 λ h' tk g2 eS=>⟨rfl,g2,eS,rfl,rfl⟩) λ r b2 q=>by
   obtain⟨rfl,ig,cy⟩:=q
   exact hm bR aP b2 m aq aO bS t.2.2 ig (FT bB cy gN) (Ns.of_same ns λ o q=>cy.h.keep _ o q sj FU.symm) sj
 |cons v X=>
  obtain⟨bF,dL⟩:=zS e
  refine lf (p:=p) (W.item k bt aP (λ r s'=> ∃y,r=B y/\bk s'.heap aP v y/\fz (k+1) aP s'.heap/\bN p.d.toCn s'.heap aP/\cN (· =aW) aP bt aP s') v aU ug t.1 bF λ y h' tk hk wj ig cy=>⟨y,rfl,hk,wj,ig,cy,rfl,rfl⟩) λ r b2 q=>?_
  obtain⟨y,rfl,hk,wj,ig,cy⟩:=q
  have i0:b2.heap.Ns ae m:=Ns.of_same ns λ o q=>cy.h.keep _ o q sj FU.symm
  have bC:=Ns.alone i0 sj abn
  refine lf (p:=p) (zN (aal (Q:= λ _ s'=> ∃gf,s'.heap.Ns ae gf/\gf x=B y/\l2 ae b2.heap s'.heap/\s'.os=b2.os/\s'.gens=b2.gens) (lookup_relabel_local fx.loc) i0 (λ aE sk ab=>⟨_,sk,aQ rfl,λ b o az q=>(ab.2 b az).trans q,rfl,rfl⟩) (by rw[show(compEnvC sc cl ae p.env).scope.kind= .function from fx.kind];rfl))) λ _ eF q=>?_
  obtain⟨gf,sk,aG,ak,ba,aM⟩:=q
  have l1:=bC.bV ig ak
  have fX:=FT (FT bB cy gN) ⟨ak.step,ba,aM⟩ i3
  have abo:=W.keep _ _ _ _ _ _ wj ak.step FU bC.dM l1 t.1
  have la:=abe fx (f.step fX.h) bo l6 m0 sj sk aG (hk.step ak.step bC.dM)
  have LN: ∀D h',Step c6 aP eF.heap D h'->bN p.d.toCn h' D->live D->zT items fz X D h':= λ D h' st S l=>⟨k+1,dL,(jl.mp bF).1,W.keep _ _ _ _ _ _ abo st id d4 S l⟩
  refine lf (p:=p) (ok eF aP _ _ ⟨la,l1⟩ (hq v aP _ t.2)) λ b jt q=>?_
  cases b
  .obtain ⟨fY,qx,ue,j9⟩:=q
   have g:=Ns.go sk sj j9.h
   exact abk aq aO (LN _ _ j9.h ue (FS _ qx.2)) ue (fX.trans j9) g.1 g.2 qx
  .refine lf (p:=p) q λ y jt q=>?_
   obtain⟨qB,fY,qx,FV,ue,j9⟩:=q
   have g:=Ns.go sk sj j9.h
   exact lf (p:=p) (abl (λ D h' st S l=>LN _ _ (j9.h.trans st) S l) wm aq aO FV ue (fX.trans j9) g.1 g.2 qx) λ _ _ q=>q
end
section
variable{p:dc}{s eI:br}{j fe:St}{E:ax}{eE:b1}{ir it:bh}{x:Str}{fj pos:Pos}{ifs:List bh}{sc:Scope}{cl:List (Str×Addr)}{i aW:Nat}{items:List V}{live:St->Prop}{fz:Nat->St->b1->Prop}{iF:V->Prop}
 {fy:V->St->(Option V->St->Prop)->Prop} {ll:Nat->List V->St->Prop} {uh:aZ->Addr->Result->br->Prop}
theorem ui{h:b1}(st:Step c6 fe eE j h){b:Nat}(e:h.get? b=J):eE.get? b=J:=nK.mpr λ o q=>by
 obtain⟨ji,qq⟩:=st.old _ _ q id;exact f9 qq e
theorem FW{c:Cn}{h:b1}{b:Nat}(S:bN c h j)(e:h.get? b=J):c.eE.get? b=J:=nK.mpr λ o q=>f9 (S.base _ _ q) e
theorem FX(W:r6 p.d.toCn aW items live fz)(fx:lj p.aa x sc)(bo:p.aa.names.findIdx? (· ==x)=B i)(l6: ∀n c,cl.lookup n=B c->p.env.cells.lookup n=B c)(m0: ∀n,(n,lh)∈sc.names-> ∃c,cl.lookup n=B c)
  (f:j7 p.aa p.env E fe eI.heap) (nY:fz 0 j s.heap) (S:bN p.d.toCn s.heap j) (st:cN c6 fe eI j s) (gN:eI.heap.get? aW=J) (bb:items.length<=ay) (t: ∀ag,j ag=J->h3 live fy ag items [] (j.set ag (.list [])) (ll ag))
  (T:ax->St->(Option V->St->Prop)->Prop) (hq: ∀v j Q,fy v j Q->T (E.set i (B v)) j Q) (ok: ∀ae,TurnOk (p.comp sc cl ae) iF ifs ir T)
  (hm: ∀ag ae X D s' m,X.length<=ay->(∀v∈X,iF v)->D ag=B (.list X)->ll ag X D->bN p.d.toCn s'.heap D->cN c6 fe eI D s'->s'.heap.Ns ae m->D ae=J->eI.heap.get? ae=J->uh (.ref ag) ae (.ok .next) s'):
  p.wp (newList []) (λ bR nX=>p.wp (newFunctionEnv sc p.env.globals cl [] p.env.qual J .none (B p.env)) (λ LO abp=>
   codeAny (model p.d.prog p.d.w) p.d.A (.compStart (.ListComp ir [⟨.Name x fj,it,ifs,0⟩] sc pos) 0 (.ref aW) bR { LO with scope:=relabel sc p.env }) (uh bR LO.locals) abp) nX) s:=by
 refine abq (wpAny_newFunctionEnv fx.LM (λ _ bJ=>nomatch bJ) (λ Y ib uj=>?_) fx.kind)
 dsimp only at ib uj ⊢
 generalize uk:s.heap.push { cls:= .type "list",dict:=J,data:= .seq ([]:List aZ).toArray }=cH at ib uj ⊢
 have sl:=jD s.heap
 have ed: ∀b o,s.heap.get? b=B o->cH.get? b=B o:= λ b o e=>uk▸iA _ e
 have i3:s.heap.get? cH.objs.size=J:=nK.mpr λ o e=>f9 (ed _ _ e) (jD cH)
 have wm:s.heap.objs.size≠cH.objs.size:= λ e=>by rw[<-uk,LP]at e;exact zr (k7 _) e
 have old: ∀b o,s.heap.get? b=B o->Y.get? b=B o:= λ b o e=>uj.extBut b o (λ q=>f9 e (q▸i3)) (iA _ (ed b o e))
 have bR:Y.PlainList s.heap.objs.size #[]:=⟨_,uj.extBut _ _ wm (iA _ (uk▸iZ _ rfl))⟩
 have new:=S.new (h':=Y) (o:= .list []) sl (by obtain⟨k,e⟩:=bR;exact⟨_,e⟩) old λ _=>⟨[],bR,rfl⟩
 have ne: ∀b,s.heap.get? b=J->aW≠b:= λ b e q=>by
  obtain⟨_,_,o,o3,_⟩:=W.alone _ _ _ nY
  exact f9 o3 (q▸e)
 have qC:=t _ (S.fresh sl)
 have LQ:fz 0 (j.set s.heap.objs.size (.list [])) Y:=W.keep _ _ _ c6 _ _ nY new.2 id d4 new.1 (FS _ qC)
 have bB:cN c6 fe eI _ { s with heap:=Y,toks:=s.toks+([]:List (Str×aZ)).length }:=⟨st.h.trans new.2,st.o,st.g⟩
 have sm:=abm (s:={ s with heap:=Y,toks:=s.toks+([]:List (Str×aZ)).length }) (ag:=s.heap.objs.size) (fj:=fj) (it:=it) (pos:=pos) (R:=uh (.ref s.heap.objs.size) cH.objs.size) W fx bo l6 m0 (ne _ i3) wm f gN (ui st.h i3) (FW S i3) T hq (ok _)
  (λ X D s' m a b c d e f g h=>hm _ _ X D s' m a b c d e f g h (ui st.h i3)) items.length
  ⟨items,[],_,_,⟨rfl,by rw[jM,mN];exact bb,λ _ h=>nomatch h⟩,⟨0,rfl,eh _,LQ⟩,new.1,bB,ib,(St.j3 j _ wm.symm).trans (S.fresh i3),St.vT ..,qC⟩
 exact codeAny_compStart_list sm (t4 (W.self 0 { s with heap:=Y,toks:=s.toks+([]:List (Str×aZ)).length } _ (λ v s'=>v= .ref aW/\s'={ s with heap:=Y,toks:=s.toks+([]:List (Str×aZ)).length }) LQ new.1 ⟨rfl,rfl⟩) (λ v s' q=>by
  obtain⟨rfl,rfl⟩:=q;exact sm) λ _ _ e=>e.elim)
theorem LR{ae:Nat}{m:Str->Option aZ}{h h':b1}{D:St}(S:bN p.d.toCn h D)(st:Step c6 j eE D h)(aq:h.Ns ae m)(n0:D ae=J)(bX:eE.get? ae=J)(ul:p.d.eE.get? ae=J)(ab:tX ae h h'):bN p.d.toCn h' D/\Step c6 j eE D h':=
 have ak:l2 ae h h':= λ b o az e=>(ab.2 b az).trans e
 ⟨(Ns.alone aq n0 ul).bV S ak,wl st ak.step bX⟩
end
section
variable{p:dc}{s:br}{j:St}{E:ax}{h:b1}{ir it e:bh}{x y:Str}{fj eP pos pm ga:Pos}{sc:Scope}{i aU ed:Nat}{bq I:b6}{eo:ST}{jp:oV}
theorem FY(fx:lj p.aa x sc)(f:j7 p.aa p.env E j h): ∃cl,closureFor sc p.env=pure cl/\(∀n c,cl.lookup n=B c->p.env.cells.lookup n=B c)/\ ∀n,(n,lh)∈sc.names-> ∃c,cl.lookup n=B c:=
 aa9 λ y bJ e=>by
  rcases fx.all y bJ with q|q|q
  .exact NameKind.noConfusion (q.1.symm.trans e)
  .exact (f.cells _ q.2.1).2
  .exact NameKind.noConfusion (q.symm.trans e)
theorem lj.locals(fx:lj p.aa x sc): ∀y∈sc.names,y.2= .local->sc.names.lookup y.1=B .local:= λ y bJ e=>by
 rcases fx.all y bJ with q|q|q
 .exact q.2.2
 .exact NameKind.noConfusion (q.1.symm.trans e)
 .exact NameKind.noConfusion (q.symm.trans e)
theorem LS(aF:cB p ir bq):TurnOk p (λ _=>True) [] ir (λ E j Q=>bq E j (yZ Q)):= λ s j E Q a t=>by
 rw[List.forIn_nil]
 refine fv ?_
 rw[aQ rfl]
 exact aF.then a t λ u aP y bt bs a5 bz bB=>⟨u,aP,bs,⟨a5,trivial⟩,bz.bV,bB⟩
theorem abr(ap:gb p e eo):TurnOk p (λ v=>v= .int 1) [e] (.Constant (.int 1) ed ga) (λ E j Q=>eo E j (mF Q)):= λ s j E Q a t=>
 wpAny_tests_one (ap.then a t λ b aP bt bs bz bB=>by
  cases b
  .exact ⟨aP,bs,bz.bV,bB⟩
  .exact K4 ⟨.int 1,aP,bs,⟨⟨_,rfl⟩,rfl⟩,bz.bV,bB.tk⟩)
theorem abt(fx:lj p.aa x sc)(ab:uf it)(bo:p.aa.names.findIdx? (· ==x)=B i)(mX:qv p it jp)(aF: ∀cl ae,cB (p.comp sc cl ae) ir bq):cB p (.ListComp ir [⟨.Name x fj,it,[],0⟩] sc pos) (vN i bq jp):= λ s j E Q a t=>by
 obtain⟨cl,qw,l6,m0⟩:=FY fx a.la
 rw[abu]
 refine LU (use:=J) rfl (λ x=>ab _ x) qw fx.kind fx.locals (mono (mX s j E _ a t) λ ua bt Y=>mono Y λ lc b2 k=>?_)
 obtain⟨fm,bA,aW,fz,rfl,⟨bb,dq⟩,W,nY,b0,ig,cy,gN⟩:=k
 exact FX (uh:= λ bR ae=>compPost (model p.d.prog p.d.w) p.d.A (λ _ _=>False) J (e2 p.d.toCn j s Q) bR ae) W fx bo l6 m0 a.la nY ig cy gN bb dq _ (λ _ _ _ q=>q) (λ ae=>LS (aF cl ae))
  λ ag ae X D s' m bb aO bS q g2 eS aq n0 i3=>⟨m,aq,λ h' gM=>
   have g:=LR g2 eS.h aq n0 i3 (ui (Step.h4 (F:=c6) (j:=j) a.bV.base) i3) gM
   ⟨.ref ag,D,q,rfl,g.1,g.2,eS.o,eS.g⟩⟩
end
def LV(c:Cn)(j:St)(s:br)(Q:V->St->Prop)(v:aZ)(s':br):Prop:=
 ∃b D l, ∃xs:List aZ,Q (.bool b) D/\v= .ref l/\s'.heap.PlainList l xs.toArray/\(∀x∈xs, ∃t,x= .int 1 t)/\b=!xs.isEmpty/\xs.length<=ay/\bN c s'.heap D/\cN c6 j s D s'
def zZ(p:dc)(e:bh)(T:b6):Prop:= ∀s j E Q,p.At E j s.heap->T E j Q->p.wp (eval e p.env) (LV p.d.toCn j s Q) s
section
variable{p:dc}{s:br}{j:St}{E:ax}{h:b1}{it e l:bh}{x y:Str}{fj pos ga:Pos}{sc:Scope}{i ed:Nat}{I T:b6}{eo:ST}{X:List V}{xs:List aZ}
theorem abv: ∀xs,b3 h j X xs->(∀v∈X,v= .int 1)-> ∀x∈xs, ∃t,x=zJ 1 t:=
 List.rec (motive:= λ X=> ∀xs,b3 h j X xs->(∀v∈X,v= .int 1)-> ∀x∈xs, ∃t,x=zJ 1 t) (λ xs r _ x aJ=>by rw[r.nI]at aJ;cases aJ)
  (λ v X aB xs r q x aJ=>by
   obtain⟨y,ys,rfl,a5,r⟩:=r.inv
   rw[q v (.head _)]at a5
   rcases eV.mp aJ with rfl|aJ
   .exact a5
   .exact aB ys r (λ v bF=>q v (.tail _ bF)) x aJ) X
theorem LW(xs:List aZ):xs.toArray.isEmpty=xs.isEmpty:=by cases xs<;>simp
theorem abw(ae:p.d.Ok)(fx:lj p.aa x sc)(ab:uf it)(bo:p.aa.names.findIdx? (· ==x)=B i)(mX:cB p it I)(ap: ∀cl ae,gb (p.comp sc cl ae) e eo):zZ p (.ListComp (.Constant (.int 1) ed ga) [⟨.Name x fj,it,[e],0⟩] sc pos) (y2 i eo I):= λ s j E Q a t=>by
 obtain⟨cl,qw,l6,m0⟩:=FY fx a.la
 rw[abu]
 refine LU (use:=J) rfl (λ x=>ab _ x) qw fx.kind fx.locals (mX.then a t λ v aP y bt bs a5 bz bB=>?_)
 obtain⟨abx,ao,bs⟩:=fJ bs
 refine mono (Lj (Q:= λ fm bA=>fm=abx/\bA=aP) ae.ok bz.bV a5 ao ⟨rfl,rfl⟩) λ lc b2 k=>?_
 obtain⟨fm,bA,aW,fz,rfl,⟨rfl,rfl⟩,W,nY,b0,ig,cy,gN⟩:=k
 exact FX (uh:= λ bR ae=>compPost (model p.d.prog p.d.w) p.d.A (λ _ _=>False) J (LV p.d.toCn j s Q) bR ae) W fx bo l6 m0 a.la nY ig (bB.trans cy) (ui bB.h gN) bs.1 bs.2 _ (λ _ _ _ q=>q) (λ ae=>abr (ap cl ae))
  λ ag ae X D s' m bb aO bS q g2 eS aq n0 i3=>⟨m,aq,λ h' gM=>by
   have g:=LR g2 eS.h aq n0 i3 (ui (Step.h4 (F:=c6) (j:=j) a.bV.base) i3) gM
   obtain⟨xs,bg,rs⟩:=g.1.list bS
   have dl:=g.1.del (a:=ag) λ x e=>by rw[bS]at e;exact O.noConfusion (dg e)
   refine⟨!X.isEmpty,D.del ag,ag,xs,q,rfl,bg,abv xs rs aO,?_,rs.length▸bb,dl.1,g.2.trans dl.2,eS.o,eS.g⟩
   rw[<-LW xs,KZ rs]⟩
theorem aby(aF:isTrue e p.env (eval e p.env)=(do let v<-eval e p.env;standAt e.pos;holding [v] (truthy v)))(aI:zZ p e T):gb p e (qk T):= λ s j E Q a t=>
 Y0 (mono (aI s j E _ a t) λ v s' k=>by
  obtain⟨b,D,l,xs,q,rfl,bg,FZ,rfl,bb,g2,st⟩:=k
  refine YX bg.isList (by rw[gL];unfold ay at bb;clear bg FZ q g2 st;right) ?_
  rw[LW]
  exact⟨D,q,g2,st.tk⟩) aF
theorem abz{h:b1}(xs:List aZ):(∀x∈xs, ∃t,x=zJ 1 t)-> ∃hf as,ReadsAll h xs hf as/\vW hf=G/\vX hf=0/\hf.isEmpty=xs.isEmpty:=
 List.rec (motive:= λ xs=>(∀x∈xs, ∃t,x=zJ 1 t)-> ∃hf as,ReadsAll h xs hf as/\vW hf=G/\vX hf=0/\hf.isEmpty=xs.isEmpty) (λ _=>⟨[],[], .nil,rfl,rfl,rfl⟩)
  (λ x xs aB aJ=>by
   obtain⟨t,rfl⟩:=aJ x (.head _)
   obtain⟨hf,as,Y,Z,aE,bv⟩:=aB λ y bJ=>aJ y (.tail _ bJ)
   exact⟨.int 1::hf,_, .cons (.int 1 t) Y,by rw[vW,Z];rfl,by rw[vX,aE];rfl,rfl⟩) xs
theorem abA(ae:p.d.Ok)(aI:zZ p l T):qu p l .NotEq (.List [] pos) T:= λ s j E Q a t=>mono (aI s j E Q a t) λ v bt k=>by
 obtain⟨b,aP,l,xs,q,rfl,bg,FZ,rfl,bb,ug,bB⟩:=k
 refine Fi (nR ⟨eh _,?_⟩)
 have ak: ∀b o,bt.heap.get? b=B o->(bt.heap.push { cls:= .type "list",data:= .seq ([]:List aZ).toArray }).get? b=B o:= λ b o e=>iA _ e
 obtain⟨hf,as,Y,Z,aE,bv⟩:=abz (h:=bt.heap.push { cls:= .type "list",data:= .seq ([]:List aZ).toArray }) xs FZ
 obtain⟨k,e⟩:=bg
 refine ne_dataH (EH (ak _ _ e) rfl rfl (by rw[LX];exact Y)) (EH (xs:=[]) (iZ _ rfl) rfl rfl (by rw[LX];exact .nil)) ?_ rfl (dP (nM (bw rfl) _) ae.ok.units) ?_
 .show (abB (.list hf)&&decide ((PyData.list hf).depth<=64))=G
  rw[abB,Z,PyData.depth,aE];rfl
 .have:Xq (.list hf) (.list [])=xs.isEmpty:=by rw[<-bv];cases hf<;>rfl
  rw[this]
  exact⟨⟨_,rfl⟩,_,aP,q,rfl,ug.grow ak,⟨bB.h.trans (Step.h4 ak),bB.o,bB.g⟩⟩
end
section
variable{p:dc}{s:br}{j:St}{E:ax}{ir it:bh}{x y:Str}{fj eP pos pm:Pos}{sc:Scope}{i aU:Nat}{bq:b6}{jp:oV}
noncomputable def F0(aa:dQ)(y:Str)(eP pos:Pos)(sc:Scope):Bool:=(aa.scope.names.lookup y==B .local)&&((eP.line==pos.line)&&!(sc.names.any λ(n,k)=>n==y&&(k== .local||k== .cell)))
theorem abC(f:mU p E j s.heap)(h:F0 p.aa y eP pos sc=G):swapsWith (.ListComp ir [⟨.Name x fj,it,[],0⟩] sc pos) (B (.Name y eP)) pm.line p.env=pure G:=by
 obtain⟨bf,c⟩:=aV h
 obtain⟨a3,dp⟩:=aV c
 have ed:p.env.kindOf y=B .local:=by unfold FA;rw[f.st.same];exact beq_iff_eq.mp bf
 have eQ:p.env.blockKind= .function:=by unfold Env.blockKind;rw[f.e8.kind];rfl
 show(pure (p.env.blockKind== .function&&p.env.kindOf y==B .local&&(eP.line==pos.line)&&!(sc.names.any λ(n,k)=>n==y&&(k== .local||k== .cell))):Sem Bool)=_
 rw[ed,eQ,a3,dp];rfl
theorem abD(h:F0 p.aa y eP pos sc=G)(fb:p.aa.store y=B aU)(fx:lj p.aa x sc)(ab:uf it)(bo:p.aa.names.findIdx? (· ==x)=B i)(mX:qv p it jp)(aF: ∀cl ae,cB (p.comp sc cl ae) ir bq):
  i2 p (.Assign [.Name y eP] (.ListComp ir [⟨.Name x fj,it,[],0⟩] sc pos) pm) (tQ (vP aU) (vN i bq jp)):= λ s j E K a t=>by
 obtain⟨cl,qw,l6,m0⟩:=FY fx a.fo.e8
 rw[exec_Assign_Name_used _ _ _ _ (abC a.fo h)]
 refine cE (kK (cE ?_))
 show p.wp (do let _<-comprehension (.ListComp ir [⟨.Name x fj,it,[],0⟩] sc pos) sc p.env _ (newList []) U (eval it p.env) (B (assign (.Name y eP) p.env))) _ s
 refine cE (mono (LU (use:=B (assign (.Name y eP) p.env)) (Q:= λ _ s'=>l4 p j s K .next s') rfl (λ x=>ab _ x) qw fx.kind fx.locals (mono (mX s j E _ a.at t) λ ua bt Y=>mono Y λ lc b2 k=>?_)) λ _ s' co=>fv (fv co))
 obtain⟨fm,bA,aW,fz,rfl,⟨bb,dq⟩,W,nY,b0,ig,cy,gN⟩:=k
 refine FX (uh:= λ bR ae=>compPost (model p.d.prog p.d.w) p.d.A (λ _ _=>False) (B (assign (.Name y eP) p.env)) (λ _ s'=>l4 p j s K .next s') bR ae) W fx bo l6 m0 a.fo.e8 nY ig cy gN bb dq _ (λ _ _ _ q=>q) (λ ae=>LS (aF cl ae))
  λ ag ae X D s' m bb aO bS q g2 eS aq n0 i3=>?_
 have wh:=a.step g2 eS.h
 refine zN (wg (v:= .ref ag) wh rfl fb λ Z tk cO cy=>?_)
 have LY:=a.fo.FK i3
 have LZ:Z.Ns ae m:=Ns.of_same aq λ o e=>cy.keep _ o e n0 LY
 refine⟨m,LZ,λ aE F1=>?_⟩
 have ak:l2 ae Z aE:= λ b o az e=>(F1.2 b az).trans e
 have bC:=Ns.alone (c:=p.d.toCn) LZ n0 (ui (Step.h4 (F:=c6) (j:=j) a.bV.base) i3)
 exact⟨_,_,D,q,rfl,⟨cO.fo.pa ak.step bC.dM λ b gd q=>LY (q▸gd),bC.bV cO.bV ak⟩,⟨FG (eS.h.toF.trans cy) (ak.step.weak λ _=> .inr) i3,eS.o,eS.g⟩⟩
end
section
open Builtin Builtin.Str Builtin.Int
section
variable{h:b1}{j:Mine.St}{X:List V}{xs:List aZ}{l:List (List Nat)}{rev:Bool}{f7 r:V}
noncomputable def cX(y:List Nat):Str:=⟨y.toArray⟩
theorem L0(l:List (List Nat)):Txt.join ⟨([]:List Nat).toArray⟩ (l.map cX)=⟨l.flatten.toArray⟩:=
 (StrLaws.glued_eq_join _ _).trans (List.rec (motive:= λ l=>abE ⟨([]:List Nat).toArray⟩ (l.map cX)=⟨l.flatten.toArray⟩) rfl (λ a r aB=>by
  cases r with
  |nil=>rw[abF,List.flatten_nil,dV];rfl
  |cons b r=>
   show cX a++(⟨([]:List Nat).toArray⟩:Str)++abE ⟨([]:List Nat).toArray⟩ ((b::r).map cX)=_
   rw[aB]
   unfold cX
   rw[EP,EP,dV];rfl) l)
theorem abG(l:List (List Nat)):((l.map cX).map (·.length)).sum=l.flatten.length:=
 List.rec (motive:= λ l=>((l.map cX).map (·.length)).sum=l.flatten.length) rfl (λ a r aB=>by
  rw[h5,h5,abH,abF,bK,aB]
  exact congrArg (· +r.flatten.length) (jj a)) l
theorem L1(X:List V): ∀xs l,b3 h j X xs->iu X=B l->(l.length=X.length/\ ∀y∈l,hp y=G)/\StrsAre xs (l.map cX):=
 List.rec (motive:= λ X=> ∀xs l,b3 h j X xs->iu X=B l->(l.length=X.length/\ ∀y∈l,hp y=G)/\StrsAre xs (l.map cX))
  (λ xs l r e=>by
   rw[r.nI, <-dg (show B []=B l from e)]
   exact⟨⟨rfl,λ y bJ=>nomatch bJ⟩, .nil⟩)
  (λ v X aB xs l r e=>by
   obtain⟨y,ys,rfl,a5,c7⟩:=r.inv
   cases v with
   |str a=>
    obtain⟨m,ao,rfl⟩:=jF (show(iu X).map (a:: ·)=B l from e)
    obtain⟨t,rfl,ok⟩:=a5.str
    obtain⟨⟨Y,Z⟩,aE⟩:=aB ys m c7 ao
    exact⟨⟨congrArg oY Y,λ y bJ=>(eV.mp bJ).elim (λ q=>q▸ok) (Z y)⟩, .cons _ _ aE⟩
   |_=>exact nomatch (show(J:Option (List (List Nat)))=B l from e)) X
theorem L2(e:rF j rev (.str []) f7=B r): ∃a bj l,f7= .ref a/\j a=B (.list bj)/\iu bj=B l/\((if rev then l.reverse else l).flatten.length<=ay/\bj.length<=ay)/\V.str (if rev then l.reverse else l).flatten=r:=by
 cases f7 with
 |ref a=>
  have e:(match j a with|some (.list X)=>(iu X).bind λ l=>if(if rev then l.reverse else l).flatten.length<=ay/\X.length<=ay then B (V.str (if rev then l.reverse else l).flatten)else J|_=>J)=B r:=e
  cases q:j a with
  |none=>rw[q]at e;exact hl e
  |some o=>
   rw[q]at e
   cases o with
   |list bj=>
    obtain⟨l,Y,Z⟩:=l0 e
    exact⟨a,bj,l,rfl,q,Y,h8 Z⟩
   |_=>exact hl e
 |_=>exact hl e
theorem L3{l:List (List Nat)}(h: ∀y∈l,hp y=G):hp l.flatten=G:=hh.mpr λ x aJ=>by
 obtain⟨y,bJ,F2⟩:=List.mem_flatten.mp aJ
 exact hh.mp (h y bJ) x F2
end
end
section
open Builtin Builtin.Str Builtin.Int
theorem abI:typeLookup (.type "list_reverseiterator") "__len__" =pure J:=by rw[L4,L5];kernel_rfl
theorem abJ:typeLookup (.type "list_reverseiterator") "__length_hint__" =pure (B (.builtin "list_reverseiterator.__length_hint__")):=by rw[L4,L5];kernel_rfl
section
variable{prog:Program}{w:World}{A:Around}{hx:aZ->br->Prop}{s:br}{aW:Addr}{iD wr:List Addr}{bI:Array GenState->Array GenState->Prop}{n:Nat}{P:Nat->aZ->Prop}{St:Nat->br->Prop}
theorem abK{Q:List aZ->br->Prop}(W:WalksS prog w A.in1 aW iD wr bI n P St)(hq: ∀i s,St i s->s.TypeIs (.ref aW) "list_reverseiterator")(wo:St 0 s)(F3: ∀b∈iD,b<s.heap.objs.size)(fN:aW∈iD)
  (kI: ∀s' bR,Moved wr bI s s'->ItemsOf P bR n->Q bR.toList s') (aq:n<=sizeLine):wpAny (model prog w) A (collect (.ref aW)) Q hx s:=by
 have L6:s.heap.objs.size ∉ iD:= λ aG=>vV _ (F3 _ aG)
 have abL:s.heap.objs.size≠aW:= λ e=>L6 (e▸fN)
 unfold collect
 refine cE (abM (F4 PySem.F.entry_proto_collect ?_))
 rw[F5 PySem.F.plain_proto_collect _]
 show wpAny _ A.in1 (newList []>>= λ l=>again (.builtin "list.__iadd__" ⟨[l, .ref aW],[]⟩)) _ _ s
 refine cE (abq ?_)
 refine fv ⟨L7 abN _,F4 PySem.F.entry_list_iadd ?_⟩
 rw[F5 abN _]
 have um:=W.frame 0 s (s.heap.push { cls:= .type "list",data:= .seq ([]:List aZ).toArray }) s.toks wo (dt _) λ b _ o e=>iA _ e
 have abO:(s.heap.push { cls:= .type "list",data:= .seq ([]:List aZ).toArray }).get? s.heap.objs.size=B { cls:= .type "list",data:= .seq ([]:List aZ).toArray }:=iZ _ rfl
 have Y:abP (.ref s.heap.objs.size) (.ref aW)=U:=by simp [abP,abL]
 show wpAny _ A.in1 (abQ (.ref s.heap.objs.size) (.ref aW) (.ref s.heap.objs.size)) _ _ _
 unfold abQ
 refine cE (wpAny_typeOf (hq 0 _ um) ?_)
 rw[aL (by rw[Y];decide)]
 refine cE (W.self 0 _ _ _ um ?_)
 refine cE (jH ?_)
 unfold amz
 refine cE (F6 (hq 0 _ um) abI ?_)
 show wpAny _ A.in1 (specialOf (ZJ aW) (bu "__length_hint__")>>=_) _ _ _
 refine cE (F6 (hq 0 _ um) abJ ?_)
 (generalize F7:("list_reverseiterator.__length_hint__" :String)=L8;(fail_if_success (clear F7 L8));wp_delta;rw[show splitId L8=B ("list_reverseiterator","__length_hint__")from by subst F7;decide+kernel];subst F7)
 refine cE (wpAny_isInstance (b:=true) (hq 0 _ um) (by rw[isSubtype_type];kernel_rfl) ?_)
 refine fv ?_
 rw[aL (by decide)]
 refine fv ⟨L7 PySem.F.plain_extend_loop _,codeAny_extend_loopS W aq _ L6 _ n 0 _ _ _ rfl (eh _) um abO (ItemsOf.nil P) λ s' n1 nL aG abR F8=>?_⟩
 show wpAny _ A (load s.heap.objs.size>>=_) _ _ s'
 refine cE (wpAny_load abR ?_)
 exact fv (kI s' n1 (Moved.drop_new (o:={ cls:= .type "list",data:= .seq ([]:List aZ).toArray }) (tk:=s.toks) aG (dt _)) F8)
theorem abS{x:Str}{t:Tok}{Q:aZ->br->Prop}(W:WalksS prog w A.in1.in1 aW iD wr bI n P St)(hq: ∀i s,St i s->s.TypeIs (.ref aW) "list_reverseiterator")(wo:St 0 s)(F3: ∀b∈iD,b<s.heap.objs.size)(fN:aW∈iD)
  (co: ∀s' (bR:List aZ),Moved wr bI s s'->ItemsOf P bR.toArray n-> ∃l:List (Str×Tok),bR=strValues l/\JoinOk x (l.map (·.1))=G/\ ∀t' k,Q (.str (Txt.join x (l.map (·.1))) t') { s' with toks:=k })
  (er:n<=sizeLine):wpAny (model prog w) A (call (.builtin "str.join") [.str x t, .ref aW]) Q hx s:=by
 refine L9 (codeAny_call_builtin Ma.plain PySem.F.entry_str_join (Ma.check _ _ _ _ _ _ _ _ (o6 _ _ _) (PySem.F.args_str_join_2 _ _) ?_))
 rw[join_tree_other]
 refine cE (wpAny_typeOf (hq 0 s wo) ?_)
 show wpAny _ A.in1 ((pyIter (.ref aW)).tryCatch _>>= λ it=>collect it>>= λ items=>joinTail x items) _ _ s
 refine cE (abT (W.of_in1.self 0 s _ _ wo ?_))
 refine cE (abK W hq wo F3 fN (λ s' bR aG F8=>?_) er)
 obtain⟨l,ah,z0,z1⟩:=co s' bR.toList aG (by simpa using F8)
 rw[ah]
 unfold JoinOk at z0
 rw[r1]at z0
 have g:Gives (joinTail x (strValues l)) (joinMade x l):=by
  have kc:=gives_joinTail x l z0
  cases l with
  |nil=>exact kc
  |cons p r=>cases r with
   |nil=>exact kc
   |cons q cj=>exact kc
 exact g prog w A (wants Q hx) s' (post_join l ⟨joinFit_length z0,z1⟩)
end
end
section
variable{p:dc}{s:br}{j:St}{E:ax}{l:bh}{es:List bh}{pos iB np q uo:Pos}{x:Str}{k:Nat}{I:b6}{R:aZ->br->Prop}
noncomputable abbrev wq(k:Nat)(uo:Pos):bh:= .Constant (.str ⟨([]:List Nat).toArray⟩) k uo
set_option maxRecDepth 4000 in
theorem Mb(ah:(iB.endLine==pos.line)=G)(ap:es.length<20)(aT:jL p.env es)
  (go: ∀ws tk,p.wp (spliced (backTo pos (starEach es p.env))) (λ X jE=>p.wp (call (.builtin "str.join") (.str ⟨([]:List Nat).toArray⟩ ws::X)) R jE) { s with toks:=tk }):
  p.wp (eval (.Call (.Attribute (wq k uo) "join" iB) es [] pos) p.env) R s:=by
 have az: ∀t,attributeBase (wq k uo) "join" p.env t=t:= λ _=>rfl
 rw[Fp,az]
 refine cE (K5 (cE (kK (zB ah ap aT λ bg=>?_))))
 refine Fn (o6 _ _ _) zD Ma PySem.F.type_str_join no_dict ?_
 exact wb (first:=[.str _ _]) (λ h=>r2 rfl) aT (go _ _)
theorem Mc{l:List (List Nat)}(h:l.flatten.length<=ay):((l.map cX).map (·.length)).sum+(l.map cX).length*(⟨([]:List Nat).toArray⟩:Str).length<=16777216:=by
 rw[abG,jj,jM,Nat.mul_zero]
 exact ca h (bw rfl)
theorem abU(ah:(iB.endLine==pos.line)=G)(ab:Arg l)(aI:cB p l I):cB p (.Call (.Attribute (wq k uo) "join" iB) [l] [] pos) (y1 U (j0 (.str [])) I):= λ s j E Q a t=>
 Mb ah (bw rfl) (mR ab mQ) λ ws z2=>by
  rw[ab]
  refine nS (aI.then (s:={ s with toks:=z2 }) a t λ v bA y b2 dq c7 cO cy=>nR ?_)
  obtain⟨r,e,q⟩:=fJ dq
  obtain⟨b,bj,m,rfl,b7,j8,⟨bb,Md⟩,rfl⟩:=L2 e
  have c7:=c7.ref
  subst c7
  obtain⟨xs,bg,rs⟩:=cO.bV.list b7
  obtain⟨Y,Z⟩:=L1 bj xs m rs j8
  refine join_list bg.isList (ys:=m.map cX) (by rw[LX];exact Z) (Mc bb) λ t' k=>?_
  rw[L0]
  exact⟨_,bA,q,⟨t',rfl,L3 Y.2⟩,cO.bV,cy.h,cy.o,cy.g⟩
theorem abV{xs bR:List aZ}(it:ItemsOf (λ i v=>xs.toArray[xs.toArray.size - 1 - i]?=B v) bR.toArray xs.toArray.size):bR=xs.reverse:=by
 have ah:bR.length=xs.length:=by have:=it.1;rw[gL,gL]at this;exact this
 refine abW λ i=>?_
 rcases F9 i xs.length with bo|bo
 .have n2:i<bR.length:=ah▸bo
  have e:=it.2 i (bR[i]) (by rw[nN];exact hi n2)
  rw[gL,nN]at e
  rw[ZX bo,e,hi n2]
 .rw[wk (ah▸bo),wk (ca (lp zG) bo)]
set_option maxRecDepth 4000 in
theorem abX(ae:p.d.Ok)(aM:p.aa.cL=p.d.cL)(ah:(iB.endLine==pos.line)=G)(aA:p.aa.glob x=B .reversed)(ab:Arg l)(aI:cB p l I):
  cB p (.Call (.Attribute (wq k uo) "join" iB) [.Call (.Name x np) [l] [] q] [] pos) (y1 G (j0 (.str [])) I):= λ s j E Q a t=>
 Mb ah (bw rfl) (mR (λ _ _=>rfl) mQ) λ ws z2=>by
  refine nS (zK ae aM (g:= .reversed) (T:= "reversed") (λ _ h=>h) (λ h=>r2 rfl) aA (mR ab mQ) (s:={ s with toks:=z2 }) a ?_)
  rw[ab]
  refine nS (aI.then (s:={ s with toks:=z2 }) a t λ v bA y b2 dq c7 cO cy=>nR ?_)
  obtain⟨r,e,q⟩:=fJ dq
  obtain⟨b,bj,m,rfl,b7,j8,⟨bb,Md⟩,rfl⟩:=L2 e
  have c7:=c7.ref
  subst c7
  obtain⟨xs,bg,rs⟩:=cO.bV.list b7
  obtain⟨Y,Z⟩:=L1 bj xs m rs j8
  obtain⟨au,ao,aH⟩:=strsAre_values Z
  refine aac bg.isList (nR ?_)
  have ak: ∀c o,b2.heap.get? c=B o->(b2.heap.push (revObj b ((xs.toArray.size:Int) - 1))).get? c=B o:= λ c o e=>iA _ e
  have o2:(b:Nat)<b2.heap.objs.size:=by obtain⟨k,e⟩:=bg;exact vU e
  have fN:(b2.heap.push (revObj b ((xs.toArray.size:Int) - 1))).get? b2.heap.objs.size=B (revObj b ((xs.toArray.size:Int) - 1)):=iZ _ rfl
  refine abS (ZW (A:=p.d.A.in1.in1) ae.ok.hand b2.heap.objs.size b (zr o2) xs.toArray).toS (λ i s st=>st.2.1.typeIs) ⟨eh _,⟨_,fN,rfl,?_⟩,bg.isList.at (ak b)⟩ (λ c ap=>?_) (.head _) (λ s' bR Ga it=>?_) (by rw[gL, <-rs.length];exact lZ Md)
  .show Fx _=Fx #[_,rawInt ((xs.toArray.size:Int) - 1 - ((0:Nat):Int))]
   rw[aad,aae]
  .show (c:Nat)<_
   rw[LP]
   rcases eV.mp ap with rfl|ap
   .exact k7 _
   .rw[ee.mp ap];exact zW o2
  .have j8:au.reverse.map (·.1)=m.reverse.map cX:=by rw[Gb,aH,Gb]
   refine⟨au.reverse,by rw[abV it,ao];unfold strValues;rw[Gb],by rw[j8];exact joinOk_of (Mc bb),λ t' k=>?_⟩
   rw[j8,L0]
   have wt:l2 b2.heap.objs.size (b2.heap.push (revObj b ((xs.toArray.size:Int) - 1))) s'.heap:= λ b o az e=>Ga.heap b o (λ m=>az (ee.mp m)) e
   have bC:lb p.d.toCn b2.heap.objs.size bA (b2.heap.push (revObj b ((xs.toArray.size:Int) - 1))):=⟨cO.bV.fresh (jD _),zH cO.bV,_,fN,λ⟨_,_,q⟩=>Data.noConfusion q⟩
   exact⟨_,bA,q,⟨t',rfl,L3 λ y bJ=>Y.2 y (abY.mp bJ)⟩,bC.bV (cO.bV.grow ak) wt,cy.h.trans (wl (Step.h4 ak) wt.step (jD _)),Ga.os.trans cy.o,Ga.gens.trans cy.g⟩
end
theorem Gc:plainId "proto.contains_iter" =G:=by decide+kernel
theorem Me:entryFor table "proto.contains_iter" =B Builtin.«proto.contains_iter» :=entryFor_of_tree (by kernel_rfl)
theorem Mf:typeLookup (.type "dict_values") "__contains__" =pure J:=by rw[L4,L5];kernel_rfl
theorem abZ{h:b1}{j:St}{kvs:List (a2×V)}{l:List (a2×aZ)}{ys:List (List Nat)}(p:dW (bk h j) kvs l)(e:iu (kvs.map (·.2))=B ys){i:Nat}{k:a2}{x:aZ}(aJ:l[i]?=B (k,x)): ∃y t,ys[i]?=B y/\x=Fo ⟨y.toArray⟩ t:=by
 have F: ∀(X:List V) ys i v,iu X=B ys->X[i]?=B v-> ∃y,ys[i]?=B y/\v=V.str y:= λ X=>
  List.rec (motive:= λ X=> ∀ys i v,iu X=B ys->X[i]?=B v-> ∃y,ys[i]?=B y/\v=V.str y) (λ ys i v _ h=>by rw[Xe]at h;exact hl h)
   (λ v X aB ys i u e h=>by
    cases v with
    |str a=>
     obtain⟨m,ao,rfl⟩:=jF (show(iu X).map (a:: ·)=B ys from e)
     cases i with
     |zero=>exact⟨a,rfl,(dg h).symm⟩
     |succ i=>exact aB m i u ao h
    |_=>exact nomatch (show(J:Option (List (List Nat)))=B ys from e)) X
 obtain⟨v,bF,r⟩:=p.get _ _ _ _ _ aJ
 obtain⟨y,bJ,rfl⟩:=F _ _ i v e (by rw[jq,bF];rfl)
 obtain⟨t,rfl,_⟩:=r.str
 exact⟨y,t,bJ,rfl⟩
section
variable{prog:Program}{w:World}{A:Around}
theorem ab0{c:Cn}{it d db:Nat}{l:List (a2×aZ)}{ys:List (List Nat)}{t:List Nat}{u:Tok}{R:Result->br->Prop}{A:Around}(gp:A.handled=J)(ab1: ∀(i:Nat) k x,l[i]?=B (k,x)-> ∃(y:List Nat) (t:Tok),ys[i]?=B y/\x=Fo ⟨y.toArray⟩ t)(ah:l.length=ys.length)(n3:d≠it)(b5:List (List Nat)):
  ∀(i:Nat) (s:br),b5=ys.drop i->s.heap.IsValIter it d i l.length db->s.heap.DictAt (hA c) d l db->
   (∀h' tk,ab2 it s.heap h'->R (.ok (.ret (.bool (b5.any λ y=>decide (y=t))))) { s with heap:=h',toks:=tk })->codeAny (model c.prog c.w) A (.builtin "proto.contains_iter" ⟨[.ref it, .str ⟨t.toArray⟩ u],[]⟩) R s:=
 List.rec (motive:= λ b5=> ∀(i:Nat) (s:br),b5=ys.drop i->s.heap.IsValIter it d i l.length db->s.heap.DictAt (hA c) d l db->
   (∀h' tk,ab2 it s.heap h'->R (.ok (.ret (.bool (b5.any λ y=>decide (y=t))))) { s with heap:=h',toks:=tk })->codeAny (model c.prog c.w) A (.builtin "proto.contains_iter" ⟨[.ref it, .str ⟨t.toArray⟩ u],[]⟩) R s)
  (λ i s e mX kN hm=>by
   refine F4 Me ?_
   rw[F5 Gc _]
   exact cE (wpAny_pyNext_values_end gp mX kN (wk (ah▸FL.mp e.symm)) λ h' aF=>cE (Mg (fv (hm h' s.toks aF)))))
  (λ y b5 aB i s e mX kN hm=>by
   obtain⟨bJ,dL⟩:=zS e
   have o2:i<l.length:=ah▸(jl.mp bJ).1
   have bF:=hi o2
   generalize l[i]=ab3 at bF
   obtain⟨k,x⟩:=ab3
   obtain⟨zb,ws,ab4,rfl⟩:=ab1 i k x bF
   have z3:=dg (bJ.symm.trans ab4)
   subst z3
   refine F4 Me ?_
   rw[F5 Gc _]
   refine cE (wpAny_pyNext_values_item mX kN bF λ h' ab5 gM=>cE (amA _ _ _ _ c.prog c.w _ _ ?_))
   rw[J7]
   rw[Ez]at hm
   cases q:decide (y=t)
   .rw[q,z4]at hm
    exact fv ⟨L7 Gc _,aB (i+1) { s with heap:=h' } dL ab5 (kN.extBut gM.extBut n3) λ Z tk aF=>hm Z tk (gM.extBut.trans aF)⟩
   .rw[q,ab6]at hm
    exact cE (Mg (fv (hm h' s.toks gM.extBut)))) b5
end
section
variable{p:dc}{s:br}{j:St}{E:ax}{l o:bh}{bq I:b6}{pos iB:Pos}{aX iw:V}{Q:V->St->Prop}
theorem ab7(h:vA aX iw j Q): ∃t a kvs,aX= .str t/\iw= .ref a/\j a=B (.dict kvs)/\kvs.all (λ x=>x.1.fR)=G/\b9 (iu (kvs.map (·.2))) λ l=>Q (.bool (l.any λ y=>decide (y=t))) j:=by
 cases aX with
 |str t=>
  cases iw with
  |ref a=>
   obtain⟨kvs,e,h⟩:=zs (P:= λ kvs=>kvs.all (λ x=>x.1.fR)=G/\b9 (iu (kvs.map (·.2))) λ l=>Q (.bool (l.any λ y=>decide (y=t))) j) h
   exact⟨t,a,kvs,rfl,rfl,e,h⟩
  |_=>exact h.elim
 |_=>exact h.elim
theorem ab8{X:List V}: ∀l,iu X=B l->l.length=X.length:=
 List.rec (motive:= λ X=> ∀l,iu X=B l->l.length=X.length) (λ l e=>by rw[<-dg (show B []=B l from e)];rfl)
  (λ v X aB l e=>by
   cases v with
   |str a=>
    obtain⟨m,ao,rfl⟩:=jF (show(iu X).map (a:: ·)=B l from e)
    exact congrArg oY (aB m ao)
   |_=>exact nomatch (show(J:Option (List (List Nat)))=B l from e)) X
theorem ab9(ae:p.d.Ok)(az: ∀t,attributeBase o "values" p.env t=t)(ah:(iB.endLine==pos.line)=G)(aI:cB p l bq)(ba:cB p o I):qu p l .In (.Call (.Attribute o "values" iB) [] [] pos) (DL bq I):= λ s j E Q a t=>
 aI.then a t λ aX aP x bt bs a5 bz bB=>by
  rw[Fp,az]
  refine cE (ba.then bz bs λ iw bA y b2 dq c7 cO cy=>cE (kK (zB ah (hC _) mQ λ bg=>?_)))
  have a5:=a5.step cy.h d4
  obtain⟨t,k,kvs,rfl,rfl,ao,fR,dq⟩:=ab7 dq
  obtain⟨ys,z3,q⟩:=fJ dq
  obtain⟨ws,rfl,ok⟩:=a5.str
  have c7:=c7.ref
  subst c7
  have ag:=cO.bV.dict ao
  obtain⟨mZ,es,db,Y,Z,aE⟩:=ag.o1
  obtain⟨l,se,qA⟩:=ag.fR fR
  refine Fn (T:= "dict") (tZ ag) Lf aca PySem.F.type_dict_values (λ b az=>⟨mZ,(zE az)▸Y,Z.2.1⟩) ?_
  refine aa3 aca PySem.F.entry_dict_values rfl (aa4 ⟨rfl,se.typeIs,PySem.F.args_dict_values_1 _,_,meets_dict_values (hA p.d.toCn) k (v0 ae.ok cO.bV ao),⟨l,se⟩,?_⟩)
  obtain⟨o,es,db,kN⟩:=se
  have kN:b2.heap.DictAt (hA p.d.toCn) k l db:=⟨o,es,kN⟩
  have ed: ∀b o,b2.heap.get? b=B o->(b2.heap.push { cls:= .type "dict_values",data:= .fields #[.ref k] }).get? b=B o:= λ b o e=>iA _ e
  have bF:(b2.heap.push { cls:= .type "dict_values",data:= .fields #[.ref k] }).IsValuesView b2.heap.objs.size k:=⟨_,iZ _ rfl,rfl,rfl⟩
  refine cE ?_
  unfold contains
  refine jH ?_
  refine cE (F6 bF.typeIs Mf ?_)
  refine cE ?_
  unfold callSpecialUnlessNone?
  refine cE (F6 bF.typeIs Mf (fv ?_))
  refine cE (Mg (cE (abT (wpAny_pyIter_values bF (kN.at λ o e=>ed _ _ e) ?_))))
  generalize fN:(b2.heap.push { cls:= .type "dict_values",data:= .fields #[.ref k] }).objs.size=aW
  generalize uk:((b2.heap.push { cls:= .type "dict_values",data:= .fields #[.ref k] }).push { cls:= .type "dict_valueiterator",data:= .fields #[.ref k, .int 0 0, .int l.length 0, .int db 0] })=cH
  have ak: ∀b o,b2.heap.get? b=B o->cH.get? b=B o:= λ b o e=>uk▸iA _ (ed _ _ e)
  have Mh:cH.get? aW=B { cls:= .type "dict_valueiterator",data:= .fields #[.ref k, .int 0 0, .int l.length 0, .int db 0] }:=by rw[<-uk, <-fN];exact iZ _ rfl
  have gN:b2.heap.get? aW=J:=nK.mpr λ o e=>f9 (ed _ _ e) (fN▸jD _)
  have eW:l.length=ys.length:=by rw[<-dW.len _ _ qA,ab8 _ z3,c2]
  refine cE (abM (ab0 (c:=p.d.toCn) ae.ok.hand (λ i k x e=>abZ qA z3 e) eW (λ q:k=aW=>f9 Y ((congrArg b2.heap.get? q).trans gN)) ys 0 { b2 with heap:=cH } rfl ⟨_,Mh,rfl,rfl⟩ (kN.at (ak k)) λ h' tk aF=>fv (fv ?_)))
  have wt:l2 aW cH h':= λ b o az e=>aF b o az e
  have bC:lb p.d.toCn aW bA cH:=⟨cO.bV.fresh gN,FW cO.bV gN,_,Mh,λ⟨_,_,q⟩=>Data.noConfusion q⟩
  exact⟨⟨_,rfl⟩,_,bA,q,rfl,bC.bV (cO.bV.grow ak) wt,(bB.h.trans cy.h).trans (wl (Step.h4 ak) wt.step gN),(bB.trans cy).o,(bB.trans cy).g⟩
end
def z5(fp:List a2):List (aZ×aZ)->Prop:=List.rec (motive:= λ _=>List (aZ×aZ)->Prop) (λ ps=>ps=[]) (λ k _ aB ps=> ∃cn nZ r,ps=(cn,nZ)::r/\oZ k cn=G/\aB r) fp
def wu(p:dc)(fp:List a2)(cU:List (Option bh))(es:List bh)(T:SL):Prop:= ∀s j E Q pos,p.At E j s.heap->T E j Q->
 p.wp (evalPairs (pairTrees cU es p.env pos)) (λ ps s'=> ∃bj D,Q bj D/\z5 fp ps/\b3 s'.heap D bj (ps.map (·.2))/\bN p.d.toCn s'.heap D/\cN c6 j s D s') s
def Gd(k:a2)(e:bh):Prop:=(∃x n q,k= .s x/\e= .Constant (.str ⟨x.toArray⟩) n q)\/ ∃i n q,k= .i i/\e= .Constant (.int i) n q
section
variable{p:dc}{c:Cn}{s:br}{j cR:St}{E:ax}{h:b1}{e Mi:bh}{es:List bh}{bq:b6}{au:SL}{k:a2}{fp:List a2}{cU:List (Option bh)}{pos:Pos}
theorem acb:wu p [] [] [] tO:= λ s j E Q pos a t=>pairTrees_nil_walk ⟨[],j,t,rfl, .nil,a.bV,cN.refl⟩
theorem acc(ak:Gd k Mi)(aI:cB p e bq)(az:wu p fp cU es au):wu p (k::fp) (B Mi::cU) (e::es) (y3 bq au):= λ s j E Q pos a t=>by
 have fin: ∀cn tk,oZ k cn=G->p.wp (eval e p.env) (λ nZ jE=>p.wp (evalPairs (pairTrees cU es p.env pos)) (λ r nX=> ∃bj D,Q bj D/\z5 (k::fp) ((cn,nZ)::r)/\b3 nX.heap D bj (((cn,nZ)::r).map (·.2))/\bN p.d.toCn nX.heap D/\cN c6 j s D nX) jE) { s with toks:=tk }:= λ cn tk zV=>
  aI.then (s:={ s with toks:=tk }) a t λ v aP x b2 bs a5 bz bB=>mono (az _ _ _ _ pos bz bs) λ r eF q=>by
   obtain⟨bj,dR,q,ak,rs,l1,fX⟩:=q
   exact⟨v::bj,dR,q,⟨cn,x,r,rfl,zV,ak⟩, .cons (a5.step fX.h d4) rs,l1,(bB.trans fX).h,(bB.trans fX).o,(bB.trans fX).g⟩
 refine pairTrees_cons_walk ?_
 rcases ak with⟨x,n,q,rfl,rfl⟩|⟨i,n,q,rfl,rfl⟩
 .exact K5 (fin _ _ (JT x _))
 .exact K4 (fin _ _ (JU i _))
theorem acd(fp:List a2): ∀bj ps,bj.length=fp.length->z5 fp ps->b3 h j bj (ps.map (·.2))-> ∃l,Carries (hA c) ps l/\dW (bk h j) (fp.zip bj) l/\l.map (·.1)=fp:=
 List.rec (motive:= λ fp=> ∀bj ps,bj.length=fp.length->z5 fp ps->b3 h j bj (ps.map (·.2))-> ∃l,Carries (hA c) ps l/\dW (bk h j) (fp.zip bj) l/\l.map (·.1)=fp)
  (λ bj ps _ q _=>by rw[show ps=[]from q];exact⟨[],trivial,rfl,rfl⟩)
  (λ k fp aB bj ps ah q r=>by
   obtain⟨cn,nZ,ps,rfl,ak,q⟩:=q
   cases bj with
   |nil=>exact kb ah
   |cons u bj=>
    obtain⟨y,ys,e,a5,c7⟩:=r.inv
    have e:nZ=y/\ps.map (·.2)=ys:=za e
    rw[<-e.2]at c7
    obtain⟨l,Y,Z,aE⟩:=aB bj ps (pe ah) q c7
    exact⟨(k,nZ)::l,⟨ak,rfl,Y⟩, .cons (by rw[e.1];exact a5) Z,congrArg (k:: ·) aE⟩) fp
theorem ace(kvs:List (a2×V)):vy kvs=G->(kvs.map (·.1)).Nodup:=
 List.rec (motive:= λ kvs=>vy kvs=G->(kvs.map (·.1)).Nodup) (λ _=>nJ) (λ cn r aB h=>by
  obtain⟨k,v⟩:=cn
  obtain⟨Y,Z⟩:=aV h
  refine Ge.mpr ⟨λ aG=>?_,aB Z⟩
  obtain⟨x,aJ,e⟩:=nO.mp aG
  exact of_decide_eq_true (aV (hh.mp Y x aJ)).2 e) kvs
theorem acf:cB p (.Dict [] [] pos) (y0 [] tO):= λ s j E Q a t=>by
 obtain⟨kvs,ww,Mj,q⟩:=fJ (o:=CF [] []) (Q:=yY j Q) t
 have ww: []=kvs:=(h8 ww).2
 subst ww
 exact wpAny_Dict_empty (zk (o:= .dict []) rfl a.bV (λ _=> .inl ⟨[],⟨_,_,0,iZ _ rfl,⟨rfl,rfl,rfl⟩,rfl,(tS rfl).1,(tS rfl).2,nJ⟩,rfl⟩) q)
theorem acg(n3:cU≠ [])(ach:cU.all (·.isSome)=G)(ah:cU.length=es.length)(aci:cU.length<=15)(aI:wu p fp cU es au):cB p (.Dict cU es pos) (y0 fp au):= λ s j E Q a t=>by
 have Mk: ∀b o,s.heap.get? b=B o->(s.heap.push { cls:= .type "dict",data:= .dict #[] }).get? b=B o:= λ b o e=>iA _ e
 have mY:Step c6 j s.heap j (s.heap.push { cls:= .type "dict",data:= .dict #[] }):=Step.h4 Mk
 have sl:=jD s.heap
 have bS:(s.heap.push { cls:= .type "dict",data:= .dict #[] }).get? s.heap.objs.size=B { cls:= .type "dict",data:= .dict #[] }:=iZ _ rfl
 refine wpAny_Dict_walk (knd:=hA p.d.toCn) ach ah n3 aci (mono (aI { s with heap:=s.heap.push { cls:= .type "dict",data:= .dict #[] } } j E _ pos (a.step (a.bV.grow Mk) mY) t) λ ps bt q=>?_)
 obtain⟨bj,aP,q,ak,rs,ug,bB⟩:=q
 obtain⟨kvs,ww,Mj,q⟩:=fJ q
 obtain⟨⟨bb,_⟩,rfl⟩:=h8 ww
 have ao:=bB.h.k4 _ _ bS (a.bV.fresh sl) id
 have o4:=bB.h.keep _ _ bS (a.bV.fresh sl) id
 obtain⟨l,Y,Z,aE⟩:=acd (c:=p.d.toCn) fp bj ps bb.symm ak rs
 have ie:(l.map (·.1)).Nodup:=by rw[aE, <-acj (l₁:=fp) (l₂:=bj) (lp bb)];exact ace _ Mj
 refine⟨l,Y,⟨_,_,0,o4,⟨rfl,rfl,rfl⟩,rfl,(tS rfl).1,(tS rfl).2,nJ⟩,λ h' hd ab=>?_⟩
 rw[merged_nil_of_nodup l ie]at hd
 have ak:l2 s.heap.objs.size bt.heap h':= λ b o az e=>(ab.2 b az).trans e
 have bC:lb p.d.toCn s.heap.objs.size aP bt.heap:=⟨ao,zH a.bV,_,o4,λ⟨_,_,q⟩=>Data.noConfusion q⟩
 have ag:h6 p.d.toCn h' aP s.heap.objs.size (fp.zip bj):= .inl ⟨l,hd,Z.mono (λ _ _ z=>z.step ak.step bC.dM) _ _⟩
 obtain⟨mZ,_,_,ack,_⟩:=ag.o1
 have dM:gA (· =s.heap.objs.size) h':= λ b q cd co=>by rw[cd]at co;exact ag.o1.noSeq co
 have C:=(bC.bV ug ak).set (F:=(· =s.heap.objs.size)) (h':=h') (o:= .dict (fp.zip bj)) ao (zH a.bV) dM (λ _ e=>e) ⟨mZ,ack⟩ (.inl rfl) (λ _ _ e=>e) λ st=>ag.step st dM λ _ q=>q
 exact⟨.ref s.heap.objs.size,_,q _ ao,rfl,C.1,wl (wl (mY.trans bB.h) ak.step sl) C.2 sl,bB.o,bB.g⟩
end
structure z6 where
 es:List bh
 x:Str
 p:Pos
 n:Nat
 sc:Scope
 lo:Option bh
 bo:Option bh
 cU:List (Option bh)
 g:Bool
noncomputable def aq(es:List bh)(p:Pos):z6:=⟨es,default,p,0,default,J,J,[],U⟩
noncomputable def l7:z6:=aq [] default
noncomputable def view(e:bh):z6:=Expr.casesOn (motive_1:= λ _=>z6) e (λ _ X p=>aq X p) (λ _ _ _=>l7) (λ l _ r p=>aq [l,r] p) (λ _ x p=>aq [x] p) (λ _ _ _ _=>l7) (λ c a b p=>aq [c,a,b] p) (λ cU X p=>⟨X,default,p,0,default,J,J,cU,U⟩) (λ _ _ _=>l7)
 (λ a wx sc p=>⟨a::wx.flatMap λ g=>g.target::g.iter::g.ifs,default,p,0,sc,J,J,[],U⟩) (λ _ _ _ _=>l7) (λ _ _ _ _ _=>l7) (λ _ _ _ _=>l7) (λ _ _=>l7) (λ _ _=>l7) (λ _ _=>l7) (λ l _ sf p=>aq (l::sf) p) (λ f es _ p=>aq (f::es) p) (λ _ _ _ _=>l7) (λ _ _=>l7)
 (λ _ k p=>⟨[],default,p,k,default,J,J,[],U⟩) (λ v x p=>⟨[v],x,p,0,default,J,J,[],U⟩) (λ v s p=>aq [v,s] p) (λ _ _=>l7) (λ x p=>⟨[],x,p,0,default,J,J,[],G⟩) (λ es p=>aq es p) (λ es k p=>⟨es,default,p,k,default,J,J,[],U⟩) (λ lo bo _ p=>⟨[],default,p,0,default,lo,bo,[],U⟩)
noncomputable def bx(e:bh)(i:Nat):bh:=(view e).es.getD i default
noncomputable def hT(es:List bh):bh:=es.headD default
structure R where
 e:bh
 ok:Bool
 b:Bool
 c:Option V
 s:Str->Pos->Bool
noncomputable def qD(e:bh)(ok:Bool):R:=⟨e,ok,G,J,λ _ _=>U⟩
abbrev dG:=(Bool->dQ->bh->R)×(BoolOp->Bool->dQ->List bh->List bh×Bool)
abbrev kd:=dQ->List bh->List bh×Bool
abbrev m1:=dQ->bh->bh×Bool
noncomputable def l8(f:Bool->dQ->bh->R):dG:=(f,λ _ m aa ab=>([(f m aa (hT ab)).e],(f m aa (hT ab)).ok))
noncomputable def i4(g:dQ->bh->bh×Bool):dG:=l8 λ _ aa e=>qD (g aa e).1 (g aa e).2
noncomputable def dy.num(b:dy):Nat:=b.casesOn 0 1 2 3 4 5 6
noncomputable def bI.tag(g:bI):Nat×Nat:=g.casesOn (λ a=>(0,a)) (λ _=>(1,0)) (λ b=>(2,b.num)) (3,0) (4,0) (5,0)
noncomputable def pn(aa:dQ)(x:Str)(t:Nat×Nat):Bool:=(aa.glob x).casesOn U λ g=>g.tag==t
noncomputable def Gf:V->V->Bool:=V.rec (motive_1:= λ _=>V->Bool) (motive_2:= λ _=>List V->Bool) (λ _=>U) (λ _ _=>U) (λ i b=>match b with| .int aU=>i==aU|_=>U) (λ s b=>match b with| .str t=>s==t|_=>U)
 (λ _ aB b=>match b with| .tup bj=>aB bj|_=>U) (λ _ _=>U) (λ _ _ _=>U) (λ bj=>bj.isEmpty) (λ _ _ gz fU bj=>match bj with| []=>U|u::bj=>gz u&&fU bj)
noncomputable def Gg(aa:dQ)(x:Str)(v:V):Bool:=(aa.glob x).casesOn U λ g=>match g with| .ea u=>Gf v u|_=>U
noncomputable def constOf(v:V):Const:=v.casesOn .none .bool .int (λ l=> .str ⟨l.toArray⟩) (λ _=> .none) (λ _=> .none) (λ _=> .none)
noncomputable def acl(v:V):Bool:=v.casesOn G (λ _=>G) (λ _=>G) hp (λ _=>U) (λ _=>U) (λ _=>U)
noncomputable def l9(v:V)(aa:dQ)(e:bh):R:=(view e).g.casesOn ⟨.Constant (constOf v) (view e).n (view e).p,acl v,G,B v,λ _ _=>U⟩ ⟨.Name (view e).x (view e).p,Gg aa (view e).x v,G,B v,λ _ _=>U⟩
noncomputable def Ml(o:Option V):Bool:=o.casesOn U λ v=>match v with| .none=>G|_=>U
noncomputable def Mm(o:Option V):Bool:=o.casesOn U λ v=>match v with| .str l=>l.isEmpty|_=>U
noncomputable def wy(k:a2)(h:bh):Option bh×Bool:=k.casesOn (λ x=>(B (.Constant (.str ⟨x.toArray⟩) (view h).n (view h).p),G)) (λ i=>(B (.Constant (.int i) (view h).n (view h).p),G)) (λ _ _=>(J,U))
noncomputable def n4(cU:List a2)(ab:List (Option bh)):List (Option bh)×Bool:=cU.rec (motive:= λ _=>List (Option bh)->List (Option bh)×Bool) (λ _=>([],G)) (λ k _ aB ab=>((wy k (ab.headD J|>.getD default)).1::(aB ab.tail).1,(wy k (ab.headD J|>.getD default)).2&&(aB ab.tail).2)) ab
noncomputable def uq(r:bh->R)(o:Option bh):Option bh×Bool:=o.casesOn (J,Ml (r default).c) λ h=>(B (r h).e,(r h).ok)
noncomputable def z7:kd:= λ _ _=>([],G)
noncomputable def z8(a:dG)(b:kd):kd:= λ aa ab=>((a.1 U aa (hT ab)).e::(b aa ab.tail).1,(a.1 U aa (hT ab)).ok&&(b aa ab.tail).2)
noncomputable def z9(i:Nat):dG:=i4 λ aa e=>(.Name (view e).x (view e).p,!((view e).x==("__debug__" :Str))&&(aa.at (view e).x==B i))
noncomputable def Aa(l:kd):dG:=i4 λ aa e=>(.Tuple (l aa (view e).es).1 (view e).n (view e).p,(l aa (view e).es).2&&decide ((l aa (view e).es).1.length<=1000))
noncomputable def Ab(l:kd):dG:=i4 λ aa e=>(.List (l aa (view e).es).1 (view e).p,(l aa (view e).es).2&&decide ((l aa (view e).es).1.length<=1000))
noncomputable def Ac(cU:List a2)(l:kd):dG:=i4 λ aa e=>(.Dict (n4 cU (view e).cU).1 (l aa (view e).es).1 (view e).p,((n4 cU (view e).cU).2&&(l aa (view e).es).2)&&(decide (cU.length=(l aa (view e).es).1.length)&&decide (cU.length<=15)))
noncomputable def Ad(op:f4)(a b:dG):dG:=i4 λ aa e=>(.BinOp (a.1 U aa (bx e 0)).e (mK op) (b.1 U aa (bx e 1)).e (view e).p,(a.1 U aa (bx e 0)).ok&&(b.1 U aa (bx e 1)).ok)
noncomputable def Ae(op:k0)(a b:dG):dG:=i4 λ aa e=>(.Compare (a.1 U aa (bx e 0)).e [EN op] [(b.1 U aa (bx e 1)).e] (view e).p,(a.1 U aa (bx e 0)).ok&&(b.1 U aa (bx e 1)).ok)
noncomputable def Af(neg:Bool)(a:dG)(l:kd):dG:=i4 λ aa e=>(.Compare (a.1 U aa (bx e 0)).e [if neg then .NotIn else .In] [.List (l aa (view (bx e 1)).es).1 (view (bx e 1)).p] (view e).p,(a.1 U aa (bx e 0)).ok&&((l aa (view (bx e 1)).es).2&&decide ((l aa (view (bx e 1)).es).1.length<=1000)))
noncomputable def Ag(a d:dG):dG:=i4 λ aa e=>(.Compare (a.1 U aa (bx e 0)).e [.In] [.Call (.Attribute (d.1 U aa (bx (bx (bx e 1) 0) 0)).e "values" (view (bx (bx e 1) 0)).p) [] [] (view (bx e 1)).p] (view e).p,
 ((a.1 U aa (bx e 0)).ok&&(d.1 U aa (bx (bx (bx e 1) 0) 0)).ok)&&((d.1 U aa (bx (bx (bx e 1) 0) 0)).b&&((view (bx (bx e 1) 0)).p.endLine==(view (bx e 1)).p.line)))
noncomputable def Ah(neg:Bool)(a:dG):dG:=i4 λ aa e=>(.Compare (a.1 U aa (bx e 0)).e [.Eq] [.List [] (view (bx e 1)).p] (view e).p,(a.1 U aa (bx e 0)).ok&&!neg)
noncomputable def sn(op:BoolOp)(a b:dG)(m:Bool)(aa:dQ)(ab:List bh):List bh×Bool:=((a.1 m aa (hT ab)).e::(b.2 op m aa ab.tail).1,(a.1 m aa (hT ab)).ok&&(b.2 op m aa ab.tail).2)
noncomputable def Gh(op:BoolOp)(a b:dG)(m:Bool)(aa:dQ)(e:bh):R:=qD (.BoolOp op (sn op a b m aa (view e).es).1 (view e).p) (sn op a b m aa (view e).es).2
noncomputable def Gi(a b:BoolOp):Bool:=a.casesOn (b.casesOn G U) (b.casesOn U G)
noncomputable def qE(op:BoolOp)(a b:dG):dG:=(Gh op a b,λ Ai m aa ab=>(Gi op Ai&&!ab.tail.isEmpty).casesOn ([(Gh op a b m aa (hT ab)).e],(Gh op a b m aa (hT ab)).ok) (sn op a b m aa ab))
noncomputable def Aj(a:dG):dG:=l8 λ m aa e=>qD (.UnaryOp .Not (a.1 m aa (bx e 0)).e (view e).p) (a.1 m aa (bx e 0)).ok
noncomputable def Ak(a:dG):dG:=i4 λ aa e=>(.UnaryOp .USub (a.1 U aa (bx e 0)).e (view e).p,(a.1 U aa (bx e 0)).ok)
noncomputable def Al(c a b:dG):dG:=l8 λ m aa e=>qD (.IfExp (c.1 G aa (bx e 0)).e (a.1 m aa (bx e 1)).e (b.1 m aa (bx e 2)).e (view e).p) ((c.1 G aa (bx e 0)).ok&&((a.1 m aa (bx e 1)).ok&&(b.1 m aa (bx e 2)).ok))
noncomputable def Am(a:dG)(n:Nat):dG:=i4 λ aa e=>(.Attribute (a.1 U aa (bx e 0)).e (d2 n) (view e).p,(a.1 U aa (bx e 0)).ok&&(a.1 U aa (bx e 0)).b)
noncomputable def An(a b:dG):dG:=i4 λ aa e=>(.Subscript (a.1 U aa (bx e 0)).e (b.1 U aa (bx e 1)).e (view e).p,(a.1 U aa (bx e 0)).ok&&(b.1 U aa (bx e 1)).ok)
noncomputable def Ao(a b c:dG):dG:=i4 λ aa e=>(.Subscript (a.1 U aa (bx e 0)).e (.Slice (uq (b.1 U aa) (view (bx e 1)).lo).1 (uq (c.1 U aa) (view (bx e 1)).bo).1 J (view (bx e 1)).p) (view e).p,
 (a.1 U aa (bx e 0)).ok&&((uq (b.1 U aa) (view (bx e 1)).lo).2&&(uq (c.1 U aa) (view (bx e 1)).bo).2))
noncomputable def qF(e:bh)(es:List bh):bh:= .Call (.Name (view (bx e 0)).x (view (bx e 0)).p) es [] (view e).p
noncomputable def Ap(f:Nat)(l:kd):dG:=l8 λ _ aa e=>⟨qF e (l aa (view e).es.tail).1,pn aa (view (bx e 0)).x (0,f)&&(l aa (view e).es.tail).2,!(l aa (view e).es.tail).1.isEmpty,J,λ _ _=>U⟩
noncomputable def Aq(b:dy)(a:dG):dG:=i4 λ aa e=>(qF e [(a.1 U aa (bx e 1)).e],pn aa (view (bx e 0)).x (2,b.num)&&(a.1 U aa (bx e 1)).ok)
noncomputable def Ar(a b:dG):dG:=i4 λ aa e=>(qF e [(a.1 U aa (bx e 1)).e,(b.1 U aa (bx e 2)).e],pn aa (view (bx e 0)).x (3,0)&&((a.1 U aa (bx e 1)).ok&&(b.1 U aa (bx e 2)).ok))
noncomputable def As(o:dG)(n:Nat)(l:kd):dG:=i4 λ aa e=>(.Call (.Attribute (o.1 U aa (bx (bx e 0) 0)).e (d2 n) (view (bx e 0)).p) (l aa (view e).es.tail).1 [] (view e).p,
 ((o.1 U aa (bx (bx e 0) 0)).ok&&((o.1 U aa (bx (bx e 0) 0)).b&&((view (bx e 0)).p.endLine==(view e).p.line)))&&((l aa (view e).es.tail).2&&decide ((l aa (view e).es.tail).1.length<20)))
noncomputable def Au(rev:Bool)(o a:dG):dG:=i4 λ aa e=>(.Call (.Attribute (wq (view (bx (bx e 0) 0)).n (view (bx (bx e 0) 0)).p) "join" (view (bx e 0)).p) [rev.casesOn (a.1 U aa (bx e 1)).e (qF (bx e 1) [(a.1 U aa (bx (bx e 1) 1)).e])] [] (view e).p,
 (Mm (o.1 U aa default).c&&((view (bx e 0)).p.endLine==(view e).p.line))&&rev.casesOn (a.1 U aa (bx e 1)).ok (pn aa (view (bx (bx e 1) 0)).x (5,0)&&(a.1 U aa (bx (bx e 1) 1)).ok))
noncomputable def Gj(aa:dQ)(e:bh)(i:Nat):Bool:=LL aa (view (bx e 1)).x (view e).sc&&(aa.names.findIdx? (· ==(view (bx e 1)).x)==B i)
noncomputable def ur(i:Nat)(a:dG)(it:m1):dG:=l8 λ _ aa e=>⟨.ListComp (a.1 U { aa with scope:=(view e).sc } (bx e 0)).e [⟨.Name (view (bx e 1)).x (view (bx e 1)).p,(it aa (bx e 2)).1,[],0⟩] (view e).sc (view e).p,
 Gj aa e i&&((a.1 U { aa with scope:=(view e).sc } (bx e 0)).ok&&(it aa (bx e 2)).2),G,J,λ y eP=>F0 aa y eP (view e).p (view e).sc⟩
noncomputable def us(i:Nat)(c a:dG)(aa:dQ)(e:bh):bh×Bool:=(.ListComp (.Constant (.int 1) (view (bx e 0)).n (view (bx e 0)).p) [⟨.Name (view (bx e 1)).x (view (bx e 1)).p,(a.1 U aa (bx e 2)).e,[(c.1 G { aa with scope:=(view e).sc } (bx e 3)).e],0⟩] (view e).sc (view e).p,
 Gj aa e i&&((a.1 U aa (bx e 2)).ok&&(c.1 G { aa with scope:=(view e).sc } (bx e 3)).ok))
noncomputable def Av(i:Nat)(c a:dG):dG:=l8 λ m aa e=>m.casesOn (qD (.Compare (us i c a aa (bx e 0)).1 [.NotEq] [.List [] (view (bx e 1)).p] (view e).p) (us i c a aa (bx e 0)).2) (qD (us i c a aa e).1 (us i c a aa e).2)
noncomputable def Aw(a:dG):m1:= λ aa e=>((a.1 U aa e).e,(a.1 U aa e).ok)
noncomputable def Ax(a:dG):m1:= λ aa e=>(qF e [(a.1 U aa (bx e 1)).e],pn aa (view (bx e 0)).x (4,0)&&(a.1 U aa (bx e 1)).ok)
noncomputable def Ay(a b:dG):m1:= λ aa e=>(qF e [(a.1 U aa (bx e 1)).e,(b.1 U aa (bx e 2)).e],pn aa (view (bx e 0)).x (4,0)&&((a.1 U aa (bx e 1)).ok&&(b.1 U aa (bx e 2)).ok))
noncomputable def Az(a:dG):m1:= λ aa e=>(qF e [(a.1 U aa (bx e 1)).e],pn aa (view (bx e 0)).x (5,0)&&(a.1 U aa (bx e 1)).ok)
noncomputable def AA:dG:=l8 λ _ _ e=>⟨e,U,U,J,λ _ _=>U⟩
noncomputable def so:a7->dG:=a7.rec (motive_1:= λ _=>dG) (motive_2:= λ _=>kd) (motive_3:= λ _=>m1) AA z9 (λ v=>l8 λ _=>l9 v) (λ _ l=>Aa l) (λ _ l=>Ab l) (λ cU _ l=>Ac cU l) (λ op _ _ a b=>Ad op a b) (λ op _ _ a b=>Ae op a b) (λ neg _ _ a l=>Af neg a l) (λ _ _ a b=>Ag a b) (λ neg _ a=>Ah neg a)
 (λ _ _ a b=>qE .And a b) (λ _ _ a b=>qE .Or a b) (λ _ a=>Aj a) (λ _ a=>Ak a) (λ _ _ _ c a b=>Al c a b) (λ _ n a=>Am a n) (λ _ _ a b=>An a b) (λ _ _ _ a b c=>Ao a b c) (λ f _ l=>Ap f l) (λ _ n _ o l=>As o n l) (λ b _ a=>Aq b a) (λ _ _ a b=>Ar a b) (λ rev _ _ o a=>Au rev o a) (λ i _ _ a it=>ur i a it) (λ i _ _ c a=>Av i c a)
 z7 (λ _ _ a l=>z8 a l) (λ _ a=>Aw a) (λ _ a=>Ax a) (λ _ _ a b=>Ay a b) (λ _ a=>Az a)
noncomputable def wz:fF->m1:=fF.rec (motive_1:= λ _=>dG) (motive_2:= λ _=>kd) (motive_3:= λ _=>m1) AA z9 (λ v=>l8 λ _=>l9 v) (λ _ l=>Aa l) (λ _ l=>Ab l) (λ cU _ l=>Ac cU l) (λ op _ _ a b=>Ad op a b) (λ op _ _ a b=>Ae op a b) (λ neg _ _ a l=>Af neg a l) (λ _ _ a b=>Ag a b) (λ neg _ a=>Ah neg a)
 (λ _ _ a b=>qE .And a b) (λ _ _ a b=>qE .Or a b) (λ _ a=>Aj a) (λ _ a=>Ak a) (λ _ _ _ c a b=>Al c a b) (λ _ n a=>Am a n) (λ _ _ a b=>An a b) (λ _ _ _ a b c=>Ao a b c) (λ f _ l=>Ap f l) (λ _ n _ o l=>As o n l) (λ b _ a=>Aq b a) (λ _ _ a b=>Ar a b) (λ rev _ _ o a=>Au rev o a) (λ i _ _ a it=>ur i a it) (λ i _ _ c a=>Av i c a)
 z7 (λ _ _ a l=>z8 a l) (λ _ a=>Aw a) (λ _ a=>Ax a) (λ _ _ a b=>Ay a b) (λ _ a=>Az a)
structure Gk where
 t:bh
 e:bh
 a:List Stmt
 b:List Stmt
 p:Pos
noncomputable def i5:Gk:=⟨default,default,[],[],default⟩
noncomputable def dr(s:Stmt):Gk:=Stmt.casesOn (motive_2:= λ _=>Gk) s (λ _ _ _ _ _ _ _ _ _ _=>i5) (λ _ _ _ _ _ _ _ _ _ _=>i5) (λ _ _ _ _ _ _ _ _ _ _ _=>i5) (λ v p=>⟨default,v.getD default,[],[],p⟩) (λ _ _=>i5) (λ au v p=>⟨hT au,v,[],[],p⟩) (λ _ _ _ _ _ _ _=>i5) (λ t _ v p=>⟨t,v,[],[],p⟩) (λ _ _ _ _ _=>i5)
 (λ t e b _ p=>⟨t,e,b,[],p⟩) (λ _ _ _ _ _=>i5) (λ c b _ p=>⟨default,c,b,[],p⟩) (λ c a b p=>⟨default,c,a,b,p⟩) (λ _ _ _=>i5) (λ _ _ _=>i5) (λ _ _ _=>i5) (λ _ _ _=>i5) (λ _ _ _ _ _=>i5) (λ _ _ _ _ _=>i5) (λ _ _ _=>i5) (λ _ _=>i5) (λ _ _ _ _=>i5) (λ _ _=>i5) (λ _ _=>i5)
 (λ v p=>⟨default,v,[],[],p⟩) (λ p=>⟨default,default,[],[],p⟩) (λ p=>⟨default,default,[],[],p⟩) (λ p=>⟨default,default,[],[],p⟩)
noncomputable def ma(e:bh):Nat:=Expr.casesOn (motive_1:= λ _=>Nat) e (λ _ _ _=>0) (λ _ _ _=>0) (λ _ _ _ _=>0) (λ _ _ _=>0) (λ _ _ _ _=>0) (λ _ _ _ _=>0) (λ _ _ _=>0) (λ _ _ _=>0) (λ _ _ _ _=>2) (λ _ _ _ _=>2) (λ _ _ _ _ _=>2) (λ _ _ _ _=>0) (λ _ _=>0) (λ _ _=>0) (λ _ _=>0) (λ _ _ _ _=>0) (λ _ _ _ _=>0) (λ _ _ _ _=>0) (λ _ _=>0)
 (λ _ _ _=>0) (λ _ _ _=>0) (λ _ _ _=>0) (λ _ _=>0) (λ _ _=>0) (λ _ _=>0) (λ _ _ _=>1) (λ _ _ _ _=>0)
noncomputable def ut(e:bh):bh:= .Name (view e).x (view e).p
noncomputable def uu(aa:dQ)(e:bh)(i:Nat):Bool:=aa.store (view e).x==B i
noncomputable def sq(is:List Nat)(aa:dQ)(ab:List bh):List bh×Bool:=is.rec (motive:= λ _=>List bh->List bh×Bool) (λ _=>([],G)) (λ i _ aB ab=>(ut (hT ab)::(aB ab.tail).1,uu aa (hT ab) i&&(aB ab.tail).2)) ab
noncomputable abbrev g3(x:a7)(aa:dQ)(e:bh):R:=(so x).1 U aa e
noncomputable def uv(t:oO)(aa:dQ)(e:bh):bh×Bool:=t.casesOn (e,U) (λ i=>(ut e,uu aa e i)) (λ is=>(.Tuple (sq is aa (view e).es).1 (view e).n (view e).p,(sq is aa (view e).es).2))
 (λ o n=>(.Attribute (g3 o aa (bx e 0)).e (d2 n) (view e).p,(g3 o aa (bx e 0)).ok)) (λ o i=>(.Subscript (g3 o aa (bx e 0)).e (g3 i aa (bx e 1)).e (view e).p,(g3 o aa (bx e 0)).ok&&(g3 i aa (bx e 1)).ok))
noncomputable def acm(t:oO)(r:R)(aa:dQ)(e:bh):Bool:=t.casesOn U (λ _=>!(ma r.e==2)||r.s (view e).x (view e).p)
 (λ is=>(ma r.e==0)||((ma r.e==1&&(is.length==2))&&!((aa.scope.names.lookup (view (hT (view e).es)).x==B .local)&&(aa.scope.names.lookup (view (hT (view e).es.tail)).x==B .local)))) (λ _ _=>!(ma r.e==2)) (λ _ _=>!(ma r.e==2))
abbrev ke:=dQ->Stmt->Stmt×Bool
abbrev mb:=dQ->List Stmt->List Stmt×Bool
noncomputable def Mn(eZ:List Stmt):Stmt:=eZ.headD (.Pass default)
noncomputable def Gl(x:a7):ke:= λ aa s=>(.Expr (g3 x aa (dr s).e).e (dr s).p,(g3 x aa (dr s).e).ok&&(ma (g3 x aa (dr s).e).e==0))
noncomputable def AB(t:oO)(x:a7):ke:= λ aa s=>(.Assign [(uv t aa (dr s).t).1] (g3 x aa (dr s).e).e (dr s).p,((uv t aa (dr s).t).2&&(g3 x aa (dr s).e).ok)&&acm t (g3 x aa (dr s).e) aa (dr s).t)
noncomputable def Gm(i:Nat)(op:f4)(x:a7):ke:= λ aa s=>(.AugAssign (ut (dr s).t) (mK op) (g3 x aa (dr s).e).e (dr s).p,uu aa (dr s).t i&&(g3 x aa (dr s).e).ok)
noncomputable def Gn(o i:a7)(op:f4)(x:a7):ke:= λ aa s=>(.AugAssign (.Subscript (g3 o aa (bx (dr s).t 0)).e (g3 i aa (bx (dr s).t 1)).e (view (dr s).t).p) (mK op) (g3 x aa (dr s).e).e (dr s).p,(g3 o aa (bx (dr s).t 0)).ok&&((g3 i aa (bx (dr s).t 1)).ok&&(g3 x aa (dr s).e).ok))
noncomputable def Go(c:a7)(a b:mb):ke:= λ aa s=>(.If ((so c).1 G aa (dr s).e).e (a aa (dr s).a).1 (b aa (dr s).b).1 (dr s).p,((so c).1 G aa (dr s).e).ok&&((a aa (dr s).a).2&&(b aa (dr s).b).2))
noncomputable def Gp(c:a7)(b:mb):ke:= λ aa s=>(.While ((so c).1 G aa (dr s).e).e (b aa (dr s).a).1 [] (dr s).p,((so c).1 G aa (dr s).e).ok&&(b aa (dr s).a).2)
noncomputable def Gq(i:Nat)(it:fF)(b:mb):ke:= λ aa s=>(.For (ut (dr s).t) (wz it aa (dr s).e).1 (b aa (dr s).a).1 [] (dr s).p,uu aa (dr s).t i&&((wz it aa (dr s).e).2&&(b aa (dr s).a).2))
noncomputable def Gr(i aU:Nat)(x:a7)(b:mb):ke:= λ aa s=>(.For (.Tuple [ut (bx (dr s).t 0),ut (bx (dr s).t 1)] (view (dr s).t).n (view (dr s).t).p) (.Call (.Attribute (g3 x aa (bx (bx (dr s).e 0) 0)).e "items" (view (bx (dr s).e 0)).p) [] [] (view (dr s).e).p) (b aa (dr s).a).1 [] (dr s).p,
 (uu aa (bx (dr s).t 0) i&&uu aa (bx (dr s).t 1) aU)&&(((g3 x aa (bx (bx (dr s).e 0) 0)).ok&&((g3 x aa (bx (bx (dr s).e 0) 0)).b&&((view (bx (dr s).e 0)).p.endLine==(view (dr s).e).p.line)))&&(b aa (dr s).a).2))
noncomputable def Gs(x:a7):ke:= λ aa s=>(.Return (B (g3 x aa (dr s).e).e) (dr s).p,(g3 x aa (dr s).e).ok)
noncomputable def uw(f:Pos->Stmt):ke:= λ _ s=>(f (dr s).p,G)
noncomputable def Mo:ke:= λ _ s=>(s,G)
noncomputable def Mp:mb:= λ _ _=>([],G)
noncomputable def Mq(a:ke)(b:mb):mb:= λ aa eZ=>((a aa (Mn eZ)).1::(b aa eZ.tail).1,(a aa (Mn eZ)).2&&(b aa eZ.tail).2)
noncomputable def AC:ef->mb:=ef.rec (motive_1:= λ _=>ke) (motive_2:= λ _=>mb) Mo (λ x=>Gl x) (λ t x=>AB t x) (λ i op x=>Gm i op x) (λ o i op x=>Gn o i op x) (λ c _ _ a b=>Go c a b) (λ c _ b=>Gp c b) (λ i it _ b=>Gq i it b) (λ i aU x _ b=>Gr i aU x b) (λ x=>Gs x) (uw .Break) (uw .Continue) (uw .Pass)
 Mp (λ _ _ a b=>Mq a b)
structure AD(e:bh):Prop where
 arg:Arg e
 set:uf e
 marks: ∀op,behindInMarks op e=U
 e6:Ly e
def AE(e:bh):Prop:= ∀a env t,attributeBase e a env t=t
section
variable(d:kJ)
structure fq(bG:dG)(W:b6×ST):Prop where
 v: ∀aa env e,aa.cL=d.cL->(bG.1 U aa e).ok=G->AD (bG.1 U aa e).e/\cB ⟨d,aa,env⟩ (bG.1 U aa e).e W.1
 b: ∀aa e,(bG.1 U aa e).b=G->AE (bG.1 U aa e).e
 c: ∀aa e v,(bG.1 U aa e).c=B v->W.1=j0 v
 s: ∀aa env e y eP aU pm,aa.cL=d.cL->(bG.1 U aa e).ok=G->(bG.1 U aa e).s y eP=G->aa.store y=B aU->i2 ⟨d,aa,env⟩ (.Assign [.Name y eP] (bG.1 U aa e).e pm) (tQ (vP aU) W.1)
 t: ∀aa env e,aa.cL=d.cL->(bG.1 G aa e).ok=G->gb ⟨d,aa,env⟩ (bG.1 G aa e).e W.2
 acn: ∀op aa env ab,aa.cL=d.cL->(bG.2 op U aa ab).2=G->(∃a l,(bG.2 op U aa ab).1=a::l)/\mP ⟨d,aa,env⟩ op (bG.2 op U aa ab).1 W.1
 AF: ∀op aa env ab,aa.cL=d.cL->(bG.2 op G aa ab).2=G->nT ⟨d,aa,env⟩ op (bG.2 op G aa ab).1 W.2
def Gu(fp:List a2):List (Option bh)->Prop:=List.rec (motive:= λ _=>List (Option bh)->Prop) (λ cU=>cU=[]) (λ k _ aB cU=> ∃e r,cU=B e::r/\Gd k e/\aB r) fp
structure wA(bG:kd)(W:SL):Prop where
 v: ∀aa env ab,aa.cL=d.cL->(bG aa ab).2=G->jL env (bG aa ab).1/\jJ ⟨d,aa,env⟩ (bG aa ab).1 W
 p: ∀aa env ab fp cU,aa.cL=d.cL->(bG aa ab).2=G->Gu fp cU->fp.length=(bG aa ab).1.length->wu ⟨d,aa,env⟩ fp cU (bG aa ab).1 W
 z: ∀aa ab,(bG aa ab).1=[]->W=tO
structure qG(bG:m1)(W:oV):Prop where
 v: ∀aa env e,aa.cL=d.cL->(bG aa e).2=G->uf (bG aa e).1/\qv ⟨d,aa,env⟩ (bG aa e).1 W
end
section
variable{d:kJ}{p:dc}{e:bh}{T:b6}{W:b6×ST}{g:dQ->bh->bh×Bool}
theorem jN(aF:isTrue e p.env (eval e p.env)=(do let v<-eval e p.env;standAt e.pos;holding [v] (truthy v)))(h:cB p e T):cB p e T/\gb p e (qk T):=⟨h,Fg aF h⟩
theorem qH{f:Bool->dQ->bh->R}(v: ∀aa env e,aa.cL=d.cL->(f U aa e).ok=G->AD (f U aa e).e/\cB ⟨d,aa,env⟩ (f U aa e).e W.1)(b: ∀aa e,(f U aa e).b=G->AE (f U aa e).e)(c: ∀aa e v,(f U aa e).c=B v->W.1=j0 v)
  (s: ∀aa env e y eP aU pm,aa.cL=d.cL->(f U aa e).ok=G->(f U aa e).s y eP=G->aa.store y=B aU->i2 ⟨d,aa,env⟩ (.Assign [.Name y eP] (f U aa e).e pm) (tQ (vP aU) W.1)) (t: ∀aa env e,aa.cL=d.cL->(f G aa e).ok=G->gb ⟨d,aa,env⟩ (f G aa e).e W.2):fq d (l8 f) W:=
 ⟨v,b,c,s,t,λ op aa env ab aM ok=>⟨⟨_,_,rfl⟩,K0 (v aa env _ aM ok).2⟩,λ op aa env ab aM ok=>K1 (t aa env _ aM ok)⟩
theorem jw(h: ∀aa env e,aa.cL=d.cL->(g aa e).2=G->AD (g aa e).1/\cB ⟨d,aa,env⟩ (g aa e).1 T/\gb ⟨d,aa,env⟩ (g aa e).1 (qk T))(b: ∀aa e,AE (g aa e).1):fq d (i4 g) (eA T):=
 qH (λ aa env e aM ok=>⟨(h aa env e aM ok).1,(h aa env e aM ok).2.1⟩) (λ aa e _=>b aa e) (λ _ _ _ h=>hl h) (λ _ _ _ _ _ _ _ _ _ h=>d3 h) λ aa env e aM ok=>(h aa env e aM ok).2.2
theorem Mr(b:dy): [dy.len, .abs, .int, .str, .chr, .ord, .tuple].getD b.num .len=b:=by cases b<;>rfl
noncomputable def bI.of(t:Nat×Nat):Option bI:=[B (.fn t.2),J,B (.cq ([dy.len, .abs, .int, .str, .chr, .ord, .tuple].getD t.2 .len)),B .divmod,B .range,B .reversed].getD t.1 J
theorem aco(g:bI):bI.of g.tag=J\/bI.of g.tag=B g:=by
 cases g with
 |ea v=>exact .inl rfl
 |cq b=>exact .inr (congrArg (λ b=>B (bI.cq b)) (Mr b))
 |_=>exact .inr rfl
theorem qI{aa:dQ}{x:Str}{g:bI}(h:pn aa x g.tag=G)(aM:bI.of g.tag=B g):aa.glob x=B g:=by
 unfold pn at h
 cases q:aa.glob x with
 |none=>rw[q]at h;exact d3 h
 |some ht=>
  rw[q]at h
  have e:ht.tag=g.tag:=beq_iff_eq.mp h
  rcases aco ht with k|k<;>rw[e,aM]at k
  .exact hl k.symm
  .exact k.symm
theorem acp(v:V): ∀u,Gf v u=G->v=u:=
 V.rec (motive_1:= λ v=> ∀u,Gf v u=G->v=u) (motive_2:= λ X=> ∀bj,V.rec_1 (motive_1:= λ _=>V->Bool) (motive_2:= λ _=>List V->Bool) (λ _=>U) (λ _ _=>U) (λ i b=>match b with| .int aU=>i==aU|_=>U) (λ s b=>match b with| .str t=>s==t|_=>U)
  (λ _ aB b=>match b with| .tup bj=>aB bj|_=>U) (λ _ _=>U) (λ _ _ _=>U) (λ bj=>bj.isEmpty) (λ _ _ gz fU bj=>match bj with| []=>U|u::bj=>gz u&&fU bj) X bj=G->X=bj)
  (λ _ h=>d3 h) (λ _ _ h=>d3 h) (λ i u h=>by cases u with|int aU=>exact congrArg V.int (beq_iff_eq.mp h)|_=>exact d3 h) (λ s u h=>by cases u with|str t=>exact congrArg V.str (beq_iff_eq.mp h)|_=>exact d3 h)
  (λ X aB u h=>by cases u with|tup bj=>exact congrArg V.tup (aB bj h)|_=>exact d3 h) (λ _ _ h=>d3 h) (λ _ _ _ h=>d3 h)
  (λ bj h=>by cases bj with|nil=>rfl|cons _ _=>exact d3 h) (λ v X gz fU bj h=>by cases bj with|nil=>exact d3 h|cons u bj=>exact(by rw[gz u (aV h).1,fU bj (aV h).2])) v
theorem acq{aa:dQ}{x:Str}{v:V}(h:Gg aa x v=G):aa.glob x=B (.ea v):=by
 unfold Gg at h
 cases q:aa.glob x with
 |none=>rw[q]at h;exact d3 h
 |some g=>
  rw[q]at h
  cases g with
  |ea u=>rw[acp v u h]
  |_=>exact d3 h
theorem acr{o:Option V}(h:Ml o=G):o=B .none:=by
 cases o with
 |none=>exact d3 h
 |some v=>cases v with
  |none=>rfl
  |_=>exact d3 h
theorem acs{o:Option V}(h:Mm o=G):o=B (.str []):=by
 cases o with
 |none=>exact d3 h
 |some v=>cases v with
  |str l=>cases l with
   |nil=>rfl
   |cons _ _=>exact d3 h
  |_=>exact d3 h
end
section
variable{d:kJ}{A C pd:dG}{gZ:kd}{a b c:b6×ST}{l:SL}(ae:d.Ok)(dk:fq d A a)(fZ:fq d C b)(fW:fq d pd c)(hr:wA d gZ l)
theorem act(i:Nat):fq d (z9 i) (eA (DF i)):=jw (λ aa env e aM ok=>⟨⟨λ _ _=>rfl,λ _ _=>rfl,λ _=>rfl,λ _ _ _=>rfl⟩,jN rfl (Za ((r1 _).mp (aV ok).1) (beq_iff_eq.mp (aV ok).2))⟩) λ _ _ _ _ _=>rfl
include ae in
theorem Gv(v:V)(aa:dQ)(env:Env)(e:bh)(aM:aa.cL=d.cL)(ok:(l9 v aa e).ok=G):AD (l9 v aa e).e/\cB ⟨d,aa,env⟩ (l9 v aa e).e (j0 v)/\gb ⟨d,aa,env⟩ (l9 v aa e).e (qk (j0 v)):=by
 unfold l9 at ok ⊢
 generalize(view e).g=g at ok ⊢
 cases g with
 |true=>exact⟨⟨λ _ _=>rfl,λ _ _=>rfl,λ _=>rfl,λ _ _ _=>rfl⟩,jN rfl (Zb ae aM (acq ok))⟩
 |false=>
  refine⟨⟨λ _ _=>rfl,λ _ _=>rfl,λ _=>rfl,λ _ _ _=>rfl⟩,jN rfl ?_⟩
  cases v with
  |none=>exact Zc
  |bool _=>exact Zd
  |int _=>exact Ze
  |str _=>exact Zf ok
  |_=>exact d3 ok
include ae in
theorem acu(v:V):fq d (l8 λ _=>l9 v) (eA (j0 v)):=by
 refine qH (λ aa env e aM ok=>⟨(Gv ae v aa env e aM ok).1,(Gv ae v aa env e aM ok).2.1⟩) (λ aa e _=>?_) (λ aa e u h=>?_) (λ aa env e y eP aU pm aM ok h=>?_) λ aa env e aM ok=>(Gv ae v aa env e aM ok).2.2
 .unfold l9
  cases (view e).g<;>exact λ _ _ _=>rfl
 .unfold l9 at h
  revert h
  cases (view e).g<;>exact λ h=>congrArg j0 (dg h)
 .unfold l9 at h
  revert h
  cases (view e).g<;>exact λ h=>d3 h
include hr in
theorem acv:fq d (Aa gZ) (eA (DG l)):=jw (λ aa env e aM ok=>⟨⟨λ _ _=>rfl,λ _ _=>rfl,λ _=>rfl,λ _ _ _=>rfl⟩,jN rfl (Zg (of_decide_eq_true (aV ok).2) (hr.v aa env _ aM (aV ok).1).2)⟩) λ _ _ _ _ _=>rfl
include hr in
theorem acw:fq d (Ab gZ) (eA (DH l)):=jw (λ aa env e aM ok=>⟨⟨λ _ _=>rfl,λ _ _=>rfl,λ _=>rfl,λ _ _ _=>rfl⟩,jN rfl (Zh (of_decide_eq_true (aV ok).2) (hr.v aa env _ aM (aV ok).1).2)⟩) λ _ _ _ _ _=>rfl
theorem acx(k:a2)(h:bh)(ok:(wy k h).2=G): ∃e,(wy k h).1=B e/\Gd k e:=by
 cases k with
 |s x=>exact⟨_,rfl, .inl ⟨x,_,_,rfl,rfl⟩⟩
 |i n=>exact⟨_,rfl, .inr ⟨n,_,_,rfl,rfl⟩⟩
 |p _ _=>exact d3 ok
theorem acy(cU:List a2): ∀ab,(n4 cU ab).2=G->Gu cU (n4 cU ab).1/\(n4 cU ab).1.all (·.isSome)=G/\(n4 cU ab).1.length=cU.length:=
 List.rec (motive:= λ cU=> ∀ab,(n4 cU ab).2=G->Gu cU (n4 cU ab).1/\(n4 cU ab).1.all (·.isSome)=G/\(n4 cU ab).1.length=cU.length) (λ _ _=>⟨rfl,rfl,rfl⟩)
  (λ k cU aB ab ok=>by
   obtain⟨Y,Z⟩:=aV ok
   obtain⟨e,aF,ak⟩:=acx _ _ Y
   have i:=aB _ Z
   exact⟨⟨e,_,congrArg (· ::_) aF,ak,i.1⟩,by show((wy k _).1.isSome&&_)=G;rw[aF];exact i.2.1,congrArg oY i.2.2⟩) cU
include hr in
theorem acz(cU:List a2):fq d (Ac cU gZ) (eA (y0 cU l)):=jw (λ aa env e aM ok=>by
 obtain⟨h,aE⟩:=aV ok
 obtain⟨Y,Z⟩:=aV h
 have ah:=of_decide_eq_true (aV aE).1
 have k:=acy cU _ Y
 refine⟨⟨λ _ _=>rfl,λ _ _=>rfl,λ _=>rfl,λ _ _ _=>rfl⟩,jN rfl ?_⟩
 cases cU with
 |nil=>
  have z:=J1 ah.symm
  show cB _ (.Dict [] (gZ aa (view e).es).1 _) _
  rw[hr.z _ _ z,z]
  exact acf
 |cons j5 cU=>exact acg (λ q=>nomatch k.2.2.symm.trans (congrArg n5 q)) k.2.1 (k.2.2.trans ah) (k.2.2.symm▸of_decide_eq_true (aV aE).2) (hr.p aa env _ _ _ aM Z k.1 ah)) λ _ _ _ _ _=>rfl
include dk fZ in
theorem acA(op:f4):fq d (Ad op A C) (eA (DI op a.1 b.1)):=jw (λ aa env e aM ok=>⟨⟨λ _ _=>rfl,λ _ _=>rfl,λ _=>rfl,λ _ _ _=>rfl⟩,jN rfl (YT (dk.v aa env _ aM (aV ok).1).2 (fZ.v aa env _ aM (aV ok).2).2)⟩) λ _ _ _ _ _=>rfl
theorem AG{p:dc}{x r:bh}{op:CmpOp}{q:Pos}{T:b6}(h:behindInMarks op r=U)(ap:qu p x op r T):cB p (.Compare x [op] [r] q) T/\gb p (.Compare x [op] [r] q) (qk T):=⟨K8 h ap,Zm h ap⟩
include ae dk fZ in
theorem acB(op:k0):fq d (Ae op A C) (eA (DJ op a.1 b.1)):=jw (λ aa env e aM ok=>⟨⟨λ _ _=>rfl,λ _ _=>rfl,λ _=>rfl,λ _ _ _=>rfl⟩,AG ((fZ.v aa env _ aM (aV ok).2).1.marks _) (Zn ae op (dk.v aa env _ aM (aV ok).1).2 (fZ.v aa env _ aM (aV ok).2).2)⟩) λ _ _ _ _ _=>rfl
include ae dk hr in
theorem acC(neg:Bool):fq d (Af neg A gZ) (eA (DK neg a.1 l)):=jw (λ aa env e aM ok=>have k:=aV (aV ok).2;⟨⟨λ _ _=>rfl,λ _ _=>rfl,λ _=>rfl,λ _ _ _=>rfl⟩,AG rfl (Zo ae neg (of_decide_eq_true k.2) (dk.v aa env _ aM (aV ok).1).2 (hr.v aa env _ aM k.1).2)⟩) λ _ _ _ _ _=>rfl
include ae dk fZ in
theorem acD:fq d (Ag A C) (eA (DL a.1 b.1)):=jw (λ aa env e aM ok=>have k:=aV (aV ok).1;have m:=aV (aV ok).2;⟨⟨λ _ _=>rfl,λ _ _=>rfl,λ _=>rfl,λ _ _ _=>rfl⟩,AG rfl (ab9 ae (fZ.b _ _ m.1 _ _) m.2 (dk.v aa env _ aM k.1).2 (fZ.v aa env _ aM k.2).2)⟩) λ _ _ _ _ _=>rfl
include ae dk in
theorem acE(neg:Bool):fq d (Ah neg A) (eA (DM neg a.1)):=jw (λ aa env e aM ok=>⟨⟨λ _ _=>rfl,λ _ _=>rfl,λ _=>rfl,λ _ _ _=>rfl⟩,AG rfl (by
 have h:=(aV ok).2
 cases neg with
 |true=>exact d3 h
 |false=>exact Zp ae (dk.v aa env _ aM (aV ok).1).2)⟩) λ _ _ _ _ _=>rfl
include dk in
theorem acF:fq d (Aj A) (DN a.1,DX a.2):=qH (λ aa env e aM ok=>⟨⟨λ _ _=>rfl,λ _ _=>rfl,λ _=>rfl,λ _ _ _=>rfl⟩,YY (dk.v aa env _ aM ok).2⟩) (λ _ _ _ _ _ _=>rfl) (λ _ _ _ h=>hl h) (λ _ _ _ _ _ _ _ _ _ h=>d3 h) λ aa env e aM ok=>Y1 (dk.t aa env _ aM ok)
include dk in
theorem acG:fq d (Ak A) (eA (DO a.1)):=jw (λ aa env e aM ok=>⟨⟨λ _ _=>rfl,λ _ _=>rfl,λ _=>rfl,λ _ _ _=>rfl⟩,jN rfl (YU (dk.v aa env _ aM ok).2)⟩) λ _ _ _ _ _=>rfl
theorem acH{p:dc}{x y z:bh}{q:Pos}{eo bq I:ST}(ap:gb p x eo)(aI:gb p y bq)(az:gb p z I):gb p (.IfExp x y z q) (DY eo bq I):= λ s j E Q a t=>
 show p.wp (do if<-isTrue x p.env (eval x p.env)then isTrue y p.env (eval y p.env)else isTrue z p.env (eval z p.env)) _ s from
 cE (ap.then a t λ b aP bt bs bz bB=>by
  cases b
  .exact mono (az _ _ _ _ bz bs) λ _ _ q=>q.pre bB
  .exact mono (aI _ _ _ _ bz bs) λ _ _ q=>q.pre bB)
include fW dk fZ in
theorem acI:fq d (Al pd A C) (DP c.2 a.1 b.1,DY c.2 a.2 b.2):=qH (λ aa env e aM ok=>have k:=aV (aV ok).2;⟨⟨λ _ _=>rfl,λ _ _=>rfl,λ _=>rfl,λ _ _ _=>rfl⟩,YZ (fW.t aa env _ aM (aV ok).1) (dk.v aa env _ aM k.1).2 (fZ.v aa env _ aM k.2).2⟩) (λ _ _ _ _ _ _=>rfl) (λ _ _ _ h=>hl h) (λ _ _ _ _ _ _ _ _ _ h=>d3 h)
 λ aa env e aM ok=>have k:=aV (aV ok).2;acH (fW.t aa env _ aM (aV ok).1) (dk.t aa env _ aM k.1) (fZ.t aa env _ aM k.2)
include ae dk in
theorem acJ(n:Nat):fq d (Am A n) (eA (DQ d.P n a.1)):=jw (λ aa env e aM ok=>⟨⟨λ _ _=>rfl,λ _ _=>rfl,λ _=>rfl,λ _ _ _=>rfl⟩,jN rfl (Zj ae (dk.b _ _ (aV ok).2 _ _) rfl (dk.v aa env _ aM (aV ok).1).2)⟩) λ _ _ _ _ _=>rfl
include ae dk fZ in
theorem acK:fq d (An A C) (eA (DR a.1 b.1)):=jw (λ aa env e aM ok=>⟨⟨λ _ _=>rfl,λ _ _=>rfl,λ _=>rfl,λ _ _ _=>rfl⟩,jN rfl (Zi ae (dk.v aa env _ aM (aV ok).1).2 (fZ.v aa env _ aM (aV ok).2).2)⟩) λ _ _ _ _ _=>rfl
include dk in
theorem Ms(aa:dQ)(env:Env)(o:Option bh)(aM:aa.cL=d.cL)(ok:(uq (A.1 U aa) o).2=G):r5 ⟨d,aa,env⟩ (uq (A.1 U aa) o).1 a.1:=by
 cases o with
 |none=>rw[dk.c _ _ _ (acr ok)];exact ZN
 |some h=>exact ZP (dk.v aa env h aM ok).2
include dk fZ fW in
theorem acL:fq d (Ao A C pd) (eA (DS a.1 b.1 c.1)):=jw (λ aa env e aM ok=>have k:=aV (aV ok).2;⟨⟨λ _ _=>rfl,λ _ _=>rfl,λ _=>rfl,λ _ _ _=>rfl⟩,jN rfl (ZT (dk.v aa env _ aM (aV ok).1).2 (Ms fZ aa env _ aM k.1) (Ms fW aa env _ aM k.2))⟩) λ _ _ _ _ _=>rfl
include ae hr in
theorem acM(f:Nat):fq d (Ap f gZ) (eA (DT d.P f l)):=
 qH (λ aa env e aM ok=>have k:=hr.v aa env _ aM (aV ok).2;⟨⟨λ _ _=>rfl,λ _ _=>rfl,λ _=>rfl,λ _ _ _=>rfl⟩,K7 ae aM (qI (g:= .fn f) (aV ok).1 rfl) k.1 k.2⟩) (λ aa e h=>by
  show AE (qF e (gZ aa (view e).es.tail).1)
  have h:(!(gZ aa (view e).es.tail).1.isEmpty)=G:=h
  generalize(gZ aa (view e).es.tail).1=es at h ⊢
  cases es with
  |nil=>exact d3 h
  |cons _ _=>exact λ _ _ _=>rfl) (λ _ _ _ h=>hl h) (λ _ _ _ _ _ _ _ _ _ h=>d3 h)
  λ aa env e aM ok=>have k:=hr.v aa env _ aM (aV ok).2;Fg rfl (K7 ae aM (qI (g:= .fn f) (aV ok).1 rfl) k.1 k.2)
include ae dk in
theorem acN(q:dy):fq d (Aq q A) (eA (DV q a.1)):=jw (λ aa env e aM ok=>have k:=dk.v aa env _ aM (aV ok).2;⟨⟨λ _ _=>rfl,λ _ _=>rfl,λ _=>rfl,λ _ _ _=>rfl⟩,jN rfl (Zk ae aM (qI (g:= .cq q) (aV ok).1 (congrArg (λ b=>B (bI.cq b)) (Mr q))) k.1.arg k.2)⟩) λ _ _ _ _ _=>rfl
include ae dk fZ in
theorem acO:fq d (Ar A C) (eA (DW a.1 b.1)):=jw (λ aa env e aM ok=>have k:=dk.v aa env _ aM (aV (aV ok).2).1;have m:=fZ.v aa env _ aM (aV (aV ok).2).2;⟨⟨λ _ _=>rfl,λ _ _=>rfl,λ _=>rfl,λ _ _ _=>rfl⟩,jN rfl (Zl ae aM (qI (g:= .divmod) (aV ok).1 rfl) k.1.arg m.1.arg k.2 m.2)⟩) λ _ _ _ _ _=>rfl
include ae dk hr in
theorem acP(n:Nat):fq d (As A n gZ) (eA (DU d.P n a.1 l)):=jw (λ aa env e aM ok=>have k:=aV (aV ok).1;have m:=aV k.2;have q:=aV (aV ok).2;have w:=hr.v aa env _ aM q.1;
 ⟨⟨λ _ _=>rfl,λ _ _=>rfl,λ _=>rfl,λ _ _ _=>rfl⟩,jN rfl (ZM ae (dk.b _ _ m.1 _ _) m.2 (of_decide_eq_true q.2) w.1 rfl (dk.v aa env _ aM k.1).2 w.2)⟩) λ _ _ _ _ _=>rfl
set_option maxRecDepth 4000 in
include ae dk fZ in
theorem acQ(rev:Bool):fq d (Au rev A C) (eA (y1 rev a.1 b.1)):=jw (λ aa env e aM ok=>by
 have k:=aV (aV ok).1
 have h:=(aV ok).2
 rw[dk.c _ _ _ (acs k.1)]
 cases rev with
 |false=>exact⟨⟨λ _ _=>rfl,λ _ _=>rfl,λ _=>rfl,λ _ _ _=>rfl⟩,jN rfl (abU k.2 (fZ.v aa env _ aM h).1.arg (fZ.v aa env _ aM h).2)⟩
 |true=>exact have m:=fZ.v aa env _ aM (aV h).2;⟨⟨λ _ _=>rfl,λ _ _=>rfl,λ _=>rfl,λ _ _ _=>rfl⟩,jN rfl (abX ae aM k.2 (qI (g:= .reversed) (aV h).1 rfl) m.1.arg m.2)⟩) λ _ _ _ _ _=>rfl
end
theorem acR{a b:BoolOp}(h:Gi a b=G):a=b:=by cases a<;>cases b<;>first|rfl|exact d3 h
section
variable{d:kJ}{A C pd:dG}{gZ:kd}{bG:m1}{a b c W:b6×ST}{l:SL}{Gw:oV}(ae:d.Ok)(dk:fq d A a)(fZ:fq d C b)(fW:fq d pd c)(hr:wA d gZ l)(Gx:qG d bG Gw)
include dk fZ in
theorem Mt{op:BoolOp}(cn: ∀p x y r,cB p x a.1->mP p op (y::r) b.1->mP p op (x::y::r) W.1)(jO: ∀p x r,gb p x a.2->nT p op r b.2->nT p op (x::r) W.2):fq d (qE op A C) W:=by
 have V: ∀aa env ab,aa.cL=d.cL->(sn op A C U aa ab).2=G->mP ⟨d,aa,env⟩ op (sn op A C U aa ab).1 W.1:= λ aa env ab aM ok=>by
  obtain⟨⟨y,r,e⟩,az⟩:=fZ.acn op aa env ab.tail aM (aV ok).2
  show mP _ op (_::(C.2 op U aa ab.tail).1) _
  rw[e]at az ⊢
  exact cn _ _ _ _ (dk.v aa env _ aM (aV ok).1).2 az
 have T: ∀aa env ab,aa.cL=d.cL->(sn op A C G aa ab).2=G->nT ⟨d,aa,env⟩ op (sn op A C G aa ab).1 W.2:= λ aa env ab aM ok=>jO _ _ _ (dk.t aa env _ aM (aV ok).1) (fZ.AF op aa env _ aM (aV ok).2)
 refine⟨λ aa env e aM ok=>⟨⟨λ _ _=>rfl,λ _ _=>rfl,λ _=>rfl,λ _ _ _=>rfl⟩,K2 (V aa env _ aM ok)⟩,λ _ _ _ _ _ _=>rfl,λ _ _ _ h=>hl h,λ _ _ _ _ _ _ _ _ _ h=>d3 h,λ aa env e aM ok=>K3 (T aa env _ aM ok),λ Ai aa env ab aM ok=>?_,λ Ai aa env ab aM ok=>?_⟩<;>
 .unfold qE at ok ⊢
  dsimp only at ok ⊢
  generalize q:(Gi op Ai&&!ab.tail.isEmpty)=z at ok ⊢
  cases z with
  |false=>first|exact⟨⟨_,_,rfl⟩,K0 (K2 (V aa env _ aM ok))⟩|exact K1 (K3 (T aa env _ aM ok))
  |true=>
   have e:=acR (aV q).1
   subst e
   first|exact⟨⟨_,_,rfl⟩,V aa env _ aM ok⟩|exact T aa env _ aM ok
theorem Gy{aa:dQ}{e:bh}{i:Nat}(h:Gj aa e i=G):lj aa (view (bx e 1)).x (view e).sc/\aa.names.findIdx? (· ==(view (bx e 1)).x)=B i:=⟨abd (aV h).1,beq_iff_eq.mp (aV h).2⟩
include dk Gx in
theorem acS(i:Nat):fq d (ur i A bG) (eA (vN i a.1 Gw)):=by
 have V: ∀aa env e,aa.cL=d.cL->((ur i A bG).1 U aa e).ok=G->cB ⟨d,aa,env⟩ ((ur i A bG).1 U aa e).e (vN i a.1 Gw):= λ aa env e aM ok=>
  have k:=aV (aV ok).2
  have m:=Gy (aV ok).1
  have n:=Gx.v aa env _ aM k.2
  abt m.1 n.1 m.2 n.2 λ cl ae=>(dk.v { aa with scope:=(view e).sc } _ _ aM k.1).2
 exact qH (λ aa env e aM ok=>⟨⟨λ _ _=>rfl,λ _ _=>rfl,λ _=>rfl,λ _ _ _=>rfl⟩,V aa env e aM ok⟩) (λ _ _ _ _ _ _=>rfl) (λ _ _ _ h=>hl h) (λ aa env e y eP aU pm aM ok h fb=>
  have k:=aV (aV ok).2
  have m:=Gy (aV ok).1
  have n:=Gx.v aa env _ aM k.2
  abD h fb m.1 n.1 m.2 n.2 λ cl ae=>(dk.v { aa with scope:=(view e).sc } _ _ aM k.1).2) λ aa env e aM ok=>Fg rfl (V aa env e aM ok)
include ae dk fW in
theorem acT(i:Nat):fq d (Av i pd A) (eA (y2 i c.2 a.1)):=by
 have V: ∀aa env e,aa.cL=d.cL->(us i pd A aa e).2=G->zZ ⟨d,aa,env⟩ (us i pd A aa e).1 (y2 i c.2 a.1):= λ aa env e aM ok=>
  have k:=aV (aV ok).2
  have m:=Gy (aV ok).1
  have n:=dk.v aa env _ aM k.1
  abw ae m.1 n.1.set m.2 n.2 λ cl ae=>fW.t { aa with scope:=(view e).sc } _ _ aM k.2
 exact qH (λ aa env e aM ok=>⟨⟨λ _ _=>rfl,λ _ _=>rfl,λ _=>rfl,λ _ _ _=>rfl⟩,K8 rfl (abA ae (V aa env _ aM ok))⟩) (λ _ _ _ _ _ _=>rfl) (λ _ _ _ h=>hl h) (λ _ _ _ _ _ _ _ _ _ h=>d3 h)
  λ aa env e aM ok=>aby rfl (V aa env _ aM ok)
theorem acU:fq d AA (eA JF):=qH (λ _ _ _ _ h=>d3 h) (λ _ _ h=>d3 h) (λ _ _ _ h=>hl h) (λ _ _ _ _ _ _ _ _ h=>d3 h) λ _ _ _ _ h=>d3 h
theorem acV:wA d z7 tO:=⟨λ _ _ _ _ _=>⟨mQ,Y2⟩,λ aa env ab fp cU aM ok ak ah=>by
 have e:=J1 ah
 subst e
 rw[show cU=[]from ak]
 exact acb,λ _ _ _=>rfl⟩
include dk hr in
theorem acW:wA d (z8 A gZ) (y3 a.1 l):=⟨λ aa env ab aM ok=>
  have k:=dk.v aa env _ aM (aV ok).1
  have m:=hr.v aa env _ aM (aV ok).2
  ⟨mR k.1.arg m.1,Y3 (k.1.arg _ _) k.2 m.2⟩,
 λ aa env ab fp cU aM ok ak ah=>by
  cases fp with
  |nil=>exact kb ah
  |cons k fp=>
   obtain⟨e,r,rfl,Y,Z⟩:=ak
   exact acc Y (dk.v aa env _ aM (aV ok).1).2 (hr.p aa env _ _ _ aM (aV ok).2 Z (pe ah)),λ _ _ h=>nomatch h⟩
include ae dk in
theorem Mu:qG d (Aw A) (DZ a.1):=⟨λ aa env e aM ok=>⟨(dk.v aa env e aM ok).1.set,Z4 ae (dk.v aa env e aM ok).2⟩⟩
include ae dk in
theorem Mv:qG d (Ax A) (D0 a.1):=⟨λ aa env e aM ok=>have k:=dk.v aa env _ aM (aV ok).2;⟨λ _ _=>rfl,Z7 ae aM (qI (g:= .range) (aV ok).1 rfl) k.1.arg k.2⟩⟩
include ae dk fZ in
theorem Mw:qG d (Ay A C) (D1 a.1 b.1):=⟨λ aa env e aM ok=>have k:=dk.v aa env _ aM (aV (aV ok).2).1;have m:=fZ.v aa env _ aM (aV (aV ok).2).2;⟨λ _ _=>rfl,Z9 ae aM (qI (g:= .range) (aV ok).1 rfl) k.1.arg m.1.arg k.2 m.2⟩⟩
include ae dk in
theorem Mx:qG d (Az A) (D2 a.1):=⟨λ aa env e aM ok=>have k:=dk.v aa env _ aM (aV ok).2;⟨λ _ _=>rfl,aab ae aM (qI (g:= .reversed) (aV ok).1 rfl) k.1.arg k.2⟩⟩
end
section
variable{d:kJ}(ae:d.Ok)
include ae
theorem ih(x:a7):fq d (so x) (eb d.P x):=
 a7.rec (motive_1:= λ x=>fq d (so x) (eb d.P x)) (motive_2:= λ xs=>wA d (lN.rec (motive_1:= λ _=>dG) (motive_2:= λ _=>kd) (motive_3:= λ _=>m1) AA z9 (λ v=>l8 λ _=>l9 v) (λ _ l=>Aa l) (λ _ l=>Ab l) (λ cU _ l=>Ac cU l) (λ op _ _ a b=>Ad op a b) (λ op _ _ a b=>Ae op a b) (λ neg _ _ a l=>Af neg a l) (λ _ _ a b=>Ag a b) (λ neg _ a=>Ah neg a)
 (λ _ _ a b=>qE .And a b) (λ _ _ a b=>qE .Or a b) (λ _ a=>Aj a) (λ _ a=>Ak a) (λ _ _ _ c a b=>Al c a b) (λ _ n a=>Am a n) (λ _ _ a b=>An a b) (λ _ _ _ a b c=>Ao a b c) (λ f _ l=>Ap f l) (λ _ n _ o l=>As o n l) (λ b _ a=>Aq b a) (λ _ _ a b=>Ar a b) (λ rev _ _ o a=>Au rev o a) (λ i _ _ a it=>ur i a it) (λ i _ _ c a=>Av i c a)
 z7 (λ _ _ a l=>z8 a l) (λ _ a=>Aw a) (λ _ a=>Ax a) (λ _ _ a b=>Ay a b) (λ _ a=>Az a) xs) (iX d.P xs)) (motive_3:= λ it=>qG d (wz it) (lV d.P it))
  acU act (λ v=>acu ae v) (λ _ l=>acv l) (λ _ l=>acw l) (λ cU _ l=>acz l cU) (λ op _ _ a b=>acA a b op) (λ op _ _ a b=>acB ae a b op) (λ neg _ _ a l=>acC ae a l neg) (λ _ _ a b=>acD ae a b) (λ neg _ a=>acE ae a neg)
  (λ _ _ a b=>Mt a b (λ _ _ _ _=>Y4) λ _ _ _=>Y8) (λ _ _ a b=>Mt a b (λ _ _ _ _=>Y5) λ _ _ _=>Y9) (λ _ a=>acF a) (λ _ a=>acG a) (λ _ _ _ c a b=>acI a b c) (λ _ n a=>acJ ae a n) (λ _ _ a b=>acK ae a b) (λ _ _ _ a b c=>acL a b c) (λ f _ l=>acM ae l f) (λ _ n _ o l=>acP ae o l n) (λ b _ a=>acN ae a b) (λ _ _ a b=>acO ae a b) (λ rev _ _ o a=>acQ ae o a rev)
  (λ i _ _ a it=>acS a it i) (λ i _ _ c a=>acT ae a c i) acV (λ _ _ a l=>acW a l) (λ _ a=>Mu ae a) (λ _ a=>Mv ae a) (λ _ _ a b=>Mw ae a b) (λ _ a=>Mx ae a) x
theorem acX(it:fF):qG d (wz it) (lV d.P it):=fF.casesOn (motive_3:= λ it=>qG d (wz it) (lV d.P it)) it (λ x=>Mu ae (ih ae x)) (λ x=>Mv ae (ih ae x)) (λ a b=>Mw ae (ih ae a) (ih ae b)) (λ x=>Mx ae (ih ae x))
end
theorem Gz(e:bh):(ma e≠2-> ∀o l env,swapsWith e o l env=pure U)/\(ma e=0-> ∀es k q env,swappedStores [.Tuple es k q] e env=pure J)/\(ma e=1-> ∃X k q,e= .Tuple X k q):=by
 cases e with
 |Tuple X k q=>exact⟨λ _ _ _ _=>rfl,λ h=>kb h,λ _=>⟨_,_,_,rfl⟩⟩
 |ListComp=>exact⟨λ h=>absurd rfl h,λ h=>kb h,λ h=>kb (pe h)⟩
 |SetComp=>exact⟨λ h=>absurd rfl h,λ h=>kb h,λ h=>kb (pe h)⟩
 |DictComp=>exact⟨λ h=>absurd rfl h,λ h=>kb h,λ h=>kb (pe h)⟩
 |_=>exact⟨λ _ _ _ _=>rfl,λ _ _ _ _ _=>rfl,λ h=>kb h⟩
theorem acY{f:bh->Option Str}{x y:bh}(h:f x=J\/f y=J):(([x,y].filterMap f).length !=2)=G:=bne_iff_ne.mpr λ e=>by
 rcases h with h|h
 .rw[GA h]at e
  have:=List.length_filterMap_le f [y]
  rw[e]at this;exact Nat.not_succ_le_self 1 this
 .cases q:f x with
  |none=>rw[GA q,GA h]at e;cases e
  |some z=>rw[List.filterMap_cons_some q,GA h]at e;cases e
theorem acZ{a b:Str}{cP AH q qq:Pos}{k gj:Nat}{env:Env}{X:List bh}(h:(env.kindOf a==B .local)=U\/(env.kindOf b==B .local)=U):swappedStores [.Tuple [.Name a cP, .Name b AH] k q] (.Tuple X gj qq) env=pure J:=by
 unfold swappedStores
 dsimp only
 by_cases bf:(!([wB a cP,wB b AH].length==2|| [wB a cP,wB b AH].length==3)||X.length !=[wB a cP,wB b AH].length||env.blockKind != .function)=G
 .exact aQ bf
 .refine (aL bf).trans ?_
  show(if _ then _ else _)=_
  by_cases a3:(X.any λ| .Starred .. =>G|_=>U)=G
  .exact aQ a3
  .refine (aL a3).trans (aQ ((jr _ _).mpr (.inl (acY (h.imp ?_ ?_)))))<;>
   .intro e
    dsimp only
    rw[e,My]
    exact aL fV
section
variable{d:kJ}(ae:d.Ok)
theorem ac0(is:List Nat): ∀aa ab,(sq is aa ab).2=G->r8 aa is (sq is aa ab).1:=
 List.rec (motive:= λ is=> ∀aa ab,(sq is aa ab).2=G->r8 aa is (sq is aa ab).1) (λ _ _ _=>rfl) (λ i is aB aa ab ok=>⟨_,_,_,rfl,beq_iff_eq.mp (aV ok).1,aB aa _ (aV ok).2⟩) is
include ae in
theorem ac1(t:oO)(aa:dQ)(env:Env)(e:bh)(aM:aa.cL=d.cL)(ok:(uv t aa e).2=G):ud ⟨d,aa,env⟩ (uv t aa e).1 (nG d.P t)/\(assignEach [(uv t aa e).1] env).map (·.2)=[assign (uv t aa e).1 env]:=by
 cases t with
 |bad=>exact d3 ok
 |loc i=>exact⟨aau (beq_iff_eq.mp ok),rfl⟩
 |tup is=>exact⟨aaz ae (ac0 is aa _ ok),rfl⟩
 |attr o n=>exact⟨aav ae rfl ((ih ae o).v aa env _ aM ok).2,rfl⟩
 |sub o i=>exact⟨aaw ae ((ih ae o).v aa env _ aM (aV ok).1).2 ((ih ae i).v aa env _ aM (aV ok).2).2,rfl⟩
theorem GB{e:bh}(h:(!(ma e==2))=G): ∀o l env,swapsWith e o l env=pure U:=(Gz e).1 λ k=>by rw[k]at h;exact d3 h
theorem ac2{is:List Nat}{v:bh}{aa:dQ}{env:Env}{ab:List bh}{k:Nat}{q:Pos}(aF:env.scope=aa.scope)(h:((ma v==0)||((ma v==1&&(is.length==2))&&!((aa.scope.names.lookup (view (hT ab)).x==B .local)&&(aa.scope.names.lookup (view (hT ab.tail)).x==B .local))))=G):
  (∀o l env,swapsWith v o l env=pure U)/\swappedStores [.Tuple (sq is aa ab).1 k q] v env=pure J:=by
 have K:=Gz v
 rcases(jr _ _).mp h with h|h
 .have z:=beq_iff_eq.mp h
  exact⟨K.1 (by rw[z];exact λ h=>kb h),K.2.1 z _ _ _ _⟩
 .obtain ⟨m,n⟩:=aV h
  have z:=beq_iff_eq.mp (aV m).1
  refine⟨K.1 (by rw[z];exact λ h=>kb (pe h)),?_⟩
  obtain⟨X,gj,qq,rfl⟩:=K.2.2 z
  have l:=(aV m).2
  have two: ∀is:List Nat,(is.length==2)=G-> ∃i aU,is=[i,aU]:= λ is=>match is with
   | [i,aU]=>λ _=>⟨i,aU,rfl⟩
   | []=>λ h=>d3 h
   | [_]=>λ h=>d3 h
   |_::_::_::_=>λ h=>absurd (beq_iff_eq.mp h) (λ q=>kb (pe (pe q)))
  obtain⟨i,aU,rfl⟩:=two is l
  exact acZ (by unfold FA;rw[aF];exact Kl.mp ((r1 _).mp n))
include ae in
theorem ac3(t:oO)(x:a7)(aa:dQ)(env:Env)(s:Stmt)(aM:aa.cL=d.cL)(ok:(AB t x aa s).2=G):i2 ⟨d,aa,env⟩ (AB t x aa s).1 (tQ (nG d.P t) (cg d.P x)):= λ s' j E K a t'=>by
 obtain⟨h,aE⟩:=aV ok
 obtain⟨Y,Z⟩:=aV h
 have bI:=ac1 ae t aa env _ aM Y
 have V:=((ih ae x).v aa env _ aM Z).2
 cases t with
 |bad=>exact d3 Y
 |loc i=>
  rcases(jr _ _).mp aE with aE|aE
  .exact zP (GB aE _ _ _) rfl bI.2 V bI.1 s' j E K a t'
  .exact (ih ae x).s aa env _ _ _ i _ aM Z aE (beq_iff_eq.mp Y) s' j E K a t'
 |tup is=>
  have k:=ac2 (k:=(view (dr s).t).n) (q:=(view (dr s).t).p) (a.fo.st.same:env.scope=aa.scope) aE
  exact zP (k.1 _ _ _) k.2 bI.2 V bI.1 s' j E K a t'
 |attr _ _=>exact zP (GB aE _ _ _) rfl bI.2 V bI.1 s' j E K a t'
 |sub _ _=>exact zP (GB aE _ _ _) rfl bI.2 V bI.1 s' j E K a t'
end
def pp(d:kJ)(bG:ke)(T:dz):Prop:= ∀aa env s,aa.cL=d.cL->(bG aa s).2=G->i2 ⟨d,aa,env⟩ (bG aa s).1 T
def AI(d:kJ)(bG:mb)(T:dz):Prop:= ∀aa env s,aa.cL=d.cL->(bG aa s).2=G->nW ⟨d,aa,env⟩ (bG aa s).1 T
section
variable{d:kJ}{A C:mb}{a b:dz}(ae:d.Ok)(dk:AI d A a)(fZ:AI d C b)
include ae in
theorem ac4(x:a7):pp d (Gl x) (Eh (cg d.P x)):= λ aa env s aM ok s' j E K a t=>
 aam (((ih ae x).v aa env _ aM (aV ok).1).2.kL a t λ v aP x bt bs a5 bz bB=>⟨_,E,aP,bs,rfl,bz,bB.toF⟩) a.fo.Lr ((Gz _).1 (by rw[beq_iff_eq.mp (aV ok).2];exact λ h=>kb h) _ _ _)
include ae in
theorem ac5(i:Nat)(op:f4)(x:a7):pp d (Gm i op x) (Ei i op (cg d.P x)):= λ aa env s aM ok=>aaB (beq_iff_eq.mp (aV ok).1) ((ih ae x).v aa env _ aM (aV ok).2).2
include ae in
theorem ac6(o i:a7)(op:f4)(x:a7):pp d (Gn o i op x) (Ej (cg d.P o) (cg d.P i) op (cg d.P x)):= λ aa env s aM ok=>
 have k:=aV (aV ok).2
 have m:=(ih ae i).v aa env _ aM k.1
 aaC ae m.1.e6 ((ih ae o).v aa env _ aM (aV ok).1).2 m.2 ((ih ae x).v aa env _ aM k.2).2
include ae dk fZ in
theorem ac7(c:a7):pp d (Go c A C) (Ek (dF d.P c) a b):= λ aa env s aM ok=>
 have k:=aV (aV ok).2
 aar ((ih ae c).t aa env _ aM (aV ok).1) (dk aa env _ aM k.1) (fZ aa env _ aM k.2)
include ae dk in
theorem ac8(c:a7):pp d (Gp c A) (El (dF d.P c) a):= λ aa env s aM ok=>aaE ((ih ae c).t aa env _ aM (aV ok).1) (dk aa env _ aM (aV ok).2)
include ae dk in
theorem ac9(i:Nat)(it:fF):pp d (Gq i it A) (Em i (lV d.P it) a):= λ aa env s aM ok=>
 have k:=aV (aV ok).2
 have m:=(acX ae it).v aa env _ aM k.1
 aaK (beq_iff_eq.mp (aV ok).1) m.1 m.2 (dk aa env _ aM k.2)
include ae dk in
theorem ada(i aU:Nat)(x:a7):pp d (Gr i aU x A) (En i aU (cg d.P x) a):= λ aa env s aM ok=>
 have k:=aV (aV ok).1
 have m:=aV (aV ok).2
 have n:=aV m.1
 have q:=aV n.2
 aa6 ae (beq_iff_eq.mp k.1) (beq_iff_eq.mp k.2) ((ih ae x).b _ _ q.1 _ _) q.2 ((ih ae x).v aa env _ aM n.1).2 (dk aa env _ aM m.2)
include ae in
theorem adb(x:a7):pp d (Gs x) (Eo (cg d.P x)):= λ aa env s aM ok=>aan ((ih ae x).v aa env _ aM ok).2
include ae in
theorem adc(eZ:ef):AI d (AC eZ) (aK d.P eZ):=
 ef.rec (motive_1:= λ s=>pp d (S.rec (motive_1:= λ _=>ke) (motive_2:= λ _=>mb) Mo (λ x=>Gl x) (λ t x=>AB t x) (λ i op x=>Gm i op x) (λ o i op x=>Gn o i op x) (λ c _ _ a b=>Go c a b) (λ c _ b=>Gp c b) (λ i it _ b=>Gq i it b) (λ i aU x _ b=>Gr i aU x b) (λ x=>Gs x) (uw .Break) (uw .Continue) (uw .Pass)
  Mp (λ _ _ a b=>Mq a b) s) (wpS d.P s)) (motive_2:= λ eZ=>AI d (AC eZ) (aK d.P eZ))
  (λ _ _ _ _ _ _ _ _ _ _ t=>t.elim) (λ x=>ac4 ae x) (λ t x aa env s aM ok=>ac3 ae t x aa env s aM ok) (λ i op x=>ac5 ae i op x) (λ o i op x=>ac6 ae o i op x) (λ c _ _ a b=>ac7 ae a b c) (λ c _ b=>ac8 ae b c) (λ i it _ b=>ac9 ae b i it) (λ i aU x _ b=>ada ae b i aU x) (λ x=>adb ae x)
  (λ _ _ _ _ _=>aap) (λ _ _ _ _ _=>aaq) (λ _ _ _ _ _=>aao) (λ _ _ _ _ _=>aas) (λ _ _ a b aa env s aM ok=>aat (a aa env _ aM (aV ok).1) (b aa env _ aM (aV ok).2)) eZ
end
noncomputable def ade(sc:Scope)(x:Str):Bool:=(sc.names.lookup x==B .local)||((sc.names.lookup x==B .cell)&&((cellsFrom 0 sc.names []).lookup x).isSome)
noncomputable def adf(sc:Scope)(x:Str×pk):Bool:=!(x.2== .cell)||((cellsFrom 0 sc.names []).lookup x.1).isSome
noncomputable def GC(names:List Str)(np:Nat)(fd:FuncData):Bool:=
 ((!fd.scope.isCoroutine&&!fd.scope.isGenerator)&&(fd.scope.kind== .function&&fd.globals==mainGlobals))&&((fd.builtins==builtinsNs&&fd.closure.isEmpty)&&(((names.take np).all (ade fd.scope)&&decide (names.take np).Nodup)&&(decide (np<=names.length)&&fd.scope.names.all (adf fd.scope))))
structure wC(K:Frag)(cL:List (Str×bI))(f:Nat)(names:List Str)(F:c1)(pq:List V)(fd:FuncData)(body:List Stmt):Prop where
 here: ∃AJ mZ AK,K.lookup f=B ⟨AJ,mZ, .func fd,AK⟩
 code:codeIn K fd.code fd.qualname=G
 adg:fd.body= .stmts body
 comp:AC F.body ⟨names,fd.scope,cL⟩ body=(body,G)
 nl:F.nl=names.length
 Mz:GC names F.np fd=G
 binds: ∀(s:br) (xs:List aZ),K.In s.heap->xs.length+pq.length=F.np-> ∃ys:List aZ,(∀h j,b3 h j pq ys)/\BindsTo s fd ⟨xs,[]⟩ ((names.take F.np).zip (xs++ys))
theorem MA{k:Str->Option pk}{x:Str}(binds:List (Str×aZ)): ∀m,x ∉ binds.map (·.1)->bindL k binds m x=m x/\bindC k binds m x=m x:=
 List.rec (motive:= λ binds=> ∀m,x ∉ binds.map (·.1)->bindL k binds m x=m x/\bindC k binds m x=m x) (λ m _=>⟨rfl,rfl⟩) (λ adh r aB m h=>by
  obtain⟨n,v⟩:=adh
  have aq:x≠n:= λ q=>h (q▸ .head _)
  have aO:x ∉ r.map (·.1):= λ q=>h (.tail _ q)
  refine⟨((aB _ aO).1).trans ?_,((aB _ aO).2).trans ?_⟩
  .by_cases q:k n=B .local
   .rw[aQ q];exact aL aq
   .rw[aL q]
  .by_cases q:k n=B .local
   .rw[aQ q]
   .rw[aL q];exact aL aq) binds
theorem adi{k:Str->Option pk}{x:Str}{v:aZ}(binds:List (Str×aZ)): ∀m,(binds.map (·.1)).Nodup->(x,v)∈binds->(k x=B .local->bindL k binds m x=B v)/\(k x≠B .local->bindC k binds m x=B v):=
 List.rec (motive:= λ binds=> ∀m,(binds.map (·.1)).Nodup->(x,v)∈binds->(k x=B .local->bindL k binds m x=B v)/\(k x≠B .local->bindC k binds m x=B v)) (λ _ _ h=>nomatch h) (λ GD r aB m ie aG=>by
  obtain⟨n,u⟩:=GD
  have AL:=Ge.mp ie
  rcases eV.mp aG with q|q
  .obtain ⟨rfl,rfl⟩:=sa q
   exact⟨λ h=>(MA r _ AL.1).1.trans (by rw[aQ h];exact aQ rfl),λ h=>(MA r _ AL.1).2.trans (by rw[aL h];exact aQ rfl)⟩
  .exact ⟨(aB _ AL.2 q).1,(aB _ AL.2 q).2⟩) binds
theorem MB(names:List (Str×pk)): ∀(n i1:Nat) (bR n1:List (Str×Addr)),(∀x,(bR.lookup x).isSome=(n1.lookup x).isSome)-> ∀x,((cellsFrom n names bR).lookup x).isSome=((cellsFrom i1 names n1).lookup x).isSome:=
 List.rec (motive:= λ names=> ∀(n i1:Nat) (bR n1:List (Str×Addr)),(∀x,(bR.lookup x).isSome=(n1.lookup x).isSome)-> ∀x,((cellsFrom n names bR).lookup x).isSome=((cellsFrom i1 names n1).lookup x).isSome) (λ _ _ _ _ h=>h) (λ mk r aB n i1 bR n1 h=>by
  obtain⟨m,k⟩:=mk
  show∀x,(LK x (if(k== .cell)=G then cellsFrom (n+1) r ((m,n)::bR)else cellsFrom n r bR)).isSome=(LK x (if(k== .cell)=G then cellsFrom (i1+1) r ((m,i1)::n1)else cellsFrom i1 r n1)).isSome
  by_cases q:(k== .cell)=G
  .rw[aQ q,aQ q]
   refine aB _ _ _ _ λ x=>?_
   rw[j6,j6]
   cases x==m with
   |true=>rfl
   |false=>exact h x
  .rw[aL q,aL q];exact aB _ _ _ _ h) names
section
variable{K:Frag}{cL:List (Str×bI)}{f:Nat}{names:List Str}{F:c1}{pq X:List V}{fd:FuncData}{body:List Stmt}{s:br}{j:St}{xs ys:List aZ}
theorem MC{np:Nat}(h:GC names np fd=G):((fd.scope.isCoroutine=U/\fd.scope.isGenerator=U)/\fd.scope.kind= .function/\fd.globals=mainGlobals)/\(fd.builtins=builtinsNs/\fd.closure=[])/\
  ((∀x∈names.take np,fd.scope.names.lookup x=B .local\/fd.scope.names.lookup x=B .cell/\((cellsFrom 0 fd.scope.names []).lookup x).isSome=G)/\(names.take np).Nodup)/\np<=names.length/\ ∀z,fd.scope.names.lookup z=B .cell->((cellsFrom 0 fd.scope.names []).lookup z).isSome=G:=by
 obtain⟨a,b⟩:=aV h
 obtain⟨bz,cO⟩:=aV a
 obtain⟨cq,dX⟩:=aV b
 obtain⟨d5,fK⟩:=aV dX
 refine⟨⟨⟨(r1 _).mp (aV bz).1,(r1 _).mp (aV bz).2⟩,beq_iff_eq.mp (aV cO).1,beq_iff_eq.mp (aV cO).2⟩,⟨beq_iff_eq.mp (aV cq).1,adj.mp (aV cq).2⟩,⟨λ x aJ=>?_,of_decide_eq_true (aV d5).2⟩,of_decide_eq_true (aV fK).1,λ z e=>?_⟩
 .exact ((jr _ _).mp (hh.mp (aV d5).1 x aJ)).imp beq_iff_eq.mp λ q=>⟨beq_iff_eq.mp (aV q).1,(aV q).2⟩
 .exact ((jr _ _).mp (hh.mp (aV fK).2 _ (l5 _ e))).elim (λ q=>d3 q) id
theorem adk{d:kJ}{env:Env}{s':br}(eR:wC K cL f names F pq fd body)(S:bN d.toCn s.heap j)(ah:X.length=F.np)(AM:b3 s.heap j X xs)(aF:env=newEnv fd.scope s.heap.objs.size mainGlobals (cellsFrom (s.heap.objs.size+1) fd.scope.names []) (fd.qualname++ ".<locals>.") (B f) fd.code J builtinsNs)
  (x:InCallC s env.locals (bindL env.kindOf ((names.take F.np).zip xs) λ _=>J) env.cells (bindC env.kindOf ((names.take F.np).zip xs) λ _=>J) s'):
  (dc.mk d ⟨names,fd.scope,cL⟩ env).eH (X.map B++rH (F.nl - F.np) J) j s'.heap/\cN c6 j s j s'/\ ∀b,fw env b->s.heap.get? b=J:=by
 obtain⟨⟨_,GF,_⟩,_,⟨si,ie⟩,GG,cells⟩:=MC eR.Mz
 have GH:env.scope=fd.scope:=by rw[aF];rfl
 have MD:env.locals=s.heap.objs.size:=by rw[aF];rfl
 have adl:env.cells=cellsFrom (s.heap.objs.size+1) fd.scope.names []:=by rw[aF];rfl
 have ME:=x.toInCall.keep
 have mY:cN c6 j s j s':=⟨Step.h4 ME,by obtain⟨_,_,e⟩:=x.toInCall.same;rw[e],by obtain⟨_,_,e⟩:=x.toInCall.same;rw[e]⟩
 have fresh: ∀b,fw env b->s.heap.get? b=J:= λ b gd=>by
  have ge:s.heap.objs.size<=b:=by
   rcases gd with rfl|⟨z,e⟩
   .exact lp MD.symm
   .have:=x.above z b (l5 _ e);rw[MD]at this;exact k5 this
  exact nK.mpr λ o e=>absurd (vU e) (mc.mpr ge)
 have mS: ∀z,env.kindOf z=fd.scope.names.lookup z:= λ z=>by unfold FA;rw[GH]
 have MF: ∀z,fd.scope.names.lookup z=B .cell-> ∃c,env.cells.lookup z=B c:= λ z e=>AN.mp (by rw[adl,MB _ _ 0 _ [] λ _=>rfl];exact cells z e)
 have aq:(names.take F.np).length=F.np:=(zx).trans (v5 GG)
 have adm:((names.take F.np).zip xs).map (·.1)=names.take F.np:=acj (lp (aq.trans (ah.symm.trans AM.length)))
 refine⟨⟨⟨⟨by rw[GH];exact GF,by rw[aF];rfl,by rw[aF];rfl,λ z e=>(mS z).trans e,λ z i v bb bF=>?_,λ b gd=>S.fresh (fresh b gd),λ b gd=>?_,λ z e=>⟨(mS z).trans e,MF z e⟩⟩,⟨GH,λ z y c ao aH=>name_of_addr x.apart (l5 _ ao) (l5 _ aH),λ b gd=>FW S (fresh b gd),λ z c e=>zm (x.above z c (l5 _ e))⟩,
  ⟨_,x.toInCall.ns⟩,λ z c e=>⟨_,x.cell z c e⟩,?_⟩,S.grow ME⟩,mY,fresh⟩
 .have bo:i<X.length:=by
   rcases F9 i X.length with q|q
   .exact q
   .rw[sr ((c2 _).symm▸q),List.getElem?_replicate]at bF
    split at bF<;>cases bF
  rw[MG ((c2 _).symm▸bo),jq]at bF
  obtain⟨u,bE,e⟩:=jF bF
  have e:=dg e
  subst e
  obtain⟨y,bJ,hk⟩:=AM.get bE
  have MH:(names.take F.np)[i]?=B z:=by
   rw[List.getElem?_take,aQ (ah▸bo)]
   exact(we bb).2
  have adn:(z,y)∈(names.take F.np).zip xs:=o7 (i:=i) (by rw[List.getElem?_zip_eq_some];exact⟨MH,bJ⟩)
  have MI:=adi (k:=env.kindOf) (v:=y) ((names.take F.np).zip xs) (λ _=>J) (adm.symm▸ie) adn
  refine⟨y,?_,hk.step mY.h d4⟩
  rcases si z (o7 MH)with ak|⟨ak,_⟩
  .exact .loc _ ((mS z).trans ak) x.toInCall.ns (MI.1 ((mS z).trans ak))
  .obtain ⟨c,ap⟩:=MF z ak
   have:=x.cell z c ap
   rw[MI.2 (by rw[mS,ak];exact λ q=>nomatch q)]at this
   exact .cell c (.inl ((mS z).trans ak)) ap this
 .rcases gd with rfl|⟨z,e⟩
  .obtain ⟨o,_,_,e,_⟩:=x.toInCall.ns;exact⟨o,e⟩
  .obtain ⟨o,e,_⟩:=x.cell z b e;exact⟨o,e⟩
 .show _=names.length
  rw[bK,c2,ah,List.length_replicate,eR.nl]
  exact X5 GG
end
def Ends(c:Cn)(j:St)(s:br)(Q:V->St->Prop)(r:Result)(s':br):Prop:=match r with
 | .ok (.ret v)=>e2 c j s Q v s'
 | .ok _=>False
 | .error e=>False
section
variable{K:Frag}{cL:List (Str×bI)}{f:Nat}{names:List Str}{F:c1}{pq X:List V}{fd:FuncData}{body:List Stmt}{s:br}{j:St}{xs:List aZ}{P:em}{c:Cn}{Q:V->St->Prop}
noncomputable abbrev Cn.at(c:Cn)(A:Around):Cn:=⟨c.prog,c.w,c.eE,A⟩
theorem bN.at{A:Around}{h:b1}(S:bN c h j):bN (c.at A) h j:=⟨S.base,S.low,S.lt,S.obj⟩
theorem bN.un{A:Around}{h:b1}(S:bN (c.at A) h j):bN c h j:=⟨S.base,S.low,S.lt,S.obj⟩
theorem ado(eR:wC K cL f names F pq fd body)(b:v6 c.w.params cL K c.eE)(adp:c.A.depth<recursionLimit)(ae: ∀env,(kJ.mk (c.at (c.A.deeper env)) K P cL).Ok)(t:rR P F (X++pq) j Q)(rs:b3 s.heap j X xs)(S:bN c s.heap j):
  codeAny (model c.prog c.w) c.A (.call (.ref f) ⟨xs,[]⟩) (Ends c j s Q) s:=by
 obtain⟨AJ,mZ,AK,ba⟩:=eR.here
 obtain⟨⟨⟨fx,gen⟩,GF,ff⟩,⟨adq,adr⟩,⟨si,_⟩,GG,_⟩:=MC eR.Mz
 have a7:=b.r0.keeps S.base
 obtain⟨jG,t⟩:=t
 have ads:xs.length+pq.length=F.np:=by rw[<-rs.length, <-jG,bK]
 obtain⟨ys,e8,az⟩:=eR.binds s xs a7 ads
 have AM:b3 s.heap j (X++pq) (xs++ys):=rs.append (e8 s.heap j)
 refine codeAny_call_function adp (a7 _ _ ba) rfl fx gen eR.adg (codeRec_of a7 eR.code) (az _ _ _ _ ?_)
 rw[ff,adq,adr]
 refine wpAny_newFunctionEnv_cells GF (λ y bJ=>(si _ (List.of_mem_zip (show(y.1,y.2)∈_ from bJ)).1).imp id λ q=>⟨q.1,by rw[MB _ _ 0 _ [] λ _=>rfl];exact q.2⟩) λ env aF s' x=>⟨(b.nolimit.keeps S.base).keeps x.toInCall.keep,codeAny_func ?_⟩
 obtain⟨fo,mY,ic⟩:=adk (d:=⟨c.at (c.A.deeper env),K,P,cL⟩) eR S.at jG AM aF x
 have go:=adc (ae env) F.body ⟨names,fd.scope,cL⟩ env body rfl (by rw[eR.comp])
 rw[eR.comp]at go
 refine t4 (go s' j _ _ fo t) (λ ej b2 q=>?_) λ _ _ e=>e.elim
 obtain⟨ka,iE,D,k,MJ,cO,st⟩:=q
 have bB:=mY.toF.trans st
 have stN:cN c6 j s D b2:=⟨bB.h.narrow λ a o wD e=>f9 e (ic a wD),bB.o,bB.g⟩
 cases ka with
 |next=>rw[show ej= .next from MJ];exact⟨.none,D,k,rfl,cO.bV.un,stN⟩
 |ret v=>obtain⟨y,rfl,r⟩:=MJ;exact⟨v,D,k,r,cO.bV.un,stN⟩
 |brk=>exact k.elim
 |cont=>exact k.elim
end
def ss(A:Around)(n:Nat):Prop:=A.handled=J/\A.depth+4*n+4<recursionLimit/\A.units+20*n+200<cLine
structure GI(K:Frag)(cL:List (Str×bI)):Prop where
 fn: ∀f F,k3 f=B F-> ∀n, ∃names fd body,wC K cL f names F (qn f n) fd body
 keep: ∀f,(k3 f).isSome=G\/(mI.lookup f).isSome=G->keepIn K (.ref f)=G
 cls: ∀ae f8,mI.lookup ae=B f8->makesIn K ae=G/\findIn K (.ref ae) "__init__" =B (B (.ref f8))/\typeIn K (.ref f8)=B (.type "function")
 jX: ∀ae n,Ep ae n=G->t1 K ae n=G
 mx: ∀ae n f,Er ae n=B f->zz K ae n f=G
section
variable{A:Around}{n:Nat}
theorem GJ{env:Env}(R:ss A (n+1)):ss (A.deeper env) n:=by
 obtain⟨a,b,c⟩:=R
 refine⟨a,?_,?_⟩
 .show A.depth+1+4*n+4<_;right
 .show A.units+3+20*n+200<_;right
theorem adt{ae:Nat}{xs:List aZ}(R:ss A (n+1)):ss (A.under (.builtin "type.__call__" ⟨.ref ae::xs,[]⟩)) n:=by
 obtain⟨a,b,c⟩:=R
 refine⟨a,?_,?_⟩
 .show A.depth+1+4*n+4<_;right
 .have e:(MK "type.__call__" ⟨.ref ae::xs,[]⟩).cUnits<=20:=by
   show 1+3*(MK "type.__call__" ⟨.ref ae::xs,[]⟩).frames<=20
   rw[show(MK "type.__call__" ⟨.ref ae::xs,[]⟩).frames=0 from rfl];exact bw rfl
  show A.units+_+20*n+200<_;right
theorem ML{k f:Nat}{X:List V}{j:St}{Q:V->St->Prop}(t:aj (k+1) f X j Q):(∃F,k3 f=B F/\rR (aD (aj k)) F (X++qn f X.length) j Q)\/
  ∃f8,mI.lookup f=B f8/\ ∀x bL,j x=J->j bL=J->x≠bL->aj k f8 (.ref x::X) ((j.set bL (.owned x)).set x (.inst f bL [])) (λ r D=>r= .none/\Q (.ref x) D):=by
 have t:(match k3 f with
  |some F=>rR (aD (aj k)) F (X++qn f X.length) j Q
  |none=>match mI.lookup f with
   |some f8=> ∀x bL,j x=J->j bL=J->x≠bL->aj k f8 (.ref x::X) ((j.set bL (.owned x)).set x (.inst f bL [])) (λ r D=>r= .none/\Q (.ref x) D)
   |none=>False):=by with_unfolding_all exact t
 cases e:k3 f with
 |some F=>rw[e]at t;exact .inl ⟨F,rfl,t⟩
 |none=>
  rw[e]at t
  dsimp only at t
  cases aH:mI.lookup f with
  |some f8=>rw[aH]at t;exact .inr ⟨f8,rfl,t⟩
  |none=>rw[aH]at t;exact t.elim
theorem MM{f:Nat}{X:List V}{j:St}{Q:V->St->Prop}(t:aj 0 f X j Q):False:=by with_unfolding_all exact t
end
section
variable{K:Frag}{cL:List (Str×bI)}{c:Cn}{k f:Nat}{X:List V}{j:St}{Q:V->St->Prop}
theorem adu(t:aj k f X j Q):(k3 f).isSome=G\/(mI.lookup f).isSome=G:=by
 cases k with
 |zero=>exact(MM t).elim
 |succ k=>
  rcases ML t with⟨F,e,_⟩|⟨f8,e,_⟩
  .exact .inl (by rw[e];rfl)
  .exact .inr (by rw[e];rfl)
theorem adv{cH:b1}(S:bN c cH j): ∀r9:b1,r9=(cH.push emptyDict).push (instObj f cH.objs.size)->bN c r9 ((j.set cH.objs.size (.owned (cH.objs.size+1))).set (cH.objs.size+1) (.inst f cH.objs.size []))/\Step c6 j cH ((j.set cH.objs.size (.owned (cH.objs.size+1))).set (cH.objs.size+1) (.inst f cH.objs.size [])) r9/\j (cH.objs.size+1)=J/\j cH.objs.size=J:=by
 rintro r9 rfl
 have hT:=jD cH
 have ed: ∀c o,cH.get? c=B o->(cH.push emptyDict).get? c=B o:= λ c o e=>iA _ e
 have A:=S.new (o:= .owned (cH.objs.size+1)) hT ⟨_,iZ _ rfl⟩ ed λ _=>trivial
 have MN:(cH.push emptyDict).objs.size=cH.objs.size+1:=LP ..
 have MO:(cH.push emptyDict).get? (cH.objs.size+1)=J:=MN▸jD (cH.push emptyDict)
 have eQ: ∀c o,(cH.push emptyDict).get? c=B o->((cH.push emptyDict).push (instObj f cH.objs.size)).get? c=B o:= λ c o e=>iA _ e
 have MP:((cH.push emptyDict).push (instObj f cH.objs.size)).get? (cH.objs.size+1)=B (instObj f cH.objs.size):=MN▸iZ (h:=cH.push emptyDict) (o:=instObj f cH.objs.size) rfl
 have ne:(cH.objs.size+1:Nat)≠cH.objs.size:=adw _
 have C:=A.1.new (o:= .inst f cH.objs.size []) MO ⟨_,MP⟩ eQ λ _=>⟨MP,(St.j3 _ _ ne.symm).trans (St.vT ..),[],0,eQ _ _ (iZ _ rfl),rfl⟩
 exact⟨C.1,A.2.trans C.2,(St.j3 j _ ne).symm.trans (A.1.fresh MO),S.fresh hT⟩
theorem adx(b:v6 c.w.params cL K c.eE)(T:GI K cL)(k:Nat): ∀A,ss A k-> ∀f X j Q,aj k f X j Q-> ∀s xs,b3 s.heap j X xs->bN (c.at A) s.heap j->codeAny (model c.prog c.w) A (.call (.ref f) ⟨xs,[]⟩) (Ends (c.at A) j s Q) s:=
 Nat.rec (motive:= λ k=> ∀A,ss A k-> ∀f X j Q,aj k f X j Q-> ∀s xs,b3 s.heap j X xs->bN (c.at A) s.heap j->codeAny (model c.prog c.w) A (.call (.ref f) ⟨xs,[]⟩) (Ends (c.at A) j s Q) s) (λ _ _ _ _ _ _ t=>(MM t).elim)
  (λ k aB A m2 f X j Q t s xs rs S=>by
   rcases ML t with⟨F,e,t⟩|⟨f8,e,t⟩
   .obtain ⟨names,fd,body,eR⟩:=T.fn f F e X.length
    exact ado (c:=c.at A) eR b (dP (ca (gc _ _) (gc _ 4)) m2.2.1) (λ env=>⟨⟨(GJ m2).1,dP (GK (gc _ _) _) (GJ (env:=env) m2).2.2,b.Ew⟩,b,T.jX,T.mx,
     λ f X j Q t=>⟨T.keep f (adu t),λ s xs rs S=>L9 (aB _ (GJ m2) f X j Q t s xs rs S)⟩⟩) t rs S
   .obtain ⟨Y,Z,aE⟩:=T.cls f f8 e
    have a7:=b.r0.keeps S.base
    obtain⟨cH,g,ady,tk,os⟩:=s
    refine make_core (makes_of a7 Y) (looks_findIn a7 Z) (λ self=>bind_fn a7 self aE) (.inl rfl) ?_
    have N:=adv (f:=f) S _ rfl
    have go:=aB _ (adt (ae:=f) (xs:=xs) m2) f8 _ _ _ (t _ _ N.2.2.1 N.2.2.2 (adw _)) ⟨(cH.push emptyDict).push (instObj f cH.objs.size),g,ady,tk,os⟩ (.ref (cH.objs.size+1)::xs) (.cons rfl (rs.step N.2.1 d4)) N.1.at
    refine codeAny_mono go λ r s' z=>?_
    rcases r with e|(v|_|_|_)<;>first|exact z.elim|skip
    obtain⟨V,D,⟨rfl,q⟩,hR,g2,eS⟩:=z
    exact⟨hR, .ref _,D,q,rfl,⟨g2.base,g2.low,g2.lt,g2.obj⟩,N.2.1.trans eS.h,eS.o,eS.g⟩) k
end
noncomputable def AO(h:b1)(as:List Nat):Frag:=as.filterMap λ a=>(h.get? a).map λ o=>(a,o)
theorem adz(h:b1)(as:List Nat):(AO h as).In h:= λ a o e=>by
 obtain⟨b,_,e⟩:=List.mem_filterMap.mp (l5 _ e)
 obtain⟨ji,ao,aH⟩:=jF e
 obtain⟨rfl,rfl⟩:=sa aH
 exact ao
noncomputable def su:List (Str×bI):=[(bu "len", .cq .len),(bu "abs", .cq .abs),(bu "int", .cq .int),(bu "str", .cq .str),(bu "chr", .cq .chr),(bu "ord", .cq .ord),(bu "tuple", .cq .tuple),(bu "divmod", .divmod),(bu "range", .range),(bu "reversed", .reversed)]++
 (So.filter λ x=>22<=x.2).map (λ x=>(x.1, .fn x.2))++Sp.map λ x=>(x.1, .ea x.2)
noncomputable def fdOf(K:Frag)(f:Nat):Option (FuncData×List Stmt):=match K.lookup f with
 |some ⟨_,_, .func fd,_⟩=>(match fd.body with| .stmts b=>B (fd,b)|_=>J)
 |_=>J
noncomputable def ux(K:Frag)(d:aZ):Option (Option (Array aZ)):=match d with
 | .none=>B J
 | .ref a=>(match K.lookup a with|some ⟨_,_, .seq xs _,_⟩=>B (B xs)|_=>J)
 |_=>J
theorem adA{K:Frag}{f:Nat}{fd:FuncData}{b:List Stmt}(h:fdOf K f=B (fd,b)):(∃AJ mZ AK,K.lookup f=B ⟨AJ,mZ, .func fd,AK⟩)/\fd.body= .stmts b:=by
 unfold fdOf at h
 split at h
 .rename_i e
  split at h
  .rename_i q
   obtain⟨rfl,rfl⟩:=sa (dg h)
   exact⟨⟨_,_,_,e⟩,q⟩
  .exact hl h
 .exact hl h
noncomputable def sv(fd:FuncData)(xs:List aZ):{ k:Option (Array aZ)->Sem (List (Str×aZ))//bindArgs fd ⟨xs,[]⟩=seqItems? fd.defaults>>=k }:=⟨_,rfl⟩
theorem MQ{K:Frag}{s:br}{fd:FuncData}{xs:List aZ}{it:Option (Array aZ)}{binds:List (Str×aZ)}(a7:K.In s.heap)(bo:ux K fd.defaults=B it)(h:(sv fd xs).1 it=pure binds):BindsTo s fd ⟨xs,[]⟩ binds:= λ bG A hx Q co=>by
 rw[(sv fd xs).2]
 refine cE ?_
 have go:wpAny bG A ((sv fd xs).1 it) Q hx s:=h▸fv co
 generalize(sv fd xs).1=k at go ⊢
 generalize fd.defaults=d at bo ⊢
 unfold ux at bo
 split at bo
 .cases bo;exact cE (fv (fv go))
 .split at bo
  .rename_i e
   cases bo
   exact cE (wpAny_load (a7 _ _ e) (fv go))
  .exact hl bo
 .exact hl bo
abbrev GL:=Bool×(List Stmt×Bool)×List Stmt×((Nat->aZ)->Sem (List (Str×aZ)))
noncomputable def uy(K:Frag)(t:Nat×List Str×c1):GL:=(fdOf K t.1).casesOn (U,([],U),[],λ _=>pure []) λ p=>
 (codeIn K p.1.code p.1.qualname&&(GC t.2.1 t.2.2.np p.1&&((t.2.2.nl==t.2.1.length)&&(ux K p.1.defaults).isSome)),AC t.2.2.body ⟨t.2.1,p.1.scope,su⟩ p.2,p.2,λ g=>(sv p.1 ((oQ t.2.2.np).map g)).1 ((ux K p.1.defaults).getD J))
noncomputable def wE(t:Nat×List Str×c1)(b:List Stmt):GL:=(G,(b,G),b,λ g=>pure ((t.2.1.take t.2.2.np).zip ((oQ t.2.2.np).map g)))
theorem MR{α:Type}(d:α)(xs:List α):(oQ xs.length).map (λ i=>xs.getD i d)=xs:=abW λ i=>by
 rw[jq]
 rcases F9 i xs.length with q|q
 .rw[List.getElem?_range q,YK,E6,hi q];rfl
 .rw[wk (ca (lp Fe) q),wk q];rfl
theorem MS{α:Type}{o:Option (Option α)}(h:o.isSome=G):o=B (o.getD J):=by cases o with
 |none=>exact d3 h
 |some x=>rfl
theorem MT{K:Frag}{t:Nat×List Str×c1}{b:List Stmt}(e:uy K t=wE t b): ∃fd,wC K su t.1 t.2.1 t.2.2 [] fd b/\fdOf K t.1=B (fd,b)/\(ux K fd.defaults).isSome=G:=by
 unfold uy at e
 cases q:fdOf K t.1 with
 |none=>rw[q]at e;exact d3 (congrArg MU e)
 |some p=>
  obtain⟨fd,gJ⟩:=p
  rw[q]at e
  have ao:=congrArg MU e
  have aH:=congrArg (λ x=>x.2.1) e
  have cG:gJ=b:=congrArg (λ x=>x.2.2.1) e
  have ec:=congrArg (λ x=>x.2.2.2) e
  subst cG
  obtain⟨bf,c⟩:=aV ao
  obtain⟨a3,c⟩:=aV c
  obtain⟨dp,zF⟩:=aV c
  have k:=adA q
  refine⟨fd,⟨k.1,bf,k.2,aH,beq_iff_eq.mp dp,a3,λ s xs a7 ah=>?_⟩,rfl,zF⟩
  have ah:xs.length=t.2.2.np:=ah
  refine⟨[],λ _ _=> .nil,MQ a7 (MS zF) ?_⟩
  have g:=congrFun ec (λ i=>xs.getD i .none)
  rw[dV, <-MR .none xs,ah]
  exact g
theorem adB{α dv ku:Type}{f:α->ku}{g:α->dv->ku}(l:List α): ∀fL,l.map f=l.zipWith g fL-> ∀t∈l, ∃b,f t=g t b:=
 List.rec (motive:= λ l=> ∀fL,l.map f=adC g l fL-> ∀t∈l, ∃b,f t=g t b) (λ _ _ _ h=>nomatch h) (λ a r aB fL e t h=>by
  cases fL with
  |nil=>exact nomatch e
  |cons b fL=>
   have e:=za (show f a::r.map f=g a b::adC g r fL from e)
   rcases eV.mp h with rfl|h
   .exact ⟨b,e.1⟩
   .exact aB fL e.2 t h) l
noncomputable def GN(v:V)(y:aZ):Bool:=match v,y with
 | .str l, .str s _=>(s==⟨l.toArray⟩)&&hp l
 |_,_=>U
noncomputable def GO(X:List V):List aZ->Bool:=List.rec (motive:= λ _=>List aZ->Bool) (λ ys=>ys.isEmpty) (λ v _ aB ys=>match ys with| []=>U|y::ys=>GN v y&&aB ys) X
noncomputable def GP(K:Frag)(v:V)(y:aZ):Bool:=match v,y with
 | .int i, .int aU _=>i==aU
 | .tup X, .ref a=>(match K.lookup a with|some ⟨c,_, .seq xs _,_⟩=>(c== .type "tuple")&&GO X xs.toList|_=>U)
 |_,_=>U
noncomputable def MV(K:Frag)(gC jn:Str->Option aZ)(t:Str×bI):Bool:=t.2.casesOn (λ a=>gC t.1==B (.ref a)) (λ v=>(gC t.1).any (GP K v)) (λ b=>(gC t.1).isNone&&(jn t.1==B (zo b))) ((gC t.1).isNone&&(jn t.1==B (.builtin "divmod"))) ((gC t.1).isNone&&(jn t.1==B (.type "range"))) ((gC t.1).isNone&&(jn t.1==B (.type "reversed")))
noncomputable def adD(K:Frag)(t:Nat×Nat):Bool:=keepIn K (.ref t.1)&&(makesIn K t.1&&((findIn K (.ref t.1) "__init__" ==B (B (.ref t.2)))&&(typeIn K (.ref t.2)==B (.type "function"))))
noncomputable def GQ(K:Frag)(h:b1):Bool:=((h.isNs mainGlobals&&(h.isNs builtinsNs&&(h.isNs cStatics&&(h.nsMap cStatics "sys.recursionlimit").isNone)))&&((h.nsMap mainGlobals "law" ==B (.ref 565))&&((h.get? sysModules).isSome&&su.all (MV K (h.nsMap mainGlobals) (h.nsMap builtinsNs)))))&&
 ((kD.all (λ t=>keepIn K (.ref t.1))&&mI.all (adD K))&&(JN.all (λ t=>t.2.all λ n=>t1 K t.1 n)&&Jk.all (λ t=>zz K t.1 t.2.1 t.2.2)))
section
variable{K:Frag}{h:b1}{gC jn:Str->Option aZ}
theorem adE{v:V}{y:aZ}(e:GN v y=G):bk h (λ _=>J) v y:=by
 unfold GN at e
 split at e
 .obtain ⟨ao,aH⟩:=aV e
  exact⟨_,by rw[beq_iff_eq.mp ao],aH⟩
 .exact d3 e
theorem adF(X:List V): ∀ys,GO X ys=G->b3 h (λ _=>J) X ys:=
 List.rec (motive:= λ X=> ∀ys,GO X ys=G->b3 h (λ _=>J) X ys) (λ ys e=>adj.mp e) (λ v X aB ys e=>by
  cases ys with
  |nil=>exact d3 e
  |cons y ys=>exact .cons (adE (aV e).1) (aB ys (aV e).2)) X
theorem adG(a7:K.In h){v:V}{y:aZ}(e:GP K v y=G):bk h (λ _=>J) v y:=by
 unfold GP at e
 split at e
 .rw[beq_iff_eq.mp e];exact⟨_,rfl⟩
 .split at e
  .rename_i q
   obtain⟨ao,aH⟩:=aV e
   exact⟨_,_,rfl,rfl,⟨_,a7 _ _ q,beq_iff_eq.mp ao,_,rfl⟩,adF _ _ aH⟩
  .exact d3 e
 .exact d3 e
theorem adH(a7:K.In h){x:Str}{g:bI}(e:MV K gC jn (x,g)=G): ∃y,(gC x=B y\/gC x=J/\jn x=B y)/\zy h (λ _=>J) y g:=by
 have two: ∀{y:aZ},((gC x).isNone&&(jn x==B y))=G->gC x=B y\/gC x=J/\jn x=B y:= λ e=> .inr ⟨FR.mp (aV e).1,beq_iff_eq.mp (aV e).2⟩
 cases g with
 |fn a=>exact⟨_, .inl (beq_iff_eq.mp e),rfl⟩
 |ea v=>
  obtain⟨y,Y,Z⟩:=(Option.any_eq_true _ _).mp e
  exact⟨y, .inl Y,adG a7 Z⟩
 |cq b=>exact⟨_,two e,rfl⟩
 |_=>exact⟨_,two e,rfl⟩
end
def AP(P:Params)(h:b1):Prop:= ∃K gC,GI K su/\v6 P su K h/\h.Ns mainGlobals gC/\gC "law" =B (.ref 565)
noncomputable def wF(K:Frag):(Nat->aZ)->Sem (List (Str×aZ)):=(fdOf K 484).casesOn (λ _=>pure []) λ p g=>(sv p.1 ((oQ 7).map g)).1 ((ux K p.1.defaults).getD J)
noncomputable def wG(g:Nat->aZ):Sem (List (Str×aZ)):=pure ((tK.take 8).zip ((oQ 7).map g++ [.int 1201 559]))
section
variable{K:Frag}{h h':b1}{P:Params}
theorem adI(e:uy K (484,tK,qc)=wE (484,tK,qc) b)(lq:wF K=wG): ∃fd,wC K su 484 tK qc [.int 1201] fd b:=by
 obtain⟨fd,F,q,c⟩:=MT e
 refine⟨fd,{ F with binds:= λ s xs a7 ah=>⟨[.int 1201 559],λ _ _=> .one ⟨_,rfl⟩,MQ a7 (MS c) ?_⟩ }⟩
 have ah:xs.length=7:=pe ah
 have g:=congrFun lq (λ i=>xs.getD i .none)
 unfold wF at g
 rw[show fdOf K 484=B (fd,b)from q]at g
 have r:=MR .none xs
 rw[ah]at r
 unfold wG at g
 rw[r]at g
 exact(congrArg (λ xs=>(sv fd xs).1 _) r.symm).trans g
theorem MW{f:Nat}{t:Nat×List Str×c1}(h:kD.find? (λ t=>t.1==f)=B t):t.1=f/\t∈kD:=⟨beq_iff_eq.mp (adJ (p:= λ t:Nat×List Str×c1=>t.1==f) h),adK h⟩
theorem adL{fL:List (List Stmt)}(e:GQ K h=G)(sw:kD.map (uy K)=kD.zipWith wE fL)(lq:wF K=wG):GI K su where
 fn:= λ f F e n=>by
  unfold k3 at e
  obtain⟨t,aN,rfl⟩:=jF e
  obtain⟨rfl,aG⟩:=MW aN
  obtain⟨b,cd⟩:=adB kD fL sw t aG
  unfold qn
  split
  .rename_i q
   have aH:kD.find? (λ t=>t.1==484)=B (484,tK,qc):=rfl
   rw[q.1,aH]at aN
   cases aN
   obtain⟨fd,F⟩:=adI cd lq
   exact⟨_,fd,b,F⟩
  .obtain ⟨fd,F,_⟩:=MT cd
   exact⟨_,fd,b,F⟩
 keep:= λ f q=>by
  have e:=aV (aV (aV e).2).1
  rcases q with q|q
  .obtain ⟨F,q⟩:=AN.mp q
   unfold k3 at q
   obtain⟨t,aN,_⟩:=jF q
   obtain⟨rfl,aG⟩:=MW aN
   exact hh.mp e.1 t aG
  .obtain ⟨f8,q⟩:=AN.mp q
   exact(aV (hh.mp e.2 _ (l5 _ q))).1
 cls:= λ ae f8 q=>by
  have e:=aV (aV (hh.mp (aV (aV (aV e).2).1).2 _ (l5 _ q))).2
  exact⟨e.1,beq_iff_eq.mp (aV e.2).1,beq_iff_eq.mp (aV e.2).2⟩
 jX:= λ ae n q=>by
  unfold Ep at q
  obtain⟨t,aN,q⟩:=adM.mp q
  have c:=aV q
  rw[<-beq_iff_eq.mp c.1]
  exact hh.mp (hh.mp (aV (aV (aV e).2).2).1 t aN) n (List.contains_iff_mem.mp c.2)
 mx:= λ ae n f q=>by
  unfold Er at q
  obtain⟨t,aN,q⟩:=jF q
  have c:=aV (adJ (p:= λ t:Nat×Nat×Nat=>t.1==ae&&t.2.1==n) aN)
  rw[<-beq_iff_eq.mp c.1, <-beq_iff_eq.mp c.2, <-q]
  exact hh.mp (aV (aV (aV e).2).2).2 t (adK aN)
theorem adN{fL:List (List Stmt)}(a7:K.In h)(e:GQ K h=G)(sw:kD.map (uy K)=kD.zipWith wE fL)(lq:wF K=wG):AP P h:=by
 obtain⟨a,cO⟩:=aV (aV e).1
 obtain⟨iC,mW⟩:=aV (aV a).2
 obtain⟨kM,pj⟩:=aV cO
 obtain⟨wH,adO⟩:=aV pj
 exact⟨K,_,adL e sw lq,⟨a7,AN.mp wH,⟨_, .of_isNs (aV mW).1,FR.mp (aV mW).2⟩,_,_, .of_isNs (aV a).1, .of_isNs iC,λ x g q=>adH a7 (hh.mp adO _ (l5 _ q))⟩, .of_isNs (aV a).1,beq_iff_eq.mp kM⟩
theorem adP(s:AP P h)(k: ∀b o,h.get? b=B o->h'.get? b=B o):AP P h':=by
 obtain⟨K,gC,T,⟨a7,⟨q,co⟩,l,uz,jn,ib,i0,ff⟩,n,ah⟩:=s
 refine⟨K,gC,T,⟨a7.keeps k,⟨q,k _ _ co⟩,l.keeps k,uz,jn,ib.keeps k,i0.keeps k,λ x g e=>?_⟩,n.keeps k,ah⟩
 obtain⟨y,bJ,aM⟩:=ff x g e
 refine⟨y,bJ,?_⟩
 cases g with
 |ea v=>exact bk.step (Step.h4 k) d4 aM
 |_=>exact aM
end
noncomputable def GR:List Nat:=kD.map (·.1)++(kD.map (λ t=>t.1 - 1)++ [122,121,287,286,472,471,477,228,306,342,350,197,198,199])
noncomputable def defsOf(eZ:List Stmt):List (List Stmt):=eZ.flatMap λ s=>match s with
 | .FunctionDef _ _ b _ _ _ _ _ _ _=> [b]
 | .ClassDef _ _ _ b _ _ _ _ _ _ _=>b.flatMap λ s=>match s with| .FunctionDef _ _ b _ _ _ _ _ _ _=> [b]|_=> []
 |_=> []
noncomputable def qJ(fL:List (List Stmt)):Hook where
 α:=Bool×List GL×((Nat->aZ)->Sem (List (Str×aZ)))
 obs:= λ s=>(GQ (AO s.heap GR) s.heap,kD.map (uy (AO s.heap GR)),wF (AO s.heap GR))
 val:= λ _=>(G,kD.zipWith wE fL,wG)
 says:= λ w h=>AP w.params h
 of:= λ w s e=>adN (adz _ _) (congrArg MU e) (congrArg (λ x=>x.2.1) e) (congrArg (λ x=>x.2.2) e)
 keeps:= λ w h h' s k=>adP s k
section
set_option maxRecDepth 100000
noncomputable def qK:List (List Stmt):=((defsOf GS.main.body).zipIdx.filter λ x=>!([0,10,11,12,13,24,34]:List Nat).contains x.2).map (·.1)
noncomputable def co:Program:=adQ GS [57]
noncomputable def GU:List Str:=(adQ GS (oQ 57)).boundNames
noncomputable def MX(st:SharedT->Thread->Option (SharedT×Thread))(ok:Thread->Bool):Nat->SharedT->Thread->Option SharedT:=
 Nat.rec (λ _ _=>J) λ _ aB s t=>(through t).casesOn ((ok t).casesOn J ((st s t).casesOn J λ r=>aB r.1 r.2)) (B s)
noncomputable def MY:List Obj->BT->Nat->Option BT:=
 List.rec (λ t _=>B t) λ o _ aB t n=>((t.ins n o).get n).isSome.casesOn J (aB (t.ins n o) (n+1))
section
variable{I:String->Option Builtin}{p:Program}{w:World}{AQ:Nat}{AR:Option aZ}{s:br}{r:SharedT}
noncomputable def AS(I:String->Option Builtin)(p:Program)(w:World)(N:Nat)(s:br):Option SharedT:=
 (MY s.heap.objs.toList .nil 0).bind λ t=>MX (stepT (denote I) p w) (stepOk s.heap.objs.size (s.heap.nsMap mainGlobals "__annotations__")) N ⟨t,s.heap.objs.size,s.heap.life,s.gens,s.drawn,s.toks,s.os⟩ (topStub p)
theorem adR{n:Nat}: ∀{s t r},MX (stepT (denote I) p w) (stepOk AQ AR) n s t=B r->topRun I p w AQ AR n s.abs t=B r.abs:=by
 induction n with
 |zero=>exact λ h=>nomatch h
 |succ n aB=>
  intro s t r h
  replace h:(through t).casesOn ((stepOk AQ AR t).casesOn J ((stepT (denote I) p w s t).casesOn J _)) (B s)=B r:=h
  unfold topRun
  cases e:through t with
  |true=>rw[e]at h;exact congrArg (adS adT) h
  |false=>
   rw[e]at h
   clear e
   cases e:stepOk AQ AR t with
   |false=>rw[e]at h;exact nomatch h
   |true=>
    rw[e]at h
    clear e
    cases e:stepT (denote I) p w s t with
    |none=>rw[e]at h;exact nomatch h
    |some x=>rw[e]at h;rw[stepT_spec (s':=x.1) (t':=x.2) e];exact aB h
theorem adU{l:Life}(os:List Obj): ∀{t n t'},MY os t n=B t'->absHeap t' (n+os.length) l=⟨⟨(absHeap t n l).objs.toList++os⟩,l⟩:=by
 induction os with
 |nil=>intro t n t' h;rw[<-dg h,dV];rfl
 |cons o os aB=>
  intro t n t' h
  replace h:((t.ins n o).get n).isSome.casesOn J _=B t':=h
  cases e:((t.ins n o).get n).isSome with
  |false=>rw[e]at h;exact nomatch h
  |true=>
   rw[e]at h
   have k:=aB h
   rw[absHeap_ins e,adV]at k
   refine k.trans (congrArg (Heap.mk ⟨·⟩ l) ?_)
   rw[Array.toList_push,cM];rfl
theorem adW{N:Nat}(h:AS I p w N s=B r):topRun I p w s.heap.objs.size (s.heap.nsMap mainGlobals "__annotations__") N s (topStub p)=B r.abs:=by
 obtain⟨t,e,h⟩:=l0 h
 have c:=adU (l:=s.heap.life) _ e
 rw[mN]at c
 have k:=adR h
 unfold adT at k
 rw[show absHeap t s.heap.objs.size s.heap.life=_ from c]at k
 exact k
noncomputable def MZ(p:Program)(s s':br):Bool:=s.heap.isNs mainGlobals&&s.gens.size==0&&(staticsOk (importedModules p.main.body) s.heap s'.heap&&namesBound p s'.heap&&gensDone s'&&laidKept s.heap s'.heap)
theorem adX{N:Nat}(h:AS I p w N s=B r)(k:MZ p s r.abs=G):topFrom I p w N s=B r.abs:=by
 obtain⟨ed,eQ⟩:=aV k
 have h:=adW h
 unfold topFrom
 rw[ed,h]
 clear h k ed
 show(match(_:Bool)with|true=>_|false=>_)=_
 rw[eQ]
theorem adY{α:Type}{F:br->α}{a:α}{N:Nat}(h:((fencedOpening I p w N).bind λ s=>(AS I p w N s).map λ r=>(MZ p s r.abs,F r.abs))=B (G,a)):(openEnds I p w N).map F=B a:=by
 obtain⟨s,e,h⟩:=l0 h
 obtain⟨r,aH,h⟩:=jF h
 unfold openEnds
 rw[e]
 show(topFrom I p w N s).map F=_
 rw[adX aH (sa h).1]
 exact congrArg B (sa h).2
end
theorem adZ:LeftO GS co GU (λ s=>xlAt co [] s&&recOk [] s) (qJ qK).obs (qJ qK).val 6396:= λ w=>adY (by
 unfold AS
 rw[amB,amC,amD,amE]
 kernel_rfl)
end
end
abbrev ai:=List Nat
inductive T where
 |v (k:Nat)|n (s:ai)|i (z:Int)|a (s:ai)
 |bf (f:ai) (x:T)|a3 (f:ai) (x y:T)|dp (f:ai) (x y z:T)
noncomputable instance:DecidableEq T:= λ a b=>if h:a.ctorIdx=b.ctorIdx then AT _ else .isFalse λ e=>h (congrArg _ e)
abbrev cb:=Nat×ai
structure bY where
 pre:List (ai×cb)
 inf:List (ai×cb)
 post:List (ai×cb)
noncomputable def bY.op(t:bY)(s:ai):Bool:=(t.pre.lookup s).isSome||(t.inf.lookup s).isSome||(t.post.lookup s).isSome
noncomputable def d6(e:cb):Nat:=if e.2.head?=B 121 then e.1 else e.1 - 1
noncomputable def dh(e:cb):Nat:=if e.2.getLast?=B 121 then e.1 else e.1 - 1
noncomputable def isDigit(c:Nat):Bool:=decide (48<=c)&&decide (c<=57)
noncomputable def iH(c:Nat):Bool:=decide (97<=c)&&decide (c<=122)
noncomputable def n6(c:Nat):Bool:=decide (65<=c)&&decide (c<=90)
noncomputable def eJ(c:Nat):Bool:=iH c||(n6 c||(isDigit c||decide (c=95)))
noncomputable def signs:ai:=[43,45,42,47,92,94,60,62,61,126,58,46,63,64,35,38,36]
noncomputable def fg(c:Nat):Bool:=decide (c<128)&&signs.contains c
noncomputable def n7(s:ai):Bool:=match s with| []=>U|c::_=>iH c&&s.all eJ
noncomputable def uA(s:ai):Bool:=!s.isEmpty&&s.all fg
noncomputable def g4(s:ai):Bool:=decide (s∈ [[91,93],[123,125],[33],[59]])||n7 s||(uA s&&decide (s≠ [46])&&!([47,42]:ai).isPrefixOf s)
noncomputable def AU:ai:=[48,49,50,51,52,53,54,55,56,57,97,98,99,100,101,102]
noncomputable def fB(c:Nat):ai:=
 if c=39\/c=92 then [92,c]
 else if 7<=c/\c<=13 then [92,([97,98,116,110,118,102,114]:ai).getD (c - 7) 0]
 else if c<32\/c=127 then [92,120,AU.getD (c/16) 0,AU.getD (c%16) 0,92]
 else [c]
noncomputable def uB(s:ai):ai:=39::(s.flatMap fB++ [39])
noncomputable def g5(s:ai):ai:=if g4 s then s else uB s
noncomputable def n8(s:ai):Bool:=decide (s=[59])||decide (s=[33])||uA s
noncomputable def cY(n:Nat):ai:=(Rf 10 n).map Rg
noncomputable def hU(z:Int):ai:=if z<0 then 45::cY z.natAbs else cY z.natAbs
noncomputable def ii(k:Nat):ai:=(65+k%26)::(if k<26 then []else cY (k/26))
structure du where
 g6:Bool
 num:Bool
 called:List (Nat×ai)
noncomputable def under:Nat->List ai->ai->ai
 |0,_,s=>s
 |n+1,l,s=>if s∈l then under n l (s++ [95])else s
noncomputable def lr(o:du)(k:Nat):ai:=(o.called.lookup k).getD (under 10 (o.called.map (·.2)) (95::cY k))
inductive cI where
 |sp|pu (c:Nat)|nm (s:ai)|it (z:Int)|aX (s:ai)
noncomputable instance:DecidableEq cI:= λ a b=>if h:a.ctorIdx=b.ctorIdx then AT _ else .isFalse λ e=>h (congrArg _ e)
noncomputable def cI.cX:cI->ai
 | .sp=> [32]| .pu c=> [c]| .nm s=>g5 s| .it z=>hU z| .aX s=>s
inductive c8 where
 |tk (p:cI)|rw(p:cI)|gP
noncomputable instance:DecidableEq c8:= λ a b=>if h:a.ctorIdx=b.ctorIdx then AT _ else .isFalse λ e=>h (congrArg _ e)
structure bZ where
 out:List cI
 gP:Bool
noncomputable def bZ.last(w:bZ):Option Nat:=w.out.getLast?.bind λ p=>p.cX.getLast?
noncomputable def kO(c:Nat):Bool:=eJ c||decide (128<=c)
noncomputable def bZ.space(w:bZ)(first:Nat):Bool:=match w.last with
 |none=>U
 |some l=>if l=32 then U else
  if w.gP&&(decide (first=40)||(decide (l=45)&&isDigit first))then G else
  if kO l then kO first||decide (first=39)else
  if fg l then fg first else decide (l=39)&&decide (first=39)
noncomputable def bZ.raw(w:bZ)(p:cI):bZ:=⟨w.out++ [p],U⟩
noncomputable def bZ.run(w:bZ):c8->bZ
 | .gP=>⟨w.out,G⟩
 | .rw p=>w.raw p
 | .tk p=>if w.space (p.cX.headD 0)then⟨w.out++ [.sp]++ [p],U⟩else w.raw p
inductive e9 where
 |pre|inf|post
 deriving DecidableEq
noncomputable def pr:T->Option Nat
 | .i z=>if 0<=z then B z.toNat else J
 |_=>J
noncomputable def hE(o:du)(f:ai)(x:T):Option Nat:=if o.num&&decide (f=[36,86,65,82])then pr x else J
noncomputable def fa(I:bY)(o:du)(t:T):Option (e9×cb):=
 if o.g6 then J else match t with
 | .a3 f _ _=>if f=[46]then J else(I.inf.lookup f).map (.inf,·)
 | .bf f x=>if f=[123,125]then J else if(hE o f x).isSome then J else
  match I.pre.lookup f with
  |some e=>if f=[45]/\(pr x).isSome then J else B (.pre,e)
  |none=>(I.post.lookup f).map (.post,·)
 |_=>J
noncomputable def md:e9×cb->Nat
 |(.post,_)=>0
 |(_,e)=>dh e
noncomputable def e3(I:bY)(o:du)(x:T)(p dN:Nat):Nat:=match fa I o x with
 |some s=>if s.2.1=p/\md s=p then p - 1 else dN
 |none=>dN
noncomputable def gD(f:ai):List c8:=if n8 (g5 f)then [.tk (.nm f), .gP]else [.tk (.nm f), .rw .sp]
noncomputable def hF(f:ai):List c8:=if f=[44]then [.rw (.pu 44)]else if f=[124]then [.rw (.pu 124)]
 else if n8 (g5 f)then [.tk (.nm f)]else [.rw .sp, .rw (.nm f), .rw .sp]
noncomputable def ij(f:ai):List c8:=if n8 (g5 f)then [.tk (.nm f)]else [.rw .sp, .rw (.nm f)]
noncomputable def iI(b:Bool)(l:List c8):List c8:=if b then .tk (.pu 40)::(l++ [.rw (.pu 41)])else l
noncomputable def m3(e:Nat->Bool->List c8):(Nat->Bool->List c8)×List c8:=(e, .rw (.pu 124)::(e 999 G++ [.rw (.pu 93)]))
noncomputable def bd(I:bY)(o:du):T->(Nat->Bool->List c8)×List c8
 | .v k=>m3 λ _ _=> [.tk (.aX (lr o k))]
 | .n s=>m3 λ _ _=> [.tk (.aX s)]
 | .i z=>m3 λ _ _=> [.tk (.it z)]
 | .a s=>(λ _ alone=>if !alone&&I.op s then [.tk (.pu 40), .rw (.nm s), .rw (.pu 41)]else [.tk (.nm s)],
   if s=[91,93]then [.rw (.pu 93)]else [.rw (.pu 124), .tk (.nm s), .rw (.pu 93)])
 | .bf f x=>m3 λ dN _=>match hE o f x with
  |some k=> [.tk (.aX (ii k))]
  |none=>if f=[123,125]/\o.g6=U then .tk (.pu 123)::((bd I o x).1 1201 G++ [.rw (.pu 125)])else
   match fa I o (.bf f x)with
   |some (.pre,e)=>iI (decide (dN<e.1)) (gD f++(bd I o x).1 (dh e) U)
   |some (_,e)=>iI (decide (dN<e.1)) ((bd I o x).1 (e3 I o x e.1 (d6 e)) U++ij f)
   |none=> .tk (.nm f):: .rw (.pu 40)::((bd I o x).1 999 G++ [.rw (.pu 41)])
 | .a3 f x y=>if f=[46]then(λ _ _=> .tk (.pu 91)::((bd I o x).1 999 G++(bd I o y).2), .rw (.pu 44)::((bd I o x).1 999 G++(bd I o y).2))else
  m3 λ dN _=>match fa I o (.a3 f x y)with
   |some (_,e)=>iI (decide (dN<e.1)) ((bd I o x).1 (e3 I o x e.1 (d6 e)) U++hF f++(bd I o y).1 (dh e) U)
   |none=> .tk (.nm f):: .rw (.pu 40)::((bd I o x).1 999 G++ .rw (.pu 44)::((bd I o y).1 999 G++ [.rw (.pu 41)]))
 | .dp f x y z=>m3 λ _ _=> .tk (.nm f):: .rw (.pu 40)::((bd I o x).1 999 G++ .rw (.pu 44)::((bd I o y).1 999 G++ .rw (.pu 44)::((bd I o z).1 999 G++ [.rw (.pu 41)])))
theorem qL{I:bY}{o:du}{f:ai}{x:T}{m:Nat}{a:Bool}:(bd I o (.bf f x)).1 m a=match hE o f x with
  |some k=> [.tk (.aX (ii k))]
  |none=>if f=[123,125]/\o.g6=U then .tk (.pu 123)::((bd I o x).1 1201 G++ [.rw (.pu 125)])else
   match fa I o (.bf f x)with
   |some (.pre,e)=>iI (decide (m<e.1)) (gD f++(bd I o x).1 (dh e) U)
   |some (_,e)=>iI (decide (m<e.1)) ((bd I o x).1 (e3 I o x e.1 (d6 e)) U++ij f)
   |none=> .tk (.nm f):: .rw (.pu 40)::((bd I o x).1 999 G++ [.rw (.pu 41)]):=rfl
theorem m4{I:bY}{o:du}{f:ai}{x y:T}:bd I o (.a3 f x y)=if f=[46]then(λ _ _=> .tk (.pu 91)::((bd I o x).1 999 G++(bd I o y).2), .rw (.pu 44)::((bd I o x).1 999 G++(bd I o y).2))else
  m3 λ dN _=>match fa I o (.a3 f x y)with
   |some (_,e)=>iI (decide (dN<e.1)) ((bd I o x).1 (e3 I o x e.1 (d6 e)) U++hF f++(bd I o y).1 (dh e) U)
   |none=> .tk (.nm f):: .rw (.pu 40)::((bd I o x).1 999 G++ .rw (.pu 44)::((bd I o y).1 999 G++ [.rw (.pu 41)])):=rfl
theorem amF{I:bY}{o:du}{f:ai}{x y z:T}{m:Nat}{a:Bool}:(bd I o (.dp f x y z)).1 m a= .tk (.nm f):: .rw (.pu 40)::((bd I o x).1 999 G++ .rw (.pu 44)::((bd I o y).1 999 G++ .rw (.pu 44)::((bd I o z).1 999 G++ [.rw (.pu 41)]))):=rfl
noncomputable def textOf(I:bY)(o:du)(t:T):ai:=(((bd I o t).1 1201 G).foldl bZ.run ⟨[],U⟩).out.flatMap cI.cX
noncomputable def cZ(o:du):T->T
 | .v k=> .n (lr o k)
 | .bf f x=>match hE o f x with
  |some k=> .n (ii k)
  |none=> .bf f (cZ o x)
 | .a3 f x y=> .a3 f (cZ o x) (cZ o y)
 | .dp f x y z=> .dp f (cZ o x) (cZ o y) (cZ o z)
 |t=>t
theorem uC{o:du}{f:ai}{x:T}:cZ o (.bf f x)=(match hE o f x with|some k=> .n (ii k)|none=> .bf f (cZ o x)):=rfl
inductive cz where
 |nm (s:ai)|gE (s:ai)|it (n:Nat)|aX (s:ai)|pu (c:Nat)|no
noncomputable instance:DecidableEq cz:= λ a b=>if h:a.ctorIdx=b.ctorIdx then AT _ else .isFalse λ e=>h (congrArg _ e)
abbrev Tok:=cz×Bool
inductive a8 where
 |t (t:T)|nm (s:ai)
noncomputable instance:DecidableEq a8:= λ a b=>if h:a.ctorIdx=b.ctorIdx then AT _ else .isFalse λ e=>h (congrArg _ e)
noncomputable def leafOf(I:bY):a8->Option (T×Nat)
 | .t t=>B (t,0)
 | .nm s=>if s≠ [44]/\s≠ [124]/\I.op s=U then B (.a s,0)else J
noncomputable def hu(I:bY)(b:List a8->Option (T×Nat))(ps:List a8):Nat->Nat->Option (T×Nat)
 |0,_=>J
 |n+1,m=>match ps[m]? with
  |some (.nm f)=>(match I.inf.lookup f,b (ps.take m),b (ps.drop (m+1))with
   |some e,B (u,l),B (nV,cS)=>if l<=d6 e/\cS<=dh e then B (.a3 f u nV,e.1)else hu I b ps n (m+1)
   |_,_,_=>hu I b ps n (m+1))
  |_=>hu I b ps n (m+1)
noncomputable def pv(I:bY)(b:List a8->Option (T×Nat)):List a8->Option (T×Nat)
 | .nm f::r=>(match I.pre.lookup f,b r with
  |some e,B (u,l)=>if l<=dh e then B (.bf f u,e.1)else J
  |_,_=>J)
 |_=>J
noncomputable def ls(I:bY)(b:List a8->Option (T×Nat))(ps:List a8):Option (T×Nat):=match ps.getLast? with
 |some (.nm f)=>(match I.post.lookup f,b ps.dropLast with
  |some e,B (u,l)=>if l<=d6 e then B (.bf f u,e.1)else J
  |_,_=>J)
 |_=>J
noncomputable def above(I:bY)(b:List a8->Option (T×Nat))(ps:List a8):Option (T×Nat):=
 (pv I b ps).or ((hu I b ps (ps.length - 2) 1).or (ls I b ps))
noncomputable def n9(I:bY):Nat->List a8->Option (T×Nat)
 |0,_=>J
 |d+1,ps=>match ps with
  | []=>J
  | [p]=>leafOf I p
  |ps=>above I (n9 I d) ps
noncomputable def hG(I:bY)(ps:List a8)(dN:Nat):Option T:=match ps with
 | [.nm s]=>if s=[44]\/s=[124]then J else B (.a s)
 |ps=>match n9 I ps.length ps with
  |some (u,l)=>if l<=dN then B u else J
  |none=>J
theorem sy{I:bY}{o:du}{f:ai}{x:T}{s:e9×cb}(h:fa I o (.bf f x)=B s):o.g6=U/\f≠ [123,125]/\hE o f x=J/\((s.1= .pre/\I.pre.lookup f=B s.2/\ ¬(f=[45]/\(pr x).isSome=G))\/(s.1= .post/\I.post.lookup f=B s.2/\I.pre.lookup f=J)):=by
 have h:(if o.g6=G then J else if f=[123,125]then J else if(hE o f x).isSome=G then J else match I.pre.lookup f with
  |some e=>if f=[45]/\(pr x).isSome=G then J else B (e9.pre,e)
  |none=>(I.post.lookup f).map (e9.post,·))=B s:=h
 cases bo:o.g6
 .rw[bo,aL fV]at h
  by_cases aA:f=[123,125]
  .rw[aQ aA]at h;cases h
  rw[aL aA]at h
  cases aq:hE o f x with
  |some n=>rw[aq]at h;cases h
  |none=>
   rw[aq,aL (by simp)]at h
   refine⟨rfl,aA,rfl,?_⟩
   cases aT:I.pre.lookup f with
   |some e=>
    rw[aT]at h
    dsimp only at h
    by_cases c:f=[45]/\(pr x).isSome=G
    .rw[aQ c]at h;cases h
    .rw[aL c]at h;injection h with h;subst h;exact .inl ⟨rfl,rfl,c⟩
   |none=>
    rw[aT]at h
    obtain⟨e,Y,rfl⟩:=qM.mp h
    exact .inr ⟨rfl,Y,rfl⟩
 .rw[bo,aQ rfl]at h;cases h
theorem uD{I:bY}{o:du}{f:ai}{x y:T}{s:e9×cb}(h:fa I o (.a3 f x y)=B s):o.g6=U/\f≠ [46]/\s.1= .inf/\I.inf.lookup f=B s.2:=by
 have h:(if o.g6=G then J else if f=[46]then J else(I.inf.lookup f).map (e9.inf,·))=B s:=h
 cases bo:o.g6
 .rw[bo,aL fV]at h
  by_cases aA:f=[46]
  .rw[aQ aA]at h;cases h
  rw[aL aA]at h
  obtain⟨e,Y,rfl⟩:=qM.mp h
  exact⟨rfl,aA,rfl,Y⟩
 .rw[bo,aQ rfl]at h;cases h
structure bi where
 texts:List ai
 hn:List (Nat×Nat)
def bi.le(C ae:bi):Prop:=(∃l,ae.texts=C.texts++l)/\ ∃m,ae.hn=C.hn++m
theorem bi.le.refl{C:bi}:C.le C:=⟨⟨[],(dV _).symm⟩,[],(dV _).symm⟩
theorem bi.le.trans{C ae ag:bi}(h:C.le ae)(g:ae.le ag):C.le ag:=by
 obtain⟨⟨l,ao⟩,m,aH⟩:=h
 obtain⟨⟨cS,cG⟩,gf,ec⟩:=g
 exact⟨⟨l++cS,by rw[cG,ao,cM]⟩,m++gf,by rw[ec,aH,cM]⟩
noncomputable def bi.no(C:bi)(s:ai):Nat:=C.texts.idxOf s
noncomputable def bi.fn(C:bi)(f:ai)(n:Nat):Nat:=C.hn.idxOf (C.no f,n)
theorem M0{α:Type}[BEq α][LawfulBEq α]{l m:List α}{a:α}(h:a∈l):(l++m).idxOf a=l.idxOf a:=by
 rw[M1,aQ h]
theorem bi.le.no{C ae:bi}(h:C.le ae){s:ai}(m:s∈C.texts):ae.no s=C.no s:=by
 obtain⟨⟨l,e⟩,_⟩:=h
 unfold bi.no;rw[e];exact M0 m
theorem bi.le.mem{C ae:bi}(h:C.le ae){s:ai}(m:s∈C.texts):s∈ae.texts:=by
 obtain⟨⟨l,e⟩,_⟩:=h
 rw[e];exact lu _ m
def bi.has(C:bi)(f:ai)(n:Nat):Prop:=f∈C.texts/\(C.no f,n)∈C.hn
theorem bi.le.has{C ae:bi}(h:C.le ae){f:ai}{n:Nat}(m:C.has f n):ae.has f n:=by
 refine⟨h.mem m.1,?_⟩
 rw[h.no m.1]
 obtain⟨_,l,e⟩:=h
 rw[e];exact lu _ m.2
theorem bi.le.fn{C ae:bi}(h:C.le ae){f:ai}{n:Nat}(m:C.has f n):ae.fn f n=C.fn f n:=by
 unfold bi.fn
 rw[h.no m.1]
 obtain⟨_,l,e⟩:=h
 rw[e];exact M0 m.2
def bi.cv(C:bi):T->Prop
 | .a s=>s∈C.texts
 | .bf f x=>C.has f 1/\C.cv x
 | .a3 f x y=>C.has f 2/\C.cv x/\C.cv y
 | .dp f x y z=>C.has f 3/\C.cv x/\C.cv y/\C.cv z
 |_=>True
noncomputable def bi.enc(C:bi):T->V
 | .v k=> .tup [.str [118], .int (k:Int)]
 | .n s=> .tup [.str [118], .str s]
 | .i z=> .tup [.str [105], .int z]
 | .a s=> .tup [.str [97], .int (C.no s:Int)]
 | .bf f x=> .tup [.str [115], .int (C.fn f 1:Int), .tup [C.enc x]]
 | .a3 f x y=> .tup [.str [115], .int (C.fn f 2:Int), .tup [C.enc x,C.enc y]]
 | .dp f x y z=> .tup [.str [115], .int (C.fn f 3:Int), .tup [C.enc x,C.enc y,C.enc z]]
theorem bi.le.cv{C ae:bi}(h:C.le ae): ∀{t:T},C.cv t->ae.cv t
 | .v _,_=>trivial
 | .n _,_=>trivial
 | .i _,_=>trivial
 | .a _,m=>h.mem m
 | .bf _ _,m=>⟨h.has m.1,h.cv m.2⟩
 | .a3 _ _ _,m=>⟨h.has m.1,h.cv m.2.1,h.cv m.2.2⟩
 | .dp _ _ _ _,m=>⟨h.has m.1,h.cv m.2.1,h.cv m.2.2.1,h.cv m.2.2.2⟩
theorem bi.le.enc{C ae:bi}(h:C.le ae): ∀{t:T},C.cv t->ae.enc t=C.enc t
 | .v _,_=>rfl
 | .n _,_=>rfl
 | .i _,_=>rfl
 | .a s,m=>by show V.tup [.str [97], .int (ae.no s:Int)]= .tup [.str [97], .int (C.no s:Int)];rw[h.no m]
 | .bf f x,m=>by show V.tup [.str [115], .int (ae.fn f 1:Int), .tup [ae.enc x]]= .tup [.str [115], .int (C.fn f 1:Int), .tup [C.enc x]];rw[h.fn m.1,h.enc m.2]
 | .a3 f x y,m=>by show V.tup [.str [115], .int (ae.fn f 2:Int), .tup [ae.enc x,ae.enc y]]= .tup [.str [115], .int (C.fn f 2:Int), .tup [C.enc x,C.enc y]];rw[h.fn m.1,h.enc m.2.1,h.enc m.2.2]
 | .dp f x y z,m=>by show V.tup [.str [115], .int (ae.fn f 3:Int), .tup [ae.enc x,ae.enc y,ae.enc z]]= .tup [.str [115], .int (C.fn f 3:Int), .tup [C.enc x,C.enc y,C.enc z]];rw[h.fn m.1,h.enc m.2.1,h.enc m.2.2.1,h.enc m.2.2.2]
noncomputable def AV:List ai:=[[91,93],[46],[123,125],[45],[43],[42],[47],[44],[124],[59],[45,62],[92,43],[58,45],[63,45],[45,45,62],[33],[116,114,117,101],[102,97,105,108],[102,97,108,115,101],[99,97,108,108],[61],[94],[101,114,114,111,114],[],[101,110,100,95,111,102,95,102,105,108,101],[115,121,115,116,101,109],[36,86,65,82],[99,97,116,99,104],[116,104,114,111,119]]
noncomputable def fr:List ai:=[[45],[94],[43],[102,111,111],[126,62],[33],[109,121,32,111,112],[],[65],[46]]
noncomputable def qN:List ai:=[[97],[91,93],[123,125],[44],[124],[59],[105,116,39,115,10],[91],[47,42],[120,49]]
noncomputable def di:List ai:=AV++fr++qN++ [[102]]
structure bi.Ok(C:bi):Prop where
 ie:C.texts.Nodup
 un: ∀s∈C.texts,s∈di
 fd:C.hn.Nodup
 GV: ∀p∈C.hn,p.1<C.texts.length/\p.2<9
theorem wI{α:Type}[BEq α][LawfulBEq α]: ∀{l u:List α},l.Nodup->(∀a∈l,a∈u)->l.length<=u.length
 | [],_,_,_=>eh _
 |a::l,u,n,h=>by
  have aI:=h a (eT ..)
  obtain⟨ib,i0⟩:=Ge.mp n
  have aE:=wI (l:=l) (u:=u.erase a) i0 λ b az=>(List.mem_erase_of_ne λ(e:b=a)=>ib (e▸az)).mpr (h b (f0 _ az))
  rw[List.length_erase_of_mem aI]at aE
  exact Nat.succ_le_of_lt (dP aE (uE (XT aI) jx))
noncomputable def ad0(n m:Nat):List (Nat×Nat):=(oQ n).flatMap λ a=>(oQ m).map λ b=>(a,b)
theorem bi.Ok.len{C:bi}(h:C.Ok):C.texts.length<=50:=ca (wI h.ie h.un) (by decide+kernel)
theorem bi.Ok.GW{C:bi}(h:C.Ok):C.hn.length<=450:=by
 refine ca (wI (u:=ad0 50 9) h.fd λ p aT=>?_) (by decide+kernel)
 have:=h.GV p aT
 exact List.mem_flatMap.mpr ⟨p.1,ad1.mpr (hB this.1 h.len),nO.mpr ⟨p.2,ad1.mpr this.2,rfl⟩⟩
noncomputable def i6{α:Type}(key:α->a2):Nat->List α->List (a2×V)
 |_,[]=> []
 |n,a::l=>(key a, .int (n:Int))::i6 key (n+1) l
theorem GX{α:Type}{key:α->a2}: ∀{n:Nat} {l:List α},(i6 key n l).length=l.length
 |_,[]=>rfl
 |n,a::l=>congrArg (· +1) GX
theorem GY{α:Type}{key:α->a2}{b:α}: ∀{n:Nat} {l:List α},i6 key n (l++ [b])=i6 key n l++ [(key b, .int ((n+l.length:Nat):Int))]
 |_,[]=>rfl
 |n,a::l=>by
  show _::i6 key (n+1) (l++ [b])=_::(i6 key (n+1) l++_)
  rw[GY,el,pl,hS 1]
theorem sz{k gj:a2}{v:V}{r:List (a2×V)}:dJ ((gj,v)::r) k=if gj=k then B v else dJ r k:=by
 unfold dJ
 rw[JY]
 by_cases h:gj=k
 .rw[aQ h,ce h];rfl
 .rw[aL h,bW h]
theorem GZ{α:Type}{key:α->a2}(inj: ∀a b,key a=key b->a=b){b:α}: ∀{n:Nat} {l:List α},b ∉ l->dJ (i6 key n l) (key b)=J
 |_,[],_=>rfl
 |n,a::l,h=>by
  unfold i6
  rw[sz,aL λ e=>h (eV.mpr (.inl (inj _ _ e).symm))]
  exact GZ inj λ m=>h (f0 _ m)
theorem G0{α:Type}[BEq α][LawfulBEq α]{key:α->a2}(inj: ∀a b,key a=key b->a=b){b:α}: ∀{n:Nat} {l:List α},b∈l->dJ (i6 key n l) (key b)=B (.int ((n+l.idxOf b:Nat):Int))
 |_,[],h=>nomatch h
 |n,a::l,h=>by
  unfold i6
  rw[sz]
  by_cases e:a=b
  .subst e;rw[aQ rfl,M2];rfl
  .rw[aL λ q=>e (inj _ _ q),G0 inj ((eV.mp h).resolve_left λ q=>e q.symm),List.idxOf_cons,beq_eq_false_iff_ne.mpr e,cond_false,pl,hS 1]
theorem sA{kvs:List (a2×V)}{k:a2}{v:V}(h:dJ kvs k=J):ha kvs k v=kvs++ [(k,v)]:=by
 unfold ha;rw[h];rfl
theorem ad2{C:bi}{j:St}{k:Nat}:dU j (C.enc (.v k)) (.int 0)=B (.str [118]):=rfl
theorem ad3{C:bi}{j:St}{k:Nat}:dU j (C.enc (.v k)) (.int 1)=B (.int (k:Int)):=rfl
theorem ad4{C:bi}{j:St}{s:ai}:dU j (C.enc (.n s)) (.int 0)=B (.str [118]):=rfl
theorem ad5{C:bi}{j:St}{s:ai}:dU j (C.enc (.n s)) (.int 1)=B (.str s):=rfl
theorem ad6{C:bi}{j:St}{z:Int}:dU j (C.enc (.i z)) (.int 0)=B (.str [105]):=rfl
theorem ad7{C:bi}{j:St}{z:Int}:dU j (C.enc (.i z)) (.int 1)=B (.int z):=rfl
theorem ad8{C:bi}{j:St}{s:ai}:dU j (C.enc (.a s)) (.int 0)=B (.str [97]):=rfl
theorem ad9{C:bi}{j:St}{s:ai}:dU j (C.enc (.a s)) (.int 1)=B (.int (C.no s:Int)):=rfl
theorem aea{C:bi}{j:St}{f:ai}{x:T}:dU j (C.enc (.bf f x)) (.int 0)=B (.str [115]):=rfl
theorem aeb{C:bi}{j:St}{f:ai}{x:T}:dU j (C.enc (.bf f x)) (.int 1)=B (.int (C.fn f 1:Int)):=rfl
theorem aec{C:bi}{j:St}{f:ai}{x:T}:dU j (C.enc (.bf f x)) (.int 2)=B (.tup [C.enc x]):=rfl
theorem aed{C:bi}{j:St}{f:ai}{x y:T}:dU j (C.enc (.a3 f x y)) (.int 0)=B (.str [115]):=rfl
theorem aee{C:bi}{j:St}{f:ai}{x y:T}:dU j (C.enc (.a3 f x y)) (.int 1)=B (.int (C.fn f 2:Int)):=rfl
theorem aef{C:bi}{j:St}{f:ai}{x y:T}:dU j (C.enc (.a3 f x y)) (.int 2)=B (.tup [C.enc x,C.enc y]):=rfl
theorem aeg{C:bi}{j:St}{f:ai}{x y z:T}:dU j (C.enc (.dp f x y z)) (.int 0)=B (.str [115]):=rfl
theorem aeh{C:bi}{j:St}{f:ai}{x y z:T}:dU j (C.enc (.dp f x y z)) (.int 1)=B (.int (C.fn f 3:Int)):=rfl
theorem aei{C:bi}{j:St}{f:ai}{x y z:T}:dU j (C.enc (.dp f x y z)) (.int 2)=B (.tup [C.enc x,C.enc y,C.enc z]):=rfl
noncomputable def fC(e:cb):V:= .tup [.int (e.1:Int), .str e.2]
noncomputable def wJ(e:Option cb):V:=(e.map fC).getD .none
theorem aej{e:cb}:wJ (B e)= .tup [.int (e.1:Int), .str e.2]:=rfl
theorem aek:wJ J= .none:=rfl
theorem M3: ∀d,d<10->d.digitChar.toNat=48+d:=by decide
theorem AW{n:Nat}(h:n<10):cY n=[48+n]:=by
 unfold cY;rw[Nat.toDigits_of_lt_base h,h5,M3 n h];rfl
theorem AX{n:Nat}(h:10<=n):cY n=cY (n/10)++ [48+n%10]:=by
 unfold cY;rw[Nat.toDigits_of_base_le (by decide) h,fO,h5,M3 _ (pw _ (by decide))];rfl
theorem wK{n:Nat}:cY n≠ []:= λ h=>Nat.toDigits_ne_nil (List.map_eq_nil_iff.mp h)
theorem px{n k:Nat}(h:n<10^k)(ak:0<k):(cY n).length<=k:=by
 unfold cY;rw[c2];exact(Nat.length_toDigits_le_iff (by decide) ak).mpr h
theorem M4{p:Nat->Prop}(Y: ∀n,n<10->p n)(Z: ∀n,10<=n->p (n/10)->p n)(n:Nat):p n:=
 Nat.strongRecOn n λ m aB=>if h:m<10 then Y m h else Z m (AY h) (aB _ (Nat.div_lt_self (hB (by decide) (AY h)) (by decide)))
theorem M5{d:Nat}(h:d<10):isDigit (48+d)=G:=by
 unfold isDigit;rw[ce (gc 48 d),ce (nM (r4 h) 48)];rfl
theorem AZ(n:Nat):(cY n).all isDigit=G:=by
 refine M4 (p:= λ n=>(cY n).all isDigit=G) (λ n h=>?_) (λ n h aB=>?_) n
 .rw[AW h,jv,M5 h];rfl
 .rw[AX h,XK,aB,jv,M5 (pw _ (by decide))];rfl
theorem ael(n:Nat):(cY n).foldl (λ n c=>n*10+(c - 48)) 0=n:=by
 refine M4 (p:= λ n=>(cY n).foldl (λ n c=>n*10+(c - 48)) 0=n) (λ n h=>?_) (λ n h aB=>?_) n
 .rw[AW h];show 0*10+(48+n - 48)=n;right
 .rw[AX h,wL,aB];show n/10*10+(48+n%10 - 48)=n;right
noncomputable def qO:Nat->Nat->ai
 |0,_=> []
 |k+1,r=>qO k (r/10)++ [48+r%10]
theorem M6: ∀k,qO k 0=rH k 48
 |0=>rfl
 |k+1=>by
  show qO k 0++ [48]=_
  rw[M6 k,List.replicate_succ']
theorem aem: ∀(k q r:Nat),0<q->r<10^k->cY (q*10^k+r)=cY q++qO k r:=by
 intro b0;induction b0 with
 |zero=>
  intro q r co aO
  have:r=0:=ZL.mp aO
  subst this
  show cY (q*1+0)=cY q++ []
  rw[aen,aaJ,dV]
 |succ k aB=>
  intro q r co aO
  have Y:0<10^k:=Nat.pow_pos (by decide)
  have aO:r<10^k*10:=aO
  have e:q*10^(k+1)=q*10^k*10:=by rw[Nat.pow_succ,Nat.mul_assoc]
  have Z:1<=q*10^k:=Nat.mul_pos co Y
  rw[e,AX (ca (Nat.mul_le_mul_right 10 Z) (gc _ _)),A0 _ 10,Nat.mul_add_div (hC 9),Nat.mul_add_mod,
   aB q (r/10) co (G1 (by rw[A0];exact aO)),cM];rfl
theorem aeo: ∀(k r:Nat),r<10^(k+1)->rH (k+1 - (cY r).length) 48++cY r=qO (k+1) r:=by
 intro b0;induction b0 with
 |zero=>
  intro r aO
  have aO:r<10:=aO
  rw[AW aO];show [48+r]=[48+r%10];rw[aep aO]
 |succ k aB=>
  intro r aO
  have aO:r<10^(k+1)*10:=aO
  by_cases h:r<10
  .rw[AW h]
   show rH (k+1) 48++ [48+r]=qO (k+1) (r/10)++ [48+r%10]
   rw[Nat.div_eq_of_lt h,M6,aep h]
  .have aB:=aB (r/10) (G1 (by rw[A0];exact aO))
   show _=qO (k+1) (r/10)++_
   rw[AX (AY h),bK, <-aB,cM]
   show rH (k+1+1 - ((cY (r/10)).length+1)) 48++_=_
   rw[Nat.add_sub_add_right]
theorem M7{n:Nat}:(cY n).head?≠B 45/\(cY n).head?≠B 43:=by
 have h:=AZ n
 cases e:cY n with
 |nil=>exact⟨nofun,nofun⟩
 |cons c r=>
  rw[e,jv,ia]at h
  refine⟨λ q=>?_,λ q=>?_⟩<;>cases q<;>cases h.1
noncomputable def py(c:Nat):Bool:=decide (c=10)||(decide (32<=c)&&decide (c<127))
inductive gr:Bool->ai->List Tok->Prop
 |nil {g:Bool}:gr g [] []
 |sp {g:Bool} {r:ai} {au:List Tok}:gr U r au->gr g (32::r) au
 |gE {g:Bool} {u r:ai} {au:List Tok}:u.all py=G->r.head?≠B 39->gr G r au->gr g (39::(u.flatMap fB++39::r)) ((.gE u,g)::au)
 |wn {g:Bool} {c:Nat} {u r:ai} {au:List Tok}:iH c=G->u.all eJ=G->(∀d,r.head?=B d->eJ d=U)->gr G r au->gr g (c::u++r) ((.nm (c::u),g)::au)
 |A1 {g:Bool} {n:Nat} {r:ai} {au:List Tok}:(cY n).length<=100->(∀d,r.head?=B d->eJ d=U)->gr G r au->gr g (cY n++r) ((.it n,g)::au)
 |wv {g:Bool} {c:Nat} {u r:ai} {au:List Tok}:(n6 c||decide (c=95))=G->u.all eJ=G->(∀d,r.head?=B d->eJ d=U)->gr G r au->gr g (c::u++r) ((.aX (c::u),g)::au)
 |M8 {g:Bool} {c:Nat} {u r:ai} {au:List Tok}:(c::u).all fg=G->(∀d,r.head?=B d->fg d=U)->gr G r au->gr g (c::u++r) ((.nm (c::u),g)::au)
 |pg {g:Bool} {c:Nat} {r:ai} {au:List Tok}:c=33\/c=59->gr G r au->gr g (c::r) ((.nm [c],g)::au)
 |pu {g:Bool} {c:Nat} {r:ai} {au:List Tok}:c∈([40,41,91,93,123,125,44,124]:ai)->gr G r au->gr g (c::r) ((.pu c,g)::au)
noncomputable def hH:Tok:=(.no,U)
section
variable{I:bY}{b c:List a8->Option (T×Nat)}{ps:List a8}
theorem aeq: ∀(n m:Nat),0<m->m+n<ps.length->(∀r:List a8,r.length<ps.length->b r=c r)->hu I b ps n m=hu I c ps n m:=by
 intro b0;induction b0 with
 |zero=>
  intro m bX aG h
  exact rfl
 |succ n aB=>
  intro m bX aG h
  unfold hu
  rw[aB (m+1) (hC m) (by rw[pl,hS 1];exact aG) h,h (ps.take m) (by rw[zx];exact dP (YE _ _) (dP (gc _ _) aG)),h (ps.drop (m+1)) (by rw[KW];exact uE (dP (eh _) aG) (hC m))]
theorem M9(ah:2<=ps.length)(h: ∀r:List a8,r.length<ps.length->b r=c r):above I b ps=above I c ps:=by
 unfold above
 rw[aeq (ps.length - 2) 1 (jx) (by rw[hS];exact Nat.lt_of_lt_of_eq (k7 (ps.length - 2+1)) (A2 ah)) h]
 have ao:pv I b ps=pv I c ps:=by
  unfold pv
  split
  .rw[h _ (k7 _)]
  .rfl
 have aH:ls I b ps=ls I c ps:=by
  unfold ls
  rw[h ps.dropLast (by rw[Ym];exact uE (hB sB ah) jx)]
 rw[ao,aH]
theorem Na: ∀(n d:Nat) (ps:List a8),ps.length<=n->n<=d->n9 I d ps=n9 I n ps
 |0,0,ps,h,hd=>rfl
 |0,d+1,ps,h,hd=>by rw[Nb.mp (aer.mp h)];rfl
 |n+1,0,ps,h,hd=>nomatch hd
 |n+1,d+1,[],h,hd=>rfl
 |n+1,d+1,[p],h,hd=>rfl
 |n+1,d+1,p::q::r,h,hd=>M9 (I:=I) (ps:=p::q::r) (kG 2 _) λ cj aO=>Na n d cj (r4 (hB aO h)) (Nat.le_of_succ_le_succ hd)
noncomputable def d1(I:bY)(ps:List a8):Option (T×Nat):=n9 I ps.length ps
theorem Nc{p:a8}:d1 I [p]=leafOf I p:=rfl
theorem A3(ah:2<=ps.length):d1 I ps=above I (d1 I) ps:=by
 have:d1 I ps=above I (n9 I (ps.length - 1)) ps:=by
  rcases ps with _|⟨p,_|⟨q,r⟩⟩
  .simp at ah
  .simp at ah
  .rfl
 rw[this]
 exact M9 ah λ r aO=>Na r.length (ps.length - 1) r (dt _) (aes aO)
noncomputable def d7(ps:List a8)(x y:Nat):List a8:=(ps.drop x).take (y - x)
theorem Nd{x y:Nat}(h:x<=y)(bJ:y<=ps.length):(d7 ps x y).length=y - x:=by
 unfold d7;rw[zx,KW];exact v5 (Nat.sub_le_sub_right bJ x)
theorem G2{a b m:Nat}(h:a+m<=b):(d7 ps a b).take m=d7 ps a (a+m):=by
 unfold d7;rw[YF,v5 (aet h),sC]
theorem Nf{a b m:Nat}:(d7 ps a b).drop m=d7 ps (a+m) b:=by
 unfold d7;rw[KV,List.drop_drop,Nat.sub_sub]
theorem Ng{a b m:Nat}(h:a+m<b):(d7 ps a b)[m]?=ps[a+m]?:=by
 unfold d7;rw[List.getElem?_take_of_lt (Nh (by rw[hS];exact h)),EY]
theorem aeu:d7 ps 0 ps.length=ps:=by unfold d7;rw[X9,Nat.sub_zero,YG]
theorem aev{a:Nat}{p:a8}(h:ps[a]?=B p):d7 ps a (a+1)=[p]:=by
 unfold d7
 obtain⟨aI,e⟩:=jl.mp h
 rw[sC,Ni aI,e];rfl
theorem Nj{a b:Nat}{p:a8}(h:ps[a]?=B p)(az:a<b):d7 ps a b=p::d7 ps (a+1) b:=by
 unfold d7
 obtain⟨aI,e⟩:=jl.mp h
 rw[Ni aI,e,show b - a=(b - (a+1))+1 from(Nk (Nl az)).symm,List.take_succ_cons]
theorem aew{a b:Nat}{p:a8}(h:ps[b - 1]?=B p)(az:a<b):(d7 ps a b).getLast?=B p/\(d7 ps a b).dropLast=d7 ps a (b - 1):=by
 have ah:b - 1<ps.length:=(jl.mp h).1
 have aq:=Nd (ps:=ps) (x:=a) (y:=b) (k5 az) (Nat.le_of_pred_lt ah)
 have e:a+(b - a - 1)=b - 1:=by rw[<-Nat.add_sub_assoc (Nl az),G3 (k5 az)]
 constructor
 .rw[zn,aq,Ng (by rw[e];exact uE (dP (eh _) az) jx),e,h]
 .rw[JS,aq,G2 (by rw[e];exact A4 ..),e]
noncomputable def pz(f:ai)(g:cb->Nat):Option cb->Option (T×Nat)->Option (T×Nat)
 |some e,B (u,l)=>if l<=g e then B (.bf f u,e.1)else J
 |_,_=>J
noncomputable def kP(f:ai):Option cb->Option (T×Nat)->Option (T×Nat)->Option (T×Nat)
 |some e,B (u,l),B (v,m)=>if l<=d6 e/\m<=dh e then B (.a3 f u v,e.1)else J
 |_,_,_=>J
theorem A5{f:ai}{r:List a8}:pv I b (.nm f::r)=pz f dh (I.pre.lookup f) (b r):=by
 show(match I.pre.lookup f,b r with|some e,B (u,l)=>if l<=dh e then B (T.bf f u,e.1)else J|_,_=>J)=_
 cases I.pre.lookup f with
 |none=>rfl
 |some e=>cases b r with
  |none=>rfl
  |some u=>rfl
theorem G4{f:ai}(h:ps.getLast?=B (.nm f)):ls I b ps=pz f d6 (I.post.lookup f) (b ps.dropLast):=by
 unfold ls;rw[h];dsimp only
 cases I.post.lookup f with
 |none=>rfl
 |some e=>cases b ps.dropLast with
  |none=>rfl
  |some u=>rfl
theorem Nm{t:T}(h:ps.getLast?=B (.t t)):ls I b ps=J:=by
 unfold ls;rw[h]
theorem wM{f:ai}{n m:Nat}(h:ps[m]?=B (.nm f)):hu I b ps (n+1) m=(kP f (I.inf.lookup f) (b (ps.take m)) (b (ps.drop (m+1)))).or (hu I b ps n (m+1)):=by
 rw[hu,h];dsimp only
 cases I.inf.lookup f with
 |none=>rfl
 |some e=>cases b (ps.take m)with
  |none=>rfl
  |some u=>cases b (ps.drop (m+1))with
   |none=>rfl
   |some v=>
    dsimp only[kP]
    split<;>rfl
theorem G5{t:T}{n m:Nat}(h:ps[m]?=B (.t t)):hu I b ps (n+1) m=hu I b ps n (m+1):=by
 rw[hu,h]
theorem Nn{f:ai}{g:cb->Nat}{e:Option cb}:pz f g e J=J:=by cases e<;>rfl
theorem aex{f:ai}{e:Option cb}{r:Option (T×Nat)}:kP f e J r=J:=by cases e<;>rfl
theorem aey{f:ai}{e:Option cb}{r:Option (T×Nat)}:kP f e r J=J:=by cases e<;>cases r<;>rfl
end
noncomputable def sD(aS:Bool):cz->Bool
 | .no=>G
 | .pu c=>([41,93,125]:ai).contains c||(aS&&([44,124]:ai).contains c)
 |_=>U
inductive jP:List Tok->Bool->ai->List Tok->Prop
 |nm {s:ai} {g:Bool} {r:List Tok}:jP ((.nm s,g)::r) U s r
 |gE {s:ai} {g:Bool} {r:List Tok}:jP ((.gE s,g)::r) G s r
 |Np {g h:Bool} {r:List Tok}:jP ((.pu 91,g)::(.pu 93,h)::r) G [91,93] r
 |Nq {g h:Bool} {r:List Tok}:jP ((.pu 123,g)::(.pu 125,h)::r) G [123,125] r
noncomputable def uF(f:ai):List T->Option T
 | [x]=>B (.bf f x)
 | [x,y]=>B (.a3 f x y)
 | [x,y,z]=>B (.dp f x y z)
 |_=>J
noncomputable def m5(bH:T):List T->T
 | []=>bH
 |x::l=> .a3 [46] x (m5 bH l)
noncomputable def sE(bar:Bool)(au:List T):Option T:=if bar then au.getLast?.map λ bH=>m5 bH au.dropLast else B (m5 (.a [91,93]) au)
noncomputable def sF:cz->Bool
 | .no=>G
 | .pu c=>!([40,91,123]:ai).contains c
 |_=>U
noncomputable def T.ay:T->Nat
 | .bf _ x=>x.ay+1
 | .a3 _ x y=>x.ay+y.ay+1
 | .dp _ x y z=>x.ay+y.ay+z.ay+1
 |_=>1
mutual
inductive dd(I:bY):Nat->Bool->Bool->Bool->List Tok->List a8->List Tok->Prop
 |stop {d:Nat} {aS bn e:Bool} {t u:Tok} {r:List Tok}:sD aS t.1=G->dd I d aS bn e (t::u::r) [] (t::u::r)
 |app {d:Nat} {aS bn e q b:Bool} {b5 r a5 cj:List Tok} {s:ai} {au:List T} {t:T} {l:Nat} {ps:List a8}:jP b5 q s ((.pu 40,G)::r)->s∈di->(bn=G\/I.inf.lookup s=J)->iJ I d 41 0 r au l a5->(∀x∈au,x.ay<=29)->l≠124->uF s au=B t->2<=a5.length->
   dd I (d+1) aS U U a5 ps cj->dd I (d+1) aS bn e b5 (.t t::ps) cj
 |neg {d:Nat} {aS e g:Bool} {n:Nat} {r cj:List Tok} {ps:List a8}:2<=r.length->dd I d aS U U r ps cj->dd I d aS G e ((.nm [45],g)::(.it n,G)::r) (.t (.i (-(n:Int)))::ps) cj
 |sep {d:Nat} {aS e g:Bool} {c:Nat} {t:Tok} {r cj:List Tok} {ps:List a8}:c=44\/c=124->(e=G/\sF t.1=G\/I.inf.lookup [c]=J)->t≠(.pu 40,G)->2<=(t::r).length->dd I d aS U U (t::r) ps cj->
   dd I d aS G e ((.gE [c],g)::t::r) (.t (.a [c])::ps) cj
 |int {d:Nat} {aS bn e g:Bool} {n:Nat} {r cj:List Tok} {ps:List a8}:2<=r.length->dd I d aS U U r ps cj->dd I d aS bn e ((.it n,g)::r) (.t (.i (n:Int))::ps) cj
 |var {d:Nat} {aS bn e g:Bool} {s:ai} {r cj:List Tok} {ps:List a8}:2<=r.length->dd I d aS U U r ps cj->dd I d aS bn e ((.aX s,g)::r) (.t (.n s)::ps) cj
 |par {d:Nat} {aS bn e g h:Bool} {r a5 cj:List Tok} {gg ps:List a8} {t:T}:dd I d U G G r gg ((.pu 41,h)::a5)->hG I gg 1200=B t->2<=a5.length->dd I (d+1) aS U U a5 ps cj->
   dd I (d+1) aS bn e ((.pu 40,g)::r) (.t t::ps) cj
 |cur {d:Nat} {aS bn e g h:Bool} {u:Tok} {r a5 cj:List Tok} {gg ps:List a8} {t:T}:u.1≠ .pu 125->dd I d U G G (u::r) gg ((.pu 125,h)::a5)->hG I gg 1200=B t->2<=a5.length->dd I (d+1) aS U U a5 ps cj->
   dd I (d+1) aS bn e ((.pu 123,g)::u::r) (.t (.bf [123,125] t)::ps) cj
 |lst {d:Nat} {aS bn e g:Bool} {u:Tok} {r a5 cj:List Tok} {au:List T} {t:T} {l:Nat} {ps:List a8}:u.1≠ .pu 93->iJ I d 93 0 (u::r) au l a5->(∀x∈au,x.ay<=29)->sE (decide (l=124)) au=B t->2<=a5.length->dd I (d+1) aS U U a5 ps cj->
   dd I (d+1) aS bn e ((.pu 91,g)::u::r) (.t t::ps) cj
 |aez {d:Nat} {aS bn e q:Bool} {b5 r cj:List Tok} {s:ai} {t:Tok} {ps:List a8}:jP b5 q s (t::r)->s∈di->(q=G->s≠ [44]/\s≠ [124])->(t=(.pu 40,G)->bn=U/\(I.inf.lookup s).isSome=G)->(bn=G->q=U->s=[45]-> ∀n,t≠(.it n,G))->
   2<=(t::r).length->dd I d aS (if bn then I.op s else(I.post.lookup s).isNone) U (t::r) ps cj->dd I d aS bn e b5 (.nm s::ps) cj
 |aeA {d:Nat} {bn e g:Bool} {c:Nat} {r cj:List Tok} {ps:List a8}:c=44\/c=124->2<=r.length->dd I d U (if bn then I.op [c]else(I.post.lookup [c]).isNone) U r ps cj->dd I d U bn e ((.pu c,g)::r) (.nm [c]::ps) cj
inductive iJ(I:bY):Nat->Nat->Nat->List Tok->List T->Nat->List Tok->Prop
 |done {d cl l:Nat} {g:Bool} {b5 r:List Tok} {ps:List a8} {t:T}:dd I d G G G b5 ps ((.pu cl,g)::r)->hG I ps 999=B t->iJ I (d+1) cl l b5 [t] l r
 |more {d cl l m cS:Nat} {g:Bool} {b5 r cj:List Tok} {ps:List a8} {t:T} {au:List T}:dd I d G G G b5 ps ((.pu m,g)::r)->hG I ps 999=B t->m=44\/m=124->m≠cl->l≠124->iJ I (d+1) cl m r au cS cj->iJ I (d+1) cl l b5 (t::au) cS cj
end
section
variable{I:bY}
theorem jP.oa{b5 r:List Tok}{q:Bool}{s:ai}(h:jP b5 q s r): ∃w,b5=w++r/\0<w.length:=
 jP.casesOn (motive:= λ b5 _ _ r _=> ∃w,b5=w++r/\0<w.length) h ⟨[_],rfl,jx⟩ ⟨[_],rfl,jx⟩ ⟨[_,_],rfl,hC 1⟩ ⟨[_,_],rfl,hC 1⟩
def kf(b5 r:List Tok)(n:Nat):Prop:= ∃w,b5=w++r/\n<=w.length
def uG(b5:List Tok)(ps:List a8)(r:List Tok):Prop:=kf b5 r ps.length/\ ∀s,a8.nm s∈ps->s∈di
section
variable{a b c:List Tok}{m n:Nat}{x:Tok}{ps:List a8}{t:T}{s:ai}
theorem ob(h:kf a b m)(k:kf b c n):kf a c (m+n):=by
 obtain⟨w,rfl,l⟩:=h
 obtain⟨v,rfl,k⟩:=k
 exact⟨w++v,(cM ..).symm,by rw[bK];exact No l k⟩
theorem oc:kf (x::b) b 1:=⟨[x],rfl,dt _⟩
theorem m6(h:kf a b m)(k:n<=m):kf a b n:=by obtain⟨w,e,l⟩:=h;exact⟨w,e,ca k l⟩
theorem sG(h:kf a (x::b) m):kf a b (m+1):=ob h oc
theorem qP(h:kf a b 1)(k:uG b ps c):uG a (.t t::ps) c:=⟨m6 (ob h k.1) (lp (hS ..)),λ s q=>(eV.mp q).elim nofun (k.2 s)⟩
theorem Nr(h:kf a b 1)(u:s∈di)(k:uG b ps c):uG a (.nm s::ps) c:=⟨m6 (ob h k.1) (lp (hS ..)),λ s' q=>(eV.mp q).elim (λ q=>by injection q with q;rw[q];exact u) (k.2 s')⟩
theorem aeB{c:Nat}(h:c=44\/c=124): [c]∈di:=by rcases h with rfl|rfl<;>decide
theorem jP.uH{q:Bool}(h:jP a q s b):kf a b 1:=h.oa
end
theorem dd.uH{d:Nat}{aS bn e:Bool}{b5 r:List Tok}{ps:List a8}(h:dd I d aS bn e b5 ps r):uG b5 ps r:=
 dd.rec (motive_1:= λ _ _ _ _ b5 ps r _=>uG b5 ps r) (motive_2:= λ _ _ _ b5 au _ r _=>kf b5 r au.length) (λ _=>⟨⟨[],rfl,dt _⟩,λ s h=>nomatch h⟩)
  (λ aq _ _ _ _ _ _ _ _ gz fU=>qP (m6 (ob (sG aq.uH) gz) (ca (hC _) (gc ..))) fU) (λ _ _ i=>qP (m6 (ob oc oc) (hC 1)) i) (λ _ _ _ _ _ i=>qP oc i) (λ _ _ i=>qP oc i) (λ _ _ i=>qP oc i)
  (λ _ _ _ _ gz fU=>qP (m6 (sG (ob oc gz.1)) (hC _)) fU) (λ _ _ _ _ _ gz fU=>qP (m6 (sG (ob oc gz.1)) (hC _)) fU) (λ _ _ _ _ _ _ gz fU=>qP (m6 (ob oc gz) (gc ..)) fU)
  (λ aq ab _ _ _ _ _ i=>Nr aq.uH ab i) (λ ap _ _ i=>Nr oc (aeB ap) i) (λ _ _ i=>m6 (sG i.1) (kG ..)) (λ _ _ _ _ _ _ gz fU=>m6 (ob (sG gz.1) fU) (by rw[el,hS];exact GK (kG ..) _)) h
theorem dd.oa{d:Nat}{aS bn e:Bool}{b5 r:List Tok}{ps:List a8}(h:dd I d aS bn e b5 ps r):(∃w,b5=w++r/\ps.length<=w.length)/\ ∀s,a8.nm s∈ps->s∈di:=h.uH
theorem iJ.two{d cl l cS:Nat}{b5 r:List Tok}{au:List T}(h:iJ I d cl l b5 au cS r):kf b5 r au.length/\(cS=l\/cS=44\/cS=124):=
 iJ.rec (motive_1:= λ _ _ _ _ _ _ _ _=>True) (motive_2:= λ _ _ l b5 au cS r _=>kf b5 r au.length/\(cS=l\/cS=44\/cS=124)) (λ _=>trivial) (λ _ _ _ _ _ _ _ _ _ _ _=>trivial) (λ _ _ _=>trivial) (λ _ _ _ _ _ _=>trivial) (λ _ _ _=>trivial) (λ _ _ _=>trivial) (λ _ _ _ _ _ _=>trivial) (λ _ _ _ _ _ _ _=>trivial) (λ _ _ _ _ _ _ _ _=>trivial) (λ _ _ _ _ _ _ _ _=>trivial) (λ _ _ _ _=>trivial)
  (λ aT _ _=>⟨m6 (sG aT.uH.1) (kG ..), .inl rfl⟩) (λ aT _ aG _ _ _ _ i=>⟨m6 (ob (sG aT.uH.1) i.1) (by rw[el,hS];exact GK (kG ..) _), .inr (i.2.elim (λ q=>by rw[q];exact aG) id)⟩) h
theorem iJ.oa{d cl l cS:Nat}{b5 r:List Tok}{au:List T}(h:iJ I d cl l b5 au cS r): ∃w,b5=w++r/\au.length<=w.length:=h.two.1
theorem iJ.last{d cl l cS:Nat}{b5 r:List Tok}{au:List T}(h:iJ I d cl l b5 au cS r):cS=l\/cS=44\/cS=124:=h.two.2
end
section
open PySem
section
set_option maxRecDepth 100000
variable{k:Nat}{j:St}{Q:V->St->Prop}{bm b8 dA fl jQ iK sH:V}
theorem aeC(t:aK (aD (aj k)) x5.body [] j (cr Q)):aj (k+1) 28 [] j Q:=dn (F:=x5) rfl ⟨rfl,t⟩
theorem aeD(t:aK (aD (aj k)) x6.body [] j (cr Q)):aj (k+1) 35 [] j Q:=dn (F:=x6) rfl ⟨rfl,t⟩
theorem aeE(t:aK (aD (aj k)) x7.body [B bm,J,J] j (cr Q)):aj (k+1) 49 [bm] j Q:=dn (F:=x7) rfl ⟨rfl,t⟩
theorem aeF(t:aK (aD (aj k)) x8.body [B bm,B b8,J,J] j (cr Q)):aj (k+1) 56 [bm,b8] j Q:=dn (F:=x8) rfl ⟨rfl,t⟩
theorem aeG(t:aK (aD (aj k)) x9.body [B bm,B b8] j (cr Q)):aj (k+1) 63 [bm,b8] j Q:=dn (F:=x9) rfl ⟨rfl,t⟩
theorem aeH(t:aK (aD (aj k)) ya.body [B bm,B b8,B dA,J,J,J] j (cr Q)):aj (k+1) 70 [bm,b8,dA] j Q:=dn (F:=ya) rfl ⟨rfl,t⟩
theorem aeI(t:aK (aD (aj k)) yb.body [B bm,B b8,B dA] j (cr Q)):aj (k+1) 77 [bm,b8,dA] j Q:=dn (F:=yb) rfl ⟨rfl,t⟩
theorem aeJ(t:aK (aD (aj k)) yc.body [B bm,B b8] j (cr Q)):aj (k+1) 84 [bm,b8] j Q:=dn (F:=yc) rfl ⟨rfl,t⟩
theorem aeK(t:aK (aD (aj k)) yd.body [B bm,B b8] j (cr Q)):aj (k+1) 91 [bm,b8] j Q:=dn (F:=yd) rfl ⟨rfl,t⟩
theorem aeL(t:aK (aD (aj k)) ye.body [B bm,J] j (cr Q)):aj (k+1) 133 [bm] j Q:=dn (F:=ye) rfl ⟨rfl,t⟩
theorem aeM(t:aK (aD (aj k)) yf.body [B bm] j (cr Q)):aj (k+1) 140 [bm] j Q:=dn (F:=yf) rfl ⟨rfl,t⟩
theorem aeN(t:aK (aD (aj k)) yg.body [B bm] j (cr Q)):aj (k+1) 147 [bm] j Q:=dn (F:=yg) rfl ⟨rfl,t⟩
theorem aeO(t:aK (aD (aj k)) yh.body [B bm] j (cr Q)):aj (k+1) 154 [bm] j Q:=dn (F:=yh) rfl ⟨rfl,t⟩
theorem aeP(t:aK (aD (aj k)) yi.body [B bm] j (cr Q)):aj (k+1) 161 [bm] j Q:=dn (F:=yi) rfl ⟨rfl,t⟩
theorem aeQ(t:aK (aD (aj k)) yj.body [B bm] j (cr Q)):aj (k+1) 168 [bm] j Q:=dn (F:=yj) rfl ⟨rfl,t⟩
theorem aeR(t:aK (aD (aj k)) yk.body [B bm,J,J,J] j (cr Q)):aj (k+1) 175 [bm] j Q:=dn (F:=yk) rfl ⟨rfl,t⟩
theorem aeS(t:aK (aD (aj k)) yl.body [B bm,J] j (cr Q)):aj (k+1) 182 [bm] j Q:=dn (F:=yl) rfl ⟨rfl,t⟩
theorem aeT(t:aK (aD (aj k)) ym.body [B bm,J] j (cr Q)):aj (k+1) 189 [bm] j Q:=dn (F:=ym) rfl ⟨rfl,t⟩
theorem aeU(t:aK (aD (aj k)) yn.body [B bm] j (cr Q)):aj (k+1) 196 [bm] j Q:=dn (F:=yn) rfl ⟨rfl,t⟩
theorem aeV(t:aK (aD (aj k)) yo.body [B bm] j (cr Q)):aj (k+1) 213 [bm] j Q:=dn (F:=yo) rfl ⟨rfl,t⟩
theorem aeW(t:aK (aD (aj k)) yp.body [B bm,B b8,J] j (cr Q)):aj (k+1) 220 [bm,b8] j Q:=dn (F:=yp) rfl ⟨rfl,t⟩
theorem aeX(t:aK (aD (aj k)) yq.body [B bm,B b8,B dA,J,J,J,J] j (cr Q)):aj (k+1) 235 [bm,b8,dA] j Q:=dn (F:=yq) rfl ⟨rfl,t⟩
theorem aeY(t:aK (aD (aj k)) yr.body [B bm,B b8] j (cr Q)):aj (k+1) 242 [bm,b8] j Q:=dn (F:=yr) rfl ⟨rfl,t⟩
theorem aeZ(t:aK (aD (aj k)) yt.body [B bm,B b8] j (cr Q)):aj (k+1) 249 [bm,b8] j Q:=dn (F:=yt) rfl ⟨rfl,t⟩
theorem ae0(t:aK (aD (aj k)) yu.body [B bm,B b8] j (cr Q)):aj (k+1) 256 [bm,b8] j Q:=dn (F:=yu) rfl ⟨rfl,t⟩
theorem ae1(t:aK (aD (aj k)) yv.body [B bm,B b8] j (cr Q)):aj (k+1) 263 [bm,b8] j Q:=dn (F:=yv) rfl ⟨rfl,t⟩
theorem G6(t:aK (aD (aj k)) yw.body [B bm,B b8,J] j (cr Q)):aj (k+1) 270 [bm,b8] j Q:=dn (F:=yw) rfl ⟨rfl,t⟩
theorem G7(t:aK (aD (aj k)) yx.body [B bm,B b8,B dA,B fl,J] j (cr Q)):aj (k+1) 277 [bm,b8,dA,fl] j Q:=dn (F:=yx) rfl ⟨rfl,t⟩
theorem ae2(t:aK (aD (aj k)) tI.body [B bm,J] j (cr Q)):aj (k+1) 298 [bm] j Q:=dn (F:=tI) rfl ⟨rfl,t⟩
theorem ae3(t:aK (aD (aj k)) yy.body [B bm,J,J] j (cr Q)):aj (k+1) 305 [bm] j Q:=dn (F:=yy) rfl ⟨rfl,t⟩
theorem ae4(t:aK (aD (aj k)) yz.body [B bm,B b8,B dA,J] j (cr Q)):aj (k+1) 313 [bm,b8,dA] j Q:=dn (F:=yz) rfl ⟨rfl,t⟩
theorem ae5(t:aK (aD (aj k)) yA.body [B bm,J] j (cr Q)):aj (k+1) 320 [bm] j Q:=dn (F:=yA) rfl ⟨rfl,t⟩
theorem ae6(t:aK (aD (aj k)) yB.body [B bm,J] j (cr Q)):aj (k+1) 327 [bm] j Q:=dn (F:=yB) rfl ⟨rfl,t⟩
theorem ae7(t:aK (aD (aj k)) yC.body [B bm] j (cr Q)):aj (k+1) 334 [bm] j Q:=dn (F:=yC) rfl ⟨rfl,t⟩
theorem ae8(t:aK (aD (aj k)) yD.body [B bm,B b8,B dA,B fl,B jQ,B iK,B sH,J,J] j (cr Q)):aj (k+1) 349 [bm,b8,dA,fl,jQ,iK,sH] j Q:=dn (F:=yD) rfl ⟨rfl,t⟩
theorem ae9(t:aK (aD (aj k)) tJ.body [B bm,B b8,B dA,J,J,J,J] j (cr Q)):aj (k+1) 357 [bm,b8,dA] j Q:=dn (F:=tJ) rfl ⟨rfl,t⟩
theorem Nt(t:aK (aD (aj k)) yE.body [B bm,B b8] j (cr Q)):aj (k+1) 364 [bm,b8] j Q:=dn (F:=yE) rfl ⟨rfl,t⟩
theorem afa(t:aK (aD (aj k)) yF.body [B bm,B b8] j (cr Q)):aj (k+1) 371 [bm,b8] j Q:=dn (F:=yF) rfl ⟨rfl,t⟩
theorem afb(t:aK (aD (aj k)) vI.body [B bm,B b8] j (cr Q)):aj (k+1) 378 [bm,b8] j Q:=dn (F:=vI) rfl ⟨rfl,t⟩
theorem afc(t:aK (aD (aj k)) yG.body [B bm,B b8,J] j (cr Q)):aj (k+1) 385 [bm,b8] j Q:=dn (F:=yG) rfl ⟨rfl,t⟩
theorem uI(t:aK (aD (aj k)) vJ.body [B bm,B b8,B dA,B fl,J,J] j (cr Q)):aj (k+1) 392 [bm,b8,dA,fl] j Q:=dn (F:=vJ) rfl ⟨rfl,t⟩
theorem afd(t:aK (aD (aj k)) yH.body [B bm,B b8,J] j (cr Q)):aj (k+1) 399 [bm,b8] j Q:=dn (F:=yH) rfl ⟨rfl,t⟩
theorem G8(t:aK (aD (aj k)) yI.body [B bm,B b8] j (cr Q)):aj (k+1) 406 [bm,b8] j Q:=dn (F:=yI) rfl ⟨rfl,t⟩
theorem afe(t:aK (aD (aj k)) yJ.body [B bm,B b8,B dA,J] j (cr Q)):aj (k+1) 413 [bm,b8,dA] j Q:=dn (F:=yJ) rfl ⟨rfl,t⟩
theorem aff(t:aK (aD (aj k)) yK.body [B bm,B b8,J,J,J,J] j (cr Q)):aj (k+1) 420 [bm,b8] j Q:=dn (F:=yK) rfl ⟨rfl,t⟩
theorem afg(t:aK (aD (aj k)) yL.body [B bm,B b8,J,J] j (cr Q)):aj (k+1) 427 [bm,b8] j Q:=dn (F:=yL) rfl ⟨rfl,t⟩
theorem afh(t:aK (aD (aj k)) yM.body [B bm,B b8,J,J,J] j (cr Q)):aj (k+1) 434 [bm,b8] j Q:=dn (F:=yM) rfl ⟨rfl,t⟩
theorem G9(t:aK (aD (aj k)) yN.body [B bm,B b8,B dA,B fl,J,J,J,J,J,J,J,J] j (cr Q)):aj (k+1) 441 [bm,b8,dA,fl] j Q:=dn (F:=yN) rfl ⟨rfl,t⟩
theorem afi(t:aK (aD (aj k)) yO.body [B bm,B b8,B dA,B fl,J] j (cr Q)):aj (k+1) 448 [bm,b8,dA,fl] j Q:=dn (F:=yO) rfl ⟨rfl,t⟩
theorem afj(t:aK (aD (aj k)) yP.body [B bm,B b8,J] j (cr Q)):aj (k+1) 455 [bm,b8] j Q:=dn (F:=yP) rfl ⟨rfl,t⟩
theorem afk(t:aK (aD (aj k)) yQ.body [B bm,B b8,J] j (cr Q)):aj (k+1) 462 [bm,b8] j Q:=dn (F:=yQ) rfl ⟨rfl,t⟩
theorem afl(t:aK (aD (aj k)) yR.body [B bm,B b8,J] j (cr Q)):aj (k+1) 469 [bm,b8] j Q:=dn (F:=yR) rfl ⟨rfl,t⟩
theorem afm(t:aK (aD (aj k)) qc.body [B bm,B b8,B dA,B fl,B jQ,B iK,B sH,B (.int 1201),J] j (cr Q)):aj (k+1) 484 [bm,b8,dA,fl,jQ,iK,sH] j Q:=dn (F:=qc) rfl ⟨rfl,t⟩
theorem afn(t:aK (aD (aj k)) yS.body [B bm,J,J,J,J,J,J] j (cr Q)):aj (k+1) 491 [bm] j Q:=dn (F:=yS) rfl ⟨rfl,t⟩
theorem afo(t:aK (aD (aj k)) vK.body [B bm,B b8,J] j (cr Q)):aj (k+1) 498 [bm,b8] j Q:=dn (F:=vK) rfl ⟨rfl,t⟩
theorem afp(t:aK (aD (aj k)) rK.body [B bm,B b8,J,J,J,J,J,J] j (cr Q)):aj (k+1) 505 [bm,b8] j Q:=dn (F:=rK) rfl ⟨rfl,t⟩
theorem afq(t:aK (aD (aj k)) qd.body [B bm,B b8,B dA,B fl,B jQ,B iK,J,J,J,J,J,J,J] j (cr Q)):aj (k+1) 510 [bm,b8,dA,fl,jQ,iK] j Q:=dn (F:=qd) rfl ⟨rfl,t⟩
theorem afr(t:aK (aD (aj k)) vL.body [B bm,J,J,J,J] j (cr Q)):aj (k+1) 517 [bm] j Q:=dn (F:=vL) rfl ⟨rfl,t⟩
theorem afs(t:aK (aD (aj k)) oS.body [B bm,B b8,B dA,B fl,B jQ,B iK,J,J,J,J,J,J,J,J,J,J,J,J] j (cr Q)):aj (k+1) 524 [bm,b8,dA,fl,jQ,iK] j Q:=dn (F:=oS) rfl ⟨rfl,t⟩
theorem aft(t:aK (aD (aj k)) oT.body [B bm,B b8,B dA,B fl,J,J,J,J,J,J,J,J] j (cr Q)):aj (k+1) 529 [bm,b8,dA,fl] j Q:=dn (F:=oT) rfl ⟨rfl,t⟩
theorem afu(t:aK (aD (aj k)) lR.body [B bm,B b8,J,J,J,J] j (cr Q)):aj (k+1) 536 [bm,b8] j Q:=dn (F:=lR) rfl ⟨rfl,t⟩
theorem afv(t:aK (aD (aj k)) oU.body [B bm,J,J,J,J,J,J,J,J,J,J] j (cr Q)):aj (k+1) 543 [bm] j Q:=dn (F:=oU) rfl ⟨rfl,t⟩
theorem afw(t:aK (aD (aj k)) rL.body [B bm,B b8,B dA,B fl,B jQ,J,J,J,J] j (cr Q)):aj (k+1) 550 [bm,b8,dA,fl,jQ] j Q:=dn (F:=rL) rfl ⟨rfl,t⟩
theorem afx(t:aK (aD (aj k)) iy.body [B bm,B b8,B dA,B fl,B jQ,J,J,J,J,J,J,J,J,J,J,J,J,J,J] j (cr Q)):aj (k+1) 555 [bm,b8,dA,fl,jQ] j Q:=dn (F:=iy) rfl ⟨rfl,t⟩
theorem wN(t:aK (aD (aj k)) mD.body [B bm,B b8,B dA,J,J,J,J] j (cr Q)):aj (k+1) 560 [bm,b8,dA] j Q:=dn (F:=mD) rfl ⟨rfl,t⟩
theorem afy(t:aK (aD (aj k)) kC.body [B bm,J,J,J,J,J,J,J,J,J,J,J,J,J,J,J,J,J,J] j (cr Q)):aj (k+1) 565 [bm] j Q:=dn (F:=kC) rfl ⟨rfl,t⟩
end
section
variable{P:em}{j D eL:St}{a b x:Nat}{o ji:O}{Q:V->St->Prop}
theorem aY:(j.set a o) a=B o:=by unfold St.set;rw[aQ rfl]
theorem aC{r:Option O}(h:b≠a)(e:j b=r):(j.set a o) b=r:=by unfold St.set;rw[aL h];exact e
theorem a0(h:j b=B o)(e:j a=J):b≠a:= λ q=>by rw[q,e]at h;cases h
theorem od{l:List V}{d}(h:j a=B (.list l))(e:j b=B (.dict d)):a≠b:= λ q=>by rw[q,e]at h;cases h
theorem kg{l:List V}{d}(h:j a=B (.dict d))(e:j b=B (.list l)):a≠b:= λ q=>by rw[q,e]at h;cases h
theorem sI{l:List V}{ae ag a9}(h:j a=B (.list l))(e:j b=B (.inst ae ag a9)):a≠b:= λ q=>by rw[q,e]at h;cases h
theorem sJ{l:List V}{ae ag a9}(h:j a=B (.inst ae ag a9))(e:j b=B (.list l)):a≠b:= λ q=>by rw[q,e]at h;cases h
theorem lv{d}{ae ag a9}(h:j a=B (.dict d))(e:j b=B (.inst ae ag a9)):a≠b:= λ q=>by rw[q,e]at h;cases h
theorem uJ{d}{ae ag a9}(h:j a=B (.inst ae ag a9))(e:j b=B (.dict d)):a≠b:= λ q=>by rw[q,e]at h;cases h
def aR(bG:Nat->Prop)(j D:St):Prop:= ∀b o,j b=B o-> ¬bG b->D b=B o
def et:Nat->Prop:= λ _=>False
theorem aR.refl{bG}:aR bG j j:= λ _ _ h _=>h
theorem aR.trans{bG}(p:aR bG j D)(q:aR bG D eL):aR bG j eL:= λ b o h m=>q b o (p b o h m) m
theorem aR.mono{bG N:Nat->Prop}(p:aR bG j D)(h: ∀b,bG b->N b):aR N j D:= λ b o e m=>p b o e λ q=>m (h b q)
theorem aR.set{bG:Nat->Prop}(h:bG a):aR bG j (j.set a o):= λ b o e m=>aC (λ q=>m (q▸h)) e
theorem aR.new{bG:Nat->Prop}(h:j a=J):aR bG j (j.set a o):= λ b o e m=>aC (a0 e h) e
theorem aR.none{bG}(p:aR et j D):aR bG j D:=p.mono λ _ q=>q.elim
theorem jy{K:St->Prop}(aW:St->Prop)(h:aW j)(q: ∀D,aW D->K D):K j:=q j h
theorem dm{ae bL a9 n v}(h:j x=B (.inst ae bL a9))(aA:P.jX ae n=G)(ah:a9.lookup n=B v)(q:Q v j):vB P (.ref x) n j Q:=by
 unfold vB;dsimp only;rw[h];exact⟨aA,by rw[ah];exact q⟩
theorem gs{ae bL a9 n v}{K:St->Prop}(h:j x=B (.inst ae bL a9))(aA:P.jX ae n=G)(ah:a9.length<100)(q:K (j.set x (.inst ae bL (hN a9 n v)))):vC P (.ref x) n v j K:=by
 unfold vC;dsimp only;rw[h];exact⟨aA,ah,q⟩
theorem cc{ae bL a9 n f}{K:iv->Prop}(h:j x=B (.inst ae bL a9))(kH:Nat.ble 7 n=G)(ah:a9.lookup n=J)(aG:P.tB ae n=B f)(q:K (.own f x)):b9 (k1 P j (.ref x) n) K:=by
 have aq: ¬(n<7\/(a9.lookup n).isSome=G):= λ e=>e.elim (mc.mpr (bw kH)) λ e=>by rw[ah]at e;cases e
 unfold k1;dsimp only;rw[h];dsimp only;rw[aL aq,aG];exact q
theorem dH{n}{l:List V}{K:iv->Prop}(h:j x=B (.list l))(aq:n<2)(q:K (.list x)):b9 (k1 P j (.ref x) n) K:=by
 unfold k1;dsimp only;rw[h];dsimp only;rw[aQ aq];exact q
theorem sK{d}{K:iv->Prop}(h:j x=B (.dict d))(q:K (.dict x)):b9 (k1 P j (.ref x) 2) K:=by
 unfold k1;dsimp only;rw[h];exact q
theorem oe{l:List V}{v:V}(h:j x=B (.list l))(ah:l.length<ay)(q:Q .none (j.set x (.list (l++ [v])))):mz x 0 [v] j Q:=by
 unfold mz;rw[h];exact⟨ah,q⟩
theorem Nu{l:List V}{v:V}(h:j x=B (.list (l++ [v])))(ah:l.length+1<ay)(q:Q v (j.set x (.list l))):mz x 1 [] j Q:=by
 unfold mz;rw[h];dsimp only;rw[jR,Nv];exact⟨by rw[bK];exact ah,q⟩
theorem A6{d:List (a2×V)}{k u:V}{key:a2}(h:j x=B (.dict d))(ak:k.toKey=B key)(aA:eg d key=G)(q:Q ((dJ d key).getD u) j):rG x [k,u] j Q:=by
 unfold rG;dsimp only;rw[h];dsimp only;rw[ak];exact⟨aA,q⟩
theorem Ha{d:List (a2×V)}{k:V}{key:a2}(h:j x=B (.dict d))(ak:k.toKey=B key)(aA:eg d key=G)(q:Q ((dJ d key).getD .none) j):rG x [k] j Q:=by
 unfold rG;dsimp only;rw[h];dsimp only;rw[ak];exact⟨aA,q⟩
theorem A7{n i:Nat}(h:i<n)(ab:n<=ay):kx n (i:Int)=B i:=by
 unfold kx
 rw[aQ ⟨k6 i,o5.mpr h,(o5.mpr (hB h (ca ab (by decide))))⟩,Ff]
theorem fD{l:List V}{i:Nat}{k:Int}{v:V}{K:V->Prop}(h:j x=B (.list l))(ak:k=i)(bF:l[i]?=B v)(ab:l.length<=ay)(q:K v):b9 (dU j (.ref x) (.int k)) K:=by
 subst ak
 unfold dU;dsimp only;rw[h];dsimp only
 rw[A7 (jl.mp bF).1 ab]
 show b9 (l[i]?) K
 rw[bF];exact q
theorem amG{l:List V}{i:Nat}{k:Int}{v:V}{K:V->Prop}(ak:k=i)(bF:l[i]?=B v)(ab:l.length<=ay)(q:K v):b9 (dU j (.tup l) (.int k)) K:=by
 subst ak
 unfold dU;dsimp only
 rw[A7 (jl.mp bF).1 ab]
 show b9 (l[i]?) K
 rw[bF];exact q
theorem hv{s:List Nat}{i c:Nat}{k:Int}{K:V->Prop}(ak:k=i)(bF:s[i]?=B c)(ab:s.length<=ay)(q:K (.str [c])):b9 (dU j (.str s) (.int k)) K:=by
 subst ak
 unfold dU;dsimp only
 rw[aL (by intro e;have:=k6 i;rw[e]at this;cases this),A7 (jl.mp bF).1 ab]
 show b9 (s[i]?.map _) K
 rw[bF];exact q
theorem pA{d:List (a2×V)}{k v:V}{key:a2}{K:V->Prop}(h:j x=B (.dict d))(ak:k.toKey=B key)(aA:eg d key=G)(bF:dJ d key=B v)(q:K v):b9 (dU j (.ref x) k) K:=by
 unfold dU
 cases k with
 |tup l=>dsimp only;rw[h];dsimp only;rw[ak];show b9 (if eg d key=G then dJ d key else J) K;rw[aQ aA,bF];exact q
 |str l=>dsimp only;rw[h];dsimp only;rw[ak];show b9 (if eg d key=G then dJ d key else J) K;rw[aQ aA,bF];exact q
 |int l=>dsimp only;rw[h];dsimp only;rw[ak];show b9 (if eg d key=G then dJ d key else J) K;rw[aQ aA,bF];exact q
 |_=>cases ak
theorem me{d:List (a2×V)}{k v:V}{key:a2}{K:St->Prop}(h:j x=B (.dict d))(ak:k.toKey=B key)(aA:eg d key=G)(ah:d.length<ay)(q:K (j.set x (.dict (ha d key v)))):b9 (nA j (.ref x) k v) K:=by
 unfold nA;dsimp only;rw[h];dsimp only;rw[ak]
 show b9 (if eg d key=G/\d.length<ay then B _ else J) K
 rw[aQ ⟨aA,ah⟩];exact q
theorem Hb{l:List V}{i:Nat}{k:Int}{v:V}{K:St->Prop}(h:j x=B (.list l))(ak:k=i)(bo:i<l.length)(ab:l.length<=ay)(q:K (j.set x (.list (l.set i v)))):b9 (nA j (.ref x) (.int k) v) K:=by
 subst ak
 unfold nA;dsimp only;rw[h];dsimp only;rw[A7 bo ab];exact q
theorem mf{l:List V}{K:V->Prop}(h:j x=B (.list l))(ab:l.length<=ay)(q:K (.int l.length)):b9 (gV j .len (.ref x)) K:=by
 unfold gV tA;dsimp only;rw[h];dsimp only[qt];rw[aQ ab];exact q
theorem uK{s:List Nat}{K:V->Prop}(ab:s.length<=ay)(q:K (.int s.length)):b9 (gV j .len (.str s)) K:=by
 unfold gV tA;dsimp only[qt];rw[aQ ab];exact q
theorem amH{l:List V}{K:V->Prop}(ab:l.length<=ay)(q:K (.int l.length)):b9 (gV j .len (.tup l)) K:=by
 unfold gV tA;dsimp only[qt];rw[aQ ab];exact q
theorem afz{i:Int}(e:0<=i/\i<55296):gV j .chr (.int i)=B (.str [i.toNat]):=aQ e
theorem wO{i:Int}{c:Nat}{K:V->Prop}(h:i=c)(ap:c<55296)(q:K (.str [c])):b9 (gV j .chr (.int i)) K:=by
 have e:0<=i/\i<55296:=by right
 rw[afz e,h];exact q
theorem Hc{l:List V}{K:V->Prop}(h:j x=B (.list l))(ab:l.length<=ay)(q:K (.tup l)):b9 (gV j .tuple (.ref x)) K:=by
 unfold gV;dsimp only;rw[h];dsimp only;rw[aQ ab];exact q
theorem Hd{l:List V}{K:Bool->Prop}(h:j x=B (.list l))(ab:l.length<=ay)(q:K (!l.isEmpty)):b9 (ky j (.ref x)) K:=by
 unfold ky;dsimp only;rw[h];dsimp only;rw[aQ ab];exact q
theorem in_dict{d:List (a2×V)}{k:V}{key:a2}(h:j x=B (.dict d))(ak:k.toKey=B key)(aA:eg d key=G):kw j k (.ref x)=B (dJ d key).isSome:=by
 unfold kw;dsimp only;rw[h];dsimp only;rw[ak];exact aQ aA
theorem og{d:List (a2×V)}{k:V}{key:a2}{K:Bool->Prop}(h:j x=B (.dict d))(ak:k.toKey=B key)(aA:eg d key=G)(q:K (dJ d key).isSome):b9 (fu j .isin k (.ref x)) K:=by
 show b9 (kw j k (.ref x)) K
 rw[in_dict h ak aA];exact q
theorem wP{d:List (a2×V)}{k:V}{key:a2}{K:Bool->Prop}(h:j x=B (.dict d))(ak:k.toKey=B key)(aA:eg d key=G)(q:K (!(dJ d key).isSome)):b9 (fu j .p6 k (.ref x)) K:=by
 show b9 ((kw j k (.ref x)).map _) K
 rw[in_dict h ak aA];exact q
theorem wQ{l:List V}{K:fG->Prop}(h:j x=B (.list l))(q:K ⟨l,λ D=>D x=B (.list l)⟩):b9 (mA j (.ref x)) K:=by
 unfold mA;dsimp only;rw[h];exact q
theorem Nw{l:List V}{K:fG->Prop}(h:j x=B (.list l))(q:K ⟨l.reverse,λ D=>D x=B (.list l)⟩):b9 (vz j (.ref x)) K:=by
 unfold vz;dsimp only;rw[h];exact q
theorem afA{l:List V}{neg:Bool}(h:j x=B (.list l))(q:Q (.bool (l.isEmpty !=neg)) j):x0 neg (.ref x) j Q:=by
 unfold x0;dsimp only;rw[h];exact q
theorem Nx{m n:Int}(Y:m.natAbs<2^40)(Z:n.natAbs<2^40)(q:Q (.int (m*n)) j):lP .mul (.int m) (.int n) j Q:=by
 show b9 (if m.natAbs<2^40/\n.natAbs<2^40 then B (V.int (m*n))else J) _
 rw[aQ ⟨Y,Z⟩];exact q
theorem He{m n:Int}(h: ¬(n=0\/2^100<=n.natAbs))(q:Q (.int (m.fdiv n)) j):lP .fdiv (.int m) (.int n) j Q:=by
 show b9 (if n=0\/2^100<=n.natAbs then J else B (V.int (m.fdiv n))) _
 rw[aL h];exact q
theorem qQ{m n:Int}(h: ¬(n=0\/2^200<=n.natAbs))(q:Q (.int (m.fmod n)) j):lP .mod (.int m) (.int n) j Q:=by
 show b9 (if n=0\/2^200<=n.natAbs then J else B (V.int (m.fmod n))) _
 rw[aL h];exact q
theorem A8{n:Int}(h:0<=n/\n<=40)(q:Q (.int (10^n.toNat)) j):lP .pow (.int 10) (.int n) j Q:=by
 show b9 (if(10:Int)=10/\0<=n/\n<=40 then B (V.int (10^n.toNat))else J) _
 rw[aQ ⟨rfl,h⟩];exact q
theorem ik{s t:List Nat}(h:s.length+t.length<=ay)(q:Q (.str (s++t)) j):lP .add (.str s) (.str t) j Q:=by
 show b9 (if s.length+t.length<=ay then B (V.str (s++t))else J) _
 rw[aQ h];exact q
theorem Hf{y:Nat}{l m:List V}(h:j x=B (.list l))(h':j y=B (.list m))(ah:l.length+m.length<=ay)(q: ∀c,j c=J->Q (.ref c) (j.set c (.list (l++m)))):lP .add (.ref x) (.ref y) j Q:=by
 unfold lP;dsimp only;rw[h,h'];exact⟨ah,q⟩
theorem kh{i aU:Nat}{u v:V}{E:ax}{K:ax->St->Prop}(h:K ((E.set i (B u)).set aU (B v)) j):nG P (.tup [i,aU]) (.tup [u,v]) E j K:=⟨rfl,h⟩
theorem sL{i aU l:Nat}{u v w:V}{E:ax}{K:ax->St->Prop}(h:K (((E.set i (B u)).set aU (B v)).set l (B w)) j):nG P (.tup [i,aU,l]) (.tup [u,v,w]) E j K:=⟨rfl,h⟩
theorem A9{i aU l m:Nat}{u v w z:V}{E:ax}{K:ax->St->Prop}(h:K ((((E.set i (B u)).set aU (B v)).set l (B w)).set m (B z)) j):nG P (.tup [i,aU,l,m]) (.tup [u,v,w,z]) E j K:=⟨rfl,h⟩
theorem iL{p:Prop}[Decidable p]{K:bM->ax->St->Prop}{c d:dz}{E:ax}(Y:p->c E j K)(Z: ¬p->d E j K):lW c d E K (decide p) j:=by
 by_cases h:p
 .rw[ce h];exact Y h
 .rw[bW h];exact Z h
theorem pB{t:Bool}{K:bM->ax->St->Prop}{c d:dz}{E:ax}(Y:t=G->c E j K)(Z:t=U->d E j K):lW c d E K t j:=by
 cases t
 .exact Z rfl
 .exact Y rfl
end
section
variable{P:em}{k:Nat}{j:St}{Q:V->St->Prop}
theorem Hg{z:Int}:(if z<0 then -z else z)=(z.natAbs:Int):=by
 split
 .rename_i h;exact(afB (Ny h)).symm
 .rename_i h;exact(afC (rX.mp h)).symm
theorem wR{b:b6}{E:ax}{v:V}{t:Bool}(Y:t=G->b E j Q)(Z:t=U->Q v j):rO b E v j Q t:=by
 cases t
 .exact Z rfl
 .exact Y rfl
theorem pC{b:b6}{E:ax}{v:V}{t:Bool}(Y:t=G->Q v j)(Z:t=U->b E j Q):rP b E v j Q t:=by
 cases t
 .exact Z rfl
 .exact Y rfl
theorem m7{m n:Nat}:decide ((m:Int)<=n)=decide (m<=n):=decide_eq_decide.mpr v3
theorem iM{m n:Nat}:decide ((m:Int)<n)=decide (m<n):=decide_eq_decide.mpr o5
theorem qR{m n:Nat}:decide ((m:Int)=n)=decide (m=n):=decide_eq_decide.mpr pD
theorem Hh(lo bo:Nat){c:Nat}(q:Q (.bool (decide (lo<=c)&&decide (c<=bo))) j):aK P (.cons (.ret (.and (.cmp .le (.ea (.int lo)) (.loc 0)) (.cmp .le (.loc 0) (.ea (.int bo))))) .nil) [B (.int c)] j (cr Q):=by
 left
 rw[m7]
 refine wR (λ h=>?_) (λ h=>?_)
 .left
  rw[h,sM]at q
  rw[m7];exact q
 .left
  rw[h,My]at q
  rw[h];exact q
theorem Nz{c:Nat}(q:Q (.bool (isDigit c)) j):aj (k+1) 140 [.int (c:Int)] j Q:=aeM (Hh 48 57 q)
theorem NA{c:Nat}(q:Q (.bool (iH c)) j):aj (k+1) 147 [.int (c:Int)] j Q:=aeN (Hh 97 122 q)
theorem afD{c:Nat}(q:Q (.bool (n6 c)) j):aj (k+1) 154 [.int (c:Int)] j Q:=aeO (Hh 65 90 q)
theorem NB{c:Nat}(q:Q (.bool (eJ c)) j):aj (k+2) 161 [.int (c:Int)] j Q:=by
 refine aeP ?_;left
 refine NA ?_;left
 unfold eJ at q
 refine pC (λ h=>by rw[h]at q ⊢;exact q) (λ h=>?_);left
 refine afD ?_;left
 rw[h]at q
 refine pC (λ h=>by rw[h]at q ⊢;exact q) (λ h=>?_);left
 refine Nz ?_;left
 rw[h]at q
 refine pC (λ h=>by rw[h]at q ⊢;exact q) (λ h=>?_);left
 rw[h]at q
 rw[show decide ((c:Int)=95)=decide (c=95)from qR (n:=95)];exact q
theorem Hi{c:Nat}(q:Q (.bool (fg c)) j):aj (k+1) 168 [.int (c:Int)] j Q:=by
 refine aeQ ?_;left
 rw[show decide ((0:Int)<=c)=G from ce (k6 c)];left
 rw[show decide ((c:Int)<128)=decide (c<128)from iM (n:=128)]
 unfold fg at q
 refine wR (λ h=>?_) (λ h=>by rw[h]at q ⊢;exact q)
 rw[h]at q
 left
 have ap:c<55296:=by have:=of_decide_eq_true h;right
 with_reducible refine wO rfl ap ?_
 left
 exact q
theorem NC{f:Nat->Bool}{b:dz}{E:ax}{K:bM->ax->St->Prop}(h: ∀(c:Nat) (K:bM->ax->St->Prop),(f c=G->K .next (E.set 1 (B (.str [c]))) j)->(f c=U->K (.ret (.bool U)) (E.set 1 (B (.str [c]))) j)->b (E.set 1 (B (.str [c]))) j K): ∀(s:ai) (v:Option V),(s.all f=G-> ∀v,K .next (E.set 1 v) j)->(s.all f=U-> ∀v,K (.ret (.bool U)) (E.set 1 v) j)->hz 1 b (λ _=>True) (s.map λ c=> .str [c]) (E.set 1 v) j K:=by
 intro b0;induction b0 with
 |nil=>
  intro v Y Z
  exact⟨trivial,Y rfl v⟩
 |cons c s aB=>
  intro v Y Z
  rw[h5,kE,List.set_set]
  refine⟨trivial,h c _ (λ e=>?_) (λ e=>?_)⟩
  .exact aB _ (λ q=>Y (by rw[jv,e,q];rfl)) (λ q=>Z (by rw[jv,e,q];rfl))
  .exact Z (by rw[jv,e];rfl) _
theorem afE{s:ai}(ab:s.length<=ay)(q:Q (.bool (n7 s)) j):aj (k+3) 182 [.str s] j Q:=by
 refine aeS ?_;left
 cases s with
 |nil=>left;exact q
 |cons c s=>
  rw[show decide (c::s=[])=U from rfl];left
  refine hv (i:=0) rfl rfl ab ?_;left
  refine NA ?_;left
  unfold n7 at q
  dsimp only at q
  refine pB (λ h=>?_) (λ h=>?_)
  .rw[r1]at h
   rw[h]at q
   left;exact q
  .rw[Bool.not_eq_false']at h
   rw[h,sM]at q
   left
   refine NC (f:=eJ) (E:=[B (.str (c::s)),J]) (λ c K Y Z=>?_) (c::s) J (λ h v=>?_) (λ h v=>?_)
   .left
    refine NB ?_;left
    cases h:eJ c
    .left;exact Z h
    .left;exact Y h
   .rw[h]at q;exact q
   .rw[h]at q;exact q
theorem ND{s:ai}(q:Q (.bool (uA s)) j):aj (k+2) 189 [.str s] j Q:=by
 refine aeT ?_;left
 cases s with
 |nil=>left;exact q
 |cons c s=>
  rw[show decide (c::s=[])=U from rfl];left
  refine NC (f:=fg) (E:=[B (.str (c::s)),J]) (λ c K Y Z=>?_) (c::s) J (λ h v=>?_) (λ h v=>?_)
  .left
   refine Hi ?_;left
   cases h:fg c
   .left;exact Z h
   .left;exact Y h
  .have e:uA (c::s)=G:=h
   rw[e]at q;exact q
  .have e:uA (c::s)=U:=h
   rw[e]at q;exact q
theorem afF{a b c d s:ai}:(decide (a=s)||(decide (b=s)||(decide (c=s)||(decide (d=s)||false))))=decide (s∈ [a,b,c,d]):=by
 rw[v4]
 simp only[jr,decide_eq_true_eq,eV,Hj,or_false,zt,@eq_comm _ s]
theorem afG{s:ai}(ab:s.length<=ay)(q:Q (.bool (g4 s)) j):aj (k+4) 196 [.str s] j Q:=by
 refine aeU ?_;left
 rw[show fu j .isin (.str s) (.tup [.str [91,93], .str [123,125], .str [33], .str [59]])=B (decide (s∈([[91,93],[123,125],[33],[59]]:List ai)))from(congrArg B afF)]
 left
 unfold g4 at q
 refine iL (λ h=>?_) (λ h=>?_)
 .rw[ce h]at q;left;exact q
 rw[bW h]at q
 left
 refine afE ab ?_;left
 refine pB (λ h=>?_) (λ h=>?_)
 .rw[h]at q;left;exact q
 rw[h]at q;left
 refine ND ?_;left
 refine wR (λ h=>?_) (λ h=>by rw[h]at q ⊢;exact q)
 rw[h]at q;left
 refine wR (λ h=>?_) (λ h=>?_)
 .have h':decide (s≠ [46])=G:=by simpa using h
  rw[h']at q;left;exact q
 .have h':decide (s≠ [46])=U:=by simpa using h
  rw[h']at q;rw[h];exact q
end
section
variable{P:em}{k:Nat}{j:St}{Q:V->St->Prop}
theorem strs_map: ∀l:List ai,iu (l.map V.str)=B l
 | []=>rfl
 |s::l=>by show(iu (l.map V.str)).map (s:: ·)=_;rw[strs_map l];rfl
theorem NE{x:Nat}{l:List ai}{K:V->Prop}(h:j x=B (.list (l.map .str)))(ah:l.length<=ay)(bb:l.flatten.length<=ay)(q:K (.str l.flatten)):b9 (rF j U (.str []) (.ref x)) K:=by
 unfold rF;dsimp only;rw[h];dsimp only;rw[strs_map];dsimp only[qt];rw[aQ (show(if U=G then l.reverse else l).flatten.length<=ay/\(l.map V.str).length<=ay from⟨bb,by rw[c2];exact ah⟩)];exact q
theorem NF{x:Nat}{l:List ai}{K:V->Prop}(h:j x=B (.list (l.map .str)))(ah:l.length<=ay)(bb:l.reverse.flatten.length<=ay)(q:K (.str l.reverse.flatten)):b9 (rF j G (.str []) (.ref x)) K:=by
 unfold rF;dsimp only;rw[h];dsimp only;rw[strs_map];dsimp only[qt];rw[aQ (show(if G=G then l.reverse else l).flatten.length<=ay/\(l.map V.str).length<=ay from⟨bb,by rw[c2];exact ah⟩)];exact q
theorem qS{x:Nat}{l:List ai}{s:ai}(h:j x=B (.list (l.map .str)))(ah:l.length<ay)(q:Q .none (j.set x (.list ((l++ [s]).map .str)))):mz x 0 [.str s] j Q:=
 oe h (by rw[c2];exact ah) (by rw[fO]at q;exact q)
theorem wS(m n:Nat):(m:Int).fdiv n=(m/n:Nat):=by rw[Int.fdiv_eq_ediv_of_nonneg _ (k6 n)];rfl
theorem qT(m n:Nat):(m:Int).fmod n=(m%n:Nat):=by rw[Int.fmod_eq_emod_of_nonneg _ (k6 n)];rfl
theorem afH{m n:Nat}(aq:n≠0)(ab:n<2^100)(q:Q (.tup [.int (m/n:Nat), .int (m%n:Nat)]) j):CH (.int m) (.int n) j Q:=by
 refine⟨λ e=>aq (afI.mp e),ab,?_⟩
 rw[wS,qT];exact q
theorem amI(n:Nat):tz n=cY n:=rfl
theorem wT{i:Int}{n:Nat}{K:V->Prop}(h:i=n)(aq:n<2^1000)(q:K (.str (cY n))):b9 (gV j .str (.int i)) K:=by
 have e:0<=i/\i.natAbs<2^1000:=⟨h▸k6 n,by rw[h];exact aq⟩
 have:gV j .str (.int i)=B (.str (tz i.toNat)):=aQ e
 rw[this,h];exact q
theorem afJ{c:ST}{b:dz}{y C:Nat}{z:V}{K:bM->ax->St->Prop}{Ba:Nat->ai}(Bb:0<C)(afK: ∀q r,0<q->r<C->cY (q*C+r)=cY q++Ba r)
  (body: ∀(r:Nat) (ps:List ai) (j:St) (w:Option V) (n:Nat) (K:bM->ax->St->Prop),j y=B (.list (ps.map .str))->r<2^1000->ps.length<100->
   (r<C->K .next [B z,B (.int r),B (.ref y),w] j)->
   (C<=r-> ∀w,ep c b n [B z,B (.int (r/C:Nat)),B (.ref y),w] (j.set y (.list ((ps++ [Ba (r%C)]).map .str))) K)->
   ep c b (n+1) [B z,B (.int r),B (.ref y),w] j K): ∀(m r:Nat) (ps:List ai) (j:St) (w:Option V),j y=B (.list (ps.map .str))->r<2^1000->r<C^(m+1)->ps.length+m<100->
   (∀(cj:Nat) (m8:List ai) (D:St) (w:Option V),D y=B (.list (m8.map .str))->(∀a,a≠y->D a=j a)->cj<C->m8.length<100->cY cj++m8.reverse.flatten=cY r++ps.reverse.flatten->K .next [B z,B (.int (cj:Nat)),B (.ref y),w] D)->
   ep c b (m+1) [B z,B (.int r),B (.ref y),w] j K:=by
 intro b0;induction b0 with
 |zero=>
  intro r ps j w h aO aG aT q
  exact body r ps j w 0 K h aO (dP (gc _ _) aT) (λ Y=>q r ps j w h (λ _ _=>rfl) Y aT rfl) λ Y w=>absurd aG (by rw[Nat.pow_one];exact mc.mpr Y)
 |succ m aB=>
  intro r ps j w h aO aG aT q
  have lw:ps.length<100:=dP (gc _ _) aT
  refine body r ps j w (m+1) K h aO lw (λ Y=>q r ps j w h (λ _ _=>rfl) Y lw rfl) (λ Y w=>?_)
  refine aB _ _ _ w aY (dP (Bc _ _) aO) (G1 (by rw[A0];exact aG)) (by rw[bK,adV];exact aT) (λ cj m8 D w hj Z aE bv cw=>q cj m8 D w hj (λ a aI=>(Z a aI).trans (aC aI rfl)) aE bv ?_)
  rw[cw,Hk,Bd, <-cM]
  show cY _++(Ba (r%C)++ [])++_=_
  rw[dV, <-afK _ _ (Nat.div_pos Y Bb) (pw _ Bb),A0,Nat.div_add_mod]
noncomputable def sN:Nat:=10^18
theorem NG:(10:Int)^(18:Int).toNat=(sN:Int):=by decide+kernel
theorem Hl:0<sN:=by decide+kernel
theorem NH{z:Int}(bb:z.natAbs<10^60)(q: ∀D,aR et j D->Q (.str (hU z)) D):aj (k+1) 175 [.int z] j Q:=by
 have afL:z.natAbs<2^1000:=hB bb (by decide+kernel)
 have afM:z.natAbs<sN^(3+1):=hB bb (by decide+kernel)
 have wU:gV j .abs (.int z)=B (.int (z.natAbs:Int)):=congrArg (λ i=>B (V.int i)) Hg
 refine aeR ?_;left
 rw[wU];left
 intro y bJ
 refine⟨4,afJ (C:=sN) (Ba:=qO 18) Hl (λ q r co aO=>aem 18 q r co aO) (λ r ps j w n K h aO aT Y Z=>?_) 3 z.natAbs [] _ J aY afL afM (by decide) (λ cj m8 D w Y Z aE bv cw=>?_)⟩
 .rw[j1];left
  refine A8 (by decide) ?_;left
  rw[NG,m7]
  by_cases az:sN<=r
  .rw[ce az];left
   refine A8 (by decide) ?_;left
   rw[NG]
   refine afH (zm Hl) (by decide+kernel) ?_;left
   refine kh ?_;left
   refine dH h (by decide) ?_;left
   have aG:r%sN<10^(17+1):=pw _ Hl
   refine wT rfl (dP (Nat.mod_le _ _) aO) ?_;left
   refine⟨by decide,by decide,ca (px aG (by decide)) (by decide+kernel),M7.1,M7.2,?_⟩
   rw[show(18:Int).toNat=17+1 from rfl,aeo 17 _ aG];left
   refine qS h (h9 aT (by decide+kernel)) ?_;left
   exact Z az _
  .rw[bW az];left
   exact Y (XM az)
 .left
  have jS:m8.length<ay:=h9 bv (by decide+kernel)
  have eW:(m8++ [cY cj]).length<ay:=by rw[bK];exact h9 (afN bv 1) (by decide+kernel)
  have aq:(cY z.natAbs).length<=60:=px bb (by decide)
  have cW:(m8++ [cY cj]).reverse.flatten=cY z.natAbs:=by
   rw[Hk,Bd]
   show(cY cj++ [])++_=_
   rw[dV,cw];exact dV _
  refine dH Y (by decide) ?_;left
  refine wT rfl (h9 aE (show sN<2^1000 by decide+kernel)) ?_;left
  refine qS Y jS ?_;left
  have ex: ∀l,aR et j ((D.set y (.list l))):= λ l b o e _=>by
   have az:b≠y:=a0 e bJ
   exact aC az ((Z b az).trans (aC az e))
  by_cases wV:z<0
  .rw[ce wV];left
   refine dH aY (by decide) ?_;left
   refine qS aY eW ?_;left
   have ao:(m8++ [cY cj]++ [[45]]).reverse.flatten=hU z:=by
    rw[Hk,Bd,cW]
    unfold hU;rw[aQ wV];rfl
   refine NF aY (by rw[bK];exact eW) (by rw[ao];unfold hU;rw[aQ wV];exact ca (jI aq) (by decide+kernel)) ?_
   left
   rw[ao]
   refine q _ λ b o e m=>?_
   have az:b≠y:=a0 e bJ
   exact aC az (ex _ b o e m)
  .rw[bW wV];left
   have ao:(m8++ [cY cj]).reverse.flatten=hU z:=by
    rw[cW];unfold hU;rw[aL wV]
   refine NF aY (k5 eW) (by rw[cW];exact ca aq (by decide+kernel)) ?_
   left
   rw[ao]
   exact q _ (ex _)
end
noncomputable def sO(p:Int)(t:ai):Int×Int:=
 if t=[102,120]then(0,p - 1)else if t=[102,121]then(0,p)else if t=[120,102]then(p - 1,0)else if t=[121,102]then(p,0)
 else if t=[120,102,121]then(p - 1,p)else if t=[121,102,120]then(p,p - 1)else(p - 1,p - 1)
section
variable{P:em}{k:Nat}{j:St}{Q:V->St->Prop}
theorem Be{p:Int}{t:ai}(q:Q (.tup [.int (sO p t).1, .int (sO p t).2]) j):aj (k+1) 220 [.int p, .str t] j Q:=by
 refine aeW ?_;left
 unfold sO at q
 refine iL (λ h=>?_) (λ h=>?_)
 .rw[aQ h]at q;left;exact q
 rw[aL h]at q;left
 refine iL (λ h=>?_) (λ h=>?_)
 .rw[aQ h]at q;left;exact q
 rw[aL h]at q;left
 refine iL (λ h=>?_) (λ h=>?_)
 .rw[aQ h]at q;left;exact q
 rw[aL h]at q;left
 refine iL (λ h=>?_) (λ h=>?_)
 .rw[aQ h]at q;left;exact q
 rw[aL h]at q;left
 refine iL (λ h=>?_) (λ h=>?_)
 .rw[aQ h]at q;left;exact q
 rw[aL h]at q;left
 refine iL (λ h=>?_) (λ h=>?_)
 .rw[aQ h]at q;left;exact q
 rw[aL h]at q;left;exact q
theorem Hm{s:ai}(q:Q (.bool (n8 s)) j):aj (k+3) 334 [.str s] j Q:=by
 refine ae7 ?_;left
 unfold n8 at q;rw[NI]at q
 refine pC (λ h=>by rw[h]at q ⊢;exact q) (λ h=>?_);left
 rw[h]at q
 refine pC (λ h=>by rw[h]at q ⊢;exact q) (λ h=>?_);left
 rw[h]at q
 exact ND q
theorem NJ{c:Nat}(q:Q (.bool (kO c)) j):aj (k+3) 327 [.str [c]] j Q:=by
 refine ae6 ?_;left
 refine NB ?_;left
 unfold kO at q
 refine pC (λ h=>by rw[h]at q ⊢;exact q) (λ h=>?_);left
 rw[h]at q
 rw[show decide ((128:Int)<=c)=decide (128<=c)from m7 (m:=128)];exact q
theorem afO(c:Nat):(fB c).length<=5:=by
 unfold fB;repeat (split; · exact bw rfl)
 exact bw rfl
theorem Hn{l:ai}{i:Nat}(h:i<l.length):l[i]?=B (l.getD i 0):=by
 rw[E6,hi h];rfl
theorem cA{n:Nat}(h:n<=1000):n<=ay:=ca h (by decide+kernel)
theorem afP{c:Nat}(ap:c<128)(q:Q (.str (fB c)) j):aj (k+1) 298 [.int (c:Int)] j Q:=by
 have ki:c<55296:=h9 ap (by decide+kernel)
 refine ae2 ?_;left
 unfold fB at q
 rw[show decide ((c:Int)=39)=decide (c=39)from qR (n:=39)]
 by_cases Y:c=39
 .rw[ce Y];left
  rw[aQ (.inl Y)]at q
  with_reducible refine wO rfl ki ?_
  left
  exact ik (cA (bw rfl)) q
 rw[bW Y];left
 rw[show decide ((c:Int)=92)=decide (c=92)from qR (n:=92)]
 by_cases Z:c=92
 .rw[ce Z];left
  rw[aQ (.inr Z)]at q
  with_reducible refine wO rfl ki ?_
  left
  exact ik (cA (bw rfl)) q
 rw[bW Z];left
 rw[aL (λ e=>e.elim Y Z)]at q
 rw[show decide ((7:Int)<=c)=decide (7<=c)from m7 (m:=7)]
 have low: ¬(7<=c/\c<=13)->d9 (aK (aD (aj k)) (match tI.body with| .cons _ (.cons _ r)=>r|_=> .nil)) (cr Q) .next [B (.int c),J] j:= λ aE=>by
  rw[aL aE]at q
  left
  rw[show decide ((c:Int)<32)=decide (c<32)from iM (n:=32)]
  have hex: ∀(E:ax),c<32\/c=127->aK (aD (aj k)) (match tI.body with| .cons _ (.cons _ (.cons (.c4 _ r _) _))=>r|_=> .nil) [B (.int c),J] j (d9 (aK (aD (aj k)) (.cons (.ret (.cq .chr (.loc 0))) .nil)) (cr Q)):= λ E bv=>by
   rw[aQ bv]at q
   have hd:c/16<AU.length:=G1 (hB ap (bw rfl))
   have aG:c%16<AU.length:=pw _ (hC 15)
   left
   refine He (by decide) ?_;left
   rw[show(c:Int).fdiv 16=(c/16:Nat)from wS c 16]
   refine hv rfl (Hn hd) (cA (by decide)) ?_;left
   refine ik (cA (bw rfl)) ?_;left
   refine qQ (by decide) ?_;left
   rw[show(c:Int).fmod 16=(c%16:Nat)from qT c 16]
   refine hv rfl (Hn aG) (cA (by decide)) ?_;left
   refine ik (cA (bw rfl)) ?_;left
   exact ik (cA (bw rfl)) q
  by_cases bv:c<32
  .rw[ce bv];left;exact hex [] (.inl bv)
  rw[bW bv];left
  rw[show decide ((c:Int)=127)=decide (c=127)from qR (n:=127)]
  by_cases cw:c=127
  .rw[ce cw];left;exact hex [] (.inr cw)
  rw[bW cw];left
  rw[aL (λ e=>e.elim bv cw)]at q
  with_reducible refine wO rfl ki ?_
  left;exact q
 by_cases aE:7<=c
 .rw[ce aE];left
  rw[show decide ((c:Int)<=13)=decide (c<=13)from m7 (n:=13)]
  by_cases bv:c<=13
  .rw[ce bv];left
   rw[aQ ⟨aE,bv⟩]at q
   have hd:c - 7<([97,98,116,110,118,102,114]:ai).length:=by show _<7;omega
   refine hv (i:=c - 7) (by omega) (Hn hd) (cA (by decide)) ?_;left
   exact ik (cA (bw rfl)) q
  .rw[bW bv];left;exact low λ e=>bv e.2
 .rw[bW aE];left;exact low λ e=>aE e.1
theorem afQ{b:dz}{x:Nat}{z:V}{K:bM->ax->St->Prop}(body: ∀(c:Nat) (l:List ai) (j:St) (K:bM->ax->St->Prop),c<128->j x=B (.list (l.map .str))->l.length<200->K .next [B z,B (.ref x),B (.str [c])] (j.set x (.list ((l++ [fB c]).map .str)))->b [B z,B (.ref x),B (.str [c])] j K): ∀(s:ai) (l:List ai) (j:St) (v:Option V),(∀c∈s,c<128)->j x=B (.list (l.map .str))->l.length+s.length<200->
  (∀D v,D x=B (.list ((l++s.map fB).map .str))->(∀a,a≠x->D a=j a)->K .next [B z,B (.ref x),v] D)->hz 2 b (λ _=>True) (s.map λ c=> .str [c]) [B z,B (.ref x),v] j K:=by
 intro b0;induction b0 with
 |nil=>
  intro l j v ab h ah q
  exact⟨trivial,q j v (by rw[qU,dV];exact h) λ _ _=>rfl⟩
 |cons c s aB=>
  intro l j v ab h ah q
  rw[h5,kE]
  refine⟨trivial,body c l j _ (ab c (eT ..)) h (dP (gc _ _) ah) ?_⟩
  refine aB (l++ [fB c]) _ _ (λ d hd=>ab d (f0 _ hd)) aY (by rw[bK,Ho,pl,hS 1];exact ah) λ D v Y Z=>q D v (by rw[Y,h5,cM];rfl) λ a aI=>(Z a aI).trans (aC aI rfl)
theorem afR: ∀s:ai,(s.map fB).flatten=s.flatMap fB:= λ s=>rfl
theorem NK: ∀s:ai,(s.flatMap fB).length<=5*s.length
 | []=>eh _
 |c::s=>by
  rw[wW,bK,el,afS,hS]
  exact No (NK s) (afO c)
theorem afT{s:ai}(ab: ∀c∈s,c<128)(ah:s.length<=100)(q: ∀D,aR et j D->Q (.str (uB s)) D):aj (k+2) 305 [.str s] j Q:=by
 refine ae3 ?_;left
 intro x aJ
 refine afQ (x:=x) (z:= .str s) (λ c l j K ap h ah q=>?_) s [[39]] _ J ab aY (by show 1+s.length<200;right) (λ D v Y Z=>?_)
 .left
  refine dH h (by decide) ?_;left
  refine afP ap ?_;left
  exact qS h (h9 ah (by decide+kernel)) q
 .left
  refine dH Y (by decide) ?_;left
  refine qS Y (by rw[bK,c2];exact dP (nM ah 1) (by decide+kernel)) ?_;left
  have e:([[39]]++s.map fB++ [[39]]).flatten=uB s:=by
   rw[Bd,Bd,afR];rfl
  refine NE aY (by rw[bK,bK,c2];exact cA (by show 1+s.length+1<=_;right)) (by rw[e];refine cA ?_;unfold uB;rw[el,bK];have:=NK s;show(s.flatMap fB).length+1+1<=_;right) ?_
  left
  rw[e]
  exact q _ λ b o e m=>by
   have az:b≠x:=a0 e aJ
   exact aC az ((Z b az).trans (aC az e))
theorem afU{n:Nat}(aq:n<10^60)(q: ∀D,aR et j D->Q (.str (ii n)) D):aj (k+2) 320 [.int (n:Int)] j Q:=by
 refine ae5 ?_;left
 refine qQ (by decide) ?_;left
 rw[show(n:Int).fmod 26=(n%26:Nat)from qT n 26]
 have ap:65+n%26<55296:=by right
 with_reducible refine wO (c:=65+n%26) (Int.natCast_add 65 _).symm ap ?_
 left
 rw[show decide ((n:Int)<26)=decide (n<26)from iM (n:=26)]
 unfold ii at q
 by_cases h:n<26
 .rw[ce h];left
  rw[aQ h]at q;exact q _ aR.refl
 .rw[bW h];left
  rw[aL h]at q
  refine He (by decide) ?_;left
  rw[show(n:Int).fdiv 26=(n/26:Nat)from wS n 26]
  have NL:n/26<10^60:=dP (Bc _ _) aq
  refine NH (z:=(n/26:Nat)) NL λ D e=>?_
  left
  have ao:hU (n/26:Nat)=cY (n/26):=aL (rX.mpr (k6 _))
  rw[ao]
  exact ik (cA (by have:=px NL (by decide);show 1+(cY (n/26)).length<=_;right)) (q _ e)
end
def bP(bG:Nat->Prop)(j D:St):Prop:= ∀b, ¬bG b->D b=j b
theorem bP.ex{bG:Nat->Prop}{j D:St}(h:bP bG j D):aR bG j D:= λ b o e m=>(h b m).trans e
theorem bP.refl{bG:Nat->Prop}{j:St}:bP bG j j:= λ _ _=>rfl
theorem bP.trans{bG:Nat->Prop}{j D eL:St}(h:bP bG j D)(g:bP bG D eL):bP bG j eL:= λ b m=>(g b m).trans (h b m)
theorem bP.set{bG:Nat->Prop}{j:St}{a:Nat}{o:O}(h:bG a):bP bG j (j.set a o):= λ b m=>aC (λ q=>m (q▸h)) rfl
structure cJ where
 x:Nat
 bL:Nat
 t:Nat
 d:Nat
 f:Nat
 g:Nat
def cJ.mut(A:cJ):Nat->Prop:= λ b=>b=A.t\/b=A.d\/b=A.f\/b=A.g
noncomputable def oh(p:Nat×Nat):V:= .tup [.int (p.1:Int), .int (p.2:Int)]
noncomputable def m9(p:Nat×Nat):a2:= .p (p.1:Int) (p.2:Int)
theorem NM(a b:Nat×Nat)(h:m9 a=m9 b):a=b:=by
 unfold m9 at h
 injection h with Y Z
 exact Prod.ext (pD.mp Y) (pD.mp Z)
theorem Bf(a b:ai)(h:a2.s a=a2.s b):a=b:=by injection h
noncomputable def bi.qV(C:bi)(s:ai):bi:=if s∈C.texts then C else⟨C.texts++ [s],C.hn⟩
noncomputable def bi.wX(C:bi)(f:ai)(n:Nat):bi:=if(C.no f,n)∈C.hn then C else⟨C.texts,C.hn++ [(C.no f,n)]⟩
structure c9(A:cJ)(C:bi)(j:St):Prop where
 x:j A.x=B (.inst 122 A.bL [(7, .ref A.t),(8, .ref A.d),(9, .ref A.f),(10, .ref A.g)])
 t:j A.t=B (.list (C.texts.map .str))
 d:j A.d=B (.dict (i6 a2.s 0 C.texts))
 f:j A.f=B (.list (C.hn.map oh))
 g:j A.g=B (.dict (i6 m9 0 C.hn))
 oi:A.t≠A.f
 pE:A.d≠A.g
 ok:C.Ok
theorem c9.keep{A:cJ}{C:bi}{j D:St}{bG:Nat->Prop}(h:c9 A C j)(e:aR bG j D)(m: ¬bG A.x/\ ¬bG A.t/\ ¬bG A.d/\ ¬bG A.f/\ ¬bG A.g):c9 A C D:=
 ⟨e _ _ h.x m.1,e _ _ h.t m.2.1,e _ _ h.d m.2.2.1,e _ _ h.f m.2.2.2.1,e _ _ h.g m.2.2.2.2,h.oi,h.pE,h.ok⟩
theorem c9.none{A:cJ}{C:bi}{j D:St}(h:c9 A C j)(e:aR et j D):c9 A C D:=h.keep e ⟨id,id,id,id,id⟩
theorem NN{n:Nat}{s:ai}: ∀{l:List ai},eg (i6 a2.s n l) (.s s)=G
 | []=>rfl
 |_::_=>rfl
theorem NO{n:Nat}{p:Nat×Nat}: ∀{l:List (Nat×Nat)},eg (i6 m9 n l) (m9 p)=G
 | []=>rfl
 |_::_=>rfl
theorem Bg{α:Type}{a:α}: [a].Nodup:=Ge.mpr ⟨Hj,nJ⟩
section
variable{P:em}{k:Nat}{j:St}{Q:V->St->Prop}{A:cJ}{C:bi}
theorem Hp{s:ai}(h:c9 A C j)(bE:s∈di)(q: ∀aw D,aw=C.qV s->C.le aw->c9 A aw D->s∈aw.texts->bP A.mut j D->Q (.int (aw.no s:Int)) D):aj (k+1) 56 [.ref A.x, .str s] j Q:=by
 refine aeF ?_;left
 refine dm h.x rfl rfl ?_;left
 refine sK h.d ?_;left
 refine A6 h.d rfl NN ?_
 by_cases aG:s∈C.texts
 .rw[G0 Bf aG,afV,mN];left
  rw[ce (k6 _)];left
  exact q C j (aQ aG).symm .refl h aG .refl
 .have hd:=GZ (n:=0) Bf aG
  rw[hd,KX];left
  have ah:=h.ok.len
  refine dm h.x rfl rfl ?_;left
  refine mf h.t (by rw[c2];exact cA (by right)) ?_;left
  refine dm h.x rfl rfl ?_;left
  refine dH h.t (by decide) ?_;left
  refine oe h.t (by rw[c2];exact dP ah (by decide+kernel)) ?_;left
  have mG:A.x≠A.t:=sJ h.x h.t
  have ie:A.d≠A.t:=kg h.d h.t
  refine dm (aC mG h.x) rfl rfl ?_;left
  refine me (aC ie h.d) rfl NN (by rw[GX];exact dP ah (by decide+kernel)) ?_;left
  rw[sA hd]
  have ao:i6 a2.s 0 C.texts++ [(a2.s s,V.int ((C.texts.map V.str).length:Int))]=i6 a2.s 0 (C.texts++ [s]):=by rw[GY,c2,mN]
  have aH:C.texts.map V.str++ [V.str s]=(C.texts++ [s]).map V.str:=by rw[fO];rfl
  have cG:(C.texts.map V.str).length=(C.texts++ [s]).idxOf s:=by rw[c2,M1,aL aG,M2];exact(mN _).symm
  rw[ao,aH,cG]
  refine q ⟨C.texts++ [s],C.hn⟩ _ (aL aG).symm ⟨⟨[s],rfl⟩,[],(dV _).symm⟩ ?_ (oj _ (ee.mpr rfl)) ((bP.set (.inl rfl)).trans (bP.set (.inr (.inl rfl))))
  refine⟨aC (uJ h.x h.d) (aC mG h.x),aC ie.symm aY,aY,aC (od h.f h.d) (aC h.oi.symm h.f),aC h.pE.symm (aC (kg h.g h.t) h.g),h.oi,h.pE,?_,?_,h.ok.fd,?_⟩
  .refine uL.mpr ⟨h.ok.ie,Bg,λ a aI b az e=>aG ((ee.mp az)▸e▸aI)⟩
  .intro a aI
   rcases iG.mp aI with aI|aI
   .exact h.ok.un a aI
   .exact ee.mp aI▸bE
  .intro p aT
   have:=h.ok.GV p aT
   exact⟨by rw[bK];exact Nat.lt_add_right _ this.1,this.2⟩
theorem uM{s:ai}(h:c9 A C j)(bE:s∈di)(q: ∀aw D,C.le aw->c9 A aw D->s∈aw.texts->bP A.mut j D->Q (.int (aw.no s:Int)) D):aj (k+1) 56 [.ref A.x, .str s] j Q:=
 Hp h bE λ aw D _=>q aw D
theorem afW{s:ai}(h:c9 A C j)(aG:s∈C.texts)(q:Q (.str s) j):aj (k+1) 63 [.ref A.x, .int (C.no s:Int)] j Q:=by
 refine aeG ?_;left
 refine dm h.x rfl rfl ?_;left
 have ah:=h.ok.len
 refine fD h.t rfl (v:= .str s) ?_ (by rw[c2];exact cA (by omega)) ?_
 .have:C.no s<C.texts.length:=uN aG
  rw[jq,hi this]
  exact congrArg (λ p=>B (V.str p)) (wY this)
 .left;exact q
theorem afX{f:ai}{n:Nat}(h:c9 A C j)(aG:f∈C.texts)(aq:n<9)(q: ∀aw D,aw=C.wX f n->C.le aw->c9 A aw D->aw.has f n->bP A.mut j D->Q (.int (aw.fn f n:Int)) D):aj (k+1) 70 [.ref A.x, .int (C.no f:Int), .int (n:Int)] j Q:=by
 refine aeH ?_;left
 refine dm h.x rfl rfl ?_;left
 refine sK h.g ?_;left
 refine A6 (key:=m9 (C.no f,n)) h.g rfl NO ?_
 by_cases gF:(C.no f,n)∈C.hn
 .rw[G0 NM gF,afV,mN];left
  rw[ce (k6 _)];left
  exact q C j (aQ gF).symm .refl h ⟨aG,gF⟩ .refl
 .have hd:=GZ (n:=0) NM gF
  rw[hd,KX];left
  have ah:=h.ok.GW
  refine dm h.x rfl rfl ?_;left
  refine mf h.f (by rw[c2];exact cA (by right)) ?_;left
  refine dm h.x rfl rfl ?_;left
  refine dH h.f (by decide) ?_;left
  refine oe h.f (by rw[c2];exact dP ah (by decide+kernel)) ?_;left
  have mG:A.x≠A.f:=sJ h.x h.f
  have NP:A.g≠A.f:=kg h.g h.f
  refine dm (aC mG h.x) rfl rfl ?_;left
  refine me (key:=m9 (C.no f,n)) (aC NP h.g) rfl NO (by rw[GX];exact dP ah (by decide+kernel)) ?_;left
  rw[sA hd]
  have ao:i6 m9 0 C.hn++ [(m9 (C.no f,n),V.int ((C.hn.map oh).length:Int))]=i6 m9 0 (C.hn++ [(C.no f,n)]):=by rw[GY,c2,mN]
  have aH:C.hn.map oh++ [V.tup [.int (C.no f:Int), .int (n:Int)]]=(C.hn++ [(C.no f,n)]).map oh:=by rw[fO];rfl
  have cG:(C.hn.map oh).length=(C.hn++ [(C.no f,n)]).idxOf (C.no f,n):=by rw[c2,M1,aL gF,M2];exact(mN _).symm
  rw[ao,aH,cG]
  refine q ⟨C.texts,C.hn++ [(C.no f,n)]⟩ _ (aL gF).symm ⟨⟨[],(dV _).symm⟩,_,rfl⟩ ?_ ⟨aG,oj _ (ee.mpr rfl)⟩ ((bP.set (.inr (.inr (.inl rfl)))).trans (bP.set (.inr (.inr (.inr rfl)))))
  refine⟨aC (uJ h.x h.g) (aC mG h.x),aC (od h.t h.g) (aC h.oi h.t),aC h.pE (aC (kg h.d h.f) h.d),aC NP.symm aY,aY,h.oi,h.pE,h.ok.ie,h.ok.un,?_,?_⟩
  .refine uL.mpr ⟨h.ok.fd,Bg,λ a aI b az e=>gF ((ee.mp az)▸e▸aI)⟩
  .intro p aT
   rcases iG.mp aT with aT|aT
   .exact h.ok.GV p aT
   .rw[ee.mp aT];exact⟨uN aG,aq⟩
theorem NQ{f:ai}{n:Nat}(h:c9 A C j)(bE:f∈di)(aq:n<9)(q: ∀aw D,aw=(C.qV f).wX f n->C.le aw->c9 A aw D->aw.has f n->bP A.mut j D->Q (.int (aw.fn f n:Int)) D):aj (k+2) 77 [.ref A.x, .str f, .int (n:Int)] j Q:=by
 refine aeI ?_;left
 refine cc h.x rfl rfl (f:=70) rfl ?_;left
 refine cc h.x rfl rfl (f:=56) rfl ?_;left
 refine Hp h bE λ aw D e l h' m s=>?_;left
 refine afX h' m aq λ kj eL dL cS gX gf s'=>?_;left
 exact q kj eL (e▸dL) (l.trans cS) gX gf (s.trans s')
theorem ol{f:ai}{n:Nat}(h:c9 A C j)(bE:f∈di)(aq:n<9)(q: ∀aw D,C.le aw->c9 A aw D->aw.has f n->bP A.mut j D->Q (.int (aw.fn f n:Int)) D):aj (k+2) 77 [.ref A.x, .str f, .int (n:Int)] j Q:=
 NQ h bE aq λ aw D _=>q aw D
theorem NR{f:ai}{n:Nat}(m:C.has f n):(C.hn.map oh)[C.fn f n]?=B (oh (C.no f,n)):=by
 have:C.fn f n<C.hn.length:=uN m.2
 rw[jq,hi this]
 exact congrArg (λ p=>B (oh p)) (wY this)
theorem sP{f:ai}{n:Nat}(h:c9 A C j)(m:C.has f n)(q:Q (.int (C.no f:Int)) j):aj (k+1) 84 [.ref A.x, .int (C.fn f n:Int)] j Q:=by
 refine aeJ ?_;left
 refine dm h.x rfl rfl ?_;left
 refine fD h.f rfl (NR m) (by rw[c2];exact cA (by have:=h.ok.GW;right)) ?_
 unfold oh;left;exact q
theorem afY{f:ai}{n:Nat}(h:c9 A C j)(m:C.has f n)(q:Q (.int (n:Int)) j):aj (k+1) 91 [.ref A.x, .int (C.fn f n:Int)] j Q:=by
 refine aeK ?_;left
 refine dm h.x rfl rfl ?_;left
 refine fD h.f rfl (NR m) (by rw[c2];exact cA (by have:=h.ok.GW;right)) ?_
 unfold oh;left;exact q
end
noncomputable def Hq:List (ai×Nat):=[([46],2),([44],2),([59],2),([45,62],2),([92,43],1),([58,45],2),([58,45],1),([63,45],1),([45,45,62],2),([123,125],1),([61],2),([94],2),([45],1),([45],2),([43],2),([47],2),([101,114,114,111,114],2),([36,86,65,82],1),([99,97,116,99,104],3),([116,104,114,111,119],1),([33],0),([116,114,117,101],0),([102,97,105,108],0),([102,97,108,115,101],0),([99,97,108,108],1),([99,97,108,108],2),([99,97,108,108],3),([99,97,108,108],4),([99,97,108,108],5),([99,97,108,108],6),([99,97,108,108],7),([99,97,108,108],8)]
noncomputable def eu:bi:=Hq.foldl (λ C p=>(C.qV p.1).wX p.1 p.2) (AV.foldl bi.qV ⟨[],[]⟩)
section
variable{P:em}{k:Nat}{j:St}{Q:V->St->Prop}{A:cJ}{C:bi}
theorem afZ{b:dz}{K:bM->ax->St->Prop}(body: ∀(s:ai) (C:bi) (j:St) (K:bM->ax->St->Prop),c9 A C j->s∈di->(∀D,c9 A (C.qV s) D->bP A.mut j D->K .next [B (.ref A.x),B (.str s),J] D)->b [B (.ref A.x),B (.str s),J] j K): ∀(l:List ai) (C:bi) (j:St) (v:Option V),c9 A C j->(∀s∈l,s∈di)->(∀D v,c9 A (l.foldl bi.qV C) D->bP A.mut j D->K .next [B (.ref A.x),v,J] D)->hz 1 b (λ _=>True) (l.map .str) [B (.ref A.x),v,J] j K:=by
 intro b0;induction b0 with
 |nil=>
  intro C j v h bE q
  exact⟨trivial,q j v h .refl⟩
 |cons s l aB=>
  intro C j v h bE q
  rw[h5,kE]
  refine⟨trivial,body s C j _ h (bE s (eT ..)) λ D h' Hr=>?_⟩
  exact aB _ D _ h' (λ t aN=>bE t (f0 _ aN)) λ eL v gX Hs=>q eL v gX (Hr.trans Hs)
theorem af0{b:dz}{w:Option V}{K:bM->ax->St->Prop}(body: ∀(p:ai×Nat) (C:bi) (j:St) (K:bM->ax->St->Prop),c9 A C j->p.1∈di->p.2<9->(∀D,c9 A ((C.qV p.1).wX p.1 p.2) D->bP A.mut j D->K .next [B (.ref A.x),w,B (.tup [.str p.1, .int (p.2:Int)])] D)->b [B (.ref A.x),w,B (.tup [.str p.1, .int (p.2:Int)])] j K): ∀(l:List (ai×Nat)) (C:bi) (j:St) (v:Option V),c9 A C j->(∀p∈l,p.1∈di/\p.2<9)->(∀D v,c9 A (l.foldl (λ C p=>(C.qV p.1).wX p.1 p.2) C) D->bP A.mut j D->K .next [B (.ref A.x),w,v] D)->hz 2 b (λ _=>True) (l.map λ p=> .tup [.str p.1, .int (p.2:Int)]) [B (.ref A.x),w,v] j K:=by
 intro b0;induction b0 with
 |nil=>
  intro C j v h bE q
  exact⟨trivial,q j v h .refl⟩
 |cons s l aB=>
  intro C j v h bE q
  rw[h5,kE]
  have ab:=bE s (eT ..)
  refine⟨trivial,body s C j _ h ab.1 ab.2 λ D h' Hr=>?_⟩
  exact aB _ D _ h' (λ t aN=>bE t (f0 _ aN)) λ eL v gX Hs=>q eL v gX (Hr.trans Hs)
theorem af1(q:Q (.tup (AV.map .str)) j):aj (k+1) 28 [] j Q:=by
 refine aeC ?_;left
 exact q
theorem af2(q:Q (.tup (Hq.map λ p=> .tup [.str p.1, .int (p.2:Int)])) j):aj (k+1) 35 [] j Q:=by
 refine aeD ?_;left
 exact q
theorem af3(q: ∀A D,j A.x=J->(∀b w,j b=B w-> ¬A.mut b)->c9 A eu D->aR et j D->Q (.ref A.x) D):aj (k+4) 122 [] j Q:=by
 refine Es rfl rfl λ x bL aJ Bh n3=>?_
 refine aeE ?_;left
 intro t aN
 have nb:=a0 aY aN
 refine gs (aC nb aY) rfl (bw rfl) ?_;left
 refine⟨rfl,λ d hd=>?_⟩
 have sQ:=a0 aY hd
 have mO:=a0 (aC nb.symm aY) hd
 left
 refine gs (aC sQ aY) rfl (bw rfl) ?_;left
 intro f aA
 have Bi:=a0 aY aA
 have NS:=a0 (aC sQ.symm aY) aA
 have oi:=a0 (aC nb.symm (aC mO (aC nb.symm aY))) aA
 refine gs (aC Bi aY) rfl (bw rfl) ?_;left
 refine⟨rfl,λ g aM=>?_⟩
 have NT:=a0 aY aM
 have af4:=a0 (aC Bi.symm aY) aM
 have pE:=a0 (aC sQ.symm (aC NS (aC sQ.symm aY))) aM
 have pf:=a0 (aC nb.symm (aC oi (aC nb.symm (aC mO (aC nb.symm aY))))) aM
 left
 refine gs (aC NT aY) rfl (bw rfl) (jy (λ s=>c9 ⟨x,bL,t,d,f,g⟩ ⟨[],[]⟩ s/\ ∀b o,j b=B o->s b=B o/\ ¬cJ.mut ⟨x,bL,t,d,f,g⟩ b) ⟨?_,?_⟩ λ aP Y=>?_)
 .exact ⟨aY,aC nb.symm (aC pf (aC nb.symm (aC oi (aC nb.symm (aC mO (aC nb.symm aY)))))),aC sQ.symm (aC pE (aC sQ.symm (aC NS (aC sQ.symm aY)))),aC Bi.symm (aC af4 (aC Bi.symm aY)),aC NT.symm aY,oi,pE,⟨nJ,nofun,nJ,nofun⟩⟩
 .intro b o e
  have iN:=a0 e aJ
  have cq:((j.set bL (.owned x)).set x (.inst 122 bL [])) b=B o:=aC iN (aC (a0 e Bh) e)
  have dX:=aC (o:= .inst 122 bL (hN [] 7 (.ref t))) iN (aC (o:= .list []) (a0 cq aN) cq)
  have d5:=aC (o:= .inst 122 bL (hN (hN [] 7 (.ref t)) 8 (.ref d))) iN (aC (o:= .dict []) (a0 dX hd) dX)
  have fK:=aC (o:= .inst 122 bL (hN (hN (hN [] 7 (.ref t)) 8 (.ref d)) 9 (.ref f))) iN (aC (o:= .list []) (a0 d5 aA) d5)
  exact⟨aC iN (aC (a0 fK aM) fK),λ q=>q.elim (a0 cq aN) λ q=>q.elim (a0 dX hd) λ q=>q.elim (a0 d5 aA) (a0 fK aM)⟩
 obtain⟨Bb,ex⟩:=Y
 left
 refine af1 ?_;left
 with_reducible refine afZ (A:=⟨x,bL,t,d,f,g⟩) (λ s C j K h bE q=>?_) AV ⟨[],[]⟩ aP _ Bb (λ s ab=>lu _ (lu _ (lu _ ab))) λ bA v Z b2=>?_
 .left
  refine cc h.x rfl rfl (f:=56) rfl ?_;left
  refine Hp h bE λ aw D e l h' m s=>?_;left
  exact q D (e▸h') s
 .left
  refine af2 ?_;left
  with_reducible refine af0 (A:=⟨x,bL,t,d,f,g⟩) (λ p C j K h bE aq q=>?_) Hq _ bA _ Z (by decide+kernel) λ dR v aE eF=>?_
  .left
   refine cc h.x rfl rfl (f:=77) rfl ?_;left
   refine NQ h bE aq λ aw D e l h' m s=>?_;left
   exact q D (e▸h') s
  .left
   refine⟨rfl,q ⟨x,bL,t,d,f,g⟩ dR aJ (λ b o e=>(ex b o e).2) aE ?_⟩
   exact λ b o e _=>(b2.trans eF).ex b o (ex b o e).1 (ex b o e).2
end
theorem uO:eu.no [91,93]=0/\eu.no [45]=3/\eu.no [44]=7/\eu.no [124]=8:=by decide+kernel
theorem qW: [91,93]∈eu.texts/\ [45]∈eu.texts/\ [44]∈eu.texts/\ [124]∈eu.texts:=by decide+kernel
theorem qX:eu.fn [46] 2=0/\eu.fn [123,125] 1=9/\eu.fn [36,86,65,82] 1=17:=by decide+kernel
theorem nc:eu.has [46] 2/\eu.has [123,125] 1/\eu.has [36,86,65,82] 1:=by unfold bi.has;decide+kernel
theorem Ht{C:bi}{s t:ai}(ab:s∈C.texts)(aN:t∈C.texts)(h:C.no s=C.no t):s=t:=by
 have ao:=wY (uN ab)
 have aH:=wY (uN aN)
 rw[<-ao, <-aH]
 exact getElem_congr_idx h
theorem af5{C:bi}{f g:ai}{n m:Nat}(aA:C.has f n)(aM:C.has g m)(h:C.fn f n=C.fn g m):f=g/\n=m:=by
 have ao:=wY (uN aA.2)
 have aH:=wY (uN aM.2)
 have e:(C.no f,n)=(C.no g,m):=by rw[<-ao, <-aH];exact getElem_congr_idx h
 injection e with cG ec
 exact⟨Ht aA.1 aM.1 cG,ec⟩
noncomputable def gu(C:bi)(l:List (ai×cb)):List (a2×V):=l.map λ p=>(a2.i (C.no p.1:Int),fC p.2)
noncomputable def eB(l:List (ai×cb)):List (a2×V):=l.map λ p=>(a2.s p.1,fC p.2)
theorem uP{s t:ai}{e:cb}{l:List (ai×cb)}:((t,e)::l).lookup s=if s=t then B e else l.lookup s:=by
 rw[j6]
 by_cases h:s=t
 .rw[aQ h,beq_iff_eq.mpr h]
 .rw[aL h,beq_eq_false_iff_ne.mpr h]
theorem kQ{s:ai}: ∀{l:List (ai×cb)},dJ (eB l) (.s s)=(l.lookup s).map fC
 | []=>rfl
 |(t,e)::l=>by
  show dJ ((a2.s t,fC e)::eB l) _=_
  rw[sz,uP]
  by_cases h:s=t
  .rw[aQ h,aQ (congrArg a2.s h.symm)];rfl
  .rw[aL h,aL λ q=>h (Bf _ _ q).symm];exact kQ
theorem iO{s:ai}: ∀{l:List (ai×cb)},eg (eB l) (.s s)=G
 | []=>rfl
 |_::_=>rfl
theorem qY{C:bi}{n:Int}: ∀{l:List (ai×cb)},eg (gu C l) (.i n)=G
 | []=>rfl
 |_::_=>rfl
theorem qZ{C:bi}{s:ai}(ab:s∈C.texts): ∀{l:List (ai×cb)},(∀e∈l,e.1∈C.texts)->dJ (gu C l) (.i (C.no s:Int))=(l.lookup s).map fC
 | [],_=>rfl
 |(t,e)::l,ah=>by
  show dJ ((a2.i (C.no t:Int),fC e)::gu C l) _=_
  rw[sz,uP]
  by_cases h:s=t
  .rw[aQ h,aQ (by rw[h])];rfl
  .rw[aL h,aL λ q=>h (Ht ab (ah _ (eT ..)) (by injection q with q;exact(pD.mp q).symm))]
   exact qZ ab λ e aF=>ah e (f0 _ aF)
theorem uQ{C ae:bi}(h:C.le ae){l:List (ai×cb)}(ah: ∀e∈l,e.1∈C.texts):gu ae l=gu C l:=
 q0 λ e aF=>by rw[h.no (ah e aF)]
structure fs where
 x:Nat
 bL:Nat
 p:Nat
 i:Nat
 o:Nat
structure il(O:fs)(A:cJ)(hI li lo:List (a2×V))(j:St):Prop where
 x:j O.x=B (.inst 287 O.bL [(17, .ref A.x),(18, .ref O.p),(19, .ref O.i),(20, .ref O.o)])
 p:j O.p=B (.dict hI)
 i:j O.i=B (.dict li)
 o:j O.o=B (.dict lo)
 pi:O.p≠O.i
 po:O.p≠O.o
 io:O.i≠O.o
structure mg(O:fs)(A:cJ)(C:bi)(T:bY)(j:St):Prop where
 r:il O A (gu C T.pre) (gu C T.inf) (gu C T.post) j
 gq: ∀e∈T.pre,e.1∈C.texts
 wZ: ∀e∈T.inf,e.1∈C.texts
 w0: ∀e∈T.post,e.1∈C.texts
theorem il.keep{O:fs}{A:cJ}{hI li lo:List (a2×V)}{j D:St}{bG:Nat->Prop}(h:il O A hI li lo j)(e:aR bG j D)(m: ¬bG O.x/\ ¬bG O.p/\ ¬bG O.i/\ ¬bG O.o):il O A hI li lo D:=
 ⟨e _ _ h.x m.1,e _ _ h.p m.2.1,e _ _ h.i m.2.2.1,e _ _ h.o m.2.2.2,h.pi,h.po,h.io⟩
theorem mg.keep{O:fs}{A:cJ}{C ae:bi}{T:bY}{j D:St}{bG:Nat->Prop}(h:mg O A C T j)(l:C.le ae)(e:aR bG j D)(m: ¬bG O.x/\ ¬bG O.p/\ ¬bG O.i/\ ¬bG O.o):mg O A ae T D:=by
 refine⟨?_,λ e aF=>l.mem (h.gq e aF),λ e aF=>l.mem (h.wZ e aF),λ e aF=>l.mem (h.w0 e aF)⟩
 rw[uQ l h.gq,uQ l h.wZ,uQ l h.w0]
 exact h.r.keep e m
section
variable{P:em}{k:Nat}{j:St}{Q:V->St->Prop}{A:cJ}{C:bi}{O:fs}{T:bY}
theorem af6{s:ai}(h:mg O A C T j)(ab:s∈C.texts)(q:Q (wJ (T.pre.lookup s)) j):aj (k+1) 242 [.ref O.x, .int (C.no s:Int)] j Q:=by
 refine aeY ?_;left
 refine dm h.r.x rfl rfl ?_;left
 refine sK h.r.p ?_;left
 refine Ha h.r.p rfl qY ?_
 rw[qZ ab h.gq];left;exact q
theorem af7{s:ai}(h:mg O A C T j)(ab:s∈C.texts)(q:Q (wJ (T.inf.lookup s)) j):aj (k+1) 249 [.ref O.x, .int (C.no s:Int)] j Q:=by
 refine aeZ ?_;left
 refine dm h.r.x rfl rfl ?_;left
 refine sK h.r.i ?_;left
 refine Ha h.r.i rfl qY ?_
 rw[qZ ab h.wZ];left;exact q
theorem af8{s:ai}(h:mg O A C T j)(ab:s∈C.texts)(q:Q (wJ (T.post.lookup s)) j):aj (k+1) 256 [.ref O.x, .int (C.no s:Int)] j Q:=by
 refine ae0 ?_;left
 refine dm h.r.x rfl rfl ?_;left
 refine sK h.r.o ?_;left
 refine Ha h.r.o rfl qY ?_
 rw[qZ ab h.w0];left;exact q
theorem om{e:Option cb}:(e.map fC).isSome=e.isSome:=by cases e<;>rfl
theorem NU{s:ai}(h:mg O A C T j)(ab:s∈C.texts)(q:Q (.bool (T.op s)) j):aj (k+1) 263 [.ref O.x, .int (C.no s:Int)] j Q:=by
 refine ae1 ?_;left
 refine dm h.r.x rfl rfl ?_;left
 refine og h.r.p rfl qY ?_
 rw[qZ ab h.gq,om];left
 unfold bY.op at q;rw[NI]at q
 refine pC (λ e=>by rw[e]at q ⊢;exact q) (λ e=>?_);left
 rw[e]at q
 refine dm h.r.x rfl rfl ?_;left
 refine og h.r.i rfl qY ?_
 rw[qZ ab h.wZ,om];left
 refine pC (λ e=>by rw[e]at q ⊢;exact q) (λ e=>?_);left
 rw[e]at q
 refine dm h.r.x rfl rfl ?_;left
 refine og h.r.o rfl qY ?_
 rw[qZ ab h.w0,om];left
 exact q
noncomputable def w1(t:ai):V:=if t∈([[102,120],[102,121]]:List ai)then .str [112,114,101,102,105,120]else if t∈([[120,102,120],[120,102,121],[121,102,120]]:List ai)then .str [105,110,102,105,120]
 else if t∈([[120,102],[121,102]]:List ai)then .str [112,111,115,116,102,105,120]else .none
theorem NV{a b s:ai}:(decide (a=s)||(decide (b=s)||false))=decide (s∈ [a,b]):=by
 rw[v4]
 simp only[jr,decide_eq_true_eq,eV,Hj,or_false,zt,@eq_comm _ s]
theorem af9{a b c s:ai}:(decide (a=s)||(decide (b=s)||(decide (c=s)||false)))=decide (s∈ [a,b,c]):=by
 rw[v4]
 simp only[jr,decide_eq_true_eq,eV,Hj,or_false,zt,@eq_comm _ s]
theorem Hu{t:ai}(q:Q (w1 t) j):aj (k+1) 213 [.str t] j Q:=by
 refine aeV ?_;left
 unfold w1 at q
 rw[show fu j .isin (.str t) (.tup [.str [102,120], .str [102,121]])=B (decide (t∈([[102,120],[102,121]]:List ai)))from congrArg B NV];left
 refine iL (λ h=>?_) (λ h=>?_)
 .rw[aQ h]at q;left;exact q
 rw[aL h]at q;left
 rw[show fu j .isin (.str t) (.tup [.str [120,102,120], .str [120,102,121], .str [121,102,120]])=B (decide (t∈([[120,102,120],[120,102,121],[121,102,120]]:List ai)))from congrArg B af9];left
 refine iL (λ h=>?_) (λ h=>?_)
 .rw[aQ h]at q;left;exact q
 rw[aL h]at q;left
 rw[show fu j .isin (.str t) (.tup [.str [120,102], .str [121,102]])=B (decide (t∈([[120,102],[121,102]]:List ai)))from congrArg B NV];left
 refine iL (λ h=>?_) (λ h=>?_)
 .rw[aQ h]at q;left;exact q
 rw[aL h]at q;left;exact q
def nd(t:ai):Prop:=t∈([[102,120],[102,121]]:List ai)
def iP(t:ai):Prop:=t∈([[120,102,120],[120,102,121],[121,102,120]]:List ai)
def mh(t:ai):Prop:=t∈([[120,102],[121,102]]:List ai)
theorem aga{t:ai}(h:iP t):w1 t= .str [105,110,102,105,120]:=by
 rcases eV.mp h with rfl|h
 .rfl
 rcases eV.mp h with rfl|h
 .rfl
 rw[ee.mp h];rfl
theorem agb{t:ai}(h:mh t):w1 t= .str [112,111,115,116,102,105,120]:=by
 rcases eV.mp h with rfl|h
 .rfl
 rw[ee.mp h];rfl
variable{hI li lo:List (a2×V)}{p:Nat}{t:ai}{n:Int}
theorem agc(h:il O A hI li lo j)(aT:0<p)(aN:nd t)(aA:eg hI (.i n)=G)(ah:hI.length<ay)(q: ∀D,il O A (ha hI (.i n) (fC (p,t))) li lo D->bP (· =O.p) j D->Q .none D):aj (k+3) 277 [.ref O.x, .int (p:Int), .str t, .int n] j Q:=by
 refine G7 ?_;left
 refine cc h.x rfl rfl (f:=270) rfl ?_;left
 refine G6 ?_;left
 refine Hu ?_
 rw[show w1 t=_ from aQ aN];left
 refine dm h.x rfl rfl ?_;left
 have bX:(0:Int)<p:=o5.mpr aT
 rw[ce bX];left
 refine me h.p rfl aA ah ?_;left
 exact q _ ⟨aC (uJ h.x h.p) h.x,aY,aC h.pi.symm h.i,aC h.po.symm h.o,h.pi,h.po,h.io⟩ (bP.set rfl)
theorem Hv(h:il O A hI li lo j)(aT:0<p)(aN:iP t)(aA:eg li (.i n)=G)(ah:li.length<ay)(q: ∀D,il O A hI (ha li (.i n) (fC (p,t))) lo D->bP (· =O.i) j D->Q .none D):aj (k+3) 277 [.ref O.x, .int (p:Int), .str t, .int n] j Q:=by
 refine G7 ?_;left
 refine cc h.x rfl rfl (f:=270) rfl ?_;left
 refine G6 ?_;left
 refine Hu ?_
 rw[aga aN];left
 refine dm h.x rfl rfl ?_;left
 have bX:(0:Int)<p:=o5.mpr aT
 rw[ce bX];left
 refine me h.i rfl aA ah ?_;left
 exact q _ ⟨aC (uJ h.x h.i) h.x,aC h.pi h.p,aY,aC h.io.symm h.o,h.pi,h.po,h.io⟩ (bP.set rfl)
theorem agd(h:il O A hI li lo j)(aT:0<p)(aN:mh t)(aA:eg lo (.i n)=G)(ah:lo.length<ay)(q: ∀D,il O A hI li (ha lo (.i n) (fC (p,t))) D->bP (· =O.o) j D->Q .none D):aj (k+3) 277 [.ref O.x, .int (p:Int), .str t, .int n] j Q:=by
 refine G7 ?_;left
 refine cc h.x rfl rfl (f:=270) rfl ?_;left
 refine G6 ?_;left
 refine Hu ?_
 rw[agb aN];left
 refine dm h.x rfl rfl ?_;left
 have bX:(0:Int)<p:=o5.mpr aT
 rw[ce bX];left
 refine me h.o rfl aA ah ?_;left
 exact q _ ⟨aC (uJ h.x h.o) h.x,aC h.po h.p,aC h.io h.i,aY,h.pi,h.po,h.io⟩ (bP.set rfl)
theorem age(q: ∀O D,j O.x=J->j O.p=J->j O.i=J->j O.o=J->il O A [] [(.i 7,fC (1000,[120,102,121]))] [] D->aR et j D->Q (.ref O.x) D):aj (k+5) 287 [.ref A.x, .bool U] j Q:=by
 refine Es rfl rfl λ x bL aJ Bh n3=>?_
 refine aeX ?_;left
 refine gs aY rfl (bw rfl) ?_;left
 refine⟨rfl,λ p aT=>?_⟩
 have sR:=a0 aY aT
 left
 refine gs (aC sR aY) rfl (bw rfl) ?_;left
 refine⟨rfl,λ i bo=>?_⟩
 have Bj:=a0 aY bo
 have pi:=a0 (aC sR.symm aY) bo
 left
 refine gs (aC Bj aY) rfl (bw rfl) ?_;left
 refine⟨rfl,λ o ba=>?_⟩
 have NW:=a0 aY ba
 have io:=a0 (aC Bj.symm aY) ba
 have po:=a0 (aC sR.symm (aC pi (aC sR.symm aY))) ba
 left
 have old: ∀b w,j b=B w->b≠x/\b≠p/\b≠i/\b≠o:= λ b w e=>by
  have iN:=a0 e aJ
  have cq:St.set (St.set (j.set bL (.owned x)) x (.inst 287 bL [])) x (.inst 287 bL (hN [] 17 (.ref A.x))) b=B w:=aC iN (aC iN (aC (a0 e Bh) e))
  have Bk:=a0 cq aT
  have dX:=aC (o:= .inst 287 bL (hN (hN [] 17 (.ref A.x)) 18 (.ref p))) iN (aC (o:= .dict []) Bk cq)
  have hJ:=a0 dX bo
  have d5:=aC (o:= .inst 287 bL (hN (hN (hN [] 17 (.ref A.x)) 18 (.ref p)) 19 (.ref i))) iN (aC (o:= .dict []) hJ dX)
  exact⟨iN,Bk,hJ,a0 d5 ba⟩
 have un: ∀b,(∀w,j b=B w->False)->j b=J:= λ b h=>by
  cases e:j b with
  |none=>rfl
  |some w=>exact(h w e).elim
 refine gs (aC NW aY) rfl (bw rfl) (jy (λ s=>il ⟨x,bL,p,i,o⟩ A [] [] [] s/\ ∀b w,j b=B w->s b=B w) ⟨?_,?_⟩ λ aP Y=>?_)
 .exact ⟨aY,aC sR.symm (aC po (aC sR.symm (aC pi (aC sR.symm aY)))),aC Bj.symm (aC io (aC Bj.symm aY)),aC NW.symm aY,pi,po,io⟩
 .intro b w e
  obtain⟨iN,Bk,hJ,w2⟩:=old b w e
  exact aC iN (aC w2 (aC iN (aC hJ (aC iN (aC Bk (aC iN (aC iN (aC (a0 e Bh) e))))))))
 obtain⟨hm,ex⟩:=Y
 left
 refine cc hm.x rfl rfl (f:=277) rfl ?_;left
 refine Hv (p:=1000) hm (by decide) (by unfold iP;decide) rfl (bw rfl) λ bA Z b2=>?_
 left
 refine⟨rfl,q ⟨x,bL,p,i,o⟩ bA aJ (un p λ w e=>(old p w e).2.1 rfl) (un i λ w e=>(old i w e).2.2.1 rfl) (un o λ w e=>(old o w e).2.2.2 rfl) Z λ b w e _=>(b2 b (old b w e).2.2.1).trans (ex b w e)⟩
end
structure g7 where
 y:Nat
 gQ:Nat
 nm:Nat
 tk:Nat
 u:Nat
 f3:Nat
noncomputable def oo(w:bZ):ai:=w.last.toList
noncomputable def de(l:List (Nat×ai)):List (a2×V):=l.map λ p=>(a2.i (p.1:Int),V.str p.2)
noncomputable def kR(l:List (Nat×ai)):List (a2×V):=l.map λ p=>(a2.s p.2,V.bool G)
noncomputable def w3(W:g7)(A:cJ)(O:fs)(o:du)(last:ai)(gP:Bool):List (Nat×V):=
 [(17, .ref A.x),(27, .ref O.x),(28, .bool G),(29, .bool o.g6),(30, .bool o.num),(31, .ref W.nm),(32, .ref W.tk),(33, .ref W.u),(34, .str last),(35, .bool gP),(36, .ref W.f3)]
structure oq(W:g7)(A:cJ)(O:fs)(o:du)(w:bZ)(st:List V)(j:St):Prop where
 y:j W.y=B (.inst 472 W.gQ (w3 W A O o (oo w) w.gP))
 nm:j W.nm=B (.dict (de o.called))
 tk:j W.tk=B (.dict (kR o.called))
 u:j W.u=B (.list ((w.out.map cI.cX).map .str))
 f3:j W.f3=B (.list st)
 mi:W.u≠W.f3
def g7.mut(W:g7):Nat->Prop:= λ b=>b=W.y\/b=W.u
def g7.dx(W:g7):Nat->Prop:= λ b=>b=W.y\/b=W.u\/b=W.f3
theorem oq.keep{W:g7}{A:cJ}{O:fs}{o:du}{w:bZ}{st:List V}{j D:St}(h:oq W A O o w st j)(e:aR et j D):oq W A O o w st D:=
 ⟨e _ _ h.y id,e _ _ h.nm id,e _ _ h.tk id,e _ _ h.u id,e _ _ h.f3 id,h.mi⟩
section
variable{P:em}{k:Nat}{j:St}{Q:V->St->Prop}{W:g7}{A:cJ}{O:fs}{o:du}{w:bZ}{st:List V}
theorem Bl{p:cI}(h:oq W A O o w st j)(aT:p.cX≠ [])(ab:p.cX.length<=1000)(ah:w.out.length<=5000)(q: ∀D,oq W A O o (w.raw p) st D->bP W.mut j D->Q .none D):aj (k+1) 364 [.ref W.y, .str p.cX] j Q:=by
 refine Nt ?_;left
 rw[bW aT];left
 refine dm h.y rfl rfl ?_;left
 refine dH h.u (by decide) ?_;left
 refine qS h.u (by rw[c2];exact dP ah (by decide+kernel)) ?_;left
 refine uK (cA ab) ?_;left
 obtain⟨c,ap⟩: ∃c,p.cX.getLast?=B c:=⟨_,w4 aT⟩
 have Fl:=uR.mpr aT
 refine hv (i:=p.cX.length - 1) (by right) (by rw[<-zn];exact ap) (cA ab) ?_;left
 have ot:W.y≠W.u:=sJ h.y h.u
 refine gs (aC ot h.y) rfl (bw rfl) ?_;left
 refine gs aY rfl (bw rfl) ?_;left
 have ao:oo (w.raw p)=[c]:=by
  unfold oo bZ.last bZ.raw
  rw[jR,qt,ap];rfl
 refine q _ ⟨?_,?_,?_,?_,?_,h.mi⟩ (((bP.set (.inr rfl)).trans (bP.set (.inl rfl))).trans (bP.set (.inl rfl)))
 .rw[ao];exact aY
 .exact aC (lv h.nm h.y) (aC (lv h.nm h.y) (aC (kg h.nm h.u) h.nm))
 .exact aC (lv h.tk h.y) (aC (lv h.tk h.y) (aC (kg h.tk h.u) h.tk))
 .refine aC ot.symm (aC ot.symm ?_)
  have e:(w.raw p).out.map cI.cX=w.out.map cI.cX++ [p.cX]:=fO
  rw[e];exact aY
 .exact aC (sI h.f3 h.y) (aC (sI h.f3 h.y) (aC h.mi.symm h.f3))
theorem agf{c:Nat}(h:oq W A O o w st j)(q:Q (.bool (w.space c)) j):aj (k+4) 378 [.ref W.y, .str [c]] j Q:=by
 refine afb ?_;left
 refine dm h.y rfl rfl ?_;left
 unfold bZ.space at q
 cases hw:w.last with
 |none=>
  have e:oo w=[]:=by unfold oo;rw[hw];rfl
  rw[e];rw[hw]at q
  left;exact q
 |some l=>
  have e:oo w=[l]:=by unfold oo;rw[hw];rfl
  rw[hw]at q;dsimp only at q
  rw[e,show decide ([l]=([]:ai))=U from rfl];left
  refine dm h.y rfl rfl ?_;left
  rw[e]
  have aH:decide ([l]=([32]:ai))=decide (l=32):=decide_eq_decide.mpr ⟨λ q=>by injection q,λ q=>by rw[q]⟩
  rw[aH]
  by_cases Y:l=32
  .rw[ce Y];left;rw[aQ Y]at q;exact q
  rw[bW Y];left;rw[aL Y]at q
  refine dm h.y rfl rfl ?_;left
  have bt: ∀n:Nat,decide ([c]=([n]:ai))=decide (c=n):= λ n=>decide_eq_decide.mpr ⟨λ q=>by injection q,λ q=>by rw[q]⟩
  have b2: ∀n:Nat,decide ([l]=([n]:ai))=decide (l=n):= λ n=>decide_eq_decide.mpr ⟨λ q=>by injection q,λ q=>by rw[q]⟩
  have b5:(if(w.gP&&(decide (c=40)||decide (l=45)&&isDigit c))=G then G else if kO l then kO c||decide (c=39)else if fg l then fg c else decide (l=39)&&decide (c=39))=(if kO l then kO c||decide (c=39)else if fg l then fg c else decide (l=39)&&decide (c=39))->
    aK (aD (aj (k+3))) (match vI.body with| .cons _ (.cons _ r)=>r|_=> .nil) [B (.ref W.y),B (.str [c])] j (cr Q):= λ cG=>by
   rw[cG]at q
   left
   refine dm h.y rfl rfl ?_;left
   rw[e]
   refine NJ ?_;left
   refine pB (λ aE=>?_) (λ aE=>?_)
   .rw[aQ aE]at q
    left
    refine NJ ?_;left
    refine pC (λ bv=>by rw[bv]at q ⊢;exact q) (λ bv=>?_)
    rw[bv]at q;left;rw[bt];exact q
   rw[aL (by rw[aE];exact fV)]at q
   left
   refine dm h.y rfl rfl ?_;left
   rw[e];left
   refine Hi ?_;left
   refine pB (λ bv=>?_) (λ bv=>?_)
   .rw[aQ bv]at q
    left
    exact Hi q
   rw[aL (by rw[bv];exact fV)]at q
   left
   refine dm h.y rfl rfl ?_;left
   rw[e,b2]
   refine wR (λ cw=>?_) (λ cw=>by rw[cw]at q ⊢;exact q)
   rw[cw]at q;left;rw[bt];exact q
  cases sS:w.gP
  .left;exact b5 (by rw[sS];rfl)
  .left
   rw[bt]
   by_cases Z:c=40
   .rw[ce Z];left
    rw[sS,ce Z]at q;exact q
   rw[bW Z];left
   refine dm h.y rfl rfl ?_;left
   rw[e,b2]
   by_cases aE:l=45
   .rw[ce aE];left
    refine Nz ?_;left
    cases bv:isDigit c
    .left;exact b5 (by rw[bv,agg,bW Z];simp)
    .left
     rw[sS,ce aE,bv,Bm,NX]at q;exact q
   .rw[bW aE];left
    exact b5 (by rw[bW aE,bW Z];simp)
theorem agh{p:cI}(h:oq W A O o w st j)(aT:p.cX≠ [])(ab:p.cX.length<=1000)(ah:w.out.length<5000)(q: ∀D,oq W A O o (w.run (.tk p)) st D->bP W.mut j D->Q .none D):aj (k+5) 371 [.ref W.y, .str p.cX] j Q:=by
 refine afa ?_;left
 rw[bW aT];left
 refine cc h.y rfl rfl (f:=378) rfl ?_;left
 obtain⟨c,r,ap⟩:=uS aT
 refine hv (i:=0) (c:=c) rfl (by rw[ap];rfl) (cA ab) ?_;left
 have hd:p.cX.headD 0=c:=by rw[ap];rfl
 refine agf h ?_;left
 unfold bZ.run at q
 dsimp only at q
 rw[hd]at q
 refine pB (λ aE=>?_) (λ aE=>?_)
 .rw[aQ aE]at q
  left
  refine dm h.y rfl rfl ?_;left
  refine dH h.u (by decide) ?_;left
  refine qS h.u (by rw[c2];exact h9 ah (by decide+kernel)) ?_;left
  have ot:W.y≠W.u:=sJ h.y h.u
  refine cc (aC ot h.y) rfl rfl (f:=364) rfl ?_;left
  refine Nt ?_;left
  rw[bW aT];left
  refine dm (aC ot h.y) rfl rfl ?_;left
  refine dH aY (by decide) ?_;left
  refine qS aY (by rw[bK,c2];exact hB (afN ah 1) (by decide+kernel)) ?_;left
  refine uK (cA ab) ?_;left
  obtain⟨d,hd⟩: ∃d,p.cX.getLast?=B d:=⟨_,w4 aT⟩
  have Fl:=uR.mpr aT
  refine hv (i:=p.cX.length - 1) (by right) (by rw[<-zn];exact hd) (cA ab) ?_;left
  refine gs (aC ot (aC ot h.y)) rfl (bw rfl) ?_;left
  refine gs aY rfl (bw rfl) ?_;left
  have ao:oo ⟨w.out++ [cI.sp]++ [p],U⟩=[d]:=by
   unfold oo bZ.last
   rw[jR,qt,hd];rfl
  refine q _ ⟨?_,?_,?_,?_,?_,h.mi⟩ ((((bP.set (.inr rfl)).trans (bP.set (.inr rfl))).trans (bP.set (.inl rfl))).trans (bP.set (.inl rfl)))
  .rw[ao];exact aY
  .exact aC (lv h.nm h.y) (aC (lv h.nm h.y) (aC (kg h.nm h.u) (aC (kg h.nm h.u) h.nm)))
  .exact aC (lv h.tk h.y) (aC (lv h.tk h.y) (aC (kg h.tk h.u) (aC (kg h.tk h.u) h.tk)))
  .refine aC ot.symm (aC ot.symm ?_)
   have e:(w.out++ [cI.sp]++ [p]).map cI.cX=w.out.map cI.cX++ [[32]]++ [p.cX]:=by rw[fO,fO];rfl
   dsimp only;rw[e];exact aY
  .exact aC (sI h.f3 h.y) (aC (sI h.f3 h.y) (aC h.mi.symm (aC h.mi.symm h.f3)))
 .rw[aL (by rw[aE];exact fV)]at q
  left
  refine cc h.y rfl rfl (f:=364) rfl ?_;left
  refine Bl h aT ab (k5 ah) λ D h' s=>?_
  left
  exact q D h' s
end
noncomputable def sT:T->ai
 | .v _| .n _=> [118]
 | .i _=> [105]
 | .a _=> [97]
 |_=> [115]
def T.fit:T->Prop
 | .v k=>k<4
 | .n _=>False
 | .i z=>z.natAbs<10^60
 | .a s=>s∈di
 | .bf f x=>f∈di/\x.fit
 | .a3 f x y=>f∈di/\x.fit/\y.fit
 | .dp f x y z=>f∈di/\x.fit/\y.fit/\z.fit
structure du.Ok(o:du):Prop where
 un: ∀k,k<4->under 10 (o.called.map (·.2)) (95::cY k) ∉ o.called.map (·.2)
 ln: ∀k,k<4->lr o k≠ []/\(lr o k).length<=1000
 cl:o.called.length<=10
 agi:(o.called.map (·.1)).Nodup
 mO:(o.called.map (·.2)).Nodup
structure bY.Ok(T:bY):Prop where
 pre: ∀s e,T.pre.lookup s=B e->nd e.2/\0<e.1/\e.1<=1200
 inf: ∀s e,T.inf.lookup s=B e->iP e.2/\0<e.1/\e.1<=1200
 post: ∀s e,T.post.lookup s=B e->mh e.2/\0<e.1/\e.1<=1200
structure cF(W:g7)(A:cJ)(O:fs)(o:du)(C:bi)(T:bY)(w:bZ)(st:List V)(j:St):Prop where
 b4:c9 A C j
 op:mg O A C T j
 wr:oq W A O o w st j
 cK:eu.le C
 ok:o.Ok
 I:T.Ok
 gI: ¬W.dx A.x/\ ¬W.dx A.t/\ ¬W.dx A.d/\ ¬W.dx A.f/\ ¬W.dx A.g
 pg: ¬W.dx O.x/\ ¬W.dx O.p/\ ¬W.dx O.i/\ ¬W.dx O.o
section
variable{P:em}{k:Nat}{j D:St}{Q:V->St->Prop}{W:g7}{A:cJ}{O:fs}{o:du}{C:bi}{T:bY}{w hV:bZ}{st eS:List V}
theorem agj{W:g7}(b:Nat)(h:W.mut b):W.dx b:=h.elim .inl λ h=> .inr (.inl h)
theorem cF.next(h:cF W A O o C T w st j)(s:bP W.dx j D)(n:oq W A O o hV eS D):cF W A O o C T hV eS D:=
 ⟨h.b4.keep s.ex h.gI,h.op.keep .refl s.ex h.pg,n,h.cK,h.ok,h.I,h.gI,h.pg⟩
theorem bP.up(s:bP W.mut j D):bP W.dx j D:= λ b m=>s b λ q=>m (agj b q)
theorem Bn{t:Mine.T}:dU j (C.enc t) (.int 0)=B (.str (sT t)):=by cases t<;>rfl
theorem Hw(h:eu.le C){f g:ai}{n m c:Nat}(aA:C.has f n)(aM:eu.has g m)(ap:eu.fn g m=c):decide ((C.fn f n:Int)=(c:Int))=decide (f=g/\n=m):=by
 refine decide_eq_decide.mpr ⟨λ e=>af5 aA (h.has aM) ?_,λ e=>?_⟩
 .rw[h.fn aM,ap];exact pD.mp e
 .obtain ⟨rfl,rfl⟩:=e
  rw[h.fn aM,ap]
theorem Bo(h:eu.le C){s t:ai}{c:Nat}(ab:s∈C.texts)(aN:t∈eu.texts)(ap:eu.no t=c):decide ((C.no s:Int)=(c:Int))=decide (s=t):=by
 refine decide_eq_decide.mpr ⟨λ e=>Ht ab (h.mem aN) ?_,λ e=>?_⟩
 .rw[h.no aN,ap];exact pD.mp e
 .rw[e,h.no aN,ap]
theorem pF(h:eu.le C){f:ai}{n:Nat}(aA:C.has f n):decide ((C.fn f n:Int)=0)=decide (f=[46]/\n=2):=Hw h aA nc.1 qX.1
theorem uT(h:eu.le C){f:ai}{n:Nat}(aA:C.has f n):decide ((C.fn f n:Int)=9)=decide (f=[123,125]/\n=1):=Hw h aA nc.2.1 qX.2.1
theorem w5(h:eu.le C){f:ai}{n:Nat}(aA:C.has f n):decide ((C.fn f n:Int)=17)=decide (f=[36,86,65,82]/\n=1):=Hw h aA nc.2.2 qX.2.2
theorem Bp{t:Mine.T}:(decide (sT t=[105])=U/\pr t=J)\/ ∃z,t= .i z/\pr t=if 0<=z then B z.toNat else J:=by
 cases t with
 |i z=>exact .inr ⟨z,rfl,rfl⟩
 |_=>exact .inl ⟨rfl,rfl⟩
theorem NY{f:ai}{x:Mine.T}(h:cF W A O o C T w st j)(aA:C.has f 1)(q:Q (.bool (hE o f x).isSome) j):aj (k+1) 406 [.ref W.y,C.enc (.bf f x)] j Q:=by
 refine G8 ?_;left
 refine dm h.wr.y rfl rfl ?_;left
 unfold hE at q
 cases aq:o.num
 .rw[aq]at q;left;exact q
 left
 rw[w5 h.cK aA]
 by_cases bF:f=[36,86,65,82]
 .rw[aq,ce bF,Bm,aQ rfl]at q
  rw[ce ⟨bF,rfl⟩];left
  rw[Bn];left
  rcases Bp (t:=x)with⟨ao,aH⟩|⟨z,rfl,aH⟩
  .rewrite[ao];left;rw[aH]at q;exact q
  .rw[show decide (sT (.i z)=[105])=G from rfl];left
   rw[aH]at q
   by_cases bb:0<=z
   .rw[ce bb];rw[aQ bb]at q;exact q
   .rw[bW bb];rw[aL bb]at q;exact q
 .rw[bW bF,agg,aL fV]at q
  rw[bW λ e=>bF e.1];left;exact q
theorem NZ{f:ai}{x y:Mine.T}(h:cF W A O o C T w st j)(aA:C.has f 2)(q:Q (.bool U) j):aj (k+1) 406 [.ref W.y,C.enc (.a3 f x y)] j Q:=by
 refine G8 ?_;left
 refine dm h.wr.y rfl rfl ?_;left
 cases aq:o.num
 .left;exact q
 left
 rw[w5 h.cK aA,bW λ e=>nomatch e.2];left;exact q
theorem N0{f:ai}{x y z:Mine.T}(h:cF W A O o C T w st j)(aA:C.has f 3)(q:Q (.bool U) j):aj (k+1) 406 [.ref W.y,C.enc (.dp f x y z)] j Q:=by
 refine G8 ?_;left
 refine dm h.wr.y rfl rfl ?_;left
 cases aq:o.num
 .left;exact q
 left
 rw[w5 h.cK aA,bW λ e=>nomatch e.2];left;exact q
noncomputable def Bq:e9->ai
 | .pre=> [112,114,101,102,105,120]
 | .inf=> [105,110,102,105,120]
 | .post=> [112,111,115,116,102,105,120]
noncomputable def Br:Option (e9×cb)->V
 |none=> .none
 |some (s,e)=> .tup [.str (Bq s), .int (e.1:Int), .str e.2]
theorem Bs{t:Mine.T}(h:cF W A O o C T w st j)(ak:C.cv t)(q:Q (Br (fa T o t)) j):aj (k+2) 434 [.ref W.y,C.enc t] j Q:=by
 refine afh ?_;left
 refine dm h.wr.y rfl rfl ?_;left
 unfold fa at q
 cases bo:o.g6
 case true=>rw[bo]at q;left;exact q
 rw[bo,aL fV]at q
 left
 cases t with
 |v n=>left;exact q
 |n n=>left;exact q
 |i n=>left;exact q
 |a n=>left;exact q
 |bf f x=>
  dsimp only at q
  have aA:=ak.1
  left
  rw[pF h.cK aA,bW λ e=>nomatch e.2];left
  rw[uT h.cK aA]
  by_cases ap:f=[123,125]
  .rw[aQ ap]at q
   rw[ce ⟨ap,rfl⟩];left;exact q
  rw[aL ap]at q
  rw[bW λ e=>ap e.1];left
  refine cc h.wr.y rfl rfl (f:=406) rfl ?_;left
  refine NY h aA ?_;left
  cases aq:(hE o f x).isSome
  case true=>rw[aQ aq]at q;left;exact q
  rw[aL (by rw[aq];exact fV)]at q
  left
  refine dm h.wr.y rfl rfl ?_;left
  refine cc h.b4.x rfl rfl (f:=84) rfl ?_;left
  refine sP h.b4 aA ?_;left
  refine dm h.wr.y rfl rfl ?_;left
  refine cc h.op.r.x rfl rfl (f:=242) rfl ?_;left
  refine af6 h.op aA.1 ?_
  cases aT:T.pre.lookup f with
  |some e=>
   rw[aT]at q;dsimp only at q
   left
   rw[show decide ((C.no f:Int)=3)=_ from Bo h.cK aA.1 qW.2.1 uO.2.1]
   by_cases aG:f=[45]
   .rw[ce aG];left
    rw[Bn];left
    rcases Bp (t:=x)with⟨ao,aH⟩|⟨z,rfl,aH⟩
    .rw[ao];left
     rw[aH,aL (λ e=>nomatch e.2)]at q;exact q
    .rw[show decide (sT (.i z)=[105])=G from rfl];left
     by_cases bb:0<=z
     .rw[ce bb];left
      rw[aH,aQ bb,aQ ⟨aG,rfl⟩]at q;exact q
     .rw[bW bb];left
      rw[aH,aL bb,aL (λ e=>nomatch e.2)]at q;exact q
   .rw[bW aG];left
    rw[aL (λ e=>aG e.1)]at q;exact q
  |none=>
   rw[aT]at q;dsimp only at q
   left
   refine dm h.wr.y rfl rfl ?_;left
   refine cc h.op.r.x rfl rfl (f:=256) rfl ?_;left
   refine af8 h.op aA.1 ?_
   cases aT:T.post.lookup f with
   |some e=>rw[aT]at q;left;exact q
   |none=>rw[aT]at q;left;exact q
 |a3 f x y=>
  dsimp only at q
  have aA:=ak.1
  left
  rw[pF h.cK aA]
  by_cases ap:f=[46]
  .rw[aQ ap]at q
   rw[ce ⟨ap,rfl⟩];left;exact q
  rw[aL ap]at q
  rw[bW λ e=>ap e.1];left
  rw[uT h.cK aA,bW λ e=>nomatch e.2];left
  refine cc h.wr.y rfl rfl (f:=406) rfl ?_;left
  refine NZ h aA ?_;left
  refine dm h.wr.y rfl rfl ?_;left
  refine cc h.b4.x rfl rfl (f:=84) rfl ?_;left
  refine sP h.b4 aA ?_;left
  refine dm h.wr.y rfl rfl ?_;left
  refine cc h.op.r.x rfl rfl (f:=249) rfl ?_;left
  refine af7 h.op aA.1 ?_
  cases aT:T.inf.lookup f with
  |some e=>rw[aT]at q;left;exact q
  |none=>
   rw[aT]at q;left
   left;exact q
 |dp f x y z=>
  dsimp only at q
  have aA:=ak.1
  left
  rw[pF h.cK aA,bW λ e=>nomatch e.2];left
  rw[uT h.cK aA,bW λ e=>nomatch e.2];left
  refine cc h.wr.y rfl rfl (f:=406) rfl ?_;left
  refine N0 h aA ?_;left
  refine dm h.wr.y rfl rfl ?_;left
  refine cc h.b4.x rfl rfl (f:=84) rfl ?_;left
  refine sP h.b4 aA ?_;left
  left;exact q
end
theorem Hx: ∀s∈di,g5 s≠ []/\(g5 s).length<=1000/\s.length<=100/\ ∀c∈s,c<128:=by decide+kernel
theorem w6(w:bZ)(e:c8):(w.run e).out.length<=w.out.length+2:=by
 cases e with
 |gP=>exact gc _ _
 |rw p=>show(w.out++ [p]).length<=_;rw[bK];exact nM (bw rfl) _
 |tk p=>
  unfold bZ.run;dsimp only
  split
  .show (w.out++ [cI.sp]++ [p]).length<=_;rw[bK,bK];exact dt _
  .show (w.out++ [p]).length<=_;rw[bK];exact nM (bw rfl) _
theorem Hy: ∀(es:List c8) (w:bZ),(es.foldl bZ.run w).out.length<=w.out.length+2*es.length:=by
 intro b0;induction b0 with
 |nil=>
  intro _
  exact dt _
 |cons e es aB=>
  intro w
  have Y:=aB (w.run e)
  have Z:=w6 w e
  rw[N1,el]
  right
theorem N2{e:cb}(h:nd e.2)(bX:0<e.1):sO (e.1:Int) e.2=(0,(dh e:Int)):=by
 obtain⟨p,t⟩:=e
 rcases eV.mp h with rfl|h
 .show ((0:Int),(p:Int) - 1)=(0,((p - 1:Nat):Int));rw[w7 bX];rfl
 .have h:=ee.mp h
  dsimp only at h;subst h;rfl
theorem N3{e:cb}(h:iP e.2)(bX:0<e.1):sO (e.1:Int) e.2=((d6 e:Int),(dh e:Int)):=by
 obtain⟨p,t⟩:=e
 have Y:((p - 1:Nat):Int)=(p:Int) - 1:=w7 bX
 rcases eV.mp h with rfl|h
 .show ((p:Int) - 1,(p:Int) - 1)=(((p - 1:Nat):Int),((p - 1:Nat):Int));rw[Y]
 rcases eV.mp h with rfl|h
 .show ((p:Int) - 1,(p:Int))=(((p - 1:Nat):Int),(p:Int));rw[Y]
 .have h:=ee.mp h
  dsimp only at h;subst h;show((p:Int),(p:Int) - 1)=((p:Int),((p - 1:Nat):Int));rw[Y]
theorem N4{e:cb}(h:mh e.2)(bX:0<e.1):sO (e.1:Int) e.2=((d6 e:Int),0):=by
 obtain⟨p,t⟩:=e
 rcases eV.mp h with rfl|h
 .show ((p:Int) - 1,(0:Int))=(((p - 1:Nat):Int),0);rw[w7 bX];rfl
 .have h:=ee.mp h
  dsimp only at h;subst h;rfl
theorem Hz{T:bY}{o:du}{t:Mine.T}{s:e9}{e:cb}(h:T.Ok)(ab:fa T o t=B (s,e)):0<e.1/\e.1<=1200/\(match s with| .pre=>nd e.2| .inf=>iP e.2| .post=>mh e.2):=by
 cases t with
 |bf f x=>
  rcases(sy ab).2.2.2 with⟨Z,aE,_⟩|⟨Z,aE,_⟩
  .have Z:s= .pre:=Z;subst Z;have:=h.pre _ _ aE;exact⟨this.2.1,this.2.2,this.1⟩
  .have Z:s= .post:=Z;subst Z;have:=h.post _ _ aE;exact⟨this.2.1,this.2.2,this.1⟩
 |a3 f x y=>
  have Y:=(uD ab).2.2
  have Z:s= .inf:=Y.1;subst Z;have:=h.inf _ _ Y.2;exact⟨this.2.1,this.2.2,this.1⟩
 |_=>
  have ab:(if o.g6 then(J:Option (e9×cb))else J)=B (s,e):=ab
  rw[ite_self]at ab;cases ab
section
variable{P:em}{k:Nat}{j D:St}{Q:V->St->Prop}{W:g7}{A:cJ}{O:fs}{o:du}{C:bi}{T:bY}{w hV:bZ}{st eS:List V}
theorem cF.old(h:cF W A O o C T w st j)(e:aR et j D):cF W A O o C T w st D:=
 ⟨h.b4.none e,h.op.keep .refl e ⟨id,id,id,id⟩,h.wr.keep e,h.cK,h.ok,h.I,h.gI,h.pg⟩
theorem Bt{t:Mine.T}{p m:Nat}(h:cF W A O o C T w st j)(ak:C.cv t)(aT:0<p)(q:Q (.int (e3 T o t p m:Int)) j):aj (k+3) 448 [.ref W.y,C.enc t, .int (p:Int), .int (m:Int)] j Q:=by
 refine afi ?_;left
 refine cc h.wr.y rfl rfl (f:=434) rfl ?_;left
 refine Bs h ak ?_
 unfold e3 at q
 cases ab:fa T o t with
 |none=>rw[ab]at q;show nH _ _ _ V.none _;left;exact q
 |some w8=>
  obtain⟨s,e⟩:=w8
  rw[ab]at q;dsimp only at q
  obtain⟨bX,Y,Z⟩:=Hz h.I ab
  show nH _ _ _ (.tup [.str (Bq s), .int (e.1:Int), .str e.2]) _
  left
  rw[show decide ((e.1:Int)=p)=decide (e.1=p)from qR]
  by_cases aE:e.1=p
  .rw[ce aE];left
   refine Be ?_;left
   have az:(sO (e.1:Int) e.2).2=(md (s,e):Int):=by
    cases s with
    |pre=>rw[N2 Z bX];rfl
    |inf=>rw[N3 Z bX];rfl
    |post=>rw[N4 Z bX];rfl
   rw[az,show decide ((md (s,e):Int)=p)=decide (md (s,e)=p)from qR]
   by_cases bv:md (s,e)=p
   .rw[ce bv];left
    rw[aQ ⟨aE,bv⟩,w7 aT]at q;exact q
   .rw[bW bv];left
    rw[aL λ e=>bv e.2]at q;exact q
  .rw[bW aE];left
   rw[aL λ e=>aE e.1]at q;exact q
theorem w9{f:ai}(h:c9 A C j)(aA:f∈C.texts)(q: ∀D,aR et j D->Q (.str (g5 f)) D):aj (k+5) 313 [.ref A.x, .int (C.no f:Int), .bool G] j Q:=by
 have bE:=Hx f (h.ok.un f aA)
 refine ae4 ?_;left
 refine cc h.x rfl rfl (f:=63) rfl ?_;left
 refine afW h aA ?_;left
 refine afG (cA (by right)) ?_;left
 unfold g5 at q
 cases aT:g4 f
 .rw[aT]at q
  left
  exact afT bE.2.2.2 bE.2.2.1 q
 .rw[aT]at q
  left;exact q _ .refl
theorem Bu{c:Nat}(h:cF W A O o C T w st j)(ah:w.out.length<=5000)(q: ∀D,cF W A O o C T (w.raw (.pu c)) st D->aR W.dx j D->Q .none D):aj (k+1) 364 [.ref W.y, .str [c]] j Q:=
 Bl (p:= .pu c) h.wr nofun (bw rfl) ah λ D h' s=>q D (h.next s.up h') s.up.ex
theorem Bv(h:cF W A O o C T w st j)(ah:w.out.length<=5000)(q: ∀D,cF W A O o C T (w.raw .sp) st D->aR W.dx j D->Q .none D):aj (k+1) 364 [.ref W.y, .str [32]] j Q:=
 Bl (p:= .sp) h.wr nofun (bw rfl) ah λ D h' s=>q D (h.next s.up h') s.up.ex
theorem HA{f:ai}(h:cF W A O o C T w st j)(aA:f∈C.texts)(ah:w.out.length<=5000)(q: ∀D,cF W A O o C T (w.raw (.nm f)) st D->aR W.dx j D->Q .none D):aj (k+1) 364 [.ref W.y, .str (g5 f)] j Q:=
 have bE:=Hx f (h.b4.ok.un f aA)
 Bl (p:= .nm f) h.wr bE.1 bE.2.1 ah λ D h' s=>q D (h.next s.up h') s.up.ex
theorem ou{p:cI}(h:cF W A O o C T w st j)(aT:p.cX≠ [])(ab:p.cX.length<=1000)(ah:w.out.length<5000)(q: ∀D,cF W A O o C T (w.run (.tk p)) st D->aR W.dx j D->Q .none D):aj (k+5) 371 [.ref W.y, .str p.cX] j Q:=
 agh h.wr aT ab ah λ D h' s=>q D (h.next s.up h') s.up.ex
theorem uU{f:ai}(h:cF W A O o C T w st j)(aA:f∈C.texts)(ah:w.out.length<5000)(q: ∀D,cF W A O o C T (w.run (.tk (.nm f))) st D->aR W.dx j D->Q .none D):aj (k+5) 371 [.ref W.y, .str (g5 f)] j Q:=
 have bE:=Hx f (h.b4.ok.un f aA)
 ou (p:= .nm f) h bE.1 bE.2.1 ah q
theorem N5{f:ai}(h:cF W A O o C T w st j)(aA:f∈C.texts)(ah:w.out.length+4<=5000)(q: ∀D,cF W A O o C T ((gD f).foldl bZ.run w) st D->aR W.dx j D->Q .none D):aj (k+6) 455 [.ref W.y, .int (C.no f:Int)] j Q:=by
 refine afj ?_;left
 refine dm h.wr.y rfl rfl ?_;left
 refine dm h.wr.y rfl rfl ?_;left
 refine w9 h.b4 aA λ aP ao=>?_;left
 have Y:=h.old ao
 refine cc Y.wr.y rfl rfl (f:=371) rfl ?_;left
 refine uU Y aA (by right) λ bA Z aH=>?_;left
 refine Hm ?_;left
 have aO:=w6 w (.tk (.nm f))
 unfold gD at q
 cases aN:n8 (g5 f)
 .rw[aN]at q
  left
  refine cc Z.wr.y rfl rfl (f:=364) rfl ?_;left
  refine Bv Z (by right) λ dR aE cG=>?_;left
  exact q dR aE (ao.none.trans (aH.trans cG))
 .rw[aN]at q
  left
  refine gs Z.wr.y rfl (bw rfl) ?_;left
  have s:bP W.dx bA (bA.set W.y (Mine.O.inst 472 W.gQ (w3 W A O o (oo (w.run (.tk (.nm f)))) G))):=bP.set (.inl rfl)
  refine q _ (Z.next s ⟨aY,aC (lv Z.wr.nm Z.wr.y) Z.wr.nm,aC (lv Z.wr.tk Z.wr.y) Z.wr.tk,aC (sI Z.wr.u Z.wr.y) Z.wr.u,aC (sI Z.wr.f3 Z.wr.y) Z.wr.f3,Z.wr.mi⟩) (ao.none.trans (aH.trans s.ex))
theorem agk{f:ai}(h:cF W A O o C T w st j)(aA:f∈C.texts)(ah:w.out.length+6<=5000)(q: ∀D,cF W A O o C T ((hF f).foldl bZ.run w) st D->aR W.dx j D->Q .none D):aj (k+6) 462 [.ref W.y, .int (C.no f:Int)] j Q:=by
 refine afk ?_;left
 refine dm h.wr.y rfl rfl ?_;left
 refine dm h.wr.y rfl rfl ?_;left
 refine w9 h.b4 aA λ aP ao=>?_;left
 have Y:=h.old ao
 unfold hF at q
 rw[show decide ((C.no f:Int)=7)=_ from Bo h.cK aA qW.2.2.1 uO.2.2.1]
 by_cases ap:f=[44]
 .rw[ce ap];left
  rw[aQ ap]at q
  refine cc Y.wr.y rfl rfl (f:=364) rfl ?_;left
  refine Bu Y (by right) λ bA Z aH=>?_;left
  exact q bA Z (ao.none.trans aH)
 rw[bW ap];left
 rw[aL ap]at q
 rw[show decide ((C.no f:Int)=8)=_ from Bo h.cK aA qW.2.2.2 uO.2.2.2]
 by_cases az:f=[124]
 .rw[ce az];left
  rw[aQ az]at q
  refine cc Y.wr.y rfl rfl (f:=364) rfl ?_;left
  refine Bu Y (by right) λ bA Z aH=>?_;left
  exact q bA Z (ao.none.trans aH)
 rw[bW az];left
 rw[aL az]at q
 refine Hm ?_;left
 cases aN:n8 (g5 f)
 .rw[aN]at q
  left
  refine cc Y.wr.y rfl rfl (f:=364) rfl ?_;left
  refine Bv Y (by right) λ bA Z aH=>?_;left
  refine cc Z.wr.y rfl rfl (f:=364) rfl ?_;left
  refine HA Z aA (by show(w.out++_).length<=_;rw[bK];show _+1<=_;right) λ dR aE cG=>?_;left
  refine cc aE.wr.y rfl rfl (f:=364) rfl ?_;left
  refine Bv aE (by show(w.out++_++_).length<=_;rw[bK,bK];show _+1+1<=_;right) λ fY bv ec=>?_;left
  exact q fY bv (ao.none.trans (aH.trans (cG.trans ec)))
 .rw[aN]at q
  left
  refine cc Y.wr.y rfl rfl (f:=371) rfl ?_;left
  refine uU Y aA (by right) λ bA Z aH=>?_;left
  exact q bA Z (ao.none.trans aH)
theorem agl{f:ai}(h:cF W A O o C T w st j)(aA:f∈C.texts)(ah:w.out.length+4<=5000)(q: ∀D,cF W A O o C T ((ij f).foldl bZ.run w) st D->aR W.dx j D->Q .none D):aj (k+6) 469 [.ref W.y, .int (C.no f:Int)] j Q:=by
 refine afl ?_;left
 refine dm h.wr.y rfl rfl ?_;left
 refine dm h.wr.y rfl rfl ?_;left
 refine w9 h.b4 aA λ aP ao=>?_;left
 have Y:=h.old ao
 unfold ij at q
 refine Hm ?_;left
 cases aN:n8 (g5 f)
 .rw[aN]at q
  left
  refine cc Y.wr.y rfl rfl (f:=364) rfl ?_;left
  refine Bv Y (by right) λ bA Z aH=>?_;left
  refine cc Z.wr.y rfl rfl (f:=364) rfl ?_;left
  refine HA Z aA (by show(w.out++_).length<=_;rw[bK];show _+1<=_;right) λ dR aE cG=>?_;left
  exact q dR aE (ao.none.trans (aH.trans cG))
 .rw[aN]at q
  left
  refine cc Y.wr.y rfl rfl (f:=371) rfl ?_;left
  refine uU Y aA (by right) λ bA Z aH=>?_;left
  exact q bA Z (ao.none.trans aH)
end
inductive dB where
 |da (t:T) (m:Nat) (a:Bool)|rw(c:Nat)|inf (f:ai)|post (f:ai)
noncomputable def eG(C:bi):dB->V
 | .da t m a=> .tup [.str [116,101,114,109],C.enc t, .int (m:Int), .bool a]
 | .rw c=> .tup [.str [114,97,119], .str [c], .int 0, .bool U]
 | .inf f=> .tup [.str [105,110,102,105,120], .int (C.no f:Int), .int 0, .bool U]
 | .post f=> .tup [.str [112,111,115,116,102,105,120], .int (C.no f:Int), .int 0, .bool U]
noncomputable def ov(T:bY)(o:du):dB->List c8
 | .da t m a=>(bd T o t).1 m a
 | .rw c=> [.rw (.pu c)]
 | .inf f=>hF f
 | .post f=>ij f
section
variable{P:em}{k:Nat}{j D:St}{Q:V->St->Prop}{W:g7}{A:cJ}{O:fs}{o:du}{C:bi}{T:bY}{w hV:bZ}{st eS:List V}
theorem uV{n:Nat}: ∀{l:List (Nat×ai)},dJ (de l) (.i (n:Int))=(l.lookup n).map .str
 | []=>rfl
 |(m,e)::l=>by
  show dJ ((a2.i (m:Int),V.str e)::de l) _=_
  rw[sz,j6]
  by_cases h:n=m
  .rw[beq_iff_eq.mpr h,aQ (by rw[h])];rfl
  .rw[beq_eq_false_iff_ne.mpr h,aL λ q=>h (by injection q with q;exact(pD.mp q).symm)];exact uV
theorem xa{n:Int}: ∀{l:List (Nat×ai)},eg (de l) (.i n)=G
 | []=>rfl
 |_::_=>rfl
theorem N6{s:ai}: ∀{l:List (Nat×ai)},eg (kR l) (.s s)=G
 | []=>rfl
 |_::_=>rfl
theorem HB{s:ai}: ∀{l:List (Nat×ai)},(dJ (kR l) (.s s)).isSome=decide (s∈l.map (·.2))
 | []=>rfl
 |(m,e)::l=>by
  show(dJ ((a2.s e,V.bool G)::kR l) _).isSome=decide (s∈e::l.map (·.2))
  rw[sz]
  by_cases h:e=s
  .rw[aQ (congrArg a2.s h),ce (eV.mpr (.inl h.symm))];rfl
  .rw[aL λ q=>h (Bf _ _ q),HB]
   exact decide_eq_decide.mpr ⟨λ m=>f0 _ m,λ m=>(eV.mp m).resolve_left λ q=>h q.symm⟩
theorem N7{c:ST}{b:dz}{E:ai->ax}{l:List ai}{K:bM->ax->St->Prop}
  (body: ∀(s:ai) (n:Nat) (K:bM->ax->St->Prop),s.length<=900->(s∈l->ep c b n (E (s++ [95])) j K)->(s ∉ l->K .next (E s) j)->ep c b (n+1) (E s) j K): ∀(n:Nat) (s:ai),s.length+n<=900->under n l s ∉ l->K .next (E (under n l s)) j->ep c b (n+1) (E s) j K:=by
 intro b0;induction b0 with
 |zero=>
  intro s ab h q
  exact body s 0 K ab (λ m=>(h m).elim) λ _=>q
 |succ n aB=>
  intro s ab h q
  have e:under (n+1) l s=if s∈l then under n l (s++ [95])else s:=rfl
  rw[e]at h q
  refine body s (n+1) K (Nat.le_of_add_right_le ab) (λ m=>?_) λ m=>?_
  .rw[aQ m]at h q
   exact aB (s++ [95]) (by rw[bK,pl,hS [95].length];exact ab) h q
  .rw[aL m]at q;exact q
theorem agm{n:Nat}(h:cF W A O o C T w st j)(aq:n<4)(q:Q (.str (lr o n)) j):aj (k+1) 399 [.ref W.y, .int (n:Int)] j Q:=by
 refine afd ?_;left
 refine dm h.wr.y rfl rfl ?_;left
 refine og h.wr.nm rfl xa ?_
 rw[uV]
 unfold lr at q
 cases ah:o.called.lookup n with
 |some s=>
  rw[ah]at q
  rw[show((B s).map V.str).isSome=G from rfl];left
  refine dm h.wr.y rfl rfl ?_;left
  refine pA h.wr.nm rfl xa (uV.trans (congrArg (adS V.str) ah)) ?_;left;exact q
 |none=>
  rw[ah]at q
  rw[show((J:Option ai).map V.str).isSome=U from rfl];left
  refine wT rfl (h9 aq (by decide+kernel)) ?_;left
  have hd:(cY n).length<=1:=px (h9 aq (by decide)) (by decide)
  refine ik (cA (by show 1+(cY n).length<=_;right)) ?_;left
  refine⟨11,N7 (E:= λ s=> [B (.ref W.y),B (.int (n:Int)),B (.str s)]) (l:=o.called.map (·.2)) (λ s n K ab Y Z=>?_) 10 (95::cY n) (by show(cY n).length+1+10<=_;right) (h.ok.un n aq) ?_⟩
  .rw[j1];left
   refine dm h.wr.y rfl rfl ?_;left
   refine og h.wr.tk rfl N6 ?_
   rw[HB]
   by_cases aG:s∈o.called.map (·.2)
   .rw[ce aG];left
    refine ik (cA (by show s.length+1<=_;right)) ?_;left
    exact Y aG
   .rw[bW aG];left;exact Z aG
  .left;exact q
end
noncomputable def gR:T->List dB
 | .a3 f h bH=>if f=[46]then .rw 44:: .da h 999 G::gR bH else [.rw 124, .da (.a3 f h bH) 999 G, .rw 93]
 | .a s=>if s=[91,93]then [.rw 93]else [.rw 124, .da (.a s) 999 G, .rw 93]
 |t=> [.rw 124, .da t 999 G, .rw 93]
noncomputable def kk:T->List T
 | .a3 f h bH=>if f=[46]then h::kk bH else []
 |_=> []
noncomputable def spT:T->T
 | .a3 f h bH=>if f=[46]then spT bH else .a3 f h bH
 |t=>t
theorem N8{f:ai}{h bH:T}:kk (.a3 f h bH)=if f=[46]then h::kk bH else []:=rfl
theorem HC{f:ai}{h bH:T}:spT (.a3 f h bH)=if f=[46]then spT bH else .a3 f h bH:=rfl
theorem agn{f:ai}{h bH:T}:gR (.a3 f h bH)=if f=[46]then .rw 44:: .da h 999 G::gR bH else [.rw 124, .da (.a3 f h bH) 999 G, .rw 93]:=rfl
noncomputable def kl(l:List dB)(t:T):List dB:=(if l.isEmpty then l else l++ [.rw 44])++ [.da t 999 G]
noncomputable def ow(l:List dB)(t:T):List dB:=(if l.isEmpty then l++ [.rw 40]else l++ [.rw 44])++ [.da t 999 G]
noncomputable def iQ(t:T):List dB:=(if t= .a [91,93]then []else [.rw 124, .da t 999 G])++ [.rw 93]
theorem ago{l:List dB}{t:T}:(kl l t).isEmpty=U:=by exact agp.mpr (HD _ nofun)
theorem agq: ∀(t:T) (l:List dB),l.isEmpty=U->(kk t).foldl kl l++iQ (spT t)=l++gR t:=by
 intro b0;induction b0 with
 |a3 f h bH dY eU=>
  intro l ah
  rw[N8,HC,agn]
  by_cases e:f=[46]
  .rw[aQ e,aQ e,aQ e,N1,eU (kl l h) ago]
   unfold kl;rw[ah,aL fV,cM,cM];rfl
  .rw[aL e,aL e,aL e];exact congrArg (l++ ·) (by unfold iQ;rw[aL nofun];rfl)
 |a s=>
  intro l ah
  show l++iQ (.a s)=l++if s=[91,93]then _ else _
  unfold iQ
  by_cases e:s=[91,93]
  .rw[aQ e,aQ (by rw[e])];rfl
  .rw[aL e,aL λ q=>e (by injection q)];rfl
 |v _=>
  intro l ah
  exact congrArg (l++ ·) (by show iQ _=_;unfold iQ;rw[aL nofun];rfl)
 |n _=>
  intro l ah
  exact congrArg (l++ ·) (by show iQ _=_;unfold iQ;rw[aL nofun];rfl)
 |i _=>
  intro l ah
  exact congrArg (l++ ·) (by show iQ _=_;unfold iQ;rw[aL nofun];rfl)
 |bf _ _ dY=>
  intro l ah
  exact congrArg (l++ ·) (by show iQ _=_;unfold iQ;rw[aL nofun];rfl)
 |dp _ _ _ _ dY eU jT=>
  intro l ah
  exact congrArg (l++ ·) (by show iQ _=_;unfold iQ;rw[aL nofun];rfl)
section
variable{P:em}{k:Nat}{j D:St}{Q:V->St->Prop}{W:g7}{A:cJ}{O:fs}{o:du}{C:bi}{T:bY}{w hV:bZ}{st eS:List V}
theorem agr{s:ai}{bC:Bool}(h:cF W A O o C T w st j)(ab:s∈C.texts)(ah:w.out.length+6<=5000)(q: ∀D hV,hV=((bd T o (.a s)).1 0 bC).foldl bZ.run w->cF W A O o C T hV st D->aR W.dx j D->Q .none D):aj (k+6) 413 [.ref W.y, .int (C.no s:Int), .bool bC] j Q:=by
 refine afe ?_;left
 refine dm h.wr.y rfl rfl ?_;left
 refine dm h.wr.y rfl rfl ?_;left
 refine w9 h.b4 ab λ aP ao=>?_;left
 have Y:=h.old ao
 have fin: ∀es,((bd T o (.a s)).1 0 bC)=es-> ∀D,cF W A O o C T (es.foldl bZ.run w) st D->aR W.dx aP D->Q .none D:= λ es e D h' dL=>q D _ (by rw[e]) h' (ao.none.trans dL)
 cases az:(!bC&&T.op s)with
 |false=>
  have aF:((bd T o (.a s)).1 0 bC)=[.tk (.nm s)]:=aL (by rw[az];exact fV)
  have go:=fin _ aF
  cases bC with
  |true=>
   left
   refine cc Y.wr.y rfl rfl (f:=371) rfl ?_;left
   refine uU Y ab (by right) λ bA Z aH=>?_;left
   exact go bA Z aH
  |false=>
   have ba:T.op s=U:=az
   left
   refine dm Y.wr.y rfl rfl ?_;left
   refine cc Y.op.r.x rfl rfl (f:=263) rfl ?_;left
   refine NU Y.op ab ?_
   rw[ba];left
   refine cc Y.wr.y rfl rfl (f:=371) rfl ?_;left
   refine uU Y ab (by right) λ bA Z aH=>?_;left
   exact go bA Z aH
 |true=>
  have aF:((bd T o (.a s)).1 0 bC)=[.tk (.pu 40), .rw (.nm s), .rw (.pu 41)]:=aQ az
  have go:=fin _ aF
  obtain⟨aI,ba⟩:=kv.mp az
  have aI:bC=U:=by cases bC<;>first|rfl|cases aI
  subst aI
  left
  refine dm Y.wr.y rfl rfl ?_;left
  refine cc Y.op.r.x rfl rfl (f:=263) rfl ?_;left
  refine NU Y.op ab ?_
  rw[ba];left
  refine cc Y.wr.y rfl rfl (f:=371) rfl ?_;left
  refine ou (p:= .pu 40) Y nofun (bw rfl) (by right) λ bA Z aH=>?_;left
  have c7:=w6 w (.tk (.pu 40))
  refine cc Z.wr.y rfl rfl (f:=364) rfl ?_;left
  refine HA Z ab (by right) λ dR aE cG=>?_;left
  have h7:=w6 (w.run (.tk (.pu 40))) (.rw (.nm s))
  refine cc aE.wr.y rfl rfl (f:=364) rfl ?_;left
  refine Bu aE (ca h7 (by right)) λ fY bv ec=>?_;left
  exact go fY bv (aH.trans (cG.trans ec))
theorem cF.fresh(h:cF W A O o C T w st j){r:Nat}(aO:j r=J): ¬W.dx r:= λ m=>by
 rcases m with rfl|rfl|rfl
 .rw[h.wr.y]at aO;cases aO
 .rw[h.wr.u]at aO;cases aO
 .rw[h.wr.f3]at aO;cases aO
theorem ags{b:dz}{z v:Option V}{l:List V}{r:Nat}{K:bM->ax->St->Prop}
  (body: ∀(x:V) (st:List V) (j:St) (K:bM->ax->St->Prop),cF W A O o C T w st j->st.length<2000->(∀D,cF W A O o C T w (st++ [x]) D->bP W.dx j D->K .next [z,v,B x] D)->b [z,v,B x] j K) (aO: ¬W.dx r): ∀(X st:List V) (j:St) (u:Option V),cF W A O o C T w st j->j r=B (.list l)->st.length+X.length<2000->(∀D u,cF W A O o C T w (st++X) D->aR W.dx j D->K .next [z,v,u] D)->hz 2 b (λ s=>s r=B (.list l)) X [z,v,u] j K:=by
 intro b0;induction b0 with
 |nil=>
  intro st j u h ah ab q
  exact⟨ah,q j u (by rw[dV];exact h) .refl⟩
 |cons x X aB=>
  intro st j u h ah ab q
  rw[kE]
  refine⟨ah,body x st j _ h (dP (gc _ _) ab) λ D h' s=>?_⟩
  refine aB (st++ [x]) D _ h' ((s r aO).trans ah) (by rw[bK,Ho,pl,hS 1];exact ab) λ eL u gX e=>q eL u (by rw[cM]at gX;exact gX) (s.ex.trans e)
theorem pG{X:List V}{r:Nat}(h:cF W A O o C T w st j)(aO: ¬W.dx r)(bF:j r=B (.list X))(ab:st.length+X.length<2000)(q: ∀D,cF W A O o C T w (st++X.reverse) D->aR W.dx j D->Q .none D):aj (k+1) 385 [.ref W.y, .ref r] j Q:=by
 refine afc ?_;left
 refine Nw bF ?_;left
 refine ags (r:=r) (l:=X) (λ x st j K h ab q=>?_) aO X.reverse st j _ h bF (by rw[zG];exact ab) λ D u h' e=>?_
 .left
  refine dm h.wr.y rfl rfl ?_;left
  refine dH h.wr.f3 (by decide) ?_;left
  refine oe h.wr.f3 (h9 ab (by decide+kernel)) ?_;left
  have s:bP W.dx j (j.set W.f3 (Mine.O.list (st++ [x]))):=bP.set (.inr (.inr rfl))
  exact q _ (h.next s ⟨aC (sJ h.wr.y h.wr.f3) h.wr.y,aC (kg h.wr.nm h.wr.f3) h.wr.nm,aC (kg h.wr.tk h.wr.f3) h.wr.tk,aC h.wr.mi h.wr.u,aY,h.wr.mi⟩) s
 .left;exact q D h' e
end
section
variable{P:em}{k:Nat}{j D:St}{Q:V->St->Prop}{W:g7}{A:cJ}{O:fs}{o:du}{C:bi}{T:bY}{w hV:bZ}{st eS:List V}
theorem bP.one{a:Nat}{o:Mine.O}:bP (λ x=>x=a) j (j.set a o):=bP.set (bG:= λ x=>x=a) rfl
theorem agt{t:Mine.T}:(sT t=[115]/\((∃f x,t= .bf f x)\/(∃f x y,t= .a3 f x y)\/ ∃f x y z,t= .dp f x y z))\/(decide (sT t=[115])=U/\kk t=[]/\spT t=t):=by
 cases t with
 |bf f x=>exact .inl ⟨rfl, .inl ⟨_,_,rfl⟩⟩
 |a3 f x y=>exact .inl ⟨rfl, .inr (.inl ⟨_,_,_,rfl⟩)⟩
 |dp f x y z=>exact .inl ⟨rfl, .inr (.inr ⟨_,_,_,_,rfl⟩)⟩
 |_=>exact .inr ⟨rfl,rfl,rfl⟩
theorem agu(cK:eu.le C){r:Nat}{c:ST}{b:dz}{K:bM->ax->St->Prop}
  (body: ∀(t:Mine.T) (l:List Mine.T) (j:St) (n:Nat) (K:bM->ax->St->Prop),C.cv t->j r=B (.list (l.map C.enc))->l.length<1000->
   (∀h bH,t= .a3 [46] h bH->ep c b n [B (C.enc bH),B (.ref r)] (j.set r (.list ((l++ [h]).map C.enc))) K)->
   ((∀h bH,t≠ .a3 [46] h bH)->K .next [B (C.enc t),B (.ref r)] j)->
   ep c b (n+1) [B (C.enc t),B (.ref r)] j K): ∀(n:Nat) (t:Mine.T) (l:List Mine.T) (j:St),t.ay<=n->C.cv t->j r=B (.list (l.map C.enc))->l.length+n<1000->
   (∀D,D r=B (.list ((l++kk t).map C.enc))->bP (· =r) j D->K .next [B (C.enc (spT t)),B (.ref r)] D)->
   ep c b (n+1) [B (C.enc t),B (.ref r)] j K:=by
 intro b0;induction b0 with
 |zero=>
  intro t l j aq ak ah ab q
  exact absurd aq (by cases t<;>exact Nat.not_succ_le_zero _)
 |succ n aB=>
  intro t l j aq ak ah ab q
  refine body t l j (n+1) K ak ah (dP (gc _ _) ab) (λ h bH e=>?_) λ n3=>?_
  .subst e
   have er:bH.ay<=n:=by have:h.ay+bH.ay+1<=n+1:=aq;right
   refine aB bH (l++ [h]) _ er ak.2.2 aY (by rw[bK,Ho,pl,hS 1];exact ab) λ D Y s=>q D ?_ (bP.one.trans s)
   rw[Y,cM];rfl
  .have e:kk t=[]/\spT t=t:=by
    cases t with
    |a3 f x y=>
     by_cases e:f=[46]
     .exact (n3 x y (by rw[e])).elim
     .exact ⟨aL e,aL e⟩
    |_=>exact⟨rfl,rfl⟩
   rw[e.1,dV,e.2]at q
   exact q j ah .refl
theorem agv{t:Mine.T}(cK:eu.le C)(ak:C.cv t)(er:t.ay<=500)(q: ∀r D,j r=J->D r=B (.list ((kk t).map C.enc))->aR et j D->Q (.tup [.ref r,C.enc (spT t)]) D):aj (k+1) 133 [C.enc t] j Q:=by
 refine aeL ?_;left
 intro r aO
 refine⟨501,agu cK (r:=r) (λ t l j n K ak ah ab Y Z=>?_) 500 t [] _ er ak aY (by decide) λ D h s=>?_⟩
 .rw[j1];left
  rw[Bn];left
  rcases agt (t:=t)with⟨ao,aH⟩|⟨ao,aH,cG⟩
  .rw[ce ao];left
   rcases aH with⟨f,x,rfl⟩|⟨f,x,y,rfl⟩|⟨f,x,y,z,rfl⟩
   .left
    rw[pF cK ak.1,bW λ e=>nomatch e.2];left
    exact Z nofun
   .left
    rw[pF cK ak.1]
    by_cases aA:f=[46]
    .rw[ce ⟨aA,rfl⟩];left
     refine dH ah (by decide) ?_;left
     refine oe ah (by rw[c2];exact h9 ab (by decide+kernel)) ?_;left
     have:=Y x y (by rw[aA])
     rw[fO]at this;exact this
    .rw[bW λ e=>aA e.1];left
     exact Z λ h bH e=>aA (by injection e)
   .left
    rw[pF cK ak.1,bW λ e=>nomatch e.2];left
    exact Z nofun
  .rw[ao];left
   refine Z λ h bH e=>?_
   subst e;cases ao
 .left
  exact q r D aO h λ b o e _=>(s b (a0 e aO)).trans (aC (a0 e aO) e)
theorem N9{add:List dB->Mine.T->List dB}{b:dz}{r iK:Nat}{xb:St->Prop}{E:Option V->ax}{K:bM->ax->St->Prop}
  (body: ∀(t:Mine.T) (l:List dB) (j:St) (K:bM->ax->St->Prop),j r=B (.list (l.map (eG C)))->l.length<1500->(∀D,D r=B (.list ((add l t).map (eG C)))->bP (· =r) j D->K .next (E (B (C.enc t))) D)->b (E (B (C.enc t))) j K)
  (agw: ∀l t,(add l t).length<=l.length+2) (lx: ∀u v,(E u).set iK v=E v) (agx: ∀j D,xb j->bP (· =r) j D->xb D): ∀(au:List Mine.T) (l:List dB) (j:St) (u:Option V),j r=B (.list (l.map (eG C)))->xb j->l.length+2*au.length<1500->(∀D u,D r=B (.list ((au.foldl add l).map (eG C)))->xb D->bP (· =r) j D->K .next (E u) D)->hz iK b xb (au.map C.enc) (E u) j K:=by
 intro b0;induction b0 with
 |nil=>
  intro l j u h bF ab q
  exact⟨bF,q j u h bF .refl⟩
 |cons t au aB=>
  intro l j u h bF ab q
  rw[h5,kE,lx]
  rw[el]at ab
  refine⟨bF,body t l j _ h (by right) λ D h' s=>?_⟩
  refine aB (add l t) D _ h' (agx _ _ bF s) (by have:=agw l t;right) λ eL u gX agy HE=>q eL u gX agy (s.trans HE)
theorem Oa(l:List dB)(t:Mine.T):(kl l t).length<=l.length+2:=by
 unfold kl;rw[bK];split
 .exact jm _
 .rw[bK];exact dt _
theorem Ob(l:List dB)(t:Mine.T):(ow l t).length<=l.length+2:=by
 unfold ow;rw[bK];split<;>rw[bK]<;>exact dt _
theorem agz: ∀t:Mine.T,(kk t).length<=t.ay:=by
 intro b0;induction b0 with
 |a3 f h bH dY eU=>
  rw[N8];split
  .have:=eU;show _+1<=h.ay+bH.ay+1;right
  .exact eh _
 |v _=>
  exact eh _
 |n _=>
  exact eh _
 |i _=>
  exact eh _
 |a _=>
  exact eh _
 |bf _ _ dY=>
  exact eh _
 |dp _ _ _ _ dY eU jT=>
  exact eh _
theorem Oc{add:List dB->Mine.T->List dB}(h: ∀l t,(add l t).length<=l.length+2): ∀(au:List Mine.T) (l:List dB),(au.foldl add l).length<=l.length+2*au.length:=by
 intro b0;induction b0 with
 |nil=>
  intro _
  exact dt _
 |cons t au aB=>
  intro l
  have Y:=aB (add l t)
  have Z:=h l t
  rw[N1,el];right
theorem gG{r:Nat}{l:List dB}{i:dB}{v:V}(h:j r=B (.list (l.map (eG C))))(ah:l.length<2000)(bF:v=eG C i)(q:Q .none (j.set r (.list ((l++ [i]).map (eG C))))):mz r 0 [v] j Q:=
 oe h (by rw[c2];exact h9 ah (by decide+kernel)) (by rw[fO]at q;rw[bF];exact q)
theorem Od{r:Nat}{l:List dB}{K:Bool->Prop}(h:j r=B (.list (l.map (eG C))))(ah:l.length<2000)(q:K (!l.isEmpty)):b9 (ky j (.ref r)) K:=
 Hd h (by rw[c2];exact ca (k5 ah) (by decide+kernel)) (by cases l<;>exact q)
theorem Oe: ∀{t:Mine.T},C.cv t->C.cv (spT t)
 | .a3 f h bH,ak=>by
  rw[HC];split
  .exact Oe ak.2.2
  .exact ak
 | .v _,ak=>ak
 | .n _,ak=>ak
 | .i _,ak=>ak
 | .a _,ak=>ak
 | .bf _ _,ak=>ak
 | .dp _ _ _ _,ak=>ak
theorem Of{n:Nat}: ∀{t:Mine.T},t.ay<=n->(spT t).ay<=n
 | .a3 f h bH,ak=>by
  rw[HC];split
  .exact Of (by have:h.ay+bH.ay+1<=n:=ak;right)
  .exact ak
 | .v _,ak=>ak
 | .n _,ak=>ak
 | .i _,ak=>ak
 | .a _,ak=>ak
 | .bf _ _,ak=>ak
 | .dp _ _ _ _,ak=>ak
theorem HF{a m:Nat}(h:a<=m):max 0 (max 0 (max (a+1) 0))+1<=m+1+1:=
 jI (pH.mpr ⟨eh _,pH.mpr ⟨eh _,pH.mpr ⟨jI h,eh _⟩⟩⟩)
theorem HG: ∀t:Mine.T,f6 (C.enc t)=G/\h2 (C.enc t)<=2*t.ay:=by
 intro b0;induction b0 with
 |v _=>
  exact⟨rfl,bw rfl⟩
 |n _=>
  exact⟨rfl,bw rfl⟩
 |i _=>
  exact⟨rfl,bw rfl⟩
 |a _=>
  exact⟨rfl,bw rfl⟩
 |bf f x dY=>
  have aJ:=dY
  refine⟨?_,?_⟩
  .show (G&&(G&&((f6 (C.enc x)&&G)&&G)))=G;rw[aJ.1];rfl
  .exact HF (pH.mpr ⟨aJ.2,eh _⟩)
 |a3 f x y dY eU=>
  have aJ:=dY
  have bJ:=eU
  refine⟨?_,?_⟩
  .show (G&&(G&&((f6 (C.enc x)&&(f6 (C.enc y)&&G))&&G)))=G;rw[aJ.1,bJ.1];rfl
  .exact HF (pH.mpr ⟨ca aJ.2 (xc 2 (gc _ _)),pH.mpr ⟨ca bJ.2 (xc 2 (kG _ _)),eh _⟩⟩)
 |dp f x y z dY eU jT=>
  have aJ:=dY
  have bJ:=eU
  have bb:=jT
  refine⟨?_,?_⟩
  .show (G&&(G&&((f6 (C.enc x)&&(f6 (C.enc y)&&(f6 (C.enc z)&&G)))&&G)))=G;rw[aJ.1,bJ.1,bb.1];rfl
  .exact HF (pH.mpr ⟨ca aJ.2 (xc 2 (ca (gc _ _) (gc _ _))),pH.mpr ⟨ca bJ.2 (xc 2 (ca (kG _ _) (gc _ _))),pH.mpr ⟨ca bb.2 (xc 2 (kG _ _)),eh _⟩⟩⟩)
theorem agA{t:Mine.T}(cK:eu.le C)(ak:C.cv t)(hd:t.ay<=29):fu j .ne (C.enc t) (.tup [.str [97], .int 0])=B (!decide (t= .a [91,93])):=by
 have aF:=HG (C:=C) t
 show(jg (C.enc t) (.tup [.str [97], .int 0])).map (!·)=_
 have:jg (C.enc t) (.tup [.str [97], .int 0])=lO (C.enc t) (.tup [.str [97], .int 0]):=aQ ⟨aF.1,rfl,by right,bw rfl⟩
 rw[this]
 cases t with
 |a s=>
  show((B (G&&(decide ((C.no s:Int)=0)&&G))):Option Bool).map (!·)=_
  rw[show decide ((C.no s:Int)=0)=decide (s=[91,93])from Bo cK ak qW.1 uO.1,Bm,sM]
  exact congrArg (λ b=>B (!b)) (decide_eq_decide.mpr ⟨λ e=>by rw[e],λ e=>by injection e⟩)
 |_=>rfl
end
section
variable{P:em}{k:Nat}{j D:St}{Q:V->St->Prop}{W:g7}{A:cJ}{O:fs}{o:du}{C:bi}{T:bY}{w hV:bZ}{st eS:List V}
theorem cF.one(h:cF W A O o C T w st j){r:Nat}(aO: ¬W.dx r)(mj: ∀b,(b=A.x\/b=A.t\/b=A.d\/b=A.f\/b=A.g\/b=O.x\/b=O.p\/b=O.i\/b=O.o\/b=W.nm\/b=W.tk)->b≠r)(s:bP (λ x=>x=r) j D):cF W A O o C T w st D:=by
 have g: ∀b,(b=A.x\/b=A.t\/b=A.d\/b=A.f\/b=A.g\/b=O.x\/b=O.p\/b=O.i\/b=O.o\/b=W.nm\/b=W.tk)->D b=j b:= λ b az=>s b (mj b az)
 have m: ∀b,W.dx b->D b=j b:= λ b az=>s b λ e=>aO (e▸az)
 refine⟨h.b4.keep s.ex ⟨?_,?_,?_,?_,?_⟩,h.op.keep .refl s.ex ⟨?_,?_,?_,?_⟩,⟨?_,?_,?_,?_,?_,h.wr.mi⟩,h.cK,h.ok,h.I,h.gI,h.pg⟩
 .exact mj _ (.inl rfl)
 .exact mj _ (.inr (.inl rfl))
 .exact mj _ (.inr (.inr (.inl rfl)))
 .exact mj _ (.inr (.inr (.inr (.inl rfl))))
 .exact mj _ (.inr (.inr (.inr (.inr (.inl rfl)))))
 .exact mj _ (.inr (.inr (.inr (.inr (.inr (.inl rfl))))))
 .exact mj _ (.inr (.inr (.inr (.inr (.inr (.inr (.inl rfl)))))))
 .exact mj _ (.inr (.inr (.inr (.inr (.inr (.inr (.inr (.inl rfl))))))))
 .exact mj _ (.inr (.inr (.inr (.inr (.inr (.inr (.inr (.inr (.inl rfl)))))))))
 .rw[m _ (.inl rfl)];exact h.wr.y
 .rw[g _ (.inr (.inr (.inr (.inr (.inr (.inr (.inr (.inr (.inr (.inl rfl))))))))))];exact h.wr.nm
 .rw[g _ (.inr (.inr (.inr (.inr (.inr (.inr (.inr (.inr (.inr (.inr rfl))))))))))];exact h.wr.tk
 .rw[m _ (.inr (.inl rfl))];exact h.wr.u
 .rw[m _ (.inr (.inr rfl))];exact h.wr.f3
structure Og(W:g7)(A:cJ)(O:fs)(r:Nat):Prop where
 m: ¬W.dx r
 a: ∀b,(b=A.x\/b=A.t\/b=A.d\/b=A.f\/b=A.g\/b=O.x\/b=O.p\/b=O.i\/b=O.o\/b=W.nm\/b=W.tk)->b≠r
theorem cF.new(h:cF W A O o C T w st j){r:Nat}(aO:j r=J):Og W A O r:=by
 refine⟨h.fresh aO,?_⟩
 rintro b (rfl|rfl|rfl|rfl|rfl|rfl|rfl|rfl|rfl|rfl|rfl)
 .exact a0 h.b4.x aO
 .exact a0 h.b4.t aO
 .exact a0 h.b4.d aO
 .exact a0 h.b4.f aO
 .exact a0 h.b4.g aO
 .exact a0 h.op.r.x aO
 .exact a0 h.op.r.p aO
 .exact a0 h.op.r.i aO
 .exact a0 h.op.r.o aO
 .exact a0 h.wr.nm aO
 .exact a0 h.wr.tk aO
theorem cF.put(h:cF W A O o C T w st j){r:Nat}(n:Og W A O r)(s:bP (λ x=>x=r) j D):cF W A O o C T w st D:=h.one n.m n.a s
theorem q1{r:Nat}{bG:Nat->Prop}(aO:j r=J){aP:St}(e:aR bG j aP)(s:bP (λ x=>x=r) aP D):aR bG j D:= λ b o az m=>(s b (a0 az aO)).trans (e b o az m)
theorem amJ{l:List dB}:(l.map (eG C)).reverse=(l.map (eG C)).reverse:=rfl
theorem agB{hd bH:Mine.T}(h:cF W A O o C T w st j)(ak:C.cv (.a3 [46] hd bH))(bb:(Mine.T.a3 [46] hd bH).ay<=29)(ah:w.out.length+4<=5000)(ab:st.length<=400)
  (q: ∀D,cF W A O o C T (w.run (.tk (.pu 91))) (st++((.da hd 999 G::gR bH).map (eG C)).reverse) D->aR W.dx j D->Q .none D):aj (k+6) 420 [.ref W.y,C.enc (.a3 [46] hd bH)] j Q:=by
 refine aff ?_;left
 refine agv h.cK ak (ca bb (by decide)) λ c aP ap agC ao=>?_;left
 have Y:=h.old ao
 have q2:=h.fresh ap
 refine kh ?_;left
 refine cc Y.wr.y rfl rfl (f:=371) rfl ?_;left
 refine ou (p:= .pu 91) Y nofun (bw rfl) (by right) λ bA Z aH=>?_;left
 intro r aO
 have aE:=Z.old (aR.new (o:= .list []) aO)
 have gS:=Z.new aO
 have km:=aH _ _ agC q2
 have Oh:c≠r:=a0 km aO
 have sU:(bA.set r (.list [])) c=_:=aC Oh km
 refine wQ sU ?_;left
 have aq:(kk (.a3 [46] hd bH)).length<=29:=ca (agz _) bb
 refine N9 (C:=C) (add:=kl) (r:=r) (iK:=5) (E:= λ u=> [B (.ref W.y),B (C.enc (.a3 [46] hd bH)),B (.ref c),B (C.enc (spT (.a3 [46] hd bH))),B (.ref r),u])
  (λ t l j K ah ab q=>?_) Oa (λ _ _=>rfl) (λ j D bF s=>(s c Oh).trans bF) (kk (.a3 [46] hd bH)) [] _ _ aY sU (by show 0+_<_;right) λ fY u bv FV jt=>?_
 .left
  refine Od ah (by right) ?_;left
  cases sV:l.isEmpty
  .left
   refine dH ah (by decide) ?_;left
   refine gG (i:= .rw 44) ah (by right) rfl ?_;left
   refine dH aY (by decide) ?_;left
   refine gG (i:= .da t 999 G) aY (by rw[bK];show _+1<_;right) rfl ?_;left
   refine q _ ?_ (bP.one.trans bP.one)
   rw[show kl l t=l++ [.rw 44]++ [.da t 999 G]from by unfold kl;rw[sV];rfl];exact aY
  .left
   refine dH ah (by decide) ?_;left
   refine gG (i:= .da t 999 G) ah (by right) rfl ?_;left
   refine q _ ?_ bP.one
   rw[show kl l t=l++ [.da t 999 G]from by unfold kl;rw[sV];rfl];exact aY
 .left
  rw[agA h.cK (Oe ak) (by exact Of bb)];left
  have agD:((kk (.a3 [46] hd bH)).foldl kl []).length<=60:=ca (Oc Oa _ _) (by show 0+_<=_;right)
  have eN:(kk (.a3 [46] hd bH)).foldl kl []++iQ (spT (.a3 [46] hd bH))= .da hd 999 G::gR bH:=agq bH [.da hd 999 G] rfl
  have amK:=aE.put gS jt
  have fin: ∀hD l,l= .da hd 999 G::gR bH->hD r=B (.list (l.map (eG C)))->bP (λ x=>x=r) (bA.set r (.list [])) hD->
    aK (aD (aj (k+5))) (.cons (.expr (.mx (.loc 0) 43 (.cons (.loc 4) .nil))) .nil) [B (.ref W.y),B (C.enc (.a3 [46] hd bH)),B (.ref c),B (C.enc (spT (.a3 [46] hd bH))),B (.ref r),u] hD (cr Q):= λ hD l e cw qy=>by
   have Oi:=aE.put gS qy
   left
   refine cc Oi.wr.y rfl rfl (f:=385) rfl ?_;left
   have jG:l.length<=70:=by
    rw[e, <-eN,bK]
    have:(iQ (spT (.a3 [46] hd bH))).length<=3:=by unfold iQ;split<;>exact bw rfl
    right
   refine pG Oi gS.m cw (by rw[c2];right) λ gO hj gY=>?_;left
   refine q gO (e▸hj) ?_
   exact(ao.none.trans (aH.trans (q1 aO (aR.new aO) qy))).trans gY
  by_cases aN:spT (.a3 [46] hd bH)= .a [91,93]
  .rw[ce aN];left
   refine dH bv (by decide) ?_;left
   refine gG (i:= .rw 93) bv (by right) rfl ?_
   exact fin _ ((kk (.a3 [46] hd bH)).foldl kl []++ [.rw 93]) (by rw[<-eN];unfold iQ;rw[aQ aN];rfl) aY (jt.trans bP.one)
  .rw[bW aN];left
   refine dH bv (by decide) ?_;left
   refine gG (i:= .rw 124) bv (by right) rfl ?_;left
   refine dH aY (by decide) ?_;left
   refine gG (i:= .da (spT (.a3 [46] hd bH)) 999 G) aY (by rw[bK];show _+1<_;right) rfl ?_;left
   refine dH aY (by decide) ?_;left
   refine gG (i:= .rw 93) aY (by rw[bK,bK];show _+1+1<_;right) rfl ?_
   exact fin _ ((kk (.a3 [46] hd bH)).foldl kl []++ [.rw 124]++ [.da (spT (.a3 [46] hd bH)) 999 G]++ [.rw 93]) (by rw[<-eN];unfold iQ;rw[aL aN,cM,cM];rfl) aY (jt.trans (bP.one.trans (bP.one.trans bP.one)))
end
section
variable{P:em}{k:Nat}{j D:St}{Q:V->St->Prop}{W:g7}{A:cJ}{O:fs}{o:du}{C:bi}{T:bY}{w hV:bZ}{st eS:List V}
theorem HH{v:V}{f:ai}{n:Nat}{au:List Mine.T}(h:cF W A O o C T w st j)(aA:C.has f n)(Y: ∀j,dU j v (.int 1)=B (.int (C.fn f n:Int)))(Z: ∀j,dU j v (.int 2)=B (.tup (au.map C.enc)))(aq:au.length<=3)(ah:w.out.length+4<=5000)(ab:st.length<=400)
  (q: ∀D,cF W A O o C T (w.run (.tk (.nm f))) (st++((au.foldl ow []++ [dB.rw 41]).map (eG C)).reverse) D->aR W.dx j D->Q .none D):aj (k+6) 427 [.ref W.y,v] j Q:=by
 refine afg ?_;left
 refine cc h.wr.y rfl rfl (f:=371) rfl ?_;left
 refine dm h.wr.y rfl rfl ?_;left
 refine dm h.wr.y rfl rfl ?_;left
 refine cc h.b4.x rfl rfl (f:=84) rfl ?_;left
 rw[Y];left
 refine sP h.b4 aA ?_;left
 refine dm h.wr.y rfl rfl ?_;left
 refine w9 h.b4 aA.1 λ aP ao=>?_;left
 have aE:=h.old ao
 refine uU aE aA.1 (by right) λ bA bv aH=>?_;left
 intro r aO
 have cw:=bv.old (aR.new (o:= .list []) aO)
 have gS:=bv.new aO
 rw[Z];left
 refine N9 (C:=C) (add:=ow) (r:=r) (iK:=3) (E:= λ u=> [B (.ref W.y),B v,B (.ref r),u])
  (λ t l j K ah ab q=>?_) Ob (λ _ _=>rfl) (λ j D bF s=>trivial) au [] _ _ aY trivial (by show 0+_<_;right) λ fY u hj FV jt=>?_
 .left
  refine Od ah (by right) ?_;left
  cases sV:l.isEmpty
  .left
   refine dH ah (by decide) ?_;left
   refine gG (i:= .rw 44) ah (by right) rfl ?_;left
   refine dH aY (by decide) ?_;left
   refine gG (i:= .da t 999 G) aY (by rw[bK];show _+1<_;right) rfl ?_;left
   refine q _ ?_ (bP.one.trans bP.one)
   rw[show ow l t=l++ [.rw 44]++ [.da t 999 G]from by unfold ow;rw[sV];rfl];exact aY
  .left
   refine dH ah (by decide) ?_;left
   refine gG (i:= .rw 40) ah (by right) rfl ?_;left
   refine dH aY (by decide) ?_;left
   refine gG (i:= .da t 999 G) aY (by rw[bK];show _+1<_;right) rfl ?_;left
   refine q _ ?_ (bP.one.trans bP.one)
   rw[show ow l t=l++ [.rw 40]++ [.da t 999 G]from by unfold ow;rw[sV];rfl];exact aY
 .left
  have agD:(au.foldl ow []).length<=6:=ca (Oc Ob _ _) (by show 0+_<=_;right)
  refine dH hj (by decide) ?_;left
  refine gG (i:= .rw 41) hj (by right) rfl (jy (λ s=>cF W A O o C T (w.run (.tk (.nm f))) st s/\s r=B (.list ((au.foldl ow []++ [dB.rw 41]).map (eG C)))/\aR W.dx j s) ⟨cw.put gS (jt.trans bP.one),aY,ao.none.trans (aH.trans (q1 aO (aR.new aO) (jt.trans bP.one)))⟩ λ hD kH=>?_)
  obtain⟨kH,agE,lq⟩:=kH
  left
  refine cc kH.wr.y rfl rfl (f:=385) rfl ?_;left
  refine pG kH gS.m agE (by rw[c2,bK];show _+(_+1)<_;right) λ gO jk gY=>?_;left
  exact q gO jk (lq.trans gY)
theorem agF{f:ai}{x:Mine.T}{e:cb}{m:Nat}(h:cF W A O o C T w st j)(ak:C.cv (.bf f x))(aF:nd e.2/\0<e.1)(ah:w.out.length+10<=5000)(ab:st.length<=400)
  (q: ∀D,cF W A O o C T ((gD f).foldl bZ.run (if m<e.1 then w.run (.tk (.pu 40))else w)) (st++((if m<e.1 then []++ [dB.da x (dh e) U]++ [dB.rw 41]else []++ [dB.da x (dh e) U]).map (eG C)).reverse) D->aR W.dx j D->Q .none D):
  aj (k+7) 441 [.ref W.y,C.enc (.bf f x),Br (B (.pre,e)), .int (m:Int)] j Q:=by
 refine G9 ?_
 show aK (aD (aj (k+6))) _ [B (.ref W.y),B (C.enc (.bf f x)),B (.tup [.str [112,114,101,102,105,120], .int (e.1:Int), .str e.2]),B (.int (m:Int)),J,J,J,J,J,J,J,J] j (cr Q)
 left
 refine sL ?_;left
 refine Be ?_;left
 rw[N2 aF.1 aF.2]
 refine kh ?_;left
 refine dm h.wr.y rfl rfl ?_;left
 refine cc h.b4.x rfl rfl (f:=84) rfl ?_;left
 refine sP h.b4 ak.1 ?_;left
 intro r aO
 have Y:=h.old (aR.new (o:= .list []) aO)
 have gS:=h.new aO
 rw[show decide ((m:Int)<e.1)=decide (m<e.1)from iM]
 have cW:aR W.dx j (j.set r (.list [])):=aR.new aO
 have ox:(j.set r (.list [])) r=B (.list (([]:List dB).map (eG C))):=aY
 by_cases aG:m<e.1
 .rw[aQ aG,aQ aG]at q
  rw[ce aG];left
  refine cc Y.wr.y rfl rfl (f:=371) rfl ?_;left
  refine ou (p:= .pu 40) Y nofun (bw rfl) (by omega) λ bA Z aH=>?_;left
  have c7:=w6 w (.tk (.pu 40))
  left
  refine cc Z.wr.y rfl rfl (f:=455) rfl ?_;left
  refine N5 Z ak.1.1 (by omega) λ dR aE cG=>?_;left
  have nf:=cG _ _ (aH _ _ ox gS.m) gS.m
  refine dH nf (by decide) ?_;left
  refine gG (i:= .da x (dh e) U) nf (bw rfl) rfl ?_;left
  rw[show decide ((m:Int)<e.1)=decide (m<e.1)from iM,ce aG];left
  refine dH aY (by decide) ?_;left
  refine gG (i:= .rw 41) aY (bw rfl) rfl (jy (λ s=>cF W A O o C T _ st s/\s r=B (.list (uW (eG C) _))/\aR W.dx j s) ⟨aE.put gS (bP.one.trans bP.one),aY,q1 aO (cW.trans (aH.trans cG)) (bP.one.trans bP.one)⟩ λ hD cw=>?_)
  obtain⟨bv,ng,ec⟩:=cw
  left
  refine cc bv.wr.y rfl rfl (f:=385) rfl ?_;left
  refine pG bv gS.m ng (by rw[c2];show _+2<_;omega) λ gO jk gY=>?_;left
  exact q gO jk (ec.trans gY)
 .rw[aL aG,aL aG]at q
  rw[bW aG];left
  refine cc Y.wr.y rfl rfl (f:=455) rfl ?_;left
  refine N5 Y ak.1.1 (by omega) λ dR aE cG=>?_;left
  have nf:=cG _ _ ox gS.m
  refine dH nf (by decide) ?_;left
  refine gG (i:= .da x (dh e) U) nf (bw rfl) rfl (jy (λ s=>cF W A O o C T _ st s/\s r=B (.list (uW (eG C) _))/\aR W.dx j s) ⟨aE.put gS bP.one,aY,q1 aO (cW.trans cG) bP.one⟩ λ hD cw=>?_)
  obtain⟨bv,ng,ec⟩:=cw
  left
  rw[show decide ((m:Int)<e.1)=decide (m<e.1)from iM,bW aG];left
  refine cc bv.wr.y rfl rfl (f:=385) rfl ?_;left
  refine pG bv gS.m ng (by rw[c2];show _+1<_;omega) λ gO jk gY=>?_;left
  exact q gO jk (ec.trans gY)
theorem agG{f:ai}{x:Mine.T}{e:cb}{m:Nat}(h:cF W A O o C T w st j)(ak:C.cv (.bf f x))(aF:mh e.2/\0<e.1)(ah:w.out.length+10<=5000)(ab:st.length<=400)
  (q: ∀D,cF W A O o C T (if m<e.1 then w.run (.tk (.pu 40))else w) (st++((if m<e.1 then []++ [dB.da x (e3 T o x e.1 (d6 e)) U]++ [dB.post f]++ [dB.rw 41]else []++ [dB.da x (e3 T o x e.1 (d6 e)) U]++ [dB.post f]).map (eG C)).reverse) D->aR W.dx j D->Q .none D):
  aj (k+7) 441 [.ref W.y,C.enc (.bf f x),Br (B (.post,e)), .int (m:Int)] j Q:=by
 refine G9 ?_
 show aK (aD (aj (k+6))) _ [B (.ref W.y),B (C.enc (.bf f x)),B (.tup [.str [112,111,115,116,102,105,120], .int (e.1:Int), .str e.2]),B (.int (m:Int)),J,J,J,J,J,J,J,J] j (cr Q)
 left
 refine sL ?_;left
 refine Be ?_;left
 rw[N4 aF.1 aF.2]
 refine kh ?_;left
 refine dm h.wr.y rfl rfl ?_;left
 refine cc h.b4.x rfl rfl (f:=84) rfl ?_;left
 refine sP h.b4 ak.1 ?_;left
 intro r aO
 have Y:=h.old (aR.new (o:= .list []) aO)
 have gS:=h.new aO
 rw[show decide ((m:Int)<e.1)=decide (m<e.1)from iM]
 have cW:aR W.dx j (j.set r (.list [])):=aR.new aO
 have ox:(j.set r (.list [])) r=B (.list (([]:List dB).map (eG C))):=aY
 by_cases aG:m<e.1
 .rw[aQ aG,aQ aG]at q
  rw[ce aG];left
  refine cc Y.wr.y rfl rfl (f:=371) rfl ?_;left
  refine ou (p:= .pu 40) Y nofun (bw rfl) (by right) λ bA Z aH=>?_;left
  have nf:=aH _ _ ox gS.m
  refine dH nf (by decide) ?_;left
  refine cc Z.wr.y rfl rfl (f:=448) rfl ?_;left
  refine Bt Z ak.2 aF.2 ?_;left
  refine gG (i:= .da x (e3 T o x e.1 (d6 e)) U) nf (bw rfl) rfl ?_;left
  refine dH aY (by decide) ?_;left
  refine gG (i:= .post f) aY (bw rfl) rfl ?_;left
  rw[show decide ((m:Int)<e.1)=decide (m<e.1)from iM,ce aG];left
  refine dH aY (by decide) ?_;left
  refine gG (i:= .rw 41) aY (bw rfl) rfl (jy (λ s=>cF W A O o C T _ st s/\s r=B (.list (uW (eG C) _))/\aR W.dx j s) ⟨Z.put gS (bP.one.trans (bP.one.trans bP.one)),aY,q1 aO (cW.trans aH) (bP.one.trans (bP.one.trans bP.one))⟩ λ hD cw=>?_)
  obtain⟨bv,ng,ec⟩:=cw
  left
  refine cc bv.wr.y rfl rfl (f:=385) rfl ?_;left
  refine pG bv gS.m ng (by rw[c2];show _+3<_;right) λ gO jk gY=>?_;left
  exact q gO jk (ec.trans gY)
 .rw[aL aG,aL aG]at q
  rw[bW aG];left
  refine dH ox (by decide) ?_;left
  refine cc Y.wr.y rfl rfl (f:=448) rfl ?_;left
  refine Bt Y ak.2 aF.2 ?_;left
  refine gG (i:= .da x (e3 T o x e.1 (d6 e)) U) ox (bw rfl) rfl ?_;left
  refine dH aY (by decide) ?_;left
  refine gG (i:= .post f) aY (bw rfl) rfl (jy (λ s=>cF W A O o C T _ st s/\s r=B (.list (uW (eG C) _))/\aR W.dx j s) ⟨Y.put gS (bP.one.trans bP.one),aY,q1 aO cW (bP.one.trans bP.one)⟩ λ hD cw=>?_)
  obtain⟨bv,ng,ec⟩:=cw
  left
  rw[show decide ((m:Int)<e.1)=decide (m<e.1)from iM,bW aG];left
  refine cc bv.wr.y rfl rfl (f:=385) rfl ?_;left
  refine pG bv gS.m ng (by rw[c2];show _+2<_;right) λ gO jk gY=>?_;left
  exact q gO jk (ec.trans gY)
theorem agH{f:ai}{x y:Mine.T}{e:cb}{m:Nat}(h:cF W A O o C T w st j)(ak:C.cv (.a3 f x y))(aF:iP e.2/\0<e.1)(ah:w.out.length+10<=5000)(ab:st.length<=400)
  (q: ∀D,cF W A O o C T (if m<e.1 then w.run (.tk (.pu 40))else w) (st++((if m<e.1 then []++ [dB.da x (e3 T o x e.1 (d6 e)) U]++ [dB.inf f]++ [dB.da y (dh e) U]++ [dB.rw 41]else []++ [dB.da x (e3 T o x e.1 (d6 e)) U]++ [dB.inf f]++ [dB.da y (dh e) U]).map (eG C)).reverse) D->aR W.dx j D->Q .none D):
  aj (k+7) 441 [.ref W.y,C.enc (.a3 f x y),Br (B (.inf,e)), .int (m:Int)] j Q:=by
 refine G9 ?_
 show aK (aD (aj (k+6))) _ [B (.ref W.y),B (C.enc (.a3 f x y)),B (.tup [.str [105,110,102,105,120], .int (e.1:Int), .str e.2]),B (.int (m:Int)),J,J,J,J,J,J,J,J] j (cr Q)
 left
 refine sL ?_;left
 refine Be ?_;left
 rw[N3 aF.1 aF.2]
 refine kh ?_;left
 refine dm h.wr.y rfl rfl ?_;left
 refine cc h.b4.x rfl rfl (f:=84) rfl ?_;left
 refine sP h.b4 ak.1 ?_;left
 intro r aO
 have Y:=h.old (aR.new (o:= .list []) aO)
 have gS:=h.new aO
 rw[show decide ((m:Int)<e.1)=decide (m<e.1)from iM]
 have cW:aR W.dx j (j.set r (.list [])):=aR.new aO
 have ox:(j.set r (.list [])) r=B (.list (([]:List dB).map (eG C))):=aY
 by_cases aG:m<e.1
 .rw[aQ aG,aQ aG]at q
  rw[ce aG];left
  refine cc Y.wr.y rfl rfl (f:=371) rfl ?_;left
  refine ou (p:= .pu 40) Y nofun (bw rfl) (by right) λ bA Z aH=>?_;left
  have nf:=aH _ _ ox gS.m
  refine dH nf (by decide) ?_;left
  refine cc Z.wr.y rfl rfl (f:=448) rfl ?_;left
  refine Bt Z ak.2.1 aF.2 ?_;left
  refine gG (i:= .da x (e3 T o x e.1 (d6 e)) U) nf (bw rfl) rfl ?_;left
  refine dH aY (by decide) ?_;left
  refine gG (i:= .inf f) aY (bw rfl) rfl ?_;left
  refine dH aY (by decide) ?_;left
  refine gG (i:= .da y (dh e) U) aY (bw rfl) rfl ?_;left
  rw[show decide ((m:Int)<e.1)=decide (m<e.1)from iM,ce aG];left
  refine dH aY (by decide) ?_;left
  refine gG (i:= .rw 41) aY (bw rfl) rfl (jy (λ s=>cF W A O o C T _ st s/\s r=B (.list (uW (eG C) _))/\aR W.dx j s) ⟨Z.put gS (bP.one.trans (bP.one.trans (bP.one.trans bP.one))),aY,q1 aO (cW.trans aH) (bP.one.trans (bP.one.trans (bP.one.trans bP.one)))⟩ λ hD cw=>?_)
  obtain⟨bv,ng,ec⟩:=cw
  left
  refine cc bv.wr.y rfl rfl (f:=385) rfl ?_;left
  refine pG bv gS.m ng (by rw[c2];show _+4<_;right) λ gO jk gY=>?_;left
  exact q gO jk (ec.trans gY)
 .rw[aL aG,aL aG]at q
  rw[bW aG];left
  refine dH ox (by decide) ?_;left
  refine cc Y.wr.y rfl rfl (f:=448) rfl ?_;left
  refine Bt Y ak.2.1 aF.2 ?_;left
  refine gG (i:= .da x (e3 T o x e.1 (d6 e)) U) ox (bw rfl) rfl ?_;left
  refine dH aY (by decide) ?_;left
  refine gG (i:= .inf f) aY (bw rfl) rfl ?_;left
  refine dH aY (by decide) ?_;left
  refine gG (i:= .da y (dh e) U) aY (bw rfl) rfl (jy (λ s=>cF W A O o C T _ st s/\s r=B (.list (uW (eG C) _))/\aR W.dx j s) ⟨Y.put gS (bP.one.trans (bP.one.trans bP.one)),aY,q1 aO cW (bP.one.trans (bP.one.trans bP.one))⟩ λ hD cw=>?_)
  obtain⟨bv,ng,ec⟩:=cw
  left
  rw[show decide ((m:Int)<e.1)=decide (m<e.1)from iM,bW aG];left
  refine cc bv.wr.y rfl rfl (f:=385) rfl ?_;left
  refine pG bv gS.m ng (by rw[c2];show _+3<_;right) λ gO jk gY=>?_;left
  exact q gO jk (ec.trans gY)
end
noncomputable def q3:dB->Nat
 | .da t _ _=>5*t.ay
 |_=>1
noncomputable def kS(l:List dB):Nat:=(l.map q3).sum
def q4(C:bi):dB->Prop
 | .da t _ _=>C.cv t/\t.fit
 | .inf f=>f∈C.texts
 | .post f=>f∈C.texts
 |_=>True
theorem agI{a b:List dB}:kS (a++b)=kS a+kS b:=by unfold kS;rw[fO,List.sum_append]
theorem uX{i:dB}{l:List dB}:kS (i::l)=q3 i+kS l:=by unfold kS;rw[h5,abH]
theorem amL:kS []=0:=rfl
theorem agJ{T:bY}{o:du}: ∀t:Mine.T,(bd T o t).2=(gR t).flatMap (ov T o):=by
 intro b0;induction b0 with
 |a3 f h bH dY eU=>
  by_cases e:f=[46]
  .have Y:(bd T o (.a3 f h bH)).2= .rw (.pu 44)::((bd T o h).1 999 G++(bd T o bH).2):=by rw[m4,aQ e]
   have Z:gR (.a3 f h bH)= .rw 44:: .da h 999 G::gR bH:=aQ e
   rw[Y,Z,eU];rfl
  .have Y:(bd T o (.a3 f h bH)).2= .rw (.pu 124)::((bd T o (.a3 f h bH)).1 999 G++ [.rw (.pu 93)]):=by rw[m4,aL e];rfl
   have Z:gR (.a3 f h bH)=[.rw 124, .da (.a3 f h bH) 999 G, .rw 93]:=aL e
   rw[Y,Z];rfl
 |a s=>
  by_cases e:s=[91,93]
  .have Z:gR (.a s)=[.rw 93]:=aQ e
   rw[Z];exact aQ e
  .have Z:gR (.a s)=[.rw 124, .da (.a s) 999 G, .rw 93]:=aL e
   rw[Z];exact aL e
 |v _=>
  exact rfl
 |n _=>
  exact rfl
 |i _=>
  exact rfl
 |bf _ _ dY=>
  exact rfl
 |dp _ _ _ _ dY eU jT=>
  exact rfl
theorem agK: ∀t:Mine.T,kS (gR t)<=5*t.ay+2:=by
 intro b0;induction b0 with
 |a3 f h bH dY eU=>
  by_cases e:f=[46]
  .have Z:gR (.a3 f h bH)= .rw 44:: .da h 999 G::gR bH:=aQ e
   have:=eU
   rw[Z,uX,uX]
   show 1+(5*h.ay+_)<=5*(h.ay+bH.ay+1)+2
   right
  .have Z:gR (.a3 f h bH)=[.rw 124, .da (.a3 f h bH) 999 G, .rw 93]:=aL e
   rw[Z];show 1+(_+(1+0))<=_;show 1+(5*_+(1+0))<=_;right
 |a s=>
  by_cases e:s=[91,93]
  .have Z:gR (.a s)=[.rw 93]:=aQ e
   rw[Z];exact bw rfl
  .have Z:gR (.a s)=[.rw 124, .da (.a s) 999 G, .rw 93]:=aL e
   rw[Z];exact bw rfl
 |v _=>
  exact bw rfl
 |n _=>
  exact bw rfl
 |i _=>
  exact bw rfl
 |bf f x dY=>
  show 1+(5*(x.ay+1)+(1+0))<=5*(x.ay+1)+2;right
 |dp f x y z dY eU jT=>
  show 1+(5*(x.ay+y.ay+z.ay+1)+(1+0))<=5*(x.ay+y.ay+z.ay+1)+2;right
theorem agL{C:bi}: ∀t:Mine.T,C.cv t->t.fit-> ∀i∈gR t,q4 C i:=by
 intro b0;induction b0 with
 |a3 f h bH dY eU=>
  intro ak aA
  by_cases e:f=[46]
  .have Z:gR (.a3 f h bH)= .rw 44:: .da h 999 G::gR bH:=aQ e
   rw[Z]
   exact dS.mpr ⟨trivial,dS.mpr ⟨⟨ak.2.1,aA.2.1⟩,eU ak.2.2 aA.2.2⟩⟩
  .have Z:gR (.a3 f h bH)=[.rw 124, .da (.a3 f h bH) 999 G, .rw 93]:=aL e
   rw[Z]
   exact dS.mpr ⟨trivial,dS.mpr ⟨⟨ak,aA⟩,dS.mpr ⟨trivial,nofun⟩⟩⟩
 |a s=>
  intro ak aA
  by_cases e:s=[91,93]
  .have Z:gR (.a s)=[.rw 93]:=aQ e
   rw[Z];exact dS.mpr ⟨trivial,nofun⟩
  .have Z:gR (.a s)=[.rw 124, .da (.a s) 999 G, .rw 93]:=aL e
   rw[Z]
   exact dS.mpr ⟨trivial,dS.mpr ⟨⟨ak,aA⟩,dS.mpr ⟨trivial,nofun⟩⟩⟩
 |v _=>
  intro ak aA
  exact dS.mpr ⟨trivial,dS.mpr ⟨⟨ak,aA⟩,dS.mpr ⟨trivial,nofun⟩⟩⟩
 |n _=>
  intro ak aA
  exact dS.mpr ⟨trivial,dS.mpr ⟨⟨ak,aA⟩,dS.mpr ⟨trivial,nofun⟩⟩⟩
 |i _=>
  intro ak aA
  exact dS.mpr ⟨trivial,dS.mpr ⟨⟨ak,aA⟩,dS.mpr ⟨trivial,nofun⟩⟩⟩
 |bf _ _ dY=>
  intro ak aA
  exact dS.mpr ⟨trivial,dS.mpr ⟨⟨ak,aA⟩,dS.mpr ⟨trivial,nofun⟩⟩⟩
 |dp _ _ _ _ dY eU jT=>
  intro ak aA
  exact dS.mpr ⟨trivial,dS.mpr ⟨⟨ak,aA⟩,dS.mpr ⟨trivial,nofun⟩⟩⟩
structure sW(T:bY)(o:du)(C:bi)(t:Mine.T)(m:Nat)(a:Bool)(es:List c8)(eN:List dB):Prop where
 ev:(bd T o t).1 m a=es++eN.flatMap (ov T o)
 n:kS eN<5*t.ay
 ok: ∀i∈eN,q4 C i
 l:es.length<=4
section
variable{P:em}{k:Nat}{j D:St}{Q:V->St->Prop}{W:g7}{A:cJ}{O:fs}{o:du}{C:bi}{T:bY}{w hV:bZ}{st eS:List V}
theorem agM{f:ai}{x y z:Mine.T}{m:Nat}{a:Bool}(h:cF W A O o C T w st j)(ak:C.cv (.dp f x y z))(aA:(Mine.T.dp f x y z).fit)(ah:w.out.length+10<=5000)(ab:st.length<=400)
  (q: ∀D es eN,sW T o C (.dp f x y z) m a es eN->cF W A O o C T (es.foldl bZ.run w) (st++(eN.map (eG C)).reverse) D->aR W.dx j D->Q .none D):aj (k+8) 392 [.ref W.y,C.enc (.dp f x y z), .int (m:Int), .bool a] j Q:=by
 refine uI ?_;left
 rw[pF h.cK ak.1,bW λ e=>nomatch e.2];left
 refine cc h.wr.y rfl rfl (f:=406) rfl ?_;left
 refine N0 h ak.1 ?_;left
 rw[uT h.cK ak.1,bW λ e=>nomatch e.2];left
 refine cc h.wr.y rfl rfl (f:=434) rfl ?_;left
 refine Bs h ak ?_
 have eM:fa T o (.dp f x y z)=J:=by unfold fa;split<;>rfl
 rw[eM]
 show nH _ _ _ V.none _
 left
 refine cc h.wr.y rfl rfl (f:=427) rfl ?_;left
 refine HH (au:=[x,y,z]) h ak.1 (λ _=>rfl) (λ _=>rfl) (bw rfl) (by right) ab λ aP Y ao=>?_;left
 refine q aP [.tk (.nm f)] _ ⟨?_,?_,?_,bw rfl⟩ Y ao
 .show _=_::(_::((bd T o x).1 999 G++(_::((bd T o y).1 999 G++(_::((bd T o z).1 999 G++(_:: [])))))))
  rfl
 .show 1+(5*x.ay+(1+(5*y.ay+(1+(5*z.ay+(1+0))))))<5*(x.ay+y.ay+z.ay+1);right
 .exact dS.mpr ⟨trivial,dS.mpr ⟨⟨ak.2.1,aA.2.1⟩,dS.mpr ⟨trivial,dS.mpr ⟨⟨ak.2.2.1,aA.2.2.1⟩,dS.mpr ⟨trivial,dS.mpr ⟨⟨ak.2.2.2,aA.2.2.2⟩,dS.mpr ⟨trivial,nofun⟩⟩⟩⟩⟩⟩⟩
theorem Oj{z:Int}(bb:z.natAbs<10^60):(cI.it z).cX≠ []/\(cI.it z).cX.length<=1000:=by
 show hU z≠ []/\(hU z).length<=1000
 have hd:=px bb (by decide)
 unfold hU
 split
 .exact ⟨nofun,ca (jI hd) (bw rfl)⟩
 .exact ⟨wK,ca hd (bw rfl)⟩
theorem Ol{n:Nat}(aq:n<10^60):(cI.aX (ii n)).cX≠ []/\(cI.aX (ii n)).cX.length<=1000:=by
 show ii n≠ []/\(ii n).length<=1000
 have hd:=px (dP (Bc n 26) aq) (by decide)
 unfold ii
 refine⟨nofun,?_⟩
 split
 .exact bw rfl
 .exact ca (jI hd) (bw rfl)
theorem agN{n m:Nat}{a:Bool}(h:cF W A O o C T w st j)(aq:n<4)(ah:w.out.length+10<=5000)
  (q: ∀D es eN,sW T o C (.v n) m a es eN->cF W A O o C T (es.foldl bZ.run w) (st++(eN.map (eG C)).reverse) D->aR W.dx j D->Q .none D):aj (k+8) 392 [.ref W.y,C.enc (.v n), .int (m:Int), .bool a] j Q:=by
 refine uI ?_;left
 refine cc h.wr.y rfl rfl (f:=371) rfl ?_;left
 refine cc h.wr.y rfl rfl (f:=399) rfl ?_;left
 refine agm h aq ?_;left
 refine ou (p:= .aX (lr o n)) h (h.ok.ln n aq).1 (h.ok.ln n aq).2 (by omega) λ aP Y ao=>?_;left
 exact q aP [.tk (.aX (lr o n))] [] ⟨rfl,bw rfl,nofun,bw rfl⟩ (by rw[qU,Bw,dV];exact Y) ao
theorem agO{z:Int}{m:Nat}{a:Bool}(h:cF W A O o C T w st j)(bb:z.natAbs<10^60)(ah:w.out.length+10<=5000)
  (q: ∀D es eN,sW T o C (.i z) m a es eN->cF W A O o C T (es.foldl bZ.run w) (st++(eN.map (eG C)).reverse) D->aR W.dx j D->Q .none D):aj (k+8) 392 [.ref W.y,C.enc (.i z), .int (m:Int), .bool a] j Q:=by
 refine uI ?_;left
 refine cc h.wr.y rfl rfl (f:=371) rfl ?_;left
 refine NH bb λ aP ao=>?_;left
 refine ou (p:= .it z) (h.old ao) (Oj bb).1 (Oj bb).2 (by right) λ bA Z aH=>?_;left
 exact q bA [.tk (.it z)] [] ⟨rfl,bw rfl,nofun,bw rfl⟩ (by rw[qU,Bw,dV];exact Z) (ao.none.trans aH)
theorem agP{s:ai}{m:Nat}{a:Bool}(h:cF W A O o C T w st j)(ab:s∈C.texts)(ah:w.out.length+10<=5000)
  (q: ∀D es eN,sW T o C (.a s) m a es eN->cF W A O o C T (es.foldl bZ.run w) (st++(eN.map (eG C)).reverse) D->aR W.dx j D->Q .none D):aj (k+8) 392 [.ref W.y,C.enc (.a s), .int (m:Int), .bool a] j Q:=by
 refine uI ?_;left
 refine cc h.wr.y rfl rfl (f:=413) rfl ?_;left
 refine agr h ab (by right) λ aP hV e Y ao=>?_;left
 refine q aP ((bd T o (.a s)).1 0 a) [] ⟨(dV _).symm,bw rfl,nofun,?_⟩ (by rw[qU,Bw,dV, <-e];exact Y) ao
 show(if(!a&&T.op s)=G then [c8.tk (.pu 40), .rw (.nm s), .rw (.pu 41)]else [c8.tk (.nm s)]).length<=4
 split<;>exact bw rfl
theorem HI{l:List c8}:iI G l= .tk (.pu 40)::(l++ [.rw (.pu 41)]):=rfl
theorem HJ{l:List c8}:iI U l=l:=rfl
theorem agQ{f:ai}{x y:Mine.T}{m:Nat}{a:Bool}(h:cF W A O o C T w st j)(ak:C.cv (.a3 f x y))(aA:(Mine.T.a3 f x y).fit)(bb:(Mine.T.a3 f x y).ay<=29)(ah:w.out.length+10<=5000)(ab:st.length<=400)
  (q: ∀D es eN,sW T o C (.a3 f x y) m a es eN->cF W A O o C T (es.foldl bZ.run w) (st++(eN.map (eG C)).reverse) D->aR W.dx j D->Q .none D):aj (k+8) 392 [.ref W.y,C.enc (.a3 f x y), .int (m:Int), .bool a] j Q:=by
 have er:(Mine.T.a3 f x y).ay=x.ay+y.ay+1:=rfl
 refine uI ?_;left
 rw[pF h.cK ak.1]
 by_cases hd:f=[46]
 .rw[ce ⟨hd,rfl⟩];left
  subst hd
  refine cc h.wr.y rfl rfl (f:=420) rfl ?_;left
  refine agB h ak bb (by right) ab λ aP Y ao=>?_;left
  refine q aP [.tk (.pu 91)] _ ⟨?_,?_,?_,bw rfl⟩ Y ao
  .rw[m4,aQ rfl]
   show _=c8.tk (.pu 91)::((bd T o x).1 999 G++(gR y).flatMap (ov T o))
   rw[<-agJ]
  .have:=agK y
   rw[uX,er];show 5*x.ay+_<_;right
  .exact dS.mpr ⟨⟨ak.2.1,aA.2.1⟩,agL y ak.2.2 aA.2.2⟩
 rw[bW λ e=>hd e.1];left
 refine cc h.wr.y rfl rfl (f:=406) rfl ?_;left
 refine NZ h ak.1 ?_;left
 rw[uT h.cK ak.1,bW λ e=>nomatch e.2];left
 refine cc h.wr.y rfl rfl (f:=434) rfl ?_;left
 refine Bs h ak ?_
 have aF:(bd T o (.a3 f x y)).1 m a=match fa T o (.a3 f x y)with
   |some (_,e)=>iI (decide (m<e.1)) ((bd T o x).1 (e3 T o x e.1 (d6 e)) U++hF f++(bd T o y).1 (dh e) U)
   |none=> .tk (.nm f):: .rw (.pu 40)::((bd T o x).1 999 G++ .rw (.pu 44)::((bd T o y).1 999 G++ [.rw (.pu 41)])):=by rw[m4,aL hd];rfl
 cases eM:fa T o (.a3 f x y)with
 |none=>
  rw[eM]at aF
  show nH _ _ _ V.none _
  left
  refine cc h.wr.y rfl rfl (f:=427) rfl ?_;left
  refine HH (au:=[x,y]) h ak.1 (λ _=>rfl) (λ _=>rfl) (bw rfl) (by right) ab λ aP Y ao=>?_;left
  refine q aP [.tk (.nm f)] _ ⟨aF.trans rfl,?_,?_,bw rfl⟩ Y ao
  .rw[er];show 1+(5*x.ay+(1+(5*y.ay+(1+0))))<_;right
  .exact dS.mpr ⟨trivial,dS.mpr ⟨⟨ak.2.1,aA.2.1⟩,dS.mpr ⟨trivial,dS.mpr ⟨⟨ak.2.2,aA.2.2⟩,dS.mpr ⟨trivial,nofun⟩⟩⟩⟩⟩
 |some w8=>
  obtain⟨s,e⟩:=w8
  have bo:s= .inf:=(uD eM).2.2.1
  subst bo
  rw[eM]at aF;dsimp only at aF
  obtain⟨bX,_,Z⟩:=Hz h.I eM
  show nH _ _ _ (.tup [.str (Bq .inf), .int (e.1:Int), .str e.2]) _
  left
  refine cc h.wr.y rfl rfl (f:=441) rfl ?_;left
  refine agH h ak ⟨Z,bX⟩ ah ab λ aP Y ao=>?_;left
  by_cases aG:m<e.1
  .rw[aQ aG,aQ aG]at Y
   rw[ce aG,HI]at aF
   refine q aP [.tk (.pu 40)] _ ⟨aF.trans ?_,?_,?_,bw rfl⟩ Y ao
   .show _=c8.tk (.pu 40)::((bd T o x).1 (e3 T o x e.1 (d6 e)) U++(hF f++((bd T o y).1 (dh e) U++ [.rw (.pu 41)])))
    rw[cM,cM]
   .rw[er];show 5*x.ay+(1+(5*y.ay+(1+0)))<_;right
   .exact dS.mpr ⟨⟨ak.2.1,aA.2.1⟩,dS.mpr ⟨ak.1.1,dS.mpr ⟨⟨ak.2.2,aA.2.2⟩,dS.mpr ⟨trivial,nofun⟩⟩⟩⟩
  .rw[aL aG,aL aG]at Y
   rw[bW aG,HJ]at aF
   refine q aP [] _ ⟨aF.trans ?_,?_,?_,bw rfl⟩ Y ao
   .show _=(bd T o x).1 (e3 T o x e.1 (d6 e)) U++(hF f++((bd T o y).1 (dh e) U++ []))
    rw[dV,cM]
   .rw[er];show 5*x.ay+(1+(5*y.ay+0))<_;right
   .exact dS.mpr ⟨⟨ak.2.1,aA.2.1⟩,dS.mpr ⟨ak.1.1,dS.mpr ⟨⟨ak.2.2,aA.2.2⟩,nofun⟩⟩⟩
end
section
variable{P:em}{k:Nat}{j D:St}{Q:V->St->Prop}{W:g7}{A:cJ}{O:fs}{o:du}{C:bi}{T:bY}{w hV:bZ}{st eS:List V}
theorem HK{f:ai}{x:Mine.T}{n:Nat}(h:hE o f x=B n):x= .i n/\f=[36,86,65,82]:=by
 unfold hE at h
 split at h
 .rename_i ap
  have aA:=of_decide_eq_true (kv.mp ap).2
  rcases Bp (t:=x)with⟨_,aH⟩|⟨z,rfl,aH⟩
  .rw[aH]at h;cases h
  .rw[aH]at h
   split at h
   .rename_i bb
    cases h
    exact⟨by rw[agR bb],aA⟩
   .cases h
 .cases h
theorem agS{f:ai}{x:Mine.T}{m:Nat}{a:Bool}(h:cF W A O o C T w st j)(ak:C.cv (.bf f x))(aA:(Mine.T.bf f x).fit)(ah:w.out.length+10<=5000)(ab:st.length<=400)
  (q: ∀D es eN,sW T o C (.bf f x) m a es eN->cF W A O o C T (es.foldl bZ.run w) (st++(eN.map (eG C)).reverse) D->aR W.dx j D->Q .none D):aj (k+8) 392 [.ref W.y,C.enc (.bf f x), .int (m:Int), .bool a] j Q:=by
 have er:(Mine.T.bf f x).ay=x.ay+1:=rfl
 have uY:q4 C (.da x 0 U):=⟨ak.2,aA.2⟩
 refine uI ?_;left
 rw[pF h.cK ak.1,bW λ e=>nomatch e.2];left
 refine cc h.wr.y rfl rfl (f:=406) rfl ?_;left
 refine NY h ak.1 ?_
 have aF:(bd T o (.bf f x)).1 m a=_:=qL
 cases aq:hE o f x with
 |some n=>
  obtain⟨aJ,_⟩:=HK aq
  subst aJ
  have xd:n<10^60:=aA.2
  rw[aq]at aF;dsimp only at aF
  rw[show(B n).isSome=G from rfl];left
  refine cc h.wr.y rfl rfl (f:=371) rfl ?_;left
  refine afU xd λ aP ao=>?_;left
  refine ou (p:= .aX (ii n)) (h.old ao) (Ol xd).1 (Ol xd).2 (by omega) λ bA Z aH=>?_;left
  exact q bA [.tk (.aX (ii n))] [] ⟨aF.trans rfl,by rw[er];exact bw rfl,nofun,bw rfl⟩ (by rw[qU,Bw,dV];exact Z) (ao.none.trans aH)
 |none=>
  rw[aq]at aF;dsimp only at aF
  rw[show(J:Option Nat).isSome=U from rfl];left
  rw[uT h.cK ak.1]
  have b5:(bd T o (.bf f x)).1 m a=(match fa T o (.bf f x)with
   |some (.pre,e)=>iI (decide (m<e.1)) (gD f++(bd T o x).1 (dh e) U)
   |some (_,e)=>iI (decide (m<e.1)) ((bd T o x).1 (e3 T o x e.1 (d6 e)) U++ij f)
   |none=> .tk (.nm f):: .rw (.pu 40)::((bd T o x).1 999 G++ [.rw (.pu 41)]))->
    aK (aD (aj (k+7))) (match vJ.body with| .cons _ (.cons (.c4 _ _ (.cons (.c4 _ _ (.cons (.c4 _ _ (.cons (.c4 _ _ (.cons (.c4 _ _ (.cons (.c4 _ _ r) _)) _)) _)) _)) _)) _)=>r|_=> .nil) [B (.ref W.y),B (C.enc (.bf f x)),B (.int (m:Int)),B (.bool a),B (.str [115]),J] j (cr Q):= λ aF=>by
   left
   refine cc h.wr.y rfl rfl (f:=434) rfl ?_;left
   refine Bs h ak ?_
   cases eM:fa T o (.bf f x)with
   |none=>
    rw[eM]at aF
    show nH _ _ _ V.none _
    left
    refine cc h.wr.y rfl rfl (f:=427) rfl ?_;left
    refine HH (au:=[x]) h ak.1 (λ _=>rfl) (λ _=>rfl) (bw rfl) (by omega) ab λ aP Y ao=>?_;left
    refine q aP [.tk (.nm f)] _ ⟨aF.trans rfl,?_,?_,bw rfl⟩ Y ao
    .rw[er];show 1+(5*x.ay+(1+0))<_;omega
    .exact dS.mpr ⟨trivial,dS.mpr ⟨uY,dS.mpr ⟨trivial,nofun⟩⟩⟩
   |some w8=>
    obtain⟨s,e⟩:=w8
    rw[eM]at aF
    obtain⟨bX,_,Z⟩:=Hz h.I eM
    show nH _ _ _ (.tup [.str (Bq s), .int (e.1:Int), .str e.2]) _
    left
    refine cc h.wr.y rfl rfl (f:=441) rfl ?_;left
    cases s with
    |inf=>
     exfalso
     rcases(sy eM).2.2.2 with⟨q,_⟩|⟨q,_⟩<;>exact nomatch q
    |pre=>
     dsimp only at aF
     refine agF h ak ⟨Z,bX⟩ ah ab λ aP Y ao=>?_;left
     have bg:(gD f).length<=2:=by unfold gD;split<;>exact bw rfl
     by_cases aG:m<e.1
     .rw[aQ aG,aQ aG]at Y
      rw[ce aG,HI]at aF
      refine q aP (.tk (.pu 40)::gD f) _ ⟨aF.trans ?_,?_,?_,by rw[el];omega⟩ Y ao
      .show _=c8.tk (.pu 40)::(gD f++((bd T o x).1 (dh e) U++ [.rw (.pu 41)]))
       rw[cM]
      .rw[er];show 5*x.ay+(1+0)<_;omega
      .exact dS.mpr ⟨uY,dS.mpr ⟨trivial,nofun⟩⟩
     .rw[aL aG,aL aG]at Y
      rw[bW aG,HJ]at aF
      refine q aP (gD f) _ ⟨aF.trans ?_,?_,?_,by omega⟩ Y ao
      .show _=gD f++((bd T o x).1 (dh e) U++ [])
       rw[dV]
      .rw[er];show 5*x.ay+0<_;omega
      .exact dS.mpr ⟨uY,nofun⟩
    |post=>
     dsimp only at aF
     refine agG h ak ⟨Z,bX⟩ ah ab λ aP Y ao=>?_;left
     by_cases aG:m<e.1
     .rw[aQ aG,aQ aG]at Y
      rw[ce aG,HI]at aF
      refine q aP [.tk (.pu 40)] _ ⟨aF.trans ?_,?_,?_,bw rfl⟩ Y ao
      .show _=c8.tk (.pu 40)::((bd T o x).1 (e3 T o x e.1 (d6 e)) U++(ij f++ [.rw (.pu 41)]))
       rw[cM]
      .rw[er];show 5*x.ay+(1+(1+0))<_;omega
      .exact dS.mpr ⟨uY,dS.mpr ⟨ak.1.1,dS.mpr ⟨trivial,nofun⟩⟩⟩
     .rw[aL aG,aL aG]at Y
      rw[bW aG,HJ]at aF
      refine q aP [] _ ⟨aF.trans ?_,?_,?_,bw rfl⟩ Y ao
      .show _=(bd T o x).1 (e3 T o x e.1 (d6 e)) U++(ij f++ [])
       rw[dV]
      .rw[er];show 5*x.ay+(1+0)<_;omega
      .exact dS.mpr ⟨uY,dS.mpr ⟨ak.1.1,nofun⟩⟩
  by_cases ap:f=[123,125]
  .rw[ce ⟨ap,rfl⟩];left
   refine dm h.wr.y rfl rfl ?_;left
   cases bo:o.g6 with
   |true=>
    left
    refine b5 ?_
    rw[aL (λ e=>by rw[bo]at e;cases e.2)]at aF;exact aF
   |false=>
    left
    rw[aQ ⟨ap,bo⟩]at aF
    refine cc h.wr.y rfl rfl (f:=371) rfl ?_;left
    refine ou (p:= .pu 123) h nofun (bw rfl) (by omega) λ aP Y ao=>?_;left
    refine cc Y.wr.y rfl rfl (f:=385) rfl ?_;left
    intro r aO
    have Z:=Y.old (aR.new (o:= .list (([.da x 1201 G, .rw 125]:List dB).map (eG C))) aO)
    refine pG (X:=([.da x 1201 G, .rw 125]:List dB).map (eG C)) Z (Y.new aO).m aY (by rw[c2];show _+2<_;omega) λ bA aE cG=>?_;left
    refine q bA [.tk (.pu 123)] _ ⟨aF.trans rfl,?_,?_,bw rfl⟩ aE ((ao.trans (aR.new aO)).trans cG)
    .rw[er];show 5*x.ay+(1+0)<_;omega
    .exact dS.mpr ⟨uY,dS.mpr ⟨trivial,nofun⟩⟩
  .rw[bW λ e=>ap e.1];left
   refine b5 ?_
   rw[aL (λ e=>ap e.1)]at aF;exact aF
theorem agT{t:Mine.T}{m:Nat}{a:Bool}(h:cF W A O o C T w st j)(ak:C.cv t)(aA:t.fit)(bb:t.ay<=29)(ah:w.out.length+10<=5000)(ab:st.length<=400)
  (q: ∀D es eN,sW T o C t m a es eN->cF W A O o C T (es.foldl bZ.run w) (st++(eN.map (eG C)).reverse) D->aR W.dx j D->Q .none D):aj (k+8) 392 [.ref W.y,C.enc t, .int (m:Int), .bool a] j Q:=by
 cases t with
 |v n=>exact agN h aA ah q
 |n s=>exact aA.elim
 |i z=>exact agO h aA ah q
 |a s=>exact agP h ak ah q
 |bf f x=>exact agS h ak aA ah ab q
 |a3 f x y=>exact agQ h ak aA bb ah ab q
 |dp f x y z=>exact agM h ak aA ah ab q
end
abbrev q5:=Option V×Option V×Option V×Option V
section
variable{P:em}{k:Nat}{j D:St}{Q:V->St->Prop}{W:g7}{A:cJ}{O:fs}{o:du}{C:bi}{T:bY}{w hV:bZ}{st eS:List V}
theorem uZ: ∀i:dB,0<q3 i
 | .da t _ _=>by cases t<;>exact hC _
 | .rw _=>jx
 | .inf _=>jx
 | .post _=>jx
theorem agU: ∀l:List dB,l.length<=kS l:=by
 intro b0;induction b0 with
 |nil=>
  exact eh _
 |cons i l aB=>
  have:=aB
  have:=uZ i
  rw[uX,el];right
theorem agV{f:ai}:(hF f).length<=4:=by
 unfold hF;repeat (split; · exact bw rfl)
 exact bw rfl
theorem agW{f:ai}:(ij f).length<=4:=by
 unfold ij;split<;>exact bw rfl
theorem Om{js ml:Option V}{c:ST}{b:dz}{K:bM->ax->St->Prop}
  (body: ∀(i:dB) (st:List V) (w:bZ) (j:St) (u:q5) (n:Nat) (K:bM->ax->St->Prop),cF W A O o C T w (st++ [eG C i]) j->q4 C i->q3 i<=145->w.out.length+10<=5000->st.length<=400->
   (∀(D:St) (u:q5) (es:List c8) (eN:List dB),ov T o i=es++eN.flatMap (ov T o)->kS eN<q3 i->(∀aU∈eN,q4 C aU)->es.length<=4->cF W A O o C T (es.foldl bZ.run w) (st++(eN.map (eG C)).reverse) D->aR W.dx j D->ep c b n [B (.ref W.y),js,ml,u.1,u.2.1,u.2.2.1,u.2.2.2] D K)->
   ep c b (n+1) [B (.ref W.y),js,ml,u.1,u.2.1,u.2.2.1,u.2.2.2] j K)
  (done: ∀(w:bZ) (j:St) (u:q5) (n:Nat) (K:bM->ax->St->Prop),cF W A O o C T w [] j->K .next [B (.ref W.y),js,ml,u.1,u.2.1,u.2.2.1,u.2.2.2] j->ep c b (n+1) [B (.ref W.y),js,ml,u.1,u.2.1,u.2.2.1,u.2.2.2] j K):
  ∀(n:Nat) (l:List dB) (w:bZ) (j:St) (u:q5),kS l<=n->n<=145->(∀i∈l,q4 C i)->w.out.length+8*n<=4000->cF W A O o C T w (l.map (eG C)).reverse j->
   (∀(D:St) (u:q5),cF W A O o C T ((l.flatMap (ov T o)).foldl bZ.run w) [] D->aR W.dx j D->K .next [B (.ref W.y),js,ml,u.1,u.2.1,u.2.2.1,u.2.2.2] D)->
   ep c b (n+1) [B (.ref W.y),js,ml,u.1,u.2.1,u.2.2.1,u.2.2.2] j K
 |n,[],w,j,u,aq,Oo,ba,ah,h,q=>done w j u n K h (q j u h .refl)
 |0,i::l,w,j,u,aq,Oo,ba,ah,h,q=>absurd (hB (uZ i) (ca (by rw[uX];exact gc _ _) aq)) (vV 0)
 |n+1,i::l,w,j,u,aq,Oo,ba,ah,h,q=>by
  rw[uX]at aq
  have amM:=agU l
  have amN:=uZ i
  rw[h5,Ev]at h
  refine body i (l.map (eG C)).reverse w j u (n+1) K h (ba i (eT ..)) (by right) (by right) (by rw[zG,c2];right) λ D nV es eN ao aH cG ec h' ex=>?_
  have aO:=Hy es w
  refine Om body done n (eN++l) (es.foldl bZ.run w) D nV (by rw[agI];right) (by right) (λ aU fb=>?_) (by right) ?_ λ eL agX gX nh=>q eL agX ?_ (ex.trans nh)
  .rcases iG.mp fb with fb|fb
   .exact cG aU fb
   .exact ba aU (f0 _ fb)
  .rw[fO,Hk];exact h'
  .rw[List.flatMap_append,wL, <-wL]at gX
   rw[wW,ao,cM,wL]
   rw[wL]at gX ⊢
   exact gX
theorem agY{js ml:Option V}(i:dB)(st:List V)(w:bZ)(j:St)(u:q5)(n:Nat)(K:bM->ax->St->Prop)(h:cF W A O o C T w (st++ [eG C i]) j)(ba:q4 C i)(bo:q3 i<=145)(ah:w.out.length+10<=5000)(ab:st.length<=400)
  (c:ST) (b:dz) (ap:c=dF (aD (aj (k+9))) (match tJ.body with| .cons _ (.cons _ (.cons _ (.cons _ (.cons (.gi c _) _))))=>c|_=> .bad)) (az:b=aK (aD (aj (k+9))) (match tJ.body with| .cons _ (.cons _ (.cons _ (.cons _ (.cons (.gi _ b) _))))=>b|_=> .nil))
  (q: ∀(D:St) (u:q5) (es:List c8) (eN:List dB),ov T o i=es++eN.flatMap (ov T o)->kS eN<q3 i->(∀aU∈eN,q4 C aU)->es.length<=4->cF W A O o C T (es.foldl bZ.run w) (st++(eN.map (eG C)).reverse) D->aR W.dx j D->ep c b n [B (.ref W.y),js,ml,u.1,u.2.1,u.2.2.1,u.2.2.2] D K):
  ep c b (n+1) [B (.ref W.y),js,ml,u.1,u.2.1,u.2.2.1,u.2.2.2] j K:=by
 subst ap
 subst az
 rw[j1];left
 refine dm h.wr.y rfl rfl ?_;left
 refine Hd h.wr.f3 (by rw[bK];exact cA (by show _+1<=_;omega)) ?_;left
 have n3:(st++ [eG C i]).isEmpty=U:=agp.mpr (HD _ nofun)
 rw[n3];left
 refine dm h.wr.y rfl rfl ?_;left
 refine dH h.wr.f3 (by decide) ?_;left
 refine Nu h.wr.f3 (dP (jI ab) (by decide+kernel)) (jy (λ s=>cF W A O o C T w st s/\aR W.dx j s) ⟨?_,aR.set (.inr (.inr rfl))⟩ λ aP Y=>?_)
 .have s:bP W.dx j (j.set W.f3 (Mine.O.list st)):=bP.set (.inr (.inr rfl))
  exact h.next s ⟨aC (sJ h.wr.y h.wr.f3) h.wr.y,aC (kg h.wr.nm h.wr.f3) h.wr.nm,aC (kg h.wr.tk h.wr.f3) h.wr.tk,aC h.wr.mi h.wr.u,aY,h.wr.mi⟩
 obtain⟨Y,ao⟩:=Y
 left
 have fin: ∀es,ov T o i=es->([]:List dB).length=0->0<q3 i->es.length<=4-> ∀(D:St) (u:q5),cF W A O o C T (es.foldl bZ.run w) st D->aR W.dx aP D->ep (dF (aD (aj (k+9))) _) (aK (aD (aj (k+9))) _) n [B (.ref W.y),js,ml,u.1,u.2.1,u.2.2.1,u.2.2.2] D K:= λ es aF _ aT sV D u h' dL=>
  q D u es [] (by rw[List.flatMap_nil,dV];exact aF) aT nofun sV (by rw[qU,Bw,dV];exact h') (ao.trans dL)
 cases i with
 |da t m a=>
  have bb:t.ay<=29:=by have:5*t.ay<=145:=bo;omega
  refine A9 ?_;left
  refine cc Y.wr.y rfl rfl (f:=392) rfl ?_;left
  refine agT Y ba.1 ba.2 bb ah ab λ bA es eN Bx Z aH=>?_;left
  exact q bA (_,_,_,_) es eN Bx.ev Bx.n Bx.ok Bx.l Z (ao.trans aH)
 |rw c=>
  refine A9 ?_;left
  refine cc Y.wr.y rfl rfl (f:=364) rfl ?_;left
  refine Bu Y (by omega) λ bA Z aH=>?_;left
  exact fin [.rw (.pu c)] rfl rfl (uZ _) (bw rfl) bA (_,_,_,_) Z aH
 |inf f=>
  refine A9 ?_;left
  refine cc Y.wr.y rfl rfl (f:=462) rfl ?_;left
  refine agk Y ba (by omega) λ bA Z aH=>?_;left
  exact fin (hF f) rfl rfl (uZ _) agV bA (_,_,_,_) Z aH
 |post f=>
  refine A9 ?_;left
  refine cc Y.wr.y rfl rfl (f:=469) rfl ?_;left
  refine agl Y ba (by omega) λ bA Z aH=>?_;left
  exact fin (ij f) rfl rfl (uZ _) agW bA (_,_,_,_) Z aH
end
section
variable{P:em}{k:Nat}{j D:St}{Q:V->St->Prop}{W:g7}{A:cJ}{O:fs}{o:du}{C:bi}{T:bY}{w hV:bZ}{st eS:List V}
theorem Op{a:Nat}{kvs:List (a2×V)}{K:Nat->List (a2×V)->Prop}(h:j a=B (.dict kvs))(aA:kvs.all (λ x=>x.1.fR)=G)(q:K a kvs):vD (.ref a) j K:=by
 unfold vD;dsimp only;rw[h];exact⟨aA,q⟩
theorem agZ{n:Nat}{l:List (Nat×ai)}(h:n ∉ l.map (·.1)):dJ (de l) (.i (n:Int))=J:=by
 rw[uV]
 have:l.lookup n=J:=by
  induction l with
  |nil=>rfl
  |cons p l aB=>
   obtain⟨m,e⟩:=p
   rw[j6,beq_eq_false_iff_ne.mpr λ q=>h (eV.mpr (.inl q))]
   exact aB λ q=>h (f0 _ q)
 rw[this];rfl
theorem ag0{s:ai}{l:List (Nat×ai)}(h:s ∉ l.map (·.2)):dJ (kR l) (.s s)=J:=by
 have:=HB (s:=s) (l:=l)
 rw[bW h]at this
 exact FR.mp (by rw[<-ag1,this];rfl)
theorem ag2{b:dz}{x bL nm tk:Nat}{a9:List (Nat×V)}{E:Option V->Option V->ax}{K:bM->ax->St->Prop}(lx: ∀u v x y,((E u v).set 7 x).set 8 y=E x y)
  (body: ∀(n:Nat) (s:ai) (d:List (Nat×ai)) (j:St) (K:bM->ax->St->Prop),j x=B (.inst 472 bL a9)->j nm=B (.dict (de d))->j tk=B (.dict (kR d))->d.length<=100->n ∉ d.map (·.1)->s ∉ d.map (·.2)->
   (∀D,D nm=B (.dict (de (d++ [(n,s)])))->D tk=B (.dict (kR (d++ [(n,s)])))->bP (λ a=>a=nm\/a=tk) j D->K .next (E (B (.int (n:Int))) (B (.str s))) D)->b (E (B (.int (n:Int))) (B (.str s))) j K) (aJ:x≠nm/\x≠tk): ∀(l d:List (Nat×ai)) (j:St) (u v:Option V),j x=B (.inst 472 bL a9)->j nm=B (.dict (de d))->j tk=B (.dict (kR d))->d.length+l.length<=100->((d++l).map (·.1)).Nodup->((d++l).map (·.2)).Nodup->
   (∀D u v,D nm=B (.dict (de (d++l)))->D tk=B (.dict (kR (d++l)))->bP (λ a=>a=nm\/a=tk) j D->K .next (E u v) D)->
   mH 7 8 b ((de l).map λ x=> .tup [x.1.val,x.2]) (E u v) j K:=by
 intro b0;induction b0 with
 |nil=>
  intro d j u v Y Z aE ah ib i0 q
  exact⟨trivial,q j u v (by rw[dV];exact Z) (by rw[dV];exact aE) .refl⟩
 |cons bm l aB=>
  obtain⟨n,s⟩:=bm;intro d j u v Y Z aE ah ib i0 q
  show mH 7 8 b (.tup [.int (n:Int), .str s]::(de l).map λ x=> .tup [x.1.val,x.2]) _ _ _
  rw[Uk,lx]
  rw[fO,h5]at ib i0
  refine⟨trivial,body n s d j _ Y Z aE (ca (gc _ _) ah) (λ m=>(uL.mp ib).2.2 _ m _ (eT ..) rfl) (λ m=>(uL.mp i0).2.2 _ m _ (eT ..) rfl) λ D eX fk s'=>?_⟩
  refine aB (d++ [(n,s)]) D _ _ ((s' x λ q=>q.elim aJ.1 aJ.2).trans Y) eX fk (by rw[bK,Ho,pl,hS 1];exact ah) (by rw[cM,fO];exact ib) (by rw[cM,fO];exact i0) λ eL u v ed eQ HE=>q eL u v (by rw[cM]at ed;exact ed) (by rw[cM]at eQ;exact eQ) (s'.trans HE)
theorem qo{a b:Nat}(h:b≠a):(j.del a) b=j b:=by unfold St.del;rw[aL h]
theorem HL: ∀l:List (Nat×ai),(de l).all (λ x=>x.1.fR)=G
 | []=>rfl
 |_::l=>HL l
structure Oq(y gQ nm tk:Nat)(A:cJ)(O:fs)(o:du)(j:St):Prop where
 y: ∃a b p,j y=B (.inst 472 gQ (w3 ⟨y,gQ,nm,tk,a,b⟩ A O o [] p))
 nm:j nm=B (.dict (de o.called))
 tk:j tk=B (.dict (kR o.called))
theorem ag3{ek:Nat}(ap:j ek=B (.dict (de o.called)))(ok:o.Ok)(q: ∀y gQ nm tk D,Oq y gQ nm tk A O o D->aR et j D->(∀b w,j b=B w->b≠y)->Q (.ref y) D):
  aj (k+3) 472 [.ref A.x, .ref O.x, .bool G, .bool o.g6, .bool o.num, .ref ek] j Q:=by
 refine Es rfl rfl λ y gQ bJ ag4 n3=>?_
 refine ae8 ?_;left
 refine gs aY rfl (bw rfl) ?_;left
 refine gs aY rfl (bw rfl) ?_;left
 refine gs aY rfl (bw rfl) ?_;left
 refine gs aY rfl (bw rfl) ?_;left
 refine gs aY rfl (bw rfl) (jy (λ s=>s y=B (.inst 472 gQ [(17, .ref A.x),(27, .ref O.x),(28, .bool G),(29, .bool o.g6),(30, .bool o.num)])/\ ∀b w,j b=B w->b≠y/\s b=B w) ⟨aY,λ b w e=>?_⟩ λ aP Y=>?_)
 .have sX:=a0 e bJ
  exact⟨sX,aC sX (aC sX (aC sX (aC sX (aC sX (aC sX (aC (a0 e ag4) e))))))⟩
 obtain⟨Y,b8⟩:=Y
 left
 refine⟨rfl,λ nm xe=>?_⟩
 have oy:=a0 Y xe
 left
 refine gs (aC oy Y) rfl (bw rfl) (jy (λ s=>s y=B (.inst 472 gQ [(17, .ref A.x),(27, .ref O.x),(28, .bool G),(29, .bool o.g6),(30, .bool o.num),(31, .ref nm)])/\s nm=B (.dict [])/\ ∀b w,j b=B w->b≠y/\b≠nm/\s b=B w) ⟨aY,aC oy.symm aY,λ b w e=>?_⟩ λ bA Z=>?_)
 .obtain ⟨cq,dX⟩:=b8 b w e
  have d5:=a0 dX xe
  exact⟨cq,d5,aC cq (aC d5 dX)⟩
 obtain⟨Z,Ot,dA⟩:=Z
 left
 refine⟨rfl,λ tk ly=>?_⟩
 have q6:=a0 Z ly
 have ni:=a0 Ot ly
 left
 refine gs (aC q6 Z) rfl (bw rfl) (jy (λ s=>s y=B (.inst 472 gQ [(17, .ref A.x),(27, .ref O.x),(28, .bool G),(29, .bool o.g6),(30, .bool o.num),(31, .ref nm),(32, .ref tk)])/\s nm=B (.dict [])/\s tk=B (.dict [])/\ ∀b w,j b=B w->b≠y/\b≠nm/\b≠tk/\s b=B w) ⟨aY,aC oy.symm (aC ni Ot),aC q6.symm aY,λ b w e=>?_⟩ λ dR aE=>?_)
 .obtain ⟨cq,d5,dX⟩:=dA b w e
  have fK:=a0 dX ly
  exact⟨cq,d5,fK,aC cq (aC fK dX)⟩
 obtain⟨aE,ag5,ag6,fl⟩:=aE
 left
 obtain⟨HM,Ou,AF,dp⟩:=fl ek _ ap
 refine Op dp (HL _) ?_;left
 refine ag2 (x:=y) (bL:=gQ) (nm:=nm) (tk:=tk) (E:= λ u v=> [B (.ref y),B (.ref A.x),B (.ref O.x),B (.bool G),B (.bool o.g6),B (.bool o.num),B (.ref ek),u,v]) (λ _ _ _ _=>rfl) (λ n s d j K eX fk jU hd g1 iz q=>?_) ⟨oy,q6⟩ o.called [] _ J J ((qo HM.symm).trans aE) ((qo Ou.symm).trans ag5) ((qo AF.symm).trans ag6) (by have:=ok.cl;show 0+_<=_;right) ok.agi ok.mO λ fY u v fk jU jt=>?_
 .left
  refine dm eX rfl rfl ?_;left
  refine me fk rfl xa (by unfold de;rw[c2];exact dP hd (by decide+kernel)) ?_;left
  refine dm (aC oy eX) rfl rfl ?_;left
  refine me (aC ni.symm jU) rfl N6 (by unfold kR;rw[c2];exact dP hd (by decide+kernel)) ?_;left
  rw[sA (agZ g1),sA (ag0 iz)]
  refine q _ (aC ni ?_) ?_ ((bP.set (.inl rfl)).trans (bP.set (.inr rfl)))
  .unfold de;rw[fO];exact aY
  .unfold kR;rw[fO];exact aY
 .have By:(fY.set ek (.dict (de o.called))) y=B _:=aC HM.symm ((jt y λ q=>q.elim oy q6).trans ((qo HM.symm).trans aE))
  have ag7:(fY.set ek (.dict (de o.called))) nm=B _:=aC Ou.symm fk
  have qx:(fY.set ek (.dict (de o.called))) tk=B _:=aC AF.symm jU
  have jQ: ∀b w,j b=B w->b≠y/\(fY.set ek (.dict (de o.called))) b=B w:= λ b w e=>by
   obtain⟨cq,dX,d5,fK⟩:=fl b w e
   refine⟨cq,?_⟩
   by_cases az:b=ek
   .subst az;rw[ap]at e;cases e;exact aY
   .exact aC az ((jt b λ q=>q.elim dX d5).trans ((qo az).trans fK))
  rw[Ee]
  refine jy (λ s=>s y=B (.inst 472 gQ [(17, .ref A.x),(27, .ref O.x),(28, .bool G),(29, .bool o.g6),(30, .bool o.num),(31, .ref nm),(32, .ref tk)])/\s nm=B (.dict (de o.called))/\s tk=B (.dict (kR o.called))/\ ∀b w,j b=B w->b≠y/\s b=B w) ⟨By,ag7,qx,jQ⟩ λ hD cw=>?_
  obtain⟨xf,Ov,zR,iK⟩:=cw
  left
  intro a aI
  have sY:=a0 xf aI
  refine gs (aC sY xf) rfl (bw rfl) ?_;left
  refine gs aY rfl (bw rfl) ?_;left
  refine gs aY rfl (bw rfl) (jy (λ s=>s y=B (.inst 472 gQ [(17, .ref A.x),(27, .ref O.x),(28, .bool G),(29, .bool o.g6),(30, .bool o.num),(31, .ref nm),(32, .ref tk),(33, .ref a),(34, .str []),(35, .bool U)])/\s nm=B (.dict (de o.called))/\s tk=B (.dict (kR o.called))/\ ∀b w,j b=B w->b≠y/\s b=B w) ⟨aY,?_,?_,λ b w e=>?_⟩ λ gO hj=>?_)
  .exact aC oy.symm (aC oy.symm (aC oy.symm (aC (a0 Ov aI) Ov)))
  .exact aC q6.symm (aC q6.symm (aC q6.symm (aC (a0 zR aI) zR)))
  .obtain ⟨cq,dX⟩:=iK b w e
   exact⟨cq,aC cq (aC cq (aC cq (aC (a0 dX aI) dX)))⟩
  obtain⟨xg,Ow,zX,sH⟩:=hj
  left
  intro c ki
  have Bz:=a0 xg ki
  refine gs (aC Bz xg) rfl (bw rfl) ?_;left
  refine⟨rfl,q y gQ nm tk _ ⟨⟨a,c,U,aY⟩,aC oy.symm (aC (a0 Ow ki) Ow),aC q6.symm (aC (a0 zX ki) zX)⟩ (λ b w e _=>?_) λ b w e=>(sH b w e).1⟩
  obtain⟨cq,dX⟩:=sH b w e
  exact aC cq (aC (a0 dX ki) dX)
end
section
variable{P:em}{k:Nat}{j D:St}{Q:V->St->Prop}{W:g7}{A:cJ}{O:fs}{o:du}{C:bi}{T:bY}{w hV:bZ}{st eS:List V}
theorem ag8{n:Nat}(h:n<=2000):n<=ay:=ca h (by decide+kernel)
theorem ag9{t:Mine.T}{y gQ nm tk:Nat}(hw:Oq y gQ nm tk A O o j)(az:c9 A C j)(ba:mg O A C T j)(cK:eu.le C)(ok:o.Ok)(I:T.Ok)(ak:C.cv t)(aA:t.fit)(bb:t.ay<=25)
  (bJ:(∀b w,j b=B w->b≠y->True)/\A.x≠y/\A.t≠y/\A.d≠y/\A.f≠y/\A.g≠y/\O.x≠y/\O.p≠y/\O.i≠y/\O.o≠y) (jG:(textOf T o t).length<=ay) (aq:((bd T o t).1 1201 G).length<=1000)
  (q: ∀D,aR (λ b=>b=y) j D->Q (.str (textOf T o t)) D):aj (k+10) 357 [.ref y,C.enc t, .int 1201] j Q:=by
 obtain⟨⟨aha,ul,BA,Y⟩,xe,ly⟩:=hw
 refine ae9 ?_;left
 intro a aI
 have sY:=a0 Y aI
 refine gs (aC sY Y) rfl (bw rfl) ?_;left
 refine gs aY rfl (bw rfl) ?_;left
 refine gs aY rfl (bw rfl) (jy (λ s=>s y=B (.inst 472 gQ (w3 ⟨y,gQ,nm,tk,a,ul⟩ A O o [] U))/\s a=B (.list [])/\ ∀b w,j b=B w->b≠a/\(b≠y->s b=B w)) ⟨aY,aC sY.symm (aC sY.symm (aC sY.symm aY)),λ b w e=>⟨a0 e aI,λ n=>aC n (aC n (aC n (aC (a0 e aI) e)))⟩⟩ λ aP Z=>?_)
 obtain⟨Z,Ox,dA⟩:=Z
 left
 intro c ap
 have Bz:=a0 Z ap
 have ac:=a0 Ox ap
 have ahb:nm≠y:=lv xe Y
 have Fm:tk≠y:=lv ly Y
 refine gs (aC Bz Z) rfl (bw rfl) (jy (λ s=>cF ⟨y,gQ,nm,tk,a,c⟩ A O o C T ⟨[],U⟩ [eG C (.da t 1201 G)] s/\aR (λ b=>b=y) j s/\ ∀b w,j b=B w->b≠y-> ¬g7.dx ⟨y,gQ,nm,tk,a,c⟩ b) ⟨?_,?_,λ b w e n m=>m.elim n λ m=>m.elim (dA b w e).1 (a0 ((dA b w e).2 n) ap)⟩ λ bA aE=>?_)
 .have g: ∀b w,j b=B w->b≠y->(St.set (aP.set c (.list [eG C (.da t 1201 G)])) y (.inst 472 gQ (hN (w3 ⟨y,gQ,nm,tk,a,ul⟩ A O o [] U) 36 (.ref c)))) b=B w:= λ b w e n=>aC n (aC (a0 ((dA b w e).2 n) ap) ((dA b w e).2 n))
  have mm: ∀b w,j b=B w->b≠y-> ¬g7.dx ⟨y,gQ,nm,tk,a,c⟩ b:= λ b w e n m=>m.elim n λ m=>m.elim (dA b w e).1 (a0 ((dA b w e).2 n) ap)
  obtain⟨_,Oy,Oz,OA,By,xf,xg,OB,OC,OD⟩:=bJ
  exact⟨⟨g _ _ az.x Oy,g _ _ az.t Oz,g _ _ az.d OA,g _ _ az.f By,g _ _ az.g xf,az.oi,az.pE,az.ok⟩,
   ⟨⟨g _ _ ba.r.x xg,g _ _ ba.r.p OB,g _ _ ba.r.i OC,g _ _ ba.r.o OD,ba.r.pi,ba.r.po,ba.r.io⟩,ba.gq,ba.wZ,ba.w0⟩,
   ⟨aY,g _ _ xe ahb,g _ _ ly Fm,aC sY.symm (aC ac Ox),aC Bz.symm aY,ac⟩,cK,ok,I,
   ⟨mm _ _ az.x Oy,mm _ _ az.t Oz,mm _ _ az.d OA,mm _ _ az.f By,mm _ _ az.g xf⟩,⟨mm _ _ ba.r.x xg,mm _ _ ba.r.p OB,mm _ _ ba.r.i OC,mm _ _ ba.r.o OD⟩⟩
 .exact λ b w e n=>aC n (aC (a0 ((dA b w e).2 n) ap) ((dA b w e).2 n))
 obtain⟨aE,cG,sk⟩:=aE
 left
 refine⟨146,Om (W:=⟨y,gQ,nm,tk,a,c⟩) (A:=A) (O:=O) (o:=o) (C:=C) (T:=T) (λ i st w j u n K h ba bo ah ab q=>agY (k:=k) i st w j u n K h ba bo ah ab _ _ rfl rfl q) (λ w j u n K h q=>?_) 145 [.da t 1201 G] ⟨[],U⟩ bA (J,J,J,J) ?_ (dt _) ?_ ?_ aE λ dR u bv ec=>?_⟩
 .rw[j1];left
  refine dm h.wr.y rfl rfl ?_;left
  refine Hd h.wr.f3 (eh _) ?_;left
  rw[show([]:List V).isEmpty=G from rfl];left
  exact q
 .show 5*t.ay+0<=145;right
 .exact dS.mpr ⟨⟨ak,aA⟩,nofun⟩
 .exact bw rfl
 .left
  refine dm bv.wr.y rfl rfl ?_;left
  have e:([dB.da t 1201 G].flatMap (ov T o))=(bd T o t).1 1201 G:=dV _
  have hO:=bv.wr.u
  rw[e]at hO
  have aN:((((bd T o t).1 1201 G).foldl bZ.run ⟨[],U⟩).out.map cI.cX).flatten=textOf T o t:=rfl
  refine NE hO ?_ (by rw[aN];exact jG) ?_
  .rw[c2]
   exact ag8 (ca (Hy _ _) (by show 0+2*_<=2000;right))
  .rw[aN];left
   exact q dR λ b w e n=>ec b w (cG b w e n) (sk b w e n)
theorem ahc{t:Mine.T}{ek:Nat}(ap:j ek=B (.dict (de o.called)))(az:c9 A C j)(ba:mg O A C T j)(cK:eu.le C)(ok:o.Ok)(I:T.Ok)(ak:C.cv t)(aA:t.fit)(bb:t.ay<=25)(jG:(textOf T o t).length<=ay)(aq:((bd T o t).1 1201 G).length<=1000)
  (q: ∀D,aR et j D->Q (.str (textOf T o t)) D):aj (k+11) 484 [.ref A.x, .ref O.x,C.enc t, .bool G, .bool o.g6, .bool o.num, .ref ek] j Q:=by
 refine afm ?_;left
 refine ag3 (A:=A) (O:=O) ap ok λ y gQ nm tk aP hw ao bJ=>?_;left
 obtain⟨a,b,p,ahd⟩:=hw.y
 refine cc ahd rfl rfl (f:=357) rfl ?_;left
 refine ag9 hw (az.none ao) (ba.keep .refl ao ⟨id,id,id,id⟩) cK ok I ak aA bb ⟨λ _ _ _ _=>trivial,bJ _ _ az.x,bJ _ _ az.t,bJ _ _ az.d,bJ _ _ az.f,bJ _ _ az.g,bJ _ _ ba.r.x,bJ _ _ ba.r.p,bJ _ _ ba.r.i,bJ _ _ ba.r.o⟩ jG aq λ bA aH=>?_;left
 exact q bA λ b w e _=>aH b w (ao b w e id) (bJ b w e)
end
section
variable{P:em}{k:Nat}{j D:St}{Q:V->St->Prop}
theorem ahe{s:List Nat}{c:Nat}{K:V->Prop}(h:s.getLast?=B c)(q:K (.str [c])):b9 (dU j (.str s) (.int (-1))) K:=by
 have:dU j (.str s) (.int (-1))=(s.getLast?).map (λ c=>V.str [c]):=by unfold dU;dsimp only;rw[aQ rfl]
 rw[this,h];exact q
theorem kT{c d:Nat}:decide (([c]:ai)=[d])=decide (c=d):=decide_eq_decide.mpr ⟨λ q=>by injection q,λ q=>by rw[q]⟩
theorem HN{e:cb}(bX:0<e.1)(aN:e.2≠ [])(ah:e.2.length<=100)(q:Q (.tup [.int (d6 e:Int), .int (dh e:Int)]) j):aj (k+1) 517 [fC e] j Q:=by
 obtain⟨p,t⟩:=e
 obtain⟨c,r,ap⟩:=uS aN
 obtain⟨d,hd⟩: ∃d,t.getLast?=B d:=⟨_,w4 aN⟩
 have ao:((p - 1:Nat):Int)=(p:Int) - 1:=w7 bX
 have ahf:d6 (p,t)=if c=121 then p else p - 1:=by
  unfold d6;dsimp only at ap ⊢;rw[ap,List.head?_cons]
  by_cases h:c=121
  .rw[aQ h,aQ (by rw[h])]
  .rw[aL h,aL λ q=>h (by injection q)]
 have ahg:dh (p,t)=if d=121 then p else p - 1:=by
  unfold dh;dsimp only;rw[hd]
  by_cases h:d=121
  .rw[aQ h,aQ (by rw[h])]
  .rw[aL h,aL λ q=>h (by injection q)]
 rw[ahf,ahg]at q
 have fin: ∀l:Int,l=((if c=121 then p else p - 1:Nat):Int)->aK (aD (aj k)) (match vL.body with| .cons _ (.cons _ r)=>r|_=> .nil) [B (fC (p,t)),B (.int (p:Int)),B (.str t),B (.int l),J] j (cr Q):= λ l gB=>by
  left
  refine ahe hd ?_;left
  rw[kT]
  by_cases h:d=121
  .rw[aQ h]at q
   rw[ce h];left;rw[gB];exact q
  .rw[aL h,ao]at q
   rw[bW h];left;rw[gB];exact q
 refine afr ?_;left
 refine kh ?_;left
 refine hv (i:=0) (c:=c) rfl (by dsimp only at ap;rw[ap];rfl) (cA (ca ah (by decide))) ?_;left
 rw[kT]
 by_cases h:c=121
 .rw[ce h];left;exact fin _ (by rw[aQ h])
 .rw[bW h];left;exact fin _ (by rw[aL h,ao])
structure i7(a f:Nat)(j:St):Prop where
 h: ∃(a9:List Nat) (i m:Nat),j a=B (.list [.ref f, .int (i:Int), .int (m:Int)])/\j f=B (.list (a9.map λ n=> .int ((n:Nat):Int)))/\a9.length<=5000/\m<1009
 ne:a≠f
theorem i7.keep{a f:Nat}{bG:Nat->Prop}(h:i7 a f j)(e:aR bG j D)(m: ¬bG a/\ ¬bG f):i7 a f D:=by
 obtain⟨⟨a9,i,n,Y,Z,aE⟩,ne⟩:=h
 exact⟨⟨a9,i,n,e _ _ Y m.1,e _ _ Z m.2,aE⟩,ne⟩
theorem jV{a f n:Nat}(h:i7 a f j)(aq:0<n)(ahh:n<2^90)(q: ∀r D,r<n->i7 a f D->bP (λ b=>b=a) j D->Q (.int ((r:Nat):Int)) D):aj (k+1) 498 [.ref a, .int (n:Int)] j Q:=by
 obtain⟨⟨a9,i,m,Y,Z,aE,bv⟩,ne⟩:=h
 have xd: ¬((n:Int)=0\/2^200<=(n:Int).natAbs):=by
  rintro(e|e)
  .exact zm aq (afI.mp e)
  .exact mc.mpr e (h9 ahh (by decide+kernel))
 have fin: ∀(c:Nat) D,i7 a f D->bP (λ b=>b=a) j D->aK (aD (aj k)) (match vK.body with| .cons _ r=>r|_=> .nil) [B (.ref a),B (.int (n:Int)),B (.int (c:Int))] D (cr Q):= λ c D aT s=>by
  left
  refine qQ xd ?_;left
  rw[qT]
  exact q _ D (pw _ aq) aT s
 refine afo ?_;left
 refine fD (i:=1) (v:= .int (i:Int)) Y rfl rfl (cA (bw rfl)) ?_;left
 refine fD (i:=0) (v:= .ref f) Y rfl rfl (cA (bw rfl)) ?_;left
 have sZ:(a9.map λ n=>V.int ((n:Nat):Int)).length<=ay:=by rw[c2];exact ca aE (by decide+kernel)
 refine mf Z sZ ?_;left
 rw[c2,iM]
 by_cases bo:i<a9.length
 .rw[ce bo];left
  refine fD (i:=0) (v:= .ref f) Y rfl rfl (cA (bw rfl)) ?_;left
  refine fD (i:=1) (v:= .int (i:Int)) Y rfl rfl (cA (bw rfl)) ?_;left
  refine fD (i:=i) (v:= .int ((a9[i]:Nat):Int)) Z rfl (by rw[jq,hi bo];rfl) sZ ?_;left
  refine fD (i:=1) (v:= .int (i:Int)) Y rfl rfl (cA (bw rfl)) ?_;left
  refine Hb (i:=1) Y rfl (bw rfl) (cA (bw rfl)) ?_;left
  exact fin _ _ ⟨⟨a9,i+1,m,aY,aC ne.symm Z,aE,bv⟩,ne⟩ (bP.set rfl)
 rw[bW bo];left
 refine fD (i:=0) (v:= .ref f) Y rfl rfl (cA (bw rfl)) ?_;left
 refine mf Z sZ ?_;left
 rw[c2,show decide ((a9.length:Int)<3)=decide (a9.length<3)from iM (n:=3)]
 by_cases cw:a9.length<3
 .rw[ce cw];left
  exact fin 0 j ⟨⟨a9,i,m,Y,Z,aE,bv⟩,ne⟩ .refl
 rw[bW cw];left
 refine fD (i:=2) (v:= .int (m:Int)) Y rfl rfl (cA (bw rfl)) ?_;left
 refine Nx (by show m<_;exact h9 bv (by decide+kernel)) (by decide) ?_;left
 refine qQ (by decide) ?_;left
 have j8:((m:Int)*37+11).fmod 1009=((m*37+11)%1009:Nat):=qT (m*37+11) 1009
 rw[j8]
 refine Hb (i:=2) Y rfl (bw rfl) (cA (bw rfl)) ?_;left
 refine fD (i:=2) (v:= .int (((m*37+11)%1009:Nat):Int)) aY rfl rfl (cA (bw rfl)) ?_;left
 exact fin _ _ ⟨⟨a9,i,(m*37+11)%1009,aY,aC ne.symm Z,aE,pw _ (by decide)⟩,ne⟩ (bP.set rfl)
end
section
variable{P:em}{k:Nat}{j D:St}{Q:V->St->Prop}
theorem ahi{a:Nat}{c:dz}{E:Option V->Option V->ax}{K:bM->ax->St->Prop}(lx: ∀u v x,(E u v).set 6 x=E u x)
  (body: ∀(n:Nat) (a9:List Nat) (u:Option V) (j:St) (K:bM->ax->St->Prop),j a=B (.list (a9.map λ n=> .int ((n:Nat):Int)))->a9.length<=4000->
   (∀(ej:bM) (D:St),(ej= .next\/ej= .brk)->D a=B (.list ((a9++ [n%840]).map λ n=> .int ((n:Nat):Int)))->bP (λ b=>b=a) j D->K ej (E (B (.int ((n/840:Nat):Int))) u) D)->c (E (B (.int (n:Int))) u) j K): ∀(X:List V) (n:Nat) (a9:List Nat) (u:Option V) (j:St),j a=B (.list (a9.map λ n=> .int ((n:Nat):Int)))->a9.length+X.length<=4000->
   (∀(i1:Nat) (iR:List Nat) (u:Option V) (D:St),iR.length<=a9.length+X.length->D a=B (.list (iR.map λ n=> .int ((n:Nat):Int)))->bP (λ b=>b=a) j D->K .next (E (B (.int ((i1:Nat):Int))) u) D)->
   hz 6 c (λ _=>True) X (E (B (.int (n:Int))) u) j K:=by
 intro b0;induction b0 with
 |nil=>
  intro n a9 u j h ah q
  exact⟨trivial,q n a9 u j (dt _) h .refl⟩
 |cons v X aB=>
  intro n a9 u j h ah q
  rw[kE,lx]
  rw[el]at ah q
  have e:(a9++ [n%840]).length=a9.length+1:=bK
  refine⟨trivial,body n a9 _ j _ h (by right) λ ej D sZ h' s=>?_⟩
  rcases sZ with rfl|rfl
  .exact aB (n/840) (a9++ [n%840]) _ D h' (by right) λ i1 iR u eL gB gX s'=>q i1 iR u eL (by right) gX (s.trans s')
  .exact q _ (a9++ [n%840]) _ D (by right) h' s
theorem xh{a b:Int}(h:a.natAbs<=ay/\b.natAbs<=ay):p7 (.int a) (.int b)=B ⟨hb a b,λ _=>True⟩:=by
 unfold p7;dsimp only;rw[aQ h]
theorem ahj{a b:Int}(h: ¬(b=0\/2^100<=b.natAbs)):my .fdiv (.int a) (.int b)=B (.int (a.fdiv b)):=by
 unfold my oP;dsimp only;rw[aL h]
theorem ahk(x:Int): ∃m:Nat,x.fmod 1009=(m:Int)/\m<1009:=by
 have Y:=Int.fmod_nonneg_of_pos x (b:=1009) (by decide)
 have Z:=Int.fmod_lt_of_pos x (b:=1009) (by decide)
 exact⟨(x.fmod 1009).toNat,(agR Y).symm,by right⟩
theorem ahl{a c:Nat}{l:List V}{b:dz}{E:Option V->Option V->Option V->Option V->Option V->ax}{K:bM->ax->St->Prop}(lx: ∀m u v w x y,(E m u v w x).set 3 y=E m y v w x)(ahm:c≠a)
  (body: ∀(m:Nat) (z:Int) (a9:List Nat) (v w x:Option V) (j:St) (K:bM->ax->St->Prop),j a=B (.list (a9.map λ n=> .int ((n:Nat):Int)))->a9.length<=3000->m<1009->
   (∀(ej:bM) (gf:Nat) (iR:List Nat) (u v w x:Option V) (D:St),(ej= .next\/ej= .brk)->gf<1009->iR.length<=a9.length+60->D a=B (.list (iR.map λ n=> .int ((n:Nat):Int)))->bP (λ b=>b=a) j D->K ej (E (B (.int ((gf:Nat):Int))) u v w x) D)->b (E (B (.int (m:Int))) (B (.int z)) v w x) j K): ∀(cD:List Int) (m:Nat) (a9:List Nat) (u v w x:Option V) (j:St),j a=B (.list (a9.map λ n=> .int ((n:Nat):Int)))->j c=B (.list l)->a9.length+60*cD.length<=3000->m<1009->
   (∀(gf:Nat) (iR:List Nat) (u v w x:Option V) (D:St),gf<1009->iR.length<=3000->D a=B (.list (iR.map λ n=> .int ((n:Nat):Int)))->bP (λ b=>b=a) j D->K .next (E (B (.int ((gf:Nat):Int))) u v w x) D)->
   hz 3 b (λ s=>s c=B (.list l)) (cD.map .int) (E (B (.int (m:Int))) u v w x) j K:=by
 intro b0;induction b0 with
 |nil=>
  intro m a9 u v w x j h ap ah aG q
  exact⟨ap,q m a9 u v w x j aG (by right) h .refl⟩
 |cons z cD aB=>
  intro m a9 u v w x j h ap ah aG q
  rw[h5,kE,lx]
  rw[el]at ah
  refine⟨ap,body m z a9 v w x j _ h (by right) aG λ ej gf iR u v w x D sZ gF gB h' s=>?_⟩
  rcases sZ with rfl|rfl
  .exact aB gf iR u v w x D h' ((s c ahm).trans ap) (by right) gF λ ahn aho u v w x eL ahp ahq gX s'=>q ahn aho u v w x eL ahp ahq gX (s.trans s')
  .exact q gf iR u v w x D gF (by right) h' s
theorem ahr{cD:List Int}(bb:cD.length<=63)(q: ∀a f D,i7 a f D->j a=J->j f=J->aR et j D->Q (.ref a) D):aj (k+1) 491 [.fi (cD.map .int)] j Q:=by
 refine afn ?_;left
 intro f aA
 have ah:(cD.map V.int).length<=ay:=by rw[c2];exact cA (by omega)
 refine⟨by decide,by decide,ah,λ c ap=>?_⟩
 left
 have uc:=a0 aY ap
 refine wQ aY ?_;left
 rw[show(40:Int).toNat=40 from rfl, <-ahs]
 refine ahl (a:=f) (c:=c) (E:= λ m u v w x=> [B (.fi (cD.map .int)),B (.ref f),m,u,v,w,x]) (λ _ _ _ _ _ _=>rfl) uc.symm (λ m z a9 v w x j K h HO aG q=>?_) (cD.take 40) 5 [] J J J J _ (aC uc aY) aY (by rw[zx];show 0+_<=_;omega) (by decide) λ gf iR u v w x D gF gB h' s=>?_
 .left
  refine Nx (by show m<_;exact h9 aG (by decide+kernel)) (by decide) ?_;left
  refine qQ (by decide) ?_;left
  obtain⟨gf,ao,gF⟩:=ahk ((m:Int)*31+z)
  rw[ao]
  have wU:gV j .abs (.int z)=B (.int (z.natAbs:Int)):=congrArg (λ i=>B (V.int i)) Hg
  rw[wU];left
  rw[xh (a:=0) (b:=60) (by decide+kernel)];left
  refine ahi (a:=f) (E:= λ u v=> [B (.fi (cD.map .int)),B (.ref f),B (.int (gf:Int)),B (.int z),B (.int z),u,v]) (λ _ _ _=>rfl) (λ n a9 u j K h HO q=>?_) (hb 0 60) z.natAbs a9 x j h (by show _+60<=_;omega) λ i1 iR u D gB h' s=>?_
  .left
   refine dH h (by decide) ?_;left
   refine qQ (by decide) ?_;left
   rw[show(n:Int).fmod 840=(n%840:Nat)from qT n 840]
   refine oe h (by rw[c2];exact dP HO (by decide+kernel)) ?_;left
   rw[ahj (a:=(n:Int)) (b:=840) (by decide)];left
   rw[show(n:Int).fdiv 840=(n/840:Nat)from wS n 840]
   have aH:uW (λ n=>V.int ((n:Nat):Int)) a9++ [V.int ((n%840:Nat):Int)]=(a9++ [n%840]).map λ n=>V.int ((n:Nat):Int):=by rw[fO];rfl
   rw[aH,show decide (((n/840:Nat):Int)=0)=decide (n/840=0)from qR (n:=0)]
   by_cases bX:n/840=0
   .rw[ce bX];left
    exact q .brk _ (.inr rfl) aY bP.one
   .rw[bW bX];left
    exact q .next _ (.inl rfl) aY bP.one
  .left
   have HP:iR.length<=a9.length+60:=gB
   refine mf h' (by rw[c2];exact ca (ca HP (GK HO 60)) (by decide+kernel)) ?_;left
   refine iL (λ _=>?_) (λ _=>?_)
   .left;exact q .brk gf iR _ _ _ _ D (.inr rfl) gF HP h' s
   .left;exact q .next gf iR _ _ _ _ D (.inl rfl) gF HP h' s
 .left
  intro a aI
  have wD:=a0 h' aI
  refine q a f _ ⟨⟨iR,0,gf,aY,aC wD h',ca gB (by decide),gF⟩,wD.symm⟩ ?_ aA λ b w e _=>?_
  .cases e:j a with
   |none=>rfl
   |some w=>
    have cq:=a0 (aC (a0 e aA) e:(j.set f (.list [])) a=B w) ap
    have:D a=B w:=(s a wD.symm).trans (aC cq (aC (a0 e aA) e))
    rw[aI]at this;cases this
  .have OE:=a0 e aA
   have cq:(j.set f (.list [])) b=B w:=aC OE e
   have dX:D b=B w:=(s b OE).trans (aC (a0 cq ap) cq)
   exact aC (a0 dX aI) dX
end
noncomputable def jW:List Nat:=[500,499,999,1000,1001,1200,1199,1,2]
structure e4(done:List ai)(T:bY):Prop where
 kn: ∀e∈T.pre,e.1∈done/\e.2.1∈jW/\nd e.2.2
 lz: ∀e∈T.inf,(e.1∈done/\e.2.1∈jW/\iP e.2.2)\/e=([44],1000,[120,102,121])
 ok: ∀e∈T.post,e.1∈done/\e.2.1∈jW/\mh e.2.2
 fW:T.inf.lookup [44]=B (1000,[120,102,121])
 aB:T.inf.head?=B ([44],1000,[120,102,121])
 oz:(T.pre.map (·.1)).Nodup
 lA:(T.inf.map (·.1)).Nodup
 on:(T.post.map (·.1)).Nodup
 io: ∀e∈T.post,e.1 ∉ T.inf.map (·.1)
theorem aht{l:List (ai×cb)}{s:ai}{e:cb}:eB l++ [(a2.s s,fC e)]=eB (l++ [(s,e)]):=by unfold eB;rw[fO];rfl
theorem BB{s:ai}: ∀{l:List (ai×cb)},s ∉ l.map (·.1)->l.lookup s=J
 | [],_=>rfl
 |(t,e)::l,h=>by
  rw[uP,aL λ q=>h (eV.mpr (.inl q))]
  exact BB λ q=>h (f0 _ q)
theorem BC{l:List (ai×cb)}{s:ai}{e:cb}(h:s ∉ l.map (·.1)):ha (eB l) (.s s) (fC e)=eB (l++ [(s,e)]):=by
 rw[sA (by rw[kQ,BB h];rfl),aht]
theorem HQ{s:ai}{e:cb}: ∀{l m:List (ai×cb)},l.lookup s=B e->(l++m).lookup s=B e
 | [],_,h=>nomatch h
 |(t,dL)::l,m,h=>by
  rw[uP]at h
  rw[jz,uP]
  split<;>rename_i q
  .rw[aQ q]at h;exact h
  .rw[aL q]at h;exact HQ h
theorem OF{α:Type}{a:α}: ∀{l m:List α},l.head?=B a->(l++m).head?=B a
 |_::_,_,h=>h
theorem BD{l:List (ai×cb)}{s:ai}{e:cb}(n:(l.map (·.1)).Nodup)(h:s ∉ l.map (·.1)):((l++ [(s,e)]).map (·.1)).Nodup:=by
 rw[fO]
 exact uL.mpr ⟨n,Bg,λ a aI b az q=>h (by have q:a=s:=q.trans (ee.mp az);exact q▸aI)⟩
section
variable{done:List ai}{T:bY}{s:ai}{e:cb}
theorem e4.more(h:e4 done T):e4 (done++ [s]) T:=
 ⟨λ e aF=>⟨lu _ (h.kn e aF).1,(h.kn e aF).2⟩,λ e aF=>(h.lz e aF).imp (λ q=>⟨lu _ q.1,q.2⟩) id,λ e aF=>⟨lu _ (h.ok e aF).1,(h.ok e aF).2⟩,h.fW,h.aB,h.oz,h.lA,h.on,h.io⟩
theorem e4.ahu(h:e4 done T)(ab:s ∉ done):s ∉ T.pre.map (·.1):= λ q=>by
 obtain⟨e,aF,rfl⟩:=nO.mp q
 exact ab (h.kn e aF).1
theorem e4.ahv(h:e4 done T)(ab:s ∉ done):s ∉ T.post.map (·.1):= λ q=>by
 obtain⟨e,aF,rfl⟩:=nO.mp q
 exact ab (h.ok e aF).1
theorem e4.OG(h:e4 done T)(ab:s ∉ done)(ap:s≠ [44]):s ∉ T.inf.map (·.1):= λ q=>by
 obtain⟨e,aF,rfl⟩:=nO.mp q
 rcases h.lz e aF with q|rfl
 .exact ab q.1
 .exact ap rfl
theorem e4.pre(h:e4 done T)(aq:s ∉ T.pre.map (·.1))(ab:s∈done)(aF:e.1∈jW)(aN:nd e.2):e4 done ⟨T.pre++ [(s,e)],T.inf,T.post⟩:=
 ⟨λ x aJ=>(iG.mp aJ).elim (h.kn x) λ q=>by rw[ee.mp q];exact⟨ab,aF,aN⟩,h.lz,h.ok,h.fW,h.aB,BD h.oz aq,h.lA,h.on,h.io⟩
theorem e4.post(h:e4 done T)(aq:s ∉ T.post.map (·.1))(bo:s ∉ T.inf.map (·.1))(ab:s∈done)(aF:e.1∈jW)(aN:mh e.2):e4 done ⟨T.pre,T.inf,T.post++ [(s,e)]⟩:=
 ⟨h.kn,h.lz,λ x aJ=>(iG.mp aJ).elim (h.ok x) λ q=>by rw[ee.mp q];exact⟨ab,aF,aN⟩,h.fW,h.aB,h.oz,h.lA,BD h.on aq,
  λ x aJ=>(iG.mp aJ).elim (h.io x) λ q=>by rw[ee.mp q];exact bo⟩
theorem e4.inf(h:e4 done T)(aq:s ∉ T.inf.map (·.1))(ba:s ∉ T.post.map (·.1))(ab:s∈done)(aF:e.1∈jW)(aN:iP e.2):e4 done ⟨T.pre,T.inf++ [(s,e)],T.post⟩:=
 ⟨h.kn,λ x aJ=>(iG.mp aJ).elim (h.lz x) λ q=>by rw[ee.mp q];exact .inl ⟨ab,aF,aN⟩,h.ok,HQ h.fW,OF h.aB,h.oz,BD h.lA aq,h.on,
  λ x aJ q=>by
   rw[fO]at q
   exact(iG.mp q).elim (h.io x aJ) λ q=>ba (by have q:x.1=s:=ee.mp q;rw[<-q];exact nO.mpr ⟨x,aJ,rfl⟩)⟩
theorem HR{l:List (ai×cb)}{u:List ai}(n:(l.map (·.1)).Nodup)(h: ∀e∈l,e.1∈u)(bE:u.length<=100):(eB l).length<ay:=by
 have:=wI n λ a aI=>by obtain⟨e,aF,rfl⟩:=nO.mp aI;exact h e aF
 unfold eB
 rw[c2]at this ⊢
 exact dP (ca this bE) (by decide+kernel)
theorem e4.hI(h:e4 done T)(hd:done.length<=99):(eB T.pre).length<ay:=HR h.oz (λ e aF=>(h.kn e aF).1) (OH hd)
theorem e4.lo(h:e4 done T)(hd:done.length<=99):(eB T.post).length<ay:=HR h.on (λ e aF=>(h.ok e aF).1) (OH hd)
theorem e4.li(h:e4 done T)(hd:done.length<=99):(eB T.inf).length<ay:=HR (u:=[44]::done) h.lA (λ e aF=>(h.lz e aF).elim (λ q=>f0 _ q.1) λ q=>by rw[q];exact eT ..) (jI hd)
end
section
variable{k:Nat}{j D:St}{Q:V->St->Prop}{a f l p i o:Nat}
noncomputable def HS:List ai->lN
 | []=> .nil
 |s::r=> .cons (.ea (.str s)) (HS r)
theorem OI{P:em}{E:ax}: ∀{l bj:List ai} {Q:List V->St->Prop},Q ((bj++l).map .str) j->iX P (HS l) E j (λ X D=>Q (bj.map .str++X) D)
 | [],bj,Q,q=>by
  show Q (bj.map .str++ []) j
  rw[dV]at q ⊢;exact q
 |s::l,bj,Q,q=>by
  have e:bj++s::l=(bj++ [s])++l:=List.append_cons bj s l
  rw[e]at q
  have:=OI (P:=P) (E:=E) q
  rw[fO]at this
  simp only[cM]at this
  exact this
noncomputable def q7:List V:=jW.map λ n=> .int ((n:Nat):Int)
theorem HT{au:List ai}{dZ ahw ahx ahy HU u0:Option V}(bX:0<au.length)(aE:au.length<=3)(aT:i7 a f j)(ah:j l=B (.list q7))(lB:l≠a)(ahz:l≠f)
  (q: ∀(e:cb) D,e.1∈jW->e.2∈au->i7 a f D->aR (λ b=>b=a) j D->Q (fC e) D):
  cg (aD (aj (k+1))) (.tup (.cons (.sub (.loc 2) (.fn 498 (.cons (.loc 0) (.cons (.ea (.int 9)) .nil)))) (.cons (.sub (.lst (HS au)) (.fn 498 (.cons (.loc 0) (.cons (.ea (.int (au.length:Int))) .nil)))) .nil)))
   [B (.ref a),dZ,B (.ref l),ahw,ahx,ahy,HU,u0] j Q:=by
 left
 refine jV (n:=9) aT (by decide) (by decide+kernel) λ r aP aO ga bt=>?_
 left
 have pb:aP l=B (.list q7):=(bt l lB).trans ah
 have OJ:r<jW.length:=aO
 refine fD (i:=r) (v:= .int (jW[r]:Int)) pb rfl (by unfold q7;rw[jq,hi OJ];rfl) (cA (by unfold q7;rw[c2];decide)) ?_
 left
 refine OI (bj:=[]) ?_
 left
 intro c ap
 left
 have q8:a≠c:=by obtain⟨⟨_,_,_,Y,_⟩,_⟩:=ga;exact a0 Y ap
 have ahA:f≠c:=by obtain⟨⟨_,_,_,_,Y,_⟩,_⟩:=ga;exact a0 Y ap
 refine jV (n:=au.length) (ga.keep (aR.new (bG:= λ b=>b=c) ap) ⟨q8,ahA⟩) bX (dP aE (by decide+kernel)) λ t bA aN hg b2=>?_
 left
 refine fD (i:=t) (v:= .str au[t]) ((b2 c q8.symm).trans aY) rfl (by rw[pI,jq,hi aN];rfl) (cA (by rw[pI,c2];right)) ?_
 left
 exact q (jW[r],au[t]) bA (u1 OJ) (u1 aN) hg λ b w e m=>(b2 b m).trans (aR.new (bG:= λ b=>b=a) ap b w ((bt b m).trans e) m)
end
section
variable{k:Nat}{j D im:St}{Q:V->St->Prop}{a f l p i o n:Nat}{T:bY}
structure hW(a f l p i o:Nat)(T:bY)(im j:St):Prop where
 bg:i7 a f j
 ah:j l=B (.list q7)
 aT:j p=B (.dict (eB T.pre))
 bo:j i=B (.dict (eB T.inf))
 ba:j o=B (.dict (eB T.post))
 na:a≠p/\a≠i/\a≠o
 dM:f≠p/\f≠i/\f≠o
 pi:p≠i
 po:p≠o
 io:i≠o
 lB:l≠a/\l≠f
 ex:aR (λ b=>b=a\/b=p\/b=i\/b=o) im j
theorem hW.draw(h:hW a f l p i o T im j)(aT:i7 a f D)(e:aR (λ b=>b=a) j D):hW a f l p i o T im D:=
 ⟨aT,e _ _ h.ah h.lB.1,e _ _ h.aT h.na.1.symm,e _ _ h.bo h.na.2.1.symm,e _ _ h.ba h.na.2.2.symm,h.na,h.dM,h.pi,h.po,h.io,h.lB,h.ex.trans (e.mono λ _=> .inl)⟩
theorem hW.ahB{cS}(h:hW a f l p i o T im j):hW a f l p i o ⟨cS,T.inf,T.post⟩ im (j.set p (.dict (eB cS))):=
 ⟨h.bg.keep (bG:= λ b=>b=p) (aR.set rfl) ⟨h.na.1,h.dM.1⟩,aC (od h.ah h.aT) h.ah,aY,aC h.pi.symm h.bo,aC h.po.symm h.ba,h.na,h.dM,h.pi,h.po,h.io,h.lB,h.ex.trans (aR.set (.inr (.inl rfl)))⟩
theorem hW.OK{cS}(h:hW a f l p i o T im j):hW a f l p i o ⟨T.pre,cS,T.post⟩ im (j.set i (.dict (eB cS))):=
 ⟨h.bg.keep (bG:= λ b=>b=i) (aR.set rfl) ⟨h.na.2.1,h.dM.2.1⟩,aC (od h.ah h.bo) h.ah,aC h.pi h.aT,aY,aC h.io.symm h.ba,h.na,h.dM,h.pi,h.po,h.io,h.lB,h.ex.trans (aR.set (.inr (.inr (.inl rfl))))⟩
theorem hW.ahC{cS}(h:hW a f l p i o T im j):hW a f l p i o ⟨T.pre,T.inf,cS⟩ im (j.set o (.dict (eB cS))):=
 ⟨h.bg.keep (bG:= λ b=>b=o) (aR.set rfl) ⟨h.na.2.2,h.dM.2.2⟩,aC (od h.ah h.ba) h.ah,aC h.po h.aT,aC h.io h.bo,aY,h.na,h.dM,h.pi,h.po,h.io,h.lB,h.ex.trans (aR.set (.inr (.inr (.inr rfl))))⟩
theorem ahD{b:dz}{E:Option V->Option V->ax}{K:bM->ax->St->Prop}(lx: ∀u v x,(E u v).set 6 x=E x v)(aq:im n=B (.list (fr.map .str)))(nn:n≠a/\n≠p/\n≠i/\n≠o)
  (body: ∀(s:ai) (done:List ai) (T:bY) (v:Option V) (j:St) (K:bM->ax->St->Prop),s ∉ done->s≠ [44]->done.length<=50->e4 done T->hW a f l p i o T im j->
   (∀oA o8 D,e4 (done++ [s]) oA->hW a f l p i o oA im D->K .next (E (B (.str s)) o8) D)->b (E (B (.str s)) v) j K): ∀(ns done:List ai) (T:bY) (u v:Option V) (j:St),done++ns=fr->e4 done T->hW a f l p i o T im j->(∀oA u v D,e4 fr oA->hW a f l p i o oA im D->K .next (E u v) D)->
   hz 6 b (λ s=>s n=B (.list (fr.map .str))) (ns.map .str) (E u v) j K:=by
 intro b0;induction b0 with
 |nil=>
  intro done T u v j e h ab q
  exact⟨ab.ex _ _ aq λ m=>m.elim nn.1 λ m=>m.elim nn.2.1 λ m=>m.elim nn.2.2.1 nn.2.2.2,q T u v j (by rw[<-e,dV];exact h) ab⟩
 |cons s ns aB=>
  intro done T u v j e h ab q
  rw[h5,kE,lx]
  have OL:fr.Nodup:=by decide
  have ah:(done++s::ns).length=10:=by rw[e];rfl
  rw[bK]at ah
  rw[<-e]at OL
  refine⟨ab.ex _ _ aq λ m=>m.elim nn.1 λ m=>m.elim nn.2.1 λ m=>m.elim nn.2.2.1 nn.2.2.2,body s done T v j _ (λ m=>(uL.mp OL).2.2 s m s (eT ..) rfl) (λ q=>?_) (by right) h ab λ oA o8 D h' gM=>?_⟩
  .have:s∈fr:=by rw[<-e];exact oj _ (eT ..)
   rw[q]at this;exact absurd this (by decide)
  .exact aB (done++ [s]) oA _ o8 D (by rw[cM];exact e) h' gM q
theorem mn{b:Bool}:(b !=U)=b:=by cases b<;>rfl
theorem kinds_ok{r:Nat}(h:((decide ((0:Int)=(r:Int))||(decide ((2:Int)=(r:Int))||(decide ((3:Int)=(r:Int))||false))) !=U)=G)(h':((decide ((4:Int)=(r:Int))||(decide ((5:Int)=(r:Int))||false)) !=U)=G):False:=by
 rw[mn]at h h'
 simp only[jr,decide_eq_true_eq,Bool.false_eq_true,or_false]at h h';right
theorem ahE{s:ai}{done:List ai}{v:Option V}{K:bM->ax->St->Prop}(ab:s ∉ done)(ap:s≠ [44])(hd:done.length<=50)(h:e4 done T)(t:hW a f l p i o T im j)
  (q: ∀oA o8 D,e4 (done++ [s]) oA->hW a f l p i o oA im D->K .next [B (.ref a),B (.ref n),B (.ref l),B (.ref p),B (.ref i),B (.ref o),B (.str s),o8] D):
  aK (aD (aj (k+1))) (match rK.body with| .cons _ (.cons _ (.cons _ (.cons _ (.cons (.hy _ _ b) _))))=>b|_=> .nil) [B (.ref a),B (.ref n),B (.ref l),B (.ref p),B (.ref i),B (.ref o),B (.str s),v] j K:=by
 have rZ:(done++ [s]).length<=99:=by rw[bK];show _+1<=99;right
 have aG:s∈done++ [s]:=oj _ (ee.mpr rfl)
 left
 refine jV (n:=7) t.bg (by decide) (by decide+kernel) λ r aP aO ga bt=>?_
 have bs:=t.draw ga bt.ex
 left
 have OM:=h.ahu ab
 have fN:=h.OG ab ap
 have pJ:=h.ahv ab
 have Y:=h.more (s:=s)
 have ON: ∀(T:bY) (j:St),e4 (done++ [s]) T->hW a f l p i o T im j->s ∉ T.post.map (·.1)->(((decide ((4:Int)=(r:Int))||(decide ((5:Int)=(r:Int))||false)) !=U)=G->s ∉ T.inf.map (·.1))->
   aK (aD (aj (k+1))) (match rK.body with| .cons _ (.cons _ (.cons _ (.cons _ (.cons (.hy _ _ (.cons _ (.cons _ (.cons _ b)))) _))))=>b|_=> .nil) [B (.ref a),B (.ref n),B (.ref l),B (.ref p),B (.ref i),B (.ref o),B (.str s),B (.int (r:Int))] j K:= λ T j h t pJ fN=>by
  left
  refine pB (λ e=>?_) (λ _=>?_)
  .left
   refine HT (au:=[[121,102],[120,102]]) (bw rfl) (bw rfl) t.bg t.ah t.lB.1 t.lB.2 λ qp D aF aN aT ex=>?_
   have dq:=t.draw aT ex
   left
   refine me dq.ba rfl iO (h.lo rZ) ?_
   rw[BC pJ]
   left
   exact q _ _ _ (h.post pJ (fN e) aG aF (by unfold mh;exact(eV.mp aN).elim (λ q=>by rw[q];decide) λ q=>by rw[ee.mp q];decide)) dq.ahC
  .left
   exact q _ _ _ h t
 have fin2: ∀(T:bY) (j:St),e4 (done++ [s]) T->hW a f l p i o T im j->s ∉ T.post.map (·.1)->s ∉ T.inf.map (·.1)->
   aK (aD (aj (k+1))) (match rK.body with| .cons _ (.cons _ (.cons _ (.cons _ (.cons (.hy _ _ (.cons _ (.cons _ b))) _))))=>b|_=> .nil) [B (.ref a),B (.ref n),B (.ref l),B (.ref p),B (.ref i),B (.ref o),B (.str s),B (.int (r:Int))] j K:= λ T j h t pJ fN=>by
  left
  refine pB (λ e=>?_) (λ _=>?_)
  .left
   refine HT (au:=[[121,102,120],[120,102,121],[120,102,120]]) (bw rfl) (bw rfl) t.bg t.ah t.lB.1 t.lB.2 λ qp D aF aN aT ex=>?_
   have dq:=t.draw aT ex
   left
   refine me dq.bo rfl iO (h.li rZ) ?_
   rw[BC fN]
   left
   exact ON _ _ (h.inf fN pJ aG aF (by unfold iP;rcases eV.mp aN with q|aN;rw[q];decide;exact(eV.mp aN).elim (λ q=>by rw[q];decide) λ q=>by rw[ee.mp q];decide)) dq.OK pJ λ dL=>(kinds_ok e dL).elim
  .left
   exact ON _ _ h t pJ λ _=>fN
 refine pB (λ e=>?_) (λ _=>?_)
 .left
  refine HT (au:=[[102,121],[102,120]]) (bw rfl) (bw rfl) bs.bg bs.ah bs.lB.1 bs.lB.2 λ qp D aF aN aT ex=>?_
  have dq:=bs.draw aT ex
  left
  refine me dq.aT rfl iO (Y.hI rZ) ?_
  rw[BC OM]
  left
  exact fin2 _ _ (Y.pre OM aG aF (by unfold nd;exact(eV.mp aN).elim (λ q=>by rw[q];decide) λ q=>by rw[ee.mp q];decide)) dq.ahB pJ fN
 .left
  exact fin2 _ _ Y bs pJ fN
structure oB(T:bY):Prop where
 kn: ∀e∈T.pre,e.1∈fr/\e.2.1∈jW/\nd e.2.2
 lz: ∀e∈T.inf,(e.1∈fr/\e.2.1∈jW/\iP e.2.2)\/e=([44],1000,[120,102,121])\/e=([124],1100,[120,102,121])
 ok: ∀e∈T.post,e.1∈fr/\e.2.1∈jW/\mh e.2.2
 fW:T.inf.lookup [44]=B (1000,[120,102,121])
 aB:T.inf.head?=B ([44],1000,[120,102,121])
 oz:(T.pre.map (·.1)).Nodup
 lA:(T.inf.map (·.1)).Nodup
 on:(T.post.map (·.1)).Nodup
 io: ∀e∈T.post,e.1 ∉ T.inf.map (·.1)
theorem e4.fin(h:e4 fr T):oB T:=⟨h.kn,λ e aF=>(h.lz e aF).imp id .inl,h.ok,h.fW,h.aB,h.oz,h.lA,h.on,h.io⟩
theorem e4.OO(h:e4 fr T):([124]:ai) ∉ T.inf.map (·.1):=h.OG (by decide) (by decide)
theorem e4.bar(h:e4 fr T):oB ⟨T.pre,T.inf++ [([124],1100,[120,102,121])],T.post⟩:=
 ⟨h.kn,λ e aF=>(iG.mp aF).elim (λ q=>(h.lz e q).imp id .inl) λ q=> .inr (.inr (ee.mp q)),h.ok,HQ h.fW,OF h.aB,h.oz,BD h.lA h.OO,h.on,λ e aF q=>by
  rw[fO]at q
  exact(iG.mp q).elim (h.io e aF) λ q=>by
   have q:e.1=[124]:=ee.mp q
   have:=(h.ok e aF).1
   rw[q]at this;exact absurd this (by decide)⟩
theorem fresh{bG:Nat->Prop}{c:Nat}(e:aR bG j D)(m: ¬bG c)(h:D c=J):j c=J:=by
 cases q:j c with
 |none=>rfl
 |some w=>rw[e _ _ q m]at h;cases h
theorem ahF:e4 [] ⟨[],[([44],1000,[120,102,121])],[]⟩:=
 ⟨(λ _ h=>nomatch h),λ e aF=> .inr (ee.mp aF),(λ _ h=>nomatch h),rfl,rfl,nJ,Bg,nJ,(λ _ h=>nomatch h)⟩
theorem ahG(aT:i7 a f j)(aq:j n=B (.list (fr.map .str)))(na:n≠a)
  (q: ∀T p i o D,oB T->j p=J->j i=J->j o=J->D p=B (.dict (eB T.pre))->D i=B (.dict (eB T.inf))->D o=B (.dict (eB T.post))->i7 a f D->aR (λ b=>b=a) j D->Q (.tup [.ref p, .ref i, .ref o]) D):
  aj (k+2) 505 [.ref a, .ref n] j Q:=by
 refine afp ?_;left
 intro l ah
 left
 refine⟨rfl,λ p lw=>?_⟩
 left
 refine⟨rfl,λ i q9=>?_⟩
 left
 refine⟨rfl,λ o mV=>?_⟩
 have ao:aR et j (j.set l (.list q7)):=aR.new ah
 have aH:=ao.trans (aR.new (o:= .dict ([].zip [])) lw)
 have cG:=aH.trans (aR.new (o:= .dict ([a2.s [44]].zip [V.tup [V.int 1000,V.str [120,102,121]]])) q9)
 have ec:=cG.trans (aR.new (o:= .dict ([].zip [])) mV)
 obtain⟨⟨a9,aU,m,aI,aA,_⟩,_⟩:=id aT
 have jS:(j.set l (.list q7)) l=B (.list q7):=aY
 have hI:=a0 jS lw
 have li:=a0 (aC hI jS) q9
 have lo:=a0 (aC li (aC hI jS)) mV
 have pi:=a0 aY q9
 have po:=a0 (aC pi aY) mV
 have io:=a0 aY mV
 have au:hW a f l p i o ⟨[],[([44],1000,[120,102,121])],[]⟩ j _:=
  ⟨aT.keep ec ⟨id,id⟩,aC lo (aC li (aC hI jS)),aC po (aC pi aY),aC io aY,aY,
   ⟨a0 (ao _ _ aI id) lw,a0 (aH _ _ aI id) q9,a0 (cG _ _ aI id) mV⟩,⟨a0 (ao _ _ aA id) lw,a0 (aH _ _ aA id) q9,a0 (cG _ _ aA id) mV⟩,
   pi,po,io,⟨(a0 aI ah).symm,(a0 aA ah).symm⟩,ec.none⟩
 left
 refine wQ (ec _ _ aq id) ?_
 left
 refine ahD (a:=a) (f:=f) (l:=l) (p:=p) (i:=i) (o:=o) (im:=j) (n:=n) (E:= λ u v=> [B (.ref a),B (.ref n),B (.ref l),B (.ref p),B (.ref i),B (.ref o),u,v]) (λ _ _ _=>rfl) aq
  ⟨na,a0 (ao _ _ aq id) lw,a0 (aH _ _ aq id) q9,a0 (cG _ _ aq id) mV⟩ (λ s done T v j K ab ap hd h t q=>ahE ab ap hd h t q) fr [] _ J J _ rfl ahF au λ T u v D h t=>?_
 have iD:j p=J:=fresh ao id lw
 have f8:j i=J:=fresh aH id q9
 have eR:j o=J:=fresh cG id mV
 have ex: ∀{D},aR (λ b=>b=a\/b=p\/b=i\/b=o) j D->aR (λ b=>b=a) j D:= λ e b w az m=>e b w az λ q=>q.elim m λ q=>q.elim (a0 az iD) λ q=>q.elim (a0 az f8) (a0 az eR)
 left
 refine jV (n:=2) t.bg (by decide) (by decide+kernel) λ r aP aO ga bt=>?_
 have bs:=t.draw ga bt.ex
 left
 refine pB (λ _=>?_) (λ _=>?_)
 .left
  refine me bs.bo rfl iO (h.li (by decide)) ?_
  rw[show(V.tup [.int 1100, .str [120,102,121]])=fC (1100,[120,102,121])from rfl,BC h.OO]
  have dq:=bs.OK (cS:=T.inf++ [([124],1100,[120,102,121])])
  left
  exact q _ p i o _ h.bar iD f8 eR dq.aT dq.bo dq.ba dq.bg (ex dq.ex)
 .left
  exact q _ p i o _ h.fin iD f8 eR bs.aT bs.bo bs.ba bs.bg (ex bs.ex)
end
section
variable{k:Nat}{j D:St}{Q:V->St->Prop}{a f dC n cx:Nat}{A:cJ}{C aw:bi}{d0:List Int}{z:Int}
structure ft(a f dC n cx:Nat)(A:cJ)(d0:List Int)(C:bi)(z:Int)(j:St):Prop where
 bg:i7 a f j
 b4:c9 A C j
 hw:j dC=B (.list (d0.map .int))
 aq:j n=B (.list (fr.map .str))
 aO:j cx=B (.list [.int z])
 cK:eu.le C
 am:A.x≠a/\ ¬A.mut a/\ ¬A.mut f
 s3:dC≠a/\ ¬A.mut dC
 nm:n≠a/\ ¬A.mut n
 ra: ¬A.mut cx
 nj:a≠cx/\f≠cx/\A.x≠cx/\dC≠cx/\n≠cx
def hX(a cx:Nat)(A:cJ):Nat->Prop:= λ b=>b=a\/A.mut b\/b=cx
theorem rb(A:cJ)(h: ¬A.mut a):A.t≠a/\A.d≠a/\A.f≠a/\A.g≠a:=
 ⟨λ q=>h (.inl q.symm),λ q=>h (.inr (.inl q.symm)),λ q=>h (.inr (.inr (.inl q.symm))),λ q=>h (.inr (.inr (.inr q.symm)))⟩
theorem ft.none(h:ft a f dC n cx A d0 C z j)(e:aR et j D):ft a f dC n cx A d0 C z D:=
 ⟨h.bg.keep e ⟨id,id⟩,h.b4.none e,e _ _ h.hw id,e _ _ h.aq id,e _ _ h.aO id,h.cK,h.am,h.s3,h.nm,h.ra,h.nj⟩
theorem ft.pick(h:ft a f dC n cx A d0 C z j)(p:i7 a f D)(s:bP (λ b=>b=a) j D):ft a f dC n cx A d0 C z D:=
 have m:=rb A h.am.2.1
 ⟨p,h.b4.keep s.ex ⟨h.am.1,m⟩,(s _ h.s3.1).trans h.hw,(s _ h.nm.1).trans h.aq,(s _ h.nj.1.symm).trans h.aO,h.cK,h.am,h.s3,h.nm,h.ra,h.nj⟩
theorem ft.book(h:ft a f dC n cx A d0 C z j)(l:C.le aw)(b:c9 A aw D)(s:bP A.mut j D):ft a f dC n cx A d0 aw z D:=
 ⟨h.bg.keep s.ex h.am.2,b,(s _ h.s3.2).trans h.hw,(s _ h.nm.2).trans h.aq,(s _ h.ra).trans h.aO,h.cK.trans l,h.am,h.s3,h.nm,h.ra,h.nj⟩
theorem ft.room{fc:Int}(h:ft a f dC n cx A d0 C z j):ft a f dC n cx A d0 C fc (j.set cx (.list [.int fc])):=
 have m:=rb A h.ra
 have e:aR (λ b=>b=cx) j (j.set cx (.list [.int fc])):=aR.set rfl
 ⟨h.bg.keep e ⟨h.nj.1,h.nj.2.1⟩,h.b4.keep e ⟨h.nj.2.2.1,m⟩,e _ _ h.hw h.nj.2.2.2.1,e _ _ h.aq h.nj.2.2.2.2,aY,h.cK,h.am,h.s3,h.nm,h.ra,h.nj⟩
structure xi(a f dC n cx:Nat)(A:cJ)(ag:Nat):Prop where
 a:a≠ag
 f:f≠ag
 dC:dC≠ag
 n:n≠ag
 cx:cx≠ag
 x:A.x≠ag
 m: ¬A.mut ag
theorem ft.rd{ag:Nat}(h:ft a f dC n cx A d0 C z j)(e:j ag= .none):xi a f dC n cx A ag:=by
 obtain⟨⟨a9,i,m,Y,Z,_⟩,_⟩:=h.bg
 exact⟨a0 Y e,a0 Z e,a0 h.hw e,a0 h.aq e,a0 h.aO e,a0 h.b4.x e,
  λ q=>q.elim (a0 h.b4.t e).symm λ q=>q.elim (a0 h.b4.d e).symm λ q=>q.elim (a0 h.b4.f e).symm (a0 h.b4.g e).symm⟩
theorem xi.ahH{ag:Nat}(h:xi a f dC n cx A ag): ¬hX a cx A ag:= λ q=>q.elim h.a.symm λ q=>q.elim h.m h.cx.symm
theorem ft.put{ag:Nat}{o:O}(h:ft a f dC n cx A d0 C z j)(p:xi a f dC n cx A ag):ft a f dC n cx A d0 C z (j.set ag o):=
 have e:aR (λ b=>b=ag) j (j.set ag o):=aR.set rfl
 ⟨h.bg.keep e ⟨p.a,p.f⟩,h.b4.keep e ⟨p.x,rb A p.m⟩,e _ _ h.hw p.dC,e _ _ h.aq p.n,e _ _ h.aO p.cx,h.cK,h.am,h.s3,h.nm,h.ra,h.nj⟩
noncomputable def gT(z:Int):Nat:=3*(z - 1).toNat
theorem ahI{z:Int}:gT (z - 1)<=gT z:=xc 3 (Int.toNat_le_toNat (Int.sub_le_self _ (by decide)))
theorem ahJ{z:Int}(h:0<z - 1):3+gT (z - 1)<=gT z:=by
 unfold gT
 obtain⟨n,e⟩:=t0 (Ny h)
 rw[e]at h ⊢
 cases n with
 |zero=>exact absurd h (Int.lt_irrefl 0)
 |succ k=>
  rw[Int.natCast_succ,Int.add_sub_cancel]
  show 3+3*k<=3*(k+1)
  rw[afS,hS];exact dt _
structure Drawn(C:bi)(t:T):Prop where
 fit:t.fit
 f5:C.cv t
theorem Drawn.le(h:Drawn C t)(l:C.le aw):Drawn aw t:=⟨h.fit,l.cv h.f5⟩
noncomputable def mo:List T->Nat
 | []=>0
 |t::l=>t.ay+mo l
theorem OP{t:T}: ∀{l:List T},mo (l++ [t])=mo l+t.ay
 | []=>by show t.ay+0=0+t.ay;right
 |u::l=>by show u.ay+mo (l++ [t])=u.ay+mo l+t.ay;rw[OP];right
theorem ahK{l:List T}(h:C.le aw)(k: ∀t∈l,Drawn C t):l.map aw.enc=l.map C.enc:=q0 λ t aN=>h.enc (k t aN).f5
theorem ahL{ag:Nat}(bS:xi a f dC n cx A ag){fy:V->St->(Option V->St->Prop)->Prop}
  (body: ∀(v:V) (C:bi) (z:Int) (j:St) (dE:Option V->St->Prop),ft a f dC n cx A d0 C z j->
   (∀t aw fc D,Drawn aw t->C.le aw->t.ay+gT fc<=1+gT z->ft a f dC n cx A d0 aw fc D->aR (hX a cx A) j D->dE (B (aw.enc t)) D)->fy v j dE): ∀(X:List V) (au:List T) (C:bi) (z:Int) (j:St) (Q:List V->St->Prop),ft a f dC n cx A d0 C z j->j ag=B (.list (au.map C.enc))->(∀t∈au,Drawn C t)->
   (∀s0 aw fc D,s0.length=au.length+X.length->(∀t∈s0,Drawn aw t)->C.le aw->mo s0+gT fc<=mo au+X.length+gT z->ft a f dC n cx A d0 aw fc D->D ag=B (.list (s0.map aw.enc))->aR (λ b=>hX a cx A b\/b=ag) j D->Q (s0.map aw.enc) D)->
   h3 (λ _=>True) fy ag X (au.map C.enc) j Q:=by
 intro b0;induction b0 with
 |nil=>
  intro au C z j Q g h k q
  exact⟨trivial,h,q au C z j rfl k .refl (dt _) g h .refl⟩
 |cons v X aB=>
  intro au C z j Q g h k q
  exact⟨trivial,body v C z j _ g λ t aw fc D lC l ab ht e=>by
   have hd:D ag=B (.list (au.map C.enc)):=e _ _ h bS.ahH
   refine⟨hd,?_⟩
   dsimp only
   rw[<-ahK l k, <-List.map_singleton (f:=aw.enc) (a:=t), <-fO]
   refine aB (au++ [t]) aw fc _ Q (ht.put bS) aY (λ u bE=>(iG.mp bE).elim (λ m=>(k u m).le l) λ m=>by rw[ee.mp m];exact lC)
    λ s0 kj ahM eL Y Z aE bv cw hj kH=>q s0 kj ahM eL ?_ Z (l.trans aE) ?_ cw hj λ b w az m=>kH b w (aC (λ q=>m (.inr q)) (e b w az λ q=>m (.inl q))) m
   .rw[Y,bK];show au.length+1+X.length=au.length+(X.length+1);right
   .rw[OP]at bv;rw[el];right⟩
end
section
variable{k:Nat}{j D:St}{Q:V->St->Prop}{a f dC n cx:Nat}{A:cJ}{C aw:bi}{d0:List Int}{z:Int}
theorem ahN{d:Int}{g:ai}{m:Nat}{HU u0 BE BF:Option V}(kc:ft a f dC n cx A d0 C z j)(aM:g∈di)(aG:C.has g m)(s1:m=1\/m=2\/m=3)
  (rec: ∀(C:bi) (z:Int) (j:St) (Q:V->St->Prop),ft a f dC n cx A d0 C z j->(∀t aw fc D,Drawn aw t->C.le aw->t.ay+gT fc<=1+gT z->ft a f dC n cx A d0 aw fc D->aR (hX a cx A) j D->Q (aw.enc t) D)->
   aj (k+1) 510 [.ref a, .ref A.x, .ref dC, .ref n, .int (d+1), .ref cx] j Q)
  (q: ∀t aw fc D,Drawn aw t->C.le aw->t.ay+gT fc<=1+(3+gT z)->ft a f dC n cx A d0 aw fc D->aR (hX a cx A) j D->Q (aw.enc t) D):
  aK (aD (aj (k+1))) (match qd.body with| .cons _ (.cons _ (.cons _ (.cons _ (.cons _ (.cons _ (.cons _ r))))))=>r|_=> .nil)
   [B (.ref a),B (.ref A.x),B (.ref dC),B (.ref n),B (.int d),B (.ref cx),HU,u0,BE,BF,B (.int (C.fn g m:Int)),J,J] j (cr Q):=by
 left
 refine cc kc.b4.x rfl rfl (f:=91) rfl ?_;left
 refine afY kc.b4 aG ?_;left
 rw[xh (a:=0) (b:=(m:Int)) ⟨by decide,by rw[s2];exact cA (by right)⟩]
 have ah:(hb 0 (m:Int)).length=m:=by unfold hb;rw[c2,Fe];right
 left
 refine⟨cA (by rw[ah];right),λ ag bS=>?_⟩
 have nP:=kc.rd bS
 refine ahL nP (λ v C z j dE g q=>?_) (hb 0 (m:Int)) [] C z _ _ (kc.put nP) aY (λ _ h=>nomatch h) λ au aw fc D Y Z aE bv cw hj kH=>?_
 .left
  exact rec C z j _ g q
 .left
  rw[ah]at Y bv
  have Y:au.length=m:=Y.trans (mN m)
  have bv:mo au+gT fc<=m+gT z:=by have:mo au+gT fc<=mo []+m+gT z:=bv;rw[show mo []=0 from rfl]at this;right
  have ex:aR (hX a cx A) j D:= λ b w az i8=>kH b w (aC (a0 az bS) az) λ q=>q.elim i8 (a0 az bS)
  refine Hc hj (cA (by rw[c2];right)) ?_
  left
  rw[<-aE.fn aG]
  have gF:=aE.has aG
  have fin: ∀t:T,aw.enc t= .tup [.str [115], .int (aw.fn g m:Int), .tup (au.map aw.enc)]->Drawn aw t->t.ay=mo au+1->Q (V.tup [V.str [115],V.int (aw.fn g m:Int),V.tup (au.map aw.enc)]) D:= λ t e lC ab=>by
   rw[<-e]
   exact q t aw fc D lC aE (by right) cw ex
  rcases au with _|⟨x,_|⟨y,_|⟨u,_|⟨v,au⟩⟩⟩⟩
  .simp only[jM]at Y;right
  .subst Y
   have aJ:=Z x (eT ..)
   exact fin (.bf g x) rfl ⟨⟨aM,aJ.fit⟩,gF,aJ.f5⟩ rfl
  .subst Y
   have aJ:=Z x (eT ..)
   have bJ:=Z y (f0 _ (eT ..))
   exact fin (.a3 g x y) rfl ⟨⟨aM,aJ.fit,bJ.fit⟩,gF,aJ.f5,bJ.f5⟩ (by show x.ay+y.ay+1=x.ay+(y.ay+0)+1;right)
  .subst Y
   have aJ:=Z x (eT ..)
   have bJ:=Z y (f0 _ (eT ..))
   have bE:=Z u (f0 _ (f0 _ (eT ..)))
   exact fin (.dp g x y u) rfl ⟨⟨aM,aJ.fit,bJ.fit,bE.fit⟩,gF,aJ.f5,bJ.f5,bE.f5⟩ (by show x.ay+y.ay+u.ay+1=x.ay+(y.ay+(u.ay+0))+1;right)
  .simp only[el]at Y;right
end
section
variable{k:Nat}{j D:St}{Q:V->St->Prop}{a f dC n cx:Nat}{A:cJ}{C aw:bi}{d0:List Int}{z:Int}
theorem pK:bP (λ b=>b=a) j D->aR (hX a cx A) j D:= λ s=>s.ex.mono λ _=> .inl
theorem rc:bP A.mut j D->aR (hX a cx A) j D:= λ s=>s.ex.mono λ _ q=> .inr (.inl q)
theorem u2{s:ai}(h:s∈fr):s∈di:=lu _ (lu _ (oj _ h))
theorem OQ{s:ai}(h:s∈qN):s∈di:=lu _ (oj _ h)
noncomputable def amO:List (ai×Nat):=[([102],3),([91,93],1),([123,125],2),([44],1),([36,86,65,82],1)]
theorem amP{m r:Nat}:decide ((r:Int)=(m:Int))=decide (r=m):=qR
theorem ahO{r:Nat}(bX: ¬(r:Int)=0)(Y: ¬(r:Int)=1)(Z: ¬(r:Int)=2)(aE: ¬(r:Int)=3): ¬r<4:=by
 rcases r with _|_|_|_|r
 .exact λ _=>bX rfl
 .exact λ _=>Y rfl
 .exact λ _=>Z rfl
 .exact λ _=>aE rfl
 .exact mc.mpr (kG 4 r)
theorem OR{d:Int}(hw:0<d0.length/\d0.length<=100/\ ∀w∈d0,w.natAbs<10^60)(kc:ft a f dC n cx A d0 C z j)
  (rec:d<4-> ∀(C:bi) (z:Int) (j:St) (Q:V->St->Prop),ft a f dC n cx A d0 C z j->(∀t aw fc D,Drawn aw t->C.le aw->t.ay+gT fc<=1+gT z->ft a f dC n cx A d0 aw fc D->aR (hX a cx A) j D->Q (aw.enc t) D)->
   aj (k+3) 510 [.ref a, .ref A.x, .ref dC, .ref n, .int (d+1), .ref cx] j Q)
  (q: ∀t aw fc D,Drawn aw t->C.le aw->t.ay+gT fc<=1+gT z->ft a f dC n cx A d0 aw fc D->aR (hX a cx A) j D->Q (aw.enc t) D):
  aj (k+4) 510 [.ref a, .ref A.x, .ref dC, .ref n, .int d, .ref cx] j Q:=by
 refine afq ?_;left
 refine fD (i:=0) (v:= .int z) kc.aO rfl rfl (cA (bw rfl)) ?_;left
 refine Hb (i:=0) kc.aO rfl (bw rfl) (cA (bw rfl)) ?_
 have eX:=kc.room (fc:=z - 1)
 have ao:aR (hX a cx A) j (j.set cx (.list [.int (z - 1)])):=aR.set (.inr (.inr rfl))
 have fin: ∀(r:Nat) (aP:St),(r<4\/(d<4/\0<z - 1))->r<12->ft a f dC n cx A d0 C (z - 1) aP->aR (hX a cx A) j aP->aK (aD (aj (k+3))) (match qd.body with| .cons _ (.cons _ r)=>r|_=> .nil)
   [B (.ref a),B (.ref A.x),B (.ref dC),B (.ref n),B (.int d),B (.ref cx),B (.int (r:Int)),J,J,J,J,J,J] aP (cr Q):= λ r aP aO amQ eX ao=>by
  have xj: ∀t aw D,Drawn aw t->t.ay=1->C.le aw->ft a f dC n cx A d0 aw (z - 1) D->aR (hX a cx A) j D->Q (aw.enc t) D:= λ t aw D lC ab l g e=>q t aw (z - 1) D lC l (by rw[ab];exact nM ahI 1) g e
  left
  refine iL (λ h=>?_) (λ bX=>?_)
  .left
   refine jV (n:=4) eX.bg (by decide) (by decide+kernel) λ v bA bF hg b2=>?_
   left
   exact xj (.v v) C bA ⟨bF,trivial⟩ rfl .refl (eX.pick hg b2) (ao.trans (pK b2))
  left
  refine iL (λ h=>?_) (λ Y=>?_)
  .left
   have xk:(d0.map V.int).length<=ay:=by rw[c2];exact cA (by omega)
   refine mf eX.hw xk ?_
   rw[c2]
   left
   refine jV (n:=d0.length) eX.bg hw.1 (dP hw.2.1 (by decide+kernel)) λ v bA bF hg b2=>?_
   have fk:=eX.pick hg b2
   left
   refine fD (i:=v) (v:= .int d0[v]) fk.hw rfl (by rw[jq,hi bF];rfl) xk ?_
   left
   refine jV (n:=2) fk.bg (by decide) (by decide+kernel) λ u dR bE u3 eF=>?_
   have jU:=fk.pick u3 eF
   have aA:=hw.2.2 _ (u1 bF)
   have cG:=(ao.trans (pK b2)).trans (pK eF)
   left
   by_cases h:(u:Int)=0
   .rw[ce h];left
    exact xj (.i d0[v]) C dR ⟨aA,trivial⟩ rfl .refl jU cG
   .rw[bW h];left
    exact xj (.i (-d0[v])) C dR ⟨by show(-d0[v]).natAbs<_;rw[Int.natAbs_neg];exact aA,trivial⟩ rfl .refl jU cG
  left
  refine iL (λ h=>?_) (λ Z=>?_)
  .left
   refine cc eX.b4.x rfl rfl (f:=56) rfl ?_;left
   refine mf eX.aq (cA (by decide)) ?_;left
   refine jV (n:=10) eX.bg (by decide) (by decide+kernel) λ v bA bF hg b2=>?_
   have fk:=eX.pick hg b2
   left
   have lm:v<fr.length:=bF
   refine fD (i:=v) (v:= .str fr[v]) fk.aq rfl (by rw[jq,hi lm];rfl) (cA (by decide)) ?_
   left
   have bE:=u2 (u1 lm)
   refine uM fk.b4 bE λ aw dR l d5 m eF=>?_
   left
   exact xj (.a fr[v]) aw dR ⟨bE,m⟩ rfl l (fk.book l d5 eF) ((ao.trans (pK b2)).trans (rc eF))
  left
  refine iL (λ h=>?_) (λ aE=>?_)
  .left
   intro c ap
   have mq:=eX.put (o:= .list (qN.map .str)) (eX.rd ap)
   have HV:=ao.trans (aR.new (bG:=hX a cx A) (o:= .list (qN.map .str)) ap)
   have q8:c≠a:=(eX.rd ap).a.symm
   left
   refine cc mq.b4.x rfl rfl (f:=56) rfl ?_;left
   refine jV (n:=10) mq.bg (by decide) (by decide+kernel) λ v bA bF hg b2=>?_
   have fk:=mq.pick hg b2
   left
   have lm:v<qN.length:=bF
   refine fD (l:=qN.map .str) (i:=v) (v:= .str qN[v]) ((b2 c q8).trans aY) rfl (by rw[jq,hi lm];rfl) (cA (by decide)) ?_
   left
   have bE:=OQ (u1 lm)
   refine uM fk.b4 bE λ aw dR l d5 m eF=>?_
   left
   exact xj (.a qN[v]) aw dR ⟨bE,m⟩ rfl l (fk.book l d5 eF) ((HV.trans (pK b2)).trans (rc eF))
  have hd:d<4/\0<z - 1:=aO.resolve_left (ahO bX Y Z aE)
  have h7:3+gT (z - 1)<=gT z:=ahJ hd.2
  have fin: ∀(g:ai) (m:Nat) (aw:bi) (bA:St) (u0 BE BF:Option V),g∈di->aw.has g m->(m=1\/m=2\/m=3)->C.le aw->ft a f dC n cx A d0 aw (z - 1) bA->aR (hX a cx A) j bA->
    aK (aD (aj (k+3))) (match qd.body with| .cons _ (.cons _ (.cons _ (.cons _ (.cons _ (.cons _ (.cons _ r))))))=>r|_=> .nil)
    [B (.ref a),B (.ref A.x),B (.ref dC),B (.ref n),B (.int d),B (.ref cx),B (.int (r:Int)),u0,BE,BF,B (.int (aw.fn g m:Int)),J,J] bA (cr Q):= λ g m aw bA u0 BE BF aM aG s1 l fk aH=>
   ahN fk aM aG s1 (rec hd.1) λ t kj fc dR lC cS ab jU cG=>q t kj fc dR lC (l.trans cS) (ca ab (nM h7 1)) jU (aH.trans cG)
  left
  refine iL (λ h=>?_) (λ kH=>?_)
  .left
   intro c ap
   have mq:=eX.put (o:= .list [.str [44], .str [124]]) (eX.rd ap)
   have HV:=ao.trans (aR.new (bG:=hX a cx A) (o:= .list [.str [44], .str [124]]) ap)
   refine Hf mq.aq aY (cA (by decide)) λ a3 km=>?_
   have fk:=mq.put (o:= .list ((fr++ [[44],[124]]).map .str)) (mq.rd km)
   have aH:=HV.trans (aR.new (bG:=hX a cx A) (o:= .list ((fr++ [[44],[124]]).map .str)) km)
   have q8:=(mq.rd km).a.symm
   left
   refine mf fk.aq (cA (by decide)) ?_;left
   refine jV (n:=12) fk.bg (by decide) (by decide+kernel) λ v bA bF hg b2=>?_
   have jU:=fk.pick hg b2
   left
   have lm:v<(fr++ [[44],[124]]).length:=bF
   refine fD (l:=(fr++ [[44],[124]]).map .str) (i:=v) (v:= .str (fr++ [[44],[124]])[v]) ((b2 a3 q8).trans aY) rfl (by rw[jq,hi lm];rfl) (cA (by decide)) ?_
   left
   have bE:(fr++ [[44],[124]])[v]∈di:=(iG.mp (u1 lm)).elim u2 λ m=>OQ (by rcases eV.mp m with e|m;rw[e];decide;rw[ee.mp m];decide)
   refine cc jU.b4.x rfl rfl (f:=77) rfl ?_;left
   refine ol (n:=2) jU.b4 bE (by decide) λ aw dR l d5 m eF=>?_
   have:=fin _ 2 aw dR J J (B (.str (fr++ [[44],[124]])[v])) bE m (.inr (.inl rfl)) l (jU.book l d5 eF) ((aH.trans (pK b2)).trans (rc eF))
   left
   exact this
  left
  refine iL (λ h=>?_) (λ HW=>?_)
  .left
   refine cc eX.b4.x rfl rfl (f:=77) rfl ?_;left
   refine mf eX.aq (cA (by decide)) ?_;left
   refine jV (n:=10) eX.bg (by decide) (by decide+kernel) λ v bA bF hg b2=>?_
   have fk:=eX.pick hg b2
   left
   have lm:v<fr.length:=bF
   refine fD (i:=v) (v:= .str fr[v]) fk.aq rfl (by rw[jq,hi lm];rfl) (cA (by decide)) ?_
   left
   have bE:=u2 (u1 lm)
   refine ol (n:=1) fk.b4 bE (by decide) λ aw dR l d5 m eF=>?_
   have:=fin _ 1 aw dR J J J bE m (.inl rfl) l (fk.book l d5 eF) ((ao.trans (pK b2)).trans (rc eF))
   left
   exact this
  have OS: ∀{g:ai} {m:Nat},eu.has g m->C.has g m/\C.fn g m=eu.fn g m:= λ h=>⟨eX.cK.has h,eX.cK.fn h⟩
  left
  refine iL (λ h=>?_) (λ HW=>?_)
  .obtain ⟨m,e⟩:=OS nc.1
   have:=fin _ 2 C aP J J J (by decide) m (.inr (.inl rfl)) .refl eX ao
   rw[e,qX.1]at this
   left
   exact this
  left
  refine iL (λ h=>?_) (λ amR=>?_)
  .obtain ⟨m,e⟩:=OS nc.2.1
   have:=fin _ 1 C aP J J J (by decide) m (.inl rfl) .refl eX ao
   rw[e,qX.2.1]at this
   left
   exact this
  left
  refine cc eX.b4.x rfl rfl (f:=77) rfl ?_;left
  refine ol (n:=3) eX.b4 (f:=[102]) (by decide) (by decide) λ dy bA pb cq uz bt=>?_
  have fk:=eX.book pb cq bt
  left
  refine cc fk.b4.x rfl rfl (f:=77) rfl ?_;left
  refine ol (n:=1) fk.b4 (f:=[91,93]) (by decide) (by decide) λ gv dR jK dX BG b2=>?_
  have jU:=fk.book jK dX b2
  left
  refine cc jU.b4.x rfl rfl (f:=77) rfl ?_;left
  refine ol (n:=2) jU.b4 (f:=[123,125]) (by decide) (by decide) λ BH fY wi d5 s1 eF=>?_
  have u4:=jU.book wi d5 eF
  left
  refine cc u4.b4.x rfl rfl (f:=77) rfl ?_;left
  refine ol (n:=1) u4.b4 (f:=[44]) (by decide) (by decide) λ g8 hD pL fK ahP jt=>?_
  have xl:=u4.book pL fK jt
  have hO:=(((ao.trans (rc bt)).trans (rc b2)).trans (rc eF)).trans (rc jt)
  have HX:=wi.trans pL
  have HY:=jK.trans HX
  have HZ:g8.has [36,86,65,82] 1:=xl.cK.has nc.2.2
  rw[<-HY.fn uz, <-HX.fn BG, <-pL.fn s1]
  have ahQ:g8.fn [36,86,65,82] 1=17:=(xl.cK.fn nc.2.2).trans qX.2.2
  left
  intro c ap
  have OT:=xl.put (o:= .list [.int (g8.fn [102] 3:Int), .int (g8.fn [91,93] 1:Int), .int (g8.fn [123,125] 2:Int), .int (g8.fn [44] 1:Int), .int 17]) (xl.rd ap)
  have q8:=(xl.rd ap).a.symm
  left
  refine jV (n:=5) OT.bg (by decide) (by decide+kernel) λ v gO bF ahR sd=>?_
  have xm:=OT.pick ahR sd
  have lq:=(hO.trans (aR.new (bG:=hX a cx A) (o:= .list [.int (g8.fn [102] 3:Int), .int (g8.fn [91,93] 1:Int), .int (g8.fn [123,125] 2:Int), .int (g8.fn [44] 1:Int), .int 17]) ap)).trans (pK sd)
  have xn:=pb.trans HY
  have xo:=(sd c q8).trans aY
  left
  rcases v with _|_|_|_|_|v
  .refine fD xo rfl rfl (cA (by decide:5<=1000)) ?_
   have:=fin _ 3 g8 gO J J J (by decide) (HY.has uz) (.inr (.inr rfl)) xn xm lq
   left;exact this
  .refine fD xo rfl rfl (cA (by decide:5<=1000)) ?_
   have:=fin _ 1 g8 gO J J J (by decide) (HX.has BG) (.inl rfl) xn xm lq
   left;exact this
  .refine fD xo rfl rfl (cA (by decide:5<=1000)) ?_
   have:=fin _ 2 g8 gO J J J (by decide) (pL.has s1) (.inr (.inl rfl)) xn xm lq
   left;exact this
  .refine fD xo rfl rfl (cA (by decide:5<=1000)) ?_
   have:=fin _ 1 g8 gO J J J (by decide) ahP (.inl rfl) xn xm lq
   left;exact this
  .refine fD xo rfl rfl (cA (by decide:5<=1000)) ?_
   have:=fin _ 1 g8 gO J J J (by decide) HZ (.inl rfl) xn xm lq
   rw[ahQ]at this
   left;exact this
  .omega
 have go: ∀(N:Nat),(N=4\/(N=12/\d<4/\0<z - 1))->aj (k+3) 498 [.ref a, .int (N:Int)] (j.set cx (.list [.int (z - 1)])) (λ v aP=>aK (aD (aj (k+3))) (match qd.body with| .cons _ (.cons _ r)=>r|_=> .nil)
   [B (.ref a),B (.ref A.x),B (.ref dC),B (.ref n),B (.int d),B (.ref cx),B v,J,J,J,J,J,J] aP (cr Q)):= λ N amS=>
  jV eX.bg (by omega) (dP (m:=12) (by omega) (by decide+kernel)) λ r aP aO ga bt=>fin r aP (by omega) (by omega) (eX.pick ga bt) (ao.trans (pK bt))
 left
 by_cases bv:d<4
 .rw[ce bv];left
  refine fD (i:=0) (v:= .int (z - 1)) aY rfl rfl (cA (bw rfl)) ?_;left
  by_cases bb:0<z - 1
  .rw[ce bb];left
   exact go 12 (.inr ⟨rfl,bv,bb⟩)
  .rw[bW bb];left
   exact go 4 (.inl rfl)
 .rw[bW bv];left
  exact go 4 (.inl rfl)
theorem ahS(hw:0<d0.length/\d0.length<=100/\ ∀w∈d0,w.natAbs<10^60): ∀(m aU:Nat) (d:Int) (C:bi) (z:Int) (j:St) (Q:V->St->Prop),d+m=4->ft a f dC n cx A d0 C z j->
  (∀t aw fc D,Drawn aw t->C.le aw->t.ay+gT fc<=1+gT z->ft a f dC n cx A d0 aw fc D->aR (hX a cx A) j D->Q (aw.enc t) D)->
  aj (aU+m+4) 510 [.ref a, .ref A.x, .ref dC, .ref n, .int d, .ref cx] j Q:=by
 intro b0;induction b0 with
 |zero=>
  intro aU d C z j Q hd g q
  exact OR (k:=aU) hw g (λ h=>absurd h (by right)) q
 |succ m aB=>
  intro aU d C z j Q hd g q
  exact OR (k:=aU+m+1) hw g (λ h C z j Q g q=>aB aU (d+1) C z j Q (by right) g q) q
end
section
variable{k:Nat}{j D:St}{Q:V->St->Prop}{C:bi}{o:du}{ek:Nat}
theorem ahT{ag:Nat}{fy:V->St->(Option V->St->Prop)->Prop}: ∀(au:List T) (bR:List V) (j:St) (Q:List V->St->Prop),j ag=B (.list bR)->
   (∀t∈au, ∀(aP:St) (dE:Option V->St->Prop),aR (λ b=>b=ag) j aP->(∀D,aR et aP D->dE (B (C.enc (cZ o t))) D)->fy (C.enc t) aP dE)->
   (∀D,D ag=B (.list (bR++au.map λ t=>C.enc (cZ o t)))->aR (λ b=>b=ag) j D->Q (bR++au.map λ t=>C.enc (cZ o t)) D)->
   h3 (λ _=>True) fy ag (au.map C.enc) bR j Q:=by
 intro b0;induction b0 with
 |nil=>
  intro bR j Q h body q
  exact⟨trivial,h,by rw[qU,dV]at q;exact q j h .refl⟩
 |cons t au aB=>
  intro bR j Q h body q
  exact⟨trivial,body t (eT ..) j _ .refl λ D e=>by
   refine⟨e _ _ h id,?_⟩
   dsimp only
   have ex:aR (λ b=>b=ag) j (D.set ag (.list (bR++ [C.enc (cZ o t)]))):= λ b w az m=>aC m (e _ _ az id)
   refine aB (bR++ [C.enc (cZ o t)]) _ Q aY (λ u bE aP dE ao q=>body u (f0 _ bE) aP dE (ex.trans ao) q) λ eL Z aH=>?_
   rw[cM]at Z ⊢
   exact q eL Z (ex.trans aH)⟩
theorem ahU: ∀i,i<26->([65,66,67,68,69,70,71,72,73,74,75,76,77,78,79,80,81,82,83,84,85,86,87,88,89,90]:ai)[i]?=B (65+i):=by decide
theorem H0{g:ai}{au:List T}{t':T}{n:Nat}(ab:dU j (.tup [.str [115], .int (C.fn g n:Int), .tup (au.map C.enc)]) (.int 2)=B (.tup (au.map C.enc)):=rfl)(aE:au.length<=3)(ap:j ek=B (.dict (de o.called)))
  (aN:C.enc t'= .tup [.str [115], .int (C.fn g n:Int), .tup (au.map λ t=>C.enc (cZ o t))])
  (body: ∀t∈au, ∀(j:St) (Q:V->St->Prop),j ek=B (.dict (de o.called))->(∀D,aR et j D->Q (C.enc (cZ o t)) D)->aj k 560 [C.enc t, .ref ek, .bool o.num] j Q)
  (q: ∀D,aR et j D->Q (C.enc t') D):
  aK (aD (aj k)) (match mD.body with| .cons _ (.cons _ (.cons _ r))=>r|_=> .nil)
   [B (.tup [.str [115], .int (C.fn g n:Int), .tup (au.map C.enc)]),B (.ref ek),B (.bool o.num),J,J,J,J] j (cr Q):=by
 left
 refine⟨cA (by rw[c2];right),λ ag bS=>?_⟩
 have cW:aR et j (j.set ag (.list [])):=aR.new bS
 refine ahT (o:=o) au [] _ _ aY (λ t m aP dE ao q=>?_) λ D hd ao=>?_
 .left
  exact body t m aP _ (ao _ _ (cW _ _ ap id) (a0 ap bS)) q
 .left
  refine Hc hd (cA (by rw[pI,c2];right)) ?_
  left
  have:=q D λ b w az _=>ao b w (cW _ _ az id) (a0 az bS)
  rw[aN]at this
  exact this
end
section
variable{k:Nat}{j D:St}{Q:V->St->Prop}{C:bi}{o:du}{ek:Nat}
theorem ahV{a:Nat}{t:ai}{d:List (a2×V)}{l:List ai}(h:j a=B (.dict d))(aA:d.all (λ x=>x.1.fR)=G)(ab:d.map (·.2)=l.map .str)(q:Q (.bool (decide (t∈l))) j):vA (.str t) (.ref a) j Q:=by
 unfold vA;dsimp only;rw[h];dsimp only
 refine⟨aA,?_⟩
 rw[ab,strs_map]
 have:(l.any λ y=>decide (y=t))=decide (t∈l):=by
  rw[v4,adM,decide_eq_true_iff]
  exact⟨λ⟨y,bJ,e⟩=>by rw[<-of_decide_eq_true e];exact bJ,λ h=>⟨t,h,ce rfl⟩⟩
 show Q (.bool (l.any λ y=>decide (y=t))) j
 rw[this];exact q
theorem ahW{l:List (Nat×ai)}:(de l).map (·.2)=(l.map (·.2)).map .str:=by
 unfold de;rw[H1,H1];rfl
theorem ahX{n:Nat}(ap:j ek=B (.dict (de o.called)))(ok:o.Ok)(aq:n<4)(q:Q (C.enc (.n (lr o n))) j):aj (k+1) 560 [C.enc (.v n), .ref ek, .bool o.num] j Q:=by
 refine wN ?_;left
 refine wT rfl (h9 aq (by decide+kernel)) ?_;left
 have hd:(cY n).length<=1:=px (h9 aq (by decide)) (by decide)
 refine ik (cA (by show 1+(cY n).length<=_;omega)) ?_;left
 unfold lr at q
 have fin: ∀s:ai,(o.called.lookup n).getD s=(o.called.lookup n).getD (under 10 (o.called.map (·.2)) (95::cY n))->
   aK (aD (aj k)) (match mD.body with| .cons (.c4 _ (.cons _ (.cons _ r)) _) _=>r|_=> .nil) [B (C.enc (.v n)),B (.ref ek),B (.bool o.num),B (.str s),J,J,J] j (cr Q):= λ s ab=>by
  left
  refine sK ap ?_;left
  refine A6 ap rfl xa ?_
  rw[uV]
  have:((o.called.lookup n).map V.str).getD (.str s)= .str ((o.called.lookup n).getD s):=by cases o.called.lookup n<;>rfl
  rw[this,ab]
  left;exact q
 have fy: ∀(s:ai) (m:Nat) (c:Bool) (aG:(o.called.lookup n).isSome=c) (K:bM->ax->St->Prop),s.length<=900->
   (s∈o.called.map (·.2)->c=U->ep (dF (aD (aj k)) (match mD.body with| .cons (.c4 _ (.cons _ (.cons (.gi c _) _)) _) _=>c|_=> .bad)) (aK (aD (aj k)) (match mD.body with| .cons (.c4 _ (.cons _ (.cons (.gi _ b) _)) _) _=>b|_=> .nil)) m [B (C.enc (.v n)),B (.ref ek),B (.bool o.num),B (.str (s++ [95])),J,J,J] j K)->
   ((s∈o.called.map (·.2)->c=G)->K .next [B (C.enc (.v n)),B (.ref ek),B (.bool o.num),B (.str s),J,J,J] j)->
   ep (dF (aD (aj k)) (match mD.body with| .cons (.c4 _ (.cons _ (.cons (.gi c _) _)) _) _=>c|_=> .bad)) (aK (aD (aj k)) (match mD.body with| .cons (.c4 _ (.cons _ (.cons (.gi _ b) _)) _) _=>b|_=> .nil)) (m+1) [B (C.enc (.v n)),B (.ref ek),B (.bool o.num),B (.str s),J,J,J] j K:= λ s m c aG K ab Y Z=>by
  rw[j1];left
  refine ahV ap (HL _) ahW ?_
  by_cases bE:s∈o.called.map (·.2)
  .rw[ce bE];left
   refine wP ap rfl xa ?_
   rw[uV]
   have:((o.called.lookup n).map V.str).isSome=c:=by rw[JX];exact aG
   rw[this]
   cases c
   .left
    refine ik (cA (by show s.length+1<=_;omega)) ?_;left
    exact Y bE rfl
   .left
    exact Z λ _=>rfl
  .rw[bW bE];left
   exact Z λ m=>absurd m bE
 cases ah:o.called.lookup n with
 |some s=>
  refine⟨1,fy _ 0 G (congrArg ahY ah) _ (by show(cY n).length+1<=_;omega) (λ _ h=>nomatch h) λ _=>?_⟩
  have:=fin (95::cY n) (by rw[ah];rfl)
  left
  exact this
 |none=>
  refine⟨11,N7 (E:= λ s=> [B (C.enc (.v n)),B (.ref ek),B (.bool o.num),B (.str s),J,J,J]) (l:=o.called.map (·.2)) (λ s m K ab Y Z=>fy s m U (congrArg ahY ah) K ab (λ h _=>Y h) λ h=>Z λ h'=>nomatch h h') 10 (95::cY n) (by show(cY n).length+1+10<=_;omega) (ok.un n aq) ?_⟩
  have:=fin (under 10 (o.called.map (·.2)) (95::cY n)) (by rw[ah])
  left
  exact this
theorem ahZ{n:Nat}(cK:eu.le C)(ak:C.has [36,86,65,82] 1)(aq:n<10^60)(ba:o.num=G)(q:Q (C.enc (.n (ii n))) j):aj (k+1) 560 [C.enc (.bf [36,86,65,82] (.i n)), .ref ek, .bool o.num] j Q:=by
 refine wN ?_;rw[ba];left
 rw[w5 cK ak,ce ⟨rfl,rfl⟩];left
 rw[ce (k6 n)];left
 refine qQ (by decide) ?_;left
 rw[show(n:Int).fmod 26=(n%26:Nat)from qT n 26]
 refine hv rfl (ahU _ (pw _ (by decide))) (cA (by decide)) ?_;left
 unfold ii at q
 rw[show decide (25<(n:Int))=decide (25<n)from iM (m:=25)]
 by_cases h:25<n
 .rw[aL (mc.mpr h)]at q
  rw[ce h];left
  refine He (by decide) ?_;left
  rw[show(n:Int).fdiv 26=(n/26:Nat)from wS n 26]
  have ah:n/26<10^60:=dP (Bc ..) aq
  refine wT rfl (h9 ah (by decide+kernel)) ?_;left
  refine ik (cA (by have:=px ah (by decide);show 1+(cY (n/26)).length<=_;right)) ?_;left
  exact q
 .rw[aQ (H2 (AY h))]at q
  rw[bW h];left
  refine ik (cA (by show 1+0<=_;right)) ?_;left
  exact q
theorem H3{t:T}{g:ai}{n:Nat}{au:List T}(cK:eu.le C)(aM:C.has g n)(ao:C.enc t= .tup [.str [115], .int (C.fn g n:Int), .tup (au.map C.enc)])
  (HZ:o.num=G->g=[36,86,65,82]/\n=1-> ∃x,au=[x]/\pr x= .none)
  (q:aK (aD (aj k)) (match mD.body with| .cons _ (.cons _ (.cons _ r))=>r|_=> .nil) [B (.tup [.str [115], .int (C.fn g n:Int), .tup (au.map C.enc)]),B (.ref ek),B (.bool o.num),J,J,J,J] j (cr Q)):aj (k+1) 560 [C.enc t, .ref ek, .bool o.num] j Q:=by
 refine wN ?_
 rw[ao]
 left
 cases ba:o.num
 .rw[ba]at q
  left
  exact q
 .rw[ba]at q
  left
  rw[w5 cK aM]
  by_cases bF:g=[36,86,65,82]/\n=1
  .rw[ce bF];left
   obtain⟨x,rfl,aJ⟩:=HZ ba bF
   rw[h5,qU]at q ⊢
   left
   rw[Bn];left
   rcases Bp (t:=x)with⟨e,_⟩|⟨z,rfl,e⟩
   .rw[e];left;exact q
   .rw[show decide (sT (.i z)=[105])=G from rfl];left
    rw[aJ]at e
    have bb: ¬0<=z:= λ h=>by rw[aQ h]at e;cases e
    rw[bW bb];left;exact q
  .rw[bW bF];left
   exact q
theorem ah0{f:ai}{x:T}(h:hE o f x=J):o.num=G->f=[36,86,65,82]->pr x=J:= λ Y Z=>by
 unfold hE at h;rw[Y,ce Z]at h;exact h
theorem s4(cK:eu.le C)(ok:o.Ok): ∀(t:T) (m:Nat) (j:St) (Q:V->St->Prop),t.ay<=m->C.cv t->t.fit->j ek=B (.dict (de o.called))->(∀D,aR et j D->Q (C.enc (cZ o t)) D)->aj (m+1) 560 [C.enc t, .ref ek, .bool o.num] j Q
 | .v n,m,j,Q,aG,ak,aA,ap,q=>ahX ap ok aA (q j .refl)
 | .n s,m,j,Q,aG,ak,aA,ap,q=>aA.elim
 | .i z,m,j,Q,aG,ak,aA,ap,q=>by
  refine wN ?_;left
  exact q j .refl
 | .a s,m,j,Q,aG,ak,aA,ap,q=>by
  refine wN ?_;left
  exact q j .refl
 | .bf f x,0,j,Q,aG,ak,aA,ap,q=>nomatch aG
 | .a3 f x y,0,j,Q,aG,ak,aA,ap,q=>nomatch aG
 | .dp f x y z,0,j,Q,aG,ak,aA,ap,q=>nomatch aG
 | .bf f x,m+1,j,Q,aG,ak,aA,ap,q=>by
  have aG:x.ay+1<=m+1:=aG
  cases aq:hE o f x with
  |some n=>
   obtain⟨rfl,rfl⟩:=HK aq
   have:cZ o (.bf [36,86,65,82] (.i n))= .n (ii n):=by rw[uC,aq]
   rw[this]at q
   have ba:o.num=G:=by
    cases ba:o.num
    .unfold hE at aq;rw[ba]at aq;cases aq
    .rfl
   exact ahZ cK ak.1 (by have:(n:Int).natAbs<10^60:=aA.2;rwa [s2]at this) ba (q j .refl)
  |none=>
   have:cZ o (.bf f x)= .bf f (cZ o x):=by rw[uC,aq]
   rw[this]at q
   exact H3 (au:=[x]) cK ak.1 rfl (λ Y Z=>⟨x,rfl,ah0 aq Y Z.1⟩) (H0 (au:=[x]) rfl (bw rfl) ap rfl (λ t aN j Q Y q=>by
    rw[ee.mp aN]at q ⊢
    exact s4 cK ok x m j Q (by right) ak.2 aA.2 Y q) q)
 | .a3 f x y,m+1,j,Q,aG,ak,aA,ap,q=>by
  have aG:x.ay+y.ay+1<=m+1:=aG
  exact H3 (au:=[x,y]) cK ak.1 rfl (λ _ Z=>nomatch Z.2) (H0 (au:=[x,y]) rfl (bw rfl) ap rfl (λ t aN j Q Y q=>by
    rcases eV.mp aN with e|aN
    .rw[e]at q ⊢
     exact s4 cK ok x m j Q (by right) ak.2.1 aA.2.1 Y q
    rw[ee.mp aN]at q ⊢
    exact s4 cK ok y m j Q (by right) ak.2.2 aA.2.2 Y q) q)
 | .dp f x y z,m+1,j,Q,aG,ak,aA,ap,q=>by
  have aG:x.ay+y.ay+z.ay+1<=m+1:=aG
  exact H3 (au:=[x,y,z]) cK ak.1 rfl (λ _ Z=>nomatch Z.2) (H0 (au:=[x,y,z]) rfl (bw rfl) ap rfl (λ t aN j Q Y q=>by
    rcases eV.mp aN with e|aN
    .rw[e]at q ⊢
     exact s4 cK ok x m j Q (by right) ak.2.1 aA.2.1 Y q
    rcases eV.mp aN with e|aN
    .rw[e]at q ⊢
     exact s4 cK ok y m j Q (by right) ak.2.2.1 aA.2.2.1 Y q
    rw[ee.mp aN]at q ⊢
    exact s4 cK ok z m j Q (by right) ak.2.2.2 aA.2.2.2 Y q) q)
end
section
variable{k:Nat}{j D:St}{Q:V->St->Prop}
theorem ah1{c:Nat}(h:py c=G):(c=39\/c=92)/\fB c=[92,c]\/c=10/\fB c=[92,110]\/c≠39/\c≠92/\c≠10/\fB c=[c]:=by
 unfold fB
 by_cases Y:c=39\/c=92
 .exact .inl ⟨Y,aQ Y⟩
 rw[aL Y]
 by_cases Z:c=10
 .subst Z;exact .inr (.inl ⟨rfl,rfl⟩)
 .unfold py at h
  rw[bW Z,z4,ia]at h
  have a:=of_decide_eq_true h.1
  have b:=of_decide_eq_true h.2
  rw[aL (by right),aL (by right)]
  exact .inr (.inr ⟨λ q=>Y (.inl q),λ q=>Y (.inr q),Z,rfl⟩)
theorem OU{s:ai}{a b:Nat}(h:a<=b)(az:b<=2^39)(ab:s.length<=ay)(q:Q (.str ((s.take b).drop a)) j):x2 (.str s) (.int (a:Int)) (.int (b:Int)) j Q:=by
 show b9 (if 0<=(a:Int)/\(a:Int)<=b/\(b:Int)<2^40/\s.length<=ay then B (V.str ((s.take (b:Int).toNat).drop (a:Int).toNat))else J) _
 rw[aQ ⟨k6 a,v3.mpr h,o5.mpr (dP az (by decide+kernel)),ab⟩,Ff,Ff]
 exact q
theorem amT{c d:Nat}:fu j .ne (.str [c]) (.str [d])=B (!decide (c=d)):=by
 show B (!decide (([c]:ai)=[d]))=_
 rw[kT]
theorem u5{pre r:ai}{c:Nat}:(pre++c::r)[pre.length]?=B c:=by
 rw[sr (dt _),H4];rfl
theorem ah2{pre r:ai}{c d:Nat}:(pre++c::d::r)[pre.length+1]?=B d:=by
 rw[sr (gc _ 1),sC];rfl
theorem ah3{pre r:ai}{c:Nat}:((pre++c::r).take (pre.length+2)).drop (pre.length+1)=r.take 1:=by
 rw[KV,Nat.add_sub_add_left]
 show((pre++c::r).drop (pre.length+1)).take 1=_
 rw[ah4,Fd (gc _ 1),sC];rfl
theorem ah5: ∀{c:Nat} {d:Nat},((c=39\/c=92)/\d=c)\/(c=10/\d=110)-> ∃i,vx [97,98,116,110,118,102,114,92,39] d 0=B i/\i<9/\([7,8,9,10,11,12,13,92,39]:ai)[i]?=B c:=by
 rintro c d (⟨rfl|rfl,rfl⟩|⟨rfl,rfl⟩)
 .exact ⟨8,rfl,by decide,rfl⟩
 .exact ⟨7,rfl,by decide,rfl⟩
 .exact ⟨3,rfl,by decide,rfl⟩
theorem ah6{s pre r:ai}{c:Nat}{m:Nat}{u:ai}{K:bM->ax->St->Prop}(ab:s=pre++(fB c++r))(ap:py c=G)(aO:r≠ [])(bb:s.length+u.length<ay)
  (q: ∀iS,s=iS++r->ep (dF (aD (aj k)) (match lR.body with| .cons _ (.cons (.gi c _) _)=>c|_=> .bad)) (aK (aD (aj k)) (match lR.body with| .cons _ (.cons (.gi _ b) _)=>b|_=> .nil)) m [B (.str s),B (.int (iS.length:Int)),B (.str (u++ [c])),J,J,J] j K):
  ep (dF (aD (aj k)) (match lR.body with| .cons _ (.cons (.gi c _) _)=>c|_=> .bad)) (aK (aD (aj k)) (match lR.body with| .cons _ (.cons (.gi _ b) _)=>b|_=> .nil)) (m+1) [B (.str s),B (.int (pre.length:Int)),B (.str u),J,J,J] j K:=by
 have er:s.length<=ay:=by omega
 have OV:ay<=2^39:=by decide+kernel
 have two: ∀d,fB c=[92,d]->((c=39\/c=92)/\d=c)\/(c=10/\d=110)->ep (dF (aD (aj k)) (match lR.body with| .cons _ (.cons (.gi c _) _)=>c|_=> .bad)) (aK (aD (aj k)) (match lR.body with| .cons _ (.cons (.gi _ b) _)=>b|_=> .nil)) (m+1) [B (.str s),B (.int (pre.length:Int)),B (.str u),J,J,J] j K:= λ d e hd=>by
  rw[e]at ab
  have ab:s=pre++92::d::r:=ab
  have cW:s[pre.length]?=B 92:=by rw[ab];exact u5
  have ao:s[pre.length+1]?=B d:=by rw[ab];exact ah2
  have aJ:decide (([d]:ai)=[120])=U:=by
   rw[kT]
   refine bW λ q=>?_
   subst q
   rcases hd with⟨h|h,h'⟩|⟨_,h⟩
   .rw[h]at h';cases h'
   .rw[h]at h';cases h'
   .cases h
  have db:(((pre++ [92,d]).length:Nat):Int)=(pre.length:Int)+2:=by rw[bK];rfl
  obtain⟨i,ah7,BI,ah8⟩:=ah5 hd
  have:=q (pre++ [92,d]) (by rw[ab,cM];rfl)
  rw[db]at this
  rw[j1]
  left
  refine hv (i:=pre.length) rfl cW er ?_;left
  refine hv (i:=pre.length) rfl cW er ?_;left
  refine hv (i:=pre.length) rfl cW er ?_;left
  refine hv (i:=pre.length+1) rfl ao er ?_;left
  rw[aJ];left
  refine hv (i:=pre.length+1) rfl ao er ?_;left
  show b9 (vx _ d 0) _
  rw[ah7];left
  refine hv (i:=i) rfl ah8 (cA (bw rfl)) ?_;left
  refine ik (by show u.length+1<=_;omega) ?_;left
  exact this
 rcases ah1 ap with⟨h,e⟩|⟨h,e⟩|⟨Y,Z,aE,e⟩
 .exact two c e (.inl ⟨h,rfl⟩)
 .exact two 110 e (.inr ⟨h,rfl⟩)
 .rw[e]at ab
  have ab:s=pre++c::r:=ab
  have cW:s[pre.length]?=B c:=by rw[ab];exact u5
  have db:(((pre++ [c]).length:Nat):Int)=(pre.length:Int)+1:=by rw[bK];rfl
  have:=q (pre++ [c]) (by rw[ab,cM];rfl)
  rw[db]at this
  have ib:decide (([c]:ai)=[39])=U:=by rw[kT];exact bW Y
  have i0:decide (([c]:ai)=[92])=U:=by rw[kT];exact bW Z
  rw[j1]
  left
  refine hv (i:=pre.length) rfl cW er ?_;left
  rw[ib];left
  refine hv (i:=pre.length) rfl cW er ?_;left
  rw[ib];left
  refine hv (i:=pre.length) rfl cW er ?_;left
  rw[i0];left
  refine hv (i:=pre.length) rfl cW er ?_;left
  refine ik (by show u.length+1<=_;omega) ?_;left
  exact this
theorem ah9{c:Nat}:fB c≠ []:=by
 unfold fB
 split;exact nofun
 split;exact nofun
 split;exact nofun
 exact nofun
theorem OW{s r:ai}{K:bM->ax->St->Prop}(bb:2*s.length<ay)(aO:r.head?≠B 39):
  ∀(v u pre:ai),s=pre++(v.flatMap fB++39::r)->v.all py=G->u.length<=pre.length->(∀p,s=p++39::r->K .next [B (.str s),B (.int (p.length:Int)),B (.str (u++v)),J,J,J] j)->
  ep (dF (aD (aj k)) (match lR.body with| .cons _ (.cons (.gi c _) _)=>c|_=> .bad)) (aK (aD (aj k)) (match lR.body with| .cons _ (.cons (.gi _ b) _)=>b|_=> .nil)) (v.length+1) [B (.str s),B (.int (pre.length:Int)),B (.str u),J,J,J] j K
 | [],u,pre,ab,bF,bE,q=>by
  have ab:s=pre++39::r:=ab
  have er:s.length<=ay:=by right
  have cW:s[pre.length]?=B 39:=by rw[ab];exact u5
  have:=q pre ab
  rw[dV]at this
  rw[jM,j1]
  left
  refine hv (i:=pre.length) rfl cW er ?_;left
  refine OU (a:=pre.length+1) (b:=pre.length+2) (jm _) ?_ er ?_
  .rw[ab,bK,el]at bb
   have OV:ay<=2^39:=by decide+kernel
   right
  rw[ab,ah3, <-ab]
  left
  have:decide (r.take 1=[39])=U:=bW λ q=>aO (by cases r with|nil=>cases q|cons a r=>injection q with q;rw[q];rfl)
  rw[this];left
  assumption
 |c::v,u,pre,ab,bF,bE,q=>by
  rw[jv,ia]at bF
  rw[wW,cM]at ab
  have ah:s.length=pre.length+((fB c).length+(v.flatMap fB++39::r).length):=by rw[ab,bK,bK]
  refine ah6 ab bF.1 (HD _ nofun) (by right) λ iS e=>?_
  have gB:s.length=iS.length+(v.flatMap fB++39::r).length:=by rw[e,bK]
  have aF:=uR.mpr (ah9 (c:=c))
  refine OW bb aO v (u++ [c]) iS e bF.2 (by rw[bK];show _+1<=_;right) λ p e=>?_
  rw[cM]
  exact q p e
theorem aia{s pre r v:ai}(ab:s=pre++(v.flatMap fB++39::r))(bF:v.all py=G)(aO:r.head?≠B 39)(bb:2*s.length<ay)(q:Q (.tup [.str v, .int ((s.length - r.length:Nat):Int)]) j):
  aj (k+1) 536 [.str s, .int (pre.length:Int)] j Q:=by
 refine afu ?_;left
 refine⟨v.length+1,OW bb aO v [] pre ab bF (eh _) λ p e=>?_⟩
 left
 have:((s.length - r.length:Nat):Int)=(p.length:Int)+1:=by rw[e,bK,el];right
 rw[this]at q
 exact q
end
noncomputable def ew:cz->ai
 | .nm _=> [110,97,109,101]
 | .gE _=> [113,110,97,109,101]
 | .it _=> [105,110,116]
 | .aX _=> [118,97,114]
 | .pu _=> [112,117,110,99,116]
 | .no=> [110,111,110,101]
noncomputable def eY:cz->V
 | .nm s=> .str s
 | .gE s=> .str s
 | .it n=> .int (n:Int)
 | .aX s=> .str s
 | .pu c=> .str [c]
 | .no=> .str []
noncomputable def dD(t:Tok):V:= .tup [.str (ew t.1),eY t.1, .bool t.2]
noncomputable def BJ:ai:=[97,98,99,100,101,102,103,104,105,106,107,108,109,110,111,112,113,114,115,116,117,118,119,120,121,122]
noncomputable def xp:ai:=(BJ++tE 65 26)++ [95,48,49,50,51,52,53,54,55,56,57]
theorem BK{l:ai}{f:Nat->Bool}(h: ∀c,c<128->l.contains c=f c)(Y: ∀c∈l,c<128)(Z: ∀c,f c=G->c<128)(c:Nat):l.contains c=f c:=by
 by_cases q:c<128
 .exact h c q
 .rw[v4]
  exact⟨λ e=>absurd (Y c (by simpa using e)) q,λ e=>absurd (Z c e) q⟩
theorem OX{c:Nat}(h:iH c=G):c<128:=by
 unfold iH at h;rw[ia,decide_eq_true_iff,decide_eq_true_iff]at h;right
theorem H5{c:Nat}(h:isDigit c=G):c<128:=by
 unfold isDigit at h;rw[ia,decide_eq_true_iff,decide_eq_true_iff]at h;right
theorem OY{c:Nat}(h:n6 c=G):c<128:=by
 unfold n6 at h;rw[ia,decide_eq_true_iff,decide_eq_true_iff]at h;right
theorem OZ{c:Nat}(h:eJ c=G):c<128:=by
 unfold eJ at h
 rw[jr,jr,jr,decide_eq_true_iff]at h
 rcases h with h|h|h|h
 .exact OX h
 .exact OY h
 .exact H5 h
 .right
theorem H6{c:Nat}(h:fg c=G):c<128:=by
 unfold fg at h;rw[ia,decide_eq_true_iff]at h;exact h.1
theorem aib: ∀c,BJ.contains c=iH c:=BK (by decide+kernel) (by decide) λ _=>OX
theorem re: ∀c,xp.contains c=eJ c:=BK (by decide+kernel) (by decide) λ _=>OZ
theorem xq: ∀c,signs.contains c=fg c:=BK (by decide+kernel) (by decide) λ _=>H6
theorem aic: ∀c,([48,49,50,51,52,53,54,55,56,57]:ai).contains c=isDigit c:=BK (by decide+kernel) (by decide) λ _=>H5
section
variable{k:Nat}{j D:St}{Q:V->St->Prop}{s:ai}{ag:Nat}
noncomputable def eK:a7×ef:=match oU.body with
 | .cons _ (.cons _ (.cons _ (.cons _ (.cons _ (.cons _ (.cons (.gi c b) _))))))=>(c,b)
 |_=>(.bad, .nil)
noncomputable def s5:a7×ef:=match eK.2 with
 | .cons _ (.cons _ (.cons _ (.cons (.c4 _ _ (.cons (.c4 _ (.cons _ (.cons (.gi c b) _)) _) _)) _)))=>(c,b)
 |_=>(.bad, .nil)
noncomputable def gw(s:ai)(ag:Nat)(p:Int)(g:Bool)(be bc bp bl:Option V):ax:=[B (.str s),B (.str BJ),B (.str xp),B (.str signs),B (.ref ag),B (.int p),B (.bool g),be,bc,bp,bl]
theorem aid{row:ai}{r:ai}{g:Bool}{be bc bp:Option V}{K:bM->ax->St->Prop}(er:s.length<=ay)(aO: ∀d,r.head?=B d->row.contains d=U): ∀(u pre:ai),s=pre++(u++r)->u.all row.contains=G->
  K .next (gw s ag ((pre++u).length:Nat) g be bc bp (B (.str row))) j->ep (dF (aD (aj k)) s5.1) (aK (aD (aj k)) s5.2) (u.length+1) (gw s ag (pre.length:Nat) g be bc bp (B (.str row))) j K:=by
 intro b0;induction b0 with
 |nil=>
  intro pre ab bE q
  rw[dV]at q
  unfold gw at q ⊢
  rw[jM,j1];unfold s5 eK
  left
  refine uK er ?_;left
  rw[iM]
  cases r with
  |nil=>
   have:decide (pre.length<s.length)=U:=bW (by rw[ab];simp)
   rw[this];left;exact q
  |cons c r=>
   have ab:s=pre++c::r:=ab
   have:decide (pre.length<s.length)=G:=ce (by rw[ab];simp)
   rw[this];left
   refine hv (i:=pre.length) rfl (by rw[ab];exact u5) er ?_;left
   rw[aO c rfl];left;exact q
 |cons c u aB=>
  intro pre ab bE q
  rw[jv,ia]at bE
  have gM:s=pre++c::(u++r):=ab
  have aB:=aB (pre++ [c]) (by rw[cM];exact ab) bE.2 (by rw[cM];exact q)
  have db:(((pre++ [c]).length:Nat):Int)=(pre.length:Int)+1:=by rw[bK];rfl
  rw[db]at aB
  unfold gw at aB ⊢
  rw[el,j1]
  unfold s5 eK at aB ⊢
  left
  refine uK er ?_;left
  rw[iM]
  have:decide (pre.length<s.length)=G:=ce (by rw[gM];simp)
  rw[this];left
  refine hv (i:=pre.length) rfl (by rw[gM];exact u5) er ?_;left
  rw[bE.1];left
  exact aB
end
section
variable{k:Nat}{j D:St}{Q:V->St->Prop}{s:ai}{ag:Nat}
theorem s6{tk:List Tok}{t:Tok}{v:V}(h:j ag=B (.list (tk.map dD)))(bF:v=dD t)(ah:tk.length<ay)(q:Q .none (j.set ag (.list ((tk++ [t]).map dD)))):mz ag 0 [v] j Q:=by
 rw[bF]
 refine oe h (by rw[c2];exact ah) ?_
 rw[fO]at q;exact q
theorem BL{c:Nat}{r pre:ai}{g:Bool}{be bc bp bl:Option V}{n:Nat}{K:bM->ax->St->Prop}{b:ef}(az:eK.2= .cons (.asg (.loc 7) (.sub (.loc 0) (.loc 5))) (.cons (.asg (.loc 8) (.loc 5)) b))(ab:s=pre++c::r)(er:s.length<=ay)
  (q:aK (aD (aj k)) b (gw s ag (pre.length:Nat) g (B (.str [c])) (B (.int (pre.length:Nat))) bp bl) j (gW (ep (dF (aD (aj k)) eK.1) (aK (aD (aj k)) eK.2) n) K)):
  ep (dF (aD (aj k)) eK.1) (aK (aD (aj k)) eK.2) (n+1) (gw s ag (pre.length:Nat) g be bc bp bl) j K:=by
 unfold gw at q ⊢
 rw[j1]
 generalize ep (dF (aD (aj k)) eK.1) (aK (aD (aj k)) eK.2) n=gZ at q ⊢
 rw[az,show eK.1= .cmp .lt (.loc 5) (.cq .len (.loc 0))from rfl]
 left
 refine uK er ?_;left
 rw[iM,show decide (pre.length<s.length)=G from ce (by rw[ab];simp)];left
 refine hv (i:=pre.length) rfl (by rw[ab];exact u5) er ?_;left
 exact q
noncomputable def amU(c:Nat):Bool:=([40,41,91,93,123,125,44,124]:ai).contains c
theorem g1{c d:Nat}(h:c≠d):decide (([c]:ai)=[d])=U:=by rw[kT];exact bW h
theorem aie{pre u r:ai}(ab:s=pre++(u++r)):((s.take (pre++u).length).drop pre.length)=u:=by
 rw[ab, <-cM,aif,List.drop_left]
theorem aig{c:Nat}{u r pre:ai}{g:Bool}{bp bl:Option V}{K:bM->ax->St->Prop}{row:ai}(ab:s=pre++(c::u++r))(er:s.length<=ay)(xr:c≠32)(xt:c≠39)
  (hw:(row=xp/\eJ c=G)\/(row=signs/\eJ c=U/\fg c=G)) (bE:(c::u).all row.contains=G) (aO: ∀d,r.head?=B d->row.contains d=U)
  (q:aK (aD (aj k)) (match eK.2 with| .cons _ (.cons _ (.cons _ (.cons (.c4 _ _ (.cons (.c4 _ (.cons _ (.cons _ (.cons _ b))) _) _)) _)))=>b|_=> .nil)
   (gw s ag ((pre++(c::u)).length:Nat) g (B (.str [c])) (B (.int (pre.length:Nat))) (B (.str (c::u))) (B (.str row))) j (d9 (aK (aD (aj k)) (match eK.2 with| .cons _ (.cons _ (.cons _ (.cons _ b)))=>b|_=> .nil)) K)):
  aK (aD (aj k)) (match eK.2 with| .cons _ (.cons _ b)=>b|_=> .nil) (gw s ag (pre.length:Nat) g (B (.str [c])) (B (.int (pre.length:Nat))) bp bl) j K:=by
 have s7:=re c
 have n2:=xq c
 have H7: ∀K,K .next (gw s ag ((pre++(c::u)).length:Nat) g (B (.str [c])) (B (.int (pre.length:Nat))) bp (B (.str row))) j-> ∃n,ep (dF (aD (aj k)) s5.1) (aK (aD (aj k)) s5.2) n (gw s ag (pre.length:Nat) g (B (.str [c])) (B (.int (pre.length:Nat))) bp (B (.str row))) j K:=
  λ K q=>⟨_,aid er aO (c::u) pre ab bE q⟩
 have OV:ay<=2^39:=by decide+kernel
 have ah:pre.length<=(pre++(c::u)).length:=by rw[bK];omega
 have eW:(pre++(c::u)).length<=s.length:=by rw[ab,bK,bK,bK];omega
 unfold gw s5 eK at H7
 unfold gw eK at q ⊢
 have fin:=OU (j:=j) (s:=s) (Q:= λ v j=>aK (aD (aj k)) (match oU.body with| .cons _ (.cons _ (.cons _ (.cons _ (.cons _ (.cons _ (.cons (.gi _ (.cons _ (.cons _ (.cons _ (.cons (.c4 _ _ (.cons (.c4 _ (.cons _ (.cons _ (.cons _ b))) _) _)) _))))) _))))))=>b|_=> .nil)
  [B (.str s),B (.str BJ),B (.str xp),B (.str signs),B (.ref ag),B (.int ((pre++(c::u)).length:Nat)),B (.bool g),B (.str [c]),B (.int (pre.length:Nat)),B v,B (.str row)] j (d9 (aK (aD (aj k)) (match oU.body with| .cons _ (.cons _ (.cons _ (.cons _ (.cons _ (.cons _ (.cons (.gi _ (.cons _ (.cons _ (.cons _ (.cons _ b))))) _))))))=>b|_=> .nil)) K)) ah (by omega) er (by rw[aie ab];exact q)
 left
 rw[g1 xr];left
 rw[g1 xt];left
 rw[s7]
 rcases hw with⟨rfl,h⟩|⟨rfl,h,h'⟩
 .rw[h];left
  rw[s7,h];left
  refine H7 _ ?_
  left
  exact fin
 .rw[h];left
  rw[n2,h'];left
  rw[s7,h];left
  refine H7 _ ?_
  left
  exact fin
end
section
variable{k:Nat}{j D:St}{Q:V->St->Prop}{s:ai}{ag:Nat}
noncomputable def kU:ef:=match eK.2 with| .cons _ (.cons _ b)=>b|_=> .nil
noncomputable def pM:ef:=match kU with| .cons _ (.cons _ b)=>b|_=> .nil
noncomputable def O0:ef:=match kU with| .cons _ (.cons (.c4 _ _ (.cons (.c4 _ (.cons _ (.cons _ (.cons _ b))) _) _)) _)=>b|_=> .nil
abbrev ko(k:Nat)(s:ai)(ag:Nat)(n:Nat)(p:Nat)(g:Bool)(be bc bp bl:Option V)(j:St)(K:bM->ax->St->Prop):Prop:=
 ep (dF (aD (aj (k+1))) eK.1) (aK (aD (aj (k+1))) eK.2) n (gw s ag p g be bc bp bl) j K
theorem H8{n p:Nat}{g:Bool}{be bc bp bl:Option V}{K:bM->ax->St->Prop}{e:ef}(aF:e= .cons (.asg (.loc 6) (.ea (.bool G))) .nil)(h:ko k s ag n p G be bc bp bl j K):
  aK (aD (aj (k+1))) e (gw s ag p g be bc bp bl) j (gW (ep (dF (aD (aj (k+1))) eK.1) (aK (aD (aj (k+1))) eK.2) n) K):=by
 unfold ko gw at h
 unfold gw
 generalize ep (dF (aD (aj (k+1))) eK.1) (aK (aD (aj (k+1))) eK.2) n=gZ at h ⊢
 rw[aF]
 left
 exact h
theorem aih{r pre:ai}{g:Bool}{be bc bp bl:Option V}{n:Nat}{K:bM->ax->St->Prop}(ab:s=pre++32::r)(er:s.length<=ay)(h: ∀be bc bp bl,ko k s ag n (pre++ [32]).length U be bc bp bl j K):ko k s ag (n+1) pre.length g be bc bp bl j K:=by
 refine BL (b:=kU) rfl ab er ?_
 have h:=h (B (.str [32])) (B (.int (pre.length:Nat))) bp bl
 have db:(((pre++ [32]).length:Nat):Int)=(pre.length:Int)+1:=by rw[bK];rfl
 unfold ko gw at h
 unfold gw
 rw[db]at h
 generalize ep (dF (aD (aj (k+1))) eK.1) (aK (aD (aj (k+1))) eK.2) n=gZ at h ⊢
 unfold kU eK
 left
 exact h
theorem aii{u r pre:ai}{g:Bool}{be bc bp bl:Option V}{n:Nat}{K:bM->ax->St->Prop}{tk:List Tok}(ab:s=pre++39::(u.flatMap fB++39::r))(bb:2*s.length<ay)(bE:u.all py=G)(aO:r.head?≠B 39)
  (bS:j ag=B (.list (tk.map dD))) (ah:tk.length<=s.length) (h: ∀be bc bp bl,ko k s ag n (s.length - r.length) G be bc bp bl (j.set ag (.list ((tk++ [(cz.gE u,g)]).map dD))) K):ko k s ag (n+1) pre.length g be bc bp bl j K:=by
 refine BL (b:=kU) rfl ab (by right) ?_
 have h:=H8 (g:=g) (e:=pM) rfl (h (B (.str [39])) (B (.int (pre.length:Nat))) (B (.str u)) bl)
 have gM:s=(pre++ [39])++(u.flatMap fB++39::r):=by rw[cM];exact ab
 have db:(((pre++ [39]).length:Nat):Int)=(pre.length:Int)+1:=by rw[bK];rfl
 unfold gw at h ⊢
 generalize gW (ep (dF (aD (aj (k+1))) eK.1) (aK (aD (aj (k+1))) eK.2) n) K=gZ at h ⊢
 rw[show kU=match kU with| .cons a (.cons b _)=> .cons a (.cons b pM)|_=> .nil from rfl]
 generalize pM=e at h ⊢
 unfold kU eK
 left
 rw[<-db]
 refine aia gM bE aO bb ?_;left
 refine kh ?_;left
 refine dH bS (by decide) ?_;left
 refine s6 (t:=(cz.gE u,g)) bS rfl (by right) ?_;left
 exact h
theorem aij{n:Nat}{K:V->Prop}(ah:(cY n).length<=100)(q:K (.int (n:Int))):b9 (gV j .int (.str (cY n))) K:=by
 have e:gV j .int (.str (cY n))=if cY n≠ []/\(cY n).length<=600/\(cY n).all (λ c=>48<=c&&c<=57)then B (.int ((cY n).foldl (λ n c=>n*10+(c - 48)) 0:Nat))else J:=rfl
 rw[e,aQ ⟨wK,by right,AZ n⟩,ael];exact q
def aik(c:Nat)(u:ai)(t:cz):Prop:=
 (iH c=G\/iH c=U/\fg c=G)/\t= .nm (c::u)\/(iH c=U/\fg c=U)/\(isDigit c=G/\(∃n,c::u=cY n/\(cY n).length<=100/\t= .it n)\/isDigit c=U/\t= .aX (c::u))
theorem BM{c:Nat}{u r pre:ai}{g:Bool}{be bc bp bl:Option V}{n:Nat}{K:bM->ax->St->Prop}{tk:List Tok}{t:cz}{row:ai}(ab:s=pre++(c::u++r))(er:s.length<ay)(xr:c≠32)(xt:c≠39)
  (hw:(row=xp/\eJ c=G)\/(row=signs/\eJ c=U/\fg c=G)) (bE:(c::u).all row.contains=G) (aO: ∀d,r.head?=B d->row.contains d=U) (aN:aik c u t)
  (bS:j ag=B (.list (tk.map dD))) (ah:tk.length<=s.length) (h: ∀be bc bp bl,ko k s ag n (pre++(c::u)).length G be bc bp bl (j.set ag (.list ((tk++ [(t,g)]).map dD))) K):ko k s ag (n+1) pre.length g be bc bp bl j K:=by
 refine BL (b:=kU) rfl ab (by right) ?_
 refine aig ab (by right) xr xt hw bE aO ?_
 have h:=H8 (g:=g) (e:=pM) rfl (h (B (.str [c])) (B (.int (pre.length:Nat))) (B (.str (c::u))) (B (.str row)))
 have s7:=aib c
 have n2:=xq c
 have O1:=aic c
 unfold gw at h ⊢
 show aK _ O0 _ _ (d9 (aK _ pM) _)
 generalize gW (ep (dF (aD (aj (k+1))) eK.1) (aK (aD (aj (k+1))) eK.2) n) K=gZ at h ⊢
 generalize pM=e at h ⊢
 unfold O0 kU eK
 have ah:tk.length<ay:=by right
 left
 rw[s7]
 rcases aN with⟨Y|⟨Y,Z⟩,aN⟩|⟨⟨Y,Z⟩,⟨aE,m,aN,aG,s8⟩|⟨aE,aN⟩⟩
 .rw[Y];left
  refine dH bS (by decide) ?_;left
  refine s6 (t:=(t,g)) bS (by rw[aN];rfl) ah ?_;left
  exact h
 .rw[Y];left
  rw[n2,Z];left
  refine dH bS (by decide) ?_;left
  refine s6 (t:=(t,g)) bS (by rw[aN];rfl) ah ?_;left
  exact h
 .rw[Y];left
  rw[n2,Z];left
  rw[O1,aE];left
  refine dH bS (by decide) ?_;left
  rw[aN]
  refine aij aG ?_;left
  refine s6 (t:=(t,g)) bS (by rw[s8];rfl) ah ?_;left
  rw[<-aN]
  exact h
 .rw[Y];left
  rw[n2,Z];left
  rw[O1,aE];left
  refine dH bS (by decide) ?_;left
  refine s6 (t:=(t,g)) bS (by rw[aN];rfl) ah ?_;left
  exact h
theorem O2{c:Nat}{r pre:ai}{g:Bool}{be bc bp bl:Option V}{n:Nat}{K:bM->ax->St->Prop}{tk:List Tok}{t:cz}(ab:s=pre++c::r)(er:s.length<ay)(xr:c≠32)(xt:c≠39)(mj:eJ c=U)(ail:fg c=U)
  (aN:([33,59]:ai).contains c=G/\t= .nm [c]\/([33,59]:ai).contains c=U/\t= .pu c)
  (bS:j ag=B (.list (tk.map dD))) (ah:tk.length<=s.length) (h: ∀be bc bp bl,ko k s ag n (pre++ [c]).length G be bc bp bl (j.set ag (.list ((tk++ [(t,g)]).map dD))) K):ko k s ag (n+1) pre.length g be bc bp bl j K:=by
 refine BL (b:=kU) rfl ab (by right) ?_
 have db:(((pre++ [c]).length:Nat):Int)=(pre.length:Int)+1:=by rw[bK];rfl
 have h:=H8 (g:=g) (e:=pM) rfl (h (B (.str [c])) (B (.int (pre.length:Nat))) bp bl)
 have s7:=re c
 have n2:=xq c
 unfold gw at h ⊢
 rw[db]at h
 generalize gW (ep (dF (aD (aj (k+1))) eK.1) (aK (aD (aj (k+1))) eK.2) n) K=gZ at h ⊢
 rw[show kU=match kU with| .cons a (.cons b _)=> .cons a (.cons b pM)|_=> .nil from rfl]
 generalize pM=e at h ⊢
 unfold kU eK
 have ah:tk.length<ay:=by right
 left
 rw[g1 xr];left
 rw[g1 xt];left
 rw[s7,mj];left
 rw[n2,ail];left
 rcases aN with⟨Y,aN⟩|⟨Y,aN⟩
 .rw[Y];left
  refine dH bS (by decide) ?_;left
  refine s6 (t:=(t,g)) bS (by rw[aN];rfl) ah ?_;left
  exact h
 .rw[Y];left
  refine dH bS (by decide) ?_;left
  refine s6 (t:=(t,g)) bS (by rw[aN];rfl) ah ?_;left
  exact h
end
section
variable{k:Nat}{j D:St}{Q:V->St->Prop}{s:ai}{ag:Nat}
theorem aim: ∀c∈([40,41,91,93,123,125,44,124]:ai),c≠32/\c≠39/\eJ c=U/\fg c=U/\([33,59]:ai).contains c=U:=by decide
theorem ain: ∀c,c=33\/c=59->c≠32/\c≠39/\eJ c=U/\fg c=U/\([33,59]:ai).contains c=G:=by
 rintro c (rfl|rfl)<;>decide
theorem xu: ∀c,eJ c=G->c≠32/\c≠39/\fg c=U:= λ c h=>by
 have: ∀c,c<128->eJ c=G->c≠32/\c≠39/\fg c=U:=by decide+kernel
 exact this c (OZ h) h
theorem O3: ∀c,fg c=G->c≠32/\c≠39/\eJ c=U/\iH c=U:= λ c h=>by
 have: ∀c,c<128->fg c=G->c≠32/\c≠39/\eJ c=U/\iH c=U:=by decide+kernel
 exact this c (H6 h) h
theorem BN: ∀c,isDigit c=G->eJ c=G/\iH c=U:= λ c h=>by
 have: ∀c,c<128->isDigit c=G->eJ c=G/\iH c=U:=by decide+kernel
 exact this c (H5 h) h
theorem O4: ∀c,(n6 c||decide (c=95))=G->eJ c=G/\iH c=U/\isDigit c=U:= λ c h=>by
 have: ∀c,c<128->(n6 c||decide (c=95))=G->eJ c=G/\iH c=U/\isDigit c=U:=by decide+kernel
 refine this c ?_ h
 rw[jr,decide_eq_true_iff]at h
 exact h.elim OY λ q=>by right
theorem BO{c:Nat}(h:iH c=G):eJ c=G:=by unfold eJ;rw[h];rfl
theorem BP{row:ai}{f:Nat->Bool}(h: ∀c,row.contains c=f c){u:ai}(e:u.all f=G):u.all row.contains=G:=by
 rw[show row.contains=f from funext h];exact e
theorem H9(n:Nat): ∃c u,cY n=c::u/\isDigit c=G/\u.all isDigit=G:=by
 have h:=AZ n
 obtain⟨c,u,e⟩:=uS (wK (n:=n))
 rw[e,jv,ia]at h
 exact⟨c,u,e,h⟩
def BQ(k:Nat)(s:ai)(ag:Nat)(K:bM->ax->St->Prop)(g:Bool)(r:ai)(au:List Tok):Prop:=
 ∀(pre:ai) (tk:List Tok) (j:St),s=pre++r->j ag=B (.list (tk.map dD))->tk.length<=pre.length->
  (∀D p ht be bc bp bl,D ag=B (.list ((tk++au).map dD))->tk.length+au.length<=s.length->bP (λ b=>b=ag) j D->K .next (gw s ag p ht be bc bp bl) D)-> ∃n, ∀be bc bp bl,ko k s ag n pre.length g be bc bp bl j K
theorem s9{K:bM->ax->St->Prop}{g:Bool}{r w:ai}{au:List Tok}{t:Tok}(hw:w≠ [])(aB:BQ k s ag K G r au)
  (st: ∀(pre:ai) (tk:List Tok) (j:St) (n:Nat),s=pre++(w++r)->j ag=B (.list (tk.map dD))->tk.length<=s.length->(∀be bc bp bl,ko k s ag n (pre++w).length G be bc bp bl (j.set ag (.list ((tk++ [t]).map dD))) K)-> ∀be bc bp bl,ko k s ag (n+1) pre.length g be bc bp bl j K):
  BQ k s ag K g (w++r) (t::au):= λ pre tk j ab bS ah q=>by
 have aT:=uR.mpr hw
 have eW:s.length=pre.length+(w.length+r.length):=by rw[ab,bK,bK]
 obtain⟨n,h⟩:=aB (pre++w) (tk++ [t]) (j.set ag (.list ((tk++ [t]).map dD))) (by rw[cM];exact ab) aY (by rw[bK,bK];show tk.length+1<=_;right) λ D p ht be bc bp bl Y Z aE=>by
  rw[cM]at Y
  rw[bK]at Z
  exact q D p ht be bc bp bl Y (by rw[el];have:tk.length+1+au.length<=s.length:=Z;right) (bP.one.trans aE)
 exact⟨n+1,st pre tk j n ab bS (by right) h⟩
theorem aio(bb:2*s.length<ay){K:bM->ax->St->Prop}{g:Bool}{r:ai}{au:List Tok}(x:gr g r au):BQ k s ag K g r au:=
 gr.rec (motive:= λ g r au _=>BQ k s ag K g r au)
 (λ {g} pre tk j ab bS ah q=>⟨1,λ be bc bp bl=>by
   rw[dV]at ab q
   have q:=q j pre.length g be bc bp bl bS (by rw[ab];exact ah) .refl
   unfold gw at q
   unfold ko gw
   rw[j1,show eK.1= .cmp .lt (.loc 5) (.cq .len (.loc 0))from rfl]
   generalize eK.2=e at*
   left
   refine uK (by right) ?_;left
   rw[iM,show decide (pre.length<s.length)=U from bW (by rw[ab];exact vV _)];left
   exact q⟩)
 (λ {g r au} _ h pre tk j ab bS ah q=>by
   obtain⟨n,h⟩:=h (pre++ [32]) tk j (by rw[cM];exact ab) bS (by rw[bK];right) q
   exact⟨n+1,λ be bc bp bl=>aih ab (by right) h⟩)
 (λ {g u r au} bE aO _ aB=>by
   have:=s9 (K:=K) (g:=g) (w:=39::(u.flatMap fB++ [39])) (t:=(.gE u,g)) nofun aB λ pre tk j n ab bS ah h be bc bp bl=>by
    have gM:s=pre++39::(u.flatMap fB++39::r):=by rw[ab,jz,cM];rfl
    refine aii gM bb bE aO bS ah ?_
    have e:s.length - r.length=(pre++39::(u.flatMap fB++ [39])).length:=by
     rw[ab, <-cM,bK,BR]
    rw[e];exact h
   rw[jz,cM]at this
   exact this)
 (λ {g c u r au} ap bE aO _ aB=>
   have aI:=xu c (BO ap)
   s9 nofun aB λ pre tk j n ab bS ah h be bc bp bl=>
    BM ab (by right) aI.1 aI.2.1 (.inl ⟨rfl,BO ap⟩) (BP re (by rw[jv,BO ap,bE];rfl)) (λ d hd=>(re d).trans (aO d hd)) (.inl ⟨.inl ap,rfl⟩) bS ah h)
 (λ {g m r au} aG aO _ aB=>by
   obtain⟨c,u,e,ap,bE⟩:=H9 m
   rw[e]
   have hd:=BN c ap
   have aI:=xu c hd.1
   exact s9 nofun aB λ pre tk j n ab bS ah h be bc bp bl=>
    BM ab (by right) aI.1 aI.2.1 (.inl ⟨rfl,hd.1⟩) (BP re (by rw[jv,hd.1,sM];exact hh.mpr λ d h=>(BN d (hh.mp bE d h)).1)) (λ d hd=>(re d).trans (aO d hd))
     (.inr ⟨⟨hd.2,aI.2.2⟩, .inl ⟨ap,m,e.symm,aG,rfl⟩⟩) bS ah h)
 (λ {g c u r au} ap bE aO _ aB=>
   have bF:=O4 c ap
   have aI:=xu c bF.1
   s9 nofun aB λ pre tk j n ab bS ah h be bc bp bl=>
    BM ab (by right) aI.1 aI.2.1 (.inl ⟨rfl,bF.1⟩) (BP re (by rw[jv,bF.1,bE];rfl)) (λ d hd=>(re d).trans (aO d hd)) (.inr ⟨⟨bF.2.1,aI.2.2⟩, .inr ⟨bF.2.2,rfl⟩⟩) bS ah h)
 (λ {g c u r au} bE aO _ aB=>
   have ap:fg c=G:=by rw[jv,ia]at bE;exact bE.1
   have aI:=O3 c ap
   s9 nofun aB λ pre tk j n ab bS ah h be bc bp bl=>
    BM ab (by right) aI.1 aI.2.1 (.inr ⟨rfl,aI.2.2.1,ap⟩) (BP xq bE) (λ d hd=>(xq d).trans (aO d hd)) (.inl ⟨.inr ⟨aI.2.2.2,ap⟩,rfl⟩) bS ah h)
 (λ {g c r au} ap _ aB=>
   have aI:=ain c ap
   s9 (w:=[c]) nofun aB λ pre tk j n ab bS ah h be bc bp bl=>O2 ab (by right) aI.1 aI.2.1 aI.2.2.1 aI.2.2.2.1 (.inl ⟨aI.2.2.2.2,rfl⟩) bS ah h)
 (λ {g c r au} ap _ aB=>
   have aI:=aim c ap
   s9 (w:=[c]) nofun aB λ pre tk j n ab bS ah h be bc bp bl=>O2 ab (by right) aI.1 aI.2.1 aI.2.2.1 aI.2.2.2.1 (.inr ⟨aI.2.2.2.2,rfl⟩) bS ah h) x
theorem aip{au:List Tok}(bb:2*s.length+10<ay)(h:gr U s au)(q: ∀c D,j c=J->D c=B (.list ((au++ [hH,hH]).map dD))->aR et j D->Q (.ref c) D):aj (k+2) 543 [.str s] j Q:=by
 refine afv ?_
 have go: ∀(ag:Nat) (j:St) (K:bM->ax->St->Prop),j ag=B (.list [])->(∀D p ht be bc bp bl,D ag=B (.list (au.map dD))->au.length<=s.length->bP (λ b=>b=ag) j D->K .next (gw s ag p ht be bc bp bl) D)->
   ∃n,ep (dF (aD (aj (k+1))) eK.1) (aK (aD (aj (k+1))) eK.2) n (gw s ag (0:Nat) U J J J J) j K:= λ ag j K bS q=>by
  obtain⟨n,h⟩:=aio (s:=s) (by right) h [] [] j rfl bS (dt _) λ D p ht be bc bp bl Y Z aE=>q D p ht be bc bp bl Y (by rw[jM,mN]at Z;exact Z) aE
  exact⟨n,h J J J J⟩
 unfold gw at go
 rw[show oU.body=match oU.body with| .cons a (.cons b (.cons c (.cons d (.cons e (.cons f (.cons _ r))))))=> .cons a (.cons b (.cons c (.cons d (.cons e (.cons f (.cons (.gi eK.1 eK.2) r))))))|_=> .nil from rfl]
 generalize eK.1=c at*
 generalize eK.2=b at*
 left
 refine⟨rfl,?_⟩
 left
 refine ik (cA (by decide)) ?_;left
 refine ik (cA (by decide)) ?_;left
 intro ag bS
 left
 refine go ag _ _ aY λ D p ht be bc bp bl Y Z aE=>?_
 left
 intro a3 km
 have pN:=a0 Y km
 refine Hf (l:=au.map dD) (m:=[hH,hH].map dD) (aC pN Y) aY ?_ λ dp sU=>?_
 .rw[c2];show au.length+2<=ay;right
 left
 have ao:aR et j D:= λ b w az _=>(aE b (a0 az bS)).trans (aC (a0 az bS) az)
 have aH:=ao.trans (aR.new (bG:=et) (o:= .list ([hH,hH].map dD)) km)
 have cG:=aH.trans (aR.new (bG:=et) (o:= .list (au.map dD++ [hH,hH].map dD)) sU)
 exact q dp _ (fresh aH id sU) (by rw[fO];exact aY) cG
end
noncomputable def df(C:bi):a8->V
 | .t t=> .tup [.str [116,101,114,109],C.enc t]
 | .nm s=> .tup [.str [110,97,109,101], .str s]
noncomputable def nk(C:bi)(e:T×Nat):V:= .tup [C.enc e.1, .int (e.2:Int)]
noncomputable def u6(C:bi):Option (T×Nat)->V
 |none=> .none
 |some e=>nk C e
abbrev i9:=List ((Nat×Nat)×(T×Nat))
noncomputable def kp(C:bi)(l:i9):List (a2×V):=l.map λ e=>(a2.p (e.1.1:Int) (e.1.2:Int),nk C e.2)
theorem BS{C:bi}{a b:Int}: ∀{l:i9},eg (kp C l) (.p a b)=G
 | []=>rfl
 |_::_=>rfl
theorem xv{C:bi}{x y:Nat}: ∀{l:i9},dJ (kp C l) (.p (x:Int) (y:Int))=(l.lookup (x,y)).map (nk C)
 | []=>rfl
 |((m,n),e)::l=>by
  show dJ ((a2.p (m:Int) (n:Int),nk C e)::kp C l) _=_
  rw[sz,j6]
  by_cases h:(x,y)=(m,n)
  .rw[beq_iff_eq.mpr h,aQ (by injection h with Y Z;rw[Y,Z])];rfl
  .rw[beq_eq_false_iff_ne.mpr h,aL λ q=>h (by injection q with kF hQ;rw[pD.mp kF,pD.mp hQ])];exact xv
theorem u7{x y:Nat}{e:T×Nat}: ∀{l:i9},l.lookup (x,y)=B e->((x,y),e)∈l
 | [],h=>nomatch h
 |(z,dL)::l,h=>by
  rw[j6]at h
  by_cases q:(x,y)=z
  .rw[beq_iff_eq.mpr q]at h;cases h;rw[q];exact eT ..
  .rw[beq_eq_false_iff_ne.mpr q]at h;exact f0 _ (u7 h)
structure kV(p i o:Nat)(I:bY)(j:St):Prop where
 p:j p=B (.dict (eB I.pre))
 i:j i=B (.dict (eB I.inf))
 o:j o=B (.dict (eB I.post))
 ok:I.Ok
theorem kV.keep{p i o:Nat}{I:bY}{j D:St}{bG:Nat->Prop}(h:kV p i o I j)(e:aR bG j D)(m: ¬bG p/\ ¬bG i/\ ¬bG o):kV p i o I D:=
 ⟨e _ _ h.p m.1,e _ _ h.i m.2.1,e _ _ h.o m.2.2,h.ok⟩
section
variable{k:Nat}{j D:St}{Q:V->St->Prop}{A:cJ}{C aw:bi}{I:bY}{p i o cP cC a b:Nat}{ps:List a8}{l:i9}
theorem u8{t:ai}(h:nd t\/iP t\/mh t):t≠ []/\t.length<=100:=by
 have:t∈([[102,120],[102,121],[120,102,120],[120,102,121],[121,102,120],[120,102],[121,102]]:List ai):=by
  rcases h with h|h|h
  .exact lu [[120,102,120],[120,102,121],[121,102,120],[120,102],[121,102]] h
  .exact oj [[102,120],[102,121]] (lu [[120,102],[121,102]] h)
  .exact oj [[102,120],[102,121],[120,102,120],[120,102,121],[121,102,120]] h
 have q: ∀t∈([[102,120],[102,121],[120,102,120],[120,102,121],[121,102,120],[120,102],[121,102]]:List ai),t≠ []/\t.length<=100:=by decide
 exact q t this
structure f1(p i o cP cC:Nat)(A:cJ)(C:bi)(I:bY)(ps:List a8)(l:i9)(j:St):Prop where
 au:kV p i o I j
 b4:c9 A C j
 oC:j cP=B (.list (ps.map (df C)))
 ja:j cC=B (.dict (kp C l))
 f5: ∀e∈l,C.cv e.2.1
 un: ∀s,a8.nm s∈ps->s∈di
 ln:ps.length<=500
 nm: ¬A.mut p/\ ¬A.mut i/\ ¬A.mut o/\ ¬A.mut cP/\ ¬A.mut cC
theorem f1.part{aU:Nat}{q:a8}{K:V->Prop}(h:f1 p i o cP cC A C I ps l j)(e:ps[aU]?=B q)(t:K (df C q)):b9 (dU j (.ref cP) (.int (aU:Int))) K:=
 fD h.oC rfl (by rw[jq,e];rfl) (cA (by rw[c2];exact ca h.ln (by decide))) t
theorem f1.look{x y:Nat}(h:f1 p i o cP cC A C I ps l j):kw j (.tup [.int (x:Int), .int (y:Int)]) (.ref cC)=B (l.lookup (x,y)).isSome:=by
 rw[in_dict h.ja rfl BS]
 show B (dJ (kp C l) (.p (x:Int) (y:Int))).isSome=_
 rw[xv,JX]
theorem f1.has{x y:Nat}{K:Bool->Prop}(h:f1 p i o cP cC A C I ps l j)(q:K (l.lookup (x,y)).isSome):b9 (fu j .isin (.tup [.int (x:Int), .int (y:Int)]) (.ref cC)) K:=by
 show b9 (kw j (.tup [.int (x:Int), .int (y:Int)]) (.ref cC)) K
 rw[h.look];exact q
theorem f1.get{x y:Nat}{e:Mine.T×Nat}{K:V->Prop}(h:f1 p i o cP cC A C I ps l j)(aF:l.lookup (x,y)=B e)(q:K (.tup [C.enc e.1, .int (e.2:Int)])):b9 (dU j (.ref cC) (.tup [.int (x:Int), .int (y:Int)])) K:=
 pA h.ja (key:= .p (x:Int) (y:Int)) rfl BS (by rw[xv,aF];rfl) q
theorem f1.keep(h:f1 p i o cP cC A C I ps l j)(le:C.le aw)(gJ:c9 A aw D)(s:bP A.mut j D)(gq: ∀t,a8.t t∈ps->C.cv t):f1 p i o cP cC A aw I ps l D:=by
 have ao:kp aw l=kp C l:=q0 λ e aF=>by unfold nk;rw[le.enc (h.f5 e aF)]
 have aH:ps.map (df aw)=ps.map (df C):=q0 λ q co=>by
  cases q with
  |t t=>show V.tup [.str [116,101,114,109],aw.enc t]=_;rw[le.enc (gq t co)];rfl
  |nm s=>rfl
 exact⟨h.au.keep s.ex ⟨h.nm.1,h.nm.2.1,h.nm.2.2.1⟩,gJ,by rw[aH];exact(s _ h.nm.2.2.2.1).trans h.oC,by rw[ao];exact(s _ h.nm.2.2.2.2).trans h.ja,λ e aF=>le.cv (h.f5 e aF),h.un,h.ln,h.nm⟩
end
section
variable{k:Nat}{j D:St}{Q:V->St->Prop}{A:cJ}{C aw:bi}{I:bY}{p i o cP cC a b:Nat}{ps:List a8}{l:i9}
def rf(A:cJ)(C:bi)(r:Option (T×Nat))(Q:V->St->Prop)(j:St):Prop:=
 ∀aw D,C.le aw->c9 A aw D->(∀e,r=B e->aw.cv e.1)->bP A.mut j D->Q (u6 aw r) D
theorem rf.no(h:f1 p i o cP cC A C I ps l j)(q:rf A C J Q j):Q .none j:=q C j .refl h.b4 nofun .refl
noncomputable def mr(A:cJ)(p i o cP cC a b:Nat)(bp bl bU ck ch ct cp cm ci:Option V):ax:=
 [B (.ref A.x),B (.tup [.ref p, .ref i, .ref o]),B (.ref cP),B (.ref cC),B (.int (a:Int)),B (.int (b:Int)),B (.ref p),B (.ref i),B (.ref o),bp,bl,bU,ck,ch,ct,cp,cm,ci]
theorem aiq{bp bl bU ck ch ct cp cm ci:Option V}(h:f1 p i o cP cC A C I ps l j)(k9:a+2<=b)(az:b<=ps.length)(ah:l.lookup (a,b - 1)=d1 I (d7 ps a (b - 1)))(q:rf A C (ls I (d1 I) (d7 ps a b)) Q j):
  aK (aD (aj (k+2))) (match oS.body with| .cons _ (.cons _ (.cons _ (.cons _ r)))=>r|_=> .nil) (mr A p i o cP cC a b bp bl bU ck ch ct cp cm ci) j (cr Q):=by
 obtain⟨x,aJ⟩: ∃x,ps[b - 1]?=B x:=⟨_,hi (by right)⟩
 obtain⟨eX,fk⟩:=aew (a:=a) aJ (by right)
 have cd:(b:Int) - 1=((b - 1:Nat):Int):=by right
 unfold mr
 left
 rw[cd]
 refine h.part aJ ?_
 cases x with
 |t t=>
  rw[Nm eX]at q
  unfold df
  left
  rw[cd]
  refine h.part aJ ?_
  unfold df
  left
  exact q.no h
 |nm f=>
  rw[G4 eX,fk]at q
  unfold df
  left
  rw[cd]
  refine h.part aJ ?_
  unfold df
  left
  refine og h.au.o rfl iO ?_
  rw[kQ,om]
  cases aF:I.post.lookup f with
  |none=>
   rw[aF]at q
   left
   exact q.no h
  |some e=>
   rw[show(B e).isSome=G from rfl]
   left
   rw[cd]
   refine h.has ?_
   rw[ah]
   cases aO:d1 I (d7 ps a (b - 1))with
   |none=>
    rw[aO,Nn]at q
    left
    exact q.no h
   |some r=>
    obtain⟨u,n⟩:=r
    rw[aF,aO]at q
    rw[pz]at q
    have ah:l.lookup (a,b - 1)=B (u,n):=ah.trans aO
    have ak:C.cv u:=h.f5 _ (u7 ah)
    obtain⟨bs,dq,nU⟩:=h.au.ok.post f e aF
    have hd:dJ (eB I.post) (.s f)=B (fC e):=by rw[kQ,aF];rfl
    rw[show(B (u,n)).isSome=G from rfl]
    left
    rw[cd]
    refine h.get ah ?_
    left
    refine kh ?_;left
    refine pA h.au.o rfl iO hd ?_;left
    refine HN dq (u8 (.inr (.inr bs))).1 (u8 (.inr (.inr bs))).2 ?_;left
    rw[m7]
    by_cases aq:n<=d6 e
    .rw[aQ aq]at q
     rw[ce aq];left
     refine cc h.b4.x rfl rfl (f:=77) rfl ?_;left
     refine ol (n:=1) h.b4 (h.un f (o7 aJ)) (by decide) λ aw aP le cq m bt=>?_
     left
     refine pA ((bt _ h.nm.2.2.1).trans h.au.o) rfl iO hd ?_
     left
     have:=q aw aP le cq (λ e aF=>by injection aF with aF;rw[<-aF];exact⟨m,le.cv ak⟩) bt
     rw[<-le.enc ak]
     exact this
    .rw[aL aq]at q
     rw[bW aq];left
     exact q.no h
end
theorem Ia{x y:Nat}(h:y<=x):hb (x:Int) (y:Int)=[]:=by
 unfold hb;rw[show((y:Int) - x).toNat=0 from Int.toNat_eq_zero.mpr (Int.sub_nonpos_of_le (v3.mpr h))];rfl
theorem Ib{x y:Nat}(h:x<y):hb (x:Int) (y:Int)= .int (x:Int)::hb ((x+1:Nat):Int) (y:Int):=by
 unfold hb
 rw[show((y:Int) - x).toNat=((y:Int) - (x+1:Nat)).toNat+1 by rw[air,air];exact(Nk (Nl h)).symm,List.range_succ_eq_map,h5,H1]
 refine List.cons_eq_cons.mpr ⟨by simp,q0 λ n _=>?_⟩
 show V.int ((x:Int)+((n+1:Nat):Int))=V.int (((x+1:Nat):Int)+(n:Int))
 exact congrArg (λ n:Nat=>V.int n) (show x+(n+1)=x+1+n by rw[pl,hS 1])
section
variable{k:Nat}{j D:St}{Q:V->St->Prop}{A:cJ}{C aw:bi}{I:bY}{p i o cP cC a b:Nat}{ps:List a8}{l:i9}
noncomputable def rg:ef:=match oS.body with| .cons _ (.cons _ (.cons _ (.cons (.hy _ _ b) _)))=>b|_=> .nil
noncomputable def u9:ef:=match oS.body with| .cons _ (.cons _ (.cons _ (.cons _ r)))=>r|_=> .nil
theorem ais{m:Nat}{bp bl bU ch ct cp cm ci:Option V}{K:bM->ax->St->Prop}(h:f1 p i o cP cC A C I ps l j)(aG:a<m)(amV:m+1<b)(az:b<=ps.length)
  (Y:l.lookup (a,m)=d1 I (d7 ps a m)) (Z:l.lookup (m+1,b)=d1 I (d7 ps (m+1) b))
  (next: ∀bp bl bU ck ch ct cp cm ci,(ps[m]?=B x->match x with| .nm f=>kP f (I.inf.lookup f) (d1 I (d7 ps a m)) (d1 I (d7 ps (m+1) b))=J|_=>True)->K .next (mr A p i o cP cC a b bp bl bU ck ch ct cp cm ci) j)
  (ret: ∀f aw D e E,ps[m]?=B (.nm f)->kP f (I.inf.lookup f) (d1 I (d7 ps a m)) (d1 I (d7 ps (m+1) b))=B e->C.le aw->c9 A aw D->aw.cv e.1->bP A.mut j D->K (.ret (nk aw e)) E D)
  (aJ:ps[m]?=B x):
  aK (aD (aj (k+2))) rg (mr A p i o cP cC a b bp bl bU (B (.int (m:Int))) ch ct cp cm ci) j K:=by
 have j8:(m:Int)+1=((m+1:Nat):Int):=rfl
 unfold mr rg
 left
 refine h.part aJ ?_
 cases x with
 |t t=>
  unfold df
  left
  refine h.part aJ ?_
  unfold df
  left
  exact next _ _ _ _ _ _ _ _ _ λ _=>trivial
 |nm f=>
  have pO:kP f (I.inf.lookup f) (d1 I (d7 ps a m)) (d1 I (d7 ps (m+1) b))=J-> ∀bp bl bU ck ch ct cp cm ci,K .next (mr A p i o cP cC a b bp bl bU ck ch ct cp cm ci) j:= λ e bp bl bU ck ch ct cp cm ci=>next _ _ _ _ _ _ _ _ _ λ _=>e
  unfold df
  left
  refine h.part aJ ?_
  unfold df
  left
  refine og h.au.i rfl iO ?_
  rw[kQ,om]
  cases aF:I.inf.lookup f with
  |none=>
   rw[aF]at pO
   left
   exact pO rfl _ _ _ _ _ _ _ _ _
  |some e=>
   rw[show(B e).isSome=G from rfl]
   left
   refine h.has ?_
   rw[Y]
   cases ta:d1 I (d7 ps a m)with
   |none=>
    rw[ta]at pO
    left
    exact pO aex _ _ _ _ _ _ _ _ _
   |some a5=>
    rw[show(B a5).isSome=G from rfl]
    left
    rw[j8]
    refine h.has ?_
    rw[Z]
    cases xw:d1 I (d7 ps (m+1) b)with
    |none=>
     rw[xw]at pO
     left
     exact pO aey _ _ _ _ _ _ _ _ _
    |some c7=>
     obtain⟨u,ib⟩:=a5
     obtain⟨v,i0⟩:=c7
     rw[aF,ta,xw]at pO
     have ret:= λ aw D=>ret f aw D (.a3 f u v,e.1)
     rw[aF,ta,xw]at ret
     have Y:=Y.trans ta
     have Z:=Z.trans xw
     have ed:C.cv u:=h.f5 _ (u7 Y)
     have eQ:C.cv v:=h.f5 _ (u7 Z)
     obtain⟨bs,dq,nU⟩:=h.au.ok.inf f e aF
     have hd:dJ (eB I.inf) (.s f)=B (fC e):=by rw[kQ,aF];rfl
     rw[show(B (v,i0)).isSome=G from rfl]
     left
     refine h.get Y ?_
     left
     refine kh ?_;left
     rw[j8]
     refine h.get Z ?_
     left
     refine kh ?_;left
     refine pA h.au.i rfl iO hd ?_;left
     refine HN dq (u8 (.inr (.inl bs))).1 (u8 (.inr (.inl bs))).2 ?_;left
     rw[m7]
     by_cases bf:ib<=d6 e
     .rw[ce bf];left
      rw[m7]
      by_cases a3:i0<=dh e
      .rw[ce a3];left
       refine cc h.b4.x rfl rfl (f:=77) rfl ?_;left
       refine ol (n:=2) h.b4 (h.un f (o7 aJ)) (by decide) λ aw aP le cq aA bt=>?_
       left
       refine pA ((bt _ h.nm.2.1).trans h.au.i) rfl iO hd ?_
       left
       rw[<-le.enc ed, <-le.enc eQ]
       exact ret aw aP _ aJ (aQ ⟨bf,a3⟩) le cq ⟨aA,le.cv ed,le.cv eQ⟩ bt
      .rw[bW a3];left
       exact pO (aL λ q=>a3 q.2) _ _ _ _ _ _ _ _ _
     .rw[bW bf];left
      exact pO (aL λ q=>bf q.1) _ _ _ _ _ _ _ _ _
theorem ait(h:f1 p i o cP cC A C I ps l j)(az:b<=ps.length)(ah: ∀x y,a<=x->x<y->y<=b->y - x<b - a->l.lookup (x,y)=d1 I (d7 ps x y)){R:Option (Mine.T×Nat)}{K:bM->ax->St->Prop}
  (ret: ∀aw D e E,C.le aw->c9 A aw D->aw.cv e.1->bP A.mut j D->rf A C (B e) Q j->K (.ret (nk aw e)) E D)
  (next: ∀bp bl bU ck ch ct cp cm ci,rf A C R Q j->K .next (mr A p i o cP cC a b bp bl bU ck ch ct cp cm ci) j): ∀(n m:Nat) (bp bl bU ck ch ct cp cm ci:Option V),0<m->m+n+1=b - a->rf A C ((hu I (d1 I) (d7 ps a b) n m).or R) Q j->
   hz 12 (aK (aD (aj (k+2))) rg) (λ _=>True) (hb ((a+m:Nat):Int) ((b - 1:Nat):Int)) (mr A p i o cP cC a b bp bl bU ck ch ct cp cm ci) j K:=by
 intro b0;induction b0 with
 |zero=>
  intro m bp bl bU ck ch ct cp cm ci bX aG q
  rw[Ia (by right)]
  exact⟨trivial,next _ _ _ _ _ _ _ _ _ q⟩
 |succ n aB=>
  intro m bp bl bU ck ch ct cp cm ci bX aG q
  rw[Ib (by right),kE]
  obtain⟨x,aJ⟩: ∃x,ps[a+m]?=B x:=⟨_,hi (by right)⟩
  have Ic:(d7 ps a b)[m]?=B x:=(Ng (by right)).trans aJ
  refine⟨trivial,ais (x:=x) h (by right) (by right) az (ah _ _ (by right) (by right) (by right) (by right)) (ah _ _ (by right) (by right) (by right) (by right)) (λ bp bl bU ck ch ct cp cm ci aq=>?_) (λ f aw D e E ao aH le gJ f5 s=>?_) aJ⟩
  .refine aB (m+1) _ _ _ _ _ _ _ _ _ (hC m) (by right) ?_
   cases x with
   |t t=>rw[G5 Ic]at q;exact q
   |nm f=>
    rw[wM Ic,G2 (by right),Nf,show a+(m+1)=a+m+1 from rfl,aq aJ]at q
    exact q
  .rw[aJ]at ao
   injection ao with ao
   subst ao
   rw[wM Ic,G2 (by right),Nf,show a+(m+1)=a+m+1 from rfl,aH]at q
   exact ret aw D e E le gJ f5 s q
end
section
variable{k:Nat}{j D:St}{Q:V->St->Prop}{A:cJ}{C aw:bi}{I:bY}{p i o cP cC a b:Nat}{ps:List a8}{l:i9}
theorem aiu{t:Mine.T}{c:List a8->Option (Mine.T×Nat)}{r:List a8}:pv I c (.t t::r)=J:=rfl
noncomputable def xx:fF:= .rD (.bin .add (.loc 4) (.ea (.int 1))) (.bin .sub (.loc 5) (.ea (.int 1)))
noncomputable def O5:S:=match oS.body with| .cons _ (.cons _ (.cons s _))=>s|_=> .bad
theorem aiv:oS.body= .cons (.asg (.tup [6,7,8]) (.loc 1)) (.cons (.asg (.loc 9) (.sub (.sub (.loc 2) (.loc 4)) (.ea (.int 1)))) (.cons O5 (.cons (.hy 12 xx rg) u9))):=rfl
theorem aiw(h:f1 p i o cP cC A C I ps l j)(k9:a+2<=b)(az:b<=ps.length)(ah: ∀x y,a<=x->x<y->y<=b->y - x<b - a->l.lookup (x,y)=d1 I (d7 ps x y))(q:rf A C (d1 I (d7 ps a b)) Q j):
  aj (k+3) 524 [.ref A.x, .tup [.ref p, .ref i, .ref o], .ref cP, .ref cC, .int (a:Int), .int (b:Int)] j Q:=by
 have rh:a<b:=hB (zW (k7 a)) k9
 have Z:2<=b - a:=aet k9
 obtain⟨x,aJ⟩: ∃x,ps[a]?=B x:=⟨_,hi (hB rh az)⟩
 have jG:=Nd (ps:=ps) (x:=a) (y:=b) (ca (gc a 2) k9) az
 have b7:(a:Int)+1=((a+1:Nat):Int):=rfl
 have cd:(b:Int) - 1=((b - 1:Nat):Int):=(w7 (dP (eh a) rh)).symm
 rw[A3 (by rw[jG];exact Z)]at q
 unfold above at q
 rw[jG,Nj aJ rh]at q
 have b5:rf A C ((hu I (d1 I) (d7 ps a b) (b - a - 2) 1).or (ls I (d1 I) (d7 ps a b))) Q j-> ∀bp bl bU,
   aK (aD (aj (k+2))) (.cons (.hy 12 xx rg) u9) (mr A p i o cP cC a b bp bl bU J J J J J J) j (cr Q):= λ q bp bl bU=>by
  have sm:=ait (k:=k) (Q:=Q) h az ah (R:=ls I (d1 I) (d7 ps a b)) (K:=d9 (aK (aD (aj (k+2))) u9) (cr Q)) (λ aw D e E le gJ f5 s q=>q aw D le gJ (λ dL aF=>by injection aF with aF;rw[<-aF];exact f5) s)
   (λ bp bl bU ck ch ct cp cm ci q=>aiq h k9 az (ah _ _ (dt a) (Nh k9) (A4 _ _) (Nat.sub_lt_sub_right (k5 (Nh k9)) (uE (dP (eh a) rh) jx))) q) (b - a - 2) 1 bp bl bU J J J J J J (by decide) (by rw[hS 1];exact A2 Z) q
  unfold mr at sm ⊢
  unfold xx
  generalize rg=jn at*
  generalize u9=ra at*
  left
  rw[b7,cd,xh ⟨by rw[s2];exact cA (by have:=h.ln;right),by rw[s2];exact cA (by have:=h.ln;right)⟩]
  left
  exact sm
 have skip:pv I (d1 I) (x::d7 ps (a+1) b)=J-> ∀bp bl bU,aK (aD (aj (k+2))) (.cons (.hy 12 xx rg) u9) (mr A p i o cP cC a b bp bl bU J J J J J J) j (cr Q):= λ e=>by
  rw[e, <-Nj aJ rh]at q
  exact b5 q
 clear b5
 unfold mr at skip
 refine afs ?_
 rw[aiv]
 generalize ef.cons (.hy 12 xx rg) u9=r at*
 unfold O5
 left
 refine sL ?_;left
 refine h.part aJ ?_
 cases x with
 |t t=>
  unfold df
  left
  refine h.part aJ ?_
  unfold df
  left
  exact skip aiu _ _ _
 |nm f=>
  rw[A5]at q skip
  unfold df
  left
  refine h.part aJ ?_
  unfold df
  left
  refine og h.au.p rfl iO ?_
  rw[kQ,om]
  cases aF:I.pre.lookup f with
  |none=>
   rw[aF]at skip
   left
   exact skip rfl _ _ _
  |some e=>
   rw[show(B e).isSome=G from rfl]
   left
   rw[b7]
   refine h.has ?_
   have ah:=ah (a+1) b (jm a) k9 (dt b) (Nat.sub_lt_sub_left rh (k7 a))
   rw[ah]
   cases aO:d1 I (d7 ps (a+1) b)with
   |none=>
    rw[aO,Nn]at skip
    left
    exact skip rfl _ _ _
   |some r=>
    obtain⟨u,n⟩:=r
    rw[aF,aO]at q skip
    have ah:=ah.trans aO
    have ak:C.cv u:=h.f5 _ (u7 ah)
    obtain⟨bs,dq,nU⟩:=h.au.ok.pre f e aF
    have hd:dJ (eB I.pre) (.s f)=B (fC e):=by rw[kQ,aF];rfl
    rw[show(B (u,n)).isSome=G from rfl]
    left
    rw[b7]
    refine h.get ah ?_
    left
    refine kh ?_;left
    refine pA h.au.p rfl iO hd ?_;left
    refine HN dq (u8 (.inl bs)).1 (u8 (.inl bs)).2 ?_;left
    rw[m7]
    by_cases aq:n<=dh e
    .rw[show pz f dh (B e) (B (u,n))=B (.bf f u,e.1)from aQ aq,BU]at q
     rw[ce aq];left
     refine cc h.b4.x rfl rfl (f:=77) rfl ?_;left
     refine ol (n:=1) h.b4 (h.un f (o7 aJ)) (by decide) λ aw aP le cq m bt=>?_
     left
     refine pA ((bt _ h.nm.1).trans h.au.p) rfl iO hd ?_
     left
     have:=q aw aP le cq (λ e aF=>by injection aF with aF;rw[<-aF];exact⟨m,le.cv ak⟩) bt
     rw[<-le.enc ak]
     exact this
    .rw[bW aq];left
     exact skip (aL aq) _ _ _
end
section
variable{k:Nat}{j D:St}{Q:V->St->Prop}{A:cJ}{C aw:bi}{I:bY}{p i o cP cC:Nat}{ps:List a8}{l:i9}
theorem aix{ag:Nat}{x:O}(h:j ag=J):(j.set ag x).del ag=j:=by
 funext b
 unfold St.del St.set
 by_cases e:b=ag
 .rw[aQ e,e,h]
 .rw[aL e,aL e]
theorem set_set{ag:Nat}{x y:O}:(j.set ag x).set ag y=j.set ag y:=by
 funext b
 unfold St.set
 by_cases e:b=ag
 .rw[aQ e,aQ e]
 .rw[aL e,aL e,aL e]
theorem Ie{live:St->Prop}(bF: ∀j,live j){ag:Nat}{fy:V->St->(Option V->St->Prop)->Prop}{v:V}{X bR:List V}{c:Bool}{Q:List V->St->Prop}
  (body: ∀dE:Option V->St->Prop,dE (if c then B (.int 1)else J) (j.set ag (.list bR))->fy v (j.set ag (.list bR)) dE)
  (q:h3 live fy ag X (if c then bR++ [.int 1]else bR) (j.set ag (.list (if c then bR++ [.int 1]else bR))) Q):h3 live fy ag (v::X) bR (j.set ag (.list bR)) Q:=by
 refine⟨bF _,body _ ⟨aY,?_⟩⟩
 cases c
 .exact q
 .show h3 live fy ag X (bR++ [.int 1]) ((j.set ag (.list bR)).set ag (.list (bR++ [.int 1]))) Q
  rw[set_set]
  exact q
theorem aiy{x y z:V}{aU:Nat}{bq:ST}{E:ax}{bf a3 dp:Bool}
  (body: ∀v c,(v,c)=(x,bf)\/(v,c)=(y,a3)\/(v,c)=(z,dp)-> ∀(D:St) (dE:Option V->St->Prop),aR et j D->dE (if c then B (.int 1)else J) D->bq (E.set aU (B v)) D (mF dE))
  (q:Q (.bool (bf||(a3||dp))) j):vM aU bq E j Q ⟨[x,y,z],λ _=>True⟩:=by
 rw[JE]
 refine⟨bw rfl,λ ag bS=>?_⟩
 have e: ∀bR,aR et j (j.set ag (.list bR)):= λ bR=>aR.new bS
 refine Ie (λ _=>trivial) (c:=bf) (λ dE h=>body x bf (.inl rfl) _ dE (e _) h) ?_
 refine Ie (λ _=>trivial) (c:=a3) (λ dE h=>body y a3 (.inr (.inl rfl)) _ dE (e _) h) ?_
 refine Ie (λ _=>trivial) (c:=dp) (λ dE h=>body z dp (.inr (.inr rfl)) _ dE (e _) h) ?_
 refine⟨trivial,aY,?_⟩
 rw[JD,aix bS]
 cases bf<;>cases a3<;>cases dp<;>exact q
theorem O6{dE:Option V->St->Prop}{c:Bool}(h:dE (if c then B (.int 1)else J) j):mF dE c j:=h
theorem O7{s:ai}{aU:Nat}{bq:ST}{E:ax}(h:kV p i o I j)(body: ∀(t:Nat) (l:List (ai×cb)) (D:St) (dE:Option V->St->Prop),aR et j D->D t=B (.dict (eB l))->dE (if(l.lookup s).isSome then B (.int 1)else J) D->bq (E.set aU (B (.ref t))) D (mF dE))
  (q:Q (.bool (I.op s)) j):vM aU bq E j Q ⟨[.ref p, .ref i, .ref o],λ _=>True⟩:=by
 refine aiy (bf:=(I.pre.lookup s).isSome) (a3:=(I.inf.lookup s).isSome) (dp:=(I.post.lookup s).isSome) (λ v c bF D dE ex aiz=>?_) (by have:I.op s=((I.pre.lookup s).isSome||((I.inf.lookup s).isSome||(I.post.lookup s).isSome)):=NI ..;rw[<-this];exact q)
 have g: ∀(t:Nat) (l:List (ai×cb)),j t=B (.dict (eB l))->c=(l.lookup s).isSome->v= .ref t->bq (E.set aU (B v)) D (mF dE):= λ t l aN ap bF=>by
  subst bF
  exact body t l D dE ex (ex _ _ aN id) (by rw[<-ap];exact aiz)
 rcases bF with bF|bF|bF<;>(injection bF with Y Z)
 .exact g p _ h.p Z Y
 .exact g i _ h.i Z Y
 .exact g o _ h.o Z Y
structure tb(p i o cP cC:Nat)(A:cJ):Prop where
 p:p≠cC
 i:i≠cC
 o:o≠cC
 cP:cP≠cC
 x:A.x≠cC
 m: ¬A.mut cC
theorem f1.put{cS:i9}(h:f1 p i o cP cC A C I ps l j)(n:tb p i o cP cC A)(k: ∀e∈cS,C.cv e.2.1):f1 p i o cP cC A C I ps cS (j.set cC (.dict (kp C cS))):=
 have e:aR (λ b=>b=cC) j (j.set cC (.dict (kp C cS))):=aR.set rfl
 ⟨h.au.keep e ⟨n.p,n.i,n.o⟩,h.b4.keep e ⟨n.x,rb A n.m⟩,e _ _ h.oC n.cP,aY,k,h.un,h.ln,h.nm⟩
def hK(I:bY)(ps:List a8)(w f:Nat)(l:i9):Prop:=
 (∀x y,x<y->y<=ps.length->l.lookup (x,y)=if y - x<w\/(y - x=w/\x<f)then d1 I (d7 ps x y)else J)/\l.length<=ps.length*w+f
theorem O8{x y:Nat}{z:Nat×Nat}{e:Mine.T×Nat}: ∀{l:i9},(l++ [(z,e)]).lookup (x,y)=(l.lookup (x,y)).or (if(x,y)=z then B e else J)
 | []=>by
  rw[pI,j6]
  by_cases h:(x,y)=z
  .rw[beq_iff_eq.mpr h,aQ h];rfl
  .rw[beq_eq_false_iff_ne.mpr h,aL h];rfl
 |(u,dL)::l=>by
  rw[jz,j6,j6]
  by_cases h:(x,y)=u
  .rw[beq_iff_eq.mpr h];rfl
  .rw[beq_eq_false_iff_ne.mpr h];exact O8
theorem O9{z w x f:Nat}(q:z<w\/(z=w/\x<f)):z<w\/(z=w/\x<f+1):=q.imp id λ q=>⟨q.1,zW q.2⟩
theorem Pa{z w x f:Nat}(c: ¬(x=f/\z=w))(d: ¬(z<w\/(z=w/\x<f))): ¬(z<w\/(z=w/\x<f+1)):= λ q=>
 q.elim (λ q=>d (.inl q)) λ q=>(aiA (r4 q.2)).elim (λ r=>d (.inr ⟨q.1,r⟩)) λ r=>c ⟨r,q.1⟩
theorem Pb{z w x:Nat}(e:z=w): ¬(z<w\/(z=w/\x<x)):= λ q=>q.elim (λ q=>vV _ (e▸q)) λ q=>vV _ q.2
theorem Pc{z w x:Nat}(e:z=w):z<w\/(z=w/\x<x+1):= .inr ⟨e,k7 _⟩
theorem hK.some{w f:Nat}{e:Mine.T×Nat}(h:hK I ps w f l)(hw:0<w)(aA:f+w<=ps.length)(az:d1 I (d7 ps f (f+w))=B e):hK I ps w (f+1) (l++ [((f,f+w),e)]):=by
 refine⟨λ x y aJ bJ=>?_,by rw[bK];exact jI h.2⟩
 rw[O8,h.1 x y aJ bJ]
 by_cases c:(x,y)=(f,f+w)
 .injection c with bf a3
  subst bf a3
  have ao:x+w - x=w:=sC ..
  rw[aL (Pb ao),aQ rfl,aQ (Pc ao),az];rfl
 .have nL: ¬(x=f/\y - x=w):= λ q=>c (by rw[<-q.2, <-q.1,G3 (k5 aJ)])
  rw[aL c,Option.or_none]
  by_cases d:y - x<w\/(y - x=w/\x<f)
  .rw[aQ d,aQ (O9 d)]
  .rw[aL d,aL (Pa nL d)]
theorem hK.none{w f:Nat}(h:hK I ps w f l)(az:d1 I (d7 ps f (f+w))=J):hK I ps w (f+1) l:=by
 refine⟨λ x y aJ bJ=>?_,OH h.2⟩
 rw[h.1 x y aJ bJ]
 by_cases c:x=f/\y - x=w
 .obtain ⟨rfl,a3⟩:=c
  rw[aL (Pb a3),aQ (Pc a3), <-az, <-a3,G3 (k5 aJ)]
 .by_cases d:y - x<w\/(y - x=w/\x<f)
  .rw[aQ d,aQ (O9 d)]
  .rw[aL d,aL (Pa c d)]
theorem hK.next{w:Nat}(h:hK I ps w (ps.length - w+1) l)(hw:w<=ps.length)(bX:0<w):hK I ps (w+1) 0 l:=by
 refine⟨λ x y aJ bJ=>?_,?_⟩
 .rw[h.1 x y aJ bJ]
  by_cases d:y - x<w\/(y - x=w/\x<ps.length - w+1)
  .rw[aQ d,aQ (.inl (d.elim zW λ q=>H2 (lp q.1)))]
  .rw[aL d,aL λ q=>q.elim (λ q=>(aiA (r4 q)).elim (λ r=>d (.inl r)) λ r=>d (.inr ⟨r,H2 (Nat.le_sub_of_add_le (by rw[<-r,G3 (k5 aJ)];exact bJ))⟩)) λ q=>Zq _ q.2]
 .have:=h.2
  rw[Nat.mul_add,aen]
  exact ca h.2 (nM (uE (hB bX hw) bX) _)
theorem hK.zero:hK I ps 1 0 []:=⟨λ x y aJ bJ=>by rw[aL (by right)];rfl,eh _⟩
theorem aiB{C:bi}{x y:Nat}{e:Mine.T×Nat}(h:l.lookup (x,y)= .none):ha (kp C l) (.p (x:Int) (y:Int)) (nk C e)=kp C (l++ [((x,y),e)]):=by
 rw[sA (by rw[xv,h];rfl)]
 unfold kp;rw[fO];rfl
end
section
variable{k:Nat}{j D:St}{Q:V->St->Prop}{A:cJ}{C aw:bi}{I:bY}{p i o cP cC:Nat}{ps:List a8}{l:i9}{dN:Nat}
noncomputable def lD(A:cJ)(p i o cP cC n dN:Nat)(e5 be bc bp bl bU:Option V):ax:=
 [B (.ref A.x),B (.tup [.ref p, .ref i, .ref o]),B (.ref cP),B (.int (dN:Int)),e5,B (.int (n:Int)),B (.ref cC),be,bc,bp,bl,bU]
noncomputable def nq:ef:=match oT.body with| .cons _ (.cons _ (.cons _ (.cons _ (.cons (.hy _ _ b) _))))=>b|_=> .nil
noncomputable def pP:ef:=match nq with| .cons (.hy _ _ b) _=>b|_=> .nil
noncomputable def xy:S:=match pP with| .cons _ (.cons _ (.cons _ (.cons s _)))=>s|_=> .bad
noncomputable def Pd:S:=match pP with| .cons _ (.cons _ (.cons s _))=>s|_=> .bad
def m2(A:cJ)(cC:Nat):Nat->Prop:= λ b=>A.mut b\/b=cC
theorem aiC:pP= .cons (.asg (.loc 9) (.ea .none)) (.cons (.asg (.loc 4) (.sub (.loc 2) (.loc 8))) (.cons Pd (.cons xy .nil))):=rfl
theorem aiD{e:Mine.T×Nat}:fu j .oN (nk C e) .none=B G:=by cases e;rfl
theorem aiE{w f:Nat}{e5 bl bU:Option V}{K:bM->ax->St->Prop}(h:f1 p i o cP cC A C I ps l j)(i8:tb p i o cP cC A)(hJ:hK I ps w f l)(hw:0<w)(aA:f+w<=ps.length)(ak: ∀e,d1 I (d7 ps f (f+w))=B e->C.cv e.1)
  (next: ∀cS D,f1 p i o cP cC A C I ps cS D->hK I ps w (f+1) cS->aR (m2 A cC) j D->K .next (lD A p i o cP cC ps.length dN e5 (B (.int (w:Int))) (B (.int (f:Int))) (B (u6 C (d1 I (d7 ps f (f+w))))) bl bU) D):
  aK (aD (aj (k+3))) (.cons xy .nil) (lD A p i o cP cC ps.length dN e5 (B (.int (w:Int))) (B (.int (f:Int))) (B (u6 C (d1 I (d7 ps f (f+w))))) bl bU) j K:=by
 have Ig:(f:Int)+w=((f+w:Nat):Int):=rfl
 have Ih:=h.ln
 unfold lD at next ⊢
 unfold xy pP nq
 cases aO:d1 I (d7 ps f (f+w))with
 |none=>
  rw[aO]at next
  unfold u6 at next ⊢
  left
  exact next l j h (hJ.none aO) .refl
 |some e=>
  rw[aO]at next
  unfold u6 at next ⊢
  left
  rw[aiD]
  left
  rw[Ig]
  have aq:l.lookup (f,f+w)=J:=by rw[hJ.1 _ _ (by right) aA,aL (by right)]
  refine me h.ja (key:= .p (f:Int) ((f+w:Nat):Int)) rfl BS ?_ ?_
  .unfold kp
   rw[c2]
   have Z:=hJ.2
   have:ps.length*w<=500*500:=Nat.mul_le_mul Ih (by right)
   have:l.length<=500*500+500:=by right
   exact dP this (by decide+kernel)
  rw[aiB aq]
  left
  exact next _ _ (h.put i8 λ x aJ=>(iG.mp aJ).elim (h.f5 x) λ q=>by rw[ee.mp q];exact ak e aO) (hJ.some hw aA aO) (aR.set (.inr rfl))
theorem aiF{s:ai}:leafOf I (.nm s)=if s≠ [44]/\s≠ [124]/\I.op s=U then B (.a s,0)else J:=rfl
theorem aiG{w f:Nat}{e5 bp bl bU:Option V}{K:bM->ax->St->Prop}(h:f1 p i o cP cC A C I ps l j)(i8:tb p i o cP cC A)(gq: ∀t,a8.t t∈ps->C.cv t)(hJ:hK I ps w f l)(hw:0<w)(aA:f+w<=ps.length)
  (next: ∀aw cS D e5 bp bl,C.le aw->f1 p i o cP cC A aw I ps cS D->hK I ps w (f+1) cS->aR (m2 A cC) j D->K .next (lD A p i o cP cC ps.length dN e5 (B (.int (w:Int))) (B (.int (f:Int))) bp bl bU) D):
  aK (aD (aj (k+3))) pP (lD A p i o cP cC ps.length dN e5 (B (.int (w:Int))) (B (.int (f:Int))) bp bl bU) j K:=by
 obtain⟨x,aJ⟩: ∃x,ps[f]?=B x:=⟨_,hi (by right)⟩
 have Ig:(f:Int)+w=((f+w:Nat):Int):=rfl
 have fin: ∀aw D e5 bl,C.le aw->f1 p i o cP cC A aw I ps l D->aR (m2 A cC) j D->(∀e,d1 I (d7 ps f (f+w))=B e->aw.cv e.1)->
   aK (aD (aj (k+3))) (.cons xy .nil) (lD A p i o cP cC ps.length dN e5 (B (.int (w:Int))) (B (.int (f:Int))) (B (u6 aw (d1 I (d7 ps f (f+w))))) bl bU) D K:= λ aw D e5 bl le h' ex ak=>
  aiE h' i8 hJ hw aA ak λ cS eL Z dX aH=>next aw cS eL _ _ _ le Z dX (ex.trans aH)
 rw[aiC]
 unfold lD at fin ⊢
 generalize xy=s at*
 unfold Pd pP nq
 left
 refine h.part aJ ?_
 left
 by_cases Y:w=1
 .subst Y
  rw[aev aJ,Nc]at fin
  rw[show decide ((1:Int)<((1:Nat):Int))=U from rfl];left
  cases x with
  |t t=>
   unfold df
   left
   exact fin C j _ _ .refl h .refl λ e aF=>by injection aF with aF;rw[<-aF];exact gq t (o7 aJ)
  |nm s'=>
   unfold df
   left
   rw[aiF]at fin
   by_cases ap:s'=[44]\/s'=[124]
   .rw[aL (λ q=>ap.elim q.1 q.2.1)]at fin
    have:((decide ([44]=s')||(decide ([124]=s')||false)) !=G)=U:=by rcases ap with rfl|rfl<;>rfl
    rw[this];left
    exact fin C j _ _ .refl h .refl nofun
   .have:((decide ([44]=s')||(decide ([124]=s')||false)) !=G)=G:=by
     rw[bW λ q=>ap (.inl q.symm),bW λ q=>ap (.inr q.symm)];rfl
    rw[this];left
    refine O7 h.au (s:=s') (λ t l D dE ex aN q=>?_) ?_
    .left
     refine og aN rfl iO ?_
     rw[kQ,om]
     left
     exact O6 q
    left
    cases ba:I.op s'
    .rw[aQ ⟨λ q=>ap (.inl q),λ q=>ap (.inr q),ba⟩]at fin
     left
     refine cc h.b4.x rfl rfl (f:=56) rfl ?_;left
     refine uM h.b4 (h.un s' (o7 aJ)) λ aw aP le cq m bt=>?_
     have:=fin aw aP (B (df C (.nm s'))) bl le (h.keep le cq bt gq) (bt.ex.mono λ _=> .inl) λ e aF=>by injection aF with aF;rw[<-aF];exact m
     left
     exact this
    .rw[aL (λ q=>by rw[ba]at q;cases q.2.2)]at fin
     left
     exact fin C j _ _ .refl h .refl nofun
 .have lE:(1:Int)<(w:Int):=by right
  rw[ce lE];left
  rw[Ig]
  refine aiw h (by right) aA (λ x y aJ F2 bJ hd=>by rw[hJ.1 x y F2 (by right),aQ (by right)]) λ aw D le gJ f5 bt=>?_
  have:=fin aw D (B (df C x)) bl le (h.keep le gJ bt gq) (bt.ex.mono λ _=> .inl) f5
  left
  exact this
end
section
variable{k:Nat}{j D:St}{Q:V->St->Prop}{A:cJ}{C aw:bi}{I:bY}{p i o cP cC:Nat}{ps:List a8}{l:i9}{dN:Nat}
theorem aiH{w:Nat}{bU:Option V}{K:bM->ax->St->Prop}(i8:tb p i o cP cC A)(hw:0<w)(amW:w<=ps.length): ∀(m f:Nat) (C:bi) (l:i9) (j:St) (e5 bc bp bl:Option V),m+f=ps.length - w+1->f1 p i o cP cC A C I ps l j->(∀t,a8.t t∈ps->C.cv t)->hK I ps w f l->
   (∀aw cS D e5 bc bp bl,C.le aw->f1 p i o cP cC A aw I ps cS D->hK I ps w (ps.length - w+1) cS->aR (m2 A cC) j D->K .next (lD A p i o cP cC ps.length dN e5 (B (.int (w:Int))) bc bp bl bU) D)->
   hz 8 (aK (aD (aj (k+3))) pP) (λ _=>True) (hb (f:Int) ((ps.length - w+1:Nat):Int)) (lD A p i o cP cC ps.length dN e5 (B (.int (w:Int))) bc bp bl bU) j K:=by
 intro b0;induction b0 with
 |zero=>
  intro f C l j e5 bc bp bl aG h gq hJ q
  rw[Ia (by right)]
  have:f=ps.length - w+1:=by right
  subst this
  exact⟨trivial,q C l j _ _ _ _ .refl h hJ .refl⟩
 |succ m aB=>
  intro f C l j e5 bc bp bl aG h gq hJ q
  rw[Ib (by right),kE]
  exact⟨trivial,aiG h i8 gq hJ hw (by right) λ aw cS D e5 bp bl le h' gJ ex=>
   aB (f+1) aw cS D _ _ _ _ (by right) h' (λ t aN=>le.cv (gq t aN)) gJ λ kj Ii eL e5 bc bp bl tc gX xz nh=>q kj Ii eL _ _ _ _ (le.trans tc) gX xz (ex.trans nh)⟩
theorem aiI:nq= .cons (.hy 8 (.x1 (.bin .add (.bin .sub (.loc 5) (.loc 7)) (.ea (.int 1)))) pP) .nil:=rfl
theorem aiJ{bU:Option V}{K:bM->ax->St->Prop}(i8:tb p i o cP cC A): ∀(m w:Nat) (C:bi) (l:i9) (j:St) (e5 be bc bp bl:Option V),m+w=ps.length+1->0<w->f1 p i o cP cC A C I ps l j->(∀t,a8.t t∈ps->C.cv t)->hK I ps w 0 l->
   (∀aw cS D e5 be bc bp bl,C.le aw->f1 p i o cP cC A aw I ps cS D->hK I ps (ps.length+1) 0 cS->aR (m2 A cC) j D->K .next (lD A p i o cP cC ps.length dN e5 be bc bp bl bU) D)->
   hz 7 (aK (aD (aj (k+3))) nq) (λ _=>True) (hb (w:Int) ((ps.length+1:Nat):Int)) (lD A p i o cP cC ps.length dN e5 be bc bp bl bU) j K:=by
 intro b0;induction b0 with
 |zero=>
  intro w C l j e5 be bc bp bl aG hw h gq hJ q
  rw[Ia (by right)]
  have:w=ps.length+1:=by right
  subst this
  exact⟨trivial,q C l j _ _ _ _ _ .refl h hJ .refl⟩
 |succ m aB=>
  intro w C l j e5 be bc bp bl aG hw h gq hJ q
  rw[Ib (by right),kE]
  refine⟨trivial,?_⟩
  have go:=aiH (k:=k) (dN:=dN) (bU:=bU) (K:=d9 (aK (aD (aj (k+3))) .nil) (gW (hz 7 (aK (aD (aj (k+3))) nq) (λ _=>True) (hb ((w+1:Nat):Int) ((ps.length+1:Nat):Int))) K)) i8 hw (by right) (ps.length - w+1) 0 C l j e5 bc bp bl rfl h gq hJ λ aw cS D e5 bc bp bl le h' gJ ex=>?_
  .unfold lD at go ⊢
   generalize gW (hz 7 (aK (aD (aj (k+3))) nq) (λ _=>True) (hb ((w+1:Nat):Int) ((ps.length+1:Nat):Int))) K=gZ at go ⊢
   rw[aiI]
   generalize pP=b at go ⊢
   have e:(ps.length:Int) - w+1=((ps.length - w+1:Nat):Int):=by right
   have Ih:=h.ln
   left
   rw[e,xh (a:=0) ⟨by decide,by rw[s2];exact cA (by right)⟩]
   left
   exact go
  .have:=aB (w+1) aw cS D e5 (B (.int (w:Int))) bc bp bl (by right) (hC w) h' (λ t aN=>le.cv (gq t aN)) (gJ.next (by right) hw) λ kj Ii eL e5 be bc bp bl tc gX xz nh=>q kj Ii eL _ _ _ _ _ (le.trans tc) gX xz (ex.trans nh)
   exact this
theorem aiK{live:St->Prop}{c:dz}{E:Option V->ax}{K:bM->ax->St->Prop}(lx: ∀u x,(E u).set 4 x=E x)(bF:live j)
  (body: ∀(q:a8) (K:bM->ax->St->Prop),K .next (E (B (df C q))) j->c (E (B (df C q))) j K) (q: ∀v,K .next (E v) j): ∀(gg:List a8) (v:Option V),hz 4 c live (gg.map (df C)) (E v) j K:=by
 intro b0;induction b0 with
 |nil=>
  intro v
  exact⟨bF,q v⟩
 |cons x gg aB=>
  intro v
  rw[h5,kE,lx]
  exact⟨bF,body x _ (aB _)⟩
noncomputable def BV(C:bi):Option Mine.T->V
 |none=> .none
 |some t=>C.enc t
theorem aiL{t:Mine.T}:fu j .is (C.enc t) .none=B U:=by cases t<;>rfl
noncomputable def Pe:ef:=match oT.body with| .cons (.hy _ _ b) _=>b|_=> .nil
noncomputable def BW:ef:=match oT.body with| .cons _ (.cons _ (.cons _ (.cons _ (.cons _ r))))=>r|_=> .nil
noncomputable def Pf:S:=match oT.body with| .cons _ (.cons _ (.cons s _))=>s|_=> .bad
theorem aiM:oT.body= .cons (.hy 4 (.val (.loc 2)) Pe) (.cons (.asg (.loc 5) (.cq .len (.loc 2))) (.cons Pf (.cons (.asg (.loc 6) (.tx [] .nil)) (.cons (.hy 7 (.rD (.ea (.int 1)) (.bin .add (.loc 5) (.ea (.int 1)))) nq) BW)))):=rfl
structure aiN(p i o cP:Nat)(A:cJ)(C:bi)(I:bY)(ps:List a8)(j:St):Prop where
 au:kV p i o I j
 b4:c9 A C j
 oC:j cP=B (.list (ps.map (df C)))
 gq: ∀t,a8.t t∈ps->C.cv t
 un: ∀s,a8.nm s∈ps->s∈di
 ln:ps.length<=500
 nm: ¬A.mut p/\ ¬A.mut i/\ ¬A.mut o/\ ¬A.mut cP
theorem aiO(h: ∀s,ps≠ [.nm s]):hG I ps dN=match d1 I ps with
  |some (u,l)=>if l<=dN then B u else J
  |none=>J:=by
 unfold hG
 split
 .exact (h _ rfl).elim
 .rfl
theorem hK.all(h:hK I ps (ps.length+1) 0 l):l.lookup (0,ps.length)=d1 I ps:=by
 by_cases bX:0<ps.length
 .rw[h.1 0 ps.length bX (dt _),aQ (by right),aeu]
 .have e:ps.length=0:=by right
  have Z:=h.2
  rw[e,Nat.zero_mul]at Z
  rw[Nb.mp (aer.mp Z),Nb.mp e];rfl
theorem Ij(h:aiN p i o cP A C I ps j)(q: ∀aw D,C.le aw->c9 A aw D->(∀t,hG I ps dN=B t->aw.cv t)->aR A.mut j D->Q (BV aw (hG I ps dN)) D):
  aj (k+4) 529 [.ref A.x, .tup [.ref p, .ref i, .ref o], .ref cP, .int (dN:Int)] j Q:=by
 have Ih:=h.ln
 have table:(∀s,ps≠ [.nm s])-> ∀e5,aK (aD (aj (k+3))) (.cons (.asg (.loc 6) (.tx [] .nil)) (.cons (.hy 7 (.rD (.ea (.int 1)) (.bin .add (.loc 5) (.ea (.int 1)))) nq) BW))
   [B (.ref A.x),B (.tup [.ref p, .ref i, .ref o]),B (.ref cP),B (.int (dN:Int)),e5,B (.int (ps.length:Int)),J,J,J,J,J,J] j (cr Q):= λ aq e5=>by
  have Ik: ∀cC,tb p i o cP cC A-> ∀(C:bi) (l:i9) (j:St) (K:bM->ax->St->Prop),f1 p i o cP cC A C I ps l j->(∀t,a8.t t∈ps->C.cv t)->hK I ps 1 0 l->_->_:=
   λ cC i8 C l j K h gq hJ=>aiJ (k:=k) (dN:=dN) (bU:=J) (K:=K) i8 ps.length 1 C l j e5 J J J J rfl jx h gq hJ
  unfold lD at Ik
  generalize nq=b at Ik ⊢
  left
  refine⟨rfl,λ cC ja=>?_⟩
  left
  have aH:(ps.length:Int)+1=((ps.length+1:Nat):Int):=rfl
  have cW:aR et j (j.set cC (.dict (kp C []))):=aR.new ja
  have i8:tb p i o cP cC A:=⟨a0 h.au.p ja,a0 h.au.i ja,a0 h.au.o ja,a0 h.oC ja,a0 h.b4.x ja,λ q=>q.elim (a0 h.b4.t ja).symm λ q=>q.elim (a0 h.b4.d ja).symm λ q=>q.elim (a0 h.b4.f ja).symm (a0 h.b4.g ja).symm⟩
  have rh:f1 p i o cP cC A C I ps [] (j.set cC (.dict (kp C []))):=⟨h.au.keep cW ⟨id,id,id⟩,h.b4.none cW,cW _ _ h.oC id,aY,(λ _ h=>nomatch h),h.un,h.ln,⟨h.nm.1,h.nm.2.1,h.nm.2.2.1,h.nm.2.2.2,i8.m⟩⟩
  rw[aH,show p7 (.int 1) (.int ((ps.length+1:Nat):Int))=B ⟨hb ((1:Nat):Int) ((ps.length+1:Nat):Int),λ _=>True⟩from xh ⟨by decide,by rw[s2];exact cA (by right)⟩]
  left
  refine Ik cC i8 C [] _ _ rh h.gq .zero λ aw cS D e5 be bc bp bl le h' gJ ex=>?_
  have nh:aR A.mut j D:= λ b w az m=>ex b w (cW b w az id) λ q=>q.elim m (a0 az ja)
  rw[aiO aq]at q
  have ah:=gJ.all
  have fin: ∀r,d1 I ps=r->_:= λ r aO=>q aw D le h'.b4 (by
   intro t aN
   cases aO:d1 I ps with
   |none=>rw[aO]at aN;cases aN
   |some e=>
    rw[aO]at aN ah
    obtain⟨u,n⟩:=e
    dsimp only at aN
    split at aN
    .cases aN;exact h'.f5 _ (u7 ah)
    .cases aN) nh
  unfold BW
  left
  refine sK h'.ja ?_;left
  refine A6 h'.ja (key:= .p ((0:Nat):Int) (ps.length:Int)) rfl BS ?_
  rw[xv,ah]
  have fin:=fin _ rfl
  cases aO:d1 I ps with
  |none=>
   rw[aO]at fin
   rw[show((J:Option (Mine.T×Nat)).map (nk aw)).getD (.tup [.none, .int 0])= .tup [.none, .int 0]from rfl]
   left
   rw[ce (k6 dN)];left
   exact fin
  |some e=>
   obtain⟨u,n⟩:=e
   rw[aO]at fin
   rw[show((B (u,n):Option (Mine.T×Nat)).map (nk aw)).getD (.tup [.none, .int 0])= .tup [aw.enc u, .int (n:Int)]from rfl]
   left
   rw[m7]
   by_cases c:n<=dN
   .rw[ce c];left
    dsimp only at fin
    rw[aQ c]at fin
    exact fin
   .rw[bW c];left
    dsimp only at fin
    rw[aL c]at fin
    exact fin
 refine aft ?_
 rw[aiM]
 generalize ef.cons (.asg (.loc 6) (.tx [] .nil)) (.cons (.hy 7 (.rD (.ea (.int 1)) (.bin .add (.loc 5) (.ea (.int 1)))) nq) BW)=r at table ⊢
 unfold Pe Pf
 left
 refine wQ h.oC ?_;left
 refine aiK (E:= λ e5=> [B (.ref A.x),B (.tup [.ref p, .ref i, .ref o]),B (.ref cP),B (.int (dN:Int)),e5,J,J,J,J,J,J,J]) (λ _ _=>rfl) h.oC (λ x K q=>?_) (λ e5=>?_) ps J
 .cases x with
  |t t=>
   unfold df at q ⊢
   left
   rw[aiL];left
   exact q
  |nm s=>
   unfold df at q ⊢
   left
   exact q
 left
 refine mf h.oC (by rw[c2];exact cA (by right)) ?_
 rw[c2]
 left
 by_cases Y:ps.length=1
 .obtain ⟨x,rfl⟩:=List.length_eq_one_iff.mp Y
  have aJ:([x]:List a8)[0]?=B x:=rfl
  have pt: ∀(y:a8) {K:V->Prop},x=y->K (df C y)->b9 (dU j (.ref cP) (.int 0)) K:= λ y K e t=>fD (i:=0) h.oC rfl (by rw[e];rfl) (cA (by show 1<=1000;decide)) t
  rw[show decide ((([x]:List a8).length:Int)=1)=G from rfl];left
  cases x with
  |t t=>
   refine pt _ rfl ?_
   unfold df
   left
   exact table nofun e5
  |nm s=>
   refine pt _ rfl ?_
   unfold df
   left
   refine pt _ rfl ?_
   unfold df
   left
   have sw:hG I [.nm s] dN=if s=[44]\/s=[124]then J else B (.a s):=rfl
   rw[sw]at q
   by_cases ap:s=[44]\/s=[124]
   .rw[aQ ap]at q
    have:((decide ([44]=s)||(decide ([124]=s)||false)) !=U)=G:=by rcases ap with rfl|rfl<;>rfl
    rw[this];left
    exact q C j .refl h.b4 nofun .refl
   .rw[aL ap]at q
    have:((decide ([44]=s)||(decide ([124]=s)||false)) !=U)=U:=by
     rw[bW λ q=>ap (.inl q.symm),bW λ q=>ap (.inr q.symm)];rfl
    rw[this];left
    refine cc h.b4.x rfl rfl (f:=56) rfl ?_;left
    refine pt _ rfl ?_
    unfold df
    left
    refine uM h.b4 (h.un s (ee.mpr rfl)) λ aw aP le cq m bt=>?_
    left
    exact q aw aP le cq (λ t aN=>by injection aN with aN;rw[<-aN];exact m) bt.ex
 .rw[show decide ((ps.length:Int)=1)=U from bW λ q=>Y (pD.mp q)];left
  exact table (λ s e=>Y (by rw[e];rfl)) e5
end
noncomputable def dT(A:cJ)(p i o tk:Nat)(bg:Int)(aS:Bool)(ag:Nat)(bn:Bool)(be bc bp bl bU ck ch ct cp cm ci c0:Option V):ax:=
 [B (.ref A.x),B (.tup [.ref p, .ref i, .ref o]),B (.ref tk),B (.int bg),B (.bool aS),B (.ref ag),B (.bool bn),be,bc,bp,bl,bU,ck,ch,ct,cp,cm,ci,c0]
noncomputable def gx:ef:=match iy.body with| .cons _ (.cons _ (.cons (.gi _ b) _))=>b|_=> .nil
noncomputable def fP:ef:=match gx with| .cons _ (.cons _ b)=>b|_=> .nil
noncomputable def d8:S:=match fP with| .cons _ (.cons _ (.cons _ (.cons _ (.cons s _))))=>s|_=> .bad
noncomputable def fh:ef:=match fP with| .cons _ (.cons _ (.cons _ (.cons _ (.cons _ r))))=>r|_=> .nil
theorem aiP:gx= .cons (.asg (.tup [7,8,9]) (.sub (.loc 2) (.loc 3))) (.cons (.asg (.loc 10) (.sub (.loc 2) (.bin .add (.loc 3) (.ea (.int 1))))) fP):=rfl
noncomputable def pQ:S×S×S×S:=match fP with| .cons a (.cons b (.cons c (.cons d _)))=>(a,b,c,d)|_=>(.bad, .bad, .bad, .bad)
theorem Il:fP= .cons pQ.1 (.cons pQ.2.1 (.cons pQ.2.2.1 (.cons pQ.2.2.2 (.cons d8 fh)))):=rfl
abbrev kq(k n:Nat):dz:=ep (dF (aD (aj k)) (.ea (.bool G))) (aK (aD (aj k)) gx) n
section
variable{k n:Nat}{j D:St}{Q:V->St->Prop}{A:cJ}{C aw:bi}{I:bY}{p i o tk ag:Nat}{aS bn:Bool}{K:bM->ax->St->Prop}{toks pre r:List Tok}{t u:Tok}{be bc bp bl bU ck ch ct cp cm ci c0:Option V}
theorem ri{l:Nat}{K:V->Prop}(h:j tk=B (.list (toks.map dD)))(ah:toks.length<=500)(e:toks[l]?=B t)(q:K (dD t)):b9 (dU j (.ref tk) (.int (l:Int))) K:=
 fD h rfl (by rw[jq,e];rfl) (cA (by rw[c2];right)) q
theorem aiQ(h:toks=pre++t::r):toks[pre.length]?=B t:=by
 rw[h,sr (dt _),H4];rfl
theorem aiR(h:toks=pre++t::u::r):toks[pre.length+1]?=B u:=by
 rw[h,sr (gc _ 1),sC];rfl
theorem aiS{w:Tok}(h:toks=pre++t::u::w::r):toks[pre.length+2]?=B w:=by
 rw[h,sr (gc _ 2),sC];rfl
theorem va(ly:j tk=B (.list (toks.map dD)))(ah:toks.length<=500)(aN:toks=pre++t::u::r)
  (q:aK (aD (aj k)) fP (dT A p i o tk (pre.length:Int) aS ag bn (B (.str (ew t.1))) (B (eY t.1)) (B (.bool t.2)) (B (dD u)) bU ck ch ct cp cm ci c0) j (gW (kq k n) K)):
  kq k (n+1) (dT A p i o tk (pre.length:Int) aS ag bn be bc bp bl bU ck ch ct cp cm ci c0) j K:=by
 have ao:(pre.length:Int)+1=((pre.length+1:Nat):Int):=rfl
 unfold dT kq at*
 rw[j1]
 generalize ep (dF (aD (aj k)) (.ea (.bool G))) (aK (aD (aj k)) gx) n=gZ at*
 rw[aiP]
 generalize fP=b at*
 left
 refine ri ly ah (aiQ aN) ?_
 unfold dD at*
 left
 refine sL ?_;left
 rw[ao]
 refine ri ly ah (aiR aN) ?_
 unfold dD
 left
 exact q
theorem xA{a c:Nat}{l:ai}:((a::l).contains c)=(decide (a=c)||l.contains c):=by
 show(match c==a with|true=>G|false=>l.elem c)=_
 by_cases h:a=c
 .subst h;rw[beq_self_eq_true,ce rfl];rfl
 .rw[beq_eq_false_iff_ne.mpr (Fc h),bW h];rfl
theorem vb{a b c:Nat}:(decide (([a]:ai)=[c])||(decide (([b]:ai)=[c])||false))=([a,b]:ai).contains c:=by
 rw[kT,kT,xA,xA];rfl
theorem BX{a b d c:Nat}:(decide (([a]:ai)=[c])||(decide (([b]:ai)=[c])||(decide (([d]:ai)=[c])||false)))=([a,b,d]:ai).contains c:=by
 rw[kT,kT,kT,xA,xA,xA];rfl
theorem Pg{t:cz}:decide (ew t=[110,111,110,101])=decide (t= .no):=by
 cases t<;>first|rfl|exact(ce rfl).symm
theorem Im{t:cz}:decide (ew t=[112,117,110,99,116])=G/\(∃c,t= .pu c)\/decide (ew t=[112,117,110,99,116])=U/\ ∀c,t≠ .pu c:=by
 cases t with
 |pu c=>exact .inl ⟨rfl,c,rfl⟩
 |_=>exact .inr ⟨rfl,nofun⟩
theorem aiT{a:Option V}(ab:sD aS t.1=G)(q:K (.ret (.tup [.ref ag, .int (pre.length:Int)])) (dT A p i o tk (pre.length:Int) aS ag bn (B (.str (ew t.1))) (B (eY t.1)) (B (.bool t.2)) a bU ck ch ct cp cm ci c0) j):
  aK (aD (aj k)) fP (dT A p i o tk (pre.length:Int) aS ag bn (B (.str (ew t.1))) (B (eY t.1)) (B (.bool t.2)) a bU ck ch ct cp cm ci c0) j K:=by
 obtain⟨t,g⟩:=t
 dsimp only at ab q ⊢
 unfold dT at*
 rw[Il]
 generalize d8=s at*
 generalize fh=e at*
 generalize pQ.2.2.1=qy at*
 generalize pQ.2.2.2=sd at*
 unfold pQ fP gx
 cases t with
 |no=>
  unfold ew eY at*
  left
  exact q
 |pu c=>
  unfold ew eY at*
  left
  rw[BX,mn]
  have ab:(([41,93,125]:ai).contains c||(aS&&([44,124]:ai).contains c))=G:=ab
  cases Y:([41,93,125]:ai).contains c
  .rw[Y,z4,ia]at ab
   obtain⟨rfl,Z⟩:=ab
   left
   rw[vb,mn,Z];left
   exact q
  .left
   exact q
 |_=>cases ab
end
section
variable{k n:Nat}{j D:St}{Q:V->St->Prop}{A:cJ}{C aw:bi}{I:bY}{p i o tk ag:Nat}{aS bn:Bool}{K:bM->ax->St->Prop}{toks pre r:List Tok}{t u:Tok}{be bc bp bl bU ck ch ct cp cm ci c0:Option V}
theorem pR:dU j (dD t) (.int 0)=B (.str (ew t.1)):=rfl
theorem td:dU j (dD t) (.int 1)=B (eY t.1):=rfl
theorem Ph:dU j (dD t) (.int 2)=B (.bool t.2):=rfl
noncomputable def BY(t u:cz):Bool:=match t,u with
 | .pu a, .pu b=>decide (([91,93]:ai)=[a,b])||decide (([123,125]:ai)=[a,b])
 |_,_=>U
theorem Io(ab:sD aS t.1=U)(ap:BY t.1 u.1=U)
  (q:aK (aD (aj k)) (.cons d8 fh) (dT A p i o tk ((pre.length+1:Nat):Int) aS ag bn (B (.str (ew t.1))) (B (eY t.1)) (B (.bool t.2)) (B (dD u)) bU ck ch ct cp cm ci c0) j K):
  aK (aD (aj k)) fP (dT A p i o tk (pre.length:Int) aS ag bn (B (.str (ew t.1))) (B (eY t.1)) (B (.bool t.2)) (B (dD u)) bU ck ch ct cp cm ci c0) j K:=by
 obtain⟨t,g⟩:=t
 obtain⟨u,h⟩:=u
 dsimp only at ab ap q ⊢
 have aq:decide (ew t=[110,111,110,101])=U:=by
  rw[Pg];exact bW λ e=>by rw[e]at ab;cases ab
 have ao:((pre.length+1:Nat):Int)=(pre.length:Int)+1:=rfl
 rw[ao]at q
 unfold dT at*
 rw[Il]
 generalize ef.cons d8 fh=b at*
 unfold pQ fP gx
 rcases Im (t:=t)with⟨aT,c,rfl⟩|⟨aT,_⟩
 .have ab:(([41,93,125]:ai).contains c||(aS&&([44,124]:ai).contains c))=U:=ab
  rw[rY]at ab
  unfold eY at*
  left
  rw[aq];left
  rw[aT];left
  rw[BX,mn,ab.1];left
  rw[aT];left
  have fin: ∀oD:Bool->St->Prop,oD U j->(oD (BY (.pu c) u) j):= λ oD h=>by rw[ap];exact h
  have last:aK (aD (aj k)) (match iy.body with| .cons _ (.cons _ (.cons (.gi _ (.cons _ (.cons _ (.cons _ (.cons _ (.cons _ (.cons s _))))))) _))=> .cons s b|_=> .nil)
   [B (.ref A.x),B (.tup [.ref p, .ref i, .ref o]),B (.ref tk),B (.int ((pre.length:Int)+1)),B (.bool aS),B (.ref ag),B (.bool bn),B (.str (ew (.pu c))),B (.str [c]),B (.bool g),B (dD (u,h)),bU,ck,ch,ct,cp,cm,ci,c0] j K:=by
   left
   rw[aT];left
   rw[pR];left
   rcases Im (t:=u)with⟨bE,d,rfl⟩|⟨bE,_⟩
   .rw[bE];left
    rw[td]
    unfold eY
    left
    refine ik (cA (by show 1+1<=1000;decide)) ?_;left
    have ap:(decide (([91,93]:ai)=[c,d])||decide (([123,125]:ai)=[c,d]))=U:=ap
    have e:(decide (([91,93]:ai)=[c]++ [d])||(decide (([123,125]:ai)=[c]++ [d])||false))=U:=by rw[zt];exact ap
    rw[e,mn];left
    exact q
   .rw[bE];left
    exact q
  cases aS
  .left;exact last
  .rw[sM]at ab
   left
   rw[vb,mn,ab.2];left
   exact last
 .left
  rw[aq];left
  rw[aT];left
  rw[aT];left
  rw[aT];left
  exact q
theorem Pj{w:Tok}(ly:j tk=B (.list (toks.map dD)))(ah:toks.length<=500)(aN:toks=pre++t::u::w::r){s:ai}(ap:t.1= .pu 91/\u.1= .pu 93/\s=[91,93]\/t.1= .pu 123/\u.1= .pu 125/\s=[123,125])
  (q:aK (aD (aj k)) (.cons d8 fh) (dT A p i o tk ((pre.length+2:Nat):Int) aS ag bn (B (.str [113,110,97,109,101])) (B (.str s)) (B (.bool t.2)) (B (dD w)) bU ck ch ct cp cm ci c0) j K):
  aK (aD (aj k)) fP (dT A p i o tk (pre.length:Int) aS ag bn (B (.str (ew t.1))) (B (eY t.1)) (B (.bool t.2)) (B (dD u)) bU ck ch ct cp cm ci c0) j K:=by
 obtain⟨t,g⟩:=t
 obtain⟨u,h⟩:=u
 dsimp only at ap q ⊢
 have ao:(pre.length:Int)+1+1=((pre.length+2:Nat):Int):=rfl
 unfold dT at*
 rw[Il]
 generalize ef.cons d8 fh=b at*
 obtain⟨c,d,rfl,rfl,rfl,uj,aiU,F1⟩: ∃c d,t= .pu c/\u= .pu d/\s=[c]++ [d]/\([41,93,125]:ai).contains c=U/\([44,124]:ai).contains c=U/\(decide (([91,93]:ai)=[c]++ [d])||(decide (([123,125]:ai)=[c]++ [d])||false))=G:=by
  rcases ap with⟨rfl,rfl,rfl⟩|⟨rfl,rfl,rfl⟩
  .exact ⟨91,93,rfl,rfl,rfl,rfl,rfl,rfl⟩
  .exact ⟨123,125,rfl,rfl,rfl,rfl,rfl,rfl⟩
 have last:aK (aD (aj k)) (match iy.body with| .cons _ (.cons _ (.cons (.gi _ (.cons _ (.cons _ (.cons _ (.cons _ (.cons _ (.cons s _))))))) _))=> .cons s b|_=> .nil)
   [B (.ref A.x),B (.tup [.ref p, .ref i, .ref o]),B (.ref tk),B (.int ((pre.length:Int)+1)),B (.bool aS),B (.ref ag),B (.bool bn),B (.str (ew (.pu c))),B (.str [c]),B (.bool g),B (dD (.pu d,h)),bU,ck,ch,ct,cp,cm,ci,c0] j K:=by
  left
  rw[show decide (ew (.pu c)=[112,117,110,99,116])=G from rfl];left
  rw[pR];left
  rw[show decide (ew (.pu d)=[112,117,110,99,116])=G from rfl];left
  rw[td]
  unfold eY
  left
  refine ik (cA (by show 1+1<=1000;decide)) ?_;left
  rw[F1,mn];left
  rw[td]
  unfold eY
  left
  refine ik (cA (by show 1+1<=1000;decide)) ?_;left
  refine kh ?_;left
  rw[ao]
  refine ri ly ah (aiS aN) ?_;left
  exact q
 unfold pQ fP gx
 unfold eY
 left
 rw[show decide (ew (.pu c)=[110,111,110,101])=U from rfl];left
 rw[show decide (ew (.pu c)=[112,117,110,99,116])=G from rfl];left
 rw[BX,mn,uj];left
 rw[show decide (ew (.pu c)=[112,117,110,99,116])=G from rfl];left
 cases aS
 .left;exact last
 .left
  rw[vb,mn,aiU];left
  exact last
theorem aiV{bg:Nat}(ly:j tk=B (.list (toks.map dD)))(ah:toks.length<=500)(aT:bg+2<=toks.length)
  (q:kq k n (dT A p i o tk (bg:Int) aS ag U be bc bp bl bU ck ch ct cp cm ci c0) j K):
  aK (aD (aj k)) fh (dT A p i o tk (bg:Int) aS ag bn be bc bp bl bU ck ch ct cp cm ci c0) j (gW (kq k n) K):=by
 unfold dT kq at*
 generalize ep (dF (aD (aj k)) (.ea (.bool G))) (aK (aD (aj k)) gx) n=gZ at*
 unfold fh fP gx
 left
 refine mf ly (by rw[c2];exact cA (by right)) ?_
 rw[c2]
 left
 rw[bW (by right: ¬((toks.length:Int) - 2<(bg:Int)))];left
 exact q
end
section
variable{gI c5:dz}{bq I:ST}{b7 cd:b6}{E:ax}{j:St}{K:bM->ax->St->Prop}{ds:Bool->St->Prop}{Q:V->St->Prop}{b:Bool}{v:V}
theorem Pk(e:b=G)(h:gI E j K):lW gI c5 E K b j:=by subst e;exact h
theorem aiW(e:b=U)(h:c5 E j K):lW gI c5 E K b j:=by subst e;exact h
theorem aiX(e:b=G)(h:I E j ds):qi I E ds b j:=by subst e;exact h
theorem aiY(e:b=U)(h:ds U j):qi I E ds b j:=by subst e;exact h
theorem aiZ(e:b=G)(h:ds G j):qj I E ds b j:=by subst e;exact h
theorem ai0(e:b=U)(h:I E j ds):qj I E ds b j:=by subst e;exact h
end
section
variable{k n:Nat}{j D:St}{Q:V->St->Prop}{A:cJ}{C aw:bi}{I:bY}{p i o tk ag:Nat}{aS bn:Bool}{K:bM->ax->St->Prop}{toks pre r:List Tok}{t u:Tok}{be bc bp bl bU ck ch ct cp cm ci c0:Option V}
theorem pS{ps:List a8}{x:a8}{v:V}(h:j ag=B (.list (ps.map (df C))))(bF:v=df C x)(ah:ps.length<ay)(q:Q .none (j.set ag (.list ((ps++ [x]).map (df C))))):mz ag 0 [v] j Q:=by
 rw[bF]
 refine oe h (by rw[c2];exact ah) ?_
 rw[fO]at q;exact q
theorem ai1{m bg:Nat}{g:Bool}{a:Option V}{ps:List a8}(bS:j ag=B (.list (ps.map (df C))))(ah:ps.length<=500)
  (q:aK (aD (aj k)) fh (dT A p i o tk (bg:Int) aS ag bn (B (.str (ew (.it m)))) (B (eY (.it m))) (B (.bool g)) a bU ck ch ct cp cm ci c0) (j.set ag (.list ((ps++ [a8.t (.i (m:Int))]).map (df C)))) K):
  aK (aD (aj k)) (.cons d8 fh) (dT A p i o tk (bg:Int) aS ag bn (B (.str (ew (.it m)))) (B (eY (.it m))) (B (.bool g)) a bU ck ch ct cp cm ci c0) j K:=by
 unfold dT ew eY at*
 generalize fh=e at*
 unfold d8 fP gx
 walk_at "x"
 refine dH bS (by decide) ?_;left
 refine pS bS (x:= .t (.i (m:Int))) rfl (dP ah (by decide+kernel)) ?_;left
 exact q
theorem ai2{s:ai}{bg:Nat}{g:Bool}{a:Option V}{ps:List a8}(bS:j ag=B (.list (ps.map (df C))))(ah:ps.length<=500)
  (q:aK (aD (aj k)) fh (dT A p i o tk (bg:Int) aS ag bn (B (.str (ew (.aX s)))) (B (eY (.aX s))) (B (.bool g)) a bU ck ch ct cp cm ci c0) (j.set ag (.list ((ps++ [a8.t (.n s)]).map (df C)))) K):
  aK (aD (aj k)) (.cons d8 fh) (dT A p i o tk (bg:Int) aS ag bn (B (.str (ew (.aX s)))) (B (eY (.aX s))) (B (.bool g)) a bU ck ch ct cp cm ci c0) j K:=by
 unfold dT ew eY at*
 generalize fh=e at*
 unfold d8 fP gx
 walk_at "x"
 refine dH bS (by decide) ?_;left
 refine pS bS (x:= .t (.n s)) rfl (dP ah (by decide+kernel)) ?_;left
 exact q
theorem BZ{w:Tok}:fu j .eq (dD w) (.tup [.str [112,117,110,99,116], .str [40], .bool G])=B (decide (w=(.pu 40,G))):=by
 obtain⟨w,g⟩:=w
 cases w with
 |pu c=>
  show B (G&&(decide (([c]:ai)=[40])&&((g==G)&&G)))=_
  rw[kT,sM,Bm,beq_true]
  refine congrArg B ?_
  by_cases h:c=40
  .subst h;cases g
   .exact (bW λ q=>by injection q with _ q;injection q).symm
   .exact (ce rfl).symm
  .rw[bW h,My];exact(bW λ q=>h (by injection q with q;injection q)).symm
 |_=>
  exact congrArg B (bW nofun).symm
theorem ai3{m bg:Nat}{g:Bool}{ps:List a8}(bS:j ag=B (.list (ps.map (df C))))(ah:ps.length<=500)
  (q:aK (aD (aj k)) fh (dT A p i o tk ((bg+1:Nat):Int) aS ag G (B (.str (ew (.nm [45])))) (B (eY (.nm [45]))) (B (.bool g)) (B (dD (.it m,G))) bU ck ch ct cp cm ci c0) (j.set ag (.list ((ps++ [a8.t (.i (-(m:Int)))]).map (df C)))) K):
  aK (aD (aj k)) (.cons d8 fh) (dT A p i o tk (bg:Int) aS ag G (B (.str (ew (.nm [45])))) (B (eY (.nm [45]))) (B (.bool g)) (B (dD (.it m,G))) bU ck ch ct cp cm ci c0) j K:=by
 have ao:((bg+1:Nat):Int)=(bg:Int)+1:=rfl
 rw[ao]at q
 unfold dT at*
 rw[show ew (.nm [45])=[110,97,109,101]from rfl,show eY (.nm [45])= .str [45]from rfl]at*
 generalize fh=e at*
 unfold d8 fP gx
 walk_at "x"
 rw[BZ];walk_at "x"
 rw[pR];walk_at "x"
 rw[Ph];walk_at "x"
 refine dH bS (by decide) ?_;left
 rw[td];left
 refine pS bS (x:=a8.t (.i (-(m:Int)))) rfl (dP ah (by decide+kernel)) ?_;left
 exact q
end
noncomputable def fQ:S->S
 | .c4 _ _ (.cons s _)=>s
 |s=>s
noncomputable def oE:S->ef
 | .c4 _ b _=>b
 |_=> .nil
noncomputable def lF:ef->ef
 | .cons _ b=>b
 |b=>b
noncomputable def te:ef:=oE d8
noncomputable def oF:ef:=oE (fQ (fQ d8))
noncomputable def B0:ef:=oE (fQ (fQ (fQ (fQ (fQ d8)))))
noncomputable def pT:ef:=oE (fQ (fQ (fQ (fQ (fQ (fQ d8))))))
section
variable{k n:Nat}{j D:St}{Q:V->St->Prop}{A:cJ}{C aw:bi}{I:bY}{p i o tk ag:Nat}{aS bn:Bool}{K:bM->ax->St->Prop}{toks pre r:List Tok}{t u:Tok}{be bc bp bl bU ck ch ct cp cm ci c0:Option V}
def rj(C:bi)(ps:List a8):Prop:= ∀t,a8.t t∈ps->C.cv t
theorem B1{ps:List a8}(le:C.le aw)(h:rj C ps):ps.map (df aw)=ps.map (df C):=q0 λ q co=>by
 cases q with
 |t t=>show V.tup [.str [116,101,114,109],aw.enc t]=_;rw[le.enc (h t co)];rfl
 |nm s=>rfl
theorem ai4{c:Nat}(h:c=44\/c=124):([c]:ai)∈di:=by rcases h with rfl|rfl<;>decide
theorem ai5{bg c:Nat}{g:Bool}{ps:List a8}(az:c9 A C j)(aN:kV p i o I j)(bS:j ag=B (.list (ps.map (df C))))(ah:ps.length<=500)(aG: ¬A.mut ag)(ak:rj C ps)(ap:c=44\/c=124)(bE:u≠(.pu 40,G))
  (aA:ps.isEmpty=G/\sF u.1=G\/I.inf.lookup [c]=J)
  (q: ∀aw D ct cp,C.le aw->c9 A aw D-> [c]∈aw.texts->bP A.mut j D->aK (aD (aj (k+1))) fh (dT A p i o tk (bg:Int) aS ag G (B (.str (ew (.gE [c])))) (B (eY (.gE [c]))) (B (.bool g)) (B (dD u)) bU ck ch ct cp cm ci c0) (D.set ag (.list ((ps++ [a8.t (.a [c])]).map (df aw)))) K):
  aK (aD (aj (k+1))) (.cons d8 fh) (dT A p i o tk (bg:Int) aS ag G (B (.str (ew (.gE [c])))) (B (eY (.gE [c]))) (B (.bool g)) (B (dD u)) bU ck ch ct cp cm ci c0) j K:=by
 unfold dT at*
 rw[show ew (.gE [c])=[113,110,97,109,101]from rfl,show eY (.gE [c])= .str [c]from rfl]at*
 have ai6:decide (u=(.pu 40,G))=U:=bW bE
 have vc:([44,124]:ai).contains c=G:=by rcases ap with rfl|rfl<;>rfl
 generalize fh=e at*
 have B2: ∀bC:Option V,aK (aD (aj (k+1))) (lF (lF oF))
   [B (.ref A.x),B (.tup [.ref p, .ref i, .ref o]),B (.ref tk),B (.int (bg:Int)),B (.bool aS),B (.ref ag),B (.bool G),B (.str [113,110,97,109,101]),B (.str [c]),B (.bool g),B (dD u),bU,ck,ch,bC,B (.bool G),cm,ci,c0] j (d9 (aK (aD (aj (k+1))) .nil) (d9 (aK (aD (aj (k+1))) .nil) (d9 (aK (aD (aj (k+1))) e) K))):= λ bC=>by
  dsimp only[lF,oF,oE,fQ,d8,fP,gx,iy]
  left
  refine dH bS (by decide) ?_;left
  refine cc az.x rfl rfl (f:=56) rfl ?_;left
  refine uM az (ai4 ap) λ aw aP le cq m bt=>?_
  have:=q aw aP bC (B (.bool G)) le cq m bt
  left
  have B3:aP ag=B (.list (ps.map (df aw))):=by rw[B1 le ak];exact(bt ag aG).trans bS
  refine pS B3 (x:=a8.t (.a [c])) rfl (dP ah (by decide+kernel)) ?_;left
  exact this
 generalize tf:(d9 (aK (aD (aj (k+1))) .nil) (d9 (aK (aD (aj (k+1))) .nil) (d9 (aK (aD (aj (k+1))) e) K)))=oD at B2
 have free: ∀bC:Bool,(bC=G\/I.inf.lookup [c]=J)->aK (aD (aj (k+1))) (lF oF)
   [B (.ref A.x),B (.tup [.ref p, .ref i, .ref o]),B (.ref tk),B (.int (bg:Int)),B (.bool aS),B (.ref ag),B (.bool G),B (.str [113,110,97,109,101]),B (.str [c]),B (.bool g),B (dD u),bU,ck,ch,B (.bool bC),cp,cm,ci,c0] j oD:= λ bC ai7=>by
  rw[show lF oF=match lF oF with| .cons s _=> .cons s (lF (lF oF))|b=>b from rfl]
  generalize lF (lF oF)=d5 at*
  dsimp only[lF,oF,oE,fQ,d8,fP,gx,iy]
  left
  cases bC
  .have aq:=ai7.resolve_left nofun
   left
   refine wP aN.i rfl iO ?_
   rw[kQ,aq]
   left
   exact B2 _
  .left
   exact B2 _
 clear B2
 subst tf
 rw[show d8=match d8 with| .c4 a b (.cons (.c4 c d (.cons (.c4 x y z) _)) _)=> .c4 a b (.cons (.c4 c d (.cons (.c4 x (match y with| .cons s _=> .cons s (lF oF)|b=>b) z) .nil)) .nil)|s=>s from rfl]
 generalize lF oF=dX at*
 unfold d8 fP gx
 walk_at "x"
 rw[BZ,ai6];walk_at "x"
 rw[vb,mn,vc];walk_at "x"
 refine afA bS ?_
 rw[List.isEmpty_map,mn]
 cases aF:ps.isEmpty
 .left
  exact free U (.inr (aA.resolve_left λ q=>by rw[aF]at q;cases q.1))
 .rw[aF]at aA
  left
  rw[pR];left
  rw[Pg]
  by_cases Ip:u.1= .no
  .rewrite[ce Ip];left
   exact free G (.inl rfl)
  .rewrite[bW Ip];left
   rw[pR];left
   rcases Im (t:=u.1)with⟨aT,d,hd⟩|⟨aT,aq⟩
   .rw[aT];left
    rw[td,hd]
    unfold eY
    left
    rw[BX]
    refine free _ (aA.imp (λ q=>?_) id)
    rw[hd]at q
    have hQ:(!([40,91,123]:ai).contains d)=G:=q.2
    rw[r1]at hQ
    rw[hQ];rfl
   .rewrite[aT];left
    refine free U (.inr (aA.resolve_left λ q=>?_))
    have:=q.2
    revert this
    cases Pl:u.1 with
    |no=>exact absurd Pl Ip
    |pu c=>exact absurd Pl (aq c)
    |_=>exact nofun
end
noncomputable def xB:ef:=match fQ (fQ (fQ (fQ (fQ (fQ d8)))))with| .c4 _ _ b=>b|_=> .nil
noncomputable def xC:S->a7
 | .c4 c _ _=>c
 |_=> .bad
theorem Iq:d8= .c4 (xC d8) te (.cons (fQ d8) .nil):=rfl
theorem Pm:fQ d8=match fQ d8 with
 | .c4 cO dX (.cons (.c4 iC d5 (.cons (.c4 mW fK (.cons (.c4 kM tg (.cons (.c4 pj vd (.cons (.c4 wH Pn _) _)) _)) _)) _)) _)=>
  .c4 cO dX (.cons (.c4 iC d5 (.cons (.c4 mW fK (.cons (.c4 kM tg (.cons (.c4 pj vd (.cons (.c4 wH Pn xB) .nil)) .nil)) .nil)) .nil)) .nil)
 |s=>s:=rfl
section
variable{k n:Nat}{j D:St}{Q:V->St->Prop}{A:cJ}{C aw:bi}{I:bY}{p i o tk ag:Nat}{aS bn:Bool}{K:bM->ax->St->Prop}{toks pre r:List Tok}{t u:Tok}{be bp bl bU ck ch ct cp cm ci c0:Option V}
theorem Po{bg:Nat}{s:ai}{ps:List a8}(aN:kV p i o I j)(bS:j ag=B (.list (ps.map (df C))))(ah:ps.length<=500)
  (q:K .cont (dT A p i o tk (bg:Int) aS ag (if bn then I.op s else(I.post.lookup s).isNone) be (B (.str s)) bp bl bU ck ch ct cp cm ci c0) (j.set ag (.list ((ps++ [a8.nm s]).map (df C))))):
  aK (aD (aj k)) xB (dT A p i o tk (bg:Int) aS ag bn be (B (.str s)) bp bl bU ck ch ct cp cm ci c0) j K:=by
 have s8:kV p i o I (j.set ag (.list ((ps++ [a8.nm s]).map (df C)))):=aN.keep (bG:= λ b=>b=ag) (aR.set rfl) ⟨(od bS aN.p).symm,(od bS aN.i).symm,(od bS aN.o).symm⟩
 unfold dT at*
 dsimp only[xB,fQ,d8,fP,gx,iy]
 left
 refine dH bS (by decide) ?_;left
 refine pS bS (x:=a8.nm s) rfl (dP ah (by decide+kernel)) ?_;left
 cases bn
 .left
  refine wP s8.o rfl iO ?_
  rw[kQ,om,ag1]
  left
  exact q
 .left
  refine O7 s8 (s:=s) (λ t l D dE ex Y q=>?_) ?_
  .left
   refine og Y rfl iO ?_
   rw[kQ,om]
   left
   exact O6 q
  left
  exact q
theorem ai8{bg:Nat}{s:ai}{hL g:Bool}{a7:S}(aN:kV p i o I j)(Z:u=(.pu 40,G)->bn=U/\(I.inf.lookup s).isSome=G)
  (q:wpS (aD (aj k)) a7 (dT A p i o tk (bg:Int) aS ag bn (B (.str (if hL then [113,110,97,109,101]else [110,97,109,101]))) (B (.str s)) (B (.bool g)) (B (dD u)) bU ck ch ct cp cm ci c0) j (d9 (aK (aD (aj k)) .nil) K)):
  wpS (aD (aj k)) (.c4 (xC d8) te (.cons a7 .nil)) (dT A p i o tk (bg:Int) aS ag bn (B (.str (if hL then [113,110,97,109,101]else [110,97,109,101]))) (B (.str s)) (B (.bool g)) (B (dD u)) bU ck ch ct cp cm ci c0) j K:=by
 unfold dT at*
 generalize te=b
 dsimp only[xC,d8,fP,gx,iy]
 have key:dF (aD (aj k)) (.and (.cmp .eq (.loc 10) (.tup (.cons (.ea (.str [112,117,110,99,116])) (.cons (.ea (.str [40])) (.cons (.ea (.bool G)) .nil))))) (.or (.loc 6) (.cmp .p6 (.loc 8) (.sub (.loc 1) (.ea (.int 1))))))
   [B (.ref A.x),B (.tup [.ref p, .ref i, .ref o]),B (.ref tk),B (.int (bg:Int)),B (.bool aS),B (.ref ag),B (.bool bn),B (.str (if hL then [113,110,97,109,101]else [110,97,109,101])),B (.str s),B (.bool g),B (dD u),bU,ck,ch,ct,cp,cm,ci,c0] j
   (lW (aK (aD (aj k)) b) (aK (aD (aj k)) (.cons a7 .nil)) [B (.ref A.x),B (.tup [.ref p, .ref i, .ref o]),B (.ref tk),B (.int (bg:Int)),B (.bool aS),B (.ref ag),B (.bool bn),B (.str (if hL then [113,110,97,109,101]else [110,97,109,101])),B (.str s),B (.bool g),B (dD u),bU,ck,ch,ct,cp,cm,ci,c0] K):=by
  left
  rw[BZ]
  by_cases bE:u=(.pu 40,G)
  .rw[ce bE]
   obtain⟨rfl,bo⟩:=Z bE
   left
   refine wP aN.i rfl iO ?_
   rw[kQ,om,bo]
   left
   exact q
  .rw[bW bE]
   left
   exact q
 cases hL
 .walk_at "x"
  exact key
 .walk_at "x"
  exact key
theorem ai9{t:cz}:(∃n,t= .it n)\/decide (ew t=[105,110,116])=U:=by cases t<;>first|exact .inl ⟨_,rfl⟩|exact .inr rfl
theorem aja{bg:Nat}{s:ai}{hL g:Bool}{ps:List a8}(aN:kV p i o I j)(bS:j ag=B (.list (ps.map (df C))))(ah:ps.length<=500)
  (Y:hL=G->s≠ [44]/\s≠ [124]) (Z:u=(.pu 40,G)->bn=U/\(I.inf.lookup s).isSome=G) (aE:bn=G->hL=U->s=[45]-> ∀n,u≠(.it n,G))
  (q:K .cont (dT A p i o tk (bg:Int) aS ag (if bn then I.op s else(I.post.lookup s).isNone) (B (.str (if hL then [113,110,97,109,101]else [110,97,109,101]))) (B (.str s)) (B (.bool g)) (B (dD u)) bU ck ch ct cp cm ci c0) (j.set ag (.list ((ps++ [a8.nm s]).map (df C))))):
  aK (aD (aj k)) (.cons d8 fh) (dT A p i o tk (bg:Int) aS ag bn (B (.str (if hL then [113,110,97,109,101]else [110,97,109,101]))) (B (.str s)) (B (.bool g)) (B (dD u)) bU ck ch ct cp cm ci c0) j K:=by
 rw[Iq]
 refine ai8 (K:=d9 (aK (aD (aj k)) fh) K) aN Z ?_
 have fin:= λ oD:bM->ax->St->Prop=>Po (k:=k) (K:=oD) (A:=A) (tk:=tk) (aS:=aS) (bn:=bn) (bg:=bg) (s:=s) (be:=B (.str (if hL then [113,110,97,109,101]else [110,97,109,101]))) (bp:=B (.bool g)) (bl:=B (dD u)) (bU:=bU) (ck:=ck) (ch:=ch) (ct:=ct) (cp:=cp) (cm:=cm) (ci:=ci) (c0:=c0) aN bS ah
 unfold dT at*
 rw[Pm]
 generalize xB=ajb at*
 generalize fh=e at*
 dsimp only[fQ,d8,fP,gx,iy]
 cases hL
 .rw[aL fV]at*
  have aE:= λ h=>aE h rfl
  walk_at "x"
  by_cases ab:s=[45]
  .rw[ce ab];left
   cases bn
   .walk_at "x"
    refine fin _ ?_
    left
    exact q
   .left
    rw[pR];left
    obtain⟨u,ht⟩:=u
    rcases ai9 (t:=u)with⟨n,rfl⟩|aq
    .rw[show decide (ew (.it n)=[105,110,116])=G from rfl];left
     rw[Ph]
     cases ht
     .walk_at "x"
      refine fin _ ?_
      left
      exact q
     .exact absurd rfl (aE rfl ab n)
    .rw[aq];walk_at "x"
     refine fin _ ?_
     left
     exact q
  .rw[bW ab];walk_at "x"
   refine fin _ ?_
   left
   exact q
 .rw[aQ rfl]at*
  have Y:=Y rfl
  have ap:(decide ([44]=s)||(decide ([124]=s)||false))=U:=by rw[bW Y.1.symm,bW Y.2.symm];rfl
  walk_at "x"
  rw[ap];walk_at "x"
  refine fin _ ?_
  left
  exact q
theorem ajc{bg c:Nat}{g:Bool}{a:Option V}{ps:List a8}(aN:kV p i o I j)(bS:j ag=B (.list (ps.map (df C))))(ah:ps.length<=500)(ap:c=44\/c=124)
  (q:K .cont (dT A p i o tk (bg:Int) aS ag (if bn then I.op [c]else(I.post.lookup [c]).isNone) (B (.str (ew (.pu c)))) (B (eY (.pu c))) (B (.bool g)) a bU ck ch ct cp cm ci c0) (j.set ag (.list ((ps++ [a8.nm [c]]).map (df C))))):
  aK (aD (aj k)) (.cons d8 fh) (dT A p i o tk (bg:Int) aS ag bn (B (.str (ew (.pu c)))) (B (eY (.pu c))) (B (.bool g)) a bU ck ch ct cp cm ci c0) j K:=by
 have fin:= λ oD:bM->ax->St->Prop=>Po (k:=k) (K:=oD) (A:=A) (tk:=tk) (aS:=aS) (bn:=bn) (bg:=bg) (s:=[c]) (be:=B (.str (ew (.pu c)))) (bp:=B (.bool g)) (bl:=a) (bU:=bU) (ck:=ck) (ch:=ch) (ct:=ct) (cp:=cp) (cm:=cm) (ci:=ci) (c0:=c0) aN bS ah
 rw[Iq,Pm]
 unfold dT at*
 rw[show ew (.pu c)=[112,117,110,99,116]from rfl,show eY (.pu c)= .str [c]from rfl]at*
 generalize xB=ajb at*
 generalize te=amX at*
 generalize fh=e at*
 dsimp only[xC,fQ,d8,fP,gx,iy]
 walk_at "x"
 rw[vb,show([40,123]:ai).contains c=U by rcases ap with rfl|rfl<;>rfl];walk_at "x"
 rewrite[show decide (([c]:ai)=[91])=U by rcases ap with rfl|rfl<;>rfl];left
 refine fin _ ?_
 left
 exact q
end
structure ip(p i o tk:Nat)(A:cJ)(C:bi)(I:bY)(toks:List Tok)(j:St):Prop where
 au:kV p i o I j
 b4:c9 A C j
 ak:j tk=B (.list (toks.map dD))
 cK:eu.le C
 nm: ¬A.mut p/\ ¬A.mut i/\ ¬A.mut o/\ ¬A.mut tk
theorem ip.keep{p i o tk:Nat}{A:cJ}{C aw:bi}{I:bY}{toks:List Tok}{j D:St}(h:ip p i o tk A C I toks j)(le:C.le aw)(b:c9 A aw D)(e:aR A.mut j D):ip p i o tk A aw I toks D:=
 ⟨h.au.keep e ⟨h.nm.1,h.nm.2.1,h.nm.2.2.1⟩,b,e _ _ h.ak h.nm.2.2.2,h.cK.trans le,h.nm⟩
noncomputable def pU(l:Nat):ai:=if l=0 then [110,111,110,101]else [l]
noncomputable def nr(p i o:Nat):V:= .tup [.ref p, .ref i, .ref o]
def Ir(k:Nat)(p i o tk:Nat)(A:cJ)(I:bY)(toks:List Tok)(aS:Bool)(bg fE:Nat)(gg:List a8):Prop:=
 ∀(C:bi) (j:St) (Q:V->St->Prop),ip p i o tk A C I toks j->(∀aw c D,C.le aw->c9 A aw D->j c=J->D c=B (.list (gg.map (df aw)))->rj aw gg->aR A.mut j D->Q (.tup [.ref c, .int (fE:Int)]) D)->
  aj k 555 [.ref A.x,nr p i o, .ref tk, .int (bg:Int), .bool aS] j Q
def It(k:Nat)(p i o tk:Nat)(A:cJ)(I:bY)(toks:List Tok)(cl bg fE l:Nat)(au:List T):Prop:=
 ∀(C:bi) (j:St) (Q:V->St->Prop),ip p i o tk A C I toks j->(∀aw c D,C.le aw->c9 A aw D->j c=J->D c=B (.list (au.map aw.enc))->(∀t∈au,aw.cv t)->aR A.mut j D->Q (.tup [.ref c, .str (pU l), .int (fE:Int)]) D)->
  aj k 550 [.ref A.x,nr p i o, .ref tk, .int (bg:Int), .str [cl]] j Q
section
variable{k n:Nat}{j D:St}{Q:V->St->Prop}{A:cJ}{C aw:bi}{I:bY}{p i o tk ag:Nat}{aS bn:Bool}{K:bM->ax->St->Prop}{toks pre r:List Tok}{t u:Tok}{be bp bl bU ck ch ct cp cm ci c0:Option V}
theorem c9.apart{c:Nat}(h:c9 A C j)(e:j c= .none): ¬A.mut c:= λ q=>q.elim (a0 h.t e).symm λ q=>q.elim (a0 h.d e).symm λ q=>q.elim (a0 h.f e).symm (a0 h.g e).symm
theorem Pp: ∀{au:List Mine.T},(∀x∈au,x.ay<=29)->gU .none (au.map C.enc)=B U
 | [],h=>aQ ⟨rfl,eh _⟩
 |x::au,h=>by
  have aJ:=HG (C:=C) x
  have Y:jg .none (C.enc x)=B U:=by
   have:jg .none (C.enc x)=if f6 .none=G/\f6 (C.enc x)=G/\h2 .none<=60/\h2 (C.enc x)<=60 then lO .none (C.enc x)else J:=rfl
   rw[this,aQ ⟨rfl,aJ.1,eh _,by have:=h x (eT ..);right⟩]
   cases x<;>rfl
  have Y:jg (C.enc x) .none=B U:=by
   have:jg (C.enc x) .none=if f6 (C.enc x)=G/\f6 .none=G/\h2 (C.enc x)<=60/\h2 .none<=60 then lO (C.enc x) .none else J:=rfl
   rw[this,aQ ⟨aJ.1,rfl,by have:=h x (eT ..);right,eh _⟩]
   cases x<;>rfl
  have Z:=Pp (au:=au) λ y bJ=>h y (f0 _ bJ)
  show(match jg (C.enc x) .none,gU .none (au.map C.enc)with|some x,B y=>B (x||y)|_,_=>J)=_
  rw[Y,Z];rfl
theorem Pq{c:Nat}{au:List Mine.T}{K:Bool->Prop}(h:j c=B (.list (au.map C.enc)))(ab: ∀x∈au,x.ay<=29)(q:K G):b9 (fu j .p6 .none (.ref c)) K:=by
 have:fu j .p6 .none (.ref c)=B G:=by
  show(kw j .none (.ref c)).map _=_
  have:kw j .none (.ref c)=gU .none (au.map C.enc):=by unfold kw;dsimp only;rw[h]
  rw[this,Pp ab];rfl
 rw[this];exact q
theorem ajd{s:ai}{au:List Mine.T}{t:Mine.T}(h:uF s au=B t)(aG:C.has s au.length)(ak: ∀x∈au,C.cv x):C.enc t= .tup [.str [115], .int (C.fn s au.length:Int), .tup (au.map C.enc)]/\C.cv t/\au.length<=3:=by
 rcases au with _|⟨x,_|⟨y,_|⟨z,_|⟨w,au⟩⟩⟩⟩
 .cases h
 .injection h with h;subst h;exact⟨rfl,⟨aG,ak x (eT ..)⟩,by show 1<=3;decide⟩
 .injection h with h;subst h;exact⟨rfl,⟨aG,ak x (eT ..),ak y (f0 _ (eT ..))⟩,by show 2<=3;decide⟩
 .injection h with h;subst h;exact⟨rfl,⟨aG,ak x (eT ..),ak y (f0 _ (eT ..)),ak z (f0 _ (f0 _ (eT ..)))⟩,dt 3⟩
 .cases h
theorem aje{s:ai}{au:List Mine.T}{t:Mine.T}(h:uF s au=B t):au.length<=3:=by
 rcases au with _|⟨x,_|⟨y,_|⟨z,_|⟨w,au⟩⟩⟩⟩<;>first|(cases h;done)|(simp only[el,jM];right)
theorem ajf{bg fE l:Nat}{s:ai}{hL g:Bool}{ps:List a8}{au:List Mine.T}{t:Mine.T}(h:ip p i o tk A C I toks j)(bS:j ag=B (.list (ps.map (df C))))(ah:ps.length<=500)(aG: ¬A.mut ag)(ak:rj C ps)
  (ab:s∈di) (hw:bn=G\/I.inf.lookup s=J) (rec:It (k+2) p i o tk A I toks 41 (bg+1) fE l au) (bb: ∀x∈au,x.ay<=29) (th:l≠124) (pV:l=0\/l=44\/l=124) (aI:uF s au=B t)
  (q: ∀aw D bU ck ch,C.le aw->c9 A aw D->aw.cv t->aR A.mut j D->aK (aD (aj (k+2))) fh (dT A p i o tk (fE:Int) aS ag bn (B (.str (if hL then [113,110,97,109,101]else [110,97,109,101]))) (B (.str s)) (B (.bool g)) (B (dD (.pu 40,G))) bU ck ch ct cp cm ci c0) (D.set ag (.list ((ps++ [a8.t t]).map (df aw)))) K):
  aK (aD (aj (k+2))) (.cons d8 fh) (dT A p i o tk (bg:Int) aS ag bn (B (.str (if hL then [113,110,97,109,101]else [110,97,109,101]))) (B (.str s)) (B (.bool g)) (B (dD (.pu 40,G))) bU ck ch ct cp cm ci c0) j K:=by
 have ao:(bg:Int)+1=((bg+1:Nat):Int):=rfl
 have aE:=aje aI
 have lG:(decide (([110,111,110,101]:ai)=pU l)||(decide (([44]:ai)=pU l)||false))=G:=by
  rcases pV with rfl|rfl|rfl
  .rfl
  .rfl
  .exact absurd rfl th
 rw[Iq]
 unfold dT at*
 generalize fh=e at*
 generalize fQ d8=a7 at*
 have body:aK (aD (aj (k+2))) te [B (.ref A.x),B (.tup [.ref p, .ref i, .ref o]),B (.ref tk),B (.int (bg:Int)),B (.bool aS),B (.ref ag),B (.bool bn),B (.str (if hL then [113,110,97,109,101]else [110,97,109,101])),B (.str s),B (.bool g),B (dD (.pu 40,G)),bU,ck,ch,ct,cp,cm,ci,c0] j (d9 (aK (aD (aj (k+2))) e) K):=by
  dsimp only[te,oE,d8,fP,gx,iy]
  left
  rw[ao]
  refine rec C j _ h λ dy c aP jA cq rk ap nt jb=>?_
  left
  refine sL ?_;left
  rw[lG,mn];left
  refine Pq ap bb ?_;left
  refine cc cq.x rfl rfl (f:=77) rfl ?_;left
  have Pr:(au.map dy.enc).length<=ay:=cA (by rw[c2];right)
  refine mf ap Pr ?_
  rw[c2]
  left
  refine ol (n:=au.length) cq ab (by right) λ gv bA kW dX m b2=>?_
  have le:=jA.trans kW
  have ex:aR A.mut j bA:=jb.trans b2.ex
  have xD: ∀x∈au,gv.cv x:= λ x aJ=>kW.cv (nt x aJ)
  obtain⟨bz,cO,_⟩:=ajd aI m xD
  have:=q gv bA (B (.ref c)) (B (.str (pU l))) (B (gv.enc t)) le dX cO ex
  left
  have km:bA c=B (.list (au.map dy.enc)):=(b2 c ?_).trans ap
  .refine Hc km Pr ?_
   left
   have pN:bA ag=B (.list (ps.map (df gv))):=by rw[B1 le ak];exact ex _ _ bS aG
   refine dH pN (by decide) ?_;left
   have bF:V.tup [.str [116,101,114,109], .tup [.str [115], .int (gv.fn s au.length:Int), .tup (au.map dy.enc)]]=df gv (.t t):=by
    have e:au.map dy.enc=au.map gv.enc:=q0 λ x aJ=>(kW.enc (nt x aJ)).symm
    rw[e, <-bz];rfl
   refine pS pN (x:=a8.t t) bF (dP ah (by decide+kernel)) ?_;left
   rw[bz, <-q0 λ x aJ=>(kW.enc (nt x aJ)).symm]at this
   exact this
  .exact h.b4.apart rk
 generalize te=b at*
 dsimp only[xC,d8,fP,gx,iy]
 have key:dF (aD (aj (k+2))) (.and (.cmp .eq (.loc 10) (.tup (.cons (.ea (.str [112,117,110,99,116])) (.cons (.ea (.str [40])) (.cons (.ea (.bool G)) .nil))))) (.or (.loc 6) (.cmp .p6 (.loc 8) (.sub (.loc 1) (.ea (.int 1))))))
   [B (.ref A.x),B (.tup [.ref p, .ref i, .ref o]),B (.ref tk),B (.int (bg:Int)),B (.bool aS),B (.ref ag),B (.bool bn),B (.str (if hL then [113,110,97,109,101]else [110,97,109,101])),B (.str s),B (.bool g),B (dD (.pu 40,G)),bU,ck,ch,ct,cp,cm,ci,c0] j
   (lW (aK (aD (aj (k+2))) b) (aK (aD (aj (k+2))) (.cons a7 .nil)) [B (.ref A.x),B (.tup [.ref p, .ref i, .ref o]),B (.ref tk),B (.int (bg:Int)),B (.bool aS),B (.ref ag),B (.bool bn),B (.str (if hL then [113,110,97,109,101]else [110,97,109,101])),B (.str s),B (.bool g),B (dD (.pu 40,G)),bU,ck,ch,ct,cp,cm,ci,c0] (d9 (aK (aD (aj (k+2))) e) K)):=by
  left
  rw[BZ,ce rfl]
  left
  cases bn
  .have bo:=hw.resolve_left nofun
   left
   refine wP h.au.i rfl iO ?_
   rw[kQ,bo]
   left
   exact body
  .left
   exact body
 cases hL
 .walk_at "x"
  exact key
 .walk_at "x"
  exact key
end
section
variable{k n:Nat}{j D:St}{Q:V->St->Prop}{A:cJ}{C aw:bi}{I:bY}{p i o tk ag:Nat}{aS bn:Bool}{K:bM->ax->St->Prop}{toks pre r:List Tok}{t u:Tok}{be bp bl bU ck ch ct cp cm ci c0:Option V}
theorem ajg:d8=match d8 with
 | .c4 bz cq (.cons (.c4 cO dX (.cons (.c4 iC d5 (.cons (.c4 mW fK (.cons (.c4 kM tg (.cons (.c4 pj vd c) _)) _)) _)) _)) _)=>
  .c4 bz cq (.cons (.c4 cO dX (.cons (.c4 iC d5 (.cons (.c4 mW fK (.cons (.c4 kM tg (.cons (.c4 pj B0 c) .nil)) .nil)) .nil)) .nil)) .nil)
 |s=>s:=rfl
theorem ajh{t:Mine.T}:fu j .oN (C.enc t) .none=B G:=by cases t<;>rfl
theorem Ps{bg fE c cl:Nat}{g gp:Bool}{a:Option V}{ps gg:List a8}{t w:Mine.T}(h:ip p i o tk A C I toks j)(bS:j ag=B (.list (ps.map (df C))))(ah:ps.length<=500)(aG: ¬A.mut ag)(ak:rj C ps)
  (ap:c=40/\cl=41/\w=t\/c=123/\cl=125/\w= .bf [123,125] t) (rec:Ir (k+4) p i o tk A I toks U bg fE gg) (aN:toks[fE]?=B (.pu cl,gp)) (cw:toks.length<=500) (co:gg.length<=500) (bE: ∀s,a8.nm s∈gg->s∈di) (aO:hG I gg 1200=B t)
  (q: ∀aw D ch cm,C.le aw->c9 A aw D->aw.cv w->aR A.mut j D->aK (aD (aj (k+4))) fh (dT A p i o tk ((fE+1:Nat):Int) aS ag bn (B (.str (ew (.pu c)))) (B (eY (.pu c))) (B (.bool g)) a bU ck ch ct cp cm ci c0) (D.set ag (.list ((ps++ [a8.t w]).map (df aw)))) K):
  aK (aD (aj (k+4))) (.cons d8 fh) (dT A p i o tk (bg:Int) aS ag bn (B (.str (ew (.pu c)))) (B (eY (.pu c))) (B (.bool g)) a bU ck ch ct cp cm ci c0) j K:=by
 have ao:((fE+1:Nat):Int)=(fE:Int)+1:=rfl
 rw[ao]at q
 unfold dT at*
 rw[show ew (.pu c)=[112,117,110,99,116]from rfl,show eY (.pu c)= .str [c]from rfl]at*
 rw[ajg]
 generalize fh=e at*
 have body:aK (aD (aj (k+4))) B0 [B (.ref A.x),B (.tup [.ref p, .ref i, .ref o]),B (.ref tk),B (.int (bg:Int)),B (.bool aS),B (.ref ag),B (.bool bn),B (.str [112,117,110,99,116]),B (.str [c]),B (.bool g),a,bU,ck,ch,ct,cp,cm,ci,c0] j
   (d9 (aK (aD (aj (k+4))) .nil) (d9 (aK (aD (aj (k+4))) .nil) (d9 (aK (aD (aj (k+4))) .nil) (d9 (aK (aD (aj (k+4))) .nil) (d9 (aK (aD (aj (k+4))) .nil) (d9 (aK (aD (aj (k+4))) e) K)))))):=by
  dsimp only[B0,oE,fQ,d8,fP,gx,iy]
  left
  refine rec C j _ h λ dy bf aP jA cq rk xE nt jb=>?_
  left
  refine kh ?_;left
  have ga:=h.keep jA cq jb
  refine Ij (dN:=1200) ⟨ga.au,cq,xE,nt,bE,co,⟨h.nm.1,h.nm.2.1,h.nm.2.2.1,h.b4.apart rk⟩⟩ λ gv bA kW dX xD nu=>?_
  have hg:=ga.keep kW dX nu
  rw[aO]
  have jO:gv.cv t:=xD t aO
  unfold BV
  left
  refine ri hg.ak cw aN ?_;left
  rw[td];left
  refine⟨rfl,λ d hd=>?_⟩
  have cG:aR et bA (bA.set d (.dict ([a2.s [40],a2.s [123]].zip [V.str [41],V.str [125]]))):=aR.new hd
  have le:=jA.trans kW
  have ex:aR A.mut j (bA.set d (.dict ([a2.s [40],a2.s [123]].zip [V.str [41],V.str [125]]))):=(jb.trans nu).trans cG.none
  left
  have hd:dJ ([a2.s [40],a2.s [123]].zip [V.str [41],V.str [125]]) (.s [c])=B (.str [cl]):=by
   rcases ap with⟨rfl,rfl,_⟩|⟨rfl,rfl,_⟩<;>rfl
  refine pA aY rfl rfl hd ?_
  rw[show eY (.pu cl)= .str [cl]from rfl]
  left
  rw[ce (rfl:([cl]:ai)=[cl])];left
  refine ri (cG _ _ hg.ak id) cw aN ?_;left
  rw[pR];walk_at "x"
  have d5:=dX.none cG
  have B4:(bA.set d (.dict ([a2.s [40],a2.s [123]].zip [V.str [41],V.str [125]]))) ag=B (.list (ps.map (df gv))):=by rw[B1 le ak];exact ex _ _ bS aG
  generalize bA.set d (.dict ([a2.s [40],a2.s [123]].zip [V.str [41],V.str [125]]))=dR at*
  have gB:ps.length<ay:=dP ah (by decide+kernel)
  rcases ap with⟨rfl,rfl,rfl⟩|⟨rfl,rfl,rfl⟩
  .walk_at "x"
   refine dH B4 (by decide) ?_;left
   refine pS B4 (x:=a8.t w) rfl gB ?_;left
   exact q gv dR _ _ le d5 jO ex
  .walk_at "x"
   obtain⟨w2,Iu,aji⟩: ∃w2,fu dR .oN (gv.enc t) .none=B w2/\w2=G:=⟨G,ajh,rfl⟩
   rw[Iu];left
   refine Pk aji ?_;left
   have xF:=hg.cK.has nc.2.1
   have bF:V.tup [.str [116,101,114,109], .tup [.str [115], .int 9, .tup [gv.enc t]]]=df gv (.t (.bf [123,125] t)):=by
    show _=V.tup [.str [116,101,114,109], .tup [.str [115], .int (gv.fn [123,125] 1:Int), .tup [gv.enc t]]]
    rw[hg.cK.fn nc.2.1,qX.2.1];rfl
   refine dH B4 (by decide) ?_;left
   refine pS B4 (x:=a8.t (.bf [123,125] t)) bF gB ?_;left
   exact q gv dR _ _ le d5 ⟨xF,jO⟩ ex
 generalize B0=b at*
 generalize tf:(d9 (aK (aD (aj (k+4))) .nil) (d9 (aK (aD (aj (k+4))) .nil) (d9 (aK (aD (aj (k+4))) .nil) (d9 (aK (aD (aj (k+4))) .nil) (d9 (aK (aD (aj (k+4))) .nil) (d9 (aK (aD (aj (k+4))) e) K))))))=oD at*
 subst tf
 unfold d8 fP gx
 walk_at "x"
 rw[vb,show([40,123]:ai).contains c=G by rcases ap with⟨rfl,_⟩|⟨rfl,_⟩<;>rfl];walk_at "x"
 exact body
end
section
variable{k n:Nat}{j D:St}{Q:V->St->Prop}{A:cJ}{C aw:bi}{I:bY}{p i o tk ag:Nat}{aS bn:Bool}{K:bM->ax->St->Prop}{toks pre r:List Tok}{t u:Tok}{be bp bl bU ck ch ct cp cm ci c0:Option V}
noncomputable def pW(bH x:T):T:= .a3 [46] x bH
theorem Iv{bH:Mine.T}: ∀bj:List Mine.T,m5 bH bj=bj.reverse.foldl pW bH
 | []=>rfl
 |x::bj=>by
  rw[Ev,wL]
  show Mine.T.a3 [46] x (m5 bH bj)=pW (bj.reverse.foldl pW bH) x
  rw[Iv bj];rfl
theorem ajj{x bH:Mine.T}(cK:eu.le C):V.tup [.str [115], .int 0, .tup [C.enc x,C.enc bH]]=C.enc (pW bH x):=by
 show _=V.tup [.str [115], .int (C.fn [46] 2:Int), .tup [C.enc x,C.enc bH]]
 rw[cK.fn nc.1,qX.1];rfl
theorem ajk{c:dz}{live:St->Prop}{E:Option V->V->ax}(lx: ∀v w x,(E v w).set 17 x=E x w)(bF:live j)
  (body: ∀(x bH:Mine.T) (K:bM->ax->St->Prop),K .next (E (B (C.enc x)) (C.enc (pW bH x))) j->c (E (B (C.enc x)) (C.enc bH)) j K): ∀(rs:List Mine.T) (bH:Mine.T) (v:Option V),(∀v,K .next (E v (C.enc (rs.foldl pW bH))) j)->hz 17 c live (rs.map C.enc) (E v (C.enc bH)) j K:=by
 intro b0;induction b0 with
 |nil=>
  intro bH v q
  exact⟨bF,q v⟩
 |cons x rs aB=>
  intro bH v q
  rw[h5,kE,lx]
  exact⟨bF,body x bH _ (aB (pW bH x) _ q)⟩
theorem ajl(cK:eu.le C): ∀(rs:List Mine.T) (bH:Mine.T),(∀x∈rs,C.cv x)->C.cv bH->C.cv (rs.foldl pW bH):=by
 intro b0;induction b0 with
 |nil=>
  intro bH h aN
  exact aN
 |cons x rs aB=>
  intro bH h aN
  exact aB (pW bH x) (λ y bJ=>h y (f0 _ bJ)) ⟨cK.has nc.1,h x (eT ..),aN⟩
theorem Pt{l:Nat}(h:l=0\/l=44\/l=124):decide (pU l=[124])=decide (l=124):=by rcases h with rfl|rfl|rfl<;>rfl
theorem ajm:d8=match d8 with
 | .c4 bz cq (.cons (.c4 cO dX (.cons (.c4 iC d5 (.cons (.c4 mW fK (.cons (.c4 kM tg (.cons (.c4 pj vd (.cons (.c4 wH Pn c) _)) _)) _)) _)) _)) _)=>
  .c4 bz cq (.cons (.c4 cO dX (.cons (.c4 iC d5 (.cons (.c4 mW fK (.cons (.c4 kM tg (.cons (.c4 pj vd (.cons (.c4 wH pT c) .nil)) .nil)) .nil)) .nil)) .nil)) .nil)
 |s=>s:=rfl
noncomputable def B5:ef:=match pT with| .cons _ (.cons _ (.cons (.c4 _ (.cons _ f) _) _))=>f|_=> .nil
noncomputable def B6:ef:=match pT with| .cons _ (.cons _ (.cons _ r))=>r|_=> .nil
theorem ajn:pT=match pT with
 | .cons bt (.cons b2 (.cons (.c4 c (.cons a _) z) _))=> .cons bt (.cons b2 (.cons (.c4 c (.cons a B5) z) B6))
 |b=>b:=rfl
theorem ajo{bg fE l:Nat}{g:Bool}{a:Option V}{ps:List a8}{au:List Mine.T}{t:Mine.T}(h:ip p i o tk A C I toks j)(bS:j ag=B (.list (ps.map (df C))))(ah:ps.length<=500)(aG: ¬A.mut ag)(ak:rj C ps)
  (rec:It (k+2) p i o tk A I toks 93 bg fE l au) (bb: ∀x∈au,x.ay<=29) (pV:l=0\/l=44\/l=124) (aq:au.length<=500) (aI:sE (decide (l=124)) au=B t)
  (q: ∀aw D bU ck ch ci,C.le aw->c9 A aw D->aw.cv t->aR A.mut j D->aK (aD (aj (k+2))) fh (dT A p i o tk (fE:Int) aS ag bn (B (.str (ew (.pu 91)))) (B (eY (.pu 91))) (B (.bool g)) a bU ck ch ct cp cm ci c0) (D.set ag (.list ((ps++ [a8.t t]).map (df aw)))) K):
  aK (aD (aj (k+2))) (.cons d8 fh) (dT A p i o tk (bg:Int) aS ag bn (B (.str (ew (.pu 91)))) (B (eY (.pu 91))) (B (.bool g)) a bU ck ch ct cp cm ci c0) j K:=by
 unfold dT at*
 rw[show ew (.pu 91)=[112,117,110,99,116]from rfl,show eY (.pu 91)= .str [91]from rfl]at*
 rw[ajm]
 generalize fh=e at*
 have body:aK (aD (aj (k+2))) pT [B (.ref A.x),B (.tup [.ref p, .ref i, .ref o]),B (.ref tk),B (.int (bg:Int)),B (.bool aS),B (.ref ag),B (.bool bn),B (.str [112,117,110,99,116]),B (.str [91]),B (.bool g),a,bU,ck,ch,ct,cp,cm,ci,c0] j
   (d9 (aK (aD (aj (k+2))) .nil) (d9 (aK (aD (aj (k+2))) .nil) (d9 (aK (aD (aj (k+2))) .nil) (d9 (aK (aD (aj (k+2))) .nil) (d9 (aK (aD (aj (k+2))) .nil) (d9 (aK (aD (aj (k+2))) .nil) (d9 (aK (aD (aj (k+2))) e) K))))))):=by
  have fin: ∀(dy:bi) (c:Nat) (bj:List Mine.T) (bH:Mine.T) (bA:St) (ck:Option V),C.le dy->c9 A dy bA->eu.le dy->bA c=B (.list (bj.map dy.enc))->(∀x∈bj,dy.cv x)->dy.cv bH->bj.length<=500->aR A.mut j bA->t=m5 bH bj->
    aK (aD (aj (k+2))) B5 [B (.ref A.x),B (.tup [.ref p, .ref i, .ref o]),B (.ref tk),B (.int (fE:Int)),B (.bool aS),B (.ref ag),B (.bool bn),B (.str [112,117,110,99,116]),B (.str [91]),B (.bool g),a,B (.ref c),ck,B (dy.enc bH),ct,cp,cm,ci,c0] bA
    (d9 (aK (aD (aj (k+2))) B6) (d9 (aK (aD (aj (k+2))) .nil) (d9 (aK (aD (aj (k+2))) .nil) (d9 (aK (aD (aj (k+2))) .nil) (d9 (aK (aD (aj (k+2))) .nil) (d9 (aK (aD (aj (k+2))) .nil) (d9 (aK (aD (aj (k+2))) .nil) (d9 (aK (aD (aj (k+2))) e) K)))))))):= λ dy c bj bH bA ck le dX cK ap f5 jO amY ex Pu=>by
   dsimp only[B5,B6,pT,oE,fQ,d8,fP,gx,iy]
   left
   refine Nw ap ?_
   rw[<-Gb]
   left
   refine ajk (E:= λ ci w=> [B (.ref A.x),B (.tup [.ref p, .ref i, .ref o]),B (.ref tk),B (.int (fE:Int)),B (.bool aS),B (.ref ag),B (.bool bn),B (.str [112,117,110,99,116]),B (.str [91]),B (.bool g),a,B (.ref c),ck,B w,ct,cp,cm,ci,c0]) (λ _ _ _=>rfl) ap (λ x bH K q=>?_) bj.reverse bH ci λ ci=>?_
   .left
    rw[ajj cK]
    exact q
   .rw[<-Iv, <-Pu]
    have pN:bA ag=B (.list (ps.map (df dy))):=by rw[B1 le ak];exact ex _ _ bS aG
    left
    refine dH pN (by decide) ?_;left
    refine pS pN (x:=a8.t t) rfl (dP ah (by decide+kernel)) ?_;left
    refine q dy bA _ _ _ _ le dX ?_ ex
    rw[Pu,Iv]
    exact ajl cK _ _ (λ x aJ=>f5 x (abY.mp aJ)) jO
  rw[ajn]
  generalize B5=ahz at*
  generalize B6=amZ at*
  dsimp only[pT,oE,fQ,d8,fP,gx,iy]
  left
  refine rec C j _ h λ dy c aP jA cq rk ap nt jb=>?_
  left
  refine sL ?_;left
  have ga:=h.keep jA cq jb
  have q2:=h.b4.apart rk
  refine Pq ap bb ?_;left
  rw[Pt pV]
  unfold sE at aI
  by_cases az:l=124
  .rw[ce az]
   rw[ce az,aQ rfl]at aI
   obtain⟨bj,bH,rfl⟩: ∃bj bH,au=bj++ [bH]:=by
    rcases List.eq_nil_or_concat au with rfl|⟨bj,bH,e⟩
    .cases aI
    .exact ⟨bj,bH,by rw[e,List.concat_eq_append]⟩
   rw[jR,Nv]at aI
   injection aI with aI
   rw[bK]at aq
   rw[fO]at ap
   left
   refine dH ap (by decide) ?_;left
   refine Nu ap (by rw[c2];exact dP (r4 (H2 aq)) (by decide+kernel)) ?_
   left
   have aH:aR (λ b=>b=c) aP (aP.set c (.list (bj.map dy.enc))):=aR.set rfl
   have aa: ∀b w,j b=B w->b≠c:= λ b w az=>a0 az rk
   refine fin dy c bj bH _ _ jA (cq.keep aH ⟨aa _ _ h.b4.x,rb A q2⟩) ga.cK aY (λ x aJ=>nt x (lu _ aJ)) (nt bH (oj _ (ee.mpr rfl))) (by right) (λ b w az m=>aH b w (jb b w az m) (aa b w az)) aI.symm
  .rw[bW az]
   rw[bW az,aL fV]at aI
   injection aI with aI
   have bX:eu.no [91,93]=0:=uO.1
   have pX:=ga.cK.mem qW.1
   have qp:V.tup [.str [97], .int 0]=dy.enc (.a [91,93]):=by
    show _=V.tup [.str [97], .int (dy.no [91,93]:Int)]
    rw[ga.cK.no qW.1,bX];rfl
   left
   rw[qp]
   exact fin dy c au (.a [91,93]) aP _ jA cq ga.cK ap nt pX aq jb aI.symm
 generalize pT=b at*
 unfold d8 fP gx
 walk_at "x"
 exact body
end
structure xG(p i o tk:Nat)(A:cJ)(ag:Nat):Prop where
 p:p≠ag
 i:i≠ag
 o:o≠ag
 tk:tk≠ag
 x:A.x≠ag
 m: ¬A.mut ag
structure oG(p i o tk:Nat)(A:cJ)(I:bY)(toks:List Tok)(ag:Nat)(C:bi)(j:St)(eC:List a8)(pre:List Tok):Prop where
 st:ip p i o tk A C I toks j
 d:j ag=B (.list (eC.map (df C)))
 k:rj C eC
 g0:xG p i o tk A ag
 iq:toks.length<=500
 ln:eC.length<=pre.length
def ve(A:cJ)(toks:List Tok)(ag:Nat)(C:bi)(j:St)(eC ps:List a8)(r:List Tok)(K:bM->ax->St->Prop):Prop:=
 ∀iS aw D E,toks=iS++r->C.le aw->c9 A aw D->D ag=B (.list ((eC++ps).map (df aw)))->rj aw (eC++ps)->aR (λ b=>A.mut b\/b=ag) j D->K (.ret (.tup [.ref ag, .int (iS.length:Int)])) E D
def f2(p i o tk:Nat)(A:cJ)(I:bY)(toks:List Tok)(d:Nat)(aS bn e:Bool)(b5:List Tok)(ps:List a8)(r:List Tok):Prop:=
 ∀ag n pre C j eC K,toks=pre++b5->b5.length<n->oG p i o tk A I toks ag C j eC pre->(e=G->eC.isEmpty=G)->ve A toks ag C j eC ps r K->
  ∀be bc bp bl bU ck ch ct cp cm ci c0,kq (d+5) n (dT A p i o tk (pre.length:Int) aS ag bn be bc bp bl bU ck ch ct cp cm ci c0) j K
section
variable{d n:Nat}{j D:St}{A:cJ}{C aw:bi}{I:bY}{p i o tk ag:Nat}{aS bn e:Bool}{K:bM->ax->St->Prop}{toks pre Pw b5 r:List Tok}{ps eC:List a8}{t u:Tok}{be bc bp bl bU ck ch ct cp cm ci c0:Option V}
theorem ip.put{x:O}(h:ip p i o tk A C I toks j)(a:xG p i o tk A ag):ip p i o tk A C I toks (j.set ag x):=
 have e:aR (λ b=>b=ag) j (j.set ag x):=aR.set rfl
 ⟨h.au.keep e ⟨a.p,a.i,a.o⟩,h.b4.keep e ⟨a.x,rb A a.m⟩,e _ _ h.ak a.tk,h.cK,h.nm⟩
theorem oG.more{x:a8}{w:List Tok}(h:oG p i o tk A I toks ag C j eC pre)(hw:0<w.length)(le:C.le aw)(b:c9 A aw D)(ex:aR A.mut j D)(aJ: ∀t,x= .t t->aw.cv t):
  oG p i o tk A I toks ag aw (D.set ag (.list ((eC++ [x]).map (df aw)))) (eC++ [x]) (pre++w):=
 ⟨(h.st.keep le b ex).put h.g0,aY,λ t aN=>(iG.mp aN).elim (λ m=>le.cv (h.k t m)) λ m=>aJ t (ee.mp m).symm,h.g0,h.iq,by rw[bK,bK];show _+1<=_;have:=h.ln;right⟩
theorem ve.more{x:a8}(q:ve A toks ag C j eC (x::ps) r K)(le:C.le aw)(ex:aR A.mut j D):ve A toks ag aw (D.set ag (.list ((eC++ [x]).map (df aw)))) (eC++ [x]) ps r K:= λ iS kj eL E Y Z aE bv cw hj=>by
 rw[cM]at bv cw
 exact q iS kj eL E Y (le.trans Z) aE bv cw λ b w az m=>hj b w (aC (λ q=>m (.inr q)) (ex b w az λ q=>m (.inl q))) m
theorem oG.b0(h:oG p i o tk A I toks ag C j eC pre)(aN:toks=pre++b5):eC.length<=500:=by
 have Y:=h.ln
 have Z:=h.iq
 rw[aN,bK]at Z
 right
theorem rl{x:a8}{w:List Tok}(aB:f2 p i o tk A I toks d aS U U r ps b5)(h:oG p i o tk A I toks ag C j eC pre)(q:ve A toks ag C j eC (x::ps) b5 K)(aN:toks=pre++(w++r))(hw:0<w.length)(Z:2<=r.length)(aq:r.length<n)
  (le:C.le aw) (b:c9 A aw D) (ex:aR A.mut j D) (aJ: ∀t,x= .t t->aw.cv t) {bg:Nat} (aT:bg=(pre++w).length):
  aK (aD (aj (d+5))) fh (dT A p i o tk (bg:Int) aS ag bn be bc bp bl bU ck ch ct cp cm ci c0) (D.set ag (.list ((eC++ [x]).map (df aw)))) (gW (kq (d+5) n) K):=by
 have c:=h.more hw le b ex aJ
 subst aT
 have s8:toks=(pre++w)++r:=by rw[cM];exact aN
 have ah:toks.length=(pre++w).length+r.length:=by rw[<-bK, <-s8]
 refine aiV c.st.ak c.iq (by right) ?_
 exact aB ag n (pre++w) aw _ _ K s8 aq c nofun (q.more le ex) _ _ _ _ _ _ _ _ _ _ _ _
theorem Px{x:a8}{w:List Tok}(aB:f2 p i o tk A I toks d aS bn U r ps b5)(h:oG p i o tk A I toks ag C j eC pre)(q:ve A toks ag C j eC (x::ps) b5 K)(aN:toks=pre++(w++r))(hw:0<w.length)(aq:r.length<n)
  (aJ: ∀t,x= .t t->C.cv t) {bg:Nat} (aT:bg=(pre++w).length):
  gW (kq (d+5) n) K .cont (dT A p i o tk (bg:Int) aS ag bn be bc bp bl bU ck ch ct cp cm ci c0) (j.set ag (.list ((eC++ [x]).map (df C)))):=by
 have c:=h.more hw .refl h.st.b4 .refl aJ
 subst aT
 rw[JO]
 exact aB ag n (pre++w) C _ _ K (by rw[cM];exact aN) aq c nofun (q.more .refl .refl) _ _ _ _ _ _ _ _ _ _ _ _
theorem Py{s:ai}{hL:Bool}(aq:jP b5 hL s (u::r))(h:oG p i o tk A I toks ag C j eC pre)(aN:toks=pre++b5)
  (q: ∀w g,b5=w++(u::r)->0<w.length->aK (aD (aj (d+5))) (.cons d8 fh) (dT A p i o tk ((pre++w).length:Int) aS ag bn (B (.str (if hL then [113,110,97,109,101]else [110,97,109,101]))) (B (.str s)) (B (.bool g)) (B (dD u)) bU ck ch ct cp cm ci c0) j (gW (kq (d+5) n) K)):
  kq (d+5) (n+1) (dT A p i o tk (pre.length:Int) aS ag bn be bc bp bl bU ck ch ct cp cm ci c0) j K:=by
 cases aq with
 | @nm _ g _=>
  refine va h.st.ak h.iq aN (Io rfl rfl ?_)
  have:=q [_] g rfl jx
  rw[bK]at this
  exact this
 | @gE _ g _=>
  refine va h.st.ak h.iq aN (Io rfl rfl ?_)
  have:=q [_] g rfl jx
  rw[bK]at this
  exact this
 | @Np g _ _=>
  refine va h.st.ak h.iq aN (Pj h.st.ak h.iq aN (.inl ⟨rfl,rfl,rfl⟩) ?_)
  have:=q [_,_] g rfl (hC 1)
  rw[bK]at this
  exact this
 | @Nq g _ _=>
  refine va h.st.ak h.iq aN (Pj h.st.ak h.iq aN (.inr ⟨rfl,rfl,rfl⟩) ?_)
  have:=q [_,_] g rfl (hC 1)
  rw[bK]at this
  exact this
theorem rm(h:oG p i o tk A I toks ag C j eC pre)(aN:toks=pre++t::u::r)(ab:sD aS t.1=U)(ap:BY t.1 u.1=U)
  (q:aK (aD (aj (d+5))) (.cons d8 fh) (dT A p i o tk ((pre++ [t]).length:Int) aS ag bn (B (.str (ew t.1))) (B (eY t.1)) (B (.bool t.2)) (B (dD u)) bU ck ch ct cp cm ci c0) j (gW (kq (d+5) n) K)):
  kq (d+5) (n+1) (dT A p i o tk (pre.length:Int) aS ag bn be bc bp bl bU ck ch ct cp cm ci c0) j K:=by
 refine va h.st.ak h.iq aN (Io ab ap ?_)
 rw[bK]at q
 exact q
end
section
variable{d n:Nat}{j D:St}{A:cJ}{C aw:bi}{I:bY}{p i o tk ag:Nat}{aS bn e:Bool}{K:bM->ax->St->Prop}{toks pre Pw b5 r:List Tok}{ps eC:List a8}{t u:Tok}{be bc bp bl bU ck ch ct cp cm ci c0:Option V}
theorem ajp{Q:V->St->Prop}{k:Nat}(h:ip p i o tk A C I toks j)(q: ∀ag,j ag=J-> ∃n, ∀K,(∀E v D,Q v D->K (.ret v) E D)->kq k n (dT A p i o tk (pre.length:Int) aS ag G J J J J J J J J J J J J) (j.set ag (.list [])) K):
  aj (k+1) 555 [.ref A.x,nr p i o, .ref tk, .int (pre.length:Int), .bool aS] j Q:=by
 refine afx ?_
 unfold kq dT at q
 rw[show iy.body= .cons (.asg (.loc 5) (.lst .nil)) (.cons (.asg (.loc 6) (.ea (.bool G))) (.cons (.gi (.ea (.bool G)) gx) .nil))from rfl]
 generalize gx=b at*
 unfold nr
 left
 intro ag bS
 obtain⟨n,q⟩:=q ag bS
 left
 refine⟨n,q _ λ E v D bF=>?_⟩
 left
 exact bF
theorem ip.g0(h:ip p i o tk A C I toks j)(bS:j ag=J):xG p i o tk A ag:=
 ⟨a0 h.au.p bS,a0 h.au.i bS,a0 h.au.o bS,a0 h.ak bS,a0 h.b4.x bS,h.b4.apart bS⟩
theorem xH(m:f2 p i o tk A I toks d aS G G b5 ps r)(aN:toks=pre++b5)(ah:toks.length<=500)(fE:Nat)(aT:fE=toks.length - r.length):Ir (d+6) p i o tk A I toks aS pre.length fE ps:= λ C j Q h q=>
 ajp (k:=d+5) h λ ag bS=>⟨b5.length+1,λ K tf=>m ag _ pre C _ [] K aN (k7 _) ⟨h.put (h.g0 bS),aY,(λ _ h=>nomatch h),h.g0 bS,ah,eh _⟩ (λ _=>rfl) (λ iS aw D E Y Z aE bv cw hj=>by
  refine tf E _ D ?_
  have e:iS.length=fE:=by rw[aT,Y,bK,BR]
  rw[e]
  exact q aw ag D Z aE bS bv cw λ b w az i8=>hj b w (aC (a0 az bS) az) λ q=>q.elim i8 (a0 az bS)) _ _ _ _ _ _ _ _ _ _ _ _⟩
noncomputable def rn:ef:=match rL.body with| .cons _ (.cons _ (.cons (.gi _ b) _))=>b|_=> .nil
noncomputable def ti(A:cJ)(p i o tk:Nat)(bg:Int)(cl ag l:Nat)(be bc:Option V):ax:=
 [B (.ref A.x),B (.tup [.ref p, .ref i, .ref o]),B (.ref tk),B (.int bg),B (.str [cl]),B (.ref ag),B (.str (pU l)),be,bc]
abbrev vf(k n:Nat):dz:=ep (dF (aD (aj k)) (.ea (.bool G))) (aK (aD (aj k)) rn) n
def tj(p i o tk:Nat)(A:cJ)(I:bY)(toks:List Tok)(d cl l:Nat)(b5:List Tok)(au:List T)(cS:Nat)(r:List Tok):Prop:=
 ∀ag n pre C j (jc:List T) K,toks=pre++b5->b5.length<n->ip p i o tk A C I toks j->j ag=B (.list (jc.map C.enc))->(∀t∈jc,C.cv t)->xG p i o tk A ag->toks.length<=500->jc.length<=pre.length->(l=0\/l=44\/l=124)->
  (∀iS aw D E,toks=iS++r->C.le aw->c9 A aw D->D ag=B (.list ((jc++au).map aw.enc))->(∀t∈jc++au,aw.cv t)->aR (λ b=>A.mut b\/b=ag) j D->K (.ret (.tup [.ref ag, .str (pU cS), .int (iS.length:Int)])) E D)->
  ∀be bc,vf (d+5) n (ti A p i o tk (pre.length:Int) cl ag l be bc) j K
theorem ajq{Q:V->St->Prop}{k cl:Nat}(h:ip p i o tk A C I toks j)(q: ∀ag,j ag=J-> ∃n, ∀K,(∀E v D,Q v D->K (.ret v) E D)->vf k n (ti A p i o tk (pre.length:Int) cl ag 0 J J) (j.set ag (.list [])) K):
  aj (k+1) 550 [.ref A.x,nr p i o, .ref tk, .int (pre.length:Int), .str [cl]] j Q:=by
 refine afw ?_
 unfold vf ti at q
 rw[show rL.body= .cons (.asg (.loc 5) (.lst .nil)) (.cons (.asg (.loc 6) (.ea (.str [110,111,110,101]))) (.cons (.gi (.ea (.bool G)) rn) .nil))from rfl]
 generalize rn=b at*
 unfold nr
 left
 intro ag bS
 obtain⟨n,q⟩:=q ag bS
 left
 refine⟨n,q _ λ E v D bF=>?_⟩
 left
 exact bF
theorem Pz{cl cS:Nat}{au:List T}(m:tj p i o tk A I toks d cl 0 b5 au cS r)(aN:toks=pre++b5)(ah:toks.length<=500)(bg fE:Nat)(co:bg=pre.length)(aT:fE=toks.length - r.length):It (d+6) p i o tk A I toks cl bg fE cS au:= λ C j Q h q=>by
 subst co
 exact ajq (k:=d+5) h λ ag bS=>⟨b5.length+1,λ K tf=>m ag _ pre C _ [] K aN (k7 _) (h.put (h.g0 bS)) aY (λ _ h=>nomatch h) (h.g0 bS) ah (eh _) (.inl rfl) (λ iS aw D E Y Z aE bv cw hj=>by
  refine tf E _ D ?_
  have e:iS.length=fE:=by rw[aT,Y,bK,BR]
  rw[e]
  exact q aw ag D Z aE bS bv cw λ b w az i8=>hj b w (aC (a0 az bS) az) λ q=>q.elim i8 (a0 az bS)) _ _⟩
end
section
variable{k d n:Nat}{j D:St}{A:cJ}{C aw:bi}{I:bY}{p i o tk ag:Nat}{aS bn e:Bool}{K:bM->ax->St->Prop}{toks pre Pw b5 r:List Tok}{gg:List a8}{t:T}{u:Tok}{be bc:Option V}
theorem ajr{au:List T}{x:T}(h:j ag=B (.list (au.map C.enc)))(ah:au.length<ay){Q:V->St->Prop}(q:Q .none (j.set ag (.list ((au++ [x]).map C.enc)))):mz ag 0 [C.enc x] j Q:=by
 refine oe h (by rw[c2];exact ah) ?_
 rw[fO]at q;exact q
theorem PA{bg fE cl l m:Nat}{g:Bool}{jc:List T}(h:ip p i o tk A C I toks j)(bS:j ag=B (.list (jc.map C.enc)))(ak: ∀t∈jc,C.cv t)(g0:xG p i o tk A ag)(cw:toks.length<=500)(ah:jc.length<=500)(pV:l=0\/l=44\/l=124)
  (rec:Ir (k+4) p i o tk A I toks G bg fE gg) (aN:toks[fE]?=B (.pu m,g)) (co:gg.length<=500) (bE: ∀s,a8.nm s∈gg->s∈di) (aO:hG I gg 999=B t)
  (q: ∀aw D be bc,C.le aw->ip p i o tk A aw I toks D->(∀x∈jc++ [t],aw.cv x)->D ag=B (.list ((jc++ [t]).map aw.enc))->aR (λ b=>A.mut b\/b=ag) j D->
   (m=cl/\K (.ret (.tup [.ref ag, .str (pU l), .int ((fE+1:Nat):Int)])) (ti A p i o tk (fE:Int) cl ag l be bc) D)\/(m≠cl/\(m=44\/m=124)/\l≠124/\K .next (ti A p i o tk ((fE+1:Nat):Int) cl ag m be bc) D)):
  aK (aD (aj (k+4))) rn (ti A p i o tk (bg:Int) cl ag l be bc) j K:=by
 have ao:((fE+1:Nat):Int)=(fE:Int)+1:=rfl
 rw[ao]at q
 unfold ti at*
 dsimp only[rn,rL]
 left
 refine rec C j _ h λ dy bf aP jA cq rk xE nt jb=>?_
 left
 refine kh ?_;left
 have ga:=h.keep jA cq jb
 have B3:aP ag=B (.list (jc.map C.enc)):=jb _ _ bS g0.m
 refine dH B3 (by decide) ?_;left
 refine Ij (dN:=999) ⟨ga.au,cq,xE,nt,bE,co,⟨h.nm.1,h.nm.2.1,h.nm.2.2.1,h.b4.apart rk⟩⟩ λ gv bA kW dX xD nu=>?_
 have hg:=ga.keep kW dX nu
 have le:=jA.trans kW
 rw[aO]
 have jO:gv.cv t:=xD t aO
 unfold BV
 left
 have pN:bA ag=B (.list (jc.map gv.enc)):=by
  rw[q0 λ x aJ=>le.enc (ak x aJ)]
  exact nu _ _ B3 g0.m
 refine ajr pN (dP ah (by decide+kernel)) ?_
 have u3:=hg.put (x:= .list ((jc++ [t]).map gv.enc)) g0
 have q:= λ be bc=>q gv _ be bc le u3 (λ x aJ=>(iG.mp aJ).elim (λ m=>le.cv (ak x m)) λ m=>by rw[ee.mp m];exact jO) aY
  (λ b w az m=>aC (λ q=>m (.inr q)) (nu _ _ (jb _ _ az λ q=>m (.inl q)) λ q=>m (.inl q)))
 generalize bA.set ag (.list ((jc++ [t]).map gv.enc))=dR at*
 left
 refine ri u3.ak cw aN ?_;left
 rw[td,show eY (.pu m)= .str [m]from rfl];left
 refine ri u3.ak cw aN ?_;left
 rw[pR];walk_at "x"
 rw[kT]
 rcases q (B (.ref bf)) (B (.str [m]))with⟨aG,q⟩|⟨aG,PB,gB,q⟩
 .rw[ce aG];left
  exact q
 .rw[bW aG];left
  refine ri u3.ak cw aN ?_;left
  rw[pR];walk_at "x"
  have ap:((decide (([44]:ai)=[m])||(decide (([124]:ai)=[m])||false)) !=G)=U:=by rcases PB with rfl|rfl<;>rfl
  rw[ap];left
  rw[Pt pV,bW gB];left
  have:pU m=[m]:=by rcases PB with rfl|rfl<;>rfl
  rw[this]at q
  exact q
end
section
variable{A:cJ}{I:bY}{p i o tk:Nat}{toks:List Tok}
theorem lH{m n:Nat}(h:m<n): ∃k,n=k+1/\m<=k:=⟨n - 1,(Nk (dP (eh _) h)).symm,aes h⟩
theorem PC{s:ai}{C:bi}: ∀t,a8.nm s= .t t->C.cv t:=nofun
theorem ro{C:bi}{x:T}(h:C.cv x): ∀t,a8.t x= .t t->C.cv t:= λ t e=>by injection e with e;rw[<-e];exact h
theorem B7{pre w r:List Tok}{t:Tok}(h:toks=pre++(w++t::r)):toks[toks.length - (t::r).length]?=B t:=by
 have:toks.length - (t::r).length=(pre++w).length:=by rw[h, <-cM,bK,BR]
 rw[this,h, <-cM,sr (dt _),H4];rfl
theorem vg{pre w r:List Tok}(h:toks=pre++(w++r)):toks.length - r.length=(pre++w).length:=by
 rw[h, <-cM,bK,BR]
theorem PD{k n:Nat}{E:ax}{j:St}{K:bM->ax->St->Prop}(h:aK (aD (aj k)) rn E j (gW (vf k n) K)):vf k (n+1) E j K:=by
 unfold vf at*
 rw[j1]
 generalize ep (dF (aD (aj k)) (.ea (.bool G))) (aK (aD (aj k)) rn) n=gZ at*
 generalize rn=b at*
 left
 exact h
theorem PE{c:Nat}{u:cz}(h:c=91/\u≠ .pu 93\/c=123/\u≠ .pu 125):BY (.pu c) u=U:=by
 cases u with
 |pu b=>
  show(decide (([91,93]:ai)=[c,b])||decide (([123,125]:ai)=[c,b]))=U
  rw[rY]
  rcases h with⟨rfl,h⟩|⟨rfl,h⟩
  .exact ⟨bW λ q=>h (by injection q with _ q;injection q with q;rw[q]),bW nofun⟩
  .exact ⟨bW nofun,bW λ q=>h (by injection q with _ q;injection q with q;rw[q])⟩
 |_=>rfl
theorem ajs{d:Nat}{aS bn e:Bool}{t u:Tok}{r:List Tok}(ab:sD aS t.1=G):f2 p i o tk A I toks d aS bn e (t::u::r) [] (t::u::r):= λ ag n pre C j eC K aN aq c aF q be bc bp bl bU ck ch ct cp cm ci c0=>by
 obtain⟨n,rfl,aq⟩:=lH aq
 refine va c.st.ak c.iq aN (aiT ab ?_)
 rw[Et]
 exact q pre C j _ aN .refl c.st.b4 (by rw[dV];exact c.d) (by rw[dV];exact c.k) .refl
theorem ajt{d:Nat}{aS bn e q:Bool}{b5 r a5 cj:List Tok}{s:ai}{au:List T}{t:T}{l:Nat}{ps:List a8}(ni:jP b5 q s ((.pu 40,G)::r))(ab:s∈di)(hw:(bn=G\/I.inf.lookup s=J))(aG:iJ I d 41 0 r au l a5)(bb:(∀x∈au,x.ay<=29))(ah:l≠124)(aI:uF s au=B t)(Z:2<=a5.length)(h:dd I (d+1) aS U U a5 ps cj)(Iw:tj p i o tk A I toks d 41 0 r au l a5)(aB:f2 p i o tk A I toks (d+1) aS U U a5 ps cj):f2 p i o tk A I toks (d+1) aS bn e b5 (.t t::ps) cj:= λ ag n pre C j eC K aN aq c aF q be bc bp bl bU ck ch ct cp cm ci c0=>by
 obtain⟨n,rfl,aq⟩:=lH aq
 refine Py ni c aN λ w g vh xk=>?_
 obtain⟨dZ,aH,jK⟩:=aG.oa
 have hM:toks=(pre++w)++((cz.pu 40,G)::(dZ++a5)):=by rw[aN,vh,aH,cM]
 have lI:toks=pre++((w++(cz.pu 40,G)::dZ)++a5):=by rw[hM,cM,cM];rfl
 have jG:toks.length - a5.length=(pre++(w++(cz.pu 40,G)::dZ)).length:=vg lI
 have nv:=Pz (pre:=pre++w++ [(cz.pu 40,G)]) Iw (by rw[hM, <-aH];simp only[cM,jz,pI]) c.iq ((pre++w).length+1) _ (by rw[bK (as:=pre++w)];rfl) rfl
 refine ajf c.st c.d (c.b0 aN) c.g0.m c.k ab hw nv bb ah aG.last aI λ aw D bU ck ch le b jO ex=>?_
 refine rl (w:=w++(cz.pu 40,G)::dZ) aB c q lI (by rw[bK,el];right) Z ?_ le b ex (ro jO) jG
 have:=congrArg n5 (aN.symm.trans lI)
 simp only[bK,el]at this
 right
theorem aju{d:Nat}{aS e g:Bool}{m:Nat}{a5 Ix:List Tok}{ps:List a8}(Z:2<=a5.length)(h:dd I d aS U U a5 ps Ix)(aB:f2 p i o tk A I toks d aS U U a5 ps Ix):f2 p i o tk A I toks d aS G e ((.nm [45],g)::(.it m,G)::a5) (.t (.i (-(m:Int)))::ps) Ix:= λ ag n pre C j eC K aN aq c aF q be bc bp bl bU ck ch ct cp cm ci c0=>by
 obtain⟨n,rfl,aq⟩:=lH aq
 refine rm c aN rfl rfl ?_
 refine ai3 c.d (c.b0 aN) ?_
 exact rl (w:=[_,_]) aB c q aN (hC 1) Z (by simp only[el]at aq;right) .refl c.st.b4 .refl (ro trivial) (by rw[bK,bK];rfl)
theorem ajv{d:Nat}{aS e g:Bool}{xI:Nat}{t:Tok}{r cj:List Tok}{ps:List a8}(ap:xI=44\/xI=124)(aA:(e=G/\sF t.1=G\/I.inf.lookup [xI]=J))(bE:t≠(.pu 40,G))(Z:2<=(t::r).length)(h:dd I d aS U U (t::r) ps cj)(aB:f2 p i o tk A I toks d aS U U (t::r) ps cj):f2 p i o tk A I toks d aS G e ((.gE [xI],g)::t::r) (.t (.a [xI])::ps) cj:= λ ag n pre C j eC K aN aq c aF q be bc bp bl bU ck ch ct cp cm ci c0=>by
 obtain⟨n,rfl,aq⟩:=lH aq
 refine rm c aN rfl rfl ?_
 refine ai5 c.st.b4 c.st.au c.d (c.b0 aN) c.g0.m c.k ap bE (aA.imp (λ q=>⟨aF q.1,q.2⟩) id) λ aw D ct cp le b m s=>?_
 exact rl (w:=[_]) aB c q aN jx Z (by simp only[el]at aq ⊢;right) le b s.ex (ro m) rfl
theorem ajw{d:Nat}{aS bn e g:Bool}{m:Nat}{r cj:List Tok}{ps:List a8}(Z:2<=r.length)(h:dd I d aS U U r ps cj)(aB:f2 p i o tk A I toks d aS U U r ps cj):f2 p i o tk A I toks d aS bn e ((.it m,g)::r) (.t (.i (m:Int))::ps) cj:= λ ag n pre C j eC K aN aq c aF q be bc bp bl bU ck ch ct cp cm ci c0=>by
 obtain⟨n,rfl,aq⟩:=lH aq
 obtain⟨u,a5,rfl⟩:=tl (hB sB Z)
 refine rm c aN rfl rfl ?_
 refine ai1 c.d (c.b0 aN) ?_
 exact rl (w:=[_]) aB c q aN jx Z (by simp only[el]at aq ⊢;right) .refl c.st.b4 .refl (ro trivial) rfl
theorem ajx{d:Nat}{aS bn e g:Bool}{s:ai}{r cj:List Tok}{ps:List a8}(Z:2<=r.length)(h:dd I d aS U U r ps cj)(aB:f2 p i o tk A I toks d aS U U r ps cj):f2 p i o tk A I toks d aS bn e ((.aX s,g)::r) (.t (.n s)::ps) cj:= λ ag n pre C j eC K aN aq c aF q be bc bp bl bU ck ch ct cp cm ci c0=>by
 obtain⟨n,rfl,aq⟩:=lH aq
 obtain⟨u,a5,rfl⟩:=tl (hB sB Z)
 refine rm c aN rfl rfl ?_
 refine ai2 c.d (c.b0 aN) ?_
 exact rl (w:=[_]) aB c q aN jx Z (by simp only[el]at aq ⊢;right) .refl c.st.b4 .refl (ro trivial) rfl
theorem ajy{d:Nat}{aS bn e g gp:Bool}{r a5 cj:List Tok}{gg ps:List a8}{t:T}(aT:dd I d U G G r gg ((.pu 41,gp)::a5))(aO:hG I gg 1200=B t)(Z:2<=a5.length)(h:dd I (d+1) aS U U a5 ps cj)(tm:f2 p i o tk A I toks d U G G r gg ((.pu 41,gp)::a5))(aB:f2 p i o tk A I toks (d+1) aS U U a5 ps cj):f2 p i o tk A I toks (d+1) aS bn e ((.pu 40,g)::r) (.t t::ps) cj:= λ ag n pre C j eC K aN aq c aF q be bc bp bl bU ck ch ct cp cm ci c0=>by
 obtain⟨n,rfl,aq⟩:=lH aq
 obtain⟨⟨dZ,aH,jK⟩,un⟩:=aT.oa
 obtain⟨u,ajz,sw⟩:=uS (show r≠ []by rw[aH];exact HD _ nofun)
 have hM:toks=pre++([(cz.pu 40,g)]++dZ++(cz.pu 41,gp)::a5):=by rw[aN,aH];rfl
 have lI:toks=pre++(([(cz.pu 40,g)]++dZ++ [(cz.pu 41,gp)])++a5):=by rw[hM,cM ([(cz.pu 40,g)]++dZ)];rfl
 have jS:=vg hM
 have PF:=c.iq
 have pY:=congrArg n5 hM
 simp only[bK,el,jM]at pY
 have nv:=xH (pre:=pre++ [(cz.pu 40,g)]) tm (by rw[aN,cM];rfl) c.iq _ rfl
 rw[sw]at aN
 refine rm c aN (by cases aS<;>rfl) (by obtain⟨u,Iy⟩:=u;cases u<;>rfl) ?_
 refine Ps c.st c.d (c.b0 aN) c.g0.m c.k (.inl ⟨rfl,rfl,rfl⟩) nv (B7 hM) c.iq (by right) un aO λ aw D ch cm le b jO ex=>?_
 refine rl (w:=[(cz.pu 40,g)]++dZ++ [(cz.pu 41,gp)]) aB c q lI (by simp only[bK,el];right) Z ?_ le b ex (ro jO) (by rw[jS];simp only[bK,el,jM];right)
 have:=congrArg n5 aH
 simp only[bK,el]at this aq
 right
theorem ajA{d:Nat}{aS bn e g gp:Bool}{u:Tok}{r a5 cj:List Tok}{gg ps:List a8}{t:T}(bE:u.1≠ .pu 125)(aT:dd I d U G G (u::r) gg ((.pu 125,gp)::a5))(aO:hG I gg 1200=B t)(Z:2<=a5.length)(h:dd I (d+1) aS U U a5 ps cj)(tm:f2 p i o tk A I toks d U G G (u::r) gg ((.pu 125,gp)::a5))(aB:f2 p i o tk A I toks (d+1) aS U U a5 ps cj):f2 p i o tk A I toks (d+1) aS bn e ((.pu 123,g)::u::r) (.t (.bf [123,125] t)::ps) cj:= λ ag n pre C j eC K aN aq c aF q be bc bp bl bU ck ch ct cp cm ci c0=>by
 obtain⟨n,rfl,aq⟩:=lH aq
 obtain⟨⟨dZ,aH,jK⟩,un⟩:=aT.oa
 have hM:toks=pre++([(cz.pu 123,g)]++dZ++(cz.pu 125,gp)::a5):=by rw[aN,aH];rfl
 have lI:toks=pre++(([(cz.pu 123,g)]++dZ++ [(cz.pu 125,gp)])++a5):=by rw[hM,cM ([(cz.pu 123,g)]++dZ)];rfl
 have jS:=vg hM
 have PF:=c.iq
 have pY:=congrArg n5 hM
 simp only[bK,el,jM]at pY
 have nv:=xH (pre:=pre++ [(cz.pu 123,g)]) tm (by rw[aN,cM];rfl) c.iq _ rfl
 refine rm c aN (by cases aS<;>rfl) (by obtain⟨u,Iy⟩:=u;exact PE (.inr ⟨rfl,bE⟩)) ?_
 refine Ps c.st c.d (c.b0 aN) c.g0.m c.k (.inr ⟨rfl,rfl,rfl⟩) nv (B7 hM) c.iq (by right) un aO λ aw D ch cm le b jO ex=>?_
 refine rl (w:=[(cz.pu 123,g)]++dZ++ [(cz.pu 125,gp)]) aB c q lI (by simp only[bK,el];right) Z ?_ le b ex (ro jO) (by rw[jS];simp only[bK,el,jM];right)
 have:=congrArg n5 aH
 simp only[bK,el]at this aq
 right
theorem ajB{d:Nat}{aS bn e g:Bool}{u:Tok}{r a5 cj:List Tok}{au:List T}{t:T}{l:Nat}{ps:List a8}(bE:u.1≠ .pu 93)(aG:iJ I d 93 0 (u::r) au l a5)(bb:(∀x∈au,x.ay<=29))(aI:sE (decide (l=124)) au=B t)(Z:2<=a5.length)(h:dd I (d+1) aS U U a5 ps cj)(Iw:tj p i o tk A I toks d 93 0 (u::r) au l a5)(aB:f2 p i o tk A I toks (d+1) aS U U a5 ps cj):f2 p i o tk A I toks (d+1) aS bn e ((.pu 91,g)::u::r) (.t t::ps) cj:= λ ag n pre C j eC K aN aq c aF q be bc bp bl bU ck ch ct cp cm ci c0=>by
 obtain⟨n,rfl,aq⟩:=lH aq
 obtain⟨dZ,aH,jK⟩:=aG.oa
 have lI:toks=pre++(([(cz.pu 91,g)]++dZ)++a5):=by rw[aN,aH];rfl
 have jS:=vg lI
 have PF:=c.iq
 have pY:=congrArg n5 lI
 simp only[bK,el,jM]at pY
 have nv:=Pz (pre:=pre++ [(cz.pu 91,g)]) Iw (by rw[aN,cM];rfl) c.iq _ _ rfl rfl
 refine rm c aN (by cases aS<;>rfl) (by obtain⟨u,Iy⟩:=u;exact PE (.inl ⟨rfl,bE⟩)) ?_
 refine ajo c.st c.d (c.b0 aN) c.g0.m c.k nv bb aG.last (by right) aI λ aw D bU ck ch ci le b jO ex=>?_
 refine rl (w:=[(cz.pu 91,g)]++dZ) aB c q lI (by simp only[bK,el];right) Z ?_ le b ex (ro jO) jS
 have:=congrArg n5 aH
 simp only[bK,el]at this aq
 right
theorem ajC{d:Nat}{aS bn e q:Bool}{b5 r cj:List Tok}{s:ai}{t:Tok}{ps:List a8}(ni:jP b5 q s (t::r))(ab:s∈di)(co:(q=G->s≠ [44]/\s≠ [124]))(bE:(t=(.pu 40,G)->bn=U/\(I.inf.lookup s).isSome=G))(aG:(bn=G->q=U->s=[45]-> ∀n,t≠(.it n,G)))(Z:2<=(t::r).length)(h:dd I d aS (if bn then I.op s else(I.post.lookup s).isNone) U (t::r) ps cj)(aB:f2 p i o tk A I toks d aS (if bn then I.op s else(I.post.lookup s).isNone) U (t::r) ps cj):f2 p i o tk A I toks d aS bn e b5 (.nm s::ps) cj:= λ ag n pre C j eC K aN aq c aF q be bc bp bl bU ck ch ct cp cm ci c0=>by
 obtain⟨n,rfl,aq⟩:=lH aq
 refine Py ni c aN λ w g vh xk=>?_
 refine aja c.st.au c.d (c.b0 aN) co bE aG ?_
 exact Px aB c q (by rw[aN,vh]) xk (by rw[vh,bK]at aq;right) PC rfl
theorem ajD{d:Nat}{bn e g:Bool}{c:Nat}{r cj:List Tok}{ps:List a8}(ap:c=44\/c=124)(Z:2<=r.length)(h:dd I d U (if bn then I.op [c]else(I.post.lookup [c]).isNone) U r ps cj)(aB:f2 p i o tk A I toks d U (if bn then I.op [c]else(I.post.lookup [c]).isNone) U r ps cj):f2 p i o tk A I toks d U bn e ((.pu c,g)::r) (.nm [c]::ps) cj:= λ ag n pre C j eC K aN aq c aF q be bc bp bl bU ck ch ct cp cm ci c0=>by
 obtain⟨n,rfl,aq⟩:=lH aq
 obtain⟨u,a5,rfl⟩:=tl (hB sB Z)
 refine rm c aN (by rcases ap with rfl|rfl<;>rfl) (by obtain⟨u,Iy⟩:=u;rcases ap with rfl|rfl<;>cases u<;>rfl) ?_
 refine ajc c.st.au c.d (c.b0 aN) ap ?_
 exact Px (w:=[_]) aB c q aN jx (by simp only[el]at aq ⊢;right) PC rfl
theorem ajE{d cl l:Nat}{g:Bool}{b5 r:List Tok}{ps:List a8}{t:T}(aT:dd I d G G G b5 ps ((.pu cl,g)::r))(aO:hG I ps 999=B t)(tm:f2 p i o tk A I toks d G G G b5 ps ((.pu cl,g)::r)):tj p i o tk A I toks (d+1) cl l b5 [t] l r:= λ ag n pre C j jc K aN aq h bS ak g0 cw ah pV q be bc=>by
 obtain⟨n,rfl,aq⟩:=lH aq
 obtain⟨⟨dZ,aH,jK⟩,un⟩:=aT.oa
 have hM:toks=pre++(dZ++(cz.pu cl,g)::r):=by rw[aN,aH]
 have jS:=vg hM
 have pY:=congrArg n5 hM
 simp only[bK,el]at pY
 have nv:=xH (pre:=pre) tm aN cw _ rfl
 refine PD ?_
 refine PA h bS ak g0 cw (by right) pV nv (B7 hM) (by right) un aO λ aw D be bc le rU f5 tn ex=> .inl ⟨rfl,?_⟩
 have lw:(pre++dZ).length+1=(pre++dZ++ [(cz.pu cl,g)]).length:=by rw[bK (as:=pre++dZ)];rfl
 rw[Et,jS,lw]
 exact q (pre++dZ++ [(cz.pu cl,g)]) aw D _ (by rw[hM];simp only[cM,jz,pI]) le rU.b4 tn f5 ex
theorem ajF{d cl l m cS:Nat}{g:Bool}{b5 r cj:List Tok}{ps:List a8}{t:T}{au:List T}(aT:dd I d G G G b5 ps ((.pu m,g)::r))(aO:hG I ps 999=B t)(aG:m=44\/m=124)(ap:m≠cl)(gB:l≠124)(J2:iJ I (d+1) cl m r au cS cj)(tm:f2 p i o tk A I toks d G G G b5 ps ((.pu m,g)::r))(ajG:tj p i o tk A I toks (d+1) cl m r au cS cj):tj p i o tk A I toks (d+1) cl l b5 (t::au) cS cj:= λ ag n pre C j jc K aN aq h bS ak g0 cw ah pV q be bc=>by
 obtain⟨n,rfl,aq⟩:=lH aq
 obtain⟨⟨dZ,aH,jK⟩,un⟩:=aT.oa
 have hM:toks=pre++(dZ++(cz.pu m,g)::r):=by rw[aN,aH]
 have jS:=vg hM
 have pY:=congrArg n5 hM
 simp only[bK,el]at pY
 have nv:=xH (pre:=pre) tm aN cw _ rfl
 refine PD ?_
 refine PA h bS ak g0 cw (by right) pV nv (B7 hM) (by right) un aO λ aw D be bc le rU f5 tn ex=> .inr ⟨ap,aG,gB,?_⟩
 have lI:toks=(pre++dZ++ [(cz.pu m,g)])++r:=by rw[hM];simp only[cM,jz,pI]
 have lw:toks.length - ((cz.pu m,g)::r).length+1=(pre++dZ++ [(cz.pu m,g)]).length:=by rw[jS,bK (as:=pre++dZ)];rfl
 rw[rS,lw]
 have ajH:=congrArg n5 aH
 simp only[bK,el]at ajH
 refine ajG ag n (pre++dZ++ [(cz.pu m,g)]) aw D (jc++ [_]) K lI (by right) rU tn f5 g0 cw (by simp only[bK,el,jM];right) (.inr aG) (λ iS kj eL E Y Z aE bv cw hj=>?_) be bc
 rw[cM]at bv cw
 exact q iS kj eL E Y (le.trans Z) aE bv cw (ex.trans hj)
theorem ajI{d:Nat}{aS bn e:Bool}{b5 r:List Tok}{ps:List a8}(h:dd I d aS bn e b5 ps r):f2 p i o tk A I toks d aS bn e b5 ps r:=
 dd.rec (motive_1:= λ d aS bn e b5 ps r _=>f2 p i o tk A I toks d aS bn e b5 ps r) (motive_2:= λ d cl l b5 au cS r _=>tj p i o tk A I toks d cl l b5 au cS r) ajs ajt aju ajv ajw ajx ajy ajA ajB ajC ajD ajE ajF h
end
section
variable{k:Nat}{j D:St}{A:cJ}{C aw:bi}{O:fs}{b4 op:Nat}
def lJ(O:fs):Nat->Prop:= λ b=>b=O.p\/b=O.i\/b=O.o
structure rp(O:fs)(A:cJ):Prop where
 x: ¬lJ O A.x
 m: ∀b,A.mut b-> ¬lJ O b
 B8: ¬A.mut O.x
 op: ¬A.mut O.p
 PG: ¬A.mut O.i
 mu: ¬A.mut O.o
theorem rp.keep(a:rp O A)(h:c9 A C j)(e:aR (lJ O) j D):c9 A C D:=
 h.keep e ⟨a.x,a.m _ (.inl rfl),a.m _ (.inr (.inl rfl)),a.m _ (.inr (.inr (.inl rfl))),a.m _ (.inr (.inr (.inr rfl)))⟩
noncomputable def rq:ef:=match kC.body with| .cons _ (.cons _ (.cons _ (.cons _ (.cons _ (.cons (.hy _ _ (.cons (.vv _ _ _ b) _)) _)))))=>b|_=> .nil
noncomputable def jd(cD:List Int)(a iN n p i o B8:Nat)(gy be bc:Option V):ax:=
 [B (.fi (cD.map .int)),B (.ref a),B (.ref iN),B (.ref n),B (nr p i o),B (.ref B8),gy,be,bc,J,J,J,J,J,J,J,J,J,J]
theorem PH{cD:List Int}{a n p i o:Nat}{R:List (a2×V)->St->Prop}{ok:cb->Prop}{cn:List (a2×V)}{s:ai}{e:cb}{K:bM->ax->St->Prop}{gy:Option V}{bL:Nat}{F:List (Nat×V)}(gK:rp O A)
  (hm: ∀{cn j D},R cn j->aR A.mut j D->R cn D)
  (hY: ∀{cn j},R cn j-> ∃bL F,j O.x=B (.inst 287 bL F)/\F.lookup 21=J)
  (add: ∀{cn:List (a2×V)} {n:Int} {e:cb} {j:St} {Q:V->St->Prop},R cn j->ok e->eg cn (.i n)=G->cn.length<ay->(∀D,R (ha cn (.i n) (fC e)) D->aR (lJ O) j D->Q .none D)->aj (k+3) 277 [.ref O.x, .int (e.1:Int), .str e.2, .int n] j Q)
  (az:c9 A C j) (aO:R cn j) (aF:ok e) (ab:s∈di) (aA: ∀n:Int,eg cn (.i n)=G) (ah:cn.length<ay)
  (q: ∀aw D,C.le aw->c9 A aw D->s∈aw.texts->R (ha cn (.i (aw.no s:Int)) (fC e)) D->aR (λ b=>A.mut b\/lJ O b) j D->K .next (jd cD a A.x n p i o O.x gy (B (.str s)) (B (fC e))) D):
  aK (aD (aj (k+3))) rq (jd cD a A.x n p i o O.x gy (B (.str s)) (B (fC e))) j K:=by
 unfold jd at*
 dsimp only[rq,kC]
 obtain⟨bL,F,aJ,tV⟩:=hY aO
 unfold fC at*
 left
 refine cc aJ rfl tV (f:=277) rfl ?_;left
 refine cc az.x rfl rfl (f:=56) rfl ?_;left
 refine uM az ab λ aw aP le cq m bt=>?_
 left
 refine add (hm aO bt.ex) aF (aA _) ah λ bA Z aH=>?_
 left
 exact q aw bA le (gK.keep cq aH) m Z ((bt.ex.mono λ _=> .inl).trans (aH.mono λ _=> .inr))
theorem ajJ{l:List (ai×cb)}{s:ai}{e:cb}(h:s ∉ l.map (·.1))(k: ∀x∈l,x.1∈C.texts)(m:s∈C.texts):ha (gu C l) (.i (C.no s:Int)) (fC e)=gu C (l++ [(s,e)]):=by
 rw[sA (by rw[qZ m k,BB h];rfl)]
 unfold gu;rw[fO];rfl
theorem ajK{cD:List Int}{a n p i o:Nat}{R:List (a2×V)->St->Prop}{ok:cb->Prop}{K:bM->ax->St->Prop}{gy:Option V}(gK:rp O A)
  (hm: ∀{cn j D},R cn j->aR A.mut j D->R cn D)
  (hY: ∀{cn j},R cn j-> ∃bL F,j O.x=B (.inst 287 bL F)/\F.lookup 21=J)
  (add: ∀{cn:List (a2×V)} {n:Int} {e:cb} {j:St} {Q:V->St->Prop},R cn j->ok e->eg cn (.i n)=G->cn.length<ay->(∀D,R (ha cn (.i n) (fC e)) D->aR (lJ O) j D->Q .none D)->aj (k+3) 277 [.ref O.x, .int (e.1:Int), .str e.2, .int n] j Q): ∀(l done:List (ai×cb)) (C:bi) (j:St) (be bc:Option V),c9 A C j->R (gu C done) j->(∀x∈done,x.1∈C.texts)->((done++l).map (·.1)).Nodup->(∀e∈l,ok e.2/\e.1∈di)->done.length+l.length<=1000->
   (∀aw D be bc,C.le aw->c9 A aw D->R (gu aw (done++l)) D->(∀x∈done++l,x.1∈aw.texts)->aR (λ b=>A.mut b\/lJ O b) j D->K .next (jd cD a A.x n p i o O.x gy be bc) D)->
   mH 7 8 (aK (aD (aj (k+3))) rq) ((eB l).map λ x=> .tup [x.1.val,x.2]) (jd cD a A.x n p i o O.x gy be bc) j K:=by
 intro b0;induction b0 with
 |nil=>
  intro done C j be bc az aO ak aq aF ah q
  exact⟨trivial,q C j be bc .refl az (by rw[dV];exact aO) (by rw[dV];exact ak) .refl⟩
 |cons bm l aB=>
  obtain⟨s,e⟩:=bm;intro done C j be bc az aO ak aq aF ah q
  have ab:s ∉ done.map (·.1):= λ m=>by
   rw[fO]at aq
   exact(uL.mp aq).2.2 s m s (eT ..) rfl
  refine⟨trivial,?_⟩
  have bX:=aF (s,e) (eT ..)
  rw[el]at ah
  refine PH (R:=R) (ok:=ok) (cn:=gu C done) (cD:=cD) (a:=a) (n:=n) (p:=p) (i:=i) (o:=o) (gy:=gy) (s:=s) (e:=e) (bL:=0) (F:=[]) gK hm hY add az aO bX.1 bX.2 (λ n=>qY) (by unfold gu;rw[c2];exact dP (show _<=1000 by right) (by decide+kernel)) λ aw D le gJ m cj ex=>?_
  rw[<-uQ le ak,ajJ ab (λ x aJ=>le.mem (ak x aJ)) m]at cj
  rw[rS]
  refine aB (done++ [(s,e)]) aw D _ _ gJ cj (λ x aJ=>(iG.mp aJ).elim (λ q=>le.mem (ak x q)) λ q=>by rw[ee.mp q];exact m) (by rw[cM];exact aq) (λ x aJ=>aF x (f0 _ aJ)) (by rw[bK];show done.length+1+_<=_;right) λ kj eL be bc tc xz PI PJ nh=>?_
  rw[cM]at PI PJ
  exact q kj eL be bc (le.trans tc) xz PI PJ (ex.trans nh)
end
section
variable{k:Nat}{j D:St}{A:cJ}{C aw:bi}{O:fs}{T:bY}
theorem PK: ∀{l:List (ai×cb)},(∀e∈l,e.1∈di)->(eB l).all (λ x=>x.1.fR)=G
 | [],_=>rfl
 |(s,e)::l,h=>by
  have ab:s.all (λ c=>decide (c<0x110000))=G:=by
   have: ∀s∈di,s.all (λ c=>decide (c<0x110000))=G:=by decide+kernel
   exact this s (h (s,e) (eT ..))
  show(s.all (λ c=>decide (c<0x110000))&&(eB l).all (λ x=>x.1.fR))=G
  rw[ab,PK λ x aJ=>h x (f0 _ aJ)];rfl
noncomputable def xJ:ef:=match kC.body with| .cons _ (.cons _ (.cons _ (.cons _ (.cons _ (.cons (.hy _ _ b) _)))))=>b|_=> .nil
theorem ajL:xJ= .cons (.vv 7 8 (.loc 6) rq) .nil:=rfl
theorem Iz{cD:List Int}{a n p i o t:Nat}{R:List (a2×V)->St->Prop}{ok:cb->Prop}{K:bM->ax->St->Prop}{be bc:Option V}{l done:List (ai×cb)}(gK:rp O A)
  (hm: ∀{cn j D},R cn j->aR A.mut j D->R cn D) (bS: ∀{cn j D},R cn j->(∀b,b≠t->D b=j b)->R cn D)
  (hY: ∀{cn j},R cn j-> ∃bL F,j O.x=B (.inst 287 bL F)/\F.lookup 21=J)
  (add: ∀{cn:List (a2×V)} {n:Int} {e:cb} {j:St} {Q:V->St->Prop},R cn j->ok e->eg cn (.i n)=G->cn.length<ay->(∀D,R (ha cn (.i n) (fC e)) D->aR (lJ O) j D->Q .none D)->aj (k+3) 277 [.ref O.x, .int (e.1:Int), .str e.2, .int n] j Q)
  (az:c9 A C j) (aO:R (gu C done) j) (ak: ∀x∈done,x.1∈C.texts) (aq:((done++l).map (·.1)).Nodup) (aF: ∀e∈l,ok e.2/\e.1∈di) (ah:done.length+l.length<=1000) {b0:List (ai×cb)}
  (first: ∀(aP:St) (xK:bM->ax->St->Prop),c9 A C aP->R (gu C done) aP->(∀aw D be bc,C.le aw->c9 A aw D->R (gu aw done) D->aR (λ b=>A.mut b\/lJ O b) aP D->mH 7 8 (aK (aD (aj (k+3))) rq) ((eB l).map λ x=> .tup [x.1.val,x.2]) (jd cD a A.x n p i o O.x (B (.ref t)) be bc) D xK)-> ∀be bc,mH 7 8 (aK (aD (aj (k+3))) rq) ((eB b0).map λ x=> .tup [x.1.val,x.2]) (jd cD a A.x n p i o O.x (B (.ref t)) be bc) aP xK)
  (aN:j t=B (.dict (eB b0))) (bE: ∀e∈b0,e.1∈di) (PL:A.x≠t/\A.t≠t/\A.d≠t/\A.f≠t/\A.g≠t)
  (q: ∀aw D be bc,C.le aw->c9 A aw D->R (gu aw (done++l)) D->(∀x∈done++l,x.1∈aw.texts)->aR (λ b=>A.mut b\/lJ O b) j D->K .next (jd cD a A.x n p i o O.x (B (.ref t)) be bc) D):
  aK (aD (aj (k+3))) xJ (jd cD a A.x n p i o O.x (B (.ref t)) be bc) j K:=by
 have IA: ∀b,b≠t->(j.del t) b=j b:= λ b h=>qo h
 have ajM:aR (λ b=>b=t) j (j.del t):= λ b w az m=>(IA b m).trans az
 have Iu:c9 A C (j.del t):=az.keep ajM PL
 have ta:R (gu C done) (j.del t):=bS aO IA
 have sm:mH 7 8 (aK (aD (aj (k+3))) rq) ((eB b0).map λ x=> .tup [x.1.val,x.2]) (jd cD a A.x n p i o O.x (B (.ref t)) be bc) (j.del t) (vQ t (eB b0) (d9 (aK (aD (aj (k+3))) .nil) K)):=
  first _ _ Iu ta (λ dy aP be bc jA cq a5 jb=>ajK (R:=R) (ok:=ok) gK hm hY add l done dy aP be bc cq a5 (λ x aJ=>jA.mem (ak x aJ)) aq aF ah λ aw D be bc tc gJ cj gj nh=>by
   have le:=jA.trans tc
   have ex:=jb.trans nh
   have c5: ∀b,b≠t->(D.set t (.dict (eB b0))) b=D b:= λ b h=>aC h rfl
   have nu:aR (λ b=>b=t) D (D.set t (.dict (eB b0))):=aR.set rfl
   have:=q aw (D.set t (.dict (eB b0))) be bc le (gJ.keep nu PL) (bS cj c5) gj λ b w IB m=>by
    by_cases h:b=t
    .subst h;rw[aN]at IB;rw[<-IB];exact aY
    .exact (c5 b h).trans (ex b w ((IA b h).trans IB) m)
   rw[Ee]
   generalize D.set t (.dict (eB b0))=dR at*
   left
   exact this) be bc
 rw[ajL]
 unfold jd at*
 generalize rq=b at*
 left
 refine Op aN (PK bE) ?_
 left
 exact sm
theorem il.same{hI li lo:List (a2×V)}{t:Nat}(h:il O A hI li lo j)(d: ∀b,b≠t->D b=j b)(m:O.x≠t/\O.p≠t/\O.i≠t/\O.o≠t):il O A hI li lo D:=
 ⟨(d _ m.1).trans h.x,(d _ m.2.1).trans h.p,(d _ m.2.2.1).trans h.i,(d _ m.2.2.2).trans h.o,h.pi,h.po,h.io⟩
structure vi(t:Nat)(O:fs)(A:cJ):Prop where
 a:A.x≠t/\A.t≠t/\A.d≠t/\A.f≠t/\A.g≠t
 o:O.x≠t/\O.p≠t/\O.i≠t/\O.o≠t
theorem IC: ∀n∈jW,0<n:=by decide
theorem vi.m{t:Nat}(h:vi t O A): ¬(A.mut t\/lJ O t):= λ q=>q.elim (λ q=>q.elim (λ q=>h.a.2.1 q.symm) λ q=>q.elim (λ q=>h.a.2.2.1 q.symm) λ q=>q.elim (λ q=>h.a.2.2.2.1 q.symm) λ q=>h.a.2.2.2.2 q.symm)
 λ q=>q.elim (λ q=>h.o.2.1 q.symm) λ q=>q.elim (λ q=>h.o.2.2.1 q.symm) λ q=>h.o.2.2.2 q.symm
theorem ajN{cD:List Int}{a n p i o:Nat}{K:bM->ax->St->Prop}{gy be bc:Option V}(gK:rp O A)(ok:oB T)(az:c9 A C j)(cK:eu.le C)(aO:il O A [] [(.i 7,fC (1000,[120,102,121]))] [] j)
  (aT:j p=B (.dict (eB T.pre))) (bo:j i=B (.dict (eB T.inf))) (ba:j o=B (.dict (eB T.post))) (ph:vi p O A) (jp:vi i O A) (to:vi o O A)
  (q: ∀aw D gy be bc,C.le aw->c9 A aw D->mg O A aw T D->aR (λ b=>A.mut b\/lJ O b) j D->K .next (jd cD a A.x n p i o O.x gy be bc) D):
  hz 6 (aK (aD (aj (k+3))) xJ) (λ _=>True) [.ref p, .ref i, .ref o] (jd cD a A.x n p i o O.x gy be bc) j K:=by
 have am: ¬A.mut O.x/\ ¬A.mut O.p/\ ¬A.mut O.i/\ ¬A.mut O.o:=⟨gK.B8,gK.op,gK.PG,gK.mu⟩
 have up: ∀e∈T.pre,e.1∈di:= λ e aF=>u2 (ok.kn e aF).1
 have ID: ∀e∈T.inf,e.1∈di:= λ e aF=>(ok.lz e aF).elim (λ q=>u2 q.1) λ q=>q.elim (λ q=>by rw[q];decide) λ q=>by rw[q];decide
 have IE: ∀e∈T.post,e.1∈di:= λ e aF=>u2 (ok.ok e aF).1
 have am0:fr.length<=100:=by decide
 have hs: ∀{l:List (ai×cb)},(l.map (·.1)).Nodup->(∀e∈l,e.1∈di)->l.length<=100:= λ n h=>by
  have:=wI (u:=di) n λ a aI=>by obtain⟨e,aF,rfl⟩:=nO.mp aI;exact h e aF
  rw[c2]at this
  exact ca this (by decide)
 refine⟨trivial,?_⟩
 refine Iz (R:= λ cn j=>il O A cn [(.i 7,fC (1000,[120,102,121]))] [] j) (ok:= λ e=>0<e.1/\nd e.2) (l:=T.pre) (b0:=T.pre) (done:=[]) gK (λ h e=>h.keep e am) (λ h d=>h.same d ph.o) (λ h=>⟨_,_,h.x,rfl⟩)
  (λ h o f l q=>agc h o.1 o.2 f l λ D h' s=>q D h' (s.ex.mono λ _=> .inl)) az aO (λ _ h=>nomatch h) ok.oz (λ e aF=>⟨⟨IC _ (ok.kn e aF).2.1,(ok.kn e aF).2.2⟩,up e aF⟩) (by have:=hs ok.oz up;show 0+_<=_;right)
  (λ aP xK az aO h be bc=>h C aP be bc .refl az aO .refl) aT up ph.a λ dy aP be bc jA cq a5 ed jb=>?_
 rw[rS]
 refine⟨trivial,?_⟩
 obtain⟨b5,xL⟩: ∃b5,T.inf=([44],1000,[120,102,121])::b5:=by
  have:=ok.aB
  cases hq:T.inf with
  |nil=>rw[hq]at this;cases this
  |cons x r=>rw[hq]at this;injection this with this;exact⟨r,by rw[this]⟩
 have PM: ∀dy,eu.le dy->dy.no [44]=7:= λ dy h=>(h.no qW.2.2.1).trans uO.2.2.1
 have B9:=cK.trans jA
 have IF: ∀dy,eu.le dy->gu dy [([44],1000,[120,102,121])]=[(.i 7,fC (1000,[120,102,121]))]:= λ dy h=>by
  show [(a2.i (dy.no [44]:Int),fC (1000,[120,102,121]))]=_
  rw[PM dy h];rfl
 refine Iz (R:= λ cn j=>il O A (gu dy T.pre) cn [] j) (ok:= λ e=>0<e.1/\iP e.2) (l:=b5) (b0:=T.inf) (done:=[([44],1000,[120,102,121])]) gK (λ h e=>h.keep e am) (λ h d=>h.same d jp.o) (λ h=>⟨_,_,h.x,rfl⟩)
  (λ h o f l q=>Hv h o.1 o.2 f l λ D h' s=>q D h' (s.ex.mono λ _=> .inr ∘ .inl)) cq (by rw[IF dy B9];exact a5) (λ x h=>by rw[ee.mp h];exact B9.mem qW.2.2.1) (by have:=ok.lA;rw[xL]at this;exact this) (λ e aF=>?_) (by have:=hs ok.lA ID;rw[xL,el]at this;show 1+_<=_;right)
  (λ bA xK az aO h be bc=>?_) (jb _ _ bo jp.m) ID jp.a λ gv bA be bc kW dX c7 eQ nu=>?_
 .have aG:e∈T.inf:=by rw[xL];exact f0 _ aF
  refine⟨?_,ID e aG⟩
  rcases ok.lz e aG with q|rfl|rfl
  .exact ⟨IC _ q.2.1,q.2.2⟩
  .exact ⟨by decide,by unfold iP;decide⟩
  .exact ⟨by decide,by unfold iP;decide⟩
 .rw[xL]
  refine⟨trivial,PH (R:= λ cn j=>il O A (gu dy T.pre) cn [] j) (ok:= λ e=>0<e.1/\iP e.2) (cn:=gu dy [([44],1000,[120,102,121])]) (s:=[44]) (e:=(1000,[120,102,121])) (bL:=0) (F:=[]) gK (λ h e=>h.keep e am) (λ h=>⟨_,_,h.x,rfl⟩)
   (λ h o f l q=>Hv h o.1 o.2 f l λ D h' s=>q D h' (s.ex.mono λ _=> .inr ∘ .inl)) az aO ⟨by decide,by unfold iP;decide⟩ (by decide) (λ n=>qY) (dP (show 1<=1000 by decide) (by decide+kernel)) λ aw D le gJ m cj ex=>?_⟩
  rw[rS]
  have e0:=B9.trans le
  refine h aw D _ _ le gJ ?_ ex
  rw[IF dy B9,PM aw e0]at cj
  rw[IF aw e0]
  exact cj
 .rw[rS]
  refine⟨trivial,?_⟩
  have ajO: [([44],1000,[120,102,121])]++b5=T.inf:=xL.symm
  rw[ajO]at c7 eQ
  refine Iz (R:= λ cn j=>il O A (gu dy T.pre) (gu gv T.inf) cn j) (ok:= λ e=>0<e.1/\mh e.2) (l:=T.post) (b0:=T.post) (done:=[]) gK (λ h e=>h.keep e am) (λ h d=>h.same d to.o) (λ h=>⟨_,_,h.x,rfl⟩)
   (λ h o f l q=>agd h o.1 o.2 f l λ D h' s=>q D h' (s.ex.mono λ _=> .inr ∘ .inr)) dX c7 (λ _ h=>nomatch h) ok.on (λ e aF=>⟨⟨IC _ (ok.ok e aF).2.1,(ok.ok e aF).2.2⟩,IE e aF⟩) (by have:=hs ok.on IE;show 0+_<=_;right)
   (λ aP xK az aO h be bc=>h gv aP be bc .refl az aO .refl) (nu _ _ (jb _ _ ba to.m) to.m) IE to.a λ BH dR be bc rr d5 h7 tp Ca=>?_
  rw[rS]
  refine⟨trivial,q BH dR _ _ _ ((jA.trans kW).trans rr) d5 ⟨?_,λ e aF=>(kW.trans rr).mem (ed e aF),λ e aF=>rr.mem (eQ e aF),tp⟩ ((jb.trans nu).trans Ca)⟩
  have ao:gu BH T.pre=gu dy T.pre:=uQ (kW.trans rr) ed
  rw[ao,uQ rr eQ]
  exact h7
end
end
noncomputable def lK:List (List (Nat×ai)):=[[],[(1,[88,49]),(2,[95,51])],[(2,[95,51]),(1,[95,48])],[(3,[95,48]),(1,[95,48,95])]]
structure PN(I:bY)(o:du)(t:T)(au:List Tok)(ps:List a8):Prop where
 PO:gr U (textOf I o t) au
 pt:dd I 94 U G G (au++ [hH,hH]) ps [hH,hH]
 e8:hG I ps 1200=B (cZ o t)
 bH:au.length+2<=500
 PQ:2*(textOf I o t).length+10<ay
 Fq:((bd I o t).1 1201 G).length<=1000
def PP:Prop:= ∀(I:bY) (o:du) (t:T),oB I->o.called∈lK->t.fit->t.ay<=25-> ∃au ps,PN I o t au ps
section
open PySem
noncomputable def oH:ef:=match kC.body with| .cons _ (.cons _ (.cons _ (.cons _ (.cons _ (.cons _ r)))))=>r|_=> .nil
theorem ajP:kC.body=match kC.body with
 | .cons a (.cons b (.cons c (.cons d (.cons e _))))=> .cons a (.cons b (.cons c (.cons d (.cons e (.cons (.hy 6 (.val (.loc 4)) xJ) oH)))))
 |s=>s:=rfl
structure iT(a f n p i o:Nat)(A:cJ)(O:fs)(C:bi)(T:bY)(j:St):Prop where
 bg:i7 a f j
 b4:c9 A C j
 cK:eu.le C
 au:kV p i o T j
 op:mg O A C T j
 aq:j n=B (.list (fr.map .str))
 am:A.x≠a/\ ¬A.mut a/\ ¬A.mut f
 nm:n≠a/\ ¬A.mut n
 da: ¬A.mut p/\ ¬A.mut i/\ ¬A.mut o
 bq:p≠a/\i≠a/\o≠a
 gK:rp O A
 mu:O.x≠a/\O.p≠a/\O.i≠a/\O.o≠a
theorem rt{s:ai}{e:cb}: ∀{l:List (ai×cb)},l.lookup s=B e->(s,e)∈l
 | [],h=>nomatch h
 |(t,dL)::l,h=>by
  rw[uP]at h
  by_cases q:s=t
  .rw[aQ q]at h;injection h with h;rw[q,h];exact eT ..
  .rw[aL q]at h;exact f0 _ (rt h)
theorem IG: ∀n∈jW,0<n/\n<=1200:=by decide
theorem oB.tab{T:bY}(h:oB T):T.Ok where
 pre:= λ s e l=>have q:=h.kn _ (rt l);⟨q.2.2,IG _ q.2.1⟩
 inf:= λ s e l=>(h.lz _ (rt l)).elim (λ q=>⟨q.2.2,IG _ q.2.1⟩) λ q=>q.elim (λ q=>by injection q with _ q;rw[q];exact⟨by unfold iP;decide,by decide,by decide⟩) λ q=>by injection q with _ q;rw[q];exact⟨by unfold iP;decide,by decide,by decide⟩
 post:= λ s e l=>have q:=h.ok _ (rt l);⟨q.2.2,IG _ q.2.1⟩
section
variable{k:Nat}{j D:St}{Q:V->St->Prop}
theorem ajQ{cD:List Int}(bb:cD.length<=63)(q: ∀a f n p i o A O C T D gy be bc,iT a f n p i o A O C T D->oB T->aK (aD (aj (k+5))) oH (jd cD a A.x n p i o O.x gy be bc) D (cr Q)):
  aj (k+6) 565 [.fi (cD.map .int)] j Q:=by
 refine afy ?_
 rw[ajP]
 unfold jd at q
 have ld:= λ(cD:List Int) (a n p i o:Nat) (K:bM->ax->St->Prop) (A:cJ) (C:bi) (O:fs) (T:bY) (j:St)=> @ajN (k+2) j A C O T cD a n p i o K J J J
 unfold jd at ld
 generalize xJ=lo at*
 generalize oH=am1 at*
 dsimp only[kC]
 left
 refine ahr bb λ a f aP bg aha am2 ao=>?_
 left
 refine af3 λ A bA bm pX dX aH=>?_
 left
 intro n aq
 have cG:aR et bA (bA.set n (.list [V.str [45],V.str [94],V.str [43],V.str [102,111,111],V.str [126,62],V.str [33],V.str [109,121,32,111,112],V.str [],V.str [65],V.str [46]])):=aR.new aq
 have ajR:=bg.keep aH ⟨id,id⟩
 have PR:=ajR.keep cG ⟨id,id⟩
 have d5:=dX.none cG
 obtain⟨tq,vj⟩:(∃w,aP a=B w)/\ ∃w,aP f=B w:=by
  obtain⟨⟨_,_,_,Y,Z,_⟩,_⟩:=bg
  exact⟨⟨_,Y⟩,_,Z⟩
 obtain⟨am3,tq⟩:=tq
 obtain⟨wf,vj⟩:=vj
 have na:n≠a:=(a0 (aH _ _ tq id) aq).symm
 have PS:A.x≠a:=(a0 tq bm).symm
 have PT: ¬A.mut n:=dX.apart aq
 generalize ajS:bA.set n (.list [V.str [45],V.str [94],V.str [43],V.str [102,111,111],V.str [126,62],V.str [33],V.str [109,121,32,111,112],V.str [],V.str [65],V.str [46]])=dR at*
 have PU:dR n=B (.list (fr.map .str)):=by rw[<-ajS];exact aY
 left
 refine ahG PR PU na λ T p i o fY ok BA wd IH aT bo ba II ec=>?_
 have fK:=d5.keep ec ⟨PS,rb A (pX _ _ tq)⟩
 have PV:=ec _ _ PU na
 left
 refine age (A:=A) λ O hD iK ru vk vl ajT hO=>?_
 have tg:=fK.none hO
 have PW:=hO _ _ aT id
 have PX:=hO _ _ bo id
 have PY:=hO _ _ ba id
 have ajU:=II.keep hO ⟨id,id⟩
 have gK:rp O A:=by
  refine⟨λ q=>q.elim (a0 fK.x ru) λ q=>q.elim (a0 fK.x vk) (a0 fK.x vl),λ b az q=>?_,fK.apart iK,fK.apart ru,fK.apart vk,fK.apart vl⟩
  rcases q with rfl|rfl|rfl
  .exact fK.apart ru az
  .exact fK.apart vk az
  .exact fK.apart vl az
 have bq: ∀t w,dR t=J->fY t=B w->vi t O A:= λ t w h h'=>
  ⟨⟨a0 d5.x h,a0 d5.t h,a0 d5.d h,a0 d5.f h,a0 d5.g h⟩,(a0 h' iK).symm,(a0 h' ru).symm,(a0 h' vk).symm,(a0 h' vl).symm⟩
 have ph:=bq p _ BA aT
 have jp:=bq i _ wd bo
 have to:=bq o _ IH ba
 have xM: ∃w,dR a=B w:=by obtain⟨⟨_,_,_,Y,_⟩,_⟩:=PR;exact⟨_,Y⟩
 have tr: ∃w,fY a=B w:=by obtain⟨⟨_,_,_,Y,_⟩,_⟩:=II;exact⟨_,Y⟩
 have IJ: ∃w,fY f=B w:=by obtain⟨⟨_,_,_,_,Y,_⟩,_⟩:=II;exact⟨_,Y⟩
 obtain⟨am4,xM⟩:=xM
 obtain⟨am5,tr⟩:=tr
 obtain⟨am6,IJ⟩:=IJ
 left
 refine ld cD a n p i o _ A eu O T hD gK ok tg .refl ajT PW PX PY ph jp to λ aw gO gy be bc le vd sd gY=>?_
 have IK: ∀b w,fY b=B w-> ¬lJ O b:= λ b w h q=>q.elim (a0 h ru) λ q=>q.elim (a0 h vk) (a0 h vl)
 left
 refine q a f n p i o A O aw T gO gy be bc ⟨ajU.keep gY ⟨λ q=>q.elim (pX _ _ tq) (IK _ _ tr),λ q=>q.elim (pX _ _ vj) (IK _ _ IJ)⟩,vd,le,⟨gY _ _ PW ph.m,gY _ _ PX jp.m,gY _ _ PY to.m,ok.tab⟩,sd,
  gY _ _ (hO _ _ PV id) (λ q=>q.elim PT (IK _ _ PV)),⟨PS,pX _ _ tq,pX _ _ vj⟩,⟨na,PT⟩,⟨d5.apart BA,d5.apart wd,d5.apart IH⟩,⟨(a0 xM BA).symm,(a0 xM wd).symm,(a0 xM IH).symm⟩,gK,⟨(a0 tr iK).symm,(a0 tr ru).symm,(a0 tr vk).symm,(a0 tr vl).symm⟩⟩ ok
end
noncomputable def pZ:ef:=match oH with| .cons _ (.cons _ r)=>r|_=> .nil
noncomputable def xN:ef:=match pZ with| .cons _ (.cons _ (.cons _ r))=>r|_=> .nil
theorem ajV:oH=match oH with| .cons a (.cons b _)=> .cons a (.cons b pZ)|s=>s:=rfl
theorem ajW:pZ=match pZ with| .cons a (.cons b (.cons c _))=> .cons a (.cons b (.cons c xN))|s=>s:=rfl
theorem iT.keep{a f n p i o:Nat}{A:cJ}{O:fs}{C aw:bi}{T:bY}{j D:St}{bG:Nat->Prop}(h:iT a f n p i o A O C T j)(bg:i7 a f D)(b4:c9 A aw D)(le:C.le aw)(e:aR bG j D)(m: ¬bG p/\ ¬bG i/\ ¬bG o/\ ¬bG n/\ ¬bG O.x/\ ¬bG O.p/\ ¬bG O.i/\ ¬bG O.o):
  iT a f n p i o A O aw T D:=
 ⟨bg,b4,h.cK.trans le,h.au.keep e ⟨m.1,m.2.1,m.2.2.1⟩,h.op.keep le e m.2.2.2.2,e _ _ h.aq m.2.2.2.1,h.am,h.nm,h.da,h.bq,h.gK,h.mu⟩
section
variable{k:Nat}{j D:St}{Q:V->St->Prop}{a f n p i o:Nat}{A:cJ}{O:fs}{C aw:bi}{T:bY}
noncomputable def rv(cD:List Int):List Int:=[0,1,27,10^20+7]++(cD.take 3).map λ z=>((z.natAbs%10^40:Nat):Int)
theorem ajX(cD:List Int):0<(rv cD).length/\(rv cD).length<=100/\ ∀w∈rv cD,w.natAbs<10^60:=by
 unfold rv
 refine⟨by simp,by simp;right,λ w hw=>?_⟩
 rcases iG.mp hw with h|h
 .have: ∀w∈([0,1,27,10^20+7]:List Int),w.natAbs<10^60:=by decide+kernel
  exact this w h
 .obtain ⟨z,_,rfl⟩:=nO.mp h
  rw[s2]
  exact h9 (pw _ (by decide+kernel)) (by decide+kernel)
theorem ajY{ag:Nat}{live:St->Prop}{fy:V->St->(Option V->St->Prop)->Prop}(bF: ∀D,(∀b,b≠ag->D b=j b)->live D)
  (body: ∀(z:Int) (j:St) (dE:Option V->St->Prop),dE (B (.int ((z.natAbs%10^40:Nat):Int))) j->fy (.int z) j dE): ∀(cD:List Int) (bR:List V) (aP:St) (Q:List V->St->Prop),aP ag=B (.list bR)->(∀b,b≠ag->aP b=j b)->
   (∀D,D ag=B (.list (bR++cD.map λ z=> .int ((z.natAbs%10^40:Nat):Int)))->(∀b,b≠ag->D b=j b)->Q (bR++cD.map λ z=> .int ((z.natAbs%10^40:Nat):Int)) D)->
   h3 live fy ag (cD.map .int) bR aP Q:=by
 intro b0;induction b0 with
 |nil=>
  intro bR aP Q h s q
  exact⟨bF _ s,h,by rw[qU,dV]at q;exact q aP h s⟩
 |cons z cD aB=>
  intro bR aP Q h s q
  exact⟨bF _ s,body z aP _ ⟨h,by
   dsimp only
   refine aB (bR++ [.int ((z.natAbs%10^40:Nat):Int)]) _ Q aY (λ b az=>(aC az rfl).trans (s b az)) λ D Y Z=>?_
   rw[cM]at Y ⊢
   exact q D Y Z⟩⟩
theorem iT.wx{dC cx:Nat}{d0:List Int}{z:Int}(h:iT a f n p i o A O C T j)(hw:j dC=J)(aO:(j.set dC (.list (d0.map .int))) cx=J):
  ft a f dC n cx A d0 C z ((j.set dC (.list (d0.map .int))).set cx (.list [.int z])):=by
 have ao:aR et j (j.set dC (.list (d0.map .int))):=aR.new hw
 have aH:aR et j ((j.set dC (.list (d0.map .int))).set cx (.list [.int z])):=ao.trans (aR.new aO)
 obtain⟨⟨a9,aU,m,Y,Z,_⟩,_⟩:=id h.bg
 have wr:dC≠cx:=a0 aY aO
 exact⟨h.bg.keep aH ⟨id,id⟩,h.b4.none aH,aC wr aY,aH _ _ h.aq id,aY,h.cK,h.am,⟨(a0 Y hw).symm,h.b4.apart hw⟩,h.nm,(h.b4.none ao).apart aO,a0 (ao _ _ Y id) aO,a0 (ao _ _ Z id) aO,a0 (ao _ _ h.b4.x id) aO,wr,a0 (ao _ _ h.aq id) aO⟩
theorem ajZ(z:Int):((z.natAbs:Nat):Int).fmod (10^40)=((z.natAbs%10^40:Nat):Int):=by
 have:=qT z.natAbs (10^40)
 rw[<-this]
 congr 1
theorem aj0{cD:List Int}(bb:cD.length<=63){gy be bc:Option V}(h:iT a f n p i o A O C T j)
  (q: ∀aw D gy be bc bp bl t,C.le aw->iT a f n p i o A O aw T D->Drawn aw t->t.ay<=25->aK (aD (aj (k+8))) pZ
   [B (.fi (cD.map .int)),B (.ref a),B (.ref A.x),B (.ref n),B (nr p i o),B (.ref O.x),gy,be,bc,bp,bl,B (aw.enc t),J,J,J,J,J,J,J] D (cr Q)):
  aK (aD (aj (k+8))) oH (jd cD a A.x n p i o O.x gy be bc) j (cr Q):=by
 rw[ajV]
 unfold jd
 generalize pZ=IL at*
 dsimp only[oH,kC]
 left
 refine A8 (by decide) ?_;left
 intro bf xE
 rw[show(10:Int)^(20:Int).toNat+7=10^20+7 from rfl]
 have ao:aR et j (j.set bf (.list ([0,1,27,10^20+7].map .int))):=aR.new xE
 have IM:(cD.map V.int).take (3:Int).toNat=(cD.take 3).map .int:=by rw[<-ahs];rfl
 left
 refine⟨by decide,by decide,by rw[c2];exact cA (by right),λ a3 km=>?_⟩
 rw[IM]
 have PZ:(j.set bf (.list ([0,1,27,10^20+7].map .int))) a3=J:=km
 have aH:=ao.trans (aR.new (bG:=et) (o:= .list ((cD.take 3).map .int)) PZ)
 left
 refine wQ aY ?_
 left
 have wi:(cD.take 3).length<=3:=List.length_take_le 3 cD
 refine⟨by rw[c2];exact cA (by right),λ ag bS=>?_⟩
 have tn:((j.set bf (.list ([0,1,27,10^20+7].map .int))).set a3 (.list ((cD.take 3).map .int))) ag=J:=bS
 have aj1:a3≠ag:=a0 aY tn
 have P0:bf≠a3:=a0 aY PZ
 have aj2:bf≠ag:=a0 (aC P0 aY) tn
 refine ajY (j:=(j.set bf (.list ([0,1,27,10^20+7].map .int))).set a3 (.list ((cD.take 3).map .int))) (λ D h=>(h a3 aj1).trans aY) (λ z j dE q=>?_) (cD.take 3) [] _ _ aY (λ b az=>aC az rfl) λ dR aE eF=>?_
 .left
  have wU:gV j .abs (.int z)=B (.int (z.natAbs:Int)):=congrArg (λ i=>B (V.int i)) Hg
  rw[wU];left
  refine A8 (by decide) ?_;left
  refine qQ (by decide+kernel) ?_;left
  rw[show(10:Int)^(40:Int).toNat=10^40 from rfl,ajZ]
  exact q
 .have cG:aR et j dR:= λ b w az _=>(eF b (a0 (aH _ _ az id) tn)).trans (aH _ _ az id)
  have aj3:dR bf=B (.list ([0,1,27,10^20+7].map .int)):=(eF bf aj2).trans (aC P0 aY)
  left
  refine Hf aj3 aE (by rw[c2,pI,c2];exact cA (by show 4+_<=_;right)) λ dC hw=>?_
  have aj4: [0,1,27,10^20+7].map V.int++([]++(cD.take 3).map λ z=>V.int ((z.natAbs%10^40:Nat):Int))=(rv cD).map .int:=by
   unfold rv;rw[fO,H1,pI];rfl
  rw[aj4]
  have oI:iT a f n p i o A O C T dR:=h.keep (h.bg.keep cG ⟨id,id⟩) (h.b4.none cG) .refl cG ⟨id,id,id,id,id,id,id,id⟩
  left
  intro cx IN
  have wx:=oI.wx (z:=9) hw IN
  have FO:aR et dR ((dR.set dC (.list ((rv cD).map .int))).set cx (.list [.int 9])):=(aR.new (bG:=et) hw).trans (aR.new IN)
  have aj5: ∀b w,dR b=B w->b≠cx:= λ b w az=>a0 ((aR.new (bG:=et) (o:= .list ((rv cD).map .int)) hw) _ _ az id) IN
  left
  refine ahS (ajX cD) 4 (k+0) 0 C 9 _ _ rfl wx λ t aw fc fY lC le er u4 ec=>?_
  have out: ∀b w,dR b=B w->b≠a-> ¬A.mut b-> ¬hX a cx A b:= λ b w az Y Z q=>q.elim Y λ q=>q.elim Z (aj5 b w az)
  have bv:iT a f n p i o A O aw T fY:=oI.keep (bG:=hX a cx A) u4.bg u4.b4 le (λ b w az m=>ec _ _ (FO _ _ az id) m)
   ⟨out _ _ oI.au.p h.bq.1 h.da.1,out _ _ oI.au.i h.bq.2.1 h.da.2.1,out _ _ oI.au.o h.bq.2.2 h.da.2.2,out _ _ oI.aq h.nm.1 h.nm.2,out _ _ oI.op.r.x h.mu.1 h.gK.B8,out _ _ oI.op.r.p h.mu.2.1 h.gK.op,out _ _ oI.op.r.i h.mu.2.2.1 h.gK.PG,out _ _ oI.op.r.o h.mu.2.2.2 h.gK.mu⟩
  left
  exact q aw fY _ _ _ _ _ t le bv lC (by have:gT 9=24:=rfl;right)
end
section
variable{k:Nat}{j D:St}{Q:V->St->Prop}{a f n p i o:Nat}{A:cJ}{O:fs}{C aw:bi}{T:bY}
theorem iT.pick(h:iT a f n p i o A O C T j)(bg:i7 a f D)(s:bP (λ b=>b=a) j D):iT a f n p i o A O C T D:=
 h.keep bg (h.b4.keep s.ex ⟨h.am.1,rb A h.am.2.1⟩) .refl s.ex ⟨h.bq.1,h.bq.2.1,h.bq.2.2,h.nm.1,h.mu.1,h.mu.2.1,h.mu.2.2.1,h.mu.2.2.2⟩
theorem iT.none(h:iT a f n p i o A O C T j)(e:aR et j D):iT a f n p i o A O C T D:=
 h.keep (h.bg.keep e ⟨id,id⟩) (h.b4.none e) .refl e ⟨id,id,id,id,id,id,id,id⟩
theorem aj6{t:Mine.T}{cD:List Int}{gy be bc bp bl bU:Option V}(h:iT a f n p i o A O C T j)
  (q: ∀(D:St) (ek:Nat) (op:du),op.called∈lK->D ek=B (.dict (de op.called))-> ¬A.mut ek->iT a f n p i o A O C T D->aK (aD (aj (k+1))) xN
   [B (.fi (cD.map .int)),B (.ref a),B (.ref A.x),B (.ref n),B (nr p i o),B (.ref O.x),gy,be,bc,bp,bl,bU,B (.bool op.g6),B (.bool op.num),B (.ref ek), .none, .none, .none, .none] D (cr Q)):
  aK (aD (aj (k+1))) pZ [B (.fi (cD.map .int)),B (.ref a),B (.ref A.x),B (.ref n),B (nr p i o),B (.ref O.x),gy,be,bc,bp,bl,bU, .none, .none, .none, .none, .none, .none, .none] j (cr Q):=by
 rw[ajW]
 generalize xN=PO at*
 dsimp only[pZ,oH,kC]
 left
 refine jV (n:=4) h.bg (by decide) (by decide+kernel) λ a5 aP ta ga bt=>?_
 have Y:=h.pick ga bt
 left
 refine jV (n:=3) ga (by decide) (by decide+kernel) λ c7 bA xw hg b2=>?_
 have Z:=Y.pick hg b2
 generalize decide ((a5:Int)=3)=aj7 at*
 left
 generalize decide ((c7:Int)=2)=GD at*
 left
 refine⟨rfl,λ hZ hT=>?_⟩
 have bm:aR et bA (bA.set hZ (.dict (de []))):=aR.new hT
 left
 refine⟨rfl,λ g1 IP=>?_⟩
 have b8:=bm.trans (aR.new (bG:=et) (o:= .dict (de [(1,[88,49]),(2,[95,51])])) IP)
 left
 refine⟨rfl,λ iz Cb=>?_⟩
 have dA:=b8.trans (aR.new (bG:=et) (o:= .dict (de [(2,[95,51]),(1,[95,48])])) Cb)
 left
 refine⟨rfl,λ kr xO=>?_⟩
 have fl:=dA.trans (aR.new (bG:=et) (o:= .dict (de [(3,[95,48]),(1,[95,48,95])])) xO)
 left
 intro c ap
 have jQ:=fl.trans (aR.new (bG:=et) (o:= .list [.ref hZ, .ref g1, .ref iz, .ref kr]) ap)
 have aj8:=a0 (aY (j:=bA) (a:=hZ) (o:= .dict (de []))) IP
 have kc:(bA.set hZ (.dict (de []))) hZ=B (.dict (de [])):=aY
 have IQ:=aC (o:= .dict (de [(1,[88,49]),(2,[95,51])])) aj8 kc
 have aj9:=a0 IQ Cb
 have eX:((bA.set hZ (.dict (de []))).set g1 (.dict (de [(1,[88,49]),(2,[95,51])]))) g1=B (.dict (de [(1,[88,49]),(2,[95,51])])):=aY
 have aka:=a0 eX Cb
 have IR:=aC (o:= .dict (de [(2,[95,51]),(1,[95,48])])) aj9 IQ
 have mq:=aC (o:= .dict (de [(2,[95,51]),(1,[95,48])])) aka eX
 have fk:(((bA.set hZ (.dict (de []))).set g1 (.dict (de [(1,[88,49]),(2,[95,51])]))).set iz (.dict (de [(2,[95,51]),(1,[95,48])]))) iz=B (.dict (de [(2,[95,51]),(1,[95,48])])):=aY
 have akb:=a0 IR xO
 have akc:=a0 mq xO
 have akd:=a0 fk xO
 have j5:=aC (o:= .dict (de [(3,[95,48]),(1,[95,48,95])])) akb IR
 have ed:=aC (o:= .dict (de [(3,[95,48]),(1,[95,48,95])])) akc mq
 have eQ:=aC (o:= .dict (de [(3,[95,48]),(1,[95,48,95])])) akd fk
 have tp:((((bA.set hZ (.dict (de []))).set g1 (.dict (de [(1,[88,49]),(2,[95,51])]))).set iz (.dict (de [(2,[95,51]),(1,[95,48])]))).set kr (.dict (de [(3,[95,48]),(1,[95,48,95])]))) kr=B (.dict (de [(3,[95,48]),(1,[95,48,95])])):=aY
 have pX:=aC (o:= .list [.ref hZ, .ref g1, .ref iz, .ref kr]) (a0 j5 ap) j5
 have uz:=aC (o:= .list [.ref hZ, .ref g1, .ref iz, .ref kr]) (a0 ed ap) ed
 have BG:=aC (o:= .list [.ref hZ, .ref g1, .ref iz, .ref kr]) (a0 eQ ap) eQ
 have s1:=aC (o:= .list [.ref hZ, .ref g1, .ref iz, .ref kr]) (a0 tp ap) tp
 have ake:=aY (j:=((((bA.set hZ (.dict (de []))).set g1 (.dict (de [(1,[88,49]),(2,[95,51])]))).set iz (.dict (de [(2,[95,51]),(1,[95,48])]))).set kr (.dict (de [(3,[95,48]),(1,[95,48,95])])))) (a:=c) (o:= .list [.ref hZ, .ref g1, .ref iz, .ref kr])
 have akf:c≠a:=by
  obtain⟨⟨_,_,_,aI,_⟩,_⟩:=id Z.bg
  exact(a0 (fl _ _ aI id) ap).symm
 have cK:=Z.b4.apart hT
 have cq:=(Z.b4.none bm).apart IP
 have dX:=(Z.b4.none b8).apart Cb
 have d5:=(Z.b4.none dA).apart xO
 clear kc IQ IR eX mq fk j5 ed eQ tp bm b8 dA fl
 have bv:=Z.none jQ
 left
 show aj (k+1) 498 [.ref a, .int 4] (((((bA.set hZ (.dict (de []))).set g1 (.dict (de [(1,[88,49]),(2,[95,51])]))).set iz (.dict (de [(2,[95,51]),(1,[95,48])]))).set kr (.dict (de [(3,[95,48]),(1,[95,48,95])]))).set c (.list [.ref hZ, .ref g1, .ref iz, .ref kr])) _
 generalize am7:((((bA.set hZ (.dict (de []))).set g1 (.dict (de [(1,[88,49]),(2,[95,51])]))).set iz (.dict (de [(2,[95,51]),(1,[95,48])]))).set kr (.dict (de [(3,[95,48]),(1,[95,48,95])]))).set c (.list [.ref hZ, .ref g1, .ref iz, .ref kr])=fY at*
 obtain⟨⟨a9,aU,m,aI,_⟩,_⟩:=id bv.bg
 have akg: ∀{d:Nat} {l},fY d=B (.dict l)->d≠a:= λ hd=>(od aI hd).symm
 refine jV (n:=4) bv.bg (by decide) (by decide+kernel) λ r hD aO ru qy=>?_
 have cw:=bv.pick ru qy
 have Cc:=(qy c akf).trans ake
 have fin: ∀(ek:Nat) (l:List (Nat×ai)),l∈lK->fY ek=B (.dict (de l))-> ¬A.mut ek->_:= λ ek l ah hd aG=>q hD ek ⟨aj7,GD,l⟩ ah ((qy ek (akg hd)).trans hd) aG cw
 left
 have pL:([V.ref hZ,V.ref g1,V.ref iz,V.ref kr]:List V).length<=1000:=by show 4<=1000;decide
 rcases r with _|_|_|_|r
 .refine fD Cc rfl rfl (cA pL) ?_
  left
  exact fin hZ _ (by decide) pX cK
 .refine fD Cc rfl rfl (cA pL) ?_
  left
  exact fin g1 _ (by decide) uz cq
 .refine fD Cc rfl rfl (cA pL) ?_
  left
  exact fin iz _ (by decide) BG dX
 .refine fD Cc rfl rfl (cA pL) ?_
  left
  exact fin kr _ (by decide) s1 d5
 .right
end
mutual
theorem P1: ∀v:V,f6 v=G->lO v v=B G
 | .none,_=>rfl
 | .bool b,_=>by show B (b==b)=_;rw[beq_self_eq_true]
 | .int i,_=>by show B (decide (i=i))=_;rw[ce rfl]
 | .str s,_=>by show B (decide (s=s))=_;rw[ce rfl]
 | .tup X,h=>P2 X h
theorem P2: ∀X:List V,ty X=G->rE X X=B G
 | [],_=>rfl
 |v::X,h=>by
  have h:(f6 v&&ty X)=G:=h
  rw[ia]at h
  show(match lO v v,rE X X with|some x,B y=>B (x&&y)|_,_=>J)=_
  rw[P1 v h.1,P2 X h.2];rfl
end
theorem oJ{o:du}: ∀t:T,(cZ o t).ay<=t.ay:=by
 intro b0;induction b0 with
 |v _=>
  exact dt 1
 |n _=>
  exact dt 1
 |i _=>
  exact dt 1
 |a _=>
  exact dt 1
 |bf f x dY=>
  have:=dY
  rw[uC]
  split
  .exact jI (eh _)
  .exact jI this
 |a3 f x y dY eU=>
  have Y:=dY
  have Z:=eU
  show(cZ o x).ay+(cZ o y).ay+1<=x.ay+y.ay+1
  right
 |dp f x y z dY eU jT=>
  have Y:=dY
  have Z:=eU
  have aE:=jT
  show(cZ o x).ay+(cZ o y).ay+(cZ o z).ay+1<=x.ay+y.ay+z.ay+1
  right
theorem P4{o:du}(h:o.called∈lK):o.Ok:=by
 have Y: ∀l∈lK,(∀k,k<4->under 10 (l.map (·.2)) (95::cY k) ∉ l.map (·.2))/\l.length<=10/\(l.map (·.1)).Nodup/\(l.map (·.2)).Nodup:=by decide+kernel
 have Z: ∀l∈lK, ∀k,k<4->(l.lookup k).getD (under 10 (l.map (·.2)) (95::cY k))≠ []/\((l.lookup k).getD (under 10 (l.map (·.2)) (95::cY k))).length<=1000:=by decide+kernel
 have a:=Y _ h
 exact⟨a.1,Z _ h,a.2.1,a.2.2.1,a.2.2.2⟩
section
variable{k:Nat}{j D:St}{Q:V->St->Prop}{a f n p i o:Nat}{A:cJ}{O:fs}{C aw:bi}{T:bY}
theorem akh{t:Mine.T}{cD:List Int}{gy be bc bp bl:Option V}{op:du}{ek:Nat}{au:List Tok}{ps:List a8}(h:iT a f n p i o A O C T j)(ap:op.called∈lK)(t3:j ek=B (.dict (de op.called)))(q2: ¬A.mut ek)(ak:C.cv t)(aA:t.fit)(bb:t.ay<=25)(r:PN T op t au ps)
  (q: ∀D,Q (.bool G) D):
  aK (aD (aj 100)) xN
   [B (.fi (cD.map .int)),B (.ref a),B (.ref A.x),B (.ref n),B (nr p i o),B (.ref O.x),gy,be,bc,bp,bl,B (C.enc t),B (.bool op.g6),B (.bool op.num),B (.ref ek), .none, .none, .none, .none] j (cr Q):=by
 dsimp only[xN,pZ,oH,kC]
 left
 refine ahc (k:=89) (T:=T) t3 h.b4 h.op h.cK (P4 ap) h.au.ok ak aA bb (by have:=r.PQ;right) r.Fq λ aP ao=>?_
 left
 refine aip (k:=98) r.PQ r.PO λ c bA ul km aH=>?_
 left
 have IS:=ao.trans aH
 have dX:=h.b4.none IS
 have st:ip p i o c A C T (au++ [hH,hH]) bA:=⟨h.au.keep IS ⟨id,id,id⟩,dX,km,h.cK,⟨h.da.1,h.da.2.1,h.da.2.2,(h.b4.none ao).apart ul⟩⟩
 have bH:(au++ [hH,hH]).length<=500:=by rw[bK];exact r.bH
 obtain⟨⟨w,vh,aki⟩,un⟩:=r.pt.oa
 have akj:ps.length<=500:=ca aki (ca (by rw[vh,bK];exact gc _ _) bH)
 refine xH (d:=94) (pre:=[]) (ajI r.pt) rfl bH _ rfl C bA _ st λ BH dp dR rr d5 akk sU akl Ca=>?_
 left
 refine kh ?_;left
 have eF:=st.keep rr d5 Ca
 refine Ij (k:=96) (dN:=1200) ⟨eF.au,d5,sU,akl,un,akj,⟨h.da.1,h.da.2.1,h.da.2.2,dX.apart akk⟩⟩ λ g8 fY P5 fK am8 akm=>?_
 rw[r.e8]
 unfold BV
 have le:=rr.trans P5
 rw[<-le.enc ak]
 left
 have akn:fY ek=B (.dict (de op.called)):=akm _ _ (Ca _ _ (IS _ _ t3 id) q2) q2
 refine s4 (eF.cK.trans P5) (P4 ap) t 99 fY _ (by right) (le.cv ak) aA akn λ hD hO=>?_
 left
 have hd:=HG (C:=g8) (cZ op t)
 have ab:=oJ (o:=op) t
 have aF:fu hD .eq (g8.enc (cZ op t)) (g8.enc (cZ op t))=B G:=by
  show(if f6 (g8.enc (cZ op t))=G/\f6 (g8.enc (cZ op t))=G/\h2 (g8.enc (cZ op t))<=60/\h2 (g8.enc (cZ op t))<=60 then lO (g8.enc (cZ op t)) (g8.enc (cZ op t))else J)=_
  rw[aQ ⟨hd.1,hd.1,by right,by right⟩]
  exact P1 _ hd.1
 rw[aF]
 left
 exact q hD
theorem ako(pure:PP){cD:List Int}(bb:cD.length<=63)(q: ∀D,Q (.bool G) D):aj 101 565 [.fi (cD.map .int)] j Q:=by
 refine ajQ (k:=95) bb λ a f n p i o A O C T aP gy be bc h ok=>?_
 refine aj0 (k:=92) bb h λ gv bA gy be bc bp bl t le Z lC ay=>?_
 refine aj6 (k:=99) (t:=t) Z λ dR ek op ap t3 q2 aE=>?_
 obtain⟨au,ps,r⟩:=pure T op t ok ap lC.fit ay
 exact akh aE ap t3 q2 lC.f5 lC.fit ay r q
end
end
section
noncomputable def scan(I:bY):Bool->List a8->Option (List (e9×cb))
 |true,[]=>J
 |false,[]=>B []
 |true, .t _::r=>scan I U r
 |false, .t _::_=>J
 |true, .nm s::r=>if I.op s then(match I.pre.lookup s with
  |some e=>(scan I G r).map ((.pre,e):: ·)
  |none=>J)else scan I U r
 |false, .nm s::r=>match I.inf.lookup s with
  |some e=>(scan I G r).map ((.inf,e):: ·)
  |none=>match I.post.lookup s with
   |some e=>(scan I U r).map ((.post,e):: ·)
   |none=>J
noncomputable def eO:List (e9×cb)->Nat
 | []=>0
 |x::l=>max x.2.1 (eO l)
variable{I:bY}
theorem p0: ∀{a b:List (e9×cb)},eO (a++b)=max (eO a) (eO b)
 | [],b=>(Nat.zero_max _).symm
 |x::a,b=>by
  show max x.2.1 (eO (a++b))=max (max x.2.1 (eO a)) (eO b)
  rw[p0,Nat.max_assoc]
theorem Cd: ∀{a:List (e9×cb)} {s:e9×cb},s∈a->s.2.1<=eO a
 |x::a,s,h=>by
  show s.2.1<=max x.2.1 (eO a)
  rcases eV.mp h with rfl|h
  .exact IT ..
  .exact ca (Cd h) (P6 ..)
theorem ms{e:cb}:d6 e<=e.1:=by unfold d6;split;exact dt _;exact A4 _ _
theorem vm{a b c:Nat}(Y:a<=c)(Z:b<=c):max a (max c b)=c:=by rw[P7 Z,Nat.max_eq_right Y]
theorem mv{e:cb}:dh e<=e.1:=by unfold dh;split;exact dt _;exact A4 _ _
theorem P8{s:ai}{e:cb}(h:I.pre.lookup s=B e):I.op s=G:=by unfold bY.op;rw[h];rfl
theorem Ce{s:ai}{r:List a8}:scan I G (.nm s::r)=if I.op s then(match I.pre.lookup s with
  |some e=>(scan I G r).map ((.pre,e):: ·)
  |none=>J)else scan I U r:=rfl
theorem Cf{s:ai}{r:List a8}:scan I U (.nm s::r)=match I.inf.lookup s with
  |some e=>(scan I G r).map ((.inf,e):: ·)
  |none=>match I.post.lookup s with
   |some e=>(scan I U r).map ((.post,e):: ·)
   |none=>J:=rfl
theorem nw: ∀{a b:List a8} {w:Bool} {l:List (e9×cb)},scan I w a=B l->scan I w (a++b)=(scan I U b).map (l++ ·)
 | [],b,G,l,h=>nomatch h
 | [],b,U,l,h=>by
  injection h with h
  rw[<-h]
  show scan I U b=(scan I U b).map λ x=>x
  rw[Option.map_id']
 | .t _::r,b,G,l,h=>nw (a:=r) (w:=false) h
 | .t _::r,b,U,l,h=>nomatch h
 | .nm s::r,b,G,l,h=>by
  rw[jz,Ce]
  rw[Ce]at h
  by_cases ba:I.op s
  .rw[aQ ba]at h ⊢
   cases aT:I.pre.lookup s with
   |none=>rw[aT]at h;cases h
   |some e=>
    rw[aT]at h
    dsimp only at h ⊢
    obtain⟨cS,Y,rfl⟩:=qM.mp h
    rw[nw Y,P9];rfl
  .rw[aL ba]at h ⊢
   exact nw h
 | .nm s::r,b,U,l,h=>by
  rw[jz,Cf]
  rw[Cf]at h
  cases bo:I.inf.lookup s with
  |some e=>
   rw[bo]at h
   dsimp only at h ⊢
   obtain⟨cS,Y,rfl⟩:=qM.mp h
   rw[nw Y,P9];rfl
  |none=>
   rw[bo]at h
   dsimp only at h ⊢
   cases aT:I.post.lookup s with
   |none=>rw[aT]at h;cases h
   |some e=>
    rw[aT]at h
    dsimp only at h ⊢
    obtain⟨cS,Y,rfl⟩:=qM.mp h
    rw[nw Y,P9];rfl
theorem IU{s:ai}{e:cb}{r:List a8}(h:I.inf.lookup s=B e):scan I U (.nm s::r)=(scan I G r).map ((.inf,e):: ·):=by
 rw[Cf,h]
theorem Qa{s:ai}{e:cb}{r:List a8}(h:I.post.lookup s=B e)(bo:I.inf.lookup s=J):scan I U (.nm s::r)=(scan I U r).map ((.post,e):: ·):=by
 rw[Cf,bo,h]
theorem IV{s:ai}{e:cb}{r:List a8}(h:I.pre.lookup s=B e):scan I G (.nm s::r)=(scan I G r).map ((.pre,e):: ·):=by
 rw[Ce,aQ (P8 h),h]
theorem Qb{s:ai}{r:List a8}(h:I.op s=U):scan I G (.nm s::r)=scan I U r:=by
 rw[Ce,aL (by rw[h];exact fV)]
def Sep(I:bY):Prop:= ∀s e,I.post.lookup s=B e->I.inf.lookup s=J
theorem IW{f:ai}{g:cb->Nat}{ts:Option cb}{r:Option (T×Nat)}{x:T×Nat}(h:pz f g ts r=B x): ∃e u l,ts=B e/\r=B (u,l)/\l<=g e/\x=(.bf f u,e.1):=by
 cases ts with
 |none=>cases h
 |some e=>cases r with
  |none=>cases h
  |some u=>
   obtain⟨u,l⟩:=u
   have h:(if l<=g e then B (T.bf f u,e.1)else J)=B x:=h
   split at h
   .rename_i c;injection h with h;exact⟨e,u,l,rfl,rfl,c,h.symm⟩
   .cases h
theorem Qc{f:ai}{ts:Option cb}{a5 c7:Option (T×Nat)}{x:T×Nat}(h:kP f ts a5 c7=B x): ∃e u l v m,ts=B e/\a5=B (u,l)/\c7=B (v,m)/\l<=d6 e/\m<=dh e/\x=(.a3 f u v,e.1):=by
 cases ts with
 |none=>cases h
 |some e=>cases a5 with
  |none=>cases h
  |some u=>cases c7 with
   |none=>cases h
   |some v=>
    obtain⟨u,l⟩:=u
    obtain⟨v,m⟩:=v
    have h:(if l<=d6 e/\m<=dh e then B (T.a3 f u v,e.1)else J)=B x:=h
    split at h
    .rename_i c;injection h with h;exact⟨e,u,l,v,m,rfl,rfl,rfl,c.1,c.2,h.symm⟩
    .cases h
theorem Cg{b:List a8->Option (T×Nat)}{ps:List a8}{x:T×Nat}: ∀{n m:Nat},hu I b ps n m=B x-> ∃aU f,ps[aU]?=B (.nm f)/\kP f (I.inf.lookup f) (b (ps.take aU)) (b (ps.drop (aU+1)))=B x
 |0,m,h=>nomatch h
 |n+1,m,h=>by
  cases aT:ps[m]? with
  |none=>rw[hu,aT]at h;exact Cg h
  |some q=>cases q with
   |t t=>rw[G5 aT]at h;exact Cg h
   |nm f=>
    rw[wM aT]at h
    cases az:kP f (I.inf.lookup f) (b (ps.take m)) (b (ps.drop (m+1)))with
    |some y=>rw[az,BU]at h;exact⟨m,f,aT,by rw[az,h]⟩
    |none=>rw[az,Ch]at h;exact Cg h
theorem Qd{ps:List a8}{aU:Nat}{q:a8}(h:ps[aU]?=B q):ps=ps.take aU++q::ps.drop (aU+1):=by
 obtain⟨fb,e⟩:=jl.mp h
 rw[<-e, <-Ni fb,List.take_append_drop]
theorem xP(ab:Sep I): ∀(d:Nat) (ps:List a8) (x:T×Nat),n9 I d ps=B x-> ∃os,scan I G ps=B os/\x.2=eO os
 |0,ps,x,h=>nomatch h
 |d+1,[],x,h=>nomatch h
 |d+1,[.t t],x,h=>by
  injection h with h
  exact⟨[],rfl,by rw[<-h];rfl⟩
 |d+1,[.nm s],x,h=>by
  have h:(if s≠ [44]/\s≠ [124]/\I.op s=U then B (T.a s,0)else J)=B x:=h
  split at h
  .rename_i c
   injection h with h
   exact⟨[],Qb c.2.2,by rw[<-h];rfl⟩
  .cases h
 |d+1,p::q::r,x,h=>by
  have h:(pv I (n9 I d) (p::q::r)).or ((hu I (n9 I d) (p::q::r) r.length 1).or (ls I (n9 I d) (p::q::r)))=B x:=h
  rcases akp.mp h with h|⟨_,h⟩
  .cases p with
   |t t=>cases h
   |nm f=>
    rw[A5]at h
    obtain⟨e,u,l,Y,Z,aE,rfl⟩:=IW h
    obtain⟨os,bt,b2⟩:=xP ab d _ _ Z
    refine⟨_,by rw[IV Y,bt];rfl,?_⟩
    exact(P7 (ca (ca (lp b2.symm) aE) mv)).symm
  .rcases akp.mp h with h|⟨_,h⟩
   .obtain ⟨aU,f,fb,h⟩:=Cg h
    obtain⟨e,u,l,v,m,Y,Z,aE,bv,cw,rfl⟩:=Qc h
    obtain⟨o4,bt,b2⟩:=xP ab d _ _ Z
    obtain⟨ES,eF,jt⟩:=xP ab d _ _ aE
    rw[Qd fb]
    refine⟨_,by rw[nw bt,IU Y,eF];rfl,?_⟩
    show e.1=eO (o4++(e9.inf,e)::ES)
    rw[p0]
    exact(vm (ca (ca (lp b2.symm) bv) ms) (ca (ca (lp jt.symm) cw) mv)).symm
   .cases ah:(p::q::r).getLast? with
    |none=>unfold ls at h;rw[ah]at h;cases h
    |some y=>cases y with
     |t t=>rw[Nm ah]at h;cases h
     |nm f=>
      rw[G4 ah]at h
      obtain⟨e,u,l,Y,Z,aE,rfl⟩:=IW h
      obtain⟨os,bt,b2⟩:=xP ab d _ _ Z
      have ao:(p::q::r)=(p::q::r).dropLast++ [.nm f]:=by
       rewrite[w4 (by simp)]at ah
       injection ah with ah
       rw[<-ah,List.dropLast_concat_getLast]
      rw[ao]
      refine⟨_,by rw[nw bt,Qa Y (ab f e Y)];rfl,?_⟩
      show e.1=eO (os++ [(e9.post,e)])
      rw[p0]
      exact(vm (ca (ca (lp b2.symm) aE) ms) (eh _)).symm
end
section
variable{I:bY}
structure Good(I:bY)(P:List a8)(v:T)(os:List (e9×cb)):Prop where
 sc:scan I G P=B os
 e8:d1 I P=B (v,eO os)
def ks(q:Nat)(os:List (e9×cb)):Prop:= ∀s∈os,s.2.1=q->md s≠q
theorem Qe(ab:Sep I){P:List a8}{x:T×Nat}(h:d1 I P=B x): ∃os,scan I G P=B os/\x.2=eO os:=xP ab _ _ _ h
theorem Good.ne{P:List a8}{v:T}{os:List (e9×cb)}(g:Good I P v os):P≠ []:= λ e=>by have:=g.sc;rw[e]at this;cases this
section
variable{a7 fA:List a8}{f:ai}{k:e9}{e:cb}{gh nx:List (e9×cb)}
theorem Qf(ab:Sep I){a b:List a8}{g:ai}{s:e9×cb}{l:List (e9×cb)}(hY:gh=l++s::IX)(aG:eO gh<=e.1)(ap:ks e.1 gh)(aO:md s=dh s.2)
  {x:T×Nat} (az:d1 I (b++ .nm f::fA)=B x) (ah:x.2<=dh s.2) (akq:scan I G b=B IX) (bb: ∃nx,scan I U (.nm f::fA)=B ((k,e)::nx)\/scan I U (.nm f::fA)=J):False:=by
 obtain⟨os,Y,Z⟩:=Qe ab az
 rw[nw akq]at Y
 obtain⟨nx,aE|aE⟩:=bb
 .rw[aE]at Y
  injection Y with Y
  have vc:s∈gh:=by rw[hY];exact oj _ (eT ..)
  have bz:=Cd vc
  have cO:e.1<=eO os:=by rw[<-Y];exact Cd (s:=(k,e)) (oj _ (eT ..))
  have iC:=mv (e:=s.2)
  exact ap s vc (by right) (by rw[aO];right)
 .rw[aE]at Y;cases Y
theorem Qg(ab:Sep I)(hY:scan I G a7=B gh)(aG:eO gh<=e.1)(ap:ks e.1 gh)(bb: ∃nx,scan I U (.nm f::fA)=B ((k,e)::nx)\/scan I U (.nm f::fA)=J):pv I (d1 I) (a7++ .nm f::fA)=J:=by
 cases a7 with
 |nil=>cases hY
 |cons p a7=>
  cases p with
  |t t=>rfl
  |nm g=>
   rw[jz,A5]
   cases bE:pz g dh (I.pre.lookup g) (d1 I (a7++ .nm f::fA))with
   |none=>rfl
   |some x=>
    obtain⟨dL,u,l,Y,Z,aE,rfl⟩:=IW bE
    rw[IV Y]at hY
    obtain⟨IX,bv,cw⟩:=qM.mp hY
    exact(Qf ab (a:=[]) (g:=g) (l:=[]) (s:=(.pre,dL)) cw.symm aG ap rfl Z aE bv bb).elim
theorem Qh(ab:Sep I)(hY:scan I G a7=B gh)(aG:eO gh<=e.1)(ap:ks e.1 gh)(bb: ∃nx,scan I U (.nm f::fA)=B ((k,e)::nx)\/scan I U (.nm f::fA)=J){aU:Nat}{g:ai}(fb:aU<a7.length)(aM:a7[aU]?=B (.nm g)):
  kP g (I.inf.lookup g) (d1 I ((a7++ .nm f::fA).take aU)) (d1 I ((a7++ .nm f::fA).drop (aU+1)))=J:=by
 rw[List.take_append_of_le_length (k5 fb),List.drop_append_of_le_length fb]
 cases bE:kP g (I.inf.lookup g) (d1 I (a7.take aU)) (d1 I (a7.drop (aU+1)++ .nm f::fA))with
 |none=>rfl
 |some x=>
  obtain⟨dL,u,l,v,m,Y,Z,aE,bv,cw,rfl⟩:=Qc bE
  obtain⟨o4,bt,_⟩:=Qe ab Z
  rw[Qd aM,nw bt,IU Y]at hY
  obtain⟨am9,hj,kH⟩:=qM.mp hY
  obtain⟨IX,jk,HW⟩:=qM.mp hj
  subst HW
  exact(Qf ab (a:=[]) (g:=g) (l:=o4) (s:=(.inf,dL)) kH.symm aG ap rfl aE cw jk bb).elim
theorem Qi{ps:List a8}{b:List a8->Option (T×Nat)}: ∀(aU n m:Nat),(∀i g,m<=i->i<m+aU->ps[i]?=B (.nm g)->kP g (I.inf.lookup g) (b (ps.take i)) (b (ps.drop (i+1)))=J)->hu I b ps (aU+n) m=hu I b ps n (m+aU):=by
 intro b0;induction b0 with
 |zero=>
  intro n m h
  rw[mN];rfl
 |succ aU aB=>
  intro n m h
  have aB:=aB n (m+1) λ i g Y Z aE=>h i g (by right) (by right) aE
  rw[show aU+1+n=aU+n+1 by right,show m+(aU+1)=m+1+aU by right, <-aB]
  cases aT:ps[m]? with
  |none=>rw[hu,aT]
  |some q=>cases q with
   |t t=>rw[G5 aT]
   |nm g=>rw[wM aT,h m g (dt _) (by right) aT,Ch]
theorem akr{t:T}:Good I [.t t] t []:=⟨rfl,rfl⟩
theorem aks{s:ai}(ba:I.op s=U)(h:s≠ [44]/\s≠ [124]):Good I [.nm s] (.a s) []:=by
 refine⟨Qb ba,?_⟩
 show(if s≠ [44]/\s≠ [124]/\I.op s=U then B (T.a s,0)else J)=_
 rw[aQ ⟨h.1,h.2,ba⟩];rfl
theorem akt{a7:List a8}{p:a8}(h:a7≠ []):2<=(p::a7).length:=by
 cases a7 with
 |nil=>exact(h rfl).elim
 |cons q a7=>exact kG 2 _
theorem aku{v:T}(g:Good I a7 v gh)(h:I.pre.lookup f=B e)(aG:eO gh<=dh e):Good I (.nm f::a7) (.bf f v) ((.pre,e)::gh):=by
 have gp:=mv (e:=e)
 refine⟨by rw[IV h,g.sc];rfl,?_⟩
 rw[A3 (akt g.ne)]
 unfold above
 rw[A5,h,g.e8,show pz f dh (B e) (B (v,eO gh))=B (.bf f v,e.1)from aQ aG,BU]
 show B (T.bf f v,e.1)=B (T.bf f v,max e.1 (eO gh))
 rw[P7 (ca aG mv)]
theorem akv{v:T}(ab:Sep I)(g:Good I a7 v gh)(h:I.post.lookup f=B e)(aG:eO gh<=d6 e)(ap:ks e.1 gh):Good I (a7++ [.nm f]) (.bf f v) (gh++ [(.post,e)]):=by
 have aF:eO gh<=e.1:=ca aG ms
 have sc:scan I U [a8.nm f]=B [(.post,e)]:=by rw[Qa h (ab f e h)];rfl
 have bb: ∃nx,scan I U (.nm f:: [])=B ((e9.post,e)::nx)\/scan I U (.nm f:: [])=J:=⟨[], .inl sc⟩
 have ah:0<a7.length:=uR.mpr g.ne
 have cW:1+(a7.length - 1)=a7.length:=by rw[hS];exact A2 ah
 have aq:(a7++ [a8.nm f]).length=a7.length+1:=by rw[bK];rfl
 refine⟨by rw[nw g.sc,sc];rfl,?_⟩
 rw[A3 (by rw[aq];exact jI ah)]
 unfold above
 rw[Qg ab g.sc aF ap bb,Ch,aq]
 have aH:hu I (d1 I) (a7++ [a8.nm f]) (a7.length+1 - 2) 1=J:=by
  have:=Qi (I:=I) (ps:=a7++ [a8.nm f]) (b:=d1 I) (a7.length - 1) 0 1 λ i ht Y Z aE=>Qh ab g.sc aF ap bb (cW▸Z) (by rw[MG (cW▸Z)]at aE;exact aE)
  rw[show a7.length+1 - 2=a7.length - 1+0 from akw a7.length 1,this];rfl
 rw[aH,Ch,G4 (by rw[jR]),Nv,h,g.e8,show pz f d6 (B e) (B (v,eO gh))=B (.bf f v,e.1)from aQ aG,p0]
 show B (T.bf f v,e.1)=B (T.bf f v,max (eO gh) (max e.1 0))
 rw[vm aF (eh _)]
theorem akx{v w:T}{h0:List a8}{vn:List (e9×cb)}(ab:Sep I)(g:Good I a7 v gh)(ht:Good I h0 w vn)(h:I.inf.lookup f=B e)(aG:eO gh<=d6 e)(gF:eO vn<=dh e)(ap:ks e.1 gh):
  Good I (a7++ .nm f::h0) (.a3 f v w) (gh++(.inf,e)::vn):=by
 have aF:eO gh<=e.1:=ca aG ms
 have sc:scan I U (.nm f::h0)=B ((.inf,e)::vn):=by rw[IU h,ht.sc];rfl
 have bb: ∃nx,scan I U (.nm f::h0)=B ((e9.inf,e)::nx)\/scan I U (.nm f::h0)=J:=⟨_, .inl sc⟩
 have ah:0<a7.length:=uR.mpr g.ne
 have gB:0<h0.length:=uR.mpr ht.ne
 have cW:1+(a7.length - 1)=a7.length:=by rw[hS];exact A2 ah
 have aq:(a7++ .nm f::h0).length=a7.length+(h0.length+1):=by rw[bK];rfl
 refine⟨by rw[nw g.sc,sc];rfl,?_⟩
 rw[A3 (by rw[aq];exact No ah (jI (eh _)))]
 unfold above
 rw[Qg ab g.sc aF ap bb,Ch,aq]
 have aH:hu I (d1 I) (a7++a8.nm f::h0) (a7.length+(h0.length+1) - 2) 1=B (.a3 f v w,e.1):=by
  have:=Qi (I:=I) (ps:=a7++ .nm f::h0) (b:=d1 I) (a7.length - 1) h0.length 1 λ i ht Y Z aE=>Qh ab g.sc aF ap bb (cW▸Z) (by rw[MG (cW▸Z)]at aE;exact aE)
  rw[show a7.length+(h0.length+1) - 2=a7.length - 1+h0.length from(akw (a7.length+h0.length) 1).trans (Nat.sub_add_comm ah),this,cW]
  obtain⟨n,aq⟩: ∃n,h0.length=n+1:=⟨h0.length - 1,(A2 gB).symm⟩
  rw[aq,wM (f:=f) (by rw[sr (dt _),H4];rfl),aif,show(a7++ .nm f::h0).drop (a7.length+1)=h0 by rw[ah4,Fd (gc _ 1),sC];rfl,
   h,g.e8,ht.e8,show kP f (B e) (B (v,eO gh)) (B (w,eO vn))=B (.a3 f v w,e.1)from aQ ⟨aG,gF⟩,BU]
 rw[aH,BU,p0]
 show B (T.a3 f v w,e.1)=B (T.a3 f v w,max (eO gh) (max e.1 (eO vn)))
 rw[vm aF (ca gF mv)]
end
end
section
noncomputable def eD(I:bY)(o:du):T->Nat->Bool->List a8
 | .a s,_,alone=>if !alone&&I.op s then [.t (.a s)]else if s=[44]\/s=[124]then [.t (.a s)]else [.nm s]
 | .bf f x,dN,_=>match fa I o (.bf f x)with
   |some (.pre,e)=>if dN<e.1 then [.t (cZ o (.bf f x))]else .nm f::eD I o x (dh e) U
   |some (_,e)=>if dN<e.1 then [.t (cZ o (.bf f x))]else eD I o x (e3 I o x e.1 (d6 e)) U++ [.nm f]
   |none=> [.t (cZ o (.bf f x))]
 | .a3 f x y,dN,_=>match fa I o (.a3 f x y)with
   |some (_,e)=>if dN<e.1 then [.t (cZ o (.a3 f x y))]else eD I o x (e3 I o x e.1 (d6 e)) U++ .nm f::eD I o y (dh e) U
   |none=> [.t (cZ o (.a3 f x y))]
 |u,_,_=> [.t (cZ o u)]
theorem IY{I:bY}{o:du}{s:ai}{m:Nat}{bC:Bool}:eD I o (.a s) m bC=if !bC&&I.op s then [.t (.a s)]else if s=[44]\/s=[124]then [.t (.a s)]else [.nm s]:=rfl
theorem ny{I:bY}{o:du}{f:ai}{x:T}{dN:Nat}{bC:Bool}:eD I o (.bf f x) dN bC=(match fa I o (.bf f x)with
   |some (.pre,e)=>if dN<e.1 then [.t (cZ o (.bf f x))]else .nm f::eD I o x (dh e) U
   |some (_,e)=>if dN<e.1 then [.t (cZ o (.bf f x))]else eD I o x (e3 I o x e.1 (d6 e)) U++ [.nm f]
   |none=> [.t (cZ o (.bf f x))]):=rfl
theorem rx{I:bY}{o:du}{f:ai}{x y:T}{dN:Nat}{bC:Bool}:eD I o (.a3 f x y) dN bC=(match fa I o (.a3 f x y)with
   |some (_,e)=>if dN<e.1 then [.t (cZ o (.a3 f x y))]else eD I o x (e3 I o x e.1 (d6 e)) U++ .nm f::eD I o y (dh e) U
   |none=> [.t (cZ o (.a3 f x y))]):=rfl
structure Fine(I:bY):Prop where
 sep:Sep I
 pre: ∀s e,I.pre.lookup s=B e->0<e.1/\e.1<=1200
 inf: ∀s e,I.inf.lookup s=B e->0<e.1/\e.1<=1200
 post: ∀s e,I.post.lookup s=B e->0<e.1/\e.1<=1200
variable{I:bY}{o:du}
theorem Ci{f:ai}{x:T}(h:hE o f x=J):cZ o (.bf f x)= .bf f (cZ o x):=by rw[uC,h]
def Cj(I:bY)(o:du)(u:T)(dN:Nat)(os:List (e9×cb)):Prop:=
 Good I (eD I o u dN U) (cZ o u) os/\eO os<=dN/\ ∀q,0<q->eO os<=q->(∀s,fa I o u=B s-> ¬(s.2.1=q/\md s=q))->ks q os
theorem IZ{q:Nat}{os:List (e9×cb)}(h:eO os<q):ks q os:= λ s ab e=>absurd (Cd ab) (Nat.not_le.mpr (by rw[e];exact h))
theorem vo{x:T}{q m:Nat}(h:m<=q)(h':q - 1<=m):e3 I o x q m<=m:=by
 unfold e3
 split
 .split
  .exact h'
  .exact dt _
 .exact dt _
theorem ry{e:cb}:e.1 - 1<=d6 e:=by unfold d6;split;exact A4 _ _;exact dt _
theorem I0{x:T}{q m:Nat}{os:List (e9×cb)}(co:0<q)(aG:m<=q)(gF:q - 1<=m)(h:Cj I o x (e3 I o x q m) os):ks q os:=by
 by_cases c: ∃s,fa I o x=B s/\s.2.1=q/\md s=q
 .obtain ⟨s,Y,Z⟩:=c
  have aE:=h.2.1
  unfold e3 at aE
  rw[Y]at aE
  dsimp only at aE
  rw[aQ Z]at aE
  exact IZ (dP aE (uE co jx))
 .exact h.2.2 q co (ca (ca h.2.1 (vo aG gF)) aG) λ s ab co=>c ⟨s,ab,co⟩
theorem I1{q:Nat}{s:e9×cb}{os:List (e9×cb)}(h:s.2.1=q->md s≠q)(h':ks q os):ks q (s::os):= λ x aJ=>by
 rcases eV.mp aJ with rfl|aJ
 .exact h
 .exact h' x aJ
theorem Qj{q:Nat}{os xQ:List (e9×cb)}(h:ks q os)(h':ks q xQ):ks q (os++xQ):= λ x aJ=>(iG.mp aJ).elim (h x) (h' x)
theorem Qk{q:Nat}{s:e9×cb}{os:List (e9×cb)}(aO:md s=dh s.2)(h:eO os<=dh s.2)(co:s.2.1<=q)(ab: ¬(s.2.1=q/\md s=q)):ks q os:=by
 by_cases c:eO os<q
 .exact IZ c
 .exact (ab ⟨zC co (ca (mc.mp c) (ca h mv)),aO.trans (zC (ca mv co) (ca (mc.mp c) h))⟩).elim
theorem Ql{x:T}{p q m:Nat}{os:List (e9×cb)}(aT:0<p)(co:p<=q)(aG:m<=p)(gF:p - 1<=m)(h:Cj I o x (e3 I o x p m) os):ks q os:=by
 by_cases c:p=q
 .subst c;exact I0 aT aG gF h
 .exact IZ (dP (ca h.2.1 (ca (vo aG gF) aG)) (Nat.lt_of_le_of_ne co c))
theorem oK{u:T}{m:Nat}(h:eD I o u m U=[.t (cZ o u)]): ∃os,Cj I o u m os:=
 ⟨[],by rw[h];exact akr,eh _,λ q _ _ _ s ab=>nomatch ab⟩
theorem aky(aA:Fine I): ∀(u:T) (dN:Nat), ∃os,Cj I o u dN os:=by
 intro b0;induction b0 with
 |v k=>
  intro m
  exact oK rfl
 |n s=>
  intro m
  exact oK rfl
 |i z=>
  intro m
  exact oK rfl
 |a s=>
  intro m
  have e:eD I o (.a s) m U=if I.op s then [.t (.a s)]else if s=[44]\/s=[124]then [.t (.a s)]else [.nm s]:=by rw[IY];rfl
  by_cases ba:I.op s
  .exact oK (by rw[e,aQ ba];rfl)
  .by_cases ap:s=[44]\/s=[124]
   .exact oK (by rw[e,aL ba,aQ ap];rfl)
   .rw[aL ba,aL ap]at e
    exact⟨[],by rw[e];exact aks (Bool.eq_false_iff.mpr ba) ⟨λ q=>ap (.inl q),λ q=>ap (.inr q)⟩,eh _,λ q _ _ _ s ab=>nomatch ab⟩
 |dp f x y z dY eU jT=>
  intro m
  exact oK rfl
 |bf f x dY=>
  intro m
  cases ab:fa I o (.bf f x)with
  |none=>exact oK (by rw[ny,ab])
  |some s=>
   obtain⟨k,e⟩:=s
   obtain⟨bo,vj,aq,h⟩:=sy ab
   by_cases aG:m<e.1
   .refine oK ?_
    rw[ny,ab]
    cases k<;>exact aQ aG
   .rcases h with⟨rfl,h,_⟩|⟨rfl,h,_⟩
    .obtain ⟨os,g,Y,Z⟩:=dY (dh e)
     have aT:eD I o (.bf f x) m U= .nm f::eD I o x (dh e) U:=by rw[ny,ab];exact aL aG
     have gp:=mv (e:=e)
     refine⟨(.pre,e)::os,?_,?_,λ q co ah eM=>?_⟩
     .rw[aT,Ci aq]
      exact aku g h Y
     .exact pH.mpr ⟨mc.mp aG,ca (ca Y gp) (mc.mp aG)⟩
     .have ah:max e.1 (eO os)<=q:=ah
      have:=eM _ ab
      exact I1 (λ a b=>this ⟨a,b⟩) (Qk (s:=(.pre,e)) rfl Y (ca (IT _ _) ah) this)
    .obtain ⟨os,p1⟩:=dY (e3 I o x e.1 (d6 e))
     have pos:=(aA.post f e h).1
     have th:=vo (I:=I) (o:=o) (x:=x) ms (ry (e:=e))
     have aT:eD I o (.bf f x) m U=eD I o x (e3 I o x e.1 (d6 e)) U++ [.nm f]:=by rw[ny,ab];exact aL aG
     have gp:=ms (e:=e)
     have Y:=p1.2.1
     refine⟨os++ [(.post,e)],?_,?_,λ q co ah eM=>?_⟩
     .rw[aT,Ci aq]
      exact akv aA.sep p1.1 h (ca Y th) (I0 pos gp ry p1)
     .rw[p0];exact ca (lp (vm (ca (ca Y th) gp) (eh _))) (mc.mp aG)
     .rw[p0]at ah
      have ah:max (eO os) (max e.1 0)<=q:=ah
      exact Qj (Ql pos (ca (ca (IT _ _) (P6 _ _)) ah) gp ry p1) (I1 (λ _=>zr co) λ _ h=>nomatch h)
 |a3 f x y dY eU=>
  intro m
  cases ab:fa I o (.a3 f x y)with
  |none=>exact oK (by rw[rx,ab])
  |some s=>
   obtain⟨k,e⟩:=s
   obtain⟨bo,vj,rfl,h⟩:=uD ab
   by_cases aG:m<e.1
   .refine oK ?_
    rw[rx,ab]
    exact aQ aG
   .obtain ⟨os,p1⟩:=dY (e3 I o x e.1 (d6 e))
    obtain⟨xQ,ht,I2,ana⟩:=eU (dh e)
    have pos:=(aA.inf f e h).1
    have th:=vo (I:=I) (o:=o) (x:=x) ms (ry (e:=e))
    have aT:eD I o (.a3 f x y) m U=eD I o x (e3 I o x e.1 (d6 e)) U++ .nm f::eD I o y (dh e) U:=by rw[rx,ab];exact aL aG
    have gp:=ms (e:=e)
    have akz:=mv (e:=e)
    have Y:=p1.2.1
    refine⟨os++(.inf,e)::xQ,?_,?_,λ q co ah eM=>?_⟩
    .rw[aT]
     exact akx aA.sep p1.1 ht h (ca Y th) I2 (I0 pos gp ry p1)
    .rw[p0];exact ca (lp (vm (ca (ca Y th) gp) (ca I2 akz))) (mc.mp aG)
    .rw[p0]at ah
     have ah:max (eO os) (max e.1 (eO xQ))<=q:=ah
     have:=eM _ ab
     have Qm:e.1<=q:=ca (ca (IT _ _) (P6 _ _)) ah
     exact Qj (Ql pos Qm gp ry p1) (I1 (λ a b=>this ⟨a,b⟩) (Qk (s:=(.inf,e)) rfl I2 Qm this))
theorem akA{u:T}(h: ∀s,u≠ .a s): ∀s,cZ o u≠ .a s:= λ s=>by
 cases u with
 |a s=>exact(h s rfl).elim
 |bf f x=>
  cases aq:hE o f x with
  |none=>rw[Ci aq];exact nofun
  |some k=>rw[uC,aq];exact nofun
 |_=>exact nofun
theorem rz(aA:Fine I)(u:T)(m r:Nat)(aO:m<=r):hG I (eD I o u m G) r=B (cZ o u):=by
 have gen:(∀s,u≠ .a s)->eD I o u m G=eD I o u m U->hG I (eD I o u m G) r=B (cZ o u):= λ bE e=>by
  obtain⟨os,g,aG,_⟩:=aky (o:=o) aA u m
  rw[e]
  generalize eD I o u m U=P at g
  have:hG I P r=match d1 I P with
   |some (u,l)=>if l<=r then B u else J
   |none=>J:=by
   unfold hG
   split
   .rename_i s
    have:=g.e8
    rw[Nc]at this
    have:(if s≠ [44]/\s≠ [124]/\I.op s=U then B (T.a s,0)else J)=B (cZ o u,eO os):=this
    split at this
    .injection this with this
     injection this with this
     exact(akA bE s this.symm).elim
    .cases this
   .rfl
  rw[this,g.e8]
  exact aQ (ca aG aO)
 cases u with
 |a s=>
  have e:eD I o (.a s) m G=if s=[44]\/s=[124]then [.t (.a s)]else [.nm s]:=by rw[IY];rfl
  rw[e]
  by_cases ap:s=[44]\/s=[124]
  .rw[aQ ap]
   show(if 0<=r then B (T.a s)else J)=_
   rw[aQ (eh r)];rfl
  .rw[aL ap];exact aL ap
 |_=>exact gen nofun rfl
theorem Qn(aA:Fine I)(u:T)(bC:Bool):eD I o u 1201 bC=eD I o u 1200 bC:=by
 cases u with
 |bf f x=>
  rw[ny,ny]
  cases ab:fa I o (.bf f x)with
  |none=>rfl
  |some s=>
   obtain⟨k,e⟩:=s
   obtain⟨_,_,_,h⟩:=sy ab
   rcases h with⟨rfl,h,_⟩|⟨rfl,h,_⟩
   .have:=(aA.pre f e h).2
    dsimp only
    rw[aL (by right),aL (by right)]
   .have:=(aA.post f e h).2
    dsimp only
    rw[aL (by right),aL (by right)]
 |a3 f x y=>
  rw[rx,rx]
  cases ab:fa I o (.a3 f x y)with
  |none=>rfl
  |some s=>
   obtain⟨k,e⟩:=s
   obtain⟨_,_,_,h⟩:=uD ab
   have:=(aA.inf f e h).2
   dsimp only
   rw[aL (by right),aL (by right)]
 |_=>rfl
end
noncomputable def cI.toks(g:Bool):cI->List Tok
 | .sp=> []
 | .pu c=> [(.pu c,g)]
 | .nm s=>if s=[91,93]then [(.pu 91,g),(.pu 93,G)]else if s=[123,125]then [(.pu 123,g),(.pu 125,G)]else if g4 s then [(.nm s,g)]else [(.gE s,g)]
 | .it z=>if z<0 then [(.nm [45],g),(.it z.natAbs,G)]else [(.it z.natAbs,g)]
 | .aX s=> [(.aX s,g)]
noncomputable def kX:Bool->List cI->List Tok
 |_,[]=> []
 |g,p::r=>p.toks g++kX (decide (p≠ .sp)) r
def p2(p:cI)(c:Nat):Prop:=match p with
 | .sp| .pu _=>True
 | .nm s=>if s=[91,93]\/s=[123,125]\/s=[33]\/s=[59]then True else if n7 s then eJ c=U else if g4 s then fg c=U else c≠39
 | .it _| .aX _=>eJ c=U
def rA:List cI->Prop
 | []=>True
 | [_]=>True
 |p::q::r=>p2 p (q.cX.headD 0)/\rA (q::r)
def jB:cI->Prop
 | .sp=>True
 | .pu c=>c∈([40,41,91,93,123,125,44,124]:ai)
 | .nm s=>s∈di
 | .it z=>z.natAbs<10^60
 | .aX s=>s.length<=1000/\ ∃c u,s=c::u/\(n6 c||decide (c=95))=G/\u.all eJ=G
theorem Qo{q:cI}: ∀{l:List cI},rA l->(∀p,l.getLast?=B p->p2 p (q.cX.headD 0))->rA (l++ [q])
 | [],_,_=>trivial
 | [p],_,h=>⟨h p rfl,trivial⟩
 |p::r::l,a,h=>⟨a.1,Qo (l:=r::l) a.2 λ x aJ=>h x (by rw[I3];exact aJ)⟩
theorem I4{n:Nat}(h:n<10^60):(cY n).length<=60:=px h (by decide)
theorem Qp{p:cI}(h:jB p):p.cX≠ []:=by
 cases p with
 |sp=>exact nofun
 |pu c=>exact nofun
 |nm s=>
  show g5 s≠ []
  unfold g5
  split
  .intro e;subst e;rename_i h;exact absurd h (by decide)
  .exact nofun
 |it z=>
  show hU z≠ []
  unfold hU
  split
  .exact nofun
  .exact wK
 |aX s=>obtain⟨_,c,u,rfl,_⟩:=h;exact nofun
def akB(s:ai):Prop:=
 (s=[91,93]\/s=[123,125]\/s=[33]\/s=[59])\/
 (n7 s=G/\ ∃c u,s=c::u/\iH c=G/\u.all eJ=G)\/
 (n7 s=U/\g4 s=G/\ ∃c u,s=c::u/\(c::u).all fg=G)\/
 (n7 s=U/\g4 s=U/\s.all py=G)
theorem Qq{s:ai}(h:s∈di):akB s:=by
 have co: ∀s∈di,g4 s=U->s.all py=G:=by decide+kernel
 by_cases Y:s=[91,93]\/s=[123,125]\/s=[33]\/s=[59]
 .exact .inl Y
 cases Z:n7 s with
 |true=>
  refine .inr (.inl ⟨Z,?_⟩)
  cases s with
  |nil=>cases Z
  |cons c u=>
   have Z:(iH c&&(c::u).all eJ)=G:=Z
   rw[ia,jv,ia]at Z
   exact⟨c,u,rfl,Z.1,Z.2.2⟩
 |false=>
  cases aE:g4 s with
  |false=>exact .inr (.inr (.inr ⟨Z,aE,co s h aE⟩))
  |true=>
   refine .inr (.inr (.inl ⟨Z,aE,?_⟩))
   unfold g4 at aE
   have aG:s ∉ ([[91,93],[123,125],[33],[59]]:List ai):= λ m=>Y (by simpa using m)
   rw[bW aG,Z,z4,z4,ia,ia]at aE
   have bv:=aE.1.1
   unfold uA at bv
   rw[ia]at bv
   cases s with
   |nil=>cases bv.1
   |cons c u=>exact⟨c,u,rfl,bv.2⟩
theorem tt{s:ai}(h: ¬(s=[91,93]\/s=[123,125]\/s=[33]\/s=[59])){c:Nat}:p2 (.nm s) c=if n7 s then eJ c=U else if g4 s then fg c=U else c≠39:=aL h
theorem I5{s:ai}(h:s=[91,93]\/s=[123,125]\/s=[33]\/s=[59]):g4 s=G:=by rcases h with rfl|rfl|rfl|rfl<;>decide
theorem Qr{s:ai}(h:n7 s=G):g4 s=G:=by unfold g4;rw[h,NX,ab6]
theorem akC{q:cI}{r:List cI}(h:jB q){d:Nat}(e:((q::r).flatMap cI.cX).head?=B d):d=q.cX.headD 0:=by
 obtain⟨c,u,ap⟩:=uS (Qp h)
 rw[wW,ap]at e
 injection e with e
 rw[ap, <-e];rfl
theorem akD: ∀(ps:List cI) (g:Bool),(∀p∈ps,jB p)->rA ps->gr g (ps.flatMap cI.cX) (kX g ps):=by
 intro b0;induction b0 with
 |nil=>
  intro g h a
  exact .nil
 |cons p r aB=>
  intro g h a
  have aT:=h p (eT ..)
  have aO:= λ q co=>h q (f0 _ co)
  have akE:rA r:=by
   cases r with
   |nil=>trivial
   |cons q r=>exact a.2
  have aB:=aB (decide (p≠ .sp)) aO akE
  have eR: ∀d,(r.flatMap cI.cX).head?=B d->p2 p d:= λ d hd=>by
   cases r with
   |nil=>cases hd
   |cons q r=>rw[akC (aO q (eT ..)) hd];exact a.1
  rw[wW]
  show gr g (p.cX++r.flatMap cI.cX) (p.toks g++kX (decide (p≠ .sp)) r)
  generalize hm:r.flatMap cI.cX=R at*
  cases p with
  |sp=>
   have cW:decide (cI.sp≠cI.sp)=U:=bW λ h=>h rfl
   rw[cW]at aB ⊢;exact .sp aB
  |pu c=>exact .pu aT aB
  |aX s=>
   obtain⟨_,c,u,rfl,Y,Z⟩:=aT
   exact .wv Y Z eR aB
  |it z=>
   have ah:=I4 aT
   show gr g (hU z++R) ((if z<0 then [(cz.nm [45],g),(cz.it z.natAbs,G)]else [(cz.it z.natAbs,g)])++_)
   unfold hU
   by_cases bb:z<0
   .rw[aQ bb,aQ bb]
    obtain⟨c,u,lT,ap,_⟩:=H9 z.natAbs
    have hw:=gr.A1 (g:=true) (n:=z.natAbs) (by right) eR aB
    refine .M8 (c:=45) (u:=[]) rfl (λ d hd=>?_) hw
    rw[lT]at hd
    injection hd with hd
    rw[<-hd]
    exact(xu c (BN c ap).1).2.2
   .rw[aL bb,aL bb]
    exact .A1 (by right) eR aB
  |nm s=>
   have aN:(cI.nm s).cX=g5 s:=rfl
   rw[aN]
   unfold g5
   show gr g _ ((if s=[91,93]then [(cz.pu 91,g),(cz.pu 93,G)]else if s=[123,125]then [(cz.pu 123,g),(cz.pu 125,G)]else if g4 s then [(cz.nm s,g)]else [(cz.gE s,g)])++_)
   rcases Qq aT with ak|⟨Y,c,u,rfl,Z,aE⟩|⟨Y,Z,c,u,rfl,aE⟩|⟨Y,Z,aE⟩
   .rw[aQ (I5 ak)]
    rcases ak with rfl|rfl|rfl|rfl
    .exact .pu (by decide) (.pu (by decide) aB)
    .exact .pu (by decide) (.pu (by decide) aB)
    .exact .pg (.inl rfl) aB
    .exact .pg (.inr rfl) aB
   .have aq: ¬(c::u=[91,93]\/c::u=[123,125]\/c::u=[33]\/c::u=[59]):=by
     rintro(e|e|e|e)<;>(rw[e]at Y;cases Y)
    have Qs:=Qr Y
    rw[aQ Qs,aL (λ e=>aq (.inl e)),aL (λ e=>aq (.inr (.inl e))),aQ Qs]
    refine .wn Z aE (λ d hd=>?_) aB
    have:=eR d hd
    rw[tt aq,aQ Y]at this
    exact this
   .have aq: ¬(c::u=[91,93]\/c::u=[123,125]\/c::u=[33]\/c::u=[59]):=by
     rintro(e|e|e|e)<;>(rw[e]at aE;cases aE)
    rw[aQ Z,aL (λ e=>aq (.inl e)),aL (λ e=>aq (.inr (.inl e))),aQ Z]
    refine .M8 aE (λ d hd=>?_) aB
    have:=eR d hd
    rw[tt aq,aL (by rw[Y];exact fV),aQ Z]at this
    exact this
   .have aq: ¬(s=[91,93]\/s=[123,125]\/s=[33]\/s=[59]):= λ e=>by rw[I5 e]at Z;cases Z
    rw[aL (by rw[Z];exact fV),aL (λ e=>aq (.inl e)),aL (λ e=>aq (.inr (.inl e))),aL (by rw[Z];exact fV)]
    have:=gr.gE (g:=g) (u:=s) (r:=R) aE (λ e=>by
     have:=eR 39 e
     rw[tt aq,aL (by rw[Y];exact fV),aL (by rw[Z];exact fV)]at this
     exact this rfl) aB
    unfold uB
    rw[jz,cM]
    exact this
section
noncomputable def oL:cI->Bool
 | .sp=>G
 | .pu _=>G
 |_=>U
def h1:Bool->List c8->Prop
 |_,[]=>True
 |_, .tk p::r=>jB p/\h1 (oL p) r
 |s, .rw p::r=>jB p/\(oL p=G\/s=G)/\h1 (oL p) r
 |s, .gP::r=>h1 s r
theorem lL: ∀{s:Bool} {l:List c8},h1 U l->h1 s l
 |_,[],_=>trivial
 |_, .tk p::r,h=>h
 |s, .rw p::r,h=>⟨h.1, .inl (h.2.1.resolve_right nofun),h.2.2⟩
 |s, .gP::r,h=>lL (l:=r) h
theorem je: ∀{s:Bool} {a b:List c8},h1 s a->h1 U b->h1 s (a++b)
 |_,[],b,_,h=>lL h
 |_, .tk p::r,b,h,h'=>⟨h.1,je h.2 h'⟩
 |s, .rw p::r,b,h,h'=>⟨h.1,h.2.1,je h.2.2 h'⟩
 |s, .gP::r,b,h,h'=>je (a:=r) h h'
def Qt(w:bZ):Prop:=rA w.out/\ ∀p∈w.out,jB p
theorem Qu{s:ai}(h:s=[91,93]\/s=[123,125]\/s=[33]\/s=[59]){c:Nat}:p2 (.nm s) c:=by
 have:p2 (.nm s) c=True:=aQ h
 rw[this];trivial
theorem Qv{p:cI}{c:Nat}(h:c∈([32,40,41,91,93,123,125,44,124]:ai)):p2 p c:=by
 have ap:eJ c=U/\fg c=U/\c≠39:=by
  have: ∀c∈([32,40,41,91,93,123,125,44,124]:ai),eJ c=U/\fg c=U/\c≠39:=by decide
  exact this c h
 cases p with
 |sp=>trivial
 |pu _=>trivial
 |it _=>exact ap.1
 |aX _=>exact ap.1
 |nm s=>
  by_cases ak:s=[91,93]\/s=[123,125]\/s=[33]\/s=[59]
  .exact Qu ak
  .rw[tt ak]
   split
   .exact ap.1
   .split
    .exact ap.2.1
    .exact ap.2.2
theorem xR{f:Nat->Bool}{s:ai}{l:Nat}(h:s.all f=G)(e:s.getLast?=B l):f l=G:=hh.mp h l (EU e)
theorem xS{w:bZ}{l c:Nat}(h:w.last=B l):w.space c=if l=32 then U else
  if w.gP&&(decide (c=40)||(decide (l=45)&&isDigit c))then G else
  if kO l then kO c||decide (c=39)else
  if fg l then fg c else decide (l=39)&&decide (c=39):=by unfold bZ.space;rw[h]
theorem Ck{w:bZ}{l c:Nat}(h:w.last=B l)(ah:eJ l=G)(ab:w.space c=U):eJ c=U:=by
 rw[xS h,aL (xu l ah).1]at ab
 split at ab
 .cases ab
 .rw[aQ (by unfold kO;rw[ah];rfl),rY]at ab
  have Z:=ab.1
  unfold kO at Z
  rw[rY]at Z
  exact Z.1
theorem akF{w:bZ}{l c:Nat}(h:w.last=B l)(ah:fg l=G)(ab:w.space c=U):fg c=U:=by
 have n:=O3 l ah
 have hw:kO l=U:=by
  unfold kO
  rw[n.2.2.1,bW (by have:=H6 ah;right)];rfl
 rw[xS h,aL n.1,hw,ah]at ab
 split at ab
 .cases ab
 .exact ab
theorem akG{w:bZ}{c:Nat}(h:w.last=B 39)(ab:w.space c=U):c≠39:=by
 rw[xS h,aL (by decide)]at ab
 split at ab
 .cases ab
 .rw[aL (by decide),aL (by decide)]at ab
  intro e;rw[e]at ab;cases ab
theorem I6(n:Nat):(cY n).all eJ=G:=hh.mpr λ d h=>(BN d (hh.mp (AZ n) d h)).1
theorem akH{c:Nat}{u:ai}{l:Nat}(h:u≠ [])(e:(c::u).getLast?=B l):u.getLast?=B l:=by
 obtain⟨d,v,rfl⟩:=uS h
 rw[I3]at e;exact e
theorem akI{w:bZ}{p:cI}{c:Nat}(aT:jB p)(ah:w.out.getLast?=B p)(ab:w.space c=U):p2 p c:=by
 have lG:w.last=p.cX.getLast?:=by unfold bZ.last;rw[ah];rfl
 obtain⟨l,eW⟩: ∃l,p.cX.getLast?=B l:=⟨_,w4 (Qp aT)⟩
 rw[eW]at lG
 cases p with
 |sp=>trivial
 |pu _=>trivial
 |it z=>
  have eW:(hU z).getLast?=B l:=eW
  unfold hU at eW
  split at eW
  .exact Ck lG (xR (I6 _) (akH wK eW)) ab
  .exact Ck lG (xR (I6 _) eW) ab
 |aX s=>
  obtain⟨_,d,u,rfl,Y,Z⟩:=aT
  have eW:(d::u).getLast?=B l:=eW
  exact Ck lG (xR (by rw[jv,(O4 d Y).1,Z];rfl) eW) ab
 |nm s=>
  have eW:(g5 s).getLast?=B l:=eW
  unfold g5 at eW
  rcases Qq aT with ak|⟨Y,d,u,rfl,Z,aE⟩|⟨Y,Z,d,u,rfl,aE⟩|⟨Y,Z,aE⟩
  .exact Qu ak
  .have aq: ¬(d::u=[91,93]\/d::u=[123,125]\/d::u=[33]\/d::u=[59]):=by
    rintro(e|e|e|e)<;>(rw[e]at Y;cases Y)
   rw[aQ (Qr Y)]at eW
   rw[tt aq,aQ Y]
   exact Ck lG (xR (by rw[jv,BO Z,aE];rfl) eW) ab
  .have aq: ¬(d::u=[91,93]\/d::u=[123,125]\/d::u=[33]\/d::u=[59]):=by
    rintro(e|e|e|e)<;>(rw[e]at aE;cases aE)
   rw[aQ Z]at eW
   rw[tt aq,aL (by rw[Y];exact fV),aQ Z]
   exact akF lG (xR aE eW) ab
  .have aq: ¬(s=[91,93]\/s=[123,125]\/s=[33]\/s=[59]):= λ e=>by rw[I5 e]at Z;cases Z
   rw[aL (by rw[Z];exact fV)]at eW
   rw[tt aq,aL (by rw[Y];exact fV),aL (by rw[Z];exact fV)]
   have:l=39:=by
    have e:(39::(s.flatMap fB++ [39])).getLast?=B 39:=by rw[<-jz,jR]
    unfold uB at eW
    rw[e]at eW
    injection eW with eW;exact eW.symm
   subst this
   exact akG lG ab
theorem akJ{p:cI}(h:jB p)(ab:oL p=G):p.cX.headD 0∈([32,40,41,91,93,123,125,44,124]:ai):=by
 cases p with
 |sp=>exact eT ..
 |pu c=>exact f0 _ h
 |_=>cases ab
theorem Cm{l:List cI}{p:cI}(a:rA l)(h: ∀p∈l,jB p)(aT:jB p)(aA: ∀q,l.getLast?=B q->p2 q (p.cX.headD 0)):rA (l++ [p])/\ ∀q∈l++ [p],jB q:=
 ⟨Qo a aA,λ q co=>(iG.mp co).elim (h q) λ m=>by rw[ee.mp m];exact aT⟩
theorem vp: ∀(l:List c8) (w:bZ) (s:Bool),h1 s l->Qt w->(s=G-> ∀q,w.out.getLast?=B q->oL q=G)->Qt (l.foldl bZ.run w)
 | [],w,s,h,i,ab=>i
 | .gP::r,w,s,h,i,ab=>vp r ⟨w.out,G⟩ s h i ab
 | .rw p::r,w,s,h,i,ab=>by
  refine vp r ⟨w.out++ [p],U⟩ (oL p) h.2.2 (Cm i.1 i.2 h.1 λ q co=>?_) λ e q co=>?_
  .rcases h.2.1 with Z|Z
   .exact Qv (akJ h.1 Z)
   .have:=ab Z q co
    cases q with
    |sp=>trivial
    |pu _=>trivial
    |_=>cases this
  .rw[jR]at co
   injection co with co
   rw[<-co];exact e
 | .tk p::r,w,s,h,i,ab=>by
  have Qw: ∀(l:List cI) (e:oL p=G) (q:cI),(l++ [p]).getLast?=B q->oL q=G:= λ l e q co=>by
   rw[jR]at co
   injection co with co
   rw[<-co];exact e
  have cW:(c8.tk p::r).foldl bZ.run w=r.foldl bZ.run (if w.space (p.cX.headD 0)then⟨w.out++ [.sp]++ [p],U⟩else⟨w.out++ [p],U⟩):=rfl
  rw[cW]
  cases akK:w.space (p.cX.headD 0)
  .exact vp r ⟨w.out++ [p],U⟩ (oL p) h.2 (Cm i.1 i.2 h.1 λ q co=>akI (i.2 q (EU co)) co akK) (Qw _)
  .have fU:=Cm (p:= .sp) i.1 i.2 trivial λ q co=>Qv (eT ..)
   exact vp r ⟨w.out++ [.sp]++ [p],U⟩ (oL p) h.2 (Cm fU.1 fU.2 h.1 λ q co=>by
    rw[jR]at co
    injection co with co
    rw[<-co];trivial) (Qw _)
variable{I:bY}{o:du}
theorem Qx(h:o.called∈lK){k:Nat}(ak:k<4):jB (.aX (lr o k)):=by
 have: ∀l∈lK, ∀k,k<4->((l.lookup k).getD (under 10 (l.map (·.2)) (95::cY k))).all eJ=G/\((l.lookup k).getD (under 10 (l.map (·.2)) (95::cY k))).length<=1000/\(match(l.lookup k).getD (under 10 (l.map (·.2)) (95::cY k))with| []=>U|c::_=>n6 c||decide (c=95))=G:=by decide+kernel
 have:=this _ h k ak
 have e:lr o k=(o.called.lookup k).getD (under 10 (o.called.map (·.2)) (95::cY k)):=rfl
 rw[<-e]at this
 cases bF:lr o k with
 |nil=>rw[bF]at this;cases this.2.2
 |cons c u=>
  rw[bF]at this
  rw[jv,ia]at this
  exact⟨this.2.1,c,u,rfl,this.2.2,this.1.2⟩
theorem Qy{n:Nat}(aq:n<10^60):jB (.aX (ii n)):=by
 refine⟨?_,65+n%26,_,rfl,?_,?_⟩
 .unfold ii
  split
  .show 1<=1000;decide
  .have:=I4 (dP (Bc n 26) aq)
   show(cY (n/26)).length+1<=1000;right
 .have: ∀i,i<26->(n6 (65+i)||decide (65+i=95))=G:=by decide
  exact this _ (pw _ (by decide))
 .split
  .rfl
  .exact I6 _
theorem Qz{f:ai}{x:T}{k:Nat}(h:hE o f x=B k)(aA:x.fit):k<10^60:=by
 obtain⟨rfl,_⟩:=HK h
 have:(k:Int).natAbs<10^60:=aA
 rwa [s2]at this
theorem g9{c:Nat}(h:c∈([40,41,91,93,123,125,44,124]:ai)):jB (.pu c):=h
theorem I7{b:Bool}{l:List c8}(h:h1 U l):h1 U (iI b l):=by
 cases b
 .exact h
 .exact ⟨g9 (by decide),lL (je h ⟨g9 (by decide), .inl rfl,trivial⟩)⟩
theorem akL{f:ai}(h:f∈di):h1 U (gD f):=by
 unfold gD;split
 .exact ⟨h,trivial⟩
 .exact ⟨h,trivial, .inl rfl,trivial⟩
theorem akM{f:ai}(h:f∈di):h1 U (hF f):=by
 unfold hF;split
 .exact ⟨g9 (by decide), .inl rfl,trivial⟩
 split
 .exact ⟨g9 (by decide), .inl rfl,trivial⟩
 split
 .exact ⟨h,trivial⟩
 .exact ⟨trivial, .inl rfl,h, .inr rfl,trivial, .inl rfl,trivial⟩
theorem akN{f:ai}(h:f∈di):h1 U (ij f):=by
 unfold ij;split
 .exact ⟨h,trivial⟩
 .exact ⟨trivial, .inl rfl,h, .inr rfl,trivial⟩
theorem xT{e:Nat->Bool->List c8}(h: ∀m a,h1 U (e m a)):(∀m a,h1 U ((m3 e).1 m a))/\h1 U (m3 e).2:=
 ⟨h,g9 (by decide), .inl rfl,lL (je (h 999 G) ⟨g9 (by decide), .inl rfl,trivial⟩)⟩
theorem QA(ap:o.called∈lK): ∀t:T,t.fit->(∀m a,h1 U ((bd I o t).1 m a))/\h1 U (bd I o t).2:=by
 intro b0;induction b0 with
 |v k=>
  intro h
  exact xT λ m a=>⟨Qx ap h,trivial⟩
 |n s=>
  intro h
  exact h.elim
 |i z=>
  intro h
  exact xT λ m a=>⟨h,trivial⟩
 |a s=>
  intro h
  refine⟨λ m a=>?_,?_⟩
  .show h1 U (if !a&&I.op s then [.tk (.pu 40), .rw (.nm s), .rw (.pu 41)]else [.tk (.nm s)])
   split
   .exact ⟨g9 (by decide),h, .inr rfl,g9 (by decide), .inl rfl,trivial⟩
   .exact ⟨h,trivial⟩
  .show h1 U (if s=[91,93]then [.rw (.pu 93)]else [.rw (.pu 124), .tk (.nm s), .rw (.pu 93)])
   split
   .exact ⟨g9 (by decide), .inl rfl,trivial⟩
   .exact ⟨g9 (by decide), .inl rfl,h,g9 (by decide), .inl rfl,trivial⟩
 |dp f x y z dY eU jT=>
  intro h
  have aJ:=(dY h.2.1).1 999 G
  have bJ:=(eU h.2.2.1).1 999 G
  have bb:=(jT h.2.2.2).1 999 G
  exact xT λ m a=>⟨h.1,g9 (by decide), .inl rfl,lL (je aJ ⟨g9 (by decide), .inl rfl,lL (je bJ ⟨g9 (by decide), .inl rfl,lL (je bb ⟨g9 (by decide), .inl rfl,trivial⟩)⟩)⟩)⟩
 |bf f x dY=>
  intro h
  have aJ:=(dY h.2).1
  refine xT (e:= λ m a=>(bd I o (.bf f x)).1 m a) λ m a=>?_
  rw[qL]
  split
  .rename_i k aq
   exact⟨Qy (Qz aq h.2),trivial⟩
  .split
   .exact ⟨g9 (by decide),lL (je (aJ 1201 G) ⟨g9 (by decide), .inl rfl,trivial⟩)⟩
   .split
    .exact I7 (je (akL h.1) (aJ _ _))
    .exact I7 (je (aJ _ _) (akN h.1))
    .exact ⟨h.1,g9 (by decide), .inl rfl,lL (je (aJ 999 G) ⟨g9 (by decide), .inl rfl,trivial⟩)⟩
 |a3 f x y dY eU=>
  intro h
  have aJ:=(dY h.2.1).1
  have bJ:=eU h.2.2
  rw[m4]
  split
  .exact ⟨λ m a=>⟨g9 (by decide),lL (je (aJ 999 G) bJ.2)⟩,g9 (by decide), .inl rfl,lL (je (aJ 999 G) bJ.2)⟩
  .refine xT λ m a=>?_
   split
   .exact I7 (je (je (aJ _ _) (akM h.1)) (bJ.1 _ _))
   .exact ⟨h.1,g9 (by decide), .inl rfl,lL (je (aJ 999 G) ⟨g9 (by decide), .inl rfl,lL (je (bJ.1 999 G) ⟨g9 (by decide), .inl rfl,trivial⟩)⟩)⟩
theorem akO(ap:o.called∈lK){t:T}(h:t.fit):gr U (textOf I o t) (kX U (((bd I o t).1 1201 G).foldl bZ.run ⟨[],U⟩).out):=by
 have w:=vp _ ⟨[],U⟩ U ((QA (I:=I) ap t h).1 1201 G) ⟨trivial,λ _ h=>nomatch h⟩ nofun
 exact akD _ U w.2 w.1
end
section
noncomputable def ff(w:bZ):Bool:=match w.out.getLast? with
 |some p=>decide (p≠ .sp)
 |none=>U
noncomputable def dj:bZ->List c8->List Tok
 |_,[]=> []
 |w, .tk p::r=>p.toks (if w.space (p.cX.headD 0)then U else ff w)++dj (w.run (.tk p)) r
 |w, .rw p::r=>p.toks (ff w)++dj (w.run (.rw p)) r
 |w, .gP::r=>dj (w.run .gP) r
theorem kY: ∀{w:bZ} {a b:List c8},dj w (a++b)=dj w a++dj (a.foldl bZ.run w) b
 |w,[],b=>rfl
 |w, .tk p::a,b=>by
  show p.toks _++dj (w.run (.tk p)) (a++b)=p.toks _++dj (w.run (.tk p)) a++_
  rw[kY,cM];rfl
 |w, .rw p::a,b=>by
  show p.toks _++dj (w.run (.rw p)) (a++b)=p.toks _++dj (w.run (.rw p)) a++_
  rw[kY,cM];rfl
 |w, .gP::a,b=>by
  show dj (w.run .gP) (a++b)=dj (w.run .gP) a++_
  rw[kY];rfl
theorem xU{p:cI}: ∀{l:List cI} {g:Bool},kX g (l++ [p])=kX g l++p.toks (match l.getLast? with|some q=>decide (q≠ .sp)|none=>g)
 | [],g=>by show p.toks g++ []=[]++p.toks g;rw[dV,pI]
 | [q],g=>by show q.toks g++(p.toks (decide (q≠ .sp))++ [])=q.toks g++ []++p.toks (decide (q≠ .sp));rw[dV,dV]
 |q::r::l,g=>by
  show q.toks g++kX (decide (q≠ .sp)) ((r::l)++ [p])=q.toks g++kX (decide (q≠ .sp)) (r::l)++_
  rw[xU,cM,I3]
  obtain⟨x,aJ⟩: ∃x,(r::l).getLast?=B x:=⟨_,w4 (List.cons_ne_nil r l)⟩
  rw[aJ]
theorem xV: ∀(l:List c8) (w:bZ),kX U (l.foldl bZ.run w).out=kX U w.out++dj w l
 | [],w=>(dV _).symm
 | .gP::r,w=>xV r ⟨w.out,G⟩
 | .rw p::r,w=>by
  have:=xV r ⟨w.out++ [p],U⟩
  rw[xU,cM]at this
  exact this
 | .tk p::r,w=>by
  have cW:(c8.tk p::r).foldl bZ.run w=r.foldl bZ.run (if w.space (p.cX.headD 0)then⟨w.out++ [.sp]++ [p],U⟩else⟨w.out++ [p],U⟩):=rfl
  have ao:dj w (.tk p::r)=p.toks (if w.space (p.cX.headD 0)then U else ff w)++dj (if w.space (p.cX.headD 0)then⟨w.out++ [.sp]++ [p],U⟩else⟨w.out++ [p],U⟩) r:=rfl
  rw[cW,ao]
  cases w.space (p.cX.headD 0)
  .have:=xV r ⟨w.out++ [p],U⟩
   rw[xU,cM]at this
   exact this
  .have aH:kX U (w.out++ [.sp]++ [p])=kX U w.out++p.toks U:=by
    rw[xU,xU,jR]
    show kX U w.out++ []++p.toks (decide (cI.sp≠cI.sp))=_
    rw[bW (λ h=>h rfl: ¬cI.sp≠cI.sp)]
    rw[dV]
   have:=xV r ⟨w.out++ [.sp]++ [p],U⟩
   rw[aH,cM (kX U w.out)]at this
   exact this
theorem akP{w:bZ}{p:cI}(h:p≠ .sp):ff (w.run (.tk p))=G:=by
 unfold ff bZ.run
 dsimp only
 split
 .rename_i e
  split at e
  .rw[jR]at e;injection e with e;rw[<-e];exact ce h
  .have e:(w.out++ [p]).getLast?=B _:=e
   rw[jR]at e;injection e with e;rw[<-e];exact ce h
 .rename_i e
  split at e
  .rw[jR]at e;cases e
  .have e:(w.out++ [p]).getLast?=J:=e
   rw[jR]at e;cases e
structure xW(I:bY):Prop extends Fine I where
 QB: ∀s e,I.pre.lookup s=B e->s∈di/\s≠ [44]/\s≠ [124]
 QC: ∀s e,I.post.lookup s=B e->s∈di/\s≠ [44]/\s≠ [124]
 QD: ∀s e,I.inf.lookup s=B e->s=[44]\/s=[124]->1000<=e.1
structure oM(R:List Tok):Prop where
 len:2<=R.length
 hd: ∀t r,R=t::r->t.1≠ .pu 40/\ ∀n,t.1≠ .it n
theorem oM.cons{t:Tok}{r:List Tok}(h:1<=r.length)(Y:t.1≠ .pu 40)(Z: ∀n,t.1≠ .it n):oM (t::r):=
 ⟨jI h,λ t' cj e=>by injection e with e;rw[<-e];exact⟨Y,Z⟩⟩
theorem QE{s:ai}(g:Bool)(r:List Tok)(h:s∈di): ∃q,jP ((cI.nm s).toks g++r) q s r/\(q=G->s=[91,93]\/s=[123,125]\/g4 s=U)/\(q=U->g4 s=G):=by
 show∃q,jP ((if s=[91,93]then [(cz.pu 91,g),(cz.pu 93,G)]else if s=[123,125]then [(cz.pu 123,g),(cz.pu 125,G)]else if g4 s then [(cz.nm s,g)]else [(cz.gE s,g)])++r) q s r/\_
 by_cases Y:s=[91,93]
 .subst Y;exact⟨G, .Np,λ _=> .inl rfl,nofun⟩
 rw[aL Y]
 by_cases Z:s=[123,125]
 .subst Z;exact⟨G, .Nq,λ _=> .inr (.inl rfl),nofun⟩
 rw[aL Z]
 cases aT:g4 s
 .exact ⟨G, .gE,λ _=> .inr (.inr rfl),nofun⟩
 .exact ⟨U, .nm,nofun,λ _=>rfl⟩
theorem anb{s:ai}(g:Bool)(r:List Tok): ∃t l,(cI.nm s).toks g++r=t::l/\(∀c,t.1= .pu c->c=91\/c=123)/\(∀n,t.1≠ .it n)/\r.length<=l.length:=by
 show∃t l,(if s=[91,93]then [(cz.pu 91,g),(cz.pu 93,G)]else if s=[123,125]then [(cz.pu 123,g),(cz.pu 125,G)]else if g4 s then [(cz.nm s,g)]else [(cz.gE s,g)])++r=t::l/\_
 by_cases Y:s=[91,93]
 .rw[aQ Y];exact⟨_,_,rfl,λ c e=>by injection e with e;exact .inl e.symm,nofun,jm _⟩
 rw[aL Y]
 by_cases Z:s=[123,125]
 .rw[aQ Z];exact⟨_,_,rfl,λ c e=>by injection e with e;exact .inr e.symm,nofun,jm _⟩
 rw[aL Z]
 cases g4 s
 .exact ⟨_,_,rfl,nofun,nofun,dt _⟩
 .exact ⟨_,_,rfl,nofun,nofun,dt _⟩
variable{I:bY}{o:du}
theorem QF{p:cI}{g:Bool}:(p.toks g).length<=2:=by
 cases p with
 |nm s=>
  show(if s=[91,93]then [(cz.pu 91,g),(cz.pu 93,G)]else if s=[123,125]then [(cz.pu 123,g),(cz.pu 125,G)]else if g4 s then [(cz.nm s,g)]else [(cz.gE s,g)]).length<=2
  split;exact dt 2
  split;exact dt 2
  split;exact jm 1
  exact jm 1
 |it z=>
  show(if z<0 then [(cz.nm [45],g),(cz.it z.natAbs,G)]else [(cz.it z.natAbs,g)]).length<=2
  split;exact dt 2
  exact jm 1
 |sp=>exact eh 2
 |pu c=>exact jm 1
 |aX s=>exact jm 1
theorem Co: ∀{l:List c8} {w:bZ},(dj w l).length<=2*l.length
 | [],w=>dt 0
 | .tk p::r,w=>by
  have Y:=QF (p:=p) (g:=if w.space (p.cX.headD 0)then U else ff w)
  have Z:=Co (l:=r) (w:=w.run (.tk p))
  show(p.toks _++dj (w.run (.tk p)) r).length<=2*(r.length+1)
  rw[bK];right
 | .rw p::r,w=>by
  have Y:=QF (p:=p) (g:=ff w)
  have Z:=Co (l:=r) (w:=w.run (.rw p))
  show(p.toks _++dj (w.run (.rw p)) r).length<=2*(r.length+1)
  rw[bK];right
 | .gP::r,w=>by
  have Z:=Co (l:=r) (w:=w.run .gP)
  show(dj (w.run .gP) r).length<=2*(r.length+1)
  right
theorem Cp{s:ai}{g:Bool}{d:Nat}{aS bn e:Bool}{R r:List Tok}{ps:List a8}(ab:s∈di)(aq:s≠ [44]/\s≠ [124])(ah:2<=R.length)(Y: ∀r,R=(.pu 40,G)::r->bn=U/\(I.inf.lookup s).isSome=G)(Z:bn=G->s=[45]-> ∀n r,R≠(.it n,G)::r)
  (h:dd I d aS (if bn then I.op s else(I.post.lookup s).isNone) U R ps r):dd I d aS bn e ((cI.nm s).toks g++R) (.nm s::ps) r:=by
 obtain⟨q,ni,_,_⟩:=QE g R ab
 obtain⟨t,R,rfl⟩:=tl (hB sB ah)
 exact .aez ni ab (λ _=>aq) (λ q=>Y R (by rw[q])) (λ a _ b n q=>Z a b n R (by rw[q])) ah h
theorem akQ{c:Nat}(ap:c=44\/c=124){g:Bool}:(cI.nm [c]).toks g=[(.gE [c],g)]:=by rcases ap with rfl|rfl<;>rfl
theorem akR{s:ai}{g bC:Bool}{d:Nat}{aS e:Bool}{R r:List Tok}{ps:List a8}(ab:s∈di)(aI:oM R)(ba:bC=U->I.op s=U)(aF:bC=G->e=G/\ ∀t r,R=t::r->sF t.1=G)
  (h: ∀bn,bn=U\/bC=G->dd I d aS bn U R ps r):dd I d aS G e ((cI.nm s).toks g++R) ((if s=[44]\/s=[124]then [.t (.a s)]else [.nm s])++ps) r:=by
 by_cases ap:s=[44]\/s=[124]
 .rw[aQ ap]
  obtain⟨c,ki,rfl⟩: ∃c,(c=44\/c=124)/\s=[c]:=ap.elim (λ q=>⟨44, .inl rfl,q⟩) λ q=>⟨124, .inr rfl,q⟩
  rw[akQ ki]
  obtain⟨t,R,rfl⟩:=tl (hB sB aI.len)
  refine .sep ki ?_ (λ q=>(aI.hd t R rfl).1 (by rw[q])) aI.len (h U (.inl rfl))
  cases bC
  .refine .inr ?_
   have:=ba rfl
   unfold bY.op at this
   rw[rY,rY]at this
   exact Zu.mp (by rw[this.1.2];exact fV)
  .exact .inl ⟨(aF rfl).1,(aF rfl).2 t R rfl⟩
 .rw[aL ap]
  refine Cp ab ⟨λ q=>ap (.inl q),λ q=>ap (.inr q)⟩ aI.len (λ r e=>((aI.hd _ _ e).1 rfl).elim) (λ _ _ n r e=>(aI.hd _ _ e).2 n rfl) ?_
  refine h _ ?_
  cases bC
  .exact .inl (ba rfl)
  .exact .inr rfl
end
section
variable{I:bY}{o:du}
theorem I8{p:cI}(g:Bool)(h:p≠ .sp): ∃k l,p.toks g=(k,g)::l/\(∀c,k= .pu c->p= .pu c\/c=91\/c=123)/\ ∀n,k= .it n-> ∃z,p= .it z/\0<=z:=by
 cases p with
 |sp=>exact(h rfl).elim
 |pu c=>exact⟨_,_,rfl,λ c e=>by injection e with e;rw[e];exact .inl rfl,nofun⟩
 |aX s=>exact⟨_,_,rfl,nofun,nofun⟩
 |it z=>
  show∃k l,(if z<0 then [(cz.nm [45],g),(cz.it z.natAbs,G)]else [(cz.it z.natAbs,g)])=(k,g)::l/\_
  by_cases bb:z<0
  .rw[aQ bb];exact⟨_,_,rfl,nofun,nofun⟩
  .rw[aL bb];exact⟨_,_,rfl,nofun,λ n e=>⟨z,rfl,rX.mp bb⟩⟩
 |nm s=>
  show∃k l,(if s=[91,93]then [(cz.pu 91,g),(cz.pu 93,G)]else if s=[123,125]then [(cz.pu 123,g),(cz.pu 125,G)]else if g4 s then [(cz.nm s,g)]else [(cz.gE s,g)])=(k,g)::l/\_
  by_cases Y:s=[91,93]
  .rw[aQ Y];exact⟨_,_,rfl,λ c e=>by injection e with e;exact .inr (.inl e.symm),nofun⟩
  rw[aL Y]
  by_cases Z:s=[123,125]
  .rw[aQ Z];exact⟨_,_,rfl,λ c e=>by injection e with e;exact .inr (.inr e.symm),nofun⟩
  rw[aL Z]
  cases g4 s
  .exact ⟨_,_,rfl,nofun,nofun⟩
  .exact ⟨_,_,rfl,nofun,nofun⟩
def lM(l:List c8):Prop:= ∃p r,l= .tk p::r/\p≠ .sp/\jB p/\ ∀c,p= .pu c->c=40\/c=91\/c=123
theorem Cq{a b:List c8}(h:lM a):lM (a++b):=by
 obtain⟨p,r,rfl,Y,Z⟩:=h
 exact⟨p,r++b,rfl,Y,Z⟩
theorem xX{f:ai}{r:List c8}(h:f∈di):lM (.tk (.nm f)::r):=⟨_,_,rfl,nofun,h,nofun⟩
theorem Cr{c:Nat}{r:List c8}(h:c=40\/c=91\/c=123):lM (.tk (.pu c)::r):=
 ⟨_,_,rfl,nofun,by rcases h with rfl|rfl|rfl<;>exact g9 (by decide),λ c e=>by injection e with e;rw[<-e];exact h⟩
theorem I9{b:Bool}{l:List c8}(h:lM l):lM (iI b l):=by
 cases b
 .exact h
 .exact Cr (.inl rfl)
theorem akS{f:ai}(h:f∈di):lM (gD f):=by
 unfold gD;split<;>exact xX h
theorem QG(ap:o.called∈lK): ∀t:T,t.fit-> ∀m a,lM ((bd I o t).1 m a):=by
 intro b0;induction b0 with
 |v k=>
  intro h m a
  exact⟨_,_,rfl,nofun,Qx ap h,nofun⟩
 |n s=>
  intro h m a
  exact h.elim
 |i z=>
  intro h m a
  exact⟨_,_,rfl,nofun,h,nofun⟩
 |a s=>
  intro h m a
  show lM (if !a&&I.op s then [.tk (.pu 40), .rw (.nm s), .rw (.pu 41)]else [.tk (.nm s)])
  split
  .exact Cr (.inl rfl)
  .exact xX h
 |dp f x y z dY eU jT=>
  intro h m a
  exact xX h.1
 |bf f x dY=>
  intro h m a
  rw[qL]
  split
  .rename_i k aq
   exact⟨_,_,rfl,nofun,Qy (Qz aq h.2),nofun⟩
  .split
   .exact Cr (.inr (.inr rfl))
   .split
    .exact I9 (Cq (akS h.1))
    .exact I9 (Cq (dY h.2 _ _))
    .exact xX h.1
 |a3 f x y dY eU=>
  intro h m a
  rw[m4]
  split
  .exact Cr (.inr (.inl rfl))
  .show lM (match fa I o (.a3 f x y)with|some (_,e)=>_|none=>_)
   split
   .exact I9 (Cq (Cq (dY h.2.1 _ _)))
   .exact xX h.1
theorem QH{l:List c8}(h:lM l)(w:bZ)(R:List Tok): ∃u r,dj w l++R=u::r/\u.1≠ .pu 93/\u.1≠ .pu 125/\R.length<=r.length:=by
 obtain⟨p,r,rfl,Y,Z,aE⟩:=h
 obtain⟨k,l,e,bv,_⟩:=I8 (if w.space (p.cX.headD 0)then U else ff w) Y
 have aH:dj w (.tk p::r)++R=(k,if w.space (p.cX.headD 0)then U else ff w)::(l++dj (w.run (.tk p)) r++R):=by
  show p.toks _++dj (w.run (.tk p)) r++R=_
  rw[e];rfl
 refine⟨_,_,aH,λ q=>?_,λ q=>?_,by rw[bK];right⟩
 .rcases bv _ q with h|h|h
  .rcases aE _ h with h|h|h<;>cases h
  .cases h
  .cases h
 .rcases bv _ q with h|h|h
  .rcases aE _ h with h|h|h<;>cases h
  .cases h
  .cases h
theorem QI{f:ai}(h:f∈di): ∃l,(g5 f).getLast?=B l/\l≠32/\(f=[45]->l=45):=by
 have: ∀f∈di,(match(g5 f).getLast? with|some l=>decide (l≠32)&&(decide (f≠ [45])||decide (l=45))|none=>U)=G:=by decide+kernel
 have:=this f h
 cases e:(g5 f).getLast? with
 |none=>rw[e]at this;cases this
 |some l=>
  rw[e]at this
  dsimp only at this
  rw[ia,jr,decide_eq_true_iff,decide_eq_true_iff,decide_eq_true_iff]at this
  exact⟨l,rfl,this.1,λ q=>this.2.resolve_left λ n=>n q⟩
theorem QJ{w:bZ}{p:cI}:(w.run (.tk p)).out.getLast?=B p:=by
 unfold bZ.run
 dsimp only
 split
 .exact jR
 .exact jR
theorem akT:n8 (g5 [45])=G:=by decide
theorem akU{f:ai}(aA:f∈di){l:List c8}(h:lM l)(w:bZ)(R:List Tok): ∃u r,dj ((gD f).foldl bZ.run w) l++R=u::r/\u≠(.pu 40,G)/\(f=[45]-> ∀n,u≠(.it n,G)):=by
 obtain⟨p,r,rfl,Y,Z,aE⟩:=h
 obtain⟨dZ,lE⟩: ∃dZ,dZ=(gD f).foldl bZ.run w:=⟨_,rfl⟩
 rw[<-lE]
 obtain⟨k,t,e,bv,cw⟩:=I8 (if dZ.space (p.cX.headD 0)then U else ff dZ) Y
 have aH:dj dZ (.tk p::r)++R=(k,if dZ.space (p.cX.headD 0)then U else ff dZ)::(t++dj (dZ.run (.tk p)) r++R):=by
  show p.toks _++dj (dZ.run (.tk p)) r++R=_
  rw[e];rfl
 refine⟨_,_,aH,?_,λ aG n=>?_⟩
 .intro q
  injection q with kF hQ
  rcases bv _ kF with aT|aT|aT
  .subst aT
   unfold gD at lE
   by_cases aN:n8 (g5 f)
   .rw[aQ aN]at lE
    obtain⟨l,ah,eW,_⟩:=QI aA
    have lG:dZ.last=B l:=by
     have:dZ.out.getLast?=B (.nm f):=by rw[lE];exact QJ
     unfold bZ.last;rw[this];exact ah
    have sS:dZ.gP=G:=by rw[lE];rfl
    have:dZ.space ((cI.pu 40).cX.headD 0)=G:=by
     rw[xS lG,aL eW,sS];rfl
    rw[this]at hQ;cases hQ
   .rw[aL aN]at lE
    have akV:dZ.out.getLast?=B .sp:=by rw[lE];exact jR
    have aM:ff dZ=U:=by unfold ff;rw[akV];exact bW λ h=>h rfl
    rw[aM]at hQ;split at hQ<;>cases hQ
  .cases aT
  .cases aT
 .intro q
  injection q with kF hQ
  obtain⟨z,rfl,bb⟩:=cw n kF
  subst aG
  unfold gD at lE
  rw[aQ akT]at lE
  obtain⟨l,ah,eW,IM⟩:=QI aA
  have lG:dZ.last=B l:=by
   have:dZ.out.getLast?=B (.nm [45]):=by rw[lE];exact QJ
   unfold bZ.last;rw[this];exact ah
  have sS:dZ.gP=G:=by rw[lE];rfl
  have hd:isDigit ((cI.it z).cX.headD 0)=G:=by
   show isDigit ((hU z).headD 0)=G
   unfold hU
   rw[aL (rX.mpr bb)]
   obtain⟨c,u,e,ap,_⟩:=H9 z.natAbs
   rw[e];exact ap
  have:dZ.space ((cI.it z).cX.headD 0)=G:=by
   rw[xS lG,aL eW,sS,hd,IM rfl,ce rfl,sM,sM,NX,aQ rfl]
  rw[this]at hQ;cases hQ
end
section
variable{I:bY}{o:du}
def jf(I:bY)(o:du)(t:T)(m:Nat)(bC:Bool):Prop:= ∀(w:bZ) (d:Nat) (aS e:Bool) (R:List Tok) (ps:List a8) (r:List Tok),3*t.ay<=d->(aS=G->m<=999)->oM R->(bC=G->e=G/\ ∀t r,R=t::r->sF t.1=G)->
 (∀bn,bn=U\/bC=G->dd I d aS bn U R ps r)->dd I d aS G e (dj w ((bd I o t).1 m bC)++R) (eD I o t m bC++ps) r
def xY(I:bY)(o:du)(t:T)(p:Nat)(l:List c8)(P:List a8):Prop:= ∀(w:bZ) (d:Nat) (aS e:Bool) (R:List Tok) (ps:List a8) (r:List Tok),3*t.ay<=d+1->(aS=G->p<=999)->oM R->
 dd I d aS U U R ps r->dd I d aS G e (dj w l++R) (P++ps) r
noncomputable def Cs:List Nat:=[41,93,125,44,124]
theorem Ct{c:Nat}{g:Bool}{R:List Tok}(h:c∈Cs)(ah:1<=R.length):oM ((.pu c,g)::R):=
 .cons ah (λ q=>by injection q with q;subst q;exact absurd h (by decide)) nofun
theorem akW: ∀c∈Cs,sF (.pu c)=G:=by decide
theorem item{t:T}{m d c:Nat}{aS g:Bool}{w:bZ}{R:List Tok}(h:jf I o t m G)(hd:3*t.ay<=d)(bo:aS=G->m<=999)(ab:c∈Cs)(ap:sD aS (.pu c)=G)(ah:1<=R.length):
  dd I d aS G G (dj w ((bd I o t).1 m G)++(.pu c,g)::R) (eD I o t m G) ((.pu c,g)::R):=by
 obtain⟨u,R,rfl⟩:=tl ah
 have:=h w d aS G ((.pu c,g)::u::R) [] _ hd bo (Ct ab ah) (λ _=>⟨rfl,λ t r e=>by injection e with e;rw[<-e];exact akW c ab⟩) λ bn _=> .stop ap
 rw[dV]at this
 exact this
theorem akX{t:T}{p d:Nat}{aS bn e g h:Bool}{w:bZ}{l:List c8}{P ps:List a8}{R r:List Tok}(pu:xY I o t p l P)(hd:3*t.ay<=d+1)(aO:hG I P 1200=B (cZ o t))(aI:oM R)(ak:dd I (d+1) aS U U R ps r):
  dd I (d+1) aS bn e ((.pu 40,g)::(dj w l++(.pu 41,h)::R)) (.t (cZ o t)::ps) r:=by
 obtain⟨u,R,rfl⟩:=tl (hB sB aI.len)
 have:=pu w d U G ((.pu 41,h)::u::R) [] _ hd nofun (Ct (by decide) (hC _)) (.stop rfl)
 rw[dV]at this
 exact .par this aO aI.len ak
theorem akY{l:List c8}{w:bZ}: ∃g hV h,dj w (iI G l)=(.pu 40,g)::(dj hV l++ [(.pu 41,h)]):=by
 refine⟨if w.space 40 then U else ff w,w.run (.tk (.pu 40)),ff (l.foldl bZ.run (w.run (.tk (.pu 40)))),?_⟩
 show(.pu 40,_)::dj _ (l++ [.rw (.pu 41)])=_
 rw[kY];rfl
theorem Ja{t:T}{m p:Nat}{bC:Bool}{l:List c8}{P:List a8}(pu:xY I o t p l P)(p3: ∀m bC,(bd I o t).1 m bC=iI (decide (m<p)) l)(Cu: ∀m bC,eD I o t m bC=if m<p then [.t (cZ o t)]else P)(aA:Fine I)(akZ:p<=1200)(bb:1<=t.ay):jf I o t m bC:= λ w d aS e R ps r hd bo aI aF cH=>by
 rw[p3,Cu]
 by_cases aG:m<p
 .rw[ce aG,aQ aG]
  obtain⟨g,hV,h,ao⟩:=akY (l:=l) (w:=w)
  obtain⟨d,rfl⟩: ∃hP,d=hP+1:=⟨d - 1,by right⟩
  rw[ao,jz,cM]
  refine akX (w:=hV) pu hd ?_ aI (cH U (.inl rfl))
  have:=rz (o:=o) aA t 1200 1200 (dt _)
  rw[Cu,aL (mc.mpr akZ)]at this
  exact this
 .rw[bW aG,aL aG]
  exact pu w d aS e R ps r (by right) (λ q=>ca (AY aG) (bo q)) aI (cH U (.inl rfl))
theorem Jb: ∀t:T,1<=t.ay
 | .v _=>dt 1
 | .n _=>dt 1
 | .i _=>dt 1
 | .a _=>dt 1
 | .bf _ _=>jI (eh _)
 | .a3 _ _ _=>jI (eh _)
 | .dp _ _ _ _=>jI (eh _)
theorem ak0{f:ai}{w:bZ}: ∃g,dj w (gD f)=(cI.nm f).toks g:=by
 unfold gD
 split
 .exact ⟨_,dV _⟩
 .exact ⟨_,dV _⟩
theorem ak1{f:ai}{w:bZ}: ∃g,dj w (ij f)=(cI.nm f).toks g:=by
 unfold ij
 split
 .exact ⟨_,dV _⟩
 .exact ⟨_,dV _⟩
theorem ak2{f:ai}(h: ¬(f=[44]\/f=[124])){w:bZ}: ∃g,dj w (hF f)=(cI.nm f).toks g:=by
 unfold hF
 rw[aL λ q=>h (.inl q),aL λ q=>h (.inr q)]
 split
 .exact ⟨_,dV _⟩
 .exact ⟨_,dV _⟩
theorem QK{f:ai}{g:Bool}{R:List Tok}(h:1<=R.length):oM ((cI.nm f).toks g++R):=by
 obtain⟨k,l,e,Y,Z⟩:=I8 (p:= .nm f) g nofun
 rw[e,jz]
 refine .cons (by rw[bK];right) (λ q=>?_) λ n q=>?_
 .rcases Y _ q with h|h|h<;>cases h
 .obtain ⟨z,h,_⟩:=Z n q;cases h
theorem ak3(aA:xW I){f:ai}{x:T}{cW:cb}(ak4:lM ((bd I o x).1 (dh cW) U))(h:I.pre.lookup f=B cW)(fj:jf I o x (dh cW) U):xY I o (.bf f x) cW.1 (gD f++(bd I o x).1 (dh cW) U) (.nm f::eD I o x (dh cW) U):= λ w d aS e R ps r hd bo aI cH=>by
 obtain⟨bE,aq⟩:=aA.QB f cW h
 obtain⟨g,ao⟩:=ak0 (f:=f) (w:=w)
 have hd:3*(x.ay+1)<=d+1:=hd
 rw[kY,ao,cM]
 obtain⟨u,ajz,aH,Y,Z⟩:=akU bE ak4 w R
 refine Cp bE aq (by rw[bK];have:=aI.len;right) (λ r q=>?_) (λ _ aG n r q=>?_) ?_
 .rw[aH]at q;injection q with q;exact(Y q).elim
 .rw[aH]at q;injection q with q;exact Z aG n q
 .rw[aQ rfl,P8 h]
  exact fj _ d aS U R ps r (by right) (λ q=>ca mv (bo q)) aI nofun λ bn hw=>by rw[hw.resolve_right nofun];exact cH
theorem ak5(aA:xW I){f:ai}{x:T}{cW:cb}{m:Nat}(aG:m<=cW.1)(h:I.post.lookup f=B cW)(fj:jf I o x m U):xY I o (.bf f x) cW.1 ((bd I o x).1 m U++ij f) (eD I o x m U++ [.nm f]):= λ w d aS e R ps r hd bo aI cH=>by
 obtain⟨bE,aq⟩:=aA.QC f cW h
 have hd:3*(x.ay+1)<=d+1:=hd
 rw[kY]
 obtain⟨g,ao⟩:=ak1 (f:=f) (w:=((bd I o x).1 m U).foldl bZ.run w)
 rw[ao,cM,cM]
 refine fj w d aS e _ _ r (by right) (λ q=>ca aG (bo q)) (QK (ca (jm 1) aI.len)) nofun λ bn hw=>?_
 rw[hw.resolve_right nofun]
 refine Cp bE aq aI.len (λ r q=>((aI.hd _ _ q).1 rfl).elim) (λ q=>nomatch q) ?_
 rw[aL fV,h]
 exact cH
theorem ak6(aA:xW I){f:ai}{x y:T}{cW:cb}{m:Nat}(bE:f∈di)(aG:m<=cW.1)(h:I.inf.lookup f=B cW)(fj:jf I o x m U)(eP:jf I o y (dh cW) U):
  xY I o (.a3 f x y) cW.1 ((bd I o x).1 m U++hF f++(bd I o y).1 (dh cW) U) (eD I o x m U++ .nm f::eD I o y (dh cW) U):= λ w d aS e R ps r hd bo aI cH=>by
 have hd:3*(x.ay+y.ay+1)<=d+1:=hd
 have z1:I.post.lookup f=J:=by
  cases aT:I.post.lookup f with
  |none=>rfl
  |some e=>have:=aA.sep f e aT;rw[h]at this;cases this
 rw[kY,kY,cM,cM,cM]
 generalize((bd I o x).1 m U++hF f).foldl bZ.run w=dZ
 generalize((bd I o x).1 m U).foldl bZ.run w=vq
 have bJ: ∀bn,bn=G->dd I d aS bn U (dj dZ ((bd I o y).1 (dh cW) U)++R) (eD I o y (dh cW) U++ps) r:= λ bn hw=>by
  rw[hw]
  exact eP dZ d aS U R ps r (by right) (λ q=>ca mv (bo q)) aI nofun λ bn hw=>by rw[hw.resolve_right nofun];exact cH
 have eW:2<=(dj dZ ((bd I o y).1 (dh cW) U)++R).length:=by rw[bK];have:=aI.len;right
 by_cases ap:f=[44]\/f=[124]
 .obtain ⟨c,ki,rfl⟩: ∃c,(c=44\/c=124)/\f=[c]:=ap.elim (λ q=>⟨44, .inl rfl,q⟩) λ q=>⟨124, .inr rfl,q⟩
  have vc:aS=U:=by
   cases aS
   .rfl
   .have:=bo rfl;have:=aA.QD _ _ h ap;right
  subst vc
  have ao:dj vq (hF [c])=[(.pu c,ff vq)]:=by rcases ki with rfl|rfl<;>rfl
  rw[ao]
  refine fj w d U e _ _ r (by right) nofun (Ct (by rcases ki with rfl|rfl<;>decide) (ca (jm 1) eW)) nofun λ bn hw=>?_
  rw[hw.resolve_right nofun]
  refine .aeA ki eW ?_
  rw[aL fV,z1]
  exact bJ _ rfl
 .obtain ⟨g,ao⟩:=ak2 ap (w:=vq)
  rw[ao]
  refine fj w d aS e _ _ r (by right) (λ q=>ca aG (bo q)) (QK (ca (jm 1) eW)) nofun λ bn hw=>?_
  rw[hw.resolve_right nofun]
  refine Cp bE ⟨λ q=>ap (.inl q),λ q=>ap (.inr q)⟩ eW (λ r q=>⟨rfl,by rw[h];rfl⟩) (λ q=>nomatch q) ?_
  rw[aL fV,z1]
  exact bJ _ rfl
end
section
variable{I:bY}{o:du}
noncomputable def kt(o:du):T->Nat->List T×Nat
 | .a3 f h t,_=>if f=[46]then(cZ o h::(kt o t 44).1,(kt o t 44).2)else([cZ o (.a3 f h t)],124)
 | .a s,l=>if s=[91,93]then([],l)else([.a s],124)
 |u,_=>([cZ o u],124)
theorem Cv{o:du}{f:ai}{h t:T}{l:Nat}:kt o (.a3 f h t) l=if f=[46]then(cZ o h::(kt o t 44).1,(kt o t 44).2)else([cZ o (.a3 f h t)],124):=rfl
theorem Jc{o:du}{s:ai}{l:Nat}:kt o (.a s) l=if s=[91,93]then([],l)else([.a s],124):=rfl
def LT(I:bY)(o:du)(y:T):Prop:= ∀(w:bZ) (l d:Nat) (R a7:List Tok) (eC:List a8) (qC:T),l≠124->3*y.ay<=d->
 (∀m g j2,m=44\/m=124\/m=93->1<=j2.length->dd I d G G G (a7++(.pu m,g)::j2) eC ((.pu m,g)::j2))->hG I eC 999=B qC->2<=R.length->
 iJ I (d+1) 93 l (a7++(dj w (bd I o y).2++R)) (qC::(kt o y l).1) (kt o y l).2 R
theorem QL: ∀m,m=44\/m=124\/m=93->m∈Cs/\sD G (.pu m)=G:=by
 rintro m (rfl|rfl|rfl)<;>decide
theorem vr(aA:Fine I){u:T}(Z:(bd I o u).2= .rw (.pu 124)::((bd I o u).1 999 G++ [.rw (.pu 93)]))(aN: ∀l,kt o u l=([cZ o u],124))(pu:jf I o u 999 G):LT I o u:= λ w l d R a7 eC qC ah hd hY aO anc=>by
 rw[Z,aN]
 have ao:dj w (.rw (.pu 124)::((bd I o u).1 999 G++ [.rw (.pu 93)]))++R=(.pu 124,ff w)::(dj (w.run (.rw (.pu 124))) ((bd I o u).1 999 G)++(.pu 93,ff (((bd I o u).1 999 G).foldl bZ.run (w.run (.rw (.pu 124)))))::R):=by
  show(.pu 124,ff w)::(dj _ ((bd I o u).1 999 G++ [.rw (.pu 93)]))++R=_
  rw[kY,jz,cM];rfl
 rw[ao]
 have bo:=item (I:=I) (o:=o) (d:=d) (c:=93) (aS:=true) (g:=ff (((bd I o u).1 999 G).foldl bZ.run (w.run (.rw (.pu 124))))) (w:=w.run (.rw (.pu 124))) (R:=R) pu hd (λ _=>dt _) (by decide) rfl (by right)
 refine .more (hY 124 _ _ (.inr (.inl rfl)) (by rw[bK,el];right)) aO (.inr rfl) (by decide) ah ?_
 exact .done bo (rz aA u 999 999 (dt _))
theorem ak7: ∀(y:T) (l:Nat), ∀x∈(kt o y l).1,x.ay<=y.ay:=by
 intro b0;induction b0 with
 |a3 f h t dY eU=>
  intro l x aJ
  rw[Cv]at aJ
  by_cases c:f=[46]
  .rw[aQ c]at aJ
   show x.ay<=h.ay+t.ay+1
   rcases eV.mp aJ with rfl|aJ
   .have:=oJ (o:=o) h;right
   .have:=eU 44 x aJ;right
  .rw[aL c]at aJ
   rw[ee.mp aJ];exact oJ _
 |a s=>
  intro l x aJ
  rw[Jc]at aJ
  split at aJ
  .cases aJ
  .rw[ee.mp aJ];exact dt 1
 |v k=>
  intro l x aJ
  rw[ee.mp aJ];exact oJ (.v k)
 |n s=>
  intro l x aJ
  rw[ee.mp aJ];exact oJ (.n s)
 |i z=>
  intro l x aJ
  rw[ee.mp aJ];exact oJ (.i z)
 |bf f y dY=>
  intro l x aJ
  rw[ee.mp aJ];exact oJ (.bf f y)
 |dp f y z u dY eU jT=>
  intro l x aJ
  rw[ee.mp aJ];exact oJ (.dp f y z u)
theorem ak8{b:Bool}{au:List T}{v x:T}(h:sE b au=B v)(aq:au≠ []):sE b (x::au)=B (.a3 [46] x v):=by
 obtain⟨y,l,rfl⟩:=uS aq
 cases b
 .have h:B (m5 (.a [91,93]) (y::l))=B v:=h
  injection h with h
  show B (T.a3 [46] x (m5 (.a [91,93]) (y::l)))=_
  rw[h]
 .have h:(y::l).getLast?.map (λ bH=>m5 bH (y::l).dropLast)=B v:=h
  show(x::y::l).getLast?.map (λ bH=>m5 bH (x::y::l).dropLast)=_
  rw[I3]
  obtain⟨bH,Y,Z⟩:=qM.mp h
  rw[Y]
  show B (T.a3 [46] x (m5 bH (y::l).dropLast))=_
  rw[Z]
theorem ak9: ∀(y:T) (l:Nat) (x:T),l≠124->sE (decide ((kt o y l).2=124)) (x::(kt o y l).1)=B (.a3 [46] x (cZ o y)):=by
 intro b0;induction b0 with
 |a3 f h t dY eU=>
  intro l x ah
  rw[Cv]
  by_cases c:f=[46]
  .rw[aQ c]
   have:=eU 44 (cZ o h) (by decide)
   subst c
   exact ak8 this nofun
  .rw[aL c];rfl
 |a s=>
  intro l x ah
  rw[Jc]
  split
  .rename_i e
   rw[bW ah]
   subst e;rfl
  .rfl
 |v k=>
  intro l x ah
  exact rfl
 |n s=>
  intro l x ah
  exact rfl
 |i z=>
  intro l x ah
  exact rfl
 |bf f y dY=>
  intro l x ah
  exact rfl
 |dp f y z u dY eU jT=>
  intro l x ah
  exact rfl
noncomputable def tu(I:bY)(o:du):List T->List c8
 | []=> [.rw (.pu 41)]
 | [x]=>(bd I o x).1 999 G++ [.rw (.pu 41)]
 |x::y::l=>(bd I o x).1 999 G++ .rw (.pu 44)::tu I o (y::l)
theorem QM(aA:Fine I){d:Nat}{R:List Tok}(hm:2<=R.length): ∀(x:T) (args:List T) (w:bZ) (l:Nat),l≠124->(∀y∈x::args,jf I o y 999 G/\3*y.ay<=d)-> ∃cS,iJ I (d+1) 41 l (dj w (tu I o (x::args))++R) ((x::args).map (cZ o)) cS R/\cS≠124
 |x,[],w,l,ah,h=>by
  obtain⟨fj,hd⟩:=h x (eT ..)
  refine⟨l,?_,ah⟩
  show iJ I (d+1) 41 l (dj w ((bd I o x).1 999 G++ [.rw (.pu 41)])++R) [cZ o x] l R
  rw[kY,cM]
  exact .done (item fj hd (λ _=>dt _) (by decide) rfl (ca (jm 1) hm)) (rz aA x 999 999 (dt _))
 |x,y::args,w,l,ah,h=>by
  obtain⟨fj,hd⟩:=h x (eT ..)
  obtain⟨cS,h',gB⟩:=QM aA hm y args ((((bd I o x).1 999 G).foldl bZ.run w).run (.rw (.pu 44))) 44 (by decide) λ z bb=>h z (f0 _ bb)
  refine⟨cS,?_,gB⟩
  show iJ I (d+1) 41 l (dj w ((bd I o x).1 999 G++ .rw (.pu 44)::tu I o (y::args))++R) (cZ o x::(y::args).map (cZ o)) cS R
  rw[kY,cM]
  exact .more (item fj hd (λ _=>dt _) (by decide) rfl (by show 1<=(dj _ _++R).length;rw[bK];right)) (rz aA x 999 999 (dt _)) (.inl rfl) (by decide) ah h'
theorem Jd(aA:Fine I){t:T}{m:Nat}{bC:Bool}{f:ai}{x:T}{args:List T}(bE:f∈di)(p3:(bd I o t).1 m bC= .tk (.nm f):: .rw (.pu 40)::tu I o (x::args))(Cu:eD I o t m bC=[.t (cZ o t)])
  (aI:uF f ((x::args).map (cZ o))=B (cZ o t)) (h: ∀y∈x::args,jf I o y 999 G/\y.ay+1<=t.ay) (bb:t.ay<=29):jf I o t m bC:= λ w d aS e R ps r hd bo kZ aF cH=>by
 rw[p3,Cu]
 have ab:=(h x (eT ..)).2
 obtain⟨d,rfl⟩: ∃hP,d=hP+2:=⟨d - 2,by right⟩
 obtain⟨cS,rC,gB⟩:=QM aA kZ.len x args ((w.run (.tk (.nm f))).run (.rw (.pu 40))) 0 (by decide) λ y bJ=>⟨(h y bJ).1,by have:=(h y bJ).2;show 3*y.ay<=d;right⟩
 have ao:dj w (.tk (.nm f):: .rw (.pu 40)::tu I o (x::args))++R=(cI.nm f).toks (if w.space ((cI.nm f).cX.headD 0)then U else ff w)++((.pu 40,G)::(dj ((w.run (.tk (.nm f))).run (.rw (.pu 40))) (tu I o (x::args))++R)):=by
  show(cI.nm f).toks _++((.pu 40,ff (w.run (.tk (.nm f))))::dj _ _)++R=_
  rw[akP (p:= .nm f) (λ q=>nomatch q),cM];rfl
 rw[ao]
 obtain⟨q,ni,_,_⟩:=QE (if w.space ((cI.nm f).cX.headD 0)then U else ff w) ((.pu 40,G)::(dj ((w.run (.tk (.nm f))).run (.rw (.pu 40))) (tu I o (x::args))++R)) bE
 refine .app (b:=true) ni bE (.inl rfl) rC (λ y bJ=>?_) gB aI kZ.len (cH U (.inl rfl))
 obtain⟨z,p4,rfl⟩:=nO.mp bJ
 have Y:=(h z p4).2
 have Z:=oJ (o:=o) z
 right
theorem Je{t:T}{m:Nat}{bC:Bool}(h: ∀(w:bZ) (d:Nat) (aS e:Bool) (R:List Tok) (ps:List a8) (r:List Tok),2<=R.length->dd I d aS U U R ps r->dd I d aS G e (dj w ((bd I o t).1 m bC)++R) (eD I o t m bC++ps) r):jf I o t m bC:=
 λ w d aS e R ps r hd bo kZ aF cH=>h w d aS e R ps r kZ.len (cH U (.inl rfl))
theorem ala(ap:o.called∈lK)(aA:xW I): ∀t:T,t.fit->t.ay<=29->(∀m bC,jf I o t m bC)/\LT I o t:=by
 intro b0;induction b0 with
 |v k=>
  intro h bb
  have p: ∀m bC,jf I o (.v k) m bC:= λ m bC=>Je λ w d aS e R ps r Z cH=> .var Z cH
  exact⟨p,vr aA.toFine rfl (λ l=>rfl) (p 999 G)⟩
 |n s=>
  intro h bb
  exact h.elim
 |i z=>
  intro h bb
  have p: ∀m bC,jf I o (.i z) m bC:= λ m bC=>Je λ w d aS e R ps r Z cH=>by
   show dd I d aS G e ((if z<0 then [(cz.nm [45],_),(cz.it z.natAbs,G)]else [(cz.it z.natAbs,_)])++ []++R) ([.t (.i z)]++ps) r
   rw[dV]
   by_cases bb:z<0
   .rw[aQ bb]
    have ao:z= -(z.natAbs:Int):=by rw[afB (Ny bb),Int.neg_neg]
    have:=dd.neg (g:=if w.space ((cI.it z).cX.headD 0)then U else ff w) (e:=e) (n:=z.natAbs) Z cH
    rw[<-ao]at this
    exact this
   .rw[aL bb]
    have ao:z=(z.natAbs:Int):=(afC (rX.mp bb)).symm
    have:=dd.int (g:=if w.space ((cI.it z).cX.headD 0)then U else ff w) (bn:=true) (e:=e) (n:=z.natAbs) Z cH
    rw[<-ao]at this
    exact this
  exact⟨p,vr aA.toFine rfl (λ l=>rfl) (p 999 G)⟩
 |a s=>
  intro h bb
  have h:s∈di:=h
  have cW: ∀m bC,(bd I o (.a s)).1 m bC=if !bC&&I.op s then [.tk (.pu 40), .rw (.nm s), .rw (.pu 41)]else [.tk (.nm s)]:= λ m bC=>rfl
  have ao: ∀m bC,eD I o (.a s) m bC=if !bC&&I.op s then [.t (.a s)]else if s=[44]\/s=[124]then [.t (.a s)]else [.nm s]:= λ m bC=>by rw[IY]
  have wc: ∀(g:Bool) (d:Nat) (aS e bC:Bool) (R:List Tok) (ps:List a8) (r:List Tok),oM R->(bC=U->I.op s=U)->(bC=G->e=G/\ ∀t r,R=t::r->sF t.1=G)->(∀bn,bn=U\/bC=G->dd I d aS bn U R ps r)->
    dd I d aS G e ((cI.nm s).toks g++R) ((if s=[44]\/s=[124]then [.t (.a s)]else [.nm s])++ps) r:= λ g d aS e bC R ps r a b c cH=>akR h a b c cH
  have p: ∀m bC,jf I o (.a s) m bC:= λ m bC w d aS e R ps r hd bo kZ aF cH=>by
   rw[cW,ao]
   cases ba:!bC&&I.op s
   .rw[aL fV,aL fV]
    show dd I d aS G e ((cI.nm s).toks _++ []++R) _ r
    rw[dV]
    refine wc _ d aS e bC R ps r kZ (λ q=>?_) aF cH
    rw[q]at ba;exact ba
   .rw[aQ rfl,aQ rfl]
    have hd:3*1<=d:=hd
    obtain⟨d,rfl⟩: ∃hP,d=hP+1:=⟨d - 1,by right⟩
    obtain⟨u,R,rfl⟩:=tl (hB sB kZ.len)
    have QN:=rz (I:=I) (o:=o) aA.toFine (.a s) 1200 1200 (dt _)
    rw[ao,show(!G&&I.op s)=U from rfl,aL fV]at QN
    have lA:= λ g h'=>wc g d U G G ((.pu 41,h')::u::R) [] ((.pu 41,h')::u::R) (Ct (by decide) (hC _)) nofun (λ _=>⟨rfl,λ t r e=>by injection e with e;rw[<-e];rfl⟩) λ bn _=> .stop rfl
    simp only[dV]at lA
    show dd I (d+1) aS G e ([(.pu 40,_)]++((cI.nm s).toks _++([(.pu 41,_)]++ []))++u::R) (.t (.a s)::ps) r
    rw[dV,cM,cM]
    exact .par (lA _ _) QN kZ.len (cH U (.inl rfl))
  refine⟨p,?_⟩
  by_cases ab:s=[91,93]
  .subst ab
   intro w l d R a7 eC qC ah hd hY aO Z
   exact .done (hY 93 _ _ (.inr (.inr rfl)) (ca (jm 1) Z)) aO
  .refine vr aA.toFine ?_ (λ l=>?_) (p 999 G)
   .show (if s=[91,93]then [c8.rw (.pu 93)]else [c8.rw (.pu 124),c8.tk (.nm s),c8.rw (.pu 93)])=_
    rw[aL ab,cW];rfl
   .rw[Jc,aL ab];rfl
 |dp f x y z dY eU jT=>
  intro h bb
  have bb:x.ay+y.ay+z.ay+1<=29:=bb
  have fj:=(dY h.2.1 (by right)).1 999 G
  have eP:=(eU h.2.2.1 (by right)).1 999 G
  have alb:=(jT h.2.2.2 (by right)).1 999 G
  have p: ∀m bC,jf I o (.dp f x y z) m bC:= λ m bC=>Jd aA.toFine (x:=x) (args:=[y,z]) h.1 rfl rfl rfl (λ u bE=>by
   have ab:(T.dp f x y z).ay=x.ay+y.ay+z.ay+1:=rfl
   rcases eV.mp bE with rfl|bE
   .exact ⟨fj,by right⟩
   rcases eV.mp bE with rfl|bE
   .exact ⟨eP,by right⟩
   .rw[ee.mp bE];exact⟨alb,by right⟩) bb
  exact⟨p,vr aA.toFine rfl (λ l=>rfl) (p 999 G)⟩
 |bf f x dY=>
  intro h bb
  have bb:x.ay+1<=29:=bb
  have bE:f∈di:=h.1
  have fj:=(dY h.2 (by right)).1
  have Cw:=QG (I:=I) ap x h.2
  have ab:(T.bf f x).ay=x.ay+1:=rfl
  have p: ∀m bC,jf I o (.bf f x) m bC:=by
   cases aq:hE o f x with
   |some k=>
    have eM:fa I o (.bf f x)=J:=by
     cases q:fa I o (.bf f x)with
     |none=>rfl
     |some s=>have:=(sy q).2.2.1;rw[aq]at this;cases this
    intro m bC
    refine Je λ w d aS e R ps r Z cH=>?_
    have ao:(bd I o (.bf f x)).1 m bC=[.tk (.aX (ii k))]:=by rw[qL,aq]
    have aH:eD I o (.bf f x) m bC=[.t (.n (ii k))]:=by rw[ny,eM];show [a8.t (cZ o (.bf f x))]=_;rw[uC,aq]
    rw[ao,aH]
    exact .var Z cH
   |none=>
    have mm:=Ci (o:=o) aq
    by_cases xF:f=[123,125]/\o.g6=U
    .obtain ⟨rfl,bo⟩:=xF
     have eM:fa I o (.bf [123,125] x)=J:=by
      cases q:fa I o (.bf [123,125] x)with
      |none=>rfl
      |some s=>exact((sy q).2.1 rfl).elim
     intro m bC w d aS e R ps r hd q9 kZ aF cH
     have ao:(bd I o (.bf [123,125] x)).1 m bC= .tk (.pu 123)::((bd I o x).1 1201 G++ [.rw (.pu 125)]):=by rw[qL,aq];exact aQ ⟨rfl,bo⟩
     have aH:eD I o (.bf [123,125] x) m bC=[.t (.bf [123,125] (cZ o x))]:=by rw[ny,eM];show [a8.t (cZ o (.bf [123,125] x))]=_;rw[mm]
     have cG:dj w (.tk (.pu 123)::((bd I o x).1 1201 G++ [.rw (.pu 125)]))++R=(.pu 123,if w.space 123 then U else ff w)::(dj (w.run (.tk (.pu 123))) ((bd I o x).1 1201 G)++(.pu 125,ff (((bd I o x).1 1201 G).foldl bZ.run (w.run (.tk (.pu 123)))))::R):=by
      show(.pu 123,_)::(dj _ ((bd I o x).1 1201 G++ [.rw (.pu 125)]))++R=_
      rw[kY,jz,cM];rfl
     rw[ao,aH,cG]
     rw[ab]at hd
     obtain⟨d,rfl⟩: ∃hP,d=hP+1:=⟨d - 1,by right⟩
     obtain⟨u,qD,ec,_,alc,_⟩:=QH (Cw 1201 G) (w.run (.tk (.pu 123))) ((.pu 125,ff (((bd I o x).1 1201 G).foldl bZ.run (w.run (.tk (.pu 123)))))::R)
     have it:=item (I:=I) (o:=o) (d:=d) (c:=125) (aS:=false) (g:=ff (((bd I o x).1 1201 G).foldl bZ.run (w.run (.tk (.pu 123))))) (w:=w.run (.tk (.pu 123))) (R:=R) (fj 1201 G) (by right) nofun (by decide) rfl (ca (jm 1) kZ.len)
     rw[ec]at it ⊢
     refine .cur alc it ?_ kZ.len (cH U (.inl rfl))
     rw[Qn aA.toFine]
     exact rz aA.toFine x 1200 1200 (dt _)
    .cases eM:fa I o (.bf f x)with
     |none=>
      intro m bC
      refine Jd aA.toFine (x:=x) (args:=[]) bE ?_ ?_ ?_ (λ y bJ=>?_) (by right)
      .rw[qL,aq]
       show(if f=[123,125]/\o.g6=U then _ else _)=_
       rw[aL xF,eM];rfl
      .rw[ny,eM]
      .rw[mm];rfl
      .rw[ee.mp bJ];exact⟨fj 999 G,by right⟩
     |some s=>
      obtain⟨k,cW⟩:=s
      obtain⟨_,_,_,ak⟩:=sy eM
      have p3: ∀m bC,(bd I o (.bf f x)).1 m bC=match fa I o (.bf f x)with
       |some (.pre,e)=>iI (decide (m<e.1)) (gD f++(bd I o x).1 (dh e) U)
       |some (_,e)=>iI (decide (m<e.1)) ((bd I o x).1 (e3 I o x e.1 (d6 e)) U++ij f)
       |none=> .tk (.nm f):: .rw (.pu 40)::((bd I o x).1 999 G++ [.rw (.pu 41)]):= λ m bC=>by
       rw[qL,aq]
       exact aL xF
      rcases ak with⟨rfl,ak,_⟩|⟨rfl,ak,_⟩
      .exact λ m bC=>Ja (ak3 aA (Cw _ _) ak (fj _ _)) (λ m bC=>by rw[p3,eM]) (λ m bC=>by rw[ny,eM]) aA.toFine (aA.pre f cW ak).2 (Jb _)
      .exact λ m bC=>Ja (ak5 aA (ca (vo ms ry) ms) ak (fj _ _)) (λ m bC=>by rw[p3,eM]) (λ m bC=>by rw[ny,eM]) aA.toFine (aA.post f cW ak).2 (Jb _)
  exact⟨p,vr aA.toFine rfl (λ l=>rfl) (p 999 G)⟩
 |a3 f x y dY eU=>
  intro h bb
  have bb:x.ay+y.ay+1<=29:=bb
  have bE:f∈di:=h.1
  have fj:=(dY h.2.1 (by right)).1
  obtain⟨eP,IL⟩:=eU h.2.2 (by right)
  have Cw:=QG (I:=I) ap x h.2.1
  have ab:(T.a3 f x y).ay=x.ay+y.ay+1:=rfl
  by_cases Cx:f=[46]
  .subst Cx
   have eM:fa I o (.a3 [46] x y)=J:=by
    cases q:fa I o (.a3 [46] x y)with
    |none=>rfl
    |some s=>exact((uD q).2.1 rfl).elim
   have hY: ∀(vq:bZ) (d:Nat),3*x.ay<=d-> ∀m g j2,m=44\/m=124\/m=93->1<=j2.length->dd I d G G G (dj vq ((bd I o x).1 999 G)++(.pu m,g)::j2) (eD I o x 999 G) ((.pu m,g)::j2):=
    λ vq d hd m g j2 aG ah=>item (fj 999 G) hd (λ _=>dt _) (QL m aG).1 (QL m aG).2 ah
   have QO:=rz (I:=I) (o:=o) aA.toFine x 999 999 (dt _)
   constructor
   .intro m bC w d aS e R ps r hd bo kZ aF cH
    have ao:(bd I o (.a3 [46] x y)).1 m bC= .tk (.pu 91)::((bd I o x).1 999 G++(bd I o y).2):=by rw[m4];rfl
    have aH:eD I o (.a3 [46] x y) m bC=[.t (cZ o (.a3 [46] x y))]:=by rw[rx,eM]
    have cG:dj w (.tk (.pu 91)::((bd I o x).1 999 G++(bd I o y).2))++R=(.pu 91,if w.space 91 then U else ff w)::(dj (w.run (.tk (.pu 91))) ((bd I o x).1 999 G)++(dj (((bd I o x).1 999 G).foldl bZ.run (w.run (.tk (.pu 91)))) (bd I o y).2++R)):=by
     show(.pu 91,_)::(dj _ ((bd I o x).1 999 G++(bd I o y).2))++R=_
     rw[kY,jz,cM];rfl
    rw[ao,aH,cG]
    rw[ab]at hd
    obtain⟨d,rfl⟩: ∃hP,d=hP+2:=⟨d - 2,by right⟩
    have rC:=IL (((bd I o x).1 999 G).foldl bZ.run (w.run (.tk (.pu 91)))) 0 d R (dj (w.run (.tk (.pu 91))) ((bd I o x).1 999 G)) (eD I o x 999 G) (cZ o x) (by decide) (by right) (hY _ d (by right)) QO kZ.len
    obtain⟨u,qD,ec,ald,_,_⟩:=QH (Cw 999 G) (w.run (.tk (.pu 91))) (dj (((bd I o x).1 999 G).foldl bZ.run (w.run (.tk (.pu 91)))) (bd I o y).2++R)
    rw[ec]at rC ⊢
    refine .lst ald rC (λ z p4=>?_) (ak9 y 0 (cZ o x) (by decide)) kZ.len (cH U (.inl rfl))
    rcases eV.mp p4 with rfl|p4
    .have:=oJ (o:=o) x;right
    .have:=ak7 y 0 z p4;right
   .intro w l d R a7 eC qC ah hd ale aO Z
    rw[ab]at hd
    have ao:(bd I o (.a3 [46] x y)).2= .rw (.pu 44)::((bd I o x).1 999 G++(bd I o y).2):=by rw[m4];rfl
    have cG:dj w (.rw (.pu 44)::((bd I o x).1 999 G++(bd I o y).2))++R=(.pu 44,ff w)::(dj (w.run (.rw (.pu 44))) ((bd I o x).1 999 G)++(dj (((bd I o x).1 999 G).foldl bZ.run (w.run (.rw (.pu 44)))) (bd I o y).2++R)):=by
     show(.pu 44,_)::(dj _ ((bd I o x).1 999 G++(bd I o y).2))++R=_
     rw[kY,jz,cM]
    have ec:kt o (.a3 [46] x y) l=(cZ o x::(kt o y 44).1,(kt o y 44).2):=by rw[Cv];rfl
    rw[ao,cG,ec]
    exact .more (ale 44 _ _ (.inl rfl) (by rw[bK,bK];right)) aO (.inl rfl) (by decide) ah (IL _ 44 d R _ _ _ (by decide) (by right) (hY _ d (by right)) QO Z)
  .have p3: ∀m bC,(bd I o (.a3 f x y)).1 m bC=match fa I o (.a3 f x y)with
     |some (_,e)=>iI (decide (m<e.1)) ((bd I o x).1 (e3 I o x e.1 (d6 e)) U++hF f++(bd I o y).1 (dh e) U)
     |none=> .tk (.nm f):: .rw (.pu 40)::((bd I o x).1 999 G++ .rw (.pu 44)::((bd I o y).1 999 G++ [.rw (.pu 41)])):= λ m bC=>by
    rw[m4,aL Cx];rfl
   have p: ∀m bC,jf I o (.a3 f x y) m bC:=by
    cases eM:fa I o (.a3 f x y)with
    |none=>
     intro m bC
     refine Jd aA.toFine (x:=x) (args:=[y]) bE ?_ ?_ rfl (λ z p4=>?_) (by right)
     .rw[p3,eM];rfl
     .rw[rx,eM]
     .rcases eV.mp p4 with rfl|p4
      .exact ⟨fj 999 G,by right⟩
      .rw[ee.mp p4];exact⟨eP 999 G,by right⟩
    |some s=>
     obtain⟨k,cW⟩:=s
     obtain⟨_,_,rfl,ak⟩:=uD eM
     exact λ m bC=>Ja (ak6 aA bE (ca (vo ms ry) ms) ak (fj _ _) (eP _ _)) (λ m bC=>by rw[p3,eM]) (λ m bC=>by rw[rx,eM]) aA.toFine (aA.inf f cW ak).2 (Jb _)
   refine⟨p,vr aA.toFine ?_ (λ l=>?_) (p 999 G)⟩
   .rw[m4,aL Cx];rfl
   .rw[Cv,aL Cx]
end
section
variable{I:bY}{o:du}
theorem Jf{b:Bool}{l:List c8}:(iI b l).length<=l.length+2:=by
 cases b
 .exact gc _ 2
 .show (l++ [c8.rw (.pu 41)]).length+1<=_;rw[bK];show l.length+1+1<=_;right
theorem alf{f:ai}:(gD f).length<=2:=by unfold gD;split<;>exact dt 2
theorem alg{f:ai}:(ij f).length<=2:=by
 unfold ij;split
 .exact jm 1
 .exact dt 2
theorem alh{f:ai}:(hF f).length<=3:=by
 unfold hF
 split;exact kG 1 2
 split;exact kG 1 2
 split;exact kG 1 2
 exact dt 3
theorem vs{e:Nat->Bool->List c8}{n:Nat}(h: ∀m a,(e m a).length<=n):(∀m a,((m3 e).1 m a).length<=n)/\(m3 e).2.length<=n+2:=
 ⟨h,by show(e 999 G++ [c8.rw (.pu 93)]).length+1<=_;rw[bK];have:=h 999 G;show _+1+1<=_;right⟩
theorem tv: ∀t:T,(∀m a,((bd I o t).1 m a).length<=6*t.ay)/\(bd I o t).2.length<=6*t.ay+2
 | .v k=>vs λ m a=>by show 1<=6;decide
 | .n s=>vs λ m a=>by show 1<=6;decide
 | .i z=>vs λ m a=>by show 1<=6;decide
 | .a s=>by
  refine⟨λ m a=>?_,?_⟩
  .show (if !a&&I.op s then [c8.tk (.pu 40),c8.rw (.nm s),c8.rw (.pu 41)]else [c8.tk (.nm s)]).length<=6
   split
   .show 3<=6;decide
   .show 1<=6;decide
  .show (if s=[91,93]then [c8.rw (.pu 93)]else [c8.rw (.pu 124),c8.tk (.nm s),c8.rw (.pu 93)]).length<=8
   split
   .show 1<=8;decide
   .show 3<=8;decide
 | .dp f x y z=>vs λ m a=>by
  have aJ:=(tv x).1 999 G
  have bJ:=(tv y).1 999 G
  have bb:=(tv z).1 999 G
  show((bd I o x).1 999 G++c8.rw (.pu 44)::((bd I o y).1 999 G++c8.rw (.pu 44)::((bd I o z).1 999 G++ [c8.rw (.pu 41)]))).length+1+1<=6*(x.ay+y.ay+z.ay+1)
  simp only[bK,el,jM]
  right
 | .bf f x=>by
  have aJ:=(tv x).1
  refine vs (e:= λ m a=>(bd I o (.bf f x)).1 m a) (n:=6*(x.ay+1)) λ m a=>?_
  rw[qL]
  split
  .show 1<=_;right
  .split
   .have:=aJ 1201 G
    show(_++_:List c8).length+1<=_
    simp only[bK,el,jM];right
   .split
    .rename_i e _
     have Y:=Jf (b:=decide (m<e.1)) (l:=gD f++(bd I o x).1 (dh e) U)
     have Z:=alf (f:=f)
     have aE:=aJ (dh e) U
     rw[bK]at Y;right
    .rename_i e _ _
     have Y:=Jf (b:=decide (m<e.1)) (l:=(bd I o x).1 (e3 I o x e.1 (d6 e)) U++ij f)
     have Z:=alg (f:=f)
     have aE:=aJ (e3 I o x e.1 (d6 e)) U
     rw[bK]at Y;right
    .have:=aJ 999 G
     show(_++_:List c8).length+1+1<=_
     simp only[bK,el,jM];right
 | .a3 f x y=>by
  have aJ:=(tv x).1
  obtain⟨bJ,ane⟩:=tv y
  have ab:(T.a3 f x y).ay=x.ay+y.ay+1:=rfl
  rw[m4,ab]
  split
  .have:=aJ 999 G
   refine⟨λ m a=>?_,?_⟩
   .show (_++_:List c8).length+1<=_
    rw[bK];right
   .show (_++_:List c8).length+1<=_
    rw[bK];right
  .refine vs λ m a=>?_
   split
   .rename_i e _
    have Y:=Jf (b:=decide (m<e.1)) (l:=(bd I o x).1 (e3 I o x e.1 (d6 e)) U++hF f++(bd I o y).1 (dh e) U)
    have Z:=alh (f:=f)
    have aE:=aJ (e3 I o x e.1 (d6 e)) U
    have bv:=bJ (dh e) U
    rw[bK,bK]at Y;right
   .have aE:=aJ 999 G
    have bv:=bJ 999 G
    show(_++_:List c8).length+1+1<=_
    simp only[bK,el,jM];right
theorem ali{p:cI}(h:jB p):p.cX.length<=1000:=by
 cases p with
 |sp=>show 1<=1000;decide
 |pu c=>show 1<=1000;decide
 |aX s=>exact h.1
 |it z=>
  have:=I4 h
  show(hU z).length<=1000
  unfold hU
  split
  .show (cY _).length+1<=_;right
  .right
 |nm s=>
  have: ∀s∈di,(g5 s).length<=1000:=by decide+kernel
  exact this s h
theorem QP: ∀{l:List cI},(∀p∈l,jB p)->(l.flatMap cI.cX).length<=1000*l.length
 | [],_=>dt 0
 |p::l,h=>by
  have Y:=ali (h p (eT ..))
  have Z:=QP λ q co=>h q (f0 _ co)
  rw[wW,bK,el];right
theorem oB.fR(h:oB I):xW I where
 sep:= λ s e l=>BB (h.io _ (rt l))
 pre:= λ s e l=>(h.tab.pre s e l).2
 inf:= λ s e l=>(h.tab.inf s e l).2
 post:= λ s e l=>(h.tab.post s e l).2
 QB:= λ s e l=>by
  have: ∀s∈fr,s∈di/\s≠ [44]/\s≠ [124]:=by decide
  exact this s (h.kn _ (rt l)).1
 QC:= λ s e l=>by
  have: ∀s∈fr,s∈di/\s≠ [44]/\s≠ [124]:=by decide
  exact this s (h.ok _ (rt l)).1
 QD:= λ s e l ab=>by
  have aq: ∀s∈fr,s≠ [44]/\s≠ [124]:=by decide
  rcases h.lz _ (rt l)with q|q|q
  .have:=aq s q.1
   exact ab.elim (λ q=>(this.1 q).elim) λ q=>(this.2 q).elim
  .injection q with _ q;rw[q];exact dt _
  .injection q with _ q;rw[q];decide
theorem alj:oM [hH,hH]:=⟨dt 2,λ t r e=>by injection e with e;rw[<-e];exact⟨nofun,nofun⟩⟩
theorem alk:PP:= λ I o t ok ap aA bb=>by
 have BI:=ok.fR
 have Fq:=(tv (I:=I) (o:=o) t).1 1201 G
 have A1:=vp _ ⟨[],U⟩ U ((QA (I:=I) ap t aA).1 1201 G) ⟨trivial,λ _ h=>nomatch h⟩ nofun
 have alm:=Hy ((bd I o t).1 1201 G) ⟨[],U⟩
 have ao:=xV ((bd I o t).1 1201 G) ⟨[],U⟩
 have aT:=(ala ap BI t aA (by right)).1 1201 G ⟨[],U⟩ 94 U G [hH,hH] [] [hH,hH] (by right) nofun alj (λ _=>⟨rfl,λ t r e=>by injection e with e;rw[<-e];rfl⟩) λ bn _=> .stop rfl
 rw[dV]at aT
 have bH:=Co (l:=(bd I o t).1 1201 G) (w:=⟨[],U⟩)
 refine⟨_,_,akO ap aA,by rw[ao];exact aT,?_,?_,?_,by right⟩
 .rw[Qn BI.toFine]
  exact rz BI.toFine t 1200 1200 (dt _)
 .rw[ao];show(dj _ _).length+2<=500;right
 .have Y:=QP A1.2
  have Z:(textOf I o t).length<=1000*(((bd I o t).1 1201 G).foldl bZ.run ⟨[],U⟩).out.length:=Y
  have aE:(((bd I o t).1 1201 G).foldl bZ.run ⟨[],U⟩).out.length<=0+2*((bd I o t).1 1201 G).length:=alm
  show _<1000000
  right
end
section
open PySem PySem.W PyProof.Rows
theorem aln{h:b1}{a:Nat}{m gf:Str->Option aZ}(n:h.Ns a m)(i1:h.Ns a gf):m=gf:=by
 obtain⟨o,es,db,Y,Z,_,aE⟩:=n
 obtain⟨ji,t2,Lm,ed,eQ,_,tp⟩:=i1
 have e:=dg (Y.symm.trans ed)
 subst e
 have e:=Z.symm.trans eQ
 injection e with e _
 subst e
 exact funext λ x=>(aE x).symm.trans (tp x)
theorem ints_of{R:WRecords}{cl:Str->Option Addr}{h:b1}{j:St}(xs:List WData): ∀X as,alo R xs .int=G->ReadsAllW R cl h X xs as-> ∃cD:List Int,b3 h j (cD.map V.int) X/\cD.length=xs.length:=
 List.rec (motive:= λ xs=> ∀X as,alo R xs .int=G->ReadsAllW R cl h X xs as-> ∃cD:List Int,b3 h j (cD.map V.int) X/\cD.length=xs.length)
  (λ X as _ r=>by rw[(alp r).1];exact⟨[], .nil,rfl⟩) (λ x xs aB X as e r=>by
   have e:=aV e
   obtain⟨i,rfl⟩:=hasW_int e.1
   obtain⟨v,d0,bz,cO,ao,_,a5,c7⟩:=alq r
   obtain⟨t,aH,_⟩:=readsW_int_inv a5
   rw[ao,aH]
   obtain⟨cD,Y,Z⟩:=aB _ _ e.2 c7
   exact⟨i::cD, .cons ⟨t,rfl⟩ Y,congrArg oY Z⟩) xs
theorem alr{P:Program}{w:World}{h:b1}{A:Around}:bN ⟨P,w,h,A⟩ h (λ _=>J):=⟨λ _ _ e=>e,λ _ _ _=>rfl,λ _ _ e=>hl e,λ _ _ e=>hl e⟩
theorem als{R:WRecords}{xs:List WData}(q:(WTm.and (.not (.lt (.lit (.int 63)) (.len (.arg 0)))) (.lit (.bool G))).holds R { args:=[.list xs] }=G):xs.length<=63:=by
 rcases F9 63 xs.length with z|z
 .have e:((63:Int)<(xs.length:Int)):=o5.mpr z
  simp [alt,alu,less?,Num.less?,e]at q
 .exact z
theorem alv{R:WRecords}{xs ys:List WData}:(WTm.eq .res (.lit (.bool G))).holds R { args:=[.list xs],res:=B (.bool G),after:=[.list ys] }=G:=by
 simp [alt,alu,same]
theorem alw{xs:List WData}:dI.row.claim.post [.list xs] (.bool G) [.list xs]=G:=by
 show(alx dI.row.records (.bool G) .bool&&(WTm.eq .res (.lit (.bool G))).holds dI.row.records { args:=[.list xs],res:=B (.bool G),after:=[.list xs] })=G
 rw[alv,Bm]
 simp [alx,WShape.arms]
theorem aly:ss callerA 101:=⟨rfl,bw rfl,by rw[show cLine=9900 from rfl];exact bw rfl⟩
theorem alz{d:DefRec}{tw:List (Str×bh)}(hd:d.name=dI.row.name):WalkO co GU (λ gC h=>XL co [] gC h) (qJ qK).says dI.row.toRowW d tw λ f X=>PySem.call f X:=by
 intro w eI cT gC jn bI h0 a o anf ek ang anh ani _ _ _ _ QQ aM args anj as alA _ alB _ _
 obtain⟨K,ank,T,b,n,ah⟩:=h0
 have j8:=aln n bI.T.g
 subst j8
 rw[hd]at QQ
 have b7:(565:Nat)=a:=zE (dg (ah.symm.trans QQ))
 subst b7
 have aT:=pre_splitW alA
 obtain⟨hZ,r,rfl,ao,aH⟩:=hasAllW_cons (R:=[]) (e:= .list .int) (es:=[]) aT.1
 have cG:=hasAllW_nil aH
 subst cG
 obtain⟨xs,rfl,ec⟩:=hasW_list ao
 have alC:xs.length<=63:=by
  exact als aT.2
 obtain⟨v,d0,bz,cO,rfl,_,a5,c7⟩:=alq alB
 obtain⟨rfl,_⟩:=alp c7
 obtain⟨l,o4,anl,k,anm,rfl,Y,Z,aE,bv,_⟩:=readsW_list_open a5
 obtain⟨cD,js,ml⟩:=ints_of (j:= λ _=>J) xs _ _ ec bv
 refine L9 (codeAny_mono (adx (c:=⟨_,w,cT.heap,callerA⟩) b T 101 callerA aly 565 [.fi (cD.map .int)] (λ _=>J) (λ v _=>v= .bool G) (ako alk (ml▸alC) λ _=>rfl) cT _ (.one ⟨_,_,rfl,rfl,⟨_,Y,Z,_,aE⟩,js⟩) alr) λ r s' q=>?_)
 rcases r with e|(v|_|_|_)<;>first|exact q.elim|skip
 obtain⟨V,D,rfl,hR,g2,st⟩:=q
 subst hR
 exact⟨.inl ⟨.bool G, .bool G,[],rfl,λ _=>rfl, .bool G,alw,λ _=>⟨nJ,λ _ h=>nomatch h⟩⟩, .of_keep g2.base,st.o, .of_eq (st.g.trans aM)⟩
section
set_option maxRecDepth 100000
theorem alD: ∃d tw,defOf co dI.row.name=B (d,tw)/\dI.row.prog.theDef dI.row.name=B (d.params,d.body,d.scope)/\kwWritten? d.params.kwonlyargs d.params.kw_defaults=B tw:=by
 obtain⟨⟨d,tw⟩,e⟩: ∃x,defOf co dI.row.name=B x:=AN.mp (by kernel_rfl)
 refine⟨d,tw,e,?_,?_⟩
 .have k:dI.row.prog.theDef dI.row.name=(defOf co dI.row.name).map λ x=>(x.1.params,x.1.body,x.1.scope):=by kernel_rfl
  rw[k,e];rfl
 .have k:((defOf co dI.row.name).map λ x=>kwWritten? x.1.params.kwonlyargs x.1.params.kw_defaults)=(defOf co dI.row.name).map λ x=>B x.2:=by kernel_rfl
  rw[e]at k
  exact dg k
theorem alE:(chainsOk co&&opensWell dI.row.prog&&(frees dI.row.toRowW&&dI.row.within.isEmpty))=G:=by kernel_rfl
theorem alF:dI.row.prog.bare:=⟨rfl,rfl,rfl,rfl,rfl,by decide+kernel⟩
theorem alG:dI.row.toRowW.promised:=⟨[.list []],by decide+kernel,by decide+kernel⟩
theorem alH(alI:dI.row.wellSaid=G):dI.row.Holds:=by
 obtain⟨d,tw,QR,aT,ak⟩:=alD
 exact holds_open (q:=co) (loose:=GU) (Xt:= λ s=>xlAt co [] s&&recOk [] s) (XP:=XL co []) (Yf:=(qJ qK).obs) (Ya:=(qJ qK).val) (YP:=(qJ qK).says) (N:=6396) adZ (qJ qK).of (qJ qK).keeps (λ s e=>xl_of s (kv.mp e).1) XL.keeps QR aT ak (λ s e=>recFacts_of (kv.mp e).2) rfl alI alE alF alG (alz (defOf_name QR))
theorem ann:dI.Holds:=⟨Rd,alH Ji⟩
end
end
end Mine
theorem PySem.Challenge.cw_no0178_01_holds : PySem.Challenge.rw_no0178_01.Holds :=
  Mine.ann
