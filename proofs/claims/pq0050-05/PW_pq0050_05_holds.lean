import PyProof.Rows.All
import Wide.All
import OpenK.AllK
import Wide.FinOn
import PyProof.P3Eq
import PyProof.P3In
import KE.KEqDat
import PyProof.RulesDelMore
import PyProof.RulesAssignMore
import PyProof.LetGo
import PyProof.DictDisplay
import PyProof.CompMap
import PyProof.CompFree
import PyProof.EnumMake
import PyProof.EnumStmt
import PyProof.ForAny
import PyProof.CompUse
import PyProof.Raises
import PyProof.RulesDel
import PyProof.AssignAttr
import PyProof.Dict
import PyProof.IsRules
import PyProof.ListOps
import PyProof.DelItemList
import PyProof.NeData
import PyProof.Rows.EqDataRows
import PyProof.TupleOps
import PyProof.TupleOfSeq
import PyProof.TupleCall
import PyProof.WalksMore
import PyProof.StrWalks
import PyProof.ListRange
import PyProof.ListCopy
import PyProof.RangeFor
import PyProof.DictRoads
import PyProof.DictRoadsH
import PyProof.MeetsDictList
import KE.KDictLaws
import PyProof.Rows.SortWalk
import PyProof.Rows.SumAny
import PyProof.Rows.RuleN_abs
import PyProof.CallStr
import PyProof.StrCalls3
import PyProof.StrBlock
import PyProof.Rows.SetFrom
import PyProof.SetRoads
import KE.KDictSum
import KE.KSortTup
import PyProof.StrCalls
import PyProof.EqAt
import PyProof.Conv_int
import PyProof.Rows.TupMore
import PyProof.DictWalks
import KE.KDictOf
import PyProof.AttrMissHeap
import KE.KDictList
import PyProof.DictValues
import PyProof.Rows.ListMulArg
import PyProof.Rows.RuleC_bool
import Lean
import PySem.Challenge.RW_pq0050_05
open PySem renaming wpAny_bind → aa, wpAny_pure → ad, Value → ae, Shared → ah, Addr → ao, wpAny_holding → aS, Heap → a_, NameKind → bq, Around → bB, mem_of_lookup → bE, wpAny_setState_of → bG, mainGlobals → bK, Program → bS, wpAny_call_entry → b4, sizeLine → b8, wpAny_standAt → cu, wpAny_mono → cx, World → cy, wpAny_callSpecial?_slot → cV, sizeLine_eq → cY, wpAny_newObj_type → dc, bootBuiltins → dL, codeAny_builtin → dP, plainId_quiet → e7, wpAny_setField → ff, wpAny_askSetting → fg, scanBound → fj, wpAny_typeNameOfWhole_valiter → fF, wpAny_specialOf → fR, cellsFrom → fU, wpAny_rule → gn, wpAny_typeNameOf_valiter → gL, behindInMarks → gM, compareOp → g7, wpAny_is_plain → ia, wpAny_fieldsOf → ib, starEach → ic, getMethod_builtin → ie, CmpOp → io, wpAny_notOrdered_dict → iE, Obj → iF, wpAny_isInstance → iN, DictEntry → iT, wpAny_attempt → iV, Comprehension → iY, Pos → jx, isSubtype_type → jJ, wpAny_pyIter_slot → jU, wpAny_dictEntries → jV, storedH_new → jW, wpAny_getItem_list_slice → ky, wpAny_forIn_list → kW, slicePick → kX, seqIndex? → kY, pickOrder → kZ, wpAny_typeOf → lJ, setsByText → lK, letOwnedTupleGo → lS, wpAny_isOneOf_valiter → l_, Sem → me, wpAny_seqItems → mM, callEnvC → mO, isSubtype → nr, swapsWithSole → nR, Scope → nS, wpAny_tupleItemsOf → oz, wpAny_load → oA, sliceRange → oB, setEntries → oD, entryOfKey → oE, call_meets → oF, Env → oU, wpAny_pyIter_list → o3, storeSet → o4, setAddHashed → o5, relayAll → o6, atKey_of_get → o7, Operator → pc, ElemsOf → pf, wpAny_eqBool_str → pV, Stmt → pX, Result → pY, wpAny_of_eq → qc, wpAny_ite_split → qB, wpAny_execs_nil → qC, wpAny_dictEpoch → qD, wpAny_call → rC, recursionLimit → rD, newFunctionEnv → rE, methodCallForm → rF, isInstance → rG, dictSetDefault → rH, callWith → rI, assignEach → rK, Model → rN, wpAny_comprehension_free → sx, swappedStores → sy, swapsWith → sL, putSet_of → sM, eqIsQuiet → sO, Walks → sR, wpAny_allTrue_And_cons → tI, codeAny_mono → tK, wpAny_isSame_ref_self → t6, wpAny_allTrue_Or_cons → t7, isSubtype_tuple_tuple → t8, builtinLookup_eq_fast → t9, wpAny_updateDictKeys → uN, wpAny_letTemporaryGo → uO, storedH_old → uP, sliceBounds → uQ, setEpoch → uR, fieldsOf → uU, entryFor → uV, codeAny_call_builtin → uW, bindName → uX, SetFound → uY, HeapKind → u9, GenState → u_, wpAny_dictFind_heap → vL, not_mem_keys_of_get → vM
open PySem.Str renaming ofString → ab, ofString_eq_toList → dH
open List renaming length_map → ac, mem_singleton → aj, length_append → am, mem_map → aq, getElem?_eq_getElem → ax, getElem?_eq_some_iff → az, mem_cons_of_mem → aA, mem_of_getElem? → aC, mem_cons_self → aE, length_singleton → aF, map_cons → aJ, mem_append → aK, map_append → aM, mem_range → aN, mem_cons → aO, length_cons → aP, getElem?_map → aQ, mem_append_right → aT, range → aV, length_range → aY, append_assoc → aZ, mem_append_left → a8, getD_eq_getElem?_getD → bc, map_map → bf, append_nil → bh, not_mem_nil → bj, pairwise_map → bo, length_set → bw, lookup_cons → bx, nodup_cons → bC, map_congr_left → bF, mem_filter → bH, take_add_one → bJ, length_nil → bL, getElem_mem → bO, take_length → bT, filter_cons → bW, perm_append_comm → bY, pairwise_iff_getElem → bZ, sublist_cons_self → b7, all_eq_true → b_, nodup_append → cg, cons_lt_cons_iff → cF, perm_middle → cW, length_take → cX, sublist_append_right → cZ, length_filter_le → c_, getElem?_eq_none → da, zip_cons_cons → dp, length_eq_zero_iff → dz, cons_append → dA, take_of_length_le → dE, getElem?_append_right → dF, filterMap_cons → dI, getElem?_append_left → dM, length_erase_of_mem → dU, ext_getElem? → d6, length_pos_of_mem → eh, perm_ext_iff_of_nodup → eE, filter_append → eF, range_succ → eM, filter_nil → eN, eraseIdx_eq_take_drop_succ → eY, reverse_perm → fL, filter_congr → fM, length → fV, getElem_map → fX, extract_eq_take_drop → gb, getElem?_range → gh, filter_eq_self → gi, sublist_append_left → gu, all_cons → gv, size_toArray → gP, isEmpty_iff → hV, sum_cons → im, contains_eq_mem → iz, length_reverse → iQ, getElem_of_mem → iR, getElem_append → iS, perm_append_singleton → jc, length_eraseIdx_of_lt → jd, getElem_range → je, getElem?_drop → jf, drop_eq_getElem_cons → jm, map_reverse → jP, length_drop → jQ, drop_eq_nil_of_le → jX, forIn_cons → kB, find?_cons → kC, take_append_drop → kM, singleton_append → kN, getElem?_toArray → kO, mem_iff_getElem → lh, mem_erase_of_ne → lj, map_id → lp, drop_zero → lq, Perm → lQ, map_eq_nil_iff → lT, any_cons → mc, zip_nil_right → mh, mem_filterMap → mq, reverse_cons → nv, getElem_set → nU, any_eq_true → nV, idxOf_lt_length_of_mem → pd, lt_irrefl → pB, forIn_nil → pC, getLast?_eq_none_iff → p8, getElem?_eq_none_iff → p9, map_take → qg, lt_trans → qh, getElem?_take_of_lt → qi, drop_nil → qj, pairwise_filterMap → qE, getElem?_cons_succ → qF, pairwise_lt_range → qO, map_nil → qP, getElem_singleton → qQ, filter_eq_nil_iff → qR, drop_of_length_le → qS, mem_iff_getElem? → rO, filterMap_append → rP, contains_iff_mem → rQ, concat_eq_append → rR, pairwise_append → sc, pairwise_cons → sU, find?_eq_none → sV, filter_filter → sW, filterMap_map → sX, zip_nil_left → tR, getElem_take → tS, getElem?_set → tT, zipIdx_cons → ua, nodup_range → ub, mem_reverse → uc, map_snd_zip → ud, map_fst_zip → ue, getElem_inj → uf, of_mem_zip → u6, find?_some → u7, nodup_nil → vO
open Array renaming length_toList → aw, getElem?_eq_getElem → aW, getElem?_toList → a0, getElem?_eq_some_iff → bA, getD_eq_getD_getElem? → dB, getD → dO, getElem?_eq_none → ef, toList_push → eO, toList_append → gf, toList_extract → ip, getElem_toList → iq, forIn_toList → i9, toList_eraseIdxIfInBounds → ny, replicate → oM, getElem_mem_toList → qb, toList_map → tW, any_toList → tX, size_map → vi
open Nat renaming le_trans → ay, le_refl → aD, le_of_ble_eq_true → be, le_of_succ_le → bN, ne_of_lt → bQ, lt_or_ge → bX, zero_le → b0, not_lt_zero → ca, le_of_eq → cm, succ_le_succ → cC, lt_succ_self → cD, lt_succ_iff_lt_or_eq → cE, lt_trans → cN, lt_irrefl → db, min_eq_left → dg, le_total → dh, min_eq_right → dC, le_of_not_lt → dD, mul_le_mul_left → dJ, max_eq_left → dK, lt_trichotomy → d7, le_of_succ_le_succ → ew, max_eq_right → eB, le_succ_of_le → eS, le_of_lt_succ → eU, le_of_lt → eV, lt_of_lt_of_le → fq, le_antisymm → fD, le_add_left → fE, succ_pos → ga, not_lt → gJ, lt_succ_of_lt → gV, le_add_right → ii, beq → iy, strongRecOn → iP, add_sub_cancel' → iW, zero_add → i6, sub_self → i7, lt_of_le_of_lt → jk, lt_succ_of_le → jz, mod_lt → kz, max_le → kA, mul_le_mul → lM, mul_add → lN, le_succ → lO, add_le_add_right → lP, add_assoc → mf, lt_of_le_of_ne → mP, add_sub_cancel → mQ, ne_of_gt → nJ, ble → nK, add_zero → nL, succ_ne_self → oH, not_le_of_lt → oI, add_le_add → p7, le_of_add_le_add_left → qf, min_self → rM, sub_one_lt_of_lt → sD, not_succ_le_zero → sE, le_sub_one_of_lt → sF, add_lt_add_right → sG, add_add_add_comm → sH, pos_of_ne_zero → tO, lt_or_gt_of_ne → tP, lt_of_lt_of_eq → tQ, succ_lt_succ → u0, lt_of_not_le → u4
open Option.some renaming inj → aB, injEq → gp
open PySem.Heap renaming get?_push_of_some → aG, get?_push_size → aH, SameBut → bu, lt_size → bM, get?_update_self → bR, size_push → fW, get?_update_other → gQ, ExtBut → jw, get?_update_ne → sJ
open List.cons renaming inj → aL, injEq → mR
open Bool renaming false_ne_true → aR, and_eq_true → bm, and_eq_true_iff → ck, true_and → gx, not_eq_true' → gR, or_eq_false_iff → lr, and_false → pF, false_or → qk, false_eq_true → sZ, or_eq_true → vh
open PySem.SetTable renaming below → ba, grown → fG, insertAt → gB, slot → oO, laid → oP, advance → r_, relaid → sB, fresh → sS, Probe → sT, fits → tL, fill → tM
open PySem.Heap.SameBut renaming update → bn, refl → qa
open Option renaming map_eq_some_iff → bt, map_some → gq, map_eq_none_iff → jO, none_or → oR, bind_eq_bind → rL, isSome_map → sC
open Prod.mk renaming inj → b6, injEq → pb
open Int renaming toNat_natCast → cb, le_of_lt → ez, natCast_nonneg → ft, ofNat_lt → gc, le_trans → ge, ofNat_le → gW, le_refl → iC, negSucc_lt_zero → iX, le_antisymm → kP, toNat → lU, neg_le_of_neg_le → sI, lt_of_lt_of_le → tU, max_eq_right → u8, min_eq_left → vP
open PySem.Builtin.Tuple renaming tupleHashOf → cP
open PySem.Around renaming under_plainId → cQ
open PySem.Obj renaming data_mapFields → cT, mapFields → dW, mapSeq → fk, isFreed_of_fields → fK, data_mapDictKeys → iB, cls_mapFields → jy, isFreed_of_dict → ma, putSet → tN, data_mapDict → uZ
open String renaming singleton → di, length_toList → kI
open Classical renaming byContradiction → dG, axiomOfChoice → gj
open PySem.Builtin.List renaming listItems → dZ, listLengthHint → e8, listExtendWith → g8, listFitsIndex → mr, listSameRef → nw
open Int.ofNat renaming inj → d8
open PySem.MeetsSeq3 renaming plain_eq_loop → eJ, entry_eq_loop → kJ
open PySem.Challenge renaming pw_pq0050_05 → eR
open PySem.W.Dat.tuple renaming inj → e_
open PySem.F renaming slot_dict_valueiterator_next → fb, plainAttrs_dict → jv, slot_list_pop → jS, slot_dict_setdefault → nI, args_dict_valueiterator_next_1 → oJ, plain_extend_loop → oQ, entry_dict_valueiterator_next → oS, slot_str_isspace → o9, slot_list_extend → o_, slot_list_append → pa, plain_list_iadd → pA, entry_list_pop → pZ, slot_set_iter → qd, slot_dict_pop → qe, slot_dict_values_iter → sd, sub_list_frozenset → tV, args_tuple_add_2 → vb, slot_tuple_hash → vQ, entry_tuple_add → vR
open PySem.Value.type renaming inj → fB
open PySem.W renaming emptyDict → fC, plainGet → mN, Dat → oK, hasDictIn → pW, boot_drawn → rJ, Frag → rT, plainOver → sN, boot_toks → sP, boot_heap → sQ, plainGet_of → uT
open PyProof.Rows renaming listItems_at → fJ, ne_dataH → oG, listUpdate_at → sz, seqEpoch_at → uS
open PySem.W.Dat.str renaming inj → fN
open PySem.Builtin.Dict_items renaming ownsTuple → gw, newIterator → uh, dictOf → ui
open Decidable renaming not_not → gz
open Prod renaming ext → gO
open Function renaming comp → gX
open PySem.SetTable.below renaming go → ig
open Nat.succ renaming inj → iw
open List.Sublist renaming append_left → iG, trans → jY, refl → p_
open PySem.SeqAt renaming shaped → iO, readOf_eq → t_
open PySem.Builtin.Str renaming occurrences → i8
open PySem.SetTable.layClean renaming free → ju
open PySem.W.Fast renaming te14082659384304107361 → jR
open PyProof.Rows.IntsAre renaming int_at → jT
open PyProof.Rows.F renaming plain_set_update_loop → kD, entry_set_update_loop → se
open PySem.PyData renaming keyHash → kK, eqv → sb, strOk → vN
open Ne renaming symm → kL
open PySem.Value renaming isInt → k5
open PySem.Shared renaming TypeIs → lL
open PySem.Builtin.Frozenset renaming sizeOf → lR, updateFrom → vc, slot0 → vd, newClass → vf, addrOf → vg
open PySem.Builtin.Dict renaming updateFrom → nM, pairItems → nW, showsAll → oL
open PySem.SetTable.probe renaming go → o8
open False renaming elim → pe
open PySem.W.Dat.list renaming inj → pD
open PySem.Builtin.Int renaming intBits → pE
open PySem.W.RowW renaming records → qN
open Iff renaming rfl → rS
open PySem.Txt renaming isspace → sA
open Eq renaming trans → sY
open PySem.pickOrder renaming go → tJ
open PySem.Calls renaming Name_function_global → u5
open PySem PySem.W PySem.Calls PyProof.Rows
set_option Elab.async false
set_option linter.unusedVariables false
set_option linter.unusedSimpArgs false
set_option genInjectivity false
set_option genSizeOf false
set_option maxRecDepth 100000
namespace Mine
set_option genCtorIdx false
noncomputable def vw:bS:=PySem.W.view eR [0,2,3,5,6,7,9,11,13,14,15,16,17,18,19]
theorem _9X(w:cy)(os:OsState):(topFrom treeTable eR w 5608 ⟨sQ w.params,Array.mk [],rJ,sP,os⟩).map (λs=>openSeen vw [] (importedModules PySem.Challenge.pw_pq0050_05.main.body) (λs=>xlAt vw [] s&&recOk (qN PySem.Challenge.rw_pq0050_05.row.toRowW) s) true s)=some (openGood vw []):=by
 unfold topFrom
 rw[jR,PySem.W.Fast.te4187177175401517315]
 kernel_rfl
inductive LE' where
 | v (i:Nat) | n (k:Nat) | a (x y:LE') | m (k:Nat) (x:LE') | r (x:LE') (k:Nat)
noncomputable def ut:List Nat->Nat->Nat
 | [],_=>0
 | x::_,0=>x
 | _::l,i+1=>ut l i
noncomputable def LE'.den(xs:List Nat):LE'->Nat
 | .v i=>ut xs i
 | .n k=>k
 | .a x y=>x.den xs+y.den xs
 | .m k x=>k*x.den xs
 | .r x k=>x.den xs*k
noncomputable def LE'.cst:LE'->Nat
 | .v _=>0
 | .n k=>k
 | .a x y=>x.cst+y.cst
 | .m k x=>k*x.cst
 | .r x k=>k*x.cst
noncomputable def LE'.co:LE'->Nat->Nat
 | .v i,j=>if iy i j then 1 else 0
 | .n _,_=>0
 | .a x y,j=>x.co j+y.co j
 | .m k x,j=>k*x.co j
 | .r x k,j=>k*x.co j
noncomputable def i3:(Nat->Nat)->List Nat->Nat
 | _,[]=>0
 | f,x::l=>f 0*x+i3 (λi=>f (i+1)) l
theorem _50:∀(l:List Nat) (f g:Nat->Nat),i3 (λi=>f i+g i) l=i3 f l+i3 g l
 | [],_,_=>rfl
 | x::l,f,g=>by
  show(f 0+g 0)*x+i3 (λi=>f (i+1)+g (i+1)) l=(f 0*x+i3 _ l)+(g 0*x+i3 _ l)
  rw[_50 l,Nat.add_mul,sH]
theorem _33(k:Nat):∀(l:List Nat) (f:Nat->Nat),i3 (λi=>k*f i) l=k*i3 f l
 | [],_=>rfl
 | x::l,f=>by
  show k*f 0*x+i3 (λi=>k*f (i+1)) l=k*(f 0*x+i3 _ l)
  rw[_33 k l,lN,Nat.mul_assoc]
theorem _34:∀(l:List Nat),i3 (λ_=>0) l=0
 | []=>rfl
 | x::l=>by
  show 0*x+i3 (λ_=>0) l=0
  rw[_34 l,Nat.zero_mul]
theorem _51:∀(l:List Nat) (i:Nat),i3 (λj=>if iy i j then 1 else 0) l=ut l i
 | [],_=>rfl
 | x::l,0=>by
  show 1*x+i3 (λ_=>0) l=x
  rw[_34,Nat.one_mul,nL]
 | x::l,i+1=>by
  show 0*x+i3 (λj=>if iy i j then 1 else 0) l=ut l i
  rw[_51 l i,Nat.zero_mul,i6]
theorem _0D(xs:List Nat):∀t:LE',t.den xs=t.cst+i3 t.co xs
 | .v i=>((i6 _).trans (_51 xs i)).symm
 | .n k=>congrArg (k + ·) (_34 xs).symm
 | .a x y=>by
  show x.den xs+y.den xs=x.cst+y.cst+i3 (λi=>x.co i+y.co i) xs
  rw[_0D xs x,_0D xs y,_50,sH]
 | .m k x=>by
  show k*x.den xs=k*x.cst+i3 (λi=>k*x.co i) xs
  rw[_0D xs x,_33,lN]
 | .r x k=>by
  show x.den xs*k=k*x.cst+i3 (λi=>k*x.co i) xs
  rw[Nat.mul_comm,_0D xs x,_33,lN]
noncomputable def lesN(f g:Nat->Nat):Nat->Bool
 | 0=>true
 | n+1=>nK (f n) (g n)&&lesN f g n
theorem _52{f g:Nat->Nat}:∀{n:Nat},lesN f g n=true->∀i,i<n->f i<=g i
 | n+1,h,i,hi=>by
  have h:=ck.mp h
  rcases cE.mp hi with q | q
  ·exact _52 h.2 i q
  ·exact q ▸ be h.1
theorem _53:∀(l:List Nat) (f g:Nat->Nat),(∀i,i<l.length->f i<=g i)->i3 f l<=i3 g l
 | [],_,_,_=>aD _
 | x::l,f,g,h=>p7 (Nat.mul_le_mul_right x (h 0 (ga _))) (_53 l _ _ λi hi=>h (i+1) (u0 hi))
inductive LH where
 | le (x y:LE') | lt (x y:LE') | eq (x y:LE') | nle (x y:LE') | nlt (x y:LE') | no
 | sub (x y z:LE') | mn (x y z:LE') | mx (x y z:LE') | ne (x y:LE') | dv (x:LE') (k:Nat) (z:LE') | ilt (x y:LE') | ile (x y:LE') | ieq (x y:LE')
noncomputable def LH.den(xs:List Nat):LH->Prop
 | .le x y=>x.den xs<=y.den xs
 | .lt x y=>x.den xs < y.den xs
 | .eq x y=>x.den xs=y.den xs
 | .nle x y=>¬x.den xs<=y.den xs
 | .nlt x y=>¬x.den xs < y.den xs
 | .no=>False
 | .sub x y z=>z.den xs=x.den xs - y.den xs
 | .mn x y z=>z.den xs=min (x.den xs) (y.den xs)
 | .mx x y z=>z.den xs=max (x.den xs) (y.den xs)
 | .ne x y=>x.den xs=y.den xs->False
 | .dv x k z=>z.den xs=x.den xs / (k+1)
 | .ilt x y=>((x.den xs:Nat):Int) < ((y.den xs:Nat):Int)
 | .ile x y=>((x.den xs:Nat):Int)<=((y.den xs:Nat):Int)
 | .ieq x y=>((x.den xs:Nat):Int)=((y.den xs:Nat):Int)
noncomputable def sf(t:LE'):LE':=.a t (.n 1)
noncomputable def LH.side:LH->Nat->Bool->LE'×LE'
 | .le x y,k,_=>(.m k x,.m k y)
 | .lt x y,k,_=>(.m k (sf x),.m k y)
 | .eq x y,k,false=>(.m k x,.m k y)
 | .eq x y,k,true=>(.m k y,.m k x)
 | .nle x y,k,_=>(.m k (sf y),.m k x)
 | .nlt x y,k,_=>(.m k y,.m k x)
 | _,_,_=>(.n 0,.n 0)
theorem _9Y{xs:List Nat}{h:LH}(p:h.den xs)(k:Nat)(b:Bool):(h.side k b).1.den xs<=(h.side k b).2.den xs:=by
 cases h with
 | le=>exact dJ k p
 | lt=>exact dJ k p
 | eq=>cases b with
  | false=>exact dJ k (cm p)
  | true=>exact dJ k (cm (Eq.symm p))
 | nle=>exact dJ k (u4 p)
 | nlt=>exact dJ k (dD p)
 | _=>exact aD _
noncomputable def pI:List LH->List (Nat×Bool)->LE'
 | h::hs,m::ms=>.a (h.side m.1 m.2).1 (pI hs ms)
 | _,_=>.n 0
noncomputable def pH:List LH->List (Nat×Bool)->LE'
 | h::hs,m::ms=>.a (h.side m.1 m.2).2 (pH hs ms)
 | _,_=>.n 0
noncomputable def lE(n:Nat)(hs:List LH)(A B:LE')(k:Nat)(ms:List (Nat×Bool)):Bool:=
 let x:LE':=.a (.m k A) (pH hs ms)
 let y:LE':=.a (.m k B) (.a (pI hs ms) (.n (k-1)))
 nK 1 k&&(nK x.cst y.cst&&lesN x.co y.co n)
theorem _54{xs:List Nat}:∀{hs:List LH} {ms:List (Nat×Bool)},(∀h∈hs,h.den xs)->(pI hs ms).den xs<=(pH hs ms).den xs
 | [],_,_=>aD _
 | _::_,[],_=>aD _
 | h::hs,m::ms,p=>p7 (_9Y (p h aE) _ _) (_54 λg hg=>p g (aA _ hg))
theorem _V{xs:List Nat}{hs:List LH}{A B:LE'}{k:Nat}{ms:List (Nat×Bool)}(p:∀h∈hs,h.den xs)(c:lE xs.length hs A B k ms=true):A.den xs<=B.den xs:=by
 unfold lE at c
 have⟨c1,c2⟩:=ck.mp c
 have⟨c3,c4⟩:=ck.mp c2
 have k1:=be c1
 have key:=p7 (be c3) (_53 xs _ _ (_52 c4))
 rw[<-_0D,<-_0D] at key
 have s:=_54 (ms:=ms) p
 have e:k*A.den xs+(pH hs ms).den xs<=k*B.den xs+((pI hs ms).den xs+(k-1)):=key
 refine Decidable.byContradiction λq=>?_
 have q2:k*(B.den xs+1)<=k*A.den xs:=dJ k (u4 q)
 rw[lN,Nat.mul_one] at q2
 have h1:=ay (lP q2 _) e
 rw[mf] at h1
 have h2:=ay (qf h1) (lP s (k-1))
 rw[Nat.add_comm k] at h2
 exact oI (sD k1) (qf h2)
noncomputable def LH.chk(n:Nat)(hs:List LH):LH->Nat->List (Nat×Bool)->Nat->List (Nat×Bool)->Bool
 | .le x y,k,ms,_,_=>lE n hs x y k ms
 | .lt x y,k,ms,_,_=>lE n hs (sf x) y k ms
 | .eq x y,k,ms,k',qx=>lE n hs x y k ms&&lE n hs y x k' qx
 | .nle x y,k,ms,_,_=>lE n hs (sf y) x k ms
 | .nlt x y,k,ms,_,_=>lE n hs y x k ms
 | .no,k,ms,_,_=>lE n hs (.n 1) (.n 0) k ms
 | .ile x y,k,ms,_,_=>lE n hs x y k ms
 | .ilt x y,k,ms,_,_=>lE n hs (sf x) y k ms
 | .ieq x y,k,ms,k',qx=>lE n hs x y k ms&&lE n hs y x k' qx
 | _,_,_,_,_=>false
theorem _55{xs:List Nat}{hs:List LH}(p:∀h∈hs,h.den xs){g:LH}{k:Nat}{ms:List (Nat×Bool)}{k':Nat}{qx:List (Nat×Bool)}(c:g.chk xs.length hs k ms k' qx=true):g.den xs:=by
 have two:∀{A B:LE'} {k k':Nat} {ms qx:List (Nat×Bool)},(lE xs.length hs A B k ms&&lE xs.length hs B A k' qx)=true->A.den xs=B.den xs:=λc=>fD (_V p (ck.mp c).1) (_V p (ck.mp c).2)
 cases g with
 | le=>exact _V p c
 | lt=>exact _V p c
 | eq=>exact two c
 | nle=>exact oI (_V p c)
 | nlt=>exact Nat.not_lt_of_le (_V p c)
 | no=>exact nomatch _V p c
 | ile=>exact gW.mpr (_V p c)
 | ilt=>exact gc.mpr (_V p c)
 | ieq=>exact congrArg Int.ofNat (two c)
 | _=>exact absurd c aR
noncomputable def te(xs:List Nat)(g:Prop):List LH->Prop
 | []=>g
 | h::hs=>h.den xs->te xs g hs
theorem _56{xs:List Nat}{g:Prop}:∀{hs:List LH},((∀h∈hs,h.den xs)->g)->te xs g hs
 | [],k=>k λ_ h=>nomatch h
 | _::_,k=>λp=>_56 λq=>k λh hh=>by
  rcases aO.mp hh with rfl | hh
  ·exact p
  ·exact q h hh
noncomputable def cK:List Nat->Nat
 | k::_=>k
 | []=>0
noncomputable def cM:List Nat->List (Nat×Bool)
 | _::ms=>ms.map λm=>(m / 2,iy (m % 2) 1)
 | []=>[]
theorem _0(xs:List Nat)(hs:List LH)(g:LH)(ms qx:List Nat)(c:g.chk xs.length hs (cK ms) (cM ms) (cK qx) (cM qx)=true):te xs (g.den xs) hs:=_56 λp=>_55 p c
noncomputable def v0:LE':=.v 0
noncomputable def v1:LE':=.v 1
noncomputable def v2:LE':=.v 2
noncomputable def v3:LE':=.v 3
noncomputable def v4:LE':=.v 4
noncomputable def v5:LE':=.v 5
noncomputable def LH.exp:LH->Bool->List LH
 | .sub x y z,false=>[.le x y,.eq z (.n 0)]
 | .sub x y z,true=>[.le y x,.eq (.a z y) x]
 | .mn x y z,false=>[.le x y,.eq z x]
 | .mn x y z,true=>[.le y x,.eq z y]
 | .mx x y z,false=>[.le x y,.eq z y]
 | .mx x y z,true=>[.le y x,.eq z x]
 | .ne x y,false=>[.lt x y]
 | .ne x y,true=>[.lt y x]
 | .dv x k z,_=>[.le (.m (k+1) z) x,.lt x (.m (k+1) (sf z))]
 | .ilt x y,_=>[.lt x y]
 | .ile x y,_=>[.le x y]
 | .ieq x y,_=>[.eq x y]
 | h,_=>[h]
noncomputable def LH.two:LH->Bool
 | .sub _ _ _ | .mn _ _ _ | .mx _ _ _ | .ne _ _=>true
 | _=>false
noncomputable def qw(xs:List Nat):List LH->Prop
 | []=>True
 | h::hs=>h.den xs/\qw xs hs
theorem _35{xs:List Nat}:∀{l m:List LH},qw xs l->qw xs m->qw xs (l++m)
 | [],_,_,q=>q
 | _::_,_,p,q=>⟨p.1,_35 p.2 q⟩
theorem _9Z{xs:List Nat}{l:List LH}(p:qw xs l):∀h∈l,h.den xs:=by
 induction l with
 | nil=>exact λ_ m=>absurd m bj
 | cons a l ih=>exact λh m=>(aO.mp m).elim (λe=>e ▸ p.1) λm=>ih p.2 h m
theorem _a0{xs:List Nat}{h:LH}(p:h.den xs):qw xs (h.exp false)\/(h.two=true/\qw xs (h.exp true)):=by
 cases h with
 | sub x y z=>exact(dh (x.den xs) (y.den xs)).imp (λq=>⟨q,(show z.den xs=0 from Nat.sub_eq_zero_of_le q ▸ p),trivial⟩) λq=>⟨rfl,q,(show z.den xs+y.den xs=x.den xs from(congrArg (· + y.den xs) p).trans (Nat.sub_add_cancel q)),trivial⟩
 | mn x y z=>exact(dh (x.den xs) (y.den xs)).imp (λq=>⟨q,sY p (dg q),trivial⟩) λq=>⟨rfl,q,sY p (dC q),trivial⟩
 | mx x y z=>exact(dh (x.den xs) (y.den xs)).imp (λq=>⟨q,sY p (eB q),trivial⟩) λq=>⟨rfl,q,sY p (dK q),trivial⟩
 | ne x y=>exact(tP p).imp (λq=>⟨q,trivial⟩) λq=>⟨rfl,q,trivial⟩
 | dv x k z=>exact .inl ⟨(show(k+1)*z.den xs<=x.den xs from p ▸ Nat.mul_div_le _ _),(show x.den xs < (k+1)*(z.den xs+1) from p ▸ Nat.lt_mul_div_succ _ (ga k)),trivial⟩
 | ilt _ _=>exact .inl ⟨gc.mp p,trivial⟩
 | ile _ _=>exact .inl ⟨gW.mp p,trivial⟩
 | ieq _ _=>exact .inl ⟨d8 p,trivial⟩
 | _=>exact .inl ⟨p,trivial⟩
inductive CT where
 | l (ms qx:List Nat) | n (a b:CT)
noncomputable def chkW(f:Bool->CT->Bool):Bool->CT->Bool
 | false,t=>f false t
 | true,.l _ _=>false
 | true,.n a b=>f false a&&f true b
noncomputable def CT.leaf(f:List Nat->List Nat->Bool):CT->Bool
 | .l a b=>f a b
 | .n _ _=>false
noncomputable def chkT(n:Nat)(g:LH):List LH->List LH->CT->Bool
 | [],hs,t=>t.leaf λms qx=>g.chk n hs (cK ms) (cM ms) (cK qx) (cM qx)
 | h::r,hs,t=>chkW (λb t=>chkT n g r (h.exp b++hs) t) h.two t
theorem _a1{f:Bool->CT->Bool}{w:Bool}{t:CT}{G P0 P1:Prop}(c:chkW f w t=true)(e:P0\/(w=true/\P1))(k0:∀t,f false t=true->P0->G)(k1:∀t,f true t=true->P1->G):G:=by
 cases w with
 | false=>exact e.elim (k0 t c) λq=>absurd q.1 aR
 | true=>
  cases t with
  | l _ _=>exact absurd c aR
  | n a b=>exact e.elim (k0 a (ck.mp c).1) λq=>k1 b (ck.mp c).2 q.2
theorem _a2{xs:List Nat}{g:LH}{r:List LH}:∀{hs:List LH} {t:CT},chkT xs.length g r hs t=true->qw xs hs->te xs (g.den xs) r:=by
 induction r with
 | nil=>
  intro hs t c p
  cases t with
  | l _ _=>exact _55 (_9Z p) c
  | n _ _=>exact absurd c aR
 | cons h r ih=>exact λc p q=>_a1 c (_a0 q) (λt c e=>ih c (_35 e p)) λt c e=>ih c (_35 e p)
theorem _1(xs:List Nat)(hs:List LH)(g:LH)(t:CT)(c:chkT xs.length g hs [] t=true):te xs (g.den xs) hs:=_a2 c trivial
theorem _a3{a b c:Nat}:a+(b+1)<c->a<c:=_0 [a,b,c] [.lt (.a v0 (.a v1 (.n 1))) v2] (.lt v0 v2) [1,2] [] rfl
theorem _a4{a b c:Nat}:a+(b+1)<c->(a+1)+b<c:=_0 [a,b,c] [.lt (.a v0 (.a v1 (.n 1))) v2] (.lt (.a (.a v0 (.n 1)) v1) v2) [1,2] [] rfl
theorem _a5{a b c:Nat}:((a+1)+(3*b))+20<c->a<c:=_0 [a,b,c] [.lt (.a (.a (.a v0 (.n 1)) (.m 3 v1)) (.n 20)) v2] (.lt v0 v2) [1,2] [] rfl
theorem _a6{a b c:Nat}:(a+(3*(b+1)))+20<c->((a+1)+(3*b))+20<c:=_0 [a,b,c] [.lt (.a (.a v0 (.m 3 (.a v1 (.n 1)))) (.n 20)) v2] (.lt (.a (.a (.a v0 (.n 1)) (.m 3 v1)) (.n 20)) v2) [1,2] [] rfl
theorem _a7{a b c:Nat}:(a+(16*(b+1)))+200<c->((a+3)+(16*b))+200<c:=_0 [a,b,c] [.lt (.a (.a v0 (.m 16 (.a v1 (.n 1)))) (.n 200)) v2] (.lt (.a (.a (.a v0 (.n 3)) (.m 16 v1)) (.n 200)) v2) [1,2] [] rfl
theorem _a8{a b:Nat}:a<=50->b<=a+1->b<=100:=_0 [a,b] [.le v0 (.n 50),.le v1 (.a v0 (.n 1))] (.le v1 (.n 100)) [1,2,2] [] rfl
theorem _a9{a b:Nat}:a<=50->b<=a+1->b<=16777216+1:=_0 [a,b] [.le v0 (.n 50),.le v1 (.a v0 (.n 1))] (.le v1 (.a (.n 16777216) (.n 1))) [1,2,2] [] rfl
theorem _aa{a b c:Nat}:(a+(3*(b+1)))+20<c->(((a+1)+1)+(3*b))+20<c:=_0 [a,b,c] [.lt (.a (.a v0 (.m 3 (.a v1 (.n 1)))) (.n 20)) v2] (.lt (.a (.a (.a (.a v0 (.n 1)) (.n 1)) (.m 3 v1)) (.n 20)) v2) [1,2] [] rfl
theorem _ab{a b c:Nat}:(a+(16*(b+1)))+200<c->(((a+1)+3)+(16*b))+200<c:=_0 [a,b,c] [.lt (.a (.a v0 (.m 16 (.a v1 (.n 1)))) (.n 200)) v2] (.lt (.a (.a (.a (.a v0 (.n 1)) (.n 3)) (.m 16 v1)) (.n 200)) v2) [1,2] [] rfl
theorem _ac{a:Nat}:a<=100000->a<=16777216:=_0 [a] [.le v0 (.n 100000)] (.le v0 (.n 16777216)) [1,2] [] rfl
theorem _ad{a b c:Nat}:a+b<=c->a<=c:=_0 [a,b,c] [.le (.a v0 v1) v2] (.le v0 v2) [1,2] [] rfl
theorem _57{a b c:Nat}:a+b<=c->a+b<=c+1:=_0 [a,b,c] [.le (.a v0 v1) v2] (.le (.a v0 v1) (.a v2 (.n 1))) [1,2] [] rfl
theorem _58{a b:Nat}:a=b+1->a-1=b:=_1 [a,b,(a-1)] [.sub v0 (.n 1) v2,.eq v0 (.a v1 (.n 1))] (.eq v2 v1) (.n (.l [1,0,0,2] [1,3,2,0]) (.l [1,2,0,2] [1,3,0,3])) rfl rfl
theorem _ae{a:Nat}:a<=100000->a+1<=16777216:=_1 [a] [.le v0 (.n 100000)] (.le (.a v0 (.n 1)) (.n 16777216)) (.l [1,2] []) (by kernel_rfl)
theorem _15{a:Nat}:¬((a:Nat):Int)<(0:Int):=_1 [a] [.ilt v0 (.n 0)] (.no) (.l [1,2] []) rfl
theorem _af:∀{a b:Nat},a<b->((0:Int)<=(↑a:Int)/\(↑a:Int)<(↑b:Int))/\lU (↑a:Int)=a:=λ{a b} h=>⟨⟨ft a,gc.mpr h⟩,rfl⟩
theorem _ag:∀{a:Int} {b:Nat},(0:Int)<=a+(↑b:Int) -> -(↑b:Int)<=a:=λh=>sI (sI (Int.le_of_sub_nonneg (by rw[Int.sub_neg];exact h)))
theorem _ah:∀{a:Int},(0:Int)<=a->(0:Int)<=a:=by intros;omega
theorem _ai:∀{a:Nat} {b:Int} {c:Nat},a<=(100000:Nat)->(0:Int)<=b->b<(↑a:Int)->c=a->(-100000:Int)<=b/\b<=(100000:Int):=λ{a b c} h k l _=>⟨ge (ez (iX _)) k,ge (ez l) (gW.mpr h)⟩
theorem _aj{a b c:Nat}:a=b->((c:Nat):Int)<((b:Nat):Int)->c<a:=_1 [a,b,c] [.eq v0 v1,.ilt v2 v1] (.lt v2 v0) (.l [1,2,3] []) rfl
theorem _ak{a b c:Nat}:(a+(16*b))+200<c->a+64<c:=_0 [a,b,c] [.lt (.a (.a v0 (.m 16 v1)) (.n 200)) v2] (.lt (.a v0 (.n 64)) v2) [1,2] [] rfl
theorem _al:∀{a:Int} {b:Nat},max (0:Int) (min a (↑b:Int))=(↑(min (lU a) b):Int)
 | .ofNat k,b=>(dh k b).elim (λh=>(congrArg (max (0:Int)) (vP (gW.mpr h))).trans ((u8 (ft k)).trans (congrArg Int.ofNat (dg h).symm))) λh=>(congrArg (max (0:Int)) (Int.min_eq_right (gW.mpr h))).trans ((u8 (ft b)).trans (congrArg Int.ofNat (dC h).symm))
 | .negSucc k,b=>(congrArg (max (0:Int)) (vP (ez (tU (iX k) (ft b))))).trans ((Int.max_eq_left (ez (iX k))).trans (congrArg Int.ofNat (Nat.zero_min b).symm))
theorem _am{a b:Nat}:a=b+1->1<=a:=_0 [a,b] [.eq v0 (.a v1 (.n 1))] (.le (.n 1) v0) [1,3] [] rfl
theorem _an{a:Nat}:a<=100000->a+1<=16777216:=_0 [a] [.le v0 (.n 100000)] (.le (.a v0 (.n 1)) (.n 16777216)) [1,2] [] rfl
theorem _ao:∀{a:Int} {b:Nat},a+(↑(Nat.succ b):Int)=a+(1:Int)+(↑b:Int):=λ{a b}=>(congrArg (a + ·) (Int.add_comm b 1)).trans (Int.add_assoc a 1 b).symm
theorem _ap{a:Nat}:(0:Int)<((a+1:Nat):Int):=_1 [a] [] (.ilt (.n 0) (.a v0 (.n 1))) (.l [1] []) rfl
theorem _aq:∀{a:Nat},(↑(a+(1:Nat)):Int)-(1:Int)=(↑a:Int):=by intros;lia
theorem _ar{a b c:Nat}:(a+(16*b))+200<c->(a+1)+8<c:=_0 [a,b,c] [.lt (.a (.a v0 (.m 16 v1)) (.n 200)) v2] (.lt (.a (.a v0 (.n 1)) (.n 8)) v2) [1,2] [] rfl
theorem _as{a b c d:Nat}:a<=b->(c+(3*b))+20<d->(c+(3*a))+20<d:=_0 [a,b,c,d] [.le v0 v1,.lt (.a (.a v2 (.m 3 v1)) (.n 20)) v3] (.lt (.a (.a v2 (.m 3 v0)) (.n 20)) v3) [1,6,2] [] rfl
theorem _at{a b c d:Nat}:a<=b->(c+(16*b))+200<d->(c+(16*a))+200<d:=_0 [a,b,c,d] [.le v0 v1,.lt (.a (.a v2 (.m 16 v1)) (.n 200)) v3] (.lt (.a (.a v2 (.m 16 v0)) (.n 200)) v3) [1,32,2] [] rfl
theorem _59{a b c:Nat}:a<=b->c=a->c<=b:=_0 [a,b,c] [.le v0 v1,.eq v2 v0] (.le v2 v1) [1,2,2] [] rfl
theorem _au{a c:Nat}:c<a->c<=a-1:=_1 [a,c,(a-1)] [.sub v0 (.n 1) v2,.lt v1 v0] (.le v1 v2) (.n (.l [1,2,2,0] []) (.l [1,2,0,3] [])) rfl rfl
theorem _av{a b:Nat}:a<=b->b<=a->a=b:=_0 [a,b] [.le v0 v1,.le v1 v0] (.eq v0 v1) [1,2,0] [1,0,2] rfl
theorem _aw{a b:Nat}:a<=b->b-a<=0->a=b:=_1 [a,b,(b-a)] [.sub v1 v0 v2,.le v0 v1,.le v2 (.n 0)] (.eq v0 v1) (.n (.l [1,0,2,0,0] [1,0,0,2,0]) (.l [1,0,2,0,0] [1,2,0,0,3])) rfl rfl
theorem _ax{a b:Nat}:a<b->(a+b) / 2<b:=_1 [a,b,((a+b) / 2)] [.dv (.a v0 v1) 1 v2,.lt v0 v1] (.lt v2 v1) (.l [2,2,2,0] []) rfl rfl
theorem _ay{a b:Nat}:(a+b) / 2<b->a<=(a+b) / 2:=_1 [a,b,((a+b) / 2)] [.dv (.a v0 v1) 1 v2,.lt v2 v1] (.le v0 v2) (.l [1,2,0,2] []) rfl rfl
theorem _az{a b c:Nat}:a<=b->(c+a) / 2<a->(c+a) / 2<b:=_1 [a,b,((c+a) / 2)] [.le v0 v1,.lt v2 v0] (.lt v2 v1) (.l [1,2,2] []) rfl
theorem _aA{a b:Nat}:(a+b) / 2<b->((a+b) / 2)+1<=b:=_1 [b,((a+b) / 2)] [.lt v1 v0] (.le (.a v1 (.n 1)) v0) (.l [1,2] []) rfl
theorem _5a{a b c:Nat}:a-b<=c+1->a-(((b+a) / 2)+1)<=c:=_1 [a,b,(a-b),c,((b+a) / 2),(a-(((b+a) / 2)+1))] [.sub v0 v1 v2,.dv (.a v1 v0) 1 v4,.sub v0 (.a v4 (.n 1)) v5,.le v2 (.a v3 (.n 1))] (.le v5 v3) (.n (.n (.l [1,0,0,2,0,0,0,0] []) (.l [1,0,2,2,0,2,2,0] [])) (.n (.l [1,0,0,2,0,0,0,0] []) (.l [2,2,0,4,0,2,0,3] []))) (by kernel_rfl) rfl rfl rfl
theorem _5b{a b c:Nat}:a<((b+c) / 2)+1->a<=(b+c) / 2:=_1 [a,((b+c) / 2)] [.lt v0 (.a v1 (.n 1))] (.le v0 v1) (.l [1,2] []) rfl
theorem _aB{a b c:Nat}:(a+b) / 2<c->(a+b) / 2<=c:=_1 [((a+b) / 2),c] [.lt v0 v1] (.le v0 v1) (.l [1,2] []) rfl
theorem _5c{a b c:Nat}:a-b<=c+1->((b+a) / 2)-b<=c:=_1 [a,b,(a-b),c,((b+a) / 2),(((b+a) / 2)-b)] [.sub v0 v1 v2,.dv (.a v1 v0) 1 v4,.sub v4 v1 v5,.le v2 (.a v3 (.n 1))] (.le v5 v3) (.n (.n (.l [1,0,0,2,0,0,0,0] []) (.l [2,0,0,4,2,0,2,0] [])) (.n (.l [1,0,0,2,0,0,0,0] []) (.l [2,2,0,4,2,0,0,3] []))) (by kernel_rfl) rfl rfl rfl
theorem _aC{a b:Nat}:a<=b->¬a<b->a=b:=_0 [a,b] [.le v0 v1,.nlt v0 v1] (.eq v0 v1) [1,2,0] [1,0,2] rfl
theorem _aD{a:Nat}:a-0<=a:=_1 [a,(a-0)] [.sub v0 (.n 0) v1] (.le v1 v0) (.n (.l [1,0,2] []) (.l [1,0,2] [])) rfl rfl
theorem _0E{a b:Nat}:a<b+1->a<=b:=_0 [a,b] [.lt v0 (.a v1 (.n 1))] (.le v0 v1) [1,2] [] rfl
theorem _aE{a:Nat}:a+1<=a->False:=_1 [a] [.le (.a v0 (.n 1)) v0] (.no) (.l [1,2] []) rfl
theorem _5d{a:Nat}:a<a+1:=_0 [a] [] (.lt v0 (.a v0 (.n 1))) [1] [] rfl
theorem _aF{a b c:Nat}:a<=b->c+1<a->c+1<b:=_0 [a,b,c] [.le v0 v1,.lt (.a v2 (.n 1)) v0] (.lt (.a v2 (.n 1)) v1) [1,2,2] [] rfl
theorem _aG{a b:Nat}:a<b+1->b<a->False:=_1 [a,b] [.lt v0 (.a v1 (.n 1)),.lt v1 v0] (.no) (.l [1,2,2] []) rfl
theorem _aH{a b c:Nat}:c<min a b->c<a:=_1 [a,b,c,(min a b)] [.mn v0 v1 v3,.lt v2 v3] (.lt v2 v0) (.n (.l [1,2,0,2] []) (.l [1,2,2,2] [])) rfl rfl
theorem _aI{a b c:Nat}:c<min a b->c<b:=_1 [a,b,c,(min a b)] [.mn v0 v1 v3,.lt v2 v3] (.lt v2 v1) (.n (.l [1,2,2,2] []) (.l [1,2,0,2] [])) rfl rfl
theorem _aJ{a b c:Nat}:a<=b->c<b-a->a+c<b:=_1 [a,b,c,(b-a)] [.sub v1 v0 v3,.le v0 v1,.lt v2 v3] (.lt (.a v0 v2) v1) (.n (.l [1,4,2,0,4] []) (.l [1,2,0,0,2] [])) rfl rfl
theorem _5e{a b:Nat}:a<=a+b:=_0 [a,b] [] (.le v0 (.a v0 v1)) [1] [] rfl
theorem _aK{a b c:Nat}:a+b<c->a<c:=_0 [a,b,c] [.lt (.a v0 v1) v2] (.lt v0 v2) [1,2] [] rfl
theorem _aL{a b c:Nat}:a<=b->b<=c->c<=a->c=b:=_0 [a,b,c] [.le v0 v1,.le v1 v2,.le v2 v0] (.eq v2 v1) [1,2,0,2] [1,0,2,0] rfl
theorem _aM{a b c:Nat}:a<b->c=a->c<b:=_0 [a,b,c] [.lt v0 v1,.eq v2 v0] (.lt v2 v1) [1,2,2] [] rfl
theorem _aN{a b c:Nat}:a+1<b->c=a->c<b:=_0 [a,b,c] [.lt (.a v0 (.n 1)) v1,.eq v2 v0] (.lt v2 v1) [1,2,2] [] rfl
theorem _1V{a b:Nat}:a-b=0->b<=a->b=a:=_1 [a,b,(a-b)] [.sub v0 v1 v2,.eq v2 (.n 0),.le v1 v0] (.eq v1 v0) (.n (.l [1,2,0,0,0] [1,0,0,2,0]) (.l [1,2,0,0,0] [1,0,2,0,3])) rfl rfl
theorem _1W{a b c:Nat}:a-b=c+1->b<=a->b<a:=_1 [a,b,(a-b),c] [.sub v0 v1 v2,.eq v2 (.a v3 (.n 1)),.le v1 v0] (.lt v1 v0) (.n (.l [1,2,3,0,2] []) (.l [1,0,3,0,2] [])) rfl rfl
theorem _16{a b c:Nat}:a-b=c+1->a-(b+1)=c:=_1 [a,b,(a-b),c,(a-(b+1))] [.sub v0 v1 v2,.sub v0 (.a v1 (.n 1)) v4,.eq v2 (.a v3 (.n 1))] (.eq v4 v3) (.n (.n (.l [1,3,0,2,0,2] [1,5,0,0,0,4]) (.l [1,0,2,2,4,0] [1,3,2,0,2,2])) (.n (.l [1,0,0,2,0,0] [1,3,2,0,0,2]) (.l [1,2,0,2,0,3] [1,3,0,3,0,2]))) (by kernel_rfl) rfl rfl
theorem _5f{a:Nat}:a<4000->a+1<4096:=_0 [a] [.lt v0 (.n 4000)] (.lt (.a v0 (.n 1)) (.n 4096)) [1,2] [] rfl
theorem _aO{a b:Nat}:a=b+1->0<a:=_0 [a,b] [.eq v0 (.a v1 (.n 1))] (.lt (.n 0) v0) [1,3] [] rfl
theorem _aP{a b:Nat}:a=b->a=b:=_0 [a,b] [.eq v0 v1] (.eq v0 v1) [1,2] [1,3] rfl
theorem _1X{a b c:Nat}:a<b->c=b->a<c:=_0 [a,b,c] [.lt v0 v1,.eq v2 v1] (.lt v0 v2) [1,2,3] [] rfl
theorem _aQ{a b c:Nat}:a=b->b<=c->a<=c:=_0 [a,b,c] [.eq v0 v1,.le v1 v2] (.le v0 v2) [1,2,2] [] rfl
theorem _5g{a:Nat}:a<4096->a<=16777216:=_0 [a] [.lt v0 (.n 4096)] (.le v0 (.n 16777216)) [1,2] [] rfl
theorem _1Y{a:Nat}:a<64->a<=16777216:=_0 [a] [.lt v0 (.n 64)] (.le v0 (.n 16777216)) [1,2] [] rfl
theorem _aR{a b c:Nat}:a<b->a<c->a<min b c:=_1 [a,b,c,(min b c)] [.mn v1 v2 v3,.lt v0 v1,.lt v0 v2] (.lt v0 v3) (.n (.l [1,0,2,0,3] []) (.l [1,2,0,0,3] [])) rfl rfl
theorem _aS{a b c:Nat}:(¬a<c)->¬a<min b c:=_1 [a,b,c,(min b c)] [.mn v1 v2 v3,.nlt v0 v2,.lt v0 v3] (.no) (.n (.l [1,2,2,2,2] []) (.l [1,2,2,0,2] [])) rfl rfl
theorem _aT{a b:Nat}:¬a<b->b<=a:=_0 [a,b] [.nlt v0 v1] (.le v1 v0) [1,2] [] rfl
theorem _aU{a b c:Nat}:(¬a<b)->¬a<min b c:=_1 [a,b,c,(min b c)] [.mn v1 v2 v3,.nlt v0 v1,.lt v0 v3] (.no) (.n (.l [1,2,2,0,2] []) (.l [1,2,2,2,2] [])) rfl rfl
theorem _aV:∀{a b:Nat},a<=(100000:Nat)->b<a->(-100000:Int)<=(↑b:Int)/\(↑b:Int)<=(100000:Int):=λ{a b} h l=>⟨ge (ez (iX _)) (ft b),gW.mpr (ay (eV l) h)⟩
theorem _aW{a:Nat}:(0:Int)<=((a:Nat):Int):=_1 [a] [] (.ile (.n 0) v0) (.l [1] []) rfl
theorem _5h{a b:Nat}:a<b->((a:Nat):Int)<((b:Nat):Int):=_1 [a,b] [.lt v0 v1] (.ilt v0 v1) (.l [1,2] []) rfl
theorem _aX{a b:Nat}:((min a b:Nat):Int)<=((max a b:Nat):Int):=_1 [a,b,(min a b),(max a b)] [.mn v0 v1 v2,.mx v0 v1 v3] (.ile v2 v3) (.n (.n (.l [1,2,3,0,2] []) (.l [1,0,3,0,2] [])) (.n (.l [1,0,3,0,2] []) (.l [1,2,3,0,2] []))) (by kernel_rfl) rfl rfl
theorem _36{a:Nat}:a<=0->a=0:=_0 [a] [.le v0 (.n 0)] (.eq v0 (.n 0)) [1,2] [1,0] rfl
theorem _aY{a b d:Nat}:a+1<=b+1->d<=a+1->(¬d=a+1)->d<=b:=_1 [a,b,d] [.le (.a v0 (.n 1)) (.a v1 (.n 1)),.le v2 (.a v0 (.n 1)),.ne v2 (.a v0 (.n 1))] (.le v2 v1) (.n (.l [1,2,0,2] []) (.l [1,2,4,2] [])) rfl
theorem _37{a b c:Nat}:a+1<b->c<=a+1->c<b:=_0 [a,b,c] [.lt (.a v0 (.n 1)) v1,.le v2 (.a v0 (.n 1))] (.lt v2 v1) [1,2,2] [] rfl
theorem _5i{a c:Nat}:c<=a+1->(¬c=a+1)->c<=a:=_1 [a,c] [.le v1 (.a v0 (.n 1)),.ne v1 (.a v0 (.n 1))] (.le v1 v0) (.n (.l [1,2,0] []) (.l [1,2,4] [])) rfl
theorem _1Z{a c:Nat}:c<=a->(¬c=a)->c<a:=_1 [a,c] [.le v1 v0,.ne v1 v0] (.lt v1 v0) (.n (.l [1,2,0] []) (.l [1,2,4] [])) rfl
theorem _17{a b c:Nat}:a<b->c<=a->c<b:=_0 [a,b,c] [.lt v0 v1,.le v2 v0] (.lt v2 v1) [1,2,2] [] rfl
theorem _38{a b:Nat}:a<b->a<=b:=_0 [a,b] [.lt v0 v1] (.le v0 v1) [1,2] [] rfl
theorem _20{a b c:Nat}:a<b->c<a->c<b:=_0 [a,b,c] [.lt v0 v1,.lt v2 v0] (.lt v2 v1) [1,2,2] [] rfl
theorem _aZ{a b:Nat}:a<b->b≠a:=_1 [a,b] [.lt v0 v1,.eq v1 v0] (.no) (.l [1,2,2] []) rfl
theorem _b0{a b:Nat}:a<b->¬a=b:=_1 [a,b] [.lt v0 v1,.eq v0 v1] (.no) (.l [1,3,2] []) rfl
theorem _18{a b:Nat}:a<b->a<b+1:=_0 [a,b] [.lt v0 v1] (.lt v0 (.a v1 (.n 1))) [1,2] [] rfl
theorem _5j{a b c:Nat}:a≠b->c=a->¬c=b:=_1 [a,b,c] [.ne v0 v1,.eq v2 v0,.eq v2 v1] (.no) (.n (.l [1,3,2,2] []) (.l [1,2,3,2] [])) rfl
theorem _b1{a b c:Nat}:a+b<=c->(a+1)+b<=c+1:=_0 [a,b,c] [.le (.a v0 v1) v2] (.le (.a (.a v0 (.n 1)) v1) (.a v2 (.n 1))) [1,2] [] rfl
theorem _b2{a b c:Nat}:a+b<=c->a+(b+1)<=c+1:=_0 [a,b,c] [.le (.a v0 v1) v2] (.le (.a v0 (.a v1 (.n 1))) (.a v2 (.n 1))) [1,2] [] rfl
theorem _21{a b:Nat}:a<b->a≠b:=_1 [a,b] [.lt v0 v1,.eq v0 v1] (.no) (.l [1,3,2] []) rfl
theorem _b3{a b c:Nat}:a<b->c=a->c=b->False:=_0 [a,b,c] [.lt v0 v1,.eq v2 v0,.eq v2 v1] (.no) [1,2,2,3] [] rfl
theorem _5k{a b c:Nat}:a+b=c->a+(b+1)=c+1:=_0 [a,b,c] [.eq (.a v0 v1) v2] (.eq (.a v0 (.a v1 (.n 1))) (.a v2 (.n 1))) [1,2] [1,3] rfl
theorem _b4{b c d:Nat}:b<c->c=d->¬d=b:=_1 [b,c,d] [.lt v0 v1,.eq v1 v2,.eq v2 v0] (.no) (.l [1,2,2,2] []) rfl
theorem _b5{a b c:Nat}:a<b->b=c->a<c:=_0 [a,b,c] [.lt v0 v1,.eq v1 v2] (.lt v0 v2) [1,2,2] [] rfl
theorem _b6{a b c:Nat}:¬a<b->b=c->a<b+1->a=c:=_0 [a,b,c] [.nlt v0 v1,.eq v1 v2,.lt v0 (.a v1 (.n 1))] (.eq v0 v2) [1,0,2,2] [1,2,3,0] rfl
theorem _b7{b c:Nat}:c<b->¬c=b:=_1 [b,c] [.lt v1 v0,.eq v1 v0] (.no) (.l [1,3,2] []) rfl
theorem _b8{b c d:Nat}:c+d=b->0<d->(c+1)+(d-1)=b:=_1 [b,c,d,(d-1)] [.sub v2 (.n 1) v3,.eq (.a v1 v2) v0,.lt (.n 0) v2] (.eq (.a (.a v1 (.n 1)) v3) v0) (.n (.l [1,2,2,0,2] [1,0,3,2,0]) (.l [1,0,2,0,2] [1,0,3,0,3])) (by kernel_rfl) rfl
theorem _b9{a b c:Nat}:a=b->c<a->c<b:=_0 [a,b,c] [.eq v0 v1,.lt v2 v0] (.lt v2 v1) [1,2,2] [] rfl
theorem _ba{a b c d:Nat}:a<b->c<a->d=b->c<d:=_0 [a,b,c,d] [.lt v0 v1,.lt v2 v0,.eq v3 v1] (.lt v2 v3) [1,2,2,3] [] rfl
theorem _0c{a:Nat}:a+1<=100000->a<=100000:=_0 [a] [.le (.a v0 (.n 1)) (.n 100000)] (.le v0 (.n 100000)) [1,2] [] rfl
theorem _0F{a b:Nat}:a+1<=100000->b=a->b<=100000:=_0 [a,b] [.le (.a v0 (.n 1)) (.n 100000),.eq v1 v0] (.le v1 (.n 100000)) [1,2,2] [] rfl
theorem _5l{a:Nat}:a+1<=100000->a+(0+1)<=100000:=_0 [a] [.le (.a v0 (.n 1)) (.n 100000)] (.le (.a v0 (.a (.n 0) (.n 1))) (.n 100000)) [1,2] [] rfl
theorem _bb{a:Nat}:2<=a->1<=a:=_0 [a] [.le (.n 2) v0] (.le (.n 1) v0) [1,2] [] rfl
theorem _bc{b d:Nat}:((min b d:Nat):Int)=((max b d:Nat):Int)->b=d:=_1 [b,d,(min b d),(max b d)] [.mn v0 v1 v2,.mx v0 v1 v3,.ieq v2 v3] (.eq v0 v1) (.n (.n (.l [1,0,2,0,0,0] [1,3,0,3,0,2]) (.l [1,0,0,0,2,0] [1,0,2,0,0,0])) (.n (.l [1,0,2,0,0,0] [1,0,0,0,2,0]) (.l [1,3,0,3,0,2] [1,0,2,0,0,0]))) (by kernel_rfl) rfl rfl
theorem _bd{b d:Nat}:(¬b=d)->min b d<max b d:=_1 [b,d,(min b d),(max b d)] [.mn v0 v1 v2,.mx v0 v1 v3,.ne v0 v1] (.lt v2 v3) (.n (.n (.n (.l [1,2,0,3,0,2] []) (.l [1,2,4,3,0,2] [])) (.n (.l [1,2,2,3,0,2] []) (.l [1,2,0,3,2,2] []))) (.n (.n (.l [1,2,0,3,2,2] []) (.l [1,2,2,3,0,2] [])) (.n (.l [1,2,4,3,0,2] []) (.l [1,2,0,3,0,2] [])))) (by kernel_rfl) rfl rfl
theorem _be{b e f:Nat}:e<b->f<b->max e f<b:=_1 [b,e,f,(max e f)] [.mx v1 v2 v3,.lt v1 v0,.lt v2 v0] (.lt v3 v0) (.n (.l [1,2,0,0,2] []) (.l [1,0,2,0,2] [])) rfl rfl
theorem _bf{a b c d:Nat}:a=b->c<b->d<c->d<a:=_0 [a,b,c,d] [.eq v0 v1,.lt v2 v1,.lt v3 v2] (.lt v3 v0) [1,3,2,2] [] rfl
theorem _N{a b c:Nat}:a=b->c<b->c<a:=_0 [a,b,c] [.eq v0 v1,.lt v2 v1] (.lt v2 v0) [1,3,2] [] rfl
theorem _5m{b c:Nat}:c<b->c≠b:=_1 [b,c] [.lt v1 v0,.eq v1 v0] (.no) (.l [1,3,2] []) rfl
theorem _5n{a b:Nat}:a<=100000->b=a->b<=100000:=_0 [a,b] [.le v0 (.n 100000),.eq v1 v0] (.le v1 (.n 100000)) [1,2,2] [] rfl
theorem _bg{a b c d e:Nat}:a<=100000->b=c->d=e->c+e<=a->b+d<=100000:=_0 [a,b,c,d,e] [.le v0 (.n 100000),.eq v1 v2,.eq v3 v4,.le (.a v2 v4) v0] (.le (.a v1 v3) (.n 100000)) [1,2,2,2,2] [] rfl
theorem _bh{a b c:Nat}:a<=100000->b+c=a->b<=100000:=_0 [a,b,c] [.le v0 (.n 100000),.eq (.a v1 v2) v0] (.le v1 (.n 100000)) [1,2,2] [] rfl
theorem _bi{a:Nat}:1<=a->a=(a-1)+1:=_1 [a,(a-1)] [.sub v0 (.n 1) v1,.le (.n 1) v0] (.eq v0 (.a v1 (.n 1))) (.n (.l [1,0,2,0] [1,2,0,2]) (.l [1,0,0,3] [1,0,0,2])) rfl rfl
theorem _bj:∀{a:Nat},a<=(100000:Nat)->Int.natAbs (↑a:Int)<=(1000000:Nat):=λh=>ay h (be rfl)
theorem _22{a b:Nat}:a+1<=b->a<=b:=_0 [a,b] [.le (.a v0 (.n 1)) v1] (.le v0 v1) [1,2] [] rfl
theorem _bk{a b:Nat}:a+1<=b->b-a=(b-(a+1))+1:=_1 [a,b,(b-a),(b-(a+1))] [.sub v1 v0 v2,.sub v1 (.a v0 (.n 1)) v3,.le (.a v0 (.n 1)) v1] (.eq v2 (.a v3 (.n 1))) (.n (.n (.l [1,2,0,0,2,2] [1,2,0,2,2,0]) (.l [1,2,0,0,2,2] [1,2,0,2,4,0])) (.n (.l [1,0,2,0,0,2] [1,2,0,2,0,3]) (.l [1,0,0,3,0,2] [1,0,0,2,0,3]))) (by kernel_rfl) rfl rfl
theorem _bl{a:Nat}:a<=100000->a<=100000:=_0 [a] [.le v0 (.n 100000)] (.le v0 (.n 100000)) [1,2] [] rfl
theorem _5o{a:Nat}:a<=10->a<=100000:=_0 [a] [.le v0 (.n 10)] (.le v0 (.n 100000)) [1,2] [] rfl
theorem _bm{a:Nat}:3<=a->1<=a:=_0 [a] [.le (.n 3) v0] (.le (.n 1) v0) [1,2] [] rfl
theorem _bn{a:Nat}:a<=10->1+a<=100000:=_0 [a] [.le v0 (.n 10)] (.le (.a (.n 1) v0) (.n 100000)) [1,2] [] rfl
theorem _bo{a:Nat}:a<=10->a+1<=100000:=_0 [a] [.le v0 (.n 10)] (.le (.a v0 (.n 1)) (.n 100000)) [1,2] [] rfl
theorem _bp{a b:Nat}:a+b=b+a:=_0 [a,b] [] (.eq (.a v0 v1) (.a v1 v0)) [1] [1] rfl
theorem _bq{a b c d:Nat}:a+b=c->(d+a)+b=d+c:=_0 [a,b,c,d] [.eq (.a v0 v1) v2] (.eq (.a (.a v3 v0) v1) (.a v3 v2)) [1,2] [1,3] rfl
theorem _br{a b c:Nat}:(a+b)+c=(c+b)+a:=_0 [a,b,c] [] (.eq (.a (.a v0 v1) v2) (.a (.a v2 v1) v0)) [1] [1] rfl
theorem _bs{a b c d e:Nat}:a+b=c+d->(e+a)+b=(e+c)+d:=_0 [a,b,c,d,e] [.eq (.a v0 v1) (.a v2 v3)] (.eq (.a (.a v4 v0) v1) (.a (.a v4 v2) v3)) [1,2] [1,3] rfl
theorem _bt{a b c:Nat}:a≠b->c=b->¬c=a:=_1 [a,b,c] [.ne v0 v1,.eq v2 v1,.eq v2 v0] (.no) (.n (.l [1,2,3,2] []) (.l [1,3,2,2] [])) rfl
theorem _bu{a b c d:Nat}:a+b=c->c=d->d<=200->a<=200:=_0 [a,b,c,d] [.eq (.a v0 v1) v2,.eq v2 v3,.le v3 (.n 200)] (.le v0 (.n 200)) [1,2,2,2] [] rfl
theorem _bv{a:Nat}:a<=200->2*a<=400:=_0 [a] [.le v0 (.n 200)] (.le (.m 2 v0) (.n 400)) [1,4] [] rfl
theorem _5p{a:Nat}:a<=200->a<=200:=_1 [a] [.le v0 (.n 200)] (.le v0 (.n 200)) (.l [1,2] []) rfl
theorem _bw{d e f i:Nat}:d<=200->e+f<=d+i->i<=400*200->f<=90000:=_1 [d,e,f,i] [.le v0 (.n 200),.le (.a v1 v2) (.a v0 v3),.le v3 (.m 400 (.n 200))] (.le v2 (.n 90000)) (.l [1,2,2,2] []) (by kernel_rfl)
theorem _bx{d e f i:Nat}:d<=200->e+f<=d+i->i<=400*200->e<=90000:=_1 [d,e,f,i] [.le v0 (.n 200),.le (.a v1 v2) (.a v0 v3),.le v3 (.m 400 (.n 200))] (.le v1 (.n 90000)) (.l [1,2,2,2] []) (by kernel_rfl)
theorem _by{a j k:Nat}:j<=k+a->k<=2000->a<=200->j<=3000:=_1 [a,j,k] [.le v1 (.a v2 v0),.le v2 (.n 2000),.le v0 (.n 200)] (.le v1 (.n 3000)) (.l [1,2,2,2] []) (by kernel_rfl)
theorem _bz{a b c d:Nat}:a+b=c->c<=2*d->b<=2*d:=_0 [a,b,c,d] [.eq (.a v0 v1) v2,.le v2 (.m 2 v3)] (.le v1 (.m 2 v3)) [1,2,2] [] rfl
theorem _bA{a b:Nat}:a≠b->min a b<max a b:=_1 [a,b,(min a b),(max a b)] [.mn v0 v1 v2,.mx v0 v1 v3,.ne v0 v1] (.lt v2 v3) (.n (.n (.n (.l [1,2,0,3,0,2] []) (.l [1,2,4,3,0,2] [])) (.n (.l [1,2,2,3,0,2] []) (.l [1,2,0,3,2,2] []))) (.n (.n (.l [1,2,0,3,2,2] []) (.l [1,2,2,3,0,2] [])) (.n (.l [1,2,4,3,0,2] []) (.l [1,2,0,3,0,2] [])))) (by kernel_rfl) rfl rfl
theorem _bB{a c d:Nat}:a<c->d<c->max a d<c:=_1 [a,c,d,(max a d)] [.mx v0 v2 v3,.lt v0 v1,.lt v2 v1] (.lt v3 v1) (.n (.l [1,2,0,0,2] []) (.l [1,0,2,0,2] [])) rfl rfl
theorem _bC{a b c:Nat}:0<a->b+a=c->(b+1)+(a-1)=c:=_1 [a,b,c,(a-1)] [.sub v0 (.n 1) v3,.lt (.n 0) v0,.eq (.a v1 v0) v2] (.eq (.a (.a v1 (.n 1)) v3) v2) (.n (.l [1,2,2,0,2] [1,3,0,2,0]) (.l [1,2,0,0,2] [1,3,0,0,3])) (by kernel_rfl) rfl
theorem _bD{a b c d e f:Nat}:a+b=c->d+e=a+(e+b)->c<=2*f->d<=2*f:=_0 [a,b,c,d,e,f] [.eq (.a v0 v1) v2,.eq (.a v3 v4) (.a v0 (.a v4 v1)),.le v2 (.m 2 v5)] (.le v3 (.m 2 v5)) [1,2,2,2] [] rfl
theorem _bE{a b c d e:Nat}:a<=2*b->c+d<=b+e->c+(d+a)<=b+(e+((2*b)*1)):=_0 [a,b,c,d,e] [.le v0 (.m 2 v1),.le (.a v2 v3) (.a v1 v4)] (.le (.a v2 (.a v3 v0)) (.a v1 (.a v4 (.r (.m 2 v1) 1)))) [1,2,2] [] rfl
theorem _bF{a b c:Nat}:a<=b+c->a+1<=b+(c+1):=_0 [a,b,c] [.le v0 (.a v1 v2)] (.le (.a v0 (.n 1)) (.a v1 (.a v2 (.n 1)))) [1,2] [] rfl
theorem _bG{a b:Nat}:a=b->a+1=b+1:=_0 [a,b] [.eq v0 v1] (.eq (.a v0 (.n 1)) (.a v1 (.n 1))) [1,2] [1,3] rfl
theorem _bH{a b c:Nat}:a<=b->a+c<=b+c:=_0 [a,b,c] [.le v0 v1] (.le (.a v0 v2) (.a v1 v2)) [1,2] [] rfl
theorem _bI{a b c:Nat}:a<=b+c->a+1<=(b+1)+c:=_0 [a,b,c] [.le v0 (.a v1 v2)] (.le (.a v0 (.n 1)) (.a (.a v1 (.n 1)) v2)) [1,2] [] rfl
theorem _bJ{a:Nat}:a<=a+1:=_0 [a] [] (.le v0 (.a v0 (.n 1))) [1] [] rfl
theorem _bK{a b c d:Nat}:(a+b)+1<=c+d->(a+1)+b<=c+d:=_0 [a,b,c,d] [.le (.a (.a v0 v1) (.n 1)) (.a v2 v3)] (.le (.a (.a v0 (.n 1)) v1) (.a v2 v3)) [1,2] [] rfl
theorem _bL{a:Nat}:0<a->a=(a-1)+1:=_1 [a,(a-1)] [.sub v0 (.n 1) v1,.lt (.n 0) v0] (.eq v0 (.a v1 (.n 1))) (.n (.l [1,0,2,0] [1,2,0,2]) (.l [1,0,0,3] [1,0,0,2])) rfl rfl
theorem _bM{a b c d:Nat}:a<=2*b->c+(d+a)<(c+(1*((2*b)+1)))+d:=_0 [a,b,c,d] [.le v0 (.m 2 v1)] (.lt (.a v2 (.a v3 v0)) (.a (.a v2 (.m 1 (.a (.m 2 v1) (.n 1)))) v3)) [1,2] [] rfl
theorem _bN{a b c:Nat}:a<=b->c=b+1->a<c:=_0 [a,b,c] [.le v0 v1,.eq v2 (.a v1 (.n 1))] (.lt v0 v2) [1,2,3] [] rfl
theorem _5q{a b:Nat}:a<b->b=(b-1)+1:=_1 [a,b,(b-1)] [.sub v1 (.n 1) v2,.lt v0 v1] (.eq v1 (.a v2 (.n 1))) (.n (.l [1,0,2,0] [1,2,0,2]) (.l [1,0,0,3] [1,0,0,2])) rfl rfl
theorem _bO{a b c:Nat}:a<=b+1->c<a->c<=b:=_0 [a,b,c] [.le v0 (.a v1 (.n 1)),.lt v2 v0] (.le v2 v1) [1,2,2] [] rfl
theorem _5r{a b c:Nat}:a<b->b=c+1->a<=c:=_0 [a,b,c] [.lt v0 v1,.eq v1 (.a v2 (.n 1))] (.le v0 v2) [1,2,2] [] rfl
theorem _bP{a b:Nat}:a<b->b<=0->False:=_0 [a,b] [.lt v0 v1,.le v1 (.n 0)] (.no) [1,2,2] [] rfl
theorem _bQ{a b c:Nat}:a<b->b<=c+1->a<=c:=_0 [a,b,c] [.lt v0 v1,.le v1 (.a v2 (.n 1))] (.le v0 v2) [1,2,2] [] rfl
theorem _bR{a:Nat}:2*a<=2*(a+1):=_0 [a] [] (.le (.m 2 v0) (.m 2 (.a v0 (.n 1)))) [1] [] rfl
theorem _bS{a b c d e:Nat}:a+b<=c+d->d<=e->(a+b)+1<=(c+1)+e:=_0 [a,b,c,d,e] [.le (.a v0 v1) (.a v2 v3),.le v3 v4] (.le (.a (.a v0 v1) (.n 1)) (.a (.a v2 (.n 1)) v4)) [1,2,2] [] rfl
theorem _bT{a b:Nat}:a+1<=200->b=a+1->b<=200:=_0 [a,b] [.le (.a v0 (.n 1)) (.n 200),.eq v1 (.a v0 (.n 1))] (.le v1 (.n 200)) [1,2,2] [] rfl
theorem _bU{a b c d:Nat}:a<=b+(c-1)->0<c->(d+1)+a<=(d+b)+c:=_1 [a,b,c,(c-1),d] [.sub v2 (.n 1) v3,.le v0 (.a v1 v3),.lt (.n 0) v2] (.le (.a (.a v4 (.n 1)) v0) (.a (.a v4 v1) v2)) (.n (.l [1,2,2,0,2] []) (.l [1,0,2,0,2] [])) (by kernel_rfl) rfl
theorem _bV{a b c d:Nat}:a<=b+c->d+a<=(d+b)+c:=_0 [a,b,c,d] [.le v0 (.a v1 v2)] (.le (.a v3 v0) (.a (.a v3 v1) v2)) [1,2] [] rfl
theorem _bW{a b c d e:Nat}:a<=2->b<=2*c->d<=e+a->e=b->d<=2*(c+1):=_0 [a,b,c,d,e] [.le v0 (.n 2),.le v1 (.m 2 v2),.le v3 (.a v4 v0),.eq v4 v1] (.le v3 (.m 2 (.a v2 (.n 1)))) [1,2,2,2,2] [] rfl
theorem _39{a b c:Nat}:a=b+1->c<b->c<a:=_0 [a,b,c] [.eq v0 (.a v1 (.n 1)),.lt v2 v1] (.lt v2 v0) [1,3,2] [] rfl
theorem _bX{e f:Nat}:e=f->f<=200->e+1<=100000:=_1 [e,f] [.eq v0 v1,.le v1 (.n 200)] (.le (.a v0 (.n 1)) (.n 100000)) (.l [1,2,2] []) (by kernel_rfl)
theorem _bY{f:Nat}:f<=200->f+1<=100000:=_1 [f] [.le v0 (.n 200)] (.le (.a v0 (.n 1)) (.n 100000)) (.l [1,2] []) (by kernel_rfl)
theorem _bZ{e f:Nat}:e=f->e=f:=_1 [e,f] [.eq v0 v1] (.eq v0 v1) (.l [1,2] [1,3]) rfl
theorem _c0{f:Nat}:f<=200->f<=200:=_1 [f] [.le v0 (.n 200)] (.le v0 (.n 200)) (.l [1,2] []) rfl
theorem _c1{d:Nat}:d<=3000->d<=3000:=_1 [d] [.le v0 (.n 3000)] (.le v0 (.n 3000)) (.l [1,2] []) (by kernel_rfl)
theorem _c2{b:Nat}:b<=90000->b<=90000:=_1 [b] [.le v0 (.n 90000)] (.le v0 (.n 90000)) (.l [1,2] []) (by kernel_rfl)
theorem _c3{c:Nat}:c<=90000->c<=90000:=_1 [c] [.le v0 (.n 90000)] (.le v0 (.n 90000)) (.l [1,2] []) (by kernel_rfl)
theorem _c4{a i:Nat}:a<=200->i=a->i<=200:=_1 [a,i] [.le v0 (.n 200),.eq v1 v0] (.le v1 (.n 200)) (.l [1,2,2] []) rfl
theorem _3a{a:Nat}:a<=2->a<=100:=_0 [a] [.le v0 (.n 2)] (.le v0 (.n 100)) [1,2] [] rfl
theorem _3b{a:Nat}:a<=2->a<=100000:=_0 [a] [.le v0 (.n 2)] (.le v0 (.n 100000)) [1,2] [] rfl
theorem _3c{a:Nat}:a<=2->1+a<=100000:=_0 [a] [.le v0 (.n 2)] (.le (.a (.n 1) v0) (.n 100000)) [1,2] [] rfl
theorem _3d{a b:Nat}:((a:Nat):Int)=((b:Nat):Int)->a=b:=_1 [a,b] [.ieq v0 v1] (.eq v0 v1) (.l [1,2] [1,3]) rfl
theorem _c5{a b c d e f:Nat}:a=b->c+b=d->d=e->f<=200->e=f->a<=200:=_0 [a,b,c,d,e,f] [.eq v0 v1,.eq (.a v2 v1) v3,.eq v3 v4,.le v5 (.n 200),.eq v4 v5] (.le v0 (.n 200)) [1,2,2,2,2,2] [] rfl
theorem _c6{a:Nat}:a<=3000->a<=100000:=_0 [a] [.le v0 (.n 3000)] (.le v0 (.n 100000)) [1,2] [] rfl
theorem _c7{a:Nat}:a<=3000->a<=99999:=_0 [a] [.le v0 (.n 3000)] (.le v0 (.n 99999)) [1,2] [] rfl
theorem _3e{a:Nat}:a<=200->a<=100000:=_0 [a] [.le v0 (.n 200)] (.le v0 (.n 100000)) [1,2] [] rfl
theorem _c8{a b c d:Nat}:a<=200->b<=90000->c<=2*d->d=a->b+c<=100000:=_0 [a,b,c,d] [.le v0 (.n 200),.le v1 (.n 90000),.le v2 (.m 2 v3),.eq v3 v0] (.le (.a v1 v2) (.n 100000)) [1,4,2,2,4] [] rfl
theorem _c9{a b c d:Nat}:a<=200->b<=2*c->d<=2*c->c=a->b+d<=100000:=_0 [a,b,c,d] [.le v0 (.n 200),.le v1 (.m 2 v2),.le v3 (.m 2 v2),.eq v2 v0] (.le (.a v1 v3) (.n 100000)) [1,8,2,2,8] [] rfl
theorem _ca{a b:Nat}:a<=200->b<=a->b<=100000:=_0 [a,b] [.le v0 (.n 200),.le v1 v0] (.le v1 (.n 100000)) [1,2,2] [] rfl
theorem _3f{a:Nat}:a<=90000->a<=100000:=_0 [a] [.le v0 (.n 90000)] (.le v0 (.n 100000)) [1,2] [] rfl
theorem _cb{a:Nat}:a<=90000->a-1<=100000:=_1 [a,(a-1)] [.sub v0 (.n 1) v1,.le v0 (.n 90000)] (.le v1 (.n 100000)) (.n (.l [1,0,0,2] []) (.l [1,2,0,2] [])) (by kernel_rfl) rfl
theorem _cc:∀{a:Nat},a<=(90000:Nat)->¬(0:Int)<(↑a:Int)->a=(0:Nat):=λ{a} _ k=>Nat.eq_zero_of_not_pos λq=>k (gc.mpr q)
theorem _cd{a b c:Nat}:a<b->b=c->c=a->False:=_0 [a,b,c] [.lt v0 v1,.eq v1 v2,.eq v2 v0] (.no) [1,2,2,2] [] rfl
theorem _ce{a b c:Nat}:a<=200->b<=2*a->c<=b->c<=400:=_0 [a,b,c] [.le v0 (.n 200),.le v1 (.m 2 v0),.le v2 v1] (.le v2 (.n 400)) [1,4,2,2] [] rfl
theorem _cf{a:Nat}:a<=2->a<=10:=_0 [a] [.le v0 (.n 2)] (.le v0 (.n 10)) [1,2] [] rfl
theorem _cg{a b c d:Nat}:a=b->c=b->d<c->d<a+1:=_0 [a,b,c,d] [.eq v0 v1,.eq v2 v1,.lt v3 v2] (.lt v3 (.a v0 (.n 1))) [1,3,2,2] [] rfl
theorem _ch{a:Nat}:a<=2->a<4000:=_0 [a] [.le v0 (.n 2)] (.lt v0 (.n 4000)) [1,2] [] rfl
theorem _ci{a b:Nat}:a<=2->b<=a->b<=2:=_0 [a,b] [.le v0 (.n 2),.le v1 v0] (.le v1 (.n 2)) [1,2,2] [] rfl
theorem _cj{a:Nat}:a<=2->a<64:=_0 [a] [.le v0 (.n 2)] (.lt v0 (.n 64)) [1,2] [] rfl
theorem _ck{a b c:Nat}:a=b->c<a->c=b->False:=_0 [a,b,c] [.eq v0 v1,.lt v2 v0,.eq v2 v1] (.no) [1,2,2,3] [] rfl
theorem _cl{a:Nat}:a+1<=200->a<=200:=_0 [a] [.le (.a v0 (.n 1)) (.n 200)] (.le v0 (.n 200)) [1,2] [] rfl
theorem _cm{a:Nat}:a<=401->a<=100000:=_0 [a] [.le v0 (.n 401)] (.le v0 (.n 100000)) [1,2] [] rfl
theorem _cn{a b c:Nat}:a=b->a=c->c<b->False:=_1 [a,b,c] [.eq v0 v1,.eq v0 v2,.lt v2 v1] (.no) (.l [1,2,2,3] []) rfl
theorem _co{d e:Nat}:e<d->¬e=d:=_1 [d,e] [.lt v1 v0,.eq v1 v0] (.no) (.l [1,3,2] []) rfl
theorem _3g{a b:Nat}:a=b->a<b->False:=_0 [a,b] [.eq v0 v1,.lt v0 v1] (.no) [1,3,2] [] rfl
theorem _cp{a b:Nat}:a=b->b<a->False:=_0 [a,b] [.eq v0 v1,.lt v1 v0] (.no) [1,2,2] [] rfl
theorem _cq{a b:Nat}:a=b+1->b<a:=_0 [a,b] [.eq v0 (.a v1 (.n 1))] (.lt v1 v0) [1,3] [] rfl
theorem _5s{a:Nat}:a<a->False:=_0 [a] [.lt v0 v0] (.no) [1,2] [] rfl
theorem _cr{a b c:Nat}:a=b->a<=c->b<=c:=_0 [a,b,c] [.eq v0 v1,.le v0 v2] (.le v1 v2) [1,3,2] [] rfl
theorem _cs{a b c:Nat}:a+1<=b-c->a<=b-c:=_1 [a,(b-c)] [.le (.a v0 (.n 1)) v1] (.le v0 v1) (.l [1,2] []) rfl
theorem _ct{a b c:Nat}:a+1<=b-c->(b-c)-a>0:=_1 [a,(b-c),((b-c)-a)] [.sub v1 v0 v2,.le (.a v0 (.n 1)) v1] (.lt (.n 0) v2) (.n (.l [1,2,2,0] []) (.l [1,2,0,3] [])) rfl rfl
theorem _cu{a b:Nat}:¬(a-b)-(a-b)>0:=_1 [(a-b),((a-b)-(a-b))] [.sub v0 v0 v1,.lt (.n 0) v1] (.no) (.n (.l [1,2,0,2] []) (.l [1,2,0,2] [])) rfl rfl
theorem _cv{a:Nat}:(a+9)-a<=9:=_1 [a,((a+9)-a)] [.sub (.a v0 (.n 9)) v0 v1] (.le v1 (.n 9)) (.n (.l [1,2,2] []) (.l [1,0,2] [])) rfl rfl
theorem _cw{a:Nat}:a-a<=9:=_1 [a,(a-a)] [.sub v0 v0 v1] (.le v1 (.n 9)) (.n (.l [1,0,2] []) (.l [1,0,2] [])) rfl rfl
theorem _cx{a b c d:Nat}:a<=10*b->c-d<=9->(a+(c-d))+1<=10*(b+1):=_1 [a,b,(c-d)] [.le v0 (.m 10 v1),.le v2 (.n 9)] (.le (.a (.a v0 v2) (.n 1)) (.m 10 (.a v1 (.n 1)))) (.l [1,2,2] []) rfl
theorem _cy{a b:Nat}:(a+1)+b=(a+b)+1:=_0 [a,b] [] (.eq (.a (.a v0 (.n 1)) v1) (.a (.a v0 v1) (.n 1))) [1] [1] rfl
theorem _5t{a b:Nat}:a<=b->a<b+1:=_0 [a,b] [.le v0 v1] (.lt v0 (.a v1 (.n 1))) [1,2] [] rfl
theorem _cz{a b c:Nat}:a<=b->c<a->((b+1)-a)+c<=b:=_1 [a,b,c,((b+1)-a)] [.sub (.a v1 (.n 1)) v0 v3,.le v0 v1,.lt v2 v0] (.le (.a v3 v2) v1) (.n (.l [1,2,4,2,2] []) (.l [1,2,0,0,2] [])) rfl rfl
theorem _cA{a b c:Nat}:a<=b->a+(((b+1)-a)+c)=(b+1)+c:=_1 [a,b,((b+1)-a),c] [.sub (.a v1 (.n 1)) v0 v2,.le v0 v1] (.eq (.a v0 (.a v2 v3)) (.a (.a v1 (.n 1)) v3)) (.n (.l [1,4,2,2] [1,2,4,0]) (.l [1,0,0,2] [1,0,0,3])) (by kernel_rfl) rfl
theorem _cB{a b c:Nat}:a<=b->a-c<=b:=_1 [a,b,c,(a-c)] [.sub v0 v2 v3,.le v0 v1] (.le v3 v1) (.n (.l [1,0,0,2] []) (.l [1,2,0,2] [])) rfl rfl
theorem _cC{a b:Nat}:a>=b->b+(a-b)=a:=_1 [a,b,(a-b)] [.sub v0 v1 v2,.le v1 v0] (.eq (.a v1 v2) v0) (.n (.l [1,2,0,2] [1,0,2,0]) (.l [1,0,0,2] [1,0,0,3])) rfl rfl
theorem _cD{a:Nat}:13<=13+a:=_0 [a] [] (.le (.n 13) (.a (.n 13) v0)) [1] [] rfl
theorem _cE{a b c:Nat}:a<=b->c<=10*(13+a)->c<=10*(13+b):=_0 [a,b,c] [.le v0 v1,.le v2 (.m 10 (.a (.n 13) v0))] (.le v2 (.m 10 (.a (.n 13) v1))) [1,20,2] [] rfl
theorem _cF{a b c:Nat}:a=b->b<=c->c<a->False:=_0 [a,b,c] [.eq v0 v1,.le v1 v2,.lt v2 v0] (.no) [1,2,2,2] [] rfl
theorem _cG{e f i:Nat}:f=e->i=e->f<i->False:=_1 [e,f,i] [.eq v1 v0,.eq v2 v0,.lt v1 v2] (.no) (.l [1,2,2,3] []) rfl
theorem _cH{e f i:Nat}:f=e->i=e->i<f->False:=_1 [e,f,i] [.eq v1 v0,.eq v2 v0,.lt v2 v1] (.no) (.l [1,2,3,2] []) rfl
theorem _5u{a b:Nat}:a-a<b->b=(b-1)+1:=_1 [(a-a),b,(b-1)] [.sub v1 (.n 1) v2,.lt v0 v1] (.eq v1 (.a v2 (.n 1))) (.n (.l [1,0,2,0] [1,2,0,2]) (.l [1,0,0,3] [1,0,0,2])) rfl rfl
theorem _5v{a b:Nat}:a<=b->b<a->False:=_0 [a,b] [.le v0 v1,.lt v1 v0] (.no) [1,2,2] [] rfl
theorem _3h{a b d:Nat}:a-b<d->d=(d-1)+1:=_1 [(a-b),d,(d-1)] [.sub v1 (.n 1) v2,.lt v0 v1] (.eq v1 (.a v2 (.n 1))) (.n (.l [1,0,2,0] [1,2,0,2]) (.l [1,0,0,3] [1,0,0,2])) rfl rfl
theorem _5w{a b c:Nat}:a-b=c+1->b<=a->b+1<=a:=_1 [a,b,(a-b),c] [.sub v0 v1 v2,.eq v2 (.a v3 (.n 1)),.le v1 v0] (.le (.a v1 (.n 1)) v0) (.n (.l [1,2,3,0,2] []) (.l [1,0,3,0,2] [])) rfl rfl
theorem _5x{a b c d:Nat}:a-b=c+1->a-b<d+1->a-(b+1)<d:=_1 [a,b,(a-b),c,d,(a-(b+1))] [.sub v0 v1 v2,.sub v0 (.a v1 (.n 1)) v5,.eq v2 (.a v3 (.n 1)),.lt v2 (.a v4 (.n 1))] (.lt v5 v4) (.n (.n (.l [1,2,5,0,2,0,2] []) (.l [1,2,3,2,2,4,0] [])) (.n (.l [1,2,3,0,2,0,0] []) (.l [1,2,0,0,2,0,3] []))) (by kernel_rfl) rfl rfl
theorem _5y{a b:Nat}:a<=b->b<=a->b=a:=_0 [a,b] [.le v0 v1,.le v1 v0] (.eq v1 v0) [1,0,2] [1,2,0] rfl
theorem _cI{a b:Nat}:a<=b-1->0<b->a+1<=b:=_1 [a,b,(b-1)] [.sub v1 (.n 1) v2,.le v0 v2,.lt (.n 0) v1] (.le (.a v0 (.n 1)) v1) (.n (.l [1,2,2,0,2] []) (.l [1,0,2,0,2] [])) rfl rfl
theorem _5z{a b:Nat}:a<=b->b+1<=a->False:=_0 [a,b] [.le v0 v1,.le (.a v1 (.n 1)) v0] (.no) [1,2,2] [] rfl
theorem _cJ{a:Nat}:a<0+1->a=0:=_0 [a] [.lt v0 (.a (.n 0) (.n 1))] (.eq v0 (.n 0)) [1,2] [1,0] rfl
theorem _3i{a b:Nat}:a<=b->a<=b+1:=_0 [a,b] [.le v0 v1] (.le v0 (.a v1 (.n 1))) [1,2] [] rfl
theorem _cK{a b:Nat}:a<(b+1)+1->b+1<=a->a=b+1:=_0 [a,b] [.lt v0 (.a (.a v1 (.n 1)) (.n 1)),.le (.a v1 (.n 1)) v0] (.eq v0 (.a v1 (.n 1))) [1,2,0] [1,0,2] rfl
theorem _cL{a b c:Nat}:a<=10*(13+b)->c<=a->c<10*(b+15):=_0 [a,b,c] [.le v0 (.m 10 (.a (.n 13) v1)),.le v2 v0] (.lt v2 (.m 10 (.a v1 (.n 15)))) [1,2,2] [] rfl
theorem _5A{a b:Nat}:a+1<=b->b=(b-1)+1:=_1 [a,b,(b-1)] [.sub v1 (.n 1) v2,.le (.a v0 (.n 1)) v1] (.eq v1 (.a v2 (.n 1))) (.n (.l [1,0,2,0] [1,2,0,2]) (.l [1,0,0,3] [1,0,0,2])) rfl rfl
theorem _5B{a b:Nat}:a+1<=b+1->a<=b:=_0 [a,b] [.le (.a v0 (.n 1)) (.a v1 (.n 1))] (.le v0 v1) [1,2] [] rfl
theorem _cM{a b c:Nat}:b<10*c->b-a<10*c:=_1 [a,b,c,(b-a)] [.sub v1 v0 v3,.lt v1 (.m 10 v2)] (.lt v3 (.m 10 v2)) (.n (.l [1,2,0,2] []) (.l [1,2,0,2] [])) rfl rfl
theorem _cN{a b c d:Nat}:a-b=c->b<=d->d<a->a-(d+1)<c:=_1 [a,b,(a-b),c,d,(a-(d+1))] [.sub v0 v1 v2,.sub v0 (.a v4 (.n 1)) v5,.eq v2 v3,.le v1 v4,.lt v4 v0] (.lt v5 v3) (.n (.n (.l [1,2,2,0,0,2,2,0] []) (.l [1,2,4,0,0,2,4,0] [])) (.n (.l [1,2,2,2,0,2,0,3] []) (.l [1,0,2,2,0,2,0,3] []))) (by kernel_rfl) rfl rfl
theorem _cO{a b:Nat}:a<b->a+1<=b:=_0 [a,b] [.lt v0 v1] (.le (.a v0 (.n 1)) v1) [1,2] [] rfl
theorem _cP{a b d e:Nat}:a-b<d+1->b<=e->e<a->a-(e+1)<d:=_1 [a,b,(a-b),d,e,(a-(e+1))] [.sub v0 v1 v2,.sub v0 (.a v4 (.n 1)) v5,.lt v2 (.a v3 (.n 1)),.le v1 v4,.lt v4 v0] (.lt v5 v3) (.n (.n (.l [1,2,2,0,0,2,2,0] []) (.l [1,2,4,0,0,2,4,0] [])) (.n (.l [1,2,2,2,0,2,0,3] []) (.l [1,0,2,2,0,2,0,3] []))) (by kernel_rfl) rfl rfl
theorem _5C{a b:Nat}:a<b+1->b<=a->a=b:=_0 [a,b] [.lt v0 (.a v1 (.n 1)),.le v1 v0] (.eq v0 v1) [1,2,0] [1,0,2] rfl
theorem _cQ{a b:Nat}:(min a b)+((b-a)+1)=b+1:=_1 [a,b,(min a b),(b-a)] [.mn v0 v1 v2,.sub v1 v0 v3] (.eq (.a v2 (.a v3 (.n 1))) (.a v1 (.n 1))) (.n (.n (.l [1,0,2,2,2] [1,2,0,0,3]) (.l [1,0,2,0,2] [1,0,3,0,3])) (.n (.l [1,0,2,0,2] [1,0,0,0,3]) (.l [1,0,2,2,2] [1,0,0,0,3]))) (by kernel_rfl) rfl rfl
theorem _cR{a b:Nat}:a<=b->min a b=a:=_1 [a,b,(min a b)] [.mn v0 v1 v2,.le v0 v1] (.eq v2 v0) (.n (.l [1,0,0,2] [1,0,0,3]) (.l [1,0,2,2] [1,2,0,3])) rfl rfl
theorem _cS{a b c:Nat}:a=b->¬c<b->a<=c:=_0 [a,b,c] [.eq v0 v1,.nlt v2 v1] (.le v0 v2) [1,2,2] [] rfl
theorem _cT{b c:Nat}:(¬c<b)->(¬c=b)->c-b=((c-b)-1)+1:=_1 [b,c,(c-b),((c-b)-1)] [.sub v1 v0 v2,.sub v2 (.n 1) v3,.nlt v1 v0,.ne v1 v0] (.eq v2 (.a v3 (.n 1))) (.n (.n (.n (.l [1,2,2,2,0,0,0] [1,2,2,0,2,0,0]) (.l [1,2,0,2,0,2,0] [1,2,0,0,2,2,0])) (.n (.l [1,2,2,0,3,0,0] [1,2,2,0,2,0,0]) (.l [1,0,0,2,3,0,2] [1,0,0,2,2,0,2]))) (.n (.n (.l [1,2,2,2,0,0,0] [1,2,2,0,2,0,0]) (.l [1,0,0,2,0,0,0] [1,2,0,0,2,0,3])) (.n (.l [1,2,2,0,3,0,0] [1,2,2,0,2,0,0]) (.l [1,0,0,0,3,0,0] [1,0,0,0,2,0,0])))) (by kernel_rfl) rfl rfl
theorem _cU{b c d:Nat}:(¬c<b)->c-b=d+1->b+d=c-1:=_1 [b,c,(c-b),d,(c-1)] [.sub v1 v0 v2,.sub v1 (.n 1) v4,.nlt v1 v0,.eq v2 (.a v3 (.n 1))] (.eq (.a v0 v3) v4) (.n (.n (.l [1,5,2,2,0,0,4] [1,3,0,0,2,0,2]) (.l [1,5,2,0,3,0,4] [1,3,0,0,2,2,2])) (.n (.l [1,3,0,2,0,0,2] [1,0,0,0,2,0,0]) (.l [1,3,0,0,3,0,2] [1,2,0,0,2,0,3]))) (by kernel_rfl) rfl rfl
theorem _5D{a b:Nat}:a<b->¬b<a:=_0 [a,b] [.lt v0 v1] (.nlt v1 v0) [1,2] [] rfl
theorem _cV{a b:Nat}:a<b->¬b=a:=_1 [a,b] [.lt v0 v1,.eq v1 v0] (.no) (.l [1,2,2] []) rfl
theorem _cW{a b:Nat}:a<=b->¬b+1<a:=_0 [a,b] [.le v0 v1] (.nlt (.a v1 (.n 1)) v0) [1,2] [] rfl
theorem _cX{a b:Nat}:a>=b->¬a+1=b:=_1 [a,b] [.le v1 v0,.eq (.a v0 (.n 1)) v1] (.no) (.l [1,2,2] []) rfl
theorem _cY{a b c:Nat}:a=b+(c+1)->b<a:=_0 [a,b,c] [.eq v0 (.a v1 (.a v2 (.n 1)))] (.lt v1 v0) [1,3] [] rfl
theorem _cZ{a b:Nat}:a>=b->a=b+(a-b):=_1 [a,b,(a-b)] [.sub v0 v1 v2,.le v1 v0] (.eq v0 (.a v1 v2)) (.n (.l [1,0,2,0] [1,2,0,2]) (.l [1,0,0,3] [1,0,0,2])) rfl rfl
theorem _d0{a b c d e:Nat}:a<=(b+1)-c->d+e<d+a->e<=b-c:=_1 [a,b,c,((b+1)-c),d,e,(b-c)] [.sub (.a v1 (.n 1)) v2 v3,.sub v1 v2 (.v 6),.le v0 v3,.lt (.a v4 v5) (.a v4 v0)] (.le v5 (.v 6)) (.n (.n (.l [1,4,4,0,0,0,4] []) (.l [1,2,2,2,0,2,2] [])) (.n (.l [1,2,2,2,0,0,2] []) (.l [1,2,2,0,3,0,2] []))) (by kernel_rfl) rfl rfl
theorem _d1{a b c d:Nat}:a=b+1->c+d<=b->c+d<a:=_0 [a,b,c,d] [.eq v0 (.a v1 (.n 1)),.le (.a v2 v3) v1] (.lt (.a v2 v3) v0) [1,3,2] [] rfl
theorem _d2{a b c:Nat}:a+b<a+c->b<c:=_0 [a,b,c] [.lt (.a v0 v1) (.a v0 v2)] (.lt v1 v2) [1,2] [] rfl
theorem _d3{a:Nat}:a<=a+9:=_0 [a] [] (.le v0 (.a v0 (.n 9))) [1] [] rfl
theorem _d4{a:Nat}:a<=a:=_0 [a] [] (.le v0 v0) [1] [] rfl
theorem _5E{a b c:Nat}:a<(b+1)-c->a<=b-c:=_1 [a,b,c,((b+1)-c),(b-c)] [.sub (.a v1 (.n 1)) v2 v3,.sub v1 v2 v4,.lt v0 v3] (.le v0 v4) (.n (.n (.l [1,4,0,0,0,4] []) (.l [1,2,2,0,2,2] [])) (.n (.l [1,2,2,0,0,2] []) (.l [1,2,0,3,0,2] []))) (by kernel_rfl) rfl rfl
theorem _5F{a b c:Nat}:a<(b+1)-c->a<=(b+1)-c:=_1 [a,((b+1)-c)] [.lt v0 v1] (.le v0 v1) (.l [1,2] []) rfl
theorem _d5{a b:Nat}:a<=b->0<(b+1)-a:=_1 [a,b,((b+1)-a)] [.sub (.a v1 (.n 1)) v0 v2,.le v0 v1] (.lt (.n 0) v2) (.n (.l [1,2,2,0] []) (.l [1,2,0,3] [])) rfl rfl
theorem _d6{a b:Nat}:a<b->a+0<b:=_0 [a,b] [.lt v0 v1] (.lt (.a v0 (.n 0)) v1) [1,2] [] rfl
theorem _d7{a b c:Nat}:a<=b->(c+(b-a))+1=c+((b+1)-a):=_1 [a,b,c,(b-a),((b+1)-a)] [.sub v1 v0 v3,.sub (.a v1 (.n 1)) v0 v4,.le v0 v1] (.eq (.a (.a v2 v3) (.n 1)) (.a v2 v4)) (.n (.n (.l [1,2,2,0,0,2] [1,2,2,2,0,0]) (.l [1,2,0,3,0,2] [1,0,0,2,2,0])) (.n (.l [1,2,4,0,0,2] [1,2,2,2,0,0]) (.l [1,0,0,3,0,2] [1,0,0,2,0,3]))) (by kernel_rfl) rfl rfl
theorem _d8{a b c:Nat}:a=b+1->c<a->c<=b:=_0 [a,b,c] [.eq v0 (.a v1 (.n 1)),.lt v2 v0] (.le v2 v1) [1,2,2] [] rfl
theorem _d9{a b:Nat}:a<=b->(13+a)-0<b+15:=_1 [a,b,((13+a)-0)] [.sub (.a (.n 13) v0) (.n 0) v2,.le v0 v1] (.lt v2 (.a v1 (.n 15))) (.n (.l [1,0,2,2] []) (.l [1,2,0,2] [])) rfl rfl
theorem _da{a b c:Nat}:a<b+c->b<=a->c=1->a=b:=_0 [a,b,c] [.lt v0 (.a v1 v2),.le v1 v0,.eq v2 (.n 1)] (.eq v0 v1) [1,2,0,2] [1,0,2,0] rfl
theorem _db{a b c:Nat}:a+(b+1)<=c->a<=c:=_0 [a,b,c] [.le (.a v0 (.a v1 (.n 1))) v2] (.le v0 v2) [1,2] [] rfl
theorem _dc{a b c:Nat}:a+(b+1)<=c->(a+1)+b<=c:=_0 [a,b,c] [.le (.a v0 (.a v1 (.n 1))) v2] (.le (.a (.a v0 (.n 1)) v1) v2) [1,2] [] rfl
theorem _5G{a b:Nat}:(a+1)+b=a+(b+1):=_0 [a,b] [] (.eq (.a (.a v0 (.n 1)) v1) (.a v0 (.a v1 (.n 1)))) [1] [1] rfl
theorem _dd{a b c:Nat}:a=b+1->c<a->c<b+1:=_0 [a,b,c] [.eq v0 (.a v1 (.n 1)),.lt v2 v0] (.lt v2 (.a v1 (.n 1))) [1,2,2] [] rfl
theorem _de{a b:Nat}:a<b->a=b->False:=_0 [a,b] [.lt v0 v1,.eq v0 v1] (.no) [1,2,3] [] rfl
theorem _df{a:Nat}:a=7->a<=127:=_0 [a] [.eq v0 (.n 7)] (.le v0 (.n 127)) [1,2] [] rfl
theorem _dg{a:Nat}:a=31->a<=127:=_0 [a] [.eq v0 (.n 31)] (.le v0 (.n 127)) [1,2] [] rfl
theorem _dh{a:Nat}:a=127->a<=127:=_0 [a] [.eq v0 (.n 127)] (.le v0 (.n 127)) [1,2] [] rfl
theorem _di{a b:Nat}:a<10*(b+15)->b<=127->a-0<100000:=_1 [a,b,(a-0)] [.sub v0 (.n 0) v2,.lt v0 (.m 10 (.a v1 (.n 15))),.le v1 (.n 127)] (.lt v2 (.n 100000)) (.n (.l [1,0,0,0,2] []) (.l [1,20,2,0,2] [])) (by kernel_rfl) rfl
theorem _dj{a:Nat}:a<1000->a<=16777216:=_0 [a] [.lt v0 (.n 1000)] (.le v0 (.n 16777216)) [1,2] [] rfl
theorem _dk{b d:Nat}:b*5<d*3->b<=d:=_1 [b,d] [.lt (.r v0 5) (.r v1 3)] (.le v0 v1) (.l [3,2] []) rfl
theorem _dl{a b c:Nat}:a*5<b*3->a=c->a<b:=_0 [a,b,c] [.lt (.r v0 5) (.r v1 3),.eq v0 v2] (.lt v0 v1) [3,2,5] [] rfl
theorem _dm{a b:Nat}:a+1<70->b=a+1->b<1000:=_0 [a,b] [.lt (.a v0 (.n 1)) (.n 70),.eq v1 (.a v0 (.n 1))] (.lt v1 (.n 1000)) [1,2,2] [] rfl
theorem _dn:∀{a b c d e f:Nat},a+(1:Nat)<(70:Nat)->a*(5:Nat)<(7:Nat)*(3:Nat)->b=a->c=a->d=c+(1:Nat)->e=a+(1:Nat)->f=c+(1:Nat)->(a+(1:Nat))*(5:Nat)>=(7:Nat)*(3:Nat)->a+(1:Nat)=(5:Nat)\/a+(1:Nat)=(19:Nat):=by intros;lia
theorem _do:∀{a b c d e f:Nat},a+(1:Nat)<(70:Nat)->a*(5:Nat)<(31:Nat)*(3:Nat)->b=a->c=a->d=c+(1:Nat)->e=a+(1:Nat)->f=c+(1:Nat)->(a+(1:Nat))*(5:Nat)>=(31:Nat)*(3:Nat)->a+(1:Nat)=(5:Nat)\/a+(1:Nat)=(19:Nat):=by intros;lia
theorem _dp:∀{a b c d e f:Nat},a+(1:Nat)<(70:Nat)->b=a->c=a->d=c+(1:Nat)->e=a+(1:Nat)->f=c+(1:Nat)->(a+(1:Nat))*(5:Nat)>=(127:Nat)*(3:Nat)->a+(1:Nat)=(5:Nat)\/a+(1:Nat)=(19:Nat):=by intros;lia
theorem _dq{a b:Nat}:a+1<70->b=a+1->b<70:=_0 [a,b] [.lt (.a v0 (.n 1)) (.n 70),.eq v1 (.a v0 (.n 1))] (.lt v1 (.n 70)) [1,2,2] [] rfl
theorem _dr{a b:Nat}:¬a*3<=b*5->b*5<a*3:=_0 [a,b] [.nle (.r v0 3) (.r v1 5)] (.lt (.r v1 5) (.r v0 3)) [1,2] [] rfl
theorem _ds{a b c:Nat}:a<=1->b<=c->c<a->b=c:=_0 [a,b,c] [.le v0 (.n 1),.le v1 v2,.lt v2 v0] (.eq v1 v2) [1,0,2,0] [1,2,0,2] rfl
theorem _dt{a b c:Nat}:b<c->a<=((a+c)-1)-b:=_1 [a,b,c,((a+c)-1),(((a+c)-1)-b)] [.sub (.a v0 v2) (.n 1) v3,.sub v3 v1 v4,.lt v1 v2] (.le v0 v4) (.n (.n (.l [1,2,0,0,2,0] []) (.l [1,2,0,0,2,0] [])) (.n (.l [1,2,2,0,0,3] []) (.l [1,2,0,3,0,3] []))) (by kernel_rfl) rfl rfl
theorem _du{a b c:Nat}:a<=b->b<c->((a+c)-1)-b<c:=_1 [a,b,c,((a+c)-1),(((a+c)-1)-b)] [.sub (.a v0 v2) (.n 1) v3,.sub v3 v1 v4,.le v0 v1,.lt v1 v2] (.lt v4 v2) (.n (.n (.l [1,2,0,0,2,0,0] []) (.l [1,2,0,0,2,0,2] [])) (.n (.l [1,2,0,0,2,0,0] []) (.l [1,0,2,0,2,0,2] []))) (by kernel_rfl) rfl rfl
theorem _5H{a b c:Nat}:a+(b+1)=c->a<=c:=_0 [a,b,c] [.eq (.a v0 (.a v1 (.n 1))) v2] (.le v0 v2) [1,2] [] rfl
theorem _19{a b c:Nat}:a+(b+1)=c->(a+1)+b=c:=_0 [a,b,c] [.eq (.a v0 (.a v1 (.n 1))) v2] (.eq (.a (.a v0 (.n 1)) v1) v2) [1,2] [1,3] rfl
theorem _0G{a:Nat}:1<=a->1<=a+1:=_0 [a] [.le (.n 1) v0] (.le (.n 1) (.a v0 (.n 1))) [1,2] [] rfl
theorem _dv{a b:Nat}:a-(0+1)<=b->b<a->b=a-1:=_1 [a,(a-(0+1)),b,(a-1)] [.sub v0 (.a (.n 0) (.n 1)) v1,.sub v0 (.n 1) v3,.le v1 v2,.lt v2 v0] (.eq v2 v3) (.n (.n (.l [1,2,0,2,0,0,0] [1,0,0,0,2,0,0]) (.l [1,2,0,0,3,0,0] [1,0,0,0,2,2,0])) (.n (.l [1,2,0,2,0,0,0] [1,0,0,0,2,0,0]) (.l [1,2,0,0,3,0,0] [1,0,2,0,2,0,3]))) (by kernel_rfl) rfl rfl
theorem _dw{a b c:Nat}:(a+1)-((b+1)+1)<=c->a-(b+1)<=c:=_1 [a,b,((a+1)-((b+1)+1)),c,(a-(b+1))] [.sub (.a v0 (.n 1)) (.a (.a v1 (.n 1)) (.n 1)) v2,.sub v0 (.a v1 (.n 1)) v4,.le v2 v3] (.le v4 v3) (.n (.n (.l [1,0,0,2,0,0] []) (.l [1,0,0,2,2,0] [])) (.n (.l [1,0,0,2,0,0] []) (.l [1,2,0,2,0,3] []))) (by kernel_rfl) rfl rfl
theorem _dx{a b c d:Nat}:a<=b->c+(d+1)=a->c<=b:=_0 [a,b,c,d] [.le v0 v1,.eq (.a v2 (.a v3 (.n 1))) v0] (.le v2 v1) [1,2,2] [] rfl
theorem _dy{a b c:Nat}:a<=b->((0+c)-1)-b<=((0+c)-1)-a:=_1 [a,b,((0+c)-1),(((0+c)-1)-b),(((0+c)-1)-a)] [.sub v2 v1 v3,.sub v2 v0 v4,.le v0 v1] (.le v3 v4) (.n (.n (.l [1,0,0,0,0,2] []) (.l [1,0,0,0,0,2] [])) (.n (.l [1,2,2,0,0,2] []) (.l [1,2,0,3,0,2] []))) (by kernel_rfl) rfl rfl
theorem _dz{a b c:Nat}:b<c->((0+c)-1)-a<c:=_1 [a,b,c,((0+c)-1),(((0+c)-1)-a)] [.sub (.a (.n 0) v2) (.n 1) v3,.sub v3 v0 v4,.lt v1 v2] (.lt v4 v2) (.n (.n (.l [1,2,0,2,0,0] []) (.l [1,2,0,2,0,2] [])) (.n (.l [1,2,0,2,0,0] []) (.l [1,0,0,2,0,2] []))) (by kernel_rfl) rfl rfl
theorem _5I{a:Nat}:1<=a+1:=_0 [a] [] (.le (.n 1) (.a v0 (.n 1))) [1] [] rfl
theorem _dA{a b:Nat}:b<a->b<=a-1:=_1 [a,b,(a-1)] [.sub v0 (.n 1) v2,.lt v1 v0] (.le v1 v2) (.n (.l [1,2,2,0] []) (.l [1,2,0,3] [])) rfl rfl
theorem _dB{a:Nat}:a>1->a-1<a:=_1 [a,(a-1)] [.sub v0 (.n 1) v1,.lt (.n 1) v0] (.lt v1 v0) (.n (.l [1,4,2,2] []) (.l [1,0,0,2] [])) rfl rfl
theorem _dC{a b c:Nat}:a<=b->b<c->a<c:=_0 [a,b,c] [.le v0 v1,.lt v1 v2] (.lt v0 v2) [1,2,2] [] rfl
theorem _dD{a:Nat}:1<=a->¬1<a->a=1:=_0 [a] [.le (.n 1) v0,.nlt (.n 1) v0] (.eq v0 (.n 1)) [1,0,2] [1,2,0] rfl
theorem _dE{a b:Nat}:a<=b->b<1->a=b:=_0 [a,b] [.le v0 v1,.lt v1 (.n 1)] (.eq v0 v1) [1,2,0] [1,0,2] rfl
theorem _3j{a b c:Nat}:a<=b->b<=c->a<=c:=_0 [a,b,c] [.le v0 v1,.le v1 v2] (.le v0 v2) [1,2,2] [] rfl
theorem _dF{a b c:Nat}:b-a<=0->a<=c->b<=c:=_1 [a,b,(b-a),c] [.sub v1 v0 v2,.le v2 (.n 0),.le v0 v3] (.le v1 v3) (.n (.l [1,2,0,2,0] []) (.l [1,2,2,0,3] [])) rfl rfl
theorem _dG{a b:Nat}:(¬a>=b)->a<=(a+b) / 2:=_1 [a,b,((a+b) / 2)] [.dv (.a v0 v1) 1 v2,.nle v1 v0] (.le v0 v2) (.l [2,2,0,2] []) rfl rfl
theorem _dH{a b c:Nat}:a<=b->(¬c>=a)->(c+a) / 2<=b:=_1 [a,b,c,((c+a) / 2)] [.dv (.a v2 v0) 1 v3,.le v0 v1,.nle v0 v2] (.le v3 v1) (.l [2,2,4,2,0] []) rfl rfl
theorem _dI{a b:Nat}:(¬a>=b)->((a+b) / 2)+1<=b:=_1 [a,b,((a+b) / 2)] [.dv (.a v0 v1) 1 v2,.nle v1 v0] (.le (.a v2 (.n 1)) v1) (.l [2,2,2,0] []) rfl rfl
theorem _dJ{a b c:Nat}:a<=b->(¬c>=a)->(c+a) / 2<b:=_1 [a,b,c,((c+a) / 2)] [.dv (.a v2 v0) 1 v3,.le v0 v1,.nle v0 v2] (.lt v3 v1) (.l [2,2,4,2,0] []) rfl rfl
theorem _dK{a b c:Nat}:a+(b+1)=c->a<c:=_0 [a,b,c] [.eq (.a v0 (.a v1 (.n 1))) v2] (.lt v0 v2) [1,2] [] rfl
theorem _dL{d e f:Nat}:d<=e->d=f->(¬e=f)->f<e:=_1 [d,e,f] [.le v0 v1,.eq v0 v2,.ne v1 v2] (.lt v2 v1) (.n (.l [1,2,5,4] []) (.l [1,2,0,0] [])) rfl
theorem _5J{a e:Nat}:e<a+1->e<=a:=_1 [a,e] [.lt v1 (.a v0 (.n 1))] (.le v1 v0) (.l [1,2] []) rfl
theorem _dM{a b c:Nat}:a<=b->a=c->(¬b=c)->c<=b-1:=_1 [a,b,c,(b-1)] [.sub v1 (.n 1) v3,.le v0 v1,.eq v0 v2,.ne v1 v2] (.le v2 v3) (.n (.n (.l [1,2,5,4,2,0] []) (.l [1,2,0,0,2,0] [])) (.n (.l [1,2,5,4,0,3] []) (.l [1,2,0,0,0,3] []))) (by kernel_rfl) rfl
theorem _dN{a d e f:Nat}:d<=e->e<a+1->d=f->(¬e=f)->e-1<a:=_1 [a,d,e,f,(e-1)] [.sub v2 (.n 1) v4,.le v1 v2,.lt v2 (.a v0 (.n 1)),.eq v1 v3,.ne v2 v3] (.lt v4 v0) (.n (.n (.l [1,2,3,0,2,0,2] []) (.l [1,2,0,2,0,0,2] [])) (.n (.l [1,2,3,2,2,0,2] []) (.l [1,0,0,2,0,0,2] []))) (by kernel_rfl) rfl
theorem _dO{a b c:Nat}:a<=b->c<a->¬b=c:=_1 [a,b,c] [.le v0 v1,.lt v2 v0,.eq v1 v2] (.no) (.l [1,2,2,2] []) rfl
theorem _dP{d e f:Nat}:d<=e->f<d->f<e:=_1 [d,e,f] [.le v0 v1,.lt v2 v0] (.lt v2 v1) (.l [1,2,2] []) rfl
theorem _dQ{a b:Nat}:a<=b->a-1<=b-1:=_1 [a,b,(a-1),(b-1)] [.sub v0 (.n 1) v2,.sub v1 (.n 1) v3,.le v0 v1] (.le v2 v3) (.n (.n (.l [1,0,0,0,0,2] []) (.l [1,0,0,0,0,2] [])) (.n (.l [1,2,2,0,0,2] []) (.l [1,2,0,3,0,2] []))) (by kernel_rfl) rfl rfl
theorem _dR{a d e f:Nat}:e<a+1->f<d->d<=a->e-1<a:=_1 [a,d,e,f,(e-1)] [.sub v2 (.n 1) v4,.lt v2 (.a v0 (.n 1)),.lt v3 v1,.le v1 v0] (.lt v4 v0) (.n (.l [1,2,2,0,0,2] []) (.l [1,0,0,2,0,2] [])) (by kernel_rfl) rfl
theorem _dS{d e f:Nat}:e<=f->(¬e=d)->f=d->e<d:=_1 [d,e,f] [.le v1 v2,.ne v1 v0,.eq v2 v0] (.lt v1 v0) (.n (.l [1,0,2,0] []) (.l [1,4,2,4] [])) rfl
theorem _dT:∀{a b c d e f:Nat},a+(b+(1:Nat))=c->d<=e->e<a+(1:Nat)->¬(f<d/\d<=a)->¬e=f->f<e/\e<=a->d<=e-(1:Nat):=λ_ h2 _ h4 _ h6=>sF (mP h2 λq=>h4 (q ▸ h6))
theorem _dU{a d e:Nat}:e<d->d<=a->d-1<a:=_1 [a,d,e,(d-1)] [.sub v1 (.n 1) v3,.lt v2 v1,.le v1 v0] (.lt v3 v0) (.n (.l [1,2,2,0,2] []) (.l [1,2,0,0,2] [])) rfl rfl
theorem _dV:∀{a b c d e:Nat},a+(b+(1:Nat))=c->d<=a->e<a+(1:Nat)->¬e=d->¬(d<e/\e<=a)->e<a:=λ_ h2 h3 h4 h5=>fq ((tP h4).resolve_right λq=>h5 ⟨q,eU h3⟩) h2
theorem _dW{a b:Nat}:a<=8->min b a<=8:=_1 [a,b,(min b a)] [.mn v1 v0 v2,.le v0 (.n 8)] (.le v2 (.n 8)) (.n (.l [1,2,2,2] []) (.l [1,2,0,2] [])) rfl rfl
theorem _dX:¬(-1:Int)>(0:Int):=by intros;lia
theorem _dY{a b:Nat}:a+1<=b->a<b:=_0 [a,b] [.le (.a v0 (.n 1)) v1] (.lt v0 v1) [1,2] [] rfl
theorem _dZ:∀{a b:Int},a<b->a=b->False:=by intros;lia
theorem _5K{a:Nat}:1<=a->(0:Int)<((a:Nat):Int):=_1 [a] [.le (.n 1) v0] (.ilt (.n 0) v0) (.l [1,2] []) rfl
theorem _e0:∀{a:Int} {b:Nat},(0:Int)<=a->a<(↑b:Int)->lU a<b:=λh k=>(Int.toNat_lt h).mpr k
theorem _e1:∀{a:Int},(0:Int)<=a->a=(↑(lU a):Int):=λh=>(Int.toNat_of_nonneg h).symm
theorem _5L{a:Nat}:a<64->a<=16777216+1:=_0 [a] [.lt v0 (.n 64)] (.le v0 (.a (.n 16777216) (.n 1))) [1,2] [] rfl
theorem _e2{a b c d:Nat}:a<=b->c<=d->a+c<=(b+d)+(d+1):=_0 [a,b,c,d] [.le v0 v1,.le v2 v3] (.le (.a v0 v2) (.a (.a v1 v3) (.a v3 (.n 1)))) [1,2,2] [] rfl
theorem _e3{a b c d e:Nat}:a<=b->c+(b+1)<=d->e=1->a+c<e+d:=_0 [a,b,c,d,e] [.le v0 v1,.le (.a v2 (.a v1 (.n 1))) v3,.eq v4 (.n 1)] (.lt (.a v0 v2) (.a v4 v3)) [1,2,2,3] [] rfl
theorem _e4{a b c d:Nat}:a<=b+c->b<=d+1->a<=d+(c+1):=_0 [a,b,c,d] [.le v0 (.a v1 v2),.le v1 (.a v3 (.n 1))] (.le v0 (.a v3 (.a v2 (.n 1)))) [1,2,2] [] rfl
theorem _e5{a b c d:Nat}:(a+(16*b))+200<c->d<=a+3->d+8<c:=_0 [a,b,c,d] [.lt (.a (.a v0 (.m 16 v1)) (.n 200)) v2,.le v3 (.a v0 (.n 3))] (.lt (.a v3 (.n 8)) v2) [1,2,2] [] rfl
theorem _e6{a b c d:Nat}:b<=c->d<=0+(min a b)->d<=c:=_1 [a,b,c,d,(min a b)] [.mn v0 v1 v4,.le v1 v2,.le v3 (.a (.n 0) v4)] (.le v3 v2) (.n (.l [1,2,2,2,2] []) (.l [1,2,2,0,2] [])) rfl rfl
theorem _e7{a b c:Nat}:(a+b)+1<c->a<c:=_0 [a,b,c] [.lt (.a (.a v0 v1) (.n 1)) v2] (.lt v0 v2) [1,2] [] rfl
theorem _5M{a b c:Nat}:(a+b)+1<c->(a+1)+b<c:=_0 [a,b,c] [.lt (.a (.a v0 v1) (.n 1)) v2] (.lt (.a (.a v0 (.n 1)) v1) v2) [1,2] [] rfl
theorem _e8{a b c:Nat}:8<=a->b+a<c->b+8<c:=_0 [a,b,c] [.le (.n 8) v0,.lt (.a v1 v0) v2] (.lt (.a v1 (.n 8)) v2) [1,2,2] [] rfl
theorem _e9{a b c:Nat}:a+((b+1)+8)<c->(a+(b+8))+1<c:=_0 [a,b,c] [.lt (.a v0 (.a (.a v1 (.n 1)) (.n 8))) v2] (.lt (.a (.a v0 (.a v1 (.n 8))) (.n 1)) v2) [1,2] [] rfl
theorem _5N{a b c:Nat}:a<b+1->b+1<=8->c<a->c<=7:=_0 [a,b,c] [.lt v0 (.a v1 (.n 1)),.le (.a v1 (.n 1)) (.n 8),.lt v2 v0] (.le v2 (.n 7)) [1,2,2,2] [] rfl
theorem _5O{a b c:Nat}:a<b+1->c<a->c<b:=_0 [a,b,c] [.lt v0 (.a v1 (.n 1)),.lt v2 v0] (.lt v2 v1) [1,2,2] [] rfl
theorem _ea{a:Nat}:a+1<=8->a<=8:=_0 [a] [.le (.a v0 (.n 1)) (.n 8)] (.le v0 (.n 8)) [1,2] [] rfl
theorem _5P{a b:Nat}:a<=7->b<a->b<=7:=_0 [a,b] [.le v0 (.n 7),.lt v1 v0] (.le v1 (.n 7)) [1,2,2] [] rfl
theorem _5Q{a b:Nat}:a<=7->b<a->b<7:=_0 [a,b] [.le v0 (.n 7),.lt v1 v0] (.lt v1 (.n 7)) [1,2,2] [] rfl
theorem _eb{a b:Nat}:a+15<b->a+(7+8)<b:=_0 [a,b] [.lt (.a v0 (.n 15)) v1] (.lt (.a v0 (.a (.n 7) (.n 8))) v1) [1,2] [] rfl
theorem _ec{a b:Nat}:a+16<b->a+15<b:=_0 [a,b] [.lt (.a v0 (.n 16)) v1] (.lt (.a v0 (.n 15)) v1) [1,2] [] rfl
theorem _ed{a b:Nat}:a-b=0->b<a->False:=_1 [a,b,(a-b)] [.sub v0 v1 v2,.eq v2 (.n 0),.lt v1 v0] (.no) (.n (.l [1,2,0,2,0] []) (.l [1,2,2,0,3] [])) rfl rfl
theorem _ee{a b:Nat}:a-b=0->a<=b:=_1 [a,b,(a-b)] [.sub v0 v1 v2,.eq v2 (.n 0)] (.le v0 v1) (.n (.l [1,0,2,0] []) (.l [1,2,0,3] [])) rfl rfl
theorem _ef{a:Nat}:2<=a->0<a:=_0 [a] [.le (.n 2) v0] (.lt (.n 0) v0) [1,2] [] rfl
theorem _eg{a b c d:Nat}:a<=b+2->(b+(16*c))+200<d->a+16<d:=_0 [a,b,c,d] [.le v0 (.a v1 (.n 2)),.lt (.a (.a v1 (.m 16 v2)) (.n 200)) v3] (.lt (.a v0 (.n 16)) v3) [1,2,2] [] rfl
theorem _eh{a b c d:Nat}:a<=b+2->(b+(16*c))+200<d->a<d:=_0 [a,b,c,d] [.le v0 (.a v1 (.n 2)),.lt (.a (.a v1 (.m 16 v2)) (.n 200)) v3] (.lt v0 v3) [1,2,2] [] rfl
theorem _ei{a b c d:Nat}:a<=b+2->(b+(16*c))+200<d->(a+20)+1<d:=_0 [a,b,c,d] [.le v0 (.a v1 (.n 2)),.lt (.a (.a v1 (.m 16 v2)) (.n 200)) v3] (.lt (.a (.a v0 (.n 20)) (.n 1)) v3) [1,2,2] [] rfl
theorem _ej{a b:Nat}:a+20<b->a+(8+8)<b:=_0 [a,b] [.lt (.a v0 (.n 20)) v1] (.lt (.a v0 (.a (.n 8) (.n 8))) v1) [1,2] [] rfl
theorem _ek{a:Nat}:((a:Nat):Int)=(0:Int)->a=0:=_1 [a] [.ieq v0 (.n 0)] (.eq v0 (.n 0)) (.l [1,2] [1,0]) rfl
theorem _5R{a:Nat}:a<70->a<=100000:=_0 [a] [.lt v0 (.n 70)] (.le v0 (.n 100000)) [1,2] [] rfl
theorem _3k{a:Nat}:a<=1000->a<=100000:=_0 [a] [.le v0 (.n 1000)] (.le v0 (.n 100000)) [1,2] [] rfl
theorem _el{a b:Nat}:((a:Nat):Int)<((b:Nat):Int)->a<b:=_1 [a,b] [.ilt v0 v1] (.lt v0 v1) (.l [1,2] []) rfl
theorem _5S{a:Nat}:1<=a->((a:Nat):Int)≠(0:Int):=_1 [a] [.le (.n 1) v0,.ieq v0 (.n 0)] (.no) (.l [1,2,2] []) rfl
theorem _em{a:Nat}:(2:Int)+((a:Nat):Int)=((2+a:Nat):Int):=_1 [a] [] (.ieq (.a (.n 2) v0) (.a (.n 2) v0)) (.l [1] [1]) rfl
theorem _en{a:Nat}:a<5->2+a<=100000:=_0 [a] [.lt v0 (.n 5)] (.le (.a (.n 2) v0) (.n 100000)) [1,2] [] rfl
theorem _eo{a b c d:Nat}:a<=100->b<5->c<2+b->d<=(a+1)+(3*c)->d<=9000:=_0 [a,b,c,d] [.le v0 (.n 100),.lt v1 (.n 5),.lt v2 (.a (.n 2) v1),.le v3 (.a (.a v0 (.n 1)) (.m 3 v2))] (.le v3 (.n 9000)) [1,2,6,6,2] [] rfl
theorem _ep{a b c:Nat}:a<5->b<2+a->c<=b+2->c<=100000:=_0 [a,b,c] [.lt v0 (.n 5),.lt v1 (.a (.n 2) v0),.le v2 (.a v1 (.n 2))] (.le v2 (.n 100000)) [1,2,2,2] [] rfl
theorem _eq{a b c d:Nat}:a<=100->b<5->c<2+b->d<=(a+1)+(3*c)->d+1<=9000:=_0 [a,b,c,d] [.le v0 (.n 100),.lt v1 (.n 5),.lt v2 (.a (.n 2) v1),.le v3 (.a (.a v0 (.n 1)) (.m 3 v2))] (.le (.a v3 (.n 1)) (.n 9000)) [1,2,6,6,2] [] rfl
theorem _er{a b c d:Nat}:a<=100->b<5->c<2+b->d<=(a+1)+(3*c)->(d+1)+1<=9000:=_0 [a,b,c,d] [.le v0 (.n 100),.lt v1 (.n 5),.lt v2 (.a (.n 2) v1),.le v3 (.a (.a v0 (.n 1)) (.m 3 v2))] (.le (.a (.a v3 (.n 1)) (.n 1)) (.n 9000)) [1,2,6,6,2] [] rfl
theorem _5T{a b c:Nat}:a<=(b+1)+(3*c)->((a+1)+1)+1<=(b+1)+(3*(c+1)):=_0 [a,b,c] [.le v0 (.a (.a v1 (.n 1)) (.m 3 v2))] (.le (.a (.a (.a v0 (.n 1)) (.n 1)) (.n 1)) (.a (.a v1 (.n 1)) (.m 3 (.a v2 (.n 1))))) [1,2] [] rfl
theorem _es{a:Nat}:a<5->2+a<=6:=_0 [a] [.lt v0 (.n 5)] (.le (.a (.n 2) v0) (.n 6)) [1,2] [] rfl
theorem _et{a b c:Nat}:a<5->b<=(c+1)+(3*(2+a))->b<=c+19:=_0 [a,b,c] [.lt v0 (.n 5),.le v1 (.a (.a v2 (.n 1)) (.m 3 (.a (.n 2) v0)))] (.le v1 (.a v2 (.n 19))) [1,6,2] [] rfl
theorem _eu{a:Nat}:a<=2->a+1<=100000:=_0 [a] [.le v0 (.n 2)] (.le (.a v0 (.n 1)) (.n 100000)) [1,2] [] rfl
theorem _0n{a:Nat}:a<=8->a<=100000:=_0 [a] [.le v0 (.n 8)] (.le v0 (.n 100000)) [1,2] [] rfl
theorem _ev{b c d:Nat}:d<min c b->d<c:=_1 [b,c,d,(min c b)] [.mn v1 v0 v3,.lt v2 v3] (.lt v2 v1) (.n (.l [1,2,0,2] []) (.l [1,2,2,2] [])) rfl rfl
theorem _ew{a b c d e f:Nat}:a<=8->b<a->c<b->d<=e->f<=c->e<=8*8->d+f<=100000:=_0 [a,b,c,d,e,f] [.le v0 (.n 8),.lt v1 v0,.lt v2 v1,.le v3 v4,.le v5 v2,.le v4 (.m 8 (.n 8))] (.le (.a v3 v5) (.n 100000)) [1,2,2,2,2,2,2] [] (by kernel_rfl)
theorem _ex{a b:Nat}:a<b->min a b=a:=_1 [a,b,(min a b)] [.mn v0 v1 v2,.lt v0 v1] (.eq v2 v0) (.n (.l [1,0,0,2] [1,0,0,3]) (.l [1,2,4,2] [1,4,2,3])) rfl rfl
theorem _5U{a b:Nat}:a=b->a<=b:=_0 [a,b] [.eq v0 v1] (.le v0 v1) [1,2] [] rfl
theorem _ey{a:Nat}:a<=8->a<=64:=_0 [a] [.le v0 (.n 8)] (.le v0 (.n 64)) [1,2] [] rfl
theorem _ez{a b:Nat}:a+b<=64->a<=100000:=_0 [a,b] [.le (.a v0 v1) (.n 64)] (.le v0 (.n 100000)) [1,2] [] rfl
theorem _eA{a:Nat}:a<=8->a<=1000:=_0 [a] [.le v0 (.n 8)] (.le v0 (.n 1000)) [1,2] [] rfl
theorem _eB{a:Nat}:a<=12->a<=100000:=_0 [a] [.le v0 (.n 12)] (.le v0 (.n 100000)) [1,2] [] rfl
theorem _eC{a b:Nat}:a<=a+(2*(b-b)):=_1 [a,(b-b)] [] (.le v0 (.a v0 (.m 2 v1))) (.l [1] []) rfl
theorem _eD{a b c:Nat}:a<=12->c<=2*(a-b)->c<=24:=_1 [a,b,c,(a-b)] [.sub v0 v1 v3,.le v0 (.n 12),.le v2 (.m 2 v3)] (.le v2 (.n 24)) (.n (.l [1,2,0,0,4] []) (.l [1,2,4,0,4] [])) rfl rfl
theorem _eE{a b c d:Nat}:a<=12->c<=d+(2*(a-b))->c<=d+24:=_1 [a,b,c,d,(a-b)] [.sub v0 v1 v4,.le v0 (.n 12),.le v2 (.a v3 (.m 2 v4))] (.le v2 (.a v3 (.n 24))) (.n (.l [1,2,0,0,4] []) (.l [1,2,4,0,4] [])) (by kernel_rfl) rfl
theorem _5V{a b c:Nat}:a<=12->b=c->c<=a->b<=100000:=_0 [a,b,c] [.le v0 (.n 12),.eq v1 v2,.le v2 v0] (.le v1 (.n 100000)) [1,2,2,2] [] rfl
theorem _eF{a b d e:Nat}:a<=1000->b<=12->e<=a+(2*(b-d))->e<=9000:=_1 [a,b,d,e,(b-d)] [.sub v1 v2 v4,.le v0 (.n 1000),.le v1 (.n 12),.le v3 (.a v0 (.m 2 v4))] (.le v3 (.n 9000)) (.n (.l [1,2,0,2,0,4] []) (.l [1,2,4,2,0,4] [])) (by kernel_rfl) rfl
theorem _eG:∀{a b c d:Nat},a<=(12:Nat)->b=c->c<=a->(1:Nat)<=b->d<b->(-100000:Int)<=(↑d:Int)/\(↑d:Int)<=(100000:Int):=λh1 h2 h3 _ h5=>⟨ge (by decide) (ft _),gW.mpr (eV (fq h5 (ay (cm h2) (ay h3 (ay h1 (by decide))))))⟩
theorem _eH{a c d:Nat}:a<=12->d<=2*(a-c)->d<=100000:=_1 [a,c,d,(a-c)] [.sub v0 v1 v3,.le v0 (.n 12),.le v2 (.m 2 v3)] (.le v2 (.n 100000)) (.n (.l [1,2,0,0,4] []) (.l [1,2,4,0,4] [])) (by kernel_rfl) rfl
theorem _eI{a b d e:Nat}:a<=1000->b<=12->e<=a+(2*(b-d))->e+1<=9000:=_1 [a,b,d,e,(b-d)] [.sub v1 v2 v4,.le v0 (.n 1000),.le v1 (.n 12),.le v3 (.a v0 (.m 2 v4))] (.le (.a v3 (.n 1)) (.n 9000)) (.n (.l [1,2,0,2,0,4] []) (.l [1,2,4,2,0,4] [])) (by kernel_rfl) rfl
theorem _eJ{a c d:Nat}:a<=12->d<=2*(a-c)->d<=99999:=_1 [a,c,d,(a-c)] [.sub v0 v1 v3,.le v0 (.n 12),.le v2 (.m 2 v3)] (.le v2 (.n 99999)) (.n (.l [1,2,0,0,4] []) (.l [1,2,4,0,4] [])) (by kernel_rfl) rfl
theorem _eK{a b:Nat}:a=b->1<=a->b-1<b:=_1 [a,b,(b-1)] [.sub v1 (.n 1) v2,.eq v0 v1,.le (.n 1) v0] (.lt v2 v1) (.n (.l [1,2,2,0,2] []) (.l [1,0,0,0,2] [])) rfl rfl
theorem _eL{b c:Nat}:b<=c->b-1<=c:=_1 [b,c,(b-1)] [.sub v0 (.n 1) v2,.le v0 v1] (.le v2 v1) (.n (.l [1,0,0,2] []) (.l [1,2,0,2] [])) rfl rfl
theorem _eM{a b c d e:Nat}:a=b->b<=c->d<=e+(2*(c-b))->1<=a->(d+1)+1<=e+(2*(c-(b-1))):=_1 [a,b,c,d,e,(c-b),(b-1),(c-(b-1))] [.sub v2 v1 v5,.sub v1 (.n 1) (.v 6),.sub v2 (.v 6) (.v 7),.eq v0 v1,.le v1 v2,.le v3 (.a v4 (.m 2 v5)),.le (.n 1) v0] (.le (.a (.a v3 (.n 1)) (.n 1)) (.a v4 (.m 2 (.v 7)))) (.n (.n (.n (.l [1,4,2,4,4,4,0,0,4,0,4] []) (.l [1,4,2,4,4,0,5,0,4,0,4] [])) (.n (.l [1,0,2,4,0,4,0,0,4,0,4] []) (.l [1,0,2,4,0,0,5,0,4,0,4] []))) (.n (.n (.l [1,6,2,2,6,6,0,0,6,0,4] []) (.l [1,4,2,0,4,0,5,0,4,0,4] [])) (.n (.l [1,0,2,2,0,6,0,0,6,0,4] []) (.l [1,0,2,0,0,0,5,0,4,0,4] [])))) (by kernel_rfl) rfl rfl rfl
theorem _eN{a b c d:Nat}:a=b->b<=c->d<=2*(c-b)->1<=a->(d+1)+1<=2*(c-(b-1)):=_1 [a,b,c,d,(c-b),(b-1),(c-(b-1))] [.sub v2 v1 v4,.sub v1 (.n 1) v5,.sub v2 v5 (.v 6),.eq v0 v1,.le v1 v2,.le v3 (.m 2 v4),.le (.n 1) v0] (.le (.a (.a v3 (.n 1)) (.n 1)) (.m 2 (.v 6))) (.n (.n (.n (.l [1,4,2,4,4,4,0,0,4,0,4] []) (.l [1,4,2,4,4,0,5,0,4,0,4] [])) (.n (.l [1,0,2,4,0,4,0,0,4,0,4] []) (.l [1,0,2,4,0,0,5,0,4,0,4] []))) (.n (.n (.l [1,6,2,2,6,6,0,0,6,0,4] []) (.l [1,4,2,0,4,0,5,0,4,0,4] [])) (.n (.l [1,0,2,2,0,6,0,0,6,0,4] []) (.l [1,0,2,0,0,0,5,0,4,0,4] [])))) (by kernel_rfl) rfl rfl rfl
theorem _eO{a b:Nat}:7+a<=b->1<=b:=_0 [a,b] [.le (.a (.n 7) v0) v1] (.le (.n 1) v1) [1,2] [] rfl
theorem _eP{a b c:Nat}:7+a<=b->c<a->(7+c)+1<=b:=_0 [a,b,c] [.le (.a (.n 7) v0) v1,.lt v2 v0] (.le (.a (.a (.n 7) v2) (.n 1)) v1) [1,2,2] [] rfl
theorem _eQ{a b:Nat}:a-b<1->a-b=0:=_1 [(a-b)] [.lt v0 (.n 1)] (.eq v0 (.n 0)) (.l [1,2] [1,0]) rfl
theorem _eR{a b c:Nat}:a=b->c>=a->c-a=0->c=b:=_1 [a,b,c,(c-a)] [.sub v2 v0 v3,.eq v0 v1,.le v0 v2,.eq v3 (.n 0)] (.eq v2 v1) (.n (.l [1,0,0,2,2,0] [1,0,2,3,0,0]) (.l [1,2,0,2,0,3] [1,0,2,3,0,0])) (by kernel_rfl) rfl
theorem _eS{a b:Nat}:a<=2->b=a->b<=100000:=_0 [a,b] [.le v0 (.n 2),.eq v1 v0] (.le v1 (.n 100000)) [1,2,2] [] rfl
theorem _eT{a b:Nat}:7+a<=b->6+1<=b:=_0 [a,b] [.le (.a (.n 7) v0) v1] (.le (.a (.n 6) (.n 1)) v1) [1,2] [] rfl
theorem _eU{a b:Nat}:a<=2->b=a->b<=2:=_0 [a,b] [.le v0 (.n 2),.eq v1 v0] (.le v1 (.n 2)) [1,2,2] [] rfl
theorem _eV{a:Nat}:a<=8->a+1<=200:=_0 [a] [.le v0 (.n 8)] (.le (.a v0 (.n 1)) (.n 200)) [1,2] [] rfl
theorem _eW{a b:Nat}:a<b+1->¬a<b->a=b:=_0 [a,b] [.lt v0 (.a v1 (.n 1)),.nlt v0 v1] (.eq v0 v1) [1,2,0] [1,0,2] rfl
theorem _eX{a:Nat}:15<=a->1<=a:=_0 [a] [.le (.n 15) v0] (.le (.n 1) v0) [1,2] [] rfl
theorem _eY{a:Nat}:14<=a->2<=a:=_0 [a] [.le (.n 14) v0] (.le (.n 2) v0) [1,2] [] rfl
theorem _3l{a b:Nat}:14<=a->b<=7->7+b<=a:=_0 [a,b] [.le (.n 14) v0,.le v1 (.n 7)] (.le (.a (.n 7) v1) v0) [1,2,2] [] rfl
theorem _eZ{a:Nat}:14<=a->4<=a:=_0 [a] [.le (.n 14) v0] (.le (.n 4) v0) [1,2] [] rfl
theorem _f0{a b c:Nat}:a<=100->b<=c->c<a->b+1<=2000:=_0 [a,b,c] [.le v0 (.n 100),.le v1 v2,.lt v2 v0] (.le (.a v1 (.n 1)) (.n 2000)) [1,2,2,2] [] rfl
theorem _5W{a b:Nat}:a<=b->a+1<=b+1:=_0 [a,b] [.le v0 v1] (.le (.a v0 (.n 1)) (.a v1 (.n 1))) [1,2] [] rfl
theorem _5X{a:Nat}:14<=a->5<=a:=_0 [a] [.le (.n 14) v0] (.le (.n 5) v0) [1,2] [] rfl
theorem _f1{a b:Nat}:¬a<b->a<=b->b=a:=_0 [a,b] [.nlt v0 v1,.le v0 v1] (.eq v1 v0) [1,2,0] [1,0,2] rfl
theorem _f2{a b c:Nat}:c<b->a<c->a<min c b:=_1 [a,b,c,(min c b)] [.mn v2 v1 v3,.lt v2 v1,.lt v0 v2] (.lt v0 v3) (.n (.l [1,2,0,0,3] []) (.l [1,2,4,2,3] [])) rfl rfl
theorem _f3{a b c:Nat}:a<=8->c<=b->b<=a->c<=100000:=_1 [a,b,c] [.le v0 (.n 8),.le v2 v1,.le v1 v0] (.le v2 (.n 100000)) (.l [1,2,2,2] []) (by kernel_rfl)
theorem _f4{a b c:Nat}:a<=8->b<=a->c+1<=b->c<=100000:=_1 [a,b,c] [.le v0 (.n 8),.le v1 v0,.le (.a v2 (.n 1)) v1] (.le v2 (.n 100000)) (.l [1,2,2,2] []) (by kernel_rfl)
theorem _5Y{a:Nat}:a<=10->a<=100:=_0 [a] [.le v0 (.n 10)] (.le v0 (.n 100)) [1,2] [] rfl
theorem _f5{a b c d:Nat}:(2*(a-b))+(c+1)=d->(2*(a-b))+c<d:=_1 [(a-b),c,d] [.eq (.a (.m 2 v0) (.a v1 (.n 1))) v2] (.lt (.a (.m 2 v0) v1) v2) (.l [1,2] []) rfl
theorem _f6{b c:Nat}:c+1<=b->c<=b:=_1 [b,c] [.le (.a v1 (.n 1)) v0] (.le v1 v0) (.l [1,2] []) rfl
theorem _f7{a b c d:Nat}:(2*(a-b))+c<d->b+1<=a->(2*(a-(b+1)))+(c+1)<d:=_1 [a,b,(a-b),c,d,(a-(b+1))] [.sub v0 v1 v2,.sub v0 (.a v1 (.n 1)) v5,.lt (.a (.m 2 v2) v3) v4,.le (.a v1 (.n 1)) v0] (.lt (.a (.m 2 v5) (.a v3 (.n 1))) v4) (.n (.n (.l [1,2,2,0,4,2,0] []) (.l [1,2,2,0,4,6,0] [])) (.n (.l [1,4,2,0,4,0,5] []) (.l [1,0,2,0,4,0,5] []))) (by kernel_rfl) rfl rfl
theorem _f8:∀{a b c d:Nat},(2:Nat)*(a-b)+c=d->¬(0:Int)<(↑c:Int)->c=(0:Nat):=by intros;lia
theorem _5Z{a b:Nat}:a<=8->b<=a->b<64:=_0 [a,b] [.le v0 (.n 8),.le v1 v0] (.lt v1 (.n 64)) [1,2,2] [] rfl
theorem _f9{a b c:Nat}:a<=8->b<=a->min c b<=100000:=_1 [a,b,c,(min c b)] [.mn v2 v1 v3,.le v0 (.n 8),.le v1 v0] (.le v3 (.n 100000)) (.n (.l [1,2,2,2,2] []) (.l [1,2,2,0,2] [])) (by kernel_rfl) rfl
theorem _fa{a:Nat}:a<64->a<=100000:=_0 [a] [.lt v0 (.n 64)] (.le v0 (.n 100000)) [1,2] [] rfl
theorem _fb{a b:Nat}:a<64->b<=a->b<64:=_0 [a,b] [.lt v0 (.n 64),.le v1 v0] (.lt v1 (.n 64)) [1,2,2] [] rfl
theorem _fc{a b:Nat}:a<64->b=a->b<64:=_0 [a,b] [.lt v0 (.n 64),.eq v1 v0] (.lt v1 (.n 64)) [1,2,2] [] rfl
theorem _fd{a:Nat}:a<=63->a<=100000:=_0 [a] [.le v0 (.n 63)] (.le v0 (.n 100000)) [1,2] [] rfl
theorem _fe{a:Nat}:a<=60->a<=100000:=_0 [a] [.le v0 (.n 60)] (.le v0 (.n 100000)) [1,2] [] rfl
theorem _ff{a:Nat}:a<=60->a<=1000:=_0 [a] [.le v0 (.n 60)] (.le v0 (.n 1000)) [1,2] [] rfl
theorem _fg{a:Nat}:a<=0+19->a<=9000:=_0 [a] [.le v0 (.a (.n 0) (.n 19))] (.le v0 (.n 9000)) [1,2] [] rfl
theorem _fh{a:Nat}:(1:Int)+((a:Nat):Int)=((1+a:Nat):Int):=_1 [a] [] (.ieq (.a (.n 1) v0) (.a (.n 1) v0)) (.l [1] [1]) rfl
theorem _fi{a:Nat}:a<3->1+a<=100000:=_0 [a] [.lt v0 (.n 3)] (.le (.a (.n 1) v0) (.n 100000)) [1,2] [] rfl
theorem _fj{a b c d:Nat}:a<=0+19->b<3->c<1+b->d<=(a+1)+(2*c)->d<=9000:=_0 [a,b,c,d] [.le v0 (.a (.n 0) (.n 19)),.lt v1 (.n 3),.lt v2 (.a (.n 1) v1),.le v3 (.a (.a v0 (.n 1)) (.m 2 v2))] (.le v3 (.n 9000)) [1,2,4,4,2] [] rfl
theorem _fk{a b c d:Nat}:a<=0+19->b<3->c<1+b->d<=(a+1)+(2*c)->d+1<=9000:=_0 [a,b,c,d] [.le v0 (.a (.n 0) (.n 19)),.lt v1 (.n 3),.lt v2 (.a (.n 1) v1),.le v3 (.a (.a v0 (.n 1)) (.m 2 v2))] (.le (.a v3 (.n 1)) (.n 9000)) [1,2,4,4,2] [] rfl
theorem _fl{a b c:Nat}:a<3->b<1+a->c=b->c<=100000:=_0 [a,b,c] [.lt v0 (.n 3),.lt v1 (.a (.n 1) v0),.eq v2 v1] (.le v2 (.n 100000)) [1,2,2,2] [] rfl
theorem _fm{a b c:Nat}:a<=(b+1)+(2*c)->(a+1)+1<=(b+1)+(2*(c+1)):=_0 [a,b,c] [.le v0 (.a (.a v1 (.n 1)) (.m 2 v2))] (.le (.a (.a v0 (.n 1)) (.n 1)) (.a (.a v1 (.n 1)) (.m 2 (.a v2 (.n 1))))) [1,2] [] rfl
theorem _fn{a b:Nat}:a<3->b=1+a->b<=3:=_0 [a,b] [.lt v0 (.n 3),.eq v1 (.a (.n 1) v0)] (.le v1 (.n 3)) [1,2,2] [] rfl
theorem _fo{a:Nat}:0=1+a->False:=_0 [a] [.eq (.n 0) (.a (.n 1) v0)] (.no) [1,3] [] rfl
theorem _fp{a b:Nat}:a<3->b=1+a->b<=100000:=_0 [a,b] [.lt v0 (.n 3),.eq v1 (.a (.n 1) v0)] (.le v1 (.n 100000)) [1,2,2] [] rfl
theorem _fq{a b:Nat}:a<3->b=1+a->b<=8:=_0 [a,b] [.lt v0 (.n 3),.eq v1 (.a (.n 1) v0)] (.le v1 (.n 8)) [1,2,2] [] rfl
theorem _fr{a b:Nat}:a<=8->b=a->b<4000:=_0 [a,b] [.le v0 (.n 8),.eq v1 v0] (.lt v1 (.n 4000)) [1,2,2] [] rfl
theorem _fs{a b c:Nat}:a<=8->b=a->c<=b->c<=8:=_0 [a,b,c] [.le v0 (.n 8),.eq v1 v0,.le v2 v1] (.le v2 (.n 8)) [1,2,2,2] [] rfl
theorem _60{a:Nat}:a<=8->a<=100:=_0 [a] [.le v0 (.n 8)] (.le v0 (.n 100)) [1,2] [] rfl
theorem _3m{a b:Nat}:a<=8->b=a->b<64:=_0 [a,b] [.le v0 (.n 8),.eq v1 v0] (.lt v1 (.n 64)) [1,2,2] [] rfl
theorem _ft{a b c:Nat}:a<=8->b=a->c=b->c<=8:=_0 [a,b,c] [.le v0 (.n 8),.eq v1 v0,.eq v2 v1] (.le v2 (.n 8)) [1,2,2,2] [] rfl
theorem _fu{a:Nat}:a<=8->a<70:=_0 [a] [.le v0 (.n 8)] (.lt v0 (.n 70)) [1,2] [] rfl
theorem _fv{a:Nat}:a<=3->a<=100000:=_0 [a] [.le v0 (.n 3)] (.le v0 (.n 100000)) [1,2] [] rfl
theorem _fw{a b:Nat}:a<=8->b<=3->a+b<=100000:=_0 [a,b] [.le v0 (.n 8),.le v1 (.n 3)] (.le (.a v0 v1) (.n 100000)) [1,2,2] [] rfl
theorem _fx{a b:Nat}:a<=8->b<=3->b+a<=100000:=_0 [a,b] [.le v0 (.n 8),.le v1 (.n 3)] (.le (.a v1 v0) (.n 100000)) [1,2,2] [] rfl
theorem _fy{a b:Nat}:a<=8->b<=3->b+a<=100:=_0 [a,b] [.le v0 (.n 8),.le v1 (.n 3)] (.le (.a v1 v0) (.n 100)) [1,2,2] [] rfl
theorem _fz{a b:Nat}:a<=8->b<=3->a+b<=12:=_0 [a,b] [.le v0 (.n 8),.le v1 (.n 3)] (.le (.a v0 v1) (.n 12)) [1,2,2] [] rfl
theorem _fA{a b c:Nat}:a<=0+19->b<3->c<=(a+1)+(2*(1+b))->c<=1000:=_0 [a,b,c] [.le v0 (.a (.n 0) (.n 19)),.lt v1 (.n 3),.le v2 (.a (.a v0 (.n 1)) (.m 2 (.a (.n 1) v1)))] (.le v2 (.n 1000)) [1,2,4,2] [] rfl
theorem _3n{a b:Nat}:a<=8->b=a->b<=8:=_0 [a,b] [.le v0 (.n 8),.eq v1 v0] (.le v1 (.n 8)) [1,2,2] [] rfl
theorem _fB{a:Nat}:a<=8->a<64:=_0 [a] [.le v0 (.n 8)] (.lt v0 (.n 64)) [1,2] [] rfl
theorem _fC{a b:Nat}:a<=8->b=a->b<70:=_0 [a,b] [.le v0 (.n 8),.eq v1 v0] (.lt v1 (.n 70)) [1,2,2] [] rfl
theorem _fD{a b c:Nat}:a<=8->b+c=a->b<=100000:=_0 [a,b,c] [.le v0 (.n 8),.eq (.a v1 v2) v0] (.le v1 (.n 100000)) [1,2,2] [] rfl
theorem _fE{a b:Nat}:a<=8->b=a->b<=100000:=_0 [a,b] [.le v0 (.n 8),.eq v1 v0] (.le v1 (.n 100000)) [1,2,2] [] rfl
theorem _fF:∀{a b c d e f i j:Nat},a=b->c=b->d=b->e=f->i+f=b->j=f->(↑i:Int)=(↑b:Int)-(↑j:Int):=by intros;lia
theorem _fG{a b c:Nat}:a<=200->(b+(3*200))+20<c->(b+(3*a))+20<c:=_0 [a,b,c] [.le v0 (.n 200),.lt (.a (.a v1 (.m 3 (.n 200))) (.n 20)) v2] (.lt (.a (.a v1 (.m 3 v0)) (.n 20)) v2) [1,6,2] [] rfl
theorem _fH{a b c:Nat}:a<=200->(b+(16*200))+200<c->(b+(16*a))+200<c:=_0 [a,b,c] [.le v0 (.n 200),.lt (.a (.a v1 (.m 16 (.n 200))) (.n 200)) v2] (.lt (.a (.a v1 (.m 16 v0)) (.n 200)) v2) [1,32,2] [] rfl
set_option genInjectivity true in
inductive AV where
 | none | bool (b:Bool) | int (i:Int) | str (s:String) | tup (l:List AV) | ref (a:ao) | raw (v:ae) | slice (l h st:AV) | range (lo hi:Int)
noncomputable def si(h:a_)(a:ao)(items:Array ae):Prop:=∃n,h.get? a=some {cls:=.type "tuple", dict:=none,data:=.seq items n,slots:=#[]}
theorem si.tup{h:a_}{a:ao}{items:Array ae}:si h a items->IsTup h a items
 | ⟨n,e⟩=>⟨_,e,rfl,n,rfl⟩
mutual
noncomputable def RV(h:a_):ae->AV->Prop
 | v,.none=>v = .none
 | v,.bool b=>v = .bool b
 | v,.int i=>∃t,v = .int i t
 | v,.str x=>∃t,v = .str (ab x) t
 | v,.tup l=>∃a items,v = .ref a/\si h a items/\RVs h items.toList l
 | v,.ref a=>v = .ref a
 | v,.raw u=>v=u
 | v,.slice l u st=>∃a lv hv sv,v = .ref a/\h.get? a=some {cls:=.type "slice", data:=.fields #[lv,hv,sv]} /\ RV h lv l/\RV h hv u/\RV h sv st
 | v,.range lo hi=>∃a t u w,v = .ref a/\h.get? a=some {cls:=.type "range", data:=.fields #[.int lo t,.int hi u,.int 1 w]}
termination_by structural _ a=>a
noncomputable def RVs(h:a_):List ae->List AV->Prop
 | vs,[]=>vs=[]
 | vs,a::l=>∃v r,vs=v::r/\RV h v a/\RVs h r l
termination_by structural _ l=>l
end
section
variable{h:a_}
theorem RV.none:RV h .none .none:=rfl
theorem RV.bool(b:Bool):RV h (.bool b) (.bool b):=rfl
theorem RV.int(i:Int)(t:Tok):RV h (.int i t) (.int i):=⟨t,rfl⟩
theorem RV.str(x:String)(y:Str)(t:Tok)(e:y=ab x):RV h (.str y t) (.str x):=⟨t,by rw[e]⟩
theorem RV.tup(a:ao)(items:Array ae)(l:List AV)(t:si h a items)(r:RVs h items.toList l):RV h (.ref a) (.tup l):=⟨a,items,rfl,t,r⟩
theorem RV.ref(a:ao):RV h (.ref a) (.ref a):=rfl
theorem RV.raw(v:ae):RV h v (.raw v):=rfl
theorem RV.slice(a:ao)(lv hv sv:ae)(l u st:AV)(e:h.get? a=some {cls:=.type "slice", data:=.fields #[lv,hv,sv]})(x:RV h lv l)(y:RV h hv u)(z:RV h sv st):RV h (.ref a) (.slice l u st):=⟨a,lv,hv,sv,rfl,e,x,y,z⟩
theorem RV.range(a:ao)(lo hi:Int)(t u v:Tok)(e:h.get? a=some {cls:=.type "range", data:=.fields #[.int lo t,.int hi u,.int 1 v]}):RV h (.ref a) (.range lo hi):=⟨a,t,u,v,rfl,e⟩
theorem RVs.nil:RVs h [] []:=rfl
theorem RVs.cons{v:ae}{a:AV}{vs:List ae}{l:List AV}(x:RV h v a)(r:RVs h vs l):RVs h (v::vs) (a::l):=⟨v,vs,rfl,x,r⟩
end
noncomputable def dY(o:iF):Prop:=(o.cls = .type "tuple" /\ ∃items n,o.data = .seq items n)\/((o.cls = .type "slice" \/ o.cls = .type "range")/\∃vs,o.data = .fields vs)
noncomputable def de(h h':a_):Prop:=∀a o,h.get? a=some o->dY o->h'.get? a=some o
theorem de.tup{h h':a_}(g:de h h'){a:ao}{items:Array ae}:si h a items->si h' a items
 | ⟨n,e⟩=>⟨n,g a _ e (.inl ⟨rfl,items,n,rfl⟩)⟩
theorem de.refl(h:a_):de h h:=λ_ _ x _=>x
theorem de.trans{h₁ uB rb:a_}(x:de h₁ uB)(y:de uB rb):de h₁ rb:=λa i t l=>y a i (x a i t l) l
mutual
theorem RV.grow'{h h':a_}(g:de h h'):∀(a:AV) {v:ae},RV h v a->RV h' v a
 | .none,_,x=>x
 | .bool _,_,x=>x
 | .int _,_,x=>x
 | .str _,_,x=>x
 | .ref _,_,x=>x
 | .raw _,_,x=>x
 | .tup l,_,x=>by
  obtain⟨a,items,e,t,r⟩:=x
  exact⟨a,items,e,g.tup t,RVs.grow' g l r⟩
 | .slice l u st,_,x=>by
  obtain⟨a,lv,hv,sv,e,q,x,y,z⟩:=x
  exact⟨a,lv,hv,sv,e,g _ _ q (.inr ⟨.inl rfl,_,rfl⟩),RV.grow' g l x,RV.grow' g u y,RV.grow' g st z⟩
 | .range _ _,_,x=>by
  obtain⟨a,t,u,w,e,q⟩:=x
  exact⟨a,t,u,w,e,g _ _ q (.inr ⟨.inr rfl,_,rfl⟩)⟩
theorem RVs.grow'{h h':a_}(g:de h h'):∀(l:List AV) {vs:List ae},RVs h vs l->RVs h' vs l
 | [],_,x=>x
 | a::l,_,x=>by
  obtain⟨v,r,e,x,y⟩:=x
  exact⟨v,r,e,RV.grow' g a x,RVs.grow' g l y⟩
end
theorem RV.grow{h h':a_}(g:de h h'){v:ae}{a:AV}(x:RV h v a):RV h' v a:=RV.grow' g a x
theorem RVs.grow{h h':a_}(g:de h h'){vs:List ae}{l:List AV}(x:RVs h vs l):RVs h' vs l:=RVs.grow' g l x
noncomputable def ORV(h:a_):Option ae->Option AV->Prop
 | .none,.none=>True
 | some v,some a=>RV h v a
 | _,_=>False
theorem ORV.grow{h h':a_}(g:de h h'):∀{v:Option ae} {a:Option AV},ORV h v a->ORV h' v a
 | .none,.none,_=>trivial
 | some _,some _,x=>RV.grow g x
theorem RVs.length{h:a_}:∀{l:List AV} {vs:List ae},RVs h vs l->vs.length=l.length
 | [],_,e=>congrArg fV e
 | _::l,_,x=>by
  obtain⟨_,_,rfl,_,r⟩:=x
  exact congrArg Nat.succ (RVs.length r)
theorem RVs.get{h:a_}:∀{l:List AV} {vs:List ae},RVs h vs l->∀(i:Nat),ORV h (vs[i]?) (l[i]?)
 | [],_,e,i=>by rw[show _=[] from e];exact trivial
 | _::_,_,x,i=>by
  obtain⟨_,_,rfl,x,r⟩:=x
  cases i with
  | zero=>exact x
  | succ i=>exact r.get i
theorem RVs.append{h:a_}{xn:List ae}{l':List AV}:∀{l:List AV} {vs:List ae},RVs h vs l->RVs h xn l'->RVs h (vs++xn) (l++l')
 | [],_,e,y=>by rw[show _=[] from e];exact y
 | _::_,_,x,y=>by
  obtain⟨_,_,rfl,x,r⟩:=x
  exact .cons x (r.append y)
theorem RVs.set{h:a_}:∀{l:List AV} {vs:List ae},RVs h vs l->∀(i:Nat) {v:ae} {a:AV},RV h v a->RVs h (vs.set i v) (l.set i a)
 | [],_,e,i,_,_,y=>by rw[show _=[] from e];exact RVs.nil
 | _::_,_,x,i,_,_,y=>by
  obtain⟨_,_,rfl,x,r⟩:=x
  cases i with
  | zero=>exact .cons y r
  | succ i=>exact .cons x (r.set i y)
theorem RVs.take{h:a_}:∀{l:List AV} {vs:List ae},RVs h vs l->∀(i:Nat),RVs h (vs.take i) (l.take i)
 | [],_,e,i=>by rw[show _=[] from e,List.take_nil,List.take_nil];exact RVs.nil
 | _::_,_,x,i=>by
  obtain⟨_,_,rfl,x,r⟩:=x
  cases i with
  | zero=>exact RVs.nil
  | succ i=>exact .cons x (r.take i)
theorem RVs.drop{h:a_}:∀{l:List AV} {vs:List ae},RVs h vs l->∀(i:Nat),RVs h (vs.drop i) (l.drop i)
 | [],_,e,i=>by rw[show _=[] from e,qj,qj];exact RVs.nil
 | _::_,_,x,i=>by
  obtain⟨_,_,rfl,y,r⟩:=id x
  cases i with
  | zero=>exact x
  | succ i=>exact r.drop i
theorem RVs.reverse{h:a_}:∀{l:List AV} {vs:List ae},RVs h vs l->RVs h vs.reverse l.reverse
 | [],_,e=>by rw[show _=[] from e];exact RVs.nil
 | _::_,_,x=>by
  obtain⟨_,_,rfl,x,r⟩:=x
  rw[nv,nv];exact r.reverse.append (.cons x .nil)
noncomputable def Ris(xs:Array Nat):Prop:=xs.toList.Pairwise (· < ·)
noncomputable def iK:ae->Int
 | .int k _=>k
 | _=>0
structure qp(prog:bS)(w:cy)(l:List Int)(o:iF)(es:Array (Int×ae))(ep:Nat)(t:SetTable):Prop where
 ex:o.ExactSet
 dat:o.data = .set es ep t
 el:pf (intKind prog w) es.toList
 eq:es.toList.map (λe=>iK e.2)=l
 nd:l.Nodup
 few:l.length<fj
 fit:t.fits es.size=true
 ris:Ris t.place
 led:w.params.followText "set-order" = false->t.led=true
noncomputable def kl(prog:bS)(w:cy)(h:a_)(a:ao)(l:List Int):Prop:=∃o es ep t,h.get? a=some o/\qp prog w l o es ep t
inductive cG where
 | list (l:List AV)
 | dictI (es:List (Int×AV))
 | dictT (es:List (List AV×AV))
 | dictE (ep:Nat) (es:List (List AV×AV))
 | exact(o:iF)
 | setI (l:List Int)
 | setT (l:List (List AV))
 | inst (C d:ao)
 | ns (f:List (String×AV))
inductive km(h:a_):List iT->List (String×AV)->Prop
 | nil:km h [] []
 | cons {hs:Int} {t:Tok} {x:String} {v:ae} {av:AV} {es:List iT} {f:List (String×AV)}:RV h v av->km h es f->km h (⟨hs,.str (ab x) t,v⟩::es) ((x,av)::f)
theorem km.grow{h h':a_}(g:de h h'){es f}(x:km h es f):km h' es f:=by
 induction x with
 | nil=>exact .nil
 | cons r _ ih=>exact .cons (r.grow g) ih
noncomputable def ux(h:a_)(o:iF)(f:List (String×AV)):Prop:=
 ∃es n,o = {cls:=.type "dict", data:=.dict (es:List iT).toArray n} /\ km h es f/\f.length<=100
variable(prog:bS)(w:cy)
noncomputable def RVk{K:Type}(h:a_)(eI:List (K×ae))(es:List (K×AV)):Prop:=eI.map (·.1)=es.map (·.1)/\RVs h (eI.map (·.2)) (es.map (·.2))
theorem _s{x y:String}(h:ab x=ab y):x=y:=by
 rw[dH,dH] at h
 have h1:x.toList.map Char.toNat=y.toList.map Char.toNat:=congrArg (λz:Str=>z.cps.toList) h
 have h2:x.toList=y.toList:=by
  refine List.map_inj_right (λa b e=>?_) |>.mp h1
  exact Char.toNat_inj.mp e
 exact String.toList_inj.mp h2
open Sem (wp)
noncomputable def iZ:Nat->AV->Bool
 | _,.int _=>true
 | _,.str _=>true
 | n+1,.tup l=>l.all (iZ n)
 | _,_=>false
noncomputable def j8:Nat->AV->Nat
 | n+1,.tup l=>(l.map (j8 n)).sum+1
 | _,_=>1
noncomputable def dw(w:cy):Nat->AV->Int
 | _,.int i=>hashInt i
 | _,.str x=>hashStr w (ab x)
 | n+1,.tup l=>reduceHash (cP (l.map (dw w n)))
 | _,_=>0
noncomputable def j6:Nat->AV->oK
 | _,.int i=>.int i
 | _,.str x=>.str (ab x)
 | n+1,.tup l=>.tuple (l.map (j6 n))
 | _,_=>.none
noncomputable def d_(k:List AV):Prop:=∀a∈k,iZ 7 a=true
theorem d_.nil:d_ []:=λ_ h=>nomatch h
theorem d_.cons{a:AV}{l:List AV}(h:iZ 7 a=true)(k:d_ l):d_ (a::l):=λb hb=>by
 rcases aO.mp hb with rfl | hb
 ·exact h
 ·exact k b hb
theorem d_.tup{l:List AV}(h:d_ l):iZ 8 (.tup l)=true:=b_.mpr h
theorem _W{P:Nat->AV->Prop}(h1:∀n i,P n (.int i))(h2:∀n x,P n (.str x))(h3:∀n l,(∀a∈l,iZ n a=true)->(∀a∈l,P n a)->P (n+1) (.tup l)):∀(n:Nat) (a:AV),iZ n a=true->P n a:=by
 intro n
 induction n with
 | zero=>intro a h;cases a <;> first | exact h1 _ _ | exact h2 _ _ | exact absurd h aR
 | succ n ih=>
  intro a h
  cases a <;> first | exact h1 _ _ | exact h2 _ _ | exact absurd h aR | skip
  exact h3 n _ (b_.mp h) λa ha=>ih a (b_.mp h a ha)
theorem _61:∀l:List oK,kqdPs l=l.map kqdP
 | []=>rfl
 | d::l=>congrArg (kqdP d :: ·) (_61 l)
theorem _0H(x:String):vN (ab x)=true:=by
 rw[dH]
 unfold vN
 rw[<-Array.all_toList,b_]
 intro n hn
 obtain⟨c,_,rfl⟩:=aq.mp hn
 have h:=c.valid
 refine decide_eq_true ?_
 show c.val.toNat<_
 rcases h with h | h
 ·exact cN h (by decide)
 ·exact h.2
theorem _62{h:a_}{f:AV->PyData}:∀{l:List AV} {vs:List ae},RVs h vs l->(∀a∈l,∀v,RV h v a->∃as,Reads h v (f a) as)->∃as,ReadsAll h vs (l.map f) as
 | [],_,e,_=>by rw[show _=[] from e];exact⟨_,.nil⟩
 | a::l,_,x,k=>by
  obtain⟨v,r,rfl,x,y⟩:=x
  exact(k a aE v x).elim λas ha=>(_62 y λb hb=>k b (aA _ hb)).elim λbs hb=>⟨_,.cons ha hb⟩
theorem _23(n:Nat)(i:Int):j6 n (.int i) = .int i:=by cases n <;> rfl
theorem _24(n:Nat)(x:String):j6 n (.str x) = .str (ab x):=by cases n <;> rfl
theorem _25{h:a_}:∀(n:Nat) (a:AV),iZ n a=true->∀v,RV h v a->∃as,Reads h v (kqdP (j6 n a)) as:=
 _W (λn i v x=>by rw[_23];exact x.elim λt e=>e ▸ ⟨_,.int _ _⟩) (λn x v y=>by rw[_24];exact y.elim λt e=>e ▸ ⟨_,.str _ _⟩) λn l _ ih v x=>by
  obtain⟨a,items,rfl,t,r⟩:=x
  obtain⟨m,ho⟩:=t
  have e2:kqdPs (l.map (j6 n))=l.map λa=>kqdP (j6 n a):=by rw[_61,bf];rfl
  exact(_62 (f:=λa=>kqdP (j6 n a)) r ih).elim λas ha=>⟨_,.tuple ho rfl rfl (e2 ▸ ha)⟩
theorem _X:∀(n:Nat) (a:AV),iZ n a=true->kqdOk n (j6 n a)=true:=
 _W (λn i=>by cases n <;> rfl) (λn x=>by cases n <;> exact _0H x) λn l _ ih=>by
  show(l.map (j6 n)).all (kqdOk n)=true
  rw[List.all_map,b_];exact ih
theorem _fI{α β:Type}{f:α->β}{l:List α}:∀{m:List α},(∀a∈l,∀b∈m,f a=f b->a=b)->l.map f=m.map f->l=m:=by
 induction l with
 | nil=>exact λ_ h=>(lT.mp h.symm).symm
 | cons a l ih=>
  intro m k h
  cases m with
  | nil=>exact nomatch h
  | cons b m=>
   rw[k a aE b aE (aL h).1,ih (λx hx y hy=>k x (aA _ hx) y (aA _ hy)) (aL h).2]
theorem _fJ:∀(n:Nat) (a:AV),iZ n a=true->∀b,iZ n b=true->j6 n a=j6 n b->a=b:=
 _W (λn i b hb e=>_W (P:=λn b=>Dat.int i=j6 n b -> .int i=b) (λn j e=>congrArg AV.int (Dat.int.inj (e.trans (_23 n j)))) (λn x e=>nomatch e.trans (_24 n x)) (λn l _ _ e=>nomatch e) n b hb ((_23 n i).symm.trans e))
  (λn x b hb e=>_W (P:=λn b=>Dat.str (ab x)=j6 n b -> .str x=b) (λn j e=>nomatch e.trans (_23 n j)) (λn y e=>congrArg AV.str (_s (fN (e.trans (_24 n y))))) (λn l _ _ e=>nomatch e) n b hb ((_24 n x).symm.trans e))
  λn l hl ih b hb e=>by
   cases b with
   | tup m=>exact congrArg AV.tup (_fI (λa ha b' hb'=>ih a ha b' (b_.mp hb b' hb')) (e_ e))
   | int j=>exact nomatch e
   | str y=>exact nomatch e
   | _=>exact nomatch hb
theorem _63{n:Nat}{a b:AV}(ha:iZ n a=true)(hb:iZ n b=true):sb (kqdP (j6 n a)) (kqdP (j6 n b))=true ↔ a=b:=
 ⟨λh=>_fJ n a ha b hb ((kqd_eqv n _ _ n (_X n a ha) (_X n b hb)).mp h),λh=>(kqd_eqv n _ _ n (_X n a ha) (_X n b hb)).mpr (by rw[h])⟩
theorem RV.inj{h:a_}{n:Nat}{a b:AV}{v:ae}(ha:iZ n a=true)(hb:iZ n b=true)(x:RV h v a)(y:RV h v b):a=b:=by
 obtain⟨as,r⟩:=_25 n a ha v x
 obtain⟨bs,q⟩:=_25 n b hb v y
 have e1:=t_ (kqd_lay n _ (_X n a ha)).1 r
 have e2:=t_ (kqd_lay n _ (_X n b hb)).1 q
 refine(_63 ha hb).mp ?_
 rw[<-e1.symm.trans e2]
 exact SeqAt.eqv_refl _ (kqd_lay n _ (_X n a ha)).1
section
variable{prog:bS}{w:cy}
theorem _64{n:Nat}{A:bB}{E:ae->ah->Prop}{f:ae->Array Int->me (ForInStep (Array Int))}(hf:∀v b,f v b=(pyHash v >>= λx=>pure (.yield (b.push x)))){h:a_}(hu:A.units+n<cLine):
  ∀{l:List AV} {vs:List ae},(∀a∈l,∀{v:ae} {A:bB} {E:ae->ah->Prop} {s:ah} {Q:Int->ah->Prop},RV s.heap v a->A.units+n<cLine->Q (dw w n a) {s with toks:=s.toks+j8 n a} -> wpAny (model prog w) A (pyHash v) Q E s) ->
   RVs h vs l->∀(b:Array Int) (s:ah) (Q:Array Int->ah->Prop),s.heap=h->(∀b',b'.toList=b.toList++l.map (dw w n)->Q b' {s with toks:=s.toks+(l.map (j8 n)).sum})->wpAny (model prog w) A (forIn vs b f) Q E s
 | [],_,_,r,b,s,Q,_,q=>by
  rw[show _=[] from r]
  exact ad (q b (bh _).symm)
 | a::l,_,ih,r,b,s,Q,hs,q=>by
  obtain⟨v,vs,rfl,x,r⟩:=r
  rw[kB,hf]
  refine aa (aa (ih a aE (hs ▸ x) hu (ad ?_)))
  refine _64 hf hu (λc hc=>ih c (aA _ hc)) r (b.push (dw w n a)) {s with toks:=s.toks+j8 n a} Q hs λb' e=>?_
  rw[eO,aZ] at e
  have:=q b' e
  rw[aJ,im,<-mf] at this
  exact this
theorem _65:∀(n:Nat) (a:AV),iZ n a=true->∀{v:ae} {A:bB} {E:ae->ah->Prop} {s:ah} {Q:Int->ah->Prop},RV s.heap v a->A.units+n<cLine->Q (dw w n a) {s with toks:=s.toks+j8 n a} ->
  wpAny (model prog w) A (pyHash v) Q E s:=by
 refine _W (λn i v A E s Q x _ h=>?_) (λn y v A E s Q x _ h=>?_) λn l hl ih v A E s Q x hu h=>?_
 ·exact x.elim λt e=>by rw[e];cases n <;> exact wpAny_pyHash_int h
 ·exact x.elim λt e=>by rw[e];cases n <;> exact wpAny_pyHash_str h
 obtain⟨a,items,rfl,t,r⟩:=x
 obtain⟨o,ho,hc,_,hd⟩:=t.tup
 have hT:s.TypeIs (.ref a) "tuple" :=⟨o,ho,hc⟩
 have hu0:A.units<cLine:=by exact _a3 hu
 have hu1:A.units+1+n<cLine:=by exact _a4 hu
 unfold pyHash pyHashByItsType
 refine aa (wpAny_cRoomFor_or (.inr hu0) (aa (fR hT F.slot_tuple_hash.lookup ?_)))
 rw[if_neg (by rw[show((some (Value.builtin "tuple.__hash__") == some Value.none)=false) from beq_builtin_none ..];exact aR)]
 refine aa (fR hT F.slot_tuple_hash.lookup (aa (m:=callSpecialIfBoundUnlessNone? (.ref a) "__hash__" _) (wpAny_callSpecialIfBoundUnlessNone?_slot hT vQ (b4 vQ hT F.entry_tuple_hash ?_ (F.args_tuple_hash_1 _)))))
 refine aa (m:=Builtin.Tuple.tupleItemsOf (.ref a)) (oz ho hd (aa ?_))
 rw[<-i9]
 refine _64 (A:=A.in1) (n:=n) (λ_ _=>rfl) hu1 ih r #[] s _ rfl λb e=>?_
 show wpAny _ _ (retInt (cP b.toList)) _ _ _
 rw[show b.toList=l.map (dw w n) from e]
 refine wpAny_ret_mkInt ?_
 have h':Q (reduceHash (cP (l.map (dw w n)))) {s with toks:=s.toks+((l.map (j8 n)).sum+1)}:=h
 unfold reduceHash at h'
 rw[<-mf] at h'
 show wpAny _ _ (if(decide (-(2:Int) ^ 63<=cP (l.map (dw w n)))&&decide (cP (l.map (dw w n))<2 ^ 63))=true then _ else _) Q E _
 by_cases hr:(decide (-(2:Int) ^ 63<=cP (l.map (dw w n)))&&decide (cP (l.map (dw w n)) < 2 ^ 63))=true
 ·rw[if_pos hr] at h' ⊢
  exact ad h'
 ·rw[if_neg hr] at h' ⊢
  exact aa (gn (ad h'))
theorem _66{n:Nat}{A:bB}{E:ae->ah->Prop}{f:ae->(Option Bool×Unit)->me (ForInStep ((Option Bool×Unit)))}(hf:∀v (s:ah) R,wpAny (model prog w) A (sO n v) (λb s'=>b=true/\R (.yield (none,())) s') E s->wpAny (model prog w) A (f v (none,())) R E s):
  ∀{l:List AV} {vs:List ae} {s:ah},(∀a∈l,∀{v:ae} {A:bB} {E:ae->ah->Prop} {s:ah} {Q:Bool->ah->Prop},RV s.heap v a->Q true s->wpAny (model prog w) A (sO n v) Q E s) ->
   RVs s.heap vs l->∀(Q:(Option Bool×Unit)->ah->Prop),Q (none,()) s->wpAny (model prog w) A (forIn vs (none,()) f) Q E s
 | [],_,_,_,r,Q,q=>by
  rw[show _=[] from r]
  exact ad q
 | a::l,_,s,ih,r,Q,q=>by
  obtain⟨v,vs,rfl,x,r⟩:=r
  rw[kB]
  exact aa (hf v s _ (ih a aE x ⟨rfl,_66 hf (λc hc=>ih c (aA _ hc)) r Q q⟩))
theorem _3o:∀(n:Nat) (a:AV),iZ n a=true->∀{v:ae} {A:bB} {E:ae->ah->Prop} {s:ah} {Q:Bool->ah->Prop},RV s.heap v a->Q true s->wpAny (model prog w) A (sO n v) Q E s:=by
 refine _W (λn i v A E s Q x h=>?_) (λn y v A E s Q x h=>?_) λn l hl ih v A E s Q x h=>?_
 ·exact x.elim λt e=>by rw[e,eqIsQuiet_byValue n rfl];exact ad h
 ·exact x.elim λt e=>by rw[e,eqIsQuiet_byValue n rfl];exact ad h
 obtain⟨a,items,rfl,t,r⟩:=x
 obtain⟨o,ho,hc,m,hd⟩:=t.tup
 have hT:s.TypeIs (.ref a) "tuple" :=⟨o,ho,hc⟩
 unfold sO
 refine aa (fR hT F.slot_tuple_eq.lookup (aa (m:=rG (.ref a) (.type "tuple")) (iN hT t8 ?_)))
 rw[if_neg (by decide)]
 refine aa (mM ho hd (aa ?_))
 show wpAny _ _ (forIn items _ _) _ _ s
 rw[<-i9]
 refine _66 (n:=n) (λv s R h=>?_) ih r _ ?_
 rotate_left
 ·exact ad h
 refine aa (cx h (λb s' q=>?_) λ_ _ e=>e)
 rw[q.1]
 exact ad q.2
noncomputable def ja(h:a_)(l:List AV)(a:ao):Prop:=RV h (.ref a) (.tup l)/\d_ l
theorem _1a{h h':a_}{d:ao}{o:iF}{es ep}(ho:h.get? d=some o)(hd:o.data = .dict es ep)(hs:bu d h h'):de h h':=by
 intro a o' ho' hl
 have gK:a≠d:=by
  rintro rfl
  obtain rfl:o'=o:=aB (ho'.symm.trans ho)
  rcases hl with⟨_,_,_,q⟩ | ⟨_,_,q⟩ <;> (rw[hd] at q;exact nomatch q)
 exact(hs.2 a gK).trans ho'
open Classical in
noncomputable def dT(prog:bS)(w:cy):u9 prog w (List AV) where
 is:=ja
 hash:=λl=>dw w 8 (.tup l)
 draws:=λl=>j8 8 (.tup l)
 room:=λA=>A.units+8<cLine
 inj:=λhx hy=>by have:=RV.inj hx.2.tup hy.2.tup hx.1 hy.1;injection this
 keeps:=λx ho hd hs=>⟨x.1.grow (_1a ho hd hs),x.2⟩
 pyHash:=λ{A E s k a Q} hu hk h=>_65 8 _ hk.2.tup hk.1 hu h
 eqBool:=λ{A E s x y a b Q} hu hx hy h=>by
  obtain⟨as,ha⟩:=_25 8 _ hx.2.tup _ hx.1
  obtain⟨bs,hb⟩:=_25 8 _ hy.2.tup _ hy.1
  have ka:=kqd_lay 8 _ (_X 8 _ hx.2.tup)
  have kb:=kqd_lay 8 _ (_X 8 _ hy.2.tup)
  refine SeqAt.eqBoolOverData prog w A E s _ _ _ _ _ _ Q ha hb ka.1 kb.1 (by have:=ka.2;(first | lia | omega)) ?_
  have e:=_63 hx.2.tup hy.2.tup
  rw[AV.tup.injEq] at e
  have e2:sb (kqdP (j6 8 (.tup x))) (kqdP (j6 8 (.tup y)))=decide (x=y):=by
   by_cases q:x=y
   ·rw[decide_eq_true q];exact e.mpr q
   ·rw[decide_eq_false q];exact Bool.eq_false_iff.mpr λh=>q (e.mp h)
  rw[e2];exact h
 quiet:=λ{A E s k a Q} hk h=>_3o 8 _ hk.2.tup hk.1 h
end
open SetTable
noncomputable def jp(mask:Nat)(p:Probe):Probe:=
 if p.more>0 then{p with j:=p.j+1,more:=p.more-1} else
 {p with j:=(leap mask p.i p.perturb).1,more:=runEnd mask (leap mask p.i p.perturb).1-(leap mask p.i p.perturb).1,i:=(leap mask p.i p.perturb).1,perturb:=(leap mask p.i p.perturb).2}
noncomputable def lF(mask i perturb:Nat):Probe:={j:=i,more:=runEnd mask i-i,i,perturb,dummy:=none}
noncomputable def b5(mask:Nat)(h:Int):Nat->Probe
 | 0=>lF mask (bits h % (mask+1)) (bits h)
 | k+1=>jp mask (b5 mask h k)
noncomputable def fY(mask:Nat):Prop:=mask=7\/mask=31\/mask=127
noncomputable def nC(mask:Nat)(place:Array Nat)(h:Int)(k:Nat):Prop:=∀m,m<k->∃i:Nat,place[i]? = some (b5 mask h m).j
structure kR(t:SetTable)(hs:List Int):Prop where
 mask:fY t.mask
 ris:Ris t.place
 dum:t.dummies = #[]
 len:t.place.size=hs.length
 le:∀(i j:Nat),t.place[i]? = some j->j<=t.mask
 lt:t.place.size<=t.mask
 reach:∀(i j:Nat) h,t.place[i]? = some j->hs[i]? = some h->∃k,(b5 t.mask h k).j=j/\nC t.mask t.place h k
noncomputable def gm(w:cy)(h:a_)(es:List (Int×ae))(l:List (List AV)):Prop:=
 es.length=l.length/\∀(i:Nat) k,l[i]? = some k->∃b,es[i]? = some (dw w 8 (.tup k),.ref b)/\ja h k b
structure rZ(prog:bS)(w:cy)(h:a_)(l:List (List AV))(o:iF)(es:Array (Int×ae))(ep:Nat)(t:SetTable):Prop where
 ex:o.ExactSet
 dat:o.data = .set es ep t
 tab:kR t (es.toList.map (·.1))
 el:gm w h es.toList l
 nd:l.Nodup
 led:w.params.followText "set-order" = false->t.led=true
 few:l.length<70
 room:t.place.size*5<t.mask*3
noncomputable def nB(prog:bS)(w:cy)(h:a_)(a:ao)(l:List (List AV)):Prop:=∃o es ep t,h.get? a=some o/\rZ prog w h l o es ep t
theorem gm.grow{w:cy}{h h':a_}{es:List (Int×ae)}{l:List (List AV)}(e:gm w h es l)(g:de h h'):gm w h' es l:=⟨e.1,λi k hi=>(e.2 i k hi).elim λb q=>⟨b,q.1,q.2.1.grow g,q.2.2⟩⟩
theorem rZ.grow{prog:bS}{w:cy}{h h':a_}{l:List (List AV)}{o:iF}{es:Array (Int×ae)}{ep:Nat}{t:SetTable}(x:rZ prog w h l o es ep t)(g:de h h'):rZ prog w h' l o es ep t:=⟨x.ex,x.dat,x.tab,x.el.grow g,x.nd,x.led,x.few,x.room⟩
section
variable(prog:bS)(w:cy)
open Classical in
noncomputable def jG(h:a_)(a:ao)(ep:Nat)(xs:List (List AV×ao×ae)):Prop:=
 ∃o es,h.get? a=some o/\o.ExactDict/\o.data = .dict es ep/\es.toList=xs.map (oE (dT prog w))/\(∀x∈xs,(dT prog w).is h x.1 x.2.1)/\(xs.map (·.1)).Nodup
noncomputable def pP(o:iF):Prop:=¬dY o/\∀v,o.data ≠ .cell v
noncomputable def i_(d:ao):iF:={cls:=.type "dict_values", data:=.fields #[.ref d]}
open Classical in
noncomputable def Holds(h:a_)(a:ao):cG->Prop
 | .list l=>∃its n,h.get? a=some (listOf its n)/\RVs h its.toList l
 | .dictI es=>∃eI,h.DictOf (intKind prog w) a eI/\RVk h eI es
 | .dictT es=>∃xs:List (List AV×ao×ae),h.DictOfH (dT prog w) a xs/\xs.map (·.1)=es.map (·.1)/\RVs h (xs.map (·.2.2)) (es.map (·.2))
 | .dictE ep es=>∃xs,jG prog w h a ep xs/\xs.map (·.1)=es.map (·.1)/\RVs h (xs.map (·.2.2)) (es.map (·.2))
 | .exact o=>h.get? a=some o/\pP o
 | .setI l=>kl prog w h a l
 | .setT l=>nB prog w h a l
 | .inst C d=>h.get? a=some (instObj C d)
 | .ns f=>∃o,h.get? a=some o/\ux h o f
end
theorem RVk.grow{K:Type}{h h':a_}(g:de h h'){eI:List (K×ae)}{es:List (K×AV)}(x:RVk h eI es):RVk h' eI es:=⟨x.1,x.2.grow g⟩
theorem ux.grow{h h':a_}(g:de h h'){o:iF}{f:List (String×AV)}(x:ux h o f):ux h' o f:=by
 obtain⟨es,n,e,e1,e2⟩:=x
 exact⟨es,n,e,e1.grow g,e2⟩
theorem _67{o:iF}(h1:∀items n,o.data ≠ .seq items n)(h2:∀vs,o.data ≠ .fields vs):¬dY o:=λl=>l.elim (λx=>x.2.elim λi x=>x.elim λn e=>h1 i n e) λx=>x.2.elim λvs e=>h2 vs e
theorem _26{o:iF}{es ep}(d:o.data = .dict es ep):pP o:=⟨_67 (λ_ _ e=>nomatch d.symm.trans e) (λ_ e=>nomatch d.symm.trans e),λ_ e=>nomatch d.symm.trans e⟩
theorem _3p{o:iF}{es ep t}(d:o.data = .set es ep t):pP o:=⟨_67 (λ_ _ e=>nomatch d.symm.trans e) (λ_ e=>nomatch d.symm.trans e),λ_ e=>nomatch d.symm.trans e⟩
theorem _fK{its n}:pP (listOf its n):=⟨λl=>l.elim (λx=>absurd (fB x.1) (by decide)) λx=>x.1.elim (λx=>absurd (fB x) (by decide)) λx=>absurd (fB x) (by decide),λ_ e=>nomatch (show Data.seq _ _=Data.cell _ from e)⟩
theorem _fL{d}:pP (i_ d):=⟨λl=>l.elim (λx=>absurd (fB x.1) (by decide)) λx=>x.1.elim (λx=>absurd (fB x) (by decide)) λx=>absurd (fB x) (by decide),λ_ e=>nomatch (show Data.fields _=Data.cell _ from e)⟩
theorem _fM{C d}:pP (instObj C d):=⟨λl=>l.elim (λx=>nomatch (show Value.ref _=Value.type _ from x.1)) λx=>x.1.elim (λx=>nomatch (show Value.ref _=Value.type _ from x)) (λx=>nomatch (show Value.ref _=Value.type _ from x)),λ_ e=>nomatch (show _=Data.cell _ from e)⟩
section
variable{prog:bS}{w:cy}
theorem _fN{K:Type}[DecidableEq K]{knd:KeyKind prog w K}{h:a_}{a:ao}{eI:List (K×ae)}{R:Prop}(x:h.DictOf knd a eI)(k:∀o,h.get? a=some o->pP o->(∀h':a_,h'.get? a=some o->h'.DictOf knd a eI)->R):R:=by
 obtain⟨o,es,ep,e,c,d,r⟩:=x
 exact k o e (_26 d) λh' e'=>⟨o,es,ep,e',c,d,r⟩
theorem Holds.on{h:a_}{a:ao}{c:cG}{R:Prop}(x:Holds prog w h a c)(k:∀o,h.get? a=some o->pP o->(∀h':a_,de h h'->h'.get? a=some o->Holds prog w h' a c)->R):R:=by
 cases c with
 | list l=>
  obtain⟨its,n,e,r⟩:=x
  exact k _ e _fK λh' g e'=>⟨its,n,e',r.grow g⟩
 | dictI _=>exact x.elim λeI x=>_fN x.1 λo e n q=>k o e n λh' g e'=>⟨eI,q h' e',x.2.grow g⟩
 | dictT _=>
  obtain⟨xs,⟨o,es,ep,e,c,d,l,i,n⟩,k1,k2⟩:=x
  exact k o e (_26 d) λh' g e'=>⟨xs,⟨o,es,ep,e',c,d,l,λx hx=>⟨(i x hx).1.grow g,(i x hx).2⟩,n⟩,k1,k2.grow g⟩
 | dictE _ _=>
  obtain⟨xs,⟨o,es,e,c,d,l,i,n⟩,k1,k2⟩:=x
  exact k o e (_26 d) λh' g e'=>⟨xs,⟨o,es,e',c,d,l,λx hx=>⟨(i x hx).1.grow g,(i x hx).2⟩,n⟩,k1,k2.grow g⟩
 | exact o=>exact k _ x.1 x.2 λh' g e'=>⟨e',x.2⟩
 | setI _=>
  obtain⟨o,es,ep,t,e,B⟩:=x
  exact k o e (_3p B.dat) λh' g e'=>⟨o,es,ep,t,e',B⟩
 | setT _=>
  obtain⟨o,es,ep,t,e,B⟩:=x
  exact k o e (_3p B.dat) λh' g e'=>⟨o,es,ep,t,e',B.grow g⟩
 | inst C d=>exact k _ x _fM λh' g e'=>e'
 | ns f=>
  obtain⟨o,e,n⟩:=x
  exact k o e (by obtain⟨es,m,q,_⟩:=n;exact _26 (congrArg Obj.data q)) λh' g e'=>⟨o,e',n.grow g⟩
theorem Holds.get{h:a_}{a:ao}{c:cG}(x:Holds prog w h a c):∃o,h.get? a=some o:=x.on λo e _ _=>⟨o,e⟩
theorem Holds.move{h h':a_}{a:ao}(g:de h h')(e:∀o,h.get? a=some o->h'.get? a=some o){c:cG}(x:Holds prog w h a c):Holds prog w h' a c:=x.on λo q _ m=>m h' g (e o q)
theorem Holds.firm{h:a_}{a:ao}{o:iF}(ho:h.get? a=some o){c:cG}(x:Holds prog w h a c):pP o:=x.on λo' q n _=>aB (q.symm.trans ho) ▸ n
theorem Holds.notLasting{h:a_}{a:ao}{o:iF}(ho:h.get? a=some o){c:cG}(x:Holds prog w h a c):¬dY o:=(x.firm ho).1
end
noncomputable abbrev af:=ao->Option cG
noncomputable abbrev Fzn:=ao->iF->Prop
noncomputable def af.set(σ:af)(a:ao)(c:cG):af:=λb=>if b=a then some c else σ b
theorem af.set_self(σ:af)(a:ao)(c:cG):σ.set a c a=some c:=by simp[af.set]
theorem af.set_ne(σ:af){a b:ao}(c:cG)(h:b≠a):σ.set a c b=σ b:=by simp[af.set,h]
structure St(prog:bS)(w:cy)(Fz:Fzn)(σ:af)(h:a_):Prop where
 fz:∀b o,Fz b o->h.get? b=some o
 cell:∀a c,σ a=some c->Holds prog w h a c
 apart:∀a c o,σ a=some c->¬Fz a o
section
variable{prog:bS}{w:cy}{Fz:Fzn}{σ:af}{h h':a_}
theorem St.more(S:St prog w Fz σ h)(g:de h h')(k:∀b o,h.get? b=some o->h'.get? b=some o):St prog w Fz σ h':=
 ⟨λb o x=>k b o (S.fz b o x),λa c e=>(S.cell a c e).move g (k a),S.apart⟩
theorem _f(k:∀b o,h.get? b=some o->h'.get? b=some o):de h h':=λ_ _ ho _=>k _ _ ho
theorem _p(h:a_)(o:iF):∀b o',h.get? b=some o'->(h.push o).get? b=some o':=λ_ _ e=>aG o e
theorem St.push(S:St prog w Fz σ h)(o:iF):St prog w Fz σ (h.push o):=S.more (_f (_p h o)) (_p h o)
theorem af.set_on{a b:ao}{c d:cG}{R:Prop}(e:σ.set a c b=some d)(h1:b=a->c=d->R)(h2:b≠a->σ b=some d->R):R:=by
 by_cases q:b=a
 ·exact h1 q (aB ((if_pos q).symm.trans e))
 ·exact h2 q ((if_neg q).symm.trans e)
theorem St.write(S:St prog w Fz σ h){a:ao}{c c':cG}(hc:σ a=some c)(hs:bu a h h')(hn:Holds prog w h' a c'):St prog w Fz (σ.set a c') h'/\de h h':=
 have g:de h h':=λb o ho hl=>(hs.2 b λe=>(S.cell b c (e ▸ hc)).notLasting ho hl).trans ho
 ⟨⟨λb o x=>(hs.2 b λe=>S.apart b c o (e ▸ hc) x).trans (S.fz b o x),
  λb d e=>af.set_on e (λq q2=>q ▸ q2 ▸ hn) λq e=>(S.cell b d e).move g λo ho=>(hs.2 b q).trans ho,
  λb d o e=>af.set_on e (λq _=>q ▸ S.apart a c o hc) λ_ e=>S.apart b d o e⟩,g⟩
theorem St.new(S:St prog w Fz σ h){a:ao}{c:cG}(ha:∀o,h.get? a≠some o)(k:∀b o,h.get? b=some o->h'.get? b=some o)(hn:Holds prog w h' a c):St prog w Fz (σ.set a c) h'/\de h h'/\σ a=none:=
 ⟨⟨λb o x=>k b o (S.fz b o x),λb d e=>af.set_on e (λq q2=>q ▸ q2 ▸ hn) λ_ e=>(S.cell b d e).move (_f k) (k b),
  λb d o e=>af.set_on e (λq _ f=>ha o (q ▸ S.fz b o f)) λ_ e=>S.apart b d o e⟩,_f k,by
  cases e:σ a with
  | none=>rfl
  | some d=>exact(S.cell a d e).get.elim λo ho=>absurd ho (ha o)⟩
theorem _a(h:a_):∀o,h.get? h.objs.size≠some o:=λ_ e=>db _ (bM e)
theorem St.less(S:St prog w Fz σ h){aX:af}(k:∀a c,aX a=some c->σ a=some c):St prog w Fz aX h:=
 ⟨S.fz,λa c e=>S.cell a c (k a c e),λa c o e=>S.apart a c o (k a c e)⟩
end
noncomputable abbrev Loc:=List (String×AV)
noncomputable def Loc.put:Loc->String->AV->Loc
 | [],x,v=>[(x,v)]
 | (y,u)::r,x,v=>if y=x then(y,v)::r else(y,u)::Loc.put r x v
theorem Loc.put_cons{y x:String}{u v:AV}{r:Loc}:Loc.put ((y,u)::r) x v=if y=x then(y,v)::r else(y,u)::Loc.put r x v:=rfl
theorem Loc.lookup_put:∀(m:Loc) (x:String) (v:AV) (y:String),(m.put x v).lookup y=if y=x then some v else m.lookup y
 | [],x,v,y=>by
  rw[show Loc.put [] x v=[(x,v)] from rfl,bx]
  by_cases h:y=x
  ·rw[if_pos h,h,beq_self_eq_true]
  ·rw[if_neg h,beq_false_of_ne h]
 | (z,u)::r,x,v,y=>by
  rw[Loc.put_cons]
  by_cases h:z=x
  ·rw[if_pos h,bx,bx,h]
   by_cases h':y=x
   ·rw[if_pos h',h',beq_self_eq_true]
   ·rw[if_neg h',beq_false_of_ne h']
  ·rw[if_neg h,bx,bx,Loc.lookup_put r x v y]
   by_cases h':y=z
   ·rw[h',beq_self_eq_true];exact(if_neg h).symm
   ·rw[beq_false_of_ne h']
structure Fm(W:Str->Prop)(env:oU)(m:Loc)(Fz:Fzn)(σ:af)(h:a_):Prop where
 fn:env.scope.kind = .function
 gl:env.globals=bK
 bl:env.builtins=builtinsNs
 ns:∃mL,h.Ns env.locals mL/\∀x av,m.lookup x=some av->env.kindOf x=some .local->∃v,mL x=some v/\RV h v av
 cs:∀(x:Str) c,env.cells.lookup x=some c->∃v,h.IsCell c v
 cv:∀x av,m.lookup x=some av->env.kindOf x=some .cell\/env.kindOf x=some .free->∃c v,env.cells.lookup (ab x)=some c/\h.IsCell c (some v)/\RV h v av
 nfz:∀o,¬Fz env.locals o
 nσ:σ env.locals=none
 cw:∀(x:Str) c,W x->env.cells.lookup x=some c->(∀o,¬Fz c o)/\∀y,env.cells.lookup y=some c->y=x
 hc:∀x,env.kindOf x=some .cell\/env.kindOf x=some .free->∃c,env.cells.lookup x=some c
theorem _3q{h:a_}{a:ao}{mL:Str->Option ae}{R:Prop}(x:h.Ns a mL)(k:∀o es ep,h.get? a=some o->o.data = .dict es ep->R):R:=by
 obtain⟨o,es,ep,e,d,_⟩:=x
 exact k o es ep e d
theorem _68{h h':a_}{a:ao}{mL:Str->Option ae}(x:h.Ns a mL)(k:∀o,h.get? a=some o->h'.get? a=some o):h'.Ns a mL:=by
 obtain⟨o,es,ep,e,d⟩:=x
 exact⟨o,es,ep,k o e,d⟩
section
variable{prog:bS}{w:cy}{Fz:Fzn}{σ aX:af}{h h':a_}{W:Str->Prop}{env:oU}{m:Loc}
theorem Holds.notCell{a:ao}{v:Option ae}{c:cG}(x:Holds prog w h a c)(q:h.IsCell a v):False:=q.elim λo q=>(x.firm q.1).2 v q.2
noncomputable def Frz(env:oU)(Fz:Fzn)(h:a_):Fzn:=λa o=>Fz a o\/(h.get? a=some o/\(a=env.locals\/∃x:Str,env.cells.lookup x=some a))
theorem St.freeze(S:St prog w Fz σ h)(F:Fm W env m Fz σ h):St prog w (Frz env Fz h) σ h:=
 ⟨λb o x=>x.elim (S.fz b o) λx=>x.1,S.cell,λa c o e x=>x.elim (S.apart a c o e) λx=>x.2.elim (λq=>by rw[q,F.nσ] at e;cases e) λq=>q.elim λy hy=>(F.cs y a hy).elim λv hv=>(S.cell a c e).notCell hv⟩
theorem St.unfreeze(S:St prog w (Frz env Fz h) aX h'):St prog w Fz aX h':=⟨λb o x=>S.fz b o (.inl x),S.cell,λa c o e x=>S.apart a c o e (.inl x)⟩
theorem Fm.thaw(F:Fm W env m Fz σ h)(S:St prog w (Frz env Fz h) aX h')(g:de h h'):Fm W env m Fz aX h':=
 have vE:∀b o,(b=env.locals\/∃x:Str,env.cells.lookup x=some b)->h.get? b=some o->h'.get? b=some o:=λb o q e=>S.fz b o (.inr ⟨e,q⟩)
 have nq:∀(x:Str) c v,env.cells.lookup x=some c->h.IsCell c v->h'.IsCell c v:=λx c v e q=>q.elim λo q=>⟨o,vE c o (.inr ⟨x,e⟩) q.1,q.2⟩
 ⟨F.fn,F.gl,F.bl,F.ns.elim λmL x=>⟨mL,_68 x.1 λo ho=>vE _ o (.inl rfl) ho,λx' av e k=>(x.2 x' av e k).elim λv q=>⟨v,q.1,q.2.grow g⟩⟩,
  λx c e=>(F.cs x c e).elim λv hv=>⟨v,nq x c v e hv⟩,
  λx av e k=>(F.cv x av e k).elim λc q=>q.elim λv q=>⟨c,v,q.1,nq _ c _ q.1 q.2.1,q.2.2.grow g⟩,F.nfz,by
  cases e:aX env.locals with
  | none=>rfl
  | some d=>exact F.ns.elim λmL x=>_3q x.1 λo _ _ ho _=>absurd (.inr ⟨ho,.inl rfl⟩) (S.apart _ d o e),F.cw,F.hc⟩
theorem Fm.lessm(F:Fm W env m Fz σ h){m':Loc}(k:∀x a,m'.lookup x=some a->m.lookup x=some a):Fm W env m' Fz σ h:=
 ⟨F.fn,F.gl,F.bl,F.ns.elim λmL q=>⟨mL,q.1,λx av e=>q.2 x av (k _ _ e)⟩,F.cs,λx av e=>F.cv x av (k _ _ e),F.nfz,F.nσ,F.cw,F.hc⟩
theorem Fm.more(F:Fm W env m Fz σ h)(k:∀b o,h.get? b=some o->h'.get? b=some o):Fm W env m Fz σ h':=
 ⟨F.fn,F.gl,F.bl,F.ns.elim λmL q=>⟨mL,q.1.keeps k,λx av e y=>(q.2 x av e y).elim λv q=>⟨v,q.1,q.2.grow (_f k)⟩⟩,λx c e=>(F.cs x c e).elim λv a=>⟨v,a.keeps k⟩,
  λx av e y=>(F.cv x av e y).elim λc q=>q.elim λv q=>⟨c,v,q.1,q.2.1.keeps k,q.2.2.grow (_f k)⟩,F.nfz,F.nσ,F.cw,F.hc⟩
theorem Loc.put_on{x y:String}{v a:AV}{R:Prop}(e:(m.put x v).lookup y=some a)(h1:y=x->v=a->R)(h2:y≠x->m.lookup y=some a->R):R:=by
 rw[Loc.lookup_put] at e
 by_cases q:y=x
 ·exact h1 q (aB ((if_pos q).symm.trans e))
 ·exact h2 q ((if_neg q).symm.trans e)
theorem Fm.setLocal(F:Fm W env m Fz σ h)(S:St prog w Fz σ h){x:String}{v:ae}{av:AV}(hk:env.kindOf x=some .local)(r:RV h v av){mL:Str->Option ae}(uG:∀x av,m.lookup x=some av->env.kindOf x=some .local->∃v,mL x=some v/\RV h v av)
  (hn:h.Ns env.locals mL) (sq:h'.Ns env.locals (λy=>if y=(x:Str) then some v else mL y)) (hs:bu env.locals h h') :
  St prog w Fz σ h'/\Fm W env (m.put x av) Fz σ h'/\de h h':=
 _3q hn λo0 es0 ep0 ho0 hd0=>
 have g:de h h':=_1a ho0 hd0 hs
 have hc:∀(y:Str) c v,env.cells.lookup y=some c->h.IsCell c v->h'.IsCell c v:=λy c v e q=>q.sameBut hs λz=>q.elim λo q=>by
  have e1:=z ▸ q.1
  rw[aB (ho0.symm.trans e1)] at hd0
  exact nomatch hd0.symm.trans q.2
 ⟨⟨λb o q=>(hs.2 b λe=>F.nfz o (e ▸ q)).trans (S.fz b o q),λa c e=>(S.cell a c e).move g λo ho=>(hs.2 a λz=>by rw[z,F.nσ] at e;cases e).trans ho,S.apart⟩,
  ⟨F.fn,F.gl,F.bl,⟨_,sq,λy bv e k=>Loc.put_on e (λq q2=>⟨v,if_pos (q ▸ rfl),q2 ▸ r.grow g⟩) λq e=>(uG y bv e k).elim λu z=>⟨u,(if_neg λe=>q (_s e)).trans z.1,z.2.grow g⟩⟩,
   λy c e=>(F.cs y c e).elim λv hv=>⟨v,hc y c v e hv⟩,
   λy bv e k=>Loc.put_on e (λq _=>by rw[q,hk] at k;exact k.elim (λk=>nomatch k) λk=>nomatch k) λq e=>(F.cv y bv e k).elim λc z=>z.elim λu z=>⟨c,u,z.1,hc _ c _ z.1 z.2.1,z.2.2.grow g⟩,F.nfz,F.nσ,F.cw,F.hc⟩,g⟩
theorem Fm.setCell{x:String}(hW:W (ab x))(F:Fm W env m Fz σ h)(S:St prog w Fz σ h){v:ae}{av:AV}{c:ao}(hk:env.kindOf x=some .cell)(r:RV h v av)(hc:env.cells.lookup (x:Str)=some c)
  (sq:h'.IsCell c (some v)) (hs:bu c h h') :
  St prog w Fz σ h'/\Fm W env (m.put x av) Fz σ h'/\de h h':=
 (F.cs x c hc).elim λv0 q0=>q0.elim λo0 q1=>
 have g:de h h':=λb o ho hl=>(hs.2 b λe=>by
  rw[e,q1.1] at ho
  cases ho
  exact hl.elim (λx=>x.2.elim λ_ x=>x.elim λ_ e=>nomatch q1.2.symm.trans e) λx=>x.2.elim λ_ e=>nomatch q1.2.symm.trans e).trans ho
 have wF:∀(y:Str) d v,y≠(x:Str)->env.cells.lookup y=some d->h.IsCell d v->h'.IsCell d v:=λy d v q e z=>z.sameBut hs λz=>q ((F.cw x c hW hc).2 y (z ▸ e))
 F.ns.elim λmL n=>_3q n.1 λo es ep ho hd=>
 have hL:env.locals≠c:=λz=>by
  rw[z,q1.1] at ho
  cases ho
  exact nomatch q1.2.symm.trans hd
 ⟨⟨λb o q=>(hs.2 b λe=>(F.cw x c hW hc).1 o (e ▸ q)).trans (S.fz b o q),λa d e=>(S.cell a d e).move g λo ho=>(hs.2 a λz=>(S.cell a d e).notCell (z ▸ q0)).trans ho,S.apart⟩,
  ⟨F.fn,F.gl,F.bl,⟨mL,n.1.sameBut hs hL,λy bv e k=>Loc.put_on e (λq _=>by rw[q,hk] at k;cases k) λ_ e=>(n.2 y bv e k).elim λu z=>⟨u,z.1,z.2.grow g⟩⟩,
   λy d e=>(Classical.em (y=(x:Str))).elim (λq=>⟨_,aB (hc.symm.trans (q ▸ e)) ▸ sq⟩) λq=>(F.cs y d e).elim λv hv=>⟨v,wF y d v q e hv⟩,
   λy bv e k=>Loc.put_on e (λq q2=>⟨c,v,q ▸ hc,sq,q2 ▸ r.grow g⟩) λq e=>(F.cv y bv e k).elim λd z=>z.elim λu z=>⟨d,u,z.1,wF _ d _ (λe=>q (_s e)) z.1 z.2.1,z.2.2.grow g⟩,F.nfz,F.nσ,F.cw,F.hc⟩,g⟩
end
structure Cx where
 prog:bS
 w:cy
 K:rT
 h₀:a_
noncomputable abbrev Cx.M(c:Cx):rN:=model c.prog c.w
structure q8(c:Cx):Prop where
 kin:c.K.In c.h₀
 top:∃p loose mg mb,TopRead p loose mg mb c.h₀
 mods:∃o,c.h₀.get? sysModules=some o
structure lH(A:bB)(d:Nat):Prop where
 dep:A.depth+3*d+20<rD
 un:A.units+16*d+200<cLine
 hn:A.handled=none
structure cR(s s':ah):Prop where
 g:de s.heap s'.heap
 os:s'.os=s.os
 gens:s'.gens=s.gens
theorem cR.refl(s:ah):cR s s:=⟨de.refl _,rfl,rfl⟩
theorem cR.trans{s s' kT:ah}(a:cR s s')(b:cR s' kT):cR s kT:=⟨a.g.trans b.g,b.os.trans a.os,b.gens.trans a.gens⟩
structure iu(s s':ah):Prop where
 h:s'.heap=s.heap
 os:s'.os=s.os
 gens:s'.gens=s.gens
theorem iu.refl(s:ah):iu s s:=⟨rfl,rfl,rfl⟩
theorem iu.grow{s s':ah}(a:iu s s'):cR s s':=⟨by rw[a.h];exact de.refl _,a.os,a.gens⟩
inductive OpK where
 | call | neg | sub | setItem
 | bin (op:pc) | cmp (op:io) | attr (n:String) | setAttr (n:String)
noncomputable def one(f:ae->me ae):List ae->me ae
 | [a]=>f a
 | _=>pure .none
noncomputable def two(f:ae->ae->me ae):List ae->me ae
 | [a,b]=>f a b
 | _=>pure .none
noncomputable def three(f:ae->ae->ae->me ae):List ae->me ae
 | [a,b,e]=>f a b e
 | _=>pure .none
noncomputable def callL:List ae->me ae
 | f::r=>call f r
 | []=>pure .none
noncomputable def s7(o i:ae):me ae:=do
 if <-getitemInPython o then unsupported "no" else getItem o i
noncomputable def OpK.sem:OpK->List ae->me ae
 | .call=>callL
 | .neg=>one (unaryOp .USub)
 | .sub=>two s7
 | .setItem=>three λo i v=>do PySem.setItem o i v;pure .none
 | .bin op=>two (binaryOp op)
 | .cmp op=>two (g7 op)
 | .attr n=>one λv=>getAttr v (ab n) true
 | .setAttr n=>two λo v=>do PySem.setAttr o (ab n) v;pure .none
section
variable(c:Cx)(d:Nat)
noncomputable def Bs(Fz:Fzn):Prop:=∀b o,c.h₀.get? b=some o->Fz b o
structure Go(A:bB)(Fz:Fzn)(σ:af)(s:ah):Prop where
 room:lH A d
 base:q8 c
 bs:Bs c Fz
 st:St c.prog c.w Fz σ s.heap
structure ct(o:OpK)(as:List AV)(σ:af)(Q:AV->af->Prop):Prop where
 run:∀A Fz s vs (P:ae->ah->Prop) E,Go c d A Fz σ s->RVs s.heap vs as ->
  (∀v av aX s',St c.prog c.w Fz aX s'.heap->cR s s'->RV s'.heap v av->Q av aX->P v s')->wpAny c.M A (o.sem vs) P E s
noncomputable abbrev br(f:AV)(as:List AV):=ct c d .call (f::as)
noncomputable abbrev pt(op:pc)(a b:AV):=ct c d (.bin op) [a,b]
noncomputable abbrev eQ(op:io)(a b:AV):=ct c d (.cmp op) [a,b]
noncomputable abbrev gN(a i:AV):=ct c d .sub [a,i]
structure e6(a:AV)(n:String)(σ:af)(Q:AV->List AV->Prop):Prop where
 run:∀A Fz s v pl (P:ae×List ae->ah->Prop) E,Go c d A Fz σ s->RV s.heap v a ->
  (∀f first fv as s',iu s s'->RV s.heap fv f->RVs s.heap as first->Q f first->P (fv,as) s')->wpAny c.M A (getMethod v (ab n) pl) P E s
structure f_(a:AV)(n:Nat)(σ:af)(Q:List AV->Prop):Prop where
 run:∀A Fz s v (P:List ae->ah->Prop) E,Go c d A Fz σ s->RV s.heap v a ->
  (∀vs l s',St c.prog c.w Fz σ s'.heap->cR s s'->RVs s'.heap vs l->l.length=n->Q l->P vs s')->wpAny c.M A (unpackItems v n none) P E s
structure jE(en:Bool)(it:ae)(ai:ao->Prop)(P:List AV->a_->Prop)(P':ae->List AV->a_->Prop)(keep:af->Prop):Prop where
 there:∀l h,P l h->∀a,ai a->∃o,h.get? a=some o
 still:∀l h h',P l h->(∀a o,ai a->h.get? a=some o->h'.get? a=some o)->de h h'->P l h'
 again:∀A l s (R:ae->ah->Prop) E,lH A d->P l s.heap->R it s->wpAny c.M A (pyIter it) R E s
 next:∀A Fz σ l s (R:Option ae->ah->Prop) E,Go c d A Fz σ s->keep σ->(∀a o,ai a->¬Fz a o)->(∀a,ai a->σ a=none)->P l s.heap ->
  (∀r s',St c.prog c.w Fz σ s'.heap->cR s s'->(match l with | []=>r=none | x::xs=>∃v,r=some v/\RV s'.heap v x/\P' v xs s'.heap)->R r s')->wpAny c.M A (pyNext it) R E s
 letGo:∀A Fz σ l s v t (R:Unit->ah->Prop) E,(en=true->∃elts k p,t = .Tuple elts k p)->lH A d->St c.prog c.w Fz σ s.heap->(∀a o,ai a->¬Fz a o)->(∀a,ai a->σ a=none)->P' v l s.heap ->
  (∀s',St c.prog c.w Fz σ s'.heap->cR s s'->P l s'.heap->R () s')->wpAny c.M A (lS t it v) R E s
structure fH(a:AV)(σ:af)(Q:List AV->(af->Prop)->Prop):Prop where
 run:∀A Fz s v (R:ae->ah->Prop) E,Go c d A Fz σ s->RV s.heap v a ->
  (∀it ai P s' items keep,Q items keep->St c.prog c.w Fz σ s'.heap->(∀b o,s.heap.get? b=some o->s'.heap.get? b=some o)->cR s s'->(∀a o,ai a->s.heap.get? a≠some o)->jE c d false it ai P (λ_=>P) keep->P items s'.heap->R it s')->wpAny c.M A (pyIter v) R E s
noncomputable def pO(x:String)(v:ae):Prop:=
 nsIn c.K bK (ab x)=some (some v)\/(nsIn c.K bK (ab x)=some none/\dL (ab x)=some v/\ab x ≠ "__name__")
noncomputable def ji:Nat->List AV->List AV
 | _,[]=>[]
 | i,x::xs=>.tup [.int i,x]::ji (i+1) xs
noncomputable def k9:Bool->AV->af->(List AV->(af->Prop)->Prop)->Prop
 | true,sv,σ,Q=>∃l xs,sv = .ref l/\σ l=some (.list xs)/\xs.length<=100000/\Q (ji 0 xs) (λaX=>aX l=some (.list xs))
 | false,sv,σ,Q=>fH c d sv σ Q
noncomputable def EnW:Bool->Prop->Prop
 | true,P=>pO c "enumerate" (.type "enumerate")/\P
 | false,P=>P
noncomputable def gU(v:ae):Prop:=
 (∃i,v = .builtin i)\/(∃T,v = .type T)\/(∃a o fd,v = .ref a/\c.K.lookup a=some o/\o.data = .func fd) \/
  ∃a o cd,v = .ref a/\c.K.lookup a=some o/\o.data = .cls cd/\specialIn c.K (.ref a) "__call__" = some (some (.builtin "type.__call__"))
end
mutual
inductive Tgt where
 | bad
 | name (x:String)
 | tup (l:oh)
inductive oh where
 | nil
 | cons (t:Tgt) (r:oh)
end
mutual
inductive IE where
 | bad
 | none | bool (b:Bool) | int (i:Int) | str (x:String)
 | var (x:String)
 | tup (l:IEs) | list (l:IEs) | edict | dict1 (l:IEs)
 | bin (op:pc) (a b:IE)
 | not (a:IE) | neg (a:IE)
 | cmp (a:IE) (op:io) (b:IE) | cmp2 (a:IE) (op:io) (b:IE) (jM:io) (e:IE)
 | bools (op:BoolOp) (l:IEs)
 | sub (a i:IE) | slc (l h st:IE)
 | attr (a:IE) (n:String)
 | call (f:String) (l:IEs)
 | meth (o:IE) (n:String) (l:IEs)
 | comp (elt:IE) (t:Tgt) (en:Bool) (jl:IE) (cond:IE)
inductive IEs where
 | nil
 | cons (e:IE) (r:IEs)
end
mutual
inductive IS where
 | bad
 | expr (e:IE)
 | assign (t:Tgt) (e:IE)
 | asSub (o i e:IE)
 | asAttr (o:IE) (n:String) (e:IE)
 | ret (e:IE)
 | ite (t:IE) (a b:ISs)
 | loop (t:IE) (b:ISs)
 | each (t:Tgt) (en:Bool) (jl:IE) (b:ISs)
inductive ISs where
 | nil
 | cons (s:IS) (r:ISs)
end
mutual
noncomputable def Tgt.names:Tgt->List String
 | .bad=>[]
 | .name x=>[x]
 | .tup l=>l.names
termination_by structural t=>t
noncomputable def oh.names:oh->List String
 | .nil=>[]
 | .cons t r=>t.names++r.names
termination_by structural t=>t
end
noncomputable def oh.length:oh->Nat
 | .nil=>0
 | .cons _ r=>r.length+1
noncomputable def mD(e:Expr):Bool:=iy e.ctorIdx 25
noncomputable def cS(e:Expr):Bool:=!iy e.ctorIdx 22
noncomputable def Loc.cut(m:Loc)(l:List String):Loc:=m.filter λx=>!l.contains x.1
noncomputable def Loc.only(uA m:Loc):Loc:=m.filter λx=>(uA.map (·.1)).contains x.1
noncomputable def compLoop{β:Type}(keep:af->Prop)(body:AV->β->af->(β->af->Prop)->Prop):List AV->β->af->(β->af->Prop)->Prop
 | [],b,σ,Q=>keep σ/\Q b σ
 | x::xs,b,σ,Q=>keep σ/\body x b σ (λb' aX=>compLoop keep body xs b' aX Q)
noncomputable def qW:AV->(Int->Prop)->Prop
 | .int i,f=>f i
 | _,_=>False
noncomputable def mB:List AV->(Int->AV->Prop)->Prop
 | a::l,f=>(match l with
  | v::r=>r=[]/\qW a λi=>f i v
  | []=>False)
 | [],_=>False
noncomputable def emptyDict(ce:cG):Prop:=ce = .dictI []\/ce = .dictT []
section
variable(nm:List String)
noncomputable def j5(x:Str):Option String:=nm.find? λy=>ab y == x
noncomputable def IE.when(b:Bool)(x:IE):IE:=match b with
 | true=>x
 | false=>.bad
noncomputable def IE.named(x:Str)(k:String->IE):IE:=match j5 nm x with
 | Option.some y=>k y
 | Option.none=>.bad
noncomputable def dX:Option bq->Bool
 | some .local | some .cell=>true
 | _=>false
noncomputable def qX:Option bq->Bool
 | some .local | some .cell | some .free=>true
 | _=>false
noncomputable def pK:Option bq->Bool
 | some .cell | some .free=>true
 | _=>false
noncomputable def j7:Option bq->Bool
 | some .globalImplicit=>true
 | _=>false
noncomputable def lu(e:Expr):Bool:=!(iy e.ctorIdx 7)
noncomputable def jq:Expr->Bool
 | .Call f _ _ _=>!(iy f.ctorIdx 23)
 | _=>true
noncomputable def trL(f:Expr->IE):List Expr->IEs
 | []=>.nil
 | e::r=>.cons (f e) (trL f r)
noncomputable def Tgt.when(b:Bool)(x:Tgt):Tgt:=match b with
 | true=>x
 | false=>.bad
noncomputable def ql(f:Expr->Tgt):List Expr->oh
 | []=>.nil
 | e::r=>.cons (f e) (ql f r)
noncomputable def Tgt.named(x:Str):Tgt:=match j5 nm x with
 | some y=>.name y
 | none=>.bad
noncomputable def trT(ks:List (Str×bq)):Nat->Expr->Tgt
 | 0,_=>.bad
 | n+1,e=>match e with
  | .Name id _=>.when (dX (ks.lookup id)) (.named nm id)
  | .Tuple elts _ _=>.when (elts.all cS) (.tup (ql (trT ks n) elts))
  | _=>.bad
noncomputable def nZ(f:Expr->IE):Option Expr->IE
 | none=>.none
 | some e=>f e
noncomputable def uj(f:Expr->IE):List Expr->IE
 | []=>.bool true
 | [e]=>f e
 | _=>.bad
noncomputable def lA(ks:List (Str×bq)):Expr->Option Expr
 | .Call (.Name id _) [e] [] _=>if(id == ("enumerate" : Str)&&(j7 (ks.lookup id)&&cS e))=true then some e else none
 | _=>none
noncomputable def ls(f:Expr->IE)(ks:List (Str×bq))(e:Expr)(k:Bool->IE->α):α:=match lA ks e with
 | some e'=>k true (f e')
 | none=>k false (f e)
noncomputable def pJ(names:List (Str×bq)):Bool:=names.all λx=>decide (names.lookup x.1=some x.2)
noncomputable def kE(id:Str):Bool:=!(id == ("__debug__" : Str)) && !(id == ("__classdict__" : Str))
noncomputable def rV:Const->IE
 | .none=>.none
 | .bool b=>.bool b
 | .int i=>.int i
 | .str x=>.named nm x .str
 | _=>.bad
noncomputable def s3(k:Option bq)(id:Str):IE:=
 .when (kE id) (.named nm id λy=>match qX k with
  | true=>.var y
  | false=>.bad)
noncomputable def trKey(f:Expr->IE)(v:IE):Option Expr->IE
 | some k=>.dict1 (.cons (f k) (.cons v .nil))
 | none=>.bad
noncomputable def s4(f:Expr->IE)(keys:List (Option Expr))(jH:List Expr):IE:=match keys with
 | []=>.when jH.isEmpty .edict
 | k::r=>match jH with
  | []=>.bad
  | v::q=>.when (r.isEmpty&&q.isEmpty) (trKey f (f v) k)
noncomputable def vj(f:Expr->IE)(a:Expr):List io->List Expr->IE
 | [op],[b]=>.when (!gM op b) (.cmp (f a) op (f b))
 | [op,jM],[b,e]=>.when (!gM jM e) (.cmp2 (f a) op (f b) jM (f e))
 | _,_=>.bad
noncomputable def s5(f:Expr->IE)(ks:List (Str×bq))(args:List Expr)(pos:jx):Expr->IE
 | .Attribute o x apos=>.when (jq o&&(apos.endLine == pos.line&&(Nat.blt args.length 30&&args.all cS))) (.named nm x λz=>.meth (f o) z (trL f args))
 | .Name id _=>.when (kE id&&(j7 (ks.lookup id)&&(Nat.blt args.length 30&&args.all cS))) (.named nm id λz=>.call z (trL f args))
 | _=>.bad
noncomputable def mF(ks:List (Str×bq))(scope:nS)(iter:Expr)(t:Tgt)(target:Expr)(en:Bool):Bool:=
 decide (scope.kind = .function)&&(pJ scope.names&&((lu iter&&((scope.names.all λx=>x.2 != .free || pK (ks.lookup x.1)) &&
  ((scope.names.all λx=>!dX (some x.2) || ((".0" :: t.names).map ab).contains x.1)&&(!en || mD target))))))
noncomputable def n5{α:Type}(gens:List iY)(b:α)(k:Expr->Expr->List Expr->α):α:=match gens with
 | [g]=>if g.is_async=0 then k g.target g.iter g.ifs else b
 | _=>b
noncomputable def tr:Nat->List (Str×bq)->Expr->IE
 | 0,_,_=>.bad
 | n+1,ks,e=>match e with
  | .Constant k _ _=>rV nm k
  | .Name id _=>s3 nm (ks.lookup id) id
  | .Tuple elts _ _=>.tup (trL (tr n ks) elts)
  | .List elts _=>.list (trL (tr n ks) elts)
  | .Dict keys jH _=>s4 (tr n ks) keys jH
  | .BinOp a op b _=>.bin op (tr n ks a) (tr n ks b)
  | .UnaryOp .Not a _=>.not (tr n ks a)
  | .UnaryOp .USub a _=>.neg (tr n ks a)
  | .Compare a wi bs _=>vj (tr n ks) a wi bs
  | .BoolOp op l _=>.bools op (trL (tr n ks) l)
  | .Slice l h st _=>.slc (nZ (tr n ks) l) (nZ (tr n ks) h) (nZ (tr n ks) st)
  | .Subscript a i _=>.sub (tr n ks a) (tr n ks i)
  | .Attribute a x _=>.when (jq a) (.named nm x λz=>.attr (tr n ks a) z)
  | .Call f args [] pos=>s5 nm (tr n ks) ks args pos f
  | .ListComp elt gens scope _=>n5 gens .bad λt iter ifs=>ls (tr n ks) ks iter λen jl=>.when (mF ks scope iter (trT nm scope.names 5 t) t en) (.comp (tr n scope.names elt) (trT nm scope.names 5 t) en jl (uj (tr n scope.names) ifs))
  | _=>.bad
noncomputable def eW(e:Expr):Bool:=!(iy e.ctorIdx 9 || iy e.ctorIdx 10)
noncomputable def nN(e:Expr):Bool:=!(iy e.ctorIdx 8)&&eW e
noncomputable def jo:Expr->Bool
 | .Tuple vs _ _=>!(vs.all (constantsAlone 8)) || vs.all (foldedForSure 8)
 | .ListComp _ gens _ _=>Nat.blt gens.length 2
 | _=>true
noncomputable def IS.when(b:Bool)(x:IS):IS:=match b with
 | true=>x
 | false=>.bad
noncomputable def oV(f:pX->IS):List pX->ISs
 | []=>.nil
 | e::r=>.cons (f e) (oV f r)
noncomputable def trAs(f:Expr->IE)(ks:List (Str×bq))(e:Expr):Expr->IS
 | .Subscript o i _=>.when (eW e) (.asSub (f o) (f i) (f e))
 | .Attribute o x _=>match j5 nm x with
  | some y=>.when (eW e) (.asAttr (f o) y (f e))
  | none=>.bad
 | t=>.when (eW e&&jo e) (.assign (trT nm ks 5 t) (f e))
noncomputable def trS:Nat->List (Str×bq)->pX->IS
 | 0,_,_=>.bad
 | n+1,ks,st=>match st with
  | .Expr e _=>.when (nN e) (.expr (tr nm 30 ks e))
  | .Assign [t] e _=>trAs nm (tr nm 30 ks) ks e t
  | .Return (some e) _=>.ret (tr nm 30 ks e)
  | .If t a b _=>.ite (tr nm 30 ks t) (oV (trS n ks) a) (oV (trS n ks) b)
  | .While t b [] _=>.loop (tr nm 30 ks t) (oV (trS n ks) b)
  | .For t jl b [] _=>ls (tr nm 30 ks) ks jl λen x=>.when (lu jl&&(!en || mD t)) (.each (trT nm ks 5 t) en x (oV (trS n ks) b))
  | _=>.bad
end
noncomputable def pG:AV->Option Bool
 | .none=>some false
 | .bool b=>some b
 | _=>none
noncomputable def dN(v:AV)(q:Bool->Prop):Prop:=match pG v with
 | some b=>q b
 | none=>False
section
variable(c:Cx)(d:Nat)
mutual
noncomputable def eC:Tgt->AV->Loc->af->(Loc->Prop)->Prop
 | .bad,_,_,_,_=>False
 | .name x,v,m,_,k=>k (m.put x v)
 | .tup l,v,m,σ,k=>f_ c d v l.length σ λvs=>jg l vs m σ k
termination_by structural t=>t
noncomputable def jg:oh->List AV->Loc->af->(Loc->Prop)->Prop
 | .nil,_,m,_,k=>k m
 | .cons t r,vs,m,σ,k=>match vs with
  | v::vs=>eC t v m σ λm'=>jg r vs m' σ k
  | []=>False
termination_by structural t=>t
end
mutual
noncomputable def wpE:IE->Loc->af->(AV->af->Prop)->Prop
 | .bad,_,_,_=>False
 | .none,_,σ,Q=>Q .none σ
 | .bool b,_,σ,Q=>Q (.bool b) σ
 | .int i,_,σ,Q=>Q (.int i) σ
 | .str x,_,σ,Q=>Q (.str x) σ
 | .var x,m,σ,Q=>match m.lookup x with
  | some av=>Q av σ
  | none=>False
 | .tup l,m,σ,Q=>mz l m σ λas aX=>as.length<=b8/\Q (.tup as) aX
 | .list l,m,σ,Q=>mz l m σ λas aX=>as.length<=b8/\∀a,aX a=none->Q (.ref a) (aX.set a (.list as))
 | .edict,_,σ,Q=>∃ce,emptyDict ce/\∀a,σ a=none->Q (.ref a) (σ.set a ce)
 | .dict1 l,m,σ,Q=>mz l m σ λas aX=>mB as λi v=>∀a,aX a=none->Q (.ref a) (aX.set a (.dictI [(i,v)]))
 | .bin op a b,m,σ,Q=>wpE a m σ λx σ₁=>wpE b m σ₁ λy bI=>ct c d (.bin op) [x,y] bI Q
 | .not a,m,σ,Q=>wpE a m σ λx σ₁=>dN x λb=>Q (.bool (!b)) σ₁
 | .neg a,m,σ,Q=>wpE a m σ λx σ₁=>ct c d .neg [x] σ₁ Q
 | .cmp a op b,m,σ,Q=>wpE a m σ λx σ₁=>wpE b m σ₁ λy bI=>ct c d (.cmp op) [x,y] bI Q
 | .cmp2 a op b jM e,m,σ,Q=>wpE a m σ λx σ₁=>wpE b m σ₁ λy bI=>ct c d (.cmp op) [x,y] bI λr σ₃=>dN r λt=>
   if t=true then wpE e m σ₃ λz σ₄=>ct c d (.cmp jM) [y,z] σ₄ Q else Q r σ₃
 | .bools op l,m,σ,Q=>wpB op l m σ Q
 | .sub a i,m,σ,Q=>wpE a m σ λx σ₁=>wpE i m σ₁ λy bI=>ct c d .sub [x,y] bI Q
 | .slc l h st,m,σ,Q=>wpE l m σ λy σ₁=>wpE h m σ₁ λz bI=>wpE st m bI λw σ₃=>Q (.slice y z w) σ₃
 | .attr a n,m,σ,Q=>wpE a m σ λx σ₁=>ct c d (.attr n) [x] σ₁ Q
 | .call f l,m,σ,Q=>∃v,(pO c f v/\gU c v)/\mz l m σ λas bI=>ct c d .call (.raw v::as) bI Q
 | .meth o n l,m,σ,Q=>wpE o m σ λov σ₁=>e6 c d ov n σ₁ λfv first=>(∃v,fv = .raw v/\gU c v)/\mz l m σ₁ λas bI=>ct c d .call (fv::(first++as)) bI Q
 | .comp elt t en jl cond,m,σ,Q=>EnW c en (wpE jl m σ λsv σ₁=>k9 c d en sv σ₁ λitems keep=>items.length<=b8 /\
   compLoop keep (λx bV σ k=>eC c d t x (m.cut (".0" :: t.names)) σ λm'=>wpE cond m' σ λv aX=>dN v λok=>if ok=true then wpE elt m' aX (λv bI=>k (bV++[v]) bI) else k bV aX)
    items ([]:List AV) σ₁ (λbV bI=>∀a,bI a=none->Q (.ref a) (bI.set a (.list bV))))
termination_by structural e=>e
noncomputable def mz:IEs->Loc->af->(List AV->af->Prop)->Prop
 | .nil,_,σ,Q=>Q [] σ
 | .cons e r,m,σ,Q=>wpE e m σ λv σ₁=>mz r m σ₁ λvs bI=>Q (v::vs) bI
termination_by structural l=>l
noncomputable def wpB(op:BoolOp):IEs->Loc->af->(AV->af->Prop)->Prop
 | .nil,_,_,_=>False
 | .cons e r,m,σ,Q=>match r with
  | .nil=>wpE e m σ Q
  | .cons _ _=>wpE e m σ λv σ₁=>dN v λt=>match op,t with
   | .And,true=>wpB op r m σ₁ Q
   | .Or,false=>wpB op r m σ₁ Q
   | _,_=>Q v σ₁
termination_by structural l=>l
end
mutual
noncomputable def wpS:IS->Loc->af->(Loc->af->Prop)->(AV->af->Prop)->Prop
 | .bad,_,_,_,_=>False
 | .expr e,m,σ,N,_=>wpE c d e m σ λ_ σ₁=>N m σ₁
 | .assign t e,m,σ,N,_=>wpE c d e m σ λv σ₁=>eC c d t v m σ₁ λm'=>N m' σ₁
 | .asSub o i e,m,σ,N,_=>wpE c d e m σ λv σ₁=>wpE c d o m σ₁ λov bI=>wpE c d i m bI λiv σ₃=>ct c d .setItem [ov,iv,v] σ₃ λ_ σ₄=>N m σ₄
 | .asAttr o n e,m,σ,N,_=>wpE c d e m σ λv σ₁=>wpE c d o m σ₁ λov bI=>ct c d (.setAttr n) [ov,v] bI λ_ σ₃=>N m σ₃
 | .ret e,m,σ,_,R=>wpE c d e m σ R
 | .ite t a b,m,σ,N,R=>wpE c d t m σ λv σ₁=>dN v λr=>if r=true then iH a m σ₁ N R else iH b m σ₁ N R
 | .loop t b,m,σ,N,R=>∃I:Nat->Loc->af->Prop,(∃n,I n m σ)/\∀n m' σ,I n m' σ ->
   wpE c d t m' σ λv σ₁=>dN v λr=>if r=true then iH b m' σ₁ (λm'' bI=>∃k,k<n/\I k (m.only m'') bI) R else N m' σ₁
 | .each t en jl b,m,σ,N,R=>EnW c en (wpE c d jl m σ λsv σ₁=>k9 c d en sv σ₁ λitems keep=>
   compLoop keep (λx m' σ k=>eC c d t x m' σ λm'=>iH b m' σ (λm'' bI=>k (m.only m'') bI) R) items m σ₁ N)
termination_by structural s=>s
noncomputable def iH:ISs->Loc->af->(Loc->af->Prop)->(AV->af->Prop)->Prop
 | .nil,m,σ,N,_=>N m σ
 | .cons s r,m,σ,N,R=>wpS s m σ (λm' σ₁=>iH r m' σ₁ N R) R
termination_by structural l=>l
end
end
noncomputable def mA(p:Arguments)(ps:List String):Bool:=p.posonlyargs.isEmpty&&p.kwonlyargs.isEmpty&&p.vararg.isNone&&p.kwarg.isNone&&decide (p.args.map (·.arg)=ps.map ab)
noncomputable def bP(nm:List String)(K:rT)(f:ao)(ps:List String):Option ISs:=match K.lookup f with
 | some o=>match o.data with
  | .func fd=>match fd.body with
   | .stmts ot=>if fd.closure.isEmpty&&decide (fd.globals=bK)&&decide (fd.builtins=builtinsNs)&&decide (fd.scope.kind = .function) && !fd.scope.isCoroutine && !fd.scope.isGenerator&&(fd.scope.names.all λx=>x.2 != .free)&&(ps.all λp=>dX (fd.scope.names.lookup (ab p)))&&codeIn K fd.code fd.qualname&&mA fd.params ps&&decide (fd.defaults = .none)&&decide ps.Nodup then some (oV (trS nm 30 fd.scope.names) ot) else none
   | _=>none
  | _=>none
 | none=>none
noncomputable def j9(K:rT)(C:ao):Bool:=(match K.lookup C with
 | some o=>match o.data with
  | .cls _=>true
  | _=>false
 | none=>false)&&decide (specialIn K (.ref C) "__call__" = some (some (.builtin "type.__call__")))
noncomputable abbrev nn:=List Bool×List (Option (Option ae))×List (Option ISs)
noncomputable def n9(as:List ao)(h:a_):rT:=as.filterMap λa=>(h.get? a).map λo=>(a,o)
noncomputable def mW:ISs:=(.cons (.asAttr (.var "self") "above" (.list .nil)) (.cons (.asAttr (.var "self") "lots" (.list .nil)) (.cons (.asAttr (.var "self") "merged" (.list .nil)) .nil)))
noncomputable def mV:ISs:=(.cons (.expr (.meth (.attr (.var "self") "above") "append" (.cons (.call "len" (.cons (.attr (.var "self") "above") .nil)) .nil))) (.cons (.expr (.meth (.attr (.var "self") "lots") "append" (.cons (.list (.cons (.call "len" (.cons (.attr (.var "self") "lots") .nil)) .nil)) .nil))) (.cons (.ret (.bin .Sub (.call "len" (.cons (.attr (.var "self") "above") .nil)) (.int (1)))) .nil)))
noncomputable def mU:ISs:=(.cons (.ret (.call "len" (.cons (.attr (.var "self") "above") .nil))) .nil)
noncomputable def mX:ISs:=(.cons (.loop (.cmp (.sub (.attr (.var "self") "above") (.var "a")) .NotEq (.var "a")) (.cons (.assign (.name "a") (.sub (.attr (.var "self") "above") (.var "a"))) .nil)) (.cons (.ret (.var "a")) .nil))
noncomputable def lY:ISs:=(.cons (.assign (.tup (.cons (.name "kept") (.cons (.name "gone") .nil))) (.call "sorted" (.cons (.list (.cons (.meth (.var "self") "find" (.cons (.var "a") .nil)) (.cons (.meth (.var "self") "find" (.cons (.var "b") .nil)) .nil))) .nil))) (.cons (.ite (.cmp (.var "kept") .Eq (.var "gone")) (.cons (.ret .none) .nil) .nil) (.cons (.asSub (.attr (.var "self") "above") (.var "gone") (.var "kept")) (.cons (.expr (.meth (.sub (.attr (.var "self") "lots") (.var "kept")) "extend" (.cons (.sub (.attr (.var "self") "lots") (.var "gone")) .nil))) (.cons (.expr (.meth (.attr (.var "self") "merged") "append" (.cons (.tup (.cons (.var "kept") (.cons (.var "gone") .nil))) .nil))) (.cons (.ret (.tup (.cons (.var "kept") (.cons (.var "gone") .nil)))) .nil))))))
noncomputable def j_:ISs:=(.cons (.ret (.comp (.var "a") (.name "a") false (.call "range" (.cons (.call "len" (.cons (.attr (.var "self") "above") .nil)) .nil)) (.cmp (.sub (.attr (.var "self") "above") (.var "a")) .Eq (.var "a")))) .nil)
noncomputable def nb:ISs:=(.cons (.asAttr (.var "self") "nodes" (.list .nil)) (.cons (.asAttr (.var "self") "numbers" .edict) (.cons (.asAttr (.var "self") "weights" (.list .nil)) (.cons (.asAttr (.var "self") "depths" (.list .nil)) .nil))))
noncomputable def m9:ISs:=(.cons (.ret (.call "len" (.cons (.attr (.var "self") "nodes") .nil))) .nil)
noncomputable def m8:ISs:=(.cons (.assign (.name "node") (.bin .Add (.tup (.cons (.var "op") .nil)) (.call "tuple" (.cons (.var "kids") .nil)))) (.cons (.ite (.cmp (.var "node") .In (.attr (.var "self") "numbers")) (.cons (.ret (.sub (.attr (.var "self") "numbers") (.var "node"))) .nil) .nil) (.cons (.expr (.meth (.var "self") "require" (.cons (.var "op") .nil))) (.cons (.each (.name "kid") false (.sub (.var "node") (.slc (.int (1)) .none .none)) (.cons (.ite (.not (.cmp2 (.int (0)) .LtE (.var "kid") .Lt (.call "len" (.cons (.attr (.var "self") "nodes") .nil)))) (.cons .bad .nil) .nil) .nil)) (.cons (.asSub (.attr (.var "self") "numbers") (.var "node") (.call "len" (.cons (.attr (.var "self") "nodes") .nil))) (.cons (.expr (.meth (.attr (.var "self") "nodes") "append" (.cons (.var "node") .nil))) (.cons (.expr (.meth (.attr (.var "self") "weights") "append" (.cons (.bin .Add (.int (1)) (.call "sum" (.cons (.comp (.sub (.attr (.var "self") "weights") (.var "kid")) (.name "kid") false (.sub (.var "node") (.slc (.int (1)) .none .none)) (.bool true)) .nil))) .nil))) (.cons (.expr (.meth (.attr (.var "self") "depths") "append" (.cons (.bin .Add (.int (1)) (.call "max" (.cons (.bin .Add (.comp (.sub (.attr (.var "self") "depths") (.var "kid")) (.name "kid") false (.sub (.var "node") (.slc (.int (1)) .none .none)) (.bool true)) (.list (.cons (.int (0)) .nil))) .nil))) .nil))) (.cons (.ret (.bin .Sub (.call "len" (.cons (.attr (.var "self") "nodes") .nil)) (.int (1)))) .nil)))))))))
noncomputable def kj:ISs:=(.cons (.ite (.bools .Or (.cons (.not (.call "is_op" (.cons (.var "op") .nil))) (.cons (.cmp (.sub (.var "op") (.int (0))) .Eq (.str "?")) .nil))) (.cons .bad .nil) .nil) .nil)
noncomputable def pj:ISs:=(.cons (.ret (.sub (.sub (.attr (.var "self") "nodes") (.var "n")) (.int (0)))) .nil)
noncomputable def m_:ISs:=(.cons (.ret (.sub (.sub (.attr (.var "self") "nodes") (.var "n")) (.slc (.int (1)) .none .none))) .nil)
noncomputable def m6:ISs:=(.cons (.asAttr (.var "self") "bank" (.call "Bank" .nil)) (.cons (.asAttr (.var "self") "unions" (.call "Unions" .nil)) (.cons (.asAttr (.var "self") "edges" (.list .nil)) (.cons (.asAttr (.var "self") "forest" (.list .nil)) (.cons (.asAttr (.var "self") "known" .edict) (.cons (.asAttr (.var "self") "above" .edict) (.cons (.asAttr (.var "self") "waiting" (.list .nil)) .nil)))))))
noncomputable def mY:ISs:=(.cons (.ret (.meth (.attr (.var "self") "bank") "size" .nil)) .nil)
noncomputable def mZ:ISs:=(.cons (.ret (.bin .Add (.tup (.cons (.meth (.attr (.var "self") "bank") "op" (.cons (.var "n") .nil)) .nil)) (.call "tuple" (.cons (.comp (.meth (.var "self") "find" (.cons (.var "kid") .nil)) (.name "kid") false (.meth (.attr (.var "self") "bank") "kids" (.cons (.var "n") .nil)) (.bool true)) .nil)))) .nil)
noncomputable def oe:ISs:=(.cons (.assign (.name "n") (.meth (.attr (.var "self") "bank") "take" (.cons (.var "op") (.cons (.var "numbers") .nil)))) (.cons (.ite (.cmp (.var "n") .Lt (.meth (.attr (.var "self") "unions") "size" .nil)) (.cons (.ret (.var "n")) .nil) .nil) (.cons (.expr (.meth (.attr (.var "self") "unions") "make" .nil)) (.cons (.asSub (.attr (.var "self") "above") (.var "n") (.list .nil)) (.cons (.each (.name "c") false (.call "sorted" (.cons (.call "set" (.cons (.comp (.meth (.var "self") "find" (.cons (.var "kid") .nil)) (.name "kid") false (.var "numbers") (.bool true)) .nil)) .nil)) (.cons (.expr (.meth (.sub (.attr (.var "self") "above") (.var "c")) "append" (.cons (.var "n") .nil))) .nil)) (.cons (.expr (.meth (.var "self") "look_at" (.cons (.var "n") .nil))) (.cons (.ret (.var "n")) .nil)))))))
noncomputable def kf:ISs:=(.cons (.assign (.name "other") (.meth (.attr (.var "self") "known") "setdefault" (.cons (.meth (.var "self") "node" (.cons (.var "n") .nil)) (.cons (.var "n") .nil)))) (.cons (.ite (.cmp (.meth (.var "self") "find" (.cons (.var "other") .nil)) .NotEq (.meth (.var "self") "find" (.cons (.var "n") .nil))) (.cons (.expr (.meth (.var "self") "join" (.cons (.var "other") (.cons (.var "n") (.cons (.tup (.cons (.str "like") .nil)) .nil))))) .nil) .nil) .nil))
noncomputable def m7:ISs:=(.cons (.ret (.meth (.attr (.var "self") "unions") "find" (.cons (.var "n") .nil))) .nil)
noncomputable def lZ:ISs:=(.cons (.ret (.meth (.var "self") "join" (.cons (.var "a") (.cons (.var "b") (.cons (.var "reason") .nil))))) .nil)
noncomputable def m5:ISs:=(.cons (.expr (.meth (.attr (.var "self") "edges") "append" (.cons (.tup (.cons (.var "a") (.cons (.var "b") (.cons (.var "reason") .nil)))) .nil))) (.cons (.assign (.name "merged") (.meth (.attr (.var "self") "unions") "merge" (.cons (.var "a") (.cons (.var "b") .nil)))) (.cons (.ite (.cmp (.var "merged") .Is .none) (.cons (.ret (.bool false)) .nil) .nil) (.cons (.assign (.tup (.cons (.name "kept") (.cons (.name "gone") .nil))) (.var "merged")) (.cons (.expr (.meth (.attr (.var "self") "forest") "append" (.cons (.bin .Sub (.call "len" (.cons (.attr (.var "self") "edges") .nil)) (.int (1))) .nil))) (.cons (.expr (.meth (.attr (.var "self") "waiting") "extend" (.cons (.sub (.attr (.var "self") "above") (.var "gone")) .nil))) (.cons (.asSub (.attr (.var "self") "above") (.var "kept") (.bin .Add (.sub (.attr (.var "self") "above") (.var "kept")) (.meth (.attr (.var "self") "above") "pop" (.cons (.var "gone") .nil)))) (.cons (.ret (.bool true)) .nil))))))))
noncomputable def k6:ISs:=(.cons (.loop (.cmp (.call "len" (.cons (.attr (.var "self") "waiting") .nil)) .Gt (.int (0))) (.cons (.expr (.meth (.var "self") "look_at" (.cons (.meth (.attr (.var "self") "waiting") "pop" .nil) .nil))) .nil)) .nil)
noncomputable def kh:ISs:=(.cons (.ret (.meth (.attr (.var "self") "unions") "classes" .nil)) .nil)
noncomputable def n_:ISs:=(.cons (.ret (.bools .And (.cons (.cmp (.var "text") .NotEq (.str "")) (.cons (.cmp (.comp (.var "sign") (.name "sign") false (.var "text") (.bools .Or (.cons (.meth (.var "sign") "isspace" .nil) (.cons (.cmp (.var "sign") .In (.str "()[]{},:")) .nil)))) .Eq (.list .nil)) .nil)))) .nil)
noncomputable def fA:ISs:=(.cons (.ret (.cmp (.call "len" (.cons (.attr (.var "self") "waiting") .nil)) .Eq (.int (0)))) .nil)
noncomputable def gH:ISs:=(.cons (.ret (.call "len" (.cons (.call "set" (.cons (.comp (.meth (.var "self") "node" (.cons (.var "n") .nil)) (.name "n") false (.call "range" (.cons (.meth (.var "self") "size" .nil) .nil)) (.bool true)) .nil)) .nil))) .nil)
noncomputable def iL:ISs:=(.cons (.ret (.meth (.attr (.var "self") "unions") "members" (.cons (.var "c") .nil))) .nil)
noncomputable def oa:ISs:=(.cons (.ret (.meth (.var "self") "add" (.cons (.sub (.var "term") (.int (0))) (.cons (.call "tuple" (.cons (.comp (.meth (.var "self") "put" (.cons (.var "part") .nil)) (.name "part") false (.sub (.var "term") (.slc (.int (1)) .none .none)) (.bool true)) .nil)) .nil)))) .nil)
noncomputable def gG:ISs:=(.cons (.ret (.call "sorted" (.cons (.sub (.attr (.var "self") "lots") (.meth (.var "self") "find" (.cons (.var "a") .nil))) .nil))) .nil)
noncomputable def jr:ISs:=(.cons (.assign (.tup (.cons (.name "below") (.cons (.name "stack") .nil))) (.tup (.cons (.dict1 (.cons (.var "n") (.cons (.bool true) .nil))) (.cons (.list (.cons (.var "n") .nil)) .nil)))) (.cons (.loop (.cmp (.call "len" (.cons (.var "stack") .nil)) .Gt (.int (0))) (.cons (.each (.name "kid") false (.meth (.var "self") "kids" (.cons (.meth (.var "stack") "pop" .nil) .nil)) (.cons (.ite (.cmp (.var "kid") .NotIn (.var "below")) (.cons (.asSub (.var "below") (.var "kid") (.bool true)) (.cons (.expr (.meth (.var "stack") "append" (.cons (.var "kid") .nil))) .nil)) .nil) .nil)) .nil)) (.cons (.assign (.name "made") .edict) (.cons (.each (.name "k") false (.call "sorted" (.cons (.var "below") .nil)) (.cons (.asSub (.var "made") (.var "k") (.bin .Add (.tup (.cons (.meth (.var "self") "op" (.cons (.var "k") .nil)) .nil)) (.call "tuple" (.cons (.comp (.sub (.var "made") (.var "kid")) (.name "kid") false (.meth (.var "self") "kids" (.cons (.var "k") .nil)) (.bool true)) .nil)))) .nil)) (.cons (.ret (.sub (.var "made") (.var "n"))) .nil)))))
noncomputable def nc:ISs:=(.cons (.assign (.tup (.cons (.name "cells") (.cons (.name "spot") .nil))) (.var "feed")) (.cons (.asSub (.var "feed") (.int (1)) (.bin .Add (.var "spot") (.int (1)))) (.cons (.ite (.cmp (.var "spot") .Lt (.call "len" (.cons (.var "cells") .nil))) (.cons (.ret (.bin .Mod (.sub (.var "cells") (.var "spot")) (.var "wide"))) .nil) .nil) (.cons (.ret (.bin .Mod (.bin .Mod (.bin .Add (.bin .Mult (.int (7)) (.var "spot")) (.int (5))) (.int (31))) (.var "wide"))) .nil))))
noncomputable def l5:ISs:=(.cons (.assign (.name "found") (.list (.cons (.tup (.cons (.str "a") .nil)) (.cons (.tup (.cons (.str "b") .nil)) .nil)))) (.cons (.each (.name "lap") false (.call "range" (.cons (.bin .Add (.int (2)) (.call "_law_draw" (.cons (.var "feed") (.cons (.int (5)) .nil)))) .nil)) (.cons (.assign (.tup (.cons (.name "way") (.cons (.name "one") .nil))) (.tup (.cons (.call "_law_draw" (.cons (.var "feed") (.cons (.int (4)) .nil))) (.cons (.sub (.var "found") (.call "_law_draw" (.cons (.var "feed") (.cons (.call "len" (.cons (.var "found") .nil)) .nil)))) .nil)))) (.cons (.assign (.name "leaf") (.sub (.var "found") (.call "_law_draw" (.cons (.var "feed") (.cons (.int (2)) .nil))))) (.cons (.assign (.name "late") (.sub (.list (.cons (.tup (.cons (.str "c") .nil)) (.cons (.tup (.cons (.str "f") (.cons (.var "one") .nil))) (.cons (.tup (.cons (.str "g") (.cons (.var "one") (.cons (.var "leaf") .nil)))) (.cons (.tup (.cons (.str "g") (.cons (.var "leaf") (.cons (.var "one") .nil)))) .nil))))) (.var "way"))) (.cons (.ite (.cmp (.var "late") .NotIn (.var "found")) (.cons (.expr (.meth (.var "found") "append" (.cons (.var "late") .nil))) .nil) .nil) .nil))))) (.cons (.ret (.var "found")) .nil)))
noncomputable def l4:ISs:=(.cons (.assign (.name "found") (.list .nil)) (.cons (.each (.tup (.cons (.name "k") (.cons (.name "one") .nil))) true (.var "some") (.cons (.each (.name "other") false (.sub (.var "some") (.slc .none (.var "k") .none)) (.cons (.ite (.bools .And (.cons (.cmp (.sub (.var "one") (.int (0))) .Eq (.sub (.var "other") (.int (0)))) (.cons (.cmp (.call "len" (.cons (.var "one") .nil)) .Eq (.call "len" (.cons (.var "other") .nil))) (.cons (.cmp (.sub (.var "home") (.var "one")) .NotEq (.sub (.var "home") (.var "other"))) .nil)))) (.cons (.ite (.cmp (.comp (.sub (.var "home") (.var "part")) (.name "part") false (.sub (.var "one") (.slc (.int (1)) .none .none)) (.bool true)) .Eq (.comp (.sub (.var "home") (.var "part")) (.name "part") false (.sub (.var "other") (.slc (.int (1)) .none .none)) (.bool true))) (.cons (.expr (.meth (.var "found") "append" (.cons (.tup (.cons (.var "one") (.cons (.var "other") .nil))) .nil))) .nil) .nil) .nil) .nil) .nil)) .nil)) (.cons (.ret (.var "found")) .nil)))
noncomputable def k7:ISs:=(.cons (.assign (.tup (.cons (.name "home") (.cons (.name "wishes") .nil))) (.tup (.cons (.call "dict" (.cons (.comp (.tup (.cons (.var "term") (.cons (.var "place") .nil))) (.tup (.cons (.name "place") (.cons (.name "term") .nil))) true (.var "some") (.bool true)) .nil)) (.cons (.call "list" (.cons (.var "pairs") .nil)) .nil)))) (.cons (.loop (.cmp (.var "wishes") .NotEq (.list .nil)) (.cons (.assign (.tup (.cons (.name "one") (.cons (.name "other") .nil))) (.meth (.var "wishes") "pop" .nil)) (.cons (.assign (.tup (.cons (.name "low") (.cons (.name "high") .nil))) (.tup (.cons (.call "min" (.cons (.sub (.var "home") (.var "one")) (.cons (.sub (.var "home") (.var "other")) .nil))) (.cons (.call "max" (.cons (.sub (.var "home") (.var "one")) (.cons (.sub (.var "home") (.var "other")) .nil))) .nil)))) (.cons (.each (.name "term") false (.var "some") (.cons (.ite (.cmp (.sub (.var "home") (.var "term")) .Eq (.var "high")) (.cons (.asSub (.var "home") (.var "term") (.var "low")) .nil) .nil) .nil)) (.cons (.ite (.cmp (.var "wishes") .Eq (.list .nil)) (.cons (.assign (.name "wishes") (.call "_law_twins" (.cons (.var "some") (.cons (.var "home") .nil)))) .nil) .nil) .nil))))) (.cons (.ret (.var "home")) .nil)))
noncomputable def jL:ISs:=(.cons (.assign (.tup (.cons (.name "rest") (.cons (.name "found") .nil))) (.tup (.cons (.call "list" (.cons (.var "tasks") .nil)) (.cons (.list .nil) .nil)))) (.cons (.loop (.cmp (.var "rest") .NotEq (.list .nil)) (.cons (.expr (.meth (.var "found") "append" (.cons (.meth (.var "rest") "pop" (.cons (.call "_law_draw" (.cons (.var "feed") (.cons (.call "len" (.cons (.var "rest") .nil)) .nil))) .nil)) .nil))) (.cons (.ite (.cmp (.call "_law_draw" (.cons (.var "feed") (.cons (.int (3)) .nil))) .Eq (.int (0))) (.cons (.expr (.meth (.var "found") "append" (.cons (.tup (.cons (.str "calm") (.cons .none (.cons .none .nil)))) .nil))) .nil) .nil) .nil))) (.cons (.ret (.var "found")) .nil)))
noncomputable def nh:ISs:=(.cons (.assign (.name "heap") (.call "Heap" .nil)) (.cons (.each (.tup (.cons (.name "kind") (.cons (.name "one") (.cons (.name "other") .nil)))) false (.var "tasks") (.cons (.ite (.cmp (.var "kind") .Eq (.str "put")) (.cons (.expr (.meth (.var "heap") "put" (.cons (.var "one") .nil))) .nil) (.cons (.ite (.cmp (.var "kind") .Eq (.str "like")) (.cons (.expr (.meth (.var "heap") "merge" (.cons (.meth (.var "heap") "put" (.cons (.var "one") .nil)) (.cons (.meth (.var "heap") "put" (.cons (.var "other") .nil)) (.cons (.tup (.cons (.str "told") (.cons (.str "x") .nil))) .nil))))) .nil) (.cons (.expr (.meth (.var "heap") "settle" .nil)) .nil)) .nil)) .nil)) (.cons (.expr (.meth (.var "heap") "settle" .nil)) (.cons (.ret (.var "heap")) .nil))))
noncomputable def og:ISs:=(.cons (.assign (.name "feed") (.list (.cons (.comp (.bin .Mod (.var "cell") (.int (9973))) (.name "cell") false (.sub (.var "script") (.slc .none (.int (60)) .none)) (.bool true)) (.cons (.int (0)) .nil)))) (.cons (.assign (.tup (.cons (.name "some") (.cons (.name "pairs") .nil))) (.tup (.cons (.call "_law_terms" (.cons (.var "feed") .nil)) (.cons (.list .nil) .nil)))) (.cons (.each (.name "lap") false (.call "range" (.cons (.bin .Add (.int (1)) (.call "_law_draw" (.cons (.var "feed") (.cons (.int (3)) .nil)))) .nil)) (.cons (.assign (.name "one") (.sub (.var "some") (.call "_law_draw" (.cons (.var "feed") (.cons (.call "len" (.cons (.var "some") .nil)) .nil))))) (.cons (.expr (.meth (.var "pairs") "append" (.cons (.tup (.cons (.var "one") (.cons (.sub (.var "some") (.call "_law_draw" (.cons (.var "feed") (.cons (.call "len" (.cons (.var "some") .nil)) .nil)))) .nil))) .nil))) .nil))) (.cons (.assign (.tup (.cons (.name "puts") (.cons (.name "likes") .nil))) (.tup (.cons (.comp (.tup (.cons (.str "put") (.cons (.var "term") (.cons (.var "term") .nil)))) (.name "term") false (.var "some") (.bool true)) (.cons (.comp (.tup (.cons (.str "like") (.cons (.var "one") (.cons (.var "other") .nil)))) (.tup (.cons (.name "one") (.cons (.name "other") .nil))) false (.var "pairs") (.bool true)) .nil)))) (.cons (.assign (.name "home") (.call "_law_closed" (.cons (.var "some") (.cons (.var "pairs") .nil)))) (.cons (.assign (.name "due") (.call "sorted" (.cons (.comp (.call "sorted" (.cons (.comp (.var "term") (.name "term") false (.var "some") (.cmp (.sub (.var "home") (.var "term")) .Eq (.var "place"))) .nil)) (.name "place") false (.call "set" (.cons (.meth (.var "home") "values" .nil) .nil)) (.bool true)) .nil))) (.cons (.assign (.name "canonical") (.call "set" (.cons (.comp (.bin .Add (.tup (.cons (.sub (.var "term") (.int (0))) .nil)) (.call "tuple" (.cons (.comp (.sub (.var "home") (.var "part")) (.name "part") false (.sub (.var "term") (.slc (.int (1)) .none .none)) (.bool true)) .nil))) (.name "term") false (.var "some") (.bool true)) .nil))) (.cons (.each (.name "tasks") false (.tup (.cons (.bin .Add (.var "puts") (.var "likes")) (.cons (.bin .Add (.sub (.var "likes") (.slc .none .none (.neg (.int (1))))) (.sub (.var "puts") (.slc .none .none (.neg (.int (1)))))) (.cons (.call "_law_shuffled" (.cons (.var "feed") (.cons (.bin .Add (.var "puts") (.var "likes")) .nil))) .nil)))) (.cons (.assign (.name "heap") (.call "_law_done" (.cons (.var "tasks") .nil))) (.cons (.assign (.name "lots") (.comp (.call "sorted" (.cons (.comp (.meth (.attr (.var "heap") "bank") "term" (.cons (.var "n") .nil)) (.name "n") false (.meth (.var "heap") "members" (.cons (.var "c") .nil)) (.bool true)) .nil)) (.name "c") false (.meth (.var "heap") "classes" .nil) (.bool true))) (.cons (.ite (.bools .Or (.cons (.cmp (.call "sorted" (.cons (.var "lots") .nil)) .NotEq (.var "due")) (.cons (.not (.meth (.var "heap") "is_settled" .nil)) (.cons (.cmp (.meth (.var "heap") "size" .nil) .NotEq (.call "len" (.cons (.var "some") .nil))) .nil)))) (.cons (.ret (.bool false)) .nil) .nil) (.cons (.ite (.bools .Or (.cons (.cmp (.meth (.var "heap") "many_nodes" .nil) .NotEq (.call "len" (.cons (.var "canonical") .nil))) (.cons (.cmp (.call "len" (.cons (.attr (.var "heap") "forest") .nil)) .NotEq (.bin .Sub (.call "len" (.cons (.var "some") .nil)) (.call "len" (.cons (.var "due") .nil)))) .nil))) (.cons (.ret (.bool false)) .nil) .nil) .nil))))) (.cons (.ret (.bool true)) .nil)))))))))
noncomputable def nmE:List String:=["", " is no op of a ground term", "()[]{},:", "?", "Bank", "Exception", "Heap", "HeapError", "TermFault", "Unions", "__init__", "__name__", "_law_closed", "_law_done", "_law_draw", "_law_shuffled", "_law_terms", "_law_twins", "_wall", "a", "above", "add", "alikeheap.errors", "alikeheap.heap", "alikeheap.terms", "alikeheap.unions", "append", "are_like", "b", "back", "bank", "below", "c", "calm", "canonical", "cell", "cells", "classes", "cut", "depth", "depths", "dict", "due", "edges", "enumerate", "extend", "f", "feed", "find", "forest", "found", "g", "get", "gone", "heap", "high", "home", "is_op", "is_settled", "isspace", "join", "k", "kept", "kid", "kids", "kind", "known", "lap", "late", "law", "law_pq0050_05", "leaf", "len", "like", "likes", "list", "log", "look_at", "lots", "low", "made", "make", "many", "many_nodes", "max", "members", "merge", "merged", "min", "n", "no term has the number ", "node", "nodes", "nodes_of", "numbers", "one", "op", "other", "pairs", "part", "parts", "path", "place", "pop", "put", "put_all", "puts", "range", "reason", "require", "rest", "script", "seek", "self", "set", "setdefault", "settle", "sign", "size", "some", "sorted", "spot", "stack", "sum", "super", "t", "take", "tasks", "term", "text", "told", "tuple", "unions", "users", "values", "waiting", "way", "weight", "weights", "what", "wide", "wishes", "x"]
noncomputable def l6:List ao:=[3,256,255,174,173,386,385,192,191,199,198,206,205,213,212,220,219,232,231,86,85,93,92,98,97,105,104,131,130,138,137,274,273,281,280,286,285,291,290,303,302,310,309,324,323,331,330,338,337,352,351,67,66,150,149,227,226,359,358,371,370,296,295,345,344,397,396,404,403,409,408,414,413,421,420,428,427,433,432]
noncomputable def gF(K:rT):nn:=([decide ((ab "len") ≠ "__name__"),decide ((ab "sorted") ≠ "__name__"),decide ((ab "sum") ≠ "__name__"),decide ((ab "max") ≠ "__name__"),decide ((ab "min") ≠ "__name__"),decide ((ab "set") ≠ "__name__"),decide ((ab "tuple") ≠ "__name__"),decide ((ab "list") ≠ "__name__"),decide ((ab "range") ≠ "__name__"),decide ((ab "enumerate") ≠ "__name__"),makesIn K 256,isFn K (.ref 192),j9 K 256,mN K 256 "", pW K 256,sN K 256,isFn K (.ref 199),isFn K (.ref 206),isFn K (.ref 213),isFn K (.ref 220),isFn K (.ref 232),makesIn K 174,isFn K (.ref 86),j9 K 174,mN K 174 "", pW K 174,sN K 174,isFn K (.ref 93),isFn K (.ref 98),isFn K (.ref 105),isFn K (.ref 131),isFn K (.ref 138),makesIn K 386,isFn K (.ref 274),j9 K 386,mN K 386 "", pW K 386,sN K 386,isFn K (.ref 281),isFn K (.ref 286),isFn K (.ref 291),isFn K (.ref 303),isFn K (.ref 310),isFn K (.ref 324),isFn K (.ref 331),isFn K (.ref 338),isFn K (.ref 352),isFn K (.ref 150),isFn K (.ref 227),isFn K (.ref 359),isFn K (.ref 371),isFn K (.ref 296),isFn K (.ref 345),decide ((ab "dict") ≠ "__name__")],
 [nsIn K bK (ab "len"),some (dL (ab "len")),nsIn K bK (ab "sorted"),some (dL (ab "sorted")),nsIn K bK (ab "sum"),some (dL (ab "sum")),nsIn K bK (ab "max"),some (dL (ab "max")),nsIn K bK (ab "min"),some (dL (ab "min")),nsIn K bK (ab "set"),some (dL (ab "set")),nsIn K bK (ab "tuple"),some (dL (ab "tuple")),nsIn K bK (ab "list"),some (dL (ab "list")),nsIn K bK (ab "range"),some (dL (ab "range")),nsIn K bK (ab "enumerate"),some (dL (ab "enumerate")),findIn K (.ref 256) "__init__", nsIn K bK (ab "Unions"),findIn K (.ref 256) (ab "above"),findIn K (.ref 256) "__setattr__", takerIn K 256 (ab "above"),findIn K (.ref 256) (ab "lots"),takerIn K 256 (ab "lots"),findIn K (.ref 256) (ab "merged"),takerIn K 256 (ab "merged"),findIn K (.ref 256) (ab "make"),findIn K (.ref 256) (ab "size"),findIn K (.ref 256) (ab "find"),findIn K (.ref 256) (ab "merge"),findIn K (.ref 256) (ab "classes"),findIn K (.ref 174) "__init__", nsIn K bK (ab "Bank"),findIn K (.ref 174) (ab "nodes"),findIn K (.ref 174) "__setattr__", takerIn K 174 (ab "nodes"),findIn K (.ref 174) (ab "numbers"),takerIn K 174 (ab "numbers"),findIn K (.ref 174) (ab "weights"),takerIn K 174 (ab "weights"),findIn K (.ref 174) (ab "depths"),takerIn K 174 (ab "depths"),findIn K (.ref 174) (ab "size"),findIn K (.ref 174) (ab "take"),findIn K (.ref 174) (ab "require"),findIn K (.ref 174) (ab "op"),findIn K (.ref 174) (ab "kids"),findIn K (.ref 386) "__init__", nsIn K bK (ab "Heap"),findIn K (.ref 386) (ab "bank"),findIn K (.ref 386) "__setattr__", takerIn K 386 (ab "bank"),findIn K (.ref 386) (ab "unions"),takerIn K 386 (ab "unions"),findIn K (.ref 386) (ab "edges"),takerIn K 386 (ab "edges"),findIn K (.ref 386) (ab "forest"),takerIn K 386 (ab "forest"),findIn K (.ref 386) (ab "known"),takerIn K 386 (ab "known"),findIn K (.ref 386) (ab "above"),takerIn K 386 (ab "above"),findIn K (.ref 386) (ab "waiting"),takerIn K 386 (ab "waiting"),findIn K (.ref 386) (ab "size"),findIn K (.ref 386) (ab "node"),findIn K (.ref 386) (ab "add"),findIn K (.ref 386) (ab "look_at"),findIn K (.ref 386) (ab "find"),findIn K (.ref 386) (ab "merge"),findIn K (.ref 386) (ab "join"),findIn K (.ref 386) (ab "settle"),findIn K (.ref 386) (ab "classes"),nsIn K bK (ab "is_op"),findIn K (.ref 174) (ab "term"),findIn K (.ref 256) (ab "members"),findIn K (.ref 386) (ab "members"),findIn K (.ref 386) (ab "many_nodes"),findIn K (.ref 386) (ab "put"),findIn K (.ref 386) (ab "is_settled"),nsIn K bK (ab "_law_draw"),nsIn K bK (ab "_law_terms"),nsIn K bK (ab "_law_twins"),nsIn K bK (ab "_law_closed"),nsIn K bK (ab "_law_shuffled"),nsIn K bK (ab "_law_done"),nsIn K bK (ab "law"),nsIn K bK (ab "dict"),some (dL (ab "dict"))],
 [bP nmE K 192 ["self"],bP nmE K 199 ["self"],bP nmE K 206 ["self"],bP nmE K 213 ["self", "a"],bP nmE K 220 ["self", "a", "b"],bP nmE K 232 ["self"],bP nmE K 86 ["self"],bP nmE K 93 ["self"],bP nmE K 98 ["self", "op", "kids"],bP nmE K 105 ["self", "op"],bP nmE K 131 ["self", "n"],bP nmE K 138 ["self", "n"],bP nmE K 274 ["self"],bP nmE K 281 ["self"],bP nmE K 286 ["self", "n"],bP nmE K 291 ["self", "op", "numbers"],bP nmE K 303 ["self", "n"],bP nmE K 310 ["self", "n"],bP nmE K 324 ["self", "a", "b", "reason"],bP nmE K 331 ["self", "a", "b", "reason"],bP nmE K 338 ["self"],bP nmE K 352 ["self"],bP nmE K 67 ["text"],bP nmE K 150 ["self", "n"],bP nmE K 227 ["self", "a"],bP nmE K 359 ["self", "c"],bP nmE K 371 ["self"],bP nmE K 296 ["self", "term"],bP nmE K 345 ["self"],bP nmE K 397 ["feed", "wide"],bP nmE K 404 ["feed"],bP nmE K 409 ["some", "home"],bP nmE K 414 ["some", "pairs"],bP nmE K 421 ["feed", "tasks"],bP nmE K 428 ["tasks"],bP nmE K 433 ["script"]])
noncomputable def gE:nn:=([true,true,true,true,true,true,true,true,true,true,true,true,true,true,true,true,true,true,true,true,true,true,true,true,true,true,true,true,true,true,true,true,true,true,true,true,true,true,true,true,true,true,true,true,true,true,true,true,true,true,true,true,true,true],
 [some none,some (some (.builtin "len")),some none,some (some (.builtin "sorted")),some none,some (some (.builtin "sum")),some none,some (some (.builtin "max")),some none,some (some (.builtin "min")),some none,some (some (.type "set")),some none,some (some (.type "tuple")),some none,some (some (.type "list")),some none,some (some (.type "range")),some none,some (some (.type "enumerate")),some (some (.ref 192)),some (some (.ref 256)),some none,some (some (.builtin "object.__setattr__")),some none,some none,some none,some none,some none,some (some (.ref 199)),some (some (.ref 206)),some (some (.ref 213)),some (some (.ref 220)),some (some (.ref 232)),some (some (.ref 86)),some (some (.ref 174)),some none,some (some (.builtin "object.__setattr__")),some none,some none,some none,some none,some none,some none,some none,some (some (.ref 93)),some (some (.ref 98)),some (some (.ref 105)),some (some (.ref 131)),some (some (.ref 138)),some (some (.ref 274)),some (some (.ref 386)),some none,some (some (.builtin "object.__setattr__")),some none,some none,some none,some none,some none,some none,some none,some none,some none,some none,some none,some none,some none,some (some (.ref 281)),some (some (.ref 286)),some (some (.ref 291)),some (some (.ref 303)),some (some (.ref 310)),some (some (.ref 324)),some (some (.ref 331)),some (some (.ref 338)),some (some (.ref 352)),some (some (.ref 67)),some (some (.ref 150)),some (some (.ref 227)),some (some (.ref 359)),some (some (.ref 371)),some (some (.ref 296)),some (some (.ref 345)),some (some (.ref 397)),some (some (.ref 404)),some (some (.ref 409)),some (some (.ref 414)),some (some (.ref 421)),some (some (.ref 428)),some (some (.ref 433)),some none,some (some (.type "dict"))],
 [some mW,some mV,some mU,some mX,some lY,some j_,some nb,some m9,some m8,some kj,some pj,some m_,some m6,some mY,some mZ,some oe,some kf,some m7,some lZ,some m5,some k6,some kh,some n_,some jr,some gG,some iL,some gH,some oa,some fA,some nc,some l5,some l4,some k7,some jL,some nh,some og])
theorem _fO(w:cy)(os:OsState):(topFrom treeTable eR w 5608 ⟨sQ w.params,Array.mk [],rJ,sP,os⟩).map (λs=>gF (n9 l6 s.heap))=some gE:=by
 unfold topFrom
 rw[jR]
 kernel_rfl
theorem _fP{prog:bS}{w:cy}{Fz:Fzn}{σ:af}{s s':ah}(e:s'.heap=s.heap)(S:St prog w Fz σ s.heap):St prog w Fz σ s'.heap:=e ▸ S
structure Fr where
 W:Str->Prop
 env:oU
 A:bB
noncomputable def NK(env:oU)(W:Str->Prop)(ks:List (Str×bq)):Prop:=
 ∀x k,ks.lookup x=some k->(k = .local->env.kindOf x=some .local)/\(k = .cell->env.kindOf x=some .cell/\W x)/\(k = .free->env.kindOf x=some .free\/env.kindOf x=some .cell)/\(k = .globalImplicit->env.kindOf x=some .globalImplicit)
structure FS(c:Cx)(d:Nat)(ks:List (Str×bq))(Γ:Fr)(Fz:Fzn)(m:Loc)(σ:af)(h:a_):Prop where
 base:q8 c
 nk:NK Γ.env Γ.W ks
 room:lH Γ.A d
 bs:Bs c Fz
 st:St c.prog c.w Fz σ h
 fm:Fm Γ.W Γ.env m Fz σ h
theorem RVs.nil_inv{h:a_}{vs:List ae}(r:RVs h vs []):vs=[]:=r
theorem RVs.one{h:a_}{v:ae}{a:AV}(r:RV h v a):RVs h [v] [a]:=.cons r .nil
theorem RVs.two{h:a_}{v u:ae}{a b:AV}(r:RV h v a)(q:RV h u b):RVs h [v,u] [a,b]:=.cons r (.cons q .nil)
section
variable(c:Cx)(d:Nat)(ks:List (Str×bq))
noncomputable abbrev KV(Γ:Fr)(Fz:Fzn)(m:Loc)(s:ah)(Q:AV->af->Prop)(P:ae->ah->Prop):Prop:=
 ∀v av aX s',FS c d ks Γ Fz m aX s'.heap->cR s s'->RV s'.heap v av->Q av aX->P v s'
noncomputable def EvS(ir:IE)(e:Expr):Prop:=
 ∀Γ Fz m σ s Q P E,FS c d ks Γ Fz m σ s.heap->wpE c d ir m σ Q->KV c d ks Γ Fz m s Q P->wpAny c.M Γ.A (eval e Γ.env) P E s
noncomputable abbrev KB(Γ:Fr)(Fz:Fzn)(m:Loc)(s:ah)(Q:Bool->af->Prop)(P:Bool->ah->Prop):Prop:=
 ∀b aX s',FS c d ks Γ Fz m aX s'.heap->cR s s'->Q b aX->P b s'
noncomputable def TvS(ir:IE)(e:Expr):Prop:=
 ∀Γ Fz m σ s Q QB P E,FS c d ks Γ Fz m σ s.heap->wpE c d ir m σ Q->(∀v aX,Q v aX->dN v λb=>QB b aX)->KB c d ks Γ Fz m s QB P->wpAny c.M Γ.A (isTrue e Γ.env (eval e Γ.env)) P E s
noncomputable def Snd(ir:IE)(e:Expr):Prop:=EvS c d ks ir e/\TvS c d ks ir e
noncomputable def ASg(tg:Tgt)(t:Expr):Prop:=
 ∀Γ Fz m σ s v av k P E,FS c d ks Γ Fz m σ s.heap->RV s.heap v av->eC c d tg av m σ k->(∀m' s',FS c d ks Γ Fz m' σ s'.heap->cR s s'->k m'->P () s')->wpAny c.M Γ.A (assign t Γ.env v) P E s
end
section
variable{c:Cx}{d:Nat}{ks:List (Str×bq)}{Γ:Fr}{Fz:Fzn}{m:Loc}{σ:af}{s:ah}{E:ae->ah->Prop}{P:ae->ah->Prop}{Q:AV->af->Prop}
theorem FS.next{m':Loc}{aX:af}{h h':a_}(x:FS c d ks Γ Fz m σ h)(S:St c.prog c.w Fz aX h')(F:Fm Γ.W Γ.env m' Fz aX h'):FS c d ks Γ Fz m' aX h':=⟨x.base,x.nk,x.room,x.bs,S,F⟩
theorem FS.kin{h:a_}(x:FS c d ks Γ Fz m σ h):c.K.In h:=x.base.kin.keeps λb o e=>x.st.fz b o (x.bs b o e)
theorem Go.kin{A:bB}(G:Go c d A Fz σ s):c.K.In s.heap:=G.base.kin.keeps λb o e=>G.st.fz b o (G.bs b o e)
theorem FS.same{s s':ah}(e:iu s s')(F:FS c d ks Γ Fz m σ s.heap):FS c d ks Γ Fz m σ s'.heap:=e.h ▸ F
theorem FS.push{h:a_}(x:FS c d ks Γ Fz m σ h)(o:iF):FS c d ks Γ Fz m σ (h.push o):=x.next (x.st.push o) (x.fm.more (_p h o))
theorem cR.push(s:ah)(o:iF):cR s {s with heap:=s.heap.push o}:=⟨_f (_p s.heap o),rfl,rfl⟩
theorem FS.go(F:FS c d ks Γ Fz m σ s.heap):Go c d Γ.A (Frz Γ.env Fz s.heap) σ s:=⟨F.room,F.base,λb o e=>.inl (F.bs b o e),F.st.freeze F.fm⟩
theorem FS.back{aX:af}{h h':a_}(F:FS c d ks Γ Fz m σ h)(S:St c.prog c.w (Frz Γ.env Fz h) aX h')(g:de h h'):FS c d ks Γ Fz m aX h':=F.next S.unfreeze (F.fm.thaw S g)
theorem _E{o:OpK}{as:List AV}{vs:List ae}(F:FS c d ks Γ Fz m σ s.heap)(r:RVs s.heap vs as)(h:ct c d o as σ Q)(k:KV c d ks Γ Fz m s Q P):wpAny c.M Γ.A (o.sem vs) P E s:=
 h.run _ _ s vs P E F.go r λv av aX s' S g=>k v av aX s' (F.back S g.g) g
theorem _0o{v:ae}{av:AV}{q:Bool->Prop}{P:Bool->ah->Prop}(r:RV s.heap v av)(h:dN av q)(k:∀b,q b->P b s):wpAny c.M Γ.A (truthy v) P E s:=by
 cases av with
 | none=>obtain rfl:v = .none:=r;exact ad (k _ h)
 | bool b=>obtain rfl:v = .bool b:=r;exact ad (k _ h)
 | _=>exact h.elim
theorem _27{ir:IE}{e:Expr}{a:AV}(hw:∀m σ Q,wpE c d ir m σ Q->Q a σ)(he:∀M A env s (P:ae->ah->Prop) E,(∀v s',iu s s'->RV s'.heap v a->P v s')->wpAny M A (eval e env) P E s):EvS c d ks ir e:=
 λΓ Fz m σ s Q P E F h k=>he _ _ _ _ _ _ λv s' e r=>k v a σ s' (F.same e) e.grow r (hw _ _ _ h)
theorem _fQ{e:Expr}{x:IE}(he:EvS c d ks x e)(hi:∀env whole,isTrue e env whole=(do let v <-whole;standAt e.pos;holding [v] (truthy v))):TvS c d ks x e:=
 λΓ Fz m σ s Q QB P E F h hQ k=>wpAny_isTrue_value (he Γ Fz m σ s Q _ E F h λv av σ₁ bU F₁ g₁ r₁ q₁=>_0o r₁ (hQ _ _ q₁) λb q=>k b σ₁ bU F₁ g₁ q) (hi _ _)
theorem _t{e:Expr}{x:IE}(he:EvS c d ks x e)(hi:∀env whole,isTrue e env whole=(do let v <-whole;standAt e.pos;holding [v] (truthy v))):Snd c d ks x e:=⟨he,_fQ he hi⟩
theorem _C{e:Expr}:Snd c d ks .bad e:=⟨λ_ _ _ _ _ _ _ _ _ h=>h.elim,λ_ _ _ _ _ _ _ _ _ _ h=>h.elim⟩
theorem _Y{b:Bool}{x:IE}{e:Expr}(h:b=true->Snd c d ks x e):Snd c d ks (.when b x) e:=match b,h with
 | true,h=>h rfl
 | false,_=>_C
theorem _0I{nm:List String}{x:Str}{y:String}(e:j5 nm x=some y):ab y=x:=by
 have:=u7 e
 exact beq_iff_eq.mp this
theorem _1b{nm:List String}{x:Str}{k:String->IE}{e:Expr}(h:∀y,ab y=x->Snd c d ks (k y) e):Snd c d ks (.named nm x k) e:=by
 unfold IE.named
 cases q:j5 nm x with
 | none=>exact _C
 | some y=>exact h y (_0I q)
theorem _fR{nm:List String}{k:Const}{n:Nat}{p:jx}:Snd c d ks (rV nm k) (.Constant k n p):=by
 cases k with
 | none=>exact _t (_27 (a:=.none) (λ_ _ _ h=>h) λM A env s P E k=>wpAny_Constant_none (k _ s (.refl s) rfl)) λ_ _=>rfl
 | bool b=>exact _t (_27 (a:=.bool b) (λ_ _ _ h=>h) λM A env s P E k=>wpAny_Constant_bool (k _ s (.refl s) rfl)) λ_ _=>rfl
 | int i=>exact _t (_27 (a:=.int i) (λ_ _ _ h=>h) λM A env s P E k=>wpAny_Constant_int (k _ _ ⟨rfl,rfl,rfl⟩ (RV.int _ _))) λ_ _=>rfl
 | str x=>exact _1b λy e=>_t (_27 (a:=.str y) (λ_ _ _ h=>h) λM A env s P E k=>wpAny_Constant_str (k _ _ ⟨rfl,rfl,rfl⟩ (RV.str y x _ e.symm))) λ_ _=>rfl
 | _=>exact _C
theorem _69{x:String}{id:Str}{pos:jx}{v:ae}{P:ae->ah->Prop}(F:FS c d ks Γ Fz m σ s.heap)(e:ab x=id)(hk:j7 (ks.lookup id)=true)(hd:(id == ("__debug__" : Str))=false)(g:pO c x v)(h:P v s):
  wpAny c.M Γ.A (eval (.Name id pos) Γ.env) P E s:=by
 subst e
 have X:=F.kin
 obtain⟨p,loose,mg,mb,T0⟩:=F.base.top
 have T:=T0.keeps λb o e=>F.st.fz b o (F.bs b o e)
 have hk:Γ.env.kindOf (ab x)=some .globalImplicit:=by
  cases q:ks.lookup (ab x) with
  | none=>rw[q] at hk;cases hk
  | some k=>rw[q] at hk;cases k <;> first | (cases hk;done) | exact(F.nk _ _ q).2.2.2 rfl
 rcases g with g | ⟨g,hv,hn⟩
 ·refine u5 F.fm.fn hk ?_ hd
  unfold loadGlobal
  rw[F.fm.gl]
  exact aa ((looks_nsIn X g).here (ad h))
 ·exact u5 F.fm.fn hk (loadGlobal_builtin (mg:=mg) (mb:=mb) (by rw[F.fm.gl];exact T.g) (mg_none_of X T.g g) (by rw[F.fm.bl];exact T.b) ((T.builtins _ hn).trans hv) h) hd
theorem _fS{x:String}{pos:jx}{av:AV}{P:ae->ah->Prop}(F:FS c d ks Γ Fz m σ s.heap)(hk:qX (ks.lookup (ab x))=true)(hd:(ab x == ("__debug__" : Str))=false)(hn:(ab x == ("__classdict__" : Str))=false)(hm:m.lookup x=some av)
  (h:∀v,RV s.heap v av->P v s):wpAny c.M Γ.A (eval (.Name (ab x) pos) Γ.env) P E s:=by
 have qA:Γ.env.kindOf (ab x)=some .cell\/Γ.env.kindOf (ab x)=some .free->wpAny c.M Γ.A (eval (.Name (ab x) pos) Γ.env) P E s:=by
  intro k
  obtain⟨cc,v,e1,e2,e3⟩:=F.fm.cv x av hm k
  rcases k with k | k
  ·exact wpAny_Name (wpAny_loadName_cell F.fm.fn k e1 e2 (h v e3)) hd
  ·exact wpAny_Name (wpAny_loadName_free F.fm.fn k e1 e2 (h v e3) hn) hd
 cases q:ks.lookup (ab x) with
 | none=>rw[q] at hk;cases hk
 | some k=>
  obtain⟨n1,n2,n3,n4⟩:=F.nk _ _ q
  rw[q] at hk
  cases k with
  | «local»=>
   obtain⟨mL,sq,uG⟩:=F.fm.ns
   obtain⟨v,hv,r⟩:=uG x av hm (n1 rfl)
   exact wpAny_Name (wpAny_loadName_local F.fm.fn (n1 rfl) sq hv (h v r)) hd
  | cell=>exact qA (.inl (n2 rfl).1)
  | free=>exact qA (n3 rfl).symm
  | _=>cases hk
theorem _6a{id:Str}(h:kE id=true):(id == ("__debug__" : Str))=false/\(id == ("__classdict__" : Str))=false:=by
 unfold kE at h
 revert h
 cases id == ("__debug__" : Str) <;> cases id == ("__classdict__" : Str) <;> decide
theorem _fT{nm:List String}{id:Str}{p:jx}:Snd c d ks (s3 nm (ks.lookup id) id) (.Name id p):=by
 refine _Y λhp=>_1b λy e=>?_
 obtain⟨h1,h2⟩:=_6a hp
 subst e
 cases q:qX (ks.lookup (ab y)) with
 | true=>
  refine _t (λΓ Fz m σ s Q P E F h k=>?_) λ_ _=>rfl
  change (match m.lookup y with | some av=>Q av σ | none=>False) at h
  cases e:m.lookup y with
  | none=>rw[e] at h;exact h.elim
  | some av=>rw[e] at h;exact _fS F q h1 h2 e λv r=>k v av σ s F (.refl s) r h
 | false=>exact _C
theorem _fU{a b:Expr}{x y:IE}{op:pc}{pos:jx}(ha:EvS c d ks x a)(hb:EvS c d ks y b):EvS c d ks (.bin op x y) (.BinOp a op b pos):=
 λΓ Fz m σ s Q P E F h k=>wpAny_BinOp (ha _ _ _ _ _ _ _ _ F h λv av σ₁ bU F₁ g₁ r₁ q₁=>hb _ _ _ _ _ _ _ _ F₁ q₁ λu bv bI s₂ F₂ g₂ r₂ q₂=>
  _E (o:=.bin op) F₂ (.two (r₁.grow g₂.g) r₂) q₂ λz cv σ₃ s₃ F₃ g₃=>k z cv σ₃ s₃ F₃ (g₁.trans (g₂.trans g₃)))
theorem _fV{a b:Expr}{x y:IE}{op:io}{pos:jx}(hm:gM op b=false)(ha:EvS c d ks x a)(hb:EvS c d ks y b):EvS c d ks (.cmp x op y) (.Compare a [op] [b] pos):=
 λΓ Fz m σ s Q P E F h k=>wpAny_Compare1 (ha _ _ _ _ _ _ _ _ F h λv av σ₁ bU F₁ g₁ r₁ q₁=>hb _ _ _ _ _ _ _ _ F₁ q₁ λu bv bI s₂ F₂ g₂ r₂ q₂=>
  _E (o:=.cmp op) F₂ (.two (r₁.grow g₂.g) r₂) q₂ λz cv σ₃ s₃ F₃ g₃=>k z cv σ₃ s₃ F₃ (g₁.trans (g₂.trans g₃))) hm
theorem _fW{a b:Expr}{x y:IE}{op:io}{pos:jx}(hm:gM op b=false)(ha:EvS c d ks x a)(hb:EvS c d ks y b):TvS c d ks (.cmp x op y) (.Compare a [op] [b] pos):=
 λΓ Fz m σ s Q QB P E F h hQ k=>wpAny_isTrue_Compare1 (ha _ _ _ _ _ _ _ _ F h λv av σ₁ bU F₁ g₁ r₁ q₁=>hb _ _ _ _ _ _ _ _ F₁ q₁ λu bv bI s₂ F₂ g₂ r₂ q₂=>
  _E (o:=.cmp op) F₂ (.two (r₁.grow g₂.g) r₂) q₂ λz cv σ₃ s₃ F₃ g₃ r₃ q₃=>_0o r₃ (hQ _ _ q₃) λb q=>k b σ₃ s₃ F₃ (g₁.trans (g₂.trans g₃)) q) hm
theorem _fX{a:Expr}{x:IE}{pos:jx}(ha:EvS c d ks x a):EvS c d ks (.not x) (.UnaryOp .Not a pos):=
 λΓ Fz m σ s Q P E F h k=>wpAny_UnaryOp (ha _ _ _ _ _ _ _ _ F h λv av σ₁ bU F₁ g₁ r₁ q₁=>not_value (_0o r₁ q₁ λb q=>k _ (.bool (!b)) σ₁ bU F₁ g₁ rfl q))
theorem dN.imp{v:AV}{q q':Bool->Prop}(h:dN v q)(k:∀b,pG v=some b->q b->q' b):dN v q':=by
 unfold dN at h ⊢
 cases e:pG v with
 | none=>rw[e] at h;exact h
 | some b=>rw[e] at h;exact k b e h
theorem _fY{a:Expr}{x:IE}{pos:jx}(ha:TvS c d ks x a):TvS c d ks (.not x) (.UnaryOp .Not a pos):=
 λΓ Fz m σ s Q QB P E F h hQ k=>wpAny_isTrue_Not (ha _ _ _ _ _ _ (λb aX=>QB (!b) aX) _ _ F h (λv aX q=>q.imp λb _ q=>hQ _ _ q) λb σ₁ bU F₁ g₁ q=>k (!b) σ₁ bU F₁ g₁ q)
theorem _fZ{a:Expr}{x:IE}{pos:jx}(ha:EvS c d ks x a):EvS c d ks (.neg x) (.UnaryOp .USub a pos):=
 λΓ Fz m σ s Q P E F h k=>wpAny_UnaryOp (ha _ _ _ _ _ _ _ _ F h λv av σ₁ bU F₁ g₁ r₁ q₁=>_E (o:=.neg) F₁ (.one r₁) q₁ λz cv σ₃ s₃ F₃ g₃=>k z cv σ₃ s₃ F₃ (g₁.trans g₃))
theorem _g0(pos:jx)(l:ae)(op jM:io)(r r':me ae):compareChain pos l [op,jM] [r,r']=(do
  let rv <-holding [l] r
  standAt pos
  let c <-holding [l,rv] (g7 op l rv)
  release [l,rv] [c]
  if <-holding [c,rv] (truthy c) then do
   let rv' <-holding [rv] r'
   standAt pos
   operate [rv,rv'] (g7 jM rv rv') else pure c):=rfl
theorem _g1(pos:jx)(l:ae)(op jM:io)(r r':me ae):testChain pos l [op,jM] [r,r']=(do
  let rv <-holding [l] r
  standAt pos
  let c <-holding [l,rv] (g7 op l rv)
  release [l,rv] [c]
  if <-holding [c,rv] (truthy c) then do
   let rv' <-holding [rv] r'
   standAt pos
   let c <-operate [rv,rv'] (g7 jM rv rv')
   holding [c] (truthy c) else pure false):=rfl
theorem _6b{op jM:io}{b e:Expr}{env:oU}(hm:gM jM e=false):markedEach [op,jM] [b,e] (evalEach [b,e] env)=[eval b env,eval e env]:=by
 show[eval b env,markedBehindIn jM e (eval e env)]=_
 rw[markedBehindIn_of_false hm]
theorem _g2{a b e:Expr}{x y z:IE}{op jM:io}{pos:jx}(hm:gM jM e=false)(ha:EvS c d ks x a)(hb:EvS c d ks y b)(he:EvS c d ks z e):
  EvS c d ks (.cmp2 x op y jM z) (.Compare a [op,jM] [b,e] pos):=λΓ Fz m σ s Q P E F h k=>by
 rw[arm_eval_Compare,_6b hm]
 refine aa (ha _ _ _ _ _ _ _ _ F h λv av σ₁ bU F₁ g₁ r₁ q₁=>?_)
 rw[_g0]
 refine aa (aS (hb _ _ _ _ _ _ _ _ F₁ q₁ λu bv bI s₂ F₂ g₂ r₂ q₂=>aa (cu (aa (aS (_E (o:=.cmp op) F₂ (.two (r₁.grow g₂.g) r₂) q₂ λt tv σ₃ s₃ F₃ g₃ r₃ q₃=>
  aa (wpAny_release (aa (aS (_0o r₃ q₃ λbb q=>?_))))))))))
 match bb,q with
 | false,q=>exact ad (k t tv σ₃ s₃ F₃ (g₁.trans (g₂.trans g₃)) r₃ q)
 | true,q=>exact aa (aS (he _ _ _ _ _ _ _ _ F₃ q λw ev σ₅ s₅ F₅ g₅ r₅ q₅=>aa (cu (wpAny_operateT (_E (o:=.cmp jM) F₅ (.two ((r₂.grow g₃.g).grow g₅.g) r₅) q₅ λt' tv' σ₆ s₆ F₆ g₆=>
   k t' tv' σ₆ s₆ F₆ ((g₁.trans (g₂.trans g₃)).trans (g₅.trans g₆)))))))
theorem _g3{a b e:Expr}{x y z:IE}{op jM:io}{pos:jx}(hm:gM jM e=false)(ha:EvS c d ks x a)(hb:EvS c d ks y b)(he:EvS c d ks z e):
  TvS c d ks (.cmp2 x op y jM z) (.Compare a [op,jM] [b,e] pos):=λΓ Fz m σ s Q QB P E F h hQ k=>by
 rw[arm_isTrue_Compare,_6b hm]
 refine aa (ha _ _ _ _ _ _ _ _ F h λv av σ₁ bU F₁ g₁ r₁ q₁=>?_)
 rw[_g1]
 refine aa (aS (hb _ _ _ _ _ _ _ _ F₁ q₁ λu bv bI s₂ F₂ g₂ r₂ q₂=>aa (cu (aa (aS (_E (o:=.cmp op) F₂ (.two (r₁.grow g₂.g) r₂) q₂ λt tv σ₃ s₃ F₃ g₃ r₃ q₃=>
  aa (wpAny_release (aa (aS (_0o r₃ (q₃.imp λb e q=>And.intro e q) λbb q=>?_))))))))))
 match bb,q with
 | false,q=>
  have:=hQ _ _ q.2
  unfold dN at this
  rw[q.1] at this
  exact ad (k false σ₃ s₃ F₃ (g₁.trans (g₂.trans g₃)) this)
 | true,q=>exact aa (aS (he _ _ _ _ _ _ _ _ F₃ q.2 λw ev σ₅ s₅ F₅ g₅ r₅ q₅=>aa (cu (aa (wpAny_operateT (_E (o:=.cmp jM) F₅ (.two ((r₂.grow g₃.g).grow g₅.g) r₅) q₅ λt' tv' σ₆ s₆ F₆ g₆ r₆ q₆=>
   aS (_0o r₆ (hQ _ _ q₆) λb q=>k b σ₆ s₆ F₆ ((g₁.trans (g₂.trans g₃)).trans (g₅.trans g₆)) q)))))))
theorem _g4{f:Expr->IE}(IH:∀e,Snd c d ks (f e) e){a:Expr}{wi:List io}{bs:List Expr}{pos:jx}:Snd c d ks (vj f a wi bs) (.Compare a wi bs pos):=by
 match wi,bs with
 | [op],[b]=>exact _Y λh=>have h:=gR _ ▸ h;⟨_fV h (IH a).1 (IH b).1,_fW h (IH a).1 (IH b).1⟩
 | [op,jM],[b,e]=>exact _Y λh=>have h:=gR _ ▸ h;⟨_g2 h (IH a).1 (IH b).1 (IH e).1,_g3 h (IH a).1 (IH b).1 (IH e).1⟩
 | [],_ | [_],[] | [_],_::_::_ | [_,_],[] | [_,_],[_] | [_,_],_::_::_::_ | _::_::_::_,_=>exact _C
end
section
variable{c:Cx}{d:Nat}{ks:List (Str×bq)}{Γ:Fr}{Fz:Fzn}{m:Loc}{σ:af}{s:ah}{E:ae->ah->Prop}{P:ae->ah->Prop}{Q:AV->af->Prop}{nm:List String}{n:Nat}
theorem _g5{Q:AV->af->Prop}{e:Expr}(h:wpE c d (tr nm n ks e) m σ Q):∀rest env,ic (e::rest) env=(false,eval e env)::ic rest env:=λrest env=>by
 cases n with
 | zero=>exact pe h
 | succ n=>cases e <;> first | rfl | exact pe h
theorem _28(IH:∀e,EvS c d ks (tr nm n ks e) e)(pos:jx):∀(es:List Expr) (σ:af) (s:ah) (Q:List AV->af->Prop) (P:List ae->ah->Prop),FS c d ks Γ Fz m σ s.heap->mz c d (trL (tr nm n ks) es) m σ Q ->
  (∀vs as aX s',FS c d ks Γ Fz m aX s'.heap->cR s s'->RVs s'.heap vs as->Q as aX->P vs s')->wpAny c.M Γ.A (spliced (backTo pos (ic es Γ.env))) P E s
 | [],σ,s,Q,P,F,h,k=>wpAny_items_nil (k [] [] σ s F (.refl s) .nil h)
 | e::es,σ,s,Q,P,F,h,k=>wpAny_items_cons (IH e Γ Fz m σ s _ _ _ F h λv av σ₁ bU F₁ g₁ r₁ q₁=>_28 IH pos es σ₁ bU _ _ F₁ q₁ λvs as bI s₂ F₂ g₂ r₂=>k (v::vs) (av::as) bI s₂ F₂ (g₁.trans g₂) (.cons (r₁.grow g₂.g) r₂)) (_g5 h es _)
theorem _6c{o:iF}{ce:cG}(F:FS c d ks Γ Fz m σ s.heap)(hh:Holds c.prog c.w (s.heap.push o) s.heap.objs.size ce)(h:∀a,σ a=none->Q (.ref a) (σ.set a ce))(k:KV c d ks Γ Fz m s Q P):P (.ref s.heap.objs.size) {s with heap:=s.heap.push o}:=
 have⟨S',g,jb⟩:=(F.st.freeze F.fm).new (_a s.heap) (_p s.heap o) hh
 k _ (.ref s.heap.objs.size) _ {s with heap:=s.heap.push o} (F.back S' g) ⟨g,rfl,rfl⟩ rfl (h _ jb)
theorem _g6(IH:∀e,EvS c d ks (tr nm n ks e) e){es:List Expr}{k:Nat}{pos:jx}:EvS c d ks (.tup (trL (tr nm n ks) es)) (.Tuple es k pos):=
 λΓ Fz m σ s Q P E F h k=>wpAny_Tuple (_28 IH pos es σ s _ _ F h λvs as σ₁ bU F₁ g₁ r₁ q=>⟨by rw[r₁.length];exact q.1,k _ (.tup as) σ₁ _ (F₁.push _) (g₁.trans (.push bU _)) (RV.tup _ vs.toArray as ⟨_,aH _ rfl⟩ (r₁.grow (cR.push bU _).g)) q.2⟩)
theorem _g7(IH:∀e,EvS c d ks (tr nm n ks e) e){es:List Expr}{pos:jx}:EvS c d ks (.list (trL (tr nm n ks) es)) (.List es pos):=
 λΓ Fz m σ s Q P E F h k=>wpAny_List (_28 IH pos es σ s _ _ F h λvs as σ₁ bU F₁ g₁ r₁ q=>⟨by rw[r₁.length];exact q.1,_6c F₁ (ce:=.list as) ⟨vs.toArray,0,aH _ rfl,r₁.grow (cR.push bU _).g⟩ q.2 λv av aX s' F' g'=>k v av aX s' F' (g₁.trans g')⟩)
theorem _g8{A:bB}{i:Expr}{v u:ae}{Q:ae->ah->Prop}{M:rN}(h:wpAny M A (s7 v u) Q E s):wpAny M A (getitemInPython v >>= λp=>subscripted i p v u) Q E s:=by
 intro Γ p hΓ
 have h1:=h Γ p hΓ
 unfold s7 at h1
 rw[Sem.wp_bind'] at h1 ⊢
 refine Sem.wp_mono M Γ _ (λb p' s' h'=>?_) (λ_ _ _ h'=>h') _ _ h1
 cases b with
 | true=>exact absurd h' (by rw[if_pos rfl];simp)
 | false=>
  rw[if_neg (by simp)] at h'
  obtain⟨l,e⟩:∃l,subscripted i false v u=operate l (getItem v u):=by
   cases i with
   | Slice lo hi st p=>cases st <;> exact⟨_,rfl⟩
   | _=>exact⟨_,rfl⟩
  rw[e,Sem.wp_operate];exact h'
theorem _g9{a i:Expr}{x y:IE}{pos:jx}(ha:EvS c d ks x a)(hi:EvS c d ks y i):EvS c d ks (.sub x y) (.Subscript a i pos):=
 λΓ Fz m σ s Q P E F h k=>by
  rw[arm_eval_Subscript]
  refine aa (ha _ _ _ _ _ _ _ _ F h λv av σ₁ bU F₁ g₁ r₁ q₁=>aa (aS (hi _ _ _ _ _ _ _ _ F₁ q₁ λu bv bI s₂ F₂ g₂ r₂ q₂=>aa (cu ?_))))
  rw[<-bind_assoc]
  exact aa (_g8 (_E (o:=.sub) (vs:=[v,u]) F₂ (.two (r₁.grow g₂.g) r₂) q₂ λz cv σ₃ s₃ F₃ g₃ r₃ q₃=>aa (uO (ad (k z cv σ₃ s₃ F₃ (g₁.trans (g₂.trans g₃)) r₃ q₃)))))
theorem _6d{o:Expr}{n:Str}{t:me ae}(h:jq o=true):attributeBase o n env t=t:=by
 cases o <;> first | rfl | skip
 rename_i f args kw pos
 cases f <;> first | rfl | cases h
theorem _ga{a:Expr}{x:IE}{n:String}{pos:jx}(hp:jq a=true)(ha:EvS c d ks x a):EvS c d ks (.attr x n) (.Attribute a (ab n) pos):=
 λΓ Fz m σ s Q P E F h k=>by
  rw[arm_eval_Attribute,_6d hp]
  exact aa (ha _ _ _ _ _ _ _ _ F h λv av σ₁ bU F₁ g₁ r₁ q₁=>aa (cu (aa (aS (_E (o:=.attr n) F₁ (.one r₁) q₁ λz cv σ₃ s₃ F₃ g₃ r₃ q₃=>aa (uO (ad (k z cv σ₃ s₃ F₃ (g₁.trans g₃) r₃ q₃))))))))
theorem _29{A:bB}{f:ae}{args:List (Bool×me ae)}{M:rN}{Q:Args->ah->Prop}(hp:args.any (·.1)=false)(h:wpAny M A (spliced args) (λvs s'=>Q ⟨vs,[]⟩ s') E s):wpAny M A (evalArgs f true args []) Q E s:=by
 match args with
 | []=>
  unfold evalArgs
  exact aa (cx h (λvs s' h'=>aS (aa (ad (aa (ad (ad h')))))) λ_ _ x=>x)
 | (true,x)::rest=>cases hp
 | (false,x)::rest=>exact evalArgs_plain h
theorem _6e{A:bB}{pos:jx}{v:ae}{first:List ae}{args:List (Bool×me ae)}{Q:ae->ah->Prop}(hc:gU c v)(hp:args.any (·.1)=false)
  (h:wpAny c.M A (spliced args) (λvs bU=>c.K.In bU.heap/\wpAny c.M A (call v (first++vs)) Q E bU) E s):wpAny c.M A (rI pos v first args []) Q E s:=by
 rcases hc with⟨i,rfl⟩ | ⟨T,rfl⟩ | ⟨a,o,fd,rfl,ho,hd⟩ | ⟨a,o,cd,rfl,ho,hd,vV⟩
 ·exact callWith_builtin hp (_29 hp (cx h (λ_ _ x=>x.2) λ_ _ x=>x))
 ·exact PySem.callWith_type hp (_29 hp (cx h (λ_ _ x=>x.2) λ_ _ x=>x))
 ·exact callWith_function (o:=o) (fd:=fd) (_29 hp (cx h (λ_ _ x=>⟨⟨x.1 _ _ ho,hd⟩,x.2⟩) λ_ _ x=>x))
 ·unfold rI
  refine aa (aS (cx (_29 (f:=.ref a) (Q:=λ(x:Args) (bU:ah)=>c.K.In bU.heap/\wpAny c.M A (call (.ref a) (first++x.pos) x.kw) Q E bU) hp h) (λx bU h₁=>aa (cu ?_)) λ_ _ x=>x))
  rw[hp]
  refine aa (aa (oA (h₁.1 _ _ ho) ?_))
  rw[hd]
  exact aa ((looks_specialIn h₁.1 vV).here (ad (aa (cx h₁.2 (λr s₂ hr=>aa (aS (wpAny_point (ad hr)))) λ_ _ x=>x))))
theorem _3r(pos:jx)(env:oU):∀{es:List Expr} {m:Loc} {σ:af} {Q:List AV->af->Prop},(es.all cS)=true->(backTo pos (ic es env)).any (·.1)=false
 | [],_,_,_,_=>rfl
 | e::es,m,σ,Q,h=>by
  rw[gv,bm] at h
  have h2:=_3r pos env (m:=m) (σ:=σ) (Q:=Q) h.2
  cases e <;> first | exact h2 | cases h.1
theorem _6f{pos:jx}{v:ae}{first:List ae}{fs:List AV}{es:List Expr}{s0:ah}(IH:∀e,EvS c d ks (tr nm n ks e) e)(hs:(es.all cS)=true)
  (F:FS c d ks Γ Fz m σ s.heap) (rfs:RVs s.heap first fs) (g0:cR s0 s) (hc:gU c v) (h:mz c d (trL (tr nm n ks) es) m σ (λas bI=>ct c d .call (.raw v::(fs++as)) bI Q)) (k:KV c d ks Γ Fz m s0 Q P) :
  wpAny c.M Γ.A (rI pos v first (backTo pos (ic es Γ.env)) []) P E s:=
 _6e hc (_3r pos Γ.env (m:=m) (σ:=σ) (Q:=λ_ _=>True) hs) (_28 IH pos es σ s _ _ F h λvs as σ₁ bU F₁ g₁ r₁ q₁=>⟨F₁.kin,_E (o:=.call) (vs:=v::(first++vs)) F₁ (.cons (RV.raw v) ((rfs.grow g₁.g).append r₁)) q₁ λz cv σ₃ s₃ F₃ g₃=>k z cv σ₃ s₃ F₃ (g0.trans (g₁.trans g₃))⟩)
theorem _gb{es:List Expr}{pos:jx}(hs:(es.all cS)=true)(hl:es.length<30)(env:oU):rF es.length (backTo pos (ic es env)) []=true:=by
 unfold rF
 have h1:=_3r pos env (m:=[]) (σ:=λ_=>none) (Q:=λ_ _=>True) hs
 have h2:(backTo pos (ic es env)).all (λx=>!x.1)=true:=by
  rw[List.all_eq_not_any_not]
  simp only[Bool.not_not]
  rw[h1];rfl
 rw[h2]
 simpa using hl
theorem _gc(IH:∀e,EvS c d ks (tr nm n ks e) e){f:Expr}{args:List Expr}{pos:jx}:Snd c d ks (s5 nm (tr nm n ks) ks args pos f) (.Call f args [] pos):=by
 cases f with
 | Attribute o x apos=>
  refine _Y λhp=>_1b λy e=>_t (λΓ Fz m σ s Q P E F h k=>?_) λ_ _=>rfl
  subst e
  simp only[bm] at hp
  obtain⟨⟨hst,hl⟩,hp,hb⟩:((args.all cS)=true/\args.length < 30)/\jq o=true/\(apos.endLine == pos.line)=true:=⟨⟨hp.2.2.2,Nat.blt_eq.mp hp.2.2.1⟩,hp.1,hp.2.1⟩
  rw[arm_eval_Call,_6d hp]
  refine aa (IH o _ _ _ _ _ _ _ _ F h λv av σ₁ bU F₁ g₁ r₁ q₁=>aa (cu ?_))
  unfold methodCall
  rw[show rF (args.length+([]:List Keyword).length) (backTo pos (ic args Γ.env)) (backToKw pos (keywordEach [] Γ.env))=true from _gb hst hl _]
  have nE:methodCallPos true o Γ.env apos pos=pure pos:=by unfold methodCallPos;simp[hb]
  refine aa (aS ?_)
  show wpAny _ _ (getMethod v (ab y) _) _ _ _
  refine q₁.run Γ.A Fz bU v _ _ _ ⟨F₁.room,F₁.base,F₁.bs,F₁.st⟩ r₁ λf first fv as s' e rf ras q=>?_
  obtain⟨⟨w,rfl,hcal⟩,q⟩:=q
  obtain rfl:fv=w:=rf
  exact aa (qc nE (_6f IH hst (F₁.same e) (e.h ▸ ras) (g₁.trans e.grow) hcal q k))
 | Name id p=>
  refine _Y λhp=>_1b λy e=>_t (λΓ Fz m σ s Q P E F h k=>?_) λ_ _=>rfl
  simp only[bm] at hp
  obtain⟨v,⟨hg,hc⟩,h⟩:=h
  show wpAny _ _ (eval (.Name id p) Γ.env >>= λfv=>rI pos fv [] (backTo pos (ic args Γ.env)) []) _ _ _
  exact aa (_69 F e hp.2.1 (_6a hp.1).1 hg (_6f IH hp.2.2.2 F .nil (.refl s) hc h k))
 | _=>exact _C
theorem _3s(IH:∀e,EvS c d ks (tr nm n ks e) e)(op:BoolOp)(pos:jx):∀(es:List Expr) (σ:af) (s:ah) (P:ae->ah->Prop),FS c d ks Γ Fz m σ s.heap->wpB c d op (trL (tr nm n ks) es) m σ Q->KV c d ks Γ Fz m s Q P->wpAny c.M Γ.A (boolOp pos op (evalEach es Γ.env)) P E s
 | [],_,_,_,_,h,_=>h.elim
 | [e],σ,s,P,F,h,k=>IH e _ _ _ _ _ _ _ _ F h k
 | e::e'::es,σ,s,P,F,h,k=>by
  show wpAny _ _ (eval e _ >>= λv=>standAt pos >>= λ_=>holding [v] (truthy v) >>= λt=>_) _ _ _
  refine aa (IH e _ _ _ _ _ _ _ _ F h λv av σ₁ bU F₁ g₁ r₁ q₁=>aa (cu (aa (aS (_0o r₁ q₁ λb q=>?_)))))
  match op,b,q with
  | .And,true,q=>exact _3s IH .And pos (e'::es) σ₁ bU P F₁ q λv av aX s' F' g'=>k v av aX s' F' (g₁.trans g')
  | .And,false,q=>exact ad (k v av σ₁ bU F₁ g₁ r₁ q)
  | .Or,false,q=>exact _3s IH .Or pos (e'::es) σ₁ bU P F₁ q λv av aX s' F' g'=>k v av aX s' F' (g₁.trans g')
  | .Or,true,q=>exact ad (k v av σ₁ bU F₁ g₁ r₁ q)
theorem _3t(IH:∀e,TvS c d ks (tr nm n ks e) e)(op:BoolOp){QB:Bool->af->Prop}(hQ:∀v aX,Q v aX->dN v λb=>QB b aX):∀(es:List Expr) (σ:af) (s:ah) (P:Bool->ah->Prop),FS c d ks Γ Fz m σ s.heap->wpB c d op (trL (tr nm n ks) es) m σ Q->KB c d ks Γ Fz m s QB P ->
  wpAny c.M Γ.A (allTrue op es Γ.env) P E s
 | [],_,_,_,_,h,_=>h.elim
 | [e],σ,s,P,F,h,k=>match op with
  | .And=>tI (IH e _ _ _ _ _ _ _ _ _ F h hQ λb aX s' F' g' q=>match b,q with
   | true,q=>wpAny_allTrue_And_nil (k true aX s' F' g' q)
   | false,q=>k false aX s' F' g' q)
  | .Or=>t7 (IH e _ _ _ _ _ _ _ _ _ F h hQ λb aX s' F' g' q=>match b,q with
   | true,q=>k true aX s' F' g' q
   | false,q=>wpAny_allTrue_Or_nil (k false aX s' F' g' q))
 | e::e'::es,σ,s,P,F,h,k=>match op with
  | .And=>tI (IH e _ _ _ _ _ _ (λb aX=>if b=true then wpB c d .And (trL (tr nm n ks) (e'::es)) m aX Q else QB false aX) _ _ F h (λv aX q=>q.imp λb e q=>match b,e,q with
    | true,_,q=>q
    | false,e,q=>by have:=hQ _ _ q;unfold dN at this;rw[e] at this;exact this) λb aX s' F' g' q=>match b,q with
   | true,q=>_3t IH .And hQ (e'::es) aX s' P F' q λb σ'' kT F'' g''=>k b σ'' kT F'' (g'.trans g'')
   | false,q=>k false aX s' F' g' q)
  | .Or=>t7 (IH e _ _ _ _ _ _ (λb aX=>if b=true then QB true aX else wpB c d .Or (trL (tr nm n ks) (e'::es)) m aX Q) _ _ F h (λv aX q=>q.imp λb e q=>match b,e,q with
    | true,e,q=>by have:=hQ _ _ q;unfold dN at this;rw[e] at this;exact this
    | false,_,q=>q) λb aX s' F' g' q=>match b,q with
   | true,q=>k true aX s' F' g' q
   | false,q=>_3t IH .Or hQ (e'::es) aX s' P F' q λb σ'' kT F'' g''=>k b σ'' kT F'' (g'.trans g''))
theorem _3u(IH:∀e,EvS c d ks (tr nm n ks e) e)(o:Option Expr)(F:FS c d ks Γ Fz m σ s.heap)(h:wpE c d (nZ (tr nm n ks) o) m σ Q)(k:KV c d ks Γ Fz m s Q P):wpAny c.M Γ.A (valueOrNone (evalOpt o Γ.env)) P E s:=
 match o with
 | none=>ad (k .none .none σ s F (.refl s) rfl h)
 | some e=>IH e _ _ _ _ _ _ _ _ F h k
theorem _gd(IH:∀e,EvS c d ks (tr nm n ks e) e){l h st:Option Expr}{p:jx}:EvS c d ks (.slc (nZ (tr nm n ks) l) (nZ (tr nm n ks) h) (nZ (tr nm n ks) st)) (.Slice l h st p):=
 λΓ Fz m σ s Q P E F hw k=>by
  rw[arm_eval_Slice]
  refine aa (_3u IH l F hw λlv lav bI s₂ F₂ g₂ r₂ q₂=>aa (aS (_3u IH h F₂ q₂ λhv hav σ₃ s₃ F₃ g₃ r₃ q₃=>aa (aS (_3u IH st F₃ q₃ λsv sav σ₄ s₄ F₄ g₄ r₄ q₄=>dc ?_ (by simp[sizeOk,b8]))))))
  have g5:=cR.push s₄ {cls:=.type "slice", data:=.fields #[lv,hv,sv]}
  exact k _ (.slice lav hav sav) σ₄ _ (F₄.push _) ((g₂.trans (g₃.trans g₄)).trans g5) (RV.slice _ lv hv sv _ _ _ (aH _ rfl) (r₂.grow (g₃.trans (g₄.trans g5)).g) (r₃.grow (g₄.trans g5).g) (r₄.grow g5.g)) q₄
end
noncomputable def FzH(Fz:Fzn)(a:ao)(o:iF):Fzn:=λb p=>Fz b p\/(b=a/\p=o)
noncomputable def FzS(Fz:Fzn)(ai:ao->Prop)(h:a_):Fzn:=λb o=>Fz b o\/(ai b/\h.get? b=some o)
section
variable{c:Cx}{d:Nat}{ks:List (Str×bq)}{Γ:Fr}{Fz Fz':Fzn}{m:Loc}{σ:af}{h h':a_}{s:ah}{E:ae->ah->Prop}{P:ae->ah->Prop}{Q:AV->af->Prop}{nm:List String}{n:Nat}
variable{prog:bS}{w:cy}{W:Str->Prop}{env:oU}{a D:ao}{o:iF}{ai:ao->Prop}
theorem St.free(S:St prog w Fz σ h)(ha:∀o,h.get? a≠some o):σ a=none:=by
 cases e:σ a with
 | none=>rfl
 | some ce=>obtain⟨o,q⟩:=(S.cell a ce e).get;exact absurd q (ha o)
theorem St.heldσ(S:St prog w Fz σ h)(q:Fz a o):σ a=none:=by
 cases e:σ a with
 | none=>rfl
 | some ce=>exact absurd q (S.apart a ce o e)
theorem St.lessF(S:St prog w Fz' σ h)(k:∀a o,Fz a o->Fz' a o):St prog w Fz σ h:=⟨λb p q=>S.fz b p (k _ _ q),S.cell,λb ce p e q=>S.apart b ce p e (k _ _ q)⟩
theorem Fm.lessF(F:Fm W env m Fz' σ h)(k:∀a o,Fz a o->Fz' a o):Fm W env m Fz σ h:=
 ⟨F.fn,F.gl,F.bl,F.ns,F.cs,F.cv,λp q=>F.nfz p (k _ _ q),F.nσ,λx cc w e=>⟨λp q=>(F.cw x cc w e).1 p (k _ _ q),(F.cw x cc w e).2⟩,F.hc⟩
theorem FS.lessF(F:FS c d ks Γ Fz' m σ h)(hb:Bs c Fz)(k:∀a o,Fz a o->Fz' a o):FS c d ks Γ Fz m σ h:=⟨F.base,F.nk,F.room,hb,F.st.lessF k,F.fm.lessF k⟩
theorem FS.moreF(F:FS c d ks Γ Fz m σ h)(k:∀a o,Fz a o->Fz' a o)(q:∀a o,Fz' a o->Fz a o\/(h.get? a=some o/\σ a=none/\a≠Γ.env.locals/\∀x:Str,Γ.env.cells.lookup x≠some a)):FS c d ks Γ Fz' m σ h:=
 ⟨F.base,F.nk,F.room,λb p e=>k b p (F.bs b p e),
  ⟨λb p e=>(q b p e).elim (F.st.fz b p) (·.1),F.st.cell,λb ce p e x=>(q b p x).elim (F.st.apart b ce p e) λy=>by rw[y.2.1] at e;cases e⟩,
  ⟨F.fm.fn,F.fm.gl,F.fm.bl,F.fm.ns,F.fm.cs,F.fm.cv,λp x=>(q _ p x).elim (F.fm.nfz p) λy=>y.2.2.1 rfl,F.fm.nσ,λx cc w e=>⟨λp y=>(q _ p y).elim ((F.fm.cw x cc w e).1 p) λz=>z.2.2.2 x e,(F.fm.cw x cc w e).2⟩,F.fm.hc⟩⟩
noncomputable def Far(env:oU)(a:ao):Prop:=a≠env.locals/\∀x:Str,env.cells.lookup x≠some a
theorem Fm.far(F:Fm W env m Fz σ h)(ha:∀o,h.get? a≠some o):Far env a:=by
 refine⟨?_,λx e=>?_⟩
 ·rintro rfl
  obtain⟨mL,⟨o,_,_,e,_⟩,_⟩:=F.ns
  exact ha o e
 ·obtain⟨v,o,e',_⟩:=F.cs x a e
  exact ha o e'
theorem FS.hold(F:FS c d ks Γ Fz m σ h)(ho:h.get? a=some o)(jb:σ a=none)(hf:Far Γ.env a):FS c d ks Γ (FzH Fz a o) m σ h:=
 F.moreF (λ_ _=>.inl) λb p q=>q.imp id λ⟨e,e'⟩=>by subst e;subst e';exact⟨ho,jb,hf⟩
theorem FS.holdS(F:FS c d ks Γ Fz m σ h)(jb:∀a,ai a->σ a=none)(hf:∀a,ai a->Far Γ.env a):FS c d ks Γ (FzS Fz ai h) m σ h:=
 F.moreF (λ_ _=>.inl) λb p q=>q.imp id λ⟨y,e⟩=>⟨e,jb b y,hf b y⟩
theorem FS.held(F:FS c d ks Γ Fz m σ s.heap)(hf:o.isFreed=false):FS c d ks Γ (FzH Fz s.heap.objs.size o) m σ (s.heap.push o):=
 (F.push o).hold (aH s.heap hf) (F.st.free (_a s.heap)) (F.fm.far (_a s.heap))
theorem St.apartWrite(S:St prog w Fz σ h)(hD:∀o,¬Fz D o)(jb:σ D=none)(hs:bu D h h')(ho:h.get? D=some o)(hl:¬dY o):St prog w Fz σ h'/\de h h':=by
 have g:de h h':=by
  intro b p hp hlp
  by_cases e:b=D
  ·subst e;rw[ho] at hp;cases hp;exact absurd hlp hl
  ·exact(hs.2 b e).trans hp
 refine⟨⟨λb p q=>?_,λa ce e=>?_,S.apart⟩,g⟩
 ·by_cases e:b=D
  ·subst e;exact absurd q (hD p)
  ·exact(hs.2 b e).trans (S.fz b p q)
 ·have:a≠D:=by rintro rfl;rw[jb] at e;cases e
  exact(S.cell a ce e).move g λo ho=>(hs.2 a this).trans ho
theorem Fm.apartWrite(F:Fm W env m Fz σ h)(hf:Far env D)(g:de h h')(hs:bu D h h'):Fm W env m Fz σ h':=
 ⟨F.fn,F.gl,F.bl,let⟨mL,hn,uG⟩:=F.ns;⟨mL,hn.sameBut hs (λe=>hf.1 e.symm),λx av e k=>let⟨v,a,b⟩:=uG x av e k;⟨v,a,b.grow g⟩⟩,
  λx cc e=>let⟨v,hv⟩:=F.cs x cc e;⟨v,hv.sameBut hs (λq=>hf.2 x (q ▸ e))⟩,λx av e k=>let⟨cc,v,a,b,r⟩:=F.cv x av e k;⟨cc,v,a,b.sameBut hs (λq=>hf.2 _ (q ▸ a)),r.grow g⟩,F.nfz,F.nσ,F.cw,F.hc⟩
theorem FS.let(F:FS c d ks Γ (FzH Fz D o) m σ h)(hb:Bs c Fz)(hz:∀o,¬Fz D o)(hf:Far Γ.env D)(hs:bu D h h')(hl:¬dY o):FS c d ks Γ Fz m σ h'/\de h h':=
 have⟨S,g⟩:=(F.st.lessF λ_ _=>.inl).apartWrite hz (F.st.heldσ (.inr ⟨rfl,rfl⟩)) hs (F.st.fz D o (.inr ⟨rfl,rfl⟩)) hl
 ⟨⟨F.base,F.nk,F.room,hb,S,(F.fm.lessF λ_ _=>.inl).apartWrite hf g hs⟩,g⟩
theorem FS.adopt{ce:cG}(F:FS c d ks Γ Fz m σ h)(hz:∀o,¬Fz D o)(hf:Far Γ.env D)(hh:Holds c.prog c.w h D ce):FS c d ks Γ Fz m (σ.set D ce) h:=
 ⟨F.base,F.nk,F.room,F.bs,⟨F.st.fz,λb ce' e=>by
  by_cases q:b=D
  ·subst q;rw[af.set_self] at e;cases e;exact hh
  ·rw[af.set_ne _ _ q] at e;exact F.st.cell b ce' e,λb ce' o e=>by
  by_cases q:b=D
  ·subst q;exact hz o
  ·rw[af.set_ne _ _ q] at e;exact F.st.apart b ce' o e⟩,
  ⟨F.fm.fn,F.fm.gl,F.fm.bl,F.fm.ns,F.fm.cs,F.fm.cv,F.fm.nfz,by rw[af.set_ne _ _ (λe=>hf.1 e.symm)];exact F.fm.nσ,F.fm.cw,F.fm.hc⟩⟩
open Classical in
theorem _ge{pos:jx}:EvS c d ks .edict (.Dict [] [] pos):=λΓ Fz m σ s Q P E F ⟨ce,hce,h⟩ k=>
 wpAny_Dict_empty (_6c F (ce:=ce) (by
  rcases hce with rfl | rfl
  ·exact⟨[],Heap.DictOf.new _,rfl,.nil⟩
  ·exact⟨[],Heap.DictOfH.new _,rfl,.nil⟩) h k)
theorem _m{α:Type}{x:α}{P:Prop}(h:none=some x):P:=nomatch h
theorem _gf{as:List AV}{f:Int->AV->Prop}{G:Prop}(h:mB as f)(k:∀i v,as=[.int i,v]->f i v->G):G:=by
 match as with
 | []=>exact h.elim
 | [_]=>exact h.elim
 | a::v::r=>
  obtain⟨e,h⟩:=h
  subst e
  cases a with
  | int i=>exact k i v rfl h
  | _=>exact h.elim
theorem _gg{ke ve:Expr}{pos:jx}(IH:∀e,EvS c d ks (tr nm n ks e) e):EvS c d ks (.dict1 (.cons (tr nm n ks ke) (.cons (tr nm n ks ve) .nil))) (.Dict [some ke] [ve] pos):=λΓ Fz m σ s Q P E F h k=>by
 refine wpAny_Dict_pairs (knd:=intKind c.prog c.w) (pairs:=[(eval ke Γ.env,do let x <-eval ve Γ.env;standAt pos;pure x)]) rfl nofun (fE 1 _) ?_
 have hn:=_a s.heap
 have F1:FS c d ks Γ (FzH Fz s.heap.objs.size {cls:=.type "dict", data:=.dict #[]}) m σ (s.heap.push {cls:=.type "dict", data:=.dict #[]}):=F.held rfl
 refine evalPairs_cons (IH ke Γ _ m σ {s with heap:=s.heap.push {cls:=.type "dict", data:=.dict #[]}} _ _ _ F1 h λu av σ₁ bU F₁ g₁ r₁ q₁=>aa (IH ve Γ _ m σ₁ bU _ _ _ F₁ q₁ λu2 av2 bI s₂ F₂ g₂ r₂ q₂=>aa (cu (ad (evalPairs_nil ?_)))))
 refine _gf (as:=[av,av2]) (f:=λi v=>∀a,bI a=none->Q (.ref a) (bI.set a (.dictI [(i,v)]))) q₂ λi v e q=>?_
 cases e
 obtain⟨t,rfl⟩:=r₁
 refine⟨[(i,u2)],⟨by simp[intKind,k5],rfl,trivial⟩,⟨_,#[],0,F₂.st.fz _ _ (.inr ⟨rfl,rfl⟩),⟨rfl,rfl,rfl⟩,rfl,λ_ he=>by simp at he,Pairs.nil,vO⟩,λh' hm hs=>?_⟩
 have sr:=F.fm.far hn
 obtain⟨F₃,g₃⟩:=F₂.let F.bs (λo q=>hn o (F.st.fz _ _ q)) sr hs (by simp[dY])
 refine k _ (.ref s.heap.objs.size) _ {s₂ with heap:=h',toks:=s₂.toks+1} (F₃.adopt (ce:=.dictI [(i,av2)]) (λo q=>hn o (F.st.fz _ _ q)) sr ⟨[(i,u2)],hm,rfl,?_⟩) (((cR.push s _).trans (g₁.trans g₂)).trans ⟨g₃,rfl,rfl⟩) rfl (q _ (F₂.st.heldσ (.inr ⟨rfl,rfl⟩)))
 exact .cons (r₂.grow g₃) .nil
theorem _gh(IH:∀e,EvS c d ks (tr nm n ks e) e){keys:List (Option Expr)}{jH:List Expr}{pos:jx}:Snd c d ks (s4 (tr nm n ks) keys jH) (.Dict keys jH pos):=by
 cases keys with
 | nil=>
  refine _Y λh=>?_
  obtain rfl:=hV.mp h
  exact _t _ge λ_ _=>rfl
 | cons k keys=>
  cases jH with
  | nil=>exact _C
  | cons v vs=>
   refine _Y λh=>?_
   rw[bm] at h
   obtain rfl:=hV.mp h.1
   obtain rfl:=hV.mp h.2
   cases k with
   | none=>exact _C
   | some ke=>exact _t (_gg IH) λ_ _=>rfl
end
section
variable{c:Cx}{d:Nat}{ks:List (Str×bq)}{Γ:Fr}{Fz:Fzn}{m:Loc}{σ:af}{s:ah}{E:ae->ah->Prop}{nm:List String}{n:Nat}
theorem _6g{x:String}{v:ae}{av:AV}{P:Unit->ah->Prop}(F:FS c d ks Γ Fz m σ s.heap)(hk:dX (ks.lookup (ab x))=true)(r:RV s.heap v av)(k:∀s',FS c d ks Γ Fz (m.put x av) σ s'.heap->cR s s'->P () s'):
  wpAny c.M Γ.A (uX Γ.env (ab x) v) P E s:=by
 refine wpAny_bindName ?_
 cases q:ks.lookup (ab x) with
 | none=>rw[q] at hk;cases hk
 | some kd=>
  obtain⟨n1,n2,n3,n4⟩:=F.nk _ _ q
  rw[q] at hk
  cases kd with
  | «local»=>
   obtain⟨mL,hn,uG⟩:=F.fm.ns
   exact wpAny_storeName_local (n1 rfl) hn (λh' sq hs=>have⟨S',F',g⟩:=F.fm.setLocal F.st (n1 rfl) r uG hn sq hs;k {s with heap:=h',toks:=s.toks+1} (F.next S' F') ⟨g,rfl,rfl⟩) (by rw[F.fm.fn];rfl)
  | cell=>
   obtain⟨hc,hW⟩:=n2 rfl
   obtain⟨cc,tD⟩:=F.fm.hc _ (.inl hc)
   obtain⟨v0,hv0⟩:=F.fm.cs _ _ tD
   exact wpAny_storeName_cell F.fm.fn hc tD hv0 (λh' sq hs=>have⟨S',F',g⟩:=F.fm.setCell hW F.st hc r tD sq hs;k {s with heap:=h'} (F.next S' F') ⟨g,rfl,rfl⟩)
  | _=>cases hk
theorem _gi{e:Expr}(h:cS e=true)(rest:List Expr)(env:oU):rK (e::rest) env=(false,assign e env)::rK rest env:=by
 cases e <;> first | rfl | cases h
theorem _2a{f:Expr->Tgt}:∀{es:List Expr},(ql f es).length=es.length
 | []=>rfl
 | _::_=>congrArg (· + 1) _2a
theorem _6h(env:oU):∀{es:List Expr},es.all cS=true->rK es env=es.map λe=>(false,assign e env)
 | [],_=>rfl
 | e::es,h=>by
  rw[gv,bm] at h
  rw[_gi h.1,_6h env h.2];rfl
theorem _6i{β:Type}:∀(es:List β) {γ:Type} (f:β->γ),(es.map λe=>(false,f e)).findIdx? (·.1)=none
 | [],_,_=>rfl
 | e::es,_,f=>by rw[aJ,List.findIdx?_cons,_6i es f];rfl
theorem ASg.order{f:Expr->Tgt}(IH:∀e,ASg c d ks (f e) e):∀(es:List Expr) (vs:List ae) (l:List AV) (m:Loc) (s:ah) (k:Loc->Prop) (P:Unit->ah->Prop),FS c d ks Γ Fz m σ s.heap->RVs s.heap vs l->jg c d (ql f es) l m σ k ->
  (∀m' s',FS c d ks Γ Fz m' σ s'.heap->cR s s'->k m'->P () s')->wpAny c.M Γ.A (assignInOrder (es.map λe=>assign e Γ.env) vs) P E s
 | [],vs,l,m,s,k,P,F,r,h,kk=>ad (kk m s F (.refl s) h)
 | e::es,vs,[],m,s,k,P,F,r,h,kk=>h.elim
 | e::es,vs,a::l,m,s,k,P,F,r,h,kk=>by
  obtain⟨v,vs,rfl,r0,rs⟩:=r
  exact aa (aS (IH e _ _ _ _ _ _ _ _ _ _ F r0 h λm₁ bU F₁ g₁ h₁=>ASg.order IH es vs l m₁ bU k P F₁ (rs.grow g₁.g) h₁ λm' s' F' g'=>kk m' s' F' (g₁.trans g')))
theorem _6j{P:Expr->Prop}(h1:∀id p,P (.Name id p))(h2:∀ts k p,P (.Tuple ts k p))(h3:∀t,trT nm ks (n+1) t = .bad->P t)(t:Expr):P t:=by
 cases t with
 | Name id p=>exact h1 id p
 | Tuple ts k p=>exact h2 ts k p
 | _=>exact h3 _ rfl
theorem _0J:∀(n:Nat) (t:Expr),ASg c d ks (trT nm ks n t) t
 | 0,t=>λ_ _ _ _ _ _ _ _ _ _ _ _ h=>h.elim
 | n+1,t=>by
  refine _6j (nm:=nm) (ks:=ks) (n:=n) (P:=λt=>ASg c d ks (trT nm ks (n+1) t) t) (λid pos=>?_) (λelts i pos=>?_) (λt e=>e ▸ λ_ _ _ _ _ _ _ _ _ _ _ _ h=>h.elim) t
  ·intro Γ Fz m σ s v av k P E F r h kk
   change eC c d (.when _ (.named nm id)) av m σ k at h
   cases hk:dX (ks.lookup id) with
   | false=>rw[hk] at h;exact h.elim
   | true=>
    rw[hk] at h
    change eC c d (match j5 nm id with | some y=>.name y | none=>.bad) av m σ k at h
    cases e:j5 nm id with
    | none=>rw[e] at h;exact h.elim
    | some x=>
     rw[e] at h
     rw[arm_assign_Name,<-_0I e]
     exact aa (cu (_6g F (by rw[_0I e];exact hk) r λs' F' g=>kk _ s' F' g h))
  ·intro Γ Fz m σ s v av k P E F r h kk
   change eC c d (.when (elts.all cS) (.tup (ql (trT nm ks n) elts))) av m σ k at h
   cases hs:elts.all cS with
   | false=>rw[hs] at h;exact h.elim
   | true=>
    rw[hs] at h
    rw[arm_assign_Tuple]
    unfold unpack
    rw[_6h _ hs,_6i,ac,<-_2a (f:=trT nm ks n),bf]
    exact aa (cu (aa (aS (f_.run h _ _ s v _ _ F.go r λvs l s' S g hr _ hq=>ASg.order (_0J n) elts vs l m s' k P (F.back S g.g) hr hq λm' kT F' g'=>kk m' kT F' (g.trans g')))))
mutual
theorem _6k:∀(t:Tgt) (v:AV) (m:Loc) (k:Loc->Prop),eC c d t v m σ k->eC c d t v m σ (λm₁=>k m₁/\∀x,t.names.contains x=false->m₁.lookup x=m.lookup x)
 | .bad,_,_,_,h=>h
 | .name y,v,m,k,h=>⟨h,λx hx=>by rw[Loc.lookup_put,if_neg λe=>Bool.noConfusion (hx.symm.trans (show([y]:List String).contains x=true by rw[e,iz];exact decide_eq_true (.head _)))]⟩
 | .tup l,v,m,k,h=>⟨λA Fz s u P E G r hk=>f_.run h A Fz s u P E G r λvs l' s' S' hh rr hl hq=>hk vs l' s' S' hh rr hl (lV l l' m k hq)⟩
theorem lV:∀(t:oh) (v:List AV) (m:Loc) (k:Loc->Prop),jg c d t v m σ k->jg c d t v m σ (λm₁=>k m₁/\∀x,t.names.contains x=false->m₁.lookup x=m.lookup x)
 | .nil,v,m,k,h=>⟨h,λ_ _=>rfl⟩
 | .cons t r,[],m,k,h=>h
 | .cons t r,v::vs,m,k,h=>nX t v m (λm₁ q=>jZ r vs m₁ (λm₂ q2=>⟨q2.1,λx hx=>by
   have hx:(t.names++r.names).contains x=false:=hx
   rw[iz,decide_eq_false_iff_not,aK,not_or] at hx
   rw[q2.2 x (by rw[iz,decide_eq_false hx.2]),q.2 x (by rw[iz,decide_eq_false hx.1])]⟩) (lV r vs m₁ k q.1)) (_6k t v m _ h)
theorem nX:∀(t:Tgt) (v:AV) (m:Loc) {k k':Loc->Prop},(∀m,k m->k' m)->eC c d t v m σ k->eC c d t v m σ k'
 | .bad,_,_,_,_,_,h=>h
 | .name y,v,m,k,k',hk,h=>hk _ h
 | .tup l,v,m,k,k',hk,h=>⟨λA Fz s u P E G r fP=>f_.run h A Fz s u P E G r λvs l' s' S' hh rr hl hq=>fP vs l' s' S' hh rr hl (jZ l l' m hk hq)⟩
theorem jZ:∀(t:oh) (v:List AV) (m:Loc) {k k':Loc->Prop},(∀m,k m->k' m)->jg c d t v m σ k->jg c d t v m σ k'
 | .nil,v,m,k,k',hk,h=>hk _ h
 | .cons t r,[],m,k,k',hk,h=>h
 | .cons t r,v::vs,m,k,k',hk,h=>nX t v m (λm₁ q=>jZ r vs m₁ hk q) h
end
end
theorem _3v{names:List (Str×bq)}(h:pJ names=true):∀x∈names,names.lookup x.1=some x.2:=λx hx=>of_decide_eq_true (b_.mp h x hx)
noncomputable def fQ(cells:List (Str×ao)):List (Str×bq)->List (Str×ao)->List (Str×ao)
 | [],bV=>bV
 | (x,k)::r,bV=>fQ cells r (if(k == .free)=true then(x,(cells.lookup x).getD 0)::bV else bV)
theorem _6l{cells:List (Str×ao)}{x:Str}{k:bq}{r:List (Str×bq)}{bV:List (Str×ao)}:fQ cells ((x,k)::r) bV=fQ cells r (if(k == .free)=true then(x,(cells.lookup x).getD 0)::bV else bV):=rfl
theorem _6m{env:oU}:∀(names:List (Str×bq)) (bV:List (Str×ao)),(∀x∈names,x.2 = .free->∃a,env.cells.lookup x.1=some a) ->
  forIn names bV (λ(x:Str×bq) (cs:List (Str×ao))=>(do
   if x.2 == .free then do
    let a <-cellOf env x.1
    pure (ForInStep.yield ((x.1,a)::cs))
   else pure (ForInStep.yield cs):me (ForInStep (List (Str×ao)))))=pure (fQ env.cells names bV)
 | [],bV,_=>pC
 | (x,k)::r,bV,h=>by
  rw[kB]
  have ih:=λbV=>_6m r bV (λy hy=>h y (.tail _ hy))
  rw[_6l]
  cases hk:k == NameKind.free with
  | true=>
   obtain⟨a,ha⟩:=h (x,k) (.head _) (beq_iff_eq.mp hk)
   have:cellOf env x=pure a:=by unfold cellOf;rw[ha]
   rw[if_pos rfl,if_pos rfl,this,ha,pure_bind,pure_bind]
   exact ih _
  | false=>
   rw[if_neg (by decide),if_neg (by decide),pure_bind]
   exact ih _
theorem _gj{env:oU}{scope:nS}(h:∀x∈scope.names,x.2 = .free->∃a,env.cells.lookup x.1=some a):closureFor scope env=pure (fQ env.cells scope.names []):=by
 have:=_6m scope.names [] h
 unfold closureFor
 simp only[bind_pure_comp] at this ⊢
 simpa using this
theorem _6n{cells:List (Str×ao)}(x:Str):∀(names:List (Str×bq)) (bV:List (Str×ao)),(fQ cells names bV).lookup x=if(names.any λy=>x == y.1&&y.2 == .free)=true then some ((cells.lookup x).getD 0) else bV.lookup x
 | [],bV=>rfl
 | (y,k)::r,bV=>by
  rw[_6l,_6n x r,mc]
  cases hk:k == NameKind.free with
  | false=>rw[pF,qk];rfl
  | true=>
   rw[if_pos rfl,Bool.and_true,bx]
   cases e:x == y with
   | false=>rw[qk]
   | true=>rw[beq_iff_eq.mp e,Bool.true_or,if_pos rfl];exact ite_self _
theorem _1c(x:Str):∀(names:List (Str×bq)) (n:Nat) (bV:List (Str×ao)),((x,NameKind.cell)∈names\/∃a,bV.lookup x=some a)->∃a,(fU n names bV).lookup x=some a
 | [],_,bV,h=>h.elim nofun id
 | (y,k)::r,n,bV,h=>by
  unfold fU
  by_cases hk:(k == NameKind.cell)=true
  ·rw[if_pos hk]
   refine _1c x r _ _ ?_
   by_cases e:x=y
   ·exact .inr ⟨n,by rw[e,bx,beq_self_eq_true]⟩
   ·refine h.imp (λh=>(aO.mp h).elim (λq=>absurd (b6 q).1 e) id) λ⟨a,ha⟩=>⟨a,?_⟩
    rw[bx,beq_false_of_ne e];exact ha
  ·rw[if_neg hk]
   exact _1c x r _ _ (h.imp (λh=>(aO.mp h).elim (λq=>absurd (beq_iff_eq.mpr (b6 q).2.symm) hk) id) id)
theorem _3w:∀(names:List (Str×bq)) (n:Nat) (bV l:List (Str×ao)),fU n names (bV++l)=fU n names bV++l
 | [],_,_,_=>rfl
 | (y,k)::r,n,bV,l=>by
  unfold fU
  split
  ·exact _3w r (n+1) ((y,n)::bV) l
  ·exact _3w r n bV l
theorem _3x{x:Str}{a:ao}:∀(names:List (Str×bq)) (n:Nat) (bV:List (Str×ao)),(x,a)∈fU n names bV->(x,a)∈bV\/(x,NameKind.cell)∈names
 | [],_,_,h=>.inl h
 | (y,k)::r,n,bV,h=>by
  unfold fU at h
  split at h
  ·rename_i hk
   rcases _3x r _ _ h with q | q
   ·exact(aO.mp q).elim (λq=>.inr (by rw[(b6 q).1,beq_iff_eq.mp hk];exact aE)) .inl
   ·exact .inr (aA _ q)
  ·exact(_3x r _ _ h).imp id (aA _)
theorem _6o{α:Type}{x:Str}:∀{l m:List (Str×α)},(l++m).lookup x=(l.lookup x).or (m.lookup x)
 | [],_=>rfl
 | (y,a)::l,m=>by
  rw[dA,bx,bx]
  cases x == y
  ·exact _6o
  ·rfl
theorem _6p{env:oU}(x:Str):∀{names:List (Str×bq)},
  (names.map λ(n,k)=>if(k == NameKind.free&&env.scope.kind == .function&&env.kindOf n == some .cell) then(n,NameKind.cell) else(n,k)).lookup x =
   (names.lookup x).map λk=>if(k == NameKind.free&&env.scope.kind == .function&&env.kindOf x == some .cell) then NameKind.cell else k
 | []=>rfl
 | (n,k)::r=>by
  have e0:((if(k == NameKind.free&&env.scope.kind == .function&&env.kindOf n == some .cell) then(n,NameKind.cell) else(n,k)):Str×bq)=(n,if(k == NameKind.free&&env.scope.kind == .function&&env.kindOf n == some .cell) then NameKind.cell else k):=by split <;> rfl
  rw[aJ]
  dsimp only
  rw[e0,bx,bx]
  cases e:x == n with
  | true=>rw[beq_iff_eq.mp e];rfl
  | false=>exact _6p x
noncomputable def nA(scope:nS)(env:oU)(h:a_):oU:=
 {scope:=relabel scope env,locals:=h.objs.size,globals:=env.globals,cells:=fU (h.objs.size+1) scope.names (fQ env.cells scope.names []),qual:=env.qual,func:=none,code:=env.code,frame:=env.frame,builtins:=env.builtins}
noncomputable def mT(names:List (Str×bq))(h:a_):a_:=pushCells (h.push {cls:=.type "dict", data:=.dict #[]}) names
theorem _6q(names:List (Str×bq))(h:a_)(b:ao)(o:iF)(e:h.get? b=some o):(mT names h).get? b=some o:=pushCells_keeps _ _ b o (aG _ e)
section
variable{c:Cx}{d:Nat}{ks:List (Str×bq)}{Γ:Fr}{Fz:Fzn}{m:Loc}{σ:af}{s:ah}{scope:nS}{h:a_}
theorem _gk{A:bB}{env:oU}{E:ae->ah->Prop}{Q:oU->ah->Prop}{M:rN}
  (h:Q {(nA scope env s.heap) with scope:=scope} {s with heap:=mT scope.names s.heap}):wpAny M A (rE scope env.globals (fQ env.cells scope.names []) [] env.qual none .none (some env)) Q E s:=by
 unfold rE
 refine aa (wpAny_alloc (aa ?_))
 refine wpAny_layCells _ (λname kind cells=>?_) _ _ _ _ ?_
 ·split <;> simp_all
 ·unfold nA at h
  rw[show s.heap.objs.size+1=(s.heap.push {cls:=.type "dict", data:=.dict #[]}).objs.size from(fW ..).symm] at h
  exact aa (ad (ad h))
theorem NK.cell{env:oU}{W:Str->Prop}(nk:NK env W ks){x:Str}(h:pK (ks.lookup x)=true):env.kindOf x=some .cell\/env.kindOf x=some .free:=by
 cases q:ks.lookup x with
 | none=>rw[q] at h;cases h
 | some k=>
  obtain⟨_,n2,n3,_⟩:=nk x k q
  rw[q] at h
  cases k with
  | cell=>exact .inl (n2 rfl).1
  | free=>exact(n3 rfl).symm
  | _=>cases h
structure gI(ks:List (Str×bq))(scope:nS):Prop where
 kd:scope.kind = .function
 ok:pJ scope.names=true
 fr:(scope.names.all λx=>x.2 != .free || pK (ks.lookup x.1))=true
theorem gI.free(H:gI ks scope){x:Str}(h:(x,NameKind.free)∈scope.names):pK (ks.lookup x)=true:=by
 have:=b_.mp H.fr _ h
 simpa using this
structure Laid(names:List (Str×bq))(h:a_):Prop where
 ok:CellsOk (mT names h) (h.objs.size+1) (fU (h.objs.size+1) names [])
theorem laid(names:List (Str×bq))(h:a_):Laid names h:=⟨by
 have:=cellsFrom_ok names (h.push {cls:=.type "dict", data:=.dict #[]}) (h.objs.size+1) [] ⟨nofun,.nil⟩ (by rw[fW];exact aD _)
 rwa [fW] at this⟩
theorem gI.cells(H:gI ks scope)(F:FS c d ks Γ Fz m σ h)(x:Str)(a:ao):(nA scope Γ.env h).cells.lookup x=some a ↔
  (scope.names.lookup x=some .cell/\(fU (h.objs.size+1) scope.names []).lookup x=some a)\/(scope.names.lookup x=some .free/\Γ.env.cells.lookup x=some a):=by
 show(fU (h.objs.size+1) scope.names (fQ Γ.env.cells scope.names [])).lookup x=some a ↔ _
 rw[show fQ Γ.env.cells scope.names []=[]++fQ Γ.env.cells scope.names [] from rfl,_3w,_6o,_6n]
 have key:(scope.names.any λy=>x == y.1&&y.2 == .free)=true ↔ scope.names.lookup x=some .free:=by
  refine⟨λq=>?_,λq=>nV.mpr ⟨_,bE q,by simp⟩⟩
  obtain⟨⟨y,k⟩,h1,h2⟩:=nV.mp q
  rw[bm] at h2
  have:=_3v H.ok _ h1
  rw[beq_iff_eq.mp h2.1,this,beq_iff_eq.mp h2.2]
 cases e:(fU (h.objs.size+1) scope.names []).lookup x with
 | some b=>
  have hc:scope.names.lookup x=some .cell:=_3v H.ok (x,.cell) ((_3x _ _ _ (bE e)).resolve_left bj)
  exact⟨λq=>.inl ⟨hc,q⟩,λq=>q.elim (·.2) λq=>nomatch hc.symm.trans q.1⟩
 | none=>
  rw[oR]
  by_cases q:(scope.names.any λy=>x == y.1&&y.2 == .free)=true
  ·obtain⟨b,hb⟩:=F.fm.hc x (F.nk.cell (H.free (bE (key.mp q))))
   rw[if_pos q,hb]
   exact⟨λe=>.inr ⟨key.mp q,e⟩,λe=>e.elim (λe=>_m e.2) (·.2)⟩
  ·rw[if_neg q]
   exact⟨λe=>_m e,λe=>e.elim (λe=>_m e.2) λe=>absurd (key.mpr e.1) q⟩
theorem gI.far(H:gI ks scope)(F:FS c d ks Γ Fz m σ h){a:ao}(hf:Far Γ.env a)(hn:a<h.objs.size):Far (nA scope Γ.env h) a:=
 ⟨bQ hn,λx e=>((H.cells F x a).mp e).elim (λq=>absurd hn (gJ.mpr (bN ((laid scope.names h).ok.empty x a (bE q.2)).2))) λq=>hf.2 x q.2⟩
noncomputable def td(names:List (Str×bq))(m m':Loc):Prop:=∀x av,m'.lookup x=some av->m.lookup x=some av/\dX (names.lookup (ab x))=false
theorem _gl(H:gI ks scope)(F:FS c d ks Γ Fz m σ h){m':Loc}(hm:td scope.names m m'):
  FS c d scope.names ⟨λx=>scope.names.lookup x=some .cell,nA scope Γ.env h,Γ.A⟩ (Frz Γ.env Fz h) m' σ (mT scope.names h):=by
 have k:=_6q scope.names h
 have G:=F.fm.more k
 have La:=(laid scope.names h).ok
 have kd:∀x,(nA scope Γ.env h).kindOf x=(scope.names.lookup x).map λk=>if(k == NameKind.free&&Γ.env.scope.kind == .function&&Γ.env.kindOf x == some .cell) then NameKind.cell else k:=λx=>_6p x
 have fresh:∀a,h.objs.size<=a->∀o,¬Frz Γ.env Fz h a o:=by
  rintro a hl o (q | ⟨q,_⟩)
  ·exact absurd (bM (F.st.fz a o q)) (gJ.mpr hl)
  ·exact absurd (bM q) (gJ.mpr hl)
 have free:∀x,(nA scope Γ.env h).kindOf x=some .cell\/(nA scope Γ.env h).kindOf x=some .free->scope.names.lookup x=some .free\/scope.names.lookup x=some .cell:=by
  intro x q
  rw[kd] at q
  cases e:scope.names.lookup x with
  | none=>rw[e] at q;rcases q with q | q <;> cases q
  | some kk=>
   rw[e] at q
   cases kk with
   | free=>exact .inl rfl
   | cell=>exact .inr rfl
   | _=>rcases q with q | q <;> cases q
 have hC:(mT scope.names h).Ns h.objs.size λ_=>none:=_68 (Heap.Ns.new h (.type "dict")) λo e=>pushCells_keeps _ _ _ o e
 refine⟨F.base,?_,F.room,λb o e=>.inl (F.bs b o e),(F.st.freeze F.fm).more (_f k) k,⟨H.kd,F.fm.gl,F.fm.bl,⟨λ_=>none,hC,λx av e q=>?_⟩,λx a e=>?_,λx av e q=>?_,fresh _ (aD _),F.st.free (_a h),λx a hW e=>?_,λx q=>?_⟩⟩
 ·intro x kk q
  have e1:=kd x
  rw[q] at e1
  refine⟨?_,?_,?_,?_⟩
  ·rintro rfl;exact e1
  ·rintro rfl;exact⟨e1,q⟩
  ·rintro rfl;rw[e1,gq];split;exact .inr rfl;exact .inl rfl
  ·rintro rfl;exact e1
 ·have hw:=(hm x av e).2
  change (nA scope Γ.env h).kindOf _=_ at q
  rw[kd] at q
  cases e1:scope.names.lookup (ab x) with
  | none=>rw[e1] at q;cases q
  | some kk=>
   rw[e1] at q hw
   cases kk with
   | «local»=>cases hw
   | free=>rw[gq] at q;split at q <;> cases q
   | _=>cases q
 ·rcases(H.cells F x a).mp e with q | q
  ·exact⟨none,(La.empty x a (bE q.2)).1⟩
  ·exact G.cs x a q.2
 ·have hw:=(hm x av e).2
  have e1:=(free _ q).resolve_right λq=>by rw[q] at hw;cases hw
  obtain⟨cc,v,f1,f2,f3⟩:=G.cv x av (hm x av e).1 (F.nk.cell (H.free (bE e1)))
  exact⟨cc,v,(H.cells F _ cc).mpr (.inr ⟨e1,f1⟩),f2,f3⟩
 ·have e1:=((H.cells F x a).mp e).resolve_right λq=>nomatch hW.symm.trans q.1
  have lo:=(La.empty x a (bE e1.2)).2
  refine⟨fresh a (bN lo),λy hy=>?_⟩
  rcases(H.cells F y a).mp hy with q | q
  ·exact name_of_addr La.apart (bE q.2) (bE e1.2)
  ·obtain⟨v,o,ho,_⟩:=F.fm.cs y a q.2
   exact absurd (bM ho) (gJ.mpr (bN lo))
 ·rcases free x q with e1 | e1
  ·obtain⟨a,ha⟩:=F.fm.hc x (F.nk.cell (H.free (bE e1)))
   exact⟨a,(H.cells F x a).mpr (.inr ⟨e1,ha⟩)⟩
  ·obtain⟨a,ha⟩:=_1c x scope.names (h.objs.size+1) [] (.inl (bE e1))
   exact⟨a,(H.cells F x a).mpr (.inl ⟨e1,ha⟩)⟩
end
section
variable{c:Cx}{d:Nat}{ks:List (Str×bq)}{Γ:Fr}{Fz:Fzn}{m:Loc}{σ:af}{s:ah}{nm:List String}{n:Nat}{R:pY->ah->Prop}
theorem FS.lessm{m':Loc}{h:a_}(F:FS c d ks Γ Fz m σ h)(k:∀x a,m'.lookup x=some a->m.lookup x=some a):FS c d ks Γ Fz m' σ h:=F.next F.st (F.fm.lessm k)
noncomputable def qv(c:Cx)(d:Nat)(ks:List (Str×bq))(ir:IE)(ifs:List Expr):Prop:=
 ∀Γ Fz m σ s (QB:Bool->af->Prop) (P:Bool->ah->Prop) E,FS c d ks Γ Fz m σ s.heap->wpE c d ir m σ (λv aX=>dN v λb=>QB b aX)->KB c d ks Γ Fz m s QB P ->
  wpAny c.M Γ.A (forIn ifs true λe r=>if r=true then do let ok <-isTrue e Γ.env (eval e Γ.env);pure (ForInStep.yield ok) else pure (ForInStep.yield r)) P E s
theorem _6r{f:Expr->IE}(IH:∀e,TvS c d ks (f e) e)(ifs:List Expr):qv c d ks (uj f ifs) ifs:=λΓ Fz m σ s QB P E F h k=>match ifs,h with
 | [],h=>by rw[pC];exact ad (k true σ s F (.refl s) h)
 | [e],h=>by
  rw[kB]
  refine aa ?_
  rw[if_pos rfl]
  exact aa (IH e _ _ _ _ _ _ _ _ _ F h (λ_ _ q=>q) λb aX s' F' g' q=>ad (by dsimp only;rw[pC];exact ad (k b aX s' F' g' q)))
 | _::_::_,h=>h.elim
noncomputable def pL(e:Expr)(j:Nat)(target iter:Expr)(ifs:List Expr)(bV:ae)(env:oU)(nG:me Unit):Prop:=
 ∀it,compTurn e j it bV env=(do
  standAt iter.pos
  match <-pyNext it with
  | none=>pure (.done .next)
  | some v=>
   lS target it v
   assign target env v
   let mut ok:=true
   for c in ifs do
    if ok then ok <-isTrue c env (eval c env)
   if ok then nG
   again (.compLoop e j it bV env))
noncomputable def tc(elt:Expr)(bV:ae)(env:oU):me Unit:=do let _ <-call (.builtin "list.append") [bV,<-eval elt env]
theorem _6s(elt target iter:Expr)(ifs:List Expr)(scope:nS)(pos:jx)(bV:ae)(env:oU):pL (.ListComp elt [⟨target,iter,ifs,0⟩] scope pos) 0 target iter ifs bV env (tc elt bV env):=λit=>rfl
theorem _gm{A:bB}{elt target iter:Expr}{gens:List iY}{ifs:List Expr}{scope:nS}{pos:jx}{j:Nat}{it bV:ae}{env:oU}{nG:me Unit}(ht:pL (.ListComp elt gens scope pos) j target iter ifs bV env nG)(I:Nat->ah->Prop)
  (turn:∀n s,I n s->wpAny c.M A (pyNext it) (λr bU=>match r with
   | none=>R (.ok .next) bU
   | some v=>wpAny c.M A (lS target it v) (λ_ bU=>wpAny c.M A (assign target env v) (λ_ s₂=>
     wpAny c.M A (forIn ifs true λe r=>if r=true then do let ok <-isTrue e env (eval e env);pure (ForInStep.yield ok) else pure (ForInStep.yield r)) (λok s₃=>
      if ok=true then wpAny c.M A nG (λ_ s₅=>∃m,m<n/\I m s₅) (λ_ _=>False) s₃
      else ∃m,m<n/\I m s₃) (λ_ _=>False) s₂) (λ_ _=>False) bU) (λ_ _=>False) bU) (λ_ _=>False) s)
  (n:Nat) (h:I n s) :
  codeAny c.M A (.compLoop (.ListComp elt gens scope pos) j it bV env) R s:=by
 refine codeAny_loop rfl I (λn s hI=>?_) n h
 show wpAny _ A ((compTurn (.ListComp elt gens scope pos) j it bV env).onRaise (λx=>do noteFrame x env;theTreesLotGoes x)) _ _ s
 refine wpAny_noted ?_
 rw[ht]
 have no:∀{P:ae->ah->Prop} (e:ae) (s:ah),False->P e s:=λ_ _ f=>f.elim
 refine aa (cu (aa (cx (turn n s hI) (λr bU h₁=>?_) no)))
 cases r with
 | none=>exact ad h₁
 | some v=>
  refine aa (cx h₁ (λ_ s₁' h₁'=>aa (cx h₁' (λ_ s₂ uB=>aa (cx uB (λok s₃ rb=>?_) no)) no)) no)
  cases ok with
  | false=>exact ad ⟨rfl,rb⟩
  | true=>exact aa (cx rb (λ_ s₅ h₅=>ad ⟨rfl,h₅⟩) no)
noncomputable abbrev qu(c:Cx)(d:Nat)(em:List AV->Loc->af->(List AV->af->Prop)->Prop)(tg:Tgt)(m:Loc)(cond:IE):AV->List AV->af->(List AV->af->Prop)->Prop:=λx bV σ k=>
 eC c d tg x m σ λm'=>wpE c d cond m' σ λv aX=>dN v λok=>if ok=true then em bV m' aX k else k bV aX
noncomputable abbrev Em1(c:Cx)(d:Nat)(xe:IE):List AV->Loc->af->(List AV->af->Prop)->Prop:=λbV m σ k=>wpE c d xe m σ λv bI=>k (bV++[v]) bI
structure om(env:oU)(Fz:Fzn)(σ:af)(ai:ao->Prop):Prop where
 σ:∀a,ai a->σ a=none
 z:∀a o,ai a->¬Fz a o
 far:∀a,ai a->Far env a
theorem om.frz{env:oU}{ai:ao->Prop}{h:a_}(H:om env Fz σ ai):∀a o,ai a->¬Frz env Fz h a o:=by
 rintro a o y (q | ⟨_,q | ⟨x,q⟩⟩)
 ·exact H.z a o y q
 ·exact(H.far a y).1 q
 ·exact(H.far a y).2 x q
structure uz(c:Cx)(d:Nat)(ks:List (Str×bq))(Γ:Fr)(Fz:Fzn)(m:Loc)(keep:af->Prop)(body:AV->List AV->af->(List AV->af->Prop)->Prop)(ai:ao->Prop)(D:ao)(P:List AV->a_->Prop)(Qf:List AV->af->Prop)(s0:ah)(N:Nat->Prop)
  (rest bV:List AV) (its:Array ae) (k:Nat) (σ:af) (s:ah):Prop where
 fs:FS c d ks Γ (FzH Fz D (listOf its k)) m σ s.heap
 ap:om Γ.env (FzH Fz D (listOf its k)) σ ai
 hP:P rest s.heap
 gr:cR s0 s
 hacc:RVs s.heap its.toList bV
 len:N (bV.length+rest.length)
 loop:compLoop keep body rest bV σ Qf
noncomputable def CEx(c:Cx)(d:Nat)(ks:List (Str×bq))(Γ:Fr)(Fz:Fzn)(m:Loc)(keep:af->Prop)(body:AV->List AV->af->(List AV->af->Prop)->Prop)(ai:ao->Prop)(D:ao)(P:List AV->a_->Prop)(Qf:List AV->af->Prop)(s0:ah)(N:Nat->Prop)(n:Nat)(s:ah):Prop:=
 ∃rest bV its k σ,rest.length=n/\uz c d ks Γ Fz m keep body ai D P Qf s0 N rest bV its k σ s
theorem CEx.on{keep:af->Prop}{body:AV->List AV->af->(List AV->af->Prop)->Prop}{ai:ao->Prop}{D:ao}{P:List AV->a_->Prop}{Qf:List AV->af->Prop}{s0:ah}{N:Nat->Prop}{n:Nat}{R:Prop}(h:CEx c d ks Γ Fz m keep body ai D P Qf s0 N n s)
  (k:∀rest bV its k σ,rest.length=n->uz c d ks Γ Fz m keep body ai D P Qf s0 N rest bV its k σ s->R):R:=by
 obtain⟨rest,bV,its,j,σ,e,V⟩:=h
 exact k rest bV its j σ e V
theorem _2b{β:Type}{keep:af->Prop}{body:AV->β->af->(β->af->Prop)->Prop}{rest:List AV}{b:β}{Q:β->af->Prop}(h:compLoop keep body rest b σ Q):keep σ:=match rest,h with
 | [],h=>h.1
 | _::_,h=>h.1
theorem _gn(its:Array ae)(k:Nat):¬dY (listOf its k):=by simp[dY]
noncomputable def EmS(c:Cx)(d:Nat)(ks:List (Str×bq))(Γ:Fr)(D:ao)(N:Nat->Prop)(L:List String)(em:List AV->Loc->af->(List AV->af->Prop)->Prop)(nG:me Unit):Prop:=
 ∀Fz m σ s its k bV Qk (P:ah->Prop),Bs c Fz->(∀o,¬Fz D o)->Far Γ.env D->FS c d ks Γ (FzH Fz D (listOf its k)) m σ s.heap->RVs s.heap its.toList bV->N (bV.length+1)->(∀x av,m.lookup x=some av->L.contains x=false)->em bV m σ Qk ->
  (∀its' k' i5 aX s',FS c d ks Γ (FzH Fz D (listOf its' k')) m aX s'.heap->cR s s'->RVs s'.heap its'.toList i5->(∀r,N (bV.length+1+r)->N (i5.length+r))->Qk i5 aX->P s')->wpAny c.M Γ.A nG (λ_ s'=>P s') (λ_ _=>False) s
theorem _6t{xe:IE}{elt:Expr}{D:ao}(he:EvS c d ks xe elt):EmS c d ks Γ D (λn=>n<=b8) [] (Em1 c d xe) (tc elt (.ref D) Γ.env):=λFz m σ s its k bV Qk P qz xT xk F ra hN _ uJ K=>by
 refine aa (he _ _ _ _ s _ _ _ F uJ λu uv σ₅ s₅ F5 g5 ru hq=>?_)
 have hD5:=F5.st.fz D (listOf its k) (.inr ⟨rfl,rfl⟩)
 refine aa (append_at hD5 (λh' hs hD'=>ad ?_) (by have h1:=ra.length;simp at h1;(first | lia | omega)))
 have F6:=F5.let qz xT xk hs (_gn its k)
 exact K (its.push u) (k+1) (bV++[uv]) σ₅ {s₅ with heap:=h'} (F6.1.hold hD' (F5.st.heldσ (.inr ⟨rfl,rfl⟩)) xk) (g5.trans ⟨F6.2,rfl,rfl⟩) (by
  rw[eO]
  exact((ra.grow g5.g).grow F6.2).append (.one (ru.grow F6.2))) (λr q=>by rw[am];exact q) hq
theorem _go{keep:af->Prop}{elt target iter:Expr}{gens:List iY}{j:Nat}{nG:me Unit}{ifs:List Expr}{scope:nS}{pos:jx}{it:ae}{ai:ao->Prop}{D:ao}{en:Bool}{P:List AV->a_->Prop}{P':ae->List AV->a_->Prop}{cond:IE}{em:List AV->Loc->af->(List AV->af->Prop)->Prop}{L:List String}{tg:Tgt}{Qf:List AV->af->Prop}{s0:ah}{N:Nat->Prop}
  (tt:pL (.ListComp elt gens scope pos) j target iter ifs (.ref D) Γ.env nG) (uJ:EmS c d ks Γ D N L em nG) (hL:∀x,tg.names.contains x=true->L.contains x=false) (uG:∀x av,m.lookup x=some av->L.contains x=false)
  (qz:Bs c Fz) (ht:ASg c d ks tg target) (hi:qv c d ks cond ifs) (pR:en=true->∃elts k p,target = .Tuple elts k p) (I:jE c d en it ai P P' keep) (xT:∀o,¬Fz D o) (xk:Far Γ.env D) (hDa:¬ai D) (hN:∀a b,a<=b->N b->N a)
  (hm:∀x av,m.lookup x=some av->tg.names.contains x=false)
  (xK:∀aX s' its' k' i5,uz c d ks Γ Fz m keep (qu c d em tg m cond) ai D (λ_ _=>True) Qf s0 N [] i5 its' k' aX s'->R (.ok .next) s') (n:Nat) (s:ah) (rest bV:List AV) (its:Array ae) (k0:Nat) (σ:af) (hn:rest.length=n)
  (hI:uz c d ks Γ Fz m keep (qu c d em tg m cond) ai D P Qf s0 N rest bV its k0 σ s):codeAny c.M Γ.A (.compLoop (.ListComp elt gens scope pos) j it (.ref D) Γ.env) R s:=by
 refine _gm tt (CEx c d ks Γ Fz m keep (qu c d em tg m cond) ai D P Qf s0 N) ?_ n ⟨rest,bV,its,k0,σ,hn,hI⟩
 clear hI hn rest bV its k0 σ s n
 intro n s h
 refine h.on λrest bV its k0 σ hn V=>?_
 cases rest with
 | nil=>
  refine I.next Γ.A _ σ [] s _ _ V.fs.go (_2b V.loop) V.ap.frz V.ap.σ V.hP λr bU T1 g1 hr=>?_
  rw[show r=none from hr]
  exact xK σ bU its k0 bV ⟨V.fs.back T1 g1.g,V.ap,trivial,V.gr.trans g1,V.hacc.grow g1.g,V.len,V.loop⟩
 | cons x xs=>
  refine I.next Γ.A _ σ (x::xs) s _ _ V.fs.go (_2b V.loop) V.ap.frz V.ap.σ V.hP λr bU T1 g1 hr=>hr.elim λv hr=>?_
  rw[hr.1]
  refine I.letGo Γ.A _ σ xs bU v target _ _ pR V.fs.room T1 V.ap.frz V.ap.σ hr.2.2 λs₂ T2 g2 hP2=>?_
  have xA:=I.there _ _ hP2
  have FB:=(V.fs.back T2 (g1.trans g2).g).holdS V.ap.σ V.ap.far
  refine ht _ _ _ _ s₂ v x _ _ _ FB (hr.2.1.grow g2.g) (_6k tg x m _ V.loop.2) λm₁ s₃ F3 g3 hk=>hi _ _ _ _ s₃ _ _ _ F3 hk.1 λok σ₄ s₄ F4 g4 oN=>?_
  have vx:∀x av,m.lookup x=some av->m₁.lookup x=some av:=λx av e=>(hk.2 x (hm x av e)).trans e
  have lt:xs.length<n:=tQ (cD _) hn
  have ap:∀{aX:af} {h':a_} {Fy:Fzn},(∀a o,ai a->s₂.heap.get? a=some o->Fy a o)->FS c d ks Γ Fy m₁ aX h'->∀a,ai a->aX a=none:=λf F a y=>(xA a y).elim λo ho=>F.st.heldσ (f a o y ho)
  cases ok with
  | false=>exact⟨xs.length,lt,xs,bV,its,k0,σ₄,rfl,(F4.lessF V.fs.bs λ_ _=>.inl).lessm vx,⟨ap (λa o y ho=>.inr ⟨y,ho⟩) F4,V.ap.z,V.ap.far⟩,I.still _ _ _ hP2 (λa o y e=>F4.st.fz a o (.inr ⟨y,e⟩)) (g3.trans g4).g,
    V.gr.trans ((g1.trans g2).trans (g3.trans g4)),V.hacc.grow ((g1.trans g2).trans (g3.trans g4)).g,hN _ _ (lO _) V.len,oN⟩
  | true=>
   have gA:=(g1.trans g2).trans (g3.trans g4)
   have hs:Bs c (FzS Fz ai s₂.heap):=λb o e=>.inl (qz b o e)
   have F4':FS c d ks Γ (FzH (FzS Fz ai s₂.heap) D (listOf its k0)) m₁ σ₄ s₄.heap:=F4.lessF (λb o e=>.inl (hs b o e)) λa o q=>q.elim (λq=>q.imp .inl id) λq=>.inl (.inr q)
   refine uJ _ _ _ s₄ its k0 bV _ _ hs (λo q=>q.elim (xT o) λq=>hDa q.1) xk F4' (V.hacc.grow gA.g) (hN _ _ (Nat.add_le_add_left (fE 1 _) _) V.len) (λy av e=>?_) oN λits' k' i5 σ₅ s₅ F5 g5 ra hn2 hq=>?_
   ·cases q:tg.names.contains y with
    | true=>exact hL y q
    | false=>exact uG y av ((hk.2 y q).symm.trans e)
   ·exact⟨xs.length,lt,xs,i5,its',k',σ₅,rfl,(F5.lessF (λb o e=>.inl (qz b o e)) λ_ _ q=>q.imp .inl id).lessm vx,⟨ap (λa o y ho=>.inl (.inr ⟨y,ho⟩)) F5,λa o y q=>q.elim (λq=>V.ap.z a o y (.inl q)) λq=>hDa (q.1 ▸ y),V.ap.far⟩,
     I.still _ _ _ hP2 (λa o y e=>F5.st.fz a o (.inl (.inr ⟨y,e⟩))) ((g3.trans g4).trans g5).g,V.gr.trans (gA.trans g5),ra,hn2 _ ((Nat.add_right_comm _ _ _:bV.length+xs.length+1=bV.length+1+xs.length) ▸ V.len),hq⟩
noncomputable def ItS(c:Cx)(d:Nat)(ks:List (Str×bq))(en:Bool)(ir:IE)(e:Expr):Prop:=
 ∀(Γ:Fr) (Fz:Fzn) (m:Loc) (σ:af) (s:ah) (K:List AV->(af->Prop)->af->Prop) (R:ae->ah->Prop) E,FS c d ks Γ Fz m σ s.heap->EnW c en (wpE c d ir m σ λsv σ₁=>k9 c d en sv σ₁ λitems keep=>K items keep σ₁) ->
  (∀it (ai:ao->Prop) P P' s₂ items keep σ₁,FS c d ks Γ Fz m σ₁ s₂.heap->cR s s₂->om Γ.env Fz σ₁ ai->jE c d en it ai P P' keep->P items s₂.heap->K items keep σ₁->R it s₂) ->
  wpAny c.M Γ.A (eval e Γ.env) (λv bU=>wpAny c.M Γ.A (pyIter v) R E bU) E s
theorem FS.apart{ai:ao->Prop}{h:a_}(F:FS c d ks Γ Fz m σ h)(vG:∀a o,ai a->h.get? a≠some o):om Γ.env Fz σ ai:=
 ⟨λa y=>F.st.free λo=>vG a o y,λa o y q=>vG a o y (F.st.fz _ _ q),λa y=>F.fm.far λo=>vG a o y⟩
theorem _gp{ir:IE}{e:Expr}(he:EvS c d ks ir e):ItS c d ks false ir e:=
 λΓ Fz m σ s K R E F h hR=>he _ _ _ _ _ _ _ _ F h λv av σ₁ bU F₁ g₁ r₁ q₁=>by
  exact fH.run q₁ _ _ bU v _ _ ⟨F₁.room,F₁.base,F₁.bs,F₁.st⟩ r₁ λit ai P s₂ items keep hk S₂ k₂ g₂ vG I hP=>hR it ai P _ s₂ items keep σ₁ (F₁.next S₂ (F₁.fm.more k₂)) (g₁.trans g₂) (F₁.apart vG) I hP hk
theorem _3y(p:String->Bool)(x:String):∀(m:Loc),List.lookup x (m.filter λy=>p y.1)=if p x=true then m.lookup x else none
 | []=>(ite_self _).symm
 | (y,v)::r=>by
  have ih:=_3y p x r
  rw[bW,bx]
  by_cases hy:p y=true
  ·rw[if_pos hy,bx,ih]
   cases e:x == y with
   | true=>rw[beq_iff_eq.mp e];exact(if_pos hy).symm
   | false=>rfl
  ·rw[if_neg hy,ih]
   cases e:x == y with
   | true=>rw[beq_iff_eq.mp e,if_neg hy];exact(if_neg hy).symm
   | false=>rfl
theorem _6u(l:List String)(x:String)(m:Loc):(m.cut l).lookup x=if(!l.contains x)=true then m.lookup x else none:=_3y (λy=>!l.contains y) x m
theorem _6v{elt target iter:Expr}{gs:List iY}{ifs:List Expr}{scope:nS}{pos:jx}{xi cond:IE}{em:List AV->Loc->af->(List AV->af->Prop)->Prop}{nG:ae->oU->me Unit}{ns L:List String}{N:Nat->Prop}{en:Bool}{tg:Tgt}{Q:AV->af->Prop}{Rr:ae->ao->pY->ah->Prop}{E:ae->ah->Prop}
  (H:gI ks scope) (wz:(scope.names.all λx=>!dX (some x.2) || ((".0" :: ns).map ab).contains x.1)=true)
  (tt:∀bV env,pL (.ListComp elt (⟨target,iter,ifs,0⟩::gs) scope pos) 0 target iter ifs bV env (nG bV env)) (uJ:∀Γ D,EmS c d scope.names Γ D N L em (nG (.ref D) Γ.env)) (hN:∀a b,a<=b->N b->N a) (hN0:∀n,n<=b8->N n)
  (sp:∀x,ns.contains x=false->tg.names.contains x=false/\L.contains x=false) (hL:∀x,tg.names.contains x=true->L.contains x=false)
  (ht:ASg c d scope.names tg target) (pR:en=true->∃elts k p,target = .Tuple elts k p) (iD:ItS c d ks en xi iter) (hi:qv c d scope.names cond ifs)
  (F:FS c d ks Γ Fz m σ s.heap) (h:EnW c en (wpE c d xi m σ λsv σ₁=>k9 c d en sv σ₁ λitems keep=>items.length<=b8/\compLoop keep (qu c d em tg (m.cut (".0" :: ns)) cond) items ([]:List AV) σ₁ (λbV bI=>∀a,bI a=none->Q (.ref a) (bI.set a (.list bV)))))
  (hR:∀(D C:ao) (oC:iF) (mC:Str->Option ae) (bV:List AV) (bI:af) (s':ah),FS c d ks Γ (FzH Fz C oC) m (bI.set D (.list bV)) s'.heap->s'.heap.Ns C mC->¬dY oC->s'.heap.get? C=some oC->Far Γ.env C->(∀o,¬Fz C o)->cR s s'->Q (.ref D) (bI.set D (.list bV))->Rr (.ref D) C (.ok .next) s') :
  wpAny c.M Γ.A (eval iter Γ.env) (λx bU=>wpAny c.M Γ.A (pyIter x) (λit s₂=>wpAny c.M Γ.A (newList []) (λbV s₃=>
   wpAny c.M Γ.A (rE scope Γ.env.globals (fQ Γ.env.cells scope.names []) [] Γ.env.qual none .none (some Γ.env)) (λcenv s₄=>
    codeAny c.M Γ.A (.compStart (.ListComp elt (⟨target,iter,ifs,0⟩::gs) scope pos) 0 it bV {cenv with scope:=relabel scope Γ.env}) (Rr bV cenv.locals) s₄) E s₃) E s₂) E bU) E s:=by
 refine iD Γ Fz m σ s (λitems keep σ₁=>items.length<=b8/\compLoop keep (qu c d em tg (m.cut (".0" :: ns)) cond) items ([]:List AV) σ₁ (λbV bI=>∀a,bI a=none->Q (.ref a) (bI.set a (.list bV)))) _ _ F h ?_
 intro it ai P P' s₂ items keep σ₁ F₂ g₁₂ ap I hP ⟨cL,hloop⟩
 refine dc ?_ (by simp[sizeOk])
 refine _gk ?_
 have F₃:=F₂.push {cls:=.type "list", data:=.seq #[]}
 have eX:(s₂.heap.push {cls:=.type "list", data:=.seq #[]}).objs.size=s₂.heap.objs.size+1:=fW ..
 have k3:=_p s₂.heap {cls:=.type "list", data:=.seq #[]}
 have k4:=_6q scope.names (s₂.heap.push {cls:=.type "list", data:=.seq #[]})
 have lt:∀a,ai a->a<s₂.heap.objs.size:=λa y=>let⟨o,ho⟩:=I.there _ _ hP a y;bM ho
 have uL:=F₂.fm.far (_a s₂.heap)
 have xP:td scope.names m (m.cut (".0" :: ns)):=by
  intro x av e
  rw[_6u] at e
  cases hc:(".0" :: ns).contains x with
  | true=>rw[hc,if_neg (by decide)] at e;exact _m e
  | false=>
   rw[hc,if_pos (by decide)] at e
   refine⟨e,?_⟩
   cases q:scope.names.lookup (ab x) with
   | none=>rfl
   | some kd=>
    have h1:=b_.mp wz _ (bE q)
    rw[vh,gR] at h1
    refine h1.elim id λh1=>?_
    obtain⟨y,hy,e'⟩:=aq.mp (rQ.mp h1)
    rw[<-_s e',rQ.mpr hy] at hc
    cases hc
 have F₄:=_gl H F₃ xP
 have zD:∀o,¬Frz Γ.env Fz (s₂.heap.push {cls:=.type "list", data:=.seq #[]}) s₂.heap.objs.size o:=by
  rintro o (q | ⟨_,q | ⟨x,q⟩⟩)
  ·exact _a _ _ (F₂.st.fz _ _ q)
  ·exact uL.1 q
  ·exact uL.2 x q
 have vI:Far (nA scope Γ.env (s₂.heap.push {cls:=.type "list", data:=.seq #[]})) s₂.heap.objs.size:=H.far F₃ uL (by rw[eX];exact cD _)
 have xS:=F₂.st.free (_a s₂.heap)
 have hD4:=k4 _ _ (aH s₂.heap (o:={cls:=.type "list", data:=.seq #[]}) rfl)
 have ap4:om (nA scope Γ.env (s₂.heap.push {cls:=.type "list", data:=.seq #[]})) (FzH (Frz Γ.env Fz (s₂.heap.push {cls:=.type "list", data:=.seq #[]})) s₂.heap.objs.size (listOf #[] 0)) σ₁ ai:=
  ⟨ap.σ,λa o y q=>q.elim (ap.frz a o y) λq=>db _ (q.1 ▸ lt a y),λa y=>H.far F₃ (ap.far a y) (by rw[eX];exact gV (lt a y))⟩
 have hP4:P items (mT scope.names (s₂.heap.push {cls:=.type "list", data:=.seq #[]})):=I.still _ _ _ hP (λa o _ e=>k4 _ _ (k3 _ _ e)) ((_f k3).trans (_f k4))
 have loop:codeAny c.M Γ.A (.compLoop (.ListComp elt (⟨target,iter,ifs,0⟩::gs) scope pos) 0 it (.ref s₂.heap.objs.size) (nA scope Γ.env (s₂.heap.push {cls:=.type "list", data:=.seq #[]}))) (Rr (.ref s₂.heap.objs.size) (s₂.heap.push {cls:=.type "list", data:=.seq #[]}).objs.size) {s₂ with heap:=mT scope.names (s₂.heap.push {cls:=.type "list", data:=.seq #[]})}:=by
  have xf:∀x av,(m.cut (".0" :: ns)).lookup x=some av->ns.contains x=false:=λx av e=>by
   rw[_6u] at e
   cases q:ns.contains x with
   | false=>rfl
   | true=>rw[List.contains_cons,q,Bool.or_true,if_neg (by decide)] at e;exact _m e
  refine _go (Γ:=⟨_,_,Γ.A⟩) (s0:={s₂ with heap:=s₂.heap.push {cls:=.type "list", data:=.seq #[]}}) (tt _ _) (uJ _ _) hL (λx av e=>(sp x (xf x av e)).2) F₄.bs ht hi pR I zD vI (λy=>db _ (lt _ y)) hN (λx av e=>(sp x (xf x av e)).1) ?_ items.length _ items [] #[] 0 σ₁ rfl ⟨F₄.hold hD4 xS vI,ap4,hP4,⟨_f k4,rfl,rfl⟩,.nil,hN0 _ (by rw[bL,i6];exact cL),hloop⟩
  ·intro aX s' its' k' i5 V
   obtain⟨mC,hmC,_⟩:=V.fs.fm.ns
   obtain⟨oC,es,ep,hoC,hdC,hC⟩:=id hmC
   have Fo:=F₃.back (V.fs.st.lessF λ_ _=>.inl) V.gr.g
   have w0:=F₃.fm.far (_a _)
   have hCD:(s₂.heap.push {cls:=.type "list", data:=.seq #[]}).objs.size≠s₂.heap.objs.size:=by rw[eX];exact oH _
   have hzC:∀o,¬Fz (s₂.heap.push {cls:=.type "list", data:=.seq #[]}).objs.size o:=λo q=>_a _ _ (F₃.st.fz _ _ q)
   refine hR _ _ oC mC i5 aX s' ((Fo.adopt (ce:=.list i5) (λo q=>_a _ _ (F₂.st.fz _ _ q)) uL ⟨its',k',V.fs.st.fz _ _ (.inr ⟨rfl,rfl⟩),V.hacc⟩).hold hoC (by rw[af.set_ne _ _ hCD];exact V.fs.fm.nσ) w0) hmC (by simp[dY,hdC]) hoC w0 hzC (g₁₂.trans (cR.trans (cR.push s₂ _) V.gr)) ?_
   exact V.loop.2 _ (V.fs.st.heldσ (.inr ⟨rfl,rfl⟩))
 exact codeAny_compStart_list loop (I.again _ items {s₂ with heap:=mT scope.names _} _ _ F₂.room hP4 loop)
theorem gI.cl(H:gI ks scope)(F:FS c d ks Γ Fz m σ s.heap):closureFor scope Γ.env=pure (fQ Γ.env.cells scope.names []):=
 _gj λx hx hf=>F.fm.hc _ (F.nk.cell (H.free (by rw[<-hf];exact hx)))
theorem gI.loc(H:gI ks scope):∀x∈scope.names,x.2 = .local->scope.names.lookup x.1=some .local:=λx hx hl=>by rw[_3v H.ok x hx,hl]
theorem _3z{iter:Expr}(h:lu iter=true)(env:oU)(x:ae):foldedSetIterable iter env x=pure x:=by
 cases iter <;> first | rfl | cases h
theorem _6w{tg:Tgt}(x:String)(h:tg.names.contains x=false):tg.names.contains x=false/\([]:List String).contains x=false:=⟨h,rfl⟩
theorem _6x(a b:Nat)(h:a<=b)(k:b<=b8):a<=b8:=ay h k
theorem _gq{elt target iter:Expr}{ifs:List Expr}{scope:nS}{pos:jx}{xe xi cond:IE}{en:Bool}{tg:Tgt}(H:gI ks scope)(tu:lu iter=true)(wz:(scope.names.all λx=>!dX (some x.2) || ((".0" :: tg.names).map ab).contains x.1)=true)
  (he:EvS c d scope.names xe elt) (ht:ASg c d scope.names tg target) (pR:en=true->∃elts k p,target = .Tuple elts k p) (iD:ItS c d ks en xi iter) (hi:qv c d scope.names cond ifs) :
  EvS c d ks (.comp xe tg en xi cond) (.ListComp elt [⟨target,iter,ifs,0⟩] scope pos):=λΓ Fz m σ s Q P E F h k=>by
 rw[eval_ListComp]
 refine sx (g:=⟨target,iter,ifs,0⟩) (gs:=[]) rfl (_3z tu _) (H.cl F) H.kd H.loc (_6v (Q:=Q) (Rr:=λbV C=>compPost c.M Γ.A E none P bV C) H wz (_6s _ _ _ _ _ _) (λΓ D=>_6t he) _6x (λ_=>id) _6w (λ_ _=>rfl) ht pR iD hi F h λD C oC mC bV bI s' F' sp hl _ sr hz g hq=>⟨mC,sp,λh' hs=>?_⟩)
 obtain⟨F'',g'⟩:=F'.let F.bs hz sr hs hl
 exact k (.ref D) (.ref D) _ {s' with heap:=h'} F'' ⟨g.g.trans g',g.os,g.gens⟩ rfl hq
end
section
variable{c:Cx}{d:Nat}{ks:List (Str×bq)}{Γ:Fr}{Fz:Fzn}{m:Loc}{σ:af}{s:ah}{nm:List String}{n:Nat}{h h':a_}{D D':ao}{o o':iF}
theorem St.extWrite{p:ao->Prop}(S:St c.prog c.w Fz σ h)(hD:∀a o,p a->¬Fz a o)(jb:∀a,p a->σ a=none)(hs:∀b o,¬p b->h.get? b=some o->h'.get? b=some o)(hl:∀a o,p a->h.get? a=some o->¬dY o):St c.prog c.w Fz σ h'/\de h h':=
 have g:de h h':=λb o ho hlo=>hs b o (λy=>hl b o y ho hlo) ho
 ⟨⟨λb o q=>hs b o (λy=>hD b o y q) (S.fz b o q),λa ce e=>(S.cell a ce e).move g λo ho=>hs a o (λy=>by rw[jb a y] at e;cases e) ho,S.apart⟩,g⟩
theorem St.extWrite1(S:St c.prog c.w Fz σ h)(hD:∀o,¬Fz D o)(jb:σ D=none)(hs:jw D h h')(ho:h.get? D=some o)(hl:¬dY o):St c.prog c.w Fz σ h'/\de h h':=
 S.extWrite (p:=λa=>a=D) (λ_ o e=>e ▸ hD o) (λ_ e=>e ▸ jb) (λb o y=>hs b o y) λa o' e q=>by subst e;rw[ho] at q;cases q;exact hl
theorem _1d{A:bB}{t:Expr}{r:ao}{v:ae}{o:iF}{T:String}{R:Unit->ah->Prop}{E:ae->ah->Prop}{M:rN}(ho:s.heap.get? r=some o)(hc:o.cls = .type T)(hT:(["enumerate", "zip", "dict_itemiterator", "dict_reverseitemiterator", "odict_iterator", "itertools.zip_longest", "itertools.pairwise"]:List String).contains T=false)(h:R () s):
  wpAny M A (lS t (.ref r) v) R E s:=by
 obtain⟨oc,od,oda,osl⟩:=o
 dsimp only at hc
 subst hc
 have key:∀(a:ao),wpAny M A (load r >>= λo=>match o.cls,o.data with
   | .type n,.fields vs=>if(["enumerate", "zip", "dict_itemiterator", "dict_reverseitemiterator", "odict_iterator", "itertools.zip_longest", "itertools.pairwise"]:List String).contains n&&vs[0]? == some (rawInt a) then(do rule "for.unpacks-the-owned-tuple";updateField r 0 .none) else pure ()
   | _,_=>pure ()) R E s:=by
  intro a
  refine aa (oA ho ?_)
  cases oda with
  | fields vs=>dsimp only;rw[hT];exact ad h
  | _=>exact ad h
 cases t <;> first | exact ad h | (cases v <;> first | exact ad h | exact key _)
theorem _O{h:a_}{a:ao}{o p:iF}{T:String}(e:h.get? a=some p)(hc:p.cls = .type T)(hT:(T == "tuple" || T == "slice" || T == "range")=false)(q:h.get? a=some o):¬dY o:=by
 obtain rfl:=aB (e.symm.trans q)
 rw[lr,lr] at hT
 have no:∀{U},(T == U)=false->p.cls ≠ .type U:=λz q=>beq_eq_false_iff_ne.mp z (fB (hc.symm.trans q))
 exact λl=>l.elim (λx=>no hT.1.1 x.1) λx=>x.1.elim (no hT.1.2) (no hT.2)
theorem _0d{α:Type}{xs:List α}{i:Nat}{x:α}{r:List α}(h:xs.drop i=x::r):xs[i]? = some x/\xs.drop (i+1)=r:=
 ⟨by rw[<-nL i,<-jf,h];rfl,by rw[<-List.tail_drop,h];rfl⟩
theorem drop_nil{α:Type}{xs:List α}{i:Nat}(h:xs.drop i=[]):xs[i]? = none:=by rw[<-nL i,<-jf,h];rfl
theorem _2c{l:ao}{xs:List AV}(S:St c.prog c.w Fz σ h)(e:σ l=some (.list xs)):∃its,h.IsList l its/\RVs h its.toList xs:=
 (S.cell _ _ e).elim λits q=>q.elim λn q=>⟨its,⟨_,q.1,rfl,n,rfl⟩,q.2⟩
theorem RVs.none_at{its:Array ae}{l:List AV}(r:RVs h its.toList l){i:Nat}(e:l[i]? = none):its[i]? = none:=by
 have:=r.get i
 rw[a0,e] at this
 cases q:its[i]? with
 | none=>rfl
 | some v=>rw[q] at this;exact this.elim
theorem RVs.some_at{its:Array ae}{l:List AV}(r:RVs h its.toList l){i:Nat}{a:AV}(e:l[i]? = some a):∃v,its[i]? = some v/\RV h v a:=by
 have:=r.get i
 rw[a0,e] at this
 cases q:its[i]? with
 | none=>rw[q] at this;exact this.elim
 | some v=>rw[q] at this;exact⟨v,rfl,this⟩
noncomputable def vo(it l:ao)(xs rest:List AV)(h:a_):Prop:=∃i,h.IsListIter it l i/\rest=xs.drop i
theorem _gr{l it:ao}{xs:List AV}:jE c d false (.ref it) (λa=>a=it) (vo it l xs) (λ_=>vo it l xs) (λσ=>σ l=some (.list xs)) where
 there:=λ_ h x a q=>x.elim λi x=>x.1.elim λo e=>⟨o,q ▸ e.1⟩
 still:=λ_ h h' x k g=>x.elim λi x=>x.1.elim λo e=>⟨i,⟨o,k _ _ rfl e.1,e.2⟩,x.2⟩
 again:=λA l s R E hr x h=>x.elim λi x=>wpAny_pyIter_listiter x.1 h
 next:=λA Fz σ rest=>match rest with
  | []=>λs R E G hk hf jb hP hR=>by
   obtain⟨i,hi,e⟩:=hP
   obtain⟨its,hl,ri⟩:=_2c G.st hk
   refine wpAny_pyNext_list_end G.room.hn hi hl (ri.none_at (drop_nil e.symm)) λh' he=>?_
   obtain⟨p,hp,hc,_⟩:=id hi
   have u:=G.st.extWrite1 (λo=>hf it o rfl) (jb it rfl) he hp (_O hp hc (by decide) hp)
   exact hR none _ u.1 ⟨u.2,rfl,rfl⟩ rfl
  | x::r=>λs R E G hk hf jb hP hR=>by
   obtain⟨i,hi,e⟩:=hP
   obtain⟨its,hl,ri⟩:=_2c G.st hk
   obtain⟨v,q,hg⟩:=ri.some_at (_0d e.symm).1
   refine wpAny_pyNext_list_item hi hl q λh' lI hs=>?_
   obtain⟨p,hp,hc,_⟩:=id hi
   have u:=G.st.apartWrite (λo=>hf it o rfl) (jb it rfl) hs hp (_O hp hc (by decide) hp)
   exact hR (some v) _ u.1 ⟨u.2,rfl,rfl⟩ ⟨v,rfl,hg.grow u.2,i+1,lI,(_0d e.symm).2.symm⟩
 letGo:=λA Fz σ l s v t R E _ hr S hf jb hP hR=>by
  obtain⟨o,ho,hc,_⟩:=hP.choose_spec.1
  exact _1d ho hc (by decide) (hR s S (.refl _) hP)
noncomputable def EnI(it l e:ao)(xs rest:List AV)(h:a_):Prop:=∃i old,IsEnum h e it ((i:Nat):Int) old/\h.IsListIter it l i/\rest=ji i (xs.drop i)
noncomputable def EnO(it l e:ao)(xs:List AV)(v:ae)(rest:List AV)(h:a_):Prop:=∃i x a,v = .ref a/\IsEnumOut h e it ((i:Nat):Int) x a/\h.IsListIter it l i/\rest=ji i (xs.drop i)
theorem _gs{l it e:ao}{xs:List AV}(gK:e≠it):jE c d true (.ref e) (λa=>a=e\/a=it) (EnI it l e xs) (EnO it l e xs) (λσ=>σ l=some (.list xs)) where
 there:=λrest h x a q=>x.elim λi x=>x.elim λold x=>q.elim (λq=>⟨_,q ▸ x.1⟩) λq=>x.2.1.elim λo z=>⟨_,q ▸ z.1⟩
 still:=λrest h h' x k g=>x.elim λi x=>x.elim λold x=>x.2.1.elim λo z=>⟨i,old,k _ _ (.inl rfl) x.1,⟨o,k _ _ (.inr rfl) z.1,z.2⟩,x.2.2⟩
 again:=λA l s R E hr x h=>x.elim λi x=>x.elim λold x=>wpAny_pyIter_enum x.1 h
 next:=λA Fz σ rest s R E G hk hf jb hP=>by
  obtain⟨i,old,he,hi,r8⟩:=hP
  obtain⟨its,hl,ri⟩:=_2c G.st hk
  obtain⟨p,hp,hc,_⟩:=id hi
  rw[r8]
  cases hd:xs.drop i with
  | nil=>
   intro hR
   refine wpAny_pyNext_enum_end G.room.hn he hi hl (ri.none_at (drop_nil hd)) λh' r7=>?_
   have u:=G.st.extWrite1 (λo=>hf it o (.inr rfl)) (jb it (.inr rfl)) r7 hp (_O hp hc (by decide) hp)
   exact hR none _ u.1 ⟨u.2,rfl,rfl⟩ rfl
  | cons x r=>
   intro hR
   obtain⟨v,q,hg⟩:=ri.some_at (_0d hd).1
   refine wpAny_pyNext_enum_item he hi hl q gK λh' heo lI ht hz fP=>?_
   have u:=G.st.extWrite (p:=λa=>a=e\/a=it) hf jb (λb o y=>fP b o (λe=>y (.inl e)) λe=>y (.inr e)) λa o y q=>
    y.elim (λy=>_O he rfl (by decide) (y ▸ q)) λy=>_O hp hc (by decide) (y ▸ q)
   exact hR (some (.ref s.heap.objs.size)) {s with heap:=h',toks:=_} u.1 ⟨u.2,rfl,rfl⟩ ⟨_,rfl,RV.tup _ #[.int i s.toks,v] _ ⟨0,ht⟩ (.cons (RV.int _ _) (.one (hg.grow u.2))),i+1,v,s.heap.objs.size,rfl,heo,lI,by rw[(_0d hd).2]⟩
 letGo:=λA Fz σ rest s v t R E ht hr S hf jb hP hR=>by
  obtain⟨i,x,a,rfl,heo,hi,q⟩:=hP
  obtain⟨elts,k,p,rfl⟩:=ht rfl
  refine wpAny_letOwnedTupleGo_enum heo λh' he' hs=>?_
  have u:=S.apartWrite (λo=>hf e o (.inl rfl)) (jb e (.inl rfl)) hs heo (_O heo rfl (by decide) heo)
  exact hi.elim λo z=>hR {s with heap:=h'} u.1 ⟨u.2,rfl,rfl⟩ ⟨i,x,he',⟨o,(hs.2 it (λe=>gK e.symm)).trans z.1,z.2⟩,q⟩
theorem _gt{x:IE}{e':Expr}{p pos:jx}(hk:j7 (ks.lookup ("enumerate" : Str))=true)(hu:cS e'=true)(IH:EvS c d ks x e'):ItS c d ks true x (.Call (.Name "enumerate" p) [e'] [] pos):=by
 intro Γ Fz m σ s K R E F ⟨hg,h⟩ hR
 have e:eval (.Call (.Name "enumerate" p) [e'] [] pos) Γ.env=(eval (.Name "enumerate" p) Γ.env >>= λfv=>rI pos fv [] (backTo pos (ic [e'] Γ.env)) []):=rfl
 rw[e]
 refine aa (_69 F (x:="enumerate") rfl hk (by decide) hg ?_)
 have hs:ic [e'] Γ.env=[(false,eval e' Γ.env)]:=by cases e' <;> first | rfl | cases hu
 refine _6e (c:=c) (.inr (.inl ⟨_,rfl⟩)) (by rw[hs];rfl) (wpAny_items_cons (IH _ _ _ _ _ _ _ _ F h λv av σ₁ bU F₁ g₁ r₁ q₁=>wpAny_items_nil ⟨F₁.kin,?_⟩) hs)
 obtain⟨l,xs,rfl,hσl,cL,hK⟩:=q₁
 obtain rfl:v = .ref l:=r₁
 obtain⟨its,hL,ri⟩:=_2c F₁.st hσl
 refine call_enumerate_list hL λh' he hi hz fP=>wpAny_pyIter_enum he ?_
 have rn:∀a o,(a=bU.heap.objs.size+1\/a=bU.heap.objs.size)->bU.heap.get? a≠some o:=by
  rintro a o (rfl | rfl) q
  ·exact db _ (cN (cD _) (bM q))
  ·exact _a _ _ q
 exact hR _ _ _ _ {bU with heap:=h'} _ _ σ₁ (F₁.next (F₁.st.more (_f fP) fP) (F₁.fm.more fP)) (g₁.trans ⟨_f fP,rfl,rfl⟩) (F₁.apart rn) (_gs (l:=l) (xs:=xs) (oH _)) ⟨0,.none,he,hi,by rw[lq]⟩ hK
theorem _gu{P:Expr->Prop}(h1:∀f a k p,P (.Call f a k p))(h2:∀e,lA ks e=none->P e)(e:Expr):P e:=by
 cases e with
 | Call f a k p=>exact h1 f a k p
 | _=>exact h2 _ rfl
theorem _gv{P:Expr->Prop}{a:List Expr}{k:List Keyword}{pos:jx}(h1:∀id p,P (.Name id p))(h2:∀f,lA ks (.Call f a k pos)=none->P f)(f:Expr):P f:=by
 cases f with
 | Name id p=>exact h1 id p
 | _=>exact h2 _ rfl
theorem _gw{e' e:Expr}:lA ks e=some e'->∃p pos,e = .Call (.Name "enumerate" p) [e'] [] pos/\j7 (ks.lookup ("enumerate" : Str))=true/\cS e'=true:=
 _gu (ks:=ks) (P:=λe=>lA ks e=some e'->∃p pos,e = .Call (.Name "enumerate" p) [e'] [] pos/\j7 (ks.lookup ("enumerate" : Str))=true/\cS e'=true)
  (λf args kws pos=>_gv (ks:=ks) (a:=args) (k:=kws) (pos:=pos) (P:=λf=>lA ks (.Call f args kws pos)=some e'->∃p pos',Expr.Call f args kws pos = .Call (.Name "enumerate" p) [e'] [] pos'/\j7 (ks.lookup ("enumerate" : Str))=true/\cS e'=true)
   (λid p=>match args,kws with
    | [a],[]=>λh=>by
     change (if(id == ("enumerate" : Str)&&(j7 (ks.lookup id)&&cS a))=true then some a else none)=some e' at h
     split at h
     ·rename_i q
      rw[bm,bm] at q
      cases h
      obtain rfl:=beq_iff_eq.mp q.1
      exact⟨p,pos,rfl,q.2.1,q.2.2⟩
     ·exact _m h
    | [],_=>_m
    | _::_::_,_=>_m
    | [_],_::_=>_m) (λf q h=>_m (q.symm.trans h)) f) (λe q h=>_m (q.symm.trans h)) e
theorem _3A{f:Expr->IE}(IH:∀e,EvS c d ks (f e) e){α:Type}{S:α->Prop}{k:Bool->IE->α}(e:Expr)(h:∀en x,ItS c d ks en x e->S (k en x)):S (ls f ks e k):=by
 unfold ls
 cases q:lA ks e with
 | none=>exact h _ _ (_gp (IH e))
 | some e'=>
  obtain⟨p,pos,rfl,hk,hu⟩:=_gw q
  exact h _ _ (_gt hk hu (IH e'))
theorem _gx{P:Expr->Prop}(h1:∀ts k p,P (.Tuple ts k p))(h2:∀t,mD t=false->P t)(t:Expr):P t:=by
 cases t with
 | Tuple ts k p=>exact h1 ts k p
 | _=>exact h2 _ rfl
theorem _3B{en:Bool}{t:Expr}(h:(!en || mD t)=true)(e:en=true):∃elts k p,t = .Tuple elts k p:=
 _gx (P:=λt=>mD t=true->∃elts k p,t = .Tuple elts k p) (λts k p _=>⟨ts,k,p,rfl⟩) (λt q h=>nomatch q.symm.trans h) t (by rw[e] at h;exact h)
theorem _6y{α:Type}{S:α->Prop}{gens:List iY}{b:α}{k:Expr->Expr->List Expr->α}(h:∀t iter ifs,gens=[⟨t,iter,ifs,0⟩]->S (k t iter ifs))(hb:S b):S (n5 gens b k):=match gens,h with
 | [],_=>hb
 | [⟨t,iter,ifs,a⟩],h=>by
  unfold n5
  dsimp only
  split
  ·rename_i e;exact h _ _ _ (by rw[e])
  ·exact hb
 | _::_::_,_=>hb
theorem _P:∀(n:Nat) (ks:List (Str×bq)) (e:Expr),Snd c d ks (tr nm n ks e) e
 | 0,_,_=>_C
 | n+1,ks,e=>by
  have I1:∀ks e,EvS c d ks (tr nm n ks e) e:=λks e=>(_P n ks e).1
  have I2:∀ks e,TvS c d ks (tr nm n ks e) e:=λks e=>(_P n ks e).2
  cases e with
  | Constant k i p=>exact _fR
  | Name id p=>exact _fT
  | Tuple es k p=>exact _t (_g6 (I1 ks)) λ_ _=>rfl
  | List es p=>exact _t (_g7 (I1 ks)) λ_ _=>rfl
  | Dict keys jH p=>exact _gh (I1 ks)
  | BinOp a op b p=>exact _t (_fU (I1 ks a) (I1 ks b)) λ_ _=>rfl
  | UnaryOp op a p=>cases op with
   | Not=>exact⟨_fX (I1 ks a),_fY (I2 ks a)⟩
   | USub=>exact _t (_fZ (I1 ks a)) λ_ _=>rfl
   | _=>exact _C
  | Compare a wi bs p=>exact _g4 (_P n ks)
  | BoolOp op l p=>exact⟨λΓ Fz m σ s Q P E F h k=>by rw[arm_eval_BoolOp];exact _3s (I1 ks) op p l σ s P F h k,λΓ Fz m σ s Q QB P E F h hQ k=>wpAny_isTrue_BoolOp (_3t (I2 ks) op hQ l σ s P F h k)⟩
  | Slice l h st p=>exact _t (_gd (I1 ks)) λ_ _=>rfl
  | Subscript a i p=>exact _t (_g9 (I1 ks a) (I1 ks i)) λ_ _=>rfl
  | Attribute a x p=>exact _Y λhp=>_1b λy e=>by subst e;exact _t (_ga hp (I1 ks a)) λ_ _=>rfl
  | Call f args kws p=>match kws with
   | []=>exact _gc (I1 ks)
   | _::_=>exact _C
  | ListComp elt gens scope p=>
   show Snd c d ks (n5 gens .bad λt iter ifs=>ls (tr nm n ks) ks iter λen jl=>.when (mF ks scope iter (trT nm scope.names 5 t) t en) (.comp (tr nm n scope.names elt) (trT nm scope.names 5 t) en jl (uj (tr nm n scope.names) ifs))) _
   refine _6y (S:=λir=>Snd c d ks ir (.ListComp elt gens scope p)) (λt iter ifs e=>?_) _C
   subst e
   refine _3A (I1 ks) (S:=λir=>Snd c d ks ir (.ListComp elt [⟨t,iter,ifs,0⟩] scope p)) iter λen x iD=>_Y λhc=>?_
   unfold mF at hc
   simp only[bm] at hc
   obtain⟨h1,h2,h4,h5,h6,h7⟩:=hc
   exact _t (_gq ⟨of_decide_eq_true h1,h2,h5⟩ h4 h6 (I1 _ elt) (_0J 5 t) (_3B h7) iD (_6r (I2 _) ifs)) λ_ _=>rfl
  | _=>exact _C
end
theorem _6z:∀(n:Nat) (l:List Str),l.length<=n->l.eraseDups.length<=l.length/\(l.eraseDups.length=l.length->l.Nodup)
 | _,[],_=>⟨aD _,λ_=>vO⟩
 | 0,_::_,h=>absurd h (sE _)
 | n+1,a::l,h=>by
  have hf:=c_ (λb=>!b == a) l
  obtain⟨i1,i2⟩:=_6z n (l.filter λb=>!b == a) (ay hf (ew h))
  rw[List.eraseDups_cons,aP,aP]
  refine⟨cC (ay i1 hf),λe=>?_⟩
  have e1:=iw e
  have e2:=gi.mp ((List.filter_sublist (l:=l) (p:=λb=>!b == a)).eq_of_length (fD hf (e1 ▸ i1)))
  rw[gi.mpr e2] at i2 e1
  refine bC.mpr ⟨λq=>?_,i2 e1⟩
  have:=e2 a q
  simp at this
theorem _2d{α:Type}{p:Prop}[Decidable p]{a b:α}{P:α->Prop}(h1:P a)(h2:¬p->P b):P (if p then a else b):=by
 by_cases h:p
 ·rw[if_pos h];exact h1
 ·rw[if_neg h];exact h2 h
noncomputable def vk(f:Expr->Option Str):Prop:=∀e b,f e=some b->∃q,e = .Name b q
noncomputable def StO(ts:List Expr)(x:me (Option (List Str))):Prop:=x=pure none\/∃f,vk f/\x=pure (some (ts.filterMap f))/\(ts.filterMap f).Nodup/\(ts.filterMap f).length=ts.length
theorem _gy{ts:List Expr}{k:Nat}{p:jx}{e:Expr}(env:oU)(tY:jo e=true):StO ts (sy [.Tuple ts k p] e env):=by
 cases e with
 | Tuple vs k' p'=>
  unfold sy
  dsimp only
  refine _2d (.inl rfl) λ_=>_2d (.inl rfl) λ_=>_2d (.inl rfl) λc3=>_2d (.inl rfl) λc4=>?_
  rw[if_neg (λc5=>by unfold jo at tY;dsimp only at tY;rw[c5,Bool.not_true,qk] at tY;exact c4 tY)]
  rw[vh,not_or,bne_iff_ne,bne_iff_ne] at c3
  refine .inr ⟨_,λe b h=>?_,rfl,(_6z _ _ (aD _)).2 (gz.mp c3.2),gz.mp c3.1⟩
  cases e with
  | Name id q=>
   dsimp only at h
   split at h
   ·exact⟨q,by rw[aB h]⟩
   ·exact _m h
  | _=>exact _m h
 | _=>exact .inl rfl
noncomputable def qT(m:Loc)(l:List (String×AV)):Loc:=l.foldl (λm p=>m.put p.1 p.2) m
theorem _3C(y:String):∀(l:List (String×AV)) (m:Loc),(qT m l).lookup y=(l.reverse.lookup y).or (m.lookup y)
 | [],m=>rfl
 | (x,v)::l,m=>by
  show(qT (m.put x v) l).lookup y=_
  rw[_3C y l,Loc.lookup_put,nv,List.lookup_append]
  cases l.reverse.lookup y with
  | some z=>rfl
  | none=>
   rw[oR,oR,bx]
   by_cases e:y=x
   ·subst e;rw[if_pos rfl,beq_self_eq_true];rfl
   ·rw[if_neg e,beq_false_of_ne e];rfl
theorem _3D{y:String}{v:AV}:∀{l:List (String×AV)},(l.map (·.1)).Nodup->(l.lookup y=some v ↔ (y,v)∈l)
 | [],_=>⟨_m,nofun⟩
 | (x,u)::l,h=>by
  rw[aJ,bC] at h
  rw[bx,aO]
  by_cases e:y=x
  ·subst e
   rw[beq_self_eq_true]
   exact⟨λq=>.inl (by rw[<-aB q]),λq=>q.elim (λq=>by rw[(b6 q).2]) λq=>absurd (List.mem_map_of_mem (f:=(·.1)) q) h.1⟩
  ·rw[beq_false_of_ne e,_3D h.2]
   exact⟨.inr,λq=>q.elim (λq=>absurd (b6 q).1 e) id⟩
theorem _gz{l:List (String×AV)}(hn:(l.map (·.1)).Nodup)(m:Loc)(y:String)(a:AV)(h:(qT m l).lookup y=some a):(qT m l.reverse).lookup y=some a:=by
 have hr:(l.reverse.map (·.1)).Nodup:=by rw[jP];exact(fL _).nodup_iff.mpr hn
 have key:l.lookup y=l.reverse.lookup y:=Option.ext λb=>by
  rw[_3D hn,_3D hr,uc]
 rw[_3C,List.reverse_reverse,key,<-_3C]
 exact h
theorem _6A{uA m:Loc}(x:String)(a:AV)(h:(uA.only m).lookup x=some a):m.lookup x=some a:=by
 unfold Loc.only at h
 rw[_3y] at h
 by_cases q:(uA.map (·.1)).contains x=true
 ·rw[if_pos q] at h;exact h
 ·rw[if_neg q] at h;exact _m h
section
variable{c:Cx}{d:Nat}{ks:List (Str×bq)}{Γ:Fr}{Fz:Fzn}{m:Loc}{σ:af}{s:ah}{E:ae->ah->Prop}{nm:List String}{n:Nat}
theorem _6B{f:Expr->Option Str}(hf:vk f){k:Loc->Prop}:∀(ts:List Expr) (l:List AV) (m:Loc),(ts.filterMap f).length=ts.length->jg c d (ql (trT nm ks (n+1)) ts) l m σ k ->
  ∃xs:List String,ts.filterMap f=xs.map ab/\(∀x∈xs,dX (ks.lookup (ab x))=true)/\k (qT m (xs.zip l))
 | [],l,m,_,h=>⟨[],rfl,nofun,h⟩
 | t::ts,[],m,_,h=>h.elim
 | t::ts,v::l,m,hl,h=>by
  cases hb:f t with
  | none=>
   rw[List.filterMap_cons_none hb] at hl
   exact absurd (hl ▸ List.length_filterMap_le f ts) (Nat.not_succ_le_self _)
  | some b=>
   rw[List.filterMap_cons_some hb] at hl ⊢
   obtain⟨q,rfl⟩:=hf t b hb
   change eC c d (.when (dX (ks.lookup b)) (match j5 nm b with | some y=>.name y | none=>.bad)) v m σ _ at h
   cases hk:dX (ks.lookup b) with
   | false=>rw[hk] at h;exact h.elim
   | true=>
    rw[hk] at h
    cases e:j5 nm b with
    | none=>rw[e] at h;exact h.elim
    | some x=>
     rw[e] at h
     obtain⟨xs,e1,e2,e3⟩:=_6B hf ts l (m.put x v) (iw hl) h
     refine⟨x::xs,by rw[e1,<-_0I e];rfl,λy hy=>(aO.mp hy).elim (λq=>by rw[q,_0I e];exact hk) (e2 y),e3⟩
theorem _6C:∀(xs:List String) (vs:List ae) (l:List AV) (m:Loc) (s:ah) (P:Unit->ah->Prop),(∀x∈xs,dX (ks.lookup (ab x))=true)->FS c d ks Γ Fz m σ s.heap->RVs s.heap vs l ->
  (∀s',FS c d ks Γ Fz (qT m (xs.zip l)) σ s'.heap->cR s s'->P () s')->wpAny c.M Γ.A (assignInOrder ((xs.map ab).map λn=>uX Γ.env n) vs) P E s
 | [],vs,l,m,s,P,_,F,r,k=>ad (k s F (.refl s))
 | x::xs,vs,[],m,s,P,_,F,r,k=>by rw[r.nil_inv];exact ad (k s F (.refl s))
 | x::xs,vs,a::l,m,s,P,hk,F,r,k=>by
  obtain⟨v,vs,rfl,r,rs⟩:=r
  exact aa (aS (_6g F (hk x (.head _)) r λbU F₁ g₁=>_6C xs vs l (m.put x a) bU P (λy hy=>hk y (.tail _ hy)) F₁ (rs.grow g₁.g) λs' F' g'=>k s' F' (g₁.trans g')))
theorem _gA{α β:Type}{l:List α}{k:List β}(h:l.length=k.length):l.reverse.zip k.reverse=(l.zip k).reverse:=(List.reverse_zipWith h).symm
theorem _gB{α β:Type}{f:α->β}{l:List α}(h:(l.map f).Nodup):l.Nodup:=(bo.mp h).imp λh e=>h (congrArg f e)
section
variable(c:Cx)(d:Nat)(ks:List (Str×bq))
noncomputable abbrev KN(Γ:Fr)(Fz:Fzn)(s:ah)(N:Loc->af->Prop)(P:Flow->ah->Prop):Prop:=∀m' aX s',FS c d ks Γ Fz m' aX s'.heap->cR s s'->N m' aX->P .next s'
noncomputable abbrev KR(Γ:Fr)(Fz:Fzn)(s:ah)(R:AV->af->Prop)(P:Flow->ah->Prop):Prop:=∀v av m' aX s',FS c d ks Γ Fz m' aX s'.heap->cR s s'->RV s'.heap v av->R av aX->P (.ret v) s'
noncomputable def SvS(i:IS)(st:pX):Prop:=∀Γ Fz m σ s N R P E,FS c d ks Γ Fz m σ s.heap->wpS c d i m σ N R->KN c d ks Γ Fz s N P->KR c d ks Γ Fz s R P->wpAny c.M Γ.A (exec st Γ.env) P E s
noncomputable def SsS(i:ISs)(ot:List pX):Prop:=∀Γ Fz m σ s N R P E,FS c d ks Γ Fz m σ s.heap->iH c d i m σ N R->KN c d ks Γ Fz s N P->KR c d ks Γ Fz s R P->wpAny c.M Γ.A (execs ot Γ.env) P E s
end
theorem _3E{f:pX->IS}(IH:∀st,SvS c d ks (f st) st):∀(ot:List pX),SsS c d ks (oV f ot) ot
 | []=>λΓ Fz m σ s N R P E F h kn kr=>qC (kn m σ s F (.refl s) h)
 | st::ot=>λΓ Fz m σ s N R P E F h kn kr=>wpAny_execs_cons (IH st Γ Fz m σ s _ R _ _ F h
   (λm' aX s' F' g' q=>_3E IH ot Γ Fz m' aX s' N R P E F' q (λm'' σ'' kT F'' g''=>kn m'' σ'' kT F'' (g'.trans g'')) λv av m'' σ'' kT F'' g''=>kr v av m'' σ'' kT F'' (g'.trans g'')) kr)
theorem _Z{st:pX}:SvS c d ks .bad st:=λ_ _ _ _ _ _ _ _ _ _ h=>h.elim
theorem _1e{b:Bool}{x:IS}{st:pX}(h:b=true->SvS c d ks x st):SvS c d ks (.when b x) st:=match b,h with
 | true,h=>h rfl
 | false,_=>_Z
theorem _gC{σ:af}{h:a_}(F:FS c d ks Γ Fz m σ h):interactive Γ.env=false:=by
 unfold interactive;rw[F.fm.fn];rfl
theorem _6D{e:Expr}{t:Option Expr}{l:Nat}(h:nN e=true)(env:oU):sL e t l env=pure false:=by
 cases e <;> first | rfl | cases h
theorem _gD{e:Expr}{x:IE}{pos:jx}(hc:nN e=true)(he:EvS c d ks x e):SvS c d ks (.expr x) (.Expr e pos):=
 λΓ Fz m σ s N R P E F h kn kr=>wpAny_Expr_any (he _ _ _ _ _ _ _ _ F h λv av σ₁ bU F₁ g₁ r₁ q₁=>kn m σ₁ bU F₁ g₁ q₁) (_gC F) (_6D hc _)
theorem _gE{e:Expr}{x:IE}{pos:jx}(he:EvS c d ks x e):SvS c d ks (.ret x) (.Return (some e) pos):=
 λΓ Fz m σ s N R P E F h kn kr=>wpAny_Return_some (he _ _ _ _ _ _ _ _ F h λv av σ₁ bU F₁ g₁ r₁ q₁=>kr v av m σ₁ bU F₁ g₁ r₁ q₁)
theorem _gF{t:Expr}{a b:List pX}{x:IE}{y z:ISs}{pos:jx}(ht:TvS c d ks x t)(ha:SsS c d ks y a)(hb:SsS c d ks z b):SvS c d ks (.ite x y z) (.If t a b pos):=
 λΓ Fz m σ s N R P E F h kn kr=>wpAny_If (ht _ _ _ _ _ _ (λr σ₁=>if r=true then iH c d y m σ₁ N R else iH c d z m σ₁ N R) _ _ F h (λ_ _ q=>q) λbb σ₁ bU F₁ g₁ q=>match bb,q with
  | true,q=>ha _ _ _ _ _ _ _ _ _ F₁ q (λm'' σ'' kT F'' g''=>kn m'' σ'' kT F'' (g₁.trans g'')) λv av m'' σ'' kT F'' g''=>kr v av m'' σ'' kT F'' (g₁.trans g'')
  | false,q=>hb _ _ _ _ _ _ _ _ _ F₁ q (λm'' σ'' kT F'' g''=>kn m'' σ'' kT F'' (g₁.trans g'')) λv av m'' σ'' kT F'' g''=>kr v av m'' σ'' kT F'' (g₁.trans g''))
theorem _gG{t:Expr}{b:List pX}{x:IE}{y:ISs}{pos:jx}(ht:TvS c d ks x t)(hb:SsS c d ks y b):SvS c d ks (.loop x y) (.While t b [] pos):=
 λΓ Fz m σ s N R P E F h kn kr=>by
  obtain⟨I,⟨n,hI⟩,hstep⟩:=h
  refine wpAny_While (codeAny_whileLoop (λn s'=>∃m' aX,FS c d ks Γ Fz m' aX s'.heap/\cR s s'/\I n m' aX) ?_ n ⟨m,σ,F,.refl s,hI⟩)
  rintro n bU ⟨m₁,σ₁,F₁,g₁,hI⟩
  refine ht _ _ _ _ _ _ (λr σ₁=>if r=true then iH c d y m₁ σ₁ (λm'' bI=>∃k,k<n/\I k (m.only m'') bI) R else N m₁ σ₁) _ _ F₁ (hstep n m₁ σ₁ hI) (λ_ _ q=>q) λbb bI s₂ F₂ g₂ q=>?_
  match bb,q with
  | false,q=>exact qC (kn m₁ bI s₂ F₂ (g₁.trans g₂) q)
  | true,q=>exact hb _ _ _ _ _ _ _ _ _ F₂ q (λm₃ σ₃ s₃ F₃ g₃ ⟨k,hk,q₃⟩=>⟨k,hk,m.only m₃,σ₃,F₃.lessm _6A,(g₁.trans g₂).trans g₃,q₃⟩) λv av m₃ σ₃ s₃ F₃ g₃=>kr v av m₃ σ₃ s₃ F₃ ((g₁.trans g₂).trans g₃)
structure EInv(c:Cx)(d:Nat)(ks:List (Str×bq))(Γ:Fr)(Fz:Fzn)(s:ah)(ai:ao->Prop)(P:List AV->a_->Prop)(keep:af->Prop)(body:AV->Loc->af->(Loc->af->Prop)->Prop)(N:Loc->af->Prop)(rest:List AV)(m:Loc)(σ:af)(s':ah):Prop where
 fs:FS c d ks Γ Fz m σ s'.heap
 gr:cR s s'
 ap:om Γ.env Fz σ ai
 hP:P rest s'.heap
 loop:compLoop keep body rest m σ N
noncomputable def EEx(c:Cx)(d:Nat)(ks:List (Str×bq))(Γ:Fr)(Fz:Fzn)(s:ah)(ai:ao->Prop)(P:List AV->a_->Prop)(keep:af->Prop)(body:AV->Loc->af->(Loc->af->Prop)->Prop)(N:Loc->af->Prop)(n:Nat)(s':ah):Prop:=
 ∃rest m σ,rest.length=n/\EInv c d ks Γ Fz s ai P keep body N rest m σ s'
theorem EEx.on{ai:ao->Prop}{P:List AV->a_->Prop}{keep:af->Prop}{body:AV->Loc->af->(Loc->af->Prop)->Prop}{N:Loc->af->Prop}{n:Nat}{s':ah}{R:Prop}(h:EEx c d ks Γ Fz s ai P keep body N n s')
  (k:∀rest m σ,rest.length=n->EInv c d ks Γ Fz s ai P keep body N rest m σ s'->R):R:=by
 obtain⟨rest,m,σ,e,V⟩:=h
 exact k rest m σ e V
noncomputable abbrev vp(c:Cx)(d:Nat)(tg:Tgt)(y:ISs)(m:Loc)(R:AV->af->Prop):AV->Loc->af->(Loc->af->Prop)->Prop:=λx m' σ k=>eC c d tg x m' σ λm'=>iH c d y m' σ (λm'' bI=>k (m.only m'') bI) R
theorem _gH{t jl:Expr}{b:List pX}{tg:Tgt}{en:Bool}{x:IE}{y:ISs}{pos:jx}(hs:lu jl=true)(ht:ASg c d ks tg t)(pR:en=true->∃elts k p,t = .Tuple elts k p)(hx:ItS c d ks en x jl)(hb:SsS c d ks y b):SvS c d ks (.each tg en x y) (.For t jl b [] pos):=
 λΓ Fz m σ s N R P E F h kn kr=>by
  rw[arm_exec_For]
  refine aa (cu (aa (cx (hx Γ Fz m σ s (λitems keep σ₁=>compLoop keep (vp c d tg y m R) items m σ₁ N) (λit s'=>wpAny c.M Γ.A (runOwn (.forLoop t it b [] Γ.env) Γ.env) P E s') E F h ?_)
   (λv bU q=>aa (qc (_3z hs _ v) (aa (cu (aa (aS q)))))) λ_ _ x=>x)))
  intro it ai P1 P' s₂ items keep σ₁ F₂ g₂ ap I hP hloop
  refine wpAny_runOwn (codeAny_forLoop_any (EEx c d ks Γ Fz s ai P1 keep (vp c d tg y m R) N) ?_ items.length ⟨items,m,σ₁,rfl,F₂,g₂,ap,hP,hloop⟩)
  intro n s₃ rb
  refine rb.on λrest m₃ σ₃ hn V=>?_
  cases rest with
  | nil=>
   refine I.next Γ.A _ σ₃ [] s₃ _ _ V.fs.go (_2b V.loop) V.ap.frz V.ap.σ V.hP λr s₄ T₄ g₄ hr=>?_
   rw[show r=none from hr]
   exact qC (kn m₃ σ₃ s₄ (V.fs.back T₄ g₄.g) (V.gr.trans g₄) V.loop.2)
  | cons x0 xs=>
   refine I.next Γ.A _ σ₃ (x0::xs) s₃ _ _ V.fs.go (_2b V.loop) V.ap.frz V.ap.σ V.hP λr s₄ T₄ g₄ hr=>hr.elim λv0 hr=>?_
   rw[hr.1]
   refine I.letGo Γ.A _ σ₃ xs s₄ v0 t _ _ pR V.fs.room T₄ V.ap.frz V.ap.σ hr.2.2 λs₅ T₅ g₅ hP₅=>?_
   have xA:=I.there _ _ hP₅
   refine ht _ _ _ _ s₅ v0 x0 _ _ _ ((V.fs.back T₅ (g₄.trans g₅).g).holdS V.ap.σ V.ap.far) (hr.2.1.grow g₅.g) V.loop.2 λm₆ s₆ F₆ g₆ q₆=>?_
   have gA:=(V.gr.trans (g₄.trans g₅)).trans g₆
   exact hb _ _ _ _ s₆ _ _ _ _ F₆ q₆ (λm₇ σ₇ s₇ F₇ g₇ q₇=>⟨xs.length,tQ (cD _) hn,xs,m.only m₇,σ₇,rfl,(F₇.lessF V.fs.bs λ_ _=>.inl).lessm _6A,gA.trans g₇,⟨λa y=>(xA a y).elim λo ho=>F₇.st.heldσ (.inr ⟨y,ho⟩),V.ap.z,V.ap.far⟩,I.still _ _ _ hP₅ (λa o y e=>F₇.st.fz a o (.inr ⟨y,e⟩)) (g₆.trans g₇).g,q₇⟩)
    λv av m₇ σ₇ s₇ F₇ g₇=>kr v av m₇ σ₇ s₇ (F₇.lessF V.fs.bs λ_ _=>.inl) (gA.trans g₇)
theorem _6E{o:OpK}{t:me Unit}{as:List AV}{vs:List ae}{Q:af->Prop}{P:Unit->ah->Prop}(F:FS c d ks Γ Fz m σ s.heap)(r:RVs s.heap vs as)(h:ct c d o as σ λ_ aX=>Q aX)(e:o.sem vs=do t;pure .none)
  (k:∀aX s',FS c d ks Γ Fz m aX s'.heap->cR s s'->Q aX->P () s'):wpAny c.M Γ.A t P E s:=by
 have:=_E (P:=λ_ s'=>P () s') (E:=E) F r h λv av aX s' F' g _ q=>k aX s' F' g q
 rw[e] at this
 intro Γ' p hΓ
 have h2:=this Γ' p hΓ
 rw[Sem.wp_bind'] at h2
 exact h2
end
section
variable{c:Cx}{d:Nat}{ks:List (Str×bq)}{Γ:Fr}{Fz:Fzn}{m:Loc}{σ:af}{s:ah}{E:ae->ah->Prop}{nm:List String}{n:Nat}
theorem _6F{elt:Expr}{gens:List iY}{scope:nS}{cpos:jx}{t:Expr}{l:Nat}(env:oU):
  sL (.ListComp elt gens scope cpos) (some t) l env=pure false\/((∃id p,t = .Name id p)/\sL (.ListComp elt gens scope cpos) (some t) l env=pure true):=by
 cases t with
 | Name id pos=>
  show(pure _:me Bool)=pure false\/(_/\(pure _:me Bool)=pure true)
  cases(env.blockKind == .function&&env.kindOf id == some .local&&pos.line == (Expr.ListComp elt gens scope cpos).pos.line && !(scope.names.any λ(n,k)=>n == id&&(k == .local || k == .cell))) with
  | false=>exact .inl rfl
  | true=>exact .inr ⟨⟨_,_,rfl⟩,rfl⟩
 | _=>exact .inl rfl
theorem _6G{e t:Expr}{l:Nat}(h:eW e=true)(ht:iy t.ctorIdx 23=false)(env:oU):sL e (some t) l env=pure false:=by
 cases e with
 | ListComp elt gens scope p=>exact(_6F env).elim id λ⟨⟨_,_,e⟩,_⟩=>by rw[e] at ht;cases ht
 | SetComp _ _ _ _=>cases h
 | DictComp _ _ _ _ _=>cases h
 | _=>rfl
theorem _gI{o i e:Expr}{x y z:IE}{p pos:jx}(hl:eW e=true)(ho:EvS c d ks x o)(hi:EvS c d ks y i)(he:EvS c d ks z e):SvS c d ks (.asSub x y z) (.Assign [.Subscript o i p] e pos):=
 λΓ Fz m σ s N R P E F h kn kr=>wpAny_Assign_Subscript (he _ _ _ _ _ _ _ _ F h λv av σ₁ bU F₁ g₁ r₁ q₁=>ho _ _ _ _ _ _ _ _ F₁ q₁ λu uv bI s₂ F₂ g₂ r₂ q₂=>hi _ _ _ _ _ _ _ _ F₂ q₂ λt tv σ₃ s₃ F₃ g₃ r₃ q₃=>
  _6E (o:=.setItem) (Q:=N m) (vs:=[u,t,v]) F₃ (.cons (r₂.grow g₃.g) (.two r₃ (r₁.grow (g₂.trans g₃).g))) q₃ rfl λσ₄ s₄ F₄ g₄ q₄=>kn m σ₄ s₄ F₄ (((g₁.trans g₂).trans g₃).trans g₄) q₄) (_6G hl rfl _)
theorem _gJ{o e:Expr}{na:String}{x z:IE}{p pos:jx}(hl:eW e=true)(ho:EvS c d ks x o)(he:EvS c d ks z e):SvS c d ks (.asAttr x na z) (.Assign [.Attribute o (ab na) p] e pos):=
 λΓ Fz m σ s N R P E F h kn kr=>plainObj_wpAny_Assign_Attribute (he _ _ _ _ _ _ _ _ F h λv av σ₁ bU F₁ g₁ r₁ q₁=>ho _ _ _ _ _ _ _ _ F₁ q₁ λu uv bI s₂ F₂ g₂ r₂ q₂=>
  _6E (o:=.setAttr na) (Q:=N m) (vs:=[u,v]) F₂ (.two r₂ (r₁.grow g₂.g)) q₂ rfl λσ₃ s₃ F₃ g₃ q₃=>kn m σ₃ s₃ F₃ ((g₁.trans g₂).trans g₃) q₃) (_6G hl rfl _)
theorem _gK{elt target iter:Expr}{ifs:List Expr}{scope:nS}{cpos q9 pos:jx}{xe xi cond:IE}{en:Bool}{tg tx:Tgt}{id:Str}{N:Loc->af->Prop}{P:Flow->ah->Prop}(H:gI ks scope)(tu:lu iter=true)(wz:(scope.names.all λx=>!dX (some x.2) || ((".0" :: tg.names).map ab).contains x.1)=true)
  (he:EvS c d scope.names xe elt) (ht:ASg c d scope.names tg target) (pR:en=true->∃elts k p,target = .Tuple elts k p) (iD:ItS c d ks en xi iter) (hi:qv c d scope.names cond ifs)
  (hx:ASg c d ks tx (.Name id q9)) (F:FS c d ks Γ Fz m σ s.heap) (h:wpE c d (.comp xe tg en xi cond) m σ λv σ₁=>eC c d tx v m σ₁ λm'=>N m' σ₁)
  (hs:nR [.Name id q9] (.ListComp elt [⟨target,iter,ifs,0⟩] scope cpos) pos.line Γ.env=pure true) (kn:KN c d ks Γ Fz s N P) :
  wpAny c.M Γ.A (exec (.Assign [.Name id q9] (.ListComp elt [⟨target,iter,ifs,0⟩] scope cpos) pos) Γ.env) P E s:=by
 rw[arm_exec_Assign]
 refine aa (cu ?_)
 rw[hs]
 refine aa (ad ?_)
 rw[if_pos rfl]
 refine aa ?_
 show wpAny _ Γ.A (do let _ <-comprehension (.ListComp elt [⟨target,iter,ifs,0⟩] scope cpos) scope Γ.env _ (newList []) false (eval iter Γ.env) (some λv=>assignAll v [assign (.Name id q9) Γ.env])) _ _ s
 refine aa (cx (sx (Q:=λ_ s'=>P .next s') (g:=⟨target,iter,ifs,0⟩) (gs:=[]) rfl (_3z tu _) (H.cl F) H.kd H.loc (_6v (Q:=λv σ₁=>eC c d tx v m σ₁ λm'=>N m' σ₁) (Rr:=λbV C=>compPost c.M Γ.A E (some λv=>assignAll v [assign (.Name id q9) Γ.env]) (λ_ s'=>P .next s') bV C) H wz (_6s _ _ _ _ _ _) (λΓ D=>_6t he) _6x (λ_ h=>h) _6w (λ_ _=>rfl) ht pR iD hi F h ?_)) (λ_ s' q=>ad (ad q)) λ_ _ q=>q)
 intro D C oC mC bV bI s' F' sp hl hoC sr hz g hq
 show wpAny c.M Γ.A (assignAll (.ref D) [assign (.Name id q9) Γ.env]) _ _ s'
 refine hx Γ (FzH Fz C oC) m _ s' (.ref D) (.ref D) _ _ _ F' rfl hq λm₃ s₃ F₃ g₃ q₃=>⟨mC,?_,λh' hs=>?_⟩
 ·obtain⟨o',es,ep,e',r⟩:=sp
  rw[hoC] at e';cases e'
  exact⟨_,es,ep,F₃.st.fz _ _ (.inr ⟨rfl,rfl⟩),r⟩
 ·obtain⟨F'',g'⟩:=F₃.let F.bs hz sr hs hl
  exact kn m₃ _ {s₃ with heap:=h'} F'' ((g.trans g₃).trans ⟨g',rfl,rfl⟩) q₃
theorem _6H{e:Expr}{x:IE}{pos:jx}{N:Loc->af->Prop}{P:Flow->ah->Prop}(tY:jo e=true)(he:EvS c d ks x e)(F:FS c d ks Γ Fz m σ s.heap)(kn:KN c d ks Γ Fz s N P)(t:Expr):(wpE c d x m σ λv σ₁=>eC c d (trT nm ks 5 t) v m σ₁ λm'=>N m' σ₁) ->
  nR [t] e pos.line Γ.env=pure false->wpAny c.M Γ.A (exec (.Assign [t] e pos) Γ.env) P E s:=by
 have one:∀t,(∀env,rK [t] env=[(false,assign t env)])->sy [t] e Γ.env=pure none->(wpE c d x m σ λv σ₁=>eC c d (trT nm ks 5 t) v m σ₁ λm'=>N m' σ₁)->nR [t] e pos.line Γ.env=pure false->wpAny c.M Γ.A (exec (.Assign [t] e pos) Γ.env) P E s:=λt e1 h_ h hs=>
  wpAny_Assign_stores (he _ _ _ _ _ _ _ _ F h λv av σ₁ bU F₁ g₁ r₁ q₁=>by
   rw[e1]
   exact _0J 5 t Γ Fz m σ₁ bU v av _ _ _ F₁ r₁ q₁ λm₃ s₃ F₃ g₃ q₃=>kn m₃ σ₁ s₃ F₃ (g₁.trans g₃) q₃) hs h_
 refine _6j (nm:=nm) (ks:=ks) (n:=4) (P:=λt=>(wpE c d x m σ λv σ₁=>eC c d (trT nm ks 5 t) v m σ₁ λm'=>N m' σ₁)->nR [t] e pos.line Γ.env=pure false->wpAny c.M Γ.A (exec (.Assign [t] e pos) Γ.env) P E s)
  (λid p=>one _ (λ_=>rfl) rfl) (λts k p=>?_) (λt hb h hs=>?_) t
 ·rcases _gy (ts:=ts) (k:=k) (p:=p) Γ.env tY with h_ | ⟨f,hf,sj,hJ,cL⟩
  ·exact one _ (λ_=>rfl) h_
  ·intro h hs
   refine Assign_Tuple_swapped (he _ _ _ _ _ _ _ _ F h λv av σ₁ bU F₁ g₁ r₁ q₁=>?_) hs sj
   change eC c d (.when (ts.all cS) (.tup (ql (trT nm ks 4) ts))) av m σ₁ _ at q₁
   cases hu:ts.all cS with
   | false=>rw[hu] at q₁;exact q₁.elim
   | true=>
    rw[hu] at q₁
    rw[show(ts.filterMap f).length=(ql (trT nm ks 4) ts).length from cL.trans _2a.symm]
    refine f_.run q₁ _ _ bU v _ _ F₁.go r₁ λvs l s' S g hr hl hq=>?_
    obtain⟨xs,e1,e2,e3⟩:=_6B hf ts l m cL hq
    have w6:xs.length=l.length:=by rw[hl,_2a,<-cL,e1,ac]
    have e5:(ts.filterMap f).reverse.map (λn=>uX Γ.env n)=(xs.reverse.map ab).map λn=>uX Γ.env n:=by rw[e1,<-jP]
    rw[e5]
    refine _6C xs.reverse vs.reverse l.reverse m s' _ (λx hx=>e2 x (uc.mp hx)) (F₁.back S g.g) hr.reverse λs₃ F₃ g₃=>kn (qT m (xs.zip l)) σ₁ s₃ (F₃.lessm λy a hy=>?_) ((g₁.trans g).trans g₃) e3
    rw[_gA w6]
    refine _gz ?_ m y a hy
    rw[ue (cm w6)]
    exact _gB (e1 ▸ hJ)
 ·rw[hb] at h
  rw[arm_exec_Assign]
  refine aa (cu ?_)
  rw[hs]
  exact aa (ad (aa (he _ _ _ _ _ _ _ _ F h λv av σ₁ bU F₁ g₁ r₁ q₁=>q₁.elim)))
theorem _gL{P:Expr->Prop}(h1:∀elt gens scope p,P (.ListComp elt gens scope p))(h2:∀e,nN e=true->P e)(h3:∀e,eW e=false->P e)(e:Expr):P e:=by
 cases e with
 | ListComp elt gens scope p=>exact h1 elt gens scope p
 | SetComp _ _ _ _=>exact h3 _ rfl
 | DictComp _ _ _ _ _=>exact h3 _ rfl
 | _=>exact h2 _ rfl
theorem _gM{t e:Expr}{pos:jx}:SvS c d ks (.when (eW e&&jo e) (.assign (trT nm ks 5 t) (tr nm 30 ks e))) (.Assign [t] e pos):=_1e λhc Γ Fz m σ s N R P E F h kn kr=>by
 rw[bm] at hc
 refine _gL (P:=λe=>jo e=true->eW e=true->(wpE c d (tr nm 30 ks e) m σ λv σ₁=>eC c d (trT nm ks 5 t) v m σ₁ λm'=>N m' σ₁)->wpAny c.M Γ.A (exec (.Assign [t] e pos) Γ.env) P E s)
  (λelt gens scope cpos tY _=>?_) (λe hn tY _ h=>_6H tY (_P 30 ks e).1 F kn t h (_6D hn _)) (λe hl _ q=>nomatch hl.symm.trans q) e hc.2 hc.1 h
 rcases _6F (elt:=elt) (gens:=gens) (scope:=scope) (cpos:=cpos) (t:=t) (l:=pos.line) Γ.env with hs | ⟨⟨id,q9,rfl⟩,hs⟩
 ·exact λh=>_6H tY (_P 30 ks _).1 F kn t h hs
 ·show wpE c d (n5 gens .bad λt iter ifs=>ls (tr nm 29 ks) ks iter λen jl=>.when (mF ks scope iter (trT nm scope.names 5 t) t en) (.comp (tr nm 29 scope.names elt) (trT nm scope.names 5 t) en jl (uj (tr nm 29 scope.names) ifs))) m σ _->_
  refine _6y (S:=λir=>wpE c d ir m σ _->_) (λt iter ifs e=>?_) pe
  subst e
  refine _3A (c:=c) (d:=d) (λe=>(_P 29 ks e).1) (S:=λir=>wpE c d ir m σ _->_) iter λen x iD h=>?_
  cases hq:mF ks scope iter (trT nm scope.names 5 t) t en with
  | false=>rw[hq] at h;exact h.elim
  | true=>
   rw[hq] at h
   unfold mF at hq
   simp only[bm] at hq
   exact _gK ⟨of_decide_eq_true hq.1,hq.2.1,hq.2.2.2.1⟩ hq.2.2.1 hq.2.2.2.2.1 (_P 29 _ elt).1 (_0J 5 t) (_3B hq.2.2.2.2.2) iD (_6r (λe=>(_P 29 _ e).2) ifs) (_0J 5 _) F h hs kn
theorem _6I:∀(n:Nat) (ks:List (Str×bq)) (st:pX),SvS c d ks (trS nm n ks st) st
 | 0,_,_=>_Z
 | n+1,ks,st=>by
  have I1:∀e,EvS c d ks (tr nm 30 ks e) e:=λe=>(_P 30 ks e).1
  have I2:∀e,TvS c d ks (tr nm 30 ks e) e:=λe=>(_P 30 ks e).2
  have B:∀ot,SsS c d ks (oV (trS nm n ks) ot) ot:=_3E (_6I n ks)
  cases st with
  | Expr e p=>exact _1e λh=>_gD h (I1 e)
  | Assign ts e p=>match ts with
   | [t]=>cases t with
    | Subscript o i q=>exact _1e λh=>_gI h (I1 o) (I1 i) (I1 e)
    | Attribute o x q=>
     show SvS c d ks (match j5 nm x with | some y=>.when (eW e) (.asAttr (tr nm 30 ks o) y (tr nm 30 ks e)) | none=>.bad) _
     cases e1:j5 nm x with
     | none=>exact _Z
     | some y=>rw[<-_0I e1];exact _1e λh=>_gJ h (I1 o) (I1 e)
    | _=>exact _gM
   | []=>exact _Z
   | _::_::_=>exact _Z
  | Return v p=>cases v with
   | none=>exact _Z
   | some e=>exact _gE (I1 e)
  | If t a b p=>exact _gF (I2 t) (B a) (B b)
  | While t b o p=>match o with
   | []=>exact _gG (I2 t) (B b)
   | _::_=>exact _Z
  | For t jl b o p=>match o with
   | []=>
    show SvS c d ks (ls (tr nm 30 ks) ks jl λen x=>.when (lu jl&&(!en || mD t)) (.each (trT nm ks 5 t) en x (oV (trS nm n ks) b))) _
    refine _3A I1 (S:=λi=>SvS c d ks i (.For t jl b [] p)) jl λen x iD=>_1e λh=>?_
    rw[bm] at h
    exact _gH h.1 (_0J 5 t) (_3B h.2) iD (B b)
   | _::_=>exact _Z
  | _=>exact _Z
end
structure vq(c:Cx)(nm:List String)(f:ao)(ps:List String)(body:ISs)(o:iF)(fd:FuncData)(ot:List pX):Prop where
 at':c.K.lookup f=some o
 data:o.data = .func fd
 bd:fd.body = .stmts ot
 tr:oV (trS nm 30 fd.scope.names) ot=body
 clo:fd.closure=[]
 gl:fd.globals=bK
 bl:fd.builtins=builtinsNs
 kd:fd.scope.kind = .function
 co:fd.scope.isCoroutine=false
 gen:fd.scope.isGenerator=false
 fr:(fd.scope.names.all λx=>x.2 != .free)=true
 bind:∀vals:List ae,vals.length=ps.length->bindArgs fd ⟨vals,[]⟩=pure ((ps.map ab).zip vals)
 wr:(ps.all λp=>dX (fd.scope.names.lookup (ab p)))=true
 code:codeIn c.K fd.code fd.qualname=true
structure oj(c:Cx)(nm:List String)(f:ao)(ps:List String)(body:ISs):Prop where
 ex:∃o fd ot,vq c nm f ps body o fd ot
 nd:ps.Nodup
theorem _6J{α:Type}{x:String}{a:α}:∀{ps:List String} {as:List α},(ps.zip as).lookup x=some a->∃i:Nat,ps[i]? = some x/\as[i]? = some a
 | [],_,h=>_m h
 | _::_,[],h=>_m h
 | p::ps,b::as,h=>by
  rw[dp,bx] at h
  cases e:x == p with
  | true=>rw[e] at h;exact⟨0,by rw[beq_iff_eq.mp e];rfl,h⟩
  | false=>
   rw[e] at h
   obtain⟨i,h1,h2⟩:=_6J h
   exact⟨i+1,h1,h2⟩
theorem _6K{F:List (Str×ae)->(Str->Option ae)->Str->Option ae}{g:Str->ae->(Str->Option ae)->Str->Option ae}(h0:∀m,F [] m=m)(h1:∀y v r m,F ((y,v)::r) m=F r (g y v m))(hg:∀y v m z,z≠y->g y v m z=m z)(x:Str):
  ∀(b:List (Str×ae)) (m:Str->Option ae),x ∉ b.map (·.1)->F b m x=m x
 | [],m,_=>by rw[h0]
 | (y,v)::r,m,h=>by
  rw[aJ,aO,not_or] at h
  rw[h1,_6K h0 h1 hg x r _ h.2,hg _ _ _ _ h.1]
theorem _3F{F:List (Str×ae)->(Str->Option ae)->Str->Option ae}{g:Str->ae->(Str->Option ae)->Str->Option ae}(h0:∀m,F [] m=m)(h1:∀y v r m,F ((y,v)::r) m=F r (g y v m))(hg:∀y v m z,z≠y->g y v m z=m z){x:String}{v:ae}
  (hk:∀m,g (ab x) v m (ab x)=some v):∀(ps:List String) (vs:List ae) (m:Str->Option ae) (i:Nat),ps.Nodup->ps[i]? = some x->vs[i]? = some v->F ((ps.map ab).zip vs) m (ab x)=some v
 | [],_,_,i,_,h,_=>_m h
 | _::_,[],_,i,_,_,h=>_m h
 | p::ps,u::vs,m,0,hn,hp,hv=>by
  obtain rfl:=aB hp
  obtain rfl:=aB hv
  rw[aJ,dp,h1,_6K h0 h1 hg,hk]
  intro hm
  obtain⟨⟨y,w⟩,q1,q2⟩:=aq.mp hm
  obtain⟨z,hz,e⟩:=aq.mp (u6 q1).1
  exact(bC.mp hn).1 (_s (e.trans q2) ▸ hz)
 | p::ps,u::vs,m,i+1,hn,hp,hv=>by
  rw[aJ,dp,h1]
  exact _3F h0 h1 hg hk ps vs _ i (bC.mp hn).2 hp hv
theorem _gN{kd:Str->Option bq}{x:String}{v:ae}(hk:kd (ab x)=some .local)(ps:List String)(vs:List ae)(m:Str->Option ae)(i:Nat)(hn:ps.Nodup)(hp:ps[i]? = some x)(hv:vs[i]? = some v):bindL kd ((ps.map ab).zip vs) m (ab x)=some v:=
 _3F (F:=bindL kd) (g:=λn v m=>if kd n=some .local then λy=>if y=n then some v else m y else m) (λ_=>rfl) (λ_ _ _ _=>rfl) (λy v m z h=>by split;exact if_neg h;rfl) (λm=>by rw[if_pos hk,if_pos rfl]) ps vs m i hn hp hv
theorem _gO{kd:Str->Option bq}{x:String}{v:ae}(hk:kd (ab x)=some .cell)(ps:List String)(vs:List ae)(m:Str->Option ae)(i:Nat)(hn:ps.Nodup)(hp:ps[i]? = some x)(hv:vs[i]? = some v):bindC kd ((ps.map ab).zip vs) m (ab x)=some v:=
 _3F (F:=bindC kd) (g:=λn v m=>if kd n=some .local then m else λy=>if y=n then some v else m y) (λ_=>rfl) (λ_ _ _ _=>rfl) (λy v m z h=>by split;rfl;exact if_neg h) (λm=>by rw[if_neg (by rw[hk];exact nofun),if_pos rfl]) ps vs m i hn hp hv
structure vn(A:bB)(d:Nat):Prop where
 dep:A.depth+1+3*d+20<rD
 un:A.units+3+16*d+200<cLine
 hn:A.handled=none
section
variable{c:Cx}{d:Nat}{Fz:Fzn}{A:bB}{σ:af}{s:ah}{nm:List String}
theorem _gP{f:ao}{o:iF}{fd:FuncData}{ot:List pX}{ps:List String}{body:ISs}{vals:List ae}{as:List AV}{bU:ah}(D:vq c nm f ps body o fd ot)(hJ:ps.Nodup)(hr:vn A d)(hb:q8 c)(qz:Bs c Fz)(S:St c.prog c.w Fz σ s.heap)(r:RVs s.heap vals as)
  (X:InCallC s (mO fd s.heap.objs.size f).locals (bindL (mO fd s.heap.objs.size f).kindOf ((ps.map ab).zip vals) λ_=>none) (mO fd s.heap.objs.size f).cells
    (bindC (mO fd s.heap.objs.size f).kindOf ((ps.map ab).zip vals) λ_=>none) bU) :
  FS c d fd.scope.names ⟨λx=>fd.scope.names.lookup x=some .cell,mO fd s.heap.objs.size f,A.deeper (mO fd s.heap.objs.size f)⟩ Fz (ps.zip as) σ bU.heap:=by
 have keep:=X.toInCall.keep
 have g:=_f keep
 have fresh:∀a,s.heap.objs.size<=a->∀o,¬Fz a o:=λa ha o q=>absurd (bM (S.fz a o q)) (gJ.mpr ha)
 have q_:∀x,fd.scope.names.lookup x≠some .free:=λx q=>by
  have:=b_.mp D.fr _ (bE q)
  cases this
 have val:∀x av,(ps.zip as).lookup x=some av->∃(i:Nat) (v:ae),ps[i]? = some x/\vals[i]? = some v/\RV s.heap v av:=by
  intro x av e
  obtain⟨i,h1,h2⟩:=_6J e
  have:=r.get i
  rw[h2] at this
  cases q:vals[i]? with
  | none=>rw[q] at this;exact this.elim
  | some v=>rw[q] at this;exact⟨i,v,h1,q,this⟩
 have nq:∀x,fd.scope.names.lookup x=some .cell->∃a,(mO fd s.heap.objs.size f).cells.lookup x=some a:=λx q=>_1c x fd.scope.names (s.heap.objs.size+1) [] (.inl (bE q))
 refine⟨hb,λx k q=>⟨λe=>e ▸ q,λe=>⟨e ▸ q,e ▸ q⟩,λe=>absurd (e ▸ q) (q_ x),λe=>e ▸ q⟩,⟨hr.dep,hr.un,hr.hn⟩,qz,S.more g keep,
  ⟨D.kd,D.gl,D.bl,⟨_,X.toInCall.ns,λx av e k=>?_⟩,λx a e=>⟨_,X.cell x a e⟩,λx av e k=>?_,fresh _ (aD _),S.free (_a s.heap),λx a hW e=>?_,λx k=>k.elim (nq x) λk=>absurd k (q_ x)⟩⟩
 ·obtain⟨i,v,h1,h2,h3⟩:=val x av e
  exact⟨v,_gN k ps vals _ i hJ h1 h2,h3.grow g⟩
 ·have k:=k.elim id λk=>absurd k (q_ _)
  obtain⟨i,v,h1,h2,h3⟩:=val x av e
  obtain⟨a,ha⟩:=nq _ k
  have hc:=X.cell _ _ ha
  rw[_gO k ps vals _ i hJ h1 h2] at hc
  exact⟨a,v,ha,hc,h3.grow g⟩
 ·have hm:=bE e
  exact⟨fresh a (eV (X.above _ _ hm)),λy hy=>name_of_addr X.apart (bE hy) hm⟩
theorem _6L{f:ao}{ps:List String}{body:ISs}{vals:List ae}{as:List AV}{R:pY->ah->Prop}(D:oj c nm f ps body)(hr:vn A d)(hb:q8 c)(qz:Bs c Fz)(S:St c.prog c.w Fz σ s.heap)(r:RVs s.heap vals as)(hl:as.length=ps.length)
  {N:Loc->af->Prop} {Q:AV->af->Prop} (h:iH c d body (ps.zip as) σ N Q) (hN:∀s' m' aX,St c.prog c.w Fz aX s'.heap->cR s s'->N m' aX->R (.ok (.ret .none)) s')
  (hQ:∀v av s' aX,St c.prog c.w Fz aX s'.heap->cR s s'->RV s'.heap v av->Q av aX->R (.ok (.ret v)) s'):codeAny c.M A (.call (.ref f) ⟨vals,[]⟩) R s:=by
 obtain⟨⟨o,fd,ot,D⟩,hJ⟩:=D
 have kin:c.K.In s.heap:=hb.kin.keeps λb o e=>S.fz b o (qz b o e)
 obtain⟨p,loose,mg,mb,T0⟩:=hb.top
 have T:=T0.keeps λb o e=>S.fz b o (qz b o e)
 refine codeAny_call_cells (fd:=fd) (by have:=hr.dep;exact _a5 this) (kin _ _ D.at') D.data T.nolimit (codeRec_of kin D.code) D.bd (D.bind vals (by rw[r.length,hl])) D.clo ?_ (λbU X=>?_) D.co D.gen D.kd
 ·rintro⟨x,v⟩ hx
  obtain⟨y,hy,rfl⟩:=aq.mp (u6 hx).1
  have h2:=b_.mp D.wr y hy
  cases q:fd.scope.names.lookup (ab y) with
  | none=>rw[q] at h2;cases h2
  | some kd=>
   rw[q] at h2
   cases kd with
   | «local»=>exact .inl rfl
   | cell=>
    obtain⟨a,ha⟩:=_1c (ab y) fd.scope.names (s.heap.objs.size+1) [] (.inl (bE q))
    exact .inr ⟨rfl,by rw[ha];rfl⟩
   | _=>cases h2
 ·have keep:=X.toInCall.keep
  have g0:cR s bU:=by obtain⟨hh,tk,e⟩:=X.toInCall.same;exact⟨_f keep,by rw[e],by rw[e]⟩
  exact _3E (_6I 30 fd.scope.names) ot _ Fz _ σ bU N Q _ _ (_gP D hJ hr hb qz S r X) (D.tr ▸ h) (λm' aX s' F' g' q=>hN s' m' aX F'.st (g0.trans g') q) λv av m' aX s' F' g' rv q=>hQ v av s' aX F'.st (g0.trans g') rv q
theorem _gQ{f:ao}{ps:List String}{body:ISs}{as:List AV}{Q:AV->af->Prop}(D:oj c nm f ps body)(hl:as.length=ps.length)(h:iH c d body (ps.zip as) σ (λ_ aX=>Q .none aX) Q):br c (d+1) (.raw (.ref f)) as σ Q:=
 ⟨λA Fz s vs P E G r k=>by
  obtain⟨v,vals,rfl,rf,r⟩:=r
  obtain rfl:v = .ref f:=rf
  have h1:=G.room.dep
  have h2:=G.room.un
  exact rC (_6L D ⟨by exact _a6 h1,by exact _a7 h2,G.room.hn⟩ G.base G.bs G.st r hl h (λs' m' aX S' g q=>k .none .none aX s' S' g rfl q) λv av s' aX=>k v av aX s')⟩
end
theorem _6M(x y:String)(t:Tok):(Value.str (ab x) t).isStr (ab y)=(x == y):=by
 show(ab x == ab y)=(x == y)
 by_cases h:x=y
 ·rw[h,beq_self_eq_true,beq_self_eq_true]
 ·rw[beq_false_of_ne h,beq_false_of_ne λe=>h (_s e)]
theorem km.noRef{h:a_}{es f}(x:km h es f):es.any (·.refKey)=false:=by
 induction x with
 | nil=>rfl
 | cons r _ ih=>rw[mc,ih];rfl
theorem km.get{h:a_}{es f}(x:km h es f)(n:String):∃o,getL (ab n) es=some o/\ORV h o (f.lookup n):=by
 induction x with
 | nil=>exact⟨none,rfl,trivial⟩
 | @cons hs t x v av es f r rest ih=>
  rw[bx]
  unfold getL at ih ⊢
  rw[kC]
  simp only[_6M]
  by_cases e:x=n
  ·rw[e,beq_self_eq_true]
   exact⟨some v,rfl,r⟩
  ·rw[beq_false_of_ne e,beq_false_of_ne (λq=>e q.symm)]
   rw[mc]
   exact ih
theorem km.put{h h':a_}(g:de h h'){es f}(x:km h es f)(n:String)(hs:Int)(t:Tok){v:ae}{av:AV}(r:RV h v av):km h' (putL (ab n) hs (.str (ab n) t) v es) (Loc.put f n av):=by
 induction x with
 | nil=>exact .cons (r.grow g) .nil
 | @cons hs0 t0 x v0 av0 es f r0 rest ih=>
  unfold putL Loc.put
  rw[_6M]
  by_cases e:x=n
  ·subst e
   rw[beq_self_eq_true,if_pos rfl,if_pos rfl]
   exact .cons (r.grow g) (rest.grow g)
  ·rw[beq_false_of_ne e,if_neg e,if_neg (by decide)]
   exact .cons (r0.grow g) ih
theorem km.len{h:a_}{es f}(x:km h es f):es.length=f.length:=by
 induction x with
 | nil=>rfl
 | cons _ _ ih=>exact congrArg (· + 1) ih
noncomputable def AV.tame:AV->Bool
 | .raw _=>false
 | _=>true
theorem _gR{h:a_}{v:ae}{a:AV}(r:RV h v a)(ht:a.tame=true):handedIn v=true:=by
 cases a with
 | raw _=>cases ht
 | int _=>obtain⟨t,rfl⟩:=r;rfl
 | str _=>obtain⟨t,rfl⟩:=r;rfl
 | tup _=>obtain⟨b,_,rfl,_⟩:=r;rfl
 | slice _ _ _=>obtain⟨b,_,_,_,rfl,_⟩:=r;rfl
 | range _ _=>obtain⟨b,_,_,_,rfl,_⟩:=r;rfl
 | _=>obtain rfl:v=_:=r;rfl
structure eH(c:Cx)(C:ao)(n:String):Prop where
 pg:mN c.K C (ab n)=true
 hd:pW c.K C=true
 fi:∃attr,findIn c.K (.ref C) (ab n)=some attr/\noGet c.K attr=true
structure cA(c:Cx)(C:ao)(n:String)(f:ao):Prop where
 pg:mN c.K C (ab n)=true
 fi:findIn c.K (.ref C) (ab n)=some (some (.ref f))
 fn:isFn c.K (.ref f)=true
structure d5(c:Cx)(C:ao)(n:String):Prop where
 sa:findIn c.K (.ref C) "__setattr__" = some (some (.builtin "object.__setattr__"))
 po:sN c.K C=true
 ta:takerIn c.K C (ab n)=some none
 hd:pW c.K C=true
section
variable{c:Cx}{d:Nat}{σ:af}{Q:AV->af->Prop}
theorem _3G{Fz:Fzn}{h:a_}{x C dd:ao}{f:List (String×AV)}(S:St c.prog c.w Fz σ h)(hx:σ x=some (.inst C dd))(md:σ dd=some (.ns f)):
  ∃es n,InstAt h x (instObj C dd) C (some (dictOf es n))/\h.get? dd=some (dictOf es n)/\km h es f/\f.length<=100:=by
 obtain⟨_,h2,es,n,rfl,h3,h4⟩:=S.cell _ _ md
 exact⟨es,n,⟨S.cell _ _ hx,rfl,rfl,h2⟩,h2,h3,h4⟩
theorem _6N{x C dd:ao}{f:List (String×AV)}{n:String}{av:AV}(ha:eH c C n)(hx:σ x=some (.inst C dd))(md:σ dd=some (.ns f))(hn:f.lookup n=some av)(ht:av.tame=true)(h:Q av σ):ct c d (.attr n) [.ref x] σ Q:=
 ⟨λA Fz s vs P E G r k=>by
  obtain⟨v,xn,rfl,rfl,rfl⟩:=r
  obtain⟨es,k',I,sK,sp,_⟩:=_3G G.st hx md
  obtain⟨o,ho,hg⟩:=sp.get n
  obtain⟨attr,hf1,hf2⟩:=ha.fi
  rw[hn] at hg
  cases o with
  | none=>exact hg.elim
  | some u=>exact get_value G.kin I (uT ha.pg).1 (findObj_own ha.hd hf1 hf2 ho) (_gR hg ht) (k u av σ {s with toks:=s.toks+1} G.st ⟨de.refl _,rfl,rfl⟩ hg h)⟩
theorem _1f{x C dd f:ao}{fl:List (String×AV)}{n:String}{Q:AV->List AV->Prop}(hm:cA c C n f)(hx:σ x=some (.inst C dd))(md:σ dd=some (.ns fl))(hn:fl.lookup n=none)(h:Q (.raw (.ref f)) [.ref x]):e6 c d (.ref x) n σ Q:=
 ⟨λA Fz s v pl P E G r k=>by
  obtain rfl:v = .ref x:=r
  obtain⟨es,k',I,sK,sp,_⟩:=_3G G.st hx md
  obtain⟨o,ho,hg⟩:=sp.get n
  rw[hn] at hg
  cases o with
  | some u=>exact hg.elim
  | none=>
   refine method_fn G.kin I (uT hm.pg).1 (uT hm.pg).2 hm.fi (beq_iff_eq.mp hm.fn) ?_ (k (.raw (.ref f)) [.ref x] (.ref f) [.ref x] s (.refl s) rfl (.one rfl) h)
   show(lookIn (ab n) (dictOf es k')).map (·.isSome)=some false
   rw[lookIn_dict,ho];rfl⟩
theorem _6O(n:String)(av:AV):∀(f:Loc),(Loc.put f n av).length<=f.length+1
 | []=>aD _
 | (y,u)::f=>by
  unfold Loc.put
  split
  ·exact lO _
  ·exact cC (_6O n av f)
theorem _gS{x C dd:ao}{f:List (String×AV)}{n:String}{av:AV}(ha:d5 c C n)(hx:σ x=some (.inst C dd))(md:σ dd=some (.ns f))(hl:f.length<=50)(h:∀r,Q r (σ.set dd (.ns (Loc.put f n av)))):ct c d (.setAttr n) [.ref x,av] σ Q:=
 ⟨λA Fz s vs P E G r k=>by
  obtain⟨_,_,rfl,rfl,vv,_,rfl,rv,rfl⟩:=r
  obtain⟨es,k',I,sK,sp,hl100⟩:=_3G G.st hx md
  have kin:=G.kin
  show wpAny c.M A (setAttr (.ref x) (ab n) vv >>= λ_=>pure Value.none) P E s
  refine aa (set_plain kin I ha.sa (osa_open (s:={s with toks:=s.toks+1}) kin I ha.po ha.ta λb=>?_))
  obtain⟨cd,hc,kU⟩:=any_some ha.hd
  have hn:=putName_dict (ab n) (kK c.w.params (ab n)) (.str (ab n) (s.toks+1)) vv es k'
  have hs:bu dd s.heap (s.heap.update dd (Obj.putName (ab n) (kK c.w.params (ab n)) (.str (ab n) (s.toks+1)) vv)):=bn ..
  have D':=bR (Obj.putName (ab n) (kK c.w.params (ab n)) (.str (ab n) (s.toks+1)) vv) sK (by rw[hn];rfl)
  have N:=sp.put (_1a sK rfl hs) n (kK c.w.params (ab n)) (s.toks+1) rv
  have cL:=_6O n av f
  obtain⟨S',g'⟩:=G.st.write md hs (c':=.ns (Loc.put f n av)) ⟨_,D',_,_,hn,N,by exact _a8 hl cL⟩
  refine aa (ad (aa (aa (wpAny_loadPart I.1 (aa (looks_clsIn kin hc _ _ _ _ (λ_ _ e=>e) ?_))))))
  rw[kU]
  refine ad (a:=some dd) (aa (ad (aa ?_)))
  unfold nsSet
  refine aa (aa (fg (ad (aa (wpAny_mkText (aa (wpAny_loadPart sK ?_)))))))
  dsimp only
  have c0:(!es.toArray.any (·.key.isStr (ab n))&&es.toArray.any (·.refKey))=false:=by
   have:=sp.noRef
   rw[<-tX,<-tX,this,pF]
  rw[aRefKeyMayBeTheName_at,c0]
  refine wpAny_updatePart sK (aa (wpAny_lookBehind D' (by rw[hn];exact pastItsLine_dict (by rw[gP,cY,N.len];exact _a9 hl cL)) ?_))
  exact ad (ad (k .none .none _ {s with heap:=_,toks:=s.toks+2} S' ⟨g',rfl,rfl⟩ rfl (h _)))⟩
theorem _gT{nm:List String}{C fI:ao}{ps:List String}{body:ISs}{as:List AV}(hm:makesIn c.K C=true)(hi:findIn c.K (.ref C) "__init__" = some (some (.ref fI)))(hf:isFn c.K (.ref fI)=true)(D:oj c nm fI ps body)(hl:as.length+1=ps.length)
  (h:∀x dx,σ x=none->σ dx=none->x≠dx->iH c d body (ps.zip (.ref x::as)) ((σ.set dx (.ns [])).set x (.inst C dx)) (λ_ aX=>Q (.ref x) aX) (λr aX=>r = .none/\Q (.ref x) aX)):br c (d+1) (.raw (.ref C)) as σ Q:=
 ⟨λA Fz s vs P E G r k=>by
  obtain⟨_,vals,rfl,rfl,r⟩:=r
  have kin:=G.kin
  obtain⟨hh,g,dr,t,os⟩:=s
  have n1:=_a hh
  have n2:=_a (hh.push fC)
  have eX:(hh.push fC).objs.size=hh.objs.size+1:=fW ..
  have k1:=_p hh fC
  have k2:=_p (hh.push fC) (instObj C hh.objs.size)
  obtain⟨S1,g1,hσ1⟩:=G.st.new (c:=.ns []) n1 k1 ⟨fC,aH _ rfl,[],0,rfl,.nil,b0 _⟩
  obtain⟨S2,g2,hσ2⟩:=S1.new (c:=.inst C hh.objs.size) n2 k2 (aH _ rfl)
  rw[eX] at S2 hσ2
  have gK:hh.objs.size+1≠hh.objs.size:=oH _
  rw[af.set_ne _ _ gK] at hσ2
  have h1:=G.room.dep
  have h2:=G.room.un
  refine rC (make_core (makes_of kin hm) (looks_findIn kin hi) (λself=>bind_fn kin self (beq_iff_eq.mp hf)) (.inl rfl) ?_)
  refine _6L (s:=⟨(hh.push fC).push (instObj C hh.objs.size),g,dr,t,os⟩) (vals:=.ref (hh.objs.size+1)::vals) (as:=.ref (hh.objs.size+1)::as) D ⟨?_,?_,G.room.hn⟩ G.base G.bs S2 (.cons (RV.ref _) (r.grow (g1.trans g2))) hl (h _ _ hσ2 hσ1 gK) ?_ ?_
  ·rw[depth_under_make];exact _aa h1
  ·rw[units_under_make];exact _ab h2
  ·exact λs' m' aX S' g' q=>⟨rfl,k _ (.ref (hh.objs.size+1)) aX s' S' ⟨(g1.trans g2).trans g'.g,g'.os,g'.gens⟩ rfl q⟩
  ·rintro v av s' aX S' g' rv ⟨rfl,q⟩
   exact⟨rv,k _ (.ref (hh.objs.size+1)) aX s' S' ⟨(g1.trans g2).trans g'.g,g'.os,g'.gens⟩ rfl q⟩⟩
end
inductive Pt where
 | b (v:ae) | r (a:ao) | i (k:Int) | s (x:String) | t (l:List AV) | x (a:AV)
noncomputable def Pt.av:Pt->AV
 | .b v=>.raw v
 | .r a=>.ref a
 | .i k=>.int k
 | .s y=>.str y
 | .t l=>.tup l
 | .x a=>a
noncomputable def Pt.all(h:a_):Pt->(ae->Prop)->Prop
 | .b v,M=>M v
 | .r a,M=>M (.ref a)
 | .i k,M=>∀t,M (.int k t)
 | .s y,M=>∀t,M (.str (ab y) t)
 | .t l,M=>∀t its n,IsT h t its n->RVs h its.toList l->M (.ref t)
 | .x a,M=>∀v,RV h v a->M v
noncomputable def inv(h:a_):List Pt->(List ae->Prop)->Prop
 | [],M=>M []
 | p::l,M=>p.all h λv=>inv h l λvs=>M (v::vs)
theorem Pt.run{h:a_}{M:ae->Prop}{v:ae}:∀{p:Pt},p.all h M->RV h v p.av->M v
 | .b _,y,e=>(show v=_ from e) ▸ y
 | .r _,y,e=>(show v=_ from e) ▸ y
 | .i _,y,e=>e.elim λt e=>e ▸ y t
 | .s _,y,e=>e.elim λt e=>e ▸ y t
 | .t _,y,e=>e.elim λt e=>e.elim λits e=>e.1 ▸ e.2.1.elim λn q=>y t its n q e.2.2
 | .x _,y,e=>y v e
theorem _6P{h:a_}:∀{l:List Pt} {M:List ae->Prop} {vs:List ae},inv h l M->RVs h vs (l.map Pt.av)->M vs
 | [],_,_,x,e=>(show _=[] from e) ▸ x
 | p::l,M,_,x,e=>e.elim λv e=>e.elim λr e=>e.1 ▸ _6P (M:=λvs=>M (v::vs)) (p.run x e.2.1) e.2.2
noncomputable def Ans(c:Cx)(Fz:Fzn)(s:ah)(Q:AV->af->Prop)(P:ae->ah->Prop):Prop:=
 ∀v av aX s',St c.prog c.w Fz aX s'.heap->cR s s'->RV s'.heap v av->Q av aX->P v s'
section
variable{c:Cx}{d:Nat}{σ aX:af}{Q:AV->af->Prop}{A:bB}{E:ae->ah->Prop}{s:ah}{Fz:Fzn}{P:ae->ah->Prop}{h':a_}{tk:Nat}{v:ae}{av:AV}
theorem _6(ps:List Pt){o:OpK}(h:∀A Fz s P E,Go c d A Fz σ s->Ans c Fz s Q P->inv s.heap ps λvs=>wpAny c.M A (o.sem vs) P E s):ct c d o (ps.map Pt.av) σ Q:=
 ⟨λA Fz s vs P E G r k=>_6P (h A Fz s P E G k) r⟩
theorem Ans.same(k:Ans c Fz s Q P)(G:Go c d A Fz σ s)(r:RV s.heap v av)(q:Q av σ):P v {s with toks:=tk}:=k v av σ {s with toks:=tk} G.st ⟨.refl _,rfl,rfl⟩ r q
theorem Ans.keep(k:Ans c Fz s Q P)(G:Go c d A Fz σ s)(hk:∀b o,s.heap.get? b=some o->h'.get? b=some o)(r:RV h' v av)(q:Q av σ):P v {s with heap:=h',toks:=tk}:=
 k v av σ {s with heap:=h',toks:=tk} (G.st.more (_f hk) hk) ⟨_f hk,rfl,rfl⟩ r q
theorem Ans.to(k:Ans c Fz s Q P)(S:St c.prog c.w Fz aX h'/\de s.heap h')(r:RV h' v av)(q:Q av aX):P v {s with heap:=h',toks:=tk}:=k v av aX {s with heap:=h',toks:=tk} S.1 ⟨S.2,rfl,rfl⟩ r q
theorem Ans.new(k:Ans c Fz s Q P){m:ao}{ce:cG}(S:St c.prog c.w Fz (σ.set m ce) h'/\de s.heap h'/\σ m=none)(q:∀m,σ m=none->Q (.ref m) (σ.set m ce)):P (.ref m) {s with heap:=h',toks:=tk}:=
 k _ _ _ {s with heap:=h',toks:=tk} S.1 ⟨S.2.1,rfl,rfl⟩ (.ref m) (q m S.2.2)
theorem Ans.newS(k:Ans c Fz s Q P){m:ao}{ce:cG}{s':ah}(S:St c.prog c.w Fz (σ.set m ce) s'.heap/\de s.heap s'.heap/\σ m=none)(e1:s'.os=s.os)(e2:s'.gens=s.gens)(q:∀m,σ m=none->Q (.ref m) (σ.set m ce)):P (.ref m) s':=
 k _ _ _ s' S.1 ⟨S.2.1,e1,e2⟩ (.ref m) (q m S.2.2)
theorem _2e{o i x:ae}(h:wpAny c.M A (setItem o i x) (λ_ s'=>P .none s') E s):wpAny c.M A (OpK.setItem.sem [o,i,x]) P E s:=aa (m:=setItem o i x) (cx h (λ_ _ q=>ad q) λ_ _ x=>x)
end
section
variable{c:Cx}{d:Nat}{σ:af}{Q:AV->af->Prop}{a b:Int}
theorem _n{o:OpK}{as:List AV}{Q':AV->af->Prop}(h:ct c d o as σ Q)(k:∀v aX,Q v aX->Q' v aX):ct c d o as σ Q':=
 ⟨λA Fz s vs P E G r kk=>h.run A Fz s vs P E G r λv av aX s' S g rv q=>kk v av aX s' S g rv (k _ _ q)⟩
theorem _6Q{o:OpK}{f:ae->ae->me ae}{x y r:AV}(e:o.sem=two f)(h:∀(A:bB) (s:ah) (E:ae->ah->Prop) (P:ae->ah->Prop) u v,lH A d->RV s.heap u x->RV s.heap v y->(∀z s',iu s s'->RV s'.heap z r->P z s')->wpAny c.M A (f u v) P E s)(hq:Q r σ):ct c d o [x,y] σ Q:=
 ⟨λA Fz s vs P E G rr k=>by
  obtain⟨u,_,rfl,ru,v,_,rfl,rv,rfl⟩:=rr
  rw[e]
  exact h A s E P u v G.room ru rv λz s' e rz=>k z r σ s' (_fP e.h G.st) e.grow rz hq⟩
theorem _gU{op:io}{x y r:AV}(h:∀(A:bB) (s:ah) (E:ae->ah->Prop) (P:ae->ah->Prop) u v,lH A d->RV s.heap u x->RV s.heap v y->(∀z s',iu s s'->RV s'.heap z r->P z s')->wpAny c.M A (g7 op u v) P E s)(hq:Q r σ):eQ c d op x y σ Q:=_6Q rfl h hq
theorem _00{o:OpK}{f:ae->ae->me ae}{r:AV}(e:o.sem=two f)(h:∀(A:bB) (s:ah) (E:ae->ah->Prop) (P:ae->ah->Prop) t u,(∀z s',iu s s'->RV s'.heap z r->P z s')->wpAny c.M A (f (.int a t) (.int b u)) P E s)(hq:Q r σ):ct c d o [.int a,.int b] σ Q:=
 _6Q e (λA s E P _ _ _ ⟨t,e⟩ ⟨u,e'⟩ k=>e ▸ e' ▸ h A s E P t u k) hq
theorem _0K(h:Q (.int (a+b)) σ):pt c d .Add (.int a) (.int b) σ Q:=_00 rfl (λA s E P t u k=>PyProof.Rows.add_int (k _ _ ⟨rfl,rfl,rfl⟩ (RV.int _ _))) h
theorem _2f(h:Q (.int (a-b)) σ):pt c d .Sub (.int a) (.int b) σ Q:=_00 rfl (λA s E P t u k=>PyProof.Rows.sub_int' (k _ _ ⟨rfl,rfl,rfl⟩ (RV.int _ _))) h
noncomputable def rY(a:Int):Prop:=a.natAbs<2 ^ 62
theorem _6R{a:Int}(h:rY a):pE a<=64:=by
 unfold pE
 split
 ·exact b0 _
 ·rename_i h0
  have h1:a.natAbs≠0:=λe=>by rw[Int.natAbs_eq_zero.mp e] at h0;exact h0 rfl
  exact ay ((Nat.log2_lt h1).mpr h) (by decide)
theorem _gV(hm:rY a\/rY b)(h:Q (.int (a*b)) σ):pt c d .Mult (.int a) (.int b) σ Q:=
 _00 rfl (λA s E P t u k=>PyProof.Rows.mul_int (k _ _ ⟨rfl,rfl,rfl⟩ (RV.int _ _)) (hm.elim (λx=>.of_left (_6R x)) λx=>.of_right (_6R x))) h
theorem _2g(hb:b≠0)(h:Q (.int (a.fmod b)) σ):pt c d .Mod (.int a) (.int b) σ Q:=_00 rfl (λA s E P t u k=>PyProof.Rows.mod_int' hb (k _ _ ⟨rfl,rfl,rfl⟩ (RV.int _ _))) h
theorem _6S(h:Q (.int (-a)) σ):ct c d .neg [.int a] σ Q:=
 ⟨λA Fz s vs P E G r k=>by
  obtain⟨_,_,rfl,⟨t,rfl⟩,rfl⟩:=r
  exact PyProof.Rows.neg_int (k _ (.int (-a)) σ {s with toks:=s.toks+1} G.st ⟨de.refl _,rfl,rfl⟩ (RV.int _ _) h)⟩
theorem _0p(h:Q (.bool (decide (a=b))) σ):eQ c d .Eq (.int a) (.int b) σ Q:=_00 rfl (λA s E P t u k=>PyProof.Rows.eq_int (k _ _ ⟨rfl,rfl,rfl⟩ (RV.bool _))) h
theorem _gW(a b:Int):(a != b)=decide (a≠b):=by by_cases e:a=b <;> simp[e]
theorem _1g(h:Q (.bool (decide (a≠b))) σ):eQ c d .NotEq (.int a) (.int b) σ Q:=_00 rfl (λA s E P t u k=>PyProof.Rows.ne_int (k _ _ ⟨rfl,rfl,rfl⟩ (by rw[_gW];exact RV.bool _))) h
theorem _2h(h:Q (.bool (decide (a<b))) σ):eQ c d .Lt (.int a) (.int b) σ Q:=_00 rfl (λA s E P t u k=>PyProof.Rows.lt_int (k _ _ ⟨rfl,rfl,rfl⟩ (RV.bool _))) h
theorem _gX(h:Q (.bool (decide (a<=b))) σ):eQ c d .LtE (.int a) (.int b) σ Q:=_00 rfl (λA s E P t u k=>PyProof.Rows.le_int (k _ _ ⟨rfl,rfl,rfl⟩ (RV.bool _))) h
theorem _6T(h:Q (.bool (decide (b<a))) σ):eQ c d .Gt (.int a) (.int b) σ Q:=_00 rfl (λA s E P t u k=>PyProof.Rows.gt_int (k _ _ ⟨rfl,rfl,rfl⟩ (RV.bool _))) h
theorem _6U{x:AV}(ht:x.tame=true)(h:Q (.bool (match x with | .none=>true | _=>false)) σ):eQ c d .Is x .none σ Q:=
 _gU (λA s E P u v _ ru rv k=>by
  obtain rfl:v = .none:=rv
  cases x with
  | raw _=>cases ht
  | int _=>obtain⟨t,rfl⟩:=ru;exact ia rfl (k _ _ (.refl _) rfl)
  | str _=>obtain⟨t,rfl⟩:=ru;exact ia rfl (k _ _ (.refl _) rfl)
  | tup _=>obtain⟨a,_,rfl,_⟩:=ru;exact ia rfl (k _ _ (.refl _) rfl)
  | slice _ _ _=>obtain⟨a,_,_,_,rfl,_⟩:=ru;exact ia rfl (k _ _ (.refl _) rfl)
  | range _ _=>obtain⟨a,_,_,_,rfl,_⟩:=ru;exact ia rfl (k _ _ (.refl _) rfl)
  | _=>obtain rfl:u=_:=ru;exact ia rfl (k _ _ (.refl _) rfl)) h
end
section
variable{c:Cx}{d:Nat}{σ:af}{Q:AV->af->Prop}{A:bB}{E:ae->ah->Prop}{s:ah}{Fz:Fzn}
noncomputable def bp(n:Nat):Prop:=n<=100000
theorem fz{n:Nat}(h:nK n 100000=true):bp n:=be h
theorem bp.le{n:Nat}(h:bp n):n<=b8:=by unfold bp at h;rw[cY];exact _ac h
theorem bp.small{n:Nat}(h:bp n):(n:Int) < 2 ^ 63:=by unfold bp at h;(first | lia | omega)
theorem _k{h:a_}{l:ao}{xs:List AV}(S:St c.prog c.w Fz σ h)(e:σ l=some (.list xs)):∃its n,IsL h l its n/\RVs h its.toList xs:=by
 obtain⟨its,n,e,r⟩:=S.cell _ _ e
 exact⟨its,n,e,r⟩
theorem _q{h:a_}{its:Array ae}{xs:List AV}(r:RVs h its.toList xs):its.size=xs.length:=by rw[<-r.length];simp
theorem bp.fit{h:a_}{its:Array ae}{xs:List AV}(hz:bp xs.length)(r:RVs h its.toList xs):its.size<=b8:=ay (cm (_q r)) hz.le
theorem RVs.look{h:a_}{vs:List ae}{l:List AV}{k:Nat}{x:AV}(r:RVs h vs l)(e:l[k]? = some x):∃y,vs[k]? = some y/\RV h y x:=by
 have:=r.get k
 rw[e] at this
 cases q:vs[k]? with
 | none=>rw[q] at this;exact this.elim
 | some y=>rw[q] at this;exact⟨y,rfl,this⟩
theorem _1h{h:a_}{l:ao}{xs ys:List AV}{its:Array ae}{n:Nat}(S:St c.prog c.w Fz σ h)(e:σ l=some (.list xs))(hl:IsL h l its n)(f:Array ae->Array ae)(r:RVs h (f its).toList ys):
  St c.prog c.w Fz (σ.set l (.list ys)) (h.update l (fk f))/\de h (h.update l (fk f)):=by
 have hs:bu l h (h.update l (fk f)):=bn ..
 have g:de h (h.update l (fk f)):=by
  intro b o ho hla
  by_cases q:b=l
  ·subst q;exact absurd hla ((S.cell b _ e).notLasting ho)
  ·exact(hs.2 b q).trans ho
 exact S.write e hs ⟨f its,_,hl.update f,r.grow g⟩
theorem _2i{h:a_}{ys:List AV}{its:Array ae}(S:St c.prog c.w Fz σ h)(r:RVs h its.toList ys):
  St c.prog c.w Fz (σ.set h.objs.size (.list ys)) (h.push {cls:=.type "list", data:=.seq its})/\de h (h.push {cls:=.type "list", data:=.seq its})/\σ h.objs.size=none:=
 S.new (_a h) (_p h _) ⟨its,0,aH _ rfl,r.grow (_f (_p h _))⟩
theorem _Q{T id:String}{o i:ae}{P:ae->ah->Prop}{M:rN}(hT:s.TypeIs o T)(gK:o ≠ .builtin "sys.modules#opaque")(hl:typeLookup (.type T) "__getitem__" = pure (some (.builtin id)))(h:wpAny M A (getItem o i) P E s):wpAny M A (s7 o i) P E s:=by
 unfold s7
 rw[getitemInPython_of_ne gK]
 refine aa (aa (fR hT hl (ad ?_)))
 rw[if_neg (by decide)]
 exact h
theorem _3H{l:ao}{xs:List AV}{name:String}{id:String}{Q:AV->List AV->Prop}(slot:Slot "list" (ab name) id)(vS:typeOf (.builtin id)=pure (.type "method_descriptor"))(e:σ l=some (.list xs))(h:Q (.raw (.builtin id)) [.ref l]):e6 c d (.ref l) name σ Q:=by
 refine⟨λA Fz s v pl P E G r hP=>?_⟩
 obtain⟨its,n,hl,ri⟩:=_k G.st e
 rw[show v = .ref l from r]
 exact ie hl.isList.typeIs PySem.F.plainAttrs_list slot vS (λa e=>by cases e;exact⟨_,hl,rfl⟩) (hP _ _ _ _ s (.refl s) (.raw _) (.one (.ref l)) h)
theorem _3I{id:String}(h:fastBuiltinType id=pure (.type "method_descriptor")):typeOf (.builtin id)=pure (.type "method_descriptor"):=by show builtinType _=_;rw[builtinType_eq_fast];exact h
theorem _v{l:ao}{xs:List AV}{Q:AV->List AV->Prop}(e:σ l=some (.list xs))(h:Q (.raw (.builtin "list.append")) [.ref l]):e6 c d (.ref l) "append" σ Q:=_3H pa (_3I (by kernel_rfl)) e h
theorem _6V{l:ao}{xs:List AV}{Q:AV->List AV->Prop}(e:σ l=some (.list xs))(h:Q (.raw (.builtin "list.extend")) [.ref l]):e6 c d (.ref l) "extend" σ Q:=_3H o_ (_3I (by kernel_rfl)) e h
theorem _2j{l:ao}{xs:List AV}{Q:AV->List AV->Prop}(e:σ l=some (.list xs))(h:Q (.raw (.builtin "list.pop")) [.ref l]):e6 c d (.ref l) "pop" σ Q:=_3H jS (_3I (by kernel_rfl)) e h
theorem _F{l:ao}{xs:List AV}{x:AV}(e:σ l=some (.list xs))(hz:bp xs.length)(h:Q .none (σ.set l (.list (xs++[x])))):br c d (.raw (.builtin "list.append")) [.ref l,x] σ Q:=by
 refine _6 [.b _,.r _,.x _] λA Fz s P E G k xv rx=>?_
 obtain⟨its,n,hl,ri⟩:=_k G.st e
 exact oF pa hl.isList.typeIs PySem.F.entry_list_append (PySem.F.args_list_append_2 _ _) (list_append l its n xv (hz.fit ri)) ⟨hl,k.to (_1h (ys:=xs++[x]) G.st e hl (λa=>a.push xv) (by rw[eO];exact ri.append (.one rx))) .none h⟩
theorem _gY{l b:ao}{xs ys:List AV}(e:σ l=some (.list xs))(eb:σ b=some (.list ys))(hz:bp (xs.length+ys.length))(h:Q .none (σ.set l (.list (xs++ys)))):br c d (.raw (.builtin "list.extend")) [.ref l,.ref b] σ Q:=by
 refine _6 [.b _,.r _,.r _] λA Fz s P E G k=>?_
 obtain⟨its,n,hl,ri⟩:=_k G.st e
 obtain⟨its2,n2,uH,ri2⟩:=_k G.st eb
 have eX:its.size+its2.size<=b8:=by rw[_q ri,_q ri2];exact hz.le
 exact oF o_ hl.isList.typeIs PySem.F.entry_list_extend (PySem.F.args_list_extend_2 _ _) (AutoSeq1.list_extend_list_list_0 l its n b its2 n2 (λq=>gJ.mpr eX (of_decide_eq_true (ck.mp q).2)) (by exact _ad eX) (by exact _57 eX))
  ⟨hl,uH,k.to (_1h (ys:=xs++ys) G.st e hl (λa=>a++its2) (by rw[gf];exact ri.append ri2)) .none h⟩
theorem _3J{l:ao}{xs:List AV}{x:AV}(e:σ l=some (.list (xs++[x])))(hz:bp xs.length)(h:Q x (σ.set l (.list xs))):br c d (.raw (.builtin "list.pop")) [.ref l] σ Q:=by
 refine _6 [.b _,.r _] λA Fz s P E G k=>?_
 obtain⟨its,n,hl,ri⟩:=_k G.st e
 have hs:its.size=xs.length+1:=(_q ri).trans am
 have hj:its.size-1=xs.length:=by exact _58 hs
 obtain⟨y,hy,hg⟩:=ri.look (k:=its.size - 1) (x:=x) (by rw[hj];exact List.getElem?_concat_length)
 refine oF jS hl.isList.typeIs pZ (PySem.F.args_list_pop_1 _) (MeetsSeq.list_pop_last l its n y (a0.symm.trans hy) (by rw[hs,cY];unfold bp at hz;exact _ae hz)) ⟨hl,?_⟩
 have u:=_1h (ys:=xs) G.st e hl (λa=>a.eraseIdxIfInBounds (its.size-1)) (by
  rw[hj,ny,eY,qS (by rw[aw,hs];exact aD _),bh]
  have:=ri.take xs.length
  rwa [List.take_left] at this)
 exact k.to u (hg.grow u.2) h
theorem _6W{i:Int}{n j:Nat}:kY i n=some j ↔ (0<=(if i<0 then i+n else i)/\(if i<0 then i+n else i)<n)/\(if i<0 then i+n else i).toNat=j:=by
 show(if(decide (0<=(if i<0 then i+n else i))&&decide ((if i<0 then i+n else i)<n))=true then some (if i<0 then i+n else i).toNat else none)=some j ↔ _
 by_cases hh:(decide (0<=(if i < 0 then i+n else i))&&decide ((if i < 0 then i+n else i) < n))=true
 ·rw[if_pos hh]
  simp only[bm,decide_eq_true_eq] at hh
  simp[hh]
 ·rw[if_neg hh]
  simp only[bm,decide_eq_true_eq] at hh
  simp[hh]
theorem _01{i n:Nat}(h:i<n):kY (i:Int) n=some i:=by
 rw[_6W]
 have:¬(i:Int)<0:=by exact _15
 simp only[this,if_false]
 exact _af h
theorem _6X{i:Int}(h : -(100000:Int)<=i/\i<=100000):mr i=true:=by
 unfold mr
 simp only[bm,decide_eq_true_eq]
 (first | lia | omega)
theorem _gZ{l:ao}{xs:List AV}{x:AV}{i:Int}{k:Nat}(e:σ l=some (.list xs))(hz:bp xs.length)(hi:kY i xs.length=some k)(hx:xs[k]? = some x)(hf : -(100000:Int)<=i/\i<=100000)(h:Q x (σ.set l (.list (xs.eraseIdx k)))):
  br c d (.raw (.builtin "list.pop")) [.ref l,.int i] σ Q:=by
 refine _6 [.b _,.r _,.i _] λA Fz s P E G kk t=>?_
 obtain⟨its,n,hl,ri⟩:=_k G.st e
 have hs:=_q ri
 obtain⟨y,hy,hg⟩:=ri.look hx
 have u:=_1h (ys:=xs.eraseIdx k) G.st e hl (λa=>a.eraseIdxIfInBounds k) (by
  rw[ny,eY,eY]
  exact(ri.take k).append (ri.drop (k+1)))
 exact oF jS hl.isList.typeIs pZ (PySem.F.args_list_pop_2 _ _) (MeetsSeq.list_pop_at l its n i t k y (_6X hf) (by rw[hs];exact hi) (a0.symm.trans hy) (hz.fit ri)) ⟨hl,kk.to u (hg.grow u.2) h⟩
theorem _1i{l:ao}{xs:List AV}{x:AV}{i:Int}{k:Nat}(e:σ l=some (.list xs))(hz:bp xs.length)(hi:kY i xs.length=some k)(hx:xs[k]? = some x)(hf : -(100000:Int)<=i/\i<=100000)(h:Q x σ):gN c d (.ref l) (.int i) σ Q:=by
 refine _6 [.r _,.i _] λA Fz s P E G kk t=>?_
 obtain⟨its,n,hl,ri⟩:=_k G.st e
 have hs:=_q ri
 obtain⟨y,hy,hg⟩:=ri.look hx
 have hy:=a0.symm.trans hy
 refine _Q hl.isList.typeIs (λq=>nomatch q) slot_list_getitem.lookup ?_
 obtain⟨⟨h1,h2⟩,h3⟩:=_6W.mp hi
 have fin:P y s:=kk.same G hg h
 by_cases h0:i < 0
 ·rw[if_pos h0] at h1 h3
  exact wpAny_getItem_list_neg hl.isList h0 (by rw[hs];exact _ag h1) (by(first | lia | omega)) (by rw[hs,h3];exact hy) fin
 ·rw[if_neg h0] at h1 h3
  exact wpAny_getItem_list hl.isList (by exact _ah h1) (by(first | lia | omega)) (by rw[h3];exact hy) fin
theorem _6Y{l:ao}{xs:List AV}{x:AV}{i:Int}{Q:af->Prop}(e:σ l=some (.list xs))(hz:bp xs.length)(h0:0<=i)(hi:i<xs.length)(h:Q (σ.set l (.list (xs.set i.toNat x)))):ct c d .setItem [(.ref l),(.int i),x] σ λ_ aX=>Q aX:=by
 refine _6 [.r _,.i _,.x _] λA Fz s P E G k t vv rv=>_2e ?_
 obtain⟨its,n,hl,ri⟩:=_k G.st e
 have hs:=_q ri
 unfold bp at hz
 unfold setItem
 try with_reducible refine aS ?_
 first | refine aa (ad ?_) | skip
 refine aa (wpAny_sequenceKey hl.isList.typeIs (by decide) ?_)
 refine aa (cV (name:=ab "__setitem__") hl.isList.typeIs slot_list_setitem ?_)
 refine b4 slot_list_setitem hl.isList.typeIs entry_list_setitem ?_ (args_list_setitem _ _ _)
 refine aa (m:=Builtin.List.listSubscript? (.int i t)) (wpAny_listSubscript_int (_6X (by exact _ai hz h0 hi hs)) ?_)
 obtain⟨j,rfl⟩:=Int.eq_ofNat_of_zero_le h0
 have hj:j<its.size:=by exact _aj hs hi
 refine aa (m:=seqItemAt l j >>= λr=>pure (r.map (j,·))) (aa (wpAny_seqItemAt hl rfl (ad ?_)))
 rw[aW hj]
 refine aa (m:=setSeqItemAt l j vv) (wpAny_setSeqItemAt hl rfl ?_)
 have fin:P .none {s with heap:=s.heap.update l (fk λa=>a.setIfInBounds j vv)}:=k.to (_1h (ys:=xs.set j x) G.st e hl (λa=>a.setIfInBounds j vv) (by rw[Array.toList_setIfInBounds];exact ri.set j rv)) .none h
 first
  | exact aa (ad (ad ⟨.none,rfl,ad fin⟩))
  | exact ad ⟨.none,rfl,ad fin⟩
end
mutual
noncomputable def Den(σ:af):AV->oK->Prop
 | a,.none=>a = .none
 | a,.bool b=>a = .bool b
 | a,.int i=>a = .int i
 | a,.str x=>∃y,a = .str y/\x=ab y
 | _,.bytes _=>False
 | a,.tuple ds=>∃l,a = .tup l/\kS σ l ds
 | a,.list ds=>∃b l,a = .ref b/\σ b=some (.list l)/\kS σ l ds
termination_by structural _ d=>d
noncomputable def kS(σ:af):List AV->List oK->Prop
 | l,[]=>l=[]
 | l,d::ds=>∃a r,l=a::r/\Den σ a d/\kS σ r ds
termination_by structural _ d=>d
end
section
variable{σ:af}
theorem Den.none:Den σ .none .none:=rfl
theorem Den.int(i:Int):Den σ (.int i) (.int i):=rfl
theorem Den.str(x:String):Den σ (.str x) (.str (ab x)):=⟨x,rfl,rfl⟩
theorem Den.tup{l:List AV}{ds:List oK}(h:kS σ l ds):Den σ (.tup l) (.tuple ds):=⟨l,rfl,h⟩
theorem Den.list{a:ao}{l:List AV}{ds:List oK}(e:σ a=some (.list l))(h:kS σ l ds):Den σ (.ref a) (.list ds):=⟨a,l,rfl,e,h⟩
theorem kS.nil:kS σ [] []:=rfl
theorem kS.cons{a:AV}{b:oK}{l:List AV}{ds:List oK}(x:Den σ a b)(r:kS σ l ds):kS σ (a::l) (b::ds):=⟨a,l,rfl,x,r⟩
variable{c:Cx}{d:Nat}{Q:AV->af->Prop}{A:bB}{E:ae->ah->Prop}{s:ah}{Fz:Fzn}
mutual
theorem _H{h:a_}(S:St c.prog c.w Fz σ h):∀(D:oK) {a:AV} {v:ae},Den σ a D->RV h v a->∃as,Reads h v (kqdP D) as
 | .none,_,_,x,y=>by cases x;cases y;exact⟨_,.none⟩
 | .bool b,_,_,x,y=>by cases x;cases y;exact⟨_,.bool b⟩
 | .int i,_,_,x,y=>by cases x;obtain⟨t,rfl⟩:=y;exact⟨_,.int i t⟩
 | .str _,_,_,x,y=>by obtain⟨z,rfl,rfl⟩:=x;obtain⟨t,rfl⟩:=y;exact⟨_,.str _ t⟩
 | .bytes _,_,_,x,_=>pe x
 | .tuple ds,_,_,x,y=>by
  obtain⟨l,rfl,k⟩:=x
  obtain⟨a,items,rfl,t,r⟩:=y
  obtain⟨o,ho,hc,m,hd⟩:=t.tup
  obtain⟨as,ha⟩:=lC S ds k r
  exact⟨_,.tuple ho hc hd ha⟩
 | .list ds,_,_,x,y=>by
  obtain⟨b,l,rfl,e,k⟩:=x
  cases y
  obtain⟨its,n,hl,r⟩:=_k S e
  obtain⟨as,ha⟩:=lC S ds k r
  exact⟨_,.list hl rfl rfl ha⟩
theorem lC{h:a_}(S:St c.prog c.w Fz σ h):∀(D:List oK) {l:List AV} {vs:List ae},kS σ l D->RVs h vs l->∃as,ReadsAll h vs (kqdPs D) as
 | [],_,_,x,y=>by cases x;cases y;exact⟨_,.nil⟩
 | d::ds,_,_,x,y=>by
  obtain⟨a,r,rfl,k,ks⟩:=x
  obtain⟨v,vs,rfl,x,xs⟩:=y
  obtain⟨as,ha⟩:=_H S d k x
  obtain⟨bs,hb⟩:=lC S ds ks xs
  exact⟨_,.cons ha hb⟩
end
open Classical in
theorem _6Z{D D':oK}(hd:kqdOk 8 D=true)(kU:kqdOk 8 D'=true):(kqdP D).eqv (kqdP D')=decide (D=D'):=by
 have q:=kqd_eqv 8 D D' 8 hd kU
 by_cases hq:D=D'
 ·rw[decide_eq_true hq];exact q.mpr hq
 ·rw[decide_eq_false hq];exact Bool.eq_false_iff.mpr λx=>hq (q.mp x)
theorem _2k{D:oK}(hd:kqdOk 8 D=true):iO (kqdP D)=true:=by
 have l:=kqd_lay 8 D hd
 unfold iO;rw[l.1,gx];exact decide_eq_true (ay l.2 (by decide))
theorem lH.data{A:bB}{d:Nat}(R:lH A d):A.units+64<cLine:=by have:=R.un;exact _ak this
open Classical in
theorem _3K{x y:AV}{D D':oK}(hx:Den σ x D)(hy:Den σ y D')(hd:kqdOk 8 D=true)(kU:kqdOk 8 D'=true)(h:Q (.bool (decide (D=D'))) σ):eQ c d .Eq x y σ Q:=by
 refine _6 [.x _,.x _] λA Fz s P E G k v rv u ru=>?_
 obtain⟨as,ha⟩:=_H G.st D hx rv
 obtain⟨bs,hb'⟩:=_H G.st D' hy ru
 exact PyProof.Rows.eq_dataH ha hb' (_2k hd) (_2k kU) G.room.data (by rw[_6Z hd kU];exact k.same G (RV.bool _) h)
open Classical in
theorem _h0{x y:AV}{D D':oK}(hx:Den σ x D)(hy:Den σ y D')(hd:kqdOk 8 D=true)(kU:kqdOk 8 D'=true)(h:Q (.bool (decide (D≠D'))) σ):eQ c d .NotEq x y σ Q:=by
 refine _6 [.x _,.x _] λA Fz s P E G k v rv u ru=>?_
 obtain⟨as,ha⟩:=_H G.st D hx rv
 obtain⟨bs,hb'⟩:=_H G.st D' hy ru
 exact oG ha hb' (_2k hd) (_2k kU) G.room.data (by rw[_6Z hd kU,<-decide_not];exact k.same G (RV.bool _) h)
theorem _w{l:ao}{xs:List AV}(e:σ l=some (.list xs))(hz:bp xs.length)(h:Q (.int xs.length) σ):br c d (.raw (.builtin "len")) [.ref l] σ Q:=by
 refine _6 [.b _,.r _] λA Fz s P E G k=>?_
 obtain⟨its,n,hl,ri⟩:=_k G.st e
 exact PyProof.Rows.len_list hl.isList (by rw[_q ri];exact hz.small) (by rw[_q ri];exact k.same G (.int _ _) h)
theorem _1j{a b:ao}{xs ys:List AV}(e:σ a=some (.list xs))(eb:σ b=some (.list ys))(hz:bp (xs.length+ys.length))(h:∀l,σ l=none->Q (.ref l) (σ.set l (.list (xs++ys)))):pt c d .Add (.ref a) (.ref b) σ Q:=by
 refine _6 [.r _,.r _] λA Fz s P E G k=>?_
 obtain⟨its,n,hl,ri⟩:=_k G.st e
 obtain⟨its2,n2,uH,ri2⟩:=_k G.st eb
 exact PySem.P.add_list hl uH (k.new (_2i (ys:=xs++ys) (its:=its++its2) G.st (by rw[gf];exact ri.append ri2)) h) (by rw[_q ri,_q ri2];exact hz.le)
noncomputable def lD(n:Nat)(i:Int):Nat:=min (if i<0 then i+n else i).toNat n
noncomputable def uu(n:Nat):AV->Nat
 | .int i=>lD n i
 | _=>0
noncomputable def uw(n:Nat):AV->Nat
 | .int i=>lD n i
 | _=>n
noncomputable def iI{α:Type}(xs:List α)(lo hi:AV):List α:=(xs.take (uw xs.length hi)).drop (uu xs.length lo)
noncomputable def jA:AV->Option Int
 | .int i=>some i
 | _=>none
noncomputable def jD:AV->Bool
 | .int _=>true
 | .none=>true
 | _=>false
theorem _2l{h:a_}{v:ae}{a:AV}(r:RV h v a)(hp:jD a=true):IsPart v (jA a):=by
 cases a with
 | none=>obtain rfl:v = .none:=r;exact .none
 | int i=>obtain⟨t,rfl⟩:=r;exact .int _ _
 | _=>cases hp
noncomputable def rX(n:Nat)(df:Nat):Option Int->Nat
 | none=>df
 | some i=>lD n i
theorem _70{α:Type}(xs:List α)(a:Nat):∀n,(aV n).filterMap (λk=>xs[a+k]?)=(xs.drop a).take n
 | 0=>rfl
 | n+1=>by
  rw[eM,rP,_70 xs a n,bJ,jf]
  cases h:xs[a+n]? <;> simp[h]
theorem _2m(n:Nat)(i:Int):max 0 (min (if i<0 then i+n else i) n)=((lD n i:Nat):Int):=by
 unfold lD
 generalize (if i<0 then i+(n:Int) else i)=j
 exact _al
theorem _h1(a b:Option Int)(n:Nat):uQ a b none n=(((rX n 0 a:Nat):Int),((rX n n b:Nat):Int),(1:Int)):=by
 unfold uQ
 cases a with
 | none=>cases b with
  | none=>rfl
  | some j=>exact gO rfl (gO (_2m n j) rfl)
 | some i=>cases b with
  | none=>exact gO (_2m n i) rfl
  | some j=>exact gO (_2m n i) (gO (_2m n j) rfl)
theorem _h2{α:Type}(xs:List α)(lo hi:Nat):(oB lo hi 1).filterMap (λk=>xs[k]?)=(xs.take hi).drop lo:=by
 unfold oB
 have hn:(if(1:Int)>0 then(if(lo:Int)<(hi:Int) then((hi:Int)-lo+1-1) / 1 else 0) else(if(lo:Int)>hi then((lo:Int)-hi-1-1) / (-1) else 0):Int).toNat=hi-lo:=by
  rw[if_pos (by decide)]
  split <;> (first | lia | omega)
 dsimp only
 rw[hn,sX]
 have e4:((λk=>xs[k]?)∘λ(k:Nat)=>((lo:Int)+1*(k:Int)).toNat)=λk=>xs[lo+k]?:=by
  funext k
  show xs[((lo:Int)+1*(k:Int)).toNat]? = _
  rw[Int.one_mul];rfl
 rw[e4,_70,List.drop_take]
theorem _h3{n:Nat}{a:AV}(h:jD a=true):uu n a=rX n 0 (jA a):=by cases a <;> first | rfl | cases h
theorem _h4{n:Nat}{a:AV}(h:jD a=true):uw n a=rX n n (jA a):=by cases a <;> first | rfl | cases h
theorem _71{its:Array ae}{lo hi:AV}(hl:jD lo=true)(hh:jD hi=true):(kX its (jA lo) (jA hi) none).toList=iI its.toList lo hi:=by
 unfold kX iI
 rw[_h1,_h3 hl,_h4 hh,<-_h2,aw]
 simp only[a0]
end
section
variable{c:Cx}{d:Nat}{σ:af}{Q:AV->af->Prop}{A:bB}{E:ae->ah->Prop}{s:ah}{Fz:Fzn}
theorem RVs.ofSlc{h:a_}{its:Array ae}{xs:List AV}(r:RVs h its.toList xs)(lo hi:AV):RVs h (iI its.toList lo hi) (iI xs lo hi):=by
 unfold iI
 rw[show its.toList.length=xs.length from r.length]
 exact(r.take _).drop _
theorem _h5{l:ao}{xs:List AV}{lo hi:AV}(e:σ l=some (.list xs))(hl:jD lo=true)(hh:jD hi=true)(hz:bp xs.length)(h:∀m,σ m=none->Q (.ref m) (σ.set m (.list (iI xs lo hi)))):gN c d (.ref l) (.slice lo hi .none) σ Q:=by
 refine _6 [.r _,.x _] λA Fz s P E G k iv rx=>?_
 obtain⟨sa,lov,hiv,stv,rfl,he,rlo,rhi,rst⟩:=rx
 obtain rfl:stv = .none:=rst
 obtain⟨its,n,nF,ri⟩:=_k G.st e
 exact _Q nF.isList.typeIs (λq=>nomatch q) slot_list_getitem.lookup (ky (st:=none) nF.isList ⟨_,he,rfl,rfl⟩ (_2l rlo hl) (_2l rhi hh) .none (λq=>nomatch q)
  (k.new (_2i (its:=kX its (jA lo) (jA hi) none) (ys:=iI xs lo hi) G.st (by rw[_71 hl hh];exact ri.ofSlc lo hi)) h) (hz.fit ri))
theorem _1k{h:a_}{v:ae}{xs:List AV}(r:RV h v (.tup xs)):∃t its n,v = .ref t/\IsT h t its n/\RVs h its.toList xs:=by
 obtain⟨a,its,rfl,t,r⟩:=r
 obtain⟨n,e⟩:=t
 exact⟨a,its,n,rfl,e,r⟩
theorem _3L{h:a_}{ys:List AV}{its:Array ae}(S:St c.prog c.w Fz σ h)(r:RVs h its.toList ys):
  St c.prog c.w Fz σ (h.push {cls:=.type "tuple", data:=.seq its})/\de h (h.push {cls:=.type "tuple", data:=.seq its})/\RV (h.push {cls:=.type "tuple", data:=.seq its}) (.ref h.objs.size) (.tup ys):=
 ⟨S.push _,_f (_p h _),.tup _ its ys ⟨0,aH _ rfl⟩ (r.grow (_f (_p h _)))⟩
theorem _1l{xs:List AV}{x:AV}{i:Int}{k:Nat}(hi:kY i xs.length=some k)(hx:xs[k]? = some x)(hf : -(100000:Int)<=i/\i<=100000)(h:Q x σ):gN c d (.tup xs) (.int i) σ Q:=by
 refine _6 [.t _,.i _] λA Fz s P E G kk t its n ht ri tk=>?_
 have hs:=_q ri
 obtain⟨y,q,hg⟩:=ri.look hx
 exact _Q (T:="tuple") ⟨_,ht,rfl⟩ (λq=>nomatch q) slot_tuple_getitem.lookup (PySem.P.getItem_tuple ht (by(first | lia | omega)) (by(first | lia | omega)) (by rw[hs];exact hi) (a0.symm.trans q) (kk.same G hg h))
theorem _1m{xs:List AV}{x:AV}(hz:bp xs.length)(h:Q (.tup xs) σ):gN c d (.tup (x::xs)) (.slice (.int 1) .none .none) σ Q:=by
 refine _6 [.t _,.x _] λA Fz s P E G k t its n ht ri iv rx=>?_
 obtain⟨sa,lov,hiv,stv,rfl,he,rlo,rhi,rst⟩:=rx
 obtain rfl:stv = .none:=rst
 obtain⟨tk,rfl⟩:=rlo
 obtain rfl:hiv = .none:=rhi
 have hs:its.size=xs.length+1:=_q ri
 unfold bp at hz
 refine _Q (T:="tuple") ⟨_,ht,rfl⟩ (λq=>nomatch q) slot_tuple_getitem.lookup (getItem_tuple_from (a:=1) ⟨_,ht,rfl,n,rfl⟩ ⟨_,he,rfl,rfl⟩ (aD _) (by exact _am hs) ?_ (by rw[hs,cY];exact _an hz))
 obtain⟨S',g,rt⟩:=_3L (its:=(its.toList.drop 1).toArray) (ys:=xs) G.st (ri.drop 1)
 exact k.to ⟨S',g⟩ rt h
theorem _h6{xs:List AV}(hz:bp xs.length)(h:Q (.int xs.length) σ):br c d (.raw (.builtin "len")) [.tup xs] σ Q:=by
 refine _6 [.b _,.t _] λA Fz s P E G k t its n ht ri=>?_
 exact PyProof.Rows.len_tuple ⟨_,ht,rfl,n,rfl⟩ (by rw[_q ri];exact hz.small) (by rw[_q ri];exact k.same G (.int _ _) h)
theorem _2n{xs ys:List AV}(hz:bp (xs.length+ys.length))(h:Q (.tup (xs++ys)) σ):pt c d .Add (.tup xs) (.tup ys) σ Q:=by
 refine _6 [.t _,.t _] λA Fz s P E G k t its n ht ri t2 its2 n2 uC ri2=>?_
 have s1:=_q ri
 have s2:=_q ri2
 have T1:s.TypeIs (.ref t) "tuple" :=⟨_,ht,rfl⟩
 have T2:s.TypeIs (.ref t2) "tuple" :=⟨_,uC,rfl⟩
 by_cases h1:its.isEmpty=true
 ·obtain rfl:xs=[]:=dz.mp (by rw[<-s1];simpa using h1)
  exact concat_meets T1 T2 noFill_tuple_add seq_tuple_add F.slot_tuple_add vR (vb _ _) (AutoSeq1.tuple___add___tuple_tuple_0 t its n t2 its2 n2 h1) ⟨ht,uC,k.same G (.tup _ _ _ ⟨_,uC⟩ ri2) h⟩
 ·by_cases h2:its2.isEmpty=true
  ·obtain rfl:ys=[]:=dz.mp (by rw[<-s2];simpa using h2)
   rw[bh] at h
   exact concat_meets T1 T2 noFill_tuple_add seq_tuple_add F.slot_tuple_add vR (vb _ _) (AutoSeq1.tuple___add___tuple_tuple_1 t its n t2 its2 n2 h1 h2) ⟨ht,uC,k.same G (.tup _ _ _ ⟨_,ht⟩ ri) h⟩
  ·obtain⟨S',g,rt⟩:=_3L (its:=its++its2) (ys:=xs++ys) G.st (by rw[gf];exact ri.append ri2)
   exact PySem.P.add_tuple ht uC h1 h2 (k.to ⟨S',g⟩ rt h) (by rw[s1,s2];exact hz.le)
theorem _2o{l:ao}{xs:List AV}(e:σ l=some (.list xs))(hz:bp xs.length)(h:Q (.tup xs) σ):br c d (.raw (.type "tuple")) [.ref l] σ Q:=by
 refine _6 [.b _,.r _] λA Fz s P E G k=>?_
 obtain⟨its,n,hl,ri⟩:=_k G.st e
 refine call_tuple_list hl.isList (λh' hk=>?_) (hz.fit ri)
 obtain⟨S',g,rt⟩:=_3L (its:=its) (ys:=xs) (G.st.more (_f hk) hk) (ri.grow (_f hk))
 exact k.to ⟨S',(_f hk).trans g⟩ rt h
theorem _h7{xs:List AV}(h:Q (.tup xs) σ):br c d (.raw (.type "tuple")) [.tup xs] σ Q:=by
 refine _6 [.b _,.t _] λA Fz s P E G k t its n ht ri=>?_
 exact call_tuple_same ⟨_,ht,rfl,n,rfl⟩ (k.same G (.tup _ _ _ ⟨_,ht⟩ ri) h)
theorem _x{xs:List AV}{n:Nat}{Q:List AV->Prop}(hn:xs.length=n)(h:Q xs):f_ c d (.tup xs) n σ Q:=by
 refine⟨λA Fz s v P E G r k=>?_⟩
 obtain⟨t,its,m,rfl,ht,ri⟩:=_1k r
 have hs:=_q ri
 rw[<-hn,<-hs]
 refine unpackItems_tuple G.room.hn ⟨_,ht,rfl,m,rfl⟩ λh' he=>?_
 have hk:∀b o,s.heap.get? b=some o->h'.get? b=some o:=λb o e=>he b o (bQ (bM e)) e
 exact k _ xs _ (G.st.more (_f hk) hk) ⟨_f hk,rfl,rfl⟩ (ri.grow (_f hk)) hn h
theorem _72{it:ae}{ai:ao->Prop}{P:List AV->a_->Prop}{keep:af->Prop}(I:jE c d false it ai P (λ_=>P) keep)(hr:lH A d)(hb:q8 c)(qz:Bs c Fz)(hk:keep σ)(hf:∀a o,ai a->¬Fz a o)(jb:∀a,ai a->σ a=none):∀(n:Nat) (l:List AV) (s:ah) (R:List ae->ah->Prop),
  St c.prog c.w Fz σ s.heap->P l s.heap->n<=l.length->(∀vs s',St c.prog c.w Fz σ s'.heap->cR s s'->RVs s'.heap vs (l.take n)->P (l.drop n) s'.heap->R vs s')->wpAny c.M A (draw it n) R E s
 | 0,l,s,R,S,hP,_,hR=>by
  show wpAny _ _ (pure []) R E s
  exact ad (hR [] s S (.refl _) (by simpa using RVs.nil) (by simpa using hP))
 | n+1,[],s,R,S,hP,hn,hR=>by simp at hn
 | n+1,x::l,s,R,S,hP,hn,hR=>by
  show wpAny _ _ (pyNext it >>= _) R E s
  refine aa (I.next A Fz σ (x::l) s _ _ ⟨hr,hb,qz,S⟩ hk hf jb hP λr bU S₁ g₁ hr₁=>?_)
  obtain⟨v,rfl,rv,hP₁⟩:=hr₁
  refine aa (aS (_72 I hr hb qz hk hf jb n l bU _ S₁ hP₁ (by simpa using hn) λvs s₂ S₂ g₂ r₂ hP₂=>ad ?_))
  exact hR _ s₂ S₂ (g₁.trans g₂) (.cons (rv.grow g₂.g) r₂) hP₂
theorem _h8{a:AV}{n:Nat}{Q:List AV->Prop}(hni:∀A Fz s v E (P:Bool->ah->Prop),Go c d A Fz σ s->RV s.heap v a->P false s->wpAny c.M A (notIterableAtAll v) P E s)
  (h:fH c d a σ λitems keep=>items.length=n/\keep σ/\Q items):f_ c d a n σ Q:=by
 refine⟨λA Fz s v P E G r k=>?_⟩
 unfold unpackItems
 refine aa (hni A Fz s v E _ G r (aa (aS (h.run A Fz s v _ E G r λit ai P' bU items keep ⟨hn,hk,hq⟩ S₁ k₁ kk vG I hP=>?_))))
 have hf:∀a o,ai a->¬Fz a o:=λa o y q=>vG a o y (G.st.fz _ _ q)
 have jb:∀a,ai a->σ a=none:=λa y=>G.st.free (λo=>vG a o y)
 refine aa (aS (_72 I G.room G.base G.bs hk hf jb n items bU _ S₁ hP (cm hn.symm) λvs s₂ S₂ g₂ r₂ hP₂=>?_))
 rw[dE (cm hn)] at r₂
 rw[qS (cm hn)] at hP₂
 rw[if_neg (by rw[r₂.length,hn];exact db _)]
 refine aa (aS (I.next A Fz σ [] s₂ _ _ ⟨G.room,G.base,G.bs,S₂⟩ hk hf jb hP₂ λr s₃ S₃ g₃ hr₃=>?_))
 rw[hr₃]
 exact ad (k vs items s₃ S₃ ((kk.trans g₂).trans g₃) (r₂.grow g₃.g) hn hq)
end
section
variable{c:Cx}{d:Nat}{σ:af}{Q:AV->af->Prop}{A:bB}{E:ae->ah->Prop}{s:ah}{Fz:Fzn}
theorem _73{xs:List AV}{i:Nat}(hd:xs.drop i=[]):xs[i]? = none:=by
 have:=congrArg (λl=>l[0]?) hd
 simpa using this
theorem _h9{h:a_}{its:Array ae}{xs:List AV}(r:RVs h its.toList xs){i:Nat}(hx:xs[i]? = none):its[i]? = none:=by
 have hg:=r.get i
 rw[hx] at hg
 cases q:its.toList[i]? with
 | none=>exact a0.symm.trans q
 | some v=>rw[q] at hg;exact hg.elim
theorem _ha{h:a_}{its:Array ae}{xs:List AV}(r:RVs h its.toList xs){i:Nat}{x:AV}(hx:xs[i]? = some x):∃v,its[i]? = some v/\RV h v x:=by
 obtain⟨v,q,rv⟩:=r.look hx
 exact⟨v,a0.symm.trans q,rv⟩
theorem _0q{l:ao}{xs:List AV}{Q:List AV->(af->Prop)->Prop}(e:σ l=some (.list xs))(h:Q xs (λσ=>σ l=some (.list xs))):fH c d (.ref l) σ Q:=by
 refine⟨λA Fz s v R E G r k=>?_⟩
 replace k:=λit ai P s'=>k it ai P s' _ _ h
 rw[show v = .ref l from r]
 obtain⟨its,n,hl,ri⟩:=_k G.st e
 exact o3 hl.isList (k (.ref s.heap.objs.size) (λa=>a=s.heap.objs.size) _ _ (G.st.push _) (_p s.heap _) (cR.push s _) (λa o q=>q ▸ _a _ _) _gr ⟨0,⟨_,aH _ rfl,rfl,rfl⟩,rfl⟩)
theorem _74{h:a_}{a t:ao}{i:Nat}{o:iF}(x:h.IsTupleIter a t i)(e:h.get? a=some o):¬dY o:=by
 obtain⟨o',e',hc,hd⟩:=x
 rw[e] at e';cases e'
 rintro(⟨h1,_⟩ | ⟨h1 | h1,_⟩) <;> (rw[hc] at h1;injection h1 with h1;exact absurd h1 (by decide))
noncomputable def TupI(it t:ao)(xs rest:List AV)(h:a_):Prop:=∃i,h.IsTupleIter it t i/\RV h (.ref t) (.tup xs)/\rest=xs.drop i
theorem _75{h:a_}{t:ao}{xs:List AV}(r:RV h (.ref t) (.tup xs)):∃its,h.IsTuple t its/\RVs h its.toList xs:=by
 obtain⟨t',its,n,e1,ht,ri⟩:=_1k r
 cases e1
 exact⟨its,⟨_,ht,rfl,n,rfl⟩,ri⟩
theorem _hb{t it:ao}{xs:List AV}:jE c d false (.ref it) (λa=>a=it) (TupI it t xs) (λ_=>TupI it t xs) (λ_=>True) where
 there:=λl h ⟨i,⟨o,e,_⟩,_⟩ a q=>⟨o,q ▸ e⟩
 still:=λl h h' ⟨i,⟨o,e,r⟩,rt,q⟩ k g=>⟨i,⟨o,k _ _ rfl e,r⟩,rt.grow g,q⟩
 again:=λA l s R E hr ⟨i,hi,_⟩ h=>wpAny_pyIter_tupleiter hi h
 next:=λA Fz σ rest=>match rest with
  | []=>λs R E G hk hf jb hP hR=>by
   obtain⟨i,hi,rt,e⟩:=hP
   obtain⟨its,hl,ri⟩:=_75 rt
   refine wpAny_pyNext_tuple_end G.room.hn hi hl (_h9 ri (_73 e.symm)) λh' he=>?_
   obtain⟨o,ho,_⟩:=id hi
   have u:=G.st.extWrite1 (λo=>hf it o rfl) (jb it rfl) he ho (_74 hi ho)
   exact hR none _ u.1 ⟨u.2,rfl,rfl⟩ rfl
  | x::r=>λs R E G hk hf jb hP hR=>by
   obtain⟨i,hi,rt,e⟩:=hP
   obtain⟨its,hl,ri⟩:=_75 rt
   have q:=_0d e.symm
   obtain⟨v,hv,rv⟩:=_ha ri q.1
   refine wpAny_pyNext_tuple_item hi hl hv λh' lI hs=>?_
   obtain⟨o,ho,_⟩:=id hi
   have u:=G.st.apartWrite (λo=>hf it o rfl) (jb it rfl) hs ho (_74 hi ho)
   exact hR (some v) _ u.1 ⟨u.2,rfl,rfl⟩ ⟨v,rfl,rv.grow u.2,i+1,lI,rt.grow u.2,q.2.symm⟩
 letGo:=λA Fz σ l s v t R E _ hr S hf jb hP hR=>by
  obtain⟨o,ho,hc,_⟩:=hP.choose_spec.1
  exact _1d ho hc (by decide) (hR s S (.refl _) hP)
theorem _R{xs:List AV}{Q:List AV->(af->Prop)->Prop}(h:Q xs (λ_=>True)):fH c d (.tup xs) σ Q:=by
 refine⟨λA Fz s v R E G r k=>?_⟩
 replace k:=λit ai P s'=>k it ai P s' _ _ h
 have r0:=r
 obtain⟨t,its,n,rfl,ht,ri⟩:=_1k r
 exact PyProof.Rows.iter_tuple ⟨_,ht,rfl,n,rfl⟩ (k (.ref s.heap.objs.size) (λa=>a=s.heap.objs.size) _ _ (G.st.push _) (_p s.heap _) (cR.push s _) (λa o q=>q ▸ _a _ _) (_hb (t:=t) (xs:=xs)) ⟨0,⟨_,aH _ rfl,rfl,rfl⟩,r0.grow (_f (_p s.heap _)),rfl⟩)
noncomputable def gZ(a:Int)(n:Nat):List AV:=(aV n).map λ(k:Nat)=>AV.int (a+(k:Int))
theorem _hc(a:Int)(n:Nat):gZ a (n+1) = .int a::gZ (a+1) n:=by
 unfold gZ
 rw[List.range_succ_eq_map,aJ,bf]
 congr 1
 ·simp
 ·apply bF
  intro k _
  simp only[gX,AV.int.injEq]
  exact _ao
theorem _1n(a:Int)(n:Nat):(gZ a n).length=n:=by simp[gZ]
noncomputable def RngI(it:ao)(rest:List AV)(h:a_):Prop:=∃x n,IsRangeIter h it x ((n:Nat):Int) 1/\rest=gZ x n
theorem _76{x n:Int}:¬dY {cls:=.type "range_iterator", dict:=none,data:=.fields #[rawInt x,rawInt n,rawInt 1],slots:=#[]}:=by
 rintro(⟨h1,_⟩ | ⟨h1 | h1,_⟩) <;> (injection h1 with h1;exact absurd h1 (by decide))
theorem _hd{it:ao}:jE c d false (.ref it) (λa=>a=it) (RngI it) (λ_=>RngI it) (λ_=>True) where
 there:=λl h ⟨x,n,hi,_⟩ a q=>⟨_,q ▸ hi⟩
 still:=λl h h' ⟨x,n,hi,q⟩ k g=>⟨x,n,k _ _ rfl hi,q⟩
 again:=λA l s R E hr ⟨x,n,hi,_⟩ h=>wpAny_pyIter_rangeiter hi h
 next:=λA Fz σ rest s R E G hk hf jb hP=>by
  obtain⟨x,n,hi,e⟩:=hP
  cases n with
  | zero=>
   intro hR
   refine wpAny_pyNext_range_end G.room.hn hi (iC 0) λh' he=>?_
   have u:=G.st.extWrite1 (λo=>hf it o rfl) (jb it rfl) he hi _76
   exact hR none _ u.1 ⟨u.2,rfl,rfl⟩ (by rw[e];rfl)
  | succ n=>
   rw[e,_hc]
   intro hR
   refine wpAny_pyNext_range_item hi (by exact _ap) λh' lI hs=>?_
   have u:=G.st.apartWrite (λo=>hf it o rfl) (jb it rfl) hs hi _76
   refine hR (some (.int x s.toks)) _ u.1 ⟨u.2,rfl,rfl⟩ ⟨_,rfl,.int _ _,x+1,n,?_,rfl⟩
   rwa [show((n+1:Nat):Int)-1=(n:Int) by exact _aq] at lI
 letGo:=λA Fz σ l s v t R E _ hr S hf jb hP hR=>by
  obtain⟨x,n,hi,q⟩:=id hP
  exact _1d hi rfl (by decide) (hR s S (.refl _) hP)
noncomputable def pN(a:Int):Prop:=a.natAbs<=1000000
theorem _he{a b:Int}(ha:pN a)(hb:pN b):Builtin.Range.small a b 1=true:=by
 unfold pN at ha hb
 exact small_one (by(first | lia | omega)) (by(first | lia | omega)) (by(first | lia | omega)) (by(first | lia | omega))
theorem _hf{a b:Int}:Builtin.Range.rangeSize a b 1=(((b - a).toNat:Nat):Int):=by rw[rangeSize_one];split <;> (first | lia | omega)
theorem _3M{a b:Int}{Q:List AV->(af->Prop)->Prop}(ha:pN a)(hb:pN b)(h:Q (gZ a (b-a).toNat) (λ_=>True)):fH c d (.range a b) σ Q:=by
 refine⟨λA Fz s v R E G r k=>?_⟩
 replace k:=λit ai P s'=>k it ai P s' _ _ h
 obtain⟨ra,t,u,w,rfl,he⟩:=r
 refine wpAny_pyIter_range he (_he ha hb) (k (.ref s.heap.objs.size) (λa=>a=s.heap.objs.size) _ _ (G.st.push _) (_p s.heap _) (cR.push s _) (λa o q=>q ▸ _a _ _) _hd ⟨a,(b-a).toNat,?_,rfl⟩)
 show(s.heap.push _).get? s.heap.objs.size=_
 rw[<-_hf]
 exact aH _ rfl
theorem _2p{n:Int}(h:Q (.range 0 n) σ):br c d (.raw (.type "range")) [.int n] σ Q:=by
 refine _6 [.b _,.i _] λA Fz s P E G k t=>?_
 have kp:=_p s.heap {cls:=.type "range", data:=.fields #[.int 0 s.toks,.int n t,.int 1 (s.toks+1)]}
 exact call_range_1 (k.keep G kp (.range _ _ _ s.toks t (s.toks+1) (aH _ rfl)) h)
theorem _77{l:ao}{xs:List AV}(e:σ l=some (.list xs))(hz:bp xs.length)(h:∀m,σ m=none->Q (.ref m) (σ.set m (.list xs))):br c d (.raw (.type "list")) [.ref l] σ Q:=by
 refine _6 [.b _,.r _] λA Fz s P E G k=>?_
 obtain⟨its,n,hl,ri⟩:=_k G.st e
 exact call_list_seq l (.inl rfl) hl rfl rfl (λh' c' hk hn=>k.new (G.st.new (c:=.list xs) (_a s.heap) hk ⟨its,c',hn,ri.grow (_f hk)⟩) h) (hz.fit ri)
end
noncomputable def bz{K V:Type}[DecidableEq K]:List (K×V)->K->Option V
 | [],_=>none
 | (a,v)::r,k=>if a=k then some v else bz r k
noncomputable def d9{K V:Type}[DecidableEq K]:List (K×V)->K->V->List (K×V)
 | [],k,v=>[(k,v)]
 | (a,u)::r,k,v=>if a=k then(a,v)::r else(a,u)::d9 r k v
noncomputable def gy{K V:Type}[DecidableEq K]:List (K×V)->K->List (K×V)
 | [],_=>[]
 | (a,u)::r,k=>if a=k then r else(a,u)::gy r k
theorem _0e{K V:Type}[DecidableEq K]{k:K}:bz ([]:List (K×V)) k=none:=rfl
theorem _e{K V:Type}[DecidableEq K]{a k:K}{v:V}{r:List (K×V)}:bz ((a,v)::r) k=if a=k then some v else bz r k:=rfl
theorem _hg{K V:Type}[DecidableEq K]{k:K}{v:V}:d9 ([]:List (K×V)) k v=[(k,v)]:=rfl
theorem _y{K V:Type}[DecidableEq K]{a k:K}{u v:V}{r:List (K×V)}:d9 ((a,u)::r) k v=if a=k then(a,v)::r else(a,u)::d9 r k v:=rfl
theorem _I{K V:Type}[DecidableEq K]{a k:K}{u:V}{r:List (K×V)}:gy ((a,u)::r) k=if a=k then r else(a,u)::gy r k:=rfl
theorem _3N{K:Type}[DecidableEq K]:∀(eI:List (K×ae)) (k:K),valueAt eI k=bz eI k
 | [],k=>rfl
 | (a,v)::r,k=>by
  have ih:=_3N r k
  unfold valueAt at ih ⊢
  rw[_e]
  rw[kC]
  by_cases e:a=k
  ·simp[e]
  ·simp only[e,decide_false,if_false];exact ih
theorem _78{K:Type}[DecidableEq K]:∀(xs:List (K×ao×ae)) (k:K),atKey xs k=bz xs k
 | [],k=>rfl
 | (a,v)::r,k=>by
  have ih:=_78 r k
  unfold atKey at ih ⊢
  rw[_e]
  rw[kC]
  by_cases e:a=k
  ·simp[e]
  ·simp only[e,decide_false,if_false];exact ih
theorem _0L{K V:Type}[DecidableEq K]:∀{l:List (K×V)} {k:K},bz l k=none ↔ k ∉ l.map (·.1)
 | [],k=>by simp[_e,_0e]
 | (a,v)::r,k=>by
  rw[_e]
  by_cases e:a=k
  ·simp[e]
  ·simp only[e,if_false,aJ,aO,not_or]
   rw[_0L (l:=r)]
   exact⟨λh=>⟨λq=>e q.symm,h⟩,λh=>h.2⟩
theorem _0M{K V:Type}[DecidableEq K]:∀{l:List (K×V)} {k:K} {v:V},bz l k=none->d9 l k v=l++[(k,v)]
 | [],k,v,_=>rfl
 | (a,u)::r,k,v,h=>by
  rw[_e] at h
  rw[_y]
  by_cases e:a=k
  ·simp[e] at h
  ·simp only[e,if_false] at h ⊢
   rw[_0M h];rfl
theorem _hh{K V:Type}[DecidableEq K]{l:List (K×V)}{k:K}{v:V}(h:k ∉ l.map (·.1)):l.map (λx=>if x.1=k then(x.1,v) else x)=l:=by
 induction l with
 | nil=>rfl
 | cons x r ih=>
  simp only[aJ,aO,not_or] at h
  rw[aJ,ih h.2,if_neg (λq=>h.1 q.symm)]
theorem _3O{K V:Type}[DecidableEq K]:∀{l:List (K×V)} {k:K} {v:V},(l.map (·.1)).Nodup->d9 l k v=if(bz l k).isSome then l.map (λx=>if x.1=k then(x.1,v) else x) else l++[(k,v)]
 | [],k,v,_=>rfl
 | (a,u)::r,k,v,hn=>by
  rw[aJ,bC] at hn
  rw[_y,_e]
  by_cases e:a=k
  ·subst e
   simp only[if_true,Option.isSome_some,aJ]
   rw[_hh hn.1]
  ·simp only[e,if_false,aJ]
   rw[_3O hn.2]
   split <;> rfl
theorem RVk.inv{K:Type}{h:a_}{a b:K}{v:ae}{av:AV}{eI:List (K×ae)}{es:List (K×AV)}(r:RVk h ((a,v)::eI) ((b,av)::es)):a=b/\RV h v av/\RVk h eI es:=by
 obtain⟨h1,v',r',e,rv,rs⟩:=r
 obtain⟨rfl,rfl⟩:=aL e
 exact⟨(aL h1).1,rv,(aL h1).2,rs⟩
theorem RVk.mk{K:Type}{h:a_}{a:K}{v:ae}{av:AV}{eI:List (K×ae)}{es:List (K×AV)}(rv:RV h v av)(r:RVk h eI es):RVk h ((a,v)::eI) ((a,av)::es):=
 ⟨by simp only[aJ];rw[r.1],.cons rv r.2⟩
theorem RVk.look{K:Type}[DecidableEq K]{h:a_}:∀{eI:List (K×ae)} {es:List (K×AV)} (k:K),RVk h eI es->ORV h (bz eI k) (bz es k)
 | [],[],k,_=>trivial
 | [],_::_,_,r=>by have:=r.1;simp at this
 | _::_,[],_,r=>by have:=r.1;simp at this
 | (a,v)::eI,(b,av)::es,k,r=>by
  obtain⟨rfl,rv,rs⟩:=r.inv
  rw[_e,_e]
  by_cases e:a=k
  ·simp only[e,if_true];exact rv
  ·simp only[e,if_false];exact RVk.look k rs
theorem RVk.put{K:Type}[DecidableEq K]{h:a_}(k:K){v:ae}{av:AV}(rv:RV h v av):∀{eI:List (K×ae)} {es:List (K×AV)},RVk h eI es->RVk h (d9 eI k v) (d9 es k av)
 | [],[],_=>RVk.mk rv ⟨rfl,.nil⟩
 | [],_::_,r=>by have:=r.1;simp at this
 | _::_,[],r=>by have:=r.1;simp at this
 | (a,u)::eI,(b,au)::es,r=>by
  obtain⟨rfl,ru,rs⟩:=r.inv
  rw[_y,_y]
  by_cases e:a=k
  ·simp only[e,if_true];exact RVk.mk rv rs
  ·simp only[e,if_false];exact RVk.mk ru (RVk.put k rv rs)
theorem RVk.del{K:Type}[DecidableEq K]{h:a_}(k:K):∀{eI:List (K×ae)} {es:List (K×AV)},RVk h eI es->RVk h (gy eI k) (gy es k)
 | [],[],_=>⟨rfl,.nil⟩
 | [],_::_,r=>by have:=r.1;simp at this
 | _::_,[],r=>by have:=r.1;simp at this
 | (a,u)::eI,(b,au)::es,r=>by
  obtain⟨rfl,ru,rs⟩:=r.inv
  rw[_I,_I]
  by_cases e:a=k
  ·simp only[e,if_true];exact rs
  ·simp only[e,if_false];exact RVk.mk ru (RVk.del k rs)
theorem RVk.len{K:Type}{h:a_}{eI:List (K×ae)}{es:List (K×AV)}(r:RVk h eI es):eI.length=es.length:=by
 have:=congrArg fV r.1
 simpa using this
section
variable{c:Cx}{d:Nat}{σ:af}{Q:AV->af->Prop}{A:bB}{E:ae->ah->Prop}{s:ah}{Fz:Fzn}
theorem _1o{h:a_}{a:ao}{ce:cG}(hb:q8 c)(qz:Bs c Fz)(S:St c.prog c.w Fz σ h)(e:σ a=some ce):(a == sysModules)=false:=by
 rw[beq_eq_false_iff_ne]
 rintro rfl
 obtain⟨o,ho⟩:=hb.mods
 exact S.apart _ _ o e (qz _ o ho)
theorem _hi{K:Type}[DecidableEq K]{eI:List (K×ae)}{k:K}{v:ae}(hn:(eI.map (·.1)).Nodup):stored eI k v=d9 eI k v:=by
 rw[_3O hn]
 unfold stored
 have:(eI.any λkv=>decide (kv.1=k))=(bz eI k).isSome:=by
  induction eI with
  | nil=>rfl
  | cons x r ih=>
   rw[aJ,bC] at hn
   obtain⟨a,u⟩:=x
   rw[_e]
   rw[mc,ih hn.2]
   by_cases e:a=k <;> simp[e]
 rw[this]
theorem _hj{K:Type}[DecidableEq K]{eI:List (K×ae)}{k:K}(hn:(eI.map (·.1)).Nodup):without eI k=gy eI k:=by
 unfold without
 induction eI with
 | nil=>rfl
 | cons x r ih=>
  rw[aJ,bC] at hn
  obtain⟨a,u⟩:=x
  rw[_I]
  by_cases e:a=k
  ·subst e
   simp only[if_true]
   rw[List.filter_cons_of_neg (by simp)]
   rw[gi.mpr]
   intro y hy
   simp only[ne_eq,decide_not,gR,decide_eq_false_iff_not]
   rintro rfl
   exact hn.1 (aq.mpr ⟨y,hy,rfl⟩)
  ·simp only[e,if_false]
   rw[List.filter_cons_of_pos (by simp[e]),ih hn.2]
theorem _0N{h:a_}{a:ao}{es:List (Int×AV)}(S:St c.prog c.w Fz σ h)(e:σ a=some (.dictI es)):∃eI,h.DictOf (intKind c.prog c.w) a eI/\RVk h eI es:=S.cell _ _ e
theorem _79{k:Int}{v:ae}(h:k5 k v=true):∃t,v = .int k t:=by
 unfold k5 at h
 split at h
 ·exact⟨_,by rw[beq_iff_eq.mp h]⟩
 ·cases h
theorem isInt(k:Int)(t:Tok)(c:Cx):(intKind c.prog c.w).is k (.int k t)=true:=by simp[intKind,k5]
theorem _7a{K:Type}[DecidableEq K]{knd:KeyKind c.prog c.w K}{h:a_}{a:ao}{eI:List (K×ae)}(hd:h.DictOf knd a eI):(eI.map (·.1)).Nodup:=by
 obtain⟨_,_,_,_,_,_,_,_,h⟩:=hd;exact h
theorem _7b{K:Type}[DecidableEq K]{knd:KeyKind c.prog c.w K}{h h':a_}{a:ao}{eI:List (K×ae)}(hd:h.DictOf knd a eI)(hs:bu a h h'):de h h':=by
 obtain⟨o,es0,ep,ho,_,pT,_⟩:=hd;exact _1a ho pT hs
theorem ORV.same{h:a_}:∀{v:Option ae} {x:Option AV},ORV h v x->v.isSome=x.isSome
 | .none,.none,_=>rfl
 | .some _,.some _,_=>rfl
theorem RVk.at{K:Type}[DecidableEq K]{h:a_}{eI:List (K×ae)}{es:List (K×AV)}(r:RVk h eI es){k:K}{x:AV}(e:bz es k=some x):∃y,valueAt eI k=some y/\RV h y x:=by
 have:=r.look k
 rw[e] at this
 rw[show valueAt eI k=bz eI k from _3N ..]
 cases q:bz eI k with
 | none=>rw[q] at this;exact this.elim
 | some y=>rw[q] at this;exact⟨y,rfl,this⟩
theorem _1p{a:ao}{es:List (Int×AV)}{k:Int}{x:AV}(e:σ a=some (.dictI es))(hx:bz es k=some x)(h:Q x σ):gN c d (.ref a) (.int k) σ Q:=by
 refine _6 [.r a,.i k] λA Fz s P E G kk t=>?_
 obtain⟨eI,hd,rk⟩:=_0N G.st e
 obtain⟨y,q,hl⟩:=rk.at hx
 exact _Q hd.typeIs (λq=>nomatch q) slot_dict_getitem.lookup (wpAny_getItem_of (isInt k t c) hd.mapOf q (kk.same G hl h))
theorem _2q{a:ao}{es:List (Int×AV)}{k:Int}{x:AV}{Q:af->Prop}(e:σ a=some (.dictI es))(hz:bp es.length)(h:Q (σ.set a (.dictI (d9 es k x)))):ct c d .setItem [(.ref a),(.int k),x] σ λ_ aX=>Q aX:=by
 refine _6 [.r _,.i _,.x _] λA Fz s P E G kk t vv rv=>_2e ?_
 obtain⟨eI,hd,rk⟩:=_0N G.st e
 refine wpAny_setItem_pairs (isInt k t c) hd (λh' kU hs=>?_) (by rw[rk.len];exact hz.le)
 have g0:=_7b hd hs
 exact kk.to (G.st.write (c':=.dictI (d9 es k x)) e hs ⟨_,kU,by rw[_hi (_7a hd)];exact(rk.grow g0).put k (rv.grow g0)⟩) .none h
theorem _hk{a:ao}{es:List (Int×AV)}{name:String}{id:String}{Q:AV->List AV->Prop}(slot:Slot "dict" (ab name) id)(vS:typeOf (.builtin id)=pure (.type "method_descriptor"))(e:σ a=some (.dictI es))(h:Q (.raw (.builtin id)) [.ref a]):e6 c d (.ref a) name σ Q:=by
 refine⟨λA Fz s v pl P E G r hP=>?_⟩
 obtain⟨eI,hd,rk⟩:=_0N G.st e
 rw[show v = .ref a from r]
 exact ie hd.typeIs jv slot vS hd.mapOf.noDict (hP _ _ _ _ s (.refl s) (.raw _) (.one (.ref a)) h)
theorem _hl{a:ao}{es:List (Int×AV)}{Q:AV->List AV->Prop}(e:σ a=some (.dictI es))(h:Q (.raw (.builtin "dict.pop")) [.ref a]):e6 c d (.ref a) "pop" σ Q:=_hk qe PySem.F.type_dict_pop e h
theorem _hm{a:ao}{es:List (Int×AV)}{k:Int}{x:AV}(e:σ a=some (.dictI es))(hz:bp es.length)(hx:bz es k=some x)(h:Q x (σ.set a (.dictI (gy es k)))):br c d (.raw (.builtin "dict.pop")) [.ref a,.int k] σ Q:=by
 refine _6 [.b _,.r _,.i _] λA Fz s P E G kk t=>?_
 obtain⟨eI,hd,rk⟩:=_0N G.st e
 obtain⟨v,q,hl⟩:=rk.at hx
 refine call_meetsIn qe hd.typeIs PySem.F.entry_dict_pop (PySem.F.args_dict_pop_2 _ _) (meets_dict_pop_there (intKind c.prog c.w) a (isInt k t c) [] (.inl rfl) rfl) ⟨eI,v,hd,by rw[rk.len];exact hz.le,q,λh' kU hs=>?_⟩
 have g0:=_7b hd hs
 exact kk.to (G.st.write (c':=.dictI (gy es k)) e hs ⟨_,kU,by rw[_hj (_7a hd)];exact(rk.grow g0).del k⟩) (hl.grow g0) h
end
theorem _0O{K K' V V':Type}[DecidableEq K][DecidableEq K']{f:K->K'}{g:V->V'}(hf:∀a b,f a=f b->a=b):∀(l:List (K×V)) (k:K),bz (l.map λx=>(f x.1,g x.2)) (f k)=(bz l k).map g
 | [],k=>rfl
 | (a,v)::r,k=>by
  rw[aJ]
  rw[_e,_e]
  by_cases e:a=k
  ·simp[e]
  ·rw[if_neg e,if_neg (λq=>e (hf _ _ q))]
   exact _0O hf r k
theorem _3P{K K' V V':Type}[DecidableEq K][DecidableEq K']{f:K->K'}{g:V->V'}(hf:∀a b,f a=f b->a=b):∀(l:List (K×V)) (k:K) (v:V),d9 (l.map λx=>(f x.1,g x.2)) (f k) (g v)=(d9 l k v).map λx=>(f x.1,g x.2)
 | [],k,v=>rfl
 | (a,u)::r,k,v=>by
  rw[aJ]
  rw[_y,_y]
  by_cases e:a=k
  ·simp[e]
  ·rw[if_neg e,if_neg (λq=>e (hf _ _ q)),aJ,_3P hf r k v]
theorem _3Q{K K' V V':Type}[DecidableEq K][DecidableEq K']{f:K->K'}{g:V->V'}(hf:∀a b,f a=f b->a=b):∀(l:List (K×V)) (k:K),gy (l.map λx=>(f x.1,g x.2)) (f k)=(gy l k).map λx=>(f x.1,g x.2)
 | [],k=>rfl
 | (a,u)::r,k=>by
  rw[aJ]
  rw[_I,_I]
  by_cases e:a=k
  ·simp[e]
  ·rw[if_neg e,if_neg (λq=>e (hf _ _ q)),aJ,_3Q hf r k]
section
variable{c:Cx}{d:Nat}{σ:af}{Q:AV->af->Prop}{A:bB}{E:ae->ah->Prop}{s:ah}{Fz:Fzn}
open Classical in
theorem _1q{h:a_}{a:ao}{es:List (List AV×AV)}(S:St c.prog c.w Fz σ h)(e:σ a=some (.dictT es)):∃xs:List (List AV×ao×ae),h.DictOfH (dT c.prog c.w) a xs/\RVk h (xs.map λx=>(x.1,x.2.2)) es:=by
 obtain⟨xs,hd,h1,h2⟩:=S.cell _ _ e
 refine⟨xs,hd,?_,?_⟩
 ·rw[bf];exact h1
 ·rw[bf];exact h2
theorem _hn{K:Type}[DecidableEq K](xs:List (K×ao×ae))(k:K):(bz xs k).map (·.2)=bz (xs.map λx=>(x.1,x.2.2)) k:=by
 have:=_0O (f:=λk:K=>k) (g:=λp:ao×ae=>p.2) (λa b h=>h) xs k
 exact this.symm
theorem _0P{K:Type}[DecidableEq K](xs:List (K×ao×ae))(k:K):(atKey xs k).map (·.2)=bz (xs.map λx=>(x.1,x.2.2)) k:=(congrArg _ (_78 ..)).trans (_hn xs k)
theorem _2r{K:Type}[DecidableEq K]{knd:u9 c.prog c.w K}{h:a_}{a:ao}{xs:List (K×ao×ae)}(hd:h.DictOfH knd a xs):(xs.map (·.1)).Nodup:=by
 obtain⟨_,_,_,_,_,_,_,_,h⟩:=hd;exact h
theorem _2s{K:Type}[DecidableEq K]{knd:u9 c.prog c.w K}{h h':a_}{a:ao}{xs:List (K×ao×ae)}(hd:h.DictOfH knd a xs)(hs:bu a h h'):de h h':=by
 obtain⟨o,es0,ep,ho,_,pT,_⟩:=hd;exact _1a ho pT hs
theorem _3R{h:a_}{xs:List (List AV×ao×ae)}{es:List (List AV×AV)}(hz:bp es.length)(rk:RVk h (xs.map λx=>(x.1,x.2.2)) es):xs.length<=b8:=by
 rw[<-ac (λx:List AV×ao×ae=>(x.1,x.2.2)),rk.len];exact hz.le
theorem _0f{h:a_}{v:ae}{k:List AV}(hk:d_ k)(r:RV h v (.tup k)):∃a,v = .ref a/\ja h k a:=by
 have r0:=r
 obtain⟨t,its,n,rfl,_,_⟩:=_1k r
 exact⟨t,rfl,r0,hk⟩
open Classical in
theorem _0Q(hr:lH A d):(dT c.prog c.w).room A.in1:=by
 show A.units+1+8<cLine
 have:=hr.un
 exact _ar this
open Classical in
theorem _ho{a:ao}{es:List (List AV×AV)}{k:List AV}(e:σ a=some (.dictT es))(hk:d_ k)(h:Q (.bool (bz es k).isSome) σ):eQ c d .In (.tup k) (.ref a) σ Q:=by
 refine _6 [.x _,.r _] λA Fz s P E G kk iv rx=>?_
 obtain⟨t,rfl,eL⟩:=_0f hk rx
 obtain⟨xs,hx,rk⟩:=_1q G.st e
 refine wpAny_in_heap (knd:=dT c.prog c.w) (_0Q G.room) eL (_1o G.base G.bs G.st e) hx ?_
 rw[show(atKey xs k).isSome=(bz es k).isSome from sC.symm.trans ((_0P xs k) ▸ (rk.look k).same)]
 exact kk.same G (.bool _) h
open Classical in
theorem _hp{a:ao}{es:List (List AV×AV)}{k:List AV}{x:AV}(e:σ a=some (.dictT es))(hk:d_ k)(hx:bz es k=some x)(h:Q x σ):gN c d (.ref a) (.tup k) σ Q:=by
 refine _6 [.r _,.x _] λA Fz s P E G kk iv rx=>?_
 obtain⟨t,rfl,eL⟩:=_0f hk rx
 obtain⟨xs,hxs,rk⟩:=_1q G.st e
 have hl:=rk.look k
 rw[hx,<-_0P] at hl
 cases q:atKey xs k with
 | none=>rw[q] at hl;exact hl.elim
 | some p=>
  rw[q] at hl
  exact _Q hxs.typeIs (λq=>nomatch q) slot_dict_getitem.lookup (wpAny_getItem_heap (knd:=dT c.prog c.w) (_0Q G.room) eL hxs q (kk.same G hl h))
theorem _2t{K:Type}[DecidableEq K]{xs:List (K×ao×ae)}{k:K}{a:ao}{v:ae}(hn:(xs.map (·.1)).Nodup):(storedH xs k a v).map (λx=>(x.1,x.2.2))=d9 (xs.map λx=>(x.1,x.2.2)) k v:=by
 rw[_3O (by rw[bf];exact hn),<-_0P]
 unfold storedH
 cases q:atKey xs k with
 | none=>exact aM
 | some p=>
  show(xs.map (putAt k v)).map _=(xs.map _).map _
  rw[bf,bf]
  refine bF λx _=>?_
  show(_,_)=ite _ _ _
  unfold putAt
  split <;> rfl
open Classical in
theorem _7c{h h':a_}{a:ao}{es es':List (List AV×AV)}{xs:List (List AV×ao×ae)}(S:St c.prog c.w Fz σ h)(e:σ a=some (.dictT es))(hs:bu a h h')(hd:h'.DictOfH (dT c.prog c.w) a xs)(r:RVk h' (xs.map λx=>(x.1,x.2.2)) es'):
  St c.prog c.w Fz (σ.set a (.dictT es')) h'/\de h h':=by
 refine S.write e hs ⟨xs,hd,?_,?_⟩
 ·have:=r.1;rw[bf] at this;exact this
 ·have:=r.2;rw[bf] at this;exact this
open Classical in
theorem _hq{a:ao}{es:List (List AV×AV)}{k:List AV}{x:AV}{Q:af->Prop}(e:σ a=some (.dictT es))(hk:d_ k)(hz:bp es.length)(h:Q (σ.set a (.dictT (d9 es k x)))):ct c d .setItem [(.ref a),(.tup k),x] σ λ_ aX=>Q aX:=by
 refine _6 [.r _,.x _,.x _] λA Fz s P E G kk iv rx vv rv=>_2e ?_
 obtain⟨t,rfl,eL⟩:=_0f hk rx
 obtain⟨xs,hxs,rk⟩:=_1q G.st e
 refine wpAny_setItem_heap (knd:=dT c.prog c.w) (_0Q G.room) eL hxs (λh' r7 hs=>?_) (_3R hz rk)
 have g0:=_2s hxs hs
 exact kk.to (_7c (es':=d9 es k x) G.st e hs r7 (by rw[_2t (_2r hxs)];exact(rk.grow g0).put k (rv.grow g0))) .none h
open Classical in
theorem _hr{a:ao}{es:List (List AV×AV)}{name:String}{id:String}{Q:AV->List AV->Prop}(slot:Slot "dict" (ab name) id)(vS:typeOf (.builtin id)=pure (.type "method_descriptor"))(e:σ a=some (.dictT es))(h:Q (.raw (.builtin id)) [.ref a]):e6 c d (.ref a) name σ Q:=by
 refine⟨λA Fz s v pl P E G r hP=>?_⟩
 obtain⟨xs,hd,rk⟩:=_1q G.st e
 rw[show v = .ref a from r]
 exact ie hd.typeIs jv slot vS (λb eb=>by
  cases eb
  obtain⟨o,_,_,ho,hc,_⟩:=hd
  exact⟨o,ho,hc.2.1⟩) (hP _ _ _ _ s (.refl s) (.raw _) (.one (.ref a)) h)
open Classical in
theorem _hs{a:ao}{es:List (List AV×AV)}{Q:AV->List AV->Prop}(e:σ a=some (.dictT es))(h:Q (.raw (.builtin "dict.setdefault")) [.ref a]):e6 c d (.ref a) "setdefault" σ Q:=_hr nI PySem.F.type_dict_setdefault e h
end
noncomputable def af.or(σ τ:af):af:=λa=>match σ a with
 | some c=>some c
 | none=>τ a
noncomputable def Disj(σ τ:af):Prop:=∀a c,σ a=some c->τ a=none
noncomputable def Sub(σ τ:af):Prop:=∀a c,σ a=some c->τ a=some c
noncomputable def af.off(σ τ:af):af:=λa=>match τ a with
 | some _=>none
 | none=>σ a
theorem _2u{σ τ:af}{a:ao}{ce:cG}(e:(σ.off τ) a=some ce):τ a=none/\σ a=some ce:=by
 unfold af.off at e
 cases q:τ a with
 | none=>rw[q] at e;exact⟨rfl,e⟩
 | some _=>rw[q] at e;exact _m e
theorem _7d{σ τ:af}{a:ao}{ce:cG}(e:σ.or τ a=some ce):σ a=some ce\/τ a=some ce:=by
 unfold af.or at e
 cases q:σ a with
 | none=>rw[q] at e;exact .inr e
 | some _=>rw[q] at e;exact .inl e
section
variable{c:Cx}{d d':Nat}{σ τ:af}{Q:AV->af->Prop}{o:OpK}{as:List AV}
theorem lH.down{A:bB}(h:lH A d')(l:d<=d'):lH A d:=⟨by have:=h.dep;exact _as l this,by have:=h.un;exact _at l this,h.hn⟩
theorem _ht(h:ct c d o as σ Q)(l:d<=d'):ct c d' o as σ Q:=⟨λA Fz s vs P E G=>h.run A Fz s vs P E ⟨G.room.down l,G.base,G.bs,G.st⟩⟩
theorem _7e{Q':AV->af->Prop}(h:ct c d o as σ Q')(k:∀v aX,Q' v aX->∃σ'',Sub σ'' aX/\Q v σ''):ct c d o as σ Q:=
 ⟨λA Fz s vs P E G r kk=>h.run A Fz s vs P E G r λv av aX s' S g rv q=>have⟨σ'',l,q⟩:=k _ _ q;kk v av σ'' s' (S.less l) g rv q⟩
theorem _hu(h:ct c d o as τ Q)(l:Sub τ σ):ct c d o as σ (λv aX=>∃τ',Q v τ'/\Disj τ' (σ.off τ)/\aX=τ'.or (σ.off τ)):=
 ⟨λA Fz s vs P E G r k=>by
  have S:=G.st
  refine h.run A (λa o=>Fz a o\/(∃ce,(σ.off τ) a=some ce)/\s.heap.get? a=some o) s vs P E ⟨G.room,G.base,λb o e=>.inl (G.bs b o e),λb o x=>x.elim (S.fz b o) (·.2),λa ce e=>S.cell a ce (l a ce e),λa ce o e x=>x.elim (S.apart a ce o (l a ce e)) ?_⟩ r ?_
  ·rintro⟨⟨c',e'⟩,_⟩
   rw[(_2u e').1] at e;exact _m e
  ·intro v av τ' s' S' g rv q
   refine k v av (τ'.or (σ.off τ)) s' ⟨λb o x=>S'.fz b o (.inl x),λa ce e=>?_,λa ce o e x=>?_⟩ g rv ⟨τ',q,λa ce e=>?_,rfl⟩
   ·exact(_7d e).elim (S'.cell a ce) λe=>(S.cell a ce (_2u e).2).move g.g λo ho=>S'.fz a o (.inr ⟨⟨ce,e⟩,ho⟩)
   ·exact(_7d e).elim (λe=>S'.apart a ce o e (.inl x)) λe=>S.apart a ce o (_2u e).2 x
   ·cases q:(σ.off τ) a with
    | none=>rfl
    | some c'=>
     obtain⟨o,ho⟩:=(S.cell a c' (_2u q).2).get
     exact absurd (.inr ⟨⟨c',q⟩,ho⟩) (S'.apart a ce o e)⟩
theorem _hv(h:ct c d' o as τ Q)(l:Sub τ σ)(ld:d'<=d){Q':AV->af->Prop}(k:∀v τ' aX,Q v τ'->Sub τ' aX->(∀a ce,τ a=none->σ a=some ce->aX a=some ce/\τ' a=none)->Q' v aX):ct c d o as σ Q':=
 _n (_ht (_hu h l) ld) λv aX ⟨τ',q,dj,e⟩=>by
  subst e
  refine k v τ' _ q (λa ce e=>by unfold af.or;rw[e]) λa ce e1 e2=>?_
  have e3:(σ.off τ) a=some ce:=by unfold af.off;rw[e1];exact e2
  have e4:τ' a=none:=by
   cases q:τ' a with
   | none=>rfl
   | some c'=>have:=dj a c' q;rw[e3] at this;exact _m this.symm
  exact⟨by unfold af.or;rw[e4];exact e3,e4⟩
end
section
variable{prog:bS}{w:cy}{K:Type}[DecidableEq K]{knd:u9 prog w K}{A:bB}{E:ae->ah->Prop}{s:ah}
theorem _hw{d a:ao}{xs:List (K×ao×ae)}{k:K}{v:ae}{Q:ae->ah->Prop}(hu:knd.room A)(eL:knd.is s.heap k a)(hm:s.heap.DictOfH knd d xs)(eX:xs.length<=b8)
  (h1:∀p,atKey xs k=some p->Q p.2 {s with toks:=s.toks+knd.draws k})
  (h2:atKey xs k=none->∀h',h'.DictOfH knd d (storedH xs k a v)->bu d s.heap h'->Q v {s with heap:=h',toks:=s.toks+knd.draws k}) :
  wpAny (model prog w) A (rH d (.ref a) v) Q E s:=by
 obtain⟨o,es,ep,ho,hc,hd,he,his,hn⟩:=hm
 unfold rH
 try with_reducible refine aS ?_
 refine aa (knd.pyHash hu eL ?_)
 refine aa (vL (s:={s with toks:=s.toks+knd.draws k}) hu eL ho hd he his hn ?_ ?_)
 ·intro h_
  have l9:=atKey_none_of_get h_
  have v6:k ∉ xs.map (·.1):=vM h_
  refine aa (gn (aa (uN (hz:=by have e:=size_of_entries he;exact _59 eX e) (s:={s with toks:=s.toks+knd.draws k}) ho hd (ad (h2 l9 _ ⟨_,_,ep+1,bR _ ho (ma (iB hd _)),
   hc.mapDictKeys _,iB hd _,?_,?_,?_⟩ (bn ..))))))
  ·rw[jW l9]
   simp[he,oE]
  ·rw[jW l9]
   intro x hx
   rcases aK.mp hx with hx | hx
   ·exact knd.keeps (his x hx) ho hd (bn ..)
   ·obtain rfl:=aj.mp hx
    exact knd.keeps eL ho hd (bn ..)
  ·rw[jW l9,aM,cg]
   refine⟨hn,by simp,λx hx y hy e=>v6 ?_⟩
   obtain rfl:=aj.mp hy
   exact e ▸ hx
 ·intro j p hj
  refine aa (jV (s:={s with toks:=s.toks+knd.draws k}) ho hd ?_)
  rw[entry_at he j,hj]
  exact aa (gn (ad (h1 p (o7 hn hj))))
theorem _hx(d a:ao)(hd:(d == sysModules)=false)(dflt:ae):
  MeetsIn prog w (Builtin.«dict.setdefault» ⟨[.ref d,.ref a,dflt],[]⟩) (λA R s=>knd.room A.in1/\∃k xs,knd.is s.heap k a/\s.heap.DictOfH knd d xs/\xs.length<=b8 /\
   (∀p,atKey xs k=some p->R (.ok (.ret p.2)) {s with toks:=s.toks+knd.draws k}) /\
   (atKey xs k=none->∀h',h'.DictOfH knd d (storedH xs k a dflt)->bu d s.heap h'->R (.ok (.ret dflt)) {s with heap:=h',toks:=s.toks+knd.draws k})):=
 .of_wp λA R s h=>by
  obtain⟨hu,k,xs,eL,hm,eX,h1,h2⟩:=h
  unfold Builtin.«dict.setdefault»
  refine aa ?_
  unfold Builtin.Dict.keyAndDefault
  refine aa (iE hm.typeIs (ad (a:=(d,Value.ref a,some dflt)) ?_))
  dsimp only
  rw[if_neg (by rw[hd];exact aR)]
  exact aa (m:=rH d (.ref a) dflt) (_hw hu eL hm eX (λp hp=>ad ⟨p.2,rfl,h1 p hp⟩) λhn h' qJ hs'=>ad ⟨dflt,rfl,h2 hn h' qJ hs'⟩)
end
section
variable{c:Cx}{d:Nat}{σ:af}{Q:AV->af->Prop}{A:bB}{E:ae->ah->Prop}{s:ah}{Fz:Fzn}
theorem ORV.of_some{h:a_}{v:ae}:∀{o:Option AV},ORV h (some v) o->∃y,o=some y/\RV h v y
 | .some y,q=>⟨y,rfl,q⟩
theorem ORV.of_none{h:a_}:∀{o:Option AV},ORV h none o->o=none
 | .none,q=>rfl
open Classical in
theorem _hy{a:ao}{es:List (List AV×AV)}{k:List AV}{x:AV}(e:σ a=some (.dictT es))(hk:d_ k)(hz:bp es.length)
  (h1:∀y,bz es k=some y->Q y σ) (h2:bz es k=none->Q x (σ.set a (.dictT (d9 es k x)))):br c d (.raw (.builtin "dict.setdefault")) [.ref a,.tup k,x] σ Q:=by
 refine _6 [.b _,.r _,.x _,.x _] λA Fz s P E G kk iv rx xv rd=>?_
 obtain⟨t,rfl,eL⟩:=_0f hk rx
 obtain⟨xs,hxs,rk⟩:=_1q G.st e
 have hl:=rk.look k
 rw[<-_0P] at hl
 refine call_meetsIn nI hxs.typeIs PySem.F.entry_dict_setdefault (PySem.F.args_dict_setdefault_3 _ _ _) (_hx (knd:=dT c.prog c.w) a t (_1o G.base G.bs G.st e) xv) ⟨_0Q G.room,k,xs,eL,hxs,_3R hz rk,λp hp=>?_,λhp h' r7 hs=>?_⟩
 ·rw[hp] at hl
  obtain⟨y,q,hl⟩:=ORV.of_some hl
  exact kk.same G hl (h1 y q)
 ·rw[hp] at hl
  have g0:=_2s hxs hs
  exact kk.to (_7c (es':=d9 es k x) G.st e hs r7 (by rw[_2t (_2r hxs)];exact(rk.grow g0).put k (rd.grow g0))) (rd.grow g0) (h2 (ORV.of_none hl))
end
section
variable{c:Cx}{d:Nat}{σ:af}{Q:AV->af->Prop}{A:bB}{E:ae->ah->Prop}{s:ah}{Fz:Fzn}
noncomputable def cJ(ns:List Int):List AV:=ns.map .int
theorem _3S{h:a_}{vs:List ae}{ns:List Int}(r:RVs h vs (cJ ns)):IntsAre vs ns:=by
 induction ns generalizing vs with
 | nil=>rw[show vs=[] from r];exact .nil
 | cons n ns ih=>
  obtain⟨_,_,rfl,⟨t,rfl⟩,rs⟩:=r
  exact .cons n t (ih rs)
theorem _2v{h:a_}{vs:List ae}{ns:List Int}(r:IntsAre vs ns):RVs h vs (cJ ns):=by
 induction r with
 | nil=>exact .nil
 | cons n t r ih=>exact .cons (RV.int n t) ih
theorem _7f{l:ao}{ns:List Int}(e:σ l=some (.list (cJ ns)))(hz:ns.length<64)(h:∀(m:ao) (ms:List Int),ms.Perm ns->ms.Pairwise (· <= ·)->σ m=none->Q (.ref m) (σ.set m (.list (cJ ms)))):br c d (.raw (.builtin "sorted")) [.ref l] σ Q:=by
 refine _6 [.b _,.r _] λA Fz s P E G kk=>?_
 obtain⟨its,n,hl,ri⟩:=_k G.st e
 have hI:=_3S ri
 refine sorted_ints (vs:=its.toList) (ns:=ns) hl.isList hI (jk (cm hI.length) hz) λout ms h1 h2 h3=>?_
 obtain⟨e',he⟩:=sortedAll_at s.heap its.toList out
 exact kk.new (G.st.new (c:=.list (cJ ms)) (a:=s.heap.objs.size+1) (λo ho=>Nat.lt_asymm (cD _) (bM ho)) (λb o=>sortedAll_old) ⟨out,e',he,_2v h1⟩) λm=>h m ms h2 h3
theorem _hz{a b:Int}(h:Q (.int (if b>a then b else a)) σ):br c d (.raw (.builtin "max")) [.int a,.int b] σ Q:=by
 refine _6 [.b _,.i _,.i _] λA Fz s P E G kk t u=>?_
 exact max_two_ints G.room.hn λh' tk k=>kk.keep G k (by split <;> exact .int _ _) h
theorem _hA{a b:Int}(h:Q (.int (if b<a then b else a)) σ):br c d (.raw (.builtin "min")) [.int a,.int b] σ Q:=by
 refine _6 [.b _,.i _,.i _] λA Fz s P E G kk t u=>?_
 exact min_two_ints G.room.hn λh' tk k=>kk.keep G k (by split <;> exact .int _ _) h
theorem _7g{l:ao}{ns:List Int}(S:St c.prog c.w Fz σ s.heap)(e:σ l=some (.list (cJ ns))):∃xs,s.heap.IsList l (intItems xs)/\xs.toList.map (·.1)=ns:=by
 obtain⟨its,n,hl,ri⟩:=_k S e
 have hI:=_3S ri
 obtain⟨xs,hx⟩:=(hI.allInts).items
 have h2:its=intItems xs:=by simpa using hx
 refine⟨xs,h2 ▸ hl.isList,?_⟩
 rw[<-nums_intItems,<-hI.numsOf,h2]
theorem _hB{l:ao}{ns:List Int}(e:σ l=some (.list (cJ ns)))(gK:ns≠[])(h:∀m,m∈ns->(∀a∈ns,a<=m)->Q (.int m) σ):br c d (.raw (.builtin "max")) [.ref l] σ Q:=by
 refine _6 [.b _,.r _] λA Fz s P E G kk=>?_
 obtain⟨xs,hl,rfl⟩:=_7g G.st e
 have eX:0<xs.size:=tO λq=>gK (by rw[Array.size_eq_zero_iff.mp q];rfl)
 refine max_intList G.room.hn hl eX λv h' tk hv hk=>?_
 obtain⟨t,rfl⟩:=intItems_at hv
 have b:=argBest_gt (numAt xs) (xs.size-1)
 have hl:(xs.toList.map (·.1)).length=xs.size:=(ac _).trans aw
 refine kk.keep G hk (.int _ t) (h _ ?_ λa ha=>?_)
 ·rw[numAt_eq];exact getD_mem (by rw[hl];(first | lia | omega))
 ·obtain⟨j,hj,rfl⟩:=mem_getD ha
  rw[hl] at hj
  rw[<-numAt_eq];exact b.2 j (by exact _au hj)
theorem _hC{l:ao}{ns:List Int}(e:σ l=some (.list (cJ ns)))(h:Q (.int ns.sum) σ):br c d (.raw (.builtin "sum")) [.ref l] σ Q:=by
 refine _6 [.b _,.r _] λA Fz s P E G kk=>?_
 obtain⟨xs,hl,rfl⟩:=_7g G.st e
 refine sum_intListG G.room.hn hl λh' tk t hk=>kk.keep G hk (av:=.int (xs.toList.map (·.1)).sum) ?_ h
 rw[preSum_eq,dE (cm ((ac _).trans aw))]
 exact .int _ t
noncomputable def qo(x:String):List AV:=x.toList.map λch=>.str (di ch)
theorem _7h{x:String}{i:Nat}{ch:Char}(h:x.toList[i]? = some ch):(ab x).cps[i]? = some ch.toNat:=by
 rw[dH]
 simp[h]
theorem _7i(ch:Char):ab (di ch)=⟨#[ch.toNat]⟩:=by
 rw[dH]
 simp
theorem _hD{x:String}{i:Int}{k:Nat}{ch:Char}(hi:kY i x.length=some k)(hx:x.toList[k]? = some ch)(hf : -(100000:Int)<=i/\i<=100000)(h:Q (.str (di ch)) σ):gN c d (.str x) (.int i) σ Q:=by
 refine _6 [.s _,.i _] λA Fz s P E G kk t1 t2=>?_
 refine _Q (typeIs_str s _ t1) (λq=>nomatch q) PySem.F.slot_str_getitem.lookup (PyProof.Rows.getItem_str (c:=ch.toNat) ?_ ?_ (kk.same G (.str _ _ _ (_7i ch).symm) h))
 ·simp only[lr,decide_eq_false_iff_not]
  constructor <;> (first | lia | omega)
 ·rw[ofString_len,hi]
  exact _7h hx
theorem _hE{x:String}{name:String}{id:String}{Q:AV->List AV->Prop}(slot:Slot "str" (ab name) id)(vS:typeOf (.builtin id)=pure (.type "method_descriptor"))(h:Q (.raw (.builtin id)) [.str x]):e6 c d (.str x) name σ Q:=by
 refine⟨λA Fz s v pl P E G r hP=>?_⟩
 obtain⟨t1,rfl⟩:=r
 exact ie (typeIs_str s _ t1) PySem.F.plainAttrs_str slot vS (λb eb=>nomatch eb) (hP _ _ _ _ s (.refl s) (.raw _) (.one (.str _ _ t1 rfl)) h)
theorem _hF{x:String}{Q:AV->List AV->Prop}(h:Q (.raw (.builtin "str.isspace")) [.str x]):e6 c d (.str x) "isspace" σ Q:=_hE o9 PySem.F.type_str_isspace h
theorem _hG{x:String}(h:Q (.bool (sA (ab x))) σ):br c d (.raw (.builtin "str.isspace")) [.str x] σ Q:=by
 refine _6 [.b _,.s _] λA Fz s P E G kk t1=>?_
 exact PySem.call_gives o9 (typeIs_str s _ t1) PySem.F.entry_str_isspace (PySem.F.args_str_isspace_1 _) (PySem.gives_str_isspace _ t1) (kk.same G (.bool _) h)
theorem _hH{x y:String}(h:Q (.bool !(i8 (ab x) (ab y) 0 (ab x).length 1).isEmpty) σ):eQ c d .In (.str y) (.str x) σ Q:=by
 refine _6 [.s _,.s _] λA Fz s P E G kk t u=>?_
 exact PyProof.Rows.in_str (kk.same G (.bool _) h)
theorem _7j{l:ao}{xs:List AV}{n:Nat}{Q:List AV->Prop}(e:σ l=some (.list xs))(hn:xs.length=n)(h:Q xs):f_ c d (.ref l) n σ Q:=by
 refine _h8 (λA Fz s v E P G r hP=>?_) (_0q e ⟨hn,e,h⟩)
 obtain⟨its,n',hl,ri⟩:=_k G.st e
 rw[show v = .ref l from r]
 unfold notIterableAtAll
 exact aa (fR hl.isList.typeIs PySem.F.slot_list_iter.lookup (ad hP))
end
section
variable{c:Cx}{d:Nat}{σ:af}{Q:AV->af->Prop}{A:bB}{E:ae->ah->Prop}{s:ah}{Fz:Fzn}
theorem _7k{h:a_}{a:ao}{x:Str}{t:Tok}{i:Nat}{o:iF}(y:h.IsStrIter a "str_ascii_iterator" x t i)(e:h.get? a=some o):¬dY o:=by
 obtain⟨o',e',hc,hd⟩:=y
 rw[e] at e';cases e'
 rintro(⟨h1,_⟩ | ⟨h1 | h1,_⟩) <;> (rw[hc] at h1;injection h1 with h1;exact absurd h1 (by decide))
theorem _3T{x:String}{i:Nat}:(qo x)[i]? = (x.toList[i]?).map λch=>.str (di ch):=by simp[qo]
noncomputable def StrI(it:ao)(x:String)(t:Tok)(rest:List AV)(h:a_):Prop:=∃i,h.IsStrIter it "str_ascii_iterator" (ab x) t i/\rest=(qo x).drop i
theorem _hI{it:ao}{x:String}{t:Tok}:jE c d false (.ref it) (λa=>a=it) (StrI it x t) (λ_=>StrI it x t) (λ_=>True) where
 there:=λl h ⟨i,⟨o,e,_⟩,_⟩ a q=>⟨o,q ▸ e⟩
 still:=λl h h' ⟨i,⟨o,e,r⟩,q⟩ k g=>⟨i,⟨o,k _ _ rfl e,r⟩,q⟩
 again:=λA l s R E hr ⟨i,hi,_⟩ h=>wpAny_pyIter_striter_ascii hi h
 next:=λA Fz σ rest=>match rest with
  | []=>λs R E G hk hf jb hP hR=>by
   obtain⟨i,hi,e⟩:=hP
   have hn:=_73 e.symm
   rw[_3T,jO] at hn
   have hx:(ab x).cps[i]? = none:=by
    rw[dH,kO,aQ,hn];rfl
   refine wpAny_pyNext_ascii_end G.room.hn hi hx λh' he=>?_
   obtain⟨o,ho,_⟩:=id hi
   have u:=G.st.extWrite1 (λo=>hf it o rfl) (jb it rfl) he ho (_7k hi ho)
   exact hR none _ u.1 ⟨u.2,rfl,rfl⟩ rfl
  | y::r=>λs R E G hk hf jb hP hR=>by
   obtain⟨i,hi,e⟩:=hP
   obtain⟨h1,h2⟩:=_0d e.symm
   rw[_3T,bt] at h1
   obtain⟨ch,q,hy⟩:=h1
   refine wpAny_pyNext_ascii_item hi (_7h q) λh' lI hs=>?_
   obtain⟨o,ho,_⟩:=id hi
   have u:=G.st.apartWrite (λo=>hf it o rfl) (jb it rfl) hs ho (_7k hi ho)
   exact hR (some _) _ u.1 ⟨u.2,rfl,rfl⟩ ⟨_,rfl,hy ▸ .str _ _ _ (_7i ch).symm,i+1,lI,h2.symm⟩
 letGo:=λA Fz σ l s v t R E _ hr S hf jb hP hR=>by
  obtain⟨o,ho,hc,_⟩:=hP.choose_spec.1
  exact _1d ho hc (by decide) (hR s S (.refl _) hP)
theorem _hJ{x:String}{Q:List AV->(af->Prop)->Prop}(ha:(x.toList.all λch=>decide (ch.toNat<128))=true)(h:Q (qo x) (λ_=>True)):fH c d (.str x) σ Q:=by
 refine⟨λA Fz s v R E G r k=>?_⟩
 replace k:=λit ai P s'=>k it ai P s' _ _ h
 obtain⟨t1,rfl⟩:=r
 refine wpAny_pyIter_ascii (by rw[dH,List.all_toArray,List.all_map];exact ha) ?_
 exact k (.ref s.heap.objs.size) (λa=>a=s.heap.objs.size) _ _ (G.st.push _) (_p s.heap _) (cR.push s _) (λa o q=>q ▸ _a _ _) (_hI (x:=x) (t:=t1)) ⟨0,⟨_,aH _ rfl,rfl,rfl⟩,rfl⟩
end
theorem Ris.lt{xs:Array Nat}(h:Ris xs){i j:Nat}(jN:i<j)(hj:j<xs.size):xs.getD i 0<xs.getD j 0:=by
 have:=bZ.mp h i j (by simpa using cN jN hj) (by simpa using hj) jN
 simpa [dO,hj,cN jN hj] using this
theorem Ris.mono{xs:Array Nat}(h:Ris xs){i j:Nat}(jN:i<=j)(hj:j<xs.size):xs.getD i 0<=xs.getD j 0:=by
 rcases bX i j with q | q
 ·exact eV (h.lt q hj)
 ·have:i=j:=by exact _av jN q
  subst this;exact aD _
theorem _hK(xs:Array Nat){i:Nat}(h:i<xs.size)(a b:Nat):xs.getD i a=xs.getD i b:=by simp[dO,h]
theorem _3U{xs:Array Nat}(h:Ris xs)(j:Nat):∀(fuel lo hi:Nat),hi<=xs.size->lo<=hi->hi-lo<=fuel->(∀k,k<lo->xs.getD k 0<j)->(∀k,hi<=k->k<xs.size->j<=xs.getD k 0) ->
  ig xs j fuel lo hi<=xs.size/\(∀k,k<ig xs j fuel lo hi->xs.getD k 0<j)/\(∀k,ig xs j fuel lo hi<=k->k<xs.size->j<=xs.getD k 0)
 | 0,lo,hi,h1,h2,h3,h4,h5=>by
  have:lo=hi:=by exact _aw h2 h3
  subst this
  exact⟨h1,h4,h5⟩
 | fuel+1,lo,hi,h1,h2,h3,h4,h5=>by
  unfold ig
  by_cases q:lo < hi
  ·rw[if_pos q]
   have hm:(lo+hi) / 2<hi:=by exact _ax q
   have re:lo<=(lo+hi) / 2:=by exact _ay hm
   have qI:(lo+hi) / 2<xs.size:=by exact _az h1 hm
   dsimp only
   rw[_hK xs qI j 0]
   by_cases fO:xs.getD ((lo+hi) / 2) 0 < j
   ·rw[if_pos fO]
    refine _3U h j fuel _ _ h1 (by exact _aA hm) (by exact _5a h3) (λk hk=>?_) h5
    exact jk (h.mono (by exact _5b hk:k<=(lo+hi) / 2) qI) fO
   ·rw[if_neg fO]
    have xd:=fO
    refine _3U h j fuel _ _ (by exact _aB qI) re (by exact _5c h3) h4 (λk hk oY=>?_)
    exact ay (dD xd) (h.mono hk oY)
  ·rw[if_neg q]
   have:lo=hi:=by exact _aC h2 q
   subst this
   exact⟨h1,h4,h5⟩
theorem _1r{xs:Array Nat}(h:Ris xs)(j:Nat):ba xs j<=xs.size/\(∀k,k<ba xs j->xs.getD k 0<j)/\(∀k,ba xs j<=k->k<xs.size->j<=xs.getD k 0):=
 _3U h j _ _ _ (aD _) (b0 _) (by exact _aD) (λk hk=>absurd hk (ca _)) (λk hk oY=>absurd oY (gJ.mpr hk))
theorem _hL{xs:Array Nat}(h:Ris xs):ba xs 0=0:=by
 have:=(_1r h 0).2.1
 rcases Nat.eq_zero_or_pos (ba xs 0) with q | q
 ·exact q
 ·exact absurd (this 0 q) (ca _)
theorem _hM{xs:Array Nat}(h:Ris xs){i:Nat}(hi:i<xs.size):ba xs (xs.getD i 0+1)=i+1:=by
 obtain⟨h1,h2,h3⟩:=_1r h (xs.getD i 0+1)
 rcases d7 (ba xs (xs.getD i 0+1)) (i+1) with q | q | q
 ·have:=h3 i (by exact _0E q) hi
  exact(_aE this).elim
 ·exact q
 ·have a:=h2 (i+1) q
  have b:=h.lt (show i<i+1 by exact _5d) (by exact _aF h1 q)
  exact(_aG a b).elim
theorem _7l{xs:Array Nat}(h:Ris xs){j:Nat}(hj:xs[ba xs j]? ≠ some j):Ris (gB xs (ba xs j) j):=by
 obtain⟨h1,h2,h3⟩:=_1r h j
 unfold Ris gB
 rw[gf,eO,ip,ip]
 have hp:=bZ.mp h
 have ht:∀a∈xs.toList.take (ba xs j),a<j:=by
  intro a ha
  obtain⟨k,hk,rfl⟩:=lh.mp ha
  simp only[cX,aw] at hk
  have:=h2 k (by exact _aH hk)
  have kH:k<xs.size:=by exact _aI hk
  simpa [dO,kH] using this
 have hd:∀a∈xs.toList.drop (ba xs j),j<a:=by
  intro a ha
  obtain⟨k,hk,rfl⟩:=lh.mp ha
  simp only[jQ,aw] at hk
  have kH:ba xs j+k<xs.size:=by exact _aJ h1 hk
  have h4:=h3 (ba xs j+k) (by exact _5e) kH
  have e:xs.getD (ba xs j+k) 0=xs[ba xs j+k]:=by simp[dO,kH]
  rw[e] at h4
  rw[List.getElem_drop,iq]
  rcases bX j xs[ba xs j+k] with q | q
  ·exact q
  ·exfalso
   have hb:ba xs j<xs.size:=by exact _aK kH
   have h5:=h3 _ (aD _) hb
   have h6:=h.mono (by exact _5e:ba xs j<=ba xs j+k) kH
   rw[e] at h6
   have e2:xs.getD (ba xs j) 0=xs[ba xs j]:=by simp[dO,hb]
   rw[e2] at h5 h6
   exact hj (by rw[aW hb];congr 1;exact _aL q h5 h6)
 have uC:(xs.toList.extract 0 (ba xs j))=xs.toList.take (ba xs j):=by simp[gb]
 have sK:(xs.toList.extract (ba xs j) xs.size)=xs.toList.drop (ba xs j):=by
  rw[gb]
  exact dE (by simp)
 rw[uC,sK,aZ,sc]
 refine⟨h.sublist (List.take_sublist _ _),?_,?_⟩
 ·rw[kN,sU]
  exact⟨λa ha=>hd a ha,h.sublist (List.drop_sublist _ _)⟩
 ·intro a ha b hb
  rcases aK.mp hb with hb | hb
  ·obtain rfl:=aj.mp hb;exact ht a ha
  ·exact cN (ht a ha) (hd b hb)
theorem _2w(n:Nat):Ris (Array.range n):=by
 unfold Ris
 rw[Array.toList_range]
 exact qO
theorem _hN{t:SetTable}(h:Ris t.place)(n:Nat):Ris (t.orStandIn n).place/\(t.orStandIn n).led=t.led:=by
 unfold SetTable.orStandIn
 split
 ·exact⟨h,rfl⟩
 ·exact⟨_2w n,rfl⟩
theorem _3V{t:SetTable}(hashAt:Nat->Int)(h:Int):∀(fuel:Nat) (p:sT) (j:Nat) (dm:Option Nat),o8 t hashAt h fuel p=some (.empty j dm)->(∀q,p.dummy=some q->t.slot q = .dummy)->t.slot j = .empty/\∀q,dm=some q->t.slot q = .dummy
 | 0,p,j,dm,e,_=>by cases e
 | fuel+1,p,j,dm,e,hp=>by
  unfold o8 at e
  have adv:∀(p:sT),(t.advance p).dummy=p.dummy:=by
   intro p;unfold r_;split <;> rfl
  cases q:t.slot p.j with
  | empty=>rw[q] at e;cases e;exact⟨q,hp⟩
  | dummy=>
   rw[q] at e
   refine _3V hashAt h fuel _ j dm e λz hz=>?_
   rw[adv] at hz;cases hz;exact q
  | live i=>
   rw[q] at e
   dsimp only at e
   split at e
   ·cases e
   ·exact _3V hashAt h fuel _ j dm e λz hz=>by rw[adv] at hz;exact hp z hz
theorem _hO{t:SetTable}{j:Nat}(h:∀i,t.slot j ≠ .live i):t.place[ba t.place j]? ≠ some j:=by
 intro e
 unfold oO at h
 dsimp only at h
 rw[if_pos (by rw[e];simp)] at h
 exact h _ rfl
theorem _hP{t:SetTable}{h:Int}{j:Nat}{b:Bool}(e:t.freeSlot h=some (j,b)):t.place[ba t.place j]? ≠ some j:=by
 unfold SetTable.freeSlot at e
 split at e
 ·rename_i j' dm he
  obtain⟨h1,h2⟩:=_3V _ _ _ _ _ _ he (λq hq=>by cases hq)
  refine _hO λi=>?_
  simp only[gp,pb] at e
  cases dm with
  | none=>obtain⟨rfl,_⟩:=e;simp[h1]
  | some q=>obtain⟨rfl,_⟩:=e;simp[h2 q rfl]
 ·cases e
theorem _hQ{t:SetTable}(hr:Ris t.place)(es:Array (Int×ae))(h:Int)(x:ae):Ris (layNew t es h x).2.1.place/\(layNew t es h x).2.1.led=t.led:=by
 unfold layNew
 split
 ·rename_i slot wd he
  exact _hN (t:=(t.put slot).1) (_7l hr (_hP he)) _
 ·exact⟨_2w _,rfl⟩
theorem _hR{t:SetTable}(hr:Ris t.place)(es:Array (Int×ae))(th:Nat):Ris (o6 t es th).2.1.place/\(o6 t es th).2.1.led=t.led:=by
 unfold o6
 split
 ·rename_i t' order he
  dsimp only
  have key:Ris t'.place/\t'.led=t.led:=by
   unfold sB oP at he
   simp only[rL,Option.bind_eq_some_iff,Option.pure_def,gp,pb] at he
   obtain⟨owner,ho,h1,h2⟩:=he
   subst h1
   refine⟨?_,rfl⟩
   unfold Ris
   dsimp only
   have gen:∀(l:List Nat),l.Pairwise (· < ·)->((l.filterMap λj=>(owner.getD j none).map λx=>(j,x)).map (·.1)).Pairwise (· < ·):=by
    intro l hl
    have hs:∀l:List Nat,(((l.filterMap λj=>(owner.getD j none).map λx=>(j,x)).map (·.1))).Sublist l:=by
     intro l
     induction l with
     | nil=>exact .slnil
     | cons a l ih=>
      rw[dI]
      cases owner.getD a none with
      | none=>exact .cons _ ih
      | some x=>exact .cons_cons _ ih
    exact hl.sublist (hs l)
   simpa using gen (aV _) qO
  split
  ·exact key
  ·exact⟨_2w _,rfl⟩
 ·exact⟨_2w _,rfl⟩
section
variable{prog:bS}{w:cy}{A:bB}{E:ae->ah->Prop}{s:ah}
theorem _7m{e:Int×ae}{es:List (Int×ae)}(h:pf (intKind prog w) es)(he:e∈es):∃k t,e=((intKind prog w).hash k,.int k t):=by
 obtain⟨⟨k,hk,hh⟩,_⟩:=h e he
 exact(_79 hk).elim λt q=>⟨k,t,gO hh q⟩
theorem _7n{e:Int×ae}{es:List (Int×ae)}(h:pf (intKind prog w) es)(he:e∈es)(k:Int):(intKind prog w).is k e.2=decide (iK e.2=k):=by
 obtain⟨k',t,rfl⟩:=_7m h he
 show(k' == k)=decide (k'=k)
 by_cases q:k'=k
 ·subst q;simp
 ·rw[beq_false_of_ne q,decide_eq_false q]
theorem qp.size{o:iF}{es:Array (Int×ae)}{ep:Nat}{t:SetTable}{l:List Int}(B:qp prog w l o es ep t):es.size=l.length:=by rw[<-B.eq,ac,aw]
theorem _7o{a:ao}{o:iF}{es:Array (Int×ae)}{ep:Nat}{t:SetTable}{es':Array (Int×ae)}{t':SetTable}{l:List Int}{Q:Unit->ah->Prop}(ho:s.heap.get? a=some o)(ss:o.ExactSet)(hd:o.data = .set es ep t)
  (tC:pf (intKind prog w) es'.toList) (hl:es'.toList.map (λe=>iK e.2)=l) (hn:l.Nodup) (hb:l.length<fj) (hf:t'.fits es'.size=true) (hr:Ris t'.place) (jI:w.params.followText "set-order" = false->t'.led=true)
  (h:∀h' o',bu a s.heap h'->h'.get? a=some o'->qp prog w l o' es' (ep+1) t'->Q () {s with heap:=h'}):wpAny (model prog w) A (o4 a es' t') Q E s:=by
 have eX:es'.size=l.length:=by rw[<-hl,ac,aw]
 refine wpAny_storeSet_of ho hd (h _ {o with data:=.set es' (ep+1) t'} (bn s.heap a _) ?_ ⟨ss,rfl,tC,hl,hn,hb,hf,hr,jI⟩) (fits_of_scanBound (by exact _aM hb eX))
 have:=bR (tN es' t') ho (by rw[sM es' t' hd];rfl)
 rw[sM es' t' hd] at this
 exact this
theorem _7p(b:Bool){Q':Unit->ah->Prop}(hq:Q' () s):wpAny (model prog w) A (match b with | true=>rule "set.scan.the-table-gave-way" | false=>pure ()) Q' E s:=by
 cases b
 ·exact ad hq
 ·exact gn hq
theorem _7q{a:ao}{o:iF}{es nQ:Array (Int×ae)}{ep:Nat}{tb t2:SetTable}{l:List Int}{wd:Bool}{R:Option Bool->ah->Prop}(ho:s.heap.get? a=some o)(B:qp prog w l o es ep tb)(tC:pf (intKind prog w) nQ.toList)
  (hn:(nQ.toList.map λe=>iK e.2).Nodup) (hb:(nQ.toList.map λe=>iK e.2).length<fj) (h1:t2.fits nQ.size=true) (h2:Ris t2.place) (h3:t2.led=tb.led)
  (h:∀h' l',bu a s.heap h'->kl prog w h' a l'->l'.Perm (nQ.toList.map λe=>iK e.2)->R (some true) {s with heap:=h'}):wpAny (model prog w) A (do
    o4 a nQ t2
    if(!wd&&t2.tooFull)=true then do
      (match(o6 t2 nQ (fG nQ.size)).2.2 with | true=>rule "set.scan.the-table-gave-way" | false=>pure ())
      o4 a (o6 t2 nQ (fG nQ.size)).1 (o6 t2 nQ (fG nQ.size)).2.1
      pure (some true)
     else pure (some true)) R E s:=by
 refine aa (_7o ho B.ex B.dat tC rfl hn hb h1 h2 (λq=>h3 ▸ B.led q) λh' o' e1 e2 B2=>?_)
 split
 ·have qG:=relayAll_perm t2 nQ (fG nQ.size)
  have r2:=_hR h2 nQ (fG nQ.size)
  have xz:=qG.map λe:Int×ae=>iK e.2
  exact aa (_7p _ (aa (_7o (s:={s with heap:=h'}) e2 B2.ex B2.dat (tC.perm qG) rfl (xz.nodup_iff.mpr hn) (by rw[xz.length_eq];exact hb) (relayAll_fits t2 nQ (fG nQ.size)) r2.1 (λq=>r2.2 ▸ h3 ▸ B.led q)
   λh'' o'' f1 f2 B3=>ad (h h'' _ (e1.trans f1) ⟨_,_,_,_,f2,B3⟩ xz))))
 ·exact ad (h h' _ e1 ⟨_,_,_,_,e2,B2⟩ (.refl _))
theorem _hS{a:ao}{l:List Int}{k:Int}{t:Tok}{Q:Bool->ah->Prop}(hS:kl prog w s.heap a l)(hb:l.length+1<fj)
  (h:∀h' l' b,bu a s.heap h'->kl prog w h' a l'->l'.Perm (if k∈l then l else l++[k])->Q b {s with heap:=h'}) :
  wpAny (model prog w) A (o5 a (.int k t) ((intKind prog w).hash k)) Q E s:=by
 obtain⟨o,es,ep,tb,ho,B⟩:=id hS
 have eL:(intKind prog w).is k (.int k t)=true:=by simp[intKind,k5]
 unfold o5 setAddHashedIn
 refine aS (aa (bG ho B.dat B.fit ?_))
 dsimp only
 have eX:=B.size
 have uI:=B.few
 rw[byScan_of (knd:=intKind prog w) rfl (by exact _aN hb eX) B.el,if_pos rfl]
 unfold setAddByScan
 refine aa (aa (gn (aa (wpAny_setScan_of eL ho B.dat B.fit B.el ?_))))
 cases hq:List.findIdx? (λe=>(intKind prog w).is k e.2) es.toList with
 | some j=>
  dsimp only
  obtain⟨hj,hpj,_⟩:=List.findIdx?_eq_some_iff_getElem.mp hq
  have iA:k∈l:=by
   rw[<-B.eq,aq]
   exact⟨es.toList[j],bO hj,of_decide_eq_true ((_7n B.el (bO hj) k).symm.trans hpj)⟩
  exact ad (ad (h s.heap l false (qa a s.heap) hS (by rw[if_pos iA])))
 | none=>
  dsimp only
  have uF:k ∉ l:=by
   rw[<-B.eq,aq]
   exact λx=>x.elim λe x=>nomatch (List.findIdx?_eq_none_iff.mp hq e x.1).symm.trans ((_7n B.el x.1 k).trans (decide_eq_true x.2))
  have js:=layNew_perm tb es ((intKind prog w).hash k) (.int k t)
  have qy:=layNew_fits tb es ((intKind prog w).hash k) (.int k t)
  obtain⟨sm,hledn⟩:=_hQ B.ris es ((intKind prog w).hash k) (.int k t)
  generalize layNew tb es ((intKind prog w).hash k) (.int k t)=L at js qy sm hledn ⊢
  obtain⟨nQ,t1,wd,gave⟩:=L
  dsimp only at js qy sm hledn ⊢
  rw[eO] at js
  have vY:(nQ.toList.map λe=>iK e.2).Perm (l++[k]):=(js.map _).trans (by rw[aM,B.eq];exact .refl _)
  have wV:pf (intKind prog w) nQ.toList:=(B.el.push eL rfl).perm js
  have tZ:(nQ.toList.map λe=>iK e.2).Nodup:=vY.nodup_iff.mpr ((jc k l).nodup_iff.mpr (bC.mpr ⟨uF,B.nd⟩))
  have xg:(nQ.toList.map λe=>iK e.2).length<fj:=by rw[vY.length_eq,am];exact hb
  have fin:∀b h' l',bu a s.heap h'->kl prog w h' a l'->l'.Perm (nQ.toList.map λe=>iK e.2)->Q b {s with heap:=h'}:=λb h' l' e1 e2 e3=>h h' l' b e1 e2 (by rw[if_neg uF];exact e3.trans vY)
  refine aa (_7p _ ?_)
  split
  ·refine aa ?_
   rw[hashByValue_scannable 8 rfl]
   refine ad (_7q ho B wV tZ xg ?_ ?_ ?_ λh' l' e1 e2 e3=>ad (fin true h' l' e1 e2 e3))
   ·split
    ·exact qy
    ·exact SetTable.fits_plain_off qy
   ·split <;> exact sm
   ·split <;> exact hledn
  ·exact aa (ad (_7q ho B wV tZ xg qy sm hledn λh' l' e1 e2 e3=>ad (fin true h' l' e1 e2 e3)))
end
structure oX(s s':ah):Prop where
 os:s'.os=s.os
 gens:s'.gens=s.gens
theorem _3W{α:Type}[DecidableEq α]:∀{l m:List α},l.Nodup->(∀x∈l,x∈m)->l.length<=m.length
 | [],m,_,_=>b0 _
 | a::l,m,hn,hs=>by
  rw[bC] at hn
  have ha:=hs a aE
  have:=_3W (l:=l) (m:=m.erase a) hn.2 λx hx=>by
   have gK:x≠a:=λe=>hn.1 (e ▸ hx)
   rw[lj gK]
   exact hs x (aA _ hx)
  rw[dU ha] at this
  have:=eh ha
  rw[aP];(first | lia | omega)
section
variable{prog:bS}{w:cy}{A:bB}{R:pY->ah->Prop}{I:ao}{fp wr:List ao}{G:Array u_->Array u_->Prop}{P:Nat->ae->Prop}{St:Nat->ah->Prop}
theorem _hT{n:Nat}(W:WalksS prog w A.in1 I fp wr G n P St)(S:ao)(t5:S ∉ fp)(J:Nat->a_->Prop)(mv:∀i (s s':ah),St i s->Moved wr G s s'->J i s.heap->J i s'.heap)
  (add:∀i v (s:ah) (Q:Bool->ah->Prop) E,P i v->J i s.heap->(∀h' tk b,bu S s.heap h'->J (i+1) h'->s.toks<=tk->Q b {s with heap:=h',toks:=tk})->wpAny (model prog w) A.in1 (setAdd S v) Q E s) :
  ∀(r i:Nat) (s:ah),n-i=r->i<=n->St i s->J i s.heap->(∀s',Moved (S::wr) G s s'->J n s'.heap->R (.ok (.ret .none)) s') ->
   codeAny (model prog w) A (.builtin "set.update.loop" ⟨[.ref S,.ref I],[]⟩) R s:=by
 have nD:∀b∈wr,b∈S::wr:=λb hb=>aA _ hb
 intro r
 induction r with
 | zero=>
  intro i s hk hi hst hS hR
  have iA:i=n:=by exact _1V hk hi
  subst iA
  refine dP se ?_
  rw[cQ kD _]
  show wpAny _ A.in1 (pyNext (.ref I) >>= _) _ _ s
  refine aa (W.done s _ _ hst λs' hm=>?_)
  show wpAny _ A.in1 (ret Value.none) _ _ s'
  exact ad (hR s' (hm.mono nD) (mv _ _ _ hst hm hS))
 | succ r ih=>
  intro i s hk hi hst hS hR
  have fO:i<n:=by exact _1W hk hi
  refine dP se ?_
  rw[cQ kD _]
  show wpAny _ A.in1 (pyNext (.ref I) >>= _) _ _ s
  refine aa (W.item i s _ _ fO hst λv s' hP hst' hm=>?_)
  have rB:J i s'.heap:=mv i s s' hst hm hS
  show wpAny _ A.in1 (holding [v] (setAdd S v) >>= _) _ _ s'
  refine aa (aS (add i v s' _ _ hP rB λh' tk b sk hS2 htk=>?_))
  refine ad ⟨e7 kD _,ih (i+1) _ (by exact _16 hk) fO (W.frame _ s' _ _ hst' htk λb hb o e=>?_) hS2 λkT hm'' hS''=>?_⟩
  ·rw[sk.2 b (λh:b=S=>t5 (by rw[<-h];exact hb))];exact e
  ·refine hR kT (Moved.trans W.gtrans ((hm.mono nD).then_heap htk λb o hb e=>?_) hm'') hS''
   rw[sk.2 b (λh:b=S=>hb (by rw[h];exact aE))];exact e
end
section
variable{prog:bS}{w:cy}{A:bB}{E:ae->ah->Prop}{s:ah}
noncomputable def fZ(w:cy):iF:={cls:=.type "set", dict:=none,data:=.set #[] 0 (.fresh 0 0 (!w.params.followText "set-order"))}
theorem _hU(a:ae){Q₁:ae->ah->Prop}(h:Q₁ (.ref s.heap.objs.size) {s with heap:=s.heap.push (fZ w)}):
  codeAny (model prog w) A (.call (.builtin "set.__new__") ⟨[.type "set", a],[]⟩) (wants Q₁ E) s:=by
 refine codeAny_of_tree ?_
 show wpAny _ A.in1 (do checkBuiltinCall "set.__new__" ⟨[.type "set", a],[]⟩;again (.builtin "set.__new__" ⟨[.type "set", a],[]⟩)) _ _ s
 refine aa (qc (F.newCall_set_1 a) (ad ⟨e7 F.plain_set_new _,dP F.entry_set_new ?_⟩))
 rw[cQ F.plain_set_new _]
 unfold Builtin.«set.__new__» vf
 have nD:=sub_set_self
 obtain⟨hp,g,d,tk,os⟩:=s
 dsimp only
 wp_walk
 refine fg (ad ?_)
 dsimp only
 simp only[newObj]
 refine aa (wpAny_alloc (ad ?_))
 exact ad h
theorem _hV{h:a_}{a:ao}(e:h.get? a=some (fZ w)):kl prog w h a []:=
 ⟨_,#[],0,_,e,⟨rfl,rfl,rfl⟩,rfl,λ_ he=>by simp at he,rfl,.nil,by unfold fj;simp,rfl,.nil,λq=>by show(!_)=true;rw[q];rfl⟩
theorem _7r{s s':ah}{P:ah->Prop}(a:s'.gens=s.gens)(b:s'.drawn=s.drawn)(c:s'.os=s.os)(h:P {s with heap:=s'.heap,toks:=s'.toks}):P s':=by
 obtain⟨h',g',d',tk',os'⟩:=s'
 cases a;cases b;cases c
 exact h
noncomputable def uy(prog:bS)(w:cy)(s:ah)(r:ao)(n:Nat)(PV:(Nat->ae->Prop)->Prop):Prop:=∀A E (s1:ah) (Q':ae->ah->Prop),(∀b o,s.heap.get? b=some o->s1.heap.get? b=some o)->(∀I fp P St s',(∀A',A'.handled=none->sR prog w A' I fp [I] n P St)->St 0 s'.heap->(∀b o,s1.heap.get? b=some o->s'.heap.get? b=some o)->oX s1 s'->s'.drawn=s1.drawn->(∀o,s1.heap.get? I≠some o)->(∀b∈fp,b=r\/(∃o,s.heap.get? b=some o)\/∀o,s1.heap.get? b≠some o)->(∀i h o,St i h->h.get? I=some o->¬dY o)->PV P->Q' (.ref I) s')->wpAny (model prog w) A (pyIter (.ref r)) Q' E s1
theorem _7s{l:ao}{items:Array ae}{PV:(Nat->ae->Prop)->Prop}(hl:s.heap.IsList l items)(pv:PV λi v=>items[i]? = some v):uy prog w s l items.size PV:=λA E s1 Q' kp k=>by
 obtain⟨o,ho,hr⟩:=hl
 have wM:s1.heap.IsList l items:=⟨o,kp _ _ ho,hr⟩
 have xb:l<s1.heap.objs.size:=bM (kp _ _ ho)
 refine o3 wM (k s1.heap.objs.size [s1.heap.objs.size,l] _ _ _ (λA' hA=>Walks.list hA s1.heap.objs.size l (bQ xb) items) ⟨⟨_,aH _ rfl,rfl,rfl⟩,wM.push _⟩ (λb o e=>aG _ e) ⟨rfl,rfl⟩ rfl (_a _) (λb hb=>?_) (λi h o st ho=>?_) pv)
 ·exact(aO.mp hb).elim (λe=>.inr (.inr (e ▸ _a _))) λhb=>.inl (aj.mp hb)
 ·obtain⟨o2,e2,rq,_⟩:=st.1
  obtain rfl:=aB (ho.symm.trans e2)
  exact _O ho rq (by decide) ho
set_option maxHeartbeats 3200000 in
theorem _7t{r:ao}{T:String}{n:Nat}{PV:(Nat->ae->Prop)->Prop}{J:Nat->a_->Prop}{Q:ae->ah->Prop}(hh:A.handled=none)(hT:s.TypeIs (.ref r) T)
  (hs1:nr (.type T) (.type "set")=pure false) (hs2:nr (.type T) (.type "frozenset")=pure false) (hJ:(Value.type T == Value.type "dict")=false)
  (iter:uy prog w s r n PV)
  (j0:∀h',(∀b o,(s.heap.push (fZ w)).get? b=some o->h'.get? b=some o)->J 0 h')
  (mv:∀i (I:ao) (h h':a_),I≠s.heap.objs.size->(∀b o,s.heap.get? b=some o->b≠I)->(∀o,h.get? I=some o->¬dY o)->(∀b o,b≠I->h.get? b=some o->h'.get? b=some o)->J i h->J i h')
  (add:∀i v P (A':bB) (s':ah) (Q:Bool->ah->Prop) E,A'.units<=A.units+3->PV P->P i v->J i s'.heap->(∀h' tk b,bu s.heap.objs.size s'.heap h'->J (i+1) h'->s'.toks<=tk->Q b {s' with heap:=h',toks:=tk})->wpAny (model prog w) A' (setAdd s.heap.objs.size v) Q E s')
  (h:∀(h':a_) (tk:Nat),J n h'->(∀b o,s.heap.get? b=some o->h'.get? b=some o)->Q (.ref s.heap.objs.size) {s with heap:=h',toks:=tk}) :
  wpAny (model prog w) A (call (.type "set") [.ref r]) Q E s:=by
 obtain⟨c,tl,hmro⟩:=F.called_set.mro
 have hmade:=F.called_set.made
 have nD:=F.called_set.sub
 refine rC (codeAny_of_tree ?_)
 show wpAny _ _ (callAny (.type "set") _) _ _ _
 refine ad ⟨Code.quiet_builtin _ (by decide +kernel),dP F.entry_type_call ?_⟩
 rw[Around.under_plain (weight_type_call_type "set" [.ref r] []) rfl]
 have h1:=F.called_set.notType
 have h2:=F.called_set.canCreate
 have hct:=F.typeCall_set_1 (.ref r)
 repeat (any_goals (first | assumption | wp_step))
 refine tK (_hU (.ref r) (E:=E) (Q₁:=λobj bU=>obj = .ref s.heap.objs.size/\bU = {s with heap:=s.heap.push (fZ w)}) ⟨rfl,rfl⟩) λrr bU hr=>?_
 cases rr with
 | error e=>exact hr
 | ok fl=>
  cases fl with
  | ret obj=>
   obtain⟨rfl,rfl⟩:=hr
   have hS:(s.heap.push (fZ w)).get? s.heap.objs.size=some (fZ w):=aH _ rfl
   have hTS:lL {s with heap:=s.heap.push (fZ w)} (.ref s.heap.objs.size) "set" :=⟨_,hS,rfl⟩
   have hli:=F.called_set.init.lookup
   have wv:=F.called_set.init.bind (.ref s.heap.objs.size)
   repeat (any_goals (first | assumption | wp_step))
   refine tK (uW (R:=wants (λr s₂=>r = .none/\Q (.ref s.heap.objs.size) s₂) E) F.called_set.init.plain F.entry_set_init (check_set_init_1 hTS ?_)) λr₂ s₂ hr₂=>?_
   ·obtain⟨ol,sn,wu⟩:=hT
    obtain⟨ocls,odict,odata,oslots⟩:=ol
    simp only at wu
    subst wu
    have hol':(s.heap.push (fZ w)).get? r=some {cls:=.type T,dict:=odict,data:=odata,slots:=oslots}:=aG _ sn
    have hrS:r≠s.heap.objs.size:=bQ (bM sn)
    unfold Builtin.«set.__init__» noKeywords vc
    generalize hPI:pyIter=PI
    wp_walk
    subst hPI
    refine iter _ _ _ _ (λb o e=>aG _ e) λI fp P St s' W st kp kk kd hI t4 qH pv=>?_
    refine aa (wpAny_runValue ?_)
    have hIS:I≠s.heap.objs.size:=λq=>hI _ (q ▸ hS)
    have t5:s.heap.objs.size ∉ fp:=λhb=>(t4 _ hb).elim (λq=>hrS q.symm) λq=>q.elim (λ⟨o,q⟩=>_a _ _ q) λq=>q _ hS
    refine _hT (W _ (by simp[hh])).toS s.heap.objs.size t5 J (λi s1 s2 st hm hj=>mv i I _ _ hIS (λb o e q=>hI o (q ▸ aG _ e)) (λo ho=>qH i _ o st ho) (λb o hb e=>hm.heap b o (λm=>hb (aj.mp m)) e) hj) (λi v s1 Q E hv hj k=>add i v P _ s1 Q E (aD _) pv hv hj k) (n-0) 0 _ rfl (b0 _)
     st (j0 _ kp) ?hR
    intro kT hm rB
    refine ad (ad ⟨rfl,_7r (hm.gens.trans kk.gens) (hm.drawn.trans kd) (hm.os.trans kk.os) (h _ _ rB λb o e=>?_)⟩)
    have xh:=bM e
    have e1:=aG (fZ w) e
    exact hm.heap b o (λhb=>(aO.mp hb).elim (λq=>bQ xh q) λq=>hI o (aj.mp q ▸ e1)) (kp _ _ e1)
   ·cases r₂ with
    | error e=>exact hr₂
    | ok fl₂=>
     cases fl₂ with
     | ret r=>
      obtain⟨rfl,hr₂⟩:=hr₂
      repeat (any_goals (first | assumption | wp_step))
     | _=>exact hr₂.elim
  | _=>exact hr.elim
theorem _7u{α:Type}{ns:List α}{i:Nat}{k:α}(h:ns[i]? = some k)(x:α):x∈ns.take (i+1) ↔ x∈ns.take i\/x=k:=by
 rw[bJ,h,aK,Option.toList_some,aj]
theorem _7v{r:ao}{T:String}{ns:List Int}{Q:ae->ah->Prop}(hh:A.handled=none)(hT:s.TypeIs (.ref r) T)
  (hs1:nr (.type T) (.type "set")=pure false) (hs2:nr (.type T) (.type "frozenset")=pure false) (hJ:(Value.type T == Value.type "dict")=false)
  (iter:uy prog w s r ns.length λP=>∀i v,P i v->∃k t,ns[i]? = some k/\v = .int k t)
  (hb:ns.length+1<fj) (h:∀(h':a_) (tk:Nat) (l':List Int),kl prog w h' s.heap.objs.size l'->(∀x,x∈l' ↔ x∈ns) ->
   (∀b o,s.heap.get? b=some o->h'.get? b=some o)->Q (.ref s.heap.objs.size) {s with heap:=h',toks:=tk}) :
  wpAny (model prog w) A (call (.type "set") [.ref r]) Q E s:=by
 refine _7t (PV:=λP=>∀i v,P i v->∃k t,ns[i]? = some k/\v = .int k t) (J:=λi h'=>∃l',kl prog w h' s.heap.objs.size l'/\(∀x,x∈l' ↔ x∈ns.take i)/\l'.length<=i) hh hT hs1 hs2 hJ iter (λh' k=>⟨[],_hV (k _ _ (aH _ rfl)),λx=>by simp,aD _⟩)
  (λi I h1 h2 hI _ _ k ⟨l',⟨o,es,ep,t,ho,rest⟩,r⟩=>⟨l',⟨o,es,ep,t,k _ _ (kL hI) ho,rest⟩,r⟩) (λi v P A' s' Q' E' _ pv hv ⟨l',hS,hm,wo⟩ k=>?_) λh' tk ⟨l',hS,hm,_⟩ k=>h h' tk l' hS (λx=>by rw[hm,bT]) k
 obtain⟨k0,t,hk,rfl⟩:=pv i v hv
 have fO:=(az.mp hk).1
 unfold setAdd
 refine aS ?_
 refine aa ((intKind prog w).pyHash (k:=k0) (intKind_is _ _ _ _) ?_)
 refine _hS (s:={s' with toks:=s'.toks+1}) hS (by(first | lia | omega)) λh' l2 b sk hS2 qG=>k h' _ b sk ⟨l2,hS2,λx=>?_,?_⟩ (lO _)
 ·rw[qG.mem_iff,_7u hk,<-hm]
  split
  ·rename_i q;exact⟨.inl,λy=>y.elim id λe=>e ▸ q⟩
  ·rw[aK,aj]
 ·rw[qG.length_eq]
  split
  ·(first | lia | omega)
  ·rw[am,aF];(first | lia | omega)
theorem _hW{l:ao}{items:Array ae}{ns:List Int}{Q:ae->ah->Prop}
  (hh:A.handled=none) (hl:s.heap.IsList l items) (hi:IntsAre items.toList ns) (hb:ns.length+1<fj)
  (h:∀(h':a_) (tk:Nat) (l':List Int),kl prog w h' s.heap.objs.size l'->(∀x,x∈l' ↔ x∈ns) ->
   (∀b o,s.heap.get? b=some o->h'.get? b=some o)->Q (.ref s.heap.objs.size) {s with heap:=h',toks:=tk}) :
  wpAny (model prog w) A (call (.type "set") [.ref l]) Q E s:=by
 have cL:items.size=ns.length:=by rw[<-hi.length,aw]
 have it:uy prog w s l items.size λP=>∀i v,P i v->∃k t,ns[i]? = some k/\v = .int k t:=_7s hl λi v hv=>by
  obtain⟨t,e⟩:=jT hi i v (by rw[a0];exact hv)
  have fO:i<ns.length:=cL ▸ (bA.mp hv).1
  exact⟨ns.getD i 0,t,by rw[ax fO,bc,ax fO];rfl,e⟩
 rw[cL] at it
 exact _7v hh hl.typeIs F.sub_list_set tV (by decide) it hb h
end
section
variable{c:Cx}{d:Nat}{σ:af}{Q:AV->af->Prop}{A:bB}{E:ae->ah->Prop}{s:ah}{Fz:Fzn}
theorem kl.nodup{prog:bS}{w:cy}{h:a_}{a:ao}{l:List Int}(x:kl prog w h a l):l.Nodup:=by
 obtain⟨_,_,_,_,_,_,_,_,_,hJ,_⟩:=x;exact hJ
theorem _hX{l:ao}{ns:List Int}(e:σ l=some (.list (cJ ns)))(hz:ns.length<4000)(h:∀(m:ao) (ms:List Int),ms.Nodup->(∀x,x∈ms ↔ x∈ns)->σ m=none->Q (.ref m) (σ.set m (.setI ms))):br c d (.raw (.type "set")) [.ref l] σ Q:=by
 refine _6 [.b _,.r _] λA Fz s P E G kk=>?_
 obtain⟨its,n,hl,ri⟩:=_k G.st e
 exact _hW G.room.hn hl.isList (_3S ri) (by unfold fj;exact _5f hz) λh' tk l' hS hp k=>
  kk.new (G.st.new (c:=.setI l') (a:=s.heap.objs.size) (_a _) k hS) λm=>h m l' hS.nodup hp
end
theorem iu.trans{s s' kT:ah}(a:iu s s')(b:iu s' kT):iu s kT:=⟨b.h.trans a.h,b.os.trans a.os,b.gens.trans a.gens⟩
namespace SF
theorem _7w:Manifest.owners.lookup (String.ofList ['r','o','t','a','r','e','t','i','_','t','e','s'].reverse)=some Manifest.sig_set_iterator:=by kernel_rfl
theorem slot_next:Slot "set_iterator" "__next__" "set_iterator.__next__" :=
 .of (owner:="set_iterator") (n:="__next__") (by rw[typeLookup_type,t9];kernel_rfl) (by decide +kernel) (by decide +kernel) (by decide +kernel)
  (by first | exact .inl (by decide +kernel) | exact .inr (by decide +kernel)) (by rw[jJ];kernel_rfl)
theorem entry_next:uV table "set_iterator.__next__" = some Builtin.«set_iterator.__next__»:=entryFor_of_tree (by kernel_rfl)
theorem args_next(a:ae):argsOk "set_iterator.__next__" ⟨[a],[]⟩:=by
 unfold argsOk;rw[signature?_of (id:="set_iterator.__next__") (n:=['_','_','t','x','e','n','_','_']) (o:=['r','o','t','a','r','e','t','i','_','t','e','s']) (by kernel_rfl) _7w];kernel_rfl
theorem slot_iter:Slot "set_iterator" "__iter__" "set_iterator.__iter__" :=
 .of (owner:="set_iterator") (n:="__iter__") (by rw[typeLookup_type,t9];kernel_rfl) (by decide +kernel) (by decide +kernel) (by decide +kernel)
  (by first | exact .inl (by decide +kernel) | exact .inr (by decide +kernel)) (by rw[jJ];kernel_rfl)
theorem entry_iter:uV table "set_iterator.__iter__" = some Builtin.«dict_keyiterator.__iter__»:=
 entryFor_alias (id':="dict_keyiterator.__iter__") (by kernel_rfl) rfl (by decide +kernel) (by kernel_rfl)
theorem args_iter(a:ae):argsOk "set_iterator.__iter__" ⟨[a],[]⟩:=by
 unfold argsOk;rw[signature?_of (id:="set_iterator.__iter__") (n:=['_','_','r','e','t','i','_','_']) (o:=['r','o','t','a','r','e','t','i','_','t','e','s']) (by kernel_rfl) _7w];kernel_rfl
theorem entry_set_iter:uV table "set.__iter__" = some Builtin.«frozenset.__iter__»:=
 entryFor_alias (id':="frozenset.__iter__") (by kernel_rfl) rfl (by decide +kernel) (by kernel_rfl)
end SF
theorem _7x(a:ao)(slot given pz:Nat):setNext a slot given pz=(do
 let(es,epoch,t) <-setState a
 if <-lK then
  if epoch != pz then unsupported "set_iterator.__next__:elements-changed"
  return ((<-setWalk a)[given]?).map λe=>(e.2,slot)
 if(!t.plain&&es.size>1)=true then unsupported "set_iterator.__next__:the-table-is-plain-no-more"
 (if(!t.led && !es.isEmpty)=true then unsupported "set:maker-not-led" else pure ():me Unit)
 let i:=ba t.place slot
 return match es[i]?,t.place[i]? with
  | some (_,x),some j=>some (x,j+1)
  | _,_=>none):=rfl
noncomputable def g_(h:a_)(I S:ao)(first:ae)(i n ep:Nat):Prop:=∃o,h.get? I=some o/\o.cls = .type "set_iterator" /\ o.data = .fields #[first,.int i 0,.ref S,.int n 0,.int ep 0]
theorem _3X{α:Type}{l:List α}{i:Nat}(h:i<l.length):(l[i]::l.eraseIdx i).Perm l:=by
 rw[eY]
 have e:l=l.take i++l[i]::l.drop (i+1):=by
  rw[List.getElem_cons_drop,kM]
 refine(cW.symm).trans ?_
 rw[<-e]
theorem _7y{α:Type}(next:Nat->Nat):∀(fuel k:Nat) (left:List α) (out:Array α),left.length=fuel->(tJ next fuel k left out).toList.Perm (out.toList++left)
 | 0,k,left,out,h=>by
  have:left=[]:=List.eq_nil_of_length_eq_zero h
  subst this
  exact .of_eq (bh _).symm
 | fuel+1,k,left,out,h=>by
  unfold tJ
  have fO:next k % left.length<left.length:=kz _ (by exact _aO h)
  rw[ax fO]
  dsimp only
  refine(_7y next fuel (k+1) _ _ (by rw[jd fO];exact _58 h)).trans ?_
  rw[eO,aZ,kN]
  refine List.Perm.append_left _ ?_
  exact(_3X fO)
theorem _3Y{α:Type}(next:Nat->Nat)(xs:Array α):(kZ next xs).toList.Perm xs.toList:=by
 unfold kZ
 simpa using _7y next xs.size 0 xs.toList #[] (by simp)
section
variable{prog:bS}{w:cy}{A:bB}{E:ae->ah->Prop}{s:ah}
theorem _hY{jl:Source}{n:Nat}{Q:Nat->ah->Prop}(hn:n≠0)(h:∀i,i<n->∀s',iu s s'->Q i s'):wpAny (model prog w) A (choose jl n) Q E s:=by
 intro Γ p hΓ
 show wp _ _ (Sem.choose jl n pure) _ _ p s
 rw[Sem.wp_choose]
 exact⟨hn,h _ (kz _ (tO hn)) _ ⟨rfl,rfl,rfl⟩⟩
theorem _7z{α:Type}:∀(n:Nat) (xs:List α) (s:ah) (Q:List α->ah->Prop),xs.length=n->(∀ys s',iu s s'->ys.Perm xs->Q ys s')->wpAny (model prog w) A (drawOrder n xs) Q E s
 | 0,xs,s,Q,hl,h=>by
  have:xs=[]:=List.eq_nil_of_length_eq_zero hl
  subst this
  exact ad (h [] s (.refl s) (.refl _))
 | n+1,[],s,Q,hl,h=>by cases hl
 | n+1,x::r,s,Q,hl,h=>by
  show wpAny (model prog w) A (choose _ _ >>= _) Q E s
  refine aa (_hY (by simp) λi hi s1 e1=>?_)
  rw[ax hi]
  dsimp only
  refine aa (_7z n _ s1 _ (by rw[jd hi];simp at hl ⊢;exact _aP hl) λys s2 e2 hp=>?_)
  exact ad (h _ s2 (e1.trans e2) ((hp.cons _).trans (_3X hi)))
end
section
variable{prog:bS}{w:cy}{A:bB}{E:ae->ah->Prop}{s:ah}{I S:ao}{so:iF}{es:Array (Int×ae)}{ep:Nat}{t:SetTable}
theorem g_.typeIs{first:ae}{i n:Nat}(y:g_ s.heap I S first i n ep):s.TypeIs (.ref I) "set_iterator" :=let⟨o,ho,hc,_⟩:=y;⟨o,ho,hc⟩
theorem g_.keep{h h':a_}{first:ae}{i n:Nat}(y:g_ h I S first i n ep)(k:∀o,h.get? I=some o->h'.get? I=some o):g_ h' I S first i n ep:=let⟨o,ho,r⟩:=y;⟨o,k o ho,r⟩
theorem _3Z{Q:Option ae->ah->Prop}(hh:A.handled=none){hp:a_}(hE:jw I s.heap hp)(hQ:∀h',jw I s.heap h'->Q none {s with heap:=h'}):
  wpAny (model prog w) A.in1 (do raiseNew (<-newExc (.type "StopIteration") []):me Fin) (λ_ _=>False) (λe s'=>wpAny (model prog w) A (rG e (.type "StopIteration")) (λb kT=>b=true/\Q none kT) E s') {s with heap:=hp}:=by
 show wpAny _ _ (newExc (.type "StopIteration") [] >>= _) _ _ _
 refine aa ?_
 simp only[newExc,newTuple]
 refine aa (dc ?_ (by size_fits))
 refine aa (m:=firstArgMember _ _) (qc (a:=Value.none) (by first | rfl | (simp only[firstArgMember];rfl)) ?_)
 refine dc ?_ (by size_fits)
 unfold raiseNew
 refine aa (wpAny_handled ?_)
 rw[show A.in1.handled=none from hh]
 refine aa (ad (wpAny_throw ?_))
 refine iN (T:="StopIteration") (b:=true) ⟨_,aH _ rfl,rfl⟩ isSubtype_stop ?_
 exact⟨rfl,hQ _ ((hE.push _).push _)⟩
theorem _7A{sl i n nx:Nat}{v:ae}{Q:Option ae->ah->Prop}(iD:g_ s.heap I S (.int sl 0) i n ep)(hS:s.heap.get? S=some so)(hd:so.data = .set es ep t)(hf:t.fits es.size=true)(hn:n=es.size)
  (xw:∀A Q E,Q (some (v,nx)) s->wpAny (model prog w) A (setNext S sl i ep) Q E s)
  (hQ:∀h',g_ h' I S (.int nx 0) (i+1) n ep->bu I s.heap h'->Q (some v) {s with heap:=h'}):wpAny (model prog w) A (pyNext (.ref I)) Q E s:=by
 obtain⟨o,ho,hc,hdo⟩:=id iD
 unfold pyNext
 refine aa (iV (cV (name:=ab "__next__") iD.typeIs SF.slot_next
  (b4 SF.slot_next iD.typeIs SF.entry_next ?_ (SF.args_next _))))
 unfold Builtin.«set_iterator.__next__»
 show wpAny _ _ (uU (.ref I) >>= _) _ _ s
 refine aa (ib ho hdo ?_)
 dsimp only
 refine aa ?_
 unfold oD
 refine aa (bG hS hd hf (ad ?_))
 dsimp only
 rw[if_neg (by rw[hn];simp)]
 rw[cb]
 refine aa (xw _ _ _ ?_)
 dsimp only
 refine aa (ff ho hdo (by simp) ?_)
 have g1:=bR (dW (·.set! 0 (rawInt nx))) ho (fK (cT hdo _))
 have d1:(dW (·.set! 0 (rawInt nx)) o).data = .fields #[.int nx 0,.int i 0,.ref S,.int n 0,.int ep 0]:=by rw[cT hdo];simp[rawInt]
 refine aa (ff (s:={s with heap:=s.heap.update I (dW (·.set! 0 (rawInt nx)))}) g1 d1 (by simp) ?_)
 have g2:=bR (dW (·.set! 1 (rawInt ((i:Int)+1)))) g1 (fK (cT d1 _))
 refine ad ⟨_,rfl,ad (hQ _ ⟨_,g2,?_,?_⟩ ((bn ..).trans (bn ..)))⟩
 ·rw[jy,jy];exact hc
 ·rw[cT d1];simp[rawInt]
theorem _7B{sl i n:Nat}{Q:Option ae->ah->Prop}(hh:A.handled=none)(iD:g_ s.heap I S (.int sl 0) i n ep)(hS:s.heap.get? S=some so)(hd:so.data = .set es ep t)(hf:t.fits es.size=true)(hn:n=es.size)
  (xw:∀A Q E,Q none s->wpAny (model prog w) A (setNext S sl i ep) Q E s)
  (hQ:∀h',jw I s.heap h'->Q none {s with heap:=h'}):wpAny (model prog w) A (pyNext (.ref I)) Q E s:=by
 obtain⟨o,ho,hc,hdo⟩:=id iD
 unfold pyNext
 refine aa (iV (cV (name:=ab "__next__") iD.typeIs SF.slot_next
  (b4 SF.slot_next iD.typeIs SF.entry_next ?_ (SF.args_next _))))
 unfold Builtin.«set_iterator.__next__»
 show wpAny _ _ (uU (.ref I) >>= _) _ _ s
 refine aa (ib ho hdo ?_)
 dsimp only
 refine aa ?_
 unfold oD
 refine aa (bG hS hd hf (ad ?_))
 dsimp only
 rw[if_neg (by rw[hn];simp)]
 rw[cb]
 refine aa (xw _ _ _ ?_)
 dsimp only
 refine aa (ff ho hdo (by simp) ?_)
 refine cx (_3Z (A:=A) (E:=E) (Q:=Q) (s:=s) hh (bn ..).extBut hQ) (λ_ _ x=>x.elim) λe s' x=>?_
 refine aa (cx x ?_ λ_ _ e=>e)
 rintro b kT ⟨rfl,q⟩
 exact ad q
end
noncomputable def oo(order:Array (Int×ae))(i:Nat)(v:ae):Prop:=∃e,order[i]? = some e/\v=e.2
section
variable{prog:bS}{w:cy}{A:bB}{E:ae->ah->Prop}{s:ah}{I S T:ao}{so:iF}{es:Array (Int×ae)}{ep:Nat}{t:SetTable}
theorem _40{α:Type}{M:rN}{p:Prop}[Decidable p]{a b:me α}{Q:α->ah->Prop}(hp:p)(h:wpAny M A a Q E s):wpAny M A (if p then a else b) Q E s:=by rw[if_pos hp];exact h
theorem _1s{α:Type}{M:rN}{p:Prop}[Decidable p]{a b:me α}{Q:α->ah->Prop}(hp:¬p)(h:wpAny M A b Q E s):wpAny M A (if p then a else b) Q E s:=by rw[if_neg hp];exact h
theorem _7C{a:ao}{o:iF}{xs:Array ae}{n:Nat}{M:rN}{Q:Option (Array ae)->ah->Prop}(ho:s.heap.get? a=some o)(hd:o.data = .seq xs n)(h:Q (some xs) s):wpAny M A (seqItems? (.ref a)) Q E s:=by
 show wpAny M A (load a >>= _) Q E s
 refine aa (oA ho ?_)
 rw[hd]
 exact ad h
theorem _hZ{i n p nT:Nat}{e:Int×ae}{oT:iF}{ou:Array ae}{Q:Option ae->ah->Prop}(iD:g_ s.heap I S (.ref T) i n ep)(hS:s.heap.get? S=some so)(hd:so.data = .set es ep t)(hf:t.fits es.size=true)(hn:n=es.size)
  (hT:s.heap.get? T=some oT) (ww:oT.data = .seq ou nT) (hp:ou[i]? = some (.int (p:Nat) 0)) (he:es[p]? = some e)
  (hQ:∀h',g_ h' I S (.ref T) (i+1) n ep->bu I s.heap h'->Q (some e.2) {s with heap:=h'}):wpAny (model prog w) A (pyNext (.ref I)) Q E s:=by
 obtain⟨o,ho,hc,hdo⟩:=id iD
 unfold pyNext
 refine aa (iV (cV (name:=ab "__next__") iD.typeIs SF.slot_next
  (b4 SF.slot_next iD.typeIs SF.entry_next ?_ (SF.args_next _))))
 unfold Builtin.«set_iterator.__next__»
 show wpAny _ _ (uU (.ref I) >>= _) _ _ s
 refine aa (ib ho hdo ?_)
 dsimp only
 refine aa ?_
 unfold oD
 refine aa (bG hS hd hf (ad ?_))
 dsimp only
 rw[if_neg (by rw[hn];simp)]
 rw[cb]
 refine aa (_7C hT ww ?_)
 dsimp only
 rw[hp]
 dsimp only
 rw[cb]
 refine aa ?_
 unfold setNextDrawn
 refine aa (bG hS hd hf ?_)
 dsimp only
 rw[if_neg (by simp),he]
 refine ad ?_
 refine aa (ff ho hdo (by simp) ?_)
 have g1:=bR (dW (·.set! 1 (rawInt ((i:Int)+1)))) ho (fK (cT hdo _))
 refine ad ⟨_,rfl,ad (hQ _ ⟨_,g1,?_,?_⟩ (bn ..))⟩
 ·rw[jy];exact hc
 ·rw[cT hdo];simp[rawInt]
theorem _i0{i n nT:Nat}{oT:iF}{ou:Array ae}{Q:Option ae->ah->Prop}(hh:A.handled=none)(iD:g_ s.heap I S (.ref T) i n ep)(hS:s.heap.get? S=some so)(hd:so.data = .set es ep t)(hf:t.fits es.size=true)(hn:n=es.size)
  (hT:s.heap.get? T=some oT) (ww:oT.data = .seq ou nT) (hp:ou[i]? = none)
  (hQ:∀h',jw I s.heap h'->Q none {s with heap:=h'}):wpAny (model prog w) A (pyNext (.ref I)) Q E s:=by
 obtain⟨o,ho,hc,hdo⟩:=id iD
 unfold pyNext
 refine aa (iV (cV (name:=ab "__next__") iD.typeIs SF.slot_next
  (b4 SF.slot_next iD.typeIs SF.entry_next ?_ (SF.args_next _))))
 unfold Builtin.«set_iterator.__next__»
 show wpAny _ _ (uU (.ref I) >>= _) _ _ s
 refine aa (ib ho hdo ?_)
 dsimp only
 refine aa ?_
 unfold oD
 refine aa (bG hS hd hf (ad ?_))
 dsimp only
 rw[if_neg (by rw[hn];simp)]
 rw[cb]
 refine aa (_7C hT ww ?_)
 dsimp only
 rw[hp]
 dsimp only
 refine aa (ff ho hdo (by simp) ?_)
 have g1:=bR (dW (·.set! 0 (rawInt 0))) ho (fK (cT hdo _))
 have d1:(dW (·.set! 0 (rawInt 0)) o).data = .fields #[.int 0 0,.int i 0,.ref S,.int n 0,.int ep 0]:=by rw[cT hdo];simp[rawInt]
 refine aa (ff (s:={s with heap:=s.heap.update I (dW (·.set! 0 (rawInt 0)))}) g1 d1 (by simp) ?_)
 refine cx (_3Z (A:=A) (E:=E) (Q:=Q) (s:=s) hh ((bn ..).trans (bn ..)).extBut hQ) (λ_ _ x=>x.elim) λe s' x=>?_
 refine aa (cx x ?_ λ_ _ e=>e)
 rintro b kT ⟨rfl,q⟩
 exact ad q
theorem _41{first:ae}{i n:Nat}{Q:ae->ah->Prop}(iD:g_ s.heap I S first i n ep)(h:Q (.ref I) s):wpAny (model prog w) A (pyIter (.ref I)) Q E s:=by
 refine jU iD.typeIs SF.slot_iter (b4 SF.slot_iter iD.typeIs SF.entry_iter ?_ (SF.args_iter _))
 show wpAny _ _ (ret (.ref I)) _ _ s
 exact ad ⟨_,rfl,"set_iterator", _,iD.typeIs,SF.slot_next.lookup,h⟩
theorem _7D{i sl:Nat}{Q:Option (ae×Nat)->ah->Prop}(hS:s.heap.get? S=some so)(hd:so.data = .set es ep t)(hf:t.fits es.size=true)(r9:w.params.followText "set-order" = true)
  (h:Q ((kZ (w.params.setOrder S ep) es)[i]?.map λe=>(e.2,sl)) s):wpAny (model prog w) A (setNext S sl i ep) Q E s:=by
 rw[_7x]
 refine aa (bG hS hd hf ?_)
 dsimp only
 refine aa ?_
 unfold lK
 refine aa (fg (ad (_40 r9 (_1s (by rw[bne_self_eq_false];exact aR) (aa ?_)))))
 unfold setWalk
 refine aa (bG hS hd hf ?_)
 dsimp only
 refine aa ?_
 unfold lK
 exact aa (fg (ad (_40 r9 (aa (fg (ad (ad h)))))))
theorem _7E(hf:t.fits es.size=true):t.place.size=es.size:=by
 unfold tL at hf
 rw[bm] at hf
 exact beq_iff_eq.mp hf.1
theorem _7F{i sl:Nat}{Q:Option (ae×Nat)->ah->Prop}(hS:s.heap.get? S=some so)(hd:so.data = .set es ep t)(hf:t.fits es.size=true)(r9:w.params.followText "set-order" = false)(k_:(!t.plain&&decide (es.size>1))=false)(jI:t.led=true)(h2:ba t.place sl=i)
  (h0:es[i]? = none->Q none s) (h1:∀e j,es[i]? = some e->t.place[i]? = some j->Q (some (e.2,j+1)) s):wpAny (model prog w) A (setNext S sl i ep) Q E s:=by
 rw[_7x]
 refine aa (bG hS hd hf ?_)
 dsimp only
 refine aa ?_
 unfold lK
 refine aa (fg (ad (_1s (show ¬(w.params.followText "set-order" = true) by rw[r9];exact aR) (_1s (by rw[k_];exact aR) (aa ?_)))))
 rw[jI,h2]
 refine ad (ad ?_)
 cases q:es[i]? with
 | none=>exact h0 q
 | some e=>
  have hi:=(bA.mp q).1
  rw[<-_7E hf] at hi
  rw[aW hi]
  exact h1 e _ q (aW hi)
theorem _i1(hA:A.handled=none)(gK:S≠I)(hd:so.data = .set es ep t)(hf:t.fits es.size=true)(r9:w.params.followText "set-order" = true):
  sR prog w A I [I,S] [I] es.size (oo (kZ (w.params.setOrder S ep) es)) (λi h=>g_ h I S (.int (0:Nat) 0) i es.size ep/\h.get? S=some so) where
 sub:=λb hb=>aj.mp hb ▸ aE
 frame:=λi h h' st k=>⟨st.1.keep λo=>k I aE o,k S (aA _ aE) _ st.2⟩
 item:=λi s Q E hi st hQ=>by
  have eX:(kZ (w.params.setOrder S ep) es).size=es.size:=by rw[<-aw,(_3Y (w.params.setOrder S ep) es).length_eq,aw]
  have he:=aW (xs:=kZ (w.params.setOrder S ep) es) (i:=i) (by rw[eX];exact hi)
  exact _7A (nx:=0) st.1 st.2 hd hf rfl (λA Q E h=>_7D st.2 hd hf r9 (by rw[he];exact h)) λh' a b=>hQ _ h' _ ⟨_,he,rfl⟩ ⟨a,(b.2 S gK).trans st.2⟩ λc o hc e=>(b.2 c λe=>hc (e ▸ aE)).trans e
 done:=λs Q E st hQ=>by
  have eX:(kZ (w.params.setOrder S ep) es).size=es.size:=by rw[<-aw,(_3Y (w.params.setOrder S ep) es).length_eq,aw]
  exact _7B hA st.1 st.2 hd hf rfl (λA Q E h=>_7D st.2 hd hf r9 (by rw[ef (cm eX)];exact h)) λh' b=>hQ h' _ λc o hc e=>b c o (λe=>hc (e ▸ aE)) e
 self:=λi s Q E st h=>_41 st.1 h
theorem _i2(hA:A.handled=none)(gK:S≠I)(hd:so.data = .set es ep t)(hf:t.fits es.size=true)(r9:w.params.followText "set-order" = false)(k_:(!t.plain&&decide (es.size>1))=false)(hr:Ris t.place)(jI:t.led=true):
  sR prog w A I [I,S] [I] es.size (oo es) (λi h=>(∃sl:Nat,g_ h I S (.int (sl:Nat) 0) i es.size ep/\ba t.place sl=i)/\h.get? S=some so) where
 sub:=λb hb=>aj.mp hb ▸ aE
 frame:=λi h h' st k=>⟨st.1.elim λsl a=>⟨sl,a.1.keep λo=>k I aE o,a.2⟩,k S (aA _ aE) _ st.2⟩
 item:=λi s Q E hi st hQ=>st.1.elim λsl a=>by
  have hp:i<t.place.size:=by rw[_7E hf];exact hi
  have he:=aW hi
  refine _7A (nx:=t.place[i]+1) a.1 st.2 hd hf rfl (λA Q E h=>_7F st.2 hd hf r9 k_ jI a.2 (λq=>nomatch q.symm.trans he) λe j q1 q2=>?_) λh' z b=>hQ _ h' _ ⟨_,he,rfl⟩ ⟨⟨_,z,?_⟩,(b.2 S gK).trans st.2⟩ λc o hc e=>(b.2 c λe=>hc (e ▸ aE)).trans e
  ·cases he.symm.trans q1
   cases(aW hp).symm.trans q2
   exact h
  ·have:=_hM hr hp
   rwa [dB,aW hp] at this
 done:=λs Q E st hQ=>st.1.elim λsl a=>_7B hA a.1 st.2 hd hf rfl (λA Q E h=>_7F st.2 hd hf r9 k_ jI a.2 (λ_=>h) λe j q1 _=>nomatch (ef (aD _)).symm.trans q1) λh' b=>hQ h' _ λc o hc e=>b c o (λe=>hc (e ▸ aE)) e
 self:=λi s Q E st h=>st.1.elim λsl a=>_41 a.1 h
theorem _i3(hA:A.handled=none)(gK:S≠I)(hnT:T≠I){oT:iF}{nT:Nat}{pl:List Nat}(hd:so.data = .set es ep t)(hf:t.fits es.size=true)(ww:oT.data = .seq (pl.map λ(i:Nat)=>rawInt (i:Int)).toArray nT)(hp:pl.Perm (aV es.size)):
  sR prog w A I [I,S,T] [I] es.size (oo (pl.filterMap (es[·]?)).toArray) (λi h=>g_ h I S (.ref T) i es.size ep/\h.get? S=some so/\h.get? T=some oT) where
 sub:=λb hb=>by simp at hb;subst hb;simp
 frame:=λi h h' st k=>⟨st.1.keep λo=>k I (by simp) o,k S (by simp) _ st.2.1,k T (by simp) _ st.2.2⟩
 item:=λi s Q E hi st hQ=>by
  have cL:pl.length=es.size:=by rw[hp.length_eq,aY]
  have fO:i<pl.length:=by exact _1X hi cL
  have iA:pl[i]<es.size:=aN.mp (hp.mem_iff.mp (bO fO))
  have fm:pl.filterMap (es[·]?)=pl.map (λp=>es.getD p default):=by
   have gen:∀l:List Nat,(∀p∈l,p<es.size)->l.filterMap (es[·]?)=l.map (λp=>es.getD p default):=by
    intro l
    induction l with
    | nil=>exact λ_=>rfl
    | cons a l ih=>
     intro h
     have ha:=h a aE
     rw[dI,aW ha,aJ,ih λp hp=>h p (aA _ hp),dB,aW ha]
     rfl
   exact gen pl λp hm=>aN.mp (hp.mem_iff.mp hm)
  refine _hZ (p:=pl[i]) (e:=es[pl[i]]) st.1 st.2.1 hd hf rfl st.2.2 ww (by simp[fO,rawInt]) (aW iA) λh' a b=>hQ _ h' _ ⟨es[pl[i]],?_,rfl⟩ ⟨a,(b.2 S gK).trans st.2.1,(b.2 T hnT).trans st.2.2⟩ λc o hc e=>(b.2 c (by simpa using hc)).trans e
  rw[fm]
  simp[fO,dO,iA]
 done:=λs Q E st hQ=>by
  have cL:pl.length=es.size:=by rw[hp.length_eq,aY]
  exact _i0 hA st.1 st.2.1 hd hf rfl st.2.2 ww (by simp[cL]) λh' b=>hQ h' _ λc o hc e=>b c o (by simpa using hc) e
 self:=λi s Q E st h=>_41 st.1 h
end
section
variable{prog:bS}{w:cy}{A:bB}{E:ae->ah->Prop}{s:ah}{S:ao}
theorem _i4(s:ae):Builtin.«frozenset.__iter__» ⟨[s],[]⟩=(do
 let a <-vg s
 let n <-lR a
 let first <-if <-setDrawn a then newTuple ((<-drawOrder n (aV n)).map λ(i:Nat)=>rawInt i) else pure (rawInt 0)
 ret (<-newFields "set_iterator" [first,rawInt 0,.ref a,rawInt n,rawInt (<-uR a)])):=by
 unfold Builtin.«frozenset.__iter__» vd slotArgs
 simp
theorem _i5(a:ao):setDrawn a=(do
 let(es,_,t) <-setState a
 let byText <-lK
 return !byText&&(!t.plain&&es.size>1)):=rfl
theorem _i6{es order:Array (Int×ae)}(hp:order.toList.Perm es.toList)(vals:List ae)(hl:vals.length=es.size)(hv:∀(j:Nat) v,vals[j]? = some v->oo order j v):vals.Perm (es.toList.map (·.2)):=by
 have eX:order.toList.length=es.size:=by rw[hp.length_eq,aw]
 have e1:vals=order.toList.map (·.2):=by
  refine d6 λj=>?_
  cases q:vals[j]? with
  | none=>
   have:es.size<=j:=by rw[<-hl];exact p9.mp q
   rw[da (by simp only[ac];exact _aQ eX this)]
  | some v=>
   obtain⟨e,he,rfl⟩:=hv j v q
   rw[aQ,a0,he];rfl
 exact e1 ▸ hp.map _
structure sg(w:cy)(h:a_)(S:ao)(es:Array (Int×ae)):Prop where
 ex:∃o ep t,h.get? S=some o/\o.ExactSet/\o.data = .set es ep t/\t.fits es.size=true/\Ris t.place/\(w.params.followText "set-order" = false->t.led=true)
 few:es.size<fj
theorem sg.keep{h h':a_}{es:Array (Int×ae)}(x:sg w h S es)(k:∀o,h.get? S=some o->h'.get? S=some o):sg w h' S es:=let⟨⟨o,ep,t,e,r⟩,f⟩:=x;⟨⟨o,ep,t,k _ e,r⟩,f⟩
noncomputable def lG(o:iF):Prop:=o.cls = .type "set_iterator" /\ ∃vs,o.data = .fields vs
theorem g_.setter{h:a_}{I S:ao}{first:ae}{i n ep:Nat}(x:g_ h I S first i n ep):∃o,h.get? I=some o/\lG o:=x.elim λo x=>⟨o,x.1,x.2.1,_,x.2.2⟩
theorem _7G{h:a_}{I S:ao}(a:∃o,h.get? I=some o/\lG o)(b:∃o,h.get? S=some o):(∃o,h.get? I=some o/\lG o)/\∀b∈[I,S],∃o,h.get? b=some o:=
 ⟨a,λx hx=>(aO.mp hx).elim (λe=>e ▸ a.elim λo a=>⟨o,a.1⟩) λhx=>aj.mp hx ▸ b⟩
theorem _i7{h:a_}{I S T:ao}(a:∃o,h.get? I=some o/\lG o)(b:∃o,h.get? S=some o)(c:∃o,h.get? T=some o):(∃o,h.get? I=some o/\lG o)/\∀b∈[I,S,T],∃o,h.get? b=some o:=
 ⟨a,λx hx=>(aO.mp hx).elim (λe=>e ▸ a.elim λo a=>⟨o,a.1⟩) λhx=>(aO.mp hx).elim (λe=>e ▸ b) λhx=>aj.mp hx ▸ c⟩
theorem _7H{es:Array (Int×ae)}{Q:ae->ah->Prop}(hS:sg w s.heap S es)
  (h:∀I fp P St s',(∀A',A'.handled=none->sR prog w A' I fp [I] es.size P St)->St 0 s'.heap->(∀b o,s.heap.get? b=some o->s'.heap.get? b=some o)->oX s s'->(∀o,s.heap.get? I≠some o)->(∀b∈fp,b=S\/∀o,s.heap.get? b≠some o) ->
   (∃arr:Array (Int×ae),arr.toList.Perm es.toList/\P=oo arr)->(∀i h,St i h->(∃o,h.get? I=some o/\lG o)/\∀b∈fp,∃o,h.get? b=some o)->Q (.ref I) s'):wpAny (model prog w) A (pyIter (.ref S)) Q E s:=by
 obtain⟨⟨so,ep,t,ho,ss,hd,hf,hr,jI⟩,hb⟩:=hS
 have hT:s.TypeIs (.ref S) "set" :=⟨so,ho,ss.1⟩
 have wc:S<s.heap.objs.size:=bM ho
 refine jU hT qd (b4 qd hT SF.entry_set_iter ?_ (PySem.F.args_set_iter_1 _))
 rw[_i4]
 refine aa (ad ?_)
 unfold lR oD
 refine aa (aa (aa (bG ho hd hf (ad (ad ?_)))))
 dsimp only
 rw[_i5]
 refine aa (aa (bG ho hd hf ?_))
 unfold lK
 refine aa (aa (fg (ad (ad ?_))))
 by_cases r9:w.params.followText "set-order" = true
 ·refine _1s (by rw[show(({program:=(model prog w).prog,params:=(model prog w).w.params}:Setting).params.followText "set-order")=true from r9];simp) ?_
  refine aa (ad ?_)
  unfold uR
  refine aa (aa (bG ho hd hf (ad ?_)))
  refine aa (dc (ad ⟨_,rfl,"set_iterator", _,⟨_,aH _ rfl,rfl⟩,SF.slot_next.lookup,?_⟩))
  have gK:S≠s.heap.objs.size:=bQ wc
  refine h _ [s.heap.objs.size,S] _ _ _ (λA' hA=>_i1 hA gK hd hf r9) ⟨⟨_,aH _ rfl,rfl,rfl⟩,aG _ ho⟩ (λb o e=>aG _ e) ⟨rfl,rfl⟩ (_a _) (λb hb=>?_) ⟨_,_3Y _ _,rfl⟩ λi h st=>_7G st.1.setter ⟨_,st.2⟩
  ·simp only[aO,bj,or_false] at hb
   rcases hb with rfl | rfl
   ·exact .inr (_a _)
   ·exact .inl rfl
 ·have v_:w.params.followText "set-order" = false:=by simpa using r9
  by_cases k_:(!t.plain&&decide (es.size > 1))=true
  ·refine _40 (by rw[show(({program:=(model prog w).prog,params:=(model prog w).w.params}:Setting).params.followText "set-order")=false from v_,k_];rfl) ?_
   refine aa (_7z _ _ _ _ (aY ..) λpl s1 ek hp=>?_)
   have e1:=ek.h
   have wD:pl.length=es.size:=by rw[hp.length_eq,aY]
   refine aa (wpAny_newTuple ?_ (by rw[ac,wD,cY];unfold fj at hb;exact _5g hb))
   have vC:s1.heap.get? S=some so:=by rw[e1];exact ho
   have ho2:=aG (h:=s1.heap) {cls:=.type "tuple", data:=.seq (pl.map λ(i:Nat)=>rawInt (i:Int)).toArray} vC
   unfold uR
   refine aa (aa (bG (s:={s1 with heap:=s1.heap.push _}) ho2 hd hf (ad ?_)))
   refine aa (dc (ad ⟨_,rfl,"set_iterator", _,⟨_,aH _ rfl,rfl⟩,SF.slot_next.lookup,?_⟩))
   have xt:s1.heap.objs.size=s.heap.objs.size:=by rw[e1]
   have hz2:(s1.heap.push {cls:=.type "tuple", data:=.seq (pl.map λ(i:Nat)=>rawInt (i:Int)).toArray}).objs.size=s.heap.objs.size+1:=by rw[fW,xt]
   have kk:∀b o,s.heap.get? b=some o->(s1.heap.push {cls:=.type "tuple", data:=.seq (pl.map λ(i:Nat)=>rawInt (i:Int)).toArray}).get? b=some o:=λb o e=>aG _ (by rw[e1];exact e)
   have hI:∀o,s.heap.get? (s1.heap.push {cls:=.type "tuple", data:=.seq (pl.map λ(i:Nat)=>rawInt (i:Int)).toArray}).objs.size≠some o:=λo e=>absurd (kk _ _ e) (_a _ _)
   refine h _ [(s1.heap.push {cls:=.type "tuple", data:=.seq (pl.map λ(i:Nat)=>rawInt (i:Int)).toArray}).objs.size,S,s1.heap.objs.size] _ _ _ (λA' hA=>_i3 hA ?_ ?_ hd hf rfl hp) ⟨⟨_,aH _ rfl,rfl,rfl⟩,aG _ ho2,aG _ (aH _ rfl)⟩ (λb o e=>aG _ (kk b o e)) ⟨ek.os,ek.gens⟩ hI (λb hb=>?_) ⟨_,?_,rfl⟩ λi h st=>_i7 st.1.setter ⟨_,st.2.1⟩ ⟨_,st.2.2⟩
   ·rw[hz2];exact bQ (gV wc)
   ·rw[hz2,xt];exact bQ (cD _)
   ·simp only[aO,bj,or_false] at hb
    rcases hb with rfl | rfl | rfl
    ·exact .inr hI
    ·exact .inl rfl
    ·exact .inr λo e=>by rw[xt] at e;exact _a _ _ e
   ·have:=hp.filterMap (es[·]?)
    rw[filterMap_getElem?_range] at this
    simpa using this
  ·have wE:(!t.plain&&decide (es.size>1))=false:=by simpa using k_
   refine _1s (by rw[wE];simp) ?_
   refine aa (ad ?_)
   unfold uR
   refine aa (aa (bG ho hd hf (ad ?_)))
   refine aa (dc (ad ⟨_,rfl,"set_iterator", _,⟨_,aH _ rfl,rfl⟩,SF.slot_next.lookup,?_⟩))
   have gK:S≠s.heap.objs.size:=bQ wc
   refine h _ [s.heap.objs.size,S] _ _ _ (λA' hA=>_i2 hA gK hd hf v_ wE hr (jI v_)) ⟨⟨0,⟨_,aH _ rfl,rfl,rfl⟩,_hL hr⟩,aG _ ho⟩ (λb o e=>aG _ e) ⟨rfl,rfl⟩ (_a _) (λb hb=>?_) ⟨_,.refl _,rfl⟩ λi h st=>st.1.elim λsl a=>_7G a.1.setter ⟨_,st.2⟩
   ·simp only[aO,bj,or_false] at hb
    rcases hb with rfl | rfl
    ·exact .inr (_a _)
    ·exact .inl rfl
end
section
variable{prog:bS}{w:cy}{A:bB}{E:ae->ah->Prop}{s:ah}{S:ao}
theorem _i8{r:ao}{Q:Bool->ah->Prop}(hT:s.TypeIs (.ref r) "set")(h:Q false s):wpAny (model prog w) A (e8 (.ref r)) Q E s:=by
 unfold e8
 refine aa (fR hT PySem.F.slot_set_len.lookup ?_)
 generalize hid:("set.__len__" : String)=id0
 wp_delta
 rw[show splitId id0=some ("set", "__len__") from by subst hid;decide +kernel]
 subst hid
 refine aa (iN (T:="set") (b:=true) hT (by rw[jJ];kernel_rfl) ?_)
 refine qB (λtF=>absurd tF (by decide)) (λ_=>?_)
 refine qB (λ_=>?_) (λtF=>absurd (by decide +kernel) tF)
 refine aa (lJ hT ?_)
 exact ad h
noncomputable def k8(h h':a_):Prop:=∀b o,h.get? b=some o->h'.get? b=some o
theorem _i9{S r:ao}{T:String}{n:Nat}{PV:(Nat->ae->Prop)->Prop}{R:pY->ah->Prop}(hh:A.handled=none)(hT:s.TypeIs (.ref r) T)(nl:(Value.type T == Value.type "list")=false)(nt:(Value.type T == Value.type "tuple")=false)
  (v8:∀A E (s:ah) Q,s.TypeIs (.ref r) T->Q false s->wpAny (model prog w) A (e8 (.ref r)) Q E s) (hn:n<=b8) (hSr:S≠r) (w3:Nat) (hS:s.heap.get? S=some {cls:=.type "list", data:=.seq #[] w3}) (w5:ae)
  (iter:∀A E (Q':ae->ah->Prop),(∀I fp P St s',(∀A',A'.handled=none->sR prog w A' I fp [I] n P St)->St 0 s'.heap->k8 s.heap s'.heap->oX s s'->(∀o,s.heap.get? I≠some o)->(∀b∈fp,b=r\/∀o,s.heap.get? b≠some o)->PV P->Q' (.ref I) s')->wpAny (model prog w) A (pyIter (.ref r)) Q' E s)
  (hR:∀s' bV c' P,oX s s'->(∀b o,b≠S->s.heap.get? b=some o->s'.heap.get? b=some o)->s'.heap.get? S=some {cls:=.type "list", dict:=none,data:=.seq bV c',slots:=#[]} -> bV.size=n->(∀(j:Nat) v,bV[j]? = some v->P j v)->PV P->R (.ok (.ret w5)) s') :
  wpAny (model prog w) A.in1 (g8 (.ref S) (.ref r) w5)
   (λfin s'=>match fin with | .done f=>R (.ok f) s' | .again c'=>c'.quiet=true/\codeAny (model prog w) A c' R s') (λe s'=>R (.error e) s') s:=by
 unfold g8
 refine aa (lJ (T:=T) hT ?_)
 have h1:nw (.ref S) (.ref r)=false:=by simp[nw,hSr]
 simp only[h1,nl,nt,Bool.or_false,sZ,if_false]
 refine aa (iter _ _ _ λI fp P St s1 W st k kk hI t4 pv=>?_)
 have hSI:S≠I:=λe=>hI _ (e ▸ hS)
 have t5:S ∉ fp:=λhm=>by
  rcases t4 S hm with e | e
  ·exact hSr e
  ·exact e _ hS
 have ow:=k _ _ hS
 have hT1:s1.TypeIs (.ref r) T:=by obtain⟨o,ho,hc⟩:=hT;exact⟨o,k _ _ ho,hc⟩
 have key:∀(h:a_) (uM:Nat),St 0 h->(∀b o,b≠S->s.heap.get? b=some o->h.get? b=some o) ->
   h.get? S=some {cls:=.type "list", data:=.seq #[] uM} -> codeAny (model prog w) A (.builtin "list.extend.loop" ⟨[.ref S,.ref I,w5],[]⟩) R {s1 with heap:=h}:=by
  intro h uM hst hk ow
  refine codeAny_extend_loopS (W A.in1 hh).toS hn S t5 w5 n 0 _ #[] uM rfl (b0 _) hst ow (ItemsOf.nil _) λs' i5 c' hm rB hacc=>?_
  refine hR s' i5 c' P ⟨hm.os.trans kk.os,hm.gens.trans kk.gens⟩ (λb o hb e=>hm.heap b o (λhmem=>?_) (hk b o hb e)) rB hacc.1 hacc.2 pv
  rcases aO.mp hmem with e' | hmem
  ·exact hb e'
  ·obtain rfl:=aj.mp hmem
   exact hI _ e
 refine aa (aS (v8 _ _ _ _ hT1 ?_))
 refine qB (λ_=>?_) (λ_=>ad ⟨e7 oQ _,key s1.heap w3 st (λb o _ e=>k b o e) ow⟩)
 refine aa (gn ?_)
 refine aa ?_
 show wpAny _ _ (updateSeq S (·.push .none) >>= λ_=>updateSeq S (·.pop)) _ _ _
 refine aa (wpAny_updateSeq ow rfl ?_)
 have vH:=bR (fk (·.push Value.none)) ow rfl
 refine wpAny_updateSeq (hz:=by seq_fits) vH rfl ?_
 have wZ:=bR (fk (·.pop)) vH rfl
 refine ad ⟨e7 oQ _,key _ _ ?_ (λb o hb e=>?_) wZ⟩
 ·refine(W A hh).frame 0 _ _ st λb hb o e=>?_
  have hbS:b≠S:=λh=>t5 (h ▸ hb)
  exact(gQ _ _ (kL hbS)).trans ((gQ _ _ (kL hbS)).trans e)
 ·exact(gQ _ _ (kL hb)).trans ((gQ _ _ (kL hb)).trans (k b o e))
theorem _7I{r:ao}{T:String}{n:Nat}{PV:(Nat->ae->Prop)->Prop}{R:List ae->ah->Prop}(hh:A.handled=none)(hT:s.TypeIs (.ref r) T)(nl:(Value.type T == Value.type "list")=false)(nt:(Value.type T == Value.type "tuple")=false)
  (v8:∀A E (s:ah) Q,s.TypeIs (.ref r) T->Q false s->wpAny (model prog w) A (e8 (.ref r)) Q E s) (hn:n<=b8)
  (iter:∀A E (s1:ah) (Q':ae->ah->Prop),k8 s.heap s1.heap->(∀I fp P St s',(∀A',A'.handled=none->sR prog w A' I fp [I] n P St)->St 0 s'.heap->k8 s1.heap s'.heap->oX s1 s'->(∀o,s1.heap.get? I≠some o)->(∀b∈fp,b=r\/∀o,s1.heap.get? b≠some o)->PV P->Q' (.ref I) s')->wpAny (model prog w) A (pyIter (.ref r)) Q' E s1)
  (h:∀s' (bV:Array ae) P,k8 s.heap s'.heap->oX s s'->bV.size=n->(∀(j:Nat) v,bV[j]? = some v->P j v)->PV P->R bV.toList s'):wpAny (model prog w) A (collect (.ref r)) R E s:=by
 have fO:r < s.heap.objs.size:=by obtain⟨o,ho,_⟩:=hT;exact bM ho
 unfold collect
 refine aa (wpAny_runValue (dP entry_proto_collect' ?_))
 rw[cQ PySem.F.plain_proto_collect _]
 show wpAny _ A.in1 (newList [] >>= λl=>again (.builtin "list.__iadd__" ⟨[l,.ref r],[]⟩)) _ _ s
 refine aa (dc ?_)
 refine ad ⟨e7 pA _,dP entry_list_iadd' ?_⟩
 rw[cQ pA _]
 have k1:k8 s.heap (s.heap.push {cls:=.type "list", data:=.seq ([]:List ae).toArray}):=λb o e=>aG _ e
 have ow:(s.heap.push {cls:=.type "list", data:=.seq ([]:List ae).toArray}).get? s.heap.objs.size=some {cls:=.type "list", data:=.seq #[]}:=aH _ rfl
 show wpAny _ A.in1 (g8 (.ref s.heap.objs.size) (.ref r) (.ref s.heap.objs.size)) _ _ _
 have key:=_i9 (A:=A) (prog:=prog) (w:=w) (s:={s with heap:=s.heap.push {cls:=.type "list", data:=.seq ([]:List ae).toArray}}) (n:=n) (PV:=PV)
  (R:=λ(q:pY) (s':ah)=>∃(i5:Array ae) (c':Nat) (P:Nat->ae->Prop),q = .ok (.ret (.ref s.heap.objs.size))/\k8 s.heap s'.heap/\oX s s'/\s'.heap.get? s.heap.objs.size=some {cls:=.type "list", dict:=none,data:=.seq i5 c',slots:=#[]} /\ i5.size=n/\(∀(j:Nat) v,i5[j]? = some v->P j v)/\PV P)
  hh (by obtain⟨o,ho,hc⟩:=hT;exact⟨o,k1 _ _ ho,hc⟩) nl nt v8 hn (S:=s.heap.objs.size) (nJ fO) 0 ow (.ref s.heap.objs.size)
  (λA E Q' h=>iter A E _ Q' k1 h)
  (λs' i5 c' P kk hk rB h1 h2 h3=>⟨i5,c',P,rfl,λb o e=>hk b o (bQ (bM e)) (k1 b o e),⟨kk.os,kk.gens⟩,rB,h1,h2,h3⟩)
 refine cx key (λfin s' x=>?_) λe s' x=>?_
 ·cases fin with
  | done f=>
   obtain⟨i5,c',P,e,hk,kk,rB,h1,h2,h3⟩:=x
   cases e
   show wpAny _ A (load s.heap.objs.size >>= _) _ _ _
   refine aa (oA rB ?_)
   exact ad (h s' i5 P hk kk h1 h2 h3)
  | again uM=>
   refine⟨x.1,tK x.2 λq s₂ y=>?_⟩
   obtain⟨i5,c',P,rfl,hk,kk,rB,h1,h2,h3⟩:=y
   show wpAny _ A (load s.heap.objs.size >>= _) _ _ _
   refine aa (oA rB ?_)
   exact ad (h s₂ i5 P hk kk h1 h2 h3)
 ·obtain⟨_,_,_,e',_⟩:=x
  cases e'
theorem _42{r:ao}{PV:List ae->Prop}{SO:List ae->List ae->Prop}{Q:ae->ah->Prop}(few:∀vals,PV vals->vals.length<64)
  (hc:∀(R:List ae->ah->Prop),(∀vals s',k8 s.heap s'.heap->oX s s'->PV vals->R vals s')->wpAny (model prog w) A.in1 (collect (.ref r)) R E s)
  (srt:∀vals (s1:ah) (L:ao) (P:Fin->ah->Prop) E,PV vals->k8 s.heap s1.heap->(∀o,s.heap.get? L≠some o)->s1.heap.get? L=some (seqObj "list" vals.toArray 0) ->
   (∀out:Array ae,SO vals out.toList->P (.done (.ret .none)) {s1 with heap:=sortedHeap s1.heap L vals out})->wpAny (model prog w) A.in1.in1 (Builtin.«list.sort» ⟨[.ref L],[]⟩) P E s1)
  (h:∀(m:ao) vals (out:Array ae) (e:Nat) s',k8 s.heap s'.heap->oX s s'->(∀o,s.heap.get? m≠some o)->s'.heap.get? m=some (listOf out e)->PV vals->SO vals out.toList->Q (.ref m) s') :
  wpAny (model prog w) A (call (.builtin "sorted") [.ref r]) Q E s:=by
 refine call_function_entry kind_sorted plain_sorted entry_sorted (args_sorted1 _) ?_
 unfold Builtin.«sorted»
 refine aa (m:=checkCount "sorted" 1 1 _) (ad ?_)
 refine aa (hc _ λvals s1 k kk pv=>?_)
 have cL:=few vals pv
 refine aa (wpAny_newList ?_ (by rw[cY];exact _1Y cL))
 have uE:(s1.heap.push (seqObj "list" vals.toArray 0)).get? s1.heap.objs.size=some (seqObj "list" vals.toArray 0):=aH _ rfl
 have mK:∀o,s.heap.get? s1.heap.objs.size≠some o:=λo e=>absurd (k _ _ e) (_a _ _)
 refine aa (aS (b4 slot_list_sort ⟨_,uE,rfl⟩ entry_list_sort (srt vals _ _ _ _ pv (λb o e=>aG _ (k b o e)) mK uE λout so=>⟨_,rfl,?_⟩) (args_list_sort _)))
 obtain⟨e,he⟩:=sortedHeap_at (out:=out) uE
 refine ad ⟨_,rfl,h _ vals out e _ (λb o ho=>?_) ⟨kk.os,kk.gens⟩ mK he pv so⟩
 have fO:=bM (k _ _ ho)
 show(sortedHeap (s1.heap.push _) s1.heap.objs.size vals out).get? b=some o
 rw[sortedHeap_old (bQ fO) (by rw[fW];exact gV fO)]
 exact aG _ (k _ _ ho)
end
section
variable{c:Cx}{d:Nat}{σ:af}{Q:AV->af->Prop}{A:bB}{E:ae->ah->Prop}{s:ah}{Fz:Fzn}
theorem _ia{S:ao}{es:Array (Int×ae)}{R:List ae->ah->Prop}(hh:A.handled=none)(hS:sg c.w s.heap S es)(h:∀vals s',k8 s.heap s'.heap->oX s s'->vals.Perm (es.toList.map (·.2))->R vals s'):wpAny c.M A (collect (.ref S)) R E s:=by
 have hb:=hS.few
 have xR:=hS
 obtain⟨⟨so,ep,t,ho,ss,_⟩,_⟩:=xR
 refine _7I (T:="set") (n:=es.size) (PV:=λP=>∃arr:Array (Int×ae),arr.toList.Perm es.toList/\P=oo arr) hh ⟨so,ho,ss.1⟩ (by decide) (by decide) (λ_ _ _ _=>_i8)
  (by unfold fj at hb;rw[cY];exact _5g hb) (λA E s1 Q' k h=>?_) λs' bV P k kk h1 h2 h3=>?_
 ·exact _7H (hS.keep (k S)) λI fp P St s' W st k' kk hI t4 pv _=>h I fp P St s' W st k' kk hI t4 pv
 ·obtain⟨arr,hp,rfl⟩:=h3
  exact h _ s' k kk (_i6 hp bV.toList (by rw[aw,h1]) λj v e=>h2 j v (by rw[<-a0];exact e))
theorem _ib{es:List (Int×ae)}(h:pf (intKind c.prog c.w) es):IntsAre (es.map (·.2)) (es.map λe=>iK e.2):=by
 induction es with
 | nil=>exact .nil
 | cons a l ih=>
  obtain⟨k,t,rfl⟩:=_7m h (aE)
  exact .cons k t (ih h.tail)
theorem _7J{l:List ae}{ms:List Int}(h:IntsAre l ms){vals:List ae}(p:vals.Perm l):∃ns,IntsAre vals ns/\ns.Perm ms:=by
 refine⟨vals.map iK,?_,?_⟩
 ·have:∀v∈l,∃k t,v = .int k t:=by
   clear p
   induction h with
   | nil=>exact λ_ x=>nomatch x
   | cons k t _ ih=>
    intro v hv
    rcases aO.mp hv with rfl | hv
    ·exact⟨_,_,rfl⟩
    ·exact ih v hv
  have g:∀vs:List ae,(∀v∈vs,∃k t,v = .int k t)->IntsAre vs (vs.map iK):=by
   intro vs
   induction vs with
   | nil=>exact λ_=>.nil
   | cons v r ih=>
    intro q
    obtain⟨k,t,rfl⟩:=q v (aE)
    exact .cons k t (ih λv hv=>q v (aA _ hv))
  exact g vals λv hv=>this v (p.mem_iff.mp hv)
 ·have e:ms=l.map iK:=by
   clear p
   induction h with
   | nil=>rfl
   | cons k t _ ih=>rw[aJ,<-ih];rfl
  rw[e];exact p.map _
theorem kl.o{h:a_}{a:ao}{l:List Int}(x:kl c.prog c.w h a l):∃es,sg c.w h a es/\IntsAre (es.toList.map (·.2)) l:=by
 obtain⟨so,es,ep,t,ho,ss,hd,tC,rfl,hn,hb,hf,hr,hl⟩:=x
 exact⟨es,⟨⟨so,ep,t,ho,ss,hd,hf,hr,hl⟩,by rw[ac,aw] at hb;exact hb⟩,_ib tC⟩
theorem _ic{l:ao}{ns:List Int}(e:σ l=some (.setI ns))(hz:ns.length<64)(h:∀(m:ao) (ms:List Int),ms.Perm ns->ms.Pairwise (· <= ·)->σ m=none->Q (.ref m) (σ.set m (.list (cJ ms)))):br c d (.raw (.builtin "sorted")) [.ref l] σ Q:=by
 refine _6 [.b _,.r _] λA Fz s P E G kk=>?_
 obtain⟨es,hO,hI0⟩:=kl.o (G.st.cell _ _ e)
 refine _42 (PV:=λvals=>∃ms,IntsAre vals ms/\ms.Perm ns) (SO:=λ_ out=>∃ms,IntsAre out ms/\ms.Perm ns/\ms.Pairwise (· <= ·)) (λvals ⟨ms,a1,a2⟩=>by rw[a1.length,a2.length_eq];exact hz)
  (λR k=>_ia G.room.hn hO λvals s' k1 k2 p=>k vals s' k1 k2 (_7J hI0 p))
  (λvals s1 L P E ⟨ms,a1,a2⟩ _ _ uE k=>list_sort_tree uE a1 (by rw[a1.length,a2.length_eq];exact hz) λout ns' b1 b2 b3=>k out ⟨ns',b1,b2.trans a2,b3⟩)
  λm vals out ee s' k kp mK hat _ ⟨ms,b1,b2,b3⟩=>kk.newS (G.st.new (c:=.list (cJ ms)) mK k ⟨out,ee,hat,_2v b1⟩) kp.os kp.gens λm=>h m ms b2 b3
end
noncomputable def pM(c:Cx)(l:ao)(ns:List Int):Prop:=∃vals:List ae,c.h₀.IsList l vals.toArray/\IntsAre vals ns
section
variable{c:Cx}{d:Nat}{σ:af}{Q:AV->af->Prop}{A:bB}{E:ae->ah->Prop}{s:ah}{Fz:Fzn}
theorem _id{l:ao}{ns:List Int}(H:pM c l ns)(qz:Bs c Fz)(S:St c.prog c.w Fz σ s.heap):∃its:Array ae,s.heap.IsList l its/\RVs s.heap its.toList (cJ ns):=by
 obtain⟨vals,⟨o,ho,r⟩,hI⟩:=H
 exact⟨vals.toArray,⟨o,S.fz _ _ (qz _ _ ho),r⟩,by simpa using _2v hI⟩
theorem _ie{l:ao}{ns:List Int}{lo hi:AV}(H:pM c l ns)(hl:jD lo=true)(hh:jD hi=true)(hz:bp ns.length)(h:∀m,σ m=none->Q (.ref m) (σ.set m (.list (iI (cJ ns) lo hi)))):gN c d (.ref l) (.slice lo hi .none) σ Q:=by
 refine _6 [.r _,.x _] λA Fz s P E G k iv rx=>?_
 obtain⟨sa,lov,hiv,stv,rfl,he,rlo,rhi,rst⟩:=rx
 obtain rfl:stv = .none:=rst
 obtain⟨its,nF,ri⟩:=_id H G.bs G.st
 exact _Q nF.typeIs (λq=>nomatch q) slot_list_getitem.lookup (ky (st:=none) nF ⟨_,he,rfl,rfl⟩ (_2l rlo hl) (_2l rhi hh) .none (λq=>nomatch q)
  (k.new (_2i (its:=kX its (jA lo) (jA hi) none) (ys:=iI (cJ ns) lo hi) G.st (by rw[_71 hl hh];exact ri.ofSlc lo hi)) h) (by rw[_q ri,cJ,ac];exact hz.le))
theorem _if(ns:List Int)(k:Nat):iI (cJ ns) .none (.int k)=cJ (ns.take k):=by
 unfold iI uw uu lD cJ
 dsimp only
 rw[if_neg (by exact _15),lq,qg,ac]
 refine d6 λi=>?_
 simp only[List.getElem?_take]
 rw[cb]
 by_cases h1:i < k
 ·by_cases h2:i < ns.length
  ·rw[if_pos (by exact _aR h1 h2),if_pos h1]
  ·rw[if_neg (by exact _aS h2),if_pos h1,da (by simp;exact _aT h2)]
 ·rw[if_neg (by exact _aU h1),if_neg h1]
end
noncomputable abbrev aU:=List (ao×cG)
noncomputable def aU.at(l:aU):List ao:=l.map (·.1)
structure At(σ:af)(l:aU):Prop where
 nd:l.at.Nodup
 is:∀x∈l,σ x.1=some x.2
theorem At.get{σ:af}{l:aU}(h:At σ l){a:ao}{c:cG}(m:(a,c)∈l):σ a=some c:=h.is _ m
inductive Upd(a:ao)(c':cG):aU->aU->Prop
 | head {c:cG} {r:aU}:Upd a c' ((a,c)::r) ((a,c')::r)
 | tail {x:ao×cG} {r r':aU}:Upd a c' r r'->Upd a c' (x::r) (x::r')
 | right {p r r':aU}:Upd a c' r r'->Upd a c' (p++r) (p++r')
 | left {p p' r:aU}:Upd a c' p p'->Upd a c' (p++r) (p'++r)
theorem Upd.at{a:ao}{c':cG}{l l':aU}(u:Upd a c' l l'):l'.at=l.at/\a∈l.at:=by
 induction u with
 | head=>exact⟨rfl,by simp[aU.at]⟩
 | tail _ ih=>exact⟨by simp only[aU.at,aJ] at ih ⊢;rw[ih.1],by simp only[aU.at,aJ] at ih ⊢;exact aA _ ih.2⟩
 | right _ ih=>exact⟨by simp only[aU.at,aM] at ih ⊢;rw[ih.1],by simp only[aU.at,aM] at ih ⊢;exact aT _ ih.2⟩
 | left _ ih=>exact⟨by simp only[aU.at,aM] at ih ⊢;rw[ih.1],by simp only[aU.at,aM] at ih ⊢;exact a8 _ ih.2⟩
theorem Upd.is{a:ao}{c':cG}{l l':aU}(u:Upd a c' l l'):l.at.Nodup->∀x∈l',x=(a,c')\/(x.1≠a/\x∈l):=by
 have off:∀{r:aU} {x:ao×cG},a ∉ r.at->x∈r->x.1≠a:=λh hx e=>h (e ▸ aq.mpr ⟨_,hx,rfl⟩)
 induction u with
 | head=>
  intro nd x hx
  simp only[aU.at,aJ,bC] at nd
  rcases aO.mp hx with e | hx
  ·exact .inl e
  ·exact .inr ⟨off nd.1 hx,aA _ hx⟩
 | tail u ih=>
  intro nd x hx
  simp only[aU.at,aJ,bC] at nd
  rcases aO.mp hx with rfl | hx
  ·exact .inr ⟨λe=>nd.1 (e ▸ u.at.2),aE⟩
  ·exact(ih nd.2 x hx).imp id λy=>⟨y.1,aA _ y.2⟩
 | right u ih=>
  intro nd x hx
  simp only[aU.at,aM,cg] at nd
  rcases aK.mp hx with hx | hx
  ·exact .inr ⟨λe=>nd.2.2 _ (e ▸ aq.mpr ⟨x,hx,rfl⟩) _ u.at.2 rfl,a8 _ hx⟩
  ·exact(ih nd.2.1 x hx).imp id λy=>⟨y.1,aT _ y.2⟩
 | left u ih=>
  intro nd x hx
  simp only[aU.at,aM,cg] at nd
  rcases aK.mp hx with hx | hx
  ·exact(ih nd.1 x hx).imp id λy=>⟨y.1,a8 _ y.2⟩
  ·exact .inr ⟨λe=>nd.2.2 _ u.at.2 _ (e ▸ aq.mpr ⟨x,hx,rfl⟩) rfl,aT _ hx⟩
theorem At.upd{σ:af}{l l':aU}{a:ao}{c':cG}(h:At σ l)(u:Upd a c' l l'):At (σ.set a c') l':=by
 refine⟨u.at.1 ▸ h.nd,λx hx=>?_⟩
 rcases u.is h.nd x hx with rfl | ⟨q,hx⟩
 ·exact af.set_self ..
 ·rw[af.set_ne _ _ q];exact h.is x hx
theorem At.fresh{σ:af}{l:aU}{a:ao}(h:At σ l)(n:σ a=none):a ∉ l.at:=λm=>by
 obtain⟨x,hx,rfl⟩:=aq.mp m
 rw[h.is x hx] at n;cases n
theorem At.new{σ:af}{l:aU}{a:ao}{c:cG}(h:At σ l)(n:σ a=none):At (σ.set a c) ((a,c)::l):=by
 have nf:=h.fresh n
 refine⟨bC.mpr ⟨nf,h.nd⟩,λx hx=>?_⟩
 rcases aO.mp hx with rfl | hx
 ·exact af.set_self ..
 ·rw[af.set_ne _ _ (λe:x.1=a=>nf (by rw[<-e];exact aq.mpr ⟨x,hx,rfl⟩))];exact h.is x hx
theorem At.sub{σ:af}{l l':aU}(h:At σ l)(s:l'.Sublist l):At σ l':=⟨h.nd.sublist (s.map _),λx hx=>h.is x (s.subset hx)⟩
theorem At.perm{σ:af}{l l':aU}(h:At σ l)(p:l'.Perm l):At σ l':=⟨(p.map _).nodup_iff.mpr h.nd,λx hx=>h.is x (p.mem_iff.mp hx)⟩
theorem At.nil{σ:af}:At σ []:=⟨.nil,λ_ h=>by cases h⟩
noncomputable def aU.heap(l:aU):af:=λa=>(l.find? λx=>x.1 == a).map (·.2)
theorem At.heap{l:aU}(nd:l.at.Nodup):At l.heap l:=by
 refine⟨nd,λx hx=>?_⟩
 unfold aU.heap
 induction l with
 | nil=>cases hx
 | cons y r ih=>
  simp only[aU.at,aJ,bC] at nd
  rw[kC]
  rcases aO.mp hx with rfl | hx
  ·simp
  ·rw[beq_false_of_ne (λe:y.1=x.1=>nd.1 (e ▸ aq.mpr ⟨x,hx,rfl⟩))]
   exact ih nd.2 hx
theorem _ig{l:aU}{σ:af}(h:At σ l):Sub l.heap σ:=by
 intro a c e
 unfold aU.heap at e
 obtain⟨x,hx,rfl⟩:=bt.mp e
 have h1:=List.mem_of_find?_eq_some hx
 have h2:=u7 hx
 rw[<-beq_iff_eq.mp h2]
 exact h.is x h1
theorem _ih{l:aU}{a:ao}:l.heap a=none ↔ a ∉ l.at:=by
 unfold aU.heap
 rw[jO,sV]
 constructor
 ·intro h m
  obtain⟨x,hx,rfl⟩:=aq.mp m
  exact h x hx (by simp)
 ·intro h x hx e
  exact h (aq.mpr ⟨x,hx,beq_iff_eq.mp e⟩)
noncomputable def Out(l l':aU)(σ aX:af):Prop:=∀a ce,a ∉ l.at->σ a=some ce->aX a=some ce/\a ∉ l'.at
theorem At.rest{σ aX:af}{l l' r:aU}(h:At σ (l++r))(h':At aX l')(o:Out l l' σ aX):At aX (l'++r):=by
 have nd:=h.nd
 simp only[aU.at,aM,cg] at nd
 have key:∀x∈r,aX x.1=some x.2/\x.1 ∉ l'.at:=λx hx=>o x.1 x.2 (λm=>nd.2.2 _ m _ (aq.mpr ⟨x,hx,rfl⟩) rfl) (h.is x (aT _ hx))
 refine⟨?_,λx hx=>?_⟩
 ·simp only[aU.at,aM,cg]
  refine⟨h'.nd,nd.2.1,λa ha b hb e=>?_⟩
  obtain⟨x,hx,rfl⟩:=aq.mp hb
  exact(key x hx).2 (e ▸ ha)
 ·rcases aK.mp hx with hx | hx
  ·exact h'.is x hx
  ·exact(key x hx).1
theorem At.mid{σ aX:af}{p l l' r:aU}(h:At σ (p++(l++r)))(h':At aX l')(o:Out l l' σ aX):At aX (p++(l'++r)):=by
 have e1:((l++(p++r)):aU).Perm (p++(l++r)):=by
  rw[<-aZ,<-aZ]
  exact(bY).append_right _
 have e2:((p++(l'++r)):aU).Perm (l'++(p++r)):=by
  rw[<-aZ,<-aZ]
  exact(bY).append_right _
 exact(At.rest (h.perm e1) h' o).perm e2
noncomputable def mI(c:Cx)(d:Nat)(o:OpK)(as:List AV)(l:aU)(P:AV->aU->Prop):Prop:=
 ∀(σ:af),At σ l->∀(Q:AV->af->Prop),(∀v l' aX,P v l'->At aX l'->Out l l' σ aX->Q v aX)->ct c d o as σ Q
structure DP(P:AV->aU->Prop)(v:AV)(σ:af):Prop where
 ex:∃l,P v l/\At σ l
theorem _i{P:AV->aU->Prop}{v:AV}{σ:af}{l:aU}(h:At σ l)(p:P v l):DP P v σ:=⟨l,p,h⟩
theorem _43{c:Cx}{d:Nat}{o:OpK}{as:List AV}{l:aU}{P:AV->aU->Prop}(h:∀σ,At σ l->ct c d o as σ (DP P)):mI c d o as l P:=
 λσ hA Q k=>_hv (h l.heap (At.heap hA.nd)) (_ig hA) (aD _) λv τ' aX ⟨l',p,pU⟩ s o=>k v l' aX p ⟨pU.nd,λx hx=>s _ _ (pU.is x hx)⟩ λa ce ha e=>
  have⟨h1,h2⟩:=o a ce (_ih.mpr ha) e
  ⟨h1,pU.fresh h2⟩
theorem _J{c:Cx}{d:Nat}{o:OpK}{as:List AV}{l:aU}{P:AV->aU->Prop}(h:∀σ (R:AV->af->Prop),(∀{v:AV} {l:aU} {aX:af},At aX l->P v l->R v aX)->At σ l->ct c d o as σ R):mI c d o as l P:=_43 λσ hA=>h σ (DP P) _i hA
noncomputable def aU.nth:aU->Nat->Option (ao×cG)
 | [],_=>none
 | x::_,0=>some x
 | _::l,i+1=>aU.nth l i
noncomputable def aU.put:aU->Nat->ao×cG->aU
 | [],_,_=>[]
 | _::l,0,y=>y::l
 | x::l,i+1,y=>x::aU.put l i y
theorem aU.mem:∀{l:aU} {i:Nat} {x:ao×cG},l.nth i=some x->x∈l
 | [],_,_,e=>_m e
 | _::_,0,_,e=>aB e ▸ .head _
 | _::l,i+1,_,e=>.tail _ (aU.mem (l:=l) (i:=i) e)
theorem At.nth{σ:af}{l:aU}(h:At σ l)(i:Nat){a:ao}{c:cG}(e:l.nth i=some (a,c)):σ a=some c:=h.is _ (aU.mem e)
theorem Upd.nth{a:ao}{c c':cG}:∀{l:aU} {i:Nat},l.nth i=some (a,c)->Upd a c' l (l.put i (a,c'))
 | [],_,e=>_m e
 | _::_,0,e=>aB e ▸ .head
 | _::l,i+1,e=>.tail (Upd.nth (l:=l) (i:=i) e)
theorem At.put{σ:af}{l:aU}(h:At σ l)(i:Nat){a:ao}{c:cG}(e:l.nth i=some (a,c))(c':cG):At (σ.set a c') (l.put i (a,c')):=h.upd (Upd.nth e)
theorem _j{σ:af}{l:aU}{m:ao}{ce:cG}{R:af->Prop}(hA:At σ l)(hm:σ m=none)(k:∀aX,At aX ((m,ce)::l)->R aX):R (σ.set m ce):=k _ (hA.new hm)
theorem _u{σ:af}{l:aU}{a:ao}{c0 ce:cG}{R:af->Prop}(hA:At σ l)(i:Nat)(e:l.nth i=some (a,c0))(k:∀aX,At aX (l.put i (a,ce))->R aX):R (σ.set a ce):=k _ (hA.put i e ce)
section
variable{c:Cx}{d:Nat}{m:Loc}{σ:af}{N:Loc->af->Prop}{R:AV->af->Prop}{Q:AV->af->Prop}
theorem _7K{P:(Nat->Loc->af->Prop)->Nat->Loc->af->Prop}(I:Nat->Loc->af->Prop)(n:Nat)(h0:I n m σ)(h:∀n m' σ,I n m' σ->P I n m' σ):∃I:Nat->Loc->af->Prop,(∃j,I j m σ)/\∀j m' σ,I j m' σ->P I j m' σ:=⟨I,⟨n,h0⟩,h⟩
theorem _z{β:Type}{keep:af->Prop}{body:AV->β->af->(β->af->Prop)->Prop}{items:List AV}{b:β}{Q:β->af->Prop}(I:Nat->β->af->Prop)(h0:I 0 b σ)(hk:∀i b σ,I i b σ->keep σ)
  (hs:∀i x b σ (k:β->af->Prop),items[i]? = some x->I i b σ->(∀b' aX,I (i+1) b' aX->k b' aX)->body x b σ k) (he:∀b σ,I items.length b σ->Q b σ):compLoop keep body items b σ Q:=by
 have gen:∀(rest:List AV) (i:Nat) (b:β) (σ:af),items.drop i=rest->i+rest.length=items.length->I i b σ->compLoop keep body rest b σ Q:=by
  intro rest
  induction rest with
  | nil=>exact λi b σ e el hI=>⟨hk _ _ _ hI,he _ _ (by rw[<-el];exact hI)⟩
  | cons x r ih=>
   intro i b σ e el hI
   obtain⟨h1,h2⟩:=_0d e
   exact⟨hk _ _ _ hI,hs i x b σ _ h1 hI λb' aX hI'=>ih (i+1) b' aX h2 (by rw[<-el,aP,mf,Nat.add_comm 1]) hI'⟩
 exact gen items 0 b σ rfl (i6 _) h0
theorem _ii{a b:Prop}(h:a):if true=true then a else b:=by rw[if_pos rfl];exact h
theorem _ij{a b:Prop}(h:b):if false=true then a else b:=by rw[if_neg aR];exact h
theorem _7L{p:Prop}[Decidable p]{a b:Prop}(hp:p)(h:a):if decide p=true then a else b:=by rw[if_pos (decide_eq_true hp)];exact h
theorem _7M{p:Prop}[Decidable p]{a b:Prop}(hp:¬p)(h:b):if decide p=true then a else b:=by rw[if_neg (by rw[decide_eq_false hp];exact aR)];exact h
theorem _G{p:Prop}[Decidable p]{a b:Prop}(h1:p->a)(h2:¬p->b):if decide p=true then a else b:=by
 by_cases h:p
 ·exact _7L h (h1 h)
 ·exact _7M h (h2 h)
theorem _44{p:Prop}[Decidable p]{a b:Prop}(h1:p->b)(h2:¬p->a):if(!decide p)=true then a else b:=by
 by_cases h:p
 ·rw[decide_eq_true h];exact _ij (h1 h)
 ·rw[decide_eq_false h];exact _ii (h2 h)
theorem sl{l:List AV}(h:nK l.length 100=true):l.length<=b8:=ay (be h) (by rw[cY];decide)
theorem _02{l:List AV}(h:l.length<=100):l.length<=b8:=ay h (by rw[cY];decide)
theorem _1t{x C dd:ao}{f:List (String×AV)}{n:String}{av:AV}(ha:eH c C n)(hx:σ x=some (.inst C dd))(md:σ dd=some (.ns f))(hn:f.lookup n=some av)(ht:av.tame=true)(h:Q av σ):ct c d (.attr n) [.ref x] σ Q:=_6N ha hx md hn ht h
noncomputable def qr(c:Cx)(a:ao):Prop:=gU c (.ref a)
structure eP(c:Cx)(x:String)(v:ae):Prop where
 g:pO c x v
 k:gU c v
theorem eP.b{x i:String}(g:pO c x (.builtin i)):eP c x (.builtin i):=⟨g,.inl ⟨_,rfl⟩⟩
theorem eP.t{x i:String}(g:pO c x (.type i)):eP c x (.type i):=⟨g,.inr (.inl ⟨_,rfl⟩)⟩
theorem _4{x:String}{v:ae}{P:ae->Prop}(g:eP c x v)(h:P v):∃v,(pO c x v/\gU c v)/\P v:=⟨v,⟨g.g,g.k⟩,h⟩
theorem _l{i:String}{P:Prop}(h:P):(∃v,AV.raw (.builtin i) = .raw v/\gU c v)/\P:=⟨⟨_,rfl,.inl ⟨i,rfl⟩⟩,h⟩
theorem _1u{a:ao}{P:Prop}(hf:qr c a)(h:P):(∃v,AV.raw (.ref a) = .raw v/\gU c v)/\P:=⟨⟨_,rfl,hf⟩,h⟩
end
noncomputable def b9(l:List Nat):List AV:=l.map λ(n:Nat)=>AV.int (n:Int)
theorem _7(l:List Nat):(b9 l).length=l.length:=by simp[b9]
theorem oj.isFun{c:Cx}{nm:List String}{f:ao}{ps:List String}{body:ISs}(D:oj c nm f ps body):qr c f:=
 have⟨o,fd,ot,h⟩:=D.ex
 .inr (.inr (.inl ⟨f,o,fd,rfl,h.at',h.data⟩))
set_option genInjectivity false
set_option genSizeOf false
inductive Ko where
 | fn (Q:AV->af->Prop)
 | attr (n:String) (k:Ko) | not (k:Ko) | neg (k:Ko)
 | binL (op:pc) (b:IE) (m:Loc) (k:Ko) | binR (op:pc) (x:AV) (k:Ko)
 | cmpL (op:io) (b:IE) (m:Loc) (k:Ko) | cmpR (op:io) (x:AV) (k:Ko)
 | cmp2L (op:io) (b:IE) (jM:io) (e:IE) (m:Loc) (k:Ko) | cmp2R (op:io) (x:AV) (jM:io) (e:IE) (m:Loc) (k:Ko)
 | bools (op:BoolOp) (r:IEs) (m:Loc) (k:Ko)
 | subL (i:IE) (m:Loc) (k:Ko) | subR (x:AV) (k:Ko)
 | slc1 (h st:IE) (m:Loc) (k:Ko) | slc2 (y:AV) (st:IE) (m:Loc) (k:Ko) | slc3 (y z:AV) (k:Ko)
 | meth (n:String) (l:IEs) (m:Loc) (k:Ko)
 | comp (elt:IE) (t:Tgt) (en:Bool) (cond:IE) (m:Loc) (k:Ko)
 | elt (r:IEs) (m:Loc) (k:Ko)
 | cons (v:AV) (k:Ko) | tup (k:Ko) | list (k:Ko) | dict1 (k:Ko) | call (v:ae) (k:Ko) | callM (fv:AV) (first:List AV) (k:Ko)
 -- statements
 | stop (N:Loc->af->Prop) | seq (r:ISs) (s:Ko)
 | expr (m:Loc) (s:Ko) | assign (t:Tgt) (m:Loc) (s:Ko)
 | as1 (o i:IE) (m:Loc) (s:Ko) | as2 (v:AV) (i:IE) (m:Loc) (s:Ko) | as3 (v ov:AV) (m:Loc) (s:Ko)
 | at1 (o:IE) (n:String) (m:Loc) (s:Ko) | at2 (v:AV) (n:String) (m:Loc) (s:Ko)
 | iteS (a b:ISs) (m:Loc) (s:Ko) | each (t:Tgt) (en:Bool) (b:ISs) (m:Loc) (s:Ko)
 | loop (b:ISs) (I:Nat->Loc->af->Prop) (n:Nat) (m m':Loc) (s:Ko)
inductive Foc where
 | ev (e:IE) (m:Loc) (k:Ko) | evs (l:IEs) (m:Loc) (k:Ko) | ret (v:AV) (k:Ko) | rets (vs:List AV) (k:Ko)
 | st (b:ISs) (m:Loc) (s:Ko) | done (m:Loc) (s:Ko)
section
variable(c:Cx)(d:Nat)(R:AV->af->Prop)
noncomputable def go:Nat->Foc->af->Prop
 | 0,_,_=>False
 | n+1,.ev e m k,σ=>match e with
  | .bad=>False
  | .none=>go n (.ret .none k) σ
  | .bool b=>go n (.ret (.bool b) k) σ
  | .int i=>go n (.ret (.int i) k) σ
  | .str x=>go n (.ret (.str x) k) σ
  | .var x=>match m.lookup x with
   | some av=>go n (.ret av k) σ
   | none=>False
  | .tup l=>go n (.evs l m (.tup k)) σ
  | .list l=>go n (.evs l m (.list k)) σ
  | .edict=>∃ce,emptyDict ce/\∀a,σ a=none->go n (.ret (.ref a) k) (σ.set a ce)
  | .dict1 l=>go n (.evs l m (.dict1 k)) σ
  | .bin op a b=>go n (.ev a m (.binL op b m k)) σ
  | .not a=>go n (.ev a m (.not k)) σ
  | .neg a=>go n (.ev a m (.neg k)) σ
  | .cmp a op b=>go n (.ev a m (.cmpL op b m k)) σ
  | .cmp2 a op b jM e=>go n (.ev a m (.cmp2L op b jM e m k)) σ
  | .bools op l=>match l with
   | .nil=>False
   | .cons e r=>match r with
    | .nil=>go n (.ev e m k) σ
    | .cons _ _=>go n (.ev e m (.bools op r m k)) σ
  | .sub a i=>go n (.ev a m (.subL i m k)) σ
  | .slc l h st=>go n (.ev l m (.slc1 h st m k)) σ
  | .attr a x=>go n (.ev a m (.attr x k)) σ
  | .call f l=>∃v,(pO c f v/\gU c v)/\go n (.evs l m (.call v k)) σ
  | .meth o x l=>go n (.ev o m (.meth x l m k)) σ
  | .comp elt t en jl cond=>EnW c en (go n (.ev jl m (.comp elt t en cond m k)) σ)
 | n+1,.evs l m k,σ=>match l with
  | .nil=>go n (.rets [] k) σ
  | .cons e r=>go n (.ev e m (.elt r m k)) σ
 | n+1,.ret v k,σ=>match k with
  | .fn Q=>Q v σ
  | .attr x k=>ct c d (.attr x) [v] σ λv σ=>go n (.ret v k) σ
  | .not k=>dN v λb=>go n (.ret (.bool (!b)) k) σ
  | .neg k=>ct c d .neg [v] σ λv σ=>go n (.ret v k) σ
  | .binL op b m k=>go n (.ev b m (.binR op v k)) σ
  | .binR op x k=>ct c d (.bin op) [x,v] σ λv σ=>go n (.ret v k) σ
  | .cmpL op b m k=>go n (.ev b m (.cmpR op v k)) σ
  | .cmpR op x k=>ct c d (.cmp op) [x,v] σ λv σ=>go n (.ret v k) σ
  | .cmp2L op b jM e m k=>go n (.ev b m (.cmp2R op v jM e m k)) σ
  | .cmp2R op x jM e m k=>ct c d (.cmp op) [x,v] σ λr σ=>dN r λt=>if t=true then go n (.ev e m (.cmpR jM v k)) σ else go n (.ret r k) σ
  | .bools op r m k=>dN v λt=>match op,t with
   | .And,true=>go n (.ev (.bools op r) m k) σ
   | .Or,false=>go n (.ev (.bools op r) m k) σ
   | _,_=>go n (.ret v k) σ
  | .subL i m k=>go n (.ev i m (.subR v k)) σ
  | .subR x k=>ct c d .sub [x,v] σ λv σ=>go n (.ret v k) σ
  | .slc1 h st m k=>go n (.ev h m (.slc2 v st m k)) σ
  | .slc2 y st m k=>go n (.ev st m (.slc3 y v k)) σ
  | .slc3 y z k=>go n (.ret (.slice y z v) k) σ
  | .meth x l m k=>e6 c d v x σ λfv first=>(∃v,fv = .raw v/\gU c v)/\go n (.evs l m (.callM fv first k)) σ
  | .comp elt t en cond m k=>k9 c d en v σ λitems keep=>items.length<=b8 /\
    compLoop keep (λx bV σ q=>eC c d t x (m.cut (".0" :: t.names)) σ λm'=>go n (.ev cond m' (.fn λv aX=>dN v λok=>if ok=true then go n (.ev elt m' (.fn λv bI=>q (bV++[v]) bI)) aX else q bV aX)) σ)
     items ([]:List AV) σ (λbV bI=>∀a,bI a=none->go n (.ret (.ref a) k) (bI.set a (.list bV)))
  | .elt r m k=>go n (.evs r m (.cons v k)) σ
  | .expr m s=>go n (.done m s) σ
  | .assign t m s=>eC c d t v m σ λm'=>go n (.done m' s) σ
  | .as1 o i m s=>go n (.ev o m (.as2 v i m s)) σ
  | .as2 v' i m s=>go n (.ev i m (.as3 v' v m s)) σ
  | .as3 v' ov m s=>ct c d .setItem [ov,v,v'] σ λ_ σ=>go n (.done m s) σ
  | .at1 o x m s=>go n (.ev o m (.at2 v x m s)) σ
  | .at2 v' x m s=>ct c d (.setAttr x) [v,v'] σ λ_ σ=>go n (.done m s) σ
  | .iteS a b m s=>dN v λr=>if r=true then go n (.st a m s) σ else go n (.st b m s) σ
  | .each t en b m s=>k9 c d en v σ λitems keep=>
    compLoop keep (λx m' σ q=>eC c d t x m' σ λm'=>go n (.st b m' (.stop λm'' bI=>q (m.only m'') bI)) σ) items m σ λm' σ=>go n (.done m' s) σ
  | .loop b I j m m' s=>dN v λr=>if r=true then go n (.st b m' (.stop λm'' bI=>∃i,i < j/\I i (m.only m'') bI)) σ else go n (.done m' s) σ
  | _=>False
 | n+1,.rets vs k,σ=>match k with
  | .cons v k=>go n (.rets (v::vs) k) σ
  | .tup k=>vs.length<=b8/\go n (.ret (.tup vs) k) σ
  | .list k=>vs.length<=b8/\∀a,σ a=none->go n (.ret (.ref a) k) (σ.set a (.list vs))
  | .dict1 k=>mB vs λi v=>∀a,σ a=none->go n (.ret (.ref a) k) (σ.set a (.dictI [(i,v)]))
  | .call v k=>ct c d .call (.raw v::vs) σ λv σ=>go n (.ret v k) σ
  | .callM fv first k=>ct c d .call (fv::(first++vs)) σ λv σ=>go n (.ret v k) σ
  | _=>False
 | n+1,.st b m s,σ=>match b with
  | .nil=>go n (.done m s) σ
  | .cons a r=>match a with
   | .bad=>False
   | .expr e=>go n (.ev e m (.expr m (.seq r s))) σ
   | .assign t e=>go n (.ev e m (.assign t m (.seq r s))) σ
   | .asSub o i e=>go n (.ev e m (.as1 o i m (.seq r s))) σ
   | .asAttr o x e=>go n (.ev e m (.at1 o x m (.seq r s))) σ
   | .ret e=>go n (.ev e m (.fn R)) σ
   | .ite t a b=>go n (.ev t m (.iteS a b m (.seq r s))) σ
   | .loop t b=>∃I:Nat->Loc->af->Prop,(∃j,I j m σ)/\∀j m' σ,I j m' σ->go n (.ev t m' (.loop b I j m m' (.seq r s))) σ
   | .each t en jl b=>EnW c en (go n (.ev jl m (.each t en b m (.seq r s))) σ)
 | n+1,.done m s,σ=>match s with
  | .stop N=>N m σ
  | .seq r s=>go n (.st r m s) σ
  | _=>False
termination_by structural n=>n
noncomputable def on1(vs:List AV)(f:AV->Prop):Prop:=match vs with
 | [v]=>f v
 | _=>False
noncomputable def den:Ko->List AV->af->Prop
 | .fn Q=>λvs σ=>on1 vs λv=>Q v σ
 | .attr x k=>λvs σ=>on1 vs λv=>ct c d (.attr x) [v] σ λv σ=>den k [v] σ
 | .not k=>λvs σ=>on1 vs λv=>dN v λb=>den k [.bool (!b)] σ
 | .neg k=>λvs σ=>on1 vs λv=>ct c d .neg [v] σ λv σ=>den k [v] σ
 | .binL op b m k=>λvs σ=>on1 vs λv=>wpE c d b m σ λy σ=>ct c d (.bin op) [v,y] σ λv σ=>den k [v] σ
 | .binR op x k=>λvs σ=>on1 vs λv=>ct c d (.bin op) [x,v] σ λv σ=>den k [v] σ
 | .cmpL op b m k=>λvs σ=>on1 vs λv=>wpE c d b m σ λy σ=>ct c d (.cmp op) [v,y] σ λv σ=>den k [v] σ
 | .cmpR op x k=>λvs σ=>on1 vs λv=>ct c d (.cmp op) [x,v] σ λv σ=>den k [v] σ
 | .cmp2L op b jM e m k=>λvs σ=>on1 vs λv=>wpE c d b m σ λy σ=>ct c d (.cmp op) [v,y] σ λr σ=>dN r λt=>if t=true then wpE c d e m σ λz σ=>ct c d (.cmp jM) [y,z] σ λv σ=>den k [v] σ else den k [r] σ
 | .cmp2R op x jM e m k=>λvs σ=>on1 vs λv=>ct c d (.cmp op) [x,v] σ λr σ=>dN r λt=>if t=true then wpE c d e m σ λz σ=>ct c d (.cmp jM) [v,z] σ λv σ=>den k [v] σ else den k [r] σ
 | .bools op r m k=>λvs σ=>on1 vs λv=>dN v λt=>match op,t with
   | .And,true=>wpB c d op r m σ λv σ=>den k [v] σ
   | .Or,false=>wpB c d op r m σ λv σ=>den k [v] σ
   | _,_=>den k [v] σ
 | .subL i m k=>λvs σ=>on1 vs λv=>wpE c d i m σ λy σ=>ct c d .sub [v,y] σ λv σ=>den k [v] σ
 | .subR x k=>λvs σ=>on1 vs λv=>ct c d .sub [x,v] σ λv σ=>den k [v] σ
 | .slc1 h st m k=>λvs σ=>on1 vs λv=>wpE c d h m σ λz σ=>wpE c d st m σ λw σ=>den k [.slice v z w] σ
 | .slc2 y st m k=>λvs σ=>on1 vs λv=>wpE c d st m σ λw σ=>den k [.slice y v w] σ
 | .slc3 y z k=>λvs σ=>on1 vs λv=>den k [.slice y z v] σ
 | .meth x l m k=>λvs σ=>on1 vs λv=>e6 c d v x σ λfv first=>(∃v,fv = .raw v/\gU c v)/\mz c d l m σ λas σ=>ct c d .call (fv::(first++as)) σ λv σ=>den k [v] σ
 | .comp elt t en cond m k=>λvs σ=>on1 vs λv=>k9 c d en v σ λitems keep=>items.length<=b8 /\
    compLoop keep (λx bV σ q=>eC c d t x (m.cut (".0" :: t.names)) σ λm'=>wpE c d cond m' σ λv aX=>dN v λok=>if ok=true then wpE c d elt m' aX (λv bI=>q (bV++[v]) bI) else q bV aX)
     items ([]:List AV) σ (λbV bI=>∀a,bI a=none->den k [.ref a] (bI.set a (.list bV)))
 | .elt r m k=>λvs σ=>on1 vs λv=>mz c d r m σ λvs σ=>den k (v::vs) σ
 | .expr m s=>λvs σ=>on1 vs λ_=>denS s m σ
 | .assign t m s=>λvs σ=>on1 vs λv=>eC c d t v m σ λm'=>denS s m' σ
 | .as1 o i m s=>λvs σ=>on1 vs λv=>wpE c d o m σ λov σ=>wpE c d i m σ λiv σ=>ct c d .setItem [ov,iv,v] σ λ_ σ=>denS s m σ
 | .as2 v' i m s=>λvs σ=>on1 vs λv=>wpE c d i m σ λiv σ=>ct c d .setItem [v,iv,v'] σ λ_ σ=>denS s m σ
 | .as3 v' ov m s=>λvs σ=>on1 vs λv=>ct c d .setItem [ov,v,v'] σ λ_ σ=>denS s m σ
 | .at1 o x m s=>λvs σ=>on1 vs λv=>wpE c d o m σ λov σ=>ct c d (.setAttr x) [ov,v] σ λ_ σ=>denS s m σ
 | .at2 v' x m s=>λvs σ=>on1 vs λv=>ct c d (.setAttr x) [v,v'] σ λ_ σ=>denS s m σ
 | .iteS a b m s=>λvs σ=>on1 vs λv=>dN v λr=>if r=true then iH c d a m σ (λm σ=>denS s m σ) R else iH c d b m σ (λm σ=>denS s m σ) R
 | .each t en b m s=>λvs σ=>on1 vs λv=>k9 c d en v σ λitems keep=>
    compLoop keep (λx m' σ q=>eC c d t x m' σ λm'=>iH c d b m' σ (λm'' bI=>q (m.only m'') bI) R) items m σ λm' σ=>denS s m' σ
 | .loop b I j m m' s=>λvs σ=>on1 vs λv=>dN v λr=>if r=true then iH c d b m' σ (λm'' bI=>∃i,i < j/\I i (m.only m'') bI) R else denS s m' σ
 | .cons v k=>λvs σ=>den k (v::vs) σ
 | .tup k=>λvs σ=>vs.length<=b8/\den k [.tup vs] σ
 | .list k=>λvs σ=>vs.length<=b8/\∀a,σ a=none->den k [.ref a] (σ.set a (.list vs))
 | .dict1 k=>λvs σ=>mB vs λi v=>∀a,σ a=none->den k [.ref a] (σ.set a (.dictI [(i,v)]))
 | .call v k=>λvs σ=>ct c d .call (.raw v::vs) σ λv σ=>den k [v] σ
 | .callM fv first k=>λvs σ=>ct c d .call (fv::(first++vs)) σ λv σ=>den k [v] σ
 | _=>λ_ _=>False
where
 denS:Ko->Loc->af->Prop
 | .stop N=>λm σ=>N m σ
 | .seq r s=>λm σ=>iH c d r m σ (λm σ=>denS s m σ) R
 | _=>λ_ _=>False
noncomputable def mean:Foc->af->Prop
 | .ev e m k,σ=>wpE c d e m σ λv σ=>den c d R k [v] σ
 | .evs l m k,σ=>mz c d l m σ λvs σ=>den c d R k vs σ
 | .ret v k,σ=>den c d R k [v] σ
 | .rets vs k,σ=>den c d R k vs σ
 | .st b m s,σ=>iH c d b m σ (λm σ=>den.denS c d R s m σ) R
 | .done m s,σ=>den.denS c d R s m σ
end
section
variable{c:Cx}{d:Nat}{R:AV->af->Prop}
noncomputable def optP(o:Option AV)(q:AV->Prop):Prop:=match o with
 | some v=>q v
 | none=>False
theorem _ik{a:AV}{f g:Int->Prop}(h:qW a f)(k:∀i,f i->g i):qW a g:=by
 cases a with
 | int i=>exact k i h
 | _=>exact h.elim
theorem _7N{f g:Int->AV->Prop}:∀{l:List AV},mB l f->(∀i v,f i v->g i v)->mB l g
 | [],h,_=>h
 | [_],h,_=>h
 | _::_::_,h,k=>⟨h.1,_ik h.2 λi=>k i _⟩
theorem _7O{q q':AV->Prop}:∀{o:Option AV},optP o q->(∀v,q v->q' v)->optP o q'
 | none,h,_=>h
 | some v,h,k=>k v h
theorem _1v{v:AV}{q q':Bool->Prop}(h:dN v q)(k:∀b,q b->q' b):dN v q':=by
 unfold dN at *
 generalize pG v=o at *
 cases o with
 | none=>exact h
 | some b=>exact k b h
theorem _0g{v:AV}{a b a' b':Prop}(h:dN v λr=>if r=true then a else b)(ka:a->a')(kb:b->b'):dN v λr=>if r=true then a' else b':=
 _1v h λr=>match r with
  | true=>ka
  | false=>kb
theorem _7P{a:AV}{n:String}{σ:af}{Q Q':AV->List AV->Prop}(h:e6 c d a n σ Q)(k:∀f l,Q f l->Q' f l):e6 c d a n σ Q':=⟨λA Fz s v pl P E G r f=>h.run A Fz s v pl P E G r λx first fv as s' a b e q=>f x first fv as s' a b e (k _ _ q)⟩
theorem _2x{en:Bool}{a:AV}{σ:af}{Q Q':List AV->(af->Prop)->Prop}(h:k9 c d en a σ Q)(k:∀l p,Q l p->Q' l p):k9 c d en a σ Q':=by
 cases en with
 | true=>exact h.elim λl h=>h.elim λxs h=>⟨l,xs,h.1,h.2.1,h.2.2.1,k _ _ h.2.2.2⟩
 | false=>exact⟨λA Fz s v R E G r f=>h.run A Fz s v R E G r λit ai P s' items keep q=>f it ai P s' items keep (k _ _ q)⟩
theorem _2y{en:Bool}{P P':Prop}(h:EnW c en P)(k:P->P'):EnW c en P':=match en,h with
 | true,⟨g,p⟩=>⟨g,k p⟩
 | false,p=>k p
theorem _1w{β:Type}{keep:af->Prop}{body vK:AV->β->af->(β->af->Prop)->Prop}(hb:∀x b σ k k',(∀b σ,k b σ->k' b σ)->body x b σ k->vK x b σ k'){Q Q':β->af->Prop}(hq:∀b σ,Q b σ->Q' b σ):∀(l:List AV) {b:β} {σ:af},compLoop keep body l b σ Q->compLoop keep vK l b σ Q'
 | [],_,_,h=>⟨h.1,hq _ _ h.2⟩
 | _::l,_,_,h=>⟨h.1,hb _ _ _ _ _ (λ_ _=>_1w hb hq l) h.2⟩
theorem _il{a:AV}{n:Nat}{σ:af}{Q Q':List AV->Prop}(h:f_ c d a n σ Q)(k:∀l,Q l->Q' l):f_ c d a n σ Q':=⟨λA Fz s v P E G r f=>h.run A Fz s v P E G r λvs l s' a b e e2 q=>f vs l s' a b e e2 (k _ q)⟩
mutual
theorem _0r:∀(t:Tgt) {v:AV} {m:Loc} {σ:af} {k k':Loc->Prop},(∀m,k m->k' m)->eC c d t v m σ k->eC c d t v m σ k'
 | .bad,_,_,_,_,_,_,h=>h
 | .name _,_,_,_,_,_,f,h=>f _ h
 | .tup l,_,_,_,_,_,f,h=>_il h λ_=>ph l f
termination_by structural t=>t
theorem ph:∀(l:oh) {vs:List AV} {m:Loc} {σ:af} {k k':Loc->Prop},(∀m,k m->k' m)->jg c d l vs m σ k->jg c d l vs m σ k'
 | .nil,_,_,_,_,_,f,h=>f _ h
 | .cons _ _,[],_,_,_,_,_,h=>h
 | .cons t r,_::_,_,_,_,_,f,h=>_0r t (λ_=>ph r f) h
termination_by structural t=>t
end
theorem _im{x:String}{m:Loc}{σ:af}{Q Q':AV->af->Prop}(f:∀v σ,Q v σ->Q' v σ)(h:wpE c d (.var x) m σ Q):wpE c d (.var x) m σ Q':=_7O (q:=λv=>Q v σ) (q':=λv=>Q' v σ) h λ_=>f _ _
mutual
theorem _h:∀(e:IE) {m:Loc} {σ:af} {Q Q':AV->af->Prop},(∀v σ,Q v σ->Q' v σ)->wpE c d e m σ Q->wpE c d e m σ Q'
 | .bad=>λ_ h=>h
 | .none=>λf h=>f _ _ h
 | .bool _=>λf h=>f _ _ h
 | .int _=>λf h=>f _ _ h
 | .str _=>λf h=>f _ _ h
 | .var _=>λf h=>_im f h
 | .tup l=>λf h=>kG l (λ_ _ x=>⟨x.1,f _ _ x.2⟩) h
 | .list l=>λf h=>kG l (λ_ _ x=>⟨x.1,λa ha=>f _ _ (x.2 a ha)⟩) h
 | .edict=>λf h=>h.elim λce h=>⟨ce,h.1,λa ha=>f _ _ (h.2 a ha)⟩
 | .dict1 l=>λf h=>kG l (λ_ _ x=>_7N x λi v y a ha=>f _ _ (y a ha)) h
 | .bin _ a b=>λf h=>_h a (λ_ _=>_h b λ_ _ x=>_n x f) h
 | .not a=>λf h=>_h a (λ_ _ x=>_1v x λ_=>f _ _) h
 | .neg a=>λf h=>_h a (λ_ _ x=>_n x f) h
 | .cmp a _ b=>λf h=>_h a (λ_ _=>_h b λ_ _ x=>_n x f) h
 | .cmp2 a _ b _ e=>λf h=>_h a (λ_ _=>_h b λ_ _ x=>_n x λ_ _ y=>_0g y (_h e λ_ _ z=>_n z f) (f _ _)) h
 | .bools op l=>λf h=>q7 op l f h
 | .sub a i=>λf h=>_h a (λ_ _=>_h i λ_ _ x=>_n x f) h
 | .slc l h st=>λf x=>_h l (λ_ _=>_h h λ_ _=>_h st λ_ _=>f _ _) x
 | .attr a _=>λf h=>_h a (λ_ _ x=>_n x f) h
 | .call _ l=>λf h=>h.elim λv h=>⟨v,h.1,kG l (λ_ _ x=>_n x f) h.2⟩
 | .meth o _ l=>λf h=>_h o (λ_ _ x=>_7P x λ_ _ y=>⟨y.1,kG l (λ_ _ z=>_n z f) y.2⟩) h
 | .comp elt _ _ jl cond=>λf h=>_2y h (_h jl λ_ _ x=>_2x x λ_ _ y=>⟨y.1,by
  refine _1w (λ_ _ _ _ _ q h=>?_) (λ_ _ z a ha=>f _ _ (z a ha)) _ y.2
  exact _0r _ (λ_=>_h cond λ_ _ z=>_0g z (_h elt λ_ _=>q _ _) (q _ _)) h⟩)
termination_by structural e=>e
theorem kG:∀(l:IEs) {m:Loc} {σ:af} {Q Q':List AV->af->Prop},(∀v σ,Q v σ->Q' v σ)->mz c d l m σ Q->mz c d l m σ Q'
 | .nil=>λf h=>f _ _ h
 | .cons e r=>λf h=>_h e (λ_ _=>kG r λ_ _=>f _ _) h
termination_by structural l=>l
theorem q7(op:BoolOp):∀(l:IEs) {m:Loc} {σ:af} {Q Q':AV->af->Prop},(∀v σ,Q v σ->Q' v σ)->wpB c d op l m σ Q->wpB c d op l m σ Q'
 | .nil,_,_,_,_,_,h=>h
 | .cons e .nil,_,_,_,_,f,h=>_h e f h
 | .cons e (.cons e2 r),_,_,_,_,f,h=>_h e (λ_ _ x=>_1v x λt=>by
  cases op <;> cases t
  ·exact f _ _
  ·exact q7 .And (.cons e2 r) f
  ·exact q7 .Or (.cons e2 r) f
  ·exact f _ _) h
termination_by structural l=>l
end
mutual
theorem _in:∀(b:IS) {m:Loc} {σ:af} {N N':Loc->af->Prop},(∀m σ,N m σ->N' m σ)->wpS c d b m σ N R->wpS c d b m σ N' R
 | .bad=>λ_ h=>h
 | .expr e=>λf h=>_h e (λ_ _=>f _ _) h
 | .assign t e=>λf h=>_h e (λ_ _=>_0r t λ_=>f _ _) h
 | .asSub o i e=>λf h=>_h e (λ_ _=>_h o λ_ _=>_h i λ_ _ x=>_n x λ_ _=>f _ _) h
 | .asAttr o _ e=>λf h=>_h e (λ_ _=>_h o λ_ _ x=>_n x λ_ _=>f _ _) h
 | .ret _=>λ_ h=>h
 | .ite t a b=>λf h=>_h t (λ_ _ x=>_0g x (lW a f) (lW b f)) h
 | .loop t b=>λf h=>h.elim λI h=>⟨I,h.1,λn m' σ hI=>_h t (λ_ _ x=>_0g x id (f _ _)) (h.2 n m' σ hI)⟩
 | .each _ _ jl b=>λf h=>_2y h (_h jl λ_ _ x=>_2x x λ_ _ y=>by
  refine _1w (λ_ _ _ _ _ q h=>?_) (λ_ _=>f _ _) _ y
  exact _0r _ (λ_=>lW b λ_ _=>q _ _) h)
termination_by structural b=>b
theorem lW:∀(b:ISs) {m:Loc} {σ:af} {N N':Loc->af->Prop},(∀m σ,N m σ->N' m σ)->iH c d b m σ N R->iH c d b m σ N' R
 | .nil=>λf h=>f _ _ h
 | .cons a r=>λf h=>_in a (λ_ _=>lW r f) h
termination_by structural b=>b
end
theorem _3:∀(n:Nat) (f:Foc) (σ:af),go c d R n f σ->mean c d R f σ
 | 0,_,_=>λh=>h.elim
 | n+1,.ev e m k,σ=>match e with
  | .bad=>λh=>h
  | .none=>λh=>(_3 n _ _ h :)
  | .bool _=>λh=>(_3 n _ _ h :)
  | .int _=>λh=>(_3 n _ _ h :)
  | .str _=>λh=>(_3 n _ _ h :)
  | .var x=>λh=>_7O (q:=λv=>go c d R n (.ret v k) σ) (q':=λv=>den c d R k [v] σ) h λv=>_3 n (.ret v k) _
  | .tup _=>λh=>(_3 n _ _ h :)
  | .list _=>λh=>(_3 n _ _ h :)
  | .edict=>λh=>h.elim λce h=>⟨ce,h.1,λa ha=>_3 n (.ret _ _) _ (h.2 a ha)⟩
  | .dict1 _=>λh=>(_3 n _ _ h :)
  | .bin _ _ _=>λh=>(_3 n _ _ h :)
  | .not _=>λh=>(_3 n _ _ h :)
  | .neg _=>λh=>(_3 n _ _ h :)
  | .cmp _ _ _=>λh=>(_3 n _ _ h :)
  | .cmp2 _ _ _ _ _=>λh=>(_3 n _ _ h :)
  | .bools _ .nil=>λh=>h
  | .bools _ (.cons _ .nil)=>λh=>(_3 n _ _ h :)
  | .bools _ (.cons _ (.cons _ _))=>λh=>(_3 n _ _ h :)
  | .sub _ _=>λh=>(_3 n _ _ h :)
  | .slc _ _ _=>λh=>(_3 n _ _ h :)
  | .attr _ _=>λh=>(_3 n _ _ h :)
  | .call _ _=>λh=>h.elim λv h=>⟨v,h.1,_3 n (.evs _ _ _) _ h.2⟩
  | .meth _ _ _=>λh=>(_3 n _ _ h :)
  | .comp _ _ _ _ _=>λh=>_2y h (_3 n _ _)
 | n+1,.evs l m k,σ=>match l with
  | .nil=>λh=>(_3 n _ _ h :)
  | .cons _ _=>λh=>(_3 n _ _ h :)
 | n+1,.ret v k,σ=>match k with
  | .fn _=>λh=>h
  | .attr _ _=>λh=>_n h λ_ _=>_3 n _ _
  | .not _=>λh=>_1v h λ_=>_3 n _ _
  | .neg _=>λh=>_n h λ_ _=>_3 n _ _
  | .binL _ _ _ _=>λh=>(_3 n _ _ h :)
  | .binR _ _ _=>λh=>_n h λ_ _=>_3 n _ _
  | .cmpL _ _ _ _=>λh=>(_3 n _ _ h :)
  | .cmpR _ _ _=>λh=>_n h λ_ _=>_3 n _ _
  | .cmp2L _ _ _ _ _ _=>λh=>(_3 n _ _ h :)
  | .cmp2R _ _ _ _ _ _=>λh=>_n h λ_ _ x=>_0g x (_3 n _ _) (_3 n _ _)
  | .bools op _ _ _=>λh=>_1v h λt=>by
   cases op <;> cases t <;> exact _3 n _ _
  | .subL _ _ _=>λh=>(_3 n _ _ h :)
  | .subR _ _=>λh=>_n h λ_ _=>_3 n _ _
  | .slc1 _ _ _ _=>λh=>(_3 n _ _ h :)
  | .slc2 _ _ _ _=>λh=>(_3 n _ _ h :)
  | .slc3 _ _ _=>λh=>(_3 n _ _ h :)
  | .meth _ _ _ _=>λh=>_7P h λ_ _ x=>⟨x.1,_3 n _ _ x.2⟩
  | .comp _ _ _ _ _ _=>λh=>_2x h λ_ _ y=>⟨y.1,by
   refine _1w (λ_ _ _ _ _ q h=>?_) (λ_ _ z a ha=>_3 n _ _ (z a ha)) _ y.2
   exact _0r _ (λm' x=>_h _ (λ_ aX z=>_0g z (λw=>_h _ (λ_ _=>q _ _) (_3 n (.ev _ m' (.fn _)) aX w)) (q _ _)) (_3 n (.ev _ m' (.fn _)) _ x)) h⟩
  | .elt _ _ _=>λh=>(_3 n _ _ h :)
  | .expr _ _=>λh=>(_3 n _ _ h :)
  | .assign _ _ _=>λh=>_0r _ (λ_=>_3 n _ _) h
  | .as1 _ _ _ _=>λh=>(_3 n _ _ h :)
  | .as2 _ _ _ _=>λh=>(_3 n _ _ h :)
  | .as3 _ _ _ _=>λh=>_n h λ_ _=>_3 n _ _
  | .at1 _ _ _ _=>λh=>(_3 n _ _ h :)
  | .at2 _ _ _ _=>λh=>_n h λ_ _=>_3 n _ _
  | .iteS _ _ _ _=>λh=>_0g h (_3 n _ _) (_3 n _ _)
  | .each _ _ _ _ _=>λh=>_2x h λ_ _ y=>by
   refine _1w (λ_ _ _ _ _ q h=>?_) (λ_ _=>_3 n _ _) _ y
   exact _0r _ (λm' x=>lW _ (λ_ _=>q _ _) (_3 n (.st _ m' (.stop _)) _ x)) h
  | .loop _ _ _ _ _ _=>λh=>_0g h (_3 n _ _) (_3 n _ _)
  | .cons _ _=>λh=>h.elim
  | .tup _=>λh=>h.elim
  | .list _=>λh=>h.elim
  | .dict1 _=>λh=>h.elim
  | .call _ _=>λh=>h.elim
  | .callM _ _ _=>λh=>h.elim
  | .stop _=>λh=>h.elim
  | .seq _ _=>λh=>h.elim
 | n+1,.rets vs k,σ=>match k with
  | .cons _ _=>λh=>(_3 n _ _ h :)
  | .tup _=>λh=>⟨h.1,_3 n _ _ h.2⟩
  | .list _=>λh=>⟨h.1,λa ha=>_3 n _ _ (h.2 a ha)⟩
  | .dict1 _=>λh=>_7N h λi v y a ha=>_3 n _ _ (y a ha)
  | .call _ _=>λh=>_n h λ_ _=>_3 n _ _
  | .callM _ _ _=>λh=>_n h λ_ _=>_3 n _ _
  | .fn _=>λh=>h.elim
  | .attr _ _=>λh=>h.elim
  | .not _=>λh=>h.elim
  | .neg _=>λh=>h.elim
  | .binL _ _ _ _=>λh=>h.elim
  | .binR _ _ _=>λh=>h.elim
  | .cmpL _ _ _ _=>λh=>h.elim
  | .cmpR _ _ _=>λh=>h.elim
  | .cmp2L _ _ _ _ _ _=>λh=>h.elim
  | .cmp2R _ _ _ _ _ _=>λh=>h.elim
  | .bools _ _ _ _=>λh=>h.elim
  | .subL _ _ _=>λh=>h.elim
  | .subR _ _=>λh=>h.elim
  | .slc1 _ _ _ _=>λh=>h.elim
  | .slc2 _ _ _ _=>λh=>h.elim
  | .slc3 _ _ _=>λh=>h.elim
  | .meth _ _ _ _=>λh=>h.elim
  | .comp _ _ _ _ _ _=>λh=>h.elim
  | .elt _ _ _=>λh=>h.elim
  | .stop _=>λh=>h.elim
  | .seq _ _=>λh=>h.elim
  | .expr _ _=>λh=>h.elim
  | .assign _ _ _=>λh=>h.elim
  | .as1 _ _ _ _=>λh=>h.elim
  | .as2 _ _ _ _=>λh=>h.elim
  | .as3 _ _ _ _=>λh=>h.elim
  | .at1 _ _ _ _=>λh=>h.elim
  | .at2 _ _ _ _=>λh=>h.elim
  | .iteS _ _ _ _=>λh=>h.elim
  | .each _ _ _ _ _=>λh=>h.elim
  | .loop _ _ _ _ _ _=>λh=>h.elim
 | n+1,.st b m s,σ=>match b with
  | .nil=>λh=>(_3 n _ _ h :)
  | .cons a r=>match a with
   | .bad=>λh=>h
   | .expr _=>λh=>(_3 n _ _ h :)
   | .assign _ _=>λh=>(_3 n _ _ h :)
   | .asSub _ _ _=>λh=>(_3 n _ _ h :)
   | .asAttr _ _ _=>λh=>(_3 n _ _ h :)
   | .ret _=>λh=>(_3 n _ _ h :)
   | .ite _ _ _=>λh=>(_3 n _ _ h :)
   | .loop _ _=>λh=>h.elim λI h=>⟨I,h.1,λj m' σ hI=>_3 n (.ev _ _ _) _ (h.2 j m' σ hI)⟩
   | .each _ _ _ _=>λh=>_2y h (_3 n _ _)
 | n+1,.done m s,σ=>match s with
  | .stop _=>λh=>h
  | .seq _ _=>λh=>(_3 n _ _ h :)
  | .fn _=>λh=>h.elim
  | .attr _ _=>λh=>h.elim
  | .not _=>λh=>h.elim
  | .neg _=>λh=>h.elim
  | .binL _ _ _ _=>λh=>h.elim
  | .binR _ _ _=>λh=>h.elim
  | .cmpL _ _ _ _=>λh=>h.elim
  | .cmpR _ _ _=>λh=>h.elim
  | .cmp2L _ _ _ _ _ _=>λh=>h.elim
  | .cmp2R _ _ _ _ _ _=>λh=>h.elim
  | .bools _ _ _ _=>λh=>h.elim
  | .subL _ _ _=>λh=>h.elim
  | .subR _ _=>λh=>h.elim
  | .slc1 _ _ _ _=>λh=>h.elim
  | .slc2 _ _ _ _=>λh=>h.elim
  | .slc3 _ _ _=>λh=>h.elim
  | .meth _ _ _ _=>λh=>h.elim
  | .comp _ _ _ _ _ _=>λh=>h.elim
  | .elt _ _ _=>λh=>h.elim
  | .cons _ _=>λh=>h.elim
  | .tup _=>λh=>h.elim
  | .list _=>λh=>h.elim
  | .dict1 _=>λh=>h.elim
  | .call _ _=>λh=>h.elim
  | .callM _ _ _=>λh=>h.elim
  | .expr _ _=>λh=>h.elim
  | .assign _ _ _=>λh=>h.elim
  | .as1 _ _ _ _=>λh=>h.elim
  | .as2 _ _ _ _=>λh=>h.elim
  | .as3 _ _ _ _=>λh=>h.elim
  | .at1 _ _ _ _=>λh=>h.elim
  | .at2 _ _ _ _=>λh=>h.elim
  | .iteS _ _ _ _=>λh=>h.elim
  | .each _ _ _ _ _=>λh=>h.elim
  | .loop _ _ _ _ _ _=>λh=>h.elim
termination_by structural n=>n
end
structure Nms where
 cU:ao
 cB:ao
 cH:ao
 u_init:ao
 u_make:ao
 u_size:ao
 u_find:ao
 u_merge:ao
 u_classes:ao
 b_init:ao
 b_size:ao
 b_take:ao
 b_require:ao
 b_op:ao
 b_kids:ao
 h_init:ao
 h_size:ao
 h_node:ao
 h_add:ao
 h_look_at:ao
 h_find:ao
 h_merge:ao
 h_join:ao
 h_settle:ao
 h_classes:ao
 is_op:ao
structure gt(c:Cx):Prop where
 g_len:eP c "len" (.builtin "len")
 g_sorted:eP c "sorted" (.builtin "sorted")
 g_sum:eP c "sum" (.builtin "sum")
 g_max:eP c "max" (.builtin "max")
 g_min:eP c "min" (.builtin "min")
 g_set:eP c "set" (.type "set")
 g_tuple:eP c "tuple" (.type "tuple")
 g_list:eP c "list" (.type "list")
 g_range:eP c "range" (.type "range")
 g_enumerate:eP c "enumerate" (.type "enumerate")
structure r4(c:Cx)(C f:ao):Prop where
 mkk:makesIn c.K C=true
 fi:findIn c.K (.ref C) "__init__" = some (some (.ref f))
 fn:isFn c.K (.ref f)=true
 is:qr c C
noncomputable def cI(c:Cx)(f:ao)(ps:List String)(body:ISs):Prop:=∃nm,oj c nm f ps body
structure Has(c:Cx)(N:Nms):Prop where
 gs:gt c
 k_U:r4 c N.cU N.u_init
 g_U:eP c "Unions" (.ref N.cU)
 a_U_above:eH c N.cU "above"
 s_U_above:d5 c N.cU "above"
 a_U_lots:eH c N.cU "lots"
 s_U_lots:d5 c N.cU "lots"
 a_U_merged:eH c N.cU "merged"
 s_U_merged:d5 c N.cU "merged"
 d_U_init:cI c N.u_init ["self"] mW
 m_U_make:cA c N.cU "make" N.u_make
 d_U_make:cI c N.u_make ["self"] mV
 m_U_size:cA c N.cU "size" N.u_size
 d_U_size:cI c N.u_size ["self"] mU
 m_U_find:cA c N.cU "find" N.u_find
 d_U_find:cI c N.u_find ["self", "a"] mX
 m_U_merge:cA c N.cU "merge" N.u_merge
 d_U_merge:cI c N.u_merge ["self", "a", "b"] lY
 m_U_classes:cA c N.cU "classes" N.u_classes
 d_U_classes:cI c N.u_classes ["self"] j_
 k_B:r4 c N.cB N.b_init
 g_B:eP c "Bank" (.ref N.cB)
 a_B_nodes:eH c N.cB "nodes"
 s_B_nodes:d5 c N.cB "nodes"
 a_B_numbers:eH c N.cB "numbers"
 s_B_numbers:d5 c N.cB "numbers"
 a_B_weights:eH c N.cB "weights"
 s_B_weights:d5 c N.cB "weights"
 a_B_depths:eH c N.cB "depths"
 s_B_depths:d5 c N.cB "depths"
 d_B_init:cI c N.b_init ["self"] nb
 m_B_size:cA c N.cB "size" N.b_size
 d_B_size:cI c N.b_size ["self"] m9
 m_B_take:cA c N.cB "take" N.b_take
 d_B_take:cI c N.b_take ["self", "op", "kids"] m8
 m_B_require:cA c N.cB "require" N.b_require
 d_B_require:cI c N.b_require ["self", "op"] kj
 m_B_op:cA c N.cB "op" N.b_op
 d_B_op:cI c N.b_op ["self", "n"] pj
 m_B_kids:cA c N.cB "kids" N.b_kids
 d_B_kids:cI c N.b_kids ["self", "n"] m_
 k_H:r4 c N.cH N.h_init
 g_H:eP c "Heap" (.ref N.cH)
 a_H_bank:eH c N.cH "bank"
 s_H_bank:d5 c N.cH "bank"
 a_H_unions:eH c N.cH "unions"
 s_H_unions:d5 c N.cH "unions"
 a_H_edges:eH c N.cH "edges"
 s_H_edges:d5 c N.cH "edges"
 a_H_forest:eH c N.cH "forest"
 s_H_forest:d5 c N.cH "forest"
 a_H_known:eH c N.cH "known"
 s_H_known:d5 c N.cH "known"
 a_H_above:eH c N.cH "above"
 s_H_above:d5 c N.cH "above"
 a_H_waiting:eH c N.cH "waiting"
 s_H_waiting:d5 c N.cH "waiting"
 d_H_init:cI c N.h_init ["self"] m6
 m_H_size:cA c N.cH "size" N.h_size
 d_H_size:cI c N.h_size ["self"] mY
 m_H_node:cA c N.cH "node" N.h_node
 d_H_node:cI c N.h_node ["self", "n"] mZ
 m_H_add:cA c N.cH "add" N.h_add
 d_H_add:cI c N.h_add ["self", "op", "numbers"] oe
 m_H_look_at:cA c N.cH "look_at" N.h_look_at
 d_H_look_at:cI c N.h_look_at ["self", "n"] kf
 m_H_find:cA c N.cH "find" N.h_find
 d_H_find:cI c N.h_find ["self", "n"] m7
 m_H_merge:cA c N.cH "merge" N.h_merge
 d_H_merge:cI c N.h_merge ["self", "a", "b", "reason"] lZ
 m_H_join:cA c N.cH "join" N.h_join
 d_H_join:cI c N.h_join ["self", "a", "b", "reason"] m5
 m_H_settle:cA c N.cH "settle" N.h_settle
 m_H_classes:cA c N.cH "classes" N.h_classes
 d_H_classes:cI c N.h_classes ["self"] kh
 g_is_op:eP c "is_op" (.ref N.is_op)
 d_is_op:cI c N.is_op ["text"] n_
structure tf(c:Cx)(N:Nms):Prop where
 d_H_settle:cI c N.h_settle ["self"] k6
section
variable{c:Cx}{d:Nat}{σ:af}{Q:AV->af->Prop}{x y:AV}{D D':oK}
theorem _7Q(hx:Den σ x D)(hy:Den σ y D')(hd:kqdOk 8 D=true)(kU:kqdOk 8 D'=true)(e:D=D')(h:Q (.bool true) σ):eQ c d .Eq x y σ Q:=_3K hx hy hd kU (by simpa [e] using h)
theorem _7R(hx:Den σ x D)(hy:Den σ y D')(hd:kqdOk 8 D=true)(kU:kqdOk 8 D'=true)(e:D≠D')(h:Q (.bool false) σ):eQ c d .Eq x y σ Q:=_3K hx hy hd kU (by simpa [e] using h)
theorem _io(hx:Den σ x D)(hy:Den σ y D')(hd:kqdOk 8 D=true)(kU:kqdOk 8 D'=true)(e:D≠D')(h:Q (.bool true) σ):eQ c d .NotEq x y σ Q:=_h0 hx hy hd kU (by simpa [e] using h)
end
theorem cI.isFun{c:Cx}{f:ao}{ps:List String}{body:ISs}(D:cI c f ps body):qr c f:=let⟨_,x⟩:=D;oj.isFun x
section
variable{c:Cx}{d:Nat}{σ:af}{Q:AV->af->Prop}
theorem _ip{l:aU}(hA:At σ l)(i j:Nat){x C dd f:ao}{fl:List (String×AV)}{n:String}{Q:AV->List AV->Prop}(hx:l.nth i=some (x,.inst C dd))(md:l.nth j=some (dd,.ns fl))(hn:fl.lookup n=none)(hm:cA c C n f)(h:Q (.raw (.ref f)) [.ref x]):e6 c d (.ref x) n σ Q:=_1f hm (hA.nth i hx) (hA.nth j md) hn h
theorem _9{l:aU}(hA:At σ l)(i j:Nat){x C dd f:ao}{ps:List String}{body:ISs}{fl:List (String×AV)}{n:String}{P:AV->List AV->Prop}(hx:l.nth i=some (x,.inst C dd))(md:l.nth j=some (dd,.ns fl))(hn:fl.lookup n=none)(hm:cA c C n f)(D:cI c f ps body)(h:P (.raw (.ref f)) [.ref x]):e6 c d (.ref x) n σ λfv first=>(∃v,fv = .raw v/\gU c v)/\P fv first:=_ip hA i j hx md hn hm (_1u D.isFun h)
theorem _0R{l:aU}{m:ao}{ce ce':cG}{R:af->Prop}(hA:At σ l)(hm:σ m=none)(e:ce=ce')(k:∀aX,At aX ((m,ce')::l)->R aX):R (σ.set m ce):=k _ (e ▸ hA.new hm)
theorem _iq{vs:List AV}{R:ao->af->Prop}{L:aU}(hA:At σ L)(hl:nK vs.length 100=true)(k:∀m aX,At aX ((m,.list vs)::L)->R m aX):vs.length<=b8/\∀a,σ a=none->R a (σ.set a (.list vs)):=⟨_02 (be hl),λm hm=>k m _ (hA.new hm)⟩
theorem _5{l:aU}(hA:At σ l)(i j:Nat){x C dd:ao}{f:List (String×AV)}{n:String}{av:AV}(hx:l.nth i=some (x,.inst C dd))(md:l.nth j=some (dd,.ns f))(hn:f.lookup n=some av)(ha:eH c C n)(ht:av.tame=true)(h:Q av σ):ct c d (.attr n) [.ref x] σ Q:=_6N ha (hA.nth i hx) (hA.nth j md) hn ht h
theorem _A{x C dd:ao}{f:List (String×AV)}{n:String}{av:AV}(hx:σ x=some (.inst C dd))(md:σ dd=some (.ns f))(ha:d5 c C n)(hl:f.length<=50)(h:∀r,Q r (σ.set dd (.ns (Loc.put f n av)))):ct c d (.setAttr n) [.ref x,av] σ Q:=_gS ha hx md hl h
noncomputable def dn(d:Nat):Nat:=d-1
theorem _b{d k:Nat}(h:k+1<=d):k<=dn d:=Nat.le_sub_of_add_le h
theorem _g{f:ao}{ps:List String}{body:ISs}{as:List AV}(D:cI c f ps body)(hd:1<=d)(hl:as.length=ps.length)(h:go c (dn d) Q 2000 (.st body (ps.zip as) (.stop λ_ aX=>Q .none aX)) σ):br c d (.raw (.ref f)) as σ Q:=by
 replace h:iH c (dn d) body (ps.zip as) σ (λ_ aX=>Q .none aX) Q:=_3 2000 (.st body (ps.zip as) (.stop λ_ aX=>Q .none aX)) σ h
 obtain⟨nm,D⟩:=D
 cases d with
 | zero=>exact absurd hd (sE _)
 | succ e=>exact _gQ D hl h
theorem _0h{l:ao}{xs:List Nat}(e:σ l=some (.list (b9 xs)))(hz:bp xs.length)(h:Q (.int (xs.length:Nat)) σ):br c d (.raw (.builtin "len")) [.ref l] σ Q:=_w e (by rw[_7];exact hz) (by rw[_7];exact h)
theorem bp.idx{n i:Nat}(hz:bp n)(hi:i<n): -(100000:Int)<=(i:Int)/\(i:Int)<=100000:=by unfold bp at hz;exact _aV hz hi
theorem _45{l:ao}{xs:List Nat}{i:Nat}(e:σ l=some (.list (b9 xs)))(hz:bp xs.length)(hi:i<xs.length)(h:Q (.int (xs[i]:Nat)) σ):gN c d (.ref l) (.int (i:Int)) σ Q:=
 _1i e (by rw[_7];exact hz) (by rw[_7];exact _01 hi) (by simp[b9,hi]) (hz.idx hi) h
theorem _0s(l:List Nat)(x:Nat):b9 (l++[x])=b9 l++[.int (x:Int)]:=by simp[b9]
theorem _7S(l m:List Nat):b9 (l++m)=b9 l++b9 m:=by simp[b9]
theorem _1x(l:List Nat):b9 l=cJ (l.map λ(n:Nat)=>(n:Int)):=by simp[b9,cJ]
theorem _2z{l:ao}{xs:List Nat}{x:Nat}(e:σ l=some (.list (b9 xs)))(hz:bp xs.length)(h:Q .none (σ.set l (.list (b9 (xs++[x]))))):br c d (.raw (.builtin "list.append")) [.ref l,.int (x:Int)] σ Q:=_F e (by rw[_7];exact hz) (by rw[<-_0s];exact h)
theorem _ir{l:ao}{xs:List Nat}{i x:Nat}{Q:af->Prop}(e:σ l=some (.list (b9 xs)))(hz:bp xs.length)(hi:i<xs.length)(h:Q (σ.set l (.list (b9 (xs.set i x))))):ct c d .setItem [(.ref l),(.int (i:Int)),(.int (x:Int))] σ λ_ aX=>Q aX:=by
 refine _6Y e (by rw[_7];exact hz) (by exact _aW) (by rw[_7];exact _5h hi) ?_
 simp only[b9,List.map_set,cb] at h ⊢
 exact h
theorem _is{a b:Nat}{ms:List Int}(hp:ms.Perm [(a:Int),(b:Int)])(hs:ms.Pairwise (· <= ·)):ms=[((min a b:Nat):Int),((max a b:Nat):Int)]:=by
 have h1:ms.Perm [((min a b:Nat):Int),((max a b:Nat):Int)]:=by
  refine hp.trans ?_
  rcases dh a b with h | h
  ·rw[dg h,eB h]
  ·rw[dC h,dK h]
   exact .swap _ _ _
 refine h1.eq_of_pairwise (le:=λa b=>a<=b) (λa b _ _ h h'=>kP h h') hs ?_
 refine .cons (λx hx=>?_) (.cons (λ_ h=>by cases h) .nil)
 obtain rfl:=aj.mp hx
 exact _aX
theorem _it{l:ao}{a b:Nat}(e:σ l=some (.list [.int (a:Int),.int (b:Int)]))(h:∀m,σ m=none->Q (.ref m) (σ.set m (.list [.int ((min a b:Nat):Int),.int ((max a b:Nat):Int)]))):br c d (.raw (.builtin "sorted")) [.ref l] σ Q:=by
 refine _7f (ns:=[(a:Int),(b:Int)]) e (by simp) λm ms hp hs hn=>?_
 have:=_is hp hs
 subst this
 exact h m hn
theorem At.tail{σ:af}{x:ao×cG}{l:aU}(h:At σ (x::l)):At σ l:=h.sub (b7 _ _)
end
section
variable{c:Cx}{d:Nat}{σ:af}{Q:AV->af->Prop}{N:Nms}
structure US where
 self:ao
 ns:ao
 la:ao
 ll:ao
 lm:ao
 par:List Nat
 lots:List (ao×List Nat)
 log:List (Nat×Nat)
noncomputable def lX(l:List (Nat×Nat)):List AV:=l.map λp=>.tup [.int (p.1:Int),.int (p.2:Int)]
noncomputable def US.flds(u:US):List (String×AV):=[("above", .ref u.la),("lots", .ref u.ll),("merged", .ref u.lm)]
noncomputable def US.cells(N:Nms)(u:US):aU:=
 (u.self,.inst N.cU u.ns)::(u.ns,.ns u.flds)::(u.la,.list (b9 u.par))::(u.ll,.list (u.lots.map λp=>.ref p.1))::(u.lm,.list (lX u.log))::u.lots.map λp=>(p.1,.list (b9 p.2))
noncomputable def i4(p:List Nat):Prop:=∀i (h:i<p.length),p[i]<=i
noncomputable def pi:Nat->List Nat->Nat->Nat
 | 0,_,a=>a
 | k+1,p,a=>if p.getD a a=a then a else pi k p (p.getD a a)
noncomputable def bD(p:List Nat)(a:Nat):Nat:=pi a p a
theorem _2A{k a:Nat}{p:List Nat}:pi (k+1) p a=if p.getD a a=a then a else pi k p (p.getD a a):=rfl
theorem _46{p:List Nat}(hd:i4 p):∀(k a:Nat),a<=k->a<p.length->pi k p a=pi a p a
 | 0,a,h,_=>by
  have:a=0:=by exact _36 h
  subst this;rfl
 | k+1,a,h,hl=>by
  have w8:p.getD a a=p[a]:=by simp[hl]
  have qK:=hd a hl
  cases a with
  | zero=>
   rw[_2A,w8,if_pos (by exact _36 qK)];rfl
  | succ b=>
   rw[_2A,_2A,w8]
   by_cases e:p[b+1]=b+1
   ·rw[if_pos e,if_pos e]
   ·rw[if_neg e,if_neg e,_46 hd k _ (by exact _aY h qK e) (by exact _37 hl qK),_46 hd b _ (by exact _5i qK e) (by exact _37 hl qK)]
theorem _0i{p:List Nat}(hd:i4 p){a:Nat}(hl:a<p.length):bD p a=if p[a]=a then a else bD p p[a]:=by
 have w8:p.getD a a=p[a]:=by simp[hl]
 have qK:=hd a hl
 unfold bD
 cases a with
 | zero=>rw[if_pos (by exact _36 qK)];rfl
 | succ b=>
  rw[_2A,w8]
  by_cases e:p[b+1]=b+1
  ·rw[if_pos e,if_pos e]
  ·rw[if_neg e,if_neg e,_46 hd b _ (by exact _5i qK e) (by exact _37 hl qK)]
theorem _0S{u:US}{a:Nat}(H:Has c N)(h1:1<=d)(hA:At σ (u.cells N))(hd:i4 u.par)(ha:a<u.par.length)(hz:bp u.par.length)(h:Q (.int (bD u.par a:Nat)) σ):br c d (.raw (.ref N.u_find)) [.ref u.self,.int a] σ Q:=by
 have G:=H.gs
 refine _g H.d_U_find h1 rfl ?_
 refine _7K (λn m aX=>aX=σ/\∃b:Nat,m=[("self", .ref u.self),("a", .int b)]/\b<u.par.length/\bD u.par b=bD u.par a/\n=b) a ⟨rfl,a,rfl,ha,rfl,rfl⟩ ?_
 rintro b m aX ⟨rfl,b',rfl,hb,hr,rfl⟩
 refine _5 ‹At _ _› 0 1 rfl rfl (by rfl) ((‹Has _ _›).a_U_above) (by rfl) ?_
 refine _45 (At.nth ‹At _ _› 2 rfl) hz hb ?_
 refine _1g ?_
 have hs:=_0i hd hb
 have qK:=hd b hb
 refine _G (λe=>?_) (λe=>?_)
 ·refine _5 ‹At _ _› 0 1 rfl rfl (by rfl) ((‹Has _ _›).a_U_above) (by rfl) ?_
  refine _45 (At.nth ‹At _ _› 2 rfl) hz hb ?_
  have e':¬u.par[b]=b:=λq=>e (congrArg Int.ofNat q)
  rw[if_neg e'] at hs
  exact⟨u.par[b],by exact _1Z qK e',rfl,_,rfl,by exact _17 hb qK,by rw[<-hs,hr],rfl⟩
 ·rw[if_pos (d8 (gz.mp e))] at hs
  rw[<-hr,hs] at h
  exact h
end
theorem _K{p:List Nat}(hd:i4 p):∀(a:Nat),a<p.length->bD p a<=a/\bD p a<p.length:=by
 intro a
 induction a using iP with
 | _ a ih=>
  intro ha
  rw[_0i hd ha]
  have:=hd a ha
  split
  ·(first | lia | omega)
  ·have:=ih p[a] (by(first | lia | omega)) (by exact _17 ha this);(first | lia | omega)
theorem _7T{p:List Nat}(hd:i4 p):∀(a:Nat) (ha:a<p.length),p[bD p a]'(_K hd a ha).2=bD p a:=by
 intro a
 induction a using iP with
 | _ a ih=>
  intro ha
  have hl:=hd a ha
  have hs:=_0i hd ha
  by_cases e:p[a]=a
  ·rw[if_pos e] at hs
   simp only[hs];exact e
  ·rw[if_neg e] at hs
   have:=ih p[a] (by exact _1Z hl e) (by exact _17 ha hl)
   simp only[hs];exact this
theorem _1y{p:List Nat}(hd:i4 p){a:Nat}(ha:a<p.length):p[a]=a ↔ bD p a=a:=by
 constructor
 ·intro e;rw[_0i hd ha,if_pos e]
 ·intro e
  have:=_7T hd a ha
  simp only[e] at this
  exact this
theorem _0t{p:List Nat}(hd:i4 p){a:Nat}(ha:a<p.length):bD p (bD p a)=bD p a:=
 (_1y hd (_K hd a ha).2).mp (_7T hd a ha)
theorem _47{p:List Nat}(hd:i4 p){g k:Nat}(h:k<=g):i4 (p.set g k):=by
 intro i hi
 rw[nU]
 split
 ·(first | lia | omega)
 ·exact hd i (by simpa using hi)
theorem _2B{p:List Nat}(hd:i4 p){g k:Nat}(hg:g<p.length)(hk:k<g)(uD:bD p g=g)(tw:bD p k=k):∀(x:Nat),x<p.length->bD (p.set g k) x=if bD p x=g then k else bD p x:=by
 have kU:=_47 hd (g:=g) (k:=k) (by exact _38 hk)
 have hkk:bD (p.set g k) k=k:=by
  have iU:k<(p.set g k).length:=by simp;exact _20 hg hk
  refine(_1y kU iU).mp ?_
  rw[List.getElem_set_ne (by exact _aZ hk)]
  exact(_1y hd (by exact _20 hg hk)).mpr tw
 intro x
 induction x using iP with
 | _ x ih=>
  intro hx
  have r7:x<(p.set g k).length:=by simpa using hx
  rw[_0i kU r7,nU]
  by_cases e:g=x
  ·subst e
   rw[if_pos rfl,if_neg (by exact _b0 hk),uD,if_pos rfl,hkk]
  ·rw[if_neg e]
   have hl:=hd x hx
   rw[_0i hd hx]
   by_cases e2:p[x]=x
   ·rw[if_pos e2,if_pos e2,if_neg (λq=>e q.symm)]
   ·rw[if_neg e2,if_neg e2]
    exact ih p[x] (by exact _1Z hl e2) (by exact _17 hx hl)
theorem _1z{p:List Nat}(hd:i4 p):i4 (p++[p.length]):=by
 intro i hi
 rw[iS]
 split
 ·exact hd i (by assumption)
 ·simp at hi ⊢;(first | lia | omega)
theorem _1A{p:List Nat}(hd:i4 p):∀(x:Nat),x<p.length->bD (p++[p.length]) x=bD p x:=by
 have kU:=_1z hd
 intro x
 induction x using iP with
 | _ x ih=>
  intro hx
  rw[_0i kU (by simp;exact _18 hx),_0i hd hx,List.getElem_append_left hx]
  have hl:=hd x hx
  by_cases e:p[x]=x
  ·rw[if_pos e,if_pos e]
  ·rw[if_neg e,if_neg e];exact ih _ (by exact _1Z hl e) (by exact _17 hx hl)
theorem _48{p:List Nat}(hd:i4 p):bD (p++[p.length]) p.length=p.length:=
 (_1y (_1z hd) (by simp)).mp (by simp)
noncomputable def cp(p:List Nat)(r:Nat):List Nat:=(aV p.length).filter λx=>bD p x=r
noncomputable def cf(p:List Nat):List Nat:=(aV p.length).filter λx=>bD p x=x
structure UOK(u:US):Prop where
 down:i4 u.par
 len:u.lots.length=u.par.length
 mem:∀r (h:r<u.lots.length),bD u.par r=r->(u.lots[r]).2.Perm (cp u.par r)
 log:u.log.length+(cf u.par).length=u.par.length
theorem _iu(p:List Nat){k g:Nat}(h:k≠g):(cp p k).length+(cp p g).length<=p.length:=by
 unfold cp
 have gen:∀l:List Nat,(l.filter λx=>decide (bD p x=k)).length+(l.filter λx=>decide (bD p x=g)).length<=l.length:=by
  intro l
  induction l with
  | nil=>simp
  | cons a l ih=>
   rw[bW,bW]
   by_cases e1:bD p a=k
   ·rw[if_pos (by simpa using e1),if_neg (by simp;exact _5j h e1)]
    simp only[aP];exact _b1 ih
   ·rw[if_neg (by simpa using e1)]
    split <;> simp only[aP] <;> (first | exact _b2 ih | exact _57 ih | (first | lia | omega))
 have:=gen (aV p.length)
 simpa using this
theorem _iv{p:List Nat}{l:List Nat}{k g:Nat}(h:k≠g):(l.filter (λx=>decide (bD p x=k))++l.filter (λx=>decide (bD p x=g))).Perm (l.filter λx=>decide ((if bD p x=g then k else bD p x)=k)):=by
 induction l with
 | nil=>simp
 | cons a l ih=>
  rw[bW,bW,bW]
  by_cases e1:bD p a=k
  ·rw[if_pos (by simpa using e1),if_neg (by simp;exact _5j h e1),if_pos (by simp[e1])]
   exact ih.cons a
  ·rw[if_neg (by simpa using e1)]
   by_cases e2:bD p a=g
   ·rw[if_pos (by simpa using e2),if_pos (by simp[e2])]
    exact cW.trans (ih.cons a)
   ·rw[if_neg (by simpa using e2),if_neg (by simp[e2,e1])]
    exact ih
noncomputable def US.joined(u:US)(k g:Nat):US:=
 {u with par:=u.par.set g k,lots:=u.lots.set k ((u.lots.getD k default).1,(u.lots.getD k default).2++(u.lots.getD g default).2),log:=u.log++[(k,g)]}
noncomputable def US.made(u:US)(a:ao):US:={u with par:=u.par++[u.par.length],lots:=u.lots++[(a,[u.par.length])]}
theorem _1B{p:List Nat}(hd:i4 p):cf (p++[p.length])=cf p++[p.length]:=by
 unfold cf
 rw[am,aF,eM,eF]
 congr 1
 ·refine fM λx hx=>?_
  rw[_1A hd x (aN.mp hx)]
 ·rw[bW,eN,_48 hd]
  simp
theorem _49{p:List Nat}(hd:i4 p){g k:Nat}(hg:g<p.length)(hk:k<g)(uD:bD p g=g)(tw:bD p k=k):cf (p.set g k)=(cf p).erase g/\g∈cf p:=by
 have hn:(cf p).Nodup:=List.nodup_range.filter _
 refine⟨?_,bH.mpr ⟨aN.mpr hg,by simpa using uD⟩⟩
 rw[hn.erase_eq_filter]
 unfold cf
 rw[bw,sW]
 refine fM λx hx=>?_
 rw[_2B hd hg hk uD tw x (aN.mp hx)]
 by_cases e:bD p x=g
 ·rw[if_pos e,e]
  by_cases ex:g=x
  ·subst ex
   have:k≠g:=by exact _21 hk
   simp[this]
  ·have:k≠x:=λq=>by
    subst q;exact _b3 hk tw e
   simp[ex,this]
 ·rw[if_neg e]
  by_cases ex:bD p x=x
  ·have:x≠g:=λq=>e (ex.trans q)
   simp[ex,this]
  ·simp[ex]
theorem UOK.made{u:US}(h:UOK u)(a:ao):UOK (u.made a):=by
 refine⟨_1z h.down,by simp[US.made,h.len],λr hr e=>?_,by have:=h.log;simp only[US.made,_1B h.down,am,aF];exact _5k this⟩
 simp only[US.made] at hr e ⊢
 have kU:=_1z h.down
 have mem:∀r,(cp (u.par++[u.par.length]) r)=(cp u.par r)++(if u.par.length=r then[u.par.length] else[]):=by
  intro r
  unfold cp
  rw[am,aF,eM,eF]
  congr 1
  ·refine fM λx hx=>?_
   rw[_1A h.down x (aN.mp hx)]
  ·rw[bW,eN,_48 h.down]
   simp
 rw[mem]
 rw[iS]
 split
 ·rename_i hr'
  rw[if_neg (by have:=h.len;exact _b4 hr' this),bh]
  refine h.mem r hr' ?_
  rw[_1A h.down r (by have:=h.len;exact _b5 hr' this)] at e
  exact e
 ·rename_i hr'
  have wk:r=u.par.length:=by have:=h.len;simp at hr;exact _b6 hr' this hr
  subst wk
  rw[if_pos rfl]
  have e0:cp u.par u.par.length=[]:=by
   unfold cp
   rw[qR]
   intro x hx
   have:=_K h.down x (aN.mp hx)
   simp;exact _b7 this.2
  rw[e0]
  simp
theorem UOK.joined{u:US}(h:UOK u){k g:Nat}(hg:g<u.par.length)(hk:k<g)(uD:bD u.par g=g)(tw:bD u.par k=k):UOK (u.joined k g):=by
 have cL:=h.len
 obtain⟨hro,iA⟩:=_49 h.down hg hk uD tw
 refine⟨_47 h.down (by exact _38 hk),by simp[US.joined,h.len],λr hr e=>?_,by
  have:=h.log
  have h2:=eh iA
  simp only[US.joined,hro,am,aF,bw,dU iA]
  exact _b8 this h2⟩
 simp only[US.joined,bw] at hr e ⊢
 rw[_2B h.down hg hk uD tw r (by exact _b9 cL hr)] at e
 have hm:cp (u.par.set g k) r=(aV u.par.length).filter λx=>decide ((if bD u.par x=g then k else bD u.par x)=r):=by
  unfold cp
  rw[bw]
  refine fM λx hx=>?_
  rw[_2B h.down hg hk uD tw x (aN.mp hx)]
 rw[hm]
 have iU:k<u.lots.length:=by exact _ba hg hk cL
 have rh:g<u.lots.length:=by exact _1X hg cL
 rw[nU]
 split
 ·rename_i ek
  subst ek
  have e1:u.lots.getD k default=u.lots[k]:=by simp[iU]
  have e2:u.lots.getD g default=u.lots[g]:=by simp[rh]
  rw[e1,e2]
  refine((h.mem k iU tw).append (h.mem g rh uD)).trans ?_
  exact _iv (by exact _21 hk)
 ·rename_i ek
  by_cases er:bD u.par r=g
  ·rw[if_pos er] at e;exact absurd e ek
  ·rw[if_neg er] at e
   refine(h.mem r hr e).trans ?_
   unfold cp
   refine List.Perm.of_eq (fM λx hx=>?_)
   by_cases ex:bD u.par x=g
   ·rw[if_pos ex,ex]
    have:g≠r:=λq=>er (q ▸ e)
    simp[ek,this]
   ·rw[if_neg ex]
section
variable{c:Cx}{d:Nat}{σ:af}{Q:AV->af->Prop}{N:Nms}
theorem _7U{u:US}(H:Has c N)(h1:1<=d)(hA:At σ (u.cells N))(hz:bp u.par.length)(h:Q (.int (u.par.length:Nat)) σ):br c d (.raw (.ref N.u_size)) [.ref u.self] σ Q:=by
 have G:=H.gs
 refine _g H.d_U_size h1 rfl ?_
 (refine _4 (‹gt _›).g_len ?_;refine _5 ‹At _ _› 0 1 rfl rfl (by rfl) ((‹Has _ _›).a_U_above) (by rfl) ?_;refine _0h (At.nth ‹At _ _› 2 rfl) (by assumption) ?_)
 exact h
noncomputable abbrev uMakeP(N:Nms)(u:US)(v:AV)(l':aU):Prop:=∃a,v = .int (u.par.length:Nat)/\l'=(u.made a).cells N
theorem _iw{u:US}(H:Has c N)(h1:1<=d)(hz:bp (u.par.length+1))(hu:UOK u):mI c d .call [.raw (.ref N.u_make),.ref u.self] (u.cells N) (uMakeP N u):=by
 refine _J λσ R _i hA=>?_
 have G:=H.gs
 have cL:=hu.len
 refine _g H.d_U_make h1 rfl ?_
 (refine _5 ‹At _ _› 0 1 rfl rfl (by rfl) ((‹Has _ _›).a_U_above) (by rfl) ?_;refine _v (At.nth ‹At _ _› 2 rfl) ?_;refine _l ?_;refine _4 (‹gt _›).g_len ?_;refine _5 ‹At _ _› 0 1 rfl rfl (by rfl) ((‹Has _ _›).a_U_above) (by rfl) ?_;refine _0h (At.nth ‹At _ _› 2 rfl) (by((try unfold bp at *);(try simp only[am,aP,bL,ac,_7,bw] at *);exact _0c hz)) ?_)
 refine _2z (At.nth ‹At _ _› 2 rfl) (by((try unfold bp at *);(try simp only[am,aP,bL,ac,_7,bw] at *);exact _0c hz)) ?_
 replace hA:=hA.put 2 rfl (.list (b9 (u.par++[u.par.length])))
 (refine _5 ‹At _ _› 0 1 rfl rfl (by rfl) ((‹Has _ _›).a_U_lots) (by rfl) ?_;refine _v (At.nth ‹At _ _› 3 rfl) ?_;refine _l ?_;refine _4 (‹gt _›).g_len ?_;refine _5 ‹At _ _› 0 1 rfl rfl (by rfl) ((‹Has _ _›).a_U_lots) (by rfl) ?_)
 refine _w (At.nth ‹At _ _› 3 rfl) (by((try unfold bp at *);(try simp only[am,aP,bL,ac,_7,bw] at *);exact _0F hz cL)) ?_
 refine And.intro (sl rfl) λa ha=>?_
 replace hA:=hA.new (c:=.list [.int ((u.lots.map λp=>AV.ref p.1).length:Nat)]) ha
 refine _F (At.nth ‹At _ _› 4 rfl) (by((try unfold bp at *);(try simp only[am,aP,bL,ac,_7,bw] at *);exact _0F hz cL)) ?_
 replace hA:=hA.put 4 rfl (.list ((u.lots.map λp=>AV.ref p.1)++[.ref a]))
 (refine _4 (‹gt _›).g_len ?_;refine _5 ‹At _ _› 1 2 rfl rfl (by rfl) ((‹Has _ _›).a_U_above) (by rfl) ?_;refine _0h (At.nth ‹At _ _› 3 rfl) (by((try unfold bp at *);(try simp only[am,aP,bL,ac,_7,bw] at *);exact _5l hz)) ?_;refine _2f ?_)
 refine _i (hA.perm ?_) ⟨a,by simp,rfl⟩
 ·show(US.cells N (u.made a)).Perm ((a,.list [.int ((u.lots.map λp=>AV.ref p.1).length:Nat)])::(u.self,.inst N.cU u.ns)::(u.ns,.ns u.flds)::(u.la,.list (b9 (u.par++[u.par.length])))::(u.ll,.list ((u.lots.map λp=>AV.ref p.1)++[.ref a]))::(u.lm,.list (lX u.log))::u.lots.map λp=>(p.1,.list (b9 p.2)))
  unfold US.made US.cells
  rw[aM,aM,ac,cL]
  exact jc _ ((u.self,cG.inst N.cU u.ns)::(u.ns,.ns u.flds)::(u.la,.list (b9 (u.par++[u.par.length])))::(u.ll,.list ((u.lots.map λp=>AV.ref p.1)++[AV.ref a]))::(u.lm,.list (lX u.log))::u.lots.map λp=>(p.1,cG.list (b9 p.2)))
end
section
variable{c:Cx}{d:Nat}{σ:af}{Q:AV->af->Prop}{N:Nms}
theorem _4a{α:Type}{l:ao}{xs:List α}{f:α->ao}{i:Nat}(e:σ l=some (.list (xs.map λx=>AV.ref (f x))))(hz:bp xs.length)(hi:i<xs.length)(h:Q (.ref (f xs[i])) σ):gN c d (.ref l) (.int (i:Int)) σ Q:=
 _1i e (by rw[ac];exact hz) (by rw[ac];exact _01 hi) (by simp[hi]) (hz.idx hi) h
theorem _7V{l b:ao}{xs ys:List Nat}(e:σ l=some (.list (b9 xs)))(eb:σ b=some (.list (b9 ys)))(hz:bp (xs.length+ys.length))(h:Q .none (σ.set l (.list (b9 (xs++ys))))):br c d (.raw (.builtin "list.extend")) [.ref l,.ref b] σ Q:=
 _gY e eb (by rw[_7,_7];exact hz) (by rw[<-_7S];exact h)
theorem _ix{α:Type}{f:α->ao×cG}{xs:List α}{i:Nat}{y:α}{a:ao}{c':cG}(hi:i<xs.length)(h1:(f xs[i]).1=a)(h2:f y=(a,c')):Upd a c' (xs.map f) ((xs.set i y).map f):=by
 induction xs generalizing i with
 | nil=>exact absurd hi (ca _)
 | cons x xs ih=>
  cases i with
  | zero=>
   rw[List.set_cons_zero,aJ,aJ,h2,show f x=(a,(f x).2) from gO h1 rfl]
   exact .head
  | succ i=>
   rw[List.set_cons_succ,aJ,aJ]
   exact .tail (ih (Nat.lt_of_succ_lt_succ hi) h1)
noncomputable def n7(N:Nms)(u:US)(a b:Nat)(v:AV)(l':aU):Prop:=
 if bD u.par a=bD u.par b then v = .none/\l'=u.cells N
 else v = .tup [.int ((min (bD u.par a) (bD u.par b):Nat):Int),.int ((max (bD u.par a) (bD u.par b):Nat):Int)]/\l'=(u.joined (min (bD u.par a) (bD u.par b)) (max (bD u.par a) (bD u.par b))).cells N
theorem _iy{u:US}{a b:Nat}(H:Has c N)(h1:2<=d)(hz:bp u.par.length)(hu:UOK u)(ha:a<u.par.length)(hb:b<u.par.length):mI c d .call [.raw (.ref N.u_merge),.ref u.self,.int (a:Int),.int (b:Int)] (u.cells N) (n7 N u a b):=by
 refine _J λσ R _i hA=>?_
 have G:=H.gs
 have cL:=hu.len
 have xE:=hu.log
 obtain⟨hra1,hra⟩:=_K hu.down a ha
 obtain⟨hrb1,hrb⟩:=_K hu.down b hb
 have wC:=_0t hu.down ha
 have wB:=_0t hu.down hb
 refine _g H.d_U_merge (by exact _bb h1) rfl ?_
 (refine _4 (‹gt _›).g_sorted ?_;refine _9 ‹At _ _› 0 1 rfl rfl rfl ((‹Has _ _›).m_U_find) ((‹Has _ _›).d_U_find) ?_)
 refine _0S H (_b h1) hA hu.down ha hz ?_
 (refine _9 ‹At _ _› 0 1 rfl rfl rfl ((‹Has _ _›).m_U_find) ((‹Has _ _›).d_U_find) ?_)
 refine _0S H (_b h1) hA hu.down hb hz ?_
 refine And.intro (sl rfl) λm1 hm1=>?_
 replace hA:=hA.new (c:=.list [.int (bD u.par a:Nat),.int (bD u.par b:Nat)]) hm1
 refine _it (At.nth ‹At _ _› 0 rfl) λm2 re=>?_
 replace hA:=hA.new (c:=.list [.int ((min (bD u.par a) (bD u.par b):Nat):Int),.int ((max (bD u.par a) (bD u.par b):Nat):Int)]) re
 refine _7j (At.nth ‹At _ _› 0 rfl) rfl ?_
 replace hA:=hA.tail.tail
 refine _0p ?_
 refine _G (λe=>?_) (λe=>?_)
 ·have hr:bD u.par a=bD u.par b:=by exact _bc e
  exact _i hA (by unfold n7;rw[if_pos hr];exact⟨rfl,rfl⟩)
 ·have hr:¬bD u.par a=bD u.par b:=λq=>e (by rw[q,rM,Nat.max_self])
  have w_:min (bD u.par a) (bD u.par b)<max (bD u.par a) (bD u.par b):=by exact _bd hr
  have hg:max (bD u.par a) (bD u.par b)<u.par.length:=by exact _be hra hrb
  have xJ:bD u.par (max (bD u.par a) (bD u.par b))=max (bD u.par a) (bD u.par b):=by
   rcases dh (bD u.par a) (bD u.par b) with q | q
   ·rw[eB q];exact wB
   ·rw[dK q];exact wC
  have hkr:bD u.par (min (bD u.par a) (bD u.par b))=min (bD u.par a) (bD u.par b):=by
   rcases dh (bD u.par a) (bD u.par b) with q | q
   ·rw[dg q];exact wC
   ·rw[dC q];exact wB
  have hP:n7 N u a b (.tup [.int ((min (bD u.par a) (bD u.par b):Nat):Int),.int ((max (bD u.par a) (bD u.par b):Nat):Int)]) ((u.joined (min (bD u.par a) (bD u.par b)) (max (bD u.par a) (bD u.par b))).cells N):=by
   unfold n7
   rw[if_neg hr]
   exact⟨rfl,rfl⟩
  clear e
  generalize min (bD u.par a) (bD u.par b)=k at *
  generalize max (bD u.par a) (bD u.par b)=g at *
  have iU:k<u.lots.length:=by exact _bf cL hg w_
  have rh:g<u.lots.length:=by exact _N cL hg
  have m1:=(hu.mem k iU hkr).length_eq
  have m2:=(hu.mem g rh xJ).length_eq
  have m3:=_iu u.par (show k≠g by exact _5m w_)
  refine _5 ‹At _ _› 0 1 rfl rfl (by rfl) ((‹Has _ _›).a_U_above) (by rfl) ?_
  refine _ir (At.nth ‹At _ _› 2 rfl) (by assumption) hg ?_
  replace hA:=hA.put 2 rfl (.list (b9 (u.par.set g k)))
  refine _5 ‹At _ _› 0 1 rfl rfl (by rfl) ((‹Has _ _›).a_U_lots) (by rfl) ?_
  refine _4a (f:=λp:ao×List Nat=>p.1) (At.nth ‹At _ _› 3 rfl) (by((try unfold bp at *);(try simp only[am,aP,bL,ac,_7,bw] at *);exact _5n hz cL)) iU ?_
  have hk:=hA.get (a:=(u.lots[k]).1) (c:=.list (b9 (u.lots[k]).2)) (by
   refine aA _ (aA _ (aA _ (aA _ (aA _ ?_))))
   exact aq.mpr ⟨u.lots[k],bO iU,rfl⟩)
  have hgg:=hA.get (a:=(u.lots[g]).1) (c:=.list (b9 (u.lots[g]).2)) (by
   refine aA _ (aA _ (aA _ (aA _ (aA _ ?_))))
   exact aq.mpr ⟨u.lots[g],bO rh,rfl⟩)
  refine _6V hk ?_
  (refine _l ?_;refine _5 ‹At _ _› 0 1 rfl rfl (by rfl) ((‹Has _ _›).a_U_lots) (by rfl) ?_)
  refine _4a (f:=λp:ao×List Nat=>p.1) (At.nth ‹At _ _› 3 rfl) (by((try unfold bp at *);(try simp only[am,aP,bL,ac,_7,bw] at *);exact _5n hz cL)) rh ?_
  refine _7V hk hgg (by unfold bp at *;exact _bg hz m1 m2 m3) ?_
  replace hA:=hA.upd (l':=(u.self,.inst N.cU u.ns)::(u.ns,.ns u.flds)::(u.la,.list (b9 (u.par.set g k)))::(u.ll,.list (u.lots.map λp=>.ref p.1))::(u.lm,.list (lX u.log))::(u.lots.set k ((u.lots[k]).1,(u.lots[k]).2++(u.lots[g]).2)).map λp=>(p.1,.list (b9 p.2)))
   (.tail (.tail (.tail (.tail (.tail (_ix (f:=λp:ao×List Nat=>(p.1,cG.list (b9 p.2))) (y:=((u.lots[k]).1,(u.lots[k]).2++(u.lots[g]).2)) iU rfl rfl))))))
  (refine _5 ‹At _ _› 0 1 rfl rfl (by rfl) ((‹Has _ _›).a_U_merged) (by rfl) ?_;refine _v (At.nth ‹At _ _› 4 rfl) ?_;refine _l ?_;refine And.intro (sl rfl) ?_)
  refine _F (At.nth ‹At _ _› 4 rfl) (by simp only[lX,ac];unfold bp at *;exact _bh hz xE) ?_
  replace hA:=hA.put 4 rfl (.list (lX u.log++[.tup [.int (k:Int),.int (g:Int)]]))
  refine And.intro (sl rfl) (_i (l:=(u.joined k g).cells N) ?_ hP)
  unfold US.joined US.cells
  have e1:u.lots.getD k default=u.lots[k]:=by simp[iU]
  have e2:u.lots.getD g default=u.lots[g]:=by simp[rh]
  simp only[e1,e2]
  have e3:((u.lots.set k ((u.lots[k]).1,(u.lots[k]).2++(u.lots[g]).2)).map λp=>AV.ref p.1)=u.lots.map λp=>AV.ref p.1:=by
   refine d6 λi=>?_
   simp only[aQ,tT]
   split
   ·rename_i q
    subst q
    rw[ax iU];rfl
   ·rfl
  rw[e3,show lX (u.log++[(k,g)])=lX u.log++[AV.tup [AV.int (k:Int),AV.int (g:Int)]] by simp[lX]]
  exact hA
theorem _4b{C f:ao}{ps:List String}{body:ISs}{as:List AV}(K:r4 c C f)(D:cI c f ps body)(hd:1<=d)(hl:as.length+1=ps.length)
  (h:∀x dx,σ x=none->σ dx=none->x≠dx->go c (dn d) (λr aX=>r = .none/\Q (.ref x) aX) 2000 (.st body (ps.zip (.ref x::as)) (.stop λ_ aX=>Q (.ref x) aX)) ((σ.set dx (.ns [])).set x (.inst C dx))):br c d (.raw (.ref C)) as σ Q:=by
 replace h:∀x dx,σ x=none->σ dx=none->x≠dx->iH c (dn d) body (ps.zip (.ref x::as)) ((σ.set dx (.ns [])).set x (.inst C dx)) (λ_ aX=>Q (.ref x) aX) (λr aX=>r = .none/\Q (.ref x) aX):=λx dx a b e=>_3 2000 (.st body (ps.zip (.ref x::as)) (.stop λ_ aX=>Q (.ref x) aX)) _ (h x dx a b e)
 obtain⟨nm,D⟩:=D
 obtain⟨e,rfl⟩:∃e,d=e+1:=⟨d - 1,by exact _bi hd⟩
 exact _gT K.mkk K.fi K.fn D hl h
theorem At.inst{l:aU}{x dx C:ao}(h:At σ l)(hx:σ x=none)(hd:σ dx=none)(gK:x≠dx):At ((σ.set dx (.ns [])).set x (.inst C dx)) ((x,.inst C dx)::(dx,.ns [])::l):=
 (h.new hd).new (by rw[af.set_ne _ _ gK];exact hx)
noncomputable def US.Empty(u:US):Prop:=u.par=[]/\u.lots=[]/\u.log=[]
theorem US.Empty.ok{u:US}(h:u.Empty):UOK u:=by
 obtain⟨h1,h2,h3⟩:=h
 refine⟨λi hi=>absurd hi (by rw[h1];simp),by rw[h1,h2];rfl,λr hr=>absurd hr (by rw[h2];simp),by rw[h1,h3];rfl⟩
noncomputable abbrev uNewP(N:Nms)(v:AV)(l':aU):Prop:=∃u:US,v = .ref u.self/\u.Empty/\l'=u.cells N
theorem _iz(H:Has c N)(h1:1<=d):mI c d .call [.raw (.ref N.cU)] [] (uNewP N):=by
 refine _J λσ R _i hA=>?_
 refine _4b H.k_U H.d_U_init h1 rfl λx dx hx hdx gK=>?_
 replace hA:=hA.inst (C:=N.cU) hx hdx gK
 refine And.intro (sl rfl) λla hla=>?_
 replace hA:=hA.new (c:=.list []) hla
 refine _A (hA.nth 1 rfl) (hA.nth 2 rfl) ((‹Has _ _›).s_U_above) (by simp) λ_=>?_
 replace hA:=hA.put 2 rfl (.ns (Loc.put [] "above" (.ref la)))
 refine And.intro (sl rfl) λll hll=>?_
 replace hA:=hA.new (c:=.list []) hll
 refine _A (hA.nth 2 rfl) (hA.nth 3 rfl) ((‹Has _ _›).s_U_lots) (be rfl) λ_=>?_
 replace hA:=hA.put 3 rfl (.ns (Loc.put (Loc.put [] "above" (.ref la)) "lots" (.ref ll)))
 refine And.intro (sl rfl) λlm hlm=>?_
 replace hA:=hA.new (c:=.list []) hlm
 refine _A (hA.nth 3 rfl) (hA.nth 4 rfl) ((‹Has _ _›).s_U_merged) (be rfl) λ_=>?_
 replace hA:=hA.put 4 rfl (.ns (Loc.put (Loc.put (Loc.put [] "above" (.ref la)) "lots" (.ref ll)) "merged" (.ref lm)))
 refine _i (hA.perm ?_) ⟨⟨x,dx,la,ll,lm,[],[],[]⟩,rfl,⟨rfl,rfl,rfl⟩,rfl⟩
 refine lQ.trans ?_ (fL _)
 exact .swap _ _ _
end
section
variable{c:Cx}{d:Nat}{σ:af}{Q:AV->af->Prop}{N:Nms}{o:OpK}{as:List AV}{l:aU}
structure RP(P:AV->Prop)(l:aU)(v:AV)(σ:af):Prop where
 p:P v
 cells:At σ l
theorem _7W{l':aU}{aX:af}(hA:At σ l)(pU:At aX l')(s:l.Sublist l')(ho:∀a ce,a ∉ l.at->σ a=some ce->aX a=some ce):Sub σ aX:=λa ce e=>by
 by_cases q:a∈l.at
 ·obtain⟨x,hx,rfl⟩:=aq.mp q
  rw[pU.is x (s.subset hx),<-hA.is x hx,e]
 ·exact ho a ce q e
theorem _0T{P:AV->Prop}(h:∀σ,At σ l->ct c d o as σ (RP P l))(hA:At σ l)(k:∀v,P v->Q v σ):ct c d o as σ Q:=
 _7e (_43 (P:=λv l'=>P v/\l'=l) (λσ hA=>_n (h σ hA) λv aX q=>_i q.cells ⟨q.p,rfl⟩) σ hA (λv aX=>P v/\Sub σ aX) λv l' aX ⟨p,e⟩ pU ho=>by
  subst e
  exact⟨p,_7W hA pU (p_ _) λa ce q e=>(ho a ce q e).1⟩) λv aX ⟨p,s⟩=>⟨σ,s,k v p⟩
structure GP(l:aU)(ce:cG)(v:AV)(σ:af):Prop where
 ex:∃m,v = .ref m/\At σ ((m,ce)::l)
theorem _0U{ce:cG}{m:ao}(h:At σ ((m,ce)::l)):GP l ce (.ref m) σ:=⟨m,rfl,h⟩
theorem _7X{ce:cG}(h:∀σ,At σ l->ct c d o as σ (GP l ce))(hA:At σ l)(k:∀m,σ m=none->Q (.ref m) (σ.set m ce)):ct c d o as σ Q:=
 _7e (_43 (P:=λv l'=>∃m,v = .ref m/\l'=(m,ce)::l) (λσ hA=>_n (h σ hA) λv aX ⟨m,p,a⟩=>_i a ⟨m,p,rfl⟩) σ hA (λv aX=>∃m,v = .ref m/\σ m=none/\Sub (σ.set m ce) aX) λv l' aX ⟨m,p,e⟩ pU ho=>by
  subst e
  have nm:m ∉ aU.at l:=(bC.mp pU.nd).1
  have hm:σ m=none:=by
   cases e:σ m with
   | none=>rfl
   | some x=>exact absurd (aE ..) (ho m x nm e).2
  refine⟨m,p,hm,_7W (l:=(m,ce)::l) (hA.new hm) pU (p_ _) λa x q e=>(ho a x (λy=>q (aA _ y)) ?_).1⟩
  rw[af.set_ne _ _ (λe:a=m=>q (e ▸ aE ..))] at e
  exact e) λv aX ⟨m,p,hm,s⟩=>⟨_,s,p ▸ k m hm⟩
theorem _7Y{ce:cG}(h:∀σ (R:AV->af->Prop),(∀{m:ao} {aX:af},At aX ((m,ce)::l)->R (.ref m) aX)->At σ l->ct c d o as σ R)(hA:At σ l)(k:∀m,σ m=none->Q (.ref m) (σ.set m ce)):ct c d o as σ Q:=_7X (λσ hA=>h σ (GP l ce) _0U hA) hA k
theorem _4c{n:Nat}(h:bp n):pN (n:Int):=by unfold bp at h;unfold pN;exact _bj h
theorem _4d:pN 0:=by unfold pN;decide
theorem _2C{n i:Nat}{x:AV}(h:(gZ 0 n)[i]? = some x):i<n/\x = .int (i:Nat):=by
 unfold gZ at h
 rw[aQ] at h
 rcases bX i n with q | q
 ·rw[gh q] at h
  simp only[gq,gp,Int.zero_add] at h
  exact⟨q,h.symm⟩
 ·rw[da (by simpa using q)] at h
  cases h
theorem _iA{n:Nat}(h:bp n):n<=b8:=h.le
theorem _7Z{p:Nat->Bool}{i:Nat}:(aV (i+1)).filter p=(aV i).filter p++if p i=true then[i] else[]:=by
 rw[eM,eF,bW,eN]
theorem _iB{u:US}(H:Has c N)(h1:1<=d)(hA:At σ (u.cells N))(hd:i4 u.par)(hz:bp u.par.length)(h:∀m,σ m=none->Q (.ref m) (σ.set m (.list (b9 (cf u.par))))):br c d (.raw (.ref N.u_classes)) [.ref u.self] σ Q:=by
 refine _7X (λσ hA=>?_) hA h
 have G:=H.gs
 refine _g H.d_U_classes h1 rfl ?_
 (refine _4 (‹gt _›).g_range ?_;refine _4 (‹gt _›).g_len ?_;refine _5 ‹At _ _› 0 1 rfl rfl (by rfl) ((‹Has _ _›).a_U_above) (by rfl) ?_;refine _0h (At.nth ‹At _ _› 2 rfl) (by assumption) ?_)
 refine _2p (_3M _4d (_4c hz) ⟨by rw[_1n];simpa using _iA hz,?_⟩)
 refine _z (λi bV aX=>aX=σ/\bV=b9 ((aV i).filter λx=>bD u.par x=x)) ⟨rfl,rfl⟩ (λ_ _ _ _=>trivial) ?_ ?_
 ·rintro i x bV aX k hx ⟨rfl,rfl⟩ hk
  obtain⟨hi,rfl⟩:=_2C hx
  have hi:i<u.par.length:=by simpa using hi
  refine _5 ‹At _ _› 0 1 rfl rfl (by rfl) ((‹Has _ _›).a_U_above) (by rfl) ?_
  refine _45 (At.nth ‹At _ _› 2 rfl) hz hi ?_
  refine _0p ?_
  have hs:=_1y hd hi
  refine _G (λq=>?_) (λq=>?_)
  ·refine hk _ _ ⟨rfl,?_⟩
   rw[_7Z,if_pos (by simpa using hs.mp (d8 q)),_0s]
  ·refine hk _ _ ⟨rfl,?_⟩
   rw[_7Z,if_neg (by simpa using λe=>q (congrArg Int.ofNat (hs.mpr e))),bh]
 ·rintro bV aX ⟨rfl,rfl⟩ a ha
  rw[_1n]
  exact _0U (hA.new ha)
structure gT(x:String):Prop where
 ascii:(x.toList.all λch=>decide (ch.toNat<128))=true
 signs:∀ch∈x.toList,sA (ab (di ch))=false/\(i8 (ab "()[]{},:") (ab (di ch)) 0 (ab "()[]{},:").length 1).isEmpty=true
 ne:x ≠ ""
 len:x.length<=100
 fst:∃ch,x.toList[0]? = some ch/\di ch ≠ "?"
theorem _iC{x:String}(H:Has c N)(h1:1<=d)(hx:gT x)(h:Q (.bool true) σ):br c d (.raw (.ref N.is_op)) [.str x] σ Q:=by
 refine _0T (l:=[]) (P:=λv=>v = .bool true) (λσ hA=>?_) .nil λv e=>e ▸ h
 have G:=H.gs
 refine _g H.d_is_op h1 rfl ?_
 refine _io (.str _) (.str _) (_0H _) (_0H _) (λe=>hx.ne (_s (fN e))) ?_
 refine _hJ hx.ascii ⟨_02 (by rw[qo,ac,kI];exact hx.len),?_⟩
 refine _z (λi bV aX=>aX=σ/\bV=[]) ⟨rfl,rfl⟩ (λ_ _ _ _=>trivial) ?_ ?_
 ·rintro i y bV aX k hy ⟨rfl,rfl⟩ hk
  rw[_3T] at hy
  obtain⟨ch,hch,rfl⟩:=bt.mp hy
  obtain⟨s1,s2⟩:=hx.signs ch (aC hch)
  refine _hF (_l (_hG ?_))
  rw[s1]
  refine _hH ?_
  rw[s2]
  exact hk _ _ ⟨rfl,rfl⟩
 ·rintro bV aX ⟨rfl,rfl⟩ a ha
  replace hA:=hA.new (c:=.list []) ha
  refine And.intro (sl rfl) λb hb=>?_
  replace hA:=hA.new (c:=.list []) hb
  exact _7Q (.list (hA.nth 1 rfl) .nil) (.list (hA.nth 0 rfl) .nil) rfl rfl rfl ⟨rfl,.nil⟩
theorem _iD{x:String}{b:ao}(H:Has c N)(h1:2<=d)(hx:gT x)(h:Q .none σ):br c d (.raw (.ref N.b_require)) [.ref b,.str x] σ Q:=by
 have G:=H.gs
 refine _g H.d_B_require (bN h1) rfl ?_
 refine _4 (‹Has _ _›).g_is_op ?_
 refine _iC H (_b h1) hx ?_
 obtain⟨ch,h2,h3⟩:=hx.fst
 have nE:0<x.length:=by
  rw[<-kI]
  exact(az.mp h2).1
 refine _hD (k:=0) (_01 (i:=0) nE) h2 (by decide) ?_
 refine _7R (.str _) (.str _) (_0H _) (_0H _) (λe=>h3 (_s (fN e))) ?_
 exact h
end
noncomputable abbrev cq:=String×List Nat
noncomputable def cr(n:cq):List AV:=.str n.1::b9 n.2
theorem _80:∀{l m:List Nat},b9 l=b9 m->l=m
 | [],[],_=>rfl
 | [],_::_,h=>by simp[b9] at h
 | _::_,[],h=>by simp[b9] at h
 | a::l,b::m,h=>by
  simp only[b9,aJ,mR,AV.int.injEq] at h
  have h1:a=b:=by(first | lia | omega)
  have h2:l=m:=_80 h.2
  rw[h1,h2]
theorem _2D(a b:cq)(h:cr a=cr b):a=b:=by
 obtain⟨x,l⟩:=a
 obtain⟨y,m⟩:=b
 simp only[cr,mR,AV.str.injEq] at h
 rw[h.1,_80 h.2]
theorem _81:∀(l:List Nat),d_ (b9 l)
 | []=>.nil
 | a::l=>.cons rfl (_81 l)
theorem _0V(n:cq):d_ (cr n):=.cons rfl (_81 _)
structure BS where
 self:ao
 ns:ao
 la:ao
 ln:ao
 lw:ao
 ld:ao
 nodes:List cq
 ws:List Int
 ds:List Int
noncomputable def jB(l:List cq):List (List AV×AV):=l.zipIdx.map λp=>(cr p.1,AV.int (p.2:Nat))
noncomputable def BS.flds(b:BS):List (String×AV):=[("nodes", .ref b.la),("numbers", .ref b.ln),("weights", .ref b.lw),("depths", .ref b.ld)]
noncomputable def BS.cells(N:Nms)(b:BS):aU:=
 (b.self,.inst N.cB b.ns)::(b.ns,.ns b.flds)::(b.la,.list (b.nodes.map λn=>AV.tup (cr n)))::(b.ln,.dictT (jB b.nodes))::(b.lw,.list (cJ b.ws))::(b.ld,.list (cJ b.ds))::[]
structure BOK(b:BS):Prop where
 lw:b.ws.length=b.nodes.length
 ld:b.ds.length=b.nodes.length
 nd:b.nodes.Nodup
 kids:∀i (h:i<b.nodes.length),∀k∈(b.nodes[i]).2,k<i
 few:∀n∈b.nodes,n.2.length<=10
noncomputable def fS(l:List cq)(n:cq):Option Nat:=bz l.zipIdx n
theorem _82{α:Type}[DecidableEq α]:∀(l:List α) (k:Nat) (n:α),(bz (l.zipIdx k) n).isSome=true ↔ n∈l
 | [],k,n=>by simp[_e,_0e]
 | a::l,k,n=>by
  rw[ua]
  rw[_e]
  by_cases h:a=n
  ·subst h;simp
  ·rw[if_neg h,_82 l (k+1) n]
   simp[kL h]
theorem _83{α:Type}[DecidableEq α]:∀(l:List α) (k:Nat) (n:α) (i:Nat),bz (l.zipIdx k) n=some i->k<=i/\l[i-k]? = some n
 | [],k,n,i,h=>by simp[_e,_0e] at h
 | a::l,k,n,i,h=>by
  rw[ua] at h
  rw[_e] at h
  by_cases e:a=n
  ·rw[if_pos e] at h
   simp only[gp] at h
   subst h;subst e
   simp
  ·rw[if_neg e] at h
   obtain⟨h1,h2⟩:=_83 l (k+1) n i h
   refine⟨by exact _22 h1,?_⟩
   rw[show i-k=(i-(k+1))+1 by exact _bk h1]
   simpa using h2
theorem _4e{l:List cq}{n:cq}{i:Nat}(h:fS l n=some i):l[i]? = some n:=by
 have:=(_83 l 0 n i h).2
 simpa using this
theorem _0u{l:List cq}{n:cq}:fS l n=none ↔ n ∉ l:=by
 unfold fS
 rw[<-_82 l 0 n]
 cases bz l.zipIdx n <;> simp
theorem _4f{l:List cq}(hn:l.Nodup){i:Nat}{n:cq}(h:l[i]? = some n):fS l n=some i:=by
 cases e:fS l n with
 | none=>exact absurd (aC h) (_0u.mp e)
 | some j=>
  have hj:=_4e e
  obtain⟨h1,h2⟩:=az.mp h
  obtain⟨h3,h4⟩:=az.mp hj
  have hp:=bZ.mp hn
  have:i=j:=by
   rcases d7 i j with q | q | q
   ·exact absurd (h2.trans h4.symm) (hp i j h1 h3 q)
   ·exact q
   ·exact absurd (h4.trans h2.symm) (hp j i h3 h1 q)
  rw[this]
theorem _4g[DecidableEq (List AV)](l:List cq)(n:cq):bz (jB l) (cr n)=(fS l n).map λi=>AV.int (i:Nat):=by
 unfold jB fS
 exact _0O (f:=cr) (g:=λi:Nat=>AV.int (i:Nat)) _2D _ _
theorem _iE[DecidableEq (List AV)]{l:List cq}{n:cq}(h:fS l n=none):d9 (jB l) (cr n) (.int (l.length:Nat))=jB (l++[n]):=by
 rw[_0M (by rw[_4g,h];rfl)]
 simp[jB,List.zipIdx_append]
theorem _iF(l:List cq):(jB l).length=l.length:=by simp[jB]
section
variable{c:Cx}{d:Nat}{σ:af}{Q:AV->af->Prop}{N:Nms}
theorem _84{α:Type}{l:ao}{xs:List α}{f:α->AV}{i:Nat}(e:σ l=some (.list (xs.map f)))(hz:bp xs.length)(hi:i<xs.length)(h:Q (f xs[i]) σ):gN c d (.ref l) (.int (i:Int)) σ Q:=
 _1i e (by rw[ac];exact hz) (by rw[ac];exact _01 hi) (by simp[hi]) (hz.idx hi) h
theorem _iG{b:BS}(H:Has c N)(h1:1<=d)(hA:At σ (b.cells N))(hz:bp b.nodes.length)(h:Q (.int (b.nodes.length:Nat)) σ):br c d (.raw (.ref N.b_size)) [.ref b.self] σ Q:=by
 have G:=H.gs
 refine _g H.d_B_size h1 rfl ?_
 (refine _4 (‹gt _›).g_len ?_;refine _5 ‹At _ _› 0 1 rfl rfl (by rfl) ((‹Has _ _›).a_B_nodes) (by rfl) ?_)
 refine _w (At.nth ‹At _ _› 2 rfl) (by((try unfold bp at *);(try simp only[am,aP,bL,ac,_7,bw] at *);exact _bl hz)) ?_
 rw[ac]
 exact h
theorem _85{b:BS}{n:Nat}(H:Has c N)(h1:1<=d)(hA:At σ (b.cells N))(hz:bp b.nodes.length)(hn:n<b.nodes.length)(h:Q (.str (b.nodes[n]).1) σ):br c d (.raw (.ref N.b_op)) [.ref b.self,.int (n:Int)] σ Q:=by
 have G:=H.gs
 refine _g H.d_B_op h1 rfl ?_
 refine _5 ‹At _ _› 0 1 rfl rfl (by rfl) ((‹Has _ _›).a_B_nodes) (by rfl) ?_
 refine _84 (At.nth ‹At _ _› 2 rfl) hz hn ?_
 exact _1l (k:=0) (_01 (i:=0) (by simp[cr])) rfl (by decide) h
theorem _4h{b:BS}{n:Nat}(H:Has c N)(h1:1<=d)(hA:At σ (b.cells N))(hz:bp b.nodes.length)(hB:BOK b)(hn:n<b.nodes.length)(h:Q (.tup (b9 (b.nodes[n]).2)) σ):br c d (.raw (.ref N.b_kids)) [.ref b.self,.int (n:Int)] σ Q:=by
 have G:=H.gs
 have hf:=hB.few _ (bO hn)
 refine _g H.d_B_kids h1 rfl ?_
 refine _5 ‹At _ _› 0 1 rfl rfl (by rfl) ((‹Has _ _›).a_B_nodes) (by rfl) ?_
 refine _84 (At.nth ‹At _ _› 2 rfl) hz hn ?_
 exact _1m (by rw[_7];unfold bp;exact _5o hf) h
end
section
variable{c:Cx}{d:Nat}{σ:af}{Q:AV->af->Prop}{N:Nms}
theorem _03(l:List Int):(cJ l).length=l.length:=by simp[cJ]
theorem _4i{l:ao}{xs:List Int}{i:Nat}(e:σ l=some (.list (cJ xs)))(hz:bp xs.length)(hi:i<xs.length)(h:Q (.int (xs[i])) σ):gN c d (.ref l) (.int (i:Int)) σ Q:=
 _1i e (by rw[_03];exact hz) (by rw[_03];exact _01 hi) (by simp[cJ,hi]) (hz.idx hi) h
theorem _0v{l:List Nat}{i:Nat}{x:AV}(h:(b9 l)[i]? = some x):∃k,l[i]? = some k/\x = .int (k:Nat):=by
 unfold b9 at h
 rw[aQ] at h
 obtain⟨k,h1,h2⟩:=bt.mp h
 exact⟨k,h1,h2.symm⟩
noncomputable def BS.took(b:BS)(n:cq)(w dd:Int):BS:={b with nodes:=b.nodes++[n],ws:=b.ws++[w],ds:=b.ds++[dd]}
theorem BOK.took{b:BS}(h:BOK b){n:cq}(hn:fS b.nodes n=none)(hk:∀k∈n.2,k<b.nodes.length)(hf:n.2.length<=10)(w dd:Int):BOK (b.took n w dd):=by
 refine⟨by simp[BS.took,h.lw],by simp[BS.took,h.ld],?_,?_,?_⟩
 ·simp only[BS.took,cg]
  refine⟨h.nd,by simp,λa ha b' hb e=>?_⟩
  obtain rfl:=aj.mp hb
  exact _0u.mp hn (e ▸ ha)
 ·intro i hi k fP
  simp only[BS.took,am,aF] at hi
  simp only[BS.took] at fP
  rw[iS] at fP
  split at fP
  ·exact h.kids i (by assumption) k fP
  ·simp only[qQ] at fP
   have:=hk k fP
   (first | lia | omega)
 ·intro m hm
  simp only[BS.took] at hm
  rcases aK.mp hm with hm | hm
  ·exact h.few m hm
  ·obtain rfl:=aj.mp hm;exact hf
noncomputable def rW(N:Nms)(b:BS)(n:cq)(v:AV)(l':aU):Prop:=match fS b.nodes n with
 | some i=>v = .int (i:Nat)/\l'=b.cells N
 | none=>∃w dd,v = .int (b.nodes.length:Nat)/\l'=(b.took n w dd).cells N
noncomputable def s_(p0:ao)(p1:String)(p2:List AV)(p3:List AV):Loc:=[("self", .ref p0),("op", .str p1),("kids", .tup p2),("node", .tup p3)]
open Classical in
theorem _iH{b:BS}{op:String}{ks:List Nat}(H:Has c N)(h1:3<=d)(hz:bp (b.nodes.length+1))(hB:BOK b)(vZ:gT op)(hk:∀k∈ks,k<b.nodes.length)(hf:ks.length<=10):
  mI c d .call [.raw (.ref N.b_take),.ref b.self,.str op,.tup (b9 ks)] (b.cells N) (rW N b (op,ks)):=by
 refine _J λσ R _i hA=>?_
 have G:=H.gs
 have vD:=hB.lw
 have wq:=hB.ld
 have wN:bp (b9 ks).length:=by rw[_7];unfold bp;exact _5o hf
 refine _g H.d_B_take (by exact _bm h1) rfl ?_
 (refine And.intro (sl rfl) ?_;refine _4 (‹gt _›).g_tuple ?_)
 refine _h7 ?_
 refine _2n (by rw[aF];unfold bp at *;rw[_7] at *;exact _bn hf) ?_
 refine _5 ‹At _ _› 0 1 rfl rfl (by rfl) ((‹Has _ _›).a_B_numbers) (by rfl) ?_
 refine _ho (k:=cr (op,ks)) (At.nth ‹At _ _› 3 rfl) (_0V _) ?_
 rw[_4g]
 have sK:2<=dn d:=_b h1
 cases h_:fS b.nodes (op,ks) with
 | some i=>
  refine _5 ‹At _ _› 0 1 rfl rfl (by rfl) ((‹Has _ _›).a_B_numbers) (by rfl) ?_
  refine _hp (k:=cr (op,ks)) (x:=.int (i:Nat)) (At.nth ‹At _ _› 3 rfl) (_0V _) (by rw[_4g,h_];rfl) ?_
  exact _i hA (by unfold rW;rw[h_];exact⟨rfl,rfl⟩)
 | none=>
  refine _9 ‹At _ _› 0 1 rfl rfl rfl ((‹Has _ _›).m_B_require) ((‹Has _ _›).d_B_require) ?_
  refine _iD H sK vZ ?_
  refine _1m wN (_R ?_)
  refine _z (λi m' aX=>aX=σ/\m'=s_ b.self op (b9 ks) (cr (op,ks))) ⟨rfl,rfl⟩ (λ_ _ _ _=>trivial) ?_ ?_
  ·rintro i x m' aX k hx ⟨rfl,rfl⟩ fP
   obtain⟨kid,hkid,rfl⟩:=_0v hx
   have iU:=hk kid (aC hkid)
   refine _gX ?_
   (refine _4 (‹gt _›).g_len ?_;refine _5 ‹At _ _› 0 1 rfl rfl (by rfl) ((‹Has _ _›).a_B_nodes) (by rfl) ?_)
   refine _w (At.nth ‹At _ _› 2 rfl) (by((try unfold bp at *);(try simp only[am,aP,bL,ac,_7,bw] at *);exact _0c hz)) ?_
   refine _2h ?_
   refine _44 (λ_=>?_) λq=>absurd ?_ q
   ·exact fP _ _ ⟨rfl,rfl⟩
   ·rw[ac];exact gc.mpr iU
  ·rintro m' aX ⟨rfl,rfl⟩
   (refine _4 (‹gt _›).g_len ?_;refine _5 ‹At _ _› 0 1 rfl rfl (by rfl) ((‹Has _ _›).a_B_nodes) (by rfl) ?_)
   refine _w (At.nth ‹At _ _› 2 rfl) (by((try unfold bp at *);(try simp only[am,aP,bL,ac,_7,bw] at *);exact _0c hz)) ?_
   rw[ac]
   refine _5 ‹At _ _› 0 1 rfl rfl (by rfl) ((‹Has _ _›).a_B_numbers) (by rfl) ?_
   refine _hq (k:=cr (op,ks)) (At.nth ‹At _ _› 3 rfl) (_0V _) (by rw[_iF];exact(by((try unfold bp at *);(try simp only[am,aP,bL,ac,_7,bw] at *);exact _0c hz))) ?_
   rw[_iE h_]
   replace hA:=hA.put 3 rfl (.dictT (jB (b.nodes++[(op,ks)])))
   (refine _5 ‹At _ _› 0 1 rfl rfl (by rfl) ((‹Has _ _›).a_B_nodes) (by rfl) ?_;refine _v (At.nth ‹At _ _› 2 rfl) ?_;refine _l ?_)
   refine _F (At.nth ‹At _ _› 2 rfl) (by((try unfold bp at *);(try simp only[am,aP,bL,ac,_7,bw] at *);exact _0c hz)) ?_
   rw[show(b.nodes.map λn=>AV.tup (cr n))++[AV.tup (cr (op,ks))]=(b.nodes++[(op,ks)]).map λn=>AV.tup (cr n) by simp]
   replace hA:=hA.put 2 rfl (.list ((b.nodes++[(op,ks)]).map λn=>AV.tup (cr n)))
   generalize (aX.set b.ln _).set b.la _=σ2 at hA ⊢
   (refine _5 ‹At _ _› 0 1 rfl rfl (by rfl) ((‹Has _ _›).a_B_weights) (by rfl) ?_;refine _v (At.nth ‹At _ _› 4 rfl) ?_;refine _l ?_;refine _4 (‹gt _›).g_sum ?_)
   refine _1m wN (_R ⟨wN.le,?_⟩)
   refine _z (λi bV aX=>aX=σ2/\∃ws,bV=cJ ws/\ws.length=i) ⟨rfl,[],rfl,rfl⟩ (λ_ _ _ _=>trivial) ?_ ?_
   ·rintro i x bV aX k hx ⟨rfl,ws,rfl,hws⟩ fP
    obtain⟨kid,hkid,rfl⟩:=_0v hx
    have iU:=hk kid (aC hkid)
    refine _5 ‹At _ _› 0 1 rfl rfl (by rfl) ((‹Has _ _›).a_B_weights) (by rfl) ?_
    refine _4i (At.nth ‹At _ _› 4 rfl) (by((try unfold bp at *);(try simp only[am,aP,bL,ac,_7,bw] at *);exact _0F hz vD)) (by exact _N vD iU) ?_
    exact fP _ _ ⟨rfl,ws++[b.ws[kid]'(by exact _N vD iU)],by simp[cJ],by simp[hws]⟩
   ·rintro bV aX ⟨rfl,ws,rfl,hws⟩ m1 hm1
    replace hA:=hA.new (c:=.list (cJ ws)) hm1
    refine _hC (At.nth ‹At _ _› 0 rfl) ?_
    replace hA:=hA.tail
    refine _0K ?_
    refine _F (At.nth ‹At _ _› 4 rfl) (by rw[_03];exact(by((try unfold bp at *);(try simp only[am,aP,bL,ac,_7,bw] at *);exact _0F hz vD))) ?_
    rw[show cJ b.ws++[AV.int (1+ws.sum)]=cJ (b.ws++[1+ws.sum]) by simp[cJ]]
    replace hA:=hA.put 4 rfl (.list (cJ (b.ws++[1+ws.sum])))
    generalize (aX.set m1 _).set b.lw _=σ4 at hA ⊢
    (refine _5 ‹At _ _› 0 1 rfl rfl (by rfl) ((‹Has _ _›).a_B_depths) (by rfl) ?_;refine _v (At.nth ‹At _ _› 5 rfl) ?_;refine _l ?_;refine _4 (‹gt _›).g_max ?_)
    refine _1m wN (_R ⟨wN.le,?_⟩)
    refine _z (λi bV aX=>aX=σ4/\∃ws,bV=cJ ws/\ws.length=i) ⟨rfl,[],rfl,rfl⟩ (λ_ _ _ _=>trivial) ?_ ?_
    ·rintro i x bV aX k hx ⟨rfl,ws,rfl,hws⟩ fP
     obtain⟨kid,hkid,rfl⟩:=_0v hx
     have iU:=hk kid (aC hkid)
     refine _5 ‹At _ _› 0 1 rfl rfl (by rfl) ((‹Has _ _›).a_B_depths) (by rfl) ?_
     refine _4i (At.nth ‹At _ _› 5 rfl) (by((try unfold bp at *);(try simp only[am,aP,bL,ac,_7,bw] at *);exact _0F hz wq)) (by exact _N wq iU) ?_
     exact fP _ _ ⟨rfl,ws++[b.ds[kid]'(by exact _N wq iU)],by simp[cJ],by simp[hws]⟩
    ·rintro bV aX ⟨rfl,es,rfl,wU⟩ m2 re
     replace hA:=hA.new (c:=.list (cJ es)) re
     refine And.intro (sl rfl) λm3 hm3=>?_
     replace hA:=hA.new (c:=.list [.int 0]) hm3
     have xM:es.length=ks.length:=by rw[wU];exact _7 _
     refine _1j (At.nth ‹At _ _› 1 rfl) (At.nth ‹At _ _› 0 rfl) (by rw[_03,aF,xM];unfold bp;exact _bo hf) λm4 hm4=>?_
     rw[show cJ es++[AV.int 0]=cJ (es++[0]) by simp[cJ]]
     replace hA:=hA.new (c:=.list (cJ (es++[0]))) hm4
     refine _hB (At.nth ‹At _ _› 0 rfl) (by simp) λmx _ _=>?_
     replace hA:=hA.tail.tail.tail
     refine _0K ?_
     refine _F (At.nth ‹At _ _› 5 rfl) (by rw[_03];exact(by((try unfold bp at *);(try simp only[am,aP,bL,ac,_7,bw] at *);exact _0F hz wq))) ?_
     rw[show cJ b.ds++[AV.int (1+mx)]=cJ (b.ds++[1+mx]) by simp[cJ]]
     replace hA:=hA.put 5 rfl (.list (cJ (b.ds++[1+mx])))
     (refine _4 (‹gt _›).g_len ?_;refine _5 ‹At _ _› 0 1 rfl rfl (by rfl) ((‹Has _ _›).a_B_nodes) (by rfl) ?_)
     refine _w (At.nth ‹At _ _› 2 rfl) (by((try unfold bp at *);(try simp only[am,aP,bL,ac,_7,bw] at *);exact _5l hz)) ?_
     refine _2f ?_
     refine _i (l:=(b.took (op,ks) (1+ws.sum) (1+mx)).cells N) hA ?_
     unfold rW
     rw[h_]
     exact⟨_,_,by simp,rfl⟩
noncomputable abbrev bNewP(N:Nms)(v:AV)(l':aU):Prop:=∃b:BS,v = .ref b.self/\b.nodes=[]/\BOK b/\l'=b.cells N
theorem _iI(H:Has c N)(h1:1<=d):mI c d .call [.raw (.ref N.cB)] [] (bNewP N):=by
 refine _J λσ R _i hA=>?_
 refine _4b H.k_B H.d_B_init h1 rfl λx dx hx hdx gK=>?_
 replace hA:=hA.inst (C:=N.cB) hx hdx gK
 refine And.intro (sl rfl) λla hla=>?_
 replace hA:=hA.new (c:=.list []) hla
 refine _A (hA.nth 1 rfl) (hA.nth 2 rfl) ((‹Has _ _›).s_B_nodes) (by simp) λ_=>?_
 replace hA:=hA.put 2 rfl (.ns (Loc.put [] "nodes" (.ref la)))
 refine Exists.intro (.dictT []) (And.intro (.inr rfl) λln wo=>?_)
 replace hA:=hA.new (c:=.dictT []) wo
 refine _A (hA.nth 2 rfl) (hA.nth 3 rfl) ((‹Has _ _›).s_B_numbers) (be rfl) λ_=>?_
 replace hA:=hA.put 3 rfl (.ns (Loc.put (Loc.put [] "nodes" (.ref la)) "numbers" (.ref ln)))
 refine And.intro (sl rfl) λlw vD=>?_
 replace hA:=hA.new (c:=.list []) vD
 refine _A (hA.nth 3 rfl) (hA.nth 4 rfl) ((‹Has _ _›).s_B_weights) (be rfl) λ_=>?_
 replace hA:=hA.put 4 rfl (.ns (Loc.put (Loc.put (Loc.put [] "nodes" (.ref la)) "numbers" (.ref ln)) "weights" (.ref lw)))
 refine And.intro (sl rfl) λld wq=>?_
 replace hA:=hA.new (c:=.list []) wq
 refine _A (hA.nth 4 rfl) (hA.nth 5 rfl) ((‹Has _ _›).s_B_depths) (be rfl) λ_=>?_
 replace hA:=hA.put 5 rfl (.ns (Loc.put (Loc.put (Loc.put (Loc.put [] "nodes" (.ref la)) "numbers" (.ref ln)) "weights" (.ref lw)) "depths" (.ref ld)))
 refine _i (hA.perm ?_) ⟨⟨x,dx,la,ln,lw,ld,[],[],[]⟩,rfl,rfl,⟨rfl,rfl,.nil,(λi hi=>absurd hi (ca _)),(λn hn=>absurd hn (bj))⟩,rfl⟩
 refine lQ.trans ?_ (fL _)
 exact .swap _ _ _
end
structure MS where
 nodes:List cq
 par:List Nat
 lots:List (List Nat)
 log:List (Nat×Nat)
 edges:List (Nat×Nat×AV)
 forest:List Nat
 known:List (cq×Nat)
 users:List (Nat×List Nat)
 waiting:List Nat
namespace MS
noncomputable def size(s:MS):Nat:=s.nodes.length
noncomputable def find(s:MS)(n:Nat):Nat:=bD s.par n
noncomputable def canon(s:MS)(n:Nat):cq:=((s.nodes.getD n default).1,(s.nodes.getD n default).2.map s.find)
noncomputable def usersOf(s:MS)(r:Nat):List Nat:=(bz s.users r).getD []
noncomputable def joinK(s:MS)(a b:Nat)(r:AV)(k g:Nat):MS:=
 {s with edges:=s.edges++[(a,b,r)],forest:=s.forest++[s.edges.length],par:=s.par.set g k,lots:=s.lots.set k (s.lots.getD k []++s.lots.getD g []),log:=s.log++[(k,g)],waiting:=s.waiting++s.usersOf g,users:=d9 (gy s.users g) k (s.usersOf k++s.usersOf g)}
noncomputable def join(s:MS)(a b:Nat)(r:AV):MS:=
 if s.find a=s.find b then{s with edges:=s.edges++[(a,b,r)]} else s.joinK a b r (min (s.find a) (s.find b)) (max (s.find a) (s.find b))
noncomputable def like:AV:=.tup [.str "like"]
noncomputable def look(s:MS)(n:Nat):MS:=match bz s.known (s.canon n) with
 | some o=>if s.find o=s.find n then s else s.join o n like
 | none=>{s with known:=s.known++[(s.canon n,n)]}
noncomputable def pop(s:MS):MS:={s with waiting:=s.waiting.dropLast}
noncomputable def gY:Nat->MS->MS
 | 0,s=>s
 | k+1,s=>match s.waiting.getLast? with
  | none=>s
  | some n=>gY k (s.pop.look n)
noncomputable def left(s:MS):Nat:=(cf s.par).length*(2*s.size+1)+s.waiting.length
noncomputable def settle(s:MS):MS:=gY s.left s
noncomputable def newNode(s:MS)(n:cq):MS:=
 {s with nodes:=s.nodes++[n],par:=s.par++[s.par.length],lots:=s.lots++[[s.par.length]],users:=(s.users++[(s.size,[])]).map λ(p:Nat×List Nat)=>if p.1∈n.2.map s.find then(p.1,p.2++[s.size]) else p}
noncomputable def add(s:MS)(n:cq):MS:=match fS s.nodes n with
 | some _=>s
 | none=>(s.newNode n).look s.size
noncomputable def numberOf(s:MS)(n:cq):Nat:=(fS s.nodes n).getD s.size
end MS
noncomputable def eK(l:List (Nat×List Nat)):Nat:=(l.map λp=>p.2.length).sum
theorem _86{l:List (Nat×List Nat)}{g:Nat}{x:List Nat}:bz l g=some x->eK (gy l g)+x.length=eK l:=by
 induction l with
 | nil=>intro h;cases h
 | cons p l ih=>
  obtain⟨k,v⟩:=p
  intro h
  rw[_e] at h
  rw[_I]
  by_cases e:k=g
  ·rw[if_pos e] at h ⊢
   cases h
   simp[eK];exact _bp
  ·rw[if_neg e] at h ⊢
   have:=ih h
   simp only[eK,aJ,im] at this ⊢
   exact _bq this
theorem _iJ{l:List (Nat×List Nat)}{g:Nat}{x y:List Nat}:bz l g=some x->eK (d9 l g y)+x.length=eK l+y.length:=by
 induction l with
 | nil=>intro h;cases h
 | cons p l ih=>
  obtain⟨k,v⟩:=p
  intro h
  rw[_e] at h
  rw[_y]
  by_cases e:k=g
  ·rw[if_pos e] at h ⊢
   cases h
   simp[eK];exact _br
  ·rw[if_neg e] at h ⊢
   have:=ih h
   simp only[eK,aJ,im] at this ⊢
   exact _bs this
theorem _4j{V:Type}{l:List (Nat×V)}{g k:Nat}(h:k≠g):bz (gy l g) k=bz l k:=by
 induction l with
 | nil=>rfl
 | cons p l ih=>
  obtain⟨x,v⟩:=p
  rw[_I]
  by_cases e:x=g
  ·rw[if_pos e]
   rw[_e,if_neg (by exact _bt h e)]
  ·rw[if_neg e,_e,_e,ih]
theorem _iK{V:Type}{l:List (Nat×V)}{g:Nat}:(gy l g).map (·.1)=(l.map (·.1)).erase g:=by
 induction l with
 | nil=>rfl
 | cons p l ih=>
  obtain⟨x,v⟩:=p
  rw[_I]
  by_cases e:x=g
  ·subst e;rw[if_pos rfl];simp
  ·rw[if_neg e,aJ,aJ,List.erase_cons_tail (by simpa using e),ih]
theorem _iL{V:Type}{l:List (Nat×V)}{g:Nat}{x y:V}(h:bz l g=some x):(d9 l g y).map (·.1)=l.map (·.1):=by
 induction l with
 | nil=>cases h
 | cons p l ih=>
  obtain⟨k,v⟩:=p
  rw[_e] at h
  rw[_y]
  by_cases e:k=g
  ·rw[if_pos e];simp
  ·rw[if_neg e] at h ⊢
   rw[aJ,aJ,ih h]
theorem _S{K V:Type}[DecidableEq K]{l:List (K×V)}{k:K}{v:V}:bz l k=some v->(k,v)∈l:=by
 induction l with
 | nil=>intro h;cases h
 | cons p l ih=>
  obtain⟨x,w⟩:=p
  intro h
  rw[_e] at h
  by_cases e:x=k
  ·rw[if_pos e] at h
   cases h;subst e;exact aE
  ·rw[if_neg e] at h
   exact aA _ (ih h)
theorem _87{K V:Type}[DecidableEq K]{l:List (K×V)}{k:K}(h:k∈l.map (·.1)):∃v,bz l k=some v:=by
 cases e:bz l k with
 | none=>exact absurd h (_0L.mp e)
 | some v=>exact⟨v,rfl⟩
theorem _iM{V:Type}{l:List (Nat×V)}{g:Nat}{y:V}{p:Nat×V}(h:p∈d9 l g y):p=(g,y)\/p∈l:=by
 induction l with
 | nil=>exact .inl (aj.mp h)
 | cons q l ih=>
  obtain⟨k,v⟩:=q
  rw[_y] at h
  by_cases e:k=g
  ·rw[if_pos e] at h
   rcases aO.mp h with h | h
   ·subst e;exact .inl h
   ·exact .inr (aA _ h)
  ·rw[if_neg e] at h
   rcases aO.mp h with h | h
   ·exact .inr (h ▸ aE)
   ·exact(ih h).imp id (aA _)
theorem _iN{V:Type}{l:List (Nat×V)}{g:Nat}{p:Nat×V}(h:p∈gy l g):p∈l:=by
 induction l with
 | nil=>cases h
 | cons q l ih=>
  obtain⟨k,v⟩:=q
  rw[_I] at h
  by_cases e:k=g
  ·rw[if_pos e] at h;exact aA _ h
  ·rw[if_neg e] at h
   rcases aO.mp h with h | h
   ·exact h ▸ aE
   ·exact aA _ (ih h)
structure MOK(T:Nat)(s:MS):Prop where
 down:i4 s.par
 lgr:s.log.length+(cf s.par).length=s.par.length
 len:s.par.length=s.size
 two:∀n∈s.nodes,n.2.length<=2
 kids:∀i (h:i<s.nodes.length),∀k∈(s.nodes[i]).2,k<i
 nd:s.nodes.Nodup
 small:s.size<=200
 told:T<=2000
 keys:(s.users.map (·.1)).Perm (cf s.par)
 sum:eK s.users<=2*s.size
 bound:s.known.length+s.waiting.length<=s.size+2*s.size*s.log.length
 edges:s.edges.length<=T+s.log.length
 forest:s.forest.length=s.log.length
 knownlt:∀p∈s.known,p.2<s.size
 waitlt:∀n∈s.waiting,n<s.size
 userlt:∀p∈s.users,∀n∈p.2,n<s.size
theorem _iO{p:List Nat}(hd:i4 p){a:Nat}(ha:a<p.length):bD p a∈cf p:=
 bH.mpr ⟨aN.mpr (_K hd a ha).2,by simpa using _0t hd ha⟩
theorem MOK.sizes{T:Nat}{s:MS}(h:MOK T s):s.log.length<=200/\s.waiting.length<=90000/\s.known.length<=90000/\s.edges.length<=3000:=by
 have h1:=h.lgr
 have h2:=h.len
 have h3:=h.small
 have h4:=h.bound
 have h5:=h.edges
 have h6:=h.told
 have h7:s.log.length<=200:=by exact _bu h1 h2 h3
 have h8:2*s.size*s.log.length<=400*200:=lM (by exact _bv h3) h7
 exact⟨(_5p h7),⟨(_bw h3 h4 h8),⟨(_bx h3 h4 h8),(_by h5 h6 h7)⟩⟩⟩
theorem MOK.user{T:Nat}{s:MS}(h:MOK T s){r:Nat}(hr:r∈cf s.par):∃l,bz s.users r=some l/\s.usersOf r=l/\l.length<=2*s.size/\∀n∈l,n<s.size:=by
 obtain⟨l,hl⟩:=_87 (h.keys.mem_iff.mpr hr)
 refine⟨l,hl,by simp[MS.usersOf,hl],?_,h.userlt _ (_S hl)⟩
 have h1:=_86 hl
 have h2:=h.sum
 exact _bz h1 h2
structure mG(p:List Nat)(k g:Nat):Prop where
 lt:k<g
 gl:g<p.length
 rk:bD p k=k
 rg:bD p g=g
theorem _0W{p:List Nat}(hd:i4 p){a b:Nat}(ha:a<p.length)(hb:b<p.length)(h:bD p a≠bD p b):mG p (min (bD p a) (bD p b)) (max (bD p a) (bD p b)):=by
 have h1:=_K hd a ha
 have h2:=_K hd b hb
 have h3:=_0t hd ha
 have h4:=_0t hd hb
 refine⟨by exact _bA h,by exact _bB h1.2 h2.2,?_,?_⟩
 ·rcases dh (bD p a) (bD p b) with q | q
  ·rw[dg q];exact h3
  ·rw[dC q];exact h4
 ·rcases dh (bD p a) (bD p b) with q | q
  ·rw[eB q];exact h4
  ·rw[dK q];exact h3
theorem mG.kmem{p:List Nat}{k g:Nat}(h:mG p k g):k∈cf p:=bH.mpr ⟨aN.mpr (by have:=h.lt;have:=h.gl;(first | lia | omega)),by simpa using h.rk⟩
theorem mG.gmem{p:List Nat}{k g:Nat}(h:mG p k g):g∈cf p:=bH.mpr ⟨aN.mpr h.gl,by simpa using h.rg⟩
theorem MOK.joinK{T:Nat}{s:MS}(h:MOK T s){a b k g:Nat}{r:AV}(pr:mG s.par k g):MOK T (s.joinK a b r k g):=by
 obtain⟨hro,iA⟩:=_49 h.down pr.gl pr.lt pr.rg pr.rk
 have cL:=eh iA
 have xJ:=h.lgr
 obtain⟨lk,ek,uk,nk,bk⟩:=h.user pr.kmem
 obtain⟨lg,eg,ug,ng,bg⟩:=h.user pr.gmem
 have fP:bz (gy s.users g) k=some lk:=by rw[_4j (by have:=pr.lt;exact _21 this)];exact ek
 have hJ:(cf s.par).Nodup:=List.nodup_range.filter _
 refine{down:=_47 h.down (by have:=pr.lt;exact _38 this),lgr:=?_,len:=?_,two:=h.two,kids:=h.kids,nd:=h.nd,small:=h.small,told:=h.told,keys:=?_,sum:=?_,bound:=?_,edges:=?_,forest:=?_,knownlt:=h.knownlt,waitlt:=?_,userlt:=?_}
 ·simp only[MS.joinK,hro,am,aF,bw,dU iA];exact _bC cL xJ
 ·simp only[MS.joinK,bw];exact h.len
 ·simp only[MS.joinK]
  rw[_iL fP,_iK,hro]
  exact h.keys.erase g
 ·simp only[MS.joinK,uk,ug]
  have s1:=_86 eg
  have s2:=_iJ (y:=lk++lg) fP
  have:=h.sum
  rw[am] at s2
  show _<=2*s.size
  exact _bD s1 s2 this
 ·have:=h.bound
  simp only[MS.joinK,ug,am,aF]
  show s.known.length+(s.waiting.length+lg.length)<=s.size+2*s.size*(s.log.length+1)
  rw[lN];exact _bE ng this
 ·have:=h.edges
  simp only[MS.joinK,am,aF];exact _bF this
 ·have:=h.forest
  simp only[MS.joinK,am,aF];exact _bG this
 ·intro n hn
  simp only[MS.joinK,ug] at hn
  rcases aK.mp hn with hn | hn
  ·exact h.waitlt n hn
  ·exact bg n hn
 ·intro p hp n hn
  simp only[MS.joinK,ug,uk] at hp
  rcases _iM hp with rfl | hp
  ·rcases aK.mp hn with hn | hn
   ·exact bk n hn
   ·exact bg n hn
  ·exact h.userlt p (_iN hp) n hn
theorem MOK.more{T T':Nat}{s:MS}(h:MOK T s)(l:T<=T')(h2:T'<=2000):MOK T' s:={h with told:=h2,edges:=ay h.edges (by exact _bH l)}
theorem MOK.told_edge{T:Nat}{s:MS}(h:MOK T s)(e:Nat×Nat×AV)(hT:T+1<=2000):MOK (T+1) {s with edges:=s.edges++[e]}:=
 {h with told:=hT,edges:=by have:=h.edges;simp only[am,aF];exact _bI this}
theorem MOK.join{T:Nat}{s:MS}(h:MOK T s){a b:Nat}{r:AV}(ha:a<s.size)(hb:b<s.size)(hT:T+1<=2000):MOK (T+1) (s.join a b r):=by
 unfold MS.join
 split
 ·exact h.told_edge _ hT
 ·rename_i q
  exact((h.joinK (_0W h.down (by rw[h.len];exact ha) (by rw[h.len];exact hb) q))).more (by exact _bJ) hT
theorem MOK.join_ne{T:Nat}{s:MS}(h:MOK T s){a b:Nat}{r:AV}(ha:a<s.size)(hb:b<s.size)(gK:s.find a≠s.find b):MOK T (s.join a b r):=by
 unfold MS.join
 rw[if_neg gK]
 exact h.joinK (_0W h.down (by rw[h.len];exact ha) (by rw[h.len];exact hb) gK)
theorem MOK.look{T:Nat}{s:MS}(h:MOK T s){n:Nat}(hn:n<s.size)(sl:s.known.length+s.waiting.length+1<=s.size+2*s.size*s.log.length):MOK T (s.look n):=by
 unfold MS.look
 split
 ·rename_i o ho
  have sn:=h.knownlt _ (_S ho)
  by_cases e:s.find o=s.find n
  ·rw[if_pos e];exact h
  ·rw[if_neg e];exact h.join_ne sn hn e
 ·refine{h with bound:=?_,knownlt:=?_}
  ·show(s.known++[(s.canon n,n)]).length+s.waiting.length<=s.size+2*s.size*s.log.length
   simp only[am,aF];exact _bK sl
  ·intro p hp
   rcases aK.mp hp with hp | hp
   ·exact h.knownlt p hp
   ·obtain rfl:=aj.mp hp;exact hn
theorem MS.look_size(s:MS)(n:Nat):(s.look n).size=s.size/\(s.look n).nodes=s.nodes:=by
 unfold MS.look
 split
 ·split
  ·exact⟨rfl,rfl⟩
  ·unfold MS.join;split <;> exact⟨rfl,rfl⟩
 ·exact⟨rfl,rfl⟩
theorem MOK.pop{T:Nat}{s:MS}(h:MOK T s){n:Nat}(hw:s.waiting.getLast? = some n):MOK T s.pop/\n<s.size/\s.pop.known.length+s.pop.waiting.length+1<=s.pop.size+2*s.pop.size*s.pop.log.length/\s.waiting=s.pop.waiting++[n]:=by
 have gK:s.waiting≠[]:=λe=>by rw[e] at hw;cases hw
 have hl:s.waiting.getLast gK=n:=by
  rw[List.getLast?_eq_some_getLast gK] at hw
  exact aB hw
 have vV:s.waiting=s.waiting.dropLast++[n]:=by rw[<-hl];exact(List.dropLast_concat_getLast gK).symm
 have cL:s.waiting.length=s.waiting.dropLast.length+1:=by
  have:=congrArg fV vV
  simpa using this
 have hb:=h.bound
 refine⟨{h with bound:=?_,waitlt:=λm hm=>h.waitlt m (List.dropLast_subset _ hm)},h.waitlt n (by rw[vV];simp),?_,vV⟩
 ·show s.known.length+s.waiting.dropLast.length<=s.size+2*s.size*s.log.length
  (first | lia | omega)
 ·show s.known.length+s.waiting.dropLast.length+1<=s.size+2*s.size*s.log.length
  (first | lia | omega)
theorem MS.left_joinK{T:Nat}{s:MS}(h:MOK T s){a b k g:Nat}{r:AV}(pr:mG s.par k g):(s.joinK a b r k g).left<s.left:=by
 obtain⟨hro,iA⟩:=_49 h.down pr.gl pr.lt pr.rg pr.rk
 have cL:=eh iA
 obtain⟨lg,eg,ug,ng,bg⟩:=h.user pr.gmem
 unfold MS.left
 simp only[MS.joinK,hro,ug,am,dU iA]
 show((cf s.par).length-1)*(2*s.size+1)+(s.waiting.length+lg.length)<_
 obtain⟨m,hm⟩:∃m,(cf s.par).length=m+1:=⟨(cf s.par).length - 1,by exact _bL cL⟩
 rw[hm,mQ,Nat.add_mul]
 exact _bM ng
theorem MS.left_look{T:Nat}{s:MS}(h:MOK T s){n:Nat}(hn:n<s.size):(s.look n).left<=s.left:=by
 unfold MS.look
 split
 ·rename_i o ho
  have sn:=h.knownlt _ (_S ho)
  by_cases e:s.find o=s.find n
  ·rw[if_pos e];exact aD _
  ·rw[if_neg e]
   unfold MS.join
   rw[if_neg e]
   exact eV (left_joinK h (_0W h.down (by rw[h.len];exact sn) (by rw[h.len];exact hn) e))
 ·exact aD _
theorem MS.left_pop{T:Nat}{s:MS}(h:MOK T s){n:Nat}(hw:s.waiting.getLast? = some n):(s.pop.look n).left<s.left:=by
 obtain⟨h1,h2,_,h4⟩:=h.pop hw
 have:=left_look h1 h2
 have e:s.left=s.pop.left+1:=by
  unfold left
  rw[h4,am,aF]
  rfl
 exact _bN this e
theorem MS.settleN_none{k:Nat}{s:MS}(hw:s.waiting.getLast? = none):gY (k+1) s=s:=by
 show(match s.waiting.getLast? with | none=>s | some n=>gY k (s.pop.look n))=s
 rw[hw]
theorem MS.settleN_some{k:Nat}{s:MS}{n:Nat}(hw:s.waiting.getLast? = some n):gY (k+1) s=gY k (s.pop.look n):=by
 show(match s.waiting.getLast? with | none=>s | some n=>gY k (s.pop.look n))=_
 rw[hw]
theorem MS.settleN_more{T:Nat}:∀(k:Nat) (s:MS),MOK T s->s.left<=k->gY k s=gY s.left s
 | 0,s,h,hl=>by rw[Nat.le_zero.mp hl]
 | k+1,s,h,hl=>by
  cases hw:s.waiting.getLast? with
  | none=>
   have e1:∀j,gY j s=s:=by
    intro j
    cases j with
    | zero=>rfl
    | succ j=>exact settleN_none hw
   rw[e1,e1]
  | some n=>
   have h3:=left_pop h hw
   obtain⟨h1,h2,h4,_⟩:=h.pop hw
   have nF:=h1.look h2 h4
   obtain⟨j,hj⟩:∃j,s.left=j+1:=⟨s.left - 1,by exact _5q h3⟩
   rw[hj,settleN_some hw,settleN_some hw]
   rw[settleN_more k _ nF (by exact _bO hl h3),settleN_more j _ nF (by exact _5r h3 hj)]
theorem MS.settle_end{s:MS}(hw:s.waiting=[]):s.settle=s:=by
 unfold settle
 cases s.left with
 | zero=>rfl
 | succ j=>exact settleN_none (by rw[hw];rfl)
theorem MS.settle_step{T:Nat}{s:MS}(h:MOK T s){n:Nat}(hw:s.waiting.getLast? = some n):s.settle=(s.pop.look n).settle:=by
 have h3:=left_pop h hw
 obtain⟨h1,h2,h4,_⟩:=h.pop hw
 have nF:=h1.look h2 h4
 unfold settle
 obtain⟨j,hj⟩:∃j,s.left=j+1:=⟨s.left - 1,by exact _5q h3⟩
 rw[hj,settleN_some hw]
 rw[settleN_more j _ nF (by exact _5r h3 hj)]
theorem MS.settle_ind{T:Nat}(P:MS->Prop)(hP:∀s n,MOK T s->P s->s.waiting.getLast? = some n->P (s.pop.look n)):∀(k:Nat) (s:MS),s.left<=k->MOK T s->P s->MOK T s.settle/\P s.settle/\s.settle.waiting=[]
 | k,s,hk,h,p=>by
  cases hw:s.waiting.getLast? with
  | none=>
   have e:s.waiting=[]:=p8.mp hw
   rw[settle_end e];exact⟨h,p,e⟩
  | some n=>
   have h3:=left_pop h hw
   obtain⟨h1,h2,h4,_⟩:=h.pop hw
   rw[settle_step h hw]
   match k,hk with
   | 0,hk=>exact(_bP h3 hk).elim
   | k+1,hk=>exact settle_ind P hP k _ (by exact _bQ h3 hk) (h1.look h2 h4) (hP s n h p hw)
theorem MOK.newNode{T:Nat}{s:MS}(h:MOK T s){n:cq}(h_:fS s.nodes n=none)(hk:∀k∈n.2,k<s.size)(h2:n.2.length<=2)(hs:s.size+1<=200):MOK T (s.newNode n)/\(s.newNode n).known.length+(s.newNode n).waiting.length+1<=(s.newNode n).size+2*(s.newNode n).size*(s.newNode n).log.length:=by
 have eX:(s.newNode n).size=s.size+1:=by simp[MS.newNode,MS.size]
 have hb:=h.bound
 have hbb:s.known.length+s.waiting.length+1<=(s.newNode n).size+2*(s.newNode n).size*s.log.length:=by
  rw[eX]
  have:2*s.size*s.log.length<=2*(s.size+1)*s.log.length:=lM (by exact _bR) (aD _)
  exact _bS hb this
 have cL:=h.len
 have rc:(s.newNode n).par=s.par++[s.par.length]:=rfl
 have wy:(s.newNode n).users.map (·.1)=s.users.map (·.1)++[s.size]:=by
  simp only[MS.newNode,bf]
  rw[show((λ(x:Nat×List Nat)=>x.1)∘λ(p:Nat×List Nat)=>if p.1∈n.2.map s.find then(p.1,p.2++[s.size]) else p)=λx=>x.1 by
   funext p;simp only[gX];split <;> rfl]
  simp
 refine⟨{down:=?_,lgr:=?_,len:=?_,two:=?_,kids:=?_,nd:=?_,small:=by exact _bT hs eX,told:=h.told,keys:=?_,sum:=?_,bound:=?_,edges:=h.edges,forest:=h.forest,knownlt:=?_,waitlt:=?_,userlt:=?_},hbb⟩
 ·exact _1z h.down
 ·have:=h.lgr
  rw[rc,_1B h.down]
  simp only[MS.newNode,am,aF];exact _5k this
 ·rw[eX,rc,am,aF,cL]
 ·intro m hm
  simp only[MS.newNode] at hm
  rcases aK.mp hm with hm | hm
  ·exact h.two m hm
  ·obtain rfl:=aj.mp hm;exact h2
 ·intro i hi k fP
  simp only[MS.newNode] at hi fP
  rw[iS] at fP
  split at fP
  ·exact h.kids i (by assumption) k fP
  ·simp only[qQ] at fP
   have:=hk k fP
   simp only[am,aF,MS.size] at *;(first | lia | omega)
 ·simp only[MS.newNode,cg]
  refine⟨h.nd,by simp,λa ha b' hb' e=>?_⟩
  obtain rfl:=aj.mp hb'
  exact _0u.mp h_ (e ▸ ha)
 ·rw[wy,rc,_1B h.down,cL]
  exact h.keys.append_right _
 ·have xu:=h.sum
  rw[eX]
  have gen:∀(l:List (Nat×List Nat)) (cs:List Nat),(l.map (·.1)).Nodup->eK (l.map λ(p:Nat×List Nat)=>if p.1∈cs then(p.1,p.2++[s.size]) else p)<=eK l+cs.length:=by
   intro l cs
   induction l generalizing cs with
   | nil=>intro _;simp[eK]
   | cons p l ih=>
    intro hJ
    rw[aJ,bC] at hJ
    by_cases e:p.1∈cs
    ·have h1:=ih (cs.erase p.1) hJ.2
     have h2:(l.map λ(q:Nat×List Nat)=>if q.1∈cs.erase p.1 then(q.1,q.2++[s.size]) else q)=l.map λ(q:Nat×List Nat)=>if q.1∈cs then(q.1,q.2++[s.size]) else q:=by
      refine bF λq hq=>?_
      have:q.1≠p.1:=λe=>hJ.1 (e ▸ aq.mpr ⟨q,hq,rfl⟩)
      simp only[lj this]
     rw[h2,dU e] at h1
     have h3:=eh e
     rw[aJ,if_pos e]
     simp only[eK,aJ,im,am,aF] at h1 ⊢
     exact _bU h1 h3
    ·have h1:=ih cs hJ.2
     rw[aJ,if_neg e]
     simp only[eK,aJ,im] at h1 ⊢
     exact _bV h1
  have hJ:((s.users++[(s.size,[])]).map (λ(p:Nat×List Nat)=>p.1)).Nodup:=by
   rw[aM,aJ,qP]
   refine(h.keys.append_right _).nodup_iff.mpr ?_
   have:(cf s.par++[s.size]).Nodup:=by
    rw[<-cL,<-_1B h.down]
    exact List.nodup_range.filter _
   exact this
  have g1:=gen (s.users++[(s.size,[])]) (n.2.map s.find) hJ
  have g2:eK (s.users++[(s.size,[])])=eK s.users:=by simp[eK]
  rw[ac] at g1
  show eK ((s.users++[(s.size,[])]).map _)<=_
  exact _bW h2 xu g1 g2
 ·exact ay (lO _) hbb
 ·intro p hp
  have:=h.knownlt p hp
  exact _39 eX this
 ·intro m hm
  have:=h.waitlt m hm
  exact _39 eX this
 ·intro p hp m hm
  simp only[MS.newNode] at hp
  obtain⟨q,hq,rfl⟩:=aq.mp hp
  rw[eX]
  have hold:∀m∈q.2,m<s.size+1:=by
   intro m hm
   rcases aK.mp hq with hq | hq
   ·have:=h.userlt q hq m hm;exact _18 this
   ·obtain rfl:=aj.mp hq;cases hm
  split at hm
  ·rcases aK.mp hm with hm | hm
   ·exact hold m hm
   ·obtain rfl:=aj.mp hm;exact _5d
  ·exact hold m hm
theorem MOK.add{T:Nat}{s:MS}(h:MOK T s){n:cq}(hk:∀k∈n.2,k<s.size)(h2:n.2.length<=2)(hs:s.size+1<=200):MOK T (s.add n):=by
 unfold MS.add
 split
 ·exact h
 ·rename_i h_
  obtain⟨h3,h4⟩:=h.newNode h_ hk h2 hs
  exact h3.look (by simp[MS.newNode,MS.size]) h4
structure HS where
 self:ao
 ns:ao
 le:ao
 lf:ao
 lk:ao
 la:ao
 lw:ao
 b:BS
 u:US
 edges:List (Nat×Nat×AV)
 forest:List Nat
 known:List (cq×Nat)
 users:List (Nat×ao×List Nat)
 waiting:List Nat
noncomputable def HS.ms(h:HS):MS:=⟨h.b.nodes,h.u.par,h.u.lots.map (·.2),h.u.log,h.edges,h.forest,h.known,h.users.map λp=>(p.1,p.2.2),h.waiting⟩
noncomputable def lB(e:Nat×Nat×AV):AV:=.tup [.int (e.1:Nat),.int (e.2.1:Nat),e.2.2]
noncomputable def gC(l:List (cq×Nat)):List (List AV×AV):=l.map λp=>(cr p.1,AV.int (p.2:Nat))
noncomputable def cz(l:List (Nat×ao×List Nat)):List (Int×AV):=l.map λp=>((p.1:Int),AV.ref p.2.1)
noncomputable def dQ(p:Nat×ao×List Nat):ao×cG:=(p.2.1,.list (b9 p.2.2))
noncomputable def HS.flds(h:HS):List (String×AV):=[("bank", .ref h.b.self),("unions", .ref h.u.self),("edges", .ref h.le),("forest", .ref h.lf),("known", .ref h.lk),("above", .ref h.la),("waiting", .ref h.lw)]
noncomputable def HS.own(N:Nms)(h:HS):aU:=
 [(h.self,.inst N.cH h.ns),(h.ns,.ns h.flds),
  (h.le,.list (h.edges.map lB)),(h.lf,.list (b9 h.forest)),(h.lk,.dictT (gC h.known)),(h.la,.dictI (cz h.users)),(h.lw,.list (b9 h.waiting))]
noncomputable def HS.cells(N:Nms)(h:HS):aU:=h.own N++(h.b.cells N++(h.u.cells N++h.users.map dQ))
structure HOK(T:Nat)(h:HS):Prop where
 b:BOK h.b
 u:UOK h.u
 m:MOK T h.ms
theorem HOK.fits{T:Nat}{h:HS}(H:HOK T h):bp (h.u.par.length+1)/\bp (h.b.nodes.length+1)/\h.u.par.length=h.b.nodes.length/\h.b.nodes.length<=200/\h.edges.length<=3000/\h.waiting.length<=90000/\h.known.length<=90000/\h.forest.length<=200/\h.u.log.length<=200:=by
 obtain⟨h1,h2,h3,h4⟩:=H.m.sizes
 have h5:=H.m.len
 have h6:=H.m.small
 have h7:=H.m.forest
 simp only[HS.ms,MS.size] at *
 unfold bp
 exact⟨(_bX h5 h6),⟨(_bY h6),⟨(_bZ h5),⟨(_c0 h6),⟨(_c1 h4),⟨(_c2 h2),⟨(_c3 h3),⟨(_c4 h1 h7),(_5p h1)⟩⟩⟩⟩⟩⟩⟩⟩
theorem HS.atU{N:Nms}{h:HS}{σ:af}(hA:At σ (h.cells N)):At σ (h.u.cells N):=
 hA.sub (jY (jY (gu _ _) (cZ _ _)) (cZ _ _))
theorem HS.atB{N:Nms}{h:HS}{σ:af}(hA:At σ (h.cells N)):At σ (h.b.cells N):=
 hA.sub (jY (gu _ _) (cZ _ _))
theorem HS.midU{N:Nms}{h:HS}{u':US}{σ aX:af}(hA:At σ (h.own N++(h.b.cells N++(h.u.cells N++h.users.map dQ))))(h':At aX (u'.cells N))(o:Out (h.u.cells N) (u'.cells N) σ aX):At aX (h.own N++(h.b.cells N++(u'.cells N++h.users.map dQ))):=by
 rw[<-aZ] at hA ⊢
 exact At.mid hA h' o
theorem HS.midB{N:Nms}{h:HS}{b':BS}{σ aX:af}(hA:At σ (h.own N++(h.b.cells N++(h.u.cells N++h.users.map dQ))))(h':At aX (b'.cells N))(o:Out (h.b.cells N) (b'.cells N) σ aX):At aX (h.own N++(b'.cells N++(h.u.cells N++h.users.map dQ))):=At.mid hA h' o
theorem HOK.fitsU{T:Nat}{h:HS}(H:HOK T h):bp h.u.par.length:=by have:=H.fits.1;unfold bp at *;exact _0c this
theorem HOK.fitsB{T:Nat}{h:HS}(H:HOK T h):bp h.b.nodes.length:=by have:=H.fits.2.1;unfold bp at *;exact _0c this
section
variable{c:Cx}{d:Nat}{σ:af}{Q:AV->af->Prop}{N:Nms}{T:Nat}
theorem _4k{h:HS}{n:Nat}(H:Has c N)(h1:2<=d)(hA:At σ (h.cells N))(hk:HOK T h)(hn:n<h.ms.size)(hq:Q (.int (h.ms.find n:Nat)) σ):br c d (.raw (.ref N.h_find)) [.ref h.self,.int n] σ Q:=by
 refine _g H.d_H_find (bN h1) rfl ?_
 (refine _5 ‹At _ _› 0 1 rfl rfl (by rfl) ((‹Has _ _›).a_H_unions) (by rfl) ?_;refine _9 ‹At _ _› 13 14 rfl rfl rfl ((‹Has _ _›).m_U_find) ((‹Has _ _›).d_U_find) ?_)
 exact _0S H (_b h1) (HS.atU hA) hk.u.down (by rw[hk.fits.2.2.1];exact hn) hk.fitsU hq
theorem _88{h:HS}(H:Has c N)(h1:2<=d)(hA:At σ (h.cells N))(hk:HOK T h)(hq:Q (.int (h.ms.size:Nat)) σ):br c d (.raw (.ref N.h_size)) [.ref h.self] σ Q:=by
 refine _g H.d_H_size (bN h1) rfl ?_
 (refine _5 ‹At _ _› 0 1 rfl rfl (by rfl) ((‹Has _ _›).a_H_bank) (by rfl) ?_;refine _9 ‹At _ _› 7 8 rfl rfl rfl ((‹Has _ _›).m_B_size) ((‹Has _ _›).d_B_size) ?_)
 exact _iG H (_b h1) (HS.atB hA) hk.fitsB hq
theorem _iP{h:HS}(H:Has c N)(h1:2<=d)(hA:At σ (h.cells N))(hk:HOK T h)(hq:∀m,σ m=none->Q (.ref m) (σ.set m (.list (b9 (cf h.ms.par))))):br c d (.raw (.ref N.h_classes)) [.ref h.self] σ Q:=by
 refine _g H.d_H_classes (bN h1) rfl ?_
 (refine _5 ‹At _ _› 0 1 rfl rfl (by rfl) ((‹Has _ _›).a_H_unions) (by rfl) ?_;refine _9 ‹At _ _› 13 14 rfl rfl rfl ((‹Has _ _›).m_U_classes) ((‹Has _ _›).d_U_classes) ?_)
 exact _iB H (_b h1) (HS.atU hA) hk.u.down hk.fitsU hq
theorem _89{h:HS}{n:Nat}(H:Has c N)(h1:3<=d)(hA:At σ (h.cells N))(hk:HOK T h)(hn:n<h.ms.size)(hq:Q (.tup (cr (h.ms.canon n))) σ):br c d (.raw (.ref N.h_node)) [.ref h.self,.int n] σ Q:=by
 refine _0T (l:=h.cells N) (P:=λv=>v = .tup (cr (h.ms.canon n))) (λσ hA=>?_) hA λv e=>e ▸ hq
 have qH:n<h.b.nodes.length:=hn
 have vT:=hk.m.two _ (bO qH)
 have G:=H.gs
 refine _g H.d_H_node (ay (by decide) h1) rfl ?_
 (refine _5 ‹At _ _› 0 1 rfl rfl (by rfl) ((‹Has _ _›).a_H_bank) (by rfl) ?_;refine _9 ‹At _ _› 7 8 rfl rfl rfl ((‹Has _ _›).m_B_op) ((‹Has _ _›).d_B_op) ?_)
 refine _85 H (_b (ay (by decide) h1)) (HS.atB hA) hk.fitsB qH ?_
 (refine And.intro (sl rfl) ?_;refine _4 (‹gt _›).g_tuple ?_;refine _5 ‹At _ _› 0 1 rfl rfl (by rfl) ((‹Has _ _›).a_H_bank) (by rfl) ?_;refine _9 ‹At _ _› 7 8 rfl rfl rfl ((‹Has _ _›).m_B_kids) ((‹Has _ _›).d_B_kids) ?_)
 refine _4h H (_b (ay (by decide) h1)) (HS.atB hA) hk.fitsB hk.b qH ?_
 refine _R ⟨_02 (by rw[_7];exact _3a vT),?_⟩
 refine _z (λi bV aX=>aX=σ/\bV=b9 (((h.b.nodes[n]).2.take i).map h.ms.find)) ⟨rfl,rfl⟩ (λ_ _ _ _=>trivial) ?_ ?_
 ·rintro i x bV aX k hx ⟨rfl,rfl⟩ fP
  obtain⟨kid,hkid,rfl⟩:=_0v hx
  have iU:=hk.b.kids n qH kid (aC hkid)
  (refine _9 ‹At _ _› 0 1 rfl rfl rfl ((‹Has _ _›).m_H_find) ((‹Has _ _›).d_H_find) ?_)
  refine _4k H (_b h1) hA hk (cN iU qH) ?_
  refine fP _ _ ⟨rfl,?_⟩
  rw[bJ,hkid,aM,<-_0s]
  rfl
 ·rintro bV aX ⟨rfl,rfl⟩ m hm
  rw[_7,bT]
  replace hA:=hA.new (c:=.list (b9 ((h.b.nodes[n]).2.map h.ms.find))) hm
  refine _2o (At.nth ‹At _ _› 0 rfl) (by rw[_7,ac];unfold bp;exact _3b vT) ?_
  refine _2n (by rw[_7,ac,aF];unfold bp;exact _3c vT) ?_
  refine⟨?_,hA.tail⟩
  have e1:h.ms.nodes.getD n default=h.b.nodes[n]:=by
   show h.b.nodes.getD n default=_
   simp[qH]
  unfold MS.canon
  rw[e1];rfl
end
theorem _iQ{V β:Type}{f:Nat×V->β}{l:List (Nat×V)}{g:Nat}{x:V}:bz l g=some x->(l.map f).Perm (f (g,x)::(gy l g).map f):=by
 induction l with
 | nil=>intro h;cases h
 | cons p l ih=>
  obtain⟨k,v⟩:=p
  intro h
  rw[_e] at h
  rw[_I]
  by_cases e:k=g
  ·rw[if_pos e] at h ⊢
   cases h;subst e;exact .refl _
  ·rw[if_neg e] at h ⊢
   exact((ih h).cons _).trans (.swap _ _ _)
theorem _iR{V β:Type}{f:Nat×V->β}{l:List (Nat×V)}{k:Nat}{x y:V}:bz l k=some x->(f (k,y)::l.map f).Perm (f (k,x)::(d9 l k y).map f):=by
 induction l with
 | nil=>intro h;cases h
 | cons p l ih=>
  obtain⟨j,v⟩:=p
  intro h
  rw[_e] at h
  rw[_y]
  by_cases e:j=k
  ·rw[if_pos e] at h ⊢
   cases h;subst e;exact .swap _ _ _
  ·rw[if_neg e] at h ⊢
   exact(List.Perm.swap _ _ _).trans (((ih h).cons _).trans (.swap _ _ _))
theorem At.last{σ:af}{x:ao×cG}{P B U um xo rest:aU}(h:At σ (x::(P++(B++(U++um)))))(p:(x::um).Perm (rest++xo)):At σ (P++(B++(U++xo))):=by
 have e1:(P++(B++(U++(x::um)))).Perm (x::(P++(B++(U++um)))):=by
  rw[<-aZ,<-aZ,<-aZ,<-aZ]
  exact cW
 have h1:=h.perm e1
 have h2:At σ (P++(B++(U++(rest++xo)))):=h1.perm ((p.symm.append_left U).append_left B |>.append_left P)
 refine h2.sub ?_
 exact iG (iG (iG (cZ _ _) _) _) _
theorem _2E(l:List (Nat×ao×List Nat))(k:Nat):bz (cz l) (k:Int)=(bz l k).map λp=>AV.ref p.1:=by
 unfold cz
 exact _0O (f:=λk:Nat=>(k:Int)) (g:=λp:ao×List Nat=>AV.ref p.1) (λa b h=>by exact _3d h) l k
theorem _iS(l:List (Nat×ao×List Nat))(k:Nat):gy (cz l) (k:Int)=cz (gy l k):=by
 unfold cz
 exact _3Q (f:=λk:Nat=>(k:Int)) (g:=λp:ao×List Nat=>AV.ref p.1) (λa b h=>by exact _3d h) l k
theorem _8a(l:List (Nat×ao×List Nat))(k:Nat)(y:ao×List Nat):d9 (cz l) (k:Int) (.ref y.1)=cz (d9 l k y):=by
 unfold cz
 exact _3P (f:=λk:Nat=>(k:Int)) (g:=λp:ao×List Nat=>AV.ref p.1) (λa b h=>by exact _3d h) l k y
theorem _4l(l:List (Nat×ao×List Nat))(k:Nat):bz (l.map λp=>(p.1,p.2.2)) k=(bz l k).map (·.2):=
 _0O (f:=λk:Nat=>k) (g:=λp:ao×List Nat=>p.2) (λa b h=>h) l k
theorem _iT(l:List (Nat×ao×List Nat))(k:Nat):gy (l.map λp=>(p.1,p.2.2)) k=(gy l k).map λp=>(p.1,p.2.2):=
 _3Q (f:=λk:Nat=>k) (g:=λp:ao×List Nat=>p.2) (λa b h=>h) l k
theorem _iU(l:List (Nat×ao×List Nat))(k:Nat)(y:ao×List Nat):d9 (l.map λp=>(p.1,p.2.2)) k y.2=(d9 l k y).map λp=>(p.1,p.2.2):=
 _3P (f:=λk:Nat=>k) (g:=λp:ao×List Nat=>p.2) (λa b h=>h) l k y
theorem _4m{l:List (Nat×ao×List Nat)}{k:Nat}{x:ao×List Nat}(h:bz l k=some x):(x.1,cG.list (b9 x.2))∈l.map dQ:=
 aq.mpr ⟨(k,x),_S h,rfl⟩
theorem _4n(l:List (Nat×ao×List Nat)):(cz l).length=l.length:=by simp[cz]
theorem _iV{V:Type}{l:List (Nat×V)}{g:Nat}:(gy l g).length<=l.length:=by
 induction l with
 | nil=>exact aD _
 | cons p l ih=>
  obtain⟨k,v⟩:=p
  rw[_I]
  split
  ·simp
  ·simp;exact ih
noncomputable def HS.joinK(h:HS)(a b:Nat)(r:AV)(k g:Nat)(m:ao)(uk ug:List Nat):HS:=
 {h with edges:=h.edges++[(a,b,r)],forest:=h.forest++[h.edges.length],u:=h.u.joined k g,waiting:=h.waiting++ug,users:=d9 (gy h.users g) k (m,uk++ug)}
theorem HS.joinK_ms{h:HS}{a b:Nat}{r:AV}{k g:Nat}{m ak ag:ao}{uk ug:List Nat}(hk:bz h.users k=some (ak,uk))(hg:bz h.users g=some (ag,ug)):(h.joinK a b r k g m uk ug).ms=h.ms.joinK a b r k g:=by
 have e1:h.ms.usersOf k=uk:=by
  unfold MS.usersOf
  show(bz (h.users.map λp=>(p.1,p.2.2)) k).getD []=uk
  rw[_4l,hk];rfl
 have e2:h.ms.usersOf g=ug:=by
  unfold MS.usersOf
  show(bz (h.users.map λp=>(p.1,p.2.2)) g).getD []=ug
  rw[_4l,hg];rfl
 have e3:∀i,(h.u.lots.map (·.2)).getD i []=(h.u.lots.getD i default).2:=by
  intro i
  rw[bc,bc,aQ]
  cases h.u.lots[i]? <;> rfl
 unfold HS.joinK MS.joinK
 rw[e1,e2]
 unfold HS.ms US.joined
 simp only[List.map_set,e3]
 rw[_iT,<-_iU]
noncomputable def HS.alt(h:HS)(u:US)(es:List (Nat×Nat×AV))(fo wa:List Nat):HS:=⟨h.self,h.ns,h.le,h.lf,h.lk,h.la,h.lw,h.b,u,es,fo,h.known,h.users,wa⟩
section
variable{c:Cx}{d:Nat}{σ:af}{Q:AV->af->Prop}{N:Nms}{T:Nat}
noncomputable def qt(N:Nms)(h:HS)(s:MS)(r:AV)(v:AV)(l':aU):Prop:=v=r/\∃h':HS,h'.self=h.self/\h'.ms=s/\BOK h'.b/\UOK h'.u/\l'=h'.cells N
theorem HS.user{h:HS}{k:Nat}{x:ao×List Nat}(hA:At σ (h.cells N))(e:bz h.users k=some x):σ x.1=some (.list (b9 x.2)):=
 hA.get (aT _ (aT _ (aT _ (_4m e))))
theorem HOK.usersLen{h:HS}(hk:HOK T h):h.users.length<=200:=by
 have h5:=hk.m.keys.length_eq
 have h6:=hk.m.lgr
 have h7:=hk.m.len
 obtain⟨f1,f2,f3,f4,f5,f6,f7,f8,f9⟩:=hk.fits
 have eX:h.ms.size=h.b.nodes.length:=rfl
 rw[ac,show h.ms.users=h.users.map λp=>(p.1,p.2.2) from rfl,ac] at h5
 exact _c5 h5 h6 h7 f4 eX
set_option maxHeartbeats 4000000 in
theorem _8b{h:HS}{a b:Nat}{r:AV}(H:Has c N)(h1:3<=d)(hk:HOK T h)(ha:a<h.ms.size)(hb:b<h.ms.size):
  mI c d .call [.raw (.ref N.h_join),.ref h.self,.int (a:Int),.int (b:Int),r] (h.cells N) (qt N h (h.ms.join a b r) (.bool (decide (h.ms.find a≠h.ms.find b)))):=by
 refine _J λσ R _i hA=>?_
 have G:=H.gs
 obtain⟨f1,f2,f3,f4,f5,f6,f7,f8,f9⟩:=hk.fits
 have hau:a<h.u.par.length:=by rw[f3];exact ha
 have uK:b<h.u.par.length:=by rw[f3];exact hb
 refine _g H.d_H_join (ay (by decide) h1) rfl ?_
 (refine _5 ‹At _ _› 0 1 rfl rfl (by rfl) ((‹Has _ _›).a_H_edges) (by rfl) ?_;refine _v (At.nth ‹At _ _› 2 rfl) ?_;refine _l ?_;refine And.intro (sl rfl) ?_)
 refine _F (At.nth ‹At _ _› 2 rfl) (by rw[ac];unfold bp;exact _c6 f5) ?_
 rw[show h.edges.map lB++[AV.tup [AV.int (a:Int),AV.int (b:Int),r]]=(h.edges++[(a,b,r)]).map lB by simp[lB]]
 replace hA:At _ (HS.cells N (h.alt h.u (h.edges++[(a,b,r)]) h.forest h.waiting)):=hA.put 2 rfl (.list ((h.edges++[(a,b,r)]).map lB))
 generalize σ.set h.le _=σ1 at hA ⊢
 (refine _5 ‹At _ _› 0 1 rfl rfl (by rfl) ((‹Has _ _›).a_H_unions) (by rfl) ?_;refine _9 ‹At _ _› 13 14 rfl rfl rfl ((‹Has _ _›).m_U_merge) ((‹Has _ _›).d_U_merge) ?_)
 refine _iy (u:=h.u) H (_b h1) hk.fitsU hk.u hau uK σ1 (@HS.atU N (h.alt h.u (h.edges++[(a,b,r)]) h.forest h.waiting) _ hA) _ λv l' σ2 hp hU o=>?_
 unfold n7 at hp
 by_cases hr:bD h.u.par a=bD h.u.par b
 ·rw[if_pos hr] at hp
  obtain⟨rfl,rfl⟩:=hp
  replace hA:=@HS.midU N (h.alt h.u (h.edges++[(a,b,r)]) h.forest h.waiting) _ _ _ hA hU o
  clear hU o
  refine _6U rfl ?_
  refine _i (l:=HS.cells N (h.alt h.u (h.edges++[(a,b,r)]) h.forest h.waiting)) hA ⟨?_,(h.alt h.u (h.edges++[(a,b,r)]) h.forest h.waiting),rfl,?_,hk.b,hk.u,rfl⟩
  ·rw[decide_eq_false (λq=>q hr)]
  ·unfold MS.join
   rw[if_pos (show h.ms.find a=h.ms.find b from hr)];rfl
 ·rw[if_neg hr] at hp
  have pr:=_0W hk.u.down hau uK hr
  have hjj:h.ms.join a b r=h.ms.joinK a b r (min (bD h.u.par a) (bD h.u.par b)) (max (bD h.u.par a) (bD h.u.par b)):=by
   unfold MS.join
   rw[if_neg (show ¬h.ms.find a=h.ms.find b from hr)];rfl
  rw[hjj,show decide (h.ms.find a≠h.ms.find b)=true from decide_eq_true hr] at _i
  clear hjj
  generalize min (bD h.u.par a) (bD h.u.par b)=k at *
  generalize max (bD h.u.par a) (bD h.u.par b)=g at *
  obtain⟨rfl,rfl⟩:=hp
  obtain⟨lk,ek0,uk,nk,_⟩:=hk.m.user pr.kmem
  obtain⟨lg,eg0,ug,ng,_⟩:=hk.m.user pr.gmem
  rw[show h.ms.users=h.users.map λp=>(p.1,p.2.2) from rfl,_4l] at ek0 eg0
  obtain⟨⟨ak,uk'⟩,ek,hlk⟩:=bt.mp ek0
  obtain⟨⟨ag,ug'⟩,eg,hlg⟩:=bt.mp eg0
  obtain rfl:uk'=lk:=hlk
  obtain rfl:ug'=lg:=hlg
  have eX:h.ms.size=h.b.nodes.length:=rfl
  have w7:=hk.usersLen
  replace hA:At σ2 (HS.cells N (h.alt (h.u.joined k g) (h.edges++[(a,b,r)]) h.forest h.waiting)):=@HS.midU N (h.alt h.u (h.edges++[(a,b,r)]) h.forest h.waiting) _ _ _ hA hU o
  clear hU o
  refine _6U rfl ?_
  refine _x rfl ?_
  (refine _5 ‹At _ _› 0 1 rfl rfl (by rfl) ((‹Has _ _›).a_H_forest) (by rfl) ?_;refine _v (At.nth ‹At _ _› 3 rfl) ?_;refine _l ?_;refine _4 (‹gt _›).g_len ?_;refine _5 ‹At _ _› 0 1 rfl rfl (by rfl) ((‹Has _ _›).a_H_edges) (by rfl) ?_)
  refine _w (xs:=(h.edges++[(a,b,r)]).map lB) (At.nth ‹At _ _› 2 rfl) (by rw[ac,am];unfold bp;simp;exact _c7 f5) ?_
  refine _2f ?_
  rw[show(((h.edges++[(a,b,r)]).map lB).length:Int)-1=((h.edges.length:Nat):Int) by simp]
  refine _2z (xs:=h.forest) (At.nth ‹At _ _› 3 rfl) (by show h.forest.length<=100000;exact _3e f8) ?_
  refine _u hA 3 rfl λσ3 hA=>?_
  replace hA:At σ3 (HS.cells N (h.alt (h.u.joined k g) (h.edges++[(a,b,r)]) (h.forest++[h.edges.length]) h.waiting)):=hA
  (refine _5 ‹At _ _› 0 1 rfl rfl (by rfl) ((‹Has _ _›).a_H_waiting) (by rfl) ?_;refine _6V (At.nth ‹At _ _› 6 rfl) ?_;refine _l ?_;refine _5 ‹At _ _› 0 1 rfl rfl (by rfl) ((‹Has _ _›).a_H_above) (by rfl) ?_)
  refine _1p (es:=cz h.users) (At.nth ‹At _ _› 5 rfl) (by rw[_2E,eg];rfl) ?_
  refine _7V (xs:=h.waiting) (At.nth ‹At _ _› 6 rfl) (HS.user (h:=h.alt _ _ _ _) hA eg) (by show h.waiting.length+ug'.length<=100000;exact _c8 f4 f6 ng eX) ?_
  refine _u hA 6 rfl λσ4 hA=>?_
  replace hA:At σ4 (HS.cells N (h.alt (h.u.joined k g) (h.edges++[(a,b,r)]) (h.forest++[h.edges.length]) (h.waiting++ug'))):=hA
  refine _5 ‹At _ _› 0 1 rfl rfl (by rfl) ((‹Has _ _›).a_H_above) (by rfl) ?_
  refine _1p (es:=cz h.users) (At.nth ‹At _ _› 5 rfl) (by rw[_2E,ek];rfl) ?_
  refine _5 ‹At _ _› 0 1 rfl rfl (by rfl) ((‹Has _ _›).a_H_above) (by rfl) ?_
  refine _hl (At.nth ‹At _ _› 5 rfl) ?_
  refine _l ?_
  refine _hm (es:=cz h.users) (At.nth ‹At _ _› 5 rfl) (by rw[_4n];show h.users.length<=100000;exact _3e w7) (by rw[_2E,eg];rfl) ?_
  rw[_iS]
  have iU:=hA.put 5 rfl (.dictI (cz (gy h.users g)))
  have oY:=iU.get (.tail _ (.tail _ (.tail _ (.tail _ (.tail _ (.tail _ (.tail _ (aT [] (aT _ (aT _ (_4m ek)))))))))))
  have hg2:=iU.get (.tail _ (.tail _ (.tail _ (.tail _ (.tail _ (.tail _ (.tail _ (aT [] (aT _ (aT _ (_4m eg)))))))))))
  refine _1j oY hg2 (by rw[_7,_7];show uk'.length+ug'.length<=100000;exact _c9 f4 nk ng eX) λm hm=>?_
  rw[<-_7S]
  replace hA:=iU.new (c:=.list (b9 (uk'++ug'))) hm
  refine _5 ‹At _ _› 1 2 rfl rfl (by rfl) ((‹Has _ _›).a_H_above) (by rfl) ?_
  have xO:=_iV (l:=h.users) (g:=g)
  refine _2q (es:=cz (gy h.users g)) (At.nth ‹At _ _› 6 rfl) (by rw[_4n];unfold bp;exact _ca w7 xO) ?_
  have hkd:bz (gy h.users g) k=some (ak,uk'):=by rw[_4j (by have:=pr.lt;exact _21 this)];exact ek
  rw[show d9 (cz (gy h.users g)) (k:Int) (AV.ref m)=cz (d9 (gy h.users g) k (m,uk'++ug')) from _8a _ k (m,uk'++ug')]
  replace hA:=hA.put 6 rfl (.dictI (cz (d9 (gy h.users g) k (m,uk'++ug'))))
  have pp:((m,cG.list (b9 (uk'++ug')))::h.users.map dQ).Perm ([dQ (k,ak,uk'),dQ (g,ag,ug')]++(d9 (gy h.users g) k (m,uk'++ug')).map dQ):=by
   have p1:=_iQ (f:=dQ) eg
   have p2:=_iR (f:=dQ) (y:=(m,uk'++ug')) hkd
   exact(p1.cons _).trans ((List.Perm.swap _ _ _).trans (((p2.cons _)).trans (.swap _ _ _)))
  refine _i (l:=(h.joinK a b r k g m uk' ug').cells N) (At.last (P:=(h.joinK a b r k g m uk' ug').own N) (B:=h.b.cells N) (U:=(h.u.joined k g).cells N) hA pp) ⟨rfl,h.joinK a b r k g m uk' ug',rfl,HS.joinK_ms ek eg,hk.b,UOK.joined hk.u pr.gl pr.lt pr.rg pr.rk,rfl⟩
end
theorem _4o[DecidableEq (List AV)](l:List (cq×Nat))(n:cq):bz (gC l) (cr n)=(bz l n).map λi=>AV.int (i:Nat):=by
 unfold gC
 exact _0O (f:=cr) (g:=λi:Nat=>AV.int (i:Nat)) _2D _ _
theorem _iW[DecidableEq (List AV)]{l:List (cq×Nat)}{n:cq}{i:Nat}(h:bz l n=none):d9 (gC l) (cr n) (.int (i:Nat))=gC (l++[(n,i)]):=by
 rw[_0M (by rw[_4o,h];rfl)]
 simp[gC]
theorem _iX(l:List (cq×Nat)):(gC l).length=l.length:=by simp[gC]
section
variable{c:Cx}{d:Nat}{σ:af}{Q:AV->af->Prop}{N:Nms}{T:Nat}
open Classical in
set_option maxHeartbeats 4000000 in
theorem _8c{h:HS}{n:Nat}(H:Has c N)(h1:4<=d)(hk:HOK T h)(hn:n<h.ms.size):
  mI c d .call [.raw (.ref N.h_look_at),.ref h.self,.int (n:Int)] (h.cells N) (qt N h (h.ms.look n) .none):=by
 refine _J λσ R _i hA=>?_
 have G:=H.gs
 have f7:h.known.length<=90000:=hk.fits.2.2.2.2.2.2.1
 refine _g H.d_H_look_at (ay (by decide) h1) rfl ?_
 refine _5 ‹At _ _› 0 1 rfl rfl (by rfl) ((‹Has _ _›).a_H_known) (by rfl) ?_
 refine _hs (At.nth ‹At _ _› 4 rfl) ?_
 (refine _l ?_;refine _9 ‹At _ _› 0 1 rfl rfl rfl ((‹Has _ _›).m_H_node) ((‹Has _ _›).d_H_node) ?_)
 refine _89 H (_b h1) hA hk hn ?_
 refine _hy (k:=cr (h.ms.canon n)) (At.nth ‹At _ _› 4 rfl) (_0V _) (by rw[_iX];unfold bp;exact _3f f7) ?_ ?_
 ·intro y hy
  rw[_4o] at hy
  obtain⟨o,ho,rfl⟩:=bt.mp hy
  have sn:=hk.m.knownlt _ (_S ho)
  have pw:h.ms.look n=if h.ms.find o=h.ms.find n then h.ms else h.ms.join o n MS.like:=by
   unfold MS.look
   rw[show bz h.ms.known (h.ms.canon n)=some o from ho]
  (refine _9 ‹At _ _› 0 1 rfl rfl rfl ((‹Has _ _›).m_H_find) ((‹Has _ _›).d_H_find) ?_)
  refine _4k H (_b (ay (by decide) h1)) hA hk sn ?_
  (refine _9 ‹At _ _› 0 1 rfl rfl rfl ((‹Has _ _›).m_H_find) ((‹Has _ _›).d_H_find) ?_)
  refine _4k H (_b (ay (by decide) h1)) hA hk hn ?_
  refine _1g ?_
  refine _G (λe=>?_) (λe=>?_)
  ·rw[if_neg (λq=>e (congrArg Int.ofNat q))] at pw
   (refine _9 ‹At _ _› 0 1 rfl rfl rfl ((‹Has _ _›).m_H_join) ((‹Has _ _›).d_H_join) ?_;refine And.intro (sl rfl) ?_)
   refine _8b (r:=MS.like) H (_b h1) hk sn hn σ hA _ λv l' aX hp pU o'=>?_
   obtain⟨_,h',e1,e2,e3,e4,rfl⟩:=hp
   exact _i pU ⟨rfl,h',e1,e2.trans pw.symm,e3,e4,rfl⟩
  ·rw[if_pos (d8 (gz.mp e))] at pw
   exact _i hA ⟨rfl,h,rfl,pw.symm,hk.b,hk.u,rfl⟩
 ·intro hy
  rw[_4o] at hy
  have ho:bz h.known (h.ms.canon n)=none:=jO.mp hy
  rw[_iW ho]
  replace hA:At _ (HS.cells N {h with known:=h.known++[(h.ms.canon n,n)]}):=hA.put 4 rfl (.dictT (gC (h.known++[(h.ms.canon n,n)])))
  generalize σ.set h.lk _=σ1 at hA ⊢
  have pw:h.ms.look n = {h.ms with known:=h.ms.known++[(h.ms.canon n,n)]}:=by
   unfold MS.look
   rw[show bz h.ms.known (h.ms.canon n)=none from ho]
  have hf:∀{Q:AV->af->Prop},Q (.int (h.ms.find n:Nat)) σ1->br c (dn d) (.raw (.ref N.h_find)) [.ref h.self,.int n] σ1 Q:=by
   intro Q hq
   refine _g H.d_H_find (_b (ay (by decide) h1)) rfl ?_
   (refine _5 ‹At _ _› 0 1 rfl rfl (by rfl) ((‹Has _ _›).a_H_unions) (by rfl) ?_;refine _9 ‹At _ _› 13 14 rfl rfl rfl ((‹Has _ _›).m_U_find) ((‹Has _ _›).d_U_find) ?_)
   exact _0S H (_b (_b (ay (by decide) h1))) (@HS.atU N {h with known:=h.known++[(h.ms.canon n,n)]} _ hA) hk.u.down (show n<h.u.par.length by rw[hk.fits.2.2.1];exact hn) hk.fitsU hq
  (refine _9 ‹At _ _› 0 1 rfl rfl rfl ((‹Has _ _›).m_H_find) ((‹Has _ _›).d_H_find) ?_)
  refine hf ?_
  (refine _9 ‹At _ _› 0 1 rfl rfl rfl ((‹Has _ _›).m_H_find) ((‹Has _ _›).d_H_find) ?_)
  refine hf ?_
  refine _1g ?_
  refine _G (λe=>absurd rfl e) (λe=>?_)
  exact _i hA ⟨rfl,{h with known:=h.known++[(h.ms.canon n,n)]},rfl,pw.symm,hk.b,hk.u,rfl⟩
theorem _iY{h:HS}{a b:Nat}{r:AV}(H:Has c N)(h1:4<=d)(hk:HOK T h)(ha:a<h.ms.size)(hb:b<h.ms.size):
  mI c d .call [.raw (.ref N.h_merge),.ref h.self,.int (a:Int),.int (b:Int),r] (h.cells N) (qt N h (h.ms.join a b r) (.bool (decide (h.ms.find a≠h.ms.find b)))):=by
 refine _J λσ R _i hA=>?_
 refine _g H.d_H_merge (ay (by decide) h1) rfl ?_
 (refine _9 ‹At _ _› 0 1 rfl rfl rfl ((‹Has _ _›).m_H_join) ((‹Has _ _›).d_H_join) ?_)
 exact _8b (r:=r) H (_b h1) hk ha hb σ hA _ λv l' aX hp pU o'=>_i pU hp
set_option maxHeartbeats 4000000 in
theorem _iZ{h:HS}(H:Has c N)(S:tf c N)(h1:5<=d)(hk:HOK T h):
  mI c d .call [.raw (.ref N.h_settle),.ref h.self] (h.cells N) (qt N h h.ms.settle .none):=by
 refine _J λσ R _i hA=>?_
 have G:=H.gs
 refine _g S.d_H_settle (ay (by decide) h1) rfl ?_
 refine _7K (λn m aX=>∃h':HS,h'.self=h.self/\HOK T h'/\At aX (h'.cells N)/\h'.ms.settle=h.ms.settle/\n=h'.ms.left/\m=[("self", .ref h.self)]) _ ⟨h,rfl,hk,hA,rfl,rfl,rfl⟩ ?_
 clear hA
 rintro n m aX ⟨h',e1,fP,hA,e2,rfl,rfl⟩
 rw[<-e1]
 have f6:h'.waiting.length<=90000:=fP.fits.2.2.2.2.2.1
 (refine _4 (‹gt _›).g_len ?_;refine _5 ‹At _ _› 0 1 rfl rfl (by rfl) ((‹Has _ _›).a_H_waiting) (by rfl) ?_;refine _0h (At.nth ‹At _ _› 6 rfl) (by((try unfold bp at *);(try simp only[am,aP,bL,ac,_7,bw] at *);exact _3f f6)) ?_;refine _6T ?_)
 refine _G (λq=>?_) (λq=>?_)
 ·cases hw:h'.ms.waiting.getLast? with
  | none=>
   have e:h'.waiting=[]:=p8.mp hw
   rw[e] at q;exact absurd q (by decide)
  | some x=>
   obtain⟨g1,g2,g3,g4⟩:=fP.m.pop hw
   have vV:h'.waiting=h'.waiting.dropLast++[x]:=g4
   (refine _9 ‹At _ _› 0 1 rfl rfl rfl ((‹Has _ _›).m_H_look_at) ((‹Has _ _›).d_H_look_at) ?_;refine _5 ‹At _ _› 0 1 rfl rfl (by rfl) ((‹Has _ _›).a_H_waiting) (by rfl) ?_;refine _2j (At.nth ‹At _ _› 6 rfl) ?_;refine _l ?_)
   refine _3J (xs:=b9 h'.waiting.dropLast) (x:=.int (x:Nat)) (by rw[<-_0s,<-vV];exact(At.nth ‹At _ _› 6 rfl)) (by rw[_7,List.length_dropLast];unfold bp;exact _cb f6) ?_
   replace hA:At _ (HS.cells N {h' with waiting:=h'.waiting.dropLast}):=hA.put 6 rfl (.list (b9 h'.waiting.dropLast))
   generalize aX.set h'.lw _=σ1 at hA ⊢
   refine _8c (h:={h' with waiting:=h'.waiting.dropLast}) H (_b h1) ⟨fP.b,fP.u,g1⟩ g2 σ1 hA _ λv l' σ2 hp hA2 o=>?_
   obtain⟨_,h2,k1,k2,k3,k4,rfl⟩:=hp
   have xr:h2.ms=h'.ms.pop.look x:=k2
   refine⟨h2.ms.left,by rw[xr];exact MS.left_pop fP.m hw,h2,k1,⟨k3,k4,by rw[xr];exact g1.look g2 g3⟩,hA2,?_,rfl,rfl⟩
   ·rw[xr,<-MS.settle_step fP.m hw];exact e2
 ·have e:h'.waiting=[]:=List.eq_nil_of_length_eq_zero (by exact _cc f6 q)
  rw[MS.settle_end e] at e2
  exact _i hA ⟨rfl,h',e1,e2,fP.b,fP.u,rfl⟩
end
noncomputable def dR(cs:List Nat)(n:Nat)(l:List (Nat×ao×List Nat)):List (Nat×ao×List Nat):=l.map λ(p:Nat×ao×List Nat)=>if p.1∈cs then(p.1,p.2.1,p.2.2++[n]) else p
theorem _8d{n k:Nat}:∀{l:List (Nat×ao×List Nat)} {x:ao×List Nat},(l.map (·.1)).Nodup->bz l k=some x->Upd x.1 (.list (b9 (x.2++[n]))) (l.map dQ) ((dR [k] n l).map dQ)
 | [],_,_,h=>by cases h
 | (j,v)::l,x,hn,h=>by
  simp only[aJ,bC] at hn
  rw[_e] at h
  unfold dR
  by_cases e:j=k
  ·rw[if_pos e] at h
   cases h;subst e
   simp only[aJ,aj,if_true]
   have e2:(l.map λ(p:Nat×ao×List Nat)=>if p.1=j then(p.1,p.2.1,p.2.2++[n]) else p)=l:=by
    refine(bF λp hp=>?_).trans (lp _)
    rw[if_neg (λe:p.1=j=>hn.1 (aq.mpr ⟨p,hp,e⟩))];rfl
   rw[e2]
   exact .head
  ·rw[if_neg e] at h
   simp only[aJ,aj,if_neg e]
   have:=_8d (n:=n) hn.2 h
   unfold dR at this
   simp only[aj] at this
   exact .tail this
theorem _j0(cs:List Nat)(k n:Nat)(hk:k ∉ cs)(l:List (Nat×ao×List Nat)):dR [k] n (dR cs n l)=dR (cs++[k]) n l:=by
 unfold dR
 rw[bf]
 refine bF λp hp=>?_
 simp only[gX,aj,aK]
 by_cases h1:p.1∈cs
 ·have:p.1≠k:=λe=>hk (e ▸ h1)
  simp[h1,this]
 ·by_cases h2:p.1=k
  ·simp[h1,h2,hk]
  ·simp[h1,h2]
theorem _8e(cs:List Nat)(n:Nat)(l:List (Nat×ao×List Nat)):(dR cs n l).map (·.1)=l.map (·.1):=by
 unfold dR
 rw[bf]
 refine bF λp hp=>?_
 simp only[gX]
 split <;> rfl
theorem _8f(cs:List Nat)(n:Nat)(l:List (Nat×ao×List Nat)):cz (dR cs n l)=cz l:=by
 unfold dR cz
 rw[bf]
 refine bF λp hp=>?_
 simp only[gX]
 split <;> rfl
theorem _j1(n:Nat)(l:List (Nat×ao×List Nat)):dR [] n l=l:=by
 unfold dR
 exact(bF λp hp=>by simp).trans (lp _)
theorem _j2{l:List Nat}{ms cs:List Int}(w':ms.Nodup)(qI:∀x,x∈ms ↔ x∈l.map λ(n:Nat)=>(n:Int))(qL:cs.Perm ms):∃cn:List Nat,cs=(cn.map λ(n:Nat)=>(n:Int))/\(∀k,k∈cn ↔ k∈l)/\cn.Nodup:=by
 have rA:∀x,x∈cs ↔ x∈l.map λ(n:Nat)=>(n:Int):=λx=>by rw[qL.mem_iff,qI]
 refine⟨cs.map lU,?_,λk=>?_,bo.mpr ((qL.nodup_iff.mpr w').imp_of_mem λ{a b} ha hb q e=>?_)⟩
 ·rw[bf]
  refine(lp _).symm.trans (bF λx hx=>?_)
  obtain⟨y,_,rfl⟩:=aq.mp ((rA x).mp hx)
  rfl
 ·rw[aq]
  constructor
  ·rintro⟨x,hx,rfl⟩
   obtain⟨y,hy,rfl⟩:=aq.mp ((rA x).mp hx)
   exact hy
  ·exact λhk=>⟨_,(rA _).mpr (aq.mpr ⟨k,hk,rfl⟩),rfl⟩
 ·obtain⟨x,_,rfl⟩:=aq.mp ((rA a).mp ha)
  obtain⟨y,_,rfl⟩:=aq.mp ((rA b).mp hb)
  exact q (congrArg Int.ofNat e)
theorem _j3{l:List Nat}{i x:Nat}(h:l.Nodup)(e:l[i]? = some x):x ∉ l.take i:=λiA=>by
 obtain⟨j,hj,q⟩:=lh.mp iA
 rw[cX] at hj
 rw[tS] at q
 obtain⟨hi,e2⟩:=az.mp e
 exact(bZ.mp h j i (by(first | lia | omega)) hi (by(first | lia | omega))) (q.trans e2.symm)
noncomputable def HS.grow(h:HS)(b:BS)(u:US)(us:List (Nat×ao×List Nat)):HS:=⟨h.self,h.ns,h.le,h.lf,h.lk,h.la,h.lw,b,u,h.edges,h.forest,h.known,us,h.waiting⟩
noncomputable def HS.more(h:HS)(m:ao):List (Nat×ao×List Nat):=h.users++[(h.b.nodes.length,m,[])]
theorem _8g(h:HS):h.ms.users.map (·.1)=h.users.map (·.1):=by
 show(h.users.map λp=>(p.1,p.2.2)).map (·.1)=_
 rw[bf];rfl
theorem HOK.newUser{h:HS}{T:Nat}(hk:HOK T h):bz h.users h.b.nodes.length=none:=_0L.mpr λiA=>by
 rw[<-_8g] at iA
 have h6:=aN.mp (bH.mp (hk.m.keys.mem_iff.mp iA)).1
 have h7:=hk.m.len
 have eX:h.ms.size=h.b.nodes.length:=rfl
 exact(_cd h6 h7 eX).elim
theorem _8h(h:HS)(m:ao):(h.more m).map (·.1)=h.users.map (·.1)++[h.b.nodes.length]:=by
 unfold HS.more
 rw[aM];rfl
theorem HOK.userPerm{h:HS}{T:Nat}(hk:HOK T h):(h.users.map (·.1)).Perm (cf h.u.par):=_8g h ▸ hk.m.keys
theorem HOK.moreNodup{h:HS}{T:Nat}{m:ao}(hk:HOK T h):((h.more m).map (·.1)).Nodup:=by
 rw[_8h]
 refine(hk.userPerm.append_right _).nodup_iff.mpr ?_
 have:(cf h.u.par++[h.u.par.length]).Nodup:=by
  rw[<-_1B hk.u.down]
  exact List.nodup_range.filter _
 rw[<-hk.fits.2.2.1];exact this
theorem _8i{p:Nat×ao×List Nat}:∀{l:List (Nat×ao×List Nat)},p∈l->p.2.2.length<=eK (l.map λp=>(p.1,p.2.2))
 | q::l,hm=>by
  simp only[eK,aJ,im]
  rcases aO.mp hm with rfl | hm
  ·exact ii _ _
  ·exact ay (_8i hm) (fE _ _)
theorem HOK.moreLen{h:HS}{T:Nat}{m:ao}(hk:HOK T h)(hs:h.ms.size<=200):∀p∈h.more m,p.2.2.length<=400:=λp hp=>by
 rcases aK.mp hp with hp | hp
 ·have h5:eK (h.users.map λp=>(p.1,p.2.2))<=2*h.ms.size:=hk.m.sum
  have:=_8i hp
  exact _ce hs h5 this
 ·rw[aj.mp hp];exact b0 _
theorem _j4{cs:List Nat}{n k:Nat}{l:List (Nat×ao×List Nat)}{x:ao×List Nat}(hl:∀p∈l,p.2.2.length<=400)(e:bz (dR cs n l) k=some x):x.2.length<=401:=by
 have h5:=_S e
 unfold dR at h5
 obtain⟨p,hp,e⟩:=aq.mp h5
 have h6:=hl p hp
 split at e
 ·have e2:p.2.2++[n]=x.2:=congrArg (λq=>q.2.2) e
  rw[<-e2,am];exact cC h6
 ·have e2:p.2.2=x.2:=congrArg (λq=>q.2.2) e
  rw[<-e2];exact eS h6
theorem _j5{h:HS}{n:cq}{wt dpt:Int}{al m:ao}{cn:List Nat}(v9:∀k,k∈cn ↔ k∈n.2.map h.ms.find)(h_:h.b.nodes.length ∉ cn):HS.ms (h.grow (h.b.took n wt dpt) (h.u.made al) (dR cn h.b.nodes.length (h.more m)))=h.ms.newNode n:=by
 unfold HS.grow HS.ms MS.newNode dR HS.more
 simp only[BS.took,US.made,aM,aJ,qP,bf,if_neg h_]
 congr 2
 ·refine bF λp hp=>?_
  simp only[gX]
  by_cases q:p.1∈cn
  ·rw[if_pos q]
   exact Eq.symm (if_pos ((v9 _).mp q))
  ·rw[if_neg q]
   exact Eq.symm (if_neg (λz=>q ((v9 _).mpr z)))
 ·exact congrArg (λx=>[x]) (if_neg (λz=>h_ ((v9 _).mpr z))).symm
section
variable{c:Cx}{d:Nat}{σ:af}{Q:AV->af->Prop}{N:Nms}{T:Nat}
theorem _j6{h:HS}{n:Nat}(H:Has c N)(h1:2<=d)(hA:At σ (h.cells N))(hd:i4 h.u.par)(hz:bp h.u.par.length)(hn:n<h.u.par.length)(hq:Q (.int (bD h.u.par n:Nat)) σ):br c d (.raw (.ref N.h_find)) [.ref h.self,.int n] σ Q:=by
 refine _g H.d_H_find (bN h1) rfl ?_
 (refine _5 ‹At _ _› 0 1 rfl rfl (by rfl) ((‹Has _ _›).a_H_unions) (by rfl) ?_;refine _9 ‹At _ _› 13 14 rfl rfl rfl ((‹Has _ _›).m_U_find) ((‹Has _ _›).d_U_find) ?_)
 exact _0S H (_b h1) (HS.atU hA) hd hn hz hq
noncomputable def s9(p0:ao)(p1:String)(p2:List AV)(p3:Nat):Loc:=[("self", .ref p0),("op", .str p1),("numbers", .tup p2),("n", .int (p3:Nat))]
set_option maxHeartbeats 4000000 in
theorem _j7{h:HS}{op:String}{ks:List Nat}(H:Has c N)(h1:6<=d)(hk:HOK T h)(vZ:gT op)(kH:∀k∈ks,k<h.ms.size)(h2:ks.length<=2)(hs:h.ms.size+1<=200):
  mI c d .call [.raw (.ref N.h_add),.ref h.self,.str op,.tup (b9 ks)] (h.cells N) (qt N h (h.ms.add (op,ks)) (.int (h.ms.numberOf (op,ks):Nat))):=by
 refine _J λσ R _i hA=>?_
 have G:=H.gs
 obtain⟨f1,f2,f3,f4,f5,f6,f7,f8,f9⟩:=hk.fits
 have eX:h.ms.size=h.b.nodes.length:=rfl
 refine _g H.d_H_add (ay (by decide) h1) rfl ?_
 (refine _5 ‹At _ _› 0 1 rfl rfl (by rfl) ((‹Has _ _›).a_H_bank) (by rfl) ?_;refine _9 ‹At _ _› 7 8 rfl rfl rfl ((‹Has _ _›).m_B_take) ((‹Has _ _›).d_B_take) ?_)
 refine _iH H (_b (ay (by decide) h1)) f2 hk.b vZ (by rw[<-eX];exact kH) (ay h2 (by decide)) σ (HS.atB hA) _ λv l' σ1 hp hB o=>?_
 unfold rW at hp
 cases h_:fS h.b.nodes (op,ks) with
 | some i=>
  rw[h_] at hp
  obtain⟨rfl,rfl⟩:=hp
  replace hA:=@HS.midB N h _ _ _ hA hB o
  clear hB o
  have hi:=(az.mp (_4e h_)).1
  (refine _5 ‹At _ _› 0 1 rfl rfl (by rfl) ((‹Has _ _›).a_H_unions) (by rfl) ?_;refine _9 ‹At _ _› 13 14 rfl rfl rfl ((‹Has _ _›).m_U_size) ((‹Has _ _›).d_U_size) ?_)
  refine _7U H (_b (ay (by decide) h1)) (@HS.atU N h _ hA) hk.fitsU ?_
  refine _2h ?_
  refine _7L (by rw[f3];exact gc.mpr hi) ?_
  refine _i hA ⟨?_,h,rfl,?_,hk.b,hk.u,rfl⟩
  ·unfold MS.numberOf
   rw[show fS h.ms.nodes (op,ks)=some i from h_];rfl
  ·unfold MS.add
   rw[show fS h.ms.nodes (op,ks)=some i from h_]
 | none=>
  rw[h_] at hp
  obtain⟨wt,dpt,rfl,rfl⟩:=hp
  replace hA:At σ1 (HS.cells N (h.grow (h.b.took (op,ks) wt dpt) h.u h.users)):=@HS.midB N h _ _ _ hA hB o
  clear hB o
  (refine _5 ‹At _ _› 0 1 rfl rfl (by rfl) ((‹Has _ _›).a_H_unions) (by rfl) ?_;refine _9 ‹At _ _› 13 14 rfl rfl rfl ((‹Has _ _›).m_U_size) ((‹Has _ _›).d_U_size) ?_)
  refine _7U (u:=h.u) H (_b (ay (by decide) h1)) (@HS.atU N (h.grow (h.b.took (op,ks) wt dpt) h.u h.users) _ hA) hk.fitsU ?_
  refine _2h ?_
  refine _7M (by rw[f3];exact Int.lt_irrefl _) ?_
  (refine _5 ‹At _ _› 0 1 rfl rfl (by rfl) ((‹Has _ _›).a_H_unions) (by rfl) ?_;refine _9 ‹At _ _› 13 14 rfl rfl rfl ((‹Has _ _›).m_U_make) ((‹Has _ _›).d_U_make) ?_)
  refine _iw (u:=h.u) H (_b (ay (by decide) h1)) f1 hk.u σ1 (@HS.atU N (h.grow (h.b.took (op,ks) wt dpt) h.u h.users) _ hA) _ λv l' σ2 hp hU o=>?_
  obtain⟨al,rfl,rfl⟩:=hp
  replace hA:At σ2 (HS.cells N (h.grow (h.b.took (op,ks) wt dpt) (h.u.made al) h.users)):=@HS.midU N (h.grow (h.b.took (op,ks) wt dpt) h.u h.users) _ _ _ hA hU o
  clear hU o
  have hb3:=hk.b.took h_ (by rw[<-eX];exact kH) (by show ks.length<=10;exact _cf h2) wt dpt
  have hu3:=hk.u.made al
  refine _iq hA (by rfl) λm σ3 hA=>?_
  refine _5 ‹At _ _› 1 2 rfl rfl (by rfl) ((‹Has _ _›).a_H_above) (by rfl) ?_
  have w7:=hk.usersLen
  refine _2q (es:=cz h.users) (hA.nth 6 rfl) (by rw[_4n];show h.users.length<=100000;exact _3e w7) ?_
  rw[show d9 (cz h.users) ((h.b.nodes.length:Nat):Int) (AV.ref m)=cz (h.more m) from(_8a _ _ (m,[])).trans (congrArg cz (_0M hk.newUser))]
  refine _u hA 6 rfl λσ4 hA=>?_
  replace hA:At σ4 (HS.cells N (h.grow (h.b.took (op,ks) wt dpt) (h.u.made al) (h.more m))):=by
   refine At.last (P:=HS.own N (h.grow (h.b.took (op,ks) wt dpt) (h.u.made al) (h.more m))) (B:=(h.b.took (op,ks) wt dpt).cells N) (U:=(h.u.made al).cells N) (um:=h.users.map dQ) (rest:=[]) hA ?_
   show(_::h.users.map dQ:aU).Perm ([]++(h.users++[(h.b.nodes.length,m,[])]).map dQ)
   rw[aM]
   exact(jc _ _).symm
  have wo:(h.u.made al).par.length=h.u.par.length+1:=am
  (refine _4 (‹gt _›).g_sorted ?_;refine _4 (‹gt _›).g_set ?_)
  refine _R ⟨_02 (by rw[_7];exact _3a h2),?_⟩
  refine _z (λi bV aX=>aX=σ4/\bV=b9 ((ks.take i).map h.ms.find)) ⟨rfl,rfl⟩ (λ_ _ _ _=>trivial) ?_ ?_
  ·rintro i x bV aX k hx ⟨rfl,rfl⟩ fP
   obtain⟨kid,hkid,rfl⟩:=_0v hx
   have iU:=kH kid (aC hkid)
   (refine _9 ‹At _ _› 0 1 rfl rfl rfl ((‹Has _ _›).m_H_find) ((‹Has _ _›).d_H_find) ?_)
   refine _j6 (h:=h.grow (h.b.took (op,ks) wt dpt) (h.u.made al) (h.more m)) H (_b (ay (by decide) h1)) hA hu3.down (by show bp (h.u.made al).par.length;rw[wo];exact f1) (by show kid<(h.u.made al).par.length;rw[wo];exact _cg f3 eX iU) ?_
   refine fP _ _ ⟨rfl,?_⟩
   rw[bJ,hkid,aM]
   show _=b9 (_++[h.ms.find kid])
   rw[_0s]
   rw[show h.ms.find kid=bD (h.grow (h.b.took (op,ks) wt dpt) (h.u.made al) (h.more m)).u.par kid from(_1A hk.u.down kid (by rw[f3];exact iU)).symm]
  ·rintro bV aX ⟨rfl,rfl⟩ m1 hm1
   rw[_7,bT,_1x (ks.map h.ms.find)]
   refine _j (ce:=.list (cJ ((ks.map h.ms.find).map λ(n:Nat)=>(n:Int)))) hA hm1 λσ5 hA=>?_
   refine _hX (At.nth ‹At _ _› 0 rfl) (by simp;exact _ch h2) λm2 ms w' qI re=>?_
   refine _j (ce:=.setI ms) hA re λσ6 hA=>?_
   have wI:ms.length<=2:=by
    have:=_3W w' λx hx=>(qI x).mp hx
    rw[ac,ac] at this;exact _ci h2 this
   refine _ic (At.nth ‹At _ _› 0 rfl) (by exact _cj wI) λm3 cs qL hsort hm3=>?_
   refine _j (ce:=.list (cJ cs)) hA hm3 λσ7 hA=>?_
   have wX:cs.length<=2:=by rw[qL.length_eq];exact wI
   obtain⟨cn,rfl,v9,hcnd⟩:=_j2 w' qI qL
   rw[<-_1x] at hA
   rw[ac] at wX
   replace hA:=hA.sub (((b7 _ _).trans (b7 _ _)).cons_cons _)
   have rn:h.b.nodes.length ∉ cn:=λz=>by
    obtain⟨kid,hkid,e⟩:=aq.mp ((v9 _).mp z)
    have h5:=(_K hk.u.down kid (by rw[f3];exact kH kid hkid)).2
    have h6:bD h.u.par kid=h.b.nodes.length:=e
    exact(_ck f3 h5 h6).elim
   have vW:∀cc∈cn,cc∈(h.more m).map (·.1):=λcc tD=>by
    rw[_8h]
    obtain⟨kid,hkid,rfl⟩:=aq.mp ((v9 _).mp tD)
    exact a8 _ (hk.userPerm.mem_iff.mpr (_iO hk.u.down (by rw[f3];exact kH kid hkid)))
   have v7:=_j5 (h:=h) (n:=(op,ks)) (wt:=wt) (dpt:=dpt) (al:=al) (m:=m) v9 rn
   have xD:=hk.moreNodup (m:=m)
   have wK:=hk.moreLen (m:=m) (by exact _cl hs)
   generalize h.more m=us0 at *
   generalize h.b.took (op,ks) wt dpt=b3 at *
   generalize h.u.made al=u3 at *
   refine _0q (hA.get aE) ?_
   refine _z (λi m' aX=>At aX ((m3,.list (b9 cn))::HS.cells N (h.grow b3 u3 (dR (cn.take i) h.b.nodes.length us0)))/\m'=s9 h.self op (b9 ks) h.b.nodes.length) ⟨by rw[List.take_zero,_j1];exact hA,rfl⟩ (λi b aX ⟨hA,_⟩=>hA.get aE) ?_ ?_
   ·clear hA
    rintro i x m' aX k hx ⟨hA,rfl⟩ fP
    obtain⟨cc,tD,rfl⟩:=_0v hx
    obtain⟨lx,hax⟩:=_87 (l:=dR (cn.take i) h.b.nodes.length us0) (k:=cc) (by rw[_8e];exact vW cc (aC tD))
    have hlx:=_j4 wK hax
    refine _5 ‹At _ _› 1 2 rfl rfl (by rfl) ((‹Has _ _›).a_H_above) (by rfl) ?_
    refine _1p (es:=cz (dR (cn.take i) h.b.nodes.length us0)) (hA.nth 6 rfl) (by rw[_2E,hax];rfl) ?_
    have nq:aX lx.1=some (.list (b9 lx.2)):=HS.user (h:=h.grow b3 u3 (dR (cn.take i) h.b.nodes.length us0)) hA.tail hax
    refine _v nq ?_
    refine _l ?_
    refine _2z nq (by unfold bp;exact _cm hlx) ?_
    refine fP _ _ ⟨?_,rfl⟩
    have hB:=hA.upd (.tail (.right (.right (.right (_8d (n:=h.b.nodes.length) (l:=dR (cn.take i) h.b.nodes.length us0) (by rw[_8e];exact xD) hax)))))
    rw[_j0 _ _ _ (_j3 hcnd tD),show cn.take i++[cc]=cn.take (i+1) by rw[bJ,tD];rfl] at hB
    have e9:cz (dR (cn.take i) h.b.nodes.length us0)=cz (dR (cn.take (i+1)) h.b.nodes.length us0):=by rw[_8f,_8f]
    unfold HS.grow at hB ⊢
    simp only[HS.cells,HS.own] at hB ⊢
    rw[<-e9]
    exact hB
   ·clear hA
    rintro m' aX ⟨hA,rfl⟩
    rw[_7,bT] at hA
    replace hA:=hA.tail
    obtain⟨g1,g2⟩:=hk.m.newNode (n:=(op,ks)) h_ kH h2 hs
    have wP:HOK T (h.grow b3 u3 (dR cn h.b.nodes.length us0)):=⟨hb3,hu3,by rw[v7];exact g1⟩
    (refine _9 ‹At _ _› 0 1 rfl rfl rfl ((‹Has _ _›).m_H_look_at) ((‹Has _ _›).d_H_look_at) ?_)
    refine _8c (h:=h.grow b3 u3 (dR cn h.b.nodes.length us0)) H (_b (ay (by decide) h1)) wP (by rw[v7];simp[MS.newNode,MS.size];exact cD _) aX hA _ λv l' σ2 hp hA9 o=>?_
    obtain⟨_,h',k1,k2,k3,k4,rfl⟩:=hp
    refine _i hA9 ⟨?_,h',k1,?_,k3,k4,rfl⟩
    ·unfold MS.numberOf
     rw[show fS h.ms.nodes (op,ks)=none from h_];rfl
    ·rw[k2,v7]
     unfold MS.add
     rw[show fS h.ms.nodes (op,ks)=none from h_];rfl
end
noncomputable def MS.empty:MS:=⟨[],[],[],[],[],[],[],[],[]⟩
theorem MOK.empty:MOK 0 MS.empty:=by
 refine{down:=λi hi=>absurd hi (ca _),lgr:=rfl,len:=rfl,two:=λn hn=>absurd hn bj,kids:=λi hi=>absurd hi (ca _),nd:=.nil,small:=by decide,told:=by decide,keys:=.refl _,sum:=by decide,bound:=by decide,edges:=by decide,forest:=rfl,knownlt:=λn hn=>absurd hn bj,waitlt:=λn hn=>absurd hn bj,userlt:=λn hn=>absurd hn bj}
section
variable{c:Cx}{d:Nat}{σ:af}{Q:AV->af->Prop}{N:Nms}{T:Nat}
noncomputable abbrev hNewP(N:Nms)(v:AV)(l':aU):Prop:=∃h:HS,v = .ref h.self/\h.ms=MS.empty/\HOK 0 h/\l'=h.cells N
theorem _j8(H:Has c N)(h1:2<=d):mI c d .call [.raw (.ref N.cH)] [] (hNewP N):=by
 refine _J λσ R _i hA=>?_
 refine _4b H.k_H H.d_H_init (bN h1) rfl λx dx hx hdx gK=>?_
 replace hA:=hA.inst (C:=N.cH) hx hdx gK
 generalize (σ.set dx _).set x _=σ1 at hA ⊢
 refine _4 H.g_B ?_
 refine _iI H (_b h1) σ1 .nil _ λv l' σ2 hp hB o=>?_
 obtain⟨b,rfl,xg,hb2,rfl⟩:=hp
 replace hA:=At.perm (At.rest (l:=[]) hA hB o) (bY (l₁:=[(x,cG.inst N.cH dx),(dx,.ns [])]))
 clear hB o
 refine _A (hA.nth 0 rfl) (hA.nth 1 rfl) ((‹Has _ _›).s_H_bank) (be rfl) λ_=>?_
 refine _u hA 1 rfl λσ3 hA=>?_
 refine _4 H.g_U ?_
 refine _iz H (_b h1) σ3 .nil _ λv l' σ4 hp hU o=>?_
 obtain⟨u,rfl,hu,rfl⟩:=hp
 replace hA:=At.perm (At.rest (l:=[]) hA hU o) (bY (l₁:=(x,cG.inst N.cH dx)::(dx,.ns (Loc.put [] "bank" (.ref b.self)))::b.cells N))
 clear hU o
 refine _A (hA.nth 0 rfl) (hA.nth 1 rfl) ((‹Has _ _›).s_H_unions) (be rfl) λ_=>?_
 replace hA:=hA.put 1 rfl (.ns (Loc.put (Loc.put [] "bank" (.ref b.self)) "unions" (.ref u.self)))
 refine And.intro (sl rfl) λle qK=>?_
 replace hA:=hA.new (c:=.list []) qK
 refine _A (hA.nth 1 rfl) (hA.nth 2 rfl) ((‹Has _ _›).s_H_edges) (be rfl) λ_=>?_
 replace hA:=hA.put 2 rfl (.ns (Loc.put (Loc.put (Loc.put [] "bank" (.ref b.self)) "unions" (.ref u.self)) "edges" (.ref le)))
 refine And.intro (sl rfl) λlf xF=>?_
 replace hA:=hA.new (c:=.list []) xF
 refine _A (hA.nth 2 rfl) (hA.nth 3 rfl) ((‹Has _ _›).s_H_forest) (be rfl) λ_=>?_
 replace hA:=hA.put 3 rfl (.ns (Loc.put (Loc.put (Loc.put (Loc.put [] "bank" (.ref b.self)) "unions" (.ref u.self)) "edges" (.ref le)) "forest" (.ref lf)))
 refine Exists.intro (.dictT []) (And.intro (.inr rfl) λlk hlk=>?_)
 replace hA:=hA.new (c:=.dictT []) hlk
 refine _A (hA.nth 3 rfl) (hA.nth 4 rfl) ((‹Has _ _›).s_H_known) (be rfl) λ_=>?_
 replace hA:=hA.put 4 rfl (.ns (Loc.put (Loc.put (Loc.put (Loc.put (Loc.put [] "bank" (.ref b.self)) "unions" (.ref u.self)) "edges" (.ref le)) "forest" (.ref lf)) "known" (.ref lk)))
 refine Exists.intro (.dictI []) (And.intro (.inl rfl) λla hla=>?_)
 replace hA:=hA.new (c:=.dictI []) hla
 refine _A (hA.nth 4 rfl) (hA.nth 5 rfl) ((‹Has _ _›).s_H_above) (be rfl) λ_=>?_
 replace hA:=hA.put 5 rfl (.ns (Loc.put (Loc.put (Loc.put (Loc.put (Loc.put (Loc.put [] "bank" (.ref b.self)) "unions" (.ref u.self)) "edges" (.ref le)) "forest" (.ref lf)) "known" (.ref lk)) "above" (.ref la)))
 refine And.intro (sl rfl) λlw vD=>?_
 replace hA:=hA.new (c:=.list []) vD
 refine _A (hA.nth 5 rfl) (hA.nth 6 rfl) ((‹Has _ _›).s_H_waiting) (be rfl) λ_=>?_
 replace hA:=hA.put 6 rfl (.ns (Loc.put (Loc.put (Loc.put (Loc.put (Loc.put (Loc.put (Loc.put [] "bank" (.ref b.self)) "unions" (.ref u.self)) "edges" (.ref le)) "forest" (.ref lf)) "known" (.ref lk)) "above" (.ref la)) "waiting" (.ref lw)))
 have qI:HS.ms ⟨x,dx,le,lf,lk,la,lw,b,u,[],[],[],[],[]⟩=MS.empty:=by
  obtain⟨u1,u2,u3⟩:=hu
  unfold HS.ms MS.empty
  simp only[xg,u1,u2,u3,qP]
 refine _i (hA.perm ?_) ⟨⟨x,dx,le,lf,lk,la,lw,b,u,[],[],[],[],[]⟩,rfl,qI,⟨hb2,hu.ok,by rw[qI];exact MOK.empty⟩,rfl⟩
 have p1:((x,cG.inst N.cH dx)::(dx,cG.ns [("bank", .ref b.self),("unions", .ref u.self),("edges", .ref le),("forest", .ref lf),("known", .ref lk),("above", .ref la),("waiting", .ref lw)])::(le,cG.list [])::(lf,.list [])::(lk,.dictT [])::(la,.dictI [])::(lw,.list [])::[]).Perm
   ((lw,cG.list [])::(la,.dictI [])::(lk,.dictT [])::(lf,.list [])::(le,.list [])::(x,cG.inst N.cH dx)::(dx,cG.ns [("bank", .ref b.self),("unions", .ref u.self),("edges", .ref le),("forest", .ref lf),("known", .ref lk),("above", .ref la),("waiting", .ref lw)])::[]):=
  lQ.trans (lQ.trans (.swap _ _ _) (fL _).symm) (.refl _)
 show lQ (_++(b.cells N++(u.cells N++[]))) _
 rw[bh]
 exact p1.append_right (b.cells N++u.cells N)
end
noncomputable def Cong(nodes:List cq)(C:Nat->Nat->Prop):Prop:=
 ∀(i j:Nat) (ni nj:cq),nodes[i]? = some ni->nodes[j]? = some nj->ni.1=nj.1->ni.2.length=nj.2.length->(∀(k x y:Nat),ni.2[k]? = some x->nj.2[k]? = some y->C x y)->C i j
structure pQ(nodes:List cq)(told:List (Nat×Nat))(C:Nat->Nat->Prop):Prop where
 eqv:Equivalence C
 told:∀p∈told,C p.1 p.2
 cong:Cong nodes C
noncomputable def dq(nodes:List cq)(told:List (Nat×Nat))(i j:Nat):Prop:=∀C,pQ nodes told C->C i j
section
variable{nodes tj:List cq}{told iM:List (Nat×Nat)}{i j k:Nat}
theorem dq.refl(i:Nat):dq nodes told i i:=λC h=>h.eqv.refl i
theorem dq.symm(x:dq nodes told i j):dq nodes told j i:=λC h=>h.eqv.symm (x C h)
theorem dq.trans(x:dq nodes told i j)(y:dq nodes told j k):dq nodes told i k:=λC h=>h.eqv.trans (x C h) (y C h)
theorem dq.of_told(h:(i,j)∈told):dq nodes told i j:=λC hC=>hC.told _ h
theorem dq.cong:Cong nodes (dq nodes told):=λi j ni nj hi hj h1 h2 h3 C hC=>hC.cong i j ni nj hi hj h1 h2 λk x y hx hy=>h3 k x y hx hy C hC
theorem dq.mono(hn:∀(i:Nat) n,nodes[i]? = some n->tj[i]? = some n)(ht:∀p∈told,p∈iM)(h:dq nodes told i j):dq tj iM i j:=
 λC hC=>h C ⟨hC.eqv,λp hp=>hC.told p (ht p hp),λi j ni nj hi hj=>hC.cong i j ni nj (hn _ _ hi) (hn _ _ hj)⟩
end
theorem _0j{α:Type}{l m:List α}{i:Nat}{x:α}(h:l[i]? = some x):(l++m)[i]? = some x:=by
 rw[dM (az.mp h).1];exact h
theorem _8j{K V:Type}[DecidableEq K]:∀(l:List (K×V)) (k:K) (v:V) (x:K),bz (d9 l k v) x=if x=k then some v else bz l x
 | [],k,v,x=>by
  simp only[_y,_hg,_e,_0e]
  by_cases h:x=k
  ·subst h;simp
  ·rw[if_neg (λe=>h e.symm),if_neg h]
 | (a,u)::l,k,v,x=>by
  rw[_y]
  by_cases h:a=k
  ·subst h
   rw[if_pos rfl]
   simp only[_e,_0e]
   by_cases e:a=x
   ·subst e;simp
   ·rw[if_neg e,if_neg (λq=>e q.symm),if_neg e]
  ·rw[if_neg h]
   simp only[_e,_0e]
   by_cases e:a=x
   ·subst e;rw[if_pos rfl,if_neg h,if_pos rfl]
   ·rw[if_neg e,if_neg e,_8j l k v x]
theorem _4p{K V:Type}[DecidableEq K]:∀{l m:List (K×V)} {x:K} {v:V},bz l x=some v->bz (l++m) x=some v
 | [],m,x,v,h=>by cases h
 | (a,u)::l,m,x,v,h=>by
  rw[dA]
  rw[_e] at h ⊢
  by_cases e:a=x
  ·rw[if_pos e] at h ⊢;exact h
  ·rw[if_neg e] at h ⊢;exact _4p h
theorem _4q{K V:Type}[DecidableEq K]:∀{l m:List (K×V)} {x:K},bz l x=none->bz (l++m) x=bz m x
 | [],m,x,h=>rfl
 | (a,u)::l,m,x,h=>by
  rw[dA]
  rw[_e] at h
  rw[_e]
  by_cases e:a=x
  ·rw[if_pos e] at h;cases h
  ·rw[if_neg e] at h ⊢;exact _4q h
theorem _8k{K V:Type}[DecidableEq K](F:K->V->V):∀(l:List (K×V)) (x:K),bz (l.map λp=>(p.1,F p.1 p.2)) x=(bz l x).map (F x)
 | [],x=>rfl
 | (a,u)::l,x=>by
  rw[aJ]
  rw[_e,_e]
  by_cases e:a=x
  ·subst e;simp
  ·rw[if_neg e,if_neg e,_8k F l x]
section
variable{T:Nat}{s:MS}
theorem _04{n:Nat}{nd:cq}(h:s.nodes[n]? = some nd):s.canon n=(nd.1,nd.2.map s.find):=by
 unfold MS.canon
 rw[bc,h];rfl
theorem MOK.findLt(h:MOK T s){x:Nat}(hx:x<s.size):s.find x<s.size/\s.find x<=x:=by
 have:=_K h.down x (by rw[h.len];exact hx)
 rw[h.len] at this
 exact⟨this.2,this.1⟩
theorem MOK.findFind(h:MOK T s){x:Nat}(hx:x<s.size):s.find (s.find x)=s.find x:=_0t h.down (by rw[h.len];exact hx)
theorem MOK.kidLt(h:MOK T s){n:Nat}{nd:cq}(hn:s.nodes[n]? = some nd){x:Nat}(hx:x∈nd.2):x<s.size:=by
 obtain⟨fO,xd⟩:=az.mp hn
 have h5:=h.kids n fO x (by rw[xd];exact hx)
 exact cN h5 fO
theorem _05(h:MOK T s){a b k g:Nat}{r:AV}(pr:mG s.par k g){x:Nat}(hx:x<s.size):(s.joinK a b r k g).find x=if s.find x=g then k else s.find x:=
 _2B h.down pr.gl pr.lt pr.rg pr.rk x (by rw[h.len];exact hx)
theorem _8l(h:MOK T s){a b k g:Nat}{r:AV}(pr:mG s.par k g){n:Nat}(hn:n<s.size):(s.joinK a b r k g).canon n=((s.canon n).1,(s.canon n).2.map λx=>if x=g then k else x):=by
 obtain⟨nd,hJ⟩:∃nd,s.nodes[n]? = some nd:=⟨_,ax hn⟩
 rw[_04 (s:=s.joinK a b r k g) (n:=n) (nd:=nd) hJ,_04 hJ]
 simp only[bf,pb,true_and]
 refine bF λx hx=>?_
 exact _05 h pr (h.kidLt hJ hx)
theorem _8m(h:MOK T s){a b k g:Nat}{r:AV}(pr:mG s.par k g){n:Nat}(hn:n<s.size)(hg:g ∉ (s.canon n).2):(s.joinK a b r k g).canon n=s.canon n:=by
 rw[_8l h pr hn]
 refine gO rfl ?_
 show List.map _ (s.canon n).2=(s.canon n).2
 refine(bF (g:=id) λx hx=>?_).trans (lp _)
 exact if_neg λe:x=g=>hg (by rw[<-e];exact hx)
theorem _j9(h:MOK T s){n:Nat}(hn:n<s.size){x:Nat}(hx:x∈(s.canon n).2):x<s.size/\s.find x=x:=by
 obtain⟨nd,hJ⟩:∃nd,s.nodes[n]? = some nd:=⟨_,ax hn⟩
 rw[_04 hJ] at hx
 obtain⟨y,hy,rfl⟩:=aq.mp hx
 exact⟨(h.findLt (h.kidLt hJ hy)).1,h.findFind (h.kidLt hJ hy)⟩
end
structure eo(s:MS)(told:List (Nat×Nat))(W:Nat->Prop):Prop where
 snd:∀i j,i<s.size->j<s.size->s.find i=s.find j->dq s.nodes told i j
 has:∀p∈told,p.1<s.size/\p.2<s.size/\s.find p.1=s.find p.2
 known:∀p∈s.known,∃n,s.nodes[p.2]? = some n/\p.1.1=n.1/\p.1.2.length=n.2.length/\∀(i x y:Nat),p.1.2[i]? = some x->n.2[i]? = some y->x<s.size/\s.find x=s.find y
 cov:∀n,n<s.size->W n\/n∈s.waiting\/∃o,bz s.known (s.canon n)=some o/\s.find o=s.find n
 users:∀r,r<s.size->s.find r=r->∀n,n∈s.usersOf r ↔ n<s.size/\r∈(s.canon n).2
theorem eo.empty:eo MS.empty [] (λ_=>False):=
 ⟨λi j hi=>absurd hi (ca _),λp hp=>absurd hp bj,λp hp=>absurd hp bj,λn hn=>absurd hn (ca _),λn hn=>absurd hn (ca _)⟩
section
variable{T:Nat}{s:MS}{told iM:List (Nat×Nat)}{W:Nat->Prop}
theorem eo.self(hm:MOK T s)(h:eo s told W){i:Nat}(hi:i<s.size):dq s.nodes told i (s.find i):=
 h.snd i _ hi (hm.findLt hi).1 (hm.findFind hi).symm
theorem eo.joinK(hm:MOK T s)(h:eo s told W){a b k g:Nat}{r:AV}(pr:mG s.par k g)(hf:dq s.nodes iM k g)(ht:∀p∈told,p∈iM)
  (mK:∀p∈iM,p∈told\/(p.1<s.size/\p.2<s.size/\(s.joinK a b r k g).find p.1=(s.joinK a b r k g).find p.2)):eo (s.joinK a b r k g) iM W:=by
 have rh:g<s.size:=by rw[<-hm.len];exact pr.gl
 have iU:k<s.size:=cN pr.lt rh
 have xV:∀{i j},i<s.size->j<s.size->s.find i=s.find j->(s.joinK a b r k g).find i=(s.joinK a b r k g).find j:=λhi hj e=>by
  rw[_05 hm pr hi,_05 hm pr hj,e]
 have up:∀{i j},dq s.nodes told i j->dq s.nodes iM i j:=λx=>x.mono (λ_ _ y=>y) ht
 have vt:∀{i},i<s.size->dq s.nodes iM i ((s.joinK a b r k g).find i):=λ{i} hi=>by
  rw[_05 hm pr hi]
  have h1:=up (h.self hm hi)
  by_cases e:s.find i=g
  ·rw[if_pos e];rw[e] at h1;exact h1.trans hf.symm
  ·rw[if_neg e];exact h1
 have usr:∀n,n<s.size->g∈(s.canon n).2->n∈(s.joinK a b r k g).waiting:=λn hn hg=>by
  show n∈s.waiting++s.usersOf g
  exact aT _ ((h.users g rh pr.rg n).mpr ⟨hn,hg⟩)
 refine⟨λi j hi hj e=>?_,λp hp=>?_,λp hp=>?_,λn hn=>?_,λq hq hqr n=>?_⟩
 ·have h1:=vt hi
  rw[e] at h1
  exact h1.trans (vt hj).symm
 ·rcases mK p hp with hp | hp
  ·obtain⟨h1,h2,h3⟩:=h.has p hp
   exact⟨h1,h2,xV h1 h2 h3⟩
  ·exact hp
 ·obtain⟨n,h1,h2,h3,h4⟩:=h.known p hp
  refine⟨n,h1,h2,h3,λi x y hx hy=>?_⟩
  obtain⟨k1,k2⟩:=h4 i x y hx hy
  exact⟨k1,xV k1 (hm.kidLt h1 (aC hy)) k2⟩
 ·rcases h.cov n hn with w | w | ⟨o,h1,h2⟩
  ·exact .inl w
  ·exact .inr (.inl (a8 _ w))
  ·by_cases hg:g∈(s.canon n).2
   ·exact .inr (.inl (usr n hn hg))
   ·refine .inr (.inr ⟨o,?_,xV (hm.knownlt _ (_S h1)) hn h2⟩)
    rw[_8m hm pr hn hg]
    exact h1
 ·rw[_05 hm pr hq] at hqr
  have xx:s.find q=q/\q≠g:=by
   by_cases e:s.find q=g
   ·rw[if_pos e] at hqr
    subst hqr
    have:=pr.rk
    have h2:=pr.lt
    unfold MS.find at e
    exact⟨(_cn e this h2).elim,(_5m h2)⟩
   ·rw[if_neg e] at hqr
    exact⟨hqr,λx=>e (x ▸ hqr)⟩
  have hu:(s.joinK a b r k g).usersOf q=if q=k then s.usersOf k++s.usersOf g else s.usersOf q:=by
   unfold MS.usersOf MS.joinK
   simp only
   rw[_8j]
   by_cases e:q=k
   ·rw[if_pos e,if_pos e];rfl
   ·rw[if_neg e,if_neg e,_4j xx.2]
  rw[hu]
  have tE:∀n,n<s.size->(q∈((s.joinK a b r k g).canon n).2 ↔ if q=k then(k∈(s.canon n).2\/g∈(s.canon n).2) else q∈(s.canon n).2):=by
   intro n hn
   rw[_8l hm pr hn]
   simp only[aq]
   constructor
   ·rintro⟨x,hx,rfl⟩
    by_cases e:x=g
    ·subst e;rw[if_pos rfl,if_pos rfl];exact .inr hx
    ·rw[if_neg e]
     split
     ·rename_i e2;exact .inl (e2 ▸ hx)
     ·exact hx
   ·intro x
    split at x
    ·rename_i e
     rcases x with x | x
     ·exact⟨k,x,by rw[if_neg (by have:=pr.lt;exact _co this),e]⟩
     ·exact⟨g,x,by rw[if_pos rfl,e]⟩
    ·exact⟨q,x,if_neg xx.2⟩
  by_cases e:q=k
  ·rw[if_pos e,aK,h.users k iU pr.rk,h.users g rh pr.rg]
   constructor
   ·rintro(⟨h1,h2⟩ | ⟨h1,h2⟩)
    ·exact⟨h1,(tE n h1).mpr (by rw[if_pos e];exact .inl h2)⟩
    ·exact⟨h1,(tE n h1).mpr (by rw[if_pos e];exact .inr h2)⟩
   ·rintro⟨h1,h2⟩
    have wx:n<s.size:=h1
    have:=(tE n wx).mp h2
    rw[if_pos e] at this
    exact this.imp (λx=>⟨wx,x⟩) λx=>⟨wx,x⟩
  ·rw[if_neg e,h.users q hq xx.1]
   constructor
   ·rintro⟨h1,h2⟩
    exact⟨h1,(tE n h1).mpr (by rw[if_neg e];exact h2)⟩
   ·rintro⟨h1,h2⟩
    have wx:n<s.size:=h1
    have:=(tE n wx).mp h2
    rw[if_neg e] at this
    exact⟨wx,this⟩
theorem eo.join(hm:MOK T s)(h:eo s told W){a b:Nat}{r:AV}(ha:a<s.size)(hb:b<s.size)(hf:dq s.nodes iM a b)(ht:∀p∈told,p∈iM)(mK:∀p∈iM,p∈told\/p=(a,b)):eo (s.join a b r) iM W:=by
 have up:∀{i j},dq s.nodes told i j->dq s.nodes iM i j:=λx=>x.mono (λ_ _ y=>y) ht
 unfold MS.join
 by_cases e:s.find a=s.find b
 ·rw[if_pos e]
  refine⟨λi j hi hj q=>up (h.snd i j hi hj q),λp hp=>?_,h.known,h.cov,h.users⟩
  rcases mK p hp with hp | rfl
  ·exact h.has p hp
  ·exact⟨ha,hb,e⟩
 ·rw[if_neg e]
  have pr:mG s.par (min (s.find a) (s.find b)) (max (s.find a) (s.find b)):=_0W hm.down (by rw[hm.len];exact ha) (by rw[hm.len];exact hb) e
  refine h.joinK hm pr ?_ ht λp hp=>?_
  ·have h1:=up (h.self hm ha)
   have h2:=up (h.self hm hb)
   have h3:=(h1.symm.trans hf).trans h2
   show dq s.nodes iM (min (s.find a) (s.find b)) (max (s.find a) (s.find b))
   rcases dh (s.find a) (s.find b) with q | q
   ·rw[dg q,eB q];exact h3
   ·rw[dC q,dK q];exact h3.symm
  ·rcases mK p hp with hp | rfl
   ·exact .inl hp
   ·refine .inr ⟨ha,hb,?_⟩
    show(s.joinK a b r (min (s.find a) (s.find b)) (max (s.find a) (s.find b))).find a=(s.joinK a b r (min (s.find a) (s.find b)) (max (s.find a) (s.find b))).find b
    rw[_05 hm pr ha,_05 hm pr hb]
    show(if s.find a=max (s.find a) (s.find b) then min (s.find a) (s.find b) else s.find a)=if s.find b=max (s.find a) (s.find b) then min (s.find a) (s.find b) else s.find b
    split <;> split <;> (first | lia | omega)
theorem eo.tell(hm:MOK T s)(h:eo s told W){a b:Nat}{r:AV}(ha:a<s.size)(hb:b<s.size):eo (s.join a b r) (told++[(a,b)]) W:=
 h.join hm ha hb (.of_told (by simp)) (λp hp=>a8 _ hp) λp hp=>(aK.mp hp).imp id λq=>aj.mp q
theorem eo.look(hm:MOK T s){n:Nat}(hn:n<s.size)(h:eo s told (λm=>m=n)):eo (s.look n) told (λ_=>False):=by
 obtain⟨nd,hJ⟩:∃nd,s.nodes[n]? = some nd:=⟨_,ax hn⟩
 have hc:=_04 hJ
 have w4:∀m,m<s.size->m≠n->m∈s.waiting\/∃o,bz s.known (s.canon m)=some o/\s.find o=s.find m:=λm hm gK=>(h.cov m hm).resolve_left gK
 unfold MS.look
 cases hk:bz s.known (s.canon n) with
 | none=>
  dsimp only
  refine⟨h.snd,h.has,λp hp=>?_,λm qJ=>?_,h.users⟩
  ·rcases aK.mp hp with hp | hp
   ·exact h.known p hp
   ·obtain rfl:=aj.mp hp
    refine⟨nd,hJ,by rw[hc],by rw[hc];simp,λi x y hx hy=>?_⟩
    rw[hc] at hx
    simp only[aQ,hy,gq,gp] at hx
    subst hx
    have tq:=hm.kidLt hJ (aC hy)
    exact⟨(hm.findLt tq).1,hm.findFind tq⟩
  ·by_cases e:m=n
   ·subst e
    refine .inr (.inr ⟨m,?_,rfl⟩)
    show bz (s.known++[(s.canon m,m)]) (s.canon m)=some m
    rw[_4q hk]
    simp[_e,_0e]
   ·rcases w4 m qJ e with w | ⟨o,h1,h2⟩
    ·exact .inr (.inl w)
    ·exact .inr (.inr ⟨o,_4p h1,h2⟩)
 | some o=>
  dsimp only
  have sn:=hm.knownlt _ (_S hk)
  by_cases e:s.find o=s.find n
  ·rw[if_pos e]
   refine⟨h.snd,h.has,h.known,λm qJ=>?_,h.users⟩
   by_cases q:m=n
   ·subst q;exact .inr (.inr ⟨o,hk,e⟩)
   ·exact .inr (w4 m qJ q)
  ·rw[if_neg e]
   obtain⟨no,h1,h2,h3,h4⟩:=h.known _ (_S hk)
   have hf:dq s.nodes told o n:=by
    rw[hc] at h2 h3 h4
    refine dq.cong o n no nd h1 hJ h2.symm (by rw[<-h3];simp) λi x y hx hy=>?_
    have tq:=hm.kidLt hJ (aC hy)
    have w6:=hm.kidLt h1 (aC hx)
    obtain⟨k1,k2⟩:=h4 i (s.find y) x (by simp[hy]) hx
    rw[hm.findFind tq] at k2
    exact(h.snd y x tq w6 k2).symm
   have J:=h.join (r:=MS.like) hm sn hn hf (λp hp=>hp) (λp hp=>.inl hp)
   have cn:n∈(s.join o n MS.like).waiting\/∃o',bz (s.join o n MS.like).known ((s.join o n MS.like).canon n)=some o'/\(s.join o n MS.like).find o'=(s.join o n MS.like).find n:=by
    have pr:mG s.par (min (s.find o) (s.find n)) (max (s.find o) (s.find n)):=_0W hm.down (by rw[hm.len];exact sn) (by rw[hm.len];exact hn) e
    unfold MS.join
    rw[if_neg e]
    by_cases hg:max (s.find o) (s.find n)∈(s.canon n).2
    ·left
     show n∈s.waiting++s.usersOf _
     refine aT _ ((h.users _ ?_ pr.rg n).mpr ⟨hn,hg⟩)
     rw[<-hm.len];exact pr.gl
    ·right
     refine⟨o,?_,?_⟩
     ·show bz s.known ((s.joinK o n MS.like (min (s.find o) (s.find n)) (max (s.find o) (s.find n))).canon n)=some o
      rw[show(s.joinK o n MS.like (min (s.find o) (s.find n)) (max (s.find o) (s.find n))).canon n=s.canon n from _8m hm pr hn hg];exact hk
     ·show(s.joinK o n MS.like (min (s.find o) (s.find n)) (max (s.find o) (s.find n))).find o=(s.joinK o n MS.like (min (s.find o) (s.find n)) (max (s.find o) (s.find n))).find n
      rw[_05 hm pr sn,_05 hm pr hn]
      show(if s.find o=max (s.find o) (s.find n) then min (s.find o) (s.find n) else s.find o)=if s.find n=max (s.find o) (s.find n) then min (s.find o) (s.find n) else s.find n
      split <;> split <;> (first | lia | omega)
   refine⟨J.snd,J.has,J.known,λm qJ=>?_,J.users⟩
   rcases J.cov m qJ with q | q | q
   ·subst q;exact .inr cn
   ·exact .inr (.inl q)
   ·exact .inr (.inr q)
theorem _ja(nd:cq):(s.newNode nd).size=s.size+1:=by simp[MS.newNode,MS.size]
theorem _4r(hm:MOK T s){nd:cq}{x:Nat}(hx:x<s.size):(s.newNode nd).find x=s.find x:=_1A hm.down x (by rw[hm.len];exact hx)
theorem _jb(hm:MOK T s){nd:cq}:(s.newNode nd).find s.size=s.size:=by
 have:=_48 hm.down
 rw[hm.len] at this
 show bD (s.par++[s.par.length]) s.size=s.size
 rw[hm.len];exact this
theorem _2F(hm:MOK T s){nd:cq}{n:Nat}(hn:n<s.size):(s.newNode nd).canon n=s.canon n:=by
 obtain⟨n0,hn0⟩:∃nd,s.nodes[n]? = some nd:=⟨_,ax hn⟩
 rw[_04 (s:=s.newNode nd) (n:=n) (nd:=n0) (_0j hn0),_04 hn0]
 refine gO rfl (bF λx hx=>?_)
 exact _4r hm (hm.kidLt hn0 hx)
theorem _4s(hm:MOK T s){nd:cq}(hk:∀k∈nd.2,k<s.size):(s.newNode nd).canon s.size=(nd.1,nd.2.map s.find):=by
 rw[_04 (s:=s.newNode nd) (n:=s.size) (nd:=nd) (by show(s.nodes++[nd])[s.nodes.length]? = _;simp)]
 refine gO rfl (bF λx hx=>?_)
 exact _4r hm (hk x hx)
theorem eo.newNode(hm:MOK T s)(h:eo s told (λ_=>False)){nd:cq}(hk:∀k∈nd.2,k<s.size):eo (s.newNode nd) told (λn=>n=s.size):=by
 have eX:=_ja (s:=s) nd
 have hf:∀{x},x<s.size->(s.newNode nd).find x=s.find x:=λhx=>_4r hm hx
 have hfn:(s.newNode nd).find s.size=s.size:=_jb hm
 have rh:∀{x},x<s.size->s.find x<s.size:=λhx=>(hm.findLt hx).1
 refine⟨λi j hi hj e=>?_,λp hp=>?_,λp hp=>?_,λn hn=>?_,λr hr wk n=>?_⟩
 ·rw[eX] at hi hj
  rcases cE.mp hi with hi | hi <;> rcases cE.mp hj with hj | hj
  ·rw[hf hi,hf hj] at e
   exact(h.snd i j hi hj e).mono (λi n q=>_0j q) (λp hp=>hp)
  ·subst hj
   rw[hf hi,hfn] at e
   have:=rh hi;exact(_3g e this).elim
  ·subst hi
   rw[hf hj,hfn] at e
   have:=rh hj;exact(_cp e this).elim
  ·subst hi;subst hj;exact .refl _
 ·obtain⟨h1,h2,h3⟩:=h.has p hp
  rw[eX,hf h1,hf h2]
  exact⟨by exact _18 h1,by exact _18 h2,h3⟩
 ·obtain⟨n,h1,h2,h3,h4⟩:=h.known p hp
  refine⟨n,_0j h1,h2,h3,λi x y hx hy=>?_⟩
  obtain⟨k1,k2⟩:=h4 i x y hx hy
  rw[eX,hf k1,hf (hm.kidLt h1 (aC hy))]
  exact⟨by exact _18 k1,k2⟩
 ·rw[eX] at hn
  rcases cE.mp hn with hn | hn
  ·rcases h.cov n hn with w | w | ⟨o,h1,h2⟩
   ·exact w.elim
   ·exact .inr (.inl w)
   ·refine .inr (.inr ⟨o,?_,?_⟩)
    ·rw[_2F hm hn];exact h1
    ·rw[hf hn,hf (hm.knownlt _ (_S h1))];exact h2
  ·exact .inl hn
 ·rw[eX] at hr
  have hu:(s.newNode nd).usersOf r=if r∈nd.2.map s.find then s.usersOf r++[s.size] else s.usersOf r:=by
   have e1:(s.newNode nd).users=(s.users++[(s.size,[])]).map λ(p:Nat×List Nat)=>(p.1,(λ(a:Nat) (v:List Nat)=>if a∈nd.2.map s.find then v++[s.size] else v) p.1 p.2):=by
    refine bF λp _=>?_
    dsimp only
    split <;> rfl
   have e3:(bz (s.users++[(s.size,[])]) r).getD []=(bz s.users r).getD []/\(bz (s.users++[(s.size,[])]) r).isSome=true:=by
    cases q:bz s.users r with
    | some v=>rw[_4p q];exact⟨rfl,rfl⟩
    | none=>
     rw[_4q q]
     have:r=s.size:=by
      rcases cE.mp hr with hr' | hr'
      ·rw[hf hr'] at wk
       obtain⟨l,hl,_⟩:=hm.user (r:=r) (bH.mpr ⟨aN.mpr (by rw[hm.len];exact hr'),by simpa [MS.find] using wk⟩)
       rw[q] at hl;cases hl
      ·exact hr'
     subst this
     simp[_e,_0e]
   unfold MS.usersOf
   rw[e1,_8k (λ(a:Nat) (v:List Nat)=>if a∈nd.2.map s.find then v++[s.size] else v)]
   obtain⟨v,hv⟩:=Option.isSome_iff_exists.mp e3.2
   have e4:=e3.1
   rw[hv] at e4 ⊢
   rw[gq,Option.getD_some] at *
   rw[<-e4]
  rw[hu]
  rcases cE.mp hr with hr' | hr'
  ·rw[hf hr'] at wk
   have hold:=h.users r hr' wk n
   constructor
   ·intro x
    have x':n∈s.usersOf r\/(r∈nd.2.map s.find/\n=s.size):=by
     split at x
     ·rename_i q
      rcases aK.mp x with x | x
      ·exact .inl x
      ·exact .inr ⟨q,aj.mp x⟩
     ·exact .inl x
    rcases x' with x | ⟨q,rfl⟩
    ·obtain⟨h1,h2⟩:=hold.mp x
     exact⟨by exact _39 eX h1,by rw[_2F hm h1];exact h2⟩
    ·exact⟨by exact _cq eX,by rw[_4s hm hk];exact q⟩
   ·rintro⟨h1,h2⟩
    rw[eX] at h1
    rcases cE.mp h1 with h1 | h1
    ·rw[_2F hm h1] at h2
     have:=hold.mpr ⟨h1,h2⟩
     split
     ·exact a8 _ this
     ·exact this
    ·subst h1
     rw[_4s hm hk] at h2
     rw[if_pos h2]
     exact aT _ (by simp)
  ·subst hr'
   have h_:s.size ∉ nd.2.map s.find:=λq=>by
    obtain⟨x,hx,e⟩:=aq.mp q
    have:=rh (hk x hx);exact(_3g e this).elim
   rw[if_neg h_]
   have xN:s.usersOf s.size=[]:=by
    unfold MS.usersOf
    have:bz s.users s.size=none:=_0L.mpr λq=>by
     have:=hm.keys.mem_iff.mp q
     have:=aN.mp (bH.mp this).1
     rw[hm.len] at this;exact(_5s this).elim
    rw[this];rfl
   rw[xN]
   constructor
   ·intro x;cases x
   ·rintro⟨h1,h2⟩
    rw[eX] at h1
    rcases cE.mp h1 with h1 | h1
    ·rw[_2F hm h1] at h2
     have:=(_j9 hm h1 h2).1;exact(_5s this).elim
    ·subst h1
     rw[_4s hm hk] at h2
     exact absurd h2 h_
theorem eo.add(hm:MOK T s)(h:eo s told (λ_=>False)){n:cq}(hk:∀k∈n.2,k<s.size)(h2:n.2.length<=2)(hs:s.size+1<=200):eo (s.add n) told (λ_=>False):=by
 unfold MS.add
 cases h_:fS s.nodes n with
 | some i=>exact h
 | none=>
  obtain⟨g1,g2⟩:=hm.newNode h_ hk h2 hs
  exact(h.newNode hm hk).look g1 (by simp[MS.newNode,MS.size])
theorem eo.settle(hm:MOK T s)(h:eo s told (λ_=>False)):MOK T s.settle/\eo s.settle told (λ_=>False)/\s.settle.waiting=[]:=
 MS.settle_ind (λs=>eo s told (λ_=>False)) (λs n hm h hw=>by
  obtain⟨g1,g2,g3,g4⟩:=hm.pop hw
  refine eo.look g1 g2 ⟨h.snd,h.has,h.known,λm qJ=>?_,h.users⟩
  rcases h.cov m qJ with q | q | q
  ·exact q.elim
  ·rw[g4] at q
   rcases aK.mp q with q | q
   ·exact .inr (.inl q)
   ·exact .inl (aj.mp q)
  ·exact .inr (.inr q)) s.left s (aD _) hm h
theorem eo.closed(hm:MOK T s)(h:eo s told (λ_=>False))(hw:s.waiting=[]):pQ s.nodes told (λi j=>s.find i=s.find j):=by
 refine⟨⟨λ_=>rfl,λh=>h.symm,λh k=>h.trans k⟩,λp hp=>(h.has p hp).2.2,λi j ni nj hi hj h1 h2 h3=>?_⟩
 have tB:=(az.mp hi).1
 have hjl:=(az.mp hj).1
 have tD:s.canon i=s.canon j:=by
  rw[_04 hi,_04 hj]
  refine gO h1 (d6 λk=>?_)
  rw[aQ,aQ]
  cases q:ni.2[k]? with
  | none=>
   have:nj.2[k]? = none:=by rw[p9] at q ⊢;exact _cr h2 q
   rw[this]
  | some x=>
   have hk:k<nj.2.length:=by rw[<-h2];exact(az.mp q).1
   have q2:nj.2[k]? = some nj.2[k]:=ax hk
   rw[q2]
   exact congrArg some (h3 k x _ q q2)
 have ci:=h.cov i tB
 have cj:=h.cov j hjl
 rw[hw] at ci cj
 rcases ci with q | q | ⟨o,h4,h5⟩
 ·exact q.elim
 ·cases q
 rcases cj with q | q | ⟨o',h6,h7⟩
 ·exact q.elim
 ·cases q
 rw[tD,h6] at h4
 cases h4
 exact h5.symm.trans h7
theorem eo.settled_iff(hm:MOK T s)(h:eo s told (λ_=>False))(hw:s.waiting=[]){i j:Nat}(hi:i<s.size)(hj:j<s.size):s.find i=s.find j ↔ dq s.nodes told i j:=
 ⟨h.snd i j hi hj,λf=>f _ (h.closed hm hw)⟩
end
structure Lab(n:Nat)(f:Nat->Nat):Prop where
 le:∀x,x<n->f x<=x
 idem:∀x,x<n->f (f x)=f x
theorem Lab.lt{n:Nat}{f:Nat->Nat}(h:Lab n f){x:Nat}(hx:x<n):f x<n:=jk (h.le x hx) hx
noncomputable def relab(f:Nat->Nat)(vy pS:Nat):Nat->Nat:=λx=>if f x=pS then vy else f x
theorem Lab.relab{n:Nat}{f:Nat->Nat}(h:Lab n f){a b:Nat}(ha:a<n)(hb:b<n):Lab n (relab f (min (f a) (f b)) (max (f a) (f b))):=by
 have h1:=h.idem a ha
 have h2:=h.idem b hb
 refine⟨λx hx=>?_,λx hx=>?_⟩
 ·unfold Mine.relab
  have:=h.le x hx
  split <;> (first | lia | omega)
 ·unfold Mine.relab
  have h3:=h.idem x hx
  by_cases e:f x=max (f a) (f b)
  ·rw[if_pos e]
   rcases dh (f a) (f b) with q | q
   ·rw[dg q,eB q,h1]
    split <;> rfl
   ·rw[dC q,dK q,h2]
    split <;> rfl
  ·rw[if_neg e,h3,if_neg e]
theorem _jc{n:Nat}{f:Nat->Nat}{a b x y:Nat}:f x=f y->relab f (min (f a) (f b)) (max (f a) (f b)) x=relab f (min (f a) (f b)) (max (f a) (f b)) y:=λh=>by unfold relab;rw[h]
theorem _jd(f:Nat->Nat)(a b:Nat):relab f (min (f a) (f b)) (max (f a) (f b)) a=relab f (min (f a) (f b)) (max (f a) (f b)) b:=by
 unfold relab
 split <;> split <;> (first | lia | omega)
theorem _je{n:Nat}{f:Nat->Nat}{C:Nat->Nat->Prop}(hC:Equivalence C)(h:Lab n f)(hs:∀i j,i<n->j<n->f i=f j->C i j){a b:Nat}(ha:a<n)(hb:b<n)(tF:C a b):
  ∀i j,i<n->j<n->relab f (min (f a) (f b)) (max (f a) (f b)) i=relab f (min (f a) (f b)) (max (f a) (f b)) j->C i j:=by
 have self:∀{i},i<n->C i (f i):=λhi=>hs _ _ hi (h.lt hi) (h.idem _ hi).symm
 have wT:C (f a) (f b):=hC.trans (hC.symm (self ha)) (hC.trans tF (self hb))
 have w_:C (min (f a) (f b)) (max (f a) (f b)):=by
  rcases dh (f a) (f b) with q | q
  ·rw[dg q,eB q];exact wT
  ·rw[dC q,dK q];exact hC.symm wT
 have key:∀{i},i<n->C i (relab f (min (f a) (f b)) (max (f a) (f b)) i):=λ{i} hi=>by
  unfold relab
  split
  ·rename_i e
   have:=self hi
   rw[e] at this
   exact hC.trans this (hC.symm w_)
  ·exact self hi
 intro i j hi hj e
 have h1:=key hi
 rw[e] at h1
 exact hC.trans h1 (hC.symm (key hj))
theorem _8n(t:SetTable)(p:Probe):t.advance p=jp t.mask p:=by
 unfold r_ jp
 split <;> rfl
noncomputable def dS(mask:Nat)(h:Int):Nat->Nat×Nat
 | 0=>(bits h % (mask+1),bits h)
 | m+1=>leap mask (dS mask h m).1 (dS mask h m).2
theorem _1C{mask:Nat}{h:Int}{k i p:Nat}(e:b5 mask h k=lF mask i p):∀r,r<=runEnd mask i-i->b5 mask h (k+r) = {j:=i+r,more:=runEnd mask i-i-r,i,perturb:=p,dummy:=none}
 | 0,_=>e
 | r+1,hr=>by
  have ih:=_1C e r (by exact _cs hr)
  show jp mask (b5 mask h (k+r))=_
  rw[ih]
  unfold jp
  rw[if_pos (by show runEnd mask i-i-r>0;exact _ct hr)]
  rfl
theorem _8o{mask:Nat}{h:Int}{k i p:Nat}(e:b5 mask h k=lF mask i p):b5 mask h (k+(runEnd mask i-i)+1)=lF mask (leap mask i p).1 (leap mask i p).2:=by
 show jp mask (b5 mask h (k+(runEnd mask i-i)))=_
 rw[_1C e _ (aD _)]
 unfold jp
 rw[if_neg (by show ¬(runEnd mask i-i-(runEnd mask i-i)>0);exact _cu)]
 rfl
theorem _8p(mask:Nat)(h:Int):∀m,∃k,k<=10*m/\b5 mask h k=lF mask (dS mask h m).1 (dS mask h m).2
 | 0=>⟨0,aD _,rfl⟩
 | m+1=>by
  obtain⟨k,h1,h2⟩:=_8p mask h m
  refine⟨_,?_,_8o h2⟩
  have:runEnd mask (dS mask h m).1 - (dS mask h m).1<=9:=by unfold runEnd;split <;> (first | exact _cv | exact _cw | (first | lia | omega))
  exact _cx h1 this
noncomputable def rU(mask i:Nat):Nat:=(i*5+1) % (mask+1)
noncomputable def jK(mask:Nat):Nat->Nat->Nat
 | 0,i=>i
 | m+1,i=>jK mask m (rU mask i)
theorem _1D(mask:Nat):∀(m n i:Nat),jK mask (m+n) i=jK mask n (jK mask m i)
 | 0,n,i=>by rw[i6];rfl
 | m+1,n,i=>by
  rw[show m+1+n=(m+n)+1 by exact _cy]
  show jK mask (m+n) (rU mask i)=jK mask n (jK mask m (rU mask i))
  exact _1D mask m n _
noncomputable def pk(mask:Nat):Bool:=(aV (mask+1)).all λi=>(aV (mask+1)).any λm=>jK mask m 0 == i
theorem _jf{mask:Nat}(hm:fY mask):pk mask=true/\jK mask (mask+1) 0=0:=by
 rcases hm with rfl | rfl | rfl <;> exact⟨by decide +kernel,by decide +kernel⟩
theorem _8q{mask:Nat}(hm:fY mask){i j:Nat}(hi:i<=mask)(hj:j<=mask):∃m,m<=mask/\jK mask m i=j:=by
 obtain⟨h1,h2⟩:=_jf hm
 unfold pk at h1
 rw[b_] at h1
 have get:∀{x},x<=mask->∃m,m<=mask/\jK mask m 0=x:=λ{x} hx=>by
  obtain⟨m,hm,e⟩:=nV.mp (h1 x (aN.mpr (by exact _5t hx)))
  exact⟨m,by have:=aN.mp hm;exact _0E this,by simpa using e⟩
 obtain⟨a,ha,ea⟩:=get hi
 obtain⟨b,hb,eb⟩:=get hj
 rcases bX b a with q | q
 ·refine⟨mask+1-a+b,by exact _cz ha q,?_⟩
  rw[<-ea,<-_1D,show a+(mask+1-a+b)=(mask+1)+b by exact _cA ha,_1D,h2,eb]
 ·refine⟨b-a,by exact _cB hb,?_⟩
  rw[<-ea,<-_1D,show a+(b-a)=b by exact _cC q,eb]
theorem _jg(h:Int):bits h < 2 ^ 64:=by unfold bits;(first | lia | omega)
theorem _8r(mask:Nat)(h:Int):∀m,(dS mask h m).2=bits h / 32 ^ m
 | 0=>by show bits h=bits h / 32 ^ 0;rw[Nat.pow_zero,Nat.div_one]
 | m+1=>by
  show(dS mask h m).2 / 32=_
  rw[_8r mask h m,Nat.div_div_eq_div_mul,Nat.pow_succ]
theorem _8s{mask:Nat}(h:Int):∀m,(dS mask h m).1<=mask
 | 0=>eU (kz _ (ga _))
 | m+1=>eU (kz _ (ga _))
theorem _8t{mask:Nat}(h:Int):∀m,(dS mask h (13+m)).1=jK mask m (dS mask h 13).1:=by
 intro m
 induction m with
 | zero=>rfl
 | succ m ih=>
  have hp:(dS mask h (13+m)).2 / 32=0:=by
   rw[_8r]
   have h1:bits h / 32 ^ (13+m)=0:=Nat.div_eq_of_lt (fq (_jg h) (by
    calc 2 ^ 64<=32 ^ 13:=by decide
     _<=32 ^ (13+m):=Nat.pow_le_pow_right (by decide) (by exact _cD)))
   rw[h1]
  have e:(dS mask h (13+(m+1))).1=rU mask (dS mask h (13+m)).1:=by
   show((dS mask h (13+m)).1*5+1+(dS mask h (13+m)).2 / 32) % (mask+1)=_
   rw[hp];rfl
  rw[e,ih,_1D mask m 1]
  rfl
theorem _jh{mask:Nat}(hm:fY mask)(h:Int){j:Nat}(hj:j<=mask):∃k,k<=10*(13+mask)/\(b5 mask h k).j=j:=by
 obtain⟨m,h1,h2⟩:=_8q hm (_8s h 13) hj
 obtain⟨k,h3,h4⟩:=_8p mask h (13+m)
 exact⟨k,by exact _cE h1 h3,by rw[h4];exact(_8t h m).trans h2⟩
theorem _ji{xs:Array Nat}(h:Ris xs)(j:Nat):(∃i:Nat,xs[i]? = some j) ↔ xs[ba xs j]? = some j:=by
 refine⟨λ⟨i,hi⟩=>?_,λe=>⟨_,e⟩⟩
 obtain⟨h1,h2,h3⟩:=_1r h j
 obtain⟨tB,hie⟩:=bA.mp hi
 have e:xs.getD i 0=j:=by simp[dO,tB,hie]
 rcases d7 i (ba xs j) with q | q | q
 ·have:=h2 i q;exact(_3g e this).elim
 ·rw[<-q];exact hi
 ·have a:=h3 _ (aD _) (by exact _20 tB q)
  have b:=h.lt q tB
  exact(_cF e a b).elim
theorem _4t{xs:Array Nat}(h:Ris xs){i k j:Nat}(hi:xs[i]? = some j)(hk:xs[k]? = some j):i=k:=by
 obtain⟨a,ea⟩:=bA.mp hi
 obtain⟨b,eb⟩:=bA.mp hk
 have e1:xs.getD i 0=j:=by simp[dO,a,ea]
 have e2:xs.getD k 0=j:=by simp[dO,b,eb]
 rcases d7 i k with q | q | q
 ·have:=h.lt q b;exact(_cG e1 e2 this).elim
 ·exact q
 ·have:=h.lt q a;exact(_cH e1 e2 this).elim
theorem _4u{t:SetTable}(h:Ris t.place){i j:Nat}(hi:t.place[i]? = some j):t.slot j = .live i:=by
 have e:=(_ji h j).mp ⟨i,hi⟩
 unfold oO
 dsimp only
 rw[e]
 simp only[BEq.rfl,↓reduceIte]
 rw[_4t h e hi]
theorem _jj{t:SetTable}(h:Ris t.place)(hd:t.dummies = #[]){j:Nat}(hj:∀i:Nat,t.place[i]? ≠ some j):t.slot j = .empty:=by
 have e:¬t.place[ba t.place j]? = some j:=hj _
 unfold oO
 dsimp only
 rw[if_neg (by simpa using e),hd]
 rfl
theorem _jk{mask:Nat}{p:Probe}(h:p.dummy=none):(jp mask p).dummy=none:=by
 unfold jp;split <;> exact h
theorem _8u(mask:Nat)(h:Int):∀k,(b5 mask h k).dummy=none
 | 0=>rfl
 | k+1=>_jk (_8u mask h k)
theorem _jl{t:SetTable}{hashAt:Nat->Int}{h:Int}(hr:Ris t.place)(hd:t.dummies = #[]){K:Nat}(hK:∀i:Nat,t.place[i]? ≠ some (b5 t.mask h K).j):
  ∀(n k fuel:Nat),K-k=n->k<=K->K-k<fuel->nC t.mask t.place h K ->
   (∃m i,k<=m/\m<K/\t.place[i]? = some (b5 t.mask h m).j/\hashAt i=h/\(∀m' i',k<=m'->m'<m->t.place[i']? = some (b5 t.mask h m').j->hashAt i'≠h) /\
    probe.go t hashAt h fuel (b5 t.mask h k)=some (.candidate (b5 t.mask h m).j i (b5 t.mask h (m+1)))) \/
   ((∀m' i',k<=m'->m'<K->t.place[i']? = some (b5 t.mask h m').j->hashAt i'≠h)/\probe.go t hashAt h fuel (b5 t.mask h k)=some (.empty (b5 t.mask h K).j none)):=by
 intro n
 induction n with
 | zero=>
  intro k fuel hn hk hf hF
  have:k=K:=by exact _1V hn hk
  subst this
  obtain⟨f,rfl⟩:∃f,fuel=f+1:=⟨fuel - 1,by exact _5u hf⟩
  refine .inr ⟨λm' i' h1 h2=>by exact(_5v h1 h2).elim,?_⟩
  rw[PySem.SetTable.probe.go.eq_2]
  rw[_jj hr hd hK,_8u]
 | succ n ih=>
  intro k fuel hn hk hf hF
  obtain⟨f,rfl⟩:∃f,fuel=f+1:=⟨fuel - 1,by exact _3h hf⟩
  obtain⟨i,hi⟩:=hF k (by exact _1W hn hk)
  have vz:=_4u hr hi
  by_cases e:hashAt i=h
  ·refine .inl ⟨k,i,aD _,by exact _1W hn hk,hi,e,λm' i' h1 h2=>by exact(_5v h1 h2).elim,?_⟩
   rw[PySem.SetTable.probe.go.eq_2]
   rw[vz]
   simp only[e,BEq.rfl,↓reduceIte]
   rw[_8n];rfl
  ·have hgo:probe.go t hashAt h (f+1) (b5 t.mask h k)=probe.go t hashAt h f (b5 t.mask h (k+1)):=by
    rw[probe.go,vz]
    simp only[beq_iff_eq,e,↓reduceIte]
    rw[_8n];rfl
   have first:∀i',t.place[i']? = some (b5 t.mask h k).j->hashAt i'≠h:=λi' lI=>by rw[<-_4t hr hi lI];exact e
   rw[hgo]
   rcases ih (k+1) f (by exact _16 hn) (by exact _5w hn hk) (by exact _5x hn hf) hF with⟨m,i2,h1,h2,h3,h4,h5,h6⟩ | ⟨h1,h2⟩
   ·refine .inl ⟨m,i2,by exact _22 h1,h2,h3,h4,λm' i' q1 q2 q3=>?_,h6⟩
    rcases bX k m' with x | x
    ·exact h5 m' i' x q2 q3
    ·obtain rfl:m'=k:=by exact _5y q1 x
     exact first i' q3
   ·refine .inr ⟨λm' i' q1 q2 q3=>?_,h2⟩
    rcases bX k m' with x | x
    ·exact h1 m' i' x q2 q3
    ·obtain rfl:m'=k:=by exact _5y q1 x
     exact first i' q3
theorem _jm{mask:Nat}{xs:Array Nat}(h:Ris xs)(hs:xs.size<=mask):∃j,j<=mask/\∀i:Nat,xs[i]? ≠ some j:=by
 refine dG λq=>?_
 have rA:∀j,j<=mask->∃i,i<xs.size/\xs.getD i 0=j:=λj hj=>by
  refine dG λq2=>q ⟨j,hj,λi hi=>q2 ⟨i,?_⟩⟩
  obtain⟨a,ea⟩:=bA.mp hi
  exact⟨a,by simp[dO,a,ea]⟩
 have nD:∀j∈aV (mask+1),j∈xs.toList:=λj hj=>by
  obtain⟨i,hi,e⟩:=rA j (by have:=aN.mp hj;exact _0E this)
  rw[<-e]
  simp only[dO,hi,↓reduceDIte]
  exact qb hi
 have:∀{l m:List Nat},l.Nodup->(∀x∈l,x∈m)->l.length<=m.length:=by
  intro l
  induction l with
  | nil=>intro m _ _;exact b0 _
  | cons a l ih=>
   intro m hn hs
   have hn:=bC.mp hn
   have hm:=hs a aE
   have h1:=ih (m:=m.erase a) hn.2 λx hx=>(lj λe=>hn.1 (by rw[<-e];exact hx)).mpr (hs x (aA _ hx))
   rw[dU hm] at h1
   have:=eh hm
   rw[aP];exact _cI h1 this
 have h2:=this ub nD
 rw[aY,aw] at h2
 exact(_5z hs h2).elim
theorem _jn{mask:Nat}(hm:fY mask){xs:Array Nat}(hr:Ris xs)(hs:xs.size<=mask)(h:Int):∃K,K<10*turns mask/\(∀i:Nat,xs[i]? ≠ some (b5 mask h K).j)/\nC mask xs h K:=by
 obtain⟨j,hj,hf⟩:=_jm hr hs
 obtain⟨k,hk,e⟩:=_jh hm h hj
 have:∀n,n<=k->(∃K,K<=n/\(∀i:Nat,xs[i]? ≠ some (b5 mask h K).j)/\nC mask xs h K)\/nC mask xs h (n+1):=by
  intro n
  induction n with
  | zero=>
   intro _
   by_cases q:∃i:Nat,xs[i]? = some (b5 mask h 0).j
   ·refine .inr λm hm=>?_
    obtain rfl:m=0:=by exact _cJ hm
    exact q
   ·exact .inl ⟨0,aD _,λi hi=>q ⟨i,hi⟩,λm hm=>absurd hm (ca _)⟩
  | succ n ih=>
   intro hn
   rcases ih (by exact _22 hn) with⟨K,h1,h2,h3⟩ | hF
   ·exact .inl ⟨K,by exact _3i h1,h2,h3⟩
   ·by_cases q:∃i:Nat,xs[i]? = some (b5 mask h (n+1)).j
    ·refine .inr λm hm=>?_
     rcases bX m (n+1) with x | x
     ·exact hF m x
     ·obtain rfl:m=n+1:=by exact _cK hm x
      exact q
    ·exact .inl ⟨n+1,aD _,λi hi=>q ⟨i,hi⟩,hF⟩
 rcases this k (aD _) with⟨K,h1,h2,h3⟩ | hF
 ·exact⟨K,by unfold turns;exact _cL hk h1,h2,h3⟩
 ·obtain⟨i,hi⟩:=hF k (cD _)
  rw[e] at hi
  exact absurd hi (hf i)
theorem kR.fits{t:SetTable}{hs:List Int}(h:kR t hs){n:Nat}(hn:hs.length=n):t.fits n=true:=by
 unfold tL tM
 rw[h.dum,h.len,hn]
 have:=h.lt
 have:=h.len
 simp only[BEq.rfl,gx,decide_eq_true_eq]
 show n+0<=t.mask
 (first | lia | omega)
section
variable{prog:bS}{w:cy}{A:bB}{E:ae->ah->Prop}{s:ah}
theorem _8v:∀(n:Nat) (a:AV),iZ n a=true->∀{v:ae} {A:bB} {E:ae->ah->Prop} {s:ah} {Q:Bool->ah->Prop} (m:Nat),RV s.heap v a->n<=m->Q false s->wpAny (model prog w) A (ofAClassStatement m v) Q E s:=by
 refine _W (λn i v A E s Q m ⟨t,e⟩ hm h=>?_) (λn x v A E s Q m ⟨t,e⟩ hm h=>?_) λn l hl ih v A E s Q m ⟨a,items,e,t,r⟩ hm h=>?_
 ·rw[e];cases m <;> exact ad h
 ·rw[e];cases m <;> exact ad h
 subst e
 replace t:=t.tup
 have hT:s.TypeIs (.ref a) "tuple" :=by obtain⟨o,ho,hc,_⟩:=t;exact⟨o,ho,hc⟩
 obtain⟨o,ho,hc,k,hd⟩:=t
 obtain⟨m,rfl⟩:∃m',m=m'+1:=⟨m - 1,by exact _5A hm⟩
 unfold PySem.ofAClassStatement
 refine aa (lJ hT ?_)
 dsimp only
 rw[if_pos (by decide)]
 refine aa (ad ?_)
 rw[if_neg (show ¬((!true)=true) by decide)]
 refine aa (mM ho hd ?_)
 dsimp only
 refine aa ?_
 rw[<-i9]
 refine kW _ (λrest r s'=>r.1=none/\s'=s/\∃left,RVs s.heap rest left/\∀a∈left,a∈l) _ ?_ ?_ _ _ ⟨rfl,rfl,l,r,λ_ h=>h⟩
 ·rintro v rest r s' ⟨hr,rfl,left,nF,hk⟩
  cases left with
  | nil=>cases nF
  | cons a' l'=>
   obtain⟨v,r',e,x1,r1⟩:=nF
   injection e with e1 e2
   subst e1;subst e2
   refine aa (ih a' (hk a' aE) m x1 (by exact _5B hm) ?_)
   rw[if_neg aR]
   exact ad ⟨rfl,rfl,_,r1,λb hb=>hk b (aA _ hb)⟩
 ·rintro⟨r1,r2⟩ s' ⟨hr,rfl,_⟩
  simp only at hr
  subst hr
  exact ad h
theorem _jo:∀(n:Nat) (a:AV),iZ n a=true->∀{v:ae} {A:bB} {E:ae->ah->Prop} {s:ah} {Q:Bool->ah->Prop} (m:Nat),RV s.heap v a->n<=m->(∀b,Q b s)->wpAny (model prog w) A (hashByValue m v) Q E s:=by
 refine _W (λn i v A E s Q m ⟨t,e⟩ hm h=>?_) (λn x v A E s Q m ⟨t,e⟩ hm h=>?_) λn l hl ih v A E s Q m ⟨a,items,e,t,r⟩ hm h=>?_
 ·rw[e];cases m <;> exact ad (h _)
 ·rw[e];cases m <;> exact ad (h _)
 subst e
 replace t:=t.tup
 have hT:s.TypeIs (.ref a) "tuple" :=by obtain⟨o,ho,hc,_⟩:=t;exact⟨o,ho,hc⟩
 obtain⟨o,ho,hc,k,hd⟩:=t
 obtain⟨m,rfl⟩:∃m',m=m'+1:=⟨m - 1,by exact _5A hm⟩
 unfold hashByValue
 refine aa (fR hT F.slot_tuple_hash.lookup ?_)
 dsimp only
 refine aa (mM ho hd ?_)
 refine aa ?_
 show wpAny _ _ (forIn items _ _) _ _ s
 rw[<-i9]
 refine kW _ (λrest r s'=>r.1=none/\s'=s/\∃left,RVs s.heap rest left/\∀a∈left,a∈l) _ ?_ ?_ _ _ ⟨rfl,rfl,l,r,λ_ h=>h⟩
 ·rintro v rest r s' ⟨hr,rfl,left,nF,hk⟩
  cases left with
  | nil=>cases nF
  | cons a' l'=>
   obtain⟨v,r',e,x1,r1⟩:=nF
   injection e with e1 e2
   subst e1;subst e2
   refine aa (ih a' (hk a' aE) m x1 (by exact _5B hm) λb=>?_)
   cases b with
   | true=>
    rw[if_neg (show ¬((!true)=true) by decide)]
    exact ad ⟨rfl,rfl,_,r1,λb hb=>hk b (aA _ hb)⟩
   | false=>
    rw[if_pos (show(!false)=true by decide)]
    exact ad (ad (h _))
 ·rintro⟨r1,r2⟩ s' ⟨hr,rfl,_⟩
  simp only at hr
  subst hr
  exact ad (h _)
theorem _jp{k:List AV}{a:ao}{R:List ae}{Q:Bool->ah->Prop}(hk:ja s.heap k a)(hR:∀v∈R,∃k' b,v = .ref b/\ja s.heap k' b)(h:Q false s):wpAny (model prog w) A (searchCouldBeSeen (.ref a) R) Q E s:=by
 unfold searchCouldBeSeen
 refine aa ?_
 refine kW _ (λrest r s'=>r.1=none/\s'=s/\∀v∈rest,v∈R) _ ?_ ?_ _ _ ⟨rfl,rfl,λ_ h=>h⟩
 ·rintro v rest r s' ⟨hr,rfl,nD⟩
  obtain⟨k',b,rfl,fP⟩:=hR v (nD v aE)
  have r8:∀v∈rest,v∈R:=λv hv=>nD v (aA _ hv)
  dsimp only
  split
  ·exact ad ⟨rfl,rfl,r8⟩
  ·refine aa (_3o 8 _ hk.2.tup hk.1 ?_)
   rw[if_neg (show ¬((!true)=true) by decide)]
   refine aa (_3o 8 _ fP.2.tup fP.1 ?_)
   rw[if_neg (show ¬((!true)=true) by decide)]
   refine aa (_8v 8 _ hk.2.tup 8 hk.1 (aD _) ?_)
   rw[if_neg aR]
   refine aa (_8v 8 _ fP.2.tup 8 fP.1 (aD _) ?_)
   rw[if_neg aR]
   exact ad ⟨rfl,rfl,r8⟩
 ·rintro⟨r1,r2⟩ s' ⟨hr,rfl,_⟩
  simp only at hr
  subst hr
  exact ad h
end
theorem _8w{t:SetTable}{hashAt:Nat->Int}{h:Int}{k K:Nat}{r:Option Met}(e:t.probe hashAt h (b5 t.mask h k)=r)(hr:Ris t.place)(hd:t.dummies = #[])(hK:∀i:Nat,t.place[i]? ≠ some (b5 t.mask h K).j)(hF:nC t.mask t.place h K)(hk:k<=K)(hb:K<10*turns t.mask):
  (∃m i,k<=m/\m<K/\t.place[i]? = some (b5 t.mask h m).j/\hashAt i=h/\(∀m' i',k<=m'->m'<m->t.place[i']? = some (b5 t.mask h m').j->hashAt i'≠h)/\r=some (.candidate (b5 t.mask h m).j i (b5 t.mask h (m+1)))) \/
   ((∀m' i',k<=m'->m'<K->t.place[i']? = some (b5 t.mask h m').j->hashAt i'≠h)/\r=some (.empty (b5 t.mask h K).j none)):=by
 subst e
 exact _jl hr hd hK (K-k) k _ rfl hk (by exact _cM hb) hF
theorem _jq{t:SetTable}{hashAt:Nat->Int}{h:Int}{k K:Nat}(e:∀met,t.probe hashAt h (b5 t.mask h k)=some met->False)(hr:Ris t.place)(hd:t.dummies = #[])(hK:∀i:Nat,t.place[i]? ≠ some (b5 t.mask h K).j)(hF:nC t.mask t.place h K)(hk:k<=K)(hb:K<10*turns t.mask):False:=by
 rcases _8w rfl hr hd hK hF hk hb with⟨m,i,h1,h2,h3,h4,h5,h6⟩ | ⟨h1,h2⟩
 ·exact e _ h6
 ·exact e _ h2
section
variable{prog:bS}{w:cy}{A:bB}{E:ae->ah->Prop}{s:ah}
open Classical in
theorem _8x{a:ao}{o:iF}{es:Array (Int×ae)}{ep:Nat}{t:SetTable}{key ki:List AV}{b bi:ao}{jj:Bool}{i j:Nat}{h:Int}{next xW:me uY}{Q:uY->ah->Prop}(hu:A.units+8<cLine)(ho:s.heap.get? a=some o)(hd:o.data = .set es ep t)(oZ:t.fits es.size=true)
  (wv:es[i]? = some (h,.ref bi)) (vF:ja s.heap ki bi) (eL:ja s.heap key b) (hs:t.slot j = .live i) (hy:ki=key->Q (.there (if jj=true then none else some i)) s) (hn:ki≠key->wpAny (model prog w) A next Q E s):wpAny (model prog w) A (do
      let some (_,y):=es[i]? | unsupported "internal:set-entry"
      let equal <-holding [y] (eqBool y (.ref b))
      let(es',_,t') <-setState a
      if jj&&equal then return .there none
      let some same:=t'.sameMemory t.moves t.mask|unsupported "set.changed-during-lookup:is-the-new-block-at-the-old-address"
      let still <-match(if same then t'.slot j else .empty) with
       | .live i'=>match es'[i']? with
        | some (_,y')=>do pure (if <-isSame y' y then some i' else none)
        | none=>pure none
       | _=>pure none
      match still with
      | none=>rule "set.search.anew";xW
      | some i'=>if equal then return .there (some i') else next) Q E s:=by
 rw[wv]
 refine aa (aS ((dT prog w).eqBool hu vF eL (aa (bG ho hd oZ ?_))))
 dsimp only
 rw[show t.sameMemory t.moves t.mask=some true by unfold SetTable.sameMemory;rw[if_pos (BEq.refl _)],hs]
 dsimp only
 rw[if_pos rfl]
 dsimp only
 rw[wv]
 dsimp only
 by_cases e:ki=key
 ·have hy:=hy e
  rw[decide_eq_true e]
  cases jj with
  | true=>exact ad hy
  | false=>exact aa (t6 (aa (ad (ad hy))))
 ·rw[decide_eq_false e,pF]
  exact aa (t6 (aa (ad (hn e))))
theorem _jr{a:ao}{o:iF}{es:Array (Int×ae)}{ep:Nat}{t:SetTable}{l:List (List AV)}{key:List AV}{b:ao}{jj:Bool}{K:Nat}{Q:uY->ah->Prop}
  (hu:A.units+8<cLine) (ho:s.heap.get? a=some o) (hd:o.data = .set es ep t) (hT:kR t (es.toList.map (·.1))) (hE:gm w s.heap es.toList l) (jI:w.params.followText "set-order" = false->t.led=true)
  (eL:ja s.heap key b) (hK:∀i:Nat,t.place[i]? ≠ some (b5 t.mask (dw w 8 (.tup key)) K).j) (hF:nC t.mask t.place (dw w 8 (.tup key)) K) (hb:K<10*turns t.mask)
  (sj:∀i:Nat,l[i]? = some key->Q (.there (if jj=true then none else some i)) s)
  (h_:(∀(m i:Nat),m<K->t.place[i]? = some (b5 t.mask (dw w 8 (.tup key)) m).j->l[i]? ≠ some key)->Q (.free (b5 t.mask (dw w 8 (.tup key)) K).j false) s) :
  ∀(n k fuel:Nat) (ti:Option Probe),ti.getD (t.probeStart (dw w 8 (.tup key)))=b5 t.mask (dw w 8 (.tup key)) k->K-k=n->k<=K->K-k<fuel->(∀(m i:Nat),m<k->t.place[i]? = some (b5 t.mask (dw w 8 (.tup key)) m).j->l[i]? ≠ some key) ->
   wpAny (model prog w) A (setSearchFrom a (.ref b) (dw w 8 (.tup key)) jj fuel ti) Q E s:=by
 have cL:es.size=l.length:=by rw[<-hE.1,aw]
 have oZ:t.fits es.size=true:=hT.fits (by rw[ac,aw])
 have el:∀(i:Nat) k,l[i]? = some k->∃b,es[i]? = some (dw w 8 (.tup k),.ref b)/\ja s.heap k b:=λi k hk=>by
  obtain⟨b,h1,h2⟩:=hE.2 i k hk
  exact⟨b,by rw[<-a0];exact h1,h2⟩
 have sh:∀i:Nat,l[i]? = some key->((es[i]?.map λe:Int×ae=>e.1).getD 0)=dw w 8 (.tup key):=λi hi=>by
  obtain⟨b',hb',_⟩:=el i key hi
  rw[hb'];rfl
 intro n
 induction n using iP with
 | ind n ih=>
  intro k fuel ti hst hn hk hf hinv
  obtain⟨f,rfl⟩:∃f,fuel=f+1:=⟨fuel - 1,by exact _3h hf⟩
  refine aa (bG ho hd oZ ?_)
  dsimp only
  have hgw:t.gaveWay=false:=by
   unfold SetTable.gaveWay
   rcases hT.mask with e | e | e <;> rw[e] <;> rfl
  rw[hgw]
  rw[if_neg aR]
  rw[hst]
  have seen:∀(i:Nat) v,es[i]? = some v->∃k b,v.2 = .ref b/\ja s.heap k b:=λi v hv=>by
   have tB:i<l.length:=by rw[<-cL];exact(bA.mp hv).1
   obtain⟨b,h1,h2⟩:=el i _ (ax tB)
   rw[hv] at h1
   cases h1
   exact⟨_,b,rfl,h2⟩
  split
  ·rename_i met hprobe
   rcases _8w hprobe hT.ris hT.dum hK hF hk hb with⟨m,i,h1,h2,h3,h4,h5,h6⟩ | ⟨h1,h2⟩
   ·obtain rfl:=aB h6
    clear h6
    have tB:i<es.size:=by
     have:=(bA.mp h3).1
     rw[hT.len,ac,aw] at this
     exact this
    obtain⟨ki,hki⟩:∃ki,l[i]? = some ki:=⟨_,ax (by rw[<-cL];exact tB)⟩
    obtain⟨bi,wv,vF⟩:=el i ki hki
    dsimp only
    have go:ki≠key->wpAny (model prog w) A (setSearchFrom a (.ref b) (dw w 8 (.tup key)) jj f (some (b5 t.mask (dw w 8 (.tup key)) (m+1)))) Q E s:=λe=>by
     refine ih (K-(m+1)) (by exact _cN hn h1 h2) (m+1) f (some _) rfl rfl (by exact _cO h2) (by exact _cP hf h1 h2) λm' i' q1 q2 q3=>?_
     rcases bX m' k with x | x
     ·exact hinv m' i' x q2 q3
     ·rcases bX m' m with y | y
      ·exact h5 m' i' x y q2 (sh i' q3)
      ·obtain rfl:m'=m:=by exact _5C q1 y
       rw[_4t hT.ris q2 h3,hki] at q3
       exact e (aB q3)
    split
    ·refine aa (_jp eL (λv hv=>?_) ?_)
     ·obtain⟨x,hx,rfl⟩:=aq.mp hv
      obtain⟨i',lI⟩:=Array.mem_iff_getElem?.mp (Array.mem_filter.mp (Array.mem_toList_iff.mp hx)).1
      obtain⟨k',b',e1,e2⟩:=seen i' x lI
      exact⟨k',b',e1,e2⟩
     ·rw[if_neg aR]
      exact _8x hu ho hd oZ wv vF eL (_4u hT.ris h3) (λe=>sj i (e ▸ hki)) go
    ·exact _8x hu ho hd oZ wv vF eL (_4u hT.ris h3) (λe=>sj i (e ▸ hki)) go
   ·obtain rfl:met = .empty (b5 t.mask (dw w 8 (.tup key)) K).j none:=aB h2
    refine ad (h_ λm i hm hi e=>?_)
    exact(bX m k).elim (λx=>hinv m i x hi e) λx=>h1 m i x hm hi (sh i e)
  ·rename_i hprobe
   exact(_jq hprobe hT.ris hT.dum hK hF hk hb).elim
end
noncomputable def jh{α:Type}(l:List α)(p:Nat)(x:α):List α:=l.take p++x::l.drop p
theorem _1E{α:Type}{l:List α}{p:Nat}{x:α}:(jh l p x).length=l.length+1:=by
 unfold jh
 rw[am,aP,cX,jQ]
 exact _cQ
theorem _1F{α:Type}{l:List α}{p:Nat}{x:α}(hp:p<=l.length)(i:Nat):(jh l p x)[i]? = if i<p then l[i]? else if i=p then some x else l[i-1]?:=by
 have hl:(l.take p).length=p:=by rw[cX];exact _cR hp
 unfold jh
 by_cases h1:i < p
 ·rw[if_pos h1,dM (by exact _N hl h1),qi h1]
 ·rw[if_neg h1,dF (by exact _cS hl h1),hl]
  by_cases h2:i=p
  ·rw[if_pos h2,h2,i7];rfl
  ·rw[if_neg h2]
   obtain⟨r,hr⟩:∃r,i - p=r+1:=⟨i - p - 1,by exact _cT h1 h2⟩
   rw[hr,qF,jf]
   congr 1;exact _cU h1 hr
theorem _js{α:Type}(l:List α)(p:Nat)(x:α):(jh l p x).Perm (x::l):=by
 unfold jh
 have:=cW (a:=x) (l₁:=l.take p) (l₂:=l.drop p)
 rw[kM] at this
 exact this
theorem _8y{p i:Nat}:i=p\/∃i0:Nat,∀{α:Type} {l:List α} {x:α},p<=l.length->(jh l p x)[i]? = l[i0]?:=by
 rcases d7 i p with q | q | q
 ·exact .inr ⟨i,λhp=>by rw[_1F hp,if_pos q]⟩
 ·exact .inl q
 ·exact .inr ⟨i-1,λhp=>by rw[_1F hp,if_neg (by exact _5D q),if_neg (by exact _cV q)]⟩
theorem _2G{α:Type}{l:List α}{p:Nat}{x:α}(hp:p<=l.length):(jh l p x)[p]? = some x:=by
 rw[_1F hp,if_neg (db _),if_pos rfl]
theorem _jt{α:Type}{l:List α}{p:Nat}{x y:α}(hp:p<=l.length){i:Nat}(h:l[i]? = some y):∃i':Nat,(jh l p x)[i']? = some y:=by
 rcases bX i p with q | q
 ·exact⟨i,by rw[_1F hp,if_pos q,h]⟩
 ·exact⟨i+1,by rw[_1F hp,if_neg (by exact _cW q),if_neg (by exact _cX q),mQ,h]⟩
theorem _2H{α:Type}(xs:Array α)(p:Nat)(x:α):(gB xs p x).toList=jh xs.toList p x:=by
 unfold gB jh
 rw[gf,eO,ip,ip,gb,gb,aZ,lq,Nat.sub_zero,kN]
 rw[dE (l:=xs.toList.drop p) (by rw[jQ,aw];exact aD _)]
theorem _8z{α:Type}(xs:Array α)(p:Nat)(x:α)(i:Nat):(gB xs p x)[i]? = (jh xs.toList p x)[i]?:=by
 rw[<-a0,_2H]
theorem kR.put{t:SetTable}{hs:List Int}{h:Int}{K:Nat}(g:kR t hs)(hK:∀i:Nat,t.place[i]? ≠ some (b5 t.mask h K).j)(hF:nC t.mask t.place h K)(hj:(b5 t.mask h K).j<=t.mask)(fO:t.place.size<t.mask):
  (t.put (b5 t.mask h K).j).2<=hs.length/\kR (t.put (b5 t.mask h K).j).1 (jh hs (t.put (b5 t.mask h K).j).2 h)/\(t.put (b5 t.mask h K).j).1.mask=t.mask/\(t.put (b5 t.mask h K).j).1.led=t.led/\(t.put (b5 t.mask h K).j).1.place.size=t.place.size+1:=by
 have hp:=(_1r g.ris (b5 t.mask h K).j).1
 have sm:=_7l g.ris (hK _)
 have e2:(t.put (b5 t.mask h K).j).2=below t.place (b5 t.mask h K).j:=rfl
 have ed:(t.put (b5 t.mask h K).j).1.dummies = #[]:=by
  show(if has t.dummies _=true then _ else t.dummies) = #[]
  rw[g.dum];rfl
 have xm:(t.put (b5 t.mask h K).j).1.place=insertAt t.place (below t.place (b5 t.mask h K).j) (b5 t.mask h K).j:=rfl
 have em:(t.put (b5 t.mask h K).j).1.mask=t.mask:=rfl
 have wL:(t.put (b5 t.mask h K).j).1.led=t.led:=rfl
 rw[e2]
 generalize below t.place (b5 t.mask h K).j=p at *
 generalize (t.put (b5 t.mask h K).j).1=t' at *
 have k_:p<=t.place.toList.length:=by rw[aw];exact hp
 have xy:p<=hs.length:=by rw[<-g.len];exact hp
 have eX:t'.place.size=t.place.size+1:=by rw[xm,<-aw,_2H,_1E,aw]
 have keep:∀{i j:Nat},t.place[i]? = some j->∃i':Nat,t'.place[i']? = some j:=λ{i j} hi=>by
  rw[<-a0] at hi
  obtain⟨i',lI⟩:=_jt (x:=(b5 t.mask h K).j) k_ hi
  exact⟨i',by rw[xm,_8z];exact lI⟩
 have tH:∀{h' k},nC t.mask t.place h' k->nC t.mask t'.place h' k:=λf m hm=>let⟨i,hi⟩:=f m hm;keep hi
 have cases:∀(i j:Nat),t'.place[i]? = some j->(i=p/\j=(b5 t.mask h K).j)\/(∃i0:Nat,t.place[i0]? = some j/\(jh hs p h)[i]? = hs[i0]?):=λi j hi=>by
  rw[xm,_8z] at hi
  rcases _8y (p:=p) (i:=i) with rfl | ⟨i0,q⟩
  ·rw[_2G k_] at hi
   exact .inl ⟨rfl,(aB hi).symm⟩
  ·rw[q k_] at hi
   exact .inr ⟨i0,by rw[<-a0];exact hi,q xy⟩
 have jI:t'.led=t.led:=wL
 refine⟨xy,⟨by rw[em];exact g.mask,by rw[xm];exact sm,ed,by rw[eX,_1E,g.len],λi j hi=>?_,by rw[eX,em];exact fO,λi j h' hi hh=>?_⟩,em,jI,eX⟩
 ·rw[em]
  rcases cases i j hi with⟨_,rfl⟩ | ⟨i0,h1,_⟩
  ·exact hj
  ·exact g.le i0 j h1
 ·rw[em]
  rcases cases i j hi with⟨rfl,rfl⟩ | ⟨i0,h1,h2⟩
  ·rw[_2G xy] at hh
   obtain rfl:=aB hh
   exact⟨K,rfl,tH hF⟩
  ·rw[h2] at hh
   obtain⟨k,k1,k2⟩:=g.reach i0 j h' h1 hh
   exact⟨k,k1,tH k2⟩
noncomputable def l8(mask:Nat)(owner:Array (Option Nat))(h:Int)(k:Nat):Prop:=∀m,m<k->∃i,owner[(b5 mask h m).j]? = some (some i)
theorem _8A{mask:Nat}{h:Int}:∀k,(b5 mask h k).j+(b5 mask h k).more<=mask/\∃m,(b5 mask h k).i=(dS mask h m).1/\(b5 mask h k).perturb=(dS mask h m).2
 | 0=>by
  refine⟨?_,0,rfl,rfl⟩
  have h1:bits h % (mask+1)<=mask:=eU (kz _ (ga _))
  show bits h % (mask+1)+(runEnd mask (bits h % (mask+1))-bits h % (mask+1))<=mask
  unfold runEnd
  split <;> (first | lia | omega)
 | k+1=>by
  obtain⟨h1,m,h2,h3⟩:=_8A (mask:=mask) (h:=h) k
  show(jp mask (b5 mask h k)).j+(jp mask (b5 mask h k)).more<=mask/\_
  generalize hp:b5 mask h k=p at h1 h2 h3
  have hs:b5 mask h (k+1)=jp mask p:=by rw[<-hp];rfl
  rw[hs]
  unfold jp
  split
  ·exact⟨by show p.j+1+(p.more - 1)<=mask;(first | lia | omega),m,h2,h3⟩
  ·have h4:(leap mask p.i p.perturb).1<=mask:=eU (kz _ (ga _))
   refine⟨?_,m+1,?_,?_⟩
   ·show(leap mask p.i p.perturb).1+(runEnd mask (leap mask p.i p.perturb).1-(leap mask p.i p.perturb).1)<=mask
    unfold runEnd
    split <;> (first | lia | omega)
   ·show(leap mask p.i p.perturb).1=_
    rw[h2,h3];rfl
   ·show(leap mask p.i p.perturb).2=_
    rw[h2,h3];rfl
theorem _8B{mask:Nat}{h:Int}(k:Nat):(b5 mask h k).j<=mask:=ay (ii _ _) (_8A k).1
theorem _8C{owner:Array (Option Nat)}{i:Nat}:∀(n:Nat),(∃k,k<n/\(aV n).find? (λk=>(owner.getD (i+k) (some 0)).isNone)=some k/\owner.getD (i+k) (some 0)=none/\∀k',k'<k->(owner.getD (i+k') (some 0)).isNone=false) \/
  ((aV n).find? (λk=>(owner.getD (i+k) (some 0)).isNone)=none/\∀k',k'<n->(owner.getD (i+k') (some 0)).isNone=false):=by
 intro n
 cases q:(aV n).find? (λk=>(owner.getD (i+k) (some 0)).isNone) with
 | none=>
  refine .inr ⟨rfl,λk' fP=>?_⟩
  exact Bool.eq_false_iff.mpr (sV.mp q k' (aN.mpr fP))
 | some k=>
  obtain⟨h1,as,bs,h2,h3⟩:=List.find?_eq_some_iff_append.mp q
  have hk:k<n:=aN.mp (by rw[h2];simp)
  refine .inl ⟨k,hk,rfl,?_,λk' fP=>?_⟩
  ·simpa using h1
  ·have cL:as.length=k:=by
    have e:=congrArg (λl=>l[as.length]?) h2
    simp only[dF (aD _),i7,List.getElem?_cons_zero] at e
    have hl:as.length<n:=by
     have:=congrArg fV h2
     rw[aY,am,aP] at this;exact _cY this
    rw[gh hl] at e
    exact aB e
   have e:=congrArg (λl=>l[k']?) h2
   rw[gh (by exact _20 hk fP),dM (by exact _1X fP cL)] at e
   have:=h3 k' (aC e.symm)
   simpa using this
theorem _8D{owner:Array (Option Nat)}{j:Nat}(hj:j<owner.size)(h:(owner.getD j (some 0)).isNone=false):∃i,owner[j]? = some (some i):=by
 rw[aW hj]
 simp only[dO,hj,↓reduceDIte] at h
 show ∃i,some owner[j]=some (some i)
 cases q:owner[j] with
 | none=>
  have:owner.getInternal j hj=owner[j]:=rfl
  rw[this,q] at h;cases h
 | some i=>exact⟨i,rfl⟩
theorem _8E{owner:Array (Option Nat)}{j:Nat}(h:owner.getD j (some 0)=none):owner[j]? = some none:=by
 rcases bX j owner.size with q | q
 ·rw[aW q]
  simp only[dO,q,↓reduceDIte] at h
  exact congrArg some h
 ·simp only[dO,gJ.mpr q,↓reduceDIte] at h
  cases h
theorem _ju{mask:Nat}{owner:Array (Option Nat)}{h:Int}(hs:owner.size=mask+1){e M:Nat}(he:owner[e]? = some none)(hM:(dS mask h M).1=e):
  ∀(r m fuel k:Nat),M-m=r->m<=M->M-m<fuel->b5 mask h k=lF mask (dS mask h m).1 (dS mask h m).2->l8 mask owner h k ->
   ∃K,layClean.free mask owner fuel (dS mask h m).1 (dS mask h m).2=some (b5 mask h K).j/\owner[(b5 mask h K).j]? = some none/\l8 mask owner h K:=by
 have tn:∀{i p k:Nat},b5 mask h k=lF mask i p->l8 mask owner h k->∀n,n<=runEnd mask i+1-i->(∀k',k'<n->(owner.getD (i+k') (some 0)).isNone=false)->l8 mask owner h (k+n):=λ{i p k} hw hF n hn ht m' qJ=>by
  rcases bX m' k with x | x
  ·exact hF m' x
  ·obtain⟨r,rfl⟩:∃r,m'=k+r:=⟨m' - k,by exact _cZ x⟩
   have hj:(b5 mask h (k+r)).j=i+r:=by rw[_1C hw r (by exact _d0 hn qJ)]
   have iA:=_8B (mask:=mask) (h:=h) (k+r)
   rw[hj] at iA ⊢
   exact _8D (by exact _d1 hs iA) (ht r (by exact _d2 qJ))
 have wA:∀i,i<=runEnd mask i:=λi=>by unfold runEnd;split <;> (first | exact _d3 | exact _d4 | (first | lia | omega))
 intro r
 induction r with
 | zero=>
  intro m fuel k hr hm hf hw hF
  obtain rfl:m=M:=by exact _1V hr hm
  obtain⟨f,rfl⟩:∃f,fuel=f+1:=⟨fuel - 1,by exact _5u hf⟩
  rw[hM] at hw ⊢
  generalize (dS mask h m).2=p at hw ⊢
  unfold ju
  rcases _8C (owner:=owner) (i:=e) (runEnd mask e+1 - e) with⟨k0,h1,h2,h3,h4⟩ | ⟨h1,h2⟩
  ·rw[h2]
   have hj:(b5 mask h (k+k0)).j=e+k0:=by rw[_1C hw k0 (by exact _5E h1)]
   exact⟨k+k0,by rw[hj],by rw[hj];exact _8E h3,tn hw hF k0 (by exact _5F h1) h4⟩
  ·have:=h2 0 (by have:=wA e;exact _d5 this)
   obtain⟨i,hi⟩:=_8D (by have:=(bA.mp he).1;exact _d6 this) this
   rw[nL,he] at hi
   cases hi
 | succ r ih=>
  intro m fuel k hr hm hf hw hF
  obtain⟨f,rfl⟩:∃f,fuel=f+1:=⟨fuel - 1,by exact _3h hf⟩
  have hl:=_8o hw
  unfold ju
  rcases _8C (owner:=owner) (i:=(dS mask h m).1) (runEnd mask (dS mask h m).1+1 - (dS mask h m).1) with⟨k0,h1,h2,h3,h4⟩ | ⟨h1,h2⟩
  ·rw[h2]
   have hj:(b5 mask h (k+k0)).j=(dS mask h m).1+k0:=by rw[_1C hw k0 (by exact _5E h1)]
   exact⟨k+k0,by rw[hj],by rw[hj];exact _8E h3,tn hw hF k0 (by exact _5F h1) h4⟩
  ·rw[h1]
   have qK:=wA (dS mask h m).1
   have hF2:=tn hw hF _ (aD _) h2
   refine ih (m+1) f (k+(runEnd mask (dS mask h m).1-(dS mask h m).1)+1) (by exact _16 hr) (by exact _5w hr hm) (by exact _5x hr hf) hl ?_
   rw[show k+(runEnd mask (dS mask h m).1-(dS mask h m).1)+1=k+(runEnd mask (dS mask h m).1+1-(dS mask h m).1) by exact _d7 qK]
   exact hF2
theorem _jv{mask:Nat}(hm:fY mask){owner:Array (Option Nat)}{h:Int}(hs:owner.size=mask+1){e:Nat}(he:owner[e]? = some none):
  ∃K,layClean.free mask owner (turns mask) (bits h % (mask+1)) (bits h)=some (b5 mask h K).j/\owner[(b5 mask h K).j]? = some none/\l8 mask owner h K:=by
 have tC:e<=mask:=by have:=(bA.mp he).1;exact _d8 hs this
 obtain⟨m,h1,h2⟩:=_8q hm (_8s h 13) tC
 exact _ju hs he ((_8t h m).trans h2) (13+m) 0 (turns mask) 0 rfl (b0 _) (by unfold turns;exact _d9 h1) rfl λm hm=>absurd hm (ca _)
structure gS(mask:Nat)(owner:Array (Option Nat))(hs:List Int):Prop where
 size:owner.size=mask+1
 lt:∀(j i:Nat),owner[j]? = some (some i)->i<hs.length/\∀h,hs[i]? = some h->∃K,(b5 mask h K).j=j/\l8 mask owner h K
 all:∀i,i<hs.length->∃j:Nat,owner[j]? = some (some i)
 one:∀(j j' i:Nat),owner[j]? = some (some i)->owner[j']? = some (some i)->j=j'
theorem gS.free{mask:Nat}{owner:Array (Option Nat)}{hs:List Int}(g:gS mask owner hs)(hl:hs.length<=mask):∃e:Nat,owner[e]? = some none:=by
 refine dG λq=>?_
 have tk:∀j,j<=mask->∃i,owner[j]? = some (some i):=λj hj=>by
  have fO:j<owner.size:=by rw[g.size];exact _5t hj
  cases e:owner[j] with
  | none=>exact absurd ⟨j,by rw[aW fO,e]⟩ q
  | some i=>exact⟨i,by rw[aW fO,e]⟩
 let f:Nat->Nat:=λj=>((owner[j]?).getD none).getD 0
 have hf:∀j,j<=mask->owner[j]? = some (some (f j)):=λj hj=>by
  obtain⟨i,hi⟩:=tk j hj
  show owner[j]? = some (some (((owner[j]?).getD none).getD 0))
  rw[hi];rfl
 have hn:((aV (mask+1)).map f).Nodup:=bo.mpr (List.nodup_range.imp_of_mem λ{a b} ha hb tF e=>tF (g.one a b (f a) (hf a (by have:=aN.mp ha;exact _0E this)) (by rw[e];exact hf b (by have:=aN.mp hb;exact _0E this))))
 have:=_3W hn (m:=aV hs.length) λx hx=>by
  obtain⟨j,hj,rfl⟩:=aq.mp hx
  exact aN.mpr (g.lt j _ (hf j (by have:=aN.mp hj;exact _0E this))).1
 rw[ac,aY,aY] at this
 exact(_5z hl this).elim
theorem gS.step{mask:Nat}{owner:Array (Option Nat)}{hs:List Int}{h:Int}{K:Nat}(g:gS mask owner hs)(h1:owner[(b5 mask h K).j]? = some none)(h2:l8 mask owner h K):gS mask (owner.setIfInBounds (b5 mask h K).j (some hs.length)) (hs++[h]):=by
 have fO:(b5 mask h K).j<owner.size:=(bA.mp h1).1
 have get:∀j,(owner.setIfInBounds (b5 mask h K).j (some hs.length))[j]? = if j=(b5 mask h K).j then some (some hs.length) else owner[j]?:=λj=>by
  rw[Array.getElem?_setIfInBounds]
  by_cases e:j=(b5 mask h K).j
  ·rw[if_pos e,if_pos e.symm,if_pos fO]
  ·rw[if_neg e,if_neg λq=>e q.symm]
 have keep:∀{j i:Nat},owner[j]? = some (some i)->(owner.setIfInBounds (b5 mask h K).j (some hs.length))[j]? = some (some i):=λ{j i} hj=>by
  rw[get,if_neg λe=>by rw[e,h1] at hj;cases hj];exact hj
 have tH:∀{h' k},l8 mask owner h' k->l8 mask (owner.setIfInBounds (b5 mask h K).j (some hs.length)) h' k:=λf m hm=>let⟨i,hi⟩:=f m hm;⟨i,keep hi⟩
 refine⟨by rw[Array.size_setIfInBounds];exact g.size,λj i hj=>?_,λi hi=>?_,λj j' i hj hj'=>?_⟩
 ·rw[get] at hj
  split at hj
  ·rename_i e
   obtain rfl:hs.length=i:=aB (aB hj)
   refine⟨by rw[am];exact cD _,λh' hh=>?_⟩
   rw[dF (aD _),i7] at hh
   obtain rfl:h=h':=aB hh
   exact⟨K,e.symm,tH h2⟩
  ·obtain⟨q1,q2⟩:=g.lt j i hj
   refine⟨by rw[am];exact gV q1,λh' hh=>?_⟩
   rw[dM q1] at hh
   obtain⟨k,k1,k2⟩:=q2 h' hh
   exact⟨k,k1,tH k2⟩
 ·rw[am] at hi
  rcases bX i hs.length with q | q
  ·obtain⟨j,hj⟩:=g.all i q
   exact⟨j,keep hj⟩
  ·have:i=hs.length:=by have:=aF (a:=h);exact _da hi q this
   exact⟨_,by rw[get,if_pos rfl,this]⟩
 ·have old:∀{j:Nat},owner[j]? = some (some hs.length)->False:=λhj=>db _ (g.lt _ _ hj).1
  rw[get] at hj hj'
  split at hj <;> split at hj'
  ·rename_i e e';rw[e,e']
  ·obtain rfl:=aB (aB hj)
   exact(old hj').elim
  ·obtain rfl:=aB (aB hj')
   exact(old hj).elim
  ·exact g.one j j' i hj hj'
theorem gS.nil(mask:Nat):gS mask (oM (mask+1) none) []:=by
 have vu:∀(j i:Nat),(oM (mask+1) (none:Option Nat))[j]? ≠ some (some i):=λj i e=>by
  rw[Array.getElem?_replicate] at e
  split at e <;> cases e
 exact⟨Array.size_replicate,λj i hj=>absurd hj (vu j i),λi hi=>absurd hi (ca _),λj j' i hj=>absurd hj (vu j i)⟩
noncomputable def nO(mask:Nat)(bV:Option (Array (Option Nat)×Nat))(h:Int):Option (Array (Option Nat)×Nat):=do
  let(owner,k) <-bV
  let j <-layClean.free mask owner (turns mask) (bits h % (mask+1)) (bits h)
  pure (owner.setIfInBounds j (some k),k+1)
theorem _8F{mask:Nat}(hm:fY mask):∀(rest hs:List Int) (owner:Array (Option Nat)),gS mask owner hs->hs.length+rest.length<=mask->∃owner',rest.foldl (nO mask) (some (owner,hs.length))=some (owner',hs.length+rest.length)/\gS mask owner' (hs++rest)
 | [],hs,owner,g,_=>⟨owner,rfl,by rw[bh];exact g⟩
 | h::rest,hs,owner,g,hl=>by
  rw[aP] at hl
  obtain⟨e,he⟩:=g.free (by exact _db hl)
  obtain⟨K,h1,h2,h3⟩:=_jv hm (h:=h) g.size he
  have g':=g.step h2 h3
  obtain⟨owner',q1,q2⟩:=_8F hm rest (hs++[h]) _ g' (by rw[am,aF];exact _dc hl)
  refine⟨owner',?_,by rw[aZ] at q2;exact q2⟩
  rw[List.foldl_cons]
  have es:nO mask (some (owner,hs.length)) h=some (owner.setIfInBounds (b5 mask h K).j (some hs.length),hs.length+1):=by
   unfold nO
   simp only[rL,Option.bind_some,h1]
   rfl
  rw[es]
  rw[am,aF] at q1
  rw[q1,aP]
  congr 2;exact _5G
noncomputable def fc(mask:Nat)(owner:Array (Option Nat)):List (Nat×Nat):=(aV (mask+1)).filterMap λj=>(owner.getD j none).map (j,·)
theorem _0w{mask:Nat}{owner:Array (Option Nat)}(hs:owner.size=mask+1){j i:Nat}:(j,i)∈fc mask owner ↔ owner[j]? = some (some i):=by
 unfold fc
 rw[mq]
 have gd:∀j,owner.getD j none=(owner[j]?).getD none:=λj=>by
  rw[dB]
 constructor
 ·rintro⟨j',hj,e⟩
  rw[gd] at e
  cases q:owner[j']? with
  | none=>rw[q] at e;cases e
  | some o=>
   rw[q] at e
   cases o with
   | none=>cases e
   | some i'=>cases e;exact q
 ·intro e
  refine⟨j,aN.mpr ?_,?_⟩
  ·have:=(bA.mp e).1;exact _dd hs this
  ·rw[gd,e];rfl
theorem _8G(mask:Nat)(owner:Array (Option Nat)):(fc mask owner).Pairwise λa b=>a.1<b.1:=by
 unfold fc
 refine qE.mpr (List.pairwise_lt_range.imp λ{a b} tF x hx y hy=>?_)
 obtain⟨_,_,rfl⟩:=bt.mp hx
 obtain⟨_,_,rfl⟩:=bt.mp hy
 exact tF
section
variable{mask:Nat}{owner:Array (Option Nat)}{hs:List Int}
theorem gS.perm(g:gS mask owner hs):((fc mask owner).map (·.2)).Perm (aV hs.length):=by
 have hn:((fc mask owner).map (·.2)).Nodup:=bo.mpr ((_8G mask owner).imp_of_mem λ{a b} ha hb tF e=>by
  have h1:=(_0w g.size).mp ha
  have h2:=(_0w g.size).mp hb
  rw[<-e] at h2
  have:=g.one a.1 b.1 a.2 h1 h2
  exact(_de tF this).elim)
 refine(eE hn ub).mpr λi=>?_
 rw[aq,aN]
 constructor
 ·rintro⟨⟨j,i⟩,h,rfl⟩
  exact(g.lt j i ((_0w g.size).mp h)).1
 ·intro hi
  obtain⟨j,hj⟩:=g.all i hi
  exact⟨(j,i),(_0w g.size).mpr hj,rfl⟩
theorem gS.table(g:gS mask owner hs)(hm:fY mask)(hl:hs.length<=mask)(finger moves:Nat)(led plain:Bool):
  kR {mask,place:=((fc mask owner).map (·.1)).toArray,dummies:=#[],finger,led,moves,plain} ((fc mask owner).map λp=>hs.getD p.2 0):=by
 have cL:(fc mask owner).length=hs.length:=by
  have:=g.perm.length_eq
  rw[ac,aY] at this
  exact this
 have sw:∀(i j:Nat),((fc mask owner).map (·.1)).toArray[i]? = some j->∃k,(fc mask owner)[i]? = some (j,k):=λi j e=>by
  rw[kO,aQ] at e
  obtain⟨⟨j',k⟩,h1,rfl⟩:=bt.mp e
  exact⟨k,h1⟩
 refine⟨hm,?_,rfl,?_,λi j e=>?_,?_,λi j h e hh=>?_⟩
 ·show Ris ((fc mask owner).map (·.1)).toArray
  unfold Ris
  exact bo.mpr (_8G mask owner)
 ·show((fc mask owner).map (·.1)).toArray.size=_
  rw[gP,ac,ac]
 ·obtain⟨k,hk⟩:=sw i j e
  have:=(bA.mp ((_0w g.size).mp (aC hk))).1
  rw[g.size] at this
  exact eU this
 ·show((fc mask owner).map (·.1)).toArray.size<=mask
  rw[gP,ac,cL];exact hl
 ·obtain⟨k,hk⟩:=sw i j e
  rw[aQ,hk] at hh
  have ho:=(_0w g.size).mp (aC hk)
  obtain⟨q1,q2⟩:=g.lt j k ho
  have hh':hs[k]? = some h:=by
   have:hs.getD k 0=h:=aB hh
   rw[ax q1]
   rw[bc,ax q1] at this
   exact congrArg some this
  obtain⟨K,k1,k2⟩:=q2 h hh'
  refine⟨K,k1,λm hm=>?_⟩
  obtain⟨i',lI⟩:=k2 m hm
  obtain⟨x,hx⟩:=rO.mp ((_0w g.size).mpr lI)
  refine⟨x,?_⟩
  show((fc mask owner).map (·.1)).toArray[x]? = _
  rw[kO,aQ,hx];rfl
end
theorem _jw{mask:Nat}(hm:fY mask)(finger moves:Nat)(led plain:Bool)(kx:Array Int)(hl:kx.size<=mask):
  ∃t order,oP mask finger moves led plain kx=some (t,order)/\order.toList.Perm (aV kx.size)/\kR t (order.toList.map λi=>kx.toList.getD i 0)/\t.mask=mask/\t.led=led/\t.place.size=kx.size:=by
 obtain⟨owner,h1,h2⟩:=_8F hm kx.toList [] _ (.nil mask) (by simpa using hl)
 rw[List.nil_append] at h2
 have e:layClean mask kx=some owner:=by
  unfold layClean
  rw[<-Array.foldl_toList]
  show(kx.toList.foldl (nO mask) (some (oM (mask+1) none,0))).map (·.1)=_
  rw[show(0:Nat)=([]:List Int).length from rfl,h1];rfl
 refine⟨_,_,by unfold oP;rw[e];rfl,?_,?_,rfl,rfl,?_⟩
 ·show((fc mask owner).map (·.2)).toArray.toList.Perm _
  have:=h2.perm
  rw[aw] at this
  exact this
 ·have:=h2.table hm (by rw[aw];exact hl) finger moves led plain
  show kR _ (((fc mask owner).map (·.2)).toArray.toList.map _)
  rw[bf]
  exact this
 ·show((fc mask owner).map (·.1)).toArray.size=_
  have h3:=h2.perm.length_eq
  rw[ac,aY,aw] at h3
  rw[gP,ac]
  exact h3
theorem _1G{α:Type}{l:List α}:∀{order:List Nat},(∀i∈order,i<l.length)->(order.filterMap λi=>l[i]?).length=order.length/\∀k:Nat,(order.filterMap λi=>l[i]?)[k]? = order[k]?.bind λi=>l[i]?
 | [],_=>⟨rfl,λk=>rfl⟩
 | i::order,h=>by
  obtain⟨h1,h2⟩:=_1G (l:=l) (order:=order) λj hj=>h j (aA _ hj)
  obtain⟨x,hx⟩:∃x,l[i]? = some x:=⟨_,ax (h i aE)⟩
  rw[dI,hx]
  refine⟨congrArg (· + 1) h1,λk=>?_⟩
  cases k with
  | zero=>show some x=l[i]?;rw[hx]
  | succ k=>exact h2 k
theorem _jx{α:Type}(l:List α):(aV l.length).filterMap (λi=>l[i]?)=l:=by
 obtain⟨h1,h2⟩:=_1G (l:=l) (order:=aV l.length) λi hi=>aN.mp hi
 refine d6 λk=>?_
 rw[h2]
 rcases bX k l.length with q | q
 ·rw[gh q];rfl
 ·rw[da (by rw[aY];exact q),da q];rfl
theorem _8H{α:Type}{l:List α}{order:List Nat}(h:order.Perm (aV l.length)):(order.filterMap λi=>l[i]?).Perm l:=by
 have:=h.filterMap λi=>l[i]?
 rw[_jx] at this
 exact this
theorem kR.plainOff{t:SetTable}{hs:List Int}(h:kR t hs):kR {t with plain:=false} hs:=⟨h.mask,h.ris,h.dum,h.len,h.le,h.lt,h.reach⟩
theorem gm.ins{w:cy}{h:a_}{es:List (Int×ae)}{l:List (List AV)}{key:List AV}{b:ao}{p:Nat}(e:gm w h es l)(hk:ja h key b)(hp:p<=l.length):gm w h (jh es p (dw w 8 (.tup key),.ref b)) (jh l p key):=by
 refine⟨by rw[_1E,_1E,e.1],λi k hi=>?_⟩
 rcases _8y (p:=p) (i:=i) with rfl | ⟨i0,q⟩
 ·rw[_2G hp] at hi
  obtain rfl:=aB hi
  exact⟨b,_2G (by rw[e.1];exact hp),hk⟩
 ·rw[q hp] at hi
  obtain⟨b',h1,h2⟩:=e.2 i0 k hi
  exact⟨b',by rw[q (by rw[e.1];exact hp)];exact h1,h2⟩
theorem gm.reorder{w:cy}{h:a_}{es:List (Int×ae)}{l:List (List AV)}{order:List Nat}(e:gm w h es l)(ho:order.Perm (aV l.length)):gm w h (order.filterMap λi=>es[i]?) (order.filterMap λi=>l[i]?):=by
 have fO:∀i∈order,i<l.length:=λi hi=>aN.mp (ho.mem_iff.mp hi)
 obtain⟨a1,a2⟩:=_1G fO
 obtain⟨b1,b2⟩:=_1G (l:=es) (order:=order) λi hi=>by rw[e.1];exact fO i hi
 refine⟨by rw[a1,b1],λk x hx=>?_⟩
 rw[a2] at hx
 rw[b2]
 cases q:order[k]? with
 | none=>rw[q] at hx;cases hx
 | some i=>
  rw[q] at hx
  obtain⟨b,h1,h2⟩:=e.2 i x hx
  exact⟨b,h1,h2⟩
theorem _jy{h h':a_}{d:ao}{o:iF}{es ep t}(ho:h.get? d=some o)(hd:o.data = .set es ep t)(hs:bu d h h'):de h h':=by
 intro a o' ho' hl
 have gK:a≠d:=by
  rintro rfl
  obtain rfl:o'=o:=aB (ho'.symm.trans ho)
  rcases hl with⟨_,_,_,q⟩ | ⟨_,_,q⟩ <;> (rw[hd] at q;exact nomatch q)
 exact(hs.2 a gK).trans ho'
section
variable{prog:bS}{w:cy}{A:bB}{E:ae->ah->Prop}{s:ah}
theorem _jz{a:ao}{o:iF}{es:Array (Int×ae)}{ep:Nat}{t:SetTable}{l:List (List AV)}{key:List AV}{b:ao}{jj:Bool}{Q:uY->ah->Prop}
  (hu:A.units+8<cLine) (ho:s.heap.get? a=some o) (hd:o.data = .set es ep t) (hT:kR t (es.toList.map (·.1))) (hE:gm w s.heap es.toList l) (jI:w.params.followText "set-order" = false->t.led=true)
  (eL:ja s.heap key b) (sj:∀i:Nat,l[i]? = some key->Q (.there (if jj=true then none else some i)) s)
  (h_:key ∉ l->∀K,(∀i:Nat,t.place[i]? ≠ some (b5 t.mask (dw w 8 (.tup key)) K).j)->nC t.mask t.place (dw w 8 (.tup key)) K->Q (.free (b5 t.mask (dw w 8 (.tup key)) K).j false) s) :
  wpAny (model prog w) A (setSearch a (.ref b) (dw w 8 (.tup key)) jj) Q E s:=by
 obtain⟨K,h1,h2,h3⟩:=_jn hT.mask hT.ris hT.lt (dw w 8 (.tup key))
 have hm:t.mask<=127:=by rcases hT.mask with e | e | e <;> (first | exact _df e | exact _dg e | exact _dh e | (first | lia | omega))
 unfold setSearch
 refine _jr (K:=K) hu ho hd hT hE jI eL h2 h3 h1 sj (λhq=>h_ (λhmem=>?_) K h2 h3) K 0 100000 none rfl rfl (b0 _) (by unfold turns at h1;exact _di h1 hm) λm i hm=>absurd hm (ca _)
 obtain⟨i,hi⟩:=rO.mp hmem
 obtain⟨b',e1,e2⟩:=hE.2 i key hi
 have hh:(es.toList.map (·.1))[i]? = some (dw w 8 (.tup key)):=by rw[aQ,e1];rfl
 obtain⟨j,hj⟩:∃j,t.place[i]? = some j:=⟨_,aW (by rw[hT.len];exact(az.mp hh).1)⟩
 obtain⟨k,k1,k2⟩:=hT.reach i j _ hj hh
 rcases d7 k K with q | q | q
 ·exact hq k i q (by rw[k1];exact hj) hi
 ·subst q;exact h2 i (by rw[k1];exact hj)
 ·obtain⟨i',lI⟩:=k2 K q
  exact h2 i' lI
theorem _8I{a:ao}{o:iF}{es:Array (Int×ae)}{ep:Nat}{t:SetTable}{es':Array (Int×ae)}{t':SetTable}{l:List (List AV)}{Q:Unit->ah->Prop}(ho:s.heap.get? a=some o)(ss:o.ExactSet)(hd:o.data = .set es ep t)
  (hE:gm w s.heap es'.toList l) (hb:l.length<1000)
  (h:∀h' o',bu a s.heap h'->de s.heap h'->h'.get? a=some o'->o'.ExactSet->o'.data = .set es' (ep+1) t'->gm w h' es'.toList l->Q () {s with heap:=h'}):wpAny (model prog w) A (o4 a es' t') Q E s:=by
 have eX:es'.size=l.length:=by rw[<-hE.1,aw]
 have sk:=bn s.heap a (tN es' t')
 have g:=_jy ho hd sk
 have wQ:=bR (tN es' t') ho (by rw[sM es' t' hd];rfl)
 rw[sM es' t' hd] at wQ
 exact wpAny_storeSet_of ho hd (h _ {o with data:=.set es' (ep+1) t'} sk g wQ ss rfl (hE.grow g)) (by rw[eX,cY];exact _dj hb)
theorem _8J:sizeAbove (grown 5)-1=31/\¬sizeAbove (grown 5)>b8:=⟨by decide +kernel,by rw[cY];decide +kernel⟩
theorem _8K:sizeAbove (grown 19)-1=127/\¬sizeAbove (grown 19)>b8:=⟨by decide +kernel,by rw[cY];decide +kernel⟩
theorem _jA{a:ao}{o:iF}{es:Array (Int×ae)}{ep:Nat}{t:SetTable}{l:List (List AV)}{n:Nat}{Q:Unit->ah->Prop}(ho:s.heap.get? a=some o)(ss:o.ExactSet)(hd:o.data = .set es ep t)
  (hE:gm w s.heap es.toList l) (hT:kR t (es.toList.map (·.1))) (hJ:l.Nodup) (jI:w.params.followText "set-order" = false->t.led=true) (hn:l.length=n) (h5:n=5\/n=19)
  (h:∀h' l',bu a s.heap h'->nB prog w h' a l'->l'.Perm l->Q () {s with heap:=h'}):wpAny (model prog w) A (setRelay a (grown n)) Q E s:=by
 have eX:es.size=n:=by rw[<-aw,hE.1,hn]
 have oZ:t.fits es.size=true:=hT.fits (by rw[ac,aw])
 obtain⟨M,hM,e1,e2,e3⟩:∃M,fY M/\sizeAbove (grown n) - 1=M/\¬sizeAbove (grown n) > b8/\n*5 < M*3:=by
  rcases h5 with rfl | rfl
  ·exact⟨31,.inr (.inl rfl),_8J.1,_8J.2,by decide⟩
  ·exact⟨127,.inr (.inr rfl),_8K.1,_8K.2,by decide⟩
 obtain⟨t2,order,q1,q2,q3,q4,q5,q6⟩:=_jw hM t.finger (t.movedTo M) t.led t.plain (es.map (·.1)) (by rw[vi,eX];exact _dk e3)
 rw[vi] at q2 q6
 unfold setRelay
 refine aa (bG ho hd oZ ?_)
 dsimp only
 rw[if_neg e2]
 have er:t.relaid (es.map (·.1)) (grown n)=some (t2,order):=by unfold sB;rw[e1];exact q1
 rw[er]
 have hp:order.toList.Perm (aV es.toList.length):=by rw[aw];exact q2
 have k_:order.toList.Perm (aV l.length):=by rw[<-hE.1];exact hp
 have wU:(order.filterMap (es[·]?)).toList=order.toList.filterMap λi=>es.toList[i]?:=by
  rw[Array.toList_filterMap]
  refine congrArg (λf=>List.filterMap f order.toList) (funext λi=>a0.symm)
 have hsz2:(order.filterMap (es[·]?)).size=es.size:=by
  rw[<-aw,wU,(_8H hp).length_eq,aw]
 show wpAny (model prog w) A (do
   let(es,t) <-(do
    let es':=order.filterMap (es[·]?)
    if es'.size != es.size then unsupported "internal:set-table-lost-an-element"
    pure (es',t2):me (Array (Int×ae)×SetTable))
   o4 a es t) Q E s
 dsimp only
 rw[hsz2,bne_self_eq_false]
 rw[if_neg aR]
 refine aa (aa (ad (ad ?_)))
 dsimp only
 have hE2:=hE.reorder k_
 rw[<-wU] at hE2
 have js:=_8H k_
 refine _8I ho ss hd hE2 (by rw[js.length_eq,hn];rcases h5 with rfl | rfl <;> decide) λh' o' a1 a2 a3 a4 a5 a6=>h h' _ a1 ⟨o',_,_,t2,a3,a4,a5,?_,a6,js.nodup_iff.mpr hJ,λx=>q5.trans (jI x),?_,?_⟩ js
 ·rw[wU]
  have:(order.toList.filterMap λi=>es.toList[i]?).map (·.1)=order.toList.map λi=>(es.map (·.1)).toList.getD i 0:=by
   refine d6 λk=>?_
   rw[aQ,aQ,(_1G λi hi=>aN.mp (hp.mem_iff.mp hi)).2]
   cases q:order.toList[k]? with
   | none=>rfl
   | some i=>
    have hi:i<es.toList.length:=aN.mp (hp.mem_iff.mp (aC q))
    show Option.map (·.1) (es.toList[i]?)=some ((es.map (·.1)).toList.getD i 0)
    rw[tW,bc,aQ,ax hi]
    rfl
  rw[this]
  exact q3
 ·rw[js.length_eq,hn];rcases h5 with rfl | rfl <;> decide
 ·rw[q6,q4,eX];exact e3
end
section
variable{prog:bS}{w:cy}{A:bB}{E:ae->ah->Prop}{s:ah}
open Classical in
theorem _jB{a:ao}{l:List (List AV)}{key:List AV}{b:ao}{Q:Bool->ah->Prop}(hu:A.units+8<cLine)(hS:nB prog w s.heap a l)(eL:ja s.heap key b)(hb:l.length+1<70)
  (h:∀h' l' r,bu a s.heap h'->nB prog w h' a l'->l'.Perm (if key∈l then l else key::l)->Q r {s with heap:=h'}) :
  wpAny (model prog w) A (o5 a (.ref b) (dw w 8 (.tup key))) Q E s:=by
 have xR:=hS
 obtain⟨o,es,ep,t,ho,ss,hd,hT,hE,hJ,jI,h70,hroom⟩:=hS
 have eX:es.size=l.length:=by rw[<-hE.1,aw]
 have oZ:t.fits es.size=true:=hT.fits (by rw[ac,aw])
 have k_:t.place.size=l.length:=by rw[hT.len,ac,hE.1]
 unfold o5 setAddHashedIn
 refine aS (aa (bG ho hd oZ ?_))
 dsimp only
 rw[show byScan (.ref b) es=false from rfl]
 rw[if_neg aR]
 refine aa (_jz hu ho hd hT hE jI eL (λi hi=>?_) λhnk K hK hF=>?_)
 ·dsimp only
  refine ad ?_
  have:=h s.heap l false (qa a s.heap) xR (by rw[if_pos (aC hi)])
  exact this
 ·dsimp only
  refine aa (bG ho hd oZ ?_)
  have hj:=_8B (mask:=t.mask) (h:=dw w 8 (.tup key)) K
  have fO:t.place.size<t.mask:=by exact _dl hroom k_
  obtain⟨p1,p2,p3,p4,p5⟩:=hT.put hK hF hj fO
  dsimp only
  generalize t.put (b5 t.mask (dw w 8 (.tup key)) K).j=tp at p1 p2 p3 p4 p5 ⊢
  obtain⟨t1,p⟩:=tp
  dsimp only at p1 p2 p3 p4 p5 ⊢
  rw[ac,hE.1] at p1
  have hE1:=hE.ins eL p1
  rw[<-_2H] at hE1
  have hh:(insertAt es p (dw w 8 (.tup key),.ref b)).toList.map (·.1)=jh (es.toList.map (·.1)) p (dw w 8 (.tup key)):=by
   rw[_2H]
   unfold jh
   rw[aM,aJ,qg,List.map_drop]
  have js:=_js l p key
  have px:(jh l p key).length=l.length+1:=_1E
  have wH:(jh l p key).Nodup:=js.nodup_iff.mpr (bC.mpr ⟨hnk,hJ⟩)
  have fin:∀h' l',bu a s.heap h'->nB prog w h' a l'->l'.Perm (jh l p key)->∀r,Q r {s with heap:=h'}:=λh' l' e1 e2 e3 r=>h h' l' r e1 e2 (by rw[if_neg hnk];exact e3.trans js)
  have tail:∀t2:SetTable,kR t2 ((insertAt es p (dw w 8 (.tup key),.ref b)).toList.map (·.1))->t2.mask=t.mask->t2.led=t.led->t2.place.size=t.place.size+1->wpAny (model prog w) A (do
    o4 a (insertAt es p (dw w 8 (.tup key),.ref b)) t2
    if(!false&&t2.tooFull)=true then do
      setRelay a (fG (es.size+1))
      pure true
     else pure true) Q E s:=λt2 g1 g2 g3 g4=>by
   refine aa (_8I ho ss hd hE1 (by exact _dm hb px) λh' o' a1 a2 a3 a4 a5 a6=>?_)
   have wR:t2.tooFull=decide (t2.place.size*5>=t2.mask*3):=by
    unfold SetTable.tooFull tM
    rw[g1.dum];rfl
   split
   ·rename_i hc
    have rq:t2.place.size*5>=t2.mask*3:=by
     rw[wR] at hc
     simpa using hc
    rw[g2,g4,k_] at rq
    have hn:l.length+1=5\/l.length+1=19:=by
     rw[k_] at hroom
     rcases hT.mask with e | e | e <;> rw[e] at hroom rq <;> (first | exact _dn hb hroom eX k_ p5 px g4 rq | exact _do hb hroom eX k_ p5 px g4 rq | exact _dp hb eX k_ p5 px g4 rq | (first | lia | omega))
    rw[eX]
    refine aa (_jA (s:={s with heap:=h'}) a3 a4 a5 a6 g1 wH (λx=>g3.trans (jI x)) px hn λh'' l'' c1 c2 c3=>?_)
    exact ad (fin h'' l'' (a1.trans c1) c2 c3 true)
   ·rename_i hc
    have rq:¬t2.place.size*5>=t2.mask*3:=by
     rw[wR] at hc
     simpa using hc
    exact ad (fin h' _ a1 ⟨o',_,_,t2,a3,a4,a5,g1,a6,wH,λx=>g3.trans (jI x),by exact _dq hb px,by exact _dr rq⟩ (.refl _) true)
  rw[<-hh] at p2
  split
  ·refine aa (_jo 8 _ eL.2.tup 8 eL.1 (aD _) λr=>?_)
   cases r with
   | true=>exact tail t1 p2 p3 p4 p5
   | false=>exact tail _ p2.plainOff p3 p4 p5
  ·refine aa (ad ?_)
   exact tail t1 p2 p3 p4 p5
theorem _jC{h:a_}{a:ao}(e:h.get? a=some (fZ w)):nB prog w h a []:=
 ⟨_,#[],0,_,e,⟨rfl,rfl,rfl⟩,rfl,⟨.inl rfl,.nil,rfl,rfl,λi j hi=>by simp[sS] at hi,b0 _,λi j h hi=>by simp[sS] at hi⟩,⟨rfl,λi k hi=>by simp at hi⟩,.nil,λq=>by show(!_)=true;rw[q];rfl,by decide,(by show 0*5<7*3;decide)⟩
end
noncomputable def jn(ns:List (List AV)):List AV:=ns.map .tup
theorem nB.move{prog:bS}{w:cy}{h h':a_}{a:ao}{l:List (List AV)}(g:de h h')(e:∀o,h.get? a=some o->h'.get? a=some o)(x:nB prog w h a l):nB prog w h' a l:=Holds.move (prog:=prog) (c:=.setT l) g e x
section
variable{prog:bS}{w:cy}{A:bB}{E:ae->ah->Prop}{s:ah}
theorem _jD{l:ao}{items:Array ae}{ns:List (List AV)}{Q:ae->ah->Prop}
  (hh:A.handled=none) (hu:A.units+64<cLine) (hl:s.heap.IsList l items) (hi:RVs s.heap items.toList (jn ns)) (hk:∀k∈ns,d_ k) (hb:ns.length<70)
  (h:∀(h':a_) (tk:Nat) (l':List (List AV)),nB prog w h' s.heap.objs.size l'->(∀x,x∈l' ↔ x∈ns) ->
   (∀b o,s.heap.get? b=some o->h'.get? b=some o)->Q (.ref s.heap.objs.size) {s with heap:=h',toks:=tk}) :
  wpAny (model prog w) A (call (.type "set") [.ref l]) Q E s:=by
 have cL:items.size=ns.length:=by rw[<-aw,hi.length];exact ac _
 refine _7t (n:=items.size) (PV:=λP=>P=λi v=>items[i]? = some v) (J:=λi h'=>(∀b o,s.heap.get? b=some o->h'.get? b=some o)/\∃l',nB prog w h' s.heap.objs.size l'/\(∀x,x∈l' ↔ x∈ns.take i)/\l'.length<=i) hh hl.typeIs F.sub_list_set tV (by decide) (_7s hl rfl)
  (λh' k=>⟨λb o e=>k _ _ (aG _ e),[],_jC (k _ _ (aH _ rfl)),λx=>by simp,aD _⟩)
  (λi I h1 h2 hI ho hl k ⟨h0,l',hS,r⟩=>⟨λb o e=>k _ _ (ho b o e) (h0 b o e),l',hS.move (λb o ho fO=>k _ _ (λe=>hl o (e ▸ ho) fO) ho) λo ho=>k _ _ (kL hI) ho,r⟩)
  (λi v P A' s' Q' E' hA pv hv ⟨h0,l',hS,hm,wo⟩ k=>?_) λh' tk ⟨_,l',hS,hm,_⟩ k=>h h' tk l' hS (λx=>by rw[hm,cL,bT]) k
 subst pv
 replace hv:items[i]? = some v:=hv
 have fO:i<ns.length:=by
  rw[<-cL]
  rcases bX i items.size with q | q
  ·exact q
  ·rw[ef q] at hv;cases hv
 have hr:=hi.get i
 rw[a0,hv,jn,aQ,ax fO] at hr
 obtain⟨b,rfl,vF⟩:=_0f (hk _ (bO fO)) (show RV s.heap v (.tup ns[i]) from hr)
 have xc:ns[i]? = some ns[i]:=ax fO
 generalize ns[i]=k0 at xc vF
 have eL:ja s'.heap k0 b:=⟨vF.1.grow (_f h0),vF.2⟩
 have hu2:A'.units+8 < cLine:=by(first | lia | omega)
 unfold setAdd
 refine aS ?_
 refine aa (_65 8 _ eL.2.tup eL.1 hu2 ?_)
 classical
 refine _jB (s:={s' with toks:=s'.toks+j8 8 (.tup k0)}) hu2 hS eL (by(first | lia | omega)) λh' l2 r sk hS2 qG=>k h' _ r sk ⟨λb o e=>(sk.2 b (bQ (bM e))).trans (h0 b o e),l2,hS2,λx=>?_,?_⟩ (ii _ _)
 ·rw[qG.mem_iff,_7u xc,<-hm]
  split
  ·rename_i q;exact⟨.inl,λy=>y.elim id λe=>e ▸ q⟩
  ·rw[aO,Or.comm]
 ·rw[qG.length_eq]
  split
  ·(first | lia | omega)
  ·rw[aP];(first | lia | omega)
end
section
variable{c:Cx}{d:Nat}{σ:af}{Q:AV->af->Prop}{A:bB}{E:ae->ah->Prop}{s:ah}{Fz:Fzn}
theorem _8L{l:ao}{ns:List (List AV)}(e:σ l=some (.list (jn ns)))(hk:∀k∈ns,d_ k)(hz:ns.length<70)(h:∀(m:ao) (ms:List (List AV)),ms.Nodup->(∀x,x∈ms ↔ x∈ns)->σ m=none->Q (.ref m) (σ.set m (.setT ms))):br c d (.raw (.type "set")) [.ref l] σ Q:=by
 refine _6 [.b _,.r _] λA Fz s P E G kk=>?_
 obtain⟨its,n,hl,ri⟩:=_k G.st e
 exact _jD G.room.hn G.room.data hl.isList ri hk hz λh' tk l' hS hp k=>kk.new (G.st.new (c:=.setT l') (a:=s.heap.objs.size) (_a _) k hS) λm=>h m l' (by obtain⟨_,_,_,_,_,B⟩:=hS;exact B.nd) hp
theorem _8M{l:ao}{ns:List (List AV)}(e:σ l=some (.setT ns))(h:Q (.int ns.length) σ):br c d (.raw (.builtin "len")) [.ref l] σ Q:=by
 refine _6 [.b _,.r _] λA Fz s P E G kk=>?_
 obtain⟨so,es,ep,t,ho,B⟩:=show nB c.prog c.w s.heap l ns from G.st.cell _ _ e
 have eX:es.size=ns.length:=by rw[<-B.el.1,aw]
 exact PySem.call_len_set ho B.ex B.dat (B.tab.fits (by rw[ac,aw])) (by have:=B.few;rw[eX];(first | lia | omega)) (kk.same G (av:=.int ns.length) (by rw[eX];exact .int _ _) h)
end
section
variable{n:Nat}{f:Nat->Int}{p:Array Nat}{α β:Type}
noncomputable def Tr(n:Nat)(f:Nat->Int):KasT α->(α->Prop)->Prop
 | .ret a,Q=>Q a
 | .ask i j k,Q=>(i < n/\j < n)/\Tr n f (k (decide (f i < f j))) Q
theorem _8N{cmp:Nat->Nat->(Bool->ah->Prop)->ah->Prop}{G:α->ah->Prop}{s:ah}{Q:α->Prop}(hc:∀i j,i<n->j<n->∀C,C (decide (f i<f j)) s->cmp i j C s)(hG:∀a,Q a->G a s):∀t:KasT α,Tr n f t Q->t.kasWp cmp G s
 | .ret a,h=>hG a h
 | .ask i j k,h=>hc i j h.1.1 h.1.2 _ (_8N hc hG (k _) h.2)
theorem _0X{g:α->KasT β}{Q:β->Prop}:∀{t:KasT α},Tr n f t (λa=>Tr n f (g a) Q)->Tr n f (t.bind g) Q
 | .ret _,h=>h
 | .ask _ _ k,h=>⟨h.1,_0X (t:=k _) h.2⟩
theorem _1H{i j:Nat}{k:Bool->KasT α}{Q:α->Prop}(jN:i<n/\j<n)(h1:f i<f j->Tr n f (k true) Q)(h2:f j<=f i->Tr n f (k false) Q):Tr n f (.ask i j k) Q:=by
 refine⟨jN,?_⟩
 by_cases q:f i < f j
 ·rw[decide_eq_true q];exact h1 q
 ·rw[decide_eq_false q];exact h2 (Int.not_lt.mp q)
theorem _0Y{c:Prop}[Decidable c]{t u:KasT α}{Q:α->Prop}(h1:c->Tr n f t Q)(h2:¬c->Tr n f u Q):Tr n f (if c then t else u) Q:=by
 by_cases q:c
 ·rw[if_pos q];exact h1 q
 ·rw[if_neg q];exact h2 q
noncomputable def Rk(f:Nat->Int)(p:Array Nat)(k:Nat):Int:=f (p.getD k 0)
noncomputable def Pm(n:Nat)(p:Array Nat):Prop:=0<n/\p.toList.Perm (aV n)
theorem Pm.size(h:Pm n p):p.size=n:=h.2.length_eq.trans aY
theorem Pm.lt(h:Pm n p)(k:Nat):p.getD k 0<n:=by
 unfold dO
 split
 ·exact aN.mp (h.2.mem_iff.mp (qb _))
 ·exact h.1
theorem Pm.lts(h:Pm n p){i j:Nat}:p.getD i 0<n/\p.getD j 0<n:=⟨h.lt i,h.lt j⟩
theorem Pm.turn(h:Pm n p){q:Array Nat}(e:q.Perm p):Pm n q:=⟨h.1,(Array.perm_iff_toList_perm.mp e).trans h.2⟩
theorem Pm.rev(h:Pm n p){i j:Nat}:Pm n (kas_rev p i j):=h.turn (mirror_perm _ _ _ _)
noncomputable def Asc(f:Nat->Int)(p:Array Nat)(n:Nat):Prop:=∀i j,i<=j->j<n->Rk f p i<=Rk f p j
noncomputable def Dsc(f:Nat->Int)(p:Array Nat)(n:Nat):Prop:=∀i j,i<=j->j<n->Rk f p j<=Rk f p i
theorem _8O{R:Int->Int->Prop}(rf:∀a,R a a)(tr:∀{a b c},R a b->R b c->R a c){g:Nat->Int}{n:Nat}(h:∀i j,i<=j->j<n->R (g i) (g j))(q:R (g (n-1)) (g n)):∀i j,i<=j->j<n+1->R (g i) (g j):=λi j jN hj=>by
 rcases bX j n with x | x
 ·exact h i j jN x
 ·rcases bX i j with y | y
  ·have e:j=n:=fD (eU hj) x
   rw[e] at y ⊢
   exact tr (h i (n-1) (sF y) (sD y)) q
  ·rw[fD jN y];exact rf _
theorem Asc.more{n:Nat}(h:Asc f p n)(q:Rk f p (n-1)<=Rk f p n):Asc f p (n+1):=_8O (R:=λa b=>a<=b) iC ge h q
theorem Dsc.more{n:Nat}(h:Dsc f p n)(q:Rk f p n<=Rk f p (n-1)):Dsc f p (n+1):=_8O (R:=λa b=>b<=a) iC (λx y=>ge y x) h q
theorem Asc.one{n:Nat}(h:n<=1):Asc f p n:=λi j jN hj=>by
 rw[show i=j by exact _ds h jN hj]
 exact iC _
theorem Dsc.same{q:Array Nat}{n:Nat}(h:Dsc f p n)(e:∀k,Rk f q k=Rk f p k):Dsc f q n:=λi j a b=>by rw[e,e];exact h i j a b
theorem _1I{q:Array Nat}{i j:Nat}(e:q[i]? = p[j]?):Rk f q i=Rk f p j:=by unfold Rk;rw[dB,dB,e]
theorem _4v{i j:Nat}(hj:j<=p.size)(k:Nat):Rk f (kas_rev p i j) k=if i<=k/\k<j then Rk f p (i+j-1-k) else Rk f p k:=by
 have e:=getElem?_mirror_all (i:=i) hj k
 split at e
 ·rename_i q;rw[if_pos q];exact _1I e
 ·rename_i q;rw[if_neg q];exact _1I e
theorem _4w{i j:Nat}(hj:j<=p.size)(h:∀k,i<=k->k<j->Rk f p k=Rk f p (j-1))(k:Nat):Rk f (kas_rev p i j) k=Rk f p k:=by
 rw[_4v hj]
 split
 ·rename_i q
  rw[h _ (by exact _dt q.2) (by exact _du q.1 q.2),h k q.1 q.2]
 ·rfl
theorem _8P{jl l:Nat}(hs:jl<p.size)(hd:l<=jl)(k:Nat):Rk f (bubble p jl (jl-l)) k=if k=l then Rk f p jl else if l<k/\k<=jl then Rk f p (k-1) else Rk f p k:=by
 have e:=getElem?_bubble hs (jl-l) (Nat.sub_le _ _) k
 rw[Nat.sub_sub_self hd] at e
 split at e
 ·rename_i q;rw[if_pos q];exact _1I e
 ·rename_i q
  rw[if_neg q]
  split at e
  ·rename_i q2;rw[if_pos q2];exact _1I e
  ·rename_i q2;rw[if_neg q2];exact _1I e
theorem _4x{Q:Nat->Prop}(B:Pm n p){r:Nat}:∀(g m:Nat),m+g=r->1<=m->Asc f p m->(∀k,m<=k->k<=r->Asc f p k->(k=r\/Rk f p k<Rk f p (k-1))->Q k)->Tr n f (kas_asc p g m) Q
 | 0,m,e,_,hs,h=>h m (aD _) (cm e) hs (.inl e)
 | g+1,m,e,h1,hs,h=>_1H B.lts (λq=>h m (aD _) (by exact _5H e) hs (.inr q)) λq=>_4x B g (m+1) (by exact _19 e) (by exact _0G h1) (hs.more q) λk a=>h k (bN a)
noncomputable def oq(f:Nat->Int)(p:Array Nat)(m e:Nat):Prop:=e+1<=m/\∀i,m-(e+1)<=i->i<m->Rk f p i=Rk f p (m-1)
theorem oq.zero{m:Nat}(h:1<=m):oq f p m 0:=⟨h,λi a b=>by rw[show i=m-1 by exact _dv a b]⟩
theorem oq.more{m e:Nat}(h:oq f p m e)(q:Rk f p m=Rk f p (m-1)):oq f p (m+1) (e+1):=⟨cC h.1,λi a b=>by
 rw[mQ]
 rcases bX i m with y | y
 ·rw[h.2 i (by exact _dw a) y,q]
 ·rw[show i=m by exact _5C b y]⟩
theorem _2I{Q:Array Nat×Nat×Nat->Prop}{r:Nat}(hr:r<=n):∀(g:Nat) (p:Array Nat) (m e:Nat),Pm n p->m+g=r->1<=m->Dsc f p m->oq f p m e->(∀p' k e',Pm n p'->m<=k->k<=r->Dsc f p' k->oq f p' k e'->Q (p',k,e'))->Tr n f (kas_desc g p m e) Q
 | 0,p,m,e,B,x,_,hs,ha,h=>h p m e B (aD _) (cm x) hs ha
 | g+1,p,m,e,B,x,h1,hs,ha,h=>_1H B.lts (λq=>_0Y (c:=e > 0)
   (λ_=>_2I hr g _ (m+1) 0 B.rev (by exact _19 x) (by exact _0G h1) ((hs.more (ez q)).same (_4w (by rw[B.size];exact _dx hr x) ha.2)) (.zero (by exact _0G h1)) λp' k e' b a=>h p' k e' b (bN a))
   λ_=>_2I hr g p (m+1) 0 B (by exact _19 x) (by exact _0G h1) (hs.more (ez q)) (.zero (by exact _0G h1)) λp' k e' b a=>h p' k e' b (bN a))
  λq=>_1H B.lts (λ_=>h p m e B (aD _) (by exact _5H x) hs ha) λq2=>_2I hr g p (m+1) (e+1) B (by exact _19 x) (by exact _0G h1) (hs.more q2) (ha.more (kP q2 q)) λp' k e' b a=>h p' k e' b (bN a)
noncomputable def Run(n:Nat)(f:Nat->Int)(Q:Nat×Array Nat->Prop):Prop:=∀k p',Pm n p'->1<=k->k<=n->Asc f p' k->Q (k,p')
theorem _8Q{Q:Nat×Array Nat->Prop}{m:Nat}(B:Pm n p)(h1:1<=m)(hm:m<=n)(hs:Dsc f p m)(h:Run n f Q):Tr n f (kas_tail3 m n p) Q:=by
 have hz:m<=p.size:=by rw[B.size];exact hm
 refine _0X (_4x B.rev _ m (iW hm) h1 (λi j jN hj=>?_) λk a b c _=>h k _ B.rev (ay h1 a) b c)
 rw[_4v hz,_4v hz,if_pos ⟨b0 _,jk jN hj⟩,if_pos ⟨b0 _,hj⟩]
 exact hs _ _ (by exact _dy jN) (by exact _dz hj)
theorem _8R{Q:Nat×Array Nat->Prop}{m:Nat}(B:Pm n p)(hm:m+1<=n)(hs:Dsc f p (m+1))(h:Run n f Q):Tr n f (kas_descPart m n p) Q:=
 _0X (_2I (aD n) _ p (m+1) 0 B (iW hm) (by exact _5I) hs (.zero (by exact _5I)) λp' k e b a c d al=>_0Y
  (λ_=>_8Q (m:=k) b.rev (ay (fE 1 m) a) c (d.same (_4w (by rw[b.size];exact c) al.2)) h) λ_=>_8Q (m:=k) b (ay (fE 1 m) a) c d h)
theorem _jE{Q:Nat×Array Nat->Prop}(B:Pm n p)(h:Run n f Q):Tr n f (kas_count n p) Q:=by
 have h0:=B.1
 refine _0X (_4x B _ 1 (iW h0) (aD 1) (.one (aD 1)) λm m1 m2 hs hor=>_0Y (λ_=>h m p B m1 m2 hs) λne=>?_)
 have lt:=hor.resolve_left λe=>ne (beq_iff_eq.mpr e)
 have hm:m<n:=mP m2 λe=>ne (beq_iff_eq.mpr e)
 refine _0Y (λq=>_1H B.lts (λ_=>h m p B m1 m2 hs) λq2=>?_) λq=>?_
 ·have all:∀i,0<=i->i<m->Rk f p i=Rk f p (m-1):=λi _ hi=>kP (hs i (m-1) (by exact _dA hi) (by exact _dB q)) (ge q2 (hs 0 i (b0 _) hi))
  have hd:Dsc f p m:=λi j jN hj=>by rw[all i (b0 _) (by exact _dC jN hj),all j (b0 _) hj];exact iC _
  exact _8R B.rev hm ((hd.more (ez lt)).same (_4w (by rw[B.size];exact m2) all)) h
 ·have e:m=1:=by exact _dD m1 q
  subst e
  exact _8R B hm ((show Dsc f p 1 from λi j jN hj=>by rw[show i=j by exact _dE jN hj];exact iC _).more (ez lt)) h
theorem _4y{Q:Nat->Prop}{k:Nat}(B:Pm n p)(hx:Asc f p k):∀(g l r:Nat),l<=r->r<=k->r-l<=g->(∀i,i<l->Rk f p i<=Rk f p k)->(∀i,r<=i->i<k->Rk f p k<Rk f p i) ->
  (∀l,l<=k->(∀i,i<l->Rk f p i<=Rk f p k)->(∀i,l<=i->i<k->Rk f p k<Rk f p i)->Q l)->Tr n f (kas_place p k g l r) Q
 | 0,l,r,a,b,c,lo,hi,h=>h l (by exact _3j a b) lo λi x=>hi i (by exact _dF c x)
 | g+1,l,r,a,b,c,lo,hi,h=>_0Y (λq=>h l (by exact _3j a b) lo λi x=>hi i (by exact _3j q x)) λq=>_1H B.lts
   (λq2=>_4y B hx g l ((l+r) / 2) (by exact _dG q) (by exact _dH b q) (by exact _5c c) lo (λi x y=>tU q2 (hx _ _ x y)) h)
   λq2=>_4y B hx g ((l+r) / 2+1) r (by exact _dI q) b (by exact _5a c) (λi x=>ge (hx i ((l+r) / 2) (by exact _5b x) (by exact _dJ b q)) q2) hi h
theorem _8S{Q:Array Nat->Prop}(h:∀p',Pm n p'->Asc f p' n->Q p'):∀(g:Nat) (p:Array Nat) (k:Nat),Pm n p->k+g=n->Asc f p k->Tr n f (kas_bin g p k) Q
 | 0,p,k,B,e,hs=>h p B (e ▸ hs)
 | g+1,p,k,B,e,hx=>_0X (_4y B hx k 0 k (b0 _) (aD _) (aD _) (λi a=>absurd a (ca _)) (λi a b=>absurd a (oI b)) λl hl hlo hhi=>
  _8S h g _ (k+1) (B.turn (bubble_perm _ _ _)) (by exact _19 e) λi j jN hj=>by
   have hz:k<p.size:=by rw[B.size];exact _dK e
   rw[_8P hz hl,_8P hz hl]
   by_cases i1:i=l
   ·rw[if_pos i1]
    by_cases j1:j=l
    ·rw[if_pos j1];exact iC _
    ·rw[if_neg j1,if_pos (by exact⟨(_dL jN i1 j1),(_5J hj)⟩)]
     exact ez (hhi _ (by exact _dM jN i1 j1) (by exact _dN jN hj i1 j1))
   ·rw[if_neg i1]
    by_cases i2:l < i/\i<=k
    ·rw[if_pos i2,if_neg (by exact _dO jN i2.1),if_pos (by exact⟨(_dP jN i2.1),(_5J hj)⟩)]
     exact hx _ _ (by exact _dQ jN) (by exact _dR hj i2.1 i2.2)
    ·rw[if_neg i2]
     by_cases j1:j=l
     ·rw[if_pos j1];exact hlo i (by exact _dS jN i1 j1)
     ·rw[if_neg j1]
      by_cases j2:l < j/\j<=k
      ·rw[if_pos j2];exact hx _ _ (by exact _dT e jN hj i2 j1 j2) (by exact _dU j2.1 j2.2)
      ·rw[if_neg j2];exact hx _ _ jN (by exact _dV e hl hj j1 j2))
theorem _jF{Q:Array Nat->Prop}(h0:0<n)(h:∀p',Pm n p'->Asc f p' n->Q p'):Tr n f (kas_sort n) Q:=
 _0X (_jE ⟨h0,.refl _⟩ λk p' B k1 kn hs=>_0Y (λq=>_8S h _ p' _ B (by rw[dK k1];exact iW kn) (by rw[dK k1];exact hs)) λq=>h p' B (fD kn (dD q) ▸ hs))
end
section
variable{c:Cx}{d:Nat}{σ:af}{Q:AV->af->Prop}{A:bB}{E:ae->ah->Prop}{s:ah}{Fz:Fzn}
theorem _jG(hr:lH A d){n m:Nat}(h:m<=8):A.units+1+min n m<cLine:=by
 have:=hr.un
 have:min n m<=8:=by exact _dW h
 (first | lia | omega)
open Classical in
theorem _jH{D:oK}{Ds:List oK}(hl:∀D∈Ds,kqdOk 8 D=true)(hd:kqdOk 8 D=true):((kqdPs Ds).any λy=>sb y (kqdP D))=decide (D∈Ds):=by
 by_cases hq:D∈Ds
 ·rw[decide_eq_true hq];exact(kqd_any Ds D hl hd).mpr hq
 ·rw[decide_eq_false hq];exact Bool.eq_false_iff.mpr λz=>hq ((kqd_any Ds D hl hd).mp z)
open Classical in
theorem _jI{l:ao}{xs:List AV}{x:AV}{D:oK}{Ds:List oK}(e:σ l=some (.list xs))(hl:kS σ xs Ds)(hx:Den σ x D)(ho:∀D∈Ds,kqdOk 8 D=true)(hd:kqdOk 8 D=true)(h:Q (.bool (!decide (D∈Ds))) σ):eQ c d .NotIn x (.ref l) σ Q:=by
 refine _6 [.x _,.r _] λA Fz s P E G kk v rv=>?_
 obtain⟨as,ha⟩:=_H G.st (.list Ds) (.list e hl) (RV.ref l)
 obtain⟨bs,hb'⟩:=_H G.st D hx rv
 exact SeqAt.notIn_list_reads ha hb' (kqd_layL ho).1 (kqd_lay 8 D hd).1 (_jG G.room (kqd_lay 8 D hd).2) (by rw[_jH ho hd];exact kk.same G (RV.bool _) h)
end
section
variable{c:Cx}{d:Nat}{σ:af}{Q:AV->af->Prop}{N:Nms}{T:Nat}
theorem _8T{l:List Nat}{ms ns:List Int}(h0:ms.Nodup)(h1:∀x,x∈ms ↔ x∈l.map λ(n:Nat)=>(n:Int))(h2:ns.Perm ms)(h3:ns.Pairwise (· <= ·)){r:List Nat}(hr:r.Pairwise (· < ·))(hm:∀n,n∈r ↔ n∈l):ns=r.map λ(n:Nat)=>(n:Int):=by
 have hJ:ns.Nodup:=h2.nodup_iff.mpr h0
 have hrs:(r.map λ(n:Nat)=>(n:Int)).Pairwise (· < ·):=bo.mpr (hr.imp λq=>by exact _5h q)
 have hrn:(r.map λ(n:Nat)=>(n:Int)).Nodup:=hrs.imp λq e=>by exact _dZ q e
 have hpp:ns.Perm (r.map λ(n:Nat)=>(n:Int)):=by
  refine(eE hJ hrn).mpr λx=>?_
  rw[h2.mem_iff,h1]
  simp only[aq]
  constructor
  ·rintro⟨n,hn,rfl⟩;exact⟨n,(hm n).mpr hn,rfl⟩
  ·rintro⟨n,hn,rfl⟩;exact⟨n,(hm n).mp hn,rfl⟩
 exact hpp.eq_of_pairwise (le:=λa b=>a<=b) (λa b _ _ h h'=>kP h h') h3 (hrs.imp λq=>ez q)
end
noncomputable def gl(L:List Nat)(x:Nat):Nat:=L.getD x 0
theorem _4z{L:List Nat}{x:Nat}(h:x<L.length):gl L x=L[x]:=by
 unfold gl;rw[bc,ax h];rfl
theorem _2J{L:List Nat}{x y:Nat}(h:L[x]? = some y):gl L x=y:=by
 unfold gl;rw[bc,h];rfl
noncomputable def cO(L:List Nat)(a b:Nat):List Nat:=L.map λone=>if one=max (gl L a) (gl L b) then min (gl L a) (gl L b) else one
theorem _0Z(L:List Nat)(a b:Nat):(cO L a b).length=L.length:=by simp[cO]
theorem _T{L:List Nat}{a b x:Nat}(h:x<L.length):gl (cO L a b) x=relab (gl L) (min (gl L a) (gl L b)) (max (gl L a) (gl L b)) x:=by
 rw[_4z (by rw[_0Z];exact h)]
 unfold cO relab
 rw[fX,_4z h]
theorem _8U{L:List Nat}{a b:Nat}(h:gl L a=gl L b):cO L a b=L:=by
 unfold cO
 rw[h]
 simp only[Nat.max_self,rM]
 refine(bF (g:=id) λx _=>?_).trans (lp _)
 split
 ·rename_i e;exact e.symm
 ·rfl
section
variable{T:Nat}{s:MS}
theorem _jJ(s:MS)(a b:Nat)(r:AV):(s.join a b r).size=s.size/\(s.join a b r).nodes=s.nodes/\(s.join a b r).known=s.known:=by
 unfold MS.join
 split <;> exact⟨rfl,rfl,rfl⟩
theorem _8V(s:MS)(n:Nat):(s.look n).nodes=s.nodes:=(MS.look_size s n).2
theorem _jK(hm:MOK T s):s.settle.nodes=s.nodes:=
 (MS.settle_ind (λx=>x.nodes=s.nodes) (λx n _ h _=>(_8V _ _).trans h) s.left s (aD _) hm rfl).2.1
variable{xq:List cq}{told:List (Nat×Nat)}
end
theorem _U(n:Nat)(s:String):kqdOk n (.str (ab s))=true:=by cases n <;> exact _0H _
theorem _jL(n:Nat)(i:Int):kqdOk n (.int i)=true:=by cases n <;> rfl
theorem _06{n:Nat}{l:List oK}(h:∀x∈l,kqdOk n x=true):kqdOk (n+1) (.tuple l)=true:=b_.mpr h
theorem _0k{n:Nat}{l:List oK}(h:∀x∈l,kqdOk n x=true):kqdOk (n+1) (.list l)=true:=b_.mpr h
theorem _r{n:Nat}{a:oK}{l:List oK}(h:kqdOk n a=true)(k:∀x∈l,kqdOk n x=true):∀x∈a::l,kqdOk n x=true:=List.forall_mem_cons.mpr ⟨h,k⟩
theorem _07{n:Nat}:∀x∈([]:List oK),kqdOk n x=true:=nofun
noncomputable def qU(l:List Nat):List oK:=l.map λ(n:Nat)=>Dat.int (n:Int)
theorem _2K(n:Nat)(l:List Nat):∀x∈qU l,kqdOk n x=true:=λx hx=>by
 obtain⟨t,_,rfl⟩:=aq.mp hx
 exact _jL _ _
theorem _1J{σ:af}:∀l:List Nat,kS σ (b9 l) (qU l)
 | []=>.nil
 | n::l=>.cons (.int _) (_1J l)
theorem _8W:∀{l m:List Nat},qU l=qU m->l=m
 | [],[],_=>rfl
 | [],_::_,h=>by simp[qU] at h
 | _::_,[],h=>by simp[qU] at h
 | a::l,b::m,h=>by
  simp only[qU,aJ,mR,Dat.int.injEq] at h
  rw[_8W (l:=l) (m:=m) h.2,show a=b by(first | lia | omega)]
theorem _1K{σ:af}{α:Type}{f:α->AV}{g:α->oK}(h:∀x,Den σ (f x) (g x)):∀l:List α,kS σ (l.map f) (l.map g)
 | []=>.nil
 | a::l=>.cons (h a) (_1K h l)
theorem _jM{α β:Type}{g:α->β}(hg:∀{a b},g a=g b->a=b){x:α}{l:List α}:g x∈l.map g ↔ x∈l:=by
 rw[aq]
 exact⟨λ⟨y,hy,e⟩=>hg e ▸ hy,λh=>⟨x,h,rfl⟩⟩
theorem _8X{α:Type}{f:α->AV}{xs:List α}{i:Nat}{x:AV}(h:(xs.map f)[i]? = some x):∃y,xs[i]? = some y/\x=f y:=by
 rw[aQ] at h
 obtain⟨e,h1,h2⟩:=bt.mp h
 exact⟨e,h1,h2.symm⟩
theorem _jN{a:Int}{m:Nat}(hm:1<=m):∃r:Nat,r<m/\a.fmod (m:Int)=(r:Int):=by
 have h1:=Int.fmod_nonneg_of_pos a (show(0:Int)<m by exact _5K hm)
 have h2:=Int.fmod_lt_of_pos a (show(0:Int)<m by exact _5K hm)
 exact⟨(a.fmod m).toNat,by exact _e0 h1 h2,by exact _e1 h1⟩
section
variable{c:Cx}{d:Nat}{σ:af}{Q:AV->af->Prop}{N:Nms}{T:Nat}
end
theorem _jO{α:Type}(lt:α->α->Prop)(irr:∀a,¬lt a a)(tr:∀a b c,lt a b->lt b c->lt a c)(tot:∀a b,a≠b->lt a b\/lt b a)(l:List α):∃r:α->Int,∀x∈l,∀y∈l,(r x<r y ↔ lt x y):=by
 classical
 have less:∀{p q:α->Bool} {m:List α},(∀x∈m,p x=true->q x=true)->(m.filter p).length<=(m.filter q).length:=λ{p q m} h=>by
  induction m with
  | nil=>exact aD _
  | cons a m ih=>
   have ih:=ih λx hx=>h x (aA _ hx)
   rw[bW,bW]
   by_cases e:p a=true
   ·rw[if_pos e,if_pos (h a aE e)]
    exact cC ih
   ·rw[if_neg e]
    split
    ·exact eS ih
    ·exact ih
 have more:∀{p q:α->Bool} {m:List α} {a:α},(∀x∈m,p x=true->q x=true)->a∈m->p a=false->q a=true->(m.filter p).length<(m.filter q).length:=λ{p q m a} h ha h1 h2=>by
  induction m with
  | nil=>cases ha
  | cons b m ih=>
   have hm:∀x∈m,p x=true->q x=true:=λx hx=>h x (aA _ hx)
   rw[bW,bW]
   rcases aO.mp ha with rfl | ha
   ·rw[if_neg (by rw[h1];exact aR),if_pos h2]
    exact cC (less hm)
   ·have ih:=ih hm ha
    by_cases e:p b=true
    ·rw[if_pos e,if_pos (h b aE e)]
     exact u0 ih
    ·rw[if_neg e]
     split
     ·exact gV ih
     ·exact ih
 have up:∀x∈l,∀y∈l,lt x y->(l.filter λz=>decide (lt z x)).length<(l.filter λz=>decide (lt z y)).length:=λx hx y hy h=>
  more (λz _ hz=>decide_eq_true (tr _ _ _ (of_decide_eq_true hz) h)) hx (decide_eq_false (irr x)) (decide_eq_true h)
 refine⟨λx=>((l.filter λz=>decide (lt z x)).length:Nat),λx hx y hy=>⟨λh=>?_,λh=>gc.mpr (up x hx y hy h)⟩⟩
 have h:=gc.mp h
 by_cases e:x=y
 ·rw[e] at h;exact absurd h (db _)
 ·rcases tot x y e with q | q
  ·exact q
  ·exact absurd (up y hy x hx q) (Nat.lt_asymm h)
noncomputable def qY(x:String):List Nat:=(ab x).cps.toList
theorem _8Y{x y:String}(h:qY x=qY y):x=y:=by
 refine _s ?_
 have:(ab x).cps=(ab y).cps:=Array.toList_inj.mp h
 cases hx:ab x;cases hy:ab y
 rw[hx,hy] at this
 simpa using this
theorem _4A{a b:List Nat}(h:a≠b):a<b\/b<a:=by
 by_cases q:a < b
 ·exact .inl q
 ·by_cases q2:b < a
  ·exact .inr q2
  ·exact absurd (List.le_antisymm (List.not_lt.mp q2) (List.not_lt.mp q)) h
section
variable{prog:bS}{w:cy}{A:bB}{E:ae->ah->Prop}{s:ah}{f:ae->Int}
noncomputable def uq(vs:List ae)(p:Array Nat):List ae:=p.toList.map λi=>vs.getD i Value.none
theorem _jP{vs:List ae}{p:Array Nat}(B:Pm vs.length p)(hs:Asc (λi=>f (vs.getD i Value.none)) p vs.length):(uq vs p).Perm vs/\(uq vs p).Pairwise λx y=>f x<=f y:=by
 constructor
 ·have e:(aV vs.length).map (λi=>vs.getD i Value.none)=vs:=List.ext_getElem ((ac _).trans aY) λi h1 h2=>by
   rw[fX,je,bc,ax h2];rfl
  exact(B.2.map _).trans (.of_eq e)
 ·refine bo.mpr (bZ.mpr λi j hi hj jN=>?_)
  have sw:∀k (hk:k<p.toList.length),p.toList[k]=p.getD k 0:=λk hk=>by
   rw[iq,dB,aW hk];rfl
  rw[sw i hi,sw j hj]
  exact hs i j (eV jN) (by rw[<-B.size];exact hj)
theorem _8Z{vs:List ae}{i:Nat}(h:i<vs.length):vs.getD i Value.none∈vs:=by rw[bc,ax h];exact bO h
theorem _jQ{k:SortKind}{vs:List ae}{R:Unit×SortSt->ah->Prop}(h2:2<=vs.length)(tG:vs.length<64)(C:∀x∈vs,∀y∈vs,∀(E:ae->ah->Prop) (C:Bool->ah->Prop),C (decide (f x<f y)) s->wpAny (model prog w) A (keyLt' k x y) C E s)
  (h:∀st' p,Pm vs.length p->Asc (λi=>f (vs.getD i Value.none)) p vs.length->(arrOf st').map (·.2)=(uq vs p).toArray->failedOf st'=none->R ((),st') s):wpAny (model prog w) A ((sortRuns').run (SortSt.mk' k (vs.toArray.zip vs.toArray) #[] 7 none)) R E s:=
 cx (kat_run (ks:=vs) (vs:=vs) (E:=E) (Q:=λst' s'=>R ((),st') s') rfl h2 tG (λp st' s' _ e1 e2 g=>(g:s'=s/\Pm vs.length p/\Asc (λi=>f (vs.getD i Value.none)) p vs.length).1 ▸ h st' p g.2.1 g.2.2 (kat_snds rfl e1) e2)
  (_8N (n:=vs.length) (f:=λi=>f (vs.getD i Value.none)) (λi j hi hj X hX=>C _ (_8Z hi) _ (_8Z hj) _ _ hX) (λp q=>⟨rfl,q⟩) _ (_jF (fq (by decide) h2) λp B A=>⟨B,A⟩))) (λr _ x=>x) λ_ _ e=>e
theorem _jR{a:ao}{vs:List ae}{n:Nat}{P:Fin->ah->Prop}(ho:s.heap.get? a=some (seqObj "list" vs.toArray n))(tG:vs.length<64)
  (ask:∀h',(∀b o,b≠a->s.heap.get? b=some o->h'.get? b=some o)->2<=vs.length->∀R:Prop,(∀k,(∀(E:ae->ah->Prop) Q,Q k {s with heap:=h'} -> wpAny (model prog w) A (keyKind' vs.toArray) Q E {s with heap:=h'}) ->
   (∀x∈vs,∀y∈vs,∀(E:ae->ah->Prop) (C:Bool->ah->Prop),C (decide (f x<f y)) {s with heap:=h'} -> wpAny (model prog w) A (keyLt' k x y) C E {s with heap:=h'})->R)->R)
  (h:∀out:Array ae,out.toList.Perm vs->out.toList.Pairwise (λx y=>f x<=f y)->P (.done (.ret .none)) {s with heap:=sortedHeap s.heap a vs out}):wpAny (model prog w) A (Builtin.«list.sort» ⟨[.ref a],[]⟩) P E s:=by
 rw[list_sort_plain]
 have ha:a<s.heap.objs.size:=bM ho
 refine aa (fJ ho rfl (aa (sz ho rfl ?_)))
 obtain⟨e1,vC⟩:∃e1,(s.heap.update a (fk λ_=>#[])).get? a=some (seqObj "list" #[] e1):=⟨_,get?_update_seq ho (λ_=>#[])⟩
 refine aa (uS vC rfl (aa (wpAny_newTuple (aa (wpAny_newList (aS ?_))) (by rw[cY];show vs.length<=_;exact _1Y tG))))
 have w9:(((s.heap.update a (fk λ_=>#[])).push (seqObj "tuple" vs.toArray 0)).push (seqObj "list" #[] 0)).get? a=some (seqObj "list" #[] e1):=aG _ (aG _ vC)
 have kp:∀b o,b≠a->s.heap.get? b=some o->(((s.heap.update a (fk λ_=>#[])).push (seqObj "tuple" vs.toArray 0)).push (seqObj "list" #[] 0)).get? b=some o:=λb o hb e=>
  aG _ (aG _ ((sJ _ _ _ _ hb).trans e))
 show wpAny (model prog w) A _ P E {s with heap:=((s.heap.update a (fk λ_=>#[])).push (seqObj "tuple" vs.toArray 0)).push (seqObj "list" #[] 0)}
 dsimp only
 by_cases h2:vs.toArray.size < 2
 ·rw[if_pos h2,if_pos h2]
  have ev:((vs.toArray.zip vs.toArray).map (·.2)).toList=vs:=by rw[tW,Array.toList_zip,ud (aD _)]
  refine aa (ad ?_)
  rw[StateT.run_pure]
  refine aa (ad (aa (uS w9 rfl (aa (sz w9 rfl ?_ (hsz2:=by rw[<-aw,show _=vs from ev,cY];exact _5L tG))))))
  rw[bne_self_eq_false]
  refine ad (h _ (.of_eq ev) ?_)
  rw[ev]
  match vs,h2 with
  | [],_=>exact .nil
  | [x],_=>exact List.pairwise_singleton _ _
  | _::_::_,h2=>exact absurd h2 (gJ.mpr (fE 2 _))
 ·rw[if_neg h2,if_neg h2]
  refine ask _ kp (dD h2) _ λk hk C=>aa (hk _ _ (aa (_jQ (dD h2) tG C λst' p B hs ev hf=>?_)))
  have r:=_jP B hs
  dsimp only
  refine aa (uS w9 rfl (aa (sz w9 rfl ?_ (hsz2:=by rw[ev,gP,r.1.length_eq,cY];exact _5L tG))))
  rw[hf,bne_self_eq_false,ev]
  exact ad (h (uq vs p).toArray r.1 r.2)
end
section
variable{c:Cx}{d:Nat}{σ:af}{Q:AV->af->Prop}{A:bB}{E:ae->ah->Prop}{s:ah}
theorem RVs.perm{h:a_}{l:List AV}{vs ws:List ae}(p:ws.Perm vs):RVs h vs l->∃m,m.Perm l/\RVs h ws m:=by
 intro r
 induction p generalizing l with
 | nil=>exact⟨l,.refl _,r⟩
 | @cons x _ _ _ ih=>
  cases l with
  | nil=>exact nomatch (show _::_=[] from r)
  | cons a l=>
   obtain⟨v,vr,e,rv,r⟩:=r
   cases e
   obtain⟨m,pm,rm⟩:=ih r
   exact⟨a::m,pm.cons _,.cons rv rm⟩
 | swap x y _=>
  match l,r with
  | a::b::l,r=>
   obtain⟨v,vr,e,rv,u,ur,e2,ru,r⟩:=r
   cases e;cases e2
   exact⟨b::a::l,.swap _ _ _,.cons ru (.cons rv r)⟩
  | [],r=>exact nomatch (show _::_=[] from r)
  | [a],r=>
   obtain⟨v,vr,e,rv,r⟩:=r
   cases e
   exact nomatch (show _::_=[] from r)
 | trans _ _ ih1 ih2=>
  obtain⟨m,pm,rm⟩:=ih2 r
  obtain⟨m',pm',rm'⟩:=ih1 rm
  exact⟨m',pm'.trans pm,rm'⟩
end
set_option genCtorIdx false in
inductive T5 where
 | a | b | c | f (t:T5) | g (t u:T5)
noncomputable def T5.op:T5->String
 | .a=>"a"
 | .b=>"b"
 | .c=>"c"
 | .f _=>"f"
 | .g _ _=>"g"
noncomputable def T5.kids:T5->List T5
 | .f t=>[t]
 | .g t u=>[t,u]
 | _=>[]
noncomputable def T5.code:T5->List Nat
 | .a=>[97]
 | .b=>[98]
 | .c=>[99]
 | .f t=>102::t.code
 | .g t u=>103::(t.code++u.code)
theorem _4B:∀(t u:T5) {r q:List Nat},t.code++r=u.code++q->t=u/\r=q:=by
 intro t
 induction t with
 | a=>intro u r q h;cases u <;> first | exact⟨rfl,(aL h).2⟩ | exact absurd (aL h).1 (by decide)
 | b=>intro u r q h;cases u <;> first | exact⟨rfl,(aL h).2⟩ | exact absurd (aL h).1 (by decide)
 | c=>intro u r q h;cases u <;> first | exact⟨rfl,(aL h).2⟩ | exact absurd (aL h).1 (by decide)
 | f t ih=>
  intro u r q h
  cases u with
  | f u=>exact(ih u (aL h).2).elim λe e2=>⟨congrArg T5.f e,e2⟩
  | _=>exact absurd (aL h).1 (by decide)
 | g t t2 ih ih2=>
  intro u r q h
  cases u with
  | g u u2=>
   have h2:t.code++(t2.code++r)=u.code++(u2.code++q):=(aZ _ _ _).symm.trans ((show(t.code++t2.code)++r=(u.code++u2.code)++q from(aL h).2).trans (aZ _ _ _))
   obtain⟨e,h3⟩:=ih u h2
   obtain⟨e2,h4⟩:=ih2 u2 h3
   exact⟨by rw[e,e2],h4⟩
  | _=>exact absurd (aL h).1 (by decide)
theorem _2L{t u:T5}(h:t.code=u.code):t=u:=(_4B t u (r:=[]) (q:=[]) (by rw[bh,bh];exact h)).1
theorem _90:∀{a b:List Nat},(∀r q,a++r≠b++q)->∀r q,(a++r<b++q ↔ a<b)
 | [],b,h,_,_=>absurd (bh b).symm (h b [])
 | _::_,[],h,_,_=>absurd (bh _) (h [] _)
 | x::a,y::b,h,r,q=>by
  rw[dA,dA,cF,cF]
  by_cases e:x=y
  ·subst e
   have ih:=_90 (a:=a) (b:=b) (λr q e=>h r q (by rw[dA,dA,e])) r q
   simp only[db,false_or,true_and]
   exact ih
  ·simp only[e,false_and,or_false]
theorem _jS{t u:T5}(h:t≠u)(r q:List Nat):t.code++r<u.code++q ↔ t.code<u.code:=_90 (λr q e=>h (_4B t u e).1) r q
structure nP(some:List T5)(pairs:List (T5×T5))(C:T5->T5->Prop):Prop where
 eqv:Equivalence C
 told:∀p∈pairs,C p.1 p.2
 f:∀t u,T5.f t∈some->T5.f u∈some->C t u->C (.f t) (.f u)
 g:∀t t' u u',T5.g t t'∈some->T5.g u u'∈some->C t u->C t' u'->C (.g t t') (.g u u')
noncomputable def eA(some:List T5)(pairs:List (T5×T5))(t u:T5):Prop:=∀C,nP some pairs C->C t u
theorem eA.closed(some:List T5)(pairs:List (T5×T5)):nP some pairs (eA some pairs) where
 eqv:=⟨λt C h=>h.eqv.refl t,λx C h=>h.eqv.symm (x C h),λx y C h=>h.eqv.trans (x C h) (y C h)⟩
 told:=λp hp C h=>h.told p hp
 f:=λt u a b x C h=>h.f t u a b (x C h)
 g:=λt t' u u' a b x y C h=>h.g t t' u u' a b (x C h) (y C h)
noncomputable def St5(nodes:List cq):T5->Nat->Prop
 | .a,n=>nodes[n]? = some ("a", [])
 | .b,n=>nodes[n]? = some ("b", [])
 | .c,n=>nodes[n]? = some ("c", [])
 | .f t,n=>∃k,nodes[n]? = some ("f", [k])/\St5 nodes t k
 | .g t u,n=>∃k l,nodes[n]? = some ("g", [k,l])/\St5 nodes t k/\St5 nodes u l
theorem St5.lt{nodes:List cq}{t:T5}{n:Nat}(h:St5 nodes t n):n<nodes.length:=by
 cases t with
 | a=>exact(az.mp h).1
 | b=>exact(az.mp h).1
 | c=>exact(az.mp h).1
 | f t=>exact h.elim λk q=>(az.mp q.1).1
 | g a b=>exact h.elim λk q=>q.elim λl q=>(az.mp q.1).1
theorem St5.app{nodes r:List cq}{t:T5}:∀{n:Nat},St5 nodes t n->St5 (nodes++r) t n:=by
 induction t with
 | a=>exact λh=>_0j h
 | b=>exact λh=>_0j h
 | c=>exact λh=>_0j h
 | f t ih=>exact λh=>h.elim λk q=>⟨k,_0j q.1,ih q.2⟩
 | g t u ih ih2=>exact λh=>h.elim λk q=>q.elim λl q=>⟨k,l,_0j q.1,ih q.2.1,ih2 q.2.2⟩
theorem _10{l:List cq}{i j:Nat}{x:cq}(h:l.Nodup)(hi:l[i]? = some x)(hj:l[j]? = some x):i=j:=aB ((_4f h hi).symm.trans (_4f h hj))
theorem St5.one{nodes:List cq}(hn:nodes.Nodup){t:T5}:∀{n m:Nat},St5 nodes t n->St5 nodes t m->n=m:=by
 induction t with
 | a=>exact λh k=>_10 hn h k
 | b=>exact λh k=>_10 hn h k
 | c=>exact λh k=>_10 hn h k
 | f t ih=>exact λh h'=>h.elim λk q=>h'.elim λk' q'=>_10 hn q.1 (ih q.2 q'.2 ▸ q'.1)
 | g t u ih ih2=>exact λh h'=>h.elim λk q=>q.elim λl q=>h'.elim λk' q'=>q'.elim λl' q'=>_10 hn q.1 (ih q.2.1 q'.2.1 ▸ ih2 q.2.2 q'.2.2 ▸ q'.1)
theorem _o{nodes:List cq}{n:Nat}{x y:cq}(h:nodes[n]? = some x)(k:nodes[n]? = some y):x=y:=aB (h.symm.trans k)
theorem St5.same{nodes:List cq}{t:T5}:∀{u:T5} {n:Nat},St5 nodes t n->St5 nodes u n->t=u:=by
 induction t with
 | a=>
  intro u n h k
  cases u <;> first
   | rfl
   | exact absurd (b6 (_o h k)).1 (by decide)
   | exact k.elim λi q=>absurd (b6 (_o h q.1)).1 (by decide)
   | exact k.elim λi q=>q.elim λj q=>absurd (b6 (_o h q.1)).1 (by decide)
 | b=>
  intro u n h k
  cases u <;> first
   | rfl
   | exact absurd (b6 (_o h k)).1 (by decide)
   | exact k.elim λi q=>absurd (b6 (_o h q.1)).1 (by decide)
   | exact k.elim λi q=>q.elim λj q=>absurd (b6 (_o h q.1)).1 (by decide)
 | c=>
  intro u n h k
  cases u <;> first
   | rfl
   | exact absurd (b6 (_o h k)).1 (by decide)
   | exact k.elim λi q=>absurd (b6 (_o h q.1)).1 (by decide)
   | exact k.elim λi q=>q.elim λj q=>absurd (b6 (_o h q.1)).1 (by decide)
 | f t ih=>
  intro u n h k
  obtain⟨i,h1,h2⟩:=h
  cases u with
  | f u=>
   obtain⟨j,k1,k2⟩:=k
   have e:=(b6 (_o h1 k1)).2
   obtain rfl:=(aL e).1
   rw[ih h2 k2]
  | g u v=>
   obtain⟨j,l,k1,_⟩:=k
   exact absurd (b6 (_o h1 k1)).1 (by decide)
  | _=>exact absurd (b6 (_o h1 k)).1 (by decide)
 | g t t' ih ih2=>
  intro u n h k
  obtain⟨i,l,h1,h2,h3⟩:=h
  cases u with
  | g u v=>
   obtain⟨j,m,k1,k2,k3⟩:=k
   have e:=(b6 (_o h1 k1)).2
   obtain rfl:=(aL e).1
   obtain rfl:=(aL (aL e).2).1
   rw[ih h2 k2,ih2 h3 k3]
  | f u=>
   obtain⟨j,k1,_⟩:=k
   exact absurd (b6 (_o h1 k1)).1 (by decide)
  | _=>exact absurd (b6 (_o h1 k)).1 (by decide)
theorem _4C{t u:T5}{P:Prop}(h:t.op=u.op)(h0:t=u->P)(h1:∀x y,t = .f x->u = .f y->P)(h2:∀x x' y y',t = .g x x'->u = .g y y'->P):P:=by
 cases t <;> cases u <;> first
  | exact h0 rfl
  | exact h1 _ _ rfl rfl
  | exact h2 _ _ _ _ rfl rfl
  | exact absurd h (by decide)
  | exact absurd (show("a" : String) = "f" from h) (by decide)
  | exact absurd (show("a" : String) = "g" from h) (by decide)
  | exact absurd (show("b" : String) = "f" from h) (by decide)
  | exact absurd (show("b" : String) = "g" from h) (by decide)
  | exact absurd (show("c" : String) = "f" from h) (by decide)
  | exact absurd (show("c" : String) = "g" from h) (by decide)
  | exact absurd (show("f" : String) = "a" from h) (by decide)
  | exact absurd (show("f" : String) = "b" from h) (by decide)
  | exact absurd (show("f" : String) = "c" from h) (by decide)
  | exact absurd (show("f" : String) = "g" from h) (by decide)
  | exact absurd (show("g" : String) = "a" from h) (by decide)
  | exact absurd (show("g" : String) = "b" from h) (by decide)
  | exact absurd (show("g" : String) = "c" from h) (by decide)
  | exact absurd (show("g" : String) = "f" from h) (by decide)
theorem St5.node{nodes:List cq}{t:T5}{n:Nat}(h:St5 nodes t n):∃ks,nodes[n]? = some (t.op,ks):=by
 cases t with
 | a=>exact⟨_,h⟩
 | b=>exact⟨_,h⟩
 | c=>exact⟨_,h⟩
 | f t=>exact h.elim λk q=>⟨_,q.1⟩
 | g t u=>exact h.elim λk q=>q.elim λl q=>⟨_,q.1⟩
structure mH(ts:List T5)(pairs:List (T5×T5))(nodes:List cq)(told:List (Nat×Nat)):Prop where
 nd:nodes.Nodup
 all:∀t∈ts,∃n,St5 nodes t n
 num:∀n,n<nodes.length->∃t,t∈ts/\St5 nodes t n
 to:∀p∈pairs,∃q,q∈told/\St5 nodes p.1 q.1/\St5 nodes p.2 q.2
 of:∀q∈told,∃p,p∈pairs/\St5 nodes p.1 q.1/\St5 nodes p.2 q.2
section
variable{ts:List T5}{pairs:List (T5×T5)}{nodes:List cq}{told:List (Nat×Nat)}{C:T5->T5->Prop}{D:Nat->Nat->Prop}
noncomputable def onN(nodes:List cq)(C:T5->T5->Prop)(i j:Nat):Prop:=i=j\/∃t u,St5 nodes t i/\St5 nodes u j/\C t u
noncomputable def onT(nodes:List cq)(D:Nat->Nat->Prop)(t u:T5):Prop:=t=u\/∃i j,St5 nodes t i/\St5 nodes u j/\D i j
theorem _2M(hC:Equivalence C){t u:T5}{i j:Nat}(h:onN nodes C i j)(ht:St5 nodes t i)(hu:St5 nodes u j):C t u:=by
 rcases h with rfl | ⟨t',u',h1,h2,h3⟩
 ·rw[ht.same hu];exact hC.refl _
 ·rw[ht.same h1,hu.same h2];exact h3
theorem _2N(hD:Equivalence D)(hn:nodes.Nodup){t u:T5}{i j:Nat}(h:onT nodes D t u)(ht:St5 nodes t i)(hu:St5 nodes u j):D i j:=by
 rcases h with rfl | ⟨i',j',h1,h2,h3⟩
 ·rw[ht.one hn hu];exact hD.refl _
 ·rw[ht.one hn h1,hu.one hn h2];exact h3
theorem _jT(H:mH ts pairs nodes told)(hC:nP ts pairs C):pQ nodes told (onN nodes C) where
 eqv:=by
  refine⟨λ_=>.inl rfl,λh=>?_,λ{i j k} h h'=>?_⟩
  ·rcases h with rfl | ⟨t,u,h1,h2,h3⟩
   ·exact .inl rfl
   ·exact .inr ⟨u,t,h2,h1,hC.eqv.symm h3⟩
  ·rcases h with rfl | ⟨t,u,h1,h2,h3⟩
   ·exact h'
   ·rcases h' with rfl | ⟨t',u',k1,k2,k3⟩
    ·exact .inr ⟨t,u,h1,h2,h3⟩
    ·exact .inr ⟨t,u',h1,k2,hC.eqv.trans h3 (h2.same k1 ▸ k3)⟩
 told:=λq hq=>(H.of q hq).elim λp h=>.inr ⟨p.1,p.2,h.2.1,h.2.2,hC.told p h.1⟩
 cong:=λi j ni nj hi hj h1 h2 h3=>by
  obtain⟨t,mt,ht⟩:=H.num i (az.mp hi).1
  obtain⟨u,mu,hu⟩:=H.num j (az.mp hj).1
  obtain⟨kt,nt⟩:=ht.node
  obtain⟨ku,nu⟩:=hu.node
  have e1:=_o hi nt
  have e2:=_o hj nu
  refine _4C (t:=t) (u:=u) (by rw[e1,e2] at h1;exact h1) (λe=>.inr ⟨t,u,ht,hu,e ▸ hC.eqv.refl t⟩) (λx y a b=>?_) λx x' y y' a b=>?_
  ·subst a;subst b
   obtain⟨k,k1,k2⟩:=id ht
   obtain⟨l,l1,l2⟩:=id hu
   obtain rfl:=_o hi k1
   obtain rfl:=_o hj l1
   exact .inr ⟨_,_,ht,hu,hC.f x y mt mu (_2M hC.eqv (h3 0 k l rfl rfl) k2 l2)⟩
  ·subst a;subst b
   obtain⟨k,k',k1,k2,k3⟩:=id ht
   obtain⟨l,l',l1,l2,l3⟩:=id hu
   obtain rfl:=_o hi k1
   obtain rfl:=_o hj l1
   exact .inr ⟨_,_,ht,hu,hC.g x x' y y' mt mu (_2M hC.eqv (h3 0 k l rfl rfl) k2 l2) (_2M hC.eqv (h3 1 k' l' rfl rfl) k3 l3)⟩
theorem _jU(H:mH ts pairs nodes told)(hD:pQ nodes told D):nP ts pairs (onT nodes D) where
 eqv:=by
  refine⟨λ_=>.inl rfl,λh=>?_,λ{i j k} h h'=>?_⟩
  ·rcases h with rfl | ⟨t,u,h1,h2,h3⟩
   ·exact .inl rfl
   ·exact .inr ⟨u,t,h2,h1,hD.eqv.symm h3⟩
  ·rcases h with rfl | ⟨t,u,h1,h2,h3⟩
   ·exact h'
   ·rcases h' with rfl | ⟨t',u',k1,k2,k3⟩
    ·exact .inr ⟨t,u,h1,h2,h3⟩
    ·exact .inr ⟨t,u',h1,k2,hD.eqv.trans h3 (h2.one H.nd k1 ▸ k3)⟩
 told:=λp hp=>(H.to p hp).elim λq h=>.inr ⟨q.1,q.2,h.2.1,h.2.2,hD.told q h.1⟩
 f:=λt u mt mu h=>by
  obtain⟨i,hi⟩:=H.all _ mt
  obtain⟨j,hj⟩:=H.all _ mu
  refine .inr ⟨i,j,hi,hj,?_⟩
  obtain⟨k,k1,k2⟩:=hi
  obtain⟨l,l1,l2⟩:=hj
  refine hD.cong i j _ _ k1 l1 rfl rfl λq x y hx hy=>match q,hx,hy with
   | 0,hx,hy=>?_
  rw[<-aB hx,<-aB hy]
  exact _2N hD.eqv H.nd h k2 l2
 g:=λt t' u u' mt mu h h'=>by
  obtain⟨i,hi⟩:=H.all _ mt
  obtain⟨j,hj⟩:=H.all _ mu
  refine .inr ⟨i,j,hi,hj,?_⟩
  obtain⟨k,k',k1,k2,k3⟩:=hi
  obtain⟨l,l',l1,l2,l3⟩:=hj
  refine hD.cong i j _ _ k1 l1 rfl rfl λq x y hx hy=>match q,hx,hy with
   | 0,hx,hy=>?_
   | 1,hx,hy=>?_
  ·rw[<-aB hx,<-aB hy];exact _2N hD.eqv H.nd h k2 l2
  ·rw[<-aB hx,<-aB hy];exact _2N hD.eqv H.nd h' k3 l3
theorem _jV(H:mH ts pairs nodes told){t u:T5}{i j:Nat}(ht:St5 nodes t i)(hu:St5 nodes u j):dq nodes told i j ↔ eA ts pairs t u:=
 ⟨λh C hC=>_2M hC.eqv (h _ (_jT H hC)) ht hu,λh D hD=>_2N hD.eqv H.nd (h _ (_jU H hD)) ht hu⟩
end
theorem _2O{n:Nat}{L:List Nat}{a b:Nat}(hl:L.length=n)(h:Lab n (gl L))(ha:a<n)(hb:b<n):Lab n (gl (cO L a b)):=by
 have g:=h.relab ha hb
 refine⟨λx hx=>?_,λx hx=>?_⟩
 ·rw[_T (by exact _N hl hx)];exact g.le x hx
 ·have h1:=g.lt hx
  have e:gl (cO L a b) x=relab (gl L) (min (gl L a) (gl L b)) (max (gl L a) (gl L b)) x:=_T (by exact _N hl hx)
  rw[e,_T (by exact _N hl h1)]
  exact g.idem x hx
noncomputable def hZ(L:List Nat)(n:Nat):Nat:=((aV n).filter λx=>decide (gl L x=x)).length
theorem _jW{α:Type}{p q:α->Bool}{l:List α}(h:∀x∈l,q x=true->p x=true){y:α}(hy:y∈l)(h1:p y=true)(h2:q y=false):(l.filter q).length<(l.filter p).length:=by
 have e:l.filter q=(l.filter p).filter q:=by
  rw[sW]
  refine fM λx hx=>?_
  cases hq:q x with
  | false=>rfl
  | true=>rw[h x hx hq];rfl
 rw[e]
 exact List.length_filter_lt_length_iff_exists.mpr ⟨y,bH.mpr ⟨hy,h1⟩,by rw[h2];exact aR⟩
theorem _91{n:Nat}{L:List Nat}{a b:Nat}(hl:L.length=n)(h:Lab n (gl L))(ha:a<n)(hb:b<n)(gK:gl L a≠gl L b):hZ (cO L a b) n<hZ L n:=by
 have la:=h.lt ha
 have lb:=h.lt hb
 have r2:gl L (max (gl L a) (gl L b))=max (gl L a) (gl L b)/\gl L (min (gl L a) (gl L b))=min (gl L a) (gl L b)/\max (gl L a) (gl L b)<n/\min (gl L a) (gl L b)≠max (gl L a) (gl L b):=by
  rcases dh (gl L a) (gl L b) with q | q
  ·rw[eB q,dg q];exact⟨h.idem b hb,h.idem a ha,lb,gK⟩
  ·rw[dK q,dC q];exact⟨h.idem a ha,h.idem b hb,la,λe=>gK e.symm⟩
 have e:∀x,x<n->gl (cO L a b) x=if gl L x=max (gl L a) (gl L b) then min (gl L a) (gl L b) else gl L x:=λx hx=>_T (by exact _N hl hx)
 obtain⟨h1,h2,h3,h4⟩:=r2
 generalize max (gl L a) (gl L b)=hi at *
 generalize min (gl L a) (gl L b)=lo at *
 refine _jW (λx hx q=>?_) (aN.mpr h3) (decide_eq_true h1) (decide_eq_false (by rw[e hi h3,if_pos h1];exact h4))
 have hx:=aN.mp hx
 have q:=of_decide_eq_true q
 rw[e x hx] at q
 by_cases y:gl L x=hi
 ·rw[if_pos y] at q
  subst q
  exact absurd (h2.symm.trans y) h4
 ·rw[if_neg y] at q;exact decide_eq_true q
section
variable{xp:List cq}{L0 L1 L:List Nat}{i:Nat}{F:List (cq×Nat)}{new:Bool}
end
section
variable{xp:List cq}{told:List (Nat×Nat)}{L:List Nat}{W W0 new:List (Nat×Nat)}{a b i:Nat}{F:List (cq×Nat)}
theorem _1L{n x:Nat}(h:x<n):gl (aV n) x=x:=by
 rw[_4z (by rw[aY];exact h),je]
end
noncomputable def ix(ts:List T5)(t:T5):Nat:=(ts.map T5.code).idxOf t.code
noncomputable def tAt(ts:List T5)(i:Nat):T5:=ts.getD i .a
noncomputable def hm(ts:List T5)(L:List Nat)(t:T5):Nat:=gl L (ix ts t)
section
variable{ts:List T5}{L:List Nat}{i j k l:Nat}{t u:T5}
theorem _0x(h:t∈ts):ix ts t<ts.length:=by
 have:=pd (aq.mpr ⟨t,h,rfl⟩:t.code∈ts.map T5.code)
 rw[ac] at this;exact this
theorem _2P(h:ts[i]? = some t):tAt ts i=t:=by unfold tAt;rw[bc,h];rfl
theorem _1M(h:i<ts.length):ts[i]? = some (tAt ts i):=by
 have e:ts[i]? = some ts[i]:=ax h
 rw[_2P e];exact e
theorem _4D(h:t∈ts):ts[ix ts t]? = some t:=by
 have e:=_1M (_0x h)
 have e2:(ts.map T5.code)[ix ts t]? = some t.code:=by
  unfold ix
  have hl:=pd (aq.mpr ⟨t,h,rfl⟩:t.code∈ts.map T5.code)
  rw[ax hl,List.getElem_idxOf]
 rw[aQ,e] at e2
 rw[e,_2L (aB e2)]
theorem _11(h:t∈ts):tAt ts (ix ts t)=t:=_2P (_4D h)
theorem _jX(hn:ts.Nodup)(h:ts[i]? = some t)(k:ts[j]? = some t):i=j:=by
 obtain⟨hi,ei⟩:=az.mp h
 obtain⟨hj,ej⟩:=az.mp k
 exact(uf hn).mp (ei.trans ej.symm)
theorem _2Q(hn:ts.Nodup)(h:ts[i]? = some t):ix ts t=i:=_jX hn (_4D (aC h)) h
theorem _1N(hn:ts.Nodup)(h:i<ts.length):hm ts L (tAt ts i)=gl L i:=by unfold hm;rw[_2Q hn (_1M h)]
theorem _0l(h:i<ts.length):tAt ts i∈ts:=aC (_1M h)
end
noncomputable def j3(ts:List T5)(L:List Nat)(k l:Nat):Bool:=decide ((tAt ts k).op=(tAt ts l).op)&&(decide (gl L k≠gl L l)&&decide ((tAt ts k).kids.map (hm ts L)=(tAt ts l).kids.map (hm ts L)))
noncomputable def gg(ts:List T5)(L:List Nat)(k i:Nat):List (Nat×Nat):=((aV i).filter λl=>j3 ts L k l).map λl=>(k,l)
noncomputable def eG(ts:List T5)(L:List Nat)(k:Nat):List (Nat×Nat):=(aV k).flatMap λk=>gg ts L k k
theorem _4E(ts:List T5)(L:List Nat)(k i:Nat):gg ts L k (i+1)=gg ts L k i++if j3 ts L k i=true then[(k,i)] else[]:=by
 unfold gg
 rw[eM,eF,aM,bW,eN]
 split <;> rfl
theorem _92(ts:List T5)(L:List Nat)(k:Nat):eG ts L (k+1)=eG ts L k++gg ts L k k:=by
 unfold eG
 rw[eM,List.flatMap_append,List.flatMap_cons,List.flatMap_nil,bh]
theorem _2R{ts:List T5}{L:List Nat}{n:Nat}{q:Nat×Nat}:q∈eG ts L n ↔ q.1<n/\q.2<q.1/\j3 ts L q.1 q.2=true:=by
 unfold eG gg
 rw[List.mem_flatMap]
 constructor
 ·rintro⟨k,hk,hq⟩
  obtain⟨l,hl,rfl⟩:=aq.mp hq
  have hl:=bH.mp hl
  exact⟨aN.mp hk,aN.mp hl.1,hl.2⟩
 ·rintro⟨h1,h2,h3⟩
  exact⟨q.1,aN.mpr h1,aq.mpr ⟨q.2,bH.mpr ⟨aN.mpr h2,h3⟩,rfl⟩⟩
noncomputable def eZ(L:List Nat)(W:List (Nat×Nat)):List Nat:=W.foldr (λq L=>cO L q.1 q.2) L
theorem _93(L:List Nat)(W:List (Nat×Nat))(q:Nat×Nat):eZ L (W++[q])=eZ (cO L q.1 q.2) W:=by
 unfold eZ
 rw[List.foldr_append];rfl
theorem _94{L:List Nat}{a b x y:Nat}(hx:x<L.length)(hy:y<L.length)(h:gl L x=gl L y):gl (cO L a b) x=gl (cO L a b) y:=by
 rw[_T hx,_T hy];exact _jc (n:=0) h
theorem _jY{L:List Nat}{a b:Nat}(ha:a<L.length)(hb:b<L.length):gl (cO L a b) a=gl (cO L a b) b:=by
 rw[_T ha,_T hb];exact _jd _ _ _
theorem _0y(W:List (Nat×Nat)):∀L:List Nat,(eZ L W).length=L.length:=by
 induction W with
 | nil=>exact λL=>rfl
 | cons q W ih=>exact λL=>(_0Z _ _ _).trans (ih L)
theorem _jZ(W:List (Nat×Nat)){L:List Nat}{x y:Nat}(hx:x<L.length)(hy:y<L.length)(h:gl L x=gl L y):gl (eZ L W) x=gl (eZ L W) y:=by
 induction W with
 | nil=>exact h
 | cons q W ih=>exact _94 (by rw[show(W.foldr (λq L=>cO L q.1 q.2) L)=eZ L W from rfl,_0y];exact hx) (by rw[show(W.foldr (λq L=>cO L q.1 q.2) L)=eZ L W from rfl,_0y];exact hy) ih
theorem _95{W:List (Nat×Nat)}{L:List Nat}{q:Nat×Nat}(hq:q∈W)(h1:q.1<L.length)(h2:q.2<L.length):gl (eZ L W) q.1=gl (eZ L W) q.2:=by
 induction W with
 | nil=>exact absurd hq bj
 | cons p W ih=>
  have e1:q.1<(eZ L W).length:=by rw[_0y];exact h1
  have e2:q.2<(eZ L W).length:=by rw[_0y];exact h2
  rcases aO.mp hq with rfl | hq
  ·exact _jY e1 e2
  ·exact _94 e1 e2 (ih hq)
theorem _96{n:Nat}{W:List (Nat×Nat)}{L:List Nat}(hl:L.length=n)(h:Lab n (gl L))(hW:∀q∈W,q.1<n/\q.2<n):Lab n (gl (eZ L W)):=by
 induction W with
 | nil=>exact h
 | cons p W ih=>
  have hp:=hW p (.head _)
  exact _2O ((_0y W L).trans hl) (ih λq hq=>hW q (.tail _ hq)) hp.1 hp.2
theorem _k0{n:Nat}{L:List Nat}{a b:Nat}(hl:L.length=n)(h:Lab n (gl L))(ha:a<n)(hb:b<n):hZ (cO L a b) n<=hZ L n:=by
 by_cases e:gl L a=gl L b
 ·rw[_8U e];exact aD _
 ·exact eV (_91 hl h ha hb e)
theorem _97{n:Nat}{W:List (Nat×Nat)}{L:List Nat}(hl:L.length=n)(h:Lab n (gl L))(hW:∀q∈W,q.1<n/\q.2<n):hZ (eZ L W) n<=hZ L n:=by
 induction W with
 | nil=>exact aD _
 | cons p W ih=>
  have hp:=hW p (.head _)
  have hW:=λq hq=>hW q (.tail _ hq)
  exact ay (_k0 ((_0y W L).trans hl) (_96 hl h hW) hp.1 hp.2) (ih hW)
theorem _k1{n:Nat}{W:List (Nat×Nat)}{L:List Nat}(hl:L.length=n)(h:Lab n (gl L))(hW:∀q∈W,q.1<n/\q.2<n){q:Nat×Nat}(hq:q∈W)(gK:gl L q.1≠gl L q.2):hZ (eZ L W) n<hZ L n:=by
 refine mP (_97 hl h hW) λe=>gK ?_
 -- were no bD gone,nothing would have been joined
 have keep:∀{W:List (Nat×Nat)},(∀q∈W,q.1<n/\q.2<n)->hZ (eZ L W) n=hZ L n->eZ L W=L:=λ{W}=>by
  induction W with
  | nil=>exact λ_ _=>rfl
  | cons p W ih=>
   intro hW e
   have hp:=hW p (.head _)
   have hW:=λq hq=>hW q (.tail _ hq)
   have l1:=(_0y W L).trans hl
   have l2:=_96 hl h hW
   have e2:gl (eZ L W) p.1=gl (eZ L W) p.2:=dG λx=>
    absurd (fq (_91 l1 l2 hp.1 hp.2 x) (_97 hl h hW)) (by show ¬hZ (eZ L (p::W)) n<_;rw[e];exact db _)
   have e3:eZ L (p::W)=eZ L W:=_8U e2
   rw[e3] at e ⊢
   exact ih hW e
 have:=_95 hq (by rw[hl];exact(hW q hq).1) (by rw[hl];exact(hW q hq).2)
 rw[keep hW e] at this
 exact this
structure Cl5(ts:List T5)(pairs:List (T5×T5))(told:List (Nat×Nat))(L:List Nat)(W:List (Nat×Nat)):Prop where
 len:L.length=ts.length
 lab:Lab ts.length (gl L)
 snd:∀i j,i<ts.length->j<ts.length->gl L i=gl L j->eA ts pairs (tAt ts i) (tAt ts j)
 inW:∀q∈W,q.1<ts.length/\q.2<ts.length/\eA ts pairs (tAt ts q.1) (tAt ts q.2)
 all:∀q∈told,gl (eZ L W) q.1=gl (eZ L W) q.2
 fin:W=[]->eG ts L ts.length=[]
structure Ts5(ts:List T5):Prop where
 nd:ts.Nodup
 f:∀t,T5.f t∈ts->t∈ts
 g1:∀t u,T5.g t u∈ts->t∈ts
 g2:∀t u,T5.g t u∈ts->u∈ts
section
variable{ts:List T5}{pairs:List (T5×T5)}{told:List (Nat×Nat)}{L:List Nat}{W:List (Nat×Nat)}
noncomputable def l7(ts:List T5)(pairs:List (T5×T5))(told:List (Nat×Nat)):Prop:=pairs=told.map λq=>(tAt ts q.1,tAt ts q.2)
theorem Cl5.start(hp:l7 ts pairs told)(iA:∀q∈told,q.1<ts.length/\q.2<ts.length)(gK:told≠[]):Cl5 ts pairs told (aV ts.length) told where
 len:=aY
 lab:=⟨λx hx=>cm (_1L hx),λx hx=>by rw[_1L hx,_1L hx]⟩
 snd:=λi j hi hj e=>by
  rw[_1L hi,_1L hj] at e
  exact e ▸ (eA.closed ts pairs).eqv.refl _
 inW:=λq hq=>⟨(iA q hq).1,(iA q hq).2,(eA.closed ts pairs).told (tAt ts q.1,tAt ts q.2) (by rw[hp];exact aq.mpr ⟨q,hq,rfl⟩)⟩
 all:=λq hq=>_95 hq (by rw[aY];exact(iA q hq).1) (by rw[aY];exact(iA q hq).2)
 fin:=λe=>absurd e gK
theorem _98(h:Cl5 ts pairs told L W){q:Nat×Nat}(h1:q.1<ts.length)(h2:q.2<ts.length)(h3:eA ts pairs (tAt ts q.1) (tAt ts q.2)):∀i j,i<ts.length->j<ts.length->gl (cO L q.1 q.2) i=gl (cO L q.1 q.2) j->eA ts pairs (tAt ts i) (tAt ts j):=λi j hi hj e=>by
 rw[_T (by rw[h.len];exact hi),_T (by rw[h.len];exact hj)] at e
 have E:=(eA.closed ts pairs).eqv
 exact _je (C:=λi j=>eA ts pairs (tAt ts i) (tAt ts j)) ⟨λi=>E.refl _,λx=>E.symm x,λx y=>E.trans x y⟩ h.lab h.snd h1 h2 h3 i j hi hj e
theorem _k2(T:Ts5 ts)(hl:L.length=ts.length)(hs:∀i j,i<ts.length->j<ts.length->gl L i=gl L j->eA ts pairs (tAt ts i) (tAt ts j)){k l:Nat}(hk:k<ts.length)(nF:l<ts.length)(h:j3 ts L k l=true):eA ts pairs (tAt ts k) (tAt ts l):=by
 unfold j3 at h
 rw[bm,bm] at h
 obtain⟨h1,_,h3⟩:=h
 have h1:=of_decide_eq_true h1
 have h3:=of_decide_eq_true h3
 have mk:=_0l hk
 have ml:=_0l nF
 generalize tAt ts k=t at *
 generalize tAt ts l=u at *
 have C:=eA.closed ts pairs
 have one:∀{x y:T5},x∈ts->y∈ts->hm ts L x=hm ts L y->eA ts pairs x y:=λ{x y} hx hy e=>by
  have:=hs _ _ (_0x hx) (_0x hy) e
  rwa [_11 hx,_11 hy] at this
 refine _4C h1 (λe=>e ▸ C.eqv.refl t) (λx y a b=>?_) λx x' y y' a b=>?_
 ·subst a;subst b
  exact C.f x y mk ml (one (T.f x mk) (T.f y ml) (aL h3).1)
 ·subst a;subst b
  exact C.g x x' y y' mk ml (one (T.g1 _ _ mk) (T.g1 _ _ ml) (aL h3).1) (one (T.g2 _ _ mk) (T.g2 _ _ ml) (aL (aL h3).2).1)
theorem Cl5.pop(h:Cl5 ts pairs told L (W++[q]))(hW:W≠[]):Cl5 ts pairs told (cO L q.1 q.2) W:=
 have hq:=h.inW q (aT _ (.head _))
 ⟨(_0Z _ _ _).trans h.len,_2O h.len h.lab hq.1 hq.2.1,_98 h hq.1 hq.2.1 hq.2.2,λp hp=>h.inW p (a8 _ hp),λp hp=>_93 L W q ▸ h.all p hp,λe=>absurd e hW⟩
theorem Cl5.last(T:Ts5 ts)(ht:∀q∈told,q.1<ts.length/\q.2<ts.length)(h:Cl5 ts pairs told L [q]):Cl5 ts pairs told (cO L q.1 q.2) (eG ts (cO L q.1 q.2) ts.length):=
 have hq:=h.inW q (.head _)
 have hl:(cO L q.1 q.2).length=ts.length:=(_0Z _ _ _).trans h.len
 have hs:=_98 h hq.1 hq.2.1 hq.2.2
 ⟨hl,_2O h.len h.lab hq.1 hq.2.1,hs,λp hp=>(_2R.mp hp).elim λa r=>⟨a,cN r.1 a,_k2 T hl hs a (cN r.1 a) r.2⟩,λp hp=>_jZ _ (hl ▸ (ht p hp).1) (hl ▸ (ht p hp).2) (h.all p hp),id⟩
noncomputable def n8(n:Nat)(L:List Nat)(W:List (Nat×Nat)):Nat:=W.length+(n*n+1)*hZ (eZ L W) n
theorem left_pop{n:Nat}{q:Nat×Nat}:n8 n (cO L q.1 q.2) W<n8 n L (W++[q]):=by
 unfold n8
 rw[_93,am,aF]
 exact sG (cD _) _
theorem _4F(ts:List T5)(L:List Nat):∀n,(eG ts L n).length<=n*n:=λn=>by
 have one:∀k i,(gg ts L k i).length<=i:=λk i=>by
  unfold gg
  rw[ac]
  exact ay (c_ _ _) (cm aY)
 induction n with
 | zero=>exact aD _
 | succ n ih=>
  rw[_92,am,Nat.mul_succ,Nat.succ_mul]
  have:=one n n
  exact _e2 ih this
theorem _k3(h:Cl5 ts pairs told L [q])(T:Ts5 ts):n8 ts.length (cO L q.1 q.2) (eG ts (cO L q.1 q.2) ts.length)<n8 ts.length L [q]:=by
 have hq:=h.inW q (.head _)
 have hl:(cO L q.1 q.2).length=ts.length:=(_0Z _ _ _).trans h.len
 have xG:=_2O h.len h.lab hq.1 hq.2.1
 have e:eZ L [q]=cO L q.1 q.2:=rfl
 unfold n8
 rw[e]
 generalize cO L q.1 q.2=L' at *
 cases w:eG ts L' ts.length with
 | nil=>exact sG (cD _) _
 | cons p r=>
  have hW:∀q∈eG ts L' ts.length,q.1<ts.length/\q.2<ts.length:=λq hq=>by
   obtain⟨a,b,_⟩:=_2R.mp hq
   exact⟨a,cN b a⟩
  have hp:p∈eG ts L' ts.length:=by rw[w];exact .head _
  have gK:gl L' p.1≠gl L' p.2:=by
   have:=(_2R.mp hp).2.2
   unfold j3 at this
   rw[bm,bm] at this
   exact of_decide_eq_true this.2.1
  have h1:=_k1 hl xG hW hp gK
  have h2:=_4F ts L' ts.length
  rw[w] at h1 h2
  have h3:=dJ (ts.length*ts.length+1) (Nat.succ_le_of_lt h1)
  rw[Nat.mul_succ] at h3
  have h4:[q].length=1:=rfl
  exact _e3 h2 h3 h4
theorem Cl5.done(T:Ts5 ts)(hp:l7 ts pairs told)(ht:∀q∈told,q.1<ts.length/\q.2<ts.length)(h:Cl5 ts pairs told L []){t u:T5}(mt:t∈ts)(mu:u∈ts):hm ts L t=hm ts L u ↔ eA ts pairs t u:=by
 have nt:=h.fin rfl
 have key:∀{t u:T5},t∈ts->u∈ts->t.op=u.op->t.kids.map (hm ts L)=u.kids.map (hm ts L)->hm ts L t=hm ts L u:=λ{t u} mt mu ho hk=>by
  have no:∀{t u:T5},t∈ts->u∈ts->t.op=u.op->t.kids.map (hm ts L)=u.kids.map (hm ts L)->ix ts u<ix ts t->hm ts L t=hm ts L u:=λ{t u} mt mu ho hk fO=>dG λne=>by
   have:(ix ts t,ix ts u)∈eG ts L ts.length:=_2R.mpr ⟨_0x mt,fO,by
    unfold j3
    rw[_11 mt,_11 mu,bm,bm]
    exact⟨decide_eq_true ho,decide_eq_true ne,decide_eq_true hk⟩⟩
   rw[nt] at this
   exact absurd this bj
  rcases d7 (ix ts t) (ix ts u) with q | q | q
  ·exact(no mu mt ho.symm hk.symm q).symm
  ·unfold hm;rw[q]
  ·exact no mt mu ho hk q
 constructor
 ·intro e
  have:=h.snd _ _ (_0x mt) (_0x mu) e
  rwa [_11 mt,_11 mu] at this
 ·intro F
  refine F (λt u=>hm ts L t=hm ts L u) ⟨⟨λ_=>rfl,λh=>h.symm,λh k=>h.trans k⟩,λp hp'=>?_,λt u a b e=>key a b rfl (by show[_]=[_];rw[e]),λt t' u u' a b e e'=>key a b rfl (by show[_,_]=[_,_];rw[e,e'])⟩
  rw[hp] at hp'
  obtain⟨q,hq,rfl⟩:=aq.mp hp'
  show hm ts L (tAt ts q.1)=hm ts L (tAt ts q.2)
  rw[_1N T.nd (ht q hq).1,_1N T.nd (ht q hq).2]
  exact h.all q hq
end
section
variable{prog:bS}{w:cy}{A:bB}{E:ae->ah->Prop}{s:ah}{d:ao}{ep:Nat}
open Classical in
theorem jG.of{h:a_}{a:ao}{xs:List (List AV×ao×ae)}(x:jG prog w h a ep xs):h.DictOfH (dT prog w) a xs:=by
 obtain⟨o,es,r⟩:=x
 exact⟨o,es,ep,r⟩
open Classical in
theorem _99{a:ao}{xs:List (List AV×ao×ae)}{k:List AV}{v:ae}{Q:Unit->ah->Prop}(hu:(dT prog w).room A)(eL:(dT prog w).is s.heap k a)(hm:jG prog w s.heap d ep xs)(eX:xs.length<=b8)
  (hQ:∀h' ep',jG prog w h' d ep' (storedH xs k a v)->((atKey xs k).isSome=true->ep'=ep)->bu d s.heap h'->Q () {s with heap:=h',toks:=s.toks+(dT prog w).draws k}) :
  wpAny (model prog w) A (dictSet d (.ref a) v) Q E s:=by
 obtain⟨o,es,ho,hc,hd,he,his,hn⟩:=hm
 unfold dictSet
 try with_reducible refine aS ?_
 refine aa ((dT prog w).pyHash hu eL ?_)
 unfold dictSetHashed
 try with_reducible refine aS ?_
 refine aa (vL (s:={s with toks:=s.toks+(dT prog w).draws k}) hu eL ho hd he his hn ?_ ?_)
 ·intro h_
  have l9:=atKey_none_of_get h_
  have v6:k ∉ xs.map (·.1):=vM h_
  refine aa (gn (uN (hz:=by have e:=size_of_entries he;exact _59 eX e) (s:={s with toks:=s.toks+(dT prog w).draws k}) ho hd (hQ _ (ep+1) ⟨_,_,bR _ ho (ma (iB hd _)),
   hc.mapDictKeys _,iB hd _,?_,?_,?_⟩ (λq=>by rw[l9] at q;cases q) (bn ..))))
  ·rw[jW l9]
   simp[he,oE]
  ·rw[jW l9]
   intro x hx
   rcases aK.mp hx with hx | hx
   ·exact(dT prog w).keeps (his x hx) ho hd (bn ..)
   ·obtain rfl:=aj.mp hx
    exact(dT prog w).keeps eL ho hd (bn ..)
  ·rw[jW l9,aM,cg]
   refine⟨hn,bC.mpr ⟨bj,.nil⟩,λx hx y hy e=>v6 ?_⟩
   obtain rfl:=aj.mp hy
   exact e ▸ hx
 ·intro j p hj
  refine aa (gn (aa (wpAny_updateDict (s:={s with toks:=s.toks+(dT prog w).draws k}) ho hd (wpAny_point (hQ _ ep ⟨_,_,bR _ ho (ma (uZ hd _)),
   hc.mapDict _,uZ hd _,?_,?_,?_⟩ (λ_=>rfl) (bn ..))))))
  ·rw[uP (o7 hn hj)]
   have:=modify_map_putAt (oE (dT prog w)) (λe:iT=>{e with val:=v}) k v (λ_ _=>rfl) hn hj
   rw[<-he] at this
   obtain⟨l⟩:=es
   simpa using this
  ·rw[uP (o7 hn hj)]
   intro x hx
   obtain⟨y,hy,rfl⟩:=aq.mp hx
   unfold putAt
   split <;> exact(dT prog w).keeps (his y hy) ho hd (bn ..)
  ·rw[uP (o7 hn hj),keys_map_putAt];exact hn
end
section
variable{c:Cx}{d:Nat}{σ:af}{Q:AV->af->Prop}{A:bB}{E:ae->ah->Prop}{s:ah}{Fz:Fzn}
open Classical in
theorem _1O{h:a_}{a:ao}{ep:Nat}{es:List (List AV×AV)}(S:St c.prog c.w Fz σ h)(e:σ a=some (.dictE ep es)):∃xs:List (List AV×ao×ae),jG c.prog c.w h a ep xs/\RVk h (xs.map λx=>(x.1,x.2.2)) es:=by
 obtain⟨xs,hd,h1,h2⟩:=S.cell _ _ e
 exact⟨xs,hd,by rw[bf];exact h1,by rw[bf];exact h2⟩
open Classical in
theorem _k4{a:ao}{ep:Nat}{es:List (List AV×AV)}{k:List AV}{x:AV}(e:σ a=some (.dictE ep es))(hk:d_ k)(hx:bz es k=some x)(h:Q x σ):gN c d (.ref a) (.tup k) σ Q:=by
 refine _6 [.r _,.x _] λA Fz s P E G kk iv rx=>?_
 obtain⟨t,rfl,eL⟩:=_0f hk rx
 obtain⟨xs,hxs,rk⟩:=_1O G.st e
 have hl:=rk.look k
 rw[hx,<-_0P] at hl
 cases q:atKey xs k with
 | none=>rw[q] at hl;exact hl.elim
 | some p=>
  rw[q] at hl
  exact _Q hxs.of.typeIs (λq=>nomatch q) slot_dict_getitem.lookup (wpAny_getItem_heap (knd:=dT c.prog c.w) (_0Q G.room) eL hxs.of q (kk.same G hl h))
open Classical in
theorem _k5{a:ao}{ep:Nat}{es:List (List AV×AV)}{k:List AV}{x:AV}{Q:af->Prop}(e:σ a=some (.dictE ep es))(hk:d_ k)(hz:bp es.length)(h:∀ep',((bz es k).isSome=true->ep'=ep)->Q (σ.set a (.dictE ep' (d9 es k x)))):ct c d .setItem [(.ref a),(.tup k),x] σ λ_ aX=>Q aX:=by
 refine _6 [.r _,.x _,.x _] λA Fz s P E G kk iv rx vv rv=>_2e ?_
 obtain⟨t,rfl,eL⟩:=_0f hk rx
 obtain⟨xs,hxs,rk⟩:=_1O G.st e
 have hT:=hxs.of.typeIs
 unfold setItem
 try with_reducible refine aS ?_
 refine aa (wpAny_sequenceKey hT (by decide) (aa (cV (name:=ab "__setitem__") hT slot_dict_setitem (b4 slot_dict_setitem hT entry_dict_setitem ?_ (args_dict_setitem _ _ _)))))
 refine aa (m:=Builtin.Dict.notOrdered "__setitem__" ⟨[.ref a,.ref t,vv],[]⟩) (iE hT (aa (m:=dictSet a (.ref t) vv) (_99 (_0Q G.room) eL hxs (_3R hz rk) λh' ep' r7 hep hs=>ad ⟨.none,rfl,ad ?_⟩)))
 have g0:=_2s hxs.of hs
 refine kk.to (G.st.write e hs (c':=.dictE ep' (d9 es k x)) ⟨_,r7,?_⟩) .none (h ep' λq=>hep ?_)
 ·have r:RVk h' ((storedH xs k t vv).map λx=>(x.1,x.2.2)) (d9 es k x):=by rw[_2t (_2r hxs.of)];exact(rk.grow g0).put k (rv.grow g0)
  refine⟨?_,?_⟩
  ·have:=r.1;rw[bf] at this;exact this
  ·have:=r.2;rw[bf] at this;exact this
 ·rw[<-q,<-sC (f:=λp:ao×ae=>p.2),_0P]
  exact(rk.look k).same
end
theorem _9a:uV table "dict.update.loop" = some Builtin.«dict.update.loop»:=entryFor_of_tree (by kernel_rfl)
theorem _2S:plainId "dict.update.loop" = true:=by decide +kernel
theorem _k6:typeLookup (.type "list") "keys" = pure none:=am_miss_of_fast (by kernel_rfl)
section
variable{prog:bS}{w:cy}{A:bB}{R:pY->ah->Prop}{I:ao}{fp wr:List ao}{G:Array u_->Array u_->Prop}{P:Nat->ae->Prop}{St:Nat->ah->Prop}
theorem _k7{E:ae->ah->Prop}{s:ah}{t n:Nat}{k x:ae}{Q:List ae->ah->Prop}(ht:IsT s.heap t #[k,x] n)(h:Q [k,x] s):wpAny (model prog w) A (nW (.ref t)) Q E s:=by
 unfold nW
 refine aa (lJ (show s.TypeIs (.ref t) "tuple" from⟨_,ht,rfl⟩) ?_)
 rw[if_pos (by decide)]
 exact aa (mM ht rfl (ad h))
theorem _k8{n:Nat}(W:WalksS prog w A.in1 I fp wr G n P St)(S:ao)(t5:S ∉ fp)(J:Nat->a_->Prop)(mv:∀i (s s':ah),St i s->Moved wr G s s'->J i s.heap->J i s'.heap)
  (add:∀i v (s:ah) (Q:Unit->ah->Prop) E,P i v->J i s.heap->∃t k x m,v = .ref t/\IsT s.heap t #[k,x] m/\((∀h' tk,bu S s.heap h'->J (i+1) h'->s.toks<=tk->Q () {s with heap:=h',toks:=tk})->wpAny (model prog w) A.in1 (dictSet S k x) Q E s)) :
  ∀(r i:Nat) (s:ah),n-i=r->i<=n->St i s->J i s.heap->(∀s',Moved (S::wr) G s s'->J n s'.heap->R (.ok (.ret .none)) s') ->
   codeAny (model prog w) A (.builtin "dict.update.loop" ⟨[.ref S,.ref I,rawInt i,.none],[]⟩) R s:=by
 have nD:∀b∈wr,b∈S::wr:=λb hb=>aA _ hb
 intro r
 induction r with
 | zero=>
  intro i s hk hi hst hS hR
  have iA:i=n:=by exact _1V hk hi
  subst iA
  refine dP _9a ?_
  rw[cQ _2S _]
  show wpAny _ A.in1 (pyNext (.ref I) >>= _) _ _ s
  refine aa (W.done s _ _ hst λs' hm=>?_)
  show wpAny _ A.in1 (ret Value.none) _ _ s'
  exact ad (hR s' (hm.mono nD) (mv _ _ _ hst hm hS))
 | succ r ih=>
  intro i s hk hi hst hS hR
  have fO:i<n:=by exact _1W hk hi
  refine dP _9a ?_
  rw[cQ _2S _]
  show wpAny _ A.in1 (pyNext (.ref I) >>= _) _ _ s
  refine aa (W.item i s _ _ fO hst λv s' hP hst' hm=>?_)
  have rB:J i s'.heap:=mv i s s' hst hm hS
  show wpAny _ A.in1 (holding [v] _ >>= _) _ _ s'
  refine aa (aS ?_)
  obtain⟨t,k,x,m,rfl,ht,hadd⟩:=add i v s' _ _ hP rB
  refine aa (wpAny_tryCatch (_k7 ht ?_))
  refine aS (hadd λh' tk sk hS2 htk=>?_)
  refine ad ⟨e7 _2S _,ih (i+1) _ (by exact _16 hk) fO (W.frame _ s' _ _ hst' htk λb hb o e=>?_) hS2 λkT hm'' hS''=>?_⟩
  ·rw[sk.2 b (λh:b=S=>t5 (by rw[<-h];exact hb))];exact e
  ·refine hR kT (Moved.trans W.gtrans ((hm.mono nD).then_heap htk λb o hb e=>?_) hm'') hS''
   rw[sk.2 b (λh:b=S=>hb (by rw[h];exact aE))];exact e
end
section
variable{prog:bS}{w:cy}{A:bB}{E:ae->ah->Prop}{s:ah}
theorem _k9{l:ao}{items:Array ae}{n:Nat}{Q:Option ae->ah->Prop}(hl:IsL s.heap l items n)(hA:A.handled=none)
  (h:∀h' tk,(∀b o,s.heap.get? b=some o->h'.get? b=some o)->Q none {s with heap:=h',toks:=tk}):wpAny (model prog w) A (getAttr? (.ref l) "keys") Q E s:=by
 have hT:∀tk',lL {s with toks:=tk'} (.ref l) "list" :=λ_=>⟨_,hl,rfl⟩
 obtain⟨hp,g,d,tk,os⟩:=s
 have f1:=sub_AttributeError
 have f3:=F.slot_list_getattribute.lookup
 have f4:=F.slot_list_getattribute.bind (.ref l)
 have f5:=am_list_getattr_none
 unfold getAttr? getAttrBy? getAttrBy
 repeat (any_goals (first | assumption | exact hT _ | ((with_reducible show wpAny _ _ (call (Value.builtin "list.__getattribute__") _ _) _ _ _);refine oF F.slot_list_getattribute (hT _) am_entry_list_getattribute (F.args_list_getattribute_2 _ _) (meets_getattribute_miss_list l items n _ (ab "keys") _ _k6 (by decide +kernel) (by size_fits)) ⟨hl,hA,λh' tk' e r7=>?_⟩)|wp_step))
 obtain⟨t',u',he⟩:=r7.there
 show wpAny _ _ (getattributeRaised _ _ _ _ _ _ _) _ _ _
 unfold getattributeRaised
 repeat (any_goals (first | assumption | wp_step))
 exact h _ _ r7.keeps
noncomputable def mE:iF:={cls:=.type "dict", data:=.dict #[]}
theorem _ka{l:ao}{items:Array ae}{n:Nat}{J:Nat->a_->Prop}{Q:ae->ah->Prop}(hh:A.handled=none)(hl:IsL s.heap l items n)
  (j0:∀h',(∀b o,(s.heap.push mE).get? b=some o->h'.get? b=some o)->J 0 h')
  (mv:∀i (h h':a_) I,s.heap.objs.size<I->(∀o,h.get? I=some o->¬dY o)->(∀b o,b≠I->h.get? b=some o->h'.get? b=some o)->J i h->J i h')
  (add:∀i v (A':bB) (s':ah) (Q:Unit->ah->Prop) E,A'.units<=A.units+3->items[i]? = some v->J i s'.heap->∃t k x m,v = .ref t/\IsT s'.heap t #[k,x] m/\((∀h' tk,bu s.heap.objs.size s'.heap h'->J (i+1) h'->s'.toks<=tk->Q () {s' with heap:=h',toks:=tk})->wpAny (model prog w) A' (dictSet s.heap.objs.size k x) Q E s'))
  (h:∀(h':a_) (tk:Nat),J items.size h'->(∀b o,s.heap.get? b=some o->h'.get? b=some o)->Q (.ref s.heap.objs.size) {s with heap:=h',toks:=tk}) :
  wpAny (model prog w) A (call (.type "dict") [.ref l]) Q E s:=by
 refine callType_codes (Q₁:=λobj bU=>obj = .ref s.heap.objs.size/\bU = {s with heap:=s.heap.push mE}) F.kt_called_dict (F.kt_typeCall_dict_1 _) F.entry_dict_init (kt_code_dict_new _ ⟨rfl,rfl⟩) ?_
 rintro obj bU ⟨rfl,rfl⟩
 have hT:lL {s with heap:=s.heap.push mE} (.ref s.heap.objs.size) "dict" :=⟨_,aH _ rfl,rfl⟩
 have xI:IsL (s.heap.push mE) l items n:=aG _ hl
 have xb:l<s.heap.objs.size:=bM hl
 refine⟨hT,F.args_dict_init_2 _ _,?_⟩
 unfold Builtin.«dict.__init__»
 refine aa ?_
 unfold Builtin.Dict.selfAndRest
 refine aa (iE hT ?_)
 show wpAny _ _ (pure (s.heap.objs.size,[Value.ref l])) _ _ _
 refine ad ?_
 show wpAny _ _ (nM "dict.__init__" s.heap.objs.size (.ref l) [] .none) _ _ _
 unfold nM
 refine aa (lJ (show lL {s with heap:=s.heap.push mE} (.ref l) "list" from⟨_,xI,rfl⟩) ?_)
 rw[if_pos (by decide)]
 refine aa (_k9 xI (by simp[hh]) λh1 tk1 k1=>?_)
 rw[if_pos (by decide)]
 have wM:IsL h1 l items n:=k1 _ _ xI
 have hD1:h1.get? s.heap.objs.size=some mE:=k1 _ _ (aH _ rfl)
 have fO:s.heap.objs.size<h1.objs.size:=bM hD1
 have xC:l≠h1.objs.size:=bQ (cN xb fO)
 try refine aa (gn ?_)
 refine aa (o3 wM.isList ?_)
 have t5:s.heap.objs.size ∉ [h1.objs.size,l]:=λhb=>
  (aO.mp hb).elim (bQ fO) λhb=>nJ xb (aj.mp hb)
 have W:=(Walks.list (A:=A.in1.in1) (by simp[hh]) h1.objs.size l xC items).toS (prog:=prog) (w:=w)
 refine ad ⟨e7 _2S _,_k8 W s.heap.objs.size t5 J (λi s1 s2 st hm hj=>mv i _ _ h1.objs.size fO (λo ho hl=>?_) (λb o hb e=>hm.heap b o (λm=>hb (aj.mp m)) e) hj) (λi v s1 Q E hv hj=>add i v _ s1 Q E (by simp[Around.in1]) hv hj) (items.size-0) 0 _ rfl (b0 _)
  ⟨⟨_,aH _ rfl,rfl,rfl⟩,(wM.isList.push _)⟩ (j0 _ λb o e=>aG _ (k1 _ _ e)) ?_⟩
 ·obtain⟨o2,e2,rq,_⟩:=st.1
  obtain rfl:=aB (ho.symm.trans e2)
  exact _O ho rq (by decide) ho hl
 ·intro s' hm rB
  refine⟨rfl,_7r hm.gens hm.drawn hm.os (h _ _ rB λb o e=>?_)⟩
  have xh:=bM e
  refine hm.heap b o (λhb=>?_) (aG _ (k1 _ _ (aG _ e)))
  exact(aO.mp hb).elim (bQ xh) λhb=>bQ (cN xh fO) (aj.mp hb)
end
noncomputable def dictOf{K V:Type}[DecidableEq K](l:List (K×V)):List (K×V):=l.foldl (λm x=>d9 m x.1 x.2) []
theorem _kb{α β:Type}(f:β->α->β)(b:β){l:List α}{i:Nat}{x:α}(h:l[i]? = some x):(l.take (i+1)).foldl f b=f ((l.take i).foldl f b) x:=by
 rw[bJ,h,List.foldl_append];rfl
theorem _kc{K V:Type}[DecidableEq K](l:List (K×V))(k:K)(v:V):(d9 l k v).length<=l.length+1:=by
 induction l with
 | nil=>exact aD 1
 | cons a l ih=>
  obtain⟨a,u⟩:=a
  rw[_y]
  split
  ·exact lO _
  ·exact cC ih
theorem _9b{K V:Type}[DecidableEq K]:∀(l:List (K×V)) (m:List (K×V)),(l.foldl (λm x=>d9 m x.1 x.2) m).length<=m.length+l.length
 | [],m=>aD _
 | x::l,m=>by
  have h1:=_9b l (d9 m x.1 x.2)
  have h2:=_kc m x.1 x.2
  show(l.foldl _ (d9 m x.1 x.2)).length<=m.length+(l.length+1)
  exact _e4 h1 h2
theorem _kd{h:a_}{v:ae}{a b:AV}(r:RV h v (.tup [a,b])):∃t n k x,v = .ref t/\IsT h t #[k,x] n/\RV h k a/\RV h x b:=by
 obtain⟨t,its,n,rfl,ht,rs⟩:=_1k r
 obtain⟨k,r1,e1,rk,x,r2,e2,rx,rfl⟩:=rs
 obtain⟨its⟩:=its
 obtain rfl:its=[k,x]:=by rw[show its=k::r1 from e1,e2]
 exact⟨t,n,k,x,rfl,ht,rk,rx⟩
section
variable{c:Cx}{d:Nat}{σ:af}{Q:AV->af->Prop}{A:bB}{E:ae->ah->Prop}{s:ah}{Fz:Fzn}
theorem _ke{items:Array ae}{h h':a_}{α:Type}{f:α->AV}{ps:List α}(r:RVs h items.toList (ps.map f))(g:de h h'){i:Nat}{v:ae}(hv:items[i]? = some v):∃p,ps[i]? = some p/\RV h' v (f p):=by
 have hr:=r.get i
 rw[a0,hv,aQ] at hr
 cases e:ps[i]? with
 | none=>rw[e] at hr;exact hr.elim
 | some p=>rw[e] at hr;exact⟨p,rfl,RV.grow g hr⟩
open Classical in
theorem _kf{l:ao}{ps:List (List AV×AV)}(e:σ l=some (.list (ps.map λp=>.tup [.tup p.1,p.2])))(hk:∀p∈ps,d_ p.1)(hz:bp ps.length)(h:∀(m:ao) (ep:Nat),σ m=none->Q (.ref m) (σ.set m (.dictE ep (dictOf ps)))):br c d (.raw (.type "dict")) [.ref l] σ Q:=by
 refine _6 [.b _,.r _] λA Fz s P E G kk=>?_
 obtain⟨its,n,hl,ri⟩:=_k G.st e
 have cL:its.size=ps.length:=by rw[<-aw,ri.length];exact ac _
 have hu:=G.room.un
 refine _ka (J:=λi h'=>(∀b o,s.heap.get? b=some o->h'.get? b=some o)/\∃ep,∃xs:List (List AV×ao×ae),jG c.prog c.w h' s.heap.objs.size ep xs/\RVk h' (xs.map λx=>(x.1,x.2.2)) (dictOf (ps.take i))) G.room.hn hl
  (λh' k=>⟨λb o e=>k _ _ (aG _ e),0,[],⟨_,#[],k _ _ (aH _ rfl),⟨rfl,rfl,rfl⟩,rfl,rfl,λ_ x=>absurd x bj,.nil⟩,rfl,rfl⟩)
  (λi h1 h2 I hI hl k ⟨h0,ep,xs,hx,rk⟩=>?_) (λi v A' s' Q' E' hA hv ⟨h0,ep,xs,hx,rk⟩=>?_) λh' tk ⟨h0,ep,xs,hx,rk⟩ k=>?_
 ·have g:de h1 h2:=λb o ho fO=>k _ _ (λe=>hl o (e ▸ ho) fO) ho
  obtain⟨o,es,ho,hc,hd,he,his,hn⟩:=hx
  exact⟨λb o e=>k _ _ (bQ (cN (bM e) hI)) (h0 b o e),ep,xs,⟨o,es,k _ _ (bQ hI) ho,hc,hd,he,λx m=>⟨(his x m).1.grow g,(his x m).2⟩,hn⟩,rk.grow g⟩
 ·obtain⟨p,hp,rp⟩:=_ke ri (_f h0) hv
  obtain⟨t,n,ka,xa,rfl,ht,rka,rxa⟩:=_kd rp
  obtain⟨b,rfl,eL⟩:=_0f (hk p (aC hp)) rka
  refine⟨t,_,xa,n,rfl,ht,λk=>?_⟩
  have fO:i<ps.length:=by
   rcases bX i ps.length with q | q
   ·exact q
   ·rw[da q] at hp;cases hp
  refine _99 (show A'.units+8<cLine by exact _e5 hu hA) eL hx ?_ λh' ep' r7 _ hs=>?_
  ·have q:=_9b (ps.take i) ([]:List (List AV×AV))
   rw[<-ac (λx:List AV×ao×ae=>(x.1,x.2.2)),rk.len]
   have:=hz.le
   rw[cX] at q
   show(dictOf (ps.take i)).length<=b8
   have q2:(dictOf (ps.take i)).length<=0+min i ps.length:=q
   exact _e6 this q2
  ·have g0:=_2s hx.of hs
   refine k h' _ hs ⟨λb o e=>(hs.2 b (bQ (bM e))).trans (h0 b o e),ep',_,r7,?_⟩ (ii _ _)
   rw[_2t (_2r hx.of),dictOf,_kb _ _ hp]
   exact(rk.grow g0).put p.1 (rxa.grow g0)
 ·rw[cL,bT] at rk
  have r:xs.map (·.1)=(dictOf ps).map (·.1)/\RVs h' (xs.map (·.2.2)) ((dictOf ps).map (·.2)):=by
   refine⟨?_,?_⟩
   ·have:=rk.1;rw[bf] at this;exact this
   ·have:=rk.2;rw[bf] at this;exact this
  exact kk.new (G.st.new (c:=.dictE ep (dictOf ps)) (a:=s.heap.objs.size) (_a _) k ⟨xs,hx,r⟩) λm=>h m ep
end
section
variable{prog:bS}{w:cy}{K:Type}[DecidableEq K]{knd:KeyKind prog w K}{A:bB}{E:ae->ah->Prop}{s:ah}
end
section
variable{c:Cx}{d:Nat}{σ:af}{Q:AV->af->Prop}{A:bB}{E:ae->ah->Prop}{s:ah}{Fz:Fzn}
theorem _kg{l:List ae}{eI:List (Int×ae)}(hl:l.length=eI.length)(h:∀(j:Nat) v,l[j]? = some v->∃k x,eI[j]? = some (k,x)/\(intKind c.prog c.w).is k v=true):IntsAre l (eI.map (·.1)):=by
 induction l generalizing eI with
 | nil=>
  cases eI with
  | nil=>exact .nil
  | cons _ _=>exact nomatch hl
 | cons v l ih=>
  cases eI with
  | nil=>exact nomatch hl
  | cons kv eI=>
   obtain⟨k,x,q1,q2⟩:=h 0 v rfl
   obtain⟨t,rfl⟩:=_79 q2
   cases q1
   exact .cons _ _ (ih (iw hl) λj v q=>h (j+1) v q)
theorem _kh{a:ao}{es:List (Int×AV)}(e:σ a=some (.dictI es))(hz:es.length<64)(h:∀(m:ao) (ms:List Int),ms.Perm (es.map (·.1))->ms.Pairwise (· <= ·)->σ m=none->Q (.ref m) (σ.set m (.list (cJ ms)))):br c d (.raw (.builtin "sorted")) [.ref a] σ Q:=by
 refine _6 [.b _,.r _] λA Fz s P E G kk=>?_
 obtain⟨eI,hd,rk⟩:=_0N G.st e
 have cL:=rk.len
 have wO:eI.map (·.1)=es.map (·.1):=rk.1
 have xB:=_1o G.base G.bs G.st e
 obtain⟨ep,hat⟩:=hd.dictAt
 refine _42 (PV:=λvals=>IntsAre vals (eI.map (·.1))) (SO:=λ_ out=>∃ms,IntsAre out ms/\ms.Perm (eI.map (·.1))/\ms.Pairwise (· <= ·)) (λvals a1=>by rw[a1.length,ac,cL];exact hz)
  (λR k=>?_) (λvals s1 L P E a1 _ _ uE k=>list_sort_tree uE a1 (by rw[a1.length,ac,cL];exact hz) λout ns' b1 b2 b3=>k out ⟨ns',b1,b2,b3⟩) λm vals out ee s' k kq mK hat2 _ ⟨ms,b1,b2,b3⟩=>
   kk.newS (G.st.new (c:=.list (cJ ms)) mK k ⟨out,ee,hat2,_2v b1⟩) kq.os kq.gens λm=>h m ms (wO ▸ b2) b3
 refine _7I (T:="dict") (n:=eI.length) (PV:=λP=>P=λi v=>∃k x,eI[i]? = some (k,x)/\(intKind c.prog c.w).is k v=true) G.room.hn hd.typeIs (by decide) (by decide) (λ_ _ _ _=>kdl_hint_dict) (by rw[cL,cY];exact _1Y hz) (λA' E' s1 Q' kp hQ=>?_) λs' bV P kp kq hs hv hP=>?_
 ·have wb:s1.heap.DictAt (intKind c.prog c.w) a eI ep:=hat.keep kp
  refine wpAny_pyIter_dict xB wb (hQ s1.heap.objs.size [s1.heap.objs.size,a] _ (λi h=>h.IsKeyIter s1.heap.objs.size a i eI.length ep/\h.DictAt (intKind c.prog c.w) a eI ep) _ (λA'' hA''=>Walks.dictKeys hA'' s1.heap.objs.size a (bQ wb.lt_size) eI ep)
   ⟨⟨_,aH _ rfl,rfl,rfl⟩,wb.push _⟩ (λb o e=>aG _ e) ⟨rfl,rfl⟩ (_a _) (λb hb=>(aO.mp hb).elim (λe=>.inr (e ▸ _a _)) λhb=>.inl (aj.mp hb)) rfl)
 ·subst hP
  exact k _ s' kp kq (_kg (by rw[aw,hs]) λj v q=>hv j v (by rw[<-a0];exact q))
end
section
variable{c:Cx}{d:Nat}{σ:af}{Q:AV->af->Prop}{A:bB}{E:ae->ah->Prop}{s:ah}{Fz:Fzn}
open Classical in
theorem _4G{x y:AV}{D D':oK}(hx:Den σ x D)(hy:Den σ y D')(hd:kqdOk 20 D=true)(kU:kqdOk 20 D'=true)(h:Q (.bool (decide (D≠D'))) σ):eQ c d .NotEq x y σ Q:=by
 refine _6 [.x _,.x _] λA Fz s P E G k v rv u ru=>?_
 obtain⟨as,ha⟩:=_H G.st D hx rv
 obtain⟨bs,hb'⟩:=_H G.st D' hy ru
 have sh:∀{D:oK},kqdOk 20 D=true->iO (kqdP D)=true:=λ{D} hd=>by
  have l:=kqd_lay 20 D hd
  unfold iO;rw[l.1,gx];exact decide_eq_true (ay l.2 (by decide))
 refine oG ha hb' (sh hd) (sh kU) G.room.data ?_
 have q:=kqd_eqv 20 D D' 20 hd kU
 rw[show(kqdP D).eqv (kqdP D')=decide (D=D') by
  by_cases hq:D=D'
  ·rw[decide_eq_true hq];exact q.mpr hq
  ·rw[decide_eq_false hq];exact Bool.eq_false_iff.mpr λx=>hq (q.mp x),<-decide_not]
 exact k.same G (RV.bool _) h
end
section
variable{prog:bS}{w:cy}{A:bB}{E:ae->ah->Prop}{s:ah}{d:ao}{ep:Nat}
theorem _ki{v:ao}{od:iF}{es:Array iT}{Q:ae->ah->Prop}(hv:s.heap.IsValuesView v d)(ho:s.heap.get? d=some od)(pT:od.data = .dict es ep)
  (hQ:Q (.ref s.heap.objs.size) {s with heap:=s.heap.push {cls:=.type "dict_valueiterator", data:=.fields #[.ref d,.int 0 0,.int es.size 0,.int ep 0]}}):wpAny (model prog w) A (pyIter (.ref v)) Q E s:=by
 obtain⟨ov,hov,hcv,hdv⟩:=id hv
 refine jU hv.typeIs sd (b4 sd hv.typeIs F.entry_dict_values_iter ?_ (F.args_dict_values_iter_1 _))
 unfold Builtin.«dict_values.__iter__»
 refine aa (ad ?_)
 refine aa ?_
 unfold ui
 refine aa (wpAny_field hov hdv (x:=.ref d) rfl (ad ?_))
 refine aa ?_
 unfold uh
 refine aa (jV ho pT ?_)
 refine aa (qD ho pT ?_)
 have tz:gw "dict_valueiterator" = false:=by decide
 simp only[tz,sZ,if_false]
 refine dc (ad ⟨_,rfl,"dict_valueiterator", _,⟨_,aH _ rfl,rfl⟩,F.slot_dict_valueiterator_next.lookup,?_⟩)
 simpa [rawInt] using hQ
theorem _kj{it:ao}{i:Nat}{od:iF}{es:Array iT}{e:iT}{Q:Option ae->ah->Prop}(iD:s.heap.IsValIter it d i es.size ep)(wG:s.heap.get? d=some od)(md:od.data = .dict es ep)(hx:es[i]? = some e)
  (hQ:∀h',h'.IsValIter it d (i+1) es.size ep->bu it s.heap h'->Q (some e.val) {s with heap:=h'}):wpAny (model prog w) A (pyNext (.ref it)) Q E s:=by
 obtain⟨o,ho,hc,hd⟩:=id iD
 unfold pyNext
 refine aa (iV (cV (name:=ab "__next__") iD.typeIs fb
  (b4 fb iD.typeIs oS ?_ (oJ _))))
 refine aa (ad ?_)
 refine aa ?_
 refine aa ?_
 first | refine aa (fF iD.typeIs (ad ?_)) | refine aa (gL iD.typeIs (ad ?_))
 refine aa (ib ho hd ?_)
 have tz:gw "dict_valueiterator" = false:=by decide
 rw[tz,if_neg aR]
 show wpAny _ _ (if(Value.ref d == Value.none)=true then _ else _) _ _ s
 rw[if_neg (show ¬((Value.ref d == Value.none)=true) from aR)]
 refine aa (ad ?_)
 refine aa (jV wG md ?_)
 rw[if_neg (by simp)]
 refine aa (ad ?_)
 refine aa (qD wG md ?_)
 rw[if_neg (by simp)]
 refine ad ?_
 dsimp only
 rw[if_neg (show ¬((i:Int)<0) from by exact _15),cb,hx]
 refine aa ?_
 first | refine aa (fF iD.typeIs (ad ?_)) | refine aa (gL iD.typeIs (ad ?_))
 refine aa (l_ iD.typeIs ?_)
 show wpAny _ _ (setField (.ref it) 1 (rawInt ((i:Int)+1)) >>= _) _ _ s
 refine aa (ff ho hd (by simp) ?_)
 have tA:(s.heap.update it (dW (·.setIfInBounds 1 (rawInt ((i:Int)+1))))).IsValIter it d (i+1) es.size ep:=
  ⟨_,bR _ ho (fK (cT hd _)),(jy ..).trans hc,by rw[cT hd];simp[rawInt]⟩
 refine aa (aS ?_)
 refine aa (l_ (s:={s with heap:=s.heap.update it (dW (·.setIfInBounds 1 (rawInt ((i:Int)+1))))}) tA.typeIs ?_)
 refine aa (l_ (s:={s with heap:=s.heap.update it (dW (·.setIfInBounds 1 (rawInt ((i:Int)+1))))}) tA.typeIs ?_)
 show wpAny _ _ (pure e.val) _ _ _
 exact ad (ad ⟨_,rfl,ad (hQ _ tA (bn ..))⟩)
theorem _kk{it:ao}{i:Nat}{od:iF}{es:Array iT}{Q:Option ae->ah->Prop}(hh:A.handled=none)(iD:s.heap.IsValIter it d i es.size ep)(wG:s.heap.get? d=some od)(md:od.data = .dict es ep)(hx:es[i]? = none)
  (hQ:∀h',jw it s.heap h'->Q none {s with heap:=h'}):wpAny (model prog w) A (pyNext (.ref it)) Q E s:=by
 obtain⟨o,ho,hc,hd⟩:=id iD
 unfold pyNext
 refine aa (iV (cV (name:=ab "__next__") iD.typeIs fb
  (b4 fb iD.typeIs oS ?_ (oJ _))))
 refine aa (ad ?_)
 refine aa ?_
 refine aa ?_
 first | refine aa (fF iD.typeIs (ad ?_)) | refine aa (gL iD.typeIs (ad ?_))
 refine aa (ib ho hd ?_)
 have tz:gw "dict_valueiterator" = false:=by decide
 rw[tz,if_neg aR]
 show wpAny _ _ (if(Value.ref d == Value.none)=true then _ else _) _ _ s
 rw[if_neg (show ¬((Value.ref d == Value.none)=true) from aR)]
 refine aa (ad ?_)
 refine aa (jV wG md ?_)
 rw[if_neg (by simp)]
 refine aa (ad ?_)
 refine aa (qD wG md ?_)
 rw[if_neg (by simp)]
 refine ad ?_
 dsimp only
 rw[if_neg (show ¬((i:Int)<0) from by exact _15),cb,hx]
 refine aa ?_
 first | refine aa (fF iD.typeIs (ad ?_)) | refine aa (gL iD.typeIs (ad ?_))
 show wpAny _ _ (setField (.ref it) 0 .none >>= _) _ _ s
 refine aa (ff ho hd (by simp) ?_)
 refine cx (_3Z (A:=A) (E:=E) (Q:=Q) (s:=s) hh (bn ..).extBut hQ) (λ_ _ x=>x.elim) λe s' x=>?_
 refine aa (cx x ?_ λ_ _ e=>e)
 rintro b kT ⟨rfl,q⟩
 exact ad q
end
section
variable{c:Cx}{d:Nat}{σ:af}{Q:AV->af->Prop}{A:bB}{E:ae->ah->Prop}{s:ah}{Fz:Fzn}
end
noncomputable def T5.av:T5->List AV
 | .a=>[.str "a"]
 | .b=>[.str "b"]
 | .c=>[.str "c"]
 | .f t=>[.str "f", .tup t.av]
 | .g t u=>[.str "g", .tup t.av,.tup u.av]
theorem T5.av_eq(t:T5):t.av = .str t.op::jn (t.kids.map T5.av):=by cases t <;> rfl
noncomputable def d0(l:List T5):List Nat:=l.flatMap T5.code
theorem _4H(t:T5)(l:List T5):d0 (t::l)=t.code++d0 l:=rfl
theorem _0z(t:T5):∃n,qY t.op=[n]/\t.code=n::d0 t.kids:=by
 cases t with
 | a=>exact⟨97,rfl,rfl⟩
 | b=>exact⟨98,rfl,rfl⟩
 | c=>exact⟨99,rfl,rfl⟩
 | f t=>exact⟨102,rfl,by show _=102::(t.code++[]);rw[bh];rfl⟩
 | g t u=>exact⟨103,rfl,by show _=103::(t.code++(u.code++[]));rw[bh];rfl⟩
theorem _9c:∀{l m:List T5},d0 l=d0 m->l=m
 | [],[],_=>rfl
 | [],t::m,h=>absurd (show[]=t.code++d0 m from h) (by obtain⟨n,_,e⟩:=_0z t;rw[e];exact λq=>nomatch q)
 | t::l,[],h=>absurd (show t.code++d0 l=[] from h) (by obtain⟨n,_,e⟩:=_0z t;rw[e];exact λq=>nomatch q)
 | t::l,u::m,h=>(_4B t u h).elim λe e2=>by rw[e,_9c e2]
theorem _4I:∀(a:List Nat) {r q:List Nat},a++r<a++q ↔ r<q
 | [],_,_=>rS
 | x::a,r,q=>by
  rw[dA,dA,cF]
  exact⟨λh=>h.elim (λh=>absurd h (db _)) λh=>(_4I a).mp h.2,λh=>.inr ⟨rfl,(_4I a).mpr h⟩⟩
theorem _2T{t u:T5}(h:t.av=u.av):t=u:=by
 have key:∀{t:T5} {u:T5},t.av=u.av->t=u:=λ{t}=>by
  induction t with
  | a=>intro u h;cases u <;> first | rfl | exact absurd (AV.str.inj (aL h).1) (by decide)
  | b=>intro u h;cases u <;> first | rfl | exact absurd (AV.str.inj (aL h).1) (by decide)
  | c=>intro u h;cases u <;> first | rfl | exact absurd (AV.str.inj (aL h).1) (by decide)
  | f t ih=>
   intro u h
   cases u with
   | f u=>exact congrArg T5.f (ih (AV.tup.inj (aL (aL h).2).1))
   | _=>exact absurd (AV.str.inj (aL h).1) (by decide)
  | g t t2 ih ih2=>
   intro u h
   cases u with
   | g u u2=>
    have h2:=(aL h).2
    rw[ih (AV.tup.inj (aL h2).1),ih2 (AV.tup.inj (aL (aL h2).2).1)]
   | _=>exact absurd (AV.str.inj (aL h).1) (by decide)
 exact key h
noncomputable instance:DecidableEq T5:=λt u=>decidable_of_decidable_of_iff (⟨_2L,congrArg _⟩:t.code=u.code ↔ t=u)
noncomputable def T5.dep:T5->Nat
 | .f t=>t.dep+1
 | .g t u=>max t.dep u.dep+1
 | _=>0
theorem T5.key:∀{n:Nat} {t:T5},t.dep<=n->iZ (n+1) (.tup t.av)=true:=λ{n t}=>by
 induction t generalizing n with
 | a=>exact λ_=>by cases n <;> rfl
 | b=>exact λ_=>by cases n <;> rfl
 | c=>exact λ_=>by cases n <;> rfl
 | f t ih=>
  intro h
  match n,h with
  | n+1,h=>
   show([AV.str "f", .tup t.av].all (iZ (n+1)))=true
   rw[gv,gv,ih (ew h)];rfl
 | g t u ih ih2=>
  intro h
  match n,h with
  | n+1,h=>
   show([AV.str "g", .tup t.av,.tup u.av].all (iZ (n+1)))=true
   have h:=kA.mp (ew h)
   rw[gv,gv,gv,ih h.1,ih2 h.2];rfl
theorem T5.keyed{t:T5}(h:t.dep<=7):d_ t.av:=λa ha=>b_.mp (show t.av.all (iZ 7)=true from T5.key h) a ha
theorem _08{t k:T5}(hk:k∈t.kids):k.dep<t.dep:=by
 cases t with
 | f t=>
  obtain rfl:=aj.mp hk
  exact cD _
 | g t u=>
  rcases aO.mp hk with rfl | hk
  ·exact jz (Nat.le_max_left _ _)
  ·obtain rfl:=aj.mp hk
   exact jz (Nat.le_max_right _ _)
 | _=>exact absurd hk bj
section
variable{prog:bS}{w:cy}{s:ah}{r:Nat}{F:Bool->Prop}{fin:Bool}
inductive oW(prog:bS)(w:cy)(s:ah)(r:Nat)(F:Bool->Prop)(fin:Bool):List (ae×ae)->Prop
 | nil (h:F fin):oW prog w s r F fin []
 | same {p q:ae} {l:List (ae×ae)} (h:∀A E (Q:Bool->ah->Prop),A.units+r < cLine->Q true s->wpAny (model prog w) A (eqBool p q) Q E s) (k:oW prog w s r F fin l):oW prog w s r F fin ((p,q)::l)
 | less {p q:ae} {l:List (ae×ae)} (c:Bool) (h:∀A E (Q:Bool->ah->Prop),A.units+r < cLine->Q false s->wpAny (model prog w) A (eqBool p q) Q E s)
   (h2:∀A E (Q:ae->ah->Prop),A.units+r<cLine->Q (.bool c) s->wpAny (model prog w) A (g7 .Lt p q) Q E s) (k:F c):oW prog w s r F fin ((p,q)::l)
variable{A:bB}{E:ae->ah->Prop}
theorem _kl{x y:ao}{ox oy:iF}{xs ys:Array ae}{n m:Nat}{Q:ae->ah->Prop}(hx:s.heap.get? x=some ox)(dx:ox.data = .seq xs n)(hy:s.heap.get? y=some oy)(dy:oy.data = .seq ys m)(tx:s.TypeIs (.ref x) "tuple")(ty:s.TypeIs (.ref y) "tuple")
  (h:oW prog w s r (λc=>Q (.bool c) s) (decide (xs.size<ys.size)) (xs.toList.zip ys.toList)) (hr:A.units+r+1<cLine):wpAny (model prog w) A (g7 .Lt (.ref x) (.ref y)) Q E s:=by
 refine wpAny_richCompare_same_room (op:=.Lt) tx ty F.slot_tuple_lt (b4 F.slot_tuple_lt tx F.entry_tuple_lt ?_ (F.args_tuple_lt_2 _ _)) (by exact _e7 hr)
 have hr':A.in1.units+r<cLine:=by show A.units+1+r<cLine;exact _5M hr
 show wpAny _ _ (rG (.ref y) (.type "tuple") >>= _) _ _ s
 refine aa (iN ty t8 ?_)
 rw[if_neg (show ¬((!true)=true) by decide)]
 refine aa (oz hx dx ?_)
 refine aa (oz hy dy ?_)
 refine aa ?_
 refine kW _ (λrest t s'=>t.1=none/\s'=s/\oW prog w s r (λc=>Q (.bool c) s) (decide (xs.size<ys.size)) rest) _ ?_ ?_ _ _ ⟨rfl,rfl,h⟩
 ·rintro⟨u,v⟩ rest t s' ⟨ht,rfl,hl⟩
  cases hl with
  | same h1 k=>
   refine aa (h1 _ _ _ hr' ?_)
   rw[if_neg (show ¬((!true)=true) by decide)]
   exact ad ⟨rfl,rfl,k⟩
  | less c h1 h2 k=>
   refine aa (h1 _ _ _ hr' ?_)
   rw[if_pos (show(!false)=true by decide)]
   exact aa (gn (aa (h2 _ _ _ hr' (aa (ad (ad (ad ⟨_,rfl,(λe=>nomatch e),k⟩)))))))
 ·rintro⟨r1,r2⟩ s' ⟨ht,rfl,hl⟩
  cases hl with
  | nil h=>
   obtain rfl:r1=none:=ht
   exact ad ⟨_,rfl,(λe=>nomatch e),h⟩
noncomputable def avL(l:List T5):List AV:=jn (l.map T5.av)
theorem _c(l:List T5):(avL l).length=l.length:=by unfold avL jn;rw[ac,ac]
open Classical in
theorem _km{h:a_}{t u:T5}{x y:ae}(hs:s.heap=h)(ht:t.dep<=7)(hu:u.dep<=7)(rx:RV h x (.tup t.av))(ry:RV h y (.tup u.av)){Q:Bool->ah->Prop}{E:ae->ah->Prop}(hr:A.units+8<cLine)(q:Q (decide (t=u)) s):wpAny (model prog w) A (eqBool x y) Q E s:=by
 subst hs
 obtain⟨a,_,rfl,_⟩:=id rx
 obtain⟨b,_,rfl,_⟩:=id ry
 refine(dT prog w).eqBool hr ⟨rx,T5.keyed ht⟩ ⟨ry,T5.keyed hu⟩ ?_
 refine(decide_eq_decide.mpr ⟨_2T,λe=>by rw[e]⟩:decide (t.av=u.av)=decide (t=u)) ▸ q
theorem _4J{ts us:List T5}{vs ws:List ae}(h8:8<=r)(dt:∀t∈ts,t.dep<=7)(du:∀t∈us,t.dep<=7)
  (less:∀t∈ts,∀u∈us,∀x y:ae,RV s.heap x (.tup t.av)->RV s.heap y (.tup u.av)->∀A E (Q:ae->ah->Prop),A.units+r<cLine->Q (.bool (decide (t.code<u.code))) s->wpAny (model prog w) A (g7 .Lt x y) Q E s)
  (rv:RVs s.heap vs (avL ts)) (ru:RVs s.heap ws (avL us)) (hf:fin=decide (ts.length<us.length)) (q:F (decide (d0 ts<d0 us))):oW prog w s r F fin (vs.zip ws):=by
 induction ts generalizing us vs ws with
 | nil=>
  obtain rfl:vs=[]:=rv
  refine .nil ?_
  rw[hf]
  cases us with
  | nil=>exact q
  | cons u us=>
   obtain⟨n,_,e⟩:=_0z u
   rw[_4H,e,show decide (d0 []<n::d0 u.kids++d0 us)=true from decide_eq_true (List.nil_lt_cons _ _)] at q
   rw[show decide (([]:List T5).length<(u::us).length)=true from decide_eq_true (ga _)];exact q
 | cons t ts ih=>
  cases us with
  | nil=>
   obtain rfl:ws=[]:=ru
   rw[mh]
   refine .nil ?_
   rw[hf,show decide ((t::ts).length<([]:List T5).length)=false from decide_eq_false (ca _)]
   rw[show decide (d0 (t::ts)<d0 [])=false from decide_eq_false (List.not_lt_nil _)] at q
   exact q
  | cons u us=>
   obtain⟨x,vr,rfl,rx,rv⟩:=rv
   obtain⟨y,wr,rfl,ry,ru⟩:=ru
   rw[dp]
   have mt:=aE (a:=t) (l:=ts)
   have mu:=aE (a:=u) (l:=us)
   have xl:∀A E (Q:Bool->ah->Prop),A.units+r<cLine->Q (decide (t=u)) s->wpAny (model prog w) A (eqBool x y) Q E s:=λA E Q hr q=>_km rfl (dt t mt) (du u mu) rx ry (by exact _e8 h8 hr) q
   by_cases e:t=u
   ·rw[decide_eq_true e] at xl
    refine .same xl (ih (λt m=>dt t (.tail _ m)) (λt m=>du t (.tail _ m)) (λt m u m2=>less t (.tail _ m) u (.tail _ m2)) rv ru (by rw[hf];simp) ?_)
    subst e
    rw[show decide (d0 ts<d0 us)=decide (d0 (t::ts)<d0 (t::us)) from decide_eq_decide.mpr (by rw[_4H,_4H];exact(_4I _).symm)]
    exact q
   ·rw[decide_eq_false e] at xl
    refine .less (decide (t.code<u.code)) xl (less t mt u mu x y rx ry) ?_
    rw[show decide (t.code<u.code)=decide (d0 (t::ts)<d0 (u::us)) from decide_eq_decide.mpr (_jS e _ _).symm]
    exact q
theorem _1P{h:a_}{x:ae}{l:List AV}(r:RV h x (.tup l)):∃a its n,x = .ref a/\h.get? a=some (seqObj "tuple" its n)/\RVs h its.toList l:=by
 obtain⟨a,its,rfl,⟨n,ha⟩,ri⟩:=r
 exact⟨a,its,n,rfl,ha,ri⟩
theorem _9d:∀(n:Nat) {t u:T5} {x y:ae} {A:bB} {E:ae->ah->Prop} {Q:ae->ah->Prop},t.dep<n->u.dep<n->n<=8->RV s.heap x (.tup t.av)->RV s.heap y (.tup u.av)->A.units+(n+8)<cLine->Q (.bool (decide (t.code<u.code))) s->wpAny (model prog w) A (g7 .Lt x y) Q E s:=by
 intro n
 induction n with
 | zero=>exact λh=>absurd h (ca _)
 | succ n ih=>
  intro t u x y A E Q dt du hn rx ry hr q
  obtain⟨a,xs,k,rfl,ha,rx⟩:=_1P rx
  obtain⟨b,ys,l,rfl,hb,ry⟩:=_1P ry
  have lx:=rx.length
  have ly:=ry.length
  rw[t.av_eq] at rx lx
  rw[u.av_eq] at ry ly
  refine _kl (r:=n+8) ha rfl hb rfl ⟨_,ha,rfl⟩ ⟨_,hb,rfl⟩ ?_ (by exact _e9 hr)
  obtain⟨v,vr,exs,⟨t1,rfl⟩,rx⟩:=rx
  obtain⟨v',wr,eys,⟨t2,rfl⟩,ry⟩:=ry
  rw[exs,eys,dp]
  obtain⟨m1,c1,e1⟩:=_0z t
  obtain⟨m2,c2,e2⟩:=_0z u
  have op:t.op=u.op ↔ m1=m2:=⟨λe=>by rw[e,c2] at c1;exact(aL c1).1.symm,λe=>_8Y (by rw[c1,c2,e])⟩
  have inj:(ab t.op=ab u.op) ↔ t.op=u.op:=⟨_s,λe=>by rw[e]⟩
  by_cases e:t.op=u.op
  ·refine .same (λA E Q _ h=>pV (by rw[decide_eq_true (inj.mpr e)];exact h)) (_4J (fE 8 n) (λt m=>by have:=_08 m;exact _5N dt hn this) (λt m=>by have:=_08 m;exact _5N du hn this) (λt m u m2 x y rx ry A E Q hr q=>ih (by have:=_08 m;exact _5O dt this) (by have:=_08 m2;exact _5O du this) (by exact _ea hn) rx ry hr q) rx ry ?_ ?_)
   ·rw[aw] at lx ly
    rw[lx,ly,aP,aP,show(jn (t.kids.map T5.av)).length=_ from _c _,show(jn (u.kids.map T5.av)).length=_ from _c _]
    simp
   ·rw[show decide (d0 t.kids<d0 u.kids)=decide (t.code<u.code) from decide_eq_decide.mpr (by rw[e1,e2,op.mp e,cF];simp)]
    exact q
  ·refine .less (decide (t.code<u.code)) (λA E Q _ h=>pV (by rw[decide_eq_false λh=>e (inj.mp h)];exact h)) (λA E Q _ h=>P.lt_str ?_) q
   rw[show decide ((ab t.op).cps.toList<(ab u.op).cps.toList)=decide (t.code<u.code) from decide_eq_decide.mpr (by
    show qY t.op<qY u.op ↔ _
    rw[c1,c2,e1,e2,cF,cF]
    have:=mt op.mpr e
    simp[this])]
   exact h
theorem _kn{Q:Bool->ah->Prop}{l:List (ae×ae)}(h:oW prog w s r (λc=>Q c s) fin l)(hr:A.units+r<cLine):∀i,1<=i->KatLex prog w A true fin Q l i s:=by
 induction h with
 | nil h=>exact λi _=>kat_nil h
 | same h k ih=>exact λi hi=>kat_cons (h _ _ _ hr (kat_yes (ih (i+1) (eS hi))))
 | less c h h2 k=>
  intro i hi
  refine kat_cons (h _ _ _ hr (kat_no ?_))
  rw[show(true&&i == 0)=false by rw[gx];exact beq_false_of_ne (nJ hi)]
  exact kat_one _ _ (h2 _ _ _ hr k)
theorem _ko{t u:T5}{x y:ae}{Q:Bool->ah->Prop}(dt:t.dep<=7)(du:u.dep<=7)(rx:RV s.heap x (.tup t.av))(ry:RV s.heap y (.tup u.av))(hr:A.units+16<cLine)(q:Q (decide (t.code<u.code)) s):wpAny (model prog w) A (keyLt' (tuples' true) x y) Q E s:=by
 obtain⟨a,xs,k,rfl,ha,rx⟩:=_1P rx
 obtain⟨b,ys,l,rfl,hb,ry⟩:=_1P ry
 have lx:=rx.length
 have ly:=ry.length
 rw[t.av_eq] at rx lx
 rw[u.av_eq] at ry ly
 refine kat_lt ha rfl hb rfl ?_
 obtain⟨v,vr,exs,⟨t1,rfl⟩,rx⟩:=rx
 obtain⟨v',wr,eys,⟨t2,rfl⟩,ry⟩:=ry
 rw[exs,eys,dp]
 obtain⟨m1,c1,e1⟩:=_0z t
 obtain⟨m2,c2,e2⟩:=_0z u
 have op:t.op=u.op ↔ m1=m2:=⟨λe=>by rw[e,c2] at c1;exact(aL c1).1.symm,λe=>_8Y (by rw[c1,c2,e])⟩
 have inj:(ab t.op=ab u.op) ↔ t.op=u.op:=⟨_s,λe=>by rw[e]⟩
 refine kat_cons (pV ?_)
 by_cases e:t.op=u.op
 ·rw[decide_eq_true (inj.mpr e)]
  refine kat_yes (_kn (r:=15) (_4J (by decide) (λt m=>by have:=_08 m;exact _5P dt this) (λt m=>by have:=_08 m;exact _5P du this) (λt m u m2 x y rx ry A E Q hr q=>_9d 7 (by have:=_08 m;exact _5Q dt this) (by have:=_08 m2;exact _5Q du this) (by decide) rx ry (by exact _eb hr) q) rx ry ?_ ?_) (by exact _ec hr) 1 (aD _))
  ·rw[aw] at lx ly
   rw[lx,ly,aP,aP,show(jn (t.kids.map T5.av)).length=_ from _c _,show(jn (u.kids.map T5.av)).length=_ from _c _]
   simp
  ·rw[show decide (d0 t.kids<d0 u.kids)=decide (t.code<u.code) from decide_eq_decide.mpr (by rw[e1,e2,op.mp e,cF];simp)]
   exact q
 ·rw[decide_eq_false λh=>e (inj.mp h)]
  refine kat_no ?_
  rw[show(true&&0 == 0)=true from rfl]
  refine oneLt_str ?_
  rw[show decide ((ab t.op).cps.toList<(ab u.op).cps.toList)=decide (t.code<u.code) from decide_eq_decide.mpr (by
    show qY t.op<qY u.op ↔ _
    rw[c1,c2,e1,e2,cF,cF]
    have:=mt op.mpr e
    simp[this])]
  exact q
end
section
variable{prog:bS}{w:cy}{s:ah}{r:Nat}{A:bB}{E:ae->ah->Prop}
theorem _kp{l b:ao}{xs ys:Array ae}{n n2:Nat}{R:pY->ah->Prop}(hl:s.heap.get? l=some (seqObj "list" xs n))(hb:s.heap.get? b=some (seqObj "list" ys n2))(hr:A.units+r+1<cLine)(k:Nat):
  ∀i:Nat,xs.size-i=k->oW prog w s r (λc=>R (.ok (.ret (.bool c))) s) (decide (xs.size<ys.size)) ((xs.toList.drop i).zip (ys.toList.drop i)) ->
   wpAny (model prog w) A.in1 (Builtin.«list.__eq__.loop» ⟨[.ref l,.ref b,rawInt i,rawInt 0],[]⟩) (λfin s'=>match fin with | .done f=>R (.ok f) s' | .again c'=>c'.quiet=true/\codeAny (model prog w) A c' R s') (λe s'=>R (.error e) s') s:=by
 have hr':A.in1.units+r<cLine:=by show A.units+1+r<cLine;exact _5M hr
 have vJ:∀i:Nat,¬(i<xs.size/\i<ys.size)->R (.ok (.ret (.bool (decide (xs.size<ys.size))))) s ->
   wpAny (model prog w) A.in1 (Builtin.«list.__eq__.loop» ⟨[.ref l,.ref b,rawInt i,rawInt 0],[]⟩) (λfin s'=>match fin with | .done f=>R (.ok f) s' | .again c'=>c'.quiet=true/\codeAny (model prog w) A c' R s') (λe s'=>R (.error e) s') s:=λi hi q=>by
  show wpAny _ _ (dZ (.ref l) >>= λxs=>dZ (.ref b) >>= λys=>_) _ _ s
  refine aa (fJ hl rfl (aa (fJ hb rfl ?_)))
  have no:xs[((i:Nat):Int).toNat]? = none\/ys[((i:Nat):Int).toNat]? = none:=by
   rw[cb]
   by_cases h:i < xs.size
   ·exact .inr (ef (dD λq=>hi ⟨h,q⟩))
   ·exact .inl (ef (dD h))
  have fin:∀{m:me Fin},m=(do
    let a <-dZ (.ref l)
    let c <-dZ (.ref b)
    ret (.bool (decide (a.size < c.size))))->wpAny (model prog w) A.in1 m (λfin s'=>match fin with | .done f=>R (.ok f) s' | .again c'=>c'.quiet=true/\codeAny (model prog w) A c' R s') (λe s'=>R (.error e) s') s:=λe=>by
   rw[e]
   exact aa (fJ hl rfl (aa (fJ hb rfl (ad q))))
  cases e1:xs[((i:Nat):Int).toNat]? with
  | none=>exact fin rfl
  | some x=>
   cases e2:ys[((i:Nat):Int).toNat]? with
   | none=>exact fin rfl
   | some y=>
    rw[e1,e2] at no
    exact no.elim (λh=>nomatch h) λh=>nomatch h
 induction k with
 | zero=>
  intro i hk h
  have hi:¬(i<xs.size/\i<ys.size):=λq=>by exact _ed hk q.1
  refine vJ i hi ?_
  rw[jX (by rw[aw];exact _ee hk),tR] at h
  cases h with
  | nil h=>exact h
 | succ k ih=>
  intro i hk h
  by_cases hi:i < xs.size/\i < ys.size
  ·rw[jm (by rw[aw];exact hi.1),jm (l:=ys.toList) (by rw[aw];exact hi.2),dp] at h
   have e1:xs[((i:Nat):Int).toNat]? = some xs[i]:=by rw[cb];exact aW hi.1
   have e2:ys[((i:Nat):Int).toNat]? = some ys[i]:=by rw[cb];exact aW hi.2
   show wpAny _ _ (dZ (.ref l) >>= λxs=>dZ (.ref b) >>= λys=>_) _ _ s
   refine aa (fJ hl rfl (aa (fJ hb rfl ?_)))
   rw[e1,e2]
   dsimp only
   rw[iq,iq] at h
   cases h with
   | same h1 h2=>
    refine aa (h1 _ _ _ hr' ?_)
    rw[if_pos rfl]
    refine ad ⟨e7 eJ _,dP kJ ?_⟩
    rw[cQ eJ _,show((i:Int)+1)=((i+1:Nat):Int) from(Int.natCast_succ i).symm]
    exact ih (i+1) (by exact _16 hk) h2
   | less c h1 h2 h3=>
    refine aa (h1 _ _ _ hr' ?_)
    rw[if_neg (by decide)]
    refine aa (fJ hl rfl (aa (fJ hb rfl ?_)))
    rw[e1,e2]
    exact aa (h2 _ _ _ hr' (ad h3))
  ·refine vJ i hi ?_
   have e:(xs.toList.drop i).zip (ys.toList.drop i)=[]:=by
    by_cases q:i < xs.size
    ·rw[jX (as:=ys.toList) (by rw[aw];exact dD λh=>hi ⟨q,h⟩),mh]
    ·rw[jX (by rw[aw];exact dD q),tR]
   rw[e] at h
   cases h with
   | nil h=>exact h
theorem _kq{l b:ao}{xs ys:Array ae}{n n2:Nat}{Q:ae->ah->Prop}(hl:s.heap.get? l=some (seqObj "list" xs n))(hb:s.heap.get? b=some (seqObj "list" ys n2))(hr:A.units+r+1<cLine)
  (h:oW prog w s r (λc=>Q (.bool c) s) (decide (xs.size<ys.size)) (xs.toList.zip ys.toList)):wpAny (model prog w) A (call (.builtin "list.__lt__") [.ref l,.ref b]) Q E s:=by
 refine rC (uW F.slot_list_lt.plain F.entry_list_lt (F.slot_list_lt.check _ _ _ _ _ _ _ _ ⟨_,hl,rfl⟩ (F.args_list_lt_2 _ _) ?_))
 show wpAny _ _ (rG (.ref b) (.type "list") >>= _) _ _ s
 refine aa (iN ⟨_,hb,rfl⟩ AutoSeq1.sub_list_list ?_)
 rw[if_neg (show ¬((!true)=true) by decide)]
 refine ad ⟨e7 eJ _,dP kJ ?_⟩
 rw[cQ eJ _]
 exact _kp (R:=wants Q E) hl hb hr _ 0 rfl h
end
theorem _kr{α β:Type}{f:α->β}{m l:List β}(p:m.Perm l):∀{xs:List α},l=xs.map f->∃ys:List α,m=ys.map f/\ys.Perm xs:=by
 induction p with
 | nil=>exact λ{xs} e=>⟨xs,e,.refl _⟩
 | cons x _ ih=>
  intro xs e
  cases xs with
  | nil=>cases e
  | cons a xs=>
   obtain⟨e1,e2⟩:=aL e
   obtain⟨ys,rfl,py⟩:=ih e2
   exact⟨a::ys,by rw[e1];rfl,py.cons _⟩
 | swap x y l=>
  intro xs e
  match xs,e with
  | a::b::xs,e=>
   obtain⟨e1,e2⟩:=aL e
   obtain⟨e2,e3⟩:=aL e2
   exact⟨b::a::xs,by rw[e1,e2,e3];rfl,.swap _ _ _⟩
 | trans _ _ ih1 ih2=>
  intro xs e
  obtain⟨ys,e2,p2⟩:=ih2 e
  obtain⟨zs,e3,p3⟩:=ih1 e2
  exact⟨zs,e3,p3.trans p2⟩
section
variable{c:Cx}{d:Nat}{σ:af}{Q:AV->af->Prop}{α:Type}
theorem _ks{h:a_}{xs:List α}{av:α->AV}{key:α->List Nat}(one:∀v,∀x∈xs,∀y∈xs,RV h v (av x)->RV h v (av y)->key x=key y):
  ∃g:ae->Int,∀x∈xs,∀y∈xs,∀v u,RV h v (av x)->RV h u (av y)->(g v<g u ↔ key x<key y):=by
 classical
 obtain⟨rk,tw⟩:=_jO (λa b:List Nat=>a < b) (λa=>pB a) (λa b c h k=>qh h k) (λa b=>_4A) (xs.map key)
 refine⟨λv=>if q:∃x∈xs,RV h v (av x) then rk (key q.choose) else 0,λx hx y hy v u rv ru=>?_⟩
 have sw:∀{v x},x∈xs->RV h v (av x)->(if q:∃x∈xs,RV h v (av x) then rk (key q.choose) else 0)=rk (key x):=λ{v x} hx hv=>by
  have q:∃x∈xs,RV h v (av x):=⟨x,hx,hv⟩
  rw[dif_pos q,one v _ q.choose_spec.1 _ hx q.choose_spec.2 hv]
 show(if q:∃x∈xs,RV h v (av x) then rk (key q.choose) else 0)<(if q:∃x∈xs,RV h u (av x) then rk (key q.choose) else 0) ↔ _
 rw[sw hx rv,sw hy ru]
 exact tw _ (aq.mpr ⟨x,hx,rfl⟩) _ (aq.mpr ⟨y,hy,rfl⟩)
theorem RVs.of_map{h:a_}{av:α->AV}:∀{xs:List α} {vs:List ae},RVs h vs (xs.map av)->∀v∈vs,∃x∈xs,RV h v (av x)
 | [],vs,r,v,hv=>by rw[show vs=[] from r] at hv;cases hv
 | x::xs,vs,r,v,hv=>by
  obtain⟨u,ur,rfl,ru,r⟩:=r
  rcases aO.mp hv with rfl | hv
  ·exact⟨x,.head _,ru⟩
  ·exact(RVs.of_map r v hv).elim λy q=>⟨y,.tail _ q.1,q.2⟩
theorem _kt{h:a_}{xs:List α}{av:α->AV}{key:α->List Nat}{vals out:List ae}{g:ae->Int}(hg:∀x∈xs,∀y∈xs,∀v u,RV h v (av x)->RV h u (av y)->(g v<g u ↔ key x<key y))(hn:(xs.map key).Nodup)(a2:RVs h vals (xs.map av))(b1:out.Perm vals)(b2:out.Pairwise λx y=>g x<=g y):
  ∃ms:List α,RVs h out (ms.map av)/\ms.Perm xs/\ms.Pairwise λx y=>key x<key y:=by
 obtain⟨mo,pm,rm⟩:=a2.perm b1
 obtain⟨n,rfl,pn⟩:=_kr pm rfl
 refine⟨n,rm,pn,?_⟩
 rw[bZ] at b2 ⊢
 intro i j hi hj jN
 have sw:∀(i:Nat) (hi:i<n.length),∃lI:i<out.length,RV h out[i] (av n[i]):=λi hi=>by
  have:=rm.get i
  rw[aQ,ax hi] at this
  cases q:out[i]? with
  | none=>rw[q] at this;exact this.elim
  | some v=>
   rw[q] at this
   obtain⟨lI,e⟩:=az.mp q
   exact⟨lI,e ▸ this⟩
 obtain⟨lI,ri⟩:=sw i hi
 obtain⟨hj',rj⟩:=sw j hj
 have mi:=pn.mem_iff.mp (bO hi)
 have mj:=pn.mem_iff.mp (bO hj)
 have ne:key n[i]≠key n[j]:=λe=>by
  have hk:(n.map key).Nodup:=(pn.map key).nodup_iff.mpr hn
  have:=(uf (i:=i) (j:=j) (h₀:=by rw[ac];exact hi) (h₁:=by rw[ac];exact hj) hk).mp (by rw[fX,fX];exact e)
  exact bQ jN this
 exact(_4A ne).elim id λq=>absurd ((hg _ mj _ mi _ _ rj ri).mpr q) (Int.not_lt.mpr (b2 i j lI hj' jN))
theorem _9e{l:ao}{xs:List α}{av:α->AV}{key:α->List Nat}(K:SortKind)(e:σ l=some (.list (xs.map av)))(few:xs.length<64)(hn:(xs.map key).Nodup)(one:∀h v,∀x∈xs,∀y∈xs,RV h v (av x)->RV h v (av y)->key x=key y)
  (cmp:∀A Fz s,Go c d A Fz σ s->∀(A':bB) (s':ah),A'.units<=A.units+2->(∀b o,s.heap.get? b=some o->s'.heap.get? b=some o) ->
   (∀vals,RVs s'.heap vals (xs.map av)->2<=vals.length->∀(E:ae->ah->Prop) Q,Q K s'->wpAny (model c.prog c.w) A' (keyKind' vals.toArray) Q E s') /\
   ∀x∈xs,∀y∈xs,∀v u,RV s'.heap v (av x)->RV s'.heap u (av y)->∀(E:ae->ah->Prop) C,C (decide (key x<key y)) s'->wpAny (model c.prog c.w) A' (keyLt' K v u) C E s')
  (h:∀(m:ao) (ms:List α),ms.Perm xs->(ms.Pairwise λx y=>key x<key y)->σ m=none->Q (.ref m) (σ.set m (.list (ms.map av)))):br c d (.raw (.builtin "sorted")) [.ref l] σ Q:=by
 refine _6 [.b _,.r _] λA Fz s P E G kk=>?_
 obtain⟨its,n,hl,ri⟩:=_k G.st e
 obtain⟨g,hg⟩:=_ks (one s.heap)
 have len:∀{vals:List ae} {h:a_},RVs h vals (xs.map av)->vals.length=xs.length:=λa2=>by rw[a2.length,ac]
 have il:s.heap.IsList l its.toList.toArray:=⟨_,hl,rfl,n,rfl⟩
 have ln:=len ri
 refine _42 (PV:=λvals=>RVs s.heap vals (xs.map av)) (SO:=λvals out=>out.Perm vals/\out.Pairwise λx y=>g x<=g y) (λvals a2=>by rw[len a2];exact few)
  (λR k=>collect_list (vs:=its.toList) il (k _ _ (λb o e=>(sJ _ _ _ _ (bQ (bM e))).trans (aG _ e)) ⟨rfl,rfl⟩ ri) (by rw[ln,cY];exact _1Y few))
  (λvals s1 L P E a2 kp hL uE k=>_jR (f:=g) uE (by rw[len a2];exact few) (λh' hk h2 R r=>?_) λout b1 b2=>k out ⟨b1,b2⟩) λm vals out ee s' k kq mK hat a2 ⟨b1,b2⟩=>?_
 ·have gk:∀b o,s.heap.get? b=some o->h'.get? b=some o:=λb o ho=>hk b o (λe=>hL o (e ▸ ho)) (kp b o ho)
  obtain⟨c1,c2⟩:=cmp A Fz s G A.in1.in1 {s1 with heap:=h'} (aD _) gk
  refine r K (c1 vals (a2.grow (_f gk)) h2) λv hv u hu E C hC=>?_
  obtain⟨x,mx,rx⟩:=RVs.of_map a2 v hv
  obtain⟨y,my,ry⟩:=RVs.of_map a2 u hu
  refine c2 x mx y my v u (rx.grow (_f gk)) (ry.grow (_f gk)) E C ?_
  rw[show decide (key x<key y)=decide (g v<g u) from decide_eq_decide.mpr (hg x mx y my v u rx ry).symm]
  exact hC
 ·obtain⟨ms,rm,hp,hpw⟩:=_kt hg hn a2 b1 b2
  exact kk.newS (G.st.new (c:=.list (ms.map av)) mK k ⟨out,ee,hat,rm.grow (_f k)⟩) kq.os kq.gens λm=>h m ms hp hpw
end
section
variable{c:Cx}{d:Nat}{σ:af}{Q:AV->af->Prop}
theorem _D(ts:List T5):avL ts=ts.map λt=>AV.tup t.av:=by
 unfold avL jn
 rw[bf];rfl
theorem _9f:∀{l m:List T5},avL l=avL m->l=m
 | [],[],_=>rfl
 | [],_::_,h=>nomatch h
 | _::_,[],h=>nomatch h
 | _::_,_::_,h=>by
  obtain⟨e,e2⟩:=aL h
  rw[_2T (AV.tup.inj e),_9f e2]
theorem _9g{h:a_}:∀{l:List T5} {vs:List ae},RVs h vs (avL l)->∃fs,KatTups h vs fs/\fs.length=l.length/\∀v∈fs,∃x t,v = .str x t
 | [],vs,r=>⟨[],by rw[show vs=[] from r];exact KatTups.nil,rfl,λv hv=>by cases hv⟩
 | nd::l,vs,r=>by
  obtain⟨u,ur,rfl,ru,r⟩:=r
  obtain⟨b,its,n,rfl,hb,ri⟩:=_1P ru
  obtain⟨fs,h1,h2,h3⟩:=_9g r
  have r0:=ri.get 0
  rw[a0,nd.av_eq] at r0
  obtain⟨v,e,t,ev⟩:∃v,its[0]? = some v/\∃t,v = .str (ab nd.op) t:=by
   cases q:its[0]? with
   | none=>rw[q] at r0;exact r0.elim
   | some v=>rw[q] at r0;exact⟨v,rfl,r0⟩
  refine⟨v::fs,KatTups.cons hb rfl rfl e h1,by rw[aP,aP,h2],λx hx=>?_⟩
  rcases aO.mp hx with rfl | hx
  ·exact⟨_,t,ev⟩
  ·exact h3 x hx
theorem _ku{h:a_}{v:ae}{t u:T5}(dt:t.dep<=7)(du:u.dep<=7)(rx:RV h v (.tup t.av))(ry:RV h v (.tup u.av)):t=u:=_2T (AV.tup.inj (RV.inj (T5.keyed dt).tup (T5.keyed du).tup rx ry))
theorem _9h{l:ao}{ts:List T5}(e:σ l=some (.list (avL ts)))(few:ts.length<64)(hn:ts.Nodup)(hd:∀t∈ts,t.dep<=7)
  (h:∀(m:ao) (ms:List T5),ms.Perm ts->(ms.Pairwise λx y=>x.code<y.code)->σ m=none->Q (.ref m) (σ.set m (.list (avL ms)))):br c d (.raw (.builtin "sorted")) [.ref l] σ Q:=by
 rw[_D] at e
 refine _9e (key:=T5.code) (tuples' true) e few (bo.mpr (hn.imp λne q=>ne (_2L q))) (λh v x hx y hy rx ry=>by rw[_ku (hd x hx) (hd y hy) rx ry]) (λA Fz s G A' s' hA gk=>⟨λvals r h2 E Q q=>?_,λx hx y hy v u rv ru E C hC=>?_⟩) λm ms hp hw hm=>by rw[<-_D];exact h m ms hp hw hm
 ·rw[<-_D] at r
  obtain⟨fs,f1,f2,f3⟩:=_9g r
  exact kat_kind (fs:=fs) (T:=.type "str") f1 (by rw[f2,<-_c,<-r.length];exact _ef h2) (λv hv=>by obtain⟨x,t,rfl⟩:=f3 v hv;exact Looks.of_pure rfl) (by decide) q
 ·have:=G.room.un
  exact _ko (hd x hx) (hd y hy) rv ru (by exact _eg hA this) hC
noncomputable def s8(p:ao×List T5):List Nat:=d0 p.2
noncomputable def iJ(p:ao×List T5):AV:=.ref p.1
theorem _9i{l:ao}{ps:List (ao×List T5)}(e:σ l=some (.list (ps.map iJ)))(hc:∀p∈ps,σ p.1=some (.list (avL p.2)))(few:ps.length<64)(hn:(ps.map (·.2)).Nodup)(hd:∀p∈ps,∀t∈p.2,t.dep<=7)
  (h:∀(m:ao) (ms:List (ao×List T5)),ms.Perm ps->(ms.Pairwise λx y=>d0 x.2<d0 y.2)->σ m=none->Q (.ref m) (σ.set m (.list (ms.map iJ)))):br c d (.raw (.builtin "sorted")) [.ref l] σ Q:=by
 have same:∀{h:a_} {v:ae} {x y:ao×List T5},x∈ps->y∈ps->RV h v (iJ x)->RV h v (iJ y)->x.2=y.2:=λ{h v x y} hx hy rx ry=>by
  have a:v = .ref x.1:=rx
  have b:v = .ref y.1:=ry
  have e:x.1=y.1:=Value.ref.inj (a.symm.trans b)
  have:=(hc x hx).symm.trans (e ▸ hc y hy)
  exact _9f (by injection aB this)
 refine _9e (key:=s8) oneType' e few ?_ (λh v x hx y hy rx ry=>by unfold s8;rw[same hx hy rx ry]) (λA Fz s G A' s' hA gk=>⟨λvals r h2 E Q q=>?_,λx hx y hy v u rv ru E C hC=>?_⟩) h
 ·exact bo.mpr ((bo.mp hn).imp λne q=>ne (_9c q))
 ·refine kas_kind h2 (T:=.type "list") (λv hv=>?_) (by decide) (by decide) q
  obtain⟨p,hp,rp⟩:=RVs.of_map r v hv
  obtain rfl:v = .ref p.1:=rp
  obtain⟨its,n,hl,ri⟩:=_k G.st (hc p hp)
  exact(Looks.ld (gk _ _ hl)).andThen .now
 ·obtain rfl:v = .ref x.1:=rv
  obtain rfl:u = .ref y.1:=ru
  obtain⟨xs,n,hx1,rx⟩:=_k G.st (hc x hx)
  obtain⟨ys,m,hy1,ry⟩:=_k G.st (hc y hy)
  have:=G.room.un
  rw[keyLt'_oneType,oneLt'_eq]
  rw[if_pos rfl]
  refine aa (wpAny_cRoomFor_or (.inr (by exact _eh hA this)) ?_)
  refine aa (wpAny_callSpecialIfBound?_slot ⟨_,gk _ _ hx1,rfl⟩ F.slot_list_lt (_kq (r:=20) (gk _ _ hx1) (gk _ _ hy1) (by exact _ei hA this) ?_))
  have rx:=rx.grow (_f gk)
  have ry:=ry.grow (_f gk)
  refine _4J (by decide) (hd x hx) (hd y hy) (λt mt u mu x' y' rx ry A E Q hr q=>_9d 8 (jz (hd x hx t mt)) (jz (hd y hy u mu)) (by decide) rx ry (by exact _ej hr) q) rx ry ?_ (wpAny_truthy_bool hC)
  rw[<-aw,<-aw,rx.length,ry.length,_c,_c]
end
theorem _kv(n:Nat):oB ((n:Int)-1) (-1) (-1)=(aV n).map λk=>n-1-k:=by
 unfold oB
 have h1:¬((-1:Int)>0):=by exact _dX
 simp only[h1,if_false,Int.neg_neg,Int.ediv_one]
 have e:(if(n:Int) - 1 > -1 then((n:Int) - 1 - -1 - -1 - 1) else 0).toNat=n:=by split <;> (first | lia | omega)
 rw[e]
 exact bF λk _=>by(first | lia | omega)
theorem _kw(its:Array ae):kX its none none (some (-1))=its.toList.reverse.toArray:=by
 unfold kX uQ
 show((oB ((its.size:Int)-1) (-1) (-1)).filterMap (its[·]?)).toArray=_
 rw[_kv,sX]
 refine congrArg List.toArray (d6 λi=>?_)
 have gen:∀n,n<=its.size->(aV n).filterMap ((its[·]?)∘λk=>its.size-1-k)=its.toList.reverse.take n:=by
  intro n
  induction n with
  | zero=>intro _;rfl
  | succ n ih=>
   intro hn
   rw[eM,rP,ih (by exact _22 hn),bJ]
   congr 1
   have e2:its[its.size-1-n]? = its.toList.reverse[n]?:=by
    rw[List.getElem?_reverse (by rw[aw];exact _dY hn)]
    simp
   have e3:((λx=>its[x]?)∘λk=>its.size-1-k) n=its.toList.reverse[n]?:=e2
   rw[dI,List.filterMap_nil,e3]
   cases its.toList.reverse[n]? <;> rfl
 rw[gen _ (aD _),dE (by simp)]
section
variable{c:Cx}{d:Nat}{σ:af}{Q:AV->af->Prop}{A:bB}{E:ae->ah->Prop}{s:ah}
theorem _9j{l:ao}{xs:List AV}(e:σ l=some (.list xs))(hz:bp xs.length)(h:∀m,σ m=none->Q (.ref m) (σ.set m (.list xs.reverse))):gN c d (.ref l) (.slice .none .none (.int (-1))) σ Q:=by
 refine _6 [.r _,.x _] λA Fz s P E G k iv rx=>?_
 obtain⟨sa,lov,hiv,stv,rfl,he,rlo,rhi,rst⟩:=rx
 obtain⟨tk,rfl⟩:=rst
 obtain rfl:lov = .none:=rlo
 obtain rfl:hiv = .none:=rhi
 obtain⟨its,n,nF,ri⟩:=_k G.st e
 refine _Q nF.isList.typeIs (λq=>nomatch q) slot_list_getitem.lookup (ky (st:=some (-1)) nF.isList ⟨_,he,rfl,rfl⟩ .none .none (.int _ _) (by decide) ?_ (hz.fit ri))
 exact k.new (_2i (its:=kX its none none (some (-1))) (ys:=xs.reverse) G.st (by rw[_kw];exact ri.reverse)) h
end
section
variable{prog:bS}{w:cy}{A:bB}{E:ae->ah->Prop}{s:ah}
theorem _kx(hh:A.handled=none){I d:ao}(gK:d≠I){od:iF}{es:Array iT}{ep:Nat}(md:od.data = .dict es ep):
  sR prog w A I [I,d] [I] es.size (λi v=>∃e,es[i]? = some e/\e.val=v) (λi h=>h.IsValIter I d i es.size ep/\h.get? d=some od) where
 sub:=λb hb=>aj.mp hb ▸ .head _
 frame:=λ_ _ _ st hk=>⟨st.1.at λo e=>hk I (.head _) o e,hk d (.tail _ (.head _)) _ st.2⟩
 item:=λi s Q E hi st hQ=>by
  have hx:es[i]? = some es[i]:=aW hi
  refine _kj st.1 st.2 md hx λh' tA hs'=>?_
  exact hQ _ h' s.toks ⟨_,hx,rfl⟩ ⟨tA,(hs'.2 d gK).trans st.2⟩ λb o hb e=>hs'.extBut b o (λh=>hb (aj.mpr h)) e
 done:=λs Q E st hQ=>_kk hh st.1 st.2 md (ef (aD _)) λh' he'=>hQ h' s.toks λb o hb e=>he' b o (λh=>hb (aj.mpr h)) e
 self:=λ_ _ _ _ st hQ=>wpAny_pyIter_valiter st.1 hQ
end
theorem _ky:nr (.type "dict_values") (.type "set")=pure false:=by rw[jJ];kernel_rfl
theorem _kz:nr (.type "dict_values") (.type "frozenset")=pure false:=by rw[jJ];kernel_rfl
section
variable{c:Cx}{d:Nat}{σ:af}{Q:AV->af->Prop}
open Classical in
theorem _kA{v a:ao}{ep:Nat}{es:List (List AV×AV)}{ns:List Int}(ev:σ v=some (.exact (i_ a)))(e:σ a=some (.dictE ep es))(hn:es.map (·.2)=cJ ns)(hz:ns.length<4000)
  (h:∀A Fz s P (E:ae->ah->Prop),Go c d A Fz σ s->Ans c Fz s Q P->∀(h':a_) (tk:Nat) (l':List Int),kl c.prog c.w h' s.heap.objs.size l'->(∀x,x∈l' ↔ x∈ns)->(∀b o,s.heap.get? b=some o->h'.get? b=some o)->P (.ref s.heap.objs.size) {s with heap:=h',toks:=tk}):br c d (.raw (.type "set")) [.ref v] σ Q:=by
 refine _6 [.b _,.r _] λA Fz s P E G kk=>?_
 obtain⟨xs,⟨o,ds,ho,hc,pT,he,his,hnn⟩,rk⟩:=_1O G.st e
 have hv:s.heap.IsValuesView v a:=⟨_,(G.st.cell _ _ ev).1,rfl,rfl⟩
 have cL:ds.size=ns.length:=by
  have:=congrArg fV hn
  rw[<-aw,he,ac]
  rw[ac,<-rk.len,ac] at this
  rw[this];exact ac _
 refine _7v (ns:=ns) G.room.hn hv.typeIs _ky _kz (by decide) (λA E s1 Q' kp k=>?_) (by unfold fj;exact _5f hz) (h A Fz s P E G kk)
 have vC:=kp _ _ ho
 have hv1:s1.heap.IsValuesView v a:=⟨_,kp _ _ (G.st.cell _ _ ev).1,rfl,rfl⟩
 refine _ki hv1 vC pT (k s1.heap.objs.size [s1.heap.objs.size,a] _ _ _ (λA' pU=>cL ▸ _kx pU (bQ (bM vC)) pT) ⟨⟨_,aH _ rfl,rfl,by rw[<-cL];rfl⟩,aG _ vC⟩ (_p _ _) ⟨rfl,rfl⟩ rfl (_a _) (λb hb=>?_) (λi h o st e=>?_) λi v ⟨x,hx,hxv⟩=>?_)
 ·rcases aO.mp hb with rfl | hb
  ·exact .inr (.inr (_a _))
  ·exact .inr (.inl ⟨o,aj.mp hb ▸ ho⟩)
 ·obtain⟨o2,e2,rq,_⟩:=st.1
  obtain rfl:=aB (e.symm.trans e2)
  exact _O e rq (by decide) e
 ·have hx2:(xs.map (oE (dT c.prog c.w)))[i]? = some x:=by rw[<-he,a0];exact hx
  rw[aQ] at hx2
  obtain⟨y,hy,rfl⟩:=bt.mp hx2
  have hr:=rk.2.get i
  rw[bf,aQ,hy,hn,cJ,aQ] at hr
  cases q:ns[i]? with
  | none=>rw[q] at hr;exact hr.elim
  | some k0=>
   rw[q] at hr
   obtain⟨t,ht⟩:=hr
   exact⟨k0,t,rfl,hxv.symm.trans ht⟩
noncomputable def vm(c:Cx)(o:iF)(l:List Int):Prop:=∀(h:a_) (a:ao),h.get? a=some o->kl c.prog c.w h a l
theorem _kB{v a:ao}{ep:Nat}{es:List (List AV×AV)}{ns:List Int}(ev:σ v=some (.exact (i_ a)))(e:σ a=some (.dictE ep es))(hn:es.map (·.2)=cJ ns)(hz:ns.length<4000)
  (h:∀(m:ao) (o:iF) (ms:List Int),vm c o ms->ms.Nodup->(∀x,x∈ms ↔ x∈ns)->σ m=none->Q (.ref m) (σ.set m (.exact o))):br c d (.raw (.type "set")) [.ref v] σ Q:=by
 refine _kA ev e hn hz λA Fz s P E G kk h' tk l' hS hp k=>?_
 have hJ:=hS.nodup
 obtain⟨o,es,ep,t,ho,B⟩:=hS
 exact kk.new (G.st.new (c:=.exact o) (a:=s.heap.objs.size) (_a _) k ⟨ho,_3p B.dat⟩) λm=>h m o l' (λh a e=>⟨o,es,ep,t,e,B⟩) hJ hp
theorem _kC{ks:List Int}{i:Nat}(h:(cJ ks).drop i=[]):ks.length<=i:=by
 have:=congrArg fV h
 rw[jQ,cJ,ac] at this
 exact Nat.le_of_sub_eq_zero this
theorem _kD{l:ao}{so:iF}{ms:List Int}{Q:List AV->(af->Prop)->Prop}(e:σ l=some (.exact so))(hS:vm c so ms)(h:∀ks:List Int,ks.Perm ms->Q (cJ ks) (λσ=>σ l=some (.exact so))):fH c d (.ref l) σ Q:=by
 refine⟨λA Fz s v R E G r k=>?_⟩
 rw[show v = .ref l from r]
 have wj:=(G.st.cell _ _ e).1
 obtain⟨es,hO,hI⟩:=kl.o (hS s.heap l wj)
 refine _7H hO λI fp P Sx s' W st kp kk hI' t4 ⟨arr,hp,hP⟩ tu=>?_
 subst hP
 obtain⟨ks,ik,kH⟩:=_7J hI (hp.map (·.2))
 have hn:es.size=ks.length:=by rw[<-aw,<-hp.length_eq,<-ik.length,ac]
 have xH:l≠I:=λq=>hI' _ (q ▸ wj)
 have hIf:I∈fp:=(W {A with handled:=none} rfl).sub I (.head _)
 have sw:∀j v,oo arr j v->∃k t,ks[j]? = some k/\v = .int k t:=λj v ⟨x,hx,hv⟩=>by
  have h1:(arr.toList.map (·.2))[j]? = some v:=by rw[aQ,a0,hx,hv];rfl
  obtain⟨t,ht⟩:=jT ik j v h1
  have fO:=(az.mp h1).1
  rw[ik.length] at fO
  exact⟨_,t,by rw[ax fO,bc,ax fO];rfl,ht⟩
 rw[hn] at W
 -- what is known of the walk,while the set lies as it is
 let PP:List AV->a_->Prop:=λrest h=>∃i,i<=ks.length/\rest=(cJ ks).drop i/\(∃o,h.get? I=some o/\lG o)/\(∀b∈fp,b≠l->∃o,h.get? b=some o) /\
  ∀h2:a_,(∀b o,b∈fp->b≠l->h.get? b=some o->h2.get? b=some o)->h2.get? l=some so->Sx i h2
 have start:∀i h,i<=ks.length->Sx i h->h.get? l=some so->PP ((cJ ks).drop i) h:=λi h hi st hl=>by
  obtain⟨q1,q2⟩:=tu i h st
  refine⟨i,hi,rfl,q1,λb hb _=>q2 b hb,λh2 kp uH=>(W {A with handled:=none} rfl).frame i h h2 st λb hb o ho=>?_⟩
  by_cases q:b=l
  ·subst q
   rw[uH,<-hl,ho]
  ·exact kp b o hb q ho
 refine k (.ref I) (λb=>b∈fp/\b≠l) PP s' _ _ (h ks kH) (G.st.more (_f kp) kp) kp ⟨_f kp,kk.os,kk.gens⟩ (λa o q=>(t4 a q.1).elim (λe=>absurd e q.2) λq=>q o) ?_ (start 0 _ (b0 _) st (kp _ _ wj))
 exact{
  there:=λr h ⟨i,_,_,_,q,_⟩ a ha=>q a ha.1 ha.2
  still:=λr h h' ⟨i,hi,hr,⟨o,ho,hc⟩,q,f⟩ kp g=>⟨i,hi,hr,⟨o,kp _ _ ⟨hIf,kL xH⟩ ho,hc⟩,λb hb e=>(q b hb e).elim λo ho=>⟨o,kp b o ⟨hb,e⟩ ho⟩,λh2 k2 hl=>f h2 (λb o hb gK ho=>k2 b o hb gK (kp b o ⟨hb,gK⟩ ho)) hl⟩
  again:=λA r s R E hr ⟨i,_,_,⟨o,ho,hc⟩,_⟩ h=>by
   refine jU ⟨o,ho,hc.1⟩ SF.slot_iter (b4 SF.slot_iter ⟨o,ho,hc.1⟩ SF.entry_iter ?_ (SF.args_iter _))
   show wpAny _ _ (ret (.ref I)) _ _ s
   exact ad ⟨_,rfl,"set_iterator", _,⟨o,ho,hc.1⟩,SF.slot_next.lookup,h⟩
  next:=λA Fz σ rest s R E G hk hf jb hP hR=>by
   obtain⟨i,hi,hr,⟨o,ho,hc⟩,q,f⟩:=hP
   have hl:=(G.st.cell _ _ hk).1
   have st:=f s.heap (λb o _ _ e=>e) hl
   have aI:I∈fp/\I≠l:=⟨hIf,kL xH⟩
   have mv:∀h',(∀b o,b ∉ [I]->s.heap.get? b=some o->h'.get? b=some o)->St c.prog c.w Fz σ h'/\de s.heap h':=λh' kp=>
    G.st.extWrite1 (λo=>hf I o aI) (jb I aI) (λb o hb e=>kp b o (λm=>hb (aj.mp m)) e) ho (_O ho hc.1 (by decide) ho)
   cases hd:(cJ ks).drop i with
   | nil=>
    rw[hd] at hr
    subst hr
    have iA:i=ks.length:=fD hi (_kC hd)
    subst iA
    refine(W A G.room.hn).done s _ _ st λh' tk kp=>?_
    exact hR none _ (mv h' kp).1 ⟨(mv h' kp).2,rfl,rfl⟩ rfl
   | cons x r=>
    rw[hd] at hr
    subst hr
    obtain⟨h1,h2⟩:=_0d hd
    have fO:i<ks.length:=by
     have:=(az.mp h1).1
     rwa [cJ,ac] at this
    refine(W A G.room.hn).item i s _ _ fO st λv h' tk hv st' kp=>?_
    obtain⟨k0,t,xc,rfl⟩:=sw i v hv
    rw[cJ,aQ,xc] at h1
    cases h1
    exact hR (some (.int k0 t)) _ (mv h' kp).1 ⟨(mv h' kp).2,rfl,rfl⟩ ⟨_,rfl,⟨t,rfl⟩,h2 ▸ start (i+1) h' fO st' (kp _ _ (λm=>xH (aj.mp m)) hl)⟩
  letGo:=λA Fz σ r s v t R E _ hr S hf jb hP hR=>by
   obtain⟨i,_,_,⟨o,ho,hc⟩,_⟩:=id hP
   exact _1d ho hc.1 (by decide) (hR s S (.refl _) hP)}
end
structure NE where
 f_Bank_term:ao
 f_Unions_members:ao
 f_Heap_members:ao
 f_Heap_many_nodes:ao
 f_Heap_put:ao
 f_Heap_is_settled:ao
 f_draw:ao
 f_terms:ao
 f_twins:ao
 f_closed:ao
 f_shuffled:ao
 f_done:ao
 f_law:ao
structure oi(c:Cx)(N:Nms)(L:NE):Prop where
 m_Bank_term:cA c N.cB "term" L.f_Bank_term
 d_Bank_term:cI c L.f_Bank_term ["self", "n"] jr
 m_Unions_members:cA c N.cU "members" L.f_Unions_members
 d_Unions_members:cI c L.f_Unions_members ["self", "a"] gG
 m_Heap_members:cA c N.cH "members" L.f_Heap_members
 d_Heap_members:cI c L.f_Heap_members ["self", "c"] iL
 m_Heap_many_nodes:cA c N.cH "many_nodes" L.f_Heap_many_nodes
 d_Heap_many_nodes:cI c L.f_Heap_many_nodes ["self"] gH
 m_Heap_put:cA c N.cH "put" L.f_Heap_put
 d_Heap_put:cI c L.f_Heap_put ["self", "term"] oa
 m_Heap_is_settled:cA c N.cH "is_settled" L.f_Heap_is_settled
 d_Heap_is_settled:cI c L.f_Heap_is_settled ["self"] fA
 g_draw:eP c "_law_draw" (.ref L.f_draw)
 d_draw:cI c L.f_draw ["feed", "wide"] nc
 g_terms:eP c "_law_terms" (.ref L.f_terms)
 d_terms:cI c L.f_terms ["feed"] l5
 g_twins:eP c "_law_twins" (.ref L.f_twins)
 d_twins:cI c L.f_twins ["some", "home"] l4
 g_closed:eP c "_law_closed" (.ref L.f_closed)
 d_closed:cI c L.f_closed ["some", "pairs"] k7
 g_shuffled:eP c "_law_shuffled" (.ref L.f_shuffled)
 d_shuffled:cI c L.f_shuffled ["feed", "tasks"] jL
 g_done:eP c "_law_done" (.ref L.f_done)
 d_done:cI c L.f_done ["tasks"] nh
 g_law:eP c "law" (.ref L.f_law)
 d_law:cI c L.f_law ["script"] og
theorem _9k:∀(l:aU) (i:Nat),l.nth i=l[i]?
 | [],_=>rfl
 | _::_,0=>rfl
 | _::l,i+1=>(_9k l i).trans (qF).symm
theorem At.pick{σ:af}{l:aU}(h:At σ l)(is:List Nat)(hn:is.Nodup):At σ (is.filterMap l.nth):=by
 have n1:=bZ.mp h.nd
 refine⟨bo.mpr (qE.mpr (hn.imp λ{i j} jN x hx y hy e=>?_)),λx hx=>?_⟩
 ·rw[_9k] at hx hy
  obtain⟨h1,h2⟩:=az.mp hx
  obtain⟨h3,h4⟩:=az.mp hy
  rcases d7 i j with q | q | q
  ·exact n1 i j (by simpa [aU.at] using h1) (by simpa [aU.at] using h3) q (by simp only[aU.at,fX,h2,h4];exact e)
  ·exact jN q
  ·exact n1 j i (by simpa [aU.at] using h3) (by simpa [aU.at] using h1) q (by simp only[aU.at,fX,h2,h4];exact e.symm)
 ·obtain⟨i,_,hi⟩:=mq.mp hx
  exact h.is x (aU.mem hi)
theorem At.fin{σ aX:af}{p l l':aU}(h:At σ (p++l))(h':At aX l')(o:Out l l' σ aX):At aX (p++l'):=((h.perm bY).rest h' o).perm bY
theorem _9l:∀(xs:List AV) (i j:Nat),(ji i xs)[j]? = (xs[j]?).map λx=>AV.tup [.int ((i+j:Nat):Int),x]
 | [],i,j=>rfl
 | x::xs,i,0=>rfl
 | x::xs,i,j+1=>by
  show(ji (i+1) xs)[j]? = (xs[j]?).map _
  rw[_9l xs (i+1) j,show i+1+j=i+(j+1) by exact _5G]
theorem _2U:∀(xs:List AV) (i:Nat),(ji i xs).length=xs.length
 | [],i=>rfl
 | x::xs,i=>congrArg (· + 1) (_2U xs (i+1))
theorem At.pick2{σ:af}{p r:aU}(h:At σ (p++r))(is:List Nat)(hn:is.Nodup):At σ (is.filterMap p.nth++r):=by
 have hp:=At.pick (h.sub (gu _ _)) is hn
 have nd:=h.nd
 simp only[aU.at,aM,cg] at nd
 have mem:∀x∈is.filterMap p.nth,x∈p:=λx hx=>by
  obtain⟨i,_,hi⟩:=mq.mp hx
  exact aU.mem hi
 refine⟨?_,λx hx=>(aK.mp hx).elim (hp.is x) λhx=>h.is x (aT _ hx)⟩
 simp only[aU.at,aM,cg]
 refine⟨hp.nd,nd.2.1,λa ha b hb=>?_⟩
 obtain⟨x,hx,rfl⟩:=aq.mp ha
 exact nd.2.2 _ (aq.mpr ⟨x,mem x hx,rfl⟩) b hb
theorem _1Q{x:String}{ch:Char}(hx:x.toList=[ch])(h1:(decide (ch.toNat<128))=true)(h2:sA (ab (di ch))=false)(h3:(i8 (ab "()[]{},:") (ab (di ch)) 0 (ab "()[]{},:").length 1).isEmpty=true)(h4:di ch ≠ "?"):gT x:=by
 refine⟨by rw[hx];simpa using h1,λc hc=>?_,λe=>?_,?_,ch,by rw[hx];rfl,h4⟩
 ·rw[hx] at hc
  obtain rfl:=aj.mp hc
  exact⟨h2,h3⟩
 ·rw[e] at hx;cases hx
 ·rw[<-kI,hx];simp
theorem _kE:gT "a" :=_1Q (ch:='a') rfl (by decide) (by decide +kernel) (by decide +kernel) (by decide)
theorem _kF:gT "b" :=_1Q (ch:='b') rfl (by decide) (by decide +kernel) (by decide +kernel) (by decide)
theorem _kG:gT "f" :=_1Q (ch:='f') rfl (by decide) (by decide +kernel) (by decide +kernel) (by decide)
theorem _kH:gT "g" :=_1Q (ch:='g') rfl (by decide) (by decide +kernel) (by decide +kernel) (by decide)
theorem _kI:gT "c" :=_1Q (ch:='c') rfl (by decide) (by decide +kernel) (by decide +kernel) (by decide)
section
variable{c:Cx}{d:Nat}{σ aX:af}{Q:AV->af->Prop}
theorem At.left{σ:af}{l r:aU}(h:At σ (l++r)):At σ l:=h.sub (gu _ _)
theorem At.right{σ:af}{l r:aU}(h:At σ (l++r)):At σ r:=h.sub (cZ _ _)
section
variable{p m l l':aU}
theorem At.a3(h:At σ (p++(m++l))):At σ l:=h.sub ((cZ _ _).trans (cZ _ _))
theorem At.fin2(h:At σ (p++(m++l)))(h':At aX l')(o:Out l l' σ aX):At aX (p++(m++l')):=by
 rw[<-aZ] at h ⊢
 exact h.fin h' o
end
end
section
variable{c:Cx}{d:Nat}{σ:af}{Q:AV->af->Prop}{N:Nms}{T:Nat}
end
theorem _9m(l:List (List AV))(x:List AV):jn (l++[x])=jn l++[.tup x]:=by simp[jn]
noncomputable def jF(l:List (List AV))(k:Nat):Prop:=∃ms:List (List AV),ms.Nodup/\(∀x,x∈ms ↔ x∈l)/\ms.length=k
section
variable{c:Cx}{d:Nat}{σ:af}{Q:AV->af->Prop}{N:Nms}{T:Nat}
theorem _kJ{f:ao}{h:HS}(D:cI c f ["self"] fA)(H:Has c N)(h1:1<=d)(hA:At σ (h.cells N))(hk:HOK T h)(hq:Q (.bool (decide (h.waiting=[]))) σ):br c d (.raw (.ref f)) [.ref h.self] σ Q:=by
 refine _0T (l:=h.cells N) (P:=λv=>v = .bool (decide (h.waiting=[]))) (λσ hA=>?_) hA λv e=>e ▸ hq
 have G:=H.gs
 obtain⟨f1,f2,f3,f4,_,f6,_⟩:=hk.fits
 refine _g D h1 rfl ?_
 refine _4 G.g_len ?_
 refine _1t H.a_H_waiting (hA.nth 0 rfl) (hA.nth 1 rfl) rfl rfl ?_
 refine _0h (hA.nth 6 rfl) (by unfold bp;exact _3f f6) ?_
 refine _0p ?_
 refine⟨?_,hA⟩
 rw[show decide (((h.waiting.length:Nat):Int)=0)=decide (h.waiting=[]) from decide_eq_decide.mpr ⟨λe=>dz.mp (by exact _ek e),λe=>by rw[e];rfl⟩]
theorem _kK{f:ao}{h:HS}(D:cI c f ["self"] gH)(H:Has c N)(h1:4<=d)(hA:At σ (h.cells N))(hk:HOK T h)(hz:h.ms.size<70)(hq:∀k,jF ((aV h.ms.size).map λn=>cr (h.ms.canon n)) k->Q (.int (k:Nat)) σ):br c d (.raw (.ref f)) [.ref h.self] σ Q:=by
 refine _0T (l:=h.cells N) (P:=λv=>∃k:Nat,v = .int (k:Nat)/\jF ((aV h.ms.size).map λn=>cr (h.ms.canon n)) k) (λσ hA=>?_) hA λv ⟨k,e,hk⟩=>e ▸ hq k hk
 have G:=H.gs
 have d3:3<=dn d:=_b h1
 refine _g D (ay (by decide) h1) rfl ?_
 refine _4 G.g_len ?_
 refine _4 G.g_set ?_
 refine _4 G.g_range ?_
 refine _1f H.m_H_size (hA.nth 0 rfl) (hA.nth 1 rfl) rfl ?_
 refine _1u H.d_H_size.isFun ?_
 refine _88 H (ay (by decide) d3) hA hk ?_
 refine _2p ?_
 refine _3M _4d (_4c (by unfold bp;exact _5R hz)) ?_
 rw[Int.sub_zero,cb]
 refine⟨by rw[_1n];exact bp.le (by unfold bp;exact _5R hz),?_⟩
 refine _z (λi bV σ2=>σ2=σ/\bV=jn ((aV i).map λn=>cr (h.ms.canon n))) ⟨rfl,rfl⟩ (λ_ _ _ _=>trivial) ?_ ?_
 ·rintro i x bV σ2 k hx ⟨rfl,rfl⟩ oY
  obtain⟨hi,rfl⟩:=_2C hx
  refine _1f H.m_H_node (hA.nth 0 rfl) (hA.nth 1 rfl) rfl ?_
  refine _1u H.d_H_node.isFun ?_
  refine _89 H d3 hA hk hi ?_
  refine oY _ _ ⟨rfl,?_⟩
  rw[eM,aM]
  exact(_9m _ _).symm
 ·rintro bV σ2 ⟨rfl,rfl⟩ m hm
  rw[_1n]
  replace hA:=hA.new (c:=.list (jn ((aV h.ms.size).map λn=>cr (h.ms.canon n)))) hm
  generalize σ2.set m _=σ1 at hA ⊢
  refine _8L (hA.nth 0 rfl) (λk hk=>?_) (by rw[ac,aY];exact hz) λm2 ms e1 e2 re=>?_
  ·obtain⟨n,_,rfl⟩:=aq.mp hk
   exact _0V _
  ·replace hA:=hA.new (c:=.setT ms) re
   generalize σ1.set m2 _=σ3 at hA ⊢
   refine _8M (hA.nth 0 rfl) ?_
   exact⟨⟨_,rfl,ms,e1,e2,rfl⟩,hA.tail.tail⟩
end
section
variable{T:Nat}{s:MS}{told:List (Nat×Nat)}
theorem _4K{nd:cq}:(s.add nd).nodes=if nd∈s.nodes then s.nodes else s.nodes++[nd]:=by
 unfold MS.add
 cases h_:fS s.nodes nd with
 | some i=>rw[if_pos (gz.mp λq=>by rw[_0u.mpr q] at h_;cases h_)]
 | none=>rw[if_neg (_0u.mp h_)];exact _8V _ _
end
section
variable{c:Cx}{d:Nat}{σ:af}{Q:AV->af->Prop}{N:Nms}{T:Nat}{h:HS}{P M:aU}{told:List (Nat×Nat)}
theorem _kL{op:String}{ks:List Nat}(H:Has c N)(h1:6<=d)(hk:HOK T h)(hi:eo h.ms told (λ_=>False))(vZ:gT op)(kH:∀k∈ks,k<h.ms.size)(h2:ks.length<=2)(hs:h.ms.size+1<=200)(hA:At σ (P++(M++h.cells N)))
  (k:∀aX h',h'.self=h.self->h'.ms=h.ms.add (op,ks)->HOK T h'->eo h'.ms told (λ_=>False)->At aX (P++(M++h'.cells N))->Q (.int ((h.ms.numberOf (op,ks):Nat):Int)) aX):br c d (.raw (.ref N.h_add)) [.ref h.self,.str op,.tup (b9 ks)] σ Q:=
 _j7 H h1 hk vZ kH h2 hs σ hA.a3 Q λv l' aX hp hS o=>by
  obtain⟨rfl,h',k1,k2,k3,k4,rfl⟩:=hp
  exact k aX h' k1 k2 ⟨k3,k4,k2 ▸ hk.m.add kH h2 hs⟩ (k2 ▸ hi.add hk.m kH h2 hs) (hA.fin2 hS o)
theorem _kM{a b:Nat}{r:AV}(H:Has c N)(h1:4<=d)(hk:HOK T h)(hi:eo h.ms told (λ_=>False))(ha:a<h.ms.size)(hb:b<h.ms.size)(hT:T+1<=2000)(hA:At σ (P++(M++h.cells N)))
  (k:∀aX h',h'.self=h.self->h'.ms=h.ms.join a b r->HOK (T+1) h'->eo h'.ms (told++[(a,b)]) (λ_=>False)->At aX (P++(M++h'.cells N))->Q (.bool (decide (h.ms.find a≠h.ms.find b))) aX):br c d (.raw (.ref N.h_merge)) [.ref h.self,.int (a:Int),.int (b:Int),r] σ Q:=
 _iY H h1 hk ha hb σ hA.a3 Q λv l' aX hp hS o=>by
  obtain⟨rfl,h',k1,k2,k3,k4,rfl⟩:=hp
  exact k aX h' k1 k2 ⟨k3,k4,k2 ▸ hk.m.join ha hb hT⟩ (k2 ▸ hi.tell hk.m ha hb) (hA.fin2 hS o)
theorem _9n(H:Has c N)(S:tf c N)(h1:5<=d)(hk:HOK T h)(hi:eo h.ms told (λ_=>False))(hA:At σ (P++(M++h.cells N)))
  (k:∀aX h',h'.self=h.self->h'.ms=h.ms.settle->HOK T h'->eo h'.ms told (λ_=>False)->h'.ms.waiting=[]->h'.ms.nodes=h.ms.nodes->At aX (P++(M++h'.cells N))->Q .none aX):br c d (.raw (.ref N.h_settle)) [.ref h.self] σ Q:=
 _iZ H S h1 hk σ hA.a3 Q λv l' aX hp hS o=>by
  obtain⟨rfl,h',k1,k2,k3,k4,rfl⟩:=hp
  obtain⟨q1,q2,q3⟩:=hi.settle hk.m
  exact k aX h' k1 k2 ⟨k3,k4,k2 ▸ q1⟩ (k2 ▸ q2) (k2 ▸ q3) (k2 ▸ _jK hk.m) (hA.fin2 hS o)
end
theorem _kN{s:MS}(nd:cq)(hJ:s.nodes.Nodup):(if nd∈s.nodes then s.nodes else s.nodes++[nd])[s.numberOf nd]? = some nd/\∀m,m<s.numberOf nd->(if nd∈s.nodes then s.nodes else s.nodes++[nd])[m]? ≠ some nd:=by
 unfold MS.numberOf
 cases q:fS s.nodes nd with
 | some i=>
  have h:=_4e q
  rw[if_pos (aC h)]
  refine⟨h,λm hm e=>?_⟩
  have:=_4f hJ e
  rw[q] at this
  exact nJ hm (aB this)
 | none=>
  have h:=_0u.mp q
  rw[if_neg h]
  refine⟨by show(s.nodes++[nd])[s.nodes.length]? = _;simp,λm hm e=>?_⟩
  rw[dM hm] at e
  exact h (aC e)
noncomputable abbrev np(β:Type):=AV->β->af->(β->af->Prop)->Prop
section
variable{β:Type}{keep:af->Prop}{body:np β}{items:List AV}{σ:af}{Q:β->af->Prop}{c:Cx}{d:Nat}{b:β}{L:aU}
theorem _2V(f:Nat->β)(L:Nat->aU)(hA:At σ (L 0))(hk:∀i σ,At σ (L i)->keep σ)(hs:∀(i:Nat) σ (k:β->af->Prop),At σ (L i)->(∀aX,At aX (L (i+1))->k (f (i+1)) aX)->∀x,items[i]? = some x->body x (f i) σ k)(he:∀σ,At σ (L items.length)->Q (f items.length) σ):compLoop keep body items (f 0) σ Q:=
 _z (λi b σ=>b=f i/\At σ (L i)) ⟨rfl,hA⟩ (λi _ σ q=>hk i σ q.2) (λi x b' σ k hx q fP=>q.1 ▸ hs i σ k q.2 (λaX h=>fP _ _ ⟨rfl,h⟩) x hx) (λb' σ q=>q.1 ▸ he σ q.2)
theorem _kO(f:Nat->β)(hA:At σ L)(hk:∀σ,At σ L->keep σ)(hs:∀(i:Nat) σ (k:β->af->Prop),At σ L->(∀aX,At aX L->k (f (i+1)) aX)->∀x,items[i]? = some x->body x (f i) σ k)(he:∀σ,At σ L->Q (f items.length) σ):compLoop keep body items (f 0) σ Q:=
 _2V f (λ_=>L) hA (λ_=>hk) hs he
theorem _kP(hA:At σ L)(hk:∀σ,At σ L->keep σ)(hs:∀(i:Nat) σ (k:β->af->Prop),At σ L->(∀aX,At aX L->k b aX)->∀x,items[i]? = some x->body x b σ k)(he:∀σ,At σ L->Q b σ):compLoop keep body items b σ Q:=
 _2V (λ_=>b) (λ_=>L) hA (λ_=>hk) hs he
theorem _9o{l:List Nat}{i:Nat}{P:AV->Prop}(k:∀n,l[i]? = some n->P (.int (n:Nat)))(x:AV)(h:(b9 l)[i]? = some x):P x:=(_0v h).elim λn q=>q.2 ▸ k n q.1
theorem _1R{α:Type}{f:α->AV}{l:List α}{i:Nat}{P:AV->Prop}(k:∀y,l[i]? = some y->P (f y))(x:AV)(h:(l.map f)[i]? = some x):P x:=(_8X h).elim λy q=>q.2 ▸ k y q.1
theorem _9p{l:List AV}{i:Nat}{P:AV->Prop}(k:∀y,l[i]? = some y->P (.tup [.int (i:Nat),y]))(x:AV)(h:(ji 0 l)[i]? = some x):P x:=by
 rw[_9l] at h
 obtain⟨y,hy,rfl⟩:=bt.mp h
 have:=k y hy
 rw[<-i6 i] at this
 exact this
theorem _kQ{n:Nat}{Q:List AV->(af->Prop)->Prop}(hz:bp n)(h:Q (gZ 0 n) λ_=>True):fH c d (.range 0 (n:Int)) σ Q:=_3M _4d (_4c hz) (by rw[Int.sub_zero];exact h)
theorem _9q{n:Nat}(J:Nat->af->Prop)(hz:bp n)(h0:J 0 σ)(hs:∀(i:Nat) σ (k:β->af->Prop),J i σ->(∀aX,J (i+1) aX->k b aX)->i<n->body (.int (i:Nat)) b σ k)(he:∀σ,J n σ->Q b σ):fH c d (.range 0 (n:Int)) σ λitems keep=>compLoop keep body items b σ Q:=
 _kQ hz (_z (λi b' σ=>b'=b/\J i σ) ⟨rfl,h0⟩ (λ_ _ _ _=>trivial) (λi x b' σ k hx h hk=>h.1 ▸ (_2C hx).2 ▸ hs i σ k h.2 (λaX j=>hk _ _ ⟨rfl,j⟩) (_2C hx).1) λb' σ h=>h.1 ▸ he σ (by have:=h.2;rw[_1n] at this;exact this))
theorem _kR{l:ao}{xs:List AV}(f:Nat->β)(L:Nat->aU)(i:Nat)(e:∀j,(L j).nth i=some (l,.list xs))(hA:At σ (L 0))(hs:∀(j:Nat) σ (k:β->af->Prop),At σ (L j)->(∀aX,At aX (L (j+1))->k (f (j+1)) aX)->∀x,xs[j]? = some x->body x (f j) σ k)(he:∀σ,At σ (L xs.length)->Q (f xs.length) σ):fH c d (.ref l) σ λitems keep=>compLoop keep body items (f 0) σ Q:=
 _0q (hA.nth i (e 0)) (_2V f L hA (λj _ h=>h.nth i (e j)) hs he)
theorem _4L{l:ao}{xs:List AV}(L:Nat->aU)(i:Nat)(e:∀j,(L j).nth i=some (l,.list xs))(hA:At σ (L 0))(hs:∀(j:Nat) σ (k:β->af->Prop),At σ (L j)->(∀aX,At aX (L (j+1))->k b aX)->∀x,xs[j]? = some x->body x b σ k)(he:∀σ,At σ (L xs.length)->Q b σ):fH c d (.ref l) σ λitems keep=>compLoop keep body items b σ Q:=
 _kR (λ_=>b) L i e hA hs he
theorem _kS{l:ao}{xs:List AV}(L:Nat->aU)(i:Nat)(e:∀j,(L j).nth i=some (l,.list xs))(hz:xs.length<=100000)(hA:At σ (L 0))(hs:∀(j:Nat) σ (k:β->af->Prop),At σ (L j)->(∀aX,At aX (L (j+1))->k b aX)->∀y,xs[j]? = some y->body (.tup [.int (j:Nat),y]) b σ k)(he:∀σ,At σ (L xs.length)->Q b σ):∃l' xs,AV.ref l = .ref l'/\σ l'=some (.list xs)/\xs.length<=100000/\compLoop (λaX=>aX l'=some (.list xs)) body (ji 0 xs) b σ Q:=
 ⟨l,xs,rfl,hA.nth i (e 0),hz,_2V (λ_=>b) L hA (λj _ h=>h.nth i (e j)) (λj σ k h hk=>_9p (hs j σ k h hk)) (by rw[_2U];exact he)⟩
end
section
variable{body:np (List AV)}{items:List AV}{σ:af}{R:ao->af->Prop}{c:Cx}{d:Nat}{L:aU}
noncomputable abbrev pq(body:np (List AV))(σ:af)(R:ao->af->Prop)(items:List AV)(keep:af->Prop):Prop:=items.length<=b8/\compLoop keep body items ([]:List AV) σ λbV bI=>∀a,bI a=none->R a (bI.set a (.list bV))
theorem _9r{keep:af->Prop}(f:Nat->List AV)(f0:f 0=[])(hz:items.length<=b8)(hA:At σ L)(hk:∀σ,At σ L->keep σ)(hs:∀(i:Nat) σ (k:List AV->af->Prop),At σ L->(∀aX,At aX L->k (f (i+1)) aX)->∀x,items[i]? = some x->body x (f i) σ k)(he:∀m aX,At aX ((m,.list (f items.length))::L)->R m aX):pq body σ R items keep:=
 ⟨hz,f0 ▸ _kO f hA hk hs λσ h m hm=>he m _ (h.new hm)⟩
theorem _1S{l:ao}{xs:List AV}(i:Nat)(e:L.nth i=some (l,.list xs))(f:Nat->List AV)(f0:f 0=[])(hz:bp xs.length)(hA:At σ L)(hs:∀(j:Nat) σ (k:List AV->af->Prop),At σ L->(∀aX,At aX L->k (f (j+1)) aX)->∀x,xs[j]? = some x->body x (f j) σ k)(he:∀m aX,At aX ((m,.list (f xs.length))::L)->R m aX):fH c d (.ref l) σ (pq body σ R):=
 _0q (hA.nth i e) (_9r f f0 hz.le hA (λ_ h=>h.nth i e) hs he)
theorem _kT{l:ao}{xs:List AV}(i:Nat)(e:L.nth i=some (l,.list xs))(f:Nat->List AV)(f0:f 0=[])(hz:bp xs.length)(hA:At σ L)(hs:∀(j:Nat) σ (k:List AV->af->Prop),At σ L->(∀aX,At aX L->k (f (j+1)) aX)->∀y,xs[j]? = some y->body (.tup [.int (j:Nat),y]) (f j) σ k)(he:∀m aX,At aX ((m,.list (f xs.length))::L)->R m aX):∃l' xs,AV.ref l = .ref l'/\σ l'=some (.list xs)/\xs.length<=100000/\pq body σ R (ji 0 xs) λaX=>aX l'=some (.list xs):=
 ⟨l,xs,rfl,hA.nth i e,hz,_9r f f0 (by rw[_2U];exact hz.le) hA (λ_ h=>h.nth i e) (λj σ k h hk=>_9p (hs j σ k h hk)) (by rw[_2U];exact he)⟩
end
section
variable{c:Cx}{d:Nat}{σ:af}{Q:AV->af->Prop}{a b:Int}{L:aU}
theorem _kU{N:Nms}{T:Nat}{h:HS}{told:List (Nat×Nat)}{P M:aU}{op:String}{ks:List Nat}(H:Has c N)(h1:6<=d)(hk:HOK T h)(hi:eo h.ms told (λ_=>False))(vZ:gT op)(kH:∀k∈ks,k<h.ms.size)(h2:ks.length<=2)(hs:h.ms.size+1<=200)(hA:At σ (P++(M++h.cells N)))
  (k:∀z aX h',h'.self=h.self->h'.ms=h.ms.add (op,ks)->HOK T h'->eo h'.ms told (λ_=>False)->z=h.ms.numberOf (op,ks)->((op,ks) ∉ h.ms.nodes->z=h.ms.size)->At aX (P++(M++h'.cells N))->Q (.int (z:Nat)) aX):br c d (.raw (.ref N.h_add)) [.ref h.self,.str op,.tup (b9 ks)] σ Q:=
 _kL H h1 hk hi vZ kH h2 hs hA λaX h' a b e f g=>k _ aX h' a b e f rfl (λh_=>by unfold MS.numberOf;rw[_0u.mpr h_];rfl) g
theorem _9s(e:a=b)(h:Q (.bool true) σ):eQ c d .Eq (.int a) (.int b) σ Q:=_0p (by rw[decide_eq_true e];exact h)
theorem _kV(e:¬a=b)(h:Q (.bool false) σ):eQ c d .Eq (.int a) (.int b) σ Q:=_0p (by rw[decide_eq_false e];exact h)
theorem _2W(e:a=b)(h:Q (.bool false) σ):eQ c d .NotEq (.int a) (.int b) σ Q:=_1g (by rw[decide_eq_false λq=>q e];exact h)
theorem _kW(e:¬a=b)(h:Q (.bool true) σ):eQ c d .NotEq (.int a) (.int b) σ Q:=_1g (by rw[decide_eq_true e];exact h)
theorem _kX{N:Nms}{T:Nat}{f:ao}{h:HS}(D:cI c f ["self"] fA)(H:Has c N)(h1:1<=d)(hA:At σ (h.cells N))(hk:HOK T h)(hw:h.waiting=[])(hq:Q (.bool true) σ):br c d (.raw (.ref f)) [.ref h.self] σ Q:=_kJ D H h1 hA hk (by rw[decide_eq_true hw];exact hq)
end
noncomputable def fy(fd lc:ao)(cs:List Int)(n:Nat):aU:=[(fd,.list [.ref lc,.int (n:Nat)]),(lc,.list (cJ cs))]
section
variable{c:Cx}{d:Nat}{σ:af}{Q:AV->af->Prop}{N:Nms}{L:NE}
theorem _09{fd lc:ao}{cs:List Int}{n m:Nat}{r:aU}(H:Has c N)(E:oi c N L)(h1:1<=d)(hm:1<=m)(hn:n<=9000)(qL:cs.length<=1000)(hA:At σ (fy fd lc cs n++r))(k:∀w aX,w<m->At aX (fy fd lc cs (n+1)++r)->Q (.int ((w:Nat):Int)) aX):
  br c d (.raw (.ref L.f_draw)) [.ref fd,.int (m:Int)] σ Q:=by
 refine _g E.d_draw h1 rfl ?_
 have G:=H.gs
 refine _7j (hA.nth 0 rfl) rfl ?_
 refine _0K ?_
 refine _6Y (hA.nth 0 rfl) (fz rfl) (by decide) (show(1:Int)<((2:Nat):Int) by decide) ?_
 replace hA:At _ (fy fd lc cs (n+1)++r):=hA.put 0 rfl (.list [.ref lc,.int ((n+1:Nat):Int)])
 rw[show([AV.ref lc,AV.int (n:Nat)]:List AV).set (lU 1) (.int ((n:Int)+1))=[.ref lc,.int ((n+1:Nat):Int)] from rfl]
 generalize σ.set fd _=σ1 at hA ⊢
 have fin:∀x:Int,Q (.int (x.fmod (m:Int))) σ1:=λx=>by
  obtain⟨w,h1,h2⟩:=_jN (a:=x) hm
  rw[h2];exact k w σ1 h1 hA
 refine _4 G.g_len ?_
 refine _w (hA.nth 1 rfl) (by rw[_03];unfold bp;exact _3k qL) ?_
 rw[_03]
 refine _2h ?_
 refine _G (λfO=>?_) (λxd=>?_)
 ·refine _4i (hA.nth 1 rfl) (by unfold bp;exact _3k qL) (i:=n) (by exact _el fO) ?_
  refine _2g (by exact _5S hm) ?_
  exact fin _
 ·refine _gV (.inl (by unfold rY;decide)) ?_
  refine _0K ?_
  refine _2g (by decide) ?_
  refine _2g (by exact _5S hm) ?_
  exact fin _
end
noncomputable def T5.dat:T5->oK
 | .a=>.tuple [.str "a"]
 | .b=>.tuple [.str "b"]
 | .c=>.tuple [.str "c"]
 | .f t=>.tuple [.str "f", t.dat]
 | .g t u=>.tuple [.str "g", t.dat,u.dat]
theorem _0m{σ:af}(t:T5):Den σ (.tup t.av) t.dat:=by
 induction t with
 | a=>exact .tup (.cons (.str _) .nil)
 | b=>exact .tup (.cons (.str _) .nil)
 | c=>exact .tup (.cons (.str _) .nil)
 | f t ih=>exact .tup (.cons (.str _) (.cons ih .nil))
 | g t u ih ih2=>exact .tup (.cons (.str _) (.cons ih (.cons ih2 .nil)))
theorem _9t{σ:af}(ts:List T5):kS σ (avL ts) (ts.map T5.dat):=by
 rw[_D]
 exact _1K _0m ts
theorem _0a{n:Nat}{t:T5}(h:t.dep<=n):kqdOk (n+1) t.dat=true:=by
 induction t generalizing n with
 | a=>exact _06 (_r (_U _ _) _07)
 | b=>exact _06 (_r (_U _ _) _07)
 | c=>exact _06 (_r (_U _ _) _07)
 | f t ih=>
  match n,h with
  | n+1,h=>exact _06 (_r (_U _ _) (_r (ih (ew h)) _07))
 | g t u ih ih2=>
  match n,h with
  | n+1,h=>
   have h:=kA.mp (ew h)
   exact _06 (_r (_U _ _) (_r (ih h.1) (_r (ih2 h.2) _07)))
theorem _kY{ts:List T5}(h:∀t∈ts,t.dep<=7):∀D∈ts.map T5.dat,kqdOk 8 D=true:=λD hD=>by
 obtain⟨t,ht,rfl⟩:=aq.mp hD
 exact _0a (h t ht)
theorem _kZ{t u:T5}(h:t.dat=u.dat):t=u:=by
 induction t generalizing u with
 | a=>cases u <;> first | rfl | exact absurd (_s (fN (aL (e_ h)).1)) (by decide)
 | b=>cases u <;> first | rfl | exact absurd (_s (fN (aL (e_ h)).1)) (by decide)
 | c=>cases u <;> first | rfl | exact absurd (_s (fN (aL (e_ h)).1)) (by decide)
 | f t ih=>
  cases u with
  | f u=>exact congrArg T5.f (ih (aL (aL (e_ h)).2).1)
  | _=>exact absurd (_s (fN (aL (e_ h)).1)) (by decide)
 | g t t2 ih ih2=>
  cases u with
  | g u u2=>
   have h2:=(aL (e_ h)).2
   rw[ih (aL h2).1,ih2 (aL (aL h2).2).1]
  | _=>exact absurd (_s (fN (aL (e_ h)).1)) (by decide)
theorem _l0{t:T5}{ts:List T5}:t.dat∈ts.map T5.dat ↔ t∈ts:=_jM (λ{x y}=>_kZ)
structure Tms(ts:List T5)(i:Nat):Prop where
 ok:Ts5 ts
 dep:∀t∈ts,t.dep<=i
 two:2<=ts.length
 len:ts.length<=i+2
theorem _4M{t:T5}(h:t∈[T5.a,.b]):t.op = "a" \/ t.op = "b" :=(aO.mp h).elim (λe=>.inl (e ▸ rfl)) λh=>.inr (aj.mp h ▸ rfl)
theorem Tms.start:Tms [.a,.b] 0 where
 ok:=⟨by decide,λt h=>(_4M h).elim (λe=>absurd (show("f" : String) = "a" from e) (by decide)) λe=>absurd (show("f" : String) = "b" from e) (by decide),λt u h=>(_4M h).elim (λe=>absurd (show("g" : String) = "a" from e) (by decide)) λe=>absurd (show("g" : String) = "b" from e) (by decide),λt u h=>(_4M h).elim (λe=>absurd (show("g" : String) = "a" from e) (by decide)) λe=>absurd (show("g" : String) = "b" from e) (by decide)⟩
 dep:=λt h=>(aO.mp h).elim (λe=>e ▸ aD _) λh=>aj.mp h ▸ aD _
 two:=aD _
 len:=aD _
theorem Tms.more{ts:List T5}{i:Nat}(h:Tms ts i):Tms ts (i+1):=⟨h.ok,λt m=>eS (h.dep t m),h.two,eS h.len⟩
theorem Tms.snoc{ts:List T5}{i:Nat}{t:T5}(h:Tms ts i)(hn:t ∉ ts)(hk:∀k∈t.kids,k∈ts):Tms (ts++[t]) (i+1) where
 ok:={
  nd:=cg.mpr ⟨h.ok.nd,by simp,λx hx y hy e=>hn (aj.mp hy ▸ e ▸ hx)⟩
  f:=λu m=>a8 _ ((aK.mp m).elim (h.ok.f u) λm=>hk u (aj.mp m ▸ .head _))
  g1:=λu v m=>a8 _ ((aK.mp m).elim (h.ok.g1 u v) λm=>hk u (aj.mp m ▸ .head _))
  g2:=λu v m=>a8 _ ((aK.mp m).elim (h.ok.g2 u v) λm=>hk v (aj.mp m ▸ .tail _ (.head _)))}
 dep:=λu m=>(aK.mp m).elim (λm=>eS (h.dep u m)) λm=>by
  obtain rfl:=aj.mp m
  cases u with
  | f t=>exact cC (h.dep t (hk t (.head _)))
  | g t v=>exact cC (kA.mpr ⟨h.dep t (hk t (.head _)),h.dep v (hk v (.tail _ (.head _)))⟩)
  | _=>exact b0 _
 two:=by rw[am];exact Nat.le_add_right_of_le h.two
 len:=by rw[am,aF];exact cC h.len
theorem Tms.kid_dep{ts:List T5}{i:Nat}{x:T5}(h:Tms ts i)(hk:∀k∈x.kids,k∈ts):x.dep<=i+1:=by
 cases x with
 | f t=>exact cC (h.dep t (hk t (.head _)))
 | g t v=>exact cC (kA.mpr ⟨h.dep t (hk t (.head _)),h.dep v (hk v (.tail _ (.head _)))⟩)
 | _=>exact b0 _
theorem Tms.le{ts:List T5}{i j:Nat}(h:Tms ts i)(q:i<=j):Tms ts j:=⟨h.ok,λt m=>ay (h.dep t m) q,h.two,ay h.len (lP q 2)⟩
noncomputable def nY(t u:T5):List T5:=[.c,.f t,.g t u,.g u t]
theorem _l1{ts:List T5}{t u x:T5}(ht:t∈ts)(hu:u∈ts)(h:x∈nY t u):∀k∈x.kids,k∈ts:=by
 intro k hk
 unfold nY at h
 simp only[aO,bj,or_false] at h
 rcases h with rfl | rfl | rfl | rfl
 ·exact absurd hk bj
 ·exact aj.mp hk ▸ ht
 ·exact(aO.mp hk).elim (λe=>e ▸ ht) λhk=>aj.mp hk ▸ hu
 ·exact(aO.mp hk).elim (λe=>e ▸ hu) λhk=>aj.mp hk ▸ ht
section
variable{c:Cx}{d:Nat}{σ:af}{Q:AV->af->Prop}{N:Nms}{L:NE}
theorem _l2{ts:List T5}{i:Nat}{t:T5}(h:ts[i]? = some t):(avL ts)[i]? = some (.tup t.av):=by rw[_D,aQ,h];rfl
theorem _1T{l:ao}{ts:List T5}{i:Nat}{t:T5}(e:σ l=some (.list (avL ts)))(hz:bp ts.length)(h:ts[i]? = some t)(q:Q (.tup t.av) σ):gN c d (.ref l) (.int (i:Int)) σ Q:=
 have hi:=(az.mp h).1
 _1i e (by rw[_c];exact hz) (by rw[_c];exact _01 hi) (_l2 h) (hz.idx hi) q
theorem _9u(ts:List T5)(t:T5):avL ts++[.tup t.av]=avL (ts++[t]):=by rw[_D,_D,aM];rfl
inductive TmI(fo fd lc:ao)(cs:List Int)(r:aU)(n0:Nat)(i:Nat)(σ:af):Prop
 | mk (ts:List T5) (n:Nat) (h:Tms ts i) (hn:n<=n0+3*i) (hA:At σ (fy fd lc cs n++((fo,.list (avL ts))::r)))
end
section
variable{c:Cx}{d:Nat}{σ:af}{Q:AV->af->Prop}{N:Nms}{L:NE}
theorem _l3{fd lc:ao}{cs:List Int}{n:Nat}{r:aU}(H:Has c N)(E:oi c N L)(h1:2<=d)(hn:n<=100)(qL:cs.length<=1000)(hA:At σ (fy fd lc cs n++r))(k:∀fo ts n' aX,Tms ts 6->n'<=n+19->At aX ((fo,.list (avL ts))::(fy fd lc cs n'++r))->Q (.ref fo) aX):
  br c d (.raw (.ref L.f_terms)) [.ref fd] σ Q:=by
 have G:=H.gs
 have d1:1<=dn d:=_b h1
 refine _g E.d_terms (bN h1) rfl ?_
 refine And.intro (sl rfl) ?_
 refine And.intro (sl rfl) ?_
 refine And.intro (sl rfl) λfo hfo=>?_
 refine _j (ce:=.list (avL [.a,.b])) hA hfo λσ1 hA=>?_
 replace hA:=hA.perm (cW (l₁:=fy fd lc cs n))
 refine _4 G.g_range ?_
 refine _4 E.g_draw ?_
 refine _09 (m:=5) H E d1 (by decide) (ay hn (by decide)) qL hA λw σ2 hw hA=>?_
 refine _0K ?_
 refine _2p ?_
 rw[show(2:Int)+(w:Int)=((2+w:Nat):Int) by exact _em]
 refine _9q (TmI fo fd lc cs r (n+1)) (by unfold bp;exact _en hw) (.mk _ _ .start (aD _) hA) (λi σ3 k I hk hi=>?_) λσ3 I=>?_
 ·clear hA
  obtain⟨ts,m,ht,hm,hA⟩:=I
  refine _4 E.g_draw ?_
  refine _09 (m:=4) H E d1 (by decide) (by exact _eo hn hw hi hm) qL hA λway σ4 hway hA=>?_
  have hz:bp ts.length:=by have:=ht.len;unfold bp;exact _ep hw hi this
  refine _4 E.g_draw ?_
  refine _4 G.g_len ?_
  refine _w (hA.nth 2 rfl) (by rw[_c];exact hz) ?_
  rw[_c]
  refine _09 (m:=ts.length) H E d1 (ay (by decide) ht.two) (by exact _eq hn hw hi hm) qL hA λo σ5 ho hA=>?_
  have go:ts[o]? = some ts[o]:=ax ho
  refine _1T (hA.nth 2 rfl) hz go ?_
  refine And.intro (sl rfl) (_x rfl ?_)
  refine _4 E.g_draw ?_
  refine _09 (m:=2) H E d1 (by decide) (by exact _er hn hw hi hm) qL hA λl σ6 hl hA=>?_
  have nF:=fq hl ht.two
  have xU:ts[l]? = some ts[l]:=ax nF
  refine _1T (hA.nth 2 rfl) hz xU ?_
  have m1:ts[o]∈ts:=bO ho
  have m2:ts[l]∈ts:=bO nF
  generalize ts[o]=t at m1 go ⊢
  generalize ts[l]=u at m2 xU ⊢
  clear go xU ho nF
  refine And.intro (sl rfl) ?_
  refine And.intro (sl rfl) ?_
  refine And.intro (sl rfl) ?_
  refine And.intro (sl rfl) ?_
  refine And.intro (sl rfl) λwl hwl=>?_
  refine _j (ce:=.list (avL (nY t u))) hA hwl λσ7 hA=>?_
  have hw:(nY t u)[way]? = some ((nY t u).getD way .a):=by
   rw[bc,ax (show way<(nY t u).length from hway)];rfl
  refine _1T (hA.nth 0 rfl) (by unfold bp;exact be rfl) hw ?_
  have hx:=_l1 m1 m2 (aC hw)
  generalize (nY t u).getD way .a=x at hx ⊢
  replace hA:=hA.tail
  classical
  refine _jI (D:=x.dat) (hA.nth 2 rfl) (_9t _) (_0m x) (_kY λt m=>ay (ht.dep t m) (by(first | lia | omega))) (_0a (ay (ht.kid_dep hx) (by(first | lia | omega)))) ?_
  rw[show decide (x.dat∈ts.map T5.dat)=decide (x∈ts) from decide_eq_decide.mpr _l0]
  refine _44 (λiA=>?_) (λuF=>?_)
  ·exact hk _ (.mk ts _ ht.more (by exact _5T hm) hA)
  ·refine _v (hA.nth 2 rfl) ?_
   refine _l ?_
   refine _F (hA.nth 2 rfl) (by rw[_c];exact hz) ?_
   refine _u hA 2 rfl λσ8 hA=>?_
   rw[_9u] at hA
   exact hk _ (.mk (ts++[x]) _ (ht.snoc uF hx) (by exact _5T hm) hA)
 ·obtain⟨ts,m,ht,hm,hA⟩:=I
  exact k fo ts m σ3 (ht.le (by exact _es hw)) (by exact _et hw hm) (hA.perm cW.symm)
end
noncomputable def lz(T:List (List AV))(L:List Nat):List (List AV×AV):=(T.zip L).map λx=>(x.1,AV.int (x.2:Nat))
theorem _2X{t:List AV}{T:List (List AV)}{x:Nat}{L:List Nat}:lz (t::T) (x::L)=(t,.int (x:Nat))::lz T L:=rfl
theorem _l4{x i:Nat}{L:List Nat}:gl (x::L) (i+1)=gl L i:=rfl
theorem _4N[DecidableEq (List AV)]:∀{T:List (List AV)} {L:List Nat} {i:Nat} {t:List AV},T.Nodup->L.length=T.length->T[i]? = some t->bz (lz T L) t=some (.int (gl L i:Nat))
 | [],_,_,_,_,_,h=>nomatch h
 | _::_,[],_,_,_,q,_=>nomatch q
 | a::T,x::L,0,t,_,_,h=>by
  obtain rfl:=aB h
  rw[_2X,_e,if_pos rfl];rfl
 | a::T,x::L,i+1,t,hn,q,h=>by
  have hn:=bC.mp hn
  rw[_2X,_e,if_neg (λe:a=t=>hn.1 (e ▸ aC (show T[i]? = _ from h))),_l4]
  exact _4N hn.2 (iw q) h
theorem _9v[DecidableEq (List AV)]:∀{T:List (List AV)} {L:List Nat} {i v:Nat} {t:List AV},T.Nodup->L.length=T.length->T[i]? = some t->d9 (lz T L) t (.int (v:Nat))=lz T (L.set i v)
 | [],_,_,_,_,_,_,h=>nomatch h
 | _::_,[],_,_,_,_,q,_=>nomatch q
 | a::T,x::L,0,v,t,_,_,h=>by
  obtain rfl:=aB h
  rw[_2X,_y,if_pos rfl];rfl
 | a::T,x::L,i+1,v,t,hn,q,h=>by
  have hn:=bC.mp hn
  rw[_2X,_y,if_neg (λe:a=t=>hn.1 (e ▸ aC (show T[i]? = _ from h))),_9v hn.2 (iw q) h];rfl
theorem _l5{T:List (List AV)}{L:List Nat}(h:L.length=T.length):(lz T L).map (·.1)=T:=by
 unfold lz
 rw[bf]
 exact ue (cm h.symm)
theorem _9w{T:List (List AV)}{L:List Nat}(h:L.length=T.length):(lz T L).length=T.length:=by
 unfold lz
 rw[ac,List.length_zip,h,rM]
theorem _9x{K V:Type}[DecidableEq K]:∀(l m:List (K×V)),((m++l).map (·.1)).Nodup->l.foldl (λm x=>d9 m x.1 x.2) m=m++l
 | [],m,_=>(bh m).symm
 | x::l,m,h=>by
  have e:d9 m x.1 x.2=m++[x]:=_0M (_0L.mpr λq=>by
   rw[aM,cg] at h
   exact h.2.2 _ q _ aE rfl)
  show l.foldl _ (d9 m x.1 x.2)=_
  rw[e,_9x l (m++[x]) (by rw[aZ];exact h),aZ];rfl
theorem _l6{K V:Type}[DecidableEq K]{l:List (K×V)}(h:(l.map (·.1)).Nodup):dictOf l=l:=_9x l [] h
section
variable{c:Cx}{d:Nat}{σ:af}{Q:AV->af->Prop}{tm:List (List AV)}{lb:List Nat}
theorem _l7{a:ao}{ep:Nat}{i:Nat}{t:List AV}(e:σ a=some (.dictE ep (lz tm lb)))(hn:tm.Nodup)(hl:lb.length=tm.length)(hk:∀t∈tm,d_ t)(ht:tm[i]? = some t)(h:Q (.int (gl lb i:Nat)) σ):gN c d (.ref a) (.tup t) σ Q:=by
 classical
 exact _k4 e (hk t (aC ht)) (_4N hn hl ht) h
theorem _l8{a:ao}{ep i v:Nat}{t:List AV}{Q:af->Prop}(e:σ a=some (.dictE ep (lz tm lb)))(hn:tm.Nodup)(hl:lb.length=tm.length)(hk:∀t∈tm,d_ t)(ht:tm[i]? = some t)(hz:tm.length<=1000)(h:Q (σ.set a (.dictE ep (lz tm (lb.set i v))))):ct c d .setItem [.ref a,.tup t,.int (v:Nat)] σ λ_ aX=>Q aX:=by
 classical
 refine _k5 e (hk t (aC ht)) (by rw[_9w hl];unfold bp;exact _3k hz) λep' q=>?_
 rw[q (by rw[_4N hn hl ht];rfl),_9v hn hl ht]
 exact h
end
noncomputable def gD(ts:List T5)(L:List Nat):List (List AV×AV):=lz (ts.map T5.av) L
section
variable{c:Cx}{d:Nat}{σ:af}{Q:AV->af->Prop}{ts:List T5}{lb:List Nat}{a:ao}{ep:Nat}{t:T5}
theorem _4O(h:ts.Nodup):(ts.map T5.av).Nodup:=bo.mpr (h.imp λne q=>ne (_2T q))
theorem _4P(h:∀t∈ts,t.dep<=7):∀t∈ts.map T5.av,d_ t:=λx hx=>by
 obtain⟨t,ht,rfl⟩:=aq.mp hx
 exact T5.keyed (h t ht)
theorem _L(e:σ a=some (.dictE ep (gD ts lb)))(hn:ts.Nodup)(hl:lb.length=ts.length)(hd:∀t∈ts,t.dep<=7)(ht:t∈ts)(h:Q (.int (hm ts lb t:Nat)) σ):gN c d (.ref a) (.tup t.av) σ Q:=
 _l7 e (_4O hn) (by rw[ac];exact hl) (_4P hd) (i:=ix ts t) (by rw[aQ,_4D ht];rfl) h
theorem _l9{i v:Nat}{Q:af->Prop}(e:σ a=some (.dictE ep (gD ts lb)))(hn:ts.Nodup)(hl:lb.length=ts.length)(hd:∀t∈ts,t.dep<=7)(ht:ts[i]? = some t)(hz:ts.length<=1000)(h:Q (σ.set a (.dictE ep (gD ts (lb.set i v))))):ct c d .setItem [.ref a,.tup t.av,.int (v:Nat)] σ λ_ aX=>Q aX:=
 _l8 e (_4O hn) (by rw[ac];exact hl) (_4P hd) (by rw[aQ,ht];rfl) (by rw[ac];exact hz) h
end
theorem _0A{ts:List T5}{i:Nat}{P:AV->Prop}(k:∀t,ts[i]? = some t->P (.tup t.av))(x:AV)(h:(avL ts)[i]? = some x):P x:=by
 rw[_D] at h
 exact _1R (f:=λt:T5=>AV.tup t.av) (P:=P) k x h
section
variable{body:AV->List AV->af->(List AV->af->Prop)->Prop}{σ:af}{R:ao->af->Prop}{c:Cx}{d:Nat}{L:aU}
theorem _la{keep:af->Prop}{f:T5->Nat}{R:List AV->af->Prop}(hk:keep σ)(l:List T5):∀bV:List AV,(∀(x:T5) bV (k:List AV->af->Prop),x∈l->k (bV++[.int ((f x:Nat):Int)]) σ->body (.tup x.av) bV σ k)->R (bV++b9 (l.map f)) σ->compLoop keep body (avL l) bV σ R:=by
 induction l with
 | nil=>exact λbV _ h=>⟨hk,(bh bV) ▸ h⟩
 | cons x l ih=>exact λbV hs h=>⟨hk,hs x bV _ (.head _) (ih _ (λy bV k hy=>hs y bV k (.tail _ hy)) (by rw[aZ];exact h))⟩
theorem _4Q(f:T5->Nat){l:List T5}(hz:l.length<=100)(hA:At σ L)(hs:∀(x:T5) bV (k:List AV->af->Prop),x∈l->k (bV++[.int ((f x:Nat):Int)]) σ->body (.tup x.av) bV σ k)(he:∀m aX,At aX ((m,.list (b9 (l.map f)))::L)->R m aX):fH c d (.tup (avL l)) σ (pq body σ R):=
 _R ⟨_02 (by rw[_c];exact hz),_la trivial _ [] hs λm hm=>he m _ (hA.new hm)⟩
end
noncomputable def uo(ts:List T5)(q:Nat×Nat):AV:=.tup [.tup (tAt ts q.1).av,.tup (tAt ts q.2).av]
noncomputable def prL(ts:List T5)(W:List (Nat×Nat)):List AV:=W.map (uo ts)
theorem _12(ts:List T5)(W:List (Nat×Nat)):(prL ts W).length=W.length:=ac _
theorem _2Y{ts:List T5}{t k:T5}(T:Ts5 ts)(h:t∈ts)(hk:k∈t.kids):k∈ts:=by
 cases t with
 | f t=>
  obtain rfl:=aj.mp hk
  exact T.f _ h
 | g t u=>
  rcases aO.mp hk with rfl | hk
  ·exact T.g1 _ _ h
  ·obtain rfl:=aj.mp hk
   exact T.g2 _ _ h
 | _=>exact absurd hk bj
theorem _0b(t:T5):t.kids.length<=2:=by cases t <;> exact be rfl
theorem _lb{t u:T5}(h:t.op=u.op):t.kids.length=u.kids.length:=_4C h (λe=>e ▸ rfl) (λx y a b=>by subst a;subst b;rfl) λx x' y y' a b=>by subst a;subst b;rfl
theorem _lc{α:Type}(xs:List α)(k:Nat):iI xs .none (.int (k:Int))=xs.take k:=by
 unfold iI uw uu lD
 dsimp only
 rw[if_neg (by exact _15),cb,lq]
 rcases dh k xs.length with h | h
 ·rw[dg h]
 ·rw[dC h,bT,dE h]
theorem _ld(ts:List T5)(k:Nat):iI (avL ts) .none (.int (k:Nat))=avL (ts.take k):=by
 rw[_lc,_D,_D,qg]
theorem _le(ts:List T5)(L:List Nat)(k i:Nat):(gg ts L k i).length<=i:=by
 unfold gg
 rw[ac]
 exact ay (c_ _ _) (cm aY)
theorem _4R(ts:List T5)(W:List (Nat×Nat))(q:Nat×Nat):prL ts W++[uo ts q]=prL ts (W++[q]):=by unfold prL;rw[aM];rfl
theorem _2Z(t:T5):kY 0 t.av.length=some 0:=by rw[t.av_eq];exact _01 (ga _)
section
variable{c:Cx}{d:Nat}{σ:af}{Q:AV->af->Prop}{N:Nms}{L:NE}
theorem _0B{x y:String}(h:Q (.bool (decide (x=y))) σ):eQ c d .Eq (.str x) (.str y) σ Q:=by
 classical
 refine _3K (Den.str x) (Den.str y) (_U 8 x) (_U 8 y) ?_
 rw[show decide (Dat.str (ab x)=Dat.str (ab y))=decide (x=y) from decide_eq_decide.mpr ⟨λe=>_s (fN e),λe=>by rw[e]⟩]
 exact h
theorem _30(t:T5):t.av[0]? = some (.str t.op):=by cases t <;> rfl
theorem _9y(t:T5):bp (avL t.kids).length:=by
 have:=_0b t
 rw[_c];unfold bp;exact _3b this
theorem _31{t:T5}(h:Q (.tup (avL t.kids)) σ):gN c d (.tup t.av) (.slice (.int 1) .none .none) σ Q:=by
 rw[t.av_eq]
 exact _1m (_9y t) h
theorem _9z{t:T5}(h:Q (.int ((t.kids.length+1:Nat):Int)) σ):br c d (.raw (.builtin "len")) [.tup t.av] σ Q:=by
 have e:t.av.length=t.kids.length+1:=by rw[t.av_eq,aP];exact congrArg (· + 1) (_c t.kids)
 have:=_0b t
 exact _h6 (by rw[e];unfold bp;exact _eu this) (by rw[e];exact h)
theorem _lf{l m:ao}{xs ys:List Nat}(e:σ l=some (.list (b9 xs)))(e':σ m=some (.list (b9 ys)))(h:Q (.bool (decide (xs=ys))) σ):eQ c d .Eq (.ref l) (.ref m) σ Q:=by
 by_cases q:xs=ys
 ·rw[decide_eq_true q] at h
  exact _7Q (.list e (_1J _)) (.list e' (_1J _)) (_0k (_2K 7 _)) (_0k (_2K 7 _)) (by rw[q]) h
 ·rw[decide_eq_false q] at h
  exact _7R (.list e (_1J _)) (.list e' (_1J _)) (_0k (_2K 7 _)) (_0k (_2K 7 _)) (λq'=>q (_8W (pD q'))) h
theorem _lg{so ho:ao}{ep:Nat}{ts:List T5}{lb:List Nat}{r:aU}(H:Has c N)(E:oi c N L)(h1:1<=d)(T:Ts5 ts)(hd:∀t∈ts,t.dep<=7)(hz:ts.length<=8)(hl:lb.length=ts.length)(hA:At σ ((so,.list (avL ts))::(ho,.dictE ep (gD ts lb))::r))(k:∀fo aX,At aX ((fo,.list (prL ts (eG ts lb ts.length)))::(so,.list (avL ts))::(ho,.dictE ep (gD ts lb))::r)->Q (.ref fo) aX):
  br c d (.raw (.ref L.f_twins)) [.ref so,.ref ho] σ Q:=by
 have G:=H.gs
 have r6:bp ts.length:=by unfold bp;exact _0n hz
 refine _g E.d_twins h1 rfl ?_
 refine And.intro (sl rfl) λfo hfo=>?_
 refine _j (ce:=.list (prL ts (eG ts lb 0))) hA hfo λσ1 hA=>?_
 refine⟨G.g_enumerate.g,?_⟩
 refine _kS (λk=>(fo,.list (prL ts (eG ts lb k)))::(so,.list (avL ts))::(ho,.dictE ep (gD ts lb))::r) 1 (λ_=>rfl) (by rw[_c];exact _0n hz) hA (λi σ2 kk hA hk=>_0A λt ht=>?_) λσ2 hA=>?_
 ·have mt:=aC ht
  have it:i<ts.length:=(az.mp ht).1
  have et:=_2P ht
  refine _x rfl ?_
  refine _h5 (lo:=.none) (hi:=.int (i:Nat)) (hA.nth 1 rfl) rfl rfl (by rw[_c];exact r6) λm hm0=>?_
  rw[_ld]
  refine _j (ce:=.list (avL (ts.take i))) hA hm0 λσ3 hA=>?_
  refine _4L (λj=>(m,.list (avL (ts.take i)))::(fo,.list (prL ts (eG ts lb i++gg ts lb i j)))::(so,.list (avL ts))::(ho,.dictE ep (gD ts lb))::r) 0 (λ_=>rfl) (by rw[show gg ts lb i 0=[] from rfl,bh];exact hA) (λj σ4 kk2 hA oY=>_0A λu hu=>?_) λσ4 hA=>?_
  ·have ij:j<i:=by
    have:=(az.mp hu).1
    rw[cX] at this
    exact _ev this
   rw[qi ij] at hu
   have mu:=aC hu
   have eu:=_2P hu
   have key:j3 ts lb i j=(decide (t.op=u.op)&&(decide (hm ts lb t≠hm ts lb u)&&decide (t.kids.map (hm ts lb)=u.kids.map (hm ts lb)))):=by
    unfold j3 hm
    rw[et,eu,_2Q T.nd ht,_2Q T.nd hu]
   have no:j3 ts lb i j=false->kk2 _ σ4:=λe=>oY σ4 (by rw[_4E,e,if_neg aR,bh];exact hA)
   refine _1l (k:=0) (x:=.str t.op) (_2Z t) (_30 t) (by decide) ?_
   refine _1l (k:=0) (x:=.str u.op) (_2Z u) (_30 u) (by decide) ?_
   by_cases e1:t.op=u.op
   ·refine _0B ?_
    rw[decide_eq_true e1]
    refine _4 G.g_len ?_
    refine _9z ?_
    refine _4 G.g_len ?_
    refine _9z ?_
    refine _9s (by rw[_lb e1]) ?_
    refine _L (hA.nth 3 rfl) T.nd hl hd mt ?_
    refine _L (hA.nth 3 rfl) T.nd hl hd mu ?_
    rw[key,decide_eq_true e1,gx] at no
    by_cases e2:hm ts lb t=hm ts lb u
    ·refine _2W (congrArg Int.ofNat e2) ?_
     rw[decide_eq_false (λq=>q e2)] at no
     exact no rfl
    ·refine _kW (λq=>e2 (d8 q)) ?_
     rw[decide_eq_true e2,gx] at no
     refine _31 ?_
     refine _4Q (hm ts lb) (ay (_0b t) (by decide)) hA (λx bV kk hx hk=>_L (hA.nth 3 rfl) T.nd hl hd (_2Y T mt hx) hk) λm1 σ5 hA=>?_
     refine _31 ?_
     refine _4Q (hm ts lb) (ay (_0b u) (by decide)) hA (λx bV kk hx hk=>_L (hA.nth 4 rfl) T.nd hl hd (_2Y T mu hx) hk) λm2 σ6 hA=>?_
     refine _lf (hA.nth 1 rfl) (hA.nth 0 rfl) ?_
     replace hA:=hA.tail.tail
     have fin:∀b:Bool,b=decide (t.kids.map (hm ts lb)=u.kids.map (hm ts lb))->j3 ts lb i j=b:=λb e=>by
      rw[key,decide_eq_true e1,decide_eq_true e2,e];rfl
     refine _G (λe3=>?_) λe3=>?_
     ·refine _v (hA.nth 1 rfl) ?_
      refine _l ?_
      refine And.intro (sl rfl) ?_
      refine _F (hA.nth 1 rfl) (by
       have a:=_4F ts lb i
       have b:=_le ts lb i j
       have c:=lM (ay (eV it) hz) (ay (eV it) hz)
       rw[_12,am];unfold bp;exact _ew hz it ij a b c) ?_
      refine _u hA 1 rfl λσ7 hA=>?_
      refine oY σ7 ?_
      rw[_4E,fin true (decide_eq_true e3).symm,if_pos rfl,<-aZ,<-_4R]
      unfold uo
      rw[et,eu]
      exact hA
     ·refine oY σ6 ?_
      rw[_4E,fin false (decide_eq_false e3).symm,if_neg aR,bh]
      exact hA
   ·refine _0B ?_
    rw[decide_eq_false e1]
    rw[key,decide_eq_false e1] at no
    exact no rfl
  ·rw[_c,cX,dg (eV it),<-_92] at hA
   exact hk _ hA.tail
 ·rw[_c] at hA
  exact k fo σ2 hA
end
noncomputable def kQ(f:Nat->Nat)(lab:List Nat)(i:Nat):List Nat:=(lab.take i).map f++lab.drop i
theorem _9A(f:Nat->Nat)(lab:List Nat)(i:Nat):(kQ f lab i).length=lab.length:=by
 unfold kQ
 rw[am,ac,<-am,kM]
theorem _4S{f:Nat->Nat}{lab:List Nat}{i x:Nat}(h:lab[i]? = some x):gl (kQ f lab i) i=x/\(kQ f lab i).set i (f x)=kQ f lab (i+1):=by
 have hi:i<lab.length:=(az.mp h).1
 have e:lab.drop i=x::lab.drop (i+1):=by rw[jm hi];rw[ax hi] at h;rw[aB h]
 have hl:((lab.take i).map f).length=i:=by rw[ac,cX];exact _ex hi
 refine⟨_2J ?_,?_⟩
 ·unfold kQ
  rw[e,dF (by exact _5U hl),hl,i7];rfl
 ·unfold kQ
  rw[bJ,h,aM,aZ,e,List.set_append_right _ _ (by exact _5U hl),hl,i7];rfl
theorem _lh(L:List Nat)(a b:Nat):cO L a b=kQ (λone=>if one=max (gl L a) (gl L b) then min (gl L a) (gl L b) else one) L L.length:=by
 unfold kQ cO
 rw[bT,List.drop_length,bh]
theorem _li{f:Nat->Nat}{lab:List Nat}{i x:Nat}(h:lab[i]? = some x)(e:f x=x):kQ f lab (i+1)=kQ f lab i:=by
 obtain⟨h1,h2⟩:=_4S (f:=f) h
 rw[<-h2,e]
 have hi:i<(kQ f lab i).length:=by rw[_9A];exact(az.mp h).1
 refine d6 λj=>?_
 rw[tT]
 split
 ·rename_i q
  subst q
  rw[ax hi,<-h1,_2J (ax hi)]
 ·rfl
noncomputable def h9(ts:List T5):List (List AV×AV):=gD ts (aV ts.length)
theorem _lj{ts:List T5}{j:Nat}{t:T5}(h:ts[j]? = some t):(h9 ts)[j]? = some (t.av,.int (j:Nat)):=by
 have hj:=(az.mp h).1
 unfold h9 gD lz
 rw[aQ,(List.getElem?_zip_eq_some (z:=(t.av,j))).mpr ⟨by rw[aQ,h];rfl,gh hj⟩]
 rfl
theorem _9B(ts:List T5):(h9 ts).map (·.1)=ts.map T5.av:=_l5 (by rw[aY,ac])
theorem _9C(ts:List T5):(h9 ts).length=ts.length:=(_9w (by rw[aY,ac])).trans (ac _)
noncomputable def kF(p:List AV×AV):AV:=.tup [.tup p.1,p.2]
noncomputable def envC5(so pl ho wl:ao):Loc:=[("some", .ref so),("pairs", .ref pl),("home", .ref ho),("wishes", .ref wl)]
inductive ClosI(so pl:ao)(ts:List T5)(pairs:List (T5×T5))(told:List (Nat×Nat))(r:aU)(n:Nat)(m:Loc)(σ:af):Prop
 | mk (wl ho:ao) (ep:Nat) (Lb:List Nat) (W:List (Nat×Nat)) (em:m=envC5 so pl ho wl) (hn:n8 ts.length Lb W=n) (C:Cl5 ts pairs told Lb W) (hW:W.length<=64)
  (hA:At σ ((wl,.list (prL ts W))::(ho,.dictE ep (gD ts Lb))::(so,.list (avL ts))::(pl,.list (prL ts told))::r))
section
variable{c:Cx}{d:Nat}{σ:af}{Q:AV->af->Prop}{N:Nms}{L:NE}
theorem _lk{a b:Nat}(h:Q (.int ((max a b:Nat):Int)) σ):br c d (.raw (.builtin "max")) [.int (a:Int),.int (b:Int)] σ Q:=_hz (by
 have:(if(b:Int) > a then(b:Int) else a)=((max a b:Nat):Int):=by split <;> (first | lia | omega)
 rw[this];exact h)
theorem _ll{a b:Nat}(h:Q (.int ((min a b:Nat):Int)) σ):br c d (.raw (.builtin "min")) [.int (a:Int),.int (b:Int)] σ Q:=_hA (by
 have:(if(b:Int) < a then(b:Int) else a)=((min a b:Nat):Int):=by split <;> (first | lia | omega)
 rw[this];exact h)
open Classical in
theorem _lm{x y:AV}{D D':oK}(hx:Den σ x D)(hy:Den σ y D')(hd:kqdOk 20 D=true)(kU:kqdOk 20 D'=true)(h:Q (.bool (decide (D=D'))) σ):eQ c d .Eq x y σ Q:=by
 refine _6 [.x _,.x _] λA Fz s P E G k v rv u ru=>?_
 obtain⟨as,ha⟩:=_H G.st D hx rv
 obtain⟨bs,hb'⟩:=_H G.st D' hy ru
 have sh:∀{D:oK},kqdOk 20 D=true->iO (kqdP D)=true:=λ{D} hd=>by
  have l:=kqd_lay 20 D hd
  unfold iO;rw[l.1,gx];exact decide_eq_true (ay l.2 (by decide))
 refine PyProof.Rows.eq_dataH ha hb' (sh hd) (sh kU) G.room.data ?_
 have q:=kqd_eqv 20 D D' 20 hd kU
 rw[show(kqdP D).eqv (kqdP D')=decide (D=D') by
  by_cases hq:D=D'
  ·rw[decide_eq_true hq];exact q.mpr hq
  ·rw[decide_eq_false hq];exact Bool.eq_false_iff.mpr λx=>hq (q.mp x)]
 exact k.same G (RV.bool _) h
noncomputable def prD(ts:List T5)(q:Nat×Nat):oK:=.tuple [(tAt ts q.1).dat,(tAt ts q.2).dat]
theorem _9D(ts:List T5)(q:Nat×Nat):Den σ (uo ts q) (prD ts q):=.tup (.cons (_0m _) (.cons (_0m _) .nil))
theorem _32{ts:List T5}(hd:∀t∈ts,t.dep<=7)(i:Nat):(tAt ts i).dep<=7:=by
 by_cases h:i < ts.length
 ·exact hd _ (_0l h)
 ·unfold tAt
  rw[bc,da (dD h)]
  exact b0 _
theorem _9E{ts:List T5}(hd:∀t∈ts,t.dep<=7)(W:List (Nat×Nat)):kqdOk 20 (.list (W.map (prD ts)))=true:=_0k λD hD=>by
 obtain⟨q,_,rfl⟩:=aq.mp hD
 exact _06 (_r (_0a (ay (_32 hd _) (by decide))) (_r (_0a (ay (_32 hd _) (by decide))) _07))
theorem _9F{ts:List T5}{W:List (Nat×Nat)}:Dat.list (W.map (prD ts)) = .list [] ↔ W=[]:=⟨λq=>lT.mp (pD q),λq=>by rw[q];rfl⟩
theorem _ln{l m:ao}{ts:List T5}{W:List (Nat×Nat)}(hd:∀t∈ts,t.dep<=7)(e:σ l=some (.list (prL ts W)))(e':σ m=some (.list []))(h:Q (.bool (decide (W=[]))) σ):eQ c d .Eq (.ref l) (.ref m) σ Q:=by
 classical
 refine _lm (D:=.list (W.map (prD ts))) (D':=.list []) (.list e (_1K (_9D ts) W)) (.list e' .nil) (_9E hd W) rfl ?_
 rw[show decide (Dat.list (W.map (prD ts)) = .list [])=decide (W=[]) from decide_eq_decide.mpr _9F]
 exact h
theorem _lo{l m:ao}{ts:List T5}{W:List (Nat×Nat)}(hd:∀t∈ts,t.dep<=7)(e:σ l=some (.list (prL ts W)))(e':σ m=some (.list []))(h:Q (.bool (decide (W≠[]))) σ):eQ c d .NotEq (.ref l) (.ref m) σ Q:=by
 classical
 refine _4G (D:=.list (W.map (prD ts))) (D':=.list []) (.list e (_1K (_9D ts) W)) (.list e' .nil) (_9E hd W) rfl ?_
 rw[show decide (Dat.list (W.map (prD ts)) ≠ .list [])=decide (W≠[]) from decide_eq_decide.mpr (not_congr _9F)]
 exact h
theorem _lp{so pl:ao}{ts:List T5}{told:List (Nat×Nat)}{pairs:List (T5×T5)}{r:aU}(H:Has c N)(E:oi c N L)(GD:eP c "dict" (.type "dict"))(h1:2<=d)(T:Ts5 ts)(hd:∀t∈ts,t.dep<=7)(hz:ts.length<=8)(hp:l7 ts pairs told)(iA:∀q∈told,q.1<ts.length/\q.2<ts.length)(gK:told≠[])(vU:told.length<=8)
  (hA:At σ ((so,.list (avL ts))::(pl,.list (prL ts told))::r)) (k:∀ho ep Lf aX,Cl5 ts pairs told Lf []->At aX ((ho,.dictE ep (gD ts Lf))::(so,.list (avL ts))::(pl,.list (prL ts told))::r)->Q (.ref ho) aX) :
  br c d (.raw (.ref L.f_closed)) [.ref so,.ref pl] σ Q:=by
 have G:=H.gs
 classical
 have d1:1<=dn d:=_b h1
 have r6:bp ts.length:=by unfold bp;exact _0n hz
 refine _g E.d_closed (bN h1) rfl ?_
 refine _4 GD ?_
 refine⟨G.g_enumerate.g,?_⟩
 refine _kT 0 rfl (λj=>((h9 ts).take j).map kF) rfl (by rw[_c];exact r6) hA (λj σ1 kk hA hk=>_0A λt ht=>?_) λm σ1 hA=>?_
 ·refine _x rfl ?_
  refine And.intro (sl rfl) ?_
  have e:((h9 ts).take (j+1)).map kF=((h9 ts).take j).map kF++[kF (t.av,.int (j:Nat))]:=by
   rw[bJ,_lj ht,aM];rfl
  have q:=hk _ hA
  rw[e] at q
  exact q
 ·have el:((h9 ts).take (avL ts).length).map kF=(h9 ts).map kF:=by
   rw[_c,dE (cm (_9C ts))]
  rw[el] at hA
  refine _kf (ps:=h9 ts) (hA.nth 0 rfl) ?_ ?_ λho ep hho=>?_
  ·intro p hp
   have:p.1∈(h9 ts).map (·.1):=aq.mpr ⟨p,hp,rfl⟩
   rw[_9B] at this
   exact _4P hd _ this
  ·rw[_9C];exact r6
  refine _j hA hho λσ2 hA=>?_
  refine _4 G.g_list ?_
  refine _77 (hA.nth 3 rfl) (by rw[_12];unfold bp;exact _0n vU) λwl hwl=>?_
  refine _j hA hwl λσ3 hA=>?_
  refine And.intro (sl rfl) (_x rfl ?_)
  have es:dictOf (h9 ts)=gD ts (aV ts.length):=_l6 (by rw[_9B];exact _4O T.nd)
  rw[es] at hA
  replace hA:At σ3 ((wl,.list (prL ts told))::(ho,.dictE ep (gD ts (aV ts.length)))::(so,.list (avL ts))::(pl,.list (prL ts told))::r):=hA.sub (((b7 _ _).cons_cons _).cons_cons _)
  refine⟨ClosI so pl ts pairs told r,⟨_,.mk wl ho ep _ told rfl rfl (.start hp iA gK) (by exact _ey vU) hA⟩,λn m' σ4 I=>?_⟩
  clear hA
  obtain⟨wl,ho,ep,Lb,W,rfl,hn,C,hW,hA⟩:=I
  refine And.intro (sl rfl) λem uJ=>?_
  refine _j hA uJ λσ5 hA=>?_
  refine _lo hd (hA.nth 1 rfl) (hA.nth 0 rfl) ?_
  replace hA:=hA.tail
  rcases List.eq_nil_or_concat W with rfl | ⟨W,q,rfl⟩
  ·rw[decide_eq_false (λq=>q rfl)]
   exact k ho ep Lb σ5 C hA.tail
  rw[decide_eq_true (by simp)]
  have hq:=C.inW q (by simp)
  rw[rR] at C hW hn hA
  refine _2j (hA.nth 0 rfl) ?_
  refine _l ?_
  rw[<-_4R] at hA
  refine _3J (hA.nth 0 rfl) (by rw[_12];rw[am] at hW;unfold bp;exact _ez hW) ?_
  refine _u hA 0 rfl λσ6 hA=>?_
  replace hA:At σ6 ((wl,.list (prL ts W))::(ho,.dictE ep (gD ts Lb))::(so,.list (avL ts))::(pl,.list (prL ts told))::r):=hA
  have e1:=_0l hq.1
  have e2:=_0l hq.2.1
  refine _x rfl ?_
  refine _4 G.g_min ?_
  refine _L (hA.nth 1 rfl) T.nd C.len hd e1 ?_
  refine _L (hA.nth 1 rfl) T.nd C.len hd e2 ?_
  refine _ll ?_
  refine _4 G.g_max ?_
  refine _L (hA.nth 1 rfl) T.nd C.len hd e1 ?_
  refine _L (hA.nth 1 rfl) T.nd C.len hd e2 ?_
  refine _lk ?_
  rw[_1N T.nd hq.1,_1N T.nd hq.2.1]
  refine And.intro (sl rfl) (_x rfl ?_)
  have vX:=_lh Lb q.1 q.2
  generalize min (gl Lb q.1) (gl Lb q.2)=vy at vX ⊢
  generalize max (gl Lb q.1) (gl Lb q.2)=pS at vX ⊢
  refine _4L (λj=>(wl,.list (prL ts W))::(ho,.dictE ep (gD ts (kQ (λone=>if one=pS then vy else one) Lb j)))::(so,.list (avL ts))::(pl,.list (prL ts told))::r) 2 (λ_=>rfl) hA (λj σ7 kk hA hk=>_0A λt ht=>?_) λσ7 hA=>?_
  ·have mt:=aC ht
   have jt:j<Lb.length:=by rw[C.len];exact(az.mp ht).1
   have hx:=ax jt
   generalize Lb[j]=x at hx
   have wn:(kQ (λone=>if one=pS then vy else one) Lb j).length=ts.length:=(_9A _ _ _).trans C.len
   refine _L (hA.nth 1 rfl) T.nd wn hd mt ?_
   rw[show hm ts (kQ (λone=>if one=pS then vy else one) Lb j) t=x by unfold hm;rw[_2Q T.nd ht];exact(_4S hx).1]
   by_cases e:x=pS
   ·refine _9s (congrArg Int.ofNat e) ?_
    refine _l9 (hA.nth 1 rfl) T.nd wn hd ht (by exact _eA hz) ?_
    refine _u hA 1 rfl λσ8 hA=>hk σ8 ?_
    have:=(_4S (f:=λone=>if one=pS then vy else one) hx).2
    rw[if_pos e] at this
    rw[<-this]
    exact hA
   ·refine _kV (λq=>e (d8 q)) ?_
    refine hk σ7 ?_
    rw[_li (f:=λone=>if one=pS then vy else one) hx (if_neg e)]
    exact hA
  ·rw[show kQ (λone=>if one=pS then vy else one) Lb (avL ts).length=cO Lb q.1 q.2 by rw[vX,_c,C.len]] at hA
   refine And.intro (sl rfl) λem2 hem2=>?_
   refine _j hA hem2 λσ8 hA=>?_
   refine _ln hd (hA.nth 1 rfl) (hA.nth 0 rfl) ?_
   replace hA:=hA.tail
   refine _G (λe=>?_) λe=>?_
   ·subst e
    refine _4 E.g_twins ?_
    refine _lg H E d1 T hd hz ((_0Z _ _ _).trans C.len) (hA.tail.perm (List.Perm.swap _ _ _)) λfo σ9 hA=>?_
    have tl:=_4F ts (cO Lb q.1 q.2) ts.length
    have t2:=lM hz hz
    exact⟨_,hn ▸ _k3 C T,.mk fo ho ep _ _ rfl rfl (C.last T iA) (ay tl t2) (hA.perm ((List.Perm.swap _ _ _).cons _))⟩
   ·refine⟨_,hn ▸ left_pop,.mk wl ho ep _ W rfl rfl (C.pop e) ?_ hA⟩
    rw[am] at hW
    exact ay (ii _ _) hW
end
set_option genCtorIdx false in
inductive Tk5 where
 | put (t:T5) | like (t u:T5) | calm
noncomputable def Tk5.one:Tk5->T5
 | .put t=>t
 | .like t _=>t
 | .calm=>.a
noncomputable def Tk5.two:Tk5->T5
 | .like _ u=>u
 | _=>.a
noncomputable def Tk5.no:Tk5->Nat
 | .put _=>0
 | .like _ _=>1
 | .calm=>2
noncomputable def Tk5.av:Tk5->AV
 | .put t=>.tup [.str "put", .tup t.av,.tup t.av]
 | .like t u=>.tup [.str "like", .tup t.av,.tup u.av]
 | .calm=>.tup [.str "calm", .none,.none]
noncomputable def Tk5.busy:Tk5->Bool
 | .calm=>false
 | _=>true
noncomputable def tkL(l:List Tk5):List AV:=l.map Tk5.av
theorem _4T(l:List Tk5)(t:Tk5):tkL l++[t.av]=tkL (l++[t]):=by unfold tkL;rw[aM];rfl
theorem _9G:∀(l:List Tk5) (i:Nat),(tkL l).eraseIdx i=tkL (l.eraseIdx i)
 | [],_=>rfl
 | _::_,0=>rfl
 | a::l,i+1=>congrArg (a.av :: ·) (_9G l i)
theorem _B(l:List Tk5):(tkL l).length=l.length:=ac _
noncomputable def Tk5.dat:Tk5->oK
 | .put t=>.tuple [.str "put", t.dat,t.dat]
 | .like t u=>.tuple [.str "like", t.dat,u.dat]
 | .calm=>.tuple [.str "calm", .none,.none]
noncomputable def Tk5.dep:Tk5->Nat
 | .put t=>t.dep
 | .like t u=>max t.dep u.dep
 | .calm=>0
theorem _lq{σ:af}(t:Tk5):Den σ t.av t.dat:=by
 cases t with
 | put t=>exact .tup (.cons (.str _) (.cons (_0m t) (.cons (_0m t) .nil)))
 | like t u=>exact .tup (.cons (.str _) (.cons (_0m t) (.cons (_0m u) .nil)))
 | calm=>exact .tup (.cons (.str _) (.cons .none (.cons .none .nil)))
theorem _lr{n:Nat}{t:Tk5}(h:t.dep<=n):kqdOk (n+2) t.dat=true:=by
 cases t with
 | put t=>exact _06 (_r (_U _ _) (_r (_0a h) (_r (_0a h) _07)))
 | like t u=>
  have h:=kA.mp h
  exact _06 (_r (_U _ _) (_r (_0a h.1) (_r (_0a h.2) _07)))
 | calm=>exact _06 (_r (_U _ _) (_r (by cases n <;> rfl) (_r (by cases n <;> rfl) _07)))
section
variable{c:Cx}{d:Nat}{σ:af}{Q:AV->af->Prop}{N:Nms}{L:NE}
theorem _ls{l m:ao}{W:List Tk5}(hd:∀t∈W,t.dep<=7)(e:σ l=some (.list (tkL W)))(e':σ m=some (.list []))(h:Q (.bool (decide (W≠[]))) σ):eQ c d .NotEq (.ref l) (.ref m) σ Q:=by
 classical
 have ok:kqdOk 20 (.list (W.map Tk5.dat))=true:=_0k λD hD=>by
  obtain⟨q,hq,rfl⟩:=aq.mp hD
  exact _lr (ay (hd q hq) (by decide))
 refine _4G (D:=.list (W.map Tk5.dat)) (D':=.list []) (.list e (_1K _lq W)) (.list e' .nil) ok rfl ?_
 rw[show decide (Dat.list (W.map Tk5.dat) ≠ .list [])=decide (W≠[]) from decide_eq_decide.mpr (not_congr ⟨λq=>lT.mp (pD q),λq=>by rw[q];rfl⟩)]
 exact h
inductive ShI(fd lc tk:ao)(cs:List Int)(r:aU)(fT:List Tk5)(n0 n:Nat)(m:Loc)(σ:af):Prop
 | mk (rl fo:ao) (R F:List Tk5) (k:Nat) (em:m=[("feed", .ref fd),("tasks", .ref tk),("rest", .ref rl),("found", .ref fo)]) (hn:R.length=n) (hl:n<=fT.length) (hk:k<=n0+2*(fT.length-n)) (hp:(R++F.filter Tk5.busy).Perm fT) (hf:F.length<=2*(fT.length-n))
  (hA:At σ (fy fd lc cs k++((rl,.list (tkL R))::(fo,.list (tkL F))::(tk,.list (tkL fT))::r)))
theorem _lt{fd lc tk:ao}{cs:List Int}{n0:Nat}{fT:List Tk5}{r:aU}(H:Has c N)(E:oi c N L)(h1:2<=d)(hn:n0<=1000)(qL:cs.length<=1000)(hb:∀t∈fT,t.busy=true)(hd:∀t∈fT,t.dep<=7)(hz:fT.length<=12)(hA:At σ (fy fd lc cs n0++((tk,.list (tkL fT))::r)))
  (k:∀fo F k aX,(F.filter Tk5.busy).Perm fT->F.length<=24->k<=n0+24->At aX (fy fd lc cs k++((fo,.list (tkL F))::(tk,.list (tkL fT))::r))->Q (.ref fo) aX) :
  br c d (.raw (.ref L.f_shuffled)) [.ref fd,.ref tk] σ Q:=by
 have G:=H.gs
 have d1:1<=dn d:=_b h1
 refine _g E.d_shuffled (bN h1) rfl ?_
 refine _4 G.g_list ?_
 refine _77 (hA.nth 2 rfl) (by rw[_B];unfold bp;exact _eB hz) λrl vB=>?_
 refine _j hA vB λσ1 hA=>?_
 refine And.intro (sl rfl) λfo hfo=>?_
 refine _j hA hfo λσ2 hA=>?_
 refine And.intro (sl rfl) (_x rfl ?_)
 replace hA:At σ2 (fy fd lc cs n0++((rl,.list (tkL fT))::(fo,.list (tkL []))::(tk,.list (tkL fT))::r)):=hA.perm ((cW (l₁:=fy fd lc cs n0)).trans (((cW (l₁:=fy fd lc cs n0)).trans (List.Perm.refl _)).cons _ |>.trans (List.Perm.swap _ _ _)))
 refine⟨ShI fd lc tk cs r fT n0,⟨_,.mk rl fo fT [] n0 rfl rfl (aD _) (by exact _eC) (by rw[eN,bh]) (b0 _) hA⟩,λn m' σ3 I=>?_⟩
 clear hA
 obtain⟨rl,fo,R,F,j,rfl,tZ,hl,hj,hp,hf,hA⟩:=I
 refine And.intro (sl rfl) λem uJ=>?_
 refine _j hA uJ λσ4 hA=>?_
 have hm:∀t∈R,t∈fT:=λt m=>hp.mem_iff.mp (a8 _ m)
 refine _ls (λt m=>hd t (hm t m)) (hA.nth 3 rfl) (hA.nth 0 rfl) ?_
 replace hA:=hA.tail
 by_cases e:R=[]
 ·subst e
  rw[decide_eq_false (λq=>q rfl)]
  exact k fo F j σ4 hp (by exact _eD hz hf) (by exact _eE hz hj) (hA.sub ((b7 _ _).append_left _))
 ·rw[decide_eq_true e]
  have nE:1<=R.length:=List.length_pos_iff.mpr e
  refine _v (hA.nth 3 rfl) ?_
  refine _l ?_
  refine _2j (hA.nth 2 rfl) ?_
  refine _l ?_
  refine _4 E.g_draw ?_
  refine _4 G.g_len ?_
  refine _w (hA.nth 2 rfl) (by rw[_B];unfold bp;exact _5V hz tZ hl) ?_
  rw[_B]
  refine _09 (m:=R.length) H E d1 nE (by exact _eF hn hz hj) qL hA λw σ5 hw hA=>?_
  have hx:R[w]? = some R[w]:=ax hw
  refine _gZ (x:=R[w].av) (k:=w) (hA.nth 2 rfl) (by rw[_B];unfold bp;exact _5V hz tZ hl) (by rw[_B];exact _01 hw) (by rw[tkL,aQ,hx];rfl) (by exact _eG hz tZ hl nE hw) ?_
  refine _u hA 2 rfl λσ6 hA=>?_
  have er:(tkL R).eraseIdx w=tkL (R.eraseIdx w):=_9G R w
  replace hA:At σ6 (fy fd lc cs (j+1)++((rl,.list (tkL (R.eraseIdx w)))::(fo,.list (tkL F))::(tk,.list (tkL fT))::r)):=er ▸ hA
  have qG:(R.eraseIdx w++(F++[R[w]]).filter Tk5.busy).Perm fT:=by
   rw[eF,bW,if_pos (hb _ (hm _ (bO hw))),eN,<-aZ]
   exact(bY.trans (show(R[w]::(R.eraseIdx w++F.filter Tk5.busy)).Perm (R++F.filter Tk5.busy) from(_3X hw).append_right _)).trans hp
  have tC:(R.eraseIdx w).length=n-1:=by rw[jd hw,tZ]
  generalize R[w]=x at qG ⊢
  refine _F (hA.nth 3 rfl) (by rw[_B];unfold bp;exact _eH hz hf) ?_
  refine _u hA 3 rfl λσ7 hA=>?_
  replace hA:At σ7 (fy fd lc cs (j+1)++((rl,.list (tkL (R.eraseIdx w)))::(fo,.list (tkL (F++[x])))::(tk,.list (tkL fT))::r)):=by
   rw[<-_4T];exact hA
  refine _4 E.g_draw ?_
  refine _09 (m:=3) H E d1 (by decide) (by exact _eI hn hz hj) qL hA λw2 σ8 hw2 hA=>?_
  refine _0p ?_
  refine _G (λ_=>?_) λ_=>?_
  ·refine _v (hA.nth 3 rfl) ?_
   refine _l ?_
   refine And.intro (sl rfl) ?_
   refine _F (hA.nth 3 rfl) (by rw[_B,am];unfold bp;simp;exact _eJ hz hf) ?_
   refine _u hA 3 rfl λσ9 hA=>?_
   refine⟨n-1,by exact _eK tZ nE,.mk rl fo (R.eraseIdx w) (F++[x]++[.calm]) (j+1+1) rfl tC (by exact _eL hl) (by exact _eM tZ hl hj nE) ?_ ?_ ?_⟩
   ·rw[eF,show[Tk5.calm].filter Tk5.busy=[] from rfl,bh];exact qG
   ·simp only[am,aF];exact _eN tZ hl hf nE
   ·rw[<-_4T];exact hA
  ·refine⟨n - 1,by(first | lia | omega),.mk rl fo (R.eraseIdx w) (F++[x]) (j+1+1) rfl tC (by(first | lia | omega)) (by(first | lia | omega)) qG ?_ hA⟩
   simp only[am,aF];(first | lia | omega)
end
noncomputable def qq(ts:List T5)(nodes:List cq):Prop:=∀n,n<nodes.length->∃u,u∈ts/\St5 nodes u n
theorem _lu{ts:List T5}{nodes:List cq}(hJ:nodes.Nodup)(h:qq ts nodes):nodes.length<=ts.length:=by
 classical
 have f:∀n,∃u,n<nodes.length->u∈ts/\St5 nodes u n:=λn=>by
  by_cases q:n < nodes.length
  ·exact(h n q).elim λu x=>⟨u,λ_=>x⟩
  ·exact⟨.a,λx=>absurd x q⟩
 obtain⟨g,hg⟩:=gj f
 have hn:((aV nodes.length).map g).Nodup:=by
  rw[List.nodup_iff_pairwise_ne,bo,bZ]
  intro i j hi hj jN e
  rw[aY] at hi hj
  rw[je,je] at e
  have a:=(hg i hi).2
  have b:=(hg j hj).2
  rw[<-e] at b
  exact absurd (a.one hJ b) (bQ jN)
 have:=hn.length_le_of_subset (λx hx=>by
  obtain⟨n,hn,rfl⟩:=aq.mp hx
  exact(hg n (aN.mp hn)).1)
 rwa [ac,aY] at this
theorem _lv(t:T5):gT t.op:=by
 cases t with
 | a=>exact _kE
 | b=>exact _kF
 | c=>exact _kI
 | f _=>exact _kG
 | g _ _=>exact _kH
theorem _lw{nodes:List cq}{t:T5}{z:Nat}{ks:List Nat}(h:nodes[z]? = some (t.op,ks))(hl:ks.length=t.kids.length)(hk:∀(j k:Nat),ks[j]? = some k->∃u:T5,t.kids[j]? = some u/\St5 nodes u k):St5 nodes t z:=by
 cases t with
 | a=>rw[dz.mp hl] at h;exact h
 | b=>rw[dz.mp hl] at h;exact h
 | c=>rw[dz.mp hl] at h;exact h
 | f x=>
  match ks,hl with
  | [k],_=>
   obtain⟨u,hu,su⟩:=hk 0 k rfl
   obtain rfl:=aB hu
   exact⟨k,h,su⟩
 | g x y=>
  match ks,hl with
  | [k,l],_=>
   obtain⟨u,hu,su⟩:=hk 0 k rfl
   obtain⟨v,hv,sv⟩:=hk 1 l rfl
   obtain rfl:=aB hu
   obtain rfl:=aB hv
   exact⟨k,l,h,su,sv⟩
inductive PutI(P M:aU)(N:Nms)(T:Nat)(ts:List T5)(told:List (Nat×Nat))(h0:HS)(l:List T5)(i:Nat)(bV:List AV)(σ:af):Prop
 | mk (h:HS) (ks:List Nat) (e1:h.self=h0.self) (hk:HOK T h) (hi:eo h.ms told (λ_=>False)) (ho:qq ts h.ms.nodes) (hr:∃r,h.ms.nodes=h0.ms.nodes++r) (kH:∀(j k:Nat),ks[j]? = some k->∃u:T5,l[j]? = some u/\St5 h.ms.nodes u k) (hl:ks.length=i) (ea:bV=b9 ks) (hA:At σ (P++(M++h.cells N)))
section
variable{c:Cx}{N:Nms}{L:NE}{T:Nat}{ts:List T5}{told:List (Nat×Nat)}
noncomputable def Put5(c:Cx)(N:Nms)(L:NE)(T:Nat)(ts:List T5)(told:List (Nat×Nat))(t:T5):Prop:=∀(P M:aU) (d:Nat) (h:HS) (σ:af) (Q:AV->af->Prop),t∈ts->7+t.dep<=d->HOK T h->eo h.ms told (λ_=>False)->qq ts h.ms.nodes->At σ (P++(M++h.cells N)) ->
  (∀z aX h',h'.self=h.self->HOK T h'->eo h'.ms told (λ_=>False)->qq ts h'.ms.nodes->(∃r,h'.ms.nodes=h.ms.nodes++r)->St5 h'.ms.nodes t z->At aX (P++(M++h'.cells N))->Q (.int ((z:Nat):Int)) aX)->br c d (.raw (.ref L.f_Heap_put)) [.ref h.self,.tup t.av] σ Q
theorem PutI.use{P M:aU}{h0:HS}{l:List T5}{i:Nat}{bV:List AV}{σ:af}{R:Prop}(I:PutI P M N T ts told h0 l i bV σ)(k:∀(h:HS) (ks:List Nat),h.self=h0.self->HOK T h->eo h.ms told (λ_=>False)->qq ts h.ms.nodes->(∃r,h.ms.nodes=h0.ms.nodes++r)->(∀(j k:Nat),ks[j]? = some k->∃u:T5,l[j]? = some u/\St5 h.ms.nodes u k)->ks.length=i->bV=b9 ks->At σ (P++(M++h.cells N))->R):R:=by
 cases I with
 | mk h ks e1 hk hi ho hr kH hl ea hA=>exact k h ks e1 hk hi ho hr kH hl ea hA
theorem _4U(H:Has c N)(E:oi c N L)(Tk:Ts5 ts)(hz:ts.length<=8)(t:T5)(ih:∀k∈t.kids,Put5 c N L T ts told k):Put5 c N L T ts told t:=by
 intro P M d h σ Q ht h1 hk hi ho hA k
 have G:=H.gs
 refine _g E.d_Heap_put (by exact _eO h1) rfl ?_
 have hH:=hA.a3
 refine _9 hH 0 1 rfl rfl rfl H.m_H_add H.d_H_add ?_
 refine _1l (k:=0) (x:=.str t.op) (_2Z t) (_30 t) (by decide) ?_
 refine _4 G.g_tuple ?_
 refine _31 ?_
 have iU:=_0b t
 refine _R ⟨_02 (by rw[_c];exact _3a iU),?_⟩
 refine _z (PutI P M N T ts told h t.kids) (.mk h [] rfl hk hi ho ⟨[],(bh _).symm⟩ (λj k q=>nomatch q) rfl rfl hA) (λ_ _ _ _=>trivial) (λi x bV σ1 kc hx I oY=>?_) λbV σ1 I m hm=>?_
 ·clear hA hH k
  refine I.use λh' ks e1 fP lI ho' hr kH hl ea hA=>?_
  subst ea
  obtain⟨u,hu,rfl⟩:∃u:T5,t.kids[i]? = some u/\x = .tup u.av:=by
   rw[_D,aQ] at hx
   obtain⟨u,h1,h2⟩:=bt.mp hx
   exact⟨u,h1,h2.symm⟩
  have mu:=aC hu
  have hH:=hA.a3
  have dk:=_08 mu
  rw[<-e1]
  refine _9 hH 0 1 rfl rfl rfl E.m_Heap_put E.d_Heap_put ?_
  refine ih u mu P M (dn d) h' σ1 _ (_2Y Tk ht mu) (_b (by exact _eP h1 dk)) fP lI ho' hA λz σ2 h2 q1 q2 q3 q4 q5 q6 hA2=>?_
  refine oY _ _ (.mk h2 (ks++[z]) (q1.trans e1) q2 q3 q4 ?_ ?_ (by rw[am,hl];rfl) (_0s _ _).symm hA2)
  ·obtain⟨r,hr⟩:=hr
   obtain⟨r2,hr2⟩:=q5
   exact⟨r++r2,by rw[hr2,hr,aZ]⟩
  ·intro j k hj
   obtain⟨r2,hr2⟩:=q5
   rcases bX j ks.length with q | q
   ·rw[dM q] at hj
    obtain⟨v,hv,sv⟩:=kH j k hj
    exact⟨v,hv,by rw[hr2];exact sv.app⟩
   ·rw[dF q] at hj
    have hz0:j-ks.length=0:=by
     have:=(az.mp hj).1
     rw[aF] at this
     exact _eQ this
    rw[hz0] at hj
    obtain rfl:=aB hj
    exact⟨u,by rw[show j=i by exact _eR hl q hz0];exact hu,q6⟩
 ·clear hA hH
  refine I.use λh' ks e1 fP lI ho' hr kH hl ea hA=>?_
  subst ea
  rw[_c] at hl
  refine _j (ce:=.list (b9 ks)) hA hm λσ2 hA=>?_
  refine _2o (hA.nth 0 rfl) (by rw[_7];unfold bp;exact _eS iU hl) ?_
  replace hA:At σ2 (P++(M++h'.cells N)):=hA.tail
  have eX:h'.ms.size<=8:=ay (_lu fP.m.nd ho') hz
  rw[<-e1]
  refine _kU (ks:=ks) H (_b (by exact _eT h1)) fP lI (_lv t) (λx hx=>?_) (by exact _eU iU hl) (by exact _eV eX) hA λz σ3 h2 q1 q2 q3 q4 q5 _ hA2=>?_
  ·obtain⟨j,hj,e⟩:=iR hx
   obtain⟨u,_,su⟩:=kH j x (by rw[ax hj,e])
   exact su.lt
  ·have hn:=_kN (s:=h'.ms) (t.op,ks) fP.m.nd
   rw[<-q5,<-_4K,<-q2] at hn
   have hp:∃r,h2.ms.nodes=h'.ms.nodes++r:=by
    rw[q2,_4K]
    split
    ·exact⟨[],(bh _).symm⟩
    ·exact⟨_,rfl⟩
   obtain⟨r2,hr2⟩:=hp
   have st:St5 h2.ms.nodes t z:=_lw hn.1 hl λj x hj=>by
    obtain⟨u,hu,su⟩:=kH j x hj
    exact⟨u,hu,by rw[hr2];exact su.app⟩
   refine k z σ3 h2 (q1.trans e1) q3 q4 (λn qH=>?_) ?_ st hA2
   ·by_cases q:n < h'.ms.nodes.length
    ·obtain⟨u,mu,su⟩:=ho' n q
     exact⟨u,mu,by rw[hr2];exact su.app⟩
    ·refine⟨t,ht,?_⟩
     have e2:=_4K (s:=h'.ms) (nd:=(t.op,ks))
     rw[<-q2] at e2
     split at e2
     ·rw[e2] at qH;exact absurd qH q
     ·rename_i h_
      have hzn:n=h'.ms.nodes.length:=by rw[e2,am,aF] at qH;exact _eW qH q
      have hg:h2.ms.nodes[n]? = some (t.op,ks):=by rw[e2,hzn,dF (aD _),i7];rfl
      have:=(q3.m.nd)
      rw[_10 this hg hn.1];exact st
   ·obtain⟨r,hr⟩:=hr
    exact⟨r++r2,by rw[hr2,hr,aZ]⟩
theorem _4V(H:Has c N)(E:oi c N L)(Tk:Ts5 ts)(hz:ts.length<=8)(t:T5):Put5 c N L T ts told t:=by
 induction t with
 | f t ih=>exact _4U H E Tk hz _ λk hk=>aj.mp hk ▸ ih
 | g t u ih ih2=>exact _4U H E Tk hz _ λk hk=>(aO.mp hk).elim (λe=>e ▸ ih) λhk=>aj.mp hk ▸ ih2
 | _=>exact _4U H E Tk hz _ λk hk=>absurd hk bj
end
structure Did(S:List Tk5)(nodes:List cq)(told:List (Nat×Nat)):Prop where
 put:∀t,Tk5.put t∈S->∃n,St5 nodes t n
 like:∀t u,Tk5.like t u∈S->∃q,q∈told/\St5 nodes t q.1/\St5 nodes u q.2
 of:∀q∈told,∃t u,Tk5.like t u∈S/\St5 nodes t q.1/\St5 nodes u q.2
section
variable{S:List Tk5}{nodes r:List cq}{told:List (Nat×Nat)}
theorem Did.app(D:Did S nodes told):Did S (nodes++r) told where
 put:=λt h=>(D.put t h).elim λn q=>⟨n,q.app⟩
 like:=λt u h=>(D.like t u h).elim λq x=>⟨q,x.1,x.2.1.app,x.2.2.app⟩
 of:=λq h=>(D.of q h).elim λt x=>x.elim λu x=>⟨t,u,x.1,x.2.1.app,x.2.2.app⟩
theorem Did.put1{t:T5}{z:Nat}(D:Did S nodes told)(h:St5 nodes t z):Did (S++[.put t]) nodes told where
 put:=λu hu=>(aK.mp hu).elim (D.put u) λhu=>by
  have e:u=t:=congrArg Tk5.one (aj.mp hu)
  exact⟨z,e ▸ h⟩
 like:=λu v hu=>(aK.mp hu).elim (D.like u v) λhu=>absurd (show(1:Nat)=0 from congrArg Tk5.no (aj.mp hu)) (by decide)
 of:=λq hq=>(D.of q hq).elim λt x=>x.elim λu x=>⟨t,u,a8 _ x.1,x.2⟩
theorem Did.like1{t u:T5}{a b:Nat}(D:Did S nodes told)(h:St5 nodes t a)(k:St5 nodes u b):Did (S++[.like t u]) nodes (told++[(a,b)]) where
 put:=λv hv=>(aK.mp hv).elim (D.put v) λhv=>absurd (show(0:Nat)=1 from congrArg Tk5.no (aj.mp hv)) (by decide)
 like:=λv w hv=>(aK.mp hv).elim (λhv=>(D.like v w hv).elim λq x=>⟨q,a8 _ x.1,x.2⟩) λhv=>by
  have e:v=t:=congrArg Tk5.one (aj.mp hv)
  have e2:w=u:=congrArg Tk5.two (aj.mp hv)
  exact⟨(a,b),aT _ (.head _),e ▸ h,e2 ▸ k⟩
 of:=λq hq=>(aK.mp hq).elim (λhq=>(D.of q hq).elim λt x=>x.elim λu x=>⟨t,u,a8 _ x.1,x.2⟩) λhq=>by
  have:=aj.mp hq
  subst this;exact⟨t,u,aT _ (.head _),h,k⟩
theorem Did.calm1(D:Did S nodes told):Did (S++[.calm]) nodes told where
 put:=λv hv=>(aK.mp hv).elim (D.put v) λhv=>absurd (show(0:Nat)=2 from congrArg Tk5.no (aj.mp hv)) (by decide)
 like:=λv w hv=>(aK.mp hv).elim (D.like v w) λhv=>absurd (show(1:Nat)=2 from congrArg Tk5.no (aj.mp hv)) (by decide)
 of:=λq hq=>(D.of q hq).elim λt x=>x.elim λu x=>⟨t,u,a8 _ x.1,x.2⟩
end
noncomputable def fe(ts:List T5)(pairs:List (T5×T5))(F:List Tk5):Prop:=(F.filter Tk5.busy).Perm (ts.map Tk5.put++pairs.map λp=>.like p.1 p.2)
theorem fe.mem{ts:List T5}{pairs:List (T5×T5)}{F:List Tk5}(h:fe ts pairs F){x:Tk5}(hx:x.busy=true):x∈F ↔ x∈ts.map Tk5.put\/x∈pairs.map λp=>Tk5.like p.1 p.2:=by
 rw[<-aK,<-h.mem_iff,bH]
 exact⟨λm=>⟨m,hx⟩,λm=>m.1⟩
theorem fe.put{ts:List T5}{pairs:List (T5×T5)}{F:List Tk5}(h:fe ts pairs F){t:T5}:Tk5.put t∈F ↔ t∈ts:=by
 rw[h.mem rfl]
 constructor
 ·rintro(q | q)
  ·obtain⟨u,hu,e⟩:=aq.mp q
   exact(show u=t from congrArg Tk5.one e) ▸ hu
  ·obtain⟨u,hu,e⟩:=aq.mp q
   exact absurd (show(1:Nat)=0 from congrArg Tk5.no e) (by decide)
 ·exact λq=>.inl (aq.mpr ⟨t,q,rfl⟩)
theorem fe.like{ts:List T5}{pairs:List (T5×T5)}{F:List Tk5}(h:fe ts pairs F){t u:T5}:Tk5.like t u∈F ↔ (t,u)∈pairs:=by
 rw[h.mem rfl]
 constructor
 ·rintro(q | q)
  ·obtain⟨u,hu,e⟩:=aq.mp q
   exact absurd (show(0:Nat)=1 from congrArg Tk5.no e) (by decide)
  ·obtain⟨p,hu,e⟩:=aq.mp q
   rw[<-show p.1=t from congrArg Tk5.one e,<-show p.2=u from congrArg Tk5.two e]
   exact hu
 ·exact λq=>.inr (aq.mpr ⟨(t,u),q,rfl⟩)
theorem Did.holds{ts:List T5}{pairs:List (T5×T5)}{F:List Tk5}{nodes:List cq}{told:List (Nat×Nat)}(hn:nodes.Nodup)(ho:qq ts nodes)(hF:fe ts pairs F)(D:Did F nodes told):mH ts pairs nodes told where
 nd:=hn
 all:=λt ht=>D.put t (hF.put.mpr ht)
 num:=ho
 to:=λp hp=>D.like p.1 p.2 (hF.like.mpr hp)
 of:=λq hq=>(D.of q hq).elim λt x=>x.elim λu x=>⟨(t,u),hF.like.mp x.1,x.2⟩
inductive DoI(N:Nms)(M:aU)(ts:List T5)(F:List Tk5)(hs:ao)(i:Nat)(σ:af):Prop
 | mk (h:HS) (T:Nat) (told:List (Nat×Nat)) (e:h.self=hs) (hT:T<=i) (hk:HOK T h) (hi:eo h.ms told (λ_=>False)) (ho:qq ts h.ms.nodes) (D:Did (F.take i) h.ms.nodes told) (hA:At σ (M++h.cells N))
section
variable{c:Cx}{d:Nat}{σ:af}{Q:AV->af->Prop}{N:Nms}{L:NE}
theorem _lx{β:Type}{body:np β}{Q:β->af->Prop}{b:β}{l:ao}{xs:List AV}(J:Nat->af->Prop)(e:∀i σ,J i σ->σ l=some (.list xs))(h0:J 0 σ)(hs:∀(i:Nat) σ (k:β->af->Prop),J i σ->(∀aX,J (i+1) aX->k b aX)->∀x,xs[i]? = some x->body x b σ k)(he:∀σ,J xs.length σ->Q b σ):fH c d (.ref l) σ λitems keep=>compLoop keep body items b σ Q:=
 _0q (e 0 σ h0) (_z (λi b' σ=>b'=b/\J i σ) ⟨rfl,h0⟩ (λi _ σ h=>e i σ h.2) (λi x b' σ k hx h hk=>h.1 ▸ hs i σ k h.2 (λaX j=>hk _ _ ⟨rfl,j⟩) x hx) λb' σ h=>h.1 ▸ he σ h.2)
theorem DoI.list{M:aU}{ts:List T5}{F:List Tk5}{hs tk:ao}{xs:List AV}{i:Nat}(I:DoI N ((tk,.list xs)::M) ts F hs i σ):σ tk=some (.list xs):=by
 cases I with
 | mk h T told e hT hk hi ho D hA=>exact hA.nth 0 rfl
theorem _ly{tk:ao}{ts:List T5}{pairs:List (T5×T5)}{F:List Tk5}{r:aU}(H:Has c N)(S:tf c N)(E:oi c N L)(h1:15<=d)(Tk:Ts5 ts)(hd:∀t∈ts,t.dep<=7)(hz:ts.length<=8)(hF:fe ts pairs F)(iA:∀p∈pairs,p.1∈ts/\p.2∈ts)(hl:F.length<=100)(hA:At σ ((tk,.list (tkL F))::r))
  (k:∀h T told aX,HOK T h->eo h.ms told (λ_=>False)->h.ms.waiting=[]->mH ts pairs h.ms.nodes told->At aX (((tk,.list (tkL F))::r)++h.cells N)->Q (.ref h.self) aX) :
  br c d (.raw (.ref L.f_done)) [.ref tk] σ Q:=by
 have G:=H.gs
 have wh:14<=dn d:=_b h1
 refine _g E.d_done (by exact _eX h1) rfl ?_
 refine _4 H.g_H ?_
 refine _j8 H (by exact _eY wh) σ .nil _ λv l' σ2 hp hH o=>?_
 obtain⟨h,rfl,qI,oN,rfl⟩:=hp
 replace hA:=(At.rest (l:=[]) (r:=(tk,.list (tkL F))::r) hA hH o).perm bY
 have J:DoI N ((tk,.list (tkL F))::r) ts F h.self 0 σ2:=.mk h 0 [] rfl (aD _) oN (by rw[qI];exact eo.empty) (by rw[qI];exact nofun) (by rw[qI];exact⟨nofun,nofun,nofun⟩) hA
 clear hA hH o qI oN
 generalize h.self=hs at J ⊢
 refine _lx (DoI N ((tk,.list (tkL F))::r) ts F hs) (λ_ _ I=>I.list) J (λi σ3 kc I hk=>_1R λw hw=>?_) λσ3 I=>?_
 ·clear J
  obtain⟨h,T,told,rfl,hT,oN,hi,ho,D,hA⟩:=I
  have eT:F.take (i+1)=F.take i++[w]:=by rw[bJ,hw];rfl
  have mw:=aC hw
  have tB:=(az.mp hw).1
  have hH:=hA.right
  cases w with
  | put t=>
   have mt:=hF.put.mp mw
   refine _x rfl ?_
   refine _0B ?_
   rw[decide_eq_true (rfl:("put" : String) = "put")]
   refine _9 hH 0 1 rfl rfl rfl E.m_Heap_put E.d_Heap_put ?_
   refine _4V H E Tk hz t [] ((tk,.list (tkL F))::r) (dn d) h σ3 _ mt (by have:=hd t mt;exact _3l wh this) oN hi ho hA λz σ4 h2 q1 q2 q3 q4 q5 q6 hA=>?_
   refine hk σ4 (.mk h2 T told q1 (by exact _3i hT) q2 q3 q4 ?_ hA)
   obtain⟨r2,e2⟩:=q5
   rw[eT]
   exact Did.put1 (by rw[e2];exact D.app) q6
  | like t u=>
   have mp:=iA _ (hF.like.mp mw)
   refine _x rfl ?_
   refine _0B ?_
   rw[decide_eq_false (show ¬("like" : String) = "put" by decide)]
   refine _0B ?_
   rw[decide_eq_true (rfl:("like" : String) = "like")]
   refine _9 hH 0 1 rfl rfl rfl H.m_H_merge H.d_H_merge ?_
   refine _9 hH 0 1 rfl rfl rfl E.m_Heap_put E.d_Heap_put ?_
   refine _4V H E Tk hz t [] ((tk,.list (tkL F))::r) (dn d) h σ3 _ mp.1 (by have:=hd t mp.1;exact _3l wh this) oN hi ho hA λa σ4 h2 q1 q2 q3 q4 q5 q6 hA=>?_
   have hH2:=hA.a3
   rw[<-q1]
   refine _9 hH2 0 1 rfl rfl rfl E.m_Heap_put E.d_Heap_put ?_
   refine _4V H E Tk hz u [] ((tk,.list (tkL F))::r) (dn d) h2 σ4 _ mp.2 (by have:=hd u mp.2;exact _3l wh this) q2 q3 q4 hA λb σ5 h3 p1 p2 p3 p4 p5 p6 hA=>?_
   rw[<-p1]
   obtain⟨r2,e2⟩:=q5
   obtain⟨r3,e3⟩:=p5
   have s6:St5 h3.ms.nodes t a:=by rw[e3];exact q6.app
   refine And.intro (sl rfl) ?_
   refine _kM (P:=[]) (M:=(tk,.list (tkL F))::r) (r:=.tup [.str "told", .str "x"]) H (by exact _eZ wh) p2 p3 s6.lt p6.lt (by exact _f0 hl hT tB) hA λσ6 h4 g1 g2 g3 g4 hA=>?_
   have e4:h4.ms.nodes=h3.ms.nodes:=by rw[g2];exact(_jJ _ _ _ _).2.1
   rw[p1,q1]
   refine hk σ6 (.mk h4 (T+1) (told++[(a,b)]) (g1.trans (p1.trans q1)) (by exact _5W hT) g3 g4 (by rw[e4];exact p4) ?_ hA)
   rw[eT,e4]
   exact Did.like1 (by rw[e3,e2];exact D.app.app) s6 p6
  | calm=>
   refine _x rfl ?_
   refine _0B ?_
   rw[decide_eq_false (show ¬("calm" : String) = "put" by decide)]
   refine _0B ?_
   rw[decide_eq_false (show ¬("calm" : String) = "like" by decide)]
   refine _9 hH 0 1 rfl rfl rfl H.m_H_settle S.d_H_settle ?_
   refine _9n (P:=[]) (M:=(tk,.list (tkL F))::r) H S (by exact _5X wh) oN hi hA λσ4 h2 g1 g2 g3 g4 g5 g6 hA=>?_
   refine hk σ4 (.mk h2 T told g1 (by exact _3i hT) g3 g4 (by rw[g6];exact ho) ?_ hA)
   rw[eT,g6]
   exact D.calm1
 ·rw[_B] at I
  obtain⟨h,T,told,rfl,hT,oN,hi,ho,D,hA⟩:=I
  rw[bT] at D
  have hH:=hA.right
  refine _9 hH 0 1 rfl rfl rfl H.m_H_settle S.d_H_settle ?_
  refine _9n (P:=[]) (M:=(tk,.list (tkL F))::r) H S (by exact _5X wh) oN hi hA λσ4 h2 g1 g2 g3 g4 g5 g6 hA=>?_
  rw[<-g1]
  exact k h2 T told σ4 g3 g4 g5 (by rw[g6];exact D.holds oN.m.nd ho hF) hA
end
noncomputable def j4(f:Nat->AV)(l:List Nat):List (Int×AV):=l.map λ(k:Nat)=>((k:Int),f k)
section
variable{f:Nat->AV}{l:List Nat}{k:Nat}
theorem _4W:(j4 f l).length=l.length:=ac _
theorem _9H:(j4 f l).map (·.1)=l.map λ(n:Nat)=>(n:Int):=by unfold j4;rw[bf];rfl
theorem _9I(h:k ∉ l):bz (j4 f l) (k:Int)=none:=_0L.mpr λq=>by
 rw[_9H] at q
 obtain⟨n,hn,e⟩:=aq.mp q
 obtain rfl:=d8 e
 exact h hn
theorem _9J(h:k ∉ l):d9 (j4 f l) (k:Int) (f k)=j4 f (l++[k]):=by
 rw[_0M (_9I h)];unfold j4;rw[aM];rfl
theorem _4X(h:k∈l):bz (j4 f l) (k:Int)=some (f k):=by
 induction l with
 | nil=>exact absurd h bj
 | cons a l ih=>
  show bz (((a:Int),f a)::j4 f l) (k:Int)=_
  rw[_e]
  by_cases e:a=k
  ·rw[if_pos (congrArg (λ(n:Nat)=>(n:Int)) e),e]
  ·rw[if_neg (λq:(a:Int)=(k:Int)=>e (d8 q))]
   exact ih ((aO.mp h).elim (λq=>absurd q.symm e) id)
theorem _lz:(bz (j4 f l) (k:Int)).isSome=decide (k∈l):=by
 by_cases h:k∈l
 ·rw[_4X h,decide_eq_true h];rfl
 ·rw[_9I h,decide_eq_false h];rfl
end
noncomputable def fw(nodes:List cq)(k:Nat):List Nat:=(nodes.getD k default).2
theorem _13{nodes:List cq}{k:Nat}{nd:cq}(h:nodes[k]? = some nd):fw nodes k=nd.2:=by
 unfold fw
 rw[bc,h];rfl
structure Bel(nodes:List cq)(n:Nat)(K S:List Nat)(x:Nat)(i:Nat):Prop where
 nd:K.Nodup
 lt:∀k∈K,k<nodes.length
 top:n∈K
 sub:∀k∈S,k∈K
 shut:∀k∈K,k∈S\/k=x\/∀y∈fw nodes k,y∈K
 part:∀y∈(fw nodes x).take i,y∈K
section
variable{nodes:List cq}{n x i:Nat}{K S:List Nat}
theorem Bel.done(h:Bel nodes n K S x (fw nodes x).length):∀k∈K,k∈S\/∀y∈fw nodes k,y∈K:=λk hk=>by
 rcases h.shut k hk with q | rfl | q
 ·exact .inl q
 ·exact .inr λy hy=>h.part y (by rw[bT];exact hy)
 ·exact .inr q
theorem Bel.pop{y:Nat}(h:Bel nodes n K (S++[y]) x (fw nodes x).length):Bel nodes n K S y 0 where
 nd:=h.nd
 lt:=h.lt
 top:=h.top
 sub:=λk hk=>h.sub k (a8 _ hk)
 shut:=λk hk=>(h.done k hk).elim (λq=>(aK.mp q).elim .inl λq=>.inr (.inl (aj.mp q))) λq=>.inr (.inr q)
 part:=λy hy=>absurd hy bj
theorem Bel.old{y:Nat}(h:Bel nodes n K S x i)(hy:(fw nodes x)[i]? = some y)(iA:y∈K):Bel nodes n K S x (i+1):={h with
 part:=λz hz=>by
  rw[bJ,hy] at hz
  exact(aK.mp hz).elim (h.part z) λq=>aj.mp q ▸ iA}
theorem Bel.new{y:Nat}(h:Bel nodes n K S x i)(hy:(fw nodes x)[i]? = some y)(hl:y<nodes.length)(h_:y ∉ K):Bel nodes n (K++[y]) (S++[y]) x (i+1) where
 nd:=by
  rw[cg]
  refine⟨h.nd,by simp,λa ha b hb e=>?_⟩
  obtain rfl:=aj.mp hb
  exact h_ (e ▸ ha)
 lt:=λk hk=>(aK.mp hk).elim (h.lt k) λq=>aj.mp q ▸ hl
 top:=a8 _ h.top
 sub:=λk hk=>(aK.mp hk).elim (λq=>a8 _ (h.sub k q)) λq=>aT _ q
 shut:=λk hk=>(aK.mp hk).elim (λq=>(h.shut k q).elim (λa=>.inl (a8 _ a)) λa=>a.elim (λa=>.inr (.inl a)) λa=>.inr (.inr λz hz=>a8 _ (a z hz))) λq=>.inl (aT _ q)
 part:=λz hz=>by
  rw[bJ,hy] at hz
  exact(aK.mp hz).elim (λq=>a8 _ (h.part z q)) λq=>aT _ q
theorem Bel.few(h:Bel nodes n K S x i):K.length<=nodes.length:=by
 have:=h.nd.length_le_of_subset (l₂:=aV nodes.length) λk hk=>aN.mpr (h.lt k hk)
 rwa [aY] at this
end
theorem St5.kidTerms{nodes:List cq}{t:T5}{n:Nat}(h:St5 nodes t n){g:Nat->T5}(hg:∀k∈fw nodes n,St5 nodes (g k) k):∃nd,nodes[n]? = some nd/\nd.1=t.op/\nd.2=fw nodes n/\(fw nodes n).map g=t.kids:=by
 cases t with
 | f t=>
  obtain⟨k,h1,h2⟩:=h
  have e:=_13 h1
  refine⟨_,h1,rfl,e.symm,?_⟩
  rw[e] at hg ⊢
  show[g k]=[t]
  rw[(hg k (.head _)).same h2]
 | g t u=>
  obtain⟨k,l,h1,h2,h3⟩:=h
  have e:=_13 h1
  refine⟨_,h1,rfl,e.symm,?_⟩
  rw[e] at hg ⊢
  show[g k,g l]=[t,u]
  rw[(hg k (.head _)).same h2,(hg l (.tail _ (.head _))).same h3]
 | _=>exact⟨_,h,rfl,(_13 h).symm,by rw[_13 h];rfl⟩
inductive TermI(N:Nms)(b:BS)(bl r5:ao)(n:Nat)(j:Nat)(m:Loc)(σ:af):Prop
 | mk (K S:List Nat) (x:Nat) (em:m=[("self", .ref b.self),("n", .int (n:Nat)),("below", .ref bl),("stack", .ref r5)]) (B:Bel b.nodes n K S x (fw b.nodes x).length) (hj:2*(b.nodes.length-K.length)+S.length=j) (hS:S.length<=K.length)
  (hA:At σ ((r5,.list (b9 S))::(bl,.dictI (j4 (λ_=>.bool true) K))::b.cells N))
inductive TermX(N:Nms)(b:BS)(bl r5:ao)(n x j:Nat)(i:Nat)(σ:af):Prop
 | mk (K S:List Nat) (B:Bel b.nodes n K S x i) (hj:2*(b.nodes.length - K.length)+S.length < j) (hS:S.length<=K.length)
  (hA:At σ ((r5,.list (b9 S))::(bl,.dictI (j4 (λ_=>.bool true) K))::b.cells N))
section
variable{c:Cx}{d:Nat}{σ:af}{Q:AV->af->Prop}{N:Nms}{L:NE}
theorem _lA{a:ao}{es:List (Int×AV)}{k:Int}(e:σ a=some (.dictI es))(h:Q (.bool (!(bz es k).isSome)) σ):eQ c d .NotIn (.int k) (.ref a) σ Q:=by
 refine _6 [.i _,.r _] λA Fz s P E G kk t=>?_
 obtain⟨eI,hd,rk⟩:=_0N G.st e
 refine wpAny_notIn_of (isInt k t c) (_1o G.base G.bs G.st e) hd.mapOf ?_
 rw[show(valueAt eI k).isSome=(bz es k).isSome from(congrArg _ (_3N ..)).trans (rk.look k).same]
 exact kk.same G (.bool _) h
theorem _lB{β:Type}{body:np β}{Q:β->af->Prop}{b:β}{l:List Nat}(J:Nat->af->Prop)(hz:l.length<=100)(h0:J 0 σ)(hs:∀(i:Nat) σ (k:β->af->Prop),J i σ->(∀aX,J (i+1) aX->k b aX)->∀y,l[i]? = some y->body (.int (y:Nat)) b σ k)(he:∀σ,J l.length σ->Q b σ):fH c d (.tup (b9 l)) σ λitems keep=>compLoop keep body items b σ Q:=
 _R (_z (λi b' σ=>b'=b/\J i σ) ⟨rfl,h0⟩ (λ_ _ _ _=>trivial) (λi x b' σ k hx h hk=>h.1 ▸ _9o (P:=λx=>body x b σ k) (λy hy=>hs i σ k h.2 (λaX j=>hk _ _ ⟨rfl,j⟩) y hy) x hx) λb' σ h=>h.1 ▸ he σ (by have:=h.2;rw[_7] at this;exact this))
theorem _9K{body:np (List AV)}{keep:af->Prop}{f:Nat->AV}{R:List AV->af->Prop}(hk:keep σ)(kids:List Nat):∀bV:List AV,(∀(x:Nat) bV (k:List AV->af->Prop),x∈kids->k (bV++[f x]) σ->body (.int (x:Int)) bV σ k)->R (bV++kids.map f) σ->compLoop keep body (b9 kids) bV σ R:=by
 induction kids with
 | nil=>exact λbV _ h=>⟨hk,(bh bV) ▸ h⟩
 | cons x kids ih=>exact λbV hs h=>⟨hk,hs x bV _ (.head _) (ih _ (λy bV k hy=>hs y bV k (.tail _ hy)) (by rw[aZ];exact h))⟩
theorem _lC{body:np (List AV)}{R:ao->af->Prop}{L:aU}(f:Nat->AV){kids:List Nat}(hz:kids.length<=100)(hA:At σ L)(hs:∀(x:Nat) bV (k:List AV->af->Prop),x∈kids->k (bV++[f x]) σ->body (.int (x:Int)) bV σ k)(he:∀m aX,At aX ((m,.list (kids.map f))::L)->R m aX):fH c d (.tup (b9 kids)) σ (pq body σ R):=
 _R ⟨_02 (by rw[_7];exact hz),_9K trivial _ [] hs λm hm=>he m _ (hA.new hm)⟩
theorem _lD{l:List Nat}(h:l.Pairwise (· < ·)){i k y:Nat}(hk:l[i]? = some k)(hy:y∈l)(fO:y<k):y∈l.take i:=by
 obtain⟨j,hj,rfl⟩:=iR hy
 obtain⟨hi,rfl⟩:=az.mp hk
 have hji:j<i:=dG λq=>by
  rcases bX i j with p | p
  ·exact absurd (bZ.mp h i j hi hj p) (by exact _5D fO)
  ·have:i=j:=by exact _f1 q p
   subst this;exact absurd fO (db _)
 exact List.mem_take_iff_getElem.mpr ⟨j,by exact _f2 hi hji,rfl⟩
theorem _lE{b:BS}{ts:List T5}{t:T5}{n:Nat}(H:Has c N)(E:oi c N L)(h1:2<=d)(hA:At σ (b.cells N))(hB:BOK b)(hz:b.nodes.length<=8)(ho:qq ts b.nodes)(ht:St5 b.nodes t n)(hq:Q (.tup t.av) σ):br c d (.raw (.ref L.f_Bank_term)) [.ref b.self,.int (n:Nat)] σ Q:=by
 refine _0T (l:=b.cells N) (P:=λv=>v = .tup t.av) (λaX pU=>?_) hA λv e=>e ▸ hq
 clear hA hq
 have hA:=pU
 clear pU
 have G:=H.gs
 have d1:1<=dn d:=_b h1
 have hf:bp b.nodes.length:=by unfold bp;exact _0n hz
 have qH:n<b.nodes.length:=ht.lt
 -- each number's term
 have ex:∀k,∃u,k<b.nodes.length->St5 b.nodes u k:=λk=>by
  by_cases q:k < b.nodes.length
  ·exact(ho k q).elim λu x=>⟨u,λ_=>x.2⟩
  ·exact⟨.a,λx=>absurd x q⟩
 obtain⟨g,hg⟩:=gj ex
 refine _g E.d_Bank_term (bN h1) rfl ?_
 refine⟨rfl,λbl hbl=>?_⟩
 refine _j (ce:=.dictI (j4 (λ_=>.bool true) [n])) hA hbl λσ1 hA=>?_
 refine And.intro (sl rfl) λr5 htl1=>?_
 refine _j (ce:=.list (b9 [n])) hA htl1 λσ2 hA=>?_
 refine And.intro (sl rfl) (_x rfl ?_)
 have e0:fw b.nodes b.nodes.length=[]:=by
  unfold fw
  rw[bc,da (aD _)];rfl
 refine⟨TermI N b bl r5 n,⟨_,.mk [n] [n] b.nodes.length rfl ⟨by simp,λk hk=>aj.mp hk ▸ qH,.head _,λk hk=>hk,λk hk=>.inl hk,λy hy=>by rw[e0] at hy;exact absurd hy bj⟩ rfl (aD _) hA⟩,λj m' σ3 I=>?_⟩
 clear hA
 obtain⟨K,S,x,rfl,B,hj,hS,hA⟩:=I
 have xj:=B.few
 refine _4 G.g_len ?_
 refine _0h (hA.nth 0 rfl) (by unfold bp;exact _f3 hz hS xj) ?_
 refine _6T ?_
 refine _G (λq=>?_) λq=>?_
 ·obtain⟨S,y,rfl⟩:∃S' y,S=S'++[y]:=by
   rcases List.eq_nil_or_concat S with e | ⟨S',y,e⟩
   ·subst e;exact absurd q (by decide)
   ·exact⟨S',y,by rw[e,rR]⟩
  have B2:=B.pop
  have tq:y<b.nodes.length:=B.lt y (B.sub y (aT _ (.head _)))
  rw[am,aF] at hj hS
  have hB2:At σ3 ((r5,.list (b9 (S++[y])))::(bl,.dictI (j4 (λ_=>.bool true) K))::b.cells N):=hA
  refine _9 hA 2 3 rfl rfl rfl H.m_B_kids H.d_B_kids ?_
  refine _2j (hA.nth 0 rfl) ?_
  refine _l ?_
  rw[_0s] at hA
  refine _3J (hA.nth 0 rfl) (by rw[_7];unfold bp;exact _f4 hz xj hS) ?_
  refine _u hA 0 rfl λσ4 hA=>?_
  replace hA:At σ4 ((r5,.list (b9 S))::(bl,.dictI (j4 (λ_=>.bool true) K))::b.cells N):=hA
  refine _4h H d1 hA.tail.tail hf hB tq ?_
  have ey:fw b.nodes y=(b.nodes[y]).2:=_13 (ax tq)
  rw[<-ey]
  have uI:(fw b.nodes y).length<=10:=by rw[ey];exact hB.few _ (bO tq)
  refine _lB (TermX N b bl r5 n y j) (by exact _5Y uI) (.mk K S B2 (by exact _f5 hj) (by exact _f6 hS) hA) (λi σ5 kc X hk z hz=>?_) λσ5 X=>?_
  ·obtain⟨K,S,B,hj,hS,hA⟩:=X
   have xj:=B.few
   have hzl:z<b.nodes.length:=cN (hB.kids y tq z (by rw[<-ey];exact aC hz)) tq
   refine _lA (hA.nth 1 rfl) ?_
   rw[_lz]
   refine _44 (λq=>?_) λq=>?_
   ·exact hk σ5 (.mk K S (B.old hz q) hj hS hA)
   ·have Bn:=B.new hz hzl q
    have hn:=Bn.few
    rw[am,aF] at hn
    refine _2q (hA.nth 1 rfl) (by rw[_4W];unfold bp;(first | lia | omega)) ?_
    refine _u hA 1 rfl λσ6 hA=>?_
    rw[_9J (f:=λ_=>.bool true) q] at hA
    refine _v (hA.nth 0 rfl) ?_
    refine _l ?_
    refine _2z (hA.nth 0 rfl) (by unfold bp;(first | lia | omega)) ?_
    refine _u hA 0 rfl λσ7 hA=>?_
    exact hk σ7 (.mk (K++[z]) (S++[z]) Bn (by simp only[am,aF];exact _f7 hj hn) (by simp only[am,aF];exact _5W hS) hA)
  ·obtain⟨K,S,B,hj2,hS,hA⟩:=X
   exact⟨_,hj2,.mk K S y rfl B rfl hS hA⟩
 ·obtain rfl:S=[]:=dz.mp (by exact _f8 hj q)
  have shut:=λk hk=>(B.done k hk).resolve_left bj
  have top:=B.top
  have lt:=B.lt
  have hJ:=B.nd
  clear B hj hS q
  refine Exists.intro (.dictI []) (And.intro (.inl rfl) λml wn=>?_)
  refine _j (ce:=.dictI []) hA wn λσ4 hA=>?_
  refine _4 G.g_sorted ?_
  refine _kh (hA.nth 2 rfl) (by rw[_4W];exact _5Z hz xj) λll ms h2 h3 hll=>?_
  rw[_9H] at h2
  have hr:((aV b.nodes.length).filter λk=>decide (k∈K)).Pairwise (· < ·):=List.pairwise_lt_range.filter _
  have hmem:∀k,k∈((aV b.nodes.length).filter λk=>decide (k∈K)) ↔ k∈K:=λk=>by
   rw[bH,aN]
   exact⟨λq=>of_decide_eq_true q.2,λq=>⟨lt k q,decide_eq_true q⟩⟩
  have cL:((aV b.nodes.length).filter λk=>decide (k∈K)).length<=b.nodes.length:=ay (c_ _ _) (by rw[aY];exact aD _)
  have em:=_8T (bo.mpr (hJ.imp λq e=>q (d8 e))) (λ_=>rS) h2 h3 hr hmem
  generalize (aV b.nodes.length).filter (λk=>decide (k∈K))=R at hr hmem cL em
  subst em
  rw[<-_1x]
  refine _j (ce:=.list (b9 R)) hA hll λσ5 hA=>?_
  refine _4L (λi=>(ll,.list (b9 R))::(ml,.dictI (j4 (λk=>.tup (g k).av) (R.take i)))::(r5,.list (b9 []))::(bl,.dictI (j4 (λ_=>.bool true) K))::b.cells N) 0 (λ_=>rfl) hA (λi σ6 kc hA hk=>_9o λk hki=>?_) λσ6 hA=>?_
  ·have mk:=(hmem k).mp (aC hki)
   have iU:=lt k mk
   obtain⟨nd,h1,h2,h3,h4⟩:=(hg k iU).kidTerms (g:=g) λy hy=>hg y (lt y (shut k mk y hy))
   have ek:b.nodes[k]=nd:=aB ((ax iU).symm.trans h1)
   refine _9 hA 4 5 rfl rfl rfl H.m_B_op H.d_B_op ?_
   refine _85 H d1 hA.tail.tail.tail.tail hf iU ?_
   rw[ek,h2]
   refine And.intro (sl rfl) ?_
   refine _4 G.g_tuple ?_
   refine _9 hA 4 5 rfl rfl rfl H.m_B_kids H.d_B_kids ?_
   refine _4h H d1 hA.tail.tail.tail.tail hf hB iU ?_
   rw[ek,h3]
   have uI:(fw b.nodes k).length<=10:=by rw[<-h3,<-ek];exact hB.few _ (bO iU)
   refine _lC (λy=>.tup (g y).av) (by exact _5Y uI) hA (λy bV kk hy oY=>?_) λm σ7 hA=>?_
   ·have hyk:y<k:=hB.kids k iU y (by rw[ek,h3];exact hy)
    exact _1p (hA.nth 1 rfl) (_4X (_lD hr hki ((hmem y).mpr (shut k mk y hy)) hyk)) oY
   ·have e5:(fw b.nodes k).map (λy=>AV.tup (g y).av)=avL (g k).kids:=by
     rw[_D,<-h4,bf];rfl
    rw[e5] at hA
    refine _2o (hA.nth 0 rfl) (_9y _) ?_
    replace hA:=hA.tail
    refine _2n (by rw[aF];have:=_0b (g k);rw[_c];unfold bp;exact _3c this) ?_
    rw[show[AV.str (g k).op]++avL (g k).kids=(g k).av from(T5.av_eq _).symm]
    have h_:k ∉ R.take i:=λq=>by
     obtain⟨j,hj,e⟩:=iR q
     rw[cX] at hj
     rw[tS] at e
     obtain⟨hi,e2⟩:=az.mp hki
     have:=bZ.mp hr j i (by(first | lia | omega)) hi (by(first | lia | omega))
     (first | lia | omega)
    refine _2q (hA.nth 1 rfl) (by rw[_4W,cX];unfold bp;exact _f9 hz cL) ?_
    refine _u hA 1 rfl λσ8 hA=>hk σ8 ?_
    rw[_9J (f:=λk=>.tup (g k).av) h_] at hA
    rw[bJ,hki]
    exact hA
  ·rw[_7,bT] at hA
   refine _1p (hA.nth 1 rfl) (_4X ((hmem n).mpr top)) ?_
   exact⟨by rw[(hg n qH).same ht],hA.tail.tail.tail.tail⟩
end
section
variable{c:Cx}{d:Nat}{σ:af}{Q:AV->af->Prop}{N:Nms}{L:NE}{T:Nat}
open Classical in
theorem _lF{a:ao}{ep:Nat}{es:List (List AV×AV)}{Q:AV->List AV->Prop}(e:σ a=some (.dictE ep es))(h:Q (.raw (.builtin "dict.values")) [.ref a]):e6 c d (.ref a) "values" σ Q:=by
 refine⟨λA Fz s v pl P E G r hP=>?_⟩
 obtain⟨xs,hd,rk⟩:=_1O G.st e
 rw[show v = .ref a from r]
 exact ie hd.of.typeIs jv PySem.F.slot_dict_values PySem.F.type_dict_values (λb eb=>by
  cases eb
  obtain⟨o,_,_,ho,hc,_⟩:=hd.of
  exact⟨o,ho,hc.2.1⟩) (hP _ _ _ _ s (.refl s) (.raw _) (.one (.ref a)) h)
open Classical in
theorem _lG{a:ao}{ep:Nat}{es:List (List AV×AV)}(e:σ a=some (.dictE ep es))(h:∀m,σ m=none->Q (.ref m) (σ.set m (.exact (i_ a)))):br c d (.raw (.builtin "dict.values")) [.ref a] σ Q:=by
 refine _6 [.b _,.r _] λA Fz s P E G kk=>?_
 have xB:=_1o G.base G.bs G.st e
 obtain⟨xs,hd,rk⟩:=_1O G.st e
 have hT:s.TypeIs (.ref a) "dict" :=hd.of.typeIs
 have S2:=G.st.new (c:=.exact (i_ a)) (a:=s.heap.objs.size) (h':=s.heap.push (i_ a)) (_a _) (_p s.heap _) ⟨aH _ rfl,_fL⟩
 refine b4 F.slot_dict_values hT F.entry_dict_values ?_ (F.args_dict_values_1 _)
 unfold Builtin.«dict.values»
 refine aa ?_
 unfold Builtin.Dict.noArgs
 refine aa (iE hT ?_)
 show wpAny _ _ (pure a) _ _ s
 refine ad ?_
 show wpAny _ _ (oL a >>= _) _ _ s
 unfold oL
 rw[if_neg (by rw[xB];exact aR)]
 refine aa (ad ?_)
 refine aa (dc (ad ⟨_,rfl,?_⟩))
 exact kk (.ref s.heap.objs.size) _ _ {s with heap:=s.heap.push (i_ a)} S2.1 ⟨S2.2.1,rfl,rfl⟩ (.ref _) (h _ (G.st.free (_a _)))
theorem _lH{u:US}{f:ao}{a:Nat}(D:cI c f ["self", "a"] gG)(H:Has c N)(h1:2<=d)(hA:At σ (u.cells N))(hu:UOK u)(tG:u.par.length<64)(ha:a<u.par.length)
  (hq:∀m,σ m=none->Q (.ref m) (σ.set m (.list (b9 (cp u.par (bD u.par a)))))):br c d (.raw (.ref f)) [.ref u.self,.int (a:Int)] σ Q:=by
 refine _7Y (l:=u.cells N) (λσ R _0U hA=>?_) hA hq
 have G:=H.gs
 have hf:bp u.par.length:=by unfold bp;exact _fa tG
 have hr:bD u.par a<u.par.length:=(_K hu.down a ha).2
 have vB:bD u.par a<u.lots.length:=by rw[hu.len];exact hr
 refine _g D (ay (by decide) h1) rfl ?_
 refine _4 G.g_sorted ?_
 refine _1t H.a_U_lots (hA.nth 0 rfl) (hA.nth 1 rfl) rfl rfl ?_
 refine _1f H.m_U_find (hA.nth 0 rfl) (hA.nth 1 rfl) rfl ?_
 refine _1u H.d_U_find.isFun ?_
 refine _0S H (_b h1) hA hu.down ha hf ?_
 refine _4a (xs:=u.lots) (f:=λp=>p.1) (hA.nth 3 rfl) (by rw[hu.len];exact hf) vB ?_
 have hmem:((u.lots[bD u.par a]).1,cG.list (b9 (u.lots[bD u.par a]).2))∈u.cells N:=
  .tail _ (.tail _ (.tail _ (.tail _ (.tail _ (aq.mpr ⟨_,bO vB,rfl⟩)))))
 have hp:=hu.mem _ vB (_0t hu.down ha)
 have hc:=hA.get hmem
 generalize u.lots[bD u.par a]=lot at hp hc ⊢
 rw[_1x] at hc
 have cL:lot.2.length<=u.par.length:=by rw[hp.length_eq];unfold cp;exact ay (c_ _ _) (by rw[aY];exact aD _)
 refine _7f hc (by rw[ac];exact _fb tG cL) λm ms h2 h3 hm=>?_
 have hJ:(lot.2.map λn:Nat=>(n:Int)).Nodup:=bo.mpr ((hp.nodup_iff.mpr (List.nodup_range.filter _)).imp λq e=>q (Int.ofNat_inj.mp e))
 have e:=_8T hJ (λ_=>rS) h2 h3 (r:=cp u.par (bD u.par a)) (List.pairwise_lt_range.filter _) λn=>hp.mem_iff.symm
 rw[e,<-_1x]
 exact _0U (hA.new hm)
theorem _lI{h:HS}{fu fh:ao}{n:Nat}(Du:cI c fu ["self", "a"] gG)(mu:cA c N.cU "members" fu)(Dh:cI c fh ["self", "c"] iL)(H:Has c N)(h1:3<=d)(hA:At σ (h.cells N))(hk:HOK T h)(tG:h.ms.size<64)(hn:n<h.ms.size)
  (hq:∀m,σ m=none->Q (.ref m) (σ.set m (.list (b9 (cp h.ms.par (h.ms.find n)))))):br c d (.raw (.ref fh)) [.ref h.self,.int (n:Int)] σ Q:=by
 refine _7Y (l:=h.cells N) (λσ R _0U hA=>?_) hA hq
 obtain⟨_,_,f3,_⟩:=hk.fits
 have hs:h.u.par.length=h.ms.size:=f3
 refine _g Dh (ay (by decide) h1) rfl ?_
 refine _1t H.a_H_unions (hA.nth 0 rfl) (hA.nth 1 rfl) rfl rfl ?_
 have hU:=HS.atU hA
 refine _1f mu (hU.nth 0 rfl) (hU.nth 1 rfl) rfl ?_
 refine _1u Du.isFun ?_
 refine _lH Du H (_b h1) hU hk.u (by exact _fc tG hs) (by exact _1X hn hs) λm hm=>?_
 exact _0U (hA.new hm)
noncomputable def nz(ps:List (ao×List T5)):aU:=ps.map λp=>(p.1,.list (avL p.2))
theorem _4Y{ps:List (ao×List T5)}{R:aU}(hA:At σ (nz ps++R)):∀p∈ps,σ p.1=some (.list (avL p.2)):=λp hp=>hA.get (a:=p.1) (c:=.list (avL p.2)) (a8 _ (aq.mpr ⟨p,hp,rfl⟩))
theorem _9L{α:Type}{fx:α->AV}{F:α->List T5}{xs:List α}{keep:af->Prop}{body:np (List AV)}{R:ao->af->Prop}{B:aU}(hz:xs.length<=100)(hA:At σ B)(hk:∀ps σ,At σ (nz ps++B)->keep σ)
  (hs:∀x∈xs,∀ps bV σ (k:List AV->af->Prop),At σ (nz ps++B)->(∀m aX,At aX ((m,.list (avL (F x)))::(nz ps++B))->k (bV++[.ref m]) aX)->body (fx x) bV σ k)
  (he:∀m ps aX,ps.map (·.2)=xs.map F->At aX ((m,.list (ps.map iJ))::(nz ps++B))->R m aX):pq body σ R (xs.map fx) keep:=by
 refine⟨_02 (by rw[ac];exact hz),?_⟩
 refine _z (λi bV aX=>∃ps:List (ao×List T5),bV=ps.map iJ/\ps.map (·.2)=(xs.take i).map F/\At aX (nz ps++B)) ⟨[],rfl,rfl,hA⟩ (λi b aX ⟨ps,_,_,h⟩=>hk ps aX h) (λi x bV aX k hx ⟨ps,ea,e,h⟩ fP=>?_) λbV aX ⟨ps,ea,e,h⟩ m hm=>?_
 ·obtain⟨y,hy,rfl⟩:=_8X hx
  refine hs y (aC hy) ps bV aX k h λm σ2 h2=>fP _ _ ⟨ps++[(m,F y)],?_,?_,?_⟩
  ·rw[ea,aM];rfl
  ·rw[aM,e,bJ,hy,aM];rfl
  ·unfold nz
   rw[aM,aZ]
   exact h2.perm cW
 ·rw[ac,bT] at e
  subst ea
  exact he m ps _ e (h.new hm)
end
noncomputable abbrev mJ(l:List T5):Prop:=l.Pairwise λx y=>x.code<y.code
noncomputable def mS(l:List T5):List T5:=Classical.epsilon λm=>m.Perm l/\mJ m
theorem _9M:∀{l:List T5},l.Nodup->∃m:List T5,m.Perm l/\mJ m
 | [],_=>⟨[],.refl _,.nil⟩
 | x::l,h=>by
  have h:=bC.mp h
  obtain⟨m,hp,hm⟩:=_9M h.2
  refine⟨m.filter (λy=>decide (y.code<x.code))++x::m.filter (λy=>!decide (y.code<x.code)),?_,?_⟩
  ·exact cW.trans (((List.filter_append_perm _ m).trans hp).cons x)
  ·have big:∀y∈m.filter (λy=>!decide (y.code<x.code)),x.code<y.code:=λy hy=>by
    have q:=bH.mp hy
    have ne:x.code≠y.code:=λe=>h.1 (_2L e ▸ hp.mem_iff.mp q.1)
    refine(_4A ne).resolve_right λz=>?_
    rw[decide_eq_true z] at q
    exact absurd q.2 (by decide)
   have small:∀y∈m.filter (λy=>decide (y.code<x.code)),y.code<x.code:=λy hy=>of_decide_eq_true (bH.mp hy).2
   refine sc.mpr ⟨hm.filter _,sU.mpr ⟨big,hm.filter _⟩,λy hy z hz=>?_⟩
   rcases aO.mp hz with rfl | hz
   ·exact small y hy
   ·exact qh (small y hy) (big z hz)
theorem _0C{l:List T5}(h:l.Nodup):(mS l).Perm l/\mJ (mS l):=Classical.epsilon_spec (_9M h)
theorem _9N{α:Type}{key:α->List Nat}{l m:List α}(p:l.Perm m)(hl:l.Pairwise λx y=>key x<key y)(hm:m.Pairwise λx y=>key x<key y):l=m:=
 p.eq_of_pairwise (le:=λx y=>key x<key y) (λa b _ _ h k=>absurd (qh h k) (pB _)) hl hm
theorem _9O{l m:List T5}(hn:l.Nodup)(p:m.Perm l)(q:mJ m):m=mS l:=
 have h:=_0C hn
 _9N (p.trans h.1.symm) q h.2
theorem _lJ{l l':List T5}(p:l.Perm l'):mS l=mS l':=by
 unfold mS
 have:(λm:List T5=>m.Perm l/\mJ m)=λm=>m.Perm l'/\mJ m:=funext λm=>propext ⟨λh=>⟨h.1.trans p,h.2⟩,λh=>⟨h.1.trans p.symm,h.2⟩⟩
 rw[this]
theorem _lK{A B:List (List T5)}(ha:A.Pairwise λx y=>d0 x<d0 y)(hb:B.Pairwise λx y=>d0 x<d0 y)(h:∀x,x∈A ↔ x∈B):A=B:=by
 have nd:∀{A:List (List T5)},(A.Pairwise λx y=>d0 x<d0 y)->A.Nodup:=λh=>h.imp λq e=>by subst e;exact absurd q (pB _)
 exact _9N ((eE (nd ha) (nd hb)).mpr h) ha hb
theorem _9P{β γ:Type}{f:Nat->β}{f':Nat->γ}:∀{A B:List Nat},(∀a∈A,∀b∈B,f a=f b ↔ f' a=f' b)->(A.map f=B.map f ↔ A.map f'=B.map f')
 | [],[],_=>⟨λ_=>rfl,λ_=>rfl⟩
 | [],_::_,_=>⟨λh=>(nomatch h),λh=>(nomatch h)⟩
 | _::_,[],_=>⟨λh=>(nomatch h),λh=>(nomatch h)⟩
 | a::A,b::B,h=>by
  have ih:=_9P (A:=A) (B:=B) λx hx y hy=>h x (.tail _ hx) y (.tail _ hy)
  have h0:=h a (.head _) b (.head _)
  constructor
  ·intro e
   have e:=aL e
   show f' a::A.map f'=f' b::B.map f'
   rw[h0.mp e.1,ih.mp e.2]
  ·intro e
   have e:=aL e
   show f a::A.map f=f b::B.map f
   rw[h0.mpr e.1,ih.mpr e.2]
theorem _9Q{α β:Type}{l:List α}{l':List β}{f:α->List AV}{f':β->List AV}{R:α->β->Prop}{k k':Nat}(h:∀x∈l,∃y,y∈l'/\R x y)(e:∀x y x2 y2,R x y->R x2 y2->f' y=f' y2->f x=f x2)(hk:jF (l.map f) k)(fP:jF (l'.map f') k'):k<=k':=by
 obtain⟨ms,a1,a2,rfl⟩:=hk
 obtain⟨qx,b1,b2,rfl⟩:=fP
 have ex:∀v,∃u,v∈ms->u∈qx/\∃x y,R x y/\f x=v/\f' y=u:=λv=>by
  by_cases q:v∈ms
  ·obtain⟨x,hx,ex⟩:=aq.mp ((a2 v).mp q)
   obtain⟨y,hy,hr⟩:=h x hx
   exact⟨f' y,λ_=>⟨(b2 _).mpr (aq.mpr ⟨y,hy,rfl⟩),x,y,hr,ex,rfl⟩⟩
  ·exact⟨[],λx=>absurd x q⟩
 obtain⟨φ,hφ⟩:=gj ex
 have hn:(ms.map φ).Nodup:=bo.mpr (a1.imp_of_mem λ{v v2} hv hv2 ne q=>by
  obtain⟨_,x,y,r,e1,e2⟩:=hφ v hv
  obtain⟨_,x',y',r',e1',e2'⟩:=hφ v2 hv2
  exact ne (e1.symm.trans ((e x y x' y' r r' (e2.trans (q.trans e2'.symm))).trans e1')))
 have:=hn.length_le_of_subset (l₂:=qx) λu hu=>by
  obtain⟨v,hv,rfl⟩:=aq.mp hu
  exact(hφ v hv).1
 rwa [ac] at this
section
variable{ts:List T5}{pairs:List (T5×T5)}{W:List (Nat×Nat)}{L:List Nat}{s:MS}{told:List (Nat×Nat)}{T:Nat}{g:Nat->T5}
structure ec(ts:List T5)(pairs:List (T5×T5))(L:List Nat)(T:Nat)(s:MS)(told:List (Nat×Nat))(g:Nat->T5):Prop where
 ok:MOK T s
 hi:eo s told (λ_=>False)
 hw:s.waiting=[]
 h5:mH ts pairs s.nodes told
 ts5:Ts5 ts
 cl:∀t∈ts,∀u∈ts,hm ts L t=hm ts L u ↔ eA ts pairs t u
 hg:∀n,n<s.size->St5 s.nodes (g n) n
theorem ec.mem(F:ec ts pairs L T s told g){n:Nat}(h:n<s.size):g n∈ts:=by
 obtain⟨t,ht,st⟩:=F.h5.num n h
 rw[(F.hg n h).same st];exact ht
theorem ec.inj(F:ec ts pairs L T s told g){i j:Nat}(hi:i<s.size)(hj:j<s.size)(e:g i=g j):i=j:=(F.hg i hi).one F.h5.nd (e ▸ F.hg j hj)
theorem ec.onto(F:ec ts pairs L T s told g){t:T5}(h:t∈ts):∃n,n<s.size/\g n=t:=by
 obtain⟨n,hn⟩:=F.h5.all t h
 exact⟨n,hn.lt,(F.hg n hn.lt).same hn⟩
theorem ec.one(F:ec ts pairs L T s told g){i j:Nat}(hi:i<s.size)(hj:j<s.size):s.find i=s.find j ↔ hm ts L (g i)=hm ts L (g j):=by
 rw[F.hi.settled_iff F.ok F.hw hi hj,F.cl _ (F.mem hi) _ (F.mem hj)]
 exact _jV F.h5 (F.hg i hi) (F.hg j hj)
theorem ec.gs(F:ec ts pairs L T s told g):((aV s.size).map g).Nodup/\∀t,t∈(aV s.size).map g ↔ t∈ts:=by
 refine⟨bo.mpr (List.nodup_range.imp_of_mem λ{i j} hi hj ne e=>ne (F.inj (aN.mp hi) (aN.mp hj) e)),λt=>⟨λh=>?_,λh=>?_⟩⟩
 ·obtain⟨n,hn,rfl⟩:=aq.mp h
  exact F.mem (aN.mp hn)
 ·obtain⟨n,hn,rfl⟩:=F.onto h
  exact aq.mpr ⟨n,aN.mpr hn,rfl⟩
theorem ec.size(F:ec ts pairs L T s told g):s.size=ts.length:=by
 have:=((eE F.gs.1 F.ts5.nd).mpr F.gs.2).length_eq
 rwa [ac,aY] at this
noncomputable def qV(s:MS)(g:Nat->T5)(r:Nat):List T5:=mS ((cp s.par r).map g)
noncomputable def qn(ts:List T5)(L:List Nat)(p:Int):List T5:=mS (ts.filter λt=>decide (((hm ts L t:Nat):Int)=p))
theorem _lL{p:List Nat}{r y:Nat}:y∈cp p r ↔ y<p.length/\bD p y=r:=by
 unfold cp
 rw[bH,aN,decide_eq_true_iff]
theorem ec.memb(F:ec ts pairs L T s told g){r n:Nat}:n∈cp s.par r ↔ n<s.size/\s.find n=r:=by
 rw[_lL,F.ok.len];exact rS
theorem ec.lotNd(F:ec ts pairs L T s told g)(r:Nat):((cp s.par r).map g).Nodup:=
 bo.mpr ((List.nodup_range.filter _).imp_of_mem λ{i j} hi hj ne e=>ne (F.inj (F.memb.mp hi).1 (F.memb.mp hj).1 e))
theorem ec.same(F:ec ts pairs L T s told g){r:Nat}(hr:r<s.size)(e:s.find r=r):qV s g r=qn ts L ((hm ts L (g r):Nat):Int):=by
 refine _lJ ((eE (F.lotNd r) (F.ts5.nd.filter _)).mpr λt=>?_)
 rw[bH,decide_eq_true_iff]
 constructor
 ·intro h
  obtain⟨n,hn,rfl⟩:=aq.mp h
  have hn:=F.memb.mp hn
  exact⟨F.mem hn.1,congrArg (λ(n:Nat)=>(n:Int)) ((F.one hn.1 hr).mp (hn.2.trans e.symm))⟩
 ·intro h
  obtain⟨n,hn,rfl⟩:=F.onto h.1
  exact aq.mpr ⟨n,F.memb.mpr ⟨hn,((F.one hn hr).mpr (d8 h.2)).trans e⟩,rfl⟩
theorem _1U(F:ec ts pairs L T s told g){r:Nat}:r∈cf s.par ↔ r<s.size/\s.find r=r:=by
 unfold cf
 rw[bH,aN,decide_eq_true_iff,F.ok.len];exact rS
theorem ec.lotsNd(F:ec ts pairs L T s told g):((cf s.par).map (qV s g)).Nodup:=by
 refine bo.mpr ((List.nodup_range.filter _).imp_of_mem λ{r q} hr hq ne e=>ne ?_)
 have hr:=(_1U F).mp hr
 have hq:=(_1U F).mp hq
 have m1:g r∈qV s g r:=(_0C (F.lotNd r)).1.mem_iff.mpr (aq.mpr ⟨r,F.memb.mpr hr,rfl⟩)
 rw[e] at m1
 obtain⟨n,hn,e2⟩:=aq.mp ((_0C (F.lotNd q)).1.mem_iff.mp m1)
 have hn:=F.memb.mp hn
 have:=F.inj hn.1 hr.1 e2
 subst this
 exact hr.2.symm.trans hn.2
theorem ec.lots(F:ec ts pairs L T s told g){ks:List Int}(hk:∀x,x∈ks ↔ ∃t,t∈ts/\((hm ts L t:Nat):Int)=x)(x:List T5):x∈(cf s.par).map (qV s g) ↔ x∈ks.map (qn ts L):=by
 constructor
 ·intro h
  obtain⟨r,hr,rfl⟩:=aq.mp h
  have hr:=(_1U F).mp hr
  exact aq.mpr ⟨_,(hk _).mpr ⟨g r,F.mem hr.1,rfl⟩,(F.same hr.1 hr.2).symm⟩
 ·intro h
  obtain⟨p,hp,rfl⟩:=aq.mp h
  obtain⟨t,ht,rfl⟩:=(hk p).mp hp
  obtain⟨n,hn,rfl⟩:=F.onto ht
  have f1:=F.ok.findLt hn
  have f2:=F.ok.findFind hn
  refine aq.mpr ⟨s.find n,(_1U F).mpr ⟨f1.1,f2⟩,?_⟩
  rw[F.same f1.1 f2,(F.one f1.1 hn).mp f2]
noncomputable def qZ(ts:List T5)(L:List Nat)(t:T5):List AV:=cr (t.op,t.kids.map (hm ts L))
theorem _lM{n:Nat}{nd:cq}(h:s.nodes[n]? = some nd):s.canon n=(nd.1,nd.2.map s.find):=by
 have e:s.nodes.getD n default=nd:=by rw[bc,h];rfl
 unfold MS.canon
 rw[e]
theorem ec.kid(F:ec ts pairs L T s told g){n:Nat}(hn:n<s.size):∀k∈fw s.nodes n,k<s.size:=λk hk=>by
 have sq:n<s.nodes.length:=hn
 rw[_13 (ax sq)] at hk
 exact cN (F.ok.kids n sq k hk) hn
theorem ec.key(F:ec ts pairs L T s told g){n:Nat}(hn:n<s.size):s.canon n=((g n).op,(fw s.nodes n).map s.find)/\(g n).kids=(fw s.nodes n).map g:=by
 obtain⟨nd,h1,h2,h3,h4⟩:=(F.hg n hn).kidTerms (g:=g) λk hk=>F.hg k (F.kid hn k hk)
 exact⟨by rw[_lM h1,h2,h3],h4.symm⟩
theorem ec.keys(F:ec ts pairs L T s told g){n m:Nat}(hn:n<s.size)(qJ:m<s.size):cr (s.canon n)=cr (s.canon m) ↔ qZ ts L (g n)=qZ ts L (g m):=by
 unfold qZ
 rw[(F.key hn).1,(F.key qJ).1,(F.key hn).2,(F.key qJ).2,bf,bf]
 have q:=_9P (f:=s.find) (f':=hm ts L∘g) (A:=fw s.nodes n) (B:=fw s.nodes m) λa ha b hb=>F.one (F.kid hn a ha) (F.kid qJ b hb)
 constructor
 ·intro e
  have e:=b6 (_2D _ _ e)
  rw[e.1,q.mp e.2]
 ·intro e
  have e:=b6 (_2D _ _ e)
  rw[e.1,q.mpr e.2]
theorem ec.many(F:ec ts pairs L T s told g){k k':Nat}(h:jF ((aV s.size).map λn=>cr (s.canon n)) k)(h':jF (ts.map (qZ ts L)) k'):k=k':=by
 refine fD (_9Q (R:=λn t=>n<s.size/\g n=t) (λn hn=>⟨g n,F.mem (aN.mp hn),aN.mp hn,rfl⟩) (λn t m u a b e=>(F.keys a.1 b.1).mpr (a.2 ▸ b.2 ▸ e)) h h') (_9Q (R:=λt n=>n<s.size/\g n=t) (λt ht=>?_) (λt n u m a b e=>by rw[<-a.2,<-b.2];exact(F.keys a.1 b.1).mp e) h' h)
 obtain⟨n,hn,e⟩:=F.onto ht
 exact⟨n,aN.mpr hn,hn,e⟩
end
structure HasD(c:Cx):Prop where
 g_dict:eP c "dict" (.type "dict")
noncomputable def n6(ts:List T5)(q:Nat×Nat):T5×T5:=(tAt ts q.1,tAt ts q.2)
noncomputable def jC(ts:List T5)(q:Nat×Nat):Tk5:=.like (tAt ts q.1) (tAt ts q.2)
theorem _lN(ts:List T5)(W:List (Nat×Nat)):fe ts (W.map (n6 ts)) (ts.map Tk5.put++W.map (jC ts)):=by
 unfold fe
 rw[bf,gi.mpr λx hx=>(aK.mp hx).elim (λh=>by obtain⟨t,_,rfl⟩:=aq.mp h;rfl) λh=>by obtain⟨t,_,rfl⟩:=aq.mp h;rfl]
 exact .refl _
theorem fe.perm{ts:List T5}{pairs:List (T5×T5)}{F F':List Tk5}(h:fe ts pairs F)(p:F'.Perm F):fe ts pairs F':=(p.filter _).trans h
theorem _9R{α:Type}{l:List α}{f:α->Tk5}{j:Nat}{x:α}(h:l[j]? = some x):tkL ((l.take (j+1)).map f)=tkL ((l.take j).map f)++[(f x).av]:=by
 rw[bJ,h,aM,_4T];rfl
noncomputable def envL5(l0 fd so pl:ao):Loc:=[("script", .ref l0),("feed", .ref fd),("some", .ref so),("pairs", .ref pl)]
noncomputable def envM5(l0 fd so pl pu li ho dl cn:ao):Loc:=[("script", .ref l0),("feed", .ref fd),("some", .ref so),("pairs", .ref pl),("puts", .ref pu),("likes", .ref li),("home", .ref ho),("due", .ref dl),("canonical", .ref cn)]
noncomputable def cA5(fd lc:ao)(cs:List Int)(n:Nat)(so pl:ao)(ts:List T5)(W:List (Nat×Nat)):aU:=fy fd lc cs n++[(so,.list (avL ts)),(pl,.list (prL ts W))]
inductive PairI(fd lc so pl:ao)(cs:List Int)(ts:List T5)(n0:Nat)(i:Nat)(σ:af):Prop
 | mk (W:List (Nat×Nat)) (n:Nat) (hW:W.length=i) (iA:∀q∈W,q.1 < ts.length/\q.2 < ts.length) (hn:n<=n0+2*i) (hA:At σ (cA5 fd lc cs n so pl ts W))
noncomputable def cB5(ho:ao)(ep:Nat)(ts:List T5)(Lf:List Nat)(so fd lc:ao)(cs:List Int)(n:Nat)(pu li:ao)(PU LI:List Tk5):aU:=(ho,.dictE ep (gD ts Lf))::(so,.list (avL ts))::(fy fd lc cs n++[(pu,.list (tkL PU)),(li,.list (tkL LI))])
noncomputable def cC5(so cn dl:ao)(ts:List T5)(qM:List (List AV))(nH:List (ao×List T5)):aU:=[(so,.list (avL ts)),(cn,.setT qM),(dl,.list (nH.map iJ))]++nz nH
noncomputable def qm(tl:List (ao×List Tk5)):aU:=tl.map λp=>(p.1,.list (tkL p.2))
section
variable{c:Cx}{d:Nat}{σ:af}{Q:AV->af->Prop}{N:Nms}{L:NE}
theorem _9S{ps:List (ao×List T5)}(h:∀p∈ps,σ p.1=some (.list (avL p.2))):kS σ (ps.map iJ) (ps.map λp=>.list (p.2.map T5.dat)):=by
 induction ps with
 | nil=>exact .nil
 | cons p ps ih=>exact .cons (.list (h p (.head _)) (_9t _)) (ih λq hq=>h q (.tail _ hq))
theorem _9T{ps:List (ao×List T5)}(hd:∀p∈ps,∀t∈p.2,t.dep<=7):kqdOk 20 (.list (ps.map λp=>.list (p.2.map T5.dat)))=true:=_0k λD hD=>by
 obtain⟨p,hp,rfl⟩:=aq.mp hD
 exact _0k λD hD=>by
  obtain⟨t,ht,rfl⟩:=aq.mp hD
  exact _0a (ay (hd p hp t ht) (by decide))
theorem _lO{l m:ao}{ps qs:List (ao×List T5)}(e:σ l=some (.list (ps.map iJ)))(e':σ m=some (.list (qs.map iJ)))(h:∀p∈ps,σ p.1=some (.list (avL p.2)))(h':∀p∈qs,σ p.1=some (.list (avL p.2)))(hd:∀p∈ps,∀t∈p.2,t.dep<=7)(hs:ps.map (·.2)=qs.map (·.2))(k:Q (.bool false) σ):eQ c d .NotEq (.ref l) (.ref m) σ Q:=by
 classical
 have kU:∀p∈qs,∀t∈p.2,t.dep<=7:=λp hp t ht=>by
  have:p.2∈ps.map (·.2):=hs ▸ aq.mpr ⟨p,hp,rfl⟩
  obtain⟨q,hq,e⟩:=aq.mp this
  exact hd q hq t (e ▸ ht)
 have eD:∀ps:List (ao×List T5),(ps.map λp=>Dat.list (p.2.map T5.dat))=(ps.map (·.2)).map λl=>Dat.list (l.map T5.dat):=λps=>by rw[bf];rfl
 refine _4G (.list e (_9S h)) (.list e' (_9S h')) (_9T hd) (_9T kU) ?_
 rw[eD ps,eD qs,hs,decide_eq_false (λq=>q rfl)]
 exact k
theorem _lP{ts:List T5}{lb:List Nat}(h:lb.length=ts.length):(gD ts lb).map (·.2)=cJ (lb.map λ(n:Nat)=>(n:Int)):=by
 unfold gD lz
 rw[bf,show((λx:List AV×AV=>x.2)∘λx:List AV×Nat=>(x.1,AV.int (x.2:Nat)))=(λn:Nat=>AV.int (n:Nat))∘Prod.snd from rfl,<-bf,ud (cm (by rw[h,ac]))]
 unfold cJ
 rw[bf];rfl
theorem _lQ{ts:List T5}{lb:List Nat}(T:Ts5 ts)(h:lb.length=ts.length){x:Int}:(x∈lb.map λ(n:Nat)=>(n:Int)) ↔ ∃t,t∈ts/\((hm ts lb t:Nat):Int)=x:=by
 constructor
 ·intro hx
  obtain⟨n,hn,rfl⟩:=aq.mp hx
  obtain⟨i,hi,rfl⟩:=iR hn
  have lI:i<ts.length:=h ▸ hi
  exact⟨tAt ts i,_0l lI,by rw[_1N T.nd lI,_2J (ax hi)]⟩
 ·rintro⟨t,ht,rfl⟩
  have hi:ix ts t<lb.length:=h ▸ _0x ht
  exact aq.mpr ⟨lb[ix ts t],bO hi,by unfold hm;rw[_2J (ax hi)]⟩
theorem _lR{ts:List T5}{p:T5->Bool}{j:Nat}{t:T5}(h:ts[j]? = some t):avL ((ts.take (j+1)).filter p)=if p t=true then avL ((ts.take j).filter p)++[.tup t.av] else avL ((ts.take j).filter p):=by
 rw[bJ,h,eF,show(some t).toList=[t] from rfl,bW]
 split
 ·rw[eN,_9u]
 ·rw[eN,bh]
theorem _lS{ts:List T5}{lb:List Nat}{ks:List Int}(T:Ts5 ts)(hn:ks.Nodup)(h:∀x∈ks,∃t,t∈ts/\((hm ts lb t:Nat):Int)=x):(ks.map (qn ts lb)).Nodup:=by
 refine bo.mpr (hn.imp_of_mem λ{x y} hx hy ne e=>ne ?_)
 obtain⟨t,ht,rfl⟩:=h x hx
 have m1:t∈qn ts lb ((hm ts lb t:Nat):Int):=(_0C (T.nd.filter _)).1.mem_iff.mpr (bH.mpr ⟨ht,decide_eq_true rfl⟩)
 rw[e] at m1
 exact of_decide_eq_true (bH.mp ((_0C (T.nd.filter _)).1.mem_iff.mp m1)).2
theorem _lT{α:Type}{l:List α}{f:α->List AV}{j:Nat}{x:α}(h:l[j]? = some x):jn ((l.take (j+1)).map f)=jn ((l.take j).map f)++[.tup (f x)]:=by
 rw[bJ,h,aM]
 exact _9m _ _
theorem _lU{ts:List T5}{W:List (Nat×Nat)}:∀x∈ts.map Tk5.put++W.map (jC ts),x.busy=true:=λx hx=>(aK.mp hx).elim (λh=>by obtain⟨t,_,rfl⟩:=aq.mp h;rfl) λh=>by obtain⟨t,_,rfl⟩:=aq.mp h;rfl
theorem _lV{ts:List T5}{W:List (Nat×Nat)}(hd:∀t∈ts,t.dep<=7):∀x∈ts.map Tk5.put++W.map (jC ts),x.dep<=7:=λx hx=>(aK.mp hx).elim (λh=>by obtain⟨t,ht,rfl⟩:=aq.mp h;exact hd t ht) λh=>by obtain⟨t,_,rfl⟩:=aq.mp h;exact kA.mpr ⟨_32 hd _,_32 hd _⟩
theorem _lW{tl:List (ao×List Tk5)}{p:ao×List Tk5}(h:p∈tl)(R:aU):∃r,((p.1,cG.list (tkL p.2))::(R++r)).Perm (qm tl++R):=by
 obtain⟨l1,l2,rfl⟩:=List.append_of_mem h
 refine⟨qm (l1++l2),?_⟩
 unfold qm
 rw[aM,aM,aJ,aZ,dA]
 refine(lQ.trans (List.Perm.cons _ ?_) cW.symm)
 exact bY.trans (.of_eq (aZ ..))
theorem _lX{ns:List Int}{j:Nat}{P:AV->Prop}(k:∀z,ns[j]? = some z->P (.int z))(x:AV)(h:(cJ ns)[j]? = some x):P x:=_1R (f:=AV.int) (P:=P) k x h
theorem _lY{ns:List Int}{f:Int->Int}{j:Nat}{z:Int}(h:ns[j]? = some z):cJ ((ns.take (j+1)).map f)=cJ ((ns.take j).map f)++[.int (f z)]:=by
 rw[bJ,h,aM]
 exact aM ..
set_option maxHeartbeats 4000000 in
theorem call_law5{l0:ao}{ns:List Int}(H:Has c N)(E:oi c N L)(S:tf c N)(X:HasD c)(hs:pM c l0 ns)(hn:ns.length<=63)(h1:30<=d):br c d (.raw (.ref L.f_law)) [.ref l0] σ (λv _=>v = .bool true):=by
 refine _0T (l:=[]) (σ:=σ) (P:=λv=>v = .bool true) (λσ hA=>?_) .nil λv e=>e
 have G:=H.gs
 have w1:16<=dn d:=_b (ay (by decide) h1)
 have d4:4<=dn d:=ay (by decide) w1
 have d3:3<=dn d:=ay (by decide) w1
 have d2:2<=dn d:=ay (by decide) w1
 have d1:1<=dn d:=ay (by decide) w1
 refine _g E.d_law (ay (by decide) h1) rfl ?_
 refine _ie hs rfl rfl (by unfold bp;exact _fd hn) λm0 hm0=>?_
 rw[show iI (cJ ns) .none (.int 60)=cJ (ns.take 60) from _if ns 60]
 have vU:(ns.take 60).length<=60:=by rw[cX];exact Nat.min_le_left _ _
 generalize ns.take 60=ns' at vU ⊢
 clear hs hn
 refine _j (ce:=.list (cJ ns')) hA hm0 λσ1 hA=>?_
 refine _1S 0 rfl (λj=>cJ ((ns'.take j).map λz=>z.fmod 9973)) rfl (by rw[_03];unfold bp;exact _fe vU) hA (λj σ0 kk hA hk=>_lX λz hz=>?_) λlc σ2 hA=>?_
 ·refine _2g (by decide) ?_
  have q:=hk _ hA
  rw[_lY hz] at q
  exact q
 rw[_03,bT] at hA
 have ro:(ns'.map λz=>z.fmod 9973).length<=1000:=by rw[ac];exact _ff vU
 generalize (ns'.map λz=>z.fmod 9973)=cs at hA ro
 clear vU
 replace hA:At σ2 [(lc,.list (cJ cs))]:=hA.sub ((List.nil_sublist _).cons_cons _)
 refine And.intro (sl rfl) λfd hfd=>?_
 refine _j (ce:=.list [.ref lc,.int ((0:Nat):Int)]) hA hfd λσ3 hA=>?_
 replace hA:At σ3 (fy fd lc cs 0++[]):=hA
 refine _4 E.g_terms ?_
 refine _l3 H E d2 (b0 _) ro hA λso ts n0 σ4 Tm hn0 hA=>?_
 have Tk:=Tm.ok
 have o1:∀t∈ts,t.dep<=7:=λt h=>eS (Tm.dep t h)
 have hz:ts.length<=8:=Tm.len
 have r6:bp ts.length:=by unfold bp;exact _0n hz
 refine And.intro (sl rfl) λpl k_=>?_
 refine _j (ce:=.list (prL ts [])) hA k_ λσ5 hA=>?_
 refine And.intro (sl rfl) (_x rfl ?_)
 replace hA:At σ5 (cA5 fd lc cs n0 so pl ts []):=hA.pick2 (p:=[(pl,.list (prL ts [])),(so,.list (avL ts)),(fd,.list [.ref lc,.int (n0:Nat)]),(lc,.list (cJ cs))]) (r:=[]) [2,3,1,0] (by decide)
 refine _4 G.g_range ?_
 refine _4 E.g_draw ?_
 refine _09 (m:=3) H E d1 (by decide) (by exact _fg hn0) ro hA λw σ6 hw hA=>?_
 refine _0K ?_
 refine _2p ?_
 rw[show(1:Int)+(w:Int)=((1+w:Nat):Int) by exact _fh]
 refine _9q (b:=envL5 l0 fd so pl) (PairI fd lc so pl cs ts (n0+1)) (by unfold bp;exact _fi hw) (.mk [] (n0+1) rfl nofun (aD _) hA) (λi σ7 kc I hk hi=>?_) λσ7 I=>?_
 ·clear hA
  obtain⟨W,n,hW,iA,hn,hA⟩:=I
  have nE:1<=ts.length:=ay (by decide) Tm.two
  refine _4 E.g_draw ?_
  refine _4 G.g_len ?_
  refine _w (hA.nth 2 rfl) (by rw[_c];exact r6) ?_
  rw[_c]
  refine _09 (m:=ts.length) H E d1 nE (by exact _fj hn0 hw hi hn) ro hA λa σ8 ha hA=>?_
  refine _1T (hA.nth 2 rfl) r6 (_1M ha) ?_
  refine _v (hA.nth 3 rfl) ?_
  refine _l ?_
  refine _4 E.g_draw ?_
  refine _4 G.g_len ?_
  refine _w (hA.nth 2 rfl) (by rw[_c];exact r6) ?_
  rw[_c]
  refine _09 (m:=ts.length) H E d1 nE (by exact _fk hn0 hw hi hn) ro hA λb σ9 hb hA=>?_
  refine _1T (hA.nth 2 rfl) r6 (_1M hb) ?_
  refine And.intro (sl rfl) ?_
  refine _F (hA.nth 3 rfl) (by rw[_12];unfold bp;exact _fl hw hi hW) ?_
  refine _u hA 3 rfl λσ10 hA=>?_
  refine hk σ10 (.mk (W++[(a,b)]) (n+1+1) (by rw[am,hW];rfl) (λq hq=>?_) (by exact _fm hn) ?_)
  ·exact(aK.mp hq).elim (iA q) λh=>by rw[aj.mp h];exact⟨ha,hb⟩
  ·unfold cA5;rw[<-_4R];exact hA
 clear hA
 obtain⟨W,n,hW,iA,hn,hA⟩:=I
 have hW4:W.length<=3:=by exact _fn hw hW
 have hW1:W≠[]:=λe=>by subst e;rw[bL] at hW;exact _fo hW
 -- the fT
 refine _1S (L:=cA5 fd lc cs n so pl ts W) 2 rfl (λj=>tkL ((ts.take j).map Tk5.put)) rfl (by rw[_c];exact r6) hA (λj σ8 kk hA hk=>_0A λt ht=>?_) λpu σ8 hA=>?_
 ·refine And.intro (sl rfl) ?_
  have q:=hk _ hA
  rw[_9R ht] at q
  exact q
 rw[_c,bT] at hA
 refine _1S (L:=(pu,.list (tkL (ts.map Tk5.put)))::cA5 fd lc cs n so pl ts W) 4 rfl (λj=>tkL ((W.take j).map (jC ts))) rfl (by rw[_12];unfold bp;exact _fp hw hW) hA (λj σ9 kk hA hk=>_1R λq hq=>?_) λli σ9 hA=>?_
 ·refine _x rfl ?_
  refine And.intro (sl rfl) ?_
  have q':=hk _ hA
  rw[_9R hq] at q'
  exact q'
 rw[_12,bT] at hA
 refine And.intro (sl rfl) (_x rfl ?_)
 have T1:fe ts (W.map (n6 ts)) (ts.map Tk5.put++W.map (jC ts)):=_lN ts W
 have uK:∀x∈ts.map Tk5.put++W.map (jC ts),x.busy=true:=λx hx=>_lU x hx
 have wW:∀x∈ts.map Tk5.put++W.map (jC ts),x.dep<=7:=λx hx=>_lV o1 x hx
 have we:(ts.map Tk5.put).length<=8:=by rw[ac];exact hz
 have wg:(W.map (jC ts)).length<=3:=by rw[ac];exact hW4
 have hp:l7 ts (W.map (n6 ts)) W:=rfl
 have hip:∀p∈W.map (n6 ts),p.1∈ts/\p.2∈ts:=λp hp=>by
  obtain⟨q,hq,rfl⟩:=aq.mp hp
  exact⟨_0l (iA q hq).1,_0l (iA q hq).2⟩
 generalize ts.map Tk5.put=PU at hA T1 uK wW we
 generalize W.map (jC ts)=LI at hA T1 uK wW wg
 generalize W.map (n6 ts)=PR at T1 hp hip
 replace hA:At σ9 ((so,.list (avL ts))::(pl,.list (prL ts W))::(fy fd lc cs n++[(pu,.list (tkL PU)),(li,.list (tkL LI))])):=hA.pick2 (p:=(li,.list (tkL LI))::(pu,.list (tkL PU))::cA5 fd lc cs n so pl ts W) (r:=[]) [4,5,2,3,1,0] (by decide)
 refine _4 E.g_closed ?_
 refine _lp (ts:=ts) (told:=W) H E X.g_dict d2 Tk o1 hz hp iA hW1 (by exact _fq hw hW) (r:=fy fd lc cs n++[(pu,.list (tkL PU)),(li,.list (tkL LI))]) hA λho ep Lf σ10 Cl hA=>?_
 have wu:∀t∈ts,∀u∈ts,hm ts Lf t=hm ts Lf u ↔ eA ts PR t u:=λt ht u hu=>Cl.done Tk hp iA ht hu
 have wf:Lf.length=ts.length:=Cl.len
 replace hA:At σ10 (cB5 ho ep ts Lf so fd lc cs n pu li PU LI):=hA.pick2 (p:=(ho,.dictE ep (gD ts Lf))::(so,.list (avL ts))::(pl,.list (prL ts W))::(fy fd lc cs n++[(pu,.list (tkL PU)),(li,.list (tkL LI))])) (r:=[]) [0,1,3,4,5,6] (by decide)
 clear Cl hp iA hW1 hW4 hW
 -- the classes due
 refine _4 G.g_sorted ?_
 refine _4 G.g_set ?_
 refine _lF (hA.nth 0 rfl) ?_
 refine _l ?_
 refine _lG (hA.nth 0 rfl) λvl hvl=>?_
 refine _j (ce:=.exact (i_ ho)) hA hvl λσ11 hA=>?_
 refine _kB (ns:=Lf.map λ(n:Nat)=>(n:Int)) (hA.nth 0 rfl) (hA.nth 1 rfl) (_lP wf) (by rw[ac];exact _fr hz wf) λr5 so' sms hSO hJ hmem htl1=>?_
 refine _j (ce:=.exact so') hA htl1 λσ12 hA=>?_
 replace hA:At σ12 ((r5,.exact so')::cB5 ho ep ts Lf so fd lc cs n pu li PU LI):=hA.sub ((b7 _ _).cons_cons _)
 refine _kD (hA.nth 0 rfl) hSO λks kH=>?_
 have hkm:∀x,x∈ks ↔ ∃t,t∈ts/\((hm ts Lf t:Nat):Int)=x:=λx=>by rw[kH.mem_iff,hmem];exact _lQ Tk wf
 have hkn:ks.Nodup:=kH.nodup_iff.mpr hJ
 have iU:ks.length<=8:=by
  have:=hkn.length_le_of_subset (l₂:=Lf.map λ(n:Nat)=>(n:Int)) λx hx=>(hmem x).mp (kH.mem_iff.mp hx)
  rw[ac] at this;exact _fs hz wf this
 refine _9L (fx:=AV.int) (F:=qn ts Lf) (B:=(r5,.exact so')::cB5 ho ep ts Lf so fd lc cs n pu li PU LI) (by exact _60 iU) hA (λps σ h=>h.right.nth 0 rfl) (λp hp ps bV σ13 kk hA hk=>?_) λul ps σ13 hps hA=>?_
 ·refine _4 G.g_sorted ?_
  replace hA:=hA.perm bY
  refine _1S 2 rfl (λj=>avL ((ts.take j).filter λt=>decide (((hm ts Lf t:Nat):Int)=p))) rfl (by rw[_c];exact r6) hA (λj σ14 kk2 hA oY=>_0A λt ht=>?_) λm σ14 hA=>?_
  ·have mt:=aC ht
   refine _L (hA.nth 1 rfl) Tk.nd wf o1 mt ?_
   refine _0p ?_
   have q:=oY _ hA
   rw[_lR ht] at q
   refine _G (λe=>?_) λe=>?_
   ·rw[decide_eq_true e] at q;exact q
   ·rw[decide_eq_false e] at q;exact q
  rw[_c,bT] at hA
  have hnf:(ts.filter λt=>decide (((hm ts Lf t:Nat):Int)=p)).Nodup:=Tk.nd.filter _
  have xF:=c_ (λt=>decide (((hm ts Lf t:Nat):Int)=p)) ts
  refine _9h (hA.nth 0 rfl) (by exact _5Z hz xF) hnf (λt ht=>o1 t (bH.mp ht).1) λm2 ms vY qG re=>?_
  refine _j (ce:=.list (avL ms)) hA re λσ15 hA=>?_
  refine hk m2 σ15 ?_
  rw[show qn ts Lf p=ms from(_9O hnf vY qG).symm]
  exact(hA.sub ((b7 _ _).cons_cons _)).perm (List.perm_append_comm.cons _)
 have wm:∀p∈ps,∀t∈p.2,t∈ts:=λp hp t ht=>by
  have m1:p.2∈ks.map (qn ts Lf):=hps ▸ aq.mpr ⟨p,hp,rfl⟩
  obtain⟨x,hx,e⟩:=aq.mp m1
  rw[<-e] at ht
  exact(bH.mp ((_0C (Tk.nd.filter _)).1.mem_iff.mp ht)).1
 have k_:ps.length=ks.length:=by have:=congrArg fV hps;rwa [ac,ac] at this
 refine _9i (hA.nth 0 rfl) (_4Y hA.tail) (by exact _3m iU k_) (by rw[hps];exact _lS Tk hkn λx hx=>(hkm x).mp hx) (λp hp t ht=>o1 t (wm p hp t ht)) λdl nH hd1 sK xO=>?_
 refine _j (ce:=.list (nH.map iJ)) hA xO λσ14 hA=>?_
 have hdm:∀x,x∈nH.map (·.2) ↔ x∈ks.map (qn ts Lf):=λx=>by rw[<-hps];exact(hd1.map _).mem_iff
 have md:∀p∈nH,∀t∈p.2,t.dep<=7:=λp hp t ht=>o1 t (wm p (hd1.mem_iff.mp hp) t ht)
 have hdl8:nH.length<=8:=by have:=hd1.length_eq;exact _ft iU k_ this
 replace hA:At σ14 ((dl,.list (nH.map iJ))::(cB5 ho ep ts Lf so fd lc cs n pu li PU LI++nz nH)):=by
  refine((hA.sub ((b7 _ _).cons_cons _)).sub (((b7 _ _).append_left _).cons_cons _)).perm (List.Perm.cons _ ?_)
  have pp:(nz nH).Perm (nz ps):=hd1.map _
  exact bY.trans (pp.append_right _)
 have hd3:=hd1.length_eq.trans k_
 clear hd1 wm k_ hps hmem hJ kH hSO
 -- the canonical nodes
 refine _4 G.g_set ?_
 refine _1S 2 rfl (λj=>jn ((ts.take j).map (qZ ts Lf))) rfl (by rw[_c];exact r6) hA (λj σ15 kk hA hk=>_0A λt ht=>?_) λm σ15 hA=>?_
 ·have mt:=aC ht
  refine _1l (k:=0) (x:=.str t.op) (_2Z t) (_30 t) (by decide) ?_
  refine And.intro (sl rfl) ?_
  refine _4 G.g_tuple ?_
  refine _31 ?_
  refine _4Q (hm ts Lf) (ay (_0b t) (by decide)) hA (λx bV kk2 hx oY=>_L (hA.nth 1 rfl) Tk.nd wf o1 (_2Y Tk mt hx) oY) λm1 σ16 hA=>?_
  refine _2o (hA.nth 0 rfl) (by rw[_7,ac];have:=_0b t;unfold bp;exact _3b this) ?_
  refine _2n (by rw[_7,ac,aF];have:=_0b t;unfold bp;exact _3c this) ?_
  have q:=hk _ hA.tail
  rw[_lT ht] at q
  exact q
 rw[_c,bT] at hA
 refine _8L (hA.nth 0 rfl) (λk hk=>by obtain⟨t,_,rfl⟩:=aq.mp hk;exact _0V _) (by rw[ac];exact _fu hz) λcn qM hc1 rq xf=>?_
 refine _j (ce:=.setT qM) hA xf λσ16 hA=>?_
 have xQ:jF (ts.map (qZ ts Lf)) qM.length:=⟨qM,hc1,rq,rfl⟩
 replace hA:At σ16 ((pu,.list (tkL PU))::(li,.list (tkL LI))::(fy fd lc cs n++cC5 so cn dl ts qM nH)):=hA.pick2 (p:=(cn,.setT qM)::(m,.list (jn (ts.map (qZ ts Lf))))::(dl,.list (nH.map iJ))::cB5 ho ep ts Lf so fd lc cs n pu li PU LI) (r:=nz nH) [7,8,5,6,4,0,2] (by decide)
 -- the lists of fT
 have t4:bp (tkL PU).length:=by rw[_B];unfold bp;exact _0n we
 have hfl:bp (tkL LI).length:=by rw[_B];unfold bp;exact _fv wg
 have xL:bp ((tkL PU).length+(tkL LI).length):=by rw[_B,_B];unfold bp;exact _fw we wg
 refine _1j (hA.nth 0 rfl) (hA.nth 1 rfl) xL λt1 ht1=>?_
 refine _0R (ce':=.list (tkL (PU++LI))) hA ht1 (congrArg cG.list (aM ..).symm) λσ17 hA=>?_
 refine _6S ?_
 refine _9j (hA.nth 2 rfl) hfl λr1 hr1=>?_
 refine _0R (ce':=.list (tkL LI.reverse)) hA hr1 (congrArg cG.list (jP ..).symm) λσ18 hA=>?_
 refine _6S ?_
 refine _9j (hA.nth 2 rfl) t4 λr2 hr2=>?_
 refine _0R (ce':=.list (tkL PU.reverse)) hA hr2 (congrArg cG.list (jP ..).symm) λσ19 hA=>?_
 refine _1j (hA.nth 1 rfl) (hA.nth 0 rfl) (by rw[_B,_B,iQ,iQ];unfold bp;exact _fx we wg) λt2 uC=>?_
 refine _0R (ce':=.list (tkL (LI.reverse++PU.reverse))) hA uC (congrArg cG.list (aM ..).symm) λσ20 hA=>?_
 refine _4 E.g_shuffled ?_
 refine _1j (hA.nth 4 rfl) (hA.nth 5 rfl) xL λt3 ht3=>?_
 refine _0R (ce':=.list (tkL (PU++LI))) hA ht3 (congrArg cG.list (aM ..).symm) λσ21 hA=>?_
 have T2:fe ts PR (LI.reverse++PU.reverse):=T1.perm ((List.Perm.append (fL _) (fL _)).trans bY)
 have uH:(LI.reverse++PU.reverse).length<=100:=by rw[am,iQ,iQ];exact _fy we wg
 have cL:(PU++LI).length<=12:=by rw[am];exact _fz we wg
 generalize LI.reverse++PU.reverse=F2 at hA T2 uH
 replace hA:At σ21 (fy fd lc cs n++((t3,.list (tkL (PU++LI)))::([(t1,.list (tkL (PU++LI))),(t2,.list (tkL F2))]++cC5 so cn dl ts qM nH))):=hA.pick2 (p:=(t3,.list (tkL (PU++LI)))::(t2,.list (tkL F2))::(r2,.list (tkL PU.reverse))::(r1,.list (tkL LI.reverse))::(t1,.list (tkL (PU++LI)))::(pu,.list (tkL PU))::(li,.list (tkL LI))::fy fd lc cs n) (r:=cC5 so cn dl ts qM nH) [7,8,0,4,1] (by decide)
 clear t4 hfl xL
 generalize PU++LI=F1 at hA T1 cL uK wW
 refine _lt H E d2 (by exact _fA hn0 hw hn) ro uK wW cL hA λfo F k' σ22 hF hFl fP hA=>?_
 have T3:fe ts PR F:=by
  unfold fe at T1 ⊢
  rw[gi.mpr λx hx=>uK x hx] at T1
  exact hF.trans T1
 refine And.intro (sl rfl) ?_
 replace hA:At σ22 (qm [(t1,F1),(t2,F2),(fo,F)]++cC5 so cn dl ts qM nH):=hA.pick2 (p:=[(fd,.list [.ref lc,.int (k':Nat)]),(lc,.list (cJ cs)),(fo,.list (tkL F)),(t3,.list (tkL F1)),(t1,.list (tkL F1)),(t2,.list (tkL F2))]) (r:=cC5 so cn dl ts qM nH) [4,5,2] (by decide)
 have hT:∀p∈[(t1,F1),(t2,F2),(fo,F)],fe ts PR p.2/\p.2.length<=100:=λp hp=>by
  rcases aO.mp hp with rfl | hp
  ·exact⟨T1,ay cL (by decide)⟩
  rcases aO.mp hp with rfl | hp
  ·exact⟨T2,uH⟩
  ·obtain rfl:=aj.mp hp
   exact⟨T3,ay hFl (by decide)⟩
 have hI:[AV.ref t1,.ref t2,.ref fo]=[(t1,F1),(t2,F2),(fo,F)].map λp=>AV.ref p.1:=rfl
 rw[hI]
 generalize [(t1,F1),(t2,F2),(fo,F)]=tl at hA hT ⊢
 clear ro T1 T2 T3 hF hFl fP hI cL uK wW uH we wg
 refine _R (_kP (b:=envM5 l0 fd so pl pu li ho dl cn) (L:=qm tl++cC5 so cn dl ts qM nH) hA (λ_ _=>trivial) (λi σ23 kc hA hk=>_1R λp hp0=>?_) λσ23 hA=>?_)
 ·obtain⟨tk,F⟩:=p
  have mp:=aC hp0
  obtain⟨hTF,hFl⟩:=hT _ mp
  obtain⟨r,hr⟩:=_lW mp (cC5 so cn dl ts qM nH)
  replace hk:=λaX h=>hk aX (At.perm (σ:=aX) h hr.symm)
  replace hA:=hA.perm hr
  clear hr hp0 mp
  refine _4 E.g_done ?_
  refine _ly H S E (ay (by decide) w1) Tk o1 hz hTF hip hFl hA λh T told σ24 oN hi hw h5 hA=>?_
  have wj:∀σ,At σ ((tk,.list (tkL F))::(cC5 so cn dl ts qM nH++r))->σ so=some (.list (avL ts))/\σ cn=some (.setT qM)/\σ dl=some (.list (nH.map iJ))/\∀p∈nH,σ p.1=some (.list (avL p.2)):=λσ hY=>⟨hY.nth 1 rfl,hY.nth 2 rfl,hY.nth 3 rfl,λp hp=>hY.get (aA _ (a8 _ (aT _ (aq.mpr ⟨p,hp,rfl⟩))))⟩
  generalize (tk,cG.list (tkL F))::(cC5 so cn dl ts qM nH++r)=Y at hA hk wj
  clear hTF hFl
  -- each number's term
  have ex:∀k,∃u,k<h.ms.size->St5 h.ms.nodes u k:=λk=>by
   by_cases q:k < h.ms.size
   ·exact(h5.num k q).elim λu x=>⟨u,λ_=>x.2⟩
   ·exact⟨.a,λx=>absurd x q⟩
  obtain⟨g,hg⟩:=gj ex
  have F5:ec ts PR Lf T h.ms told g:=⟨oN.m,hi,hw,h5,Tk,wu,hg⟩
  have eX:=F5.size
  have hb8:h.b.nodes.length<=8:=by have e:h.b.nodes.length=ts.length:=eX;exact _3n hz e
  have rc:h.ms.par.length=ts.length:=F5.ok.len.trans eX
  have vB:(cf h.ms.par).length<=8:=by
   have:=c_ (λx=>decide (bD h.ms.par x=x)) (aV h.ms.par.length)
   exact ay this (by rw[aY];exact _3n hz rc)
  have hH:=hA.right
  refine _9 hH 0 1 rfl rfl rfl H.m_H_classes H.d_H_classes ?_
  refine _iP H d2 hH oN λcl wu=>?_
  refine _j (ce:=.list (b9 (cf h.ms.par))) hA wu λσ25 hA=>?_
  refine _0q (hA.nth 0 rfl) (_9L (fx:=λn:Nat=>AV.int (n:Nat)) (F:=qV h.ms g) (ay vB (by decide)) hA (λps σ q=>q.right.nth 0 rfl) (λx hx ps bV σ26 kk hA oY=>?_) λll ps σ26 hps hA=>?_)
  ·have hx:=(_1U F5).mp hx
   refine _4 G.g_sorted ?_
   have hH:=hA.right.tail.right
   refine _9 hH 0 1 rfl rfl rfl E.m_Heap_members E.d_Heap_members ?_
   refine _lI E.d_Unions_members E.m_Unions_members E.d_Heap_members H d3 hH oN (by exact _3m hz eX) hx.1 λml wn=>?_
   rw[hx.2]
   refine _j (ce:=.list (b9 (cp h.ms.par x))) hA wn λσ27 hA=>?_
   have wJ:(cp h.ms.par x).length<=8:=by
    have:=c_ (λy=>decide (bD h.ms.par y=x)) (aV h.ms.par.length)
    exact ay this (by rw[aY];exact _3n hz rc)
   have hH:=hA.tail.right.tail.right
   refine _0q (hA.nth 0 rfl) ⟨_02 (by rw[_7];exact _60 wJ),_9K (f:=λn=>.tup (g n).av) (hA.nth 0 rfl) _ [] (λy bV k3 hy wP=>?_) λm hm=>?_⟩
   ·have hy:=F5.memb.mp hy
    refine _1t H.a_H_bank (hH.nth 0 rfl) (hH.nth 1 rfl) rfl rfl ?_
    have hB:=HS.atB hH
    refine _9 hB 0 1 rfl rfl rfl E.m_Bank_term E.d_Bank_term ?_
    exact _lE H E d2 hB oN.b hb8 h5.num (hg y hy.1) wP
   ·refine _0R (ce':=.list (avL ((cp h.ms.par x).map g))) hA hm (congrArg cG.list (by rw[_D,bf];rfl)) λσ28 hA=>?_
    refine _9h (hA.nth 0 rfl) (by rw[ac];exact _fB wJ) (F5.lotNd x) (λt ht=>?_) λm2 ms vY qG re=>?_
    ·obtain⟨y,hy,rfl⟩:=aq.mp ht
     exact o1 _ (F5.mem (F5.memb.mp hy).1)
    ·refine _j (ce:=.list (avL ms)) hA re λσ29 hA=>?_
     refine oY m2 σ29 ?_
     rw[show qV h.ms g x=ms from(_9O (F5.lotNd x) vY qG).symm]
     exact hA.sub (((b7 _ _).trans (b7 _ _)).cons_cons _)
  have wm:∀p∈ps,∀t∈p.2,t.dep<=7:=λp hp t ht=>by
   have m1:p.2∈(cf h.ms.par).map (qV h.ms g):=hps ▸ aq.mpr ⟨p,hp,rfl⟩
   obtain⟨x,hx,e⟩:=aq.mp m1
   rw[<-e] at ht
   obtain⟨y,hy,rfl⟩:=aq.mp ((_0C (F5.lotNd x)).1.mem_iff.mp ht)
   exact o1 _ (F5.mem (F5.memb.mp hy).1)
  have k_:ps.length=(cf h.ms.par).length:=by have:=congrArg fV hps;rwa [ac,ac] at this
  refine _4 G.g_sorted ?_
  refine _9i (hA.nth 0 rfl) (_4Y hA.tail) (by exact _3m vB k_) (by rw[hps];exact F5.lotsNd) wm λr5 ms hm1 re htl1=>?_
  refine _j (ce:=.list (ms.map iJ)) hA htl1 λσ27 hA=>?_
  have vA:ms.map (·.2)=nH.map (·.2):=_lK (bo.mpr re) (bo.mpr sK) λx=>by
   rw[(hm1.map _).mem_iff,hps,hdm]
   exact F5.lots hkm x
  have hX:=hA.tail.tail.right.tail
  have hH:=hX.right
  obtain⟨hYs,hYc,hYd,hYl⟩:=wj _ hX.left
  refine _lO (hA.nth 0 rfl) hYd (λp hp=>_4Y hA.tail.tail p (hm1.mem_iff.mp hp)) hYl (λp hp=>wm p (hm1.mem_iff.mp hp)) vA ?_
  refine _9 hH 0 1 rfl rfl rfl E.m_Heap_is_settled E.d_Heap_is_settled ?_
  refine _kX E.d_Heap_is_settled H d1 hH oN hw ?_
  refine _9 hH 0 1 rfl rfl rfl H.m_H_size H.d_H_size ?_
  refine _88 H d2 hH oN ?_
  refine _4 G.g_len ?_
  refine _w hYs (by rw[_c];exact r6) ?_
  refine _2W (by rw[_c,eX]) ?_
  refine _9 hH 0 1 rfl rfl rfl E.m_Heap_many_nodes E.d_Heap_many_nodes ?_
  refine _kK E.d_Heap_many_nodes H d4 hH oN (by exact _fC hz eX) λk wP=>?_
  refine _4 G.g_len ?_
  refine _8M hYc ?_
  refine _2W (congrArg (λn:Nat=>(n:Int)) (F5.many wP xQ)) ?_
  refine _4 G.g_len ?_
  refine _1t H.a_H_forest (hH.nth 0 rfl) (hH.nth 1 rfl) rfl rfl ?_
  have wS:h.forest.length+(cf h.ms.par).length=ts.length:=by
   have a:=F5.ok.forest
   have b:=F5.ok.lgr
   have e:=F5.ok.len
   rw[<-a,e,eX] at b
   exact b
  refine _0h (hH.nth 3 rfl) (by unfold bp;exact _fD hz wS) ?_
  refine _4 G.g_len ?_
  refine _w hYs (by rw[_c];exact r6) ?_
  refine _4 G.g_len ?_
  refine _w hYd (by rw[ac];unfold bp;exact _fE iU hd3) ?_
  refine _2f ?_
  have hdr:nH.length=(cf h.ms.par).length:=by
   have:=congrArg fV vA
   rw[ac,ac] at this
   rw[<-this,hm1.length_eq,k_]
  refine _2W (by rw[_c,ac];exact _fF wf eX rc k_ wS hdr) ?_
  exact hk σ27 hX.left
 ·exact⟨rfl,.nil⟩
end
theorem _9U{α β:Type}[BEq α][LawfulBEq α]:∀{ns:List α} {vs:List β},ns.length<=vs.length->∀n∈ns,((ns.zip vs).lookup n).isNone=false
 | [],_,_,_,h=>nomatch h
 | _::_,[],h,_,_=>nomatch h
 | a::ns,v::vs,h,n,hn=>by
  rw[dp,bx]
  cases q:n == a with
  | true=>rfl
  | false=>exact _9U (ew h) n ((aO.mp hn).resolve_left λe=>by rw[e,beq_self_eq_true] at q;cases q)
theorem _9V{α β:Type}{f g:α->Option β}:∀{l:List α},(∀x∈l,f x=g x)->l.filterMap f=l.filterMap g
 | [],_=>rfl
 | a::l,h=>by rw[dI,dI,h a aE,_9V λx hx=>h x (aA _ hx)]
theorem _lZ{b:Bool}(h1:b=true)(h2:(!b)=true):False:=by rw[h1] at h2;cases h2
theorem _9W{α β:Type}[BEq α][LawfulBEq α]:∀{ns:List α} {vs:List β},ns.Nodup->ns.length=vs.length->ns.filterMap (λn=>((ns.zip vs).lookup n).map λv=>(n,v))=ns.zip vs
 | [],_,_,_=>rfl
 | _::_,[],_,h=>nomatch h
 | a::ns,v::vs,hn,h=>by
  have hn:=bC.mp hn
  rw[dp,dI,bx,beq_self_eq_true]
  refine congrArg ((a,v) :: ·) ?_
  refine(_9V λn hm=>?_).trans (_9W hn.2 (iw h))
  rw[bx,beq_false_of_ne λe=>hn.1 (by rw[<-e];exact hm)]
theorem _m0{fd:FuncData}{ps:List String}{vals:List ae}(h:mA fd.params ps=true)(hd:fd.defaults = .none)(hn:ps.Nodup)(hl:vals.length=ps.length):bindArgs fd ⟨vals,[]⟩=pure ((ps.map ab).zip vals):=by
 obtain⟨a1,a2,⟨po,ar,va,ko,kd,kw,df⟩,a4,a5,a6,a7,dd,a9,a10,a11,a12,a13,a14,a15⟩:=fd
 unfold mA at h
 simp only[bm,hV,Option.isNone_iff_eq_none,decide_eq_true_eq] at h
 obtain⟨⟨⟨⟨rfl,rfl⟩,rfl⟩,rfl⟩,h5⟩:=h
 obtain rfl:dd = .none:=hd
 have cL:ar.length=vals.length:=by rw[hl,<-ac (f:=ab),<-h5,ac]
 refine(if_neg λq=>?_).trans ?_
 ·have q1:=of_decide_eq_true (ck.mp q).1
  have q2:vals.length>(ar.map (·.arg)).length:=q1
  rw[ac,cL] at q2
  exact db _ q2
 ·refine(if_neg λq=>?_).trans ?_
  ·have e:∀n,(List.filter (λn=>(((ar.map (·.arg)).zip vals).lookup n).isNone) ((ar.map (·.arg)).take n))=[]:=λn=>qR.mpr λx hx=>by
    rw[_9U (by rw[ac,cL];exact aD _) x (List.mem_of_mem_take hx)]
    exact aR
   exact _lZ (congrArg List.isEmpty (e _)) q
  ·generalize hz:List.zip (List.drop _ _) _=z
   obtain rfl:z=[]:=by
    rw[<-hz]
    show List.zip _ (List.drop _ [])=[]
    rw[qj,mh]
   show(pure (((ar.map Arg.arg)++[]).filterMap λn=>(((ar.map Arg.arg).zip vals).lookup n).map λv=>(n,v)):me (List (Str×ae)))=_
   rw[bh,h5]
   refine congrArg pure (_9W (bo.mpr (hn.imp λq e=>q (_s e))) (by rw[ac];exact hl.symm))
theorem _8{c:Cx}{nm:List String}{f:ao}{ps:List String}{body:ISs}(h:bP nm c.K f ps=some body):cI c f ps body:=by
 unfold bP at h
 cases hK:c.K.lookup f with
 | none=>rw[hK] at h;cases h
 | some o=>
  rw[hK] at h
  dsimp only at h
  cases hd:o.data with
  | func fd=>
   rw[hd] at h
   dsimp only at h
   cases hb:fd.body with
   | stmts ot=>
    rw[hb] at h
    dsimp only at h
    split at h
    ·rename_i hc
     simp only[bm,hV,decide_eq_true_eq,gR] at hc
     obtain⟨⟨⟨⟨⟨⟨⟨⟨⟨⟨⟨c1,c2⟩,c3⟩,c4⟩,c5⟩,c6⟩,c7⟩,c8⟩,c9⟩,c10⟩,c11⟩,hn⟩:=hc
     exact⟨nm,⟨⟨o,fd,ot,hK,hd,hb,aB h,c1,c2,c3,c4,c5,c6,c7,λvals hl=>_m0 c10 c11 hn hl,c8,c9⟩,hn⟩⟩
    ·cases h
   | _=>rw[hb] at h;cases h
  | _=>rw[hd] at h;cases h
theorem _14{c:Cx}{C:ao}(h:j9 c.K C=true):qr c C:=by
 unfold j9 at h
 rw[bm,decide_eq_true_eq] at h
 obtain⟨h1,h2⟩:=h
 cases hK:c.K.lookup C with
 | none=>rw[hK] at h1;cases h1
 | some o=>
  rw[hK] at h1
  dsimp only at h1
  cases hd:o.data with
  | cls cd=>exact .inr (.inr (.inr ⟨C,o,cd,rfl,hK,hd,h2⟩))
  | _=>rw[hd] at h1;cases h1
theorem law_ends{prog:bS}{w:cy}{K:rT}{bU:ah}{fa l:ao}{vals:List ae}{ns:List Int}{p:bS}{loose:List Str}{mg mb:Str->Option ae}
  {Ok Er:ae->ah->Prop} {d:Nat} (hd:d<=200)
  (KX:K.In bU.heap) (T:TopRead p loose mg mb bU.heap) (hm:bU.heap.NoSeer) (hL:bU.heap.IsList l vals.toArray) (hI:IntsAre vals ns)
  (wY:pM ⟨prog,w,K,bU.heap⟩ l ns->br ⟨prog,w,K,bU.heap⟩ d (.raw (.ref fa)) [.ref l] (λ_=>none) (λv _=>v = .bool true))
  (oN:∀s',(∀b o,bU.heap.get? b=some o->s'.heap.get? b=some o)->s'.os=bU.os->s'.gens=bU.gens->Ok (.bool true) s') :
  wpAny (model prog w) callerA (call (.ref fa) [.ref l]) Ok Er bU:=by
 have hb:q8 ⟨prog,w,K,bU.heap⟩:=⟨KX,⟨_,_,_,_,T⟩,let⟨mm,⟨o,es,ep,ho,_⟩,_⟩:=hm.mods;⟨o,ho⟩⟩
 have S:St prog w (λb o=>bU.heap.get? b=some o) (λ_=>none) bU.heap:=⟨λb o x=>x,λa ce e=>(nomatch e),λa ce o e=>(nomatch e)⟩
 have hr:lH callerA d:=by
  refine⟨?_,?_,rfl⟩
  ·have h1:callerA.depth+3*200+20<rD:=by decide
   exact _fG hd h1
  ·have h2:callerA.units+16*200+200<cLine:=by decide
   exact _fH hd h2
 refine(wY ⟨vals,hL,hI⟩).run callerA (λb o=>bU.heap.get? b=some o) bU [.ref fa,.ref l] _ _ ⟨hr,hb,λb o e=>e,S⟩ (.cons (.raw _) (.cons (.ref _) .nil)) ?_
 rintro v av aX s' S' g rv rfl
 have hv:v = .bool true:=by cases rv;rfl
 subst hv
 exact oN s' (λb o e=>S'.fz b o e) g.os g.gens
theorem _m1{p q:bS}{loose:List Str}{Xt:ah->Bool}{α:Type}{Yf:ah->α}{Ya:cy->α}{N:Nat}{g0:Bool}(e:opening p=plainProg p.main.scope.names)(hN:nK 600 N=true)(f:∀s,fenceModules? p s=some s)
  (h:∀(w:cy) (os:OsState),(topFrom treeTable p w N ⟨sQ w.params,Array.mk [],rJ,sP,os⟩).map (λs=>(openSeen q loose (importedModules p.main.body) Xt g0 s,Yf s))=some (openGood q loose,Ya w)):LeftO p q loose Xt Yf Ya N g0:=λw=>by
 obtain⟨⟨h0,gs,d,k,os⟩,e1,e2⟩:=bt.mp (boot_open e hN f w)
 obtain⟨rfl,rfl,rfl,rfl⟩:h0=sQ w.params/\gs=Array.mk []/\d=rJ/\k=sP:=by simpa using e2
 unfold openEnds
 rw[e1]
 exact h w os
theorem _M{c:Cx}{x:String}{v:ae}(h1:nsIn c.K bK (ab x)=some none)(h2:some (dL (ab x))=some (some v))(h3:decide (ab x ≠ "__name__")=true):pO c x v:=
 .inr ⟨h1,aB h2,of_decide_eq_true h3⟩
theorem _d{K:rT}{C:ao}{y:Str}(h:mN K C "" = true):mN K C y=true:=h
theorem _4Z(h:a_):∀as:List ao,(n9 as h).In h
 | []=>λa o e=>by simp[n9] at e
 | b::as=>λa o e=>by
  unfold n9 at e
  rw[dI] at e
  cases q:h.get? b with
  | none=>rw[q] at e;exact _4Z h as a o e
  | some ob=>
   rw[q] at e
   simp only[gq,bx] at e
   by_cases x:a=b
   ·subst x;rw[beq_self_eq_true] at e;cases e;exact q
   ·rw[beq_false_of_ne x] at e;exact _4Z h as a o e
noncomputable def g9(as:List ao)(F:rT->nn)(v:nn):Hook where
 α:=nn
 obs:=λs=>F (n9 as s.heap)
 val:=λ_=>v
 says:=λ_ h=>∃K:rT,K.In h/\F K=v
 of:=λw s e=>⟨_,_4Z s.heap as,e⟩
 keeps:=λw h h' ⟨K,x,y⟩ k=>⟨K,x.keeps k,y⟩
noncomputable def nmsE:Nms:=⟨256,174,386,192,199,206,213,220,232,86,93,98,105,131,138,274,281,286,291,303,310,324,331,338,352,67⟩
noncomputable def ownE:NE:=⟨150,227,359,371,296,345,397,404,409,414,421,428,433⟩
theorem _2{K:rT}(h:gF K=gE)(i:Nat):(gF K).1.getD i true=gE.1.getD i true:=congrArg (λv:nn=>v.1.getD i true) h
theorem fo{K:rT}(h:gF K=gE)(i:Nat):(gF K).2.1.getD i none=gE.2.1.getD i none:=congrArg (λv:nn=>v.2.1.getD i none) h
theorem fs{K:rT}(h:gF K=gE)(i:Nat):(gF K).2.2.getD i none=gE.2.2.getD i none:=congrArg (λv:nn=>v.2.2.getD i none) h
theorem hasE{c:Cx}(h:gF c.K=gE):Has c nmsE/\oi c nmsE ownE:=
 ⟨{
 gs:={
 g_len:=.b (_M (fo h 0) (fo h 1) (_2 h 0))
 g_sorted:=.b (_M (fo h 2) (fo h 3) (_2 h 1))
 g_sum:=.b (_M (fo h 4) (fo h 5) (_2 h 2))
 g_max:=.b (_M (fo h 6) (fo h 7) (_2 h 3))
 g_min:=.b (_M (fo h 8) (fo h 9) (_2 h 4))
 g_set:=.t (_M (fo h 10) (fo h 11) (_2 h 5))
 g_tuple:=.t (_M (fo h 12) (fo h 13) (_2 h 6))
 g_list:=.t (_M (fo h 14) (fo h 15) (_2 h 7))
 g_range:=.t (_M (fo h 16) (fo h 17) (_2 h 8))
 g_enumerate:=.t (_M (fo h 18) (fo h 19) (_2 h 9))
 }
 k_U:=⟨(_2 h 10),(fo h 20),(_2 h 11),_14 (_2 h 12)⟩
 g_U:=⟨.inl (fo h 21),_14 (_2 h 12)⟩
 a_U_above:=⟨_d (_2 h 13),(_2 h 14),none,(fo h 22),rfl⟩
 s_U_above:=⟨(fo h 23),(_2 h 15),(fo h 24),(_2 h 14)⟩
 a_U_lots:=⟨_d (_2 h 13),(_2 h 14),none,(fo h 25),rfl⟩
 s_U_lots:=⟨(fo h 23),(_2 h 15),(fo h 26),(_2 h 14)⟩
 a_U_merged:=⟨_d (_2 h 13),(_2 h 14),none,(fo h 27),rfl⟩
 s_U_merged:=⟨(fo h 23),(_2 h 15),(fo h 28),(_2 h 14)⟩
 d_U_init:=_8 (nm:=nmE) (fs h 0)
 m_U_make:=⟨_d (_2 h 13),(fo h 29),(_2 h 16)⟩
 d_U_make:=_8 (nm:=nmE) (fs h 1)
 m_U_size:=⟨_d (_2 h 13),(fo h 30),(_2 h 17)⟩
 d_U_size:=_8 (nm:=nmE) (fs h 2)
 m_U_find:=⟨_d (_2 h 13),(fo h 31),(_2 h 18)⟩
 d_U_find:=_8 (nm:=nmE) (fs h 3)
 m_U_merge:=⟨_d (_2 h 13),(fo h 32),(_2 h 19)⟩
 d_U_merge:=_8 (nm:=nmE) (fs h 4)
 m_U_classes:=⟨_d (_2 h 13),(fo h 33),(_2 h 20)⟩
 d_U_classes:=_8 (nm:=nmE) (fs h 5)
 k_B:=⟨(_2 h 21),(fo h 34),(_2 h 22),_14 (_2 h 23)⟩
 g_B:=⟨.inl (fo h 35),_14 (_2 h 23)⟩
 a_B_nodes:=⟨_d (_2 h 24),(_2 h 25),none,(fo h 36),rfl⟩
 s_B_nodes:=⟨(fo h 37),(_2 h 26),(fo h 38),(_2 h 25)⟩
 a_B_numbers:=⟨_d (_2 h 24),(_2 h 25),none,(fo h 39),rfl⟩
 s_B_numbers:=⟨(fo h 37),(_2 h 26),(fo h 40),(_2 h 25)⟩
 a_B_weights:=⟨_d (_2 h 24),(_2 h 25),none,(fo h 41),rfl⟩
 s_B_weights:=⟨(fo h 37),(_2 h 26),(fo h 42),(_2 h 25)⟩
 a_B_depths:=⟨_d (_2 h 24),(_2 h 25),none,(fo h 43),rfl⟩
 s_B_depths:=⟨(fo h 37),(_2 h 26),(fo h 44),(_2 h 25)⟩
 d_B_init:=_8 (nm:=nmE) (fs h 6)
 m_B_size:=⟨_d (_2 h 24),(fo h 45),(_2 h 27)⟩
 d_B_size:=_8 (nm:=nmE) (fs h 7)
 m_B_take:=⟨_d (_2 h 24),(fo h 46),(_2 h 28)⟩
 d_B_take:=_8 (nm:=nmE) (fs h 8)
 m_B_require:=⟨_d (_2 h 24),(fo h 47),(_2 h 29)⟩
 d_B_require:=_8 (nm:=nmE) (fs h 9)
 m_B_op:=⟨_d (_2 h 24),(fo h 48),(_2 h 30)⟩
 d_B_op:=_8 (nm:=nmE) (fs h 10)
 m_B_kids:=⟨_d (_2 h 24),(fo h 49),(_2 h 31)⟩
 d_B_kids:=_8 (nm:=nmE) (fs h 11)
 k_H:=⟨(_2 h 32),(fo h 50),(_2 h 33),_14 (_2 h 34)⟩
 g_H:=⟨.inl (fo h 51),_14 (_2 h 34)⟩
 a_H_bank:=⟨_d (_2 h 35),(_2 h 36),none,(fo h 52),rfl⟩
 s_H_bank:=⟨(fo h 53),(_2 h 37),(fo h 54),(_2 h 36)⟩
 a_H_unions:=⟨_d (_2 h 35),(_2 h 36),none,(fo h 55),rfl⟩
 s_H_unions:=⟨(fo h 53),(_2 h 37),(fo h 56),(_2 h 36)⟩
 a_H_edges:=⟨_d (_2 h 35),(_2 h 36),none,(fo h 57),rfl⟩
 s_H_edges:=⟨(fo h 53),(_2 h 37),(fo h 58),(_2 h 36)⟩
 a_H_forest:=⟨_d (_2 h 35),(_2 h 36),none,(fo h 59),rfl⟩
 s_H_forest:=⟨(fo h 53),(_2 h 37),(fo h 60),(_2 h 36)⟩
 a_H_known:=⟨_d (_2 h 35),(_2 h 36),none,(fo h 61),rfl⟩
 s_H_known:=⟨(fo h 53),(_2 h 37),(fo h 62),(_2 h 36)⟩
 a_H_above:=⟨_d (_2 h 35),(_2 h 36),none,(fo h 63),rfl⟩
 s_H_above:=⟨(fo h 53),(_2 h 37),(fo h 64),(_2 h 36)⟩
 a_H_waiting:=⟨_d (_2 h 35),(_2 h 36),none,(fo h 65),rfl⟩
 s_H_waiting:=⟨(fo h 53),(_2 h 37),(fo h 66),(_2 h 36)⟩
 d_H_init:=_8 (nm:=nmE) (fs h 12)
 m_H_size:=⟨_d (_2 h 35),(fo h 67),(_2 h 38)⟩
 d_H_size:=_8 (nm:=nmE) (fs h 13)
 m_H_node:=⟨_d (_2 h 35),(fo h 68),(_2 h 39)⟩
 d_H_node:=_8 (nm:=nmE) (fs h 14)
 m_H_add:=⟨_d (_2 h 35),(fo h 69),(_2 h 40)⟩
 d_H_add:=_8 (nm:=nmE) (fs h 15)
 m_H_look_at:=⟨_d (_2 h 35),(fo h 70),(_2 h 41)⟩
 d_H_look_at:=_8 (nm:=nmE) (fs h 16)
 m_H_find:=⟨_d (_2 h 35),(fo h 71),(_2 h 42)⟩
 d_H_find:=_8 (nm:=nmE) (fs h 17)
 m_H_merge:=⟨_d (_2 h 35),(fo h 72),(_2 h 43)⟩
 d_H_merge:=_8 (nm:=nmE) (fs h 18)
 m_H_join:=⟨_d (_2 h 35),(fo h 73),(_2 h 44)⟩
 d_H_join:=_8 (nm:=nmE) (fs h 19)
 m_H_settle:=⟨_d (_2 h 35),(fo h 74),(_2 h 45)⟩
 m_H_classes:=⟨_d (_2 h 35),(fo h 75),(_2 h 46)⟩
 d_H_classes:=_8 (nm:=nmE) (fs h 21)
 g_is_op:=⟨.inl (fo h 76),(_8 (nm:=nmE) (fs h 22)).isFun⟩
 d_is_op:=_8 (nm:=nmE) (fs h 22)
 },{
 m_Bank_term:=⟨_d (_2 h 24),(fo h 77),(_2 h 47)⟩
 d_Bank_term:=_8 (nm:=nmE) (fs h 23)
 m_Unions_members:=⟨_d (_2 h 13),(fo h 78),(_2 h 48)⟩
 d_Unions_members:=_8 (nm:=nmE) (fs h 24)
 m_Heap_members:=⟨_d (_2 h 35),(fo h 79),(_2 h 49)⟩
 d_Heap_members:=_8 (nm:=nmE) (fs h 25)
 m_Heap_many_nodes:=⟨_d (_2 h 35),(fo h 80),(_2 h 50)⟩
 d_Heap_many_nodes:=_8 (nm:=nmE) (fs h 26)
 m_Heap_put:=⟨_d (_2 h 35),(fo h 81),(_2 h 51)⟩
 d_Heap_put:=_8 (nm:=nmE) (fs h 27)
 m_Heap_is_settled:=⟨_d (_2 h 35),(fo h 82),(_2 h 52)⟩
 d_Heap_is_settled:=_8 (nm:=nmE) (fs h 28)
 g_draw:=⟨.inl (fo h 83),(_8 (nm:=nmE) (fs h 29)).isFun⟩
 d_draw:=_8 (nm:=nmE) (fs h 29)
 g_terms:=⟨.inl (fo h 84),(_8 (nm:=nmE) (fs h 30)).isFun⟩
 d_terms:=_8 (nm:=nmE) (fs h 30)
 g_twins:=⟨.inl (fo h 85),(_8 (nm:=nmE) (fs h 31)).isFun⟩
 d_twins:=_8 (nm:=nmE) (fs h 31)
 g_closed:=⟨.inl (fo h 86),(_8 (nm:=nmE) (fs h 32)).isFun⟩
 d_closed:=_8 (nm:=nmE) (fs h 32)
 g_shuffled:=⟨.inl (fo h 87),(_8 (nm:=nmE) (fs h 33)).isFun⟩
 d_shuffled:=_8 (nm:=nmE) (fs h 33)
 g_done:=⟨.inl (fo h 88),(_8 (nm:=nmE) (fs h 34)).isFun⟩
 d_done:=_8 (nm:=nmE) (fs h 34)
 g_law:=⟨.inl (fo h 89),(_8 (nm:=nmE) (fs h 35)).isFun⟩
 d_law:=_8 (nm:=nmE) (fs h 35)
 }⟩
theorem lawE{K:rT}(h:gF K=gE):nsIn K bK (ab "law")=some (some (.ref 433)):=(fo h 89)
theorem setE{c:Cx}(h:gF c.K=gE):tf c nmsE:=⟨_8 (nm:=nmE) (fs h 20)⟩
theorem xHasD{c:Cx}(h:gF c.K=gE):HasD c:=⟨.t (_M (fo h 90) (fo h 91) (_2 h 53))⟩
end Mine
set_option maxHeartbeats 8000000
namespace Mine
theorem _m2:RowW.promised PySem.Challenge.rw_pq0050_05.row.toRowW:=by w_witness2
theorem _m3{α β γ:Type}{o:Option α}{f:α->β}{g:α->γ}{a:β}{b:γ}(h:o.map f=some a)(k:o.map g=some b):o.map (λs=>(f s,g s))=some (a,b):=by
 cases o with
 | none=>cases h
 | some s=>cases h;cases k;rfl
theorem _m4:LeftO eR vw [] (λs=>xlAt vw [] s&&recOk (qN PySem.Challenge.rw_pq0050_05.row.toRowW) s) (g9 l6 gF gE).obs (g9 l6 gF gE).val 5608:=
 _m1 (by kernel_rfl) (by decide) (λs=>by kernel_rfl) λw os=>_m3 (_9X w os) (_fO w os)
theorem _m5:(defOf vw PySem.Challenge.rw_pq0050_05.row.name).map (λx=>some (x.1.params,x.1.body,x.1.scope))=some (PySem.Challenge.rw_pq0050_05.row.prog.theDef PySem.Challenge.rw_pq0050_05.row.name):=by kernel_rfl
theorem _m6:(defOf vw PySem.Challenge.rw_pq0050_05.row.name).map (λx=>(x.2,kwWritten? x.1.params.kwonlyargs x.1.params.kw_defaults))=some ([],some []):=by kernel_rfl
theorem holds8(h:∀d,d.name=PySem.Challenge.rw_pq0050_05.row.name->WalkO vw [] (XL vw []) (g9 l6 gF gE).says PySem.Challenge.rw_pq0050_05.row.toRowW d [] λf vs=>call f vs):PySem.Challenge.rw_pq0050_05.Holds:=by
 refine holds_law (by kernel_rfl) λsaid=>?_
 obtain⟨⟨d,kwd⟩,e,e2⟩:=bt.mp _m6
 obtain⟨rfl,e3⟩:=b6 e2
 have e4:=_m5
 rw[e] at e4
 exact holds_open (q:=vw) (loose:=[]) (Xt:=λs=>xlAt vw [] s&&recOk (qN PySem.Challenge.rw_pq0050_05.row.toRowW) s) (XP:=XL vw []) (Yf:=(g9 l6 gF gE).obs) (Ya:=(g9 l6 gF gE).val) (YP:=(g9 l6 gF gE).says) (N:=5608) _m4 (g9 l6 gF gE).of (g9 l6 gF gE).keeps (λs e=>xl_of s (ck.mp e).1) XL.keeps e (aB e4).symm e3 (λs e=>recFacts_of (ck.mp e).2) (by rfl) said (by decide +kernel) ⟨rfl,rfl,rfl,rfl,rfl,by decide +kernel⟩ _m2 (h _ (defOf_name e))
end Mine
theorem PySem.Challenge.cw_pq0050_05_holds : PySem.Challenge.rw_pq0050_05.Holds := by
 refine Mine.holds8 fun d hdn => ?_
 intro w s₀ s₁ mg mb G Y fa o pm cd doc dV kV ho hd hcd hD hmg hg args vals as hpre hlay hrd hwl hlo
 obtain ⟨K, KX, hF⟩ := Y
 refine Ground.open G ?_
 intro T B D TE TW
 wrow_args hpre hlay hrd hwl hlo
 rw [hdn] at hmg
 have hfa := hmg.symm.trans (mg_of KX T.g (n := Str.ofString "law") (v := .ref 433) (Mine.lawE hF))
 cases hfa
 clear ho hd hcd hD hmg G B D TE TW
 rename_i hns _ _ _ _ _ _ _ _ hL _ _ _ hI _ hle _
 refine Mine.law_ends (K := K) (d := 60) (by decide) KX (topRead_of T) (T.seer (by decide +kernel)) hL hI (fun hs => ?_) ?_
 ·exact Mine.call_law5 (N := Mine.nmsE) (L := Mine.ownE) (Mine.hasE hF).1 (Mine.hasE hF).2 (Mine.setE hF) (Mine.xHasD hF) hs (by (first | lia | omega)) (by decide)
 ·intro s' k ko kg
  exact GoodW.toG ⟨.inl ⟨.bool true, .bool true, [], rfl, fun cls => by first | rfl | kernel_rfl, .bool true, by first | kernel_rfl | (with_unfolding_all rfl) | (with_unfolding_all decide) | skip, fun _ => ⟨.nil, nofun⟩⟩, k, ko, kg.trans hg⟩
