import PyProof.Rows.All
import Wide.All
import OpenK.AllK
import Wide.FinOn
import Lean
import PySem.Challenge.RW_pq1083_01
open Array renaming length_toList → Bg4, getElem?_toList → Bi9, any_toList → Ce2, toList_append → Ci0
open Bool renaming and_eq_true → Bg0, false_ne_true → Bg5, not_eq_true' → Bm7, false_eq_true → Bp6, or_eq_true → Bv5, eq_iff_iff → Bv6, and_eq_true_iff → Ca5, or_false → Ce1, not_eq_true → Cl7, false_and → Co3, or_assoc → Cp4, and_true → Cp5
open Exists renaming elim → Bg2
open Function renaming comp → Bt0
open Int renaming natCast_nonneg → Bj9, ofNat_le → Bk8, ofNat_lt → Bn1, lt_of_lt_of_le → Bn9, le_trans → Bo7, not_lt → Bs4, le_add_of_nonneg_right → Bw5, not_le → Bx7, eq_ofNat_of_zero_le → By4, toNat_natCast → Bz5, lt_of_le_of_lt → Cc5, lt_irrefl → Cj8, add_sub_cancel → Cj9, lt_trans → Cl5, le_of_lt → Cl6, le_antisymm → Cn5, neg_le_neg → Cp0
open Int.ofNat renaming inj → Br9
open List renaming length_map → Be9, getElem?_eq_getElem → Bf0, length_append → Bf1, mem_singleton → Bf6, getElem?_eq_some_iff → Bf7, getElem?_map → Bf8, mem_of_getElem? → Bf9, map_append → Bg1, replicate → Bg7, map_cons → Bg8, mem_map → Bh1, length_cons → Bh3, append_nil → Bh4, mem_append → Bh6, mem_cons → Bh7, range → Bh8, mem_append_right → Bh9, mem_append_left → Bi0, map_map → Bi5, mem_map_of_mem → Bi7, append_assoc → Bj0, not_mem_nil → Bj1, drop_eq_getElem_cons → Bj2, map_congr_left → Bj5, all_eq_true → Bj7, getD_eq_getElem?_getD → Bj8, idxOf_lt_length_of_mem → Bk1, find?_cons → Bk2, mem_range → Bk6, length_range → Bk9, length_nil → Bl1, getElem_mem → Bl6, nodup_append → Bm5, flatten_cons → Bm6, replicate_succ → Bn2, lookup_cons → Bn3, length_take → Bn4, eq_of_mem_replicate → Bo0, length_singleton → Bo3, drop_zero → Bo8, length_drop → Bo9, size_toArray → Bp1, length → Bp5, filterMap_cons → Bq2, filterMap_eq_nil_iff → Bq3, map_nil → Bq4, headD_cons → Bq5, length_eq_zero_iff → Br1, idxOf_append → Br6, nodup_cons → Br7, cons_ne_nil → Bs2, dropLast_concat → Bs8, flatMap_cons → Bs9, mem_flatten → Bt7, ext_getElem → Bt8, take_of_length_le → Bu1, toArray → Bu8, length_replicate → Bu9, foldl_cons → Bv0, eq_nil_or_concat → Bv1, concat_eq_append → Bv2, getLast?_map → Bv8, all_cons → Bv9, getElem?_append_right → Bw3, pairwise_append → Bw4, getElem?_append_left → Bw6, cons_append → Bx0, any_eq_true → Bx1, drop_succ_cons → Bx3, mem_filterMap → Bx9, getElem?_replicate → By0, find?_eq_none → By1, range_succ_eq_map → By7, length_eq_one_iff → By8, replicate_append_replicate → By9, any_eq_false → Bz0, map → Bz4, drop_length → Bz8, mem_of_mem_drop → Ca3, getLast?_concat → Ca4, foldl → Cb0, nil_append → Cb2, idxOf_cons → Cb3, exists_cons_of_ne_nil → Cb9, mem_of_find?_eq_some → Cc3, drop_drop → Cc4, take_add_one → Cd2, reverse_cons → Cd3, getLast?_singleton → Cd9, any_cons → Ce0, take_length → Ce5, mem_reverse → Ce6, mem_flatMap → Ce7, flatMap_def → Ce8, drop_eq_nil_of_le → Cf4, sum_append → Cg0, mem_filter → Cg1, forIn_cons → Cg2, eq_replicate_iff → Cg3, drop → Cg4, mem_of_mem_take → Ch3, length_dropLast → Ch4, getLast?_append → Ch5, foldl_nil → Ch7, map_eq_nil_iff → Ci2, length_reverse → Ci3, getElem?_range → Ci4, sum_cons → Cj0, pairwise_cons → Cj1, map_replicate → Cj2, length_zipIdx → Cj3, getElem_range → Cj4, getElem_idxOf → Cj5, any_nil → Ck6, any_map → Ck7, map_snd_zip → Cl1, getElem_map → Cl2, flatten_nil → Cl3, filter_cons → Cl4, map_id → Cm9, any_append → Cn0, tail_cons → Cn8, nodup_nil → Cn9, forIn_nil → Co0, find?_map → Co1, drop_take → Co2, idxOf → Co9
open List.Perm renaming refl → Ck8
open List.cons renaming injEq → Bn0
open Nat renaming le_trans → Be7, add_le_add_left → Bf3, succ_le_succ → Bg3, lt_of_le_of_lt → Bg6, le_add_right → Bg9, lt_of_lt_of_le → Bh0, add_right_comm → Bh2, le_refl → Bh5, add_le_add_right → Bi3, zero_le → Bi4, le_of_ble_eq_true → Bi6, lt_trans → Bj3, mul_div_cancel_left → Bj6, le_succ_of_le → Bk0, le_of_lt → Bk4, zero_add → Bk7, le_of_succ_le → Bl7, ne_of_lt → Bl8, add_comm → Bl9, add_sub_cancel' → Bm0, le_of_eq → Bm2, min_le_right → Bm3, le_of_not_lt → Bm4, le_succ → Bm8, add_le_add → Bo4, mul_le_mul_left → Bp0, lt_succ_of_le → Bp2, succ_pos → Bp9, ne_of_gt → Bq0, le_add_left → Bq7, lt_succ_self → Br0, add_assoc → Br4, mul_comm → Br5, min_eq_left → Br8, min_le_left → Bt3, lt_succ_of_lt → Bt4, mul_succ → Bt5, lt_of_le_of_ne → Bu5, le_of_lt_succ → Bw2, succ_mul → Bx5, sub_le → Bx6, pos_of_ne_zero → By2, lt_add_of_pos_right → By3, pow_le_pow_right → Ca7, le_of_dvd → Ca9, max_le → Cd5, lt_of_succ_lt → Cd6, mul_assoc → Ce4, min_eq_right → Cf2, le_of_not_le → Cf3, succ_sub → Cg9, pos_of_dvd_of_pos → Ch0, sub_le_sub_right → Ch6, mul_le_mul → Ci1, sub_sub → Ci7, succ_min_succ → Ck5, pow_succ → Cl0, one_le_of_lt → Cm5, lt_of_not_le → Cm6, not_lt_zero → Cn2, le_antisymm → Cn3, div_pos → Cn4, not_lt → Cp3
open Nat.succ renaming inj → Ca8
open Ne renaming symm → Bq1
open Option renaming map_some → Bl5, getD_some → Bm1, map_eq_some_iff → Bn6, bind_eq_some_iff → Bx4, getD_none → Bz6, some_or → Cm8
open Option.some renaming inj → Bq9, injEq → Bs1
open Prod renaming fst → Cp2
open Prod.mk renaming injEq → Bu7
open PyProof.Rows renaming seqObj → Bx2, slot_tuple_getitem → Cd7, tail_any → Cm0, get?_update_seq → Cq0
open PySem renaming wpAny_bind → Be8, wpAny_mono → Bf2, wpAny_pure → Bf5, Builtin → Bi8, starEach → Bk5, wpAny_holding → Bl0, mainGlobals → Bl3, letOwnedTupleGo → Bl4, sizeLine_eq → Bn5, wpAny_newObj_type → Bn8, wpAny_standAt → Bo2, foldedSetIterable → Bo6, wpAny_loadPart_at → Bp3, codeAny_mono → Bp4, behindInMarks → Bq8, wpAny_call_entry → Br2, wpAny_truthy_bool → Bs0, bootBuiltins → Bs7, wpAny_field → Bt1, wpAny_isSubtype_exc → Bu2, wpAny_callSpecial?_slot → Bu3, slot_dict_contains → Bv7, wpAny_Call_ofName → Bw8, call_meets → Bw9, backTo → By5, wpAny_ite_false → Bz1, plainObj_wpAny_Assign_Attribute → Ca1, assignEach → Ca2, wpAny_loadPart → Ca6, wpAny_execs_cons → Cb5, standAt → Cb6, codeAny → Cb7, concat_meets → Cb8, wpAny_Name → Cc1, wpAny_specialOf → Cc7, swapsWith → Cc8, codeAny_of_tree → Cc9, cellsFrom → Cd0, wpAny_setField → Ce3, wpAny_pyIter_enum → Cf5, reduceHash → Cf6, cameBackBy → Cf7, builtinsNs → Cf8, wpAny_of_eq → Cg7, wpAny_updatePart → Ch1, wpAny_askSetting → Ch2, wpAny_call → Ci8, sysModules → Ci9, codeAny_call_builtin → Cj6, wpAny_seqItems → Ck0, refuseLoop_ref → Ck1, keywordEach → Ck2, excClassObj → Ck3, evalEachOpt → Ck4, wpAny_pyIter_range → Cl8, wpAny_Constant_int → Cl9, swappedStores → Cm1, noteFrame → Cm2, eqIsQuiet → Cm3, slot_list_getitem → Cn1, wpAny_mkText → Cn6, rawInt → Cn7, wpAny_items_cons → Co4, noFill_tuple_add → Co5, checkBuiltinCall → Co6, beq_builtin_none → Co7, wpAny_execs_nil → Cp6, theTreesLotGoes → Cp7, seqIndex? → Cp8, pushCells → Cp9
open PySem.Around renaming frames_deeper → Cg6
open PySem.Builtin.List renaming listFitsIndex → Bu0
open PySem.Builtin.ObjectAttr renaming storeInOwnDict → Bu6
open PySem.Builtin.Range renaming rangeSize → Cb1
open PySem.Builtin.Slice renaming slicePlaces → Bu4, sliceAdjust → Bz7
open PySem.Builtin.SmallTypes renaming nextOf → Bt6
open PySem.Builtin.Str renaming occurrences → Bo1, partsBetween → Bs3, strKind → Bs6
open PySem.Builtin.Tuple renaming tupleHashOf → Bo5, tupleExact → Bv4
open PySem.Calls renaming evalArgs_plain → Ca0, callWith_builtin → Cf1
open PySem.Challenge renaming rw_pq1083_01 → Bm9
open PySem.DictEntry renaming refKey → Cc6
open PySem.Env renaming kindOf → Bx8
open PySem.F renaming excBase_Exception → Bw1, slot_tuple_iterator_next → Bw7, args_tuple_add_2 → Cc0, entry_tuple_add → Cd1, slot_tuple_add → Cd4, slot_tuple_hash → Ce9, plainAttrs_list → Cf0, slot_tuple_mul → Cg5, slot_int_rmul → Ch8, slot_dict_get → Ch9, plainAttrs_dict → Cm7, slot_list_pop → Cp1
open PySem.Heap renaming get?_push_size → Bi1, get?_push_of_some → Bi2, get?_update_other → Bj4, get?_update_self → Bk3, lt_size → Bl2, get?_none_of_le → Bn7, SameBut → Bq6, size_push → Bt9, get?_push_ne → Bw0, size_update → Bz9, get?_update_ne → Cb4
open PySem.Heap.SameBut renaming update → Bv3
open PySem.IsRange renaming new → Cq1
open PySem.Obj renaming putNameByArray → Bp7, putName → Bp8, mapFields → Br3, putName_eq → Bs5, mapSeq → Bt2, data_mapFields → Cc2, isFreed_of_fields → Cg8, dropName → Ck9
open PySem.SeqAt renaming EqAt → By6, RcNeAt → Cf9, RcAt → Cj7
open PySem.Str renaming ofString → Bf4
open PySem.Value renaming isStrOf → Ci6
open PySem.W renaming kas_sort → Bz3, looks_findIn → Cd8, boot_heap → Ci5, lookIn → Cm4
open PySem.W.Looks renaming of_pure → Co8
open PySem PySem.W PyProof.Rows
set_option Elab.async false
set_option maxRecDepth 100000
set_option maxHeartbeats 4000000
set_option linter.all false
set_option tactic.hygienic false
set_option backward.match.sparseCases false
set_option compiler.extract_closed false
set_option bootstrap.genMatcherCode false
set_option genSizeOf false
namespace Mine.Internal
universe u0 u1 u2 u3 u4 u5 u6 u7
theorem El02 {p0 p1 C:Prop} (h:p0/\p1) (f:p0->p1->C):C:=f  h.1 h.2
theorem El11 {α0:Sort u0} {p0:α0->Prop} {C:Prop} (h:∃ x0,p0 x0) (f:∀ x0,p0 x0->C):C:=Bg2 h fun x0 h=>f x0 h
theorem El03 {p0 p1 p2 C:Prop} (h:p0/\p1/\p2) (f:p0->p1->p2->C):C:=f  h.1 h.2.1 h.2.2
theorem El12 {α0:Sort u0} {p0 p1:α0->Prop} {C:Prop} (h:∃ x0,p0 x0/\p1 x0) (f:∀ x0,p0 x0->p1 x0->C):C:=Bg2 h fun x0 h=>f x0 h.1 h.2
theorem El21 {α0:Sort u0} {α1:Sort u1} {p0:α0->α1->Prop} {C:Prop} (h:∃ x0 x1,p0 x0 x1) (f:∀ x0 x1,p0 x0 x1->C):C:=Bg2 h fun x0 h=>Bg2 h fun x1 h=>f x0 x1 h
theorem El04 {p0 p1 p2 p3 C:Prop} (h:p0/\p1/\p2/\p3) (f:p0->p1->p2->p3->C):C:=f  h.1 h.2.1 h.2.2.1 h.2.2.2
theorem El13 {α0:Sort u0} {p0 p1 p2:α0->Prop} {C:Prop} (h:∃ x0,p0 x0/\p1 x0/\p2 x0) (f:∀ x0,p0 x0->p1 x0->p2 x0->C):C:=Bg2 h fun x0 h=>f x0 h.1 h.2.1 h.2.2
theorem El22 {α0:Sort u0} {α1:Sort u1} {p0 p1:α0->α1->Prop} {C:Prop} (h:∃ x0 x1,p0 x0 x1/\p1 x0 x1) (f:∀ x0 x1,p0 x0 x1->p1 x0 x1->C):C:=Bg2 h fun x0 h=>Bg2 h fun x1 h=>f x0 x1 h.1 h.2
theorem El31 {α0:Sort u0} {α1:Sort u1} {α2:Sort u2} {p0:α0->α1->α2->Prop} {C:Prop} (h:∃ x0 x1 x2,p0 x0 x1 x2) (f:∀ x0 x1 x2,p0 x0 x1 x2->C):C:=Bg2 h fun x0 h=>Bg2 h fun x1 h=>Bg2 h fun x2 h=>f x0 x1 x2 h
theorem El05 {p0 p1 p2 p3 p4 C:Prop} (h:p0/\p1/\p2/\p3/\p4) (f:p0->p1->p2->p3->p4->C):C:=f  h.1 h.2.1 h.2.2.1 h.2.2.2.1 h.2.2.2.2
theorem El14 {α0:Sort u0} {p0 p1 p2 p3:α0->Prop} {C:Prop} (h:∃ x0,p0 x0/\p1 x0/\p2 x0/\p3 x0) (f:∀ x0,p0 x0->p1 x0->p2 x0->p3 x0->C):C:=Bg2 h fun x0 h=>f x0 h.1 h.2.1 h.2.2.1 h.2.2.2
theorem El23 {α0:Sort u0} {α1:Sort u1} {p0 p1 p2:α0->α1->Prop} {C:Prop} (h:∃ x0 x1,p0 x0 x1/\p1 x0 x1/\p2 x0 x1) (f:∀ x0 x1,p0 x0 x1->p1 x0 x1->p2 x0 x1->C):C:=Bg2 h fun x0 h=>Bg2 h fun x1 h=>f x0 x1 h.1 h.2.1 h.2.2
theorem El32 {α0:Sort u0} {α1:Sort u1} {α2:Sort u2} {p0 p1:α0->α1->α2->Prop} {C:Prop} (h:∃ x0 x1 x2,p0 x0 x1 x2/\p1 x0 x1 x2) (f:∀ x0 x1 x2,p0 x0 x1 x2->p1 x0 x1 x2->C):C:=Bg2 h fun x0 h=>Bg2 h fun x1 h=>Bg2 h fun x2 h=>f x0 x1 x2 h.1 h.2
theorem El41 {α0:Sort u0} {α1:Sort u1} {α2:Sort u2} {α3:Sort u3} {p0:α0->α1->α2->α3->Prop} {C:Prop} (h:∃ x0 x1 x2 x3,p0 x0 x1 x2 x3) (f:∀ x0 x1 x2 x3,p0 x0 x1 x2 x3->C):C:=Bg2 h fun x0 h=>Bg2 h fun x1 h=>Bg2 h fun x2 h=>Bg2 h fun x3 h=>f x0 x1 x2 x3 h
theorem El06 {p0 p1 p2 p3 p4 p5 C:Prop} (h:p0/\p1/\p2/\p3/\p4/\p5) (f:p0->p1->p2->p3->p4->p5->C):C:=f  h.1 h.2.1 h.2.2.1 h.2.2.2.1 h.2.2.2.2.1 h.2.2.2.2.2
theorem El15 {α0:Sort u0} {p0 p1 p2 p3 p4:α0->Prop} {C:Prop} (h:∃ x0,p0 x0/\p1 x0/\p2 x0/\p3 x0/\p4 x0) (f:∀ x0,p0 x0->p1 x0->p2 x0->p3 x0->p4 x0->C):C:=Bg2 h fun x0 h=>f x0 h.1 h.2.1 h.2.2.1 h.2.2.2.1 h.2.2.2.2
theorem El24 {α0:Sort u0} {α1:Sort u1} {p0 p1 p2 p3:α0->α1->Prop} {C:Prop} (h:∃ x0 x1,p0 x0 x1/\p1 x0 x1/\p2 x0 x1/\p3 x0 x1) (f:∀ x0 x1,p0 x0 x1->p1 x0 x1->p2 x0 x1->p3 x0 x1->C):C:=Bg2 h fun x0 h=>Bg2 h fun x1 h=>f x0 x1 h.1 h.2.1 h.2.2.1 h.2.2.2
theorem El33 {α0:Sort u0} {α1:Sort u1} {α2:Sort u2} {p0 p1 p2:α0->α1->α2->Prop} {C:Prop} (h:∃ x0 x1 x2,p0 x0 x1 x2/\p1 x0 x1 x2/\p2 x0 x1 x2) (f:∀ x0 x1 x2,p0 x0 x1 x2->p1 x0 x1 x2->p2 x0 x1 x2->C):C:=Bg2 h fun x0 h=>Bg2 h fun x1 h=>Bg2 h fun x2 h=>f x0 x1 x2 h.1 h.2.1 h.2.2
theorem El42 {α0:Sort u0} {α1:Sort u1} {α2:Sort u2} {α3:Sort u3} {p0 p1:α0->α1->α2->α3->Prop} {C:Prop} (h:∃ x0 x1 x2 x3,p0 x0 x1 x2 x3/\p1 x0 x1 x2 x3) (f:∀ x0 x1 x2 x3,p0 x0 x1 x2 x3->p1 x0 x1 x2 x3->C):C:=Bg2 h fun x0 h=>Bg2 h fun x1 h=>Bg2 h fun x2 h=>Bg2 h fun x3 h=>f x0 x1 x2 x3 h.1 h.2
theorem El51 {α0:Sort u0} {α1:Sort u1} {α2:Sort u2} {α3:Sort u3} {α4:Sort u4} {p0:α0->α1->α2->α3->α4->Prop} {C:Prop} (h:∃ x0 x1 x2 x3 x4,p0 x0 x1 x2 x3 x4) (f:∀ x0 x1 x2 x3 x4,p0 x0 x1 x2 x3 x4->C):C:=Bg2 h fun x0 h=>Bg2 h fun x1 h=>Bg2 h fun x2 h=>Bg2 h fun x3 h=>Bg2 h fun x4 h=>f x0 x1 x2 x3 x4 h
theorem El07 {p0 p1 p2 p3 p4 p5 p6 C:Prop} (h:p0/\p1/\p2/\p3/\p4/\p5/\p6) (f:p0->p1->p2->p3->p4->p5->p6->C):C:=f  h.1 h.2.1 h.2.2.1 h.2.2.2.1 h.2.2.2.2.1 h.2.2.2.2.2.1 h.2.2.2.2.2.2
theorem El16 {α0:Sort u0} {p0 p1 p2 p3 p4 p5:α0->Prop} {C:Prop} (h:∃ x0,p0 x0/\p1 x0/\p2 x0/\p3 x0/\p4 x0/\p5 x0) (f:∀ x0,p0 x0->p1 x0->p2 x0->p3 x0->p4 x0->p5 x0->C):C:=Bg2 h fun x0 h=>f x0 h.1 h.2.1 h.2.2.1 h.2.2.2.1 h.2.2.2.2.1 h.2.2.2.2.2
theorem El25 {α0:Sort u0} {α1:Sort u1} {p0 p1 p2 p3 p4:α0->α1->Prop} {C:Prop} (h:∃ x0 x1,p0 x0 x1/\p1 x0 x1/\p2 x0 x1/\p3 x0 x1/\p4 x0 x1) (f:∀ x0 x1,p0 x0 x1->p1 x0 x1->p2 x0 x1->p3 x0 x1->p4 x0 x1->C):C:=Bg2 h fun x0 h=>Bg2 h fun x1 h=>f x0 x1 h.1 h.2.1 h.2.2.1 h.2.2.2.1 h.2.2.2.2
theorem El34 {α0:Sort u0} {α1:Sort u1} {α2:Sort u2} {p0 p1 p2 p3:α0->α1->α2->Prop} {C:Prop} (h:∃ x0 x1 x2,p0 x0 x1 x2/\p1 x0 x1 x2/\p2 x0 x1 x2/\p3 x0 x1 x2) (f:∀ x0 x1 x2,p0 x0 x1 x2->p1 x0 x1 x2->p2 x0 x1 x2->p3 x0 x1 x2->C):C:=Bg2 h fun x0 h=>Bg2 h fun x1 h=>Bg2 h fun x2 h=>f x0 x1 x2 h.1 h.2.1 h.2.2.1 h.2.2.2
theorem El43 {α0:Sort u0} {α1:Sort u1} {α2:Sort u2} {α3:Sort u3} {p0 p1 p2:α0->α1->α2->α3->Prop} {C:Prop} (h:∃ x0 x1 x2 x3,p0 x0 x1 x2 x3/\p1 x0 x1 x2 x3/\p2 x0 x1 x2 x3) (f:∀ x0 x1 x2 x3,p0 x0 x1 x2 x3->p1 x0 x1 x2 x3->p2 x0 x1 x2 x3->C):C:=Bg2 h fun x0 h=>Bg2 h fun x1 h=>Bg2 h fun x2 h=>Bg2 h fun x3 h=>f x0 x1 x2 x3 h.1 h.2.1 h.2.2
theorem El52 {α0:Sort u0} {α1:Sort u1} {α2:Sort u2} {α3:Sort u3} {α4:Sort u4} {p0 p1:α0->α1->α2->α3->α4->Prop} {C:Prop} (h:∃ x0 x1 x2 x3 x4,p0 x0 x1 x2 x3 x4/\p1 x0 x1 x2 x3 x4) (f:∀ x0 x1 x2 x3 x4,p0 x0 x1 x2 x3 x4->p1 x0 x1 x2 x3 x4->C):C:=Bg2 h fun x0 h=>Bg2 h fun x1 h=>Bg2 h fun x2 h=>Bg2 h fun x3 h=>Bg2 h fun x4 h=>f x0 x1 x2 x3 x4 h.1 h.2
theorem El61 {α0:Sort u0} {α1:Sort u1} {α2:Sort u2} {α3:Sort u3} {α4:Sort u4} {α5:Sort u5} {p0:α0->α1->α2->α3->α4->α5->Prop} {C:Prop} (h:∃ x0 x1 x2 x3 x4 x5,p0 x0 x1 x2 x3 x4 x5) (f:∀ x0 x1 x2 x3 x4 x5,p0 x0 x1 x2 x3 x4 x5->C):C:=Bg2 h fun x0 h=>Bg2 h fun x1 h=>Bg2 h fun x2 h=>Bg2 h fun x3 h=>Bg2 h fun x4 h=>Bg2 h fun x5 h=>f x0 x1 x2 x3 x4 x5 h
theorem El08 {p0 p1 p2 p3 p4 p5 p6 p7 C:Prop} (h:p0/\p1/\p2/\p3/\p4/\p5/\p6/\p7) (f:p0->p1->p2->p3->p4->p5->p6->p7->C):C:=f  h.1 h.2.1 h.2.2.1 h.2.2.2.1 h.2.2.2.2.1 h.2.2.2.2.2.1 h.2.2.2.2.2.2.1 h.2.2.2.2.2.2.2
theorem El17 {α0:Sort u0} {p0 p1 p2 p3 p4 p5 p6:α0->Prop} {C:Prop} (h:∃ x0,p0 x0/\p1 x0/\p2 x0/\p3 x0/\p4 x0/\p5 x0/\p6 x0) (f:∀ x0,p0 x0->p1 x0->p2 x0->p3 x0->p4 x0->p5 x0->p6 x0->C):C:=Bg2 h fun x0 h=>f x0 h.1 h.2.1 h.2.2.1 h.2.2.2.1 h.2.2.2.2.1 h.2.2.2.2.2.1 h.2.2.2.2.2.2
theorem El26 {α0:Sort u0} {α1:Sort u1} {p0 p1 p2 p3 p4 p5:α0->α1->Prop} {C:Prop} (h:∃ x0 x1,p0 x0 x1/\p1 x0 x1/\p2 x0 x1/\p3 x0 x1/\p4 x0 x1/\p5 x0 x1) (f:∀ x0 x1,p0 x0 x1->p1 x0 x1->p2 x0 x1->p3 x0 x1->p4 x0 x1->p5 x0 x1->C):C:=Bg2 h fun x0 h=>Bg2 h fun x1 h=>f x0 x1 h.1 h.2.1 h.2.2.1 h.2.2.2.1 h.2.2.2.2.1 h.2.2.2.2.2
theorem El35 {α0:Sort u0} {α1:Sort u1} {α2:Sort u2} {p0 p1 p2 p3 p4:α0->α1->α2->Prop} {C:Prop} (h:∃ x0 x1 x2,p0 x0 x1 x2/\p1 x0 x1 x2/\p2 x0 x1 x2/\p3 x0 x1 x2/\p4 x0 x1 x2) (f:∀ x0 x1 x2,p0 x0 x1 x2->p1 x0 x1 x2->p2 x0 x1 x2->p3 x0 x1 x2->p4 x0 x1 x2->C):C:=Bg2 h fun x0 h=>Bg2 h fun x1 h=>Bg2 h fun x2 h=>f x0 x1 x2 h.1 h.2.1 h.2.2.1 h.2.2.2.1 h.2.2.2.2
theorem El44 {α0:Sort u0} {α1:Sort u1} {α2:Sort u2} {α3:Sort u3} {p0 p1 p2 p3:α0->α1->α2->α3->Prop} {C:Prop} (h:∃ x0 x1 x2 x3,p0 x0 x1 x2 x3/\p1 x0 x1 x2 x3/\p2 x0 x1 x2 x3/\p3 x0 x1 x2 x3) (f:∀ x0 x1 x2 x3,p0 x0 x1 x2 x3->p1 x0 x1 x2 x3->p2 x0 x1 x2 x3->p3 x0 x1 x2 x3->C):C:=Bg2 h fun x0 h=>Bg2 h fun x1 h=>Bg2 h fun x2 h=>Bg2 h fun x3 h=>f x0 x1 x2 x3 h.1 h.2.1 h.2.2.1 h.2.2.2
theorem El53 {α0:Sort u0} {α1:Sort u1} {α2:Sort u2} {α3:Sort u3} {α4:Sort u4} {p0 p1 p2:α0->α1->α2->α3->α4->Prop} {C:Prop} (h:∃ x0 x1 x2 x3 x4,p0 x0 x1 x2 x3 x4/\p1 x0 x1 x2 x3 x4/\p2 x0 x1 x2 x3 x4) (f:∀ x0 x1 x2 x3 x4,p0 x0 x1 x2 x3 x4->p1 x0 x1 x2 x3 x4->p2 x0 x1 x2 x3 x4->C):C:=Bg2 h fun x0 h=>Bg2 h fun x1 h=>Bg2 h fun x2 h=>Bg2 h fun x3 h=>Bg2 h fun x4 h=>f x0 x1 x2 x3 x4 h.1 h.2.1 h.2.2
theorem El62 {α0:Sort u0} {α1:Sort u1} {α2:Sort u2} {α3:Sort u3} {α4:Sort u4} {α5:Sort u5} {p0 p1:α0->α1->α2->α3->α4->α5->Prop} {C:Prop} (h:∃ x0 x1 x2 x3 x4 x5,p0 x0 x1 x2 x3 x4 x5/\p1 x0 x1 x2 x3 x4 x5) (f:∀ x0 x1 x2 x3 x4 x5,p0 x0 x1 x2 x3 x4 x5->p1 x0 x1 x2 x3 x4 x5->C):C:=Bg2 h fun x0 h=>Bg2 h fun x1 h=>Bg2 h fun x2 h=>Bg2 h fun x3 h=>Bg2 h fun x4 h=>Bg2 h fun x5 h=>f x0 x1 x2 x3 x4 x5 h.1 h.2
theorem El71 {α0:Sort u0} {α1:Sort u1} {α2:Sort u2} {α3:Sort u3} {α4:Sort u4} {α5:Sort u5} {α6:Sort u6} {p0:α0->α1->α2->α3->α4->α5->α6->Prop} {C:Prop} (h:∃ x0 x1 x2 x3 x4 x5 x6,p0 x0 x1 x2 x3 x4 x5 x6) (f:∀ x0 x1 x2 x3 x4 x5 x6,p0 x0 x1 x2 x3 x4 x5 x6->C):C:=Bg2 h fun x0 h=>Bg2 h fun x1 h=>Bg2 h fun x2 h=>Bg2 h fun x3 h=>Bg2 h fun x4 h=>Bg2 h fun x5 h=>Bg2 h fun x6 h=>f x0 x1 x2 x3 x4 x5 x6 h
open Lean in
local macro_rules
 | `(tactic| obtain ⟨$ps,*⟩ := $e:term) => do
  let ps := ps.getElems
  let n := ps.size
  let h := mkIdent `hq
  if n < 2 then Macro.throwUnsupported
  let mut ways : Array (TSyntax ``Lean.Parser.Tactic.tacticSeq) := #[]
  let med (p : Syntax) : MacroM (Array (TSyntax `tactic)) := do
   let m := p[0]
   if m[0].getNumArgs == 1 && m[0][0].isOfKind ``Lean.Parser.Tactic.rcasesPat.one then
    let x : Ident := ⟨m[0][0][0]⟩
    return #[<- `(tactic| intro $x:ident)]
   if m[0].getNumArgs == 1 && m[0][0].isOfKind ``Lean.Parser.Tactic.rcasesPat.ignore then return #[<- `(tactic| intro _)]
   let q : TSyntax ``Lean.Parser.Tactic.rcasesPatMed := ⟨m⟩
   return #[<- `(tactic| intro $h:ident), <- `(tactic| obtain $q:rcasesPatMed := $h)]
  for j in [0:n-1] do
   let t := n - j
   if t > 8 then continue
   let alts <- (Bh8 t).toArray.mapM fun k => do
    let c := mkIdent (Name.mkSimple s!"El{k}{t-k}")
    `(tacticSeq| refine $c $e ?_)
   let mut body : Array (TSyntax `tactic) := #[]
   if e.raw.isIdent then
    let x : Ident := ⟨e.raw⟩
    body := body.push (<- `(tactic| try clear $x))
   if t == n then
    for p in ps do body := body ++ (<- med p.raw)
   else
    for p in ps[:t-1] do body := body ++ (<- med p.raw)
    let qs : Syntax.TSepArray `Lean.Parser.Tactic.rcasesPatLo "," := .ofElems (ps[t-1:].toArray.map fun p => ⟨p.raw⟩)
    body := (body.push (<- `(tactic| intro $h:ident))).push (<- `(tactic| obtain ⟨$qs,*⟩ := $h))
   ways := ways.push (<- `(tacticSeq| (first $[| $alts]*); $[$body]*))
  let qs : Syntax.TSepArray `Lean.Parser.Tactic.rcasesPatLo "," := .ofElems (ps.map fun p => ⟨p.raw⟩)
  ways := ways.push (<- `(tacticSeq| rcases $e:term with ⟨$qs,*⟩))
  `(tactic| first $[| $ways]*)
open Lean in
local macro_rules
 | `(tactic| rintro $ps*) => do
  let mut body : Array (TSyntax `tactic) := #[]
  let h := mkIdent `hq
  for p in ps do
   unless p.raw.isOfKind ``Lean.Parser.Tactic.rintroPat.one do Macro.throwUnsupported
   let q := p.raw[0]
   if q.isOfKind ``Lean.Parser.Tactic.rcasesPat.one then
    let x : Ident := ⟨q[0]⟩
    body := body.push (<- `(tactic| intro $x:ident))
   else if q.isOfKind ``Lean.Parser.Tactic.rcasesPat.ignore then body := body.push (<- `(tactic| intro _))
   else if q.isOfKind ``Lean.Parser.Tactic.rcasesPat.tuple then
    if (q.find? fun s => s.isOfKind ``Lean.Parser.Tactic.rcasesPatMed && s[0].getNumArgs > 1).isSome then Macro.throwUnsupported
    let m : TSyntax ``Lean.Parser.Tactic.rcasesPatMed := ⟨.node .none ``Lean.Parser.Tactic.rcasesPatMed #[.node .none `null #[q]]⟩
    body := (body.push (<- `(tactic| intro $h:ident))).push (<- `(tactic| obtain $m:rcasesPatMed := $h))
   else Macro.throwUnsupported
  `(tactic| ($[$body]*))
@[elab_as_elim] theorem rwg {α:Sort u0} {a b:α} {p:α->Prop} (h:a=b) (x:p b):p a:=h ▸ x
@[elab_as_elim] theorem rwh {α:Sort u0} {a b:α} {p:α->Prop} (h:b=a) (x:p b):p a:=h ▸ x
open Lean in
local macro_rules
 | `(tactic| rw [$rs,*]) => do
  let mut body : Array (TSyntax `tactic) := #[]
  for r in rs.getElems do
   if (r.raw.find? fun s => [``Lean.Parser.Term.syntheticHole, ``Lean.Parser.Term.fun, ``Lean.Parser.Term.byTactic, ``Lean.Parser.Term.anonymousCtor, ``Lean.Parser.Term.show, ``Lean.Parser.Term.namedArgument].contains s.getKind).isSome then
    body := body.push (<- `(tactic| rewrite [$r]))
    continue
   match r with
   | `(Lean.Parser.Tactic.rwRule| <- $e:term) => body := body.push (<- `(tactic| first | ((fail_if_success (fail_if_success rewrite [$r])); with_reducible_and_instances refine rwh ($e ..) ?_) | rewrite [$r]))
   | `(Lean.Parser.Tactic.rwRule| $e:term) => body := body.push (<- `(tactic| first | ((fail_if_success (fail_if_success rewrite [$r])); with_reducible_and_instances refine rwg ($e ..) ?_) | rewrite [$r]))
   | _ => Macro.throwUnsupported
  `(tactic| ($[$body]*; try with_reducible rfl))
open Lean in
local macro_rules
 | `(tactic| cases $h:ident) => do
  let a := mkIdent `hq
  let b := mkIdent `hr
  let c := mkIdent `hs
  `(tactic| first
   | (guard_hyp $h : _ = _; first
    | subst $h
    | (focus (injection $h; done))
    | (injection $h with $a $b $c; cases $a:ident; cases $b:ident; cases $c:ident)
    | (injection $h with $a $b; cases $a:ident; cases $b:ident)
    | (injection $h with $a; cases $a:ident))
   | cases ($h))
@[elab_as_elim] theorem gz {α:Sort u} {p:α->Prop} (a:α) (h:∀ x,p x):p a:=h a
@[elab_as_elim] theorem gze {α:Sort u} {p:α->Prop} (a:α) (h:∀ x,a=x->p x):p a:=h a rfl
theorem r2 {x l p:Nat} (h:l<=p):x - l - (p + 1 - l)=x - (p + 1):=by rw [Ci7,Bm0 (Bk0 h)]
theorem r3 {x l h t:Nat} (a:x<=t) (b:x < h + 1) (c:¬ x < l):x - (l - 0) < min h t + 1 - l:=Nat.sub_lt_sub_right (Bm4 c) (Bp2 (Nat.le_min.mpr ⟨Bw2 b,a⟩))
theorem r4 {a b c d:Nat} (e:c=a - d) (n:d≠a) (h:d<=a) (g:d + 1<=b):a - b < c:=e ▸ Nat.sub_lt_sub_left (Bu5 h n) g
theorem r5 {p l e:Nat} (h:p + 1<=e) (g:l<=p):p + 1 - l + (e - (p + 1))=e - l:=(Bl9 ..).trans (Nat.sub_add_sub_cancel h (Bk0 g))
theorem r6 {x l a:Nat} (h:x < l) (g:¬ x < a):x - (a - 0) < l - 1 + 1 - a:=by rw [Nat.sub_add_cancel (Cm5 h)]; exact Nat.sub_lt_sub_right (Bm4 g) h
theorem r7 {a b c d:Nat} (h:b<=d) (g:d < a) (e:d + 1 - b=c + 1):a + 1 - b=c + 1 + (a - d):=by
 rw [<- e,<- Nat.sub_add_comm (Bk0 h),Nat.succ_add,Bm0 (Bk4 g)]
theorem r8 {a b c d:Nat} (h:b<=a) (n:¬ a=d) (m:¬ a < d) (e:d + 1 - b=c + 1):a + 1 - b=c + 1 + (a - d):=by
 have g:d<=a:=Bm4 m
 cases Nat.lt_or_ge d b with
 | inl q=>rw [Nat.sub_eq_zero_of_le q] at e; cases e
 | inr q=>rw [<- e,<- Nat.sub_add_comm (Bk0 q),Nat.succ_add,Bm0 g]
theorem r9 {x:Nat}:x - 1=Int.toNat ((x:Int) - 1):=by
 cases x with
 | zero=>rfl
 | succ n=>rw [Int.natCast_add]; exact (congrArg Int.toNat (Cj9 (n:Int) 1)).symm
theorem r10 {a b:Nat} (h:b + 1<=a):4 - a<=3 - b:=Be7 (Nat.sub_le_sub_left h 4) (Bm2 (Nat.succ_sub_succ 3 b))
theorem r11 {a b c:Nat} (e:min a b=c):c<=b:=e ▸ Bm3 ..
theorem r12 {a b c:Nat} (e:min a b=c):c<=a:=e ▸ Bt3 ..
theorem r15 {a b:Nat}:min (a:Int) b=((min a b:Nat):Int):=by
 cases Nat.le_total a b with
 | inl h=>rw [Br8 h,Int.min_eq_left (Bk8.mpr h)]
 | inr h=>rw [Cf2 h,Int.min_eq_right (Bk8.mpr h)]
theorem r17 {x a t:Nat} (h:a<=t) (g:x<=t):x - (a - 0) < t + 1 - a:=Bg6 (Ch6 g a) (by rw [Cg9 h]; exact Br0 _)
theorem r19 {a b c:Nat} (h:¬ min (a:Int) b<=(c:Int)):c + 1<=b:=Bn1.mp (Bn9 (Bx7.mp h) (Int.min_le_right ..))
theorem r20 {a b c:Nat} (h:¬ min (a:Int) b<=(c:Int)):c + 1<=a:=Bn1.mp (Bn9 (Bx7.mp h) (Int.min_le_left ..))
theorem r21 {a b c:Nat} (h:min (a:Int) b<=(c:Int)):min a b<=c:=Bk8.mp (r15 ▸ h)
theorem r22 {a b:Nat}:a * b + a - a * b=a:=Nat.add_sub_cancel_left ..
theorem r24 {a b c:Nat} (h:b<=c) (e:c + 1=a):a + 1 - b=c + 1 - b + 1:=e ▸ Cg9 (Bk0 h)
theorem r25 {a b c:Nat} (h:a<=b) (g:b < c):a + (min (b + 1) c - a - 1)=b:=by
 rw [Br8 g,Ci7,Bl9 a 1,<- Ci7,Nat.succ_sub_one,Bm0 h]
theorem r27 {a b:Nat} (e:b=3) (h:a<=b) (n:¬ a=b):4 - a=Nat.succ (3 - a):=Cg9 (Be7 h (Bm2 e))
theorem r28 {a b c:Nat} (e:c + 1 - a=b + 1):a + b + 1=c + 1:=by
 rw [Br4,<- e]; exact Bm0 (Bk4 (Nat.lt_of_sub_pos (e ▸ Bp9 b)))
theorem r29 {a b c d:Nat} (h:a + 1<=d + (c + 1)) (g:d + 1<=b):a + 1<=b + c:=Be7 h (Be7 (Bm2 (Bh2 d 1 c).symm) (Bi3 g c))
theorem r30 {a:Nat}:(-1000000:Int)<=(a:Int):=Bo7 (by decide) (Bj9 a)
theorem r31 {a b:Nat} (h:b<=a):a + 1 - b=a - b + 1:=Cg9 h
theorem r32 {a b:Nat} (h:b < a):a - 1 < a:=Nat.sub_lt (Bg6 (Bi4 _) h) (by decide)
theorem r33 {a b:Nat} (h:a < b):a<=b - 1:=Nat.le_sub_one_of_lt h
theorem r35 {a:Nat}:4 - a<=4:=Bx6 ..
theorem r36 {a b:Nat} (h:b<=3) (g:a<=11 * b):a<=100:=Be7 g (Be7 (Bp0 11 h) (by decide))
theorem r38 {a b k:Nat} (h:a<=b) (g:b<=k):a<=k:=Be7 h g
theorem r40 {a b k:Nat} (h:a<=b) (g:b < k):a < k:=Bg6 h g
theorem r41 {a b:Nat} (h:a + 1<=b):a<=b:=Bl7 h
theorem r42 {a b c:Nat} (h:a<=b):a<=b + c:=Be7 h (Bg9 ..)
theorem r43 {a b c:Nat} (h:a<=c):a<=b + c:=Be7 h (Bq7 ..)
theorem r46 {a b n:Nat} (h:a < b) (e:n=b):a < n:=e ▸ h
theorem r48 {a b n:Nat} (h:a<=b) (e:n=b):a<=n:=e ▸ h
theorem r50 {a b:Nat} (h:a < b):¬ b=a:=Bq0 h
theorem r52 {a b:Nat} (h:¬ a<=b):b < a:=Cm6 h
theorem r53 {a b:Nat} (h:a<=b) (n:¬ a=b):a < b:=Bu5 h n
theorem r54 {a b:Nat} (h:a<=b) (n:¬ b=a):a < b:=Bu5 h fun e=>n e.symm
theorem r56 {a b c:Nat} (h:a + b<=c):a<=c:=Be7 (Bg9 ..) h
theorem r57 {a b c:Nat} (h:a + b<=c):b<=c:=Be7 (Bq7 ..) h
theorem ru {u n c k:Nat} (h:u + 80 * n + 80 < c) (g:k<=80):u + k < c:=Bg6 (Bo4 (Bg9 ..) g) h
theorem ru1 {u n c k:Nat} (h:u + 80 * n + 80 < c) (g:k<=79):u + 1 + k < c:=by rw [Br4,Bl9 1]; exact ru h (Bg3 g)
theorem rv {u n c:Nat} (h:u + 80 * (n + 1) + 80 < c):u + 1 + 80 * n + 80 < c:=by
 rw [Bt5] at h; rw [Bh2 u 1]
 exact Bg6 (Bi3 (Bf3 (Bf3 (show 1<=80 by decide) (80 * n)) u) 80) h
theorem rd {a n c:Nat} (h:a + 2 * (n + 1) < c):a + 1 + 2 * n < c:=by
 rw [Bt5] at h; rw [Bh2]; exact Cd6 h
theorem nn {a:Nat}:¬ (a:Int) < 0:=Bs4.mpr (Bj9 a)
theorem mx {a n:Nat}:max (0:Int) (min (a:Int) n)=((min a n:Nat):Int):=by rw [r15]; exact Int.max_eq_right (Bj9 _)
theorem tm {n:Nat}:(-1 + (n:Int)).toNat=n - 1:=(congrArg Int.toNat (Int.add_comm ..)).trans r9.symm
theorem ti {a b:Nat} {c:Int} (h:a<=b) (g:(b:Int)<=c):(a:Int)<=c:=Bo7 (Bk8.mpr h) g
theorem tk {a b:Nat} {c:Int} (h:a<=b) (g:(b:Int) < c):(a:Int) < c:=Cc5 (Bk8.mpr h) g
theorem tl {a b:Nat} {c:Int} (h:a < b) (g:(b:Int)<=c):(a:Int) < c:=Bn9 (Bn1.mpr h) g
theorem tn {a:Nat} {c:Int} (g:c<=0):c<=(a:Int):=Bo7 g (Bj9 a)
theorem rz {a b A B i j d e:Nat} (y1:a + 1=A - i) (y2:b + 1=B - j) (h:d=1∨e=1):A - (i + d) + (B - (j + e)) + 1<=a + 1 + (b + 1):=by
 rw [<- Ci7,<- Ci7,<- y1,<- y2]
 cases h with
 | inl q=>rw [q,Bh2]; exact Bf3 (Bx6 ..) _
 | inr q=>rw [q]; exact Bi3 (Bx6 (a + 1) d) (b + 1)
theorem lx0 {a b:Int} (h:a < a∨a=a/\b < b):False:=h.elim (Cj8 _) fun h=>Cj8 _ h.2
theorem lx2 {a b c d e f:Int} (h:a < c∨a=c/\b < d) (g:c < e∨c=e/\d < f):a < e∨a=e/\b < f:=by
 cases h with
 | inl h=>exact .inl (g.elim (Cl5 h) fun g=>g.1 ▸ h)
 | inr h=>rw [h.1]; exact g.imp id fun g=>⟨g.1,Cl5 h.2 g.2⟩
theorem lx1 {a b c d e f:Int} (h:a < c∨a=c/\b < d) (g:¬ (e < c∨e=c/\f < d)):a < e∨a=e/\b < f:=by
 have g1:c<=e:=Bs4.mp fun q=>g (.inl q)
 cases h with
 | inl h=>exact .inl (Bn9 h g1)
 | inr h=>
  rw [h.1]
  by_cases q:c=e
  · exact .inr ⟨q,Bn9 h.2 (Bs4.mp fun k=>g (.inr ⟨q.symm,k⟩))⟩
  · exact .inl (Int.lt_iff_le_and_ne.mpr ⟨g1,q⟩)
theorem ra {r e p l:Nat} (h:r<=e - (p + 1)) (g:l<=p) (k:p < e):r + 1<=e - l:=Nat.le_sub_of_add_le (Be7 (Bf3 g (r + 1)) (by rw [Bh2]; exact (show r + (p + 1)<=e from Nat.add_le_of_le_sub k h)))
theorem ry {s u U n:Nat} (h:u + 1<=U) (e:s + U<=n):s + 1 + u<=n:=Be7 (by rw [Bh2,Br4]; exact Bf3 h s) e
theorem rx {a t u U n:Nat} (h:u + 1<=U) (e:a + t + U<=n):a + (t + 1) + u<=n:=ry (s:=a + t) h e
theorem rq {t' t u u' U:Nat} (e:t' + 2 * U<=t + 2 * u) (h:u' + 1<=U):t' + 1 + 2 * u'<=t + 2 * u:=ry (Be7 (Bm8 _) (Bp0 2 h)) e
theorem rw1 {a b c d:Nat} (h:a<=c) (g:b + 1<=d):a + b + 1<=c + d:=by rw [Br4]; exact Bo4 h g
noncomputable abbrev kS (x:String) (t:Nat):Value:=.str (Bf4 x) t
noncomputable abbrev kN (k:Int) (t:Nat):Value:=.int k t
noncomputable abbrev kR (a:Nat):Value:=.ref a
noncomputable abbrev kE (P:Params) (x:String) (t:Nat) (v:Value):DictEntry:={ hash:=PyData.keyHash P (Bf4 x),key:=kS x t,val:=v }
noncomputable abbrev kC (l:List Value):Obj:={ cls:=.type "code",data:=.fields ⟨l⟩ }
noncomputable abbrev kW (f q:String) (t l k a u:Nat):Obj:=kC [kS f t,kS q (t + 1),kS "/claim/cut.py" (t + 2),kN l 0,kN k 0,kN 0 0,kN 0 0,kN 3 0,kR a,.bool true,kN 181 0,kR (a + 1),.none,kR (a + 2),kR (a + 3),kR (a + 4),kN u 0,kN l 0,kS "/claim/cut.py" (u + 1)]
noncomputable def kP (i:Nat):Stmt:=(PySem.Challenge.pw_pq1083_01.main.body[i]?).getD (.Pass ⟨0,0,0,0⟩)
noncomputable def kQ (i j:Nat):Stmt:=match kP i with | .ClassDef _ _ _ b _ _ _ _ _ _ _=>(b[j]?).getD (.Pass ⟨0,0,0,0⟩) | x=>x
noncomputable def kF (x:Stmt) (q:String) (m:Value) (c:Nat):Obj:=match x with
 | .FunctionDef f ps b _ _ _ sc _ _ _=>{ cls:=.type "function",data:=.func { name:=f,qualname:=Bf4 q,params:=ps,body:=.stmts b,scope:=sc,globals:=3,closure:=[],defaults:=.none,kwdefaults:=.none,pyModule:=m,code:=.ref c } }
 | _=>{ cls:=.none,data:=.seq #[] }
noncomputable def Kf (P:Params):Frag:=[
(2,{ cls:=.none,data:=Data.dict #[kE P "type.__subclasses__.Exception.0" 215 (kN 31 0),kE P "type.__subclasses__.Exception.n" 216 (kN 1 0)] 2 }),
(3,{ cls:=.type "dict",data:=.dict #[kE P "__name__" 165 (kS "law_pq1083_01" 581),kE P "__doc__" 166 .none,kE P "__package__" 167 .none,kE P "__loader__" 168 (.builtin "__main__.__loader__#opaque"),kE P "__spec__" 169 .none,kE P "__annotations__" 170 (kR 6),kE P "__builtins__" 171 (kR 4),kE P "__file__" 173 (kS "/claim/cut.py" 172),kE P "__cached__" 174 .none,kE P "WallFault" 218 (kR 31),kE P "Misused" 234 (kR 44),kE P "LeftOut" 250 (kR 56),kE P "tidy" 262 (kR 65),kE P "Diagrams" 343 (kR 117),kE P "parts_at" 354 (kR 128),kE P "split" 360 (kR 133),kE P "below" 370 (kR 140),kE P "value_at" 381 (kR 147),kE P "test" 397 (kR 154),kE P "first_unlike" 407 (kR 161),kE P "ways" 426 (kR 168),kE P "Space" 464 (kR 185),kE P "needs_of" 474 (kR 196),kE P "check_places" 487 (kR 203),kE P "inner_nodes" 501 (kR 210),kE P "verdict_of_leaf" 508 (kR 217),kE P "verdict_to" 517 (kR 224),kE P "spans_told" 523 (kR 229),kE P "node_rule" 538 (kR 236),kE P "chains_of_node" 551 (kR 243),kE P "way_match" 564 (kR 250),kE P "rules_of_ways" 580 (kR 257),kE P "_law_told" 588 (kR 264),kE P "_law_take" 596 (kR 271),kE P "_law_pool" 602 (kR 278),kE P "_law_needs" 610 (kR 285),kE P "_law_world" 616 (kR 290),kE P "_law_rows" 622 (kR 295),kE P "_law_asked" 628 (kR 300),kE P "_law_whole" 636 (kR 307),kE P "_law_stretches" 646 (kR 314),kE P "_law_done" 655 (kR 321),kE P "_law_refused" 666 (kR 328),kE P "_law_led" 672 (kR 333),kE P "_law_made" 678 (kR 338),kE P "_law_tested" 684 (kR 343),kE P "_law_numbers" 690 (kR 348),kE P "_law_read_right" 696 (kR 353),kE P "_law_parted_right" 702 (kR 358),kE P "_law_misplaced" 712 (kR 365),kE P "_law_spans" 718 (kR 370),kE P "_law_on" 728 (kR 377),kE P "_law_chains" 734 (kR 382),kE P "_law_ways" 755 (kR 389),kE P "_law_told_right" 761 (kR 394),kE P "law" 767 (kR 399)] 56 }),
(27,kW "__init__" "WallFault.__init__" 201 4 2 22 206),
(28,kF (kQ 1 0) "WallFault.__init__" (kS "siftwall.faults" 187) 27),
(30,{ cls:=.type "dict",data:=.dict #[kE P "__module__" 196 (kS "siftwall.faults" 187),kE P "__firstlineno__" 200 (kN 2 199),kE P "__init__" 208 (kR 28),kE P "__static_attributes__" 211 (kR 29),kE P "__weakref__" 213 (kR 32),kE P "__doc__" 214 .none] 3 }),
(31,{ cls:=.type "type",data:=Data.cls { name:=Bf4 "WallFault",bases:=[.type "Exception"],mro:=[kR 31,.type "Exception",.type "BaseException",.type "object"],ns:=30,qualname:=Bf4 "WallFault",subclasses:=[kR 44,kR 56] },slots:=#[some (kR 15),none,some (kS "WallFault" 189),some (kS "WallFault" 197),some (.builtin "Exception.__new__"),some (.bool true)] }),
(32,{ cls:=.type "getset_descriptor",data:=Data.fields #[kS "__weakref__" 212,kR 31,.builtin "ExceptionGroup.__weakref__",.none] }),
(43,{ cls:=.type "dict",data:=.dict #[kE P "__module__" 226 (kS "siftwall.faults" 187),kE P "__firstlineno__" 230 (kN 8 229),kE P "__static_attributes__" 231 (kR 42),kE P "__doc__" 232 .none] 2 }),
(44,{ cls:=.type "type",data:=Data.cls { name:=Bf4 "Misused",bases:=[kR 31],mro:=[kR 44,kR 31,.type "Exception",.type "BaseException",.type "object"],ns:=43,qualname:=Bf4 "Misused" },slots:=#[some (kR 35),none,some (kS "Misused" 219),some (kS "Misused" 227),some (.builtin "Exception.__new__"),some (.bool true)] }),
(55,{ cls:=.type "dict",data:=.dict #[kE P "__module__" 242 (kS "siftwall.faults" 187),kE P "__firstlineno__" 246 (kN 10 245),kE P "__static_attributes__" 247 (kR 54),kE P "__doc__" 248 .none] 2 }),
(56,{ cls:=.type "type",data:=Data.cls { name:=Bf4 "LeftOut",bases:=[kR 31],mro:=[kR 56,kR 31,.type "Exception",.type "BaseException",.type "object"],ns:=55,qualname:=Bf4 "LeftOut" },slots:=#[some (kR 47),none,some (kS "LeftOut" 235),some (kS "LeftOut" 243),some (.builtin "Exception.__new__"),some (.bool true)] }),
(64,kW "tidy" "tidy" 253 13 1 59 260),
(65,kF (kP 5) "tidy" (kS "siftwall.stores" 251) 64),
(78,kW "__init__" "Diagrams.__init__" 277 25 2 73 282),
(79,kF (kQ 7 0) "Diagrams.__init__" (kS "siftwall.diagram" 263) 78),
(85,kW "kept" "Diagrams.kept" 285 31 2 80 290),
(86,kF (kQ 7 1) "Diagrams.kept" (kS "siftwall.diagram" 263) 85),
(92,kW "leaf" "Diagrams.leaf" 293 37 2 87 298),
(93,kF (kQ 7 2) "Diagrams.leaf" (kS "siftwall.diagram" 263) 92),
(99,kW "make" "Diagrams.make" 301 40 3 94 312),
(100,kF (kQ 7 3) "Diagrams.make" (kS "siftwall.diagram" 263) 99),
(106,kW "node" "Diagrams.node" 315 56 2 101 320),
(107,kF (kQ 7 4) "Diagrams.node" (kS "siftwall.diagram" 263) 106),
(113,kW "level" "Diagrams.level" 323 59 2 108 329),
(114,kF (kQ 7 5) "Diagrams.level" (kS "siftwall.diagram" 263) 113),
(116,{ cls:=.type "dict",data:=.dict #[kE P "__module__" 272 (kS "siftwall.diagram" 263),kE P "__firstlineno__" 276 (kN 23 275),kE P "__init__" 284 (kR 79),kE P "kept" 292 (kR 86),kE P "leaf" 300 (kR 93),kE P "make" 314 (kR 100),kE P "node" 322 (kR 107),kE P "level" 331 (kR 114),kE P "__static_attributes__" 336 (kR 115),kE P "__dict__" 338 (kR 118),kE P "__weakref__" 340 (kR 119),kE P "__doc__" 341 .none] 4 }),
(117,{ cls:=.type "type",data:=Data.cls { name:=Bf4 "Diagrams",bases:=[.type "object"],mro:=[kR 117,.type "object"],ns:=116,qualname:=Bf4 "Diagrams" },slots:=#[none,none,some (kS "Diagrams" 265),some (kS "Diagrams" 273),some (.builtin "object.__new__"),some (.bool true)] }),
(118,{ cls:=.type "getset_descriptor",data:=Data.fields #[kS "__dict__" 337,kR 117,.builtin "function.__dict__",.builtin "function.__dict__#set"] }),
(119,{ cls:=.type "getset_descriptor",data:=Data.fields #[kS "__weakref__" 339,kR 117,.builtin "ExceptionGroup.__weakref__",.none] }),
(127,kW "parts_at" "parts_at" 344 62 3 122 352),
(128,kF (kP 8) "parts_at" (kS "siftwall.diagram" 263) 127),
(132,kC [kS "split" 355,kS "split" 356,kS "/claim/cut.py" 357,kN 67 0,kN 2 0,kN 0 0,kN 0 0,kN 3 0,kR 129,.bool true,kN 181 0,kR 130,.none,.none,.none,kR 131,kN 358 0,kN 67 0,kS "/claim/cut.py" 359]),
(133,kF (kP 9) "split" (kS "siftwall.diagram" 263) 132),
(139,kW "below" "below" 361 81 2 134 368),
(140,kF (kP 10) "below" (kS "siftwall.diagram" 263) 139),
(146,kW "value_at" "value_at" 371 86 3 141 379),
(147,kF (kP 11) "value_at" (kS "siftwall.diagram" 263) 146),
(153,kW "test" "test" 382 91 5 148 395),
(154,kF (kP 12) "test" (kS "siftwall.diagram" 263) 153),
(160,kW "first_unlike" "first_unlike" 398 106 1 155 405),
(161,kF (kP 13) "first_unlike" (kS "siftwall.diagram" 263) 160),
(167,kW "ways" "ways" 408 113 3 162 424),
(168,kF (kP 14) "ways" (kS "siftwall.diagram" 263) 167),
(181,kW "__init__" "Space.__init__" 441 135 4 176 450),
(182,kF (kQ 16 0) "Space.__init__" (kS "siftwall.compile" 427) 181),
(184,{ cls:=.type "dict",data:=.dict #[kE P "__module__" 436 (kS "siftwall.compile" 427),kE P "__firstlineno__" 440 (kN 133 439),kE P "__init__" 452 (kR 182),kE P "__static_attributes__" 457 (kR 183),kE P "__dict__" 459 (kR 186),kE P "__weakref__" 461 (kR 187),kE P "__doc__" 462 .none] 4 }),
(185,{ cls:=.type "type",data:=Data.cls { name:=Bf4 "Space",bases:=[.type "object"],mro:=[kR 185,.type "object"],ns:=184,qualname:=Bf4 "Space" },slots:=#[none,none,some (kS "Space" 429),some (kS "Space" 437),some (.builtin "object.__new__"),some (.bool true)] }),
(186,{ cls:=.type "getset_descriptor",data:=Data.fields #[kS "__dict__" 458,kR 185,.builtin "function.__dict__",.builtin "function.__dict__#set"] }),
(187,{ cls:=.type "getset_descriptor",data:=Data.fields #[kS "__weakref__" 460,kR 185,.builtin "ExceptionGroup.__weakref__",.none] }),
(195,kW "needs_of" "needs_of" 467 143 1 190 472),
(196,kF (kP 18) "needs_of" (kS "siftwall.fields" 465) 195),
(202,kW "check_places" "check_places" 477 149 1 197 485),
(203,kF (kP 20) "check_places" (kS "siftwall.retext" 475) 202),
(209,kW "inner_nodes" "inner_nodes" 488 156 2 204 499),
(210,kF (kP 21) "inner_nodes" (kS "siftwall.retext" 475) 209),
(216,kW "verdict_of_leaf" "verdict_of_leaf" 502 169 1 211 506),
(217,kF (kP 22) "verdict_of_leaf" (kS "siftwall.retext" 475) 216),
(223,kW "verdict_to" "verdict_to" 509 173 2 218 515),
(224,kF (kP 23) "verdict_to" (kS "siftwall.retext" 475) 223),
(228,kC [kS "spans_told" 518,kS "spans_told" 519,kS "/claim/cut.py" 520,kN 178 0,kN 4 0,kN 0 0,kN 0 0,kN 3 0,kR 225,.bool true,kN 181 0,kR 226,.none,.none,.none,kR 227,kN 521 0,kN 178 0,kS "/claim/cut.py" 522]),
(229,kF (kP 24) "spans_told" (kS "siftwall.retext" 475) 228),
(235,kW "node_rule" "node_rule" 524 182 3 230 536),
(236,kF (kP 25) "node_rule" (kS "siftwall.retext" 475) 235),
(242,kW "chains_of_node" "chains_of_node" 539 190 4 237 549),
(243,kF (kP 26) "chains_of_node" (kS "siftwall.retext" 475) 242),
(249,kW "way_match" "way_match" 552 199 3 244 562),
(250,kF (kP 27) "way_match" (kS "siftwall.retext" 475) 249),
(256,kW "rules_of_ways" "rules_of_ways" 565 207 5 251 578),
(257,kF (kP 28) "rules_of_ways" (kS "siftwall.retext" 475) 256),
(263,kW "_law_told" "_law_told" 583 220 0 258 586),
(264,kF (kP 30) "_law_told" (kS "law_pq1083_01" 581) 263),
(270,kW "_law_take" "_law_take" 589 222 2 265 594),
(271,kF (kP 31) "_law_take" (kS "law_pq1083_01" 581) 270),
(277,kW "_law_pool" "_law_pool" 597 224 0 272 600),
(278,kF (kP 32) "_law_pool" (kS "law_pq1083_01" 581) 277),
(284,kW "_law_needs" "_law_needs" 603 226 1 279 608),
(285,kF (kP 33) "_law_needs" (kS "law_pq1083_01" 581) 284),
(289,kC [kS "_law_world" 611,kS "_law_world" 612,kS "/claim/cut.py" 613,kN 230 0,kN 1 0,kN 0 0,kN 0 0,kN 3 0,kR 286,.bool true,kN 181 0,kR 287,.none,.none,.none,kR 288,kN 614 0,kN 230 0,kS "/claim/cut.py" 615]),
(290,kF (kP 34) "_law_world" (kS "law_pq1083_01" 581) 289),
(294,kC [kS "_law_rows" 617,kS "_law_rows" 618,kS "/claim/cut.py" 619,kN 240 0,kN 2 0,kN 0 0,kN 0 0,kN 3 0,kR 291,.bool true,kN 181 0,kR 292,.none,.none,.none,kR 293,kN 620 0,kN 240 0,kS "/claim/cut.py" 621]),
(295,kF (kP 35) "_law_rows" (kS "law_pq1083_01" 581) 294),
(299,kC [kS "_law_asked" 623,kS "_law_asked" 624,kS "/claim/cut.py" 625,kN 243 0,kN 3 0,kN 0 0,kN 0 0,kN 3 0,kR 296,.bool true,kN 181 0,kR 297,.none,.none,.none,kR 298,kN 626 0,kN 243 0,kS "/claim/cut.py" 627]),
(300,kF (kP 36) "_law_asked" (kS "law_pq1083_01" 581) 299),
(306,kW "_law_whole" "_law_whole" 629 250 2 301 634),
(307,kF (kP 37) "_law_whole" (kS "law_pq1083_01" 581) 306),
(313,kW "_law_stretches" "_law_stretches" 637 252 1 308 644),
(314,kF (kP 38) "_law_stretches" (kS "law_pq1083_01" 581) 313),
(320,kW "_law_done" "_law_done" 647 260 3 315 653),
(321,kF (kP 39) "_law_done" (kS "law_pq1083_01" 581) 320),
(327,kW "_law_refused" "_law_refused" 656 272 4 322 664),
(328,kF (kP 40) "_law_refused" (kS "law_pq1083_01" 581) 327),
(332,kC [kS "_law_led" 667,kS "_law_led" 668,kS "/claim/cut.py" 669,kN 278 0,kN 2 0,kN 0 0,kN 0 0,kN 3 0,kR 329,.bool true,kN 181 0,kR 330,.none,.none,.none,kR 331,kN 670 0,kN 278 0,kS "/claim/cut.py" 671]),
(333,kF (kP 41) "_law_led" (kS "law_pq1083_01" 581) 332),
(337,kC [kS "_law_made" 673,kS "_law_made" 674,kS "/claim/cut.py" 675,kN 280 0,kN 5 0,kN 0 0,kN 0 0,kN 3 0,kR 334,.bool true,kN 181 0,kR 335,.none,.none,.none,kR 336,kN 676 0,kN 280 0,kS "/claim/cut.py" 677]),
(338,kF (kP 42) "_law_made" (kS "law_pq1083_01" 581) 337),
(342,kC [kS "_law_tested" 679,kS "_law_tested" 680,kS "/claim/cut.py" 681,kN 293 0,kN 4 0,kN 0 0,kN 0 0,kN 3 0,kR 339,.bool true,kN 181 0,kR 340,.none,.none,.none,kR 341,kN 682 0,kN 293 0,kS "/claim/cut.py" 683]),
(343,kF (kP 43) "_law_tested" (kS "law_pq1083_01" 581) 342),
(347,kC [kS "_law_numbers" 685,kS "_law_numbers" 686,kS "/claim/cut.py" 687,kN 308 0,kN 1 0,kN 0 0,kN 0 0,kN 3 0,kR 344,.bool true,kN 181 0,kR 345,.none,.none,.none,kR 346,kN 688 0,kN 308 0,kS "/claim/cut.py" 689]),
(348,kF (kP 44) "_law_numbers" (kS "law_pq1083_01" 581) 347),
(352,kC [kS "_law_read_right" 691,kS "_law_read_right" 692,kS "/claim/cut.py" 693,kN 316 0,kN 3 0,kN 0 0,kN 0 0,kN 3 0,kR 349,.bool true,kN 181 0,kR 350,.none,.none,.none,kR 351,kN 694 0,kN 316 0,kS "/claim/cut.py" 695]),
(353,kF (kP 45) "_law_read_right" (kS "law_pq1083_01" 581) 352),
(357,kC [kS "_law_parted_right" 697,kS "_law_parted_right" 698,kS "/claim/cut.py" 699,kN 325 0,kN 4 0,kN 0 0,kN 0 0,kN 3 0,kR 354,.bool true,kN 181 0,kR 355,.none,.none,.none,kR 356,kN 700 0,kN 325 0,kS "/claim/cut.py" 701]),
(358,kF (kP 46) "_law_parted_right" (kS "law_pq1083_01" 581) 357),
(364,kW "_law_misplaced" "_law_misplaced" 703 339 1 359 710),
(365,kF (kP 47) "_law_misplaced" (kS "law_pq1083_01" 581) 364),
(369,kC [kS "_law_spans" 713,kS "_law_spans" 714,kS "/claim/cut.py" 715,kN 345 0,kN 4 0,kN 0 0,kN 0 0,kN 3 0,kR 366,.bool true,kN 181 0,kR 367,.none,.none,.none,kR 368,kN 716 0,kN 345 0,kS "/claim/cut.py" 717]),
(370,kF (kP 48) "_law_spans" (kS "law_pq1083_01" 581) 369),
(376,kW "_law_on" "_law_on" 719 348 4 371 726),
(377,kF (kP 49) "_law_on" (kS "law_pq1083_01" 581) 376),
(381,kC [kS "_law_chains" 729,kS "_law_chains" 730,kS "/claim/cut.py" 731,kN 352 0,kN 4 0,kN 0 0,kN 0 0,kN 3 0,kR 378,.bool true,kN 181 0,kR 379,.none,.none,.none,kR 380,kN 732 0,kN 352 0,kS "/claim/cut.py" 733]),
(382,kF (kP 50) "_law_chains" (kS "law_pq1083_01" 581) 381),
(388,kW "_law_ways" "_law_ways" 735 366 4 383 753),
(389,kF (kP 51) "_law_ways" (kS "law_pq1083_01" 581) 388),
(393,kC [kS "_law_told_right" 756,kS "_law_told_right" 757,kS "/claim/cut.py" 758,kN 378 0,kN 3 0,kN 0 0,kN 0 0,kN 3 0,kR 390,.bool true,kN 181 0,kR 391,.none,.none,.none,kR 392,kN 759 0,kN 378 0,kS "/claim/cut.py" 760]),
(394,kF (kP 52) "_law_told_right" (kS "law_pq1083_01" 581) 393),
(398,kC [kS "law" 762,kS "law" 763,kS "/claim/cut.py" 764,kN 399 0,kN 1 0,kN 0 0,kN 0 0,kN 3 0,kR 395,.bool true,kN 181 0,kR 396,.none,.none,.none,kR 397,kN 765 0,kN 399 0,kS "/claim/cut.py" 766]),
(399,kF (kP 53) "law" (kS "law_pq1083_01" 581) 398)]
noncomputable def asL:List Addr:=[2,3,27,28,30,31,32,43,44,55,56,64,65,78,79,85,86,92,93,99,100,106,107,113,114,116,117,118,119,127,128,132,133,139,140,146,147,153,154,160,161,167,168,181,182,184,185,186,187,195,196,202,203,209,210,216,217,223,224,228,229,235,236,242,243,249,250,256,257,263,264,270,271,277,278,284,285,289,290,294,295,299,300,306,307,313,314,320,321,327,328,332,333,337,338,342,343,347,348,352,353,357,358,364,365,369,370,376,377,381,382,388,389,393,394,398,399]
theorem Bah:∀ P,asL=(Kf P).map (·.1):=fun P=>by kernel_rfl
theorem Bbe {S:type_of% @openSeen} (hS:@openSeen=S) {p q:Program} {loose:List Str} {Xt:Shared->Bool} {α:Type} {Yf:Shared->α} {Ya:World->α} {N:Nat} {g0:Bool} {R:Program->World->Nat->Option Value->Nat->Shared->Thread->Option Shared} {m0:Nat} {ann:Option Value}
  (hR:topRun treeTable=R) (e:opening p=plainProg p.main.scope.names) (hN:Nat.ble 600 N=true) (f:∀ s,fenceModules? p s=some s)
  (z:∀ w:World,((Ci5 w.params).isNs Bl3,(Ci5 w.params).objs.size,(Ci5 w.params).nsMap Bl3 "__annotations__")=(true,m0,ann))
  (h:∀ (w:World) (os:OsState),((R p w m0 ann N ⟨Ci5 w.params,.mk [],boot_drawn,boot_toks,os⟩ (topStub p)).bind fun s₁=>match staticsOk (importedModules p.main.body) (Ci5 w.params) s₁.heap && namesBound p s₁.heap && gensDone s₁ && laidKept (Ci5 w.params) s₁.heap with
   | true=>some s₁
   | false=>none).map (fun s=>(S q loose (importedModules p.main.body) Xt g0 s,Yf s))=some (openGood q loose,Ya w)):LeftO p q loose Xt Yf Ya N g0:=fun w=>by
 obtain ⟨⟨h0,gs,d,k,os⟩,e1,e2⟩:=Bn6.mp (boot_open e hN f w)
 cases e2
 obtain ⟨z1,z2⟩:=Prod.mk.inj (z w)
 obtain ⟨z2,z3⟩:=Prod.mk.inj z2
 subst hS hR z2 z3
 unfold openEnds
 rw [e1]
 refine Eq.trans ?_ (h w os)
 unfold topFrom
 show Option.map _ (match ((Ci5 w.params).isNs Bl3 && true) with | true=>_ | false=>_)=_
 rw [z1]
 rfl
noncomputable def qv:Program:=view PySem.Challenge.pw_pq1083_01 [1,2,3,5,7,8,9,10,11,12,13,14,16,18,20,21,22,23,24,25,26,27,28,30,31,32,33,34,35,36,37,38,39,40,41,42,43,44,45,46,47,48,49,50,51,52,53]
noncomputable abbrev Hk:Hook:=kHook Kf asL Bah
theorem left:LeftO Bm9.row.prog qv [] (fun s=>xlAt qv [] s && recOk (RowW.records Bm9.row.toRowW) s) Hk.obs Hk.val 5372:=
 Bbe PySem.W.Fast.te4187177175401517315 (m0:=11) (ann:=some (.ref 6)) (R:=PySem.W.Fast.tw14082659384304107361 PySem.W.Fast.tw14364793385576792824) (by rw [PySem.W.Fast.te14082659384304107361,PySem.W.Fast.te14364793385576792824]) (by kernel_rfl) (by kernel_rfl) (fun s=>by kernel_rfl) (fun w=>by kernel_rfl) (fun w os=>by kernel_rfl)
noncomputable def dl:DefRec:=match kP 53 with
 | .FunctionDef f ps b _ _ _ sc _ _ p=>⟨f,ps,b,sc,p⟩
 | _=>⟨Bf4 "",⟨[],[],none,[],[],none,[]⟩,[],⟨.module,[],false,false,[]⟩,⟨0,0,0,0⟩⟩
theorem hd (walk:WalkO qv [] (XL qv []) Hk.says Bm9.row.toRowW dl [] fun f vs=>PySem.call f vs):Bm9.Holds:=
 holds_law ((congrFun PySem.W.Fast.te9446332074065402090 _).trans (by kernel_rfl)) fun said=>holds_open (q:=qv) (loose:=[]) (Xt:=fun s=>xlAt qv [] s && recOk (RowW.records Bm9.row.toRowW) s) (XP:=XL qv []) (Yf:=Hk.obs) (Ya:=Hk.val) (YP:=Hk.says) (N:=5372) left (Hook.of Hk) (Hook.keeps Hk)
  (fun s e=>xl_of s (Ca5.mp e).1) XL.keeps (by kernel_rfl) (by kernel_rfl) (by rfl) (fun s e=>recFacts_of (Ca5.mp e).2) (by rfl) said (by decide +kernel) ⟨rfl,rfl,rfl,rfl,rfl,by decide +kernel⟩ (by w_witness2) walk
theorem sz {n:Nat} (h:n<=100000):n<=sizeLine:=by rw [Bn5]; exact Be7 h (by decide)
theorem sz1 {n:Nat} (h:n<=100000):n + 1<=sizeLine:=by rw [Bn5]; exact Be7 (Bg3 h) (by decide)
theorem Ayr {k n:Nat} (h:k < n):Cp8 (k:Int) n=some k:=by rw [StrLaws.seqIndex_nonneg (Bj9 k) (Bn1.mpr h)]; rfl
inductive V where
 | none
 | bool (b:Bool)
 | int (i:Int)
 | str (x:Str)
 | tup (vs:List V)
 | lst (vs:List V)
 | loc (a:Addr)
 | inst (C dx:Addr)
 | obj (C:Addr) (es:List (Str × V))
 deriving Inhabited
noncomputable instance:DecidableEq V:=fun _ _=>Classical.propDecidable _
mutual
inductive VR (g:Heap):Value->V->Prop
 | none:VR g .none .none
 | bool (b:Bool):VR g (.bool b) (.bool b)
 | int (i:Int) (t:Tok):VR g (.int i t) (.int i)
 | str (x:Str) (t:Tok):VR g (.str x t) (.str x)
 | tup {a:Addr} {o:Obj} {vs:Array Value} {n:Nat} {ds:List V}:g.get? a=some o->o.cls=.type "tuple"->o.data=.seq vs n->VRs g vs.toList ds->VR g (.ref a) (.tup ds)
 | lst {a:Addr} {o:Obj} {vs:Array Value} {n:Nat} {ds:List V}:g.get? a=some o->o.cls=.type "list"->o.data=.seq vs n->VRs g vs.toList ds->VR g (.ref a) (.lst ds)
 | loc (a:Addr):VR g (.ref a) (.loc a)
 | inst {x C dx:Addr}:g.get? x=some (instObj C dx)->VR g (.ref x) (.inst C dx)
 | obj {x C dx:Addr} {o:Obj} {es:Array DictEntry} {n:Nat} {as:List (Str × V)}:g.get? x=some (instObj C dx)->g.get? dx=some o->o.cls=.type "dict"->o.data=.dict es n->ARs g es.toList as->VR g (.ref x) (.obj C as)
inductive VRs (g:Heap):List Value->List V->Prop
 | nil:VRs g [] []
 | cons {v:Value} {d:V} {vs:List Value} {ds:List V}:VR g v d->VRs g vs ds->VRs g (v :: vs) (d :: ds)
inductive ARs (g:Heap):List DictEntry->List (Str × V)->Prop
 | nil:ARs g [] []
 | cons {e:DictEntry} {x:Str} {t:Tok} {d:V} {es:List DictEntry} {ds:List (Str × V)}:e.key=.str x t->VR g e.val d->ARs g es ds->ARs g (e :: es) ((x,d) :: ds)
end
theorem VR.mono {g g'} (k:g.StaysIn g') {v d} (h:VR g v d):VR g' v d:=
 VR.rec (motive_1:=fun v d _=>VR g' v d) (motive_2:=fun v d _=>VRs g' v d) (motive_3:=fun v d _=>ARs g' v d) .none .bool .int .str (fun h1 h2 h3 _ h=>.tup (k _ _ h1) h2 h3 h) (fun h1 h2 h3 _ h=>.lst (k _ _ h1) h2 h3 h) .loc (fun h=>.inst (k _ _ h)) (fun h1 h2 h3 h4 _ h=>.obj (k _ _ h1) (k _ _ h2) h3 h4 h) .nil (fun _ _ h1 h2=>.cons h1 h2) .nil (fun e _ _ h1 h2=>.cons e h1 h2) h
noncomputable def VRi (g:Heap) (v:Value):V->Prop
 | .none=>v=.none
 | .bool b=>v=.bool b
 | .int i=>∃ t,v=.int i t
 | .str x=>∃ t,v=.str x t
 | .loc a=>v=.ref a
 | .tup ds=>∃ a o vs n,v=.ref a/\g.get? a=some o/\o.cls=.type "tuple"/\o.data=.seq vs n/\VRs g vs.toList ds
 | .lst ds=>∃ a o vs n,v=.ref a/\g.get? a=some o/\o.cls=.type "list"/\o.data=.seq vs n/\VRs g vs.toList ds
 | _=>True
theorem VR.inv {g v d} (h:VR g v d):VRi g v d:=by
 induction h using VR.casesOn with
 | none=>exact rfl
 | bool b=>exact rfl
 | int i t=>exact ⟨t,rfl⟩
 | str x t=>exact ⟨t,rfl⟩
 | loc a=>exact rfl
 | tup h1 h2 h3 h4=>exact ⟨_,_,_,_,rfl,h1,h2,h3,h4⟩
 | lst h1 h2 h3 h4=>exact ⟨_,_,_,_,rfl,h1,h2,h3,h4⟩
 | _=>exact trivial
theorem VRs.Aju {g vs} (h:VRs g vs []):vs=[]:=by cases h; rfl
theorem VRs.inv {g vs d ds} (h:VRs g vs (d :: ds)):∃ v us,vs=v :: us/\VR g v d/\VRs g us ds:=by cases h with | cons a t=>exact ⟨_,_,rfl,a,t⟩
theorem VRs.mono {g g'} (k:g.StaysIn g') {v d} (h:VRs g v d):VRs g' v d:=by
 induction d generalizing v with
 | nil=>obtain rfl:=h.Aju; exact .nil
 | cons d r ih=>obtain ⟨_,_,rfl,a,t⟩:=h.inv; exact .cons (a.mono k) (ih t)
theorem ARs.mono {g g'} (k:g.StaysIn g') {v d} (h:ARs g v d):ARs g' v d:=by
 induction d generalizing v with
 | nil=>cases h; exact .nil
 | cons d r ih=>cases h with | cons e a t=>exact .cons e (a.mono k) (ih t)
theorem VRs.length {g vs ds} (h:VRs g vs ds):vs.length=ds.length:=by
 induction ds generalizing vs with
 | nil=>obtain rfl:=h.Aju; rfl
 | cons d r ih=>cases h with | cons _ t=>simp [ih t]
theorem VRs.append {g vs us ds es} (h:VRs g vs ds) (k:VRs g us es):VRs g (vs ++ us) (ds ++ es):=by
 induction ds generalizing vs with
 | nil=>obtain rfl:=h.Aju; exact k
 | cons d r ih=>obtain ⟨_,_,rfl,a,t⟩:=h.inv; exact .cons a (ih t)
theorem VRs.one {g v d} (h:VR g v d):VRs g [v] [d]:=.cons h .nil
theorem VRs.get {g:Heap} {vs:List Value} {ds:List V} (h:VRs g vs ds) {k:Nat} {d:V} (e:ds[k]?=some d):∃ v,vs[k]?=some v/\VR g v d:=by
 induction ds generalizing vs k with
 | nil=>cases e
 | cons d0 r ih=>
  obtain ⟨v,_,rfl,a,t⟩:=h.inv
  cases k with
  | zero=>cases e; exact ⟨v,rfl,a⟩
  | succ k=>exact ih t (k:=k) e
theorem VRs.drop {g vs ds} (h:VRs g vs ds) (k:Nat):VRs g (vs.drop k) (ds.drop k):=by
 induction ds generalizing vs k with
 | nil=>obtain rfl:=h.Aju; exact (by rw [List.drop_nil,List.drop_nil]; exact .nil)
 | cons d0 r ih=>obtain ⟨_,_,rfl,a,t⟩:=h.inv; cases k with | zero=>exact .cons a t | succ k=>exact ih t k
theorem VRs.take {g vs ds} (h:VRs g vs ds) (k:Nat):VRs g (vs.take k) (ds.take k):=by
 induction ds generalizing vs k with
 | nil=>obtain rfl:=h.Aju; exact (by rw [List.take_nil,List.take_nil]; exact .nil)
 | cons d0 r ih=>obtain ⟨_,_,rfl,a,t⟩:=h.inv; cases k with | zero=>exact .nil | succ k=>exact .cons a (ih t k)
theorem VRs.set {g vs ds} (h:VRs g vs ds) (k:Nat) {v d} (e:VR g v d):VRs g (vs.set k v) (ds.set k d):=by
 induction ds generalizing vs k with
 | nil=>obtain rfl:=h.Aju; exact (.nil)
 | cons d0 r ih=>obtain ⟨_,_,rfl,a,t⟩:=h.inv; cases k with | zero=>exact .cons e t | succ k=>exact .cons a (ih t k)
theorem VRs.reverse {g vs ds} (h:VRs g vs ds):VRs g vs.reverse ds.reverse:=by
 induction ds generalizing vs with
 | nil=>obtain rfl:=h.Aju; exact .nil
 | cons d0 r ih=>obtain ⟨_,_,rfl,a,t⟩:=h.inv; rw [Cd3,Cd3]; exact (ih t).append (.one a)
theorem VRs.eraseIdx {g vs ds} (h:VRs g vs ds) (k:Nat):VRs g (vs.eraseIdx k) (ds.eraseIdx k):=by
 induction ds generalizing vs k with
 | nil=>obtain rfl:=h.Aju; exact (.nil)
 | cons d0 r ih=>obtain ⟨_,_,rfl,a,t⟩:=h.inv; cases k with | zero=>exact t | succ k=>exact .cons a (ih t k)
inductive O where
 | list (vs:List V)
 | A5 (es:List (Str × V))
 | Aci (es:List (Int × V))
 | Ad (es:List (V × V))
 | attrs (es:List (Str × V))
noncomputable abbrev Sto:=Addr->Option O
noncomputable abbrev A8:=Str->Option V
noncomputable def Sto.put (σ:Sto) (a:Addr) (o:O):Sto:=fun b=>if b=a then some o else σ b
noncomputable def Sto.del (σ:Sto) (a:Addr):Sto:=fun b=>if b=a then none else σ b
noncomputable def A8.put (m:A8) (x:Str) (v:V):A8:=fun y=>if y=x then some v else m y
theorem Sto.A0 (σ:Sto) (a:Addr) (o:O):σ.put a o a=some o:=if_pos rfl
theorem Sto.A4 (σ:Sto) {a b} (o:O) (h:b≠a):σ.put a o b=σ b:=if_neg h
open Classical in
noncomputable def Agw (h:Heap) (P:Addr->Prop):Heap:=⟨h.objs.mapIdx fun i o=>if P i then { o with data:=.freed } else o,h.life⟩
open Classical in
theorem Ae4 (h:Heap) (P:Addr->Prop) (a:Addr):(Agw h P).get? a=if P a then none else h.get? a:=by
 have e:(Agw h P).objs[a]?=(h.objs[a]?).map fun o=>if P a then { o with data:=.freed } else o:=Array.getElem?_mapIdx
 unfold Heap.get?
 rw [e]
 cases h.objs[a]? with
 | none=>exact (ite_self none).symm
 | some o=>
  rw [Bl5]
  by_cases p:P a
  · rw [if_pos p,if_pos p]
  · rw [if_neg p,if_neg p]
theorem Ai0 {h P a o}:(Agw h P).get? a=some o ↔ ¬ P a/\h.get? a=some o:=by
 rw [Ae4]
 by_cases p:P a
 · rw [if_pos p]; exact ⟨fun h=>(nomatch h),fun h=>absurd p h.1⟩
 · rw [if_neg p]; exact ⟨fun h=>⟨p,h⟩,fun h=>h.2⟩
noncomputable def Ahh (o:Obj):Prop:=o.cls=.type "frame"/\∃ es n,o.data=.dict es n
noncomputable def Keeps (k h:Heap):Prop:=∀ b o,k.get? b=some o->h.get? b=some o∨(Ahh o/\∃ sl,h.get? b=some { o with slots:=sl })
theorem Keeps.refl (h:Heap):Keeps h h:=fun _ _ e=>.inl e
theorem Keeps.trans {a b c} (x:Keeps a b) (y:Keeps b c):Keeps a c:=fun p o e=>by
 rcases x p o e with h | ⟨f,sl,h⟩
 · exact y p o h
 · rcases y p _ h with h' | ⟨_,sl',h'⟩
   · exact .inr ⟨f,sl,h'⟩
   · exact .inr ⟨f,sl',h'⟩
theorem Keeps.of_stays {k h} (x:k.StaysIn h):Keeps k h:=fun b o e=>.inl (x b o e)
theorem Keeps.stays {k h h'} (x:Keeps k h) (y:h.StaysIn h'):Keeps k h':=x.trans (.of_stays y)
theorem Keeps.some {k h} (x:Keeps k h) {b o} (e:k.get? b=some o):∃ o',h.get? b=some o'/\o'.data=o.data/\o'.cls=o.cls:=by
 rcases x b o e with h | ⟨_,sl,h⟩
 · exact ⟨_,h,rfl,rfl⟩
 · exact ⟨_,h,rfl,rfl⟩
mutual
noncomputable def V.dat:V->Bool
 | .none=>true
 | .int _=>true
 | .str _=>true
 | .tup vs=>V.Be vs
 | .lst vs=>V.Be vs
 | _=>false
noncomputable def V.Be:List V->Bool
 | []=>true
 | v :: r=>v.dat && V.Be r
end
mutual
noncomputable def V.dep:V->Nat
 | .tup vs=>V.Bc vs + 1
 | .lst vs=>V.Bc vs + 1
 | _=>0
noncomputable def V.Bc:List V->Nat
 | []=>0
 | v :: r=>max v.dep (V.Bc r)
end
theorem VR.isTup {h v ds} (k:VR h v (.tup ds)):∃ a items,v=.ref a/\h.IsTuple a items/\VRs h items.toList ds:=by
 obtain ⟨_,_,_,_,rfl,h1,h2,h3,h4⟩:=k.inv; exact ⟨_,_,rfl,⟨_,h1,h2,_,h3⟩,h4⟩
theorem VR.Atl {h v ds} (k:VR h v (.lst ds)):∃ a items,v=.ref a/\h.IsList a items/\VRs h items.toList ds:=by
 obtain ⟨_,_,_,_,rfl,h1,h2,h3,h4⟩:=k.inv; exact ⟨_,_,rfl,⟨_,h1,h2,_,h3⟩,h4⟩
theorem V.ind {p:V->Prop} {q:List V->Prop} (h1:p .none) (h2:∀ b,p (.bool b)) (h3:∀ i,p (.int i)) (h4:∀ x,p (.str x)) (h5:∀ vs,q vs->p (.tup vs)) (h6:∀ vs,q vs->p (.lst vs)) (h7:∀ a,p (.loc a)) (h8:∀ C a,p (.inst C a)) (h9:∀ C es,p (.obj C es))
  (hn:q []) (hc:∀ v r,p v->q r->q (v :: r)):(∀ v,p v)/\∀ l,q l:=
 have k:∀ v,p v:=fun v=>V.rec (motive_1:=p) (motive_2:=q) (motive_3:=fun _=>True) (motive_4:=fun _=>True) h1 h2 h3 h4 h5 h6 h7 h8 (fun C es _=>h9 C es) hn hc trivial (fun _ _ _ _=>trivial) (fun _ _ _=>trivial) v
 ⟨k,fun l=>List.rec (motive:=q) hn (fun v r h=>hc v r (k v) h) l⟩
theorem Aog {a b} (h:(a && b)=true):a=true:=(Ca5.mp h).1
theorem At1 {a b} (h:(a && b)=true):b=true:=(Ca5.mp h).2
theorem V.Bcl {p:V->Prop} {q:List V->Prop} (h1:p .none) (h3:∀ i,p (.int i)) (h4:∀ x,p (.str x)) (h5:∀ vs,V.Be vs=true->q vs->p (.tup vs)) (h6:∀ vs,V.Be vs=true->q vs->p (.lst vs)) (hn:q []) (hc:∀ v r,p v->q r->q (v :: r)) :
  (∀ v,v.dat=true->p v)/\∀ l,V.Be l=true->q l:=
 V.ind (p:=fun v=>v.dat=true->p v) (q:=fun l=>V.Be l=true->q l) (fun _=>h1) (fun _ h=>absurd h Bg5) (fun i _=>h3 i) (fun x _=>h4 x) (fun vs ih h=>h5 vs h (ih h)) (fun vs ih h=>h6 vs h (ih h)) (fun _ h=>absurd h Bg5) (fun _ _ h=>absurd h Bg5) (fun _ _ h=>absurd h Bg5)
  (fun _=>hn) fun v r i1 i2 h=>hc v r (i1 (Aog h)) (i2 (At1 h))
inductive Axe (g:Heap) (a:Addr):V->Prop
 | off {d:V} (h:d.dat=false):Axe g a d
 | tup {o:Obj} {vs:Array Value} {n:Nat} {ds:List V} (h1:g.get? a=some o) (h2:o.cls=.type "tuple") (h3:o.data=.seq vs n) (h4:VRs g vs.toList ds):Axe g a (.tup ds)
 | lst {o:Obj} {vs:Array Value} {n:Nat} {ds:List V} (h1:g.get? a=some o) (h2:o.cls=.type "list") (h3:o.data=.seq vs n) (h4:VRs g vs.toList ds):Axe g a (.lst ds)
noncomputable def VRv (g:Heap) (v:Value) (d:V):Prop:=match v with
 | .int i _=>d=.int i
 | .str x _=>d=.str x
 | .none=>d=.none
 | .ref a=>Axe g a d
 | _=>True
theorem VR.Axp {g v d} (h:VR g v d):VRv g v d:=by
 induction h using VR.casesOn with
 | none=>exact rfl
 | int i t=>exact rfl
 | str x t=>exact rfl
 | bool b=>exact trivial
 | tup h1 h2 h3 h4=>exact .tup h1 h2 h3 h4
 | lst h1 h2 h3 h4=>exact .lst h1 h2 h3 h4
 | _=>exact .off rfl
theorem VR.Bdz {g:Heap}:(∀ a:V,a.dat=true->∀ {v:Value} {b:V},VR g v a->VR g v b->b.dat=true->a=b)/\∀ l:List V,V.Be l=true->∀ {v:List Value} {b:List V},VRs g v l->VRs g v b->V.Be b=true->l=b:=by
 refine V.Bcl (p:=fun a=>∀ {v:Value} {b:V},VR g v a->VR g v b->b.dat=true->a=b) (q:=fun l=>∀ {v:List Value} {b:List V},VRs g v l->VRs g v b->V.Be b=true->l=b) ?_ ?_ ?_ ?_ ?_ ?_ ?_
 · intro v b h k _
   obtain rfl:=h.inv; exact (show b=V.none from k.Axp).symm
 · intro i v b h k _
   obtain ⟨_,rfl⟩:=h.inv; exact (show b=V.int i from k.Axp).symm
 · intro x v b h k _
   obtain ⟨_,rfl⟩:=h.inv; exact (show b=V.str x from k.Axp).symm
 · intro vs _ ih v b h k hb
   obtain ⟨a,o,us,n,rfl,h1,h2,h3,h4⟩:=h.inv
   cases (show Axe g a b from k.Axp) with
   | off f=>rw [f] at hb; cases hb
   | tup k1 k2 k3 k4=>rw [h1] at k1; cases k1; rw [h3] at k3; cases k3; rw [ih h4 k4 hb]
   | lst k1 k2 k3 k4=>rw [h1] at k1; cases k1; rw [h2] at k2; exact absurd k2 (by decide)
 · intro vs _ ih v b h k hb
   obtain ⟨a,o,us,n,rfl,h1,h2,h3,h4⟩:=h.inv
   cases (show Axe g a b from k.Axp) with
   | off f=>rw [f] at hb; cases hb
   | lst k1 k2 k3 k4=>rw [h1] at k1; cases k1; rw [h3] at k3; cases k3; rw [ih h4 k4 hb]
   | tup k1 k2 k3 k4=>rw [h1] at k1; cases k1; rw [h2] at k2; exact absurd k2 (by decide)
 · intro v b h k _
   obtain rfl:=h.Aju
   cases k; rfl
 · intro x r i1 i2 v b h k hb
   obtain ⟨v,us,rfl,h1,h2⟩:=h.inv
   cases k with | cons k1 k2=>rw [i1 h1 k1 (Aog hb),i2 h2 k2 (At1 hb)]
theorem VR.inj {g v a b} (h:VR g v a) (k:VR g v b) (ha:a.dat=true) (hb:b.dat=true):a=b:=VR.Bdz.1 a ha h k hb
theorem Af0 {p q:Prop} [Decidable p] [Decidable q] (h:p ↔ q):decide p=decide q:=by
 by_cases k:q
 · rw [decide_eq_true k,decide_eq_true (h.mpr k)]
 · rw [decide_eq_false k,decide_eq_false (fun x=>k (h.mp x))]
theorem Adq (xs:List V):∀ ys:List V,((Bh8 (min xs.length ys.length)).all (fun j=>decide (xs.getD j .none=ys.getD j .none)) && xs.length == ys.length)=decide (xs=ys):=by
 induction xs with
 | nil=>
  intro ys
  cases ys with
  | nil=>exact (decide_eq_true rfl).symm
  | cons _ _=>exact (decide_eq_false (fun e=>nomatch e)).symm
 | cons x xs ih=>
  intro ys
  cases ys with
  | nil=>exact (decide_eq_false (fun e=>nomatch e)).symm
  | cons y ys=>
   rw [show min (x :: xs).length (y :: ys).length=min xs.length ys.length + 1 from Ck5 ..,By7,Bv9,List.all_map,Bool.and_assoc]
   have ih:=ih ys
   show (decide (x=y) && _)=_
   by_cases q:x=y
   · rw [decide_eq_true q,Bool.true_and]
     refine Eq.trans ?_ (ih.trans (Af0 ⟨fun h=>by rw [q,h],fun h=>(List.cons.inj h).2⟩))
     exact congrArg (_ && ·) (Af0 ⟨Ca8,congrArg Nat.succ⟩)
   · rw [decide_eq_false q,Co3]
     exact (decide_eq_false fun h=>q (List.cons.inj h).1).symm
theorem Ah0 {xs ys:List V} (h:xs.length=ys.length):(Bh8 xs.length).all (fun j=>decide (xs.getD j .none=ys.getD j .none))=decide (xs=ys):=by
 have:=Adq xs ys
 rw [<- h,Nat.min_self] at this
 rwa [beq_self_eq_true,Cp5] at this
noncomputable def V.tg:V->Nat
 | .none=>0 | .bool _=>1 | .int _=>2 | .str _=>3 | .tup _=>4 | .lst _=>5 | .loc _=>6 | .inst ..=>7 | .obj ..=>8
theorem tgN {a b:V} (h:Nat.beq a.tg b.tg=false):a≠b:=fun e=>by rw [e,Nat.beq_refl] at h; cases h
theorem Agd {g:Heap} {vs:Array Value} {ds:List V} (h:VRs g vs.toList ds):vs.size=ds.length:=by rw [<- h.length,Bg4]
theorem Apc {xs ys}:decide (V.tup xs=V.tup ys)=decide (xs=ys):=Af0 ⟨V.tup.inj,congrArg _⟩
theorem Api {xs ys}:decide (V.lst xs=V.lst ys)=decide (xs=ys):=Af0 ⟨V.lst.inj,congrArg _⟩
theorem Arv (x y:Int):(x == y)=decide (V.int x=V.int y):=Af0 ⟨congrArg _,V.int.inj⟩
theorem Ard (x y:Str):(x == y)=decide (V.str x=V.str y):=Af0 ⟨congrArg _,V.str.inj⟩
theorem eqB {A s u v b c} (h:By6 A s u v b) (e:b=c):By6 A s u v c:=e ▸ h
theorem eqF {A:Around} {s:Shared} {u v:Value} {a b:V} (h:By6 A s u v false) (n:Nat.beq a.tg b.tg=false):By6 A s u v (decide (a=b)):=by rw [decide_eq_false (tgN n)]; exact h
theorem eqT {A:Around} {s:Shared} {u v:Value} {a:V} (h:By6 A s u v true):By6 A s u v (decide (a=a)):=by rw [decide_eq_true rfl]; exact h
open SeqAt in
theorem VR.eqA:(∀ a:V,a.dat=true->∀ (b:V) (A:Around) (s:Shared) (u v:Value),VR s.heap u a->VR s.heap v b->b.dat=true->A.units + min a.dep b.dep < cLine->EqAt A s u v (decide (a=b))) ∧
   ∀ xs:List V,V.Be xs=true->∀ (ys:List V) (A:Around) (s:Shared) (vs ws:List Value),VRs s.heap vs xs->VRs s.heap ws ys->V.Be ys=true ->
    A.units + min (V.Bc xs) (V.Bc ys) < cLine->∀ j (h1:j < vs.length) (h2:j < ws.length),EqAt A s vs[j] ws[j] (decide (xs.getD j .none=ys.getD j .none)):=by
 refine V.Bcl (p:=fun a=>∀ (b:V) (A:Around) (s:Shared) (u v:Value),VR s.heap u a->VR s.heap v b->b.dat=true->A.units + min a.dep b.dep < cLine->EqAt A s u v (decide (a=b)))
   (q:=fun xs=>∀ (ys:List V) (A:Around) (s:Shared) (vs ws:List Value),VRs s.heap vs xs->VRs s.heap ws ys->V.Be ys=true ->
    A.units + min (V.Bc xs) (V.Bc ys) < cLine->∀ j (h1:j < vs.length) (h2:j < ws.length),EqAt A s vs[j] ws[j] (decide (xs.getD j .none=ys.getD j .none))) ?_ ?_ ?_ ?_ ?_ ?_ ?_
 · intro b A s u v ra rb hb hu
   obtain rfl:=ra.inv
   induction rb using VR.casesOn with
   | none=>exact eqT (EqAt.same _)
   | int y u=>exact eqF (EqAt.none_int y u) rfl
   | str y u=>exact eqF (EqAt.none_str y u) rfl
   | lst k1 k2 k3 k4=>exact eqF (EqAt.none_list ⟨_,k1,k2,_,k3⟩ (room_here hu)) rfl
   | tup k1 k2 k3 k4=>exact eqF (EqAt.none_tuple ⟨_,k1,k2,_,k3⟩ (room_here hu)) rfl
   | _=>exact absurd hb Bg5
 · intro x b A s u v ra rb hb hu
   obtain ⟨t,rfl⟩:=ra.inv
   induction rb using VR.casesOn with
   | none=>exact eqF (EqAt.int_none x t) rfl
   | int y u=>exact eqB (EqAt.int_int x t y u) (Arv x y)
   | str y u=>exact eqF (EqAt.int_str x t y u) rfl
   | lst k1 k2 k3 k4=>exact eqF (EqAt.int_list x t ⟨_,k1,k2,_,k3⟩ (room_here hu)) rfl
   | tup k1 k2 k3 k4=>exact eqF (EqAt.int_tuple x t ⟨_,k1,k2,_,k3⟩ (room_here hu)) rfl
   | _=>exact absurd hb Bg5
 · intro x b A s u v ra rb hb hu
   obtain ⟨t,rfl⟩:=ra.inv
   induction rb using VR.casesOn with
   | none=>exact eqF (EqAt.str_none x t) rfl
   | int y u=>exact eqF (EqAt.str_int x t y u) rfl
   | str y u=>exact eqB (EqAt.str_str x t y u) (Ard x y)
   | lst k1 k2 k3 k4=>exact eqF (EqAt.str_list x t ⟨_,k1,k2,_,k3⟩ (room_here hu)) rfl
   | tup k1 k2 k3 k4=>exact eqF (EqAt.str_tuple x t ⟨_,k1,k2,_,k3⟩ (room_here hu)) rfl
   | _=>exact absurd hb Bg5
 · intro xs ha ih b A s u v ra rb hb hu
   have ra':=ra
   obtain ⟨l,o,vs,n,rfl,h1,h2,h3,h4⟩:=ra.inv
   have hl:s.heap.IsTuple l vs:=⟨_,h1,h2,_,h3⟩
   have rb':=rb
   induction rb using VR.casesOn with
   | none=>exact eqF (EqAt.tuple_none hl (room_here hu)) rfl
   | int y u=>exact eqF (EqAt.tuple_int y u hl (room_here hu)) rfl
   | str y u=>exact eqF (EqAt.tuple_str y u hl (room_here hu)) rfl
   | lst k1 k2 k3 k4=>exact eqF (EqAt.tuple_list hl ⟨_,k1,k2,_,k3⟩ (room_here hu)) rfl
   | @tup l' o' vs' n' ys k1 k2 k3 k4=>
    have hl':s.heap.IsTuple l' vs':=⟨_,k1,k2,_,k3⟩
    by_cases hll:l=l'
    · subst hll
      rw [VR.inj ra' rb' ha hb]
      exact eqT (EqAt.same _)
    · rw [Apc,<- Adq xs ys,<- Agd h4,<- Agd k4]
      refine EqAt.of_refs hll (RcAt.tuples hl hl' (room_here hu) fun j j1 j2=>?_)
      exact ih ys A.in1 s vs.toList vs'.toList h4 k4 hb (room_in hu) j (Bg4 ▸ j1) (Bg4 ▸ j2)
   | _=>exact absurd hb Bg5
 · intro xs ha ih b A s u v ra rb hb hu
   have ra':=ra
   obtain ⟨l,o,vs,n,rfl,h1,h2,h3,h4⟩:=ra.inv
   have hl:s.heap.IsList l vs:=⟨_,h1,h2,_,h3⟩
   have rb':=rb
   induction rb using VR.casesOn with
   | none=>exact eqF (EqAt.list_none hl (room_here hu)) rfl
   | int y u=>exact eqF (EqAt.list_int y u hl (room_here hu)) rfl
   | str y u=>exact eqF (EqAt.list_str y u hl (room_here hu)) rfl
   | tup k1 k2 k3 k4=>exact eqF (EqAt.list_tuple hl ⟨_,k1,k2,_,k3⟩ (room_here hu)) rfl
   | @lst l' o' vs' n' ys k1 k2 k3 k4=>
    have hl':s.heap.IsList l' vs':=⟨_,k1,k2,_,k3⟩
    have n1:=Agd h4
    have n2:=Agd k4
    by_cases hll:l=l'
    · subst hll
      rw [VR.inj ra' rb' ha hb]
      exact eqT (EqAt.same _)
    · rw [Api]
      by_cases hsz:vs.size=vs'.size
      · rw [<- Ah0 (n1.symm.trans (hsz.trans n2)),<- n1]
        refine EqAt.of_refs hll (RcAt.lists hl hl' hsz (room_here hu) fun j j1 j2=>?_)
        exact ih ys A.in1 s vs.toList vs'.toList h4 k4 hb (room_in hu) j (Bg4 ▸ j1) (Bg4 ▸ j2)
      · rw [decide_eq_false (fun e=>hsz (by rw [n1,n2,e]))]
        exact EqAt.of_refs hll (RcAt.lists_lengths hl hl' (bne_iff_ne.mpr hsz) (room_here hu))
   | _=>exact absurd hb Bg5
 · intro ys A s vs ws ra rb hb hu j h1 h2
   obtain rfl:=ra.Aju
   exact absurd h1 (Cn2 _)
 · intro x xs i1 i2 ys A s vs ws ra rb hb hu j h1 h2
   obtain ⟨v,us,rfl,r,rs⟩:=ra.inv
   induction rb using VRs.casesOn with
   | nil=>exact absurd h2 (Cn2 _)
   | cons r' rs'=>
    cases j with
    | zero=>exact i1 _ A s _ _ r r' (Aog hb) (room_head hu)
    | succ j=>exact i2 _ A s _ _ rs rs' (At1 hb) (room_tail hu) j (Nat.lt_of_succ_lt_succ h1) (Nat.lt_of_succ_lt_succ h2)
theorem VR.Axb (a b:V) (A:Around) (s:Shared) (u v:Value) (ra:VR s.heap u a) (rb:VR s.heap v b) (ha:a.dat=true) (hb:b.dat=true) (hu:A.units + min a.dep b.dep < cLine):By6 A s u v (decide (a=b)):=VR.eqA.1 a ha b A s u v ra rb hb hu
theorem VRs.Axb (xs ys:List V) (A:Around) (s:Shared) (vs ws:List Value) (ra:VRs s.heap vs xs) (rb:VRs s.heap ws ys) (ha:V.Be xs=true) (hb:V.Be ys=true)
 (hu:A.units + min (V.Bc xs) (V.Bc ys) < cLine) (j:Nat) (h1:j < vs.length) (h2:j < ws.length):By6 A s vs[j] ws[j] (decide (xs.getD j .none=ys.getD j .none)):=VR.eqA.2 xs ha ys A s vs ws ra rb hb hu j h1 h2
mutual
noncomputable def V.key:V->Bool
 | .int _=>true
 | .str _=>true
 | .tup vs=>V.keys vs
 | _=>false
noncomputable def V.keys:List V->Bool
 | []=>true
 | v :: r=>v.key && V.keys r
end
theorem V.Azo {p:V->Prop} {q:List V->Prop} (h3:∀ i,p (.int i)) (h4:∀ x,p (.str x)) (h5:∀ vs,q vs->p (.tup vs)) (hn:q []) (hc:∀ v r,p v->q r->q (v :: r)):(∀ v,v.key=true->p v)/\∀ l,V.keys l=true->q l:=
 V.ind (p:=fun v=>v.key=true->p v) (q:=fun l=>V.keys l=true->q l) (fun h=>absurd h Bg5) (fun _ h=>absurd h Bg5) (fun i _=>h3 i) (fun x _=>h4 x) (fun vs ih h=>h5 vs (ih h)) (fun vs ih h=>absurd h Bg5) (fun _ h=>absurd h Bg5) (fun _ _ h=>absurd h Bg5) (fun _ _ h=>absurd h Bg5)
  (fun _=>hn) fun v r i1 i2 h=>hc v r (i1 (Aog h)) (i2 (At1 h))
theorem V.Awl:(∀ d:V,d.key=true->d.dat=true)/\∀ l:List V,V.keys l=true->V.Be l=true:=
 V.Azo (fun _=>rfl) (fun _=>rfl) (fun _ h=>h) rfl fun v r h k=>by rw [V.Be,h,k]; rfl
theorem V.Aal (d:V) (h:d.key=true):d.dat=true:=V.Awl.1 d h
mutual
noncomputable def Am0 (w:World):V->Int
 | .int i=>hashInt i
 | .str x=>hashStr w x
 | .tup vs=>Cf6 (Bo5 (Afn w vs))
 | _=>0
noncomputable def Afn (w:World):List V->List Int
 | []=>[]
 | v :: r=>Am0 w v :: Afn w r
end
mutual
noncomputable def Ahu:V->Nat
 | .tup vs=>Ah9 vs + 1
 | _=>1
noncomputable def Ah9:List V->Nat
 | []=>0
 | v :: r=>Ahu v + Ah9 r
end
theorem VR.Av7 {h h':Heap} {d:Addr} {o:Obj} {es:Array DictEntry} {ep:Nat} (ho:h.get? d=some o) (hd:o.data=.dict es ep) (hs:Bq6 d h h') :
  (∀ a:V,a.key=true->∀ {v:Value},VR h v a->VR h' v a)/\∀ l:List V,V.keys l=true->∀ {v:List Value},VRs h v l->VRs h' v l:=
 V.Azo (p:=fun a=>∀ {v:Value},VR h v a->VR h' v a) (q:=fun l=>∀ {v:List Value},VRs h v l->VRs h' v l) (fun i v r=>by obtain ⟨t,rfl⟩:=r.inv; exact .int i t) (fun x v r=>by obtain ⟨t,rfl⟩:=r.inv; exact .str x t)
  (fun vs ih v r=>by
   obtain ⟨a,o',us,n,rfl,h1,h2,h3,h4⟩:=r.inv
   exact .tup ((hs.2 a (by rintro rfl; rw [ho] at h1; cases h1; rw [hd] at h3; cases h3)).trans h1) h2 h3 (ih h4))
  (fun r=>by obtain rfl:=r.Aju; exact .nil) fun v l i1 i2 vs r=>by obtain ⟨_,_,rfl,h1,h2⟩:=r.inv; exact .cons (i1 h1) (i2 h2)
theorem VR.Atm {h h' d o es ep} (ho:h.get? d=some o) (hd:o.data=.dict es ep) (hs:Bq6 d h h') {v a} (r:VR h v a) (k:a.key=true):VR h' v a:=(VR.Av7 ho hd hs).1 a k r
section
variable {prog:Program} {w:World}
theorem Arw {A E s a o items n hs dr Q} (hu:A.units < cLine)
   (ho:s.heap.get? a=some o) (hc:o.cls=.type "tuple") (hd:o.data=.seq items n)
   (its:∀ (E:Value->Shared->Prop) (I:Array Int->Shared->Prop),I hs.toArray { s with toks:=s.toks + dr } ->
    wpAny (model prog w) A.in1 (forIn items.toList #[] fun x b=>do let h <- pyHash x; pure (.yield (b.push h))) I E s)
   (h:Q (Cf6 (Bo5 hs)) { s with toks:=s.toks + (dr + 1) }):wpAny (model prog w) A (pyHash (.ref a)) Q E s:=by
 have hT:s.TypeIs (.ref a) "tuple":=⟨o,ho,hc⟩
 unfold pyHash
 first | unfold pyHashByItsType | skip
 first | refine Be8 (wpAny_cRoomFor_or (.inr hu) ?_) | skip
 refine Be8 (Cc7 hT Ce9.lookup ?_)
 show wpAny _ _ (if (some (Value.builtin "tuple.__hash__") == some Value.none)=true then _ else _) Q E s
 rw [if_neg (by rw [Co7]; exact Bg5)]
 refine Be8 (Cc7 hT Ce9.lookup ?_)
 show wpAny _ _ (callSpecialIfBoundUnlessNone? (.ref a) "__hash__" _ >>= _) Q E s
 refine Be8 (wpAny_callSpecialIfBoundUnlessNone?_slot hT Ce9 (Br2 Ce9 hT F.entry_tuple_hash ?_ (F.args_tuple_hash_1 _)))
 show wpAny _ _ (Bi8.Tuple.tupleItemsOf (.ref a) >>= _) _ _ s
 refine Be8 (wpAny_tupleItemsOf ho hd ?_)
 refine Be8 ?_
 rw [<- Array.forIn_toList]
 refine its _ _ ?_
 show wpAny _ _ (retInt (Bo5 hs.toArray.toList)) _ _ _
 refine wpAny_ret_mkInt ?_
 show wpAny _ _ (if (decide (-(2:Int) ^ 63<=Bo5 hs) && decide (Bo5 hs < 2 ^ 63))=true then _ else _) Q E _
 unfold Cf6 at h
 by_cases hr:(decide (-(2:Int) ^ 63<=Bo5 hs) && decide (Bo5 hs < 2 ^ 63))=true
 · rw [if_pos hr]
   rw [if_pos hr] at h
   exact Bf5 h
 · rw [if_neg hr]
   rw [if_neg hr] at h
   exact Be8 (wpAny_rule (Bf5 h))
theorem Ax6:(∀ d:V,d.key=true->∀ (A:Around) (E:Value->Shared->Prop) (s:Shared) (v:Value) (Q:Int->Shared->Prop),VR s.heap v d->A.units + d.dep < cLine->Q (Am0 w d) { s with toks:=s.toks + Ahu d }->wpAny (model prog w) A (pyHash v) Q E s) ∧
   ∀ ds:List V,V.keys ds=true->∀ (A:Around) (E:Value->Shared->Prop) (s:Shared) (vs:List Value) (b:Array Int) (I:Array Int->Shared->Prop),VRs s.heap vs ds->A.units + V.Bc ds < cLine ->
    I (b ++ (Afn w ds).toArray) { s with toks:=s.toks + Ah9 ds }->wpAny (model prog w) A (forIn vs b fun x b=>do let h <- pyHash x; pure (.yield (b.push h))) I E s:=by
 refine V.Azo (p:=fun d=>∀ (A:Around) (E:Value->Shared->Prop) (s:Shared) (v:Value) (Q:Int->Shared->Prop),VR s.heap v d->A.units + d.dep < cLine->Q (Am0 w d) { s with toks:=s.toks + Ahu d }->wpAny (model prog w) A (pyHash v) Q E s)
   (q:=fun ds=>∀ (A:Around) (E:Value->Shared->Prop) (s:Shared) (vs:List Value) (b:Array Int) (I:Array Int->Shared->Prop),VRs s.heap vs ds->A.units + V.Bc ds < cLine ->
    I (b ++ (Afn w ds).toArray) { s with toks:=s.toks + Ah9 ds }->wpAny (model prog w) A (forIn vs b fun x b=>do let h <- pyHash x; pure (.yield (b.push h))) I E s) ?_ ?_ ?_ ?_ ?_
 · intro i A E s v Q r _ h; obtain ⟨_,rfl⟩:=r.inv; exact wpAny_pyHash_int h
 · intro x A E s v Q r _ h; obtain ⟨_,rfl⟩:=r.inv; exact wpAny_pyHash_str h
 · intro ds ih A E s v Q r hu h
   obtain ⟨a,o,us,n,rfl,h1,h2,h3,h4⟩:=r.inv
   refine Arw (hs:=Afn w ds) (dr:=Ah9 ds) (Bg6 (Bg9 _ _) hu) h1 h2 h3 (fun E I hI=>?_) h
   exact ih A.in1 E s _ #[] I h4 (by have hu:A.units + (V.Bc ds + 1) < cLine:=hu; show A.units + 1 + _ < _; rw [Br4,Bl9 1]; exact hu) (by rw [Array.empty_append]; exact hI)
 · intro A E s vs b I r hu h
   obtain rfl:=r.Aju
   rw [Co0]; exact Bf5 h
 · intro d ds i1 i2 A E s vs b I r hu h
   obtain ⟨_,_,rfl,r,rs⟩:=r.inv
   rw [Cg2]
   refine Be8 (Be8 (i1 A E s _ _ r (Bg6 (Bf3 (Nat.le_max_left ..) _) hu) (Bf5 ?_)))
   refine i2 A E { s with toks:=s.toks + Ahu d } _ (b.push (Am0 w d)) I rs (Bg6 (Bf3 (Nat.le_max_right ..) _) hu) ?_
   rw [Br4]
   rw [show b.push (Am0 w d) ++ (Afn w ds).toArray=b ++ (Afn w (d :: ds)).toArray from by rw [Afn]; simp]
   exact h
theorem Azd (d:V) (A:Around) (E:Value->Shared->Prop) (s:Shared) (v:Value) (Q:Int->Shared->Prop) (r:VR s.heap v d) (k:d.key=true) (hu:A.units + d.dep < cLine) (h:Q (Am0 w d) { s with toks:=s.toks + Ahu d }):wpAny (model prog w) A (pyHash v) Q E s:=Ax6.1 d k A E s v Q r hu h
end
section
variable {prog:Program} {w:World}
theorem Au1:(∀ d:V,d.key=true->∀ (n:Nat) (A:Around) (E:Value->Shared->Prop) (s:Shared) (v:Value) (Q:Bool->Shared->Prop),VR s.heap v d->d.dep<=n->Q true s->wpAny (model prog w) A (Cm3 n v) Q E s) ∧
   ∀ ds:List V,V.keys ds=true->∀ (n:Nat) (A:Around) (E:Value->Shared->Prop) (s:Shared) (vs:List Value) (f:Value->(Option Bool × Unit)->Sem (ForInStep (Option Bool × Unit))) (I:(Option Bool × Unit)->Shared->Prop),
   VRs s.heap vs ds->V.Bc ds<=n ->
   (∀ v,f v (none,())=(do if !(<- Cm3 n v) then pure (.done (some false,())) else pure (.yield (none,())))) ->
   I (none,()) s->wpAny (model prog w) A (forIn vs (none,()) f) I E s:=by
 refine V.Azo (p:=fun d=>∀ (n:Nat) (A:Around) (E:Value->Shared->Prop) (s:Shared) (v:Value) (Q:Bool->Shared->Prop),VR s.heap v d->d.dep<=n->Q true s->wpAny (model prog w) A (Cm3 n v) Q E s)
   (q:=fun ds=>∀ (n:Nat) (A:Around) (E:Value->Shared->Prop) (s:Shared) (vs:List Value) (f:Value->(Option Bool × Unit)->Sem (ForInStep (Option Bool × Unit))) (I:(Option Bool × Unit)->Shared->Prop),
   VRs s.heap vs ds->V.Bc ds<=n ->
   (∀ v,f v (none,())=(do if !(<- Cm3 n v) then pure (.done (some false,())) else pure (.yield (none,())))) ->
   I (none,()) s->wpAny (model prog w) A (forIn vs (none,()) f) I E s) ?_ ?_ ?_ ?_ ?_
 · intro i n A E s v Q r _ h; obtain ⟨_,rfl⟩:=r.inv; rw [eqIsQuiet_byValue _ rfl]; exact Bf5 h
 · intro i n A E s v Q r _ h; obtain ⟨_,rfl⟩:=r.inv; rw [eqIsQuiet_byValue _ rfl]; exact Bf5 h
 · intro ds ih n A E s v Q r hn h
   obtain ⟨a,o,items,n',rfl,ho,hc,hd,hi⟩:=r.inv
   have hT:s.TypeIs (.ref a) "tuple":=⟨o,ho,hc⟩
   cases n with
   | zero=>exact absurd hn (Nat.not_succ_le_zero _)
   | succ n=>
    unfold Cm3
    refine Be8 (Cc7 hT F.slot_tuple_eq.lookup ?_)
    show wpAny _ _ (isInstance (.ref a) (.type "tuple") >>= _) _ _ s
    refine Be8 (wpAny_isInstance hT isSubtype_tuple_tuple ?_)
    rw [Bool.not_true,if_neg Bg5]
    refine Be8 (Ck0 ho hd ?_)
    refine Be8 ?_
    show wpAny _ _ (forIn items _ _) _ _ s
    rw [<- Array.forIn_toList]
    exact ih n A E s _ _ _ hi (Nat.le_of_succ_le_succ hn) (fun v=>rfl) (Bf5 h)
 · intro n A E s vs f I r _ _ h
   obtain rfl:=r.Aju
   rw [Co0]; exact Bf5 h
 · intro d ds i1 i2 n A E s vs f I r hn hf h
   obtain ⟨_,_,rfl,r,rs⟩:=r.inv
   rw [Cg2,hf]
   refine Be8 (Be8 (i1 n A E s _ _ r (Be7 (Nat.le_max_left ..) hn) ?_))
   exact Bf5 (i2 n A E s _ f I rs (Be7 (Nat.le_max_right ..) hn) hf h)
theorem Avg (d:V) (n:Nat) (A:Around) (E:Value->Shared->Prop) (s:Shared) (v:Value) (Q:Bool->Shared->Prop) (r:VR s.heap v d) (k:d.key=true) (hn:d.dep<=n) (h:Q true s):wpAny (model prog w) A (Cm3 n v) Q E s:=Au1.1 d k n A E s v Q r hn h
noncomputable def Ahm (prog:Program) (w:World):HeapKind prog w V where
 is:=fun h d a=>VR h (.ref a) d/\d.key=true/\d.dep<=8
 hash:=Am0 w
 draws:=Ahu
 room:=fun A=>A.units + 8 < cLine
 inj:=fun hx hy=>VR.inj hx.1 hy.1 (V.Aal _ hx.2.1) (V.Aal _ hy.2.1)
 keeps:=fun x ho hd hs=>⟨VR.Atm ho hd hs x.1 x.2.1,x.2⟩
 pyHash:=fun hu hk h=>Azd _ _ _ _ _ _ hk.1 hk.2.1 (Bg6 (Bf3 hk.2.2 _) hu) h
 eqBool:=fun hu hx hy h=>VR.Axb _ _ _ _ _ _ hx.1 hy.1 (V.Aal _ hx.2.1) (V.Aal _ hy.2.1) (Bg6 (Bf3 (Be7 (Bt3 ..) hx.2.2) _) hu) _ _ _ _ h
 quiet:=fun hk h=>Avg _ 8 _ _ _ _ _ hk.1 hk.2.1 hk.2.2 h
end
structure Pm where
 prog:Program
 w:World
 K:Frag
 Aw4:Addr
structure PC (P:Pm) (g:Heap):Prop where
 kin:P.K.In g
 blt:∃ mb,g.Ns Cf8 mb/\∀ x:Str,x≠"__name__"->mb x=Bs7 x
 nolimit:g.NoLimit
 nodigits:∃ mc,g.Ns cStatics mc/\mc "sys.int_max_str_digits"=none
theorem PC.keeps {P g h} (x:PC P g) (k:g.StaysIn h):PC P h:=by
 obtain ⟨mb,a,b⟩:=x.blt
 obtain ⟨mc,c,d⟩:=x.nodigits
 exact ⟨x.kin.keeps k,⟨mb,a.keeps k,b⟩,x.nolimit.keeps k,⟨mc,c.keeps k,d⟩⟩
inductive LR (g:Heap) (o:Obj) (vs:List V):Prop
 | mk (h1:o.cls=.type "list") (items:Array Value) (n:Nat) (h2:o.data=.seq items n) (h3:VRs g items.toList vs) (h4:o.dict=none) (h5:o.slots=#[])
inductive DR {prog:Program} {w:World} {K:Type} [DecidableEq K] (knd:KeyKind prog w K) (g:Heap) (o:Obj) (es:List (K × V)):Prop
 | mk (ents:Array DictEntry) (ep:Nat) (kvs:List (K × Value)) (h1:o.ExactDict) (h2:o.data=.dict ents ep) (h3:KeysOf knd ents) (h4:Pairs knd ents.toList kvs) (h5:(kvs.map (·.1)).Nodup) (h6:kvs.map (·.1)=es.map (·.1)) (h7:VRs g (kvs.map (·.2)) (es.map (·.2)))
inductive TR (P:Pm) (g:Heap) (o:Obj) (es:List (V × V)):Prop
 | mk (ents:Array DictEntry) (ep:Nat) (xs:List (V × Addr × Value)) (h1:o.ExactDict) (h2:o.data=.dict ents ep) (h3:ents.toList=xs.map (entryOfKey (Ahm P.prog P.w))) (h4:∀ x∈xs,(Ahm P.prog P.w).is g x.1 x.2.1) (h5:(xs.map (·.1)).Nodup) (h6:xs.map (·.1)=es.map (·.1)) (h7:VRs g (xs.map (·.2.2)) (es.map (·.2)))
inductive AR (g:Heap) (o:Obj) (es:List (Str × V)):Prop
 | mk (h1:o.cls=.type "dict") (h2:o.dict=none) (h3:o.slots=#[]) (ents:Array DictEntry) (n:Nat) (h4:o.data=.dict ents n) (h5:ARs g ents.toList es)
noncomputable def OR (P:Pm) (g:Heap) (o:Obj):O->Prop
 | .list vs=>LR g o vs
 | .A5 es=>DR (strKind P.prog P.w) g o es
 | .Aci es=>DR (intKind P.prog P.w) g o es
 | .Ad es=>TR P g o es
 | .attrs es=>AR g o es
theorem DR.dat {prog:Program} {w:World} {K:Type} [DecidableEq K] {knd:KeyKind prog w K} {g:Heap} {o:Obj} {es:List (K × V)} (x:DR knd g o es):o.cls≠.type "frame"/\∃ e n,o.data=.dict e n:=by
 obtain ⟨a,b,c,d,e,_⟩:=x; exact ⟨by rw [d.1]; decide,_,_,e⟩
theorem OR.dat {P:Pm} {g:Heap} {o:Obj} {x:O} (h:OR P g o x):o.cls≠.type "frame"/\((∃ i n,o.data=.seq i n)∨∃ e n,o.data=.dict e n):=by
 cases x with
 | list vs=>obtain ⟨h,a,n,b,_⟩:=h; exact ⟨by rw [h]; decide,.inl ⟨_,_,b⟩⟩
 | A5 vs=>exact ⟨(DR.dat h).1,.inr (DR.dat h).2⟩
 | Aci vs=>exact ⟨(DR.dat h).1,.inr (DR.dat h).2⟩
 | Ad vs=>obtain ⟨a,b,c,d,e,_⟩:=h; exact ⟨by rw [d.1]; decide,.inr ⟨_,_,e⟩⟩
 | attrs vs=>obtain ⟨h,h2,h3,a,n,b,c⟩:=h; exact ⟨by rw [h]; decide,.inr ⟨_,_,b⟩⟩
theorem DR.mono {prog:Program} {w:World} {K:Type} [DecidableEq K] {knd:KeyKind prog w K} {g g':Heap} {o:Obj} {es:List (K × V)} (k:g.StaysIn g') (x:DR knd g o es):DR knd g' o es:=by
 obtain ⟨a,b,c,d,e,f,h,i,j,l⟩:=x; exact ⟨a,b,c,d,e,f,h,i,j,l.mono k⟩
theorem OR.mono {P:Pm} {g g':Heap} {o:Obj} (k:g.StaysIn g') {x:O} (h:OR P g o x):OR P g' o x:=by
 cases x with
 | list vs=>obtain ⟨h,a,n,b,c,d,f⟩:=h; exact ⟨h,a,n,b,c.mono k,d,f⟩
 | A5 vs=>exact DR.mono k h
 | Aci vs=>exact DR.mono k h
 | Ad vs=>obtain ⟨a,b,c,d,e,f,h,i,j,l⟩:=h; exact ⟨a,b,c,d,e,f,fun x hx=>⟨(h x hx).1.mono k,(h x hx).2⟩,i,j,l.mono k⟩
 | attrs vs=>obtain ⟨h,h2,h3,a,n,b,c⟩:=h; exact ⟨h,h2,h3,a,n,b,c.mono k⟩
theorem OR.Bc8 {P g o x} (h:OR P g o x):o.cls≠.type "frame":=h.dat.1
theorem OR.An6 {P g o x} (h:OR P g o x) (v:Array Value):o.data≠.fields v:=by
 cases h.dat.2 with
 | inl q=>obtain ⟨_,_,h⟩:=q; rw [h]; exact fun e=>nomatch e
 | inr q=>obtain ⟨_,_,h⟩:=q; rw [h]; exact fun e=>nomatch e
structure Bs where
 k:Heap
 gk:Heap
 gens:Array GenState
 drawn:Drawn
 os:OsState
noncomputable def Stk (g h:Heap):List Env->Prop
 | []=>True
 | env :: r=>env.scope.kind=.function/\(∃ F o,env.frame=some F/\h.get? F=some o/\Ahh o/\g.get? F=none)/\Stk g h r
theorem Stk.fun {g h l} (k:Stk g h l):h.FunFrames {} l:=by
 induction l with
 | nil=>exact trivial
 | cons env r ih=>
  obtain ⟨a,⟨F,o,h1,h2,⟨_,es,n,h3⟩,_⟩,c⟩:=k
  exact ⟨by rw [a]; decide,⟨F,o,h1,rfl,h2,fun vs=>by rw [h3]; exact nofun⟩,ih c⟩
structure RepC (P:Pm) (B:Bs) (g:Heap) (A:Around) (st:List Env) (σ:Sto) (s:Shared):Prop where
 pc:PC P g
 stack:A.frames=some st
 stk:Stk g s.heap st
 keeps:Keeps B.k s.heap
 fz:g.StaysIn s.heap
 ext:B.gk.StaysIn g
 new:∀ a,g.get? a≠none->B.gk.get? a=none->B.k.get? a=none
 sto:∀ a x,σ a=some x->g.get? a=none/\B.k.get? a=none/\∃ o,s.heap.get? a=some o/\OR P g o x
 gens:s.gens=B.gens
 drawn:s.drawn=B.drawn
 os:s.os=B.os/\∀ a x,σ a=some x->2 < a
structure Anl (g:Heap) (env:Env) (m:A8) (h:Heap):Prop where
 ns:∃ ml,h.Ns env.locals ml/\∀ x v,m x=some v->env.kindOf x=some .local->∃ c,ml x=some c/\VR g c v
 cel:∀ x,(env.kindOf x=some .cell∨env.kindOf x=some .free)->∃ c cv,env.cells.lookup x=some c/\h.IsCell c cv/\∀ v,m x=some v->∃ y,cv=some y/\VR g y v
 apart:∀ x y c,env.cells.lookup x=some c->env.cells.lookup y=some c->x=y
structure Own (B:Bs) (g:Heap) (σ:Sto) (env:Env):Prop where
 loc:g.get? env.locals=none/\B.k.get? env.locals=none/\σ env.locals=none
 cel:∀ x c,(env.kindOf x=some .cell∨env.kindOf x=some .free)->env.cells.lookup x=some c->g.get? c=none/\B.k.get? c=none/\σ c=none
structure Rep (P:Pm) (B:Bs) (g:Heap) (A:Around) (st:List Env) (env:Env) (σ:Sto) (m:A8) (s:Shared):Prop extends RepC P B g A st σ s where
 fr:Anl g env m s.heap
 own:Own B g σ env
structure Fx where
 sc:Scope
 comp:Bool
structure Ad2 (fx:Fx) (env:Env) (st:List Env):Prop where
 sc:env.scope=fx.sc
 kind:fx.sc.kind=.function
 globals:env.globals=Bl3
 builtins:env.builtins=Cf8
 top:fx.comp=false->∃ outer,st=env :: outer/\env.frame=some env.locals
noncomputable def Bg (A:Around) (n:Nat):Prop:=A.depth + 2 * n < recursionLimit/\A.units + 80 * n + 80 < cLine/\A.handled=none
theorem Bg.mono {A n m} (h:Bg A n) (k:m<=n):Bg A m:=⟨Bg6 (Bf3 (Bp0 2 k) _) h.1,Bg6 (Bi3 (Bf3 (Bp0 80 k) _) 80) h.2.1,h.2.2⟩
theorem Bg.lt {A n} (h:Bg A (n + 1)):A.depth < recursionLimit:=Bg6 (Bg9 ..) h.1
theorem Bg.down {A n} (h:Bg A (n + 1)) (env:Env):Bg (A.deeper env) n:=
 ⟨by have q:=h.1; rw [Bt5] at q; show A.depth + 1 + 2 * n < _; rw [Bh2]; exact Cd6 q,
  by have q:=h.2.1; rw [Bt5] at q; show A.units + 3 + 80 * n + 80 < _; rw [Bh2 A.units 3]; exact Bg6 (Bi3 (Bf3 (Bf3 (show 3<=80 by decide) (80 * n)) A.units) 80) q,h.2.2⟩
inductive TbV (g k h:Heap) (e:Addr):Value->Prop
 | no:TbV g k h e .none
 | tb {T:Addr} {o:Obj} {ts:Array Value} (n:T≠e) (h1:h.get? T=some o) (h2:o.data=.fields ts) (h3:3 < ts.size) (h4:g.get? T=none) (h5:k.get? T=none):TbV g k h e (.ref T)
inductive An3 (P:Pm) (B:Bs) (g h:Heap) (e:Addr) (why:Str) (T:Value):Prop
 | mk (oe:Obj) (vs:Array Value) (dx:Addr) (od:Obj) (t:Tok) (h1:h.get? e=some oe) (h2:oe.cls=.ref P.Aw4) (h3:oe.data=.fields vs) (h4:vs.size=6) (h5:oe.dict=some dx) (h6:g.get? dx=some od) (h7:lookIn "why" od=some (some (.str why t)))
  (h8:vs[1]?=some T) (h9:g.get? e=none) (h10:B.k.get? e=none) (h11:TbV g B.k h e T)
noncomputable def ExcAt (P:Pm) (B:Bs) (g h:Heap) (e:Addr) (why:Str):Prop:=∃ T,An3 P B g h e why T
inductive Fld (g k h:Heap) (b:Addr):Prop
 | mk (h1:g.get? b=none) (h2:k.get? b=none) (o:Obj) (h3:h.get? b=some o) (vs:Array Value) (h4:o.data=.fields vs)
inductive XP (P:Pm) (B:Bs) (A:Around) (st:List Env) (env:Env) (g:Heap) (X:Str->Sto->A8->Prop) (e:Value) (s':Shared):Prop
 | mk (g':Heap) (σ':Sto) (m':A8) (why:Str) (ea:Addr) (hg:g.StaysIn g') (hr:Rep P B g' A st env σ' m' s') (he:e=.ref ea) (hx:ExcAt P B g' s'.heap ea why) (hq:X why σ' m')
inductive NP {α β:Type} (R:Heap->α->β->Prop) (P:Pm) (B:Bs) (A:Around) (st:List Env) (env:Env) (g:Heap) (Q:β->Sto->A8->Prop) (v:α) (s':Shared):Prop
 | mk (g':Heap) (σ':Sto) (m':A8) (b:β) (hg:g.StaysIn g') (hr:Rep P B g' A st env σ' m' s') (hv:R g' v b) (hq:Q b σ' m')
noncomputable def JS {α β:Type} (R:Heap->α->β->Prop) (P:Pm) (n:Nat) (fx:Fx) (t:Env->Sem α) (σ:Sto) (m:A8) (Q:β->Sto->A8->Prop) (X:Str->Sto->A8->Prop):Prop:=
 ∀ A st B g env s,Ad2 fx env st->Rep P B g A st env σ m s->Bg A n ->
  wpAny (model P.prog P.w) A (t env) (NP R P B A st env g Q) (XP P B A st env g X) s
inductive Flw where
 | next | brk | cont
 | ret (v:V)
inductive Alj (g:Heap):Flow->Flw->Prop
 | next:Alj g .next .next
 | brk:Alj g .brk .brk
 | cont:Alj g .cont .cont
 | ret {v:Value} {d:V}:VR g v d->Alj g (.ret v) (.ret d)
noncomputable abbrev Xt:=Str->Sto->A8->Prop
noncomputable abbrev Ev (P:Pm) (n:Nat) (fx:Fx) (e:Expr) (σ:Sto) (m:A8) (Q:V->Sto->Prop) (X:Xt):Prop:=
 JS VR P n fx (fun env=>eval e env) σ m (fun v σ' m'=>m'=m/\Q v σ') X
noncomputable abbrev Evs (P:Pm) (n:Nat) (fx:Fx) (pos:Pos) (es:List Expr) (σ:Sto) (m:A8) (Q:List V->Sto->Prop) (X:Xt):Prop:=
 JS VRs P n fx (fun env=>spliced (By5 pos (Bk5 es env))) σ m (fun v σ' m'=>m'=m/\v.length=es.length/\Q v σ') X
noncomputable def EqR {α:Type} (_:Heap) (a b:α):Prop:=a=b
noncomputable abbrev Tt (P:Pm) (n:Nat) (fx:Fx) (e:Expr) (σ:Sto) (m:A8) (Q:Bool->Sto->Prop) (X:Xt):Prop:=
 JS EqR P n fx (fun env=>isTrue e env (eval e env)) σ m (fun v σ' m'=>m'=m/\Q v σ') X
noncomputable abbrev Ex (P:Pm) (n:Nat) (fx:Fx) (t:Stmt) (σ:Sto) (m:A8) (Q:Flw->Sto->A8->Prop) (X:Xt):Prop:=
 JS Alj P n fx (fun env=>exec t env) σ m Q X
noncomputable abbrev Exs (P:Pm) (n:Nat) (fx:Fx) (t:List Stmt) (σ:Sto) (m:A8) (Q:Flw->Sto->A8->Prop) (X:Xt):Prop:=
 JS Alj P n fx (fun env=>execs t env) σ m Q X
section
variable {α β:Type} {R:Heap->α->β->Prop} {P:Pm} {n:Nat} {fx:Fx} {σ:Sto} {m:A8} {X:Xt}
theorem XP.mono {B A st env g g' X X' e s} (h:XP P B A st env g' X e s) (k:g.StaysIn g') (hx:∀ y σ m,X y σ m->X' y σ m):XP P B A st env g X' e s:=by
 obtain ⟨g2,σ',m',why,ea,h1,h2,h3,h4,h5⟩:=h
 exact ⟨g2,σ',m',why,ea,fun b o e=>h1 _ _ (k _ _ e),h2,h3,h4,hx _ _ _ h5⟩
theorem NP.mono {B A st env g g' Q Q' v s} (h:NP R P B A st env g' Q v s) (k:g.StaysIn g') (hx:∀ y σ m,Q y σ m->Q' y σ m):NP R P B A st env g Q' v s:=by
 obtain ⟨g2,σ',m',b,h1,h2,h3,h4⟩:=h
 exact ⟨g2,σ',m',b,fun b o e=>h1 _ _ (k _ _ e),h2,h3,hx _ _ _ h4⟩
theorem JS.mono {t Q Q' X X'} (h:JS R P n fx t σ m Q X) (hq:∀ b σ' m',Q b σ' m'->Q' b σ' m') (hx:∀ y σ m,X y σ m->X' y σ m):JS R P n fx t σ m Q' X':=
 fun A st B g env s he hr hm=>Bf2 (h A st B g env s he hr hm) (fun _ _ q=>q.mono (fun _ _ e=>e) hq) fun _ _ q=>q.mono (fun _ _ e=>e) hx
end
theorem RepC.Atd {P B g A A' st σ s} (R:RepC P B g A st σ s) (h:A'.frames=some st):RepC P B g A' st σ s:=⟨R.pc,h,R.stk,R.keeps,R.fz,R.ext,R.new,R.sto,R.gens,R.drawn,R.os⟩
theorem A2 (h:Heap):h.StaysIn h:=fun _ _ e=>e
theorem A3 {a b c:Heap} (x:a.StaysIn b) (y:b.StaysIn c):a.StaysIn c:=fun p o e=>y p o (x p o e)
theorem Aa3 (h:Heap) (o:Obj):h.StaysIn (h.push o):=fun _ _ e=>Bi2 o e
theorem Aa2 {g h:Heap} (x:g.StaysIn h) {a:Addr} (e:h.get? a=none):g.get? a=none:=by
 cases q:g.get? a with | none=>rfl | some o=>rw [x a o q] at e; cases e
theorem Aa0 {g h} (x:Keeps g h) {a} (e:h.get? a=none):g.get? a=none:=by
 cases q:g.get? a with | none=>rfl | some o=>obtain ⟨o',h',_⟩:=x.some q; rw [h'] at e; cases e
theorem Ak (h:Heap):h.get? h.objs.size=none:=Bn7 (Bh5 _)
noncomputable def Adm (g h:Heap) (a:Addr):Heap:=Agw h fun b=>b≠a/\g.get? b=none
theorem Abt {g h a}:(Adm g h a).get? a=h.get? a:=by simp [Adm,Ae4]
theorem Aa4 {g h:Heap} {a:Addr} (k:g.StaysIn h):g.StaysIn (Adm g h a):=fun b o e=>by
 rw [Adm,Ae4,if_neg (by rw [e]; simp)]; exact k b o e
theorem Atf {g h a}:(Adm g h a).StaysIn h:=fun b o e=>(Ai0.mp e).2
theorem Aa8 {g h a b} (hb:b≠a) (hg:g.get? b=none):(Adm g h a).get? b=none:=by
 rw [Adm,Ae4,if_pos ⟨hb,hg⟩]
theorem Stk.keeps {g g' h h'} (k:∀ b o,h.get? b=some o->Ahh o->∃ o',h'.get? b=some o'/\Ahh o') (n:∀ b o,h.get? b=some o->Ahh o->g.get? b=none->g'.get? b=none):∀ {l},Stk g h l->Stk g' h' l
 | [],_=>trivial
 | _ :: _,⟨a,⟨F,o,h1,h2,h3,h4⟩,c⟩=>by obtain ⟨o',q1,q2⟩:=k F o h2 h3; exact ⟨a,⟨F,o',h1,q1,q2,n F o h2 h3 h4⟩,Stk.keeps k n c⟩
theorem Ahh.slots {o} (h:Ahh o) (sl:Array (Option Value)):Ahh { o with slots:=sl }:=h
section
variable {P:Pm} {B:Bs} {g:Heap} {A:Around} {st:List Env} {env:Env} {σ:Sto} {m:A8} {s:Shared}
theorem RepC.Aas (R:RepC P B g A st σ s) {a} (h:s.heap.get? a=none):σ a=none:=by
 cases q:σ a with
 | none=>rfl
 | some x=>obtain ⟨_,_,o,ho,_⟩:=R.sto a x q; rw [h] at ho; cases ho
theorem RepC.low (R:RepC P B g A st σ s):2 < s.heap.objs.size:=by
 obtain ⟨mc,a,_⟩:=R.pc.nodigits
 exact (a.keeps R.fz).lt
theorem RepC.stays (R:RepC P B g A st σ s) {h':Heap} (k:s.heap.StaysIn h') (tk:Nat):RepC P B g A st σ { s with heap:=h',toks:=tk }:=
 ⟨R.pc,R.stack,R.stk.keeps (fun b o e f=>⟨o,k b o e,f⟩) (fun _ _ _ _ e=>e),R.keeps.stays k,A3 R.fz k,R.ext,R.new,
  fun a x e=>by obtain ⟨h1,h2,o,h3,h4⟩:=R.sto a x e; exact ⟨h1,h2,o,k _ _ h3,h4⟩,R.gens,R.drawn,R.os⟩
theorem Anl.stays (F:Anl g env m s.heap) {h'} (k:s.heap.StaysIn h'):Anl g env m h':=
 ⟨by obtain ⟨ml,h1,h2⟩:=F.ns; exact ⟨ml,h1.keeps k,h2⟩,fun x hx=>by obtain ⟨c,cv,h1,h2,h3⟩:=F.cel x hx; exact ⟨c,cv,h1,h2.keeps k,h3⟩,F.apart⟩
theorem Anl.grow {h g'} (F:Anl g env m h) (k:g.StaysIn g'):Anl g' env m h:=
 ⟨by obtain ⟨ml,h1,h2⟩:=F.ns; exact ⟨ml,h1,fun x v e l=>by obtain ⟨c,a,b⟩:=h2 x v e l; exact ⟨c,a,b.mono k⟩⟩,
  fun x hx=>by obtain ⟨c,cv,h1,h2,h3⟩:=F.cel x hx; exact ⟨c,cv,h1,h2,fun v e=>by obtain ⟨y,a,b⟩:=h3 v e; exact ⟨y,a,b.mono k⟩⟩,F.apart⟩
theorem Rep.stays (R:Rep P B g A st env σ m s) {h'} (k:s.heap.StaysIn h') (tk:Nat):Rep P B g A st env σ m { s with heap:=h',toks:=tk }:=
 ⟨R.toRepC.stays k tk,R.fr.stays k,R.own⟩
theorem Rep.tok (R:Rep P B g A st env σ m s) (tk:Nat):Rep P B g A st env σ m { s with toks:=tk }:=R.stays (A2 _) tk
theorem RepC.grow (R:RepC P B g A st σ s) {a:Addr} {o:Obj} (ho:s.heap.get? a=some o) (hk:B.k.get? a=none) (hs:σ a=none) (hf:¬ Ahh o) :
  RepC P B (Adm g s.heap a) A st σ s:=
 ⟨R.pc.keeps (Aa4 R.fz),R.stack,R.stk.keeps (fun b o e f=>⟨o,e,f⟩) (fun b o' e f n=>Aa8 (by rintro rfl; rw [ho] at e; cases e; exact hf f) n),R.keeps,Atf,A3 R.ext (Aa4 R.fz),
  fun b hb h=>by
   by_cases e:b=a
   · subst e; exact hk
   · exact R.new b (fun q=>hb (Aa8 e q)) h,
  fun b x e=>by
   obtain ⟨h1,h2,o',h3,h4⟩:=R.sto b x e
   exact ⟨Aa8 (by rintro rfl; rw [hs] at e; cases e) h1,h2,o',h3,h4.mono (Aa4 R.fz)⟩,
  R.gens,R.drawn,R.os⟩
theorem Own.grow {h} (W:Own B g σ env) {a} (h1:a≠env.locals) (h2:∀ x c,(env.kindOf x=some .cell∨env.kindOf x=some .free)->env.cells.lookup x=some c->c≠a):Own B (Adm g h a) σ env:=
 ⟨⟨Aa8 (Bq1 h1) W.loc.1,W.loc.2⟩,fun x c hx hc=>⟨Aa8 (h2 x c hx hc) (W.cel x c hx hc).1,(W.cel x c hx hc).2⟩⟩
theorem Rep.grow (R:Rep P B g A st env σ m s) {a:Addr} {o:Obj} (ho:s.heap.get? a=some o) (hk:B.k.get? a=none) (hs:σ a=none) (hf:¬ Ahh o)
  (h1:a≠env.locals) (h2:∀ x c,(env.kindOf x=some .cell∨env.kindOf x=some .free)->env.cells.lookup x=some c->c≠a):Rep P B (Adm g s.heap a) A st env σ m s:=
 ⟨R.toRepC.grow ho hk hs hf,R.fr.grow (Aa4 R.fz),R.own.grow h1 h2⟩
theorem RepC.forget (R:RepC P B g A st σ s) {σ'} (h:∀ a x,σ' a=some x->σ a=some x):RepC P B g A st σ' s:=
 ⟨R.pc,R.stack,R.stk,R.keeps,R.fz,R.ext,R.new,fun a x e=>R.sto a x (h a x e),R.gens,R.drawn,R.os.1,fun a x e=>R.os.2 a x (h a x e)⟩
theorem Rep.forget (R:Rep P B g A st env σ m s) {σ'} (h:∀ a x,σ' a=some x->σ a=some x):Rep P B g A st env σ' m s:=
 ⟨R.toRepC.forget h,R.fr,⟨⟨R.own.loc.1,R.own.loc.2.1,by
  cases q:σ' env.locals with | none=>rfl | some x=>have:=h _ _ q; rw [R.own.loc.2.2] at this; cases this⟩,fun x c hx hc=>⟨(R.own.cel x c hx hc).1,(R.own.cel x c hx hc).2.1,by
  cases q:σ' c with | none=>rfl | some x'=>have:=h _ _ q; rw [(R.own.cel x c hx hc).2.2] at this; cases this⟩⟩⟩
theorem Rep.drop (R:Rep P B g A st env σ m s) {m'} (h:∀ x v,m' x=some v->m x=some v):Rep P B g A st env σ m' s:=
 ⟨R.toRepC,⟨by obtain ⟨ml,h1,h2⟩:=R.fr.ns; exact ⟨ml,h1,fun x v e l=>h2 x v (h x v e) l⟩,fun x hx=>by obtain ⟨c,cv,h1,h2,h3⟩:=R.fr.cel x hx; exact ⟨c,cv,h1,h2,fun v e=>h3 v (h x v e)⟩,R.fr.apart⟩,R.own⟩
theorem Abg {h} (F:Anl g env m h) {x c} (hx:env.kindOf x=some .cell∨env.kindOf x=some .free) (hc:env.cells.lookup x=some c):c≠env.locals:=by
 obtain ⟨ml,⟨o,es,ep,ho,hd,_⟩,_⟩:=F.ns
 obtain ⟨c',cv,h1,⟨o',ho',hd'⟩,_⟩:=F.cel x hx
 rw [hc] at h1; cases h1
 rintro rfl
 rw [ho] at ho'; cases ho'
 rw [hd] at hd'; cases hd'
theorem Rep.Aap (R:Rep P B g A st env σ m s) (o:Obj) (hf:o.isFreed=false) (hn:¬ Ahh o) (tk:Nat) :
  ∃ g',g.StaysIn g'/\g'.get? s.heap.objs.size=some o/\Rep P B g' A st env σ m { s with heap:=s.heap.push o,toks:=tk }:=by
 have R':=R.stays (Aa3 s.heap o) tk
 have ho:({ s with heap:=s.heap.push o,toks:=tk }:Shared).heap.get? s.heap.objs.size=some o:=Bi1 _ hf
 obtain ⟨ml,⟨oL,es,ep,hL,_⟩,_⟩:=R.fr.ns
 refine ⟨_,Aa4 R'.fz,Abt.trans ho,R'.grow ho (Aa0 R.keeps (Ak _)) (R.Aas (Ak _)) hn (Bq0 (Bl2 hL)) fun x c hx hc=>?_⟩
 obtain ⟨c',cv,h1,h2,_⟩:=R.fr.cel x hx
 rw [hc] at h1; cases h1
 exact Bl8 h2.lt
theorem RepC.Aap (R:RepC P B g A st σ s) (o:Obj) (hf:o.isFreed=false) (hn:¬ Ahh o) (tk:Nat) :
  ∃ g',g.StaysIn g'/\g'.get? s.heap.objs.size=some o/\RepC P B g' A st σ { s with heap:=s.heap.push o,toks:=tk }:=by
 have R':=R.stays (Aa3 s.heap o) tk
 have ho:({ s with heap:=s.heap.push o,toks:=tk }:Shared).heap.get? s.heap.objs.size=some o:=Bi1 _ hf
 exact ⟨_,Aa4 R'.fz,Abt.trans ho,R'.grow ho (Aa0 R.keeps (Ak _)) (R.Aas (Ak _)) hn⟩
theorem RepC.Ac3 (R:RepC P B g A st σ s) {h':Heap} {a:Addr} {o:Obj} {x:O} (k:s.heap.StaysIn h') (hal:s.heap.objs.size<=a) (ho:h'.get? a=some o) (hx:OR P g o x) (tk:Nat) :
  RepC P B g A st (σ.put a x) { s with heap:=h',toks:=tk }:=
 let R':=R.stays k tk
 have ha:s.heap.get? a=none:=Bn7 hal
 ⟨R'.pc,R'.stack,R'.stk,R'.keeps,R'.fz,R'.ext,R'.new,fun b y e=>by
  by_cases hb:b=a
  · subst hb; rw [Sto.A0] at e; cases e
    exact ⟨Aa2 R.fz ha,Aa0 R.keeps ha,o,ho,hx⟩
  · rw [Sto.A4 _ _ hb] at e; exact R'.sto b y e,R'.gens,R'.drawn,R'.os.1,fun b y e=>by
  by_cases hb:b=a
  · subst hb; exact Bh0 R.low hal
  · rw [Sto.A4 _ _ hb] at e; exact R.os.2 b y e⟩
theorem Rep.Ac3 (R:Rep P B g A st env σ m s) {h' a o x} (k:s.heap.StaysIn h') (hal:s.heap.objs.size<=a) (ho:h'.get? a=some o) (hx:OR P g o x) (tk:Nat) :
   σ a=none/\Rep P B g A st env (σ.put a x) m { s with heap:=h',toks:=tk }:=by
 have ha:s.heap.get? a=none:=Bn7 hal
 refine ⟨R.Aas ha,R.toRepC.Ac3 k hal ho hx tk,R.fr.stays k,⟨⟨R.own.loc.1,R.own.loc.2.1,?_⟩,fun y c hy hc=>⟨(R.own.cel y c hy hc).1,(R.own.cel y c hy hc).2.1,?_⟩⟩⟩
 · rw [Sto.A4 _ _ ?_]; exact R.own.loc.2.2
   obtain ⟨ml,⟨oL,es,ep,hL,_⟩,_⟩:=R.fr.ns
   rintro rfl; rw [ha] at hL; cases hL
 · rw [Sto.A4 _ _ ?_]; exact (R.own.cel y c hy hc).2.2
   obtain ⟨c',cv,h1,⟨o',h2,_⟩,_⟩:=R.fr.cel y hy
   rw [hc] at h1; cases h1
   rintro rfl; rw [ha] at h2; cases h2
theorem RepC.upd (R:RepC P B g A st σ s) {h' a o' x x'} (hx:σ a=some x) (k:∀ b o,b≠a->s.heap.get? b=some o->h'.get? b=some o) (ho:h'.get? a=some o') (hx':OR P g o' x') (tk:Nat) :
   RepC P B g A st (σ.put a x') { s with heap:=h',toks:=tk }:=by
 obtain ⟨h1,h2,o,h3,h4⟩:=R.sto a x hx
 refine ⟨R.pc,R.stack,R.stk.keeps (fun b o e f=>⟨o,k b o (by rintro rfl; rw [h3] at e; cases e; exact h4.Bc8 f.1) e,f⟩) (fun _ _ _ _ e=>e),?_,?_,R.ext,R.new,?_,R.gens,R.drawn,R.os.1,fun b y e=>by
   by_cases hb:b=a
   · subst hb; exact R.os.2 b x hx
   · rw [Sto.A4 _ _ hb] at e; exact R.os.2 b y e⟩
 · intro b ob e
   have hb:b≠a:=by rintro rfl; rw [h2] at e; cases e
   rcases R.keeps b ob e with q | ⟨f,sl,q⟩
   · exact .inl (k b _ hb q)
   · exact .inr ⟨f,sl,k b _ hb q⟩
 · exact fun b ob e=>k b ob (by rintro rfl; rw [h1] at e; cases e) (R.fz b ob e)
 · intro b y e
   by_cases hb:b=a
   · subst hb; rw [Sto.A0] at e; cases e; exact ⟨h1,h2,o',ho,hx'⟩
   · rw [Sto.A4 _ _ hb] at e
     obtain ⟨q1,q2,ob,q3,q4⟩:=R.sto b y e
     exact ⟨q1,q2,ob,k b _ hb q3,q4⟩
theorem Own.put (W:Own B g σ env) {a x} (y:O) (hx:σ a=some x):Own B g (σ.put a y) env:=
 ⟨⟨W.loc.1,W.loc.2.1,by rw [Sto.A4 _ _ (by rintro rfl; rw [W.loc.2.2] at hx; cases hx)]; exact W.loc.2.2⟩,
  fun z c hz hc=>⟨(W.cel z c hz hc).1,(W.cel z c hz hc).2.1,by rw [Sto.A4 _ _ (by rintro rfl; rw [(W.cel z _ hz hc).2.2] at hx; cases hx)]; exact (W.cel z c hz hc).2.2⟩⟩
theorem Anl.but {h h' a} (F:Anl g env m h) (k:∀ b o,b≠a->h.get? b=some o->h'.get? b=some o) (h1:a≠env.locals) (h2:∀ x c,(env.kindOf x=some .cell∨env.kindOf x=some .free)->env.cells.lookup x=some c->c≠a):Anl g env m h':=
 ⟨by obtain ⟨ml,⟨o,es,ep,q,r⟩,q2⟩:=F.ns; exact ⟨ml,⟨o,es,ep,k _ _ (Bq1 h1) q,r⟩,q2⟩,
  fun x hx=>by obtain ⟨c,cv,q1,⟨o,q2,q3⟩,q4⟩:=F.cel x hx; exact ⟨c,cv,q1,⟨o,k _ _ (h2 x c hx q1) q2,q3⟩,q4⟩,F.apart⟩
theorem Rep.upd (R:Rep P B g A st env σ m s) {h' a o' x x'} (hx:σ a=some x) (k:∀ b o,b≠a->s.heap.get? b=some o->h'.get? b=some o) (ho:h'.get? a=some o') (hx':OR P g o' x') (tk:Nat) :
  Rep P B g A st env (σ.put a x') m { s with heap:=h',toks:=tk }:=
 ⟨R.toRepC.upd hx k ho hx' tk,R.fr.but k (by rintro rfl; rw [R.own.loc.2.2] at hx; cases hx) (fun z c hz hc=>by rintro rfl; rw [(R.own.cel z _ hz hc).2.2] at hx; cases hx),R.own.put _ hx⟩
theorem Rep.Afg (R:Rep P B g A st env σ m s) {a:Addr} {vs:List V} (hx:σ a=some (.list vs)) :
   ∃ g',g.StaysIn g'/\VR g' (.ref a) (.lst vs)/\Rep P B g' A st env (σ.del a) m s:=by
 obtain ⟨h1,h2,o,h3,hc,items,n,hd,hv,_⟩:=R.sto a _ hx
 have R':Rep P B g A st env (σ.del a) m s:=R.forget fun b y e=>by
   unfold Sto.del at e; split at e
   · cases e
   · exact e
 refine ⟨_,Aa4 R.fz,.lst (Abt.trans h3) hc hd (hv.mono (Aa4 R.fz)),R'.grow h3 h2 (by simp [Sto.del]) (fun f=>by have q:=f.1; rw [hc] at q; exact absurd q (by decide)) ?_ ?_⟩
 · rintro rfl; rw [R.own.loc.2.2] at hx; cases hx
 · rintro z c hz hc' rfl; rw [(R.own.cel z _ hz hc').2.2] at hx; cases hx
end
theorem Aya {M A E s a mm name v Q} (hn:s.heap.Ns a mm)
  (h:∀ h' o',h'.Ns a (fun x=>if x=name then some v else mm x)->Bq6 a s.heap h'->h'.get? a=some o'->(∀ o,s.heap.get? a=some o->o'.cls=o.cls)->(∃ es n,o'.data=.dict es n)->Q () { s with heap:=h',toks:=s.toks + 1 }) :
  wpAny M A (nsSet a name v) Q E s:=by
 obtain ⟨o,es,ep,ho,hd,hk,hm⟩:=hn
 have Ayg:es.any (·.refKey)=false:=by
  rw [Array.any_eq_false']; intro e he; obtain ⟨y,t,q⟩:=hk e he; simp [Cc6,q]
 unfold nsSet strHash
 refine Be8 (Be8 (Ch2 (Bf5 (Be8 (Cn6 (Be8 (Ca6 ho ?_)))))))
 rw [hd]
 dsimp only
 rw [aRefKeyMayBeTheName_eq]
 simp only [aRefKeyMayBeTheNameByArray,Ayg,Bool.and_false,Bp6,if_false]
 refine Ch1 ho ?_
 obtain ⟨c,d,dt,sl⟩:=o
 subst hd
 cases hi:es.findIdx? (·.key.isStr name) with
 | some i=>
  have e0:=Bk3 (Bp8 name (if name.cps.isEmpty=true then 0 else Cf6 (M.w.params.strHash name.cps)) (.str name s.toks) v) ho (by simp only [Bs5,Bp7,hi]; rfl)
  refine h _ _ ⟨_,_,ep,e0,by simp only [Bs5,Bp7,hi]; rfl,hk.modify _ _,fun x=>?_⟩ (Bv3 ..) e0 (fun o' q=>?_) ?_
  · show _=if x=name then some v else mm x
    rw [<- hm]; exact findBy_modify (fun n v=>v.isStr n) Value.isStr_inj es name x v i hi
  · rw [ho] at q; cases q; simp only [Bs5,Bp7,hi]
  · simp only [Bs5,Bp7,hi]; exact ⟨_,_,rfl⟩
 | none=>
  have e0:=Bk3 (Bp8 name (if name.cps.isEmpty=true then 0 else Cf6 (M.w.params.strHash name.cps)) (.str name s.toks) v) ho (by simp only [Bs5,Bp7,hi]; rfl)
  refine h _ _ ⟨_,_,ep + 1,e0,by simp only [Bs5,Bp7,hi]; rfl,hk.push _ _ _ _,fun x=>?_⟩ (Bv3 ..) e0 (fun o' q=>?_) ?_
  · show _=if x=name then some v else mm x
    rw [<- hm]
    exact findBy_push (fun n v=>v.isStr n) es name x _ _ v (fun y=>by
     show (name == y)=decide (y=name)
     by_cases h:y=name
     · subst h; simp
     · have:¬ name=y:=fun e=>h e.symm
       simp [h,this]) hi
  · rw [ho] at q; cases q; simp only [Bs5,Bp7,hi]
  · simp only [Bs5,Bp7,hi]; exact ⟨_,_,rfl⟩
section
variable {P:Pm} {n:Nat} {fx:Fx} {σ:Sto} {m:A8} {X:Xt}
theorem Ayz {i k pos Q} (h:Q (.int i) σ):Ev P n fx (.Constant (.int i) k pos) σ m Q X:=
 fun A st B g env s he hr hm=>Cl9 ⟨g,σ,m,_,A2 g,hr.tok _,.int i _,rfl,h⟩
theorem Axn {x k pos Q} (h:Q (.str x) σ):Ev P n fx (.Constant (.str x) k pos) σ m Q X:=
 fun A st B g env s he hr hm=>wpAny_Constant_str ⟨g,σ,m,_,A2 g,hr.tok _,.str x _,rfl,h⟩
theorem Awv {k pos Q} (h:Q .none σ):Ev P n fx (.Constant .none k pos) σ m Q X:=
 fun A st B g env s he hr hm=>wpAny_Constant_none ⟨g,σ,m,_,A2 g,hr,.none,rfl,h⟩
theorem Avw {b k pos Q} (h:Q (.bool b) σ):Ev P n fx (.Constant (.bool b) k pos) σ m Q X:=
 fun A st B g env s he hr hm=>wpAny_Constant_bool ⟨g,σ,m,_,A2 g,hr,.bool b,rfl,h⟩
theorem ldN {A st B g env s x v Q E}
   (he:Ad2 fx env st) (hr:Rep P B g A st env σ m s) (hk:fx.sc.names.lookup x=some .local∨fx.sc.names.lookup x=some .cell∨fx.sc.names.lookup x=some .free) (hv:m x=some v)
   (hd:(x == ("__classdict__" : Str))=false) (h:∀ c,VR g c v->Q c s):wpAny (model P.prog P.w) A (loadName env x) Q E s:=by
 have hkf:env.scope.kind=.function:=by rw [he.sc]; exact he.kind
 have hko:∀ k,fx.sc.names.lookup x=some k->env.kindOf x=some k:=fun k e=>by unfold Bx8; rw [he.sc]; exact e
 rcases hk with hk | hk | hk
 · obtain ⟨ml,hn,hml⟩:=hr.fr.ns
   obtain ⟨c,hc,r⟩:=hml x v hv (hko _ hk)
   exact wpAny_loadName_local hkf (hko _ hk) hn hc (h c r)
 · obtain ⟨c,cv,h1,h2,h3⟩:=hr.fr.cel x (.inl (hko _ hk))
   obtain ⟨y,rfl,r⟩:=h3 v hv
   exact wpAny_loadName_cell hkf (hko _ hk) h1 h2 (h y r)
 · obtain ⟨c,cv,h1,h2,h3⟩:=hr.fr.cel x (.inr (hko _ hk))
   obtain ⟨y,rfl,r⟩:=h3 v hv
   exact wpAny_loadName_free hkf (hko _ hk) h1 h2 (h y r) hd
theorem Awz {x pos v Q} (hk:fx.sc.names.lookup x=some .local∨fx.sc.names.lookup x=some .cell∨fx.sc.names.lookup x=some .free) (hv:m x=some v) (h:Q v σ)
  (hd:(x == ("__classdict__" : Str))=false) (hd':(x == ("__debug__" : Str))=false):Ev P n fx (.Name x pos) σ m Q X:=
 fun A st B g env s he hr hm=>Cc1 (ldN he hr hk hv hd fun c r=>⟨g,σ,m,v,A2 g,hr,r,rfl,h⟩) hd'
theorem ldG {A st B g env s x pos v Q E}
  (he:Ad2 fx env st) (hr:Rep P B g A st env σ m s) (hk:fx.sc.names.lookup x=some .globalImplicit) (hv:nsIn P.K Bl3 x=some (some v)) (hd:(x == ("__debug__" : Str))=false) (h:Q v s) :
  wpAny (model P.prog P.w) A (eval (.Name x pos) env) Q E s:=by
 refine Calls.Name_function_global (by rw [he.sc]; exact he.kind) (by unfold Bx8; rw [he.sc]; exact hk) ?_ hd
 unfold loadGlobal
 rw [he.globals]
 exact Be8 (looks_nsIn hr.pc.kin hv _ _ _ _ hr.fz (Bf5 h))
theorem ldB {A st B g env s x pos v Q E}
  (he:Ad2 fx env st) (hr:Rep P B g A st env σ m s) (hk:fx.sc.names.lookup x=some .globalImplicit) (hv:nsIn P.K Bl3 x=some none) (hb:Bs7 x=some v) (hx:x≠"__name__") (hd:(x == ("__debug__" : Str))=false) (h:Q v s) :
  wpAny (model P.prog P.w) A (eval (.Name x pos) env) Q E s:=by
 obtain ⟨mb,hn,hm⟩:=hr.pc.blt
 refine Calls.Name_function_global (by rw [he.sc]; exact he.kind) (by unfold Bx8; rw [he.sc]; exact hk) ?_ hd
 unfold loadGlobal
 rw [he.globals,he.builtins]
 refine Be8 (looks_nsIn hr.pc.kin hv _ _ _ _ hr.fz (Be8 (wpAny_nsGet (hn.keeps hr.fz) ?_)))
 rw [hm x hx,hb]
 exact Bf5 h
theorem Aux {A st B g env s x c v Q E}
   (he:Ad2 fx env st) (hr:Rep P B g A st env σ m s) (hk:fx.sc.names.lookup x=some .local∨fx.sc.names.lookup x=some .cell) (hv:VR g c v)
   (h:∀ h' tk,Rep P B g A st env σ (m.put x v) { s with heap:=h',toks:=tk }->(∀ b o,b≠env.locals->(∀ y d,(env.kindOf y=some .cell∨env.kindOf y=some .free)->env.cells.lookup y=some d->b≠d)->s.heap.get? b=some o->h'.get? b=some o)->((∃ o,s.heap.get? env.locals=some o/\Ahh o)->∃ o,h'.get? env.locals=some o/\Ahh o)->Q () { s with heap:=h',toks:=tk }):wpAny (model P.prog P.w) A (storeName env x c) Q E s:=by
 have hkf:env.scope.kind=.function:=by rw [he.sc]; exact he.kind
 have hko:∀ k,fx.sc.names.lookup x=some k->env.kindOf x=some k:=fun k e=>by unfold Bx8; rw [he.sc]; exact e
 obtain ⟨ml,hn,hml⟩:=hr.fr.ns
 have key:∀ (a:Addr) (h':Heap) (tk:Nat),Bq6 a s.heap h'->g.get? a=none->B.k.get? a=none->σ a=none->(∀ o o',s.heap.get? a=some o->Ahh o->h'.get? a=some o'->Ahh o')->(s.heap.get? a≠none->h'.get? a≠none) ->
     RepC P B g A st σ { s with heap:=h',toks:=tk }:=fun a h' tk hs hg hk' hσ hfr Are=>
   ⟨hr.pc,hr.stack,hr.stk.keeps (fun b o e f=>by
       by_cases hb:b=a
       · subst hb
         cases q:h'.get? b with
         | none=>exact absurd q (Are (by rw [e]; simp))
         | some o'=>exact ⟨o',rfl,hfr _ _ e f q⟩
       · exact ⟨o,(hs.2 b hb).trans e,f⟩) (fun _ _ _ _ e=>e),
     fun b o e=>by
       have hb:b≠a:=by rintro rfl; rw [hk'] at e; cases e
       rcases hr.keeps b o e with q | ⟨f,sl,q⟩
       · exact .inl ((hs.2 b hb).trans q)
       · exact .inr ⟨f,sl,(hs.2 b hb).trans q⟩,
     fun b o e=>(hs.2 b (by rintro rfl; rw [hg] at e; cases e)).trans (hr.fz b o e),hr.ext,hr.new,
     fun b y e=>by
       obtain ⟨h1,h2,o,h3,h4⟩:=hr.sto b y e
       exact ⟨h1,h2,o,(hs.2 b (by rintro rfl; rw [hσ] at e; cases e)).trans h3,h4⟩,hr.gens,hr.drawn,hr.os⟩
 rcases hk with hk | hk
 · rw [storeName_local (hko _ hk) (by rw [hkf]; rfl)]
   refine Aya hn (fun h' o1 hn' hs' ho1 Bci Axf=>h h' _ ⟨key _ _ _ hs' hr.own.loc.1 hr.own.loc.2.1 hr.own.loc.2.2 ?_ ?_,⟨⟨_,hn',?_⟩,?_,hr.fr.apart⟩,hr.own⟩ (fun b o hb _ e=>(hs'.2 b hb).trans e) (fun qA=>by obtain ⟨o,w1,w2⟩:=qA; exact ⟨o1,ho1,(Bci o w1).trans w2.1,Axf⟩))
   · intro o o' e f q; rw [ho1] at q; cases q; exact ⟨(Bci o e).trans f.1,Axf⟩
   · intro _ q; obtain ⟨o,_,_,ho,_⟩:=hn'; rw [q] at ho; cases ho
   · intro y u hy hl
     by_cases e:y=x
     · subst e; simp only [A8.put,if_true] at hy; cases hy; exact ⟨c,by simp,hv⟩
     · simp only [A8.put,e,if_false] at hy
       obtain ⟨d,hd,r⟩:=hml y u hy hl
       exact ⟨d,by simpa [e] using hd,r⟩
   · intro y hy
     obtain ⟨d,cv,h1,h2,h3⟩:=hr.fr.cel y hy
     refine ⟨d,cv,h1,h2.sameBut hs' (Abg hr.fr hy h1),fun u hu=>h3 u ?_⟩
     have e:y≠x:=by rintro rfl; rw [hko _ hk] at hy; simp at hy
     simpa [A8.put,e] using hu
 · obtain ⟨d,cv,h1,h2,h3⟩:=hr.fr.cel x (.inl (hko _ hk))
   obtain ⟨o1,o2,o3⟩:=hr.own.cel x d (.inl (hko _ hk)) h1
   have hdl:=Abg hr.fr (.inl (hko _ hk)) h1
   refine wpAny_storeName_cell hkf (hko _ hk) h1 h2 (fun h' hc' hs'=>h h' s.toks ⟨key d h' s.toks hs' o1 o2 o3 ?_ ?_,⟨⟨ml,hn.sameBut hs' (Bq1 hdl),?_⟩,?_,hr.fr.apart⟩,hr.own⟩ (fun b o _ hb e=>(hs'.2 b (hb x d (.inl (hko _ hk)) h1)).trans e) (fun qB=>by obtain ⟨o,w1,w2⟩:=qB; exact ⟨o,(hs'.2 _ (Bq1 hdl)).trans w1,w2⟩))
   · intro o o' e f; obtain ⟨oc,q1,q2⟩:=h2; rw [e] at q1; cases q1; obtain ⟨_,es,nn,q⟩:=f; rw [q] at q2; cases q2
   · intro _ q; obtain ⟨oc,q1,q2⟩:=hc'; rw [q] at q1; cases q1
   · intro y u hy hl
     have e:y≠x:=by rintro rfl; rw [hko _ hk] at hl; cases hl
     simp only [A8.put,e,if_false] at hy
     exact hml y u hy hl
   · intro y hy
     by_cases e:y=x
     · subst e
       exact ⟨d,_,h1,hc',fun u hu=>by simp only [A8.put,if_true] at hu; cases hu; exact ⟨c,rfl,hv⟩⟩
     · obtain ⟨d',cv',q1,q2,q3⟩:=hr.fr.cel y hy
       refine ⟨d',cv',q1,q2.sameBut hs' (fun q=>e (hr.fr.apart _ _ _ (q ▸ q1) h1)),fun u hu=>q3 u (by simpa [A8.put,e] using hu)⟩
end
noncomputable def Ahk (Z:Addr->Prop) (g h h':Heap):Prop:=∀ b o,h.get? b=some o->¬ Z b->h'.get? b=some o∨(Ahh o/\g.get? b=none/\∃ sl,h'.get? b=some { o with slots:=sl })
section
variable {P:Pm} {B:Bs} {g:Heap} {A:Around} {st:List Env} {env:Env} {σ:Sto} {m:A8} {s:Shared}
theorem RepC.B3 {Z h'} (R:RepC P B g A st σ s) (hz:∀ b,Z b->Fld g B.k s.heap b) (h:Ahk Z g s.heap h') (tk:Nat) :
   RepC P B g A st σ { s with heap:=h',toks:=tk }:=by
 have nz:∀ b o,s.heap.get? b=some o->(∀ vs,o.data≠.fields vs)->¬ Z b:=fun b o e hn q=>by
   obtain ⟨_,_,o',h1,vs,h2⟩:=hz b q
   rw [e] at h1; cases h1; exact hn vs h2
 refine ⟨R.pc,R.stack,R.stk.keeps (fun b o e f=>?_) (fun _ _ _ _ e=>e),fun b o e=>?_,fun b o e=>?_,R.ext,R.new,fun b y e=>?_,R.gens,R.drawn,R.os⟩
 · have:=nz b o e (by obtain ⟨_,es,n,q⟩:=f; rw [q]; exact nofun)
   rcases h b o e this with q | ⟨_,_,sl,q⟩
   · exact ⟨o,q,f⟩
   · exact ⟨_,q,f.slots sl⟩
 · have hb:¬ Z b:=fun q=>by obtain ⟨_,w,_⟩:=hz b q; rw [w] at e; cases e
   rcases R.keeps b o e with q | ⟨f,sl,q⟩
   · rcases h b o q hb with q' | ⟨f,_,sl,q'⟩
     · exact .inl q'
     · exact .inr ⟨f,sl,q'⟩
   · rcases h b _ q hb with q' | ⟨_,_,sl',q'⟩
     · exact .inr ⟨f,sl,q'⟩
     · exact .inr ⟨f,sl',q'⟩
 · have hb:¬ Z b:=fun q=>by obtain ⟨w,_⟩:=hz b q; rw [w] at e; cases e
   rcases h b o (R.fz b o e) hb with q | ⟨_,q,_⟩
   · exact q
   · rw [e] at q; cases q
 · obtain ⟨h1,h2,o,h3,h4⟩:=R.sto b y e
   rcases h b o h3 (nz b o h3 h4.An6) with q | ⟨f,_⟩
   · exact ⟨h1,h2,o,q,h4⟩
   · exact absurd f.1 h4.Bc8
theorem Anl.B3 {Z h h'} (F:Anl g env m h) (nz:∀ b o,h.get? b=some o->(∀ vs,o.data≠.fields vs)->¬ Z b) (k:Ahk Z g h h'):Anl g env m h':=by
 refine ⟨?_,fun x hx=>?_,F.apart⟩
 · obtain ⟨ml,⟨o,es,ep,h1,h2,r⟩,q⟩:=F.ns
   refine ⟨ml,?_,q⟩
   rcases k _ o h1 (nz _ o h1 (by rw [h2]; exact nofun)) with q | ⟨_,_,sl,q⟩
   · exact ⟨o,es,ep,q,h2,r⟩
   · exact ⟨_,es,ep,q,h2,r⟩
 · obtain ⟨c,cv,h1,⟨o,h2,h3⟩,h4⟩:=F.cel x hx
   refine ⟨c,cv,h1,?_,h4⟩
   rcases k _ o h2 (nz _ o h2 (by rw [h3]; exact nofun)) with q | ⟨_,_,sl,q⟩
   · exact ⟨o,q,h3⟩
   · exact ⟨_,q,h3⟩
theorem Rep.B3 {Z h'} (R:Rep P B g A st env σ m s) (hz:∀ b,Z b->Fld g B.k s.heap b) (h:Ahk Z g s.heap h') (tk:Nat) :
  Rep P B g A st env σ m { s with heap:=h',toks:=tk }:=
 ⟨R.toRepC.B3 hz h tk,R.fr.B3 (fun b o e hn q=>by
  obtain ⟨_,_,o',h1,vs,h2⟩:=hz b q
  rw [e] at h1; cases h1; exact hn vs h2) h,R.own⟩
theorem Akh {g h a f}:Ahk (·=a) g h (h.update a f):=fun b o ho hb=>.inl ((Bj4 _ _ (Bq1 hb)).trans ho)
theorem An3.fld {h e why T} (x:An3 P B g h e why T):Fld g B.k h e:=by
 obtain ⟨oe,vs,dx,od,t,h1,h2,h3,h4,h5,h6,h7,h8,h9,h10,h11⟩:=x
 exact ⟨h9,h10,oe,h1,vs,h3⟩
theorem An3.Aip {B' h e why T} (x:An3 P B' g h e why T) (hk:∀ b,B'.k.get? b=none->B.k.get? b=none):An3 P B g h e why T:=by
 obtain ⟨oe,vs,dx,od,t,h1,h2,h3,h4,h5,h6,h7,h8,h9,h10,h11⟩:=x
 refine ⟨oe,vs,dx,od,t,h1,h2,h3,h4,h5,h6,h7,h8,h9,hk _ h10,?_⟩
 induction h11 using TbV.casesOn with
 | no=>exact .no
 | tb n a b c d e=>exact .tb n a b c d (hk _ e)
theorem ExcAt.Aip {B' h e why} (x:ExcAt P B' g h e why) (hk:∀ b,B'.k.get? b=none->B.k.get? b=none):ExcAt P B g h e why:=x.elim fun T x=>⟨T,x.Aip hk⟩
theorem An3.Ayf {h e T why} (x:An3 P B g h e why (.ref T)) (v:Value):An3 P B g (h.update T (Br3 (·.setIfInBounds 3 v))) e why (.ref T):=by
 obtain ⟨oe,vs,dx,od,t,h1,h2,h3,h4,h5,h6,h7,h8,h9,h10,h11⟩:=x
 cases h11 with
 | tb n a b c d e=>
  have hd₃:=Cc2 b (·.setIfInBounds 3 v)
  exact ⟨oe,vs,dx,od,t,(Bj4 _ _ n).trans h1,h2,h3,h4,h5,h6,h7,h8,h9,h10,.tb n (Bk3 (Br3 (·.setIfInBounds 3 v)) a (Cg8 hd₃)) hd₃ (by rw [Array.size_setIfInBounds]; exact c) d e⟩
theorem Agy {L e outer why head Aw3 Q E} (hst:st=env :: outer) (hf:env.frame=some L)
   (R:RepC P B g A st σ s) {T} (x:An3 P B g s.heap e why T)
   (h:∀ h' T',An3 P B g h' e why (.ref T')->Ahk (·=e) g s.heap h'->Q () { s with heap:=h' }) :
   wpAny (model P.prog P.w) A (do let a <- frameOf env; let pl <- entryPlaceOf L Aw3; let b <- EntryCells.newEntry head a .none (Cn7 L) .none pl; setField (.ref e) 1 b) Q E s:=by
 subst hst
 obtain ⟨oe,vs,dx,od,t,h1,h2,h3,h4,h5,h6,h7,h8,h9,h10,h11⟩:=x
 refine Be8 (wpAny_frameOf_fun R.stack R.stk.fun hf fun h₁ hs₁=>?_)
 refine Be8 (wpAny_entryPlaceOf fun pl hpl=>?_)
 unfold EntryCells.newEntry newFields
 refine Be8 (Bn8 ?_ (hpl.sizeOk5 _ _ _ _ _))
 have inS:∀ b,b∈(env :: outer).filterMap (·.frame)->∀ o,s.heap.get? b=some o->Ahh o/\g.get? b=none:=by
   have key:∀ l:List Env,Stk g s.heap l->∀ b,b∈l.filterMap (·.frame)->∀ o,s.heap.get? b=some o->Ahh o/\g.get? b=none:=by
     intro l
     induction l with
     | nil=>intro _ b hb; simp at hb
     | cons en r ih=>
      rintro ⟨_,⟨F,oF,f1,f2,f3,f4⟩,c⟩ b hb o ho
      rw [Bq2,f1] at hb
      rcases Bh7.mp hb with q | q
      · subst q; rw [f2] at ho; cases ho; exact ⟨f3,f4⟩
      · exact ih c b q o ho
   exact key _ R.stk
 have hne:e ∉ (env :: outer).filterMap (·.frame):=fun q=>by
   obtain ⟨⟨_,es,n,q1⟩,_⟩:=inS e q oe h1
   rw [q1] at h3; cases h3
 have he₁:h₁.get? e=some oe:=(hs₁.2.1 e hne).trans h1
 have he₂:=Bi2 (h:=h₁) { cls:=.type "traceback",dict:=none,data:=.fields ([head,.ref L,.none,Cn7 L,.none] ++ (if pl.isEmpty then Bg7 6 Value.none else pl)).toArray } he₁
 refine Ce3 he₂ h3 (by rw [h4]; decide) (h _ h₁.objs.size ?_ ?_)
 · have hTe:h₁.objs.size≠e:=Bq0 (Bl2 he₁)
   have hd₃:=Cc2 h3 (·.setIfInBounds 1 (Value.ref h₁.objs.size))
   have he₃:=Bk3 (Br3 (·.setIfInBounds 1 (Value.ref h₁.objs.size))) he₂ (Cg8 hd₃)
   have hT₃:=(Bj4 (h₁.push { cls:=.type "traceback",dict:=none,data:=.fields ([head,.ref L,.none,Cn7 L,.none] ++ (if pl.isEmpty then Bg7 6 Value.none else pl)).toArray })
     (Br3 (·.setIfInBounds 1 (Value.ref h₁.objs.size))) (Bq1 hTe)).trans (Bi1 h₁ rfl)
   have hsz:s.heap.get? h₁.objs.size=none:=by rw [hs₁.1]; exact Ak _
   refine ⟨_,_,dx,od,t,he₃,(Obj.cls_mapFields _ _).trans h2,hd₃,by rw [Array.size_setIfInBounds]; exact h4,?_,h6,h7,by simp [h4],h9,h10,.tb hTe hT₃ rfl ?_ (Aa2 R.fz hsz) (Aa0 R.keeps hsz)⟩
   · obtain ⟨c,d,dt,sl⟩:=oe; cases h3; exact h5
   · simp only [Bp1,Bf1,Bh3,Bl1]; exact Bh0 (by decide) (Bg9 ..)
 · intro b o ho hb
   have up:∀ o',h₁.get? b=some o'->((h₁.push { cls:=.type "traceback",dict:=none,data:=.fields ([head,.ref L,.none,Cn7 L,.none] ++ (if pl.isEmpty then Bg7 6 Value.none else pl)).toArray }).update e (Br3 (·.setIfInBounds 1 (Value.ref h₁.objs.size)))).get? b=some o':=
     fun o' q=>(Bj4 _ _ (Bq1 hb)).trans (Bi2 _ q)
   by_cases hm:b∈(env :: outer).filterMap (·.frame)
   · obtain ⟨f1,f2⟩:=inS b hm o ho
     obtain ⟨sl,q⟩:=hs₁.2.2 b o ho
     exact .inr ⟨f1,f2,sl,up _ q⟩
   · exact .inl (up _ ((hs₁.2.1 b hm).trans ho))
theorem Ac6 {e T why fl Q E} (x:An3 P B g s.heap e why (.ref T))
  (h:∀ h' (Z:Addr->Prop),An3 P B g h' e why (.ref T)->(∀ b,Z b->Fld g B.k s.heap b)->Ahk Z g s.heap h'->Q () { s with heap:=h' }) :
  wpAny (model P.prog P.w) A (setFlight (.ref e) fl) Q E s:=by
 have x':=x.Ayf (fl.elim Value.none fun f=>Cn7 f)
 obtain ⟨oe,vs,dx,od,t,h1,h2,h3,h4,h5,h6,h7,h8,h9,h10,h11⟩:=x
 cases h11 with
 | tb n a2 a3 a4 a5 a6=>
  unfold setFlight
  refine Be8 (Bt1 h1 h3 h8 ?_)
  rw [if_pos (show (Value.ref T != Value.none)=true from rfl)]
  exact Ce3 a2 a3 a4 (h _ (·=T) x' (fun b hb=>hb ▸ ⟨a5,a6,_,a2,_,a3⟩) Akh)
theorem Ad1 {L e outer why Q E} (hst:st=env :: outer) (hf:env.frame=some L) (R:RepC P B g A st σ s) (x:ExcAt P B g s.heap e why)
  (h:∀ h' (Z:Addr->Prop) T,An3 P B g h' e why (.ref T)->(∀ b,Z b->Fld g B.k s.heap b)->Ahk Z g s.heap h'->Q () { s with heap:=h' }) :
  wpAny (model P.prog P.w) A (Cm2 (.ref e) env) Q E s:=by
 obtain ⟨T,x⟩:=x
 have hZe:=x.fld
 obtain ⟨oe,vs,dx,od,t,h1,h2,h3,h4,h5,h6,h7,h8,h9,h10,h11⟩:=id x
 unfold Cm2
 simp only [hf]
 refine Be8 (Bt1 h1 h3 h8 ?_)
 induction h11 using TbV.casesOn with
 | no=>
  rw [if_neg (by decide)]
  exact Agy hst hf R x fun h' T k1 k3=>h h' (·=e) T k1 (fun b hb=>hb ▸ hZe) k3
 | @tb T oT ts n a2 a3 a4 a5 a6=>
  rw [if_pos (show (Value.ref T != Value.none)=true from rfl)]
  refine Be8 (Bt1 a2 a3 (Array.getElem?_eq_getElem a4) ?_)
  by_cases hq:(ts[3] == Cn7 L)=true
  · rw [if_pos hq]
    exact Bf5 (h s.heap (fun _=>False) T x (fun _ q=>q.elim) (fun b o ho _=>.inl ho))
  · rw [if_neg hq]
    have hZT:∀ b,b=T->Fld g B.k s.heap b:=fun b hb=>hb ▸ ⟨a5,a6,oT,a2,ts,a3⟩
    refine Be8 (Ce3 a2 a3 a4 ?_)
    have R':=R.B3 hZT (Akh (f:=Br3 (·.setIfInBounds 3 Value.none))) s.toks
    refine Agy (s:={ s with heap:=s.heap.update T (Br3 (·.setIfInBounds 3 Value.none)) }) hst hf R' (x.Ayf .none) fun h' T' k1 k3=>h h' (fun b=>b=e∨b=T) T' k1 (fun b hb=>hb.elim (fun q=>q ▸ hZe) (hZT b)) ?_
    intro b o ho hb
    rw [not_or] at hb
    exact k3 b o ((Bj4 _ _ (Bq1 hb.2)).trans ho) hb.1
theorem XP.passes {fx X e} (he:Ad2 fx env st) (hc:fx.comp=false) (h:XP P B A st env g X e s) :
  notedBy (model P.prog P.w) A env (Cf7 (model P.prog P.w) A env (XP P B A st env g X)) e s:=by
 obtain ⟨g',σ',m',why,ea,hg,hr,rfl,hx,hX⟩:=h
 obtain ⟨outer,hst,hf⟩:=he.top hc
 unfold notedBy
 refine Ad1 hst hf hr.toRepC hx fun h' Z T k1 k3 k4=>?_
 have hr':=hr.B3 k3 k4 s.toks
 unfold Cf7
 obtain ⟨oe,vs,dx,od,t,h1,h2,h3,h4,h5,h6,h7,h8,h9,h10,h11⟩:=id k1
 refine Be8 (Bt1 (s:={ s with heap:=h' }) h1 h3 h8 ?_)
 rw [if_neg (show ¬ ((Value.ref T == Value.none)=true) from Bg5)]
 refine Ac6 (s:={ s with heap:=h' }) k1 fun h'' Z' l1 l3 l4=>?_
 exact ⟨g',σ',m',why,ea,hg,hr'.B3 l3 l4 s.toks,rfl,⟨_,l1⟩,hX⟩
end
section
variable {prog:Program} {w:World} {A:Around} {E:Value->Shared->Prop} {s:Shared}
theorem Agq {it l i items x Q} (hit:s.heap.IsTupleIter it l i) (hl:s.heap.IsTuple l items) (hx:items[i]?=some x)
  (hQ:∀ h',h'.IsTupleIter it l (i + 1)->Bq6 it s.heap h'->Q x { s with heap:=h' }):wpAny (model prog w) A (Bt6 (.ref it)) Q E s:=by
 obtain ⟨o,ho,hc,hd⟩:=id hit
 obtain ⟨ol,hol,_,nl,hdl⟩:=hl
 unfold Bt6
 refine Be8 (Bu3 (name:=Bf4 "__next__") hit.typeIs Bw7
  (Br2 Bw7 hit.typeIs F.entry_tuple_iterator_next ?_ (F.args_tuple_iterator_next_1 _)))
 show wpAny _ _ (field (.ref it) 0 >>= _) _ _ s
 refine Be8 (Bt1 ho hd (x:=.ref l) rfl ?_)
 show wpAny _ _ (if (Value.ref l == Value.none)=true then _ else _) _ _ s
 rw [if_neg (show ¬ ((Value.ref l == Value.none)=true) from Bg5)]
 show wpAny _ _ (field (.ref it) 1 >>= _) _ _ s
 refine Be8 (Bt1 ho hd (x:=.int i 0) rfl ?_)
 show wpAny _ _ (seqItems? (.ref l) >>= _) _ _ s
 refine Be8 (Ck0 hol hdl ?_)
 simp only [Bz5,hx]
 refine Be8 (Ce3 ho hd (by simp) (Bf5 ⟨x,rfl,Bf5 (hQ _ ?_ (Bv3 ..))⟩))
 exact ⟨_,Bk3 _ ho (Cg8 (Cc2 hd _)),(Obj.cls_mapFields ..).trans hc,by
  rw [Cc2 hd]; simp [Cn7]⟩
theorem Adj {it l i items Q} (hh:A.handled=none) (hit:s.heap.IsTupleIter it l i) (hl:s.heap.IsTuple l items) (hx:items[i]?=none)
  (hE:∀ h' e,Heap.ExtBut it s.heap h'->(∃ o,h'.get? e=some o/\o.cls=.type "StopIteration")->E (.ref e) { s with heap:=h' }):wpAny (model prog w) A (Bt6 (.ref it)) Q E s:=by
 obtain ⟨o,ho,hc,hd⟩:=id hit
 obtain ⟨ol,hol,_,nl,hdl⟩:=hl
 unfold Bt6
 refine Be8 (Bu3 (name:=Bf4 "__next__") hit.typeIs Bw7
  (Br2 Bw7 hit.typeIs F.entry_tuple_iterator_next ?_ (F.args_tuple_iterator_next_1 _)))
 show wpAny _ _ (field (.ref it) 0 >>= _) _ _ s
 refine Be8 (Bt1 ho hd (x:=.ref l) rfl ?_)
 show wpAny _ _ (if (Value.ref l == Value.none)=true then _ else _) _ _ s
 rw [if_neg (show ¬ ((Value.ref l == Value.none)=true) from Bg5)]
 show wpAny _ _ (field (.ref it) 1 >>= _) _ _ s
 refine Be8 (Bt1 ho hd (x:=.int i 0) rfl ?_)
 show wpAny _ _ (seqItems? (.ref l) >>= _) _ _ s
 refine Be8 (Ck0 hol hdl ?_)
 simp only [Bz5,hx]
 refine Be8 (wpAny_rule (Be8 (Ce3 ho hd (by simp) ?_)))
 show wpAny _ _ (newExc (.type "StopIteration") [] >>= _) _ _ _
 refine Be8 ?_
 simp only [newExc,newTuple]
 refine Be8 (Bn8 ?_ (by size_fits))
 refine Be8 (m:=firstArgMember _ _) (Cg7 (a:=Value.none) (by first | rfl | (simp only [firstArgMember]; rfl)) ?_)
 refine Bn8 ?_ (by size_fits)
 refine wpAny_raiseNew_none (by first | exact (show A.in1.handled=none from hh) | exact hh) ?_
 exact hE _ _ (((Bv3 ..).extBut.push _).push _) ⟨_,Bi1 _ rfl,rfl⟩
end
theorem Apr {prog:Program} {w:World} {A:Around} {E:Value->Shared->Prop} {s:Shared} {e it l:Addr} {i:Nat} {items:Array Value} {old:Value} {Q:Option Value->Shared->Prop} (hh:A.handled=none)
  (he:IsEnum s.heap e it i old) (hit:s.heap.IsTupleIter it l i) (hl:s.heap.IsTuple l items) (hx:items[i]?=none)
  (hQ:∀ h',Heap.ExtBut it s.heap h'->Q none { s with heap:=h' }):wpAny (model prog w) A (pyNext (.ref e)) Q E s:=by
 have hT:s.TypeIs (.ref e) "enumerate":=⟨_,he,rfl⟩
 unfold pyNext
 refine Be8 (wpAny_attempt (Bu3 (name:=Bf4 "__next__") hT F.slot_enumerate_next
  (Br2 F.slot_enumerate_next hT F.entry_enumerate_next ?_ (F.args_enumerate_next_1 _))))
 show wpAny _ _ (field (.ref e) 2 >>= _) _ _ _
 refine Be8 (Bt1 he rfl (x:=.ref it) rfl ?_)
 refine Be8 (Adj hh hit hl hx fun h' x he' hx'=>?_)
 obtain ⟨o,ho,hc⟩:=hx'
 refine Be8 (wpAny_isInstance (T:="StopIteration") (b:=true) ⟨o,ho,hc⟩ isSubtype_stop ?_)
 exact Bf5 (hQ _ he')
theorem IsTuple.atT {h h':Heap} {a:Addr} {items:Array Value} (x:h.IsTuple a items) (k:∀ o,h.get? a=some o->h'.get? a=some o):h'.IsTuple a items:=by obtain ⟨o,ho,r⟩:=x; exact ⟨o,k o ho,r⟩
theorem Aze {prog:Program} {w:World} {A:Around} (hh:A.handled=none) (it l:Addr) (hne:l≠it) (items:Array Value) :
  Draws prog w A it [it,l] items.size (fun i v=>items[i]?=some v) (fun i h=>h.IsTupleIter it l i/\h.IsTuple l items) where
 live:=fun _ _ st=>by obtain ⟨o,ho,_⟩:=st.1; exact ⟨o,ho⟩
 frame:=fun _ _ _ st hk=>⟨by obtain ⟨o,ho,r⟩:=st.1; exact ⟨o,hk it (by simp) o ho,r⟩,IsTuple.atT st.2 fun o e=>hk l (by simp) o e⟩
 item:=fun i s Q E hi st hQ=>by
  refine Agq st.1 st.2 (x:=items[i]) (by simp [hi]) fun h' hit' hs'=>?_
  exact hQ _ h' s.toks (by simp [hi]) ⟨hit',st.2.extBut hs'.extBut hne⟩ hs'
 done:=fun s Q E st hE=>Adj hh st.1 st.2 (by simp) hE
theorem Bb1 {M:Model} {A:Around} {b:Bool} {Q:Bool->Shared->Prop} {E:Value->Shared->Prop} {s:Shared} (h:∀ b,Q b s):wpAny M A (pure b) Q E s:=Bf5 (h b)
theorem Ar6 (l:Addr) (items:Array Value) (n:Nat) (dct:Option Addr) (sl:Array (Option Value)) :
  Meets (Bi8.«enumerate.__new__» ⟨[.type "enumerate",.ref l],[]⟩) (fun _ R s=>s.heap.get? l=some { cls:=.type "tuple",dict:=dct,data:=.seq items n,slots:=sl } ∧
   R (.ok (.ret (.ref (s.heap.push { cls:=.type "tuple_iterator",data:=.fields #[.ref l,.int 0 0] }).objs.size)))
    { s with heap:=(s.heap.push { cls:=.type "tuple_iterator",data:=.fields #[.ref l,.int 0 0] }).push { cls:=.type "enumerate",data:=.fields #[.none,.bool false,.ref s.heap.objs.size,Cn7 0,.none,.none] } }):=
 .of_wp fun prog w A R s h=>by
  obtain ⟨hp,g,d,tk,os⟩:=s; obtain ⟨hl,h⟩:=h
  have Aul:=sub_enumerate
  have hL:Heap.IsTuple (Shared.heap ⟨hp,g,d,tk,os⟩) l items:=⟨_,hl,rfl,n,rfl⟩
  wp_walk using AutoSeq1.wpAny_loadPart' hl
  refine wpAny_stack_any fun st=>Bb1 fun b=>?_
  cases b <;> (wp_walk using AutoSeq1.wpAny_loadPart' hl,wpAny_pyIter_tuple hL; exact ⟨_,rfl,h⟩)
theorem Aoc {prog w A E s l items Q} (hL:s.heap.IsTuple l items)
  (h:∀ h',IsEnum h' (s.heap.objs.size + 1) s.heap.objs.size 0 .none->h'.IsTupleIter s.heap.objs.size l 0->h'.objs.size=s.heap.objs.size + 2 ->
   (∀ b o,s.heap.get? b=some o->h'.get? b=some o)->Q (.ref (s.heap.objs.size + 1)) { s with heap:=h' }) :
  wpAny (model prog w) A (call (.type "enumerate") [.ref l]) Q E s:=by
 obtain ⟨⟨c,dct,dt,sl⟩,hl,hc,n,hd⟩:=hL
 replace hc:c=.type "tuple":=hc
 replace hd:dt=.seq items n:=hd
 subst hc hd
 refine callType_new F.called_enumerate (by decide) (F.typeCall_enumerate_1 _) (F.newCall_enumerate_1 _) (fun obj=>F.args_object_init_2 obj _) F.entry_enumerate_new
  (Ar6 l items n dct sl) ⟨hl,?_⟩
 have hz:(s.heap.push { cls:=.type "tuple_iterator",data:=.fields #[.ref l,.int 0 0] }).objs.size=s.heap.objs.size + 1:=Bt9 ..
 show _/\_
 rw [hz]
 have he:IsEnum ((s.heap.push { cls:=.type "tuple_iterator",data:=.fields #[.ref l,.int 0 0] }).push
   { cls:=.type "enumerate",data:=.fields #[.none,.bool false,.ref s.heap.objs.size,Cn7 0,.none,.none] }) (s.heap.objs.size + 1) s.heap.objs.size 0 .none:=by
  have:=Bi1 (s.heap.push { cls:=.type "tuple_iterator",data:=.fields #[.ref l,.int 0 0] })
   (o:={ cls:=.type "enumerate",data:=.fields #[.none,.bool false,.ref s.heap.objs.size,Cn7 0,.none,.none] }) rfl
  rw [hz] at this; exact this
 refine ⟨⟨_,he,rfl⟩,h _ he ⟨_,Bi2 _ (Bi1 _ rfl),rfl,rfl⟩ (by rw [Bt9,hz]) fun b o x=>Bi2 _ (Bi2 _ x)⟩
noncomputable def Azu (env:Env) (b:Addr):Prop:=b=env.locals∨∃ x,(env.kindOf x=some .cell∨env.kindOf x=some .free)/\env.cells.lookup x=some b
section
variable {P:Pm} {B:Bs} {g:Heap} {A:Around} {st:List Env} {env:Env} {σ:Sto} {m:A8} {s:Shared}
inductive Bal (P:Pm) (B:Bs) (g:Heap) (A:Around) (st:List Env) (σ:Sto) (s:Shared) (Z:Addr->Prop):Prop
 | mk (B':Bs) (h1:B'.gk=g) (hr:RepC P B' g A st σ s) (h2:∀ b o,B'.k.get? b=some o ↔ (σ b=none/\¬ Z b/\s.heap.get? b=some o)) (h3:∀ b,B'.k.get? b=none->B.k.get? b=none)
  (h4:∀ g' A' pre st' σ' s',RepC P B' g' A' (pre ++ st') σ' s'->A.frames=some st'->RepC P B g' A st' σ' s')
theorem RepC.step (R:RepC P B g A st σ s) (Z:Addr->Prop) (hZ:∀ b,Z b->B.k.get? b=none) :
   Bal P B g A st σ s Z:=by
 have hk:∀ b o,(Agw s.heap fun a=>σ a≠none∨Z a).get? b=some o ↔ (σ b=none/\¬ Z b/\s.heap.get? b=some o):=fun b o=>by
   rw [Ai0,not_or,and_assoc]; simp
 have low:∀ b,(Agw s.heap fun a=>σ a≠none∨Z a).get? b=none->B.k.get? b=none:=fun b hb=>by
   cases q:B.k.get? b with
   | none=>rfl
   | some o=>
     obtain ⟨o',h1,_⟩:=R.keeps.some q
     have h2:σ b=none:=by
       cases q2:σ b with
       | none=>rfl
       | some x=>have:=(R.sto b x q2).2.1; rw [q] at this; cases this
     have h3:¬ Z b:=fun z=>by rw [hZ b z] at q; cases q
     rw [(hk b o').mpr ⟨h2,h3,h1⟩] at hb; cases hb
 refine ⟨⟨Agw s.heap fun a=>σ a≠none∨Z a,g,s.gens,s.drawn,s.os⟩,rfl,⟨R.pc,R.stack,R.stk,.of_stays fun b o e=>((hk b o).mp e).2.2,R.fz,A2 g,fun a h1 h2=>absurd h2 h1,fun a x e=>?_,rfl,rfl,rfl,R.os.2⟩,hk,low,?_⟩
 · obtain ⟨h1,h2,h3⟩:=R.sto a x e
   refine ⟨h1,?_,h3⟩
   cases q:(Agw s.heap fun a=>σ a≠none∨Z a).get? a with
   | none=>rfl
   | some o=>have:=((hk a o).mp q).1; rw [e] at this; cases this
 · intro g' A' pre st' σ' s' R' hA
   have stk:Stk g' s'.heap st':=by
     have:=R'.stk
     clear R' hA
     induction pre with
     | nil=>exact this
     | cons x r ih=>exact ih this.2.2
   refine ⟨R'.pc,hA,stk,?_,R'.fz,A3 R.ext R'.ext,fun a h1 h2=>?_,fun a x e=>?_,R'.gens.trans R.gens,R'.drawn.trans R.drawn,R'.os.1.trans R.os.1,R'.os.2⟩
   · intro b o e
     have hb:(Agw s.heap fun a=>σ a≠none∨Z a).get? b≠none:=fun q=>by rw [low b q] at e; cases e
     rcases R.keeps b o e with q | ⟨f,sl,q⟩
     · cases q2:(Agw s.heap fun a=>σ a≠none∨Z a).get? b with
       | none=>exact absurd q2 hb
       | some o'=>
        have:=((hk b o').mp q2).2.2; rw [q] at this; cases this
        exact R'.keeps b o q2
     · cases q2:(Agw s.heap fun a=>σ a≠none∨Z a).get? b with
       | none=>exact absurd q2 hb
       | some o'=>
        have:=((hk b o').mp q2).2.2; rw [q] at this; cases this
        rcases R'.keeps b _ q2 with w | ⟨_,sl',w⟩
        · exact .inr ⟨f,sl,w⟩
        · exact .inr ⟨f,sl',w⟩
   · by_cases hg:g.get? a=none
     · exact low a (R'.new a h1 hg)
     · exact R.new a hg h2
   · obtain ⟨h1,h2,h3⟩:=R'.sto a x e
     exact ⟨h1,low a h2,h3⟩
inductive Bb3 (P:Pm) (B:Bs) (g:Heap) (A:Around) (st:List Env) (env:Env) (σ:Sto) (m:A8) (s:Shared):Prop
 | mk (B':Bs) (h1:B'.gk=g) (hr:Rep P B' g A st env σ m s) (h2:∀ b o,s.heap.get? b=some o->σ b=none->¬ Azu env b->B'.k.get? b=some o) (h3:∀ b,B'.k.get? b=none->B.k.get? b=none) (h4:∀ g' σ' m' s',Rep P B' g' A st env σ' m' s'->Rep P B g' A st env σ' m' s')
theorem Rep.step (R:Rep P B g A st env σ m s):Bb3 P B g A st env σ m s:=by
 obtain ⟨B',h1,R1,h2,h3,h4⟩:=R.toRepC.step (Azu env) (fun b hb=>by
  rcases hb with rfl | ⟨x,hx,hc⟩
  · exact R.own.loc.2.1
  · exact (R.own.cel x b hx hc).2.1)
 have kn:∀ b,Azu env b->B'.k.get? b=none:=fun b hb=>by
  cases q:B'.k.get? b with
  | none=>rfl
  | some o=>exact absurd hb ((h2 b o).mp q).2.1
 refine ⟨B',h1,⟨R1,R.fr,⟨⟨R.own.loc.1,kn _ (.inl rfl),R.own.loc.2.2⟩,fun x c hx hc=>⟨(R.own.cel x c hx hc).1,kn c (.inr ⟨x,hx,hc⟩),(R.own.cel x c hx hc).2.2⟩⟩⟩,fun b o a1 a2 a3=>(h2 b o).mpr ⟨a2,a3,a1⟩,h3,fun g' σ' m' s' R'=>?_⟩
 exact ⟨h4 g' A [] st σ' s' R'.toRepC R.stack,R'.fr,⟨⟨R'.own.loc.1,R.own.loc.2.1,R'.own.loc.2.2⟩,fun x c hx hc=>⟨(R'.own.cel x c hx hc).1,(R.own.cel x c hx hc).2.1,(R'.own.cel x c hx hc).2.2⟩⟩⟩
theorem XP.Aip {B' X e} (h:XP P B' A st env g X e s) (hk:∀ b,B'.k.get? b=none->B.k.get? b=none) (hR:∀ g' σ' m' s',Rep P B' g' A st env σ' m' s'->Rep P B g' A st env σ' m' s'):XP P B A st env g X e s:=by
 obtain ⟨g1,σ',m',why,ea,a1,a2,a3,a4,a5⟩:=h
 exact ⟨g1,σ',m',why,ea,a1,hR _ _ _ _ a2,a3,a4.Aip hk,a5⟩
noncomputable def Ai7:Int->Nat->List V
 | _,0=>[]
 | a,n + 1=>.int a :: Ai7 (a + 1) n
theorem Axr:∀ (x:Int) (n:Nat),Ai7 x n.succ=V.int x :: Ai7 (x + 1) n:=by intros; rfl
noncomputable def Aho:Nat->List V->List V
 | _,[]=>[]
 | i,d :: r=>.tup [.int i,d] :: Aho (i + 1) r
theorem Awy:∀ (x:Nat) (d:V) (r:List V),Aho x (d :: r)=V.tup [V.int ↑x,d] :: Aho (x + 1) r:=by intros; rfl
inductive It (B:Bs) (g h:Heap):Bool->Option (Addr × List V)->Addr->List V->Prop
 | list {it l:Addr} {i:Nat} {items:Array Value} {all:List V}:h.IsListIter it l i->g.IsList l items->VRs g items.toList all->g.get? it=none->B.k.get? it=none->It B g h false none it (all.drop i)
 | As8 {it l:Addr} {i:Nat} {all:List V}:h.IsListIter it l i->g.get? it=none->B.k.get? it=none->It B g h false (some (l,all)) it (all.drop i)
 | tup {it l:Addr} {i:Nat} {items:Array Value} {all:List V}:h.IsTupleIter it l i->g.IsTuple l items->VRs g items.toList all->g.get? it=none->B.k.get? it=none->It B g h false none it (all.drop i)
 | rng {it:Addr} {a:Int} {n:Nat}:IsRangeIter h it a n 1->g.get? it=none->B.k.get? it=none->It B g h false none it (Ai7 a n)
 | enum {e it l:Addr} {i:Nat} {items:Array Value} {all:List V} {old:Value}:IsEnum h e it i old->h.IsListIter it l i->g.IsList l items->VRs g items.toList all->e≠it->g.get? it=none->B.k.get? it=none->g.get? e=none->B.k.get? e=none ->
  It B g h true none e (Aho i (all.drop i))
 | As5 {e it l:Addr} {i:Nat} {items:Array Value} {all:List V} {old:Value}:IsEnum h e it i old->h.IsTupleIter it l i->g.IsTuple l items->VRs g items.toList all->e≠it->g.get? it=none->B.k.get? it=none->g.get? e=none->B.k.get? e=none ->
  It B g h true none e (Aho i (all.drop i))
theorem IsList.stays {g h:Heap} {l:Addr} {items:Array Value} (x:g.IsList l items) (k:g.StaysIn h):h.IsList l items:=by obtain ⟨o,a,r⟩:=x; exact ⟨o,k _ _ a,r⟩
theorem IsTuple.stays {g h:Heap} {l:Addr} {items:Array Value} (x:g.IsTuple l items) (k:g.StaysIn h):h.IsTuple l items:=by obtain ⟨o,a,r⟩:=x; exact ⟨o,k _ _ a,r⟩
theorem It.after {B B':Bs} {g g' h h':Heap} {en:Bool} {src:Option (Addr × List V)} {it:Addr} {ds:List V} (x:It B g h en src it ds) (hg:g.StaysIn g')
  (kk:∀ b o,h.get? b=some o->g.get? b=none->(∃ vs,o.data=.fields vs)->B'.k.get? b=some o) (hK:Keeps B'.k h') (hn:∀ b,g'.get? b≠none->g.get? b=none->B'.k.get? b=none):It B g' h' en src it ds:=by
 have mv:∀ b o,h.get? b=some o->g.get? b=none->(∃ vs,o.data=.fields vs)->h'.get? b=some o/\g'.get? b=none:=fun b o e eg hf=>by
  have q:=kk b o e eg hf
  refine ⟨?_,?_⟩
  · rcases hK b o q with w | ⟨f,_⟩
    · exact w
    · obtain ⟨vs,hv⟩:=hf; obtain ⟨_,es,n,hd⟩:=f; rw [hv] at hd; cases hd
  · cases w:g'.get? b with
    | none=>rfl
    | some o'=>have:=hn b (by rw [w]; simp) eg; rw [q] at this; cases this
 induction x using It.casesOn with
 | list a b c d e=>
  obtain ⟨o,h1,h2,h3⟩:=a
  obtain ⟨q1,q2⟩:=mv _ o h1 d ⟨_,h3⟩
  exact .list ⟨o,q1,h2,h3⟩ (IsList.stays b hg) (c.mono hg) q2 e
 | As8 a d e=>
  obtain ⟨o,h1,h2,h3⟩:=a
  obtain ⟨q1,q2⟩:=mv _ o h1 d ⟨_,h3⟩
  exact .As8 ⟨o,q1,h2,h3⟩ q2 e
 | tup a b c d e=>
  obtain ⟨o,h1,h2,h3⟩:=a
  obtain ⟨q1,q2⟩:=mv _ o h1 d ⟨_,h3⟩
  exact .tup ⟨o,q1,h2,h3⟩ (IsTuple.stays b hg) (c.mono hg) q2 e
 | rng a d e=>
  obtain ⟨q1,q2⟩:=mv _ _ a d ⟨_,rfl⟩
  exact .rng q1 q2 e
 | enum a b c d e f1 f2 f3 f4=>
  obtain ⟨q1,q2⟩:=mv _ _ a f3 ⟨_,rfl⟩
  obtain ⟨o,h1,h2,h3⟩:=b
  obtain ⟨q3,q4⟩:=mv _ o h1 f1 ⟨_,h3⟩
  exact .enum q1 ⟨o,q3,h2,h3⟩ (IsList.stays c hg) (d.mono hg) e q4 f2 q2 f4
 | As5 a b c d e f1 f2 f3 f4=>
  obtain ⟨q1,q2⟩:=mv _ _ a f3 ⟨_,rfl⟩
  obtain ⟨o,h1,h2,h3⟩:=b
  obtain ⟨q3,q4⟩:=mv _ o h1 f1 ⟨_,h3⟩
  exact .As5 q1 ⟨o,q3,h2,h3⟩ (IsTuple.stays c hg) (d.mono hg) e q4 f2 q2 f4
theorem It.through {B':Bs} {g' g4:Heap} {σ4:Sto} {m4:A8} {s4:Shared} {en:Bool} {src:Option (Addr × List V)} {it:Addr} {r:List V} (R':Rep P B g' A st env σ m s) (hB1:B'.gk=g') (hB2:∀ b o,s.heap.get? b=some o->σ b=none->¬ Azu env b->B'.k.get? b=some o)
  (hi':It B g' s.heap en src it r) (hg4:g'.StaysIn g4) (hr4:Rep P B' g4 A st env σ4 m4 s4):It B g4 s4.heap en src it r:=
 hi'.after (B':=B') hg4 (fun b o e eg hf=>hB2 b o e (by
  cases q:σ b with
  | none=>rfl
  | some x=>obtain ⟨_,_,o',w1,w2⟩:=R'.sto b x q; rw [e] at w1; cases w1; obtain ⟨vs,hv⟩:=hf; exact absurd hv (w2.An6 vs)) (by
  rintro (rfl | ⟨x,hx,hxc⟩)
  · obtain ⟨ml,⟨o',es,ep,w1,w2,_⟩,_⟩:=R'.fr.ns
    rw [e] at w1; cases w1; obtain ⟨vs,hv⟩:=hf; rw [hv] at w2; cases w2
  · obtain ⟨c,cv,w1,⟨o',w2,w3⟩,_⟩:=R'.fr.cel x hx
    rw [hxc] at w1; cases w1; rw [e] at w2; cases w2; obtain ⟨vs,hv⟩:=hf; rw [hv] at w3; cases w3)) hr4.keeps (fun b w1 w2=>hr4.new b w1 (hB1 ▸ w2))
theorem drop_cons {α:Type} {all:List α} {i:Nat} {d:α} {r:List α} (h:all.drop i=d :: r):all[i]?=some d/\all.drop (i + 1)=r:=by
 have h1:all[i]?=some d:=by
  have:=congrArg (fun l=>l[0]?) h
  simpa using this
 refine ⟨h1,?_⟩
 have:=congrArg (fun l=>l.drop 1) h
 simpa [Cc4,Bl9] using this
theorem drop_nil {α:Type} {all:List α} {i:Nat} (h:all.drop i=[]):all[i]?=none:=by
 have:=congrArg (fun l=>l[0]?) h
 simpa using this
theorem VRs.none_of {g:Heap} {vs:List Value} {ds:List V} (h:VRs g vs ds) {k:Nat} (e:ds[k]?=none):vs[k]?=none:=by
 rw [List.getElem?_eq_none_iff] at e ⊢; rw [h.length]; exact e
theorem Aaw {a h h'} (k:∀ b o,b≠a->h.get? b=some o->h'.get? b=some o):Ahk (·=a) g h h':=fun b o e n=>.inl (k b o n e)
inductive NxP (P:Pm) (B:Bs) (g:Heap) (A:Around) (st:List Env) (env:Env) (σ:Sto) (m:A8) (en:Bool) (src:Option (Addr × List V)) (it:Addr) (ds:List V) (v:Value) (s':Shared):Prop
 | mk (d:V) (r:List V) (g':Heap) (e:ds=d :: r) (hg:g.StaysIn g') (hr:Rep P B g' A st env σ m s') (hv:VR g' v d) (hi:It B g' s'.heap en src it r)
theorem It.next {en:Bool} {src:Option (Addr × List V)} {it:Addr} {ds:List V} {target:Expr} {K:Option Value->Shared->Prop} {E:Value->Shared->Prop} (R:Rep P B g A st env σ m s) (hh:A.handled=none)
  (x:It B g s.heap en src it ds) (Auq:∀ l all,src=some (l,all)->σ l=some (.list all))
  (hgo:(∃ elts k pos,target=.Tuple elts k pos)∨((∀ v,Bl4 target (.ref it) v=pure ())/\en=false))
  (Aor:ds=[]->∀ h',Rep P B g A st env σ m { s with heap:=h' }->K none { s with heap:=h' })
  (Afr:∀ d r,ds=d :: r->∀ v g' h' tk,g.StaysIn g'->Rep P B g' A st env σ m { s with heap:=h',toks:=tk }->VR g' v d->It B g' h' en src it r->K (some v) { s with heap:=h',toks:=tk }) :
  wpAny (model P.prog P.w) A (pyNext (.ref it)) (fun r s₁=>match r with
   | none=>K none s₁
   | some v=>wpAny (model P.prog P.w) A (Bl4 target (.ref it) v) (fun _ s₂=>K (some v) s₂) E s₁) E s:=by
 have zok:∀ b:Addr,b=it->g.get? it=none->B.k.get? it=none->(∃ o,s.heap.get? it=some o/\∃ vs,o.data=.fields vs)->Fld g B.k s.heap b:=by
  rintro b rfl h1 h2 ⟨o,h3,vs,h4⟩; exact ⟨h1,h2,o,h3,vs,h4⟩
 have letgo:∀ (h':Heap) (tk:Nat) (v:Value) (o:Obj) (n:String) (vs:Array Value),h'.get? it=some o->o.cls=.type n->o.data=.fields vs->["enumerate","zip","dict_itemiterator","dict_reverseitemiterator","odict_iterator","itertools.zip_longest","itertools.pairwise"].contains n=false->K (some v) { s with heap:=h',toks:=tk } ->
   wpAny (model P.prog P.w) A (Bl4 target (.ref it) v) (fun _ s₂=>K (some v) s₂) E { s with heap:=h',toks:=tk }:=by
  intro h' tk v o n vs ho hc hd hz hK
  cases hgo with
  | inl hgo=>
   obtain ⟨elts,k,pos,rfl⟩:=hgo
   cases v with
   | ref a=>
     refine Be8 (wpAny_load ho ?_)
     rw [hc,hd]
     dsimp only
     rw [hz,Co3,if_neg Bg5]
     exact Bf5 hK
   | _=>exact Bf5 hK
  | inr hgo=>rw [hgo.1]; exact Bf5 hK
 induction x using It.casesOn with
 | @list it l i items all a b c d e=>
  obtain ⟨o,ho,hoc,hod⟩:=id a
  cases hds:all.drop i with
  | nil=>
   refine wpAny_pyNext_list_end hh a (IsList.stays b R.fz) (by rw [<- Bi9]; exact c.none_of (drop_nil hds)) fun h' hk=>Aor hds h' ?_
   exact R.B3 (fun b hb=>zok b hb d e ⟨o,ho,_,hod⟩) (Aaw hk) s.toks
  | cons d0 r=>
   obtain ⟨q1,q2⟩:=drop_cons hds
   obtain ⟨v,hv,rv⟩:=c.get q1
   refine wpAny_pyNext_list_item a (IsList.stays b R.fz) (by rw [<- Bi9]; exact hv) fun h' hit hs=>?_
   obtain ⟨o',ho',hoc',hod'⟩:=id hit
   refine letgo h' s.toks v o' _ _ ho' hoc' hod' (by decide) (Afr d0 r hds v g h' s.toks (A2 g) (R.B3 (fun b hb=>zok b hb d e ⟨o,ho,_,hod⟩) (Aaw hs.extBut) s.toks) rv ?_)
   rw [<- q2]; exact .list hit b c d e
 | @As8 it l i all a d e=>
  obtain ⟨o,ho,hoc,hod⟩:=id a
  obtain ⟨_,_,ol,hol,hcl,items,nl,hdl,c,_⟩:=R.sto l _ (Auq l all rfl)
  have b:s.heap.IsList l items:=⟨ol,hol,hcl,nl,hdl⟩
  cases hds:all.drop i with
  | nil=>
   refine wpAny_pyNext_list_end hh a b (by rw [<- Bi9]; exact c.none_of (drop_nil hds)) fun h' hk=>Aor hds h' ?_
   exact R.B3 (fun b hb=>zok b hb d e ⟨o,ho,_,hod⟩) (Aaw hk) s.toks
  | cons d0 r=>
   obtain ⟨q1,q2⟩:=drop_cons hds
   obtain ⟨v,hv,rv⟩:=c.get q1
   refine wpAny_pyNext_list_item a b (by rw [<- Bi9]; exact hv) fun h' hit hs=>?_
   obtain ⟨o',ho',hoc',hod'⟩:=id hit
   refine letgo h' s.toks v o' _ _ ho' hoc' hod' (by decide) (Afr d0 r hds v g h' s.toks (A2 g) (R.B3 (fun b hb=>zok b hb d e ⟨o,ho,_,hod⟩) (Aaw hs.extBut) s.toks) rv ?_)
   rw [<- q2]; exact .As8 hit d e
 | @tup it l i items all a b c d e=>
  obtain ⟨o,ho,hoc,hod⟩:=id a
  cases hds:all.drop i with
  | nil=>
   refine wpAny_pyNext_tuple_end hh a (IsTuple.stays b R.fz) (by rw [<- Bi9]; exact c.none_of (drop_nil hds)) fun h' hk=>Aor hds h' ?_
   exact R.B3 (fun b hb=>zok b hb d e ⟨o,ho,_,hod⟩) (Aaw hk) s.toks
  | cons d0 r=>
   obtain ⟨q1,q2⟩:=drop_cons hds
   obtain ⟨v,hv,rv⟩:=c.get q1
   refine wpAny_pyNext_tuple_item a (IsTuple.stays b R.fz) (by rw [<- Bi9]; exact hv) fun h' hit hs=>?_
   obtain ⟨o',ho',hoc',hod'⟩:=id hit
   refine letgo h' s.toks v o' _ _ ho' hoc' hod' (by decide) (Afr d0 r hds v g h' s.toks (A2 g) (R.B3 (fun b hb=>zok b hb d e ⟨o,ho,_,hod⟩) (Aaw hs.extBut) s.toks) rv ?_)
   rw [<- q2]; exact .tup hit b c d e
 | @rng it a0 n a d e=>
  cases n with
  | zero=>
   refine wpAny_pyNext_range_end hh a (by simp) fun h' hk=>Aor rfl h' ?_
   exact R.B3 (fun b hb=>zok b hb d e ⟨_,a,_,rfl⟩) (Aaw hk) s.toks
  | succ n=>
   refine wpAny_pyNext_range_item a (Bn1.mpr (Bp9 _)) fun h' hit hs=>?_
   refine letgo h' (s.toks + 1) _ _ _ _ hit rfl rfl (by decide) (Afr _ _ rfl _ g h' (s.toks + 1) (A2 g) (R.B3 (fun b hb=>zok b hb d e ⟨_,a,_,rfl⟩) (Aaw hs.extBut) (s.toks + 1)) (.int _ _) ?_)
   refine .rng ?_ d e
   have e1:((n + 1:Nat):Int) - 1=(n:Int):=Cj9 (n:Int) 1
   rw [e1] at hit
   exact hit
 | @enum it it2 l i items all old a b c d hne f1 f2 f3 f4=>
  have hZ:∀ z,z=it∨z=it2->Fld g B.k s.heap z:=by
   rintro z (rfl | rfl)
   · exact ⟨f3,f4,_,a,_,rfl⟩
   · obtain ⟨o,q1,q2,q3⟩:=b
     exact ⟨f1,f2,o,q1,_,q3⟩
  cases hds:all.drop i with
  | nil=>
   rw [hds] at Aor
   refine wpAny_pyNext_enum_end hh a b (IsList.stays c R.fz) (by rw [<- Bi9]; exact d.none_of (drop_nil hds)) fun h' hk=>Aor rfl h' ?_
   exact R.B3 hZ (fun z o q n=>.inl (hk z o (fun w=>n (.inr w)) q)) s.toks
  | cons d0 r=>
   rw [hds] at Afr
   obtain ⟨q1,q2⟩:=drop_cons hds
   obtain ⟨v,hv,rv⟩:=d.get q1
   refine wpAny_pyNext_enum_item a b (IsList.stays c R.fz) (by rw [<- Bi9]; exact hv) hne fun h' heo hit htu hsz hk=>?_
   have R1:=R.B3 hZ (fun z o q n=>.inl (hk z o (fun w=>n (.inl w)) (fun w=>n (.inr w)) q)) (s.toks + 1)
   have ne1:s.heap.objs.size≠it:=Bq0 (Bl2 a)
   have ne2:s.heap.objs.size≠it2:=by obtain ⟨o,q,_⟩:=b; exact Bq0 (Bl2 q)
   obtain ⟨ml,⟨oL,es,ep,hL,_⟩,_⟩:=R.fr.ns
   have R2:=R1.grow (s:={ s with heap:=h',toks:=s.toks + 1 }) htu (Aa0 R.keeps (Ak _)) (R.Aas (Ak _)) (fun f=>by have q:Value.type "tuple"=Value.type "frame":=f.1; exact absurd q (by decide)) (Bq0 (Bl2 hL)) (fun y c hy hc=>by
     obtain ⟨c',cv,w1,w2,_⟩:=R.fr.cel y hy
     rw [hc] at w1; cases w1
     exact Bl8 w2.lt)
   have gs:g.StaysIn (Adm g h' s.heap.objs.size):=Aa4 R1.fz
   have rv':VR (Adm g h' s.heap.objs.size) (.ref s.heap.objs.size) (.tup [.int i,d0]):=.tup (Abt.trans htu) rfl rfl (.cons (.int _ _) (.one (rv.mono gs)))
   have goFin:∀ h'' old',IsEnum h'' it it2 ((i:Int) + 1) old'->Bq6 it h' h''->K (some (.ref s.heap.objs.size)) { s with heap:=h'',toks:=s.toks + 1 }:=by
     intro h'' old' he'' hs''
     have R3:=R2.B3 (h':=h'') (Z:=(·=it)) (fun z hz=>by subst hz; exact ⟨Aa8 (Bq1 ne1) f3,f4,_,heo,_,rfl⟩) (Aaw hs''.extBut) (s.toks + 1)
     refine Afr _ _ rfl _ _ h'' (s.toks + 1) gs R3 rv' ?_
     rw [<- q2]
     have e1:((i + 1:Nat):Int)=(i:Int) + 1:=by push_cast; rfl
     obtain ⟨o,w1,w2,w3⟩:=hit
     exact .enum (by rw [e1]; exact he'') ⟨o,(hs''.2 it2 (Bq1 hne)).trans w1,w2,w3⟩ (IsList.stays c gs) (d.mono gs) hne (Aa8 (Bq1 ne2) f1) f2 (Aa8 (Bq1 ne1) f3) f4
   rcases hgo with ⟨elts,k,pos,rfl⟩ | ⟨_,hno⟩
   · exact wpAny_letOwnedTupleGo_enum (s:={ s with heap:=h',toks:=s.toks + 1 }) heo fun h'' he'' hs''=>goFin h'' v he'' hs''
   · cases hno
 | @As5 it it2 l i items all old a b c d hne f1 f2 f3 f4=>
  have hZ:∀ z,z=it∨z=it2->Fld g B.k s.heap z:=by
   rintro z (rfl | rfl)
   · exact ⟨f3,f4,_,a,_,rfl⟩
   · obtain ⟨o,q1,q2,q3⟩:=b
     exact ⟨f1,f2,o,q1,_,q3⟩
  have hll:l≠it2:=by
   rintro rfl
   obtain ⟨o,q,_⟩:=c
   rw [f1] at q; cases q
  have hel:it≠l:=by
   rintro rfl
   obtain ⟨o,q,_⟩:=c
   rw [f3] at q; cases q
  have hil:∀ {v},items.toList[i]?=some v->i < items.size:=fun {v} q=>by
   rw [Bf7] at q
   obtain ⟨q,_⟩:=q
   simpa using q
  cases hds:all.drop i with
  | nil=>
   rw [hds] at Aor
   refine Apr hh a b (IsTuple.stays c R.fz) (by rw [<- Bi9]; exact d.none_of (drop_nil hds)) fun h' hk=>Aor rfl h' ?_
   exact R.B3 hZ (fun z o q n=>.inl (hk z o (fun w=>n (.inr w)) q)) s.toks
  | cons d0 r=>
   rw [hds] at Afr
   obtain ⟨q1,q2⟩:=drop_cons hds
   obtain ⟨v,hv,rv⟩:=d.get q1
   refine wpAny_pyNext_enum_itemD (Aze (A:=A.in1) hh it2 l hll items) a ⟨b,IsTuple.stays c R.fz⟩ (hil hv) hne (by simp [hne,hel]) fun x h' tk hx heo hst htu hsz hk=>?_
   have hit:=hst.1
   have ex:x=v:=by rw [<- Bi9,hv] at hx; exact (Bq9 hx).symm
   subst ex
   have R1:=R.B3 hZ (fun z o q n=>.inl (hk z o (fun w=>n (.inl w)) (fun w=>n (.inr w)) q)) (tk + 1)
   have ne1:s.heap.objs.size≠it:=Bq0 (Bl2 a)
   have ne2:s.heap.objs.size≠it2:=by obtain ⟨o,q,_⟩:=b; exact Bq0 (Bl2 q)
   obtain ⟨ml,⟨oL,es,ep,hL,_⟩,_⟩:=R.fr.ns
   have R2:=R1.grow (s:={ s with heap:=h',toks:=tk + 1 }) htu (Aa0 R.keeps (Ak _)) (R.Aas (Ak _)) (fun f=>by have q:Value.type "tuple"=Value.type "frame":=f.1; exact absurd q (by decide)) (Bq0 (Bl2 hL)) (fun y c hy hc=>by
     obtain ⟨c',cv,w1,w2,_⟩:=R.fr.cel y hy
     rw [hc] at w1; cases w1
     exact Bl8 w2.lt)
   have gs:g.StaysIn (Adm g h' s.heap.objs.size):=Aa4 R1.fz
   have rv':VR (Adm g h' s.heap.objs.size) (.ref s.heap.objs.size) (.tup [.int i,d0]):=.tup (Abt.trans htu) rfl rfl (.cons (.int _ _) (.one (rv.mono gs)))
   have goFin:∀ h'' old',IsEnum h'' it it2 ((i:Int) + 1) old'->Bq6 it h' h''->K (some (.ref s.heap.objs.size)) { s with heap:=h'',toks:=tk + 1 }:=by
     intro h'' old' he'' hs''
     have R3:=R2.B3 (h':=h'') (Z:=(·=it)) (fun z hz=>by subst hz; exact ⟨Aa8 (Bq1 ne1) f3,f4,_,heo,_,rfl⟩) (Aaw hs''.extBut) (tk + 1)
     refine Afr _ _ rfl _ _ h'' (tk + 1) gs R3 rv' ?_
     rw [<- q2]
     have e1:((i + 1:Nat):Int)=(i:Int) + 1:=by push_cast; rfl
     obtain ⟨o,w1,w2,w3⟩:=hit
     exact .As5 (by rw [e1]; exact he'') ⟨o,(hs''.2 it2 (Bq1 hne)).trans w1,w2,w3⟩ (IsTuple.stays c gs) (d.mono gs) hne (Aa8 (Bq1 ne2) f1) f2 (Aa8 (Bq1 ne1) f3) f4
   rcases hgo with ⟨elts,k,pos,rfl⟩ | ⟨_,hno⟩
   · exact wpAny_letOwnedTupleGo_enum (s:={ s with heap:=h',toks:=tk + 1 }) heo fun h'' he'' hs''=>goFin h'' x he'' hs''
   · cases hno
end
section
variable {P:Pm} {n:Nat} {fx:Fx} {σ:Sto} {m:A8} {X:Xt}
theorem Awi {Q} (h:Q .next σ m):Exs P n fx [] σ m Q X:=
 fun A st B g env s he hr hm=>Cp6 ⟨g,σ,m,.next,A2 g,hr,.next,h⟩
theorem Ajo {t rest Q} (h:Ex P n fx t σ m (fun f σ' m'=>match f with | .next=>Exs P n fx rest σ' m' Q X | f=>Q f σ' m') X):Exs P n fx (t :: rest) σ m Q X:=
 fun A st B g env s he hr hm=>Cb5 (Bf2 (h A st B g env s he hr hm) (fun f s' qA=>by
  obtain ⟨g',σ',m',b,hg,hr',hf,hq⟩:=qA
  induction hf using Alj.casesOn with
  | next=>exact Bf2 (hq A st B g' env s' he hr' hm) (fun _ _ q=>q.mono hg fun _ _ _ x=>x) fun _ _ q=>q.mono hg fun _ _ _ x=>x
  | brk=>exact ⟨g',σ',m',_,hg,hr',.brk,hq⟩
  | cont=>exact ⟨g',σ',m',_,hg,hr',.cont,hq⟩
  | ret r=>exact ⟨g',σ',m',_,hg,hr',.ret r,hq⟩) fun _ _ q=>q)
theorem Ape {x p' pos e Q} (hk:fx.sc.names.lookup x=some .local∨fx.sc.names.lookup x=some .cell) (h:Ev P n fx e σ m (fun v σ'=>Q .next σ' (m.put x v)) X)
  (hs:∀ env,Cc8 e (some (.Name x p')) pos.line env=pure false):Ex P n fx (.Assign [.Name x p'] e pos) σ m Q X:=
 fun A st B g env s he hr hm=>wpAny_Assign_Name (Bf2 (h A st B g env s he hr hm) (fun v s' qB=>by
  obtain ⟨g',σ',m',b,hg,hr',hv,hm',hq⟩:=qB
  subst hm'
  exact Aux he hr' hk hv fun h' tk R' _ _=>⟨g',σ',_,.next,hg,R',.next,hq⟩) fun _ _ q=>q) (hs env)
theorem Bb5 {test body orelse pos Q} (h:Tt P n fx test σ m (fun b σ'=>if b then Exs P n fx body σ' m Q X else Exs P n fx orelse σ' m Q X) X):Ex P n fx (.If test body orelse pos) σ m Q X:=
 fun A st B g env s he hr hm=>wpAny_If (Bf2 (h A st B g env s he hr hm) (fun b s' qC=>by
  obtain ⟨g',σ',m',b',hg,hr',hv,hm',hq⟩:=qC
  obtain rfl:b=b':=hv
  subst hm'
  cases b with
  | true=>exact Bf2 (hq A st B g' env s' he hr' hm) (fun _ _ q=>q.mono hg fun _ _ _ x=>x) fun _ _ q=>q.mono hg fun _ _ _ x=>x
  | false=>exact Bf2 (hq A st B g' env s' he hr' hm) (fun _ _ q=>q.mono hg fun _ _ _ x=>x) fun _ _ q=>q.mono hg fun _ _ _ x=>x) fun _ _ q=>q)
theorem Apa {e pos Q} (h:Ev P n fx e σ m (fun v σ'=>Q (.ret v) σ' m) X):Ex P n fx (.Return (some e) pos) σ m Q X:=
 fun A st B g env s he hr hm=>wpAny_Return_some (Bf2 (h A st B g env s he hr hm) (fun v s' qD=>by
  obtain ⟨g',σ',m',b,hg,hr',hv,hm',hq⟩:=qD
  subst hm'; exact ⟨g',σ',_,.ret b,hg,hr',.ret hv,hq⟩) fun _ _ q=>q)
theorem Aqk {e pos Q} (h:Ev P n fx e σ m (fun v σ'=>v=.none/\Q .next σ' m) X)
  (hs:∀ env,Cc8 e none pos.line env=pure false:=by intro _; rfl):Ex P n fx (.Expr e pos) σ m Q X:=
 fun A st B g env s he hr hm=>wpAny_Expr (Bf2 (h A st B g env s he hr hm) (fun v s' qE=>by
  obtain ⟨g',σ',m',b,hg,hr',hv,hm',hb,hq⟩:=qE
  subst hm'; subst hb; obtain ⟨_,rfl⟩:=hv.inv; exact ⟨g',σ',_,.next,hg,hr',.next,hq⟩) fun _ _ q=>q)
  (by unfold interactive; rw [he.sc,he.kind]; rfl) (hs env)
theorem Am5 {pos Q} (h:Q .cont σ m):Ex P n fx (.Continue pos) σ m Q X:=
 fun A st B g env s he hr hm=>wpAny_Continue ⟨g,σ,m,.cont,A2 g,hr,.cont,h⟩
theorem Az2 {x pos Q} (h:Tt P n fx x σ m (fun b σ'=>Q (!b) σ') X):Tt P n fx (.UnaryOp .Not x pos) σ m Q X:=
 fun A st B g env s he hr hm=>wpAny_isTrue_Not (Bf2 (h A st B g env s he hr hm) (fun b s' qF=>by
  obtain ⟨g',σ',m',b',hg,hr',hv,hm',hq⟩:=qF
  obtain rfl:b=b':=hv
  exact ⟨g',σ',m',_,hg,hr',rfl,hm',hq⟩) fun _ _ q=>q)
noncomputable def At (P:Pm) (n:Nat) (fx:Fx) (op:BoolOp) (es:List Expr) (σ:Sto) (m:A8) (Q:Bool->Sto->Prop) (X:Xt):Prop:=
 JS EqR P n fx (fun env=>allTrue op es env) σ m (fun v σ' m'=>m'=m/\Q v σ') X
theorem Ari {op es pos Q} (h:At P n fx op es σ m Q X):Tt P n fx (.BoolOp op es pos) σ m Q X:=
 fun A st B g env s he hr hm=>wpAny_isTrue_BoolOp (h A st B g env s he hr hm)
theorem Aop {Q} (h:Q true σ):At P n fx .And [] σ m Q X:=
 fun A st B g env s he hr hm=>wpAny_allTrue_And_nil ⟨g,σ,m,true,A2 g,hr,rfl,rfl,h⟩
theorem Apm {Q} (h:Q false σ):At P n fx .Or [] σ m Q X:=
 fun A st B g env s he hr hm=>wpAny_allTrue_Or_nil ⟨g,σ,m,false,A2 g,hr,rfl,rfl,h⟩
theorem Ayq {e es Q} (h:Tt P n fx e σ m (fun b σ'=>if b then At P n fx .And es σ' m Q X else Q false σ') X):At P n fx .And (e :: es) σ m Q X:=
 fun A st B g env s he hr hm=>wpAny_allTrue_And_cons (Bf2 (h A st B g env s he hr hm) (fun b s' qG=>by
  obtain ⟨g',σ',m',b',hg,hr',hv,hm',hq⟩:=qG
  obtain rfl:b=b':=hv
  subst hm'
  cases b with
  | true=>exact Bf2 (hq A st B g' env s' he hr' hm) (fun _ _ q=>q.mono hg fun _ _ _ x=>x) fun _ _ q=>q.mono hg fun _ _ _ x=>x
  | false=>exact ⟨g',σ',_,false,hg,hr',rfl,rfl,hq⟩) fun _ _ q=>q)
theorem Baq {e es Q} (h:Tt P n fx e σ m (fun b σ'=>if b then Q true σ' else At P n fx .Or es σ' m Q X) X):At P n fx .Or (e :: es) σ m Q X:=
 fun A st B g env s he hr hm=>wpAny_allTrue_Or_cons (Bf2 (h A st B g env s he hr hm) (fun b s' qH=>by
  obtain ⟨g',σ',m',b',hg,hr',hv,hm',hq⟩:=qH
  obtain rfl:b=b':=hv
  subst hm'
  cases b with
  | true=>exact ⟨g',σ',_,true,hg,hr',rfl,rfl,hq⟩
  | false=>exact Bf2 (hq A st B g' env s' he hr' hm) (fun _ _ q=>q.mono hg fun _ _ _ x=>x) fun _ _ q=>q.mono hg fun _ _ _ x=>x) fun _ _ q=>q)
theorem Atu {test body orelse pos Q} (h:Tt P n fx test σ m (fun b σ'=>if b then Ev P n fx body σ' m Q X else Ev P n fx orelse σ' m Q X) X):Ev P n fx (.IfExp test body orelse pos) σ m Q X:=
 fun A st B g env s he hr hm=>wpAny_IfExp (Bf2 (h A st B g env s he hr hm) (fun b s' qI=>by
  obtain ⟨g',σ',m',b',hg,hr',hv,hm',hq⟩:=qI
  obtain rfl:b=b':=hv
  subst hm'
  cases b with
  | true=>exact Bf2 (hq A st B g' env s' he hr' hm) (fun _ _ q=>q.mono hg fun _ _ _ x=>x) fun _ _ q=>q.mono hg fun _ _ _ x=>x
  | false=>exact Bf2 (hq A st B g' env s' he hr' hm) (fun _ _ q=>q.mono hg fun _ _ _ x=>x) fun _ _ q=>q.mono hg fun _ _ _ x=>x) fun _ _ q=>q)
noncomputable def Wl (P:Pm) (n:Nat) (fx:Fx) (test:Expr) (body:List Stmt) (σ:Sto) (m:A8) (Q:Flw->Sto->A8->Prop) (X:Xt):Prop:=
 ∀ A st B g env s,Ad2 fx env st->Rep P B g A st env σ m s->Bg A n ->
  Cb7 (model P.prog P.w) A (.whileLoop test body [] env) (fun r s'=>match r with | .ok f=>NP Alj P B A st env g Q f s' | .error e=>Cf7 (model P.prog P.w) A env (XP P B A st env g X) e s') s
theorem Ata {test body pos Q} (h:Wl P n fx test body σ m Q X):Ex P n fx (.While test body [] pos) σ m Q X:=
 fun A st B g env s he hr hm=>wpAny_While (h A st B g env s he hr hm)
theorem Avn {test body Q} (hc:fx.comp=false)
  (h:Tt P n fx test σ m (fun b σ'=>if b then Exs P n fx body σ' m (fun f σ'' m''=>match f with | .next | .cont=>Wl P n fx test body σ'' m'' Q X | .brk=>Q .next σ'' m'' | .ret v=>Q (.ret v) σ'' m'') X else Q .next σ' m) X) :
  Wl P n fx test body σ m Q X:=fun A st B g env s he hr hm=>by
 refine Cc9 ?_
 show wpAny _ A ((whileTurn test body [] env).onRaise (fun x=>do Cm2 x env; Cp7 x)) _ _ s
 refine wpAny_noted ?_
 simp only [whileTurn]
 refine Be8 (Bf2 (h A st B g env s he hr hm) (fun b s₂ qM=>?_) fun e s' hx=>hx.passes he hc)
 obtain ⟨g',σ',m',b',hg,hr',hv,hm',hq⟩:=qM
 obtain rfl:b=b':=hv
 subst hm'
 cases b with
 | false=>
  simp only [Bp6,if_false] at hq ⊢
  exact Be8 (Bf5 (Bf5 ⟨g',σ',_,.next,hg,hr',.next,hq⟩))
 | true=>
  simp only [if_true] at hq ⊢
  refine Be8 (Bf2 (hq A st B g' env s₂ he hr' hm) (fun f s₃ qM=>?_) fun e s' hx=>(hx.mono hg fun _ _ _ x=>x).passes he hc)
  obtain ⟨g2,σ2,m2,b2,hg2,hr2,hf,hq2⟩:=qM
  have fin:Wl P n fx test body σ2 m2 Q X->(Code.whileLoop test body [] env).quiet=true/\Cb7 (model P.prog P.w) A (.whileLoop test body [] env) (fun r s'=>match r with | .ok f=>NP Alj P B A st env g Q f s' | .error e=>Cf7 (model P.prog P.w) A env (XP P B A st env g X) e s') s₃:=fun w=>
   ⟨rfl,Bp4 (w A st B g2 env s₃ he hr2 hm) fun r s' hh=>by
    have gg:g.StaysIn g2:=A3 hg hg2
    cases r with
    | ok f=>exact hh.mono gg fun _ _ _ x=>x
    | error e=>exact Bf2 hh (fun _ _ q=>q.mono gg fun _ _ _ x=>x) fun _ _ q=>q.mono gg fun _ _ _ x=>x⟩
  induction hf using Alj.casesOn with
  | next=>exact Bf5 (fin hq2)
  | cont=>exact Bf5 (fin hq2)
  | brk=>exact Bf5 ⟨g2,σ2,m2,.next,A3 hg hg2,hr2,.next,hq2⟩
  | ret r=>exact Bf5 ⟨g2,σ2,m2,_,A3 hg hg2,hr2,.ret r,hq2⟩
end
inductive BdP (P:Pm) (B:Bs) (A:Around) (st:List Env) (env:Env) (g:Heap) (Q:Sto->A8->Prop) (s':Shared):Prop
 | mk (g':Heap) (σ':Sto) (m':A8) (hg:g.StaysIn g') (hr:Rep P B g' A st env σ' m' s') (hq:Q σ' m')
theorem BdP.mono {P B A st env g g' Q Q' s} (h:BdP P B A st env g' Q s) (k:g.StaysIn g') (hx:∀ σ m,Q σ m->Q' σ m):BdP P B A st env g Q' s:=by
 obtain ⟨g2,σ',m',h1,h2,h4⟩:=h
 exact ⟨g2,σ',m',A3 k h1,h2,hx _ _ h4⟩
noncomputable def Bd (P:Pm) (n:Nat) (fx:Fx) (t:Expr) (d:V) (σ:Sto) (m:A8) (Q:Sto->A8->Prop) (X:Xt):Prop:=
 ∀ A st B g env s v,Ad2 fx env st->Rep P B g A st env σ m s->Bg A n->VR g v d ->
  wpAny (model P.prog P.w) A (assign t env v) (fun _ s'=>BdP P B A st env g Q s') (XP P B A st env g X) s
noncomputable def Bds (P:Pm) (n:Nat) (fx:Fx) (ts:List Expr) (ds:List V) (σ:Sto) (m:A8) (Q:Sto->A8->Prop) (X:Xt):Prop:=
 ∀ A st B g env s vs,Ad2 fx env st->Rep P B g A st env σ m s->Bg A n->VRs g vs ds ->
  wpAny (model P.prog P.w) A (assignInOrder ((Ca2 ts env).map (·.2)) vs) (fun _ s'=>BdP P B A st env g Q s') (XP P B A st env g X) s
section
variable {P:Pm} {n:Nat} {fx:Fx} {σ:Sto} {m:A8} {X:Xt}
theorem Av4 {x pos d Q} (hk:fx.sc.names.lookup x=some .local∨fx.sc.names.lookup x=some .cell) (h:Q σ (m.put x d)):Bd P n fx (.Name x pos) d σ m Q X:=
 fun A st B g env s v he hr hm hv=>wpAny_assign_Name (Aux he hr hk hv fun h' tk R' _ _=>⟨g,σ,_,A2 g,R',h⟩)
theorem Avp {Q} (h:Q σ m):Bds P n fx [] [] σ m Q X:=
 fun A st B g env s v he hr hm hv=>by cases hv; exact Bf5 ⟨g,σ,m,A2 g,hr,h⟩
theorem Atx {t ts d ds Q} (h:Bd P n fx t d σ m (fun σ' m'=>Bds P n fx ts ds σ' m' Q X) X)
  (ha:∀ env,Ca2 (t :: ts) env=(false,assign t env) :: Ca2 ts env):Bds P n fx (t :: ts) (d :: ds) σ m Q X:=
 fun A st B g env s v he hr hm hv=>by
  replace hv:=hv.inv; obtain ⟨_,_,rfl,r,rs⟩:=hv
  ·
   rw [ha]
   refine Be8 (Bl0 (Bf2 (h A st B g env s _ he hr hm r) (fun _ s' qM=>?_) fun _ _ q=>q))
   obtain ⟨g',σ',m',hg,hr',hq⟩:=qM
   exact Bf2 (hq A st B g' env s' _ he hr' hm (rs.mono hg)) (fun _ _ q=>q.mono hg fun _ _ x=>x) fun _ _ q=>q.mono hg fun _ _ _ x=>x
theorem Atr {ts k pos ds Q} (h:Bds P n fx ts ds σ m Q X) (hl:ts.length=ds.length)
  (h1:∀ env,(Ca2 ts env).length=ts.length) (h2:∀ env,(Ca2 ts env).findIdx? (·.1)=none):Bd P n fx (.Tuple ts k pos) (.tup ds) σ m Q X:=
 fun A st B g env s v he hr hm hv=>by
  obtain ⟨a,items,rfl,ht,hi⟩:=hv.isTup
  refine wpAny_assign_Tuple hm.2.2 (IsTuple.stays ht hr.fz) (by rw [h1,hl,<- hi.length,Bg4]) (h2 env) fun h' hk=>?_
  have st':s.heap.StaysIn h':=fun b o e=>hk b o (Bl8 (Bl2 e)) e
  exact h A st B g env _ _ he (hr.stays st' s.toks) hm hi
theorem Az5 {ts k tpos pos e Q} (h:Ev P n fx e σ m (fun v σ'=>Bd P n fx (.Tuple ts k tpos) v σ' m (fun σ'' m''=>Q .next σ'' m'') X) X)
  (hs:∀ env,env.scope=fx.sc->swapsWithSole [.Tuple ts k tpos] e pos.line env=pure false) (hw:∀ env,env.scope=fx.sc->Cm1 [.Tuple ts k tpos] e env=pure none):Ex P n fx (.Assign [.Tuple ts k tpos] e pos) σ m Q X:=
 fun A st B g env s he hr hm=>Assign_Tuple (Bf2 (h A st B g env s he hr hm) (fun v s' qB=>by
  obtain ⟨g',σ',m',b,hg,hr',hv,hm',hq⟩:=qB
  subst hm'
  exact Bf2 (hq A st B g' env s' v he hr' hm hv) (fun _ s2 qC=>by obtain ⟨g2,σ2,m2,hg2,hr2,hq2⟩:=qC; exact ⟨g2,σ2,m2,.next,A3 hg hg2,hr2,.next,hq2⟩) fun _ _ q=>q.mono hg fun _ _ _ x=>x) fun _ _ q=>q) (hs env he.sc) (hw env he.sc)
noncomputable def putAll:List (Str × V)->A8->A8
 | [],m=>m
 | (x,d) :: r,m=>putAll r (m.put x d)
theorem Aoj {σ:Sto} {A:Around} {st:List Env} {B:Bs} {g:Heap} {env:Env} {Q:Unit->Shared->Prop} {E:Value->Shared->Prop} (he:Ad2 fx env st) (xs:List Str):∀ (ds:List V) (m:A8) (s:Shared) (vs:List Value),Rep P B g A st env σ m s->VRs g vs ds->xs.length=ds.length ->
  (∀ x∈xs,fx.sc.names.lookup x=some .local)->(∀ s',Rep P B g A st env σ (putAll (xs.zip ds) m) s'->Q () s')->wpAny (model P.prog P.w) A (assignInOrder (xs.map fun n=>bindName env n) vs) Q E s:=by
 induction xs with
 | nil=>
  intro ds m s vs hr hv hl hk h
  cases ds with
  | nil=>rw [hv.Aju]; exact Bf5 (h s hr)
  | cons _ _=>cases hl
 | cons x xs ih=>
  intro ds m s vs hr hv hl hk h
  cases ds with
  | nil=>cases hl
  | cons d ds=>
   obtain ⟨_,_,rfl,r,rs⟩:=hv.inv
   refine Be8 (Bl0 (wpAny_bindName (Aux he hr (.inl (hk x (.head _))) r fun h' tk R' _ _=>?_)))
   exact ih ds _ _ _ R' rs (Ca8 hl) (fun y hy=>hk y (.tail _ hy)) h
theorem Aw8 {ts k tpos pos e names Q} (h:Ev P n fx e σ m (fun v σ'=>∃ ds,v=.tup ds/\ds.length=names.length/\Q .next σ' (putAll (names.reverse.zip ds.reverse) m)) X)
  (hk:∀ x∈names,fx.sc.names.lookup x=some .local)
  (hs:∀ env,env.scope=fx.sc->swapsWithSole [.Tuple ts k tpos] e pos.line env=pure false) (hw:∀ env,env.scope=fx.sc->Cm1 [.Tuple ts k tpos] e env=pure (some names)):Ex P n fx (.Assign [.Tuple ts k tpos] e pos) σ m Q X:=
 fun A st B g env s he hr hm=>Assign_Tuple_swapped (names:=names) (Bf2 (h A st B g env s he hr hm) (fun v s' qD=>by
  obtain ⟨g',σ',m',b,hg,hr',hv,hm',ds,hd,hl,hq⟩:=qD
  subst hm'
  subst hd
  obtain ⟨a,items,rfl,ht,hi⟩:=hv.isTup
  rw [<- hl,<- hi.length,Bg4]
  refine wpAny_unpackItems_tuple hm.2.2 (IsTuple.stays ht hr'.fz) fun h' hk'=>?_
  have st':s'.heap.StaysIn h':=fun b o e=>hk' b o (Bl8 (Bl2 e)) e
  refine Aoj he names.reverse ds.reverse m' _ _ (hr'.stays st' s'.toks) hi.reverse (by simp [hl]) (fun x hx=>hk x (by simpa using hx)) fun s2 R2=>?_
  exact ⟨g',σ',_,.next,hg,R2,.next,hq⟩) fun _ _ q=>q) (hs env he.sc) (hw env he.sc)
noncomputable def Lp (P:Pm) (n:Nat) (fx:Fx) (en:Bool) (target:Expr) (body:List Stmt) (ds:List V) (σ:Sto) (m:A8) (Q:Flw->Sto->A8->Prop) (X:Xt):Prop:=
 ∀ A st B g env s it,Ad2 fx env st->Rep P B g A st env σ m s->Bg A n->It B g s.heap en none it ds ->
  Cb7 (model P.prog P.w) A (.forLoop target (.ref it) body [] env) (fun r s'=>match r with | .ok f=>NP Alj P B A st env g Q f s' | .error e=>Cf7 (model P.prog P.w) A env (XP P B A st env g X) e s') s
inductive ItP (P:Pm) (B:Bs) (A:Around) (st:List Env) (env:Env) (m:A8) (g:Heap) (en:Bool) (src:Option (Addr × List V)) (Q:List V->Sto->Prop) (v:Value) (s':Shared):Prop
 | mk (g':Heap) (σ':Sto) (ds:List V) (it:Addr) (hg:g.StaysIn g') (hr:Rep P B g' A st env σ' m s') (hv:v=.ref it) (hi:It B g' s'.heap en src it ds) (hq:Q ds σ')
noncomputable def Azz (P:Pm) (n:Nat) (fx:Fx) (en:Bool) (src:Option (Addr × List V)) (e:Expr) (σ:Sto) (m:A8) (Q:List V->Sto->Prop) (X:Xt):Prop:=
 ∀ A st B g env s,Ad2 fx env st->Rep P B g A st env σ m s->Bg A n ->
  wpAny (model P.prog P.w) A (eval e env) (fun x s₁=>wpAny (model P.prog P.w) A (pyIter x) (ItP P B A st env m g en src Q) (XP P B A st env g X) s₁) (XP P B A st env g X) s
noncomputable abbrev Itr (P:Pm) (n:Nat) (fx:Fx) (en:Bool) (e:Expr) (σ:Sto) (m:A8) (Q:List V->Sto->Prop) (X:Xt):Prop:=Azz P n fx en none e σ m Q X
theorem Azb {target iter body pos en Q} (h:Itr P n fx en iter σ m (fun ds σ'=>Lp P n fx en target body ds σ' m Q X) X)
  (hs:∀ env x,Bo6 iter env x=pure x):Ex P n fx (.For target iter body [] pos) σ m Q X:=
 fun A st B g env s he hr hm=>wpAny_For (Bf2 (h A st B g env s he hr hm) (fun x s₁ h₁=>Bf2 h₁ (fun v s' qE=>by
  obtain ⟨g',σ',ds,it,hg,hr',hv,hi,hq⟩:=qE
  subst hv
  refine Bp4 (hq A st B g' env s' it he hr' hm hi) fun r s2 hh=>?_
  cases r with
  | ok f=>exact hh.mono hg fun _ _ _ x=>x
  | error e=>exact Bf2 hh (fun _ _ q=>q.mono hg fun _ _ _ x=>x) fun _ _ q=>q.mono hg fun _ _ _ x=>x) fun _ _ q=>q) fun _ _ q=>q) (hs env)
theorem Aus {en target body ds Q} (hc:fx.comp=false) (hgo:(∃ elts k pos,target=.Tuple elts k pos)∨((∀ it v,Bl4 target it v=pure ())/\en=false))
  (Aor:ds=[]->Q .next σ m)
  (Afr:∀ d r,ds=d :: r->Bd P n fx target d σ m (fun σ' m'=>Exs P n fx body σ' m' (fun f σ'' m''=>match f with | .next | .cont=>Lp P n fx en target body r σ'' m'' Q X | .brk=>Q .next σ'' m'' | .ret v=>Q (.ret v) σ'' m'') X) X) :
  Lp P n fx en target body ds σ m Q X:=fun A st B g env s it he hr hm hi=>by
 refine Cc9 ?_
 show wpAny _ A ((forTurn target (.ref it) body [] env).onRaise (fun x=>do Cm2 x env; Cp7 x)) _ _ s
 refine wpAny_noted ?_
 simp only [forTurn]
 refine Be8 (Bo2 (Be8 (wpAny_onRaise (Bf2 (It.next (target:=target) (E:=notedBy (model P.prog P.w) A env (Cf7 (model P.prog P.w) A env (XP P B A st env g X)))
  (K:=fun r s₁=>match r with
   | none=>Rep P B g A st env σ m s₁/\ds=[]
   | some v=>NxP P B g A st env σ m en none it ds v s₁) hr hm.2.2 hi (fun l all e=>by cases e) (hgo.imp id fun q=>⟨fun v=>q.1 _ v,q.2⟩)
  (fun e h' R'=>⟨R',e⟩) (fun d r e v g' h' tk hg R' hv hi'=>⟨d,r,g',e,hg,R',hv,hi'⟩)) (fun r s₁ h₁=>?_) fun _ _ h'=>Bo2 h'))))
 cases r with
 | none=>
  obtain ⟨R',hd⟩:=h₁
  exact Bf5 ⟨rfl,codeAny_block (Cp6 ⟨g,σ,m,.next,A2 g,R',.next,Aor hd⟩)⟩
 | some v=>
  refine Be8 (Bf2 h₁ (fun _ s₂ h₂=>?_) fun _ _ q=>q)
  obtain ⟨d,r,g',hd,hg,R',hv,hi'⟩:=h₂
  obtain ⟨B',hB1,RB,hB2,hB3,hB4⟩:=R'.step
  refine Be8 (Bf2 (Afr d r hd A st B' g' env s₂ v he RB hm hv) (fun _ s₃ qM=>?_) fun e s3 hx=>((hx.Aip hB3 hB4).mono hg fun _ _ _ x=>x).passes he hc)
  obtain ⟨g3,σ3,m3,hg3,hr3,hq3⟩:=qM
  refine Be8 (Bf2 (hq3 A st B' g3 env s₃ he hr3 hm) (fun f s₄ qM=>?_) fun e s3 hx=>((hx.Aip hB3 hB4).mono (A3 hg hg3) fun _ _ _ x=>x).passes he hc)
  obtain ⟨g4,σ4,m4,b4,hg4,hr4,hf,hq4⟩:=qM
  have gg:g.StaysIn g4:=A3 hg (A3 hg3 hg4)
  have R4:=hB4 _ _ _ _ hr4
  have it4:It B g4 s₄.heap en none it r:=It.through R' hB1 hB2 hi' (A3 hg3 hg4) hr4
  have fin:Lp P n fx en target body r σ4 m4 Q X->(Code.forLoop target (.ref it) body [] env).quiet=true/\Cb7 (model P.prog P.w) A (.forLoop target (.ref it) body [] env) (fun r s'=>match r with | .ok f=>NP Alj P B A st env g Q f s' | .error e=>Cf7 (model P.prog P.w) A env (XP P B A st env g X) e s') s₄:=fun w=>
   ⟨rfl,Bp4 (w A st B g4 env s₄ it he R4 hm it4) fun r s' hh=>by
    cases r with
    | ok f=>exact hh.mono gg fun _ _ _ x=>x
    | error e=>exact Bf2 hh (fun _ _ q=>q.mono gg fun _ _ _ x=>x) fun _ _ q=>q.mono gg fun _ _ _ x=>x⟩
  induction hf using Alj.casesOn with
  | next=>exact Bf5 (fin hq4)
  | cont=>exact Bf5 (fin hq4)
  | brk=>exact Bf5 ⟨g4,σ4,m4,.next,gg,R4,.next,hq4⟩
  | ret r=>exact Bf5 ⟨g4,σ4,m4,_,gg,R4,.ret r,hq4⟩
end
inductive FX (P:Pm) (B:Bs) (A:Around) (st:List Env) (g:Heap) (X:Str->Sto->Prop) (e:Value) (s':Shared):Prop
 | mk (g':Heap) (σ':Sto) (why:Str) (ea:Addr) (hg:g.StaysIn g') (hr:RepC P B g' A st σ' s') (he:e=.ref ea) (hx:ExcAt P B g' s'.heap ea why) (hq:X why σ')
inductive FN (P:Pm) (B:Bs) (A:Around) (st:List Env) (g:Heap) (Q:V->Sto->Prop) (v:Value) (s':Shared):Prop
 | mk (g':Heap) (σ':Sto) (d:V) (hg:g.StaysIn g') (hr:RepC P B g' A st σ' s') (hv:VR g' v d) (hq:Q d σ')
noncomputable def FR (P:Pm) (B:Bs) (A:Around) (st:List Env) (g:Heap) (Q:V->Sto->Prop) (X:Str->Sto->Prop) (r:Result) (s':Shared):Prop:=
 match r with
 | .ok (.ret v)=>FN P B A st g Q v s'
 | .ok _=>False
 | .error e=>FX P B A st g X e s'
noncomputable def Fn (P:Pm) (n:Nat) (f:Value) (vs:List V) (σ:Sto) (Q:V->Sto->Prop) (X:Str->Sto->Prop):Prop:=
 ∀ A st B g s vals,RepC P B g A st σ s->VRs g vals vs->Bg A n->Cb7 (model P.prog P.w) A (.call f ⟨vals,[]⟩) (FR P B A st g Q X) s
theorem Fn.mono {P n f vs σ Q Q' X X'} (h:Fn P n f vs σ Q X) (hq:∀ v σ,Q v σ->Q' v σ) (hx:∀ y σ,X y σ->X' y σ):Fn P n f vs σ Q' X':=
 fun A st B g s vals hr hv hm=>Bp4 (h A st B g s vals hr hv hm) fun r s' q=>by
  cases r with
  | ok f=>
   cases f with
   | ret v=>obtain ⟨g',σ',d,a,b,c,e⟩:=q; exact ⟨g',σ',d,a,b,c,hq _ _ e⟩
   | _=>exact q
  | error e=>obtain ⟨g',σ',why,ea,a,b,c,d,e⟩:=q; exact ⟨g',σ',why,ea,a,b,c,d,hx _ _ e⟩
theorem Fn.room {P n k f vs σ Q X} (h:Fn P n f vs σ Q X) (hk:n<=k):Fn P k f vs σ Q X:=
 fun A st B g s vals hr hv hm=>h A st B g s vals hr hv (hm.mono hk)
section
variable {P:Pm} {B:Bs} {g:Heap} {A:Around} {st:List Env} {σ:Sto} {s:Shared}
theorem Aee:∀ (names:List (Str × NameKind)) (h:Heap),h.StaysIn (Cp9 h names):=fun names h b o e=>pushCells_keeps names h b o e
theorem Aml (R:RepC P B g A st σ s) {scope qual func code Q E binds ds}
  (hk:scope.kind=.function) (hnd:∀ n,((Cd0 n scope.names []).map (·.1)).Nodup) (Bbb:∀ n x,scope.names.lookup x=some .cell->((Cd0 n scope.names []).lookup x).isSome=true) (Bbc:∀ x,scope.names.lookup x≠some .free)
  (hb:binds.map (·.1)=ds.map (·.1)) (hv:VRs g (binds.map (·.2)) (ds.map (·.2))) (Awj:∀ x∈binds,scope.names.lookup x.1=some .local∨scope.names.lookup x.1=some .cell)
  (h:∀ env s',Ad2 ⟨scope,false⟩ env (env :: st)->env.func=func->env.code=code->s'.heap.NoLimit->s.heap.StaysIn s'.heap->Rep P B g (A.deeper env) (env :: st) env σ (putAll ds fun _=>none) s'->Q env s') :
  wpAny (model P.prog P.w) A (newFunctionEnv scope Bl3 [] binds qual func code none Cf8) Q E s:=by
 simp only [newFunctionEnv,Option.isSome_none,Bp6,if_false]
 refine Be8 (wpAny_alloc ?_)
 refine Be8 (wpAny_layCells _ (fun name kind cells=>by cases hkc:kind == NameKind.cell <;> simp [hkc]) _ _ _ _ ?_)
 have ok:=cellsFrom_ok scope.names (s.heap.push { cls:=.type "frame",data:=.dict #[] }) (s.heap.objs.size + 1) [] ⟨fun _ _ hm=>(nomatch hm),List.Pairwise.nil⟩ (by rw [Bt9]; exact Bh5 _)
 rw [Bt9] at ok
 rw [show ({ s with heap:=s.heap.push { cls:=.type "frame",data:=.dict #[] } }:Shared).heap.objs.size=s.heap.objs.size + 1 from Bt9 ..]
 have st1:s.heap.StaysIn (Cp9 (s.heap.push { cls:=.type "frame",data:=.dict #[] }) scope.names):=A3 (Aa3 _ _) (Aee _ _)
 have hL:(Cp9 (s.heap.push { cls:=.type "frame",data:=.dict #[] }) scope.names).get? s.heap.objs.size=some { cls:=.type "frame",data:=.dict #[] }:=Aee _ _ _ _ (Bi1 _ rfl)
 with_reducible refine gze ({ scope,locals:=s.heap.objs.size,globals:=Bl3,cells:=Cd0 (s.heap.objs.size + 1) scope.names [],qual,func,code,frame:=some s.heap.objs.size,builtins:=Cf8 }:Env) fun env Ajr=>?_
 have Ahw:env.cells=Cd0 (s.heap.objs.size + 1) scope.names []:=by rw [<- Ajr]
 have Akv:env.scope=scope:=by rw [<- Ajr]
 have Aiu:env.locals=s.heap.objs.size:=by rw [<- Ajr]
 have e1:Ad2 ⟨scope,true⟩ env st:=⟨Akv,hk,by rw [<- Ajr],by rw [<- Ajr],fun q=>nomatch q⟩
 have emptyAt:∀ x c,env.cells.lookup x=some c->(Cp9 (s.heap.push { cls:=.type "frame",data:=.dict #[] }) scope.names).IsCell c none/\s.heap.objs.size + 1<=c:=fun x c q=>ok.empty x c (mem_of_lookup (Ahw ▸ q))
 have fresh:∀ c,s.heap.objs.size<=c->s.heap.get? c=none:=fun c q=>Bn7 q
 have R0:Rep P B g A st env σ (fun _=>none) { s with heap:=Cp9 (s.heap.push { cls:=.type "frame",data:=.dict #[] }) scope.names }:=by
  refine ⟨R.stays st1 s.toks,⟨⟨fun _=>none,?_,fun x v e=>by cases e⟩,fun x hx=>?_,fun x y c q1 q2=>?_⟩,⟨?_,fun x c hx hc=>?_⟩⟩
  · rw [Aiu]; exact (Heap.Ns.new s.heap (.type "frame")).keeps (pushCells_keeps _ _)
  · have hx':scope.names.lookup x=some .cell:=by
     rcases hx with hx | hx
     · unfold Bx8 at hx; rwa [Akv] at hx
     · unfold Bx8 at hx; rw [Akv] at hx; exact absurd hx (Bbc x)
    obtain ⟨c,hc⟩:=Option.isSome_iff_exists.mp (Bbb (s.heap.objs.size + 1) x hx')
    rw [<- Ahw] at hc
    exact ⟨c,none,hc,(emptyAt x c hc).1,fun v e=>by cases e⟩
  · rw [Ahw] at q1 q2
    exact name_of_addr ok.apart (mem_of_lookup q1) (mem_of_lookup q2)
  · rw [Aiu]
    exact ⟨Aa2 R.fz (fresh _ (Bh5 _)),Aa0 R.keeps (fresh _ (Bh5 _)),R.Aas (fresh _ (Bh5 _))⟩
  · have:=(emptyAt x c hc).2
    exact ⟨Aa2 R.fz (fresh _ (by exact r41 ‹_›)),Aa0 R.keeps (fresh _ (by exact r41 ‹_›)),R.Aas (fresh _ (by exact r41 ‹_›))⟩
 -- the binds
 have go:∀ (bs:List (Str × Value)) (ds:List (Str × V)) (m:A8) (s1:Shared),bs.map (·.1)=ds.map (·.1)->VRs g (bs.map (·.2)) (ds.map (·.2))->(∀ x∈bs,scope.names.lookup x.1=some .local∨scope.names.lookup x.1=some .cell) ->
    Rep P B g A st env σ m s1->s.heap.StaysIn s1.heap->(∃ o,s1.heap.get? env.locals=some o/\Ahh o) ->
    (∀ s2,Rep P B g A st env σ (putAll ds m) s2->s.heap.StaysIn s2.heap->(∃ o,s2.heap.get? env.locals=some o/\Ahh o)->Q env s2) ->
    wpAny (model P.prog P.w) A (forIn bs PUnit.unit fun (x:Str × Value) (_:PUnit)=>(match x with | (name,v)=>do
     storeName env name v
     pure (ForInStep.yield PUnit.unit):Sem (ForInStep PUnit))) (fun _ s2=>Q env s2) E s1:=by
  intro bs
  induction bs with
  | nil=>
    intro ds m s1 hb hv hkd hr hst hfr hq
    cases ds with
    | cons _ _=>cases hb
    | nil=>
     rw [Co0]
     exact Bf5 (hq s1 hr hst hfr)
  | cons b bs ih=>
    intro ds m s1 hb hv hkd hr hst hfr hq
    cases ds with
    | nil=>cases hb
    | cons d ds=>
     obtain ⟨x,c⟩:=b
     obtain ⟨y,d⟩:=d
     simp only [Bg8,Bn0] at hb
     obtain ⟨rfl,hb⟩:=hb
     replace hv:=hv.inv; obtain ⟨_,_,⟨⟩,hv,hvs⟩:=hv
     ·
       rw [Cg2]
       refine Be8 (Be8 (Aux e1 hr (hkd (x,c) (.head _)) hv fun h' tk R' k1 k2=>Bf5 ?_))
       have:=ih ds (m.put x d) { s1 with heap:=h',toks:=tk } hb hvs (fun z hz=>hkd z (.tail _ hz)) R' (fun b o e=>by
        refine k1 b o ?_ ?_ (hst b o e)
        · rw [Aiu]; exact Bl8 (Bl2 e)
        · intro z w _ hz q; subst q; exact absurd (Bh0 (Bl2 e) (Bl7 (emptyAt z b hz).2)) (Nat.lt_irrefl _)) (k2 hfr) hq
       exact this
 refine Be8 (Bf2 (Q:=fun _ s2=>Q env s2) (go binds ds (fun _=>none) _ hb hv Awj R0 st1 ⟨_,by rw [Aiu]; exact hL,rfl,_,_,rfl⟩ fun s2 R2 Bdq qM=>?_) (fun _ _ q=>Bf5 q) fun _ _ q=>q)
 obtain ⟨oF,hF,hFr⟩:=qM
 refine h env s2 ⟨Akv,hk,by rw [<- Ajr],by rw [<- Ajr],fun _=>⟨st,rfl,by rw [<- Ajr]⟩⟩ (by rw [<- Ajr]) (by rw [<- Ajr]) (R2.pc.nolimit.keeps R2.fz) Bdq ?_
 exact ⟨⟨R2.pc,Cg6 R2.stack,⟨by rw [Akv]; exact hk,⟨env.locals,oF,by rw [<- Ajr],hF,hFr,R2.own.loc.1⟩,R2.stk⟩,R2.keeps,R2.fz,R2.ext,R2.new,R2.sto,R2.gens,R2.drawn,R2.os⟩,R2.fr,R2.own⟩
theorem Anq {env m e why Q E} (hf:env.frame=some env.locals) (R:Rep P B g A (env :: st) env σ m s) (x:ExcAt P B g s.heap e why)
  (h:∀ s',RepC P B g A (env :: st) σ s'->ExcAt P B g s'.heap e why->Q () s'):wpAny (model P.prog P.w) A (leaving env (.ref e)) Q E s:=by
 unfold leaving
 refine Be8 (Ad1 rfl hf R.toRepC x fun h' Z T k1 k3 k4=>?_)
 have R':=R.toRepC.B3 k3 k4 s.toks
 exact Ac6 (s:={ s with heap:=h' }) k1 fun h'' Z' l1 l3 l4=>h _ (R'.B3 l3 l4 s.toks) ⟨_,l1⟩
end
theorem Axx {P n a} {f:FuncData} {o:Obj} {body vs σ Q X} (ho:P.K.lookup a=some o) (hf:o.data=.func f) (hb:f.body=.stmts body) (hg:f.globals=Bl3) (hcl:f.closure=[]) (hbu:f.builtins=Cf8)
   (Ax4:codeIn P.K f.code f.qualname=true) (h3:∀ vals:List Value,vals.length=f.params.args.length->bindArgs f ⟨vals,[]⟩=pure ((f.params.args.map (·.arg)).zip vals))
   (kind:f.scope.kind=.function) (co:f.scope.isCoroutine=false) (gen:f.scope.isGenerator=false) (nd:∀ n,((Cd0 n f.scope.names []).map (·.1)).Nodup) (cell:∀ n x,f.scope.names.lookup x=some .cell->((Cd0 n f.scope.names []).lookup x).isSome=true)
   (free:∀ x,f.scope.names.lookup x≠some .free) (binds:∀ x∈f.params.args.map (·.arg),f.scope.names.lookup x=some .local∨f.scope.names.lookup x=some .cell) (hl:f.params.args.length=vs.length)
   (h:Exs P n ⟨f.scope,false⟩ body σ (putAll ((f.params.args.map (·.arg)).zip vs) fun _=>none) (fun f σ' _=>Q (match f with | .ret v=>v | _=>.none) σ') (fun why σ' _=>X why σ')):Fn P (n + 1) (.ref a) vs σ Q X:=by
 intro A st B g s vals R hv hm
 have ho:=R.fz _ _ (R.pc.kin _ _ ho)
 refine codeAny_call_function hm.lt ho hf co gen hb (codeRec_of (R.pc.kin.keeps R.fz) Ax4) ?_
 rw [h3 vals (by rw [hl,hv.length]),hg,hcl,hbu]
 obtain ⟨B',hB1,RB,hB2,hB3,hB4⟩:=R.step (fun _=>False) (fun _ q=>q.elim)
 have RB1:RepC P B' g A.in1 st σ s:=(RB.Atd RB.stack)
 have e1:((f.params.args.map (·.arg)).zip vals).map (·.1)=f.params.args.map (·.arg):=by
   exact List.map_fst_zip (by rw [Be9,hl,hv.length]; exact Bh5 _)
 have e2:((f.params.args.map (·.arg)).zip vals).map (·.2)=vals:=by exact Cl1 (by rw [Be9,hl,hv.length]; exact Bh5 _)
 have e3:((f.params.args.map (·.arg)).zip vs).map (·.1)=f.params.args.map (·.arg):=by exact List.map_fst_zip (by rw [Be9,hl]; exact Bh5 _)
 have e4:((f.params.args.map (·.arg)).zip vs).map (·.2)=vs:=by exact Cl1 (by rw [Be9,hl]; exact Bh5 _)
 refine Bf5 (Aml RB1 (ds:=(f.params.args.map (·.arg)).zip vs) kind nd cell free (e1.trans e3.symm) (by rw [e2,e4]; exact hv)
   (fun x hx=>binds x.1 (by rw [<- e1]; exact Bi7 hx)) fun env s' he hfn hcd Bbo hst R2=>⟨Bbo,codeAny_func ?_⟩)
 obtain ⟨outer,hou,hfr⟩:=he.top rfl
 have R3:Rep P B' g (A.deeper env) (env :: st) env σ (putAll ((f.params.args.map (·.arg)).zip vs) fun _=>none) s':=
   ⟨(R2.Atd (Cg6 R.stack)),R2.fr,R2.own⟩
 refine Bf2 (h (A.deeper env) (env :: st) B' g env s' he R3 (hm.down env)) (fun f s2 qM=>?_) fun e s2 qM=>?_
 · obtain ⟨g',σ',m',b,hg,hr2,hf,hq⟩:=qM
   have R4:=hB4 g' (A.deeper env) [env] st σ' s2 hr2.toRepC R.stack
   induction hf using Alj.casesOn with
   | ret r=>exact ⟨g',σ',_,hg,R4,r,hq⟩
   | _=>exact ⟨g',σ',.none,hg,R4,.none,hq⟩
 · obtain ⟨g',σ',m',why,ea,hg,hr2,he2,hx,hX⟩:=qM
   subst he2
   refine Anq hfr hr2 hx fun s3 R5 x5=>?_
   exact ⟨g',σ',why,ea,hg,hB4 g' (A.deeper env) [env] st σ' s3 R5 R.stack,rfl,x5.Aip hB3,hX⟩
section
variable {P:Pm} {B:Bs} {g:Heap} {A:Around} {st:List Env} {env:Env} {σ:Sto} {m:A8} {s:Shared}
inductive Bax (P:Pm) (B:Bs) (g:Heap) (A:Around) (st:List Env) (env:Env) (σ:Sto) (m:A8) (s:Shared):Prop
 | mk (B':Bs) (hr:RepC P B' g A st σ s) (h3:∀ b,B'.k.get? b=none->B.k.get? b=none) (h4:∀ g' σ' s',RepC P B' g' A st σ' s'->Rep P B g' A st env σ' m s')
theorem Rep.call (R:Rep P B g A st env σ m s):Bax P B g A st env σ m s:=by
 obtain ⟨B',hB1,RB,hB2,hB3,hB4⟩:=R.toRepC.step (fun _=>False) (fun _ q=>q.elim)
 refine ⟨B',RB,hB3,fun g' σ' s' R'=>?_⟩
 have ext:g.StaysIn g':=hB1 ▸ R'.ext
 have locIn:∃ oL,s.heap.get? env.locals=some oL/\B'.k.get? env.locals=some oL:=by
   obtain ⟨ml,⟨oL,es,ep,hL,_⟩,_⟩:=R.fr.ns
   exact ⟨oL,hL,(hB2 _ _).mpr ⟨R.own.loc.2.2,id,hL⟩⟩
 have celIn:∀ x c,(env.kindOf x=some .cell∨env.kindOf x=some .free)->env.cells.lookup x=some c->∃ o,s.heap.get? c=some o/\B'.k.get? c=some o:=fun x c hx hc=>by
   obtain ⟨c',cv,q1,⟨o,q2,q3⟩,_⟩:=R.fr.cel x hx
   rw [hc] at q1; cases q1
   exact ⟨o,q2,(hB2 _ _).mpr ⟨(R.own.cel x c hx hc).2.2,id,q2⟩⟩
 have gnone:∀ a o,B'.k.get? a=some o->g.get? a=none->g'.get? a=none:=fun a o e eg=>by
   cases q:g'.get? a with
   | none=>rfl
   | some o'=>have:=R'.new a (by rw [q]; simp) (hB1.symm ▸ eg); rw [e] at this; cases this
 have snone:∀ a o,B'.k.get? a=some o->σ' a=none:=fun a o e=>by
   cases q:σ' a with
   | none=>rfl
   | some x=>have:=(R'.sto a x q).2.1; rw [e] at this; cases this
 refine ⟨hB4 g' A [] st σ' s' R' R.stack,⟨?_,fun x hx=>?_,R.fr.apart⟩,⟨?_,fun x c hx hc=>?_⟩⟩
 · obtain ⟨ml,⟨oL,es,ep,hL,hd,r⟩,q⟩:=R.fr.ns
   obtain ⟨oL',w1,w2⟩:=locIn
   rw [hL] at w1; cases w1
   obtain ⟨o',w3,w4,_⟩:=R'.keeps.some w2
   exact ⟨ml,⟨o',es,ep,w3,w4.trans hd,r⟩,fun x v e l=>by obtain ⟨c,a,b⟩:=q x v e l; exact ⟨c,a,b.mono ext⟩⟩
 · obtain ⟨c,cv,q1,⟨o,q2,q3⟩,q4⟩:=R.fr.cel x hx
   obtain ⟨o1,w1,w2⟩:=celIn x c hx q1
   rw [q2] at w1; cases w1
   obtain ⟨o',w3,w4,_⟩:=R'.keeps.some w2
   exact ⟨c,cv,q1,⟨o',w3,w4.trans q3⟩,fun v e=>by obtain ⟨y,a,b⟩:=q4 v e; exact ⟨y,a,b.mono ext⟩⟩
 · obtain ⟨oL,w1,w2⟩:=locIn
   exact ⟨gnone _ _ w2 R.own.loc.1,R.own.loc.2.1,snone _ _ w2⟩
 · obtain ⟨o,w1,w2⟩:=celIn x c hx hc
   exact ⟨gnone _ _ w2 (R.own.cel x c hx hc).1,(R.own.cel x c hx hc).2.1,snone _ _ w2⟩
theorem Al6 {n f vs vals Q X} (R:Rep P B g A st env σ m s) (hv:VRs g vals vs) (hm:Bg A n) (h:Fn P n f vs σ Q (fun why σ'=>X why σ' m)) :
  wpAny (model P.prog P.w) A (call f vals []) (NP VR P B A st env g (fun v σ' m'=>m'=m/\Q v σ')) (XP P B A st env g X) s:=by
 obtain ⟨B',RB,hB3,hB4⟩:=R.call
 refine Ci8 (Bp4 (h A st B' g s vals RB hv hm) fun r s' q=>?_)
 cases r with
 | ok f=>
  cases f with
  | ret v=>obtain ⟨g',σ',d,a,b,c,e⟩:=q; exact ⟨g',σ',m,d,a,hB4 _ _ _ b,c,rfl,e⟩
  | _=>exact q
 | error e=>obtain ⟨g',σ',why,ea,a,b,c,d,e⟩:=q; exact ⟨g',σ',m,why,ea,a,hB4 _ _ _ b,c,d.Aip hB3,e⟩
end
noncomputable def Bt (P:Pm) (n:Nat) (f:Value) (vs:List V) (σ:Sto) (Q:V->Sto->Prop):Prop:=
 ∀ A st B g env m s vals,Rep P B g A st env σ m s->VRs g vals vs->Bg A n ->
  wpAny (model P.prog P.w) A (call f vals []) (NP VR P B A st env g (fun v σ' m'=>m'=m/\Q v σ')) (fun _ _=>False) s
section
variable {P:Pm} {n:Nat} {fx:Fx} {σ:Sto} {m:A8} {X:Xt}
theorem Ali {pos Q} (h:Q [] σ):Evs P n fx pos [] σ m Q X:=
 fun A st B g env s he hr hm=>wpAny_items_nil ⟨g,σ,m,[],A2 g,hr,.nil,rfl,rfl,h⟩
theorem Aeh {pos e es Q} (h:Ev P n fx e σ m (fun v σ'=>Evs P n fx pos es σ' m (fun vs σ''=>Q (v :: vs) σ'') X) X)
  (ha:∀ env,Bk5 (e :: es) env=(false,eval e env) :: Bk5 es env:=by intro _; rfl):Evs P n fx pos (e :: es) σ m Q X:=
 fun A st B g env s he hr hm=>Co4 (Bf2 (h A st B g env s he hr hm) (fun v s' qA=>by
  obtain ⟨g',σ',m',b,hg,hr',hv,hm',hq⟩:=qA
  subst hm'
  exact Bf2 (hq A st B g' env s' he hr' hm) (fun vs s2 qB=>by obtain ⟨g2,σ2,m2,b2,hg2,hr2,hv2,hm2,hl2,hq2⟩:=qB; exact ⟨g2,σ2,m2,_,A3 hg hg2,hr2,.cons (hv.mono hg2) hv2,hm2,by simp [hl2],hq2⟩) fun _ _ q=>q.mono hg fun _ _ _ x=>x) fun _ _ q=>q) (ha env)
theorem Ast {es k pos Q} (h:Evs P n fx pos es σ m (fun vs σ'=>Q (.tup vs) σ') X) (hl:es.length<=1000:=by decide):Ev P n fx (.Tuple es k pos) σ m Q X:=
 fun A st B g env s he hr hm=>Tuple_ (Bf2 (h A st B g env s he hr hm) (fun vs s' qC=>by
  obtain ⟨g',σ',m',ds,hg,hr',hv,hm',hlen,hq⟩:=qC
  have hz:vs.length<=sizeLine:=by rw [hv.length,hlen,Bn5]; exact r43 ‹_›
  refine Bn8 ?_ (by show vs.toArray.size<=sizeLine; rw [Bp1]; exact hz)
  obtain ⟨g2,hg2,ho,R2⟩:=hr'.Aap { cls:=.type "tuple",data:=.seq vs.toArray } rfl (fun f=>by have q:Value.type "tuple"=Value.type "frame":=f.1; exact absurd q (by decide)) s'.toks
  exact ⟨g2,σ',m',_,A3 hg hg2,R2,.tup ho rfl rfl (by simpa using hv.mono hg2),hm',hq⟩) fun _ _ q=>q)
theorem Awn {x np pos e es a Q} (hk:fx.sc.names.lookup x=some .globalImplicit) (hv:nsIn P.K Bl3 x=some (some (.ref a))) (Aj6:keepIn P.K (.ref a)=true)
  (h:Evs P n fx pos (e :: es) σ m (fun vs σ'=>Fn P n (.ref a) vs σ' Q (fun why σ''=>X why σ'' m)) X) (hd:(x == ("__debug__" : Str))=false)
  (ha:∀ env,Bk5 (e :: es) env=(false,eval e env) :: Bk5 es env) (Aha:∀ env,(By5 pos (Bk5 es env)).any (·.1)=false):Ev P n fx (.Call (.Name x np) (e :: es) [] pos) σ m Q X:=
 fun A st B g env s he hr hm=>Bw8 (ldG he hr hk hv hd (callWith_K (hr.pc.kin.keeps hr.fz) Aj6 (Bf2 (h A st B g env s he hr hm) (fun vs s' qD=>by
  obtain ⟨g',σ',m',ds,hg,hr',hv,hm',hlen,hq⟩:=qD
  subst hm'
  refine ⟨hr'.pc.kin.keeps hr'.fz,?_⟩
  exact Bf2 (Al6 hr' hv hm hq) (fun _ _ q=>q.mono hg fun _ _ _ x=>x) fun _ _ q=>q.mono hg fun _ _ _ x=>x) fun _ _ q=>q) (ha env) (Aha env)))
theorem At7 {x np pos a Q} (hk:fx.sc.names.lookup x=some .globalImplicit) (hv:nsIn P.K Bl3 x=some (some (.ref a))) (Aj6:keepIn P.K (.ref a)=true)
  (h:Fn P n (.ref a) [] σ Q (fun why σ''=>X why σ'' m)) (hd:(x == ("__debug__" : Str))=false):Ev P n fx (.Call (.Name x np) [] [] pos) σ m Q X:=
 fun A st B g env s he hr hm=>Bw8 (ldG he hr hk hv hd (callWith_K0 (hr.pc.kin.keeps hr.fz) Aj6 (Al6 hr .nil hm h)))
theorem Ba1 {x np pos e es id Q} (hk:fx.sc.names.lookup x=some .globalImplicit) (hv:nsIn P.K Bl3 x=some none) (hb:Bs7 x=some (.builtin id))
  (h:Evs P n fx pos (e :: es) σ m (fun vs σ'=>Bt P n (.builtin id) vs σ' Q) X) (hx:x≠"__name__") (hd:(x == ("__debug__" : Str))=false)
  (ha:∀ env,Bk5 (e :: es) env=(false,eval e env) :: Bk5 es env) (Aha:∀ env,(By5 pos (Bk5 es env)).any (·.1)=false):Ev P n fx (.Call (.Name x np) (e :: es) [] pos) σ m Q X:=
 fun A st B g env s he hr hm=>Bw8 (ldB he hr hk hv hb hx hd (by
  rw [show backToKw pos (Ck2 [] env)=[] from rfl]
  have hp:(By5 pos (Bk5 (e :: es) env)).any (·.1)=false:=by rw [ha]; show (false || (By5 pos (Bk5 es env)).any (·.1))=false; rw [Aha]; rfl
  refine Cf1 hp ?_
  have:=h A st B g env s he hr hm
  simp only [ha] at this ⊢
  refine Ca0 (Bf2 this (fun vs s' qM=>?_) fun _ _ q=>q)
  obtain ⟨g',σ',m',ds,hg,hr',hv,hm',hlen,hq⟩:=qM
  subst hm'
  exact Bf2 (hq A st B g' env _ s' vs hr' hv hm) (fun _ _ q=>q.mono hg fun _ _ _ x=>x) fun _ _ q=>q.elim))
theorem Baf {x np pos e es T Q} (hk:fx.sc.names.lookup x=some .globalImplicit) (hv:nsIn P.K Bl3 x=some none) (hb:Bs7 x=some (.type T))
  (h:Evs P n fx pos (e :: es) σ m (fun vs σ'=>Bt P n (.type T) vs σ' Q) X) (hx:x≠"__name__") (hd:(x == ("__debug__" : Str))=false)
  (ha:∀ env,Bk5 (e :: es) env=(false,eval e env) :: Bk5 es env) (Aha:∀ env,(By5 pos (Bk5 es env)).any (·.1)=false):Ev P n fx (.Call (.Name x np) (e :: es) [] pos) σ m Q X:=
 fun A st B g env s he hr hm=>Bw8 (ldB he hr hk hv hb hx hd (by
  rw [show backToKw pos (Ck2 [] env)=[] from rfl]
  have hp:(By5 pos (Bk5 (e :: es) env)).any (·.1)=false:=by rw [ha]; show (false || (By5 pos (Bk5 es env)).any (·.1))=false; rw [Aha]; rfl
  refine PyProof.Rows.callWith_type hp ?_
  have:=h A st B g env s he hr hm
  simp only [ha] at this ⊢
  refine Ca0 (Bf2 this (fun vs s' qM=>?_) fun _ _ q=>q)
  obtain ⟨g',σ',m',ds,hg,hr',hv,hm',hlen,hq⟩:=qM
  subst hm'
  exact Bf2 (hq A st B g' env _ s' vs hr' hv hm) (fun _ _ q=>q.mono hg fun _ _ _ x=>x) fun _ _ q=>q.elim))
end
noncomputable abbrev Tr {α β:Type} (R:Heap->α->β->Prop) (P:Pm) (n:Nat) (t:Sem α) (A:Around) (st:List Env) (B:Bs) (g:Heap) (env:Env) (m:A8) (s:Shared) (Q:β->Sto->Prop):Prop:=
 wpAny (model P.prog P.w) A t (NP R P B A st env g (fun v σ' m'=>m'=m/\Q v σ')) (fun _ _=>False) s
noncomputable def Bo (P:Pm) (n:Nat) (op:Operator) (a b:V) (σ:Sto) (Q:V->Sto->Prop):Prop:=
 ∀ A st B g env m s u v,Rep P B g A st env σ m s->VR g u a->VR g v b->Bg A n->Tr VR P n (binaryOp op u v) A st B g env m s Q
noncomputable def Co (P:Pm) (n:Nat) (op:CmpOp) (a b:V) (σ:Sto) (Q:Bool->Sto->Prop):Prop:=
 ∀ A st B g env m s u v,Rep P B g A st env σ m s->VR g u a->VR g v b->Bg A n ->
  Tr (fun _ c b=>c=Value.bool b) P n (compareOp op u v) A st B g env m s Q
section
variable {P:Pm} {n:Nat} {fx:Fx} {σ:Sto} {m:A8} {X:Xt}
theorem Tr.np {α β:Type} {R:Heap->α->β->Prop} {t:Sem α} {A:Around} {st:List Env} {B:Bs} {g g0:Heap} {env:Env} {s:Shared} {Q:β->Sto->Prop} (h:Tr R P n t A st B g env m s Q) (k:g0.StaysIn g) :
  wpAny (model P.prog P.w) A t (NP R P B A st env g0 (fun v σ' m'=>m'=m/\Q v σ')) (XP P B A st env g0 X) s:=
 Bf2 h (fun _ _ q=>q.mono k fun _ _ _ x=>x) fun _ _ q=>q.elim
theorem Azi {l r:Expr} {op:Operator} {pos:Pos} {Q:V->Sto->Prop} (h:Ev P n fx l σ m (fun a σ1=>Ev P n fx r σ1 m (fun b σ2=>Bo P n op a b σ2 Q) X) X):Ev P n fx (.BinOp l op r pos) σ m Q X:=
 fun A st B g env s he hr hm=>wpAny_BinOp (Bf2 (h A st B g env s he hr hm) (fun u s1 qA=>by
  obtain ⟨g1,σ1,m1,a,hg1,hr1,hv1,hm1,hq1⟩:=qA
  subst hm1
  exact Bf2 (hq1 A st B g1 env s1 he hr1 hm) (fun v s2 qB=>by
   obtain ⟨g2,σ2,m2,b,hg2,hr2,hv2,hm2,hq2⟩:=qB
   subst hm2
   exact Tr.np (hq2 A st B g2 env _ s2 u v hr2 (hv1.mono hg2) hv2 hm) (A3 hg1 hg2)) fun _ _ q=>q.mono hg1 fun _ _ _ x=>x) fun _ _ q=>q)
theorem Ayj {l r op pos Q} (h:Ev P n fx l σ m (fun a σ1=>Ev P n fx r σ1 m (fun b σ2=>Co P n op a b σ2 (fun c σ3=>Q (.bool c) σ3)) X) X)
  (hb:Bq8 op r=false):Ev P n fx (.Compare l [op] [r] pos) σ m Q X:=
 fun A st B g env s he hr hm=>wpAny_Compare1 (Bf2 (h A st B g env s he hr hm) (fun u s1 qC=>by
  obtain ⟨g1,σ1,m1,a,hg1,hr1,hv1,hm1,hq1⟩:=qC
  subst hm1
  exact Bf2 (hq1 A st B g1 env s1 he hr1 hm) (fun v s2 qD=>by
   obtain ⟨g2,σ2,m2,b,hg2,hr2,hv2,hm2,hq2⟩:=qD
   subst hm2
   refine Bf2 (hq2 A st B g2 env _ s2 u v hr2 (hv1.mono hg2) hv2 hm) (fun c s3 qM=>?_) fun _ _ q=>q.elim
   obtain ⟨g3,σ3,m3,b3,hg3,hr3,hv3,hm3,hq3⟩:=qM
   subst hv3
   exact ⟨g3,σ3,m3,_,A3 hg1 (A3 hg2 hg3),hr3,.bool _,hm3,hq3⟩) fun _ _ q=>q.mono hg1 fun _ _ _ x=>x) fun _ _ q=>q) hb
theorem Ayo {l r op pos Q} (h:Ev P n fx l σ m (fun a σ1=>Ev P n fx r σ1 m (fun b σ2=>Co P n op a b σ2 Q) X) X)
  (hb:Bq8 op r=false):Tt P n fx (.Compare l [op] [r] pos) σ m Q X:=
 fun A st B g env s he hr hm=>wpAny_isTrue_Compare1 (Bf2 (h A st B g env s he hr hm) (fun u s1 qF=>by
  obtain ⟨g1,σ1,m1,a,hg1,hr1,hv1,hm1,hq1⟩:=qF
  subst hm1
  exact Bf2 (hq1 A st B g1 env s1 he hr1 hm) (fun v s2 qG=>by
   obtain ⟨g2,σ2,m2,b,hg2,hr2,hv2,hm2,hq2⟩:=qG
   subst hm2
   refine Bf2 (hq2 A st B g2 env _ s2 u v hr2 (hv1.mono hg2) hv2 hm) (fun c s3 qM=>?_) fun _ _ q=>q.elim
   obtain ⟨g3,σ3,m3,b3,hg3,hr3,hv3,hm3,hq3⟩:=qM
   subst hv3
   exact Bs0 ⟨g3,σ3,m3,_,A3 hg1 (A3 hg2 hg3),hr3,rfl,hm3,hq3⟩) fun _ _ q=>q.mono hg1 fun _ _ _ x=>x) fun _ _ q=>q) hb
theorem Avm {l r1 r2 op1 op2 pos Q} (h:Ev P n fx l σ m (fun a σ1=>Ev P n fx r1 σ1 m (fun b σ2=>Co P n op1 a b σ2 (fun c σ3=>if c then Ev P n fx r2 σ3 m (fun d σ4=>Co P n op2 b d σ4 Q) X else Q false σ3)) X) X)
  (hb1:Bq8 op1 r1=false) (hb2:Bq8 op2 r2=false):Tt P n fx (.Compare l [op1,op2] [r1,r2] pos) σ m Q X:=
 fun A st B g env s he hr hm=>by
  show wpAny _ _ (do testChain pos (<- eval l env) [op1,op2] [eval r1 env,markedBehindIn op2 r2 (eval r2 env)]) _ _ _
  rw [markedBehindIn_of_false hb2]
  refine Be8 (Bf2 (h A st B g env s he hr hm) (fun u s1 qM=>?_) fun _ _ q=>q)
  obtain ⟨g1,σ1,m1,a,hg1,hr1,hv1,hm1,hq1⟩:=qM
  subst hm1
  refine Be8 (Bl0 (Bf2 (hq1 A st B g1 env s1 he hr1 hm) (fun v s2 qM=>?_) fun _ _ q=>q.mono hg1 fun _ _ _ x=>x))
  obtain ⟨g2,σ2,m2,b,hg2,hr2,hv2,hm2,hq2⟩:=qM
  subst hm2
  refine Be8 (Bo2 (Be8 (Bl0 (Bf2 (hq2 A st B g2 env _ s2 u v hr2 (hv1.mono hg2) hv2 hm) (fun c s3 qM=>?_) fun _ _ q=>q.elim))))
  obtain ⟨g3,σ3,m3,b3,hg3,hr3,hv3,hm3,hq3⟩:=qM
  subst hv3
  subst hm3
  refine Be8 (wpAny_release (Be8 (Bl0 (Bs0 ?_))))
  have hgg:g.StaysIn g3:=A3 hg1 (A3 hg2 hg3)
  cases b3 with
  | false=>exact Bf5 ⟨g3,σ3,_,false,hgg,hr3,rfl,rfl,hq3⟩
  | true=>
   simp only [if_true]
   refine Be8 (Bl0 (Bf2 (hq3 A st B g3 env s3 he hr3 hm) (fun w s4 qM=>?_) fun _ _ q=>q.mono hgg fun _ _ _ x=>x))
   obtain ⟨g4,σ4,m4,d,hg4,hr4,hv4,hm4,hq4⟩:=qM
   subst hm4
   refine Be8 (Bo2 (Be8 (wpAny_operate' (Bf2 (hq4 A st B g4 env _ s4 v w hr4 ((hv2.mono hg3).mono hg4) hv4 hm) (fun c s5 qM=>?_) fun _ _ q=>q.elim))))
   obtain ⟨g5,σ5,m5,b5,hg5,hr5,hv5,hm5,hq5⟩:=qM
   subst hv5
   exact Bl0 (Bs0 ⟨g5,σ5,m5,_,A3 hgg (A3 hg4 hg5),hr5,rfl,hm5,hq5⟩)
theorem Aym {i j Q} (h:Q (.int (i + j)) σ):Bo P n .Add (.int i) (.int j) σ Q:=
 fun A st B g env m s u v hr hu hv hm=>by obtain ⟨_,rfl⟩:=hu.inv; obtain ⟨_,rfl⟩:=hv.inv; exact add_int ⟨g,σ,m,_,A2 g,hr.tok _,.int _ _,rfl,h⟩
theorem Azh {i j Q} (h:Q (.int (i - j)) σ):Bo P n .Sub (.int i) (.int j) σ Q:=
 fun A st B g env m s u v hr hu hv hm=>by obtain ⟨_,rfl⟩:=hu.inv; obtain ⟨_,rfl⟩:=hv.inv; exact sub_int ⟨g,σ,m,_,A2 g,hr.tok _,.int _ _,rfl,h⟩
theorem Auw {i j Q} (h:Q (.int (i * j)) σ) (hf:IntMulOk i j):Bo P n .Mult (.int i) (.int j) σ Q:=
 fun A st B g env m s u v hr hu hv hm=>by obtain ⟨_,rfl⟩:=hu.inv; obtain ⟨_,rfl⟩:=hv.inv; exact mul_int ⟨g,σ,m,_,A2 g,hr.tok _,.int _ _,rfl,h⟩ hf
theorem Au9 {i j Q} (hj:j≠0) (h:Q (.int (i.fmod j)) σ):Bo P n .Mod (.int i) (.int j) σ Q:=
 fun A st B g env m s u v hr hu hv hm=>by obtain ⟨_,rfl⟩:=hu.inv; obtain ⟨_,rfl⟩:=hv.inv; exact mod_int hj ⟨g,σ,m,_,A2 g,hr.tok _,.int _ _,rfl,h⟩
theorem As3 {i j Q} (hj:j≠0) (hp:Bi8.divisionGoesByPylong i j=false) (h:Q (.int (i.fdiv j)) σ):Bo P n .FloorDiv (.int i) (.int j) σ Q:=
 fun A st B g env m s u v hr hu hv hm=>by obtain ⟨_,rfl⟩:=hu.inv; obtain ⟨_,rfl⟩:=hv.inv; exact floordiv_int hj ⟨g,σ,m,_,A2 g,hr.tok _,.int _ _,rfl,h⟩ (.inl hp)
theorem Ae9 {x y Q} (h:Q (.str (x ++ y)) σ) (hl:x.length + y.length<=sizeLine):Bo P n .Add (.str x) (.str y) σ Q:=
 fun A st B g env m s u v hr hu hv hm=>by obtain ⟨_,rfl⟩:=hu.inv; obtain ⟨_,rfl⟩:=hv.inv; exact add_str (fun t' tk=>⟨g,σ,m,_,A2 g,hr.tok _,.str _ _,rfl,h⟩) hl
theorem Apt {i j Q} (h:Q (decide (i < j)) σ):Co P n .Lt (.int i) (.int j) σ Q:=
 fun A st B g env m s u v hr hu hv hm=>by obtain ⟨_,rfl⟩:=hu.inv; obtain ⟨_,rfl⟩:=hv.inv; exact lt_int ⟨g,σ,m,_,A2 g,hr,rfl,rfl,h⟩
theorem Ahl {i j Q} (h:Q (decide (j < i)) σ):Co P n .Gt (.int i) (.int j) σ Q:=
 fun A st B g env m s u v hr hu hv hm=>by obtain ⟨_,rfl⟩:=hu.inv; obtain ⟨_,rfl⟩:=hv.inv; exact gt_int ⟨g,σ,m,_,A2 g,hr,rfl,rfl,h⟩
theorem Aj8 {i j Q} (h:Q (decide (i<=j)) σ):Co P n .LtE (.int i) (.int j) σ Q:=
 fun A st B g env m s u v hr hu hv hm=>by obtain ⟨_,rfl⟩:=hu.inv; obtain ⟨_,rfl⟩:=hv.inv; exact le_int ⟨g,σ,m,_,A2 g,hr,rfl,rfl,h⟩
theorem Bad {i j Q} (h:Q (decide (j<=i)) σ):Co P n .GtE (.int i) (.int j) σ Q:=
 fun A st B g env m s u v hr hu hv hm=>by obtain ⟨_,rfl⟩:=hu.inv; obtain ⟨_,rfl⟩:=hv.inv; exact ge_int ⟨g,σ,m,_,A2 g,hr,rfl,rfl,h⟩
theorem Abz {i j Q} (h:Q (decide (i=j)) σ):Co P n .Eq (.int i) (.int j) σ Q:=
 fun A st B g env m s u v hr hu hv hm=>by
  obtain ⟨_,rfl⟩:=hu.inv; obtain ⟨_,rfl⟩:=hv.inv; exact eq_int ⟨g,σ,m,_,A2 g,hr,rfl,rfl,by rw [show (i == j)=decide (i=j) from by by_cases e:i=j <;> simp [e]]; exact h⟩
theorem Ami {i j Q} (h:Q (decide (i≠j)) σ):Co P n .NotEq (.int i) (.int j) σ Q:=
 fun A st B g env m s u v hr hu hv hm=>by
  obtain ⟨_,rfl⟩:=hu.inv; obtain ⟨_,rfl⟩:=hv.inv; exact ne_int ⟨g,σ,m,_,A2 g,hr,rfl,rfl,by rw [show (i != j)=decide (i≠j) from by by_cases e:i=j <;> simp [e]]; exact h⟩
theorem Aw {i j Q} (h:Q (decide (i=j)) σ):Co P n .Eq (.str i) (.str j) σ Q:=
 fun A st B g env m s u v hr hu hv hm=>by
  obtain ⟨_,rfl⟩:=hu.inv; obtain ⟨_,rfl⟩:=hv.inv; exact eq_str ⟨g,σ,m,_,A2 g,hr,rfl,rfl,by rw [show (i == j)=decide (i=j) from by by_cases e:i=j <;> simp [e]]; exact h⟩
theorem An2 {i j Q} (h:Q (decide (i≠j)) σ):Co P n .NotEq (.str i) (.str j) σ Q:=
 fun A st B g env m s u v hr hu hv hm=>by
  obtain ⟨_,rfl⟩:=hu.inv; obtain ⟨_,rfl⟩:=hv.inv; exact ne_str ⟨g,σ,m,_,A2 g,hr,rfl,rfl,by rw [show (i != j)=decide (i≠j) from by by_cases e:i=j <;> simp [e]]; exact h⟩
theorem isN {g u a} (h:VR g u a):(u == Value.none)=decide (a=V.none):=by
 induction h using VR.casesOn with
 | none=>exact (decide_eq_true rfl).symm
 | _=>exact (decide_eq_false (tgN rfl)).symm
theorem Bb8 {a Q} (h:Q (decide (a=.none)) σ):Co P n .Is a .none σ Q:=
 fun A st B g env m s u v hr hu hv hm=>by
  obtain ⟨_,rfl⟩:=hv.inv
  refine is_none ⟨g,σ,m,_,A2 g,hr,rfl,rfl,?_⟩
  rw [isN hu]; exact h
theorem At2 {a Q} (h:Q (decide (a≠.none)) σ):Co P n .IsNot a .none σ Q:=
 fun A st B g env m s u v hr hu hv hm=>by
  obtain ⟨_,rfl⟩:=hv.inv
  refine isNot_none ⟨g,σ,m,_,A2 g,hr,rfl,rfl,?_⟩
  rw [isN hu,<- decide_not]; exact h
theorem Ay9 {i k p pos Q} (h:Q (.int (-i)) σ):Ev P n fx (.UnaryOp .USub (.Constant (.int i) k p) pos) σ m Q X:=
 fun A st B g env s he hr hm=>wpAny_UnaryOp (Cl9 (neg_int ⟨g,σ,m,_,A2 g,hr.tok _,.int _ _,rfl,h⟩))
end
inductive RcB (A:Around) (s:Shared) (u v:Value) (b:Bool):Prop
 | mk (h1:Cj7 A s u v b) (h2:Cf9 A s u v (!b))
theorem rbB {A s u v b c} (h:Cj7 A s u v b) (h':Cf9 A s u v (!b)) (e:b=c):RcB A s u v c:=e ▸ ⟨h,h'⟩
theorem rbF {A:Around} {s:Shared} {u v:Value} {a b:V} (h:Cj7 A s u v false) (h':Cf9 A s u v true) (n:Nat.beq a.tg b.tg=false):RcB A s u v (decide (a=b)):=rbB h h' (decide_eq_false (tgN n)).symm
theorem rbT {A:Around} {s:Shared} {u v:Value} {a:V} (h:Cj7 A s u v true) (h':Cf9 A s u v false):RcB A s u v (decide (a=a)):=rbB h h' (decide_eq_true rfl).symm
open SeqAt in
theorem VR.rcB {A:Around} {s:Shared} {u v:Value} {a b:V} (ra:VR s.heap u a) (rb:VR s.heap v b) (ha:a.dat=true) (hb:b.dat=true) (hu:A.units + min a.dep b.dep < cLine):RcB A s u v (decide (a=b)):=by
 induction ra using VR.casesOn with
 | none=>
  induction rb using VR.casesOn with
  | none=>exact rbT RcAt.none_none RcNeAt.none_none
  | int y u=>exact rbF (RcAt.none_int y u) (RcNeAt.none_int y u) rfl
  | str y u=>exact rbF (RcAt.none_str y u) (RcNeAt.none_str y u) rfl
  | lst k1 k2 k3 k4=>exact rbF (RcAt.none_list ⟨_,k1,k2,_,k3⟩ (room_here hu)) (RcNeAt.none_list ⟨_,k1,k2,_,k3⟩ (room_here hu)) rfl
  | tup k1 k2 k3 k4=>exact rbF (RcAt.none_tuple ⟨_,k1,k2,_,k3⟩ (room_here hu)) (RcNeAt.none_tuple ⟨_,k1,k2,_,k3⟩ (room_here hu)) rfl
  | _=>exact absurd hb Bg5
 | int x t=>
  induction rb using VR.casesOn with
  | none=>exact rbF (RcAt.int_none x t) (RcNeAt.int_none x t) rfl
  | int y u=>exact rbB (RcAt.int_int x t y u) (RcNeAt.int_int x t y u) (Arv x y)
  | str y u=>exact rbF (RcAt.int_str x t y u) (RcNeAt.int_str x t y u) rfl
  | lst k1 k2 k3 k4=>exact rbF (RcAt.int_list x t ⟨_,k1,k2,_,k3⟩ (room_here hu)) (RcNeAt.int_list x t ⟨_,k1,k2,_,k3⟩ (room_here hu)) rfl
  | tup k1 k2 k3 k4=>exact rbF (RcAt.int_tuple x t ⟨_,k1,k2,_,k3⟩ (room_here hu)) (RcNeAt.int_tuple x t ⟨_,k1,k2,_,k3⟩ (room_here hu)) rfl
  | _=>exact absurd hb Bg5
 | str x t=>
  induction rb using VR.casesOn with
  | none=>exact rbF (RcAt.str_none x t) (RcNeAt.str_none x t) rfl
  | int y u=>exact rbF (RcAt.str_int x t y u) (RcNeAt.str_int x t y u) rfl
  | str y u=>exact rbB (RcAt.str_str x t y u) (RcNeAt.str_str x t y u) (Ard x y)
  | lst k1 k2 k3 k4=>exact rbF (RcAt.str_list x t ⟨_,k1,k2,_,k3⟩ (room_here hu)) (RcNeAt.str_list x t ⟨_,k1,k2,_,k3⟩ (room_here hu)) rfl
  | tup k1 k2 k3 k4=>exact rbF (RcAt.str_tuple x t ⟨_,k1,k2,_,k3⟩ (room_here hu)) (RcNeAt.str_tuple x t ⟨_,k1,k2,_,k3⟩ (room_here hu)) rfl
  | _=>exact absurd hb Bg5
 | @lst l o vs n xs h1 h2 h3 h4=>
  have hl:s.heap.IsList l vs:=⟨_,h1,h2,_,h3⟩
  induction rb using VR.casesOn with
  | none=>exact rbF (RcAt.list_none hl (room_here hu)) (RcNeAt.list_none hl (room_here hu)) rfl
  | int y u=>exact rbF (RcAt.list_int y u hl (room_here hu)) (RcNeAt.list_int y u hl (room_here hu)) rfl
  | str y u=>exact rbF (RcAt.list_str y u hl (room_here hu)) (RcNeAt.list_str y u hl (room_here hu)) rfl
  | tup k1 k2 k3 k4=>exact rbF (RcAt.list_tuple hl ⟨_,k1,k2,_,k3⟩ (room_here hu)) (RcNeAt.list_tuple hl ⟨_,k1,k2,_,k3⟩ (room_here hu)) rfl
  | @lst l' o' vs' n' ys k1 k2 k3 k4=>
   have hl':s.heap.IsList l' vs':=⟨_,k1,k2,_,k3⟩
   have n1:vs.size=xs.length:=Agd h4
   have n2:vs'.size=ys.length:=Agd k4
   have he:∀ j (j1:j < vs.size) (j2:j < vs'.size),EqAt A.in1 s vs[j] vs'[j] (decide (xs.getD j .none=ys.getD j .none)):=fun j j1 j2=>
     VRs.Axb xs ys A.in1 s vs.toList vs'.toList h4 k4 ha hb (room_in hu) j (Bg4 ▸ j1) (Bg4 ▸ j2)
   rw [Api]
   by_cases hsz:vs.size=vs'.size
   · rw [<- Ah0 (n1.symm.trans (hsz.trans n2)),<- n1]
     exact ⟨RcAt.lists hl hl' hsz (room_here hu) he,RcNeAt.lists hl hl' hsz (room_here hu) he⟩
   · rw [decide_eq_false (fun e=>hsz (by rw [n1,n2,e]))]
     exact ⟨RcAt.lists_lengths hl hl' (bne_iff_ne.mpr hsz) (room_here hu),RcNeAt.lists_lengths hl hl' (bne_iff_ne.mpr hsz) (room_here hu)⟩
  | _=>exact absurd hb Bg5
 | @tup l o vs n xs h1 h2 h3 h4=>
  have hl:s.heap.IsTuple l vs:=⟨_,h1,h2,_,h3⟩
  induction rb using VR.casesOn with
  | none=>exact rbF (RcAt.tuple_none hl (room_here hu)) (RcNeAt.tuple_none hl (room_here hu)) rfl
  | int y u=>exact rbF (RcAt.tuple_int y u hl (room_here hu)) (RcNeAt.tuple_int y u hl (room_here hu)) rfl
  | str y u=>exact rbF (RcAt.tuple_str y u hl (room_here hu)) (RcNeAt.tuple_str y u hl (room_here hu)) rfl
  | lst k1 k2 k3 k4=>exact rbF (RcAt.tuple_list hl ⟨_,k1,k2,_,k3⟩ (room_here hu)) (RcNeAt.tuple_list hl ⟨_,k1,k2,_,k3⟩ (room_here hu)) rfl
  | @tup l' o' vs' n' ys k1 k2 k3 k4=>
   have hl':s.heap.IsTuple l' vs':=⟨_,k1,k2,_,k3⟩
   have n1:vs.size=xs.length:=Agd h4
   have n2:vs'.size=ys.length:=Agd k4
   have he:∀ j (j1:j < vs.size) (j2:j < vs'.size),EqAt A.in1 s vs[j] vs'[j] (decide (xs.getD j .none=ys.getD j .none)):=fun j j1 j2=>
     VRs.Axb xs ys A.in1 s vs.toList vs'.toList h4 k4 ha hb (room_in hu) j (Bg4 ▸ j1) (Bg4 ▸ j2)
   rw [Apc]
   rw [<- Adq xs ys,<- n1,<- n2]
   exact ⟨RcAt.tuples hl hl' (room_here hu) he,RcNeAt.tuples hl hl' (room_here hu) he⟩
  | _=>exact absurd hb Bg5
 | _=>exact absurd ha Bg5
theorem VR.Bcw {A s u v a b} (ra:VR s.heap u a) (rb:VR s.heap v b) (ha:a.dat=true) (hb:b.dat=true) (hu:A.units + min a.dep b.dep < cLine):Cj7 A s u v (decide (a=b)):=by obtain ⟨h,_⟩:=VR.rcB ra rb ha hb hu; exact h
theorem VR.Bcv {A s u v a b} (ra:VR s.heap u a) (rb:VR s.heap v b) (ha:a.dat=true) (hb:b.dat=true) (hu:A.units + min a.dep b.dep < cLine):Cf9 A s u v (!decide (a=b)):=by obtain ⟨_,h⟩:=VR.rcB ra rb ha hb hu; exact h
inductive Dv (σ:Sto):V->V->Prop
 | val (d:V):Dv σ d d
 | loc {a:Addr} {ds:List V}:σ a=some (.list ds)->Dv σ (.loc a) (.lst ds)
section
variable {P:Pm} {n:Nat} {fx:Fx} {σ:Sto} {m:A8} {X:Xt}
theorem Dv.at {B g A st s a d u} (R:RepC P B g A st σ s) (x:Dv σ a d) (h:VR g u a):VR s.heap u d:=by
 cases x with
 | val=>exact h.mono R.fz
 | loc e=>
  obtain ⟨_,rfl⟩:=h.inv
  obtain ⟨_,_,o,h1,h2,items,k,h3,h4,_⟩:=R.sto _ _ e
  exact .lst h1 h2 h3 (h4.mono R.fz)
theorem Ahn {a b da db Q} (ha:Dv σ a da) (hb:Dv σ b db) (h:Q (decide (da=db)) σ) (h1:da.dat=true) (h2:db.dat=true) (hd:min da.dep db.dep<=40):Co P n .Eq a b σ Q:=
 fun A st B g env m s u v hr hu hv hm=>(ha.at hr.toRepC hu).Bcw (hb.at hr.toRepC hv) h1 h2 (ru hm.2.1 (Be7 hd (by decide))) _ _ _ _ ⟨g,σ,m,_,A2 g,hr,rfl,rfl,h⟩
theorem Afs {a b da db Q} (ha:Dv σ a da) (hb:Dv σ b db) (h:Q (!decide (da=db)) σ) (h1:da.dat=true) (h2:db.dat=true) (hd:min da.dep db.dep<=40):Co P n .NotEq a b σ Q:=
 fun A st B g env m s u v hr hu hv hm=>(ha.at hr.toRepC hu).Bcv (hb.at hr.toRepC hv) h1 h2 (ru hm.2.1 (Be7 hd (by decide))) _ _ _ _ ⟨g,σ,m,_,A2 g,hr,rfl,rfl,h⟩
theorem Acr:∀ {ds},V.Be ds=true ↔ ∀ d∈ds,d.dat=true
 | []=>by simp [V.Be]
 | a :: r=>by simp [V.Be,Acr (ds:=r)]
theorem Aqf {A s v d} (hd:d.dat=true) (hv:VR s.heap v d) (Azl:d.dep<=40) (hu:A.units + 40 < cLine) {vs ds} (h:VRs s.heap vs ds) (hds:V.Be ds=true) :
   ∃ e:Value->Bool,(∀ y∈vs,By6 A s y v (e y))/\vs.any e=decide (d∈ds):=by
 classical
 refine ⟨fun y=>decide (∃ a,VR s.heap y a/\a.dat=true/\a=d),fun y hy=>?_,?_⟩
 · obtain ⟨k,hk⟩:=List.mem_iff_getElem?.mp hy
   have hlt:k < ds.length:=by rw [<- h.length]; exact (Bf7.mp hk).1
   obtain ⟨y',w1,q1⟩:=h.get (Bf0 hlt)
   rw [hk] at w1; cases w1
   have q2:=Acr.mp hds _ (Bl6 hlt)
   have:=VR.Axb ds[k] d A s y v q1 hv q2 hd (Bg6 (Bf3 (Be7 (Bm3 ..) Azl) _) hu)
   have e0:(fun y=>decide (∃ a,VR s.heap y a/\a.dat=true/\a=d)) y=decide (ds[k]=d):=by
    by_cases e:ds[k]=d
    · rw [decide_eq_true e]; exact decide_eq_true ⟨_,q1,q2,e⟩
    · rw [decide_eq_false e]; exact decide_eq_false fun qA=>by obtain ⟨a',w1,w2,w3⟩:=qA; exact e ((VR.inj q1 w1 q2 w2).trans w3)
   rw [e0]
   exact this
 · induction ds generalizing vs with
   | nil=>cases h; simp
   | cons d0 ds0 ih=>
    cases h with
    | @cons v0 _ vs0 _ h t=>
      simp only [V.Be,Bg0] at hds
      rw [Ce0,ih t hds.2]
      by_cases e:d=d0
      · subst e
        rw [decide_eq_true (p:=∃ a,VR s.heap v0 a/\a.dat=true/\a=d) ⟨d,h,hds.1,rfl⟩]
        simp
      · rw [decide_eq_false (p:=∃ a,VR s.heap v0 a/\a.dat=true/\a=d) (fun qB=>by obtain ⟨a',w1,w2,w3⟩:=qB; exact e ((VR.inj h w1 hds.1 w2).trans w3).symm)]
        simp [e]
theorem Ahr {a b d ds Q} (ha:Dv σ a d) (hb:Dv σ b (.lst ds)) (h:Q (decide (d∈ds)) σ) (h1:d.dat=true) (h2:V.Be ds=true) (hd:d.dep<=40):Co P n .In a b σ Q:=
 fun A st B g env m s u v hr hu hv hm=>by
  obtain ⟨l,items,rfl,hl,hi⟩:=(hb.at hr.toRepC hv).Atl
  obtain ⟨e,q1,q2⟩:=Aqf (A:=A.in1) h1 (ha.at hr.toRepC hu) hd (ru1 hm.2.1 (by decide)) hi h2
  refine SeqAt.in_listAt e hl (fun y hy=>q1 y (by simpa using hy)) ⟨g,σ,m,_,A2 g,hr,rfl,rfl,?_⟩
  rw [<- Ce2,q2]; exact h
theorem Apg {a d ds Q} (ha:Dv σ a d) (h:Q (decide (d∈ds)) σ) (h1:d.dat=true) (h2:V.Be ds=true) (hd:d.dep<=40):Co P n .In a (.tup ds) σ Q:=
 fun A st B g env m s u v hr hu hv hm=>by
  obtain ⟨l,items,rfl,hl,hi⟩:=(hv.mono hr.fz).isTup
  obtain ⟨e,q1,q2⟩:=Aqf (A:=A.in1) h1 (ha.at hr.toRepC hu) hd (ru1 hm.2.1 (by decide)) hi h2
  refine SeqAt.in_tupleAt e hl (fun y hy=>q1 y (by simpa using hy)) ⟨g,σ,m,_,A2 g,hr,rfl,rfl,?_⟩
  rw [<- Ce2,q2]; exact h
theorem Afi {a d ds Q} (ha:Dv σ a d) (h:Q (!decide (d∈ds)) σ) (h1:d.dat=true) (h2:V.Be ds=true) (hd:d.dep<=40):Co P n .NotIn a (.tup ds) σ Q:=
 fun A st B g env m s u v hr hu hv hm=>by
  obtain ⟨l,items,rfl,hl,hi⟩:=(hv.mono hr.fz).isTup
  obtain ⟨e,q1,q2⟩:=Aqf (A:=A.in1) h1 (ha.at hr.toRepC hu) hd (ru1 hm.2.1 (by decide)) hi h2
  refine SeqAt.notIn_tupleAt e hl (fun y hy=>q1 y (by simpa using hy)) ⟨g,σ,m,_,A2 g,hr,rfl,rfl,?_⟩
  rw [<- Ce2,q2]; exact h
end
theorem Aab (slice:Expr) (o i:Value):∃ ops,subscripted slice false o i=operate ops (getItem o i):=by
 cases slice with
 | Slice a b c p=>
  cases c with
  | none=>exact ⟨_,rfl⟩
  | some c=>exact ⟨_,rfl⟩
 | _=>exact ⟨_,rfl⟩
noncomputable def oi:Option Nat->Option Int
 | none=>none
 | some k=>some (k:Int)
noncomputable def Su (P:Pm) (n:Nat) (c k:V) (σ:Sto) (Q:V->Sto->Prop):Prop:=
 ∀ A st B g env m s o i value slice,Rep P B g A st env σ m s->VR g o c->VR g i k->Bg A n->Tr VR P n (subscriptTail value slice o i) A st B g env m s Q
noncomputable def Pt (v:V) (p:Option Nat):Prop:=match p with | none=>v=.none | some a=>v=.int a
noncomputable def slc {α:Type} (lo hi:Option Nat) (ds:List α):List α:=(ds.take (hi.getD ds.length)).drop (lo.getD 0)
theorem Alw {α β:Type} (f:α->β) (lo hi:Option Nat) (ds:List α):slc lo hi (ds.map f)=(slc lo hi ds).map f:=by simp [slc,List.map_take,List.map_drop]
noncomputable def Sl (P:Pm) (n:Nat) (c a b:V) (σ:Sto) (Q:V->Sto->Prop):Prop:=
 ∀ A st B g env m s o sl va vb value slice,Rep P B g A st env σ m s->VR g o c->VR g va a->VR g vb b->s.heap.IsSliceOf sl va vb .none->Bg A n->Tr VR P n (subscriptTail value slice o (.ref sl)) A st B g env m s Q
theorem VRs.slc {g vs ds} (h:VRs g vs ds) (lo hi:Option Nat):VRs g (Mine.Internal.slc lo hi vs) (Mine.Internal.slc lo hi ds):=by
 unfold Mine.Internal.slc; rw [h.length]; exact (h.take _).drop _
theorem Pt.part {g a p v} (h:Pt a p) (hv:VR g v a):IsPart v (oi p):=by
 cases p with
 | none=>obtain rfl:=h; obtain ⟨_,rfl⟩:=hv.inv; exact .none
 | some k=>obtain rfl:=h; obtain ⟨_,rfl⟩:=hv.inv; exact .int _ _
set_option tactic.hygienic true in
theorem Ao1 (lo hi:Option Nat) (n:Nat):sliceBounds (oi lo) (oi hi) none n=(((min (lo.getD 0) n:Nat):Int),((min (hi.getD n) n:Nat):Int),1):=by
 have h1:(1:Int) > 0:=by decide
 cases lo <;> cases hi <;> simp only [sliceBounds,oi,Bz6,Bm1,h1,if_true]
 · simp
 · rename_i b
   have:¬ ((b:Int) < 0):=nn
   simp only [this,if_false,Bu7,and_true]; exact ⟨by rw [Nat.zero_min]; rfl,mx⟩
 · rename_i b
   have:¬ ((b:Int) < 0):=nn
   simp only [this,if_false,Bu7,and_true]; exact ⟨mx,by rw [Nat.min_self]⟩
 · rename_i a b
   have:¬ ((b:Int) < 0):=nn
   have h2:¬ ((a:Int) < 0):=nn
   simp only [this,h2,if_false,Bu7,and_true]; exact ⟨mx,mx⟩
theorem Acn {α:Type} (lo hi:Option Nat) (xs:List α):(xs.drop (min (lo.getD 0) xs.length)).take (min (hi.getD xs.length) xs.length - min (lo.getD 0) xs.length)=slc lo hi xs:=by
 unfold slc
 rw [<- Co2]
 have e:xs.take (min (hi.getD xs.length) xs.length)=xs.take (hi.getD xs.length):=by
   by_cases h:hi.getD xs.length<=xs.length
   · rw [Br8 h]
   · rw [Cf2 (Cf3 h),Bu1 (Bh5 _),Bu1 (Cf3 h)]
 rw [e]
 by_cases h:lo.getD 0<=xs.length
 · rw [Br8 h]
 · rw [Cf2 (Cf3 h),List.drop_of_length_le (by rw [Bn4]; exact Bm3 ..),List.drop_of_length_le (by rw [Bn4]; exact Be7 (Bm3 ..) (Cf3 h))]
theorem Asd (items:Array Value) (lo hi:Option Nat):slicePick items (oi lo) (oi hi) none=(slc lo hi items.toList).toArray:=by
 unfold slicePick
 rw [Ao1]
 simp only [sliceRange_one,pick_run]
 rw [<- Bg4,Acn]
section
variable {prog:Program} {w:World} {A:Around} {E:Value->Shared->Prop} {s:Shared}
set_option tactic.hygienic true in
theorem Ans (lo hi:Option Nat) (n:Nat):Bz7 (oi lo) (oi hi) 1 (n:Int)=(((min (lo.getD 0) n:Nat):Int),((min (hi.getD n) n:Nat):Int)):=by
 unfold Bz7
 have h1:¬ ((1:Int) < 0):=by decide
 cases lo <;> cases hi <;> simp only [oi,Bz6,Bm1,h1,if_false]
 · simp
 · rename_i b
   have:¬ ((b:Int) < 0):=nn
   simp only [this,if_false,Bu7]; exact ⟨by rw [Nat.zero_min]; rfl,r15⟩
 · rename_i b
   have:¬ ((b:Int) < 0):=nn
   simp only [this,if_false,Bu7]; exact ⟨r15,by rw [Nat.min_self]⟩
 · rename_i a b
   have:¬ ((b:Int) < 0):=nn
   have h2:¬ ((a:Int) < 0):=nn
   simp only [this,h2,if_false,Bu7]; exact ⟨r15,r15⟩
theorem Aof (a b:Nat):Bu4 (a:Int) (b:Int) 1=b - a:=by
 unfold Bu4
 have h1:(1:Int) > 0:=by decide
 simp only [h1,if_true,Int.ediv_one]
 split
 · rw [Int.sub_add_cancel]; exact Int.toNat_sub ..
 · exact (Nat.sub_eq_zero_of_le (Bk8.mp (Bs4.mp ‹_›))).symm
theorem Afq {v p Q} (hv:IsPart v p) (h:Q p s):wpAny (model prog w) A (Bi8.Slice.slicePartIndex v) Q E s:=by
 cases hv with
 | none=>exact slicePart_none h
 | int i t=>exact slicePart_int h
theorem Afv {sl:Addr} {lo hi:Option Nat} {va vb:Value} {n:Nat} {Q:Int × Int × Nat->Shared->Prop} (hs:s.heap.IsSliceOf sl va vb .none) (pa:IsPart va (oi lo)) (pb:IsPart vb (oi hi))
  (h:Q (((min (lo.getD 0) n:Nat):Int),1,min (hi.getD n) n - min (lo.getD 0) n) s) :
  wpAny (model prog w) A (Bi8.Slice.sliceApplied (.ref sl) (pure (n:Int))) Q E s:=by
 obtain ⟨os,hos,hcs,hds⟩:=id hs
 unfold Bi8.Slice.sliceApplied Bi8.Slice.sliceFields
 refine Be8 (Be8 (Bt1 hos hds (x:=va) rfl (Be8 (Bt1 hos hds (x:=vb) rfl (Be8 (Bt1 hos hds (x:=.none) rfl (Bf5 ?_)))))))
 refine Be8 (slicePart_none ?_)
 show wpAny _ _ (if ((1:Int) == 0)=true then _ else _) _ _ s
 rw [if_neg (by decide)]
 refine Be8 (Afq pa (Be8 (Afq pb (Be8 (Bf5 ?_)))))
 show wpAny _ _ (match Bz7 (oi lo) (oi hi) 1 (n:Int) with | (lo,hi)=>pure (lo,(1:Int),Bu4 lo hi 1)) _ _ s
 rw [Ans]
 show wpAny _ _ (pure (((min (lo.getD 0) n:Nat):Int),(1:Int),Bu4 ((min (lo.getD 0) n:Nat):Int) ((min (hi.getD n) n:Nat):Int) 1)) _ _ s
 rw [Aof]
 exact Bf5 h
theorem Ar4 (xs:Array Value) (a k:Nat):((Bh8 k).filterMap fun (j:Nat)=>xs[((a:Int) + (j:Int) * 1).toNat]?)=(xs.toList.drop a).take k:=by
 have e:(fun (k:Nat)=>xs[((a:Int) + (k:Int) * 1).toNat]?)=fun k=>xs[a + k]?:=by
  funext k
  have:((a:Int) + (k:Int) * 1).toNat=a + k:=by rw [Int.mul_one]; rfl
  rw [this]
 rw [e]
 have:=pick_run xs a k
 rw [List.filterMap_map] at this
 exact this
theorem Aex {t sl items lo hi va vb Q} (ht:IsTup s.heap t items) (hs:s.heap.IsSliceOf sl va vb .none) (pa:IsPart va (oi lo)) (pb:IsPart vb (oi hi))
   (h0:slc lo hi items.toList=items.toList->Q (.ref t) s)
   (h:Q (.ref s.heap.objs.size) { s with heap:=s.heap.push { cls:=.type "tuple",data:=.seq (slc lo hi items.toList).toArray } })
   (hsz:items.size<=sizeLine):wpAny (model prog w) A (getItem (.ref t) (.ref sl)) Q E s:=by
 have Anx:sizeOk (.seq (slc lo hi items.toList).toArray):=by
   show (slc lo hi items.toList).toArray.size<=sizeLine
   unfold slc
   rw [Bp1,Bo9,Bn4,Bg4]
   exact Be7 (Bx6 ..) (Be7 (Bm3 ..) hsz)
 obtain ⟨os,hos,hcs,hds⟩:=id hs
 have hTs:s.TypeIs (.ref sl) "slice":=⟨os,hos,hcs⟩
 unfold getItem
 try with_reducible refine Bl0 ?_
 first | refine Be8 (Bf5 ?_) | skip
 refine Be8 (wpAny_sequenceKey ht.typeIs (by decide) ?_)
 refine Be8 (Bu3 (name:=Bf4 "__getitem__") ht.typeIs Cd7
   (Br2 Cd7 ht.typeIs entry_tuple_getitem ?_ (args_tuple_getitem _ _)))
 show wpAny _ _ (Bi8.Tuple.tupleItemsOf (.ref t) >>= _) _ _ s
 refine Be8 (tupleItemsOf_ ht ?_)
 refine Be8 (wpAny_typeOf hTs ?_)
 rw [if_pos (by decide)]
 refine Be8 (Afv hs pa pb ?_)
 have e:((Bh8 (min (hi.getD items.size) items.size - min (lo.getD 0) items.size)).filterMap fun (j:Nat)=>items[(((min (lo.getD 0) items.size:Nat):Int) + (j:Int) * 1).toNat]?)=slc lo hi items.toList:=by
   rw [Ar4,<- Bg4,Acn]
 by_cases hw:((((min (lo.getD 0) items.size:Nat):Int) == 0 && (1:Int) == 1 && (min (hi.getD items.size) items.size - min (lo.getD 0) items.size) == items.size)=true)
 · show wpAny _ _ (if ((((min (lo.getD 0) items.size:Nat):Int) == 0 && (1:Int) == 1 && (min (hi.getD items.size) items.size - min (lo.getD 0) items.size) == items.size)=true) then _ else _) _ _ s
   rw [if_pos hw]
   simp only [Bg0,beq_iff_eq] at hw
   have e2:slc lo hi items.toList=items.toList:=by
    rw [<- Acn,Bg4,hw.2,show min (lo.getD 0) items.size=0 from Br9 hw.1.1,Bo8,<- Bg4,Bu1 (Bh5 _)]
   refine Be8 (m:=Bi8.Tuple.tupleIsExact _) ?_
   unfold Bi8.Tuple.tupleIsExact
   refine Be8 (wpAny_typeOf ht.typeIs (Bf5 ?_))
   rw [if_pos (by rfl)]
   exact Be8 (wpAny_rule (Bf5 ⟨_,rfl,Bf5 (h0 e2)⟩))
 · show wpAny _ _ (if ((((min (lo.getD 0) items.size:Nat):Int) == 0 && (1:Int) == 1 && (min (hi.getD items.size) items.size - min (lo.getD 0) items.size) == items.size)=true) then _ else _) _ _ s
   rw [if_neg hw,e]
   first
    | exact Be8 (m:=Bv4 _) (Bn8 (Bf5 ⟨_,rfl,Bf5 h⟩) Anx)
    | exact Be8 (m:=Bv4 _) (Bn8 (Be8 (Bf5 (Bf5 ⟨_,rfl,Bf5 h⟩))) Anx)
    | exact Be8 (Be8 (m:=Bv4 _) (Bn8 (Bf5 (Bf5 ⟨_,rfl,Bf5 h⟩)) Anx))
    | exact Be8 (Be8 (m:=Bv4 _) (Bn8 (Bf5 ⟨_,rfl,Bf5 h⟩) Anx))
end
section
variable {P:Pm} {n:Nat} {fx:Fx} {σ:Sto} {m:A8} {X:Xt}
theorem Auj {value slice pos Q} (h:Ev P n fx value σ m (fun c σ1=>Ev P n fx slice σ1 m (fun k σ2=>Su P n c k σ2 Q) X) X):Ev P n fx (.Subscript value slice pos) σ m Q X:=
 fun A st B g env s he hr hm=>Subscript_ (Bf2 (h A st B g env s he hr hm) (fun u s1 qA=>by
  obtain ⟨g1,σ1,m1,a,hg1,hr1,hv1,hm1,hq1⟩:=qA
  subst hm1
  exact Bf2 (hq1 A st B g1 env s1 he hr1 hm) (fun v s2 qB=>by
   obtain ⟨g2,σ2,m2,b,hg2,hr2,hv2,hm2,hq2⟩:=qB
   subst hm2
   exact Tr.np (hq2 A st B g2 env _ s2 u v value slice hr2 (hv1.mono hg2) hv2 hm) (A3 hg1 hg2)) fun _ _ q=>q.mono hg1 fun _ _ _ x=>x) fun _ _ q=>q)
inductive LsP (s:Shared) (g:Heap) (o:Value) (ds:List V):Prop
 | mk (l:Addr) (items:Array Value) (e:o=.ref l) (h1:s.heap.IsList l items) (h2:VRs g items.toList ds)
theorem Dv.items {B g A st s c ds o} (R:RepC P B g A st σ s) (x:Dv σ c (.lst ds)) (h:VR g o c):LsP s g o ds:=by
 cases x with
 | val=>
  obtain ⟨l,items,e,hl,hv⟩:=h.Atl
  exact ⟨l,items,e,IsList.stays hl R.fz,hv⟩
 | loc e=>
  obtain ⟨_,rfl⟩:=h.inv
  obtain ⟨_,_,ob,h1,h2,items,k,h3,h4,_⟩:=R.sto _ _ e
  exact ⟨_,items,rfl,⟨ob,h1,h2,k,h3⟩,h4⟩
set_option tactic.hygienic true in
theorem Ab {c:V} {ds:List V} {k:Nat} {d:V} {Q:V->Sto->Prop} (hc:Dv σ c (.lst ds)) (hk:ds[k]?=some d) (h:Q d σ) (hf:k < 1000000:=by decide):Su P n c (.int k) σ Q:=
 fun A st B g env m s o i value slice hr ho hi hm=>by
  obtain ⟨_,rfl⟩:=hi.inv; rename_i tk0
  obtain ⟨l,items,rfl,hl,hv⟩:=hc.items hr.toRepC ho
  obtain ⟨ops,Anz⟩:=Aab slice (.ref l) (.int k tk0)
  obtain ⟨x,hx,r⟩:=hv.get hk
  rw [Bi9] at hx
  exact Cm0 hl.typeIs Cn1.lookup (wpAny_getItem_list (k:=k) hl (Bj9 _) (tl hf (by decide)) (by simpa using hx) ⟨g,σ,m,d,A2 g,hr,r,rfl,h⟩) Anz
set_option tactic.hygienic true in
theorem Acd {c ds d Q} (hc:Dv σ c (.lst ds)) (hk:ds.getLast?=some d) (h:Q d σ):Su P n c (.int (-1)) σ Q:=
 fun A st B g env m s o i value slice hr ho hi hm=>by
  obtain ⟨_,rfl⟩:=hi.inv; rename_i tk0
  obtain ⟨l,items,rfl,hl,hv⟩:=hc.items hr.toRepC ho
  obtain ⟨ops,Anz⟩:=Aab slice (.ref l) (.int (-1) tk0)
  rw [List.getLast?_eq_getElem?] at hk
  have hlen:0 < ds.length:=Bg6 (Bi4 _) (Bf7.mp hk).1
  obtain ⟨x,hx,r⟩:=hv.get hk
  rw [Bi9] at hx
  have hs:items.size=ds.length:=Agd hv
  exact Cm0 hl.typeIs Cn1.lookup (wpAny_getItem_list_neg hl (by decide) (Cp0 (Bk8.mpr (hs ▸ hlen))) (by decide) (by rw [hs,show (-1 + (ds.length:Int)).toNat=ds.length - 1 from tm]; exact hx) ⟨g,σ,m,d,A2 g,hr,r,rfl,h⟩) Anz
set_option tactic.hygienic true in
theorem A6 {ds:List V} {k:Nat} {d:V} {Q:V->Sto->Prop} (hk:ds[k]?=some d) (h:Q d σ) (hf:k < 1000000:=by decide):Su P n (.tup ds) (.int k) σ Q:=
 fun A st B g env m s o i value slice hr ho hi hm=>by
  obtain ⟨_,rfl⟩:=hi.inv; rename_i tk0
  obtain ⟨l,items,rfl,hl,hv⟩:=ho.isTup
  obtain ⟨ops,Anz⟩:=Aab slice (.ref l) (.int k tk0)
  obtain ⟨x,hx,r⟩:=hv.get hk
  have ht:=IsTuple.stays hl hr.fz
  have hlt:k < items.size:=by
   rw [Bi9] at hx
   exact (Array.getElem?_eq_some_iff.mp hx).1
  exact Cm0 (IsTup.typeIs ht) Cd7.lookup (getItem_tuple ht (tn (by decide)) (tl hf (by decide)) (j:=k) (Ayr hlt) (by rw [<- Bi9]; exact hx) ⟨g,σ,m,d,A2 g,hr,r,rfl,h⟩) Anz
noncomputable def Pe (P:Pm) (n:Nat) (fx:Fx) (e:Option Expr) (σ:Sto) (m:A8) (Q:V->Sto->Prop) (X:Xt):Prop:=match e with
 | none=>Q .none σ
 | some e=>Ev P n fx e σ m Q X
theorem Pe.run {e Q} (h:Pe P n fx e σ m Q X):JS VR P n fx (fun env=>evalPart e env) σ m (fun v σ' m'=>m'=m/\Q v σ') X:=by
 cases e with
 | none=>exact fun A st B g env s he hr hm=>Bf5 ⟨g,σ,m,_,A2 g,hr,.none,rfl,h⟩
 | some e=>exact h
theorem Asg {value lo hi p pos Q} (h:Ev P n fx value σ m (fun c σ1=>Pe P n fx lo σ1 m (fun a σ2=>Pe P n fx hi σ2 m (fun b σ3=>Sl P n c a b σ3 Q) X) X) X) :
  Ev P n fx (.Subscript value (.Slice lo hi none p) pos) σ m Q X:=
 fun A st B g env s he hr hm=>Subscript_ (Bf2 (h A st B g env s he hr hm) (fun u s1 qC=>by
  obtain ⟨g1,σ1,m1,a,hg1,hr1,hv1,hm1,hq1⟩:=qC
  subst hm1
  refine wpAny_Slice (Bf2 (hq1.run A st B g1 env s1 he hr1 hm) (fun v s2 qM=>?_) fun _ _ q=>q.mono hg1 fun _ _ _ x=>x)
  obtain ⟨g2,σ2,m2,b,hg2,hr2,hv2,hm2,hq2⟩:=qM
  subst hm2
  refine Bf2 (hq2.run A st B g2 env s2 he hr2 hm) (fun w s3 qM=>?_) fun _ _ q=>q.mono (A3 hg1 hg2) fun _ _ _ x=>x
  obtain ⟨g3,σ3,m3,c,hg3,hr3,hv3,hm3,hq3⟩:=qM
  subst hm3
  rw [evalPart_none]
  refine Bf5 ?_
  exact Tr.np (hq3 A st B g3 env _ { s3 with heap:=_ } u _ _ _ value _ (hr3.stays (Aa3 s3.heap _) s3.toks) ((hv1.mono hg2).mono hg3) (hv2.mono hg3) hv3 (Heap.IsSliceOf.new ..) hm) (A3 hg1 (A3 hg2 hg3))) fun _ _ q=>q)
theorem Apk {c a b ds lo hi Q} (hc:Dv σ c (.lst ds)) (ha:Pt a lo) (hb:Pt b hi) (h:Q (.lst (slc lo hi ds)) σ) (hl:ds.length<=100000):Sl P n c a b σ Q:=
 fun A st B g env m s o sl va vb value slice hr ho hva hvb hs hm=>by
  obtain ⟨l,items,rfl,hli,hv⟩:=hc.items hr.toRepC ho
  obtain ⟨ops,Anz⟩:=Aab slice (.ref l) (.ref sl)
  have hsz:items.size<=sizeLine:=by
   rw [Agd hv,Bn5]; exact Be7 hl (by decide)
  refine Cm0 hli.typeIs Cn1.lookup (wpAny_getItem_list_slice hli hs (ha.part hva) (hb.part hvb) .none (by simp) ?_ hsz) Anz
  obtain ⟨g2,hg2,ho2,R2⟩:=hr.Aap { cls:=.type "list",data:=.seq (slicePick items (oi lo) (oi hi) none) } rfl (fun f=>by have q:Value.type "list"=Value.type "frame":=f.1; exact absurd q (by decide)) s.toks
  refine ⟨g2,σ,m,_,hg2,R2,.lst ho2 rfl rfl ?_,rfl,h⟩
  rw [Asd]
  exact (hv.slc lo hi).mono hg2
theorem Am8 {a b ds lo hi Q} (ha:Pt a lo) (hb:Pt b hi) (h:Q (.tup (slc lo hi ds)) σ) (hl:ds.length<=100000):Sl P n (.tup ds) a b σ Q:=
 fun A st B g env m s o sl va vb value slice hr ho hva hvb hs hm=>by
  have ho':=ho
  obtain ⟨l,items,rfl,hli,hv⟩:=ho.isTup
  obtain ⟨ops,Anz⟩:=Aab slice (.ref l) (.ref sl)
  have hsz:items.size<=sizeLine:=by
    rw [Agd hv,Bn5]; exact Be7 hl (by decide)
  have ht:=IsTuple.stays hli hr.fz
  have hv2:=hv.slc lo hi
  refine Cm0 (IsTup.typeIs ht) Cd7.lookup (Aex ht hs (ha.part hva) (hb.part hvb) (fun e=>?_) ?_ hsz) Anz
  · refine ⟨g,σ,m,_,A2 g,hr,?_,rfl,h⟩
    rw [e] at hv2
    obtain ⟨o1,q1,q2,q3,q4⟩:=hli
    exact .tup q1 q2 q4 hv2
  · obtain ⟨g2,hg2,ho2,R2⟩:=hr.Aap { cls:=.type "tuple",data:=.seq (slc lo hi items.toList).toArray } rfl (fun f=>by have q:Value.type "tuple"=Value.type "frame":=f.1; exact absurd q (by decide)) s.toks
    exact ⟨g2,σ,m,_,hg2,R2,.tup ho2 rfl rfl (by simpa using hv2.mono hg2),rfl,h⟩
theorem Aza {f vs Q Y} (h:Fn P n f vs σ (fun v σ'=>∃ σ'',(∀ a x,σ'' a=some x->σ' a=some x)/\Q v σ'') (fun y σ'=>∃ σ'',(∀ a x,σ'' a=some x->σ' a=some x)/\Y y σ'')):Fn P n f vs σ Q Y:=
 fun A st B g s vals hr hv hm=>Bp4 (h A st B g s vals hr hv hm) fun r s' q=>by
  cases r with
  | ok f=>
   cases f with
   | ret v=>obtain ⟨g',σ',d,a,b,c,σ'',e1,e2⟩:=q; exact ⟨g',σ'',d,a,b.forget e1,c,e2⟩
   | _=>exact q
  | error e=>obtain ⟨g',σ',why,ea,a,b,c,d,σ'',e1,e2⟩:=q; exact ⟨g',σ'',why,ea,a,b.forget e1,c,d,e2⟩
end
inductive Tv (σ:Sto):V->Bool->Prop
 | bool (b:Bool):Tv σ (.bool b) b
 | list {c:V} {ds:List V}:Dv σ c (.lst ds)->ds.length<=100000->Tv σ c (!ds.isEmpty)
section
variable {P:Pm} {n:Nat} {fx:Fx} {σ:Sto} {m:A8} {X:Xt}
set_option tactic.hygienic true in
theorem Tv.run {A st B g env s v c b Q} (hr:Rep P B g A st env σ m s) (hv:VR g v c) (ht:Tv σ c b) (h:Q b σ):Tr EqR P n (truthy v) A st B g env m s Q:=by
 induction ht using Tv.casesOn with
 | bool b=>obtain ⟨_,rfl⟩:=hv.inv; exact Bs0 ⟨g,σ,m,b,A2 g,hr,rfl,rfl,h⟩
 | list hc hl=>
  obtain ⟨l,items,rfl,hli,hi⟩:=hc.items hr.toRepC hv
  have e:items.size=_:=(Bg4 (xs:=items)).symm.trans hi.length
  refine wpAny_truthy_list hli (by rw [e]; exact tk hl (by decide)) ⟨g,σ,m,_,A2 g,hr.tok _,rfl,rfl,?_⟩
  rename_i ds
  have e2:items.isEmpty=ds.isEmpty:=by
   rw [Bv6,Array.isEmpty_iff_size_eq_zero,e,List.isEmpty_iff,Br1]
  rw [e2]; exact h
theorem Ay7 {e Q} (h:Ev P n fx e σ m (fun v σ'=>∃ b,Tv σ' v b/\Q b σ') X)
  (hi:∀ env whole,isTrue e env whole=(do let v <- whole; Cb6 e.pos; holding [v] (truthy v)):=by intro _ _; rfl):Tt P n fx e σ m Q X:=
 fun A st B g env s he hr hm=>wpAny_isTrue_value (Bf2 (h A st B g env s he hr hm) (fun v s1 qA=>by
  obtain ⟨g1,σ1,m1,a,hg1,hr1,hv1,hm1,b,hb,hq⟩:=qA
  subst hm1
  exact Tr.np (n:=n) (hb.run hr1 hv1 hq) hg1) fun _ _ q=>q) (hi env _)
theorem Ayu {x y pos Q} (h:Ev P n fx x σ m (fun v σ'=>∃ b,Tv σ' v b/\if b then Ev P n fx y σ' m Q X else Q v σ') X):Ev P n fx (.BoolOp .And [x,y] pos) σ m Q X:=
 fun A st B g env s he hr hm=>wpAny_And2 (Bf2 (h A st B g env s he hr hm) (fun v s1 qB=>by
  obtain ⟨g1,σ1,m1,a,hg1,hr1,hv1,hm1,b,hb,hq⟩:=qB
  subst hm1
  refine Bf2 (hb.run (n:=n) (Q:=fun b' σ'=>b'=b/\σ'=σ1) hr1 hv1 ⟨rfl,rfl⟩) (fun t s2 qM=>?_) fun _ _ q=>q.elim
  obtain ⟨g2,σ2,m2,b2,hg2,hr2,hv2,hm2,e1,e2⟩:=qM
  subst hm2; subst e1; subst e2
  obtain rfl:t=b2:=hv2
  cases t with
  | true=>exact Bf2 (hq A st B g2 env s2 he hr2 hm) (fun _ _ q=>q.mono (A3 hg1 hg2) fun _ _ _ x=>x) fun _ _ q=>q.mono (A3 hg1 hg2) fun _ _ _ x=>x
  | false=>exact ⟨g2,_,_,_,A3 hg1 hg2,hr2,hv1.mono hg2,rfl,hq⟩) fun _ _ q=>q)
theorem Aa1 {c ds Q} (hc:Dv σ c (.lst ds)) (hl:ds.length<=100000) (h:Q (.int ds.length) σ):Bt P n (.builtin "len") [c] σ Q:=
 fun A st B g env m s vals hr hv hm=>by
  replace hv:=hv.inv; obtain ⟨_,_,rfl,hv,t⟩:=hv
  ·
   cases t
   obtain ⟨l,items,rfl,hli,hi⟩:=hc.items hr.toRepC hv
   have e:items.size=ds.length:=(Bg4 (xs:=items)).symm.trans hi.length
   refine len_list hli (by rw [e]; exact tk hl (by decide)) ⟨g,σ,m,_,A2 g,hr.tok _,?_,rfl,h⟩
   rw [<- e]; exact .int _ _
theorem Af5 {ds Q} (hl:ds.length<=100000) (h:Q (.int ds.length) σ):Bt P n (.builtin "len") [.tup ds] σ Q:=
 fun A st B g env m s vals hr hv hm=>by
  replace hv:=hv.inv; obtain ⟨_,_,rfl,hv,t⟩:=hv
  ·
   cases t
   obtain ⟨l,items,rfl,hli,hi⟩:=hv.isTup
   have e:items.size=ds.length:=(Bg4 (xs:=items)).symm.trans hi.length
   refine len_tuple (IsTuple.stays hli hr.fz) (by rw [e]; exact tk hl (by decide)) ⟨g,σ,m,_,A2 g,hr.tok _,?_,rfl,h⟩
   rw [<- e]; exact .int _ _
theorem VRs.ints {g}:∀ {vs ns},VRs g vs (ns.map .int)->IntsAre vs ns
 | _,[],h=>by cases h; exact .nil
 | _,k :: ns,h=>by
  replace h:=h.inv; obtain ⟨_,_,rfl,a,t⟩:=h
  · obtain ⟨_,rfl⟩:=a.inv; exact .cons _ _ (VRs.ints t)
theorem Af6 {a b Q} (h:Q (.int (min a b)) σ):Bt P n (.builtin "min") [.int a,.int b] σ Q:=
 fun A st B g env m s vals hr hv hm=>by
  replace hv:=hv.inv; obtain ⟨_,_,rfl,ha,t⟩:=hv
  ·
   replace t:=t.inv; obtain ⟨_,_,rfl,hb,t⟩:=t
   ·
    cases t; obtain ⟨_,rfl⟩:=ha.inv; obtain ⟨_,rfl⟩:=hb.inv
    refine min_two_ints hm.2.2 fun h' tk hk=>⟨g,σ,m,_,A2 g,hr.stays hk tk,?_,rfl,h⟩
    by_cases e:b < a
    · rw [if_pos e,Int.min_eq_right (Cl6 e)]; exact .int _ _
    · rw [if_neg e,Int.min_eq_left (Bs4.mp e)]; exact .int _ _
theorem Ar3 {c:V} {ns:List Int} {Q:V->Sto->Prop} (hc:Dv σ c (.lst (ns.map .int))) (hn:0 < ns.length) (h:∀ M,M∈ns->(∀ a∈ns,M<=a)->Q (.int M) σ):Bt P n (.builtin "min") [c] σ Q:=
 fun A st B g env m s vals hr hv hm=>by
  replace hv:=hv.inv; obtain ⟨_,_,rfl,hv,t⟩:=hv
  ·
   cases t
   obtain ⟨l,items,rfl,hl,hi'⟩:=hc.items hr.toRepC hv
   have hi:=hi'.ints
   obtain ⟨xs,e⟩:=hi.allInts.items
   have hns:ns=xs.toList.map (·.1):=by
     rw [<- hi.numsOf,<- nums_intItems,<- e]
   have hsz:0 < xs.size:=by
     have h3:=hn; rw [hns,Be9,Bg4] at h3; exact h3
   have e0:items=intItems xs:=by rw [<- e]
   rw [e0] at hl
   refine min_intList hm.2.2 hl hsz fun v h' tk hv hk=>?_
   obtain ⟨t,rfl⟩:=intItems_at hv
   obtain ⟨h1,h2⟩:=argBest_lt (numAt xs) (xs.size - 1)
   refine ⟨g,σ,m,_,A2 g,hr.stays hk tk,.int _ _,rfl,h _ ?_ fun a ha=>?_⟩
   · rw [hns,numAt_eq]; exact getD_mem (by rw [Be9,Bg4]; exact Bg6 h1 (Nat.sub_lt hsz (by decide)))
   · rw [hns] at ha
     obtain ⟨j,hj,rfl⟩:=mem_getD ha
     rw [Be9,Bg4] at hj
     rw [<- numAt_eq]; exact h2 j (Nat.le_sub_one_of_lt hj)
theorem Aa7 {c ds Q} (hc:Dv σ c (.lst ds)) (hl:ds.length<=100000) (h:Q (.tup ds) σ):Bt P n (.type "tuple") [c] σ Q:=
 fun A st B g env m s vals hr hv hm=>by
  replace hv:=hv.inv; obtain ⟨_,_,rfl,hv,t⟩:=hv
  ·
   cases t
   obtain ⟨l,items,rfl,hli,hi⟩:=hc.items hr.toRepC hv
   have e:items.size=ds.length:=(Bg4 (xs:=items)).symm.trans hi.length
   refine call_tuple_list hli (fun h' hk=>?_) (by rw [e]; exact sz hl)
   have R':=hr.stays hk s.toks
   obtain ⟨g2,hg2,ho2,R2⟩:=R'.Aap { cls:=.type "tuple",data:=.seq items } rfl (fun f=>by have q:Value.type "tuple"=Value.type "frame":=f.1; exact absurd q (by decide)) s.toks
   exact ⟨g2,σ,m,_,hg2,R2,.tup ho2 rfl rfl (hi.mono hg2),rfl,h⟩
noncomputable def BtI (P:Pm) (n:Nat) (en:Bool) (f:Value) (vs:List V) (σ:Sto) (Q:List V->Sto->Prop):Prop:=
 ∀ A st B g env m s vals,Rep P B g A st env σ m s->VRs g vals vs->Bg A n ->
  wpAny (model P.prog P.w) A (call f vals []) (fun x s₁=>wpAny (model P.prog P.w) A (pyIter x)
   (ItP P B A st env m g en none Q) (fun _ _=>False) s₁) (fun _ _=>False) s
theorem Ayv {en x np pos e es T Q} (hk:fx.sc.names.lookup x=some .globalImplicit) (hv:nsIn P.K Bl3 x=some none) (hb:Bs7 x=some (.type T))
  (h:Evs P n fx pos (e :: es) σ m (fun vs σ'=>BtI P n en (.type T) vs σ' Q) X) (hx:x≠"__name__") (hd:(x == ("__debug__" : Str))=false)
  (ha:∀ env,Bk5 (e :: es) env=(false,eval e env) :: Bk5 es env) (Aha:∀ env,(By5 pos (Bk5 es env)).any (·.1)=false):Itr P n fx en (.Call (.Name x np) (e :: es) [] pos) σ m Q X:=
 fun A st B g env s he hr hm=>Bw8 (ldB he hr hk hv hb hx hd (by
  rw [show backToKw pos (Ck2 [] env)=[] from rfl]
  have hp:(By5 pos (Bk5 (e :: es) env)).any (·.1)=false:=by rw [ha]; show (false || (By5 pos (Bk5 es env)).any (·.1))=false; rw [Aha]; rfl
  refine PyProof.Rows.callWith_type hp ?_
  have:=h A st B g env s he hr hm
  simp only [ha] at this ⊢
  refine Ca0 (Bf2 this (fun vs s' qM=>?_) fun _ _ q=>q)
  obtain ⟨g',σ',m',ds,hg,hr',hv,hm',hlen,hq⟩:=qM
  subst hm'
  exact Bf2 (hq A st B g' env _ s' vs hr' hv hm) (fun x s1 h1=>Bf2 h1 (fun v s2 qE=>by obtain ⟨g2,σ2,ds,it,a1,a2,a3,a4,a5⟩:=qE; exact ⟨g2,σ2,ds,it,A3 hg a1,a2,a3,a4,a5⟩) fun _ _ q=>q.elim) fun _ _ q=>q.elim))
theorem Agc {A:Around} {st:List Env} {B:Bs} {g:Heap} {env:Env} {s:Shared} {Q:List V->Sto->Prop} {a:Int} {k:Nat} {o o2:Obj} {tk:Nat} (hr:Rep P B g A st env σ m s) (hi:IsRangeIter ((s.heap.push o).push o2) (s.heap.push o).objs.size a k 1) (h:Q (Ai7 a k) σ) :
  ItP P B A st env m g false none Q (.ref (s.heap.push o).objs.size) { s with heap:=(s.heap.push o).push o2,toks:=tk }:=
 have n:s.heap.get? (s.heap.push o).objs.size=none:=Bn7 (by rw [Bt9]; exact Bm8 _)
 ⟨g,σ,_,_,A2 g,hr.stays (A3 (Aa3 _ _) (Aa3 _ _)) _,rfl,.rng hi (Aa2 hr.fz n) (Aa0 hr.keeps n),h⟩
theorem Aac {i:Int} {k:Nat} {Q:List V->Sto->Prop} (hi:i=k) (h:Q (Ai7 0 k) σ) (hk:k<=1000000):BtI P n false (.type "range") [.int i] σ Q:=
 fun A st B g env m s vals hr hv hm=>by
  subst hi
  replace hv:=hv.inv; obtain ⟨_,_,rfl,hv,t⟩:=hv
  ·
   cases t; obtain ⟨_,rfl⟩:=hv.inv
   refine call_range_1 ?_
   refine Cl8 (Cq1 ..) (small_one (by decide) (by decide) (tn (by decide)) (tk hk (by decide))) ?_
   have e:Cb1 0 (k:Int) 1=(k:Int):=by
    rw [rangeSize_one]; split
    · exact Int.sub_zero _
    · exact Cn5 (Bj9 _) (Bs4.mp ‹_›)
   exact Agc hr (by rw [e]; exact Bi1 _ rfl) h
theorem Apy {a j:Int} {k:Nat} {Q:List V->Sto->Prop} (hj:j=a + k) (h:Q (Ai7 a k) σ) (h1:-1000000<=a) (h2:a + k<=1000000):BtI P n false (.type "range") [.int a,.int j] σ Q:=
 fun A st B g env m s vals hr hv hm=>by
  subst hj
  replace hv:=hv.inv; obtain ⟨_,_,rfl,hv,t⟩:=hv
  ·
   replace t:=t.inv; obtain ⟨_,_,rfl,hv2,t⟩:=t
   cases t; obtain ⟨_,rfl⟩:=hv.inv; obtain ⟨_,rfl⟩:=hv2.inv
   refine call_range_2 ?_
   refine Cl8 (Cq1 ..) (small_one (Bo7 (by decide) h1) (Cc5 (Bo7 (Bw5 (Bj9 _)) h2) (by decide)) (Bo7 (Bo7 (by decide) h1) (Bw5 (Bj9 _))) (Cc5 h2 (by decide))) ?_
   have e:Cb1 a (a + k:Int) 1=(k:Int):=by
    rw [rangeSize_one]; split
    · rw [Int.add_comm,Cj9]
    · exact Cn5 (Bj9 _) (Int.le_of_add_le_add_left (show a + (k:Int)<=a + 0 by rw [Int.add_zero]; exact Bs4.mp ‹_›))
   exact Agc hr (by rw [e]; exact Bi1 _ rfl) h
theorem Ado {ds Q} (h:Q (Aho 0 ds) σ):BtI P n true (.type "enumerate") [.lst ds] σ Q:=
 fun A st B g env m s vals hr hv hm=>by
  replace hv:=hv.inv; obtain ⟨_,_,rfl,hv,t⟩:=hv
  ·
   cases t
   obtain ⟨l,items,rfl,hli,hi⟩:=hv.Atl
   refine call_enumerate_list (IsList.stays hli hr.fz) fun h' a1 a2 a3 a4=>?_
   refine Cf5 (s:={ s with heap:=h' }) a1 ⟨g,σ,_,_,A2 g,hr.stays a4 s.toks,rfl,?_,h⟩
   have z:∀ k,s.heap.objs.size<=k->s.heap.get? k=none:=fun k hk=>Bn7 hk
   exact .enum (i:=0) (all:=ds) a1 a2 hli hi (Nat.succ_ne_self _) (Aa2 hr.fz (z _ (Bh5 _))) (Aa0 hr.keeps (z _ (Bh5 _))) (Aa2 hr.fz (z _ (Bm8 _))) (Aa0 hr.keeps (z _ (Bm8 _)))
theorem At3 {ds Q} (h:Q (Aho 0 ds) σ):BtI P n true (.type "enumerate") [.tup ds] σ Q:=
 fun A st B g env m s vals hr hv hm=>by
  replace hv:=hv.inv; obtain ⟨_,_,rfl,hv,t⟩:=hv
  ·
   cases t
   obtain ⟨l,items,rfl,hli,hi⟩:=hv.isTup
   refine Aoc (IsTuple.stays hli hr.fz) fun h' a1 a2 a3 a4=>?_
   refine Cf5 (s:={ s with heap:=h' }) a1 ⟨g,σ,_,_,A2 g,hr.stays a4 s.toks,rfl,?_,h⟩
   have z:∀ k,s.heap.objs.size<=k->s.heap.get? k=none:=fun k hk=>Bn7 hk
   exact .As5 (i:=0) (all:=ds) a1 a2 hli hi (Nat.succ_ne_self _) (Aa2 hr.fz (z _ (Bh5 _))) (Aa0 hr.keeps (z _ (Bh5 _))) (Aa2 hr.fz (z _ (Bm8 _))) (Aa0 hr.keeps (z _ (Bm8 _)))
end
inductive Ty (σ:Sto):V->String->Prop
 | list {a:Addr} {ds:List V}:σ a=some (.list ds)->Ty σ (.loc a) "list"
 | A5 {a:Addr} {es:List (Str × V)}:σ a=some (.A5 es)->Ty σ (.loc a) "dict"
 | Aci {a:Addr} {es:List (Int × V)}:σ a=some (.Aci es)->Ty σ (.loc a) "dict"
 | Ad {a:Addr} {es:List (V × V)}:σ a=some (.Ad es)->Ty σ (.loc a) "dict"
 | str (x:Str):Ty σ (.str x) "str"
theorem Ty.is {P B g A st σ s c T v} (R:RepC P B g A st σ s) (t:Ty σ c T) (hv:VR g v c):s.TypeIs v T/\∀ a,v=.ref a->∃ ob,s.heap.get? a=some ob/\ob.dict=none:=by
 induction t using Ty.casesOn with
 | list e=>
  obtain ⟨_,rfl⟩:=hv.inv
  obtain ⟨_,_,o,h1,h2,items,k,h3,h4,h5,h6⟩:=R.sto _ _ e
  exact ⟨⟨o,h1,h2⟩,fun a q=>by cases q; exact ⟨o,h1,h5⟩⟩
 | A5 e=>
  obtain ⟨_,rfl⟩:=hv.inv
  obtain ⟨_,_,o,h1,_,_,_,h2,_⟩:=R.sto _ _ e
  exact ⟨⟨o,h1,h2.1⟩,fun a q=>by cases q; exact ⟨o,h1,h2.2.1⟩⟩
 | Aci e=>
  obtain ⟨_,rfl⟩:=hv.inv
  obtain ⟨_,_,o,h1,_,_,_,h2,_⟩:=R.sto _ _ e
  exact ⟨⟨o,h1,h2.1⟩,fun a q=>by cases q; exact ⟨o,h1,h2.2.1⟩⟩
 | Ad e=>
  obtain ⟨_,rfl⟩:=hv.inv
  obtain ⟨_,_,o,h1,_,_,_,h2,_⟩:=R.sto _ _ e
  exact ⟨⟨o,h1,h2.1⟩,fun a q=>by cases q; exact ⟨o,h1,h2.2.1⟩⟩
 | str x=>obtain ⟨_,rfl⟩:=hv.inv; exact ⟨rfl,fun a q=>by cases q⟩
section
variable {P:Pm} {n:Nat} {fx:Fx} {σ:Sto} {m:A8} {X:Xt}
theorem Adx {M A E s f args Q} (hne:args=[]∨∃ x r,args=(false,x) :: r)
   (h:wpAny M A (spliced args) (fun vs s'=>Q ⟨vs,[]⟩ s') E s):wpAny M A (evalArgs f true args []) Q E s:=by
 rcases hne with rfl | ⟨x,r,rfl⟩
 · unfold evalArgs
   show wpAny M A (spliced [] >>= _) Q E s
   refine Be8 (Bf2 h (fun vs s' h'=>?_) fun _ _ x=>x)
   refine Be8 (Bf5 ?_)
   refine Bl0 ?_
   exact Be8 (Bf5 (Be8 (Bf5 (Bf5 h'))))
 · exact Ca0 h
theorem ARs.Aju {g es} (h:ARs g es []):es=[]:=by cases h; rfl
theorem ARs.inv {g es x d ds} (h:ARs g es ((x,d) :: ds)):∃ e r t,es=e :: r/\e.key=.str x t/\VR g e.val d/\ARs g r ds:=by
 cases h with | cons h1 h2 h3=>exact ⟨_,_,_,rfl,h1,h2,h3⟩
theorem ARs.look {g es as} (h:ARs g es as) (x:Str):match as.lookup x with
  | none=>es.find? (·.key.isStr x)=none
  | some d=>∃ e,es.find? (·.key.isStr x)=some e/\VR g e.val d:=by
 induction as generalizing es with
 | nil=>rw [h.Aju]; exact rfl
 | cons p ds ih=>
  obtain ⟨y,d⟩:=p
  obtain ⟨e,r,t,rfl,h1,h2,h3⟩:=h.inv
  have ih:=ih h3
  have hk:e.key.isStr x=(x == y):=by rw [h1]; exact Bv6.mpr ⟨fun q=>beq_iff_eq.mpr (beq_iff_eq.mp q).symm,fun q=>beq_iff_eq.mpr (beq_iff_eq.mp q).symm⟩
  rw [Bn3,Bk2,hk]
  cases (x == y) with
  | true=>exact ⟨e,rfl,h2⟩
  | false=>exact ih
theorem ARs.noRef {g es as} (h:ARs g es as):es.any (·.refKey)=false:=by
 induction as generalizing es with
 | nil=>rw [h.Aju]; rfl
 | cons p ds ih=>
  obtain ⟨y,d⟩:=p
  obtain ⟨e,r,t,rfl,h1,h2,h3⟩:=h.inv
  rw [Ce0,ih h3,Ce1]; unfold Cc6; rw [h1]
theorem ARs.lookIn {g o es n as} (hd:o.data=.dict es n) (h:ARs g es.toList as) (x:Str):match as.lookup x with
  | none=>Cm4 x o=some none
  | some d=>∃ v,Cm4 x o=some (some v)/\VR g v d:=by
 have hl:=h.look x
 have hn:=h.noRef
 unfold Cm4
 rw [hd]
 dsimp only
 cases q:as.lookup x with
 | none=>rw [q] at hl; rw [hl,hn]; rfl
 | some d=>rw [q] at hl; obtain ⟨e,h1,h2⟩:=hl; rw [h1]; exact ⟨_,rfl,h2⟩
inductive Io (σ:Sto):V->Addr->List (Str × V)->Prop
 | obj {C:Addr} {as:List (Str × V)}:Io σ (.obj C as) C as
 | inst {C dx:Addr} {as:List (Str × V)}:σ dx=some (.attrs as)->Io σ (.inst C dx) C as
theorem Io.at {B g A st s c C as v} (R:RepC P B g A st σ s) (x:Io σ c C as) (h:VR g v c) :
  ∃ a dx od es n,v=.ref a/\g.get? a=some (instObj C dx)/\s.heap.get? dx=some od/\od.data=.dict es n/\ARs g es.toList as/\InstAt s.heap a (instObj C dx) C (some od):=by
 cases x with
 | obj=>
  cases h with
  | obj h1 h2 h3 h4 h5=>exact ⟨_,_,_,_,_,rfl,h1,R.fz _ _ h2,h4,h5,R.fz _ _ h1,rfl,rfl,R.fz _ _ h2⟩
 | inst e=>
  cases h with
  | inst h1=>
   obtain ⟨_,_,o,h2,h3,h4,h5,es,n,h6,h7⟩:=R.sto _ _ e
   exact ⟨_,_,_,_,_,rfl,h1,h2,h6,h7,R.fz _ _ h1,rfl,rfl,h2⟩
end
section
variable {P:Pm} {n:Nat} {σ:Sto}
inductive LAt (g h:Heap) (a:Addr) (ds:List V):Prop
 | mk (items:Array Value) (k:Nat) (h1:IsL h a items k) (h2:VRs g items.toList ds) (h3:items.size=ds.length)
theorem Ad5 {B g A st s a ds} (R:RepC P B g A st σ s) (h:σ a=some (.list ds)):LAt g s.heap a ds:=by
 obtain ⟨_,_,o,h1,h2,items,k,h3,h4,h5,h6⟩:=R.sto _ _ h
 refine ⟨items,k,?_,h4,by rw [<- h4.length,Bg4]⟩
 obtain ⟨c,d,dt,sl⟩:=o
 subst h2; subst h3; subst h5; subst h6
 exact h1
theorem IsL.or {g items k ds} (hv:VRs g items.toList ds):OR P g { cls:=.type "list",dict:=none,data:=.seq items k,slots:=#[] } (.list ds):=⟨rfl,items,k,rfl,hv,rfl,rfl⟩
theorem Aby {h:Heap} {a:Addr} (f:Obj->Obj):∀ b o,b≠a->h.get? b=some o->(h.update a f).get? b=some o:=fun b o e q=>(Bj4 h f (Bq1 e)).trans q
theorem Ae {a:Addr} {ds:List V} {d:V} {Q:V->Sto->Prop} (h:σ a=some (.list ds)) (hq:Q .none (σ.put a (.list (ds ++ [d])))) (hl:ds.length<=100000):Bt P n (.builtin "list.append") [.loc a,d] σ Q:=
 fun A st B g env m s vals hr hv hm=>by
  replace hv:=hv.inv; obtain ⟨_,_,rfl,hv,t⟩:=hv
  ·
   cases t with
   | @cons v _ _ _ hd t=>
    cases t; obtain ⟨_,rfl⟩:=hv.inv
    obtain ⟨items,k,hi,hvs,hsz⟩:=Ad5 hr.toRepC h
    refine Bw9 F.slot_list_append ⟨_,hi,rfl⟩ F.entry_list_append (F.args_list_append_2 _ _) (list_append a items k v (by rw [hsz]; exact sz hl)) ⟨hi,?_⟩
    exact ⟨g,_,m,_,A2 g,hr.upd h (Aby _) (hi.update _) (IsL.or (by rw [Array.toList_push]; exact hvs.append (.one hd))) s.toks,.none,rfl,hq⟩
theorem As2 {a:Addr} {ds:List V} {d:V} {Q:V->Sto->Prop} (h:σ a=some (.list (ds ++ [d]))) (hq:Q d (σ.put a (.list ds))) (hl:ds.length<=100000):Bt P n (.builtin "list.pop") [.loc a] σ Q:=
 fun A st B g env m s vals hr hv hm=>by
  replace hv:=hv.inv; obtain ⟨_,_,rfl,hv,t⟩:=hv
  ·
   cases t; obtain ⟨_,rfl⟩:=hv.inv
   obtain ⟨items,k,hi,hvs,hsz⟩:=Ad5 hr.toRepC h
   simp only [Bf1,Bh3,Bl1] at hsz
   obtain ⟨v,e1,e2⟩:=hvs.get (k:=ds.length) (d:=d) (by simp)
   have e3:items.size - 1=ds.length:=by rw [hsz]; rfl
   refine Bw9 Cp1 ⟨_,hi,rfl⟩ F.entry_list_pop (F.args_list_pop_1 _) (MeetsSeq.list_pop_last a items k v (by rw [e3,<- Bi9]; exact e1) (by rw [hsz]; exact sz1 hl)) ⟨hi,?_⟩
   refine ⟨g,_,m,_,A2 g,hr.upd h (Aby _) (hi.update _) (IsL.or ?_) s.toks,e2,rfl,hq⟩
   have:=hvs.eraseIdx ds.length
   rw [List.eraseIdx_append_of_length_le (Bh5 _),Nat.sub_self] at this
   simp only [List.eraseIdx_cons_zero,Bh4] at this
   rw [e3,Array.eraseIdxIfInBounds,dif_pos (by rw [hsz]; exact Br0 _)]
   rw [Array.toList_eraseIdx]; exact this
set_option tactic.hygienic true in
theorem Amf {a:Addr} {ds:List V} {i:Int} {k:Nat} {d:V} {Q:V->Sto->Prop} (h:σ a=some (.list ds)) (hi:i=k) (hd:ds[k]?=some d) (hq:Q d (σ.put a (.list (ds.eraseIdx k)))) (hl:ds.length<=100000):Bt P n (.builtin "list.pop") [.loc a,.int i] σ Q:=
 fun A st B g env m s vals hr hv hm=>by
  replace hv:=hv.inv; obtain ⟨_,_,rfl,hv,t⟩:=hv
  ·
   replace t:=t.inv; obtain ⟨_,_,rfl,hv2,t⟩:=t
   cases t; obtain ⟨_,rfl⟩:=hv.inv; obtain ⟨_,rfl⟩:=hv2.inv; rename_i tk0
   obtain ⟨items,kk,hii,hvs,hsz⟩:=Ad5 hr.toRepC h
   obtain ⟨v,e1,e2⟩:=hvs.get hd
   have hlt:k < ds.length:=(Bf7.mp hd).1
   have Bcz:Bu0 i=true:=by
    unfold Bu0
    rw [Bg0]
    constructor
    · exact decide_eq_true (by rw [hi]; exact tn (by decide))
    · exact decide_eq_true (by rw [hi]; exact tk (Be7 (Bk4 hlt) hl) (by decide))
   have hk:Cp8 i items.size=some k:=by rw [hi]; exact Ayr (hsz ▸ hlt)
   have e1':items[k]?=some v:=by rw [<- Bi9]; exact e1
   have e4:items.size<=sizeLine:=by rw [hsz]; exact sz hl
   have hM:=MeetsSeq.list_pop_at a items kk i tk0 k v Bcz hk e1' e4
   refine Bw9 (rest:=[Value.int i tk0]) Cp1 ⟨_,hii,rfl⟩ F.entry_list_pop (F.args_list_pop_2 (Value.ref a) (Value.int i tk0)) hM ⟨hii,?_⟩
   refine ⟨g,_,m,_,A2 g,hr.upd h (Aby _) (hii.update _) (IsL.or ?_) s.toks,e2,rfl,hq⟩
   rw [Array.eraseIdxIfInBounds,dif_pos (by rw [hsz]; exact hlt),Array.toList_eraseIdx]; exact hvs.eraseIdx k
theorem Aoa {a:Addr} {ds:List V} {Q:V->Sto->Prop} (h:σ a=some (.list ds)) (hq:Q .none (σ.put a (.list ds.reverse))) (hl:ds.length<=100000):Bt P n (.builtin "list.reverse") [.loc a] σ Q:=
 fun A st B g env m s vals hr hv hm=>by
  replace hv:=hv.inv; obtain ⟨_,_,rfl,hv,t⟩:=hv
  ·
   cases t; obtain ⟨_,rfl⟩:=hv.inv
   obtain ⟨items,kk,hi,hvs,hsz⟩:=Ad5 hr.toRepC h
   refine Bw9 F.slot_list_reverse ⟨_,hi,rfl⟩ F.entry_list_reverse (F.args_list_reverse_1 _) (AutoSeq1.list_reverse_list_0 a items kk (by rw [hsz]; exact sz hl)) ⟨hi,?_⟩
   exact ⟨g,_,m,_,A2 g,hr.upd h (Aby _) (hi.update _) (IsL.or (by rw [Array.toList_reverse]; exact hvs.reverse)) s.toks,.none,rfl,hq⟩
theorem Aq0 {a b:Addr} {ds es:List V} {Q:V->Sto->Prop} (h:σ a=some (.list ds)) (h2:σ b=some (.list es)) (hq:Q .none (σ.put a (.list (ds ++ es)))) (hl:ds.length + es.length<=100000):Bt P n (.builtin "list.extend") [.loc a,.loc b] σ Q:=
 fun A st B g env m s vals hr hv hm=>by
  replace hv:=hv.inv; obtain ⟨_,_,rfl,hv,t⟩:=hv
  ·
   replace t:=t.inv; obtain ⟨_,_,rfl,hv2,t⟩:=t
   cases t; obtain ⟨_,rfl⟩:=hv.inv; obtain ⟨_,rfl⟩:=hv2.inv
   obtain ⟨items,k,hi,hvs,hsz⟩:=Ad5 hr.toRepC h
   obtain ⟨items2,k2,hi2,Bdv,Bco⟩:=Ad5 hr.toRepC h2
   refine Bw9 F.slot_list_extend ⟨_,hi,rfl⟩ F.entry_list_extend (F.args_list_extend_2 _ _) (AutoSeq1.list_extend_list_list_0 a items k b items2 k2 ?_ (by rw [hsz]; exact sz (Be7 (Bg9 ..) hl)) (by rw [hsz,Bco]; exact Bk0 (sz hl))) ⟨hi,hi2,?_⟩
   · unfold Bi8.List.listTooLong; rw [Bg0,decide_eq_true_eq]; exact fun h=>absurd h.2 (Cp3.mpr (by rw [hsz,Bco]; exact sz hl))
   exact ⟨g,_,m,_,A2 g,hr.upd h (Aby _) (hi.update _) (IsL.or (by rw [Ci0]; exact hvs.append Bdv)) _,.none,rfl,hq⟩
end
noncomputable def fdOf (d:Data):Option FuncData:=match d with | .func f=>some f | _=>none
theorem Avq {d:Data} {f:FuncData} (h:fdOf d=some f):d=.func f:=by
 cases d with
 | func g=>cases h; rfl
 | _=>cases h
noncomputable def Bc2 (K:Frag) (a:Addr):Option FuncData:=(K.lookup a).bind fun o=>fdOf o.data
noncomputable def Ab9 (names:List (Str × NameKind)):List Str:=(names.filter fun x=>x.2 == .cell).map (·.1)
noncomputable def Azx (sc:Scope) (ps:List Str):Bool:=
 sc.kind == .function && !sc.isCoroutine && !sc.isGenerator && decide (Ab9 sc.names).Nodup && sc.names.all (fun x=>x.2 != .free) &&
  ps.all fun x=>sc.names.lookup x == some .local || sc.names.lookup x == some .cell
theorem Ab5:∀ (names:List (Str × NameKind)) (n:Nat) (acc:List (Str × Addr)),(Cd0 n names acc).map (·.1)=(Ab9 names).reverse ++ acc.map (·.1)
 | [],n,acc=>by simp [Cd0,Ab9]
 | (x,k) :: r,n,acc=>by
  unfold Cd0
  by_cases h:(k == NameKind.cell)=true
  · rw [if_pos h,Ab5 r]
    have:Ab9 ((x,k) :: r)=x :: Ab9 r:=by simp [Ab9,h]
    rw [this]; simp
  · rw [if_neg h,Ab5 r]
    have:Ab9 ((x,k) :: r)=Ab9 r:=by simp [Ab9,h]
    rw [this]
theorem lookup_mem {β:Type}:∀ {l:List (Str × β)} {x:Str} {k:β},l.lookup x=some k->(x,k)∈l
 | [],_,_,h=>by simp at h
 | (y,j) :: r,x,k,h=>by
  rw [Bn3] at h
  cases q:(x == y) with
  | true=>rw [q] at h; cases h; rw [beq_iff_eq.mp q]; exact .head _
  | false=>rw [q] at h; exact .tail _ (lookup_mem h)
theorem Ac5 {β:Type}:∀ {l:List (Str × β)} {x:Str},x∈l.map (·.1)->(l.lookup x).isSome=true
 | [],_,h=>by simp at h
 | (y,j) :: r,x,h=>by
  rw [Bn3]
  cases q:(x == y) with
  | true=>rfl
  | false=>
   refine Ac5 ?_
   rcases Bh7.mp h with e | e
   · exact absurd e (by simpa using q)
   · exact e
theorem Bap {P n a} {f:FuncData} {body vs σ Q X} (hf:Bc2 P.K a=some f) (hb:f.body=.stmts body) (hg:f.globals=Bl3) (hcl:f.closure=[]) (hbu:f.builtins=Cf8)
   (Ax4:codeIn P.K f.code f.qualname=true) (Bb4:∀ vals:List Value,vals.length=f.params.args.length->bindArgs f ⟨vals,[]⟩=pure ((f.params.args.map (·.arg)).zip vals))
   (sc:Azx f.scope (f.params.args.map (·.arg))=true) (hl:f.params.args.length=vs.length)
   (h:Exs P n ⟨f.scope,false⟩ body σ (putAll ((f.params.args.map (·.arg)).zip vs) fun _=>none) (fun fl σ' _=>Q (match fl with | .ret v=>v | _=>.none) σ') (fun why σ' _=>X why σ')):Fn P (n + 1) (.ref a) vs σ Q X:=by
 obtain ⟨o,ho,hd⟩:=Bx4.mp hf
 unfold Azx at sc
 have s5:=Bj7.mp (At1 (Aog sc))
 have s6:=Bj7.mp (At1 sc)
 have sc:=Aog (Aog sc)
 refine Axx ho (Avq hd) hb hg hcl hbu Ax4 Bb4 (eq_of_beq (Aog (Aog (Aog sc)))) ((Bm7 _).mp (At1 (Aog (Aog sc)))) ((Bm7 _).mp (At1 (Aog sc))) (fun n=>?_) (fun n x h=>Ac5 ?_) (fun x h=>?_) (fun x hx=>?_) hl h
 · rw [Ab5,Bq4,Bh4]
   exact List.pairwise_reverse.mpr ((of_decide_eq_true (At1 sc)).imp fun q=>Bq1 q)
 · rw [Ab5,Bq4,Bh4]
   exact Ce6.mpr (Bi7 (f:=fun x:Str × NameKind=>x.1) (a:=(x,.cell)) (Cg1.mpr ⟨lookup_mem h,rfl⟩))
 · exact absurd (s5 _ (lookup_mem h)) Bg5
 · cases Bool.or_eq_true_iff.mp (s6 x hx) with
   | inl q=>exact .inl (eq_of_beq q)
   | inr q=>exact .inr (eq_of_beq q)
noncomputable def Sub (σ'' σ':Sto):Prop:=∀ a x,σ'' a=some x->σ' a=some x
theorem Sub.refl (σ:Sto):Sub σ σ:=fun _ _ e=>e
theorem Sub.new {σ σ' a o} (h:Sub σ σ') (ha:σ' a=none):Sub σ (σ'.put a o):=fun b x e=>by
 have hb:b≠a:=by rintro rfl; have:=h b x e; rw [ha] at this; cases this
 rw [Sto.A4 _ _ hb]; exact h b x e
theorem Sub.put {σ σ'} (h:Sub σ σ') (a:Addr) (o:O):Sub (σ.put a o) (σ'.put a o):=fun b x e=>by
 by_cases hb:b=a
 · subst hb; rw [Sto.A0] at e ⊢; exact e
 · rw [Sto.A4 _ _ hb] at e ⊢; exact h b x e
theorem Sub.over {σ σ' a o} (h:Sub σ σ') (ha:σ a=none):Sub σ (σ'.put a o):=fun b x e=>by
 have hb:b≠a:=by rintro rfl; rw [ha] at e; cases e
 rw [Sto.A4 _ _ hb]; exact h b x e
theorem Sub.del {σ σ' a} (h:Sub σ σ') (ha:σ a=none):Sub σ (σ'.del a):=fun b x e=>by
 have hb:b≠a:=by rintro rfl; rw [ha] at e; cases e
 unfold Sto.del; rw [if_neg hb]; exact h b x e
section
variable {P:Pm} {n:Nat} {fx:Fx} {σ:Sto} {m:A8} {X:Xt}
theorem Avk {t σ0 Q} (hs:Sub σ0 σ) (h:Exs P n fx t σ0 m Q X):Exs P n fx t σ m Q X:=
 fun A st B g env s he hr hm=>h A st B g env s he (hr.forget hs) hm
theorem Atj {t m0 Q} (hs:∀ x v,m0 x=some v->m x=some v) (h:Exs P n fx t σ m0 Q X):Exs P n fx t σ m Q X:=
 fun A st B g env s he hr hm=>h A st B g env s he (hr.drop hs) hm
theorem Ag {e Q Q'} (h:Ev P n fx e σ m Q X) (hq:∀ v σ,Q v σ->Q' v σ):Ev P n fx e σ m Q' X:=
 JS.mono h (fun _ _ _ q=>⟨q.1,hq _ _ q.2⟩) fun _ _ _ q=>q
theorem Rep.Arx {B g A st env s} (R:Rep P B g A st env σ m s) {x a ds} (hm:m x=some (.loc a)) (hx:σ a=some (.list ds)) :
   ∃ g',g.StaysIn g'/\Rep P B g' A st env (σ.del a) (m.put x (.lst ds)) s:=by
 obtain ⟨g',h1,h2,R'⟩:=R.Afg hx
 refine ⟨g',h1,R'.toRepC,⟨?_,fun y hy=>?_,R'.fr.apart⟩,R'.own⟩
 · obtain ⟨ml,q1,q2⟩:=R.fr.ns
   refine ⟨ml,q1,fun y v e l=>?_⟩
   by_cases hy:y=x
   · subst hy
     obtain ⟨c,w1,w2⟩:=q2 y _ hm l
     simp only [A8.put,if_true] at e; cases e
     obtain ⟨_,rfl⟩:=w2.inv
     exact ⟨_,w1,h2⟩
   · simp only [A8.put,hy,if_false] at e
     obtain ⟨c,w1,w2⟩:=q2 y v e l
     exact ⟨c,w1,w2.mono h1⟩
 · obtain ⟨c,cv,q1,q2,q3⟩:=R.fr.cel y hy
   refine ⟨c,cv,q1,q2,fun v e=>?_⟩
   by_cases hy':y=x
   · subst hy'
     obtain ⟨u,w1,w2⟩:=q3 _ hm
     simp only [A8.put,if_true] at e; cases e
     obtain ⟨_,rfl⟩:=w2.inv
     exact ⟨_,w1,h2⟩
   · simp only [A8.put,hy',if_false] at e
     obtain ⟨u,w1,w2⟩:=q3 v e
     exact ⟨u,w1,w2.mono h1⟩
theorem Avb {t} (x:Str) {a ds Q} (hm':m x=some (.loc a)) (hx:σ a=some (.list ds)) (h:Exs P n fx t (σ.del a) (m.put x (.lst ds)) Q X):Exs P n fx t σ m Q X:=
 fun A st B g env s he hr hm=>by
  obtain ⟨g',h1,R⟩:=hr.Arx hm' hx
  exact Bf2 (h A st B g' env s he R hm) (fun _ _ q=>q.mono h1 fun _ _ _ x=>x) fun _ _ q=>q.mono h1 fun _ _ _ x=>x
end
open Builtin hiding id
theorem Afw:fillsNumberSlot (.type "tuple") "mul"=pure false:=
 PySem.fillsNumberSlot_seq (id:="tuple.__mul__") (r:=some (.builtin "tuple.__rmul__")) Cg5.lookup (by decide +kernel) F.slot_tuple_rmul.lookup (by decide +kernel)
theorem Akj:seqRepeat? (.type "tuple")=pure (some (.builtin "tuple.__mul__")):=by
 unfold seqRepeat?
 rw [PySem.seqSlot_of (T:="tuple") (name:="__mul__") (id:="tuple.__mul__") Cg5.lookup (by decide +kernel),PySem.seqSlot_of (T:="tuple") (name:="__rmul__") (id:="tuple.__rmul__") F.slot_tuple_rmul.lookup (by decide +kernel)]
 rfl
theorem Ahj (a:Int) (t:Tok) (l:Addr) (items:Array Value) (n:Nat) (d:Option Addr) (sl:Array (Option Value)) :
  Meets (Bi8.«int.__rmul__» ⟨[.int a t,.ref l],[]⟩) (fun _ R s=>s.heap.get? l=some { cls:=.type "tuple",dict:=d,data:=.seq items n,slots:=sl }/\R (.ok (.ret Value.notImplemented)) s):=
 .of_wp fun prog w A R s h=>by obtain ⟨hp,g,d,tk,os⟩:=s; obtain ⟨hl,h⟩:=h; wp_walk; exact ⟨_,rfl,h⟩
theorem Ao4 (l:Addr) (items:Array Value) (n:Nat) (d:Option Addr) (sl:Array (Option Value)) (u:Tok) :
  Meets (Bi8.«tuple.__mul__» ⟨[.ref l,.int 1 u],[]⟩) (fun _ R s=>s.heap.get? l=some { cls:=.type "tuple",dict:=d,data:=.seq items n,slots:=sl }/\R (.ok (.ret (.ref l))) s):=
 .of_wp fun prog w A R s h=>by
  obtain ⟨hp,g,d,tk,os⟩:=s; obtain ⟨hl,h⟩:=h
  have f1:=AutoSeq1.idx_int; have f2:=AutoSeq1.sub_tuple_tuple
  wp_walk
  exact ⟨_,rfl,h⟩
theorem Aoo (l:Addr) (items:Array Value) (n:Nat) (d:Option Addr) (sl:Array (Option Value)) (x:Int) (u:Tok) (hx:¬ (decide (x < -(2 ^ 63)) || decide (x ≥ 2 ^ 63))=true) (h1:¬ (items.isEmpty || x == 1)=true) (h2:¬ (decide (x<=0) || items.isEmpty)=true)
  (h3:¬ ((items.size:Int) * x > (2 ^ 63 - 1) / 8)) (h4:¬ Bi8.Tuple.tupleTooMany ((items.size:Int) * x)=true) (h5:(Cb0 (fun x1 x2=>x1 ++ x2) #[] (Bg7 x.toNat items)).size<=sizeLine) :
  Meets (Bi8.«tuple.__mul__» ⟨[.ref l,.int x u],[]⟩) (fun _ R s=>s.heap.get? l=some { cls:=.type "tuple",dict:=d,data:=.seq items n,slots:=sl }/\R (.ok (.ret (Value.ref s.heap.objs.size))) { s with heap:=s.heap.push { cls:=Value.type "tuple",data:=Data.seq (Cb0 (fun x1 x2=>x1 ++ x2) #[] (Bg7 x.toNat items)) },toks:=s.toks }):=
 .of_wp fun prog w A R s h=>by
  obtain ⟨hp,g,d,tk,os⟩:=s; obtain ⟨hl,h⟩:=h
  have f1:=AutoSeq1.idx_int; have f2:=AutoSeq1.sub_tuple_tuple
  wp_walk
  refine Bz1 (decide_eq_false hx) ?_
  wp_walk
  try refine Bz1 (decide_eq_false h1) ?_
  try wp_walk
  try refine Bz1 (decide_eq_false h2) ?_
  try wp_walk
  try refine Bz1 (decide_eq_false h3) ?_
  try wp_walk
  try refine Bz1 (decide_eq_false h4) ?_
  try wp_walk
  exact ⟨_,rfl,h⟩
section
variable {prog:Program} {w:World} {A:Around} {E:Value->Shared->Prop} {s:Shared}
theorem Ant {l:Addr} {items:Array Value} {kk:Nat} {k:Int} {j:Nat} {t:Tok} {v:Value} {Q:Unit->Shared->Prop} (hi:IsL s.heap l items kk) (hk:(0<=k/\k < 1000000/\k=j)∨(k=-1/\j=items.size - 1)) (hn:j < items.size)
   (hQ:Q () { s with heap:=s.heap.update l (Bt2 (·.setIfInBounds j v)) }) :
   wpAny (model prog w) A (setItem (.ref l) (.int k t) v) Q E s:=by
 have hl:s.heap.IsList l items:=hi.isList
 unfold setItem
 try with_reducible refine Bl0 ?_
 first | refine Be8 (Bf5 ?_) | skip
 refine Be8 (wpAny_sequenceKey hl.typeIs (by decide) ?_)
 refine Be8 (Bu3 (name:=Bf4 "__setitem__") hl.typeIs slot_list_setitem
   (Br2 slot_list_setitem hl.typeIs entry_list_setitem ?_ (args_list_setitem _ _ _)))
 show wpAny _ _ (Bi8.List.listSubscript? (.int k t) >>= _) _ _ s
 have hx':items[j]?=some items[j]:=Array.getElem?_eq_getElem hn
 rcases hk with ⟨h0,h1,h2⟩ | ⟨rfl,rfl⟩
 · refine Be8 (wpAny_listSubscript_int (fitsIndex_of h0 (Cl5 h1 (by decide))) ?_)
   clear h1
   subst h2
   show wpAny _ _ ((seqItemAt l j >>= fun r=>pure (r.map (j,·))) >>= _) _ _ s
   refine Be8 (Be8 (wpAny_seqItemAt hi rfl (Bf5 ?_)))
   rw [hx']
   show wpAny _ _ (setSeqItemAt l j v >>= _) _ _ s
   refine Be8 (wpAny_setSeqItemAt hi rfl ?_)
   first
    | exact Be8 (Bf5 (Bf5 ⟨.none,rfl,Bf5 hQ⟩))
    | exact Bf5 ⟨.none,rfl,Bf5 hQ⟩
 · refine Be8 (wpAny_listSubscript_int (fitsIndex_neg (by decide) (by decide)) ?_)
   have Bct:Cp8 (-1) items.size=some (items.size - 1):=by
    rw [seqIndex_neg (by decide) (show -(items.size:Int)<=-1 from Cp0 (Bk8.mpr (Bg6 (Bi4 _) hn)))]; exact congrArg some tm
   show wpAny _ _ ((Bi8.List.listItems (.ref l) >>= fun xs=>pure ((Cp8 (Int.negSucc 0) xs.size).bind fun i=>xs[i]?.map (i,·))) >>= _) _ _ s
   refine Be8 (Be8 ?_)
   show wpAny _ _ (seqItems? (.ref l) >>= _) _ _ s
   refine Be8 (Ck0 hi rfl (Bf5 (Bf5 ?_)))
   have hidx':Cp8 (Int.negSucc 0) items.size=some (items.size - 1):=Bct
   rw [hidx']
   simp only [Option.bind_some,hx',Bl5]
   show wpAny _ _ (setSeqItemAt l _ v >>= _) _ _ s
   refine Be8 (wpAny_setSeqItemAt hi rfl ?_)
   first
    | exact Be8 (Bf5 (Bf5 ⟨.none,rfl,Bf5 hQ⟩))
    | exact Bf5 ⟨.none,rfl,Bf5 hQ⟩
end
section
variable {P:Pm} {n:Nat} {fx:Fx} {σ:Sto} {m:A8} {X:Xt}
noncomputable def Si (P:Pm) (n:Nat) (c k v:V) (σ:Sto) (Q:Sto->Prop):Prop:=
 ∀ A st B g env m s o i x,Rep P B g A st env σ m s->VR g o c->VR g i k->VR g x v->Bg A n->wpAny (model P.prog P.w) A (setItem o i x) (fun _ s'=>BdP P B A st env g (fun σ' m'=>m'=m/\Q σ') s') (fun _ _=>False) s
theorem Anu {o i p' pos e Q} (h:Ev P n fx e σ m (fun v σ1=>Ev P n fx o σ1 m (fun c σ2=>Ev P n fx i σ2 m (fun k σ3=>Si P n c k v σ3 (fun σ4=>Q .next σ4 m)) X) X) X)
  (hs:∀ env,Cc8 e (some (.Subscript o i p')) pos.line env=pure false:=by intro _; rfl):Ex P n fx (.Assign [.Subscript o i p'] e pos) σ m Q X:=
 fun A st B g env s he hr hm=>wpAny_Assign_Subscript (Bf2 (h A st B g env s he hr hm) (fun v s1 qA=>by
  obtain ⟨g1,σ1,m1,d,hg1,hr1,hv1,hm1,hq1⟩:=qA
  subst hm1
  refine Bf2 (hq1 A st B g1 env s1 he hr1 hm) (fun ov s2 qM=>?_) fun _ _ q=>q.mono hg1 fun _ _ _ x=>x
  obtain ⟨g2,σ2,m2,c,hg2,hr2,hv2,hm2,hq2⟩:=qM
  subst hm2
  refine Bf2 (hq2 A st B g2 env s2 he hr2 hm) (fun iv s3 qM=>?_) fun _ _ q=>q.mono (A3 hg1 hg2) fun _ _ _ x=>x
  obtain ⟨g3,σ3,m3,k,hg3,hr3,hv3,hm3,hq3⟩:=qM
  subst hm3
  refine Bf2 (hq3 A st B g3 env _ s3 ov iv v hr3 (hv2.mono hg3) hv3 ((hv1.mono hg2).mono hg3) hm) (fun _ s4 qM=>?_) fun _ _ q=>q.elim
  obtain ⟨g4,σ4,m4,hg4,hr4,hm4,hq4⟩:=qM
  subst hm4
  exact ⟨g4,σ4,_,.next,A3 hg1 (A3 hg2 (A3 hg3 hg4)),hr4,.next,hq4⟩) fun _ _ q=>q) (hs env)
theorem Ahf {a:Addr} {ds:List V} {k:Int} {j:Nat} {v:V} {Q:Sto->Prop} (h:σ a=some (.list ds)) (hk:(0<=k/\k < 1000000/\k=j)∨(k=-1/\j=ds.length - 1)) (hj:j < ds.length) (hq:Q (σ.put a (.list (ds.set j v)))):Si P n (.loc a) (.int k) v σ Q:=
 fun A st B g env m s o i x hr ho hi hx hm=>by
  obtain ⟨_,rfl⟩:=ho.inv; obtain ⟨_,rfl⟩:=hi.inv
  obtain ⟨items,kk,hii,hvs,hsz⟩:=Ad5 hr.toRepC h
  refine Ant hii (by rw [hsz]; exact hk) (by rw [hsz]; exact hj) ?_
  exact ⟨g,_,m,A2 g,hr.upd h (Aby _) (hii.update _) (IsL.or (by rw [Array.toList_setIfInBounds]; exact hvs.set j hx)) s.toks,rfl,hq⟩
theorem Anp {o i:Expr} {p' pos:Pos} {e:Expr} {Q:Flw->Sto->A8->Prop}
  (h:Ev P n fx o σ m (fun c σ1=>Ev P n fx i σ1 m (fun kv σ2=>∃ (a:Addr) (ds:List V) (k:Int) (j:Nat) (x:Int),c=.loc a/\kv=.int k/\σ2 a=some (.list ds)/\ds[j]?=some (.int x)/\k=(j:Int)/\j < 1000000 ∧
   Ev P n fx e σ2 m (fun v σ3=>∃ y:Int,v=.int y/\σ3 a=some (.list ds)/\Q .next (σ3.put a (.list (ds.set j (.int (x + y))))) m) X) X) X)
  (ha:∀ ov iv new,augStore i ov iv new=(do holding [new,ov,iv] (setItem ov iv new); release [new,ov,iv] []; pure .next)):Ex P n fx (.AugAssign (.Subscript o i p') .Add e pos) σ m Q X:=
 fun A st B g env s he hr hm=>wpAny_AugAssign_SubscriptAny (Bf2 (h A st B g env s he hr hm) (fun ov s1 qE=>by
  obtain ⟨g1,σ1,m1,c,hg1,hr1,hv1,hm1,hq1⟩:=qE
  subst hm1
  refine Bf2 (hq1 A st B g1 env s1 he hr1 hm) (fun iv s2 qM=>?_) fun _ _ q=>q.mono hg1 fun _ _ _ x=>x
  obtain ⟨g2,σ2,m2,kv,hg2,hr2,hv2,hm2,a,ds,k,j,x,e1,e2,hσ,hj,hkj,hsm,hq2⟩:=qM
  subst hm2; subst e1; subst e2
  obtain ⟨_,rfl⟩:=hv1.inv; obtain ⟨_,rfl⟩:=hv2.inv
  obtain ⟨items,kk,hii,hvs,hsz⟩:=Ad5 hr2.toRepC hσ
  obtain ⟨old,o1,o2⟩:=hvs.get hj
  obtain ⟨_,rfl⟩:=o2.inv
  refine wpAny_getItem_list (k:=k) hii.isList (by rw [hkj]; exact Bj9 _) (by rw [hkj]; exact tl hsm (by decide)) (by rw [hkj]; simpa using o1) ?_
  refine Bf2 (hq2 A st B g2 env s2 he hr2 hm) (fun v s3 qM=>?_) fun _ _ q=>q.mono (A3 hg1 hg2) fun _ _ _ x=>x
  obtain ⟨g3,σ3,m3,d,hg3,hr3,hv3,hm3,y,e3,hσ3,hq3⟩:=qM
  subst hm3; subst e3
  obtain ⟨_,rfl⟩:=hv3.inv
  refine AutoIntOps.iadd_0 ?_
  have hlt:j < ds.length:=(Bf7.mp hj).1
  refine (show wpAny (model P.prog P.w) A (setItem (.ref a) (.int k _) (.int (x + y) s3.toks)) _ _ { s3 with toks:=s3.toks + 1 } from ?_)
  refine Bf2 (Ahf (Q:=fun σ'=>Q .next σ' _) (j:=j) (v:=.int (x + y)) hσ3 (.inl ⟨by rw [hkj]; exact Bj9 _,by rw [hkj]; exact tl hsm (by decide),hkj⟩) hlt hq3 A st B g3 env _ _ (.ref a) _ _ (hr3.tok _) (.loc a) (.int k _) (.int (x + y) _) hm) (fun _ s4 qM=>?_) fun _ _ q=>q.elim
  obtain ⟨g4,σ4,m4,hg4,hr4,hm4,hq4⟩:=qM
  subst hm4
  exact ⟨g4,σ4,_,.next,A3 hg1 (A3 hg2 (A3 hg3 hg4)),hr4,.next,hq4⟩) fun _ _ q=>q) ha
theorem VRs.flat {g vs ds} (h:VRs g vs ds):∀ k:Nat,VRs g (Bg7 k vs).flatten (Bg7 k ds).flatten
 | 0=>by simpa using VRs.nil
 | k + 1=>by rw [Bn2,Bn2,Bm6,Bm6]; exact h.append (h.flat k)
theorem Amz {α:Type} (ds:List α):∀ k:Nat,(Bg7 k ds).flatten.length=k * ds.length
 | 0=>by simp
 | k + 1=>by rw [Bn2,Bm6,Bf1,Amz ds k,Bx5,Bl9]
theorem Af2 (items:Array Value):∀ (k:Nat) (acc:Array Value),Cb0 (fun x1 x2=>x1 ++ x2) acc (Bg7 k items)=(acc.toList ++ (Bg7 k items.toList).flatten).toArray
 | 0,acc=>by simp
 | k + 1,acc=>by rw [Bn2,Bv0,Af2 items k]; simp [Bn2]
theorem Ajl {B g A st env s} (R:Rep P B g A st env σ m s) {items ds} (h:VRs g items.toList ds) (T:String) (hT:T="list"∨T="tuple") (tk:Nat) :
   ∃ g',g.StaysIn g'/\Rep P B g' A st env σ m { s with heap:=s.heap.push { cls:=.type T,data:=.seq items },toks:=tk }/\VR g' (.ref s.heap.objs.size) (if T="list" then .lst ds else .tup ds):=by
 obtain ⟨g2,hg2,ho2,R2⟩:=R.Aap { cls:=.type T,data:=.seq items } rfl (fun f=>by have q:Value.type T=Value.type "frame":=f.1; rcases hT with rfl | rfl <;> exact absurd q (by decide)) tk
 refine ⟨g2,hg2,R2,?_⟩
 rcases hT with rfl | rfl
 · rw [if_pos rfl]; exact .lst ho2 rfl rfl (h.mono hg2)
 · rw [if_neg (by decide)]; exact .tup ho2 rfl rfl (h.mono hg2)
theorem Adv {h:Heap} {a:Addr} {items:Array Value} (x:h.IsList a items):∃ d n sl,h.get? a=some { cls:=.type "list",dict:=d,data:=.seq items n,slots:=sl }:=by
 obtain ⟨⟨c,d,dt,sl⟩,ho,hc,n,hd⟩:=x
 simp only at hc hd; subst hc hd
 exact ⟨d,n,sl,ho⟩
theorem Acz {h:Heap} {a:Addr} {items:Array Value} (x:h.IsTuple a items):∃ d n sl,h.get? a=some { cls:=.type "tuple",dict:=d,data:=.seq items n,slots:=sl }:=by
 obtain ⟨⟨c,d,dt,sl⟩,ho,hc,n,hd⟩:=x
 simp only at hc hd; subst hc hd
 exact ⟨d,n,sl,ho⟩
theorem Aje {a b:V} {ds es:List V} {Q:V->Sto->Prop} (ha:Dv σ a (.lst ds)) (hb:Dv σ b (.lst es)) (h:Q (.lst (ds ++ es)) σ) (hl:ds.length + es.length<=100000):Bo P n .Add a b σ Q:=
 fun A st B g env m s u v hr hu hv hm=>by
  obtain ⟨l1,i1,rfl,h1,v1⟩:=ha.items hr.toRepC hu
  obtain ⟨l2,i2,rfl,h2,v2⟩:=hb.items hr.toRepC hv
  obtain ⟨d1,n1,s1,o1⟩:=Adv h1
  obtain ⟨d2,n2,s2,o2⟩:=Adv h2
  have z1:i1.size=ds.length:=by rw [<- v1.length,Bg4]
  have z2:i2.size=es.length:=by rw [<- v2.length,Bg4]
  obtain ⟨g',hg,R',rv⟩:=Ajl hr (items:=i1 ++ i2) (ds:=ds ++ es) (by rw [Ci0]; exact v1.append v2) "list" (.inl rfl) s.toks
  refine Cb8 ⟨_,o1,rfl⟩ ⟨_,o2,rfl⟩ noFill_list_add seq_list_add PySem.F.slot_list_add PySem.F.entry_list_add (PySem.F.args_list_add_2 _ _) (list_addW l1 l2 i1 i2 n1 n2 d1 d2 s1 s2 (by rw [z1,z2]; exact sz hl)) ⟨o1,o2,?_⟩
  exact ⟨g',σ,m,_,hg,R',rv,rfl,h⟩
theorem Ald {ds es:List V} {Q:V->Sto->Prop} (h:Q (.tup (ds ++ es)) σ) (hl:ds.length + es.length<=100000):Bo P n .Add (.tup ds) (.tup es) σ Q:=
 fun A st B g env m s u v hr hu hv hm=>by
  have hu0:=hu
  have hv0:=hv
  obtain ⟨l1,i1,rfl,h1,v1⟩:=hu.isTup
  obtain ⟨l2,i2,rfl,h2,v2⟩:=hv.isTup
  obtain ⟨d1,n1,s1,o1⟩:=Acz (IsTuple.stays h1 hr.fz)
  obtain ⟨d2,n2,s2,o2⟩:=Acz (IsTuple.stays h2 hr.fz)
  have z1:i1.size=ds.length:=by rw [<- v1.length,Bg4]
  have z2:i2.size=es.length:=by rw [<- v2.length,Bg4]
  by_cases e1:ds=[]
  · subst e1
    refine Cb8 ⟨_,o1,rfl⟩ ⟨_,o2,rfl⟩ Co5 seq_tuple_add Cd4 Cd1 (Cc0 _ _) (tuple_addW0 l1 l2 i1 i2 n1 n2 d1 d2 s1 s2 (by simpa using Array.eq_empty_of_size_eq_zero z1)) ⟨o1,o2,?_⟩
    exact ⟨g,σ,m,_,A2 g,hr,hv0,rfl,h⟩
  · by_cases e2:es=[]
    · subst e2
      rw [Bh4] at h
      have ne1:¬ i1.isEmpty=true:=fun q=>e1 (Br1.mp (by rw [<- z1]; simpa using q))
      refine Cb8 ⟨_,o1,rfl⟩ ⟨_,o2,rfl⟩ Co5 seq_tuple_add Cd4 Cd1 (Cc0 _ _) (tuple_addW1 l1 l2 i1 i2 n1 n2 d1 d2 s1 s2 ne1 (by simpa using Array.eq_empty_of_size_eq_zero z2)) ⟨o1,o2,?_⟩
      exact ⟨g,σ,m,_,A2 g,hr,hu0,rfl,h⟩
    · have ne1:¬ i1.isEmpty=true:=fun q=>e1 (Br1.mp (by rw [<- z1]; simpa using q))
      have ne2:¬ i2.isEmpty=true:=fun q=>e2 (Br1.mp (by rw [<- z2]; simpa using q))
      obtain ⟨g',hg,R',rv⟩:=Ajl hr (items:=i1 ++ i2) (ds:=ds ++ es) (by rw [Ci0]; exact v1.append v2) "tuple" (.inr rfl) s.toks
      refine Cb8 ⟨_,o1,rfl⟩ ⟨_,o2,rfl⟩ Co5 seq_tuple_add Cd4 Cd1 (Cc0 _ _) (tuple_addW2 l1 l2 i1 i2 n1 n2 d1 d2 s1 s2 ne1 ne2 (by rw [z1,z2]; exact sz hl)) ⟨o1,o2,?_⟩
      exact ⟨g',σ,m,_,hg,R',rv,rfl,h⟩
set_option tactic.hygienic true in
theorem Ap2 {ds:List V} {x:Int} {k:Nat} {Q:V->Sto->Prop} (hk:x=k) (h0:0 < k) (hne:ds≠[]) (h:Q (.tup (Bg7 k ds).flatten) σ) (hl:ds.length * k<=100000):Bo P n .Mult (.tup ds) (.int x) σ Q:=
 fun A st B g env m s u v hr hu hv hm=>by
  obtain ⟨_,rfl⟩:=hv.inv; rename_i tk0
  have hu0:=hu
  obtain ⟨l1,i1,rfl,h1,v1⟩:=hu.isTup
  obtain ⟨d1,n1,s1,o1⟩:=Acz (IsTuple.stays h1 hr.fz)
  have z1:i1.size=ds.length:=by rw [<- v1.length,Bg4]
  have ne1:¬ i1.isEmpty=true:=fun q=>hne (Br1.mp (by rw [<- z1]; simpa using q))
  refine wpAny_binaryOp_repeat_ref (T:="tuple") (U:="int") (by decide) ⟨_,o1,rfl⟩ (fun s'=>typeIs_int s' x tk0) Afw F.fills_int_mul Ch8 Akj F.slot_int_index.lookup
    (Bw9 Ch8 (typeIs_int s x tk0) F.entry_int_rmul (F.args_int_rmul_2 _ _) (Ahj x tk0 l1 i1 n1 d1 s1) ⟨o1,rfl,⟨_,o1,rfl⟩,?_⟩)
  by_cases e:k=1
  · subst e
    have hx:x=1:=hk
    subst hx
    refine Bw9 Cg5 ⟨_,o1,rfl⟩ F.entry_tuple_mul (F.args_tuple_mul_2 _ _) (Ao4 l1 i1 n1 d1 s1 tk0) ⟨o1,?_⟩
    refine ⟨g,σ,m,_,A2 g,hr,hu0,rfl,?_⟩
    simpa using h
  · have hd:0 < ds.length:=List.length_pos_iff.mpr hne
    have hfl:Cb0 (fun x1 x2=>x1 ++ x2) #[] (Bg7 x.toNat i1)=((Bg7 k i1.toList).flatten).toArray:=by
      rw [Af2,show x.toNat=k from by rw [hk]; rfl]; simp
    have hk2:(ds.length * k:Nat)=((ds.length:Int) * x):=by rw [hk]; push_cast; rfl
    have hmul:k<=ds.length * k:=Nat.le_mul_of_pos_left k hd
    obtain ⟨g',hg,R',rv⟩:=Ajl hr (items:=Cb0 (fun x1 x2=>x1 ++ x2) #[] (Bg7 x.toNat i1)) (ds:=(Bg7 k ds).flatten) (by rw [hfl]; exact v1.flat k) "tuple" (.inr rfl) s.toks
    refine Bw9 Cg5 ⟨_,o1,rfl⟩ F.entry_tuple_mul (F.args_tuple_mul_2 _ _) (Aoo l1 i1 n1 d1 s1 x tk0 ?_ ?_ ?_ ?_ ?_ ?_) ⟨o1,?_⟩
    · rw [Bv5,decide_eq_true_eq,decide_eq_true_eq,hk]; exact fun h=>h.elim (fun h=>absurd h (Bs4.mpr (tn (by decide)))) fun h=>absurd h (Bx7.mpr (tk (Be7 hmul hl) (by decide)))
    · rw [Bv5,beq_iff_eq]; rintro (q | q)
      · exact ne1 q
      · lia
    · rw [Bv5,decide_eq_true_eq]; rintro (q | q)
      · lia
      · exact ne1 q
    · rw [z1,<- hk2]; exact Bs4.mpr (ti hl (by decide))
    · unfold Bi8.Tuple.tupleTooMany; rw [decide_eq_true_eq,z1,Bn5,<- hk2]; exact Bs4.mpr (ti hl (by decide))
    · rw [hfl,Bp1,Amz,Bg4,z1,Bn5,Br5]; exact Be7 hl (by decide)
    · exact ⟨g',σ,m,_,hg,R',rv,rfl,h⟩
set_option tactic.hygienic true in
theorem Awr {c:V} {ds:List V} {x:Int} {k:Nat} {Q:V->Sto->Prop} (hc:Dv σ c (.lst ds)) (hk:x=k) (h:∀ a,σ a=none->Q (.loc a) (σ.put a (.list (Bg7 k ds).flatten))) (hl:ds.length * k<=100000) (hk2:k<=100000):Bo P n .Mult c (.int x) σ Q:=
 fun A st B g env m s u v hr hu hv hm=>by
  obtain ⟨_,rfl⟩:=hv.inv; rename_i tk0
  obtain ⟨l1,i1,rfl,h1,v1⟩:=hc.items hr.toRepC hu
  obtain ⟨d1,n1,s1,o1⟩:=Adv h1
  have z1:i1.size=ds.length:=by rw [<- v1.length,Bg4]
  have hxk:x.toNat=k:=by rw [hk]; rfl
  have e:Cb0 (fun x1 x2=>x1 ++ x2) #[] (Bg7 (if i1.isEmpty=true then 0 else x.toNat) i1)=((Bg7 k i1.toList).flatten).toArray:=by
    by_cases q:i1.isEmpty=true
    · have:i1=#[]:=by simpa using q
      subst this
      rw [if_pos (by rfl)]; simp
    · rw [if_neg q,Af2,hxk]; simp
  refine wpAny_binaryOp_repeat_ref (T:="list") (U:="int") (by decide) ⟨_,o1,rfl⟩ (fun s'=>typeIs_int s' x tk0) noFill_list_mul F.fills_int_mul Ch8 repeat_list F.slot_int_index.lookup
    (Bw9 Ch8 (typeIs_int s x tk0) F.entry_int_rmul (F.args_int_rmul_2 _ _) (lm_int_rmul_list_any x tk0 l1 i1 n1 d1 s1) ⟨o1,rfl,⟨_,o1,rfl⟩,?_⟩)
  refine Bw9 F.slot_list_mul ⟨_,o1,rfl⟩ F.entry_list_mul (F.args_list_mul_2 _ _) (lm_list_mul_any l1 i1 n1 d1 s1 x tk0 ?_ ?_ ?_) ⟨o1,?_⟩
  · have:Bu0 x=true:=by
      unfold Bu0
      rw [Bg0]
      constructor
      · exact decide_eq_true (by rw [hk]; exact tn (by decide))
      · exact decide_eq_true (by rw [hk]; exact tk hk2 (by decide))
    rw [this]; decide
  · rw [z1,hxk]; exact Cp3.mpr (Be7 hl (by decide))
  · unfold Bi8.List.listTooLong; rw [decide_eq_true_eq,z1,hxk]; exact Cp3.mpr (sz hl)
  · rw [e]
    obtain ⟨hn,R2⟩:=hr.Ac3 (x:=.list (Bg7 k ds).flatten) (Aa3 s.heap _) (Bh5 _) (Bi1 s.heap (o:={ cls:=.type "list",data:=.seq (Bg7 k i1.toList).flatten.toArray }) rfl) ⟨rfl,_,_,rfl,by simpa using v1.flat k,rfl,rfl⟩ s.toks
    exact ⟨g,_,m,_,A2 g,R2,.loc _,rfl,h _ hn⟩
end
section
variable {P:Pm} {B:Bs} {g:Heap} {A:Around} {st:List Env} {env:Env} {σ:Sto} {m:A8} {s:Shared}
theorem RepC.Ao3 (R:RepC P B g A st σ s) {C} (h1:g.get? C=none) (h2:B.k.get? C=none) (h3:σ C=none) (h4:∀ e∈st,e.frame≠some C) {h'} (hs:∀ b o,b≠C->s.heap.get? b=some o->h'.get? b=some o) (tk:Nat) :
   RepC P B g A st σ { s with heap:=h',toks:=tk }:=by
 refine ⟨R.pc,R.stack,?_,?_,?_,R.ext,R.new,?_,R.gens,R.drawn,R.os⟩
 · have:=R.stk
   clear R
   induction st with
   | nil=>trivial
   | cons e r ih=>
     obtain ⟨a,⟨F,o,f1,f2,f3,f4⟩,c⟩:=this
     exact ⟨a,⟨F,o,f1,hs F o (by rintro rfl; exact h4 e (.head _) f1) f2,f3,f4⟩,ih (fun e he=>h4 e (.tail _ he)) c⟩
 · intro b o e
   have hb:b≠C:=by rintro rfl; rw [h2] at e; cases e
   rcases R.keeps b o e with q | ⟨f,sl,q⟩
   · exact .inl (hs b _ hb q)
   · exact .inr ⟨f,sl,hs b _ hb q⟩
 · exact fun b o e=>hs b o (by rintro rfl; rw [h1] at e; cases e) (R.fz b o e)
 · intro b x e
   obtain ⟨q1,q2,o,q3,q4⟩:=R.sto b x e
   exact ⟨q1,q2,o,hs b o (by rintro rfl; rw [h3] at e; cases e) q3,q4⟩
theorem Rep.Ao3 (R:Rep P B g A st env σ m s) {C} (h1:g.get? C=none) (h2:B.k.get? C=none) (h3:σ C=none) (h4:∀ e∈st,e.frame≠some C) (h5:C≠env.locals) (h6:∀ x c,(env.kindOf x=some .cell∨env.kindOf x=some .free)->env.cells.lookup x=some c->c≠C)
  {h'} (hs:∀ b o,b≠C->s.heap.get? b=some o->h'.get? b=some o) (tk:Nat):Rep P B g A st env σ m { s with heap:=h',toks:=tk }:=
 ⟨R.toRepC.Ao3 h1 h2 h3 h4 hs tk,R.fr.but hs h5 h6,R.own⟩
theorem It.grow {h h' en src it ds} (x:It B g h en src it ds) (k:h.StaysIn h'):It B g h' en src it ds:=by
 induction x using It.casesOn with
 | list a b c d e=>obtain ⟨o,h1,h2⟩:=a; exact .list ⟨o,k _ _ h1,h2⟩ b c d e
 | As8 a d e=>obtain ⟨o,h1,h2⟩:=a; exact .As8 ⟨o,k _ _ h1,h2⟩ d e
 | tup a b c d e=>obtain ⟨o,h1,h2⟩:=a; exact .tup ⟨o,k _ _ h1,h2⟩ b c d e
 | rng a d e=>exact .rng (k _ _ a) d e
 | enum a b c d e f1 f2 f3 f4=>obtain ⟨o,h1,h2⟩:=b; exact .enum (k _ _ a) ⟨o,k _ _ h1,h2⟩ c d e f1 f2 f3 f4
 | As5 a b c d e f1 f2 f3 f4=>obtain ⟨o,h1,h2⟩:=b; exact .As5 (k _ _ a) ⟨o,k _ _ h1,h2⟩ c d e f1 f2 f3 f4
theorem It.base {B' h en src it ds} (x:It B g h en src it ds) (k:∀ b o,h.get? b=some o->(∃ vs,o.data=.fields vs)->g.get? b=none->B.k.get? b=none->B'.k.get? b=none):It B' g h en src it ds:=by
 induction x using It.casesOn with
 | list a b c d e=>obtain ⟨o,h1,h2,h3⟩:=id a; exact .list a b c d (k _ _ h1 ⟨_,h3⟩ d e)
 | As8 a d e=>obtain ⟨o,h1,h2,h3⟩:=id a; exact .As8 a d (k _ _ h1 ⟨_,h3⟩ d e)
 | tup a b c d e=>obtain ⟨o,h1,h2,h3⟩:=id a; exact .tup a b c d (k _ _ h1 ⟨_,h3⟩ d e)
 | rng a d e=>exact .rng a d (k _ _ a ⟨_,rfl⟩ d e)
 | enum a b c d e f1 f2 f3 f4=>obtain ⟨o,h1,h2,h3⟩:=id b; exact .enum a b c d e f1 (k _ _ h1 ⟨_,h3⟩ f1 f2) f3 (k _ _ a ⟨_,rfl⟩ f3 f4)
 | As5 a b c d e f1 f2 f3 f4=>obtain ⟨o,h1,h2,h3⟩:=id b; exact .As5 a b c d e f1 (k _ _ h1 ⟨_,h3⟩ f1 f2) f3 (k _ _ a ⟨_,rfl⟩ f3 f4)
theorem It.again {en it ds src Q E} (x:It B g s.heap en src it ds) (h:Q (.ref it) s):wpAny (model P.prog P.w) A (pyIter (.ref it)) Q E s:=by
 induction x using It.casesOn with
 | list a b c d e=>exact wpAny_pyIter_listiter a h
 | As8 a d e=>exact wpAny_pyIter_listiter a h
 | tup a b c d e=>exact wpAny_pyIter_tupleiter a h
 | rng a d e=>exact wpAny_pyIter_rangeiter a h
 | enum a b c d e f1 f2 f3 f4=>exact Cf5 a h
 | As5 a b c d e f1 f2 f3 f4=>exact Cf5 a h
end
theorem Alr (elt:Expr) (gens:List Comprehension) (scope:Scope) (pos:Pos) (d:Nat) (it acc:Value) (env:Env) (g:Comprehension) (h:gens[d]?=some g) (h2:gens[d+1]?=none) (ha:g.is_async=0) :
  compTurn (.ListComp elt gens scope pos) d it acc env=(do
   Cb6 g.iter.pos
   match <- pyNext it with
   | none=>pure (.done .next)
   | some v=>
    Bl4 g.target it v
    assign g.target env v
    let mut ok:=true
    for c in g.ifs do
     if ok then ok <- isTrue c env (eval c env)
    if ok then
     (do let _ <- call (.builtin "list.append") [acc,<- eval elt env])
    again (.compLoop (.ListComp elt gens scope pos) d it acc env)):=by
 unfold compTurn
 simp only [h,h2,ha]
 rfl
theorem Alk (elt:Expr) (gens:List Comprehension) (scope:Scope) (pos:Pos) (d:Nat) (it acc:Value) (env:Env) (g g':Comprehension) (h:gens[d]?=some g) (h2:gens[d+1]?=some g') (ha:g.is_async=0) (ha':g'.is_async=0) :
  compTurn (.ListComp elt gens scope pos) d it acc env=(do
   Cb6 g.iter.pos
   match <- pyNext it with
   | none=>pure (.done .next)
   | some v=>
    Bl4 g.target it v
    assign g.target env v
    let mut ok:=true
    for c in g.ifs do
     if ok then ok <- isTrue c env (eval c env)
    if ok then
     let x <- eval g'.iter env
     Cb6 g'.iter.pos
     let x <- Bo6 g'.iter env x
     let _ <- runOwn (.compStart (.ListComp elt gens scope pos) (d + 1) (<- holding [x] (pyIter x)) acc env) env
    again (.compLoop (.ListComp elt gens scope pos) d it acc env)):=by
 unfold compTurn
 simp only [h,h2,ha,ha']
 rfl
theorem Afk {prog w A R s elt gens scope pos d it acc env c} (hd:gens[d]?=some c) (ha:c.is_async=0)
   (h0:Cb7 (model prog w) A (.compLoop (.ListComp elt gens scope pos) d it acc env) R s)
   (h:∀ E,wpAny (model prog w) A (pyIter it) (fun it' s'=>Cb7 (model prog w) A (.compLoop (.ListComp elt gens scope pos) d it' acc env) R s') E s) :
   Cb7 (model prog w) A (.compStart (.ListComp elt gens scope pos) d it acc env) R s:=by
 refine Cc9 ?_
 show wpAny _ _ ((compStart (.ListComp elt gens scope pos) d it acc env).onRaise (fun x=>do Cm2 x env; Cb6 theWindowsPlace)) _ _ s
 refine wpAny_notedAt ?_
 have e:compStart (.ListComp elt gens scope pos) d it acc env=(do
    if (<- ask).params.followText "comprehension-iter-twice" then return <- again (.compLoop (.ListComp elt gens scope pos) d it acc env)
    rule "comprehension.iter-twice"
    Cb6 c.iter.pos
    again (.compLoop (.ListComp elt gens scope pos) d (<- pyIter it) acc env)):=by
   unfold compStart
   have hc:clausesOf (.ListComp elt gens scope pos)=gens:=rfl
   simp only [hc,hd,Option.elim_some,ha]
   rfl
 rw [e]
 refine Be8 (Ch2 (wpAny_ite ?_))
 split
 · first
    | exact Be8 (Bf5 (Bf5 (And.intro rfl h0)))
    | exact Bf5 (And.intro rfl h0)
 · exact Be8 (wpAny_rule (Be8 (Bo2 (Be8 (Bf2 (h _) (fun it' s' h'=>Bf5 (And.intro rfl h')) fun _ _ x=>x)))))
noncomputable abbrev Ts (P:Pm) (n:Nat) (fx:Fx) (ifs:List Expr) (σ:Sto) (m:A8) (Q:Bool->Sto->Prop):Prop:=
 JS EqR P n fx (fun env=>forIn ifs true fun c r=>if r=true then do let ok <- isTrue c env (eval c env); pure (ForInStep.yield ok) else pure (ForInStep.yield r)) σ m (fun v σ' m'=>m'=m/\Q v σ') (fun _ _ _=>False)
noncomputable def noX:Xt:=fun _ _ _=>False
noncomputable def ClS (P:Pm) (n:Nat) (fx:Fx) (en:Bool) (src:Option (Addr × List V)) (e:Expr) (d:Nat) (acc:Addr) (ds:List V) (σ:Sto) (m:A8) (Q:Sto->Prop):Prop:=
 ∀ A st B g env s it,Ad2 fx env st->Rep P B g A st env σ m s->Bg A n->It B g s.heap en src it ds ->
  Cb7 (model P.prog P.w) A (.compLoop e d (.ref it) (.ref acc) env) (fun r s'=>match r with | .ok _=>BdP P B A st env g (fun σ' m'=>m'=m/\Q σ') s' | .error _=>False) s
noncomputable abbrev Cl (P:Pm) (n:Nat) (fx:Fx) (en:Bool) (e:Expr) (d:Nat) (acc:Addr) (ds:List V) (σ:Sto) (m:A8) (Q:Sto->Prop):Prop:=ClS P n fx en none e d acc ds σ m Q
noncomputable def Elt (P:Pm) (n:Nat) (fx:Fx) (en:Bool) (src:Option (Addr × List V)) (elt:Expr) (gens:List Comprehension) (scope:Scope) (pos:Pos) (d:Nat) (acc:Addr) (m:A8) (Q:Sto->Prop) (r:List V) (m1:A8) (σ2:Sto):Option Comprehension->Prop
 | none=>Ev P n fx elt σ2 m1 (fun v σ3=>∃ vs,σ3 acc=some (.list vs)/\vs.length<=100000/\ClS P n fx en src (.ListComp elt gens scope pos) d acc r (σ3.put acc (.list (vs ++ [v]))) m Q) noX
 | some c'=>(∀ env x,Bo6 c'.iter env x=pure x)/\∃ en',Itr P n fx en' c'.iter σ2 m1 (fun ds' σ3=>Cl P n fx en' (.ListComp elt gens scope pos) (d + 1) acc ds' σ3 m1 (fun σ4=>ClS P n fx en src (.ListComp elt gens scope pos) d acc r σ4 m Q)) noX
inductive Bdu (P:Pm) (B:Bs) (A:Around) (st:List Env) (env:Env) (m:A8) (g:Heap) (en:Bool) (src:Option (Addr × List V)) (it:Addr) (F:List V->A8->Sto->Prop) (s':Shared):Prop
 | mk (B':Bs) (g3:Heap) (σ3:Sto) (m3:A8) (r:List V) (hB:∀ g' σ' m' s',Rep P B' g' A st env σ' m' s'->Rep P B g' A st env σ' m' s') (hg:g.StaysIn g3) (hr:Rep P B' g3 A st env σ3 m3 s')
  (hi:∀ g4 σ4 m4 s5,g3.StaysIn g4->Rep P B' g4 A st env σ4 m4 s5->It B g4 s5.heap en src it r) (hm:∀ y v,m y=some v->m3 y=some v) (hq:F r m3 σ3)
inductive Bc1 (P:Pm) (B:Bs) (A:Around) (st:List Env) (env:Env) (m:A8) (g:Heap) (en:Bool) (src:Option (Addr × List V)) (it:Addr) (G:List V->Sto->Prop) (s':Shared):Prop
 | mk (g4:Heap) (σ4:Sto) (m4:A8) (r:List V) (hg:g.StaysIn g4) (hr:Rep P B g4 A st env σ4 m4 s') (hm:∀ y v,m y=some v->m4 y=some v) (hi:It B g4 s'.heap en src it r) (hq:G r σ4)
section
variable {P:Pm} {n:Nat} {fx:Fx} {σ:Sto} {m:A8}
theorem Ani {Q} (h:Q true σ):Ts P n fx [] σ m Q:=
 fun A st B g env s he hr hm=>wpAny_tests_nil ⟨g,σ,m,true,A2 g,hr,rfl,rfl,h⟩
theorem Az3 {c Q} (h:Tt P n fx c σ m Q noX):Ts P n fx [c] σ m Q:=
 fun A st B g env s he hr hm=>wpAny_tests_one (h A st B g env s he hr hm)
theorem XP.no {B A st env g e s'} {R:Prop} (h:XP P B A st env g noX e s'):R:=by
 obtain ⟨_,_,_,_,_,_,_,_,_,f⟩:=h; exact f.elim
theorem Ai8 {en src elt gens scope pos d c acc ds Q} (hd:gens[d]?=some c) (ha:c.is_async=0) (ha2:∀ c',gens[d+1]?=some c'->c'.is_async=0)
  (Auq:∀ l all,src=some (l,all)->σ l=some (.list all))
  (hgo:(∃ elts k pos,c.target=.Tuple elts k pos)∨((∀ it v,Bl4 c.target it v=pure ())/\en=false))
  (Aor:ds=[]->Q σ)
  (Afr:∀ x r,ds=x :: r->Bd P n fx c.target x σ m (fun σ1 m1=>(∀ y v,m y=some v->m1 y=some v)/\Ts P n fx c.ifs σ1 m1 (fun b σ2=>if b then Elt P n fx en src elt gens scope pos d acc m Q r m1 σ2 gens[d+1]?
    else ClS P n fx en src (.ListComp elt gens scope pos) d acc r σ2 m Q)) noX) :
  ClS P n fx en src (.ListComp elt gens scope pos) d acc ds σ m Q:=fun A st B g env s it he hr hm hi=>by
 refine Cc9 ?_
 show wpAny _ A ((compTurn (.ListComp elt gens scope pos) d (.ref it) (.ref acc) env).onRaise (fun x=>do Cm2 x env; Cp7 x)) _ _ s
 refine wpAny_noted ?_
 have fin:∀ (E:Value->Shared->Prop) {s₄:Shared},Bc1 P B A st env m g en src it (fun r σ4=>ClS P n fx en src (.ListComp elt gens scope pos) d acc r σ4 m Q) s₄ ->
   wpAny (model P.prog P.w) A (again (.compLoop (.ListComp elt gens scope pos) d (.ref it) (.ref acc) env)) (fun fin s'=>match fin with
    | .done f=>(match (Except.ok f:Result) with | .ok _=>BdP P B A st env g (fun σ' m'=>m'=m/\Q σ') s' | .error _=>False)
    | .again c'=>c'.quiet=true/\Cb7 (model P.prog P.w) A c' (fun r s'=>match r with | .ok _=>BdP P B A st env g (fun σ' m'=>m'=m/\Q σ') s' | .error _=>False) s') E s₄:=
  fun E s₄ qA=>by obtain ⟨g4,σ4,m4,r,hg,R,hmm,hit,hcl⟩:=qA; exact Bf5 ⟨rfl,Bp4 (hcl A st B g4 env s₄ it he (R.drop hmm) hm hit) fun r s' hh=>by
   cases r with
   | ok f=>exact BdP.mono hh hg fun _ _ x=>x
   | error e=>exact hh.elim⟩
 have nextK:∀ E:Value->Shared->Prop,wpAny (model P.prog P.w) A (pyNext (.ref it)) (fun r s₁=>match r with
   | none=>Rep P B g A st env σ m s₁/\ds=[]
   | some v=>wpAny (model P.prog P.w) A (Bl4 c.target (.ref it) v) (fun _ s₂=>NxP P B g A st env σ m en src it ds v s₂) E s₁) E s:=fun E=>
  Bf2 (It.next (target:=c.target) (E:=E)
   (K:=fun r s₁=>match r with
    | none=>Rep P B g A st env σ m s₁/\ds=[]
    | some v=>NxP P B g A st env σ m en src it ds v s₁) hr hm.2.2 hi Auq (hgo.imp id fun q=>⟨fun v=>q.1 _ v,q.2⟩)
   (fun e h' R'=>⟨R',e⟩) (fun d r e v g' h' tk hg R' hv hi'=>⟨d,r,g',e,hg,R',hv,hi'⟩)) (fun r s₁ h₁=>by cases r <;> exact h₁) fun _ _ q=>q
 -- the turn's middle: target,tests
 have mid:∀ (v:Value) (s₂:Shared) (E:Value->Shared->Prop),NxP P B g A st env σ m en src it ds v s₂ ->
   wpAny (model P.prog P.w) A (assign c.target env v) (fun _ s₃=>wpAny (model P.prog P.w) A (forIn c.ifs true fun c r=>if r=true then do let ok <- isTrue c env (eval c env); pure (ForInStep.yield ok) else pure (ForInStep.yield r))
    (fun ok s4=>match ok with
     | true=>Bdu P B A st env m g en src it (fun r m3 σ3=>Elt P n fx en src elt gens scope pos d acc m Q r m3 σ3 gens[d+1]?) s4
     | false=>Bc1 P B A st env m g en src it (fun r σ4=>ClS P n fx en src (.ListComp elt gens scope pos) d acc r σ4 m Q) s4) E s₃) E s₂:=by
  rintro v s₂ E ⟨x,r,g',hds,hg,R',hv,hi'⟩
  obtain ⟨B',hB1,RB,hB2,hB3,hB4⟩:=R'.step
  refine Bf2 (Afr x r hds A st B' g' env s₂ v he RB hm hv) (fun _ s₃ qM=>?_) fun e s3 hx=>hx.no
  obtain ⟨g3,σ3,m3,hg3,hr3,hmm,hq3⟩:=qM
  refine Bf2 (hq3 A st B' g3 env s₃ he hr3 hm) (fun ok s₄ qM=>?_) fun e s3' hx=>(show XP P B' A st env g3 noX e s3' from hx).no
  obtain ⟨g4,σ4,m4,b4,hg4,hr4,hb,hm4,hq4⟩:=qM
  obtain rfl:ok=b4:=hb
  subst hm4
  have gg:=A3 hg3 hg4
  cases ok with
  | true=>exact ⟨B',g4,σ4,m4,r,hB4,A3 hg gg,hr4,(fun g5 σ5 m5 s5 h5 r5=>It.through R' hB1 hB2 hi' (A3 gg h5) r5),hmm,hq4⟩
  | false=>exact ⟨g4,σ4,m4,r,A3 hg gg,hB4 _ _ _ _ hr4,hmm,It.through R' hB1 hB2 hi' gg hr4,hq4⟩
 cases hd1:gens[d+1]? with
 | none=>
  rw [hd1] at mid
  rw [Alr elt gens scope pos d _ _ env c hd hd1 ha]
  refine Be8 (Bo2 (Be8 (Bf2 (nextK _) (fun r s₁ h₁=>?_) fun _ _ h'=>h')))
  cases r with
  | none=>exact Bf5 ⟨g,σ,m,A2 g,h₁.1,rfl,Aor h₁.2⟩
  | some v=>
   refine Be8 (Bf2 h₁ (fun _ s₂ h₂=>?_) fun _ _ h'=>h')
   refine Be8 (Bf2 (mid v s₂ _ h₂) (fun _ s₃ h₃=>Be8 (Bf2 h₃ (fun ok s₄ h₄=>?_) fun _ _ h'=>h')) fun _ _ h'=>h')
   cases ok with
   | false=>exact fin _ h₄
   | true=>
    obtain ⟨B',g3,σ3,m3,r,a1,a2,a3,a4,a5,a6⟩:=h₄
    refine Be8 (Be8 (Bf2 (a6 A st B' g3 env s₄ he a3 hm) (fun y s₅ qM=>?_) fun e s' hx=>hx.no))
    obtain ⟨g5,σ5,m5,dv,b1,b2,b3,b4,vs,b5,b6,b7⟩:=qM
    subst b4
    refine Be8 (Bf2 (Ae (P:=P) (n:=n) (Q:=fun v' σ'=>σ'=σ5.put acc (.list (vs ++ [dv]))) b5 rfl b6 A st B' g5 env _ s₅ [.ref acc,y] b2 (.cons (.loc acc) (.one b3)) hm) (fun _ s₆ qM=>?_) fun _ _ q=>q.elim)
    obtain ⟨g6,σ6,m6,d6,c1,c2,c3,c4,c5⟩:=qM
    subst c4; subst c5
    exact Bf5 (fin _ ⟨_,_,_,_,A3 a2 (A3 b1 c1),a1 _ _ _ _ c2,a5,a4 _ _ _ _ (A3 b1 c1) c2,b7⟩)
 | some c'=>
  have hA:=ha2 c' hd1
  rw [hd1] at mid
  rw [Alk elt gens scope pos d _ _ env c c' hd hd1 ha hA]
  refine Be8 (Bo2 (Be8 (Bf2 (nextK _) (fun r s₁ h₁=>?_) fun _ _ h'=>h')))
  cases r with
  | none=>exact Bf5 ⟨g,σ,m,A2 g,h₁.1,rfl,Aor h₁.2⟩
  | some v=>
   refine Be8 (Bf2 h₁ (fun _ s₂ h₂=>?_) fun _ _ h'=>h')
   refine Be8 (Bf2 (mid v s₂ _ h₂) (fun _ s₃ h₃=>Be8 (Bf2 h₃ (fun ok s₄ h₄=>?_) fun _ _ h'=>h')) fun _ _ h'=>h')
   cases ok with
   | false=>exact fin _ h₄
   | true=>
    obtain ⟨B',g3,σ3,m3,r,a1,a2,a3,a4,a5,a7,en',a8⟩:=h₄
    refine Be8 (Bf2 (a8 A st B' g3 env s₄ he a3 hm) (fun x s₅ h₅=>?_) fun e s' hx=>(show XP P B' A st env g3 noX e s' from hx).no)
    refine Be8 (Bo2 (Be8 (Cg7 (a7 env x) ?_)))
    refine Be8 (Bl0 (Bf2 h₅ (fun iv s₆ qM=>?_) fun e s' hx=>(show XP P B' A st env g3 noX e s' from hx).no))
    obtain ⟨g6,σ6,ds6,it6,c1,c2,c3,c4,c5⟩:=qM
    subst c3
    have loop:=c5 A st B' g6 env s₆ it6 he c2 hm c4
    refine Be8 (wpAny_runOwn (Bp4 (Afk hd1 hA loop (fun E=>c4.again loop)) (fun rr s₇ h₇=>?_)))
    cases rr with
    | error e=>exact h₇.elim
    | ok f=>
     obtain ⟨g7,σ7,m7,e1,e2,e3,e4⟩:=h₇
     subst e3
     exact fin _ ⟨_,_,_,_,A3 a2 (A3 c1 e1),a1 _ _ _ _ e2,a5,a4 _ _ _ _ (A3 c1 e1) e2,e4⟩
end
noncomputable def Als (scope sc:Scope):Scope:={ scope with names:=scope.names.map fun (n,k)=>if (k == .free && sc.kind == .function && sc.names.lookup n == some .cell) then (n,.cell) else (n,k) }
noncomputable def Ae1 (scope sc:Scope):Bool:=
 scope.kind == .function && decide ((scope.names.map (·.1)).Nodup) && scope.names.all fun x=>x.2 != .cell && (x.2 != .free || sc.names.lookup x.1 == some .cell || sc.names.lookup x.1 == some .free)
noncomputable def Acg:List (Str × NameKind)->List (Str × Addr)->List (Str × Addr)->List (Str × Addr)
 | [],_,acc=>acc
 | (x,k) :: r,cs,acc=>if k == .free then Acg r cs ((x,(cs.lookup x).getD 0) :: acc) else Acg r cs acc
theorem Ato:∀ (x x_1:List (Str × Addr)),Acg [] x x_1=x_1:=by intros; rfl
theorem Ait:∀ (x x_1:List (Str × Addr)) (x_3:Str) (k:NameKind) (r:List (Str × NameKind)),Acg ((x_3,k) :: r) x x_1=if (k == NameKind.free)=true then Acg r x ((x_3,(List.lookup x_3 x).getD 0) :: x_1) else Acg r x x_1:=by intros; rfl
theorem Ati {env scope} (h:∀ x∈scope.names,x.2=.free->∃ c,env.cells.lookup x.1=some c):closureFor scope env=pure (Acg scope.names env.cells []):=by
 have go:∀ (names:List (Str × NameKind)) (acc:List (Str × Addr)),(∀ x∈names,x.2=.free->∃ c,env.cells.lookup x.1=some c) ->
   (forIn names acc fun (x:Str × NameKind) (cs:List (Str × Addr))=>(match x with | (name,kind)=>if (kind == NameKind.free)=true then (do let a <- cellOf env name; pure (ForInStep.yield ((name,a) :: cs))) else pure (ForInStep.yield cs):Sem (ForInStep (List (Str × Addr)))))=pure (Acg names env.cells acc):=by
  intro names
  induction names with
  | nil=>intro acc _; rfl
  | cons y r ih=>
   intro acc hh
   obtain ⟨x,k⟩:=y
   rw [Cg2]
   have ih':=fun acc=>ih acc fun z hz=>hh z (.tail _ hz)
   rw [Ait]
   by_cases hk:(k == NameKind.free)=true
   · obtain ⟨c,hc⟩:=hh (x,k) (.head _) (by simpa using hk)
     simp only [hk,if_true]
     have e:cellOf env x=pure c:=by unfold cellOf; rw [hc]
     rw [e,hc]
     exact ih' ((x,c) :: acc)
   · simp only [hk,Bp6,if_false]
     exact ih' _
 unfold closureFor
 show (forIn scope.names [] _ >>= fun cs=>pure cs)=_
 have:=go scope.names [] h
 rw [this]
 rfl
theorem Abs:∀ (names:List (Str × NameKind)) (cs acc:List (Str × Addr)) (x:Str),(names.map (·.1)).Nodup->(∀ y∈names,acc.lookup y.1=none) ->
  (Acg names cs acc).lookup x=if names.lookup x=some .free then some ((cs.lookup x).getD 0) else acc.lookup x
 | [],cs,acc,x,_,_=>by simp [Ato,Ait]
 | (y,k) :: r,cs,acc,x,hn,ha=>by
  simp only [Bg8,Br7] at hn
  rw [Ait]
  have hne:∀ z∈r,(z.1 == y)=false:=fun z hz=>by
    rw [beq_eq_false_iff_ne]; rintro e; exact hn.1 (Bh1.mpr ⟨z,hz,e⟩)
  rw [Bn3]
  by_cases hk:(k == NameKind.free)=true
  · rw [if_pos hk,Abs r cs _ x hn.2 (fun z hz=>by rw [Bn3,hne z hz]; exact ha z (.tail _ hz))]
    have hk':k=.free:=by simpa using hk
    subst hk'
    cases q:(x == y) with
    | true=>
     have e:=beq_iff_eq.mp q
     subst e
     have:r.lookup x≠some .free:=fun w=>hn.1 (Bh1.mpr ⟨_,lookup_mem w,rfl⟩)
     rw [if_neg this,Bn3,q]
     simp
    | false=>rw [Bn3,q]
  · rw [if_neg hk,Abs r cs _ x hn.2 (fun z hz=>ha z (.tail _ hz))]
    cases q:(x == y) with
    | true=>
     have e:=beq_iff_eq.mp q
     subst e
     have:r.lookup x≠some .free:=fun w=>hn.1 (Bh1.mpr ⟨_,lookup_mem w,rfl⟩)
     have h2:¬ (some k=some NameKind.free):=fun w=>hk (by cases (w); rfl)
     rw [if_neg this,if_neg h2]
    | false=>rfl
theorem Aht (scope sc:Scope) (x:Str):(Als scope sc).names.lookup x=(scope.names.lookup x).map fun k=>if (k == .free && sc.kind == .function && sc.names.lookup x == some .cell) then .cell else k:=by
 show (scope.names.map _).lookup x=_
 induction scope.names with
 | nil=>rfl
 | cons y r ih=>
  obtain ⟨y,k⟩:=y
  rw [Bg8]
  dsimp only
  by_cases hc:(k == NameKind.free && sc.kind == .function && sc.names.lookup y == some .cell)=true
  · rw [if_pos hc,Bn3,Bn3]
    cases q:(x == y) with
    | true=>have e:=beq_iff_eq.mp q; subst e; simp only [Bl5,hc,if_true]
    | false=>exact ih
  · rw [if_neg hc,Bn3,Bn3]
    cases q:(x == y) with
    | true=>have e:=beq_iff_eq.mp q; subst e; simp only [Bl5]; rw [if_neg hc]
    | false=>exact ih
noncomputable def Alb (scope:Scope) (m:A8):A8:=fun x=>if scope.names.lookup x == some .free then m x else none
set_option tactic.hygienic true in
theorem Age {scope m x v} (h:Alb scope m x=some v):m x=some v/\scope.names.lookup x=some .free:=by
 unfold Alb at h
 split at h
 · rename_i q; exact ⟨h,beq_iff_eq.mp q⟩
 · cases h
theorem Aru {scope m x} (h:scope.names.lookup x=some .free):Alb scope m x=m x:=by
 unfold Alb; rw [if_pos (beq_iff_eq.mpr h)]
theorem Stk.Azt {g h C} (hC:h.get? C=none):∀ {l},Stk g h l->∀ e∈l,e.frame≠some C
 | [],_,e,he=>nomatch he
 | _ :: _,⟨_,⟨F,o,f1,f2,_,_⟩,c⟩,e,he=>by
  rcases Bh7.mp he with rfl | he
  · rw [f1]; rintro q; cases q; rw [hC] at f2; cases f2
  · exact Stk.Azt hC c e he
structure Off (B:Bs) (g:Heap) (st:List Env) (env:Env) (σ:Sto) (C:Addr):Prop where
 g:g.get? C=none
 k:B.k.get? C=none
 s:σ C=none
 st:∀ e∈st,e.frame≠some C
 loc:C≠env.locals
 cel:∀ x c,(env.kindOf x=some .cell∨env.kindOf x=some .free)->env.cells.lookup x=some c->c≠C
section
variable {P:Pm} {n:Nat} {fx:Fx} {σ:Sto} {m:A8} {X:Xt}
theorem Ai6 {A:Around} {st:List Env} {B:Bs} {g:Heap} {env:Env} {s:Shared} {elt target iter:Expr} {ifs:List Expr} {cs:List Comprehension} {scope:Scope} {pos cpos:Pos} {en:Bool} {src:Option (Addr × List V)} {use:Option (Value->Sem Unit)} {Q:V->Sto->Prop} {QQ:Value->Shared->Prop}
   (he:Ad2 fx env st) (hr:Rep P B g A st env σ m s) (hm:Bg A n) (ok:Ae1 scope fx.sc=true)
   (h:Azz P n fx en src iter σ m (fun ds σ1=>∀ acc,σ1 acc=none->ClS P n ⟨Als scope fx.sc,true⟩ en src (.ListComp elt (⟨target,iter,ifs,0⟩ :: cs) scope pos) 0 acc ds (σ1.put acc (.list [])) (Alb scope m) (fun σ2=>∃ vs,σ2 acc=some (.list vs)/\Q (.lst vs) (σ2.del acc))) X)
   (hs:∀ env x,Bo6 iter env x=pure x)
   (hK:∀ g6 σ6 vs s5 acc C mC f,g.StaysIn g6->Rep P B g6 A st env σ6 m s5->VR g6 (.ref acc) (.lst vs)->Off B g6 st env σ6 C->s5.heap.Ns C mC->Q (.lst vs) σ6->compPost (model P.prog P.w) A (XP P B A st env g X) use QQ (.ref acc) C (.ok f) s5) :
   wpAny (model P.prog P.w) A (comprehension (.ListComp elt (⟨target,iter,ifs,0⟩ :: cs) scope pos) scope env cpos (newList []) false (eval iter env) use) QQ (XP P B A st env g X) s:=by
 simp only [Ae1,Bg0,beq_iff_eq,decide_eq_true_eq,Bj7,bne_iff_ne,Bv5] at ok
 obtain ⟨⟨ok1,ok2⟩,ok3⟩:=ok
 have Awj:∀ x,env.kindOf x=fx.sc.names.lookup x:=fun x=>by unfold Bx8; rw [he.sc]
 have frees:∀ x,scope.names.lookup x=some .free->env.kindOf x=some .cell∨env.kindOf x=some .free:=fun x hx=>by
   rw [Awj]
   rcases (ok3 _ (lookup_mem hx)).2 with (q | q) | q
   · exact absurd rfl q
   · exact .inl q
   · exact .inr q
 have look:∀ x∈scope.names,scope.names.lookup x.1=some x.2:=by
   have:∀ l:List (Str × NameKind),(l.map (·.1)).Nodup->∀ x∈l,l.lookup x.1=some x.2:=by
     intro l
     induction l with
     | nil=>intro _ x hx; cases hx
     | cons y r ih=>
       intro hn x hx
       simp only [Bg8,Br7] at hn
       rw [Bn3]
       rcases Bh7.mp hx with rfl | hx
       · simp
       · have:(x.1 == y.1)=false:=by rw [beq_eq_false_iff_ne]; rintro e; exact hn.1 (e ▸ Bi7 hx)
         rw [this]; exact ih hn.2 x hx
   exact this _ ok2
 have Bde:relabel scope env=Als scope fx.sc:=by unfold relabel Als Bx8; rw [he.sc]
 refine wpAny_comprehension_free (cl:=Acg scope.names env.cells []) rfl (hs env) (Ati fun x hx hf=>?_) ok1 (fun x hx hl=>by rw [look x hx,hl]) ?_
 · obtain ⟨c,cv,q,_⟩:=hr.fr.cel x.1 (frees x.1 (by rw [look x hx,hf]))
   exact ⟨c,q⟩
 refine Bf2 (h A st B g env s he hr hm) (fun x s₁ h₁=>Bf2 h₁ (fun iv s₂ qM=>?_) fun _ _ q=>q) fun _ _ q=>q
 obtain ⟨g',σ1,ds,it,hg,hr2,hiv,hi,hq⟩:=qM
 subst hiv
 refine Bn8 ?_ (Bi4 _)
 obtain ⟨B1,R3⟩:=hr2.Ac3 (x:=.list []) (Aa3 s₂.heap _) (Bh5 _) (Bi1 s₂.heap (o:={ cls:=.type "list",data:=.seq ([]:List Value).toArray }) rfl) ⟨rfl,_,_,rfl,.nil,rfl,rfl⟩ s₂.toks
 have hq':=hq _ B1
 with_reducible refine gze ({ s₂ with heap:=s₂.heap.push { cls:=.type "list",data:=.seq ([]:List Value).toArray } }:Shared) fun s3 hs3=>?_
 have R3':Rep P B g' A st env (σ1.put s₂.heap.objs.size (.list [])) m s3:=hs3 ▸ R3
 have it3:It B g' s3.heap en src it ds:=hs3 ▸ hi.grow (Aa3 s₂.heap _)
 refine wpAny_newFunctionEnv (fun x hx=>(ok3 x hx).1) (by intro y hy; cases hy) (fun h₁ hns hsb=>?_) ok1
 have st4:s3.heap.StaysIn h₁:=fun b o e=>(hsb.2 b (Bl8 (Bl2 e))).trans (Bi2 _ e)
 have R4:=R3'.stays st4 (s3.toks + ([]:List (Str × Value)).length)
 have it4:=it3.grow st4
 revert hns hsb; with_reducible refine gze (s3.heap.objs.size) fun C hC hns hsb=>?_
 have freshC:∀ h:Heap,Keeps h s3.heap->h.get? C=none:=fun h k=>Aa0 k (hC ▸ Ak _)
 have Cg:g'.get? C=none:=Aa2 R3'.fz (hC ▸ Ak s3.heap)
 have Ck:B.k.get? C=none:=freshC _ R3'.keeps
 have Cs:(σ1.put s₂.heap.objs.size (.list [])) C=none:=R3'.Aas (hC ▸ Ak _)
 have Cst:∀ e∈st,e.frame≠some C:=R3'.stk.Azt (hC ▸ Ak _)
 have Cl':C≠env.locals:=by
   obtain ⟨ml,⟨oL,es,ep,hL,_⟩,_⟩:=R3'.fr.ns
   rintro rfl; rw [<- hC,Ak] at hL; cases hL
 have Ccel:∀ x c,(env.kindOf x=some .cell∨env.kindOf x=some .free)->env.cells.lookup x=some c->c≠C:=fun x c hx hc=>by
   obtain ⟨c',cv,w1,⟨o',w2,_⟩,_⟩:=R3'.fr.cel x hx
   rw [hc] at w1; cases w1
   rintro rfl; rw [<- hC,Ak] at w2; cases w2
 let Z:Addr->Prop:=fun b=>(∃ x,scope.names.lookup x=some .free/\env.cells.lookup x=some b)∨b=C∨(B.k.get? b=none/\g'.get? b=none/\∃ o,h₁.get? b=some o/\∃ vs,o.data=.fields vs)
 obtain ⟨B',hB1,RB,hB2,hB3,hB4⟩:=R4.toRepC.step Z (fun b hb=>by
   rcases hb with ⟨x,hx,hc⟩ | rfl | ⟨q,_⟩
   · exact (R4.own.cel x b (frees x hx) hc).2.1
   · exact Ck
   · exact q)
 have zk:∀ b,Z b->B'.k.get? b=none:=fun b hb=>by
   cases q:B'.k.get? b with
   | none=>rfl
   | some o=>exact absurd hb ((hB2 b o).mp q).2.1
 with_reducible_and_instances refine gze ({ newEnv scope C env.globals (Acg scope.names env.cells []) env.qual none .none (some env) 0 with scope:=relabel scope env }:Env) fun cenv Ajr=>?_
 have c1:cenv.scope=Als scope fx.sc:=by rw [<- Ajr]; exact Bde
 have c2:cenv.locals=C:=by rw [<- Ajr]; rfl
 have c3:cenv.cells=Acg scope.names env.cells []:=by rw [<- Ajr]; rfl
 have c4:cenv.globals=env.globals:=by rw [<- Ajr]; rfl
 have c5:cenv.builtins=env.builtins:=by rw [<- Ajr]; rfl
 have ck:∀ x,cenv.kindOf x=(Als scope fx.sc).names.lookup x:=fun x=>by unfold Bx8; rw [c1]
 have capd:∀ x,(cenv.kindOf x=some .cell∨cenv.kindOf x=some .free)->scope.names.lookup x=some .free:=fun x hx=>by
   rw [ck,Aht] at hx
   cases q:scope.names.lookup x with
   | none=>rw [q] at hx; simp at hx
   | some k=>
     rw [q] at hx
     have hkc:=(ok3 _ (lookup_mem q)).1
     simp only [Bl5,Bs1] at hx
     by_cases hc:(k == NameKind.free && fx.sc.kind == .function && fx.sc.names.lookup x == some .cell)=true
     · simp only [Bg0,beq_iff_eq] at hc; rw [hc.1.1]
     · rw [if_neg hc] at hx
       rcases hx with rfl | rfl
       · exact absurd rfl hkc
       · rfl
 have captb:∀ x,scope.names.lookup x=some .free->(cenv.kindOf x=some .cell∨cenv.kindOf x=some .free):=fun x hx=>by
   rw [ck,Aht,hx]
   simp only [Bl5,Bs1]
   split
   · exact .inl rfl
   · exact .inr rfl
 have clk:∀ x,scope.names.lookup x=some .free->cenv.cells.lookup x=env.cells.lookup x:=fun x hx=>by
   rw [c3,Abs _ _ _ _ ok2 (fun _ _=>rfl),if_pos hx]
   obtain ⟨c,cv,q,_⟩:=R4.fr.cel x (frees x hx)
   rw [q]; rfl
 have clk2:∀ x c,cenv.cells.lookup x=some c->scope.names.lookup x=some .free:=fun x c hx=>by
   rw [c3,Abs _ _ _ _ ok2 (fun _ _=>rfl)] at hx
   by_cases q:scope.names.lookup x=some .free
   · exact q
   · rw [if_neg q] at hx; simp at hx
 have EI:Ad2 ⟨Als scope fx.sc,true⟩ cenv st:=⟨c1,ok1,c4.trans he.globals,c5.trans he.builtins,fun q=>nomatch q⟩
 have RI:Rep P B' g' A st cenv (σ1.put s₂.heap.objs.size (.list [])) (Alb scope m) { s3 with heap:=h₁,toks:=s3.toks + ([]:List (Str × Value)).length }:=by
   refine ⟨RB,⟨⟨_,c2 ▸ hns,fun x v e l=>?_⟩,fun x hx=>?_,fun x y c q1 q2=>?_⟩,⟨?_,fun x c hx hc=>?_⟩⟩
   · exfalso
     have:=captb x (Age e).2
     rw [l] at this; simp at this
   · have hf:=capd x hx
     obtain ⟨c,cv,q1,q2,q3⟩:=R4.fr.cel x (frees x hf)
     exact ⟨c,cv,(clk x hf).trans q1,q2,fun v e=>q3 v (Age e).1⟩
   · exact R4.fr.apart x y c ((clk x (clk2 x c q1)) ▸ q1) ((clk y (clk2 y c q2)) ▸ q2)
   · rw [c2]; exact ⟨Cg,zk _ (.inr (.inl rfl)),Cs⟩
   · have hf:=capd x hx
     rw [clk x hf] at hc
     have:=R4.own.cel x c (frees x hf) hc
     exact ⟨this.1,zk _ (.inl ⟨x,hf,hc⟩),this.2.2⟩
 have itI:It B' g' h₁ en src it ds:=it4.base fun b o e hf q1 q2=>zk _ (.inr (.inr ⟨q2,q1,o,e,hf⟩))
 have loop:=hq' A st B' g' cenv { s3 with heap:=h₁,toks:=s3.toks + ([]:List (Str × Value)).length } it EI RI hm itI
 show Cb7 (model P.prog P.w) A (.compStart _ 0 (.ref it) (.ref s₂.heap.objs.size) ({ newEnv scope C env.globals (Acg scope.names env.cells []) env.qual none .none (some env) 0 with scope:=relabel scope env }:Env)) _ _
 rw [Ajr]
 refine Bp4 (Afk (d:=0) rfl rfl loop (fun E=>itI.again (B:=B') (g:=g') (P:=P) (A:=A) (s:={ s3 with heap:=h₁,toks:=s3.toks + ([]:List (Str × Value)).length }) loop)) fun r s5 h5=>?_
 cases r with
 | error e=>exact h5.elim
 | ok f=>
   obtain ⟨g5,σ5,m5,hg5,R5,hm5,vs,hσ,hQ⟩:=h5
   subst hm5
   obtain ⟨g6,hg6,v6,R6⟩:=R5.Afg hσ
   have RC:=hB4 g6 A [] st _ s5 R6.toRepC hr.stack
   have gg:g'.StaysIn g6:=A3 hg5 hg6
   have gnone:∀ a o,B'.k.get? a=some o->g'.get? a=none->g6.get? a=none:=fun a o e eg=>by
     cases q:g6.get? a with
     | none=>rfl
     | some o'=>have:=R6.new a (by rw [q]; simp) (hB1.symm ▸ eg); rw [e] at this; cases this
   have snone:∀ a o,B'.k.get? a=some o->(σ5.del s₂.heap.objs.size) a=none:=fun a o e=>by
     cases q:(σ5.del s₂.heap.objs.size) a with
     | none=>rfl
     | some x=>have:=(R6.sto a x q).2.1; rw [e] at this; cases this
   have inK:∀ b o,h₁.get? b=some o->(σ1.put s₂.heap.objs.size (.list [])) b=none->¬ Z b->B'.k.get? b=some o:=fun b o e q1 q2=>(hB2 b o).mpr ⟨q1,q2,e⟩
   have locIn:∃ oL,h₁.get? env.locals=some oL/\B'.k.get? env.locals=some oL:=by
     obtain ⟨ml,⟨oL,es,ep,hL,hd,_⟩,_⟩:=R4.fr.ns
     refine ⟨oL,hL,inK _ _ hL R4.own.loc.2.2 ?_⟩
     rintro (⟨x,hx,hc⟩ | q | ⟨_,_,o,q,vs,q2⟩)
     · exact Abg R4.fr (frees x hx) hc rfl
     · exact Cl' q.symm
     · have hL':h₁.get? env.locals=some oL:=hL
       rw [hL'] at q; cases q; rw [hd] at q2; cases q2
   have celIn:∀ x c,(env.kindOf x=some .cell∨env.kindOf x=some .free)->env.cells.lookup x=some c->scope.names.lookup x≠some .free->∃ o cv,h₁.get? c=some o/\o.data=.cell cv/\B'.k.get? c=some o:=fun x c hx hc hf=>by
     obtain ⟨c',cv,q1,⟨o,q2,q3⟩,_⟩:=R4.fr.cel x hx
     rw [hc] at q1; cases q1
     refine ⟨o,cv,q2,q3,inK _ _ q2 (R4.own.cel x c hx hc).2.2 ?_⟩
     rintro (⟨y,hy,hyc⟩ | q | ⟨_,_,o',q,vs,q4⟩)
     · have:=R4.fr.apart x y c hc hyc
       subst this; exact hf hy
     · exact Ccel x c hx hc q
     · have q2':h₁.get? c=some o:=q2
       rw [q2'] at q; cases q; rw [q3] at q4; cases q4
   have RO:Rep P B g6 A st env (σ5.del s₂.heap.objs.size) m s5:=by
     refine ⟨RC,⟨?_,fun x hx=>?_,R4.fr.apart⟩,⟨?_,fun x c hx hc=>?_⟩⟩
     · obtain ⟨ml,⟨oL,es,ep,hL,hd,r⟩,q⟩:=R4.fr.ns
       obtain ⟨oL',w1,w2⟩:=locIn
       have hL':h₁.get? env.locals=some oL:=hL
       rw [hL'] at w1; cases w1
       obtain ⟨o',w3,w4,_⟩:=R6.keeps.some w2
       exact ⟨ml,⟨o',es,ep,w3,w4.trans hd,r⟩,fun x v e l=>by obtain ⟨c,a,b⟩:=q x v e l; exact ⟨c,a,b.mono gg⟩⟩
     · obtain ⟨c,cv,q1,q2,q4⟩:=R4.fr.cel x hx
       by_cases hf:scope.names.lookup x=some .free
       · obtain ⟨c',cv',w1,w2,w3⟩:=R6.fr.cel x (captb x hf)
         rw [clk x hf,q1] at w1; cases w1
         exact ⟨c,cv',q1,w2,fun v e=>w3 v ((Aru hf).trans e)⟩
       · obtain ⟨o1,cv1,w1,w2,w3⟩:=celIn x c hx q1 hf
         obtain ⟨o,q2a,q2b⟩:=q2
         have q2a':h₁.get? c=some o:=q2a
         rw [q2a'] at w1; cases w1
         obtain ⟨o',w4,w5,_⟩:=R6.keeps.some w3
         exact ⟨c,cv,q1,⟨o',w4,w5.trans q2b⟩,fun v e=>by obtain ⟨y,a,b⟩:=q4 v e; exact ⟨y,a,b.mono gg⟩⟩
     · obtain ⟨oL,w1,w2⟩:=locIn
       exact ⟨gnone _ _ w2 R4.own.loc.1,R4.own.loc.2.1,snone _ _ w2⟩
     · by_cases hf:scope.names.lookup x=some .free
       · have:=R6.own.cel x c (captb x hf) ((clk x hf).trans hc)
         exact ⟨this.1,(R4.own.cel x c hx hc).2.1,this.2.2⟩
       · obtain ⟨o,cv,w1,w2,w3⟩:=celIn x c hx hc hf
         exact ⟨gnone _ _ w3 (R4.own.cel x c hx hc).1,(R4.own.cel x c hx hc).2.1,snone _ _ w3⟩
   obtain ⟨mC,hC',_⟩:=R6.fr.ns
   rw [c2] at hC'
   have oloc:=R6.own.loc
   rw [c2] at oloc
   have:=hK g6 _ vs s5 _ C mC f (A3 hg gg) RO v6 ⟨oloc.1,Ck,oloc.2.2,Cst,Cl',Ccel⟩ hC' hQ
   exact this
theorem Amv {elt target iter:Expr} {ifs:List Expr} {cs:List Comprehension} {scope:Scope} {pos:Pos} {en:Bool} {src:Option (Addr × List V)} {Q:V->Sto->Prop} (ok:Ae1 scope fx.sc=true)
  (h:Azz P n fx en src iter σ m (fun ds σ1=>∀ acc,σ1 acc=none->ClS P n ⟨Als scope fx.sc,true⟩ en src (.ListComp elt (⟨target,iter,ifs,0⟩ :: cs) scope pos) 0 acc ds (σ1.put acc (.list [])) (Alb scope m) (fun σ2=>∃ vs,σ2 acc=some (.list vs)/\Q (.lst vs) (σ2.del acc))) X)
  (hs:∀ env x,Bo6 iter env x=pure x:=by intro _ _; rfl):Ev P n fx (.ListComp elt (⟨target,iter,ifs,0⟩ :: cs) scope pos) σ m Q X:=
 fun A st B g env s he hr hm=>by
  show wpAny _ _ (eval _ env) _ _ _
  rw [eval_ListComp]
  refine Ai6 (use:=none) (Q:=Q) he hr hm ok h hs fun g6 σ6 vs s5 acc C mC f hg R hv o hn hq=>?_
  refine ⟨mC,hn,fun h' hs'=>?_⟩
  exact ⟨g6,σ6,m,_,hg,R.Ao3 o.g o.k o.s o.st o.loc o.cel (fun b ob hb e=>(hs'.2 b hb).trans e) s5.toks,hv,rfl,hq⟩
theorem Aqm {x:Str} {p' spos:Pos} {elt target iter:Expr} {ifs:List Expr} {cs:List Comprehension} {scope:Scope} {pos:Pos} {en:Bool} {Q:Flw->Sto->A8->Prop} (ok:Ae1 scope fx.sc=true) (hx:fx.sc.names.lookup x=some .local)
  (h:Itr P n fx en iter σ m (fun ds σ1=>∀ acc,σ1 acc=none->Cl P n ⟨Als scope fx.sc,true⟩ en (.ListComp elt (⟨target,iter,ifs,0⟩ :: cs) scope pos) 0 acc ds (σ1.put acc (.list [])) (Alb scope m) (fun σ2=>∃ vs,σ2 acc=some (.list vs)/\Q .next (σ2.del acc) (m.put x (.lst vs)))) X)
  (hsw:∀ env,env.scope=fx.sc->Cc8 (.ListComp elt (⟨target,iter,ifs,0⟩ :: cs) scope pos) (some (.Name x p')) spos.line env=pure true:=by rintro ⟨⟩ rfl; rfl)
  (hs:∀ env x,Bo6 iter env x=pure x:=by intro _ _; rfl):Ex P n fx (.Assign [.Name x p'] (.ListComp elt (⟨target,iter,ifs,0⟩ :: cs) scope pos) spos) σ m Q X:=
 fun A st B g env s he hr hm=>by
  show wpAny _ _ (exec _ env) _ _ _
  rw [exec_Assign_Name_used _ _ _ _ (hsw env he.sc)]
  refine Be8 (Bo2 (Be8 ?_))
  show wpAny _ A (do let _ <- comprehension (.ListComp elt (⟨target,iter,ifs,0⟩ :: cs) scope pos) scope env _ (newList []) false (eval iter env) (some (assign (.Name x p') env))) _ _ s
  refine Be8 (Bf2 (Ai6 (use:=some (assign (.Name x p') env)) (Q:=fun v σ'=>Q .next σ' (m.put x v)) (QQ:=fun _ s'=>NP Alj P B A st env g Q .next s') he hr hm ok h hs fun g6 σ6 vs s5 acc C mC f hg R hv o hn hq=>?_) (fun _ s' hq=>Bf5 (Bf5 hq)) fun _ _ q=>q)
  refine wpAny_assign_Name (Aux he R (.inl hx) hv fun h' tk R' k1 k2=>?_)
  refine ⟨mC,?_,fun h'' hs''=>?_⟩
  · obtain ⟨oC,es,ep,q1,q2,q3⟩:=hn
    refine ⟨oC,es,ep,k1 C oC o.loc (fun y d hk hd=>Bq1 (o.cel y d hk hd)) q1,q2,q3⟩
  · exact ⟨g6,σ6,_,.next,hg,R'.Ao3 o.g o.k o.s o.st o.loc o.cel (fun b ob hb e=>(hs''.2 b hb).trans e) tk,.next,hq⟩
end
noncomputable def Am {K:Type} [DecidableEq K] (es:List (K × V)) (k:K):Option V:=(es.find? fun kv=>decide (kv.1=k)).map (·.2)
noncomputable def dput {K:Type} [DecidableEq K] (es:List (K × V)) (k:K) (v:V):List (K × V):=if es.any (fun kv=>decide (kv.1=k)) then es.map (fun kv=>if kv.1=k then (kv.1,v) else kv) else es ++ [(k,v)]
inductive DAt {prog:Program} {w:World} {K:Type} [DecidableEq K] (knd:KeyKind prog w K) (g h:Heap) (a:Addr) (es:List (K × V)):Prop
 | mk (kvs:List (K × Value)) (h1:h.DictOf knd a kvs) (h2:kvs.map (·.1)=es.map (·.1)) (h3:VRs g (kvs.map (·.2)) (es.map (·.2))) (h4:(a == Ci9)=false)
section
variable {prog:Program} {w:World} {K:Type} [DecidableEq K] {knd:KeyKind prog w K} {g:Heap}
theorem DR.at {h a o es} (x:DR knd g o es) (ho:h.get? a=some o) (hs:(a == Ci9)=false):DAt knd g h a es:=by
 obtain ⟨ents,ep,kvs,h1,h2,h3,h4,h5,h6,h7⟩:=x
 exact ⟨kvs,⟨o,ents,ep,ho,h1,h2,h3,h4,h5⟩,h6,h7,hs⟩
theorem DR.of {h:Heap} {a:Addr} {kvs:List (K × Value)} {es:List (K × V)} (x:h.DictOf knd a kvs) (h1:kvs.map (·.1)=es.map (·.1)) (h2:VRs g (kvs.map (·.2)) (es.map (·.2))):∃ o,h.get? a=some o/\DR knd g o es:=by
 obtain ⟨o,ents,ep,ho,q1,q2,q3,q4,q5⟩:=x
 exact ⟨o,ho,ents,ep,kvs,q1,q2,q3,q4,q5,h1,h2⟩
theorem Afa {kvs:List (K × Value)} {es:List (K × V)} (k:K) (h1:kvs.map (·.1)=es.map (·.1)) (h2:VRs g (kvs.map (·.2)) (es.map (·.2))):match Am es k with | none=>valueAt kvs k=none | some d=>∃ v,valueAt kvs k=some v/\VR g v d:=by
 induction kvs generalizing es with
 | nil=>
  cases es with
  | nil=>exact rfl
  | cons _ _=>cases h1
 | cons p kvs ih=>
  cases es with
  | nil=>cases h1
  | cons q es=>
   obtain ⟨a,v⟩:=p
   obtain ⟨b,d⟩:=q
   injection h1 with e1 h1
   replace e1:a=b:=e1
   subst e1
   obtain ⟨_,_,e2,h2,h3⟩:=h2.inv
   injection e2 with e2 e3
   subst e2 e3
   have ih:=ih h1 h3
   unfold Am valueAt at ih ⊢
   rw [Bk2,Bk2]
   cases (decide (a=k)) with
   | true=>exact ⟨v,rfl,h2⟩
   | false=>exact ih
theorem Alo {kvs:List (K × Value)} {es:List (K × V)} {k:K} {v:Value} {d:V} (h1:kvs.map (·.1)=es.map (·.1)) (h2:VRs g (kvs.map (·.2)) (es.map (·.2))) (hv:VR g v d) :
   (stored kvs k v).map (·.1)=(dput es k d).map (·.1)/\VRs g ((stored kvs k v).map (·.2)) ((dput es k d).map (·.2)):=by
 have Ayg:(kvs.any fun kv=>decide (kv.1=k))=es.any fun kv=>decide (kv.1=k):=by
   have e1:(kvs.any fun kv=>decide (kv.1=k))=(kvs.map (·.1)).any fun x=>decide (x=k):=by rw [Ck7]; rfl
   have e2:(es.any fun kv=>decide (kv.1=k))=(es.map (·.1)).any fun x=>decide (x=k):=by rw [Ck7]; rfl
   rw [e1,e2,h1]
 unfold stored dput
 rw [Ayg]
 by_cases q:(es.any fun kv=>decide (kv.1=k))=true
 · rw [if_pos q,if_pos q]
   clear Ayg q
   induction kvs generalizing es with
   | nil=>cases es with | nil=>exact ⟨rfl,.nil⟩ | cons _ _=>simp at h1
   | cons x kvs ih=>
    cases es with
    | nil=>simp at h1
    | cons y es=>
     obtain ⟨a,u⟩:=x
     obtain ⟨b,c⟩:=y
     simp only [Bg8,Bn0] at h1 h2
     obtain ⟨rfl,h1⟩:=h1
     replace h2:=h2.inv; obtain ⟨_,_,⟨⟩,h2,h3⟩:=h2
     ·
      obtain ⟨i1,i2⟩:=ih h1 h3
      by_cases e:a=k
      · simp only [Bg8,e,if_true]; exact ⟨by rw [i1],.cons hv i2⟩
      · simp only [Bg8,e,if_false]; exact ⟨by rw [i1],.cons h2 i2⟩
 · rw [if_neg q,if_neg q]
   refine ⟨by simp [h1],?_⟩
   rw [Bg1,Bg1]
   exact h2.append (.one hv)
end
section
variable {P:Pm} {n:Nat} {fx:Fx} {σ:Sto} {m:A8} {X:Xt}
theorem low_ne {a} (h:2 < a):(a == Ci9)=false:=by
 rw [beq_eq_false_iff_ne]; rintro rfl; exact absurd h (by decide)
theorem Abr {B g A st s a es} (R:RepC P B g A st σ s) (h:σ a=some (.A5 es)):DAt (strKind P.prog P.w) g s.heap a es:=by
 obtain ⟨_,_,o,h1,h2⟩:=R.sto a _ h; exact DR.at h2 h1 (low_ne (R.os.2 a _ h))
theorem Amy {B g A st s a es} (R:RepC P B g A st σ s) (h:σ a=some (.Aci es)):DAt (intKind P.prog P.w) g s.heap a es:=by
 obtain ⟨_,_,o,h1,h2⟩:=R.sto a _ h; exact DR.at h2 h1 (low_ne (R.os.2 a _ h))
set_option tactic.hygienic true in
theorem Ac {a es x d Q} (h:σ a=some (.A5 es)) (hk:Am es x=some d) (hq:Q d σ):Su P n (.loc a) (.str x) σ Q:=
 fun A st B g env m s o i value slice hr ho hi hm=>by
  obtain ⟨_,rfl⟩:=ho.inv; obtain ⟨_,rfl⟩:=hi.inv; rename_i tk0
  obtain ⟨kvs,h1,h2,h3,_⟩:=Abr hr.toRepC h
  obtain ⟨ops,Anz⟩:=Aab slice (.ref a) (.str x tk0)
  have hg:=Afa (g:=g) x h2 h3
  rw [hk] at hg
  obtain ⟨v,g1,g2⟩:=hg
  exact Cm0 h1.typeIs slot_dict_getitem.lookup (wpAny_getItem_of (knd:=strKind P.prog P.w) (k:=x) (by show Ci6 x (.str x tk0)=true; simp [Ci6]) h1.mapOf g1 ⟨g,σ,m,d,A2 g,hr.tok _,g2,rfl,hq⟩) Anz
theorem Akb (x:Str) (t:Tok):(strKind P.prog P.w).is x (.str x t)=true:=by show Ci6 x (.str x t)=true; simp [Ci6]
theorem Apl (x:Int) (t:Tok):(intKind P.prog P.w).is x (.int x t)=true:=by show Value.isInt x (.int x t)=true; simp [Value.isInt]
theorem Afx {a:Addr} {es:List (Str × V)} {x:Str} {v:V} {Q:Sto->Prop} (h:σ a=some (.A5 es)) (hq:Q (σ.put a (.A5 (dput es x v)))) (hl:es.length<=100000):Si P n (.loc a) (.str x) v σ Q:=
 fun A st B g env m s o i u hr ho hi hx hm=>by
  obtain ⟨_,rfl⟩:=ho.inv; obtain ⟨_,rfl⟩:=hi.inv
  obtain ⟨kvs,h1,h2,h3,_⟩:=Abr hr.toRepC h
  have hlen:kvs.length=es.length:=by simpa using congrArg Bp5 h2
  refine wpAny_setItem_pairs (knd:=strKind P.prog P.w) (Akb x _) h1 (fun h' hd hs=>?_) (by rw [hlen]; exact sz hl)
  obtain ⟨p1,p2⟩:=Alo (g:=g) (k:=x) h2 h3 hx
  obtain ⟨o',w1,w2⟩:=DR.of (g:=g) hd p1 p2
  exact ⟨g,_,m,A2 g,hr.upd (x':=.A5 (dput es x v)) h (fun b ob hb e=>(hs.2 b hb).trans e) w1 w2 _,rfl,hq⟩
theorem Atw {a:Addr} {es:List (Int × V)} {x:Int} {v:V} {Q:Sto->Prop} (h:σ a=some (.Aci es)) (hq:Q (σ.put a (.Aci (dput es x v)))) (hl:es.length<=100000):Si P n (.loc a) (.int x) v σ Q:=
 fun A st B g env m s o i u hr ho hi hx hm=>by
  obtain ⟨_,rfl⟩:=ho.inv; obtain ⟨_,rfl⟩:=hi.inv
  obtain ⟨kvs,h1,h2,h3,_⟩:=Amy hr.toRepC h
  have hlen:kvs.length=es.length:=by simpa using congrArg Bp5 h2
  refine wpAny_setItem_pairs (knd:=intKind P.prog P.w) (Apl x _) h1 (fun h' hd hs=>?_) (by rw [hlen]; exact sz hl)
  obtain ⟨p1,p2⟩:=Alo (g:=g) (k:=x) h2 h3 hx
  obtain ⟨o',w1,w2⟩:=DR.of (g:=g) hd p1 p2
  exact ⟨g,_,m,A2 g,hr.upd (x':=.Aci (dput es x v)) h (fun b ob hb e=>(hs.2 b hb).trans e) w1 w2 _,rfl,hq⟩
theorem contains_of {prog:Program} {w:World} {K:Type} [DecidableEq K] {knd:KeyKind prog w K} {A:Around} {E:Value->Shared->Prop} {s:Shared} {d:Addr} {k:K} {key:Value} {f} {Q:Bool->Shared->Prop} (Bau:knd.is k key=true) (hd:(d == Ci9)=false) (hm:s.heap.MapOf knd d f)
  (h:Q (f k).isSome { s with toks:=s.toks + 1 }):wpAny (model prog w) A (contains (.ref d) key) Q E s:=by
 unfold contains
 try with_reducible refine Bl0 ?_
 refine Be8 (Cc7 hm.typeIs Bv7.lookup ?_)
 show wpAny _ _ (if (some (Value.builtin "dict.__contains__") == some Value.none)=true then _ else _) _ E s
 rw [if_neg (by rw [Co7]; exact Bg5)]
 refine Be8 (wpAny_callSpecialUnlessNone?_slot (name:=Bf4 "__contains__") hm.typeIs Bv7
  (Br2 Bv7 hm.typeIs entry_dict_contains ?_ (args_dict_contains _ _)))
 show wpAny _ _ (dictGet d key >>= _) _ _ s
 refine Be8 (wpAny_dictGet_of Bau hm ?_)
 cases hf:f k with
 | some v=>
  rw [hf] at h
  show wpAny _ _ (ret (.bool true)) _ _ _
  exact Bf5 ⟨_,rfl,Bs0 h⟩
 | none=>
  rw [hf] at h
  show wpAny _ _ (Bi8.Dict.pendingKey? d key >>= _) _ _ _
  exact Be8 (wpAny_pendingKey_other hd (Bf5 ⟨_,rfl,Bs0 h⟩))
theorem Ag1 {a:Addr} {es:List (Str × V)} {x:Str} {Q:Bool->Sto->Prop} (h:σ a=some (.A5 es)) (hq:Q (Am es x).isSome σ):Co P n .In (.str x) (.loc a) σ Q:=
 fun A st B g env m s u v hr hu hv hm=>by
  obtain ⟨_,rfl⟩:=hu.inv; obtain ⟨_,rfl⟩:=hv.inv
  obtain ⟨kvs,h1,h2,h3,h4⟩:=Abr hr.toRepC h
  show wpAny _ _ (do return Value.bool (<- contains (.ref a) _)) _ _ s
  refine Be8 (contains_of (knd:=strKind P.prog P.w) (Akb x _) h4 h1.mapOf (Bf5 ⟨g,σ,m,_,A2 g,hr.tok _,rfl,rfl,?_⟩))
  have hg:=Afa (g:=g) x h2 h3
  cases q:Am es x with
  | none=>rw [q] at hg hq; rw [hg]; exact hq
  | some d=>rw [q] at hg hq; obtain ⟨v,g1,_⟩:=hg; rw [g1]; exact hq
theorem Ag8 {a:Addr} {es:List (Str × V)} {x:Str} {Q:Bool->Sto->Prop} (h:σ a=some (.A5 es)) (hq:Q (!(Am es x).isSome) σ):Co P n .NotIn (.str x) (.loc a) σ Q:=
 fun A st B g env m s u v hr hu hv hm=>by
  obtain ⟨_,rfl⟩:=hu.inv; obtain ⟨_,rfl⟩:=hv.inv
  obtain ⟨kvs,h1,h2,h3,h4⟩:=Abr hr.toRepC h
  show wpAny _ _ (do return Value.bool (!(<- contains (.ref a) _))) _ _ s
  refine Be8 (contains_of (knd:=strKind P.prog P.w) (Akb x _) h4 h1.mapOf (Bf5 ⟨g,σ,m,_,A2 g,hr.tok _,rfl,rfl,?_⟩))
  have hg:=Afa (g:=g) x h2 h3
  cases q:Am es x with
  | none=>rw [q] at hg hq; rw [hg]; exact hq
  | some d=>rw [q] at hg hq; obtain ⟨v,g1,_⟩:=hg; rw [g1]; exact hq
theorem Am6 {a:Addr} {es:List (Int × V)} {x:Int} {Q:Bool->Sto->Prop} (h:σ a=some (.Aci es)) (hq:Q (!(Am es x).isSome) σ):Co P n .NotIn (.int x) (.loc a) σ Q:=
 fun A st B g env m s u v hr hu hv hm=>by
  obtain ⟨_,rfl⟩:=hu.inv; obtain ⟨_,rfl⟩:=hv.inv
  obtain ⟨kvs,h1,h2,h3,h4⟩:=Amy hr.toRepC h
  show wpAny _ _ (do return Value.bool (!(<- contains (.ref a) _))) _ _ s
  refine Be8 (contains_of (knd:=intKind P.prog P.w) (Apl x _) h4 h1.mapOf (Bf5 ⟨g,σ,m,_,A2 g,hr.tok _,rfl,rfl,?_⟩))
  have hg:=Afa (g:=g) x h2 h3
  cases q:Am es x with
  | none=>rw [q] at hg hq; rw [hg]; exact hq
  | some d=>rw [q] at hg hq; obtain ⟨v,g1,_⟩:=hg; rw [g1]; exact hq
theorem Ak1 {a es x d Q} (h:σ a=some (.A5 es)) (hq:Q ((Am es x).getD d) σ):Bt P n (.builtin "dict.get") [.loc a,.str x,d] σ Q:=
 fun A st B g env m s vals hr hv hm=>by
  replace hv:=hv.inv; obtain ⟨_,_,rfl,hv,t⟩:=hv
  ·
   replace t:=t.inv; obtain ⟨_,_,rfl,hv2,t⟩:=t
   ·
    replace t:=t.inv; obtain ⟨_,_,rfl,hv3,t⟩:=t
    ·
     cases t; obtain ⟨_,rfl⟩:=hv.inv; obtain ⟨_,rfl⟩:=hv2.inv
     obtain ⟨kvs,h1,h2,h3,h4⟩:=Abr hr.toRepC h
     refine call_meetsIn Ch9 h1.typeIs F.entry_dict_get (F.args_dict_get_3 _ _ _) (meets_dict_get_default (strKind P.prog P.w) a (Akb x _) h4 _) ⟨_,h1.mapOf,?_⟩
     have hg:=Afa (g:=g) x h2 h3
     cases q:Am es x with
     | none=>rw [q] at hg hq; rw [hg]; exact ⟨g,σ,m,_,A2 g,hr.tok _,hv3,rfl,hq⟩
     | some e=>rw [q] at hg hq; obtain ⟨v,g1,g2⟩:=hg; rw [g1]; exact ⟨g,σ,m,_,A2 g,hr.tok _,g2,rfl,hq⟩
noncomputable def Ai9 {K:Type} [DecidableEq K] (es fs:List (K × V)):List (K × V):=fs.foldl (fun acc kv=>dput acc kv.1 kv.2) es
theorem Ak2 {K:Type} [DecidableEq K] {g:Heap} {kvs more:List (K × Value)} {es fs:List (K × V)} (h1:kvs.map (·.1)=es.map (·.1)) (h2:VRs g (kvs.map (·.2)) (es.map (·.2))) (h3:more.map (·.1)=fs.map (·.1)) (h4:VRs g (more.map (·.2)) (fs.map (·.2))) :
  (merged kvs more).map (·.1)=(Ai9 es fs).map (·.1)/\VRs g ((merged kvs more).map (·.2)) ((Ai9 es fs).map (·.2)):=by
 unfold merged Ai9
 induction more generalizing kvs es fs with
 | nil=>cases fs with | nil=>exact ⟨h1,h2⟩ | cons _ _=>simp at h3
 | cons x more ih=>
  cases fs with
  | nil=>simp at h3
  | cons y fs=>
   obtain ⟨a,u⟩:=x
   obtain ⟨b,c⟩:=y
   simp only [Bg8,Bn0] at h3 h4
   obtain ⟨rfl,h3⟩:=h3
   replace h4:=h4.inv; obtain ⟨_,_,⟨⟩,h4,h5⟩:=h4
   ·
    obtain ⟨p1,p2⟩:=Alo (g:=g) (k:=a) h1 h2 h4
    exact ih (kvs:=stored kvs a u) (es:=dput es a c) p1 p2 h3 h5
theorem Aqv {a b:Addr} {es fs:List (Str × V)} {Q:V->Sto->Prop} (h:σ a=some (.A5 es)) (hb:σ b=some (.A5 fs)) (hab:a≠b) (hq:Q .none (σ.put a (.A5 (Ai9 es fs)))) (hl:es.length + fs.length<=100000):Bt P n (.builtin "dict.update") [.loc a,.loc b] σ Q:=
 fun A st B g env m s vals hr hv hm=>by
  replace hv:=hv.inv; obtain ⟨_,_,rfl,hv,t⟩:=hv
  ·
   replace t:=t.inv; obtain ⟨_,_,rfl,hv2,t⟩:=t
   ·
    cases t; obtain ⟨_,rfl⟩:=hv.inv; obtain ⟨_,rfl⟩:=hv2.inv
    obtain ⟨kvs,h1,h2,h3,h4⟩:=Abr hr.toRepC h
    obtain ⟨kvs2,k1,k2,k3,k4⟩:=Abr hr.toRepC hb
    have l1:kvs.length=es.length:=by simpa using congrArg Bp5 h2
    have l2:kvs2.length=fs.length:=by simpa using congrArg Bp5 k2
    refine call_meetsIn F.slot_dict_update h1.typeIs F.entry_dict_update (F.args_dict_update_2 _ _) (meets_dict_update (strKind P.prog P.w) a b hab k4) ⟨kvs,kvs2,h1,k1,by rw [l1,l2]; exact sz hl,fun h' hd ho hs=>?_⟩
    obtain ⟨p1,p2⟩:=Ak2 (g:=g) h2 h3 k2 k3
    obtain ⟨o',w1,w2⟩:=DR.of (g:=g) hd p1 p2
    exact ⟨g,_,m,_,A2 g,hr.upd (x':=.A5 (Ai9 es fs)) h (fun b ob hb e=>(hs.2 b hb).trans e) w1 w2 s.toks,.none,rfl,hq⟩
noncomputable def deq (es fs:List (Str × V)):Bool:=es.length == fs.length && es.all fun kv=>decide (Am fs kv.1=some kv.2)
theorem Anm {a b es fs Q} (h:σ a=some (.A5 es)) (hb:σ b=some (.A5 fs)) (d1:∀ kv∈es,kv.2.dat=true/\kv.2.dep<=40) (d2:∀ kv∈fs,kv.2.dat=true) (hq:Q (!(deq es fs)) σ):Co P n .NotEq (.loc a) (.loc b) σ Q:=
 fun A st B g env m s u v hr hu hv hm=>by
  obtain ⟨_,rfl⟩:=hu.inv; obtain ⟨_,rfl⟩:=hv.inv
  obtain ⟨kvs,h1,h2,h3,h4⟩:=Abr hr.toRepC h
  obtain ⟨kvs2,k1,k2,k3,k4⟩:=Abr hr.toRepC hb
  have l1:kvs.length=es.length:=by simpa using congrArg Bp5 h2
  have l2:kvs2.length=fs.length:=by simpa using congrArg Bp5 k2
  have hits:KeqHits A.in1 s kvs2 kvs (es.all fun kv=>decide (Am fs kv.1=some kv.2)):=by
   clear h1 l1 hq h
   induction kvs generalizing es with
   | nil=>cases es with | nil=>exact .nil | cons _ _=>simp at h2
   | cons x kvs ih=>
    cases es with
    | nil=>simp at h2
    | cons y es=>
     obtain ⟨k,u⟩:=x
     obtain ⟨k',d⟩:=y
     simp only [Bg8,Bn0] at h2 h3
     obtain ⟨rfl,h2⟩:=h2
     replace h3:=h3.inv; obtain ⟨_,_,⟨⟩,h3,h5⟩:=h3
     ·
      have ih':=ih (es:=es) (fun kv hkv=>d1 kv (.tail _ hkv)) h2 h5
      have hg:=Afa (g:=g) k k2 k3
      rw [Bv9]
      cases q:Am fs k with
      | none=>
       rw [q] at hg
       rw [decide_eq_false (by simp),Co3]
       exact .miss hg
      | some e=>
       rw [q] at hg
       obtain ⟨y,g1,g2⟩:=hg
       have hd:=d1 (k,d) (.head _)
       have he:e.dat=true:=by
        unfold Am at q
        obtain ⟨kv,w1,w2⟩:=Bn6.mp q
        rw [<- w2]; exact d2 kv (Cc3 w1)
       have:=VR.Axb d e A.in1 s u y (h3.mono hr.fz) (g2.mono hr.fz) hd.1 he (ru1 hm.2.1 (Be7 (Bt3 ..) (Be7 hd.2 (by decide))))
       rw [show decide (some e=some d)=decide (d=e) from by by_cases w:d=e <;> simp [w,eq_comm]]
       exact .hit g1 this ih'
  refine keq_ne h4 k4 h1 k1 (ru (k:=0) hm.2.1 (by decide)) (fun _=>hits) ⟨g,σ,m,_,A2 g,hr,rfl,rfl,?_⟩
  rw [l1,l2]; exact hq
end
section
variable {P:Pm} {B:Bs} {g:Heap} {A:Around} {st:List Env} {env:Env} {σ:Sto} {m:A8} {s:Shared}
theorem Rep.adopt (R:Rep P B g A st env σ m s) {a} (h1:g.get? a=none) (h2:B.k.get? a=none) (h3:σ a=none) (h4:∀ e∈st,e.frame≠some a) (h5:a≠env.locals) (h6:∀ x c,(env.kindOf x=some .cell∨env.kindOf x=some .free)->env.cells.lookup x=some c->c≠a)
   (h7:2 < a) {h'} (hs:∀ b o,b≠a->s.heap.get? b=some o->h'.get? b=some o) {o x} (ho:h'.get? a=some o) (hx:OR P g o x) (tk:Nat):Rep P B g A st env (σ.put a x) m { s with heap:=h',toks:=tk }:=by
 have R1:=R.Ao3 h1 h2 h3 h4 h5 h6 hs tk
 refine ⟨⟨R1.pc,R1.stack,R1.stk,R1.keeps,R1.fz,R1.ext,R1.new,fun b y e=>?_,R1.gens,R1.drawn,R1.os.1,fun b y e=>?_⟩,R1.fr,⟨⟨R1.own.loc.1,R1.own.loc.2.1,?_⟩,fun y c hy hc=>⟨(R1.own.cel y c hy hc).1,(R1.own.cel y c hy hc).2.1,?_⟩⟩⟩
 · by_cases hb:b=a
   · subst hb; rw [Sto.A0] at e; cases e; exact ⟨h1,h2,o,ho,hx⟩
   · rw [Sto.A4 _ _ hb] at e; exact R1.sto b y e
 · by_cases hb:b=a
   · subst hb; exact h7
   · rw [Sto.A4 _ _ hb] at e; exact R1.os.2 b y e
 · rw [Sto.A4 _ _ (Bq1 h5)]; exact R1.own.loc.2.2
 · rw [Sto.A4 _ _ (h6 y c hy hc)]; exact (R1.own.cel y c hy hc).2.2
end
inductive PrR {prog:Program} {w:World} {K:Type} [DecidableEq K] (knd:PySem.KeyKind prog w K) (g:Heap):List (Value × Value)->List (K × V)->Prop
 | nil:PrR knd g [] []
 | cons {x:K} {key v:Value} {d:V} {vs:List (Value × Value)} {es:List (K × V)}:knd.is x key=true->VR g v d->PrR knd g vs es->PrR knd g ((key,v) :: vs) ((x,d) :: es)
theorem PrR.Av6 {prog:Program} {w:World} {K:Type} [DecidableEq K] {knd:PySem.KeyKind prog w K} {g:Heap} {vs:List (Value × Value)} {es:List (K × V)} (h:PrR knd g vs es):∃ kvs,Carries knd vs kvs/\kvs.map (·.1)=es.map (·.1)/\VRs g (kvs.map (·.2)) (es.map (·.2)):=by
 induction h with
 | nil=>exact ⟨[],trivial,rfl,.nil⟩
 | @cons x key v d vs es hk a _ ih=>
  obtain ⟨kvs,h1,h2,h3⟩:=ih
  exact ⟨(x,v) :: kvs,⟨hk,rfl,h1⟩,by simp [h2],.cons a h3⟩
noncomputable def Aep (pos:Pos) (env:Env):List (Option Expr)->List Expr->List (Sem Value × Sem Value)
 | some k :: ks,v :: vs=>(eval k env,do let x <- eval v env; Cb6 pos; pure x) :: Aep pos env ks vs
 | _,_=>[]
noncomputable abbrev Ayn {K:Type} [DecidableEq K] (P:Pm) (knd:PySem.KeyKind P.prog P.w K) (n:Nat) (fx:Fx) (pos:Pos) (ks:List (Option Expr)) (vs:List Expr) (σ:Sto) (m:A8) (Q:List (K × V)->Sto->Prop) (X:Xt):Prop:=
 JS (PrR knd) P n fx (fun env=>evalPairs (Aep pos env ks vs)) σ m (fun v σ' m'=>m'=m/\Q v σ') X
section
variable {P:Pm} {n:Nat} {fx:Fx} {σ:Sto} {m:A8} {X:Xt}
theorem Aph {K:Type} [DecidableEq K] {knd:PySem.KeyKind P.prog P.w K} {pos:Pos} {Q:List (K × V)->Sto->Prop} (h:Q [] σ):Ayn P knd n fx pos [] [] σ m Q X:=
 fun A st B g env s he hr hm=>evalPairs_nil ⟨g,σ,m,[],A2 g,hr,.nil,rfl,h⟩
theorem Ajt {K:Type} [DecidableEq K] {knd:PySem.KeyKind P.prog P.w K} {pos:Pos} {k v:Expr} {ks:List (Option Expr)} {vs:List Expr} {Q:List (K × V)->Sto->Prop} (h:Ev P n fx k σ m (fun c σ1=>∃ x,(∀ g u,VR g u c->knd.is x u=true)/\Ev P n fx v σ1 m (fun d σ2=>Ayn P knd n fx pos ks vs σ2 m (fun es σ3=>Q ((x,d) :: es) σ3) X) X) X):Ayn P knd n fx pos (some k :: ks) (v :: vs) σ m Q X:=
 fun A st B g env s he hr hm=>by
  show wpAny _ _ (evalPairs ((eval k env,do let x <- eval v env; Cb6 pos; pure x) :: Aep pos env ks vs)) _ _ s
  refine evalPairs_cons (Bf2 (h A st B g env s he hr hm) (fun kv s1 qM=>?_) fun _ _ q=>q)
  obtain ⟨g1,σ1,m1,c,hg1,hr1,hv1,hm1,x,e1,hq1⟩:=qM
  subst hm1
  refine Be8 (Bf2 (hq1 A st B g1 env s1 he hr1 hm) (fun vv s2 qM=>?_) fun _ _ q=>q.mono hg1 fun _ _ _ x=>x)
  obtain ⟨g2,σ2,m2,d,hg2,hr2,hv2,hm2,hq2⟩:=qM
  subst hm2
  refine Be8 (Bo2 (Bf5 ?_))
  refine Bf2 (hq2 A st B g2 env s2 he hr2 hm) (fun ps s3 qM=>?_) fun _ _ q=>q.mono (A3 hg1 hg2) fun _ _ _ x=>x
  obtain ⟨g3,σ3,m3,es,hg3,hr3,hv3,hm3,hq3⟩:=qM
  exact ⟨g3,σ3,m3,_,A3 hg1 (A3 hg2 hg3),hr3,.cons (e1 _ _ hv1) (hv2.mono hg3) hv3,hm3,hq3⟩
theorem Amd {K:Type} [DecidableEq K] (knd:PySem.KeyKind P.prog P.w K) (mk:List (K × V)->O) (hmk:∀ g o es,DR knd g o es->OR P g o (mk es)) {keys:List (Option Expr)} {values:List Expr} {pos:Pos} {Q:V->Sto->Prop} (h:Ayn P knd n fx pos keys values σ m (fun es σ1=>∀ a,σ1 a=none->Q (.loc a) (σ1.put a (mk (Ai9 [] es)))) X)
  (Aec:∀ env,(Ck4 keys env).zip ((evalEach values env).map fun v=>do let x <- v; Cb6 pos; pure x)=(Aep pos env keys values).map fun p=>(some p.1,p.2))
  (h0:∀ env,Aep pos env keys values≠[]) (hlen:∀ env,(Aep pos env keys values).length<=15):Ev P n fx (.Dict keys values pos) σ m Q X:=
 fun A st B g env s he hr hm=>by
  have R1:=hr.stays (Aa3 s.heap { cls:=.type "dict",data:=.dict #[] }) s.toks
  obtain ⟨B',hB1,RB,hB2,hB3,hB4⟩:=R1.step
  have fr:∀ h:Heap,Keeps h s.heap->h.get? s.heap.objs.size=none:=fun h k=>Aa0 k (Ak _)
  have a1:g.get? s.heap.objs.size=none:=Aa2 hr.fz (Ak _)
  have a2:B.k.get? s.heap.objs.size=none:=fr _ hr.keeps
  have a3:σ s.heap.objs.size=none:=hr.Aas (Ak _)
  have a5:s.heap.objs.size≠env.locals:=by
   obtain ⟨ml,⟨oL,es,ep,hL,_⟩,_⟩:=hr.fr.ns
   exact Bq0 (Bl2 hL)
  have a6:∀ x c,(env.kindOf x=some .cell∨env.kindOf x=some .free)->env.cells.lookup x=some c->c≠s.heap.objs.size:=fun x c hx hc=>by
   obtain ⟨c',cv,w1,w2,_⟩:=hr.fr.cel x hx
   rw [hc] at w1; cases w1
   exact Bl8 w2.lt
  have k0:B'.k.get? s.heap.objs.size=some { cls:=.type "dict",data:=.dict #[] }:=hB2 _ _ (Bi1 _ rfl) a3 (by
   rintro (q | ⟨x,hx,hc⟩)
   · exact a5 q
   · exact a6 x _ hx hc rfl)
  refine wpAny_Dict_pairs (knd:=knd) (Aec env) (h0 env) (hlen env) (Bf2 (h A st B' g env _ he RB hm) (fun vs s1 qM=>?_) fun _ _ q=>q.Aip hB3 hB4)
  obtain ⟨g1,σ1,m1,es,hg1,hr1,hv1,hm1,hq1⟩:=qM
  subst hm1
  obtain ⟨kvs,c1,c2,c3⟩:=hv1.Av6
  have ho:s1.heap.get? s.heap.objs.size=some { cls:=.type "dict",data:=.dict #[] }:=by
   rcases hr1.keeps _ _ k0 with q | ⟨f,_⟩
   · exact q
   · have q:Value.type "dict"=Value.type "frame":=f.1; exact absurd q (by decide)
  refine ⟨kvs,c1,⟨_,_,_,ho,⟨rfl,rfl,rfl⟩,rfl,fun e he=>by simp at he,.nil,by simp⟩,fun h' hd hs=>?_⟩
  have g0:g1.get? s.heap.objs.size=none:=by
   cases q:g1.get? s.heap.objs.size with
   | none=>rfl
   | some o=>have:=hr1.new _ (by rw [q]; simp) (by rw [hB1]; exact a1); rw [k0] at this; cases this
  have s0:σ1 s.heap.objs.size=none:=by
   cases q:σ1 s.heap.objs.size with
   | none=>rfl
   | some x=>have:=(hr1.sto _ _ q).2.1; rw [k0] at this; cases this
  obtain ⟨p1,p2⟩:=Ak2 (K:=K) (kvs:=[]) (es:=[]) rfl .nil c2 c3
  obtain ⟨o',w1,w2⟩:=DR.of (g:=g1) hd p1 p2
  have R2:=(hB4 _ _ _ _ hr1).adopt (x:=mk (Ai9 [] es)) g0 a2 s0 (hr.stk.Azt (Ak _)) a5 a6 hr.low (fun b o hb e=>(hs.2 b hb).trans e) w1 (hmk _ _ _ w2) (s1.toks + vs.length)
  exact ⟨g1,_,m1,_,hg1,R2,.loc _,rfl,hq1 _ s0⟩
noncomputable abbrev Prs (P:Pm) (n:Nat) (fx:Fx) (pos:Pos) (ks:List (Option Expr)) (vs:List Expr) (σ:Sto) (m:A8) (Q:List (Str × V)->Sto->Prop) (X:Xt):Prop:=Ayn P (PySem.strKind P.prog P.w) n fx pos ks vs σ m Q X
theorem Asb {pos:Pos} {k v:Expr} {ks:List (Option Expr)} {vs:List Expr} {Q:List (Str × V)->Sto->Prop} (h:Ev P n fx k σ m (fun c σ1=>∃ x,c=.str x/\Ev P n fx v σ1 m (fun d σ2=>Prs P n fx pos ks vs σ2 m (fun es σ3=>Q ((x,d) :: es) σ3) X) X) X):Prs P n fx pos (some k :: ks) (v :: vs) σ m Q X:=
 Ajt (Ag h fun c σ1 qE=>by obtain ⟨x,e,q⟩:=qE; exact ⟨x,fun g u r=>by subst e; obtain ⟨_,rfl⟩:=r.inv; exact Akb x _,q⟩)
theorem Awd {keys values pos Q} (h:Prs P n fx pos keys values σ m (fun es σ1=>∀ a,σ1 a=none->Q (.loc a) (σ1.put a (.A5 (Ai9 [] es)))) X)
  (Aec:∀ env,(Ck4 keys env).zip ((evalEach values env).map fun v=>do let x <- v; Cb6 pos; pure x)=(Aep pos env keys values).map fun p=>(some p.1,p.2):=by intro _; rfl)
  (h0:∀ env,Aep pos env keys values≠[]:=by intro _; exact Bs2 _ _) (hlen:∀ env,(Aep pos env keys values).length<=15:=by intro _; exact Bi6 rfl):Ev P n fx (.Dict keys values pos) σ m Q X:=
 Amd (PySem.strKind P.prog P.w) .A5 (fun _ _ _ x=>x) h Aec h0 hlen
theorem Atq {k v:Expr} {pos:Pos} {Q:V->Sto->Prop} (h:Ev P n fx k σ m (fun c σ1=>∃ x,c=.int x/\Ev P n fx v σ1 m (fun d σ2=>∀ a,σ2 a=none->Q (.loc a) (σ2.put a (.Aci [(x,d)]))) X) X)
  (Aec:∀ env,(Ck4 [some k] env).zip ((evalEach [v] env).map fun v=>do let x <- v; Cb6 pos; pure x)=(Aep pos env [some k] [v]).map fun p=>(some p.1,p.2):=by intro _; rfl):Ev P n fx (.Dict [some k] [v] pos) σ m Q X:=
 Amd (intKind P.prog P.w) .Aci (fun _ _ _ x=>x) (Ajt (Ag h fun c σ1 qF=>by obtain ⟨x,e,q⟩:=qF; exact ⟨x,fun g u r=>by subst e; obtain ⟨_,rfl⟩:=r.inv; exact Apl x _,Ag q fun d σ2 q=>Aph q⟩)) Aec (fun _=>Bs2 _ _) fun _=>Bi6 rfl
theorem Aiy {pos Q} (h:∀ a,σ a=none->Q (.loc a) (σ.put a (.A5 []))):Ev P n fx (.Dict [] [] pos) σ m Q X:=
 fun A st B g env s he hr hm=>by
  show wpAny _ _ (eval (.Dict [] [] pos) env) _ _ s
  rw [eval_Dict_empty]
  refine Be8 (Bo2 (Bn8 ?_ (Bi4 _)))
  obtain ⟨hn,R2⟩:=hr.Ac3 (x:=.A5 []) (Aa3 s.heap _) (Bh5 _) (Bi1 s.heap (o:={ cls:=.type "dict",data:=.dict #[] }) rfl) ⟨#[],0,[],⟨rfl,rfl,rfl⟩,rfl,fun e he=>by simp at he,.nil,by simp,rfl,.nil⟩ s.toks
  exact ⟨g,_,m,_,A2 g,R2,.loc _,rfl,h _ hn⟩
theorem Al4 {pos Q} (h:∀ a,σ a=none->Q (.loc a) (σ.put a (.Ad []))):Ev P n fx (.Dict [] [] pos) σ m Q X:=
 fun A st B g env s he hr hm=>by
  show wpAny _ _ (eval (.Dict [] [] pos) env) _ _ s
  rw [eval_Dict_empty]
  refine Be8 (Bo2 (Bn8 ?_ (Bi4 _)))
  obtain ⟨hn,R2⟩:=hr.Ac3 (x:=.Ad []) (Aa3 s.heap _) (Bh5 _) (Bi1 s.heap (o:={ cls:=.type "dict",data:=.dict #[] }) rfl) ⟨#[],0,[],⟨rfl,rfl,rfl⟩,rfl,rfl,fun e he=>by simp at he,by simp,rfl,.nil⟩ s.toks
  exact ⟨g,_,m,_,A2 g,R2,.loc _,rfl,h _ hn⟩
theorem Aed {g} {xs:List (V × Addr × Value)} {es:List (V × V)} (k:V) (h1:xs.map (·.1)=es.map (·.1)) (h2:VRs g (xs.map (·.2.2)) (es.map (·.2))):match Am es k with | none=>atKey xs k=none | some d=>∃ p,atKey xs k=some p/\VR g p.2 d:=by
 induction xs generalizing es with
 | nil=>
  cases es with
  | nil=>exact rfl
  | cons _ _=>cases h1
 | cons p xs ih=>
  cases es with
  | nil=>cases h1
  | cons q es=>
   obtain ⟨a,v⟩:=p
   obtain ⟨b,d⟩:=q
   injection h1 with e1 h1
   replace e1:a=b:=e1
   subst e1
   obtain ⟨_,_,e2,h2,h3⟩:=h2.inv
   injection e2 with e2 e3
   subst e2 e3
   have ih:=ih h1 h3
   unfold Am atKey at ih ⊢
   rw [Bk2,Bk2]
   cases (decide (a=k)) with
   | true=>exact ⟨v,rfl,h2⟩
   | false=>exact ih
inductive TAt (P:Pm) (g h:Heap) (a:Addr) (es:List (V × V)):Prop
 | mk (xs:List (V × Addr × Value)) (h1:h.DictOfH (Ahm P.prog P.w) a xs) (h2:∀ x∈xs,(Ahm P.prog P.w).is g x.1 x.2.1) (h3:xs.map (·.1)=es.map (·.1)) (h4:VRs g (xs.map (·.2.2)) (es.map (·.2))) (h5:(a == Ci9)=false)
theorem Aea {B g A st s a es} (R:RepC P B g A st σ s) (h:σ a=some (.Ad es)):TAt P g s.heap a es:=by
 obtain ⟨_,_,o,h1,ents,ep,xs,q1,q2,q3,q4,q5,q6,q7⟩:=R.sto a _ h
 exact ⟨xs,⟨o,ents,ep,h1,q1,q2,q3,fun x hx=>⟨(q4 x hx).1.mono R.fz,(q4 x hx).2⟩,q5⟩,q4,q6,q7,low_ne (R.os.2 a _ h)⟩
theorem Al3 {prog:Program} {w:World} {K:Type} [DecidableEq K] {knd:HeapKind prog w K} {A:Around} {E:Value->Shared->Prop} {s:Shared} {d a:Addr} {k:K} {xs:List (K × Addr × Value)} {Q:Bool->Shared->Prop} (hu:knd.room A.in1) (Bau:knd.is s.heap k a) (hd:(d == Ci9)=false) (hm:s.heap.DictOfH knd d xs)
  (h:Q (atKey xs k).isSome { s with toks:=s.toks + knd.draws k }):wpAny (model prog w) A (contains (.ref d) (.ref a)) Q E s:=by
 unfold contains
 try with_reducible refine Bl0 ?_
 refine Be8 (Cc7 hm.typeIs Bv7.lookup ?_)
 show wpAny _ _ (if (some (Value.builtin "dict.__contains__") == some Value.none)=true then _ else _) _ E s
 rw [if_neg (by rw [Co7]; exact Bg5)]
 refine Be8 (wpAny_callSpecialUnlessNone?_slot (name:=Bf4 "__contains__") hm.typeIs Bv7
  (Br2 Bv7 hm.typeIs entry_dict_contains ?_ (args_dict_contains _ _)))
 show wpAny _ _ (dictGet d (.ref a) >>= _) _ _ s
 refine Be8 (wpAny_dictGet_heap hu Bau hm ?_)
 cases hf:atKey xs k with
 | some p=>
  rw [hf] at h
  show wpAny _ _ (ret (.bool true)) _ _ _
  exact Bf5 ⟨_,rfl,Bs0 h⟩
 | none=>
  rw [hf] at h
  show wpAny _ _ (Bi8.Dict.pendingKey? d (.ref a) >>= _) _ _ _
  exact Be8 (wpAny_pendingKey_other hd (Bf5 ⟨_,rfl,Bs0 h⟩))
theorem Aq1 {A} (hm:Bg A n):(Ahm P.prog P.w).room A.in1:=by
 show A.units + 1 + 8 < _
 exact ru1 hm.2.1 (by decide)
theorem Att {a:Addr} {es:List (V × V)} {ks:List V} {Q:Bool->Sto->Prop} (h:σ a=some (.Ad es)) (hk:V.keys ks=true) (hdp:V.Bc ks<=7) (hq:Q (Am es (.tup ks)).isSome σ):Co P n .In (.tup ks) (.loc a) σ Q:=
 fun A st B g env m s u v hr hu hv hm=>by
  obtain ⟨_,rfl⟩:=hv.inv
  have hu':=hu.mono hr.fz
  obtain ⟨kx,items,rfl,_,_⟩:=hu.isTup
  obtain ⟨xs,h1,_,h2,h3,h4⟩:=Aea hr.toRepC h
  show wpAny _ _ (do return Value.bool (<- contains (.ref a) _)) _ _ s
  refine Be8 (Al3 (knd:=Ahm P.prog P.w) (k:=.tup ks) (Aq1 hm) ⟨hu',hk,Bg3 hdp⟩ h4 h1 (Bf5 ⟨g,σ,m,_,A2 g,hr.tok _,rfl,rfl,?_⟩))
  have hg:=Aed (g:=g) (.tup ks) h2 h3
  cases q:Am es (.tup ks) with
  | none=>rw [q] at hg hq; rw [hg]; exact hq
  | some d=>rw [q] at hg hq; obtain ⟨v,g1,_⟩:=hg; rw [g1]; exact hq
theorem Ale {a:Addr} {es:List (V × V)} {ks:List V} {Q:Bool->Sto->Prop} (h:σ a=some (.Ad es)) (hk:V.keys ks=true) (hdp:V.Bc ks<=7) (hq:Q (!(Am es (.tup ks)).isSome) σ):Co P n .NotIn (.tup ks) (.loc a) σ Q:=
 fun A st B g env m s u v hr hu hv hm=>by
  obtain ⟨_,rfl⟩:=hv.inv
  have hu':=hu.mono hr.fz
  obtain ⟨kx,items,rfl,_,_⟩:=hu.isTup
  obtain ⟨xs,h1,_,h2,h3,h4⟩:=Aea hr.toRepC h
  show wpAny _ _ (do return Value.bool (!(<- contains (.ref a) _))) _ _ s
  refine Be8 (Al3 (knd:=Ahm P.prog P.w) (k:=.tup ks) (Aq1 hm) ⟨hu',hk,Bg3 hdp⟩ h4 h1 (Bf5 ⟨g,σ,m,_,A2 g,hr.tok _,rfl,rfl,?_⟩))
  have hg:=Aed (g:=g) (.tup ks) h2 h3
  cases q:Am es (.tup ks) with
  | none=>rw [q] at hg hq; rw [hg]; exact hq
  | some d=>rw [q] at hg hq; obtain ⟨v,g1,_⟩:=hg; rw [g1]; exact hq
theorem Ae8 {a es ks d Q} (h:σ a=some (.Ad es)) (hk:V.keys ks=true) (hdp:V.Bc ks<=7) (hd:Am es (.tup ks)=some d) (hq:Q d σ):Su P n (.loc a) (.tup ks) σ Q:=
 fun A st B g env m s o i value slice hr ho hi hm=>by
  obtain ⟨_,rfl⟩:=ho.inv
  have hi':=hi.mono hr.fz
  obtain ⟨kx,items,rfl,_,_⟩:=hi.isTup
  obtain ⟨xs,h1,_,h2,h3,h4⟩:=Aea hr.toRepC h
  obtain ⟨ops,Anz⟩:=Aab slice (.ref a) (.ref kx)
  have hg:=Aed (g:=g) (.tup ks) h2 h3
  rw [hd] at hg
  obtain ⟨p,g1,g2⟩:=hg
  exact Cm0 h1.typeIs slot_dict_getitem.lookup (wpAny_getItem_heap (knd:=Ahm P.prog P.w) (k:=.tup ks) (Aq1 hm) ⟨hi',hk,Bg3 hdp⟩ h1 g1 ⟨g,σ,m,d,A2 g,hr.tok _,g2,rfl,hq⟩) Anz
theorem Amm {a es ks v Q} (h:σ a=some (.Ad es)) (hk:V.keys ks=true) (hdp:V.Bc ks<=7) (hd:Am es (.tup ks)=none) (hq:Q (σ.put a (.Ad (es ++ [(.tup ks,v)])))) (hl:es.length<=100000):Si P n (.loc a) (.tup ks) v σ Q:=
 fun A st B g env m s o i u hr ho hi hx hm=>by
  obtain ⟨_,rfl⟩:=ho.inv
  have hi0:=hi
  have hi':=hi.mono hr.fz
  obtain ⟨kx,items,rfl,_,_⟩:=hi.isTup
  obtain ⟨xs,h1,hin,h2,h3,h4⟩:=Aea hr.toRepC h
  have hlen:xs.length=es.length:=by simpa using congrArg Bp5 h2
  have hg:=Aed (g:=g) (.tup ks) h2 h3
  rw [hd] at hg
  refine wpAny_setItem_heap (knd:=Ahm P.prog P.w) (k:=.tup ks) (Aq1 hm) ⟨hi',hk,Bg3 hdp⟩ h1 (fun h' hdo hs=>?_) (by rw [hlen]; exact sz hl)
  rw [storedH_new hg] at hdo
  obtain ⟨o',ents,ep,w1,w2,w3,w4,w5,w6⟩:=hdo
  refine ⟨g,_,m,A2 g,hr.upd (x':=.Ad (es ++ [(.tup ks,v)])) h (fun b ob hb e=>(hs.2 b hb).trans e) w1 ⟨ents,ep,_,w2,w3,w4,fun x hx'=>?_,w6,by simp [h2],?_⟩ _,rfl,hq⟩
  · rcases Bh6.mp hx' with q | q
    · exact hin x q
    · rw [Bf6.mp q]; exact ⟨hi0,hk,Bg3 hdp⟩
  · rw [Bg1,Bg1]; exact h3.append (.one hx)
theorem Ap7 {a es ks Q} (h:σ a=some (.Ad es)) (hk:V.keys ks=true) (hdp:V.Bc ks<=7) (hq:Q ((Am es (.tup ks)).getD .none) σ):Bt P n (.builtin "dict.get") [.loc a,.tup ks] σ Q:=
 fun A st B g env m s vals hr hv hm=>by
  replace hv:=hv.inv; obtain ⟨_,_,rfl,hv,t⟩:=hv
  ·
   replace t:=t.inv; obtain ⟨_,_,rfl,hv2,t⟩:=t
   ·
    cases t; obtain ⟨_,rfl⟩:=hv.inv
    have hi':=hv2.mono hr.fz
    obtain ⟨kx,items,rfl,_,_⟩:=hv2.isTup
    obtain ⟨xs,h1,hin,h2,h3,h4⟩:=Aea hr.toRepC h
    refine call_meetsIn Ch9 h1.typeIs F.entry_dict_get (F.args_dict_get_2 _ _) (meetsH_dict_get (Ahm P.prog P.w) a kx h4) ⟨Aq1 hm,.tup ks,xs,⟨hi',hk,Bg3 hdp⟩,h1,?_⟩
    have hg:=Aed (g:=g) (.tup ks) h2 h3
    cases q:Am es (.tup ks) with
    | none=>rw [q] at hg hq; rw [hg]; exact ⟨g,σ,m,_,A2 g,hr.tok _,.none,rfl,hq⟩
    | some e=>rw [q] at hg hq; obtain ⟨p,g1,g2⟩:=hg; rw [g1]; exact ⟨g,σ,m,_,A2 g,hr.tok _,g2,rfl,hq⟩
end
section
variable {prog:Program} {w:World} {A:Around} {E:Value->Shared->Prop} {h:Heap} {g:Array GenState} {d:Drawn} {t:Nat} {os:OsState}
variable {nm q:Str} {C N:Addr} {bs bm:List Value} {Av2:Bool} {sn:List Str} {sub:List Value} {ab:Bool} {col:Option Bool} {dd:Option Addr} {k0 k1 k2 k3 k5:Option Value}
theorem Ano (Bas:(Value.ref C :: bm).contains (.type "Exception")=true) {rest Q} (hC:h.get? C=some (Ck3 nm q C N bs bm Av2 sn sub ab col dd k0 k1 k2 k3 k5 "Exception.__new__"))
  {M} (hq:Q () ⟨h,g,d,t,os⟩):wpAny M A (Co6 "Exception.__new__" ⟨.ref C :: rest,[]⟩) Q E ⟨h,g,d,t,os⟩:=by
 have F:=Bw1
 have Bdn:=F.noStar
 simp only [Co6,F.newKind,F.newSplit,F.newRow]
 repeat (first | refine Bp3 hC ?_ | (refine Bu2 hC ?_; rw [Bas]) | refine wpAny_staticBase_exc hC ?_ | refine wpAny_madeBy_exc hC ?_ | refine Bz1 (by rw [bne_self_eq_false]; exact Bg5) ?_ | wp_step)
 exact hq
theorem Bdk {R} (hcB:(Value.ref C :: bm).contains (.type "Exception")=true) (hcA:(Value.ref C :: bm).contains (.type "AttributeError")=false) (hcN:(Value.ref C :: bm).contains (.type "NameError")=false)
  {rest} (hC:h.get? C=some (Ck3 nm q C N bs bm Av2 sn sub ab col dd k0 k1 k2 k3 k5 "Exception.__new__"))
  (hq:R (.ok (.ret (.ref (h.objs.size + 1)))) ⟨(h.push { cls:=.type "tuple",data:=.seq rest.toArray }).push
   { cls:=.ref C,data:=.fields #[.ref h.objs.size,.none,.none,.none,.bool false,.none] },g,d,t,os⟩) (Awx:rest.length<=sizeLine) :
  Cb7 (model prog w) A (.builtin "Exception.__new__" ⟨.ref C :: rest,[]⟩) R ⟨h,g,d,t,os⟩:=by
 have F:=Bw1
 have Bcy:=F.ends
 refine PySem.codeAny_builtinAt F.entry ?_
 unfold Bi8.«BaseException.__new__»
 refine PySem.wpAt_bind ?_
 show PySem.wpAt _ _ _ (stack >>= _) _ _ _
 refine PySem.wpAt_bind (PySem.wpAt_stack fun p below=>PySem.wpAt_of_wpAny ?_)
 wp_walk
 refine PySem.wpAt_of_wpAny ?_
 rw [F.owner]
 repeat (first | with_reducible refine wpAny_madeHere_exc F.canon hC ?_ | with_reducible refine Bp3 hC ?_ | (with_reducible refine Bu2 hC ?_; first | rewrite [hcB] | rewrite [hcA] | rewrite [hcN]) | wp_step)
 show R _ _
 rw [Bt9]
 exact hq
theorem Bbt {K rest fI Q} (X:K.In h) (hi:findIn K (.ref C) "__init__"=some (some (.ref fI))) (hf:typeIn K (.ref fI)=some (.type "function"))
   (hcB:(Value.ref C :: bm).contains (.type "Exception")=true) (hcA:(Value.ref C :: bm).contains (.type "AttributeError")=false) (hcN:(Value.ref C :: bm).contains (.type "NameError")=false)
   (hC:h.get? C=some (Ck3 nm q C N bs bm Av2 sn sub ab col dd k0 k1 k2 k3 k5 "Exception.__new__"))
   (hq:∀ h' e,Heap.MadeExcOf h h' e (.ref C) rest ->
    wpAny (model prog w) (A.under (.builtin "type.__call__" ⟨.ref C :: rest,[]⟩)) (call (.ref fI) (.ref e :: rest)) (fun r s'=>r=.none/\Q (.ref e) s') E ⟨h',g,d,t,os⟩) (Awx:rest.length<=sizeLine) :
   wpAny (model prog w) A (call (.ref C) rest) Q E ⟨h,g,d,t,os⟩:=by
 have f1:=tc_lookup
 have f2:=tc_bind (.ref C)
 have hT:(⟨h,g,d,t,os⟩:Shared).TypeIs (.ref C) "type":=⟨_,hC,rfl⟩
 refine Ci8 (Cc9 ?_)
 show wpAny _ _ (callAny (.ref C) _) _ _ _
 repeat (any_goals (first | assumption | with_reducible refine Bp3 hC ?_ | wp_step))
 refine ⟨rfl,?_⟩
 refine codeAny_call_builtin_at (Code.quiet_builtin _ (by decide +kernel)) entry_typeCall (wpAny_check_type_call_sub hC ?_)
 have F:=Bw1
 repeat (first | with_reducible refine Bp3 hC ?_ | with_reducible refine wpAny_madeBy_exc hC ?_ | wp_step)
 refine codeAny_call_builtin_code (Code.quiet_builtin _ F.quiet) (Ano hcB hC ?_)
 refine Bdk hcB hcA hcN hC ?_ Awx
 show wpAny _ _ _ _ _ _
 have hC₁:=Bi2 { cls:=.ref C,data:=.fields #[.ref h.objs.size,.none,.none,.none,.bool false,.none] }
   (Bi2 { cls:=.type "tuple",data:=.seq rest.toArray } hC)
 have Aww:((h.push { cls:=.type "tuple",data:=.seq rest.toArray }).push
    { cls:=.ref C,data:=.fields #[.ref h.objs.size,.none,.none,.none,.bool false,.none] }).get? (h.objs.size + 1)=some
    { cls:=.ref C,data:=.fields #[.ref h.objs.size,.none,.none,.none,.bool false,.none] }:=by heap_get
 have hcC:(Value.ref C :: bm).contains (.ref C)=true:=by simp
 have X₁:K.In ((h.push { cls:=.type "tuple",data:=.seq rest.toArray }).push { cls:=.ref C,data:=.fields #[.ref h.objs.size,.none,.none,.none,.bool false,.none] }):=X.keeps fun b o e=>Bi2 _ (Bi2 _ e)
 unfold isInstance
 repeat (first | with_reducible refine Bp3 Aww ?_ | (with_reducible refine Bu2 hC₁ ?_; rw [hcC]) | wp_step)
 refine Bu2 hC₁ ?_
 rw [hcC]
 repeat (first | with_reducible refine Bp3 Aww ?_ | wp_step)
 show wpAny _ _ (typeLookup (.ref C) _) _ _ _
 refine (Cd8 X₁ hi).here ?_
 refine Bl0 (Be8 ?_)
 refine (bind_fn X₁ _ hf).here ?_
 refine Be8 (Bf2 (hq _ (h.objs.size + 1) ⟨fun b o hb=>Bi2 _ (Bi2 _ hb),Bn7 (Bm8 _),h.objs.size,Aww,Bn7 (Bh5 _),?_⟩) (fun r s' hr=>?_) fun _ _ x=>x)
 · exact Bi2 _ (Heap.get?_push_at rfl rfl)
 · obtain ⟨rfl,hQ⟩:=hr
   wp_walk
   exact hQ
end
theorem Aao {name hash key v od ents n} (hd:od.data=.dict ents n) (hi:ents.findIdx? (·.key.isStr name)=none) :
  Bp8 name hash key v od={ od with data:=.dict (ents.push ⟨hash,key,v⟩) (n + 1) }:=by
 obtain ⟨c,d,dt,sl⟩:=od
 simp only at hd; subst hd
 simp only [Bs5,Bp7,hi]
section
variable {prog:Program} {w:World} {A:Around} {E:Value->Shared->Prop} {s:Shared} {K:Frag} {C x dx:Addr} {ox od:Obj} {name:Str} {v:Value}
theorem Aie {ents n tk b cd Q} (X:K.In s.heap) (hx:s.heap.get? x=some ox) (hcl:ox.cls=.ref C) (hdx:ox.dict=some dx) (hc:clsIn K C=some cd) (hh:cd.hasDict=true)
  (ho:s.heap.get? dx=some od) (hd:od.data=.dict ents n) (hn:ents.any (·.refKey)=false) (hi:ents.findIdx? (·.key.isStr name)=none) (hz:ents.size<=1000)
  (h:∀ hash,Q (.done (.ret .none)) { s with heap:=s.heap.update dx (Bp8 name hash (.str name s.toks) v),toks:=s.toks + 1 }) :
  wpAny (model prog w) A (Bu6 (.ref x) (.ref C) (.str name tk) name v b) Q E s:=by
 obtain ⟨oc,odi,oda,osl⟩:=ox
 dsimp only at hcl hdx
 subst hcl hdx
 refine Be8 (Bf5 (Be8 (Be8 (Ca6 hx (Be8 ((looks_clsIn X hc).here ?_))))))
 rw [hh]
 refine Bf5 (a:=some dx) (Be8 (Bf5 (Be8 ?_)))
 unfold nsSet
 refine Be8 (Be8 (Ch2 (Bf5 (Be8 (Cn6 (Be8 (Ca6 ho ?_)))))))
 rw [hd]
 dsimp only
 have c:(!ents.any (·.key.isStr name) && ents.any (·.refKey))=false:=by rw [hn,Bool.and_false]
 rw [aRefKeyMayBeTheName_at,c]
 refine Ch1 ho ?_
 have e1:=Bk3 (Bp8 name (if name.cps.isEmpty=true then 0 else Cf6 (w.params.strHash name.cps)) (.str name s.toks) v) ho (by rw [Aao hd hi]; rfl)
 refine Be8 (wpAny_lookBehind e1 (by rw [Aao hd hi]; exact pastItsLine_dict (by rw [Array.size_push]; exact Bg3 (sz (Be7 hz (by decide))))) ?_)
 exact Bf5 (h _)
theorem Ao7 {tk b cd Q} (X:K.In s.heap) (hx:s.heap.get? x=some ox) (hcl:ox.cls=.ref C) (hdx:ox.dict=none) (hnc:∃ vs,ox.data=.fields vs) (hc:clsIn K C=some cd) (hh:cd.hasDict=true)
  (h:∀ hash,Q (.done (.ret .none)) { s with heap:=((s.heap.push emptyDict).update x fun o=>{ o with dict:=some s.heap.objs.size }).update s.heap.objs.size (Bp8 name hash (.str name s.toks) v),toks:=s.toks + 1 }) :
  wpAny (model prog w) A (Bu6 (.ref x) (.ref C) (.str name tk) name v b) Q E s:=by
 obtain ⟨oc,odi,oda,osl⟩:=ox
 obtain ⟨vs,hnc⟩:=hnc
 dsimp only at hcl hdx hnc
 subst hcl hdx hnc
 refine Be8 (Bf5 (Be8 (Be8 (Ca6 hx (Be8 ((looks_clsIn X hc).here ?_))))))
 rw [hh]
 have hx1:=Bi2 emptyDict hx
 have hxs:x≠s.heap.objs.size:=Bl8 (Bl2 hx)
 refine Be8 (wpAny_alloc ?_)
 refine Be8 (wpAny_update hx1 ?_)
 refine Bf5 (a:=some s.heap.objs.size) (Be8 (Bf5 (Be8 ?_)))
 have ho:((s.heap.push emptyDict).update x fun o=>{ o with dict:=some s.heap.objs.size }).get? s.heap.objs.size=some emptyDict:=(Bj4 _ _ hxs).trans (Bi1 _ rfl)
 unfold nsSet
 refine Be8 (Be8 (Ch2 (Bf5 (Be8 (Cn6 (Be8 (Ca6 ho ?_)))))))
 dsimp only
 rw [aRefKeyMayBeTheName_at,show (!(#[]:Array DictEntry).any (·.key.isStr name) && (#[]:Array DictEntry).any (·.refKey))=false from by simp]
 refine Ch1 ho ?_
 have e1:=Bk3 (Bp8 name (if name.cps.isEmpty=true then 0 else Cf6 (w.params.strHash name.cps)) (.str name s.toks) v) ho (by rw [Aao (od:=emptyDict) rfl (by simp)]; rfl)
 refine Be8 (wpAny_lookBehind e1 (by rw [Aao (od:=emptyDict) rfl (by simp)]; exact pastItsLine_dict (by simp [Bn5])) ?_)
 exact Bf5 (h _)
theorem Akp {R od tk r cd} (X:K.In s.heap) (I:InstAt s.heap x ox C od) (hc:clsIn K C=some cd) (hr0:refuseLoop (.ref x) "__setattr__" cd.mro=pure ()) (hco:cd.mro.contains (.type "object")=true) (ht:takerIn K C name=some r)
  (h:∀ b,wpAny (model prog w) A.in1 (match r with | some a=>Bi8.ObjectAttr.setByDescriptor a (.ref x) v | none=>Bu6 (.ref x) (.ref C) (.str name tk) name v b)
   (fun fin s'=>match fin with | .done f=>R (.ok f) s' | .again c'=>c'.quiet=true/\Cb7 (model prog w) A c' R s') (fun e s'=>R (.error e) s') s) :
  Cb7 (model prog w) A (.call (.builtin "object.__setattr__") ⟨[.ref x,.str name tk,v],[]⟩) R s:=by
 have SF:=PySem.F.store_object
 have ne:cd.mro.isEmpty=false:=by cases q:cd.mro with | nil=>rw [q] at hco; cases hco | cons _ _=>rfl
 have sub:Looks (model prog w) s.heap (isInstance (.ref x) (.type "object")) true:=I.type.andThen (looks_mroIn X (by unfold mroIn; rw [hc,Option.bind_some,if_neg (by rw [ne]; decide),hco]))
 refine Cj6 SF.slot.plain SF.entry (@check_slot (model prog w) _ _ s "object.__setattr__" "object" "__setattr__" (.ref x) [.str name tk,v] [] _ SF.kind SF.split sub (SF.args (.ref x) (.str name tk) v) ?_)
 obtain ⟨attr,ha,hr⟩:=Bx4.mp ht
 have hm:Looks (model prog w) s.heap (mroOf (.ref C)) cd.mro:=(looks_clsIn X hc).andThen .now
 have L3:Looks (model prog w) s.heap (Bi8.ObjectAttr.storeTaker? attr) r:=by
  cases attr with
  | none=>cases hr; exact .now
  | some a=>
   obtain ⟨b,hb,rfl⟩:=Bn6.mp hr
   refine (looks_takesIn X hb).andThen ?_
   cases b <;> exact .now
 rw [osa_eq,refuse_eq]
 refine Be8 (Be8 (I.type.here (Be8 (hm.here ?_))))
 rw [hr0]
 refine Bf5 (Be8 (I.type.here (Be8 ((Cd8 X ha).here (Be8 (L3.here ?_))))))
 exact h _
end
section
variable {P:Pm} {n:Nat} {fx:Fx} {σ:Sto} {m:A8} {X:Xt}
theorem Aue {C fI vs Q Y} (hm':makesIn P.K C=true) (hi:findIn P.K (.ref C) "__init__"=some (some (.ref fI))) (hf:typeIn P.K (.ref fI)=some (.type "function"))
  (h:∀ dx,σ dx=none->Fn P n (.ref fI) (.inst C dx :: vs) (σ.put dx (.attrs [])) (fun v σ'=>v=.none/\Q (.inst C dx) σ') Y):Fn P (n + 1) (.ref C) vs σ Q Y:=
 fun A st B g s vals hr hv hm=>by
  obtain ⟨hh,gs,dr,t,os⟩:=s
  have kin:P.K.In hh:=hr.pc.kin.keeps hr.fz
  have R1:=hr.Ac3 (x:=.attrs []) (Aa3 hh emptyDict) (Bh5 _) (Bi1 hh (o:=emptyDict) rfl) ⟨rfl,rfl,rfl,#[],0,rfl,.nil⟩ t
  obtain ⟨g2,hg2,ho2,R2⟩:=R1.Aap (instObj C hh.objs.size) rfl (fun f=>by have q:Value.ref C=Value.type "frame":=f.1; cases q) t
  have esz:(hh.push emptyDict).objs.size=hh.objs.size + 1:=Bt9 ..
  have ho2':g2.get? (hh.objs.size + 1)=some (instObj C hh.objs.size):=by rw [<- esz]; exact ho2
  refine make_core (makes_of kin hm') (Cd8 kin hi) (fun self=>bind_fn kin self hf) (.inl rfl) ?_
  refine Bp4 (h _ (hr.Aas (Ak _)) (A.under (.builtin "type.__call__" ⟨.ref C :: vals,[]⟩)) st B g2 _ (.ref (hh.objs.size + 1) :: vals) (R2.Atd hr.stack) (.cons (.inst ho2') (by
    have:∀ {vs:List Value} {ds:List V},VRs g vs ds->VRs g2 vs ds:=fun x=>x.mono hg2
    exact this hv)) ⟨?_,?_,hm.2.2⟩) fun r s' q=>?_
  · exact rd hm.1
  · have e:(Code.builtin "type.__call__" (⟨.ref C :: vals,[]⟩:Args)).cUnits=1:=by kernel_rfl
    show A.units + (Code.builtin "type.__call__" (⟨.ref C :: vals,[]⟩:Args)).cUnits + 80 * n + 80 < _; rw [e]; exact rv hm.2.1
  · cases r with
    | ok f=>
     cases f with
     | ret v=>
      obtain ⟨g',σ',d,a,b,c,e,q⟩:=q
      subst e; obtain ⟨_,rfl⟩:=c.inv
      refine ⟨rfl,g',σ',_,A3 hg2 a,(b.Atd hr.stack),.inst (a _ _ ho2'),q⟩
     | _=>exact q
    | error e=>obtain ⟨g',σ',why,ea,a,b,c,d,e⟩:=q; exact ⟨g',σ',why,ea,A3 hg2 a,(b.Atd hr.stack),c,d,e⟩
theorem RepC.Aoi {B g A st s} (R:RepC P B g A st σ s) {v C dx as} (hv:VR g v (.inst C dx)) (hx:σ dx=some (.attrs as)) :
  ∃ g',g.StaysIn g'/\VR g' v (.obj C as)/\RepC P B g' A st (σ.del dx) s:=by
 obtain ⟨h1,h2,o,h3,hc,hd,hs,es,n,hda,ha⟩:=R.sto dx _ hx
 have R':RepC P B g A st (σ.del dx) s:=R.forget fun b y e=>by
  unfold Sto.del at e; split at e
  · cases e
  · exact e
 have gs:=Aa4 (a:=dx) R.fz
 cases hv with
 | inst w=>exact ⟨_,gs,.obj (gs _ _ w) (Abt.trans h3) hc hda (by
    have:∀ {l:List DictEntry} {as:List (Str × V)},ARs g l as->ARs (Adm g s.heap dx) l as:=fun x=>x.mono gs
    exact this ha),R'.grow h3 h2 (by simp [Sto.del]) (fun f=>by have q:=f.1; rw [hc] at q; exact absurd q (by decide))⟩
theorem Aqt {f vs Q Y} (h:Fn P n f vs σ (fun v σ'=>∃ C dx as,v=.inst C dx/\σ' dx=some (.attrs as)/\Q (.obj C as) (σ'.del dx)) Y):Fn P n f vs σ Q Y:=
 fun A st B g s vals hr hv hm=>Bp4 (h A st B g s vals hr hv hm) fun r s' q=>by
  cases r with
  | ok f=>
   cases f with
   | ret v=>
    obtain ⟨g',σ',d,a,b,c,C,dx,as,e1,e2,q⟩:=q
    subst e1
    obtain ⟨g2,k1,k2,k3⟩:=b.Aoi c e2
    exact ⟨g2,_,_,A3 a k1,k3,k2,q⟩
   | _=>exact q
  | error e=>exact q
end
section
variable {prog:Program} {w:World} {A:Around} {E:Value->Shared->Prop} {h:Heap} {g:Array GenState} {d:Drawn} {t:Nat} {os:OsState} {K:Frag} {C a:Addr} {oe od:Obj} {name:Str}
theorem Bcs {v expr Q} (X:K.In h) (I:InstAt h a oe C (some od)) (hga:findIn K (.ref C) "__getattribute__"=some (some (.builtin "BaseException.__getattribute__")))
  (hno:findIn K (.ref C) "__getattr__"=some none) (Aul:subIn K (.ref C) (.type "BaseException")=some true) (hfo:findObj K C (some od) name=some (.value v)) (hh:handedIn v=true) (hq:Q v ⟨h,g,d,t + 1,os⟩) :
  wpAny (model prog w) A (getAttr (.ref a) name expr) Q E ⟨h,g,d,t,os⟩:=by
 have L0:=I.type (M:=model prog w)
 have L1:=Cd8 (M:=model prog w) X hga
 have L2:=Cd8 (M:=model prog w) X hno
 have L3:=looks_find (M:=model prog w) X I hfo
 have L4:Looks (model prog w) h (isInstance (.ref a) (.type "BaseException")) true:=L0.andThen (looks_subIn X Aul)
 have hx0:(expr && onTheHeap (Value.builtin "BaseException.__getattribute__"))=false:=by cases expr <;> rfl
 have hx2:(Value.builtin "BaseException.__getattribute__" == Value.builtin "object.__getattribute__")=false:=by decide +kernel
 have hx1:(onTheHeap (Value.ref C) && Value.builtin "BaseException.__getattribute__" == Value.builtin "object.__getattribute__")=false:=by rw [hx2]; rfl
 unfold getAttr getAttrBy
 refine Be8 (Cn6 (Bl0 (Be8 (L0.at (Be8 (L1.at ?_))))))
 dsimp only
 rw [hx1]
 rw [if_neg (by decide)]
 unfold getAttrByItsOwn
 refine Be8 (show wpAny _ _ (typeLookup (.ref C) "__getattr__") _ _ _ from L2.at ?_)
 refine Be8 (wpAny_attempt (Bl0 ?_))
 unfold callGetattribute
 rw [hx0]
 rw [if_neg (by decide)]
 unfold boundAndCalled
 refine Be8 (Cg7 (PySem.F.attrBase_Exception.ga.bind (.ref a)) ?_)
 refine Ci8 (Cj6 PySem.F.attrBase_Exception.ga.plain PySem.F.entry_bexc_ga (@check_slot (model prog w) _ _ _ "BaseException.__getattribute__" "BaseException" "__getattribute__" (.ref a) [.str name t] [] _ (by decide +kernel) (by decide +kernel) L4 (PySem.F.args_bexc_ga (.ref a) (.str name t)) ?_))
 refine Be8 (Bf5 (Be8 (Bf5 (Be8 (L0.at (Be8 (L3.at ?_)))))))
 refine Bf5 ?_
 show wpAny _ _ (handedOut v) _ _ _
 rw [handedOut_of hh]; exact Bf5 hq
variable {nm q:Str} {N:Addr} {bs bm:List Value} {Av2:Bool} {sn:List Str} {sub:List Value} {ab:Bool} {col:Option Bool} {dd:Option Addr} {k0 k1 k2 k3 k5:Option Value}
theorem Bai {e t0 rest Q} (hcB:(Value.ref C :: bm).contains (.type "Exception")=true) (hC:h.get? C=some (Ck3 nm q C N bs bm Av2 sn sub ab col dd k0 k1 k2 k3 k5 "Exception.__new__"))
  (he:h.get? e=some { cls:=.ref C,data:=.fields #[.ref t0,.none,.none,.none,.bool false,.none] }) (Awx:rest.length<=sizeLine)
  (hq:Q .none ⟨(h.push { cls:=.type "tuple",data:=.seq rest.toArray }).update e (Br3 (·.setIfInBounds 0 (.ref h.objs.size))),g,d,t,os⟩) :
  wpAny (model prog w) A (call (.builtin "Exception.__init__") (.ref e :: rest)) Q E ⟨h,g,d,t,os⟩:=by
 have F:=Bw1
 have Bc4:=F.noStar
 refine Ci8 (Cj6 F.init.plain F.initEntry ?_)
 simp only [Co6,F.initKind,F.initSplit,F.initRow]
 repeat (first | with_reducible refine Bp3 he ?_ | with_reducible refine Bp3 hC ?_ | (refine Bu2 hC ?_; rw [hcB]) | wp_step)
 refine wpAny_onRaise ?_
 rw [show ∀ (a b:String) (n:Nat),Bind.check ⟨.positional,"*","Exception",.self,[⟨"args",.varPos,false⟩]⟩ a b n (Bz4 (fun x=>x.fst) ({ pos:=Value.ref e :: rest }:Args).kw)=pure () from
  fun a b n=>check_star_args _ _ _ _ _ _]
 refine Bf5 ?_
 wp_walk
 exact hq
end
noncomputable def Axj (k:Int):Str:=Bf4 (toString k)
section
variable {P:Pm} {n:Nat} {fx:Fx} {σ:Sto} {m:A8} {X:Xt}
theorem Ak0 {i Q} (h1:-1000000<=i) (h2:i<=1000000) (h:Q (.str (Axj i)) σ):Bt P n (.type "str") [.int i] σ Q:=
 fun A st B g env m s vals hr hv hm=>by
  replace hv:=hv.inv; obtain ⟨_,_,rfl,hv,t⟩:=hv
  ·
   cases t; obtain ⟨_,rfl⟩:=hv.inv
   refine PySem.P.str_of_int ?_ ⟨g,σ,m,_,A2 g,hr.tok _,.str _ _,rfl,h⟩
   have hn:i.natAbs < 2 ^ 20:=by
     cases i with
     | ofNat n=>exact Bg6 (Bk8.mp h2) (by decide)
     | negSucc n=>exact Bg6 (Bk8.mp (Cp0 h1)) (by decide)
   rcases Nat.eq_zero_or_pos i.natAbs with h0 | hp
   · rw [h0]; decide
   · exact Bj3 ((Nat.log2_lt (Bq0 hp)).mpr hn) (by decide)
theorem Aii {g}:∀ (ps:List Str) (tk:Nat),VRs g (strsFrom tk ps) (ps.map .str)
 | [],_=>.nil
 | x :: r,tk=>.cons (.str x tk) (Aii r (tk + 1))
theorem Amt {x y ps Q} (h1:(decide (x.length < y.length) || decide (Bs6 x < Bs6 y))=false) (hy:(y.length == 0)=false)
  (hf:(Bo1 x y 0 x.length (x.length + 1)).isEmpty=false) (hp:Bs3 x (Bo1 x y 0 x.length (x.length + 1)) y.length=ps) (hx:x.length<=100000) (hn:ps.length<=100000)
  (h:Q (.lst (ps.map .str)) σ):Bt P n (.builtin "str.split") [.str x,.str y] σ Q:=
 fun A st B g env m s vals hr hv hm=>by
  replace hv:=hv.inv; obtain ⟨_,_,rfl,hv,t⟩:=hv
  ·
   replace t:=t.inv; obtain ⟨_,_,rfl,hv2,t⟩:=t
   cases t; obtain ⟨_,rfl⟩:=hv.inv; obtain ⟨_,rfl⟩:=hv2.inv
   refine Bw9 F.slot_str_split (typeIs_str _ _ _) F.entry_str_split (F.args_str_split_2 _ _) (meets_str_split_sep x y _ _ h1 hy hf (sz hx) (by rw [hp]; exact sz hn)) ?_
   rw [hp]
   obtain ⟨g2,hg2,ho2,R2⟩:=hr.Aap { cls:=.type "list",data:=.seq (strsFrom s.toks ps).toArray } rfl (fun f=>by have q:Value.type "list"=Value.type "frame":=f.1; exact absurd q (by decide)) (s.toks + ps.length)
   exact ⟨g2,σ,m,_,hg2,R2,.lst ho2 rfl rfl (Aii ps _),rfl,h⟩
end
noncomputable def kev {α:Type} (lt:Nat->Nat->Bool):KasT α->α
 | .ret a=>a
 | .ask i j k=>kev lt (k (lt i j))
noncomputable def kin {α:Type} (n:Nat) (lt:Nat->Nat->Bool):KasT α->Bool
 | .ret _=>true
 | .ask i j k=>decide (i < n) && decide (j < n) && kin n lt (k (lt i j))
theorem Ba6:∀ {α:Type} (n:Nat) (lt:Nat->Nat->Bool) (i j:Nat) (k:Bool->KasT α),kin n lt (KasT.ask i j k)=(decide (i < n) && decide (j < n) && kin n lt (k (lt i j))):=by intros; rfl
theorem Auk {α:Type} {n lt cmp s} (hc:∀ i j C,i < n->j < n->C (lt i j) s->cmp i j C s) {Q}:∀ (t:KasT α),kin n lt t=true->Q (kev lt t) s->t.kasWp cmp Q s
 | .ret a,_,h=>h
 | .ask i j k,g,h=>by
  simp only [Ba6,Bg0,decide_eq_true_eq] at g
  exact hc i j _ g.1.1 g.1.2 (Auk hc (k (lt i j)) g.2 h)
noncomputable def allR (m:Nat):Nat->List (List Nat)
 | 0=>[[]]
 | k + 1=>(allR m k).flatMap fun r=>(Bh8 m).map fun x=>x :: r
theorem Ayh:∀ (m k:Nat),allR m k.succ=List.flatMap (fun r=>Bz4 (fun x=>x :: r) (Bh8 m)) (allR m k):=by intros; rfl
noncomputable def Ai3 (n:Nat) (r:List Nat):Bool:=
 kin n (fun i j=>decide (r.getD i 0 < r.getD j 0)) (Bz3 n) &&
 let p:=(kev (fun i j=>decide (r.getD i 0 < r.getD j 0)) (Bz3 n)).toList
 p.isPerm (Bh8 n) && (p.zip p.tail).all fun x=>decide (r.getD x.1 0<=r.getD x.2 0)
theorem Awg:(allR 2 2).all (Ai3 2)=true:=by decide +kernel
theorem Awq:(allR 3 3).all (Ai3 3)=true:=by decide +kernel
theorem Avd:(allR 4 4).all (Ai3 4)=true:=by decide +kernel
theorem Av8:(allR 5 5).all (Ai3 5)=true:=by decide +kernel
theorem Amh {m}:∀ {k r},r.length=k->(∀ x∈r,x < m)->r∈allR m k
 | 0,r,h,_=>by simp at h; subst h; exact .head _
 | k + 1,[],h,_=>by simp at h
 | k + 1,x :: r,h,hx=>by
  rw [Ayh,Ce7]
  exact ⟨r,Amh (by simpa using h) (fun y hy=>hx y (.tail _ hy)),Bh1.mpr ⟨x,Bk6.mpr (hx x (.head _)),rfl⟩⟩
noncomputable def lexLt (a b:Int × Int):Bool:=decide (a.1 < b.1) || (decide (a.1=b.1) && decide (a.2 < b.2))
theorem Ab7 {a b}:lexLt a b=true ↔ a.1 < b.1∨(a.1=b.1/\a.2 < b.2):=by simp [lexLt]
noncomputable def Ab1 (ps:List (Int × Int)) (a:Int × Int):Nat:=ps.countP fun b=>lexLt b a
theorem Aw5 {ps a b} (h:lexLt b a=false):Ab1 ps a<=Ab1 ps b:=by
 refine List.countP_mono_left fun x _ hx=>?_
 rw [Ab7] at hx ⊢
 have:¬ (b.1 < a.1∨(b.1=a.1/\b.2 < a.2)):=by rw [<- Ab7,h]; simp
 exact lx1 hx this
theorem Apq {ps a b} (ha:a∈ps) (h:lexLt a b=true):Ab1 ps a < Ab1 ps b:=by
 have h':=Ab7.mp h
 unfold Ab1
 induction ps with
 | nil=>cases ha
 | cons x r ih=>
  have Ba9:r.countP (fun y=>lexLt y a)<=r.countP (fun y=>lexLt y b):=List.countP_mono_left fun y _ hy=>by
    rw [Ab7] at hy ⊢; exact lx2 hy h'
  rw [List.countP_cons,List.countP_cons]
  rcases Bh7.mp ha with rfl | ha
  · have e1:lexLt a a=false:=by
     cases q:lexLt a a with
     | false=>rfl
     | true=>exact (lx0 (Ab7.mp q)).elim
    rw [e1,h]; simp; exact Bp2 Ba9
  · have:=ih ha
    have:(if lexLt x a=true then 1 else 0)<=(if lexLt x b=true then 1 else 0):=by
     cases q:lexLt x a with
     | false=>simp
     | true=>
      have:lexLt x b=true:=by have:=Ab7.mp q; rw [Ab7]; exact lx2 this h'
      simp [this]
    exact Nat.add_lt_add_of_lt_of_le (ih ha) this
theorem Asy {ps a b} (ha:a∈ps):decide (Ab1 ps a < Ab1 ps b)=lexLt a b:=by
 cases q:lexLt a b with
 | false=>exact decide_eq_false (Cp3.mpr (Aw5 (ps:=ps) q))
 | true=>have:=Apq ha q; simp [this]
theorem Ass {ps a} (ha:a∈ps):Ab1 ps a < ps.length:=by
 have h1:Ab1 ps a<=ps.length:=List.countP_le_length
 rcases Nat.lt_or_ge (Ab1 ps a) ps.length with h | h
 · exact h
 · have:=List.countP_eq_length.mp (Cn3 h1 h:ps.countP (fun b=>lexLt b a)=ps.length) a ha
   exact (lx0 (Ab7.mp this)).elim
theorem Aoq {n} (h2:2<=n) (h5:n<=5) {r} (hl:r.length=n) (hx:∀ x∈r,x < n):Ai3 n r=true:=by
 have hm:=Amh hl hx
 rcases (by lia:n=2∨n=3∨n=4∨n=5) with rfl | rfl | rfl | rfl
 · exact Bj7.mp Awg _ hm
 · exact Bj7.mp Awq _ hm
 · exact Bj7.mp Avd _ hm
 · exact Bj7.mp Av8 _ hm
theorem Ao8 {α:Type} {R:α->α->Prop} (ht:∀ a b c,R a b->R b c->R a c) {l:List α} (h:∀ x∈l.zip l.tail,R x.1 x.2):l.Pairwise R:=by
 induction l with
 | nil=>exact .nil
 | cons a l ih=>
  cases l with
  | nil=>exact List.pairwise_singleton ..
  | cons b r=>
   have ih:=ih fun x hx=>h x (.tail _ hx)
   have hab:R a b:=h (a,b) (.head _)
   refine Cj1.mpr ⟨fun c hc=>?_,ih⟩
   cases Bh7.mp hc with
   | inl e=>rw [e]; exact hab
   | inr hc=>exact ht _ _ _ hab (List.rel_of_pairwise_cons ih hc)
noncomputable def Aol (ps:List (Int × Int)) (i j:Nat):Bool:=decide ((ps.map (Ab1 ps)).getD i 0 < (ps.map (Ab1 ps)).getD j 0)
theorem Ail {ps i} (hi:i < ps.length):(ps.map (Ab1 ps)).getD i 0=Ab1 ps (ps.getD i (0,0))/\ps.getD i (0,0)∈ps:=by
 have hi':i < (ps.map (Ab1 ps)).length:=by rw [Be9]; exact hi
 refine ⟨?_,?_⟩
 · simp [hi]
 · simp [hi]
theorem Awf {ps i j} (hi:i < ps.length) (hj:j < ps.length):Aol ps i j=lexLt (ps.getD i (0,0)) (ps.getD j (0,0)):=by
 unfold Aol
 rw [(Ail hi).1,(Ail hj).1,Asy (Ail hi).2]
theorem Apz {ps:List (Int × Int)} (h2:2<=ps.length) (h5:ps.length<=5) :
  kin ps.length (Aol ps) (Bz3 ps.length)=true/\(kev (Aol ps) (Bz3 ps.length)).toList.Perm (Bh8 ps.length)/\((kev (Aol ps) (Bz3 ps.length)).toList.map fun i=>ps.getD i (0,0)).Pairwise (fun a b=>a.1<=b.1):=by
 have hok:=Aoq h2 h5 (r:=ps.map (Ab1 ps)) (Be9 ..) (fun x hx=>by
  obtain ⟨a,ha,rfl⟩:=Bh1.mp hx
  exact Ass ha)
 unfold Ai3 at hok
 simp only [Bg0] at hok
 obtain ⟨o0,o1,o2⟩:=hok
 have hp:=List.isPerm_iff.mp o1
 refine ⟨o0,hp,?_⟩
 rw [List.pairwise_map]
 refine List.Pairwise.imp_of_mem (R:=fun i j=>(ps.map (Ab1 ps)).getD i 0<=(ps.map (Ab1 ps)).getD j 0) (fun {i j} hi hj hij=>?_) (Ao8 (R:=fun i j=>(ps.map (Ab1 ps)).getD i 0<=(ps.map (Ab1 ps)).getD j 0) (fun a b c x y=>Be7 x y) fun x hx=>by
  have:=Bj7.mp o2 x hx
  simpa using this)
 have hi':=Bk6.mp (hp.subset hi)
 have hj':=Bk6.mp (hp.subset hj)
 rw [(Ail hi').1,(Ail hj').1] at hij
 have:lexLt (ps.getD j (0,0)) (ps.getD i (0,0))=false:=by
  cases q:lexLt (ps.getD j (0,0)) (ps.getD i (0,0)) with
  | false=>rfl
  | true=>exact absurd hij (Nat.not_le.mpr (Apq (Ail hj').2 q))
 have:¬ (_∨_):=fun q=>by rw [Ab7.mpr q] at this; cases this
 exact Bs4.mp fun q=>this (.inl q)
noncomputable abbrev prV (x:Int × Int):V:=.tup [.int x.1,.int x.2]
theorem VRs.two {g:Heap} {l:List Value} {x:Int × Int} (h:VRs g l [.int x.1,.int x.2]):∃ t u,l=[.int x.1 t,.int x.2 u]:=by
 replace h:=h.inv; obtain ⟨_,_,rfl,a1,t1⟩:=h
 ·
  replace t1:=t1.inv; obtain ⟨_,_,rfl,a2,t2⟩:=t1
  · obtain ⟨_,rfl⟩:=a1.inv; obtain ⟨_,rfl⟩:=a2.inv; cases t2; exact ⟨_,_,rfl⟩
theorem VRs.Bch {g:Heap} {vs:List Value} {ps:List (Int × Int)} (h:VRs g vs (ps.map prV)) {i:Nat} (hi:i < ps.length):∃ a o n xs t u,vs.getD i Value.none=.ref a/\g.get? a=some o/\o.cls=.type "tuple"/\o.data=.seq xs n/\xs.toList=[.int (ps.getD i (0,0)).1 t,.int (ps.getD i (0,0)).2 u]:=by
 obtain ⟨v,hv,hr⟩:=h.get (k:=i) (d:=prV (ps.getD i (0,0))) (by simp [hi])
 obtain ⟨a,xs,rfl,⟨o,h1,h2,n,h3⟩,h4⟩:=hr.isTup
 obtain ⟨t,u,e⟩:=h4.two
 exact ⟨a,o,n,xs,t,u,by rw [Bj8,hv]; rfl,h1,h2,h3,e⟩
section
variable {prog:Program} {w:World} {A:Around} {E:Value->Shared->Prop} {s:Shared} {g:Heap}
theorem Ar5 {vs:List Value} {ps:List (Int × Int)} {b:Bool} {i j:Nat} {C:Bool->Shared->Prop} (h:VRs g vs (ps.map prV)) (gs:g.StaysIn s.heap) (hi:i < ps.length) (hj:j < ps.length)
   (hc:C (lexLt (ps.getD i (0,0)) (ps.getD j (0,0))) s):kas_ask prog w A (tuples' b) vs i j C s:=by
 obtain ⟨a1,o1,n1,xs,t1,u1,e1,g1,c1,d1,q1⟩:=h.Bch hi
 obtain ⟨a2,o2,n2,ys,t2,u2,e2,g2,c2,d2,q2⟩:=h.Bch hj
 revert hc q1; with_reducible refine gz (ps.getD i (0,0)) fun p hc q1=>?_
 revert q2 hc; with_reducible refine gz (ps.getD j (0,0)) fun q q2 hc=>?_
 unfold kas_ask
 rw [e1,e2]
 refine kat_lt (gs _ _ g1) d1 (gs _ _ g2) d2 ?_
 have z:decide (xs.size < ys.size)=false:=by
   have e1:=congrArg Bp5 q1
   have e2:=congrArg Bp5 q2
   simp only [Bg4,Bh3,Bl1] at e1 e2
   simp [e1,e2]
 rw [q1,q2,z]
 show KatLex prog w A b false _ [(_,_),(_,_)] 0 s
 refine kat_cons (wpAny_eqBool_int (kat_go (fun k=>?_) (fun k=>?_)))
 · have k1:p.1=q.1:=by simpa using k
   refine kat_yes (kat_cons (wpAny_eqBool_int (kat_go (fun k=>?_) (fun k=>?_))))
   · have k2:p.2=q.2:=by simpa using k
     rw [show lexLt p q=false by simp [lexLt,k1,k2]] at hc
     exact kat_yes (kat_nil hc)
   · have e:lexLt p q=decide (p.2 < q.2):=by simp [lexLt,k1]
     rw [e] at hc
     refine kat_no ?_
     rw [show (b && 0 + 1 == 0)=false by simp]
     exact kat_one _ _ (lt_int hc)
 · have k1:¬ p.1=q.1:=by simpa using k
   have e:lexLt p q=decide (p.1 < q.1):=by simp [lexLt,k1]
   rw [e] at hc
   refine kat_no ?_
   cases b with
   | true=>exact oneLt_int hc
   | false=>exact kat_one _ _ (lt_int hc)
theorem Ao9 {l:Addr} {vs:List Value} {ps:List (Int × Int)} {Q:Value->Shared->Prop} (hl:s.heap.IsList l vs.toArray) (h:VRs g vs (ps.map prV)) (gs:g.StaysIn s.heap) (h5:ps.length<=5)
  (hq:∀ (h':Heap) (D:Addr) (n:Nat) (out:List Value) (ps':List (Int × Int)),s.heap.StaysIn h'->s.heap.get? D=none->D≠l->h'.get? D=some (Bx2 "list" (Bu8 out) n)->VRs g out (ps'.map prV)->ps'.Perm ps->ps'.Pairwise (fun a b=>a.1<=b.1)->Q (.ref D) { s with heap:=h' }) :
  wpAny (model prog w) A (call (.builtin "sorted") [.ref l]) Q E s:=by
 have hvl:vs.length=ps.length:=by rw [h.length,Be9]
 refine Calls.call_function_entry kind_sorted plain_sorted entry_sorted (args_sorted1 _) ?_
 unfold Bi8.«sorted»
 refine Be8 (m:=checkCount "sorted" 1 1 _) (Bf5 ?_)
 refine Be8 (collect_list hl ?_ (by rw [hvl]; exact sz (Be7 h5 (by decide))))
 refine Be8 (wpAny_newList ?_ (by rw [hvl]; exact sz (Be7 h5 (by decide))))
 have hsz:((s.heap.push (Bx2 "list" #[] 0)).update s.heap.objs.size (Bt2 (· ++ vs.toArray))).objs.size=s.heap.objs.size + 1:=by
  rw [Bz9,size_push']
 have hoL:(((s.heap.push (Bx2 "list" #[] 0)).update s.heap.objs.size (Bt2 (· ++ vs.toArray))).push (Bx2 "list" vs.toArray 0)).get? (s.heap.objs.size + 1)=some (Bx2 "list" vs.toArray 0):=by
  rw [<- hsz]; exact Bi1 _ rfl
 have keep:s.heap.StaysIn (((s.heap.push (Bx2 "list" #[] 0)).update s.heap.objs.size (Bt2 (· ++ vs.toArray))).push (Bx2 "list" vs.toArray 0)):=fun b o q=>by
  have hlt:b < s.heap.objs.size:=Bl2 q
  rw [Bw0 _ _ _ (by rw [hsz]; exact Bl8 (Bt4 hlt)),Cb4 _ _ _ _ (Bl8 hlt),Bw0 _ _ _ (Bl8 hlt)]
  exact q
 have hD:s.heap.get? (s.heap.objs.size + 1)=none:=Bn7 (Bm8 _)
 have hDl:s.heap.objs.size + 1≠l:=by
  obtain ⟨o,ho,_⟩:=hl
  have:=Bl2 ho; exact Bq0 (Bt4 this)
 show wpAny _ _ _ _ _ { s with heap:=((s.heap.push (Bx2 "list" #[] 0)).update s.heap.objs.size (Bt2 (· ++ vs.toArray))).push (Bx2 "list" vs.toArray 0) }
 rw [hsz]
 revert hoL keep; with_reducible refine gze (((s.heap.push (Bx2 "list" #[] 0)).update s.heap.objs.size (Bt2 (· ++ vs.toArray))).push (Bx2 "list" vs.toArray 0)) fun H hH hoL keep=>?_
 revert hsz hD hDl hoL; with_reducible refine gz (s.heap.objs.size + 1) fun a hsz hD hDl hoL=>?_
 refine Be8 (Bl0 (Br2 slot_list_sort ⟨_,hoL,rfl⟩ entry_list_sort ?body (args_list_sort _)))
 case body=>
  rw [list_sort_plain]
  have ha:a < H.objs.size:=Bl2 hoL
  obtain ⟨e1,ho1⟩:∃ e1,(H.update a (Bt2 fun _=>(#[]:Array Value))).get? a=some (Bx2 "list" #[] e1):=⟨_,Cq0 hoL fun _=>#[]⟩
  refine Be8 (listItems_at hoL rfl ?_)
  refine Be8 (listUpdate_at hoL rfl ?_ (by rw [Bp1,hvl]; exact sz (Be7 h5 (by decide))) (Bi4 _))
  refine Be8 (seqEpoch_at ho1 rfl ?_)
  refine Be8 (wpAny_newTuple ?_ (by show vs.length<=_; rw [hvl]; exact sz (Be7 h5 (by decide))))
  refine Be8 (wpAny_newList ?_ (Bi4 _))
  refine Bl0 ?_
  have ho6:(((H.update a (Bt2 fun _=>#[])).push (Bx2 "tuple" vs.toArray 0)).push (Bx2 "list" #[] 0)).get? a=some (Bx2 "list" #[] e1):=by
    rw [Bw0 _ _ _ (by rw [size_push',Bz9]; exact Bl8 (Bt4 ha)),Bw0 _ _ _ (by rw [Bz9]; exact Bl8 ha)]
    exact ho1
  have keep6:s.heap.StaysIn (((H.update a (Bt2 fun _=>#[])).push (Bx2 "tuple" vs.toArray 0)).push (Bx2 "list" #[] 0)):=fun b o q=>by
    have hb:=keep b o q
    have hlt:b < H.objs.size:=Bl2 hb
    rw [Bw0 _ _ _ (by rw [size_push',Bz9]; exact Bl8 (Bt4 hlt)),Bw0 _ _ _ (by rw [Bz9]; exact Bl8 hlt),
      Cb4 _ _ _ _ (by rintro rfl; rw [hD] at q; cases q)]
    exact hb
  show wpAny (model prog w) A.in1.in1 _ _ _ { s with heap:=((H.update a (Bt2 fun _=>#[])).push (Bx2 "tuple" vs.toArray 0)).push (Bx2 "list" #[] 0) }
  revert ho6 keep6; with_reducible refine gze (((H.update a (Bt2 fun _=>#[])).push (Bx2 "tuple" vs.toArray 0)).push (Bx2 "list" #[] 0)) fun H6 hH6 ho6 keep6=>?_
  dsimp only
  have sub:∀ (p:List Nat),p.Perm (Bh8 ps.length)->VRs g (p.map fun i=>vs.getD i Value.none) ((p.map fun i=>ps.getD i (0,0)).map prV)/\(p.map fun i=>ps.getD i (0,0)).Perm ps:=fun p hp=>by
    refine ⟨?_,?_⟩
    · have:∀ (l:List Nat),(∀ i∈l,i < ps.length)->VRs g (l.map fun i=>vs.getD i Value.none) ((l.map fun i=>ps.getD i (0,0)).map prV):=by
        intro l
        induction l with
        | nil=>intro _; exact .nil
        | cons i r ih=>
         intro hi
         obtain ⟨v,hv,hr⟩:=h.get (k:=i) (d:=prV (ps.getD i (0,0))) (by simp [hi i (.head _)])
         refine .cons ?_ (ih fun j hj=>hi j (.tail _ hj))
         show VR g (vs.getD i Value.none) _
         rw [Bj8,hv]; exact hr
      exact this p fun i hi=>Bk6.mp (hp.subset hi)
    · refine (hp.map _).trans (List.Perm.of_eq ?_)
      apply Bt8
      · simp
      · intro i h1 h2; simp [h2]
  by_cases h2:vs.toArray.size < 2
  · rw [if_pos h2,if_pos h2]
    refine Be8 (Bf5 ?_)
    rw [StateT.run_pure]
    refine Be8 (Bf5 ?_)
    dsimp only
    have Bbi:(arrOf (SortSt.mk' general' (vs.toArray.zip vs.toArray) #[] 7 none)).map (·.2)=Bu8 vs:=by
      show (vs.toArray.zip vs.toArray).map (·.2)=_
      apply Array.toList_inj.mp
      simp [Cl1]
    have hf:failedOf (SortSt.mk' general' (vs.toArray.zip vs.toArray) #[] 7 none)=none:=rfl
    have hp1:ps.Pairwise (fun a b=>a.1<=b.1):=by
      rw [Bp1] at h2
      match ps,hvl with
      | [],_=>exact .nil
      | [x],_=>simp
      | x :: y :: r,e=>simp at e; lia
    obtain ⟨c2,hc2⟩:∃ c2,(H6.update a (Bt2 fun _=>Bu8 (vs))).get? a=some (Bx2 "list" (Bu8 (vs)) c2):=⟨_,Cq0 ho6 fun _=>Bu8 (vs)⟩
    refine Be8 (seqEpoch_at ho6 rfl ?_)
    rw [Bbi]
    refine Be8 (listUpdate_at ho6 rfl ?_ (Bi4 _) (by rw [Bp1,hvl]; exact Bk0 (sz (Be7 h5 (by decide)))))
    simp only [bne_self_eq_false,Bp6,if_false]
    refine Bf5 ⟨_,rfl,Bf5 ⟨_,rfl,hq _ a c2 (vs) (ps) (fun b o q=>?_) hD hDl hc2 h (Ck8 ps) hp1⟩⟩
    rw [Cb4 _ _ _ _ (by rintro rfl; rw [hD] at q; cases q)]
    exact keep6 b o q
  · rw [if_neg h2,if_neg h2]
    rw [Bp1] at h2
    have hT:∃ fs:List Value,KatTups H6 vs fs/\fs.length=vs.length/\∀ v∈fs,∃ i t,v=.int i t:=by
      have:∀ (vs:List Value) (ps:List (Int × Int)),VRs g vs (ps.map prV)->∃ fs:List Value,KatTups H6 vs fs/\fs.length=vs.length/\∀ v∈fs,∃ i t,v=.int i t:=by
        intro vs ps
        induction ps generalizing vs with
        | nil=>intro h; cases h; exact ⟨[],.nil,rfl,by simp⟩
        | cons p r ih=>
         intro h
         replace h:=h.inv; obtain ⟨_,_,rfl,x,xs⟩:=h
         ·
          obtain ⟨fs,f1,f2,f3⟩:=ih _ xs
          obtain ⟨a,ys,rfl,⟨o,h1,h2,n,h3⟩,h4⟩:=x.isTup
          obtain ⟨t,u,e⟩:=h4.two
          refine ⟨.int p.1 t :: fs,KatTups.cons (keep6 _ _ (gs _ _ h1)) h2 h3 ?_ f1,by simp [f2],fun v hv=>?_⟩
          · rw [<- Bi9,e]; rfl
          · rcases Bh7.mp hv with rfl | hv
            · exact ⟨_,_,rfl⟩
            · exact f3 v hv
      exact this vs ps h
    obtain ⟨fs,f1,f2,f3⟩:=hT
    refine Be8 (Bf2 (kat_kind (E:=fun _ _=>False) (T:=.type "int") (Q:=fun κ s'=>(∃ b,κ=tuples' b)/\s'={ s with heap:=H6 }) f1 (by rw [f2]; exact Bh0 (by decide) (Bm4 h2)) (fun v hv=>?_) (by rfl) ⟨⟨_,rfl⟩,rfl⟩) ?_ fun _ _ x=>x.elim)
    · obtain ⟨i,t,rfl⟩:=f3 v hv
      exact Co8 rfl
    rintro κ s' ⟨⟨bb,rfl⟩,rfl⟩
    obtain ⟨k1,k2,k3⟩:=Apz (ps:=ps) (hvl ▸ Bm4 h2) h5
    have hkw:(Bz3 vs.length).kasWp (kas_ask prog w A.in1.in1 (tuples' bb) vs) (fun p s''=>p=kev (Aol ps) (Bz3 ps.length)/\s''={ s with heap:=H6 }) { s with heap:=H6 }:=by
      rw [hvl]
      refine Auk (n:=ps.length) (lt:=Aol ps) (fun i j C hi hj hc=>Ar5 h (fun b o q=>keep6 b o (gs b o q)) hi hj ?_) _ k1 ⟨rfl,rfl⟩
      rw [<- Awf hi hj]; exact hc
    refine Be8 (Bf2 (kat_run (Q:=fun st' s'=>arrOf st'=(kev (Aol ps) (Bz3 ps.length)).map (kas_item (vs.toArray.zip vs.toArray))/\failedOf st'=none/\s'={ s with heap:=H6 })
      (rfl:vs.length=vs.length) (Bm4 h2) (by rw [hvl]; exact Bg6 h5 (by decide)) (fun p st' s' a1 a2 a3 a4=>⟨by rw [a2,a4.1],a3,a4.2⟩) hkw) ?_ fun _ _ e=>e)
    rintro ⟨⟨⟩,st'⟩ s' ⟨har,hf,rfl⟩
    dsimp only
    have Bbi:=kat_snds rfl har
    obtain ⟨s1,s2⟩:=sub _ k2
    obtain ⟨c2,hc2⟩:∃ c2,(H6.update a (Bt2 fun _=>Bu8 ((kev (Aol ps) (Bz3 ps.length)).toList.map fun i=>vs.getD i Value.none))).get? a=some (Bx2 "list" (Bu8 ((kev (Aol ps) (Bz3 ps.length)).toList.map fun i=>vs.getD i Value.none)) c2):=⟨_,Cq0 ho6 fun _=>Bu8 ((kev (Aol ps) (Bz3 ps.length)).toList.map fun i=>vs.getD i Value.none)⟩
    refine Be8 (seqEpoch_at ho6 rfl ?_)
    rw [Bbi]
    refine Be8 (listUpdate_at ho6 rfl ?_ (Bi4 _) (by rw [Bp1,Bn5]; have hh:=s1.length; have h3:=(s2).length_eq; (try simp only [Be9] at hh h3 ⊢); rw [h3]; exact Be7 h5 (by decide)))
    rw [hf]
    simp only [bne_self_eq_false,Bp6,if_false]
    refine Bf5 ⟨_,rfl,Bf5 ⟨_,rfl,hq _ a c2 ((kev (Aol ps) (Bz3 ps.length)).toList.map fun i=>vs.getD i Value.none) ((kev (Aol ps) (Bz3 ps.length)).toList.map fun i=>ps.getD i (0,0)) (fun b o q=>?_) hD hDl hc2 s1 s2 k3⟩⟩
    rw [Cb4 _ _ _ _ (by rintro rfl; rw [hD] at q; cases q)]
    exact keep6 b o q
end
section
variable {P:Pm} {n:Nat} {σ:Sto}
theorem As1 {c ps Q} (hc:Dv σ c (.lst (ps.map prV))) (hl:ps.length<=5)
  (h:∀ ps':List (Int × Int),ps'.Perm ps->ps'.Pairwise (fun a b=>a.1<=b.1)->Q (.lst (ps'.map prV)) σ):Bt P n (.builtin "sorted") [c] σ Q:=
 fun A st B g env m s vals hr hv hm=>by
  replace hv:=hv.inv; obtain ⟨_,_,rfl,hv,t⟩:=hv
  ·
   cases t
   obtain ⟨l,items,rfl,hli,hi⟩:=hc.items hr.toRepC hv
   refine Ao9 (g:=g) (vs:=items.toList) (by rw [Array.toArray_toList]; exact hli) hi hr.fz hl fun h' D n out ps' hk hD hDl hDo hvo hp hpw=>?_
   have R':=hr.stays hk s.toks
   obtain ⟨ml,⟨oL,es,ep,hL,_⟩,_⟩:=hr.fr.ns
   have hnf:¬ Ahh (Bx2 "list" (Bu8 out) n):=fun f=>by have q:Value.type "list"=Value.type "frame":=f.1; exact absurd q (by decide)
   have R2:=R'.grow hDo (Aa0 hr.keeps hD) (hr.toRepC.Aas hD) hnf (by rintro rfl; rw [hL] at hD; cases hD) fun x c hx hc=>by
    obtain ⟨c',cv,h1,h2,_⟩:=hr.fr.cel x hx
    rw [hc] at h1; cases h1
    rintro rfl
    obtain ⟨o,ho,_⟩:=h2
    rw [hD] at ho; cases ho
   have hst:=Aa4 (g:=g) (a:=D) (A3 hr.fz hk)
   exact ⟨_,σ,m,_,hst,R2,.lst (Abt.trans hDo) rfl rfl (hvo.mono hst),rfl,h ps' hp hpw⟩
end
noncomputable def PM (w:World):Pm:=⟨Bm9.row.prog,w,Kf w.params,44⟩
section
variable {w:World} {B:Bs} {g:Heap} {A:Around} {st:List Env} {σ:Sto} {s:Shared}
theorem Aoz {prog w A E s K name v T pl Q} (X:K.In s.heap) (ht:typeOf (.type T)=pure (.type "type")) (hs:Manifest.isStub T=false)
  (e:findCls K (.type T) (.type "type") name=some (.val v)) (hh:handedIn v=true) (h:Q (v,[]) { s with toks:=s.toks + 1 }):wpAny (model prog w) A (getMethod (.type T) name pl) Q E s:=by
 have Bbl:opaqueClassAbove (.type T)=pure none:=by unfold opaqueClassAbove; dsimp only; rw [hs]; rfl
 have L0:Looks (model prog w) s.heap (typeOf (.type T)) (.type "type"):=Co8 ht
 have hg:findIn K (.type "type") "__getattribute__"=some (some (.builtin "type.__getattribute__")):=type_tga
 unfold getMethod specialOf
 refine Be8 (Be8 (L0.here ((Cd8 X hg).here ?_)))
 dsimp only
 rw [if_pos canon_tga]
 refine Be8 (Bf2 (Q:=fun v=>Q (v,[])) (E:=E) ?_ (fun _ _ z=>Bf5 z) fun _ _ z=>z)
 refine cls_open X (Co8 Bbl) L0 hg (looks_hook X (r:=none) (by rfl)) (by show subIn K _ _=_; rfl) e
  (Bf5 (by show wpAny _ _ (handedOut v) _ _ _; rw [handedOut_of hh]; exact Bf5 h))
noncomputable def MadeX (B:Bs) (g:Heap) (h:Heap) (ea:Addr) (why:Str):Prop:=
 ∃ t0 dx od t,h.get? ea=some { cls:=.ref 44,dict:=some dx,data:=.fields #[.ref t0,.none,.none,.none,.bool false,.none] }/\g.get? dx=some od/\lookIn "why" od=some (some (.str why t))/\g.get? ea=none/\B.k.get? ea=none
set_option tactic.hygienic true in
set_option maxHeartbeats 4000000 in
theorem Alq {why t E n} (R:RepC (PM w) B g A st σ s) (hm:Bg A (n + 2)) :
   wpAny (model (PM w).prog (PM w).w) A (call (.ref 44) [.str why t] []) (fun v s'=>∃ g' ea,g.StaysIn g'/\RepC (PM w) B g' A st σ s'/\v=.ref ea/\MadeX B g' s'.heap ea why) E s:=by
 obtain ⟨h,gs,dr,tk,os⟩:=s
 have X:(PM w).K.In h:=R.pc.kin.keeps R.fz
 have hC:=X 44 _ rfl
 refine Bbt (K:=(PM w).K) (C:=44) (fI:=28) X (by kernel_rfl) (by kernel_rfl) (by decide +kernel) (by decide +kernel) (by decide +kernel) hC (fun h1 e Aqc=>?_) (by show 1<=_; rw [Bn5]; decide)
 obtain ⟨t0,he1,ht1,ht2⟩:=Aqc.there
 have k1:h.StaysIn h1:=Aqc.keeps
 have R1:RepC (PM w) B g A st σ ⟨h1,gs,dr,tk,os⟩:=R.stays k1 tk
 have eg:g.get? e=none:=Aa2 R.fz Aqc.new
 have ek:B.k.get? e=none:=Aa0 R.keeps Aqc.new
 have es:σ e=none:=R.Aas Aqc.new
 obtain ⟨B',hB1,RB,hB2,hB3,hB4⟩:=R1.step (fun b=>b=e) (fun b hb=>by subst hb; exact ek)
 have X1:(PM w).K.In h1:=X.keeps k1
 have ho:=X1 28 _ rfl
 refine Ci8 (codeAny_call_function (by show A.depth + 1 < _; exact Bg6 (Bg9 ..) (rd (n:=n + 1) hm.1)) ho rfl rfl rfl rfl (codeRec_of X1 (by rfl)) ?_)
 refine Cg7 (show bindArgs _ _=pure [(Bf4 "self",Value.ref e),(Bf4 "why",Value.str why t)] from rfl) ?_
 have RB2:RepC (PM w) B' g ((A.under (.builtin "type.__call__" ⟨.ref 44 :: [Value.str why t],[]⟩)).in1) st σ ⟨h1,gs,dr,tk,os⟩:=(RB.Atd RB.stack)
 refine Aml RB2 (ds:=[(Bf4 "self",V.loc e),(Bf4 "why",V.str why)]) rfl (fun n=>by rw [Ab5]; decide) (fun n x hx=>?_) (fun x hx=>?_) rfl (.cons (.loc e) (.one (.str why t))) (fun x hx=>?_) (fun env s' he hfn hcd Bbo hst R2=>⟨Bbo,codeAny_func ?_⟩)
 · have:=lookup_mem hx; revert this; simp
 · have:=lookup_mem hx; revert this; simp
 · simp only [Bh7,Bj1,or_false] at hx; rcases hx with rfl | rfl <;> exact .inl rfl
 obtain ⟨outer,hou,hfr⟩:=he.top rfl
 have R3:Rep (PM w) B' g ((A.under (.builtin "type.__call__" ⟨.ref 44 :: [Value.str why t],[]⟩)).deeper env) (env :: st) env σ (putAll [(Bf4 "self",V.loc e),(Bf4 "why",V.str why)] fun _=>none) s':=
   ⟨(R2.Atd (Cg6 R.stack)),R2.fr,R2.own⟩
 clear R2
 obtain ⟨h2,gs2,dr2,tk2,os2⟩:=s'
 have he2:h2.get? e=some _:=hst _ _ he1
 have X2:(PM w).K.In h2:=X1.keeps hst
 have hC2:=X2 44 _ rfl
 refine Cb5 (wpAny_Expr (methodCall_KW (pl:=do return (<- importBound _ env).getD true) (ldB he R3 rfl (by rfl) (by rfl) (by decide) (by decide) ?_)) (by unfold interactive; rw [he.sc]; rfl) rfl)
 refine Aoz X2 (by rfl) (by kernel_rfl) (v:=.builtin "Exception.__init__") (by kernel_rfl) (by kernel_rfl) ?_
 refine Cf1 rfl (Adx (.inr ⟨_,_,rfl⟩) ?_)
 have R3':=R3.tok (tk2 + 1)
 refine Co4 (Cc1 (ldN (v:=.loc e) he R3' (.inl rfl) rfl (by decide) fun c hc=>?_) (by decide)) rfl
 obtain ⟨_,rfl⟩:=hc.inv
 refine Co4 (Cc1 (ldN (v:=.str why) he R3' (.inl rfl) rfl (by decide) fun c hc=>?_) (by decide)) rfl
 obtain ⟨_,rfl⟩:=hc.inv; rename_i t1
 refine wpAny_items_nil ?_
 refine Bai (C:=44) (by decide +kernel) hC2 he2 (by show 1<=_; rw [Bn5]; decide) ?_
 have he3:=Bk3 (Br3 (·.setIfInBounds 0 (.ref h2.objs.size))) (Bi2 { cls:=.type "tuple",data:=.seq [Value.str why t1].toArray } he2) rfl
 have n3:Ahk (·=e) g h2 ((h2.push { cls:=.type "tuple",data:=.seq [Value.str why t1].toArray }).update e (Br3 (·.setIfInBounds 0 (.ref h2.objs.size)))):=fun b o q hb=>.inl ((Bj4 _ _ (Bq1 hb)).trans (Bi2 _ q))
 have hz:∀ b,b=e->g.get? b=none/\B'.k.get? b=none:=fun b hb=>by subst hb; exact ⟨eg,by
   cases q:B'.k.get? b with
   | none=>rfl
   | some o=>exact absurd rfl ((hB2 b o).mp q).2.1⟩
 have R4:=R3'.B3 (fun b hb=>by subst hb; exact ⟨(hz _ rfl).1,(hz _ rfl).2,_,he2,_,rfl⟩) n3 (tk2 + 1)
 revert he3 R4; with_reducible refine gz ((h2.push { cls:=.type "tuple",data:=.seq [Value.str why t1].toArray }).update e (Br3 (·.setIfInBounds 0 (.ref h2.objs.size)))) fun h3 he3 R4=>?_
 have he3':h3.get? e=some { cls:=.ref 44,data:=.fields #[.ref h2.objs.size,.none,.none,.none,.bool false,.none] }:=he3
 clear he3 n3 R3 R3' he2 X2 hC2
 have X3:(PM w).K.In h3:=R4.pc.kin.keeps R4.fz
 -- self.why=why
 refine Cb5 (Ca1 (Cc1 (ldN (v:=.str why) he R4 (.inl rfl) rfl (by decide) fun c hc=>?_) (by decide)) rfl)
 obtain ⟨_,rfl⟩:=hc.inv; rename_i t2
 refine Cc1 (ldN (v:=.loc e) he R4 (.inl rfl) rfl (by decide) fun c hc=>?_) (by decide)
 obtain ⟨_,rfl⟩:=hc.inv
 have I3:InstAt h3 e _ 44 none:=⟨he3',rfl,rfl,trivial⟩
 refine set_plain X3 I3 (by kernel_rfl) (Akp (od:=none) (r:=none) (cd:=_) X3 I3 (by rfl) ?_ (by kernel_rfl) (by kernel_rfl) fun b=>?_)
 · show refuseLoop (.ref e) "__setattr__" [.ref 44,.ref 31,.type "Exception",.type "BaseException",.type "object"]=pure ()
   rw [Ck1,Ck1]; exact PySem.F.store_Exception.passes _
 refine Ao7 (C:=44) (cd:=_) X3 he3' rfl rfl ⟨_,rfl⟩ (by rfl) (by rfl) fun hash=>?_
 have ed:e≠h3.objs.size:=Bl8 (Bl2 he3')
 have he4:=(Bj4 ((h3.push emptyDict).update e fun o=>{ o with dict:=some h3.objs.size }) (Bp8 "why" hash (.str "why" (tk2 + 1 + 1)) (.str why t2)) (Bq1 ed)).trans (Bk3 (fun o=>{ o with dict:=some h3.objs.size }) (Bi2 emptyDict he3') rfl)
 have hd0:((h3.push emptyDict).update e fun o=>{ o with dict:=some h3.objs.size }).get? h3.objs.size=some emptyDict:=(Bj4 _ _ ed).trans (Bi1 _ rfl)
 have hp0:=Aao (name:="why") (hash:=hash) (key:=.str "why" (tk2 + 1 + 1)) (v:=.str why t2) (od:=emptyDict) rfl (by simp)
 have hd4:=Bk3 (Bp8 "why" hash (.str "why" (tk2 + 1 + 1)) (.str why t2)) hd0 (by rw [hp0]; rfl)
 rw [hp0] at hd4
 have n4:Ahk (·=e) g h3 (((h3.push emptyDict).update e fun o=>{ o with dict:=some h3.objs.size }).update h3.objs.size (Bp8 "why" hash (.str "why" (tk2 + 1 + 1)) (.str why t2))):=fun b o q hb=>
   .inl ((Bj4 _ _ (Bq1 (Bl8 (Bl2 q)))).trans ((Bj4 _ _ (Bq1 hb)).trans (Bi2 _ q)))
 have dg:g.get? h3.objs.size=none:=Aa2 R4.fz (Ak _)
 have dk':B'.k.get? h3.objs.size=none:=Aa0 R4.keeps (Ak _)
 have dk:B.k.get? h3.objs.size=none:=hB3 _ dk'
 have ds:σ h3.objs.size=none:=R4.Aas (Ak _)
 have dst:=R4.stk.Azt (Ak h3)
 have dl:h3.objs.size≠env.locals:=by
   obtain ⟨ml,⟨oL,es,ep,hL,_⟩,_⟩:=R4.fr.ns
   exact Bq0 (Bl2 hL)
 have dc:∀ x c,(env.kindOf x=some .cell∨env.kindOf x=some .free)->env.cells.lookup x=some c->c≠h3.objs.size:=fun x c hx hc=>by
   obtain ⟨c',cv,w1,w2,_⟩:=R4.fr.cel x hx
   rw [hc] at w1; cases w1
   exact Bl8 w2.lt
 have R5:=R4.B3 (fun b hb=>by subst hb; exact ⟨(hz _ rfl).1,(hz _ rfl).2,_,he3',_,rfl⟩) n4 (tk2 + 1 + 1 + 1)
 generalize hdx:h3.objs.size=dx at *
 revert he4 hd4 R5; with_reducible refine gz (((h3.push emptyDict).update e fun o=>{ o with dict:=some dx }).update dx (Bp8 "why" hash (.str "why" (tk2 + 1 + 1)) (.str why t2))) fun h4 he4 hd4 R5=>?_
 clear n4 hd0 R4 X3 I3
 have X4:(PM w).K.In h4:=R5.pc.kin.keeps R5.fz
 -- self.at=-1
 refine Cb5 (Ca1 (wpAny_UnaryOp (Cl9 (neg_int ?_))) rfl)
 have R5':=R5.tok (tk2 + 1 + 1 + 1 + 1 + 1)
 refine Cc1 (ldN (v:=.loc e) he R5' (.inl rfl) rfl (by decide) fun c hc=>?_) (by decide)
 obtain ⟨_,rfl⟩:=hc.inv
 have I4:InstAt h4 e _ 44 (some _):=⟨he4,rfl,rfl,hd4⟩
 refine set_plain X4 I4 (by kernel_rfl) (Akp (od:=some _) (r:=none) (cd:=_) X4 I4 (by rfl) ?_ (by kernel_rfl) (by kernel_rfl) fun b=>?_)
 · show refuseLoop (.ref e) "__setattr__" [.ref 44,.ref 31,.type "Exception",.type "BaseException",.type "object"]=pure ()
   rw [Ck1,Ck1]; exact PySem.F.store_Exception.passes _
 have hi5:(#[(⟨hash,.str "why" (tk2 + 1 + 1),.str why t2⟩:DictEntry)]).findIdx? (·.key.isStr "at")=none:=by
   rw [Array.findIdx?_eq_none_iff]
   intro y hy
   simp only [List.mem_toArray,Bf6] at hy
   subst hy
   show ((Bf4 "why") == (Bf4 "at"))=false
   decide
 refine Aie (C:=44) (cd:=_) X4 he4 rfl rfl (by rfl) (by rfl) hd4 rfl (by simp [Cc6]) hi5 (by show 1<=1000; decide) fun Arl=>?_
 have hp5:=Aao (name:="at") (hash:=Arl) (key:=.str "at" (tk2 + 1 + 1 + 1 + 1 + 1 + 1)) (v:=.int (-1) (tk2 + 1 + 1 + 1 + 1)) (od:={ emptyDict with data:=.dict (#[].push (⟨hash,.str "why" (tk2 + 1 + 1),.str why t2⟩:DictEntry)) (0 + 1) }) rfl hi5
 have hd5:=Bk3 (Bp8 "at" Arl (.str "at" (tk2 + 1 + 1 + 1 + 1 + 1 + 1)) (.int (-1) (tk2 + 1 + 1 + 1 + 1))) hd4 (by rw [hp5]; rfl)
 rw [hp5] at hd5
 have he5:=(Bj4 h4 (Bp8 "at" Arl (.str "at" (tk2 + 1 + 1 + 1 + 1 + 1 + 1)) (.int (-1) (tk2 + 1 + 1 + 1 + 1))) (Bq1 ed)).trans he4
 have R6:=R5'.Ao3 dg dk' ds dst dl dc (h':=h4.update dx (Bp8 "at" Arl (.str "at" (tk2 + 1 + 1 + 1 + 1 + 1 + 1)) (.int (-1) (tk2 + 1 + 1 + 1 + 1)))) (fun b o hb q=>(Bj4 _ _ (Bq1 hb)).trans q) (tk2 + 1 + 1 + 1 + 1 + 1 + 1 + 1)
 refine Cp6 ?_
 have RC:=hB4 g _ [env] st σ _ R6.toRepC R.stack
 have hsn:=Aa4 (a:=dx) R6.fz
 refine ⟨rfl,_,e,hsn,RC.grow (a:=dx) hd5 dk ds (fun f=>by have q:Value.type "dict"=Value.type "frame":=f.1; exact absurd q (by decide)),rfl,h2.objs.size,dx,_,t2,he5,Abt.trans hd5,?_,Aa8 ed eg,ek⟩
 unfold lookIn
 simp only [List.push_toArray,Cb2,Bx0]
 rw [show (List.find? (fun x:DictEntry=>x.key.isStr "why") [⟨hash,.str "why" (tk2 + 1 + 1),.str why t2⟩,⟨Arl,.str "at" (tk2 + 1 + 1 + 1 + 1 + 1 + 1),.int (-1) (tk2 + 1 + 1 + 1 + 1)⟩])=some ⟨hash,.str "why" (tk2 + 1 + 1),.str why t2⟩ from by
   rw [List.find?_cons_of_pos]
   show ((Bf4 "why") == (Bf4 "why"))=true
   decide]
end
section
variable {M:Model} {A:Around} {E:Value->Shared->Prop} {env:Env}
variable {nm q:Str} {C N:Addr} {bs bm:List Value} {Av2:Bool} {sn:List Str} {sub:List Value} {ab:Bool} {col:Option Bool} {dd:Option Addr} {k0 k1 k2 k3 k5:Option Value} {newId:String}
theorem Ay0 {s x Q} (hcB:(Value.ref C :: bm).contains (.type "BaseException")=true) (hh:A.handled=none)
  (h:wpAny M A x (fun v s₁=>∃ e t dx,v=.ref e/\s₁.heap.get? C=some (Ck3 nm q C N bs bm Av2 sn sub ab col dd k0 k1 k2 k3 k5 newId) ∧
   s₁.heap.get? e=some { cls:=.ref C,dict:=some dx,data:=.fields #[.ref t,.none,.none,.none,.bool false,.none] }/\E (.ref e) s₁) E s) :
  wpAny M A (raiseStmt env (some x) none) Q E s:=by
 unfold raiseStmt
 refine Be8 (Bf2 h (fun v s₁ h₁=>?_) fun _ _ x=>x)
 obtain ⟨e,t,dx,rfl,hC,he,hE⟩:=h₁
 obtain ⟨hp,g,d,tk,os⟩:=s₁
 repeat (first | with_reducible refine Bp3 he ?_ | with_reducible refine Bp3 hC ?_ | (refine Bu2 hC ?_; rw [hcB]) | wp_step)
 exact wpAny_raiseNew_none hh hE
end
set_option tactic.hygienic true in
theorem Ak6 (name:Str) (o:Obj):(Ck9 name o).cls=o.cls:=by
 rw [Obj.dropName_eq]
 obtain ⟨c,d,dt,sl⟩:=o
 cases dt <;> try rfl
 rename_i es n
 simp only [Obj.dropNameByArray]
 cases es.findIdx? (·.key.isStr name) <;> rfl
theorem Aj3 {name o es n} (hd:o.data=.dict es n):∃ es' n',(Ck9 name o).data=.dict es' n'/\((∃ i,es'=es.eraseIdxIfInBounds i)∨es'=es):=by
 rw [Obj.dropName_eq]
 obtain ⟨c,d,dt,sl⟩:=o
 simp only at hd; subst hd
 simp only [Obj.dropNameByArray]
 cases es.findIdx? (·.key.isStr name) with
 | none=>exact ⟨_,_,rfl,.inr rfl⟩
 | some i=>exact ⟨_,_,rfl,.inl ⟨i,rfl⟩⟩
theorem Az6 {M A E s a m name v Q} (hn:s.heap.Ns a m) (hv:m name=some v)
   (hQ:∀ h' m' o',h'.Ns a m'->Bq6 a s.heap h'->h'.get? a=some o'->(∀ o,s.heap.get? a=some o->o'.cls=o.cls)->(∃ es n,o'.data=.dict es n)->Q true { s with heap:=h' }):wpAny M A (nsDel a name) Q E s:=by
 obtain ⟨o,es,ep,ho,hd,hk,hm⟩:=id hn
 have Ayg:es.any (·.refKey)=false:=by
   rw [Array.any_eq_false']; intro e he; obtain ⟨n,t,h⟩:=hk e he; simp [Cc6,h]
 have Are:es.any (·.key.isStr name)=true:=by
   have:=hm name
   rw [hv] at this
   simp only [nsFind,findBy] at this
   obtain ⟨e,h1,_⟩:=Bn6.mp this
   obtain ⟨i,hi,rfl⟩:=Array.mem_iff_getElem.mp (Array.mem_of_find?_eq_some h1)
   exact Array.any_eq_true.mpr ⟨i,hi,Array.find?_some (p:=fun e:DictEntry=>e.key.isStr name) h1⟩
 have Be2:nsHas name o=pure true:=by
   rw [nsHas_eq]; unfold nsHasByArray; rw [hd]
   show (if (es.any fun x=>x.key.isStr name)=true then _ else _)=_
   rw [if_pos Are]
 unfold nsDel
 refine Be8 (Ca6 ho ?_)
 rw [Be2]
 refine Be8 (Bf5 ?_)
 refine Be8 (Ch1 ho (Bf5 ?_))
 obtain ⟨es',n',e1,e2⟩:=Aj3 (name:=name) hd
 have e3:=Bk3 (Ck9 name) ho (by
   generalize Ck9 name o=q at e1
   obtain ⟨_,_,dt,_⟩:=q; cases e1; rfl)
 refine hQ _ _ _ ⟨_,es',n',e3,e1,?_,fun _=>rfl⟩ (Bv3 ..) e3 (fun o' q=>by rw [ho] at q; cases q; exact Ak6 _ _) ⟨_,_,e1⟩
 rcases e2 with ⟨i,rfl⟩ | rfl
 · exact hk.erase i
 · exact hk
section
variable {w:World} {n:Nat} {fx:Fx} {σ:Sto} {m:A8} {X:Xt}
theorem Asr {np cpos pos e Q} (hk:fx.sc.names.lookup (Bf4 "Misused")=some .globalImplicit)
  (h:Ev (PM w) (n + 2) fx e σ m (fun v σ'=>∃ why,v=.str why/\X why σ' m) X)
  (ha:∀ env,Bk5 [e] env=[(false,eval e env)]:=by intro _; rfl):Ex (PM w) (n + 2) fx (.Raise (some (.Call (.Name "Misused" np) [e] [] cpos)) none pos) σ m Q X:=
 fun A st B g env s he hr hm=>by
  show wpAny _ _ (exec _ env) _ _ _
  rw [arm_exec_Raise]
  have hC:∀ {g':Heap},PC (PM w) g'->g'.get? 44=some _:=fun x=>x.kin 44 _ rfl
  have e1:∀ x,evalOpt (some x) env=some (eval x env):=fun _=>rfl
  have e2:evalOpt none env=none:=rfl
  simp only [e1,e2,Option.map]
  refine Be8 (Bo2 (Ay0 (C:=44) (nm:="Misused") (q:="Misused") (N:=43) (bs:=[.ref 31]) (bm:=[.ref 31,.type "Exception",.type "BaseException",.type "object"]) (Av2:=true) (sn:=[]) (sub:=[]) (ab:=false) (col:=none) (dd:=none) (k0:=some (.ref 35)) (k1:=none) (k2:=some (.str "Misused" 219)) (k3:=some (.str "Misused" 227)) (k5:=some (.bool true)) (newId:="Exception.__new__") (by decide +kernel) hm.2.2 (Q:=_) ?_))
  refine Be8 (Bf2 (Q:=fun v s₁=>∃ e t dx,v=Value.ref e/\s₁.heap.get? 44=some _/\s₁.heap.get? e=some { cls:=.ref 44,dict:=some dx,data:=.fields #[.ref t,.none,.none,.none,.bool false,.none] }/\XP (PM w) B A st env g X (.ref e) s₁) ?_ (fun v s₃ h₃=>Be8 (Bo2 (Bf5 h₃))) fun _ _ x=>x)
  refine Bw8 (ldG he hr hk (by rfl) (by decide) (callWith_K (hr.pc.kin.keeps hr.fz) (by kernel_rfl) ?_ (ha env) (by rfl)))
  have hx:=h A st B g env s he hr hm
  have:=(Aeh (pos:=cpos) (es:=[]) (Q:=fun vs σ'=>∃ why,vs=[.str why]/\X why σ' m) (Ag h fun v σ' qA=>by obtain ⟨why,e1,e2⟩:=qA; exact Ali ⟨why,by rw [e1],e2⟩) ha) A st B g env s he hr hm
  refine Bf2 this (fun vs s' qM=>?_) fun _ _ q=>q
  obtain ⟨g',σ',m',ds,hg,hr',hv,hm',hlen,why,e1,e2⟩:=qM
  subst hm'; subst e1
  replace hv:=hv.inv; obtain ⟨_,_,rfl,hv,t⟩:=hv
  ·
   cases t; obtain ⟨_,rfl⟩:=hv.inv
   refine ⟨hr'.pc.kin.keeps hr'.fz,?_⟩
   obtain ⟨B',RB,hB3,hB4⟩:=hr'.call
   refine Bf2 (Alq (n:=n) (E:=XP (PM w) B A st env g X) RB hm) (fun v s3 qM=>?_) fun _ _ q=>q
   obtain ⟨g3,ea,hg3,R3,ev,t0,dx,od,t1,w1,w2,w3,w4,w5⟩:=qM
   subst ev
   refine ⟨ea,t0,dx,rfl,R3.fz _ _ (hC R3.pc),w1,g3,σ',m',why,ea,A3 hg hg3,hB4 _ _ _ R3,rfl,⟨_,_,_,dx,od,t1,w1,rfl,rfl,rfl,rfl,w2,w3,rfl,w4,hB3 _ w5,.no⟩,e2⟩
theorem Ap5 {tp np rp cp ap p1 hp pos nm y body Q} (hc:fx.comp=false) (hk:fx.sc.names.lookup (Bf4 "Misused")=some .globalImplicit) (hn:fx.sc.names.lookup nm=some .local) (hy:fx.sc.names.lookup y=some .local) (hny:y≠nm)
  (d1:(nm == ("__classdict__" : Str))=false) (d2:(nm == ("__debug__" : Str))=false) (d3:(y == ("__classdict__" : Str))=false) (d4:(y == ("__debug__" : Str))=false)
  (h:Exs (PM w) n fx body σ m (fun _ _ _=>False) (fun why σ' m'=>∃ x,m' y=some (.str x)/\Q (.ret (.bool (decide (why=x)))) σ' (fun _=>none))) :
  Ex (PM w) n fx (.Try body [.ExceptHandler (some (.Name "Misused" tp)) (some nm) [.Return (some (.Compare (.Attribute (.Name nm np) "why" ap) [.Eq] [.Name y p1] cp)) rp] hp] [] [] pos) σ m Q X:=
 fun A st B g env s he hr hm=>by
  obtain ⟨outer,hst,hfr⟩:=he.top hc
  have hkf:env.scope.kind=.function:=by rw [he.sc]; exact he.kind
  refine wpAny_Try_except (Bf2 (h A st B g env s he hr hm) (fun f s' qD=>by obtain ⟨g',σ',m',b,hg,hr',hf,hq⟩:=qD; exact hq.elim) fun e s₁ qM=>?_)
  obtain ⟨g1,σ1,m1,why,ea,hg1,hr1,hev,hx1,x,hmx,hq1⟩:=qM
  subst hev
  refine Ad1 hst hfr hr1.toRepC hx1 fun h2 Z T k1 k3 k4=>?_
  have hr2:=hr1.B3 k3 k4 s₁.toks
  refine Ac6 (s:={ s₁ with heap:=h2 }) k1 fun h3 Z3 l1 l3 l4=>?_
  have hr3:=hr2.B3 l3 l4 s₁.toks
  clear k1 k3 k4 hr2
  refine wpAny_handleBy_cons (codeAny_handlers_test ?_) (by intro q; cases q)
  have R4:Rep (PM w) B g1 (A.mark (some (.ref ea))) st env σ1 m1 { s₁ with heap:=h3 }:=⟨(hr3.Atd (hr.stack)),hr3.fr,hr3.own⟩
  refine ldG he R4 hk (by rfl) (by decide) ?_
  have hC:h3.get? 44=some _:=hr3.fz _ _ (hr3.pc.kin 44 _ rfl)
  obtain ⟨oe,vs,dx,od,t,x1,x2,x3,x4,x5,x6,x7,x8,x9,x10,x11⟩:=id l1
  obtain ⟨hh,gs,dr,tk,os⟩:=s₁
  refine wpAny_excMatches_sub_self hC x1 x2 (by decide +kernel) ?_
  have he1:(if true then Flow.brk else Flow.next)=Flow.brk:=rfl
  rw [he1]
  have R5:Rep (PM w) B g1 (A.mark (some (.ref ea))) st env σ1 m1 ⟨h3,gs,dr,tk,os⟩:=R4
  refine codeAny_handlers_suite_as ?_
  refine Ac6 (s:=⟨h3,gs,dr,tk,os⟩) l1 fun h4 Z4 q1 q3 q4=>?_
  have R6:=R5.B3 q3 q4 tk
  obtain ⟨oe,vs,dx,od,t,x1,x2,x3,x4,x5,x6,x7,x8,x9,x10,x11⟩:=id q1
  refine Aux he R6 (.inl hn) (.loc ea) fun h5 tk5 R7 j1 j2=>?_
  have e5:h5.get? ea=some oe:=j1 ea oe (by
      rintro rfl
      obtain ⟨ml,⟨oL,es,ep,hL,hd,_⟩,_⟩:=R6.fr.ns
      rw [x1] at hL; cases hL; rw [x3] at hd; cases hd) (fun z c hz hzc=>by
      rintro rfl
      obtain ⟨c',cv,w1,⟨o',w2,w3⟩,_⟩:=R6.fr.cel z hz
      rw [hzc] at w1; cases w1; rw [x1] at w2; cases w2; rw [x3] at w3; cases w3) x1
  have X5:(PM w).K.In h5:=R7.pc.kin.keeps R7.fz
  have I5:InstAt h5 ea oe 44 (some od):=⟨e5,x2,by unfold notCls; rw [x3],by rw [x5]; exact R7.fz _ _ x6⟩
  refine Cb5 (wpAny_Return_some (wpAny_Compare1 (Attribute_Name_ (Cc1 (ldN (v:=.loc ea) he R7 (.inl hn) (by simp [A8.put]) d1 fun c hcv=>?_) d2))))
  · obtain ⟨_,rfl⟩:=hcv.inv
    have hmy:(m1.put nm (.loc ea)) y=some (.str x):=by simp [A8.put,hny,hmx]
    refine Bcs (C:=44) (v:=.str why t) X5 I5 (by kernel_rfl) (by kernel_rfl) (by kernel_rfl) (findObj_own (attr:=none) (by kernel_rfl) (by kernel_rfl) rfl x7) rfl ?_
    have R8:=R7.tok (tk5 + 1)
    refine Cc1 (ldN (v:=.str x) he R8 (.inl hy) hmy d3 fun c hcv=>?_) d4
    obtain ⟨_,rfl⟩:=hcv.inv
    refine eq_str ?_
    -- the name goes
    refine Be8 (wpAny_bindName ?_)
    have R9:Rep (PM w) B g1 A st env σ1 (m1.put nm (.loc ea)) ⟨h5,gs,dr,tk5 + 1,os⟩:=⟨(R8.Atd (hr.stack)),R8.fr,R8.own⟩
    refine Aux (s:=⟨h5,gs,dr,tk5 + 1,os⟩) he R9 (.inl hn) .none fun h6 tk6 R10 _ _=>?_
    unfold unbindBehindTheSuite
    refine wpAny_onRaise ?_
    unfold unbindName
    refine Be8 (wpAny_point (Be8 ?_))
    unfold deleteName
    have hkl:env.kindOf nm=some .local:=by unfold Bx8; rw [he.sc]; exact hn
    have hp:(env.scope.kind == .class || (env.scope.kind == .module && env.locals != env.globals))=false:=by rw [hkf]; rfl
    simp only [hkl,hp]
    rw [if_neg (by decide)]
    obtain ⟨ml,hns,hml⟩:=R10.fr.ns
    obtain ⟨c0,hc0,_⟩:=hml nm .none (by simp [A8.put]) hkl
    refine Be8 (Az6 hns hc0 fun h7 m7 o7 n7 s7 g7 cl7 d7=>?_)
    simp only [if_true,Option.isSome_some,Bool.not_true,Bp6,if_false]
    refine Bf5 (wpAny_point ?_)
    have RF:RepC (PM w) B g1 A st σ1 ⟨h7,gs,dr,tk6,os⟩:=by
      have R:=R10.toRepC
      refine ⟨R.pc,R.stack,R.stk.keeps (fun b o e f=>?_) (fun _ _ _ _ e=>e),fun b o e=>?_,fun b o e=>(s7.2 b (by rintro rfl; rw [R10.own.loc.1] at e; cases e)).trans (R.fz b o e),R.ext,R.new,fun b z e=>?_,R.gens,R.drawn,R.os⟩
      · by_cases hb:b=env.locals
        · subst hb; exact ⟨o7,g7,(cl7 o e).trans f.1,d7⟩
        · exact ⟨o,(s7.2 b hb).trans e,f⟩
      · have hb:b≠env.locals:=by rintro rfl; rw [R10.own.loc.2.1] at e; cases e
        rcases R.keeps b o e with q | ⟨f,sl,q⟩
        · exact .inl ((s7.2 b hb).trans q)
        · exact .inr ⟨f,sl,(s7.2 b hb).trans q⟩
      · obtain ⟨w1,w2,o,w3,w4⟩:=R.sto b z e
        exact ⟨w1,w2,o,(s7.2 b (by rintro rfl; rw [R10.own.loc.2.2] at e; cases e)).trans w3,w4⟩
    refine ⟨g1,σ1,fun _=>none,_,hg1,⟨RF,⟨⟨m7,n7,fun z v e=>by cases e⟩,fun z hz=>?_,R10.fr.apart⟩,R10.own⟩,.ret (.bool _),?_⟩
    · obtain ⟨d,cv,w1,w2,_⟩:=R10.fr.cel z hz
      exact ⟨d,cv,w1,w2.sameBut s7 (Abg R10.fr hz w1),fun v e=>by cases e⟩
    · rw [show (why == x)=decide (why=x) from by by_cases e:why=x <;> simp [e]]; exact hq1
end
noncomputable def Al5 (m0 m:A8):Prop:=∀ x v,m0 x=some v->m x=some v
section
variable {P:Pm} {n:Nat} {fx:Fx} {σ:Sto} {m:A8} {X:Xt}
theorem Aqu {en t body ds σ0 m0 Q} (hs:Sub σ0 σ) (hv:Al5 m0 m) (h:Lp P n fx en t body ds σ0 m0 Q X):Lp P n fx en t body ds σ m Q X:=
 fun A st B g env s it he hr hm hi=>h A st B g env s it he ((hr.forget hs).drop hv) hm hi
theorem Apx {t body σ0 m0 Q} (hs:Sub σ0 σ) (hv:Al5 m0 m) (h:Wl P n fx t body σ0 m0 Q X):Wl P n fx t body σ m Q X:=
 fun A st B g env s he hr hm=>h A st B g env s he ((hr.forget hs).drop hv) hm
theorem Av1 {en src e d acc ds σ0 Q} (hs:Sub σ0 σ) (h:ClS P n fx en src e d acc ds σ0 m Q):ClS P n fx en src e d acc ds σ m Q:=
 fun A st B g env s it he hr hm hi=>h A st B g env s it he (hr.forget hs) hm hi
theorem Azg {en target body Q} {α:Type} (τ:α->Sto) (μ:α->A8) (I:List V->α->Prop) (hc:fx.comp=false) (hgo:(∃ elts k pos,target=.Tuple elts k pos)∨((∀ it v,Bl4 target it v=pure ())/\en=false))
  (Ajg:∀ a,I [] a->Q .next (τ a) (μ a))
  (Ay:∀ d r a,I (d :: r) a->Bd P n fx target d (τ a) (μ a) (fun σ' m'=>Exs P n fx body σ' m' (fun f σ'' m''=>match f with | .next | .cont=>∃ a',I r a'/\Sub (τ a') σ''/\Al5 (μ a') m'' | .brk=>Q .next σ'' m'' | .ret v=>Q (.ret v) σ'' m'') X) X) :
  ∀ (ds:List V) (a:α),I ds a->Lp P n fx en target body ds (τ a) (μ a) Q X:=by
 intro ds
 induction ds with
 | nil=>exact fun a h=>Aus hc hgo (fun _=>Ajg a h) (fun d r e=>nomatch e)
 | cons d r ih=>
  refine fun a h=>Aus hc hgo (fun e=>nomatch e) (fun d' r' e=>?_)
  · cases e
    refine fun A st B g env s v he hr hm hv=>Bf2 (Ay d r a h A st B g env s v he hr hm hv) (fun _ s' qM=>?_) fun _ _ x=>x
    obtain ⟨g',σ',m',hg,hr',hq⟩:=qM
    refine ⟨g',σ',m',hg,hr',?_⟩
    refine JS.mono hq (fun f σ'' m'' hh=>?_) fun _ _ _ x=>x
    induction f using Flw.casesOn with
    | next=>obtain ⟨a',h1,h2,h3⟩:=hh; exact Aqu h2 h3 (ih a' h1)
    | cont=>obtain ⟨a',h1,h2,h3⟩:=hh; exact Aqu h2 h3 (ih a' h1)
    | brk=>exact hh
    | ret v=>exact hh
theorem Axl {en target body ds Q} {α:Type} (τ:α->Sto) (μ:α->A8) (I:List V->α->Prop) (a0:α) (hc:fx.comp=false) (hgo:(∃ elts k pos,target=.Tuple elts k pos)∨((∀ it v,Bl4 target it v=pure ())/\en=false))
 (h0:I ds a0) (hs:Sub (τ a0) σ) (hv:Al5 (μ a0) m) (Ajg:∀ a,I [] a->Q .next (τ a) (μ a))
 (Ay:∀ d r a,I (d :: r) a->Bd P n fx target d (τ a) (μ a) (fun σ' m'=>Exs P n fx body σ' m' (fun f σ'' m''=>match f with | .next | .cont=>∃ a',I r a'/\Sub (τ a') σ''/\Al5 (μ a') m'' | .brk=>Q .next σ'' m'' | .ret v=>Q (.ret v) σ'' m'') X) X) :
 Lp P n fx en target body ds σ m Q X:=Aqu hs hv (Azg τ μ I hc hgo Ajg Ay ds a0 h0)
theorem Az8 {test body Q} {α:Type} (τ:α->Sto) (μ:α->A8) (I:Nat->α->Prop) (hc:fx.comp=false)
  (Ay:∀ k a,I k a->Tt P n fx test (τ a) (μ a) (fun b σ'=>if b then Exs P n fx body σ' (μ a) (fun f σ'' m''=>match f with | .next | .cont=>∃ a' k',k' < k/\I k' a'/\Sub (τ a') σ''/\Al5 (μ a') m'' | .brk=>Q .next σ'' m'' | .ret v=>Q (.ret v) σ'' m'') X else Q .next σ' (μ a)) X) (k:Nat) :
  ∀ (a:α),I k a->Wl P n fx test body (τ a) (μ a) Q X:=by
 induction k using Nat.strongRecOn with
 | ind k ih=>
  intro a h
  refine Avn hc (JS.mono (Ay k a h) (fun b σ' m' hh=>⟨hh.1,?_⟩) fun _ _ _ x=>x)
  have hh:=hh.2
  cases b with
  | true=>
   refine JS.mono hh (fun f σ'' m'' hq=>?_) fun _ _ _ x=>x
   induction f using Flw.casesOn with
   | next=>obtain ⟨a',k',h1,h2,h3,h4⟩:=hq; exact Apx h3 h4 (ih k' h1 a' h2)
   | cont=>obtain ⟨a',k',h1,h2,h3,h4⟩:=hq; exact Apx h3 h4 (ih k' h1 a' h2)
   | brk=>exact hq
   | ret v=>exact hq
  | false=>exact hh
theorem Ays {test body Q} {α:Type} (τ:α->Sto) (μ:α->A8) (I:Nat->α->Prop) (k0:Nat) (a0:α) (hc:fx.comp=false) (h0:I k0 a0) (hs:Sub (τ a0) σ) (hv:Al5 (μ a0) m)
 (Ay:∀ k a,I k a->Tt P n fx test (τ a) (μ a) (fun b σ'=>if b then Exs P n fx body σ' (μ a) (fun f σ'' m''=>match f with | .next | .cont=>∃ a' k',k' < k/\I k' a'/\Sub (τ a') σ''/\Al5 (μ a') m'' | .brk=>Q .next σ'' m'' | .ret v=>Q (.ret v) σ'' m'') X else Q .next σ' (μ a)) X) :
 Wl P n fx test body σ m Q X:=Apx hs hv (Az8 τ μ I hc Ay k0 a0 h0)
theorem Ap0 {en src elt c scope pos acc Q} {α:Type} (τ:α->Sto) (I:List V->List V->α->Prop) (ha:c.is_async=0) (Auq:∀ a l all,src=some (l,all)->τ a l=some (.list all)/\l≠acc)
  (hgo:(∃ elts k pos,c.target=.Tuple elts k pos)∨((∀ it v,Bl4 c.target it v=pure ())/\en=false))
  (Ajg:∀ vs a,I [] vs a->Q ((τ a).put acc (.list vs)))
  (Ay:∀ x r vs a,I (x :: r) vs a->vs.length<=100000/\Bd P n fx c.target x ((τ a).put acc (.list vs)) m (fun σ1 m1=>(∀ y v,m y=some v->m1 y=some v)/\Ts P n fx c.ifs σ1 m1 (fun b σ2=>if b then
     Ev P n fx elt σ2 m1 (fun v σ3=>∃ a',I r (vs ++ [v]) a'/\Sub ((τ a').put acc (.list vs)) σ3) noX
     else ∃ a',I r vs a'/\Sub ((τ a').put acc (.list vs)) σ2)) noX) (ds:List V) :
  ∀ (vs:List V) (a:α),I ds vs a->ClS P n fx en src (.ListComp elt [c] scope pos) 0 acc ds ((τ a).put acc (.list vs)) m Q:=by
 have hs:∀ (a:α) (vs:List V) l all,src=some (l,all)->(τ a).put acc (.list vs) l=some (.list all):=fun a vs l all e=>by rw [Sto.A4 _ _ (Auq a l all e).2]; exact (Auq a l all e).1
 induction ds with
 | nil=>exact fun vs a h=>Ai8 (c:=c) rfl ha (fun _ e=>nomatch e) (hs a vs) hgo (fun _=>Ajg vs a h) (fun d r e=>nomatch e)
 | cons x r ih=>
  refine fun vs a h=>Ai8 (c:=c) rfl ha (fun _ e=>nomatch e) (hs a vs) hgo (fun e=>nomatch e) (fun d' r' e=>?_)
  cases e
  refine fun A st B g env s v he hr hm hv=>Bf2 ((Ay x r vs a h).2 A st B g env s v he hr hm hv) (fun _ s' qM=>?_) fun _ _ x=>x
  obtain ⟨g',σ',m',hg,hr',hk,hq⟩:=qM
  refine ⟨g',σ',m',hg,hr',hk,?_⟩
  refine JS.mono hq (fun b σ'' m'' hh=>⟨hh.1,?_⟩) fun _ _ _ x=>x
  replace hh:=hh.2
  cases b with
  | false=>exact hh.elim fun a' h2=>Av1 h2.2 (ih vs a' h2.1)
  | true=>
   refine Ag hh fun v σ3 hh=>hh.elim fun a' h2=>⟨vs,h2.2 _ _ (Sto.A0 ..),(Ay x r vs a h).1,?_⟩
   refine Av1 (σ0:=(τ a').put acc (.list (vs ++ [v]))) (fun b o e=>?_) (ih (vs ++ [v]) a' h2.1)
   by_cases hb:b=acc
   · subst hb; rw [Sto.A0] at e ⊢; exact e
   · rw [Sto.A4 _ _ hb] at e ⊢
     exact h2.2 b o (by rw [Sto.A4 _ _ hb]; exact e)
theorem Ams {β:Type} {en src elt c scope pos acc Q} (l:List β) (f:β->V) (G:β->Option V) (ha:c.is_async=0) (Auq:∀ l all,src=some (l,all)->σ l=some (.list all)/\l≠acc)
   (hgo:(∃ elts k pos,c.target=.Tuple elts k pos)∨((∀ it v,Bl4 c.target it v=pure ())/\en=false)) (hl:l.length<=100000)
   (Ajg:Q (σ.put acc (.list (l.filterMap G))))
   (Ay:∀ x∈l,∀ vs,Bd P n fx c.target (f x) (σ.put acc (.list vs)) m (fun σ1 m1=>Al5 m m1/\Ts P n fx c.ifs σ1 m1 (fun b σ2=>if b then
     Ev P n fx elt σ2 m1 (fun v σ3=>G x=some v/\Sub (σ.put acc (.list vs)) σ3) noX
     else G x=none/\Sub (σ.put acc (.list vs)) σ2)) noX) :
   ClS P n fx en src (.ListComp elt [c] scope pos) 0 acc (l.map f) (σ.put acc (.list [])) m Q:=by
 refine Ap0 (α:=List β × List β) (τ:=fun _=>σ) (I:=fun r vs a=>l=a.1 ++ a.2/\r=a.2.map f/\vs=a.1.filterMap G) ha (fun _=>Auq) hgo (fun vs a h=>?_) (fun x r vs a h=>?_) (l.map f) [] ([],l) ⟨rfl,rfl,rfl⟩
 · obtain ⟨d,e⟩:=a
   obtain ⟨e1,e2,rfl⟩:=h
   cases e with
   | nil=>rw [show d=l from (Bh4 d ▸ e1).symm]; exact Ajg
   | cons _ _=>nomatch e2
 · obtain ⟨d,e⟩:=a
   obtain ⟨e1,e2,rfl⟩:=h
   cases e with
   | nil=>nomatch e2
   | cons y e=>
    cases e2
    have e1:l=d ++ y :: e:=e1
    refine ⟨Be7 (List.length_filterMap_le _ _) (Be7 (by rw [e1,Bf1]; exact Bg9 ..) hl),?_⟩
    have nx:∀ {w:List V},[y].filterMap G=w->l=(d ++ [y]) ++ e/\e.map f=e.map f/\d.filterMap G ++ w=(d ++ [y]).filterMap G:=fun h=>⟨by rw [e1,Bj0]; rfl,rfl,by rw [List.filterMap_append,h]⟩
    refine fun A st B g env s v he hr hm hv=>Bf2 (Ay y (by rw [e1]; exact Bh9 _ (.head _)) _ A st B g env s v he hr hm hv) (fun _ s' qM=>?_) fun _ _ x=>x
    obtain ⟨g',σ',m',hg,hr',hk,hq⟩:=qM
    refine ⟨g',σ',m',hg,hr',hk,?_⟩
    refine JS.mono hq (fun b σ'' m'' hh=>⟨hh.1,?_⟩) fun _ _ _ x=>x
    replace hh:=hh.2
    cases b with
    | false=>exact ⟨(d ++ [y],e),(by have:=nx (w:=[]) (by rw [Bq2,hh.1]; rfl); rwa [Bh4] at this),hh.2⟩
    | true=>exact Ag hh fun v σ3 h=>⟨(d ++ [y],e),nx (by rw [Bq2,h.1]; rfl),h.2⟩
theorem Sto.Abm {σ:Sto} {a:Addr} {o:O} (h:σ a=none):(σ.put a o).del a=σ:=funext fun b=>by
 by_cases hb:b=a
 · subst hb; simp [Sto.del,h]
 · simp [Sto.del,Sto.put,hb]
theorem Aiz {β:Type} (l:List β) (g:β->V):l.filterMap (fun x=>some (g x))=l.map g:=congrFun List.filterMap_eq_map' l
theorem Aqn {i j Q} (h1:-1000000<=i) (h2:i<=1000000) (h:Q (.int (i * j)) σ):Bo P n .Mult (.int i) (.int j) σ Q:=Auw h (IntMulOk.of_left (intBits_le_64 (Bn9 (by decide) h1) (Cc5 h2 (by decide))))
theorem Ag0 {x pos} (v:V) {Q} (hk:fx.sc.names.lookup x=some .local∨fx.sc.names.lookup x=some .cell∨fx.sc.names.lookup x=some .free) (hd:(x == ("__classdict__" : Str))=false) (hd':(x == ("__debug__" : Str))=false) (hv:m x=some v) (h:Q v σ):Ev P n fx (.Name x pos) σ m Q X:=Awz hk hv h hd hd'
theorem An1 {x np pos e es} (a:Addr) {Q} (hk:fx.sc.names.lookup x=some .globalImplicit) (hv:nsIn P.K Bl3 x=some (some (.ref a))) (Aj6:keepIn P.K (.ref a)=true) (hd:(x == ("__debug__" : Str))=false)
 (ha:∀ env,Bk5 (e :: es) env=(false,eval e env) :: Bk5 es env) (hp:∀ env,(By5 pos (Bk5 es env)).any (·.1)=false)
 (h:Evs P n fx pos (e :: es) σ m (fun vs σ'=>Fn P n (.ref a) vs σ' Q (fun why σ''=>X why σ'' m)) X):Ev P n fx (.Call (.Name x np) (e :: es) [] pos) σ m Q X:=Awn hk hv Aj6 h hd ha hp
theorem Aqr {x np pos} (a:Addr) {Q} (hk:fx.sc.names.lookup x=some .globalImplicit) (hv:nsIn P.K Bl3 x=some (some (.ref a))) (Aj6:keepIn P.K (.ref a)=true) (hd:(x == ("__debug__" : Str))=false)
 (h:Fn P n (.ref a) [] σ Q (fun why σ''=>X why σ'' m)):Ev P n fx (.Call (.Name x np) [] [] pos) σ m Q X:=At7 hk hv Aj6 h hd
theorem Azj {x np pos e es} (id:String) {Q} (hk:fx.sc.names.lookup x=some .globalImplicit) (hv:nsIn P.K Bl3 x=some none) (hb:Bs7 x=some (.builtin id)) (hx:x≠"__name__") (hd:(x == ("__debug__" : Str))=false)
 (ha:∀ env,Bk5 (e :: es) env=(false,eval e env) :: Bk5 es env) (hp:∀ env,(By5 pos (Bk5 es env)).any (·.1)=false)
 (h:Evs P n fx pos (e :: es) σ m (fun vs σ'=>Bt P n (.builtin id) vs σ' Q) X):Ev P n fx (.Call (.Name x np) (e :: es) [] pos) σ m Q X:=Ba1 hk hv hb h hx hd ha hp
theorem Ayc {x np pos e es} (T:String) {Q} (hk:fx.sc.names.lookup x=some .globalImplicit) (hv:nsIn P.K Bl3 x=some none) (hb:Bs7 x=some (.type T)) (hx:x≠"__name__") (hd:(x == ("__debug__" : Str))=false)
 (ha:∀ env,Bk5 (e :: es) env=(false,eval e env) :: Bk5 es env) (hp:∀ env,(By5 pos (Bk5 es env)).any (·.1)=false)
 (h:Evs P n fx pos (e :: es) σ m (fun vs σ'=>Bt P n (.type T) vs σ' Q) X):Ev P n fx (.Call (.Name x np) (e :: es) [] pos) σ m Q X:=Baf hk hv hb h hx hd ha hp
theorem Avs {en x np pos e es} (T:String) {Q} (hk:fx.sc.names.lookup x=some .globalImplicit) (hv:nsIn P.K Bl3 x=some none) (hb:Bs7 x=some (.type T)) (hx:x≠"__name__") (hd:(x == ("__debug__" : Str))=false)
 (ha:∀ env,Bk5 (e :: es) env=(false,eval e env) :: Bk5 es env) (hp:∀ env,(By5 pos (Bk5 es env)).any (·.1)=false)
 (h:Evs P n fx pos (e :: es) σ m (fun vs σ'=>BtI P n en (.type T) vs σ' Q) X):Itr P n fx en (.Call (.Name x np) (e :: es) [] pos) σ m Q X:=Ayv hk hv hb h hx hd ha hp
theorem Sto.A9 (σ:Sto) (a:Addr) (x y:O):(σ.put a x).put a y=σ.put a y:=funext fun b=>by by_cases hb:b=a <;> simp [Sto.put,hb]
theorem Sto.Ao (σ:Sto) {a b} (x y:O) (h:a≠b):(σ.put a x).put b y=(σ.put b y).put a x:=funext fun c=>by
 by_cases h1:c=a
 · subst h1; simp [Sto.put,h]
 · by_cases h2:c=b
   · subst h2; simp [Sto.put,h1]
   · simp [Sto.put,h1,h2]
theorem Sto.Acp {σ:Sto} {a:Addr} {x:O} (h:σ a=some x):σ.put a x=σ:=funext fun b=>by
 by_cases hb:b=a
 · subst hb; rw [Sto.A0,h]
 · exact Sto.A4 _ _ hb
end
noncomputable def rowsOf (t:List V) (top:Nat):List (List V):=(Bh8 (top + 1)).map fun k=>slc (some (t.length / (top + 1) * k)) (some (t.length / (top + 1) * (k + 1))) t
noncomputable def dif (rows:List (List V)):Bool:=rows.any fun r=>decide (r≠rows.headD [])
noncomputable def asked:List Nat->List V->Nat × List (List V)
 | [],t=>(0,[t])
 | p :: ps,t=>if dif (rowsOf t p) then (0,rowsOf t p) else ((asked ps ((rowsOf t p).headD [])).1 + 1,(asked ps ((rowsOf t p).headD [])).2)
theorem Afe:∀ (x:List V),asked [] x=(0,[x]):=by intros; rfl
theorem Aaq:∀ (x:List V) (p:Nat) (ps:List Nat),asked (p :: ps) x=if dif (Mine.Internal.rowsOf x p)=true then (0,Mine.Internal.rowsOf x p) else ((asked ps ((Mine.Internal.rowsOf x p).headD [])).fst + 1,(asked ps ((Mine.Internal.rowsOf x p).headD [])).snd):=by intros; rfl
noncomputable def whole (N:Nat) (t:List V):List V:=(Bg7 (N / t.length) t).flatten
noncomputable def tupI (l:List Nat):List V:=l.map fun n:Nat=>V.int (n:Int)
structure Wo where
 names:List Str
 A1:List Nat
 lg:Addr
 cells:List V
 dn:Addr
 db:Addr
 dm:Addr
noncomputable abbrev Ba (A1:List Nat) (dn db dm:Addr):V:=.obj 117 [("tops",.tup (tupI A1)),("nodes",.loc dn),("book",.loc db),("memo",.loc dm)]
noncomputable abbrev Wo.dia (a:Wo):V:=Ba a.A1 a.dn a.db a.dm
noncomputable def Wo.es (a:Wo):List (Str × V):=[("names",.lst (a.names.map .str)),("tops",.lst (tupI a.A1)),("legal",.loc a.lg),("cells",.lst a.cells),("diagrams",a.dia)]
noncomputable def B4 (v:V):Prop:=v.dat=true/\v.dep<=1
noncomputable def Aaf {α:Type} [DecidableEq α] (found:List (Nat × Nat × α)) (k:Nat) (row:α):List (Nat × Nat × α):=
 match found.getLast? with
 | some x=>if x.2.2=row then found.dropLast ++ [(x.1,k,row)] else found ++ [(k,k,row)]
 | none=>[(k,k,row)]
noncomputable def Ac2 {α:Type} [DecidableEq α]:List (Nat × Nat × α)->Nat->List α->List (Nat × Nat × α)
 | f,_,[]=>f
 | f,k,r :: rs=>Ac2 (Aaf f k r) (k + 1) rs
theorem Ar8:∀ {α:Type} [inst:DecidableEq α] (x:List (Nat × Nat × α)) (x_1:Nat),Ac2 x x_1 []=x:=by intros; rfl
theorem Ahb:∀ {α:Type} [inst:DecidableEq α] (x:List (Nat × Nat × α)) (x_1:Nat) (r:α) (rs:List α),Ac2 x x_1 (r :: rs)=Ac2 (Aaf x x_1 r) (x_1 + 1) rs:=by intros; rfl
noncomputable def Aa {α:Type} [DecidableEq α] (rows:List α):List (Nat × Nat × α):=Ac2 [] 0 rows
noncomputable abbrev Avj (x:Nat × Nat × List V):V:=.tup [.int x.1,.int x.2.1,.tup x.2.2]
noncomputable def Ax5 (parts:List (Int × V)) (v:Int):List V:=parts.filterMap fun p=>if v<=p.1 then some p.2 else none
noncomputable def Aad (nums:List Int) (lo hi:Nat):List (Int × Int):=if nums=[] then [((lo:Int),(hi:Int))] else (slc (some lo) (some (hi + 1)) nums).map fun k=>(k,k)
noncomputable abbrev Acq (x:Int × Int):V:=.tup [.int x.1,.int x.2]
noncomputable def Ap (D:List V):List (V × V):=D.zipIdx.map fun x=>(x.1,V.int x.2)
noncomputable abbrev Av (x:Int × Nat):V:=.tup [.int x.1,.int x.2]
noncomputable def Aay (j:List (Int × Nat)) (p:Int × Nat):List (Int × Nat):=match j.getLast? with
 | some q=>if q.2=p.2 then j.dropLast ++ [p] else j ++ [p]
 | none=>[p]
noncomputable def joined (parts:List (Int × Nat)):List (Int × Nat):=parts.foldl Aay []
noncomputable def Acv (top:Int) (at_:Int) (p:Int × Nat):Int:=if p.1 > at_ then p.1 else top + 1
noncomputable def atEnd (top:Int) (parts:List (Int × Nat)):Int:=parts.foldl (Acv top) (-1)
noncomputable def Ace (parts:List (Int × Nat)) (v:Int):Option Nat:=(parts.find? fun p=>v<=p.1).map (·.2)
noncomputable abbrev Aqp (x:Int × List Nat):V:=.tup [.int x.1,.lst (x.2.map fun k:Nat=>V.int (k:Int))]
noncomputable def unlike:Int->List (Int × Nat × Nat)->Option (Int × Nat × Nat)
 | _,[]=>none
 | low,(h,a,b) :: r=>if a≠b then some (low,a,b) else unlike (h + 1) r
theorem Aiw:∀ (x h:Int) (a b:Nat) (r:List (Int × Nat × Nat)),unlike x ((h,a,b) :: r)=if a≠b then some (x,a,b) else unlike (h + 1) r:=by intros; rfl
noncomputable def Aq3 (h1:Int) (a:Nat) (f:List (Int × Nat)->List (Int × Nat × Nat)):List (Int × Nat)->List (Int × Nat × Nat)
 | []=>[]
 | (h2,b) :: r2=>if h1=h2 then (h1,a,b) :: f r2 else if h1 < h2 then (h1,a,b) :: f ((h2,b) :: r2) else (h2,a,b) :: Aq3 h1 a f r2
noncomputable def Ac8:List (Int × Nat)->List (Int × Nat)->List (Int × Nat × Nat)
 | [],_=>[]
 | (h1,a) :: r1,B=>Aq3 h1 a (fun B=>Ac8 r1 B) B
theorem Abx {h1 h2:Int} {a b:Nat} {r1 r2:List (Int × Nat)}:Ac8 ((h1,a) :: r1) ((h2,b) :: r2)=if h1=h2 then (h1,a,b) :: Ac8 r1 r2 else if h1 < h2 then (h1,a,b) :: Ac8 r1 ((h2,b) :: r2) else (h2,a,b) :: Ac8 ((h1,a) :: r1) r2:=rfl
theorem Adu {A B:List (Int × Nat)} (h:A=[]∨B=[]):Ac8 A B=[]:=by
 rcases h with rfl | rfl
 · rfl
 · cases A <;> rfl
noncomputable def Aga (top:Int):Int->List (Int × Nat)->Prop
 | lo,[]=>lo=top
 | lo,p :: r=>lo < p.1/\p.1<=top/\Aga top p.1 r
theorem Aga.le {top:Int}:∀ {lo:Int} {l:List (Int × Nat)},Aga top lo l->lo<=top
 | _,[],h=>Int.le_of_eq h
 | _,_ :: _,h=>Bo7 (Cl6 h.1) h.2.1
theorem Aga.low {top lo lo':Int} {p:Int × Nat} {l:List (Int × Nat)} (h:Aga top lo (p :: l)) (k:lo' < p.1):Aga top lo' (p :: l):=⟨k,h.2.1,h.2.2⟩
noncomputable def As9 (A1:List Nat) (hd:V):V:=if hd=.str "leaf" then .int A1.length else hd
noncomputable def Ar (x:V):Bool:=decide (x∈[V.str "accept",V.str "drop"])
noncomputable def nName (k:Nat):Str:=Bf4 "n" ++ Axj k
theorem Adf:∀ k,k < 20->(Axj (k:Nat)).length<=2:=by decide +kernel
noncomputable abbrev Abj (names:List Str) (A1:List Nat) (lg pl:Addr):V:=.obj 185 [("names",.tup (names.map .str)),("tops",.tup (tupI A1)),("legal",.loc lg),("place",.loc pl)]
noncomputable def Ajc (D:List V) (c:Nat):Option V:=match D[c]? with
 | some (.tup [h,x])=>if h=.str "leaf" then (if Ar x then some (.tup [x,.str ""]) else none) else some (.tup [.str "goto",.str (nName c)])
 | _=>none
noncomputable abbrev elV (v:V) (s:Int × Int):V:=.tup [.tup [Acq s],v,.int 0,.str ""]
noncomputable def Aaz (vd:Nat->Option V) (nums:List Int):Nat->List (Nat × Nat)->Option (List V)
 | _,[]=>some []
 | low,(h,c) :: r=>match vd c with
  | none=>none
  | some v=>match Aaz vd nums (h + 1) r with
   | none=>none
   | some els=>some ((Aad nums low h).map (elV v) ++ els)
theorem Apf:∀ (vd:Nat->Option V) (nums:List Int) (x:Nat),Aaz vd nums x []=some []:=by intros; rfl
theorem Ae2:∀ (vd:Nat->Option V) (nums:List Int) (x h c:Nat) (r:List (Nat × Nat)),Aaz vd nums x ((h,c) :: r)=match vd c with | none=>none | some v=>match Aaz vd nums (h + 1) r with | none=>none | some els=>some (Bz4 (elV v) (Aad nums x h) ++ els):=by intros; rfl
noncomputable abbrev Ao0 (name:Str) (els:List V):V:=.tup [.tup [.str "vmap",.tup [.str "field",.str name],.tup [.str "map",.tup els]]]
noncomputable def Aaj (a b:Int):V:=if a=b then .tup [.str "num",.int a] else .tup [.str "span",.int a,.int b]
noncomputable abbrev Abp (name:Str) (right:V):V:=.tup [.str "match",.tup [.str "field",.str name],.str "==",right]
noncomputable def Al0 (D:List V) (k:Nat):Prop:=∃ hd x,D[k]?=some (.tup [hd,x])/\k < 20/\hd.dat=true/\hd.dep<=40/\(hd=.str "leaf"->x.dat=true/\x.dep<=40)
noncomputable abbrev Ad6 (x:Nat × Nat):V:=.tup [.int x.1,.int x.2]
noncomputable abbrev Aek (v lo hi:Nat):V:=.tup [.int v,.tup [.int lo,.int hi]]
noncomputable def Adn (ws:Nat->List (List V × V)) (v:Nat):Nat->List (Nat × Nat)->List (List V × V)
 | _,[]=>[]
 | low,(h,c) :: r=>(ws c).map (fun p=>(Aek v low h :: p.1,p.2)) ++ Adn ws v (h + 1) r
theorem Akn:∀ (ws:Nat->List (List V × V)) (v x h c:Nat) (r:List (Nat × Nat)),Adn ws v x ((h,c) :: r)=Bz4 (fun p=>(Aek v x h :: p.fst,p.snd)) (ws c) ++ Adn ws v (h + 1) r:=by intros; rfl
noncomputable abbrev Aov (p:List V × V):V:=.tup [.tup p.1,p.2]
noncomputable abbrev Art (p:Nat × List V):V:=.tup [.int p.1,.tup p.2]
noncomputable def Ad8 (v:Nat) (path:List V):Nat->List (Nat × Nat)->List (Nat × List V)
 | _,[]=>[]
 | low,(h,c) :: r=>(c,path ++ [Aek v low h]) :: Ad8 v path (h + 1) r
theorem Amk:∀ (v:Nat) (path:List V) (x:Nat),Ad8 v path x []=[]:=by intros; rfl
theorem Ang:∀ (v:Nat) (path:List V) (x h c:Nat) (r:List (Nat × Nat)),Ad8 v path x ((h,c) :: r)=(c,path ++ [Aek v x h]) :: Ad8 v path (h + 1) r:=by intros; rfl
noncomputable def Afb (ws:Nat->List (List V × V)) (st:List (Nat × List V)):List (List V × V):=st.flatMap fun x=>(ws x.1).map fun p=>(x.2 ++ p.1,p.2)
noncomputable def Ae7 (x:Str × Int):V:=.tup [.str x.1,.int x.2]
noncomputable def Agp:List (Str × V):=[("ether",.tup []),("th",.tup []),("vlan",.tup [Ae7 ("ether type",33024)]),("arp",.tup [Ae7 ("meta protocol",2054)]),("ip",.tup [Ae7 ("meta nfproto",2)]),("ip6",.tup [Ae7 ("meta nfproto",10)]),
 ("tcp",.tup [Ae7 ("meta l4proto",6)]),("udp",.tup [Ae7 ("meta l4proto",17)]),("icmp",.tup [Ae7 ("meta nfproto",2),Ae7 ("meta l4proto",1)]),("icmpv6",.tup [Ae7 ("meta nfproto",10),Ae7 ("meta l4proto",58)])]
structure Aem (name pr:Str) (nd:List (Str × Int)):Prop where
 len:name.length<=100
 k1:(decide (name.length < (" " : Str).length) || decide (Bs6 name < Bs6 " "))=false
 k2:(Bo1 name " " 0 name.length (name.length + 1)).isEmpty=false
 k3:∃ r,Bs3 name (Bo1 name " " 0 name.length (name.length + 1)) (" " : Str).length=pr :: r/\r.length<=100
 k4:(pr∈(["meta","ct"]:List Str)/\nd=[])∨(pr ∉ (["meta","ct"]:List Str)/\Am Agp pr=some (.tup (nd.map Ae7)))
 k5:∀ q∈nd,q.1.length<=100
noncomputable def Aid (name q:Str):Str:=name ++ Bf4 " stands ahead of " ++ q
noncomputable def B0 (nd:Str->List (Str × Int)) (all:List Str):List Str->Option Str
 | []=>none
 | name :: r=>match (nd name).find? fun q=>decide (q.1∈all/\all.idxOf name < all.idxOf q.1) with
  | some q=>some (Aid name q.1)
  | none=>B0 nd all r
theorem Aqa:∀ (nd:Str->List (Str × Int)) (all:List Str) (name:Str) (r:List Str),B0 nd all (name :: r)=match List.find? (fun q=>decide (q.fst∈all/\Co9 name all < Co9 q.fst all)) (nd name) with | some q=>some (Aid name q.fst) | none=>B0 nd all r:=by intros; rfl
noncomputable def placeOf (names:List Str):List (Str × V):=names.zipIdx.map fun x=>(x.1,V.int (x.2:Nat))
noncomputable def Akt (mt:V->V) (p:List V × V):V:=.tup (p.1.map mt ++ [.tup [.str "verdict",.tup [p.2,.str ""]]])
noncomputable def Axq (names:List Str) (A1:List Nat) (les:List (Str × V)) (s m:V):Prop:=∃ (v lo hi top:Nat) (name:Str) (a b:Int),s=Aek v lo hi/\names[v]?=some name/\A1[v]?=some top/\v < 100/\¬ (lo=0/\hi=top)/\lo < 1000/\hi < 1000 ∧
 ((Am les name=none/\a=lo/\b=hi)∨∃ nums:List Int,Am les name=some (.tup (nums.map .int))/\nums[lo]?=some a/\nums[hi]?=some b)/\m=Abp name (Aaj a b)
theorem Aej:∀ i,i < 20->∀ j,j < 20->nName i=nName j->i=j:=by decide +kernel
noncomputable abbrev Vs:=List (Str × V)
noncomputable def vof:Vs->A8
 | [],_=>none
 | (x,v) :: r,y=>if y=x then some v else vof r y
noncomputable abbrev Asa (m:Vs) (x:Str) (v:V):Vs:=(x,v) :: m
theorem Adc (m:Vs) (x:Str) (v:V):vof (Asa m x v)=(vof m).put x v:=rfl
noncomputable abbrev Alv (F:A8) (μ:Vs):Prop:=μ.map (fun p=>F p.1)=μ.map fun p=>some p.2
theorem Ad4 {F:A8}:∀ {μ:Vs},Alv F μ->Al5 (vof μ) F
 | [],_=>fun _ _ e=>nomatch e
 | (x,v) :: r,h=>fun y u e=>by
  injection h with h1 h2
  revert e
  show (if y=x then some v else vof r y)=some u->_
  by_cases q:y=x
  · rw [if_pos q,q]; intro e; rw [<- e]; exact h1
  · rw [if_neg q]; exact Ad4 h2 y u
structure Cf where
 w:World
 n:Nat
 fx:Fx
 Y:Str->Sto->Prop
 R:V->Sto->Prop
 C:Sto->Vs->Prop
noncomputable abbrev Cf.P (c:Cf):Pm:=PM c.w
noncomputable abbrev Cf.X (c:Cf):Xt:=fun y σ _=>c.Y y σ
noncomputable def Cf.setC (c:Cf) (K:Sto->Vs->Prop):Cf:=⟨c.w,c.n,c.fx,c.Y,c.R,K⟩
noncomputable def Bav:List (Str × Value):=[("_law_told",.ref 264),("_law_take",.ref 271),("_law_pool",.ref 278),("_law_needs",.ref 285),("_law_world",.ref 290),("_law_rows",.ref 295),("_law_asked",.ref 300),("_law_whole",.ref 307),("_law_stretches",.ref 314),("_law_done",.ref 321),("_law_refused",.ref 328),("_law_led",.ref 333),("_law_made",.ref 338),("_law_tested",.ref 343),("_law_numbers",.ref 348),("_law_read_right",.ref 353),("_law_parted_right",.ref 358),("_law_misplaced",.ref 365),("_law_spans",.ref 370),("_law_on",.ref 377),("_law_chains",.ref 382),("_law_ways",.ref 389)]
noncomputable def Bbm:List (Str × Value):=[("_law_told_right",.ref 394),("tidy",.ref 65),("parts_at",.ref 128),("split",.ref 133),("below",.ref 140),("value_at",.ref 147),("test",.ref 154),("first_unlike",.ref 161),("ways",.ref 168),("needs_of",.ref 196),("check_places",.ref 203),("inner_nodes",.ref 210),("verdict_of_leaf",.ref 217),("verdict_to",.ref 224),("spans_told",.ref 229),("node_rule",.ref 236),("chains_of_node",.ref 243),("way_match",.ref 250),("rules_of_ways",.ref 257),("Diagrams",.ref 117),("Space",.ref 185)]
noncomputable def Bbs:List (Str × Value):=[("len",.builtin "len"),("min",.builtin "min"),("sorted",.builtin "sorted"),("str",.type "str"),("tuple",.type "tuple"),("range",.type "range"),("enumerate",.type "enumerate")]
noncomputable def Axd:List (Str × Value):=Bav ++ (Bbm ++ Bbs)
noncomputable def ckG (P:Pm) (p:Str × Value):Bool:=!(p.1 == Bf4 "__debug__") && match p.2 with
 | .ref a=>decide (nsIn P.K Bl3 p.1=some (some (.ref a))) && keepIn P.K (.ref a)
 | .builtin nm=>decide (nsIn P.K Bl3 p.1=some none) && decide (Bs7 p.1=some (.builtin nm)) && !(p.1 == Bf4 "__name__")
 | .type T=>decide (nsIn P.K Bl3 p.1=some none) && decide (Bs7 p.1=some (.type T)) && !(p.1 == Bf4 "__name__")
 | _=>false
theorem Aw1 (w:World):Axd.all (ckG (PM w))=true:=by kernel_rfl
noncomputable def ckA (P:Pm) (p:Addr × Str):Bool:=plainGet P.K p.1 p.2 && hasDictIn P.K p.1 && decide (findIn P.K (.ref p.1) p.2=some none)
noncomputable def Ba8:List (Addr × Str):=[(185,"names"),(185,"tops"),(185,"legal"),(185,"place"),(117,"tops"),(117,"nodes"),(117,"book"),(117,"memo")]
theorem Awh (w:World):Ba8.all (ckA (PM w))=true:=by kernel_rfl
noncomputable def ckS (P:Pm) (p:Addr × Str):Bool:=decide (findIn P.K (.ref p.1) "__setattr__"=some (some (.builtin "object.__setattr__"))) && plainOver P.K p.1 && decide (takerIn P.K p.1 p.2=some none) && hasDictIn P.K p.1
theorem Aws (w:World):Ba8.all (ckS (PM w))=true:=by kernel_rfl
noncomputable def aOk (C:Addr) (x:Str):Bool:=Ba8.any fun p=>p.1 == C && p.2 == x
noncomputable def ckM (P:Pm) (p:Addr × Str × Addr):Bool:=plainGet P.K p.1 p.2.1 && decide (findIn P.K (.ref p.1) p.2.1=some (some (.ref p.2.2))) && isFn P.K (.ref p.2.2) && keepIn P.K (.ref p.2.2)
noncomputable def Bc7:List (Addr × Str × Addr):=[(117,"kept",86),(117,"leaf",93),(117,"make",100),(117,"node",107),(117,"level",114)]
theorem Awt (w:World):Bc7.all (ckM (PM w))=true:=by kernel_rfl
noncomputable def Asn (C:Addr) (x:Str):Option Addr:=(Bc7.find? fun p=>p.1 == C && p.2.1 == x).map (·.2.2)
noncomputable def Bbg (sc:Scope) (x:Str):Bool:=(match sc.names.lookup x with | some .local=>true | some .cell=>true | some .free=>true | _=>false) && !(x == Bf4 "__classdict__") && !(x == Bf4 "__debug__")
noncomputable def Au8 (sc:Scope) (x:Str):Bool:=match sc.names.lookup x with | some .local=>true | some .cell=>true | _=>false
noncomputable def Asz (sc:Scope) (x:Str):Bool:=match sc.names.lookup x with | some .globalImplicit=>true | _=>false
noncomputable def Ay5:Const->Option V
 | .int i=>some (.int i) | .str x=>some (.str x) | .none=>some .none | .bool b=>some (.bool b) | _=>none
noncomputable def notStar:Expr->Bool
 | .Starred ..=>false | _=>true
noncomputable def Aji:Expr->Bool
 | .UnaryOp .Not ..=>false | .BoolOp ..=>false | .IfExp ..=>false | .Compare ..=>false | _=>true
noncomputable def Abw:Expr->Bool
 | .ListComp ..=>false | .SetComp ..=>false | .DictComp ..=>false | _=>true
noncomputable def Agj:Expr->Bool
 | .Call ..=>false | _=>true
structure WR where
 E:Expr->Sto->Vs->(V->Sto->Prop)->Prop
 T:Expr->Sto->Vs->(Bool->Sto->Prop)->Prop
noncomputable abbrev Ck (b:Bool) (p:Prop):Prop:=match b with | true=>p | false=>False
theorem Ck.out {b:Bool} {p:Prop} (h:Ck b p):b=true/\p:=by
 cases b with
 | false=>exact h.elim
 | true=>exact ⟨rfl,h⟩
noncomputable abbrev Oc {α:Type} (o:Option α) (F:α->Prop):Prop:=match o with | some a=>F a | none=>False
theorem Oc.out {α:Type} {o:Option α} {F:α->Prop} (h:Oc o F):∃ a,o=some a/\F a:=by
 cases o with
 | none=>exact h.elim
 | some a=>exact ⟨a,rfl,h⟩
noncomputable def Ban (Q:List V->Sto->Prop) (v:V) (vs:List V) (σ:Sto):Prop:=Q (v :: vs) σ
noncomputable def Kes (F:Sto->Vs->(List V->Sto->Prop)->Prop) (m:Vs) (Q:List V->Sto->Prop) (v:V) (σ:Sto):Prop:=F σ m (Ban Q v)
noncomputable def wEs (E:Expr->Sto->Vs->(V->Sto->Prop)->Prop):List Expr->Sto->Vs->(List V->Sto->Prop)->Prop
 | []=>fun σ _ Q=>Q [] σ
 | e :: r=>fun σ m Q=>Ck (notStar e) (E e σ m (Kes (wEs E r) m Q))
noncomputable def wPe (E:Expr->Sto->Vs->(V->Sto->Prop)->Prop) (e:Option Expr) (σ:Sto) (m:Vs) (Q:V->Sto->Prop):Prop:=match e with | none=>Q .none σ | some e=>E e σ m Q
noncomputable def Bcu (Q:V->Sto->Prop) (vs:List V) (σ:Sto):Prop:=Q (.tup vs) σ
inductive Ld (Q:V->Sto->Prop) (vs:List V) (σ:Sto):Prop
 | inl (h:∀ a,σ a=none->Q (.loc a) (σ.put a (.list vs)))
 | inr (h:Q (.lst vs) σ)
noncomputable def K2 (F:V->V->Sto->Prop) (vs:List V) (σ:Sto):Prop:=match vs with | [a,b]=>F a b σ | _=>False
noncomputable def K3 (F:V->V->V->Sto->Prop) (vs:List V) (σ:Sto):Prop:=match vs with | [a,b,d]=>F a b d σ | _=>False
noncomputable def Azw (c:Cf) (op:Operator) (Q:V->Sto->Prop) (a b:V) (σ:Sto):Prop:=match op with
 | .Add=>(match a with | .int i=>(match b with | .int j=>Q (.int (i + j)) σ | b=>Bo c.P c.n .Add (.int i) b σ Q) | a=>Bo c.P c.n .Add a b σ Q)
 | .Sub=>(match a with | .int i=>(match b with | .int j=>Q (.int (i - j)) σ | b=>Bo c.P c.n .Sub (.int i) b σ Q) | a=>Bo c.P c.n .Sub a b σ Q)
 | op=>Bo c.P c.n op a b σ Q
noncomputable def Kb (Q:V->Sto->Prop) (b:Bool) (σ:Sto):Prop:=Q (.bool b) σ
noncomputable def Kco (c:Cf) (op:CmpOp) (Q:Bool->Sto->Prop) (a b:V) (σ:Sto):Prop:=Co c.P c.n op a b σ Q
noncomputable def Bdl (c:Cf) (op:CmpOp) (a:V) (Q:Bool->Sto->Prop) (b:V) (σ:Sto):Prop:=Co c.P c.n op a b σ Q
noncomputable def Bd4 (c:Cf) (r:WR) (op:CmpOp) (b:V) (e:Expr) (m:Vs) (Q:Bool->Sto->Prop) (x:Bool) (σ:Sto):Prop:=if x then r.E e σ m (Bdl c op b Q) else Q false σ
noncomputable def Kcc (c:Cf) (r:WR) (op op2:CmpOp) (e:Expr) (m:Vs) (Q:Bool->Sto->Prop) (a b:V) (σ:Sto):Prop:=Co c.P c.n op a b σ (Bd4 c r op2 b e m Q)
noncomputable def Ksu (c:Cf) (Q:V->Sto->Prop) (a b:V) (σ:Sto):Prop:=Su c.P c.n a b σ Q
noncomputable def Be4 (c:Cf) (v a:V) (Q:V->Sto->Prop) (b:V) (σ:Sto):Prop:=Sl c.P c.n v a b σ Q
noncomputable def Bdr (c:Cf) (r:WR) (v:V) (hi:Option Expr) (m:Vs) (Q:V->Sto->Prop) (a:V) (σ:Sto):Prop:=wPe r.E hi σ m (Be4 c v a Q)
noncomputable def Bdi (c:Cf) (r:WR) (lo hi:Option Expr) (m:Vs) (Q:V->Sto->Prop) (v:V) (σ:Sto):Prop:=wPe r.E lo σ m (Bdr c r v hi m Q)
noncomputable def Kif (r:WR) (b o:Expr) (m:Vs) (Q:V->Sto->Prop) (x:Bool) (σ:Sto):Prop:=if x then r.E b σ m Q else r.E o σ m Q
inductive AtI (dx:Addr) (x:Str) (σ:Sto) (Q:V->Sto->Prop):Prop
 | mk (as:List (Str × V)) (d:V) (h:σ dx=some (.attrs as)) (hl:as.lookup x=some d) (hq:Q d σ)
noncomputable def Kat (x:Str) (Q:V->Sto->Prop) (v:V) (σ:Sto):Prop:=match v with
 | .obj C as=>(Ck (aOk C x) ((Oc (as.lookup x) fun d=>Q d σ)))
 | .inst C dx=>(Ck (aOk C x) (AtI dx x σ Q))
 | _=>False
noncomputable def Kfn (c:Cf) (f:Value) (Q:V->Sto->Prop) (vs:List V) (σ:Sto):Prop:=Fn c.P c.n f vs σ Q c.Y
noncomputable def Kbt (c:Cf) (f:Value) (Q:V->Sto->Prop) (vs:List V) (σ:Sto):Prop:=Bt c.P c.n f vs σ Q
noncomputable def Kmf (c:Cf) (f:Value) (v:V) (Q:V->Sto->Prop) (vs:List V) (σ:Sto):Prop:=Fn c.P c.n f (v :: vs) σ Q c.Y
noncomputable def Kmb (c:Cf) (f:Value) (v:V) (Q:V->Sto->Prop) (vs:List V) (σ:Sto):Prop:=Bt c.P c.n f (v :: vs) σ Q
structure MB (T:String) (x:Str) (id:String):Prop where
 pa:PlainAttrs T
 slot:Slot T x id
 ty:typeOf (.builtin id)=pure (.type "method_descriptor")
inductive Me (x:Str) (v:V) (σ:Sto) (F:String->Prop):Prop
 | mk (T id:String) (hb:MB T x id) (ht:Ty σ v T) (h:F id)
noncomputable def Fmb (c:Cf) (r:WR) (es:List Expr) (v:V) (m:Vs) (Q:V->Sto->Prop) (σ:Sto) (id:String):Prop:=wEs r.E es σ m (Kmb c (.builtin id) v Q)
noncomputable def Kme (c:Cf) (r:WR) (x:Str) (es:List Expr) (m:Vs) (Q:V->Sto->Prop) (v:V) (σ:Sto):Prop:=match v with
 | .obj C as=>(match Asn C x with | some f=>(match as.lookup x with | none=>wEs r.E es σ m (Kmf c (.ref f) v Q) | some _=>False) | none=>False)
 | v=>Me x v σ (Fmb c r es v m Q σ)
noncomputable def Bd6 (Q:Bool->Sto->Prop) (b:Bool) (σ:Sto):Prop:=Q (!b) σ
inductive Tru (Q:Bool->Sto->Prop) (v:V) (σ:Sto):Prop
 | mk (b:Bool) (h:Tv σ v b) (hq:Q b σ)
noncomputable def Bb7 (F:Sto->Vs->(Bool->Sto->Prop)->Prop) (m:Vs) (Q:Bool->Sto->Prop) (b:Bool) (σ:Sto):Prop:=if b then F σ m Q else Q false σ
noncomputable def Kor (F:Sto->Vs->(Bool->Sto->Prop)->Prop) (m:Vs) (Q:Bool->Sto->Prop) (b:Bool) (σ:Sto):Prop:=if b then Q true σ else F σ m Q
noncomputable def Bb6 (T:Expr->Sto->Vs->(Bool->Sto->Prop)->Prop):List Expr->Sto->Vs->(Bool->Sto->Prop)->Prop
 | []=>fun σ _ Q=>Q true σ
 | e :: r=>fun σ m Q=>T e σ m (Bb7 (Bb6 T r) m Q)
noncomputable def wOr (T:Expr->Sto->Vs->(Bool->Sto->Prop)->Prop):List Expr->Sto->Vs->(Bool->Sto->Prop)->Prop
 | []=>fun σ _ Q=>Q false σ
 | e :: r=>fun σ m Q=>T e σ m (Kor (wOr T r) m Q)
noncomputable def Ay4 (c:Cf) (r:WR) (e:Expr) (f:Expr) (es:List Expr) (p:Pos) (σ:Sto) (m:Vs) (Q:V->Sto->Prop):Prop:=match f with
 | .Name x _=>(match Asz c.fx.sc x && es.all notStar with
  | true=>(match Axd.lookup x with
   | some (.ref a)=>wEs r.E es σ m (Kfn c (.ref a) Q)
   | some v=>(match es with | []=>False | _ :: _=>wEs r.E es σ m (Kbt c v Q))
   | none=>False)
  | false=>False)
 | .Attribute o x ap=>(Ck (Agj o && (es.all notStar && (decide (es.length < 30) && (ap.endLine == p.line)))) (r.E o σ m (Kme c r x es m Q)))
 | _=>Ev c.P c.n c.fx e σ (vof m) Q c.X
noncomputable def stE (c:Cf) (r:WR) (e:Expr) (σ:Sto) (m:Vs) (Q:V->Sto->Prop):Prop:=match e with
 | .Constant k _ _=>(Oc (Ay5 k) fun v=>Q v σ)
 | .Name x _=>(Ck (Bbg c.fx.sc x) ((Oc (vof m x) fun v=>Q v σ)))
 | .Tuple es _ _=>(Ck (Nat.ble es.length 1000) (wEs r.E es σ m (Bcu Q)))
 | .List es _=>(Ck (Nat.ble es.length 1000) (wEs r.E es σ m (Ld Q)))
 | .BinOp a op b _=>wEs r.E [a,b] σ m (K2 (Azw c op Q))
 | .UnaryOp .USub (.Constant (.int i) _ _) _=>Q (.int (-i)) σ
 | .Compare l [op] [x] _=>(match Bq8 op x with | false=>wEs r.E [l,x] σ m (K2 (Kco c op (Kb Q))) | true=>False)
 | .IfExp t b o _=>r.T t σ m (Kif r b o m Q)
 | .Subscript v (.Slice lo hi none _) _=>r.E v σ m (Bdi c r lo hi m Q)
 | .Subscript v i _=>wEs r.E [v,i] σ m (K2 (Ksu c Q))
 | .Attribute o x _=>(Ck (Agj o) (r.E o σ m (Kat x Q)))
 | .Call f es [] p=>Ay4 c r e f es p σ m Q
 | e=>Ev c.P c.n c.fx e σ (vof m) Q c.X
noncomputable def stT (c:Cf) (r:WR) (e:Expr) (σ:Sto) (m:Vs) (Q:Bool->Sto->Prop):Prop:=match e with
 | .UnaryOp .Not x _=>r.T x σ m (Bd6 Q)
 | .BoolOp .And es _=>Bb6 r.T es σ m Q
 | .BoolOp .Or es _=>wOr r.T es σ m Q
 | .Compare l [op] [x] _=>(match Bq8 op x with | false=>wEs r.E [l,x] σ m (K2 (Kco c op Q)) | true=>False)
 | .Compare l [op,op2] [x,y] _=>(match Bq8 op x || Bq8 op2 y with | false=>wEs r.E [l,x] σ m (K2 (Kcc c r op op2 y m Q)) | true=>False)
 | e=>(Ck (Aji e) (r.E e σ m (Tru Q)))
noncomputable def wr0 (c:Cf):WR:=⟨fun e σ m Q=>Ev c.P c.n c.fx e σ (vof m) Q c.X,fun e σ m Q=>Tt c.P c.n c.fx e σ (vof m) Q c.X⟩
noncomputable def wr (c:Cf):Nat->WR
 | 0=>wr0 c
 | k + 1=>⟨stE c (wr c k),stT c (wr c k)⟩
noncomputable abbrev wE (c:Cf):=(wr c 40).E
noncomputable abbrev wT (c:Cf):=(wr c 40).T
theorem Ab3 {e es} (h:notStar e=true) (env:Env):Bk5 (e :: es) env=(false,eval e env) :: Bk5 es env:=by
 cases e <;> first | rfl | cases h
theorem Agh {e} (h:Abw e=true) (t:Option Expr) (l:Nat) (env:Env):Cc8 e t l env=pure false:=by
 cases e <;> first | rfl | cases h
theorem Au6 {o} (h:Agj o=true) (x:Str) (env:Env) (w:Sem Value):attributeBase o x env w=w:=by
 cases o <;> first | rfl | cases h
theorem Ajx {env}:∀ {es},es.all notStar=true->∀ x∈Bk5 es env,x.1=false
 | [],_,x,hx=>nomatch hx
 | e :: r,h,x,hx=>by
  rw [Bv9,Bg0] at h
  rw [Ab3 h.1] at hx
  cases hx with
  | head=>rfl
  | tail _ hx=>exact Ajx h.2 x hx
theorem Adw {pos env es} (h:es.all notStar=true):((By5 pos (Bk5 es env)).any fun x=>x.1)=false:=by
 rw [Bz0]
 intro x hx
 unfold By5 at hx
 obtain ⟨y,hy,e⟩:=Bh1.mp hx
 have:=Ajx h y hy
 rw [<- e]
 simpa using this
theorem Bag (e:Expr) (h:Aji e=true) (env:Env) (whole:Sem Value):isTrue e env whole=(do let v <- whole; Cb6 e.pos; holding [v] (truthy v)):=by
 cases e with
 | UnaryOp op x p=>cases op <;> first | rfl | cases h
 | _=>first | rfl | cases h
theorem Ba3 {pos env es} (h:es.all notStar=true) (hl:es.length < 30):((By5 pos (Bk5 es env)).all (fun x=>!x.1) && (backToKw pos (Ck2 [] env)).all (fun x=>x.1.isSome) && decide (es.length + ([]:List Keyword).length + (if ([]:List Keyword).isEmpty then 0 else 1) < 30))=true:=by
 have:=Adw (pos:=pos) (env:=env) h
 rw [Bz0] at this
 rw [Bg0,Bg0,Bj7]
 exact ⟨⟨fun x hx=>by have:=this x hx; simpa using this,rfl⟩,by simpa using hl⟩
theorem Aub {pos env es} (h:es.all notStar=true):By5 pos (Bk5 es env)=[]∨∃ x r,By5 pos (Bk5 es env)=(false,x) :: r:=by
 cases es with
 | nil=>exact .inl rfl
 | cons e r=>
  rw [Bv9,Bg0] at h
  rw [Ab3 h.1]
  exact .inr ⟨_,_,rfl⟩
theorem Alf {sc x} (h:Bbg sc x=true):(sc.names.lookup x=some .local∨sc.names.lookup x=some .cell∨sc.names.lookup x=some .free)/\(x == Bf4 "__classdict__")=false/\(x == Bf4 "__debug__")=false:=by
 unfold Bbg at h
 rw [Bg0,Bg0,Bm7,Bm7] at h
 refine ⟨?_,h.1.2,h.2⟩
 have:=h.1.1
 cases e:sc.names.lookup x with
 | none=>rw [e] at this; cases this
 | some k=>cases k <;> first | exact .inl rfl | exact .inr (.inl rfl) | exact .inr (.inr rfl) | (rw [e] at this; cases this)
theorem Am3 {sc x} (h:Au8 sc x=true):sc.names.lookup x=some .local∨sc.names.lookup x=some .cell:=by
 unfold Au8 at h
 cases e:sc.names.lookup x with
 | none=>rw [e] at h; cases h
 | some k=>cases k <;> first | exact .inl rfl | exact .inr rfl | (rw [e] at h; cases h)
theorem Am2 {sc x} (h:Asz sc x=true):sc.names.lookup x=some .globalImplicit:=by
 unfold Asz at h
 cases e:sc.names.lookup x with
 | none=>rw [e] at h; cases h
 | some k=>cases k <;> first | rfl | (rw [e] at h; cases h)
theorem Amr {x v} (h:Axd.lookup x=some v) (w:World):ckG (PM w) (x,v)=true:=Bj7.mp (Aw1 w) _ (lookup_mem h)
theorem Arf {C x} (h:aOk C x=true) (w:World):ckA (PM w) (C,x)=true/\ckS (PM w) (C,x)=true:=by
 obtain ⟨p,hp,e⟩:=Bx1.mp h
 rw [Bg0] at e
 obtain ⟨a,b⟩:=p
 rw [<- eq_of_beq e.1,<- eq_of_beq e.2]
 exact ⟨Bj7.mp (Awh w) _ hp,Bj7.mp (Aws w) _ hp⟩
theorem Asj {C f x} (h:Asn C x=some f) (w:World):ckM (PM w) (C,x,f)=true:=by
 unfold Asn at h
 obtain ⟨p,hp,e⟩:=Bn6.mp h
 have h1:=List.find?_some hp
 rw [Bg0] at h1
 obtain ⟨a,b,d⟩:=p
 rw [<- eq_of_beq h1.1,<- eq_of_beq h1.2,<- e]
 exact Bj7.mp (Awt w) _ (Cc3 hp)
section
variable {P:Pm} {n:Nat} {fx:Fx} {σ:Sto} {m:A8} {X:Xt}
theorem Az9 {o name pos Q} (hb:Agj o=true)
  (h:Ev P n fx o σ m (fun c σ1=>∃ C as d,ckA P (C,name)=true/\Io σ1 c C as/\as.lookup name=some d/\Q d σ1) X):Ev P n fx (.Attribute o name pos) σ m Q X:=
 fun A st B g env s he hr hm=>by
  show wpAny _ _ (attributeBase o name env (eval o env) >>= _) _ _ _
  rw [Au6 hb]
  refine Be8 (Bf2 (h A st B g env s he hr hm) (fun ov s1 qM=>?_) fun _ _ q=>q)
  obtain ⟨g1,σ1,m1,c,hg1,hr1,hv1,hm1,C,as,d,ck,hio,hlk,hq1⟩:=qM
  subst hm1
  unfold ckA at ck
  rw [Bg0,Bg0,decide_eq_true_eq] at ck
  obtain ⟨⟨hg,hh⟩,hf⟩:=ck
  obtain ⟨a,dx,od,es',k,rfl,q1,q2,q3,q4,I⟩:=hio.at hr1.toRepC hv1
  have hl:=q4.lookIn q3 name
  rw [hlk] at hl
  obtain ⟨v,hl,hv⟩:=hl
  have kin:=hr1.pc.kin.keeps hr1.fz
  have hin:handedIn v=true:=by cases hv <;> rfl
  refine Be8 (Bo2 (Be8 (Bl0 (get_value kin I (plainGet_of hg).1 (findObj_own hh hf rfl hl) hin (Be8 (wpAny_letTemporaryGo (Bf5 ?_)))))))
  exact ⟨g1,σ1,_,d,hg1,hr1.tok _,hv,rfl,hq1⟩
theorem Avh {o name apos pos es Q} (hb:Agj o=true) (hs:es.all notStar=true) (hl:es.length < 30) (Bay:(apos.endLine == pos.line)=true)
  (h:Ev P n fx o σ m (fun c σ1=>(∃ C as f,ckM P (C,name,f)=true/\Io σ1 c C as/\as.lookup name=none/\Evs P n fx pos es σ1 m (fun vs σ2=>Fn P n (.ref f) (c :: vs) σ2 Q (fun why σ''=>X why σ'' m)) X) ∨
    ∃ T id,MB T name id/\Ty σ1 c T/\Evs P n fx pos es σ1 m (fun vs σ2=>Bt P n (.builtin id) (c :: vs) σ2 Q) X) X):Ev P n fx (.Call (.Attribute o name apos) es [] pos) σ m Q X:=
 fun A st B g env s he hr hm=>by
  show wpAny _ _ (attributeBase o name env (eval o env) >>= _) _ _ _
  rw [Au6 hb]
  refine Be8 (Bf2 (h A st B g env s he hr hm) (fun ov s1 qM=>?_) fun _ _ q=>q)
  obtain ⟨g1,σ1,m1,c,hg1,hr1,hv1,hm1,hh⟩:=qM
  subst hm1
  have Baa:methodCallForm (es.length + ([]:List Keyword).length) (By5 pos (Bk5 es env)) (backToKw pos (Ck2 [] env))=true:=Ba3 hs hl
  have Bc9:methodCallPos true o env apos pos=pure pos:=by unfold methodCallPos; rw [Bay]; rfl
  refine Be8 (Bo2 ?_)
  unfold methodCall
  rw [Baa]
  rcases hh with ⟨C,as,f,ck,hio,hlk,hq1⟩ | ⟨T,id,hmb,ht,hq1⟩
  · unfold ckM at ck
    rw [Bg0,Bg0,Bg0,decide_eq_true_eq] at ck
    obtain ⟨⟨⟨hg,hf⟩,ht⟩,Aj6⟩:=ck
    obtain ⟨a,dx,od,es',k,rfl,q1,q2,q3,q4,I⟩:=hio.at hr1.toRepC hv1
    have hl:=q4.lookIn q3 name
    rw [hlk] at hl
    have kin:=hr1.pc.kin.keeps hr1.fz
    refine Be8 (Bl0 (method_fn kin I (plainGet_of hg).1 (plainGet_of hg).2 hf (beq_iff_eq.mp ht) (by show (lookIn name od).map _=_; rw [hl]; rfl) ?_))
    refine Be8 (Cg7 Bc9 ?_)
    refine callWith_of (P:=P.K.In) (by show ((By5 pos (Bk5 es env)).any (·.1) || false)=false; rw [Adw hs]; rfl) (keeps_K Aj6) (Adx (Aub hs) ?_)
    refine Bf2 (hq1 A st B g1 env _ he hr1 hm) (fun vs s' qM=>?_) fun _ _ q=>q.mono hg1 fun _ _ _ x=>x
    obtain ⟨g',σ',m',ds,hg,hr',hv,hm',hlen,hq⟩:=qM
    subst hm'
    refine ⟨hr'.pc.kin.keeps hr'.fz,?_⟩
    exact Bf2 (Al6 hr' (.cons (hv1.mono hg) hv) hm hq) (fun _ _ q=>q.mono (A3 hg1 hg) fun _ _ _ x=>x) fun _ _ q=>q.mono (A3 hg1 hg) fun _ _ _ x=>x
  · obtain ⟨t1,t2⟩:=ht.is hr1.toRepC hv1
    refine Be8 (Bl0 (getMethod_builtin t1 hmb.pa hmb.slot hmb.ty t2 ?_))
    refine Be8 (Cg7 Bc9 (Cf1 (Adw hs) (Adx (Aub hs) ?_)))
    refine Bf2 (hq1 A st B g1 env s1 he hr1 hm) (fun vs s' qM=>?_) fun _ _ q=>q.mono hg1 fun _ _ _ x=>x
    obtain ⟨g',σ',m',ds,hg,hr',hv,hm',hlen,hq⟩:=qM
    subst hm'
    exact Bf2 (hq A st B g' env _ s' (ov :: vs) hr' (.cons (hv1.mono hg) hv) hm) (fun _ _ q=>q.mono (A3 hg1 hg) fun _ _ _ x=>x) fun _ _ q=>q.elim
theorem Awc {op a b Q Q'} (h:Co P n op a b σ Q) (hq:∀ v σ,Q v σ->Q' v σ):Co P n op a b σ Q':=
 fun A st B g env m s u v hr ha hb hm=>Bf2 (h A st B g env m s u v hr ha hb hm) (fun _ _ q=>q.mono (A2 _) fun _ _ _ x=>⟨x.1,hq _ _ x.2⟩) fun _ _ q=>q
theorem Bbq {es pos Q} (h:Evs P n fx pos es σ m (Ld Q) X) (hl:es.length<=1000):Ev P n fx (.List es pos) σ m Q X:=
 fun A st B g env s he hr hm=>List_ (Bf2 (h A st B g env s he hr hm) (fun vs s' qE=>by
  obtain ⟨g',σ',m',ds,hg,hr',hv,hm',hlen,hq⟩:=qE
  have hz:vs.length<=sizeLine:=by rw [hv.length,hlen,Bn5]; exact Be7 hl (by decide)
  refine Bn8 ?_ (by show vs.toArray.size<=sizeLine; rw [Bp1]; exact hz)
  obtain ⟨hn,R2⟩:=hr'.Ac3 (x:=.list ds) (Aa3 s'.heap _) (Bh5 _) (Bi1 s'.heap (o:={ cls:=.type "list",data:=.seq vs.toArray }) rfl) ⟨rfl,_,_,rfl,hv,rfl,rfl⟩ s'.toks
  cases hq with
  | inl hq=>exact ⟨g',_,m',_,hg,R2,.loc _,hm',hq _ hn⟩
  | inr hq=>
   obtain ⟨g2,k1,k2,k3⟩:=R2.Afg (Sto.A0 ..)
   rw [Sto.Abm hn] at k3
   exact ⟨g2,_,_,_,A3 hg k1,k3,k2,hm',hq⟩) fun _ _ q=>q)
theorem Ax3 {e Q Q'} (h:Pe P n fx e σ m Q X) (hq:∀ v σ,Q v σ->Q' v σ):Pe P n fx e σ m Q' X:=by
 cases e with
 | none=>exact hq _ _ h
 | some e=>exact Ag h hq
theorem Af8 {e Q Q'} (h:Tt P n fx e σ m Q X) (hq:∀ v σ,Q v σ->Q' v σ):Tt P n fx e σ m Q' X:=
 JS.mono h (fun _ _ _ q=>⟨q.1,hq _ _ q.2⟩) fun _ _ _ q=>q
end
noncomputable def SE (c:Cf) (E:Expr->Sto->Vs->(V->Sto->Prop)->Prop):Prop:=∀ e σ m Q,E e σ m Q->Ev c.P c.n c.fx e σ (vof m) Q c.X
noncomputable def ST (c:Cf) (T:Expr->Sto->Vs->(Bool->Sto->Prop)->Prop):Prop:=∀ e σ m Q,T e σ m Q->Tt c.P c.n c.fx e σ (vof m) Q c.X
section
variable {c:Cf} {r:WR}
theorem Ael {E} (hE:SE c E):∀ es pos σ m Q,wEs E es σ m Q->Evs c.P c.n c.fx pos es σ (vof m) Q c.X
 | [],pos,σ,m,Q,h=>Ali h
 | e :: r,pos,σ,m,Q,h=>by
  obtain ⟨hs,h⟩:=Ck.out h
  exact Aeh (Ag (hE _ _ _ _ h) fun v σ' q=>Ael hE r pos _ _ _ q) (Ab3 hs)
theorem w1 {E e σ m Q} (hE:SE c E) (h:wEs E [e] σ m Q):Ev c.P c.n c.fx e σ (vof m) (fun a σ=>Q [a] σ) c.X:=by
 obtain ⟨hs,h⟩:=Ck.out h
 exact hE _ _ _ _ h
theorem w2 {E a b σ m Q} (hE:SE c E) (h:wEs E [a,b] σ m Q):Ev c.P c.n c.fx a σ (vof m) (fun x σ1=>Ev c.P c.n c.fx b σ1 (vof m) (fun y σ2=>Q [x,y] σ2) c.X) c.X:=by
 obtain ⟨hs,h⟩:=Ck.out h
 exact Ag (hE _ _ _ _ h) fun v σ' q=>w1 hE q
theorem w3 {E a b d σ m Q} (hE:SE c E) (h:wEs E [a,b,d] σ m Q):Ev c.P c.n c.fx a σ (vof m) (fun x σ1=>Ev c.P c.n c.fx b σ1 (vof m) (fun y σ2=>Ev c.P c.n c.fx d σ2 (vof m) (fun z σ3=>Q [x,y,z] σ3) c.X) c.X) c.X:=by
 obtain ⟨hs,h⟩:=Ck.out h
 exact Ag (hE _ _ _ _ h) fun v σ' q=>w2 hE q
theorem Auy {E} (hE:SE c E) {e σ m Q} (h:wPe E e σ m Q):Pe c.P c.n c.fx e σ (vof m) Q c.X:=by
 cases e with
 | none=>exact h
 | some e=>exact hE _ _ _ _ h
theorem Ar9 {T} (hT:ST c T):∀ es σ m Q,Bb6 T es σ m Q->At c.P c.n c.fx .And es σ (vof m) Q c.X
 | [],σ,m,Q,h=>Aop h
 | e :: r,σ,m,Q,h=>Ayq (Af8 (hT _ _ _ _ h) fun b σ' q=>by
  cases b with
  | true=>exact Ar9 hT r _ _ _ q
  | false=>exact q)
theorem Auh {T} (hT:ST c T):∀ es σ m Q,wOr T es σ m Q->At c.P c.n c.fx .Or es σ (vof m) Q c.X
 | [],σ,m,Q,h=>Apm h
 | e :: r,σ,m,Q,h=>Baq (Af8 (hT _ _ _ _ h) fun b σ' q=>by
  cases b with
  | true=>exact q
  | false=>exact Auh hT r _ _ _ q)
theorem Avi {op Q a b σ} (h:Azw c op Q a b σ):Bo c.P c.n op a b σ Q:=by
 cases op with
 | Add=>
  unfold Azw at h
  dsimp only at h
  cases a <;> first | exact h | (cases b <;> first | exact h | exact Aym h)
 | Sub=>
  unfold Azw at h
  dsimp only at h
  cases a <;> first | exact h | (cases b <;> first | exact h | exact Azh h)
 | _=>exact h
theorem Au3 (hE:SE c r.E) {f es p σ m Q} (h:Ay4 c r (.Call f es [] p) f es p σ m Q):Ev c.P c.n c.fx (.Call f es [] p) σ (vof m) Q c.X:=by
 cases f with
 | Name x np=>
  obtain ⟨hg,h⟩:=Ck.out h
  rw [Bg0] at hg
  cases hv:Axd.lookup x with
   | none=>rw [hv] at h; exact h.elim
   | some v=>
    rw [hv] at h
    have ck:=Amr hv c.w
    unfold ckG at ck
    rw [Bg0,Bm7] at ck
    obtain ⟨kd,ck⟩:=ck
    have kg:=Am2 hg.1
    cases v with
    | ref a=>
     rw [Bg0,decide_eq_true_eq] at ck
     cases es with
     | nil=>exact Aqr a kg ck.1 ck.2 kd h
     | cons e r=>
      have h2:=hg.2
      rw [Bv9,Bg0] at h2
      exact An1 a kg ck.1 ck.2 kd (Ab3 h2.1) (fun env=>Adw h2.2) (Ael hE _ _ _ _ _ h)
    | builtin id=>
     rw [Bg0,Bg0,decide_eq_true_eq,decide_eq_true_eq,Bm7,beq_eq_false_iff_ne] at ck
     cases es with
     | nil=>exact h.elim
     | cons e r=>
      have h2:=hg.2
      rw [Bv9,Bg0] at h2
      exact Azj id kg ck.1.1 ck.1.2 ck.2 kd (Ab3 h2.1) (fun env=>Adw h2.2) (Ael hE _ _ _ _ _ h)
    | type T=>
     rw [Bg0,Bg0,decide_eq_true_eq,decide_eq_true_eq,Bm7,beq_eq_false_iff_ne] at ck
     cases es with
     | nil=>exact h.elim
     | cons e r=>
      have h2:=hg.2
      rw [Bv9,Bg0] at h2
      exact Ayc T kg ck.1.1 ck.1.2 ck.2 kd (Ab3 h2.1) (fun env=>Adw h2.2) (Ael hE _ _ _ _ _ h)
    | _=>cases ck
 | Attribute o x ap=>
  obtain ⟨hg,h⟩:=Ck.out h
  rw [Bg0,Bg0,Bg0,decide_eq_true_eq] at hg
  refine Avh hg.1 hg.2.1 hg.2.2.1 hg.2.2.2 (Ag (hE _ _ _ _ h) fun v σ' q=>?_)
  have kb:∀ {v},Me x v σ' (Fmb c r es v m Q σ')->∃ T id,MB T x id/\Ty σ' v T/\Evs c.P c.n c.fx p es σ' (vof m) (fun vs σ2=>Bt c.P c.n (.builtin id) (v :: vs) σ2 Q) c.X:=fun q=>by
   cases q with | mk T id hb ht h=>exact ⟨T,id,hb,ht,Ael hE _ _ _ _ _ h⟩
  cases v with
   | obj C as=>
    unfold Kme at q
    dsimp only at q
    cases hm:Asn C x with
    | none=>rw [hm] at q; exact q.elim
    | some f=>
     rw [hm] at q
     dsimp only at q
     cases hl:as.lookup x with
     | some _=>rw [hl] at q; exact q.elim
     | none=>rw [hl] at q; exact .inl ⟨C,as,f,Asj hm _,.obj,hl,Ael hE _ _ _ _ _ q⟩
   | _=>exact .inr (kb q)
 | _=>exact h
theorem Axw (hE:SE c r.E) (hT:ST c r.T):SE c (stE c r):=fun e σ m Q h=>by
 cases e with
 | Constant k a p=>
  cases k with
  | int i=>exact Ayz h
  | str x=>exact Axn h
  | none=>exact Awv h
  | bool b=>exact Avw h
  | _=>exact h.elim
 | Name x p=>
  obtain ⟨hk,h⟩:=Ck.out h
  obtain ⟨v,hv,h⟩:=Oc.out h
  exact Ag0 v (Alf hk).1 (Alf hk).2.1 (Alf hk).2.2 hv h
 | Tuple es k p=>
  obtain ⟨hk,h⟩:=Ck.out h
  exact Ast (Ael hE _ _ _ _ _ h) (Bi6 hk)
 | List es p=>
  obtain ⟨hk,h⟩:=Ck.out h
  exact Bbq (Ael hE _ _ _ _ _ h) (Bi6 hk)
 | BinOp a op b p=>exact Azi (Ag (w2 hE h) fun v σ' q=>Ag q fun u σ'' q=>Avi q)
 | UnaryOp op x p=>
  cases op with
  | USub=>
   cases x with
   | Constant k a p'=>cases k with
    | int i=>exact Ay9 h
    | _=>exact h
   | _=>exact h
  | _=>exact h
 | IfExp t b o p=>exact Atu (Af8 (hT _ _ _ _ h) fun x σ' q=>by
   cases x with
   | true=>exact hE _ _ _ _ q
   | false=>exact hE _ _ _ _ q)
 | Compare l ops xs p=>
  cases ops with
  | nil=>exact h
  | cons op ops=>
   cases ops with
   | cons _ _=>exact h
   | nil=>
    cases xs with
    | nil=>exact h
    | cons x xs=>
     cases xs with
     | cons _ _=>exact h
     | nil=>
      unfold stE at h
      dsimp only at h
      cases hk:Bq8 op x with
      | true=>rw [hk] at h; exact h.elim
      | false=>rw [hk] at h; exact Ayj (w2 hE h) hk
 | Subscript v i p=>
  cases i with
  | Slice lo hi st q=>
   cases st with
   | some _=>exact Auj (w2 hE h)
   | none=>exact Asg (Ag (hE _ _ _ _ h) fun v σ1 q=>Ax3 (Auy hE q) fun a σ2 q=>Auy hE q)
  | _=>exact Auj (w2 hE h)
 | Attribute o x p=>
  obtain ⟨hk,h⟩:=Ck.out h
  refine Az9 hk (Ag (hE _ _ _ _ h) fun v σ' q=>?_)
  cases v with
   | obj C as=>
    obtain ⟨ha,q⟩:=Ck.out q
    obtain ⟨d,hl,q⟩:=Oc.out q
    exact ⟨C,as,d,(Arf ha _).1,.obj,hl,q⟩
   | inst C dx=>
    obtain ⟨ha,q⟩:=Ck.out q
    cases q with | mk as d h1 h2 h3=>exact ⟨C,as,d,(Arf ha _).1,.inst h1,h2,h3⟩
   | _=>exact q.elim
 | Call f es ks p=>
  cases ks with
  | nil=>exact Au3 hE h
  | cons _ _=>exact h
 | _=>exact h
theorem Az7 (hE:SE c r.E) (hT:ST c r.T):ST c (stT c r):=fun e σ m Q h=>by
 have g:∀ e',e'=e->Aji e=true->stT c r e σ m Q=Ck (Aji e) (r.E e σ m (Tru Q))->Tt c.P c.n c.fx e σ (vof m) Q c.X:=fun _ _ hn he=>by
  rw [he,hn] at h
  exact Ay7 (Ag (hE _ _ _ _ h) fun v σ' q=>by cases q with | mk b h1 h2=>exact ⟨b,h1,h2⟩) (Bag e hn)
 cases e with
 | UnaryOp op x p=>
  cases op with
  | Not=>exact Az2 (hT _ _ _ _ h)
  | _=>exact g _ rfl rfl rfl
 | BoolOp op es p=>
  cases op with
  | And=>exact Ari (Ar9 hT _ _ _ _ h)
  | Or=>exact Ari (Auh hT _ _ _ _ h)
 | Compare l ops xs p=>
  cases ops with
  | nil=>exact h.elim
  | cons op ops=>
   cases ops with
   | cons op2 ops=>
    cases ops with
    | cons _ _=>exact h.elim
    | nil=>
     cases xs with
     | nil=>exact h.elim
     | cons x xs=>
      cases xs with
      | nil=>exact h.elim
      | cons y xs=>
       cases xs with
       | cons _ _=>exact h.elim
       | nil=>
        unfold stT at h
        dsimp only at h
        cases hk:(Bq8 op x || Bq8 op2 y) with
        | true=>rw [hk] at h; exact h.elim
        | false=>
         rw [hk] at h
         rw [Bool.or_eq_false_iff] at hk
         refine Avm (Ag (w2 hE h) fun a σ1 q=>Ag q fun b σ2 q=>Awc q fun x σ3 q=>?_) hk.1 hk.2
         cases x with
         | true=>exact hE _ _ _ _ q
         | false=>exact q
   | nil=>
    cases xs with
    | nil=>exact h.elim
    | cons x xs=>
     cases xs with
     | cons _ _=>exact h.elim
     | nil=>
      unfold stT at h
      dsimp only at h
      cases hk:Bq8 op x with
      | true=>rw [hk] at h; exact h.elim
      | false=>rw [hk] at h; exact Ayo (w2 hE h) hk
 | IfExp _ _ _ _=>exact h.elim
 | _=>exact g _ rfl rfl rfl
theorem Aca (c:Cf):∀ k,SE c (wr c k).E/\ST c (wr c k).T
 | 0=>⟨fun _ _ _ _ h=>h,fun _ _ _ _ h=>h⟩
 | k + 1=>⟨Axw (Aca c k).1 (Aca c k).2,Az7 (Aca c k).1 (Aca c k).2⟩
end
noncomputable def Bbp {α:Type} (t:Sem α):Option α:=match t with | .pure a=>some a | _=>none
theorem Ap3 {α:Type} {t:Sem α} {a:α} (h:Bbp t=some a):t=Pure.pure a:=by
 cases t with
 | pure b=>cases h; rfl
 | _=>cases h
noncomputable def envOf (sc:Scope):Env:={ scope:=sc,locals:=0,globals:=0,cells:=[] }
noncomputable def Awb (sc:Scope) (t e:Expr):Option (Option (List Str)):=Bbp (Cm1 [t] e (envOf sc))
theorem Am7 {sc:Scope} {t e:Expr} {r:Option (List Str)} (h:Awb sc t e=some r) {env:Env} (he:env.scope=sc):Cm1 [t] e env=Pure.pure r:=by
 subst he; exact Ap3 h
noncomputable def Aq4 (sc:Scope) (t e:Expr) (l:Nat):Option Bool:=Bbp (Cc8 e (some t) l (envOf sc))
theorem Ajm {sc:Scope} {t e:Expr} {l:Nat} {r:Bool} (h:Aq4 sc t e l=some r) {env:Env} (he:env.scope=sc):Cc8 e (some t) l env=Pure.pure r:=by
 subst he; exact Ap3 h
noncomputable def NQ (c:Cf) (N:Sto->Vs->Prop) (f:Flw) (σ:Sto) (m':A8):Prop:=match f with
 | .next=>∃ m,m'=vof m/\N σ m
 | .cont=>∃ m,m'=vof m/\c.C σ m
 | .ret v=>c.R v σ
 | .brk=>False
noncomputable def ExL (c:Cf) (s:Stmt) (σ:Sto) (m:Vs) (N:Sto->Vs->Prop):Prop:=Ex c.P c.n c.fx s σ (vof m) (NQ c N) c.X
noncomputable def ExA (c:Cf) (x:Str) (e:Expr) (p pos:Pos) (σ:Sto) (m:Vs) (N:Sto->Vs->Prop):Prop:=Ex c.P c.n c.fx (.Assign [.Name x p] e pos) σ (vof m) (NQ c N) c.X
noncomputable def Kas (x:Str) (m:Vs) (N:Sto->Vs->Prop) (v:V) (σ:Sto):Prop:=N σ (Asa m x v)
noncomputable def Agb:List Str->List V->Vs->Vs
 | x :: xs,d :: ds,m=>Agb xs ds (Asa m x d)
 | _,_,m=>m
noncomputable def swB:List Str->List V->Vs->(Vs->Prop)->Prop
 | [],[],m,F=>F m
 | x :: xs,d :: ds,m,F=>swB xs ds m fun m'=>F (Asa m' x d)
 | _,_,_,_=>False
noncomputable def Ba5:List Str->List V->Vs->(Vs->Prop)->Prop
 | x :: xs,d :: ds,m,F=>Ba5 xs ds (Asa m x d) F
 | _,_,m,F=>F m
noncomputable def bdV (sc:Scope) (t:Expr) (v:V) (m:Vs):Option Vs:=match t with
 | .Name x _=>(match Au8 sc x with | true=>some (Asa m x v) | false=>none)
 | _=>none
noncomputable def Azy (sc:Scope):List Expr->List V->Vs->Option Vs
 | [],[],m=>some m
 | t :: ts,d :: ds,m=>(bdV sc t d m).bind fun m'=>Azy sc ts ds m'
 | _,_,_=>none
noncomputable def bdT (sc:Scope) (t:Expr) (v:V) (m:Vs):Option Vs:=match t with
 | .Tuple ts _ _=>(match v with | .tup ds=>Azy sc ts ds m | _=>none)
 | _=>bdV sc t v m
noncomputable def wBd (c:Cf) (t:Expr) (v:V) (m:Vs) (F:Vs->Prop):Prop:=match bdT c.fx.sc t v m with | some m'=>F m' | none=>False
noncomputable def Kbd (c:Cf) (t:Expr) (m:Vs) (N:Sto->Vs->Prop) (v:V) (σ:Sto):Prop:=wBd c t v m (N σ)
noncomputable def Ksw (names:List Str) (m:Vs) (N:Sto->Vs->Prop) (v:V) (σ:Sto):Prop:=match v with | .tup ds=>swB names ds m (N σ) | _=>False
noncomputable def Ksi (c:Cf) (m:Vs) (N:Sto->Vs->Prop) (v o i:V) (σ:Sto):Prop:=Si c.P c.n o i v σ (fun σ'=>N σ' m)
inductive Sat (dx:Addr) (x:Str) (v:V) (σ:Sto) (m:Vs) (N:Sto->Vs->Prop):Prop
 | mk (as:List (Str × V)) (h:σ dx=some (.attrs as)) (hl:as.lookup x=none) (hn:as.length<=100) (hq:N (σ.put dx (.attrs (as ++ [(x,v)]))) m)
noncomputable def Ksa (x:Str) (m:Vs) (N:Sto->Vs->Prop) (v o:V) (σ:Sto):Prop:=match o with
 | .inst C dx=>(match aOk C x with | true=>Sat dx x v σ m N | false=>False)
 | _=>False
noncomputable def Kex (m:Vs) (N:Sto->Vs->Prop) (v:V) (σ:Sto):Prop:=match v with | .none=>N σ m | _=>False
noncomputable def Kst (F:List Stmt->Sto->Vs->(Sto->Vs->Prop)->Prop) (b o:List Stmt) (m:Vs) (N:Sto->Vs->Prop) (x:Bool) (σ:Sto):Prop:=if x then F b σ m N else F o σ m N
noncomputable def Krs (c:Cf) (v:V) (σ:Sto):Prop:=match v with | .str y=>c.Y y σ | _=>False
noncomputable def LpC (c:Cf) (en:Bool) (t:Expr) (b:List Stmt) (m:Vs) (N:Sto->Vs->Prop) (ds:List V) (σ:Sto):Prop:=Lp c.P c.n c.fx en t b ds σ (vof m) (NQ c N) c.X
noncomputable def Kfo (F:List V->Sto->Prop) (v:V) (σ:Sto):Prop:=match v with | .lst ds=>F ds σ | .tup ds=>F ds σ | _=>False
noncomputable def Kit (c:Cf) (en:Bool) (T:String) (F:List V->Sto->Prop) (vs:List V) (σ:Sto):Prop:=BtI c.P c.n en (.type T) vs σ F
noncomputable def wIt (c:Cf) (it:Expr) (σ:Sto) (m:Vs) (F:Bool->List V->Sto->Prop):Prop:=
 let go:Prop:=wE c it σ m (Kfo (F false))
 match it with
 | .Call (.Name x _) (e :: es) [] _=>(match x == Bf4 "range" || x == Bf4 "enumerate" with
  | true=>(match Asz c.fx.sc x && (e :: es).all notStar with
   | true=>(match x == Bf4 "range" with | true=>wEs (wE c) (e :: es) σ m (Kit c false "range" (F false)) | false=>wEs (wE c) (e :: es) σ m (Kit c true "enumerate" (F true)))
   | false=>False)
  | false=>go)
 | .Set ..=>False
 | _=>go
noncomputable def WlC (c:Cf) (t:Expr) (b:List Stmt) (σ:Sto) (m:Vs) (N:Sto->Vs->Prop):Prop:=Wl c.P c.n c.fx t b σ (vof m) (NQ c N) c.X
noncomputable def Fl (c:Cf) (t:Expr) (b:List Stmt) (m:Vs) (N:Sto->Vs->Prop) (en:Bool) (ds:List V) (σ:Sto):Prop:=LpC c en t b m N ds σ
noncomputable def Ksq (F:List Stmt->Sto->Vs->(Sto->Vs->Prop)->Prop) (r:List Stmt) (N:Sto->Vs->Prop) (σ:Sto) (m:Vs):Prop:=F r σ m N
noncomputable def stA (c:Cf) (t e:Expr) (pos:Pos) (σ:Sto) (m:Vs) (N:Sto->Vs->Prop):Prop:=match t with
 | .Name x p=>(match Au8 c.fx.sc x with | true=>(match Abw e with | true=>wE c e σ m (Kas x m N) | false=>ExA c x e p pos σ m N) | false=>False)
 | .Tuple ts k p=>(match Abw e with
  | true=>(match Awb c.fx.sc t e with
   | some (some names)=>(match names.all fun x=>(match c.fx.sc.names.lookup x with | some .local=>true | _=>false) with | true=>wE c e σ m (Ksw names m N) | false=>False)
   | some none=>wE c e σ m (Kbd c t m N)
   | none=>False)
  | false=>False)
 | .Subscript o i _=>(match Abw e with | true=>wEs (wE c) [e,o,i] σ m (K3 (Ksi c m N)) | false=>False)
 | .Attribute o x _=>(match Abw e with | true=>wEs (wE c) [e,o] σ m (K2 (Ksa x m N)) | false=>False)
 | _=>False
noncomputable def wRs (c:Cf) (e:Expr) (pos:Pos) (σ:Sto) (m:Vs) (N:Sto->Vs->Prop):Prop:=match e with
 | .Call (.Name x _) [e] [] _=>(match x == Bf4 "Misused" with
  | true=>(match Asz c.fx.sc x && (notStar e && Nat.ble 2 c.n) with | true=>wE c e σ m (Krs c) | false=>False)
  | false=>False)
 | _=>False
inductive Aft (F:List Stmt->Sto->Vs->(Sto->Vs->Prop)->Prop) (r:List Stmt) (N:Sto->Vs->Prop):Sto->Vs->Prop
 | go {σ:Sto} {m:Vs} (h:F r σ m N):Aft F r N σ m
 | frz {σ:Sto} {m:Vs} (x:Str) {a:Addr} {ds:List V} (hm:vof m x=some (.loc a)) (hx:σ a=some (.list ds)) (h:Aft F r N (σ.del a) (Asa m x (.lst ds))):Aft F r N σ m
 | fgt {σ:Sto} {m:Vs} (σ0:Sto) (μ:Vs) (hs:Sub σ0 σ) (hm:Alv (vof m) μ) (h:Aft F r N σ0 μ):Aft F r N σ m
noncomputable def Apn:Stmt->Bool
 | .For ..=>true | .While ..=>true | .If (.Name ..) ..=>true | _=>false
inductive Bdd (c:Cf) (a:Addr) (ds:List V) (j:Nat) (x:Int) (m:Vs) (N:Sto->Vs->Prop) (v:V) (σ:Sto):Prop
 | mk (y:Int) (e:v=.int y) (h:σ a=some (.list ds)) (hq:N (σ.put a (.list (ds.set j (.int (x + y))))) m)
inductive Bdo (c:Cf) (e:Expr) (m:Vs) (N:Sto->Vs->Prop) (o i:V) (σ:Sto):Prop
 | mk (a:Addr) (ds:List V) (k:Int) (j:Nat) (x:Int) (ho:o=.loc a) (hi:i=.int k) (h1:σ a=some (.list ds)) (h2:ds[j]?=some (.int x)) (h3:k=(j:Int)) (h4:j < 1000000) (h:wE c e σ m (Bdd c a ds j x m N))
noncomputable def stS (c:Cf) (F:List Stmt->Sto->Vs->(Sto->Vs->Prop)->Prop) (s:Stmt) (σ:Sto) (m:Vs) (N:Sto->Vs->Prop):Prop:=match s with
 | .Assign [t] e pos=>stA c t e pos σ m N
 | .Expr e _=>(match Abw e with | true=>wE c e σ m (Kex m N) | false=>False)
 | .Return (some e) _=>wE c e σ m c.R
 | .If t b o _=>wT c t σ m (Kst F b o m N)
 | .Continue _=>c.C σ m
 | .For t it b [] _=>wIt c it σ m (Fl c t b m N)
 | .While t b [] _=>WlC c t b σ m N
 | .Raise (some e) none pos=>wRs c e pos σ m N
 | .AugAssign (.Subscript o (.Name i ip) _) .Add e _=>wEs (wE c) [o,.Name i ip] σ m (K2 (Bdo c e m N))
 | s=>ExL c s σ m N
noncomputable def stB (c:Cf) (F:List Stmt->Sto->Vs->(Sto->Vs->Prop)->Prop) (l:List Stmt) (σ:Sto) (m:Vs) (N:Sto->Vs->Prop):Prop:=match l with
 | []=>N σ m
 | s :: r=>match Apn s with | true=>stS c F s σ m (Aft F r N) | false=>stS c F s σ m (Ksq F r N)
noncomputable def wB0 (c:Cf) (l:List Stmt) (σ:Sto) (m:Vs) (N:Sto->Vs->Prop):Prop:=Exs c.P c.n c.fx l σ (vof m) (NQ c N) c.X
noncomputable def wB (c:Cf):Nat->List Stmt->Sto->Vs->(Sto->Vs->Prop)->Prop
 | 0=>wB0 c
 | k + 1=>stB c (wB c k)
section
variable {c:Cf} {σ:Sto} {m:Vs}
theorem Aug {n t v m' Q X} (h:bdV c.fx.sc t v m=some m') (hQ:Q σ (vof m')):Bd c.P n c.fx t v σ (vof m) Q X/\∀ ts env,Ca2 (t :: ts) env=(false,assign t env) :: Ca2 ts env:=by
 cases t with
 | Name x p=>
  unfold bdV at h
  dsimp only at h
  cases hs:Au8 c.fx.sc x with
  | false=>rw [hs] at h; cases h
  | true=>
   rw [hs] at h
   cases h
   exact ⟨Av4 (Am3 hs) (by rw [<- Adc]; exact hQ),fun _ _=>rfl⟩
 | _=>cases h
theorem Ava {n m' Q X ts ds m} (h:Azy c.fx.sc ts ds m=some m') (hQ:Q σ (vof m')):Bds c.P n c.fx ts ds σ (vof m) Q X/\ts.length=ds.length/\(∀ env,(Ca2 ts env).length=ts.length)/\∀ env,(Ca2 ts env).findIdx? (·.1)=none:=by
 induction ts generalizing ds m with
 | nil=>
  cases ds with
  | nil=>cases h; exact ⟨Avp hQ,rfl,fun _=>rfl,fun _=>rfl⟩
  | cons _ _=>cases h
 | cons t ts ih=>
  cases ds with
  | nil=>cases h
  | cons d ds=>
   obtain ⟨m1,hb,h⟩:=Bx4.mp h
   obtain ⟨h1,h2,h3,h4⟩:=ih h
   have hh:=Aug (σ:=σ) (n:=n) (X:=X) (Q:=fun σ' μ=>Bds c.P n c.fx ts ds σ' μ Q X) hb h1
   refine ⟨Atx hh.1 (hh.2 ts),congrArg (· + 1) h2,fun env=>?_,fun env=>?_⟩
   · rw [hh.2]; exact congrArg (· + 1) (h3 env)
   · rw [hh.2,List.findIdx?_cons,h4]; rfl
theorem Ahq {n t v F Q X} (h:wBd c t v m F) (hQ:∀ m',F m'->Q σ (vof m')):Bd c.P n c.fx t v σ (vof m) Q X:=by
 unfold wBd at h
 cases hb:bdT c.fx.sc t v m with
 | none=>rw [hb] at h; exact h.elim
 | some m'=>
  rw [hb] at h
  have hq:=hQ _ h
  cases t with
  | Tuple ts k p=>
   cases v with
   | tup ds=>
    obtain ⟨h1,h2,h3,h4⟩:=Ava (n:=n) (X:=X) hb hq
    exact Atr h1 h2 h3 h4
   | _=>cases hb
  | Name x p=>exact (Aug (c:=c) (t:=.Name x p) (v:=v) (m:=m) hb hq).1
  | _=>exact nomatch (show (none:Option Vs)=some m' from hb)
theorem Avu {P n o i v Q Q'} (h:Si P n o i v σ Q) (hq:∀ σ,Q σ->Q' σ):Si P n o i v σ Q':=
 fun A st B g env m s o i x hr h1 h2 h3 hm=>Bf2 (h A st B g env m s o i x hr h1 h2 h3 hm) (fun _ _ q=>q.mono (A2 _) fun _ _ x=>⟨x.1,hq _ x.2⟩) fun _ _ q=>q
theorem Aw6 {P n fx μ X o name p' pos e Q}
  (h:Ev P n fx e σ μ (fun v σ1=>Ev P n fx o σ1 μ (fun c σ2=>∃ C dx as,ckS P (C,name)=true/\c=.inst C dx/\σ2 dx=some (.attrs as)/\as.lookup name=none/\as.length<=100/\Q .next (σ2.put dx (.attrs (as ++ [(name,v)]))) μ) X) X)
  (hsw:∀ env,Cc8 e (some (.Attribute o name p')) pos.line env=pure false):Ex P n fx (.Assign [.Attribute o name p'] e pos) σ μ Q X:=
 fun A st B g env s he hr hm=>Ca1 (Bf2 (h A st B g env s he hr hm) (fun v s1 qA=>by
  obtain ⟨g1,σ1,m1,d,hg1,hr1,hv1,hm1,hq1⟩:=qA
  subst hm1
  refine Bf2 (hq1 A st B g1 env s1 he hr1 hm) (fun ov s2 qM=>?_) fun _ _ q=>q.mono hg1 fun _ _ _ x=>x
  obtain ⟨g2,σ2,m2,c,hg2,hr2,hv2,hm2,C,dx,as,ck,e1,e2,e3,e4,hq2⟩:=qM
  subst hm2; subst e1
  unfold ckS at ck
  rw [Bg0,Bg0,Bg0,decide_eq_true_eq,decide_eq_true_eq] at ck
  obtain ⟨⟨⟨hs,hp⟩,ht⟩,hh⟩:=ck
  obtain ⟨a,dx',od,es,k,rfl,q1,q2,q3,q4,I⟩:=Io.at hr2.toRepC (.inst e2) hv2
  obtain rfl:dx'=dx:=by
   cases hv2 with
   | inst w=>rw [q1] at w; cases (w); rfl
  obtain ⟨x1,x2,o',x3,x4,x5,x6,es',n',x7,x8⟩:=hr2.sto _ _ e2
  rw [q2] at x3; cases x3
  rw [q3] at x7; cases x7
  have kin:P.K.In s2.heap:=hr2.pc.kin.keeps hr2.fz
  obtain ⟨cd,hc,hd⟩:=any_some hh
  have hl:=q4.look name
  rw [e3] at hl
  have hi:es.findIdx? (·.key.isStr name)=none:=by
   rw [Array.findIdx?_eq_none_iff]
   intro y hy
   have:=By1.mp hl y (by simpa using hy)
   simpa using this
  have hn:es.any (·.refKey)=false:=by rw [<- Ce2]; exact q4.noRef
  have hsz:es.size<=1000:=by
   have:∀ {l:List DictEntry} {as:List (Str × V)},ARs g2 l as->l.length=as.length:=by
    intro l as h
    induction as generalizing l with
    | nil=>cases h; rfl
    | cons x r ih=>cases h with | cons _ _ t=>simp [ih t]
   have:=this q4
   rw [Bg4] at this; rw [this]; exact Be7 e4 (by decide)
  refine set_plain kin I hs (osa_open (s:={ s2 with toks:=s2.toks + 1 }) (od:=some od) kin ⟨I.at_,I.cls,I.no,I.dict⟩ hp ht fun b=>?_)
  refine Aie (s:={ s2 with toks:=s2.toks + 1 }) kin I.at_ rfl rfl hc hd q2 q3 hn hi hsz fun hash=>?_
  have ho2:=Bk3 (Bp8 name hash (.str name (s2.toks + 1)) v) q2 (by rw [Aao q3 hi]; rfl)
  rw [Aao q3 hi] at ho2
  have R3:=hr2.upd (x':=.attrs (as ++ [(name,d)])) e2 (Aby (Bp8 name hash (.str name (s2.toks + 1)) v)) ho2 ⟨x4,x5,x6,_,_,rfl,by
   rw [Array.toList_push]
   have:∀ {l:List DictEntry} {as:List (Str × V)} {e:DictEntry} {t:Tok},ARs g2 l as->e.key=.str name t->VR g2 e.val d->ARs g2 (l ++ [e]) (as ++ [(name,d)]):=by
    intro l as e t h k1 k2
    induction as generalizing l with
    | nil=>cases h; exact .cons k1 k2 .nil
    | cons x r ih=>cases h with | cons w1 w2 w3=>exact .cons w1 w2 (ih w3)
   exact this q4 rfl (hv1.mono hg2)⟩ (s2.toks + 1 + 1)
  exact ⟨g2,_,m2,.next,A3 hg1 hg2,R3,.next,hq2⟩) fun _ _ q=>q) (hsw env)
theorem Ar1 {n w fx μ X np cpos pos e Q} (h2:2<=n) (hk:fx.sc.names.lookup (Bf4 "Misused")=some .globalImplicit)
  (h:Ev (PM w) n fx e σ μ (fun v σ'=>∃ why,v=.str why/\X why σ' μ) X) (ha:notStar e=true):Ex (PM w) n fx (.Raise (some (.Call (.Name (Bf4 "Misused") np) [e] [] cpos)) none pos) σ μ Q X:=by
 obtain ⟨k,rfl⟩:=Nat.exists_eq_add_of_le' h2
 exact Asr hk h (Ab3 ha)
theorem An7 {P n fx en e μ X Q Q'} (h:Itr P n fx en e σ μ Q X) (hq:∀ v σ,Q v σ->Q' v σ):Itr P n fx en e σ μ Q' X:=
 fun A st B g env s he hr hm=>Bf2 (h A st B g env s he hr hm) (fun x s1 h1=>Bf2 h1 (fun v s2 qC=>by obtain ⟨g',σ',ds,it,a1,a2,a3,a4,a5⟩:=qC; exact ⟨g',σ',ds,it,a1,a2,a3,a4,hq _ _ a5⟩) fun _ _ q=>q) fun _ _ q=>q
theorem Atv {e F} (h:Ev c.P c.n c.fx e σ (vof m) (Kfo F) c.X):Itr c.P c.n c.fx false e σ (vof m) F c.X:=
 fun A st B g env s he hr hm=>Bf2 (h A st B g env s he hr hm) (fun v s1 qD=>by
  obtain ⟨g1,σ1,m1,d,hg1,hr1,hv1,hm1,hq⟩:=qD
  subst hm1
  have n1:=Aa2 hr1.fz (Ak _)
  have n2:=Aa0 hr1.keeps (Ak _)
  cases d with
  | lst ds=>
   obtain ⟨l,items,rfl,hli,hi⟩:=hv1.Atl
   exact wpAny_pyIter_list (IsList.stays hli hr1.fz) ⟨g1,σ1,ds,s1.heap.objs.size,hg1,hr1.stays (Aa3 _ _) s1.toks,rfl,.list (i:=0) (all:=ds) ⟨_,Bi1 _ rfl,rfl,rfl⟩ hli hi n1 n2,hq⟩
  | tup ds=>
   obtain ⟨l,items,rfl,hli,hi⟩:=hv1.isTup
   exact wpAny_pyIter_tuple (IsTuple.stays hli hr1.fz) ⟨g1,σ1,ds,s1.heap.objs.size,hg1,hr1.stays (Aa3 _ _) s1.toks,rfl,.tup (i:=0) (all:=ds) ⟨_,Bi1 _ rfl,rfl,rfl⟩ hli hi n1 n2,hq⟩
  | _=>exact hq.elim) fun _ _ q=>q
theorem Bbj {x T} (h:Asz c.fx.sc x=true) (hx:Axd.lookup x=some (.type T)):c.fx.sc.names.lookup x=some .globalImplicit/\nsIn c.P.K Bl3 x=some none/\Bs7 x=some (.type T)/\x≠Bf4 "__name__"/\(x == Bf4 "__debug__")=false:=by
 have ck:=Amr hx c.w
 unfold ckG at ck
 rw [Bg0,Bm7] at ck
 obtain ⟨kd,ck⟩:=ck
 rw [Bg0,Bg0,decide_eq_true_eq,decide_eq_true_eq,Bm7,beq_eq_false_iff_ne] at ck
 exact ⟨Am2 h,ck.1.1,ck.1.2,ck.2,kd⟩
theorem Ap6 {en x np pos e es T F} (hg:(Asz c.fx.sc x && (e :: es).all notStar)=true) (hx:Axd.lookup x=some (.type T)) (h:wEs (wE c) (e :: es) σ m (Kit c en T F)) :
  Itr c.P c.n c.fx en (.Call (.Name x np) (e :: es) [] pos) σ (vof m) F c.X:=by
 rw [Bg0] at hg
 have h2:=hg.2
 rw [Bv9,Bg0] at h2
 obtain ⟨a1,a2,a3,a4,a5⟩:=Bbj hg.1 hx
 exact Avs T a1 a2 a3 a4 a5 (Ab3 h2.1) (fun env=>Adw h2.2) (Ael (Aca c 40).1 _ _ _ _ _ h)
theorem Akf {it F} (h:wIt c it σ m F):(∃ en,Itr c.P c.n c.fx en it σ (vof m) (F en) c.X)/\∀ env x,Bo6 it env x=pure x:=by
 have go:wE c it σ m (Kfo (F false))->∃ en,Itr c.P c.n c.fx en it σ (vof m) (F en) c.X:=fun h=>⟨false,Atv ((Aca c 40).1 _ _ _ _ h)⟩
 cases it with
 | Call f es ks p=>
  refine ⟨?_,fun _ _=>rfl⟩
  cases f with
  | Name x np=>
   cases es with
   | nil=>exact go h
   | cons e es=>
    cases ks with
    | cons _ _=>exact go h
    | nil=>
     unfold wIt at h
     dsimp only at h
     cases h1:(x == Bf4 "range" || x == Bf4 "enumerate") with
     | false=>rw [h1] at h; exact go h
     | true=>
      rw [h1] at h
      dsimp only at h
      cases h2:(Asz c.fx.sc x && (e :: es).all notStar) with
      | false=>rw [h2] at h; exact h.elim
      | true=>
       rw [h2] at h
       dsimp only at h
       cases h3:x == Bf4 "range" with
       | true=>rw [h3] at h; obtain rfl:=eq_of_beq h3; exact ⟨false,Ap6 h2 rfl h⟩
       | false=>
        rw [h3] at h h1
        obtain rfl:=eq_of_beq (a:=x) (by simpa using h1)
        exact ⟨true,Ap6 h2 rfl h⟩
  | _=>exact go h
 | Set _ _=>exact h.elim
 | _=>exact ⟨go h,fun _ _=>rfl⟩
theorem Af1:∀ (xs:List Str) (ds:List V) (m:Vs),putAll (xs.zip ds) (vof m)=vof (Agb xs ds m)
 | [],_,_=>rfl
 | _ :: _,[],_=>rfl
 | x :: xs,d :: ds,m=>by
  show putAll (xs.zip ds) ((vof m).put x d)=vof (Agb xs ds (Asa m x d))
  rw [<- Adc]; exact Af1 xs ds _
theorem Ah2 {x:Str} {d:V}:∀ {xs:List Str} {ds:List V} {m:Vs},ds.length=xs.length->Agb (xs ++ [x]) (ds ++ [d]) m=Asa (Agb xs ds m) x d
 | [],[],_,_=>rfl
 | _ :: xs,_ :: ds,_,h=>Ah2 (xs:=xs) (ds:=ds) (Ca8 h)
theorem Auv:∀ {xs:List Str} {ds:List V} {m:Vs} {F:Vs->Prop},swB xs ds m F->ds.length=xs.length/\F (Agb xs.reverse ds.reverse m)
 | [],[],_,_,h=>⟨rfl,h⟩
 | x :: xs,d :: ds,m,F,h=>by
  have q:=Auv (xs:=xs) (ds:=ds) h
  rw [Cd3,Cd3,Ah2 (by rw [Ci3,Ci3]; exact q.1)]
  exact ⟨congrArg _ q.1,q.2⟩
theorem Arc:∀ {xs:List Str} {ds:List V} {m:Vs} {F:Vs->Prop},Ba5 xs ds m F->F (Agb xs ds m)
 | _ :: xs,_ :: ds,_,_,h=>Arc (xs:=xs) (ds:=ds) h
 | [],_,_,_,h=>h
 | _ :: _,[],_,_,h=>h
theorem Axt {t e pos N} (h:stA c t e pos σ m N) (hfn:c.fx.sc.kind=.function):Ex c.P c.n c.fx (.Assign [t] e pos) σ (vof m) (NQ c N) c.X:=by
 have hE:=(Aca c 40).1
 cases t with
 | Name x p=>
  unfold stA at h
  dsimp only at h
  cases h1:Au8 c.fx.sc x with
  | false=>rw [h1] at h; exact h.elim
  | true=>
   rw [h1] at h
   dsimp only at h
   cases h2:Abw e with
   | false=>rw [h2] at h; exact h
   | true=>rw [h2] at h; exact Ape (Am3 h1) (Ag (hE _ _ _ _ h) fun v σ' q=>⟨_,(Adc ..).symm,q⟩) (Agh h2 _ _)
 | Tuple ts k p=>
  unfold stA at h
  dsimp only at h
  cases h2:Abw e with
  | false=>rw [h2] at h; exact h.elim
  | true=>
   rw [h2] at h
   dsimp only at h
   have Az4:∀ env,env.scope=c.fx.sc->swapsWithSole [.Tuple ts k p] e pos.line env=pure false:=fun env _=>Agh h2 (some (.Tuple ts k p)) pos.line env
   cases h3:Awb c.fx.sc (.Tuple ts k p) e with
   | none=>rw [h3] at h; exact h.elim
   | some r=>
    rw [h3] at h
    cases r with
    | none=>exact Az5 (Ag (hE _ _ _ _ h) fun v σ' q=>Ahq q fun m' q=>⟨_,rfl,q⟩) Az4 fun env he=>Am7 h3 he
    | some names=>
     dsimp only at h
     cases h4:(names.all fun x=>(match c.fx.sc.names.lookup x with | some .local=>true | _=>false)) with
     | false=>rw [h4] at h; exact h.elim
     | true=>
      rw [h4] at h
      refine Aw8 (names:=names) (Ag (hE _ _ _ _ h) fun v σ' q=>?_) (fun x hx=>?_) Az4 fun env he=>Am7 h3 he
      · cases v with
        | tup ds=>
         have q:=Auv q
         exact ⟨ds,rfl,q.1,_,Af1 ..,q.2⟩
        | _=>exact q.elim
      · have:=Bj7.mp h4 x hx
        revert this
        cases c.fx.sc.names.lookup x with
        | none=>intro q; cases q
        | some k=>cases k <;> intro q <;> first | rfl | cases q
 | Subscript o i p=>
  unfold stA at h
  dsimp only at h
  cases h2:Abw e with
  | false=>rw [h2] at h; exact h.elim
  | true=>
   rw [h2] at h
   exact Anu (Ag (w3 hE h) fun v σ1 q=>Ag q fun o σ2 q=>Ag q fun i σ3 q=>Avu q fun σ' q=>⟨_,rfl,q⟩) (Agh h2 _ _)
 | Attribute o x p=>
  unfold stA at h
  dsimp only at h
  cases h2:Abw e with
  | false=>rw [h2] at h; exact h.elim
  | true=>
   rw [h2] at h
   refine Aw6 (Ag (w2 hE h) fun v σ1 q=>Ag q fun o σ2 q=>?_) (Agh h2 _ _)
   cases o with
   | inst C dx=>
    have q:(match aOk C x with | true=>Sat dx x v σ2 m N | false=>False):=q
    cases ha:aOk C x with
    | false=>rw [ha] at q; exact q.elim
    | true=>
     rw [ha] at q
     cases q with | mk as h1 h3 h4 h5=>exact ⟨C,dx,as,(Arf ha _).2,rfl,h1,h3,h4,_,rfl,h5⟩
   | _=>exact q.elim
 | _=>exact h.elim
theorem Au5 {F} (hF:∀ l σ m N,F l σ m N->Exs c.P c.n c.fx l σ (vof m) (NQ c N) c.X) (hfn:c.fx.sc.kind=.function) {s N} (h:stS c F s σ m N):Ex c.P c.n c.fx s σ (vof m) (NQ c N) c.X:=by
 have hE:=(Aca c 40).1
 have hT:=(Aca c 40).2
 cases s with
 | Assign ts e pos=>
  cases ts with
  | nil=>exact h
  | cons t ts=>
   cases ts with
   | nil=>exact Axt h hfn
   | cons _ _=>exact h
 | Expr e pos=>
  unfold stS at h
  dsimp only at h
  cases h2:Abw e with
  | false=>rw [h2] at h; exact h.elim
  | true=>
   rw [h2] at h
   refine Aqk (Ag (hE _ _ _ _ h) fun v σ' q=>?_) (Agh h2 _ _)
   cases v with
   | none=>exact ⟨rfl,_,rfl,q⟩
   | _=>exact q.elim
 | Return e pos=>
  cases e with
  | none=>exact h
  | some e=>exact Apa (Ag (hE _ _ _ _ h) fun v σ' q=>q)
 | If t b o pos=>
  refine Bb5 (Af8 (hT _ _ _ _ h) fun x σ' q=>?_)
  cases x with
  | true=>exact hF _ _ _ _ q
  | false=>exact hF _ _ _ _ q
 | Continue pos=>exact Am5 ⟨_,rfl,h⟩
 | For t it b o pos=>
  cases o with
  | cons _ _=>exact h
  | nil=>
   have hh:=Akf h
   obtain ⟨en,hi⟩:=hh.1
   exact Azb hi hh.2
 | While t b o pos=>
  cases o with
  | cons _ _=>exact h
  | nil=>exact Ata h
 | AugAssign t op e pos=>
  cases t with
  | Subscript o i q=>
   cases i with
   | Name x p=>
    cases op with
    | Add=>
     exact Anp (Ag (w2 hE h) fun v σ1 q=>Ag q fun u σ2 q=>by
      cases q with
      | mk a ds k j x ho hi h1 h2 h3 h4 h=>exact ⟨a,ds,k,j,x,ho,hi,h1,h2,h3,h4,Ag (hE _ _ _ _ h) fun v σ' q=>by
        cases q with | mk y e h hq=>exact ⟨y,e,h,_,rfl,hq⟩⟩) fun _ _ _=>rfl
    | _=>exact h
   | _=>exact h
  | _=>exact h
 | Raise e o pos=>
  cases e with
  | none=>exact h
  | some e=>
   cases o with
   | some _=>exact h
   | none=>
    cases e with
    | Call f es ks p=>
     cases f with
     | Name x np=>
      cases es with
      | nil=>exact h.elim
      | cons e es=>
       cases es with
       | cons _ _=>exact h.elim
       | nil=>
        cases ks with
        | cons _ _=>exact h.elim
        | nil=>
         unfold stS wRs at h
         dsimp only at h
         cases h1:x == Bf4 "Misused" with
         | false=>rw [h1] at h; exact h.elim
         | true=>
          rw [h1] at h
          obtain rfl:=eq_of_beq h1
          dsimp only at h
          cases h2:(Asz c.fx.sc (Bf4 "Misused") && (notStar e && Nat.ble 2 c.n)) with
          | false=>rw [h2] at h; exact h.elim
          | true=>
           rw [h2] at h
           rw [Bg0,Bg0] at h2
           refine Ar1 (Bi6 h2.2.2) (Am2 h2.1) (Ag (hE _ _ _ _ h) fun v σ' q=>?_) h2.2.1
           cases v with
           | str y=>exact ⟨y,rfl,q⟩
           | _=>exact q.elim
     | _=>exact h.elim
    | _=>exact h.elim
 | _=>exact h
theorem Ayk {F r N} (hF:∀ l σ m N,F l σ m N->Exs c.P c.n c.fx l σ (vof m) (NQ c N) c.X) {σ m} (h:Aft F r N σ m):Exs c.P c.n c.fx r σ (vof m) (NQ c N) c.X:=by
 induction h with
 | go h=>exact hF _ _ _ _ h
 | frz x hm hx h ih=>rw [Adc] at ih; exact Avb x hm hx ih
 | fgt σ0 μ hs hm h ih=>exact Avk hs (Atj (Ad4 hm) ih)
theorem Aod (hfn:c.fx.sc.kind=.function):∀ k l σ m N,wB c k l σ m N->Exs c.P c.n c.fx l σ (vof m) (NQ c N) c.X
 | 0,l,σ,m,N,h=>h
 | k + 1,[],σ,m,N,h=>Awi ⟨_,rfl,h⟩
 | k + 1,s :: r,σ,m,N,h=>by
  have h:(match Apn s with | true=>stS c (wB c k) s σ m (Aft (wB c k) r N) | false=>stS c (wB c k) s σ m (Ksq (wB c k) r N)):=h
  cases hs:Apn s with
  | true=>
   rw [hs] at h
   exact Ajo (JS.mono (Au5 (Aod hfn k) hfn h) (fun f σ' m' q=>by
    cases f with
    | next=>obtain ⟨m1,rfl,q⟩:=q; exact Ayk (Aod hfn k) q
    | _=>exact q) fun _ _ _ q=>q)
  | false=>
   rw [hs] at h
   exact Ajo (JS.mono (Au5 (Aod hfn k) hfn h) (fun f σ' m' q=>by
    cases f with
    | next=>obtain ⟨m1,rfl,q⟩:=q; exact Aod hfn k _ _ _ _ q
    | _=>exact q) fun _ _ _ q=>q)
end
theorem Aos {P n fx σ m X x p' pos e Q} (hk:fx.sc.names.lookup x=some .local∨fx.sc.names.lookup x=some .cell) (h:Ev P n fx e σ m (fun v σ'=>Q .next σ' (m.put x v)) X)
  (hs:∀ env,env.scope=fx.sc->Cc8 e (some (.Name x p')) pos.line env=pure false):Ex P n fx (.Assign [.Name x p'] e pos) σ m Q X:=
 fun A st B g env s he hr hm=>wpAny_Assign_Name (Bf2 (h A st B g env s he hr hm) (fun v s' qA=>by
  obtain ⟨g',σ',m',b,hg,hr',hv,hm',hq⟩:=qA
  subst hm'
  exact Aux he hr' hk hv fun h' tk R' _ _=>⟨g',σ',_,.next,hg,R',.next,hq⟩) fun _ _ q=>q) (hs env he.sc)
theorem Ayx {α:Type} {C:List α->Prop} {n:Nat} (h:∀ a l,l.length=n->C (a :: l)) (l:List α) (e:l.length=n + 1):C l:=by
 cases l with
 | nil=>cases e
 | cons a l=>exact h a l (Ca8 e)
theorem len0 {α:Type} {C:List α->Prop} (h:C []) (l:List α) (e:l.length=0):C l:=by
 cases l with
 | nil=>exact h
 | cons a l=>cases e
theorem Aou {α:Type} {C:List α->Prop} (h:∀ a,C [a]):∀ l:List α,l.length=1->C l:=Ayx fun a=>len0 (C:=fun l=>C (a :: l)) (h a)
theorem Anb {α:Type} {C:List α->Prop} (h:∀ a b,C [a,b]):∀ l:List α,l.length=2->C l:=Ayx fun a=>Aou (C:=fun l=>C (a :: l)) (h a)
theorem Ajq {α:Type} {C:List α->Prop} (h:∀ a b c,C [a,b,c]):∀ l:List α,l.length=3->C l:=Ayx fun a=>Anb (C:=fun l=>C (a :: l)) (h a)
theorem Aqo {α:Type} {C:List α->Prop} (h:∀ a b c d,C [a,b,c,d]):∀ l:List α,l.length=4->C l:=Ayx fun a=>Ajq (C:=fun l=>C (a :: l)) (h a)
theorem Baz {α:Type} {C:List α->Prop} (h:∀ a b c d e,C [a,b,c,d,e]):∀ l:List α,l.length=5->C l:=Ayx fun a=>Aqo (C:=fun l=>C (a :: l)) (h a)
noncomputable def noN (_:Sto) (_:Vs):Prop:=False
noncomputable def Bdc (R:V->Sto->Prop) (σ:Sto) (_:Vs):Prop:=R .none σ
noncomputable def fOk (P:Pm) (f:FuncData) (k:Nat):Bool:=f.globals == Bl3 && f.closure.isEmpty && f.builtins == Cf8 && codeIn P.K f.code f.qualname && Azx f.scope (f.params.args.map (·.arg)) && Nat.beq f.params.args.length k
theorem B8 {w n a f body vs σ Q Y} (hf:Bc2 (PM w).K a=some f) (hb:f.body=.stmts body)
  (hbi:∀ vals:List Value,vals.length=f.params.args.length->bindArgs f ⟨vals,[]⟩=pure ((f.params.args.map (·.arg)).zip vals)) (ok:fOk (PM w) f vs.length=true)
  (h:∀ (R':V->Sto->Prop) (Y':Str->Sto->Prop),(∀ {v σ'},Q v σ'->R' v σ')->(∀ {y σ'},Y y σ'->Y' y σ')->(∀ {v σ' σ''},Sub σ'' σ'->Q v σ''->R' v σ')->(∀ {y σ' σ''},Sub σ'' σ'->Y y σ''->Y' y σ') ->
   Ba5 (f.params.args.map (·.arg)) vs [] fun m=>wB ⟨w,n,⟨f.scope,false⟩,Y',R',noN⟩ 60 body σ m (Bdc R')):Fn (PM w) (n + 1) (.ref a) vs σ Q Y:=by
 unfold fOk at ok
 simp only [Bg0,List.isEmpty_iff] at ok
 obtain ⟨⟨⟨⟨⟨k1,k2⟩,k3⟩,k4⟩,k5⟩,k6⟩:=ok
 refine Aza (Bap hf hb (eq_of_beq k1) k2 (eq_of_beq k3) k4 hbi k5 (Nat.eq_of_beq_eq_true k6) ?_)
 have hk:f.scope.kind=.function:=by
  unfold Azx at k5
  simp only [Bg0] at k5
  exact eq_of_beq k5.1.1.1.1.1
 have:=Aod (c:=⟨w,n,⟨f.scope,false⟩,fun y σ'=>∃ σ'',Sub σ'' σ'/\Y y σ'',fun v σ'=>∃ σ'',Sub σ'' σ'/\Q v σ'',noN⟩) hk _ _ _ _ _ (Arc (h _ _ (fun q=>⟨_,Sub.refl _,q⟩) (fun q=>⟨_,Sub.refl _,q⟩) (fun h q=>⟨_,h,q⟩) fun h q=>⟨_,h,q⟩))
 rw [<- Af1] at this
 refine JS.mono this (fun fl σ' m' q=>?_) fun _ _ _ q=>q
 induction fl using Flw.casesOn with
 | next=>obtain ⟨m1,_,q⟩:=q; exact q
 | cont=>obtain ⟨m1,_,q⟩:=q; exact q.elim
 | ret v=>exact q
 | brk=>exact q.elim
noncomputable def goT (t:Expr) (en:Bool):Bool:=match t with | .Tuple ..=>true | .Name ..=>!en | _=>false
theorem Aif {t en} (h:goT t en=true):(∃ elts k pos,t=.Tuple elts k pos)∨((∀ it v,Bl4 t it v=pure ())/\en=false):=by
 cases t with
 | Tuple a b d=>exact .inl ⟨_,_,_,rfl⟩
 | Name x p=>exact .inr ⟨fun _ _=>rfl,by cases en; rfl; cases h⟩
 | _=>cases h
section
variable {c:Cf} {σ:Sto} {m:Vs} {N:Sto->Vs->Prop}
theorem Au7 {K k l} (hfn:c.fx.sc.kind=.function) (h:wB (c.setC K) k l σ m K):Exs c.P c.n c.fx l σ (vof m) (NQ (c.setC K) K) c.X:=Aod (c:=c.setC K) hfn _ _ _ _ _ h
theorem Axa {en t b} {α:Type} (τ:α->Sto) (μ:α->Vs) (I:List V->α->Prop) (ds:List V) (a0:α) (hgo:(goT t en && !c.fx.comp && c.fx.sc.kind == .function)=true) (h0:I ds a0) (hs:Sub (τ a0) σ) (hm:Alv (vof m) (μ a0))
  (Ajg:∀ a,I [] a->N (τ a) (μ a))
  (Ay:∀ d r a K,(∀ a' σ' m',I r a'->Sub (τ a') σ'->Alv (vof m') (μ a')->K σ' m')->I (d :: r) a->wBd c t d (μ a) fun m1=>wB (c.setC K) 60 b (τ a) m1 K) :
  Fl c t b m N en ds σ:=by
 rw [Bg0,Bg0,Bm7] at hgo
 refine Axl (α:=α) τ (fun a=>vof (μ a)) I a0 hgo.1.2 (Aif hgo.1.1) h0 hs (Ad4 hm) (fun a h=>⟨_,rfl,Ajg a h⟩) ?_
 intro d r a h
 refine Ahq (Ay d r a (fun σ' m'=>∃ a',I r a'/\Sub (τ a') σ'/\Alv (vof m') (μ a')) (fun a' σ' m' h1 h2 h3=>⟨a',h1,h2,h3⟩) h) fun m1 q=>?_
 refine JS.mono (Au7 (eq_of_beq hgo.2) q) (fun fl σ' m' q=>?_) fun _ _ _ q=>q
 induction fl using Flw.casesOn with
 | next=>obtain ⟨_,rfl,a',h1,h2,h3⟩:=q; exact ⟨a',h1,h2,Ad4 h3⟩
 | cont=>obtain ⟨_,rfl,a',h1,h2,h3⟩:=q; exact ⟨a',h1,h2,Ad4 h3⟩
 | ret v=>exact q
 | brk=>exact q.elim
theorem Aky {en t b} {α β:Type} (f:β->V) (τ:α->Sto) (μ:α->Vs) (I:List β->α->Prop) (l:List β) (a0:α) (hgo:(goT t en && !c.fx.comp && c.fx.sc.kind == .function)=true) (h0:I l a0) (hs:Sub (τ a0) σ) (hm:Alv (vof m) (μ a0))
   (Ajg:∀ a,I [] a->N (τ a) (μ a))
   (Ay:∀ d r a K,(∀ a' σ' m',I r a'->Sub (τ a') σ'->Alv (vof m') (μ a')->K σ' m')->I (d :: r) a->wBd c t (f d) (μ a) fun m1=>wB (c.setC K) 60 b (τ a) m1 K) :
   Fl c t b m N en (l.map f) σ:=by
 refine Axa τ μ (fun ds a=>∃ l,ds=l.map f/\I l a) _ a0 hgo ⟨l,rfl,h0⟩ hs hm ?_ ?_
 · rintro a ⟨l,e,h⟩
   cases l with
   | nil=>exact Ajg a h
   | cons=>cases e
 · rintro d r a K hK ⟨l,e,h⟩
   cases l with
   | nil=>cases e
   | cons x l=>cases e; exact Ay x l a K (fun a' σ' m' h1=>hK a' σ' m' ⟨l,rfl,h1⟩) h
theorem Ajz {t b} {α:Type} {u k} (τ:α->Sto) (μ:α->Vs) (I:Nat->α->Prop) (a0:α) (hgo:(goT t false && !c.fx.comp && c.fx.sc.kind == .function)=true) (h0:I u a0) (hs:Sub (τ a0) σ) (hm:Alv (vof m) (μ a0))
   (Ajg:∀ a,I (u + k) a->N (τ a) (μ a))
   (Ay:∀ (i:Nat) a K,i < u + k->(∀ a' σ' m',I (i + 1) a'->Sub (τ a') σ'->Alv (vof m') (μ a')->K σ' m')->I i a->wBd c t (.int i) (μ a) fun m1=>wB (c.setC K) 60 b (τ a) m1 K) :
   Fl c t b m N false (Ai7 u k) σ:=by
 refine Axa τ μ (fun ds a=>∃ i j:Nat,i + j=u + k/\ds=Ai7 i j/\I i a) _ a0 hgo ⟨u,k,rfl,rfl,h0⟩ hs hm ?_ ?_
 · rintro a ⟨i,j,e,e2,h⟩
   cases j with
   | zero=>exact Ajg a (e ▸ h)
   | succ j=>cases e2
 · rintro d r a K hK ⟨i,j,e,e2,h⟩
   cases j with
   | zero=>cases e2
   | succ j=>
    injection e2 with e2 e3
    subst e2 e3
    exact Ay i a K (e ▸ By3 (Bp9 j)) (fun a' σ' m' h1=>hK a' σ' m' ⟨i + 1,j,(Bh2 i 1 j).trans e,rfl,h1⟩) h
theorem Anr {t b} {α β:Type} {k0} (f:β->V) (τ:α->Sto) (μ:α->Vs) (I:Nat->List β->α->Prop) (l:List β) (a0:α) (hgo:(goT t true && !c.fx.comp && c.fx.sc.kind == .function)=true) (h0:I k0 l a0) (hs:Sub (τ a0) σ) (hm:Alv (vof m) (μ a0))
   (Ajg:∀ k a,I k [] a->N (τ a) (μ a))
   (Ay:∀ k d r a K,(∀ a' σ' m',I (k + 1) r a'->Sub (τ a') σ'->Alv (vof m') (μ a')->K σ' m')->I k (d :: r) a->wBd c t (.tup [.int k,f d]) (μ a) fun m1=>wB (c.setC K) 60 b (τ a) m1 K) :
   Fl c t b m N true (Aho k0 (l.map f)) σ:=by
 refine Axa τ μ (fun ds a=>∃ k l,ds=Aho k (l.map f)/\I k l a) _ a0 hgo ⟨k0,l,rfl,h0⟩ hs hm ?_ ?_
 · rintro a ⟨k,l,e,h⟩
   cases l with
   | nil=>exact Ajg k a h
   | cons=>cases e
 · rintro d r a K hK ⟨k,l,e,h⟩
   cases l with
   | nil=>cases e
   | cons x l=>cases e; exact Ay k x l a K (fun a' σ' m' h1=>hK a' σ' m' ⟨k + 1,l,rfl,h1⟩) h
noncomputable def Kwl (c:Cf) (b:List Stmt) (m:Vs) (N K:Sto->Vs->Prop) (x:Bool) (σ:Sto):Prop:=if x then wB (c.setC K) 60 b σ m K else N σ m
theorem Ayw {t b} {α:Type} (τ:α->Sto) (μ:α->Vs) (I:Nat->α->Prop) (k0:Nat) (a0:α) (hgo:(!c.fx.comp && c.fx.sc.kind == .function)=true) (h0:I k0 a0) (hs:Sub (τ a0) σ) (hm:Alv (vof m) (μ a0))
  (Ay:∀ k a K,(∀ k' a' σ' m',k' < k->I k' a'->Sub (τ a') σ'->Alv (vof m') (μ a')->K σ' m')->I k a->wT c t (τ a) (μ a) (Kwl c b (μ a) N K)) :
  WlC c t b σ m N:=by
 rw [Bg0,Bm7] at hgo
 refine Ays (α:=α) τ (fun a=>vof (μ a)) I k0 a0 hgo.1 h0 hs (Ad4 hm) fun k a h=>?_
 refine Af8 ((Aca c 40).2 _ _ _ _ (Ay k a (fun σ' m'=>∃ k' a',k' < k/\I k' a'/\Sub (τ a') σ'/\Alv (vof m') (μ a')) (fun k' a' σ' m' h0 h1 h2 h3=>⟨k',a',h0,h1,h2,h3⟩) h)) fun x σ' q=>?_
 cases x with
 | false=>exact ⟨_,rfl,q⟩
 | true=>
  unfold Kwl at q
  rw [if_pos rfl] at q
  refine JS.mono (Au7 (eq_of_beq hgo.2) q) (fun fl σ' m' q=>?_) fun _ _ _ q=>q
  induction fl using Flw.casesOn with
  | next=>obtain ⟨_,rfl,k',a',h0,h1,h2,h3⟩:=q; exact ⟨a',k',h0,h1,h2,Ad4 h3⟩
  | cont=>obtain ⟨_,rfl,k',a',h0,h1,h2,h3⟩:=q; exact ⟨a',k',h0,h1,h2,Ad4 h3⟩
  | ret v=>exact q
  | brk=>exact q.elim
end
noncomputable def Cf.inC (c:Cf) (scope:Scope):Cf:=⟨c.w,c.n,⟨Als scope c.fx.sc,true⟩,fun _ _=>False,fun _ _=>False,noN⟩
noncomputable def cm (scope:Scope) (m:Vs):Vs:=m.filter fun p=>scope.names.lookup p.1 == some .free
noncomputable def Apd (t:Expr):List Str:=match t with
 | .Name x _=>[x]
 | .Tuple ts _ _=>ts.filterMap fun e=>match e with | .Name x _=>some x | _=>none
 | _=>[]
theorem Adh (scope:Scope):∀ m:Vs,Alb scope (vof m)=vof (cm scope m)
 | []=>funext fun y=>by unfold Alb; split <;> rfl
 | (k,u) :: r=>funext fun y=>by
  let p:Str × V:=(k,u)
  have ih:=congrFun (Adh scope r) y
  unfold Alb at ih ⊢
  unfold cm at ih ⊢
  rw [Cl4]
  show (if _ then (if y=p.1 then some p.2 else vof r y) else none)=_
  by_cases hy:y=p.1
  · subst hy
    by_cases hf:(scope.names.lookup p.1 == some .free)=true
    · rw [if_pos hf,if_pos hf,if_pos rfl]
      show _=if p.1=p.1 then some p.2 else _
      rw [if_pos rfl]
    · rw [if_neg hf,if_neg hf,<- ih,if_neg hf]
  · rw [if_neg hy,ih]
    by_cases hf:(scope.names.lookup p.1 == some .free)=true
    · rw [if_pos hf]
      show _=if y=p.1 then some p.2 else _
      rw [if_neg hy]
    · rw [if_neg hf]
theorem Aqz {scope m x v} (h:vof (cm scope m) x=some v):scope.names.lookup x=some .free:=by
 rw [<- Adh] at h; exact (Age h).2
theorem Atb {x y} (h:y≠x) (m:Vs) (v:V):vof (Asa m x v) y=vof m y:=if_neg h
theorem Aps {sc t v m m'} (h:bdV sc t v m=some m') {y} (hy:y ∉ Apd t):vof m' y=vof m y:=by
 cases t with
 | Name x p=>
  unfold bdV at h
  dsimp only at h
  cases hs:Au8 sc x with
  | false=>rw [hs] at h; cases h
  | true=>rw [hs] at h; cases h; exact Atb (fun e=>hy (by rw [e]; exact .head _)) _ _
 | _=>cases h
theorem Asp {sc y m' k p ts ds m} (h:Azy sc ts ds m=some m') (hy:y ∉ Apd (.Tuple ts k p)):vof m' y=vof m y:=by
 induction ts generalizing ds m with
 | nil=>
  cases ds with
  | nil=>cases h; rfl
  | cons _ _=>cases h
 | cons t ts ih=>
  cases ds with
  | nil=>cases h
  | cons d ds=>
   obtain ⟨m1,hb,h2⟩:=Bx4.mp h
   cases t with
   | Name x q=>
    have hy:y ∉ x :: Apd (.Tuple ts k p):=hy
    rw [ih h2 fun e=>hy (.tail _ e)]
    exact Aps hb (fun e=>by rw [Bf6.mp e] at hy; exact hy (.head _))
   | _=>cases hb
theorem Aj4 {sc t v m m'} (h:bdT sc t v m=some m') {y} (hy:y ∉ Apd t):vof m' y=vof m y:=by
 cases t with
 | Tuple ts k p=>
  induction v using V.casesOn with
  | tup ds=>exact Asp (k:=k) (p:=p) h hy
  | _=>cases h
 | Name x p=>exact Aps (t:=.Name x p) h hy
 | _=>cases h
noncomputable def Lcm (c:Cf) (elt t it:Expr) (ifs:List Expr) (scope:Scope) (pos:Pos) (m:Vs) (Q:V->Sto->Prop) (en:Bool) (ds:List V) (σ:Sto):Prop:=
 ∀ acc,σ acc=none->Cl c.P c.n ⟨Als scope c.fx.sc,true⟩ en (.ListComp elt [⟨t,it,ifs,0⟩] scope pos) 0 acc ds (σ.put acc (.list [])) (Alb scope (vof m)) (fun σ2=>∃ vs,σ2 acc=some (.list vs)/\Q (.lst vs) (σ2.del acc))
noncomputable def Kci (c:Cf) (elt:Expr) (m:Vs) (K1:V->Sto->Prop) (K0:Sto->Prop) (x:Bool) (σ:Sto):Prop:=if x then wE c elt σ m K1 else K0 σ
noncomputable def wIf (c:Cf) (elt:Expr) (ifs:List Expr) (σ:Sto) (K1:V->Sto->Prop) (K0:Sto->Prop) (m:Vs):Prop:=match ifs with
 | []=>wE c elt σ m K1
 | [g]=>wT c g σ m (Kci c elt m K1 K0)
 | _=>False
section
variable {c:Cf} {σ:Sto} {m:Vs}
theorem Aij {elt t it ifs scope pos Q} (ok:Ae1 scope c.fx.sc=true) (h:wIt c it σ m (Lcm c elt t it ifs scope pos m Q)):Ev c.P c.n c.fx (.ListComp elt [⟨t,it,ifs,0⟩] scope pos) σ (vof m) Q c.X:=by
 obtain ⟨⟨en,hi⟩,hf⟩:=Akf h
 exact Amv (en:=en) ok hi hf
theorem Ax9 {x p spos elt t it ifs scope pos N} (ok:Ae1 scope c.fx.sc=true) (hx:(match c.fx.sc.names.lookup x with | some .local=>true | _=>false)=true) (hsw:Aq4 c.fx.sc (.Name x p) (.ListComp elt [⟨t,it,ifs,0⟩] scope pos) spos.line=some true)
   (h:wIt c it σ m (Lcm c elt t it ifs scope pos m (Kas x m N))):ExA c x (.ListComp elt [⟨t,it,ifs,0⟩] scope pos) p spos σ m N:=by
 obtain ⟨⟨en,hi⟩,hf⟩:=Akf h
 refine Aqm (en:=en) ok ?_ (An7 hi fun ds σ1 q acc B1=>?_) (fun env he=>Ajm hsw he) hf
 · revert hx
   cases c.fx.sc.names.lookup x with
   | none=>intro q; cases q
   | some k=>cases k <;> intro q <;> first | rfl | cases q
 · exact fun A st B g env s it he hr hm hi=>Bp4 (q acc B1 A st B g env s it he hr hm hi) fun r s2 hh=>by
    cases r with
    | ok f=>induction hh using BdP.casesOn with | mk g' σ' m' h1 h2 h3=>exact ⟨g',σ',m',h1,h2,h3.1,by obtain ⟨_,vs,e1,e2⟩:=h3; exact ⟨vs,e1,_,(Adc ..).symm,e2⟩⟩
    | error e=>exact hh
theorem Awu {x e p pos N} (hx:(Au8 c.fx.sc x && match Aq4 c.fx.sc (.Name x p) e pos.line with | some false=>true | _=>false)=true) (h:Ev c.P c.n c.fx e σ (vof m) (Kas x m N) c.X):ExA c x e p pos σ m N:=by
 rw [Bg0] at hx
 cases hs:Aq4 c.fx.sc (.Name x p) e pos.line with
 | none=>rw [hs] at hx; cases hx.2
 | some b=>
  rw [hs] at hx
  cases b with
  | true=>cases hx.2
  | false=>exact Aos (Am3 hx.1) (Ag h fun v σ' q=>⟨_,rfl,q⟩) fun env he=>Ajm hs he
theorem Bd7 {ifs c' m1 K1 K0 elt} (hY:c'.Y=fun _ _=>False) (h:wIf c' elt ifs σ K1 K0 m1):Ts c'.P c'.n c'.fx ifs σ (vof m1) (fun b σ2=>if b then Ev c'.P c'.n c'.fx elt σ2 (vof m1) K1 noX else K0 σ2):=by
 have hX:c'.X=noX:=by funext a b d; show c'.Y a b=_; rw [hY]; rfl
 have hE:=(Aca c' 40).1
 have hT:=(Aca c' 40).2
 unfold SE at hE
 unfold ST at hT
 rw [hX] at hE hT
 cases ifs with
 | nil=>exact Ani (hE _ _ _ _ h)
 | cons g r=>
  cases r with
  | cons _ _=>exact h.elim
  | nil=>
   refine Az3 (Af8 (hT _ _ _ _ h) fun b σ' q=>?_)
   cases b with
   | true=>exact hE _ _ _ _ q
   | false=>exact q
theorem Aqx {scope t elt ifs v σ0 K1 K0} (h2:((Apd t).all fun x=>scope.names.lookup x != some .free)=true) (h:wBd (c.inC scope) t v (cm scope m) (wIf (c.inC scope) elt ifs σ0 K1 K0)) :
  Bd c.P c.n (c.inC scope).fx t v σ0 (vof (cm scope m)) (fun σ1 m1=>Al5 (vof (cm scope m)) m1/\Ts c.P c.n (c.inC scope).fx ifs σ1 m1 (fun b σ2=>if b then Ev c.P c.n (c.inC scope).fx elt σ2 m1 K1 noX else K0 σ2)) noX:=by
 unfold wBd at h
 cases hb:bdT (c.inC scope).fx.sc t v (cm scope m) with
 | none=>rw [hb] at h; exact h.elim
 | some m1=>
  rw [hb] at h
  have hv:Al5 (vof (cm scope m)) (vof m1):=fun y v e=>by
   rw [Aj4 hb]; exact e
   intro hy
   have:=Bj7.mp h2 y hy
   rw [Aqz e] at this
   cases this
  refine Ahq (c:=c.inC scope) (F:=fun m'=>m'=m1) (by unfold wBd; rw [hb]) fun m' e=>?_
  subst e
  exact ⟨hv,Bd7 (c':=c.inC scope) rfl h⟩
theorem Acy {β:Type} {elt t it ifs scope pos Q en} (f:β->V) (G:β->Option V) (l:List β) (hgo:(goT t en && (Apd t).all fun x=>scope.names.lookup x != some .free)=true) (hl:l.length<=100000) (hq:Q (.lst (l.filterMap G)) σ)
  (Ay:∀ acc,σ acc=none->∀ x∈l,∀ vs K1 K0,(∀ v σ',G x=some v->Sub (σ.put acc (.list vs)) σ'->K1 v σ')->(∀ σ',G x=none->Sub (σ.put acc (.list vs)) σ'->K0 σ')->wBd (c.inC scope) t (f x) (cm scope m) (wIf (c.inC scope) elt ifs (σ.put acc (.list vs)) K1 K0)) :
  Lcm c elt t it ifs scope pos m Q en (l.map f) σ:=by
 rw [Bg0] at hgo
 intro acc B1
 refine Ams l f G rfl (fun _ _ e=>nomatch e) (Aif hgo.1) hl ⟨_,Sto.A0 ..,by rw [Sto.Abm B1]; exact hq⟩ fun x hx vs=>?_
 rw [Adh]
 exact Aqx hgo.2 (Ay acc B1 x hx vs (fun v σ'=>G x=some v/\Sub (σ.put acc (.list vs)) σ') (fun σ'=>G x=none/\Sub (σ.put acc (.list vs)) σ') (fun v σ' a b=>⟨a,b⟩) fun σ' a b=>⟨a,b⟩)
theorem Acx {β:Type} {elt t it scope pos Q en} (f:β->V) (G:β->V) (l:List β) (hgo:(goT t en && (Apd t).all fun x=>scope.names.lookup x != some .free)=true) (hl:l.length<=100000) (hq:Q (.lst (l.map G)) σ)
  (Ay:∀ acc,σ acc=none->∀ x∈l,∀ vs (K:V->Sto->Prop),(∀ σ',Sub (σ.put acc (.list vs)) σ'->K (G x) σ')->wBd (c.inC scope) t (f x) (cm scope m) fun m1=>wE (c.inC scope) elt (σ.put acc (.list vs)) m1 K) :
  Lcm c elt t it [] scope pos m Q en (l.map f) σ:=
 Acy f (fun x=>some (G x)) l hgo hl (by rw [Aiz]; exact hq) fun acc ha x hx vs K1 K0 h1 h0=>Ay acc ha x hx vs K1 fun σ' s=>h1 _ σ' rfl s
end
noncomputable def Kpc (x:Str) (d:V) (Q:List (Str × V)->Sto->Prop) (es:List (Str × V)) (σ:Sto):Prop:=Q ((x,d) :: es) σ
noncomputable def Kpv (F:Sto->Vs->(List (Str × V)->Sto->Prop)->Prop) (x:Str) (m:Vs) (Q:List (Str × V)->Sto->Prop) (d:V) (σ:Sto):Prop:=F σ m (Kpc x d Q)
noncomputable def Kpk (E:Expr->Sto->Vs->(V->Sto->Prop)->Prop) (F:Sto->Vs->(List (Str × V)->Sto->Prop)->Prop) (v:Expr) (m:Vs) (Q:List (Str × V)->Sto->Prop) (c:V) (σ:Sto):Prop:=match c with | .str x=>E v σ m (Kpv F x m Q) | _=>False
noncomputable def wPr (E:Expr->Sto->Vs->(V->Sto->Prop)->Prop):List (Option Expr)->List Expr->Sto->Vs->(List (Str × V)->Sto->Prop)->Prop
 | []=>fun vs σ _ Q=>match vs with | []=>Q [] σ | _=>False
 | k :: ks=>fun vs σ m Q=>match k with
  | some k=>(match vs with | v :: vs=>E k σ m (Kpk E (wPr E ks vs) v m Q) | _=>False)
  | none=>False
noncomputable def Dd (Q:V->Sto->Prop) (es:List (Str × V)) (σ:Sto):Prop:=∀ a,σ a=none->Q (.loc a) (σ.put a (.A5 (Ai9 [] es)))
theorem Auz {c pos m}:∀ {ks vs σ Q},wPr (wE c) ks vs σ m Q->Prs c.P c.n c.fx pos ks vs σ (vof m) Q c.X
 | [],[],_,_,h=>Aph h
 | some k :: ks,v :: vs,_,_,h=>by
  refine Asb (Ag ((Aca c 40).1 _ _ _ _ h) fun d σ' q=>?_)
  induction d using V.casesOn with
  | str x=>exact ⟨x,rfl,Ag ((Aca c 40).1 _ _ _ _ q) fun u σ'' q=>Auz q⟩
  | _=>exact q.elim
 | [],_ :: _,_,_,h=>h.elim
 | none :: _,_,_,_,h=>h.elim
 | some _ :: _,[],_,_,h=>h.elim
theorem Afm {c σ m keys values pos Q} (h:wPr (wE c) keys values σ m (Dd Q))
  (Aec:∀ env,(Ck4 keys env).zip ((evalEach values env).map fun v=>do let x <- v; Cb6 pos; pure x)=(Aep pos env keys values).map fun p=>(some p.1,p.2):=by intro _; rfl)
  (h0:∀ env,Aep pos env keys values≠[]:=by intro _; exact Bs2 _ _) (hlen:∀ env,(Aep pos env keys values).length<=15:=by intro _; exact Bi6 rfl):Ev c.P c.n c.fx (.Dict keys values pos) σ (vof m) Q c.X:=
 Awd (Auz h) Aec h0 hlen
noncomputable def Bcr (x:Int) (Q:V->Sto->Prop) (d:V) (σ:Sto):Prop:=∀ a,σ a=none->Q (.loc a) (σ.put a (.Aci [(x,d)]))
noncomputable def Be3 (c:Cf) (v:Expr) (m:Vs) (Q:V->Sto->Prop) (k:V) (σ:Sto):Prop:=match k with | .int x=>wE c v σ m (Bcr x Q) | _=>False
theorem Awa {c σ m k v pos Q} (h:wE c k σ m (Be3 c v m Q))
  (Aec:∀ env,(Ck4 [some k] env).zip ((evalEach [v] env).map fun v=>do let x <- v; Cb6 pos; pure x)=(Aep pos env [some k] [v]).map fun p=>(some p.1,p.2):=by intro _; rfl):Ev c.P c.n c.fx (.Dict [some k] [v] pos) σ (vof m) Q c.X:=
 Atq (Ag ((Aca c 40).1 _ _ _ _ h) fun d σ' q=>by
  induction d using V.casesOn with
  | int x=>exact ⟨x,rfl,Ag ((Aca c 40).1 _ _ _ _ q) fun u σ'' q=>q⟩
  | _=>exact q.elim) Aec
section
variable {P:Pm} {n:Nat} {σ:Sto}
theorem dI {p:Prop} [Decidable p] {Q:Bool->Sto->Prop} (h1:p->Q true σ) (h0:¬ p->Q false σ):Q (decide p) σ:=by
 cases h:decide p with
 | true=>exact h1 (of_decide_eq_true h)
 | false=>exact h0 (of_decide_eq_false h)
theorem dT {p:Prop} [Decidable p] {Q:Bool->Sto->Prop} (h:p) (h1:Q true σ):Q (decide p) σ:=by rw [decide_eq_true h]; exact h1
theorem dF {p:Prop} [Decidable p] {Q:Bool->Sto->Prop} (h:¬ p) (h0:Q false σ):Q (decide p) σ:=by rw [decide_eq_false h]; exact h0
theorem nI {p:Prop} [Decidable p] {Q:Bool->Sto->Prop} (h1:p->Q false σ) (h0:¬ p->Q true σ):Q (!decide p) σ:=by
 cases h:decide p with
 | true=>exact h1 (of_decide_eq_true h)
 | false=>exact h0 (of_decide_eq_false h)
theorem nT {p:Prop} [Decidable p] {Q:Bool->Sto->Prop} (h:¬ p) (h1:Q true σ):Q (!decide p) σ:=by rw [decide_eq_false h]; exact h1
theorem nF {p:Prop} [Decidable p] {Q:Bool->Sto->Prop} (h:p) (h1:Q false σ):Q (!decide p) σ:=by rw [decide_eq_true h]; exact h1
theorem jI {p:Prop} [Decidable p] {r:WR} {b o:Expr} {m:Vs} {Q:V->Sto->Prop} (v:V) (h:Q v σ) (h1:p->Q v σ->r.E b σ m Q) (h0:¬ p->Q v σ->r.E o σ m Q):Kif r b o m Q (decide p) σ:=dI (Q:=Kif r b o m Q) (fun q=>h1 q h) fun q=>h0 q h
theorem Bdx {p:Prop} [Decidable p] {F:Sto->Vs->(Bool->Sto->Prop)->Prop} {m:Vs} {Q:Bool->Sto->Prop} (h:Q false σ) (h1:p->Q false σ->F σ m Q):Bb7 F m Q (decide p) σ:=dI (Q:=Bb7 F m Q) (fun q=>h1 q h) fun _=>h
theorem orI {p:Prop} [Decidable p] {F:Sto->Vs->(Bool->Sto->Prop)->Prop} {m:Vs} {Q:Bool->Sto->Prop} {b:Bool} (h:Q b σ) (h1:p->b=true) (h0:¬ p->Q b σ->F σ m Q):Kor F m Q (decide p) σ:=
 dI (Q:=Kor F m Q) (fun q=>show Q true σ from h1 q ▸ h) fun q=>h0 q h
theorem orN {p:Prop} [Decidable p] {F:Sto->Vs->(Bool->Sto->Prop)->Prop} {m:Vs} {Q:Bool->Sto->Prop} {b:Bool} (h:Q b σ) (h1:¬ p->b=true) (h0:p->Q b σ->F σ m Q):Kor F m Q (!decide p) σ:=
 nI (Q:=Kor F m Q) (fun q=>h0 q h) fun q=>show Q true σ from h1 q ▸ h
theorem Asv {α:Type} {F F0 b o r m N x} (τ:α->Sto) (μ:α->Vs) (I:α->Prop) (h1:(∀ a σ' m',I a->Sub (τ a) σ'->Alv (vof m') (μ a)->Aft F0 r N σ' m')->Kst F b o m (Aft F0 r N) x σ)
 (h2:∀ a,I a->F0 r (τ a) (μ a) N):Kst F b o m (Aft F0 r N) x σ:=h1 fun a σ' m' ha hs hm=>.fgt _ _ hs hm (.go (h2 a ha))
variable {a:Addr} {G:String->Prop}
theorem Af {ds} (h:σ a=some (.list ds)) (hq:G "list.append"):Me (Bf4 "append") (.loc a) σ G:=.mk "list" _ ⟨Cf0,F.slot_list_append,F.type_list_append⟩ (.list h) hq
theorem Ake {ds} (h:σ a=some (.list ds)) (hq:G "list.pop"):Me (Bf4 "pop") (.loc a) σ G:=.mk "list" _ ⟨Cf0,Cp1,F.type_list_pop⟩ (.list h) hq
theorem Aoe {ds} (h:σ a=some (.list ds)) (hq:G "list.reverse"):Me (Bf4 "reverse") (.loc a) σ G:=.mk "list" _ ⟨Cf0,F.slot_list_reverse,F.type_list_reverse⟩ (.list h) hq
theorem Aql {ds} (h:σ a=some (.list ds)) (hq:G "list.extend"):Me (Bf4 "extend") (.loc a) σ G:=.mk "list" _ ⟨Cf0,F.slot_list_extend,F.type_list_extend⟩ (.list h) hq
theorem Aun {es} (h:σ a=some (.A5 es)) (hq:G "dict.get"):Me (Bf4 "get") (.loc a) σ G:=.mk "dict" _ ⟨Cm7,Ch9,F.type_dict_get⟩ (.A5 h) hq
theorem Avl {es} (h:σ a=some (.Ad es)) (hq:G "dict.get"):Me (Bf4 "get") (.loc a) σ G:=.mk "dict" _ ⟨Cm7,Ch9,F.type_dict_get⟩ (.Ad h) hq
theorem Ap9 {es} (h:σ a=some (.A5 es)) (hq:G "dict.update"):Me (Bf4 "update") (.loc a) σ G:=.mk "dict" _ ⟨Cm7,F.slot_dict_update,F.type_dict_update⟩ (.A5 h) hq
theorem An0 {x} (hq:G "str.split"):Me (Bf4 "split") (.str x) σ G:=.mk "str" _ ⟨F.plainAttrs_str,F.slot_str_split,F.type_str_split⟩ (.str x) hq
end
section
variable {P:Pm} {n:Nat} {fx:Fx} {σ:Sto} {m:A8} {X:Xt}
theorem Atz {e:Expr} {l:Addr} {ds:List V} {Q:List V->Sto->Prop} (h:Ev P n fx e σ m (fun v σ'=>v=.loc l/\σ' l=some (.list ds)/\Q ds σ') X):Azz P n fx false (some (l,ds)) e σ m Q X:=
 fun A st B g env s he hr hm=>Bf2 (h A st B g env s he hr hm) (fun v s1 qA=>by
  obtain ⟨g1,σ1,m1,a,hg1,hr1,hv1,hm1,e1,e2,hq⟩:=qA
  subst hm1; subst e1
  obtain ⟨_,rfl⟩:=hv1.inv
  obtain ⟨_,_,ol,hol,hcl,items,nl,hdl,c,_⟩:=hr1.sto l _ e2
  refine wpAny_pyIter_list (items:=items) ⟨ol,hol,hcl,nl,hdl⟩ ⟨g1,σ1,ds,s1.heap.objs.size,hg1,hr1.stays (Aa3 _ _) s1.toks,rfl,?_,hq⟩
  exact .As8 (i:=0) (all:=ds) ⟨_,Bi1 _ rfl,rfl,rfl⟩ (Aa2 hr1.fz (Ak _)) (Aa0 hr1.keeps (Ak _))) fun _ _ q=>q
end
section
variable {w:World} {n:Nat} {σ:Sto}
noncomputable def B2 (ns:List Int):O:=.list (ns.map .int)
theorem Ayd {pa ns} (h:σ pa=some (B2 ns)):Dv σ (.loc pa) (.lst (ns.map .int)):=.loc h
theorem Ae6 (ns:List Int):V.Be (ns.map .int)=true:=by
 induction ns with
 | nil=>rfl
 | cons a r ih=>rw [Bg8,V.Be,ih]; rfl
theorem Aj5 {a:V}:min a.dep (V.lst []).dep<=40:=Be7 (Bm3 _ _) (by decide)
theorem Aum {a:V}:min a.dep (V.tup []).dep<=40:=Be7 (Bm3 _ _) (by decide)
theorem Ab0 {pa:Addr} {ns:List Int} {k:Nat} {Q:V->Sto->Prop} {Y:Str->Sto->Prop} (h:σ pa=some (B2 ns)) (hl:ns.length<=66) (hk:0 < k)
  (hq:∀ (r:Nat) ms,r < k->ms.length<=66->Q (.int r) (σ.put pa (B2 ms))):Fn (PM w) (n + 1) (.ref 271) [.loc pa,.int k] σ Q Y:=by
 refine B8 rfl rfl (Anb fun _ _=>rfl) rfl fun R' Y' hR hY hRs hYs=>?_
 have fin:∀ (x:Int) (ms:List Int),ms.length<=66->R' (.int (x.fmod k)) (σ.put pa (B2 ms)):=fun x ms hm=>by
  obtain ⟨r,e⟩:=By4 (Int.fmod_nonneg_of_pos x (show 0 < (k:Int) by lia))
  have:=Int.fmod_lt_of_pos x (show 0 < (k:Int) by lia)
  rw [e]; exact hR (hq r ms (by exact Bn1.mp (e ▸ this)) hm)
 refine .inr (Afs (Ayd h) (.val _) ?_ (Ae6 ns) rfl Aj5)
 cases ns with
 | nil=>
  refine nF rfl (Au9 (by lia) ?_)
  have:=fin 0 [] (Bi4 _)
  rw [show σ.put pa (B2 [])=σ from Sto.Acp h] at this
  exact this
 | cons x r=>
  refine nT (fun e=>nomatch e) (Ake h (Amf (k:=0) h rfl rfl (Au9 (by lia) (fin x r ?_)) ?_))
  · exact Bl7 hl
  · rw [Be9]; lia
end
section
variable {w:World} {n:Nat} {σ:Sto}
theorem Acs:∀ (k:Nat) (a:Int),Ai7 a k=(Bh8 k).map fun (i:Nat)=>V.int (a + i)
 | 0,a=>rfl
 | k + 1,a=>by
  rw [Axr,Acs k,By7,Bg8,Bi5]
  simp only [Int.natCast_zero,Int.add_zero,Bn0,true_and]
  apply Bj5
  intro i _
  simp only [Bt0,Nat.succ_eq_add_one,Int.natCast_add]
  congr 1; lia
theorem Alp {t:List V} {top:Nat} {Q:V->Sto->Prop} {Y:Str->Sto->Prop} (hl:t.length<=1000) (ht:top<=10) (hq:Q (.lst ((rowsOf t top).map .tup)) σ):Fn (PM w) (n + 1) (.ref 295) [.tup t,.int top] σ Q Y:=by
 refine B8 rfl rfl (Anb fun _ _=>rfl) rfl fun R' Y' hR hY hRs hYs=>?_
 refine Af5 (by lia) ?_
 refine As3 (by lia) ?_ ?_
 · exact PyProof.noPylong_small (by exact (show top + 1 < 1073741824 from Bg6 (Bg3 ht) (by decide)))
 refine Aij rfl ?_
 refine Aac (k:=top + 1) (by lia) ?_ (by lia)
 rw [Acs]
 have hfd:((t.length:Int)).fdiv ((top:Int) + 1)=((t.length / (top + 1):Nat):Int):=by
   rw [Int.fdiv_eq_ediv_of_nonneg _ (by lia)]; push_cast; rfl
 have hb:t.length / (top + 1)<=1000:=Be7 (Nat.div_le_self ..) hl
 refine Acx _ (fun k=>.tup (slc (some (t.length / (top + 1) * k)) (some (t.length / (top + 1) * (k + 1))) t)) _ rfl (by simp; lia) (hR ?_) fun acc B1 k hk vs K hK=>?_
 · rw [show (rowsOf t top).map V.tup=(Bh8 (top + 1)).map fun k=>V.tup (slc (some (t.length / (top + 1) * k)) (some (t.length / (top + 1) * (k + 1))) t) from by simp [rowsOf]] at hq
   exact hq
 · have hk':k < top + 1:=Bk6.mp hk
   have h2:t.length / (top + 1) * k<=1000 * 10:=Ci1 hb (by lia)
   rw [hfd]
   generalize t.length / (top + 1)=z at hb h2 hK
   refine Aqn (by lia) (by lia) ?_
   refine Aqn (by lia) (by lia) ?_
   refine Am8 (lo:=some (z * k)) (hi:=some (z * (k + 1))) ?_ ?_ (hK _ (Sub.refl _)) (by lia)
   · show V.int _=V.int _; congr 1; push_cast; simp
   · show V.int _=V.int _; congr 1; push_cast; simp
theorem Ay1 {rows}:decide (rows.filterMap (fun r=>if r≠rows.headD [] then some (V.tup r) else none)=[])=!dif rows:=by
 rw [Bv6,decide_eq_true_iff,Bm7,dif,Bz0,Bq3]
 constructor
 · intro h r hr; have:=h r hr; by_cases q:r=rows.headD [] <;> simp_all
 · intro h r hr; have:=h r hr; by_cases q:r=rows.headD [] <;> simp_all
theorem Ag3 {t p r} (h:r∈rowsOf t p):r.length<=t.length:=by
 simp only [rowsOf,Bh1] at h
 obtain ⟨k,_,rfl⟩:=h
 simp only [slc,Bo9,Bn4]; exact Be7 (Bx6 ..) (Bm3 ..)
theorem Ade {t p r} (h:r∈rowsOf t p) {v} (hv:v∈r):v∈t:=by
 simp only [rowsOf,Bh1] at h
 obtain ⟨k,_,rfl⟩:=h
 exact Ch3 (Ca3 hv)
theorem Ad0 (t:List V) (p:Nat):∃ r rs,rowsOf t p=r :: rs:=by
 cases h:rowsOf t p with
 | nil=>have:=congrArg Bp5 h; simp [rowsOf] at this
 | cons r rs=>exact ⟨r,rs,rfl⟩
theorem Aba {t} (h:∀ v∈t,B4 v):V.Be t=true:=Acr.mpr fun v hv=>(h v hv).1
theorem Ae3:∀ {t},(∀ v∈t,B4 v)->V.Bc t<=1
 | [],_=>by simp [V.Bc]
 | a :: r,h=>by
  have h1:=(h a (.head _)).2
  have h2:=Ae3 (t:=r) fun v hv=>h v (.tail _ hv)
  simp only [V.Bc]; exact Cd5.mpr ⟨h1,h2⟩
theorem Ap8 {P m r r0 Q} (h:∀ v∈r,B4 v) (h':∀ v∈r0,B4 v) (h1:r≠r0->Q true σ) (h0:r=r0->Q false σ):Co P m .NotEq (.tup r) (.tup r0) σ Q:=
 Afs (.val _) (.val _) (nI (fun e=>h0 (V.tup.inj e)) fun e=>h1 fun q=>e (congrArg V.tup q)) (Aba h) (Aba h') (by have:=Ae3 h; simp only [V.dep]; lia)
theorem Aup {P m rows r0 Q} (hr0:rows.headD []=r0) (h:∀ r∈rows,∀ v∈r,B4 v) (hq:Q (dif rows) σ):Co P m .NotEq (.lst (rows.filterMap fun r=>if r≠r0 then some (V.tup r) else none)) (.lst []) σ Q:=by
 subst hr0
 refine Afs (.val _) (.val _) ?_ (Acr.mpr fun v hv=>?_) rfl Aj5
 · rw [show decide (V.lst (List.filterMap (fun r=>if r≠rows.headD [] then some (V.tup r) else none) rows)=V.lst [])=!dif rows from by rw [<- Ay1]; simp,Bool.not_not]
   exact hq
 · simp only [Bx9] at hv
   obtain ⟨r,hr,e⟩:=hv
   split at e
   · cases e; exact Aba fun v hv=>h r hr v hv
   · cases e
theorem Ac9 {wl:Addr} {a:Wo} {t:List V} {v:Nat} {Q:V->Sto->Prop} {Y:Str->Sto->Prop} (hw:σ wl=some (.A5 a.es)) (h3:a.A1.length=3) (B9:∀ p∈a.A1,p<=10) (hv:v<=3) (hl:t.length<=1000) (hf:∀ x∈t,B4 x)
   (hq:Q (.tup [.int ((v + (asked (a.A1.drop v) t).1:Nat):Int),.lst ((asked (a.A1.drop v) t).2.map .tup)]) σ):Fn (PM w) (n + 2) (.ref 300) [.loc wl,.tup t,.int v] σ Q Y:=by
 refine B8 rfl rfl (Ajq fun _ _ _=>rfl) rfl fun R' Y' hR hY hRs hYs=>?_
 refine Apy (k:=3 - v) (by exact (congrArg Int.ofNat (Bm0 hv)).symm) ?_ (by exact r30) (by exact (Bk8.mpr (Be7 (Bm2 (Bm0 hv)) (by decide)):((v + (3 - v):Nat):Int)<=((1000000:Nat):Int)))
 refine Ajz (α:=List V) (fun _=>σ) (fun t=>[("table",.tup t),("world",.loc wl),("variable",.int v)]) (fun u t=>t.length<=1000/\(∀ z∈t,B4 z)/\Q (.tup [.int ((u + (asked (a.A1.drop u) t).1:Nat):Int),.lst ((asked (a.A1.drop u) t).2.map .tup)]) σ) t rfl ⟨hl,hf,hq⟩ (Sub.refl _) rfl ?_ ?_
 · rintro x ⟨_,_,h8⟩
   rw [show v + (3 - v)=3 by exact Bm0 hv,Cf4 (by exact Bm2 h3)] at h8
   exact .go <| .inr (hR h8)
 · rintro u x K hu hK ⟨h6,h7,h8⟩
   obtain ⟨p,hp⟩:∃ p,a.A1[u]?=some p:=⟨_,Bf0 (by lia)⟩
   have Anx:a.A1.drop u=p :: a.A1.drop (u + 1):=by
    rw [Bj2 (by lia)]; congr 1
    rw [Bf0 (by lia)] at hp; exact Bq9 hp
   refine Ac hw rfl ?_
   refine Ab (k:=u) (hf:=Bh0 hu (by rw [Bm0 hv]; decide)) (.val _) (by rw [tupI,Bf8,hp]; rfl) ?_
   have Bbx:=B9 p (Bf9 hp)
   refine Alp h6 Bbx ?_
   obtain ⟨r0,rs,hrs⟩:=Ad0 x p
   have hr0:r0∈rowsOf x p:=by rw [hrs]; exact .head _
   refine Aij rfl ?_
   have h7':∀ r∈rowsOf x p,∀ v∈r,B4 v:=fun r hr v hv=>h7 v (Ade hr hv)
   refine Acy V.tup (fun r=>if r≠r0 then some (.tup r) else none) _ rfl (by rw [rowsOf,Be9,Bk9]; lia) (.inr (Aup (by rw [hrs]; rfl) h7' ?_)) fun acc B1 r hr vs K1 K0 h1 h0=>Ab (k:=0) (d:=.tup r0) (.val _) (by rw [hrs]; rfl) (Ap8 (h7' r hr) (h7' r0 hr0) (fun q=>h1 _ _ (if_pos q) (Sub.refl _)) fun q=>h0 _ (if_neg fun h=>h q) (Sub.refl _))
   rw [Anx,Aaq] at h8
   cases hd:dif (rowsOf x p) with
   | true=>
    rw [hd,if_pos rfl] at h8
    exact hR h8
   | false=>
    rw [hd,if_neg Bg5] at h8
    refine Ab (k:=0) (d:=.tup r0) (.val _) (by rw [hrs]; rfl) (hK r0 _ _ ⟨Be7 (Ag3 hr0) h6,h7' r0 hr0,?_⟩ (Sub.refl _) rfl)
    rw [hrs] at h8
    rw [Bh2]
    exact h8
end
section
variable {w:World} {n:Nat} {σ:Sto}
theorem Aja {wl:Addr} {a:Wo} {t:List V} {Q:V->Sto->Prop} {Y:Str->Sto->Prop} (hw:σ wl=some (.A5 a.es)) (hc:a.cells.length<=1000) (ht:t≠[]) (hl:t.length<=a.cells.length)
  (hq:Q (.tup (whole a.cells.length t)) σ):Fn (PM w) (n + 1) (.ref 307) [.loc wl,.tup t] σ Q Y:=by
 have h1:0 < t.length:=List.length_pos_iff.mpr ht
 have hc':a.cells.length<=100000:=Be7 hc (by decide)
 refine B8 rfl rfl (Anb fun _ _=>rfl) rfl fun R' Y' hR hY hRs hYs=>?_
 refine Ac hw rfl (Aa1 (.val _) hc' (Af5 (Be7 hl hc') (As3 (by exact fun e=>Bq0 h1 (Br9 e)) (PyProof.noPylong_small (by exact Bg6 (Be7 hl hc) (by decide))) ?_)))
 rw [show ((a.cells.length:Int)).fdiv (t.length:Int)=((a.cells.length / t.length:Nat):Int) by rw [Int.fdiv_eq_ediv_of_nonneg _ (Bj9 _)]; rfl]
 exact Ap2 rfl (Cn4 hl h1) ht (hR hq) (Be7 (Nat.mul_div_le ..) hc')
theorem Asm {x} (h:∀ v∈x.2.2,B4 v):(Avj x).dat=true:=by
 exact (Cp5 (V.Be x.2.2)).trans (Aba h)
theorem Aew {α:Type} {l:List α} {f:α->V} (h:∀ x∈l,(f x).dat=true):V.Be (l.map f)=true:=Acr.mpr fun v hv=>by
 obtain ⟨x,hx,rfl⟩:=Bh1.mp hv; exact h x hx
theorem getL {α β:Type} {l x} (f:α->β):(Bz4 f (l ++ [x])).getLast?=some (f x):=by rw [Bg1]; exact Ca4
theorem Bbr {α β:Type} {l x y} (f:α->β):(Bz4 f (l ++ [x])).set ((Bz4 f (l ++ [x])).length - 1) (f y)=Bz4 f (l ++ [y]):=by
 rw [Bg1,Bg1,Bf1]; exact (List.set_append_right _ _ (Bh5 _)).trans (by rw [Nat.sub_self]; rfl)
theorem Bba {α β:Type} {l x} (f:α->β):(Bz4 f (l ++ [x])).length - 1 < (Bz4 f (l ++ [x])).length:=by
 rw [Be9,Bf1]; exact Br0 _
theorem snoc {α:Type} {C:List α->Prop} (h0:C []) (h1:∀ l x,C (l ++ [x])) (l:List α):C l:=by
 rcases Bv1 l with rfl | ⟨l,x,rfl⟩
 · exact h0
 · rw [Bv2]; exact h1 l x
theorem Aa9 {α:Type} {p:α->Prop} {l:List α} {x:α} (h:∀ y∈l,p y) (hx:p x):∀ y∈l ++ [x],p y:=fun y hy=>by
 rcases Bh6.mp hy with hy | hy
 · exact h y hy
 · rw [Bf6.mp hy]; exact hx
theorem Afo {rows:List (List V)} {Q:V->Sto->Prop} {Y:Str->Sto->Prop} (hl:rows.length<=100) (hf:∀ r∈rows,∀ v∈r,B4 v)
   (hq:Q (.lst ((Aa rows).map Avj)) σ):Fn (PM w) (n + 1) (.ref 314) [.lst (rows.map .tup)] σ Q Y:=by
 refine B8 rfl rfl (Aou fun _=>rfl) rfl fun R' Y' hR hY hRs hYs=>.inl fun fa hfa=>Ado ?_
 refine Anr .tup (α:=List (Nat × Nat × List V)) (fun f=>σ.put fa (.list (f.map Avj))) (fun f=>[("found",.loc fa)])
   (fun k rs f=>Ac2 f k rs=Aa rows/\f.length<=k/\k + rs.length<=100/\(∀ r∈rs,∀ v∈r,B4 v)/\(∀ x∈f,∀ v∈x.2.2,B4 v)) rows [] rfl
   ⟨rfl,Bh5 _,by rw [Bk7]; exact hl,hf,fun _ h=>nomatch h⟩ (Sub.refl _) rfl ?_ ?_
 · rintro k f ⟨h2,_⟩
   refine .frz "found" rfl (Sto.A0 ..) (.go ?_)
   rw [Sto.Abm hfa,show f=Aa rows from h2]
   exact hR hq
 · rintro k x xs f K hK ⟨h2,h3,h4,h5,h6⟩
   have hx5:=h5 x (.head _)
   have h4':k + 1 + xs.length<=100:=by rw [Bh2]; exact h4
   have nxt:∀ f',Aaf f k x=f'->f'.length<=k + 1->(∀ y∈f',∀ v∈y.2.2,B4 v)->Ac2 f' (k + 1) xs=Aa rows/\f'.length<=k + 1/\k + 1 + xs.length<=100/\(∀ r∈xs,∀ v∈r,B4 v)/\(∀ x∈f',∀ v∈x.2.2,B4 v):=fun f' e h7 h8=>
    ⟨by rw [<- e]; exact h2,h7,h4',fun r hr=>h5 r (.tail _ hr),h8⟩
   have nx1:=nxt (f ++ [(k,k,x)])
   refine .inr (Afs (.loc (Sto.A0 ..)) (.val _) ?_ (Aew fun x hx=>Asm (h6 x hx)) rfl Aj5)
   induction f using snoc with
   | h0=>
    refine nF rfl (Af (Sto.A0 ..) (Ae (Sto.A0 ..) (hK [(k,k,x)] _ _ (nx1 rfl (Bq7 ..) (Aa9 h6 hx5)) ?_ rfl) (Bi4 _)))
    rw [Sto.A9]; exact Sub.refl _
   | h1 fs y=>
    have hy6:=h6 y (Bh9 _ (.head _))
    have hst:Aaf (fs ++ [y]) k x=if y.2.2=x then fs ++ [(y.1,k,x)] else fs ++ [y] ++ [(k,k,x)]:=by unfold Aaf; rw [Ca4,Bs8]
    rw [Bf1] at h3
    refine nT (fun e=>by rw [Bg1] at e; exact absurd (V.lst.inj e) (List.append_ne_nil_of_right_ne_nil _ (fun e=>nomatch e))) (Acd (.loc (Sto.A0 ..)) (getL _) (A6 (k:=2) rfl (Ahn (.val _) (.val _) ?_ (Aba hy6) (Aba hx5) ?_)))
    · refine dI (fun q=>?_) fun q=>?_
      · rw [if_pos (V.tup.inj q)] at hst
        refine Acd (.loc (Sto.A0 ..)) (getL _) (A6 (k:=0) rfl (Ahf (Sto.A0 ..) (.inr ⟨rfl,rfl⟩) (Bba _) (hK (fs ++ [(y.1,k,x)]) _ _ (nxt _ hst (by rw [Bf1]; exact Bk0 h3) (Aa9 (fun z hz=>h6 z (Bi0 _ hz)) hx5)) ?_ rfl)))
        rw [Sto.A9]; exact (Bbr Avj).symm ▸ Sub.refl _
      · rw [if_neg fun e=>q (congrArg V.tup e)] at hst
        refine Af (Sto.A0 ..) (Ae (Sto.A0 ..) (hK (fs ++ [y] ++ [(k,k,x)]) _ _ (nx1 hst (by rw [Bf1,Bf1]; exact Bg3 h3) (Aa9 h6 hx5)) ?_ rfl) (by rw [Be9,Bf1]; exact Be7 h3 (Be7 (Be7 (Bg9 ..) h4) (by decide))))
        rw [Sto.A9,Bg1 (f:=Avj) (l₁:=fs ++ [y])]; exact Sub.refl _
    · have:=Ae3 hy6
      simp only [V.dep]; lia
theorem Ayb {parts v d Q Y} (hl:parts.length<=100) (hd:(Ax5 parts v)[0]?=some d)
  (hq:Q d σ):Fn (PM w) (n + 1) (.ref 333) [.lst (parts.map fun p=>.tup [.int p.1,p.2]),.int v] σ Q Y:=by
 refine B8 rfl rfl (Anb fun _ _=>rfl) rfl fun R' Y' hR hY hRs hYs=>Aij rfl ?_
 refine Acy _ (fun p:Int × V=>if v<=p.1 then some p.2 else none) parts rfl (Be7 hl (by decide)) (Ab (k:=0) (.val _) hd (hR hq)) fun acc B1 p hp vs K1 K0 h1 h0=>?_
 exact Aj8 (dI (fun q=>h1 _ _ (if_pos q) (Sub.refl _)) fun q=>h0 _ (if_neg q) (Sub.refl _))
theorem Ahd {α:Type} {nums:List α} (lo hi:Option Nat):(slc lo hi nums).length<=nums.length:=by
 rw [slc,Bo9,Bn4]; exact Be7 (Bx6 ..) (Bm3 ..)
theorem Ann {wl:Addr} {a:Wo} {les:List (Str × V)} {nums:List Int} {name:Str} {v lo hi:Nat} {Q:V->Sto->Prop} {Y:Str->Sto->Prop} (hw:σ wl=some (.A5 a.es)) (hlg:σ a.lg=some (.A5 les)) (hn:a.names[v]?=some name) (hd:(Am les name).getD (.tup [])=.tup (nums.map .int))
   (hnl:nums.length<=1000) (hv:v < 10) (hq:Q (.lst ((Aad nums lo hi).map Acq)) σ):Fn (PM w) (n + 1) (.ref 370) [.loc wl,.int v,.int lo,.int hi] σ Q Y:=by
 refine B8 rfl rfl (Aqo fun _ _ _ _=>rfl) rfl fun R' Y' hR hY hRs hYs=>Ac hw rfl ?_
 refine Aun hlg (Ac hw rfl (Ab (k:=v) (.val _) (by rw [Bf8,hn]; rfl) (Ak1 hlg ?_) (Bj3 hv (by decide))))
 rw [hd]
 refine Afs (.val _) (.val _) (nI (fun e=>?_) fun e=>?_) (Aew fun x _=>rfl) rfl Aum
 · cases nums with
   | nil=>exact .inr (hR hq)
   | cons=>cases e
 · refine Aij rfl (Am8 (lo:=some lo) (hi:=some (hi + 1)) rfl rfl ?_ (by rw [Be9]; exact Be7 hnl (by decide)))
   rw [Alw]
   refine Acx V.int (fun k=>.tup [.int k,.int k]) _ rfl (Be7 (Ahd ..) (Be7 hnl (by decide))) (hR ?_) fun acc B1 k hk vs K hK=>hK _ (Sub.refl _)
   rw [Aad,if_neg (fun q=>e (by rw [q]; rfl)),Bi5] at hq
   exact hq
end
section
variable {w:World} {n:Nat} {σ:Sto} {A1:List Nat} {dn db dm:Addr} {D:List V} {Q:V->Sto->Prop} {Y:Str->Sto->Prop}
theorem Ab8 {D x}:Am (Ap D) x=if x∈D then some (.int (D.idxOf x)) else none:=by
 have:∀ (D:List V) (k:Nat),Am ((D.zipIdx k).map fun x=>(x.1,V.int x.2)) x=if x∈D then some (.int ((D.idxOf x + k:Nat):Int)) else none:=by
  intro D
  induction D with
  | nil=>intro k; rfl
  | cons d r ih=>
   intro k
   have ih':=ih (k + 1)
   unfold Am at ih' ⊢
   rw [List.zipIdx_cons,Bg8,Bk2]
   by_cases h:d=x
   · subst h; simp
   · have h':x≠d:=fun e=>h e.symm
     rw [show decide ((d,V.int (k:Int)).1=x)=false by simp [h]]
     dsimp only
     rw [ih']
     simp only [Bh7,h',false_or]
     by_cases q:x∈r
     · rw [if_pos q,if_pos q,Cb3,show (d == x)=false by simp [h]]
       simp only [cond_false]; congr 3; exact Bh2 (Co9 x r) k 1
     · rw [if_neg q,if_neg q]
 exact this D 0
theorem Ajv {D x}:Ap (D ++ [x])=Ap D ++ [(x,.int D.length)]:=by
 simp [Ap,List.zipIdx_append]
theorem Acu {k:Nat} {d:V} (h:σ dn=some (.list D)) (hd:D[k]?=some d) (hk:k < 1000) (hq:Q d σ):Fn (PM w) (n + 1) (.ref 107) [Ba A1 dn db dm,.int k] σ Q Y:=
 B8 rfl rfl (Anb fun _ _=>rfl) rfl fun R' Y' hR hY hRs hYs=>Ab (k:=k) (.loc h) hd (hR hq) (Bj3 hk (by decide))
theorem Aqe {ks} (h:σ dn=some (.list D)) (hb:σ db=some (.Ad (Ap D))) (hne:dn≠db) (hl:D.length<=1000) (hk:V.keys ks=true) (hdp:V.Bc ks<=7)
   (hq1:V.tup ks∈D->Q (.int (D.idxOf (V.tup ks):Nat)) σ) (hq2:V.tup ks ∉ D->Q (.int D.length) ((σ.put db (.Ad (Ap (D ++ [V.tup ks])))).put dn (.list (D ++ [V.tup ks])))) :
   Fn (PM w) (n + 1) (.ref 86) [Ba A1 dn db dm,.tup ks] σ Q Y:=by
 have hl':D.length<=100000:=Be7 hl (by decide)
 refine B8 rfl rfl (Anb fun _ _=>rfl) rfl fun R' Y' hR hY hRs hYs=>Ale hb hk hdp ?_
 rw [Ab8]
 by_cases hm:V.tup ks∈D
 · rw [if_pos hm]
   exact Ae8 hb hk hdp (by rw [Ab8,if_pos hm]) (hR (hq1 hm))
 · rw [if_neg hm]
   refine Aa1 (.loc h) hl' (Amm hb hk hdp (by rw [Ab8,if_neg hm]) ?_ (by rw [Ap,Be9,Cj3]; exact hl'))
   rw [<- Ajv]
   have h':(σ.put db (.Ad (Ap (D ++ [V.tup ks])))) dn=some (.list D):=by rw [Sto.A4 _ _ hne]; exact h
   refine Af h' (Ae h' (Ae8 (a:=db) (by rw [Sto.A4 _ _ hne.symm,Sto.A0]) hk hdp (by rw [Ab8,if_pos (Bh9 _ (.head _)),Br6,if_neg hm]) (hR ?_)) hl')
   rw [show ([V.tup ks].idxOf (V.tup ks) + D.length:Nat)=D.length by rw [List.idxOf_cons_self,Bk7]]
   exact hq2 hm
theorem Av9 {x} (h:σ dn=some (.list D)) (hb:σ db=some (.Ad (Ap D))) (hne:dn≠db) (hl:D.length<=1000) (hk:x.key=true) (hdp:x.dep<=1)
  (hq1:V.tup [.str "leaf",x]∈D->Q (.int (D.idxOf (V.tup [.str "leaf",x]):Nat)) σ) (hq2:V.tup [.str "leaf",x] ∉ D->Q (.int D.length) ((σ.put db (.Ad (Ap (D ++ [V.tup [.str "leaf",x]])))).put dn (.list (D ++ [V.tup [.str "leaf",x]])))) :
  Fn (PM w) (n + 2) (.ref 93) [Ba A1 dn db dm,x] σ Q Y:=
 B8 rfl rfl (Anb fun _ _=>rfl) rfl fun R' Y' hR hY hRs hYs=>Aqe h hb hne hl (by rw [V.keys,V.keys,V.keys,hk]; rfl) (by simp only [V.Bc,V.dep]; exact Cd5.mpr ⟨Bi4 _,Cd5.mpr ⟨Be7 hdp (by decide),Bi4 _⟩⟩) (fun q=>hR (hq1 q)) fun q=>hR (hq2 q)
theorem Adz {a:V}:min a.dep (V.str "leaf").dep<=40:=Be7 (Bm3 _ _) (by decide)
theorem Afy {k:Nat} {hd about:V} (h:σ dn=some (.list D)) (hD:D[k]?=some (.tup [hd,about])) (hk:k < 1000) (Axf:hd.dat=true) (Azl:hd.dep<=40) (hq:Q (As9 A1 hd) σ) (ht:A1.length<=100):Fn (PM w) (n + 1) (.ref 114) [Ba A1 dn db dm,.int k] σ Q Y:=by
 refine B8 rfl rfl (Anb fun _ _=>rfl) rfl fun R' Y' hR hY hRs hYs=>Ab (k:=k) (.loc h) hD (A6 (k:=0) rfl (Ahn (.val _) (.val _) (dI (fun q=>?_) fun q=>?_) Axf rfl Adz)) (Bj3 hk (by decide))
 · rw [As9,if_pos q] at hq
   refine Af5 ?_ (hR ?_) <;> rw [tupI,Be9]
   · exact Be7 ht (by decide)
   · exact hq
 · rw [As9,if_neg q] at hq; exact hR hq
theorem Ags {k v top:Nat} {hd about:V} (h:σ dn=some (.list D)) (hD:D[k]?=some (.tup [hd,about])) (hk:k < 1000) (Axf:hd.dat=true) (Azl:hd.dep<=40) (ht:A1[v]?=some top) (hv:v < 100)
   (hq:Q (if hd=.int v then about else .tup [.tup [.int top,.int k]]) σ):Fn (PM w) (n + 2) (.ref 128) [Ba A1 dn db dm,.int k,.int v] σ Q Y:=by
 refine B8 rfl rfl (Ajq fun _ _ _=>rfl) rfl fun R' Y' hR hY hRs hYs=>Acu h hD hk (Ahn (.val _) (.val _) (dI (fun q=>?_) fun q=>?_) Axf rfl (Be7 (Bt3 _ _) Azl))
 · rw [if_pos q] at hq; exact hR hq
 · rw [if_neg q] at hq
   exact A6 (k:=v) (by rw [tupI,Bf8,ht]; rfl) (hR hq) (Bj3 hv (by decide))
theorem Ats {parts v} (h1:∀ k,Ace parts v=some k->Q (.int k) σ) (h2:Ace parts v=none->Y "a value past its variable's top" σ):Fn (PM w) (n + 3) (.ref 140) [.tup (parts.map Av),.int v] σ Q Y:=by
 refine B8 rfl rfl (Anb fun _ _=>rfl) rfl fun R' Y' hR hY hRs hYs=>Aky Av (α:=Unit) (fun _=>σ) (fun _=>[("value",.int v)]) (fun rs _=>Ace parts v=Ace rs v) parts () rfl rfl (Sub.refl _) rfl (fun _ e=>.go (hY (h2 e))) fun p rs a K hK e=>Aj8 (dI (fun q=>hR (h1 _ ?_)) fun q=>hK () _ _ ?_ (Sub.refl _) rfl)
 · rw [e,Ace,Bk2,decide_eq_true q]; rfl
 · rw [e,Ace,Bk2,decide_eq_false q]; rfl
theorem Am4 {k k0:Nat} {vals:V} {vs:List Int} {hd about:V} (R:Nat->V->V->Prop) (h:σ dn=some (.list D)) (Alz:Dv σ vals (.lst (vs.map .int))∨vals=.tup (vs.map .int)) (hd0:D[k]?=some (.tup [hd,about])) (hk:k < 1000) (hR0:R k0 hd about)
   (hR:∀ j hd ab,R j hd ab->(hd=.str "leaf"/\Q ab σ)∨∃ (v:Nat) (parts:List (Int × Nat)) (x:Int),hd=.int v/\v < 100/\ab=.tup (parts.map Av)/\vs[v]?=some x/\(Ace parts x=none->Y "a value past its variable's top" σ) ∧
    ∀ c,Ace parts x=some c->∃ hd' ab' j',j' < j/\c < 1000/\D[c]?=some (.tup [hd',ab'])/\R j' hd' ab'):Fn (PM w) (n + 4) (.ref 147) [Ba A1 dn db dm,.int k,vals] σ Q Y:=by
 refine B8 rfl rfl (Ajq fun _ _ _=>rfl) rfl fun R' Y' gR gY _ _=>Acu h hd0 hk ?_
 refine Ayw (α:=V × V) (fun _=>σ) (fun x=>[("head",x.1),("about",x.2),("diagrams",Ba A1 dn db dm),("values",vals)]) (fun j x=>R j x.1 x.2) k0 (hd,about) rfl hR0 (Sub.refl _) rfl ?_
 rintro j ⟨hd,ab⟩ K hK hr
 rcases hR j hd ab hr with ⟨rfl,hq⟩ | ⟨v,parts,x,rfl,hv,rfl,hx,Bb0,Are⟩
 · exact An2 (dF (fun h=>h rfl) (.go (gR hq)))
 · refine Afs (.val _) (.val _) (nT (fun e=>nomatch e) ?_) rfl rfl Adz
   have fin:∀ {Q':V->Sto->Prop},Q' (.int x) σ->Su (PM w) (n + 3) vals (.int v) σ Q':=fun hq=>by
    have hx':(vs.map V.int)[v]?=some (.int x):=by rw [Bf8,hx]; rfl
    rcases Alz with Alz | rfl
    · exact Ab (k:=v) Alz hx' hq (Bj3 hv (by decide))
    · exact A6 (k:=v) hx' hq (Bj3 hv (by decide))
   refine fin (Ats (fun c hc=>?_) fun hc=>gY (Bb0 hc))
   obtain ⟨hd',ab',j',h1,h2,h3,h4⟩:=Are c hc
   exact Acu h h3 h2 (hK j' (hd',ab') _ _ h1 h4 (Sub.refl _) rfl)
end
theorem keys_map {α:Type} {f:α->V} {l:List α} (h:∀ x,(f x).key=true):V.keys (l.map f)=true:=by
 induction l with
 | nil=>rfl
 | cons a r ih=>rw [Bg8,V.keys,h,ih]; rfl
theorem At4 {α:Type} {f:α->V} {l:List α} {k:Nat} (h:∀ x,(f x).dep<=k):V.Bc (l.map f)<=k:=by
 induction l with
 | nil=>exact Bi4 _
 | cons a r ih=>rw [Bg8,V.Bc]; exact Cd5.mpr ⟨h a,ih⟩
theorem Ak4 {a l}:V.Bc (a :: l)=max a.dep (V.Bc l):=by rw [V.Bc]
theorem Avy {l}:(V.tup l).dep=V.Bc l + 1:=by rw [V.dep]
theorem Akx (j:List (Int × Nat)) (p:Int × Nat):(Aay j p).length<=j.length + 1:=by
 unfold Aay
 split
 · split
   · rw [Bf1,Ch4]; exact Bg3 (Bx6 ..)
   · rw [Bf1]; exact Bh5 _
 · exact Bq7 ..
theorem A7 {σ:Sto} {a b:Addr} {o:O} (h:σ a=some o) (hb:σ b=none):a≠b:=fun e=>by rw [e,hb] at h; cases h
section
variable {w:World} {n:Nat} {σ:Sto} {A1:List Nat} {dn db dm:Addr} {D:List V} {Q:V->Sto->Prop} {Y:Str->Sto->Prop}
theorem Aq6 {v top:Nat} {parts:List (Int × Nat)} (h:σ dn=some (.list D)) (hb:σ db=some (.Ad (Ap D))) (hne:dn≠db) (hl:D.length<=1000) (ht:A1[v]?=some top) (hv:v < 100) (hp:parts.length<=100)
   (h1:atEnd top parts≠top->Y "parts that do not rise up to the top" σ)
   (h2:∀ p,atEnd top parts=top->joined parts=[p]->Q (.int p.2) σ)
   (h3:atEnd top parts=top->(joined parts).length≠1->V.tup [.int v,.tup ((joined parts).map Av)]∈D->Q (.int (D.idxOf (V.tup [.int v,.tup ((joined parts).map Av)]):Nat)) σ)
   (h4:atEnd top parts=top->(joined parts).length≠1->V.tup [.int v,.tup ((joined parts).map Av)] ∉ D->Q (.int D.length) ((σ.put db (.Ad (Ap (D ++ [V.tup [.int v,.tup ((joined parts).map Av)]])))).put dn (.list (D ++ [V.tup [.int v,.tup ((joined parts).map Av)]])))) :
   Fn (PM w) (n + 3) (.ref 100) [Ba A1 dn db dm,.int v,.lst (parts.map Av)] σ Q Y:=by
 have hv':v < 1000000:=Bj3 hv (by decide)
 refine B8 rfl rfl (Ajq fun _ _ _=>rfl) rfl fun R' Y' hR hY hRs hYs=>.inl fun ja hja=>A6 (k:=v) (by rw [tupI,Bf8,ht]; rfl) ?_ hv'
 have nd:=A7 h hja
 have nb:=A7 hb hja
 have lj:∀ j:List (Int × Nat),j.length<=100->(j.map Av).length<=100000:=fun j hj=>by rw [Be9]; exact Be7 hj (by decide)
 refine Aky Av (α:=List (Int × Nat) × Int) (fun x=>σ.put ja (.list (x.1.map Av))) (fun x=>[("self",Ba A1 dn db dm),("variable",.int v),("joined",.loc ja),("top",.int top),("at",.int x.2)])
   (fun rs x=>rs.foldl Aay x.1=joined parts/\rs.foldl (Acv top) x.2=atEnd top parts/\x.1.length + rs.length<=100) parts ([],-1) rfl
   ⟨rfl,rfl,by rw [Bl1,Bk7]; exact hp⟩ (Sub.refl _) rfl ?_ ?_
 · rintro ⟨j,at_⟩ ⟨e2,e3,e4⟩
   cases e2; cases e3
   have sn:Sub σ (σ.put ja (.list ((joined parts).map Av))):=Sub.new (Sub.refl _) hja
   refine .go (Ami (dI (fun q=>hYs sn (h1 q)) fun qa=>Aa1 (.loc (Sto.A0 ..)) (lj _ e4) ?_))
   have qa:=Classical.not_not.mp qa
   rw [Be9]
   refine Abz (dI (fun ql=>?_) fun ql=>?_)
   · obtain ⟨p,hp1⟩:=By8.mp (Br9 ql)
     exact Ab (k:=0) (.loc (Sto.A0 ..)) (by rw [hp1]; rfl) (A6 (k:=1) rfl (hRs sn (h2 p qa hp1)))
   · have ql:(joined parts).length≠1:=fun e=>ql (congrArg Int.ofNat e)
     refine Aa7 (.loc (Sto.A0 ..)) (lj _ e4) ?_
     refine Aqe (D:=D) (by rw [Sto.A4 _ _ nd]; exact h) (by rw [Sto.A4 _ _ nb]; exact hb) hne hl ?_ ?_ (fun hm=>hRs sn (h3 qa ql hm)) fun hm=>hRs (Sub.put (Sub.put sn _ _) _ _) (h4 qa ql hm)
     · rw [V.keys,V.keys,V.keys,V.key,V.key,keys_map fun _=>rfl]; rfl
     · rw [Ak4,Ak4,Avy]
       exact Cd5.mpr ⟨Bi6 rfl,Cd5.mpr ⟨Bg3 (At4 fun _=>Bi6 rfl),Bi4 _⟩⟩
 · rintro p rs ⟨j,at_⟩ K hK ⟨e2,e3,e4⟩
   have e4':j.length + 1 + rs.length<=100:=by rw [Bh2]; exact e4
   have hj1:j.length + 1<=100:=Be7 (Bg9 ..) e4'
   refine Ahl (jI (.int (Acv top at_ p)) ?_ (fun q hq=>?_) fun q hq=>?_)
   · refine Aa1 (.loc (Sto.A0 ..)) (lj _ (Bl7 hj1)) ?_
     have I:Cb0 Aay (Aay j p) rs=joined parts/\Cb0 (Acv top) (Acv top at_ p) rs=atEnd top parts/\(Aay j p).length + rs.length<=100:=⟨e2,e3,Be7 (Bi3 (Akx ..) _) e4'⟩
     have hK:=fun σ' m'=>hK (Aay j p,Acv top at_ p) σ' m' I
     clear e2 e3 e4 I
     rw [Be9]
     induction j using snoc with
     | h0=>
       refine Ahl (dF (Cj8 _) (Af (Sto.A0 ..) (Ae (Sto.A0 ..) (hK _ _ ?_ rfl) (Bi4 _))))
       rw [Sto.A9]; exact Sub.refl _
     | h1 js y=>
       have lj:=lj _ (Bl7 hj1)
       have hst:Aay (js ++ [y]) p=if y.2=p.2 then js ++ [p] else js ++ [y] ++ [p]:=by unfold Aay; rw [Ca4,Bs8]
       refine Ahl (dT (by rw [Bf1]; exact Int.natCast_pos.mpr (Bp9 _)) (Acd (.loc (Sto.A0 ..)) (getL _) (A6 (k:=1) rfl (Abz (dI (fun q=>?_) fun q=>?_)))))
       · rw [if_pos (Br9 q)] at hst
         refine Ahf (Sto.A0 ..) (.inr ⟨rfl,rfl⟩) (Bba _) (hK _ _ ?_ rfl)
         rw [Sto.A9,hst]; exact (Bbr (x:=y) (y:=p) Av).symm ▸ Sub.refl _
       · rw [if_neg fun e=>q (congrArg Int.ofNat e)] at hst
         refine Af (Sto.A0 ..) (Ae (Sto.A0 ..) (hK _ _ ?_ rfl) lj)
         rw [Sto.A9,hst,Bg1 (f:=Av) (l₁:=js ++ [y])]; exact Sub.refl _
   · rw [Acv,if_pos q] at hq; exact hq
   · rw [Acv,if_neg q] at hq; exact hq
theorem Akl {ps} (h1:∀ l a b,unlike 0 ps=some (l,a,b)->Q (.tup [.int l,.int a,.int b]) σ) (h2:unlike 0 ps=none->Y "no piece that parts" σ) :
   Fn (PM w) (n + 3) (.ref 161) [.lst (ps.map fun x=>Aqp (x.1,[x.2.1,x.2.2]))] σ Q Y:=by
 refine B8 rfl rfl (Aou fun _=>rfl) rfl fun R' Y' hR hY hRs hYs=>Aky (fun x:Int × Nat × Nat=>Aqp (x.1,[x.2.1,x.2.2])) (α:=Int) (fun _=>σ) (fun x=>[("low",.int x)]) (fun rs x=>unlike x rs=unlike 0 ps) ps 0 rfl rfl (Sub.refl _) rfl (fun _ e=>.go (hY (h2 e.symm))) ?_
 rintro ⟨hi,a,b⟩ rs x K hK e2
 refine Ab (k:=0) (.val _) rfl (Ab (k:=1) (.val _) rfl (Ami (dI (fun q=>?_) fun q=>?_)))
 · exact Ab (k:=0) (.val _) rfl (Ab (k:=1) (.val _) rfl (hR (h1 _ _ _ (by rw [<- e2,Aiw,if_pos fun e=>q (congrArg Int.ofNat e)]))))
 · exact hK (hi + 1) _ _ (by rw [<- e2,Aiw,if_neg (fun h=>q fun e=>h (Br9 e))]) (Sub.refl _) rfl
end
section
variable {w:World} {n:Nat} {σ:Sto} {A1:List Nat} {dn db dm:Addr} {D:List V} {Q:V->Sto->Prop} {Y:Str->Sto->Prop}
theorem all2 {α:Type} {a b:α} {p:α->Prop} (h1:p a) (h2:p b):∀ x∈[a,b],p x:=fun x hx=>by
 cases hx with
 | head=>exact h1
 | tail _ hx=>cases hx with | head=>exact h2 | tail _ hx=>cases hx
noncomputable abbrev pcV (x:Int × Nat × Nat):V:=Aqp (x.1,[x.2.1,x.2.2])
theorem Aso {a b la lb v top:Nat} {ha aa hb ab:V} {A B:List (Int × Nat)} (h:σ dn=some (.list D)) (hDa:D[a]?=some (.tup [ha,aa])) (hDb:D[b]?=some (.tup [hb,ab])) (hka:a < 1000) (hkb:b < 1000)
   (da:ha.dat=true) (da':ha.dep<=40) (dbt:hb.dat=true) (db':hb.dep<=40) (hla:As9 A1 ha=.int la) (hlb:As9 A1 hb=.int lb) (hv:v=min la lb) (ht:A1[v]?=some top) (hv':v < 100) (htl:A1.length<=100)
   (hA:(if ha=.int v then aa else .tup [.tup [.int top,.int a]])=.tup (A.map Av)) (hB:(if hb=.int v then ab else .tup [.tup [.int top,.int b]])=.tup (B.map Av)) (rA:Aga top (-1) A) (rB:Aga top (-1) B) (zA:A.length<=100) (zB:B.length<=100)
   (hq:Q (.tup [.int v,.lst ((Ac8 A B).map pcV)]) σ):Fn (PM w) (n + 3) (.ref 133) [Ba A1 dn db dm,.tup [.int a,.int b]] σ Q Y:=by
 have hv'':v < 1000000:=Bj3 hv' (by decide)
 have htv:(tupI A1)[v]?=some (V.int top):=by rw [tupI,Bf8,ht]; rfl
 have two:2<=100000:=by decide
 refine B8 rfl rfl (Anb fun _ _=>rfl) rfl fun R' Y' hR hY hRs hYs=>Aij rfl (Acx (β:=Nat × V × V × Nat) (fun x=>.int x.1) (fun x=>.int x.2.2.2) [(a,ha,aa,la),(b,hb,ab,lb)] rfl two ?_ fun acc B1=>?_)
 rotate_left
 · have nd:=A7 h B1
   exact all2 (fun vs K hK=>Afy (D:=D) (by rw [Sto.A4 _ _ nd]; exact h) hDa hka da da' (by rw [hla]; exact hK _ (Sub.refl _)) htl)
     fun vs K hK=>Afy (D:=D) (by rw [Sto.A4 _ _ nd]; exact h) hDb hkb dbt db' (by rw [hlb]; exact hK _ (Sub.refl _)) htl
 refine Ar3 (ns:=[(la:Int),(lb:Int)]) (.val _) (Nat.zero_lt_succ _) fun M hM hle=>?_
 have eM:M=(v:Int):=by
   have h1:=hle la (.head _)
   have h2:=hle lb (.tail _ (.head _))
   simp only [Bh7,Bj1,or_false] at hM
   rw [hv,<- r15]; exact Cn5 (Int.le_min.mpr ⟨h1,h2⟩) (hM.elim (fun e=>e ▸ Int.min_le_left ..) fun e=>e ▸ Int.min_le_right ..)
 subst eM
 refine Ax9 rfl rfl rfl (Acx (β:=Nat × V × V × List (Int × Nat)) (fun x=>.int x.1) (fun x=>.tup (x.2.2.2.map Av)) [(a,ha,aa,A),(b,hb,ab,B)] rfl two ?_ fun acc B1=>?_)
 rotate_left
 · have nd:=A7 h B1
   exact all2 (fun vs K hK=>Ags (D:=D) (by rw [Sto.A4 _ _ nd]; exact h) hDa hka da da' ht hv' (by rw [hA]; exact hK _ (Sub.refl _)))
     fun vs K hK=>Ags (D:=D) (by rw [Sto.A4 _ _ nd]; exact h) hDb hkb dbt db' ht hv' (by rw [hB]; exact hK _ (Sub.refl _))
 refine .inr (Aa1 (.val _) two (Awr (k:=2) (.val _) rfl (fun pa hpa=>.inl fun qa hqa=>?_) two two))
 have nab:pa≠qa:=A7 (Sto.A0 ..) hqa
 have hz:∀ {σ':Sto} {i j:Nat} {PV:List V},σ'=(σ.put pa (.list [.int i,.int j])).put qa (.list PV)->σ' pa=some (.list [.int i,.int j]):=fun e=>by rw [e,Sto.A4 _ _ nab,Sto.A0]
 refine Ayw (α:=Nat × Nat × Int × List (Int × Nat × Nat)) (fun x=>(σ.put pa (.list [.int x.1,.int x.2.1])).put qa (.list (x.2.2.2.map pcV))) (fun x=>[("diagrams",Ba A1 dn db dm),("variable",.int v),("sides",.lst [.tup (A.map Av),.tup (B.map Av)]),("places",.loc pa),("pieces",.loc qa),("high",.int x.2.2.1)])
   (fun k x=>Aga top x.2.2.1 (A.drop x.1)/\Aga top x.2.2.1 (B.drop x.2.1)/\x.2.2.2 ++ Ac8 (A.drop x.1) (B.drop x.2.1)=Ac8 A B/\k=(A.drop x.1).length + (B.drop x.2.1).length/\x.2.2.2.length + k<=200)
   (A.length + B.length) (0,0,-1,[]) rfl ⟨rA,rB,rfl,rfl,by rw [Bl1,Bk7]; exact Bo4 zA zB⟩ (Sub.refl _) rfl ?_
 rintro k ⟨i,j,hi,ps⟩ K hK ⟨r1,r2,r3,r4,r5⟩
 dsimp only at r1 r2 r3 r4 r5
 refine A6 (k:=v) htv (Apt (dI (fun q=>?_) fun q=>?_)) hv''
 · cases eA:A.drop i with
   | nil=>rw [eA] at r1; exact absurd (show hi=top from r1) (Int.ne_of_lt q)
   | cons p ra=>
   cases eB:B.drop j with
   | nil=>rw [eB] at r2; exact absurd (show hi=top from r2) (Int.ne_of_lt q)
   | cons s rb=>
   have hA':=eA; have hB':=eB
   rw [eA] at r1 r3 r4; rw [eB] at r2 r3 r4
   obtain ⟨g1,g2⟩:=drop_cons eA
   obtain ⟨g3,g4⟩:=drop_cons eB
   have one:1<=100000:=by decide
   have il:i < 1000000:=Bh0 (Bf7.mp g1).1 (Be7 zA (by decide))
   have jl:j < 1000000:=Bh0 (Bf7.mp g3).1 (Be7 zB (by decide))
   refine Ax9 rfl rfl rfl (Ado (Acx (β:=Nat × List (Int × Nat) × Nat × Int × Nat) (fun x=>.tup [.int x.1,.tup (x.2.1.map Av)]) (fun x=>Av x.2.2.2) [(0,A,i,p),(1,B,j,s)] rfl two ?_ fun acc B1=>?_))
   rotate_left
   · have hpl:=fun vs=>show (((σ.put pa (.list [.int i,.int j])).put qa (.list (ps.map pcV))).put acc (.list vs)) pa=some (.list [.int i,.int j]) by rw [Sto.A4 _ _ (A7 (hz rfl) B1)]; exact hz rfl
     exact all2 (fun vs K hK=>Ab (k:=0) (.loc (hpl vs)) rfl (A6 (k:=i) (by rw [Bf8,g1]; rfl) (hK _ (Sub.refl _)) il))
       fun vs K hK=>Ab (k:=1) (.loc (hpl vs)) rfl (A6 (k:=j) (by rw [Bf8,g3]; rfl) (hK _ (Sub.refl _)) jl)
   refine Aij rfl (Acx Av (fun x=>.int x.1) [p,s] rfl two ?_ fun acc B1 x hx vs K hK=>A6 (k:=0) rfl (hK _ (Sub.refl _)))
   refine Ar3 (ns:=[p.1,s.1]) (.val _) (Nat.zero_lt_succ _) fun M hM hle=>?_
   have hM1:=hle p.1 (.head _)
   have hM2:=hle s.1 (.tail _ (.head _))
   simp only [Bh7,Bj1,or_false] at hM
   refine Af (Sto.A0 ..) (Aij rfl (Acx Av (fun x=>.int x.2) [p,s] rfl two (Ae (Sto.A0 ..) (Ado ?_) ?_) fun acc B1 x hx vs K hK=>A6 (k:=1) rfl (hK _ (Sub.refl _))))
   rotate_left
   · rw [Be9]; exact Be7 (Be7 (Bg9 ..) r5) (by decide)
   rw [Sto.A9]
   obtain ⟨δ1,hδ1⟩:∃ δ1,δ1=if p.1=M then 1 else 0:=⟨_,rfl⟩
   obtain ⟨δ2,hδ2⟩:∃ δ2,δ2=if s.1=M then 1 else 0:=⟨_,rfl⟩
   have y1:(p :: ra).length=A.length - i:=by rw [<- eA]; exact Bo9 ..
   have y2:(s :: rb).length=B.length - j:=by rw [<- eB]; exact Bo9 ..
   rw [Bh3] at y1 y2
   refine Anr Av (α:=Nat × Nat) (fun x=>(σ.put pa (.list [.int x.1,.int x.2])).put qa (.list ((ps ++ [(M,p.2,s.2)]).map pcV))) (fun x=>[("diagrams",Ba A1 dn db dm),("variable",.int v),("sides",.lst [.tup (A.map Av),.tup (B.map Av)]),("places",.loc pa),("pieces",.loc qa),("high",.int M)])
     (fun k rs x=>(k=0/\rs=[p,s]/\x=(i,j))∨(k=1/\rs=[s]/\x=(i + δ1,j))∨(rs=[]/\x=(i + δ1,j + δ2))) [p,s] (i,j) rfl (.inl ⟨rfl,rfl,rfl⟩) (by rw [Bg1]; exact Sub.refl _) rfl ?_ ?_
   · rintro _ x (⟨_,e,_⟩ | ⟨_,e,_⟩ | ⟨_,rfl⟩)
     · cases e
     · cases e
     have dA:Aga top M (A.drop (i + δ1))/\Aga top M (B.drop (j + δ2))/\(M,p.2,s.2) :: Ac8 (A.drop (i + δ1)) (B.drop (j + δ2))=Ac8 (p :: ra) (s :: rb)/\1<=δ1 + δ2:=by
       obtain ⟨p1,p2⟩:=p
       obtain ⟨s1,s2⟩:=s
       dsimp only at *
       rcases Int.lt_trichotomy p1 s1 with hlt | heq | hgt
       · have eM:M=p1:=by exact hM.resolve_right fun e=>absurd (e ▸ hM1) (Bx7.mpr hlt)
         subst eM
         rw [if_pos rfl] at hδ1; rw [if_neg (Int.ne_of_gt hlt)] at hδ2
         subst hδ1; subst hδ2
         rw [g2,Nat.add_zero,eB]
         exact ⟨r1.2.2,r2.low hlt,by rw [Abx,if_neg (Int.ne_of_lt hlt),if_pos hlt],Bh5 _⟩
       · subst heq
         have eM:M=p1:=by lia
         subst eM
         rw [if_pos rfl] at hδ1 hδ2
         subst hδ1; subst hδ2
         rw [g2,g4]
         exact ⟨r1.2.2,r2.2.2,by rw [Abx,if_pos rfl],Bq7 ..⟩
       · have eM:M=s1:=by exact hM.resolve_left fun e=>absurd (e ▸ hM2) (Bx7.mpr hgt)
         subst eM
         rw [if_neg (Int.ne_of_gt hgt)] at hδ1; rw [if_pos rfl] at hδ2
         subst hδ1; subst hδ2
         rw [g4,Nat.add_zero,eA]
         exact ⟨r1.low hgt,r2.2.2,by rw [Abx,if_neg (Int.ne_of_gt hgt),if_neg (Int.lt_asymm hgt)],Bh5 _⟩
     obtain ⟨dA,dB,dC,dD⟩:=dA
     have z1:(A.drop (i + δ1)).length + (B.drop (j + δ2)).length + 1<=k:=by
       rw [Bo9,Bo9,r4,Bh3,Bh3]; exact rz y1 y2 (hM.imp (fun q=>by rw [hδ1,if_pos q.symm]) fun q=>by rw [hδ2,if_pos q.symm])
     refine .go (hK _ (i + δ1,j + δ2,M,ps ++ [(M,p.2,s.2)]) _ _ z1 ⟨dA,dB,?_,rfl,?_⟩ (Sub.refl _) rfl)
     · rw [<- r3,<- dC,Bj0]; rfl
     · rw [Bf1]; exact Be7 (by rw [Br4]; exact Bf3 (Bl9 1 _ ▸ z1) _) r5
   · rintro k' d r x K2 hK2 (⟨rfl,e,rfl⟩ | ⟨rfl,e,rfl⟩ | ⟨e,_⟩)
     · cases e
       refine A6 (k:=0) rfl (Abz (dI (fun q1=>?_) fun q1=>?_))
       · rw [if_pos q1] at hδ1
         refine .mk pa _ 0 0 i rfl rfl (hz rfl) rfl rfl (by decide) (.mk 1 rfl (hz rfl) (hK2 (i + δ1,j) _ _ (.inr (.inl ⟨rfl,rfl,rfl⟩)) ?_ rfl))
         rw [Sto.Ao _ _ _ nab.symm,Sto.A9,hδ1]
         exact Sub.refl _
       · rw [if_neg q1] at hδ1
         exact hK2 (i + δ1,j) _ _ (.inr (.inl ⟨rfl,rfl,rfl⟩)) (by rw [hδ1]; exact Sub.refl _) rfl
     · cases e
       refine A6 (k:=0) rfl (Abz (dI (fun q1=>?_) fun q1=>?_))
       · rw [if_pos q1] at hδ2
         refine .mk pa _ 1 1 j rfl rfl (hz rfl) rfl rfl (by decide) (.mk 1 rfl (hz rfl) (hK2 (i + δ1,j + δ2) _ _ (.inr (.inr ⟨rfl,rfl⟩)) ?_ rfl))
         rw [Sto.Ao _ _ _ nab.symm,Sto.A9,hδ2]
         exact Sub.refl _
       · rw [if_neg q1] at hδ2
         exact hK2 (i + δ1,j + δ2) _ _ (.inr (.inr ⟨rfl,rfl⟩)) (by rw [hδ2]; exact Sub.refl _) rfl
     · cases e
 · have hA0:A.drop i=[]:=by
     cases eA:A.drop i with
     | nil=>rfl
     | cons p ra=>rw [eA] at r1; exact absurd (Bn9 r1.1 r1.2.1) q
   have hB0:B.drop j=[]:=by
     cases eB:B.drop j with
     | nil=>rfl
     | cons p ra=>rw [eB] at r2; exact absurd (Bn9 r2.1 r2.2.1) q
   rw [hA0,hB0,Adu (.inl rfl),Bh4] at r3
   · refine .frz "pieces" rfl (Sto.A0 ..) (.go (hRs ?_ (r3 ▸ hq)))
     rw [Sto.Abm (by rw [Sto.A4 _ _ nab.symm]; rw [Sto.A4 _ _ nab.symm] at hqa; exact hqa)]
     exact Sub.new (Sub.refl _) hpa
end
section
variable {w:World} {n:Nat} {σ:Sto} {A1:List Nat} {dn db dm lg pl:Addr} {D:List V} {Q:V->Sto->Prop} {Y:Str->Sto->Prop}
theorem An4 {x} (hx:x.dat=true) (hx':x.dep<=40) (h1:Ar x=true->Q (.tup [x,.str ""]) σ) (h2:Ar x=false->Y "a leaf that is no verdict" σ):Fn (PM w) (n + 3) (.ref 217) [x] σ Q Y:=by
 refine B8 rfl rfl (Aou fun _=>rfl) rfl fun R' Y' hR hY hRs hYs=>Afi (.val _) ?_ hx rfl hx'
 refine nI (fun q=>hR (h1 (decide_eq_true q))) fun q=>hY (h2 (decide_eq_false q))
theorem Aur {k hd x} (h:σ dn=some (.list D)) (hD:D[k]?=some (.tup [hd,x])) (hk:k < 20) (h1:hd.dat=true) (h2:hd.dep<=40) (h3:hd=.str "leaf"->x.dat=true/\x.dep<=40)
   (hq:∀ v,Ajc D k=some v->Q v σ) (hy:Ajc D k=none->Y "a leaf that is no verdict" σ):Fn (PM w) (n + 4) (.ref 224) [Ba A1 dn db dm,.int k] σ Q Y:=by
 have hv:Ajc D k=if hd=.str "leaf" then (if Ar x then some (.tup [x,.str ""]) else none) else some (.tup [.str "goto",.str (nName k)]):=by unfold Ajc; rw [hD]
 refine B8 rfl rfl (Anb fun _ _=>rfl) rfl fun R' Y' hR hY hRs hYs=>Acu h hD (Bj3 hk (by decide)) (A6 (k:=0) rfl (Ahn (.val _) (.val _) (dI (fun q=>?_) fun q=>?_) h1 rfl Adz))
 · rw [if_pos q] at hv
   refine A6 (k:=1) rfl (An4 (h3 q).1 (h3 q).2 (fun e=>?_) (fun e=>?_))
   · rw [if_pos e] at hv; exact hR (hq _ hv)
   · rw [if_neg (Bool.eq_false_iff.mp e)] at hv; exact hY (hy hv)
 · rw [if_neg q] at hv
   refine Ak0 (by lia) (by lia) (Ae9 (hR (hq _ hv)) ?_)
   rw [Bn5,show (Bf4 "n").length=1 by decide +kernel]
   exact Be7 (Bf3 (Adf k hk) 1) (by decide)
theorem Avo {names les nums name lo hi} (hlg:σ lg=some (.A5 les)) (hn:(Am les name=none/\nums=[])∨(Am les name=some (.tup (nums.map .int))/\nums≠[])) (hnl:nums.length<=1000)
   (hq:Q (.lst ((Aad nums lo hi).map Acq)) σ):Fn (PM w) (n + 1) (.ref 229) [Abj names A1 lg pl,.str name,.int lo,.int hi] σ Q Y:=by
 refine B8 rfl rfl (Aqo fun _ _ _ _=>rfl) rfl fun R' Y' hR hY hRs hYs=>Ag8 hlg ?_
 rcases hn with ⟨hd,rfl⟩ | ⟨hd,hne⟩
 · rw [hd]
   exact .inr (hR hq)
 · rw [hd]
   have hnl':nums.length<=100000:=Be7 hnl (by decide)
   refine Aij rfl (Ac hlg hd (Am8 (lo:=some lo) (hi:=some (hi + 1)) rfl rfl ?_ (by rw [Be9]; exact hnl')))
   rw [Alw]
   refine Acx V.int (fun k=>.tup [.int k,.int k]) _ rfl (Be7 (Ahd ..) hnl') (hR ?_) fun acc B1 k hk vs K hK=>hK _ (Sub.refl _)
   rw [Aad,if_neg hne,Bi5] at hq
   exact hq
theorem Atg {names:List Str} {les:List (Str × V)} {name:Str} {v top lo hi:Nat} {a b:Int} (hlg:σ lg=some (.A5 les)) (hna:names[v]?=some name) (ht:A1[v]?=some top) (hv:v < 100) (hne:¬ (lo=0/\hi=top)) (hlo:lo < 1000) (hhi:hi < 1000)
   (hn:(Am les name=none/\a=lo/\b=hi)∨∃ nums:List Int,Am les name=some (.tup (nums.map .int))/\nums[lo]?=some a/\nums[hi]?=some b)
   (hq:Q (Abp name (Aaj a b)) σ):Fn (PM w) (n + 1) (.ref 250) [Abj names A1 lg pl,.int v,.tup [.int lo,.int hi]] σ Q Y:=by
 have hv':v < 1000000:=Bj3 hv (by decide)
 have fin:∀ {a' b':Int} {R':V->Sto->Prop},a'=a->b'=b->R' (Abp name (Aaj a b)) σ->(a'=b'->R' (Abp name (.tup [.str "num",.int a'])) σ)/\(¬ a'=b'->R' (Abp name (.tup [.str "span",.int a',.int b'])) σ):=fun e1 e2 h=>by
   subst e1 e2
   exact ⟨fun q=>by rw [Aaj,if_pos q] at h; exact h,fun q=>by rw [Aaj,if_neg q] at h; exact h⟩
 refine B8 rfl rfl (Ajq fun _ _ _=>rfl) rfl fun R' Y' hR hY hRs hYs=>A6 (k:=v) (by rw [Bf8,hna]; rfl) (A6 (k:=0) rfl (A6 (k:=1) rfl (Abz (Bdx ?_ fun q hq=>?_)))) hv'
 · refine Ag1 hlg ?_
   rcases hn with ⟨hd,rfl,rfl⟩ | ⟨nums,hd,ha,hb⟩
   · rw [hd]
     have:=fin rfl rfl (hR hq)
     exact Abz (dI this.1 this.2)
   · rw [hd]
     have:=fin rfl rfl (hR hq)
     refine Ac hlg hd (A6 (k:=lo) (by rw [Bf8,ha]; rfl) (Ac hlg hd (A6 (k:=hi) (by rw [Bf8,hb]; rfl) (Abz (dI this.1 this.2)) (Bj3 hhi (by decide)))) (Bj3 hlo (by decide)))
 · exact A6 (k:=v) (by rw [tupI,Bf8,ht]; rfl) (Abz (dF (fun e=>hne ⟨Br9 q,Br9 e⟩) hq)) hv'
end
section
variable {w:World} {n:Nat} {σ:Sto} {A1:List Nat} {dn db dm lg pl:Addr} {D:List V} {Q:V->Sto->Prop} {Y:Str->Sto->Prop}
theorem Awm {names:List Str} {les:List (Str × V)} {nums:List Int} {name:Str} {v:Nat} {l:List (Nat × Nat)} (h:σ dn=some (.list D)) (hlg:σ lg=some (.A5 les)) (hna:names[v]?=some name) (hv:v < 100)
   (hn:(Am les name=none/\nums=[])∨(Am les name=some (.tup (nums.map .int))/\nums≠[])) (hnl:nums.length<=10) (hll:l.length<=10) (hch:∀ p∈l,Al0 D p.2)
   (hq:∀ els,Aaz (Ajc D) nums 0 l=some els->Q (Ao0 name els) σ) (hy:Aaz (Ajc D) nums 0 l=none->Y "a leaf that is no verdict" σ) :
   Fn (PM w) (n + 5) (.ref 236) [Ba A1 dn db dm,Abj names A1 lg pl,.tup [.int v,.tup (l.map Ad6)]] σ Q Y:=by
 have hl':∀ {ls:List V},ls.length<=200->ls.length<=100000:=fun h=>Be7 h (by decide)
 refine B8 rfl rfl (Ajq fun _ _ _=>rfl) rfl fun R' Y' hR hY hRs hYs=>A6 (k:=0) rfl (A6 (k:=v) (by rw [Bf8,hna]; rfl) (.inl fun ea hea=>A6 (k:=1) rfl ?_) (Bj3 hv (by decide)))
 have nd:=A7 h hea
 have nl:=A7 hlg hea
 refine Aky Ad6 (α:=Nat × List V) (fun x=>σ.put ea (.list x.2)) (fun x=>[("diagrams",Ba A1 dn db dm),("space",Abj names A1 lg pl),("name",.str name),("low",.int x.1),("elements",.loc ea)])
   (fun rs x=>(∀ p∈rs,Al0 D p.2)/\(Aaz (Ajc D) nums x.1 rs).map (x.2 ++ ·)=Aaz (Ajc D) nums 0 l/\x.2.length + 20 * rs.length<=200) l (0,[]) rfl
   ⟨hch,by simp,by rw [Bl1]; lia⟩ (Sub.refl _) rfl ?_ ?_
 · rintro ⟨low,els⟩ ⟨_,e3,e4⟩
   rw [Apf,Bl5,Bh4] at e3
   exact .go (Aa7 (.loc (Sto.A0 ..)) (hl' e4) (hRs (Sub.new (Sub.refl _) hea) (hq _ e3.symm)))
 · rintro p rs ⟨low,els⟩ K hK ⟨e2,e3,e4⟩
   obtain ⟨hd,x,k1,k2,k3,k4,k5⟩:=e2 p (.head _)
   refine A6 (k:=1) rfl (Aur (D:=D) (by rw [Sto.A4 _ _ nd]; exact h) k1 k2 k3 k4 k5 (fun vv hvv=>?_) fun hvv=>?_)
   · refine A6 (k:=0) rfl (Avo (by rw [Sto.A4 _ _ nl]; exact hlg) hn (Be7 hnl (by decide)) ?_)
     have hsl:(Aad nums low p.1).length<=20:=by
       unfold Aad
       split
       · exact Bi6 rfl
       · rw [Be9]; exact Be7 (Ahd ..) (Be7 hnl (by decide))
     rw [Bh3] at e4
     dsimp only at e3 e4
     refine Aky Acq (α:=List V) (fun x=>σ.put ea (.list x)) (fun x=>[("diagrams",Ba A1 dn db dm),("space",Abj names A1 lg pl),("name",.str name),("elements",.loc ea),("part",Ad6 p),("verdict",vv)])
       (fun ss x=>x ++ ss.map (elV vv)=els ++ (Aad nums low p.1).map (elV vv)/\x.length + ss.length<=els.length + 20) _ els rfl ⟨rfl,Bf3 hsl _⟩ (Sub.refl _) rfl ?_ ?_
     · rintro y ⟨f2,f3⟩
       rw [Bq4,Bh4] at f2
       refine .go (A6 (k:=0) rfl (hK (p.1 + 1,y) _ _ ⟨fun q hq=>e2 q (.tail _ hq),?_,?_⟩ (Sub.refl _) rfl))
       · rw [<- e3,f2,Ae2,hvv]
         dsimp only
         cases Aaz (Ajc D) nums (p.1 + 1) rs with
         | none=>rfl
         | some els'=>exact congrArg some (Bj0 ..)
       · rw [Bl1] at f3; dsimp only; exact Be7 (Bi3 f3 _) (by rw [Bt5] at e4; rw [Bh2]; exact e4)
     · rintro s ss y K2 hK2 ⟨f2,f3⟩
       rw [Bh3] at f3
       refine Af (Sto.A0 ..) (Ae (Sto.A0 ..) (hK2 (y ++ [elV vv s]) _ _ ⟨by rw [<- f2,Bj0]; rfl,?_⟩ (by rw [Sto.A9]; exact Sub.refl _) rfl) (hl' (by exact Be7 (Be7 (Bg9 ..) f3) (Be7 (Bf3 (Nat.le_mul_of_pos_right 20 (Bp9 _)) _) e4))))
       rw [Bf1]; exact Be7 (Bm2 (Bh2 ..)) f3
   · exact hYs (Sub.new (Sub.refl _) hea) (hy (by rw [<- e3,Ae2,hvv]; rfl))
theorem Amq {cost:Nat->Nat}:∀ {st:List (Nat × List V)},(∀ p∈st,1<=cost p.1)->st.length<=(st.map fun p=>cost p.1).sum
 | [],_=>Bh5 _
 | p :: r,h=>by
  have:=Amq (st:=r) fun q hq=>h q (.tail _ hq)
  have:=h p (.head _)
  simp only [Bg8,Cj0,Bh3]; lia
theorem Adt {v:Nat} {path:List V} {cost:Nat->Nat}:∀ {low:Nat} {l:List (Nat × Nat)},(Ad8 v path low l).map (fun p=>cost p.1)=l.map fun p=>cost p.2
 | _,[]=>rfl
 | _,(_,_) :: r=>by simp [Amk,Ang,Adt (l:=r)]
theorem Al2 {v:Nat} {path:List V} {ok:Nat->Prop}:∀ {low:Nat} {l:List (Nat × Nat)},(∀ p∈l,ok p.2)->∀ p∈Ad8 v path low l,ok p.1
 | _,[],_,p,hp=>by cases hp
 | _,(a,c) :: r,h,p,hp=>by
  rcases Bh7.mp hp with rfl | hp
  · exact h (a,c) (.head _)
  · exact Al2 (fun q hq=>h q (.tail _ hq)) p hp
theorem Agk {v path}:∀ {low l p},p∈Ad8 v path low l->p.2.length=path.length + 1
 | _,[],p,hp=>by cases hp
 | _,(a,c) :: r,p,hp=>by
  rcases Bh7.mp hp with rfl | hp
  · simp
  · exact Agk hp
theorem Aut:∀ {l:List Nat} {x:Nat},x∈l->x<=l.sum
 | a :: r,x,h=>by
  rcases Bh7.mp h with rfl | h
  · simp
  · have:=Aut h; simp; lia
theorem Ak5 {ws v path}:∀ {low l},Afb ws (Ad8 v path low l)=(Adn ws v low l).map fun p=>(path ++ p.1,p.2)
 | _,[]=>rfl
 | low,(a,c) :: r=>by
  have:=Ak5 (ws:=ws) (v:=v) (path:=path) (low:=a + 1) (l:=r)
  unfold Afb at this ⊢
  rw [Ang,Bs9,this,Akn,Bg1,Bi5]
  congr 1
  apply Bj5
  intro p _
  simp
theorem Av5 {k most:Nat} (ws:Nat->List (List V × V)) (cost:Nat->Nat) (ok:Nat->Prop) (h:σ dn=some (.list D)) (hk:ok k)
  (hok:∀ k,ok k->k < 1000/\1<=cost k/\((∃ x,D[k]?=some (.tup [.str "leaf",x])/\ws k=[([],x)])∨∃ v l,D[k]?=some (.tup [.int (v:Nat),.tup (l.map Ad6)])/\l.length<=10/\(∀ p∈l,ok p.2)/\ws k=Adn ws v 0 l/\(l.map fun p=>cost p.2).sum + 1<=cost k))
  (Aqi:(ws k).length<=most) (hm2:(ws k).length<=500) (hc:cost k<=500) (hq:Q (.lst ((ws k).map Aov)) σ):Fn (PM w) (n + 2) (.ref 168) [Ba A1 dn db dm,.int k,.int most] σ Q Y:=by
 refine B8 rfl rfl (Ajq fun _ _ _=>rfl) rfl fun R' Y' hR hY hRs hYs=>.inl fun fa hfa=>.inl fun sa hsa=>?_
 have nfs:fa≠sa:=A7 (Sto.A0 ..) hsa
 have hsa':σ sa=none:=by rw [Sto.A4 _ _ nfs.symm] at hsa; exact hsa
 have ndf:=A7 h hfa
 have nds:=A7 h hsa'
 have hl':∀ {α:Type} {f:α->V} {ls:List α} {z},ls.length<=500 + z->z<=1000->(ls.map f).length<=100000:=fun h h'=>by rw [Be9]; lia
 refine Ayw (α:=List (List V × V) × List (Nat × List V)) (fun x=>(σ.put fa (.list (x.1.map Aov))).put sa (.list (x.2.map Art)))
  (fun x=>[("diagrams",Ba A1 dn db dm),("most",.int most),("found",.loc fa),("stack",.loc sa)])
  (fun j x=>x.1 ++ Afb ws x.2.reverse=ws k/\(∀ p∈x.2,ok p.1)/\j=(x.2.map fun p=>cost p.1).sum/\j<=500/\∀ p∈x.2,p.2.length + cost p.1<=500) (cost k) ([],[(k,[])]) rfl
  ⟨by simp [Afb],by simpa using hk,by simp,hc,by simpa using hc⟩ (Sub.refl _) rfl ?_
 rintro j ⟨f,st⟩ K hK ⟨g1,g2,g3,g4,g6⟩
 dsimp only at g1 g2 g3 g4 g6
 have g5:st.length<=j:=by rw [g3]; exact Amq fun p hp=>(hok _ (g2 p hp)).2.1
 have g7:st.length<=500 + 0:=Be7 g5 g4
 refine Aa1 (.loc (Sto.A0 ..)) (hl' g7 (Bi4 _)) ?_
 rw [Be9]
 induction st using snoc with
 | h0=>
  refine Ahl (dF (Cj8 _) (.frz "found" rfl (by rw [Sto.A4 _ _ nfs,Sto.A0]) (.go (hRs (σ'':=σ) ?_ ?_))))
  · exact Sub.del (Sub.over (Sub.over (Sub.refl _) hfa) hsa') hfa
  · rw [show f=ws k from (Bh4 f).symm.trans g1]; exact hq
 | h1 st p=>
  obtain ⟨at_,path⟩:=p
  have hat:=g2 (at_,path) (Bh9 _ (.head _))
  obtain ⟨q1,q2,q3⟩:=hok at_ hat
  have g2':∀ p∈st,ok p.1:=fun p hp=>g2 p (Bi0 _ hp)
  have g6':∀ p∈st,p.2.length + cost p.1<=500:=fun p hp=>g6 p (Bi0 _ hp)
  have h2:=g6 (at_,path) (Bh9 _ (.head _))
  have hst:((σ.put fa (.list (f.map Aov))).put sa (.list ((st ++ [(at_,path)]).map Art))) sa=some (.list (st.map Art ++ [Art (at_,path)])):=by rw [Sto.A0,Bg1]; rfl
  rw [Bf1] at g5 g7
  refine Ahl (dT (by rw [Bf1]; exact Int.natCast_pos.mpr (Bp9 _)) (Ake hst (As2 hst ?_ (hl' (Bl7 g7) (Bi4 _)))))
  rw [Sto.A9]
  have hg1:f ++ ((ws at_).map (fun p=>(path ++ p.1,p.2)) ++ Afb ws st.reverse)=ws k:=by
    rw [<- g1,List.reverse_append]; rfl
  have Aw7:f.length + (ws at_).length<=(ws k).length:=by rw [<- hg1,Bf1,Bf1,Be9]; lia
  have hj:j=(st.map fun p=>cost p.1).sum + cost at_:=by rw [g3,Bg1,Cg0]; rfl
  have Afc:((σ.put fa (.list (f.map Aov))).put sa (.list (st.map Art))) dn=some (.list D):=by rw [Sto.A4 _ _ nds,Sto.A4 _ _ ndf]; exact h
  have hfb:((σ.put fa (.list (f.map Aov))).put sa (.list (st.map Art))) fa=some (.list (f.map Aov)):=by rw [Sto.A4 _ _ nfs,Sto.A0]
  have hfl:=hl' (f:=Aov) (ls:=f) (z:=0) (Be7 (Be7 (Bg9 ..) Aw7) hm2) (Bi4 _)
  rcases q3 with ⟨x,d1,d2⟩ | ⟨v,l,d1,d2,d3,d4,d5⟩
  · rw [d2] at Aw7 hg1
    rw [Bo3] at Aw7
    refine Acu Afc d1 q1 (Aw (dT rfl (Aa1 (.loc hfb) hfl ?_)))
    rw [Be9]
    refine Abz (dF (fun e=>?_) (Af hfb (Ae hfb (hK (st.map fun p=>cost p.1).sum (f ++ [(path,x)],st) _ _ ?_ ⟨?_,g2',rfl,?_,g6'⟩ ?_ rfl) hfl)))
    · have:=Br9 e; lia
    · rw [hj]; exact By3 q2
    · rw [<- hg1,Bj0]; simp only [Bg8,Bq4,Bh4]
    · exact Be7 (Bk4 (by rw [hj]; exact By3 q2)) g4
    · rw [Sto.Ao _ _ _ nfs.symm,Sto.A9,Bg1]; exact Sub.refl _
  · refine Acu Afc d1 q1 (Ahn (.val _) (.val _) (dF (fun e=>nomatch e) (.inl fun la hla=>?_)) rfl rfl Adz)
    have nla_s:=A7 (Sto.A0 ..) hla
    have nla_f:=A7 hfb hla
    have Bd8:(σ.put fa (.list (f.map Aov))) la=none:=by rw [Sto.A4 _ _ nla_s.symm] at hla; exact hla
    refine Aky Ad6 (α:=Nat × List (Nat × List V)) (fun x=>((σ.put fa (.list (f.map Aov))).put sa (.list (st.map Art))).put la (.list (x.2.map Art)))
      (fun x=>[("diagrams",Ba A1 dn db dm),("most",.int most),("found",.loc fa),("stack",.loc sa),("path",.tup path),("head",.int v),("later",.loc la),("low",.int x.1)])
      (fun rs x=>x.2 ++ Ad8 v path x.1 rs=Ad8 v path 0 l/\x.2.length + rs.length<=10) l (0,[]) rfl ⟨rfl,by rw [Bl1,Bk7]; exact d2⟩ (Sub.refl _) rfl ?_ ?_
    · rintro ⟨low,later⟩ ⟨e2,e3⟩
      dsimp only at e2 e3
      rw [Amk,Bh4] at e2
      rw [Bl1] at e3
      have hll:later.length<=500 + 0:=Be7 e3 (by decide)
      have hsb:(((σ.put fa (.list (f.map Aov))).put sa (.list (st.map Art))).put la (.list (later.map Art).reverse)) sa=some (.list (st.map Art)):=by rw [Sto.A4 _ _ nla_s,Sto.A0]
      refine .go (Aoe (Sto.A0 ..) (Aoa (Sto.A0 ..) ?_ (hl' hll (Bi4 _))))
      rw [Sto.A9]
      refine Aql hsb (Aq0 hsb (Sto.A0 ..) ?_ ?_)
      · rw [Sto.Ao _ _ _ nla_s.symm,Sto.A9,<- List.map_reverse,<- Bg1]
        have hc':((st ++ later.reverse).map fun p=>cost p.1).sum=(st.map fun p=>cost p.1).sum + (l.map fun p=>cost p.2).sum:=by
          rw [Bg1,Cg0,List.map_reverse,List.sum_reverse,e2,Adt]
        refine hK ((st ++ later.reverse).map fun p=>cost p.1).sum (f,st ++ later.reverse) _ _ ?_ ⟨?_,?_,rfl,?_,?_⟩ ?_ rfl
        · rw [hc',hj]; exact Nat.add_lt_add_left d5 _
        · rw [<- hg1,d4,<- Ak5,<- e2]; simp [Afb]
        · intro p hp
          rcases Bh6.mp hp with hp | hp
          · exact g2' p hp
          · rw [e2] at hp; exact Al2 d3 p (Ce6.mp hp)
        · rw [hc']; exact Be7 (Bf3 (Bl7 d5) _) (hj ▸ g4)
        · intro p hp
          rcases Bh6.mp hp with hp | hp
          · exact g6' p hp
          · rw [e2] at hp
            have h1:=Agk (Ce6.mp hp)
            have h3:=Aut (l:=(Ad8 v path 0 l).map fun p=>cost p.1) (Bh1.mpr ⟨p,Ce6.mp hp,rfl⟩)
            rw [Adt] at h3
            dsimp only at h2
            rw [h1,Br4,Bl9 1]; exact Be7 (Bf3 (Be7 (Bg3 h3) d5) _) h2
        · exact Sub.new (Sub.refl _) (by rw [Sto.A4 _ _ nla_s.symm]; exact Bd8)
      · rw [Ci3,Be9,Be9]; exact Be7 (Bo4 (Bl7 g7) hll) (by decide)
    · rintro p rs ⟨low,later⟩ K2 hK2 ⟨e2,e3⟩
      dsimp only at e2 e3
      rw [Bh3] at e3
      have hll:later.length<=500 + 0:=Be7 (Be7 (Bg9 ..) e3) (by decide)
      refine Af (Sto.A0 ..) (Ald (Ae (Sto.A0 ..) (hK2 (p.1 + 1,later ++ [(p.2,path ++ [Aek v low p.1])]) _ _ ⟨by rw [<- e2,Bj0]; rfl,?_⟩ ?_ rfl) (hl' hll (Bi4 _))) ?_)
      · rw [Bf1]; exact Be7 (Bm2 (Bh2 ..)) e3
      · rw [Sto.A9,Bg1]; exact Sub.refl _
      · dsimp only at h2; simp only [Bh3,Bl1]; lia
end
section
variable {w:World} {n:Nat} {σ:Sto} {A1:List Nat} {dn db dm lg pl:Addr} {D:List V} {Q:V->Sto->Prop} {Y:Str->Sto->Prop}
theorem Af3 {names x}:Am (placeOf names) x=if x∈names then some (.int (names.idxOf x:Nat)) else none:=by
 have:∀ (D:List Str) (k:Nat),Am ((D.zipIdx k).map fun x=>(x.1,V.int (x.2:Nat))) x=if x∈D then some (.int ((D.idxOf x + k:Nat):Int)) else none:=by
  intro D
  induction D with
  | nil=>intro k; rfl
  | cons d r ih=>
   intro k
   have ih':=ih (k + 1)
   unfold Am at ih' ⊢
   rw [List.zipIdx_cons,Bg8,Bk2]
   by_cases h:d=x
   · subst h; simp
   · have h':x≠d:=fun e=>h e.symm
     rw [show decide ((d,V.int (k:Int)).1=x)=false by simp [h]]
     dsimp only
     rw [ih']
     simp only [Bh7,h',false_or]
     by_cases q:x∈r
     · rw [if_pos q,if_pos q,Cb3,show (d == x)=false by simp [h]]
       simp only [cond_false]; congr 3; exact Bh2 (Co9 x r) k 1
     · rw [if_neg q,if_neg q]
 exact this names 0
theorem Aty {pr d} (hd:Am Agp pr=some d) (hq:Q d σ):Fn (PM w) (n + 3) (.ref 196) [.str pr] σ Q Y:=by
 refine B8 rfl rfl (Aou fun _=>rfl) rfl fun R' Y' hR hY hRs hYs=>?_
 refine Afm ?_
 intro a ha
 have hs:(σ.put a (.A5 Agp)) a=some (.A5 Agp):=Sto.A0 ..
 refine Ag8 (es:=Agp) hs ?_
 rw [hd]
 exact Ac (es:=Agp) hs hd (hRs (Sub.new (Sub.refl _) ha) hq)
theorem Aot {names:List Str} {k:Nat} {x:Str} (hnd:names.Nodup) (g1:names[k]?=some x):dput (placeOf (names.take k)) x (V.int (k:Nat))=placeOf (names.take (k + 1)):=by
 have hlt:k < names.length:=(Bf7.mp g1).1
 have htk:names.take (k + 1)=names.take k ++ [x]:=by rw [Cd2,g1]; rfl
 unfold dput
 rw [if_neg,htk]
 · unfold placeOf
   rw [List.zipIdx_append,Bg1,Bn4,Br8 (Bk4 hlt)]
   show _=_ ++ [(x,V.int ((0 + k:Nat):Int))]
   rw [Bk7]
 · simp only [placeOf,Ck7,Bx1,Bt0,decide_eq_true_eq,not_exists,not_and]
   rintro ⟨y,j⟩ hy rfl
   have hm:=(List.mem_zipIdx hy).2.2
   have h2:(names.take k ++ [y]).Nodup:=by rw [<- htk]; exact (List.take_sublist ..).nodup hnd
   exact (Bm5.mp h2).2.2 _ (by rw [hm]; exact Bl6 _) _ (.head _) rfl
theorem Asq {names:List Str} (hnl:names.length<=100) (hnd:names.Nodup) (hq:∀ pl,σ pl=none->Q (Abj names A1 lg pl) (σ.put pl (.A5 (placeOf names)))) :
   Fn (PM w) (n + 2) (.ref 185) [.tup (names.map .str),.tup (tupI A1),.loc lg] σ Q Y:=by
 refine Aqt (Aue (fI:=182) (by kernel_rfl) (by kernel_rfl) (by kernel_rfl) fun dx hdx=>?_)
 refine B8 rfl rfl (Aqo fun _ _ _ _=>rfl) rfl fun R' Y' hR hY hRs hYs=>.mk _ (Sto.A0 ..) rfl (Bi4 _) ?_
 rw [Sto.A9]
 refine .mk _ (Sto.A0 ..) rfl (Bi6 rfl) ?_
 rw [Sto.A9]
 refine .mk _ (Sto.A0 ..) rfl (Bi6 rfl) ?_
 rw [Sto.A9]
 refine Aiy fun pl hpl=>?_
 have npd:dx≠pl:=A7 (Sto.A0 ..) hpl
 have Be0:σ pl=none:=by rw [Sto.A4 _ _ npd.symm] at hpl; exact hpl
 refine .mk _ (by rw [Sto.A4 _ _ npd,Sto.A0]) rfl (Bi6 rfl) ?_
 rw [Sto.Ao _ _ _ npd.symm,Sto.A9]
 refine At3 ?_
 simp only [Bx0,Cb2]
 generalize Bc6:([("names",V.tup (names.map .str)),("tops",.tup (tupI A1)),("legal",.loc lg),("place",.loc pl)]:List (Str × V))=att
 have hdx':∀ k,((σ.put dx (.attrs att)).put pl (.A5 (placeOf (names.take k)))) dx=some (.attrs att):=fun k=>by rw [Sto.A4 _ _ npd,Sto.A0]
 refine Anr V.str (α:=Nat) (fun k=>(σ.put dx (.attrs att)).put pl (.A5 (placeOf (names.take k)))) (fun _=>[("self",.inst 185 dx)]) (fun k rs a=>a=k/\names.drop k=rs) names 0 rfl ⟨rfl,rfl⟩ (Sub.refl _) rfl ?_ ?_
 · rintro k _ ⟨rfl,hk⟩
   refine .go (hR ⟨rfl,185,dx,att,rfl,hdx' _,?_⟩)
   rw [Bu1 (List.drop_eq_nil_iff.mp hk),show ((σ.put dx (.attrs att)).put pl (.A5 (placeOf names))).del dx=σ.put pl (.A5 (placeOf names)) from ?_,<- Bc6]
   · exact hq pl Be0
   · rw [Sto.Ao _ _ _ npd]; exact Sto.Abm (by rw [Sto.A4 _ _ npd]; exact hdx)
 · rintro k x xs _ K hK ⟨rfl,h1⟩
   obtain ⟨g1,g2⟩:=drop_cons h1
   refine .mk att (.loc pl) (hdx' _) (by rw [<- Bc6]; rfl) (Afx (Sto.A0 ..) (hK (_ + 1) _ _ ⟨rfl,g2⟩ ?_ rfl) ?_)
   · rw [Sto.A9,Aot hnd g1]; exact Sub.refl _
   · rw [placeOf,Be9,Cj3,Bn4]; exact Be7 (Bm3 ..) (Be7 hnl (by decide))
theorem Ai2:(Bf4 " stands ahead of ").length=17:=by decide +kernel
theorem Ak3 {names:List Str} {pr:Str->Str} {nd:Str->List (Str × Int)} (hpl:σ pl=some (.A5 (placeOf names))) (hnl:names.length<=100) (hok:∀ x∈names,Aem x (pr x) (nd x))
   (h1:B0 nd names names=none->Q .none σ) (h2:∀ y,B0 nd names names=some y->Y y σ):Fn (PM w) (n + 4) (.ref 203) [Abj names A1 lg pl] σ Q Y:=by
 have l100:∀ {k},k<=100->k<=100000:=fun h=>Be7 h (by decide)
 refine B8 rfl rfl (Aou fun _=>rfl) rfl fun R' Y' hR hY hRs hYs=>Aky V.str (α:=Unit) (fun _=>σ) (fun _=>[("space",Abj names A1 lg pl)]) (fun rs _=>(∀ x∈rs,x∈names)/\B0 nd names rs=B0 nd names names) names () rfl ⟨fun x h=>h,rfl⟩ (Sub.refl _) rfl (fun _ e=>.go (hR (h1 e.2.symm))) ?_
 rintro x rs a K hK ⟨e2,e3⟩
 have hx:=hok x (e2 x (.head _))
 obtain ⟨ps,k3,k3'⟩:=hx.k3
 have hxn:=e2 x (.head _)
 have e3':B0 nd names (x :: rs)=match (nd x).find? fun q=>decide (q.1∈names/\names.idxOf x < names.idxOf q.1) with
   | some q=>some (Aid x q.1)
   | none=>B0 nd names rs:=rfl
 rw [e3] at e3'
 refine An0 (Amt (ps:=pr x :: ps) hx.k1 rfl hx.k2 k3 (l100 hx.len) (Nat.succ_le_of_lt (Bg6 k3' (by decide))) (Ab (k:=0) (.val _) rfl (Apg (ds:=[V.str "meta",V.str "ct"]) (.val _) (jI (.tup ((nd x).map Ae7)) ?_ (fun q hq=>?_) fun q hq=>?_) rfl rfl (Bi4 _))))
 rotate_left
 · rcases hx.k4 with ⟨_,q2⟩ | ⟨q1,_⟩
   · rw [q2] at hq; exact hq
   · exact absurd (by simpa using q) q1
 · rcases hx.k4 with ⟨q1,_⟩ | ⟨_,q2⟩
   · exact absurd (by simpa using q1) q
   · exact Aty q2 hq
 refine Aky Ae7 (α:=Unit) (fun _=>σ) (fun _=>[("space",Abj names A1 lg pl),("name",.str x)])
   (fun qs _=>(∀ q∈qs,q∈nd x)/\(qs.find? fun q=>decide (q.1∈names/\names.idxOf x < names.idxOf q.1))=(nd x).find? fun q=>decide (q.1∈names/\names.idxOf x < names.idxOf q.1)) (nd x) () rfl ⟨fun q h=>h,rfl⟩ (Sub.refl _) rfl ?_ ?_
 · rintro a ⟨_,f3⟩
   rw [<- f3] at e3'
   exact .go (hK () _ _ ⟨fun y hy=>e2 y (.tail _ hy),e3'.symm⟩ (Sub.refl _) rfl)
 · rintro q qs a K2 hK2 ⟨f2,f3⟩
   rw [Bk2] at f3
   have goOn:decide (q.1∈names/\names.idxOf x < names.idxOf q.1)=false->(∀ q∈qs,q∈nd x)/\(qs.find? fun q=>decide (q.1∈names/\names.idxOf x < names.idxOf q.1))=(nd x).find? fun q=>decide (q.1∈names/\names.idxOf x < names.idxOf q.1):=fun h=>by
     rw [h] at f3
     exact ⟨fun y hy=>f2 y (.tail _ hy),f3⟩
   refine A6 (k:=0) (d:=.str q.1) rfl (Ag1 hpl ?_)
   rw [Af3]
   by_cases hm:q.1∈names
   · rw [if_pos hm]
     refine A6 (k:=0) (d:=.str q.1) rfl (Ac hpl (by rw [Af3,if_pos hm]) (Ac hpl (by rw [Af3,if_pos hxn]) (Ahl (dI (fun hlt=>?_) fun hlt=>?_))))
     · have hlt:=Bn1.mp hlt
       have l1:=hx.len
       have l2:=hx.k5 q (f2 q (.head _))
       have l3:=Ai2
       refine Ae9 (A6 (k:=0) (d:=.str q.1) rfl (Ae9 (hY (h2 _ ?_)) ?_)) ?_
       · rw [e3',<- f3,decide_eq_true ⟨hm,hlt⟩]
         rfl
       · rw [strLen_append,Bn5]; rw [l3]; exact Be7 (Bo4 (Bi3 l1 17) l2) (by decide)
       · rw [Bn5]; rw [l3]; exact Be7 (Bi3 l1 17) (by decide)
     · exact hK2 () _ _ (goOn (decide_eq_false fun h=>hlt (Bn1.mpr h.2))) (Sub.refl _) rfl
   · rw [if_neg hm]
     exact hK2 () _ _ (goOn (decide_eq_false fun h=>hm h.1)) (Sub.refl _) rfl
end
noncomputable abbrev nV (m:Nat):V:=.int m
theorem Arh {α:Type} {A:List α} {x:α}:(A ++ [x]).isEmpty=false:=by cases A <;> rfl
theorem nd1 {α:Type} {a:α}:[a].Nodup:=Br7.mpr ⟨Bj1,Cn9⟩
noncomputable def Ab4 (S:List Nat):List Nat->Nat
 | []=>0
 | a :: l=>(if a∈S then 0 else 1) + Ab4 S l
theorem At9:∀ (S:List Nat) (a:Nat) (l:List Nat),Ab4 S (a :: l)=(if a∈S then 0 else 1) + Ab4 S l:=by intros; rfl
theorem Ahz {S:List Nat} {c a:Nat}:(if a∈S ++ [c] then 0 else 1)<=(if a∈S then 0 else 1):=by
 by_cases h:a∈S
 · simp [h]
 · by_cases h2:a=c <;> simp [h,h2]
theorem Akz {S:List Nat} {c:Nat}:∀ (l:List Nat),Ab4 (S ++ [c]) l<=Ab4 S l
 | []=>Bh5 _
 | a :: l=>Bo4 Ahz (Akz l)
theorem Ah3 {S:List Nat} {c:Nat} (hc:c ∉ S):∀ (l:List Nat),c∈l->Ab4 (S ++ [c]) l + 1<=Ab4 S l
 | [],h=>by cases h
 | a :: l,h=>by
  have l1:=Akz (S:=S) (c:=c) l
  have l3:=Ahz (S:=S) (c:=c) (a:=a)
  simp only [At9]
  rcases Bh7.mp h with e | e
  · subst e
    have e1:(if c∈S ++ [c] then 0 else 1)=0:=if_pos (by simp)
    have e2:(if c∈S then 0 else 1)=1:=if_neg hc
    rw [e1,if_neg hc,Bk7,Bl9 1]; exact Bg3 l1
  · have l2:=Ah3 hc l e
    exact rw1 l3 l2
noncomputable def Afd (S:List Nat):List (Int × V):=S.map fun s:Nat=>((s:Int),V.bool true)
theorem Ar2 {S:List Nat} {c:Nat}:(Am (Afd S) (c:Int)).isSome=decide (c∈S):=by
 unfold Am Afd
 induction S with
 | nil=>rfl
 | cons s r ih=>
  rw [Bg8,Bk2]
  by_cases h:s=c
  · subst h; simp
  · rw [show decide (((s:Int),V.bool true).1=(c:Int))=false by simp; lia]
    dsimp only
    rw [ih]
    have:c≠s:=fun e=>h e.symm
    simp [this]
theorem Arm {S:List Nat} {c:Nat} (h:c ∉ S):dput (Afd S) (c:Int) (.bool true)=Afd (S ++ [c]):=by
 unfold dput
 rw [if_neg]
 · simp [Afd]
 · simp only [Afd,Ck7,Bx1,Bt0,decide_eq_true_eq,not_exists,not_and]
   intro s hs e
   have:s=c:=by lia
   exact h (this ▸ hs)
inductive InI (ch:Nat->Option (List Nat)) (reach:Nat->Prop) (k j:Nat) (S M T:List Nat):Prop
 | mk (h1:k∈S) (h2:∀ t∈T,t∈S) (h3:∀ m∈M,m∈S/\ch m≠none/\m ∉ T) (h4:M.Nodup) (h5:T.Nodup) (h6:∀ s∈S,reach s) (h7:∀ s∈S,s∈T∨ch s=none∨(s∈M/\∀ cs,ch s=some cs->∀ c∈cs,c∈S)) (h8:j=T.length + 2 * Ab4 S (Bh8 20))
  (h9:M.length + T.length + Ab4 S (Bh8 20)<=20) (h10:S.length + Ab4 S (Bh8 20)<=20)
inductive InJ (reach:Nat->Prop) (l:List (Nat × Nat)) (S M T:List Nat) (one:Nat) (rs:List (Nat × Nat)) (S' T':List Nat):Prop
 | mk (h1:∀ p∈rs,p∈l) (h2:∀ s∈S,s∈S') (h3:∀ p∈l,p∈rs∨p.2∈S') (h4:∀ t∈T',t∈S') (h5:T'.Nodup) (h6:∀ m∈M ++ [one],m ∉ T') (h7:∀ s∈S',reach s) (h8:∀ s∈S',s∈S∨s∈T') (h9:∀ t∈T,t∈T')
  (h10:T'.length + 2 * Ab4 S' (Bh8 20)<=T.length + 2 * Ab4 S (Bh8 20)) (h11:M.length + 1 + T'.length + Ab4 S' (Bh8 20)<=20) (h12:S'.length + Ab4 S' (Bh8 20)<=20)
section
variable {w:World} {n:Nat} {σ:Sto} {A1:List Nat} {dn db dm lg pl:Addr} {D:List V} {Q:V->Sto->Prop} {Y:Str->Sto->Prop}
structure Met (ch:Nat->Option (List Nat)) (reach:Nat->Prop) (number:Nat) (M:List Nat):Prop where
 nd:M.Nodup
 inn:∀ m∈M,reach m/\ch m≠none
 all:∃ S:List Nat,number∈S/\∀ s∈S,ch s=none∨(s∈M/\∀ cs,ch s=some cs->∀ c∈cs,c∈S)
theorem Atn {k:Nat} (ch:Nat->Option (List Nat)) (reach:Nat->Prop) (h:σ dn=some (.list D)) (hk:reach k)
   (hok:∀ k,reach k->k < 20/\((∃ x,D[k]?=some (.tup [.str "leaf",x])/\ch k=none)∨∃ (v:Nat) (l:List (Nat × Nat)),D[k]?=some (.tup [.int (v:Nat),.tup (l.map Ad6)])/\l.length<=10/\ch k=some (l.map (·.2))/\∀ p∈l,reach p.2))
   (hq:∀ M,Met ch reach k M->M.length<=20->Q (.lst (M.map fun m:Nat=>V.int (m:Int))) σ):Fn (PM w) (n + 2) (.ref 210) [Ba A1 dn db dm,.int k] σ Q Y:=by
 have hl':∀ {ls:List Nat},ls.length<=20->(ls.map nV).length<=100000:=fun h=>by rw [Be9]; exact Be7 h (by decide)
 refine B8 rfl rfl (Anb fun _ _=>rfl) rfl fun R' Y' hR hY hRs hYs=>?_
 refine Awa ?_
 refine fun sa hsa=>.inl fun ma hma=>.inl fun ta hta=>?_
 have nsm:sa≠ma:=A7 (Sto.A0 ..) hma
 have nmt:ma≠ta:=A7 (Sto.A0 ..) hta
 have nst:sa≠ta:=A7 (by rw [Sto.A4 _ _ nsm]; exact Sto.A0 ..) hta
 have hm0:σ ma=none:=by rw [Sto.A4 _ _ nsm.symm] at hma; exact hma
 have ht0:σ ta=none:=by rw [Sto.A4 _ _ nmt.symm,Sto.A4 _ _ nst.symm] at hta; exact hta
 have nds:=A7 h hsa
 have ndm:=A7 h hm0
 have ndt:=A7 h ht0
 have u0:=Ah3 (S:=[]) (c:=k) (fun h=>nomatch h) (Bh8 20) (Bk6.mpr (hok k hk).1)
 rw [show Ab4 [] (Bh8 20)=20 from rfl] at u0
 refine Ayw (α:=List Nat × List Nat × List Nat) (fun x=>((σ.put sa (.Aci (Afd x.1))).put ma (.list (x.2.1.map nV))).put ta (.list (x.2.2.map nV)))
   (fun x=>[("diagrams",Ba A1 dn db dm),("seen",.loc sa),("met",.loc ma),("todo",.loc ta)])
   (fun j x=>InI ch reach k j x.1 x.2.1 x.2.2)
   (1 + 2 * Ab4 [k] (Bh8 20)) ([k],[],[k]) rfl ⟨.head _,fun t h=>h,fun _ h=>absurd h Bj1,Cn9,nd1,by simpa using hk,fun s h=>.inl h,rfl,?_,?_⟩ (Sub.refl _) rfl ?_
 · show 1 + Ab4 [k] (Bh8 20)<=20; rw [Bl9]; exact u0
 · show 1 + Ab4 [k] (Bh8 20)<=20; rw [Bl9]; exact u0
 rintro j ⟨S,M,T⟩ K hK ⟨i1,i2,i3,i4,i5,i6,i7,i8,i9,i10⟩
 dsimp only at i1 i2 i3 i4 i5 i6 i7 i8 i9 i10
 have hMl:M.length<=20:=Be7 (Be7 (Bg9 ..) (Bg9 ..)) i9
 have hTl:T.length<=20:=Be7 (Be7 (Bq7 ..) (Bg9 ..)) i9
 refine .mk _ (.list (.loc (Sto.A0 ..)) (hl' hTl)) ?_
 induction T using snoc with
 | h0=>
   refine .frz "met" rfl (by rw [Sto.A4 _ _ nmt,Sto.A0]) (.go (hRs (σ'':=σ) (Sub.del (Sub.over (Sub.over (Sub.new (Sub.refl _) hsa) hm0) ht0) hm0) (hq M ⟨i4,fun m hm=>⟨i6 m (i3 m hm).1,(i3 m hm).2.1⟩,S,i1,fun s hs=>?_⟩ hMl)))
   rcases i7 s hs with h | h
   · cases h
   · exact h
 | h1 T one=>
   rw [Bg1]
   have hol:one∈T ++ [one]:=Bh9 _ (.head _)
   have Baw:=i6 one (i2 one hol)
   obtain ⟨q1,q2⟩:=hok one Baw
   have q1':one < 1000:=Bj3 q1 (by decide)
   have hnT:one ∉ T/\T.Nodup:=by
     rw [Bm5] at i5
     exact ⟨fun hm=>i5.2.2 one hm one (.head _) rfl,i5.1⟩
   have hnM:one ∉ M:=fun hm=>(i3 one hm).2.2 hol
   have hTM:∀ m∈M,m ∉ T:=fun m hm e=>(i3 m hm).2.2 (Bi0 _ e)
   have i2':∀ t∈T,t∈S:=fun t ht=>i2 t (Bi0 _ ht)
   rw [Bf1] at i8 i9 hTl
   rw [Bo3] at i8 i9
   rw [show ((T.map nV) ++ [one].map nV).isEmpty=false from Arh]
   refine Ake (Sto.A0 ..) (As2 (Sto.A0 ..) ?_ (hl' (Bl7 hTl)))
   rw [Sto.A9]
   have Afc:(((σ.put sa (.Aci (Afd S))).put ma (.list (M.map nV))).put ta (.list (T.map nV))) dn=some (.list D):=by rw [Sto.A4 _ _ ndt,Sto.A4 _ _ ndm,Sto.A4 _ _ nds]; exact h
   rcases q2 with ⟨x,d1,d2⟩ | ⟨v,l,d1,d2,d3,d4⟩
   · refine Acu Afc d1 q1' (A6 (k:=0) rfl (Aw (dT rfl (hK (T.length + 2 * Ab4 S (Bh8 20)) (S,M,T) _ _ ?_ ⟨i1,i2',fun m hm=>⟨(i3 m hm).1,(i3 m hm).2.1,hTM m hm⟩,i4,hnT.2,i6,fun s hs=>?_,rfl,?_,i10⟩ (Sub.refl _) rfl))))
     · rw [i8,Bh2]; exact Br0 _
     · rcases i7 s hs with e | e
       · rcases Bh6.mp e with e | e
         · exact .inl e
         · rw [Bf6.mp e]; exact .inr (.inl d2)
       · exact .inr e
     · dsimp only; exact Be7 (Bi3 (Bm8 _) _) i9
   · have hmb:(((σ.put sa (.Aci (Afd S))).put ma (.list (M.map nV))).put ta (.list (T.map nV))) ma=some (.list (M.map nV)):=by rw [Sto.A4 _ _ nmt,Sto.A0]
     refine Acu Afc d1 q1' (A6 (k:=0) rfl (Ahn (.val _) (.val _) (dF (fun e=>nomatch e) (Af hmb (Ae hmb ?_ (hl' hMl)))) rfl rfl Adz))
     rw [Sto.Ao _ _ _ nmt.symm,Sto.A9]
     refine A6 (k:=1) rfl ?_
     refine Aky Ad6 (α:=List Nat × List Nat) (fun x=>((σ.put sa (.Aci (Afd x.1))).put ma (.list ((M ++ [one]).map nV))).put ta (.list (x.2.map nV)))
       (fun x=>[("diagrams",Ba A1 dn db dm),("seen",.loc sa),("met",.loc ma),("todo",.loc ta)])
       (fun rs x=>InJ reach l S M T one rs x.1 x.2) l (S,T) rfl
       ⟨fun p h=>h,fun s h=>h,fun p h=>.inl h,i2',hnT.2,Aa9 hTM hnT.1,i6,fun s h=>.inl h,fun t h=>h,Bh5 _,by dsimp only; rw [Bh2 M.length 1]; exact i9,i10⟩ (by rw [Bg1]; exact Sub.refl _) rfl ?_ ?_
     · rintro ⟨S',T'⟩ ⟨_,e3,e4,e5,e6,e7,e8,e9,e10,e11,e12,e13⟩
       dsimp only at e3 e4 e5 e6 e7 e8 e9 e10 e11 e12 e13
       refine .go (hK (T'.length + 2 * Ab4 S' (Bh8 20)) (S',M ++ [one],T') _ _ (by rw [i8,Bh2]; exact Bp2 e11) ⟨e3 _ i1,e5,fun m hm=>⟨?_,?_,e7 m hm⟩,?_,e6,e8,fun s hs=>?_,rfl,by rw [Bf1]; exact e12,e13⟩ (Sub.refl _) rfl)
       · exact Aa9 (fun m hm=>e3 _ (i3 m hm).1) (e3 _ (i2 one hol)) m hm
       · exact Aa9 (p:=fun m=>ch m≠none) (fun m hm=>(i3 m hm).2.1) (by rw [d3]; exact fun e=>nomatch e) m hm
       · rw [Bm5]
         refine ⟨i4,nd1,fun a ha b hb e=>?_⟩
         rw [Bf6.mp hb] at e
         exact hnM (e ▸ ha)
       · rcases e9 s hs with hs | hs
         · rcases i7 s hs with q | q | ⟨q,q'⟩
           · rcases Bh6.mp q with q | q
             · exact .inl (e10 s q)
             · rw [Bf6.mp q]
               refine .inr (.inr ⟨Bh9 _ (.head _),fun cs hcs c hc=>?_⟩)
               rw [d3] at hcs; cases hcs
               obtain ⟨p,hp,rfl⟩:=Bh1.mp hc
               rcases e4 p hp with f | f
               · cases f
               · exact f
           · exact .inr (.inl q)
           · exact .inr (.inr ⟨Bi0 _ q,fun cs hcs c hc=>e3 _ (q' cs hcs c hc)⟩)
         · exact .inl hs
     · rintro p rs ⟨S',T'⟩ K2 hK2 ⟨e2,e3,e4,e5,e6,e7,e8,e9,e10,e11,e12,e13⟩
       dsimp only at e2 e3 e4 e5 e6 e7 e8 e9 e10 e11 e12 e13
       have hsd:(((σ.put sa (.Aci (Afd S'))).put ma (.list ((M ++ [one]).map nV))).put ta (.list (T'.map nV))) sa=some (.Aci (Afd S')):=by rw [Sto.A4 _ _ nst,Sto.A4 _ _ nsm,Sto.A0]
       have hp2:=d4 p (e2 p (.head _))
       have e2':∀ q∈rs,q∈l:=fun q hq=>e2 q (.tail _ hq)
       refine A6 (k:=1) rfl (Am6 hsd ?_)
       rw [Ar2]
       refine nI (fun hc=>hK2 (S',T') _ _ ⟨e2',e3,fun q hq=>?_,e5,e6,e7,e8,e9,e10,e11,e12,e13⟩ (Sub.refl _) rfl) fun hc=>?_
       · rcases e4 q hq with f | f
         · rcases Bh7.mp f with f | f
           · rw [f]; exact .inr hc
           · exact .inl f
         · exact .inr f
       · have hul:=Ah3 hc (Bh8 20) (Bk6.mpr (hok p.2 hp2).1)
         have hTl':T'.length<=20:=by exact Be7 (Bq7 ..) (Be7 (Bg9 ..) e12)
         have At6:p.2∈S' ++ [p.2]:=Bh9 _ (.head _)
         have hS':∀ {s},s∈S'->s∈S' ++ [p.2]:=Bi0 _
         have hT':∀ {s},s∈T'->s∈T' ++ [p.2]:=Bi0 _
         refine A6 (k:=1) rfl (Atw hsd ?_ (by rw [Afd,Be9]; exact Be7 (Bg9 ..) (Be7 e13 (by decide))))
         rw [Arm hc,Sto.Ao _ _ _ nst.symm,Sto.Ao _ _ _ nsm.symm,Sto.A9]
         refine Af (Sto.A0 ..) (A6 (k:=1) rfl (Ae (Sto.A0 ..) ?_ (hl' hTl')))
         rw [Sto.A9]
         have hnT':p.2 ∉ T':=fun hm=>hc (e5 _ hm)
         refine hK2 (S' ++ [p.2],T' ++ [p.2]) _ _ ⟨e2',fun s hs=>hS' (e3 s hs),fun q hq=>?_,Aa9 (fun t ht=>hS' (e5 t ht)) At6,?_,fun m hm=>?_,Aa9 e8 hp2,Aa9 (p:=fun s=>s∈S∨s∈T' ++ [p.2]) (fun s hs=>(e9 s hs).imp id hT') (.inr (Bh9 _ (.head _))),fun t ht=>hT' (e10 t ht),?_,?_,?_⟩ (by rw [Bg1 (l₁:=T')]; exact Sub.refl _) rfl
         · rcases e4 q hq with f | f
           · rcases Bh7.mp f with f | f
             · rw [f]; exact .inr At6
             · exact .inl f
           · exact .inr (hS' f)
         · rw [Bm5]
           refine ⟨e6,nd1,fun a ha b hb e=>?_⟩
           rw [Bf6.mp hb] at e
           exact hnT' (e ▸ ha)
         · intro ht
           rcases Bh6.mp ht with ht | ht
           · exact e7 m hm ht
           · rw [Bf6.mp ht] at hm
             exact hc (Aa9 (fun m hm=>e3 _ (i3 m hm).1) (e3 _ (i2 one hol)) _ hm)
         · rw [Bf1]; simp only [Bo3]; exact rq e11 hul
         · rw [Bf1]; simp only [Bo3]; exact rx hul e12
         · rw [Bf1]; simp only [Bo3]; exact ry hul e13
end
section
variable {w:World} {n:Nat} {σ:Sto} {A1:List Nat} {dn db dm lg pl:Addr} {D:List V} {Q:V->Sto->Prop} {Y:Str->Sto->Prop}
theorem Asc {names:List Str} {les:List (Str × V)} {pr:Str->Str} {nd:Str->List (Str × Int)} {base:Str} {k most:Nat} (ws:Nat->List (List V × V)) (cost:Nat->Nat) (ok:Nat->Prop) (mt:V->V)
   (hpl:σ pl=some (.A5 (placeOf names))) (hnl:names.length<=100) (hnm:∀ x∈names,Aem x (pr x) (nd x)) (hlg:σ lg=some (.A5 les))
   (h:σ dn=some (.list D)) (hk:ok k)
   (hok:∀ k,ok k->k < 1000/\1<=cost k/\((∃ x,D[k]?=some (.tup [.str "leaf",x])/\ws k=[([],x)])∨∃ v l,D[k]?=some (.tup [.int (v:Nat),.tup (l.map Ad6)])/\l.length<=10/\(∀ p∈l,ok p.2)/\ws k=Adn ws v 0 l/\(l.map fun p=>cost p.2).sum + 1<=cost k))
   (Aqi:(ws k).length<=most) (hm2:(ws k).length<=500) (hc:cost k<=500)
   (hst:∀ p∈ws k,p.1.length<=100/\p.2.dat=true/\p.2.dep<=40/\∀ s∈p.1,Axq names A1 les s (mt s))
   (h1:∀ y,B0 nd names names=some y->Y y σ) (h2:B0 nd names names=none->(∃ p∈ws k,Ar p.2=false)->Y "a leaf that is no verdict" σ)
   (hq:B0 nd names names=none->(∀ p∈ws k,Ar p.2=true)->∀ r,σ r=none->Q (.loc r) (σ.put r (.A5 [(base,.lst ((ws k).map (Akt mt)))]))) :
   Fn (PM w) (n + 5) (.ref 257) [Ba A1 dn db dm,Abj names A1 lg pl,.int k,.str base,.int most] σ Q Y:=by
 have ndr:∀ {ra},σ ra=none->dn≠ra:=A7 h
 have nlr:∀ {ra},σ ra=none->lg≠ra:=A7 hlg
 refine B8 rfl rfl (Baz fun _ _ _ _ _=>rfl) rfl fun R' Y' hR hY hRs hYs=>Ak3 hpl hnl hnm (fun Ash=>?_) fun y hy=>hY (h1 y hy)
 refine .inl fun ra hra=>Av5 ws cost ok (D:=D) (by rw [Sto.A4 _ _ (ndr hra)]; exact h) hk hok Aqi hm2 hc ?_
 refine Aky Aov (α:=List (List V × V)) (fun q=>σ.put ra (.list (q.map (Akt mt)))) (fun _=>[("space",Abj names A1 lg pl),("base",.str base),("rules",.loc ra)])
   (fun ps q=>ws k=q ++ ps/\∀ p∈q,Ar p.2=true) (ws k) [] rfl ⟨rfl,fun _ h=>nomatch h⟩ (Sub.refl _) rfl ?_ ?_
 · rintro q ⟨e2,e3⟩
   rw [Bh4] at e2
   subst e2
   refine .frz "rules" rfl (Sto.A0 ..) (.go ?_)
   rw [Sto.Abm hra]
   refine Afm ?_
   exact fun r hr=>hR (hq Ash e3 r hr)
 · rintro p ps q K hK ⟨e2,e3⟩
   have hp:p∈ws k:=by rw [e2]; exact Bh9 _ (.head _)
   have hql:(q.map (Akt mt)).length<=100000:=by
     rw [e2,Bf1] at hm2
     rw [Be9]; exact Be7 (Be7 (Bg9 ..) hm2) (by decide)
   obtain ⟨s1,s2,s3,s4⟩:=hst p hp
   refine .inl fun sa hsa=>A6 (k:=0) rfl ?_
   have nrs:ra≠sa:=A7 (Sto.A0 ..) hsa
   have Bar:σ sa=none:=by rw [Sto.A4 _ _ nrs.symm] at hsa; exact hsa
   have hl1:∀ {y:List V},y.length<=101->y.length<=100000:=fun h=>Be7 h (by decide)
   refine Axa (α:=List V) (fun y=>(σ.put ra (.list (q.map (Akt mt)))).put sa (.list y)) (fun _=>[("space",Abj names A1 lg pl),("base",.str base),("rules",.loc ra),("way",Aov p),("statements",.loc sa)])
     (fun ds y=>(∀ s∈ds,s∈p.1)/\y ++ ds.map mt=p.1.map mt) p.1 [] rfl ⟨fun s h=>h,rfl⟩ (Sub.refl _) rfl ?_ ?_
   · rintro y ⟨_,f2⟩
     rw [Bq4,Bh4] at f2
     subst f2
     have s1':(p.1.map mt).length<=100:=by rw [Be9]; exact s1
     refine .go (Af (Sto.A0 ..) (A6 (k:=1) rfl (An4 s2 s3 (fun hl=>Ae (Sto.A0 ..) ?_ (hl1 (Bk0 s1'))) fun hl=>hYs (Sub.over (Sub.new (Sub.refl _) hra) Bar) (h2 Ash ⟨p,hp,hl⟩))))
     rw [Sto.A9]
     refine Af (ds:=q.map (Akt mt)) (by rw [Sto.A4 _ _ nrs,Sto.A0]) (Aa7 (.loc (Sto.A0 ..)) (hl1 (by rw [Bf1]; exact Bg3 s1')) (Ae (ds:=q.map (Akt mt)) (by rw [Sto.A4 _ _ nrs,Sto.A0]) ?_ hql))
     rw [Sto.Ao _ _ _ nrs.symm,Sto.A9]
     refine hK (q ++ [p]) _ _ ⟨by rw [e2,Bj0]; rfl,Aa9 e3 hl⟩ ?_ rfl
     rw [Bg1]
     exact Sub.new (Sub.refl _) (by rw [Sto.A4 _ _ nrs.symm]; exact Bar)
   · rintro s rr y K2 hK2 ⟨f1,f2⟩
     obtain ⟨v,lo,hi,top,name,a,b,t1,t2,t3,t4,t5,t6,t7,t8,t9⟩:=s4 s (f1 s (.head _))
     subst t1
     have hyl:y.length<=100:=by
      have:=congrArg Bp5 f2
      rw [Bf1,Be9 (as:=p.1)] at this
      exact Be7 (Be7 (Bg9 ..) (Bm2 this)) s1
     refine A6 (k:=0) rfl (A6 (k:=1) rfl (Atg (les:=les) (by rw [Sto.A4 _ _ (nlr Bar),Sto.A4 _ _ (nlr hra)]; exact hlg) t2 t3 t4 t5 t6 t7 t8 (At2 (dT (fun e=>nomatch e) (Af (Sto.A0 ..) (Ae (Sto.A0 ..) ?_ (hl1 (Bk0 hyl))))))))
     rw [Sto.A9]
     exact hK2 (y ++ [Abp name (Aaj a b)]) _ _ ⟨fun z hz=>f1 z (.tail _ hz),by rw [<- f2,<- t9,Bj0]; rfl⟩ (Sub.refl _) rfl
end
noncomputable def Ai (base:Str) (vt:V) (rv:Nat->V) (q:List Nat):List (Str × V):=(base,.lst [.tup [.tup [.str "verdict",vt]]]) :: q.map fun m=>(nName m,.lst [rv m])
theorem Adp {base vt rv q m} (hq:∀ x∈q,x < 20) (hm:m < 20) (hn:m ∉ q):(Am (Ai base vt rv q) (nName m)).isSome=decide (nName m=base):=by
 have:(q.map fun m=>(nName m,V.lst [rv m])).find? (fun kv=>decide (kv.1=nName m))=none:=by
   rw [By1]
   intro kv hkv
   obtain ⟨x,hx,rfl⟩:=Bh1.mp hkv
   simp only [decide_eq_true_eq]
   exact fun e=>hn (Aej x (hq x hx) m hm e ▸ hx)
 unfold Am Ai
 rw [Bk2]
 by_cases h:base=nName m
 · subst h; simp
 · have h':¬ nName m=base:=fun e=>h e.symm
   simp only [h,h',decide_false,this,Option.map_none,Option.isSome_none]
theorem Agz {base vt rv q m x} (hq:∀ x∈q,x < 20) (hm:m < 20) (hn:m ∉ q) (hb:nName m≠base) (hx:x=.lst [rv m]):dput (Ai base vt rv q) (nName m) x=Ai base vt rv (q ++ [m]):=by
 have:=Adp (vt:=vt) (rv:=rv) (base:=base) hq hm hn
 rw [show decide (nName m=base)=false by simp [hb]] at this
 unfold dput
 rw [if_neg]
 · rw [hx]; simp [Ai]
 · unfold Am at this
   rw [Option.isSome_map] at this
   have h0:=By1.mp (Option.not_isSome_iff_eq_none.mp (by rw [this]; simp))
   rw [Bx1]
   rintro ⟨kv,hkv,e⟩
   exact h0 kv hkv e
section
variable {w:World} {n:Nat} {σ:Sto} {A1:List Nat} {dn db dm lg pl:Addr} {D:List V} {Q:V->Sto->Prop} {Y:Str->Sto->Prop}
theorem Aoy {names:List Str} {les:List (Str × V)} {pr:Str->Str} {nd:Str->List (Str × Int)} {base:Str} {k:Nat} (ch:Nat->Option (List Nat)) (reach:Nat->Prop) (rl:Nat->Option V)
   (hpl:σ pl=some (.A5 (placeOf names))) (hnl:names.length<=100) (hnm:∀ x∈names,Aem x (pr x) (nd x)) (hlg:σ lg=some (.A5 les))
   (h:σ dn=some (.list D)) (hk:reach k) (hN:Al0 D k) (hb:base.length<=100)
   (hok:∀ k,reach k->k < 20/\((∃ x,D[k]?=some (.tup [.str "leaf",x])/\ch k=none)∨∃ (v:Nat) (l:List (Nat × Nat)),D[k]?=some (.tup [.int (v:Nat),.tup (l.map Ad6)])/\l.length<=10/\ch k=some (l.map (·.2))/\(∀ p∈l,reach p.2) ∧
     ∃ (name:Str) (nums:List Int),names[v]?=some name/\v < 100/\((Am les name=none/\nums=[])∨(Am les name=some (.tup (nums.map .int))/\nums≠[]))/\nums.length<=10/\(∀ p∈l,Al0 D p.2)/\rl k=(Aaz (Ajc D) nums 0 l).map (Ao0 name)))
   (h1:∀ y,B0 nd names names=some y->Y y σ) (h2:B0 nd names names=none->Ajc D k=none->Y "a leaf that is no verdict" σ)
   (h3:B0 nd names names=none->∀ M,Met ch reach k M->(∃ m∈M,nName m=base)->Y "the base chain has a node's name" σ)
   (h4:B0 nd names names=none->∀ M,Met ch reach k M->(∃ m∈M,rl m=none)->Y "a leaf that is no verdict" σ)
   (hq:B0 nd names names=none->∀ M vt (rv:Nat->V),Met ch reach k M->Ajc D k=some vt->(∀ m∈M,nName m≠base/\rl m=some (rv m))->∀ r,σ r=none->Q (.loc r) (σ.put r (.A5 (Ai base vt rv M)))) :
   Fn (PM w) (n + 6) (.ref 243) [Ba A1 dn db dm,Abj names A1 lg pl,.int k,.str base] σ Q Y:=by
 obtain ⟨hd,x,n1,n2,n3,n4,n5⟩:=hN
 refine B8 rfl rfl (Aqo fun _ _ _ _=>rfl) rfl fun R' Y' hR hY hRs hYs=>Ak3 hpl hnl hnm (fun Ash=>?_) fun y hy=>hY (h1 y hy)
 refine Afm ?_
 refine Aur h n1 n2 n3 n4 n5 (fun vt hvt=>.inr fun ca hca=>?_) fun hvt=>hY (h2 Ash hvt)
 have ndc:=A7 h hca
 have nlc:=A7 hlg hca
 rw [show Ai9 [] [(base,V.lst [V.tup [V.tup [V.str (Bf4 "verdict"),vt]]])]=Ai base vt (fun m=>(rl m).getD .none) [] from rfl]
 refine Atn (D:=D) ch reach (by rw [Sto.A4 _ _ ndc]; exact h) hk (fun j hj=>?_) (fun M hM Auc=>?_)
 · obtain ⟨z1,z2⟩:=hok j hj
   refine ⟨z1,z2.imp id ?_⟩
   rintro ⟨v,l,y1,y2,y3,y4,_⟩
   exact ⟨v,l,y1,y2,y3,y4⟩
 refine Aky nV (α:=List Nat) (fun q=>σ.put ca (.A5 (Ai base vt (fun m=>(rl m).getD .none) q))) (fun _=>[("diagrams",Ba A1 dn db dm),("space",Abj names A1 lg pl),("base",.str base),("chains",.loc ca)])
   (fun ps q=>M=q ++ ps/\∀ m∈q,nName m≠base/\∃ r,rl m=some r) M [] rfl ⟨rfl,fun _ h=>nomatch h⟩ (Sub.refl _) rfl ?_ ?_
 · rintro q ⟨e2,e3⟩
   rw [Bh4] at e2
   subst e2
   exact .go (hR (hq Ash M vt _ hM hvt (fun m hm=>⟨(e3 m hm).1,by obtain ⟨r,hr⟩:=(e3 m hm).2; rw [hr]; rfl⟩) ca hca))
 · rintro m ps q K hK ⟨e2,e3⟩
   have hmM:m∈M:=by rw [e2]; exact Bh9 _ (.head _)
   obtain ⟨hr,hch⟩:=hM.inn m hmM
   obtain ⟨z1,z2⟩:=hok m hr
   have Bca:∀ x∈q,x < 20:=fun x hx=>(hok x (hM.inn x (by rw [e2]; exact Bi0 _ hx)).1).1
   have hmq:m ∉ q:=fun hm=>by
     have:=hM.nd
     rw [e2,Bm5] at this
     exact this.2.2 m hm m (.head _) rfl
   refine Ak0 (by exact r30) (by lia) (Ae9 (Ag1 (Sto.A0 ..) ?_) ?_)
   · rw [show Bf4 "n" ++ Axj (m:Int)=nName m from rfl,Adp Bca z1 hmq]
     refine dI (fun hbm=>hYs (Sub.new (Sub.refl _) hca) (h3 Ash M hM ⟨m,hmM,hbm⟩)) fun hbm=>?_
     rcases z2 with ⟨x,y1,y2⟩ | ⟨v,l,y1,y2,y3,y4,name,nums,y5,y6,y7,y8,y9,y10⟩
     · exact absurd y2 hch
     have hD':(σ.put ca (.A5 (Ai base vt (fun m=>(rl m).getD .none) q))) dn=some (.list D):=by rw [Sto.A4 _ _ ndc]; exact h
     have hl':(σ.put ca (.A5 (Ai base vt (fun m=>(rl m).getD .none) q))) lg=some (.A5 les):=by rw [Sto.A4 _ _ nlc]; exact hlg
     refine Acu hD' y1 (Bj3 z1 (by decide)) (Awm hD' hl' y5 y6 y7 y8 y2 y9 (fun els he=>?_) fun he=>?_)
     · rw [he] at y10
       refine .inr (Afx (Sto.A0 ..) ?_ ?_)
       · rw [Sto.A9,Agz Bca z1 hmq hbm (by rw [y10]; rfl)]
         exact hK (q ++ [m]) _ _ ⟨by rw [e2,Bj0]; rfl,Aa9 e3 ⟨hbm,_,y10⟩⟩ (Sub.refl _) rfl
       · rw [e2,Bf1] at Auc
         rw [Ai,Bh3,Be9]
         exact Be7 (Bg3 (Be7 (Bg9 ..) Auc)) (by decide)
     · rw [he] at y10
       exact hYs (Sub.new (Sub.refl _) hca) (h4 Ash M hM ⟨m,hmM,y10⟩)
   · rw [Bn5,show (Bf4 "n").length=1 by decide +kernel]
     exact Be7 (Bf3 (Adf m z1) 1) (by decide)
end
noncomputable def Aix:List (Str × List Str):=[("ip",["meta nfproto"]),("icmp",["meta nfproto","meta l4proto"]),("vlan",["ether type"]),("arp",["meta protocol"]),("udp",["meta l4proto"])]
noncomputable def Aei (pr:Str):List Str:=(Aix.lookup pr).getD []
noncomputable abbrev As7 (l:List Str):V:=.lst (l.map .str)
noncomputable def Agi (lnd:Str->List Str):List Str->Str
 | []=>""
 | x :: r=>match (lnd x).find? (fun q=>decide (q∈r)) with
  | some q=>Aid x q
  | none=>Agi lnd r
theorem Amb:∀ (lnd:Str->List Str) (x_1:Str) (r:List Str),Agi lnd (x_1 :: r)=match List.find? (fun q=>decide (q∈r)) (lnd x_1) with | some q=>Aid x_1 q | none=>Agi lnd r:=by intros; rfl
theorem Aib {x:Str}:∀ {l:List (Str × List Str)},Am (l.map fun y=>(y.1,As7 y.2)) x=(l.lookup x).map As7
 | []=>rfl
 | (k,v) :: l=>by
  have ih:=Aib (x:=x) (l:=l)
  unfold Am at ih ⊢
  rw [Bg8,Bk2,Bn3]
  by_cases h:k=x
  · subst h; simp
  · rw [show decide ((k,As7 v).1=x)=false by simp [h],show (x == k)=false by simp; exact fun e=>h e.symm]
    exact ih
section
variable {w:World} {n:Nat} {σ:Sto} {A1:List Nat} {dn db dm lg pl:Addr} {D:List V} {Q:V->Sto->Prop} {Y:Str->Sto->Prop}
theorem Aqb {name pr:Str} {nd:List (Str × Int)} (hn:Aem name pr nd) (hq:Q (As7 (Aei pr)) σ):Fn (PM w) (n + 1) (.ref 285) [.str name] σ Q Y:=by
 obtain ⟨ps,k3,k3'⟩:=hn.k3
 refine B8 rfl rfl (Aou fun _=>rfl) rfl fun R' Y' hR hY hRs hYs=>?_
 refine Afm ?_
 refine .inr (.inr (.inr fun a ha=>?_))
 refine Ap9 (Sto.A0 ..) ?_
 refine Afm ?_
 refine .inr (.inr fun b hb=>?_)
 have nab:=A7 (Sto.A0 ..) hb
 refine Aqv (by rw [Sto.A4 _ _ nab,Sto.A0]) (Sto.A0 ..) nab ?_ (by decide)
 refine Aun (Sto.A0 ..) (An0 (Amt (ps:=pr :: ps) hn.k1 rfl hn.k2 k3 (Be7 hn.len (by decide)) (Nat.succ_le_of_lt (Bg6 k3' (by decide))) (Ab (k:=0) (.val _) rfl (.inr (Ak1 (es:=Aix.map fun x=>(x.1,As7 x.2)) (Sto.A0 ..) ?_)))))
 rw [Aib,show ((Aix.lookup pr).map As7).getD (V.lst [])=As7 (Aei pr) by unfold Aei; cases Aix.lookup pr <;> rfl]
 exact hRs (Sub.over (Sub.new (Sub.new (Sub.refl _) ha) hb) ha) hq
theorem Akc {names:List Str} {pr:Str->Str} {nd:Str->List (Str × Int)} (hok:∀ x∈names,Aem x (pr x) (nd x)) (hlen:names.length<=100) (hl2:∀ x∈names,∀ q∈Aei (pr x),q.length<=100)
   (hq:Q (.str (Agi (fun x=>Aei (pr x)) names)) σ):Fn (PM w) (n + 2) (.ref 365) [As7 names] σ Q Y:=by
 refine B8 rfl rfl (Aou fun _=>rfl) rfl fun R' Y' hR hY hRs hYs=>Ado ?_
 refine Anr V.str (α:=Unit) (fun _=>σ) (fun _=>[("names",As7 names)]) (fun k rs _=>names.drop k=rs/\Agi (fun x=>Aei (pr x)) rs=Agi (fun x=>Aei (pr x)) names) names () rfl ⟨rfl,rfl⟩ (Sub.refl _) rfl ?_ ?_
 · rintro k _ ⟨_,e2⟩
   rw [<- e2] at hq
   exact .go (hR hq)
 · rintro k x xs a K hK ⟨h1,e2⟩
   obtain ⟨g1,g2⟩:=drop_cons h1
   have hxm:x∈names:=Bf9 g1
   rw [Amb] at e2
   refine Aqb (hok x hxm) (Aky V.str (α:=Unit) (fun _=>σ) (fun _=>[("names",As7 names),("place",.int k),("name",.str x)])
     (fun qs _=>(∀ q∈qs,q∈Aei (pr x))/\(qs.find? fun q=>decide (q∈xs))=(Aei (pr x)).find? fun q=>decide (q∈xs)) _ () rfl ⟨fun q h=>h,rfl⟩ (Sub.refl _) rfl ?_ ?_)
   · rintro a ⟨_,f3⟩
     rw [<- f3] at e2
     exact .go (hK () _ _ ⟨g2,e2⟩ (Sub.refl _) rfl)
   · rintro q qs a K2 hK2 ⟨f2,f3⟩
     rw [Bk2] at f3
     refine Apk (lo:=some (k + 1)) (hi:=none) (.val _) rfl rfl ?_ (by rw [Be9]; exact Be7 hlen (by decide))
     rw [Alw,show slc (some (k + 1)) none names=xs by rw [slc]; simp only [Bz6,Bm1,Ce5,g2]]
     refine Ahr (ds:=xs.map V.str) (.val _) (.val _) (dI (fun hm=>?_) fun hm=>?_) rfl (Aew fun x _=>rfl) (Bi4 _)
     · rw [decide_eq_true (show q∈xs by simpa using hm)] at f3
       rw [<- f3] at e2
       rw [<- e2] at hq
       have l1:=(hok x hxm).len
       have l2:=hl2 x hxm q (f2 q (.head _))
       have l3:=Ai2
       refine Ae9 (Ae9 (hR hq) ?_) ?_
       · rw [strLen_append,Bn5]; rw [l3]; exact Be7 (Bo4 (Bi3 l1 17) l2) (by decide)
       · rw [Bn5]; rw [l3]; exact Be7 (Bi3 l1 17) (by decide)
     · rw [decide_eq_false (show ¬ q∈xs by simpa using hm)] at f3
       exact hK2 () _ _ ⟨fun y hy=>f2 y (.tail _ hy),f3⟩ (Sub.refl _) rfl
theorem Bb9 {wl nl:Addr} {a:Wo} {t:List V} {es:List (V × V)} {v k:Nat} {x:V} (hw:σ wl=some (.A5 a.es)) (h3:a.A1.length=3) (B9:∀ p∈a.A1,p<=10) (hv:v<=3) (hl:t.length<=100) (hf:∀ x∈t,B4 x)
   (hx:t[0]?=some x) (hnu:σ nl=some (.Ad es)) (hc:a.cells.length<=100) (hle:t.length<=a.cells.length) (hky:V.keys (whole a.cells.length t)=true) (hkd:V.Bc (whole a.cells.length t)<=7)
   (hk:v + (asked (a.A1.drop v) t).1≠3->Am es (.tup (whole a.cells.length t))=some (.int k)/\k < 20)
   (hq:Q (if v + (asked (a.A1.drop v) t).1=3 then .tup [x,.str ""] else .tup [.str "goto",.str (nName k)]) σ):Fn (PM w) (n + 3) (.ref 377) [.loc wl,.loc nl,.tup t,.int v] σ Q Y:=by
 refine B8 rfl rfl (Aqo fun _ _ _ _=>rfl) rfl fun R' Y' hR hY hRs hYs=>Ac9 hw h3 B9 hv (Be7 hl (by decide)) hf (A6 (k:=0) rfl (Abz (dI (fun q=>?_) fun q=>?_)))
 · rw [if_pos (Br9 q)] at hq
   exact A6 (k:=0) hx (hR hq)
 · have q:¬ v + (asked (a.A1.drop v) t).1=3:=fun e=>q (congrArg Int.ofNat e)
   rw [if_neg q] at hq
   obtain ⟨hk1,hk2⟩:=hk q
   have hne:t≠[]:=by rintro rfl; cases hx
   refine Aja hw (Be7 hc (by decide)) hne hle (Ae8 hnu hky hkd hk1 (Ak0 (by exact r30) (by exact ti (Bk4 (hk q).2) (by decide)) (Ae9 (hR hq) ?_)))
   rw [Bn5,show (Bf4 "n").length=1 by decide +kernel]
   exact Be7 (Bf3 (Adf k hk2) 1) (by decide)
theorem Avv {σ:Sto} {a:Addr} {o:O} (h:σ a=none):(σ.put a o).del a=σ:=Sto.Abm h
theorem Ajb {σ:Sto} {a b:Addr} {o:O} (h:a≠b):(σ.put a o).del b=(σ.del b).put a o:=funext fun c=>by
 show (if c=b then none else if c=a then some o else σ c)=if c=a then some o else if c=b then none else σ c
 by_cases h1:c=b
 · rw [if_pos h1,if_pos h1,if_neg fun e=>h (e.symm.trans h1)]
 · rw [if_neg h1,if_neg h1]
theorem Ayi (hq:∀ dn db dm,σ dn=none->σ db=none->σ dm=none->dn≠db->dn≠dm->db≠dm->Q (Ba A1 dn db dm) (((σ.put dn (.list [])).put db (.Ad [])).put dm (.A5 []))) :
   Fn (PM w) (n + 2) (.ref 117) [.tup (tupI A1)] σ Q Y:=by
 refine Aqt (Aue (fI:=79) (by kernel_rfl) (by kernel_rfl) (by kernel_rfl) fun dx hdx=>?_)
 refine B8 rfl rfl (Anb fun _ _=>rfl) rfl fun R' Y' hR hY hRs hYs=>.mk _ (Sto.A0 ..) rfl (Bi4 _) ?_
 rw [Sto.A9]
 refine .inl fun dn hdn=>?_
 have n1:dx≠dn:=A7 (Sto.A0 ..) hdn
 refine .mk _ (by rw [Sto.A4 _ _ n1,Sto.A0]) rfl (Bi6 rfl) ?_
 rw [Sto.Ao _ _ _ n1.symm,Sto.A9]
 refine Al4 fun db hdb=>?_
 have n3:dn≠db:=A7 (Sto.A0 ..) hdb
 have n2:dx≠db:=A7 (by rw [Sto.A4 _ _ n1,Sto.A0]) hdb
 refine .mk _ (by rw [Sto.A4 _ _ n2,Sto.A4 _ _ n1,Sto.A0]) rfl (Bi6 rfl) ?_
 rw [Sto.Ao _ _ _ n2.symm,Sto.Ao _ _ _ n1.symm,Sto.A9]
 refine Aiy fun dm hdm=>?_
 have n4:db≠dm:=A7 (Sto.A0 ..) hdm
 have n5:dn≠dm:=A7 (by rw [Sto.A4 _ _ n3,Sto.A0]) hdm
 have n6:dx≠dm:=A7 (by rw [Sto.A4 _ _ n2,Sto.A4 _ _ n1,Sto.A0]) hdm
 refine .mk _ (by rw [Sto.A4 _ _ n6,Sto.A4 _ _ n2,Sto.A4 _ _ n1,Sto.A0]) rfl (Bi6 rfl) ?_
 rw [Sto.Ao _ _ _ n6.symm,Sto.Ao _ _ _ n2.symm,Sto.Ao _ _ _ n1.symm,Sto.A9]
 refine hR ⟨rfl,117,dx,_,rfl,by rw [Sto.A4 _ _ n6,Sto.A4 _ _ n2,Sto.A4 _ _ n1,Sto.A0],?_⟩
 rw [Ajb n6.symm,Ajb n2.symm,Ajb n1.symm,Avv hdx]
 refine hq dn db dm ?_ ?_ ?_ n3 n5 n4
 · rw [Sto.A4 _ _ n1.symm] at hdn; exact hdn
 · rw [Sto.A4 _ _ n3.symm,Sto.A4 _ _ n2.symm] at hdb; exact hdb
 · rw [Sto.A4 _ _ n4.symm,Sto.A4 _ _ n5.symm,Sto.A4 _ _ n6.symm] at hdm; exact hdm
end
theorem Alh {α:Type} [DecidableEq α] {f:List (Nat × Nat × α)} {k:Nat} {r:α}:(Aaf f k r).length<=f.length + 1:=by
 unfold Aaf
 split
 · split
   · rw [Bf1,Ch4]; exact Bg3 (Bx6 ..)
   · rw [Bf1]; exact Bh5 _
 · exact Bq7 ..
theorem Al1 {α:Type} [DecidableEq α]:∀ {rs:List α} {f:List (Nat × Nat × α)} {k:Nat},(Ac2 f k rs).length<=f.length + rs.length
 | [],f,k=>by simp [Ar8,Ahb]
 | r :: rs,f,k=>by
  rw [Ahb]
  have:=Al1 (rs:=rs) (f:=Aaf f k r) (k:=k + 1)
  have:=Alh (f:=f) (k:=k) (r:=r)
  simp only [Bh3]; lia
theorem Ack {α:Type} [DecidableEq α] {rs:List α}:(Aa rs).length<=rs.length:=by
 have:=Al1 (rs:=rs) (f:=[]) (k:=0)
 simpa [Aa] using this
set_option tactic.hygienic true in
theorem Ako {α:Type} [DecidableEq α]:∀ {rs f k} (P:α->Prop),(∀ x∈f,P x.2.2/\x.1<=x.2.1/\x.2.1 < k)->(∀ r∈rs,P r)->∀ x∈Ac2 f k rs,P x.2.2/\x.1<=x.2.1/\x.2.1 < k + rs.length
 | [],f,k,P,h1,h2,x,hx=>by simpa [Ar8,Ahb] using h1 x hx
 | r :: rs,f,k,P,h1,h2,x,hx=>by
  rw [Ahb] at hx
  have:=Ako (rs:=rs) (f:=Aaf f k r) (k:=k + 1) P (fun y hy=>?_) (fun q hq=>h2 q (.tail _ hq)) x hx
  · simp only [Bh3]; exact ⟨this.1,this.2.1,by have q:=this.2.2; rw [Bh2] at q; exact q⟩
  · have hr:=h2 r (.head _)
    unfold Aaf at hy
    split at hy
    · rename_i z hz
      have hzm:z∈f:=List.mem_of_getLast? hz
      split at hy
      · rcases Bh6.mp hy with hy | hy
        · have:=h1 y ((List.dropLast_sublist _).subset hy); exact ⟨this.1,this.2.1,by exact Bt4 this.2.2⟩
        · rw [Bf6.mp hy]
          have:=h1 z hzm
          exact ⟨hr,by dsimp only; exact Bk4 (Bg6 this.2.1 this.2.2),by dsimp only; exact Br0 _⟩
      · rcases Bh6.mp hy with hy | hy
        · have:=h1 y hy; exact ⟨this.1,this.2.1,by exact Bt4 this.2.2⟩
        · rw [Bf6.mp hy]; exact ⟨hr,Bh5 _,by dsimp only; exact Br0 _⟩
    · rw [Bf6.mp hy]; exact ⟨hr,Bh5 _,by dsimp only; exact Br0 _⟩
theorem Aak {α:Type} [DecidableEq α] {rs:List α} {x:Nat × Nat × α} (h:x∈Aa rs):x.2.2∈rs/\x.1<=x.2.1/\x.2.1 < rs.length:=by
 have:=Ako (rs:=rs) (f:=[]) (k:=0) (fun r=>r∈rs) (by simp) (fun r h=>h) x h
 simpa using this
theorem Ag7:∀ {ts t r},r∈(asked ts t).2->r.length<=t.length/\∀ v∈r,v∈t
 | [],t,r,h=>by
  rw [Afe] at h; rw [Bf6.mp h]; exact ⟨Bh5 _,fun v h=>h⟩
 | p :: ps,t,r,h=>by
  rw [Aaq] at h
  split at h
  · exact ⟨Ag3 h,fun v hv=>Ade h hv⟩
  · obtain ⟨r0,rs,hrs⟩:=Ad0 t p
    have h0:r0∈rowsOf t p:=by rw [hrs]; exact .head _
    rw [hrs] at h
    have:=Ag7 h
    exact ⟨Be7 this.1 (Ag3 h0),fun v hv=>Ade h0 (this.2 v hv)⟩
theorem Aam:∀ {ts t},(∀ p∈ts,p<=10)->(asked ts t).2.length<=11/\(asked ts t).2≠[]/\(asked ts t).1<=ts.length
 | [],t,h=>by simp [Afe,Aaq]
 | p :: ps,t,h=>by
  rw [Aaq]
  split
  · obtain ⟨r0,rs,hrs⟩:=Ad0 t p
    have:=h p (.head _)
    refine ⟨by simp [rowsOf]; exact r43 ‹_›,by rw [hrs]; simp,by simp⟩
  · have:=Aam (ts:=ps) (t:=(rowsOf t p).headD []) fun q hq=>h q (.tail _ hq)
    exact ⟨this.1,this.2.1,by simp only [Bh3]; lia⟩
set_option tactic.hygienic true in
theorem Aa5:∀ {ts t p},ts[(asked ts t).1]?=some p->(asked ts t).2.length=p + 1
 | [],t,p,h=>by simp [Afe,Aaq] at h
 | q :: qs,t,p,h=>by
  rw [Aaq] at h ⊢
  split at h
  · rename_i hd
    rw [if_pos hd]
    simp at h; subst h; simp [rowsOf]
  · rename_i hd
    rw [if_neg hd]
    exact Aa5 (by simpa using h)
noncomputable def szs:List Nat->Nat
 | []=>1
 | p :: ps=>(p + 1) * szs ps
theorem Ay6:szs []=1:=by intros; rfl
theorem Afu:∀ (p:Nat) (ps:List Nat),szs (p :: ps)=(p + 1) * szs ps:=by intros; rfl
theorem Ah:∀ ts:List Nat,0 < szs ts
 | []=>Nat.one_pos
 | p :: ps=>Nat.mul_pos (Bp9 p) (Ah ps)
theorem Adl {t p z} (h:t.length=(p + 1) * z) {r} (hr:r∈rowsOf t p):r.length=z:=by
 simp only [rowsOf,Bh1,Bk6] at hr
 obtain ⟨k,hk,rfl⟩:=hr
 have hd:t.length / (p + 1)=z:=by rw [h,Bj6 _ (Bp9 p)]
 rw [hd]
 simp only [slc,Bm1,Bo9,Bn4]
 have h1:z * (k + 1)<=t.length:=by rw [h,Br5 (p + 1)]; exact Bp0 _ hk
 rw [Br8 h1,Nat.mul_add,Nat.mul_one]; exact r22
set_option tactic.hygienic true in
theorem Aeq:∀ {ts t r},t.length=szs ts->r∈(asked ts t).2->r.length=szs (ts.drop ((asked ts t).1 + 1))
 | [],t,r,h,hr=>by
  rw [Afe] at hr; rw [Bf6.mp hr,h]; simp [Ay6,Afu]
 | p :: ps,t,r,h,hr=>by
  rw [Aaq] at hr ⊢
  split at hr
  · rename_i hd
    rw [if_pos hd]
    exact Adl h hr
  · rename_i hd
    rw [if_neg hd]
    obtain ⟨r0,rs,hrs⟩:=Ad0 t p
    have h0:r0∈rowsOf t p:=by rw [hrs]; exact .head _
    rw [hrs] at hr ⊢
    exact Aeq (Adl h h0) hr
noncomputable def Alm (st:List V) (x:V):V:=.tup (st ++ [.tup [.str "verdict",.tup [x,.str ""]]])
noncomputable def Abi (nums:List Int) (lo hi:Nat):Int × Int:=(((Aad nums lo hi).head?.getD (0,0)).1,((Aad nums lo hi).getLast?.getD (0,0)).2)
noncomputable def Ax (A1:List Nat) (nm:Nat->Str) (nums:Nat->List Int):Nat->Nat->List V->List V->List V
 | 0,_,_,_=>[]
 | f + 1,v,t,st=>
  if v + (asked (A1.drop v) t).1=3 then [Alm st (((asked (A1.drop v) t).2.headD []).headD .none)]
  else (Aa (asked (A1.drop v) t).2).flatMap fun x=>Ax A1 nm nums f (v + (asked (A1.drop v) t).1 + 1) x.2.2 (st ++ [Abp (nm (v + (asked (A1.drop v) t).1)) (Aaj (Abi (nums (v + (asked (A1.drop v) t).1)) x.1 x.2.1).1 (Abi (nums (v + (asked (A1.drop v) t).1)) x.1 x.2.1).2)])
theorem Ave:∀ (A1:List Nat) (nm:Nat->Str) (nums:Nat->List Int) (x:Nat) (x_1 x_2:List V),Ax A1 nm nums 0 x x_1 x_2=[]:=by intros; rfl
theorem Agt:∀ (A1:List Nat) (nm:Nat->Str) (nums:Nat->List Int) (x:Nat) (x_1 x_2:List V) (f:Nat),Ax A1 nm nums f.succ x x_1 x_2=if x + (asked (Cg4 x A1) x_1).fst=3 then [Alm x_2 (((asked (Cg4 x A1) x_1).snd.headD []).headD V.none)] else List.flatMap (fun x_3=>Ax A1 nm nums f (x + (asked (Cg4 x A1) x_1).fst + 1) x_3.snd.snd (x_2 ++ [Abp (nm (x + (asked (Cg4 x A1) x_1).fst)) (Aaj (Abi (nums (x + (asked (Cg4 x A1) x_1).fst)) x_3.fst x_3.snd.fst).fst (Abi (nums (x + (asked (Cg4 x A1) x_1).fst)) x_3.fst x_3.snd.fst).snd)])) (Aa (asked (Cg4 x A1) x_1).snd):=by intros; rfl
theorem Ajw {A1:List Nat} {nm:Nat->Str} {nums:Nat->List Int} (ht:∀ p∈A1,p<=10):∀ (f v:Nat) (t st:List V),(Ax A1 nm nums f v t st).length<=11 ^ f
 | 0,_,_,_=>by simp [Ave,Agt]
 | f + 1,v,t,st=>by
  rw [Agt]
  split
  · exact By2 (by simp)
  · have h1:(Aa (asked (A1.drop v) t).2).length<=11:=Be7 Ack (Aam fun p hp=>ht p (Ca3 hp)).1
    have:∀ (l:List (Nat × Nat × List V)) (g:Nat × Nat × List V->List V),(∀ x,(g x).length<=11 ^ f)->(l.flatMap g).length<=l.length * 11 ^ f:=by
     intro l g hg
     induction l with
     | nil=>simp
     | cons a l ih=>rw [Bs9,Bf1,Bh3,Nat.add_mul]; have:=hg a; rw [Nat.one_mul,Bl9]; exact Bo4 ih this
    refine Be7 (this _ _ fun x=>Ajw ht f _ _ _) ?_
    rw [Cl0,Br5]
    exact Bp0 _ h1
section
variable {w:World} {n:Nat} {σ:Sto} {A1:List Nat} {dn db dm lg pl:Addr} {D:List V}
theorem At8 {wl:Addr} {a:Wo} {les:List (Str × V)} {nm:Nat->Str} {nums:Nat->List Int} {Y:Str->Sto->Prop} (hw:σ wl=some (.A5 a.es)) (hlg:σ a.lg=some (.A5 les)) (h3:a.A1.length=3) (B9:∀ p∈a.A1,p<=10)
  (hnm:∀ v,v < 3->a.names[v]?=some (nm v)/\(Am les (nm v)).getD (.tup [])=.tup ((nums v).map .int)/\(nums v).length<=100/\(nums v=[]∨∀ p,a.A1[v]?=some p->p < (nums v).length)) :
  ∀ (f v:Nat) (t st:List V) (Q:V->Sto->Prop),v<=3->4<=v + f->f<=4->t.length<=1000->t.length=szs (a.A1.drop v)->st.length + f<=10->(∀ x∈t,B4 x)->Q (.lst (Ax a.A1 nm nums f v t st)) σ ->
    Fn (PM w) (n + 2 + f) (.ref 389) [.loc wl,.tup t,.int v,.tup st] σ Q Y:=by
 intro f
 induction f generalizing Y with
 | zero=>intro v t st Q h1 h2; exact absurd (Be7 h2 h1) (by decide)
 | succ f ih=>
  intro v t st Q hv hvf hf4 hl hsz hst hfl hq
  show Fn (PM w) (n + 2 + f + 1) _ _ _ _ _
  have Bd1:∀ r∈(asked (a.A1.drop v) t).2,r≠[]:=fun r hr e=>by
    have:=Aeq hsz hr
    rw [e] at this
    have:=Ah ((a.A1.drop v).drop ((asked (a.A1.drop v) t).1 + 1))
    simp at *; lia
  have hn1:n + 1<=n + 2 + f:=Be7 (Bm8 (n + 1)) (Bg9 (n + 2) f)
  refine B8 rfl rfl (Aqo fun _ _ _ _=>rfl) rfl fun R' Y' hR hY hRs hYs=>Fn.room (n:=n + 2) (Ac9 (n:=n) hw h3 B9 hv hl hfl ?_) (Bg9 ..)
  have hrl:=Aam (t:=t) (ts:=a.A1.drop v) fun p hp=>B9 p (Ca3 hp)
  rw [Agt] at hq
  refine Abz (dI (fun q=>?_) fun q=>?_)
  · rw [if_pos (Br9 q)] at hq
    obtain ⟨r0,rs,hrs⟩:=Cb9 hrl.2.1
    obtain ⟨x0,xs,hx0⟩:=Cb9 (Bd1 r0 (by rw [hrs]; exact .head _))
    rw [hrs,Bq5,hx0,Bq5] at hq
    exact Ab (k:=0) (d:=.tup r0) (.val _) (by rw [hrs]; rfl) (A6 (k:=0) (d:=x0) (by rw [hx0]; rfl) (Ald (.inr (hR hq)) (by simp only [Bh3,Bl1]; lia)))
  · have q:¬ v + (asked (a.A1.drop v) t).1=3:=fun e=>q (congrArg Int.ofNat e)
    rw [if_neg q] at hq
    have hat:v + (asked (a.A1.drop v) t).1 < 3:=by
      have:=hrl.2.2
      rw [Bo9] at this; exact Bu5 (Be7 (Bf3 this v) (Bm2 ((Bm0 (by rw [h3]; exact hv)).trans h3))) fun e=>q e
    refine .inr (Fn.room (n:=n + 1) (Afo (n:=n) (Be7 hrl.1 (by decide)) (fun r hr v hv=>hfl v ((Ag7 hr).2 v hv)) ?_) hn1)
    generalize hAT:v + (asked (a.A1.drop v) t).1=at_ at hq hat q ⊢
    obtain ⟨m1,m2,m3,m4⟩:=hnm at_ hat
    have Bao:∀ p,a.A1[at_]?=some p->(asked (a.A1.drop v) t).2.length=p + 1:=fun p hp=>Aa5 (by rw [List.getElem?_drop,hAT]; exact hp)
    have Bdp:∀ r∈(asked (a.A1.drop v) t).2,r.length=szs (a.A1.drop (at_ + 1)):=fun r hr=>by
      have:=Aeq hsz hr
      rw [Cc4] at this
      rw [this,<- hAT]; rfl
    have Azm:=Ajw (nm:=nm) (nums:=nums) B9 (f + 1) v t st
    rw [Agt,if_neg (hAT ▸ q),hAT] at Azm
    have h11:11 ^ (f + 1)<=11 ^ 4:=Ca7 (by decide) hf4
    obtain ⟨tp,htp⟩:∃ tp,a.A1[at_]?=some tp:=⟨_,Bf0 (h3 ▸ hat)⟩
    have hRl:=Bao tp htp
    generalize hR':(asked (a.A1.drop v) t).2=R at *
    generalize hG:(fun x:Nat × Nat × List V=>Ax a.A1 nm nums f (at_ + 1) x.2.2 (st ++ [Abp (nm at_) (Aaj (Abi (nums at_) x.1 x.2.1).1 (Abi (nums at_) x.1 x.2.1).2)]))=G at hq Azm
    refine Aky Avj (α:=List V) (fun _=>σ) (fun y=>[("world",.loc wl),("statements",.tup st),("at",.int at_),("found",.lst y)]) (fun xs y=>(∀ x∈xs,x∈Aa R)/\y ++ xs.flatMap G=(Aa R).flatMap G) _ [] rfl ⟨fun x h=>h,rfl⟩ (Sub.refl _) rfl ?_ ?_
    · rintro y ⟨_,e3⟩
      rw [List.flatMap_nil,Bh4] at e3
      rw [<- e3] at hq
      exact .go (hR hq)
    · rintro ⟨lo,hi,row⟩ xs y K hK ⟨e2,e3⟩
      obtain ⟨y1,y2,y3⟩:=Aak (e2 _ (.head _))
      dsimp only at y1 y2 y3
      rw [Bs9] at e3
      have hyl:y.length + (G (lo,hi,row)).length<=100000:=by
       rw [<- e3,Bf1,Bf1] at Azm
       exact Be7 (Be7 (Bf3 (Bg9 ..) _) (Be7 Azm h11)) (by decide)
      refine Fn.room (n:=n + 1) (Ann (n:=n) (lo:=lo) (hi:=hi) hw hlg m1 m2 (Be7 m3 (by decide)) (Bj3 hat (by decide)) ?_) hn1
      obtain ⟨z0,zs,hz⟩:∃ z0 zs,Aad (nums at_) lo hi=z0 :: zs:=by
       unfold Aad
       rcases m4 with m4 | m4
       · rw [if_pos m4]; exact ⟨_,_,rfl⟩
       · have:=m4 tp htp
         have hn0:nums at_≠[]:=by intro e; rw [e] at this; exact Cn2 _ this
         rw [if_neg hn0]
         refine Cb9 fun e=>?_
         have:=congrArg Bp5 e
         simp [slc] at this; rw [Br8 (Be7 (hRl ▸ y3:hi + 1<=tp + 1) ‹tp < (nums at_).length›)] at this; exact absurd (Nat.le_of_sub_eq_zero this) (Nat.not_le.mpr (Bp2 y2))
      obtain ⟨zl,hzl⟩:∃ zl,(Aad (nums at_) lo hi).getLast?=some zl:=⟨_,List.getLast?_eq_some_getLast (by rw [hz]; exact Bs2 _ _)⟩
      have hE:Abi (nums at_) lo hi=(z0.1,zl.2):=by
       unfold Abi; rw [hzl,hz]; rfl
      refine Ab (k:=0) (d:=Acq z0) (.val _) (by rw [hz]; rfl) (A6 (k:=0) rfl (Acd (d:=Acq zl) (.val _) (by rw [Bv8,hzl]; rfl) (A6 (k:=1) rfl (Abz (jI (Aaj z0.1 zl.2) ?_ (fun q hq=>by rw [Aaj,if_pos q] at hq; exact hq) fun q hq=>by rw [Aaj,if_neg q] at hq; exact hq)))))
      refine Ac hw rfl (Ab (k:=at_) (.val _) (by rw [Bf8,m1]; rfl) (Ald ?_ (by simp only [Bh3,Bl1]; lia)) (Bj3 hat (by decide)))
      have Bdh:row∈(asked (a.A1.drop v) t).2:=by rw [hR']; exact y1
      have hrm:=Ag7 Bdh
      refine ih (at_ + 1) row (st ++ [Abp (nm at_) (Aaj z0.1 zl.2)]) _ hat (by rw [<- hAT,Bh2]; exact Be7 hvf (Bi3 (Bg9 ..) _)) (Bl7 hf4) (Be7 hrm.1 hl) (Bdp row y1) (by rw [Bf1]; exact Be7 (Bm2 (Bh2 ..)) hst) (fun z hz=>hfl z (hrm.2 z hz)) ?_
      have hGx:G (lo,hi,row)=Ax a.A1 nm nums f (at_ + 1) row (st ++ [Abp (nm at_) (Aaj z0.1 zl.2)]):=by rw [<- hG]; dsimp only; rw [hE]
      rw [<- hGx]
      exact Aje (.val _) (.val _) (hK (y ++ G (lo,hi,row)) _ _ ⟨fun z hz=>e2 z (.tail _ hz),by rw [<- e3,Bj0]⟩ (Sub.refl _) rfl) hyl
end
structure Ent where
 name:Str
 top:Nat
 nums:List Int
noncomputable def Axi (e:Ent):V:=.tup [.str e.name,.int e.top,.tup (e.nums.map .int)]
noncomputable def Aet:List Ent:=[⟨"meta nfproto",1,[2,10]⟩,⟨"ip ecn",2,[]⟩,⟨"meta mark",2,[]⟩,⟨"icmp type",1,[]⟩,⟨"meta l4proto",2,[]⟩,⟨"ct state",2,[1,2,64]⟩,⟨"vlan id",2,[]⟩,⟨"ether type",1,[]⟩,⟨"arp operation",2,[]⟩,⟨"meta protocol",1,[]⟩,⟨"th sport",2,[]⟩,⟨"udp length",1,[]⟩]
section
variable {w:World} {n:Nat} {σ:Sto} {Q:V->Sto->Prop} {Y:Str->Sto->Prop}
theorem Ax7 (hq:∀ p,σ p=none->Q (.loc p) (σ.put p (.list (Aet.map Axi)))):Fn (PM w) (n + 1) (.ref 278) [] σ Q Y:=
 B8 rfl rfl (len0 rfl) rfl fun R' Y' hR hY hRs hYs=>.inl fun p hp=>hR (hq p hp)
theorem At0 (hq:∀ p ns,ns.length=66->σ p=none->Q (.loc p) (σ.put p (B2 ns))):Fn (PM w) (n + 1) (.ref 264) [] σ Q Y:=
 B8 rfl rfl (len0 rfl) rfl fun R' Y' hR hY hRs hYs=>.inl fun p hp=>hR (hq p [0,0,0,1,1,2,1,2,0,1,0,1,3,2,1,3,3,0,1,2,1,3,1,0,0,0,4,1,3,1,1,0,1,1,4,3,0,2,2,4,3,0,1,2,0,1,0,0,5,0,0,0,2,0,2,4,1,4,0,2,0,0,5,4,4,4] rfl hp)
end
section
variable {w:World} {n:Nat} {σ:Sto} {A1:List Nat} {dn db dm lg pl:Addr} {Q:V->Sto->Prop} {Y:Str->Sto->Prop}
theorem As0 {a b} (h:Fn (PM w) n (.ref 100) [Ba A1 dn db dm,a,b] σ Q Y):Fn (PM w) (n + 1) (.ref 321) [Ba A1 dn db dm,.str "make",.tup [a,b]] σ Q Y:=
 B8 rfl rfl (Ajq fun _ _ _=>rfl) rfl fun R' Y' hR hY hRs hYs=>Aw (dT (by decide) (A6 (k:=0) rfl (A6 (k:=1) rfl (Fn.mono h (fun _ _ q=>hR q) fun _ _ q=>hY q))))
theorem Arn {a b c d} (h:Fn (PM w) n (.ref 154) [Ba A1 dn db dm,a,b,c,d] σ Q Y):Fn (PM w) (n + 1) (.ref 321) [Ba A1 dn db dm,.str "test",.tup [a,b,c,d]] σ Q Y:=
 B8 rfl rfl (Ajq fun _ _ _=>rfl) rfl fun R' Y' hR hY hRs hYs=>Aw (dF (by decide) (Aw (dT (by decide) (A6 (k:=0) rfl (A6 (k:=1) rfl (A6 (k:=2) rfl (A6 (k:=3) rfl (Fn.mono h (fun _ _ q=>hR q) fun _ _ q=>hY q))))))))
theorem Ap1 {a b} (h:Fn (PM w) n (.ref 147) [Ba A1 dn db dm,a,b] σ Q Y):Fn (PM w) (n + 1) (.ref 321) [Ba A1 dn db dm,.str "read",.tup [a,b]] σ Q Y:=
 B8 rfl rfl (Ajq fun _ _ _=>rfl) rfl fun R' Y' hR hY hRs hYs=>Aw (dF (by decide) (Aw (dF (by decide) (Aw (dT (by decide) (A6 (k:=0) rfl (A6 (k:=1) rfl (Fn.mono h (fun _ _ q=>hR q) fun _ _ q=>hY q))))))))
theorem Ara {a} (h:Fn (PM w) n (.ref 161) [a] σ Q Y):Fn (PM w) (n + 1) (.ref 321) [Ba A1 dn db dm,.str "part",.tup [a]] σ Q Y:=
 B8 rfl rfl (Ajq fun _ _ _=>rfl) rfl fun R' Y' hR hY hRs hYs=>Aw (dF (by decide) (Aw (dF (by decide) (Aw (dF (by decide) (Aw (dT (by decide) (A6 (k:=0) rfl (Fn.mono h (fun _ _ q=>hR q) fun _ _ q=>hY q)))))))))
theorem Adr {a b c} (h:Fn (PM w) n (.ref 243) [Ba A1 dn db dm,a,b,c] σ Q Y):Fn (PM w) (n + 1) (.ref 321) [Ba A1 dn db dm,.str "chains",.tup [a,b,c]] σ Q Y:=
 B8 rfl rfl (Ajq fun _ _ _=>rfl) rfl fun R' Y' hR hY hRs hYs=>Aw (dF (by decide) (Aw (dF (by decide) (Aw (dF (by decide) (Aw (dF (by decide) (Aw (dT (by decide) (A6 (k:=0) rfl (A6 (k:=1) rfl (A6 (k:=2) rfl (Fn.mono h (fun _ _ q=>hR q) fun _ _ q=>hY q)))))))))))))
theorem Aim {a b c} (h:Fn (PM w) n (.ref 257) [Ba A1 dn db dm,a,b,c,.int 99] σ Q Y):Fn (PM w) (n + 1) (.ref 321) [Ba A1 dn db dm,.str "rules",.tup [a,b,c]] σ Q Y:=
 B8 rfl rfl (Ajq fun _ _ _=>rfl) rfl fun R' Y' hR hY hRs hYs=>Aw (dF (by decide) (Aw (dF (by decide) (Aw (dF (by decide) (Aw (dF (by decide) (Aw (dF (by decide) (A6 (k:=0) rfl (A6 (k:=1) rfl (A6 (k:=2) rfl (Fn.mono h (fun _ _ q=>hR q) fun _ _ q=>hY q)))))))))))))
theorem Aat {why what args} (h:Fn (PM w) n (.ref 321) [Ba A1 dn db dm,.str what,args] σ (fun _ _=>False) (fun y σ'=>Q (.bool (decide (y=why))) σ')) :
  Fn (PM w) (n + 1) (.ref 328) [Ba A1 dn db dm,.str why,.str what,args] σ Q Y:=by
 refine B8 rfl rfl (Aqo fun _ _ _ _=>rfl) rfl fun R' Y' hR hY hRs hYs=>?_
 refine Ap5 rfl rfl rfl rfl (by decide) rfl rfl rfl rfl ?_
 refine Ajo (Aqk (An1 321 rfl rfl (by kernel_rfl) rfl (fun _=>rfl) (fun _=>rfl) (Aeh (Ag0 _ (.inl rfl) rfl rfl rfl (Aeh (Ag0 _ (.inl rfl) rfl rfl rfl (Aeh (Ag0 _ (.inl rfl) rfl rfl rfl (Ali ?_)) fun _=>rfl)) fun _=>rfl)) fun _=>rfl)) fun _=>rfl)
 exact Fn.mono h (fun v σ' hf=>hf.elim) fun y σ' hy=>⟨why,rfl,hR hy⟩
end
noncomputable def Reads (w:World) (n:Nat) (a:Wo) (D:List V) (k:Nat) (c x:V):Prop:=∀ (σ':Sto) (Q:V->Sto->Prop) (Y:Str->Sto->Prop),σ' a.dn=some (.list D)->Q x σ'->Fn (PM w) n (.ref 147) [a.dia,.int k,c] σ' Q Y
theorem range_getD {l:List V}:(Bh8 l.length).map (fun j=>l.getD j .none)=l:=by
 apply List.ext_getElem?
 intro i
 by_cases h:i < l.length
 · simp [h]
 · simp [h]
theorem Ahy {l:List V} {m:Nat} (h:l.length=m):(Bh8 m).filterMap (fun j=>l[j]?)=l:=by
 have:∀ (l:List V),(Bh8 l.length).filterMap (fun j=>l[j]?)=l:=by
  intro l
  induction l with
  | nil=>rfl
  | cons a l ih=>
   rw [Bh3,By7,Bq2]
   simp only [List.getElem?_cons_zero,List.filterMap_map,Function.comp_def,List.getElem?_cons_succ]
   rw [ih]
 rw [<- h]; exact this l
section
variable {w:World} {n:Nat} {σ:Sto} {Q:V->Sto->Prop} {Y:Str->Sto->Prop}
theorem Aqs {T:List (List V)} {k:Nat} {t:List V} (ht:T[k]?=some t):Ap ((T.take k).map V.tup) ++ [(V.tup t,V.int k)]=Ap ((T.take (k + 1)).map V.tup):=by
 rw [Cd2,ht,Bg1]
 have:=Ajv (D:=(T.take k).map V.tup) (x:=V.tup t)
 rw [Be9,Bn4,Br8 (Bk4 (Bf7.mp ht).1)] at this
 exact this.symm
theorem Asx {T:List (List V)} {k:Nat} {t:List V} (hT:T.Nodup) (ht:T[k]?=some t):V.tup t ∉ (T.take k).map V.tup:=fun hm=>by
 obtain ⟨t',ht',e⟩:=Bh1.mp hm
 cases e
 have h2:(T.take (k + 1)).Nodup:=(List.take_sublist ..).nodup hT
 rw [Cd2,ht] at h2
 exact (Bm5.mp h2).2.2 _ ht' _ (.head _) rfl
theorem Anw {wl:Addr} {a:Wo} {D:List V} {T:List (List V)} (hw:σ wl=some (.A5 a.es)) (hD:σ a.dn=some (.list D)) (hDl:D.length=T.length) (hT:T.Nodup) (hl:T.length<=100) (hlen:∀ t∈T,t.length=a.cells.length) (hc:a.cells.length<=100)
   (Akq:∀ t∈T,V.keys t=true/\V.Bc t<=7) (hr:∀ (k:Nat) (t:List V),T[k]?=some t->∀ (j:Nat) (c x:V),a.cells[j]?=some c->t[j]?=some x->Reads w n a D k c x)
   (hq:∀ f,σ f=none->Q (.loc f) (σ.put f (.Ad (Ap (T.map .tup))))):Fn (PM w) (n + 1) (.ref 348) [.loc wl] σ Q Y:=by
 refine B8 rfl rfl (Aou fun _=>rfl) rfl fun R' Y' hR hY hRs hYs=>Al4 fun fa hfa=>?_
 have nw:=A7 hw hfa
 have nd:=A7 hD hfa
 have hw':∀ es,(σ.put fa (.Ad es)) wl=some (.A5 a.es):=fun es=>by rw [Sto.A4 _ _ nw]; exact hw
 have hD':∀ es,(σ.put fa (.Ad es)) a.dn=some (.list D):=fun es=>by rw [Sto.A4 _ _ nd]; exact hD
 have hc':a.cells.length<=100000:=Be7 hc (by decide)
 refine Ac (hw' _) rfl (Aa1 (.loc (hD' _)) (by rw [hDl]; exact Be7 hl (by decide)) (Aac (k:=T.length) (by rw [hDl]) ?_ (Be7 hl (by decide))))
 refine Ajz (u:=0) (α:=Nat) (fun k=>σ.put fa (.Ad (Ap ((T.take k).map .tup)))) (fun _=>[("world",.loc wl),("found",.loc fa)]) (fun k j=>j=k) 0 rfl rfl (Sub.refl _) rfl ?_ ?_
 · rintro _ rfl
   rw [Bk7,Ce5]
   exact .go (hR (hq fa hfa))
 · rintro _ k K hk hK rfl
   rw [Bk7] at hk
   obtain ⟨t,ht⟩:∃ t,T[k]?=some t:=⟨_,Bf0 hk⟩
   have htm:=Bf9 ht
   obtain ⟨ky1,ky2⟩:=Akq t htm
   refine Aij rfl (Ac (hw' _) rfl ?_)
   rw [show V.lst a.cells=.lst ((Bh8 a.cells.length).map fun j=>a.cells.getD j .none) by rw [range_getD]]
   refine Acy (fun j=>a.cells.getD j .none) (fun j=>t[j]?) _ rfl (by rw [Bk9]; exact hc') ?_ fun acc B1 i hi vs K1 K0 g1 g0=>?_
   · rw [Ahy (hlen t htm)]
     have Bcn:=Asx hT ht
     refine Aa7 (.val _) (by rw [hlen t htm]; exact hc') (Att (Sto.A0 ..) ky1 ky2 ?_)
     rw [Ab8,if_neg Bcn]
     refine Amm (Sto.A0 ..) ky1 ky2 (by rw [Ab8,if_neg Bcn]) ?_ ?_
     · rw [Sto.A9]
       exact hK (k + 1) _ _ rfl (by rw [Aqs ht]; exact Sub.refl _) rfl
     · rw [Ap,Be9,Cj3,Be9,Bn4]; exact Be7 (Bm3 ..) (Be7 hl (by decide))
   · have hi':=Bk6.mp hi
     obtain ⟨x,hx⟩:∃ x,t[i]?=some x:=⟨_,Bf0 (by rw [hlen t htm]; exact hi')⟩
     exact Ac (a:=wl) (by rw [Sto.A4 _ _ (A7 (hw' _) B1)]; exact hw' _) rfl (hr k t ht i _ x (by rw [Bj8,Bf0 hi']; rfl) hx _ _ _ (by rw [Sto.A4 _ _ (A7 (hD' _) B1)]; exact hD' _) (g1 _ _ hx (Sub.refl _)))
end
noncomputable def Bb:List Nat->List V->List Nat->Option V
 | [],t,_=>t.head?
 | p :: ps,t,x :: xs=>if dif (rowsOf t p) then (if p < x then none else Bb ps ((rowsOf t p).getD x []) xs) else Bb ps ((rowsOf t p).headD []) xs
 | _ :: _,_,[]=>none
theorem Aiq:∀ (x:List V) (p:Nat) (ps:List Nat) (x_3:Nat) (xs:List Nat),Bb (p :: ps) x (x_3 :: xs)=if dif (Mine.Internal.rowsOf x p)=true then if p < x_3 then none else Bb ps ((Mine.Internal.rowsOf x p).getD x_3 []) xs else Bb ps ((Mine.Internal.rowsOf x p).headD []) xs:=by intros; rfl
section
variable {w:World} {n:Nat} {σ:Sto} {Q:V->Sto->Prop} {Y:Str->Sto->Prop}
theorem Awp {wl:Addr} {a:Wo} {k:Nat} {t:List V} {vals:List Nat} (hw:σ wl=some (.A5 a.es)) (B9:∀ p∈a.A1,p<=10) (hsz:t.length=szs a.A1) (hl:t.length<=1000) (hf:∀ x∈t,B4 x) (h3:a.A1.length<=100) (hvl:vals.length=a.A1.length) (hv:∀ x∈vals,x<=100)
   (h1:Bb a.A1 t vals=none->∀ Q',Q' "a value past its variable's top" σ->Fn (PM w) n (.ref 147) [a.dia,.int k,.lst (tupI vals)] σ (fun _ _=>False) Q')
   (h2:∀ x,Bb a.A1 t vals=some x->∀ (Q':V->Sto->Prop) Y',Q' x σ->Fn (PM w) (n + 2) (.ref 147) [a.dia,.int k,.lst (tupI vals)] σ Q' Y') (hq:Q (.bool true) σ) :
   Fn (PM w) (n + 3) (.ref 353) [.loc wl,.tup [.int k,.tup t],.lst (tupI vals)] σ Q Y:=by
 have hn1:n + 1<=n + 2:=Bm8 _
 refine B8 rfl rfl (Ajq fun _ _ _=>rfl) rfl fun R' Y' hR hY hRs hYs=>A6 (k:=1) rfl (Ac hw rfl (Ado ?_))
 refine Anr (fun p:Nat=>V.int (p:Int)) (α:=List V) (fun _=>σ) (fun t'=>[("world",.loc wl),("one",.tup [.int k,.tup t]),("values",.lst (tupI vals)),("table",.tup t')])
   (fun u ps t'=>a.A1.drop u=ps/\t'.length=szs ps/\t'.length<=1000/\(∀ z∈t',B4 z)/\Bb ps t' (vals.drop u)=Bb a.A1 t vals) a.A1 t rfl
   ⟨rfl,hsz,hl,hf,rfl⟩ (Sub.refl _) rfl ?_ ?_
 · rintro u t' ⟨_,e3,e4,e5,e6⟩
   cases t' with
   | nil=>cases e3
   | cons x xs=>
   have hx:=e5 x (.head _)
   exact .go (Ac hw rfl (A6 (k:=0) rfl (h2 x (by rw [<- e6]; rfl) _ _ (A6 (k:=0) (d:=x) rfl (Ahn (.val _) (.val _) (dT rfl (hR hq)) hx.1 hx.1 (Be7 (Bt3 ..) (Be7 hx.2 (by decide))))))))
 · rintro u p ps t' K hK ⟨g0,e3,e4,e5,e6⟩
   obtain ⟨g1,g2⟩:=drop_cons g0
   have Bbx:p<=10:=B9 p (Bf9 g1)
   have hul:u < a.A1.length:=(Bf7.mp g1).1
   have hul':u < 1000000:=Bh0 hul (Be7 h3 (by decide))
   obtain ⟨xv,hxv⟩:∃ xv,vals[u]?=some xv:=⟨_,Bf0 (hvl ▸ hul)⟩
   have hvd:vals.drop u=xv :: vals.drop (u + 1):=by
    rw [Bj2 (hvl ▸ hul)]; congr 1
    rw [Bf0 (hvl ▸ hul)] at hxv; exact Bq9 hxv
   rw [hvd,Aiq] at e6
   obtain ⟨r0,rs,hrs⟩:=Ad0 t' p
   have hr0:r0∈rowsOf t' p:=by rw [hrs]; exact .head _
   have e5':∀ r∈rowsOf t' p,∀ v∈r,B4 v:=fun r hr v hv=>e5 v (Ade hr hv)
   have nxt:∀ r∈rowsOf t' p,Bb ps r (vals.drop (u + 1))=Bb a.A1 t vals->a.A1.drop (u + 1)=ps/\r.length=szs ps/\r.length<=1000/\(∀ z∈r,B4 z)/\Bb ps r (vals.drop (u + 1))=Bb a.A1 t vals:=
    fun r hr h=>⟨g2,Adl e3 hr,Be7 (Ag3 hr) e4,e5' r hr,h⟩
   refine Fn.room (n:=n + 1) (Alp (n:=n) e4 Bbx (Aij rfl ?_)) hn1
   refine Acy V.tup (fun r=>if r≠r0 then some (.tup r) else none) _ rfl (by rw [rowsOf,Be9,Bk9]; lia) (.inr (Aup (by rw [hrs]; rfl) e5' (.mk _ (.bool _) ?_))) fun acc B1 r hr vs K1 K0 h1 h0=>Ab (k:=0) (d:=.tup r0) (.val _) (by rw [hrs]; rfl) (Ap8 (e5' r hr) (e5' r0 hr0) (fun q=>h1 _ _ (if_pos q) (Sub.refl _)) fun q=>h0 _ (if_neg fun h=>h q) (Sub.refl _))
   have sv:∀ {P:V->Sto->Prop},P (.int xv) σ->Su (PM w) (n + 2) (.lst (tupI vals)) (.int u) σ P:=fun h=>Ab (k:=u) (d:=.int xv) (.val _) (by rw [tupI,Bf8,hxv]; rfl) h hul'
   cases hd:dif (rowsOf t' p) with
   | true=>
    rw [hd,if_pos rfl] at e6
    refine sv (Ahl (dI (fun hlt=>?_) fun hlt=>?_))
    · rw [if_pos (Bn1.mp hlt)] at e6
      exact Ac hw rfl (A6 (k:=0) rfl (Aat (n:=n + 1) (Ap1 (n:=n) (h1 e6.symm _ (by rw [decide_eq_true rfl]; exact hR hq)))))
    · have hlt:¬ p < xv:=fun h=>hlt (Bn1.mpr h)
      rw [if_neg hlt] at e6
      have hxl:xv < (rowsOf t' p).length:=by rw [rowsOf,Be9,Bk9]; exact r52 ‹_›
      have hrx:(rowsOf t' p)[xv]∈rowsOf t' p:=Bl6 _
      rw [Bj8,Bf0 hxl] at e6
      exact .mk _ (.bool _) (sv (Ab (k:=xv) (d:=.tup (rowsOf t' p)[xv]) (.val _) (by rw [Bf8,Bf0 hxl]; rfl) (hK _ _ _ (nxt _ hrx e6) (Sub.refl _) rfl) (Bg6 (hv _ (Bf9 hxv)) (by decide))))
   | false=>
    rw [hd,if_neg Bg5,hrs] at e6
    exact .mk _ (.bool _) (Ab (k:=0) (d:=.tup r0) (.val _) (by rw [hrs]; rfl) (hK r0 _ _ (nxt r0 hr0 e6) (Sub.refl _) rfl))
end
section
variable {w:World} {n:Nat} {σ:Sto} {Q:V->Sto->Prop} {Y:Str->Sto->Prop}
theorem Ad7 {l:List Nat} {p:Nat->Prop} [DecidablePred p] {f:Nat->V}:l.filterMap (fun k=>if p k then some (f k) else none)=(l.filter fun k=>decide (p k)).map f:=by
 induction l with
 | nil=>rfl
 | cons a l ih=>
  rw [Bq2,Cl4]
  by_cases h:p a
  · simp only [h,if_true,decide_true,Bg8,ih]
  · simp only [h,if_false,decide_false,Bp6,ih]
theorem Amp:∀ (ts:List Nat) (m:Int),ts.foldl (fun (m:Int) (p:Nat)=>m * ((p:Int) + 1)) m=m * (szs ts:Nat)
 | [],m=>by simp [Ay6,Afu]
 | p :: ps,m=>by
  rw [Bv0,Amp ps,Afu]; push_cast; rw [Int.mul_assoc]
theorem Ary {wl nl:Addr} {a:Wo} {es:List (V × V)} {i j v top:Nat} {ta tb:List V} {ps:List (Int × Nat × Nat)} (hw:σ wl=some (.A5 a.es)) (hnu:σ nl=some (.Ad es)) (h3:a.A1.length=3) (B9:∀ p∈a.A1,p<=10)
   (hla:ta.length=szs a.A1) (hlb:tb.length=szs a.A1) (hl:szs a.A1<=100) (hfa:∀ x∈ta,B4 x) (hfb:∀ x∈tb,B4 x)
   (htv:v < 3->a.A1[v]?=some top) (hv:v=min (asked a.A1 ta).1 (asked a.A1 tb).1)
   (hsp:v < 3->∀ (Q':V->Sto->Prop) Y',Q' (.tup [.int v,.lst (ps.map pcV)]) σ->Fn (PM w) (n + 3) (.ref 133) [a.dia,.tup [.int i,.int j]] σ Q' Y')
   (hne:ta≠tb->v < 3->∃ (l x y:Nat) (ra rb:List V),l<=top/\((Bh8 (top + 1)).filter fun k=>decide ((rowsOf (ta.take (szs (a.A1.drop v))) top)[k]?≠(rowsOf (tb.take (szs (a.A1.drop v))) top)[k]?))[0]?=some l ∧
     (rowsOf (ta.take (szs (a.A1.drop v))) top)[l]?=some ra/\(rowsOf (tb.take (szs (a.A1.drop v))) top)[l]?=some rb/\Am es (.tup (whole a.cells.length ra))=some (.int x)/\Am es (.tup (whole a.cells.length rb))=some (.int y) ∧
     V.keys (whole a.cells.length ra)=true/\V.Bc (whole a.cells.length ra)<=7/\V.keys (whole a.cells.length rb)=true/\V.Bc (whole a.cells.length rb)<=7/\ra≠[]/\rb≠[]/\ra.length<=a.cells.length/\rb.length<=a.cells.length/\unlike 0 ps=some ((l:Int),x,y))
   (hcl:a.cells.length<=100) (heq:ta=tb->unlike 0 ps=none) (hq:Q (.bool true) σ) :
   Fn (PM w) (n + 6) (.ref 358) [.loc wl,.loc nl,.tup [.int i,.tup ta],.tup [.int j,.tup tb]] σ Q Y:=by
 have la:ta.length<=100:=hla ▸ hl
 have lb:tb.length<=100:=hlb ▸ hl
 have two:2<=100000:=by decide
 have r2:n + 2<=n + 5:=Bf3 (by decide) n
 refine B8 rfl rfl (Aqo fun _ _ _ _=>rfl) rfl fun R' Y' hR hY hRs hYs=>A6 (k:=1) rfl (Fn.room (n:=n + 2) (Ac9 (n:=n) (v:=0) hw h3 B9 (Bi4 _) (Be7 la (by decide)) hfa ?_) r2)
 rw [Bo8,Bk7]
 refine A6 (k:=0) rfl (A6 (k:=1) rfl (Fn.room (n:=n + 2) (Ac9 (n:=n) (v:=0) hw h3 B9 (Bi4 _) (Be7 lb (by decide)) hfb ?_) r2))
 rw [Bo8,Bk7]
 refine A6 (k:=0) rfl (Af6 ?_)
 rw [show min ((asked a.A1 ta).1:Int) ((asked a.A1 tb).1:Int)=(v:Int) by rw [hv]; exact r15]
 refine Abz (dI (fun _=>hR hq) fun q3=>?_)
 have hv3:v < 3:=by
   have:=(Aam (t:=ta) B9).2.2
   exact Bu5 (by rw [hv,<- h3]; exact Be7 (Bt3 ..) this) fun e=>q3 (congrArg Int.ofNat e)
 have htp:=htv hv3
 have Bam:=B9 top (Bf9 htp)
 refine Ac hw rfl (A6 (k:=0) rfl (A6 (k:=0) rfl (Fn.room (n:=n + 3) (hsp hv3 _ _ (A6 (k:=1) rfl (A6 (k:=1) rfl (A6 (k:=1) rfl (Ahn (.val _) (.val _) (dI (fun qe=>?_) fun qe=>?_) (Aba hfa) (Aba hfb) (by have:=Ae3 hfa; simp only [V.dep]; lia)))))) (Bf3 (by decide) n))))
 · have qe:=V.tup.inj qe
   refine Ac hw rfl (Aat (n:=n + 4) (Ara (n:=n + 3) (Akl (n:=n) (fun l x y e=>?_) fun _=>by rw [decide_eq_true rfl]; exact hR hq)))
   rw [heq qe] at e; cases e
 · have qe:ta≠tb:=fun e=>qe (congrArg V.tup e)
   refine Ac hw rfl (Apk (lo:=some v) (hi:=none) (.val _) rfl rfl ?_ (by rw [tupI,Be9,h3]; decide))
   rw [show slc (some v) none (tupI a.A1)=(a.A1.drop v).map fun p:Nat=>V.int (p:Int) by rw [slc]; simp only [Bz6,Bm1,Ce5,tupI,List.map_drop]]
   refine Aky (fun p:Nat=>V.int (p:Int)) (α:=Int) (fun _=>σ) (fun x=>[("world",.loc wl),("numbers",.loc nl),("one",.tup [.int i,.tup ta]),("other",.tup [.int j,.tup tb]),("variable",.int v),("pieces",.lst (ps.map pcV)),("many",.int x)])
     (fun rs x=>(∀ p∈rs,p<=10)/\rs.foldl (fun (m:Int) (p:Nat)=>m * ((p:Int) + 1)) x=(szs (a.A1.drop v):Nat)) _ 1 rfl ⟨fun p hp=>B9 p (Ca3 hp),by rw [Amp,Int.one_mul]⟩ (Sub.refl _) rfl ?_ ?_
   · rintro x ⟨_,e2⟩
     rw [Ch7] at e2
     subst e2
     obtain ⟨l,x,y,ra,rb,l1,l2,l3,l4,l5,l6,l7,l8,l9,l10,l11,l12,l13,l14,l15⟩:=hne qe hv3
     generalize hRA:rowsOf (ta.take (szs (a.A1.drop v))) top=RA at *
     generalize hRB:rowsOf (tb.take (szs (a.A1.drop v))) top=RB at *
     have Ba7:RA.length=top + 1:=by rw [<- hRA,rowsOf,Be9,Bk9]
     have Bdg:RB.length=top + 1:=by rw [<- hRB,rowsOf,Be9,Bk9]
     have fa:∀ r∈RA,∀ z∈r,B4 z:=fun r hr z hz=>hfa z (Ch3 (Ade (by rw [hRA]; exact hr) hz))
     have fb:∀ r∈RB,∀ z∈r,B4 z:=fun r hr z hz=>hfb z (Ch3 (Ade (by rw [hRB]; exact hr) hz))
     have tl:top + 1<=100000:=Bg3 (Be7 Bam (by decide))
     have vl:v < 1000000:=Bj3 hv3 (by decide)
     refine .go (Awu rfl ?_)
     refine Aij rfl (Acx (β:=Nat × List V × List (List V)) (fun x=>.tup [.int x.1,.tup x.2.1]) (fun x=>.lst (x.2.2.map .tup)) [(i,ta,RA),(j,tb,RB)] rfl two ?_ fun acc B1 x hx vs K hK=>?_)
     rotate_left
     · obtain ⟨hxl,hxr⟩:=all2 (p:=fun x:Nat × List V × List (List V)=>x.2.1.length<=100/\rowsOf (x.2.1.take (szs (a.A1.drop v))) top=x.2.2) ⟨la,hRA⟩ ⟨lb,hRB⟩ x hx
       have e:slc none (some (szs (a.A1.drop v))) x.2.1=x.2.1.take (szs (a.A1.drop v)):=by rw [slc]; simp only [Bz6,Bm1,Bo8]
       refine A6 (k:=1) rfl (Am8 (lo:=none) (hi:=some (szs (a.A1.drop v))) rfl rfl (Ac (a:=wl) (by rw [Sto.A4 _ _ (A7 hw B1)]; exact hw) rfl (Ab (k:=v) (.val _) (by rw [tupI,Bf8,htp]; rfl) (Fn.room (n:=n + 1) (Alp (n:=n) (Be7 (Ahd ..) (Be7 hxl (by decide))) Bam ?_) (Bf3 (by decide) n)) vl)) (Be7 hxl (by decide)))
       rw [e,hxr]; exact hK _ (Sub.refl _)
     refine Aij rfl (Ab (k:=0) (.val _) rfl (Aa1 (.val _) (by rw [Be9]; exact Ba7 ▸ tl) (Aac (k:=top + 1) (by rw [Be9]; exact congrArg _ Ba7) ?_ (Be7 tl (by decide)))))
     rw [Acs]
     refine Acy _ (fun k=>if RA[k]?≠RB[k]? then some (.int (k:Nat)) else none) (Bh8 (top + 1)) rfl (by rw [Bk9]; exact tl) ?_ fun acc B1 k hk vs K1 K0 h1 h0=>?_
     rotate_left
     · have hk':k < top + 1:=Bk6.mp hk
       have e1:RA[k]?=some RA[k]:=Bf0 (Ba7 ▸ hk')
       have e2:RB[k]?=some RB[k]:=Bf0 (Bdg ▸ hk')
       have kl:k < 1000000:=Bh0 hk' (Be7 tl (by decide))
       rw [Int.zero_add]
       refine Ab (k:=0) (.val _) rfl (Ab (k:=k) (d:=.tup RA[k]) (.val _) (by rw [Bf8,e1]; rfl) (Ab (k:=1) (.val _) rfl (Ab (k:=k) (d:=.tup RB[k]) (.val _) (by rw [Bf8,e2]; rfl) (Ap8 (fa _ (Bl6 _)) (fb _ (Bl6 _)) (fun q=>h1 _ _ (if_pos ?_) (Sub.refl _)) fun q=>h0 _ (if_neg ?_) (Sub.refl _)) kl)) kl)
       · rw [e1,e2]; exact fun e=>q (Bq9 e)
       · rw [e1,e2,q]; exact fun e=>e rfl
     rw [Ad7]
     refine Ab (k:=0) (d:=.int l) (.val _) (by rw [Bf8,l2]; rfl) ?_
     refine Ax9 rfl rfl rfl (Acx (β:=List (List V) × List V × Nat) (fun z=>.lst (z.1.map .tup)) (fun z=>.int z.2.2) [(RA,ra,x),(RB,rb,y)] rfl two ?_ fun acc B1 z hz vs K hK=>?_)
     rotate_left
     · obtain ⟨z1,z2,z3,z4,z5,z6⟩:=all2 (p:=fun z:List (List V) × List V × Nat=>z.1[l]?=some z.2.1/\Am es (.tup (whole a.cells.length z.2.1))=some (.int z.2.2)/\V.keys (whole a.cells.length z.2.1)=true/\V.Bc (whole a.cells.length z.2.1)<=7/\z.2.1≠[]/\z.2.1.length<=a.cells.length) ⟨l3,l5,l7,l8,l11,l13⟩ ⟨l4,l6,l9,l10,l12,l14⟩ z hz
       exact Ab (k:=l) (d:=.tup z.2.1) (.val _) (by rw [Bf8,z1]; rfl) (Fn.room (n:=n + 1) (Aja (n:=n) (a:=a) (by rw [Sto.A4 _ _ (A7 hw B1)]; exact hw) (Be7 hcl (by decide)) z5 z6 (Ae8 (a:=nl) (by rw [Sto.A4 _ _ (A7 hnu B1)]; exact hnu) z3 z4 z2 (hK _ (Sub.refl _)))) (Bf3 (by decide) n)) (Bg6 l1 (Bg6 Bam (by decide)))
     refine Fn.room (n:=n + 3) (Akl (n:=n) (fun l' x' y' e=>?_) (fun e=>by rw [l15] at e; cases e)) (Bf3 (by decide) n)
     rw [l15] at e; cases e
     exact Ab (k:=0) (.val _) rfl (Ab (k:=1) (.val _) rfl (Ahn (.val _) (.val _) (dT rfl (hR hq)) rfl rfl (Bi6 rfl)))
   · rintro p rs x K hK ⟨hrs,e2⟩
     have hpp:p<=10:=hrs p (.head _)
     exact Auw (hK _ _ _ ⟨fun z hz=>hrs z (.tail _ hz),e2⟩ (Sub.refl _) rfl) (IntMulOk.of_right (intBits_le_64 (by lia) (by lia)))
end
noncomputable def Aa6 (f:List (Int × Int)) (p:Int × Int):List (Int × Int):=match f.getLast? with
 | some q=>if p.1<=q.2 + 1 then (if q.2 < p.2 then f.dropLast ++ [(q.1,p.2)] else f) else f ++ [p]
 | none=>[p]
noncomputable def Ajn (l:List (Int × Int)):List (Int × Int):=l.foldl Aa6 []
theorem Afj {f p}:(Aa6 f p).length<=f.length + 1:=by
 unfold Aa6
 split
 · split
   · split
     · rw [Bf1,Ch4]; exact Bg3 (Bx6 ..)
     · exact Bm8 _
   · rw [Bf1]; exact Bh5 _
 · exact Bq7 ..
noncomputable def Aan (top:Int) (y k:Nat) (x:List (Int × Nat) × Int) (p:Int × Int):List (Int × Nat) × Int:=
 if p.1<=top then (x.1 ++ (if x.2 < p.1 then [(p.1 - 1,k)] else []) ++ [(min p.2 top,y)],p.2 + 1) else x
noncomputable def Ago (top:Int) (y k:Nat) (l:List (Int × Int)):List (Int × Nat):=
 (l.foldl (Aan top y k) ([],0)).1 ++ (if (l.foldl (Aan top y k) ([],0)).2<=top then [(top,k)] else [])
section
variable {w:World} {n:Nat} {σ:Sto} {A1:List Nat} {dn db dm:Addr} {D:List V} {Q:V->Sto->Prop} {Y:Str->Sto->Prop}
theorem Avf {ps} (hl:ps.length<=5) (hq:∀ ps':List (Int × Int),ps'.Perm ps->ps'.Pairwise (fun a b=>a.1<=b.1)->Q (.lst ((Ajn ps').map Acq)) σ) :
   Fn (PM w) (n + 1) (.ref 65) [.lst (ps.map Acq)] σ Q Y:=by
 have lf:∀ {f:List (Int × Int)},f.length<=5->(f.map Acq).length<=100000:=fun h=>by rw [Be9]; exact Be7 h (by decide)
 refine B8 rfl rfl (Aou fun _=>rfl) rfl fun R' Y' hR hY hRs hYs=>.inl fun fa hfa=>As1 (.val _) hl (fun ps' hp hs=>?_)
 refine Aky prV (α:=List (Int × Int)) (fun f=>σ.put fa (.list (f.map Acq))) (fun f=>[("found",.loc fa)]) (fun rs f=>rs.foldl Aa6 f=Ajn ps'/\f.length + rs.length<=5) ps' [] rfl
   ⟨rfl,by rw [Bl1,Bk7,hp.length_eq]; exact hl⟩ (Sub.refl _) rfl ?_ ?_
 · rintro f ⟨e2,_⟩
   rw [Ch7] at e2
   subst e2
   exact .frz "found" rfl (Sto.A0 ..) (.go (hRs (Sub.del (Sub.new (Sub.refl _) hfa) hfa) (hq ps' hp hs)))
 · rintro p rs f K hK ⟨e2,e3⟩
   have e3':f.length + 1 + rs.length<=5:=by rw [Bh2]; exact e3
   have f1:f.length + 1<=5:=Be7 (Bg9 ..) e3'
   have hK:=fun σ' m'=>hK (Aa6 f p) σ' m' ⟨e2,Be7 (Bi3 Afj _) e3'⟩
   clear e2 e3 e3'
   refine .mk _ (.list (.loc (Sto.A0 ..)) (lf (Bl7 f1))) ?_
   induction f using snoc with
   | h0=>
    refine Af (Sto.A0 ..) (Ae (Sto.A0 ..) (hK _ _ ?_ rfl) (Bi4 _))
    rw [Sto.A9]; exact Sub.refl _
   | h1 fs y=>
    rw [show (!((fs ++ [y]).map Acq).isEmpty)=true by rw [Bg1]; exact congrArg (!·) Arh]
    have hst:Aa6 (fs ++ [y]) p=if p.1<=y.2 + 1 then (if y.2 < p.2 then fs ++ [(y.1,p.2)] else fs ++ [y]) else fs ++ [y] ++ [p]:=by unfold Aa6; rw [Ca4,Bs8]
    refine Acd (.loc (Sto.A0 ..)) (getL _) (A6 (k:=1) rfl (Aj8 (dI (fun q1=>?_) fun q1=>?_)))
    · rw [if_pos q1] at hst
      refine Acd (.loc (Sto.A0 ..)) (getL _) (A6 (k:=1) rfl (Ahl (dI (fun q2=>?_) fun q2=>?_)))
      · rw [if_pos q2] at hst
        refine Acd (.loc (Sto.A0 ..)) (getL _) (A6 (k:=0) rfl (Ahf (Sto.A0 ..) (.inr ⟨rfl,rfl⟩) (Bba _) (hK _ _ ?_ rfl)))
        rw [Sto.A9,hst]; exact (Bbr (x:=y) (y:=(y.1,p.2)) Acq).symm ▸ Sub.refl _
      · rw [if_neg q2] at hst
        exact hK _ _ (by rw [hst]; exact Sub.refl _) rfl
    · rw [if_neg q1] at hst
      refine Af (Sto.A0 ..) (Ae (Sto.A0 ..) (hK _ _ ?_ rfl) (lf (Bl7 f1)))
      rw [Sto.A9,hst,Bg1 (f:=Acq) (l₁:=fs ++ [y])]; exact Sub.refl _
theorem Akk {top y k x p}:(Aan top y k x p).1.length<=x.1.length + 2:=by
 unfold Aan
 split
 · dsimp only
   rw [Bf1,Bf1]
   split
   · exact Bh5 _
   · exact Bg3 (Bm8 _)
 · exact Bg9 ..
theorem Ak7:∀ (l f:List (Int × Int)),(l.foldl Aa6 f).length<=f.length + l.length
 | [],f=>Bh5 _
 | a :: r,f=>Be7 (Ak7 r (Aa6 f a)) (Be7 (Bi3 Afj _) (Bm2 (Bh2 ..)))
theorem Apb {l}:(Ajn l).length<=l.length:=Be7 (Ak7 l []) (Bm2 (Bk7 _))
theorem Awo {P m f v0 v1 a ds} (hx:σ a=some (.list ds)) (h:Fn P m f [v0,v1,.lst ds] (σ.del a) Q Y):Fn P m f [v0,v1,.loc a] σ Q Y:=
 fun A st B g s vals R hv hm=>by
  obtain ⟨h1,h2,o,h3,hc,items,n,hd,hi,_⟩:=R.sto a _ hx
  have R':RepC P B g A st (σ.del a) s:=R.forget fun b y e=>by
   unfold Sto.del at e; split at e
   · cases e
   · exact e
  have gs:=Aa4 (a:=a) R.fz
  have R2:=R'.grow h3 h2 (by simp [Sto.del]) fun f=>by have q:=f.1; rw [hc] at q; exact absurd q (by decide)
  cases hv with
  | cons a0 t=>
  cases t with
  | cons a1 t=>
  cases t with
  | cons a2 t=>
  cases t; cases a2
  refine Bp4 (h A st B _ s _ R2 (.cons (a0.mono gs) (.cons (a1.mono gs) (.one (.lst (Abt.trans h3) hc hd (hi.mono gs))))) hm) fun r s' q=>?_
  cases r with
  | ok f=>
   cases f with
   | ret v=>obtain ⟨g',σ',d,a,b,c,e⟩:=q; exact ⟨g',σ',d,A3 gs a,b,c,e⟩
   | _=>exact q
  | error e=>obtain ⟨g',σ',why,ea,a,b,c,d,e⟩:=q; exact ⟨g',σ',why,ea,A3 gs a,b,c,d,e⟩
theorem Arz {v top y k ly lk:Nat} {hy ay hk ak:V} {ps:List (Int × Int)} (h:σ dn=some (.list D)) (hDy:D[y]?=some (.tup [hy,ay])) (hDk:D[k]?=some (.tup [hk,ak])) (hy':y < 1000) (hk':k < 1000)
   (dy:hy.dat=true) (dy':hy.dep<=40) (dk:hk.dat=true) (dk':hk.dep<=40) (hly:As9 A1 hy=.int ly) (hlk:As9 A1 hk=.int lk) (ht:A1[v]?=some top) (hv:v < 100) (htl:A1.length<=100) (hl:ps.length<=5)
   (h1:min ly lk<=v->Y "a test ahead of which another stands" σ)
   (h2:v < min ly lk->∀ ps':List (Int × Int),ps'.Perm ps->ps'.Pairwise (fun a b=>a.1<=b.1)->Fn (PM w) (n + 3) (.ref 100) [Ba A1 dn db dm,.int v,.lst ((Ago top y k (Ajn ps')).map Av)] σ Q Y) :
   Fn (PM w) (n + 4) (.ref 154) [Ba A1 dn db dm,.int v,.lst (ps.map Acq),.int y,.int k] σ Q Y:=by
 have r1:n + 1<=n + 3:=Bf3 (by decide) n
 refine B8 rfl rfl (Baz fun _ _ _ _ _=>rfl) rfl fun R' Y' hR hY hRs hYs=>Fn.room (n:=n + 1) (Afy h hDy hy' dy dy' ?_ htl) r1
 rw [hly]
 refine Fn.room (n:=n + 1) (Afy h hDk hk' dk dk' ?_ htl) r1
 rw [hlk]
 refine Af6 (Aj8 (dI (fun q=>hY (h1 (by exact r21 ‹_›))) fun q=>A6 (k:=v) (by rw [tupI,Bf8,ht]; rfl) (.inl fun pa hpa=>Fn.room (n:=n + 1) (Avf hl (fun ps' hp hs=>?_)) r1) (Bj3 hv (by decide))))
 have htl:=Apb (l:=ps')
 rw [hp.length_eq] at htl
 have h2':=h2 (by exact Bn1.mp (by rw [<- r15]; exact Bx7.mp q)) ps' hp hs
 unfold Ago at h2'
 generalize Ajn ps'=T at *
 have lf:∀ {f:List (Int × Nat)},f.length<=11->(f.map Av).length<=100000:=fun h=>by rw [Be9]; exact Be7 h (by decide)
 refine Aky Acq (α:=List (Int × Nat) × Int) (fun x=>σ.put pa (.list (x.1.map Av))) (fun x=>[("diagrams",Ba A1 dn db dm),("variable",.int v),("yes",.int y),("no",.int k),("top",.int top),("parts",.loc pa),("at",.int x.2)])
   (fun rs x=>rs.foldl (Aan top y k) x=T.foldl (Aan top y k) ([],0)/\x.1.length + 2 * rs.length<=10) T ([],0) rfl ⟨rfl,by rw [Bl1]; lia⟩ (Sub.refl _) rfl ?_ ?_
 · rintro ⟨l,at_⟩ ⟨e2,e3⟩
   rw [Ch7] at e2
   rw [<- e2] at h2'
   have e3:l.length<=10:=e3
   dsimp only at h2'
   have fin:∀ {l':List (Int × Nat)},Fn (PM w) (n + 3) (.ref 100) [Ba A1 dn db dm,.int v,.lst (l'.map Av)] σ Q Y->Fn (PM w) (n + 3) (.ref 100) [Ba A1 dn db dm,.int v,.loc pa] (σ.put pa (.list (l'.map Av))) R' Y':=fun h=>
     Awo (Sto.A0 ..) (by rw [Sto.Abm hpa]; exact Fn.mono h (fun _ _ q=>hR q) fun _ _ q=>hY q)
   refine .go (Aj8 (dI (fun qa=>?_) fun qa=>?_))
   · rw [if_pos qa] at h2'
     refine Af (Sto.A0 ..) (Ae (Sto.A0 ..) ?_ (lf (Bk0 e3)))
     rw [Sto.A9]
     have:=fin h2'
     rw [Bg1] at this
     exact this
   · rw [if_neg qa,Bh4] at h2'
     exact fin h2'
 · rintro p rs ⟨l,at_⟩ K hK ⟨e2,e3⟩
   have hK:=fun σ' m'=>hK (Aan top y k (l,at_) p) σ' m' ⟨e2,by have:=Akk (top:=top) (y:=y) (k:=k) (x:=(l,at_)) (p:=p); rw [Bh3] at e3; exact Be7 (Bi3 this _) (by rw [Bt5] at e3; rw [Bh2]; exact e3)⟩
   have e3:l.length<=10:=Be7 (Bg9 ..) e3
   unfold Aan at hK
   dsimp only at hK
   refine Aj8 (dI (fun q1=>?_) fun q1=>?_)
   · rw [if_pos q1] at hK
     refine Ahl (dI (fun q2=>?_) fun q2=>?_)
     · rw [if_pos q2] at hK
       refine Af (Sto.A0 ..) (Ae (Sto.A0 ..) ?_ (lf (Bk0 e3)))
       rw [Sto.A9]
       refine Af (Sto.A0 ..) (Af6 (Ae (Sto.A0 ..) (hK _ _ ?_ rfl) ?_))
       · rw [Sto.A9,Bg1,Bg1]; exact Sub.refl _
       · rw [Bf1,Be9]; exact Be7 (Bg3 e3) (by decide)
     · rw [if_neg q2,Bh4] at hK
       refine Af (Sto.A0 ..) (Af6 (Ae (Sto.A0 ..) (hK _ _ ?_ rfl) (lf (Bk0 e3))))
       rw [Sto.A9,Bg1]; exact Sub.refl _
   · rw [if_neg q1] at hK
     exact hK _ _ (Sub.refl _) rfl
end
noncomputable def Ahg (σ:Sto):List Addr->List O->Sto
 | a :: as,x :: xs=>Ahg (σ.put a x) as xs
 | _,_=>σ
theorem Ag5:∀ {ks vs σ a},a ∉ ks->Ahg σ ks vs a=σ a
 | [],_,_,_,_=>rfl
 | _ :: _,[],_,_,_=>rfl
 | k :: ks,x :: xs,σ,a,h=>by
  rw [Bh7,not_or] at h
  exact (Ag5 h.2).trans (Sto.A4 _ _ h.1)
theorem Aag {ks vs σ} (i:Nat) {a x} (n:ks.Nodup) (h:ks[i]?=some a) (h2:vs[i]?=some x):Ahg σ ks vs a=some x:=by
 induction ks generalizing vs σ i with
 | nil=>cases h
 | cons k ks ih=>
  cases vs with
  | nil=>cases h2
  | cons y ys=>
   cases i with
   | zero=>cases h; cases h2; exact (Ag5 (Br7.mp n).1).trans (Sto.A0 ..)
   | succ i=>exact ih i (Br7.mp n).2 h h2
theorem Akg:∀ {ks vs σ a y},a ∉ ks->(Ahg σ ks vs).put a y=Ahg (σ.put a y) ks vs
 | [],_,_,_,_,_=>rfl
 | _ :: _,[],_,_,_,_=>rfl
 | k :: ks,x :: xs,σ,a,y,h=>by
  rw [Bh7,not_or] at h
  refine (Akg h.2).trans ?_
  rw [Sto.Ao _ _ _ (Bq1 h.1)]; rfl
theorem Aef {ks vs σ} (i:Nat) {a x y} (n:ks.Nodup) (h:ks[i]?=some a) (h2:vs[i]?=some x):(Ahg σ ks vs).put a y=Ahg σ ks (vs.set i y):=by
 induction ks generalizing vs σ i with
 | nil=>cases h
 | cons k ks ih=>
  cases vs with
  | nil=>cases h2
  | cons z zs=>
   cases i with
   | zero=>
    cases h; cases h2
    refine (Akg (Br7.mp n).1).trans ?_
    rw [Sto.A9]; rfl
   | succ i=>exact ih i (Br7.mp n).2 h h2
theorem Ac7 {ks vs σ a} (e:ks.length=vs.length) (h:Ahg σ ks vs a=none):a ∉ ks/\σ a=none:=by
 induction ks generalizing vs σ with
 | nil=>exact ⟨Bj1,h⟩
 | cons k ks ih=>
  cases vs with
  | nil=>cases e
  | cons x xs=>
   obtain ⟨h1,h2⟩:=ih (Ca8 e) h
   have n:a≠k:=fun q=>by rw [q,Sto.A0] at h2; cases h2
   rw [Sto.A4 _ _ n] at h2
   exact ⟨fun m=>(Bh7.mp m).elim n h1,h2⟩
theorem Aco {ks:List Addr} {a:Addr} (n:ks.Nodup) (h:a ∉ ks):(ks ++ [a]).Nodup:=
 Bm5.mpr ⟨n,nd1,fun x hx y hy e=>h (by rw [<- Bf6.mp hy,<- e]; exact hx)⟩
theorem Sub.none {σ σ'} (h:Sub σ σ') {b} (hb:σ' b=none):σ b=none:=by
 cases q:σ b with
 | none=>rfl
 | some x=>rw [h b x q] at hb; cases hb
theorem Ak9 {ks vs σ σ'} (h:Sub σ σ'):Sub (Ahg σ ks vs) (Ahg σ' ks vs):=by
 induction ks generalizing vs σ σ' with
 | nil=>exact h
 | cons k ks ih=>
  cases vs with
  | nil=>exact h
  | cons x xs=>exact ih (h.put k x)
section
variable {P:Pm} {n:Nat} {fx:Fx} {σ:Sto} {m:A8}
theorem Avz {en elt gens scope pos d c acc} (F:V->V) (hd:gens[d]?=some c) (hd1:gens[d + 1]?=none) (ha:c.is_async=0)
  (hgo:(∃ elts k pos,c.target=.Tuple elts k pos)∨((∀ it v,Bl4 c.target it v=pure ())/\en=false)):∀ (ds vs:List V) (Q:Sto->Prop),vs.length + ds.length<=100000 ->
  (∀ x∈ds,∀ vs,Bd P n fx c.target x (σ.put acc (.list vs)) m (fun σ1 m1=>Al5 m m1/\Ts P n fx c.ifs σ1 m1 (fun b σ2=>b=true/\Ev P n fx elt σ2 m1 (fun v σ3=>v=F x/\σ3=σ.put acc (.list vs)) noX)) noX) ->
  Q (σ.put acc (.list (vs ++ ds.map F)))->Cl P n fx en (.ListComp elt gens scope pos) d acc ds (σ.put acc (.list vs)) m Q:=by
 have hdc:∀ c'',gens[d + 1]?=some c''->c''.is_async=0:=fun c'' e=>by rw [hd1] at e; cases e
 intro ds
 induction ds with
 | nil=>exact fun vs Q hl hs hq=>Ai8 hd ha hdc (fun _ _ e=>nomatch e) hgo (fun _=>by rw [show vs ++ [].map F=vs from Bh4 vs] at hq; exact hq) (fun x r e=>nomatch e)
 | cons x r ih=>
  refine fun vs Q hl hs hq=>Ai8 hd ha hdc (fun _ _ e=>nomatch e) hgo (fun e=>nomatch e) (fun x' r' e=>?_)
  · cases e
    refine fun A st B g env s v he hr hm hv=>Bf2 (hs x (.head _) vs A st B g env s v he hr hm hv) (fun _ s' qM=>?_) fun _ _ x=>x
    obtain ⟨g',σ',m',hg,hr',hk,hq'⟩:=qM
    refine ⟨g',σ',m',hg,hr',hk,?_⟩
    refine JS.mono hq' (fun b σ'' m'' hh=>⟨hh.1,?_⟩) fun _ _ _ x=>x
    obtain ⟨e1,rfl,hh⟩:=hh
    rw [if_pos rfl,hd1]
    refine Ag hh fun v σ3 qM=>?_
    obtain ⟨h1,h2⟩:=qM
    subst h1; subst h2
    refine ⟨vs,Sto.A0 ..,r56 hl,?_⟩
    rw [Sto.A9]
    exact ih (vs ++ [F x]) Q (by rw [Bf1,Br4,Bl9 _ r.length]; exact hl) (fun y hy=>hs y (.tail _ hy)) (by rw [Bj0]; exact hq)
theorem Axs {en elt gens scope pos d c c' acc} (F:V->List V) (hd:gens[d]?=some c) (hd1:gens[d + 1]?=some c') (ha:c.is_async=0) (ha':c'.is_async=0)
  (hf:∀ env x,Bo6 c'.iter env x=pure x)
  (hgo:(∃ elts k pos,c.target=.Tuple elts k pos)∨((∀ it v,Bl4 c.target it v=pure ())/\en=false)):∀ (ds vs:List V) (Q:Sto->Prop),vs.length + (ds.flatMap F).length<=100000 ->
  (∀ x∈ds,∀ vs (Q':Sto->Prop),vs.length + (F x).length<=100000->Q' (σ.put acc (.list (vs ++ F x)))->Bd P n fx c.target x (σ.put acc (.list vs)) m (fun σ1 m1=>Al5 m m1/\Ts P n fx c.ifs σ1 m1 (fun b σ2=>b=true/\∃ en',Itr P n fx en' c'.iter σ2 m1 (fun ds' σ3=>Cl P n fx en' (.ListComp elt gens scope pos) (d + 1) acc ds' σ3 m1 Q') noX)) noX) ->
  Q (σ.put acc (.list (vs ++ ds.flatMap F)))->Cl P n fx en (.ListComp elt gens scope pos) d acc ds (σ.put acc (.list vs)) m Q:=by
 have hdc:∀ c'',gens[d + 1]?=some c''->c''.is_async=0:=fun c'' e=>by rw [hd1] at e; cases e; exact ha'
 intro ds
 induction ds with
 | nil=>exact fun vs Q hl hs hq=>Ai8 hd ha hdc (fun _ _ e=>nomatch e) hgo (fun _=>by rw [show vs ++ [].flatMap F=vs from Bh4 vs] at hq; exact hq) (fun x r e=>nomatch e)
 | cons x r ih=>
  refine fun vs Q hl hs hq=>Ai8 hd ha hdc (fun _ _ e=>nomatch e) hgo (fun e=>nomatch e) (fun x' r' e=>?_)
  cases e
  rw [Bs9,Bf1,<- Br4] at hl
  refine fun A st B g env s v he hr hm hv=>Bf2 (hs x (.head _) vs (fun σ4=>Cl P n fx en (.ListComp elt gens scope pos) d acc r σ4 m Q) (Be7 (Bg9 ..) hl) ?_ A st B g env s v he hr hm hv) (fun _ s' qM=>?_) fun _ _ x=>x
  · exact ih (vs ++ F x) Q (by rw [Bf1]; exact hl) (fun y hy=>hs y (.tail _ hy)) (by rw [Bj0,<- Bs9]; exact hq)
  · obtain ⟨g',σ',m',hg,hr',hk,hq'⟩:=qM
    refine ⟨g',σ',m',hg,hr',hk,?_⟩
    refine JS.mono hq' (fun b σ'' m'' hh=>⟨hh.1,?_⟩) fun _ _ _ x=>x
    obtain ⟨e1,rfl,en',hh⟩:=hh
    rw [if_pos rfl,hd1]
    exact ⟨hf,en',hh⟩
end
noncomputable def B6:List Nat->List (List Nat)
 | []=>[[]]
 | p :: ps=>(Bh8 (p + 1)).flatMap fun i=>(B6 ps).map (i :: ·)
noncomputable def Ajf (c:List Nat):V:=.tup (tupI c)
noncomputable def Az (es:List Ent):List (Str × V):=es.filterMap fun e=>if e.nums=[] then none else some (e.name,.tup (e.nums.map .int))
theorem Agx {α β:Type} (f:α->β):∀ l:List α,(l.map fun a=>[f a]).flatten=l.map f
 | []=>rfl
 | a :: r=>by rw [Bg8,Bm6,Agx f r]; rfl
theorem Au4 (a b c:Nat):(B6 [a,b,c]).map Ajf=(Ai7 0 (a + 1)).flatMap fun i=>(Ai7 0 (b + 1)).flatMap fun j=>(Ai7 0 (c + 1)).map fun k=>.tup [i,j,k]:=by
 simp only [B6,Acs,List.map_flatMap,List.flatMap_map,Bi5,Bg8,Bq4]
 congr 1
 funext i
 congr 1
 funext j
 rw [Ce8]
 simp [Ajf,tupI,Agx]
theorem Aks {α β:Type} (f:α->β):∀ (l:List α) (i:Nat),(l.map f).eraseIdx i=(l.eraseIdx i).map f
 | [],_=>rfl
 | a :: r,0=>rfl
 | a :: r,i + 1=>by simp [Aks f r i]
theorem Ahx {α:Type}:∀ (l:List α) (i:Nat) (e:α),l[i]?=some e->(e :: l.eraseIdx i).Perm l
 | [],i,e,h=>by simp at h
 | a :: r,0,e,h=>by simp at h; subst h; exact Ck8 _
 | a :: r,i + 1,e,h=>((List.Perm.swap a e (r.eraseIdx i))).trans ((Ahx r i e (by simpa using h)).cons a)
theorem Aom {es e} (h:e.name ∉ es.map (·.name)):Az (es ++ [e])=if e.nums=[] then Az es else dput (Az es) e.name (.tup (e.nums.map .int)):=by
 unfold Az
 rw [List.filterMap_append]
 by_cases q:e.nums=[]
 · simp [q]
 · rw [if_neg q]
   unfold dput
   rw [if_neg]
   · simp [q]
   · simp only [Bx1,Bx9,decide_eq_true_eq,not_exists,not_and]
     rintro kv ⟨x,hx,e1⟩ e2
     split at e1
     · cases e1
     · cases e1; exact h (e2 ▸ Bi7 hx)
theorem Aq5 {es}:(Az es).length<=es.length:=List.length_filterMap_le _ _
theorem Ai4:(Aet.map (·.name)).Nodup:=by decide +kernel
theorem Ae5:∀ e∈Aet,1<=e.top/\e.top<=2/\e.nums.length<=3/\(e.nums≠[]->e.nums.length=e.top + 1):=by decide +kernel
section
variable {w:World} {n:Nat} {σ:Sto} {Q:V->Sto->Prop} {Y:Str->Sto->Prop}
theorem Aq2 {c m en elt t it gens scope pos d c' acc} (F:V->List V) (hd:gens[d]?=some ⟨t,it,[],0⟩) (hd1:gens[d + 1]?=some c') (ha':c'.is_async=0)
  (hf:∀ env x,Bo6 c'.iter env x=pure x) (hgo:(goT t en && (Apd t).all fun x=>(vof m x).isNone)=true) (hX:c.X=noX) {ds vs Q} (hl:vs.length + (ds.flatMap F).length<=100000)
  (hs:∀ x∈ds,∀ vs (Q':Sto->Prop),vs.length + (F x).length<=100000->Q' (σ.put acc (.list (vs ++ F x)))->wBd c t x m fun m1=>wIt c c'.iter (σ.put acc (.list vs)) m1 fun en' ds' σ3=>Cl c.P c.n c.fx en' (.ListComp elt gens scope pos) (d + 1) acc ds' σ3 (vof m1) Q')
  (hq:Q (σ.put acc (.list (vs ++ ds.flatMap F)))):Cl c.P c.n c.fx en (.ListComp elt gens scope pos) d acc ds (σ.put acc (.list vs)) (vof m) Q:=by
 rw [Bg0] at hgo
 refine Axs F hd hd1 rfl ha' hf (Aif hgo.1) ds vs Q hl (fun x hx vs Q' h1 h2=>?_) hq
 have h:=hs x hx vs Q' h1 h2
 unfold wBd at h
 cases hb:bdT c.fx.sc t x m with
 | none=>rw [hb] at h; exact h.elim
 | some m1=>
  rw [hb] at h
  refine Ahq (c:=c) (F:=fun m'=>m'=m1) (by unfold wBd; rw [hb]) fun m' e=>?_
  subst e
  refine ⟨fun y v e=>?_,Ani ⟨rfl,by have:=(Akf h).1; rw [hX] at this; exact this⟩⟩
  rw [Aj4 hb]; exact e
  intro hy
  have:=Bj7.mp hgo.2 y hy
  rw [e] at this; cases this
theorem Atc {c m en elt t it gens scope pos d acc} (F:V->V) (hd:gens[d]?=some ⟨t,it,[],0⟩) (hd1:gens[d + 1]?=none)
  (hgo:(goT t en && (Apd t).all fun x=>(vof m x).isNone)=true) (hX:c.X=noX) {ds vs Q} (hl:vs.length + ds.length<=100000)
  (hs:∀ x∈ds,∀ vs K,K (F x) (σ.put acc (.list vs))->wBd c t x m fun m1=>wE c elt (σ.put acc (.list vs)) m1 K)
  (hq:Q (σ.put acc (.list (vs ++ ds.map F)))):Cl c.P c.n c.fx en (.ListComp elt gens scope pos) d acc ds (σ.put acc (.list vs)) (vof m) Q:=by
 rw [Bg0] at hgo
 refine Avz F hd hd1 rfl (Aif hgo.1) ds vs Q hl (fun x hx vs=>?_) hq
 have h:=hs x hx vs (fun v σ3=>v=F x/\σ3=σ.put acc (.list vs)) ⟨rfl,rfl⟩
 unfold wBd at h
 cases hb:bdT c.fx.sc t x m with
 | none=>rw [hb] at h; exact h.elim
 | some m1=>
  rw [hb] at h
  refine Ahq (c:=c) (F:=fun m'=>m'=m1) (by unfold wBd; rw [hb]) fun m' e=>?_
  subst e
  refine ⟨fun y v e=>?_,Ani ⟨rfl,by have:=(Aca c 40).1 _ _ _ _ h; rw [hX] at this; exact this⟩⟩
  rw [Aj4 hb]; exact e
  intro hy
  have:=Bj7.mp hgo.2 y hy
  rw [e] at this; cases this
theorem Bae {c m x p spos elt t it ifs cs scope pos N} (ok:Ae1 scope c.fx.sc=true) (hx:(match c.fx.sc.names.lookup x with | some .local=>true | _=>false)=true) (hsw:Aq4 c.fx.sc (.Name x p) (.ListComp elt (⟨t,it,ifs,0⟩ :: cs) scope pos) spos.line=some true)
   (h:wIt c it σ m fun en ds σ1=>∀ acc,σ1 acc=none->Cl c.P c.n ⟨Als scope c.fx.sc,true⟩ en (.ListComp elt (⟨t,it,ifs,0⟩ :: cs) scope pos) 0 acc ds (σ1.put acc (.list [])) (Alb scope (vof m)) fun σ2=>∃ vs,σ2 acc=some (.list vs)/\Kas x m N (.lst vs) (σ2.del acc)):ExA c x (.ListComp elt (⟨t,it,ifs,0⟩ :: cs) scope pos) p spos σ m N:=by
 obtain ⟨⟨en,hi⟩,hf⟩:=Akf h
 refine Aqm (en:=en) ok ?_ (An7 hi fun ds σ1 q acc B1=>?_) (fun env he=>Ajm hsw he) hf
 · revert hx
   cases c.fx.sc.names.lookup x with
   | none=>intro q; cases q
   | some k=>cases k <;> intro q <;> first | rfl | cases q
 · exact fun A st B g env s it he hr hm hi=>Bp4 (q acc B1 A st B g env s it he hr hm hi) fun r s2 hh=>by
    cases r with
    | ok f=>induction hh using BdP.casesOn with | mk g' σ' m' h1 h2 h3=>exact ⟨g',σ',m',h1,h2,h3.1,by obtain ⟨_,vs,e1,e2⟩:=h3; exact ⟨vs,e1,_,(Adc ..).symm,e2⟩⟩
    | error e=>exact hh
theorem Aqj {a b c} (ha:a<=2) (hb:b<=2) (hc:c<=2):((Ai7 0 (a + 1)).flatMap fun i=>(Ai7 0 (b + 1)).flatMap fun j=>(Ai7 0 (c + 1)).map fun k=>V.tup [i,j,k]).length<=100:=by
 rw [<- Au4,Be9]
 have:∀ a < 3,∀ b < 3,∀ c < 3,(B6 [a,b,c]).length<=100:=by decide +kernel
 exact this a (Bp2 ha) b (Bp2 hb) c (Bp2 hc)
theorem Au0 {pa:Addr} {ns:List Int} (h:σ pa=some (B2 ns)) (hl:ns.length<=66)
   (hq:∀ (es:List Ent) (ms:List Int) (a:Wo) (wl:Addr),es.length=3->(∃ rem:List Ent,(rem ++ es).Perm Aet)->ms.length<=66->a.names=es.map (·.name)->a.A1=es.map (·.top)->a.cells=(B6 a.A1).map Ajf ->
     [pa,a.lg,a.dn,a.db,a.dm,wl].Nodup->Q (.loc wl) (Ahg σ [pa,a.lg,a.dn,a.db,a.dm,wl] [B2 ms,.A5 (Az es),.list [],.Ad [],.A5 [],.A5 a.es])) :
   Fn (PM w) (n + 3) (.ref 290) [.loc pa] σ Q Y:=by
 have r1:n + 1<=n + 2:=Bm8 _
 refine B8 rfl rfl (Aou fun _=>rfl) rfl fun R' Y' hR hY hRs hYs=>Fn.room (n:=n + 1) (Ax7 fun po hpo=>.inl fun na hna=>.inl fun ta hta=>Aiy fun lg hlg=>?_) r1
 have hσ:σ=Ahg σ [pa] [B2 ns]:=(Sto.Acp h).symm
 rw [hσ] at hpo hna hta hlg
 obtain ⟨n1,hpo⟩:=Ac7 (ks:=[pa]) (vs:=[B2 ns]) rfl hpo
 obtain ⟨n2,hna⟩:=Ac7 (ks:=[pa,po]) (vs:=[B2 ns,_]) rfl hna
 obtain ⟨n3,hta⟩:=Ac7 (ks:=[pa,po,na]) (vs:=[B2 ns,_,_]) rfl hta
 obtain ⟨n4,hlg⟩:=Ac7 (ks:=[pa,po,na,ta]) (vs:=[B2 ns,_,_,_]) rfl hlg
 have K:[pa,po,na,ta,lg].Nodup:=Aco (Aco (Aco (Aco nd1 n1) n2) n3) n4
 refine Aac (k:=3) rfl ?_ (by decide)
 refine Ajz (u:=0) (α:=List Ent × List Ent × List Int) (fun x=>Ahg σ [pa,po,na,ta,lg] [B2 x.2.2,.list (x.1.map Axi),.list (x.2.1.map fun e=>V.str e.name),.list (x.2.1.map fun e=>V.int (e.top:Int)),.A5 (Az x.2.1)]) (fun x=>[("pen",.loc pa),("pool",.loc po),("names",.loc na),("tops",.loc ta),("legal",.loc lg)])
   (fun k x=>x.2.1.length=k/\(x.1 ++ x.2.1).Perm Aet/\x.2.2.length<=66) (Aet,[],ns) rfl ⟨rfl,Ck8 _,hl⟩ (by show Sub (Ahg (σ.put pa (B2 ns)) [po,na,ta,lg] [_,_,_,_]) _; rw [Sto.Acp h]; exact Sub.refl _) rfl ?_ ?_
 · rintro ⟨rem,es,ms⟩ ⟨e2,e3,e4⟩
   dsimp only at e2 e3 e4
   obtain ⟨e0,e1',e2',rfl⟩:∃ e0 e1 e2,es=[e0,e1,e2]:=Ajq (C:=fun es=>∃ e0 e1 e2:Ent,es=[e0,e1,e2]) (fun _ _ _=>⟨_,_,_,rfl⟩) es e2
   have Ajs:∀ e∈[e0,e1',e2'],e∈Aet:=fun e he=>e3.subset (Bh9 _ he)
   have in1:∀ {b:Addr} {r:List Addr} {x:O},b ∉ [pa] ++ r->σ b=none->Ahg σ [pa] [x] b=none:=fun h hb=>(Ag5 (ks:=[pa]) fun e=>h (Bi0 _ e)).trans hb
   have in2:∀ {b:Addr} {r:List Addr} {x y:O},b ∉ [pa] ++ r->b≠lg->σ b=none->Ahg σ [pa,lg] [x,y] b=none:=fun h h2 hb=>(Ag5 (ks:=[pa,lg]) fun e=>by
     cases e with
     | head=>exact h (Bi0 _ (.head _))
     | tail _ e=>exact h2 (Bf6.mp e)).trans hb
   have hA:Sub (Ahg σ [pa,lg] [B2 ms,.A5 (Az [e0,e1',e2'])]) (Ahg σ [pa,po,na,ta,lg] [B2 ms,.list (rem.map Axi),.list ([e0,e1',e2'].map fun e=>V.str e.name),.list ([e0,e1',e2'].map fun e=>V.int (e.top:Int)),.A5 (Az [e0,e1',e2'])]):=
     Sub.put (Sub.over (Sub.over (Sub.over (Sub.refl _) (in1 (r:=[]) n1 hpo)) (in1 (r:=[po]) n2 hna)) (in1 (r:=[po,na]) n3 hta)) lg _
   have nt:ta≠na:=fun e=>n3 (e ▸ .tail _ (.tail _ (.head _)))
   have hA2:=(hA.del (a:=na) (in2 (r:=[po]) n2 (fun e=>n4 (e ▸ .tail _ (.tail _ (.head _)))) hna)).del (a:=ta) (in2 (r:=[po,na]) n3 (fun e=>n4 (e ▸ .tail _ (.tail _ (.tail _ (.head _))))) hta)
   refine .frz "names" rfl (Aag 2 K rfl rfl) (.frz (ds:=[e0,e1',e2'].map fun e=>V.int (e.top:Int)) "tops" rfl ((if_neg nt).trans (Aag 3 K rfl rfl)) (.go ?_))
   generalize ((Ahg σ [pa,po,na,ta,lg] [B2 ms,.list (rem.map Axi),.list ([e0,e1',e2'].map fun e=>V.str e.name),.list ([e0,e1',e2'].map fun e=>V.int (e.top:Int)),.A5 (Az [e0,e1',e2'])]).del na).del ta=σ2 at hA2 ⊢
   have q0:=(Ae5 e0 (Ajs _ (.head _))).2.1
   have q1:=(Ae5 e1' (Ajs _ (.tail _ (.head _)))).2.1
   have q2:=(Ae5 e2' (Ajs _ (.tail _ (.tail _ (.head _))))).2.1
   have tr:∀ {a:Nat},a<=2->a + 1<=1000000:=fun h=>Be7 (Bg3 h) (by decide)
   refine Bae rfl rfl rfl (Ab (k:=0) (.val _) rfl (Aac (k:=e0.top + 1) rfl ?_ (tr q0)))
   intro acc B1
   rw [Adh]
   have lens:=Aqj q0 q1 q2
   refine Aq2 (c:=Cf.inC _ _) (fun i=>(Ai7 0 (e1'.top + 1)).flatMap fun j=>(Ai7 0 (e2'.top + 1)).map fun k=>V.tup [i,j,k]) rfl rfl rfl (fun _ _=>rfl) rfl rfl (vs:=[]) (by rw [Bl1,Bk7]; exact Be7 lens (by decide)) ?_ ?_
   · intro x hx vs Q' hl' hQ'
     refine Ab (k:=1) (.val _) rfl (Aac (k:=e1'.top + 1) rfl ?_ (tr q1))
     refine Aq2 (c:=Cf.inC _ _) (fun j=>(Ai7 0 (e2'.top + 1)).map fun k=>V.tup [x,j,k]) rfl rfl rfl (fun _ _=>rfl) rfl rfl hl' ?_ hQ'
     intro y hy vs Q' hl' hQ'
     refine Ab (k:=2) (.val _) rfl (Aac (k:=e2'.top + 1) rfl ?_ (tr q2))
     exact Atc (c:=Cf.inC _ _) (fun k=>V.tup [x,y,k]) rfl rfl rfl rfl (by rw [Be9] at hl'; exact hl') (fun z hz vs K hK=>by exact hK) hQ'
   · rw [Cb2,<- Au4]
     refine ⟨_,Sto.A0 ..,?_⟩
     rw [Sto.Abm B1]
     refine Afm ?_
     refine Aa7 (.val _) (Bi6 rfl) (Ayi (A1:=[e0.top,e1'.top,e2'.top]) fun dn db dm hdn hdb hdm d1 d2 d3=>?_)
     intro wl hwl
     have s1:=hA2.none hdn
     have s2:=hA2.none hdb
     have s3:=hA2.none hdm
     have s4:=(Ak9 (ks:=[dn,db,dm]) (vs:=[_,_,_]) hA2).none hwl
     obtain ⟨k1,_⟩:=Ac7 (ks:=[pa,lg]) rfl s1
     obtain ⟨k2,_⟩:=Ac7 (ks:=[pa,lg]) rfl s2
     obtain ⟨k3,_⟩:=Ac7 (ks:=[pa,lg]) rfl s3
     obtain ⟨k4,_⟩:=Ac7 (ks:=[pa,lg,dn,db,dm]) (vs:=[_,_,_,_,_]) rfl s4
     have K2:[pa,lg,dn,db,dm,wl].Nodup:=by
      refine Aco (ks:=[pa,lg,dn,db,dm]) (Aco (ks:=[pa,lg,dn,db]) (Aco (ks:=[pa,lg,dn]) (Aco (ks:=[pa,lg]) (Aco (ks:=[pa]) nd1 fun e=>?_) k1) fun e=>?_) fun e=>?_) k4
      · exact n4 (Bi0 [po,na,ta] e)
      · rcases Bh6.mp (show db∈[pa,lg] ++ [dn] from e) with e | e
        · exact k2 e
        · exact d1 (Bf6.mp e).symm
      · rcases Bh6.mp (show dm∈[pa,lg] ++ [dn,db] from e) with e | e
        · exact k3 e
        · cases e with
          | head=>exact d2 rfl
          | tail _ e=>exact d3 (Bf6.mp e).symm
     have:=hq [e0,e1',e2'] ms ⟨[e0,e1',e2'].map (·.name),[e0,e1',e2'].map (·.top),lg,(B6 [e0.top,e1'.top,e2'.top]).map Ajf,dn,db,dm⟩ wl rfl ⟨rem,e3⟩ e4 rfl rfl rfl K2
     exact hRs (Ak9 (ks:=[dn,db,dm,wl]) (vs:=[.list [],.Ad [],.A5 [],.A5 (Wo.es ⟨[e0,e1',e2'].map (·.name),[e0,e1',e2'].map (·.top),lg,(B6 [e0.top,e1'.top,e2'.top]).map Ajf,dn,db,dm⟩)]) hA2) this
 · rintro k ⟨rem,es,ms⟩ Kk hk hK ⟨e2,e3,e4⟩
   dsimp only at e2 e3 e4
   have hrl:rem.length + es.length=12:=by rw [<- Bf1,e3.length_eq]; rfl
   have esl:es.length<=2:=by rw [e2]; exact Bw2 (show k < 3 from hk)
   have hr0:0 < rem.length:=by exact By2 fun e=>by rw [e,Bk7,e2] at hrl; rw [hrl] at hk; exact absurd hk (by decide)
   have esl':es.length<=100000:=Be7 esl (by decide)
   have rml:rem.length<=100000:=Be7 (Be7 (Bg9 ..) (Bm2 hrl)) (by decide)
   refine Ake (Aag 1 K rfl rfl) (Aa1 (.loc (Aag 1 K rfl rfl)) (by rw [Be9]; exact rml) ?_)
   rw [Be9]
   refine Fn.room (n:=n + 1) (Ab0 (Aag 0 K rfl rfl) e4 hr0 fun i ms' hi hms=>?_) r1
   obtain ⟨e,he⟩:∃ e,rem[i]?=some e:=⟨_,Bf0 hi⟩
   have Ajs:e∈rem:=Bf9 he
   rw [Aef 0 K rfl rfl]
   refine Amf (ds:=rem.map Axi) (k:=i) (Aag 1 K rfl rfl) rfl (d:=Axi e) (by rw [Bf8,he]; rfl) ?_ (by rw [Be9]; exact rml)
   rw [Aef 1 K rfl rfl,Aks]
   refine Af (Aag 2 K rfl rfl) (Ae (ds:=es.map fun e=>V.str e.name) (Aag 2 K rfl rfl) ?_ (by rw [Be9]; exact esl'))
   rw [Aef 2 K rfl rfl]
   refine Af (Aag 3 K rfl rfl) (Ae (ds:=es.map fun e=>V.int (e.top:Int)) (Aag 3 K rfl rfl) ?_ (by rw [Be9]; exact esl'))
   rw [Aef 3 K rfl rfl]
   have hnd:e.name ∉ es.map (·.name):=fun hm=>by
     have:=(e3.map (·.name)).nodup_iff.mpr Ai4
     rw [Bg1,Bm5] at this
     exact this.2.2 _ (Bi7 Ajs) _ hm rfl
   have Aka:(rem.eraseIdx i ++ (es ++ [e])).Perm Aet:=by
     refine List.Perm.trans ?_ e3
     rw [<- Bj0]
     exact (List.perm_append_singleton e _).trans ((Ahx rem i e he).append_right es)
   have Azn:=Aom hnd
   have hI:(es ++ [e]).length=k + 1:=by rw [Bf1,e2]; rfl
   refine Afs (.val _) (.val _) (nI (fun qn=>?_) fun qn=>?_) (by rw [V.dat]; exact Ae6 _) rfl Aum
   · have qn:e.nums=[]:=Ci2.mp (V.tup.inj qn)
     rw [if_pos qn] at Azn
     refine hK (rem.eraseIdx i,es ++ [e],ms') _ _ ⟨hI,Aka,hms⟩ ?_ rfl
     show Sub (Ahg σ _ [_,_,.list ((es ++ [e]).map _),.list ((es ++ [e]).map _),.A5 (Az (es ++ [e]))]) _
     rw [Azn,Bg1,Bg1]
     exact Sub.refl _
   · have qn:¬ e.nums=[]:=fun q=>qn (by rw [q]; rfl)
     rw [if_neg qn] at Azn
     refine Afx (a:=lg) (es:=Az es) (Aag 4 K rfl rfl) ?_ (Be7 Aq5 esl')
     rw [Aef 4 K rfl rfl]
     refine hK (rem.eraseIdx i,es ++ [e],ms') _ _ ⟨hI,Aka,hms⟩ ?_ rfl
     show Sub (Ahg σ _ [_,_,.list ((es ++ [e]).map _),.list ((es ++ [e]).map _),.A5 (Az (es ++ [e]))]) _
     rw [Azn,Bg1,Bg1]
     exact Sub.refl _
end
noncomputable def rep (k:Nat) (s:List V):List V:=(Bg7 k s).flatten
theorem Aln (k:Nat) (s:List V):(rep k s).length=k * s.length:=by
 induction k with
 | zero=>simp [rep]
 | succ k ih=>unfold rep at ih ⊢; rw [Bn2,Bm6,Bf1,ih,Bx5,Bl9]
theorem Aly (s:List V):rep 1 s=s:=by simp [rep]
theorem Al8 (a b:Nat) (s:List V):rep (a + b) s=rep a s ++ rep b s:=by
 unfold rep; rw [<- By9,List.flatten_append]
theorem Aj0 (a b:Nat) (s:List V):rep a (rep b s)=rep (a * b) s:=by
 induction a with
 | zero=>simp [rep]
 | succ a ih=>rw [Bx5,Al8 a 1,Aly,Al8,ih]
theorem Aah (N:Nat) (t:List V):whole N t=rep (N / t.length) t:=rfl
theorem Afp {z:Nat}:∀ {S:List (List V)} (k:Nat),(∀ r∈S,r.length=z)->S.flatten.drop (z * k)=(S.drop k).flatten
 | S,0,h=>by simp
 | [],k + 1,h=>by simp
 | r :: S,k + 1,h=>by
  rw [Bm6,Bx3,Bt5,Bl9,<- Cc4]
  have:(r ++ S.flatten).drop z=S.flatten:=by rw [<- h r (.head _)]; simp
  rw [this]
  exact Afp k fun q hq=>h q (.tail _ hq)
theorem Abe {z:Nat}:∀ {S:List (List V)},(∀ r∈S,r.length=z)->S.flatten.length=S.length * z
 | [],_=>by simp
 | r :: S,h=>by rw [Bm6,Bf1,Abe fun q hq=>h q (.tail _ hq),h r (.head _),Bh3,Bx5,Bl9]
theorem Aeb {p z:Nat} {S:List (List V)} (hl:S.length=p + 1) (h:∀ r∈S,r.length=z):rowsOf S.flatten p=S:=by
 have hz:S.flatten.length / (p + 1)=z:=by rw [Abe h,hl,Bj6 _ (Bp9 p)]
 unfold rowsOf
 rw [hz]
 apply Bt8
 · simp [hl]
 · intro k h1 h2
   simp only [Cl2,Cj4,slc,Bm1]
   rw [Co2,Afp k h,Bj2 h2,Bm6,show z * (k + 1) - z * k=z by rw [Bt5]; exact r22]
   rw [<- h S[k] (Bl6 h2)]
   simp
theorem Ae0 {p z t} (h:t.length=(p + 1) * z):(rowsOf t p).flatten=t:=by
 have hz:t.length / (p + 1)=z:=by rw [h,Bj6 _ (Bp9 p)]
 unfold rowsOf
 rw [hz]
 have:∀ m,((Bh8 m).map fun k=>slc (some (z * k)) (some (z * (k + 1))) t).flatten=t.take (z * m):=by
  intro m
  induction m with
  | zero=>simp
  | succ m ih=>
   rw [List.range_succ,Bg1,List.flatten_append,ih]
   simp only [Bg8,Bq4,Bm6,Cl3,Bh4,slc,Bm1]
   rw [Co2,show z * (m + 1) - z * m=z by rw [Bt5]; exact r22,Bt5,List.take_add]
 rw [this,Br5,<- h,Ce5]
theorem Ad3 {r S} (h:dif (r :: S)=false):r :: S=Bg7 (S.length + 1) r:=by
 unfold dif at h
 rw [Bz0] at h
 refine Cg3.mpr ⟨rfl,fun b hb=>?_⟩
 have:=h b hb
 simpa using this
theorem Ala (k:Nat) (r:List V):dif (Bg7 k r)=false:=by
 unfold dif
 rw [Bz0]
 intro b hb
 obtain rfl:=Bo0 hb
 have:(Bg7 k b).headD []=b:=by
  cases k with
  | zero=>simp at hb
  | succ k=>rfl
 rw [this]; simp
theorem Aeo (t:List V) (p:Nat):(rowsOf t p).length=p + 1:=by simp [rowsOf]
theorem An8 {p u}:rowsOf (rep (p + 1) u) p=Bg7 (p + 1) u:=by
 unfold rep
 exact Aeb (z:=u.length) (Bu9 ..) fun r hr=>by rw [Bo0 hr]
theorem Apv {p ps u}:asked (p :: ps) (rep (p + 1) u)=((asked ps u).1 + 1,(asked ps u).2):=by
 rw [Aaq,An8,Ala,if_neg (by simp),Bn2,Bq5]
theorem Ao2 {p z ps S} (hl:S.length=p + 1) (h:∀ r∈S,r.length=z) (hd:dif S=true):asked (p :: ps) S.flatten=(0,S):=by
 rw [Aaq,Aeb hl h,if_pos hd]
theorem Al:∀ (ts:List Nat) (d:Nat),szs (ts.drop d) ∣ szs ts
 | ts,0=>Nat.dvd_refl _
 | [],d + 1=>Nat.dvd_refl _
 | p :: ps,d + 1=>Nat.dvd_trans (Al ps d) (Nat.dvd_mul_left _ _)
theorem Ab2 {t} (h:0 < t.length):whole t.length t=t:=by rw [Aah,Nat.div_self h,Aly]
theorem Aes {a N s} (h0:0 < s.length) (h:s.length ∣ N):whole (a * N) s=rep a (whole N s):=by
 obtain ⟨m,rfl⟩:=h
 rw [Aah,Aah,Aj0,<- Ce4,Br5 a,Ce4,Bj6 _ h0,Bj6 _ h0]
theorem Ab6 {N s} (h:s.length ∣ N):(whole N s).length=N:=by
 rw [Aah,Aln,Nat.div_mul_cancel h]
theorem Arq {N s u} (h:s.length ∣ N) (h0:0 < N) (hl:s.length=u.length) (e:whole N s=whole N u):s=u:=by
 have hs:0 < s.length:=Ch0 h h0
 have h1:0 < N / s.length:=Cn4 (Ca9 h0 h) hs
 rw [Aah,Aah,<- hl] at e
 obtain ⟨m,hm⟩:∃ m,N / s.length=m + 1:=⟨N / s.length - 1,by exact r31 ‹_›⟩
 rw [hm] at e
 unfold rep at e
 rw [Bn2,Bn2,Bm6,Bm6] at e
 exact (List.append_inj e hl).1
theorem Aae:∀ {ts d s},d<=ts.length->s.length=szs (ts.drop d)->asked ts (whole (szs ts) s)=(d + (asked (ts.drop d) s).1,(asked (ts.drop d) s).2)
 | ts,0,s,_,h=>by
  rw [Bo8] at h
  rw [<- h,Ab2 (by rw [h]; exact Ah _)]; simp
 | [],d + 1,s,h0,h=>by simp at h0
 | p :: ps,d + 1,s,h0,h=>by
  rw [Bx3] at h ⊢
  rw [Afu,Aes (by rw [h]; exact Ah _) (by rw [h]; exact Al ps d),Apv,Aae (by simpa using h0) h]
  simp only [Bu7,and_true]; lia
theorem Aai:∀ {ts t},(asked ts t).1<=ts.length
 | [],t=>by simp [Afe,Aaq]
 | p :: ps,t=>by
  rw [Aaq]
  split
  · simp
  · have:=Aai (ts:=ps) (t:=(rowsOf t p).headD []); simp only [Bh3]; lia
set_option tactic.hygienic true in
theorem Aaa {ts:List Nat} {t:List V} (h:t.length=szs ts):(asked ts t).2.flatten.length=szs (ts.drop (asked ts t).1):=by
 rw [Abe fun r hr=>Aeq h hr]
 have hle:=Aai (ts:=ts) (t:=t)
 rcases Nat.lt_or_ge (asked ts t).1 ts.length with q | q
 · obtain ⟨p,hp⟩:∃ p,ts[(asked ts t).1]?=some p:=⟨_,Bf0 q⟩
   rw [Aa5 hp]
   have:ts.drop (asked ts t).1=p :: ts.drop ((asked ts t).1 + 1):=by
    rw [Bj2 q]; rw [Bf0 q] at hp; rw [Bq9 hp]
   rw [this,Afu]
 · have e:(asked ts t).1=ts.length:=by lia
   have:∀ {ts:List Nat} {t:List V},(asked ts t).1=ts.length->(asked ts t).2.length=1:=by
    intro ts
    induction ts with
    | nil=>intro t _; rfl
    | cons p ps ih=>
     intro t h
     rw [Aaq] at h ⊢
     split at h
     · simp at h
     · rename_i hd; rw [if_neg hd]; exact ih (by simpa using h)
   rw [this e,e,Cf4 (Bm8 _),Bz8]
   rfl
set_option tactic.hygienic true in
theorem Aax:∀ {ts t},t.length=szs ts->whole (szs ts) (asked ts t).2.flatten=t
 | [],t,h=>by simp only [Afe,Aaq,Bm6,Cl3,Bh4]; rw [<- h]; exact Ab2 (by rw [h]; decide)
 | p :: ps,t,h=>by
  have hf:=Ae0 (p:=p) (z:=szs ps) h
  rw [Aaq]
  split
  · rw [hf,<- h]; exact Ab2 (by rw [h]; exact Ah _)
  · rename_i hd
    obtain ⟨r0,rs,hrs⟩:=Ad0 t p
    have hr0:r0.length=szs ps:=Adl (z:=szs ps) h (by rw [hrs]; exact .head _)
    rw [hrs] at hd hf ⊢
    have Asi:=Ad3 (Cl7 _ ▸ hd)
    have hlen:rs.length + 1=p + 1:=by have:=Aeo t p; rw [hrs] at this; simpa using this
    rw [Bq5]
    have ih:=Aax hr0
    have hl:=Aaa hr0
    dsimp only
    rw [Afu,Aes (by rw [hl]; exact Ah _) (by rw [hl]; exact Al ..),ih]
    rw [<- hf,Asi,hlen]; rfl
section
variable {α:Type}
noncomputable def Aq:Nat->List (Nat × α)->List α
 | _,[]=>[]
 | low,p :: q=>Bg7 (p.1 + 1 - low) p.2 ++ Aq (p.1 + 1) q
noncomputable def As (e:Nat):Nat->List (Nat × α)->Prop
 | low,[]=>low=e
 | low,p :: r=>low<=p.1/\p.1 < e/\As e (p.1 + 1) r
theorem As.le {e:Nat}:∀ {low:Nat} {l:List (Nat × α)},As e low l->low<=e
 | _,[],h=>by have:_=e:=h; lia
 | _,_ :: _,h=>by have:=h.1; have:=h.2.1; lia
theorem Ada {e:Nat}:∀ {low:Nat} {l:List (Nat × α)},As e low l->(Aq low l).length=e - low
 | low,[],h=>by have:low=e:=h; subst this; simp [Aq]
 | low,p :: r,h=>by
  have:=h.2.2.le
  rw [Aq,Bf1,Bu9,Ada h.2.2]
  have:=h.1; have:=h.2.1; exact r5 ‹_› ‹_›
theorem Abb {e:Nat}:∀ {low:Nat} {l m:List (Nat × α)},As e low l->Aq low (l ++ m)=Aq low l ++ Aq e m
 | low,[],m,h=>by have:low=e:=h; subst this; simp [Aq]
 | low,p :: r,m,h=>by rw [Bx0,Aq,Aq,Abb h.2.2,Bj0]
theorem Abl {e e':Nat}:∀ {low:Nat} {l m:List (Nat × α)},As e low l->As e' e m->As e' low (l ++ m)
 | low,[],m,h,k=>by have:low=e:=h; subst this; exact k
 | low,p :: r,m,h,k=>⟨h.1,by have:=h.2.1; have:=k.le; exact r38 ‹_› ‹_›,Abl h.2.2 k⟩
theorem Adb {β:Type} (f:α->β):∀ {low l},Aq low (l.map fun x=>(x.1,f x.2))=(Aq low l).map f
 | _,[]=>rfl
 | low,p :: r=>by rw [Bg8,Aq,Aq,Bg1,Cj2,Adb f]
theorem Ah6 {β:Type} {e} (f:α->β):∀ {low l},As e low l->As e low (l.map fun x=>(x.1,f x.2))
 | _,[],h=>h
 | low,p :: r,h=>⟨h.1,h.2.1,Ah6 f h.2.2⟩
theorem Ajd {e:Nat}:∀ {low:Nat} {l:List (Nat × α)} {x:Nat},As e low l->low<=x->(Aq low l)[x - low]?=(l.find? fun p=>decide (x<=p.1)).map (·.2)
 | low,[],x,h,hx=>by simp [Aq]
 | low,p :: r,x,h,hx=>by
  rw [Aq,Bk2]
  have h1:=h.1
  by_cases q:x<=p.1
  · rw [Bw6 (by rw [Bu9]; exact r17 ‹_› ‹_›),By0,if_pos (by exact r17 ‹_› ‹_›)]
    simp [q]
  · rw [Bw3 (by rw [Bu9]; exact Ch6 (Cm6 q) _),Bu9,show x - low - (p.1 + 1 - low)=x - (p.1 + 1) by exact r2 ‹_›,Ajd h.2.2 (by exact r52 ‹_›)]
    simp [q]
variable [DecidableEq α]
noncomputable def Bh (rows:List α):List (Nat × α):=(Aa rows).map fun x=>(x.2.1,x.2.2)
set_option tactic.hygienic true in
theorem Akr {f:List (Nat × Nat × α)} {k:Nat} {r:α} (h:As k 0 (f.map fun x=>(x.2.1,x.2.2))) :
   As (k + 1) 0 ((Aaf f k r).map fun x=>(x.2.1,x.2.2))/\Aq 0 ((Aaf f k r).map fun x=>(x.2.1,x.2.2))=Aq 0 (f.map fun x=>(x.2.1,x.2.2)) ++ [r]:=by
 have one:As (k + 1) k [((k:Nat),r)]:=⟨Bh5 _,by simp,rfl⟩
 have app:As (k + 1) 0 ((f ++ [(k,k,r)]).map fun x=>(x.2.1,x.2.2))/\Aq 0 ((f ++ [(k,k,r)]).map fun x=>(x.2.1,x.2.2))=Aq 0 (f.map fun x=>(x.2.1,x.2.2)) ++ [r]:=by
   rw [Bg1]
   refine ⟨Abl h one,?_⟩
   rw [Abb h]; simp [Aq]
 rcases Bv1 f with rfl | ⟨g,y,rfl⟩
 · exact app
 · rw [Bv2] at *
   unfold Aaf
   simp only [Ch5,Cd9,Cm8,Bs8]
   split
   · rename_i q
     rw [Bg1] at h ⊢
     have:∀ {low:Nat} {l:List (Nat × α)} {hh:Nat},As k low (l ++ [(hh,r)])->As (k + 1) low (l ++ [(k,r)])/\Aq low (l ++ [(k,r)])=Aq low (l ++ [(hh,r)]) ++ [r]:=by
      intro low l
      induction l generalizing low with
      | nil=>
       rintro hh ⟨a1,a2,a3⟩
       have a3':hh + 1=k:=a3
       dsimp only at a1 a2
       refine ⟨⟨by show low<=k; lia,by simp,rfl⟩,?_⟩
       simp only [Cb2,Aq,Bh4]
       rw [show k + 1 - low=(hh + 1 - low) + 1 by exact r24 ‹_› ‹_›,List.replicate_succ']
      | cons p l ih=>
       rintro hh ⟨a1,a2,a3⟩
       obtain ⟨b1,b2⟩:=ih a3
       refine ⟨⟨a1,by exact r42 ‹_›,b1⟩,?_⟩
       rw [Bx0,Bx0,Aq,Aq,b2,Bj0]
     obtain ⟨y1,y2,y3⟩:=y
     dsimp only at q
     subst q
     rw [Bg1]
     exact this h
   · exact app
theorem Aih:∀ {rs:List α} {f:List (Nat × Nat × α)} {k:Nat},As k 0 (f.map fun x=>(x.2.1,x.2.2)) ->
  As (k + rs.length) 0 ((Ac2 f k rs).map fun x=>(x.2.1,x.2.2))/\Aq 0 ((Ac2 f k rs).map fun x=>(x.2.1,x.2.2))=Aq 0 (f.map fun x=>(x.2.1,x.2.2)) ++ rs
 | [],f,k,h=>by simpa [Ac2] using h
 | r :: rs,f,k,h=>by
  obtain ⟨a,b⟩:=Akr (r:=r) h
  obtain ⟨c,d⟩:=Aih (rs:=rs) a
  rw [Ac2]
  refine ⟨by rw [Bh3,show k + (rs.length + 1)=k + 1 + rs.length by lia]; exact c,?_⟩
  rw [d,b,Bj0]; rfl
theorem Abk (rows:List α):As rows.length 0 (Bh rows)/\Aq 0 (Bh rows)=rows:=by
 have:=Aih (rs:=rows) (f:=[]) (k:=0) rfl
 simpa [Bh,Aa,Aq] using this
noncomputable def Ah5 (f:List (Nat × Nat × α)) (hi lo:Nat) (a:α):List (Nat × Nat × α):=match f.getLast? with
 | some x=>if x.2.2=a then f.dropLast ++ [(x.1,hi,a)] else f ++ [(lo,hi,a)]
 | none=>[(lo,hi,a)]
theorem Alc {f:List (Nat × Nat × α)} {hi lo k:Nat} {a:α}:Ah5 (Aaf f k a) hi lo a=Ah5 f hi k a:=by
 rcases Bv1 f with rfl | ⟨g,y,rfl⟩
 · simp [Ah5,Aaf]
 · rw [Bv2]
   unfold Ah5 Aaf
   simp only [Ch5,Cd9,Cm8,Bs8]
   by_cases q:y.2.2=a
   · simp [q]
   · simp [q]
theorem Ag9 {a:α} {rest:List α}:∀ (m:Nat) (f:List (Nat × Nat × α)) (k:Nat),Ac2 f k (Bg7 (m + 1) a ++ rest)=Ac2 (Ah5 f (k + m) k a) (k + m + 1) rest
 | 0,f,k=>rfl
 | m + 1,f,k=>by
  rw [Bn2,Bx0,Ac2,Ag9 m,Alc]
  congr 1
  · congr 1; lia
  · lia
theorem Aku {β:Type} [DecidableEq β] (g:α->β):∀ {rs f k},(∀ x∈f,∀ r∈rs,g x.2.2=g r->x.2.2=r)->(∀ x∈rs,∀ y∈rs,g x=g y->x=y) ->
  Ac2 (f.map fun x=>(x.1,x.2.1,g x.2.2)) k (rs.map g)=(Ac2 f k rs).map fun x=>(x.1,x.2.1,g x.2.2)
 | [],f,k,_,_=>rfl
 | r :: rs,f,k,h1,h2=>by
  rw [Bg8,Ac2,Ac2]
  have e:Aaf (f.map fun x=>(x.1,x.2.1,g x.2.2)) k (g r)=(Aaf f k r).map fun x=>(x.1,x.2.1,g x.2.2):=by
   unfold Aaf
   rw [Bv8]
   cases q:f.getLast? with
   | none=>rfl
   | some x=>
     have hx:=List.mem_of_getLast? q
     simp only [Bl5]
     by_cases c:x.2.2=r
     · simp [c,List.map_dropLast]
     · rw [if_neg c,if_neg (fun e=>c (h1 x hx r (.head _) e))]; simp
  rw [e]
  refine Aku g (fun x hx y hy e=>?_) fun x hx y hy=>h2 x (.tail _ hx) y (.tail _ hy)
  unfold Aaf at hx
  cases q:f.getLast? with
  | none=>
   rw [q] at hx
   rw [Bf6.mp hx] at e ⊢
   exact h2 r (.head _) y (.tail _ hy) e
  | some z=>
   rw [q] at hx
   dsimp only at hx
   split at hx
   · rcases Bh6.mp hx with hx | hx
     · exact h1 x ((List.dropLast_sublist _).subset hx) y (.tail _ hy) e
     · rw [Bf6.mp hx] at e ⊢
       exact h2 r (.head _) y (.tail _ hy) e
   · rcases Bh6.mp hx with hx | hx
     · exact h1 x hx y (.tail _ hy) e
     · rw [Bf6.mp hx] at e ⊢
       exact h2 r (.head _) y (.tail _ hy) e
theorem Ame {β:Type} [DecidableEq β] (g:α->β) {rs} (h:∀ x∈rs,∀ y∈rs,g x=g y->x=y):Bh (rs.map g)=(Bh rs).map fun x=>(x.1,g x.2):=by
 unfold Bh Aa
 have:=Aku g (rs:=rs) (f:=[]) (k:=0) (by simp) h
 simp only [Bq4] at this
 rw [this,Bi5,Bi5]; rfl
theorem Abq {rs:List α} {x:Nat × α} (h:x∈Bh rs):x.2∈rs:=by
 obtain ⟨y,hy,rfl⟩:=Bh1.mp h
 exact (Aak hy).1
theorem Asf {a:α} (m:Nat):Bh (Bg7 (m + 1) a)=[(m,a)]:=by
 unfold Bh Aa
 have:=Ag9 (a:=a) (rest:=[]) m [] 0
 rw [Bh4] at this
 rw [this]; simp [Ah5,Ac2]
theorem An5 {e:Nat} {p:Nat × α} {rows:List α} (h:Aq 0 [p]=rows):∀ x∈rows,x=p.2:=fun x hx=>by
 rw [<- h] at hx
 simp only [Aq,Bh4] at hx
 exact Bo0 hx
end
noncomputable abbrev pI (x:Nat × Nat):Int × Nat:=((x.1:Int),x.2)
theorem Aud {e}:∀ {ps k f},As e k ps->((Ac2 f k (Aq k ps)).map fun x=>(x.2.1,x.2.2)).map pI=(ps.map pI).foldl Aay ((f.map fun x=>(x.2.1,x.2.2)).map pI)
 | [],k,f,h=>rfl
 | p :: ps,k,f,h=>by
  have h1:=h.1
  obtain ⟨m,hm⟩:∃ m,p.1 + 1 - k=m + 1:=⟨p.1 - k,by exact r31 ‹_›⟩
  rw [Aq,hm,Ag9,show k + m + 1=p.1 + 1 by exact r28 ‹_›,Aud h.2.2,Bg8,Bv0]
  congr 1
  rw [show k + m=p.1 by exact Ca8 (r28 hm)]
  unfold Ah5 Aay
  rw [Bv8,Bv8]
  cases q:f.getLast? with
  | none=>simp
  | some x=>
   simp only [Bl5]
   by_cases c:x.2.2=p.2
   · simp [c,List.map_dropLast]
   · simp [c]
theorem Apj {e ps} (h:As e 0 ps):joined (ps.map pI)=(Bh (Aq 0 ps)).map pI:=(Aud (f:=[]) h).symm
theorem Ama {top:Nat}:∀ {ps:List (Int × Nat)} {low:Nat},Aga top ((low:Int) - 1) ps->∃ qs:List (Nat × Nat),ps=qs.map pI/\As (top + 1) low qs
 | [],low,h=>⟨[],rfl,by have:(low:Int) - 1=top:=h; show low=top + 1; lia⟩
 | (h1,a) :: ps,low,⟨x,y,z⟩=>by
  dsimp only at x y z
  obtain ⟨hn,rfl⟩:=By4 (show 0<=h1 by lia)
  obtain ⟨qs,e,r⟩:=Ama (low:=hn + 1) (ps:=ps) (by simpa using z)
  exact ⟨(hn,a) :: qs,by rw [e]; rfl,by dsimp only; lia,by dsimp only; lia,r⟩
theorem Ajp {top}:∀ {qs low},As (top + 1) low qs->Aga top ((low:Int) - 1) (qs.map pI)
 | [],low,h=>by have:low=top + 1:=h; show (low:Int) - 1=top; lia
 | (h1,a) :: ps,low,⟨x,y,z⟩=>by
  have:=Ajp z
  refine ⟨by dsimp only; lia,by dsimp only; lia,by simpa using this⟩
theorem Aey {top}:∀ {ps lo},lo<=top->(ps.foldl (Acv top) lo=top ↔ Aga top lo ps)
 | [],lo,h=>Iff.rfl
 | p :: ps,lo,h=>by
  have stuck:∀ (ps:List (Int × Nat)) (x:Int),top < x->ps.foldl (Acv top) x≠top:=by
    intro ps
    induction ps with
    | nil=>intro x hx; simp only [Ch7]; lia
    | cons q r ih=>intro x hx; rw [Bv0]; refine ih _ ?_; unfold Acv; split <;> lia
  rw [Bv0]
  show _ ↔ (lo < p.1/\p.1<=top/\Aga top p.1 ps)
  rw [show Acv top lo p=if p.1 > lo then p.1 else (top:Int) + 1 from rfl]
  by_cases q:p.1 > lo
  · rw [if_pos q]
    by_cases q2:p.1<=top
    · rw [Aey q2]; exact ⟨fun x=>⟨q,q2,x⟩,fun x=>x.2.2⟩
    · exact ⟨fun x=>absurd x (stuck _ _ (by lia)),fun x=>absurd x.2.1 q2⟩
  · rw [if_neg q]
    exact ⟨fun x=>absurd x (stuck _ _ (by lia)),fun x=>absurd x.1 q⟩
noncomputable def Abf:Nat->List Nat->List Nat->Option (Int × Nat × Nat)
 | k,a :: r,b :: q=>if a≠b then some ((k:Int),a,b) else Abf (k + 1) r q
 | _,_,_=>none
theorem Ac4 {a b r q}:∀ (m k:Nat),Abf k (Bg7 (m + 1) a ++ r) (Bg7 (m + 1) b ++ q)=if a≠b then some ((k:Int),a,b) else Abf (k + m + 1) r q
 | 0,k=>rfl
 | m + 1,k=>by
  show Abf k (a :: (Bg7 (m + 1) a ++ r)) (b :: (Bg7 (m + 1) b ++ q))=_
  rw [Abf,Ac4 m]
  by_cases h:a≠b
  · rw [if_pos h,if_pos h]
  · rw [if_neg h,if_neg h,if_neg h]; congr 1; lia
theorem Abh {e}:∀ (A B:List (Nat × Nat)) (k:Nat),As e k A->As e k B->unlike k (Ac8 (A.map pI) (B.map pI))=Abf k (Aq k A) (Aq k B)
 | [],B,k,ha,hb=>by rw [Bq4,Adu (.inl rfl)]; rfl
 | (h1,a) :: A,[],k,ha,hb=>by
  have h1:=ha.1; have h2:=ha.2.1; have:k=e:=hb
  lia
 | (h1,a) :: A,(h2,b) :: B,k,ha,hb=>by
  have a1:=ha.1; have b1:=hb.1
  dsimp only at a1 b1
  rw [Bg8,Bg8,Abx,Aq,Aq]
  dsimp only
  by_cases q1:h1=h2
  · subst q1
    rw [if_pos rfl,unlike,show ((h1:Int) + 1)=((h1 + 1:Nat):Int) by push_cast; rfl,Abh A B (h1 + 1) ha.2.2 hb.2.2]
    obtain ⟨m,hm⟩:∃ m,h1 + 1 - k=m + 1:=⟨h1 - k,by exact r31 ‹_›⟩
    rw [hm,Ac4,show k + m + 1=h1 + 1 by exact r28 ‹_›]
  · rw [if_neg (by lia)]
    by_cases q2:h1 < h2
    · rw [if_pos (by lia),unlike,show ((h1:Int) + 1)=((h1 + 1:Nat):Int) by push_cast; rfl]
      have:=Abh A ((h2,b) :: B) (h1 + 1) ha.2.2 ⟨by dsimp only; lia,hb.2.1,hb.2.2⟩
      rw [Bg8] at this
      rw [this]
      obtain ⟨m,hm⟩:∃ m,h1 + 1 - k=m + 1:=⟨h1 - k,by exact r31 ‹_›⟩
      have er:Bg7 (h2 + 1 - k) b=Bg7 (m + 1) b ++ Bg7 (h2 - h1) b:=by rw [By9]; congr 1; exact r7 ‹_› ‹_› ‹_›
      rw [hm,er,Bj0,Ac4,show k + m + 1=h1 + 1 by exact r28 ‹_›]
      rw [Aq,show h2 + 1 - (h1 + 1)=h2 - h1 by lia]
    · rw [if_neg (by lia),unlike,show ((h2:Int) + 1)=((h2 + 1:Nat):Int) by push_cast; rfl]
      have:=Abh ((h1,a) :: A) B (h2 + 1) ⟨by dsimp only; lia,ha.2.1,ha.2.2⟩ hb.2.2
      rw [Bg8] at this
      rw [this]
      obtain ⟨m,hm⟩:∃ m,h2 + 1 - k=m + 1:=⟨h2 - k,by exact r31 ‹_›⟩
      have er:Bg7 (h1 + 1 - k) a=Bg7 (m + 1) a ++ Bg7 (h1 - h2) a:=by rw [By9]; congr 1; exact r8 ‹_› ‹_› ‹_› ‹_›
      rw [hm,er,Bj0,Ac4,show k + m + 1=h2 + 1 by exact r28 ‹_›]
      rw [Aq,show h1 + 1 - (h2 + 1)=h1 - h2 by lia]
 termination_by A B=>A.length + B.length
theorem Aev:∀ {k A},Abf k A A=none
 | k,[]=>rfl
 | k,a :: r=>by rw [Abf,if_neg (by simp)]; exact Aev
theorem Aeu:∀ {k A B},A.length=B.length->A≠B->∃ (l x y:Nat),A[l]?=some x/\B[l]?=some y/\x≠y/\(∀ j,j < l->A[j]?=B[j]?)/\Abf k A B=some (((k + l:Nat):Int),x,y)
 | k,[],[],_,h=>absurd rfl h
 | k,[],_ :: _,h,_=>by simp at h
 | k,_ :: _,[],h,_=>by simp at h
 | k,a :: r,b :: q,hl,hn=>by
  rw [Abf]
  by_cases h:a≠b
  · exact ⟨0,a,b,rfl,rfl,h,by simp,by rw [if_pos h]; rfl⟩
  · rw [if_neg h]
    have hab:a=b:=Decidable.byContradiction h
    obtain ⟨l,x,y,h1,h2,h3,h4,h5⟩:=Aeu (k:=k + 1) (A:=r) (B:=q) (by simpa using hl) (fun e=>hn (by rw [hab,e]))
    refine ⟨l + 1,x,y,by simpa using h1,by simpa using h2,h3,fun j hj=>?_,by rw [h5,show k + 1 + l=k + (l + 1) by lia]⟩
    cases j with
    | zero=>simp [hab]
    | succ j=>simpa using h4 j (by exact r33 ‹_›)
noncomputable def numOf (ts:List Nat) (T:List (List V)) (s:List V):Nat:=T.idxOf (whole (szs ts) s)
noncomputable def canon (ts:List Nat) (T:List (List V)) (t:List V):V:=
 if (asked ts t).1=ts.length then .tup [.str "leaf",((asked ts t).2.headD []).headD .none]
 else .tup [.int (asked ts t).1,.tup ((Bh (asked ts t).2).map fun x=>Ad6 (x.1,numOf ts T x.2))]
noncomputable def kv (x:V):Prop:=x.key=true/\x.dep=0
theorem kv.flat {x} (h:kv x):B4 x:=⟨V.Aal x h.1,by rw [h.2]; lia⟩
theorem Agr:∀ {t},(∀ x∈t,kv x)->V.keys t=true/\V.Bc t=0
 | [],_=>by simp [V.keys,V.Bc]
 | a :: r,h=>by
  have:=Agr fun x hx=>h x (.tail _ hx)
  have ha:=h a (.head _)
  simp only [V.keys,V.Bc,ha.1,ha.2,this.1,this.2]; simp
structure Bf (ts:List Nat) (T:List (List V)):Prop where
 nd:T.Nodup
 len:∀ t∈T,t.length=szs ts
 cl:∀ t∈T,∀ r∈(asked ts t).2,whole (szs ts) r∈T
 val:∀ t∈T,∀ x∈t,kv x
set_option tactic.hygienic true in
theorem Abd {ts t} (h:t.length=szs ts) (e:(asked ts t).1=ts.length):∃ x,(asked ts t).2=[[x]]/\whole (szs ts) [x]=t:=by
 have hl:=Aaa h
 rw [e,Bz8] at hl
 have:∀ {ts:List Nat} {t:List V},(asked ts t).1=ts.length->∃ r,(asked ts t).2=[r]:=by
  intro ts
  induction ts with
  | nil=>intro t _; exact ⟨t,rfl⟩
  | cons p ps ih=>
   intro t h
   rw [Aaq] at h ⊢
   split at h
   · simp at h
   · rename_i hd; rw [if_neg hd]; exact ih (by simpa using h)
 obtain ⟨r,hr⟩:=this e
 rw [hr] at hl
 simp only [Bm6,Cl3,Bh4] at hl
 obtain ⟨x,rfl⟩:∃ x,r=[x]:=By8.mp hl
 refine ⟨x,hr,?_⟩
 have:=Aax h
 rw [hr] at this
 simpa using this
theorem Acl {ts t r} (h:t.length=szs ts) (hr:r∈(asked ts t).2):r.length=szs (ts.drop ((asked ts t).1 + 1)):=Aeq h hr
theorem Aj7 {ts t r} (h:t.length=szs ts) (hr:r∈(asked ts t).2):r.length ∣ szs ts:=by rw [Acl h hr]; exact Al ..
theorem Avc {α:Type} [BEq α] [LawfulBEq α] {T:List α} {a b:α} (ha:a∈T) (hb:b∈T) (h:T.idxOf a=T.idxOf b):a=b:=by
 have h1:=Bk1 ha
 have h2:=Bk1 hb
 have e1:T[T.idxOf a]?=some a:=by rw [Bf0 h1,Cj5]
 have e2:T[T.idxOf b]?=some b:=by rw [Bf0 h2,Cj5]
 rw [h,e2] at e1; exact (Bq9 e1).symm
theorem Acb {α:Type} [BEq α] [LawfulBEq α] {T:List α} {a:α} (ha:a∈T):T[T.idxOf a]?=some a:=by
 have h1:=Bk1 ha
 rw [Bf0 h1,Cj5]
theorem Ach {α:Type} [BEq α] [LawfulBEq α] {T:List α} {a:α} {k:Nat} (hn:T.Nodup) (h:T[k]?=some a):T.idxOf a=k:=by
 obtain ⟨hk,rfl⟩:=Bf7.mp h
 exact hn.idxOf_getElem k hk
theorem Am1 {ts:List Nat} {T:List (List V)} {s u:List V} (hs:whole (szs ts) s∈T) (hu:whole (szs ts) u∈T) (hd:s.length ∣ szs ts) (hl:s.length=u.length) (h:numOf ts T s=numOf ts T u):s=u:=
 Arq hd (Ah ts) hl (Avc hs hu h)
theorem Af7 {ts T U t} (h:∀ r∈(asked ts t).2,whole (szs ts) r∈T):canon ts (T ++ U) t=canon ts T t:=by
 unfold canon
 split
 · rfl
 · congr 4
   refine Bj5 fun x hx=>?_
   unfold numOf
   rw [Br6,if_pos (h x.2 (Abq hx))]
theorem Arb {a b} (h:Ad6 a=Ad6 b):a=b:=by
 obtain ⟨a1,a2⟩:=a
 obtain ⟨b1,b2⟩:=b
 simp only [Ad6,V.tup.injEq,Bn0,V.int.injEq,and_true] at h
 exact Prod.ext (by dsimp only; lia) (by dsimp only; lia)
set_option tactic.hygienic true in
theorem Ak8 {ts T t u} (ht:t.length=szs ts) (hu:u.length=szs ts) (ct:∀ r∈(asked ts t).2,whole (szs ts) r∈T) (cu:∀ r∈(asked ts u).2,whole (szs ts) r∈T) (h:canon ts T t=canon ts T u):t=u:=by
 unfold canon at h
 split at h
 · rename_i e1
   obtain ⟨x,hx,wx⟩:=Abd ht e1
   split at h
   · rename_i e2
     obtain ⟨y,hy,wy⟩:=Abd hu e2
     rw [hx,hy] at h
     simp only [Bq5,V.tup.injEq,Bn0,and_true,true_and] at h
     rw [<- wx,<- wy,h]
   · simp at h
 · split at h
   · simp at h
   · simp only [V.tup.injEq,Bn0,V.int.injEq,and_true] at h
     obtain ⟨e,h⟩:=h
     have e':(asked ts t).1=(asked ts u).1:=by lia
     have h2:=List.map_inj_right (fun a b=>Arb) |>.mp (by rw [Bi5,Bi5]; exact h:((Bh (asked ts t).2).map fun x=>(x.1,numOf ts T x.2)).map Ad6=((Bh (asked ts u).2).map fun x=>(x.1,numOf ts T x.2)).map Ad6)
     have h3:=congrArg (Aq 0) h2
     rw [Adb,Adb,(Abk _).2,(Abk _).2] at h3
     have h4:(asked ts t).2=(asked ts u).2:=by
      have hl:=congrArg Bp5 h3
      simp only [Be9] at hl
      apply Bt8 hl
      intro i i1 i2
      have:=congrArg (fun l=>l[i]?) h3
      simp only [Bf8,Bf0 i1,Bf0 i2,Bl5,Bs1] at this
      have m1:=Bl6 i1
      have m2:=Bl6 i2
      exact Am1 (ct _ m1) (cu _ m2) (Aj7 ht m1) (by rw [Acl ht m1,Acl hu m2,e']) this
     rw [<- Aax ht,<- Aax hu,h4]
noncomputable def An (ts:List Nat) (T:List (List V)):List V:=T.map (canon ts T)
theorem Abn {ts:List Nat} {T:List (List V)} {t:List V} {k:Nat} (h:T[k]?=some t):(An ts T)[k]?=some (canon ts T t):=by rw [An,Bf8,h]; rfl
theorem idx_map {α β:Type} [BEq α] [LawfulBEq α] [BEq β] [LawfulBEq β] {f:α->β} {a:α}:∀ {l:List α},(∀ x∈l,f x=f a->x=a)->(l.map f).idxOf (f a)=l.idxOf a
 | [],_=>rfl
 | b :: r,h=>by
  rw [Bg8,Cb3,Cb3]
  by_cases q:b=a
  · subst q; simp
  · have:¬ f b=f a:=fun e=>q (h b (.head _) e)
    rw [show (b == a)=false by simpa using q,show (f b == f a)=false by simpa using this,idx_map fun x hx=>h x (.tail _ hx)]
section
variable {ts:List Nat} {T:List (List V)}
theorem Bf.Aqh (H:Bf ts T) {u} (hu:u.length=szs ts) (cu:∀ r∈(asked ts u).2,whole (szs ts) r∈T):canon ts T u∈An ts T ↔ u∈T:=by
 unfold An
 constructor
 · intro h
   obtain ⟨t,ht,e⟩:=Bh1.mp h
   rw [<- Ak8 (H.len t ht) hu (H.cl t ht) cu e]; exact ht
 · exact fun h=>Bi7 h
theorem Bf.Akw (H:Bf ts T) {u:List V} (hu:u∈T):(An ts T).idxOf (canon ts T u)=T.idxOf u:=
 idx_map fun x hx e=>Ak8 (H.len x hx) (H.len u hu) (H.cl x hx) (H.cl u hu) e
noncomputable def B7 (T:List (List V)) (u:List V):List (List V):=if u∈T then T else T ++ [u]
theorem Adg {T u}:u∈B7 T u:=by
 unfold B7; split
 · assumption
 · simp
theorem Ag6 {T u t} (h:t∈T):t∈B7 T u:=by
 unfold B7; split
 · exact h
 · simp [h]
theorem Asl {T u t} (h:t∈T):(B7 T u).idxOf t=T.idxOf t:=by
 unfold B7; split
 · rfl
 · rw [Br6,if_pos h]
theorem Ajj {T u}:(B7 T u).length<=T.length + 1:=by
 unfold B7; split
 · lia
 · simp
set_option tactic.hygienic true in
theorem Bf.add (H:Bf ts T) {u} (hu:u.length=szs ts) (cu:∀ r∈(asked ts u).2,whole (szs ts) r∈B7 T u) (hv:∀ x∈u,kv x):Bf ts (B7 T u):=by
 unfold B7 at cu ⊢
 split
 · exact H
 · rename_i hn
   rw [if_neg hn] at cu
   refine ⟨?_,fun t ht=>?_,fun t ht r hr=>?_,fun t ht=>?_⟩
   · rw [Bm5]
     exact ⟨H.nd,by simp,fun a ha b hb e=>hn (by rw [Bf6.mp hb] at e; rw [<- e]; exact ha)⟩
   · rcases Bh6.mp ht with ht | ht
     · exact H.len t ht
     · rw [Bf6.mp ht]; exact hu
   · rcases Bh6.mp ht with ht | ht
     · exact Bi0 _ (H.cl t ht r hr)
     · rw [Bf6.mp ht] at hr; exact cu r hr
   · rcases Bh6.mp ht with ht | ht
     · exact H.val t ht
     · rw [Bf6.mp ht]; exact hv
theorem Au2 (H:Bf ts T) {u} (cu:∀ r∈(asked ts u).2,whole (szs ts) r∈T):An ts (B7 T u)=if u∈T then An ts T else An ts T ++ [canon ts T u]:=by
 unfold B7
 split
 · rfl
 · unfold An
   rw [Bg1]
   congr 1
   · exact Bj5 fun t ht=>Af7 (H.cl t ht)
   · simp [Af7 cu]
theorem Aik {v top S} (hv:ts[v]?=some top) (hl:S.length=top + 1) (hz:∀ s∈S,s.length=szs (ts.drop (v + 1))) (hd:dif S=true):asked ts (whole (szs ts) S.flatten)=(v,S)/\v < ts.length:=by
 obtain ⟨hlt,e⟩:=Bf7.mp hv
 have hdr:ts.drop v=top :: ts.drop (v + 1):=by rw [Bj2 hlt,e]
 have hfl:S.flatten.length=szs (ts.drop v):=by rw [Abe hz,hl,hdr,Afu]
 refine ⟨?_,hlt⟩
 rw [Aae (Bk4 hlt) hfl,hdr,Ao2 hl hz hd]; rfl
theorem Ah8 {v top s} (hv:ts[v]?=some top) (hz:s.length=szs (ts.drop (v + 1))):whole (szs ts) (Bg7 (top + 1) s).flatten=whole (szs ts) s:=by
 obtain ⟨hlt,e⟩:=Bf7.mp hv
 have hdr:ts.drop v=top :: ts.drop (v + 1):=by rw [Bj2 hlt,e]
 have hl:(rep (top + 1) s).length=szs (ts.drop v):=by rw [Aln,hz,hdr,Afu]
 have h1:(rep (top + 1) s).length ∣ szs ts:=by rw [hl]; exact Al ..
 have h0:0 < s.length:=by rw [hz]; exact Ah _
 show whole (szs ts) (rep (top + 1) s)=_
 obtain ⟨m,hm⟩:=h1
 have h2:0 < (rep (top + 1) s).length:=by rw [hl]; exact Ah _
 rw [Aah,Aah,hm,Bj6 _ h2,Aj0,Aln]
 congr 1
 rw [show (top + 1) * s.length * m=s.length * (m * (top + 1)) by rw [Br5 (top + 1),Ce4,Br5 (top + 1)],Bj6 _ h0]
end
noncomputable def tab (ts:List Nat) (f:List Nat->V):List V:=(B6 ts).map f
theorem Aw2:∀ (ts:List Nat) (f:List Nat->V),tab ts f=Bz4 f (B6 ts):=by intros; rfl
theorem Ag4 {p ps f}:tab (p :: ps) f=((Bh8 (p + 1)).map fun i=>tab ps fun c=>f (i :: c)).flatten:=by
 rw [Aw2]
 rw [B6,List.map_flatMap,Ce8]
 congr 1
 refine Bj5 fun i _=>?_
 rw [Bi5]; rfl
theorem Ac0:∀ (ts:List Nat),(B6 ts).length=szs ts
 | []=>rfl
 | p :: ps=>by
  have:∀ m:Nat,((Bh8 m).flatMap fun i=>(B6 ps).map (i :: ·)).length=m * szs ps:=by
   intro m
   induction m with
   | zero=>simp
   | succ m ih=>rw [List.range_succ,List.flatMap_append,Bf1,ih,Bx5]; simp [Ac0 ps]
  rw [B6,this,szs]
theorem Ah7 (ts:List Nat) (f:List Nat->V):(tab ts f).length=szs ts:=by rw [Aw2,Be9,Ac0]
theorem Acf:∀ {ts c},c∈B6 ts->c.length=ts.length/\∀ (i x p:Nat),c[i]?=some x->ts[i]?=some p->x<=p
 | [],c,h=>by rw [B6,Bf6] at h; subst h; simp
 | p :: ps,c,h=>by
  rw [B6,Ce7] at h
  obtain ⟨i,hi,h⟩:=h
  obtain ⟨c',h',rfl⟩:=Bh1.mp h
  obtain ⟨h1,h2⟩:=Acf h'
  refine ⟨by simp [h1],fun j x q hx hq=>?_⟩
  cases j with
  | zero=>simp at hx hq; subst hx; subst hq; exact Bw2 (Bk6.mp hi)
  | succ j=>exact h2 j x q (by simpa using hx) (by simpa using hq)
theorem Aq7:∀ {ts t},t.length=szs ts->∃ f,t=tab ts f
 | [],t,h=>by
  obtain ⟨x,rfl⟩:∃ x,t=[x]:=By8.mp h
  exact ⟨fun _=>x,rfl⟩
 | p :: ps,t,h=>by
  have hf:=Ae0 (p:=p) (z:=szs ps) h
  have:∀ i:Nat,∃ g:List Nat->V,∀ r,(rowsOf t p)[i]?=some r->r=tab ps g:=fun i=>by
    cases q:(rowsOf t p)[i]? with
    | none=>exact ⟨fun _=>.none,fun r e=>by cases e⟩
    | some r=>
     obtain ⟨g,hg⟩:=Aq7 (Adl (z:=szs ps) h (Bf9 q))
     exact ⟨g,fun r' e=>by cases e; exact hg⟩
  obtain ⟨g,hg⟩:=Classical.axiomOfChoice this
  refine ⟨fun c=>g (c.headD 0) c.tail,?_⟩
  rw [Ag4,<- hf]
  congr 1
  apply Bt8
  · rw [Aeo]; simp
  · intro i h1 h2
    have e:=hg i _ (Bf0 h1)
    simp only [Cl2,Cj4,Bq5,Cn8]
    rw [e]
theorem Agg:∀ {ts d g},d<=ts.length->whole (szs ts) (tab (ts.drop d) g)=tab ts fun c=>g (c.drop d)
 | ts,0,g,_=>by
  rw [Bo8,<- Ah7 ts g,Ab2 (by rw [Ah7]; exact Ah _)]; rfl
 | [],d + 1,g,h=>by simp at h
 | p :: ps,d + 1,g,h=>by
  rw [Bx3,Afu,Aes (by rw [Ah7]; exact Ah _) (by rw [Ah7]; exact Al ..),Agg (by simpa using h),Ag4]
  unfold rep
  congr 1
  apply Bt8
  · simp
  · intro i h1 h2; simp
theorem Apo {ts:List Nat} {v top:Nat} {S:List (List V)} (hv:ts[v]?=some top) (hl:S.length=top + 1) (hz:∀ s∈S,s.length=szs (ts.drop (v + 1))) {k:Nat} {c:List Nat} {x:Nat} {s:List V} (hc:(B6 ts)[k]?=some c) (hx:c[v]?=some x) (hs:S[x]?=some s) :
  (whole (szs ts) S.flatten)[k]?=(whole (szs ts) s)[k]?:=by
 obtain ⟨hlt,e⟩:=Bf7.mp hv
 have hdr:ts.drop v=top :: ts.drop (v + 1):=by rw [Bj2 hlt,e]
 have:∀ i:Nat,∃ g:List Nat->V,∀ r,S[i]?=some r->r=tab (ts.drop (v + 1)) g:=fun i=>by
  cases q:S[i]? with
  | none=>exact ⟨fun _=>.none,fun r e=>by cases e⟩
  | some r=>
    obtain ⟨g,hg⟩:=Aq7 (hz r (Bf9 q))
    exact ⟨g,fun r' e=>by cases e; exact hg⟩
 obtain ⟨g,hg⟩:=Classical.axiomOfChoice this
 have hS:S.flatten=tab (ts.drop v) fun c=>g (c.headD 0) c.tail:=by
  rw [hdr,Ag4]
  congr 1
  apply Bt8
  · rw [hl]; simp
  · intro i h1 h2
    have e:=hg i _ (Bf0 h1)
    simp only [Cl2,Cj4,Bq5,Cn8]
    rw [e]
 rw [hS,Agg (Bk4 hlt),hg x s hs,Agg hlt]
 unfold tab
 rw [Bf8,Bf8,hc]
 simp only [Bl5,Bs1]
 obtain ⟨hvc,e2⟩:=Bf7.mp hx
 rw [Bj2 hvc,e2,Bq5,Cn8]
theorem Acm:∀ {ts d s vals},d<=ts.length->s.length=szs (ts.drop d)->vals.length=ts.length->Bb ts (whole (szs ts) s) vals=Bb (ts.drop d) s (vals.drop d)
 | ts,0,s,vals,_,h,_=>by
  rw [Bo8] at h
  rw [<- h,Ab2 (by rw [h]; exact Ah _)]; simp
 | [],d + 1,s,vals,h0,h,_=>by simp at h0
 | p :: ps,d + 1,s,[],h0,h,hl=>by simp at hl
 | p :: ps,d + 1,s,x :: xs,h0,h,hl=>by
  rw [Bx3] at h ⊢
  rw [Afu,Aes (by rw [h]; exact Ah _) (by rw [h]; exact Al ps d),Aiq,An8,Ala,if_neg (by simp),Bn2,Bq5,Bx3]
  exact Acm (by simpa using h0) h (by simpa using hl)
set_option tactic.hygienic true in
theorem Agu:∀ {ts t},(asked ts t).1 < ts.length->dif (asked ts t).2=true
 | [],t,h=>by simp at h
 | p :: ps,t,h=>by
  rw [Aaq] at h ⊢
  split
  · assumption
  · rename_i q
    rw [if_neg q] at h
    exact Agu (by simpa using h)
set_option tactic.hygienic true in
theorem Alu {ts t vals top x} (h:t.length=szs ts) (hl:vals.length=ts.length) (ha:ts[(asked ts t).1]?=some top) (hx:vals[(asked ts t).1]?=some x) :
   Bb ts t vals=if top < x then none else Bb ts (whole (szs ts) ((asked ts t).2.getD x [])) vals:=by
 obtain ⟨hlt,e⟩:=Bf7.mp ha
 have hdr:ts.drop (asked ts t).1=top :: ts.drop ((asked ts t).1 + 1):=by rw [Bj2 hlt,e]
 obtain ⟨hlx,ex⟩:=Bf7.mp hx
 have hdv:vals.drop (asked ts t).1=x :: vals.drop ((asked ts t).1 + 1):=by rw [Bj2 hlx,ex]
 have h1:=Acm (vals:=vals) (Bk4 hlt) (Aaa h) hl
 rw [Aax h,hdr,hdv,Aiq,Aeb (Aa5 ha) (fun r hr=>Acl h hr),Agu hlt,if_pos rfl] at h1
 rw [h1]
 split
 · rfl
 · rename_i q
   have hxl:x < (asked ts t).2.length:=by rw [Aa5 ha]; exact r52 ‹_›
   have hm:(asked ts t).2.getD x []∈(asked ts t).2:=by
    rw [Bj8,Bf0 hxl]; exact Bl6 hxl
   exact (Acm (d:=(asked ts t).1 + 1) hlt (Acl h hm) hl).symm
theorem Aok {ts t vals x} (h:t.length=szs ts) (hl:vals.length=ts.length) (ha:(asked ts t).1=ts.length) (hx:(asked ts t).2=[[x]]):Bb ts t vals=some x:=by
 have h1:=Acm (vals:=vals) (Bm2 ha) (Aaa h) hl
 rw [Aax h,ha,Bz8,Cf4 (by lia),hx] at h1
 rw [h1]; rfl
set_option tactic.hygienic true in
theorem Ahe:∀ {ts f c},c∈B6 ts->Bb ts (tab ts f) c=some (f c)
 | [],f,c,h=>by rw [B6,Bf6] at h; subst h; rfl
 | p :: ps,f,c,h=>by
  rw [B6,Ce7] at h
  obtain ⟨i,hi,h⟩:=h
  obtain ⟨c',h',rfl⟩:=Bh1.mp h
  have hi':=Bk6.mp hi
  have Atp:rowsOf (tab (p :: ps) f) p=(Bh8 (p + 1)).map fun i=>tab ps fun c=>f (i :: c):=by
    rw [Ag4]
    exact Aeb (z:=szs ps) (by simp) fun r hr=>by
     obtain ⟨j,_,rfl⟩:=Bh1.mp hr
     exact Ah7 ..
  have Aww:(rowsOf (tab (p :: ps) f) p)[i]?=some (tab ps fun c=>f (i :: c)):=by
    rw [Atp,Bf8,Ci4 hi']; rfl
  rw [Aiq]
  split
  · rw [if_neg (by lia),Bj8,Aww,Bm1]
    exact Ahe h'
  · rename_i q
    obtain ⟨r0,rs,hrs⟩:=Ad0 (tab (p :: ps) f) p
    rw [hrs] at q Aww ⊢
    have Asi:=Ad3 (Cl7 _ ▸ q)
    have:r0=tab ps fun c=>f (i :: c):=by
     have hm:=Bf9 Aww
     rw [Asi] at hm
     exact (Bo0 hm).symm
    rw [Bq5,this]
    exact Ahe h'
theorem Aoh {ts:List Nat} {t:List V} {k:Nat} {c:List Nat} {x:V} (h:t.length=szs ts) (hc:(B6 ts)[k]?=some c) (hx:t[k]?=some x):Bb ts t c=some x:=by
 obtain ⟨f,rfl⟩:=Aq7 h
 rw [Ahe (Bf9 hc)]
 rw [Aw2] at hx
 rw [Bf8,hc] at hx
 simpa using hx
set_option tactic.hygienic true in
theorem Aar (ts:List Nat) (T:List (List V)) (t:List V):∃ hd ab,canon ts T t=.tup [hd,ab]/\hd.dat=true/\hd.dep<=40/\As9 ts hd=.int (asked ts t).1 ∧
   (((asked ts t).1=ts.length/\hd=.str "leaf"/\ab=((asked ts t).2.headD []).headD .none)∨((asked ts t).1≠ts.length/\hd=.int (asked ts t).1/\ab=.tup ((Bh (asked ts t).2).map fun x=>Ad6 (x.1,numOf ts T x.2)))):=by
 unfold canon
 split
 · rename_i h
   exact ⟨_,_,rfl,rfl,by simp [V.dep],by rw [As9,if_pos rfl,h],.inl ⟨h,rfl,rfl⟩⟩
 · rename_i h
   exact ⟨_,_,rfl,rfl,by simp [V.dep],by rw [As9,if_neg (by simp)],.inr ⟨h,rfl,rfl⟩⟩
section
variable {w:World} {n:Nat} {σ:Sto} {ts:List Nat} {dn db dm:Addr} {T:List (List V)} {Q:V->Sto->Prop} {Y:Str->Sto->Prop}
noncomputable def Ahi (σ:Sto) (dn db:Addr) (D:List V):Sto:=(σ.put db (.Ad (Ap D))).put dn (.list D)
theorem Agn {D} (h:σ dn=some (.list D)) (hb:σ db=some (.Ad (Ap D))):Ahi σ dn db D=σ:=by
 unfold Ahi; rw [Sto.Acp hb,Sto.Acp h]
theorem Anf {v top:Nat} {S:List (List V)} {qs:List (Nat × Nat)} (H:Bf ts T) (h:σ dn=some (.list (An ts T))) (hb:σ db=some (.Ad (Ap (An ts T)))) (hne:dn≠db) (hl:T.length<=1000) (hv:ts[v]?=some top) (hv':v < 100)
   (hr:As (top + 1) 0 qs) (hq':qs.length<=100) (hS:S.length=top + 1) (hz:∀ s∈S,s.length=szs (ts.drop (v + 1))) (hT:∀ s∈S,whole (szs ts) s∈T) (hE:Aq 0 qs=S.map (numOf ts T))
   (hq:Q (.int ((B7 T (whole (szs ts) S.flatten)).idxOf (whole (szs ts) S.flatten):Nat)) (Ahi σ dn db (An ts (B7 T (whole (szs ts) S.flatten))))) :
   Fn (PM w) (n + 3) (.ref 100) [Ba ts dn db dm,.int v,.lst ((qs.map pI).map Av)] σ Q Y:=by
 have Bc3:∀ x∈S,∀ y∈S,numOf ts T x=numOf ts T y->x=y:=fun x hx y hy e=>Am1 (hT x hx) (hT y hy) (by rw [hz x hx]; exact Al ..) (by rw [hz x hx,hz y hy]) e
 have hj:joined (qs.map pI)=(Bh (S.map (numOf ts T))).map pI:=by rw [Apj hr,hE]
 have Aq9:atEnd top (qs.map pI)=top:=(Aey (by lia)).mpr (by have:=Ajp hr; simpa using this)
 have hDl:(An ts T).length=T.length:=by simp [An]
 refine Aq6 (n:=n) h hb hne (by rw [hDl]; exact hl) hv hv' (by rw [Be9]; exact hq') (fun e=>absurd Aq9 e) (fun p _ hp=>?_) (fun _ hl1 hm=>?_) (fun _ hl1 hm=>?_)
 · rw [hj,Ame _ Bc3] at hp
   obtain ⟨s0,hs⟩:∃ s0,Bh S=[s0]:=by
    have:=congrArg Bp5 hp
    simp only [Be9,Bo3] at this
    exact By8.mp this
   have hSr:S=Bg7 (top + 1) s0.2:=Cg3.mpr ⟨hS,An5 (e:=0) (by rw [<- hs]; exact (Abk S).2)⟩
   have hs0:s0.2∈S:=by rw [hSr]; simp
   have hu:whole (szs ts) S.flatten=whole (szs ts) s0.2:=by rw [hSr]; exact Ah8 hv (hz _ hs0)
   rw [hs] at hp
   have hp2:p.2=numOf ts T s0.2:=by
    simp only [Bg8,Bq4,Bn0,and_true] at hp
    rw [<- hp]
   rw [hu] at hq
   rw [show B7 T (whole (szs ts) s0.2)=T from if_pos (hT _ hs0),Agn h hb] at hq
   rw [hp2]; exact hq
 all_goals
   have hd:dif S=true:=by
    cases q:dif S with
    | true=>rfl
    | false=>
     obtain ⟨s0,S',rfl⟩:∃ s0 S',S=s0 :: S':=by
      cases S with
      | nil=>simp at hS
      | cons a b=>exact ⟨a,b,rfl⟩
     rw [hj,Ad3 q,Cj2,Asf] at hl1
     simp at hl1
   obtain ⟨ha,hlt⟩:=Aik hv hS hz hd
   have hc:V.tup [.int v,.tup ((joined (qs.map pI)).map Av)]=canon ts T (whole (szs ts) S.flatten):=by
    unfold canon
    rw [ha,if_neg (by dsimp only; lia),hj,Ame _ Bc3]
    simp only [Bi5]; rfl
   have hul:(whole (szs ts) S.flatten).length=szs ts:=by
    refine Ab6 ?_
    have hdr:ts.drop v=top :: ts.drop (v + 1):=by
     obtain ⟨hlt,e⟩:=Bf7.mp hv
     rw [Bj2 hlt,e]
    rw [Abe hz,hS,show (top + 1) * szs (ts.drop (v + 1))=szs (ts.drop v) by rw [hdr]; rfl]
    exact Al ..
   have hcu:∀ r∈(asked ts (whole (szs ts) S.flatten)).2,whole (szs ts) r∈T:=by rw [ha]; exact hT
   rw [hc] at hm ⊢
   have Ajs:=H.Aqh hul hcu
 · rw [H.Akw (Ajs.mp hm)]
   rw [show B7 T (whole (szs ts) S.flatten)=T from if_pos (Ajs.mp hm),Agn h hb] at hq
   exact hq
 · have hn:whole (szs ts) S.flatten ∉ T:=fun e=>hm (Ajs.mpr e)
   rw [Au2 H hcu,if_neg hn] at hq
   rw [show (B7 T (whole (szs ts) S.flatten)).idxOf (whole (szs ts) S.flatten)=(An ts T).length from by
    unfold B7; rw [if_neg hn,Br6,if_neg hn]; simp [An]] at hq
   exact hq
theorem Aer {ts x}:asked ts (whole (szs ts) [x])=(ts.length,[[x]]):=by
 have:=Aae (ts:=ts) (d:=ts.length) (s:=[x]) (Bh5 _) (by rw [Bz8]; rfl)
 rw [this,Bz8]; rfl
theorem Ase {x} (H:Bf ts T) (h:σ dn=some (.list (An ts T))) (hb:σ db=some (.Ad (Ap (An ts T)))) (hne:dn≠db) (hl:T.length<=1000) (hx:kv x)
   (hq:Q (.int ((B7 T (whole (szs ts) [x])).idxOf (whole (szs ts) [x]):Nat)) (Ahi σ dn db (An ts (B7 T (whole (szs ts) [x]))))):Fn (PM w) (n + 2) (.ref 93) [Ba ts dn db dm,x] σ Q Y:=by
 have hDl:(An ts T).length=T.length:=by simp [An]
 have hul:(whole (szs ts) [x]).length=szs ts:=Ab6 (by simp)
 have hc:V.tup [.str "leaf",x]=canon ts T (whole (szs ts) [x]):=by unfold canon; rw [Aer,if_pos rfl]; rfl
 refine Av9 h hb hne (by rw [hDl]; exact hl) hx.1 (by rw [hx.2]; lia) (fun hm=>?_) (fun hm=>?_)
 all_goals rw [hc] at hm ⊢
 · have Ajs:whole (szs ts) [x]∈T:=by
    obtain ⟨t,ht,e⟩:=Bh1.mp hm
    have e2:canon ts T t=.tup [.str "leaf",x]:=e.trans hc.symm
    obtain ⟨hd,ab,g1,_,_,_,g2⟩:=Aar ts T t
    rw [g1] at e2
    simp only [V.tup.injEq,Bn0,and_true] at e2
    rcases g2 with ⟨a1,a2,a3⟩ | ⟨a1,a2,a3⟩
    · obtain ⟨y,hy,wy⟩:=Abd (H.len t ht) a1
      rw [hy] at a3
      have:y=x:=by rw [<- e2.2,a3]; rfl
      rw [<- this,wy]; exact ht
    · rw [a2] at e2; simp at e2
   rw [H.Akw Ajs]
   rw [show B7 T (whole (szs ts) [x])=T from if_pos Ajs,Agn h hb] at hq
   exact hq
 · have hn:whole (szs ts) [x] ∉ T:=fun e=>hm (Bi7 e)
   have hD:An ts (B7 T (whole (szs ts) [x]))=An ts T ++ [canon ts T (whole (szs ts) [x])]:=by
    unfold B7 An
    rw [if_neg hn,Bg1]
    congr 1
    · exact Bj5 fun t ht=>Af7 (H.cl t ht)
    · rw [Bg8,Bq4]
      unfold canon; rw [Aer,if_pos rfl,if_pos rfl]
   rw [hD] at hq
   rw [show (B7 T (whole (szs ts) [x])).idxOf (whole (szs ts) [x])=(An ts T).length from by
    unfold B7; rw [if_neg hn,Br6,if_neg hn]; simp [An]] at hq
   exact hq
theorem Bf.leaf (H:Bf ts T) {x} (hx:kv x):Bf ts (B7 T (whole (szs ts) [x])):=by
 refine H.add (Ab6 (by simp)) (fun r hr=>?_) (fun y hy=>?_)
 · rw [Aer] at hr
   rw [Bf6.mp hr]; exact Adg
 · unfold whole at hy
   obtain ⟨l,h1,h2⟩:=Bt7.mp hy
   rw [Bo0 h1] at h2
   rw [Bf6.mp h2]; exact hx
theorem Abv {N s x} (h:x∈whole N s):x∈s:=by
 unfold whole at h
 obtain ⟨l,h1,h2⟩:=Bt7.mp h
 rw [Bo0 h1] at h2; exact h2
theorem Aav {N s x} (hd:s.length ∣ N) (h0:0 < N) (h:x∈s):x∈whole N s:=by
 have hs:0 < s.length:=Ch0 hd h0
 have h1:0 < N / s.length:=Cn4 (Ca9 h0 hd) hs
 unfold whole
 exact Bt7.mpr ⟨s,List.mem_replicate.mpr ⟨by exact r50 ‹_›,rfl⟩,h⟩
theorem Bf.join (H:Bf ts T) {v top:Nat} {S:List (List V)} (hv:ts[v]?=some top) (hS:S.length=top + 1) (hz:∀ s∈S,s.length=szs (ts.drop (v + 1))) (hT:∀ s∈S,whole (szs ts) s∈T):Bf ts (B7 T (whole (szs ts) S.flatten)):=by
 obtain ⟨hlt,e⟩:=Bf7.mp hv
 have hdr:ts.drop v=top :: ts.drop (v + 1):=by rw [Bj2 hlt,e]
 have hfl:S.flatten.length=szs (ts.drop v):=by rw [Abe hz,hS,hdr,Afu]
 have Alz:∀ y∈whole (szs ts) S.flatten,kv y:=fun y hy=>by
  obtain ⟨s,hs,hy⟩:=Bt7.mp (Abv hy)
  exact H.val _ (hT s hs) y (Aav (by rw [hz s hs]; exact Al ..) (Ah _) hy)
 cases q:dif S with
 | true=>
  refine H.add (Ab6 (by rw [hfl]; exact Al ..)) (fun r hr=>?_) Alz
  rw [(Aik hv hS hz q).1] at hr
  exact Ag6 (hT r hr)
 | false=>
  obtain ⟨s0,S',rfl⟩:∃ s0 S',S=s0 :: S':=by
   cases S with
   | nil=>simp at hS
   | cons a b=>exact ⟨a,b,rfl⟩
  have hu:whole (szs ts) (s0 :: S').flatten=whole (szs ts) s0:=by
   rw [Ad3 q,show S'.length + 1=top + 1 by simpa using hS]; exact Ah8 hv (hz _ (.head _))
  rw [hu,show B7 T (whole (szs ts) s0)=T from if_pos (hT _ (.head _))]
  exact H
theorem Asw {e l} (x:Nat) (h:As e 0 l):Ace (l.map pI) x=(Aq 0 l)[x]?:=by
 have:=Ajd (x:=x) h (Bi4 _)
 rw [Nat.sub_zero] at this
 rw [this]
 unfold Ace
 rw [Co1,Option.map_map]
 have e1:((fun p:Int × Nat=>decide ((x:Int)<=p.1)) ∘ pI)=fun p:Nat × Nat=>decide (x<=p.1):=funext fun p=>by simp [Bt0]
 rw [e1]; rfl
theorem Aj2 {t:List V} {k:Nat} {vals:List Nat} {c:V} (H:Bf ts T) (h:σ dn=some (.list (An ts T))) (hl:T.length<=1000) (h3:ts.length<=100) (hk:T[k]?=some t) (hvl:vals.length=ts.length)
   (Alz:Dv σ c (.lst ((vals.map fun x:Nat=>(x:Int)).map .int))∨c=.tup ((vals.map fun x:Nat=>(x:Int)).map .int)) (h1:Bb ts t vals=none->Y "a value past its variable's top" σ) (h2:∀ x,Bb ts t vals=some x->Q x σ) :
   Fn (PM w) (n + 4) (.ref 147) [Ba ts dn db dm,.int k,c] σ Q Y:=by
 obtain ⟨hd,ab,g1,_⟩:=Aar ts T t
 have hkl:k < T.length:=by rw [Bf7] at hk; exact hk.1
 refine Am4 (D:=An ts T) (k0:=ts.length - (asked ts t).1) (hd:=hd) (about:=ab) (fun j hd ab=>∃ u∈T,canon ts T u=.tup [hd,ab]/\Bb ts u vals=Bb ts t vals/\j=ts.length - (asked ts u).1) h Alz
   (by rw [Abn hk,g1]) (by exact r38 ‹_› ‹_›) ⟨t,Bf9 hk,g1,rfl,rfl⟩ ?_
 rintro j hd ab ⟨u,hu,e1,e2,e3⟩
 obtain ⟨hd',ab',g1,_,_,_,g2⟩:=Aar ts T u
 rw [g1] at e1
 simp only [V.tup.injEq,Bn0,and_true] at e1
 obtain ⟨rfl,rfl⟩:=e1
 have hul:=H.len u hu
 rcases g2 with ⟨a1,a2,a3⟩ | ⟨a1,a2,a3⟩
 · obtain ⟨x,hx,wx⟩:=Abd hul a1
   refine .inl ⟨a2,h2 _ ?_⟩
   rw [<- e2,Aok hul hvl a1 hx,a3,hx]; rfl
 · right
   have hle:=Aai (ts:=ts) (t:=u)
   have hlt:(asked ts u).1 < ts.length:=by exact r53 ‹_› ‹_›
   obtain ⟨top,B9⟩:∃ top,ts[(asked ts u).1]?=some top:=⟨_,Bf0 hlt⟩
   obtain ⟨x,hx⟩:∃ x,vals[(asked ts u).1]?=some x:=⟨_,Bf0 (by exact r46 ‹_› ‹_›)⟩
   have hrl:=Aa5 B9
   have hra:=Alu hul hvl B9 hx
   obtain ⟨r1,r2⟩:=Abk (asked ts u).2
   have hr1:=Ah6 (numOf ts T) r1
   have Bbw:=Asw x hr1
   rw [Adb,r2] at Bbw
   refine ⟨(asked ts u).1,((Bh (asked ts u).2).map fun x=>(x.1,numOf ts T x.2)).map pI,x,a2,by exact r38 ‹_› ‹_›,?_,?_,fun hb=>?_,fun c hc=>?_⟩
   · rw [a3,Bi5,Bi5]; rfl
   · rw [Bf8,hx]; rfl
   · rw [Bbw,List.getElem?_eq_none_iff,Be9,hrl] at hb
     refine h1 ?_
     rw [<- e2,hra,if_pos (by lia)]
   · rw [Bbw,Bf8] at hc
     obtain ⟨r,hr,hc⟩:=Bn6.mp hc
     have hrm:=Bf9 hr
     have hwm:=H.cl u hu r hrm
     have hxl:x < top + 1:=by rw [<- hrl]; exact (Bf7.mp hr).1
     have hcl:c < T.length:=by rw [<- hc]; exact Bk1 hwm
     obtain ⟨hd2,ab2,g3,_⟩:=Aar ts T (whole (szs ts) r)
     have Be5:(asked ts u).1 + 1<=(asked ts (whole (szs ts) r)).1:=by
       rw [Aae (d:=(asked ts u).1 + 1) hlt (Acl hul hrm)]; dsimp only; lia
     refine ⟨hd2,ab2,ts.length - (asked ts (whole (szs ts) r)).1,by exact r4 ‹_› ‹_› ‹_› ‹_›,by exact r38 ‹_› ‹_›,?_,whole (szs ts) r,hwm,g3,?_,rfl⟩
     · rw [<- g3]
       refine Abn ?_
       rw [<- hc]; exact Acb hwm
     · rw [<- e2,hra,if_neg (by lia),Bj8,hr]; rfl
end
theorem Asu {m w}:(rep (m + 1) w).take w.length=w:=by
 rw [Bl9,Al8,Aly]; simp
theorem Aic {N w} (hd:w.length ∣ N) (h0:0 < N):(whole N w).take w.length=w:=by
 have hs:0 < w.length:=Ch0 hd h0
 have h1:0 < N / w.length:=Cn4 (Ca9 h0 hd) hs
 rw [Aah,show N / w.length=(N / w.length - 1) + 1 by exact r31 ‹_›]; exact Asu
set_option tactic.hygienic true in
theorem Ah1 {ts t v top} (h:t.length=szs ts) (hv:ts[v]?=some top) (hle:v<=(asked ts t).1) :
   (rowsOf (t.take (szs (ts.drop v))) top).length=top + 1/\(∀ r∈rowsOf (t.take (szs (ts.drop v))) top,r.length=szs (ts.drop (v + 1)))/\whole (szs ts) (rowsOf (t.take (szs (ts.drop v))) top).flatten=t ∧
   ((asked ts t).1=v->rowsOf (t.take (szs (ts.drop v))) top=(asked ts t).2)/\(v < (asked ts t).1->∃ r0,rowsOf (t.take (szs (ts.drop v))) top=Bg7 (top + 1) r0/\whole (szs ts) r0=t):=by
 obtain ⟨hlt,e⟩:=Bf7.mp hv
 have hdr:ts.drop v=top :: ts.drop (v + 1):=by rw [Bj2 hlt,e]
 have hF:=Aaa h
 have hF0:0 < (asked ts t).2.flatten.length:=by rw [hF]; exact Ah _
 have hdd:(ts.drop v).drop ((asked ts t).1 - v)=ts.drop (asked ts t).1:=by rw [Cc4]; congr 1; exact Bm0 hle
 have hdv:(asked ts t).2.flatten.length ∣ szs (ts.drop v):=by rw [hF,<- hdd]; exact Al ..
 have hwl:(whole (szs (ts.drop v)) (asked ts t).2.flatten).length=szs (ts.drop v):=Ab6 hdv
 have hww:whole (szs ts) (whole (szs (ts.drop v)) (asked ts t).2.flatten)=t:=by
   refine Eq.trans ?_ (Aax h)
   obtain ⟨m,hm⟩:=hdv
   obtain ⟨k,hk⟩:=Al ts v
   have hM:=Ah (ts.drop v)
   rw [Aah (szs ts),hwl,Aah (szs (ts.drop v)),Aah (szs ts),Aj0,hk,Bj6 _ hM,hm,Bj6 _ hF0,Ce4,Bj6 _ hF0,Br5]
 have htk:t.take (szs (ts.drop v))=whole (szs (ts.drop v)) (asked ts t).2.flatten:=by
   have:=Aic (N:=szs ts) (w:=whole (szs (ts.drop v)) (asked ts t).2.flatten) (by rw [hwl]; exact Al ..) (Ah _)
   rw [hww,hwl] at this; exact this
 rw [htk]
 generalize hw:whole (szs (ts.drop v)) (asked ts t).2.flatten=w at *
 have hwl':w.length=(top + 1) * szs (ts.drop (v + 1)):=by rw [hwl,hdr,Afu]
 have Axk:asked (ts.drop v) w=((asked ts t).1 - v,(asked ts t).2):=by
   have h1:=Aae (ts:=ts) (d:=(asked ts t).1) (s:=(asked ts t).2.flatten) Aai hF
   rw [Aax h] at h1
   have h2:=Aae (ts:=ts.drop v) (d:=(asked ts t).1 - v) (s:=(asked ts t).2.flatten) (by have:=Aai (ts:=ts) (t:=t); rw [Bo9]; exact Ch6 this _) (by rw [hdd]; exact hF)
   rw [hw,hdd] at h2
   have e1:=congrArg Cp2 h1
   have e2:=congrArg Prod.snd h1
   dsimp only at e1 e2
   rw [h2,<- e2]
   simp only [Bu7,and_true]; lia
 rw [hdr,Aaq] at Axk
 refine ⟨Aeo ..,fun r hr=>Adl hwl' hr,?_,fun q=>?_,fun q=>?_⟩
 · rw [Ae0 hwl']; exact hww
 · split at Axk
   · exact congrArg Prod.snd Axk
   · have:=congrArg Cp2 Axk; dsimp only at this; exact absurd (this.trans (by rw [q,Nat.sub_self])) (Nat.succ_ne_zero _)
 · split at Axk
   · have:=congrArg Cp2 Axk; dsimp only at this; exact absurd this (Bl8 (Nat.sub_pos_of_lt q))
   · rename_i hd
     obtain ⟨r0,rs,hrs⟩:=Ad0 w top
     have Asi:=Ad3 (r:=r0) (S:=rs) (by rw [<- hrs]; exact Cl7 _ ▸ hd)
     have hlen:rs.length + 1=top + 1:=by have:=Aeo w top; rw [hrs] at this; simpa using this
     rw [hlen] at Asi
     refine ⟨r0,by rw [hrs,Asi],?_⟩
     rw [<- Ah8 hv (Adl hwl' (by rw [hrs]; exact .head _)),<- Asi,<- hrs,Ae0 hwl']; exact hww
noncomputable def Akd (ts:List Nat) (T:List (List V)) (t:List V) (k v top:Nat):List (Nat × Nat):=if (asked ts t).1=v then (Bh (asked ts t).2).map fun x=>(x.1,numOf ts T x.2) else [(top,k)]
section
variable {w:World} {n:Nat} {σ:Sto} {T:List (List V)} {Q:V->Sto->Prop} {Y:Str->Sto->Prop}
theorem Af9 {ts t k v top} (H:Bf ts T) (hk:T[k]?=some t) (hv:ts[v]?=some top) (hle:v<=(asked ts t).1) :
   As (top + 1) 0 (Akd ts T t k v top)/\Aq 0 (Akd ts T t k v top)=(rowsOf (t.take (szs (ts.drop v))) top).map (numOf ts T)/\∀ r∈rowsOf (t.take (szs (ts.drop v))) top,whole (szs ts) r∈T:=by
 have ht:=Bf9 hk
 obtain ⟨c1,c2,c3,c4,c5⟩:=Ah1 (H.len t ht) hv hle
 unfold Akd
 by_cases q:(asked ts t).1=v
 · rw [if_pos q,c4 q]
   obtain ⟨r1,r2⟩:=Abk (asked ts t).2
   rw [<- c4 q,c1,c4 q] at r1
   exact ⟨Ah6 _ r1,by rw [Adb,r2],fun r hr=>H.cl t ht r hr⟩
 · rw [if_neg q]
   obtain ⟨r0,d1,d2⟩:=c5 (by exact r54 ‹_› ‹_›)
   rw [d1]
   refine ⟨⟨Bi4 _,by simp,rfl⟩,?_,fun r hr=>?_⟩
   · simp only [Aq,Bh4,Cj2]
     unfold numOf
     rw [d2,Ach H.nd hk]; rfl
   · rw [Bo0 hr,d2]; exact ht
theorem Ag2 {α:Type} [DecidableEq α] {rs:List α}:(Bh rs).length<=rs.length:=by unfold Bh; rw [Be9]; exact Ack
theorem Anv {m l p} (h:l < m) (hp:p l=true) (hj:∀ j,j < l->p j=false):((Bh8 m).filter p)[0]?=some l:=by
 rw [<- List.head?_eq_getElem?,List.head?_filter,List.find?_range_eq_some]
 exact ⟨hp,Bk6.mpr h,fun j hjl=>by simp [hj j hjl]⟩
theorem Ao5 {wl nl:Addr} {a:Wo} {i j:Nat} {ta tb:List V} (H:Bf a.A1 T) (hw:σ wl=some (.A5 a.es)) (hD:σ a.dn=some (.list (An a.A1 T))) (hnu:σ nl=some (.Ad (Ap (T.map .tup)))) (h3:a.A1.length=3) (B9:∀ p∈a.A1,p<=10)
   (hs:szs a.A1<=100) (hc:a.cells.length=szs a.A1) (hl:T.length<=100) (hi:T[i]?=some ta) (hj:T[j]?=some tb) (hq:Q (.bool true) σ) :
   Fn (PM w) (n + 6) (.ref 358) [.loc wl,.loc nl,.tup [.int i,.tup ta],.tup [.int j,.tup tb]] σ Q Y:=by
 have hta:=Bf9 hi
 have htb:=Bf9 hj
 have hla:=H.len _ hta
 have hlb:=H.len _ htb
 have key:∀ {v:Nat},v=min (asked a.A1 ta).1 (asked a.A1 tb).1->v < 3->a.A1[v]?=some (a.A1.getD v 0):=fun _ hv=>by
   rw [Bj8,Bf0 (by exact r46 ‹_› ‹_›)]; rfl
 generalize hv:min (asked a.A1 ta).1 (asked a.A1 tb).1=v at key
 have key:=key rfl
 generalize a.A1.getD v 0=top at key
 have Ajs:∀ {r:List V},whole (szs a.A1) r∈T->Am (Ap (T.map V.tup)) (.tup (whole a.cells.length r))=some (.int (numOf a.A1 T r:Nat)):=fun {r} hr=>by
   rw [hc,Ab8,if_pos (Bi7 hr),idx_map (f:=V.tup) fun x _ e=>by cases (e); rfl]; rfl
 have Akq:∀ {r:List V},whole (szs a.A1) r∈T->V.keys (whole a.cells.length r)=true/\V.Bc (whole a.cells.length r)<=7:=fun {r} hr=>by
   rw [hc]; have:=Agr (H.val _ hr); exact ⟨this.1,by rw [this.2]; lia⟩
 refine Ary (v:=v) (top:=top) (ps:=Ac8 ((Akd a.A1 T ta i v top).map pI) ((Akd a.A1 T tb j v top).map pI)) hw hnu h3 B9 hla hlb hs (fun x hx=>(H.val _ hta x hx).flat) (fun x hx=>(H.val _ htb x hx).flat) (fun q=>key q) hv.symm (fun q Q' Y' hQ'=>?_) (fun hn q=>?_) (by lia) (fun he=>?_) hq
 · have hk:=key q
   obtain ⟨ra1,ra2,ra3⟩:=Af9 H hi hk (by exact r12 ‹_›)
   obtain ⟨rb1,rb2,rb3⟩:=Af9 H hj hk (by exact r11 ‹_›)
   obtain ⟨ha,aa,p1,p2,p3,p4,p5⟩:=Aar a.A1 T ta
   obtain ⟨hb,ab,q1,q2,q3,q4,q5⟩:=Aar a.A1 T tb
   have htl:top<=10:=B9 _ (Bf9 hk)
   have sideV:∀ {t:List V} {k:Nat} {hd x:V},T[k]?=some t->v<=(asked a.A1 t).1->(((asked a.A1 t).1=a.A1.length/\hd=.str "leaf"/\x=((asked a.A1 t).2.headD []).headD .none)∨((asked a.A1 t).1≠a.A1.length/\hd=.int (asked a.A1 t).1/\x=.tup ((Bh (asked a.A1 t).2).map fun x=>Ad6 (x.1,numOf a.A1 T x.2)))) ->
       (if hd=.int v then x else .tup [.tup [.int top,.int k]])=.tup (((Akd a.A1 T t k v top).map pI).map Av)/\((Akd a.A1 T t k v top).map pI).length<=100:=fun {t k hd x} hk' hle hx=>by
     unfold Akd
     rcases hx with ⟨e1,e2,e3⟩ | ⟨e1,e2,e3⟩
     · rw [e2,if_neg (by simp),if_neg (by lia)]; exact ⟨rfl,by simp⟩
     · by_cases z:(asked a.A1 t).1=v
       · rw [e2,if_pos (by rw [z]),if_pos z,e3]
         refine ⟨by rw [Bi5,Bi5]; rfl,?_⟩
         have:=Ag2 (rs:=(asked a.A1 t).2)
         have:=(Aam (t:=t) B9).1
         simp only [Be9]; lia
       · rw [e2,if_neg (by simp only [V.int.injEq]; lia),if_neg z]; exact ⟨rfl,by simp⟩
   obtain ⟨sa1,sa2⟩:=sideV hi (by exact r12 ‹_›) p5
   obtain ⟨sb1,sb2⟩:=sideV hj (by exact r11 ‹_›) q5
   have hil:=(Bf7.mp hi).1
   have hjl:=(Bf7.mp hj).1
   refine Aso (D:=An a.A1 T) hD (by rw [Abn hi,p1]) (by rw [Abn hj,q1]) (by exact Bh0 hil (Be7 hl (by decide))) (by exact Bh0 hjl (Be7 hl (by decide))) p2 p3 q2 q3 p4 q4 hv.symm hk (by lia) (by lia) sa1 sb1 (by have:=Ajp ra1; simpa using this) (by have:=Ajp rb1; simpa using this) sa2 sb2 hQ'
 · have hk:=key q
   obtain ⟨ra1,ra2,ra3⟩:=Af9 H hi hk (by exact r12 ‹_›)
   obtain ⟨rb1,rb2,rb3⟩:=Af9 H hj hk (by exact r11 ‹_›)
   obtain ⟨ca1,ca2,ca3,_⟩:=Ah1 hla hk (by exact r12 ‹_›)
   obtain ⟨cb1,cb2,cb3,_⟩:=Ah1 hlb hk (by exact r11 ‹_›)
   have Bdm:rowsOf (ta.take (szs (a.A1.drop v))) top≠rowsOf (tb.take (szs (a.A1.drop v))) top:=fun e=>hn (by rw [<- ca3,<- cb3,e])
   have hum:=Abh _ _ 0 ra1 rb1
   rw [ra2,rb2] at hum
   generalize rowsOf (ta.take (szs (a.A1.drop v))) top=Ra at *
   generalize rowsOf (tb.take (szs (a.A1.drop v))) top=Rb at *
   have Bcb:∀ {k:Nat} {x y:List V},Ra[k]?=some x->Rb[k]?=some y->numOf a.A1 T x=numOf a.A1 T y->x=y:=fun {k x y} hx hy e=>by
     have mx:=Bf9 hx
     have my:=Bf9 hy
     exact Am1 (ra3 x mx) (rb3 y my) (by rw [ca2 x mx]; exact Al ..) (by rw [ca2 x mx,cb2 y my]) e
   obtain ⟨l,x,y,f1,f2,f3,f4,f5⟩:=Aeu (k:=0) (A:=Ra.map (numOf a.A1 T)) (B:=Rb.map (numOf a.A1 T)) (by simp [ca1,cb1]) (fun e=>Bdm (by
     apply Bt8 (by rw [ca1,cb1])
     intro k k1 k2
     refine Bcb (Bf0 k1) (Bf0 k2) ?_
     have:=congrArg (fun l=>l[k]?) e
     simpa [Bf8,Bf0 k1,Bf0 k2] using this))
   rw [Bf8] at f1 f2
   obtain ⟨ra,g1,rfl⟩:=Bn6.mp f1
   obtain ⟨rb,g2,rfl⟩:=Bn6.mp f2
   have m1:=Bf9 g1
   have m2:=Bf9 g2
   have hll:l < top + 1:=by rw [<- ca1]; exact (Bf7.mp g1).1
   have k1:=Akq (ra3 ra m1)
   have k2:=Akq (rb3 rb m2)
   have z1:=ca2 ra m1
   have z2:=cb2 rb m2
   have zp:=Ah (a.A1.drop (v + 1))
   have zl:=Ca9 (Ah a.A1) (Al a.A1 (v + 1))
   refine ⟨l,_,_,ra,rb,by lia,?_,g1,g2,Ajs (ra3 ra m1),Ajs (rb3 rb m2),k1.1,k1.2,k2.1,k2.2,?_,?_,by lia,by lia,?_⟩
   · refine Anv hll ?_ fun j hj=>?_
     · rw [g1,g2]; simp only [ne_eq,Bs1,decide_eq_true_eq]
       exact fun e=>f3 (by rw [e])
     · have:=f4 j hj
       have j1:j < Ra.length:=by rw [ca1]; exact Bj3 hj hll
       have j2:j < Rb.length:=by rw [cb1]; exact Bj3 hj hll
       rw [Bf8,Bf8,Bf0 j1,Bf0 j2] at this
       simp only [Bl5,Bs1] at this
       have e:=Bcb (Bf0 j1) (Bf0 j2) this
       rw [Bf0 j1,Bf0 j2,e]; simp
   · rintro rfl; simp at z1; lia
   · rintro rfl; simp at z2; lia
   · have h5:=hum.trans f5
     simpa using h5
 · subst he
   by_cases q:v < 3
   · have hk:=key q
     obtain ⟨ra1,ra2,ra3⟩:=Af9 H hi hk (by exact r11 ‹_›)
     obtain ⟨rb1,rb2,rb3⟩:=Af9 H hj hk (by exact r11 ‹_›)
     have hum:=Abh _ _ 0 ra1 rb1
     rw [ra2,rb2] at hum
     rw [Aev] at hum
     simpa using hum
   · have hij:i=j:=by rw [<- Ach H.nd hi,<- Ach H.nd hj]
     subst hij
     have:∀ (A:List (Int × Nat)) (k:Int),unlike k (Ac8 A A)=none:=by
       intro A
       induction A with
       | nil=>intro k; rw [Adu (.inl rfl)]; rfl
       | cons a r ih=>intro k; obtain ⟨x,y⟩:=a; rw [Abx,if_pos rfl,Aiw,if_neg (by simp)]; exact ih _
     exact this _ _
end
section
variable {P:Pm} {n:Nat} {fx:Fx} {σ:Sto} {m:A8} {X:Xt}
theorem Axo {β:Type} {elt target iter ifs scope pos Q} (l:Addr) (xs:List β) (f:β->V) (G:β->Option V) (ok:Ae1 scope fx.sc=true)
  (h:Ev P n fx iter σ m (fun v σ1=>v=.loc l/\σ1 l=some (.list (xs.map f))/\σ1=σ) X) (hl:xs.length<=100000)
  (hgo:(∃ elts k pos,target=.Tuple elts k pos)∨((∀ it v,Bl4 target it v=pure ())/\false=false))
  (Ay:∀ acc,σ acc=none->∀ x∈xs,∀ vs,Bd P n ⟨Als scope fx.sc,true⟩ target (f x) (σ.put acc (.list vs)) (Alb scope m) (fun σ2 m1=>Al5 (Alb scope m) m1/\Ts P n ⟨Als scope fx.sc,true⟩ ifs σ2 m1 (fun b σ3=>if b then
   Ev P n ⟨Als scope fx.sc,true⟩ elt σ3 m1 (fun v σ4=>G x=some v/\Sub (σ.put acc (.list vs)) σ4) noX
   else G x=none/\Sub (σ.put acc (.list vs)) σ3)) noX) (hq:Q (.lst (xs.filterMap G)) σ)
  (hs:∀ env x,Bo6 iter env x=pure x):Ev P n fx (.ListComp elt [⟨target,iter,ifs,0⟩] scope pos) σ m Q X:=by
 refine Amv (en:=false) (src:=some (l,xs.map f)) ok (Atz (Ag h fun v σ1 ⟨e1,e2,e3⟩=>⟨e1,e2,?_⟩)) hs
 subst e3
 intro acc B1
 refine Ams xs f G rfl (fun ll all e=>?_) hgo hl ⟨_,Sto.A0 ..,by rw [Sto.Abm B1]; exact hq⟩ (Ay acc B1)
 cases e
 exact ⟨e2,by rintro rfl; rw [B1] at e2; cases e2⟩
theorem Ba4 {c σ m} {β:Type} {elt t it ifs scope pos Q} (l:Addr) (xs:List β) (f:β->V) (G:β->Option V) (ok:(Ae1 scope c.fx.sc && (goT t false && (Apd t).all fun x=>scope.names.lookup x != some .free))=true)
  (hit:wE c it σ m fun v σ1=>v=.loc l/\σ1=σ) (hx:σ l=some (.list (xs.map f))) (hl:xs.length<=100000) (hq:Q (.lst (xs.filterMap G)) σ)
  (Ay:∀ acc,σ acc=none->∀ x∈xs,∀ vs K1 K0,(∀ v,G x=some v->K1 v (σ.put acc (.list vs)))->(G x=none->K0 (σ.put acc (.list vs)))->wBd (c.inC scope) t (f x) (cm scope m) (wIf (c.inC scope) elt ifs (σ.put acc (.list vs)) K1 K0))
  (hs:∀ env x,Bo6 it env x=pure x:=by intro _ _; rfl):Ev c.P c.n c.fx (.ListComp elt [⟨t,it,ifs,0⟩] scope pos) σ (vof m) Q c.X:=by
 rw [Bg0,Bg0] at ok
 refine Axo l xs f G ok.1 (Ag ((Aca c 40).1 _ _ _ _ hit) fun v σ1 q=>⟨q.1,by rw [q.2]; exact hx,q.2⟩) hl (Aif ok.2.1) (fun acc B1 x hxm vs=>?_) hq hs
 rw [Adh]
 exact Aqx ok.2.2 (Ay acc B1 x hxm vs (fun v σ'=>G x=some v/\Sub (σ.put acc (.list vs)) σ') (fun σ'=>G x=none/\Sub (σ.put acc (.list vs)) σ') (fun v a=>⟨a,Sub.refl _⟩) fun a=>⟨a,Sub.refl _⟩)
end
noncomputable def Pw {β:Type} (R:β->V->Prop):List β->List V->Prop
 | [],[]=>True
 | x :: l,v :: vs=>R x v/\Pw R l vs
 | _,_=>False
theorem Ar0 {β:Type} {R:β->V->Prop}:∀ {l:List β} {vs:List V} {x:β} {v:V},Pw R l vs->R x v->Pw R (l ++ [x]) (vs ++ [v])
 | [],[],x,v,h,k=>⟨k,trivial⟩
 | [],_ :: _,x,v,h,k=>h.elim
 | _ :: _,[],x,v,h,k=>h.elim
 | y :: l,u :: vs,x,v,h,k=>⟨h.1,Ar0 h.2 k⟩
theorem Auo {β:Type} {R:β->V->Prop}:∀ {l:List β} {vs:List V},Pw R l vs->vs.length=l.length
 | [],[],h=>rfl
 | [],_ :: _,h=>h.elim
 | _ :: _,[],h=>h.elim
 | y :: l,u :: vs,h=>by simp [Auo h.2]
theorem Ana {β γ:Type} {R} (f:β->γ->V) (S:β->γ->Prop):∀ {l vs},Pw R l vs->(∀ x∈l,∀ v,R x v->∃ y,v=f x y/\S x y)->∃ ys:List (β × γ),ys.map (·.1)=l/\vs=ys.map (fun p=>f p.1 p.2)/\∀ p∈ys,S p.1 p.2
 | [],[],h,_=>⟨[],rfl,rfl,by simp⟩
 | [],_ :: _,h,_=>h.elim
 | _ :: _,[],h,_=>h.elim
 | y :: l,u :: vs,h,k=>by
  obtain ⟨z,rfl,hz⟩:=k y (.head _) u h.1
  obtain ⟨ys,e1,e2,e3⟩:=Ana f S h.2 fun x hx=>k x (.tail _ hx)
  exact ⟨(y,z) :: ys,by simp [e1],by simp [e2],fun p hp=>by
   rcases Bh7.mp hp with rfl | hp
   · exact hz
   · exact e3 p hp⟩
theorem Ah4 {ts t d} (h:t.length=szs ts) (hle:d<=(asked ts t).1):(t.take (szs (ts.drop d))).length=szs (ts.drop d)/\whole (szs ts) (t.take (szs (ts.drop d)))=t:=by
 have hF:=Aaa h
 have hF0:0 < (asked ts t).2.flatten.length:=by rw [hF]; exact Ah _
 have hdd:(ts.drop d).drop ((asked ts t).1 - d)=ts.drop (asked ts t).1:=by rw [Cc4]; congr 1; exact Bm0 hle
 have hdv:(asked ts t).2.flatten.length ∣ szs (ts.drop d):=by rw [hF,<- hdd]; exact Al ..
 have hwl:(whole (szs (ts.drop d)) (asked ts t).2.flatten).length=szs (ts.drop d):=Ab6 hdv
 have hww:whole (szs ts) (whole (szs (ts.drop d)) (asked ts t).2.flatten)=t:=by
  refine Eq.trans ?_ (Aax h)
  obtain ⟨m,hm⟩:=hdv
  obtain ⟨k,hk⟩:=Al ts d
  have hM:=Ah (ts.drop d)
  rw [Aah (szs ts),hwl,Aah (szs (ts.drop d)),Aah (szs ts),Aj0,hk,Bj6 _ hM,hm,Bj6 _ hF0,Ce4,Bj6 _ hF0,Br5]
 have htk:t.take (szs (ts.drop d))=whole (szs (ts.drop d)) (asked ts t).2.flatten:=by
  have:=Aic (N:=szs ts) (w:=whole (szs (ts.drop d)) (asked ts t).2.flatten) (by rw [hwl]; exact Al ..) (Ah _)
  rw [hww,hwl] at this; exact this
 rw [htk]; exact ⟨hwl,hww⟩
theorem Afl {α β:Type} (f:α->β) {e}:∀ {l low},As e low (l.map fun x=>(x.1,f x.2))->As e low l
 | [],_,h=>h
 | p :: r,low,h=>⟨h.1,h.2.1,Afl f h.2.2⟩
theorem Agv:∀ (l:List V) (k:Nat),Aho k l=(Bh8 l.length).map fun i=>.tup [.int ((k + i:Nat):Int),l.getD i .none]
 | [],k=>rfl
 | a :: l,k=>by
  rw [Awy,Agv l,Bh3,By7,Bg8,Bi5]
  congr 1
  refine Bj5 fun i _=>?_
  simp only [Bt0,List.getD_cons_succ]
  rw [show k + 1 + i=k + Nat.succ i by lia]
theorem Am9 {v}:∀ {l},(Ax5 l v)[0]?=(l.find? fun p=>decide (v<=p.1)).map (·.2)
 | []=>rfl
 | p :: l=>by
  have ih:=Am9 (v:=v) (l:=l)
  unfold Ax5 at ih ⊢
  rw [Bq2,Bk2]
  by_cases q:v<=p.1
  · simp [q]
  · simp [q,ih]
theorem Ajh {α:Type} {x:α}:∀ {l:List (Nat × α)} {low:Nat},x∈Aq low l->∃ p∈l,p.2=x
 | [],_,h=>by cases h
 | p :: r,low,h=>by
  rw [Aq] at h
  rcases Bh6.mp h with h | h
  · exact ⟨p,.head _,(Bo0 h).symm⟩
  · obtain ⟨q,hq,e⟩:=Ajh h
    exact ⟨q,.tail _ hq,e⟩
theorem Atk {ts:List Nat} {T:List (List V)} (H:Bf ts T) {v top:Nat} (hv:ts[v]?=some top) {ps:List (Nat × List V)} (hr:As (top + 1) 0 ps) (hm:∀ p∈ps,p.2∈T/\v < (asked ts p.2).1) :
   ∃ S:List (List V),S.length=top + 1/\(∀ s∈S,s.length=szs (ts.drop (v + 1)))/\(∀ s∈S,whole (szs ts) s∈T)/\Aq 0 (ps.map fun x=>(x.1,T.idxOf x.2))=S.map (numOf ts T) ∧
    ∀ (k:Nat) (c:List Nat) (x:Nat),(B6 ts)[k]?=some c->c[v]?=some x->∃ t,(ps.find? fun p=>decide (x<=p.1)).map (·.2)=some t/\t∈T/\(whole (szs ts) S.flatten)[k]?=t[k]?:=by
 have hE:∀ t∈Aq 0 ps,t∈T/\v < (asked ts t).1:=fun t ht=>by
   obtain ⟨p,hp,rfl⟩:=Ajh ht; exact hm p hp
 have hck:∀ t∈Aq 0 ps,(t.take (szs (ts.drop (v + 1)))).length=szs (ts.drop (v + 1))/\whole (szs ts) (t.take (szs (ts.drop (v + 1))))=t:=fun t ht=>Ah4 (H.len t (hE t ht).1) (hE t ht).2
 have hl:=Ada hr
 refine ⟨(Aq 0 ps).map fun t=>t.take (szs (ts.drop (v + 1))),by rw [Be9,hl]; lia,fun s hs=>?_,fun s hs=>?_,?_,fun k c x hc hx=>?_⟩
 · obtain ⟨t,ht,rfl⟩:=Bh1.mp hs; exact (hck t ht).1
 · obtain ⟨t,ht,rfl⟩:=Bh1.mp hs
   rw [(hck t ht).2]; exact (hE t ht).1
 · rw [Adb (fun t=>T.idxOf t),Bi5]
   refine Bj5 fun t ht=>?_
   simp only [Bt0,numOf]
   rw [(hck t ht).2]
 · have hxt:x<=top:=(Acf (Bf9 hc)).2 v x top hx hv
   obtain ⟨t,ht⟩:∃ t,(Aq 0 ps)[x]?=some t:=⟨_,Bf0 (by rw [hl]; lia)⟩
   have hg:=Ajd (x:=x) hr (Bi4 _)
   rw [Nat.sub_zero,ht] at hg
   have htm:=Bf9 ht
   refine ⟨t,hg.symm,(hE t htm).1,?_⟩
   rw [Apo hv (by rw [Be9,hl]; lia) (fun s hs=>by obtain ⟨t,ht,rfl⟩:=Bh1.mp hs; exact (hck t ht).1) hc hx (by rw [Bf8,ht]; rfl),(hck t htm).2]
theorem Aio {top}:∀ {pp lo},pp≠[]->(Aga top lo pp ↔ (∀ h,(pp.map (·.1)).head?=some h->lo < h)/\(pp.map (·.1)).getLast?=some top/\∀ k,k + 1 < pp.length->(pp.map (·.1)).getD k 0 < (pp.map (·.1)).getD (k + 1) 0)
 | [],lo,h=>absurd rfl h
 | [p],lo,_=>by
  show (lo < p.1/\p.1<=top/\p.1=top) ↔ _
  simp
  lia
 | p :: q :: r,lo,_=>by
  show (lo < p.1/\p.1<=top/\Aga top p.1 (q :: r)) ↔ _
  constructor
  · rintro ⟨h1,h2,h3⟩
    obtain ⟨a1,a2,a3⟩:=(Aio (by simp)).mp h3
    refine ⟨by simpa using h1,by simpa using a2,fun k hk=>?_⟩
    cases k with
    | zero=>simpa using a1 q.1 (by simp)
    | succ k=>simpa using a3 k (by simpa using hk)
  · rintro ⟨h1,h2,h3⟩
    have h4:Aga top p.1 (q :: r):=(Aio (by simp)).mpr ⟨fun h hh=>by
     have:=h3 0 (by simp)
     simp at hh this; lia,by simpa using h2,fun k hk=>by simpa using h3 (k + 1) (by simpa using hk)⟩
    exact ⟨by simpa using h1,h4.le,h4⟩
section
variable {P:Pm} {n:Nat} {fx:Fx} {σ:Sto} {m:A8} {X:Xt}
theorem Arp {i k Q} (hi:k=i.toNat) (h:Q (Ai7 0 k) σ) (h1:-1000000<=i) (h2:i<=1000000):BtI P n false (.type "range") [.int i] σ Q:=
 fun A st B g env m s vals hr hv hm=>by
  cases hv with
  | cons hv t=>
   cases t; cases hv
   refine call_range_1 ?_
   refine Cl8 (Cq1 ..) (small_one (by exact r30) (by exact r30) (by lia) (by lia)) ?_
   have e:Cb1 0 i 1=(k:Int):=by rw [rangeSize_one]; split <;> lia
   exact Agc hr (by rw [e]; exact Bi1 _ rfl) h
theorem Ayp {β:Type} {elt target iter:Expr} {scope:Scope} {pos:Pos} {acc pa:Addr} {Q:Sto->Prop} (σp:List Int->Sto) (l:List β) (f:β->V) (R:β->V->Prop) {ns:List Int} (hns:ns.length<=66)
   (hgo:(∃ elts k pos,target=.Tuple elts k pos)∨((∀ it v,Bl4 target it v=pure ())/\false=false)) (hl:l.length<=1000)
   (Ajg:∀ vs ms,Pw R l vs->ms.length<=66->Q ((σp ms).put acc (.list vs)))
   (Ay:∀ x∈l,∀ vs ms,ms.length<=66->Bd P n fx target (f x) ((σp ms).put acc (.list vs)) m (fun σ1 m1=>Al5 m m1/\Ts P n fx [] σ1 m1 (fun b σ2=>b=true ∧
      Ev P n fx elt σ2 m1 (fun v σ3=>R x v/\∃ ms',ms'.length<=66/\Sub ((σp ms').put acc (.list vs)) σ3) noX)) noX) :
   Cl P n fx false (.ListComp elt [⟨target,iter,[],0⟩] scope pos) 0 acc (l.map f) ((σp ns).put acc (.list [])) m Q:=by
 refine Ap0 (src:=none) (α:=List Int) (c:=⟨target,iter,[],0⟩) (τ:=σp) (I:=fun r vs ms=>ms.length<=66/\∃ d e,l=d ++ e/\r=e.map f/\Pw R d vs) rfl (fun _ _ _ e=>nomatch e) hgo ?_ ?_ (l.map f) [] ns ⟨hns,[],l,rfl,rfl,trivial⟩
 · rintro vs ms ⟨h0,d,e,e1,e2,e3⟩
   have:e=[]:=by cases e with | nil=>rfl | cons=>simp at e2
   subst this
   rw [Bh4] at e1
   subst e1
   exact Ajg vs ms e3 h0
 · rintro x r vs ms ⟨h0,d,e,e1,e2,e3⟩
   cases e with
   | nil=>simp at e2
   | cons y e=>
   simp only [Bg8,Bn0] at e2
   obtain ⟨rfl,rfl⟩:=e2
   refine ⟨?_,?_⟩
   · rw [Auo e3]; have:=congrArg Bp5 e1; simp at this; exact Be7 (Be7 (Bg9 ..) (this ▸ hl)) (by decide)
   · refine fun A st B g env s v he hr hm hv=>Bf2 (Ay y (by rw [e1]; simp) vs ms h0 A st B g env s v he hr hm hv) (fun _ s' qM=>?_) fun _ _ x=>x
     obtain ⟨g',σ',m',hg,hr',hk,hq⟩:=qM
     refine ⟨g',σ',m',hg,hr',hk,?_⟩
     refine JS.mono hq (fun b σ'' m'' qM=>?_) fun _ _ _ x=>x
     obtain ⟨e1',hh⟩:=qM
     refine ⟨e1',?_⟩
     obtain ⟨rfl,hh⟩:=hh
     simp only [if_true]
     exact Ag hh fun v σ3 qD=>by obtain ⟨h1,ms',h2,h3⟩:=qD; exact ⟨ms',⟨h2,d ++ [y],e,by simp [e1],rfl,Ar0 e3 h1⟩,h3⟩
theorem Arj {c:Cf} {m:Vs} {β:Type} {elt t it:Expr} {scope:Scope} {pos:Pos} {Q:V->Sto->Prop} (σp:List Int->Sto) (l:List β) (f:β->V) (R:β->V->Prop) {ns:List Int} (hgo:(goT t false && (Apd t).all fun x=>scope.names.lookup x != some .free)=true) (hns:ns.length<=66) (hl:l.length<=1000)
  (hn:∀ ms acc,σp ns acc=none->σp ms acc=none) (Ajg:∀ vs ms,Pw R l vs->ms.length<=66->Q (.lst vs) (σp ms))
  (Ay:∀ acc,σp ns acc=none->∀ x∈l,∀ vs ms (K:V->Sto->Prop),ms.length<=66->(∀ v ms',R x v->ms'.length<=66->K v ((σp ms').put acc (.list vs)))->wBd (c.inC scope) t (f x) (cm scope m) fun m1=>wE (c.inC scope) elt ((σp ms).put acc (.list vs)) m1 K) :
  Lcm c elt t it [] scope pos m Q false (l.map f) (σp ns):=by
 rw [Bg0] at hgo
 intro acc B1
 refine Ayp (pa:=acc) σp l f R hns (Aif hgo.1) hl (fun vs ms h1 h2=>⟨vs,Sto.A0 ..,by rw [Sto.Abm (hn ms acc B1)]; exact Ajg vs ms h1 h2⟩) fun x hx vs ms hms=>?_
 rw [Adh]
 have h:=Ay acc B1 x hx vs ms (fun v σ3=>R x v/\∃ ms',ms'.length<=66/\Sub ((σp ms').put acc (.list vs)) σ3) hms fun v ms' a b=>⟨a,ms',b,Sub.refl _⟩
 unfold wBd at h
 cases hb:bdT (c.inC scope).fx.sc t (f x) (cm scope m) with
 | none=>rw [hb] at h; exact h.elim
 | some m1=>
  rw [hb] at h
  refine Ahq (c:=c.inC scope) (F:=fun m'=>m'=m1) (by unfold wBd; rw [hb]) fun m' e=>?_
  subst e
  refine ⟨fun y v e=>?_,Ani ⟨rfl,(Aca (c.inC scope) 40).1 _ _ _ _ h⟩⟩
  rw [Aj4 hb]; exact e
  intro hy
  have:=Bj7.mp hgo.2 y hy
  rw [Aqz e] at this
  cases this
end
section
variable {w:World} {n:Nat} {σ:Sto} {Q:V->Sto->Prop} {Y:Str->Sto->Prop}
noncomputable def Au (T:List (List V)) (t:List V):V:=.tup [.int (T.idxOf t:Nat),.tup t]
noncomputable def Aj (σ:Sto) (a:Wo) (pa na:Addr) (T nd:List (List V)) (ns:List Int):Sto:=((Ahi σ a.dn a.db (An a.A1 T)).put na (.list (nd.map (Au T)))).put pa (B2 ns)
structure LawW (σ:Sto) (a:Wo) (wl pa na:Addr):Prop where
 hw:σ wl=some (.A5 a.es)
 h3:a.A1.length=3
 B9:∀ p∈a.A1,1<=p/\p<=2
 hc:a.cells=(B6 a.A1).map Ajf
 n1:pa≠na
 n2:pa≠a.dn
 n3:pa≠a.db
 n4:na≠a.dn
 n5:na≠a.db
 n6:a.dn≠a.db
 w1:wl≠pa
 w2:wl≠na
 w3:wl≠a.dn
 w4:wl≠a.db
structure Axc (a:Wo) (T nd:List (List V)):Prop where
 H:Bf a.A1 T
 sub:∀ t∈nd,t∈T
 lf:∃ t∈nd,(asked a.A1 t).1=3
section
variable {a:Wo} {wl pa na:Addr} {T nd:List (List V)} {ns:List Int}
theorem LawW.pen (L:LawW σ a wl pa na):Aj σ a pa na T nd ns pa=some (B2 ns):=Sto.A0 ..
theorem LawW.nod (L:LawW σ a wl pa na):Aj σ a pa na T nd ns na=some (.list (nd.map (Au T))):=by
 unfold Aj; rw [Sto.A4 _ _ L.n1.symm,Sto.A0]
theorem LawW.dn (L:LawW σ a wl pa na):Aj σ a pa na T nd ns a.dn=some (.list (An a.A1 T)):=by
 unfold Aj Ahi; rw [Sto.A4 _ _ L.n2.symm,Sto.A4 _ _ L.n4.symm,Sto.A0]
theorem LawW.db (L:LawW σ a wl pa na):Aj σ a pa na T nd ns a.db=some (.Ad (Ap (An a.A1 T))):=by
 unfold Aj Ahi; rw [Sto.A4 _ _ L.n3.symm,Sto.A4 _ _ L.n5.symm,Sto.A4 _ _ L.n6.symm,Sto.A0]
theorem LawW.wld (L:LawW σ a wl pa na):Aj σ a pa na T nd ns wl=some (.A5 a.es):=by
 unfold Aj Ahi; rw [Sto.A4 _ _ L.w1,Sto.A4 _ _ L.w2,Sto.A4 _ _ L.w3,Sto.A4 _ _ L.w4]; exact L.hw
theorem Aau {ms}:(Aj σ a pa na T nd ns).put pa (B2 ms)=Aj σ a pa na T nd ms:=by unfold Aj; rw [Sto.A9]
theorem LawW.Ahi (L:LawW σ a wl pa na) {T'}:Ahi (Aj σ a pa na T nd ns) a.dn a.db (An a.A1 T')=((Ahi σ a.dn a.db (An a.A1 T')).put na (.list (nd.map (Au T)))).put pa (B2 ns):=by
 unfold Mine.Internal.Ahi Aj Mine.Internal.Ahi
 funext b
 simp only [Sto.put]
 have:=L.n1; have:=L.n2; have:=L.n3; have:=L.n4; have:=L.n5; have:=L.n6
 by_cases b1:b=a.dn
 · subst b1; simp [L.n2.symm,L.n4.symm]
 by_cases b2:b=a.db
 · subst b2; simp [b1,L.n3.symm,L.n5.symm]
 simp [b1,b2]
theorem LawW.szs (L:LawW σ a wl pa na):Mine.Internal.szs a.A1<=27/\a.cells.length=Mine.Internal.szs a.A1:=by
 refine ⟨?_,by rw [L.hc,Be9,Ac0]⟩
 obtain ⟨x,y,z,e⟩:∃ x y z,a.A1=[x,y,z]:=by
  exact Ajq (C:=fun l=>∃ x y z,l=[x,y,z]) (fun x y z=>⟨x,y,z,rfl⟩) a.A1 L.h3
 have h1:=(L.B9 x (by rw [e]; exact .head _)).2
 have h2:=(L.B9 y (by rw [e]; exact .tail _ (.head _))).2
 have h3:=(L.B9 z (by rw [e]; exact .tail _ (.tail _ (.head _)))).2
 rw [e]
 exact Ci1 (Bg3 h1) (Ci1 (Bg3 h2) (Ci1 (Bg3 h3) (Bh5 1)))
theorem Aqg {u t} (h:t∈T):Au (B7 T u) t=Au T t:=by unfold Au; rw [Asl h]
theorem Agl {u} (h:∀ t∈nd,t∈T):nd.map (Au (B7 T u))=nd.map (Au T):=Bj5 fun t ht=>Aqg (h t ht)
end
end
theorem nne {σ:Sto} {a b:Addr} {o:O} (h:σ a=some o) (k:σ b=none):a≠b:=A7 h k
theorem Ady {σ a pa na T nd ns} (ms:List Int) (b:Addr) (h:Aj σ a pa na T nd ns b=none):Aj σ a pa na T nd ms b=none:=by
 unfold Aj at h ⊢
 have n:b≠pa:=by rintro rfl; rw [Sto.A0] at h; cases h
 rw [Sto.A4 _ _ n] at h ⊢
 exact h
theorem Ajk {α:Type} {l:List α} {p:α->Prop} [DecidablePred p] {f:α->V}:l.filterMap (fun k=>if p k then some (f k) else none)=(l.filter fun k=>decide (p k)).map f:=by
 induction l with
 | nil=>rfl
 | cons a l ih=>
  rw [Bq2,Cl4]
  by_cases h:p a
  · rw [if_pos h,decide_eq_true h,if_pos rfl,Bg8,ih]
  · rw [if_neg h,decide_eq_false h,if_neg Bg5,ih]
section
variable {w:World} {n:Nat} {σ:Sto} {Q:V->Sto->Prop} {Y:Str->Sto->Prop} {a:Wo} {wl pa na:Addr} {T nd:List (List V)} {ns:List Int}
theorem Avx {v:Nat} {r:Bool} (L:LawW σ a wl pa na) (G:Axc a T nd) (hv:v < 3) (hTl:T.length<=20) (Aon:nd.length<=20) (hns:ns.length<=66)
   (hq:∀ T' nd' ms,Axc a T' nd'->T'.length<=T.length + 1->nd'.length<=nd.length + 1->ms.length<=66->Q (.bool true) (Aj σ a pa na T' nd' ms)) :
   Fn (PM w) (n + 6) (.ref 338) [.loc wl,.loc na,.int v,.loc pa,.bool r] (Aj σ a pa na T nd ns) Q Y:=by
 have L1:=L.pen (T:=T) (nd:=nd) (ns:=ns)
 have L2:=L.nod (T:=T) (nd:=nd) (ns:=ns)
 have L5:=L.wld (T:=T) (nd:=nd) (ns:=ns)
 have Acw:∀ p∈a.A1,p<=10:=fun p hp=>by have:=L.B9 p hp; lia
 obtain ⟨Ane,hcl⟩:=L.szs
 obtain ⟨top,B9⟩:∃ top,a.A1[v]?=some top:=⟨_,Bf0 (by rw [L.h3]; exact hv)⟩
 obtain ⟨ht1,ht2⟩:=L.B9 top (Bf9 B9)
 have hv':v < 1000000:=Bj3 hv (by decide)
 have hpa:∀ ms,Aj σ a pa na T nd ms pa=some (B2 ms):=fun ms=>L.pen
 have r1:n + 1<=n + 5:=Bf3 (by decide) n
 refine B8 rfl rfl (Baz fun _ _ _ _ _=>rfl) rfl fun R' Y' hR' hY hRs hYs=>Ac L5 rfl (Ab (k:=v) (.val _) (by rw [tupI,Bf8,B9]; rfl) ?_ hv')
 refine Ba4 na nd (Au T) (fun t=>if v < (asked a.A1 t).1 then some (Au T t) else none) rfl (And.intro rfl rfl) L2 (Be7 Aon (by decide)) ?_ fun acc B1 t ht vs K1 K0 h1 h0=>?_
 rotate_left
 · have hlt:=G.H.len t (G.sub t ht)
   refine A6 (k:=1) (d:=.tup t) rfl (Fn.room (n:=n + 2) (Ac9 (n:=n) (v:=0) (a:=a) (by rw [Sto.A4 _ _ (nne L5 B1)]; exact L5) L.h3 Acw (Bi4 _) (by rw [hlt]; exact Be7 Ane (by decide)) (fun x hx=>(G.H.val t (G.sub t ht) x hx).flat) ?_) (Bf3 (by decide) n))
   rw [Bk7,Bo8]
   exact A6 (k:=0) rfl (Ahl (dI (fun q=>h1 _ (if_pos (Bn1.mp q))) fun q=>h0 (if_neg fun e=>q (Bn1.mpr e))))
 rw [Ajk]
 have hlm:∀ t∈nd.filter fun t=>decide (v < (asked a.A1 t).1),t∈T/\v < (asked a.A1 t).1:=fun t ht=>by
   rw [Cg1] at ht; exact ⟨G.sub t ht.1,of_decide_eq_true ht.2⟩
 have hln:0 < (nd.filter fun t=>decide (v < (asked a.A1 t).1)).length:=by
   obtain ⟨t,ht,e⟩:=G.lf
   exact List.length_pos_of_mem (Cg1.mpr ⟨ht,by rw [e]; exact decide_eq_true hv⟩)
 have hll:(nd.filter fun t=>decide (v < (asked a.A1 t).1)).length<=20:=Be7 (List.length_filter_le ..) Aon
 revert hlm hln hll; with_reducible refine gz (nd.filter fun t=>decide (v < (asked a.A1 t).1)) fun lat hlm hln hll=>?_
 refine Awu rfl (Aij rfl (Fn.room (n:=n + 1) (Ab0 (n:=n) L1 hns (k:=5) (by decide) fun k1 ns1 hk1 Aro=>?_) r1))
 rw [Aau]
 refine Aac (k:=k1) rfl ?_ (Be7 (Bk4 hk1) (by decide))
 rw [Acs]
 refine Arj (fun ms=>Aj σ a pa na T nd ms) (Bh8 k1) _ (fun _ x=>∃ r:Nat,r < top + 3/\x=.int ((r:Int) - 1)) rfl Aro (by rw [Bk9]; exact Be7 (Bk4 hk1) (by decide)) (fun ms acc h=>Ady ms acc h) (fun vs ns2 hvs Aui=>?_) fun acc B1 x hx vs ms K hms hK=>?_
 rotate_left
 · have hacc':=nne (hpa _) B1
   refine Fn.room (n:=n + 1) (Ab0 (n:=n) (k:=top + 3) (by rw [Sto.A4 _ _ hacc']; exact hpa ms) hms (Bp9 _) fun r1 ms1 hr1 Aw0=>?_) r1
   rw [Sto.Ao _ _ _ hacc'.symm,Aau]
   exact hK _ _ ⟨r1,hr1,rfl⟩ Aw0
 obtain ⟨hs,hh1,rfl,hh2⟩:=Ana (fun _ (h:Int)=>V.int h) (fun _ h=>-1<=h/\h<=top + 1) hvs (fun x hx v qA=>by obtain ⟨r,hr,e⟩:=qA; exact ⟨_,e,by lia,by lia⟩)
 have hhl:hs.length<=4:=by
   have:=congrArg Bp5 hh1
   rw [Be9,Bk9] at this
   rw [this]; exact Bw2 hk1
 clear hvs hh1
 obtain ⟨hs,hhl,hh2,e⟩:∃ hs':List Int,hs'.length<=4/\(∀ h∈hs',-1<=h/\h<=top + 1)/\hs.map (fun p=>V.int p.2)=hs'.map .int:=⟨hs.map (·.2),by rw [Be9]; exact hhl,fun h hm=>by obtain ⟨p,hp,rfl⟩:=Bh1.mp hm; exact hh2 p hp,by rw [Bi5]; rfl⟩
 rw [e]
 refine .mk _ (.bool _) ?_
 refine Asv (α:=List Int) (fun _=>Aj σ a pa na T nd ns2) (fun hs=>[("world",.loc wl),("nodes",.loc na),("variable",.int v),("pen",.loc pa),("top",.int top),("later",.lst (lat.map (Au T))),("highs",.lst (hs.map .int))]) (fun hs=>hs.length<=4/\∀ h∈hs,-1<=h/\h<=top + 1) (fun hK=>?_) ?_
 · cases r with
   | false=>exact hK hs _ _ ⟨hhl,hh2⟩ (Sub.refl _) rfl
   | true=>
     refine Aij rfl (Aac (k:=top) rfl ?_ (Be7 ht2 (by decide)))
     rw [Acs]
     refine Acy _ (fun k:Nat=>if (k:Int)∈hs then some (.int k) else none) (Bh8 top) rfl (by rw [Bk9]; exact Be7 ht2 (by decide)) ?_ fun acc B1 k hk vs K1 K0 h1 h0=>?_
     rotate_left
     · rw [Int.zero_add]
       refine Ahr (.val _) (.val _) (dI (fun q=>h1 _ _ (if_pos ?_) (Sub.refl _)) fun q=>h0 _ (if_neg fun e=>q (Bi7 e)) (Sub.refl _)) rfl (Ae6 _) (Bi4 _)
       obtain ⟨x,hx,e⟩:=Bh1.mp q
       cases e; exact hx
     rw [Ad7]
     have hfl:((Bh8 top).filter fun k:Nat=>decide ((k:Int)∈hs)).length<=top:=Be7 (List.length_filter_le ..) (Bm2 Bk9)
     have hfm:∀ k∈(Bh8 top).filter fun k:Nat=>decide ((k:Int)∈hs),k < top:=fun k hk=>by rw [Cg1] at hk; exact Bk6.mp hk.1
     revert hfl hfm; with_reducible refine gz ((Bh8 top).filter fun k:Nat=>decide ((k:Int)∈hs)) fun fl hfl hfm=>?_
     refine .inr (Aje (.val _) (.val _) ?_ (by rw [Be9]; exact Be7 (Bg3 (Be7 hfl ht2)) (by decide)))
     rw [show fl.map (fun k:Nat=>V.int (k:Int)) ++ [V.int (top:Int)]=(fl.map (fun k:Nat=>(k:Int)) ++ [(top:Int)]).map V.int by rw [Bg1,Bi5]; rfl]
     refine hK (fl.map (fun k:Nat=>(k:Int)) ++ [(top:Int)]) _ _ ⟨by rw [Bf1,Be9]; exact Be7 (Bg3 (Be7 hfl ht2)) (by decide),Aa9 (fun h hm=>?_) (by lia)⟩ (Sub.refl _) rfl
     obtain ⟨k,hk,rfl⟩:=Bh1.mp hm
     have:=hfm k hk; exact ⟨tn (by decide),Bk8.mpr (Bk0 (Bk4 this))⟩
 clear hs e hhl hh2
 rintro hs ⟨hhl,hh2⟩
 refine Awu rfl (Aij rfl ?_)
 refine Arj (fun ms=>Aj σ a pa na T nd ms) hs _ (fun h x=>∃ t∈lat,x=.tup [.int h,Au T t]) rfl Aui (Be7 hhl (by decide)) (fun ms acc h=>Ady ms acc h) (fun vs ns3 hvs Azq=>?_) fun acc B1 x hx vs ms K hms hK=>?_
 rotate_left
 · have hacc':=nne (hpa _) B1
   refine Aa1 (ds:=lat.map (Au T)) (.val _) (by rw [Be9]; exact Be7 hll (by decide)) ?_
   rw [Be9]
   refine Fn.room (n:=n + 1) (Ab0 (n:=n) (k:=lat.length) (by rw [Sto.A4 _ _ hacc']; exact hpa ms) hms hln fun r1 ms1 hr1 Aw0=>?_) r1
   rw [Sto.Ao _ _ _ hacc'.symm,Aau]
   obtain ⟨t1,ht1⟩:∃ t1,lat[r1]?=some t1:=⟨_,Bf0 hr1⟩
   exact Ab (k:=r1) (.val _) (by rw [Bf8,ht1]; rfl) (hK _ _ ⟨t1,Bf9 ht1,rfl⟩ Aw0) (Bh0 hr1 (Be7 hll (by decide)))
 obtain ⟨ps,hp1,rfl,hp2⟩:=Ana (fun (h:Int) (t:List V)=>.tup [.int h,Au T t]) (fun _ t=>t∈lat) hvs (fun x hx v qB=>by obtain ⟨t,ht,e⟩:=qB; exact ⟨t,e,ht⟩)
 have Azf:ps.length=hs.length:=by rw [<- hp1,Be9]
 have hpl:ps.length<=4:=Azf ▸ hhl
 have l5:∀ {k},k<=4->k<=100000:=fun h=>Be7 h (by decide)
 refine Ax9 rfl rfl rfl (Acx _ (fun p:Int × List V=>Av (p.1,T.idxOf p.2)) ps rfl (l5 hpl) ?_ fun acc B1 p hp vs K hK=>A6 (k:=0) rfl (hK _ (Sub.refl _)))
 rw [show ps.map (fun x=>Av (x.1,T.idxOf x.2))=(ps.map fun x=>(x.1,T.idxOf x.2)).map Av by rw [Bi5]; rfl]
 refine Ax9 rfl rfl rfl (Aa1 (ds:=hs.map V.int) (.val _) (by rw [Be9]; exact l5 hhl) ?_)
 rw [Be9]
 refine Arp (k:=hs.length - 1) (by exact r9) ?_ (by lia) (by lia)
 rw [Acs,show (fun i:Nat=>V.int (0 + (i:Int)))=fun i:Nat=>V.int (i:Int) from funext fun i=>by rw [Int.zero_add]]
 refine Acy _ (fun k:Nat=>if hs.getD (k + 1) 0<=hs.getD k 0 then some (.int k) else none) (Bh8 (hs.length - 1)) rfl (by rw [Bk9]; exact l5 (Be7 (Bx6 ..) hhl)) ?_ fun acc B1 k hk vs K1 K0 h1 h0=>?_
 rotate_left
 · have hk':=Bk6.mp hk
   have hk2:k + 1 < hs.length:=Nat.add_lt_of_lt_sub hk'
   have gk:∀ {i},i < hs.length->(hs.map V.int)[i]?=some (.int (hs.getD i 0)):=fun h=>by rw [Bf8,Bj8,Bf0 h]; rfl
   have kl:k + 1 < 1000000:=Bh0 hk2 (Be7 hhl (by decide))
   exact Ab (k:=k) (d:=.int (hs.getD k 0)) (.val _) (gk (Cd6 hk2)) (Ab (k:=k + 1) (d:=.int (hs.getD (k + 1) 0)) (.val _) (gk hk2) (Bad (dI (fun q=>h1 _ _ (if_pos q) (Sub.refl _)) fun q=>h0 _ (if_neg q) (Sub.refl _))) kl) (Cd6 kl)
 rw [Ad7]
 have hpp:(ps.map fun x=>(x.1,T.idxOf x.2)).map (·.1)=hs:=by rw [Bi5,<- hp1]; rfl
 have Ax2:((Bh8 (hs.length - 1)).filter fun k=>decide (hs.getD (k + 1) 0<=hs.getD k 0))=[] ↔ ∀ k,k + 1 < hs.length->hs.getD k 0 < hs.getD (k + 1) 0:=by
   rw [List.filter_eq_nil_iff]
   exact ⟨fun h k hk=>Bx7.mp fun q=>h k (Bk6.mpr (Nat.lt_sub_of_add_lt hk)) (decide_eq_true q),fun h k hk q=>Bx7.mpr (h k (Nat.add_lt_of_lt_sub (Bk6.mp hk))) (of_decide_eq_true q)⟩
 revert Ax2; with_reducible refine gz ((Bh8 (hs.length - 1)).filter fun k=>decide (hs.getD (k + 1) 0<=hs.getD k 0)) fun fl Ax2=>?_
 revert hpp; with_reducible refine gze (ps.map fun x:Int × List V=>(x.1,T.idxOf x.2)) fun pp hPP hpp=>?_
 have Azs:pp.length=hs.length:=by rw [<- hpp,Be9]
 have Aq9:Aga top (-1) pp ↔ (hs≠[]/\(∀ h,hs.head?=some h->-1 < h)/\hs.getLast?=some (top:Int)/\fl=[]):=by
   by_cases q:pp=[]
   · subst q
     have:hs=[]:=by rw [<- hpp]; rfl
     subst this
     exact ⟨fun h=>absurd (show (-1:Int)=top from h) (by lia),fun h=>absurd rfl h.1⟩
   · rw [Aio q,hpp,Azs,Ax2]
     have:hs≠[]:=by rintro e; rw [e] at Azs; exact q (Br1.mp Azs)
     exact ⟨fun h=>⟨this,h⟩,fun h=>h.2⟩
 obtain ⟨b,hb⟩:∃ b:Bool,(b=false ↔ Aga top (-1) pp):=by
   classical exact ⟨!decide (Aga top (-1) pp),by rw [Bool.not_eq_false',decide_eq_true_iff]⟩
 have hbt:¬ (hs≠[]/\(∀ h,hs.head?=some h->-1 < h)/\hs.getLast?=some (top:Int)/\fl=[])->b=true:=fun h=>by
   cases b with
   | true=>rfl
   | false=>exact absurd (Aq9.mp (hb.mp rfl)) h
 refine .inr (Ahn (.val _) (.val _) (orI (b:=b) ?_ (fun q=>hbt fun h=>h.1 (Ci2.mp (V.lst.inj q))) fun q0 hQ=>?_) (Ae6 _) rfl Aj5)
 rotate_left
 · cases hs with
   | nil=>exact absurd rfl q0
   | cons h0 hr=>
     obtain ⟨hl,hhl'⟩:∃ hl,(h0 :: hr).getLast?=some hl:=⟨_,List.getLast?_eq_some_getLast (Bs2 _ _)⟩
     refine Ab (k:=0) (.val _) rfl (Apt (orI hQ (fun q=>hbt fun h=>by have:=h.2.1 h0 rfl; lia) fun q1 hQ=>Acd (d:=.int hl) (.val _) (by rw [Bv8,hhl']; rfl) (Ami (orI hQ (fun q=>hbt fun h=>q (Bq9 (hhl'.symm.trans h.2.2.1))) fun q2 hQ=>.inr (Afs (.val _) (.val _) (orN hQ (fun q=>hbt fun h=>q (by rw [h.2.2.2]; rfl)) fun q3 hQ=>?_) (by rw [V.dat]; exact Aew fun _ _=>rfl) rfl Aj5)))))
     have e:b=false:=hb.mpr (Aq9.mpr ⟨Bs2 _ _,fun h e=>by cases e; lia,by rw [hhl',Classical.not_not.mp q2],Ci2.mp (V.lst.inj q3)⟩)
     subst e
     exact hQ
 clear hbt Aq9
 have hDl:(An a.A1 T).length=T.length:=by rw [An,Be9]
 have hDl':(An a.A1 T).length<=1000:=by rw [hDl]; exact Be7 hTl (by decide)
 have Aob:v < 100:=Bj3 hv (by decide)
 cases b with
 | true=>
   have hR:¬ Aga top (-1) pp:=fun h=>nomatch hb.mpr h
   have Bbk:=fun e=>hR ((Aey (by lia)).mp e)
   refine Ac L.wld rfl (Aat (n:=n + 4) (As0 (n:=n + 3) (Aq6 (n:=n) (D:=An a.A1 T) (top:=top) L.dn L.db L.n6 hDl' B9 Aob (by rw [Azs]; exact Be7 hhl (by decide)) (fun _=>?_) (fun p e _=>absurd e Bbk) (fun e _ _=>absurd e Bbk) fun e _ _=>absurd e Bbk)))
   rw [decide_eq_true rfl]
   exact hR' (hq T nd ns3 G (Bm8 _) (Bm8 _) Azq)
 | false=>
   have hR:=hb.mp rfl
   refine Ac L.wld rfl ?_
   obtain ⟨qs,hqs,hqr⟩:=Ama (low:=0) (top:=top) (by rw [Int.natCast_zero,Int.zero_sub]; exact hR)
   have Bdt:∀ p∈ps,((p.1.toNat:Nat):Int)=p.1:=fun p hp=>by
     have:(p.1,T.idxOf p.2)∈qs.map pI:=by rw [<- hqs,<- hPP]; exact Bi7 hp
     obtain ⟨q,hq,e⟩:=Bh1.mp this
     have:p.1=(q.1:Int):=by rw [<- congrArg Cp2 e]
     lia
   with_reducible refine gze (ps.map fun p=>(p.1.toNat,p.2)) fun pn hpn=>?_
   have hps:ps=pn.map fun p=>((p.1:Int),p.2):=by
     rw [<- hpn,Bi5]
     conv=>lhs; rw [<- Cm9 ps]
     exact Bj5 fun p hp=>by simp only [Bt0,id]; rw [Bdt p hp]
   have hqn:qs=pn.map fun x=>(x.1,T.idxOf x.2):=by
     have h1:qs.map pI=(pn.map fun x=>(x.1,T.idxOf x.2)).map pI:=by
       rw [<- hqs,<- hPP,hps,Bi5,Bi5]; rfl
     exact List.map_inj_right (fun a b e=>by
       have e1:=congrArg Cp2 e
       have e2:=congrArg Prod.snd e
       dsimp only at e1 e2
       exact Prod.ext (by lia) e2) |>.mp h1
   rw [hqn] at hqr
   have Bd3:=Afl (fun t=>T.idxOf t) hqr
   obtain ⟨S,s1,s2,s3,s4,s5⟩:=Atk G.H B9 Bd3 (fun p hp=>by
     have:((p.1:Int),p.2)∈ps:=by rw [hps]; exact Bi7 (f:=fun p:Nat × List V=>((p.1:Int),p.2)) hp
     exact hlm _ (hp2 _ this))
   rw [hqs,hqn]
   have Be1:pn.length<=4:=by rw [<- hpn,Be9]; exact hpl
   refine Fn.room (n:=n + 3) (Anf (n:=n) (S:=S) G.H L.dn L.db L.n6 (Be7 hTl (by decide)) B9 Aob hqr (by rw [Be9]; exact Be7 Be1 (by decide)) s1 s2 s3 s4 ?_) (Bf3 (by decide) n)
   rw [L.Ahi,<- Agl (u:=whole (szs a.A1) S.flatten) G.sub]
   have HT':=G.H.join B9 s1 s2 s3
   have hul:(whole (szs a.A1) S.flatten).length=szs a.A1:=HT'.len _ Adg
   have hTl':=Ajj (T:=T) (u:=whole (szs a.A1) S.flatten)
   revert s5 HT' hul hTl'; with_reducible refine gz (whole (szs a.A1) S.flatten) fun u s5 HT' hul hTl'=>?_
   rw [show ((Ahi σ a.dn a.db (An a.A1 (B7 T u))).put na (.list (nd.map (Au (B7 T u))))).put pa (B2 ns3)=Aj σ a pa na (B7 T u) nd ns3 from rfl]
   have L2':=L.nod (T:=B7 T u) (nd:=nd) (ns:=ns3)
   have hc3:a.cells.length<=100000:=by rw [hcl]; exact Be7 Ane (by decide)
   refine Af L2' (Aij rfl (Ac L.wld rfl (Ado ?_)))
   rw [Agv]
   refine Acy _ (fun k=>u[k]?) (Bh8 a.cells.length) rfl (by rw [Bk9]; exact hc3) ?_ fun acc B1 k hk vs K1 K0 h1 h0=>?_
   · rw [Ahy (by rw [hul,hcl])]
     refine Aa7 (.val _) (by rw [hul]; exact Be7 Ane (by decide)) (Ae L2' (hR' ?_) (by rw [Be9]; exact Be7 Aon (by decide)))
     have:=hq (B7 T u) (nd ++ [u]) ns3 ⟨HT',Aa9 (fun t ht=>Ag6 (G.sub t ht)) Adg,?_⟩ hTl' (by rw [Bf1]; exact Bh5 _) Azq
     · unfold Aj at this ⊢
       rw [Sto.Ao _ _ _ L.n1,Sto.A9]
       rw [Bg1] at this
       exact this
     · obtain ⟨t,ht,e⟩:=G.lf
       exact ⟨t,Bi0 _ ht,e⟩
   · have hk':=Bk6.mp hk
     obtain ⟨c,hck⟩:∃ c,(B6 a.A1)[k]?=some c:=⟨_,Bf0 (by rw [Ac0,<- hcl]; exact hk')⟩
     obtain ⟨cl1,cl2⟩:=Acf (Bf9 hck)
     obtain ⟨x,hx⟩:∃ x,c[v]?=some x:=⟨_,Bf0 (by rw [cl1,L.h3]; exact hv)⟩
     obtain ⟨t,t1,t2,t3⟩:=s5 k c x hck hx
     obtain ⟨y,hy⟩:∃ y,t[k]?=some y:=⟨_,Bf0 (by rw [G.H.len t t2,<- hcl]; exact hk')⟩
     rw [Bk7,show a.cells.getD k .none=Ajf c by rw [L.hc,Bj8,Bf8,hck]; rfl]
     refine A6 (k:=v) (d:=.int x) (by rw [tupI,Bf8,hx]; rfl) ?_ hv'
     rw [show (ps.map fun p=>V.tup [.int p.1,Au T p.2])=(ps.map fun p=>(p.1,Au T p.2)).map fun p=>V.tup [.int p.1,p.2] by rw [Bi5]; rfl]
     refine Fn.room (n:=n + 1) (Ayb (n:=n) (parts:=ps.map fun p=>(p.1,Au T p.2)) (d:=Au T t) (by rw [Be9]; exact Be7 hpl (by decide)) ?_ (A6 (k:=1) (d:=.tup t) rfl (A6 (k:=k) hy (h1 _ _ (by rw [t3,hy]) (Sub.refl _)) (Bh0 hk' (Be7 (Bm2 hcl) (Be7 Ane (by decide))))))) r1
     rw [Am9,hps,Bi5,Co1,Option.map_map,show ((fun p:Int × V=>decide ((x:Int)<=p.1)) ∘ (fun p:Int × List V=>(p.1,Au T p.2)) ∘ fun p:Nat × List V=>((p.1:Int),p.2))=fun p:Nat × List V=>decide (x<=p.1) from funext fun p=>decide_eq_decide.mpr Bk8]
     obtain ⟨q,hq1,hq2⟩:=Bn6.mp t1
     rw [hq1,<- hq2]; rfl
end
noncomputable def inS (T:List (Int × Int)) (x:Nat):Bool:=T.any fun p=>decide (p.1<=x/\(x:Int)<=p.2)
theorem Aj1 {p T x}:inS (p :: T) x=(decide (p.1<=x/\(x:Int)<=p.2) || inS T x):=rfl
theorem Ais {T x}:inS T x=true ↔ ∃ p∈T,p.1<=x/\(x:Int)<=p.2:=by simp [inS]
noncomputable def Gap (T:List (Int × Int)):Prop:=T.Pairwise (fun a b=>a.2 + 1 < b.1)/\∀ p∈T,p.1<=p.2
theorem Aox:∀ {l f},Gap f->(∀ p∈l,p.1<=p.2)->l.Pairwise (fun a b=>a.1<=b.1)->(∀ q∈f,∀ p∈l,q.1<=p.1) ->
  Gap (l.foldl Aa6 f)/\(∀ x:Nat,inS (l.foldl Aa6 f) x=(inS f x || inS l x))/\∀ c:Int,(∀ p∈f,c<=p.1)->(∀ p∈l,c<=p.1)->∀ p∈l.foldl Aa6 f,c<=p.1
 | [],f,hg,_,_,_=>⟨hg,fun x=>by simp [inS],fun c h1 _=>h1⟩
 | p :: l,f,hg,hl,hs,hq=>by
  rw [Bv0]
  have hs':=Cj1.mp hs
  have hp:=hl p (.head _)
  have key:Gap (Aa6 f p)/\(∀ q∈Aa6 f p,∀ p'∈l,q.1<=p'.1)/\(∀ x:Nat,inS (Aa6 f p) x=(inS f x || decide (p.1<=x/\(x:Int)<=p.2)))/\∀ c:Int,(∀ q∈f,c<=q.1)->c<=p.1->∀ q∈Aa6 f p,c<=q.1:=by
   rcases Bv1 f with rfl | ⟨g,q,rfl⟩
   · refine ⟨⟨by simp [Aa6],fun z hz=>?_⟩,fun z hz p' hp'=>?_,fun x=>by simp [Aa6,inS],fun c _ hc z hz=>?_⟩
     all_goals rw [show z=p by simpa [Aa6] using hz]
     · exact hp
     · exact hs'.1 p' hp'
     · exact hc
   · rw [Bv2] at *
     obtain ⟨g1,g2⟩:=hg
     rw [Bw4] at g1
     obtain ⟨ga,_,gb⟩:=g1
     have hqp:=hq q (by simp) p (.head _)
     have hqq:=g2 q (by simp)
     have hst:Aa6 (g ++ [q]) p=if p.1<=q.2 + 1 then (if q.2 < p.2 then g ++ [(q.1,p.2)] else g ++ [q]) else g ++ [q] ++ [p]:=by simp [Aa6]
     rw [hst]
     by_cases c1:p.1<=q.2 + 1
     · rw [if_pos c1]
       by_cases c2:q.2 < p.2
       · rw [if_pos c2]
         refine ⟨⟨?_,fun z hz=>?_⟩,fun z hz p' hp'=>?_,fun x=>?_,fun c hc1 hc2 z hz=>?_⟩
         · rw [Bw4]
           exact ⟨ga,by simp,fun a ha b hb=>by rw [Bf6.mp hb]; exact gb a ha q (by simp)⟩
         · rcases Bh6.mp hz with hz | hz
           · exact g2 z (by simp [hz])
           · rw [Bf6.mp hz]; dsimp only; lia
         · rcases Bh6.mp hz with hz | hz
           · exact hq z (by simp [hz]) p' (.tail _ hp')
           · rw [Bf6.mp hz]; exact hq q (by simp) p' (.tail _ hp')
         · simp only [inS,Cn0,Ce0,Ck6,Ce1]
           rw [Cp4]
           congr 1
           rw [Bv6]
           simp only [Bv5,decide_eq_true_eq]
           exact ⟨fun h=>(Classical.em ((x:Int) < p.1)).elim (fun k=>.inl ⟨h.1,Int.le_of_lt_add_one (Bn9 k c1)⟩) fun k=>.inr ⟨Bs4.mp k,h.2⟩,fun h=>h.elim (fun h=>⟨h.1,Bo7 h.2 (Cl6 c2)⟩) fun h=>⟨Bo7 hqp h.1,h.2⟩⟩
         · rcases Bh6.mp hz with hz | hz
           · exact hc1 z (by simp [hz])
           · rw [Bf6.mp hz]; exact hc1 q (by simp)
       · rw [if_neg c2]
         refine ⟨⟨?_,g2⟩,fun z hz p' hp'=>hq z hz p' (.tail _ hp'),fun x=>?_,fun c hc1 hc2 z hz=>hc1 z hz⟩
         · rw [Bw4]; exact ⟨ga,by simp,gb⟩
         · simp only [inS,Cn0,Ce0,Ck6,Ce1]
           rw [Cp4]
           congr 1
           rw [Bv6]
           simp only [Bv5,decide_eq_true_eq]
           exact ⟨.inl,fun h=>h.elim id fun h=>⟨Bo7 hqp h.1,Bo7 h.2 (Bs4.mp c2)⟩⟩
     · rw [if_neg c1]
       refine ⟨⟨?_,fun z hz=>?_⟩,fun z hz p' hp'=>?_,fun x=>?_,fun c hc1 hc2 z hz=>?_⟩
       · rw [Bw4]
         refine ⟨by rw [Bw4]; exact ⟨ga,by simp,gb⟩,by simp,fun a ha b hb=>?_⟩
         rw [Bf6.mp hb]
         rcases Bh6.mp ha with ha | ha
         · have:=gb a ha q (by simp); exact Cl5 (Bn9 this (Bo7 hqq (Bw5 (by decide)))) (Bx7.mp c1)
         · rw [Bf6.mp ha]; lia
       · rcases Bh6.mp hz with hz | hz
         · exact g2 z hz
         · rw [Bf6.mp hz]; exact hp
       · rcases Bh6.mp hz with hz | hz
         · exact hq z hz p' (.tail _ hp')
         · rw [Bf6.mp hz]; exact hs'.1 p' hp'
       · simp only [inS,Cn0,Ce0,Ck6,Ce1]
       · rcases Bh6.mp hz with hz | hz
         · exact hc1 z hz
         · rw [Bf6.mp hz]; exact hc2
  obtain ⟨k1,k2,k3,k4⟩:=key
  obtain ⟨r1,r2,r3⟩:=Aox k1 (fun z hz=>hl z (.tail _ hz)) hs'.2 k2
  refine ⟨r1,fun x=>?_,fun c h1 h2=>r3 c (k4 c h1 (h2 p (.head _))) fun z hz=>h2 z (.tail _ hz)⟩
  rw [r2,k3,Aj1,Cp4]
theorem Al9 {top y k}:∀ {T parts at_},As (min at_ (top + 1)) 0 parts->Gap T->(∀ p∈T,(at_:Int)<=p.1) ->
  ∃ qs:List (Nat × Nat),(T.foldl (Aan top y k) (parts.map pI,(at_:Int))).1 ++ (if (T.foldl (Aan top y k) (parts.map pI,(at_:Int))).2<=top then [((top:Int),k)] else [])=qs.map pI/\As (top + 1) 0 qs ∧
    ∀ x,x<=top->(Aq 0 qs)[x]?=if x < at_ then (Aq 0 parts)[x]? else some (if inS T x then y else k)
 | [],parts,at_,hr,_,_=>by
  show ∃ qs:List (Nat × Nat),parts.map pI ++ (if (at_:Int)<=top then [((top:Int),k)] else [])=qs.map pI/\_
  by_cases q:at_<=top
  · rw [show min at_ (top + 1)=at_ by lia] at hr
    refine ⟨parts ++ [(top,k)],by rw [if_pos (by lia),Bg1]; rfl,Abl hr ⟨q,by simp,rfl⟩,fun x hx=>?_⟩
    rw [Abb hr]
    have hl:=Ada hr
    by_cases c:x < at_
    · rw [if_pos c,Bw6 (by exact r46 ‹_› ‹_›)]
    · rw [if_neg c,Bw3 (by rw [hl]; exact Bm4 c),hl]
      simp only [Aq,Bh4,inS,Ck6,Bp6,if_false]
      rw [By0,if_pos (by exact r17 ‹_› ‹_›)]
  · rw [show min at_ (top + 1)=top + 1 by exact Cf2 (Cm6 q)] at hr
    exact ⟨parts,by rw [if_neg (by lia),Bh4],hr,fun x hx=>by rw [if_pos (by lia)]⟩
 | p :: T,parts,at_,hr,hg,ha=>by
  obtain ⟨g1,g2⟩:=hg
  have g1':=Cj1.mp g1
  have hgT:Gap T:=⟨g1'.2,fun z hz=>g2 z (.tail _ hz)⟩
  have hp:=g2 p (.head _)
  have hap:=ha p (.head _)
  rw [Bv0]
  by_cases c0:p.1<=top
  · obtain ⟨lo,hlo⟩:=By4 (show 0<=p.1 by lia)
    obtain ⟨hi,hhi⟩:=By4 (show 0<=p.2 by lia)
    have hat:min at_ (top + 1)=at_:=by exact Br8 (Bk0 (Bk8.mp (Bo7 hap c0)))
    rw [hat] at hr
    have hst:Aan top y k (parts.map pI,(at_:Int)) p=((parts ++ (if at_ < lo then [(lo - 1,k)] else []) ++ [(min hi top,y)]).map pI,((hi + 1:Nat):Int)):=by
      unfold Aan
      rw [if_pos c0]
      simp only [Bg1]
      rw [hlo,hhi]
      congr 1
      congr 1
      · congr 1
        by_cases c1:at_ < lo
        · rw [if_pos c1,if_pos (by exact Bn1.mpr c1)]
          simp only [Bg8,Bq4,Bn0,and_true]
          exact Prod.ext (by dsimp only; exact (Int.ofNat_sub (Cm5 c1)).symm) rfl
        · rw [if_neg c1,if_neg (by exact fun q=>c1 (Bn1.mp q))]; rfl
      · simp only [Bg8,Bq4,Bn0,and_true]
        exact Prod.ext (by dsimp only; exact r15) rfl
    have hr1:As lo 0 (parts ++ (if at_ < lo then [(lo - 1,k)] else [])):=by
      by_cases c1:at_ < lo
      · rw [if_pos c1]
        exact Abl hr ⟨by dsimp only; exact r33 ‹_›,by dsimp only; exact r32 ‹_›,by show lo - 1 + 1=lo; exact Nat.sub_add_cancel (Cm5 c1)⟩
      · rw [if_neg c1,Bh4,show lo=at_ by exact Cn3 (Bm4 c1) (Bk8.mp (hlo ▸ hap))]; exact hr
    have hr2:As (min (hi + 1) (top + 1)) 0 (parts ++ (if at_ < lo then [(lo - 1,k)] else []) ++ [(min hi top,y)]):=
      Abl hr1 ⟨by dsimp only; rw [hlo,hhi] at hp; rw [hlo] at c0; exact Nat.le_min.mpr ⟨Bk8.mp hp,Bk8.mp c0⟩,by dsimp only; exact Nat.lt_of_lt_of_eq (Br0 _) (Ck5 ..).symm,by show min hi top + 1=_; exact (Ck5 ..).symm⟩
    obtain ⟨qs,e1,e2,e3⟩:=Al9 (y:=y) (k:=k) hr2 hgT (fun z hz=>by have:=g1'.1 z hz; rw [hhi] at this; exact Cl6 this)
    rw [hst]
    refine ⟨qs,e1,e2,fun x hx=>?_⟩
    rw [e3 x hx,Abb hr1,Aj1]
    have hl1:=Ada hr1
    have hl0:=Ada hr
    by_cases c2:x < hi + 1
    · rw [if_pos c2]
      have hTn:inS T x=false:=by
        cases q:inS T x with
        | false=>rfl
        | true=>obtain ⟨z,hz,z1,z2⟩:=Ais.mp q; have:=g1'.1 z hz; exact absurd (Bn9 this z1) (Bs4.mpr (by rw [hhi]; exact Bk8.mpr (Bk4 c2)))
      rw [hTn,Ce1]
      by_cases c3:x < lo
      · rw [Bw6 (by exact r46 ‹_› ‹_›)]
        by_cases c4:x < at_
        · rw [if_pos c4,Abb hr,Bw6 (by exact r46 ‹_› ‹_›)]
        · rw [if_neg c4,Abb hr,Bw3 (by rw [hl0]; exact Bm4 c4),hl0,if_pos (by exact Bg6 (Bm4 c4) c3)]
          simp only [Aq,Bh4]
          rw [By0,if_pos (by exact r6 ‹_› ‹_›),if_neg (by simp; exact fun h=>absurd h (Bx7.mpr (by rw [hlo]; exact Bn1.mpr c3)))]
      · rw [if_neg (show ¬ x < at_ by exact fun q=>c3 (Bh0 q (Bk8.mp (hlo ▸ hap)))),Bw3 (by rw [hl1]; exact Bm4 c3),hl1]
        simp only [Aq,Bh4]
        rw [By0,if_pos (by exact r3 ‹_› ‹_› ‹_›),if_pos (by simp; rw [hlo,hhi]; exact ⟨Bk8.mpr (Bm4 c3),Bk8.mpr (Bw2 c2)⟩)]
    · rw [if_neg c2,if_neg (show ¬ x < at_ by exact fun q=>c2 (Bp2 (Be7 (Bk4 q) (Bk8.mp (hhi ▸ Bo7 hap hp))))),show decide (p.1<=(x:Int)/\(x:Int)<=p.2)=false by simp; exact fun _=>by rw [hhi]; exact Bn1.mpr (Nat.lt_of_succ_le (Bm4 c2)),Bool.false_or]
  · have hst:Aan top y k (parts.map pI,(at_:Int)) p=(parts.map pI,(at_:Int)):=by unfold Aan; rw [if_neg c0]
    rw [hst]
    obtain ⟨qs,e1,e2,e3⟩:=Al9 (y:=y) (k:=k) hr hgT (fun z hz=>ha z (.tail _ hz))
    refine ⟨qs,e1,e2,fun x hx=>?_⟩
    rw [e3 x hx,Aj1,show decide (p.1<=(x:Int)/\(x:Int)<=p.2)=false by simp; exact fun h=>absurd (Bo7 h (Bk8.mpr hx)) c0,Bool.false_or]
theorem Aki {top y k:Nat} {ps ps':List (Int × Int)} (hp:ps'.Perm ps) (hs:ps'.Pairwise (fun a b=>a.1<=b.1)) (h:∀ p∈ps,0<=p.1/\p.1<=p.2) :
   ∃ qs:List (Nat × Nat),Ago top y k (Ajn ps')=qs.map pI/\As (top + 1) 0 qs/\Aq 0 qs=(Bh8 (top + 1)).map fun x=>if inS ps x then y else k:=by
 obtain ⟨t1,t2,t3⟩:=Aox (l:=ps') (f:=[]) ⟨.nil,by simp⟩ (fun p hp'=>(h p (hp.subset hp')).2) hs (by simp)
 obtain ⟨qs,e1,e2,e3⟩:=Al9 (top:=top) (y:=y) (k:=k) (parts:=[]) (at_:=0) (T:=Ajn ps') (by show 0=min 0 (top + 1); lia) t1 (t3 0 (by simp) fun p hp'=>(h p (hp.subset hp')).1)
 refine ⟨qs,e1,e2,?_⟩
 have hl:=Ada e2
 apply List.ext_getElem?
 intro x
 by_cases hx:x<=top
 · rw [e3 x hx,if_neg (by lia),Bf8,Ci4 (by lia)]
   have:inS (Ajn ps') x=inS ps x:=by
    rw [show Ajn ps'=ps'.foldl Aa6 [] from rfl,t2 x,Bv6]
    simp only [Bv5,Ais]
    constructor
    · rintro (⟨p,hp',_⟩ | ⟨p,hp',r⟩)
      · cases hp'
      · exact ⟨p,hp.subset hp',r⟩
    · rintro ⟨p,hp',r⟩; exact .inr ⟨p,hp.symm.subset hp',r⟩
   rw [this]; rfl
 · rw [List.getElem?_eq_none (by lia),List.getElem?_eq_none (by simp; exact r52 ‹_›)]
theorem Akm {α:Type} {e:Nat}:∀ {l:List (Nat × α)} {low:Nat},As e low l->l.length<=e - low
 | [],_,_=>Bi4 _
 | p :: r,low,h=>by
  have:=Akm h.2.2
  have:=h.1
  have:=h.2.1
  rw [Bh3]; exact ra (p:=p.1) ‹_› ‹_› ‹_›
section
variable {w:World} {n:Nat} {σ:Sto} {Q:V->Sto->Prop} {Y:Str->Sto->Prop} {a:Wo} {wl pa na:Addr} {T nd:List (List V)} {ns:List Int}
theorem Apw {v:Nat} (L:LawW σ a wl pa na) (G:Axc a T nd) (hv:v < 3) (hTl:T.length<=20) (Aon:nd.length<=20) (hns:ns.length<=66)
   (hq:∀ T' nd' ms,Axc a T' nd'->T'.length<=T.length + 1->nd'.length<=nd.length + 1->ms.length<=66->Q (.bool true) (Aj σ a pa na T' nd' ms)) :
   Fn (PM w) (n + 7) (.ref 343) [.loc wl,.loc na,.int v,.loc pa] (Aj σ a pa na T nd ns) Q Y:=by
 have L2:=L.nod (T:=T) (nd:=nd) (ns:=ns)
 have L5:=L.wld (T:=T) (nd:=nd) (ns:=ns)
 have Acw:∀ p∈a.A1,p<=10:=fun p hp=>by have:=L.B9 p hp; exact Be7 this.2 (by decide)
 have hpa:∀ ms,Aj σ a pa na T nd ms pa=some (B2 ms):=fun ms=>L.pen
 obtain ⟨Ane,hcl⟩:=L.szs
 obtain ⟨top,B9⟩:∃ top,a.A1[v]?=some top:=⟨_,Bf0 (by rw [L.h3]; exact hv)⟩
 obtain ⟨ht1,ht2⟩:=L.B9 top (Bf9 B9)
 have Azc:0 < nd.length:=by obtain ⟨t,ht,_⟩:=G.lf; exact List.length_pos_of_mem ht
 have hv':v < 1000000:=Bj3 hv (by decide)
 have r1:n + 1<=n + 6:=Bf3 (by decide) n
 have hnl:(nd.map (Au T)).length<=100000:=by rw [Be9]; exact Be7 Aon (by decide)
 refine B8 rfl rfl (Aqo fun _ _ _ _=>rfl) rfl fun R' Y' hR hY hRs hYs=>Ac L5 rfl (Ab (k:=v) (d:=.int top) (.val _) (by rw [tupI,Bf8,B9]; rfl) (.inl fun sp hsp=>?_) hv')
 have nsp:=fun ms=>Ady ms sp hsp
 have Axm:=nne (hpa ns) hsp
 have hpa':∀ ms {x},((Aj σ a pa na T nd ms).put sp x) pa=some (B2 ms):=fun ms {x}=>by rw [Sto.A4 _ _ Axm]; exact hpa ms
 have Bak:∀ ms ms' {x},((Aj σ a pa na T nd ms).put sp x).put pa (B2 ms')=(Aj σ a pa na T nd ms').put sp x:=fun ms ms' {x}=>by rw [Sto.Ao _ _ _ Axm.symm,Aau]
 refine Fn.room (n:=n + 1) (Ab0 (n:=n) (k:=6) (hpa' ns) hns (by decide) fun k1 ns1 hk1 Aro=>?_) r1
 rw [Bak]
 refine Aac (k:=k1) rfl ?_ (Be7 (Bk4 hk1) (by decide))
 refine Ajz (u:=0) (α:=List (Int × Int) × List Int) (fun x=>(Aj σ a pa na T nd x.2).put sp (.list (x.1.map Acq))) (fun _=>[("world",.loc wl),("nodes",.loc na),("variable",.int v),("pen",.loc pa),("top",.int top),("spans",.loc sp)])
   (fun k x=>x.1.length=k/\(∀ p∈x.1,0<=p.1/\p.1<=p.2)/\x.2.length<=66) ([],ns1) rfl ⟨rfl,fun _ h=>absurd h Bj1,Aro⟩ (Sub.refl _) rfl ?_ ?_
 rotate_left
 · rintro k ⟨ps,ms⟩ K hk hK ⟨e1,e2,e3⟩
   dsimp only at e1 e2 e3
   refine Fn.room (n:=n + 1) (Ab0 (n:=n) (k:=top + 3) (hpa' ms) e3 (Bp9 _) fun r1' ms1 hr1 Aw0=>?_) r1
   rw [Bak]
   refine Af (Sto.A0 ..) (Fn.room (n:=n + 1) (Ab0 (n:=n) (k:=3) (hpa' ms1) Aw0 (by decide) fun r2 ms2 hr2 Bd5=>?_) r1)
   rw [Bak]
   refine Ae (ds:=ps.map Acq) (Sto.A0 ..) ?_ (by rw [Be9]; rw [e1]; exact Be7 (Bk4 (Bk7 k1 ▸ hk)) (Be7 (Bk4 hk1) (by decide)))
   rw [Sto.A9]
   refine hK (ps ++ [((r1':Int),(r1':Int) + r2)],ms2) _ _ ⟨by rw [Bf1,e1]; rfl,Aa9 e2 (by dsimp only; exact ⟨Bj9 _,Bw5 (Bj9 _)⟩),Bd5⟩ ?_ rfl
   dsimp only
   rw [Bg1]; exact Sub.refl _
 rintro ⟨ps,ns2⟩ ⟨e1,e2,e3⟩
 dsimp only at e1 e2 e3
 have e1:ps.length<=5:=by rw [e1,Bk7]; exact Bw2 hk1
 refine .frz "spans" rfl (Sto.A0 ..) (.go ?_)
 rw [Sto.Abm (nsp ns2)]
 have nodT:∀ ms,Aj σ a pa na T nd ms na=some (.list (nd.map (Au T))):=fun ms=>L.nod
 have getN:∀ r,r < nd.length->∃ t,nd[r]?=some t/\t∈T:=fun r hr=>⟨nd[r],Bf0 hr,G.sub _ (Bl6 hr)⟩
 refine Aa1 (ds:=nd.map (Au T)) (.loc (nodT _)) hnl ?_
 rw [Be9]
 refine Fn.room (n:=n + 1) (Ab0 (n:=n) (k:=nd.length) (hpa ns2) e3 Azc fun k1 ns3 hk1 Azq=>?_) r1
 rw [Aau]
 obtain ⟨ty,hy1,hy2⟩:=getN k1 hk1
 refine Ab (k:=k1) (.loc (nodT _)) (by rw [Bf8,hy1]; rfl) (Aa1 (ds:=nd.map (Au T)) (.loc (nodT _)) hnl ?_) (Bh0 hk1 (Be7 Aon (by decide)))
 rw [Be9]
 refine Fn.room (n:=n + 1) (Ab0 (n:=n) (k:=nd.length) (hpa ns3) Azq Azc fun k2 ns4 hk2 Bc5=>?_) r1
 rw [Aau]
 obtain ⟨tk,hk1',hk2'⟩:=getN k2 hk2
 refine Ab (k:=k2) (.loc (nodT _)) (by rw [Bf8,hk1']; rfl) ?_ (Bh0 hk2 (Be7 Aon (by decide)))
 have hyl:=G.H.len ty hy2
 have hkl:=G.H.len tk hk2'
 have t1000:∀ {t:List V},t.length=szs a.A1->t.length<=1000:=fun h=>by rw [h]; exact Be7 Ane (by decide)
 refine A6 (k:=1) (d:=.tup ty) rfl (Fn.room (n:=n + 2) (Ac9 (n:=n) (v:=0) (a:=a) L.wld L.h3 Acw (Bi4 _) (t1000 hyl) (fun x hx=>(G.H.val ty hy2 x hx).flat) ?_) (Bf3 (by decide) n))
 refine A6 (k:=0) rfl (A6 (k:=1) (d:=.tup tk) rfl (Fn.room (n:=n + 2) (Ac9 (n:=n) (v:=0) (a:=a) L.wld L.h3 Acw (Bi4 _) (t1000 hkl) (fun x hx=>(G.H.val tk hk2' x hx).flat) ?_) (Bf3 (by decide) n)))
 rw [Bk7,Bk7,Bo8]
 obtain ⟨hy,ay,p1,p2,p3,p4,p5⟩:=Aar a.A1 T ty
 obtain ⟨hk,ak,q1,q2,q3,q4,q5⟩:=Aar a.A1 T tk
 have hDy:(An a.A1 T)[T.idxOf ty]?=some (.tup [hy,ay]):=by rw [Abn (Acb hy2),p1]
 have hDk:(An a.A1 T)[T.idxOf tk]?=some (.tup [hk,ak]):=by rw [Abn (Acb hk2'),q1]
 have hyi:T.idxOf ty < 1000:=Bh0 (Bk1 hy2) (Be7 hTl (by decide))
 have hki:T.idxOf tk < 1000:=Bh0 (Bk1 hk2') (Be7 hTl (by decide))
 have Aob:v < 100:=Bj3 hv (by decide)
 have Axv:a.A1.length<=100:=by rw [L.h3]; decide
 refine A6 (k:=0) rfl (Af6 (Aj8 (dI (fun q=>?_) fun q=>?_)))
 · refine Ac L.wld rfl (A6 (k:=0) rfl (A6 (k:=0) rfl (Aat (n:=n + 5) (Arn (n:=n + 4) (Arz (n:=n) (D:=An a.A1 T) (y:=T.idxOf ty) (k:=T.idxOf tk) (top:=top) L.dn hDy hDk hyi hki p2 p3 q2 q3 p4 q4 B9 Aob Axv e1 (fun _=>?_) (fun hh=>by omega))))))
   rw [decide_eq_true rfl]
   exact hR (hq T nd ns4 G (Bm8 _) (Bm8 _) Bc5)
 have hcy:=Ah4 hyl (show v + 1<=(asked a.A1 ty).1 by exact r20 ‹_›)
 have hck:=Ah4 hkl (show v + 1<=(asked a.A1 tk).1 by exact r19 ‹_›)
 refine Ac L.wld rfl (A6 (k:=0) rfl (A6 (k:=0) rfl (Fn.room (n:=n + 4) (Arz (n:=n) (D:=An a.A1 T) (y:=T.idxOf ty) (k:=T.idxOf tk) (top:=top) L.dn hDy hDk hyi hki p2 p3 q2 q3 p4 q4 B9 Aob Axv e1 (fun hh=>by omega) (fun _ ps' Aka Bab=>?_)) (Bf3 (by decide) n))))
 obtain ⟨qs,z1,z2,z3⟩:=Aki (top:=top) (y:=T.idxOf ty) (k:=T.idxOf tk) Aka Bab e2
 rw [z1]
 have Bd9:qs.length<=100:=by
   have:=Akm z2; exact Be7 this (Be7 (Bg3 ht2) (by decide))
 with_reducible refine gze ((Bh8 (top + 1)).map fun x=>(if inS ps x then ty else tk).take (szs (a.A1.drop (v + 1)))) fun S hS=>?_
 have s1:S.length=top + 1:=by rw [<- hS,Be9,Bk9]
 have s2:∀ s∈S,s.length=szs (a.A1.drop (v + 1)):=fun s hs=>by
   rw [<- hS] at hs
   obtain ⟨x,_,rfl⟩:=Bh1.mp hs
   split
   · exact hcy.1
   · exact hck.1
 have s3:∀ s∈S,whole (szs a.A1) s∈T:=fun s hs=>by
   rw [<- hS] at hs
   obtain ⟨x,_,rfl⟩:=Bh1.mp hs
   split
   · rw [hcy.2]; exact hy2
   · rw [hck.2]; exact hk2'
 have s4:Aq 0 qs=S.map (numOf a.A1 T):=by
   rw [z3,<- hS,Bi5]
   refine Bj5 fun x _=>?_
   simp only [Bt0,numOf]
   by_cases c:inS ps x=true
   · rw [if_pos c,if_pos c,hcy.2]
   · rw [if_neg c,if_neg c,hck.2]
 have s5:∀ (k:Nat) (c:List Nat) (x:Nat),(B6 a.A1)[k]?=some c->c[v]?=some x->(whole (szs a.A1) S.flatten)[k]?=(if inS ps x then ty else tk)[k]?:=fun k c x hc hx=>by
   have hxt:x<=top:=(Acf (Bf9 hc)).2 v x top hx B9
   rw [Apo B9 s1 s2 hc hx (s:=(if inS ps x then ty else tk).take (szs (a.A1.drop (v + 1)))) (by rw [<- hS,Bf8,Ci4 (by exact Bp2 hxt)]; rfl)]
   split
   · rw [hcy.2]
   · rw [hck.2]
 refine Anf (n:=n) (S:=S) G.H L.dn L.db L.n6 (Be7 hTl (by decide)) B9 Aob z2 Bd9 s1 s2 s3 s4 ?_
 rw [L.Ahi,<- Agl (u:=whole (szs a.A1) S.flatten) G.sub]
 have HT':=G.H.join B9 s1 s2 s3
 have hul:(whole (szs a.A1) S.flatten).length=szs a.A1:=HT'.len _ Adg
 have hTl':=Ajj (T:=T) (u:=whole (szs a.A1) S.flatten)
 revert s5 HT' hul hTl'; with_reducible refine gz (whole (szs a.A1) S.flatten) fun u s5 HT' hul hTl'=>?_
 rw [show ((Ahi σ a.dn a.db (An a.A1 (B7 T u))).put na (.list (nd.map (Au (B7 T u))))).put pa (B2 ns4)=Aj σ a pa na (B7 T u) nd ns4 from rfl]
 have L2':=L.nod (T:=B7 T u) (nd:=nd) (ns:=ns4)
 have L5':=L.wld (T:=B7 T u) (nd:=nd) (ns:=ns4)
 refine .inl fun tb htb=>?_
 have nwt:=nne L5' htb
 have nnt:=nne L2' htb
 refine Ac (a:=wl) (by rw [Sto.A4 _ _ nwt]; exact L5') rfl (Ado ?_)
 rw [L.hc]
 have ul:∀ {l:List V},l.length<=u.length->l.length<=100000:=fun h=>Be7 h (by rw [hul]; exact Be7 Ane (by decide))
 refine Anr Ajf (α:=Nat) (fun k=>(Aj σ a pa na (B7 T u) nd ns4).put tb (.list (u.take k))) (fun _=>[("world",.loc wl),("nodes",.loc na),("variable",.int v),("spans",.lst (ps.map Acq)),("no",Au T tk),("yes",Au T ty),("table",.loc tb),("number",.int ((B7 T u).idxOf u:Nat))])
   (fun k rs j=>j=k/\(B6 a.A1).drop k=rs) _ 0 rfl ⟨rfl,rfl⟩ (Sub.refl _) rfl ?_ ?_
 · rintro k _ ⟨rfl,f2⟩
   rw [Bu1 (by rw [hul,<- Ac0]; exact List.drop_eq_nil_iff.mp f2)]
   have M2':((Aj σ a pa na (B7 T u) nd ns4).put tb (.list u)) na=some (.list (nd.map (Au (B7 T u)))):=by rw [Sto.A4 _ _ nnt]; exact L2'
   refine .go (Af M2' (Aa7 (.loc (Sto.A0 ..)) (ul (Bh5 _)) (Ae M2' (hRs ?_ (hq (B7 T u) (nd ++ [u]) ns4 ⟨HT',Aa9 (fun t ht=>Ag6 (G.sub t ht)) Adg,?_⟩ hTl' (by rw [Bf1]; exact Bh5 _) Bc5)) (by rw [Be9]; exact Be7 Aon (by decide)))))
   · unfold Aj
     rw [Bg1,<- Sto.A9 (Ahi σ a.dn a.db (An a.A1 (B7 T u))) na (.list (nd.map (Au (B7 T u)))) (.list (nd.map (Au (B7 T u)) ++ _)),Sto.Ao _ _ _ L.n1.symm]
     exact Sub.put (Sub.new (Sub.refl _) htb) _ _
   · obtain ⟨t,ht,e⟩:=G.lf
     exact ⟨t,Bi0 _ ht,e⟩
 · rintro _ c rs k K hK ⟨rfl,f2⟩
   obtain ⟨hck',f3⟩:=drop_cons f2
   obtain ⟨cl1,cl2⟩:=Acf (Bf9 hck')
   obtain ⟨x,hx⟩:∃ x,c[v]?=some x:=⟨_,Bf0 (by rw [cl1,L.h3]; exact hv)⟩
   have hu5:=s5 k c x hck' hx
   have hkz:k < szs a.A1:=by rw [<- Ac0]; exact (Bf7.mp hck').1
   have kl:k < 1000000:=Bh0 hkz (Be7 Ane (by decide))
   refine Aij rfl (Acy _ (fun p:Int × Int=>if p.1<=x/\(x:Int)<=p.2 then some (.int 1) else none) ps rfl (Be7 e1 (by decide)) ?_ fun acc B1 p hp vs K1 K0 h1 h0=>?_)
   rotate_left
   · exact A6 (k:=v) (d:=.int x) (by rw [tupI,Bf8,hx]; rfl) (Aj8 (dI (fun c1=>Aj8 (dI (fun c2=>h1 _ _ (if_pos ⟨c1,c2⟩) (Sub.refl _)) fun c2=>h0 _ (if_neg fun h=>c2 h.2) (Sub.refl _))) fun c1=>h0 _ (if_neg fun h=>c1 h.1) (Sub.refl _))) hv'
   have hin:(!decide (V.lst (ps.filterMap fun p:Int × Int=>if p.1<=x/\(x:Int)<=p.2 then some (V.int 1) else none)=V.lst []))=inS ps x:=by
     cases h:inS ps x with
     | true=>
       obtain ⟨p,hp,h⟩:=Ais.mp h
       rw [Bm7,decide_eq_false_iff_not,V.lst.injEq,Bq3]
       intro hh
       have:=hh p hp
       rw [if_pos h] at this; cases this
     | false=>
       rw [Bool.not_eq_false',decide_eq_true_eq,V.lst.injEq,Bq3]
       intro p hp
       refine if_neg fun c=>?_
       rw [Ais.mpr ⟨p,hp,c⟩] at h; cases h
   refine .inr (Afs (.val _) (.val _) ?_ (by
     rw [V.dat]
     refine Acr.mpr fun y hy=>?_
     obtain ⟨p,_,h⟩:=Bx9.mp hy
     split at h
     · cases h; rfl
     · cases h) rfl Aj5)
   rw [hin]
   have fin:∀ {t:List V},t∈T->u[k]?=t[k]?->∃ y,t[k]?=some y/\u.take k ++ [y]=u.take (k + 1):=fun {t} ht hu=>by
     have e:t[k]?=some (t[k]'(by rw [G.H.len t ht]; exact hkz)):=Bf0 _
     exact ⟨_,e,by rw [Cd2,hu,e]; rfl⟩
   refine Af (Sto.A0 ..) (.mk _ (.bool _) ?_)
   cases hb:inS ps x with
   | true=>
     rw [hb,if_pos rfl] at hu5
     obtain ⟨y,hyk,e⟩:=fin hy2 hu5
     refine A6 (k:=1) (d:=.tup ty) rfl (A6 (k:=k) hyk (Ae (ds:=u.take k) (Sto.A0 ..) (hK (k + 1) _ _ ⟨rfl,f3⟩ ?_ rfl) (ul (by rw [Bn4]; exact Bm3 ..))) kl)
     rw [Sto.A9,e]; exact Sub.refl _
   | false=>
     rw [hb,if_neg Bg5] at hu5
     obtain ⟨y,hyk,e⟩:=fin hk2' hu5
     refine A6 (k:=1) (d:=.tup tk) rfl (A6 (k:=k) hyk (Ae (ds:=u.take k) (Sto.A0 ..) (hK (k + 1) _ _ ⟨rfl,f3⟩ ?_ rfl) (ul (by rw [Bn4]; exact Bm3 ..))) kl)
     rw [Sto.A9,e]; exact Sub.refl _
end
section
variable {α:Type} [DecidableEq α]
noncomputable def Ahc (e:Nat):Nat->List (Nat × Nat × α)->Prop
 | low,[]=>low=e
 | low,x :: r=>x.1=low/\x.1<=x.2.1/\Ahc e (x.2.1 + 1) r
theorem Aez {e:Nat}:∀ {low:Nat} {l:List (Nat × Nat × α)} {x:Nat × Nat × α},Ahc x.1 low l->x.1<=x.2.1->x.2.1 + 1=e->Ahc e low (l ++ [x])
 | low,[],x,h,h1,h2=>⟨h.symm,h1,h2⟩
 | low,y :: r,x,h,h1,h2=>⟨h.1,h.2.1,Aez h.2.2 h1 h2⟩
theorem Ahp {e:Nat}:∀ {low:Nat} {l:List (Nat × Nat × α)} {x:Nat × Nat × α},Ahc e low (l ++ [x])->Ahc x.1 low l/\x.1<=x.2.1/\x.2.1 + 1=e
 | low,[],x,h=>⟨h.1.symm,h.2.1,h.2.2⟩
 | low,y :: r,x,h=>by obtain ⟨a,b⟩:=Ahp h.2.2; exact ⟨⟨h.1,h.2.1,a⟩,b⟩
theorem Ai5:∀ {rs:List α} {f:List (Nat × Nat × α)} {k:Nat},Ahc k 0 f->Ahc (k + rs.length) 0 (Ac2 f k rs)
 | [],f,k,h=>h
 | r :: rs,f,k,h=>by
  rw [Ahb,Bh3,show k + (rs.length + 1)=k + 1 + rs.length by lia]
  refine Ai5 ?_
  have app:Ahc (k + 1) 0 (f ++ [(k,k,r)]):=Aez h (Bh5 _) rfl
  rcases Bv1 f with rfl | ⟨g,y,rfl⟩
  · exact app
  · rw [Bv2] at *
    obtain ⟨a,b,c⟩:=Ahp h
    unfold Aaf
    simp only [Ch5,Cd9,Cm8,Bs8]
    split
    · exact Aez (x:=(y.1,k,r)) a (by dsimp only; lia) rfl
    · exact app
theorem Adk (rs:List α):Ahc rs.length 0 (Aa rs):=by
 have:=Ai5 (rs:=rs) (f:=[]) (k:=0) rfl
 simpa [Aa] using this
end
noncomputable def Amg (g:List V->List (List V × V)) (v:Nat):Nat->List (Nat × List V)->List (List V × V)
 | _,[]=>[]
 | low,(h,s) :: r=>(g s).map (fun p=>(Aek v low h :: p.1,p.2)) ++ Amg g v (h + 1) r
theorem Axz:∀ (g:List V->List (List V × V)) (v x:Nat),Amg g v x []=[]:=by intros; rfl
theorem Aeg:∀ (g:List V->List (List V × V)) (v x h:Nat) (s:List V) (r:List (Nat × List V)),Amg g v x ((h,s) :: r)=Bz4 (fun p=>(Aek v x h :: p.fst,p.snd)) (g s) ++ Amg g v (h + 1) r:=by intros; rfl
theorem Aig {g g' v}:∀ {low l},(∀ x∈l,g x.2=g' x.2)->Amg g v low l=Amg g' v low l
 | _,[],_=>rfl
 | low,(h,s) :: r,k=>by rw [Aeg,Aeg,k (h,s) (.head _),Aig fun x hx=>k x (.tail _ hx)]
theorem Anh {g v}:∀ {low l p},p∈Amg g v low l->∃ x∈l,∃ q∈g x.2,p.2=q.2/\∃ lo,p.1=Aek v lo x.1 :: q.1
 | _,[],p,h=>by cases h
 | low,(hh,s) :: r,p,h=>by
  rw [Aeg] at h
  rcases Bh6.mp h with h | h
  · obtain ⟨q,hq,rfl⟩:=Bh1.mp h
    exact ⟨(hh,s),.head _,q,hq,rfl,low,rfl⟩
  · obtain ⟨x,hx,r⟩:=Anh h; exact ⟨x,.tail _ hx,r⟩
theorem Amx {g v q}:∀ {low l x},x∈l->q∈g x.2->∃ p∈Amg g v low l,p.2=q.2
 | low,[],x,hx,_=>by cases hx
 | low,(hh,s) :: r,x,hx,hq=>by
  rw [Aeg]
  rcases Bh7.mp hx with rfl | hx
  · exact ⟨_,Bi0 _ (Bi7 hq),rfl⟩
  · obtain ⟨p,hp,e⟩:=Amx (low:=hh + 1) hx hq
    exact ⟨p,Bh9 _ hp,e⟩
theorem Amc {g v b}:∀ {low l},(∀ x∈l,(g x.2).length<=b)->(Amg g v low l).length<=l.length * b
 | _,[],_=>by simp [Axz,Aeg]
 | low,(h,s) :: r,k=>by
  have:=Amc (g:=g) (v:=v) (b:=b) (low:=h + 1) (l:=r) fun x hx=>k x (.tail _ hx)
  have:=k (h,s) (.head _)
  rw [Aeg,Bf1,Be9,Bh3,Bx5]
  dsimp only at this; rw [Bl9]; exact Bo4 ‹_› ‹_›
noncomputable def Wf (ts:List Nat):Nat->List V->List (List V × V)
 | 0,_=>[]
 | f + 1,t=>if (asked ts t).1=ts.length then [([],((asked ts t).2.headD []).headD .none)] else Amg (fun s=>Wf ts f (whole (szs ts) s)) (asked ts t).1 0 (Bh (asked ts t).2)
theorem Bd2:∀ (ts:List Nat) (x:List V),Wf ts 0 x=[]:=by intros; rfl
theorem As6:∀ (ts:List Nat) (x:List V) (f:Nat),Wf ts f.succ x=if (asked ts x).fst=ts.length then [([],((asked ts x).snd.headD []).headD V.none)] else Amg (fun s=>Wf ts f (whole (szs ts) s)) (asked ts x).fst 0 (Bh (asked ts x).snd):=by intros; rfl
section
variable {ts:List Nat}
theorem Ac1 {t r} (h:t.length=szs ts) (hr:r∈(asked ts t).2) (hn:(asked ts t).1≠ts.length):(asked ts t).1 + 1<=(asked ts (whole (szs ts) r)).1/\(whole (szs ts) r).length=szs ts:=by
 have hle:=Aai (ts:=ts) (t:=t)
 refine ⟨?_,Ab6 (Aj7 h hr)⟩
 rw [Aae (d:=(asked ts t).1 + 1) (by exact r53 ‹_› ‹_›) (Acl h hr)]; dsimp only; lia
set_option tactic.hygienic true in
theorem Aow:∀ (f f':Nat) (t:List V),t.length=szs ts->ts.length + 1<=(asked ts t).1 + f->ts.length + 1<=(asked ts t).1 + f'->Wf ts f t=Wf ts f' t
 | 0,f',t,h,h1,h2=>by have:=Aai (ts:=ts) (t:=t); lia
 | f + 1,0,t,h,h1,h2=>by have:=Aai (ts:=ts) (t:=t); lia
 | f + 1,f' + 1,t,h,h1,h2=>by
  rw [As6,As6]
  split
  · rfl
  · rename_i hn
    refine Aig fun x hx=>?_
    obtain ⟨a,b⟩:=Ac1 h (Abq hx) hn
    exact Aow f f' _ b (by exact r29 ‹_› ‹_›) (by exact r29 ‹_› ‹_›)
set_option tactic.hygienic true in
theorem Apu:∀ (f:Nat) (t:List V),(∀ p∈ts,p<=2)->(Wf ts f t).length<=3 ^ f
 | 0,t,_=>by simp [Bd2,As6]
 | f + 1,t,h=>by
  rw [As6]
  split
  · exact By2 (by simp)
  · rename_i hn
    refine Be7 (Amc fun x _=>Apu f (whole (szs ts) x.2) h) ?_
    have h1:=Ag2 (rs:=(asked ts t).2)
    have hlt:(asked ts t).1 < ts.length:=by have:=Aai (ts:=ts) (t:=t); exact r53 ‹_› ‹_›
    have h2:(asked ts t).2.length<=3:=by
     rw [Aa5 (Bf0 hlt)]
     have:=h _ (Bl6 hlt); lia
    rw [Cl0,Br5]
    exact Bp0 _ (by exact r38 ‹_› ‹_›)
set_option tactic.hygienic true in
theorem Amu:∀ (f:Nat) (t:List V),t.length=szs ts->∀ p∈Wf ts f t,p.2∈t/\p.1.length<=f
 | 0,t,h,p,hp=>by cases hp
 | f + 1,t,h,p,hp=>by
  rw [As6] at hp
  split at hp
  · rename_i e
    rw [Bf6.mp hp]
    obtain ⟨x,hx,wx⟩:=Abd h e
    rw [hx]
    refine ⟨?_,Bi4 _⟩
    rw [<- wx]; exact Aav (by simp) (Ah _) (by simp)
  · rename_i hn
    obtain ⟨x,hx,q,hq,e,lo,e2⟩:=Anh hp
    have hr:=Abq hx
    obtain ⟨a,b⟩:=Ac1 h hr hn
    have:=Amu f _ b q hq
    refine ⟨?_,by rw [e2,Bh3]; lia⟩
    rw [e]
    have h2:=Abv this.1
    have ht:=Aax h
    rw [<- ht]
    exact Aav (by rw [Aaa h]; exact Al ..) (Ah _) (Bt7.mpr ⟨x.2,hr,h2⟩)
theorem Aqw {t x} (h:t.length=szs ts) (hx:x∈t):∃ r∈(asked ts t).2,x∈r:=by
 rw [<- Aax h] at hx
 obtain ⟨r,hr,hx⟩:=Bt7.mp (Abv hx)
 exact ⟨r,hr,hx⟩
theorem Aq8 {t r x} (h:t.length=szs ts) (hr:r∈(asked ts t).2) (hx:x∈r):x∈t:=by
 rw [<- Aax h]
 exact Aav (by rw [Aaa h]; exact Al ..) (Ah _) (Bt7.mpr ⟨r,hr,hx⟩)
theorem Amj {α:Type} [DecidableEq α] {rs:List α} {r:α} (h:r∈rs):∃ hh,(hh,r)∈Bh rs:=by
 rw [<- (Abk rs).2] at h
 obtain ⟨p,hp,rfl⟩:=Ajh h
 exact ⟨p.1,hp⟩
set_option tactic.hygienic true in
theorem Auu:∀ (f:Nat) (t:List V),t.length=szs ts->ts.length + 1<=(asked ts t).1 + f->∀ x∈t,∃ p∈Wf ts f t,p.2=x
 | 0,t,h,h1,x,hx=>by have:=Aai (ts:=ts) (t:=t); exact absurd (Be7 h1 this) (Nat.not_succ_le_self _)
 | f + 1,t,h,h1,x,hx=>by
  rw [As6]
  split
  · rename_i e
    obtain ⟨y,hy,wy⟩:=Abd h e
    rw [hy]
    rw [<- wy] at hx
    have:=Abv hx
    exact ⟨_,Bf6.mpr rfl,(Bf6.mp this).symm⟩
  · rename_i hn
    obtain ⟨r,hr,hxr⟩:=Aqw h hx
    obtain ⟨hh,hp⟩:=Amj hr
    obtain ⟨a,b⟩:=Ac1 h hr hn
    obtain ⟨q,hq,e⟩:=Auu f (whole (szs ts) r) b (by exact r29 ‹_› ‹_›) x (Aav (Aj7 h hr) (Ah _) hxr)
    obtain ⟨p,hp,e2⟩:=Amx (g:=fun s=>Wf ts f (whole (szs ts) s)) (v:=(asked ts t).1) (low:=0) hp hq
    exact ⟨p,hp,by rw [e2,e]⟩
noncomputable def Axg (nm:Nat->Str) (nums:Nat->List Int):V->V
 | .tup [.int v,.tup [.int lo,.int hi]]=>Abp (nm v.toNat) (Aaj (Abi (nums v.toNat) lo.toNat hi.toNat).1 (Abi (nums v.toNat) lo.toNat hi.toNat).2)
 | _=>.none
theorem Air {nm nums v lo hi}:Axg nm nums (Aek v lo hi)=Abp (nm v) (Aaj (Abi (nums v) lo hi).1 (Abi (nums v) lo hi).2):=by
 show Abp (nm (v:Int).toNat) (Aaj (Abi (nums (v:Int).toNat) (lo:Int).toNat (hi:Int).toNat).1 _)=_
 rw [Bz5,Bz5,Bz5]
theorem An9 {F:List V × V->V} {g:List V->List (List V × V)} {v e:Nat}:∀ {low:Nat} {L:List (Nat × Nat × List V)},Ahc e low L ->
  L.flatMap (fun x=>(g x.2.2).map fun p=>F (Aek v x.1 x.2.1 :: p.1,p.2))=(Amg g v low (L.map fun x=>(x.2.1,x.2.2))).map F
 | low,[],_=>rfl
 | low,(lo,hi,s) :: r,h=>by
  obtain ⟨h1,h2,h3⟩:=h
  dsimp only at h1 h2 h3
  subst h1
  rw [Bs9,Bg8,Aeg,Bg1,Bi5,An9 h3]; rfl
theorem Afz {nm nums} (h3:ts.length=3):∀ (f v:Nat) (s st:List V),v<=3->4<=v + f->s.length=szs (ts.drop v) ->
  Ax ts nm nums f v s st=(Wf ts f (whole (szs ts) s)).map fun p=>Alm (st ++ p.1.map (Axg nm nums)) p.2
 | 0,v,s,st,h1,h2,_=>by lia
 | f + 1,v,s,st,h1,h2,hs=>by
  have hlen:(whole (szs ts) s).length=szs ts:=Ab6 (by rw [hs]; exact Al ..)
  have ha:=Aae (ts:=ts) (d:=v) (s:=s) (by exact r48 ‹_› ‹_›) hs
  rw [Agt,As6,ha]
  dsimp only
  by_cases q:v + (asked (ts.drop v) s).1=3
  · rw [if_pos q,if_pos (by lia)]; simp
  · rw [if_neg q,if_neg (by lia)]
    have Atp:∀ r∈(asked (ts.drop v) s).2,r.length=szs (ts.drop (v + (asked (ts.drop v) s).1 + 1)):=fun r hr=>by
     have:=Acl (ts:=ts) (t:=whole (szs ts) s) hlen (r:=r) (by rw [ha]; exact hr)
     rw [ha] at this; exact this
    have hle:v + (asked (ts.drop v) s).1<=3:=by have:=Aai (ts:=ts) (t:=whole (szs ts) s); rw [ha,h3] at this; exact this
    generalize hat:v + (asked (ts.drop v) s).1=at_ at *
    have e1:(Aa (asked (ts.drop v) s).2).flatMap (fun x=>Ax ts nm nums f (at_ + 1) x.2.2 (st ++ [Abp (nm at_) (Aaj (Abi (nums at_) x.1 x.2.1).1 (Abi (nums at_) x.1 x.2.1).2)])) =
      (Aa (asked (ts.drop v) s).2).flatMap fun x=>((fun s=>Wf ts f (whole (szs ts) s)) x.2.2).map fun p=>(fun p:List V × V=>Alm (st ++ p.1.map (Axg nm nums)) p.2) (Aek at_ x.1 x.2.1 :: p.1,p.2):=by
     rw [Ce8,Ce8]
     congr 1
     refine Bj5 fun x hx=>?_
     obtain ⟨y1,_,_⟩:=Aak hx
     rw [Afz h3 f (at_ + 1) x.2.2 _ (by exact r53 ‹_› ‹_›) (by rw [<- hat,Bh2]; exact Be7 h2 (Bi3 (Bg9 ..) _)) (Atp _ y1)]
     refine Bj5 fun p _=>?_
     dsimp only
     rw [Bg8,Air,Bj0]; rfl
    rw [e1,An9 (F:=fun p:List V × V=>Alm (st ++ p.1.map (Axg nm nums)) p.2) (g:=fun s=>Wf ts f (whole (szs ts) s)) (v:=at_) (Adk _)]
    rfl
end
inductive Reach (ch:Nat->Option (List Nat)) (k0:Nat):Nat->Prop
 | base:Reach ch k0 k0
 | step {m c:Nat} {cs:List Nat}:Reach ch k0 m->ch m=some cs->c∈cs->Reach ch k0 c
theorem Aj9 {ch k0 M} (h:Met ch (Reach ch k0) k0 M) (m:Nat):m∈M ↔ Reach ch k0 m/\ch m≠none:=by
 refine ⟨h.inn m,fun qM=>?_⟩
 obtain ⟨hr,hn⟩:=qM
 obtain ⟨S,s1,s2⟩:=h.all
 have:∀ {m},Reach ch k0 m->m∈S:=fun hr=>by
   induction hr with
   | base=>exact s1
   | step hr hc hm ih=>
    rcases s2 _ ih with e | ⟨_,e⟩
    · rw [hc] at e; cases e
    · exact e _ hc _ hm
 rcases s2 m (this hr) with e | e
 · exact absurd e hn
 · exact e.1
noncomputable def Acj (ts:List Nat) (T:List (List V)) (t:List V):List (Nat × Nat):=(Bh (asked ts t).2).map fun x=>(x.1,numOf ts T x.2)
noncomputable def chN (ts:List Nat) (T:List (List V)) (k:Nat):Option (List Nat):=match T[k]? with
 | some t=>if (asked ts t).1=ts.length then none else some ((Acj ts T t).map (·.2))
 | none=>none
noncomputable def B5 (ts:List Nat) (T:List (List V)) (u:List V):V:=if (asked ts u).1=ts.length then .tup [((asked ts u).2.headD []).headD .none,.str ""] else .tup [.str "goto",.str (nName (T.idxOf u))]
noncomputable def rlN (nm:Nat->Str) (nums:Nat->List Int) (ts:List Nat) (T:List (List V)) (m:Nat):Option V:=match T[m]? with
 | some t=>(Aaz (Ajc (An ts T)) (nums (asked ts t).1) 0 (Acj ts T t)).map (Ao0 (nm (asked ts t).1))
 | none=>none
noncomputable def Ank (nums:Nat->List Int) (ts:List Nat) (T:List (List V)) (u:List V):List V:=(Aa (asked ts u).2).flatMap fun x=>(Aad (nums (asked ts u).1) x.1 x.2.1).map (elV (B5 ts T (whole (szs ts) x.2.2)))
noncomputable def rvN (nm:Nat->Str) (nums:Nat->List Int) (ts:List Nat) (T:List (List V)) (m:Nat):V:=match T[m]? with
 | some u=>Ao0 (nm (asked ts u).1) (Ank nums ts T u)
 | none=>.none
section
variable {ts:List Nat} {T:List (List V)}
theorem Az0 (H:Bf ts T) {u k} (hk:T[k]?=some u):Ajc (An ts T) k=if (asked ts u).1=ts.length/\Ar (((asked ts u).2.headD []).headD .none)=false then none else some (B5 ts T u):=by
 have hi:=Ach H.nd hk
 unfold Ajc
 rw [Abn hk]
 unfold canon B5
 by_cases q:(asked ts u).1=ts.length
 · rw [if_pos q,if_pos q]
   dsimp only
   rw [if_pos rfl]
   cases Ar (((asked ts u).2.headD []).headD .none) <;> simp [q]
 · rw [if_neg q,if_neg q,if_neg (fun h=>q h.1)]
   dsimp only
   rw [if_neg (by simp),hi]
theorem Aen {u} (h:u.length=szs ts) (e:(asked ts u).1=ts.length):(∀ x,x∈u ↔ x=((asked ts u).2.headD []).headD .none):=by
 obtain ⟨y,hy,wy⟩:=Abd h e
 intro x
 rw [hy]
 constructor
 · intro hx; rw [<- wy] at hx; simpa using Bf6.mp (Abv hx)
 · rintro rfl; rw [<- wy]; exact Aav (by simp) (Ah _) (by simp)
theorem Avt (H:Bf ts T) {u k} (hk:T[k]?=some u) (ho:∀ x∈u,Ar x=true):Ajc (An ts T) k=some (B5 ts T u):=by
 rw [Az0 H hk,if_neg]
 rintro ⟨a,b⟩
 have:=ho _ ((Aen (H.len u (Bf9 hk)) a _).mpr rfl)
 rw [b] at this; cases this
theorem Ahv {vd:Nat->Option V} {nums:List Int} {num:List V->Nat} {said:List V->V} {e:Nat}:∀ {low:Nat} {L:List (Nat × Nat × List V)},Ahc e low L->(∀ x∈L,vd (num x.2.2)=some (said x.2.2)) ->
  Aaz vd nums low (L.map fun x=>(x.2.1,num x.2.2))=some (L.flatMap fun x=>(Aad nums x.1 x.2.1).map (elV (said x.2.2)))
 | low,[],_,_=>rfl
 | low,(lo,hi,s) :: r,h,k=>by
  obtain ⟨h1,h2,h3⟩:=h
  dsimp only at h1 h2 h3
  subst h1
  rw [Bg8,Ae2,k _ (.head _)]
  dsimp only
  rw [Ahv h3 fun x hx=>k x (.tail _ hx),Bs9]
theorem Afh {vd nums}:∀ {low l els},Aaz vd nums low l=some els->∀ p∈l,∃ v,vd p.2=some v
 | low,[],els,_,p,hp=>by cases hp
 | low,(h,c) :: r,els,e,p,hp=>by
  rw [Ae2] at e
  cases q:vd c with
  | none=>rw [q] at e; cases e
  | some v=>
   rw [q] at e
   dsimp only at e
   cases q2:Aaz vd nums (h + 1) r with
   | none=>rw [q2] at e; cases e
   | some els'=>
    rcases Bh7.mp hp with rfl | hp
    · exact ⟨v,q⟩
    · exact Afh q2 p hp
theorem Ads (H:Bf ts T) {u} (hu:u∈T) {r} (hr:r∈(asked ts u).2):T[numOf ts T r]?=some (whole (szs ts) r):=Acb (H.cl u hu r hr)
theorem As4 {u}:Acj ts T u=(Aa (asked ts u).2).map fun x=>(x.2.1,numOf ts T x.2.2):=by
 unfold Acj Bh; rw [Bi5]; rfl
theorem Aye (H:Bf ts T) {nm:Nat->Str} {nums:Nat->List Int} {u:List V} {m:Nat} (hm:T[m]?=some u) (ho:∀ x∈u,Ar x=true):rlN nm nums ts T m=some (rvN nm nums ts T m):=by
 have hu:=Bf9 hm
 unfold rlN rvN
 rw [hm]
 dsimp only
 rw [As4,Ahv (said:=fun s=>B5 ts T (whole (szs ts) s)) (Adk _) fun x hx=>?_]
 · rfl
 · obtain ⟨y1,_,_⟩:=Aak hx
   refine Avt H (Ads H hu y1) fun z hz=>ho z (Aq8 (H.len u hu) y1 (Abv hz))
theorem Abu (H:Bf ts T) {t k0} (hk:T[k0]?=some t) {m} (h:Reach (chN ts T) k0 m):∃ u,T[m]?=some u/\∀ x∈u,x∈t:=by
 induction h with
 | base=>exact ⟨t,hk,fun x h=>h⟩
 | @step m c cs hr hc hm ih=>
  obtain ⟨u,hu,hs⟩:=ih
  have hum:=Bf9 hu
  unfold chN at hc
  rw [hu] at hc
  dsimp only at hc
  split at hc
  · cases hc
  · cases hc
    obtain ⟨p,hp,rfl⟩:=Bh1.mp hm
    obtain ⟨x,hx,rfl⟩:=Bh1.mp hp
    have hr:=Abq hx
    exact ⟨_,Ads H hum hr,fun y hy=>hs y (Aq8 (H.len u hum) hr (Abv hy))⟩
theorem Amw (H:Bf ts T) {nm:Nat->Str} {nums:Nat->List Int} {S M:List Nat} (hs:∀ s∈S,chN ts T s=none∨(s∈M/\∀ cs,chN ts T s=some cs->∀ c∈cs,c∈S)) (hrl:∀ m∈M,rlN nm nums ts T m≠none) :
  ∀ (f:Nat) (u:List V) (m:Nat) (x:V),T[m]?=some u->ts.length<=(asked ts u).1 + f->m∈S->Ajc (An ts T) m≠none->x∈u->Ar x=true
 | f,u,m,x,hm,hf,hS,hv,hx=>by
  have hu:=Bf9 hm
  have hul:=H.len u hu
  by_cases q:(asked ts u).1=ts.length
  · rw [Az0 H hm] at hv
    have hx':=(Aen hul q x).mp hx
    rw [hx']
    cases o:Ar (((asked ts u).2.headD []).headD .none) with
    | true=>rfl
    | false=>rw [if_pos ⟨q,o⟩] at hv; exact absurd rfl hv
  · have hle:=Aai (ts:=ts) (t:=u)
    match f,hf with
    | 0,hf=>lia
    | f + 1,hf=>
     obtain ⟨r,hr,hxr⟩:=Aqw hul hx
     obtain ⟨hh,hp⟩:=Amj hr
     obtain ⟨a,b⟩:=Ac1 hul hr q
     have Bcf:(hh,numOf ts T r)∈Acj ts T u:=Bh1.mpr ⟨(hh,r),hp,rfl⟩
     have hch:chN ts T m=some ((Acj ts T u).map (·.2)):=by unfold chN; rw [hm]; dsimp only; rw [if_neg q]
     rcases hs m hS with e | ⟨e1,e2⟩
     · rw [hch] at e; cases e
     · have hc:=e2 _ hch (numOf ts T r) (Bh1.mpr ⟨_,Bcf,rfl⟩)
       have hr1:=hrl m e1
       have hvd:Ajc (An ts T) (numOf ts T r)≠none:=by
        unfold rlN at hr1
        rw [hm] at hr1
        dsimp only at hr1
        cases z:Aaz (Ajc (An ts T)) (nums (asked ts u).1) 0 (Acj ts T u) with
        | none=>rw [z] at hr1; exact absurd rfl hr1
        | some els=>
         obtain ⟨v,hv⟩:=Afh z _ Bcf
         dsimp only at hv
         rw [hv]; simp
       exact Amw H hs hrl f (whole (szs ts) r) _ x (Ads H hu hr) (by exact Be7 hf (by rw [<- Br4,Bh2]; exact Bi3 a _)) hc hvd (Aav (Aj7 hul hr) (Ah _) hxr)
theorem Ap4 (H:Bf ts T) {u k} (hk:T[k]?=some u) (hl:T.length<=20):Al0 (An ts T) k:=by
 obtain ⟨hd,ab,g1,g2,g3,g4,g5⟩:=Aar ts T u
 have hkl:=(Bf7.mp hk).1
 refine ⟨hd,ab,by rw [Abn hk,g1],by exact r38 ‹_› ‹_›,g2,g3,fun e=>?_⟩
 rcases g5 with ⟨a1,a2,a3⟩ | ⟨a1,a2,a3⟩
 · have hu:=Bf9 hk
   have:=(Aen (H.len u hu) a1 _).mpr rfl
   have hkv:=H.val u hu _ this
   rw [a3]
   exact ⟨V.Aal _ hkv.1,by rw [hkv.2]; exact r57 ‹_›⟩
 · rw [a2] at e; cases e
end
section
variable {w:World} {n:Nat} {σ:Sto} {ts:List Nat} {dn db dm lg pl:Addr} {T:List (List V)} {Q:V->Sto->Prop} {Y:Str->Sto->Prop} {names:List Str} {les:List (Str × V)} {pr:Str->Str} {nd:Str->List (Str × Int)} {nm:Nat->Str} {nums:Nat->List Int}
theorem Awk {nums lo hi a b} (h:nums≠[]) (hle:lo<=hi) (ha:nums[lo]?=some a) (hb:nums[hi]?=some b):Abi nums lo hi=(a,b):=by
 have hh:=(Bf7.mp hb).1
 unfold Abi Aad
 rw [if_neg h,List.head?_map,Bv8]
 have e1:(slc (some lo) (some (hi + 1)) nums).head?=some a:=by
  simp only [slc,Bm1]
  rw [List.head?_drop,List.getElem?_take,if_pos (by lia),ha]
 have e2:(slc (some lo) (some (hi + 1)) nums).getLast?=some b:=by
  simp only [slc,Bm1]
  rw [List.getLast?_eq_getElem?,List.getElem?_drop,List.getElem?_take,Bo9,Bn4,show lo + (min (hi + 1) nums.length - lo - 1)=hi by exact r25 ‹_› ‹_›,if_pos (by lia),hb]
 rw [e1,e2]; rfl
theorem Ajy {g v e}:∀ {low l p},As e low l->p∈Amg g v low l->∃ x∈l,∃ q∈g x.2,∃ lo,p.1=Aek v lo x.1 :: q.1/\low<=lo/\lo<=x.1/\x.1 < e/\(lo=0->x.1 + 1=e->l=[x])
 | _,[],p,_,h=>by cases h
 | low,(hh,s) :: r,p,hr,h=>by
  obtain ⟨h1,h2,h3⟩:=hr
  dsimp only at h1 h2 h3
  rw [Aeg] at h
  rcases Bh6.mp h with h | h
  · obtain ⟨q,hq,rfl⟩:=Bh1.mp h
    refine ⟨(hh,s),.head _,q,hq,low,rfl,Bh5 _,h1,h2,fun _ e1=>?_⟩
    cases r with
    | nil=>rfl
    | cons y r=>have:=h3.1; have:=h3.2.1; dsimp only at e1; lia
  · obtain ⟨x,hx,q,hq,lo,a1,a2,a3,a4,a5⟩:=Ajy h3 h
    exact ⟨x,.tail _ hx,q,hq,lo,a1,by lia,a3,a4,fun e1=>by lia⟩
set_option tactic.hygienic true in
theorem Alx {ts}:∀ (f:Nat) (t:List V),t.length=szs ts->∀ p∈Wf ts f t,∀ s∈p.1,∃ v lo hi top,s=Aek v lo hi/\ts[v]?=some top/\lo<=hi/\hi<=top/\¬ (lo=0/\hi=top)
 | 0,t,h,p,hp,s,hs=>by cases hp
 | f + 1,t,h,p,hp,s,hs=>by
  rw [As6] at hp
  split at hp
  · rw [Bf6.mp hp] at hs; cases hs
  · rename_i hn
    have hle:=Aai (ts:=ts) (t:=t)
    have hlt:(asked ts t).1 < ts.length:=by exact r53 ‹_› ‹_›
    obtain ⟨top,B9⟩:∃ top,ts[(asked ts t).1]?=some top:=⟨_,Bf0 hlt⟩
    have hrl:=Aa5 B9
    have hr:=(Abk (asked ts t).2).1
    obtain ⟨x,hx,q,hq,lo,e1,e2,e3,e4,e5⟩:=Ajy hr hp
    have hxr:=Abq hx
    rw [e1] at hs
    rcases Bh7.mp hs with rfl | hs
    · refine ⟨_,lo,x.1,top,rfl,B9,e3,by lia,fun qM=>?_⟩
      obtain ⟨c1,c2⟩:=qM
      have Baw:=e5 c1 (by lia)
      have Ay2:=An5 (e:=0) (p:=x) (rows:=(asked ts t).2) (by rw [<- Baw]; exact (Abk _).2)
      have hd:=Agu hlt
      have Asi:(asked ts t).2=Bg7 (asked ts t).2.length x.2:=Cg3.mpr ⟨rfl,Ay2⟩
      rw [Asi,Ala] at hd; cases hd
    · exact Alx f _ (Ac1 h hxr hn).2 q hq s hs
structure Aia (names:List Str) (ts:List Nat) (les:List (Str × V)) (nm:Nat->Str) (nums:Nat->List Int):Prop where
 get:∀ v,v < 3->names[v]?=some (nm v)
 les:∀ v,v < 3->(Am les (nm v)=none/\nums v=[])∨(Am les (nm v)=some (.tup ((nums v).map .int))/\nums v≠[])
 len:∀ v,v < 3->(nums v).length<=10
 big:∀ v,v < 3->nums v=[]∨∀ p,ts[v]?=some p->p < (nums v).length
theorem Adi {k:Nat} {t:List V} {base:Str} (H:Bf ts T) (h3:ts.length=3) (ht2:∀ p∈ts,p<=2) (hpl:σ pl=some (.A5 (placeOf names))) (hnl:names.length<=100) (hnm:∀ x∈names,Aem x (pr x) (nd x)) (hlg:σ lg=some (.A5 les)) (N:Aia names ts les nm nums)
   (h:σ dn=some (.list (An ts T))) (hk:T[k]?=some t) (hTl:T.length<=20) (hb:base.length<=100) (Afc:(∀ m,m < 20->nName m≠base)∨∀ x∈t,Ar x=true)
   (h1:∀ y,B0 nd names names=some y->Y y σ) (h2:B0 nd names names=none->(∃ x∈t,Ar x=false)->Y "a leaf that is no verdict" σ)
   (h3':B0 nd names names=none->(∀ x∈t,Ar x=true)->(∃ m,Reach (chN ts T) k m/\chN ts T m≠none/\nName m=base)->Y "the base chain has a node's name" σ)
   (hq:B0 nd names names=none->(∀ x∈t,Ar x=true)->∀ M,Met (chN ts T) (Reach (chN ts T) k) k M->(∀ m∈M,nName m≠base)->∀ r,σ r=none->Q (.loc r) (σ.put r (.A5 (Ai base (B5 ts T t) (rvN nm nums ts T) M)))) :
   Fn (PM w) (n + 6) (.ref 243) [Ba ts dn db dm,Abj names ts lg pl,.int k,.str base] σ Q Y:=by
 have hkl:=(Bf7.mp hk).1
 have lim:∀ {m},Reach (chN ts T) k m->m < 20:=fun hm=>by
   obtain ⟨u,hu,_⟩:=Abu H hk hm
   have:=(Bf7.mp hu).1; exact r38 ‹_› ‹_›
 have okAll:(∀ x∈t,Ar x=true)∨∃ x∈t,Ar x=false:=by
   by_cases q:∀ x∈t,Ar x=true
   · exact .inl q
   · right
     cases e:t.find? fun x=>!Ar x with
     | none=>
       rw [By1] at e
       exact absurd (fun x hx=>by have:=e x hx; simpa using this) q
     | some x=>exact ⟨x,Cc3 e,by have:=List.find?_some e; simpa using this⟩
 refine Aoy (D:=An ts T) (chN ts T) (Reach (chN ts T) k) (rlN nm nums ts T) hpl hnl hnm hlg h .base (Ap4 H hk hTl) hb (fun m hm=>?_) h1 (fun e1 e2=>?_) (fun e1 M hM ⟨m,hm,e⟩=>?_) (fun e1 M hM ⟨m,hm,e⟩=>?_) (fun e1 M vt rv hM e2 e3 r hr=>?_)
 · obtain ⟨u,hu,hs⟩:=Abu H hk hm
   have hum:=Bf9 hu
   refine ⟨lim hm,?_⟩
   have hle:=Aai (ts:=ts) (t:=u)
   by_cases q:(asked ts u).1=ts.length
   · left
     refine ⟨((asked ts u).2.headD []).headD .none,by rw [Abn hu]; unfold canon; rw [if_pos q],?_⟩
     unfold chN; rw [hu]; dsimp only; rw [if_pos q]
   · right
     have hv3:(asked ts u).1 < 3:=by exact h3 ▸ Bu5 hle q
     have hch:chN ts T m=some ((Acj ts T u).map (·.2)):=by unfold chN; rw [hu]; dsimp only; rw [if_neg q]
     refine ⟨(asked ts u).1,Acj ts T u,by rw [Abn hu]; unfold canon; rw [if_neg q]; unfold Acj; rw [Bi5]; rfl,?_,hch,fun p hp=>.step hm hch (Bi7 hp),nm (asked ts u).1,nums (asked ts u).1,N.get _ hv3,by exact r43 ‹_›,N.les _ hv3,N.len _ hv3,fun p hp=>?_,?_⟩
     · have:=Ag2 (rs:=(asked ts u).2)
       have h11:=(Aam (t:=u) (ts:=ts) fun p hp=>by have:=ht2 p hp; exact r43 ‹_›).1
       have hlt:(asked ts u).1 < ts.length:=by exact r46 ‹_› ‹_›
       rw [Aa5 (Bf0 hlt)] at this
       have:=ht2 _ (Bl6 hlt)
       unfold Acj; rw [Be9]; lia
     · obtain ⟨x,hx,rfl⟩:=Bh1.mp hp
       exact Ap4 H (Ads H hum (Abq hx)) hTl
     · unfold rlN; rw [hu]
 · rcases okAll with o | o
   · rw [Avt H hk o] at e2; cases e2
   · exact h2 e1 o
 · rcases okAll with o | o
   · exact h3' e1 o ⟨m,(hM.inn m hm).1,(hM.inn m hm).2,e⟩
   · rcases Afc with b | b
     · exact absurd e (b m (lim (hM.inn m hm).1))
     · obtain ⟨x,hx,e'⟩:=o
       rw [b x hx] at e'; cases e'
 · rcases okAll with o | o
   · obtain ⟨u,hu,hs⟩:=Abu H hk (hM.inn m hm).1
     rw [Aye H hu fun x hx=>o x (hs x hx)] at e; cases e
   · exact h2 e1 o
 · rcases okAll with o | o
   · rw [Avt H hk o] at e2
     cases e2
     have hc:Ai base (B5 ts T t) rv M=Ai base (B5 ts T t) (rvN nm nums ts T) M:=by
       unfold Ai
       congr 1
       refine Bj5 fun m hm=>?_
       obtain ⟨u,hu,hs⟩:=Abu H hk (hM.inn m hm).1
       have:=(e3 m hm).2
       rw [Aye H hu fun x hx=>o x (hs x hx)] at this
       rw [Bq9 this]
     rw [hc]
     exact hq e1 o M hM (fun m hm=>(e3 m hm).1) r hr
   · exfalso
     obtain ⟨x,hx,e⟩:=o
     obtain ⟨S,s1,s2⟩:=hM.all
     have:=Amw H (nm:=nm) (nums:=nums) s2 (fun m hm=>by rw [(e3 m hm).2]; simp) ts.length t k x hk (by lia) s1 (by rw [e2]; simp) hx
     rw [this] at e; cases e
theorem Agf {k most:Nat} {t:List V} {base:Str} (H:Bf ts T) (h3:ts.length=3) (ht2:∀ p∈ts,p<=2) (hpl:σ pl=some (.A5 (placeOf names))) (hnl:names.length<=100) (hnm:∀ x∈names,Aem x (pr x) (nd x)) (hlg:σ lg=some (.A5 les)) (N:Aia names ts les nm nums)
   (h:σ dn=some (.list (An ts T))) (hk:T[k]?=some t) (hTl:T.length<=20) (Aqi:(Ax ts nm nums 4 0 t []).length<=most)
   (h1:∀ y,B0 nd names names=some y->Y y σ) (h2:B0 nd names names=none->(∃ x∈t,Ar x=false)->Y "a leaf that is no verdict" σ)
   (hq:B0 nd names names=none->(∀ x∈t,Ar x=true)->∀ r,σ r=none->Q (.loc r) (σ.put r (.A5 [(base,.lst (Ax ts nm nums 4 0 t []))]))) :
   Fn (PM w) (n + 5) (.ref 257) [Ba ts dn db dm,Abj names ts lg pl,.int k,.str base,.int most] σ Q Y:=by
 have ht:=Bf9 hk
 have htl:=H.len t ht
 have hlw:Ax ts nm nums 4 0 t []=(Wf ts 4 t).map (Akt (Axg nm nums)):=by
   rw [Afz h3 4 0 t [] (by lia) (by lia) (by rw [Bo8]; exact htl)]
   have:whole (szs ts) t=t:=by rw [<- htl]; exact Ab2 (by rw [htl]; exact Ah _)
   rw [this]
   exact Bj5 fun p _=>by simp [Alm,Akt]
 have hws:∀ {m:Nat} {u:List V},T[m]?=some u->(T.getD m [])=u:=fun {m u} hu=>by rw [Bj8,hu]; rfl
 rw [hlw,Be9] at Aqi
 have hwl:=Apu 4 t ht2
 refine Asc (D:=An ts T) (fun m=>Wf ts 4 (T.getD m [])) (fun m=>4 ^ (4 - (asked ts (T.getD m [])).1)) (fun m=>m < T.length) (Axg nm nums) hpl hnl hnm hlg h ((Bf7.mp hk).1) (fun m hm=>?_) ?_ ?_ ?_ (fun p hp=>?_) h1 (fun e1 e2=>?_) (fun e1 e2 r hr=>?_)
 · obtain ⟨u,hu⟩:∃ u,T[m]?=some u:=⟨_,Bf0 hm⟩
   have hum:=Bf9 hu
   have hul:=H.len u hum
   have hle:=Aai (ts:=ts) (t:=u)
   try dsimp only
   rw [hws hu]
   refine ⟨by exact Bh0 hm (Be7 hTl (by decide)),By2 (by simp),?_⟩
   by_cases q:(asked ts u).1=ts.length
   · left
     refine ⟨((asked ts u).2.headD []).headD .none,by rw [Abn hu]; unfold canon; rw [if_pos q],?_⟩
     rw [As6,if_pos q]
   · right
     have hlt:(asked ts u).1 < ts.length:=by exact r53 ‹_› ‹_›
     have hsl:=Ag2 (rs:=(asked ts u).2)
     rw [Aa5 (Bf0 hlt)] at hsl
     have htp:=ht2 _ (Bl6 hlt)
     refine ⟨(asked ts u).1,Acj ts T u,by rw [Abn hu]; unfold canon; rw [if_neg q]; unfold Acj; rw [Bi5]; rfl,by unfold Acj; rw [Be9]; lia,fun p hp=>?_,?_,?_⟩
     · obtain ⟨x,hx,rfl⟩:=Bh1.mp hp
       exact (Bf7.mp (Ads H hum (Abq hx))).1
     · rw [As6,if_neg q]
       have:∀ (l:List (Nat × List V)) (low:Nat),(∀ x∈l,x.2∈(asked ts u).2)->Amg (fun s=>Wf ts 3 (whole (szs ts) s)) (asked ts u).1 low l=Adn (fun m=>Wf ts 4 (T.getD m [])) (asked ts u).1 low (l.map fun x=>(x.1,numOf ts T x.2)):=by
         intro l
         induction l with
         | nil=>intro _ _; rfl
         | cons x l ih=>
          intro low hx
          obtain ⟨hh,s⟩:=x
          have hs:=hx _ (.head _)
          obtain ⟨a,b⟩:=Ac1 hul hs q
          rw [Aeg,Bg8,Akn,ih _ fun y hy=>hx y (.tail _ hy),hws (Ads H hum hs),Aow 3 4 _ b (by rw [h3]; exact (show 1 + 3<=_ from Bi3 (Be7 (Bg3 (Bi4 _)) a) 3)) (by rw [h3]; exact Bq7 ..)]
       exact this _ 0 fun x hx=>Abq hx
     · have hk3:∀ p∈Acj ts T u,4 ^ (4 - (asked ts (T.getD p.2 [])).1)<=4 ^ (3 - (asked ts u).1):=fun p hp=>by
         obtain ⟨x,hx,rfl⟩:=Bh1.mp hp
         have hs:=Abq hx
         obtain ⟨a,b⟩:=Ac1 hul hs q
         rw [hws (Ads H hum hs)]
         exact Ca7 (by lia) (by exact r10 ‹_›)
       have:∀ (l:List (Nat × Nat)),(∀ p∈l,4 ^ (4 - (asked ts (T.getD p.2 [])).1)<=4 ^ (3 - (asked ts u).1))->(l.map fun p=>4 ^ (4 - (asked ts (T.getD p.2 [])).1)).sum<=l.length * 4 ^ (3 - (asked ts u).1):=by
         intro l
         induction l with
         | nil=>intro _; simp
         | cons p l ih=>intro hp; have:=ih fun z hz=>hp z (.tail _ hz); have:=hp p (.head _); rw [Bg8,Cj0,Bh3,Bx5]; rw [Bl9]; exact Bo4 ‹_› ‹_›
       have h4:=this _ hk3
       have hkl:(Acj ts T u).length<=3:=by unfold Acj; rw [Be9]; lia
       have h5:(Acj ts T u).length * 4 ^ (3 - (asked ts u).1)<=3 * 4 ^ (3 - (asked ts u).1):=Nat.mul_le_mul_right _ hkl
       have h6:4 ^ (4 - (asked ts u).1)=4 ^ (3 - (asked ts u).1) * 4:=by rw [<- Cl0]; congr 1; exact r27 ‹_› ‹_› ‹_›
       have h7:0 < 4 ^ (3 - (asked ts u).1):=By2 (by simp)
       rw [h6]; exact Be7 (Bg3 (Be7 h4 h5)) (by rw [Br5 3]; exact Nat.mul_lt_mul_of_pos_left (by decide) h7)
 · rw [hws hk]; exact Aqi
 · rw [hws hk]; have:(3:Nat) ^ 4=81:=by decide
   exact r43 ‹_›
 · try dsimp only
   have:(4:Nat) ^ (4 - (asked ts (T.getD k [])).1)<=4 ^ 4:=Ca7 (by lia) (by exact r35)
   have e:(4:Nat) ^ 4=256:=by decide
   exact r43 ‹_›
 · try dsimp only at hp
   rw [hws hk] at hp
   obtain ⟨v1,v2⟩:=Amu 4 t htl p hp
   have hkv:=H.val t ht _ v1
   refine ⟨by exact r43 ‹_›,V.Aal _ hkv.1,by rw [hkv.2]; lia,fun s hs=>?_⟩
   obtain ⟨v,lo,hi,top,rfl,e2,e3,e4,e5⟩:=Alx 4 t htl p hp s hs
   have hv3:v < 3:=by rw [<- h3]; exact (Bf7.mp e2).1
   have htp:=ht2 _ (Bf9 e2)
   rcases N.les v hv3 with ⟨l1,l2⟩ | ⟨l1,l2⟩
   · exact ⟨v,lo,hi,top,nm v,lo,hi,rfl,N.get v hv3,e2,by lia,e5,by exact Bg6 (Be7 e3 (Be7 e4 htp)) (by decide),by lia,.inl ⟨l1,rfl,rfl⟩,by rw [Air,l2]; rfl⟩
   · have Bdw:hi < (nums v).length:=by
       rcases N.big v hv3 with b | b
       · exact absurd b l2
       · have:=b top e2; exact r40 ‹_› ‹_›
     obtain ⟨a,ha⟩:∃ a,(nums v)[lo]?=some a:=⟨_,Bf0 (by exact r40 ‹_› ‹_›)⟩
     obtain ⟨b,hb⟩:∃ b,(nums v)[hi]?=some b:=⟨_,Bf0 Bdw⟩
     exact ⟨v,lo,hi,top,nm v,a,b,rfl,N.get v hv3,e2,by lia,e5,by exact Bg6 (Be7 e3 (Be7 e4 htp)) (by decide),by lia,.inr ⟨nums v,l1,ha,hb⟩,by rw [Air,Awk l2 e3 ha hb]⟩
 · try dsimp only at e2
   rw [hws hk] at e2
   obtain ⟨p,hp,e⟩:=e2
   exact h2 e1 ⟨p.2,(Amu 4 t htl p hp).1,e⟩
 · try dsimp only at e2
   rw [hws hk] at e2
   have:=hq e1 (fun x hx=>by
     obtain ⟨p,hp,e⟩:=Auu 4 t htl (by lia) x hx
     rw [<- e]; exact e2 p hp) r hr
   rw [hlw] at this
   try dsimp only
   rw [hws hk]; exact this
end
noncomputable def Aua:List (Str × Str × List (Str × Int)):=[("meta nfproto","meta",[]),("ip ecn","ip",[("meta nfproto",2)]),("meta mark","meta",[]),("icmp type","icmp",[("meta nfproto",2),("meta l4proto",1)]),("meta l4proto","meta",[]),("ct state","ct",[]),
 ("vlan id","vlan",[("ether type",33024)]),("ether type","ether",[]),("arp operation","arp",[("meta protocol",2054)]),("meta protocol","meta",[]),("th sport","th",[]),("udp length","udp",[("meta l4proto",17)])]
noncomputable def prP (x:Str):Str:=((Aua.lookup x).map (·.1)).getD ""
noncomputable def ndP (x:Str):List (Str × Int):=((Aua.lookup x).map (·.2)).getD []
theorem Af4:∀ e∈Aet,e.name.length<=100/\(decide (e.name.length < (" " : Str).length) || decide (Bs6 e.name < Bs6 " "))=false/\(Bo1 e.name " " 0 e.name.length (e.name.length + 1)).isEmpty=false ∧
 (Bs3 e.name (Bo1 e.name " " 0 e.name.length (e.name.length + 1)) (" " : Str).length=prP e.name :: (Bs3 e.name (Bo1 e.name " " 0 e.name.length (e.name.length + 1)) (" " : Str).length).tail ∧
  (Bs3 e.name (Bo1 e.name " " 0 e.name.length (e.name.length + 1)) (" " : Str).length).tail.length<=100) ∧
 (∀ q∈ndP e.name,q.1.length<=100) ∧
 Aei (prP e.name)=(ndP e.name).map (·.1)/\(∀ q∈Aei (prP e.name),q.length<=100):=by decide +kernel
noncomputable def Bc0 {α:Type} (P:α->Prop):List α->Prop
 | []=>True
 | a :: l=>P a/\Bc0 P l
theorem allM {α:Type} {P} (l:List α) (h:Bc0 P l):∀ e∈l,P e:=by
 induction l with
 | nil=>exact fun _ h=>nomatch h
 | cons a l ih=>exact fun e he=>by cases he with | head=>exact h.1 | tail _ m=>exact ih h.2 e m
theorem Aqq:∀ e∈Aet,(prP e.name∈(["meta","ct"]:List Str)/\ndP e.name=[])∨(prP e.name ∉ (["meta","ct"]:List Str)/\Am Agp (prP e.name)=some (.tup ((ndP e.name).map Ae7))):=by
 refine allM _ ⟨?_,?_,?_,?_,?_,?_,?_,?_,?_,?_,?_,?_,trivial⟩ <;> first | exact .inl ⟨by decide,rfl⟩ | exact .inr ⟨by decide,rfl⟩
theorem Ax8 {e} (h:e∈Aet):Aem e.name (prP e.name) (ndP e.name):=by
 obtain ⟨a,b,c,d,g,_,_⟩:=Af4 e h
 exact ⟨a,b,c,⟨_,d.1,d.2⟩,Aqq e h,g⟩
theorem Auf {names nd lnd} (hn:names.Nodup) (h:∀ x∈names,lnd x=(nd x).map (·.1)):∀ (pre r:List Str),names=pre ++ r->Agi lnd r=(B0 nd names r).getD ""
 | pre,[],_=>rfl
 | pre,x :: r,e=>by
  rw [Amb,Aqa,h x (by rw [e]; simp),Co1]
  have hx:names.idxOf x=pre.length:=by
   rw [e,Br6,if_neg,List.idxOf_cons_self]; lia
   rw [e,Bm5] at hn
   exact fun hm=>hn.2.2 x hm x (.head _) rfl
  have hp:((fun q:Str=>decide (q∈r)) ∘ fun q:Str × Int=>q.1)=fun q:Str × Int=>decide (q.1∈names/\names.idxOf x < names.idxOf q.1):=funext fun q=>by
   simp only [Bt0]
   rw [Bv6,decide_eq_true_iff,decide_eq_true_iff,hx]
   have hn':=hn
   rw [e,Bm5,Br7] at hn'
   constructor
   · intro hq
     refine ⟨by rw [e]; simp [hq],?_⟩
     have n1:q.1 ∉ pre:=fun hm=>hn'.2.2 _ hm _ (.tail _ hq) rfl
     have n2:q.1≠x:=fun he=>hn'.2.1.1 (he ▸ hq)
     rw [e,Br6,if_neg n1,Cb3,show (x == q.1)=false by simpa using Bq1 n2]; simp only [cond_false]; lia
   · rintro ⟨h1,h2⟩
     rw [e] at h1 h2
     rcases Bh6.mp h1 with h1 | h1
     · rw [Br6,if_pos h1] at h2
       have:=Bk1 h1; lia
     · rcases Bh7.mp h1 with h1 | h1
       · rw [h1,<- e,hx] at h2; lia
       · exact h1
  rw [hp]
  cases q:(nd x).find? fun q:Str × Int=>decide (q.1∈names/\names.idxOf x < names.idxOf q.1) with
  | none=>
   simp only [Option.map_none]
   exact Auf hn h (pre ++ [x]) r (by rw [e]; simp)
  | some q=>simp
theorem Av0 {nd all}:∀ {l y},B0 nd all l=some y->y≠""
 | [],y,h=>by cases h
 | x :: r,y,h=>by
  rw [Aqa] at h
  split at h
  · cases h
    unfold Aid
    intro e
    have:=congrArg Str.length e
    simp only [PySem.Str.length_append] at this
    have h1:("" : Str).length=0:=by decide +kernel
    have h2:(Bf4 " stands ahead of ").length=17:=by decide +kernel
    lia
  · exact Av0 h
theorem Ark {K:Type} [DecidableEq K] {es:List (K × V)} {k:K} {v:V} (h1:es.any (fun kv=>decide (kv.1=k))=true) (h2:∀ kv∈es,kv.1=k->kv.2=v):dput es k v=es:=by
 unfold dput
 rw [if_pos h1]
 conv=>rhs; rw [<- Cm9 es]
 refine Bj5 fun kv hkv=>?_
 by_cases q:kv.1=k
 · rw [if_pos q]
   show (kv.1,v)=kv
   rw [<- h2 kv hkv q]
 · rw [if_neg q]; rfl
theorem Ax0 {ts T v s x} (h3:ts.length=3) (hv:v<=3) (hs:s.length=szs (ts.drop v)) (hx:s[0]?=some x) :
   (if v + (asked (ts.drop v) s).1=3 then V.tup [x,.str ""] else .tup [.str "goto",.str (nName (numOf ts T s))])=B5 ts T (whole (szs ts) s):=by
 have hlen:(whole (szs ts) s).length=szs ts:=Ab6 (by rw [hs]; exact Al ..)
 have ha:=Aae (ts:=ts) (d:=v) (s:=s) (by exact r48 ‹_› ‹_›) hs
 unfold B5
 by_cases q:v + (asked (ts.drop v) s).1=3
 · have e1:(asked ts (whole (szs ts) s)).1=ts.length:=by rw [ha,h3]; exact q
   rw [if_pos q,if_pos e1]
   have:=(Aen hlen e1 x).mp (Aav (by rw [hs]; exact Al ..) (Ah _) (Bf9 hx))
   rw [<- this]
 · have e1:¬ (asked ts (whole (szs ts) s)).1=ts.length:=by rw [ha,h3]; exact q
   rw [if_neg q,if_neg e1]; rfl
theorem Ain (k:Nat):0 < 4 ^ k:=Nat.pow_pos (by decide)
theorem Ars:∀ (l:List (List V × Nat)),l.length<=(l.map fun y=>4 ^ (4 - y.2)).sum
 | []=>Bh5 _
 | y :: l=>by
  rw [Bg8,Cj0,Bh3,Bl9]
  exact Bo4 (Ain _) (Ars l)
theorem Ar7 (p:Nat):∀ (l:List (Nat × Nat × List V)),((l.map fun y:Nat × Nat × List V=>(y.2.2,p)).map fun y:List V × Nat=>4 ^ (4 - y.2)).sum=l.length * 4 ^ (4 - p)
 | []=>(Nat.zero_mul _).symm
 | y :: l=>by
  rw [Bg8,Bg8,Cj0,Ar7 p l,Bh3,Bx5,Bl9]
noncomputable abbrev wtV (y:List V × Nat):V:=.tup [.tup y.1,.int y.2]
section
variable {w:World} {n:Nat} {σ:Sto} {Q:V->Sto->Prop} {Y:Str->Sto->Prop} {a:Wo} {wl nl:Addr} {T:List (List V)} {les:List (Str × V)} {nm:Nat->Str} {nums:Nat->List Int}
theorem Ahs {k:Nat} {t:List V} {base:Str} (H:Bf a.A1 T) (h3:a.A1.length=3) (ht2:∀ p∈a.A1,p<=2) (hw:σ wl=some (.A5 a.es)) (hnu:σ nl=some (.Ad (Ap (T.map .tup)))) (hlg:σ a.lg=some (.A5 les)) (N:Aia a.names a.A1 les nm nums)
   (hs:szs a.A1<=100) (hc:a.cells.length=szs a.A1) (hk:T[k]?=some t) (hTl:T.length<=20) (hb:base.length<=100) (Afc:∀ m,Reach (chN a.A1 T) k m->chN a.A1 T m≠none->nName m≠base)
   (hq:∀ M,Met (chN a.A1 T) (Reach (chN a.A1 T) k) k M->∀ r,σ r=none->Q (.loc r) (σ.put r (.A5 (Ai base (B5 a.A1 T t) (rvN nm nums a.A1 T) M)))) :
   Fn (PM w) (n + 4) (.ref 382) [.loc wl,.loc nl,.tup t,.str base] σ Q Y:=by
 have Acw:∀ p∈a.A1,p<=10:=fun p hp=>by have:=ht2 p hp; exact r43 ‹_›
 have htm:=Bf9 hk
 have htl:=H.len t htm
 have Ajs:∀ {r:List V},whole (szs a.A1) r∈T->Am (Ap (T.map V.tup)) (.tup (whole a.cells.length r))=some (.int (numOf a.A1 T r:Nat)):=fun {r} hr=>by
   rw [hc,Ab8,if_pos (Bi7 hr),idx_map (f:=V.tup) fun x _ e=>by cases (e); rfl]; rfl
 have Akq:∀ {r:List V},whole (szs a.A1) r∈T->V.keys (whole a.cells.length r)=true/\V.Bc (whole a.cells.length r)<=7:=fun {r} hr=>by
   rw [hc]; have:=Agr (H.val _ hr); exact ⟨this.1,by rw [this.2]; lia⟩
 have hwt:whole (szs a.A1) t=t:=by rw [<- htl]; exact Ab2 (by rw [htl]; exact Ah _)
 have onAll:∀ {σ':Sto} {s:List V} {v:Nat} {Q':V->Sto->Prop} {Y'},σ' wl=some (.A5 a.es)->σ' nl=some (.Ad (Ap (T.map .tup)))->v<=3->s.length=szs (a.A1.drop v)->whole (szs a.A1) s∈T->Q' (B5 a.A1 T (whole (szs a.A1) s)) σ' ->
     Fn (PM w) (n + 3) (.ref 377) [.loc wl,.loc nl,.tup s,.int v] σ' Q' Y':=fun {σ' s v Q' Y'} h1 h2 h4 h5 h6 h7=>by
   have hz:=Ah (a.A1.drop v)
   have hzl:=Ca9 (Ah a.A1) (Al a.A1 v)
   obtain ⟨x,hx⟩:∃ x,s[0]?=some x:=⟨_,Bf0 (by exact r46 ‹_› ‹_›)⟩
   have hfl:∀ x∈s,B4 x:=fun x hx=>(H.val _ h6 x (Aav (by rw [h5]; exact Al ..) (Ah _) hx)).flat
   have sl:s.length<=szs a.A1:=h5 ▸ hzl
   refine Bb9 (k:=numOf a.A1 T s) h1 h3 Acw h4 (Be7 sl hs) hfl hx h2 (hc ▸ hs) (hc ▸ sl) (Akq h6).1 (Akq h6).2 (fun _=>⟨Ajs h6,?_⟩) ?_
   · exact Bh0 (Bk1 h6) hTl
   · rw [Ax0 h3 h4 h5 hx]; exact h7
 have Az1:numOf a.A1 T t=k:=by unfold numOf; rw [hwt]; exact Ach H.nd hk
 refine B8 rfl rfl (Aqo fun _ _ _ _=>rfl) rfl fun R' Y' hR hY hRs hYs=>?_
 refine Afm ?_
 refine onAll (v:=0) hw hnu (Bi4 _) htl (by rw [hwt]; exact htm) (.inr fun ca hca=>.inl fun wa hwa=>?_)
 rw [hwt] at hwa ⊢
 have Azk:σ wa=none:=(Sub.new (Sub.refl _) hca).none hwa
 have ncw:ca≠wa:=A7 (Sto.A0 ..) hwa
 have n1:=nne hw hca
 have n2:=nne hnu hca
 have n3:=nne hlg hca
 have n4:=nne hw Azk
 have n5:=nne hnu Azk
 have n6:=nne hlg Azk
 rw [show Ai9 [] [(base,V.lst [V.tup [V.tup [V.str (Bf4 "verdict"),B5 a.A1 T t]]])]=Ai base (B5 a.A1 T t) (rvN nm nums a.A1 T) [] from rfl]
 refine Ayw (α:=List (List V × Nat) × List Nat) (fun x=>(σ.put ca (.A5 (Ai base (B5 a.A1 T t) (rvN nm nums a.A1 T) x.2))).put wa (.list (x.1.map wtV)))
   (fun x=>[("world",.loc wl),("numbers",.loc nl),("table",.tup t),("base",.str base),("waiting",.loc wa),("chains",.loc ca)])
   (fun j x=>(∀ y∈x.1,y.2<=3/\y.1.length=szs (a.A1.drop y.2)/\whole (szs a.A1) y.1∈T/\Reach (chN a.A1 T) k (numOf a.A1 T y.1))/\x.2.Nodup/\(∀ m∈x.2,Reach (chN a.A1 T) k m/\chN a.A1 T m≠none) ∧
     (∃ S:List Nat,k∈S/\∀ s∈S,chN a.A1 T s=none∨(s∈x.2/\∀ cs,chN a.A1 T s=some cs->∀ c∈cs,c∈S)∨s∈x.1.map fun y=>numOf a.A1 T y.1)/\j=(x.1.map fun y=>4 ^ (4 - y.2)).sum/\j<=256)
   256 ([(t,0)],[]) rfl ⟨fun y hy=>?_,Cn9,fun _ h=>absurd h Bj1,⟨[k],.head _,fun s hs=>.inr (.inr ?_)⟩,rfl,Bh5 _⟩ (Sub.refl _) rfl ?_
 · rw [Bf6.mp hy]
   exact ⟨Bi4 _,htl,by rw [hwt]; exact htm,by rw [Az1]; exact .base⟩
 · rw [Bf6.mp hs]
   exact Bf6.mpr Az1.symm
 rintro j ⟨W,M⟩ K hK ⟨i1,i2,i3,⟨S,i4,i5⟩,i6,i7⟩
 dsimp only at i1 i2 i3 i4 i5 i6 i7
 have hWl:W.length<=256:=Be7 (Ars W) (i6 ▸ i7)
 have hMl:M.length<=20:=by
   have:∀ m∈M,m < T.length:=fun m hm=>by
     obtain ⟨u,hu,_⟩:=Abu H hk (i3 m hm).1
     exact (Bf7.mp hu).1
   have:=List.Nodup.length_le_of_subset i2 (l₂:=Bh8 T.length) fun m hm=>Bk6.mpr (this m hm)
   rw [Bk9] at this; exact Be7 this hTl
 have Bbh:∀ {s:List V} {v:Nat},s.length=szs (a.A1.drop v)->whole (szs a.A1) s∈T->∀ x∈s,B4 x:=fun {s v} h5 h6 x hx=>(H.val _ h6 x (Aav (by rw [h5]; exact Al ..) (Ah _) hx)).flat
 have hst:∀ o p,((σ.put ca o).put wa p) wl=some (.A5 a.es)/\((σ.put ca o).put wa p) nl=some (.Ad (Ap (T.map .tup)))/\((σ.put ca o).put wa p) a.lg=some (.A5 les):=fun o p=>
   ⟨by rw [Sto.A4 _ _ n4,Sto.A4 _ _ n1]; exact hw,by rw [Sto.A4 _ _ n5,Sto.A4 _ _ n2]; exact hnu,by rw [Sto.A4 _ _ n6,Sto.A4 _ _ n3]; exact hlg⟩
 refine .inr (Afs (.loc (Sto.A0 ..)) (.val _) ?_ (by
   rw [V.dat]
   exact Aew fun y hy=>by
     simp only [V.dat,V.Be,Cp5]
     exact Aba (Bbh (i1 y hy).2.1 (i1 y hy).2.2.1)) rfl Aj5)
 induction W using snoc with
 | h0=>
   refine nF rfl (.go (hRs (Sub.over (Sub.refl _) ?_) (hq M ⟨i2,i3,S,i4,fun s hs=>?_⟩ ca hca)))
   · rw [Sto.A4 _ _ ncw.symm]; exact Azk
   · rcases i5 s hs with e | e | e
     · exact .inl e
     · exact .inr e
     · exact absurd e Bj1
 | h1 W y=>
   obtain ⟨part,v⟩:=y
   have At6:(part,v)∈W ++ [(part,v)]:=Bh9 _ (.head _)
   obtain ⟨y1,y2,y3,y4⟩:=i1 (part,v) At6
   dsimp only at y1 y2 y3 y4
   have i1':∀ y∈W,y.2<=3/\y.1.length=szs (a.A1.drop y.2)/\whole (szs a.A1) y.1∈T/\Reach (chN a.A1 T) k (numOf a.A1 T y.1):=fun y hy=>i1 y (Bi0 _ hy)
   rw [Bf1] at hWl
   have hW':W.length<=256:=Bl7 hWl
   rw [Bg1]
   refine nT (fun e=>absurd (V.lst.inj e) (List.append_ne_nil_of_right_ne_nil _ (Bs2 _ _))) (Ake (Sto.A0 ..) (As2 (Sto.A0 ..) ?_ (by rw [Be9]; exact Be7 hW' (by decide))))
   rw [Sto.A9]
   have Bdb:=Bbh y2 y3
   have Bck:=Ca9 (Ah a.A1) (Al a.A1 v)
   have hpp:=Ah (a.A1.drop v)
   have r1:n + 1<=n + 3:=Bf3 (by decide) n
   refine Fn.room (n:=n + 2) (Ac9 (n:=n) (v:=v) (a:=a) (hst _ _).1 h3 Acw y1 (by rw [y2]; exact Be7 Bck (Be7 hs (by decide))) Bdb ?_) (Bm8 _)
   have hau:=Aae (ts:=a.A1) (d:=v) (s:=part) (h3 ▸ y1) y2
   have hmu:T[numOf a.A1 T part]?=some (whole (szs a.A1) part):=Acb y3
   have hul:=H.len _ y3
   have Axu:=Aai (ts:=a.A1) (t:=whole (szs a.A1) part)
   rw [hau,h3] at Axu
   dsimp only at Axu
   revert hau Axu; with_reducible refine gze (v + (asked (a.A1.drop v) part).1) fun at_ hat hau Axu=>?_
   revert hau; with_reducible refine gze ((asked (a.A1.drop v) part).2) fun rows Atp hau=>?_
   revert y4 hmu; with_reducible refine gze (numOf a.A1 T part) fun m hm y4 hmu=>?_
   have hWs:(W.map fun y=>4 ^ (4 - y.2)).sum + 4 ^ (4 - v)=j:=by rw [i6,Bg1,Cg0]; rfl
   have h4:=Ain (4 - v)
   refine Apt (dI (fun q=>?_) fun q=>?_)
   rotate_left
   · have q:at_=3:=Cn3 Axu (Bm4 fun h=>q (Bn1.mpr h))
     have hch:chN a.A1 T m=none:=by unfold chN; rw [hmu]; dsimp only; rw [hau,if_pos (by rw [h3]; exact q)]
     refine hK _ (W,M) _ _ ?_ ⟨i1',i2,i3,⟨S,i4,fun s hs=>?_⟩,rfl,?_⟩ (Sub.refl _) rfl
     · dsimp only; rw [<- hWs]; exact By3 h4
     · rcases i5 s hs with e | e | e
       · exact .inl e
       · exact .inr (.inl e)
       · rw [Bg1] at e
         rcases Bh6.mp e with e | e
         · exact .inr (.inr e)
         · have e:s=numOf a.A1 T part:=Bf6.mp e
           rw [e,hm]; exact .inl hch
     · dsimp only; exact Be7 (hWs ▸ Bg9 ..) i7
   · have hq3:at_ < 3:=Bn1.mp q
     have q:¬ at_=3:=Bl8 hq3
     have hch:chN a.A1 T m=some ((Acj a.A1 T (whole (szs a.A1) part)).map (·.2)):=by unfold chN; rw [hmu]; dsimp only; rw [if_neg (by rw [hau,h3]; exact q)]
     have Axy:(Acj a.A1 T (whole (szs a.A1) part)).map (·.2)=(Aa rows).map fun x=>numOf a.A1 T x.2.2:=by
       rw [As4,hau,Bi5]; rfl
     have hrl:∀ r∈rows,r.length=szs (a.A1.drop (at_ + 1))/\whole (szs a.A1) r∈T:=fun r hr=>by
       have hr':r∈(asked a.A1 (whole (szs a.A1) part)).2:=by rw [hau]; exact hr
       have:=Acl hul hr'
       rw [hau] at this
       exact ⟨this,H.cl _ y3 r hr'⟩
     obtain ⟨top,htp⟩:∃ top,a.A1[at_]?=some top:=⟨_,Bf0 (h3 ▸ hq3)⟩
     have Bcd:rows.length=top + 1:=by
       have:=Aa5 (ts:=a.A1) (t:=whole (szs a.A1) part) (p:=top) (by rw [hau]; exact htp)
       rw [hau] at this; exact this
     have Bby:(Aa rows).length<=3:=Be7 Ack (by rw [Bcd]; exact Bg3 (ht2 _ (Bf9 htp)))
     refine .inr (Fn.room (n:=n + 1) (Afo (n:=n) (by rw [Bcd]; exact Be7 (Bg3 (ht2 _ (Bf9 htp))) (by decide)) (fun r hr x hx=>Bbh (hrl r hr).1 (hrl r hr).2 x hx) ?_) r1)
     with_reducible refine gze (fun x:Nat × Nat × List V=>(Aad (nums at_) x.1 x.2.1).map (elV (B5 a.A1 T (whole (szs a.A1) x.2.2)))) fun G hG=>?_
     have hGl:∀ x,(G x).length<=11:=fun x=>by
       rw [<- hG]
       dsimp only
       rw [Be9]
       unfold Aad
       split
       · exact Bi6 rfl
       · rw [Be9]; exact Be7 (Ahd ..) (Be7 (N.len at_ hq3) (by decide))
     refine Aky Avj (α:=List (List V × Nat) × List V) (fun x=>(σ.put ca (.A5 (Ai base (B5 a.A1 T t) (rvN nm nums a.A1 T) M))).put wa (.list (x.1.map wtV)))
       (fun x=>[("world",.loc wl),("numbers",.loc nl),("table",.tup t),("base",.str base),("waiting",.loc wa),("chains",.loc ca),("part",.tup part),("at",.int at_),("elements",.lst x.2)])
       (fun xs x=>∃ dn:List (Nat × Nat × List V),Aa rows=dn ++ xs/\x.1=W ++ dn.map (fun y=>(y.2.2,at_ + 1))/\x.2=dn.flatMap G/\x.2.length<=11 * dn.length) _ (W,[]) rfl
       ⟨[],rfl,(Bh4 W).symm,rfl,Bh5 _⟩ (Sub.refl _) rfl ?_ ?_
     · rintro ⟨W',els⟩ ⟨dn,e2,e3,e4,e5⟩
       rw [Bh4] at e2
       subst e2
       dsimp only at e3 e4 e5
       subst e3; subst e4
       have Bda:(List.flatMap G (Aa rows)).length<=100:=by exact r36 ‹_› ‹_›
       have hdg:=Ajs y3
       have hky:=Akq y3
       rw [hm] at hdg
       have Bb2:m < 20:=Bh0 (Bf7.mp hmu).1 hTl
       refine .go (Ac (hst _ _).1 rfl (Ab (k:=at_) (.val _) (by rw [Bf8,N.get at_ hq3]; rfl) (Aa7 (.val _) (Be7 Bda (by decide)) (.inr (Fn.room (n:=n + 1) (Aja (n:=n) (hst _ _).1 (by rw [hc]; exact Be7 hs (by decide)) (by rintro rfl; rw [Bl1] at y2; lia) (by rw [y2,hc]; exact Bck) (Ae8 (hst _ _).2.1 hky.1 hky.2 hdg (Ak0 (by exact r30) (by lia) (Ae9 ?_ ?_)))) r1))) (Bj3 hq3 (by decide))))
       · have Bcc:rvN nm nums a.A1 T m=Ao0 (nm at_) ((Aa rows).flatMap G):=by
           unfold rvN; rw [hmu]; dsimp only; rw [hau,<- hG]; unfold Ank; rw [hau]
         have Auc:∀ x∈M,x < 20:=fun x hx=>by
           obtain ⟨u,hu,_⟩:=Abu H hk (i3 x hx).1
           exact Bh0 (Bf7.mp hu).1 hTl
         have hmr:Reach (chN a.A1 T) k m:=y4
         have Bce:chN a.A1 T m≠none:=by rw [hch]; exact fun e=>nomatch e
         have hmb:nName m≠base:=Afc m hmr Bce
         refine Afx (a:=ca) (es:=Ai base (B5 a.A1 T t) (rvN nm nums a.A1 T) M) (by rw [Sto.A4 _ _ ncw,Sto.A0]) ?_ (by rw [Ai,Bh3,Be9]; exact Be7 (Bg3 hMl) (by decide))
         rw [show Bf4 "n" ++ Axj (m:Int)=nName m from rfl,Sto.Ao _ _ _ ncw.symm,Sto.A9]
         have Bcp:dput (Ai base (B5 a.A1 T t) (rvN nm nums a.A1 T) M) (nName m) (.lst [Ao0 (nm at_) ((Aa rows).flatMap G)])=Ai base (B5 a.A1 T t) (rvN nm nums a.A1 T) (if m∈M then M else M ++ [m]):=by
           by_cases hmM:m∈M
           · rw [if_pos hmM]
             refine Ark ?_ fun kv hkv e=>?_
             · rw [Bx1]
               exact ⟨(nName m,.lst [rvN nm nums a.A1 T m]),by unfold Ai; exact .tail _ (Bi7 (f:=fun m=>(nName m,V.lst [rvN nm nums a.A1 T m])) hmM),decide_eq_true rfl⟩
             · unfold Ai at hkv
               rcases Bh7.mp hkv with rfl | hkv
               · exact absurd e.symm hmb
               · obtain ⟨z,hz,rfl⟩:=Bh1.mp hkv
                 have:=Aej z (Auc z hz) m Bb2 e
                 rw [this,Bcc]
           · rw [if_neg hmM]
             exact Agz Auc Bb2 hmM hmb (by rw [Bcc])
         rw [Bcp]
         have hMM:∃ M',M'=(if m∈M then M else M ++ [m])/\M'.Nodup/\(∀ z∈M',Reach (chN a.A1 T) k z/\chN a.A1 T z≠none)/\m∈M'/\∀ x∈M,x∈M':=by
           by_cases hmM:m∈M
           · exact ⟨M,(if_pos hmM).symm,i2,i3,hmM,fun x h=>h⟩
           · exact ⟨M ++ [m],(if_neg hmM).symm,Bm5.mpr ⟨i2,nd1,fun x hx y hy e=>hmM (by rw [Bf6.mp hy] at e; rw [<- e]; exact hx)⟩,Aa9 i3 ⟨hmr,Bce⟩,Bh9 _ (.head _),fun x h=>Bi0 _ h⟩
         obtain ⟨M',eM,m1,m2,m3,m4⟩:=hMM
         rw [<- eM]
         have Bac:=Ar7 (at_ + 1) (Aa rows)
         have h6:(Aa rows).length * 4 ^ (4 - (at_ + 1))<=3 * 4 ^ (4 - (at_ + 1)):=Nat.mul_le_mul_right _ Bby
         have h7:4 ^ (4 - v)=4 * 4 ^ (4 - (v + 1)):=by rw [show 4 - v=(4 - (v + 1)) + 1 by exact (Cg9 y1).trans (congrArg Nat.succ (Nat.succ_sub_succ 3 v).symm),Cl0,Br5]
         have h8:4 ^ (4 - (at_ + 1))<=4 ^ (4 - (v + 1)):=Ca7 (by decide) (by exact Nat.sub_le_sub_left (Bg3 (hat ▸ Bg9 ..)) 4)
         have h9:=Ain (4 - (v + 1))
         have hlt:((W ++ (Aa rows).map fun y=>(y.2.2,at_ + 1)).map fun y=>4 ^ (4 - y.2)).sum < j:=by
           rw [Bg1,Cg0,Bac]; rw [<- hWs]; exact Nat.add_lt_add_left (Bg6 (Be7 h6 (Bp0 3 h8)) (by rw [h7]; exact Nat.mul_lt_mul_of_pos_right (by decide) (Nat.pow_pos (by decide)))) _
         refine hK _ (W ++ (Aa rows).map fun y=>(y.2.2,at_ + 1),M') _ _ hlt ⟨fun y hy=>?_,m1,m2,⟨S ++ (Aa rows).map fun x=>numOf a.A1 T x.2.2,Bi0 _ i4,fun s hs=>?_⟩,rfl,Be7 (Bk4 hlt) i7⟩ (Sub.refl _) rfl
         · rcases Bh6.mp hy with hy | hy
           · exact i1' y hy
           · obtain ⟨x,hx,rfl⟩:=Bh1.mp hy
             obtain ⟨x1,_,_⟩:=Aak hx
             refine ⟨hq3,(hrl _ x1).1,(hrl _ x1).2,.step hmr hch ?_⟩
             rw [Axy]; exact Bi7 (f:=fun x:Nat × Nat × List V=>numOf a.A1 T x.2.2) hx
         · dsimp only
           rcases Bh6.mp hs with hs | hs
           · rcases i5 s hs with e | e | e
             · exact .inl e
             · exact .inr (.inl ⟨m4 s e.1,fun cs hcs c hc=>Bi0 _ (e.2 cs hcs c hc)⟩)
             · rw [Bg1] at e
               rcases Bh6.mp e with e | e
               · exact .inr (.inr (by rw [Bg1]; exact Bi0 _ e))
               · have e:s=numOf a.A1 T part:=Bf6.mp e
                 rw [hm] at e
                 subst e
                 refine .inr (.inl ⟨m3,fun cs hcs c hc=>?_⟩)
                 rw [hch] at hcs
                 cases hcs
                 rw [Axy] at hc
                 exact Bh9 _ hc
           · refine .inr (.inr ?_)
             rw [Bg1,Bi5]
             exact Bh9 _ hs
       · rw [Bn5,show (Bf4 "n").length=1 by decide +kernel]
         exact Be7 (Bf3 (Adf m Bb2) 1) (by decide)
     · rintro ⟨lo,hi,row⟩ xs ⟨W',els⟩ K2 hK2 ⟨dn,e2,e3,e4,e5⟩
       dsimp only at e3 e4 e5
       have hxs:(lo,hi,row)∈Aa rows:=by rw [e2]; exact Bh9 _ (.head _)
       obtain ⟨x1,x2,x3⟩:=Aak hxs
       dsimp only at x1 x2 x3
       have hdl:dn.length<=3:=by rw [e2,Bf1] at Bby; exact Be7 (Bg9 ..) Bby
       have hW'l:W'.length<=259:=by rw [e3,Bf1,Be9]; exact Bo4 hW' hdl
       refine Af (Sto.A0 ..) (Ae (ds:=W'.map wtV) (Sto.A0 ..) ?_ (by rw [Be9]; exact Be7 hW'l (by decide)))
       rw [Sto.A9]
       have hln:(Am les (nm at_)).getD (.tup [])=.tup ((nums at_).map .int):=by
         rcases N.les at_ hq3 with ⟨l1,l2⟩ | ⟨l1,l2⟩
         · rw [l1,l2]; rfl
         · rw [l1]; rfl
       have hGx:G (lo,hi,row)=(Aad (nums at_) lo hi).map (elV (B5 a.A1 T (whole (szs a.A1) row))):=by rw [<- hG]
       have hGx':=hGl (lo,hi,row)
       have hsl:(Aad (nums at_) lo hi).length<=11:=by rw [hGx,Be9] at hGx'; exact hGx'
       refine onAll (v:=at_ + 1) (hst _ _).1 (hst _ _).2.1 hq3 (hrl row x1).1 (hrl row x1).2 (Aij rfl (Fn.room (n:=n + 1) (Ann (n:=n) (lo:=lo) (hi:=hi) (hst _ _).1 (hst _ _).2.2 (N.get at_ hq3) hln (Be7 (N.len at_ hq3) (by decide)) (Bj3 hq3 (by decide)) ?_) r1))
       refine Acx Acq (elV (B5 a.A1 T (whole (szs a.A1) row))) _ rfl (Be7 hsl (by decide)) ?_ fun acc B1 s hs vs K3 hK3=>by exact hK3 _ (Sub.refl _)
       rw [<- hGx]
       refine Aje (.val _) (.val _) (hK2 (W' ++ [(row,at_ + 1)],els ++ G (lo,hi,row)) _ _ ⟨dn ++ [(lo,hi,row)],by rw [e2,Bj0]; rfl,?_,?_,?_⟩ (by rw [Bg1]; exact Sub.refl _) rfl) (Be7 (Bo4 (Be7 e5 (Bp0 _ hdl)) hGx') (by decide))
       · rw [e3,Bg1,Bj0]; rfl
       · rw [e4,List.flatMap_append]; simp
       · rw [Bf1,Bf1,Nat.mul_add]; exact Bo4 e5 hGx'
end
noncomputable def okD (v:V) (d:Nat):Prop:=v.dat=true/\v.dep<=d
theorem Amn {l d} (h:∀ x∈l,okD x d):V.Be l=true/\V.Bc l<=d:=by
 induction l with
 | nil=>simp [V.Be,V.Bc]
 | cons a r ih=>
  have h1:=ih fun x hx=>h x (.tail _ hx)
  have h2:=h a (.head _)
  simp only [V.Be,V.Bc,h1.1,h2.1,Bool.and_self,true_and]
  have:=h1.2; have:=h2.2; exact Cd5.mpr ⟨h2.2,h1.2⟩
theorem Abo {l d} (h:∀ x∈l,okD x d):okD (.tup l) (d + 1):=by
 have:=Amn h
 exact ⟨by rw [V.dat]; exact this.1,by rw [V.dep]; lia⟩
theorem Al7 {l d} (h:∀ x∈l,okD x d):okD (.lst l) (d + 1):=by
 have:=Amn h
 exact ⟨by rw [V.dat]; exact this.1,by rw [V.dep]; lia⟩
theorem kv.ok {x d} (h:kv x):okD x d:=⟨V.Aal x h.1,by rw [h.2]; lia⟩
theorem Aqd (a b:Int):okD (Aaj a b) 1:=by
 unfold Aaj
 split <;> exact ⟨by simp [V.dat,V.Be],by simp [V.dep,V.Bc]⟩
theorem okD.le {v d e} (h:okD v d) (k:d<=e):okD v e:=⟨h.1,by have:=h.2; exact r38 ‹_› ‹_›⟩
theorem Aqy (s:Str) {r} (h:okD r 1):okD (Abp s r) 2:=by
 refine Abo fun x hx=>?_
 simp only [Bh7,Bj1,or_false] at hx
 rcases hx with rfl | rfl | rfl | rfl
 · exact ⟨rfl,by simp [V.dep]⟩
 · exact ⟨by simp [V.dat,V.Be],by simp [V.dep,V.Bc]⟩
 · exact ⟨rfl,by simp [V.dep]⟩
 · exact h
set_option tactic.hygienic true in
theorem Amo {ts T} (H:Bf ts T) {u} (hu:u∈T):okD (B5 ts T u) 1:=by
 unfold B5
 split
 · rename_i e
   have:=H.val u hu _ ((Aen (H.len u hu) e _).mpr rfl)
   refine Abo (d:=0) fun x hx=>?_
   simp only [Bh7,Bj1,or_false] at hx
   rcases hx with rfl | rfl
   · exact this.ok
   · exact ⟨rfl,by simp [V.dep]⟩
 · exact ⟨by simp [V.dat,V.Be],by simp [V.dep,V.Bc]⟩
theorem Ath {ts T nm nums} (H:Bf ts T) (h3:ts.length=3) {t} (ht:t∈T):okD (.lst (Ax ts nm nums 4 0 t [])) 4:=by
 have htl:=H.len t ht
 rw [Afz h3 4 0 t [] (by lia) (by lia) (by rw [Bo8]; exact htl)]
 rw [show whole (szs ts) t=t by rw [<- htl]; exact Ab2 (by rw [htl]; exact Ah _)]
 refine Al7 fun x hx=>?_
 obtain ⟨p,hp,rfl⟩:=Bh1.mp hx
 obtain ⟨v1,v2⟩:=Amu 4 t htl p hp
 unfold Alm
 refine Abo fun y hy=>?_
 rw [Cb2] at hy
 rcases Bh6.mp hy with hy | hy
 · obtain ⟨s,hs,rfl⟩:=Bh1.mp hy
   obtain ⟨v,lo,hi,top,rfl,_⟩:=Alx 4 t htl p hp s hs
   rw [Air]
   exact Aqy _ (Aqd _ _)
 · rw [Bf6.mp hy]
   refine Abo (d:=1) fun z hz=>?_
   simp only [Bh7,Bj1,or_false] at hz
   rcases hz with rfl | rfl
   · exact ⟨rfl,by simp [V.dep]⟩
   · refine Abo (d:=0) fun z hz=>?_
     simp only [Bh7,Bj1,or_false] at hz
     rcases hz with rfl | rfl
     · exact (H.val t ht _ v1).ok
     · exact ⟨rfl,by simp [V.dep]⟩
theorem Ayt {v s} (h:okD v 1):okD (elV v s) 3:=by
 refine Abo (d:=2) fun x hx=>?_
 simp only [Bh7,Bj1,or_false] at hx
 rcases hx with rfl | rfl | rfl | rfl
 · exact ⟨by simp [V.dat,V.Be],by simp [V.dep,V.Bc]⟩
 · exact h.le (by lia)
 · exact ⟨rfl,by simp [V.dep]⟩
 · exact ⟨rfl,by simp [V.dep]⟩
theorem Ay3 {ts T nm nums} (H:Bf ts T) (m:Nat):okD (rvN nm nums ts T m) 7:=by
 unfold rvN
 cases hm:T[m]? with
 | none=>exact ⟨rfl,by simp [V.dep]⟩
 | some u=>
  have hu:=Bf9 hm
  have he:okD (.tup (Ank nums ts T u)) 4:=Abo fun x hx=>by
    unfold Ank at hx
    obtain ⟨y,hy,hx⟩:=Ce7.mp hx
    obtain ⟨s,hs,rfl⟩:=Bh1.mp hx
    exact Ayt (Amo H (H.cl u hu _ (Aak hy).1))
  refine Abo (d:=6) fun x hx=>?_
  rw [Bf6.mp hx]
  refine Abo (d:=5) fun x hx=>?_
  simp only [Bh7,Bj1,or_false] at hx
  rcases hx with rfl | rfl | rfl
  · exact ⟨rfl,by simp [V.dep]⟩
  · exact ⟨by simp [V.dat,V.Be],by simp [V.dep,V.Bc]⟩
  · refine Abo (d:=4) fun x hx=>?_
    simp only [Bh7,Bj1,or_false] at hx
    rcases hx with rfl | rfl
    · exact ⟨rfl,by simp [V.dep]⟩
    · exact he
theorem Ai1 {ts T nm nums} (H:Bf ts T) {t} (ht:t∈T) {base M}:∀ kv∈Ai base (B5 ts T t) (rvN nm nums ts T) M,kv.2.dat=true/\kv.2.dep<=40:=fun kv hkv=>by
 have:okD kv.2 40:=by
  unfold Ai at hkv
  rcases Bh7.mp hkv with rfl | hkv
  · refine (Al7 (d:=3) fun x hx=>?_).le (by lia)
    rw [Bf6.mp hx]
    refine Abo (d:=2) fun x hx=>?_
    rw [Bf6.mp hx]
    refine Abo (d:=1) fun x hx=>?_
    simp only [Bh7,Bj1,or_false] at hx
    rcases hx with rfl | rfl
    · exact ⟨rfl,by simp [V.dep]⟩
    · exact Amo H ht
  · obtain ⟨m,hm,rfl⟩:=Bh1.mp hkv
    refine (Al7 (d:=7) fun x hx=>?_).le (by lia)
    rw [Bf6.mp hx]; exact Ay3 H m
 exact this
theorem Ad9 {base vt rv q m} (hq:∀ x∈q,x < 20) (hm:m∈q) (hb:nName m≠base):Am (Ai base vt rv q) (nName m)=some (.lst [rv m]):=by
 unfold Am Ai
 rw [Bk2,show decide (base=nName m)=false by simpa using Bq1 hb]
 dsimp only
 have:∀ (l:List Nat),(∀ x∈l,x < 20)->m∈l->((l.map fun m=>(nName m,V.lst [rv m])).find? fun kv=>decide (kv.1=nName m))=some (nName m,.lst [rv m]):=by
  intro l
  induction l with
  | nil=>intro _ h; cases h
  | cons a r ih=>
   intro h1 h2
   rw [Bg8,Bk2]
   by_cases e:nName a=nName m
   · have:=Aej a (h1 a (.head _)) m (hq m hm) e
     subst this; simp
   · rw [show decide ((nName a,V.lst [rv a]).1=nName m)=false by simpa using e]
     dsimp only
     refine ih (fun x hx=>h1 x (.tail _ hx)) ?_
     rcases Bh7.mp h2 with rfl | h2
     · exact absurd rfl e
     · exact h2
 rw [this q hq hm]; rfl
theorem Ao6 {base vt rv M M'} (hn:M.Nodup) (hn':M'.Nodup) (h:∀ m,m∈M ↔ m∈M') (hl:∀ m∈M,m < 20) (hb:∀ m∈M,nName m≠base):deq (Ai base vt rv M) (Ai base vt rv M')=true:=by
 have hp:M.Perm M':=(List.perm_ext_iff_of_nodup hn hn').mpr h
 unfold deq
 rw [Bg0]
 refine ⟨by simp [Ai,hp.length_eq],Bj7.mpr fun kv hkv=>?_⟩
 rw [decide_eq_true_iff]
 unfold Ai at hkv
 rcases Bh7.mp hkv with rfl | hkv
 · unfold Am Ai; simp
 · obtain ⟨m,hm,rfl⟩:=Bh1.mp hkv
   exact Ad9 (fun x hx=>hl x ((h x).mpr hx)) ((h m).mp hm) (hb m hm)
theorem Agm:∀ m,m < 20->nName m≠"b":=by decide +kernel
theorem Ay8 {c σ m x y pos Q} (h:wE c x σ m fun v σ'=>∃ b,Tv σ' v b/\if b then wE c y σ' m Q else Q v σ'):Ev c.P c.n c.fx (.BoolOp .And [x,y] pos) σ (vof m) Q c.X:=
 Ayu (Ag ((Aca c 40).1 _ _ _ _ h) fun v σ' qA=>by obtain ⟨b,h1,h2⟩:=qA; exact ⟨b,h1,by
  cases b with
  | true=>exact (Aca c 40).1 _ _ _ _ h2
  | false=>exact h2⟩)
section
variable {w:World} {n:Nat} {σ:Sto} {Q:V->Sto->Prop} {Y:Str->Sto->Prop} {a:Wo} {wl nl:Addr} {T nd:List (List V)} {les:List (Str × V)} {nm:Nat->Str} {nums:Nat->List Int}
theorem At5 {t} (H:Bf a.A1 T) (h3:a.A1.length=3) (ht2:∀ p∈a.A1,p<=2) (hw:σ wl=some (.A5 a.es)) (hnu:σ nl=some (.Ad (Ap (T.map .tup)))) (hlg:σ a.lg=some (.A5 les)) (hD:σ a.dn=some (.list (An a.A1 T))) (N:Aia a.names a.A1 les nm nums)
  (hs:szs a.A1<=27) (hc:a.cells.length=szs a.A1) (hTl:T.length<=19) (Aon:nd.length<=20) (hnd:∀ u∈nd,u∈T) (ht:t∈T)
  (hok:∀ x∈a.names,Aem x (prP x) (ndP x)) (hnn:a.names.Nodup) (hnl:a.names.length<=100) (Bdj:∀ x∈a.names,Aei (prP x)=(ndP x).map (·.1)) (Bbu:∀ x∈a.names,∀ q∈Aei (prP x),q.length<=100)
  (hq:Q (.bool true) σ):Fn (PM w) (n + 9) (.ref 394) [.loc wl,.loc nl,.lst ((nd ++ [t]).map (Au T))] σ Q Y:=by
 have Acw:∀ p∈a.A1,p<=10:=fun p hp=>by have:=ht2 p hp; exact r43 ‹_›
 have htl:=H.len t ht
 have Ash:=Auf (lnd:=fun x=>Aei (prP x)) hnn Bdj [] a.names rfl
 have r2:n + 2<=n + 8:=Bf3 (by decide) n
 have l100:∀ {k},k<=100->k<=100000:=fun h=>Be7 h (by decide)
 refine B8 rfl rfl (Ajq fun _ _ _=>rfl) rfl fun R' Y' hR hY hRs hYs=>Acd (d:=.tup [.int (T.idxOf t:Nat),.tup t]) (.val _) (getL _) (Ac hw rfl (Ac hw rfl (Aa7 (ds:=a.names.map .str) (.val _) (by rw [Be9]; exact l100 hnl) (Ac hw rfl (Aa7 (ds:=tupI a.A1) (.val _) (by rw [tupI,Be9,h3]; decide) (Ac hw rfl (Fn.room (n:=n + 2) (Asq (n:=n) hnl hnn fun pl hpl=>?_) r2)))))))
 have hw':(σ.put pl (.A5 (placeOf a.names))) wl=some (.A5 a.es):=by rw [Sto.A4 _ _ (nne hw hpl)]; exact hw
 have hnu':(σ.put pl (.A5 (placeOf a.names))) nl=some (.Ad (Ap (T.map .tup))):=by rw [Sto.A4 _ _ (nne hnu hpl)]; exact hnu
 have hlg':(σ.put pl (.A5 (placeOf a.names))) a.lg=some (.A5 les):=by rw [Sto.A4 _ _ (nne hlg hpl)]; exact hlg
 have hD':(σ.put pl (.A5 (placeOf a.names))) a.dn=some (.list (An a.A1 T)):=by rw [Sto.A4 _ _ (nne hD hpl)]; exact hD
 have hpl':(σ.put pl (.A5 (placeOf a.names))) pl=some (.A5 (placeOf a.names)):=Sto.A0 ..
 have Aul:Sub σ (σ.put pl (.A5 (placeOf a.names))):=Sub.new (Sub.refl _) hpl
 revert hw' hnu' hlg' hD' hpl' Aul; with_reducible refine gz (σ.put pl (.A5 (placeOf a.names))) fun σ1 hw' hnu' hlg' hD' hpl' Aul=>?_
 refine Ac hw' rfl (Fn.room (n:=n + 2) (Akc (n:=n) (nd:=ndP) hok hnl Bbu ?_) r2)
 rw [Ash]
 have hki:=Acb ht
 have hkl:=Bk1 ht
 revert hki hkl; with_reducible refine gz (T.idxOf t) fun k hki hkl=>?_
 have Be6:k<=20:=Be7 (Bk4 hkl) (Bk0 hTl)
 have Aiv:T.length<=20:=Bk0 hTl
 have Av3:szs a.A1<=100:=Be7 hs (by decide)
 have Avr:(Ax a.A1 nm nums 4 0 t []).length<=99:=by
  rw [Afz h3 4 0 t [] (by decide) (by decide) (by rw [Bo8]; exact htl),Be9]
  exact Be7 (Apu 4 (whole (szs a.A1) t) ht2) (by decide)
 cases hm:B0 ndP a.names a.names with
 | some y=>
  have hy:=Av0 hm
  have nn:∀ {P:Prop},B0 ndP a.names a.names=none->P:=fun e=>by rw [hm] at e; cases e
  refine Aw (dF hy (An2 (dT hy (Aat (n:=n + 7) (Adr (n:=n + 6) (Adi (n:=n) (pr:=prP) (nd:=ndP) (nm:=nm) (nums:=nums) H h3 ht2 hpl' hnl hok hlg' N hD' hki Aiv (by decide) (.inl Agm) (fun y' e=>?_) (fun e=>nn e) (fun e=>nn e) (fun e=>nn e)))))))
  rw [hm] at e
  cases e
  rw [decide_eq_true (show y=(some y).getD (Bf4 "") from rfl)]
  refine Ay8 (Exists.intro true (And.intro (.bool _) ?_))
  refine Fn.room (n:=n + 7) (Aat (n:=n + 6) (Aim (n:=n + 5) (Agf (n:=n) (most:=99) (pr:=prP) (nd:=ndP) (nm:=nm) (nums:=nums) H h3 ht2 hpl' hnl hok hlg' N hD' hki Aiv Avr (fun y' e=>?_) (fun e=>nn e) (fun e=>nn e)))) (Bm8 _)
  rw [hm] at e
  cases e
  rw [decide_eq_true (show y=(some y).getD (Bf4 "") from rfl)]
  exact hRs Aul hq
 | none=>
  have ns:∀ {P:Prop} {y},B0 ndP a.names a.names=some y->P:=fun e=>by rw [hm] at e; cases e
  refine Aw (dT rfl (Aij rfl ?_))
  rw [show V.tup t=V.tup (t.map id) by rw [Cm9]]
  refine Acy id (fun x=>if Ar x=true then none else some x) t rfl (by rw [htl]; exact l100 Av3) (.inr (Afs (.val _) (.val _) ?_ (by
      rw [V.dat]
      refine Acr.mpr fun y hy=>?_
      obtain ⟨p,hp,h⟩:=Bx9.mp hy
      split at h
      · cases h
      · cases h; exact V.Aal _ (H.val t ht _ hp).1) rfl Aj5)) fun acc B1 x hx vs K1 K0 h1 h0=>?_
  rotate_left
  · have hkx:=H.val t ht x hx
    exact Afi (.val _) (nI (fun q=>h0 _ (if_pos (decide_eq_true q)) (Sub.refl _)) fun q=>h1 _ _ (if_neg fun e=>q (of_decide_eq_true e)) (Sub.refl _)) (V.Aal x hkx.1) rfl (by show x.dep<=40; rw [hkx.2]; decide)
  rw [Cm9]
  refine nI (fun ho=>?_) fun ho=>?_
  rotate_left
  · have ho:∃ x∈t,Ar x=false:=Classical.byContradiction fun h=>ho (congrArg V.lst (Bq3.mpr fun x hx=>if_pos (by
      cases o:Ar x with
      | true=>rfl
      | false=>exact absurd ⟨x,hx,o⟩ h)))
    have no:∀ {P:Prop},(∀ x∈t,Ar x=true)->P:=fun e=>by obtain ⟨x,hx,e'⟩:=ho; rw [e x hx] at e'; cases e'
    refine An2 (dT (by decide +kernel) (Aat (n:=n + 7) (Adr (n:=n + 6) (Adi (n:=n) (pr:=prP) (nd:=ndP) (nm:=nm) (nums:=nums) H h3 ht2 hpl' hnl hok hlg' N hD' hki Aiv (by decide) (.inl Agm) (fun y' e=>ns e) (fun _ _=>?_) (fun _ e=>no e) (fun _ e=>no e)))))
    rw [decide_eq_true rfl]
    refine Ay8 (Exists.intro true (And.intro (.bool _) ?_))
    refine Fn.room (n:=n + 7) (Aat (n:=n + 6) (Aim (n:=n + 5) (Agf (n:=n) (most:=99) (pr:=prP) (nd:=ndP) (nm:=nm) (nums:=nums) H h3 ht2 hpl' hnl hok hlg' N hD' hki Aiv Avr (fun y' e=>ns e) (fun _ _=>?_) (fun _ e=>no e)))) (Bm8 _)
    rw [decide_eq_true rfl]
    exact hRs Aul hq
  have Ay2:∀ x∈t,Ar x=true:=fun x hx=>by
    have:=Bq3.mp (V.lst.inj ho) x hx
    split at this
    · assumption
    · cases this
  have no:∀ {P:Prop},(∃ x∈t,Ar x=false)->P:=fun qB=>by obtain ⟨x,hx,e⟩:=qB; rw [Ay2 x hx] at e; cases e
  have Baj:∀ (Q':V->Sto->Prop) Y',Q' (.lst (Ax a.A1 nm nums 4 0 t [])) σ1->Fn (PM w) (n + 8) (.ref 389) [.loc wl,.tup t,.int 0,.tup []] σ1 Q' Y':=fun Q' Y' hQ'=>by
    refine Fn.room (n:=n + 6) (At8 (n:=n) (a:=a) (nm:=nm) (nums:=nums) hw' hlg' h3 Acw (fun v hv=>⟨N.get v hv,?_,Be7 (N.len v hv) (by decide),N.big v hv⟩) 4 0 t [] Q' (by decide) (by decide) (by decide) (by rw [htl]; exact Be7 hs (by decide)) (by rw [Bo8]; exact htl) (by decide) (fun x hx=>(H.val t ht x hx).flat) hQ') (Bf3 (by decide) n)
    rcases N.les v hv with ⟨l1,l2⟩ | ⟨l1,l2⟩
    · rw [l1,l2]; rfl
    · rw [l1]; rfl
  refine An2 (dF (fun h=>h rfl) (Baj _ _ (Aa1 (.val _) (Be7 Avr (by decide)) (Fn.room (n:=n + 5) (Agf (n:=n) (most:=(Ax a.A1 nm nums 4 0 t []).length) (pr:=prP) (nd:=ndP) (nm:=nm) (nums:=nums) H h3 ht2 hpl' hnl hok hlg' N hD' hki Aiv (Bh5 _) (fun y' e=>ns e) (fun _ e=>no e) (fun _ _ r hr=>?_)) (Bf3 (by decide) n)))))
  refine Afm ?_
  intro r2' hr2
  have hX:=Ath (nm:=nm) (nums:=nums) H h3 ht
  have hr2':σ1 r2'=none:=(Sub.new (Sub.refl _) hr).none hr2
  have nr:r≠r2':=A7 (Sto.A0 ..) hr2
  refine Anm (es:=[(Bf4 "b",V.lst (Ax a.A1 nm nums 4 0 t []))]) (by rw [Sto.A4 _ _ nr,Sto.A0]) (Sto.A0 ..) (fun kv hkv=>?_) (fun kv hkv=>?_) ?_
  · rw [Bf6.mp hkv]; exact ⟨hX.1,Be7 hX.2 (by decide)⟩
  · rewrite [Bf6.mp hkv]; exact hX.1
  rw [show deq [(Bf4 "b",V.lst (Ax a.A1 nm nums 4 0 t []))] (Ai9 [] [(Bf4 "b",V.lst (Ax a.A1 nm nums 4 0 t []))])=true by simp [deq,Am,Ai9,dput]]
  have fr:∀ {b:Addr} {o x1 x2:O},σ1 b=some o->((σ1.put r x1).put r2' x2) b=some o:=fun {b o x1 x2} h=>by
    rw [Sto.A4 _ _ (nne h hr2'),Sto.A4 _ _ (nne h hr)]; exact h
  have hw2:=fr (x1:=.A5 [(Bf4 "b",V.lst (Ax a.A1 nm nums 4 0 t []))]) (x2:=.A5 (Ai9 [] [(Bf4 "b",V.lst (Ax a.A1 nm nums 4 0 t []))])) hw'
  have Azv:=fr (x1:=.A5 [(Bf4 "b",V.lst (Ax a.A1 nm nums 4 0 t []))]) (x2:=.A5 (Ai9 [] [(Bf4 "b",V.lst (Ax a.A1 nm nums 4 0 t []))])) hnu'
  have Azp:=fr (x1:=.A5 [(Bf4 "b",V.lst (Ax a.A1 nm nums 4 0 t []))]) (x2:=.A5 (Ai9 [] [(Bf4 "b",V.lst (Ax a.A1 nm nums 4 0 t []))])) hlg'
  have hD2:=fr (x1:=.A5 [(Bf4 "b",V.lst (Ax a.A1 nm nums 4 0 t []))]) (x2:=.A5 (Ai9 [] [(Bf4 "b",V.lst (Ax a.A1 nm nums 4 0 t []))])) hD'
  have Azf:=fr (x1:=.A5 [(Bf4 "b",V.lst (Ax a.A1 nm nums 4 0 t []))]) (x2:=.A5 (Ai9 [] [(Bf4 "b",V.lst (Ax a.A1 nm nums 4 0 t []))])) hpl'
  have Awe:Sub σ ((σ1.put r (.A5 [(Bf4 "b",V.lst (Ax a.A1 nm nums 4 0 t []))])).put r2' (.A5 (Ai9 [] [(Bf4 "b",V.lst (Ax a.A1 nm nums 4 0 t []))]))):=fun b o e=>fr (Aul b o e)
  revert hw2 Azv Azp hD2 Azf Awe; with_reducible refine gz ((σ1.put r (.A5 [(Bf4 "b",V.lst (Ax a.A1 nm nums 4 0 t []))])).put r2' (.A5 (Ai9 [] [(Bf4 "b",V.lst (Ax a.A1 nm nums 4 0 t []))]))) fun σ2 hw2 Azv Azp hD2 Azf Awe=>?_
  have lim:∀ {m},Reach (chN a.A1 T) k m->m < 19:=fun hm=>by
    obtain ⟨u,hu,_⟩:=Abu H hki hm
    exact Bh0 (Bf7.mp hu).1 hTl
  have lim2:∀ {m},Reach (chN a.A1 T) k m->m < 20:=fun hm=>Bt4 (lim hm)
  have r4:n + 4<=n + 8:=Bf3 (by decide) n
  refine Fn.room (n:=n + 4) (Ahs (n:=n) (a:=a) (nm:=nm) (nums:=nums) (k:=k) H h3 ht2 hw2 Azv Azp N Av3 hc hki Aiv (by decide +kernel) (fun m hm' _=>Agm m (lim2 hm')) fun M hM tk htk=>?_) r4
  have fr:∀ {b:Addr} {o x1:O},σ2 b=some o->(σ2.put tk x1) b=some o:=fun {b o x1} h=>by
    rw [Sto.A4 _ _ (nne h htk)]; exact h
  have hMi:=Aj9 hM
  with_reducible refine gze (σ2.put tk (.A5 (Ai (Bf4 "b") (B5 a.A1 T t) (rvN nm nums a.A1 T) M))) fun σ3 hσ3=>?_
  have Bdy:σ3 tk=some (.A5 (Ai (Bf4 "b") (B5 a.A1 T t) (rvN nm nums a.A1 T) M)):=by rw [<- hσ3,Sto.A0]
  have hw3:σ3 wl=some (.A5 a.es):=by rw [<- hσ3]; exact fr hw2
  have Bcj:σ3 nl=some (.Ad (Ap (T.map .tup))):=by rw [<- hσ3]; exact fr Azv
  have Azr:σ3 a.lg=some (.A5 les):=by rw [<- hσ3]; exact fr Azp
  have hD3:σ3 a.dn=some (.list (An a.A1 T)):=by rw [<- hσ3]; exact fr hD2
  have Bcm:σ3 pl=some (.A5 (placeOf a.names)):=by rw [<- hσ3]; exact fr Azf
  have Bbd:Sub σ σ3:=fun b o e=>by rw [<- hσ3]; exact fr (Awe b o e)
  have hDl:(An a.A1 T).length=T.length:=by rw [An,Be9]
  refine Aa1 (.loc hD3) (by rw [hDl]; exact Be7 hTl (by decide)) (.inr (Aje (.val _) (.val _) ?_ (by rw [Be9,Bf1]; exact Be7 (Bg3 (Bg3 Aon)) (by decide))))
  refine Axa (α:=Unit) (fun _=>σ3) (fun _=>[("world",.loc wl),("numbers",.loc nl),("number",.int k),("table",.tup t),("space",Abj a.names a.A1 a.lg pl),("diagrams",a.dia),("taken",.loc tk)])
    (fun ds _=>∀ d∈ds,∃ (j:Nat) (x:V),d=.tup [.int j,x]/\j<=19) _ () rfl (fun d hd=>?_) (Sub.refl _) rfl ?_ ?_
  · rcases Bh6.mp hd with hd | hd
    · obtain ⟨u,hu,rfl⟩:=Bh1.mp hd
      exact ⟨_,_,rfl,Be7 (Bk4 (Bk1 (Aa9 hnd ht u hu))) hTl⟩
    · rw [Bf6.mp hd]
      exact ⟨_,_,rfl,hDl ▸ hTl⟩
  · rintro ⟨⟩ _
    exact .go (hRs Bbd hq)
  · rintro d rr ⟨⟩ K hK hI
    obtain ⟨j,x,rfl,hj⟩:=hI _ (.head _)
    have Axh:j < 20:=Bp2 hj
    have hn1:(Bf4 "n").length=1:=by decide +kernel
    have hI':=fun d hd=>hI d (.tail _ hd)
    refine A6 (k:=0) rfl (Ak0 (by exact r30) (by lia) (Ae9 ?_ ?_))
    rotate_left
    · rw [Bn5,hn1]
      exact Be7 (Bf3 (Adf j Axh) 1) (by decide)
    rw [show Bf4 "n" ++ Axj (j:Int)=nName j from rfl]
    have hjl:(nName j).length<=100:=by
      unfold nName
      rw [PySem.Str.length_append,hn1]; exact Be7 (Bf3 (Adf j Axh) 1) (by decide)
    have Auc:∀ m∈M,m < 20:=fun m hm'=>lim2 (hM.inn m hm').1
    refine Ag1 Bdy ?_
    by_cases hjM:j∈M
    · rw [Ad9 Auc hjM (Agm j Axh),Option.isSome_some]
      refine Aat (n:=n + 7) (Adr (n:=n + 6) (Adi (n:=n) (pr:=prP) (nd:=ndP) (nm:=nm) (nums:=nums) H h3 ht2 Bcm hnl hok Azr N hD3 hki Aiv hjl (.inr Ay2) (fun y' e=>ns e) (fun _ e=>no e) (fun _ _ _=>?_) (fun _ _ M' hM' hb'=>absurd rfl (hb' j ((Aj9 hM' j).mpr ((hMi j).mp hjM))))))
      rw [decide_eq_true rfl]
      exact .mk _ (.bool _) (hK () _ _ hI' (Sub.refl _) rfl)
    · rw [Adp Auc Axh hjM,decide_eq_false (Agm j Axh)]
      have Bat:∀ m,Reach (chN a.A1 T) k m->chN a.A1 T m≠none->nName m≠nName j:=fun m hr hn e=>by
        have:=Aej m (lim2 hr) j Axh e
        subst this
        exact hjM ((hMi m).mpr ⟨hr,hn⟩)
      refine Fn.room (n:=n + 6) (Adi (n:=n) (pr:=prP) (nd:=ndP) (nm:=nm) (nums:=nums) H h3 ht2 Bcm hnl hok Azr N hD3 hki Aiv hjl (.inr Ay2) (fun y' e=>ns e) (fun _ e=>no e) (fun _ _ qC=>by obtain ⟨m,h1,h2,h3⟩:=qC; exact absurd h3 (Bat m h1 h2)) (fun _ _ M1 hM1 _ q1 hq1=>?_)) (Bf3 (by decide) n)
      refine Fn.room (n:=n + 4) (Ahs (n:=n) (a:=a) (nm:=nm) (nums:=nums) (k:=k) H h3 ht2 (by rw [Sto.A4 _ _ (nne hw3 hq1)]; exact hw3) (by rw [Sto.A4 _ _ (nne Bcj hq1)]; exact Bcj) (by rw [Sto.A4 _ _ (nne Azr hq1)]; exact Azr) N Av3 hc hki Aiv hjl Bat fun M2 hM2 q2 hq2=>?_) r4
      have nq:q1≠q2:=A7 (Sto.A0 ..) hq2
      refine Anm (es:=Ai (nName j) (B5 a.A1 T t) (rvN nm nums a.A1 T) M1) (by rw [Sto.A4 _ _ nq,Sto.A0]) (Sto.A0 ..) (Ai1 H ht) (fun kv hkv=>(Ai1 H ht kv hkv).1) ?_
      rw [Ao6 hM1.nd hM2.nd (fun m=>by rw [Aj9 hM1,Aj9 hM2]) (fun m hm'=>lim2 (hM1.inn m hm').1) (fun m hm'=>Bat m (hM1.inn m hm').1 (hM1.inn m hm').2)]
      exact hK () _ _ hI' (Sub.new (Sub.new (Sub.refl _) hq1) hq2) rfl
end
theorem Anj:∀ {es e},(es.map (·.name)).Nodup->e∈es->Am (Az es) e.name=if e.nums=[] then none else some (.tup (e.nums.map .int))
 | [],e,_,h=>by cases h
 | x :: es,e,hn,h=>by
  rw [Bg8,Br7] at hn
  have out:∀ {y:Str},y ∉ es.map (·.name)->Am (Az es) y=none:=fun {y} hy=>by
    unfold Am Az
    rw [Option.map_eq_none_iff,By1]
    intro kv hkv
    obtain ⟨z,hz,e1⟩:=Bx9.mp hkv
    split at e1
    · cases e1
    · cases e1
      simp only [decide_eq_true_eq]
      exact fun e2=>hy (e2 ▸ Bi7 hz)
  have hc:Az (x :: es)=if x.nums=[] then Az es else (x.name,.tup (x.nums.map .int)) :: Az es:=by
    unfold Az
    rw [Bq2]
    by_cases q:x.nums=[] <;> simp [q]
  rcases Bh7.mp h with rfl | h
  · rw [hc]
    by_cases q:e.nums=[]
    · rw [if_pos q,if_pos q,out hn.1]
    · rw [if_neg q,if_neg q]; simp [Am]
  · have ne:x.name≠e.name:=fun e2=>hn.1 (e2 ▸ Bi7 h)
    have ih:=Anj hn.2 h
    rw [hc]
    by_cases q:x.nums=[]
    · rw [if_pos q,ih]
    · rw [if_neg q,<- ih]
      unfold Am
      rw [Bk2,show decide (x.name=e.name)=false by simpa using ne]
theorem Ax1 {es} (h3:es.length=3) (hn:(es.map (·.name)).Nodup) (hp:∀ e∈es,e∈Aet):Aia (es.map (·.name)) (es.map (·.top)) (Az es) (fun v=>((es[v]?).map (·.name)).getD "") (fun v=>((es[v]?).map (·.nums)).getD []):=by
 have get:∀ v,v < 3->∃ e,es[v]?=some e/\e∈es:=fun v hv=>⟨es[v]'(by lia),Bf0 (by lia),Bl6 _⟩
 refine ⟨fun v hv=>?_,fun v hv=>?_,fun v hv=>?_,fun v hv=>?_⟩
 all_goals obtain ⟨e,he,hm⟩:=get v hv
 all_goals obtain ⟨z1,z2,z3,z4⟩:=Ae5 e (hp e hm)
 · rw [Bf8,he]; rfl
 · simp only [he,Bl5,Bm1]
   rw [Anj hn hm]
   by_cases q:e.nums=[]
   · exact .inl ⟨if_pos q,q⟩
   · exact .inr ⟨if_neg q,q⟩
 · simp only [he,Bl5,Bm1]; lia
 · simp only [he,Bl5,Bm1]
   by_cases q:e.nums=[]
   · exact .inl q
   · right
     intro p hp'
     rw [Bf8,he] at hp'
     simp only [Bl5,Bs1] at hp'
     have:=z4 q; rw [this,hp']; exact Br0 _
theorem kne {ks:List Addr} (K:ks.Nodup) (i j:Nat) {a b:Addr} (hi:ks[i]?=some a) (hj:ks[j]?=some b) (h:i≠j:=by decide):a≠b:=fun e=>h ((List.getElem?_inj (Bf7.mp hi).1 K).mp (hi.trans (e ▸ hj.symm)))
section
variable {w:World} {n:Nat} {σ:Sto} {Y:Str->Sto->Prop}
theorem Ayy {xs:List Int} (hxs:xs.length<=63):Fn (PM w) (n + 12) (.ref 399) [.lst (xs.map .int)] σ (fun v _=>v=.bool true) Y:=by
 have l63:xs.length<=100000:=Be7 hxs (by decide)
 refine B8 rfl rfl (Aou fun _=>rfl) rfl fun R' Y' hR hY hRs hYs=>Fn.room (n:=n + 1) (At0 fun pa ns hns hpa=>?_) (Bf3 (by decide) n)
 refine Aa1 (.val _) (by rw [Be9]; exact l63) (Aa1 (ds:=ns.map .int) (.loc (Sto.A0 ..)) (by rw [Be9,hns]; decide) ?_)
 rw [Be9,Be9]
 refine Af6 (Aac (k:=min xs.length ns.length) (by exact r15) ?_ (Be7 (Bt3 ..) (Be7 l63 (by decide))))
 have r1:n + 1<=n + 11:=Bf3 (by decide) n
 refine Ajz (u:=0) (α:=List Int) (fun ns=>σ.put pa (B2 ns)) (fun _=>[("script",.lst (xs.map .int)),("pen",.loc pa)]) (fun k ns=>ns.length=66) ns rfl hns (Sub.refl _) rfl ?_ ?_
 rotate_left
 · rintro k ns' K hk hK e1
   have hk:k < xs.length:=Bh0 (Bk7 (min ..) ▸ hk) (Bt3 ..)
   have hk2:k < ns'.length:=by rw [e1]; exact Bh0 hk (Be7 hxs (by decide))
   have kl:k < 1000000:=Bh0 hk (Be7 l63 (by decide))
   refine Ab (k:=k) (d:=.int ns'[k]) (.loc (Sto.A0 ..)) (by rw [Bf8,Bf0 hk2]; rfl) (Ab (k:=k) (d:=.int xs[k]) (.val _) (by rw [Bf8,Bf0 hk]; rfl) (Ahf (ds:=ns'.map .int) (j:=k) (Sto.A0 ..) (.inl ⟨Bj9 _,by exact tl (Bh0 hk hxs) (by decide),rfl⟩) (by rw [Be9]; exact hk2) ?_) kl) kl
   rw [Sto.A9,<- List.map_set]
   exact hK (ns'.set k (ns'[k] + xs[k])) _ _ (by rw [List.length_set]; exact e1) (Sub.refl _) rfl
 clear hns
 intro ns hns
 refine .go (Fn.room (n:=n + 3) (Au0 (n:=n) (Sto.A0 ..) (Bm2 hns) fun es ms a wl h3 qM hms hna hta hce K6=>?_) (Bf3 (by decide) n))
 obtain ⟨rem,Aka⟩:=qM
 have s1:=fun (σ:Sto) vs=>Aag (σ:=σ) (vs:=B2 ms :: vs) 0 K6 rfl rfl
 have s2:=Aag (σ:=σ.put pa (B2 ns)) (vs:=[B2 ms,.A5 (Az es),.list [],.Ad [],.A5 [],.A5 a.es]) 1 K6 rfl rfl
 have s3:=Aag (σ:=σ.put pa (B2 ns)) (vs:=[B2 ms,.A5 (Az es),.list [],.Ad [],.A5 [],.A5 a.es]) 2 K6 rfl rfl
 have s4:=Aag (σ:=σ.put pa (B2 ns)) (vs:=[B2 ms,.A5 (Az es),.list [],.Ad [],.A5 [],.A5 a.es]) 3 K6 rfl rfl
 have s5:=Aag (σ:=σ.put pa (B2 ns)) (vs:=[B2 ms,.A5 (Az es),.list [],.Ad [],.A5 [],.A5 a.es]) 5 K6 rfl rfl
 have s1:=s1 (σ.put pa (B2 ns)) [.A5 (Az es),.list [],.Ad [],.A5 [],.A5 a.es]
 revert s2 s3 s4 s5 s1; with_reducible refine gz (Ahg (σ.put pa (B2 ns)) [pa,a.lg,a.dn,a.db,a.dm,wl] [B2 ms,.A5 (Az es),.list [],.Ad [],.A5 [],.A5 a.es]) fun σ1 s2 s3 s4 s5 s1=>?_
 refine .inl fun na Ayl=>?_
 have m1:=nne s1 Ayl
 have m2:=nne s2 Ayl
 have m3:=nne s3 Ayl
 have m4:=nne s4 Ayl
 have m5:=nne s5 Ayl
 have np1:a.lg≠pa:=kne K6 1 0 rfl rfl
 have L:LawW (σ1.put na (.list [])) a wl pa na:=by
   refine ⟨by rw [Sto.A4 _ _ m5]; exact s5,by rw [hta,Be9,h3],fun p hp=>?_,hce,m1,kne K6 0 2 rfl rfl,kne K6 0 3 rfl rfl,m3.symm,m4.symm,kne K6 2 3 rfl rfl,kne K6 5 0 rfl rfl,m5,kne K6 5 2 rfl rfl,kne K6 5 3 rfl rfl⟩
   rw [hta] at hp
   obtain ⟨e,he,rfl⟩:=Bh1.mp hp
   have:=Ae5 e (Aka.subset (Bh9 _ he))
   exact ⟨this.1,this.2.1⟩
 have Afc:Aj (σ1.put na (.list [])) a pa na [] [] ms=σ1.put na (.list []):=by
   show ((((σ1.put na (.list [])).put a.db (.Ad [])).put a.dn (.list [])).put na (.list [])).put pa (B2 ms)=_
   rw [Sto.Acp (a:=a.db) (by rw [Sto.A4 _ _ m4]; exact s4),Sto.Acp (a:=a.dn) (by rw [Sto.A4 _ _ m3]; exact s3),Sto.A9,Sto.Acp (a:=pa) (by rw [Sto.A4 _ _ m1]; exact s1)]
 have Bbn:∀ T nd ms,Aj (σ1.put na (.list [])) a pa na T nd ms a.lg=some (.A5 (Az es)):=fun T nd ms=>by
   unfold Aj Ahi
   rw [Sto.A4 _ _ np1,Sto.A4 _ _ m2,Sto.A4 _ _ (kne K6 1 2 rfl rfl),Sto.A4 _ _ (kne K6 1 3 rfl rfl),Sto.A4 _ _ m2]; exact s2
 rw [<- Afc]
 revert L Afc Bbn; with_reducible refine gz (σ1.put na (.list [])) fun σ2 L Afc Bbn=>?_
 obtain ⟨Ane,hcl⟩:=L.szs
 have Ba0:∀ T nd ms,Aj σ2 a pa na T nd ms pa=some (B2 ms):=fun T nd ms=>L.pen
 refine .inr (Fn.room (n:=n + 1) (Ab0 (n:=n) (k:=4) (Ba0 _ _ _) hms (by decide) fun q1 ns1 hq1 Aro=>?_) r1)
 rw [Aau]
 obtain ⟨x3,hx3,hk3⟩:∃ x,([V.str (Bf4 "drop"),V.str (Bf4 "continue"),V.int 7,V.str (Bf4 "accept")]:List V)[q1]?=some x/\kv x:=by
   rcases (by lia:q1=0∨q1=1∨q1=2∨q1=3) with rfl | rfl | rfl | rfl <;> exact ⟨_,rfl,rfl,rfl⟩
 refine Ab (k:=q1) (.val _) hx3 (.inr ?_) (Bj3 hq1 (by decide))
 refine Axa (α:=List (List V) × List (List V)) (fun x=>Aj σ2 a pa na x.1 x.2 ns1) (fun _=>[("pen",.loc pa),("nodes",.loc na),("world",.loc wl)])
   (fun ds x=>Bf a.A1 x.1/\(∀ t∈x.2,t∈x.1/\(asked a.A1 t).1=3)/\x.1.length + ds.length<=3/\x.2.length + ds.length=3/\∀ d∈ds,kv d) _ ([],[]) rfl
   ⟨⟨.nil,fun _ h=>absurd h Bj1,fun _ h=>absurd h Bj1,fun _ h=>absurd h Bj1⟩,fun _ h=>absurd h Bj1,Bh5 _,rfl,fun d hd=>?_⟩ (Sub.refl _) rfl ?_ ?_
 · cases hd with
   | head=>exact ⟨rfl,rfl⟩
   | tail _ hd=>
     cases hd with
     | head=>exact ⟨rfl,rfl⟩
     | tail _ hd=>rw [Bf6.mp hd]; exact hk3
 rotate_left
 · rintro d r ⟨T,nd⟩ K hK ⟨e1,e2,e3,e4,e5⟩
   dsimp only at e1 e2 e3 e4
   rw [Bh3] at e3 e4
   have hkd:=e5 d (.head _)
   have L2:=L.nod (T:=T) (nd:=nd) (ns:=ns1)
   refine Af L2 (Ac L.wld rfl (Fn.room (n:=n + 2) (Ase (n:=n) e1 L.dn L.db L.n6 (by lia) hkd ?_) (Bf3 (by decide) n)))
   rw [L.Ahi,<- Agl (u:=whole (szs a.A1) [d]) fun t ht=>(e2 t ht).1]
   have HT':=e1.leaf hkd
   have hTl':=Ajj (T:=T) (u:=whole (szs a.A1) [d])
   have ha3:(asked a.A1 (whole (szs a.A1) [d])).1=3:=by rw [Aer,L.h3]
   rw [show ((Ahi σ2 a.dn a.db (An a.A1 (B7 T (whole (szs a.A1) [d])))).put na (.list (nd.map (Au (B7 T (whole (szs a.A1) [d])))))).put pa (B2 ns1)=Aj σ2 a pa na (B7 T (whole (szs a.A1) [d])) nd ns1 from rfl]
   have L2':=L.nod (T:=B7 T (whole (szs a.A1) [d])) (nd:=nd) (ns:=ns1)
   have Ahw:a.cells.length<=100000:=by rw [hcl]; exact Be7 Ane (by decide)
   refine Ac L.wld rfl (Aa1 (ds:=a.cells) (.val _) Ahw (Ap2 (k:=a.cells.length) rfl (by rw [hcl]; exact Ah _) (Bs2 _ _) ?_ (by rw [Bo3,Nat.one_mul]; exact Ahw)))
   rw [show V.tup (Bg7 a.cells.length [d]).flatten=V.tup (whole (szs a.A1) [d]) by rw [hcl,Aah,Bo3,Nat.div_one]; rfl]
   revert HT' hTl' ha3 L2'; with_reducible refine gz (whole (szs a.A1) [d]) fun u HT' hTl' ha3 L2'=>?_
   refine Ae L2' (hK (B7 T u,nd ++ [u]) _ _ ⟨HT',Aa9 (p:=fun t=>t∈B7 T u/\(asked a.A1 t).1=3) (fun t ht=>⟨Ag6 (e2 t ht).1,(e2 t ht).2⟩) ⟨Adg,ha3⟩,by dsimp only; exact Be7 (Bi3 hTl' _) (by rw [Bh2]; exact e3),by rw [Bf1,Bo3]; lia,fun x hx=>e5 x (.tail _ hx)⟩ ?_ rfl) (by rw [Be9]; lia)
   dsimp only
   unfold Aj
   rw [Sto.Ao _ _ _ L.n1,Sto.A9,Bg1]
   exact Sub.refl _
 rintro ⟨T,nd⟩ ⟨e1,e2,e3,e4,_⟩
 dsimp only at e1 e2 e3 e4
 rw [Bl1,Nat.add_zero] at e3 e4
 have G:Axc a T nd:=⟨e1,fun t ht=>(e2 t ht).1,by
   cases nd with
   | nil=>cases e4
   | cons t r=>exact ⟨t,.head _,(e2 t (.head _)).2⟩⟩
 clear e1 e2
 refine .go (Aac (k:=6) rfl ?_ (by decide))
 refine Ajz (u:=0) (α:=List (List V) × List (List V) × List Int) (fun x=>Aj σ2 a pa na x.1 x.2.1 x.2.2) (fun _=>[("pen",.loc pa),("nodes",.loc na),("world",.loc wl)])
   (fun k x=>Axc a x.1 x.2.1/\x.1.length<=3 + k/\x.2.1.length<=3 + k/\x.2.2.length<=66) (T,nd,ns1) rfl ⟨G,e3,Bm2 e4,Aro⟩ (Sub.refl _) rfl ?_ ?_
 rotate_left
 · clear G e3 e4 Aro
   rintro k ⟨T,nd,ns⟩ K hk hK ⟨G,e3,e4,hns⟩
   dsimp only at G e3 e4 hns
   have hk:k < 6:=Bk7 6 ▸ hk
   have tl:T.length<=20:=by exact Be7 e3 (Be7 (Bf3 (Bk4 hk) 3) (by decide))
   have nl:nd.length<=20:=by exact Be7 e4 (Be7 (Bf3 (Bk4 hk) 3) (by decide))
   refine Fn.room (n:=n + 1) (Ab0 (n:=n) (k:=3) (Ba0 _ _ _) hns (by decide) fun kd ns1 hkd Aro=>?_) r1
   rw [Aau]
   refine Fn.room (n:=n + 1) (Ab0 (n:=n) (k:=3) (Ba0 _ _ _) Aro (by decide) fun v ns2 hv Aui=>?_) r1
   rw [Aau]
   refine Abz (dI (fun qk=>?_) fun qk=>?_)
   · refine Fn.room (n:=n + 7) (Apw (n:=n) L G hv tl nl Aui fun T' nd' ms' G' h1 h2 h3=>?_) (Bf3 (by decide) n)
     exact .mk _ (.bool _) (Apt (dF (fun e=>by lia) (hK (T',nd',ms') _ _ ⟨G',Be7 h1 (Bg3 e3),Be7 h2 (Bg3 e4),h3⟩ (Sub.refl _) rfl)))
   · refine Apt (dT (by lia) (Abz (Fn.room (n:=n + 6) (Avx (n:=n) L G hv tl nl Aui fun T' nd' ms' G' h1 h2 h3=>?_) (Bf3 (by decide) n))))
     exact .mk _ (.bool _) (hK (T',nd',ms') _ _ ⟨G',Be7 h1 (Bg3 e3),Be7 h2 (Bg3 e4),h3⟩ (Sub.refl _) rfl)
 clear G e3 e4 Aro
 rintro ⟨T,nd,ns⟩ ⟨G,e3,e4,hns⟩
 dsimp only at G e3 e4 hns
 have e3:T.length<=9:=e3
 have e4:nd.length<=9:=e4
 refine .frz "nodes" rfl L.nod (.go ?_)
 have fd:∀ {b:Addr},b≠na->((Aj σ2 a pa na T nd ns).del na) b=Aj σ2 a pa na T nd ns b:=fun {b} hb=>if_neg hb
 have f1:=(fd L.w2).trans L.wld
 have f2:=(fd (Bq1 L.n4)).trans L.dn
 have f3:=(fd L.n1).trans L.pen
 have f4:=(fd m2).trans (Bbn T nd ns)
 revert fd f1 f2 f3 f4; with_reducible refine gze ((Aj σ2 a pa na T nd ns).del na) fun σf hσf fd f1 f2 f3 f4=>?_
 have g1:∀ ms,(σf.put pa (B2 ms)) wl=some (.A5 a.es):=fun ms=>by rw [Sto.A4 _ _ L.w1]; exact f1
 have g2:∀ ms,(σf.put pa (B2 ms)) a.dn=some (.list (An a.A1 T)):=fun ms=>by rw [Sto.A4 _ _ L.n2.symm]; exact f2
 have g4:∀ ms,(σf.put pa (B2 ms)) a.lg=some (.A5 (Az es)):=fun ms=>by rw [Sto.A4 _ _ np1]; exact f4
 rw [show σf=σf.put pa (B2 ns) from (Sto.Acp f3).symm]
 have H:=G.H
 have ht2:∀ p∈a.A1,p<=2:=fun p hp=>(L.B9 p hp).2
 have Acw:∀ p∈a.A1,p<=10:=fun p hp=>Be7 (ht2 p hp) (by decide)
 have hDl:(An a.A1 T).length=T.length:=by rw [An,Be9]
 have T20:T.length<=20:=Be7 e3 (by decide)
 have h33:3<=a.A1.length:=Bm2 L.h3.symm
 have h3':a.A1.length<=3:=Bm2 L.h3
 refine Fn.room (n:=n + 5) (Anw (n:=n + 4) (a:=a) (T:=T) (g1 _) (g2 _) hDl H.nd (Be7 e3 (by decide)) (fun t ht=>by rw [H.len t ht,hcl]) (by rw [hcl]; exact Be7 Ane (by decide)) (fun t ht=>by have:=Agr (H.val t ht); exact ⟨this.1,by rw [this.2]; decide⟩) (fun k t hk j c x hc hx=>?_) fun nl hnl=>?_) (Bf3 (by decide) n)
 · obtain ⟨cn,hcn⟩:∃ cn,(B6 a.A1)[j]?=some cn:=⟨_,Bf0 (by rw [Ac0,<- hcl]; exact (Bf7.mp hc).1)⟩
   have hcc:c=Ajf cn:=by rw [L.hc,Bf8,hcn] at hc; exact (Bq9 hc).symm
   subst hcc
   have hrd:=Aoh (H.len t (Bf9 hk)) hcn hx
   intro σ' Q' Y' hD' hQ'
   refine Aj2 (n:=n) (vals:=cn) H hD' (Be7 e3 (by decide)) (by rw [L.h3]; decide) hk (by rw [(Acf (Bf9 hcn)).1]) (.inr ?_) (fun e=>by rw [hrd] at e; cases e) (fun y e=>by rw [hrd] at e; cases e; exact hQ')
   rw [Bi5]; rfl
 have nlp':nl≠pa:=(nne (Sto.A0 ..) hnl).symm
 have Ba2:∀ ms,(σf.put pa (B2 ms)) nl=none:=fun ms=>by rw [Sto.A4 _ _ nlp'] at hnl ⊢; exact hnl
 have t1:∀ ms,((σf.put pa (B2 ms)).put nl (.Ad (Ap (T.map .tup)))) wl=some (.A5 a.es):=fun ms=>by rw [Sto.A4 _ _ (nne (g1 ms) (Ba2 ms))]; exact g1 ms
 have t2:∀ ms,((σf.put pa (B2 ms)).put nl (.Ad (Ap (T.map .tup)))) a.dn=some (.list (An a.A1 T)):=fun ms=>by rw [Sto.A4 _ _ (nne (g2 ms) (Ba2 ms))]; exact g2 ms
 have t4:∀ ms,((σf.put pa (B2 ms)).put nl (.Ad (Ap (T.map .tup)))) a.lg=some (.A5 (Az es)):=fun ms=>by rw [Sto.A4 _ _ (nne (g4 ms) (Ba2 ms))]; exact g4 ms
 have t5:∀ ms,((σf.put pa (B2 ms)).put nl (.Ad (Ap (T.map .tup)))) nl=some (.Ad (Ap (T.map .tup))):=fun ms=>Sto.A0 ..
 have t6:∀ ms,((σf.put pa (B2 ms)).put nl (.Ad (Ap (T.map .tup)))) pa=some (B2 ms):=fun ms=>by rw [Sto.A4 _ _ nlp'.symm,Sto.A0]
 have t7:∀ ms ms',((σf.put pa (B2 ms)).put nl (.Ad (Ap (T.map .tup)))).put pa (B2 ms')=(σf.put pa (B2 ms')).put nl (.Ad (Ap (T.map .tup))):=fun ms ms'=>by rw [Sto.Ao _ _ _ nlp',Sto.A9]
 obtain ⟨σp,hσp⟩:∃ σp:List Int->Sto,∀ ms,(σf.put pa (B2 ms)).put nl (.Ad (Ap (T.map .tup)))=σp ms:=⟨_,fun _=>rfl⟩
 simp only [hσp] at t1 t2 t4 t5 t6 t7 ⊢
 have t8:∀ {ms:List Int} ms' acc,σp ms acc=none->σp ms' acc=none:=fun {ms} ms' acc h=>by
   have:=nne (t6 ms) h
   rw [<- t7 ms ms',Sto.A4 _ _ this.symm]; exact h
 refine Bb8 (dF (fun e=>nomatch e) (Aij rfl (Acy (Au T) (fun _=>none) nd rfl (Be7 e4 (by decide)) ?_ fun acc B1 t ht vs K1 K0 h1 h0=>?_)))
 rotate_left
 · have htT:=G.sub t ht
   have nla:=nne (t5 ns) B1
   have hky:=Agr (H.val t htT)
   refine Avl (es:=Ap (T.map .tup)) (by rw [Sto.A4 _ _ nla]; exact t5 ns) (A6 (k:=1) (d:=.tup t) rfl (Ap7 (es:=Ap (T.map .tup)) (by rw [Sto.A4 _ _ nla]; exact t5 ns) hky.1 (by rw [hky.2]; decide) ?_))
   rw [Ab8,if_pos (Bi7 htT),idx_map (f:=V.tup) fun x _ e=>by cases (e); rfl]
   exact A6 (k:=0) (d:=.int (T.idxOf t:Nat)) rfl (Ami (dF (fun h=>h rfl) (h0 _ rfl (Sub.refl _))))
 rw [show nd.filterMap (fun _=>(none:Option V))=[] from Bq3.mpr fun _ _=>rfl]
 refine .inr (Afs (.val _) (.val _) (nF rfl ?_) rfl rfl Aj5)
 have Bbz:∀ e∈es,e∈Aet:=fun e he=>Aka.subset (Bh9 _ he)
 have hnn:(es.map (·.name)).Nodup:=by
   have:=(Aka.map (·.name)).nodup_iff.mpr Ai4
   rw [Bg1,Bm5] at this
   exact this.2.1
 have N:Aia a.names a.A1 (Az es) (fun v=>((es[v]?).map (·.name)).getD "") (fun v=>((es[v]?).map (·.nums)).getD []):=by
   rw [hna,hta]; exact Ax1 h3 hnn Bbz
 have Aw9:∀ x∈a.names,∃ e∈Aet,e.name=x:=fun x hx=>by
   rw [hna] at hx
   obtain ⟨e,he,rfl⟩:=Bh1.mp hx
   exact ⟨e,Bbz e he,rfl⟩
 obtain ⟨nd',t,rfl⟩:∃ nd' t,nd=nd' ++ [t]:=by
   obtain ⟨u,hu,_⟩:=G.lf
   exact snoc (C:=fun nd=>u∈nd->∃ nd' t,nd=nd' ++ [t]) (fun h=>absurd h Bj1) (fun l x _=>⟨l,x,rfl⟩) nd hu
 have htT:=G.sub t (Bh9 _ (.head _))
 have htl:=H.len t htT
 have Azc:0 < (nd' ++ [t]).length:=by rw [Bf1]; exact Bp9 _
 have Aon:((nd' ++ [t]).map (Au T)).length<=100000:=by rw [Be9]; exact Be7 e4 (by decide)
 refine Aac (k:=4) rfl ?_ (by decide)
 refine Ajz (u:=0) (α:=List Int) σp (fun _=>[("pen",.loc pa),("world",.loc wl),("nodes",.lst ((nd' ++ [t]).map (Au T))),("numbers",.loc nl)]) (fun _ ms=>ms.length<=66) ns rfl hns (Sub.refl _) rfl ?_ ?_
 rotate_left
 · clear hns
   rintro _ ns K _ hK hns
   refine Ax9 rfl rfl rfl (Ac (t1 ns) rfl ?_)
   refine Arj σp a.A1 (fun n:Nat=>V.int (n:Int)) (fun p x=>∃ r:Nat,r < p + 3/\x=.int (r:Int)) rfl hns (by rw [L.h3]; decide) (fun ms acc h=>t8 ms acc h) (fun vs ns2 hvs Aui=>?_) fun acc B1 p hp vs ms K hms hK=>?_
   rotate_left
   · have hacc':=nne (t6 _) B1
     refine Fn.room (n:=n + 1) (Ab0 (n:=n) (k:=p + 3) (by rw [Sto.A4 _ _ hacc']; exact t6 ms) hms (Bp9 _) fun k1 ms1 hk1 Aw0=>?_) r1
     rw [Sto.Ao _ _ _ hacc'.symm,t7]
     exact hK _ _ ⟨k1,hk1,rfl⟩ Aw0
   obtain ⟨ys,hy1,rfl,hy2⟩:=Ana (fun _ (r:Nat)=>V.int (r:Int)) (fun p r=>r < p + 3) hvs (fun x hx v qB=>by obtain ⟨r,hr,e⟩:=qB; exact ⟨r,e,hr⟩)
   have hvl:(ys.map (·.2)).length=a.A1.length:=by rw [Be9,<- hy1,Be9]
   have hvb:∀ x∈ys.map (·.2),x<=100:=fun x hx=>by
     obtain ⟨p,hp,rfl⟩:=Bh1.mp hx
     have h2:p.1∈a.A1:=by rw [<- hy1]; exact Bi7 hp
     exact Be7 (Bk4 (hy2 p hp)) (Be7 (Bi3 (ht2 _ h2) 3) (by decide))
   rw [show ys.map (fun p=>V.int (p.2:Int))=tupI (ys.map (·.2)) by unfold tupI; rw [Bi5]; rfl]
   revert hvl hvb; with_reducible refine gz (ys.map fun x:Nat × Nat=>x.2) fun vals hvl hvb=>?_
   have hvv:V.lst (tupI vals)=.lst ((vals.map fun x:Nat=>(x:Int)).map .int):=by unfold tupI; rw [Bi5]; rfl
   have T1000:T.length<=1000:=Be7 e3 (by decide)
   have t100:a.A1.length<=100:=by rw [L.h3]; decide
   refine Acd (d:=.tup [.int (T.idxOf t:Nat),.tup t]) (.val _) (getL _) (Fn.room (n:=n + 7) (Awp (n:=n + 4) (a:=a) (t1 ns2) Acw htl (by rw [htl]; exact Be7 Ane (by decide)) (fun x hx=>(H.val t htT x hx).flat) t100 hvl hvb (fun e Q' hQ'=>?_) (fun x e Q' Y' hQ'=>?_) (.mk _ (.bool _) (hK ns2 _ _ Aui (Sub.refl _) rfl))) (Bf3 (by decide) n))
   · exact Aj2 (n:=n) (vals:=vals) H (t2 ns2) T1000 t100 (Acb htT) hvl (.inl (by rw [hvv]; exact .val _)) (fun _=>hQ') (fun x e'=>by rw [e] at e'; cases e')
   · exact Fn.room (Aj2 (n:=n) (vals:=vals) H (t2 ns2) T1000 t100 (Acb htT) hvl (.inl (by rw [hvv]; exact .val _)) (fun e'=>by rw [e] at e'; cases e') (fun y e'=>by rw [e] at e'; cases e'; exact hQ')) (by lia)
 clear hns
 intro ns hns
 refine .go (Aac (k:=2) rfl ?_ (by decide))
 refine Ajz (u:=0) (α:=List Int) σp (fun _=>[("pen",.loc pa),("world",.loc wl),("nodes",.lst ((nd' ++ [t]).map (Au T))),("numbers",.loc nl)]) (fun _ ms=>ms.length<=66) ns rfl hns (Sub.refl _) rfl ?_ ?_
 rotate_left
 · clear hns
   rintro _ ns K _ hK hns
   have getN:∀ r,r < (nd' ++ [t]).length->∃ u,(nd' ++ [t])[r]?=some u/\u∈T:=fun r hr=>⟨(nd' ++ [t])[r],Bf0 hr,G.sub _ (Bl6 hr)⟩
   refine Aa1 (ds:=(nd' ++ [t]).map (Au T)) (.val _) Aon ?_
   rw [Be9]
   refine Fn.room (n:=n + 1) (Ab0 (n:=n) (k:=(nd' ++ [t]).length) (t6 _) hns Azc fun k1 ns1 hk1 Aro=>?_) r1
   rw [t7]
   obtain ⟨ty,hy1,hy2⟩:=getN k1 hk1
   refine Ab (k:=k1) (.val _) (by rw [Bf8,hy1]; rfl) (Aa1 (ds:=(nd' ++ [t]).map (Au T)) (.val _) Aon ?_) (Bh0 hk1 (Be7 e4 (by decide)))
   rw [Be9]
   refine Fn.room (n:=n + 1) (Ab0 (n:=n) (k:=(nd' ++ [t]).length) (t6 _) Aro Azc fun k2 ns2 hk2 Aui=>?_) r1
   rw [t7]
   obtain ⟨tk,hk1',hk2'⟩:=getN k2 hk2
   refine Ab (k:=k2) (.val _) (by rw [Bf8,hk1']; rfl) ?_ (Bh0 hk2 (Be7 e4 (by decide)))
   exact Fn.room (n:=n + 6) (Ao5 (n:=n) (a:=a) H (t1 _) (t2 _) (t5 _) L.h3 Acw (Be7 Ane (by decide)) hcl (Be7 e3 (by decide)) (Acb hy2) (Acb hk2') (.mk _ (.bool _) (hK ns2 _ _ Aui (Sub.refl _) rfl))) (Bf3 (by decide) n)
 clear hns
 intro ns hns
 have e5:nd'.length<=20:=by rw [Bf1] at e4; exact Be7 (Bl7 e4) (by decide)
 refine .go (Fn.room (n:=n + 9) (At5 (n:=n) (a:=a) (nd:=nd') H L.h3 ht2 (t1 _) (t5 _) (t4 _) (t2 _) N Ane hcl (Be7 e3 (by decide)) e5 (fun u hu=>G.sub u (Bi0 _ hu)) htT (fun x hx=>?_) (by rw [hna]; exact hnn) (by rw [hna,Be9,h3]; decide) (fun x hx=>?_) (fun x hx=>?_) (hR rfl)) (Bf3 (by decide) n))
 · obtain ⟨e,he,rfl⟩:=Aw9 x hx; exact Ax8 he
 · obtain ⟨e,he,rfl⟩:=Aw9 x hx; exact (Af4 e he).2.2.2.2.2.1
 · obtain ⟨e,he,rfl⟩:=Aw9 x hx; exact (Af4 e he).2.2.2.2.2.2
end
theorem Ate {g:Heap} {vs:List Value} {ns:List Int} (h:IntsAre vs ns):VRs g vs (ns.map .int):=by
 induction h with
 | nil=>exact .nil
 | cons i t _ ih=>exact .cons (.int i t) ih
end Mine.Internal
open Mine.Internal
set_option tactic.hygienic true in
set_option maxRecDepth 100000 in
set_option maxHeartbeats 8000000 in
theorem PySem.Challenge.cw_pq1083_01_holds : PySem.Challenge.rw_pq1083_01.Holds :=
 hd (by
 k_fill
 intro w s₀ s₁ mg mb G Y fa o pm cd doc dV kV ho hd hcd hD hmg hg args vals as Bd0 Bcx hrd hwl hlo
 have KX := kIn_of Y
 have Bcq : fa = 399 := by
  have := mg_of (n := "law") (v := .ref 399) KX G.T.g (by kernel_rfl)
  have e2 : mg "law" = some (.ref fa) := hmg
  rw [this] at e2; cases e2; rfl
 subst Bcq
 clear hd hcd hD hmg ho
 wrow_args Bd0 Bcx hrd hwl hlo
 rename_i xs hs Bbf hL1 hr1 hl2 w4 w3 l vs w0 hL ra w1 r0 hI hr Bdf hT
 clear hs Bbf hL1 hr1 hl2 w1 r0 hr ra
 have hlen : xs.length <= 63 := by omega
 have R : RepC (PM w) ⟨s₁.heap, s₁.heap, s₁.gens, s₁.drawn, s₁.os⟩ s₁.heap callerA [] (fun _ => none) s₁ :=
  ⟨⟨KX, ⟨mb, G.T.b, G.T.builtins⟩, G.T.nolimit, G.T.nodigits⟩, rfl, trivial, Keeps.refl _, A2 _, A2 _, fun a h1 h2 => absurd h2 h1, (by intro a x e; cases e), rfl, rfl, ⟨rfl, by intro a x e; cases e⟩⟩
 have hv : VRs s₁.heap [Value.ref l] [V.lst (xs.map .int)] := by
  obtain ⟨ol, hol, hcl, nl, hdl⟩ := hL
  exact .one (.lst hol hcl hdl (Ate hI))
 have Bbv : Bg callerA 12 := ⟨by decide +kernel, by decide +kernel, rfl⟩
 refine Ci8 (Bp4 (Ayy (w := w) (n := 0) (σ := fun _ => none) (Y := fun _ _ => False) hlen callerA [] _ s₁.heap s₁ _ R hv Bbv) fun r s' q => ?_)
 cases r with
 | error e => obtain ⟨_, _, _, _, _, _, _, _, f⟩ := q; exact f.elim
 | ok f =>
  cases f with
  | ret v =>
   obtain ⟨g', σ', d, q1, q2, q3, q4⟩ := q
   subst q4
   cases q3
   refine ⟨.inl ⟨_, .bool true, [], rfl, fun _ => rfl, ?_, ?_, ?_⟩, OldK.of_keep (A3 q1 q2.fz), q2.os.1, ?_⟩
   · exact .bool true
   · wrow_post
   · exact fun _ => ⟨.nil, fun a ha => by cases ha⟩
   · rw [q2.gens]
     show AllBare s₁.gens
     rw [hg]
     intro y hy
     simp at hy
  | _ => exact q.elim)