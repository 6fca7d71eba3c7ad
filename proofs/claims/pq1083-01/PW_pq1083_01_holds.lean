import PyProof.Rows.All
import Wide.All
import OpenK.AllK
import Wide.FinOn
import Lean
import PySem.Challenge.RW_pq1083_01
open Array renaming length_toList → Bg5, getElem?_toList → Bj0, any_toList → Ce3, toList_append → Ci1
open Bool renaming and_eq_true → Bg1, false_ne_true → Bg6, not_eq_true' → Bm8, false_eq_true → Bp7, or_eq_true → Bv6, eq_iff_iff → Bv7, and_eq_true_iff → Bw7, or_false → Ce2, and_true → Cj7, not_eq_true → Cm0, false_and → Co6, or_assoc → Cp6
open Exists renaming elim → Bg3
open Function renaming comp → Bt2
open Int renaming natCast_nonneg → Bk0, ofNat_le → Bk9, ofNat_lt → Bn2, lt_of_lt_of_le → Bo0, le_trans → Bo8, not_lt → Bs6, le_add_of_nonneg_right → Bw6, not_le → Bx9, eq_ofNat_of_zero_le → By6, toNat_natCast → Bz7, lt_of_le_of_lt → Cc6, lt_irrefl → Ck0, add_sub_cancel → Ck1, lt_trans → Cl8, le_of_lt → Cl9, le_antisymm → Cn8, neg_le_neg → Cp3
open Int.ofNat renaming inj → Bs1
open List renaming length_map → Bf0, getElem?_eq_getElem → Bf1, length_append → Bf2, mem_singleton → Bf7, getElem?_eq_some_iff → Bf8, getElem?_map → Bf9, mem_of_getElem? → Bg0, map_append → Bg2, replicate → Bg8, map_cons → Bh1, mem_map → Bh3, length_cons → Bh5, append_nil → Bh6, mem_append → Bh9, mem_cons → Bi0, range → Bi1, mem_append_right → Bi2, mem_append_left → Bi3, map_map → Bi7, mem_map_of_mem → Bi8, append_assoc → Bj1, not_mem_nil → Bj2, drop_eq_getElem_cons → Bj3, map_congr_left → Bj6, all_eq_true → Bj8, getD_eq_getElem?_getD → Bj9, idxOf_lt_length_of_mem → Bk2, find?_cons → Bk3, mem_range → Bk7, length_range → Bl0, length_nil → Bl2, getElem_mem → Bl7, nodup_append → Bm6, flatten_cons → Bm7, replicate_succ → Bn3, lookup_cons → Bn4, length_take → Bn5, eq_of_mem_replicate → Bo1, length_singleton → Bo4, drop_zero → Bo9, length_drop → Bp0, size_toArray → Bp2, length → Bp6, filterMap_cons → Bq4, filterMap_eq_nil_iff → Bq5, map_nil → Bq6, headD_cons → Bq7, length_eq_zero_iff → Br3, idxOf_append → Br8, nodup_cons → Br9, cons_ne_nil → Bs4, dropLast_concat → Bt0, flatMap_cons → Bt1, mem_flatten → Bt8, ext_getElem → Bt9, take_of_length_le → Bu2, toArray → Bu9, length_replicate → Bv0, foldl_cons → Bv1, eq_nil_or_concat → Bv2, concat_eq_append → Bv3, getLast?_map → Bv9, all_cons → Bw0, getElem?_append_right → Bw4, pairwise_append → Bw5, getElem?_append_left → Bw8, cons_append → Bx2, any_eq_true → Bx3, drop_succ_cons → Bx5, mem_filterMap → By1, getElem?_replicate → By2, find?_eq_none → By3, range_succ_eq_map → By9, length_eq_one_iff → Bz0, replicate_append_replicate → Bz1, any_eq_false → Bz3, map → Bz6, drop_length → Ca0, mem_of_mem_drop → Ca5, getLast?_concat → Ca6, foldl → Cb1, nil_append → Cb3, idxOf_cons → Cb4, exists_cons_of_ne_nil → Cc0, mem_of_find?_eq_some → Cc4, drop_drop → Cc5, take_add_one → Cd3, reverse_cons → Cd4, getLast?_singleton → Ce0, any_cons → Ce1, take_length → Ce6, mem_reverse → Ce7, mem_flatMap → Ce8, flatMap_def → Ce9, drop_eq_nil_of_le → Cf5, sum_append → Cg1, mem_filter → Cg2, forIn_cons → Cg3, eq_replicate_iff → Cg4, drop → Cg5, mem_of_mem_take → Ch4, length_dropLast → Ch5, getLast?_append → Ch6, foldl_nil → Ch8, map_eq_nil_iff → Ci3, length_reverse → Ci4, getElem?_range → Ci5, sum_cons → Cj1, pairwise_cons → Cj2, map_replicate → Cj3, length_zipIdx → Cj4, getElem_range → Cj5, getElem_idxOf → Cj6, any_nil → Ck9, any_map → Cl0, map_snd_zip → Cl4, getElem_map → Cl5, flatten_nil → Cl6, filter_cons → Cl7, map_id → Cn2, any_append → Cn3, tail_cons → Co1, nodup_nil → Co2, forIn_nil → Co3, find?_map → Co4, drop_take → Co5, idxOf → Cp2
open List.Perm renaming refl → Cl1
open List.cons renaming injEq → Bn1
open Nat renaming le_trans → Be8, add_le_add_left → Bf4, succ_le_succ → Bg4, lt_of_le_of_lt → Bg7, le_add_right → Bg9, lt_of_lt_of_le → Bh0, zero_le → Bh2, add_right_comm → Bh4, le_refl → Bh7, le_of_ble_eq_true → Bh8, add_le_add_right → Bi6, lt_trans → Bj4, mul_div_cancel_left → Bj7, le_succ_of_le → Bk1, le_of_lt → Bk5, zero_add → Bk8, le_of_succ_le → Bl8, ne_of_lt → Bl9, add_comm → Bm0, add_sub_cancel' → Bm1, le_of_eq → Bm3, min_le_right → Bm4, le_of_not_lt → Bm5, le_succ → Bm9, add_le_add → Bo5, mul_le_mul_left → Bp1, lt_succ_of_le → Bp3, le_add_left → Bq0, succ_pos → Bq1, ne_of_gt → Bq2, min_le_left → Bq9, lt_succ_self → Br2, add_assoc → Br6, mul_comm → Br7, min_eq_left → Bs0, lt_succ_of_lt → Bt5, mul_succ → Bt6, lt_of_le_of_ne → Bu6, le_of_lt_succ → Bw3, succ_mul → Bx7, sub_le → Bx8, pos_of_ne_zero → By4, lt_add_of_pos_right → By5, pow_le_pow_right → Ca8, le_of_dvd → Cb0, max_le → Cd6, lt_of_succ_lt → Cd7, mul_assoc → Ce5, min_eq_right → Cf3, le_of_not_le → Cf4, succ_sub → Ch0, pos_of_dvd_of_pos → Ch1, sub_le_sub_right → Ch7, mul_le_mul → Ci2, sub_sub → Ci8, succ_min_succ → Ck7, not_lt → Ck8, pow_succ → Cl3, one_le_of_lt → Cm8, lt_of_not_le → Cm9, not_lt_zero → Cn5, le_antisymm → Cn6, div_pos → Cn7
open Nat.succ renaming inj → Ca9
open Ne renaming symm → Bq3
open Option renaming map_some → Bl6, getD_some → Bm2, map_eq_some_iff → Bn7, bind_eq_some_iff → Bx6, getD_none → Bz8, some_or → Cn1
open Option.some renaming inj → Br1, injEq → Bs3
open Prod renaming fst → Cp5
open Prod.mk renaming injEq → Bu8
open PyProof.Rows renaming seqObj → Bx4, slot_tuple_getitem → Cd8, tail_any → Cm3, get?_update_seq → Cq1
open PySem renaming wpAny_bind → Be9, wpAny_mono → Bf3, wpAny_pure → Bf6, Builtin → Bi9, starEach → Bk6, wpAny_holding → Bl1, mainGlobals → Bl4, letOwnedTupleGo → Bl5, sizeLine_eq → Bn6, wpAny_newObj_type → Bn9, wpAny_standAt → Bo3, foldedSetIterable → Bo7, wpAny_loadPart_at → Bp4, codeAny_mono → Bp5, behindInMarks → Br0, wpAny_call_entry → Br4, wpAny_truthy_bool → Bs2, bootBuiltins → Bs9, wpAny_field → Bt3, wpAny_isSubtype_exc → Bu3, wpAny_callSpecial?_slot → Bu4, slot_dict_contains → Bv8, wpAny_Call_ofName → Bx0, call_meets → Bx1, backTo → By7, wpAny_ite_false → Bz4, plainObj_wpAny_Assign_Attribute → Ca3, assignEach → Ca4, wpAny_loadPart → Ca7, wpAny_execs_cons → Cb6, standAt → Cb7, codeAny → Cb8, concat_meets → Cb9, wpAny_Name → Cc2, wpAny_specialOf → Cc8, swapsWith → Cc9, codeAny_of_tree → Cd0, cellsFrom → Cd1, wpAny_setField → Ce4, wpAny_pyIter_enum → Cf6, reduceHash → Cf7, cameBackBy → Cf8, builtinsNs → Cf9, wpAny_of_eq → Cg8, wpAny_updatePart → Ch2, wpAny_askSetting → Ch3, wpAny_call → Ci9, sysModules → Cj0, codeAny_call_builtin → Cj8, wpAny_seqItems → Ck2, refuseLoop_ref → Ck3, keywordEach → Ck4, excClassObj → Ck5, evalEachOpt → Ck6, wpAny_pyIter_range → Cm1, wpAny_Constant_int → Cm2, swappedStores → Cm4, noteFrame → Cm5, eqIsQuiet → Cm6, slot_list_getitem → Cn4, wpAny_mkText → Cn9, rawInt → Co0, wpAny_items_cons → Co7, noFill_tuple_add → Co8, checkBuiltinCall → Co9, beq_builtin_none → Cp0, wpAny_execs_nil → Cp7, theTreesLotGoes → Cp8, seqIndex? → Cp9, pushCells → Cq0
open PySem.Around renaming frames_deeper → Cg7
open PySem.Builtin.List renaming listFitsIndex → Bu1
open PySem.Builtin.ObjectAttr renaming storeInOwnDict → Bu7
open PySem.Builtin.Range renaming rangeSize → Cb2
open PySem.Builtin.Slice renaming slicePlaces → Bu5, sliceAdjust → Bz9
open PySem.Builtin.SmallTypes renaming nextOf → Bt7
open PySem.Builtin.Str renaming occurrences → Bo2, partsBetween → Bs5, strKind → Bs8
open PySem.Builtin.Tuple renaming tupleHashOf → Bo6, tupleExact → Bv5
open PySem.Calls renaming evalArgs_plain → Ca2, callWith_builtin → Cf2
open PySem.Challenge renaming rw_pq1083_01 → Bn0
open PySem.DictEntry renaming refKey → Cc7
open PySem.Env renaming kindOf → By0
open PySem.F renaming excBase_Exception → Bw2, slot_tuple_iterator_next → Bw9, args_tuple_add_2 → Cc1, entry_tuple_add → Cd2, slot_tuple_add → Cd5, slot_tuple_hash → Cf0, plainAttrs_list → Cf1, slot_tuple_mul → Cg6, slot_int_rmul → Ch9, slot_dict_get → Ci0, plainAttrs_dict → Cn0, slot_list_pop → Cp4
open PySem.Heap renaming get?_push_size → Bi4, get?_push_of_some → Bi5, get?_update_other → Bj5, get?_update_self → Bk4, lt_size → Bl3, get?_none_of_le → Bn8, SameBut → Bq8, size_push → Bu0, get?_push_ne → Bw1, size_update → Ca1, get?_update_ne → Cb5
open PySem.Heap.SameBut renaming update → Bv4
open PySem.IsRange renaming new → Cq2
open PySem.Obj renaming putNameByArray → Bp8, putName → Bp9, mapFields → Br5, putName_eq → Bs7, mapSeq → Bt4, data_mapFields → Cc3, isFreed_of_fields → Cg9, dropName → Cl2
open PySem.SeqAt renaming EqAt → By8, RcNeAt → Cg0, RcAt → Cj9
open PySem.Str renaming ofString → Bf5
open PySem.Value renaming isStrOf → Ci7
open PySem.W renaming kas_sort → Bz5, looks_findIn → Cd9, boot_heap → Ci6, lookIn → Cm7
open PySem.W.Looks renaming of_pure → Cp1
open PySem PySem.W PyProof.Rows
set_option Elab.async false
set_option maxRecDepth 100000
set_option maxHeartbeats 4000000
set_option linter.all false
set_option tactic.hygienic false
set_option backward.match.sparseCases false
set_option compiler.extract_closed false
set_option bootstrap.genMatcherCode false
set_option genSizeOf false
namespace Mine.Internal
universe u0 u1 u2 u3 u4 u5 u6 u7
theorem El02 {p0 p1 C:Prop} (h:p0/\p1) (f:p0->p1->C):C:=f  h.1 h.2
theorem El11 {α0:Sort u0} {p0:α0->Prop} {C:Prop} (h:∃ x0,p0 x0) (f:∀ x0,p0 x0->C):C:=Bg3 h fun x0 h=>f x0 h
theorem El03 {p0 p1 p2 C:Prop} (h:p0/\p1/\p2) (f:p0->p1->p2->C):C:=f  h.1 h.2.1 h.2.2
theorem El12 {α0:Sort u0} {p0 p1:α0->Prop} {C:Prop} (h:∃ x0,p0 x0/\p1 x0) (f:∀ x0,p0 x0->p1 x0->C):C:=Bg3 h fun x0 h=>f x0 h.1 h.2
theorem El21 {α0:Sort u0} {α1:Sort u1} {p0:α0->α1->Prop} {C:Prop} (h:∃ x0 x1,p0 x0 x1) (f:∀ x0 x1,p0 x0 x1->C):C:=Bg3 h fun x0 h=>Bg3 h fun x1 h=>f x0 x1 h
theorem El04 {p0 p1 p2 p3 C:Prop} (h:p0/\p1/\p2/\p3) (f:p0->p1->p2->p3->C):C:=f  h.1 h.2.1 h.2.2.1 h.2.2.2
theorem El13 {α0:Sort u0} {p0 p1 p2:α0->Prop} {C:Prop} (h:∃ x0,p0 x0/\p1 x0/\p2 x0) (f:∀ x0,p0 x0->p1 x0->p2 x0->C):C:=Bg3 h fun x0 h=>f x0 h.1 h.2.1 h.2.2
theorem El22 {α0:Sort u0} {α1:Sort u1} {p0 p1:α0->α1->Prop} {C:Prop} (h:∃ x0 x1,p0 x0 x1/\p1 x0 x1) (f:∀ x0 x1,p0 x0 x1->p1 x0 x1->C):C:=Bg3 h fun x0 h=>Bg3 h fun x1 h=>f x0 x1 h.1 h.2
theorem El31 {α0:Sort u0} {α1:Sort u1} {α2:Sort u2} {p0:α0->α1->α2->Prop} {C:Prop} (h:∃ x0 x1 x2,p0 x0 x1 x2) (f:∀ x0 x1 x2,p0 x0 x1 x2->C):C:=Bg3 h fun x0 h=>Bg3 h fun x1 h=>Bg3 h fun x2 h=>f x0 x1 x2 h
theorem El05 {p0 p1 p2 p3 p4 C:Prop} (h:p0/\p1/\p2/\p3/\p4) (f:p0->p1->p2->p3->p4->C):C:=f  h.1 h.2.1 h.2.2.1 h.2.2.2.1 h.2.2.2.2
theorem El14 {α0:Sort u0} {p0 p1 p2 p3:α0->Prop} {C:Prop} (h:∃ x0,p0 x0/\p1 x0/\p2 x0/\p3 x0) (f:∀ x0,p0 x0->p1 x0->p2 x0->p3 x0->C):C:=Bg3 h fun x0 h=>f x0 h.1 h.2.1 h.2.2.1 h.2.2.2
theorem El23 {α0:Sort u0} {α1:Sort u1} {p0 p1 p2:α0->α1->Prop} {C:Prop} (h:∃ x0 x1,p0 x0 x1/\p1 x0 x1/\p2 x0 x1) (f:∀ x0 x1,p0 x0 x1->p1 x0 x1->p2 x0 x1->C):C:=Bg3 h fun x0 h=>Bg3 h fun x1 h=>f x0 x1 h.1 h.2.1 h.2.2
theorem El32 {α0:Sort u0} {α1:Sort u1} {α2:Sort u2} {p0 p1:α0->α1->α2->Prop} {C:Prop} (h:∃ x0 x1 x2,p0 x0 x1 x2/\p1 x0 x1 x2) (f:∀ x0 x1 x2,p0 x0 x1 x2->p1 x0 x1 x2->C):C:=Bg3 h fun x0 h=>Bg3 h fun x1 h=>Bg3 h fun x2 h=>f x0 x1 x2 h.1 h.2
theorem El41 {α0:Sort u0} {α1:Sort u1} {α2:Sort u2} {α3:Sort u3} {p0:α0->α1->α2->α3->Prop} {C:Prop} (h:∃ x0 x1 x2 x3,p0 x0 x1 x2 x3) (f:∀ x0 x1 x2 x3,p0 x0 x1 x2 x3->C):C:=Bg3 h fun x0 h=>Bg3 h fun x1 h=>Bg3 h fun x2 h=>Bg3 h fun x3 h=>f x0 x1 x2 x3 h
theorem El06 {p0 p1 p2 p3 p4 p5 C:Prop} (h:p0/\p1/\p2/\p3/\p4/\p5) (f:p0->p1->p2->p3->p4->p5->C):C:=f  h.1 h.2.1 h.2.2.1 h.2.2.2.1 h.2.2.2.2.1 h.2.2.2.2.2
theorem El15 {α0:Sort u0} {p0 p1 p2 p3 p4:α0->Prop} {C:Prop} (h:∃ x0,p0 x0/\p1 x0/\p2 x0/\p3 x0/\p4 x0) (f:∀ x0,p0 x0->p1 x0->p2 x0->p3 x0->p4 x0->C):C:=Bg3 h fun x0 h=>f x0 h.1 h.2.1 h.2.2.1 h.2.2.2.1 h.2.2.2.2
theorem El24 {α0:Sort u0} {α1:Sort u1} {p0 p1 p2 p3:α0->α1->Prop} {C:Prop} (h:∃ x0 x1,p0 x0 x1/\p1 x0 x1/\p2 x0 x1/\p3 x0 x1) (f:∀ x0 x1,p0 x0 x1->p1 x0 x1->p2 x0 x1->p3 x0 x1->C):C:=Bg3 h fun x0 h=>Bg3 h fun x1 h=>f x0 x1 h.1 h.2.1 h.2.2.1 h.2.2.2
theorem El33 {α0:Sort u0} {α1:Sort u1} {α2:Sort u2} {p0 p1 p2:α0->α1->α2->Prop} {C:Prop} (h:∃ x0 x1 x2,p0 x0 x1 x2/\p1 x0 x1 x2/\p2 x0 x1 x2) (f:∀ x0 x1 x2,p0 x0 x1 x2->p1 x0 x1 x2->p2 x0 x1 x2->C):C:=Bg3 h fun x0 h=>Bg3 h fun x1 h=>Bg3 h fun x2 h=>f x0 x1 x2 h.1 h.2.1 h.2.2
theorem El42 {α0:Sort u0} {α1:Sort u1} {α2:Sort u2} {α3:Sort u3} {p0 p1:α0->α1->α2->α3->Prop} {C:Prop} (h:∃ x0 x1 x2 x3,p0 x0 x1 x2 x3/\p1 x0 x1 x2 x3) (f:∀ x0 x1 x2 x3,p0 x0 x1 x2 x3->p1 x0 x1 x2 x3->C):C:=Bg3 h fun x0 h=>Bg3 h fun x1 h=>Bg3 h fun x2 h=>Bg3 h fun x3 h=>f x0 x1 x2 x3 h.1 h.2
theorem El51 {α0:Sort u0} {α1:Sort u1} {α2:Sort u2} {α3:Sort u3} {α4:Sort u4} {p0:α0->α1->α2->α3->α4->Prop} {C:Prop} (h:∃ x0 x1 x2 x3 x4,p0 x0 x1 x2 x3 x4) (f:∀ x0 x1 x2 x3 x4,p0 x0 x1 x2 x3 x4->C):C:=Bg3 h fun x0 h=>Bg3 h fun x1 h=>Bg3 h fun x2 h=>Bg3 h fun x3 h=>Bg3 h fun x4 h=>f x0 x1 x2 x3 x4 h
theorem El07 {p0 p1 p2 p3 p4 p5 p6 C:Prop} (h:p0/\p1/\p2/\p3/\p4/\p5/\p6) (f:p0->p1->p2->p3->p4->p5->p6->C):C:=f  h.1 h.2.1 h.2.2.1 h.2.2.2.1 h.2.2.2.2.1 h.2.2.2.2.2.1 h.2.2.2.2.2.2
theorem El16 {α0:Sort u0} {p0 p1 p2 p3 p4 p5:α0->Prop} {C:Prop} (h:∃ x0,p0 x0/\p1 x0/\p2 x0/\p3 x0/\p4 x0/\p5 x0) (f:∀ x0,p0 x0->p1 x0->p2 x0->p3 x0->p4 x0->p5 x0->C):C:=Bg3 h fun x0 h=>f x0 h.1 h.2.1 h.2.2.1 h.2.2.2.1 h.2.2.2.2.1 h.2.2.2.2.2
theorem El25 {α0:Sort u0} {α1:Sort u1} {p0 p1 p2 p3 p4:α0->α1->Prop} {C:Prop} (h:∃ x0 x1,p0 x0 x1/\p1 x0 x1/\p2 x0 x1/\p3 x0 x1/\p4 x0 x1) (f:∀ x0 x1,p0 x0 x1->p1 x0 x1->p2 x0 x1->p3 x0 x1->p4 x0 x1->C):C:=Bg3 h fun x0 h=>Bg3 h fun x1 h=>f x0 x1 h.1 h.2.1 h.2.2.1 h.2.2.2.1 h.2.2.2.2
theorem El34 {α0:Sort u0} {α1:Sort u1} {α2:Sort u2} {p0 p1 p2 p3:α0->α1->α2->Prop} {C:Prop} (h:∃ x0 x1 x2,p0 x0 x1 x2/\p1 x0 x1 x2/\p2 x0 x1 x2/\p3 x0 x1 x2) (f:∀ x0 x1 x2,p0 x0 x1 x2->p1 x0 x1 x2->p2 x0 x1 x2->p3 x0 x1 x2->C):C:=Bg3 h fun x0 h=>Bg3 h fun x1 h=>Bg3 h fun x2 h=>f x0 x1 x2 h.1 h.2.1 h.2.2.1 h.2.2.2
theorem El43 {α0:Sort u0} {α1:Sort u1} {α2:Sort u2} {α3:Sort u3} {p0 p1 p2:α0->α1->α2->α3->Prop} {C:Prop} (h:∃ x0 x1 x2 x3,p0 x0 x1 x2 x3/\p1 x0 x1 x2 x3/\p2 x0 x1 x2 x3) (f:∀ x0 x1 x2 x3,p0 x0 x1 x2 x3->p1 x0 x1 x2 x3->p2 x0 x1 x2 x3->C):C:=Bg3 h fun x0 h=>Bg3 h fun x1 h=>Bg3 h fun x2 h=>Bg3 h fun x3 h=>f x0 x1 x2 x3 h.1 h.2.1 h.2.2
theorem El52 {α0:Sort u0} {α1:Sort u1} {α2:Sort u2} {α3:Sort u3} {α4:Sort u4} {p0 p1:α0->α1->α2->α3->α4->Prop} {C:Prop} (h:∃ x0 x1 x2 x3 x4,p0 x0 x1 x2 x3 x4/\p1 x0 x1 x2 x3 x4) (f:∀ x0 x1 x2 x3 x4,p0 x0 x1 x2 x3 x4->p1 x0 x1 x2 x3 x4->C):C:=Bg3 h fun x0 h=>Bg3 h fun x1 h=>Bg3 h fun x2 h=>Bg3 h fun x3 h=>Bg3 h fun x4 h=>f x0 x1 x2 x3 x4 h.1 h.2
theorem El61 {α0:Sort u0} {α1:Sort u1} {α2:Sort u2} {α3:Sort u3} {α4:Sort u4} {α5:Sort u5} {p0:α0->α1->α2->α3->α4->α5->Prop} {C:Prop} (h:∃ x0 x1 x2 x3 x4 x5,p0 x0 x1 x2 x3 x4 x5) (f:∀ x0 x1 x2 x3 x4 x5,p0 x0 x1 x2 x3 x4 x5->C):C:=Bg3 h fun x0 h=>Bg3 h fun x1 h=>Bg3 h fun x2 h=>Bg3 h fun x3 h=>Bg3 h fun x4 h=>Bg3 h fun x5 h=>f x0 x1 x2 x3 x4 x5 h
theorem El08 {p0 p1 p2 p3 p4 p5 p6 p7 C:Prop} (h:p0/\p1/\p2/\p3/\p4/\p5/\p6/\p7) (f:p0->p1->p2->p3->p4->p5->p6->p7->C):C:=f  h.1 h.2.1 h.2.2.1 h.2.2.2.1 h.2.2.2.2.1 h.2.2.2.2.2.1 h.2.2.2.2.2.2.1 h.2.2.2.2.2.2.2
theorem El17 {α0:Sort u0} {p0 p1 p2 p3 p4 p5 p6:α0->Prop} {C:Prop} (h:∃ x0,p0 x0/\p1 x0/\p2 x0/\p3 x0/\p4 x0/\p5 x0/\p6 x0) (f:∀ x0,p0 x0->p1 x0->p2 x0->p3 x0->p4 x0->p5 x0->p6 x0->C):C:=Bg3 h fun x0 h=>f x0 h.1 h.2.1 h.2.2.1 h.2.2.2.1 h.2.2.2.2.1 h.2.2.2.2.2.1 h.2.2.2.2.2.2
theorem El26 {α0:Sort u0} {α1:Sort u1} {p0 p1 p2 p3 p4 p5:α0->α1->Prop} {C:Prop} (h:∃ x0 x1,p0 x0 x1/\p1 x0 x1/\p2 x0 x1/\p3 x0 x1/\p4 x0 x1/\p5 x0 x1) (f:∀ x0 x1,p0 x0 x1->p1 x0 x1->p2 x0 x1->p3 x0 x1->p4 x0 x1->p5 x0 x1->C):C:=Bg3 h fun x0 h=>Bg3 h fun x1 h=>f x0 x1 h.1 h.2.1 h.2.2.1 h.2.2.2.1 h.2.2.2.2.1 h.2.2.2.2.2
theorem El35 {α0:Sort u0} {α1:Sort u1} {α2:Sort u2} {p0 p1 p2 p3 p4:α0->α1->α2->Prop} {C:Prop} (h:∃ x0 x1 x2,p0 x0 x1 x2/\p1 x0 x1 x2/\p2 x0 x1 x2/\p3 x0 x1 x2/\p4 x0 x1 x2) (f:∀ x0 x1 x2,p0 x0 x1 x2->p1 x0 x1 x2->p2 x0 x1 x2->p3 x0 x1 x2->p4 x0 x1 x2->C):C:=Bg3 h fun x0 h=>Bg3 h fun x1 h=>Bg3 h fun x2 h=>f x0 x1 x2 h.1 h.2.1 h.2.2.1 h.2.2.2.1 h.2.2.2.2
theorem El44 {α0:Sort u0} {α1:Sort u1} {α2:Sort u2} {α3:Sort u3} {p0 p1 p2 p3:α0->α1->α2->α3->Prop} {C:Prop} (h:∃ x0 x1 x2 x3,p0 x0 x1 x2 x3/\p1 x0 x1 x2 x3/\p2 x0 x1 x2 x3/\p3 x0 x1 x2 x3) (f:∀ x0 x1 x2 x3,p0 x0 x1 x2 x3->p1 x0 x1 x2 x3->p2 x0 x1 x2 x3->p3 x0 x1 x2 x3->C):C:=Bg3 h fun x0 h=>Bg3 h fun x1 h=>Bg3 h fun x2 h=>Bg3 h fun x3 h=>f x0 x1 x2 x3 h.1 h.2.1 h.2.2.1 h.2.2.2
theorem El53 {α0:Sort u0} {α1:Sort u1} {α2:Sort u2} {α3:Sort u3} {α4:Sort u4} {p0 p1 p2:α0->α1->α2->α3->α4->Prop} {C:Prop} (h:∃ x0 x1 x2 x3 x4,p0 x0 x1 x2 x3 x4/\p1 x0 x1 x2 x3 x4/\p2 x0 x1 x2 x3 x4) (f:∀ x0 x1 x2 x3 x4,p0 x0 x1 x2 x3 x4->p1 x0 x1 x2 x3 x4->p2 x0 x1 x2 x3 x4->C):C:=Bg3 h fun x0 h=>Bg3 h fun x1 h=>Bg3 h fun x2 h=>Bg3 h fun x3 h=>Bg3 h fun x4 h=>f x0 x1 x2 x3 x4 h.1 h.2.1 h.2.2
theorem El62 {α0:Sort u0} {α1:Sort u1} {α2:Sort u2} {α3:Sort u3} {α4:Sort u4} {α5:Sort u5} {p0 p1:α0->α1->α2->α3->α4->α5->Prop} {C:Prop} (h:∃ x0 x1 x2 x3 x4 x5,p0 x0 x1 x2 x3 x4 x5/\p1 x0 x1 x2 x3 x4 x5) (f:∀ x0 x1 x2 x3 x4 x5,p0 x0 x1 x2 x3 x4 x5->p1 x0 x1 x2 x3 x4 x5->C):C:=Bg3 h fun x0 h=>Bg3 h fun x1 h=>Bg3 h fun x2 h=>Bg3 h fun x3 h=>Bg3 h fun x4 h=>Bg3 h fun x5 h=>f x0 x1 x2 x3 x4 x5 h.1 h.2
theorem El71 {α0:Sort u0} {α1:Sort u1} {α2:Sort u2} {α3:Sort u3} {α4:Sort u4} {α5:Sort u5} {α6:Sort u6} {p0:α0->α1->α2->α3->α4->α5->α6->Prop} {C:Prop} (h:∃ x0 x1 x2 x3 x4 x5 x6,p0 x0 x1 x2 x3 x4 x5 x6) (f:∀ x0 x1 x2 x3 x4 x5 x6,p0 x0 x1 x2 x3 x4 x5 x6->C):C:=Bg3 h fun x0 h=>Bg3 h fun x1 h=>Bg3 h fun x2 h=>Bg3 h fun x3 h=>Bg3 h fun x4 h=>Bg3 h fun x5 h=>Bg3 h fun x6 h=>f x0 x1 x2 x3 x4 x5 x6 h
open Lean in
local macro_rules
 | `(tactic| obtain ⟨$ps,*⟩ := $e:term) => do
  let ps := ps.getElems
  let n := ps.size
  let h := mkIdent `hq
  if n < 2 then Macro.throwUnsupported
  let mut ways : Array (TSyntax ``Lean.Parser.Tactic.tacticSeq) := #[]
  let med (p : Syntax) : MacroM (Array (TSyntax `tactic)) := do
   let m := p[0]
   if m[0].getNumArgs == 1 && m[0][0].isOfKind ``Lean.Parser.Tactic.rcasesPat.one then
    let x : Ident := ⟨m[0][0][0]⟩
    return #[<- `(tactic| intro $x:ident)]
   if m[0].getNumArgs == 1 && m[0][0].isOfKind ``Lean.Parser.Tactic.rcasesPat.ignore then return #[<- `(tactic| intro _)]
   let q : TSyntax ``Lean.Parser.Tactic.rcasesPatMed := ⟨m⟩
   return #[<- `(tactic| intro $h:ident), <- `(tactic| obtain $q:rcasesPatMed := $h)]
  for j in [0:n-1] do
   let t := n - j
   if t > 8 then continue
   let alts <- (Bi1 t).toArray.mapM fun k => do
    let c := mkIdent (Name.mkSimple s!"El{k}{t-k}")
    `(tacticSeq| refine $c $e ?_)
   let mut body : Array (TSyntax `tactic) := #[]
   if e.raw.isIdent then
    let x : Ident := ⟨e.raw⟩
    body := body.push (<- `(tactic| try clear $x))
   if t == n then
    for p in ps do body := body ++ (<- med p.raw)
   else
    for p in ps[:t-1] do body := body ++ (<- med p.raw)
    let qs : Syntax.TSepArray `Lean.Parser.Tactic.rcasesPatLo "," := .ofElems (ps[t-1:].toArray.map fun p => ⟨p.raw⟩)
    body := (body.push (<- `(tactic| intro $h:ident))).push (<- `(tactic| obtain ⟨$qs,*⟩ := $h))
   ways := ways.push (<- `(tacticSeq| (first $[| $alts]*); $[$body]*))
  let qs : Syntax.TSepArray `Lean.Parser.Tactic.rcasesPatLo "," := .ofElems (ps.map fun p => ⟨p.raw⟩)
  ways := ways.push (<- `(tacticSeq| rcases $e:term with ⟨$qs,*⟩))
  `(tactic| first $[| $ways]*)
open Lean in
local macro_rules
 | `(tactic| rintro $ps*) => do
  let mut body : Array (TSyntax `tactic) := #[]
  let h := mkIdent `hq
  for p in ps do
   unless p.raw.isOfKind ``Lean.Parser.Tactic.rintroPat.one do Macro.throwUnsupported
   let q := p.raw[0]
   if q.isOfKind ``Lean.Parser.Tactic.rcasesPat.one then
    let x : Ident := ⟨q[0]⟩
    body := body.push (<- `(tactic| intro $x:ident))
   else if q.isOfKind ``Lean.Parser.Tactic.rcasesPat.ignore then body := body.push (<- `(tactic| intro _))
   else if q.isOfKind ``Lean.Parser.Tactic.rcasesPat.tuple then
    if (q.find? fun s => s.isOfKind ``Lean.Parser.Tactic.rcasesPatMed && s[0].getNumArgs > 1).isSome then Macro.throwUnsupported
    let m : TSyntax ``Lean.Parser.Tactic.rcasesPatMed := ⟨.node .none ``Lean.Parser.Tactic.rcasesPatMed #[.node .none `null #[q]]⟩
    body := (body.push (<- `(tactic| intro $h:ident))).push (<- `(tactic| obtain $m:rcasesPatMed := $h))
   else Macro.throwUnsupported
  `(tactic| ($[$body]*))
@[elab_as_elim] theorem rwg {α:Sort u0} {a b:α} {p:α->Prop} (h:a=b) (x:p b):p a:=h ▸ x
@[elab_as_elim] theorem rwh {α:Sort u0} {a b:α} {p:α->Prop} (h:b=a) (x:p b):p a:=h ▸ x
open Lean in
local macro_rules
 | `(tactic| rw [$rs,*]) => do
  let mut body : Array (TSyntax `tactic) := #[]
  for r in rs.getElems do
   if (r.raw.find? fun s => [``Lean.Parser.Term.syntheticHole, ``Lean.Parser.Term.fun, ``Lean.Parser.Term.byTactic, ``Lean.Parser.Term.anonymousCtor, ``Lean.Parser.Term.show, ``Lean.Parser.Term.namedArgument].contains s.getKind).isSome then
    body := body.push (<- `(tactic| rewrite [$r]))
    continue
   match r with
   | `(Lean.Parser.Tactic.rwRule| <- $e:term) => body := body.push (<- `(tactic| first | ((fail_if_success (fail_if_success rewrite [$r])); with_reducible_and_instances refine rwh ($e ..) ?_) | rewrite [$r]))
   | `(Lean.Parser.Tactic.rwRule| $e:term) => body := body.push (<- `(tactic| first | ((fail_if_success (fail_if_success rewrite [$r])); with_reducible_and_instances refine rwg ($e ..) ?_) | rewrite [$r]))
   | _ => Macro.throwUnsupported
  `(tactic| ($[$body]*; try with_reducible rfl))
open Lean in
local macro_rules
 | `(tactic| cases $h:ident) => do
  let a := mkIdent `hq
  let b := mkIdent `hr
  let c := mkIdent `hs
  `(tactic| first
   | (guard_hyp $h : _ = _; first
    | subst $h
    | (focus (injection $h; done))
    | (injection $h with $a $b $c; cases $a:ident; cases $b:ident; cases $c:ident)
    | (injection $h with $a $b; cases $a:ident; cases $b:ident)
    | (injection $h with $a; cases $a:ident))
   | cases ($h))
@[elab_as_elim] theorem gz {α:Sort u} {p:α->Prop} (a:α) (h:∀ x,p x):p a:=h a
@[elab_as_elim] theorem gze {α:Sort u} {p:α->Prop} (a:α) (h:∀ x,a=x->p x):p a:=h a rfl
theorem r2 {x l p:Nat} (h:l<=p):x - l - (p + 1 - l)=x - (p + 1):=by rw [Ci8,Bm1 (Bk1 h)]
theorem r3 {x l h t:Nat} (a:x<=t) (b:x < h + 1) (c:¬ x < l):x - (l - 0) < min h t + 1 - l:=Nat.sub_lt_sub_right (Bm5 c) (Bp3 (Nat.le_min.mpr ⟨Bw3 b,a⟩))
theorem r4 {a b c d:Nat} (e:c=a - d) (n:d≠a) (h:d<=a) (g:d + 1<=b):a - b < c:=e ▸ Nat.sub_lt_sub_left (Bu6 h n) g
theorem r5 {p l e:Nat} (h:p + 1<=e) (g:l<=p):p + 1 - l + (e - (p + 1))=e - l:=(Bm0 ..).trans (Nat.sub_add_sub_cancel h (Bk1 g))
theorem r6 {x l a:Nat} (h:x < l) (g:¬ x < a):x - (a - 0) < l - 1 + 1 - a:=by rw [Nat.sub_add_cancel (Cm8 h)]; exact Nat.sub_lt_sub_right (Bm5 g) h
theorem r7 {a b c d:Nat} (h:b<=d) (g:d < a) (e:d + 1 - b=c + 1):a + 1 - b=c + 1 + (a - d):=by
 rw [<- e,<- Nat.sub_add_comm (Bk1 h),Nat.succ_add,Bm1 (Bk5 g)]
theorem r8 {a b c d:Nat} (h:b<=a) (n:¬ a=d) (m:¬ a < d) (e:d + 1 - b=c + 1):a + 1 - b=c + 1 + (a - d):=by
 have g:d<=a:=Bm5 m
 cases Nat.lt_or_ge d b with
 | inl q=>rw [Nat.sub_eq_zero_of_le q] at e; cases e
 | inr q=>rw [<- e,<- Nat.sub_add_comm (Bk1 q),Nat.succ_add,Bm1 g]
theorem r9 {x:Nat}:x - 1=Int.toNat ((x:Int) - 1):=by
 cases x with
 | zero=>rfl
 | succ n=>rw [Int.natCast_add]; exact (congrArg Int.toNat (Ck1 (n:Int) 1)).symm
theorem r10 {a b:Nat} (h:b + 1<=a):4 - a<=3 - b:=Be8 (Nat.sub_le_sub_left h 4) (Bm3 (Nat.succ_sub_succ 3 b))
theorem r11 {a b c:Nat} (e:min a b=c):c<=b:=e ▸ Bm4 ..
theorem r12 {a b c:Nat} (e:min a b=c):c<=a:=e ▸ Bq9 ..
theorem r15 {a b:Nat}:min (a:Int) b=((min a b:Nat):Int):=by
 cases Nat.le_total a b with
 | inl h=>rw [Bs0 h,Int.min_eq_left (Bk9.mpr h)]
 | inr h=>rw [Cf3 h,Int.min_eq_right (Bk9.mpr h)]
theorem r17 {x a t:Nat} (h:a<=t) (g:x<=t):x - (a - 0) < t + 1 - a:=Bg7 (Ch7 g a) (by rw [Ch0 h]; exact Br2 _)
theorem r19 {a b c:Nat} (h:¬ min (a:Int) b<=(c:Int)):c + 1<=b:=Bn2.mp (Bo0 (Bx9.mp h) (Int.min_le_right ..))
theorem r20 {a b c:Nat} (h:¬ min (a:Int) b<=(c:Int)):c + 1<=a:=Bn2.mp (Bo0 (Bx9.mp h) (Int.min_le_left ..))
theorem r21 {a b c:Nat} (h:min (a:Int) b<=(c:Int)):min a b<=c:=Bk9.mp (r15 ▸ h)
theorem r22 {a b:Nat}:a * b + a - a * b=a:=Nat.add_sub_cancel_left ..
theorem r24 {a b c:Nat} (h:b<=c) (e:c + 1=a):a + 1 - b=c + 1 - b + 1:=e ▸ Ch0 (Bk1 h)
theorem r25 {a b c:Nat} (h:a<=b) (g:b < c):a + (min (b + 1) c - a - 1)=b:=by
 rw [Bs0 g,Ci8,Bm0 a 1,<- Ci8,Nat.succ_sub_one,Bm1 h]
theorem r27 {a b:Nat} (e:b=3) (h:a<=b) (n:¬ a=b):4 - a=Nat.succ (3 - a):=Ch0 (Be8 h (Bm3 e))
theorem r28 {a b c:Nat} (e:c + 1 - a=b + 1):a + b + 1=c + 1:=by
 rw [Br6,<- e]; exact Bm1 (Bk5 (Nat.lt_of_sub_pos (e ▸ Bq1 b)))
theorem r29 {a b c d:Nat} (h:a + 1<=d + (c + 1)) (g:d + 1<=b):a + 1<=b + c:=Be8 h (Be8 (Bm3 (Bh4 d 1 c).symm) (Bi6 g c))
theorem r30 {a:Nat}:(-1000000:Int)<=(a:Int):=Bo8 (by decide) (Bk0 a)
theorem r31 {a b:Nat} (h:b<=a):a + 1 - b=a - b + 1:=Ch0 h
theorem r32 {a b:Nat} (h:b < a):a - 1 < a:=Nat.sub_lt (Bg7 (Bh2 _) h) (by decide)
theorem r33 {a b:Nat} (h:a < b):a<=b - 1:=Nat.le_sub_one_of_lt h
theorem r35 {a:Nat}:4 - a<=4:=Bx8 ..
theorem r36 {a b:Nat} (h:b<=3) (g:a<=11 * b):a<=100:=Be8 g (Be8 (Bp1 11 h) (by decide))
theorem r38 {a b k:Nat} (h:a<=b) (g:b<=k):a<=k:=Be8 h g
theorem r40 {a b k:Nat} (h:a<=b) (g:b < k):a < k:=Bg7 h g
theorem r41 {a b:Nat} (h:a + 1<=b):a<=b:=Bl8 h
theorem r42 {a b c:Nat} (h:a<=b):a<=b + c:=Be8 h (Bg9 ..)
theorem r43 {a b c:Nat} (h:a<=c):a<=b + c:=Be8 h (Bq0 ..)
theorem r46 {a b n:Nat} (h:a < b) (e:n=b):a < n:=e ▸ h
theorem r48 {a b n:Nat} (h:a<=b) (e:n=b):a<=n:=e ▸ h
theorem r50 {a b:Nat} (h:a < b):¬ b=a:=Bq2 h
theorem r52 {a b:Nat} (h:¬ a<=b):b < a:=Cm9 h
theorem r53 {a b:Nat} (h:a<=b) (n:¬ a=b):a < b:=Bu6 h n
theorem r54 {a b:Nat} (h:a<=b) (n:¬ b=a):a < b:=Bu6 h fun e=>n e.symm
theorem r56 {a b c:Nat} (h:a + b<=c):a<=c:=Be8 (Bg9 ..) h
theorem r57 {a b c:Nat} (h:a + b<=c):b<=c:=Be8 (Bq0 ..) h
theorem ru {u n c k:Nat} (h:u + 80 * n + 80 < c) (g:k<=80):u + k < c:=Bg7 (Bo5 (Bg9 ..) g) h
theorem ru1 {u n c k:Nat} (h:u + 80 * n + 80 < c) (g:k<=79):u + 1 + k < c:=by rw [Br6,Bm0 1]; exact ru h (Bg4 g)
theorem rv {u n c:Nat} (h:u + 80 * (n + 1) + 80 < c):u + 1 + 80 * n + 80 < c:=by
 rw [Bt6] at h; rw [Bh4 u 1]
 exact Bg7 (Bi6 (Bf4 (Bf4 (show 1<=80 by decide) (80 * n)) u) 80) h
theorem rd {a n c:Nat} (h:a + 2 * (n + 1) < c):a + 1 + 2 * n < c:=by
 rw [Bt6] at h; rw [Bh4]; exact Cd7 h
theorem nn {a:Nat}:¬ (a:Int) < 0:=Bs6.mpr (Bk0 a)
theorem mx {a n:Nat}:max (0:Int) (min (a:Int) n)=((min a n:Nat):Int):=by rw [r15]; exact Int.max_eq_right (Bk0 _)
theorem tm {n:Nat}:(-1 + (n:Int)).toNat=n - 1:=(congrArg Int.toNat (Int.add_comm ..)).trans r9.symm
theorem ti {a b:Nat} {c:Int} (h:a<=b) (g:(b:Int)<=c):(a:Int)<=c:=Bo8 (Bk9.mpr h) g
theorem tk {a b:Nat} {c:Int} (h:a<=b) (g:(b:Int) < c):(a:Int) < c:=Cc6 (Bk9.mpr h) g
theorem tl {a b:Nat} {c:Int} (h:a < b) (g:(b:Int)<=c):(a:Int) < c:=Bo0 (Bn2.mpr h) g
theorem tn {a:Nat} {c:Int} (g:c<=0):c<=(a:Int):=Bo8 g (Bk0 a)
theorem rz {a b A B i j d e:Nat} (y1:a + 1=A - i) (y2:b + 1=B - j) (h:d=1∨e=1):A - (i + d) + (B - (j + e)) + 1<=a + 1 + (b + 1):=by
 rw [<- Ci8,<- Ci8,<- y1,<- y2]
 cases h with
 | inl q=>rw [q,Bh4]; exact Bf4 (Bx8 ..) _
 | inr q=>rw [q]; exact Bi6 (Bx8 (a + 1) d) (b + 1)
theorem lx0 {a b:Int} (h:a < a∨a=a/\b < b):False:=h.elim (Ck0 _) fun h=>Ck0 _ h.2
theorem lx2 {a b c d e f:Int} (h:a < c∨a=c/\b < d) (g:c < e∨c=e/\d < f):a < e∨a=e/\b < f:=by
 cases h with
 | inl h=>exact .inl (g.elim (Cl8 h) fun g=>g.1 ▸ h)
 | inr h=>rw [h.1]; exact g.imp id fun g=>⟨g.1,Cl8 h.2 g.2⟩
theorem lx1 {a b c d e f:Int} (h:a < c∨a=c/\b < d) (g:¬ (e < c∨e=c/\f < d)):a < e∨a=e/\b < f:=by
 have g1:c<=e:=Bs6.mp fun q=>g (.inl q)
 cases h with
 | inl h=>exact .inl (Bo0 h g1)
 | inr h=>
  rw [h.1]
  by_cases q:c=e
  · exact .inr ⟨q,Bo0 h.2 (Bs6.mp fun k=>g (.inr ⟨q.symm,k⟩))⟩
  · exact .inl (Int.lt_iff_le_and_ne.mpr ⟨g1,q⟩)
theorem ra {r e p l:Nat} (h:r<=e - (p + 1)) (g:l<=p) (k:p < e):r + 1<=e - l:=Nat.le_sub_of_add_le (Be8 (Bf4 g (r + 1)) (by rw [Bh4]; exact (show r + (p + 1)<=e from Nat.add_le_of_le_sub k h)))
theorem ry {s u U n:Nat} (h:u + 1<=U) (e:s + U<=n):s + 1 + u<=n:=Be8 (by rw [Bh4,Br6]; exact Bf4 h s) e
theorem rx {a t u U n:Nat} (h:u + 1<=U) (e:a + t + U<=n):a + (t + 1) + u<=n:=ry (s:=a + t) h e
theorem rq {t' t u u' U:Nat} (e:t' + 2 * U<=t + 2 * u) (h:u' + 1<=U):t' + 1 + 2 * u'<=t + 2 * u:=ry (Be8 (Bm9 _) (Bp1 2 h)) e
theorem rw1 {a b c d:Nat} (h:a<=c) (g:b + 1<=d):a + b + 1<=c + d:=by rw [Br6]; exact Bo5 h g
noncomputable abbrev kS (x:String) (t:Nat):Value:=.str (Bf5 x) t
noncomputable abbrev kN (k:Int) (t:Nat):Value:=.int k t
noncomputable abbrev kR (a:Nat):Value:=.ref a
noncomputable abbrev kE (P:Params) (x:String) (t:Nat) (v:Value):DictEntry:={ hash:=PyData.keyHash P (Bf5 x),key:=kS x t,val:=v }
noncomputable abbrev kC (l:List Value):Obj:={ cls:=.type "code",data:=.fields ⟨l⟩ }
noncomputable abbrev kW (f q:String) (t l k a u:Nat):Obj:=kC [kS f t,kS q (t + 1),kS "/claim/cut.py" (t + 2),kN l 0,kN k 0,kN 0 0,kN 0 0,kN 3 0,kR a,.bool true,kN 181 0,kR (a + 1),.none,kR (a + 2),kR (a + 3),kR (a + 4),kN u 0,kN l 0,kS "/claim/cut.py" (u + 1)]
noncomputable def kP (i:Nat):Stmt:=(PySem.Challenge.pw_pq1083_01.main.body[i]?).getD (.Pass ⟨0,0,0,0⟩)
noncomputable def kQ (i j:Nat):Stmt:=match kP i with | .ClassDef _ _ _ b _ _ _ _ _ _ _=>(b[j]?).getD (.Pass ⟨0,0,0,0⟩) | x=>x
noncomputable def kF (x:Stmt) (q:String) (m:Value) (c:Nat):Obj:=match x with
 | .FunctionDef f ps b _ _ _ sc _ _ _=>{ cls:=.type "function",data:=.func { name:=f,qualname:=Bf5 q,params:=ps,body:=.stmts b,scope:=sc,globals:=3,closure:=[],defaults:=.none,kwdefaults:=.none,pyModule:=m,code:=.ref c } }
 | _=>{ cls:=.none,data:=.seq #[] }
noncomputable def Kf (P:Params):Frag:=[
(2,{ cls:=.none,data:=Data.dict #[kE P "type.__subclasses__.Exception.0" 215 (kN 31 0),kE P "type.__subclasses__.Exception.n" 216 (kN 1 0)] 2 }),
(3,{ cls:=.type "dict",data:=.dict #[kE P "__name__" 165 (kS "law_pq1083_01" 581),kE P "__doc__" 166 .none,kE P "__package__" 167 .none,kE P "__loader__" 168 (.builtin "__main__.__loader__#opaque"),kE P "__spec__" 169 .none,kE P "__annotations__" 170 (kR 6),kE P "__builtins__" 171 (kR 4),kE P "__file__" 173 (kS "/claim/cut.py" 172),kE P "__cached__" 174 .none,kE P "WallFault" 218 (kR 31),kE P "Misused" 234 (kR 44),kE P "LeftOut" 250 (kR 56),kE P "tidy" 262 (kR 65),kE P "Diagrams" 343 (kR 117),kE P "parts_at" 354 (kR 128),kE P "split" 360 (kR 133),kE P "below" 370 (kR 140),kE P "value_at" 381 (kR 147),kE P "test" 397 (kR 154),kE P "first_unlike" 407 (kR 161),kE P "ways" 426 (kR 168),kE P "Space" 464 (kR 185),kE P "needs_of" 474 (kR 196),kE P "check_places" 487 (kR 203),kE P "inner_nodes" 501 (kR 210),kE P "verdict_of_leaf" 508 (kR 217),kE P "verdict_to" 517 (kR 224),kE P "spans_told" 523 (kR 229),kE P "node_rule" 538 (kR 236),kE P "chains_of_node" 551 (kR 243),kE P "way_match" 564 (kR 250),kE P "rules_of_ways" 580 (kR 257),kE P "_law_told" 588 (kR 264),kE P "_law_take" 596 (kR 271),kE P "_law_pool" 602 (kR 278),kE P "_law_needs" 610 (kR 285),kE P "_law_world" 616 (kR 290),kE P "_law_rows" 622 (kR 295),kE P "_law_asked" 628 (kR 300),kE P "_law_whole" 636 (kR 307),kE P "_law_stretches" 646 (kR 314),kE P "_law_done" 655 (kR 321),kE P "_law_refused" 666 (kR 328),kE P "_law_led" 672 (kR 333),kE P "_law_made" 678 (kR 338),kE P "_law_tested" 684 (kR 343),kE P "_law_numbers" 690 (kR 348),kE P "_law_read_right" 696 (kR 353),kE P "_law_parted_right" 702 (kR 358),kE P "_law_misplaced" 712 (kR 365),kE P "_law_spans" 718 (kR 370),kE P "_law_on" 728 (kR 377),kE P "_law_chains" 734 (kR 382),kE P "_law_ways" 755 (kR 389),kE P "_law_told_right" 761 (kR 394),kE P "law" 767 (kR 399)] 56 }),
(27,kW "__init__" "WallFault.__init__" 201 4 2 22 206),
(28,kF (kQ 1 0) "WallFault.__init__" (kS "siftwall.faults" 187) 27),
(30,{ cls:=.type "dict",data:=.dict #[kE P "__module__" 196 (kS "siftwall.faults" 187),kE P "__firstlineno__" 200 (kN 2 199),kE P "__init__" 208 (kR 28),kE P "__static_attributes__" 211 (kR 29),kE P "__weakref__" 213 (kR 32),kE P "__doc__" 214 .none] 3 }),
(31,{ cls:=.type "type",data:=Data.cls { name:=Bf5 "WallFault",bases:=[.type "Exception"],mro:=[kR 31,.type "Exception",.type "BaseException",.type "object"],ns:=30,qualname:=Bf5 "WallFault",subclasses:=[kR 44,kR 56] },slots:=#[some (kR 15),none,some (kS "WallFault" 189),some (kS "WallFault" 197),some (.builtin "Exception.__new__"),some (.bool true)] }),
(32,{ cls:=.type "getset_descriptor",data:=Data.fields #[kS "__weakref__" 212,kR 31,.builtin "ExceptionGroup.__weakref__",.none] }),
(43,{ cls:=.type "dict",data:=.dict #[kE P "__module__" 226 (kS "siftwall.faults" 187),kE P "__firstlineno__" 230 (kN 8 229),kE P "__static_attributes__" 231 (kR 42),kE P "__doc__" 232 .none] 2 }),
(44,{ cls:=.type "type",data:=Data.cls { name:=Bf5 "Misused",bases:=[kR 31],mro:=[kR 44,kR 31,.type "Exception",.type "BaseException",.type "object"],ns:=43,qualname:=Bf5 "Misused" },slots:=#[some (kR 35),none,some (kS "Misused" 219),some (kS "Misused" 227),some (.builtin "Exception.__new__"),some (.bool true)] }),
(55,{ cls:=.type "dict",data:=.dict #[kE P "__module__" 242 (kS "siftwall.faults" 187),kE P "__firstlineno__" 246 (kN 10 245),kE P "__static_attributes__" 247 (kR 54),kE P "__doc__" 248 .none] 2 }),
(56,{ cls:=.type "type",data:=Data.cls { name:=Bf5 "LeftOut",bases:=[kR 31],mro:=[kR 56,kR 31,.type "Exception",.type "BaseException",.type "object"],ns:=55,qualname:=Bf5 "LeftOut" },slots:=#[some (kR 47),none,some (kS "LeftOut" 235),some (kS "LeftOut" 243),some (.builtin "Exception.__new__"),some (.bool true)] }),
(64,kW "tidy" "tidy" 253 13 1 59 260),
(65,kF (kP 5) "tidy" (kS "siftwall.stores" 251) 64),
(78,kW "__init__" "Diagrams.__init__" 277 25 2 73 282),
(79,kF (kQ 7 0) "Diagrams.__init__" (kS "siftwall.diagram" 263) 78),
(85,kW "kept" "Diagrams.kept" 285 31 2 80 290),
(86,kF (kQ 7 1) "Diagrams.kept" (kS "siftwall.diagram" 263) 85),
(92,kW "leaf" "Diagrams.leaf" 293 37 2 87 298),
(93,kF (kQ 7 2) "Diagrams.leaf" (kS "siftwall.diagram" 263) 92),
(99,kW "make" "Diagrams.make" 301 40 3 94 312),
(100,kF (kQ 7 3) "Diagrams.make" (kS "siftwall.diagram" 263) 99),
(106,kW "node" "Diagrams.node" 315 56 2 101 320),
(107,kF (kQ 7 4) "Diagrams.node" (kS "siftwall.diagram" 263) 106),
(113,kW "level" "Diagrams.level" 323 59 2 108 329),
(114,kF (kQ 7 5) "Diagrams.level" (kS "siftwall.diagram" 263) 113),
(116,{ cls:=.type "dict",data:=.dict #[kE P "__module__" 272 (kS "siftwall.diagram" 263),kE P "__firstlineno__" 276 (kN 23 275),kE P "__init__" 284 (kR 79),kE P "kept" 292 (kR 86),kE P "leaf" 300 (kR 93),kE P "make" 314 (kR 100),kE P "node" 322 (kR 107),kE P "level" 331 (kR 114),kE P "__static_attributes__" 336 (kR 115),kE P "__dict__" 338 (kR 118),kE P "__weakref__" 340 (kR 119),kE P "__doc__" 341 .none] 4 }),
(117,{ cls:=.type "type",data:=Data.cls { name:=Bf5 "Diagrams",bases:=[.type "object"],mro:=[kR 117,.type "object"],ns:=116,qualname:=Bf5 "Diagrams" },slots:=#[none,none,some (kS "Diagrams" 265),some (kS "Diagrams" 273),some (.builtin "object.__new__"),some (.bool true)] }),
(118,{ cls:=.type "getset_descriptor",data:=Data.fields #[kS "__dict__" 337,kR 117,.builtin "function.__dict__",.builtin "function.__dict__#set"] }),
(119,{ cls:=.type "getset_descriptor",data:=Data.fields #[kS "__weakref__" 339,kR 117,.builtin "ExceptionGroup.__weakref__",.none] }),
(127,kW "parts_at" "parts_at" 344 62 3 122 352),
(128,kF (kP 8) "parts_at" (kS "siftwall.diagram" 263) 127),
(132,kC [kS "split" 355,kS "split" 356,kS "/claim/cut.py" 357,kN 67 0,kN 2 0,kN 0 0,kN 0 0,kN 3 0,kR 129,.bool true,kN 181 0,kR 130,.none,.none,.none,kR 131,kN 358 0,kN 67 0,kS "/claim/cut.py" 359]),
(133,kF (kP 9) "split" (kS "siftwall.diagram" 263) 132),
(139,kW "below" "below" 361 81 2 134 368),
(140,kF (kP 10) "below" (kS "siftwall.diagram" 263) 139),
(146,kW "value_at" "value_at" 371 86 3 141 379),
(147,kF (kP 11) "value_at" (kS "siftwall.diagram" 263) 146),
(153,kW "test" "test" 382 91 5 148 395),
(154,kF (kP 12) "test" (kS "siftwall.diagram" 263) 153),
(160,kW "first_unlike" "first_unlike" 398 106 1 155 405),
(161,kF (kP 13) "first_unlike" (kS "siftwall.diagram" 263) 160),
(167,kW "ways" "ways" 408 113 3 162 424),
(168,kF (kP 14) "ways" (kS "siftwall.diagram" 263) 167),
(181,kW "__init__" "Space.__init__" 441 135 4 176 450),
(182,kF (kQ 16 0) "Space.__init__" (kS "siftwall.compile" 427) 181),
(184,{ cls:=.type "dict",data:=.dict #[kE P "__module__" 436 (kS "siftwall.compile" 427),kE P "__firstlineno__" 440 (kN 133 439),kE P "__init__" 452 (kR 182),kE P "__static_attributes__" 457 (kR 183),kE P "__dict__" 459 (kR 186),kE P "__weakref__" 461 (kR 187),kE P "__doc__" 462 .none] 4 }),
(185,{ cls:=.type "type",data:=Data.cls { name:=Bf5 "Space",bases:=[.type "object"],mro:=[kR 185,.type "object"],ns:=184,qualname:=Bf5 "Space" },slots:=#[none,none,some (kS "Space" 429),some (kS "Space" 437),some (.builtin "object.__new__"),some (.bool true)] }),
(186,{ cls:=.type "getset_descriptor",data:=Data.fields #[kS "__dict__" 458,kR 185,.builtin "function.__dict__",.builtin "function.__dict__#set"] }),
(187,{ cls:=.type "getset_descriptor",data:=Data.fields #[kS "__weakref__" 460,kR 185,.builtin "ExceptionGroup.__weakref__",.none] }),
(195,kW "needs_of" "needs_of" 467 143 1 190 472),
(196,kF (kP 18) "needs_of" (kS "siftwall.fields" 465) 195),
(202,kW "check_places" "check_places" 477 149 1 197 485),
(203,kF (kP 20) "check_places" (kS "siftwall.retext" 475) 202),
(209,kW "inner_nodes" "inner_nodes" 488 156 2 204 499),
(210,kF (kP 21) "inner_nodes" (kS "siftwall.retext" 475) 209),
(216,kW "verdict_of_leaf" "verdict_of_leaf" 502 169 1 211 506),
(217,kF (kP 22) "verdict_of_leaf" (kS "siftwall.retext" 475) 216),
(223,kW "verdict_to" "verdict_to" 509 173 2 218 515),
(224,kF (kP 23) "verdict_to" (kS "siftwall.retext" 475) 223),
(228,kC [kS "spans_told" 518,kS "spans_told" 519,kS "/claim/cut.py" 520,kN 178 0,kN 4 0,kN 0 0,kN 0 0,kN 3 0,kR 225,.bool true,kN 181 0,kR 226,.none,.none,.none,kR 227,kN 521 0,kN 178 0,kS "/claim/cut.py" 522]),
(229,kF (kP 24) "spans_told" (kS "siftwall.retext" 475) 228),
(235,kW "node_rule" "node_rule" 524 182 3 230 536),
(236,kF (kP 25) "node_rule" (kS "siftwall.retext" 475) 235),
(242,kW "chains_of_node" "chains_of_node" 539 190 4 237 549),
(243,kF (kP 26) "chains_of_node" (kS "siftwall.retext" 475) 242),
(249,kW "way_match" "way_match" 552 199 3 244 562),
(250,kF (kP 27) "way_match" (kS "siftwall.retext" 475) 249),
(256,kW "rules_of_ways" "rules_of_ways" 565 207 5 251 578),
(257,kF (kP 28) "rules_of_ways" (kS "siftwall.retext" 475) 256),
(263,kW "_law_told" "_law_told" 583 220 0 258 586),
(264,kF (kP 30) "_law_told" (kS "law_pq1083_01" 581) 263),
(270,kW "_law_take" "_law_take" 589 222 2 265 594),
(271,kF (kP 31) "_law_take" (kS "law_pq1083_01" 581) 270),
(277,kW "_law_pool" "_law_pool" 597 224 0 272 600),
(278,kF (kP 32) "_law_pool" (kS "law_pq1083_01" 581) 277),
(284,kW "_law_needs" "_law_needs" 603 226 1 279 608),
(285,kF (kP 33) "_law_needs" (kS "law_pq1083_01" 581) 284),
(289,kC [kS "_law_world" 611,kS "_law_world" 612,kS "/claim/cut.py" 613,kN 230 0,kN 1 0,kN 0 0,kN 0 0,kN 3 0,kR 286,.bool true,kN 181 0,kR 287,.none,.none,.none,kR 288,kN 614 0,kN 230 0,kS "/claim/cut.py" 615]),
(290,kF (kP 34) "_law_world" (kS "law_pq1083_01" 581) 289),
(294,kC [kS "_law_rows" 617,kS "_law_rows" 618,kS "/claim/cut.py" 619,kN 240 0,kN 2 0,kN 0 0,kN 0 0,kN 3 0,kR 291,.bool true,kN 181 0,kR 292,.none,.none,.none,kR 293,kN 620 0,kN 240 0,kS "/claim/cut.py" 621]),
(295,kF (kP 35) "_law_rows" (kS "law_pq1083_01" 581) 294),
(299,kC [kS "_law_asked" 623,kS "_law_asked" 624,kS "/claim/cut.py" 625,kN 243 0,kN 3 0,kN 0 0,kN 0 0,kN 3 0,kR 296,.bool true,kN 181 0,kR 297,.none,.none,.none,kR 298,kN 626 0,kN 243 0,kS "/claim/cut.py" 627]),
(300,kF (kP 36) "_law_asked" (kS "law_pq1083_01" 581) 299),
(306,kW "_law_whole" "_law_whole" 629 250 2 301 634),
(307,kF (kP 37) "_law_whole" (kS "law_pq1083_01" 581) 306),
(313,kW "_law_stretches" "_law_stretches" 637 252 1 308 644),
(314,kF (kP 38) "_law_stretches" (kS "law_pq1083_01" 581) 313),
(320,kW "_law_done" "_law_done" 647 260 3 315 653),
(321,kF (kP 39) "_law_done" (kS "law_pq1083_01" 581) 320),
(327,kW "_law_refused" "_law_refused" 656 272 4 322 664),
(328,kF (kP 40) "_law_refused" (kS "law_pq1083_01" 581) 327),
(332,kC [kS "_law_led" 667,kS "_law_led" 668,kS "/claim/cut.py" 669,kN 278 0,kN 2 0,kN 0 0,kN 0 0,kN 3 0,kR 329,.bool true,kN 181 0,kR 330,.none,.none,.none,kR 331,kN 670 0,kN 278 0,kS "/claim/cut.py" 671]),
(333,kF (kP 41) "_law_led" (kS "law_pq1083_01" 581) 332),
(337,kC [kS "_law_made" 673,kS "_law_made" 674,kS "/claim/cut.py" 675,kN 280 0,kN 5 0,kN 0 0,kN 0 0,kN 3 0,kR 334,.bool true,kN 181 0,kR 335,.none,.none,.none,kR 336,kN 676 0,kN 280 0,kS "/claim/cut.py" 677]),
(338,kF (kP 42) "_law_made" (kS "law_pq1083_01" 581) 337),
(342,kC [kS "_law_tested" 679,kS "_law_tested" 680,kS "/claim/cut.py" 681,kN 293 0,kN 4 0,kN 0 0,kN 0 0,kN 3 0,kR 339,.bool true,kN 181 0,kR 340,.none,.none,.none,kR 341,kN 682 0,kN 293 0,kS "/claim/cut.py" 683]),
(343,kF (kP 43) "_law_tested" (kS "law_pq1083_01" 581) 342),
(347,kC [kS "_law_numbers" 685,kS "_law_numbers" 686,kS "/claim/cut.py" 687,kN 308 0,kN 1 0,kN 0 0,kN 0 0,kN 3 0,kR 344,.bool true,kN 181 0,kR 345,.none,.none,.none,kR 346,kN 688 0,kN 308 0,kS "/claim/cut.py" 689]),
(348,kF (kP 44) "_law_numbers" (kS "law_pq1083_01" 581) 347),
(352,kC [kS "_law_read_right" 691,kS "_law_read_right" 692,kS "/claim/cut.py" 693,kN 316 0,kN 3 0,kN 0 0,kN 0 0,kN 3 0,kR 349,.bool true,kN 181 0,kR 350,.none,.none,.none,kR 351,kN 694 0,kN 316 0,kS "/claim/cut.py" 695]),
(353,kF (kP 45) "_law_read_right" (kS "law_pq1083_01" 581) 352),
(357,kC [kS "_law_parted_right" 697,kS "_law_parted_right" 698,kS "/claim/cut.py" 699,kN 325 0,kN 4 0,kN 0 0,kN 0 0,kN 3 0,kR 354,.bool true,kN 181 0,kR 355,.none,.none,.none,kR 356,kN 700 0,kN 325 0,kS "/claim/cut.py" 701]),
(358,kF (kP 46) "_law_parted_right" (kS "law_pq1083_01" 581) 357),
(364,kW "_law_misplaced" "_law_misplaced" 703 339 1 359 710),
(365,kF (kP 47) "_law_misplaced" (kS "law_pq1083_01" 581) 364),
(369,kC [kS "_law_spans" 713,kS "_law_spans" 714,kS "/claim/cut.py" 715,kN 345 0,kN 4 0,kN 0 0,kN 0 0,kN 3 0,kR 366,.bool true,kN 181 0,kR 367,.none,.none,.none,kR 368,kN 716 0,kN 345 0,kS "/claim/cut.py" 717]),
(370,kF (kP 48) "_law_spans" (kS "law_pq1083_01" 581) 369),
(376,kW "_law_on" "_law_on" 719 348 4 371 726),
(377,kF (kP 49) "_law_on" (kS "law_pq1083_01" 581) 376),
(381,kC [kS "_law_chains" 729,kS "_law_chains" 730,kS "/claim/cut.py" 731,kN 352 0,kN 4 0,kN 0 0,kN 0 0,kN 3 0,kR 378,.bool true,kN 181 0,kR 379,.none,.none,.none,kR 380,kN 732 0,kN 352 0,kS "/claim/cut.py" 733]),
(382,kF (kP 50) "_law_chains" (kS "law_pq1083_01" 581) 381),
(388,kW "_law_ways" "_law_ways" 735 366 4 383 753),
(389,kF (kP 51) "_law_ways" (kS "law_pq1083_01" 581) 388),
(393,kC [kS "_law_told_right" 756,kS "_law_told_right" 757,kS "/claim/cut.py" 758,kN 378 0,kN 3 0,kN 0 0,kN 0 0,kN 3 0,kR 390,.bool true,kN 181 0,kR 391,.none,.none,.none,kR 392,kN 759 0,kN 378 0,kS "/claim/cut.py" 760]),
(394,kF (kP 52) "_law_told_right" (kS "law_pq1083_01" 581) 393),
(398,kC [kS "law" 762,kS "law" 763,kS "/claim/cut.py" 764,kN 399 0,kN 1 0,kN 0 0,kN 0 0,kN 3 0,kR 395,.bool true,kN 181 0,kR 396,.none,.none,.none,kR 397,kN 765 0,kN 399 0,kS "/claim/cut.py" 766]),
(399,kF (kP 53) "law" (kS "law_pq1083_01" 581) 398)]
noncomputable abbrev kT (l : List Value) : Obj := { cls := .type "tuple", data := .seq ⟨l⟩ }
noncomputable def ZtV {α : Type} (d : Data) (f : Array Value → α) (z : α) : α := Data.casesOn d z (fun _ => z) (fun _ _ => z) (fun _ _ => z) (fun _ _ _ => z) (fun _ _ => z) (fun _ => z) (fun _ => z) (fun _ => z) f z
noncomputable def ZtF {α : Type} (d : Data) (f : FuncData → α) (z : α) : α := Data.casesOn d z (fun _ => z) (fun _ _ => z) (fun _ _ => z) (fun _ _ _ => z) (fun _ _ => z) (fun _ => z) f (fun _ => z) (fun _ => z) z
noncomputable def ZtD {α : Type} (d : Data) (f : Array DictEntry → α) (z : α) : α := Data.casesOn d z (fun _ => z) (fun _ _ => z) (fun l _ => f l) (fun _ _ _ => z) (fun _ _ => z) (fun _ => z) (fun _ => z) (fun _ => z) (fun _ => z) z
noncomputable def ZtS {α : Type} (v : Value) (f : Nat → α) (z : α) : α := Value.casesOn v z z z (fun _ => z) (fun _ _ => z) (fun _ _ => z) (fun _ t => f t) (fun _ _ => z) (fun _ => z) (fun _ => z) (fun _ => z)
noncomputable def ZtI (l : List (Nat × Nat × Nat)) : Obj := { cls := .none, data := .fields ⟨l.flatMap fun x => [kN x.1 0, kN x.2.1 0, kR x.2.2]⟩ }
noncomputable def Ztb (x y : Value) : Obj := { cls := .type "builtin_function_or_method", data := .fields ⟨[x, y]⟩ }
noncomputable def Ztf (a b : Nat) (m : Value) : Obj := { cls := .type "frame", slots := ⟨[some (kR a), some (kR 3), some (kR b), none, some m, none, some (kR 0)]⟩ }
noncomputable def ZtU (a : Nat) : List Obj := [{ cls := .type "super", data := .fields ⟨[kR a, kR a, kR a]⟩ }, Ztb (.builtin "object.__init_subclass__") (kR a)]
noncomputable def ZtH (P : Params) (b : List Value) (q : String) (t l a : Nat) (m : Value) (x : List (Nat × Nat × Nat)) (y : List (String × Nat × Nat)) : List Obj := [kT b, Ztb (.builtin "type.__prepare__") (.type "type"),
  { cls := .type "dict", data := .dict ⟨kE P "__module__" (t + 5) m :: kE P "__qualname__" (t + 7) (kS q (t + 6)) :: kE P "__firstlineno__" (t + 9) (kN l (t + 8)) :: y.map fun z => kE P z.1 z.2.1 (kR z.2.2)⟩ (y.length + 3) }, kT [], ZtI x,
  kC [kS q t, kS q (t + 1), kS "/claim/cut.py" (t + 2), kN l 0, kN 0 0, kN 0 0, kN 0 0, kN 0 0, kR a, .bool false, kN 181 0, kR (a + 1), .none, .none, .none, .none, kN (t + 3) 0, kN l 0, kS "/claim/cut.py" (t + 4)], Ztf (a + 2) (a - 1) m]
noncomputable def ZtG (c : Obj) (l : List Obj) : List Obj := ZtV c.data (fun v => l.head?.elim (c :: l) fun o => ZtF o.data (fun f => kT [] :: ZtI [] :: (bif v.getD 13 .none == .none then [] else ZtS (v.getD 2 .none) (fun t => [kT ((((f.scope.names.filter (·.2 == .local)).map (·.1)).zipIdx (t + 1)).map fun x => .str x.1 x.2), kT []]) []) ++ { cls := .none, data := .func { f with globals := 0, pyModule := .none, code := .none } } :: c :: l) (c :: l)) (c :: l)
noncomputable def ZtX (P : Params) : List (Nat × Nat × List Obj) := [(2, 0, [kT [], ZtI [(2, 0, 20), (8, 0, 40), (10, 0, 52), (13, 0, 64), (23, 0, 71), (62, 0, 127), (67, 0, 132), (81, 0, 139), (86, 0, 146), (91, 0, 153), (106, 0, 160), (113, 0, 167), (133, 0, 174), (143, 0, 195), (149, 0, 202), (156, 0, 209), (169, 0, 216), (173, 0, 223), (178, 0, 228), (182, 0, 235), (190, 0, 242), (199, 0, 249), (207, 0, 256), (220, 0, 263), (222, 0, 270), (224, 0, 277), (226, 0, 284), (230, 0, 289), (240, 0, 294), (243, 0, 299), (250, 0, 306), (252, 0, 313), (260, 0, 320), (272, 0, 327), (278, 0, 332), (280, 0, 337), (293, 0, 342), (308, 0, 347), (316, 0, 352), (325, 0, 357), (339, 0, 364), (345, 0, 369), (348, 0, 376), (352, 0, 381), (366, 0, 388), (378, 0, 393), (399, 0, 398)], kC [kS "<module>" 182, kS "<module>" 183, kS "/claim/cut.py" 184, kN 1 0, kN 0 0, kN 0 0, kN 0 0, kN 0 0, kR 11, .bool false, kN 181 0, kR 12, .none, .none, .none, .none, kN 185 0, kN 1 0, kS "/claim/cut.py" 186], Ztf 13 3 (kS "__main__" 164)] ++ ZtH P [Value.type "Exception"] "WallFault" 191 2 18 (kS "siftwall.faults" 187) [(4, 4, 27)] [("__init__", 208, 28), ("__static_attributes__", 211, 29)]),
  (2, 2, [kT [kS "at" 209, kS "why" 210]]),
  (4, 3, ZtU 31 ++ ZtH P [kR 31] "Misused" 221 8 38 (kS "siftwall.faults" 187) [] [("__static_attributes__", 231, 42)] ++ [kT []]),
  (7, 2, ZtU 44 ++ ZtH P [kR 31] "LeftOut" 237 10 50 (kS "siftwall.faults" 187) [] [("__static_attributes__", 247, 54)] ++ [kT []]),
  (9, 2, ZtU 56),
  (11, 2, ZtH P [] "Diagrams" 267 23 69 (kS "siftwall.diagram" 263) [(25, 4, 78), (31, 4, 85), (37, 4, 92), (40, 4, 99), (56, 4, 106), (59, 4, 113)] [("__init__", 284, 79), ("kept", 292, 86), ("leaf", 300, 93), ("make", 314, 100), ("node", 322, 107), ("level", 331, 114), ("__static_attributes__", 336, 115)]),
  (13, 12, [kT [kS "book" 332, kS "memo" 333, kS "nodes" 334, kS "tops" 335]]),
  (25, 4, ZtU 117),
  (29, 14, ZtH P [] "Space" 431 133 172 (kS "siftwall.compile" 427) [(135, 4, 181)] [("__init__", 452, 182), ("__static_attributes__", 457, 183)]),
  (43, 2, [kT [kS "legal" 453, kS "names" 454, kS "place" 455, kS "tops" 456]]),
  (45, 4, ZtU 185),
  (49, 400, [])]
noncomputable def ZtO (P : Params) : List Obj := (boot_heap P).objs.toList.take 2 ++ ((Kf P).take 2).map (·.2) ++ (boot_heap P).objs.toList.drop 4 ++ (ZtX P).foldr (fun x r => ((((Kf P).drop x.1).take x.2.1).map (·.2)).foldr ZtG (x.2.2 ++ r)) []
noncomputable def asL : List Addr := (Kf { strHash := fun _ => 0, shareClass := fun _ => 0, mergeTok := id, idOf := fun _ => 0, idOfShared := fun _ _ => 0, followText := fun _ => false, idOfImm := fun _ => 0 }).map (·.1)
theorem as_Kf : ∀ P, asL = (Kf P).map (·.1) := fun P => by kernel_rfl
noncomputable def qv : Program := view PySem.Challenge.pw_pq1083_01 [1,2,3,5,7,8,9,10,11,12,13,14,16,18,20,21,22,23,24,25,26,27,28,30,31,32,33,34,35,36,37,38,39,40,41,42,43,44,45,46,47,48,49,50,51,52,53]
noncomputable abbrev Hk : Hook := kHook Kf asL as_Kf
noncomputable abbrev Zhp : Program := PySem.Challenge.rw_pq1083_01.row.prog
noncomputable abbrev Zhm : List Str := importedModules Zhp.main.body
noncomputable def Zhh (P : Params) : Heap := ⟨⟨ZtO P⟩, (boot_heap P).life⟩
noncomputable def ZtM (n k : Nat) (m : Value) (P : Params) : Heap := ⟨⟨(((ZtO P).take n).modify 3 fun o => { o with data := ZtD o.data (fun l => .dict ⟨(l.toList.take k).modify 0 fun x => { x with val := m }⟩ k) o.data }).modify 12 fun o => { o with data := ZtV o.data (fun l => .fields ⟨l.toList.take (3 * (k - 9))⟩) o.data }⟩, (boot_heap P).life⟩
noncomputable abbrev Zhv : Env := { scope := Zhp.main.scope, locals := mainNs, globals := mainNs, cells := [], code := .ref 13, frame := some 14 }
noncomputable abbrev Zhl : List Stmt := behindTheImports Zhp
noncomputable abbrev Zc : Code := .body Zhl Zhv
noncomputable abbrev ZhB : List Frame := [topFrame ⟨0, 0, 0, 0⟩]
noncomputable abbrev Zhz (h : Params → Heap) (k : Nat) (w : World) (os : OsState) : Shared := ⟨h w.params, .mk [], boot_drawn, k, os⟩
theorem Zhcut {α : Type} (b : List α) : b = b.take 7 ++ ((b.drop 7).take 9 ++ (((b.drop 7).drop 9).take 13 ++ (((b.drop 7).drop 9).drop 13 ++ []))) := by
  rw [List.append_nil, List.take_append_drop, List.take_append_drop, List.take_append_drop]
noncomputable abbrev ZhR : Program → World → Nat → Option Value → Nat → Nat → Shared → Thread → Option (Flow × Shared × Code × Pos) := PySem.W.Fast.tw14374325043358763698 PySem.W.Fast.tw14364793385576792824
theorem ZhRe : segRun treeTable = ZhR := by rw [PySem.W.Fast.te14374325043358763698, PySem.W.Fast.te14364793385576792824]
noncomputable def Zk0 (P : Params) : Heap := ⟨⟨(boot_heap P).objs.toList ++ (((ZtO P).drop 11).take 4).set 1 (ZtI [])⟩, (boot_heap P).life⟩
noncomputable abbrev Zk1 : Params → Heap := ZtM 66 13 (kS "siftwall.diagram" 263)
noncomputable abbrev Zk2 : Params → Heap := ZtM 169 21 (kS "siftwall.compile" 427)
noncomputable abbrev Zk3 : Params → Heap := ZtM 258 32 (kS "siftwall.retext" 475)
theorem Zg0 (w : World) (os : OsState) : topGo treeTable Zhp w 11 (some (.ref 6)) 12 (Zhz boot_heap boot_toks w os) (topStub Zhp) = some (Zhz Zk0 187 w os, ⟨denote treeTable Zc, Zc, ⟨0, 0, 0, 0⟩, ZhB⟩) := by kernel_rfl
theorem Zgb (w : World) (os : OsState) : segRun treeTable Zhp w 11 (some (.ref 6)) 1 1 (Zhz Zk0 187 w os) (blockOf Zhl Zhv Zc ⟨0, 0, 0, 0⟩ ZhB) = some (.next, Zhz Zk0 187 w os, Zc, ⟨0, 0, 0, 0⟩) := by kernel_rfl
theorem Zg1 (w : World) (os : OsState) : ZhR Zhp w 11 (some (.ref 6)) 1 1000 (Zhz Zk0 187 w os) (piecesOf (Zhl.take 7) Zhv Zc ⟨0, 0, 0, 0⟩ ZhB) = some (.next, Zhz Zk1 265 w os, Zc, ⟨22, 0, 22, 8⟩) := by kernel_rfl
theorem Zg2 (w : World) (os : OsState) : ZhR Zhp w 11 (some (.ref 6)) 1 1000 (Zhz Zk1 265 w os) (piecesOf ((Zhl.drop 7).take 9) Zhv Zc ⟨22, 0, 22, 8⟩ ZhB) = some (.next, Zhz Zk2 429 w os, Zc, ⟨132, 0, 132, 8⟩) := by kernel_rfl
theorem Zg3 (w : World) (os : OsState) : ZhR Zhp w 11 (some (.ref 6)) 1 1000 (Zhz Zk2 429 w os) (piecesOf (((Zhl.drop 7).drop 9).take 13) Zhv Zc ⟨132, 0, 132, 8⟩ ZhB) = some (.next, Zhz Zk3 581 w os, Zc, ⟨207, 0, 218, 24⟩) := by kernel_rfl
theorem Zg4 (w : World) (os : OsState) : ZhR Zhp w 11 (some (.ref 6)) 1 1000 (Zhz Zk3 581 w os) (piecesOf (((Zhl.drop 7).drop 9).drop 13) Zhv Zc ⟨207, 0, 218, 24⟩ ZhB) = some (.next, Zhz Zhh 768 w os, Zc, ⟨399, 0, 423, 49⟩) := by kernel_rfl
theorem Zg5 (w : World) (os : OsState) : topRun treeTable Zhp w 11 (some (.ref 6)) 2 (Zhz Zhh 768 w os) ⟨doneF .next, Zc, ⟨399, 0, 423, 49⟩, ZhB⟩ = some (Zhz Zhh 768 w os) := by kernel_rfl
theorem ZgR {a : Program} {b : World} {c : Nat} {d : Option Value} {e f : Nat} {g : Shared} {h : Thread} {r : Option (Flow × Shared × Code × Pos)} (x : ZhR a b c d e f g h = r) : segRun treeTable a b c d e f g h = r := by
  rw [ZhRe]
  exact x
theorem ZgE {tb : String → Option Builtin} {p : Program} {w : World} {n N : Nat} {a : Option Value} {s : Shared} {b l : List Stmt} {v : Env} {c : Code} {q : Pos} {B : List Frame} {r : Option Shared} (e : b = l) (k : topRun tb p w n a N s (restOf l v c q B) = r) : topRun tb p w n a N s (restOf b v c q B) = r := e ▸ k
theorem Zgrun (w : World) (os : OsState) : topRun treeTable Zhp w 11 (some (.ref 6)) (12 + (1 + (1000 + (1000 + (1000 + (1000 + 2)))))) (Zhz boot_heap boot_toks w os) (topStub Zhp) = some (Zhz Zhh 768 w os) :=
  go_top (Zg0 w os) (piece_block (Zgb w os) (ZgE (Zhcut Zhl) (piece_app (ZgR (Zg1 w os)) (piece_app (ZgR (Zg2 w os)) (piece_app (ZgR (Zg3 w os)) (piece_app (ZgR (Zg4 w os)) (piece_nil (Zg5 w os))))))))
noncomputable abbrev Zhx (s : Shared) : Bool := xlAt qv [] s && recOk (RowW.records PySem.Challenge.rw_pq1083_01.row.toRowW) s
noncomputable abbrev Zhs (w : World) (os : OsState) := PySem.W.Fast.tw4187177175401517315 qv [] Zhm Zhx true (Zhz Zhh 768 w os)
theorem Zs1 (w : World) (os : OsState) : (staticsOk Zhm (boot_heap w.params) (Zhh w.params) && namesBound Zhp (Zhh w.params) && gensDone (Zhz Zhh 768 w os) && laidKept (boot_heap w.params) (Zhh w.params)) = true := by kernel_rfl
theorem Zs2 (w : World) (os : OsState) : Hk.obs (Zhz Zhh 768 w os) = Hk.val w := by kernel_rfl
theorem Zs3 (w : World) (os : OsState) : (Zhs w os).1 = expectedOf qv ∧ (Zhs w os).2.1 = bltViewBooted ∧ (Zhs w os).2.2.1 = true := ⟨by kernel_rfl, by kernel_rfl, by kernel_rfl⟩
theorem Zs4 (w : World) (os : OsState) : (Zhs w os).2.2.2.1 = true ∧ (Zhs w os).2.2.2.2.1 = pinGoodD (drecsOf qv) := ⟨by kernel_rfl, by kernel_rfl⟩
theorem Zs5 (w : World) (os : OsState) : (Zhs w os).2.2.2.2.2.1 = plainGoodE qv (looseW qv []) ∧ (Zhs w os).2.2.2.2.2.2.1 = plainGoodD qv [] := ⟨by kernel_rfl, by kernel_rfl⟩
theorem Zs6 (w : World) (os : OsState) : (Zhs w os).2.2.2.2.2.2.2.1 = wideGood qv ∧ (Zhs w os).2.2.2.2.2.2.2.2 = clsGoodW qv [] := ⟨by kernel_rfl, by kernel_rfl⟩
theorem Zs7 (w : World) (os : OsState) : Zhs w os = openGood qv [] := Prod.ext (Zs3 w os).1 (Prod.ext (Zs3 w os).2.1 (Prod.ext (Zs3 w os).2.2 (Prod.ext (Zs4 w os).1 (Prod.ext (Zs4 w os).2 (Prod.ext (Zs5 w os).1 (Prod.ext (Zs5 w os).2 (Prod.ext (Zs6 w os).1 (Zs6 w os).2)))))))
theorem left : LeftO PySem.Challenge.rw_pq1083_01.row.prog qv [] (fun s => xlAt qv [] s && recOk (RowW.records PySem.Challenge.rw_pq1083_01.row.toRowW) s) Hk.obs Hk.val 5372 :=
  LeftO.of_pieces (boot_open (by kernel_rfl) (by kernel_rfl) fun s => by kernel_rfl) (fun w => by kernel_rfl) Zgrun (by kernel_rfl)
    fun w => funext fun os => Prod.ext (Zs1 w os) (Prod.ext ((congrFun (congrFun (congrFun (congrFun (congrFun (congrFun PySem.W.Fast.te4187177175401517315 _) _) _) _) _) _).trans (Zs7 w os)) (Zs2 w os))
theorem Zwl : PySem.W.Fast.tw12908688711261696721 (PySem.W.Fast.tw2368527892694137696 PySem.Challenge.rw_pq1083_01).prog = true := by
  delta PySem.W.Fast.tw12908688711261696721
  repeat' with_reducible refine look_both ?_ ?_
  all_goals decide +kernel
theorem Zwr : PySem.W.Fast.tw17960256430627541270 (PySem.W.Fast.tw2368527892694137696 PySem.Challenge.rw_pq1083_01) = true := by
  delta PySem.W.Fast.tw17960256430627541270 PySem.W.Fast.tw2436336058641802641
  repeat' first | with_reducible exact Zwl | with_reducible refine look_both ?_ ?_
  all_goals kernel_rfl
theorem Zws : PySem.Challenge.rw_pq1083_01.wellSaid = true := by
  refine (congrFun PySem.W.Fast.te9446332074065402090 _).trans ?_
  delta PySem.W.Fast.tw9446332074065402090
  repeat' first | with_reducible exact Zwr | with_reducible refine look_both ?_ ?_
  all_goals kernel_rfl
noncomputable def dl : DefRec := match kP 53 with
  | .FunctionDef f ps b _ _ _ sc _ _ p => ⟨f, ps, b, sc, p⟩
  | _ => ⟨Str.ofString "", ⟨[], [], none, [], [], none, []⟩, [], ⟨.module, [], false, false, []⟩, ⟨0, 0, 0, 0⟩⟩
theorem hd (walk : WalkO qv [] (XL qv []) Hk.says PySem.Challenge.rw_pq1083_01.row.toRowW dl [] fun f vs => PySem.call f vs) : PySem.Challenge.rw_pq1083_01.Holds :=
  holds_law Zws fun said => holds_open (q := qv) (loose := []) (Xt := fun s => xlAt qv [] s && recOk (RowW.records PySem.Challenge.rw_pq1083_01.row.toRowW) s) (XP := XL qv []) (Yf := Hk.obs) (Ya := Hk.val) (YP := Hk.says) (N := 5372) left (Hook.of Hk) (Hook.keeps Hk)
    (fun s e => xl_of s (Bool.and_eq_true_iff.mp e).1) XL.keeps (by kernel_rfl) (by kernel_rfl) (by rfl) (fun s e => recFacts_of (Bool.and_eq_true_iff.mp e).2) (by rfl) said (by decide +kernel) ⟨rfl, rfl, rfl, rfl, rfl, by decide +kernel⟩ (by w_witness2) walk
theorem sz {n:Nat} (h:n<=100000):n<=sizeLine:=by rw [Bn6]; exact Be8 h (by decide)
theorem sz1 {n:Nat} (h:n<=100000):n + 1<=sizeLine:=by rw [Bn6]; exact Be8 (Bg4 h) (by decide)
theorem Ay5 {k n:Nat} (h:k < n):Cp9 (k:Int) n=some k:=by rw [StrLaws.seqIndex_nonneg (Bk0 k) (Bn2.mpr h)]; rfl
inductive V where
 | none
 | bool (b:Bool)
 | int (i:Int)
 | str (x:Str)
 | tup (vs:List V)
 | lst (vs:List V)
 | loc (a:Addr)
 | inst (C dx:Addr)
 | obj (C:Addr) (es:List (Str × V))
 deriving Inhabited
noncomputable instance:DecidableEq V:=fun _ _=>Classical.propDecidable _
mutual
inductive VR (g:Heap):Value->V->Prop
 | none:VR g .none .none
 | bool (b:Bool):VR g (.bool b) (.bool b)
 | int (i:Int) (t:Tok):VR g (.int i t) (.int i)
 | str (x:Str) (t:Tok):VR g (.str x t) (.str x)
 | tup {a:Addr} {o:Obj} {vs:Array Value} {n:Nat} {ds:List V}:g.get? a=some o->o.cls=.type "tuple"->o.data=.seq vs n->VRs g vs.toList ds->VR g (.ref a) (.tup ds)
 | lst {a:Addr} {o:Obj} {vs:Array Value} {n:Nat} {ds:List V}:g.get? a=some o->o.cls=.type "list"->o.data=.seq vs n->VRs g vs.toList ds->VR g (.ref a) (.lst ds)
 | loc (a:Addr):VR g (.ref a) (.loc a)
 | inst {x C dx:Addr}:g.get? x=some (instObj C dx)->VR g (.ref x) (.inst C dx)
 | obj {x C dx:Addr} {o:Obj} {es:Array DictEntry} {n:Nat} {as:List (Str × V)}:g.get? x=some (instObj C dx)->g.get? dx=some o->o.cls=.type "dict"->o.data=.dict es n->ARs g es.toList as->VR g (.ref x) (.obj C as)
inductive VRs (g:Heap):List Value->List V->Prop
 | nil:VRs g [] []
 | cons {v:Value} {d:V} {vs:List Value} {ds:List V}:VR g v d->VRs g vs ds->VRs g (v :: vs) (d :: ds)
inductive ARs (g:Heap):List DictEntry->List (Str × V)->Prop
 | nil:ARs g [] []
 | cons {e:DictEntry} {x:Str} {t:Tok} {d:V} {es:List DictEntry} {ds:List (Str × V)}:e.key=.str x t->VR g e.val d->ARs g es ds->ARs g (e :: es) ((x,d) :: ds)
end
theorem VR.mono {g g'} (k:g.StaysIn g') {v d} (h:VR g v d):VR g' v d:=
 VR.rec (motive_1:=fun v d _=>VR g' v d) (motive_2:=fun v d _=>VRs g' v d) (motive_3:=fun v d _=>ARs g' v d) .none .bool .int .str (fun h1 h2 h3 _ h=>.tup (k _ _ h1) h2 h3 h) (fun h1 h2 h3 _ h=>.lst (k _ _ h1) h2 h3 h) .loc (fun h=>.inst (k _ _ h)) (fun h1 h2 h3 h4 _ h=>.obj (k _ _ h1) (k _ _ h2) h3 h4 h) .nil (fun _ _ h1 h2=>.cons h1 h2) .nil (fun e _ _ h1 h2=>.cons e h1 h2) h
noncomputable def VRi (g:Heap) (v:Value):V->Prop
 | .none=>v=.none
 | .bool b=>v=.bool b
 | .int i=>∃ t,v=.int i t
 | .str x=>∃ t,v=.str x t
 | .loc a=>v=.ref a
 | .tup ds=>∃ a o vs n,v=.ref a/\g.get? a=some o/\o.cls=.type "tuple"/\o.data=.seq vs n/\VRs g vs.toList ds
 | .lst ds=>∃ a o vs n,v=.ref a/\g.get? a=some o/\o.cls=.type "list"/\o.data=.seq vs n/\VRs g vs.toList ds
 | _=>True
theorem VR.inv {g v d} (h:VR g v d):VRi g v d:=by
 induction h using VR.casesOn with
 | none=>exact rfl
 | bool b=>exact rfl
 | int i t=>exact ⟨t,rfl⟩
 | str x t=>exact ⟨t,rfl⟩
 | loc a=>exact rfl
 | tup h1 h2 h3 h4=>exact ⟨_,_,_,_,rfl,h1,h2,h3,h4⟩
 | lst h1 h2 h3 h4=>exact ⟨_,_,_,_,rfl,h1,h2,h3,h4⟩
 | _=>exact trivial
theorem VRs.Ak9 {g vs} (h:VRs g vs []):vs=[]:=by cases h; rfl
theorem VRs.inv {g vs d ds} (h:VRs g vs (d :: ds)):∃ v us,vs=v :: us/\VR g v d/\VRs g us ds:=by cases h with | cons a t=>exact ⟨_,_,rfl,a,t⟩
theorem VRs.mono {g g'} (k:g.StaysIn g') {v d} (h:VRs g v d):VRs g' v d:=by
 induction d generalizing v with
 | nil=>obtain rfl:=h.Ak9; exact .nil
 | cons d r ih=>obtain ⟨_,_,rfl,a,t⟩:=h.inv; exact .cons (a.mono k) (ih t)
theorem ARs.mono {g g'} (k:g.StaysIn g') {v d} (h:ARs g v d):ARs g' v d:=by
 induction d generalizing v with
 | nil=>cases h; exact .nil
 | cons d r ih=>cases h with | cons e a t=>exact .cons e (a.mono k) (ih t)
theorem VRs.length {g vs ds} (h:VRs g vs ds):vs.length=ds.length:=by
 induction ds generalizing vs with
 | nil=>obtain rfl:=h.Ak9; rfl
 | cons d r ih=>cases h with | cons _ t=>simp [ih t]
theorem VRs.append {g vs us ds es} (h:VRs g vs ds) (k:VRs g us es):VRs g (vs ++ us) (ds ++ es):=by
 induction ds generalizing vs with
 | nil=>obtain rfl:=h.Ak9; exact k
 | cons d r ih=>obtain ⟨_,_,rfl,a,t⟩:=h.inv; exact .cons a (ih t)
theorem VRs.one {g v d} (h:VR g v d):VRs g [v] [d]:=.cons h .nil
theorem VRs.get {g:Heap} {vs:List Value} {ds:List V} (h:VRs g vs ds) {k:Nat} {d:V} (e:ds[k]?=some d):∃ v,vs[k]?=some v/\VR g v d:=by
 induction ds generalizing vs k with
 | nil=>cases e
 | cons d0 r ih=>
  obtain ⟨v,_,rfl,a,t⟩:=h.inv
  cases k with
  | zero=>cases e; exact ⟨v,rfl,a⟩
  | succ k=>exact ih t (k:=k) e
theorem VRs.drop {g vs ds} (h:VRs g vs ds) (k:Nat):VRs g (vs.drop k) (ds.drop k):=by
 induction ds generalizing vs k with
 | nil=>obtain rfl:=h.Ak9; exact (by rw [List.drop_nil,List.drop_nil]; exact .nil)
 | cons d0 r ih=>obtain ⟨_,_,rfl,a,t⟩:=h.inv; cases k with | zero=>exact .cons a t | succ k=>exact ih t k
theorem VRs.take {g vs ds} (h:VRs g vs ds) (k:Nat):VRs g (vs.take k) (ds.take k):=by
 induction ds generalizing vs k with
 | nil=>obtain rfl:=h.Ak9; exact (by rw [List.take_nil,List.take_nil]; exact .nil)
 | cons d0 r ih=>obtain ⟨_,_,rfl,a,t⟩:=h.inv; cases k with | zero=>exact .nil | succ k=>exact .cons a (ih t k)
theorem VRs.set {g vs ds} (h:VRs g vs ds) (k:Nat) {v d} (e:VR g v d):VRs g (vs.set k v) (ds.set k d):=by
 induction ds generalizing vs k with
 | nil=>obtain rfl:=h.Ak9; exact (.nil)
 | cons d0 r ih=>obtain ⟨_,_,rfl,a,t⟩:=h.inv; cases k with | zero=>exact .cons e t | succ k=>exact .cons a (ih t k)
theorem VRs.reverse {g vs ds} (h:VRs g vs ds):VRs g vs.reverse ds.reverse:=by
 induction ds generalizing vs with
 | nil=>obtain rfl:=h.Ak9; exact .nil
 | cons d0 r ih=>obtain ⟨_,_,rfl,a,t⟩:=h.inv; rw [Cd4,Cd4]; exact (ih t).append (.one a)
theorem VRs.eraseIdx {g vs ds} (h:VRs g vs ds) (k:Nat):VRs g (vs.eraseIdx k) (ds.eraseIdx k):=by
 induction ds generalizing vs k with
 | nil=>obtain rfl:=h.Ak9; exact (.nil)
 | cons d0 r ih=>obtain ⟨_,_,rfl,a,t⟩:=h.inv; cases k with | zero=>exact t | succ k=>exact .cons a (ih t k)
inductive O where
 | list (vs:List V)
 | A5 (es:List (Str × V))
 | Acf (es:List (Int × V))
 | Ad (es:List (V × V))
 | attrs (es:List (Str × V))
noncomputable abbrev Sto:=Addr->Option O
noncomputable abbrev A8:=Str->Option V
noncomputable def Sto.put (σ:Sto) (a:Addr) (o:O):Sto:=fun b=>if b=a then some o else σ b
noncomputable def Sto.del (σ:Sto) (a:Addr):Sto:=fun b=>if b=a then none else σ b
noncomputable def A8.put (m:A8) (x:Str) (v:V):A8:=fun y=>if y=x then some v else m y
theorem Sto.A0 (σ:Sto) (a:Addr) (o:O):σ.put a o a=some o:=if_pos rfl
theorem Sto.A4 (σ:Sto) {a b} (o:O) (h:b≠a):σ.put a o b=σ b:=if_neg h
open Classical in
noncomputable def Ag9 (h:Heap) (P:Addr->Prop):Heap:=⟨h.objs.mapIdx fun i o=>if P i then { o with data:=.freed } else o,h.life⟩
open Classical in
theorem Ael (h:Heap) (P:Addr->Prop) (a:Addr):(Ag9 h P).get? a=if P a then none else h.get? a:=by
 have e:(Ag9 h P).objs[a]?=(h.objs[a]?).map fun o=>if P a then { o with data:=.freed } else o:=Array.getElem?_mapIdx
 unfold Heap.get?
 rw [e]
 cases h.objs[a]? with
 | none=>exact (ite_self none).symm
 | some o=>
  rw [Bl6]
  by_cases p:P a
  · rw [if_pos p,if_pos p]
  · rw [if_neg p,if_neg p]
theorem Aia {h P a o}:(Ag9 h P).get? a=some o ↔ ¬ P a/\h.get? a=some o:=by
 rw [Ael]
 by_cases p:P a
 · rw [if_pos p]; exact ⟨fun h=>(nomatch h),fun h=>absurd p h.1⟩
 · rw [if_neg p]; exact ⟨fun h=>⟨p,h⟩,fun h=>h.2⟩
noncomputable def Ahg (o:Obj):Prop:=o.cls=.type "frame"/\∃ es n,o.data=.dict es n
noncomputable def Keeps (k h:Heap):Prop:=∀ b o,k.get? b=some o->h.get? b=some o∨(Ahg o/\∃ sl,h.get? b=some { o with slots:=sl })
theorem Keeps.refl (h:Heap):Keeps h h:=fun _ _ e=>.inl e
theorem Keeps.trans {a b c} (x:Keeps a b) (y:Keeps b c):Keeps a c:=fun p o e=>by
 rcases x p o e with h | ⟨f,sl,h⟩
 · exact y p o h
 · rcases y p _ h with h' | ⟨_,sl',h'⟩
   · exact .inr ⟨f,sl,h'⟩
   · exact .inr ⟨f,sl',h'⟩
theorem Keeps.of_stays {k h} (x:k.StaysIn h):Keeps k h:=fun b o e=>.inl (x b o e)
theorem Keeps.stays {k h h'} (x:Keeps k h) (y:h.StaysIn h'):Keeps k h':=x.trans (.of_stays y)
theorem Keeps.some {k h} (x:Keeps k h) {b o} (e:k.get? b=some o):∃ o',h.get? b=some o'/\o'.data=o.data/\o'.cls=o.cls:=by
 rcases x b o e with h | ⟨_,sl,h⟩
 · exact ⟨_,h,rfl,rfl⟩
 · exact ⟨_,h,rfl,rfl⟩
mutual
noncomputable def V.dat:V->Bool
 | .none=>true
 | .int _=>true
 | .str _=>true
 | .tup vs=>V.Bf vs
 | .lst vs=>V.Bf vs
 | _=>false
noncomputable def V.Bf:List V->Bool
 | []=>true
 | v :: r=>v.dat && V.Bf r
end
mutual
noncomputable def V.dep:V->Nat
 | .tup vs=>V.Be vs + 1
 | .lst vs=>V.Be vs + 1
 | _=>0
noncomputable def V.Be:List V->Nat
 | []=>0
 | v :: r=>max v.dep (V.Be r)
end
theorem VR.isTup {h v ds} (k:VR h v (.tup ds)):∃ a items,v=.ref a/\h.IsTuple a items/\VRs h items.toList ds:=by
 obtain ⟨_,_,_,_,rfl,h1,h2,h3,h4⟩:=k.inv; exact ⟨_,_,rfl,⟨_,h1,h2,_,h3⟩,h4⟩
theorem VR.Atw {h v ds} (k:VR h v (.lst ds)):∃ a items,v=.ref a/\h.IsList a items/\VRs h items.toList ds:=by
 obtain ⟨_,_,_,_,rfl,h1,h2,h3,h4⟩:=k.inv; exact ⟨_,_,rfl,⟨_,h1,h2,_,h3⟩,h4⟩
theorem V.ind {p:V->Prop} {q:List V->Prop} (h1:p .none) (h2:∀ b,p (.bool b)) (h3:∀ i,p (.int i)) (h4:∀ x,p (.str x)) (h5:∀ vs,q vs->p (.tup vs)) (h6:∀ vs,q vs->p (.lst vs)) (h7:∀ a,p (.loc a)) (h8:∀ C a,p (.inst C a)) (h9:∀ C es,p (.obj C es))
  (hn:q []) (hc:∀ v r,p v->q r->q (v :: r)):(∀ v,p v)/\∀ l,q l:=
 have k:∀ v,p v:=fun v=>V.rec (motive_1:=p) (motive_2:=q) (motive_3:=fun _=>True) (motive_4:=fun _=>True) h1 h2 h3 h4 h5 h6 h7 h8 (fun C es _=>h9 C es) hn hc trivial (fun _ _ _ _=>trivial) (fun _ _ _=>trivial) v
 ⟨k,fun l=>List.rec (motive:=q) hn (fun v r h=>hc v r (k v) h) l⟩
theorem Aok {a b} (h:(a && b)=true):a=true:=(Bw7.mp h).1
theorem At0 {a b} (h:(a && b)=true):b=true:=(Bw7.mp h).2
theorem V.Bc1 {p:V->Prop} {q:List V->Prop} (h1:p .none) (h3:∀ i,p (.int i)) (h4:∀ x,p (.str x)) (h5:∀ vs,V.Bf vs=true->q vs->p (.tup vs)) (h6:∀ vs,V.Bf vs=true->q vs->p (.lst vs)) (hn:q []) (hc:∀ v r,p v->q r->q (v :: r)) :
  (∀ v,v.dat=true->p v)/\∀ l,V.Bf l=true->q l:=
 V.ind (p:=fun v=>v.dat=true->p v) (q:=fun l=>V.Bf l=true->q l) (fun _=>h1) (fun _ h=>absurd h Bg6) (fun i _=>h3 i) (fun x _=>h4 x) (fun vs ih h=>h5 vs h (ih h)) (fun vs ih h=>h6 vs h (ih h)) (fun _ h=>absurd h Bg6) (fun _ _ h=>absurd h Bg6) (fun _ _ h=>absurd h Bg6)
  (fun _=>hn) fun v r i1 i2 h=>hc v r (i1 (Aok h)) (i2 (At0 h))
inductive Ax9 (g:Heap) (a:Addr):V->Prop
 | off {d:V} (h:d.dat=false):Ax9 g a d
 | tup {o:Obj} {vs:Array Value} {n:Nat} {ds:List V} (h1:g.get? a=some o) (h2:o.cls=.type "tuple") (h3:o.data=.seq vs n) (h4:VRs g vs.toList ds):Ax9 g a (.tup ds)
 | lst {o:Obj} {vs:Array Value} {n:Nat} {ds:List V} (h1:g.get? a=some o) (h2:o.cls=.type "list") (h3:o.data=.seq vs n) (h4:VRs g vs.toList ds):Ax9 g a (.lst ds)
noncomputable def VRv (g:Heap) (v:Value) (d:V):Prop:=match v with
 | .int i _=>d=.int i
 | .str x _=>d=.str x
 | .none=>d=.none
 | .ref a=>Ax9 g a d
 | _=>True
theorem VR.Ay0 {g v d} (h:VR g v d):VRv g v d:=by
 induction h using VR.casesOn with
 | none=>exact rfl
 | int i t=>exact rfl
 | str x t=>exact rfl
 | bool b=>exact trivial
 | tup h1 h2 h3 h4=>exact .tup h1 h2 h3 h4
 | lst h1 h2 h3 h4=>exact .lst h1 h2 h3 h4
 | _=>exact .off rfl
theorem VR.Bcq {g:Heap}:(∀ a:V,a.dat=true->∀ {v:Value} {b:V},VR g v a->VR g v b->b.dat=true->a=b)/\∀ l:List V,V.Bf l=true->∀ {v:List Value} {b:List V},VRs g v l->VRs g v b->V.Bf b=true->l=b:=by
 refine V.Bc1 (p:=fun a=>∀ {v:Value} {b:V},VR g v a->VR g v b->b.dat=true->a=b) (q:=fun l=>∀ {v:List Value} {b:List V},VRs g v l->VRs g v b->V.Bf b=true->l=b) ?_ ?_ ?_ ?_ ?_ ?_ ?_
 · intro v b h k _
   obtain rfl:=h.inv; exact (show b=V.none from k.Ay0).symm
 · intro i v b h k _
   obtain ⟨_,rfl⟩:=h.inv; exact (show b=V.int i from k.Ay0).symm
 · intro x v b h k _
   obtain ⟨_,rfl⟩:=h.inv; exact (show b=V.str x from k.Ay0).symm
 · intro vs _ ih v b h k hb
   obtain ⟨a,o,us,n,rfl,h1,h2,h3,h4⟩:=h.inv
   cases (show Ax9 g a b from k.Ay0) with
   | off f=>rw [f] at hb; cases hb
   | tup k1 k2 k3 k4=>rw [h1] at k1; cases k1; rw [h3] at k3; cases k3; rw [ih h4 k4 hb]
   | lst k1 k2 k3 k4=>rw [h1] at k1; cases k1; rw [h2] at k2; exact absurd k2 (by decide)
 · intro vs _ ih v b h k hb
   obtain ⟨a,o,us,n,rfl,h1,h2,h3,h4⟩:=h.inv
   cases (show Ax9 g a b from k.Ay0) with
   | off f=>rw [f] at hb; cases hb
   | lst k1 k2 k3 k4=>rw [h1] at k1; cases k1; rw [h3] at k3; cases k3; rw [ih h4 k4 hb]
   | tup k1 k2 k3 k4=>rw [h1] at k1; cases k1; rw [h2] at k2; exact absurd k2 (by decide)
 · intro v b h k _
   obtain rfl:=h.Ak9
   cases k; rfl
 · intro x r i1 i2 v b h k hb
   obtain ⟨v,us,rfl,h1,h2⟩:=h.inv
   cases k with | cons k1 k2=>rw [i1 h1 k1 (Aok hb),i2 h2 k2 (At0 hb)]
theorem VR.inj {g v a b} (h:VR g v a) (k:VR g v b) (ha:a.dat=true) (hb:b.dat=true):a=b:=VR.Bcq.1 a ha h k hb
theorem Af4 {p q:Prop} [Decidable p] [Decidable q] (h:p ↔ q):decide p=decide q:=by
 by_cases k:q
 · rw [decide_eq_true k,decide_eq_true (h.mpr k)]
 · rw [decide_eq_false k,decide_eq_false (fun x=>k (h.mp x))]
theorem Adp (xs:List V):∀ ys:List V,((Bi1 (min xs.length ys.length)).all (fun j=>decide (xs.getD j .none=ys.getD j .none)) && xs.length == ys.length)=decide (xs=ys):=by
 induction xs with
 | nil=>
  intro ys
  cases ys with
  | nil=>exact (decide_eq_true rfl).symm
  | cons _ _=>exact (decide_eq_false (fun e=>nomatch e)).symm
 | cons x xs ih=>
  intro ys
  cases ys with
  | nil=>exact (decide_eq_false (fun e=>nomatch e)).symm
  | cons y ys=>
   rw [show min (x :: xs).length (y :: ys).length=min xs.length ys.length + 1 from Ck7 ..,By9,Bw0,List.all_map,Bool.and_assoc]
   have ih:=ih ys
   show (decide (x=y) && _)=_
   by_cases q:x=y
   · rw [decide_eq_true q,Bool.true_and]
     refine Eq.trans ?_ (ih.trans (Af4 ⟨fun h=>by rw [q,h],fun h=>(List.cons.inj h).2⟩))
     exact congrArg (_ && ·) (Af4 ⟨Ca9,congrArg Nat.succ⟩)
   · rw [decide_eq_false q,Co6]
     exact (decide_eq_false fun h=>q (List.cons.inj h).1).symm
theorem Ahf {xs ys:List V} (h:xs.length=ys.length):(Bi1 xs.length).all (fun j=>decide (xs.getD j .none=ys.getD j .none))=decide (xs=ys):=by
 have:=Adp xs ys
 rw [<- h,Nat.min_self] at this
 rwa [beq_self_eq_true,Cj7] at this
noncomputable def V.tg:V->Nat
 | .none=>0 | .bool _=>1 | .int _=>2 | .str _=>3 | .tup _=>4 | .lst _=>5 | .loc _=>6 | .inst ..=>7 | .obj ..=>8
theorem tgN {a b:V} (h:Nat.beq a.tg b.tg=false):a≠b:=fun e=>by rw [e,Nat.beq_refl] at h; cases h
theorem Ah4 {g:Heap} {vs:Array Value} {ds:List V} (h:VRs g vs.toList ds):vs.size=ds.length:=by rw [<- h.length,Bg5]
theorem Apq {xs ys}:decide (V.tup xs=V.tup ys)=decide (xs=ys):=Af4 ⟨V.tup.inj,congrArg _⟩
theorem Apn {xs ys}:decide (V.lst xs=V.lst ys)=decide (xs=ys):=Af4 ⟨V.lst.inj,congrArg _⟩
theorem Aqe (x y:Int):(x == y)=decide (V.int x=V.int y):=Af4 ⟨congrArg _,V.int.inj⟩
theorem Arh (x y:Str):(x == y)=decide (V.str x=V.str y):=Af4 ⟨congrArg _,V.str.inj⟩
theorem eqB {A s u v b c} (h:By8 A s u v b) (e:b=c):By8 A s u v c:=e ▸ h
theorem eqF {A:Around} {s:Shared} {u v:Value} {a b:V} (h:By8 A s u v false) (n:Nat.beq a.tg b.tg=false):By8 A s u v (decide (a=b)):=by rw [decide_eq_false (tgN n)]; exact h
theorem eqT {A:Around} {s:Shared} {u v:Value} {a:V} (h:By8 A s u v true):By8 A s u v (decide (a=a)):=by rw [decide_eq_true rfl]; exact h
open SeqAt in
theorem VR.eqA:(∀ a:V,a.dat=true->∀ (b:V) (A:Around) (s:Shared) (u v:Value),VR s.heap u a->VR s.heap v b->b.dat=true->A.units + min a.dep b.dep < cLine->EqAt A s u v (decide (a=b))) ∧
   ∀ xs:List V,V.Bf xs=true->∀ (ys:List V) (A:Around) (s:Shared) (vs ws:List Value),VRs s.heap vs xs->VRs s.heap ws ys->V.Bf ys=true ->
    A.units + min (V.Be xs) (V.Be ys) < cLine->∀ j (h1:j < vs.length) (h2:j < ws.length),EqAt A s vs[j] ws[j] (decide (xs.getD j .none=ys.getD j .none)):=by
 refine V.Bc1 (p:=fun a=>∀ (b:V) (A:Around) (s:Shared) (u v:Value),VR s.heap u a->VR s.heap v b->b.dat=true->A.units + min a.dep b.dep < cLine->EqAt A s u v (decide (a=b)))
   (q:=fun xs=>∀ (ys:List V) (A:Around) (s:Shared) (vs ws:List Value),VRs s.heap vs xs->VRs s.heap ws ys->V.Bf ys=true ->
    A.units + min (V.Be xs) (V.Be ys) < cLine->∀ j (h1:j < vs.length) (h2:j < ws.length),EqAt A s vs[j] ws[j] (decide (xs.getD j .none=ys.getD j .none))) ?_ ?_ ?_ ?_ ?_ ?_ ?_
 · intro b A s u v ra rb hb hu
   obtain rfl:=ra.inv
   induction rb using VR.casesOn with
   | none=>exact eqT (EqAt.same _)
   | int y u=>exact eqF (EqAt.none_int y u) rfl
   | str y u=>exact eqF (EqAt.none_str y u) rfl
   | lst k1 k2 k3 k4=>exact eqF (EqAt.none_list ⟨_,k1,k2,_,k3⟩ (room_here hu)) rfl
   | tup k1 k2 k3 k4=>exact eqF (EqAt.none_tuple ⟨_,k1,k2,_,k3⟩ (room_here hu)) rfl
   | _=>exact absurd hb Bg6
 · intro x b A s u v ra rb hb hu
   obtain ⟨t,rfl⟩:=ra.inv
   induction rb using VR.casesOn with
   | none=>exact eqF (EqAt.int_none x t) rfl
   | int y u=>exact eqB (EqAt.int_int x t y u) (Aqe x y)
   | str y u=>exact eqF (EqAt.int_str x t y u) rfl
   | lst k1 k2 k3 k4=>exact eqF (EqAt.int_list x t ⟨_,k1,k2,_,k3⟩ (room_here hu)) rfl
   | tup k1 k2 k3 k4=>exact eqF (EqAt.int_tuple x t ⟨_,k1,k2,_,k3⟩ (room_here hu)) rfl
   | _=>exact absurd hb Bg6
 · intro x b A s u v ra rb hb hu
   obtain ⟨t,rfl⟩:=ra.inv
   induction rb using VR.casesOn with
   | none=>exact eqF (EqAt.str_none x t) rfl
   | int y u=>exact eqF (EqAt.str_int x t y u) rfl
   | str y u=>exact eqB (EqAt.str_str x t y u) (Arh x y)
   | lst k1 k2 k3 k4=>exact eqF (EqAt.str_list x t ⟨_,k1,k2,_,k3⟩ (room_here hu)) rfl
   | tup k1 k2 k3 k4=>exact eqF (EqAt.str_tuple x t ⟨_,k1,k2,_,k3⟩ (room_here hu)) rfl
   | _=>exact absurd hb Bg6
 · intro xs ha ih b A s u v ra rb hb hu
   have ra':=ra
   obtain ⟨l,o,vs,n,rfl,h1,h2,h3,h4⟩:=ra.inv
   have hl:s.heap.IsTuple l vs:=⟨_,h1,h2,_,h3⟩
   have rb':=rb
   induction rb using VR.casesOn with
   | none=>exact eqF (EqAt.tuple_none hl (room_here hu)) rfl
   | int y u=>exact eqF (EqAt.tuple_int y u hl (room_here hu)) rfl
   | str y u=>exact eqF (EqAt.tuple_str y u hl (room_here hu)) rfl
   | lst k1 k2 k3 k4=>exact eqF (EqAt.tuple_list hl ⟨_,k1,k2,_,k3⟩ (room_here hu)) rfl
   | @tup l' o' vs' n' ys k1 k2 k3 k4=>
    have hl':s.heap.IsTuple l' vs':=⟨_,k1,k2,_,k3⟩
    by_cases hll:l=l'
    · subst hll
      rw [VR.inj ra' rb' ha hb]
      exact eqT (EqAt.same _)
    · rw [Apq,<- Adp xs ys,<- Ah4 h4,<- Ah4 k4]
      refine EqAt.of_refs hll (RcAt.tuples hl hl' (room_here hu) fun j j1 j2=>?_)
      exact ih ys A.in1 s vs.toList vs'.toList h4 k4 hb (room_in hu) j (Bg5 ▸ j1) (Bg5 ▸ j2)
   | _=>exact absurd hb Bg6
 · intro xs ha ih b A s u v ra rb hb hu
   have ra':=ra
   obtain ⟨l,o,vs,n,rfl,h1,h2,h3,h4⟩:=ra.inv
   have hl:s.heap.IsList l vs:=⟨_,h1,h2,_,h3⟩
   have rb':=rb
   induction rb using VR.casesOn with
   | none=>exact eqF (EqAt.list_none hl (room_here hu)) rfl
   | int y u=>exact eqF (EqAt.list_int y u hl (room_here hu)) rfl
   | str y u=>exact eqF (EqAt.list_str y u hl (room_here hu)) rfl
   | tup k1 k2 k3 k4=>exact eqF (EqAt.list_tuple hl ⟨_,k1,k2,_,k3⟩ (room_here hu)) rfl
   | @lst l' o' vs' n' ys k1 k2 k3 k4=>
    have hl':s.heap.IsList l' vs':=⟨_,k1,k2,_,k3⟩
    have n1:=Ah4 h4
    have n2:=Ah4 k4
    by_cases hll:l=l'
    · subst hll
      rw [VR.inj ra' rb' ha hb]
      exact eqT (EqAt.same _)
    · rw [Apn]
      by_cases hsz:vs.size=vs'.size
      · rw [<- Ahf (n1.symm.trans (hsz.trans n2)),<- n1]
        refine EqAt.of_refs hll (RcAt.lists hl hl' hsz (room_here hu) fun j j1 j2=>?_)
        exact ih ys A.in1 s vs.toList vs'.toList h4 k4 hb (room_in hu) j (Bg5 ▸ j1) (Bg5 ▸ j2)
      · rw [decide_eq_false (fun e=>hsz (by rw [n1,n2,e]))]
        exact EqAt.of_refs hll (RcAt.lists_lengths hl hl' (bne_iff_ne.mpr hsz) (room_here hu))
   | _=>exact absurd hb Bg6
 · intro ys A s vs ws ra rb hb hu j h1 h2
   obtain rfl:=ra.Ak9
   exact absurd h1 (Cn5 _)
 · intro x xs i1 i2 ys A s vs ws ra rb hb hu j h1 h2
   obtain ⟨v,us,rfl,r,rs⟩:=ra.inv
   induction rb using VRs.casesOn with
   | nil=>exact absurd h2 (Cn5 _)
   | cons r' rs'=>
    cases j with
    | zero=>exact i1 _ A s _ _ r r' (Aok hb) (room_head hu)
    | succ j=>exact i2 _ A s _ _ rs rs' (At0 hb) (room_tail hu) j (Nat.lt_of_succ_lt_succ h1) (Nat.lt_of_succ_lt_succ h2)
theorem VR.Axj (a b:V) (A:Around) (s:Shared) (u v:Value) (ra:VR s.heap u a) (rb:VR s.heap v b) (ha:a.dat=true) (hb:b.dat=true) (hu:A.units + min a.dep b.dep < cLine):By8 A s u v (decide (a=b)):=VR.eqA.1 a ha b A s u v ra rb hb hu
theorem VRs.Axj (xs ys:List V) (A:Around) (s:Shared) (vs ws:List Value) (ra:VRs s.heap vs xs) (rb:VRs s.heap ws ys) (ha:V.Bf xs=true) (hb:V.Bf ys=true)
 (hu:A.units + min (V.Be xs) (V.Be ys) < cLine) (j:Nat) (h1:j < vs.length) (h2:j < ws.length):By8 A s vs[j] ws[j] (decide (xs.getD j .none=ys.getD j .none)):=VR.eqA.2 xs ha ys A s vs ws ra rb hb hu j h1 h2
mutual
noncomputable def V.key:V->Bool
 | .int _=>true
 | .str _=>true
 | .tup vs=>V.keys vs
 | _=>false
noncomputable def V.keys:List V->Bool
 | []=>true
 | v :: r=>v.key && V.keys r
end
theorem V.Azq {p:V->Prop} {q:List V->Prop} (h3:∀ i,p (.int i)) (h4:∀ x,p (.str x)) (h5:∀ vs,q vs->p (.tup vs)) (hn:q []) (hc:∀ v r,p v->q r->q (v :: r)):(∀ v,v.key=true->p v)/\∀ l,V.keys l=true->q l:=
 V.ind (p:=fun v=>v.key=true->p v) (q:=fun l=>V.keys l=true->q l) (fun h=>absurd h Bg6) (fun _ h=>absurd h Bg6) (fun i _=>h3 i) (fun x _=>h4 x) (fun vs ih h=>h5 vs (ih h)) (fun vs ih h=>absurd h Bg6) (fun _ h=>absurd h Bg6) (fun _ _ h=>absurd h Bg6) (fun _ _ h=>absurd h Bg6)
  (fun _=>hn) fun v r i1 i2 h=>hc v r (i1 (Aok h)) (i2 (At0 h))
theorem V.Avl:(∀ d:V,d.key=true->d.dat=true)/\∀ l:List V,V.keys l=true->V.Bf l=true:=
 V.Azq (fun _=>rfl) (fun _=>rfl) (fun _ h=>h) rfl fun v r h k=>by show (v.dat && V.Bf r)=true; rw [h,k]; rfl
theorem V.Aal (d:V) (h:d.key=true):d.dat=true:=V.Avl.1 d h
mutual
noncomputable def Ala (w:World):V->Int
 | .int i=>hashInt i
 | .str x=>hashStr w x
 | .tup vs=>Cf7 (Bo6 (Afh w vs))
 | _=>0
noncomputable def Afh (w:World):List V->List Int
 | []=>[]
 | v :: r=>Ala w v :: Afh w r
end
mutual
noncomputable def Aig:V->Nat
 | .tup vs=>Agl vs + 1
 | _=>1
noncomputable def Agl:List V->Nat
 | []=>0
 | v :: r=>Aig v + Agl r
end
theorem VR.Avi {h h':Heap} {d:Addr} {o:Obj} {es:Array DictEntry} {ep:Nat} (ho:h.get? d=some o) (hd:o.data=.dict es ep) (hs:Bq8 d h h') :
  (∀ a:V,a.key=true->∀ {v:Value},VR h v a->VR h' v a)/\∀ l:List V,V.keys l=true->∀ {v:List Value},VRs h v l->VRs h' v l:=
 V.Azq (p:=fun a=>∀ {v:Value},VR h v a->VR h' v a) (q:=fun l=>∀ {v:List Value},VRs h v l->VRs h' v l) (fun i v r=>by obtain ⟨t,rfl⟩:=r.inv; exact .int i t) (fun x v r=>by obtain ⟨t,rfl⟩:=r.inv; exact .str x t)
  (fun vs ih v r=>by
   obtain ⟨a,o',us,n,rfl,h1,h2,h3,h4⟩:=r.inv
   exact .tup ((hs.2 a (by rintro rfl; rw [ho] at h1; cases h1; rw [hd] at h3; cases h3)).trans h1) h2 h3 (ih h4))
  (fun r=>by obtain rfl:=r.Ak9; exact .nil) fun v l i1 i2 vs r=>by obtain ⟨_,_,rfl,h1,h2⟩:=r.inv; exact .cons (i1 h1) (i2 h2)
theorem VR.Atg {h h' d o es ep} (ho:h.get? d=some o) (hd:o.data=.dict es ep) (hs:Bq8 d h h') {v a} (r:VR h v a) (k:a.key=true):VR h' v a:=(VR.Avi ho hd hs).1 a k r
section
variable {prog:Program} {w:World}
theorem Ar9 {A E s a o items n hs dr Q} (hu:A.units < cLine)
   (ho:s.heap.get? a=some o) (hc:o.cls=.type "tuple") (hd:o.data=.seq items n)
   (its:∀ (E:Value->Shared->Prop) (I:Array Int->Shared->Prop),I hs.toArray { s with toks:=s.toks + dr } ->
    wpAny (model prog w) A.in1 (forIn items.toList #[] fun x b=>do let h <- pyHash x; pure (.yield (b.push h))) I E s)
   (h:Q (Cf7 (Bo6 hs)) { s with toks:=s.toks + (dr + 1) }):wpAny (model prog w) A (pyHash (.ref a)) Q E s:=by
 have hT:s.TypeIs (.ref a) "tuple":=⟨o,ho,hc⟩
 unfold pyHash
 first | unfold pyHashByItsType | skip
 first | refine Be9 (wpAny_cRoomFor_or (.inr hu) ?_) | skip
 refine Be9 (Cc8 hT Cf0.lookup ?_)
 show wpAny _ _ (if (some (Value.builtin "tuple.__hash__") == some Value.none)=true then _ else _) Q E s
 rw [if_neg (by rw [Cp0]; exact Bg6)]
 refine Be9 (Cc8 hT Cf0.lookup ?_)
 show wpAny _ _ (callSpecialIfBoundUnlessNone? (.ref a) "__hash__" _ >>= _) Q E s
 refine Be9 (wpAny_callSpecialIfBoundUnlessNone?_slot hT Cf0 (Br4 Cf0 hT F.entry_tuple_hash ?_ (F.args_tuple_hash_1 _)))
 show wpAny _ _ (Bi9.Tuple.tupleItemsOf (.ref a) >>= _) _ _ s
 refine Be9 (wpAny_tupleItemsOf ho hd ?_)
 refine Be9 ?_
 rw [<- Array.forIn_toList]
 refine its _ _ ?_
 show wpAny _ _ (retInt (Bo6 hs.toArray.toList)) _ _ _
 refine wpAny_ret_mkInt ?_
 show wpAny _ _ (if (decide (-(2:Int) ^ 63<=Bo6 hs) && decide (Bo6 hs < 2 ^ 63))=true then _ else _) Q E _
 unfold Cf7 at h
 by_cases hr:(decide (-(2:Int) ^ 63<=Bo6 hs) && decide (Bo6 hs < 2 ^ 63))=true
 · rw [if_pos hr]
   rw [if_pos hr] at h
   exact Bf6 h
 · rw [if_neg hr]
   rw [if_neg hr] at h
   exact Be9 (wpAny_rule (Bf6 h))
theorem Avp:(∀ d:V,d.key=true->∀ (A:Around) (E:Value->Shared->Prop) (s:Shared) (v:Value) (Q:Int->Shared->Prop),VR s.heap v d->A.units + d.dep < cLine->Q (Ala w d) { s with toks:=s.toks + Aig d }->wpAny (model prog w) A (pyHash v) Q E s) ∧
   ∀ ds:List V,V.keys ds=true->∀ (A:Around) (E:Value->Shared->Prop) (s:Shared) (vs:List Value) (b:Array Int) (I:Array Int->Shared->Prop),VRs s.heap vs ds->A.units + V.Be ds < cLine ->
    I (b ++ (Afh w ds).toArray) { s with toks:=s.toks + Agl ds }->wpAny (model prog w) A (forIn vs b fun x b=>do let h <- pyHash x; pure (.yield (b.push h))) I E s:=by
 refine V.Azq (p:=fun d=>∀ (A:Around) (E:Value->Shared->Prop) (s:Shared) (v:Value) (Q:Int->Shared->Prop),VR s.heap v d->A.units + d.dep < cLine->Q (Ala w d) { s with toks:=s.toks + Aig d }->wpAny (model prog w) A (pyHash v) Q E s)
   (q:=fun ds=>∀ (A:Around) (E:Value->Shared->Prop) (s:Shared) (vs:List Value) (b:Array Int) (I:Array Int->Shared->Prop),VRs s.heap vs ds->A.units + V.Be ds < cLine ->
    I (b ++ (Afh w ds).toArray) { s with toks:=s.toks + Agl ds }->wpAny (model prog w) A (forIn vs b fun x b=>do let h <- pyHash x; pure (.yield (b.push h))) I E s) ?_ ?_ ?_ ?_ ?_
 · intro i A E s v Q r _ h; obtain ⟨_,rfl⟩:=r.inv; exact wpAny_pyHash_int h
 · intro x A E s v Q r _ h; obtain ⟨_,rfl⟩:=r.inv; exact wpAny_pyHash_str h
 · intro ds ih A E s v Q r hu h
   obtain ⟨a,o,us,n,rfl,h1,h2,h3,h4⟩:=r.inv
   refine Ar9 (hs:=Afh w ds) (dr:=Agl ds) (Bg7 (Bg9 _ _) hu) h1 h2 h3 (fun E I hI=>?_) h
   exact ih A.in1 E s _ #[] I h4 (by have hu:A.units + (V.Be ds + 1) < cLine:=hu; show A.units + 1 + _ < _; rw [Br6,Bm0 1]; exact hu) (by rw [Array.empty_append]; exact hI)
 · intro A E s vs b I r hu h
   obtain rfl:=r.Ak9
   rw [Co3]; exact Bf6 h
 · intro d ds i1 i2 A E s vs b I r hu h
   obtain ⟨_,_,rfl,r,rs⟩:=r.inv
   rw [Cg3]
   refine Be9 (Be9 (i1 A E s _ _ r (Bg7 (Bf4 (Nat.le_max_left ..) _) hu) (Bf6 ?_)))
   refine i2 A E { s with toks:=s.toks + Aig d } _ (b.push (Ala w d)) I rs (Bg7 (Bf4 (Nat.le_max_right ..) _) hu) ?_
   rw [Br6]
   rw [show b.push (Ala w d) ++ (Afh w ds).toArray=b ++ (Afh w (d :: ds)).toArray from by rw [Afh]; simp]
   exact h
theorem Az7 (d:V) (A:Around) (E:Value->Shared->Prop) (s:Shared) (v:Value) (Q:Int->Shared->Prop) (r:VR s.heap v d) (k:d.key=true) (hu:A.units + d.dep < cLine) (h:Q (Ala w d) { s with toks:=s.toks + Aig d }):wpAny (model prog w) A (pyHash v) Q E s:=Avp.1 d k A E s v Q r hu h
end
section
variable {prog:Program} {w:World}
theorem Ats:(∀ d:V,d.key=true->∀ (n:Nat) (A:Around) (E:Value->Shared->Prop) (s:Shared) (v:Value) (Q:Bool->Shared->Prop),VR s.heap v d->d.dep<=n->Q true s->wpAny (model prog w) A (Cm6 n v) Q E s) ∧
   ∀ ds:List V,V.keys ds=true->∀ (n:Nat) (A:Around) (E:Value->Shared->Prop) (s:Shared) (vs:List Value) (f:Value->(Option Bool × Unit)->Sem (ForInStep (Option Bool × Unit))) (I:(Option Bool × Unit)->Shared->Prop),
   VRs s.heap vs ds->V.Be ds<=n ->
   (∀ v,f v (none,())=(do if !(<- Cm6 n v) then pure (.done (some false,())) else pure (.yield (none,())))) ->
   I (none,()) s->wpAny (model prog w) A (forIn vs (none,()) f) I E s:=by
 refine V.Azq (p:=fun d=>∀ (n:Nat) (A:Around) (E:Value->Shared->Prop) (s:Shared) (v:Value) (Q:Bool->Shared->Prop),VR s.heap v d->d.dep<=n->Q true s->wpAny (model prog w) A (Cm6 n v) Q E s)
   (q:=fun ds=>∀ (n:Nat) (A:Around) (E:Value->Shared->Prop) (s:Shared) (vs:List Value) (f:Value->(Option Bool × Unit)->Sem (ForInStep (Option Bool × Unit))) (I:(Option Bool × Unit)->Shared->Prop),
   VRs s.heap vs ds->V.Be ds<=n ->
   (∀ v,f v (none,())=(do if !(<- Cm6 n v) then pure (.done (some false,())) else pure (.yield (none,())))) ->
   I (none,()) s->wpAny (model prog w) A (forIn vs (none,()) f) I E s) ?_ ?_ ?_ ?_ ?_
 · intro i n A E s v Q r _ h; obtain ⟨_,rfl⟩:=r.inv; rw [eqIsQuiet_byValue _ rfl]; exact Bf6 h
 · intro i n A E s v Q r _ h; obtain ⟨_,rfl⟩:=r.inv; rw [eqIsQuiet_byValue _ rfl]; exact Bf6 h
 · intro ds ih n A E s v Q r hn h
   obtain ⟨a,o,items,n',rfl,ho,hc,hd,hi⟩:=r.inv
   have hT:s.TypeIs (.ref a) "tuple":=⟨o,ho,hc⟩
   cases n with
   | zero=>exact absurd hn (Nat.not_succ_le_zero _)
   | succ n=>
    unfold Cm6
    refine Be9 (Cc8 hT F.slot_tuple_eq.lookup ?_)
    show wpAny _ _ (isInstance (.ref a) (.type "tuple") >>= _) _ _ s
    refine Be9 (wpAny_isInstance hT isSubtype_tuple_tuple ?_)
    rw [Bool.not_true,if_neg Bg6]
    refine Be9 (Ck2 ho hd ?_)
    refine Be9 ?_
    show wpAny _ _ (forIn items _ _) _ _ s
    rw [<- Array.forIn_toList]
    exact ih n A E s _ _ _ hi (Nat.le_of_succ_le_succ hn) (fun v=>rfl) (Bf6 h)
 · intro n A E s vs f I r _ _ h
   obtain rfl:=r.Ak9
   rw [Co3]; exact Bf6 h
 · intro d ds i1 i2 n A E s vs f I r hn hf h
   obtain ⟨_,_,rfl,r,rs⟩:=r.inv
   rw [Cg3,hf]
   refine Be9 (Be9 (i1 n A E s _ _ r (Be8 (Nat.le_max_left ..) hn) ?_))
   exact Bf6 (i2 n A E s _ f I rs (Be8 (Nat.le_max_right ..) hn) hf h)
theorem Aw6 (d:V) (n:Nat) (A:Around) (E:Value->Shared->Prop) (s:Shared) (v:Value) (Q:Bool->Shared->Prop) (r:VR s.heap v d) (k:d.key=true) (hn:d.dep<=n) (h:Q true s):wpAny (model prog w) A (Cm6 n v) Q E s:=Ats.1 d k n A E s v Q r hn h
noncomputable def Ahn (prog:Program) (w:World):HeapKind prog w V where
 is:=fun h d a=>VR h (.ref a) d/\d.key=true/\d.dep<=8
 hash:=Ala w
 draws:=Aig
 room:=fun A=>A.units + 8 < cLine
 inj:=fun hx hy=>VR.inj hx.1 hy.1 (V.Aal _ hx.2.1) (V.Aal _ hy.2.1)
 keeps:=fun x ho hd hs=>⟨VR.Atg ho hd hs x.1 x.2.1,x.2⟩
 pyHash:=fun hu hk h=>Az7 _ _ _ _ _ _ hk.1 hk.2.1 (Bg7 (Bf4 hk.2.2 _) hu) h
 eqBool:=fun hu hx hy h=>VR.Axj _ _ _ _ _ _ hx.1 hy.1 (V.Aal _ hx.2.1) (V.Aal _ hy.2.1) (Bg7 (Bf4 (Be8 (Bq9 ..) hx.2.2) _) hu) _ _ _ _ h
 quiet:=fun hk h=>Aw6 _ 8 _ _ _ _ _ hk.1 hk.2.1 hk.2.2 h
end
structure Pm where
 prog:Program
 w:World
 K:Frag
 Awb:Addr
structure PC (P:Pm) (g:Heap):Prop where
 kin:P.K.In g
 blt:∃ mb,g.Ns Cf9 mb/\∀ x:Str,x≠"__name__"->mb x=Bs9 x
 nolimit:g.NoLimit
 nodigits:∃ mc,g.Ns cStatics mc/\mc "sys.int_max_str_digits"=none
theorem PC.keeps {P g h} (x:PC P g) (k:g.StaysIn h):PC P h:=by
 obtain ⟨mb,a,b⟩:=x.blt
 obtain ⟨mc,c,d⟩:=x.nodigits
 exact ⟨x.kin.keeps k,⟨mb,a.keeps k,b⟩,x.nolimit.keeps k,⟨mc,c.keeps k,d⟩⟩
inductive LR (g:Heap) (o:Obj) (vs:List V):Prop
 | mk (h1:o.cls=.type "list") (items:Array Value) (n:Nat) (h2:o.data=.seq items n) (h3:VRs g items.toList vs) (h4:o.dict=none) (h5:o.slots=#[])
inductive DR {prog:Program} {w:World} {K:Type} [DecidableEq K] (knd:KeyKind prog w K) (g:Heap) (o:Obj) (es:List (K × V)):Prop
 | mk (ents:Array DictEntry) (ep:Nat) (kvs:List (K × Value)) (h1:o.ExactDict) (h2:o.data=.dict ents ep) (h3:KeysOf knd ents) (h4:Pairs knd ents.toList kvs) (h5:(kvs.map (·.1)).Nodup) (h6:kvs.map (·.1)=es.map (·.1)) (h7:VRs g (kvs.map (·.2)) (es.map (·.2)))
inductive TR (P:Pm) (g:Heap) (o:Obj) (es:List (V × V)):Prop
 | mk (ents:Array DictEntry) (ep:Nat) (xs:List (V × Addr × Value)) (h1:o.ExactDict) (h2:o.data=.dict ents ep) (h3:ents.toList=xs.map (entryOfKey (Ahn P.prog P.w))) (h4:∀ x∈xs,(Ahn P.prog P.w).is g x.1 x.2.1) (h5:(xs.map (·.1)).Nodup) (h6:xs.map (·.1)=es.map (·.1)) (h7:VRs g (xs.map (·.2.2)) (es.map (·.2)))
inductive AR (g:Heap) (o:Obj) (es:List (Str × V)):Prop
 | mk (h1:o.cls=.type "dict") (h2:o.dict=none) (h3:o.slots=#[]) (ents:Array DictEntry) (n:Nat) (h4:o.data=.dict ents n) (h5:ARs g ents.toList es)
noncomputable def OR (P:Pm) (g:Heap) (o:Obj):O->Prop
 | .list vs=>LR g o vs
 | .A5 es=>DR (strKind P.prog P.w) g o es
 | .Acf es=>DR (intKind P.prog P.w) g o es
 | .Ad es=>TR P g o es
 | .attrs es=>AR g o es
theorem DR.dat {prog:Program} {w:World} {K:Type} [DecidableEq K] {knd:KeyKind prog w K} {g:Heap} {o:Obj} {es:List (K × V)} (x:DR knd g o es):o.cls≠.type "frame"/\∃ e n,o.data=.dict e n:=by
 obtain ⟨a,b,c,d,e,_⟩:=x; exact ⟨by rw [d.1]; decide,_,_,e⟩
theorem OR.dat {P:Pm} {g:Heap} {o:Obj} {x:O} (h:OR P g o x):o.cls≠.type "frame"/\((∃ i n,o.data=.seq i n)∨∃ e n,o.data=.dict e n):=by
 cases x with
 | list vs=>obtain ⟨h,a,n,b,_⟩:=h; exact ⟨by rw [h]; decide,.inl ⟨_,_,b⟩⟩
 | A5 vs=>exact ⟨(DR.dat h).1,.inr (DR.dat h).2⟩
 | Acf vs=>exact ⟨(DR.dat h).1,.inr (DR.dat h).2⟩
 | Ad vs=>obtain ⟨a,b,c,d,e,_⟩:=h; exact ⟨by rw [d.1]; decide,.inr ⟨_,_,e⟩⟩
 | attrs vs=>obtain ⟨h,h2,h3,a,n,b,c⟩:=h; exact ⟨by rw [h]; decide,.inr ⟨_,_,b⟩⟩
theorem DR.mono {prog:Program} {w:World} {K:Type} [DecidableEq K] {knd:KeyKind prog w K} {g g':Heap} {o:Obj} {es:List (K × V)} (k:g.StaysIn g') (x:DR knd g o es):DR knd g' o es:=by
 obtain ⟨a,b,c,d,e,f,h,i,j,l⟩:=x; exact ⟨a,b,c,d,e,f,h,i,j,l.mono k⟩
theorem OR.mono {P:Pm} {g g':Heap} {o:Obj} (k:g.StaysIn g') {x:O} (h:OR P g o x):OR P g' o x:=by
 cases x with
 | list vs=>obtain ⟨h,a,n,b,c,d,f⟩:=h; exact ⟨h,a,n,b,c.mono k,d,f⟩
 | A5 vs=>exact DR.mono k h
 | Acf vs=>exact DR.mono k h
 | Ad vs=>obtain ⟨a,b,c,d,e,f,h,i,j,l⟩:=h; exact ⟨a,b,c,d,e,f,fun x hx=>⟨(h x hx).1.mono k,(h x hx).2⟩,i,j,l.mono k⟩
 | attrs vs=>obtain ⟨h,h2,h3,a,n,b,c⟩:=h; exact ⟨h,h2,h3,a,n,b,c.mono k⟩
theorem OR.Bc2 {P g o x} (h:OR P g o x):o.cls≠.type "frame":=h.dat.1
theorem OR.Amq {P g o x} (h:OR P g o x) (v:Array Value):o.data≠.fields v:=by
 cases h.dat.2 with
 | inl q=>obtain ⟨_,_,h⟩:=q; rw [h]; exact fun e=>nomatch e
 | inr q=>obtain ⟨_,_,h⟩:=q; rw [h]; exact fun e=>nomatch e
structure Bs where
 k:Heap
 gk:Heap
 gens:Array GenState
 drawn:Drawn
 os:OsState
noncomputable def Stk (g h:Heap):List Env->Prop
 | []=>True
 | env :: r=>env.scope.kind=.function/\(∃ F o,env.frame=some F/\h.get? F=some o/\Ahg o/\g.get? F=none)/\Stk g h r
theorem Stk.fun {g h l} (k:Stk g h l):h.FunFrames {} l:=by
 induction l with
 | nil=>exact trivial
 | cons env r ih=>
  obtain ⟨a,⟨F,o,h1,h2,⟨_,es,n,h3⟩,_⟩,c⟩:=k
  exact ⟨by rw [a]; decide,⟨F,o,h1,rfl,h2,fun vs=>by rw [h3]; exact nofun⟩,ih c⟩
structure RepC (P:Pm) (B:Bs) (g:Heap) (A:Around) (st:List Env) (σ:Sto) (s:Shared):Prop where
 pc:PC P g
 stack:A.frames=some st
 stk:Stk g s.heap st
 keeps:Keeps B.k s.heap
 fz:g.StaysIn s.heap
 ext:B.gk.StaysIn g
 new:∀ a,g.get? a≠none->B.gk.get? a=none->B.k.get? a=none
 sto:∀ a x,σ a=some x->g.get? a=none/\B.k.get? a=none/\∃ o,s.heap.get? a=some o/\OR P g o x
 gens:s.gens=B.gens
 drawn:s.drawn=B.drawn
 os:s.os=B.os/\∀ a x,σ a=some x->2 < a
structure Amo (g:Heap) (env:Env) (m:A8) (h:Heap):Prop where
 ns:∃ ml,h.Ns env.locals ml/\∀ x v,m x=some v->env.kindOf x=some .local->∃ c,ml x=some c/\VR g c v
 cel:∀ x,(env.kindOf x=some .cell∨env.kindOf x=some .free)->∃ c cv,env.cells.lookup x=some c/\h.IsCell c cv/\∀ v,m x=some v->∃ y,cv=some y/\VR g y v
 apart:∀ x y c,env.cells.lookup x=some c->env.cells.lookup y=some c->x=y
structure Own (B:Bs) (g:Heap) (σ:Sto) (env:Env):Prop where
 loc:g.get? env.locals=none/\B.k.get? env.locals=none/\σ env.locals=none
 cel:∀ x c,(env.kindOf x=some .cell∨env.kindOf x=some .free)->env.cells.lookup x=some c->g.get? c=none/\B.k.get? c=none/\σ c=none
structure Rep (P:Pm) (B:Bs) (g:Heap) (A:Around) (st:List Env) (env:Env) (σ:Sto) (m:A8) (s:Shared):Prop extends RepC P B g A st σ s where
 fr:Amo g env m s.heap
 own:Own B g σ env
structure Fx where
 sc:Scope
 comp:Bool
structure Ad5 (fx:Fx) (env:Env) (st:List Env):Prop where
 sc:env.scope=fx.sc
 kind:fx.sc.kind=.function
 globals:env.globals=Bl4
 builtins:env.builtins=Cf9
 top:fx.comp=false->∃ outer,st=env :: outer/\env.frame=some env.locals
noncomputable def Bg (A:Around) (n:Nat):Prop:=A.depth + 2 * n < recursionLimit/\A.units + 80 * n + 80 < cLine/\A.handled=none
theorem Bg.mono {A n m} (h:Bg A n) (k:m<=n):Bg A m:=⟨Bg7 (Bf4 (Bp1 2 k) _) h.1,Bg7 (Bi6 (Bf4 (Bp1 80 k) _) 80) h.2.1,h.2.2⟩
theorem Bg.lt {A n} (h:Bg A (n + 1)):A.depth < recursionLimit:=Bg7 (Bg9 ..) h.1
theorem Bg.down {A n} (h:Bg A (n + 1)) (env:Env):Bg (A.deeper env) n:=
 ⟨by have q:=h.1; rw [Bt6] at q; show A.depth + 1 + 2 * n < _; rw [Bh4]; exact Cd7 q,
  by have q:=h.2.1; rw [Bt6] at q; show A.units + 3 + 80 * n + 80 < _; rw [Bh4 A.units 3]; exact Bg7 (Bi6 (Bf4 (Bf4 (show 3<=80 by decide) (80 * n)) A.units) 80) q,h.2.2⟩
inductive TbV (g k h:Heap) (e:Addr):Value->Prop
 | no:TbV g k h e .none
 | tb {T:Addr} {o:Obj} {ts:Array Value} (n:T≠e) (h1:h.get? T=some o) (h2:o.data=.fields ts) (h3:3 < ts.size) (h4:g.get? T=none) (h5:k.get? T=none):TbV g k h e (.ref T)
inductive Am8 (P:Pm) (B:Bs) (g h:Heap) (e:Addr) (why:Str) (T:Value):Prop
 | mk (oe:Obj) (vs:Array Value) (dx:Addr) (od:Obj) (t:Tok) (h1:h.get? e=some oe) (h2:oe.cls=.ref P.Awb) (h3:oe.data=.fields vs) (h4:vs.size=6) (h5:oe.dict=some dx) (h6:g.get? dx=some od) (h7:lookIn "why" od=some (some (.str why t)))
  (h8:vs[1]?=some T) (h9:g.get? e=none) (h10:B.k.get? e=none) (h11:TbV g B.k h e T)
noncomputable def ExcAt (P:Pm) (B:Bs) (g h:Heap) (e:Addr) (why:Str):Prop:=∃ T,Am8 P B g h e why T
inductive Fld (g k h:Heap) (b:Addr):Prop
 | mk (h1:g.get? b=none) (h2:k.get? b=none) (o:Obj) (h3:h.get? b=some o) (vs:Array Value) (h4:o.data=.fields vs)
inductive XP (P:Pm) (B:Bs) (A:Around) (st:List Env) (env:Env) (g:Heap) (X:Str->Sto->A8->Prop) (e:Value) (s':Shared):Prop
 | mk (g':Heap) (σ':Sto) (m':A8) (why:Str) (ea:Addr) (hg:g.StaysIn g') (hr:Rep P B g' A st env σ' m' s') (he:e=.ref ea) (hx:ExcAt P B g' s'.heap ea why) (hq:X why σ' m')
inductive NP {α β:Type} (R:Heap->α->β->Prop) (P:Pm) (B:Bs) (A:Around) (st:List Env) (env:Env) (g:Heap) (Q:β->Sto->A8->Prop) (v:α) (s':Shared):Prop
 | mk (g':Heap) (σ':Sto) (m':A8) (b:β) (hg:g.StaysIn g') (hr:Rep P B g' A st env σ' m' s') (hv:R g' v b) (hq:Q b σ' m')
noncomputable def JS {α β:Type} (R:Heap->α->β->Prop) (P:Pm) (n:Nat) (fx:Fx) (t:Env->Sem α) (σ:Sto) (m:A8) (Q:β->Sto->A8->Prop) (X:Str->Sto->A8->Prop):Prop:=
 ∀ A st B g env s,Ad5 fx env st->Rep P B g A st env σ m s->Bg A n ->
  wpAny (model P.prog P.w) A (t env) (NP R P B A st env g Q) (XP P B A st env g X) s
inductive Flw where
 | next | brk | cont
 | ret (v:V)
inductive Am5 (g:Heap):Flow->Flw->Prop
 | next:Am5 g .next .next
 | brk:Am5 g .brk .brk
 | cont:Am5 g .cont .cont
 | ret {v:Value} {d:V}:VR g v d->Am5 g (.ret v) (.ret d)
noncomputable abbrev Xt:=Str->Sto->A8->Prop
noncomputable abbrev Ev (P:Pm) (n:Nat) (fx:Fx) (e:Expr) (σ:Sto) (m:A8) (Q:V->Sto->Prop) (X:Xt):Prop:=
 JS VR P n fx (fun env=>eval e env) σ m (fun v σ' m'=>m'=m/\Q v σ') X
noncomputable abbrev Evs (P:Pm) (n:Nat) (fx:Fx) (pos:Pos) (es:List Expr) (σ:Sto) (m:A8) (Q:List V->Sto->Prop) (X:Xt):Prop:=
 JS VRs P n fx (fun env=>spliced (By7 pos (Bk6 es env))) σ m (fun v σ' m'=>m'=m/\v.length=es.length/\Q v σ') X
noncomputable def EqR {α:Type} (_:Heap) (a b:α):Prop:=a=b
noncomputable abbrev Tt (P:Pm) (n:Nat) (fx:Fx) (e:Expr) (σ:Sto) (m:A8) (Q:Bool->Sto->Prop) (X:Xt):Prop:=
 JS EqR P n fx (fun env=>isTrue e env (eval e env)) σ m (fun v σ' m'=>m'=m/\Q v σ') X
noncomputable abbrev Ex (P:Pm) (n:Nat) (fx:Fx) (t:Stmt) (σ:Sto) (m:A8) (Q:Flw->Sto->A8->Prop) (X:Xt):Prop:=
 JS Am5 P n fx (fun env=>exec t env) σ m Q X
noncomputable abbrev Exs (P:Pm) (n:Nat) (fx:Fx) (t:List Stmt) (σ:Sto) (m:A8) (Q:Flw->Sto->A8->Prop) (X:Xt):Prop:=
 JS Am5 P n fx (fun env=>execs t env) σ m Q X
section
variable {α β:Type} {R:Heap->α->β->Prop} {P:Pm} {n:Nat} {fx:Fx} {σ:Sto} {m:A8} {X:Xt}
theorem XP.mono {B A st env g g' X X' e s} (h:XP P B A st env g' X e s) (k:g.StaysIn g') (hx:∀ y σ m,X y σ m->X' y σ m):XP P B A st env g X' e s:=by
 obtain ⟨g2,σ',m',why,ea,h1,h2,h3,h4,h5⟩:=h
 exact ⟨g2,σ',m',why,ea,fun b o e=>h1 _ _ (k _ _ e),h2,h3,h4,hx _ _ _ h5⟩
theorem NP.mono {B A st env g g' Q Q' v s} (h:NP R P B A st env g' Q v s) (k:g.StaysIn g') (hx:∀ y σ m,Q y σ m->Q' y σ m):NP R P B A st env g Q' v s:=by
 obtain ⟨g2,σ',m',b,h1,h2,h3,h4⟩:=h
 exact ⟨g2,σ',m',b,fun b o e=>h1 _ _ (k _ _ e),h2,h3,hx _ _ _ h4⟩
theorem JS.mono {t Q Q' X X'} (h:JS R P n fx t σ m Q X) (hq:∀ b σ' m',Q b σ' m'->Q' b σ' m') (hx:∀ y σ m,X y σ m->X' y σ m):JS R P n fx t σ m Q' X':=
 fun A st B g env s he hr hm=>Bf3 (h A st B g env s he hr hm) (fun _ _ q=>q.mono (fun _ _ e=>e) hq) fun _ _ q=>q.mono (fun _ _ e=>e) hx
end
theorem RepC.Atr {P B g A A' st σ s} (R:RepC P B g A st σ s) (h:A'.frames=some st):RepC P B g A' st σ s:=⟨R.pc,h,R.stk,R.keeps,R.fz,R.ext,R.new,R.sto,R.gens,R.drawn,R.os⟩
theorem A2 (h:Heap):h.StaysIn h:=fun _ _ e=>e
theorem A3 {a b c:Heap} (x:a.StaysIn b) (y:b.StaysIn c):a.StaysIn c:=fun p o e=>y p o (x p o e)
theorem Aa3 (h:Heap) (o:Obj):h.StaysIn (h.push o):=fun _ _ e=>Bi5 o e
theorem Aa2 {g h:Heap} (x:g.StaysIn h) {a:Addr} (e:h.get? a=none):g.get? a=none:=by
 cases q:g.get? a with | none=>rfl | some o=>rw [x a o q] at e; cases e
theorem Aa0 {g h} (x:Keeps g h) {a} (e:h.get? a=none):g.get? a=none:=by
 cases q:g.get? a with | none=>rfl | some o=>obtain ⟨o',h',_⟩:=x.some q; rw [h'] at e; cases e
theorem Ak (h:Heap):h.get? h.objs.size=none:=Bn8 (Bh7 _)
noncomputable def Adl (g h:Heap) (a:Addr):Heap:=Ag9 h fun b=>b≠a/\g.get? b=none
theorem Abq {g h a}:(Adl g h a).get? a=h.get? a:=by simp [Adl,Ael]
theorem Aa4 {g h:Heap} {a:Addr} (k:g.StaysIn h):g.StaysIn (Adl g h a):=fun b o e=>by
 rw [Adl,Ael,if_neg (by rw [e]; simp)]; exact k b o e
theorem Asg {g h a}:(Adl g h a).StaysIn h:=fun b o e=>(Aia.mp e).2
theorem Aa8 {g h a b} (hb:b≠a) (hg:g.get? b=none):(Adl g h a).get? b=none:=by
 rw [Adl,Ael,if_pos ⟨hb,hg⟩]
theorem Stk.keeps {g g' h h'} (k:∀ b o,h.get? b=some o->Ahg o->∃ o',h'.get? b=some o'/\Ahg o') (n:∀ b o,h.get? b=some o->Ahg o->g.get? b=none->g'.get? b=none) {l} (x:Stk g h l):Stk g' h' l:=by
 induction l with
 | nil=>exact trivial
 | cons e r ih=>
  obtain ⟨a,⟨F,o,h1,h2,h3,h4⟩,c⟩:=x
  obtain ⟨o',q1,q2⟩:=k F o h2 h3
  exact ⟨a,⟨F,o',h1,q1,q2,n F o h2 h3 h4⟩,ih c⟩
theorem Ahg.slots {o} (h:Ahg o) (sl:Array (Option Value)):Ahg { o with slots:=sl }:=h
section
variable {P:Pm} {B:Bs} {g:Heap} {A:Around} {st:List Env} {env:Env} {σ:Sto} {m:A8} {s:Shared}
theorem RepC.Aat (R:RepC P B g A st σ s) {a} (h:s.heap.get? a=none):σ a=none:=by
 cases q:σ a with
 | none=>rfl
 | some x=>obtain ⟨_,_,o,ho,_⟩:=R.sto a x q; rw [h] at ho; cases ho
theorem RepC.low (R:RepC P B g A st σ s):2 < s.heap.objs.size:=by
 obtain ⟨mc,a,_⟩:=R.pc.nodigits
 exact (a.keeps R.fz).lt
theorem RepC.stays (R:RepC P B g A st σ s) {h':Heap} (k:s.heap.StaysIn h') (tk:Nat):RepC P B g A st σ { s with heap:=h',toks:=tk }:=
 ⟨R.pc,R.stack,R.stk.keeps (fun b o e f=>⟨o,k b o e,f⟩) (fun _ _ _ _ e=>e),R.keeps.stays k,A3 R.fz k,R.ext,R.new,
  fun a x e=>by obtain ⟨h1,h2,o,h3,h4⟩:=R.sto a x e; exact ⟨h1,h2,o,k _ _ h3,h4⟩,R.gens,R.drawn,R.os⟩
theorem Amo.stays (F:Amo g env m s.heap) {h'} (k:s.heap.StaysIn h'):Amo g env m h':=
 ⟨by obtain ⟨ml,h1,h2⟩:=F.ns; exact ⟨ml,h1.keeps k,h2⟩,fun x hx=>by obtain ⟨c,cv,h1,h2,h3⟩:=F.cel x hx; exact ⟨c,cv,h1,h2.keeps k,h3⟩,F.apart⟩
theorem Amo.grow {h g'} (F:Amo g env m h) (k:g.StaysIn g'):Amo g' env m h:=
 ⟨by obtain ⟨ml,h1,h2⟩:=F.ns; exact ⟨ml,h1,fun x v e l=>by obtain ⟨c,a,b⟩:=h2 x v e l; exact ⟨c,a,b.mono k⟩⟩,
  fun x hx=>by obtain ⟨c,cv,h1,h2,h3⟩:=F.cel x hx; exact ⟨c,cv,h1,h2,fun v e=>by obtain ⟨y,a,b⟩:=h3 v e; exact ⟨y,a,b.mono k⟩⟩,F.apart⟩
theorem Rep.stays (R:Rep P B g A st env σ m s) {h'} (k:s.heap.StaysIn h') (tk:Nat):Rep P B g A st env σ m { s with heap:=h',toks:=tk }:=
 ⟨R.toRepC.stays k tk,R.fr.stays k,R.own⟩
theorem Rep.tok (R:Rep P B g A st env σ m s) (tk:Nat):Rep P B g A st env σ m { s with toks:=tk }:=R.stays (A2 _) tk
theorem RepC.grow (R:RepC P B g A st σ s) {a:Addr} {o:Obj} (ho:s.heap.get? a=some o) (hk:B.k.get? a=none) (hs:σ a=none) (hf:¬ Ahg o) :
  RepC P B (Adl g s.heap a) A st σ s:=
 ⟨R.pc.keeps (Aa4 R.fz),R.stack,R.stk.keeps (fun b o e f=>⟨o,e,f⟩) (fun b o' e f n=>Aa8 (by rintro rfl; rw [ho] at e; cases e; exact hf f) n),R.keeps,Asg,A3 R.ext (Aa4 R.fz),
  fun b hb h=>by
   by_cases e:b=a
   · subst e; exact hk
   · exact R.new b (fun q=>hb (Aa8 e q)) h,
  fun b x e=>by
   obtain ⟨h1,h2,o',h3,h4⟩:=R.sto b x e
   exact ⟨Aa8 (by rintro rfl; rw [hs] at e; cases e) h1,h2,o',h3,h4.mono (Aa4 R.fz)⟩,
  R.gens,R.drawn,R.os⟩
theorem Own.grow {h} (W:Own B g σ env) {a} (h1:a≠env.locals) (h2:∀ x c,(env.kindOf x=some .cell∨env.kindOf x=some .free)->env.cells.lookup x=some c->c≠a):Own B (Adl g h a) σ env:=
 ⟨⟨Aa8 (Bq3 h1) W.loc.1,W.loc.2⟩,fun x c hx hc=>⟨Aa8 (h2 x c hx hc) (W.cel x c hx hc).1,(W.cel x c hx hc).2⟩⟩
theorem Rep.grow (R:Rep P B g A st env σ m s) {a:Addr} {o:Obj} (ho:s.heap.get? a=some o) (hk:B.k.get? a=none) (hs:σ a=none) (hf:¬ Ahg o)
  (h1:a≠env.locals) (h2:∀ x c,(env.kindOf x=some .cell∨env.kindOf x=some .free)->env.cells.lookup x=some c->c≠a):Rep P B (Adl g s.heap a) A st env σ m s:=
 ⟨R.toRepC.grow ho hk hs hf,R.fr.grow (Aa4 R.fz),R.own.grow h1 h2⟩
theorem RepC.forget (R:RepC P B g A st σ s) {σ'} (h:∀ a x,σ' a=some x->σ a=some x):RepC P B g A st σ' s:=
 ⟨R.pc,R.stack,R.stk,R.keeps,R.fz,R.ext,R.new,fun a x e=>R.sto a x (h a x e),R.gens,R.drawn,R.os.1,fun a x e=>R.os.2 a x (h a x e)⟩
theorem Rep.forget (R:Rep P B g A st env σ m s) {σ'} (h:∀ a x,σ' a=some x->σ a=some x):Rep P B g A st env σ' m s:=
 ⟨R.toRepC.forget h,R.fr,⟨⟨R.own.loc.1,R.own.loc.2.1,by
  cases q:σ' env.locals with | none=>rfl | some x=>have:=h _ _ q; rw [R.own.loc.2.2] at this; cases this⟩,fun x c hx hc=>⟨(R.own.cel x c hx hc).1,(R.own.cel x c hx hc).2.1,by
  cases q:σ' c with | none=>rfl | some x'=>have:=h _ _ q; rw [(R.own.cel x c hx hc).2.2] at this; cases this⟩⟩⟩
theorem Rep.drop (R:Rep P B g A st env σ m s) {m'} (h:∀ x v,m' x=some v->m x=some v):Rep P B g A st env σ m' s:=
 ⟨R.toRepC,⟨by obtain ⟨ml,h1,h2⟩:=R.fr.ns; exact ⟨ml,h1,fun x v e l=>h2 x v (h x v e) l⟩,fun x hx=>by obtain ⟨c,cv,h1,h2,h3⟩:=R.fr.cel x hx; exact ⟨c,cv,h1,h2,fun v e=>h3 v (h x v e)⟩,R.fr.apart⟩,R.own⟩
theorem Abg {h} (F:Amo g env m h) {x c} (hx:env.kindOf x=some .cell∨env.kindOf x=some .free) (hc:env.cells.lookup x=some c):c≠env.locals:=by
 obtain ⟨ml,⟨o,es,ep,ho,hd,_⟩,_⟩:=F.ns
 obtain ⟨c',cv,h1,⟨o',ho',hd'⟩,_⟩:=F.cel x hx
 rw [hc] at h1; cases h1
 rintro rfl
 rw [ho] at ho'; cases ho'
 rw [hd] at hd'; cases hd'
theorem Rep.Aap (R:Rep P B g A st env σ m s) (o:Obj) (hf:o.isFreed=false) (hn:¬ Ahg o) (tk:Nat) :
  ∃ g',g.StaysIn g'/\g'.get? s.heap.objs.size=some o/\Rep P B g' A st env σ m { s with heap:=s.heap.push o,toks:=tk }:=by
 have R':=R.stays (Aa3 s.heap o) tk
 have ho:({ s with heap:=s.heap.push o,toks:=tk }:Shared).heap.get? s.heap.objs.size=some o:=Bi4 _ hf
 obtain ⟨ml,⟨oL,es,ep,hL,_⟩,_⟩:=R.fr.ns
 refine ⟨_,Aa4 R'.fz,Abq.trans ho,R'.grow ho (Aa0 R.keeps (Ak _)) (R.Aat (Ak _)) hn (Bq2 (Bl3 hL)) fun x c hx hc=>?_⟩
 obtain ⟨c',cv,h1,h2,_⟩:=R.fr.cel x hx
 rw [hc] at h1; cases h1
 exact Bl9 h2.lt
theorem RepC.Aap (R:RepC P B g A st σ s) (o:Obj) (hf:o.isFreed=false) (hn:¬ Ahg o) (tk:Nat) :
  ∃ g',g.StaysIn g'/\g'.get? s.heap.objs.size=some o/\RepC P B g' A st σ { s with heap:=s.heap.push o,toks:=tk }:=by
 have R':=R.stays (Aa3 s.heap o) tk
 have ho:({ s with heap:=s.heap.push o,toks:=tk }:Shared).heap.get? s.heap.objs.size=some o:=Bi4 _ hf
 exact ⟨_,Aa4 R'.fz,Abq.trans ho,R'.grow ho (Aa0 R.keeps (Ak _)) (R.Aat (Ak _)) hn⟩
theorem RepC.Ac7 (R:RepC P B g A st σ s) {h':Heap} {a:Addr} {o:Obj} {x:O} (k:s.heap.StaysIn h') (hal:s.heap.objs.size<=a) (ho:h'.get? a=some o) (hx:OR P g o x) (tk:Nat) :
  RepC P B g A st (σ.put a x) { s with heap:=h',toks:=tk }:=
 let R':=R.stays k tk
 have ha:s.heap.get? a=none:=Bn8 hal
 ⟨R'.pc,R'.stack,R'.stk,R'.keeps,R'.fz,R'.ext,R'.new,fun b y e=>by
  by_cases hb:b=a
  · subst hb; rw [Sto.A0] at e; cases e
    exact ⟨Aa2 R.fz ha,Aa0 R.keeps ha,o,ho,hx⟩
  · rw [Sto.A4 _ _ hb] at e; exact R'.sto b y e,R'.gens,R'.drawn,R'.os.1,fun b y e=>by
  by_cases hb:b=a
  · subst hb; exact Bh0 R.low hal
  · rw [Sto.A4 _ _ hb] at e; exact R.os.2 b y e⟩
theorem Rep.Ac7 (R:Rep P B g A st env σ m s) {h' a o x} (k:s.heap.StaysIn h') (hal:s.heap.objs.size<=a) (ho:h'.get? a=some o) (hx:OR P g o x) (tk:Nat) :
   σ a=none/\Rep P B g A st env (σ.put a x) m { s with heap:=h',toks:=tk }:=by
 have ha:s.heap.get? a=none:=Bn8 hal
 refine ⟨R.Aat ha,R.toRepC.Ac7 k hal ho hx tk,R.fr.stays k,⟨⟨R.own.loc.1,R.own.loc.2.1,?_⟩,fun y c hy hc=>⟨(R.own.cel y c hy hc).1,(R.own.cel y c hy hc).2.1,?_⟩⟩⟩
 · rw [Sto.A4 _ _ ?_]; exact R.own.loc.2.2
   obtain ⟨ml,⟨oL,es,ep,hL,_⟩,_⟩:=R.fr.ns
   rintro rfl; rw [ha] at hL; cases hL
 · rw [Sto.A4 _ _ ?_]; exact (R.own.cel y c hy hc).2.2
   obtain ⟨c',cv,h1,⟨o',h2,_⟩,_⟩:=R.fr.cel y hy
   rw [hc] at h1; cases h1
   rintro rfl; rw [ha] at h2; cases h2
theorem RepC.upd (R:RepC P B g A st σ s) {h' a o' x x'} (hx:σ a=some x) (k:∀ b o,b≠a->s.heap.get? b=some o->h'.get? b=some o) (ho:h'.get? a=some o') (hx':OR P g o' x') (tk:Nat) :
   RepC P B g A st (σ.put a x') { s with heap:=h',toks:=tk }:=by
 obtain ⟨h1,h2,o,h3,h4⟩:=R.sto a x hx
 refine ⟨R.pc,R.stack,R.stk.keeps (fun b o e f=>⟨o,k b o (by rintro rfl; rw [h3] at e; cases e; exact h4.Bc2 f.1) e,f⟩) (fun _ _ _ _ e=>e),?_,?_,R.ext,R.new,?_,R.gens,R.drawn,R.os.1,fun b y e=>by
   by_cases hb:b=a
   · subst hb; exact R.os.2 b x hx
   · rw [Sto.A4 _ _ hb] at e; exact R.os.2 b y e⟩
 · intro b ob e
   have hb:b≠a:=by rintro rfl; rw [h2] at e; cases e
   rcases R.keeps b ob e with q | ⟨f,sl,q⟩
   · exact .inl (k b _ hb q)
   · exact .inr ⟨f,sl,k b _ hb q⟩
 · exact fun b ob e=>k b ob (by rintro rfl; rw [h1] at e; cases e) (R.fz b ob e)
 · intro b y e
   by_cases hb:b=a
   · subst hb; rw [Sto.A0] at e; cases e; exact ⟨h1,h2,o',ho,hx'⟩
   · rw [Sto.A4 _ _ hb] at e
     obtain ⟨q1,q2,ob,q3,q4⟩:=R.sto b y e
     exact ⟨q1,q2,ob,k b _ hb q3,q4⟩
theorem Own.put (W:Own B g σ env) {a x} (y:O) (hx:σ a=some x):Own B g (σ.put a y) env:=
 ⟨⟨W.loc.1,W.loc.2.1,by rw [Sto.A4 _ _ (by rintro rfl; rw [W.loc.2.2] at hx; cases hx)]; exact W.loc.2.2⟩,
  fun z c hz hc=>⟨(W.cel z c hz hc).1,(W.cel z c hz hc).2.1,by rw [Sto.A4 _ _ (by rintro rfl; rw [(W.cel z _ hz hc).2.2] at hx; cases hx)]; exact (W.cel z c hz hc).2.2⟩⟩
theorem Amo.but {h h' a} (F:Amo g env m h) (k:∀ b o,b≠a->h.get? b=some o->h'.get? b=some o) (h1:a≠env.locals) (h2:∀ x c,(env.kindOf x=some .cell∨env.kindOf x=some .free)->env.cells.lookup x=some c->c≠a):Amo g env m h':=
 ⟨by obtain ⟨ml,⟨o,es,ep,q,r⟩,q2⟩:=F.ns; exact ⟨ml,⟨o,es,ep,k _ _ (Bq3 h1) q,r⟩,q2⟩,
  fun x hx=>by obtain ⟨c,cv,q1,⟨o,q2,q3⟩,q4⟩:=F.cel x hx; exact ⟨c,cv,q1,⟨o,k _ _ (h2 x c hx q1) q2,q3⟩,q4⟩,F.apart⟩
theorem Rep.upd (R:Rep P B g A st env σ m s) {h' a o' x x'} (hx:σ a=some x) (k:∀ b o,b≠a->s.heap.get? b=some o->h'.get? b=some o) (ho:h'.get? a=some o') (hx':OR P g o' x') (tk:Nat) :
  Rep P B g A st env (σ.put a x') m { s with heap:=h',toks:=tk }:=
 ⟨R.toRepC.upd hx k ho hx' tk,R.fr.but k (by rintro rfl; rw [R.own.loc.2.2] at hx; cases hx) (fun z c hz hc=>by rintro rfl; rw [(R.own.cel z _ hz hc).2.2] at hx; cases hx),R.own.put _ hx⟩
theorem Rep.Af1 (R:Rep P B g A st env σ m s) {a:Addr} {vs:List V} (hx:σ a=some (.list vs)) :
   ∃ g',g.StaysIn g'/\VR g' (.ref a) (.lst vs)/\Rep P B g' A st env (σ.del a) m s:=by
 obtain ⟨h1,h2,o,h3,hc,items,n,hd,hv,_⟩:=R.sto a _ hx
 have R':Rep P B g A st env (σ.del a) m s:=R.forget fun b y e=>by
   unfold Sto.del at e; split at e
   · cases e
   · exact e
 refine ⟨_,Aa4 R.fz,.lst (Abq.trans h3) hc hd (hv.mono (Aa4 R.fz)),R'.grow h3 h2 (by simp [Sto.del]) (fun f=>by have q:=f.1; rw [hc] at q; exact absurd q (by decide)) ?_ ?_⟩
 · rintro rfl; rw [R.own.loc.2.2] at hx; cases hx
 · rintro z c hz hc' rfl; rw [(R.own.cel z _ hz hc').2.2] at hx; cases hx
end
theorem Aym {M A E s a mm name v Q} (hn:s.heap.Ns a mm)
  (h:∀ h' o',h'.Ns a (fun x=>if x=name then some v else mm x)->Bq8 a s.heap h'->h'.get? a=some o'->(∀ o,s.heap.get? a=some o->o'.cls=o.cls)->(∃ es n,o'.data=.dict es n)->Q () { s with heap:=h',toks:=s.toks + 1 }) :
  wpAny M A (nsSet a name v) Q E s:=by
 obtain ⟨o,es,ep,ho,hd,hk,hm⟩:=hn
 have Aze:es.any (·.refKey)=false:=by
  rw [Array.any_eq_false']; intro e he; obtain ⟨y,t,q⟩:=hk e he; simp [Cc7,q]
 unfold nsSet strHash
 refine Be9 (Be9 (Ch3 (Bf6 (Be9 (Cn9 (Be9 (Ca7 ho ?_)))))))
 rw [hd]
 dsimp only
 rw [aRefKeyMayBeTheName_eq]
 simp only [aRefKeyMayBeTheNameByArray,Aze,Bool.and_false,Bp7,if_false]
 refine Ch2 ho ?_
 obtain ⟨c,d,dt,sl⟩:=o
 subst hd
 cases hi:es.findIdx? (·.key.isStr name) with
 | some i=>
  have e0:=Bk4 (Bp9 name (if name.cps.isEmpty=true then 0 else Cf7 (M.w.params.strHash name.cps)) (.str name s.toks) v) ho (by simp only [Bs7,Bp8,hi]; rfl)
  refine h _ _ ⟨_,_,ep,e0,by simp only [Bs7,Bp8,hi]; rfl,hk.modify _ _,fun x=>?_⟩ (Bv4 ..) e0 (fun o' q=>?_) ?_
  · show _=if x=name then some v else mm x
    rw [<- hm]; exact findBy_modify (fun n v=>v.isStr n) Value.isStr_inj es name x v i hi
  · rw [ho] at q; cases q; simp only [Bs7,Bp8,hi]
  · simp only [Bs7,Bp8,hi]; exact ⟨_,_,rfl⟩
 | none=>
  have e0:=Bk4 (Bp9 name (if name.cps.isEmpty=true then 0 else Cf7 (M.w.params.strHash name.cps)) (.str name s.toks) v) ho (by simp only [Bs7,Bp8,hi]; rfl)
  refine h _ _ ⟨_,_,ep + 1,e0,by simp only [Bs7,Bp8,hi]; rfl,hk.push _ _ _ _,fun x=>?_⟩ (Bv4 ..) e0 (fun o' q=>?_) ?_
  · show _=if x=name then some v else mm x
    rw [<- hm]
    exact findBy_push (fun n v=>v.isStr n) es name x _ _ v (fun y=>by
     show (name == y)=decide (y=name)
     by_cases h:y=name
     · subst h; simp
     · have:¬ name=y:=fun e=>h e.symm
       simp [h,this]) hi
  · rw [ho] at q; cases q; simp only [Bs7,Bp8,hi]
  · simp only [Bs7,Bp8,hi]; exact ⟨_,_,rfl⟩
section
variable {P:Pm} {n:Nat} {fx:Fx} {σ:Sto} {m:A8} {X:Xt}
theorem Axs {i k pos Q} (h:Q (.int i) σ):Ev P n fx (.Constant (.int i) k pos) σ m Q X:=
 fun A st B g env s he hr hm=>Cm2 ⟨g,σ,m,_,A2 g,hr.tok _,.int i _,rfl,h⟩
theorem Ayz {x k pos Q} (h:Q (.str x) σ):Ev P n fx (.Constant (.str x) k pos) σ m Q X:=
 fun A st B g env s he hr hm=>wpAny_Constant_str ⟨g,σ,m,_,A2 g,hr.tok _,.str x _,rfl,h⟩
theorem Awj {k pos Q} (h:Q .none σ):Ev P n fx (.Constant .none k pos) σ m Q X:=
 fun A st B g env s he hr hm=>wpAny_Constant_none ⟨g,σ,m,_,A2 g,hr,.none,rfl,h⟩
theorem Avu {b k pos Q} (h:Q (.bool b) σ):Ev P n fx (.Constant (.bool b) k pos) σ m Q X:=
 fun A st B g env s he hr hm=>wpAny_Constant_bool ⟨g,σ,m,_,A2 g,hr,.bool b,rfl,h⟩
theorem ldN {A st B g env s x v Q E}
   (he:Ad5 fx env st) (hr:Rep P B g A st env σ m s) (hk:fx.sc.names.lookup x=some .local∨fx.sc.names.lookup x=some .cell∨fx.sc.names.lookup x=some .free) (hv:m x=some v)
   (hd:(x == ("__classdict__" : Str))=false) (h:∀ c,VR g c v->Q c s):wpAny (model P.prog P.w) A (loadName env x) Q E s:=by
 have hkf:env.scope.kind=.function:=by rw [he.sc]; exact he.kind
 have hko:∀ k,fx.sc.names.lookup x=some k->env.kindOf x=some k:=fun k e=>by unfold By0; rw [he.sc]; exact e
 rcases hk with hk | hk | hk
 · obtain ⟨ml,hn,hml⟩:=hr.fr.ns
   obtain ⟨c,hc,r⟩:=hml x v hv (hko _ hk)
   exact wpAny_loadName_local hkf (hko _ hk) hn hc (h c r)
 · obtain ⟨c,cv,h1,h2,h3⟩:=hr.fr.cel x (.inl (hko _ hk))
   obtain ⟨y,rfl,r⟩:=h3 v hv
   exact wpAny_loadName_cell hkf (hko _ hk) h1 h2 (h y r)
 · obtain ⟨c,cv,h1,h2,h3⟩:=hr.fr.cel x (.inr (hko _ hk))
   obtain ⟨y,rfl,r⟩:=h3 v hv
   exact wpAny_loadName_free hkf (hko _ hk) h1 h2 (h y r) hd
theorem Av5 {x pos v Q} (hk:fx.sc.names.lookup x=some .local∨fx.sc.names.lookup x=some .cell∨fx.sc.names.lookup x=some .free) (hv:m x=some v) (h:Q v σ)
  (hd:(x == ("__classdict__" : Str))=false) (hd':(x == ("__debug__" : Str))=false):Ev P n fx (.Name x pos) σ m Q X:=
 fun A st B g env s he hr hm=>Cc2 (ldN he hr hk hv hd fun c r=>⟨g,σ,m,v,A2 g,hr,r,rfl,h⟩) hd'
theorem ldG {A st B g env s x pos v Q E}
  (he:Ad5 fx env st) (hr:Rep P B g A st env σ m s) (hk:fx.sc.names.lookup x=some .globalImplicit) (hv:nsIn P.K Bl4 x=some (some v)) (hd:(x == ("__debug__" : Str))=false) (h:Q v s) :
  wpAny (model P.prog P.w) A (eval (.Name x pos) env) Q E s:=by
 refine Calls.Name_function_global (by rw [he.sc]; exact he.kind) (by unfold By0; rw [he.sc]; exact hk) ?_ hd
 unfold loadGlobal
 rw [he.globals]
 exact Be9 (looks_nsIn hr.pc.kin hv _ _ _ _ hr.fz (Bf6 h))
theorem ldB {A st B g env s x pos v Q E}
  (he:Ad5 fx env st) (hr:Rep P B g A st env σ m s) (hk:fx.sc.names.lookup x=some .globalImplicit) (hv:nsIn P.K Bl4 x=some none) (hb:Bs9 x=some v) (hx:x≠"__name__") (hd:(x == ("__debug__" : Str))=false) (h:Q v s) :
  wpAny (model P.prog P.w) A (eval (.Name x pos) env) Q E s:=by
 obtain ⟨mb,hn,hm⟩:=hr.pc.blt
 refine Calls.Name_function_global (by rw [he.sc]; exact he.kind) (by unfold By0; rw [he.sc]; exact hk) ?_ hd
 unfold loadGlobal
 rw [he.globals,he.builtins]
 refine Be9 (looks_nsIn hr.pc.kin hv _ _ _ _ hr.fz (Be9 (wpAny_nsGet (hn.keeps hr.fz) ?_)))
 rw [hm x hx,hb]
 exact Bf6 h
theorem Aui {A st B g env s x c v Q E}
   (he:Ad5 fx env st) (hr:Rep P B g A st env σ m s) (hk:fx.sc.names.lookup x=some .local∨fx.sc.names.lookup x=some .cell) (hv:VR g c v)
   (h:∀ h' tk,Rep P B g A st env σ (m.put x v) { s with heap:=h',toks:=tk }->(∀ b o,b≠env.locals->(∀ y d,(env.kindOf y=some .cell∨env.kindOf y=some .free)->env.cells.lookup y=some d->b≠d)->s.heap.get? b=some o->h'.get? b=some o)->((∃ o,s.heap.get? env.locals=some o/\Ahg o)->∃ o,h'.get? env.locals=some o/\Ahg o)->Q () { s with heap:=h',toks:=tk }):wpAny (model P.prog P.w) A (storeName env x c) Q E s:=by
 have hkf:env.scope.kind=.function:=by rw [he.sc]; exact he.kind
 have hko:∀ k,fx.sc.names.lookup x=some k->env.kindOf x=some k:=fun k e=>by unfold By0; rw [he.sc]; exact e
 obtain ⟨ml,hn,hml⟩:=hr.fr.ns
 have key:∀ (a:Addr) (h':Heap) (tk:Nat),Bq8 a s.heap h'->g.get? a=none->B.k.get? a=none->σ a=none->(∀ o o',s.heap.get? a=some o->Ahg o->h'.get? a=some o'->Ahg o')->(s.heap.get? a≠none->h'.get? a≠none) ->
     RepC P B g A st σ { s with heap:=h',toks:=tk }:=fun a h' tk hs hg hk' hσ hfr Apy=>
   ⟨hr.pc,hr.stack,hr.stk.keeps (fun b o e f=>by
       by_cases hb:b=a
       · subst hb
         cases q:h'.get? b with
         | none=>exact absurd q (Apy (by rw [e]; simp))
         | some o'=>exact ⟨o',rfl,hfr _ _ e f q⟩
       · exact ⟨o,(hs.2 b hb).trans e,f⟩) (fun _ _ _ _ e=>e),
     fun b o e=>by
       have hb:b≠a:=by rintro rfl; rw [hk'] at e; cases e
       rcases hr.keeps b o e with q | ⟨f,sl,q⟩
       · exact .inl ((hs.2 b hb).trans q)
       · exact .inr ⟨f,sl,(hs.2 b hb).trans q⟩,
     fun b o e=>(hs.2 b (by rintro rfl; rw [hg] at e; cases e)).trans (hr.fz b o e),hr.ext,hr.new,
     fun b y e=>by
       obtain ⟨h1,h2,o,h3,h4⟩:=hr.sto b y e
       exact ⟨h1,h2,o,(hs.2 b (by rintro rfl; rw [hσ] at e; cases e)).trans h3,h4⟩,hr.gens,hr.drawn,hr.os⟩
 rcases hk with hk | hk
 · rw [storeName_local (hko _ hk) (by rw [hkf]; rfl)]
   refine Aym hn (fun h' o1 hn' hs' ho1 Bcc Axf=>h h' _ ⟨key _ _ _ hs' hr.own.loc.1 hr.own.loc.2.1 hr.own.loc.2.2 ?_ ?_,⟨⟨_,hn',?_⟩,?_,hr.fr.apart⟩,hr.own⟩ (fun b o hb _ e=>(hs'.2 b hb).trans e) (fun qA=>by obtain ⟨o,w1,w2⟩:=qA; exact ⟨o1,ho1,(Bcc o w1).trans w2.1,Axf⟩))
   · intro o o' e f q; rw [ho1] at q; cases q; exact ⟨(Bcc o e).trans f.1,Axf⟩
   · intro _ q; obtain ⟨o,_,_,ho,_⟩:=hn'; rw [q] at ho; cases ho
   · intro y u hy hl
     by_cases e:y=x
     · subst e; simp only [A8.put,if_true] at hy; cases hy; exact ⟨c,by simp,hv⟩
     · simp only [A8.put,e,if_false] at hy
       obtain ⟨d,hd,r⟩:=hml y u hy hl
       exact ⟨d,by simpa [e] using hd,r⟩
   · intro y hy
     obtain ⟨d,cv,h1,h2,h3⟩:=hr.fr.cel y hy
     refine ⟨d,cv,h1,h2.sameBut hs' (Abg hr.fr hy h1),fun u hu=>h3 u ?_⟩
     have e:y≠x:=by rintro rfl; rw [hko _ hk] at hy; simp at hy
     simpa [A8.put,e] using hu
 · obtain ⟨d,cv,h1,h2,h3⟩:=hr.fr.cel x (.inl (hko _ hk))
   obtain ⟨o1,o2,o3⟩:=hr.own.cel x d (.inl (hko _ hk)) h1
   have hdl:=Abg hr.fr (.inl (hko _ hk)) h1
   refine wpAny_storeName_cell hkf (hko _ hk) h1 h2 (fun h' hc' hs'=>h h' s.toks ⟨key d h' s.toks hs' o1 o2 o3 ?_ ?_,⟨⟨ml,hn.sameBut hs' (Bq3 hdl),?_⟩,?_,hr.fr.apart⟩,hr.own⟩ (fun b o _ hb e=>(hs'.2 b (hb x d (.inl (hko _ hk)) h1)).trans e) (fun qB=>by obtain ⟨o,w1,w2⟩:=qB; exact ⟨o,(hs'.2 _ (Bq3 hdl)).trans w1,w2⟩))
   · intro o o' e f; obtain ⟨oc,q1,q2⟩:=h2; rw [e] at q1; cases q1; obtain ⟨_,es,nn,q⟩:=f; rw [q] at q2; cases q2
   · intro _ q; obtain ⟨oc,q1,q2⟩:=hc'; rw [q] at q1; cases q1
   · intro y u hy hl
     have e:y≠x:=by rintro rfl; rw [hko _ hk] at hl; cases hl
     simp only [A8.put,e,if_false] at hy
     exact hml y u hy hl
   · intro y hy
     by_cases e:y=x
     · subst e
       exact ⟨d,_,h1,hc',fun u hu=>by simp only [A8.put,if_true] at hu; cases hu; exact ⟨c,rfl,hv⟩⟩
     · obtain ⟨d',cv',q1,q2,q3⟩:=hr.fr.cel y hy
       refine ⟨d',cv',q1,q2.sameBut hs' (fun q=>e (hr.fr.apart _ _ _ (q ▸ q1) h1)),fun u hu=>q3 u (by simpa [A8.put,e] using hu)⟩
end
noncomputable def Ahi (Z:Addr->Prop) (g h h':Heap):Prop:=∀ b o,h.get? b=some o->¬ Z b->h'.get? b=some o∨(Ahg o/\g.get? b=none/\∃ sl,h'.get? b=some { o with slots:=sl })
section
variable {P:Pm} {B:Bs} {g:Heap} {A:Around} {st:List Env} {env:Env} {σ:Sto} {m:A8} {s:Shared}
theorem RepC.B5 {Z h'} (R:RepC P B g A st σ s) (hz:∀ b,Z b->Fld g B.k s.heap b) (h:Ahi Z g s.heap h') (tk:Nat) :
   RepC P B g A st σ { s with heap:=h',toks:=tk }:=by
 have nz:∀ b o,s.heap.get? b=some o->(∀ vs,o.data≠.fields vs)->¬ Z b:=fun b o e hn q=>by
   obtain ⟨_,_,o',h1,vs,h2⟩:=hz b q
   rw [e] at h1; cases h1; exact hn vs h2
 refine ⟨R.pc,R.stack,R.stk.keeps (fun b o e f=>?_) (fun _ _ _ _ e=>e),fun b o e=>?_,fun b o e=>?_,R.ext,R.new,fun b y e=>?_,R.gens,R.drawn,R.os⟩
 · have:=nz b o e (by obtain ⟨_,es,n,q⟩:=f; rw [q]; exact nofun)
   rcases h b o e this with q | ⟨_,_,sl,q⟩
   · exact ⟨o,q,f⟩
   · exact ⟨_,q,f.slots sl⟩
 · have hb:¬ Z b:=fun q=>by obtain ⟨_,w,_⟩:=hz b q; rw [w] at e; cases e
   rcases R.keeps b o e with q | ⟨f,sl,q⟩
   · rcases h b o q hb with q' | ⟨f,_,sl,q'⟩
     · exact .inl q'
     · exact .inr ⟨f,sl,q'⟩
   · rcases h b _ q hb with q' | ⟨_,_,sl',q'⟩
     · exact .inr ⟨f,sl,q'⟩
     · exact .inr ⟨f,sl',q'⟩
 · have hb:¬ Z b:=fun q=>by obtain ⟨w,_⟩:=hz b q; rw [w] at e; cases e
   rcases h b o (R.fz b o e) hb with q | ⟨_,q,_⟩
   · exact q
   · rw [e] at q; cases q
 · obtain ⟨h1,h2,o,h3,h4⟩:=R.sto b y e
   rcases h b o h3 (nz b o h3 h4.Amq) with q | ⟨f,_⟩
   · exact ⟨h1,h2,o,q,h4⟩
   · exact absurd f.1 h4.Bc2
theorem Amo.B5 {Z h h'} (F:Amo g env m h) (nz:∀ b o,h.get? b=some o->(∀ vs,o.data≠.fields vs)->¬ Z b) (k:Ahi Z g h h'):Amo g env m h':=by
 refine ⟨?_,fun x hx=>?_,F.apart⟩
 · obtain ⟨ml,⟨o,es,ep,h1,h2,r⟩,q⟩:=F.ns
   refine ⟨ml,?_,q⟩
   rcases k _ o h1 (nz _ o h1 (by rw [h2]; exact nofun)) with q | ⟨_,_,sl,q⟩
   · exact ⟨o,es,ep,q,h2,r⟩
   · exact ⟨_,es,ep,q,h2,r⟩
 · obtain ⟨c,cv,h1,⟨o,h2,h3⟩,h4⟩:=F.cel x hx
   refine ⟨c,cv,h1,?_,h4⟩
   rcases k _ o h2 (nz _ o h2 (by rw [h3]; exact nofun)) with q | ⟨_,_,sl,q⟩
   · exact ⟨o,q,h3⟩
   · exact ⟨_,q,h3⟩
theorem Rep.B5 {Z h'} (R:Rep P B g A st env σ m s) (hz:∀ b,Z b->Fld g B.k s.heap b) (h:Ahi Z g s.heap h') (tk:Nat) :
  Rep P B g A st env σ m { s with heap:=h',toks:=tk }:=
 ⟨R.toRepC.B5 hz h tk,R.fr.B5 (fun b o e hn q=>by
  obtain ⟨_,_,o',h1,vs,h2⟩:=hz b q
  rw [e] at h1; cases h1; exact hn vs h2) h,R.own⟩
theorem Ak4 {g h a f}:Ahi (·=a) g h (h.update a f):=fun b o ho hb=>.inl ((Bj5 _ _ (Bq3 hb)).trans ho)
theorem Am8.fld {h e why T} (x:Am8 P B g h e why T):Fld g B.k h e:=by
 obtain ⟨oe,vs,dx,od,t,h1,h2,h3,h4,h5,h6,h7,h8,h9,h10,h11⟩:=x
 exact ⟨h9,h10,oe,h1,vs,h3⟩
theorem Am8.Ajf {B' h e why T} (x:Am8 P B' g h e why T) (hk:∀ b,B'.k.get? b=none->B.k.get? b=none):Am8 P B g h e why T:=by
 obtain ⟨oe,vs,dx,od,t,h1,h2,h3,h4,h5,h6,h7,h8,h9,h10,h11⟩:=x
 refine ⟨oe,vs,dx,od,t,h1,h2,h3,h4,h5,h6,h7,h8,h9,hk _ h10,?_⟩
 induction h11 using TbV.casesOn with
 | no=>exact .no
 | tb n a b c d e=>exact .tb n a b c d (hk _ e)
theorem ExcAt.Ajf {B' h e why} (x:ExcAt P B' g h e why) (hk:∀ b,B'.k.get? b=none->B.k.get? b=none):ExcAt P B g h e why:=x.elim fun T x=>⟨T,x.Ajf hk⟩
theorem Am8.Axr {h e T why} (x:Am8 P B g h e why (.ref T)) (v:Value):Am8 P B g (h.update T (Br5 (·.setIfInBounds 3 v))) e why (.ref T):=by
 obtain ⟨oe,vs,dx,od,t,h1,h2,h3,h4,h5,h6,h7,h8,h9,h10,h11⟩:=x
 cases h11 with
 | tb n a b c d e=>
  have hd₃:=Cc3 b (·.setIfInBounds 3 v)
  exact ⟨oe,vs,dx,od,t,(Bj5 _ _ n).trans h1,h2,h3,h4,h5,h6,h7,h8,h9,h10,.tb n (Bk4 (Br5 (·.setIfInBounds 3 v)) a (Cg9 hd₃)) hd₃ (by rw [Array.size_setIfInBounds]; exact c) d e⟩
theorem Agd {L e outer why head Aww Q E} (hst:st=env :: outer) (hf:env.frame=some L)
   (R:RepC P B g A st σ s) {T} (x:Am8 P B g s.heap e why T)
   (h:∀ h' T',Am8 P B g h' e why (.ref T')->Ahi (·=e) g s.heap h'->Q () { s with heap:=h' }) :
   wpAny (model P.prog P.w) A (do let a <- frameOf env; let pl <- entryPlaceOf L Aww; let b <- EntryCells.newEntry head a .none (Co0 L) .none pl; setField (.ref e) 1 b) Q E s:=by
 subst hst
 obtain ⟨oe,vs,dx,od,t,h1,h2,h3,h4,h5,h6,h7,h8,h9,h10,h11⟩:=x
 refine Be9 (wpAny_frameOf_fun R.stack R.stk.fun hf fun h₁ hs₁=>?_)
 refine Be9 (wpAny_entryPlaceOf fun pl hpl=>?_)
 unfold EntryCells.newEntry newFields
 refine Be9 (Bn9 ?_ (hpl.sizeOk5 _ _ _ _ _))
 have inS:∀ b,b∈(env :: outer).filterMap (·.frame)->∀ o,s.heap.get? b=some o->Ahg o/\g.get? b=none:=by
   have key:∀ l:List Env,Stk g s.heap l->∀ b,b∈l.filterMap (·.frame)->∀ o,s.heap.get? b=some o->Ahg o/\g.get? b=none:=by
     intro l
     induction l with
     | nil=>intro _ b hb; simp at hb
     | cons en r ih=>
      rintro ⟨_,⟨F,oF,f1,f2,f3,f4⟩,c⟩ b hb o ho
      rw [Bq4,f1] at hb
      rcases Bi0.mp hb with q | q
      · subst q; rw [f2] at ho; cases ho; exact ⟨f3,f4⟩
      · exact ih c b q o ho
   exact key _ R.stk
 have hne:e ∉ (env :: outer).filterMap (·.frame):=fun q=>by
   obtain ⟨⟨_,es,n,q1⟩,_⟩:=inS e q oe h1
   rw [q1] at h3; cases h3
 have he₁:h₁.get? e=some oe:=(hs₁.2.1 e hne).trans h1
 have he₂:=Bi5 (h:=h₁) { cls:=.type "traceback",dict:=none,data:=.fields ([head,.ref L,.none,Co0 L,.none] ++ (if pl.isEmpty then Bg8 6 Value.none else pl)).toArray } he₁
 refine Ce4 he₂ h3 (by rw [h4]; decide) (h _ h₁.objs.size ?_ ?_)
 · have hTe:h₁.objs.size≠e:=Bq2 (Bl3 he₁)
   have hd₃:=Cc3 h3 (·.setIfInBounds 1 (Value.ref h₁.objs.size))
   have he₃:=Bk4 (Br5 (·.setIfInBounds 1 (Value.ref h₁.objs.size))) he₂ (Cg9 hd₃)
   have hT₃:=(Bj5 (h₁.push { cls:=.type "traceback",dict:=none,data:=.fields ([head,.ref L,.none,Co0 L,.none] ++ (if pl.isEmpty then Bg8 6 Value.none else pl)).toArray })
     (Br5 (·.setIfInBounds 1 (Value.ref h₁.objs.size))) (Bq3 hTe)).trans (Bi4 h₁ rfl)
   have hsz:s.heap.get? h₁.objs.size=none:=by rw [hs₁.1]; exact Ak _
   refine ⟨_,_,dx,od,t,he₃,(Obj.cls_mapFields _ _).trans h2,hd₃,by rw [Array.size_setIfInBounds]; exact h4,?_,h6,h7,by simp [h4],h9,h10,.tb hTe hT₃ rfl ?_ (Aa2 R.fz hsz) (Aa0 R.keeps hsz)⟩
   · obtain ⟨c,d,dt,sl⟩:=oe; cases h3; exact h5
   · simp only [Bp2,Bf2,Bh5,Bl2]; exact Bh0 (by decide) (Bg9 ..)
 · intro b o ho hb
   have up:∀ o',h₁.get? b=some o'->((h₁.push { cls:=.type "traceback",dict:=none,data:=.fields ([head,.ref L,.none,Co0 L,.none] ++ (if pl.isEmpty then Bg8 6 Value.none else pl)).toArray }).update e (Br5 (·.setIfInBounds 1 (Value.ref h₁.objs.size)))).get? b=some o':=
     fun o' q=>(Bj5 _ _ (Bq3 hb)).trans (Bi5 _ q)
   by_cases hm:b∈(env :: outer).filterMap (·.frame)
   · obtain ⟨f1,f2⟩:=inS b hm o ho
     obtain ⟨sl,q⟩:=hs₁.2.2 b o ho
     exact .inr ⟨f1,f2,sl,up _ q⟩
   · exact .inl (up _ ((hs₁.2.1 b hm).trans ho))
theorem Ac5 {e T why fl Q E} (x:Am8 P B g s.heap e why (.ref T))
  (h:∀ h' (Z:Addr->Prop),Am8 P B g h' e why (.ref T)->(∀ b,Z b->Fld g B.k s.heap b)->Ahi Z g s.heap h'->Q () { s with heap:=h' }) :
  wpAny (model P.prog P.w) A (setFlight (.ref e) fl) Q E s:=by
 have x':=x.Axr (fl.elim Value.none fun f=>Co0 f)
 obtain ⟨oe,vs,dx,od,t,h1,h2,h3,h4,h5,h6,h7,h8,h9,h10,h11⟩:=x
 cases h11 with
 | tb n a2 a3 a4 a5 a6=>
  unfold setFlight
  refine Be9 (Bt3 h1 h3 h8 ?_)
  rw [if_pos (show (Value.ref T != Value.none)=true from rfl)]
  exact Ce4 a2 a3 a4 (h _ (·=T) x' (fun b hb=>hb ▸ ⟨a5,a6,_,a2,_,a3⟩) Ak4)
theorem Ad9 {L e outer why Q E} (hst:st=env :: outer) (hf:env.frame=some L) (R:RepC P B g A st σ s) (x:ExcAt P B g s.heap e why)
  (h:∀ h' (Z:Addr->Prop) T,Am8 P B g h' e why (.ref T)->(∀ b,Z b->Fld g B.k s.heap b)->Ahi Z g s.heap h'->Q () { s with heap:=h' }) :
  wpAny (model P.prog P.w) A (Cm5 (.ref e) env) Q E s:=by
 obtain ⟨T,x⟩:=x
 have hZe:=x.fld
 obtain ⟨oe,vs,dx,od,t,h1,h2,h3,h4,h5,h6,h7,h8,h9,h10,h11⟩:=id x
 unfold Cm5
 simp only [hf]
 refine Be9 (Bt3 h1 h3 h8 ?_)
 induction h11 using TbV.casesOn with
 | no=>
  rw [if_neg (by decide)]
  exact Agd hst hf R x fun h' T k1 k3=>h h' (·=e) T k1 (fun b hb=>hb ▸ hZe) k3
 | @tb T oT ts n a2 a3 a4 a5 a6=>
  rw [if_pos (show (Value.ref T != Value.none)=true from rfl)]
  refine Be9 (Bt3 a2 a3 (Array.getElem?_eq_getElem a4) ?_)
  by_cases hq:(ts[3] == Co0 L)=true
  · rw [if_pos hq]
    exact Bf6 (h s.heap (fun _=>False) T x (fun _ q=>q.elim) (fun b o ho _=>.inl ho))
  · rw [if_neg hq]
    have hZT:∀ b,b=T->Fld g B.k s.heap b:=fun b hb=>hb ▸ ⟨a5,a6,oT,a2,ts,a3⟩
    refine Be9 (Ce4 a2 a3 a4 ?_)
    have R':=R.B5 hZT (Ak4 (f:=Br5 (·.setIfInBounds 3 Value.none))) s.toks
    refine Agd (s:={ s with heap:=s.heap.update T (Br5 (·.setIfInBounds 3 Value.none)) }) hst hf R' (x.Axr .none) fun h' T' k1 k3=>h h' (fun b=>b=e∨b=T) T' k1 (fun b hb=>hb.elim (fun q=>q ▸ hZe) (hZT b)) ?_
    intro b o ho hb
    rw [not_or] at hb
    exact k3 b o ((Bj5 _ _ (Bq3 hb.2)).trans ho) hb.1
theorem XP.passes {fx X e} (he:Ad5 fx env st) (hc:fx.comp=false) (h:XP P B A st env g X e s) :
  notedBy (model P.prog P.w) A env (Cf8 (model P.prog P.w) A env (XP P B A st env g X)) e s:=by
 obtain ⟨g',σ',m',why,ea,hg,hr,rfl,hx,hX⟩:=h
 obtain ⟨outer,hst,hf⟩:=he.top hc
 unfold notedBy
 refine Ad9 hst hf hr.toRepC hx fun h' Z T k1 k3 k4=>?_
 have hr':=hr.B5 k3 k4 s.toks
 unfold Cf8
 obtain ⟨oe,vs,dx,od,t,h1,h2,h3,h4,h5,h6,h7,h8,h9,h10,h11⟩:=id k1
 refine Be9 (Bt3 (s:={ s with heap:=h' }) h1 h3 h8 ?_)
 rw [if_neg (show ¬ ((Value.ref T == Value.none)=true) from Bg6)]
 refine Ac5 (s:={ s with heap:=h' }) k1 fun h'' Z' l1 l3 l4=>?_
 exact ⟨g',σ',m',why,ea,hg,hr'.B5 l3 l4 s.toks,rfl,⟨_,l1⟩,hX⟩
end
section
variable {prog:Program} {w:World} {A:Around} {E:Value->Shared->Prop} {s:Shared}
theorem Ags {it l i items x Q} (hit:s.heap.IsTupleIter it l i) (hl:s.heap.IsTuple l items) (hx:items[i]?=some x)
  (hQ:∀ h',h'.IsTupleIter it l (i + 1)->Bq8 it s.heap h'->Q x { s with heap:=h' }):wpAny (model prog w) A (Bt7 (.ref it)) Q E s:=by
 obtain ⟨o,ho,hc,hd⟩:=id hit
 obtain ⟨ol,hol,_,nl,hdl⟩:=hl
 unfold Bt7
 refine Be9 (Bu4 (name:=Bf5 "__next__") hit.typeIs Bw9
  (Br4 Bw9 hit.typeIs F.entry_tuple_iterator_next ?_ (F.args_tuple_iterator_next_1 _)))
 show wpAny _ _ (field (.ref it) 0 >>= _) _ _ s
 refine Be9 (Bt3 ho hd (x:=.ref l) rfl ?_)
 show wpAny _ _ (if (Value.ref l == Value.none)=true then _ else _) _ _ s
 rw [if_neg (show ¬ ((Value.ref l == Value.none)=true) from Bg6)]
 show wpAny _ _ (field (.ref it) 1 >>= _) _ _ s
 refine Be9 (Bt3 ho hd (x:=.int i 0) rfl ?_)
 show wpAny _ _ (seqItems? (.ref l) >>= _) _ _ s
 refine Be9 (Ck2 hol hdl ?_)
 simp only [Bz7,hx]
 refine Be9 (Ce4 ho hd (by simp) (Bf6 ⟨x,rfl,Bf6 (hQ _ ?_ (Bv4 ..))⟩))
 exact ⟨_,Bk4 _ ho (Cg9 (Cc3 hd _)),(Obj.cls_mapFields ..).trans hc,by
  rw [Cc3 hd]; simp [Co0]⟩
theorem Adk {it l i items Q} (hh:A.handled=none) (hit:s.heap.IsTupleIter it l i) (hl:s.heap.IsTuple l items) (hx:items[i]?=none)
  (hE:∀ h' e,Heap.ExtBut it s.heap h'->(∃ o,h'.get? e=some o/\o.cls=.type "StopIteration")->E (.ref e) { s with heap:=h' }):wpAny (model prog w) A (Bt7 (.ref it)) Q E s:=by
 obtain ⟨o,ho,hc,hd⟩:=id hit
 obtain ⟨ol,hol,_,nl,hdl⟩:=hl
 unfold Bt7
 refine Be9 (Bu4 (name:=Bf5 "__next__") hit.typeIs Bw9
  (Br4 Bw9 hit.typeIs F.entry_tuple_iterator_next ?_ (F.args_tuple_iterator_next_1 _)))
 show wpAny _ _ (field (.ref it) 0 >>= _) _ _ s
 refine Be9 (Bt3 ho hd (x:=.ref l) rfl ?_)
 show wpAny _ _ (if (Value.ref l == Value.none)=true then _ else _) _ _ s
 rw [if_neg (show ¬ ((Value.ref l == Value.none)=true) from Bg6)]
 show wpAny _ _ (field (.ref it) 1 >>= _) _ _ s
 refine Be9 (Bt3 ho hd (x:=.int i 0) rfl ?_)
 show wpAny _ _ (seqItems? (.ref l) >>= _) _ _ s
 refine Be9 (Ck2 hol hdl ?_)
 simp only [Bz7,hx]
 refine Be9 (wpAny_rule (Be9 (Ce4 ho hd (by simp) ?_)))
 show wpAny _ _ (newExc (.type "StopIteration") [] >>= _) _ _ _
 refine Be9 ?_
 simp only [newExc,newTuple]
 refine Be9 (Bn9 ?_ (by size_fits))
 refine Be9 (m:=firstArgMember _ _) (Cg8 (a:=Value.none) (by first | rfl | (simp only [firstArgMember]; rfl)) ?_)
 refine Bn9 ?_ (by size_fits)
 refine wpAny_raiseNew_none (by first | exact (show A.in1.handled=none from hh) | exact hh) ?_
 exact hE _ _ (((Bv4 ..).extBut.push _).push _) ⟨_,Bi4 _ rfl,rfl⟩
end
theorem Apo {prog:Program} {w:World} {A:Around} {E:Value->Shared->Prop} {s:Shared} {e it l:Addr} {i:Nat} {items:Array Value} {old:Value} {Q:Option Value->Shared->Prop} (hh:A.handled=none)
  (he:IsEnum s.heap e it i old) (hit:s.heap.IsTupleIter it l i) (hl:s.heap.IsTuple l items) (hx:items[i]?=none)
  (hQ:∀ h',Heap.ExtBut it s.heap h'->Q none { s with heap:=h' }):wpAny (model prog w) A (pyNext (.ref e)) Q E s:=by
 have hT:s.TypeIs (.ref e) "enumerate":=⟨_,he,rfl⟩
 unfold pyNext
 refine Be9 (wpAny_attempt (Bu4 (name:=Bf5 "__next__") hT F.slot_enumerate_next
  (Br4 F.slot_enumerate_next hT F.entry_enumerate_next ?_ (F.args_enumerate_next_1 _))))
 show wpAny _ _ (field (.ref e) 2 >>= _) _ _ _
 refine Be9 (Bt3 he rfl (x:=.ref it) rfl ?_)
 refine Be9 (Adk hh hit hl hx fun h' x he' hx'=>?_)
 obtain ⟨o,ho,hc⟩:=hx'
 refine Be9 (wpAny_isInstance (T:="StopIteration") (b:=true) ⟨o,ho,hc⟩ isSubtype_stop ?_)
 exact Bf6 (hQ _ he')
theorem IsTuple.atT {h h':Heap} {a:Addr} {items:Array Value} (x:h.IsTuple a items) (k:∀ o,h.get? a=some o->h'.get? a=some o):h'.IsTuple a items:=by obtain ⟨o,ho,r⟩:=x; exact ⟨o,k o ho,r⟩
theorem Ayg {prog:Program} {w:World} {A:Around} (hh:A.handled=none) (it l:Addr) (hne:l≠it) (items:Array Value) :
  Draws prog w A it [it,l] items.size (fun i v=>items[i]?=some v) (fun i h=>h.IsTupleIter it l i/\h.IsTuple l items) where
 live:=fun _ _ st=>by obtain ⟨o,ho,_⟩:=st.1; exact ⟨o,ho⟩
 frame:=fun _ _ _ st hk=>⟨by obtain ⟨o,ho,r⟩:=st.1; exact ⟨o,hk it (by simp) o ho,r⟩,IsTuple.atT st.2 fun o e=>hk l (by simp) o e⟩
 item:=fun i s Q E hi st hQ=>by
  refine Ags st.1 st.2 (x:=items[i]) (by simp [hi]) fun h' hit' hs'=>?_
  exact hQ _ h' s.toks (by simp [hi]) ⟨hit',st.2.extBut hs'.extBut hne⟩ hs'
 done:=fun s Q E st hE=>Adk hh st.1 st.2 (by simp) hE
theorem Bbi {M:Model} {A:Around} {b:Bool} {Q:Bool->Shared->Prop} {E:Value->Shared->Prop} {s:Shared} (h:∀ b,Q b s):wpAny M A (pure b) Q E s:=Bf6 (h b)
theorem Aqp (l:Addr) (items:Array Value) (n:Nat) (dct:Option Addr) (sl:Array (Option Value)) :
  Meets (Bi9.«enumerate.__new__» ⟨[.type "enumerate",.ref l],[]⟩) (fun _ R s=>s.heap.get? l=some { cls:=.type "tuple",dict:=dct,data:=.seq items n,slots:=sl } ∧
   R (.ok (.ret (.ref (s.heap.push { cls:=.type "tuple_iterator",data:=.fields #[.ref l,.int 0 0] }).objs.size)))
    { s with heap:=(s.heap.push { cls:=.type "tuple_iterator",data:=.fields #[.ref l,.int 0 0] }).push { cls:=.type "enumerate",data:=.fields #[.none,.bool false,.ref s.heap.objs.size,Co0 0,.none,.none] } }):=
 .of_wp fun prog w A R s h=>by
  obtain ⟨hp,g,d,tk,os⟩:=s; obtain ⟨hl,h⟩:=h
  have Au8:=sub_enumerate
  have hL:Heap.IsTuple (Shared.heap ⟨hp,g,d,tk,os⟩) l items:=⟨_,hl,rfl,n,rfl⟩
  wp_walk using AutoSeq1.wpAny_loadPart' hl
  refine wpAny_stack_any fun st=>Bbi fun b=>?_
  cases b <;> (wp_walk using AutoSeq1.wpAny_loadPart' hl,wpAny_pyIter_tuple hL; exact ⟨_,rfl,h⟩)
theorem Aoi {prog w A E s l items Q} (hL:s.heap.IsTuple l items)
  (h:∀ h',IsEnum h' (s.heap.objs.size + 1) s.heap.objs.size 0 .none->h'.IsTupleIter s.heap.objs.size l 0->h'.objs.size=s.heap.objs.size + 2 ->
   (∀ b o,s.heap.get? b=some o->h'.get? b=some o)->Q (.ref (s.heap.objs.size + 1)) { s with heap:=h' }) :
  wpAny (model prog w) A (call (.type "enumerate") [.ref l]) Q E s:=by
 obtain ⟨⟨c,dct,dt,sl⟩,hl,hc,n,hd⟩:=hL
 replace hc:c=.type "tuple":=hc
 replace hd:dt=.seq items n:=hd
 subst hc hd
 refine callType_new F.called_enumerate (by decide) (F.typeCall_enumerate_1 _) (F.newCall_enumerate_1 _) (fun obj=>F.args_object_init_2 obj _) F.entry_enumerate_new
  (Aqp l items n dct sl) ⟨hl,?_⟩
 have hz:(s.heap.push { cls:=.type "tuple_iterator",data:=.fields #[.ref l,.int 0 0] }).objs.size=s.heap.objs.size + 1:=Bu0 ..
 show _/\_
 rw [hz]
 have he:IsEnum ((s.heap.push { cls:=.type "tuple_iterator",data:=.fields #[.ref l,.int 0 0] }).push
   { cls:=.type "enumerate",data:=.fields #[.none,.bool false,.ref s.heap.objs.size,Co0 0,.none,.none] }) (s.heap.objs.size + 1) s.heap.objs.size 0 .none:=by
  have:=Bi4 (s.heap.push { cls:=.type "tuple_iterator",data:=.fields #[.ref l,.int 0 0] })
   (o:={ cls:=.type "enumerate",data:=.fields #[.none,.bool false,.ref s.heap.objs.size,Co0 0,.none,.none] }) rfl
  rw [hz] at this; exact this
 refine ⟨⟨_,he,rfl⟩,h _ he ⟨_,Bi5 _ (Bi4 _ rfl),rfl,rfl⟩ (by rw [Bu0,hz]) fun b o x=>Bi5 _ (Bi5 _ x)⟩
noncomputable def Azo (env:Env) (b:Addr):Prop:=b=env.locals∨∃ x,(env.kindOf x=some .cell∨env.kindOf x=some .free)/\env.cells.lookup x=some b
section
variable {P:Pm} {B:Bs} {g:Heap} {A:Around} {st:List Env} {env:Env} {σ:Sto} {m:A8} {s:Shared}
inductive Bb5 (P:Pm) (B:Bs) (g:Heap) (A:Around) (st:List Env) (σ:Sto) (s:Shared) (Z:Addr->Prop):Prop
 | mk (B':Bs) (h1:B'.gk=g) (hr:RepC P B' g A st σ s) (h2:∀ b o,B'.k.get? b=some o ↔ (σ b=none/\¬ Z b/\s.heap.get? b=some o)) (h3:∀ b,B'.k.get? b=none->B.k.get? b=none)
  (h4:∀ g' A' pre st' σ' s',RepC P B' g' A' (pre ++ st') σ' s'->A.frames=some st'->RepC P B g' A st' σ' s')
theorem RepC.step (R:RepC P B g A st σ s) (Z:Addr->Prop) (hZ:∀ b,Z b->B.k.get? b=none) :
   Bb5 P B g A st σ s Z:=by
 have hk:∀ b o,(Ag9 s.heap fun a=>σ a≠none∨Z a).get? b=some o ↔ (σ b=none/\¬ Z b/\s.heap.get? b=some o):=fun b o=>by
   rw [Aia,not_or,and_assoc]; simp
 have low:∀ b,(Ag9 s.heap fun a=>σ a≠none∨Z a).get? b=none->B.k.get? b=none:=fun b hb=>by
   cases q:B.k.get? b with
   | none=>rfl
   | some o=>
     obtain ⟨o',h1,_⟩:=R.keeps.some q
     have h2:σ b=none:=by
       cases q2:σ b with
       | none=>rfl
       | some x=>have:=(R.sto b x q2).2.1; rw [q] at this; cases this
     have h3:¬ Z b:=fun z=>by rw [hZ b z] at q; cases q
     rw [(hk b o').mpr ⟨h2,h3,h1⟩] at hb; cases hb
 refine ⟨⟨Ag9 s.heap fun a=>σ a≠none∨Z a,g,s.gens,s.drawn,s.os⟩,rfl,⟨R.pc,R.stack,R.stk,.of_stays fun b o e=>((hk b o).mp e).2.2,R.fz,A2 g,fun a h1 h2=>absurd h2 h1,fun a x e=>?_,rfl,rfl,rfl,R.os.2⟩,hk,low,?_⟩
 · obtain ⟨h1,h2,h3⟩:=R.sto a x e
   refine ⟨h1,?_,h3⟩
   cases q:(Ag9 s.heap fun a=>σ a≠none∨Z a).get? a with
   | none=>rfl
   | some o=>have:=((hk a o).mp q).1; rw [e] at this; cases this
 · intro g' A' pre st' σ' s' R' hA
   have stk:Stk g' s'.heap st':=by
     have:=R'.stk
     clear R' hA
     induction pre with
     | nil=>exact this
     | cons x r ih=>exact ih this.2.2
   refine ⟨R'.pc,hA,stk,?_,R'.fz,A3 R.ext R'.ext,fun a h1 h2=>?_,fun a x e=>?_,R'.gens.trans R.gens,R'.drawn.trans R.drawn,R'.os.1.trans R.os.1,R'.os.2⟩
   · intro b o e
     have hb:(Ag9 s.heap fun a=>σ a≠none∨Z a).get? b≠none:=fun q=>by rw [low b q] at e; cases e
     rcases R.keeps b o e with q | ⟨f,sl,q⟩
     · cases q2:(Ag9 s.heap fun a=>σ a≠none∨Z a).get? b with
       | none=>exact absurd q2 hb
       | some o'=>
        have:=((hk b o').mp q2).2.2; rw [q] at this; cases this
        exact R'.keeps b o q2
     · cases q2:(Ag9 s.heap fun a=>σ a≠none∨Z a).get? b with
       | none=>exact absurd q2 hb
       | some o'=>
        have:=((hk b o').mp q2).2.2; rw [q] at this; cases this
        rcases R'.keeps b _ q2 with w | ⟨_,sl',w⟩
        · exact .inr ⟨f,sl,w⟩
        · exact .inr ⟨f,sl',w⟩
   · by_cases hg:g.get? a=none
     · exact low a (R'.new a h1 hg)
     · exact R.new a hg h2
   · obtain ⟨h1,h2,h3⟩:=R'.sto a x e
     exact ⟨h1,low a h2,h3⟩
inductive Bae (P:Pm) (B:Bs) (g:Heap) (A:Around) (st:List Env) (env:Env) (σ:Sto) (m:A8) (s:Shared):Prop
 | mk (B':Bs) (h1:B'.gk=g) (hr:Rep P B' g A st env σ m s) (h2:∀ b o,s.heap.get? b=some o->σ b=none->¬ Azo env b->B'.k.get? b=some o) (h3:∀ b,B'.k.get? b=none->B.k.get? b=none) (h4:∀ g' σ' m' s',Rep P B' g' A st env σ' m' s'->Rep P B g' A st env σ' m' s')
theorem Rep.step (R:Rep P B g A st env σ m s):Bae P B g A st env σ m s:=by
 obtain ⟨B',h1,R1,h2,h3,h4⟩:=R.toRepC.step (Azo env) (fun b hb=>by
  rcases hb with rfl | ⟨x,hx,hc⟩
  · exact R.own.loc.2.1
  · exact (R.own.cel x b hx hc).2.1)
 have kn:∀ b,Azo env b->B'.k.get? b=none:=fun b hb=>by
  cases q:B'.k.get? b with
  | none=>rfl
  | some o=>exact absurd hb ((h2 b o).mp q).2.1
 refine ⟨B',h1,⟨R1,R.fr,⟨⟨R.own.loc.1,kn _ (.inl rfl),R.own.loc.2.2⟩,fun x c hx hc=>⟨(R.own.cel x c hx hc).1,kn c (.inr ⟨x,hx,hc⟩),(R.own.cel x c hx hc).2.2⟩⟩⟩,fun b o a1 a2 a3=>(h2 b o).mpr ⟨a2,a3,a1⟩,h3,fun g' σ' m' s' R'=>?_⟩
 exact ⟨h4 g' A [] st σ' s' R'.toRepC R.stack,R'.fr,⟨⟨R'.own.loc.1,R.own.loc.2.1,R'.own.loc.2.2⟩,fun x c hx hc=>⟨(R'.own.cel x c hx hc).1,(R.own.cel x c hx hc).2.1,(R'.own.cel x c hx hc).2.2⟩⟩⟩
theorem XP.Ajf {B' X e} (h:XP P B' A st env g X e s) (hk:∀ b,B'.k.get? b=none->B.k.get? b=none) (hR:∀ g' σ' m' s',Rep P B' g' A st env σ' m' s'->Rep P B g' A st env σ' m' s'):XP P B A st env g X e s:=by
 obtain ⟨g1,σ',m',why,ea,a1,a2,a3,a4,a5⟩:=h
 exact ⟨g1,σ',m',why,ea,a1,hR _ _ _ _ a2,a3,a4.Ajf hk,a5⟩
noncomputable def Ai0:Int->Nat->List V
 | _,0=>[]
 | a,n + 1=>.int a :: Ai0 (a + 1) n
theorem Ayo:∀ (x:Int) (n:Nat),Ai0 x n.succ=V.int x :: Ai0 (x + 1) n:=by intros; rfl
noncomputable def Ahj:Nat->List V->List V
 | _,[]=>[]
 | i,d :: r=>.tup [.int i,d] :: Ahj (i + 1) r
theorem Avz:∀ (x:Nat) (d:V) (r:List V),Ahj x (d :: r)=V.tup [V.int ↑x,d] :: Ahj (x + 1) r:=by intros; rfl
inductive It (B:Bs) (g h:Heap):Bool->Option (Addr × List V)->Addr->List V->Prop
 | list {it l:Addr} {i:Nat} {items:Array Value} {all:List V}:h.IsListIter it l i->g.IsList l items->VRs g items.toList all->g.get? it=none->B.k.get? it=none->It B g h false none it (all.drop i)
 | As7 {it l:Addr} {i:Nat} {all:List V}:h.IsListIter it l i->g.get? it=none->B.k.get? it=none->It B g h false (some (l,all)) it (all.drop i)
 | tup {it l:Addr} {i:Nat} {items:Array Value} {all:List V}:h.IsTupleIter it l i->g.IsTuple l items->VRs g items.toList all->g.get? it=none->B.k.get? it=none->It B g h false none it (all.drop i)
 | rng {it:Addr} {a:Int} {n:Nat}:IsRangeIter h it a n 1->g.get? it=none->B.k.get? it=none->It B g h false none it (Ai0 a n)
 | enum {e it l:Addr} {i:Nat} {items:Array Value} {all:List V} {old:Value}:IsEnum h e it i old->h.IsListIter it l i->g.IsList l items->VRs g items.toList all->e≠it->g.get? it=none->B.k.get? it=none->g.get? e=none->B.k.get? e=none ->
  It B g h true none e (Ahj i (all.drop i))
 | Asa {e it l:Addr} {i:Nat} {items:Array Value} {all:List V} {old:Value}:IsEnum h e it i old->h.IsTupleIter it l i->g.IsTuple l items->VRs g items.toList all->e≠it->g.get? it=none->B.k.get? it=none->g.get? e=none->B.k.get? e=none ->
  It B g h true none e (Ahj i (all.drop i))
theorem IsList.stays {g h:Heap} {l:Addr} {items:Array Value} (x:g.IsList l items) (k:g.StaysIn h):h.IsList l items:=by obtain ⟨o,a,r⟩:=x; exact ⟨o,k _ _ a,r⟩
theorem IsTuple.stays {g h:Heap} {l:Addr} {items:Array Value} (x:g.IsTuple l items) (k:g.StaysIn h):h.IsTuple l items:=by obtain ⟨o,a,r⟩:=x; exact ⟨o,k _ _ a,r⟩
theorem It.after {B B':Bs} {g g' h h':Heap} {en:Bool} {src:Option (Addr × List V)} {it:Addr} {ds:List V} (x:It B g h en src it ds) (hg:g.StaysIn g')
  (kk:∀ b o,h.get? b=some o->g.get? b=none->(∃ vs,o.data=.fields vs)->B'.k.get? b=some o) (hK:Keeps B'.k h') (hn:∀ b,g'.get? b≠none->g.get? b=none->B'.k.get? b=none):It B g' h' en src it ds:=by
 have mv:∀ b o,h.get? b=some o->g.get? b=none->(∃ vs,o.data=.fields vs)->h'.get? b=some o/\g'.get? b=none:=fun b o e eg hf=>by
  have q:=kk b o e eg hf
  refine ⟨?_,?_⟩
  · rcases hK b o q with w | ⟨f,_⟩
    · exact w
    · obtain ⟨vs,hv⟩:=hf; obtain ⟨_,es,n,hd⟩:=f; rw [hv] at hd; cases hd
  · cases w:g'.get? b with
    | none=>rfl
    | some o'=>have:=hn b (by rw [w]; simp) eg; rw [q] at this; cases this
 induction x using It.casesOn with
 | list a b c d e=>
  obtain ⟨o,h1,h2,h3⟩:=a
  obtain ⟨q1,q2⟩:=mv _ o h1 d ⟨_,h3⟩
  exact .list ⟨o,q1,h2,h3⟩ (IsList.stays b hg) (c.mono hg) q2 e
 | As7 a d e=>
  obtain ⟨o,h1,h2,h3⟩:=a
  obtain ⟨q1,q2⟩:=mv _ o h1 d ⟨_,h3⟩
  exact .As7 ⟨o,q1,h2,h3⟩ q2 e
 | tup a b c d e=>
  obtain ⟨o,h1,h2,h3⟩:=a
  obtain ⟨q1,q2⟩:=mv _ o h1 d ⟨_,h3⟩
  exact .tup ⟨o,q1,h2,h3⟩ (IsTuple.stays b hg) (c.mono hg) q2 e
 | rng a d e=>
  obtain ⟨q1,q2⟩:=mv _ _ a d ⟨_,rfl⟩
  exact .rng q1 q2 e
 | enum a b c d e f1 f2 f3 f4=>
  obtain ⟨q1,q2⟩:=mv _ _ a f3 ⟨_,rfl⟩
  obtain ⟨o,h1,h2,h3⟩:=b
  obtain ⟨q3,q4⟩:=mv _ o h1 f1 ⟨_,h3⟩
  exact .enum q1 ⟨o,q3,h2,h3⟩ (IsList.stays c hg) (d.mono hg) e q4 f2 q2 f4
 | Asa a b c d e f1 f2 f3 f4=>
  obtain ⟨q1,q2⟩:=mv _ _ a f3 ⟨_,rfl⟩
  obtain ⟨o,h1,h2,h3⟩:=b
  obtain ⟨q3,q4⟩:=mv _ o h1 f1 ⟨_,h3⟩
  exact .Asa q1 ⟨o,q3,h2,h3⟩ (IsTuple.stays c hg) (d.mono hg) e q4 f2 q2 f4
theorem It.through {B':Bs} {g' g4:Heap} {σ4:Sto} {m4:A8} {s4:Shared} {en:Bool} {src:Option (Addr × List V)} {it:Addr} {r:List V} (R':Rep P B g' A st env σ m s) (hB1:B'.gk=g') (hB2:∀ b o,s.heap.get? b=some o->σ b=none->¬ Azo env b->B'.k.get? b=some o)
  (hi':It B g' s.heap en src it r) (hg4:g'.StaysIn g4) (hr4:Rep P B' g4 A st env σ4 m4 s4):It B g4 s4.heap en src it r:=
 hi'.after (B':=B') hg4 (fun b o e eg hf=>hB2 b o e (by
  cases q:σ b with
  | none=>rfl
  | some x=>obtain ⟨_,_,o',w1,w2⟩:=R'.sto b x q; rw [e] at w1; cases w1; obtain ⟨vs,hv⟩:=hf; exact absurd hv (w2.Amq vs)) (by
  rintro (rfl | ⟨x,hx,hxc⟩)
  · obtain ⟨ml,⟨o',es,ep,w1,w2,_⟩,_⟩:=R'.fr.ns
    rw [e] at w1; cases w1; obtain ⟨vs,hv⟩:=hf; rw [hv] at w2; cases w2
  · obtain ⟨c,cv,w1,⟨o',w2,w3⟩,_⟩:=R'.fr.cel x hx
    rw [hxc] at w1; cases w1; rw [e] at w2; cases w2; obtain ⟨vs,hv⟩:=hf; rw [hv] at w3; cases w3)) hr4.keeps (fun b w1 w2=>hr4.new b w1 (hB1 ▸ w2))
theorem drop_cons {α:Type} {all:List α} {i:Nat} {d:α} {r:List α} (h:all.drop i=d :: r):all[i]?=some d/\all.drop (i + 1)=r:=by
 have h1:all[i]?=some d:=by
  have:=congrArg (fun l=>l[0]?) h
  simpa using this
 refine ⟨h1,?_⟩
 have:=congrArg (fun l=>l.drop 1) h
 simpa [Cc5,Bm0] using this
theorem drop_nil {α:Type} {all:List α} {i:Nat} (h:all.drop i=[]):all[i]?=none:=by
 have:=congrArg (fun l=>l[0]?) h
 simpa using this
theorem VRs.none_of {g:Heap} {vs:List Value} {ds:List V} (h:VRs g vs ds) {k:Nat} (e:ds[k]?=none):vs[k]?=none:=by
 rw [List.getElem?_eq_none_iff] at e ⊢; rw [h.length]; exact e
theorem Aaw {a h h'} (k:∀ b o,b≠a->h.get? b=some o->h'.get? b=some o):Ahi (·=a) g h h':=fun b o e n=>.inl (k b o n e)
inductive NxP (P:Pm) (B:Bs) (g:Heap) (A:Around) (st:List Env) (env:Env) (σ:Sto) (m:A8) (en:Bool) (src:Option (Addr × List V)) (it:Addr) (ds:List V) (v:Value) (s':Shared):Prop
 | mk (d:V) (r:List V) (g':Heap) (e:ds=d :: r) (hg:g.StaysIn g') (hr:Rep P B g' A st env σ m s') (hv:VR g' v d) (hi:It B g' s'.heap en src it r)
theorem It.next {en:Bool} {src:Option (Addr × List V)} {it:Addr} {ds:List V} {target:Expr} {K:Option Value->Shared->Prop} {E:Value->Shared->Prop} (R:Rep P B g A st env σ m s) (hh:A.handled=none)
  (x:It B g s.heap en src it ds) (Auy:∀ l all,src=some (l,all)->σ l=some (.list all))
  (hgo:(∃ elts k pos,target=.Tuple elts k pos)∨((∀ v,Bl5 target (.ref it) v=pure ())/\en=false))
  (Anz:ds=[]->∀ h',Rep P B g A st env σ m { s with heap:=h' }->K none { s with heap:=h' })
  (Afr:∀ d r,ds=d :: r->∀ v g' h' tk,g.StaysIn g'->Rep P B g' A st env σ m { s with heap:=h',toks:=tk }->VR g' v d->It B g' h' en src it r->K (some v) { s with heap:=h',toks:=tk }) :
  wpAny (model P.prog P.w) A (pyNext (.ref it)) (fun r s₁=>match r with
   | none=>K none s₁
   | some v=>wpAny (model P.prog P.w) A (Bl5 target (.ref it) v) (fun _ s₂=>K (some v) s₂) E s₁) E s:=by
 have zok:∀ b:Addr,b=it->g.get? it=none->B.k.get? it=none->(∃ o,s.heap.get? it=some o/\∃ vs,o.data=.fields vs)->Fld g B.k s.heap b:=by
  rintro b rfl h1 h2 ⟨o,h3,vs,h4⟩; exact ⟨h1,h2,o,h3,vs,h4⟩
 have letgo:∀ (h':Heap) (tk:Nat) (v:Value) (o:Obj) (n:String) (vs:Array Value),h'.get? it=some o->o.cls=.type n->o.data=.fields vs->["enumerate","zip","dict_itemiterator","dict_reverseitemiterator","odict_iterator","itertools.zip_longest","itertools.pairwise"].contains n=false->K (some v) { s with heap:=h',toks:=tk } ->
   wpAny (model P.prog P.w) A (Bl5 target (.ref it) v) (fun _ s₂=>K (some v) s₂) E { s with heap:=h',toks:=tk }:=by
  intro h' tk v o n vs ho hc hd hz hK
  cases hgo with
  | inl hgo=>
   obtain ⟨elts,k,pos,rfl⟩:=hgo
   cases v with
   | ref a=>
     refine Be9 (wpAny_load ho ?_)
     rw [hc,hd]
     dsimp only
     rw [hz,Co6,if_neg Bg6]
     exact Bf6 hK
   | _=>exact Bf6 hK
  | inr hgo=>rw [hgo.1]; exact Bf6 hK
 induction x using It.casesOn with
 | @list it l i items all a b c d e=>
  obtain ⟨o,ho,hoc,hod⟩:=id a
  cases hds:all.drop i with
  | nil=>
   refine wpAny_pyNext_list_end hh a (IsList.stays b R.fz) (by rw [<- Bj0]; exact c.none_of (drop_nil hds)) fun h' hk=>Anz hds h' ?_
   exact R.B5 (fun b hb=>zok b hb d e ⟨o,ho,_,hod⟩) (Aaw hk) s.toks
  | cons d0 r=>
   obtain ⟨q1,q2⟩:=drop_cons hds
   obtain ⟨v,hv,rv⟩:=c.get q1
   refine wpAny_pyNext_list_item a (IsList.stays b R.fz) (by rw [<- Bj0]; exact hv) fun h' hit hs=>?_
   obtain ⟨o',ho',hoc',hod'⟩:=id hit
   refine letgo h' s.toks v o' _ _ ho' hoc' hod' (by decide) (Afr d0 r hds v g h' s.toks (A2 g) (R.B5 (fun b hb=>zok b hb d e ⟨o,ho,_,hod⟩) (Aaw hs.extBut) s.toks) rv ?_)
   rw [<- q2]; exact .list hit b c d e
 | @As7 it l i all a d e=>
  obtain ⟨o,ho,hoc,hod⟩:=id a
  obtain ⟨_,_,ol,hol,hcl,items,nl,hdl,c,_⟩:=R.sto l _ (Auy l all rfl)
  have b:s.heap.IsList l items:=⟨ol,hol,hcl,nl,hdl⟩
  cases hds:all.drop i with
  | nil=>
   refine wpAny_pyNext_list_end hh a b (by rw [<- Bj0]; exact c.none_of (drop_nil hds)) fun h' hk=>Anz hds h' ?_
   exact R.B5 (fun b hb=>zok b hb d e ⟨o,ho,_,hod⟩) (Aaw hk) s.toks
  | cons d0 r=>
   obtain ⟨q1,q2⟩:=drop_cons hds
   obtain ⟨v,hv,rv⟩:=c.get q1
   refine wpAny_pyNext_list_item a b (by rw [<- Bj0]; exact hv) fun h' hit hs=>?_
   obtain ⟨o',ho',hoc',hod'⟩:=id hit
   refine letgo h' s.toks v o' _ _ ho' hoc' hod' (by decide) (Afr d0 r hds v g h' s.toks (A2 g) (R.B5 (fun b hb=>zok b hb d e ⟨o,ho,_,hod⟩) (Aaw hs.extBut) s.toks) rv ?_)
   rw [<- q2]; exact .As7 hit d e
 | @tup it l i items all a b c d e=>
  obtain ⟨o,ho,hoc,hod⟩:=id a
  cases hds:all.drop i with
  | nil=>
   refine wpAny_pyNext_tuple_end hh a (IsTuple.stays b R.fz) (by rw [<- Bj0]; exact c.none_of (drop_nil hds)) fun h' hk=>Anz hds h' ?_
   exact R.B5 (fun b hb=>zok b hb d e ⟨o,ho,_,hod⟩) (Aaw hk) s.toks
  | cons d0 r=>
   obtain ⟨q1,q2⟩:=drop_cons hds
   obtain ⟨v,hv,rv⟩:=c.get q1
   refine wpAny_pyNext_tuple_item a (IsTuple.stays b R.fz) (by rw [<- Bj0]; exact hv) fun h' hit hs=>?_
   obtain ⟨o',ho',hoc',hod'⟩:=id hit
   refine letgo h' s.toks v o' _ _ ho' hoc' hod' (by decide) (Afr d0 r hds v g h' s.toks (A2 g) (R.B5 (fun b hb=>zok b hb d e ⟨o,ho,_,hod⟩) (Aaw hs.extBut) s.toks) rv ?_)
   rw [<- q2]; exact .tup hit b c d e
 | @rng it a0 n a d e=>
  cases n with
  | zero=>
   refine wpAny_pyNext_range_end hh a (by simp) fun h' hk=>Anz rfl h' ?_
   exact R.B5 (fun b hb=>zok b hb d e ⟨_,a,_,rfl⟩) (Aaw hk) s.toks
  | succ n=>
   refine wpAny_pyNext_range_item a (Bn2.mpr (Bq1 _)) fun h' hit hs=>?_
   refine letgo h' (s.toks + 1) _ _ _ _ hit rfl rfl (by decide) (Afr _ _ rfl _ g h' (s.toks + 1) (A2 g) (R.B5 (fun b hb=>zok b hb d e ⟨_,a,_,rfl⟩) (Aaw hs.extBut) (s.toks + 1)) (.int _ _) ?_)
   refine .rng ?_ d e
   have e1:((n + 1:Nat):Int) - 1=(n:Int):=Ck1 (n:Int) 1
   rw [e1] at hit
   exact hit
 | @enum it it2 l i items all old a b c d hne f1 f2 f3 f4=>
  have hZ:∀ z,z=it∨z=it2->Fld g B.k s.heap z:=by
   rintro z (rfl | rfl)
   · exact ⟨f3,f4,_,a,_,rfl⟩
   · obtain ⟨o,q1,q2,q3⟩:=b
     exact ⟨f1,f2,o,q1,_,q3⟩
  cases hds:all.drop i with
  | nil=>
   rw [hds] at Anz
   refine wpAny_pyNext_enum_end hh a b (IsList.stays c R.fz) (by rw [<- Bj0]; exact d.none_of (drop_nil hds)) fun h' hk=>Anz rfl h' ?_
   exact R.B5 hZ (fun z o q n=>.inl (hk z o (fun w=>n (.inr w)) q)) s.toks
  | cons d0 r=>
   rw [hds] at Afr
   obtain ⟨q1,q2⟩:=drop_cons hds
   obtain ⟨v,hv,rv⟩:=d.get q1
   refine wpAny_pyNext_enum_item a b (IsList.stays c R.fz) (by rw [<- Bj0]; exact hv) hne fun h' heo hit htu hsz hk=>?_
   have R1:=R.B5 hZ (fun z o q n=>.inl (hk z o (fun w=>n (.inl w)) (fun w=>n (.inr w)) q)) (s.toks + 1)
   have ne1:s.heap.objs.size≠it:=Bq2 (Bl3 a)
   have ne2:s.heap.objs.size≠it2:=by obtain ⟨o,q,_⟩:=b; exact Bq2 (Bl3 q)
   obtain ⟨ml,⟨oL,es,ep,hL,_⟩,_⟩:=R.fr.ns
   have R2:=R1.grow (s:={ s with heap:=h',toks:=s.toks + 1 }) htu (Aa0 R.keeps (Ak _)) (R.Aat (Ak _)) (fun f=>by have q:Value.type "tuple"=Value.type "frame":=f.1; exact absurd q (by decide)) (Bq2 (Bl3 hL)) (fun y c hy hc=>by
     obtain ⟨c',cv,w1,w2,_⟩:=R.fr.cel y hy
     rw [hc] at w1; cases w1
     exact Bl9 w2.lt)
   have gs:g.StaysIn (Adl g h' s.heap.objs.size):=Aa4 R1.fz
   have rv':VR (Adl g h' s.heap.objs.size) (.ref s.heap.objs.size) (.tup [.int i,d0]):=.tup (Abq.trans htu) rfl rfl (.cons (.int _ _) (.one (rv.mono gs)))
   have goFin:∀ h'' old',IsEnum h'' it it2 ((i:Int) + 1) old'->Bq8 it h' h''->K (some (.ref s.heap.objs.size)) { s with heap:=h'',toks:=s.toks + 1 }:=by
     intro h'' old' he'' hs''
     have R3:=R2.B5 (h':=h'') (Z:=(·=it)) (fun z hz=>by subst hz; exact ⟨Aa8 (Bq3 ne1) f3,f4,_,heo,_,rfl⟩) (Aaw hs''.extBut) (s.toks + 1)
     refine Afr _ _ rfl _ _ h'' (s.toks + 1) gs R3 rv' ?_
     rw [<- q2]
     have e1:((i + 1:Nat):Int)=(i:Int) + 1:=by push_cast; rfl
     obtain ⟨o,w1,w2,w3⟩:=hit
     exact .enum (by rw [e1]; exact he'') ⟨o,(hs''.2 it2 (Bq3 hne)).trans w1,w2,w3⟩ (IsList.stays c gs) (d.mono gs) hne (Aa8 (Bq3 ne2) f1) f2 (Aa8 (Bq3 ne1) f3) f4
   rcases hgo with ⟨elts,k,pos,rfl⟩ | ⟨_,hno⟩
   · exact wpAny_letOwnedTupleGo_enum (s:={ s with heap:=h',toks:=s.toks + 1 }) heo fun h'' he'' hs''=>goFin h'' v he'' hs''
   · cases hno
 | @Asa it it2 l i items all old a b c d hne f1 f2 f3 f4=>
  have hZ:∀ z,z=it∨z=it2->Fld g B.k s.heap z:=by
   rintro z (rfl | rfl)
   · exact ⟨f3,f4,_,a,_,rfl⟩
   · obtain ⟨o,q1,q2,q3⟩:=b
     exact ⟨f1,f2,o,q1,_,q3⟩
  have hll:l≠it2:=by
   rintro rfl
   obtain ⟨o,q,_⟩:=c
   rw [f1] at q; cases q
  have hel:it≠l:=by
   rintro rfl
   obtain ⟨o,q,_⟩:=c
   rw [f3] at q; cases q
  have hil:∀ {v},items.toList[i]?=some v->i < items.size:=fun {v} q=>by
   rw [Bf8] at q
   obtain ⟨q,_⟩:=q
   simpa using q
  cases hds:all.drop i with
  | nil=>
   rw [hds] at Anz
   refine Apo hh a b (IsTuple.stays c R.fz) (by rw [<- Bj0]; exact d.none_of (drop_nil hds)) fun h' hk=>Anz rfl h' ?_
   exact R.B5 hZ (fun z o q n=>.inl (hk z o (fun w=>n (.inr w)) q)) s.toks
  | cons d0 r=>
   rw [hds] at Afr
   obtain ⟨q1,q2⟩:=drop_cons hds
   obtain ⟨v,hv,rv⟩:=d.get q1
   refine wpAny_pyNext_enum_itemD (Ayg (A:=A.in1) hh it2 l hll items) a ⟨b,IsTuple.stays c R.fz⟩ (hil hv) hne (by simp [hne,hel]) fun x h' tk hx heo hst htu hsz hk=>?_
   have hit:=hst.1
   have ex:x=v:=by rw [<- Bj0,hv] at hx; exact (Br1 hx).symm
   subst ex
   have R1:=R.B5 hZ (fun z o q n=>.inl (hk z o (fun w=>n (.inl w)) (fun w=>n (.inr w)) q)) (tk + 1)
   have ne1:s.heap.objs.size≠it:=Bq2 (Bl3 a)
   have ne2:s.heap.objs.size≠it2:=by obtain ⟨o,q,_⟩:=b; exact Bq2 (Bl3 q)
   obtain ⟨ml,⟨oL,es,ep,hL,_⟩,_⟩:=R.fr.ns
   have R2:=R1.grow (s:={ s with heap:=h',toks:=tk + 1 }) htu (Aa0 R.keeps (Ak _)) (R.Aat (Ak _)) (fun f=>by have q:Value.type "tuple"=Value.type "frame":=f.1; exact absurd q (by decide)) (Bq2 (Bl3 hL)) (fun y c hy hc=>by
     obtain ⟨c',cv,w1,w2,_⟩:=R.fr.cel y hy
     rw [hc] at w1; cases w1
     exact Bl9 w2.lt)
   have gs:g.StaysIn (Adl g h' s.heap.objs.size):=Aa4 R1.fz
   have rv':VR (Adl g h' s.heap.objs.size) (.ref s.heap.objs.size) (.tup [.int i,d0]):=.tup (Abq.trans htu) rfl rfl (.cons (.int _ _) (.one (rv.mono gs)))
   have goFin:∀ h'' old',IsEnum h'' it it2 ((i:Int) + 1) old'->Bq8 it h' h''->K (some (.ref s.heap.objs.size)) { s with heap:=h'',toks:=tk + 1 }:=by
     intro h'' old' he'' hs''
     have R3:=R2.B5 (h':=h'') (Z:=(·=it)) (fun z hz=>by subst hz; exact ⟨Aa8 (Bq3 ne1) f3,f4,_,heo,_,rfl⟩) (Aaw hs''.extBut) (tk + 1)
     refine Afr _ _ rfl _ _ h'' (tk + 1) gs R3 rv' ?_
     rw [<- q2]
     have e1:((i + 1:Nat):Int)=(i:Int) + 1:=by push_cast; rfl
     obtain ⟨o,w1,w2,w3⟩:=hit
     exact .Asa (by rw [e1]; exact he'') ⟨o,(hs''.2 it2 (Bq3 hne)).trans w1,w2,w3⟩ (IsTuple.stays c gs) (d.mono gs) hne (Aa8 (Bq3 ne2) f1) f2 (Aa8 (Bq3 ne1) f3) f4
   rcases hgo with ⟨elts,k,pos,rfl⟩ | ⟨_,hno⟩
   · exact wpAny_letOwnedTupleGo_enum (s:={ s with heap:=h',toks:=tk + 1 }) heo fun h'' he'' hs''=>goFin h'' x he'' hs''
   · cases hno
end
section
variable {P:Pm} {n:Nat} {fx:Fx} {σ:Sto} {m:A8} {X:Xt}
theorem Ax0 {Q} (h:Q .next σ m):Exs P n fx [] σ m Q X:=
 fun A st B g env s he hr hm=>Cp7 ⟨g,σ,m,.next,A2 g,hr,.next,h⟩
theorem Aj7 {t rest Q} (h:Ex P n fx t σ m (fun f σ' m'=>match f with | .next=>Exs P n fx rest σ' m' Q X | f=>Q f σ' m') X):Exs P n fx (t :: rest) σ m Q X:=
 fun A st B g env s he hr hm=>Cb6 (Bf3 (h A st B g env s he hr hm) (fun f s' qA=>by
  obtain ⟨g',σ',m',b,hg,hr',hf,hq⟩:=qA
  induction hf using Am5.casesOn with
  | next=>exact Bf3 (hq A st B g' env s' he hr' hm) (fun _ _ q=>q.mono hg fun _ _ _ x=>x) fun _ _ q=>q.mono hg fun _ _ _ x=>x
  | brk=>exact ⟨g',σ',m',_,hg,hr',.brk,hq⟩
  | cont=>exact ⟨g',σ',m',_,hg,hr',.cont,hq⟩
  | ret r=>exact ⟨g',σ',m',_,hg,hr',.ret r,hq⟩) fun _ _ q=>q)
theorem Ap2 {x p' pos e Q} (hk:fx.sc.names.lookup x=some .local∨fx.sc.names.lookup x=some .cell) (h:Ev P n fx e σ m (fun v σ'=>Q .next σ' (m.put x v)) X)
  (hs:∀ env,Cc9 e (some (.Name x p')) pos.line env=pure false):Ex P n fx (.Assign [.Name x p'] e pos) σ m Q X:=
 fun A st B g env s he hr hm=>wpAny_Assign_Name (Bf3 (h A st B g env s he hr hm) (fun v s' qB=>by
  obtain ⟨g',σ',m',b,hg,hr',hv,hm',hq⟩:=qB
  subst hm'
  exact Aui he hr' hk hv fun h' tk R' _ _=>⟨g',σ',_,.next,hg,R',.next,hq⟩) fun _ _ q=>q) (hs env)
theorem Bb2 {test body orelse pos Q} (h:Tt P n fx test σ m (fun b σ'=>if b then Exs P n fx body σ' m Q X else Exs P n fx orelse σ' m Q X) X):Ex P n fx (.If test body orelse pos) σ m Q X:=
 fun A st B g env s he hr hm=>wpAny_If (Bf3 (h A st B g env s he hr hm) (fun b s' qC=>by
  obtain ⟨g',σ',m',b',hg,hr',hv,hm',hq⟩:=qC
  obtain rfl:b=b':=hv
  subst hm'
  cases b with
  | true=>exact Bf3 (hq A st B g' env s' he hr' hm) (fun _ _ q=>q.mono hg fun _ _ _ x=>x) fun _ _ q=>q.mono hg fun _ _ _ x=>x
  | false=>exact Bf3 (hq A st B g' env s' he hr' hm) (fun _ _ q=>q.mono hg fun _ _ _ x=>x) fun _ _ q=>q.mono hg fun _ _ _ x=>x) fun _ _ q=>q)
theorem Ap8 {e pos Q} (h:Ev P n fx e σ m (fun v σ'=>Q (.ret v) σ' m) X):Ex P n fx (.Return (some e) pos) σ m Q X:=
 fun A st B g env s he hr hm=>wpAny_Return_some (Bf3 (h A st B g env s he hr hm) (fun v s' qD=>by
  obtain ⟨g',σ',m',b,hg,hr',hv,hm',hq⟩:=qD
  subst hm'; exact ⟨g',σ',_,.ret b,hg,hr',.ret hv,hq⟩) fun _ _ q=>q)
theorem Apu {e pos Q} (h:Ev P n fx e σ m (fun v σ'=>v=.none/\Q .next σ' m) X)
  (hs:∀ env,Cc9 e none pos.line env=pure false:=by intro _; rfl):Ex P n fx (.Expr e pos) σ m Q X:=
 fun A st B g env s he hr hm=>wpAny_Expr (Bf3 (h A st B g env s he hr hm) (fun v s' qE=>by
  obtain ⟨g',σ',m',b,hg,hr',hv,hm',hb,hq⟩:=qE
  subst hm'; subst hb; obtain ⟨_,rfl⟩:=hv.inv; exact ⟨g',σ',_,.next,hg,hr',.next,hq⟩) fun _ _ q=>q)
  (by unfold interactive; rw [he.sc,he.kind]; rfl) (hs env)
theorem Alr {pos Q} (h:Q .cont σ m):Ex P n fx (.Continue pos) σ m Q X:=
 fun A st B g env s he hr hm=>wpAny_Continue ⟨g,σ,m,.cont,A2 g,hr,.cont,h⟩
theorem Azi {x pos Q} (h:Tt P n fx x σ m (fun b σ'=>Q (!b) σ') X):Tt P n fx (.UnaryOp .Not x pos) σ m Q X:=
 fun A st B g env s he hr hm=>wpAny_isTrue_Not (Bf3 (h A st B g env s he hr hm) (fun b s' qF=>by
  obtain ⟨g',σ',m',b',hg,hr',hv,hm',hq⟩:=qF
  obtain rfl:b=b':=hv
  exact ⟨g',σ',m',_,hg,hr',rfl,hm',hq⟩) fun _ _ q=>q)
noncomputable def At (P:Pm) (n:Nat) (fx:Fx) (op:BoolOp) (es:List Expr) (σ:Sto) (m:A8) (Q:Bool->Sto->Prop) (X:Xt):Prop:=
 JS EqR P n fx (fun env=>allTrue op es env) σ m (fun v σ' m'=>m'=m/\Q v σ') X
theorem Aq9 {op es pos Q} (h:At P n fx op es σ m Q X):Tt P n fx (.BoolOp op es pos) σ m Q X:=
 fun A st B g env s he hr hm=>wpAny_isTrue_BoolOp (h A st B g env s he hr hm)
theorem Aoa {Q} (h:Q true σ):At P n fx .And [] σ m Q X:=
 fun A st B g env s he hr hm=>wpAny_allTrue_And_nil ⟨g,σ,m,true,A2 g,hr,rfl,rfl,h⟩
theorem Arw {Q} (h:Q false σ):At P n fx .Or [] σ m Q X:=
 fun A st B g env s he hr hm=>wpAny_allTrue_Or_nil ⟨g,σ,m,false,A2 g,hr,rfl,rfl,h⟩
theorem Ay8 {e es Q} (h:Tt P n fx e σ m (fun b σ'=>if b then At P n fx .And es σ' m Q X else Q false σ') X):At P n fx .And (e :: es) σ m Q X:=
 fun A st B g env s he hr hm=>wpAny_allTrue_And_cons (Bf3 (h A st B g env s he hr hm) (fun b s' qG=>by
  obtain ⟨g',σ',m',b',hg,hr',hv,hm',hq⟩:=qG
  obtain rfl:b=b':=hv
  subst hm'
  cases b with
  | true=>exact Bf3 (hq A st B g' env s' he hr' hm) (fun _ _ q=>q.mono hg fun _ _ _ x=>x) fun _ _ q=>q.mono hg fun _ _ _ x=>x
  | false=>exact ⟨g',σ',_,false,hg,hr',rfl,rfl,hq⟩) fun _ _ q=>q)
theorem Baz {e es Q} (h:Tt P n fx e σ m (fun b σ'=>if b then Q true σ' else At P n fx .Or es σ' m Q X) X):At P n fx .Or (e :: es) σ m Q X:=
 fun A st B g env s he hr hm=>wpAny_allTrue_Or_cons (Bf3 (h A st B g env s he hr hm) (fun b s' qH=>by
  obtain ⟨g',σ',m',b',hg,hr',hv,hm',hq⟩:=qH
  obtain rfl:b=b':=hv
  subst hm'
  cases b with
  | true=>exact ⟨g',σ',_,true,hg,hr',rfl,rfl,hq⟩
  | false=>exact Bf3 (hq A st B g' env s' he hr' hm) (fun _ _ q=>q.mono hg fun _ _ _ x=>x) fun _ _ q=>q.mono hg fun _ _ _ x=>x) fun _ _ q=>q)
theorem Atf {test body orelse pos Q} (h:Tt P n fx test σ m (fun b σ'=>if b then Ev P n fx body σ' m Q X else Ev P n fx orelse σ' m Q X) X):Ev P n fx (.IfExp test body orelse pos) σ m Q X:=
 fun A st B g env s he hr hm=>wpAny_IfExp (Bf3 (h A st B g env s he hr hm) (fun b s' qI=>by
  obtain ⟨g',σ',m',b',hg,hr',hv,hm',hq⟩:=qI
  obtain rfl:b=b':=hv
  subst hm'
  cases b with
  | true=>exact Bf3 (hq A st B g' env s' he hr' hm) (fun _ _ q=>q.mono hg fun _ _ _ x=>x) fun _ _ q=>q.mono hg fun _ _ _ x=>x
  | false=>exact Bf3 (hq A st B g' env s' he hr' hm) (fun _ _ q=>q.mono hg fun _ _ _ x=>x) fun _ _ q=>q.mono hg fun _ _ _ x=>x) fun _ _ q=>q)
noncomputable def Wl (P:Pm) (n:Nat) (fx:Fx) (test:Expr) (body:List Stmt) (σ:Sto) (m:A8) (Q:Flw->Sto->A8->Prop) (X:Xt):Prop:=
 ∀ A st B g env s,Ad5 fx env st->Rep P B g A st env σ m s->Bg A n ->
  Cb8 (model P.prog P.w) A (.whileLoop test body [] env) (fun r s'=>match r with | .ok f=>NP Am5 P B A st env g Q f s' | .error e=>Cf8 (model P.prog P.w) A env (XP P B A st env g X) e s') s
theorem Asz {test body pos Q} (h:Wl P n fx test body σ m Q X):Ex P n fx (.While test body [] pos) σ m Q X:=
 fun A st B g env s he hr hm=>wpAny_While (h A st B g env s he hr hm)
theorem Ave {test body Q} (hc:fx.comp=false)
  (h:Tt P n fx test σ m (fun b σ'=>if b then Exs P n fx body σ' m (fun f σ'' m''=>match f with | .next | .cont=>Wl P n fx test body σ'' m'' Q X | .brk=>Q .next σ'' m'' | .ret v=>Q (.ret v) σ'' m'') X else Q .next σ' m) X) :
  Wl P n fx test body σ m Q X:=fun A st B g env s he hr hm=>by
 refine Cd0 ?_
 show wpAny _ A ((whileTurn test body [] env).onRaise (fun x=>do Cm5 x env; Cp8 x)) _ _ s
 refine wpAny_noted ?_
 simp only [whileTurn]
 refine Be9 (Bf3 (h A st B g env s he hr hm) (fun b s₂ qM=>?_) fun e s' hx=>hx.passes he hc)
 obtain ⟨g',σ',m',b',hg,hr',hv,hm',hq⟩:=qM
 obtain rfl:b=b':=hv
 subst hm'
 cases b with
 | false=>
  simp only [Bp7,if_false] at hq ⊢
  exact Be9 (Bf6 (Bf6 ⟨g',σ',_,.next,hg,hr',.next,hq⟩))
 | true=>
  simp only [if_true] at hq ⊢
  refine Be9 (Bf3 (hq A st B g' env s₂ he hr' hm) (fun f s₃ qM=>?_) fun e s' hx=>(hx.mono hg fun _ _ _ x=>x).passes he hc)
  obtain ⟨g2,σ2,m2,b2,hg2,hr2,hf,hq2⟩:=qM
  have fin:Wl P n fx test body σ2 m2 Q X->(Code.whileLoop test body [] env).quiet=true/\Cb8 (model P.prog P.w) A (.whileLoop test body [] env) (fun r s'=>match r with | .ok f=>NP Am5 P B A st env g Q f s' | .error e=>Cf8 (model P.prog P.w) A env (XP P B A st env g X) e s') s₃:=fun w=>
   ⟨rfl,Bp5 (w A st B g2 env s₃ he hr2 hm) fun r s' hh=>by
    have gg:g.StaysIn g2:=A3 hg hg2
    cases r with
    | ok f=>exact hh.mono gg fun _ _ _ x=>x
    | error e=>exact Bf3 hh (fun _ _ q=>q.mono gg fun _ _ _ x=>x) fun _ _ q=>q.mono gg fun _ _ _ x=>x⟩
  induction hf using Am5.casesOn with
  | next=>exact Bf6 (fin hq2)
  | cont=>exact Bf6 (fin hq2)
  | brk=>exact Bf6 ⟨g2,σ2,m2,.next,A3 hg hg2,hr2,.next,hq2⟩
  | ret r=>exact Bf6 ⟨g2,σ2,m2,_,A3 hg hg2,hr2,.ret r,hq2⟩
end
inductive BdP (P:Pm) (B:Bs) (A:Around) (st:List Env) (env:Env) (g:Heap) (Q:Sto->A8->Prop) (s':Shared):Prop
 | mk (g':Heap) (σ':Sto) (m':A8) (hg:g.StaysIn g') (hr:Rep P B g' A st env σ' m' s') (hq:Q σ' m')
theorem BdP.mono {P B A st env g g' Q Q' s} (h:BdP P B A st env g' Q s) (k:g.StaysIn g') (hx:∀ σ m,Q σ m->Q' σ m):BdP P B A st env g Q' s:=by
 obtain ⟨g2,σ',m',h1,h2,h4⟩:=h
 exact ⟨g2,σ',m',A3 k h1,h2,hx _ _ h4⟩
noncomputable def Bd (P:Pm) (n:Nat) (fx:Fx) (t:Expr) (d:V) (σ:Sto) (m:A8) (Q:Sto->A8->Prop) (X:Xt):Prop:=
 ∀ A st B g env s v,Ad5 fx env st->Rep P B g A st env σ m s->Bg A n->VR g v d ->
  wpAny (model P.prog P.w) A (assign t env v) (fun _ s'=>BdP P B A st env g Q s') (XP P B A st env g X) s
noncomputable def Bds (P:Pm) (n:Nat) (fx:Fx) (ts:List Expr) (ds:List V) (σ:Sto) (m:A8) (Q:Sto->A8->Prop) (X:Xt):Prop:=
 ∀ A st B g env s vs,Ad5 fx env st->Rep P B g A st env σ m s->Bg A n->VRs g vs ds ->
  wpAny (model P.prog P.w) A (assignInOrder ((Ca4 ts env).map (·.2)) vs) (fun _ s'=>BdP P B A st env g Q s') (XP P B A st env g X) s
section
variable {P:Pm} {n:Nat} {fx:Fx} {σ:Sto} {m:A8} {X:Xt}
theorem Awt {x pos d Q} (hk:fx.sc.names.lookup x=some .local∨fx.sc.names.lookup x=some .cell) (h:Q σ (m.put x d)):Bd P n fx (.Name x pos) d σ m Q X:=
 fun A st B g env s v he hr hm hv=>wpAny_assign_Name (Aui he hr hk hv fun h' tk R' _ _=>⟨g,σ,_,A2 g,R',h⟩)
theorem Awa {Q} (h:Q σ m):Bds P n fx [] [] σ m Q X:=
 fun A st B g env s v he hr hm hv=>by cases hv; exact Bf6 ⟨g,σ,m,A2 g,hr,h⟩
theorem Atb {t ts d ds Q} (h:Bd P n fx t d σ m (fun σ' m'=>Bds P n fx ts ds σ' m' Q X) X)
  (ha:∀ env,Ca4 (t :: ts) env=(false,assign t env) :: Ca4 ts env):Bds P n fx (t :: ts) (d :: ds) σ m Q X:=
 fun A st B g env s v he hr hm hv=>by
  replace hv:=hv.inv; obtain ⟨_,_,rfl,r,rs⟩:=hv
  ·
   rw [ha]
   refine Be9 (Bl1 (Bf3 (h A st B g env s _ he hr hm r) (fun _ s' qM=>?_) fun _ _ q=>q))
   obtain ⟨g',σ',m',hg,hr',hq⟩:=qM
   exact Bf3 (hq A st B g' env s' _ he hr' hm (rs.mono hg)) (fun _ _ q=>q.mono hg fun _ _ x=>x) fun _ _ q=>q.mono hg fun _ _ _ x=>x
theorem Atz {ts k pos ds Q} (h:Bds P n fx ts ds σ m Q X) (hl:ts.length=ds.length)
  (h1:∀ env,(Ca4 ts env).length=ts.length) (h2:∀ env,(Ca4 ts env).findIdx? (·.1)=none):Bd P n fx (.Tuple ts k pos) (.tup ds) σ m Q X:=
 fun A st B g env s v he hr hm hv=>by
  obtain ⟨a,items,rfl,ht,hi⟩:=hv.isTup
  refine wpAny_assign_Tuple hm.2.2 (IsTuple.stays ht hr.fz) (by rw [h1,hl,<- hi.length,Bg5]) (h2 env) fun h' hk=>?_
  have st':s.heap.StaysIn h':=fun b o e=>hk b o (Bl9 (Bl3 e)) e
  exact h A st B g env _ _ he (hr.stays st' s.toks) hm hi
theorem Axv {ts k tpos pos e Q} (h:Ev P n fx e σ m (fun v σ'=>Bd P n fx (.Tuple ts k tpos) v σ' m (fun σ'' m''=>Q .next σ'' m'') X) X)
  (hs:∀ env,env.scope=fx.sc->swapsWithSole [.Tuple ts k tpos] e pos.line env=pure false) (hw:∀ env,env.scope=fx.sc->Cm4 [.Tuple ts k tpos] e env=pure none):Ex P n fx (.Assign [.Tuple ts k tpos] e pos) σ m Q X:=
 fun A st B g env s he hr hm=>Assign_Tuple (Bf3 (h A st B g env s he hr hm) (fun v s' qB=>by
  obtain ⟨g',σ',m',b,hg,hr',hv,hm',hq⟩:=qB
  subst hm'
  exact Bf3 (hq A st B g' env s' v he hr' hm hv) (fun _ s2 qC=>by obtain ⟨g2,σ2,m2,hg2,hr2,hq2⟩:=qC; exact ⟨g2,σ2,m2,.next,A3 hg hg2,hr2,.next,hq2⟩) fun _ _ q=>q.mono hg fun _ _ _ x=>x) fun _ _ q=>q) (hs env he.sc) (hw env he.sc)
noncomputable def putAll:List (Str × V)->A8->A8
 | [],m=>m
 | (x,d) :: r,m=>putAll r (m.put x d)
theorem Aoj {σ:Sto} {A:Around} {st:List Env} {B:Bs} {g:Heap} {env:Env} {Q:Unit->Shared->Prop} {E:Value->Shared->Prop} (he:Ad5 fx env st) (xs:List Str):∀ (ds:List V) (m:A8) (s:Shared) (vs:List Value),Rep P B g A st env σ m s->VRs g vs ds->xs.length=ds.length ->
  (∀ x∈xs,fx.sc.names.lookup x=some .local)->(∀ s',Rep P B g A st env σ (putAll (xs.zip ds) m) s'->Q () s')->wpAny (model P.prog P.w) A (assignInOrder (xs.map fun n=>bindName env n) vs) Q E s:=by
 induction xs with
 | nil=>
  intro ds m s vs hr hv hl hk h
  cases ds with
  | nil=>rw [hv.Ak9]; exact Bf6 (h s hr)
  | cons _ _=>cases hl
 | cons x xs ih=>
  intro ds m s vs hr hv hl hk h
  cases ds with
  | nil=>cases hl
  | cons d ds=>
   obtain ⟨_,_,rfl,r,rs⟩:=hv.inv
   refine Be9 (Bl1 (wpAny_bindName (Aui he hr (.inl (hk x (.head _))) r fun h' tk R' _ _=>?_)))
   exact ih ds _ _ _ R' rs (Ca9 hl) (fun y hy=>hk y (.tail _ hy)) h
theorem Awk {ts k tpos pos e names Q} (h:Ev P n fx e σ m (fun v σ'=>∃ ds,v=.tup ds/\ds.length=names.length/\Q .next σ' (putAll (names.reverse.zip ds.reverse) m)) X)
  (hk:∀ x∈names,fx.sc.names.lookup x=some .local)
  (hs:∀ env,env.scope=fx.sc->swapsWithSole [.Tuple ts k tpos] e pos.line env=pure false) (hw:∀ env,env.scope=fx.sc->Cm4 [.Tuple ts k tpos] e env=pure (some names)):Ex P n fx (.Assign [.Tuple ts k tpos] e pos) σ m Q X:=
 fun A st B g env s he hr hm=>Assign_Tuple_swapped (names:=names) (Bf3 (h A st B g env s he hr hm) (fun v s' qD=>by
  obtain ⟨g',σ',m',b,hg,hr',hv,hm',ds,hd,hl,hq⟩:=qD
  subst hm'
  subst hd
  obtain ⟨a,items,rfl,ht,hi⟩:=hv.isTup
  rw [<- hl,<- hi.length,Bg5]
  refine wpAny_unpackItems_tuple hm.2.2 (IsTuple.stays ht hr'.fz) fun h' hk'=>?_
  have st':s'.heap.StaysIn h':=fun b o e=>hk' b o (Bl9 (Bl3 e)) e
  refine Aoj he names.reverse ds.reverse m' _ _ (hr'.stays st' s'.toks) hi.reverse (by simp [hl]) (fun x hx=>hk x (by simpa using hx)) fun s2 R2=>?_
  exact ⟨g',σ',_,.next,hg,R2,.next,hq⟩) fun _ _ q=>q) (hs env he.sc) (hw env he.sc)
noncomputable def Lp (P:Pm) (n:Nat) (fx:Fx) (en:Bool) (target:Expr) (body:List Stmt) (ds:List V) (σ:Sto) (m:A8) (Q:Flw->Sto->A8->Prop) (X:Xt):Prop:=
 ∀ A st B g env s it,Ad5 fx env st->Rep P B g A st env σ m s->Bg A n->It B g s.heap en none it ds ->
  Cb8 (model P.prog P.w) A (.forLoop target (.ref it) body [] env) (fun r s'=>match r with | .ok f=>NP Am5 P B A st env g Q f s' | .error e=>Cf8 (model P.prog P.w) A env (XP P B A st env g X) e s') s
inductive ItP (P:Pm) (B:Bs) (A:Around) (st:List Env) (env:Env) (m:A8) (g:Heap) (en:Bool) (src:Option (Addr × List V)) (Q:List V->Sto->Prop) (v:Value) (s':Shared):Prop
 | mk (g':Heap) (σ':Sto) (ds:List V) (it:Addr) (hg:g.StaysIn g') (hr:Rep P B g' A st env σ' m s') (hv:v=.ref it) (hi:It B g' s'.heap en src it ds) (hq:Q ds σ')
noncomputable def Azy (P:Pm) (n:Nat) (fx:Fx) (en:Bool) (src:Option (Addr × List V)) (e:Expr) (σ:Sto) (m:A8) (Q:List V->Sto->Prop) (X:Xt):Prop:=
 ∀ A st B g env s,Ad5 fx env st->Rep P B g A st env σ m s->Bg A n ->
  wpAny (model P.prog P.w) A (eval e env) (fun x s₁=>wpAny (model P.prog P.w) A (pyIter x) (ItP P B A st env m g en src Q) (XP P B A st env g X) s₁) (XP P B A st env g X) s
noncomputable abbrev Itr (P:Pm) (n:Nat) (fx:Fx) (en:Bool) (e:Expr) (σ:Sto) (m:A8) (Q:List V->Sto->Prop) (X:Xt):Prop:=Azy P n fx en none e σ m Q X
theorem Aye {target iter body pos en Q} (h:Itr P n fx en iter σ m (fun ds σ'=>Lp P n fx en target body ds σ' m Q X) X)
  (hs:∀ env x,Bo7 iter env x=pure x):Ex P n fx (.For target iter body [] pos) σ m Q X:=
 fun A st B g env s he hr hm=>wpAny_For (Bf3 (h A st B g env s he hr hm) (fun x s₁ h₁=>Bf3 h₁ (fun v s' qE=>by
  obtain ⟨g',σ',ds,it,hg,hr',hv,hi,hq⟩:=qE
  subst hv
  refine Bp5 (hq A st B g' env s' it he hr' hm hi) fun r s2 hh=>?_
  cases r with
  | ok f=>exact hh.mono hg fun _ _ _ x=>x
  | error e=>exact Bf3 hh (fun _ _ q=>q.mono hg fun _ _ _ x=>x) fun _ _ q=>q.mono hg fun _ _ _ x=>x) fun _ _ q=>q) fun _ _ q=>q) (hs env)
theorem Au5 {en target body ds Q} (hc:fx.comp=false) (hgo:(∃ elts k pos,target=.Tuple elts k pos)∨((∀ it v,Bl5 target it v=pure ())/\en=false))
  (Anz:ds=[]->Q .next σ m)
  (Afr:∀ d r,ds=d :: r->Bd P n fx target d σ m (fun σ' m'=>Exs P n fx body σ' m' (fun f σ'' m''=>match f with | .next | .cont=>Lp P n fx en target body r σ'' m'' Q X | .brk=>Q .next σ'' m'' | .ret v=>Q (.ret v) σ'' m'') X) X) :
  Lp P n fx en target body ds σ m Q X:=fun A st B g env s it he hr hm hi=>by
 refine Cd0 ?_
 show wpAny _ A ((forTurn target (.ref it) body [] env).onRaise (fun x=>do Cm5 x env; Cp8 x)) _ _ s
 refine wpAny_noted ?_
 simp only [forTurn]
 refine Be9 (Bo3 (Be9 (wpAny_onRaise (Bf3 (It.next (target:=target) (E:=notedBy (model P.prog P.w) A env (Cf8 (model P.prog P.w) A env (XP P B A st env g X)))
  (K:=fun r s₁=>match r with
   | none=>Rep P B g A st env σ m s₁/\ds=[]
   | some v=>NxP P B g A st env σ m en none it ds v s₁) hr hm.2.2 hi (fun l all e=>by cases e) (hgo.imp id fun q=>⟨fun v=>q.1 _ v,q.2⟩)
  (fun e h' R'=>⟨R',e⟩) (fun d r e v g' h' tk hg R' hv hi'=>⟨d,r,g',e,hg,R',hv,hi'⟩)) (fun r s₁ h₁=>?_) fun _ _ h'=>Bo3 h'))))
 cases r with
 | none=>
  obtain ⟨R',hd⟩:=h₁
  exact Bf6 ⟨rfl,codeAny_block (Cp7 ⟨g,σ,m,.next,A2 g,R',.next,Anz hd⟩)⟩
 | some v=>
  refine Be9 (Bf3 h₁ (fun _ s₂ h₂=>?_) fun _ _ q=>q)
  obtain ⟨d,r,g',hd,hg,R',hv,hi'⟩:=h₂
  obtain ⟨B',hB1,RB,hB2,hB3,hB4⟩:=R'.step
  refine Be9 (Bf3 (Afr d r hd A st B' g' env s₂ v he RB hm hv) (fun _ s₃ qM=>?_) fun e s3 hx=>((hx.Ajf hB3 hB4).mono hg fun _ _ _ x=>x).passes he hc)
  obtain ⟨g3,σ3,m3,hg3,hr3,hq3⟩:=qM
  refine Be9 (Bf3 (hq3 A st B' g3 env s₃ he hr3 hm) (fun f s₄ qM=>?_) fun e s3 hx=>((hx.Ajf hB3 hB4).mono (A3 hg hg3) fun _ _ _ x=>x).passes he hc)
  obtain ⟨g4,σ4,m4,b4,hg4,hr4,hf,hq4⟩:=qM
  have gg:g.StaysIn g4:=A3 hg (A3 hg3 hg4)
  have R4:=hB4 _ _ _ _ hr4
  have it4:It B g4 s₄.heap en none it r:=It.through R' hB1 hB2 hi' (A3 hg3 hg4) hr4
  have fin:Lp P n fx en target body r σ4 m4 Q X->(Code.forLoop target (.ref it) body [] env).quiet=true/\Cb8 (model P.prog P.w) A (.forLoop target (.ref it) body [] env) (fun r s'=>match r with | .ok f=>NP Am5 P B A st env g Q f s' | .error e=>Cf8 (model P.prog P.w) A env (XP P B A st env g X) e s') s₄:=fun w=>
   ⟨rfl,Bp5 (w A st B g4 env s₄ it he R4 hm it4) fun r s' hh=>by
    cases r with
    | ok f=>exact hh.mono gg fun _ _ _ x=>x
    | error e=>exact Bf3 hh (fun _ _ q=>q.mono gg fun _ _ _ x=>x) fun _ _ q=>q.mono gg fun _ _ _ x=>x⟩
  induction hf using Am5.casesOn with
  | next=>exact Bf6 (fin hq4)
  | cont=>exact Bf6 (fin hq4)
  | brk=>exact Bf6 ⟨g4,σ4,m4,.next,gg,R4,.next,hq4⟩
  | ret r=>exact Bf6 ⟨g4,σ4,m4,_,gg,R4,.ret r,hq4⟩
end
inductive FX (P:Pm) (B:Bs) (A:Around) (st:List Env) (g:Heap) (X:Str->Sto->Prop) (e:Value) (s':Shared):Prop
 | mk (g':Heap) (σ':Sto) (why:Str) (ea:Addr) (hg:g.StaysIn g') (hr:RepC P B g' A st σ' s') (he:e=.ref ea) (hx:ExcAt P B g' s'.heap ea why) (hq:X why σ')
inductive FN (P:Pm) (B:Bs) (A:Around) (st:List Env) (g:Heap) (Q:V->Sto->Prop) (v:Value) (s':Shared):Prop
 | mk (g':Heap) (σ':Sto) (d:V) (hg:g.StaysIn g') (hr:RepC P B g' A st σ' s') (hv:VR g' v d) (hq:Q d σ')
noncomputable def FR (P:Pm) (B:Bs) (A:Around) (st:List Env) (g:Heap) (Q:V->Sto->Prop) (X:Str->Sto->Prop) (r:Result) (s':Shared):Prop:=
 match r with
 | .ok (.ret v)=>FN P B A st g Q v s'
 | .ok _=>False
 | .error e=>FX P B A st g X e s'
noncomputable def Fn (P:Pm) (n:Nat) (f:Value) (vs:List V) (σ:Sto) (Q:V->Sto->Prop) (X:Str->Sto->Prop):Prop:=
 ∀ A st B g s vals,RepC P B g A st σ s->VRs g vals vs->Bg A n->Cb8 (model P.prog P.w) A (.call f ⟨vals,[]⟩) (FR P B A st g Q X) s
theorem Fn.mono {P n f vs σ Q Q' X X'} (h:Fn P n f vs σ Q X) (hq:∀ v σ,Q v σ->Q' v σ) (hx:∀ y σ,X y σ->X' y σ):Fn P n f vs σ Q' X':=
 fun A st B g s vals hr hv hm=>Bp5 (h A st B g s vals hr hv hm) fun r s' q=>by
  cases r with
  | ok f=>
   cases f with
   | ret v=>obtain ⟨g',σ',d,a,b,c,e⟩:=q; exact ⟨g',σ',d,a,b,c,hq _ _ e⟩
   | _=>exact q
  | error e=>obtain ⟨g',σ',why,ea,a,b,c,d,e⟩:=q; exact ⟨g',σ',why,ea,a,b,c,d,hx _ _ e⟩
theorem Fn.room {P n k f vs σ Q X} (h:Fn P n f vs σ Q X) (hk:n<=k):Fn P k f vs σ Q X:=
 fun A st B g s vals hr hv hm=>h A st B g s vals hr hv (hm.mono hk)
section
variable {P:Pm} {B:Bs} {g:Heap} {A:Around} {st:List Env} {σ:Sto} {s:Shared}
theorem Ae0:∀ (names:List (Str × NameKind)) (h:Heap),h.StaysIn (Cq0 h names):=fun names h b o e=>pushCells_keeps names h b o e
theorem Am9 (R:RepC P B g A st σ s) {scope qual func code Q E binds ds}
  (hk:scope.kind=.function) (hnd:∀ n,((Cd1 n scope.names []).map (·.1)).Nodup) (Bav:∀ n x,scope.names.lookup x=some .cell->((Cd1 n scope.names []).lookup x).isSome=true) (Ba5:∀ x,scope.names.lookup x≠some .free)
  (hb:binds.map (·.1)=ds.map (·.1)) (hv:VRs g (binds.map (·.2)) (ds.map (·.2))) (Ax7:∀ x∈binds,scope.names.lookup x.1=some .local∨scope.names.lookup x.1=some .cell)
  (h:∀ env s',Ad5 ⟨scope,false⟩ env (env :: st)->env.func=func->env.code=code->s'.heap.NoLimit->s.heap.StaysIn s'.heap->Rep P B g (A.deeper env) (env :: st) env σ (putAll ds fun _=>none) s'->Q env s') :
  wpAny (model P.prog P.w) A (newFunctionEnv scope Bl4 [] binds qual func code none Cf9) Q E s:=by
 simp only [newFunctionEnv,Option.isSome_none,Bp7,if_false]
 refine Be9 (wpAny_alloc ?_)
 refine Be9 (wpAny_layCells _ (fun name kind cells=>by cases hkc:kind == NameKind.cell <;> simp [hkc]) _ _ _ _ ?_)
 have ok:=cellsFrom_ok scope.names (s.heap.push { cls:=.type "frame",data:=.dict #[] }) (s.heap.objs.size + 1) [] ⟨fun _ _ hm=>(nomatch hm),List.Pairwise.nil⟩ (by rw [Bu0]; exact Bh7 _)
 rw [Bu0] at ok
 rw [show ({ s with heap:=s.heap.push { cls:=.type "frame",data:=.dict #[] } }:Shared).heap.objs.size=s.heap.objs.size + 1 from Bu0 ..]
 have st1:s.heap.StaysIn (Cq0 (s.heap.push { cls:=.type "frame",data:=.dict #[] }) scope.names):=A3 (Aa3 _ _) (Ae0 _ _)
 have hL:(Cq0 (s.heap.push { cls:=.type "frame",data:=.dict #[] }) scope.names).get? s.heap.objs.size=some { cls:=.type "frame",data:=.dict #[] }:=Ae0 _ _ _ _ (Bi4 _ rfl)
 with_reducible refine gze ({ scope,locals:=s.heap.objs.size,globals:=Bl4,cells:=Cd1 (s.heap.objs.size + 1) scope.names [],qual,func,code,frame:=some s.heap.objs.size,builtins:=Cf9 }:Env) fun env Ajs=>?_
 have Aii:env.cells=Cd1 (s.heap.objs.size + 1) scope.names []:=by rw [<- Ajs]
 have Akb:env.scope=scope:=by rw [<- Ajs]
 have Ajg:env.locals=s.heap.objs.size:=by rw [<- Ajs]
 have e1:Ad5 ⟨scope,true⟩ env st:=⟨Akb,hk,by rw [<- Ajs],by rw [<- Ajs],fun q=>nomatch q⟩
 have emptyAt:∀ x c,env.cells.lookup x=some c->(Cq0 (s.heap.push { cls:=.type "frame",data:=.dict #[] }) scope.names).IsCell c none/\s.heap.objs.size + 1<=c:=fun x c q=>ok.empty x c (mem_of_lookup (Aii ▸ q))
 have fresh:∀ c,s.heap.objs.size<=c->s.heap.get? c=none:=fun c q=>Bn8 q
 have R0:Rep P B g A st env σ (fun _=>none) { s with heap:=Cq0 (s.heap.push { cls:=.type "frame",data:=.dict #[] }) scope.names }:=by
  refine ⟨R.stays st1 s.toks,⟨⟨fun _=>none,?_,fun x v e=>by cases e⟩,fun x hx=>?_,fun x y c q1 q2=>?_⟩,⟨?_,fun x c hx hc=>?_⟩⟩
  · rw [Ajg]; exact (Heap.Ns.new s.heap (.type "frame")).keeps (pushCells_keeps _ _)
  · have hx':scope.names.lookup x=some .cell:=by
     rcases hx with hx | hx
     · unfold By0 at hx; rwa [Akb] at hx
     · unfold By0 at hx; rw [Akb] at hx; exact absurd hx (Ba5 x)
    obtain ⟨c,hc⟩:=Option.isSome_iff_exists.mp (Bav (s.heap.objs.size + 1) x hx')
    rw [<- Aii] at hc
    exact ⟨c,none,hc,(emptyAt x c hc).1,fun v e=>by cases e⟩
  · rw [Aii] at q1 q2
    exact name_of_addr ok.apart (mem_of_lookup q1) (mem_of_lookup q2)
  · rw [Ajg]
    exact ⟨Aa2 R.fz (fresh _ (Bh7 _)),Aa0 R.keeps (fresh _ (Bh7 _)),R.Aat (fresh _ (Bh7 _))⟩
  · have:=(emptyAt x c hc).2
    exact ⟨Aa2 R.fz (fresh _ (by exact r41 ‹_›)),Aa0 R.keeps (fresh _ (by exact r41 ‹_›)),R.Aat (fresh _ (by exact r41 ‹_›))⟩
 -- the binds
 have go:∀ (bs:List (Str × Value)) (ds:List (Str × V)) (m:A8) (s1:Shared),bs.map (·.1)=ds.map (·.1)->VRs g (bs.map (·.2)) (ds.map (·.2))->(∀ x∈bs,scope.names.lookup x.1=some .local∨scope.names.lookup x.1=some .cell) ->
    Rep P B g A st env σ m s1->s.heap.StaysIn s1.heap->(∃ o,s1.heap.get? env.locals=some o/\Ahg o) ->
    (∀ s2,Rep P B g A st env σ (putAll ds m) s2->s.heap.StaysIn s2.heap->(∃ o,s2.heap.get? env.locals=some o/\Ahg o)->Q env s2) ->
    wpAny (model P.prog P.w) A (forIn bs PUnit.unit fun (x:Str × Value) (_:PUnit)=>(match x with | (name,v)=>do
     storeName env name v
     pure (ForInStep.yield PUnit.unit):Sem (ForInStep PUnit))) (fun _ s2=>Q env s2) E s1:=by
  intro bs
  induction bs with
  | nil=>
    intro ds m s1 hb hv hkd hr hst hfr hq
    cases ds with
    | cons _ _=>cases hb
    | nil=>
     rw [Co3]
     exact Bf6 (hq s1 hr hst hfr)
  | cons b bs ih=>
    intro ds m s1 hb hv hkd hr hst hfr hq
    cases ds with
    | nil=>cases hb
    | cons d ds=>
     obtain ⟨x,c⟩:=b
     obtain ⟨y,d⟩:=d
     simp only [Bh1,Bn1] at hb
     obtain ⟨rfl,hb⟩:=hb
     replace hv:=hv.inv; obtain ⟨_,_,⟨⟩,hv,hvs⟩:=hv
     ·
       rw [Cg3]
       refine Be9 (Be9 (Aui e1 hr (hkd (x,c) (.head _)) hv fun h' tk R' k1 k2=>Bf6 ?_))
       have:=ih ds (m.put x d) { s1 with heap:=h',toks:=tk } hb hvs (fun z hz=>hkd z (.tail _ hz)) R' (fun b o e=>by
        refine k1 b o ?_ ?_ (hst b o e)
        · rw [Ajg]; exact Bl9 (Bl3 e)
        · intro z w _ hz q; subst q; exact absurd (Bh0 (Bl3 e) (Bl8 (emptyAt z b hz).2)) (Nat.lt_irrefl _)) (k2 hfr) hq
       exact this
 refine Be9 (Bf3 (Q:=fun _ s2=>Q env s2) (go binds ds (fun _=>none) _ hb hv Ax7 R0 st1 ⟨_,by rw [Ajg]; exact hL,rfl,_,_,rfl⟩ fun s2 R2 Bdr qM=>?_) (fun _ _ q=>Bf6 q) fun _ _ q=>q)
 obtain ⟨oF,hF,hFr⟩:=qM
 refine h env s2 ⟨Akb,hk,by rw [<- Ajs],by rw [<- Ajs],fun _=>⟨st,rfl,by rw [<- Ajs]⟩⟩ (by rw [<- Ajs]) (by rw [<- Ajs]) (R2.pc.nolimit.keeps R2.fz) Bdr ?_
 exact ⟨⟨R2.pc,Cg7 R2.stack,⟨by rw [Akb]; exact hk,⟨env.locals,oF,by rw [<- Ajs],hF,hFr,R2.own.loc.1⟩,R2.stk⟩,R2.keeps,R2.fz,R2.ext,R2.new,R2.sto,R2.gens,R2.drawn,R2.os⟩,R2.fr,R2.own⟩
theorem Ano {env m e why Q E} (hf:env.frame=some env.locals) (R:Rep P B g A (env :: st) env σ m s) (x:ExcAt P B g s.heap e why)
  (h:∀ s',RepC P B g A (env :: st) σ s'->ExcAt P B g s'.heap e why->Q () s'):wpAny (model P.prog P.w) A (leaving env (.ref e)) Q E s:=by
 unfold leaving
 refine Be9 (Ad9 rfl hf R.toRepC x fun h' Z T k1 k3 k4=>?_)
 have R':=R.toRepC.B5 k3 k4 s.toks
 exact Ac5 (s:={ s with heap:=h' }) k1 fun h'' Z' l1 l3 l4=>h _ (R'.B5 l3 l4 s.toks) ⟨_,l1⟩
end
theorem Ayn {P n a} {f:FuncData} {o:Obj} {body vs σ Q X} (ho:P.K.lookup a=some o) (hf:o.data=.func f) (hb:f.body=.stmts body) (hg:f.globals=Bl4) (hcl:f.closure=[]) (hbu:f.builtins=Cf9)
   (Avc:codeIn P.K f.code f.qualname=true) (h3:∀ vals:List Value,vals.length=f.params.args.length->bindArgs f ⟨vals,[]⟩=pure ((f.params.args.map (·.arg)).zip vals))
   (kind:f.scope.kind=.function) (co:f.scope.isCoroutine=false) (gen:f.scope.isGenerator=false) (nd:∀ n,((Cd1 n f.scope.names []).map (·.1)).Nodup) (cell:∀ n x,f.scope.names.lookup x=some .cell->((Cd1 n f.scope.names []).lookup x).isSome=true)
   (free:∀ x,f.scope.names.lookup x≠some .free) (binds:∀ x∈f.params.args.map (·.arg),f.scope.names.lookup x=some .local∨f.scope.names.lookup x=some .cell) (hl:f.params.args.length=vs.length)
   (h:Exs P n ⟨f.scope,false⟩ body σ (putAll ((f.params.args.map (·.arg)).zip vs) fun _=>none) (fun f σ' _=>Q (match f with | .ret v=>v | _=>.none) σ') (fun why σ' _=>X why σ')):Fn P (n + 1) (.ref a) vs σ Q X:=by
 intro A st B g s vals R hv hm
 have ho:=R.fz _ _ (R.pc.kin _ _ ho)
 refine codeAny_call_function hm.lt ho hf co gen hb (codeRec_of (R.pc.kin.keeps R.fz) Avc) ?_
 rw [h3 vals (by rw [hl,hv.length]),hg,hcl,hbu]
 obtain ⟨B',hB1,RB,hB2,hB3,hB4⟩:=R.step (fun _=>False) (fun _ q=>q.elim)
 have RB1:RepC P B' g A.in1 st σ s:=(RB.Atr RB.stack)
 have e1:((f.params.args.map (·.arg)).zip vals).map (·.1)=f.params.args.map (·.arg):=by
   exact List.map_fst_zip (by rw [Bf0,hl,hv.length]; exact Bh7 _)
 have e2:((f.params.args.map (·.arg)).zip vals).map (·.2)=vals:=by exact Cl4 (by rw [Bf0,hl,hv.length]; exact Bh7 _)
 have e3:((f.params.args.map (·.arg)).zip vs).map (·.1)=f.params.args.map (·.arg):=by exact List.map_fst_zip (by rw [Bf0,hl]; exact Bh7 _)
 have e4:((f.params.args.map (·.arg)).zip vs).map (·.2)=vs:=by exact Cl4 (by rw [Bf0,hl]; exact Bh7 _)
 refine Bf6 (Am9 RB1 (ds:=(f.params.args.map (·.arg)).zip vs) kind nd cell free (e1.trans e3.symm) (by rw [e2,e4]; exact hv)
   (fun x hx=>binds x.1 (by rw [<- e1]; exact Bi8 hx)) fun env s' he hfn hcd Bbw hst R2=>⟨Bbw,codeAny_func ?_⟩)
 obtain ⟨outer,hou,hfr⟩:=he.top rfl
 have R3:Rep P B' g (A.deeper env) (env :: st) env σ (putAll ((f.params.args.map (·.arg)).zip vs) fun _=>none) s':=
   ⟨(R2.Atr (Cg7 R.stack)),R2.fr,R2.own⟩
 refine Bf3 (h (A.deeper env) (env :: st) B' g env s' he R3 (hm.down env)) (fun f s2 qM=>?_) fun e s2 qM=>?_
 · obtain ⟨g',σ',m',b,hg,hr2,hf,hq⟩:=qM
   have R4:=hB4 g' (A.deeper env) [env] st σ' s2 hr2.toRepC R.stack
   induction hf using Am5.casesOn with
   | ret r=>exact ⟨g',σ',_,hg,R4,r,hq⟩
   | _=>exact ⟨g',σ',.none,hg,R4,.none,hq⟩
 · obtain ⟨g',σ',m',why,ea,hg,hr2,he2,hx,hX⟩:=qM
   subst he2
   refine Ano hfr hr2 hx fun s3 R5 x5=>?_
   exact ⟨g',σ',why,ea,hg,hB4 g' (A.deeper env) [env] st σ' s3 R5 R.stack,rfl,x5.Ajf hB3,hX⟩
section
variable {P:Pm} {B:Bs} {g:Heap} {A:Around} {st:List Env} {env:Env} {σ:Sto} {m:A8} {s:Shared}
inductive Bba (P:Pm) (B:Bs) (g:Heap) (A:Around) (st:List Env) (env:Env) (σ:Sto) (m:A8) (s:Shared):Prop
 | mk (B':Bs) (hr:RepC P B' g A st σ s) (h3:∀ b,B'.k.get? b=none->B.k.get? b=none) (h4:∀ g' σ' s',RepC P B' g' A st σ' s'->Rep P B g' A st env σ' m s')
theorem Rep.call (R:Rep P B g A st env σ m s):Bba P B g A st env σ m s:=by
 obtain ⟨B',hB1,RB,hB2,hB3,hB4⟩:=R.toRepC.step (fun _=>False) (fun _ q=>q.elim)
 refine ⟨B',RB,hB3,fun g' σ' s' R'=>?_⟩
 have ext:g.StaysIn g':=hB1 ▸ R'.ext
 have locIn:∃ oL,s.heap.get? env.locals=some oL/\B'.k.get? env.locals=some oL:=by
   obtain ⟨ml,⟨oL,es,ep,hL,_⟩,_⟩:=R.fr.ns
   exact ⟨oL,hL,(hB2 _ _).mpr ⟨R.own.loc.2.2,id,hL⟩⟩
 have celIn:∀ x c,(env.kindOf x=some .cell∨env.kindOf x=some .free)->env.cells.lookup x=some c->∃ o,s.heap.get? c=some o/\B'.k.get? c=some o:=fun x c hx hc=>by
   obtain ⟨c',cv,q1,⟨o,q2,q3⟩,_⟩:=R.fr.cel x hx
   rw [hc] at q1; cases q1
   exact ⟨o,q2,(hB2 _ _).mpr ⟨(R.own.cel x c hx hc).2.2,id,q2⟩⟩
 have gnone:∀ a o,B'.k.get? a=some o->g.get? a=none->g'.get? a=none:=fun a o e eg=>by
   cases q:g'.get? a with
   | none=>rfl
   | some o'=>have:=R'.new a (by rw [q]; simp) (hB1.symm ▸ eg); rw [e] at this; cases this
 have snone:∀ a o,B'.k.get? a=some o->σ' a=none:=fun a o e=>by
   cases q:σ' a with
   | none=>rfl
   | some x=>have:=(R'.sto a x q).2.1; rw [e] at this; cases this
 refine ⟨hB4 g' A [] st σ' s' R' R.stack,⟨?_,fun x hx=>?_,R.fr.apart⟩,⟨?_,fun x c hx hc=>?_⟩⟩
 · obtain ⟨ml,⟨oL,es,ep,hL,hd,r⟩,q⟩:=R.fr.ns
   obtain ⟨oL',w1,w2⟩:=locIn
   rw [hL] at w1; cases w1
   obtain ⟨o',w3,w4,_⟩:=R'.keeps.some w2
   exact ⟨ml,⟨o',es,ep,w3,w4.trans hd,r⟩,fun x v e l=>by obtain ⟨c,a,b⟩:=q x v e l; exact ⟨c,a,b.mono ext⟩⟩
 · obtain ⟨c,cv,q1,⟨o,q2,q3⟩,q4⟩:=R.fr.cel x hx
   obtain ⟨o1,w1,w2⟩:=celIn x c hx q1
   rw [q2] at w1; cases w1
   obtain ⟨o',w3,w4,_⟩:=R'.keeps.some w2
   exact ⟨c,cv,q1,⟨o',w3,w4.trans q3⟩,fun v e=>by obtain ⟨y,a,b⟩:=q4 v e; exact ⟨y,a,b.mono ext⟩⟩
 · obtain ⟨oL,w1,w2⟩:=locIn
   exact ⟨gnone _ _ w2 R.own.loc.1,R.own.loc.2.1,snone _ _ w2⟩
 · obtain ⟨o,w1,w2⟩:=celIn x c hx hc
   exact ⟨gnone _ _ w2 (R.own.cel x c hx hc).1,(R.own.cel x c hx hc).2.1,snone _ _ w2⟩
theorem Alx {n f vs vals Q X} (R:Rep P B g A st env σ m s) (hv:VRs g vals vs) (hm:Bg A n) (h:Fn P n f vs σ Q (fun why σ'=>X why σ' m)) :
  wpAny (model P.prog P.w) A (call f vals []) (NP VR P B A st env g (fun v σ' m'=>m'=m/\Q v σ')) (XP P B A st env g X) s:=by
 obtain ⟨B',RB,hB3,hB4⟩:=R.call
 refine Ci9 (Bp5 (h A st B' g s vals RB hv hm) fun r s' q=>?_)
 cases r with
 | ok f=>
  cases f with
  | ret v=>obtain ⟨g',σ',d,a,b,c,e⟩:=q; exact ⟨g',σ',m,d,a,hB4 _ _ _ b,c,rfl,e⟩
  | _=>exact q
 | error e=>obtain ⟨g',σ',why,ea,a,b,c,d,e⟩:=q; exact ⟨g',σ',m,why,ea,a,hB4 _ _ _ b,c,d.Ajf hB3,e⟩
end
noncomputable def Bt (P:Pm) (n:Nat) (f:Value) (vs:List V) (σ:Sto) (Q:V->Sto->Prop):Prop:=
 ∀ A st B g env m s vals,Rep P B g A st env σ m s->VRs g vals vs->Bg A n ->
  wpAny (model P.prog P.w) A (call f vals []) (NP VR P B A st env g (fun v σ' m'=>m'=m/\Q v σ')) (fun _ _=>False) s
section
variable {P:Pm} {n:Nat} {fx:Fx} {σ:Sto} {m:A8} {X:Xt}
theorem Am3 {pos Q} (h:Q [] σ):Evs P n fx pos [] σ m Q X:=
 fun A st B g env s he hr hm=>wpAny_items_nil ⟨g,σ,m,[],A2 g,hr,.nil,rfl,rfl,h⟩
theorem Aea {pos e es Q} (h:Ev P n fx e σ m (fun v σ'=>Evs P n fx pos es σ' m (fun vs σ''=>Q (v :: vs) σ'') X) X)
  (ha:∀ env,Bk6 (e :: es) env=(false,eval e env) :: Bk6 es env:=by intro _; rfl):Evs P n fx pos (e :: es) σ m Q X:=
 fun A st B g env s he hr hm=>Co7 (Bf3 (h A st B g env s he hr hm) (fun v s' qA=>by
  obtain ⟨g',σ',m',b,hg,hr',hv,hm',hq⟩:=qA
  subst hm'
  exact Bf3 (hq A st B g' env s' he hr' hm) (fun vs s2 qB=>by obtain ⟨g2,σ2,m2,b2,hg2,hr2,hv2,hm2,hl2,hq2⟩:=qB; exact ⟨g2,σ2,m2,_,A3 hg hg2,hr2,.cons (hv.mono hg2) hv2,hm2,by simp [hl2],hq2⟩) fun _ _ q=>q.mono hg fun _ _ _ x=>x) fun _ _ q=>q) (ha env)
theorem At1 {es k pos Q} (h:Evs P n fx pos es σ m (fun vs σ'=>Q (.tup vs) σ') X) (hl:es.length<=1000:=by decide):Ev P n fx (.Tuple es k pos) σ m Q X:=
 fun A st B g env s he hr hm=>Tuple_ (Bf3 (h A st B g env s he hr hm) (fun vs s' qC=>by
  obtain ⟨g',σ',m',ds,hg,hr',hv,hm',hlen,hq⟩:=qC
  have hz:vs.length<=sizeLine:=by rw [hv.length,hlen,Bn6]; exact r43 ‹_›
  refine Bn9 ?_ (by show vs.toArray.size<=sizeLine; rw [Bp2]; exact hz)
  obtain ⟨g2,hg2,ho,R2⟩:=hr'.Aap { cls:=.type "tuple",data:=.seq vs.toArray } rfl (fun f=>by have q:Value.type "tuple"=Value.type "frame":=f.1; exact absurd q (by decide)) s'.toks
  exact ⟨g2,σ',m',_,A3 hg hg2,R2,.tup ho rfl rfl (by simpa using hv.mono hg2),hm',hq⟩) fun _ _ q=>q)
theorem Awp {x np pos e es a Q} (hk:fx.sc.names.lookup x=some .globalImplicit) (hv:nsIn P.K Bl4 x=some (some (.ref a))) (Aj5:keepIn P.K (.ref a)=true)
  (h:Evs P n fx pos (e :: es) σ m (fun vs σ'=>Fn P n (.ref a) vs σ' Q (fun why σ''=>X why σ'' m)) X) (hd:(x == ("__debug__" : Str))=false)
  (ha:∀ env,Bk6 (e :: es) env=(false,eval e env) :: Bk6 es env) (Ahb:∀ env,(By7 pos (Bk6 es env)).any (·.1)=false):Ev P n fx (.Call (.Name x np) (e :: es) [] pos) σ m Q X:=
 fun A st B g env s he hr hm=>Bx0 (ldG he hr hk hv hd (callWith_K (hr.pc.kin.keeps hr.fz) Aj5 (Bf3 (h A st B g env s he hr hm) (fun vs s' qD=>by
  obtain ⟨g',σ',m',ds,hg,hr',hv,hm',hlen,hq⟩:=qD
  subst hm'
  refine ⟨hr'.pc.kin.keeps hr'.fz,?_⟩
  exact Bf3 (Alx hr' hv hm hq) (fun _ _ q=>q.mono hg fun _ _ _ x=>x) fun _ _ q=>q.mono hg fun _ _ _ x=>x) fun _ _ q=>q) (ha env) (Ahb env)))
theorem Atx {x np pos a Q} (hk:fx.sc.names.lookup x=some .globalImplicit) (hv:nsIn P.K Bl4 x=some (some (.ref a))) (Aj5:keepIn P.K (.ref a)=true)
  (h:Fn P n (.ref a) [] σ Q (fun why σ''=>X why σ'' m)) (hd:(x == ("__debug__" : Str))=false):Ev P n fx (.Call (.Name x np) [] [] pos) σ m Q X:=
 fun A st B g env s he hr hm=>Bx0 (ldG he hr hk hv hd (callWith_K0 (hr.pc.kin.keeps hr.fz) Aj5 (Alx hr .nil hm h)))
theorem Ba4 {x np pos e es id Q} (hk:fx.sc.names.lookup x=some .globalImplicit) (hv:nsIn P.K Bl4 x=some none) (hb:Bs9 x=some (.builtin id))
  (h:Evs P n fx pos (e :: es) σ m (fun vs σ'=>Bt P n (.builtin id) vs σ' Q) X) (hx:x≠"__name__") (hd:(x == ("__debug__" : Str))=false)
  (ha:∀ env,Bk6 (e :: es) env=(false,eval e env) :: Bk6 es env) (Ahb:∀ env,(By7 pos (Bk6 es env)).any (·.1)=false):Ev P n fx (.Call (.Name x np) (e :: es) [] pos) σ m Q X:=
 fun A st B g env s he hr hm=>Bx0 (ldB he hr hk hv hb hx hd (by
  rw [show backToKw pos (Ck4 [] env)=[] from rfl]
  have hp:(By7 pos (Bk6 (e :: es) env)).any (·.1)=false:=by rw [ha]; show (false || (By7 pos (Bk6 es env)).any (·.1))=false; rw [Ahb]; rfl
  refine Cf2 hp ?_
  have:=h A st B g env s he hr hm
  simp only [ha] at this ⊢
  refine Ca2 (Bf3 this (fun vs s' qM=>?_) fun _ _ q=>q)
  obtain ⟨g',σ',m',ds,hg,hr',hv,hm',hlen,hq⟩:=qM
  subst hm'
  exact Bf3 (hq A st B g' env _ s' vs hr' hv hm) (fun _ _ q=>q.mono hg fun _ _ _ x=>x) fun _ _ q=>q.elim))
theorem Ba0 {x np pos e es T Q} (hk:fx.sc.names.lookup x=some .globalImplicit) (hv:nsIn P.K Bl4 x=some none) (hb:Bs9 x=some (.type T))
  (h:Evs P n fx pos (e :: es) σ m (fun vs σ'=>Bt P n (.type T) vs σ' Q) X) (hx:x≠"__name__") (hd:(x == ("__debug__" : Str))=false)
  (ha:∀ env,Bk6 (e :: es) env=(false,eval e env) :: Bk6 es env) (Ahb:∀ env,(By7 pos (Bk6 es env)).any (·.1)=false):Ev P n fx (.Call (.Name x np) (e :: es) [] pos) σ m Q X:=
 fun A st B g env s he hr hm=>Bx0 (ldB he hr hk hv hb hx hd (by
  rw [show backToKw pos (Ck4 [] env)=[] from rfl]
  have hp:(By7 pos (Bk6 (e :: es) env)).any (·.1)=false:=by rw [ha]; show (false || (By7 pos (Bk6 es env)).any (·.1))=false; rw [Ahb]; rfl
  refine PyProof.Rows.callWith_type hp ?_
  have:=h A st B g env s he hr hm
  simp only [ha] at this ⊢
  refine Ca2 (Bf3 this (fun vs s' qM=>?_) fun _ _ q=>q)
  obtain ⟨g',σ',m',ds,hg,hr',hv,hm',hlen,hq⟩:=qM
  subst hm'
  exact Bf3 (hq A st B g' env _ s' vs hr' hv hm) (fun _ _ q=>q.mono hg fun _ _ _ x=>x) fun _ _ q=>q.elim))
end
noncomputable abbrev Tr {α β:Type} (R:Heap->α->β->Prop) (P:Pm) (n:Nat) (t:Sem α) (A:Around) (st:List Env) (B:Bs) (g:Heap) (env:Env) (m:A8) (s:Shared) (Q:β->Sto->Prop):Prop:=
 wpAny (model P.prog P.w) A t (NP R P B A st env g (fun v σ' m'=>m'=m/\Q v σ')) (fun _ _=>False) s
noncomputable def Bo (P:Pm) (n:Nat) (op:Operator) (a b:V) (σ:Sto) (Q:V->Sto->Prop):Prop:=
 ∀ A st B g env m s u v,Rep P B g A st env σ m s->VR g u a->VR g v b->Bg A n->Tr VR P n (binaryOp op u v) A st B g env m s Q
noncomputable def Co (P:Pm) (n:Nat) (op:CmpOp) (a b:V) (σ:Sto) (Q:Bool->Sto->Prop):Prop:=
 ∀ A st B g env m s u v,Rep P B g A st env σ m s->VR g u a->VR g v b->Bg A n ->
  Tr (fun _ c b=>c=Value.bool b) P n (compareOp op u v) A st B g env m s Q
section
variable {P:Pm} {n:Nat} {fx:Fx} {σ:Sto} {m:A8} {X:Xt}
theorem Tr.np {α β:Type} {R:Heap->α->β->Prop} {t:Sem α} {A:Around} {st:List Env} {B:Bs} {g g0:Heap} {env:Env} {s:Shared} {Q:β->Sto->Prop} (h:Tr R P n t A st B g env m s Q) (k:g0.StaysIn g) :
  wpAny (model P.prog P.w) A t (NP R P B A st env g0 (fun v σ' m'=>m'=m/\Q v σ')) (XP P B A st env g0 X) s:=
 Bf3 h (fun _ _ q=>q.mono k fun _ _ _ x=>x) fun _ _ q=>q.elim
theorem Ay7 {l r:Expr} {op:Operator} {pos:Pos} {Q:V->Sto->Prop} (h:Ev P n fx l σ m (fun a σ1=>Ev P n fx r σ1 m (fun b σ2=>Bo P n op a b σ2 Q) X) X):Ev P n fx (.BinOp l op r pos) σ m Q X:=
 fun A st B g env s he hr hm=>wpAny_BinOp (Bf3 (h A st B g env s he hr hm) (fun u s1 qA=>by
  obtain ⟨g1,σ1,m1,a,hg1,hr1,hv1,hm1,hq1⟩:=qA
  subst hm1
  exact Bf3 (hq1 A st B g1 env s1 he hr1 hm) (fun v s2 qB=>by
   obtain ⟨g2,σ2,m2,b,hg2,hr2,hv2,hm2,hq2⟩:=qB
   subst hm2
   exact Tr.np (hq2 A st B g2 env _ s2 u v hr2 (hv1.mono hg2) hv2 hm) (A3 hg1 hg2)) fun _ _ q=>q.mono hg1 fun _ _ _ x=>x) fun _ _ q=>q)
theorem Axx {l r op pos Q} (h:Ev P n fx l σ m (fun a σ1=>Ev P n fx r σ1 m (fun b σ2=>Co P n op a b σ2 (fun c σ3=>Q (.bool c) σ3)) X) X)
  (hb:Br0 op r=false):Ev P n fx (.Compare l [op] [r] pos) σ m Q X:=
 fun A st B g env s he hr hm=>wpAny_Compare1 (Bf3 (h A st B g env s he hr hm) (fun u s1 qC=>by
  obtain ⟨g1,σ1,m1,a,hg1,hr1,hv1,hm1,hq1⟩:=qC
  subst hm1
  exact Bf3 (hq1 A st B g1 env s1 he hr1 hm) (fun v s2 qD=>by
   obtain ⟨g2,σ2,m2,b,hg2,hr2,hv2,hm2,hq2⟩:=qD
   subst hm2
   refine Bf3 (hq2 A st B g2 env _ s2 u v hr2 (hv1.mono hg2) hv2 hm) (fun c s3 qM=>?_) fun _ _ q=>q.elim
   obtain ⟨g3,σ3,m3,b3,hg3,hr3,hv3,hm3,hq3⟩:=qM
   subst hv3
   exact ⟨g3,σ3,m3,_,A3 hg1 (A3 hg2 hg3),hr3,.bool _,hm3,hq3⟩) fun _ _ q=>q.mono hg1 fun _ _ _ x=>x) fun _ _ q=>q) hb
theorem Ay3 {l r op pos Q} (h:Ev P n fx l σ m (fun a σ1=>Ev P n fx r σ1 m (fun b σ2=>Co P n op a b σ2 Q) X) X)
  (hb:Br0 op r=false):Tt P n fx (.Compare l [op] [r] pos) σ m Q X:=
 fun A st B g env s he hr hm=>wpAny_isTrue_Compare1 (Bf3 (h A st B g env s he hr hm) (fun u s1 qF=>by
  obtain ⟨g1,σ1,m1,a,hg1,hr1,hv1,hm1,hq1⟩:=qF
  subst hm1
  exact Bf3 (hq1 A st B g1 env s1 he hr1 hm) (fun v s2 qG=>by
   obtain ⟨g2,σ2,m2,b,hg2,hr2,hv2,hm2,hq2⟩:=qG
   subst hm2
   refine Bf3 (hq2 A st B g2 env _ s2 u v hr2 (hv1.mono hg2) hv2 hm) (fun c s3 qM=>?_) fun _ _ q=>q.elim
   obtain ⟨g3,σ3,m3,b3,hg3,hr3,hv3,hm3,hq3⟩:=qM
   subst hv3
   exact Bs2 ⟨g3,σ3,m3,_,A3 hg1 (A3 hg2 hg3),hr3,rfl,hm3,hq3⟩) fun _ _ q=>q.mono hg1 fun _ _ _ x=>x) fun _ _ q=>q) hb
theorem Awd {l r1 r2 op1 op2 pos Q} (h:Ev P n fx l σ m (fun a σ1=>Ev P n fx r1 σ1 m (fun b σ2=>Co P n op1 a b σ2 (fun c σ3=>if c then Ev P n fx r2 σ3 m (fun d σ4=>Co P n op2 b d σ4 Q) X else Q false σ3)) X) X)
  (hb1:Br0 op1 r1=false) (hb2:Br0 op2 r2=false):Tt P n fx (.Compare l [op1,op2] [r1,r2] pos) σ m Q X:=
 fun A st B g env s he hr hm=>by
  show wpAny _ _ (do testChain pos (<- eval l env) [op1,op2] [eval r1 env,markedBehindIn op2 r2 (eval r2 env)]) _ _ _
  rw [markedBehindIn_of_false hb2]
  refine Be9 (Bf3 (h A st B g env s he hr hm) (fun u s1 qM=>?_) fun _ _ q=>q)
  obtain ⟨g1,σ1,m1,a,hg1,hr1,hv1,hm1,hq1⟩:=qM
  subst hm1
  refine Be9 (Bl1 (Bf3 (hq1 A st B g1 env s1 he hr1 hm) (fun v s2 qM=>?_) fun _ _ q=>q.mono hg1 fun _ _ _ x=>x))
  obtain ⟨g2,σ2,m2,b,hg2,hr2,hv2,hm2,hq2⟩:=qM
  subst hm2
  refine Be9 (Bo3 (Be9 (Bl1 (Bf3 (hq2 A st B g2 env _ s2 u v hr2 (hv1.mono hg2) hv2 hm) (fun c s3 qM=>?_) fun _ _ q=>q.elim))))
  obtain ⟨g3,σ3,m3,b3,hg3,hr3,hv3,hm3,hq3⟩:=qM
  subst hv3
  subst hm3
  refine Be9 (wpAny_release (Be9 (Bl1 (Bs2 ?_))))
  have hgg:g.StaysIn g3:=A3 hg1 (A3 hg2 hg3)
  cases b3 with
  | false=>exact Bf6 ⟨g3,σ3,_,false,hgg,hr3,rfl,rfl,hq3⟩
  | true=>
   simp only [if_true]
   refine Be9 (Bl1 (Bf3 (hq3 A st B g3 env s3 he hr3 hm) (fun w s4 qM=>?_) fun _ _ q=>q.mono hgg fun _ _ _ x=>x))
   obtain ⟨g4,σ4,m4,d,hg4,hr4,hv4,hm4,hq4⟩:=qM
   subst hm4
   refine Be9 (Bo3 (Be9 (wpAny_operate' (Bf3 (hq4 A st B g4 env _ s4 v w hr4 ((hv2.mono hg3).mono hg4) hv4 hm) (fun c s5 qM=>?_) fun _ _ q=>q.elim))))
   obtain ⟨g5,σ5,m5,b5,hg5,hr5,hv5,hm5,hq5⟩:=qM
   subst hv5
   exact Bl1 (Bs2 ⟨g5,σ5,m5,_,A3 hgg (A3 hg4 hg5),hr5,rfl,hm5,hq5⟩)
theorem Azg {i j Q} (h:Q (.int (i + j)) σ):Bo P n .Add (.int i) (.int j) σ Q:=
 fun A st B g env m s u v hr hu hv hm=>by obtain ⟨_,rfl⟩:=hu.inv; obtain ⟨_,rfl⟩:=hv.inv; exact add_int ⟨g,σ,m,_,A2 g,hr.tok _,.int _ _,rfl,h⟩
theorem Ayj {i j Q} (h:Q (.int (i - j)) σ):Bo P n .Sub (.int i) (.int j) σ Q:=
 fun A st B g env m s u v hr hu hv hm=>by obtain ⟨_,rfl⟩:=hu.inv; obtain ⟨_,rfl⟩:=hv.inv; exact sub_int ⟨g,σ,m,_,A2 g,hr.tok _,.int _ _,rfl,h⟩
theorem Au4 {i j Q} (h:Q (.int (i * j)) σ) (hf:IntMulOk i j):Bo P n .Mult (.int i) (.int j) σ Q:=
 fun A st B g env m s u v hr hu hv hm=>by obtain ⟨_,rfl⟩:=hu.inv; obtain ⟨_,rfl⟩:=hv.inv; exact mul_int ⟨g,σ,m,_,A2 g,hr.tok _,.int _ _,rfl,h⟩ hf
theorem Au6 {i j Q} (hj:j≠0) (h:Q (.int (i.fmod j)) σ):Bo P n .Mod (.int i) (.int j) σ Q:=
 fun A st B g env m s u v hr hu hv hm=>by obtain ⟨_,rfl⟩:=hu.inv; obtain ⟨_,rfl⟩:=hv.inv; exact mod_int hj ⟨g,σ,m,_,A2 g,hr.tok _,.int _ _,rfl,h⟩
theorem Aqi {i j Q} (hj:j≠0) (hp:Bi9.divisionGoesByPylong i j=false) (h:Q (.int (i.fdiv j)) σ):Bo P n .FloorDiv (.int i) (.int j) σ Q:=
 fun A st B g env m s u v hr hu hv hm=>by obtain ⟨_,rfl⟩:=hu.inv; obtain ⟨_,rfl⟩:=hv.inv; exact floordiv_int hj ⟨g,σ,m,_,A2 g,hr.tok _,.int _ _,rfl,h⟩ (.inl hp)
theorem Aew {x y Q} (h:Q (.str (x ++ y)) σ) (hl:x.length + y.length<=sizeLine):Bo P n .Add (.str x) (.str y) σ Q:=
 fun A st B g env m s u v hr hu hv hm=>by obtain ⟨_,rfl⟩:=hu.inv; obtain ⟨_,rfl⟩:=hv.inv; exact add_str (fun t' tk=>⟨g,σ,m,_,A2 g,hr.tok _,.str _ _,rfl,h⟩) hl
theorem Arj {i j Q} (h:Q (decide (i < j)) σ):Co P n .Lt (.int i) (.int j) σ Q:=
 fun A st B g env m s u v hr hu hv hm=>by obtain ⟨_,rfl⟩:=hu.inv; obtain ⟨_,rfl⟩:=hv.inv; exact lt_int ⟨g,σ,m,_,A2 g,hr,rfl,rfl,h⟩
theorem Ahm {i j Q} (h:Q (decide (j < i)) σ):Co P n .Gt (.int i) (.int j) σ Q:=
 fun A st B g env m s u v hr hu hv hm=>by obtain ⟨_,rfl⟩:=hu.inv; obtain ⟨_,rfl⟩:=hv.inv; exact gt_int ⟨g,σ,m,_,A2 g,hr,rfl,rfl,h⟩
theorem Ajo {i j Q} (h:Q (decide (i<=j)) σ):Co P n .LtE (.int i) (.int j) σ Q:=
 fun A st B g env m s u v hr hu hv hm=>by obtain ⟨_,rfl⟩:=hu.inv; obtain ⟨_,rfl⟩:=hv.inv; exact le_int ⟨g,σ,m,_,A2 g,hr,rfl,rfl,h⟩
theorem Bbb {i j Q} (h:Q (decide (j<=i)) σ):Co P n .GtE (.int i) (.int j) σ Q:=
 fun A st B g env m s u v hr hu hv hm=>by obtain ⟨_,rfl⟩:=hu.inv; obtain ⟨_,rfl⟩:=hv.inv; exact ge_int ⟨g,σ,m,_,A2 g,hr,rfl,rfl,h⟩
theorem Abx {i j Q} (h:Q (decide (i=j)) σ):Co P n .Eq (.int i) (.int j) σ Q:=
 fun A st B g env m s u v hr hu hv hm=>by
  obtain ⟨_,rfl⟩:=hu.inv; obtain ⟨_,rfl⟩:=hv.inv; exact eq_int ⟨g,σ,m,_,A2 g,hr,rfl,rfl,by rw [show (i == j)=decide (i=j) from by by_cases e:i=j <;> simp [e]]; exact h⟩
theorem Amh {i j Q} (h:Q (decide (i≠j)) σ):Co P n .NotEq (.int i) (.int j) σ Q:=
 fun A st B g env m s u v hr hu hv hm=>by
  obtain ⟨_,rfl⟩:=hu.inv; obtain ⟨_,rfl⟩:=hv.inv; exact ne_int ⟨g,σ,m,_,A2 g,hr,rfl,rfl,by rw [show (i != j)=decide (i≠j) from by by_cases e:i=j <;> simp [e]]; exact h⟩
theorem Aw {i j Q} (h:Q (decide (i=j)) σ):Co P n .Eq (.str i) (.str j) σ Q:=
 fun A st B g env m s u v hr hu hv hm=>by
  obtain ⟨_,rfl⟩:=hu.inv; obtain ⟨_,rfl⟩:=hv.inv; exact eq_str ⟨g,σ,m,_,A2 g,hr,rfl,rfl,by rw [show (i == j)=decide (i=j) from by by_cases e:i=j <;> simp [e]]; exact h⟩
theorem Anj {i j Q} (h:Q (decide (i≠j)) σ):Co P n .NotEq (.str i) (.str j) σ Q:=
 fun A st B g env m s u v hr hu hv hm=>by
  obtain ⟨_,rfl⟩:=hu.inv; obtain ⟨_,rfl⟩:=hv.inv; exact ne_str ⟨g,σ,m,_,A2 g,hr,rfl,rfl,by rw [show (i != j)=decide (i≠j) from by by_cases e:i=j <;> simp [e]]; exact h⟩
theorem isN {g u a} (h:VR g u a):(u == Value.none)=decide (a=V.none):=by
 induction h using VR.casesOn with
 | none=>exact (decide_eq_true rfl).symm
 | _=>exact (decide_eq_false (tgN rfl)).symm
theorem Bbd {a Q} (h:Q (decide (a=.none)) σ):Co P n .Is a .none σ Q:=
 fun A st B g env m s u v hr hu hv hm=>by
  obtain ⟨_,rfl⟩:=hv.inv
  refine is_none ⟨g,σ,m,_,A2 g,hr,rfl,rfl,?_⟩
  rw [isN hu]; exact h
theorem Asb {a Q} (h:Q (decide (a≠.none)) σ):Co P n .IsNot a .none σ Q:=
 fun A st B g env m s u v hr hu hv hm=>by
  obtain ⟨_,rfl⟩:=hv.inv
  refine isNot_none ⟨g,σ,m,_,A2 g,hr,rfl,rfl,?_⟩
  rw [isN hu,<- decide_not]; exact h
theorem Ayi {i k p pos Q} (h:Q (.int (-i)) σ):Ev P n fx (.UnaryOp .USub (.Constant (.int i) k p) pos) σ m Q X:=
 fun A st B g env s he hr hm=>wpAny_UnaryOp (Cm2 (neg_int ⟨g,σ,m,_,A2 g,hr.tok _,.int _ _,rfl,h⟩))
end
inductive RcB (A:Around) (s:Shared) (u v:Value) (b:Bool):Prop
 | mk (h1:Cj9 A s u v b) (h2:Cg0 A s u v (!b))
theorem rbB {A s u v b c} (h:Cj9 A s u v b) (h':Cg0 A s u v (!b)) (e:b=c):RcB A s u v c:=e ▸ ⟨h,h'⟩
theorem rbF {A:Around} {s:Shared} {u v:Value} {a b:V} (h:Cj9 A s u v false) (h':Cg0 A s u v true) (n:Nat.beq a.tg b.tg=false):RcB A s u v (decide (a=b)):=rbB h h' (decide_eq_false (tgN n)).symm
theorem rbT {A:Around} {s:Shared} {u v:Value} {a:V} (h:Cj9 A s u v true) (h':Cg0 A s u v false):RcB A s u v (decide (a=a)):=rbB h h' (decide_eq_true rfl).symm
open SeqAt in
theorem VR.rcB {A:Around} {s:Shared} {u v:Value} {a b:V} (ra:VR s.heap u a) (rb:VR s.heap v b) (ha:a.dat=true) (hb:b.dat=true) (hu:A.units + min a.dep b.dep < cLine):RcB A s u v (decide (a=b)):=by
 induction ra using VR.casesOn with
 | none=>
  induction rb using VR.casesOn with
  | none=>exact rbT RcAt.none_none RcNeAt.none_none
  | int y u=>exact rbF (RcAt.none_int y u) (RcNeAt.none_int y u) rfl
  | str y u=>exact rbF (RcAt.none_str y u) (RcNeAt.none_str y u) rfl
  | lst k1 k2 k3 k4=>exact rbF (RcAt.none_list ⟨_,k1,k2,_,k3⟩ (room_here hu)) (RcNeAt.none_list ⟨_,k1,k2,_,k3⟩ (room_here hu)) rfl
  | tup k1 k2 k3 k4=>exact rbF (RcAt.none_tuple ⟨_,k1,k2,_,k3⟩ (room_here hu)) (RcNeAt.none_tuple ⟨_,k1,k2,_,k3⟩ (room_here hu)) rfl
  | _=>exact absurd hb Bg6
 | int x t=>
  induction rb using VR.casesOn with
  | none=>exact rbF (RcAt.int_none x t) (RcNeAt.int_none x t) rfl
  | int y u=>exact rbB (RcAt.int_int x t y u) (RcNeAt.int_int x t y u) (Aqe x y)
  | str y u=>exact rbF (RcAt.int_str x t y u) (RcNeAt.int_str x t y u) rfl
  | lst k1 k2 k3 k4=>exact rbF (RcAt.int_list x t ⟨_,k1,k2,_,k3⟩ (room_here hu)) (RcNeAt.int_list x t ⟨_,k1,k2,_,k3⟩ (room_here hu)) rfl
  | tup k1 k2 k3 k4=>exact rbF (RcAt.int_tuple x t ⟨_,k1,k2,_,k3⟩ (room_here hu)) (RcNeAt.int_tuple x t ⟨_,k1,k2,_,k3⟩ (room_here hu)) rfl
  | _=>exact absurd hb Bg6
 | str x t=>
  induction rb using VR.casesOn with
  | none=>exact rbF (RcAt.str_none x t) (RcNeAt.str_none x t) rfl
  | int y u=>exact rbF (RcAt.str_int x t y u) (RcNeAt.str_int x t y u) rfl
  | str y u=>exact rbB (RcAt.str_str x t y u) (RcNeAt.str_str x t y u) (Arh x y)
  | lst k1 k2 k3 k4=>exact rbF (RcAt.str_list x t ⟨_,k1,k2,_,k3⟩ (room_here hu)) (RcNeAt.str_list x t ⟨_,k1,k2,_,k3⟩ (room_here hu)) rfl
  | tup k1 k2 k3 k4=>exact rbF (RcAt.str_tuple x t ⟨_,k1,k2,_,k3⟩ (room_here hu)) (RcNeAt.str_tuple x t ⟨_,k1,k2,_,k3⟩ (room_here hu)) rfl
  | _=>exact absurd hb Bg6
 | @lst l o vs n xs h1 h2 h3 h4=>
  have hl:s.heap.IsList l vs:=⟨_,h1,h2,_,h3⟩
  induction rb using VR.casesOn with
  | none=>exact rbF (RcAt.list_none hl (room_here hu)) (RcNeAt.list_none hl (room_here hu)) rfl
  | int y u=>exact rbF (RcAt.list_int y u hl (room_here hu)) (RcNeAt.list_int y u hl (room_here hu)) rfl
  | str y u=>exact rbF (RcAt.list_str y u hl (room_here hu)) (RcNeAt.list_str y u hl (room_here hu)) rfl
  | tup k1 k2 k3 k4=>exact rbF (RcAt.list_tuple hl ⟨_,k1,k2,_,k3⟩ (room_here hu)) (RcNeAt.list_tuple hl ⟨_,k1,k2,_,k3⟩ (room_here hu)) rfl
  | @lst l' o' vs' n' ys k1 k2 k3 k4=>
   have hl':s.heap.IsList l' vs':=⟨_,k1,k2,_,k3⟩
   have n1:vs.size=xs.length:=Ah4 h4
   have n2:vs'.size=ys.length:=Ah4 k4
   have he:∀ j (j1:j < vs.size) (j2:j < vs'.size),EqAt A.in1 s vs[j] vs'[j] (decide (xs.getD j .none=ys.getD j .none)):=fun j j1 j2=>
     VRs.Axj xs ys A.in1 s vs.toList vs'.toList h4 k4 ha hb (room_in hu) j (Bg5 ▸ j1) (Bg5 ▸ j2)
   rw [Apn]
   by_cases hsz:vs.size=vs'.size
   · rw [<- Ahf (n1.symm.trans (hsz.trans n2)),<- n1]
     exact ⟨RcAt.lists hl hl' hsz (room_here hu) he,RcNeAt.lists hl hl' hsz (room_here hu) he⟩
   · rw [decide_eq_false (fun e=>hsz (by rw [n1,n2,e]))]
     exact ⟨RcAt.lists_lengths hl hl' (bne_iff_ne.mpr hsz) (room_here hu),RcNeAt.lists_lengths hl hl' (bne_iff_ne.mpr hsz) (room_here hu)⟩
  | _=>exact absurd hb Bg6
 | @tup l o vs n xs h1 h2 h3 h4=>
  have hl:s.heap.IsTuple l vs:=⟨_,h1,h2,_,h3⟩
  induction rb using VR.casesOn with
  | none=>exact rbF (RcAt.tuple_none hl (room_here hu)) (RcNeAt.tuple_none hl (room_here hu)) rfl
  | int y u=>exact rbF (RcAt.tuple_int y u hl (room_here hu)) (RcNeAt.tuple_int y u hl (room_here hu)) rfl
  | str y u=>exact rbF (RcAt.tuple_str y u hl (room_here hu)) (RcNeAt.tuple_str y u hl (room_here hu)) rfl
  | lst k1 k2 k3 k4=>exact rbF (RcAt.tuple_list hl ⟨_,k1,k2,_,k3⟩ (room_here hu)) (RcNeAt.tuple_list hl ⟨_,k1,k2,_,k3⟩ (room_here hu)) rfl
  | @tup l' o' vs' n' ys k1 k2 k3 k4=>
   have hl':s.heap.IsTuple l' vs':=⟨_,k1,k2,_,k3⟩
   have n1:vs.size=xs.length:=Ah4 h4
   have n2:vs'.size=ys.length:=Ah4 k4
   have he:∀ j (j1:j < vs.size) (j2:j < vs'.size),EqAt A.in1 s vs[j] vs'[j] (decide (xs.getD j .none=ys.getD j .none)):=fun j j1 j2=>
     VRs.Axj xs ys A.in1 s vs.toList vs'.toList h4 k4 ha hb (room_in hu) j (Bg5 ▸ j1) (Bg5 ▸ j2)
   rw [Apq]
   rw [<- Adp xs ys,<- n1,<- n2]
   exact ⟨RcAt.tuples hl hl' (room_here hu) he,RcNeAt.tuples hl hl' (room_here hu) he⟩
  | _=>exact absurd hb Bg6
 | _=>exact absurd ha Bg6
theorem VR.Bdz {A s u v a b} (ra:VR s.heap u a) (rb:VR s.heap v b) (ha:a.dat=true) (hb:b.dat=true) (hu:A.units + min a.dep b.dep < cLine):Cj9 A s u v (decide (a=b)):=by obtain ⟨h,_⟩:=VR.rcB ra rb ha hb hu; exact h
theorem VR.Bdx {A s u v a b} (ra:VR s.heap u a) (rb:VR s.heap v b) (ha:a.dat=true) (hb:b.dat=true) (hu:A.units + min a.dep b.dep < cLine):Cg0 A s u v (!decide (a=b)):=by obtain ⟨_,h⟩:=VR.rcB ra rb ha hb hu; exact h
inductive Dv (σ:Sto):V->V->Prop
 | val (d:V):Dv σ d d
 | loc {a:Addr} {ds:List V}:σ a=some (.list ds)->Dv σ (.loc a) (.lst ds)
section
variable {P:Pm} {n:Nat} {fx:Fx} {σ:Sto} {m:A8} {X:Xt}
theorem Dv.at {B g A st s a d u} (R:RepC P B g A st σ s) (x:Dv σ a d) (h:VR g u a):VR s.heap u d:=by
 cases x with
 | val=>exact h.mono R.fz
 | loc e=>
  obtain ⟨_,rfl⟩:=h.inv
  obtain ⟨_,_,o,h1,h2,items,k,h3,h4,_⟩:=R.sto _ _ e
  exact .lst h1 h2 h3 (h4.mono R.fz)
theorem Ahk {a b da db Q} (ha:Dv σ a da) (hb:Dv σ b db) (h:Q (decide (da=db)) σ) (h1:da.dat=true) (h2:db.dat=true) (hd:min da.dep db.dep<=40):Co P n .Eq a b σ Q:=
 fun A st B g env m s u v hr hu hv hm=>(ha.at hr.toRepC hu).Bdz (hb.at hr.toRepC hv) h1 h2 (ru hm.2.1 (Be8 hd (by decide))) _ _ _ _ ⟨g,σ,m,_,A2 g,hr,rfl,rfl,h⟩
theorem Afs {a b da db Q} (ha:Dv σ a da) (hb:Dv σ b db) (h:Q (!decide (da=db)) σ) (h1:da.dat=true) (h2:db.dat=true) (hd:min da.dep db.dep<=40):Co P n .NotEq a b σ Q:=
 fun A st B g env m s u v hr hu hv hm=>(ha.at hr.toRepC hu).Bdx (hb.at hr.toRepC hv) h1 h2 (ru hm.2.1 (Be8 hd (by decide))) _ _ _ _ ⟨g,σ,m,_,A2 g,hr,rfl,rfl,h⟩
theorem Acn:∀ {ds},V.Bf ds=true ↔ ∀ d∈ds,d.dat=true
 | []=>⟨fun _ d h=>(nomatch h),fun _=>rfl⟩
 | a :: r=>by
  show (a.dat && V.Bf r)=true ↔ _
  rw [Bg1,Acn (ds:=r),List.forall_mem_cons]
theorem Aps {A s v d} (hd:d.dat=true) (hv:VR s.heap v d) (Azw:d.dep<=40) (hu:A.units + 40 < cLine) {vs ds} (h:VRs s.heap vs ds) (hds:V.Bf ds=true) :
   ∃ e:Value->Bool,(∀ y∈vs,By8 A s y v (e y))/\vs.any e=decide (d∈ds):=by
 classical
 refine ⟨fun y=>decide (∃ a,VR s.heap y a/\a.dat=true/\a=d),fun y hy=>?_,?_⟩
 · obtain ⟨k,hk⟩:=List.mem_iff_getElem?.mp hy
   have hlt:k < ds.length:=by rw [<- h.length]; exact (Bf8.mp hk).1
   obtain ⟨y',w1,q1⟩:=h.get (Bf1 hlt)
   rw [hk] at w1; cases w1
   have q2:=Acn.mp hds _ (Bl7 hlt)
   have:=VR.Axj ds[k] d A s y v q1 hv q2 hd (Bg7 (Bf4 (Be8 (Bm4 ..) Azw) _) hu)
   have e0:(fun y=>decide (∃ a,VR s.heap y a/\a.dat=true/\a=d)) y=decide (ds[k]=d):=by
    by_cases e:ds[k]=d
    · rw [decide_eq_true e]; exact decide_eq_true ⟨_,q1,q2,e⟩
    · rw [decide_eq_false e]; exact decide_eq_false fun qA=>by obtain ⟨a',w1,w2,w3⟩:=qA; exact e ((VR.inj q1 w1 q2 w2).trans w3)
   rw [e0]
   exact this
 · induction ds generalizing vs with
   | nil=>cases h; simp
   | cons d0 ds0 ih=>
    cases h with
    | @cons v0 _ vs0 _ h t=>
      replace hds:=Bw7.mp hds
      rw [Ce1,ih t hds.2]
      by_cases e:d=d0
      · subst e
        rw [decide_eq_true (p:=∃ a,VR s.heap v0 a/\a.dat=true/\a=d) ⟨d,h,hds.1,rfl⟩]
        simp
      · rw [decide_eq_false (p:=∃ a,VR s.heap v0 a/\a.dat=true/\a=d) (fun qB=>by obtain ⟨a',w1,w2,w3⟩:=qB; exact e ((VR.inj h w1 hds.1 w2).trans w3).symm)]
        simp [e]
theorem Ahv {a b d ds Q} (ha:Dv σ a d) (hb:Dv σ b (.lst ds)) (h:Q (decide (d∈ds)) σ) (h1:d.dat=true) (h2:V.Bf ds=true) (hd:d.dep<=40):Co P n .In a b σ Q:=
 fun A st B g env m s u v hr hu hv hm=>by
  obtain ⟨l,items,rfl,hl,hi⟩:=(hb.at hr.toRepC hv).Atw
  obtain ⟨e,q1,q2⟩:=Aps (A:=A.in1) h1 (ha.at hr.toRepC hu) hd (ru1 hm.2.1 (by decide)) hi h2
  refine SeqAt.in_listAt e hl (fun y hy=>q1 y (by simpa using hy)) ⟨g,σ,m,_,A2 g,hr,rfl,rfl,?_⟩
  rw [<- Ce3,q2]; exact h
theorem Ap1 {a d ds Q} (ha:Dv σ a d) (h:Q (decide (d∈ds)) σ) (h1:d.dat=true) (h2:V.Bf ds=true) (hd:d.dep<=40):Co P n .In a (.tup ds) σ Q:=
 fun A st B g env m s u v hr hu hv hm=>by
  obtain ⟨l,items,rfl,hl,hi⟩:=(hv.mono hr.fz).isTup
  obtain ⟨e,q1,q2⟩:=Aps (A:=A.in1) h1 (ha.at hr.toRepC hu) hd (ru1 hm.2.1 (by decide)) hi h2
  refine SeqAt.in_tupleAt e hl (fun y hy=>q1 y (by simpa using hy)) ⟨g,σ,m,_,A2 g,hr,rfl,rfl,?_⟩
  rw [<- Ce3,q2]; exact h
theorem Afn {a d ds Q} (ha:Dv σ a d) (h:Q (!decide (d∈ds)) σ) (h1:d.dat=true) (h2:V.Bf ds=true) (hd:d.dep<=40):Co P n .NotIn a (.tup ds) σ Q:=
 fun A st B g env m s u v hr hu hv hm=>by
  obtain ⟨l,items,rfl,hl,hi⟩:=(hv.mono hr.fz).isTup
  obtain ⟨e,q1,q2⟩:=Aps (A:=A.in1) h1 (ha.at hr.toRepC hu) hd (ru1 hm.2.1 (by decide)) hi h2
  refine SeqAt.notIn_tupleAt e hl (fun y hy=>q1 y (by simpa using hy)) ⟨g,σ,m,_,A2 g,hr,rfl,rfl,?_⟩
  rw [<- Ce3,q2]; exact h
end
theorem Aab (slice:Expr) (o i:Value):∃ ops,subscripted slice false o i=operate ops (getItem o i):=by
 cases slice with
 | Slice a b c p=>
  cases c with
  | none=>exact ⟨_,rfl⟩
  | some c=>exact ⟨_,rfl⟩
 | _=>exact ⟨_,rfl⟩
noncomputable def oi:Option Nat->Option Int
 | none=>none
 | some k=>some (k:Int)
noncomputable def Su (P:Pm) (n:Nat) (c k:V) (σ:Sto) (Q:V->Sto->Prop):Prop:=
 ∀ A st B g env m s o i value slice,Rep P B g A st env σ m s->VR g o c->VR g i k->Bg A n->Tr VR P n (subscriptTail value slice o i) A st B g env m s Q
noncomputable def Pt (v:V) (p:Option Nat):Prop:=match p with | none=>v=.none | some a=>v=.int a
noncomputable def slc {α:Type} (lo hi:Option Nat) (ds:List α):List α:=(ds.take (hi.getD ds.length)).drop (lo.getD 0)
theorem Alf {α β:Type} (f:α->β) (lo hi:Option Nat) (ds:List α):slc lo hi (ds.map f)=(slc lo hi ds).map f:=by simp [slc,List.map_take,List.map_drop]
noncomputable def Sl (P:Pm) (n:Nat) (c a b:V) (σ:Sto) (Q:V->Sto->Prop):Prop:=
 ∀ A st B g env m s o sl va vb value slice,Rep P B g A st env σ m s->VR g o c->VR g va a->VR g vb b->s.heap.IsSliceOf sl va vb .none->Bg A n->Tr VR P n (subscriptTail value slice o (.ref sl)) A st B g env m s Q
theorem VRs.slc {g vs ds} (h:VRs g vs ds) (lo hi:Option Nat):VRs g (Mine.Internal.slc lo hi vs) (Mine.Internal.slc lo hi ds):=by
 unfold Mine.Internal.slc; rw [h.length]; exact (h.take _).drop _
theorem Pt.part {g a p v} (h:Pt a p) (hv:VR g v a):IsPart v (oi p):=by
 cases p with
 | none=>obtain rfl:=h; obtain ⟨_,rfl⟩:=hv.inv; exact .none
 | some k=>obtain rfl:=h; obtain ⟨_,rfl⟩:=hv.inv; exact .int _ _
set_option tactic.hygienic true in
theorem Aot (lo hi:Option Nat) (n:Nat):sliceBounds (oi lo) (oi hi) none n=(((min (lo.getD 0) n:Nat):Int),((min (hi.getD n) n:Nat):Int),1):=by
 have h1:(1:Int) > 0:=by decide
 cases lo <;> cases hi <;> simp only [sliceBounds,oi,Bz8,Bm2,h1,if_true]
 · simp
 · rename_i b
   have:¬ ((b:Int) < 0):=nn
   simp only [this,if_false,Bu8,and_true]; exact ⟨by rw [Nat.zero_min]; rfl,mx⟩
 · rename_i b
   have:¬ ((b:Int) < 0):=nn
   simp only [this,if_false,Bu8,and_true]; exact ⟨mx,by rw [Nat.min_self]⟩
 · rename_i a b
   have:¬ ((b:Int) < 0):=nn
   have h2:¬ ((a:Int) < 0):=nn
   simp only [this,h2,if_false,Bu8,and_true]; exact ⟨mx,mx⟩
theorem Ack {α:Type} (lo hi:Option Nat) (xs:List α):(xs.drop (min (lo.getD 0) xs.length)).take (min (hi.getD xs.length) xs.length - min (lo.getD 0) xs.length)=slc lo hi xs:=by
 unfold slc
 rw [<- Co5]
 have e:xs.take (min (hi.getD xs.length) xs.length)=xs.take (hi.getD xs.length):=by
   by_cases h:hi.getD xs.length<=xs.length
   · rw [Bs0 h]
   · rw [Cf3 (Cf4 h),Bu2 (Bh7 _),Bu2 (Cf4 h)]
 rw [e]
 by_cases h:lo.getD 0<=xs.length
 · rw [Bs0 h]
 · rw [Cf3 (Cf4 h),List.drop_of_length_le (by rw [Bn5]; exact Bm4 ..),List.drop_of_length_le (by rw [Bn5]; exact Be8 (Bm4 ..) (Cf4 h))]
theorem Asd (items:Array Value) (lo hi:Option Nat):slicePick items (oi lo) (oi hi) none=(slc lo hi items.toList).toArray:=by
 unfold slicePick
 rw [Aot]
 simp only [sliceRange_one,pick_run]
 rw [<- Bg5,Ack]
section
variable {prog:Program} {w:World} {A:Around} {E:Value->Shared->Prop} {s:Shared}
set_option tactic.hygienic true in
theorem Ao5 (lo hi:Option Nat) (n:Nat):Bz9 (oi lo) (oi hi) 1 (n:Int)=(((min (lo.getD 0) n:Nat):Int),((min (hi.getD n) n:Nat):Int)):=by
 unfold Bz9
 have h1:¬ ((1:Int) < 0):=by decide
 cases lo <;> cases hi <;> simp only [oi,Bz8,Bm2,h1,if_false]
 · simp
 · rename_i b
   have:¬ ((b:Int) < 0):=nn
   simp only [this,if_false,Bu8]; exact ⟨by rw [Nat.zero_min]; rfl,r15⟩
 · rename_i b
   have:¬ ((b:Int) < 0):=nn
   simp only [this,if_false,Bu8]; exact ⟨r15,by rw [Nat.min_self]⟩
 · rename_i a b
   have:¬ ((b:Int) < 0):=nn
   have h2:¬ ((a:Int) < 0):=nn
   simp only [this,h2,if_false,Bu8]; exact ⟨r15,r15⟩
theorem Anw (a b:Nat):Bu5 (a:Int) (b:Int) 1=b - a:=by
 unfold Bu5
 have h1:(1:Int) > 0:=by decide
 simp only [h1,if_true,Int.ediv_one]
 split
 · rw [Int.sub_add_cancel]; exact Int.toNat_sub ..
 · exact (Nat.sub_eq_zero_of_le (Bk9.mp (Bs6.mp ‹_›))).symm
theorem Afp {v p Q} (hv:IsPart v p) (h:Q p s):wpAny (model prog w) A (Bi9.Slice.slicePartIndex v) Q E s:=by
 cases hv with
 | none=>exact slicePart_none h
 | int i t=>exact slicePart_int h
theorem Afv {sl:Addr} {lo hi:Option Nat} {va vb:Value} {n:Nat} {Q:Int × Int × Nat->Shared->Prop} (hs:s.heap.IsSliceOf sl va vb .none) (pa:IsPart va (oi lo)) (pb:IsPart vb (oi hi))
  (h:Q (((min (lo.getD 0) n:Nat):Int),1,min (hi.getD n) n - min (lo.getD 0) n) s) :
  wpAny (model prog w) A (Bi9.Slice.sliceApplied (.ref sl) (pure (n:Int))) Q E s:=by
 obtain ⟨os,hos,hcs,hds⟩:=id hs
 unfold Bi9.Slice.sliceApplied Bi9.Slice.sliceFields
 refine Be9 (Be9 (Bt3 hos hds (x:=va) rfl (Be9 (Bt3 hos hds (x:=vb) rfl (Be9 (Bt3 hos hds (x:=.none) rfl (Bf6 ?_)))))))
 refine Be9 (slicePart_none ?_)
 show wpAny _ _ (if ((1:Int) == 0)=true then _ else _) _ _ s
 rw [if_neg (by decide)]
 refine Be9 (Afp pa (Be9 (Afp pb (Be9 (Bf6 ?_)))))
 show wpAny _ _ (match Bz9 (oi lo) (oi hi) 1 (n:Int) with | (lo,hi)=>pure (lo,(1:Int),Bu5 lo hi 1)) _ _ s
 rw [Ao5]
 show wpAny _ _ (pure (((min (lo.getD 0) n:Nat):Int),(1:Int),Bu5 ((min (lo.getD 0) n:Nat):Int) ((min (hi.getD n) n:Nat):Int) 1)) _ _ s
 rw [Anw]
 exact Bf6 h
theorem Aq1 (xs:Array Value) (a k:Nat):((Bi1 k).filterMap fun (j:Nat)=>xs[((a:Int) + (j:Int) * 1).toNat]?)=(xs.toList.drop a).take k:=by
 have e:(fun (k:Nat)=>xs[((a:Int) + (k:Int) * 1).toNat]?)=fun k=>xs[a + k]?:=by
  funext k
  have:((a:Int) + (k:Int) * 1).toNat=a + k:=by rw [Int.mul_one]; rfl
  rw [this]
 rw [e]
 have:=pick_run xs a k
 rw [List.filterMap_map] at this
 exact this
theorem Af2 {t sl items lo hi va vb Q} (ht:IsTup s.heap t items) (hs:s.heap.IsSliceOf sl va vb .none) (pa:IsPart va (oi lo)) (pb:IsPart vb (oi hi))
   (h0:slc lo hi items.toList=items.toList->Q (.ref t) s)
   (h:Q (.ref s.heap.objs.size) { s with heap:=s.heap.push { cls:=.type "tuple",data:=.seq (slc lo hi items.toList).toArray } })
   (hsz:items.size<=sizeLine):wpAny (model prog w) A (getItem (.ref t) (.ref sl)) Q E s:=by
 have Aod:sizeOk (.seq (slc lo hi items.toList).toArray):=by
   show (slc lo hi items.toList).toArray.size<=sizeLine
   unfold slc
   rw [Bp2,Bp0,Bn5,Bg5]
   exact Be8 (Bx8 ..) (Be8 (Bm4 ..) hsz)
 obtain ⟨os,hos,hcs,hds⟩:=id hs
 have hTs:s.TypeIs (.ref sl) "slice":=⟨os,hos,hcs⟩
 unfold getItem
 try with_reducible refine Bl1 ?_
 first | refine Be9 (Bf6 ?_) | skip
 refine Be9 (wpAny_sequenceKey ht.typeIs (by decide) ?_)
 refine Be9 (Bu4 (name:=Bf5 "__getitem__") ht.typeIs Cd8
   (Br4 Cd8 ht.typeIs entry_tuple_getitem ?_ (args_tuple_getitem _ _)))
 show wpAny _ _ (Bi9.Tuple.tupleItemsOf (.ref t) >>= _) _ _ s
 refine Be9 (tupleItemsOf_ ht ?_)
 refine Be9 (wpAny_typeOf hTs ?_)
 rw [if_pos (by decide)]
 refine Be9 (Afv hs pa pb ?_)
 have e:((Bi1 (min (hi.getD items.size) items.size - min (lo.getD 0) items.size)).filterMap fun (j:Nat)=>items[(((min (lo.getD 0) items.size:Nat):Int) + (j:Int) * 1).toNat]?)=slc lo hi items.toList:=by
   rw [Aq1,<- Bg5,Ack]
 by_cases hw:((((min (lo.getD 0) items.size:Nat):Int) == 0 && (1:Int) == 1 && (min (hi.getD items.size) items.size - min (lo.getD 0) items.size) == items.size)=true)
 · show wpAny _ _ (if ((((min (lo.getD 0) items.size:Nat):Int) == 0 && (1:Int) == 1 && (min (hi.getD items.size) items.size - min (lo.getD 0) items.size) == items.size)=true) then _ else _) _ _ s
   rw [if_pos hw]
   simp only [Bg1,beq_iff_eq] at hw
   have e2:slc lo hi items.toList=items.toList:=by
    rw [<- Ack,Bg5,hw.2,show min (lo.getD 0) items.size=0 from Bs1 hw.1.1,Bo9,<- Bg5,Bu2 (Bh7 _)]
   refine Be9 (m:=Bi9.Tuple.tupleIsExact _) ?_
   unfold Bi9.Tuple.tupleIsExact
   refine Be9 (wpAny_typeOf ht.typeIs (Bf6 ?_))
   rw [if_pos (by rfl)]
   exact Be9 (wpAny_rule (Bf6 ⟨_,rfl,Bf6 (h0 e2)⟩))
 · show wpAny _ _ (if ((((min (lo.getD 0) items.size:Nat):Int) == 0 && (1:Int) == 1 && (min (hi.getD items.size) items.size - min (lo.getD 0) items.size) == items.size)=true) then _ else _) _ _ s
   rw [if_neg hw,e]
   first
    | exact Be9 (m:=Bv5 _) (Bn9 (Bf6 ⟨_,rfl,Bf6 h⟩) Aod)
    | exact Be9 (m:=Bv5 _) (Bn9 (Be9 (Bf6 (Bf6 ⟨_,rfl,Bf6 h⟩))) Aod)
    | exact Be9 (Be9 (m:=Bv5 _) (Bn9 (Bf6 (Bf6 ⟨_,rfl,Bf6 h⟩)) Aod))
    | exact Be9 (Be9 (m:=Bv5 _) (Bn9 (Bf6 ⟨_,rfl,Bf6 h⟩) Aod))
end
section
variable {P:Pm} {n:Nat} {fx:Fx} {σ:Sto} {m:A8} {X:Xt}
theorem Av1 {value slice pos Q} (h:Ev P n fx value σ m (fun c σ1=>Ev P n fx slice σ1 m (fun k σ2=>Su P n c k σ2 Q) X) X):Ev P n fx (.Subscript value slice pos) σ m Q X:=
 fun A st B g env s he hr hm=>Subscript_ (Bf3 (h A st B g env s he hr hm) (fun u s1 qA=>by
  obtain ⟨g1,σ1,m1,a,hg1,hr1,hv1,hm1,hq1⟩:=qA
  subst hm1
  exact Bf3 (hq1 A st B g1 env s1 he hr1 hm) (fun v s2 qB=>by
   obtain ⟨g2,σ2,m2,b,hg2,hr2,hv2,hm2,hq2⟩:=qB
   subst hm2
   exact Tr.np (hq2 A st B g2 env _ s2 u v value slice hr2 (hv1.mono hg2) hv2 hm) (A3 hg1 hg2)) fun _ _ q=>q.mono hg1 fun _ _ _ x=>x) fun _ _ q=>q)
inductive LsP (s:Shared) (g:Heap) (o:Value) (ds:List V):Prop
 | mk (l:Addr) (items:Array Value) (e:o=.ref l) (h1:s.heap.IsList l items) (h2:VRs g items.toList ds)
theorem Dv.items {B g A st s c ds o} (R:RepC P B g A st σ s) (x:Dv σ c (.lst ds)) (h:VR g o c):LsP s g o ds:=by
 cases x with
 | val=>
  obtain ⟨l,items,e,hl,hv⟩:=h.Atw
  exact ⟨l,items,e,IsList.stays hl R.fz,hv⟩
 | loc e=>
  obtain ⟨_,rfl⟩:=h.inv
  obtain ⟨_,_,ob,h1,h2,items,k,h3,h4,_⟩:=R.sto _ _ e
  exact ⟨_,items,rfl,⟨ob,h1,h2,k,h3⟩,h4⟩
set_option tactic.hygienic true in
theorem Ab {c:V} {ds:List V} {k:Nat} {d:V} {Q:V->Sto->Prop} (hc:Dv σ c (.lst ds)) (hk:ds[k]?=some d) (h:Q d σ) (hf:k < 1000000:=by decide):Su P n c (.int k) σ Q:=
 fun A st B g env m s o i value slice hr ho hi hm=>by
  obtain ⟨_,rfl⟩:=hi.inv; rename_i tk0
  obtain ⟨l,items,rfl,hl,hv⟩:=hc.items hr.toRepC ho
  obtain ⟨ops,Aoe⟩:=Aab slice (.ref l) (.int k tk0)
  obtain ⟨x,hx,r⟩:=hv.get hk
  rw [Bj0] at hx
  exact Cm3 hl.typeIs Cn4.lookup (wpAny_getItem_list (k:=k) hl (Bk0 _) (tl hf (by decide)) (by simpa using hx) ⟨g,σ,m,d,A2 g,hr,r,rfl,h⟩) Aoe
set_option tactic.hygienic true in
theorem Acd {c ds d Q} (hc:Dv σ c (.lst ds)) (hk:ds.getLast?=some d) (h:Q d σ):Su P n c (.int (-1)) σ Q:=
 fun A st B g env m s o i value slice hr ho hi hm=>by
  obtain ⟨_,rfl⟩:=hi.inv; rename_i tk0
  obtain ⟨l,items,rfl,hl,hv⟩:=hc.items hr.toRepC ho
  obtain ⟨ops,Aoe⟩:=Aab slice (.ref l) (.int (-1) tk0)
  rw [List.getLast?_eq_getElem?] at hk
  have hlen:0 < ds.length:=Bg7 (Bh2 _) (Bf8.mp hk).1
  obtain ⟨x,hx,r⟩:=hv.get hk
  rw [Bj0] at hx
  have hs:items.size=ds.length:=Ah4 hv
  exact Cm3 hl.typeIs Cn4.lookup (wpAny_getItem_list_neg hl (by decide) (Cp3 (Bk9.mpr (hs ▸ hlen))) (by decide) (by rw [hs,show (-1 + (ds.length:Int)).toNat=ds.length - 1 from tm]; exact hx) ⟨g,σ,m,d,A2 g,hr,r,rfl,h⟩) Aoe
set_option tactic.hygienic true in
theorem A6 {ds:List V} {k:Nat} {d:V} {Q:V->Sto->Prop} (hk:ds[k]?=some d) (h:Q d σ) (hf:k < 1000000:=by decide):Su P n (.tup ds) (.int k) σ Q:=
 fun A st B g env m s o i value slice hr ho hi hm=>by
  obtain ⟨_,rfl⟩:=hi.inv; rename_i tk0
  obtain ⟨l,items,rfl,hl,hv⟩:=ho.isTup
  obtain ⟨ops,Aoe⟩:=Aab slice (.ref l) (.int k tk0)
  obtain ⟨x,hx,r⟩:=hv.get hk
  have ht:=IsTuple.stays hl hr.fz
  have hlt:k < items.size:=by
   rw [Bj0] at hx
   exact (Array.getElem?_eq_some_iff.mp hx).1
  exact Cm3 (IsTup.typeIs ht) Cd8.lookup (getItem_tuple ht (tn (by decide)) (tl hf (by decide)) (j:=k) (Ay5 hlt) (by rw [<- Bj0]; exact hx) ⟨g,σ,m,d,A2 g,hr,r,rfl,h⟩) Aoe
noncomputable def Pe (P:Pm) (n:Nat) (fx:Fx) (e:Option Expr) (σ:Sto) (m:A8) (Q:V->Sto->Prop) (X:Xt):Prop:=match e with
 | none=>Q .none σ
 | some e=>Ev P n fx e σ m Q X
theorem Pe.run {e Q} (h:Pe P n fx e σ m Q X):JS VR P n fx (fun env=>evalPart e env) σ m (fun v σ' m'=>m'=m/\Q v σ') X:=by
 cases e with
 | none=>exact fun A st B g env s he hr hm=>Bf6 ⟨g,σ,m,_,A2 g,hr,.none,rfl,h⟩
 | some e=>exact h
theorem Asv {value lo hi p pos Q} (h:Ev P n fx value σ m (fun c σ1=>Pe P n fx lo σ1 m (fun a σ2=>Pe P n fx hi σ2 m (fun b σ3=>Sl P n c a b σ3 Q) X) X) X) :
  Ev P n fx (.Subscript value (.Slice lo hi none p) pos) σ m Q X:=
 fun A st B g env s he hr hm=>Subscript_ (Bf3 (h A st B g env s he hr hm) (fun u s1 qC=>by
  obtain ⟨g1,σ1,m1,a,hg1,hr1,hv1,hm1,hq1⟩:=qC
  subst hm1
  refine wpAny_Slice (Bf3 (hq1.run A st B g1 env s1 he hr1 hm) (fun v s2 qM=>?_) fun _ _ q=>q.mono hg1 fun _ _ _ x=>x)
  obtain ⟨g2,σ2,m2,b,hg2,hr2,hv2,hm2,hq2⟩:=qM
  subst hm2
  refine Bf3 (hq2.run A st B g2 env s2 he hr2 hm) (fun w s3 qM=>?_) fun _ _ q=>q.mono (A3 hg1 hg2) fun _ _ _ x=>x
  obtain ⟨g3,σ3,m3,c,hg3,hr3,hv3,hm3,hq3⟩:=qM
  subst hm3
  rw [evalPart_none]
  refine Bf6 ?_
  exact Tr.np (hq3 A st B g3 env _ { s3 with heap:=_ } u _ _ _ value _ (hr3.stays (Aa3 s3.heap _) s3.toks) ((hv1.mono hg2).mono hg3) (hv2.mono hg3) hv3 (Heap.IsSliceOf.new ..) hm) (A3 hg1 (A3 hg2 hg3))) fun _ _ q=>q)
theorem Aq8 {c a b ds lo hi Q} (hc:Dv σ c (.lst ds)) (ha:Pt a lo) (hb:Pt b hi) (h:Q (.lst (slc lo hi ds)) σ) (hl:ds.length<=100000):Sl P n c a b σ Q:=
 fun A st B g env m s o sl va vb value slice hr ho hva hvb hs hm=>by
  obtain ⟨l,items,rfl,hli,hv⟩:=hc.items hr.toRepC ho
  obtain ⟨ops,Aoe⟩:=Aab slice (.ref l) (.ref sl)
  have hsz:items.size<=sizeLine:=by
   rw [Ah4 hv,Bn6]; exact Be8 hl (by decide)
  refine Cm3 hli.typeIs Cn4.lookup (wpAny_getItem_list_slice hli hs (ha.part hva) (hb.part hvb) .none (by simp) ?_ hsz) Aoe
  obtain ⟨g2,hg2,ho2,R2⟩:=hr.Aap { cls:=.type "list",data:=.seq (slicePick items (oi lo) (oi hi) none) } rfl (fun f=>by have q:Value.type "list"=Value.type "frame":=f.1; exact absurd q (by decide)) s.toks
  refine ⟨g2,σ,m,_,hg2,R2,.lst ho2 rfl rfl ?_,rfl,h⟩
  rw [Asd]
  exact (hv.slc lo hi).mono hg2
theorem Amx {a b ds lo hi Q} (ha:Pt a lo) (hb:Pt b hi) (h:Q (.tup (slc lo hi ds)) σ) (hl:ds.length<=100000):Sl P n (.tup ds) a b σ Q:=
 fun A st B g env m s o sl va vb value slice hr ho hva hvb hs hm=>by
  have ho':=ho
  obtain ⟨l,items,rfl,hli,hv⟩:=ho.isTup
  obtain ⟨ops,Aoe⟩:=Aab slice (.ref l) (.ref sl)
  have hsz:items.size<=sizeLine:=by
    rw [Ah4 hv,Bn6]; exact Be8 hl (by decide)
  have ht:=IsTuple.stays hli hr.fz
  have hv2:=hv.slc lo hi
  refine Cm3 (IsTup.typeIs ht) Cd8.lookup (Af2 ht hs (ha.part hva) (hb.part hvb) (fun e=>?_) ?_ hsz) Aoe
  · refine ⟨g,σ,m,_,A2 g,hr,?_,rfl,h⟩
    rw [e] at hv2
    obtain ⟨o1,q1,q2,q3,q4⟩:=hli
    exact .tup q1 q2 q4 hv2
  · obtain ⟨g2,hg2,ho2,R2⟩:=hr.Aap { cls:=.type "tuple",data:=.seq (slc lo hi items.toList).toArray } rfl (fun f=>by have q:Value.type "tuple"=Value.type "frame":=f.1; exact absurd q (by decide)) s.toks
    exact ⟨g2,σ,m,_,hg2,R2,.tup ho2 rfl rfl (by simpa using hv2.mono hg2),rfl,h⟩
theorem Azb {f vs Q Y} (h:Fn P n f vs σ (fun v σ'=>∃ σ'',(∀ a x,σ'' a=some x->σ' a=some x)/\Q v σ'') (fun y σ'=>∃ σ'',(∀ a x,σ'' a=some x->σ' a=some x)/\Y y σ'')):Fn P n f vs σ Q Y:=
 fun A st B g s vals hr hv hm=>Bp5 (h A st B g s vals hr hv hm) fun r s' q=>by
  cases r with
  | ok f=>
   cases f with
   | ret v=>obtain ⟨g',σ',d,a,b,c,σ'',e1,e2⟩:=q; exact ⟨g',σ'',d,a,b.forget e1,c,e2⟩
   | _=>exact q
  | error e=>obtain ⟨g',σ',why,ea,a,b,c,d,σ'',e1,e2⟩:=q; exact ⟨g',σ'',why,ea,a,b.forget e1,c,d,e2⟩
end
inductive Tv (σ:Sto):V->Bool->Prop
 | bool (b:Bool):Tv σ (.bool b) b
 | list {c:V} {ds:List V}:Dv σ c (.lst ds)->ds.length<=100000->Tv σ c (!ds.isEmpty)
section
variable {P:Pm} {n:Nat} {fx:Fx} {σ:Sto} {m:A8} {X:Xt}
set_option tactic.hygienic true in
theorem Tv.run {A st B g env s v c b Q} (hr:Rep P B g A st env σ m s) (hv:VR g v c) (ht:Tv σ c b) (h:Q b σ):Tr EqR P n (truthy v) A st B g env m s Q:=by
 induction ht using Tv.casesOn with
 | bool b=>obtain ⟨_,rfl⟩:=hv.inv; exact Bs2 ⟨g,σ,m,b,A2 g,hr,rfl,rfl,h⟩
 | list hc hl=>
  obtain ⟨l,items,rfl,hli,hi⟩:=hc.items hr.toRepC hv
  have e:items.size=_:=(Bg5 (xs:=items)).symm.trans hi.length
  refine wpAny_truthy_list hli (by rw [e]; exact tk hl (by decide)) ⟨g,σ,m,_,A2 g,hr.tok _,rfl,rfl,?_⟩
  rename_i ds
  have e2:items.isEmpty=ds.isEmpty:=by
   rw [Bv7,Array.isEmpty_iff_size_eq_zero,e,List.isEmpty_iff,Br3]
  rw [e2]; exact h
theorem Axu {e Q} (h:Ev P n fx e σ m (fun v σ'=>∃ b,Tv σ' v b/\Q b σ') X)
  (hi:∀ env whole,isTrue e env whole=(do let v <- whole; Cb7 e.pos; holding [v] (truthy v)):=by intro _ _; rfl):Tt P n fx e σ m Q X:=
 fun A st B g env s he hr hm=>wpAny_isTrue_value (Bf3 (h A st B g env s he hr hm) (fun v s1 qA=>by
  obtain ⟨g1,σ1,m1,a,hg1,hr1,hv1,hm1,b,hb,hq⟩:=qA
  subst hm1
  exact Tr.np (n:=n) (hb.run hr1 hv1 hq) hg1) fun _ _ q=>q) (hi env _)
theorem Ayb {x y pos Q} (h:Ev P n fx x σ m (fun v σ'=>∃ b,Tv σ' v b/\if b then Ev P n fx y σ' m Q X else Q v σ') X):Ev P n fx (.BoolOp .And [x,y] pos) σ m Q X:=
 fun A st B g env s he hr hm=>wpAny_And2 (Bf3 (h A st B g env s he hr hm) (fun v s1 qB=>by
  obtain ⟨g1,σ1,m1,a,hg1,hr1,hv1,hm1,b,hb,hq⟩:=qB
  subst hm1
  refine Bf3 (hb.run (n:=n) (Q:=fun b' σ'=>b'=b/\σ'=σ1) hr1 hv1 ⟨rfl,rfl⟩) (fun t s2 qM=>?_) fun _ _ q=>q.elim
  obtain ⟨g2,σ2,m2,b2,hg2,hr2,hv2,hm2,e1,e2⟩:=qM
  subst hm2; subst e1; subst e2
  obtain rfl:t=b2:=hv2
  cases t with
  | true=>exact Bf3 (hq A st B g2 env s2 he hr2 hm) (fun _ _ q=>q.mono (A3 hg1 hg2) fun _ _ _ x=>x) fun _ _ q=>q.mono (A3 hg1 hg2) fun _ _ _ x=>x
  | false=>exact ⟨g2,_,_,_,A3 hg1 hg2,hr2,hv1.mono hg2,rfl,hq⟩) fun _ _ q=>q)
theorem Aa1 {c ds Q} (hc:Dv σ c (.lst ds)) (hl:ds.length<=100000) (h:Q (.int ds.length) σ):Bt P n (.builtin "len") [c] σ Q:=
 fun A st B g env m s vals hr hv hm=>by
  replace hv:=hv.inv; obtain ⟨_,_,rfl,hv,t⟩:=hv
  ·
   cases t
   obtain ⟨l,items,rfl,hli,hi⟩:=hc.items hr.toRepC hv
   have e:items.size=ds.length:=(Bg5 (xs:=items)).symm.trans hi.length
   refine len_list hli (by rw [e]; exact tk hl (by decide)) ⟨g,σ,m,_,A2 g,hr.tok _,?_,rfl,h⟩
   rw [<- e]; exact .int _ _
theorem Af5 {ds Q} (hl:ds.length<=100000) (h:Q (.int ds.length) σ):Bt P n (.builtin "len") [.tup ds] σ Q:=
 fun A st B g env m s vals hr hv hm=>by
  replace hv:=hv.inv; obtain ⟨_,_,rfl,hv,t⟩:=hv
  ·
   cases t
   obtain ⟨l,items,rfl,hli,hi⟩:=hv.isTup
   have e:items.size=ds.length:=(Bg5 (xs:=items)).symm.trans hi.length
   refine len_tuple (IsTuple.stays hli hr.fz) (by rw [e]; exact tk hl (by decide)) ⟨g,σ,m,_,A2 g,hr.tok _,?_,rfl,h⟩
   rw [<- e]; exact .int _ _
theorem VRs.ints {g}:∀ {vs ns},VRs g vs (ns.map .int)->IntsAre vs ns
 | _,[],h=>by cases h; exact .nil
 | _,k :: ns,h=>by
  replace h:=h.inv; obtain ⟨_,_,rfl,a,t⟩:=h
  · obtain ⟨_,rfl⟩:=a.inv; exact .cons _ _ (VRs.ints t)
theorem Afd {a b Q} (h:Q (.int (min a b)) σ):Bt P n (.builtin "min") [.int a,.int b] σ Q:=
 fun A st B g env m s vals hr hv hm=>by
  replace hv:=hv.inv; obtain ⟨_,_,rfl,ha,t⟩:=hv
  ·
   replace t:=t.inv; obtain ⟨_,_,rfl,hb,t⟩:=t
   ·
    cases t; obtain ⟨_,rfl⟩:=ha.inv; obtain ⟨_,rfl⟩:=hb.inv
    refine min_two_ints hm.2.2 fun h' tk hk=>⟨g,σ,m,_,A2 g,hr.stays hk tk,?_,rfl,h⟩
    by_cases e:b < a
    · rw [if_pos e,Int.min_eq_right (Cl9 e)]; exact .int _ _
    · rw [if_neg e,Int.min_eq_left (Bs6.mp e)]; exact .int _ _
theorem Arx {c:V} {ns:List Int} {Q:V->Sto->Prop} (hc:Dv σ c (.lst (ns.map .int))) (hn:0 < ns.length) (h:∀ M,M∈ns->(∀ a∈ns,M<=a)->Q (.int M) σ):Bt P n (.builtin "min") [c] σ Q:=
 fun A st B g env m s vals hr hv hm=>by
  replace hv:=hv.inv; obtain ⟨_,_,rfl,hv,t⟩:=hv
  ·
   cases t
   obtain ⟨l,items,rfl,hl,hi'⟩:=hc.items hr.toRepC hv
   have hi:=hi'.ints
   obtain ⟨xs,e⟩:=hi.allInts.items
   have hns:ns=xs.toList.map (·.1):=by
     rw [<- hi.numsOf,<- nums_intItems,<- e]
   have hsz:0 < xs.size:=by
     have h3:=hn; rw [hns,Bf0,Bg5] at h3; exact h3
   have e0:items=intItems xs:=by rw [<- e]
   rw [e0] at hl
   refine min_intList hm.2.2 hl hsz fun v h' tk hv hk=>?_
   obtain ⟨t,rfl⟩:=intItems_at hv
   obtain ⟨h1,h2⟩:=argBest_lt (numAt xs) (xs.size - 1)
   refine ⟨g,σ,m,_,A2 g,hr.stays hk tk,.int _ _,rfl,h _ ?_ fun a ha=>?_⟩
   · rw [hns,numAt_eq]; exact getD_mem (by rw [Bf0,Bg5]; exact Bg7 h1 (Nat.sub_lt hsz (by decide)))
   · rw [hns] at ha
     obtain ⟨j,hj,rfl⟩:=mem_getD ha
     rw [Bf0,Bg5] at hj
     rw [<- numAt_eq]; exact h2 j (Nat.le_sub_one_of_lt hj)
theorem Aa7 {c ds Q} (hc:Dv σ c (.lst ds)) (hl:ds.length<=100000) (h:Q (.tup ds) σ):Bt P n (.type "tuple") [c] σ Q:=
 fun A st B g env m s vals hr hv hm=>by
  replace hv:=hv.inv; obtain ⟨_,_,rfl,hv,t⟩:=hv
  ·
   cases t
   obtain ⟨l,items,rfl,hli,hi⟩:=hc.items hr.toRepC hv
   have e:items.size=ds.length:=(Bg5 (xs:=items)).symm.trans hi.length
   refine call_tuple_list hli (fun h' hk=>?_) (by rw [e]; exact sz hl)
   have R':=hr.stays hk s.toks
   obtain ⟨g2,hg2,ho2,R2⟩:=R'.Aap { cls:=.type "tuple",data:=.seq items } rfl (fun f=>by have q:Value.type "tuple"=Value.type "frame":=f.1; exact absurd q (by decide)) s.toks
   exact ⟨g2,σ,m,_,hg2,R2,.tup ho2 rfl rfl (hi.mono hg2),rfl,h⟩
noncomputable def BtI (P:Pm) (n:Nat) (en:Bool) (f:Value) (vs:List V) (σ:Sto) (Q:List V->Sto->Prop):Prop:=
 ∀ A st B g env m s vals,Rep P B g A st env σ m s->VRs g vals vs->Bg A n ->
  wpAny (model P.prog P.w) A (call f vals []) (fun x s₁=>wpAny (model P.prog P.w) A (pyIter x)
   (ItP P B A st env m g en none Q) (fun _ _=>False) s₁) (fun _ _=>False) s
theorem Az2 {en x np pos e es T Q} (hk:fx.sc.names.lookup x=some .globalImplicit) (hv:nsIn P.K Bl4 x=some none) (hb:Bs9 x=some (.type T))
  (h:Evs P n fx pos (e :: es) σ m (fun vs σ'=>BtI P n en (.type T) vs σ' Q) X) (hx:x≠"__name__") (hd:(x == ("__debug__" : Str))=false)
  (ha:∀ env,Bk6 (e :: es) env=(false,eval e env) :: Bk6 es env) (Ahb:∀ env,(By7 pos (Bk6 es env)).any (·.1)=false):Itr P n fx en (.Call (.Name x np) (e :: es) [] pos) σ m Q X:=
 fun A st B g env s he hr hm=>Bx0 (ldB he hr hk hv hb hx hd (by
  rw [show backToKw pos (Ck4 [] env)=[] from rfl]
  have hp:(By7 pos (Bk6 (e :: es) env)).any (·.1)=false:=by rw [ha]; show (false || (By7 pos (Bk6 es env)).any (·.1))=false; rw [Ahb]; rfl
  refine PyProof.Rows.callWith_type hp ?_
  have:=h A st B g env s he hr hm
  simp only [ha] at this ⊢
  refine Ca2 (Bf3 this (fun vs s' qM=>?_) fun _ _ q=>q)
  obtain ⟨g',σ',m',ds,hg,hr',hv,hm',hlen,hq⟩:=qM
  subst hm'
  exact Bf3 (hq A st B g' env _ s' vs hr' hv hm) (fun x s1 h1=>Bf3 h1 (fun v s2 qE=>by obtain ⟨g2,σ2,ds,it,a1,a2,a3,a4,a5⟩:=qE; exact ⟨g2,σ2,ds,it,A3 hg a1,a2,a3,a4,a5⟩) fun _ _ q=>q.elim) fun _ _ q=>q.elim))
theorem Aha {A:Around} {st:List Env} {B:Bs} {g:Heap} {env:Env} {s:Shared} {Q:List V->Sto->Prop} {a:Int} {k:Nat} {o o2:Obj} {tk:Nat} (hr:Rep P B g A st env σ m s) (hi:IsRangeIter ((s.heap.push o).push o2) (s.heap.push o).objs.size a k 1) (h:Q (Ai0 a k) σ) :
  ItP P B A st env m g false none Q (.ref (s.heap.push o).objs.size) { s with heap:=(s.heap.push o).push o2,toks:=tk }:=
 have n:s.heap.get? (s.heap.push o).objs.size=none:=Bn8 (by rw [Bu0]; exact Bm9 _)
 ⟨g,σ,_,_,A2 g,hr.stays (A3 (Aa3 _ _) (Aa3 _ _)) _,rfl,.rng hi (Aa2 hr.fz n) (Aa0 hr.keeps n),h⟩
theorem Aac {i:Int} {k:Nat} {Q:List V->Sto->Prop} (hi:i=k) (h:Q (Ai0 0 k) σ) (hk:k<=1000000):BtI P n false (.type "range") [.int i] σ Q:=
 fun A st B g env m s vals hr hv hm=>by
  subst hi
  replace hv:=hv.inv; obtain ⟨_,_,rfl,hv,t⟩:=hv
  ·
   cases t; obtain ⟨_,rfl⟩:=hv.inv
   refine call_range_1 ?_
   refine Cm1 (Cq2 ..) (small_one (by decide) (by decide) (tn (by decide)) (tk hk (by decide))) ?_
   have e:Cb2 0 (k:Int) 1=(k:Int):=by
    rw [rangeSize_one]; split
    · exact Int.sub_zero _
    · exact Cn8 (Bk0 _) (Bs6.mp ‹_›)
   exact Aha hr (by rw [e]; exact Bi4 _ rfl) h
theorem Apl {a j:Int} {k:Nat} {Q:List V->Sto->Prop} (hj:j=a + k) (h:Q (Ai0 a k) σ) (h1:-1000000<=a) (h2:a + k<=1000000):BtI P n false (.type "range") [.int a,.int j] σ Q:=
 fun A st B g env m s vals hr hv hm=>by
  subst hj
  replace hv:=hv.inv; obtain ⟨_,_,rfl,hv,t⟩:=hv
  ·
   replace t:=t.inv; obtain ⟨_,_,rfl,hv2,t⟩:=t
   cases t; obtain ⟨_,rfl⟩:=hv.inv; obtain ⟨_,rfl⟩:=hv2.inv
   refine call_range_2 ?_
   refine Cm1 (Cq2 ..) (small_one (Bo8 (by decide) h1) (Cc6 (Bo8 (Bw6 (Bk0 _)) h2) (by decide)) (Bo8 (Bo8 (by decide) h1) (Bw6 (Bk0 _))) (Cc6 h2 (by decide))) ?_
   have e:Cb2 a (a + k:Int) 1=(k:Int):=by
    rw [rangeSize_one]; split
    · rw [Int.add_comm,Ck1]
    · exact Cn8 (Bk0 _) (Int.le_of_add_le_add_left (show a + (k:Int)<=a + 0 by rw [Int.add_zero]; exact Bs6.mp ‹_›))
   exact Aha hr (by rw [e]; exact Bi4 _ rfl) h
theorem Ads {ds Q} (h:Q (Ahj 0 ds) σ):BtI P n true (.type "enumerate") [.lst ds] σ Q:=
 fun A st B g env m s vals hr hv hm=>by
  replace hv:=hv.inv; obtain ⟨_,_,rfl,hv,t⟩:=hv
  ·
   cases t
   obtain ⟨l,items,rfl,hli,hi⟩:=hv.Atw
   refine call_enumerate_list (IsList.stays hli hr.fz) fun h' a1 a2 a3 a4=>?_
   refine Cf6 (s:={ s with heap:=h' }) a1 ⟨g,σ,_,_,A2 g,hr.stays a4 s.toks,rfl,?_,h⟩
   have z:∀ k,s.heap.objs.size<=k->s.heap.get? k=none:=fun k hk=>Bn8 hk
   exact .enum (i:=0) (all:=ds) a1 a2 hli hi (Nat.succ_ne_self _) (Aa2 hr.fz (z _ (Bh7 _))) (Aa0 hr.keeps (z _ (Bh7 _))) (Aa2 hr.fz (z _ (Bm9 _))) (Aa0 hr.keeps (z _ (Bm9 _)))
theorem Asx {ds Q} (h:Q (Ahj 0 ds) σ):BtI P n true (.type "enumerate") [.tup ds] σ Q:=
 fun A st B g env m s vals hr hv hm=>by
  replace hv:=hv.inv; obtain ⟨_,_,rfl,hv,t⟩:=hv
  ·
   cases t
   obtain ⟨l,items,rfl,hli,hi⟩:=hv.isTup
   refine Aoi (IsTuple.stays hli hr.fz) fun h' a1 a2 a3 a4=>?_
   refine Cf6 (s:={ s with heap:=h' }) a1 ⟨g,σ,_,_,A2 g,hr.stays a4 s.toks,rfl,?_,h⟩
   have z:∀ k,s.heap.objs.size<=k->s.heap.get? k=none:=fun k hk=>Bn8 hk
   exact .Asa (i:=0) (all:=ds) a1 a2 hli hi (Nat.succ_ne_self _) (Aa2 hr.fz (z _ (Bh7 _))) (Aa0 hr.keeps (z _ (Bh7 _))) (Aa2 hr.fz (z _ (Bm9 _))) (Aa0 hr.keeps (z _ (Bm9 _)))
end
inductive Ty (σ:Sto):V->String->Prop
 | list {a:Addr} {ds:List V}:σ a=some (.list ds)->Ty σ (.loc a) "list"
 | A5 {a:Addr} {es:List (Str × V)}:σ a=some (.A5 es)->Ty σ (.loc a) "dict"
 | Acf {a:Addr} {es:List (Int × V)}:σ a=some (.Acf es)->Ty σ (.loc a) "dict"
 | Ad {a:Addr} {es:List (V × V)}:σ a=some (.Ad es)->Ty σ (.loc a) "dict"
 | str (x:Str):Ty σ (.str x) "str"
theorem Ty.is {P B g A st σ s c T v} (R:RepC P B g A st σ s) (t:Ty σ c T) (hv:VR g v c):s.TypeIs v T/\∀ a,v=.ref a->∃ ob,s.heap.get? a=some ob/\ob.dict=none:=by
 induction t using Ty.casesOn with
 | list e=>
  obtain ⟨_,rfl⟩:=hv.inv
  obtain ⟨_,_,o,h1,h2,items,k,h3,h4,h5,h6⟩:=R.sto _ _ e
  exact ⟨⟨o,h1,h2⟩,fun a q=>by cases q; exact ⟨o,h1,h5⟩⟩
 | A5 e=>
  obtain ⟨_,rfl⟩:=hv.inv
  obtain ⟨_,_,o,h1,_,_,_,h2,_⟩:=R.sto _ _ e
  exact ⟨⟨o,h1,h2.1⟩,fun a q=>by cases q; exact ⟨o,h1,h2.2.1⟩⟩
 | Acf e=>
  obtain ⟨_,rfl⟩:=hv.inv
  obtain ⟨_,_,o,h1,_,_,_,h2,_⟩:=R.sto _ _ e
  exact ⟨⟨o,h1,h2.1⟩,fun a q=>by cases q; exact ⟨o,h1,h2.2.1⟩⟩
 | Ad e=>
  obtain ⟨_,rfl⟩:=hv.inv
  obtain ⟨_,_,o,h1,_,_,_,h2,_⟩:=R.sto _ _ e
  exact ⟨⟨o,h1,h2.1⟩,fun a q=>by cases q; exact ⟨o,h1,h2.2.1⟩⟩
 | str x=>obtain ⟨_,rfl⟩:=hv.inv; exact ⟨rfl,fun a q=>by cases q⟩
section
variable {P:Pm} {n:Nat} {fx:Fx} {σ:Sto} {m:A8} {X:Xt}
theorem Ado {M A E s f args Q} (hne:args=[]∨∃ x r,args=(false,x) :: r)
   (h:wpAny M A (spliced args) (fun vs s'=>Q ⟨vs,[]⟩ s') E s):wpAny M A (evalArgs f true args []) Q E s:=by
 rcases hne with rfl | ⟨x,r,rfl⟩
 · unfold evalArgs
   show wpAny M A (spliced [] >>= _) Q E s
   refine Be9 (Bf3 h (fun vs s' h'=>?_) fun _ _ x=>x)
   refine Be9 (Bf6 ?_)
   refine Bl1 ?_
   exact Be9 (Bf6 (Be9 (Bf6 (Bf6 h'))))
 · exact Ca2 h
theorem ARs.Ak9 {g es} (h:ARs g es []):es=[]:=by cases h; rfl
theorem ARs.inv {g es x d ds} (h:ARs g es ((x,d) :: ds)):∃ e r t,es=e :: r/\e.key=.str x t/\VR g e.val d/\ARs g r ds:=by
 cases h with | cons h1 h2 h3=>exact ⟨_,_,_,rfl,h1,h2,h3⟩
theorem ARs.look {g es as} (h:ARs g es as) (x:Str):match as.lookup x with
  | none=>es.find? (·.key.isStr x)=none
  | some d=>∃ e,es.find? (·.key.isStr x)=some e/\VR g e.val d:=by
 induction as generalizing es with
 | nil=>rw [h.Ak9]; exact rfl
 | cons p ds ih=>
  obtain ⟨y,d⟩:=p
  obtain ⟨e,r,t,rfl,h1,h2,h3⟩:=h.inv
  have ih:=ih h3
  have hk:e.key.isStr x=(x == y):=by rw [h1]; exact Bv7.mpr ⟨fun q=>beq_iff_eq.mpr (beq_iff_eq.mp q).symm,fun q=>beq_iff_eq.mpr (beq_iff_eq.mp q).symm⟩
  rw [Bn4,Bk3,hk]
  cases (x == y) with
  | true=>exact ⟨e,rfl,h2⟩
  | false=>exact ih
theorem ARs.noRef {g es as} (h:ARs g es as):es.any (·.refKey)=false:=by
 induction as generalizing es with
 | nil=>rw [h.Ak9]; rfl
 | cons p ds ih=>
  obtain ⟨y,d⟩:=p
  obtain ⟨e,r,t,rfl,h1,h2,h3⟩:=h.inv
  rw [Ce1,ih h3,Ce2]; unfold Cc7; rw [h1]
theorem ARs.lookIn {g o es n as} (hd:o.data=.dict es n) (h:ARs g es.toList as) (x:Str):match as.lookup x with
  | none=>Cm7 x o=some none
  | some d=>∃ v,Cm7 x o=some (some v)/\VR g v d:=by
 have hl:=h.look x
 have hn:=h.noRef
 unfold Cm7
 rw [hd]
 dsimp only
 cases q:as.lookup x with
 | none=>rw [q] at hl; rw [hl,hn]; rfl
 | some d=>rw [q] at hl; obtain ⟨e,h1,h2⟩:=hl; rw [h1]; exact ⟨_,rfl,h2⟩
inductive Io (σ:Sto):V->Addr->List (Str × V)->Prop
 | obj {C:Addr} {as:List (Str × V)}:Io σ (.obj C as) C as
 | inst {C dx:Addr} {as:List (Str × V)}:σ dx=some (.attrs as)->Io σ (.inst C dx) C as
theorem Io.at {B g A st s c C as v} (R:RepC P B g A st σ s) (x:Io σ c C as) (h:VR g v c) :
  ∃ a dx od es n,v=.ref a/\g.get? a=some (instObj C dx)/\s.heap.get? dx=some od/\od.data=.dict es n/\ARs g es.toList as/\InstAt s.heap a (instObj C dx) C (some od):=by
 cases x with
 | obj=>
  cases h with
  | obj h1 h2 h3 h4 h5=>exact ⟨_,_,_,_,_,rfl,h1,R.fz _ _ h2,h4,h5,R.fz _ _ h1,rfl,rfl,R.fz _ _ h2⟩
 | inst e=>
  cases h with
  | inst h1=>
   obtain ⟨_,_,o,h2,h3,h4,h5,es,n,h6,h7⟩:=R.sto _ _ e
   exact ⟨_,_,_,_,_,rfl,h1,h2,h6,h7,R.fz _ _ h1,rfl,rfl,h2⟩
end
section
variable {P:Pm} {n:Nat} {σ:Sto}
inductive LAt (g h:Heap) (a:Addr) (ds:List V):Prop
 | mk (items:Array Value) (k:Nat) (h1:IsL h a items k) (h2:VRs g items.toList ds) (h3:items.size=ds.length)
theorem Ad2 {B g A st s a ds} (R:RepC P B g A st σ s) (h:σ a=some (.list ds)):LAt g s.heap a ds:=by
 obtain ⟨_,_,o,h1,h2,items,k,h3,h4,h5,h6⟩:=R.sto _ _ h
 refine ⟨items,k,?_,h4,by rw [<- h4.length,Bg5]⟩
 obtain ⟨c,d,dt,sl⟩:=o
 subst h2; subst h3; subst h5; subst h6
 exact h1
theorem IsL.or {g items k ds} (hv:VRs g items.toList ds):OR P g { cls:=.type "list",dict:=none,data:=.seq items k,slots:=#[] } (.list ds):=⟨rfl,items,k,rfl,hv,rfl,rfl⟩
theorem Abz {h:Heap} {a:Addr} (f:Obj->Obj):∀ b o,b≠a->h.get? b=some o->(h.update a f).get? b=some o:=fun b o e q=>(Bj5 h f (Bq3 e)).trans q
theorem Ae {a:Addr} {ds:List V} {d:V} {Q:V->Sto->Prop} (h:σ a=some (.list ds)) (hq:Q .none (σ.put a (.list (ds ++ [d])))) (hl:ds.length<=100000):Bt P n (.builtin "list.append") [.loc a,d] σ Q:=
 fun A st B g env m s vals hr hv hm=>by
  replace hv:=hv.inv; obtain ⟨_,_,rfl,hv,t⟩:=hv
  ·
   cases t with
   | @cons v _ _ _ hd t=>
    cases t; obtain ⟨_,rfl⟩:=hv.inv
    obtain ⟨items,k,hi,hvs,hsz⟩:=Ad2 hr.toRepC h
    refine Bx1 F.slot_list_append ⟨_,hi,rfl⟩ F.entry_list_append (F.args_list_append_2 _ _) (list_append a items k v (by rw [hsz]; exact sz hl)) ⟨hi,?_⟩
    exact ⟨g,_,m,_,A2 g,hr.upd h (Abz _) (hi.update _) (IsL.or (by rw [Array.toList_push]; exact hvs.append (.one hd))) s.toks,.none,rfl,hq⟩
theorem Aq7 {a:Addr} {ds:List V} {d:V} {Q:V->Sto->Prop} (h:σ a=some (.list (ds ++ [d]))) (hq:Q d (σ.put a (.list ds))) (hl:ds.length<=100000):Bt P n (.builtin "list.pop") [.loc a] σ Q:=
 fun A st B g env m s vals hr hv hm=>by
  replace hv:=hv.inv; obtain ⟨_,_,rfl,hv,t⟩:=hv
  ·
   cases t; obtain ⟨_,rfl⟩:=hv.inv
   obtain ⟨items,k,hi,hvs,hsz⟩:=Ad2 hr.toRepC h
   simp only [Bf2,Bh5,Bl2] at hsz
   obtain ⟨v,e1,e2⟩:=hvs.get (k:=ds.length) (d:=d) (by simp)
   have e3:items.size - 1=ds.length:=by rw [hsz]; rfl
   refine Bx1 Cp4 ⟨_,hi,rfl⟩ F.entry_list_pop (F.args_list_pop_1 _) (MeetsSeq.list_pop_last a items k v (by rw [e3,<- Bj0]; exact e1) (by rw [hsz]; exact sz1 hl)) ⟨hi,?_⟩
   refine ⟨g,_,m,_,A2 g,hr.upd h (Abz _) (hi.update _) (IsL.or ?_) s.toks,e2,rfl,hq⟩
   have:=hvs.eraseIdx ds.length
   rw [List.eraseIdx_append_of_length_le (Bh7 _),Nat.sub_self] at this
   simp only [List.eraseIdx_cons_zero,Bh6] at this
   rw [e3,Array.eraseIdxIfInBounds,dif_pos (by rw [hsz]; exact Br2 _)]
   rw [Array.toList_eraseIdx]; exact this
set_option tactic.hygienic true in
theorem Ane {a:Addr} {ds:List V} {i:Int} {k:Nat} {d:V} {Q:V->Sto->Prop} (h:σ a=some (.list ds)) (hi:i=k) (hd:ds[k]?=some d) (hq:Q d (σ.put a (.list (ds.eraseIdx k)))) (hl:ds.length<=100000):Bt P n (.builtin "list.pop") [.loc a,.int i] σ Q:=
 fun A st B g env m s vals hr hv hm=>by
  replace hv:=hv.inv; obtain ⟨_,_,rfl,hv,t⟩:=hv
  ·
   replace t:=t.inv; obtain ⟨_,_,rfl,hv2,t⟩:=t
   cases t; obtain ⟨_,rfl⟩:=hv.inv; obtain ⟨_,rfl⟩:=hv2.inv; rename_i tk0
   obtain ⟨items,kk,hii,hvs,hsz⟩:=Ad2 hr.toRepC h
   obtain ⟨v,e1,e2⟩:=hvs.get hd
   have hlt:k < ds.length:=(Bf8.mp hd).1
   have Bdl:Bu1 i=true:=by
    unfold Bu1
    rw [Bg1]
    constructor
    · exact decide_eq_true (by rw [hi]; exact tn (by decide))
    · exact decide_eq_true (by rw [hi]; exact tk (Be8 (Bk5 hlt) hl) (by decide))
   have hk:Cp9 i items.size=some k:=by rw [hi]; exact Ay5 (hsz ▸ hlt)
   have e1':items[k]?=some v:=by rw [<- Bj0]; exact e1
   have e4:items.size<=sizeLine:=by rw [hsz]; exact sz hl
   have hM:=MeetsSeq.list_pop_at a items kk i tk0 k v Bdl hk e1' e4
   refine Bx1 (rest:=[Value.int i tk0]) Cp4 ⟨_,hii,rfl⟩ F.entry_list_pop (F.args_list_pop_2 (Value.ref a) (Value.int i tk0)) hM ⟨hii,?_⟩
   refine ⟨g,_,m,_,A2 g,hr.upd h (Abz _) (hii.update _) (IsL.or ?_) s.toks,e2,rfl,hq⟩
   rw [Array.eraseIdxIfInBounds,dif_pos (by rw [hsz]; exact hlt),Array.toList_eraseIdx]; exact hvs.eraseIdx k
theorem Anu {a:Addr} {ds:List V} {Q:V->Sto->Prop} (h:σ a=some (.list ds)) (hq:Q .none (σ.put a (.list ds.reverse))) (hl:ds.length<=100000):Bt P n (.builtin "list.reverse") [.loc a] σ Q:=
 fun A st B g env m s vals hr hv hm=>by
  replace hv:=hv.inv; obtain ⟨_,_,rfl,hv,t⟩:=hv
  ·
   cases t; obtain ⟨_,rfl⟩:=hv.inv
   obtain ⟨items,kk,hi,hvs,hsz⟩:=Ad2 hr.toRepC h
   refine Bx1 F.slot_list_reverse ⟨_,hi,rfl⟩ F.entry_list_reverse (F.args_list_reverse_1 _) (AutoSeq1.list_reverse_list_0 a items kk (by rw [hsz]; exact sz hl)) ⟨hi,?_⟩
   exact ⟨g,_,m,_,A2 g,hr.upd h (Abz _) (hi.update _) (IsL.or (by rw [Array.toList_reverse]; exact hvs.reverse)) s.toks,.none,rfl,hq⟩
theorem Aph {a b:Addr} {ds es:List V} {Q:V->Sto->Prop} (h:σ a=some (.list ds)) (h2:σ b=some (.list es)) (hq:Q .none (σ.put a (.list (ds ++ es)))) (hl:ds.length + es.length<=100000):Bt P n (.builtin "list.extend") [.loc a,.loc b] σ Q:=
 fun A st B g env m s vals hr hv hm=>by
  replace hv:=hv.inv; obtain ⟨_,_,rfl,hv,t⟩:=hv
  ·
   replace t:=t.inv; obtain ⟨_,_,rfl,hv2,t⟩:=t
   cases t; obtain ⟨_,rfl⟩:=hv.inv; obtain ⟨_,rfl⟩:=hv2.inv
   obtain ⟨items,k,hi,hvs,hsz⟩:=Ad2 hr.toRepC h
   obtain ⟨items2,k2,hi2,Bdu,Bcp⟩:=Ad2 hr.toRepC h2
   refine Bx1 F.slot_list_extend ⟨_,hi,rfl⟩ F.entry_list_extend (F.args_list_extend_2 _ _) (AutoSeq1.list_extend_list_list_0 a items k b items2 k2 ?_ (by rw [hsz]; exact sz (Be8 (Bg9 ..) hl)) (by rw [hsz,Bcp]; exact Bk1 (sz hl))) ⟨hi,hi2,?_⟩
   · unfold Bi9.List.listTooLong; rw [Bg1,decide_eq_true_eq]; exact fun h=>absurd h.2 (Ck8.mpr (by rw [hsz,Bcp]; exact sz hl))
   exact ⟨g,_,m,_,A2 g,hr.upd h (Abz _) (hi.update _) (IsL.or (by rw [Ci1]; exact hvs.append Bdu)) _,.none,rfl,hq⟩
end
noncomputable def fdOf (d:Data):Option FuncData:=match d with | .func f=>some f | _=>none
theorem Aw7 {d:Data} {f:FuncData} (h:fdOf d=some f):d=.func f:=by
 cases d with
 | func g=>cases h; rfl
 | _=>cases h
noncomputable def Bc6 (K:Frag) (a:Addr):Option FuncData:=(K.lookup a).bind fun o=>fdOf o.data
noncomputable def Ab5 (names:List (Str × NameKind)):List Str:=(names.filter fun x=>x.2 == .cell).map (·.1)
noncomputable def Azx (sc:Scope) (ps:List Str):Bool:=
 sc.kind == .function && !sc.isCoroutine && !sc.isGenerator && decide (Ab5 sc.names).Nodup && sc.names.all (fun x=>x.2 != .free) &&
  ps.all fun x=>sc.names.lookup x == some .local || sc.names.lookup x == some .cell
theorem Aba:∀ (names:List (Str × NameKind)) (n:Nat) (acc:List (Str × Addr)),(Cd1 n names acc).map (·.1)=(Ab5 names).reverse ++ acc.map (·.1)
 | [],n,acc=>by simp [Cd1,Ab5]
 | (x,k) :: r,n,acc=>by
  unfold Cd1
  by_cases h:(k == NameKind.cell)=true
  · rw [if_pos h,Aba r]
    have:Ab5 ((x,k) :: r)=x :: Ab5 r:=by simp [Ab5,h]
    rw [this]; simp
  · rw [if_neg h,Aba r]
    have:Ab5 ((x,k) :: r)=Ab5 r:=by simp [Ab5,h]
    rw [this]
theorem lookup_mem {β:Type}:∀ {l:List (Str × β)} {x:Str} {k:β},l.lookup x=some k->(x,k)∈l
 | [],_,_,h=>by simp at h
 | (y,j) :: r,x,k,h=>by
  rw [Bn4] at h
  cases q:(x == y) with
  | true=>rw [q] at h; cases h; rw [beq_iff_eq.mp q]; exact .head _
  | false=>rw [q] at h; exact .tail _ (lookup_mem h)
theorem Ac6 {β:Type}:∀ {l:List (Str × β)} {x:Str},x∈l.map (·.1)->(l.lookup x).isSome=true
 | [],_,h=>by simp at h
 | (y,j) :: r,x,h=>by
  rw [Bn4]
  cases q:(x == y) with
  | true=>rfl
  | false=>
   refine Ac6 ?_
   rcases Bi0.mp h with e | e
   · exact absurd e (by simpa using q)
   · exact e
theorem Bbe {P n a} {f:FuncData} {body vs σ Q X} (hf:Bc6 P.K a=some f) (hb:f.body=.stmts body) (hg:f.globals=Bl4) (hcl:f.closure=[]) (hbu:f.builtins=Cf9)
   (Avc:codeIn P.K f.code f.qualname=true) (Bb8:∀ vals:List Value,vals.length=f.params.args.length->bindArgs f ⟨vals,[]⟩=pure ((f.params.args.map (·.arg)).zip vals))
   (sc:Azx f.scope (f.params.args.map (·.arg))=true) (hl:f.params.args.length=vs.length)
   (h:Exs P n ⟨f.scope,false⟩ body σ (putAll ((f.params.args.map (·.arg)).zip vs) fun _=>none) (fun fl σ' _=>Q (match fl with | .ret v=>v | _=>.none) σ') (fun why σ' _=>X why σ')):Fn P (n + 1) (.ref a) vs σ Q X:=by
 obtain ⟨o,ho,hd⟩:=Bx6.mp hf
 unfold Azx at sc
 have s5:=Bj8.mp (At0 (Aok sc))
 have s6:=Bj8.mp (At0 sc)
 have sc:=Aok (Aok sc)
 refine Ayn ho (Aw7 hd) hb hg hcl hbu Avc Bb8 (eq_of_beq (Aok (Aok (Aok sc)))) ((Bm8 _).mp (At0 (Aok (Aok sc)))) ((Bm8 _).mp (At0 (Aok sc))) (fun n=>?_) (fun n x h=>Ac6 ?_) (fun x h=>?_) (fun x hx=>?_) hl h
 · rw [Aba,Bq6,Bh6]
   exact List.pairwise_reverse.mpr ((of_decide_eq_true (At0 sc)).imp fun q=>Bq3 q)
 · rw [Aba,Bq6,Bh6]
   exact Ce7.mpr (Bi8 (f:=fun x:Str × NameKind=>x.1) (a:=(x,.cell)) (Cg2.mpr ⟨lookup_mem h,rfl⟩))
 · exact absurd (s5 _ (lookup_mem h)) Bg6
 · cases Bool.or_eq_true_iff.mp (s6 x hx) with
   | inl q=>exact .inl (eq_of_beq q)
   | inr q=>exact .inr (eq_of_beq q)
noncomputable def Sub (σ'' σ':Sto):Prop:=∀ a x,σ'' a=some x->σ' a=some x
theorem Sub.refl (σ:Sto):Sub σ σ:=fun _ _ e=>e
theorem Sub.new {σ σ' a o} (h:Sub σ σ') (ha:σ' a=none):Sub σ (σ'.put a o):=fun b x e=>by
 have hb:b≠a:=by rintro rfl; have:=h b x e; rw [ha] at this; cases this
 rw [Sto.A4 _ _ hb]; exact h b x e
theorem Sub.put {σ σ'} (h:Sub σ σ') (a:Addr) (o:O):Sub (σ.put a o) (σ'.put a o):=fun b x e=>by
 by_cases hb:b=a
 · subst hb; rw [Sto.A0] at e ⊢; exact e
 · rw [Sto.A4 _ _ hb] at e ⊢; exact h b x e
theorem Sub.over {σ σ' a o} (h:Sub σ σ') (ha:σ a=none):Sub σ (σ'.put a o):=fun b x e=>by
 have hb:b≠a:=by rintro rfl; rw [ha] at e; cases e
 rw [Sto.A4 _ _ hb]; exact h b x e
theorem Sub.del {σ σ' a} (h:Sub σ σ') (ha:σ a=none):Sub σ (σ'.del a):=fun b x e=>by
 have hb:b≠a:=by rintro rfl; rw [ha] at e; cases e
 unfold Sto.del; rw [if_neg hb]; exact h b x e
section
variable {P:Pm} {n:Nat} {fx:Fx} {σ:Sto} {m:A8} {X:Xt}
theorem Av6 {t σ0 Q} (hs:Sub σ0 σ) (h:Exs P n fx t σ0 m Q X):Exs P n fx t σ m Q X:=
 fun A st B g env s he hr hm=>h A st B g env s he (hr.forget hs) hm
theorem Atu {t m0 Q} (hs:∀ x v,m0 x=some v->m x=some v) (h:Exs P n fx t σ m0 Q X):Exs P n fx t σ m Q X:=
 fun A st B g env s he hr hm=>h A st B g env s he (hr.drop hs) hm
theorem Ag {e Q Q'} (h:Ev P n fx e σ m Q X) (hq:∀ v σ,Q v σ->Q' v σ):Ev P n fx e σ m Q' X:=
 JS.mono h (fun _ _ _ q=>⟨q.1,hq _ _ q.2⟩) fun _ _ _ q=>q
theorem Rep.Aqm {B g A st env s} (R:Rep P B g A st env σ m s) {x a ds} (hm:m x=some (.loc a)) (hx:σ a=some (.list ds)) :
   ∃ g',g.StaysIn g'/\Rep P B g' A st env (σ.del a) (m.put x (.lst ds)) s:=by
 obtain ⟨g',h1,h2,R'⟩:=R.Af1 hx
 refine ⟨g',h1,R'.toRepC,⟨?_,fun y hy=>?_,R'.fr.apart⟩,R'.own⟩
 · obtain ⟨ml,q1,q2⟩:=R.fr.ns
   refine ⟨ml,q1,fun y v e l=>?_⟩
   by_cases hy:y=x
   · subst hy
     obtain ⟨c,w1,w2⟩:=q2 y _ hm l
     simp only [A8.put,if_true] at e; cases e
     obtain ⟨_,rfl⟩:=w2.inv
     exact ⟨_,w1,h2⟩
   · simp only [A8.put,hy,if_false] at e
     obtain ⟨c,w1,w2⟩:=q2 y v e l
     exact ⟨c,w1,w2.mono h1⟩
 · obtain ⟨c,cv,q1,q2,q3⟩:=R.fr.cel y hy
   refine ⟨c,cv,q1,q2,fun v e=>?_⟩
   by_cases hy':y=x
   · subst hy'
     obtain ⟨u,w1,w2⟩:=q3 _ hm
     simp only [A8.put,if_true] at e; cases e
     obtain ⟨_,rfl⟩:=w2.inv
     exact ⟨_,w1,h2⟩
   · simp only [A8.put,hy',if_false] at e
     obtain ⟨u,w1,w2⟩:=q3 v e
     exact ⟨u,w1,w2.mono h1⟩
theorem Ax3 {t} (x:Str) {a ds Q} (hm':m x=some (.loc a)) (hx:σ a=some (.list ds)) (h:Exs P n fx t (σ.del a) (m.put x (.lst ds)) Q X):Exs P n fx t σ m Q X:=
 fun A st B g env s he hr hm=>by
  obtain ⟨g',h1,R⟩:=hr.Aqm hm' hx
  exact Bf3 (h A st B g' env s he R hm) (fun _ _ q=>q.mono h1 fun _ _ _ x=>x) fun _ _ q=>q.mono h1 fun _ _ _ x=>x
end
open Builtin hiding id
theorem Afw:fillsNumberSlot (.type "tuple") "mul"=pure false:=
 PySem.fillsNumberSlot_seq (id:="tuple.__mul__") (r:=some (.builtin "tuple.__rmul__")) Cg6.lookup (by decide +kernel) F.slot_tuple_rmul.lookup (by decide +kernel)
theorem Ak2:seqRepeat? (.type "tuple")=pure (some (.builtin "tuple.__mul__")):=by
 unfold seqRepeat?
 rw [PySem.seqSlot_of (T:="tuple") (name:="__mul__") (id:="tuple.__mul__") Cg6.lookup (by decide +kernel),PySem.seqSlot_of (T:="tuple") (name:="__rmul__") (id:="tuple.__rmul__") F.slot_tuple_rmul.lookup (by decide +kernel)]
 rfl
theorem Ahl (a:Int) (t:Tok) (l:Addr) (items:Array Value) (n:Nat) (d:Option Addr) (sl:Array (Option Value)) :
  Meets (Bi9.«int.__rmul__» ⟨[.int a t,.ref l],[]⟩) (fun _ R s=>s.heap.get? l=some { cls:=.type "tuple",dict:=d,data:=.seq items n,slots:=sl }/\R (.ok (.ret Value.notImplemented)) s):=
 .of_wp fun prog w A R s h=>by obtain ⟨hp,g,d,tk,os⟩:=s; obtain ⟨hl,h⟩:=h; wp_walk; exact ⟨_,rfl,h⟩
theorem Aof (l:Addr) (items:Array Value) (n:Nat) (d:Option Addr) (sl:Array (Option Value)) (u:Tok) :
  Meets (Bi9.«tuple.__mul__» ⟨[.ref l,.int 1 u],[]⟩) (fun _ R s=>s.heap.get? l=some { cls:=.type "tuple",dict:=d,data:=.seq items n,slots:=sl }/\R (.ok (.ret (.ref l))) s):=
 .of_wp fun prog w A R s h=>by
  obtain ⟨hp,g,d,tk,os⟩:=s; obtain ⟨hl,h⟩:=h
  have f1:=AutoSeq1.idx_int; have f2:=AutoSeq1.sub_tuple_tuple
  wp_walk
  exact ⟨_,rfl,h⟩
theorem Ao6 (l:Addr) (items:Array Value) (n:Nat) (d:Option Addr) (sl:Array (Option Value)) (x:Int) (u:Tok) (hx:¬ (decide (x < -(2 ^ 63)) || decide (x ≥ 2 ^ 63))=true) (h1:¬ (items.isEmpty || x == 1)=true) (h2:¬ (decide (x<=0) || items.isEmpty)=true)
  (h3:¬ ((items.size:Int) * x > (2 ^ 63 - 1) / 8)) (h4:¬ Bi9.Tuple.tupleTooMany ((items.size:Int) * x)=true) (h5:(Cb1 (fun x1 x2=>x1 ++ x2) #[] (Bg8 x.toNat items)).size<=sizeLine) :
  Meets (Bi9.«tuple.__mul__» ⟨[.ref l,.int x u],[]⟩) (fun _ R s=>s.heap.get? l=some { cls:=.type "tuple",dict:=d,data:=.seq items n,slots:=sl }/\R (.ok (.ret (Value.ref s.heap.objs.size))) { s with heap:=s.heap.push { cls:=Value.type "tuple",data:=Data.seq (Cb1 (fun x1 x2=>x1 ++ x2) #[] (Bg8 x.toNat items)) },toks:=s.toks }):=
 .of_wp fun prog w A R s h=>by
  obtain ⟨hp,g,d,tk,os⟩:=s; obtain ⟨hl,h⟩:=h
  have f1:=AutoSeq1.idx_int; have f2:=AutoSeq1.sub_tuple_tuple
  wp_walk
  refine Bz4 (decide_eq_false hx) ?_
  wp_walk
  try refine Bz4 (decide_eq_false h1) ?_
  try wp_walk
  try refine Bz4 (decide_eq_false h2) ?_
  try wp_walk
  try refine Bz4 (decide_eq_false h3) ?_
  try wp_walk
  try refine Bz4 (decide_eq_false h4) ?_
  try wp_walk
  exact ⟨_,rfl,h⟩
section
variable {prog:Program} {w:World} {A:Around} {E:Value->Shared->Prop} {s:Shared}
theorem Anr {l:Addr} {items:Array Value} {kk:Nat} {k:Int} {j:Nat} {t:Tok} {v:Value} {Q:Unit->Shared->Prop} (hi:IsL s.heap l items kk) (hk:(0<=k/\k < 1000000/\k=j)∨(k=-1/\j=items.size - 1)) (hn:j < items.size)
   (hQ:Q () { s with heap:=s.heap.update l (Bt4 (·.setIfInBounds j v)) }) :
   wpAny (model prog w) A (setItem (.ref l) (.int k t) v) Q E s:=by
 have hl:s.heap.IsList l items:=hi.isList
 unfold setItem
 try with_reducible refine Bl1 ?_
 first | refine Be9 (Bf6 ?_) | skip
 refine Be9 (wpAny_sequenceKey hl.typeIs (by decide) ?_)
 refine Be9 (Bu4 (name:=Bf5 "__setitem__") hl.typeIs slot_list_setitem
   (Br4 slot_list_setitem hl.typeIs entry_list_setitem ?_ (args_list_setitem _ _ _)))
 show wpAny _ _ (Bi9.List.listSubscript? (.int k t) >>= _) _ _ s
 have hx':items[j]?=some items[j]:=Array.getElem?_eq_getElem hn
 rcases hk with ⟨h0,h1,h2⟩ | ⟨rfl,rfl⟩
 · refine Be9 (wpAny_listSubscript_int (fitsIndex_of h0 (Cl8 h1 (by decide))) ?_)
   clear h1
   subst h2
   show wpAny _ _ ((seqItemAt l j >>= fun r=>pure (r.map (j,·))) >>= _) _ _ s
   refine Be9 (Be9 (wpAny_seqItemAt hi rfl (Bf6 ?_)))
   rw [hx']
   show wpAny _ _ (setSeqItemAt l j v >>= _) _ _ s
   refine Be9 (wpAny_setSeqItemAt hi rfl ?_)
   first
    | exact Be9 (Bf6 (Bf6 ⟨.none,rfl,Bf6 hQ⟩))
    | exact Bf6 ⟨.none,rfl,Bf6 hQ⟩
 · refine Be9 (wpAny_listSubscript_int (fitsIndex_neg (by decide) (by decide)) ?_)
   have Bdo:Cp9 (-1) items.size=some (items.size - 1):=by
    rw [seqIndex_neg (by decide) (show -(items.size:Int)<=-1 from Cp3 (Bk9.mpr (Bg7 (Bh2 _) hn)))]; exact congrArg some tm
   show wpAny _ _ ((Bi9.List.listItems (.ref l) >>= fun xs=>pure ((Cp9 (Int.negSucc 0) xs.size).bind fun i=>xs[i]?.map (i,·))) >>= _) _ _ s
   refine Be9 (Be9 ?_)
   show wpAny _ _ (seqItems? (.ref l) >>= _) _ _ s
   refine Be9 (Ck2 hi rfl (Bf6 (Bf6 ?_)))
   have hidx':Cp9 (Int.negSucc 0) items.size=some (items.size - 1):=Bdo
   rw [hidx']
   simp only [Option.bind_some,hx',Bl6]
   show wpAny _ _ (setSeqItemAt l _ v >>= _) _ _ s
   refine Be9 (wpAny_setSeqItemAt hi rfl ?_)
   first
    | exact Be9 (Bf6 (Bf6 ⟨.none,rfl,Bf6 hQ⟩))
    | exact Bf6 ⟨.none,rfl,Bf6 hQ⟩
end
section
variable {P:Pm} {n:Nat} {fx:Fx} {σ:Sto} {m:A8} {X:Xt}
noncomputable def Si (P:Pm) (n:Nat) (c k v:V) (σ:Sto) (Q:Sto->Prop):Prop:=
 ∀ A st B g env m s o i x,Rep P B g A st env σ m s->VR g o c->VR g i k->VR g x v->Bg A n->wpAny (model P.prog P.w) A (setItem o i x) (fun _ s'=>BdP P B A st env g (fun σ' m'=>m'=m/\Q σ') s') (fun _ _=>False) s
theorem Ao3 {o i p' pos e Q} (h:Ev P n fx e σ m (fun v σ1=>Ev P n fx o σ1 m (fun c σ2=>Ev P n fx i σ2 m (fun k σ3=>Si P n c k v σ3 (fun σ4=>Q .next σ4 m)) X) X) X)
  (hs:∀ env,Cc9 e (some (.Subscript o i p')) pos.line env=pure false:=by intro _; rfl):Ex P n fx (.Assign [.Subscript o i p'] e pos) σ m Q X:=
 fun A st B g env s he hr hm=>wpAny_Assign_Subscript (Bf3 (h A st B g env s he hr hm) (fun v s1 qA=>by
  obtain ⟨g1,σ1,m1,d,hg1,hr1,hv1,hm1,hq1⟩:=qA
  subst hm1
  refine Bf3 (hq1 A st B g1 env s1 he hr1 hm) (fun ov s2 qM=>?_) fun _ _ q=>q.mono hg1 fun _ _ _ x=>x
  obtain ⟨g2,σ2,m2,c,hg2,hr2,hv2,hm2,hq2⟩:=qM
  subst hm2
  refine Bf3 (hq2 A st B g2 env s2 he hr2 hm) (fun iv s3 qM=>?_) fun _ _ q=>q.mono (A3 hg1 hg2) fun _ _ _ x=>x
  obtain ⟨g3,σ3,m3,k,hg3,hr3,hv3,hm3,hq3⟩:=qM
  subst hm3
  refine Bf3 (hq3 A st B g3 env _ s3 ov iv v hr3 (hv2.mono hg3) hv3 ((hv1.mono hg2).mono hg3) hm) (fun _ s4 qM=>?_) fun _ _ q=>q.elim
  obtain ⟨g4,σ4,m4,hg4,hr4,hm4,hq4⟩:=qM
  subst hm4
  exact ⟨g4,σ4,_,.next,A3 hg1 (A3 hg2 (A3 hg3 hg4)),hr4,.next,hq4⟩) fun _ _ q=>q) (hs env)
theorem Ahe {a:Addr} {ds:List V} {k:Int} {j:Nat} {v:V} {Q:Sto->Prop} (h:σ a=some (.list ds)) (hk:(0<=k/\k < 1000000/\k=j)∨(k=-1/\j=ds.length - 1)) (hj:j < ds.length) (hq:Q (σ.put a (.list (ds.set j v)))):Si P n (.loc a) (.int k) v σ Q:=
 fun A st B g env m s o i x hr ho hi hx hm=>by
  obtain ⟨_,rfl⟩:=ho.inv; obtain ⟨_,rfl⟩:=hi.inv
  obtain ⟨items,kk,hii,hvs,hsz⟩:=Ad2 hr.toRepC h
  refine Anr hii (by rw [hsz]; exact hk) (by rw [hsz]; exact hj) ?_
  exact ⟨g,_,m,A2 g,hr.upd h (Abz _) (hii.update _) (IsL.or (by rw [Array.toList_setIfInBounds]; exact hvs.set j hx)) s.toks,rfl,hq⟩
theorem Anp {o i:Expr} {p' pos:Pos} {e:Expr} {Q:Flw->Sto->A8->Prop}
  (h:Ev P n fx o σ m (fun c σ1=>Ev P n fx i σ1 m (fun kv σ2=>∃ (a:Addr) (ds:List V) (k:Int) (j:Nat) (x:Int),c=.loc a/\kv=.int k/\σ2 a=some (.list ds)/\ds[j]?=some (.int x)/\k=(j:Int)/\j < 1000000 ∧
   Ev P n fx e σ2 m (fun v σ3=>∃ y:Int,v=.int y/\σ3 a=some (.list ds)/\Q .next (σ3.put a (.list (ds.set j (.int (x + y))))) m) X) X) X)
  (ha:∀ ov iv new,augStore i ov iv new=(do holding [new,ov,iv] (setItem ov iv new); release [new,ov,iv] []; pure .next)):Ex P n fx (.AugAssign (.Subscript o i p') .Add e pos) σ m Q X:=
 fun A st B g env s he hr hm=>wpAny_AugAssign_SubscriptAny (Bf3 (h A st B g env s he hr hm) (fun ov s1 qE=>by
  obtain ⟨g1,σ1,m1,c,hg1,hr1,hv1,hm1,hq1⟩:=qE
  subst hm1
  refine Bf3 (hq1 A st B g1 env s1 he hr1 hm) (fun iv s2 qM=>?_) fun _ _ q=>q.mono hg1 fun _ _ _ x=>x
  obtain ⟨g2,σ2,m2,kv,hg2,hr2,hv2,hm2,a,ds,k,j,x,e1,e2,hσ,hj,hkj,hsm,hq2⟩:=qM
  subst hm2; subst e1; subst e2
  obtain ⟨_,rfl⟩:=hv1.inv; obtain ⟨_,rfl⟩:=hv2.inv
  obtain ⟨items,kk,hii,hvs,hsz⟩:=Ad2 hr2.toRepC hσ
  obtain ⟨old,o1,o2⟩:=hvs.get hj
  obtain ⟨_,rfl⟩:=o2.inv
  refine wpAny_getItem_list (k:=k) hii.isList (by rw [hkj]; exact Bk0 _) (by rw [hkj]; exact tl hsm (by decide)) (by rw [hkj]; simpa using o1) ?_
  refine Bf3 (hq2 A st B g2 env s2 he hr2 hm) (fun v s3 qM=>?_) fun _ _ q=>q.mono (A3 hg1 hg2) fun _ _ _ x=>x
  obtain ⟨g3,σ3,m3,d,hg3,hr3,hv3,hm3,y,e3,hσ3,hq3⟩:=qM
  subst hm3; subst e3
  obtain ⟨_,rfl⟩:=hv3.inv
  refine AutoIntOps.iadd_0 ?_
  have hlt:j < ds.length:=(Bf8.mp hj).1
  refine (show wpAny (model P.prog P.w) A (setItem (.ref a) (.int k _) (.int (x + y) s3.toks)) _ _ { s3 with toks:=s3.toks + 1 } from ?_)
  refine Bf3 (Ahe (Q:=fun σ'=>Q .next σ' _) (j:=j) (v:=.int (x + y)) hσ3 (.inl ⟨by rw [hkj]; exact Bk0 _,by rw [hkj]; exact tl hsm (by decide),hkj⟩) hlt hq3 A st B g3 env _ _ (.ref a) _ _ (hr3.tok _) (.loc a) (.int k _) (.int (x + y) _) hm) (fun _ s4 qM=>?_) fun _ _ q=>q.elim
  obtain ⟨g4,σ4,m4,hg4,hr4,hm4,hq4⟩:=qM
  subst hm4
  exact ⟨g4,σ4,_,.next,A3 hg1 (A3 hg2 (A3 hg3 hg4)),hr4,.next,hq4⟩) fun _ _ q=>q) ha
theorem VRs.flat {g vs ds} (h:VRs g vs ds):∀ k:Nat,VRs g (Bg8 k vs).flatten (Bg8 k ds).flatten
 | 0=>by simpa using VRs.nil
 | k + 1=>by rw [Bn3,Bn3,Bm7,Bm7]; exact h.append (h.flat k)
theorem An7 {α:Type} (ds:List α):∀ k:Nat,(Bg8 k ds).flatten.length=k * ds.length
 | 0=>by simp
 | k + 1=>by rw [Bn3,Bm7,Bf2,An7 ds k,Bx7,Bm0]
theorem Afg (items:Array Value):∀ (k:Nat) (acc:Array Value),Cb1 (fun x1 x2=>x1 ++ x2) acc (Bg8 k items)=(acc.toList ++ (Bg8 k items.toList).flatten).toArray
 | 0,acc=>by simp
 | k + 1,acc=>by rw [Bn3,Bv1,Afg items k]; simp [Bn3]
theorem Aji {B g A st env s} (R:Rep P B g A st env σ m s) {items ds} (h:VRs g items.toList ds) (T:String) (hT:T="list"∨T="tuple") (tk:Nat) :
   ∃ g',g.StaysIn g'/\Rep P B g' A st env σ m { s with heap:=s.heap.push { cls:=.type T,data:=.seq items },toks:=tk }/\VR g' (.ref s.heap.objs.size) (if T="list" then .lst ds else .tup ds):=by
 obtain ⟨g2,hg2,ho2,R2⟩:=R.Aap { cls:=.type T,data:=.seq items } rfl (fun f=>by have q:Value.type T=Value.type "frame":=f.1; rcases hT with rfl | rfl <;> exact absurd q (by decide)) tk
 refine ⟨g2,hg2,R2,?_⟩
 rcases hT with rfl | rfl
 · rw [if_pos rfl]; exact .lst ho2 rfl rfl (h.mono hg2)
 · rw [if_neg (by decide)]; exact .tup ho2 rfl rfl (h.mono hg2)
theorem Adr {h:Heap} {a:Addr} {items:Array Value} (x:h.IsList a items):∃ d n sl,h.get? a=some { cls:=.type "list",dict:=d,data:=.seq items n,slots:=sl }:=by
 obtain ⟨⟨c,d,dt,sl⟩,ho,hc,n,hd⟩:=x
 simp only at hc hd; subst hc hd
 exact ⟨d,n,sl,ho⟩
theorem Acz {h:Heap} {a:Addr} {items:Array Value} (x:h.IsTuple a items):∃ d n sl,h.get? a=some { cls:=.type "tuple",dict:=d,data:=.seq items n,slots:=sl }:=by
 obtain ⟨⟨c,d,dt,sl⟩,ho,hc,n,hd⟩:=x
 simp only at hc hd; subst hc hd
 exact ⟨d,n,sl,ho⟩
theorem Ajn {a b:V} {ds es:List V} {Q:V->Sto->Prop} (ha:Dv σ a (.lst ds)) (hb:Dv σ b (.lst es)) (h:Q (.lst (ds ++ es)) σ) (hl:ds.length + es.length<=100000):Bo P n .Add a b σ Q:=
 fun A st B g env m s u v hr hu hv hm=>by
  obtain ⟨l1,i1,rfl,h1,v1⟩:=ha.items hr.toRepC hu
  obtain ⟨l2,i2,rfl,h2,v2⟩:=hb.items hr.toRepC hv
  obtain ⟨d1,n1,s1,o1⟩:=Adr h1
  obtain ⟨d2,n2,s2,o2⟩:=Adr h2
  have z1:i1.size=ds.length:=by rw [<- v1.length,Bg5]
  have z2:i2.size=es.length:=by rw [<- v2.length,Bg5]
  obtain ⟨g',hg,R',rv⟩:=Aji hr (items:=i1 ++ i2) (ds:=ds ++ es) (by rw [Ci1]; exact v1.append v2) "list" (.inl rfl) s.toks
  refine Cb9 ⟨_,o1,rfl⟩ ⟨_,o2,rfl⟩ noFill_list_add seq_list_add PySem.F.slot_list_add PySem.F.entry_list_add (PySem.F.args_list_add_2 _ _) (list_addW l1 l2 i1 i2 n1 n2 d1 d2 s1 s2 (by rw [z1,z2]; exact sz hl)) ⟨o1,o2,?_⟩
  exact ⟨g',σ,m,_,hg,R',rv,rfl,h⟩
theorem Aly {ds es:List V} {Q:V->Sto->Prop} (h:Q (.tup (ds ++ es)) σ) (hl:ds.length + es.length<=100000):Bo P n .Add (.tup ds) (.tup es) σ Q:=
 fun A st B g env m s u v hr hu hv hm=>by
  have hu0:=hu
  have hv0:=hv
  obtain ⟨l1,i1,rfl,h1,v1⟩:=hu.isTup
  obtain ⟨l2,i2,rfl,h2,v2⟩:=hv.isTup
  obtain ⟨d1,n1,s1,o1⟩:=Acz (IsTuple.stays h1 hr.fz)
  obtain ⟨d2,n2,s2,o2⟩:=Acz (IsTuple.stays h2 hr.fz)
  have z1:i1.size=ds.length:=by rw [<- v1.length,Bg5]
  have z2:i2.size=es.length:=by rw [<- v2.length,Bg5]
  by_cases e1:ds=[]
  · subst e1
    refine Cb9 ⟨_,o1,rfl⟩ ⟨_,o2,rfl⟩ Co8 seq_tuple_add Cd5 Cd2 (Cc1 _ _) (tuple_addW0 l1 l2 i1 i2 n1 n2 d1 d2 s1 s2 (by simpa using Array.eq_empty_of_size_eq_zero z1)) ⟨o1,o2,?_⟩
    exact ⟨g,σ,m,_,A2 g,hr,hv0,rfl,h⟩
  · by_cases e2:es=[]
    · subst e2
      rw [Bh6] at h
      have ne1:¬ i1.isEmpty=true:=fun q=>e1 (Br3.mp (by rw [<- z1]; simpa using q))
      refine Cb9 ⟨_,o1,rfl⟩ ⟨_,o2,rfl⟩ Co8 seq_tuple_add Cd5 Cd2 (Cc1 _ _) (tuple_addW1 l1 l2 i1 i2 n1 n2 d1 d2 s1 s2 ne1 (by simpa using Array.eq_empty_of_size_eq_zero z2)) ⟨o1,o2,?_⟩
      exact ⟨g,σ,m,_,A2 g,hr,hu0,rfl,h⟩
    · have ne1:¬ i1.isEmpty=true:=fun q=>e1 (Br3.mp (by rw [<- z1]; simpa using q))
      have ne2:¬ i2.isEmpty=true:=fun q=>e2 (Br3.mp (by rw [<- z2]; simpa using q))
      obtain ⟨g',hg,R',rv⟩:=Aji hr (items:=i1 ++ i2) (ds:=ds ++ es) (by rw [Ci1]; exact v1.append v2) "tuple" (.inr rfl) s.toks
      refine Cb9 ⟨_,o1,rfl⟩ ⟨_,o2,rfl⟩ Co8 seq_tuple_add Cd5 Cd2 (Cc1 _ _) (tuple_addW2 l1 l2 i1 i2 n1 n2 d1 d2 s1 s2 ne1 ne2 (by rw [z1,z2]; exact sz hl)) ⟨o1,o2,?_⟩
      exact ⟨g',σ,m,_,hg,R',rv,rfl,h⟩
set_option tactic.hygienic true in
theorem Ar6 {ds:List V} {x:Int} {k:Nat} {Q:V->Sto->Prop} (hk:x=k) (h0:0 < k) (hne:ds≠[]) (h:Q (.tup (Bg8 k ds).flatten) σ) (hl:ds.length * k<=100000):Bo P n .Mult (.tup ds) (.int x) σ Q:=
 fun A st B g env m s u v hr hu hv hm=>by
  obtain ⟨_,rfl⟩:=hv.inv; rename_i tk0
  have hu0:=hu
  obtain ⟨l1,i1,rfl,h1,v1⟩:=hu.isTup
  obtain ⟨d1,n1,s1,o1⟩:=Acz (IsTuple.stays h1 hr.fz)
  have z1:i1.size=ds.length:=by rw [<- v1.length,Bg5]
  have ne1:¬ i1.isEmpty=true:=fun q=>hne (Br3.mp (by rw [<- z1]; simpa using q))
  refine wpAny_binaryOp_repeat_ref (T:="tuple") (U:="int") (by decide) ⟨_,o1,rfl⟩ (fun s'=>typeIs_int s' x tk0) Afw F.fills_int_mul Ch9 Ak2 F.slot_int_index.lookup
    (Bx1 Ch9 (typeIs_int s x tk0) F.entry_int_rmul (F.args_int_rmul_2 _ _) (Ahl x tk0 l1 i1 n1 d1 s1) ⟨o1,rfl,⟨_,o1,rfl⟩,?_⟩)
  by_cases e:k=1
  · subst e
    have hx:x=1:=hk
    subst hx
    refine Bx1 Cg6 ⟨_,o1,rfl⟩ F.entry_tuple_mul (F.args_tuple_mul_2 _ _) (Aof l1 i1 n1 d1 s1 tk0) ⟨o1,?_⟩
    refine ⟨g,σ,m,_,A2 g,hr,hu0,rfl,?_⟩
    simpa using h
  · have hd:0 < ds.length:=List.length_pos_iff.mpr hne
    have hfl:Cb1 (fun x1 x2=>x1 ++ x2) #[] (Bg8 x.toNat i1)=((Bg8 k i1.toList).flatten).toArray:=by
      rw [Afg,show x.toNat=k from by rw [hk]; rfl]; simp
    have hk2:(ds.length * k:Nat)=((ds.length:Int) * x):=by rw [hk]; push_cast; rfl
    have hmul:k<=ds.length * k:=Nat.le_mul_of_pos_left k hd
    obtain ⟨g',hg,R',rv⟩:=Aji hr (items:=Cb1 (fun x1 x2=>x1 ++ x2) #[] (Bg8 x.toNat i1)) (ds:=(Bg8 k ds).flatten) (by rw [hfl]; exact v1.flat k) "tuple" (.inr rfl) s.toks
    refine Bx1 Cg6 ⟨_,o1,rfl⟩ F.entry_tuple_mul (F.args_tuple_mul_2 _ _) (Ao6 l1 i1 n1 d1 s1 x tk0 ?_ ?_ ?_ ?_ ?_ ?_) ⟨o1,?_⟩
    · rw [Bv6,decide_eq_true_eq,decide_eq_true_eq,hk]; exact fun h=>h.elim (fun h=>absurd h (Bs6.mpr (tn (by decide)))) fun h=>absurd h (Bx9.mpr (tk (Be8 hmul hl) (by decide)))
    · rw [Bv6,beq_iff_eq]; rintro (q | q)
      · exact ne1 q
      · lia
    · rw [Bv6,decide_eq_true_eq]; rintro (q | q)
      · lia
      · exact ne1 q
    · rw [z1,<- hk2]; exact Bs6.mpr (ti hl (by decide))
    · unfold Bi9.Tuple.tupleTooMany; rw [decide_eq_true_eq,z1,Bn6,<- hk2]; exact Bs6.mpr (ti hl (by decide))
    · rw [hfl,Bp2,An7,Bg5,z1,Bn6,Br7]; exact Be8 hl (by decide)
    · exact ⟨g',σ,m,_,hg,R',rv,rfl,h⟩
set_option tactic.hygienic true in
theorem Avm {c:V} {ds:List V} {x:Int} {k:Nat} {Q:V->Sto->Prop} (hc:Dv σ c (.lst ds)) (hk:x=k) (h:∀ a,σ a=none->Q (.loc a) (σ.put a (.list (Bg8 k ds).flatten))) (hl:ds.length * k<=100000) (hk2:k<=100000):Bo P n .Mult c (.int x) σ Q:=
 fun A st B g env m s u v hr hu hv hm=>by
  obtain ⟨_,rfl⟩:=hv.inv; rename_i tk0
  obtain ⟨l1,i1,rfl,h1,v1⟩:=hc.items hr.toRepC hu
  obtain ⟨d1,n1,s1,o1⟩:=Adr h1
  have z1:i1.size=ds.length:=by rw [<- v1.length,Bg5]
  have hxk:x.toNat=k:=by rw [hk]; rfl
  have e:Cb1 (fun x1 x2=>x1 ++ x2) #[] (Bg8 (if i1.isEmpty=true then 0 else x.toNat) i1)=((Bg8 k i1.toList).flatten).toArray:=by
    by_cases q:i1.isEmpty=true
    · have:i1=#[]:=by simpa using q
      subst this
      rw [if_pos (by rfl)]; simp
    · rw [if_neg q,Afg,hxk]; simp
  refine wpAny_binaryOp_repeat_ref (T:="list") (U:="int") (by decide) ⟨_,o1,rfl⟩ (fun s'=>typeIs_int s' x tk0) noFill_list_mul F.fills_int_mul Ch9 repeat_list F.slot_int_index.lookup
    (Bx1 Ch9 (typeIs_int s x tk0) F.entry_int_rmul (F.args_int_rmul_2 _ _) (lm_int_rmul_list_any x tk0 l1 i1 n1 d1 s1) ⟨o1,rfl,⟨_,o1,rfl⟩,?_⟩)
  refine Bx1 F.slot_list_mul ⟨_,o1,rfl⟩ F.entry_list_mul (F.args_list_mul_2 _ _) (lm_list_mul_any l1 i1 n1 d1 s1 x tk0 ?_ ?_ ?_) ⟨o1,?_⟩
  · have:Bu1 x=true:=by
      unfold Bu1
      rw [Bg1]
      constructor
      · exact decide_eq_true (by rw [hk]; exact tn (by decide))
      · exact decide_eq_true (by rw [hk]; exact tk hk2 (by decide))
    rw [this]; decide
  · rw [z1,hxk]; exact Ck8.mpr (Be8 hl (by decide))
  · unfold Bi9.List.listTooLong; rw [decide_eq_true_eq,z1,hxk]; exact Ck8.mpr (sz hl)
  · rw [e]
    obtain ⟨hn,R2⟩:=hr.Ac7 (x:=.list (Bg8 k ds).flatten) (Aa3 s.heap _) (Bh7 _) (Bi4 s.heap (o:={ cls:=.type "list",data:=.seq (Bg8 k i1.toList).flatten.toArray }) rfl) ⟨rfl,_,_,rfl,by simpa using v1.flat k,rfl,rfl⟩ s.toks
    exact ⟨g,_,m,_,A2 g,R2,.loc _,rfl,h _ hn⟩
end
section
variable {P:Pm} {B:Bs} {g:Heap} {A:Around} {st:List Env} {env:Env} {σ:Sto} {m:A8} {s:Shared}
theorem RepC.Ao7 (R:RepC P B g A st σ s) {C} (h1:g.get? C=none) (h2:B.k.get? C=none) (h3:σ C=none) (h4:∀ e∈st,e.frame≠some C) {h'} (hs:∀ b o,b≠C->s.heap.get? b=some o->h'.get? b=some o) (tk:Nat) :
   RepC P B g A st σ { s with heap:=h',toks:=tk }:=by
 refine ⟨R.pc,R.stack,?_,?_,?_,R.ext,R.new,?_,R.gens,R.drawn,R.os⟩
 · have:=R.stk
   clear R
   induction st with
   | nil=>trivial
   | cons e r ih=>
     obtain ⟨a,⟨F,o,f1,f2,f3,f4⟩,c⟩:=this
     exact ⟨a,⟨F,o,f1,hs F o (by rintro rfl; exact h4 e (.head _) f1) f2,f3,f4⟩,ih (fun e he=>h4 e (.tail _ he)) c⟩
 · intro b o e
   have hb:b≠C:=by rintro rfl; rw [h2] at e; cases e
   rcases R.keeps b o e with q | ⟨f,sl,q⟩
   · exact .inl (hs b _ hb q)
   · exact .inr ⟨f,sl,hs b _ hb q⟩
 · exact fun b o e=>hs b o (by rintro rfl; rw [h1] at e; cases e) (R.fz b o e)
 · intro b x e
   obtain ⟨q1,q2,o,q3,q4⟩:=R.sto b x e
   exact ⟨q1,q2,o,hs b o (by rintro rfl; rw [h3] at e; cases e) q3,q4⟩
theorem Rep.Ao7 (R:Rep P B g A st env σ m s) {C} (h1:g.get? C=none) (h2:B.k.get? C=none) (h3:σ C=none) (h4:∀ e∈st,e.frame≠some C) (h5:C≠env.locals) (h6:∀ x c,(env.kindOf x=some .cell∨env.kindOf x=some .free)->env.cells.lookup x=some c->c≠C)
  {h'} (hs:∀ b o,b≠C->s.heap.get? b=some o->h'.get? b=some o) (tk:Nat):Rep P B g A st env σ m { s with heap:=h',toks:=tk }:=
 ⟨R.toRepC.Ao7 h1 h2 h3 h4 hs tk,R.fr.but hs h5 h6,R.own⟩
theorem It.grow {h h' en src it ds} (x:It B g h en src it ds) (k:h.StaysIn h'):It B g h' en src it ds:=by
 induction x using It.casesOn with
 | list a b c d e=>obtain ⟨o,h1,h2⟩:=a; exact .list ⟨o,k _ _ h1,h2⟩ b c d e
 | As7 a d e=>obtain ⟨o,h1,h2⟩:=a; exact .As7 ⟨o,k _ _ h1,h2⟩ d e
 | tup a b c d e=>obtain ⟨o,h1,h2⟩:=a; exact .tup ⟨o,k _ _ h1,h2⟩ b c d e
 | rng a d e=>exact .rng (k _ _ a) d e
 | enum a b c d e f1 f2 f3 f4=>obtain ⟨o,h1,h2⟩:=b; exact .enum (k _ _ a) ⟨o,k _ _ h1,h2⟩ c d e f1 f2 f3 f4
 | Asa a b c d e f1 f2 f3 f4=>obtain ⟨o,h1,h2⟩:=b; exact .Asa (k _ _ a) ⟨o,k _ _ h1,h2⟩ c d e f1 f2 f3 f4
theorem It.base {B' h en src it ds} (x:It B g h en src it ds) (k:∀ b o,h.get? b=some o->(∃ vs,o.data=.fields vs)->g.get? b=none->B.k.get? b=none->B'.k.get? b=none):It B' g h en src it ds:=by
 induction x using It.casesOn with
 | list a b c d e=>obtain ⟨o,h1,h2,h3⟩:=id a; exact .list a b c d (k _ _ h1 ⟨_,h3⟩ d e)
 | As7 a d e=>obtain ⟨o,h1,h2,h3⟩:=id a; exact .As7 a d (k _ _ h1 ⟨_,h3⟩ d e)
 | tup a b c d e=>obtain ⟨o,h1,h2,h3⟩:=id a; exact .tup a b c d (k _ _ h1 ⟨_,h3⟩ d e)
 | rng a d e=>exact .rng a d (k _ _ a ⟨_,rfl⟩ d e)
 | enum a b c d e f1 f2 f3 f4=>obtain ⟨o,h1,h2,h3⟩:=id b; exact .enum a b c d e f1 (k _ _ h1 ⟨_,h3⟩ f1 f2) f3 (k _ _ a ⟨_,rfl⟩ f3 f4)
 | Asa a b c d e f1 f2 f3 f4=>obtain ⟨o,h1,h2,h3⟩:=id b; exact .Asa a b c d e f1 (k _ _ h1 ⟨_,h3⟩ f1 f2) f3 (k _ _ a ⟨_,rfl⟩ f3 f4)
theorem It.again {en it ds src Q E} (x:It B g s.heap en src it ds) (h:Q (.ref it) s):wpAny (model P.prog P.w) A (pyIter (.ref it)) Q E s:=by
 induction x using It.casesOn with
 | list a b c d e=>exact wpAny_pyIter_listiter a h
 | As7 a d e=>exact wpAny_pyIter_listiter a h
 | tup a b c d e=>exact wpAny_pyIter_tupleiter a h
 | rng a d e=>exact wpAny_pyIter_rangeiter a h
 | enum a b c d e f1 f2 f3 f4=>exact Cf6 a h
 | Asa a b c d e f1 f2 f3 f4=>exact Cf6 a h
end
theorem Alz (elt:Expr) (gens:List Comprehension) (scope:Scope) (pos:Pos) (d:Nat) (it acc:Value) (env:Env) (g:Comprehension) (h:gens[d]?=some g) (h2:gens[d+1]?=none) (ha:g.is_async=0) :
  compTurn (.ListComp elt gens scope pos) d it acc env=(do
   Cb7 g.iter.pos
   match <- pyNext it with
   | none=>pure (.done .next)
   | some v=>
    Bl5 g.target it v
    assign g.target env v
    let mut ok:=true
    for c in g.ifs do
     if ok then ok <- isTrue c env (eval c env)
    if ok then
     (do let _ <- call (.builtin "list.append") [acc,<- eval elt env])
    again (.compLoop (.ListComp elt gens scope pos) d it acc env)):=by
 unfold compTurn
 simp only [h,h2,ha]
 rfl
theorem Am4 (elt:Expr) (gens:List Comprehension) (scope:Scope) (pos:Pos) (d:Nat) (it acc:Value) (env:Env) (g g':Comprehension) (h:gens[d]?=some g) (h2:gens[d+1]?=some g') (ha:g.is_async=0) (ha':g'.is_async=0) :
  compTurn (.ListComp elt gens scope pos) d it acc env=(do
   Cb7 g.iter.pos
   match <- pyNext it with
   | none=>pure (.done .next)
   | some v=>
    Bl5 g.target it v
    assign g.target env v
    let mut ok:=true
    for c in g.ifs do
     if ok then ok <- isTrue c env (eval c env)
    if ok then
     let x <- eval g'.iter env
     Cb7 g'.iter.pos
     let x <- Bo7 g'.iter env x
     let _ <- runOwn (.compStart (.ListComp elt gens scope pos) (d + 1) (<- holding [x] (pyIter x)) acc env) env
    again (.compLoop (.ListComp elt gens scope pos) d it acc env)):=by
 unfold compTurn
 simp only [h,h2,ha,ha']
 rfl
theorem Afq {prog w A R s elt gens scope pos d it acc env c} (hd:gens[d]?=some c) (ha:c.is_async=0)
   (h0:Cb8 (model prog w) A (.compLoop (.ListComp elt gens scope pos) d it acc env) R s)
   (h:∀ E,wpAny (model prog w) A (pyIter it) (fun it' s'=>Cb8 (model prog w) A (.compLoop (.ListComp elt gens scope pos) d it' acc env) R s') E s) :
   Cb8 (model prog w) A (.compStart (.ListComp elt gens scope pos) d it acc env) R s:=by
 refine Cd0 ?_
 show wpAny _ _ ((compStart (.ListComp elt gens scope pos) d it acc env).onRaise (fun x=>do Cm5 x env; Cb7 theWindowsPlace)) _ _ s
 refine wpAny_notedAt ?_
 have e:compStart (.ListComp elt gens scope pos) d it acc env=(do
    if (<- ask).params.followText "comprehension-iter-twice" then return <- again (.compLoop (.ListComp elt gens scope pos) d it acc env)
    rule "comprehension.iter-twice"
    Cb7 c.iter.pos
    again (.compLoop (.ListComp elt gens scope pos) d (<- pyIter it) acc env)):=by
   unfold compStart
   have hc:clausesOf (.ListComp elt gens scope pos)=gens:=rfl
   simp only [hc,hd,Option.elim_some,ha]
   rfl
 rw [e]
 refine Be9 (Ch3 (wpAny_ite ?_))
 split
 · first
    | exact Be9 (Bf6 (Bf6 (And.intro rfl h0)))
    | exact Bf6 (And.intro rfl h0)
 · exact Be9 (wpAny_rule (Be9 (Bo3 (Be9 (Bf3 (h _) (fun it' s' h'=>Bf6 (And.intro rfl h')) fun _ _ x=>x)))))
noncomputable abbrev Ts (P:Pm) (n:Nat) (fx:Fx) (ifs:List Expr) (σ:Sto) (m:A8) (Q:Bool->Sto->Prop):Prop:=
 JS EqR P n fx (fun env=>forIn ifs true fun c r=>if r=true then do let ok <- isTrue c env (eval c env); pure (ForInStep.yield ok) else pure (ForInStep.yield r)) σ m (fun v σ' m'=>m'=m/\Q v σ') (fun _ _ _=>False)
noncomputable def noX:Xt:=fun _ _ _=>False
noncomputable def ClS (P:Pm) (n:Nat) (fx:Fx) (en:Bool) (src:Option (Addr × List V)) (e:Expr) (d:Nat) (acc:Addr) (ds:List V) (σ:Sto) (m:A8) (Q:Sto->Prop):Prop:=
 ∀ A st B g env s it,Ad5 fx env st->Rep P B g A st env σ m s->Bg A n->It B g s.heap en src it ds ->
  Cb8 (model P.prog P.w) A (.compLoop e d (.ref it) (.ref acc) env) (fun r s'=>match r with | .ok _=>BdP P B A st env g (fun σ' m'=>m'=m/\Q σ') s' | .error _=>False) s
noncomputable abbrev Cl (P:Pm) (n:Nat) (fx:Fx) (en:Bool) (e:Expr) (d:Nat) (acc:Addr) (ds:List V) (σ:Sto) (m:A8) (Q:Sto->Prop):Prop:=ClS P n fx en none e d acc ds σ m Q
noncomputable def Elt (P:Pm) (n:Nat) (fx:Fx) (en:Bool) (src:Option (Addr × List V)) (elt:Expr) (gens:List Comprehension) (scope:Scope) (pos:Pos) (d:Nat) (acc:Addr) (m:A8) (Q:Sto->Prop) (r:List V) (m1:A8) (σ2:Sto):Option Comprehension->Prop
 | none=>Ev P n fx elt σ2 m1 (fun v σ3=>∃ vs,σ3 acc=some (.list vs)/\vs.length<=100000/\ClS P n fx en src (.ListComp elt gens scope pos) d acc r (σ3.put acc (.list (vs ++ [v]))) m Q) noX
 | some c'=>(∀ env x,Bo7 c'.iter env x=pure x)/\∃ en',Itr P n fx en' c'.iter σ2 m1 (fun ds' σ3=>Cl P n fx en' (.ListComp elt gens scope pos) (d + 1) acc ds' σ3 m1 (fun σ4=>ClS P n fx en src (.ListComp elt gens scope pos) d acc r σ4 m Q)) noX
inductive Be0 (P:Pm) (B:Bs) (A:Around) (st:List Env) (env:Env) (m:A8) (g:Heap) (en:Bool) (src:Option (Addr × List V)) (it:Addr) (F:List V->A8->Sto->Prop) (s':Shared):Prop
 | mk (B':Bs) (g3:Heap) (σ3:Sto) (m3:A8) (r:List V) (hB:∀ g' σ' m' s',Rep P B' g' A st env σ' m' s'->Rep P B g' A st env σ' m' s') (hg:g.StaysIn g3) (hr:Rep P B' g3 A st env σ3 m3 s')
  (hi:∀ g4 σ4 m4 s5,g3.StaysIn g4->Rep P B' g4 A st env σ4 m4 s5->It B g4 s5.heap en src it r) (hm:∀ y v,m y=some v->m3 y=some v) (hq:F r m3 σ3)
inductive Bc8 (P:Pm) (B:Bs) (A:Around) (st:List Env) (env:Env) (m:A8) (g:Heap) (en:Bool) (src:Option (Addr × List V)) (it:Addr) (G:List V->Sto->Prop) (s':Shared):Prop
 | mk (g4:Heap) (σ4:Sto) (m4:A8) (r:List V) (hg:g.StaysIn g4) (hr:Rep P B g4 A st env σ4 m4 s') (hm:∀ y v,m y=some v->m4 y=some v) (hi:It B g4 s'.heap en src it r) (hq:G r σ4)
section
variable {P:Pm} {n:Nat} {fx:Fx} {σ:Sto} {m:A8}
theorem Amf {Q} (h:Q true σ):Ts P n fx [] σ m Q:=
 fun A st B g env s he hr hm=>wpAny_tests_nil ⟨g,σ,m,true,A2 g,hr,rfl,rfl,h⟩
theorem Az1 {c Q} (h:Tt P n fx c σ m Q noX):Ts P n fx [c] σ m Q:=
 fun A st B g env s he hr hm=>wpAny_tests_one (h A st B g env s he hr hm)
theorem XP.no {B A st env g e s'} {R:Prop} (h:XP P B A st env g noX e s'):R:=by
 obtain ⟨_,_,_,_,_,_,_,_,_,f⟩:=h; exact f.elim
theorem Aik {en src elt gens scope pos d c acc ds Q} (hd:gens[d]?=some c) (ha:c.is_async=0) (ha2:∀ c',gens[d+1]?=some c'->c'.is_async=0)
  (Auy:∀ l all,src=some (l,all)->σ l=some (.list all))
  (hgo:(∃ elts k pos,c.target=.Tuple elts k pos)∨((∀ it v,Bl5 c.target it v=pure ())/\en=false))
  (Anz:ds=[]->Q σ)
  (Afr:∀ x r,ds=x :: r->Bd P n fx c.target x σ m (fun σ1 m1=>(∀ y v,m y=some v->m1 y=some v)/\Ts P n fx c.ifs σ1 m1 (fun b σ2=>if b then Elt P n fx en src elt gens scope pos d acc m Q r m1 σ2 gens[d+1]?
    else ClS P n fx en src (.ListComp elt gens scope pos) d acc r σ2 m Q)) noX) :
  ClS P n fx en src (.ListComp elt gens scope pos) d acc ds σ m Q:=fun A st B g env s it he hr hm hi=>by
 refine Cd0 ?_
 show wpAny _ A ((compTurn (.ListComp elt gens scope pos) d (.ref it) (.ref acc) env).onRaise (fun x=>do Cm5 x env; Cp8 x)) _ _ s
 refine wpAny_noted ?_
 have fin:∀ (E:Value->Shared->Prop) {s₄:Shared},Bc8 P B A st env m g en src it (fun r σ4=>ClS P n fx en src (.ListComp elt gens scope pos) d acc r σ4 m Q) s₄ ->
   wpAny (model P.prog P.w) A (again (.compLoop (.ListComp elt gens scope pos) d (.ref it) (.ref acc) env)) (fun fin s'=>match fin with
    | .done f=>(match (Except.ok f:Result) with | .ok _=>BdP P B A st env g (fun σ' m'=>m'=m/\Q σ') s' | .error _=>False)
    | .again c'=>c'.quiet=true/\Cb8 (model P.prog P.w) A c' (fun r s'=>match r with | .ok _=>BdP P B A st env g (fun σ' m'=>m'=m/\Q σ') s' | .error _=>False) s') E s₄:=
  fun E s₄ qA=>by obtain ⟨g4,σ4,m4,r,hg,R,hmm,hit,hcl⟩:=qA; exact Bf6 ⟨rfl,Bp5 (hcl A st B g4 env s₄ it he (R.drop hmm) hm hit) fun r s' hh=>by
   cases r with
   | ok f=>exact BdP.mono hh hg fun _ _ x=>x
   | error e=>exact hh.elim⟩
 have nextK:∀ E:Value->Shared->Prop,wpAny (model P.prog P.w) A (pyNext (.ref it)) (fun r s₁=>match r with
   | none=>Rep P B g A st env σ m s₁/\ds=[]
   | some v=>wpAny (model P.prog P.w) A (Bl5 c.target (.ref it) v) (fun _ s₂=>NxP P B g A st env σ m en src it ds v s₂) E s₁) E s:=fun E=>
  Bf3 (It.next (target:=c.target) (E:=E)
   (K:=fun r s₁=>match r with
    | none=>Rep P B g A st env σ m s₁/\ds=[]
    | some v=>NxP P B g A st env σ m en src it ds v s₁) hr hm.2.2 hi Auy (hgo.imp id fun q=>⟨fun v=>q.1 _ v,q.2⟩)
   (fun e h' R'=>⟨R',e⟩) (fun d r e v g' h' tk hg R' hv hi'=>⟨d,r,g',e,hg,R',hv,hi'⟩)) (fun r s₁ h₁=>by cases r <;> exact h₁) fun _ _ q=>q
 -- the turn's middle: target,tests
 have mid:∀ (v:Value) (s₂:Shared) (E:Value->Shared->Prop),NxP P B g A st env σ m en src it ds v s₂ ->
   wpAny (model P.prog P.w) A (assign c.target env v) (fun _ s₃=>wpAny (model P.prog P.w) A (forIn c.ifs true fun c r=>if r=true then do let ok <- isTrue c env (eval c env); pure (ForInStep.yield ok) else pure (ForInStep.yield r))
    (fun ok s4=>match ok with
     | true=>Be0 P B A st env m g en src it (fun r m3 σ3=>Elt P n fx en src elt gens scope pos d acc m Q r m3 σ3 gens[d+1]?) s4
     | false=>Bc8 P B A st env m g en src it (fun r σ4=>ClS P n fx en src (.ListComp elt gens scope pos) d acc r σ4 m Q) s4) E s₃) E s₂:=by
  rintro v s₂ E ⟨x,r,g',hds,hg,R',hv,hi'⟩
  obtain ⟨B',hB1,RB,hB2,hB3,hB4⟩:=R'.step
  refine Bf3 (Afr x r hds A st B' g' env s₂ v he RB hm hv) (fun _ s₃ qM=>?_) fun e s3 hx=>hx.no
  obtain ⟨g3,σ3,m3,hg3,hr3,hmm,hq3⟩:=qM
  refine Bf3 (hq3 A st B' g3 env s₃ he hr3 hm) (fun ok s₄ qM=>?_) fun e s3' hx=>(show XP P B' A st env g3 noX e s3' from hx).no
  obtain ⟨g4,σ4,m4,b4,hg4,hr4,hb,hm4,hq4⟩:=qM
  obtain rfl:ok=b4:=hb
  subst hm4
  have gg:=A3 hg3 hg4
  cases ok with
  | true=>exact ⟨B',g4,σ4,m4,r,hB4,A3 hg gg,hr4,(fun g5 σ5 m5 s5 h5 r5=>It.through R' hB1 hB2 hi' (A3 gg h5) r5),hmm,hq4⟩
  | false=>exact ⟨g4,σ4,m4,r,A3 hg gg,hB4 _ _ _ _ hr4,hmm,It.through R' hB1 hB2 hi' gg hr4,hq4⟩
 cases hd1:gens[d+1]? with
 | none=>
  rw [hd1] at mid
  rw [Alz elt gens scope pos d _ _ env c hd hd1 ha]
  refine Be9 (Bo3 (Be9 (Bf3 (nextK _) (fun r s₁ h₁=>?_) fun _ _ h'=>h')))
  cases r with
  | none=>exact Bf6 ⟨g,σ,m,A2 g,h₁.1,rfl,Anz h₁.2⟩
  | some v=>
   refine Be9 (Bf3 h₁ (fun _ s₂ h₂=>?_) fun _ _ h'=>h')
   refine Be9 (Bf3 (mid v s₂ _ h₂) (fun _ s₃ h₃=>Be9 (Bf3 h₃ (fun ok s₄ h₄=>?_) fun _ _ h'=>h')) fun _ _ h'=>h')
   cases ok with
   | false=>exact fin _ h₄
   | true=>
    obtain ⟨B',g3,σ3,m3,r,a1,a2,a3,a4,a5,a6⟩:=h₄
    refine Be9 (Be9 (Bf3 (a6 A st B' g3 env s₄ he a3 hm) (fun y s₅ qM=>?_) fun e s' hx=>hx.no))
    obtain ⟨g5,σ5,m5,dv,b1,b2,b3,b4,vs,b5,b6,b7⟩:=qM
    subst b4
    refine Be9 (Bf3 (Ae (P:=P) (n:=n) (Q:=fun v' σ'=>σ'=σ5.put acc (.list (vs ++ [dv]))) b5 rfl b6 A st B' g5 env _ s₅ [.ref acc,y] b2 (.cons (.loc acc) (.one b3)) hm) (fun _ s₆ qM=>?_) fun _ _ q=>q.elim)
    obtain ⟨g6,σ6,m6,d6,c1,c2,c3,c4,c5⟩:=qM
    subst c4; subst c5
    exact Bf6 (fin _ ⟨_,_,_,_,A3 a2 (A3 b1 c1),a1 _ _ _ _ c2,a5,a4 _ _ _ _ (A3 b1 c1) c2,b7⟩)
 | some c'=>
  have hA:=ha2 c' hd1
  rw [hd1] at mid
  rw [Am4 elt gens scope pos d _ _ env c c' hd hd1 ha hA]
  refine Be9 (Bo3 (Be9 (Bf3 (nextK _) (fun r s₁ h₁=>?_) fun _ _ h'=>h')))
  cases r with
  | none=>exact Bf6 ⟨g,σ,m,A2 g,h₁.1,rfl,Anz h₁.2⟩
  | some v=>
   refine Be9 (Bf3 h₁ (fun _ s₂ h₂=>?_) fun _ _ h'=>h')
   refine Be9 (Bf3 (mid v s₂ _ h₂) (fun _ s₃ h₃=>Be9 (Bf3 h₃ (fun ok s₄ h₄=>?_) fun _ _ h'=>h')) fun _ _ h'=>h')
   cases ok with
   | false=>exact fin _ h₄
   | true=>
    obtain ⟨B',g3,σ3,m3,r,a1,a2,a3,a4,a5,a7,en',a8⟩:=h₄
    refine Be9 (Bf3 (a8 A st B' g3 env s₄ he a3 hm) (fun x s₅ h₅=>?_) fun e s' hx=>(show XP P B' A st env g3 noX e s' from hx).no)
    refine Be9 (Bo3 (Be9 (Cg8 (a7 env x) ?_)))
    refine Be9 (Bl1 (Bf3 h₅ (fun iv s₆ qM=>?_) fun e s' hx=>(show XP P B' A st env g3 noX e s' from hx).no))
    obtain ⟨g6,σ6,ds6,it6,c1,c2,c3,c4,c5⟩:=qM
    subst c3
    have loop:=c5 A st B' g6 env s₆ it6 he c2 hm c4
    refine Be9 (wpAny_runOwn (Bp5 (Afq hd1 hA loop (fun E=>c4.again loop)) (fun rr s₇ h₇=>?_)))
    cases rr with
    | error e=>exact h₇.elim
    | ok f=>
     obtain ⟨g7,σ7,m7,e1,e2,e3,e4⟩:=h₇
     subst e3
     exact fin _ ⟨_,_,_,_,A3 a2 (A3 c1 e1),a1 _ _ _ _ e2,a5,a4 _ _ _ _ (A3 c1 e1) e2,e4⟩
end
noncomputable def Am0 (scope sc:Scope):Scope:={ scope with names:=scope.names.map fun (n,k)=>if (k == .free && sc.kind == .function && sc.names.lookup n == some .cell) then (n,.cell) else (n,k) }
noncomputable def Adz (scope sc:Scope):Bool:=
 scope.kind == .function && decide ((scope.names.map (·.1)).Nodup) && scope.names.all fun x=>x.2 != .cell && (x.2 != .free || sc.names.lookup x.1 == some .cell || sc.names.lookup x.1 == some .free)
noncomputable def Ach:List (Str × NameKind)->List (Str × Addr)->List (Str × Addr)->List (Str × Addr)
 | [],_,acc=>acc
 | (x,k) :: r,cs,acc=>if k == .free then Ach r cs ((x,(cs.lookup x).getD 0) :: acc) else Ach r cs acc
theorem Atj:∀ (x x_1:List (Str × Addr)),Ach [] x x_1=x_1:=by intros; rfl
theorem Aja:∀ (x x_1:List (Str × Addr)) (x_3:Str) (k:NameKind) (r:List (Str × NameKind)),Ach ((x_3,k) :: r) x x_1=if (k == NameKind.free)=true then Ach r x ((x_3,(List.lookup x_3 x).getD 0) :: x_1) else Ach r x x_1:=by intros; rfl
theorem Asu {env scope} (h:∀ x∈scope.names,x.2=.free->∃ c,env.cells.lookup x.1=some c):closureFor scope env=pure (Ach scope.names env.cells []):=by
 have go:∀ (names:List (Str × NameKind)) (acc:List (Str × Addr)),(∀ x∈names,x.2=.free->∃ c,env.cells.lookup x.1=some c) ->
   (forIn names acc fun (x:Str × NameKind) (cs:List (Str × Addr))=>(match x with | (name,kind)=>if (kind == NameKind.free)=true then (do let a <- cellOf env name; pure (ForInStep.yield ((name,a) :: cs))) else pure (ForInStep.yield cs):Sem (ForInStep (List (Str × Addr)))))=pure (Ach names env.cells acc):=by
  intro names
  induction names with
  | nil=>intro acc _; rfl
  | cons y r ih=>
   intro acc hh
   obtain ⟨x,k⟩:=y
   rw [Cg3]
   have ih':=fun acc=>ih acc fun z hz=>hh z (.tail _ hz)
   rw [Aja]
   by_cases hk:(k == NameKind.free)=true
   · obtain ⟨c,hc⟩:=hh (x,k) (.head _) (by simpa using hk)
     simp only [hk,if_true]
     have e:cellOf env x=pure c:=by unfold cellOf; rw [hc]
     rw [e,hc]
     exact ih' ((x,c) :: acc)
   · simp only [hk,Bp7,if_false]
     exact ih' _
 unfold closureFor
 show (forIn scope.names [] _ >>= fun cs=>pure cs)=_
 have:=go scope.names [] h
 rw [this]
 rfl
theorem Abs:∀ (names:List (Str × NameKind)) (cs acc:List (Str × Addr)) (x:Str),(names.map (·.1)).Nodup->(∀ y∈names,acc.lookup y.1=none) ->
  (Ach names cs acc).lookup x=if names.lookup x=some .free then some ((cs.lookup x).getD 0) else acc.lookup x
 | [],cs,acc,x,_,_=>by simp [Atj,Aja]
 | (y,k) :: r,cs,acc,x,hn,ha=>by
  simp only [Bh1,Br9] at hn
  rw [Aja]
  have hne:∀ z∈r,(z.1 == y)=false:=fun z hz=>by
    rw [beq_eq_false_iff_ne]; rintro e; exact hn.1 (Bh3.mpr ⟨z,hz,e⟩)
  rw [Bn4]
  by_cases hk:(k == NameKind.free)=true
  · rw [if_pos hk,Abs r cs _ x hn.2 (fun z hz=>by rw [Bn4,hne z hz]; exact ha z (.tail _ hz))]
    have hk':k=.free:=by simpa using hk
    subst hk'
    cases q:(x == y) with
    | true=>
     have e:=beq_iff_eq.mp q
     subst e
     have:r.lookup x≠some .free:=fun w=>hn.1 (Bh3.mpr ⟨_,lookup_mem w,rfl⟩)
     rw [if_neg this,Bn4,q]
     simp
    | false=>rw [Bn4,q]
  · rw [if_neg hk,Abs r cs _ x hn.2 (fun z hz=>ha z (.tail _ hz))]
    cases q:(x == y) with
    | true=>
     have e:=beq_iff_eq.mp q
     subst e
     have:r.lookup x≠some .free:=fun w=>hn.1 (Bh3.mpr ⟨_,lookup_mem w,rfl⟩)
     have h2:¬ (some k=some NameKind.free):=fun w=>hk (by cases (w); rfl)
     rw [if_neg this,if_neg h2]
    | false=>rfl
theorem Ai3 (scope sc:Scope) (x:Str):(Am0 scope sc).names.lookup x=(scope.names.lookup x).map fun k=>if (k == .free && sc.kind == .function && sc.names.lookup x == some .cell) then .cell else k:=by
 show (scope.names.map _).lookup x=_
 induction scope.names with
 | nil=>rfl
 | cons y r ih=>
  obtain ⟨y,k⟩:=y
  rw [Bh1]
  dsimp only
  by_cases hc:(k == NameKind.free && sc.kind == .function && sc.names.lookup y == some .cell)=true
  · rw [if_pos hc,Bn4,Bn4]
    cases q:(x == y) with
    | true=>have e:=beq_iff_eq.mp q; subst e; simp only [Bl6,hc,if_true]
    | false=>exact ih
  · rw [if_neg hc,Bn4,Bn4]
    cases q:(x == y) with
    | true=>have e:=beq_iff_eq.mp q; subst e; simp only [Bl6]; rw [if_neg hc]
    | false=>exact ih
noncomputable def Al7 (scope:Scope) (m:A8):A8:=fun x=>if scope.names.lookup x == some .free then m x else none
set_option tactic.hygienic true in
theorem Ah1 {scope m x v} (h:Al7 scope m x=some v):m x=some v/\scope.names.lookup x=some .free:=by
 unfold Al7 at h
 split at h
 · rename_i q; exact ⟨h,beq_iff_eq.mp q⟩
 · cases h
theorem Arc {scope m x} (h:scope.names.lookup x=some .free):Al7 scope m x=m x:=by
 unfold Al7; rw [if_pos (beq_iff_eq.mpr h)]
theorem Stk.Bb6 {g h C} (hC:h.get? C=none) {l} (k:Stk g h l):∀ e∈l,e.frame≠some C:=by
 induction l with
 | nil=>exact fun e he=>nomatch he
 | cons a r ih=>
  obtain ⟨_,⟨F,o,f1,f2,_,_⟩,c⟩:=k
  intro e he
  cases Bi0.mp he with
  | inl q=>rw [q,f1]; intro q; cases q; rw [hC] at f2; cases f2
  | inr he=>exact ih c e he
structure Off (B:Bs) (g:Heap) (st:List Env) (env:Env) (σ:Sto) (C:Addr):Prop where
 g:g.get? C=none
 k:B.k.get? C=none
 s:σ C=none
 st:∀ e∈st,e.frame≠some C
 loc:C≠env.locals
 cel:∀ x c,(env.kindOf x=some .cell∨env.kindOf x=some .free)->env.cells.lookup x=some c->c≠C
section
variable {P:Pm} {n:Nat} {fx:Fx} {σ:Sto} {m:A8} {X:Xt}
theorem Ahu {A:Around} {st:List Env} {B:Bs} {g:Heap} {env:Env} {s:Shared} {elt target iter:Expr} {ifs:List Expr} {cs:List Comprehension} {scope:Scope} {pos cpos:Pos} {en:Bool} {src:Option (Addr × List V)} {use:Option (Value->Sem Unit)} {Q:V->Sto->Prop} {QQ:Value->Shared->Prop}
   (he:Ad5 fx env st) (hr:Rep P B g A st env σ m s) (hm:Bg A n) (ok:Adz scope fx.sc=true)
   (h:Azy P n fx en src iter σ m (fun ds σ1=>∀ acc,σ1 acc=none->ClS P n ⟨Am0 scope fx.sc,true⟩ en src (.ListComp elt (⟨target,iter,ifs,0⟩ :: cs) scope pos) 0 acc ds (σ1.put acc (.list [])) (Al7 scope m) (fun σ2=>∃ vs,σ2 acc=some (.list vs)/\Q (.lst vs) (σ2.del acc))) X)
   (hs:∀ env x,Bo7 iter env x=pure x)
   (hK:∀ g6 σ6 vs s5 acc C mC f,g.StaysIn g6->Rep P B g6 A st env σ6 m s5->VR g6 (.ref acc) (.lst vs)->Off B g6 st env σ6 C->s5.heap.Ns C mC->Q (.lst vs) σ6->compPost (model P.prog P.w) A (XP P B A st env g X) use QQ (.ref acc) C (.ok f) s5) :
   wpAny (model P.prog P.w) A (comprehension (.ListComp elt (⟨target,iter,ifs,0⟩ :: cs) scope pos) scope env cpos (newList []) false (eval iter env) use) QQ (XP P B A st env g X) s:=by
 simp only [Adz,Bg1,beq_iff_eq,decide_eq_true_eq,Bj8,bne_iff_ne,Bv6] at ok
 obtain ⟨⟨ok1,ok2⟩,ok3⟩:=ok
 have Ax7:∀ x,env.kindOf x=fx.sc.names.lookup x:=fun x=>by unfold By0; rw [he.sc]
 have frees:∀ x,scope.names.lookup x=some .free->env.kindOf x=some .cell∨env.kindOf x=some .free:=fun x hx=>by
   rw [Ax7]
   rcases (ok3 _ (lookup_mem hx)).2 with (q | q) | q
   · exact absurd rfl q
   · exact .inl q
   · exact .inr q
 have look:∀ x∈scope.names,scope.names.lookup x.1=some x.2:=by
   have:∀ l:List (Str × NameKind),(l.map (·.1)).Nodup->∀ x∈l,l.lookup x.1=some x.2:=by
     intro l
     induction l with
     | nil=>intro _ x hx; cases hx
     | cons y r ih=>
       intro hn x hx
       simp only [Bh1,Br9] at hn
       rw [Bn4]
       rcases Bi0.mp hx with rfl | hx
       · simp
       · have:(x.1 == y.1)=false:=by rw [beq_eq_false_iff_ne]; rintro e; exact hn.1 (e ▸ Bi8 hx)
         rw [this]; exact ih hn.2 x hx
   exact this _ ok2
 have Bdh:relabel scope env=Am0 scope fx.sc:=by unfold relabel Am0 By0; rw [he.sc]
 refine wpAny_comprehension_free (cl:=Ach scope.names env.cells []) rfl (hs env) (Asu fun x hx hf=>?_) ok1 (fun x hx hl=>by rw [look x hx,hl]) ?_
 · obtain ⟨c,cv,q,_⟩:=hr.fr.cel x.1 (frees x.1 (by rw [look x hx,hf]))
   exact ⟨c,q⟩
 refine Bf3 (h A st B g env s he hr hm) (fun x s₁ h₁=>Bf3 h₁ (fun iv s₂ qM=>?_) fun _ _ q=>q) fun _ _ q=>q
 obtain ⟨g',σ1,ds,it,hg,hr2,hiv,hi,hq⟩:=qM
 subst hiv
 refine Bn9 ?_ (Bh2 _)
 obtain ⟨B1,R3⟩:=hr2.Ac7 (x:=.list []) (Aa3 s₂.heap _) (Bh7 _) (Bi4 s₂.heap (o:={ cls:=.type "list",data:=.seq ([]:List Value).toArray }) rfl) ⟨rfl,_,_,rfl,.nil,rfl,rfl⟩ s₂.toks
 have hq':=hq _ B1
 with_reducible refine gze ({ s₂ with heap:=s₂.heap.push { cls:=.type "list",data:=.seq ([]:List Value).toArray } }:Shared) fun s3 hs3=>?_
 have R3':Rep P B g' A st env (σ1.put s₂.heap.objs.size (.list [])) m s3:=hs3 ▸ R3
 have it3:It B g' s3.heap en src it ds:=hs3 ▸ hi.grow (Aa3 s₂.heap _)
 refine wpAny_newFunctionEnv (fun x hx=>(ok3 x hx).1) (by intro y hy; cases hy) (fun h₁ hns hsb=>?_) ok1
 have st4:s3.heap.StaysIn h₁:=fun b o e=>(hsb.2 b (Bl9 (Bl3 e))).trans (Bi5 _ e)
 have R4:=R3'.stays st4 (s3.toks + ([]:List (Str × Value)).length)
 have it4:=it3.grow st4
 revert hns hsb; with_reducible refine gze (s3.heap.objs.size) fun C hC hns hsb=>?_
 have freshC:∀ h:Heap,Keeps h s3.heap->h.get? C=none:=fun h k=>Aa0 k (hC ▸ Ak _)
 have Cg:g'.get? C=none:=Aa2 R3'.fz (hC ▸ Ak s3.heap)
 have Ck:B.k.get? C=none:=freshC _ R3'.keeps
 have Cs:(σ1.put s₂.heap.objs.size (.list [])) C=none:=R3'.Aat (hC ▸ Ak _)
 have Cst:∀ e∈st,e.frame≠some C:=R3'.stk.Bb6 (hC ▸ Ak _)
 have Cl':C≠env.locals:=by
   obtain ⟨ml,⟨oL,es,ep,hL,_⟩,_⟩:=R3'.fr.ns
   rintro rfl; rw [<- hC,Ak] at hL; cases hL
 have Ccel:∀ x c,(env.kindOf x=some .cell∨env.kindOf x=some .free)->env.cells.lookup x=some c->c≠C:=fun x c hx hc=>by
   obtain ⟨c',cv,w1,⟨o',w2,_⟩,_⟩:=R3'.fr.cel x hx
   rw [hc] at w1; cases w1
   rintro rfl; rw [<- hC,Ak] at w2; cases w2
 let Z:Addr->Prop:=fun b=>(∃ x,scope.names.lookup x=some .free/\env.cells.lookup x=some b)∨b=C∨(B.k.get? b=none/\g'.get? b=none/\∃ o,h₁.get? b=some o/\∃ vs,o.data=.fields vs)
 obtain ⟨B',hB1,RB,hB2,hB3,hB4⟩:=R4.toRepC.step Z (fun b hb=>by
   rcases hb with ⟨x,hx,hc⟩ | rfl | ⟨q,_⟩
   · exact (R4.own.cel x b (frees x hx) hc).2.1
   · exact Ck
   · exact q)
 have zk:∀ b,Z b->B'.k.get? b=none:=fun b hb=>by
   cases q:B'.k.get? b with
   | none=>rfl
   | some o=>exact absurd hb ((hB2 b o).mp q).2.1
 with_reducible_and_instances refine gze ({ newEnv scope C env.globals (Ach scope.names env.cells []) env.qual none .none (some env) 0 with scope:=relabel scope env }:Env) fun cenv Ajs=>?_
 have c1:cenv.scope=Am0 scope fx.sc:=by rw [<- Ajs]; exact Bdh
 have c2:cenv.locals=C:=by rw [<- Ajs]; rfl
 have c3:cenv.cells=Ach scope.names env.cells []:=by rw [<- Ajs]; rfl
 have c4:cenv.globals=env.globals:=by rw [<- Ajs]; rfl
 have c5:cenv.builtins=env.builtins:=by rw [<- Ajs]; rfl
 have ck:∀ x,cenv.kindOf x=(Am0 scope fx.sc).names.lookup x:=fun x=>by unfold By0; rw [c1]
 have capd:∀ x,(cenv.kindOf x=some .cell∨cenv.kindOf x=some .free)->scope.names.lookup x=some .free:=fun x hx=>by
   rw [ck,Ai3] at hx
   cases q:scope.names.lookup x with
   | none=>rw [q] at hx; simp at hx
   | some k=>
     rw [q] at hx
     have hkc:=(ok3 _ (lookup_mem q)).1
     simp only [Bl6,Bs3] at hx
     by_cases hc:(k == NameKind.free && fx.sc.kind == .function && fx.sc.names.lookup x == some .cell)=true
     · simp only [Bg1,beq_iff_eq] at hc; rw [hc.1.1]
     · rw [if_neg hc] at hx
       rcases hx with rfl | rfl
       · exact absurd rfl hkc
       · rfl
 have captb:∀ x,scope.names.lookup x=some .free->(cenv.kindOf x=some .cell∨cenv.kindOf x=some .free):=fun x hx=>by
   rw [ck,Ai3,hx]
   simp only [Bl6,Bs3]
   split
   · exact .inl rfl
   · exact .inr rfl
 have clk:∀ x,scope.names.lookup x=some .free->cenv.cells.lookup x=env.cells.lookup x:=fun x hx=>by
   rw [c3,Abs _ _ _ _ ok2 (fun _ _=>rfl),if_pos hx]
   obtain ⟨c,cv,q,_⟩:=R4.fr.cel x (frees x hx)
   rw [q]; rfl
 have clk2:∀ x c,cenv.cells.lookup x=some c->scope.names.lookup x=some .free:=fun x c hx=>by
   rw [c3,Abs _ _ _ _ ok2 (fun _ _=>rfl)] at hx
   by_cases q:scope.names.lookup x=some .free
   · exact q
   · rw [if_neg q] at hx; simp at hx
 have EI:Ad5 ⟨Am0 scope fx.sc,true⟩ cenv st:=⟨c1,ok1,c4.trans he.globals,c5.trans he.builtins,fun q=>nomatch q⟩
 have RI:Rep P B' g' A st cenv (σ1.put s₂.heap.objs.size (.list [])) (Al7 scope m) { s3 with heap:=h₁,toks:=s3.toks + ([]:List (Str × Value)).length }:=by
   refine ⟨RB,⟨⟨_,c2 ▸ hns,fun x v e l=>?_⟩,fun x hx=>?_,fun x y c q1 q2=>?_⟩,⟨?_,fun x c hx hc=>?_⟩⟩
   · exfalso
     have:=captb x (Ah1 e).2
     rw [l] at this; simp at this
   · have hf:=capd x hx
     obtain ⟨c,cv,q1,q2,q3⟩:=R4.fr.cel x (frees x hf)
     exact ⟨c,cv,(clk x hf).trans q1,q2,fun v e=>q3 v (Ah1 e).1⟩
   · exact R4.fr.apart x y c ((clk x (clk2 x c q1)) ▸ q1) ((clk y (clk2 y c q2)) ▸ q2)
   · rw [c2]; exact ⟨Cg,zk _ (.inr (.inl rfl)),Cs⟩
   · have hf:=capd x hx
     rw [clk x hf] at hc
     have:=R4.own.cel x c (frees x hf) hc
     exact ⟨this.1,zk _ (.inl ⟨x,hf,hc⟩),this.2.2⟩
 have itI:It B' g' h₁ en src it ds:=it4.base fun b o e hf q1 q2=>zk _ (.inr (.inr ⟨q2,q1,o,e,hf⟩))
 have loop:=hq' A st B' g' cenv { s3 with heap:=h₁,toks:=s3.toks + ([]:List (Str × Value)).length } it EI RI hm itI
 show Cb8 (model P.prog P.w) A (.compStart _ 0 (.ref it) (.ref s₂.heap.objs.size) ({ newEnv scope C env.globals (Ach scope.names env.cells []) env.qual none .none (some env) 0 with scope:=relabel scope env }:Env)) _ _
 rw [Ajs]
 refine Bp5 (Afq (d:=0) rfl rfl loop (fun E=>itI.again (B:=B') (g:=g') (P:=P) (A:=A) (s:={ s3 with heap:=h₁,toks:=s3.toks + ([]:List (Str × Value)).length }) loop)) fun r s5 h5=>?_
 cases r with
 | error e=>exact h5.elim
 | ok f=>
   obtain ⟨g5,σ5,m5,hg5,R5,hm5,vs,hσ,hQ⟩:=h5
   subst hm5
   obtain ⟨g6,hg6,v6,R6⟩:=R5.Af1 hσ
   have RC:=hB4 g6 A [] st _ s5 R6.toRepC hr.stack
   have gg:g'.StaysIn g6:=A3 hg5 hg6
   have gnone:∀ a o,B'.k.get? a=some o->g'.get? a=none->g6.get? a=none:=fun a o e eg=>by
     cases q:g6.get? a with
     | none=>rfl
     | some o'=>have:=R6.new a (by rw [q]; simp) (hB1.symm ▸ eg); rw [e] at this; cases this
   have snone:∀ a o,B'.k.get? a=some o->(σ5.del s₂.heap.objs.size) a=none:=fun a o e=>by
     cases q:(σ5.del s₂.heap.objs.size) a with
     | none=>rfl
     | some x=>have:=(R6.sto a x q).2.1; rw [e] at this; cases this
   have inK:∀ b o,h₁.get? b=some o->(σ1.put s₂.heap.objs.size (.list [])) b=none->¬ Z b->B'.k.get? b=some o:=fun b o e q1 q2=>(hB2 b o).mpr ⟨q1,q2,e⟩
   have locIn:∃ oL,h₁.get? env.locals=some oL/\B'.k.get? env.locals=some oL:=by
     obtain ⟨ml,⟨oL,es,ep,hL,hd,_⟩,_⟩:=R4.fr.ns
     refine ⟨oL,hL,inK _ _ hL R4.own.loc.2.2 ?_⟩
     rintro (⟨x,hx,hc⟩ | q | ⟨_,_,o,q,vs,q2⟩)
     · exact Abg R4.fr (frees x hx) hc rfl
     · exact Cl' q.symm
     · have hL':h₁.get? env.locals=some oL:=hL
       rw [hL'] at q; cases q; rw [hd] at q2; cases q2
   have celIn:∀ x c,(env.kindOf x=some .cell∨env.kindOf x=some .free)->env.cells.lookup x=some c->scope.names.lookup x≠some .free->∃ o cv,h₁.get? c=some o/\o.data=.cell cv/\B'.k.get? c=some o:=fun x c hx hc hf=>by
     obtain ⟨c',cv,q1,⟨o,q2,q3⟩,_⟩:=R4.fr.cel x hx
     rw [hc] at q1; cases q1
     refine ⟨o,cv,q2,q3,inK _ _ q2 (R4.own.cel x c hx hc).2.2 ?_⟩
     rintro (⟨y,hy,hyc⟩ | q | ⟨_,_,o',q,vs,q4⟩)
     · have:=R4.fr.apart x y c hc hyc
       subst this; exact hf hy
     · exact Ccel x c hx hc q
     · have q2':h₁.get? c=some o:=q2
       rw [q2'] at q; cases q; rw [q3] at q4; cases q4
   have RO:Rep P B g6 A st env (σ5.del s₂.heap.objs.size) m s5:=by
     refine ⟨RC,⟨?_,fun x hx=>?_,R4.fr.apart⟩,⟨?_,fun x c hx hc=>?_⟩⟩
     · obtain ⟨ml,⟨oL,es,ep,hL,hd,r⟩,q⟩:=R4.fr.ns
       obtain ⟨oL',w1,w2⟩:=locIn
       have hL':h₁.get? env.locals=some oL:=hL
       rw [hL'] at w1; cases w1
       obtain ⟨o',w3,w4,_⟩:=R6.keeps.some w2
       exact ⟨ml,⟨o',es,ep,w3,w4.trans hd,r⟩,fun x v e l=>by obtain ⟨c,a,b⟩:=q x v e l; exact ⟨c,a,b.mono gg⟩⟩
     · obtain ⟨c,cv,q1,q2,q4⟩:=R4.fr.cel x hx
       by_cases hf:scope.names.lookup x=some .free
       · obtain ⟨c',cv',w1,w2,w3⟩:=R6.fr.cel x (captb x hf)
         rw [clk x hf,q1] at w1; cases w1
         exact ⟨c,cv',q1,w2,fun v e=>w3 v ((Arc hf).trans e)⟩
       · obtain ⟨o1,cv1,w1,w2,w3⟩:=celIn x c hx q1 hf
         obtain ⟨o,q2a,q2b⟩:=q2
         have q2a':h₁.get? c=some o:=q2a
         rw [q2a'] at w1; cases w1
         obtain ⟨o',w4,w5,_⟩:=R6.keeps.some w3
         exact ⟨c,cv,q1,⟨o',w4,w5.trans q2b⟩,fun v e=>by obtain ⟨y,a,b⟩:=q4 v e; exact ⟨y,a,b.mono gg⟩⟩
     · obtain ⟨oL,w1,w2⟩:=locIn
       exact ⟨gnone _ _ w2 R4.own.loc.1,R4.own.loc.2.1,snone _ _ w2⟩
     · by_cases hf:scope.names.lookup x=some .free
       · have:=R6.own.cel x c (captb x hf) ((clk x hf).trans hc)
         exact ⟨this.1,(R4.own.cel x c hx hc).2.1,this.2.2⟩
       · obtain ⟨o,cv,w1,w2,w3⟩:=celIn x c hx hc hf
         exact ⟨gnone _ _ w3 (R4.own.cel x c hx hc).1,(R4.own.cel x c hx hc).2.1,snone _ _ w3⟩
   obtain ⟨mC,hC',_⟩:=R6.fr.ns
   rw [c2] at hC'
   have oloc:=R6.own.loc
   rw [c2] at oloc
   have:=hK g6 _ vs s5 _ C mC f (A3 hg gg) RO v6 ⟨oloc.1,Ck,oloc.2.2,Cst,Cl',Ccel⟩ hC' hQ
   exact this
theorem Amw {elt target iter:Expr} {ifs:List Expr} {cs:List Comprehension} {scope:Scope} {pos:Pos} {en:Bool} {src:Option (Addr × List V)} {Q:V->Sto->Prop} (ok:Adz scope fx.sc=true)
  (h:Azy P n fx en src iter σ m (fun ds σ1=>∀ acc,σ1 acc=none->ClS P n ⟨Am0 scope fx.sc,true⟩ en src (.ListComp elt (⟨target,iter,ifs,0⟩ :: cs) scope pos) 0 acc ds (σ1.put acc (.list [])) (Al7 scope m) (fun σ2=>∃ vs,σ2 acc=some (.list vs)/\Q (.lst vs) (σ2.del acc))) X)
  (hs:∀ env x,Bo7 iter env x=pure x:=by intro _ _; rfl):Ev P n fx (.ListComp elt (⟨target,iter,ifs,0⟩ :: cs) scope pos) σ m Q X:=
 fun A st B g env s he hr hm=>by
  show wpAny _ _ (eval _ env) _ _ _
  rw [eval_ListComp]
  refine Ahu (use:=none) (Q:=Q) he hr hm ok h hs fun g6 σ6 vs s5 acc C mC f hg R hv o hn hq=>?_
  refine ⟨mC,hn,fun h' hs'=>?_⟩
  exact ⟨g6,σ6,m,_,hg,R.Ao7 o.g o.k o.s o.st o.loc o.cel (fun b ob hb e=>(hs'.2 b hb).trans e) s5.toks,hv,rfl,hq⟩
theorem As1 {x:Str} {p' spos:Pos} {elt target iter:Expr} {ifs:List Expr} {cs:List Comprehension} {scope:Scope} {pos:Pos} {en:Bool} {Q:Flw->Sto->A8->Prop} (ok:Adz scope fx.sc=true) (hx:fx.sc.names.lookup x=some .local)
  (h:Itr P n fx en iter σ m (fun ds σ1=>∀ acc,σ1 acc=none->Cl P n ⟨Am0 scope fx.sc,true⟩ en (.ListComp elt (⟨target,iter,ifs,0⟩ :: cs) scope pos) 0 acc ds (σ1.put acc (.list [])) (Al7 scope m) (fun σ2=>∃ vs,σ2 acc=some (.list vs)/\Q .next (σ2.del acc) (m.put x (.lst vs)))) X)
  (hsw:∀ env,env.scope=fx.sc->Cc9 (.ListComp elt (⟨target,iter,ifs,0⟩ :: cs) scope pos) (some (.Name x p')) spos.line env=pure true:=by rintro ⟨⟩ rfl; rfl)
  (hs:∀ env x,Bo7 iter env x=pure x:=by intro _ _; rfl):Ex P n fx (.Assign [.Name x p'] (.ListComp elt (⟨target,iter,ifs,0⟩ :: cs) scope pos) spos) σ m Q X:=
 fun A st B g env s he hr hm=>by
  show wpAny _ _ (exec _ env) _ _ _
  rw [exec_Assign_Name_used _ _ _ _ (hsw env he.sc)]
  refine Be9 (Bo3 (Be9 ?_))
  show wpAny _ A (do let _ <- comprehension (.ListComp elt (⟨target,iter,ifs,0⟩ :: cs) scope pos) scope env _ (newList []) false (eval iter env) (some (assign (.Name x p') env))) _ _ s
  refine Be9 (Bf3 (Ahu (use:=some (assign (.Name x p') env)) (Q:=fun v σ'=>Q .next σ' (m.put x v)) (QQ:=fun _ s'=>NP Am5 P B A st env g Q .next s') he hr hm ok h hs fun g6 σ6 vs s5 acc C mC f hg R hv o hn hq=>?_) (fun _ s' hq=>Bf6 (Bf6 hq)) fun _ _ q=>q)
  refine wpAny_assign_Name (Aui he R (.inl hx) hv fun h' tk R' k1 k2=>?_)
  refine ⟨mC,?_,fun h'' hs''=>?_⟩
  · obtain ⟨oC,es,ep,q1,q2,q3⟩:=hn
    refine ⟨oC,es,ep,k1 C oC o.loc (fun y d hk hd=>Bq3 (o.cel y d hk hd)) q1,q2,q3⟩
  · exact ⟨g6,σ6,_,.next,hg,R'.Ao7 o.g o.k o.s o.st o.loc o.cel (fun b ob hb e=>(hs''.2 b hb).trans e) tk,.next,hq⟩
end
noncomputable def Am {K:Type} [DecidableEq K] (es:List (K × V)) (k:K):Option V:=(es.find? fun kv=>decide (kv.1=k)).map (·.2)
noncomputable def dput {K:Type} [DecidableEq K] (es:List (K × V)) (k:K) (v:V):List (K × V):=if es.any (fun kv=>decide (kv.1=k)) then es.map (fun kv=>if kv.1=k then (kv.1,v) else kv) else es ++ [(k,v)]
inductive DAt {prog:Program} {w:World} {K:Type} [DecidableEq K] (knd:KeyKind prog w K) (g h:Heap) (a:Addr) (es:List (K × V)):Prop
 | mk (kvs:List (K × Value)) (h1:h.DictOf knd a kvs) (h2:kvs.map (·.1)=es.map (·.1)) (h3:VRs g (kvs.map (·.2)) (es.map (·.2))) (h4:(a == Cj0)=false)
section
variable {prog:Program} {w:World} {K:Type} [DecidableEq K] {knd:KeyKind prog w K} {g:Heap}
theorem DR.at {h a o es} (x:DR knd g o es) (ho:h.get? a=some o) (hs:(a == Cj0)=false):DAt knd g h a es:=by
 obtain ⟨ents,ep,kvs,h1,h2,h3,h4,h5,h6,h7⟩:=x
 exact ⟨kvs,⟨o,ents,ep,ho,h1,h2,h3,h4,h5⟩,h6,h7,hs⟩
theorem DR.of {h:Heap} {a:Addr} {kvs:List (K × Value)} {es:List (K × V)} (x:h.DictOf knd a kvs) (h1:kvs.map (·.1)=es.map (·.1)) (h2:VRs g (kvs.map (·.2)) (es.map (·.2))):∃ o,h.get? a=some o/\DR knd g o es:=by
 obtain ⟨o,ents,ep,ho,q1,q2,q3,q4,q5⟩:=x
 exact ⟨o,ho,ents,ep,kvs,q1,q2,q3,q4,q5,h1,h2⟩
theorem Aez {kvs:List (K × Value)} {es:List (K × V)} (k:K) (h1:kvs.map (·.1)=es.map (·.1)) (h2:VRs g (kvs.map (·.2)) (es.map (·.2))):match Am es k with | none=>valueAt kvs k=none | some d=>∃ v,valueAt kvs k=some v/\VR g v d:=by
 induction kvs generalizing es with
 | nil=>
  cases es with
  | nil=>exact rfl
  | cons _ _=>cases h1
 | cons p kvs ih=>
  cases es with
  | nil=>cases h1
  | cons q es=>
   obtain ⟨a,v⟩:=p
   obtain ⟨b,d⟩:=q
   injection h1 with e1 h1
   replace e1:a=b:=e1
   subst e1
   obtain ⟨_,_,e2,h2,h3⟩:=h2.inv
   injection e2 with e2 e3
   subst e2 e3
   have ih:=ih h1 h3
   unfold Am valueAt at ih ⊢
   rw [Bk3,Bk3]
   cases (decide (a=k)) with
   | true=>exact ⟨v,rfl,h2⟩
   | false=>exact ih
theorem Aln {kvs:List (K × Value)} {es:List (K × V)} {k:K} {v:Value} {d:V} (h1:kvs.map (·.1)=es.map (·.1)) (h2:VRs g (kvs.map (·.2)) (es.map (·.2))) (hv:VR g v d) :
   (stored kvs k v).map (·.1)=(dput es k d).map (·.1)/\VRs g ((stored kvs k v).map (·.2)) ((dput es k d).map (·.2)):=by
 have Aze:(kvs.any fun kv=>decide (kv.1=k))=es.any fun kv=>decide (kv.1=k):=by
   have e1:(kvs.any fun kv=>decide (kv.1=k))=(kvs.map (·.1)).any fun x=>decide (x=k):=by rw [Cl0]; rfl
   have e2:(es.any fun kv=>decide (kv.1=k))=(es.map (·.1)).any fun x=>decide (x=k):=by rw [Cl0]; rfl
   rw [e1,e2,h1]
 unfold stored dput
 rw [Aze]
 by_cases q:(es.any fun kv=>decide (kv.1=k))=true
 · rw [if_pos q,if_pos q]
   clear Aze q
   induction kvs generalizing es with
   | nil=>cases es with | nil=>exact ⟨rfl,.nil⟩ | cons _ _=>simp at h1
   | cons x kvs ih=>
    cases es with
    | nil=>simp at h1
    | cons y es=>
     obtain ⟨a,u⟩:=x
     obtain ⟨b,c⟩:=y
     simp only [Bh1,Bn1] at h1 h2
     obtain ⟨rfl,h1⟩:=h1
     replace h2:=h2.inv; obtain ⟨_,_,⟨⟩,h2,h3⟩:=h2
     ·
      obtain ⟨i1,i2⟩:=ih h1 h3
      by_cases e:a=k
      · simp only [Bh1,e,if_true]; exact ⟨by rw [i1],.cons hv i2⟩
      · simp only [Bh1,e,if_false]; exact ⟨by rw [i1],.cons h2 i2⟩
 · rw [if_neg q,if_neg q]
   refine ⟨by simp [h1],?_⟩
   rw [Bg2,Bg2]
   exact h2.append (.one hv)
end
section
variable {P:Pm} {n:Nat} {fx:Fx} {σ:Sto} {m:A8} {X:Xt}
theorem low_ne {a} (h:2 < a):(a == Cj0)=false:=by
 rw [beq_eq_false_iff_ne]; rintro rfl; exact absurd h (by decide)
theorem Abt {B g A st s a es} (R:RepC P B g A st σ s) (h:σ a=some (.A5 es)):DAt (strKind P.prog P.w) g s.heap a es:=by
 obtain ⟨_,_,o,h1,h2⟩:=R.sto a _ h; exact DR.at h2 h1 (low_ne (R.os.2 a _ h))
theorem Anm {B g A st s a es} (R:RepC P B g A st σ s) (h:σ a=some (.Acf es)):DAt (intKind P.prog P.w) g s.heap a es:=by
 obtain ⟨_,_,o,h1,h2⟩:=R.sto a _ h; exact DR.at h2 h1 (low_ne (R.os.2 a _ h))
set_option tactic.hygienic true in
theorem Ac {a es x d Q} (h:σ a=some (.A5 es)) (hk:Am es x=some d) (hq:Q d σ):Su P n (.loc a) (.str x) σ Q:=
 fun A st B g env m s o i value slice hr ho hi hm=>by
  obtain ⟨_,rfl⟩:=ho.inv; obtain ⟨_,rfl⟩:=hi.inv; rename_i tk0
  obtain ⟨kvs,h1,h2,h3,_⟩:=Abt hr.toRepC h
  obtain ⟨ops,Aoe⟩:=Aab slice (.ref a) (.str x tk0)
  have hg:=Aez (g:=g) x h2 h3
  rw [hk] at hg
  obtain ⟨v,g1,g2⟩:=hg
  exact Cm3 h1.typeIs slot_dict_getitem.lookup (wpAny_getItem_of (knd:=strKind P.prog P.w) (k:=x) (by show Ci7 x (.str x tk0)=true; simp [Ci7]) h1.mapOf g1 ⟨g,σ,m,d,A2 g,hr.tok _,g2,rfl,hq⟩) Aoe
theorem Ajt (x:Str) (t:Tok):(strKind P.prog P.w).is x (.str x t)=true:=by show Ci7 x (.str x t)=true; simp [Ci7]
theorem Api (x:Int) (t:Tok):(intKind P.prog P.w).is x (.int x t)=true:=by show Value.isInt x (.int x t)=true; simp [Value.isInt]
theorem Ag3 {a:Addr} {es:List (Str × V)} {x:Str} {v:V} {Q:Sto->Prop} (h:σ a=some (.A5 es)) (hq:Q (σ.put a (.A5 (dput es x v)))) (hl:es.length<=100000):Si P n (.loc a) (.str x) v σ Q:=
 fun A st B g env m s o i u hr ho hi hx hm=>by
  obtain ⟨_,rfl⟩:=ho.inv; obtain ⟨_,rfl⟩:=hi.inv
  obtain ⟨kvs,h1,h2,h3,_⟩:=Abt hr.toRepC h
  have hlen:kvs.length=es.length:=by simpa using congrArg Bp6 h2
  refine wpAny_setItem_pairs (knd:=strKind P.prog P.w) (Ajt x _) h1 (fun h' hd hs=>?_) (by rw [hlen]; exact sz hl)
  obtain ⟨p1,p2⟩:=Aln (g:=g) (k:=x) h2 h3 hx
  obtain ⟨o',w1,w2⟩:=DR.of (g:=g) hd p1 p2
  exact ⟨g,_,m,A2 g,hr.upd (x':=.A5 (dput es x v)) h (fun b ob hb e=>(hs.2 b hb).trans e) w1 w2 _,rfl,hq⟩
theorem Au2 {a:Addr} {es:List (Int × V)} {x:Int} {v:V} {Q:Sto->Prop} (h:σ a=some (.Acf es)) (hq:Q (σ.put a (.Acf (dput es x v)))) (hl:es.length<=100000):Si P n (.loc a) (.int x) v σ Q:=
 fun A st B g env m s o i u hr ho hi hx hm=>by
  obtain ⟨_,rfl⟩:=ho.inv; obtain ⟨_,rfl⟩:=hi.inv
  obtain ⟨kvs,h1,h2,h3,_⟩:=Anm hr.toRepC h
  have hlen:kvs.length=es.length:=by simpa using congrArg Bp6 h2
  refine wpAny_setItem_pairs (knd:=intKind P.prog P.w) (Api x _) h1 (fun h' hd hs=>?_) (by rw [hlen]; exact sz hl)
  obtain ⟨p1,p2⟩:=Aln (g:=g) (k:=x) h2 h3 hx
  obtain ⟨o',w1,w2⟩:=DR.of (g:=g) hd p1 p2
  exact ⟨g,_,m,A2 g,hr.upd (x':=.Acf (dput es x v)) h (fun b ob hb e=>(hs.2 b hb).trans e) w1 w2 _,rfl,hq⟩
theorem contains_of {prog:Program} {w:World} {K:Type} [DecidableEq K] {knd:KeyKind prog w K} {A:Around} {E:Value->Shared->Prop} {s:Shared} {d:Addr} {k:K} {key:Value} {f} {Q:Bool->Shared->Prop} (Bas:knd.is k key=true) (hd:(d == Cj0)=false) (hm:s.heap.MapOf knd d f)
  (h:Q (f k).isSome { s with toks:=s.toks + 1 }):wpAny (model prog w) A (contains (.ref d) key) Q E s:=by
 unfold contains
 try with_reducible refine Bl1 ?_
 refine Be9 (Cc8 hm.typeIs Bv8.lookup ?_)
 show wpAny _ _ (if (some (Value.builtin "dict.__contains__") == some Value.none)=true then _ else _) _ E s
 rw [if_neg (by rw [Cp0]; exact Bg6)]
 refine Be9 (wpAny_callSpecialUnlessNone?_slot (name:=Bf5 "__contains__") hm.typeIs Bv8
  (Br4 Bv8 hm.typeIs entry_dict_contains ?_ (args_dict_contains _ _)))
 show wpAny _ _ (dictGet d key >>= _) _ _ s
 refine Be9 (wpAny_dictGet_of Bas hm ?_)
 cases hf:f k with
 | some v=>
  rw [hf] at h
  show wpAny _ _ (ret (.bool true)) _ _ _
  exact Bf6 ⟨_,rfl,Bs2 h⟩
 | none=>
  rw [hf] at h
  show wpAny _ _ (Bi9.Dict.pendingKey? d key >>= _) _ _ _
  exact Be9 (wpAny_pendingKey_other hd (Bf6 ⟨_,rfl,Bs2 h⟩))
theorem Ag5 {a:Addr} {es:List (Str × V)} {x:Str} {Q:Bool->Sto->Prop} (h:σ a=some (.A5 es)) (hq:Q (Am es x).isSome σ):Co P n .In (.str x) (.loc a) σ Q:=
 fun A st B g env m s u v hr hu hv hm=>by
  obtain ⟨_,rfl⟩:=hu.inv; obtain ⟨_,rfl⟩:=hv.inv
  obtain ⟨kvs,h1,h2,h3,h4⟩:=Abt hr.toRepC h
  show wpAny _ _ (do return Value.bool (<- contains (.ref a) _)) _ _ s
  refine Be9 (contains_of (knd:=strKind P.prog P.w) (Ajt x _) h4 h1.mapOf (Bf6 ⟨g,σ,m,_,A2 g,hr.tok _,rfl,rfl,?_⟩))
  have hg:=Aez (g:=g) x h2 h3
  cases q:Am es x with
  | none=>rw [q] at hg hq; rw [hg]; exact hq
  | some d=>rw [q] at hg hq; obtain ⟨v,g1,_⟩:=hg; rw [g1]; exact hq
theorem Agw {a:Addr} {es:List (Str × V)} {x:Str} {Q:Bool->Sto->Prop} (h:σ a=some (.A5 es)) (hq:Q (!(Am es x).isSome) σ):Co P n .NotIn (.str x) (.loc a) σ Q:=
 fun A st B g env m s u v hr hu hv hm=>by
  obtain ⟨_,rfl⟩:=hu.inv; obtain ⟨_,rfl⟩:=hv.inv
  obtain ⟨kvs,h1,h2,h3,h4⟩:=Abt hr.toRepC h
  show wpAny _ _ (do return Value.bool (!(<- contains (.ref a) _))) _ _ s
  refine Be9 (contains_of (knd:=strKind P.prog P.w) (Ajt x _) h4 h1.mapOf (Bf6 ⟨g,σ,m,_,A2 g,hr.tok _,rfl,rfl,?_⟩))
  have hg:=Aez (g:=g) x h2 h3
  cases q:Am es x with
  | none=>rw [q] at hg hq; rw [hg]; exact hq
  | some d=>rw [q] at hg hq; obtain ⟨v,g1,_⟩:=hg; rw [g1]; exact hq
theorem Am2 {a:Addr} {es:List (Int × V)} {x:Int} {Q:Bool->Sto->Prop} (h:σ a=some (.Acf es)) (hq:Q (!(Am es x).isSome) σ):Co P n .NotIn (.int x) (.loc a) σ Q:=
 fun A st B g env m s u v hr hu hv hm=>by
  obtain ⟨_,rfl⟩:=hu.inv; obtain ⟨_,rfl⟩:=hv.inv
  obtain ⟨kvs,h1,h2,h3,h4⟩:=Anm hr.toRepC h
  show wpAny _ _ (do return Value.bool (!(<- contains (.ref a) _))) _ _ s
  refine Be9 (contains_of (knd:=intKind P.prog P.w) (Api x _) h4 h1.mapOf (Bf6 ⟨g,σ,m,_,A2 g,hr.tok _,rfl,rfl,?_⟩))
  have hg:=Aez (g:=g) x h2 h3
  cases q:Am es x with
  | none=>rw [q] at hg hq; rw [hg]; exact hq
  | some d=>rw [q] at hg hq; obtain ⟨v,g1,_⟩:=hg; rw [g1]; exact hq
theorem Akn {a es x d Q} (h:σ a=some (.A5 es)) (hq:Q ((Am es x).getD d) σ):Bt P n (.builtin "dict.get") [.loc a,.str x,d] σ Q:=
 fun A st B g env m s vals hr hv hm=>by
  replace hv:=hv.inv; obtain ⟨_,_,rfl,hv,t⟩:=hv
  ·
   replace t:=t.inv; obtain ⟨_,_,rfl,hv2,t⟩:=t
   ·
    replace t:=t.inv; obtain ⟨_,_,rfl,hv3,t⟩:=t
    ·
     cases t; obtain ⟨_,rfl⟩:=hv.inv; obtain ⟨_,rfl⟩:=hv2.inv
     obtain ⟨kvs,h1,h2,h3,h4⟩:=Abt hr.toRepC h
     refine call_meetsIn Ci0 h1.typeIs F.entry_dict_get (F.args_dict_get_3 _ _ _) (meets_dict_get_default (strKind P.prog P.w) a (Ajt x _) h4 _) ⟨_,h1.mapOf,?_⟩
     have hg:=Aez (g:=g) x h2 h3
     cases q:Am es x with
     | none=>rw [q] at hg hq; rw [hg]; exact ⟨g,σ,m,_,A2 g,hr.tok _,hv3,rfl,hq⟩
     | some e=>rw [q] at hg hq; obtain ⟨v,g1,g2⟩:=hg; rw [g1]; exact ⟨g,σ,m,_,A2 g,hr.tok _,g2,rfl,hq⟩
noncomputable def Ahw {K:Type} [DecidableEq K] (es fs:List (K × V)):List (K × V):=fs.foldl (fun acc kv=>dput acc kv.1 kv.2) es
theorem Al1 {K:Type} [DecidableEq K] {g:Heap} {kvs more:List (K × Value)} {es fs:List (K × V)} (h1:kvs.map (·.1)=es.map (·.1)) (h2:VRs g (kvs.map (·.2)) (es.map (·.2))) (h3:more.map (·.1)=fs.map (·.1)) (h4:VRs g (more.map (·.2)) (fs.map (·.2))) :
  (merged kvs more).map (·.1)=(Ahw es fs).map (·.1)/\VRs g ((merged kvs more).map (·.2)) ((Ahw es fs).map (·.2)):=by
 unfold merged Ahw
 induction more generalizing kvs es fs with
 | nil=>cases fs with | nil=>exact ⟨h1,h2⟩ | cons _ _=>simp at h3
 | cons x more ih=>
  cases fs with
  | nil=>simp at h3
  | cons y fs=>
   obtain ⟨a,u⟩:=x
   obtain ⟨b,c⟩:=y
   simp only [Bh1,Bn1] at h3 h4
   obtain ⟨rfl,h3⟩:=h3
   replace h4:=h4.inv; obtain ⟨_,_,⟨⟩,h4,h5⟩:=h4
   ·
    obtain ⟨p1,p2⟩:=Aln (g:=g) (k:=a) h1 h2 h4
    exact ih (kvs:=stored kvs a u) (es:=dput es a c) p1 p2 h3 h5
theorem Arb {a b:Addr} {es fs:List (Str × V)} {Q:V->Sto->Prop} (h:σ a=some (.A5 es)) (hb:σ b=some (.A5 fs)) (hab:a≠b) (hq:Q .none (σ.put a (.A5 (Ahw es fs)))) (hl:es.length + fs.length<=100000):Bt P n (.builtin "dict.update") [.loc a,.loc b] σ Q:=
 fun A st B g env m s vals hr hv hm=>by
  replace hv:=hv.inv; obtain ⟨_,_,rfl,hv,t⟩:=hv
  ·
   replace t:=t.inv; obtain ⟨_,_,rfl,hv2,t⟩:=t
   ·
    cases t; obtain ⟨_,rfl⟩:=hv.inv; obtain ⟨_,rfl⟩:=hv2.inv
    obtain ⟨kvs,h1,h2,h3,h4⟩:=Abt hr.toRepC h
    obtain ⟨kvs2,k1,k2,k3,k4⟩:=Abt hr.toRepC hb
    have l1:kvs.length=es.length:=by simpa using congrArg Bp6 h2
    have l2:kvs2.length=fs.length:=by simpa using congrArg Bp6 k2
    refine call_meetsIn F.slot_dict_update h1.typeIs F.entry_dict_update (F.args_dict_update_2 _ _) (meets_dict_update (strKind P.prog P.w) a b hab k4) ⟨kvs,kvs2,h1,k1,by rw [l1,l2]; exact sz hl,fun h' hd ho hs=>?_⟩
    obtain ⟨p1,p2⟩:=Al1 (g:=g) h2 h3 k2 k3
    obtain ⟨o',w1,w2⟩:=DR.of (g:=g) hd p1 p2
    exact ⟨g,_,m,_,A2 g,hr.upd (x':=.A5 (Ahw es fs)) h (fun b ob hb e=>(hs.2 b hb).trans e) w1 w2 s.toks,.none,rfl,hq⟩
noncomputable def deq (es fs:List (Str × V)):Bool:=es.length == fs.length && es.all fun kv=>decide (Am fs kv.1=some kv.2)
theorem An6 {a b es fs Q} (h:σ a=some (.A5 es)) (hb:σ b=some (.A5 fs)) (d1:∀ kv∈es,kv.2.dat=true/\kv.2.dep<=40) (d2:∀ kv∈fs,kv.2.dat=true) (hq:Q (!(deq es fs)) σ):Co P n .NotEq (.loc a) (.loc b) σ Q:=
 fun A st B g env m s u v hr hu hv hm=>by
  obtain ⟨_,rfl⟩:=hu.inv; obtain ⟨_,rfl⟩:=hv.inv
  obtain ⟨kvs,h1,h2,h3,h4⟩:=Abt hr.toRepC h
  obtain ⟨kvs2,k1,k2,k3,k4⟩:=Abt hr.toRepC hb
  have l1:kvs.length=es.length:=by simpa using congrArg Bp6 h2
  have l2:kvs2.length=fs.length:=by simpa using congrArg Bp6 k2
  have hits:KeqHits A.in1 s kvs2 kvs (es.all fun kv=>decide (Am fs kv.1=some kv.2)):=by
   clear h1 l1 hq h
   induction kvs generalizing es with
   | nil=>cases es with | nil=>exact .nil | cons _ _=>simp at h2
   | cons x kvs ih=>
    cases es with
    | nil=>simp at h2
    | cons y es=>
     obtain ⟨k,u⟩:=x
     obtain ⟨k',d⟩:=y
     simp only [Bh1,Bn1] at h2 h3
     obtain ⟨rfl,h2⟩:=h2
     replace h3:=h3.inv; obtain ⟨_,_,⟨⟩,h3,h5⟩:=h3
     ·
      have ih':=ih (es:=es) (fun kv hkv=>d1 kv (.tail _ hkv)) h2 h5
      have hg:=Aez (g:=g) k k2 k3
      rw [Bw0]
      cases q:Am fs k with
      | none=>
       rw [q] at hg
       rw [decide_eq_false (by simp),Co6]
       exact .miss hg
      | some e=>
       rw [q] at hg
       obtain ⟨y,g1,g2⟩:=hg
       have hd:=d1 (k,d) (.head _)
       have he:e.dat=true:=by
        unfold Am at q
        obtain ⟨kv,w1,w2⟩:=Bn7.mp q
        rw [<- w2]; exact d2 kv (Cc4 w1)
       have:=VR.Axj d e A.in1 s u y (h3.mono hr.fz) (g2.mono hr.fz) hd.1 he (ru1 hm.2.1 (Be8 (Bq9 ..) (Be8 hd.2 (by decide))))
       rw [show decide (some e=some d)=decide (d=e) from by by_cases w:d=e <;> simp [w,eq_comm]]
       exact .hit g1 this ih'
  refine keq_ne h4 k4 h1 k1 (ru (k:=0) hm.2.1 (by decide)) (fun _=>hits) ⟨g,σ,m,_,A2 g,hr,rfl,rfl,?_⟩
  rw [l1,l2]; exact hq
end
section
variable {P:Pm} {B:Bs} {g:Heap} {A:Around} {st:List Env} {env:Env} {σ:Sto} {m:A8} {s:Shared}
theorem Rep.adopt (R:Rep P B g A st env σ m s) {a} (h1:g.get? a=none) (h2:B.k.get? a=none) (h3:σ a=none) (h4:∀ e∈st,e.frame≠some a) (h5:a≠env.locals) (h6:∀ x c,(env.kindOf x=some .cell∨env.kindOf x=some .free)->env.cells.lookup x=some c->c≠a)
   (h7:2 < a) {h'} (hs:∀ b o,b≠a->s.heap.get? b=some o->h'.get? b=some o) {o x} (ho:h'.get? a=some o) (hx:OR P g o x) (tk:Nat):Rep P B g A st env (σ.put a x) m { s with heap:=h',toks:=tk }:=by
 have R1:=R.Ao7 h1 h2 h3 h4 h5 h6 hs tk
 refine ⟨⟨R1.pc,R1.stack,R1.stk,R1.keeps,R1.fz,R1.ext,R1.new,fun b y e=>?_,R1.gens,R1.drawn,R1.os.1,fun b y e=>?_⟩,R1.fr,⟨⟨R1.own.loc.1,R1.own.loc.2.1,?_⟩,fun y c hy hc=>⟨(R1.own.cel y c hy hc).1,(R1.own.cel y c hy hc).2.1,?_⟩⟩⟩
 · by_cases hb:b=a
   · subst hb; rw [Sto.A0] at e; cases e; exact ⟨h1,h2,o,ho,hx⟩
   · rw [Sto.A4 _ _ hb] at e; exact R1.sto b y e
 · by_cases hb:b=a
   · subst hb; exact h7
   · rw [Sto.A4 _ _ hb] at e; exact R1.os.2 b y e
 · rw [Sto.A4 _ _ (Bq3 h5)]; exact R1.own.loc.2.2
 · rw [Sto.A4 _ _ (h6 y c hy hc)]; exact (R1.own.cel y c hy hc).2.2
end
inductive PrR {prog:Program} {w:World} {K:Type} [DecidableEq K] (knd:PySem.KeyKind prog w K) (g:Heap):List (Value × Value)->List (K × V)->Prop
 | nil:PrR knd g [] []
 | cons {x:K} {key v:Value} {d:V} {vs:List (Value × Value)} {es:List (K × V)}:knd.is x key=true->VR g v d->PrR knd g vs es->PrR knd g ((key,v) :: vs) ((x,d) :: es)
theorem PrR.Aw0 {prog:Program} {w:World} {K:Type} [DecidableEq K] {knd:PySem.KeyKind prog w K} {g:Heap} {vs:List (Value × Value)} {es:List (K × V)} (h:PrR knd g vs es):∃ kvs,Carries knd vs kvs/\kvs.map (·.1)=es.map (·.1)/\VRs g (kvs.map (·.2)) (es.map (·.2)):=by
 induction h with
 | nil=>exact ⟨[],trivial,rfl,.nil⟩
 | @cons x key v d vs es hk a _ ih=>
  obtain ⟨kvs,h1,h2,h3⟩:=ih
  exact ⟨(x,v) :: kvs,⟨hk,rfl,h1⟩,by simp [h2],.cons a h3⟩
noncomputable def Ae3 (pos:Pos) (env:Env):List (Option Expr)->List Expr->List (Sem Value × Sem Value)
 | some k :: ks,v :: vs=>(eval k env,do let x <- eval v env; Cb7 pos; pure x) :: Ae3 pos env ks vs
 | _,_=>[]
noncomputable abbrev Axz {K:Type} [DecidableEq K] (P:Pm) (knd:PySem.KeyKind P.prog P.w K) (n:Nat) (fx:Fx) (pos:Pos) (ks:List (Option Expr)) (vs:List Expr) (σ:Sto) (m:A8) (Q:List (K × V)->Sto->Prop) (X:Xt):Prop:=
 JS (PrR knd) P n fx (fun env=>evalPairs (Ae3 pos env ks vs)) σ m (fun v σ' m'=>m'=m/\Q v σ') X
section
variable {P:Pm} {n:Nat} {fx:Fx} {σ:Sto} {m:A8} {X:Xt}
theorem Apv {K:Type} [DecidableEq K] {knd:PySem.KeyKind P.prog P.w K} {pos:Pos} {Q:List (K × V)->Sto->Prop} (h:Q [] σ):Axz P knd n fx pos [] [] σ m Q X:=
 fun A st B g env s he hr hm=>evalPairs_nil ⟨g,σ,m,[],A2 g,hr,.nil,rfl,h⟩
theorem Akt {K:Type} [DecidableEq K] {knd:PySem.KeyKind P.prog P.w K} {pos:Pos} {k v:Expr} {ks:List (Option Expr)} {vs:List Expr} {Q:List (K × V)->Sto->Prop} (h:Ev P n fx k σ m (fun c σ1=>∃ x,(∀ g u,VR g u c->knd.is x u=true)/\Ev P n fx v σ1 m (fun d σ2=>Axz P knd n fx pos ks vs σ2 m (fun es σ3=>Q ((x,d) :: es) σ3) X) X) X):Axz P knd n fx pos (some k :: ks) (v :: vs) σ m Q X:=
 fun A st B g env s he hr hm=>by
  show wpAny _ _ (evalPairs ((eval k env,do let x <- eval v env; Cb7 pos; pure x) :: Ae3 pos env ks vs)) _ _ s
  refine evalPairs_cons (Bf3 (h A st B g env s he hr hm) (fun kv s1 qM=>?_) fun _ _ q=>q)
  obtain ⟨g1,σ1,m1,c,hg1,hr1,hv1,hm1,x,e1,hq1⟩:=qM
  subst hm1
  refine Be9 (Bf3 (hq1 A st B g1 env s1 he hr1 hm) (fun vv s2 qM=>?_) fun _ _ q=>q.mono hg1 fun _ _ _ x=>x)
  obtain ⟨g2,σ2,m2,d,hg2,hr2,hv2,hm2,hq2⟩:=qM
  subst hm2
  refine Be9 (Bo3 (Bf6 ?_))
  refine Bf3 (hq2 A st B g2 env s2 he hr2 hm) (fun ps s3 qM=>?_) fun _ _ q=>q.mono (A3 hg1 hg2) fun _ _ _ x=>x
  obtain ⟨g3,σ3,m3,es,hg3,hr3,hv3,hm3,hq3⟩:=qM
  exact ⟨g3,σ3,m3,_,A3 hg1 (A3 hg2 hg3),hr3,.cons (e1 _ _ hv1) (hv2.mono hg3) hv3,hm3,hq3⟩
theorem Amd {K:Type} [DecidableEq K] (knd:PySem.KeyKind P.prog P.w K) (mk:List (K × V)->O) (hmk:∀ g o es,DR knd g o es->OR P g o (mk es)) {keys:List (Option Expr)} {values:List Expr} {pos:Pos} {Q:V->Sto->Prop} (h:Axz P knd n fx pos keys values σ m (fun es σ1=>∀ a,σ1 a=none->Q (.loc a) (σ1.put a (mk (Ahw [] es)))) X)
  (Aed:∀ env,(Ck6 keys env).zip ((evalEach values env).map fun v=>do let x <- v; Cb7 pos; pure x)=(Ae3 pos env keys values).map fun p=>(some p.1,p.2))
  (h0:∀ env,Ae3 pos env keys values≠[]) (hlen:∀ env,(Ae3 pos env keys values).length<=15):Ev P n fx (.Dict keys values pos) σ m Q X:=
 fun A st B g env s he hr hm=>by
  have R1:=hr.stays (Aa3 s.heap { cls:=.type "dict",data:=.dict #[] }) s.toks
  obtain ⟨B',hB1,RB,hB2,hB3,hB4⟩:=R1.step
  have fr:∀ h:Heap,Keeps h s.heap->h.get? s.heap.objs.size=none:=fun h k=>Aa0 k (Ak _)
  have a1:g.get? s.heap.objs.size=none:=Aa2 hr.fz (Ak _)
  have a2:B.k.get? s.heap.objs.size=none:=fr _ hr.keeps
  have a3:σ s.heap.objs.size=none:=hr.Aat (Ak _)
  have a5:s.heap.objs.size≠env.locals:=by
   obtain ⟨ml,⟨oL,es,ep,hL,_⟩,_⟩:=hr.fr.ns
   exact Bq2 (Bl3 hL)
  have a6:∀ x c,(env.kindOf x=some .cell∨env.kindOf x=some .free)->env.cells.lookup x=some c->c≠s.heap.objs.size:=fun x c hx hc=>by
   obtain ⟨c',cv,w1,w2,_⟩:=hr.fr.cel x hx
   rw [hc] at w1; cases w1
   exact Bl9 w2.lt
  have k0:B'.k.get? s.heap.objs.size=some { cls:=.type "dict",data:=.dict #[] }:=hB2 _ _ (Bi4 _ rfl) a3 (by
   rintro (q | ⟨x,hx,hc⟩)
   · exact a5 q
   · exact a6 x _ hx hc rfl)
  refine wpAny_Dict_pairs (knd:=knd) (Aed env) (h0 env) (hlen env) (Bf3 (h A st B' g env _ he RB hm) (fun vs s1 qM=>?_) fun _ _ q=>q.Ajf hB3 hB4)
  obtain ⟨g1,σ1,m1,es,hg1,hr1,hv1,hm1,hq1⟩:=qM
  subst hm1
  obtain ⟨kvs,c1,c2,c3⟩:=hv1.Aw0
  have ho:s1.heap.get? s.heap.objs.size=some { cls:=.type "dict",data:=.dict #[] }:=by
   rcases hr1.keeps _ _ k0 with q | ⟨f,_⟩
   · exact q
   · have q:Value.type "dict"=Value.type "frame":=f.1; exact absurd q (by decide)
  refine ⟨kvs,c1,⟨_,_,_,ho,⟨rfl,rfl,rfl⟩,rfl,fun e he=>by simp at he,.nil,by simp⟩,fun h' hd hs=>?_⟩
  have g0:g1.get? s.heap.objs.size=none:=by
   cases q:g1.get? s.heap.objs.size with
   | none=>rfl
   | some o=>have:=hr1.new _ (by rw [q]; simp) (by rw [hB1]; exact a1); rw [k0] at this; cases this
  have s0:σ1 s.heap.objs.size=none:=by
   cases q:σ1 s.heap.objs.size with
   | none=>rfl
   | some x=>have:=(hr1.sto _ _ q).2.1; rw [k0] at this; cases this
  obtain ⟨p1,p2⟩:=Al1 (K:=K) (kvs:=[]) (es:=[]) rfl .nil c2 c3
  obtain ⟨o',w1,w2⟩:=DR.of (g:=g1) hd p1 p2
  have R2:=(hB4 _ _ _ _ hr1).adopt (x:=mk (Ahw [] es)) g0 a2 s0 (hr.stk.Bb6 (Ak _)) a5 a6 hr.low (fun b o hb e=>(hs.2 b hb).trans e) w1 (hmk _ _ _ w2) (s1.toks + vs.length)
  exact ⟨g1,_,m1,_,hg1,R2,.loc _,rfl,hq1 _ s0⟩
noncomputable abbrev Prs (P:Pm) (n:Nat) (fx:Fx) (pos:Pos) (ks:List (Option Expr)) (vs:List Expr) (σ:Sto) (m:A8) (Q:List (Str × V)->Sto->Prop) (X:Xt):Prop:=Axz P (PySem.strKind P.prog P.w) n fx pos ks vs σ m Q X
theorem Ass {pos:Pos} {k v:Expr} {ks:List (Option Expr)} {vs:List Expr} {Q:List (Str × V)->Sto->Prop} (h:Ev P n fx k σ m (fun c σ1=>∃ x,c=.str x/\Ev P n fx v σ1 m (fun d σ2=>Prs P n fx pos ks vs σ2 m (fun es σ3=>Q ((x,d) :: es) σ3) X) X) X):Prs P n fx pos (some k :: ks) (v :: vs) σ m Q X:=
 Akt (Ag h fun c σ1 qE=>by obtain ⟨x,e,q⟩:=qE; exact ⟨x,fun g u r=>by subst e; obtain ⟨_,rfl⟩:=r.inv; exact Ajt x _,q⟩)
theorem Aw3 {keys values pos Q} (h:Prs P n fx pos keys values σ m (fun es σ1=>∀ a,σ1 a=none->Q (.loc a) (σ1.put a (.A5 (Ahw [] es)))) X)
  (Aed:∀ env,(Ck6 keys env).zip ((evalEach values env).map fun v=>do let x <- v; Cb7 pos; pure x)=(Ae3 pos env keys values).map fun p=>(some p.1,p.2):=by intro _; rfl)
  (h0:∀ env,Ae3 pos env keys values≠[]:=by intro _; exact Bs4 _ _) (hlen:∀ env,(Ae3 pos env keys values).length<=15:=by intro _; exact Bh8 rfl):Ev P n fx (.Dict keys values pos) σ m Q X:=
 Amd (PySem.strKind P.prog P.w) .A5 (fun _ _ _ x=>x) h Aed h0 hlen
theorem At9 {k v:Expr} {pos:Pos} {Q:V->Sto->Prop} (h:Ev P n fx k σ m (fun c σ1=>∃ x,c=.int x/\Ev P n fx v σ1 m (fun d σ2=>∀ a,σ2 a=none->Q (.loc a) (σ2.put a (.Acf [(x,d)]))) X) X)
  (Aed:∀ env,(Ck6 [some k] env).zip ((evalEach [v] env).map fun v=>do let x <- v; Cb7 pos; pure x)=(Ae3 pos env [some k] [v]).map fun p=>(some p.1,p.2):=by intro _; rfl):Ev P n fx (.Dict [some k] [v] pos) σ m Q X:=
 Amd (intKind P.prog P.w) .Acf (fun _ _ _ x=>x) (Akt (Ag h fun c σ1 qF=>by obtain ⟨x,e,q⟩:=qF; exact ⟨x,fun g u r=>by subst e; obtain ⟨_,rfl⟩:=r.inv; exact Api x _,Ag q fun d σ2 q=>Apv q⟩)) Aed (fun _=>Bs4 _ _) fun _=>Bh8 rfl
theorem Ajm {pos Q} (h:∀ a,σ a=none->Q (.loc a) (σ.put a (.A5 []))):Ev P n fx (.Dict [] [] pos) σ m Q X:=
 fun A st B g env s he hr hm=>by
  show wpAny _ _ (eval (.Dict [] [] pos) env) _ _ s
  rw [eval_Dict_empty]
  refine Be9 (Bo3 (Bn9 ?_ (Bh2 _)))
  obtain ⟨hn,R2⟩:=hr.Ac7 (x:=.A5 []) (Aa3 s.heap _) (Bh7 _) (Bi4 s.heap (o:={ cls:=.type "dict",data:=.dict #[] }) rfl) ⟨#[],0,[],⟨rfl,rfl,rfl⟩,rfl,fun e he=>by simp at he,.nil,by simp,rfl,.nil⟩ s.toks
  exact ⟨g,_,m,_,A2 g,R2,.loc _,rfl,h _ hn⟩
theorem Aka {pos Q} (h:∀ a,σ a=none->Q (.loc a) (σ.put a (.Ad []))):Ev P n fx (.Dict [] [] pos) σ m Q X:=
 fun A st B g env s he hr hm=>by
  show wpAny _ _ (eval (.Dict [] [] pos) env) _ _ s
  rw [eval_Dict_empty]
  refine Be9 (Bo3 (Bn9 ?_ (Bh2 _)))
  obtain ⟨hn,R2⟩:=hr.Ac7 (x:=.Ad []) (Aa3 s.heap _) (Bh7 _) (Bi4 s.heap (o:={ cls:=.type "dict",data:=.dict #[] }) rfl) ⟨#[],0,[],⟨rfl,rfl,rfl⟩,rfl,rfl,fun e he=>by simp at he,by simp,rfl,.nil⟩ s.toks
  exact ⟨g,_,m,_,A2 g,R2,.loc _,rfl,h _ hn⟩
theorem Ae2 {g} {xs:List (V × Addr × Value)} {es:List (V × V)} (k:V) (h1:xs.map (·.1)=es.map (·.1)) (h2:VRs g (xs.map (·.2.2)) (es.map (·.2))):match Am es k with | none=>atKey xs k=none | some d=>∃ p,atKey xs k=some p/\VR g p.2 d:=by
 induction xs generalizing es with
 | nil=>
  cases es with
  | nil=>exact rfl
  | cons _ _=>cases h1
 | cons p xs ih=>
  cases es with
  | nil=>cases h1
  | cons q es=>
   obtain ⟨a,v⟩:=p
   obtain ⟨b,d⟩:=q
   injection h1 with e1 h1
   replace e1:a=b:=e1
   subst e1
   obtain ⟨_,_,e2,h2,h3⟩:=h2.inv
   injection e2 with e2 e3
   subst e2 e3
   have ih:=ih h1 h3
   unfold Am atKey at ih ⊢
   rw [Bk3,Bk3]
   cases (decide (a=k)) with
   | true=>exact ⟨v,rfl,h2⟩
   | false=>exact ih
inductive TAt (P:Pm) (g h:Heap) (a:Addr) (es:List (V × V)):Prop
 | mk (xs:List (V × Addr × Value)) (h1:h.DictOfH (Ahn P.prog P.w) a xs) (h2:∀ x∈xs,(Ahn P.prog P.w).is g x.1 x.2.1) (h3:xs.map (·.1)=es.map (·.1)) (h4:VRs g (xs.map (·.2.2)) (es.map (·.2))) (h5:(a == Cj0)=false)
theorem Aeg {B g A st s a es} (R:RepC P B g A st σ s) (h:σ a=some (.Ad es)):TAt P g s.heap a es:=by
 obtain ⟨_,_,o,h1,ents,ep,xs,q1,q2,q3,q4,q5,q6,q7⟩:=R.sto a _ h
 exact ⟨xs,⟨o,ents,ep,h1,q1,q2,q3,fun x hx=>⟨(q4 x hx).1.mono R.fz,(q4 x hx).2⟩,q5⟩,q4,q6,q7,low_ne (R.os.2 a _ h)⟩
theorem Al2 {prog:Program} {w:World} {K:Type} [DecidableEq K] {knd:HeapKind prog w K} {A:Around} {E:Value->Shared->Prop} {s:Shared} {d a:Addr} {k:K} {xs:List (K × Addr × Value)} {Q:Bool->Shared->Prop} (hu:knd.room A.in1) (Bas:knd.is s.heap k a) (hd:(d == Cj0)=false) (hm:s.heap.DictOfH knd d xs)
  (h:Q (atKey xs k).isSome { s with toks:=s.toks + knd.draws k }):wpAny (model prog w) A (contains (.ref d) (.ref a)) Q E s:=by
 unfold contains
 try with_reducible refine Bl1 ?_
 refine Be9 (Cc8 hm.typeIs Bv8.lookup ?_)
 show wpAny _ _ (if (some (Value.builtin "dict.__contains__") == some Value.none)=true then _ else _) _ E s
 rw [if_neg (by rw [Cp0]; exact Bg6)]
 refine Be9 (wpAny_callSpecialUnlessNone?_slot (name:=Bf5 "__contains__") hm.typeIs Bv8
  (Br4 Bv8 hm.typeIs entry_dict_contains ?_ (args_dict_contains _ _)))
 show wpAny _ _ (dictGet d (.ref a) >>= _) _ _ s
 refine Be9 (wpAny_dictGet_heap hu Bas hm ?_)
 cases hf:atKey xs k with
 | some p=>
  rw [hf] at h
  show wpAny _ _ (ret (.bool true)) _ _ _
  exact Bf6 ⟨_,rfl,Bs2 h⟩
 | none=>
  rw [hf] at h
  show wpAny _ _ (Bi9.Dict.pendingKey? d (.ref a) >>= _) _ _ _
  exact Be9 (wpAny_pendingKey_other hd (Bf6 ⟨_,rfl,Bs2 h⟩))
theorem Apk {A} (hm:Bg A n):(Ahn P.prog P.w).room A.in1:=by
 show A.units + 1 + 8 < _
 exact ru1 hm.2.1 (by decide)
theorem Asp {a:Addr} {es:List (V × V)} {ks:List V} {Q:Bool->Sto->Prop} (h:σ a=some (.Ad es)) (hk:V.keys ks=true) (hdp:V.Be ks<=7) (hq:Q (Am es (.tup ks)).isSome σ):Co P n .In (.tup ks) (.loc a) σ Q:=
 fun A st B g env m s u v hr hu hv hm=>by
  obtain ⟨_,rfl⟩:=hv.inv
  have hu':=hu.mono hr.fz
  obtain ⟨kx,items,rfl,_,_⟩:=hu.isTup
  obtain ⟨xs,h1,_,h2,h3,h4⟩:=Aeg hr.toRepC h
  show wpAny _ _ (do return Value.bool (<- contains (.ref a) _)) _ _ s
  refine Be9 (Al2 (knd:=Ahn P.prog P.w) (k:=.tup ks) (Apk hm) ⟨hu',hk,Bg4 hdp⟩ h4 h1 (Bf6 ⟨g,σ,m,_,A2 g,hr.tok _,rfl,rfl,?_⟩))
  have hg:=Ae2 (g:=g) (.tup ks) h2 h3
  cases q:Am es (.tup ks) with
  | none=>rw [q] at hg hq; rw [hg]; exact hq
  | some d=>rw [q] at hg hq; obtain ⟨v,g1,_⟩:=hg; rw [g1]; exact hq
theorem Ald {a:Addr} {es:List (V × V)} {ks:List V} {Q:Bool->Sto->Prop} (h:σ a=some (.Ad es)) (hk:V.keys ks=true) (hdp:V.Be ks<=7) (hq:Q (!(Am es (.tup ks)).isSome) σ):Co P n .NotIn (.tup ks) (.loc a) σ Q:=
 fun A st B g env m s u v hr hu hv hm=>by
  obtain ⟨_,rfl⟩:=hv.inv
  have hu':=hu.mono hr.fz
  obtain ⟨kx,items,rfl,_,_⟩:=hu.isTup
  obtain ⟨xs,h1,_,h2,h3,h4⟩:=Aeg hr.toRepC h
  show wpAny _ _ (do return Value.bool (!(<- contains (.ref a) _))) _ _ s
  refine Be9 (Al2 (knd:=Ahn P.prog P.w) (k:=.tup ks) (Apk hm) ⟨hu',hk,Bg4 hdp⟩ h4 h1 (Bf6 ⟨g,σ,m,_,A2 g,hr.tok _,rfl,rfl,?_⟩))
  have hg:=Ae2 (g:=g) (.tup ks) h2 h3
  cases q:Am es (.tup ks) with
  | none=>rw [q] at hg hq; rw [hg]; exact hq
  | some d=>rw [q] at hg hq; obtain ⟨v,g1,_⟩:=hg; rw [g1]; exact hq
theorem Aee {a es ks d Q} (h:σ a=some (.Ad es)) (hk:V.keys ks=true) (hdp:V.Be ks<=7) (hd:Am es (.tup ks)=some d) (hq:Q d σ):Su P n (.loc a) (.tup ks) σ Q:=
 fun A st B g env m s o i value slice hr ho hi hm=>by
  obtain ⟨_,rfl⟩:=ho.inv
  have hi':=hi.mono hr.fz
  obtain ⟨kx,items,rfl,_,_⟩:=hi.isTup
  obtain ⟨xs,h1,_,h2,h3,h4⟩:=Aeg hr.toRepC h
  obtain ⟨ops,Aoe⟩:=Aab slice (.ref a) (.ref kx)
  have hg:=Ae2 (g:=g) (.tup ks) h2 h3
  rw [hd] at hg
  obtain ⟨p,g1,g2⟩:=hg
  exact Cm3 h1.typeIs slot_dict_getitem.lookup (wpAny_getItem_heap (knd:=Ahn P.prog P.w) (k:=.tup ks) (Apk hm) ⟨hi',hk,Bg4 hdp⟩ h1 g1 ⟨g,σ,m,d,A2 g,hr.tok _,g2,rfl,hq⟩) Aoe
theorem Amn {a es ks v Q} (h:σ a=some (.Ad es)) (hk:V.keys ks=true) (hdp:V.Be ks<=7) (hd:Am es (.tup ks)=none) (hq:Q (σ.put a (.Ad (es ++ [(.tup ks,v)])))) (hl:es.length<=100000):Si P n (.loc a) (.tup ks) v σ Q:=
 fun A st B g env m s o i u hr ho hi hx hm=>by
  obtain ⟨_,rfl⟩:=ho.inv
  have hi0:=hi
  have hi':=hi.mono hr.fz
  obtain ⟨kx,items,rfl,_,_⟩:=hi.isTup
  obtain ⟨xs,h1,hin,h2,h3,h4⟩:=Aeg hr.toRepC h
  have hlen:xs.length=es.length:=by simpa using congrArg Bp6 h2
  have hg:=Ae2 (g:=g) (.tup ks) h2 h3
  rw [hd] at hg
  refine wpAny_setItem_heap (knd:=Ahn P.prog P.w) (k:=.tup ks) (Apk hm) ⟨hi',hk,Bg4 hdp⟩ h1 (fun h' hdo hs=>?_) (by rw [hlen]; exact sz hl)
  rw [storedH_new hg] at hdo
  obtain ⟨o',ents,ep,w1,w2,w3,w4,w5,w6⟩:=hdo
  refine ⟨g,_,m,A2 g,hr.upd (x':=.Ad (es ++ [(.tup ks,v)])) h (fun b ob hb e=>(hs.2 b hb).trans e) w1 ⟨ents,ep,_,w2,w3,w4,fun x hx'=>?_,w6,by simp [h2],?_⟩ _,rfl,hq⟩
  · rcases Bh9.mp hx' with q | q
    · exact hin x q
    · rw [Bf7.mp q]; exact ⟨hi0,hk,Bg4 hdp⟩
  · rw [Bg2,Bg2]; exact h3.append (.one hx)
theorem Ark {a es ks Q} (h:σ a=some (.Ad es)) (hk:V.keys ks=true) (hdp:V.Be ks<=7) (hq:Q ((Am es (.tup ks)).getD .none) σ):Bt P n (.builtin "dict.get") [.loc a,.tup ks] σ Q:=
 fun A st B g env m s vals hr hv hm=>by
  replace hv:=hv.inv; obtain ⟨_,_,rfl,hv,t⟩:=hv
  ·
   replace t:=t.inv; obtain ⟨_,_,rfl,hv2,t⟩:=t
   ·
    cases t; obtain ⟨_,rfl⟩:=hv.inv
    have hi':=hv2.mono hr.fz
    obtain ⟨kx,items,rfl,_,_⟩:=hv2.isTup
    obtain ⟨xs,h1,hin,h2,h3,h4⟩:=Aeg hr.toRepC h
    refine call_meetsIn Ci0 h1.typeIs F.entry_dict_get (F.args_dict_get_2 _ _) (meetsH_dict_get (Ahn P.prog P.w) a kx h4) ⟨Apk hm,.tup ks,xs,⟨hi',hk,Bg4 hdp⟩,h1,?_⟩
    have hg:=Ae2 (g:=g) (.tup ks) h2 h3
    cases q:Am es (.tup ks) with
    | none=>rw [q] at hg hq; rw [hg]; exact ⟨g,σ,m,_,A2 g,hr.tok _,.none,rfl,hq⟩
    | some e=>rw [q] at hg hq; obtain ⟨p,g1,g2⟩:=hg; rw [g1]; exact ⟨g,σ,m,_,A2 g,hr.tok _,g2,rfl,hq⟩
end
section
variable {prog:Program} {w:World} {A:Around} {E:Value->Shared->Prop} {h:Heap} {g:Array GenState} {d:Drawn} {t:Nat} {os:OsState}
variable {nm q:Str} {C N:Addr} {bs bm:List Value} {Auu:Bool} {sn:List Str} {sub:List Value} {ab:Bool} {col:Option Bool} {dd:Option Addr} {k0 k1 k2 k3 k5:Option Value}
theorem Anq (Bbt:(Value.ref C :: bm).contains (.type "Exception")=true) {rest Q} (hC:h.get? C=some (Ck5 nm q C N bs bm Auu sn sub ab col dd k0 k1 k2 k3 k5 "Exception.__new__"))
  {M} (hq:Q () ⟨h,g,d,t,os⟩):wpAny M A (Co9 "Exception.__new__" ⟨.ref C :: rest,[]⟩) Q E ⟨h,g,d,t,os⟩:=by
 have F:=Bw2
 have Bcv:=F.noStar
 simp only [Co9,F.newKind,F.newSplit,F.newRow]
 repeat (first | refine Bp4 hC ?_ | (refine Bu3 hC ?_; rw [Bbt]) | refine wpAny_staticBase_exc hC ?_ | refine wpAny_madeBy_exc hC ?_ | refine Bz4 (by rw [bne_self_eq_false]; exact Bg6) ?_ | wp_step)
 exact hq
theorem Be1 {R} (hcB:(Value.ref C :: bm).contains (.type "Exception")=true) (hcA:(Value.ref C :: bm).contains (.type "AttributeError")=false) (hcN:(Value.ref C :: bm).contains (.type "NameError")=false)
  {rest} (hC:h.get? C=some (Ck5 nm q C N bs bm Auu sn sub ab col dd k0 k1 k2 k3 k5 "Exception.__new__"))
  (hq:R (.ok (.ret (.ref (h.objs.size + 1)))) ⟨(h.push { cls:=.type "tuple",data:=.seq rest.toArray }).push
   { cls:=.ref C,data:=.fields #[.ref h.objs.size,.none,.none,.none,.bool false,.none] },g,d,t,os⟩) (Avj:rest.length<=sizeLine) :
  Cb8 (model prog w) A (.builtin "Exception.__new__" ⟨.ref C :: rest,[]⟩) R ⟨h,g,d,t,os⟩:=by
 have F:=Bw2
 have Bdy:=F.ends
 refine PySem.codeAny_builtinAt F.entry ?_
 unfold Bi9.«BaseException.__new__»
 refine PySem.wpAt_bind ?_
 show PySem.wpAt _ _ _ (stack >>= _) _ _ _
 refine PySem.wpAt_bind (PySem.wpAt_stack fun p below=>PySem.wpAt_of_wpAny ?_)
 wp_walk
 refine PySem.wpAt_of_wpAny ?_
 rw [F.owner]
 repeat (first | with_reducible refine wpAny_madeHere_exc F.canon hC ?_ | with_reducible refine Bp4 hC ?_ | (with_reducible refine Bu3 hC ?_; first | rewrite [hcB] | rewrite [hcA] | rewrite [hcN]) | wp_step)
 show R _ _
 rw [Bu0]
 exact hq
theorem Ba2 {K rest fI Q} (X:K.In h) (hi:findIn K (.ref C) "__init__"=some (some (.ref fI))) (hf:typeIn K (.ref fI)=some (.type "function"))
   (hcB:(Value.ref C :: bm).contains (.type "Exception")=true) (hcA:(Value.ref C :: bm).contains (.type "AttributeError")=false) (hcN:(Value.ref C :: bm).contains (.type "NameError")=false)
   (hC:h.get? C=some (Ck5 nm q C N bs bm Auu sn sub ab col dd k0 k1 k2 k3 k5 "Exception.__new__"))
   (hq:∀ h' e,Heap.MadeExcOf h h' e (.ref C) rest ->
    wpAny (model prog w) (A.under (.builtin "type.__call__" ⟨.ref C :: rest,[]⟩)) (call (.ref fI) (.ref e :: rest)) (fun r s'=>r=.none/\Q (.ref e) s') E ⟨h',g,d,t,os⟩) (Avj:rest.length<=sizeLine) :
   wpAny (model prog w) A (call (.ref C) rest) Q E ⟨h,g,d,t,os⟩:=by
 have f1:=tc_lookup
 have f2:=tc_bind (.ref C)
 have hT:(⟨h,g,d,t,os⟩:Shared).TypeIs (.ref C) "type":=⟨_,hC,rfl⟩
 refine Ci9 (Cd0 ?_)
 show wpAny _ _ (callAny (.ref C) _) _ _ _
 repeat (any_goals (first | assumption | with_reducible refine Bp4 hC ?_ | wp_step))
 refine ⟨rfl,?_⟩
 refine codeAny_call_builtin_at (Code.quiet_builtin _ (by decide +kernel)) entry_typeCall (wpAny_check_type_call_sub hC ?_)
 have F:=Bw2
 repeat (first | with_reducible refine Bp4 hC ?_ | with_reducible refine wpAny_madeBy_exc hC ?_ | wp_step)
 refine codeAny_call_builtin_code (Code.quiet_builtin _ F.quiet) (Anq hcB hC ?_)
 refine Be1 hcB hcA hcN hC ?_ Avj
 show wpAny _ _ _ _ _ _
 have hC₁:=Bi5 { cls:=.ref C,data:=.fields #[.ref h.objs.size,.none,.none,.none,.bool false,.none] }
   (Bi5 { cls:=.type "tuple",data:=.seq rest.toArray } hC)
 have Awh:((h.push { cls:=.type "tuple",data:=.seq rest.toArray }).push
    { cls:=.ref C,data:=.fields #[.ref h.objs.size,.none,.none,.none,.bool false,.none] }).get? (h.objs.size + 1)=some
    { cls:=.ref C,data:=.fields #[.ref h.objs.size,.none,.none,.none,.bool false,.none] }:=by heap_get
 have hcC:(Value.ref C :: bm).contains (.ref C)=true:=by simp
 have X₁:K.In ((h.push { cls:=.type "tuple",data:=.seq rest.toArray }).push { cls:=.ref C,data:=.fields #[.ref h.objs.size,.none,.none,.none,.bool false,.none] }):=X.keeps fun b o e=>Bi5 _ (Bi5 _ e)
 unfold isInstance
 repeat (first | with_reducible refine Bp4 Awh ?_ | (with_reducible refine Bu3 hC₁ ?_; rw [hcC]) | wp_step)
 refine Bu3 hC₁ ?_
 rw [hcC]
 repeat (first | with_reducible refine Bp4 Awh ?_ | wp_step)
 show wpAny _ _ (typeLookup (.ref C) _) _ _ _
 refine (Cd9 X₁ hi).here ?_
 refine Bl1 (Be9 ?_)
 refine (bind_fn X₁ _ hf).here ?_
 refine Be9 (Bf3 (hq _ (h.objs.size + 1) ⟨fun b o hb=>Bi5 _ (Bi5 _ hb),Bn8 (Bm9 _),h.objs.size,Awh,Bn8 (Bh7 _),?_⟩) (fun r s' hr=>?_) fun _ _ x=>x)
 · exact Bi5 _ (Heap.get?_push_at rfl rfl)
 · obtain ⟨rfl,hQ⟩:=hr
   wp_walk
   exact hQ
end
theorem Aaq {name hash key v od ents n} (hd:od.data=.dict ents n) (hi:ents.findIdx? (·.key.isStr name)=none) :
  Bp9 name hash key v od={ od with data:=.dict (ents.push ⟨hash,key,v⟩) (n + 1) }:=by
 obtain ⟨c,d,dt,sl⟩:=od
 simp only at hd; subst hd
 simp only [Bs7,Bp8,hi]
section
variable {prog:Program} {w:World} {A:Around} {E:Value->Shared->Prop} {s:Shared} {K:Frag} {C x dx:Addr} {ox od:Obj} {name:Str} {v:Value}
theorem Ai4 {ents n tk b cd Q} (X:K.In s.heap) (hx:s.heap.get? x=some ox) (hcl:ox.cls=.ref C) (hdx:ox.dict=some dx) (hc:clsIn K C=some cd) (hh:cd.hasDict=true)
  (ho:s.heap.get? dx=some od) (hd:od.data=.dict ents n) (hn:ents.any (·.refKey)=false) (hi:ents.findIdx? (·.key.isStr name)=none) (hz:ents.size<=1000)
  (h:∀ hash,Q (.done (.ret .none)) { s with heap:=s.heap.update dx (Bp9 name hash (.str name s.toks) v),toks:=s.toks + 1 }) :
  wpAny (model prog w) A (Bu7 (.ref x) (.ref C) (.str name tk) name v b) Q E s:=by
 obtain ⟨oc,odi,oda,osl⟩:=ox
 dsimp only at hcl hdx
 subst hcl hdx
 refine Be9 (Bf6 (Be9 (Be9 (Ca7 hx (Be9 ((looks_clsIn X hc).here ?_))))))
 rw [hh]
 refine Bf6 (a:=some dx) (Be9 (Bf6 (Be9 ?_)))
 unfold nsSet
 refine Be9 (Be9 (Ch3 (Bf6 (Be9 (Cn9 (Be9 (Ca7 ho ?_)))))))
 rw [hd]
 dsimp only
 have c:(!ents.any (·.key.isStr name) && ents.any (·.refKey))=false:=by rw [hn,Bool.and_false]
 rw [aRefKeyMayBeTheName_at,c]
 refine Ch2 ho ?_
 have e1:=Bk4 (Bp9 name (if name.cps.isEmpty=true then 0 else Cf7 (w.params.strHash name.cps)) (.str name s.toks) v) ho (by rw [Aaq hd hi]; rfl)
 refine Be9 (wpAny_lookBehind e1 (by rw [Aaq hd hi]; exact pastItsLine_dict (by rw [Array.size_push]; exact Bg4 (sz (Be8 hz (by decide))))) ?_)
 exact Bf6 (h _)
theorem Aop {tk b cd Q} (X:K.In s.heap) (hx:s.heap.get? x=some ox) (hcl:ox.cls=.ref C) (hdx:ox.dict=none) (hnc:∃ vs,ox.data=.fields vs) (hc:clsIn K C=some cd) (hh:cd.hasDict=true)
  (h:∀ hash,Q (.done (.ret .none)) { s with heap:=((s.heap.push emptyDict).update x fun o=>{ o with dict:=some s.heap.objs.size }).update s.heap.objs.size (Bp9 name hash (.str name s.toks) v),toks:=s.toks + 1 }) :
  wpAny (model prog w) A (Bu7 (.ref x) (.ref C) (.str name tk) name v b) Q E s:=by
 obtain ⟨oc,odi,oda,osl⟩:=ox
 obtain ⟨vs,hnc⟩:=hnc
 dsimp only at hcl hdx hnc
 subst hcl hdx hnc
 refine Be9 (Bf6 (Be9 (Be9 (Ca7 hx (Be9 ((looks_clsIn X hc).here ?_))))))
 rw [hh]
 have hx1:=Bi5 emptyDict hx
 have hxs:x≠s.heap.objs.size:=Bl9 (Bl3 hx)
 refine Be9 (wpAny_alloc ?_)
 refine Be9 (wpAny_update hx1 ?_)
 refine Bf6 (a:=some s.heap.objs.size) (Be9 (Bf6 (Be9 ?_)))
 have ho:((s.heap.push emptyDict).update x fun o=>{ o with dict:=some s.heap.objs.size }).get? s.heap.objs.size=some emptyDict:=(Bj5 _ _ hxs).trans (Bi4 _ rfl)
 unfold nsSet
 refine Be9 (Be9 (Ch3 (Bf6 (Be9 (Cn9 (Be9 (Ca7 ho ?_)))))))
 dsimp only
 rw [aRefKeyMayBeTheName_at,show (!(#[]:Array DictEntry).any (·.key.isStr name) && (#[]:Array DictEntry).any (·.refKey))=false from by simp]
 refine Ch2 ho ?_
 have e1:=Bk4 (Bp9 name (if name.cps.isEmpty=true then 0 else Cf7 (w.params.strHash name.cps)) (.str name s.toks) v) ho (by rw [Aaq (od:=emptyDict) rfl (by simp)]; rfl)
 refine Be9 (wpAny_lookBehind e1 (by rw [Aaq (od:=emptyDict) rfl (by simp)]; exact pastItsLine_dict (by simp [Bn6])) ?_)
 exact Bf6 (h _)
theorem Aki {R od tk r cd} (X:K.In s.heap) (I:InstAt s.heap x ox C od) (hc:clsIn K C=some cd) (hr0:refuseLoop (.ref x) "__setattr__" cd.mro=pure ()) (hco:cd.mro.contains (.type "object")=true) (ht:takerIn K C name=some r)
  (h:∀ b,wpAny (model prog w) A.in1 (match r with | some a=>Bi9.ObjectAttr.setByDescriptor a (.ref x) v | none=>Bu7 (.ref x) (.ref C) (.str name tk) name v b)
   (fun fin s'=>match fin with | .done f=>R (.ok f) s' | .again c'=>c'.quiet=true/\Cb8 (model prog w) A c' R s') (fun e s'=>R (.error e) s') s) :
  Cb8 (model prog w) A (.call (.builtin "object.__setattr__") ⟨[.ref x,.str name tk,v],[]⟩) R s:=by
 have SF:=PySem.F.store_object
 have ne:cd.mro.isEmpty=false:=by cases q:cd.mro with | nil=>rw [q] at hco; cases hco | cons _ _=>rfl
 have sub:Looks (model prog w) s.heap (isInstance (.ref x) (.type "object")) true:=I.type.andThen (looks_mroIn X (by unfold mroIn; rw [hc,Option.bind_some,if_neg (by rw [ne]; decide),hco]))
 refine Cj8 SF.slot.plain SF.entry (@check_slot (model prog w) _ _ s "object.__setattr__" "object" "__setattr__" (.ref x) [.str name tk,v] [] _ SF.kind SF.split sub (SF.args (.ref x) (.str name tk) v) ?_)
 obtain ⟨attr,ha,hr⟩:=Bx6.mp ht
 have hm:Looks (model prog w) s.heap (mroOf (.ref C)) cd.mro:=(looks_clsIn X hc).andThen .now
 have L3:Looks (model prog w) s.heap (Bi9.ObjectAttr.storeTaker? attr) r:=by
  cases attr with
  | none=>cases hr; exact .now
  | some a=>
   obtain ⟨b,hb,rfl⟩:=Bn7.mp hr
   refine (looks_takesIn X hb).andThen ?_
   cases b <;> exact .now
 rw [osa_eq,refuse_eq]
 refine Be9 (Be9 (I.type.here (Be9 (hm.here ?_))))
 rw [hr0]
 refine Bf6 (Be9 (I.type.here (Be9 ((Cd9 X ha).here (Be9 (L3.here ?_))))))
 exact h _
end
section
variable {P:Pm} {n:Nat} {fx:Fx} {σ:Sto} {m:A8} {X:Xt}
theorem Auz {C fI vs Q Y} (hm':makesIn P.K C=true) (hi:findIn P.K (.ref C) "__init__"=some (some (.ref fI))) (hf:typeIn P.K (.ref fI)=some (.type "function"))
  (h:∀ dx,σ dx=none->Fn P n (.ref fI) (.inst C dx :: vs) (σ.put dx (.attrs [])) (fun v σ'=>v=.none/\Q (.inst C dx) σ') Y):Fn P (n + 1) (.ref C) vs σ Q Y:=
 fun A st B g s vals hr hv hm=>by
  obtain ⟨hh,gs,dr,t,os⟩:=s
  have kin:P.K.In hh:=hr.pc.kin.keeps hr.fz
  have R1:=hr.Ac7 (x:=.attrs []) (Aa3 hh emptyDict) (Bh7 _) (Bi4 hh (o:=emptyDict) rfl) ⟨rfl,rfl,rfl,#[],0,rfl,.nil⟩ t
  obtain ⟨g2,hg2,ho2,R2⟩:=R1.Aap (instObj C hh.objs.size) rfl (fun f=>by have q:Value.ref C=Value.type "frame":=f.1; cases q) t
  have esz:(hh.push emptyDict).objs.size=hh.objs.size + 1:=Bu0 ..
  have ho2':g2.get? (hh.objs.size + 1)=some (instObj C hh.objs.size):=by rw [<- esz]; exact ho2
  refine make_core (makes_of kin hm') (Cd9 kin hi) (fun self=>bind_fn kin self hf) (.inl rfl) ?_
  refine Bp5 (h _ (hr.Aat (Ak _)) (A.under (.builtin "type.__call__" ⟨.ref C :: vals,[]⟩)) st B g2 _ (.ref (hh.objs.size + 1) :: vals) (R2.Atr hr.stack) (.cons (.inst ho2') (by
    have:∀ {vs:List Value} {ds:List V},VRs g vs ds->VRs g2 vs ds:=fun x=>x.mono hg2
    exact this hv)) ⟨?_,?_,hm.2.2⟩) fun r s' q=>?_
  · exact rd hm.1
  · have e:(Code.builtin "type.__call__" (⟨.ref C :: vals,[]⟩:Args)).cUnits=1:=by kernel_rfl
    show A.units + (Code.builtin "type.__call__" (⟨.ref C :: vals,[]⟩:Args)).cUnits + 80 * n + 80 < _; rw [e]; exact rv hm.2.1
  · cases r with
    | ok f=>
     cases f with
     | ret v=>
      obtain ⟨g',σ',d,a,b,c,e,q⟩:=q
      subst e; obtain ⟨_,rfl⟩:=c.inv
      refine ⟨rfl,g',σ',_,A3 hg2 a,(b.Atr hr.stack),.inst (a _ _ ho2'),q⟩
     | _=>exact q
    | error e=>obtain ⟨g',σ',why,ea,a,b,c,d,e⟩:=q; exact ⟨g',σ',why,ea,A3 hg2 a,(b.Atr hr.stack),c,d,e⟩
theorem RepC.Aos {B g A st s} (R:RepC P B g A st σ s) {v C dx as} (hv:VR g v (.inst C dx)) (hx:σ dx=some (.attrs as)) :
  ∃ g',g.StaysIn g'/\VR g' v (.obj C as)/\RepC P B g' A st (σ.del dx) s:=by
 obtain ⟨h1,h2,o,h3,hc,hd,hs,es,n,hda,ha⟩:=R.sto dx _ hx
 have R':RepC P B g A st (σ.del dx) s:=R.forget fun b y e=>by
  unfold Sto.del at e; split at e
  · cases e
  · exact e
 have gs:=Aa4 (a:=dx) R.fz
 cases hv with
 | inst w=>exact ⟨_,gs,.obj (gs _ _ w) (Abq.trans h3) hc hda (by
    have:∀ {l:List DictEntry} {as:List (Str × V)},ARs g l as->ARs (Adl g s.heap dx) l as:=fun x=>x.mono gs
    exact this ha),R'.grow h3 h2 (by simp [Sto.del]) (fun f=>by have q:=f.1; rw [hc] at q; exact absurd q (by decide))⟩
theorem As4 {f vs Q Y} (h:Fn P n f vs σ (fun v σ'=>∃ C dx as,v=.inst C dx/\σ' dx=some (.attrs as)/\Q (.obj C as) (σ'.del dx)) Y):Fn P n f vs σ Q Y:=
 fun A st B g s vals hr hv hm=>Bp5 (h A st B g s vals hr hv hm) fun r s' q=>by
  cases r with
  | ok f=>
   cases f with
   | ret v=>
    obtain ⟨g',σ',d,a,b,c,C,dx,as,e1,e2,q⟩:=q
    subst e1
    obtain ⟨g2,k1,k2,k3⟩:=b.Aos c e2
    exact ⟨g2,_,_,A3 a k1,k3,k2,q⟩
   | _=>exact q
  | error e=>exact q
end
section
variable {prog:Program} {w:World} {A:Around} {E:Value->Shared->Prop} {h:Heap} {g:Array GenState} {d:Drawn} {t:Nat} {os:OsState} {K:Frag} {C a:Addr} {oe od:Obj} {name:Str}
theorem Bcs {v expr Q} (X:K.In h) (I:InstAt h a oe C (some od)) (hga:findIn K (.ref C) "__getattribute__"=some (some (.builtin "BaseException.__getattribute__")))
  (hno:findIn K (.ref C) "__getattr__"=some none) (Au8:subIn K (.ref C) (.type "BaseException")=some true) (hfo:findObj K C (some od) name=some (.value v)) (hh:handedIn v=true) (hq:Q v ⟨h,g,d,t + 1,os⟩) :
  wpAny (model prog w) A (getAttr (.ref a) name expr) Q E ⟨h,g,d,t,os⟩:=by
 have L0:=I.type (M:=model prog w)
 have L1:=Cd9 (M:=model prog w) X hga
 have L2:=Cd9 (M:=model prog w) X hno
 have L3:=looks_find (M:=model prog w) X I hfo
 have L4:Looks (model prog w) h (isInstance (.ref a) (.type "BaseException")) true:=L0.andThen (looks_subIn X Au8)
 have hx0:(expr && onTheHeap (Value.builtin "BaseException.__getattribute__"))=false:=by cases expr <;> rfl
 have hx2:(Value.builtin "BaseException.__getattribute__" == Value.builtin "object.__getattribute__")=false:=by decide +kernel
 have hx1:(onTheHeap (Value.ref C) && Value.builtin "BaseException.__getattribute__" == Value.builtin "object.__getattribute__")=false:=by rw [hx2]; rfl
 unfold getAttr getAttrBy
 refine Be9 (Cn9 (Bl1 (Be9 (L0.at (Be9 (L1.at ?_))))))
 dsimp only
 rw [hx1]
 rw [if_neg (by decide)]
 unfold getAttrByItsOwn
 refine Be9 (show wpAny _ _ (typeLookup (.ref C) "__getattr__") _ _ _ from L2.at ?_)
 refine Be9 (wpAny_attempt (Bl1 ?_))
 unfold callGetattribute
 rw [hx0]
 rw [if_neg (by decide)]
 unfold boundAndCalled
 refine Be9 (Cg8 (PySem.F.attrBase_Exception.ga.bind (.ref a)) ?_)
 refine Ci9 (Cj8 PySem.F.attrBase_Exception.ga.plain PySem.F.entry_bexc_ga (@check_slot (model prog w) _ _ _ "BaseException.__getattribute__" "BaseException" "__getattribute__" (.ref a) [.str name t] [] _ (by decide +kernel) (by decide +kernel) L4 (PySem.F.args_bexc_ga (.ref a) (.str name t)) ?_))
 refine Be9 (Bf6 (Be9 (Bf6 (Be9 (L0.at (Be9 (L3.at ?_)))))))
 refine Bf6 ?_
 show wpAny _ _ (handedOut v) _ _ _
 rw [handedOut_of hh]; exact Bf6 hq
variable {nm q:Str} {N:Addr} {bs bm:List Value} {Auu:Bool} {sn:List Str} {sub:List Value} {ab:Bool} {col:Option Bool} {dd:Option Addr} {k0 k1 k2 k3 k5:Option Value}
theorem Bag {e t0 rest Q} (hcB:(Value.ref C :: bm).contains (.type "Exception")=true) (hC:h.get? C=some (Ck5 nm q C N bs bm Auu sn sub ab col dd k0 k1 k2 k3 k5 "Exception.__new__"))
  (he:h.get? e=some { cls:=.ref C,data:=.fields #[.ref t0,.none,.none,.none,.bool false,.none] }) (Avj:rest.length<=sizeLine)
  (hq:Q .none ⟨(h.push { cls:=.type "tuple",data:=.seq rest.toArray }).update e (Br5 (·.setIfInBounds 0 (.ref h.objs.size))),g,d,t,os⟩) :
  wpAny (model prog w) A (call (.builtin "Exception.__init__") (.ref e :: rest)) Q E ⟨h,g,d,t,os⟩:=by
 have F:=Bw2
 have Bc9:=F.noStar
 refine Ci9 (Cj8 F.init.plain F.initEntry ?_)
 simp only [Co9,F.initKind,F.initSplit,F.initRow]
 repeat (first | with_reducible refine Bp4 he ?_ | with_reducible refine Bp4 hC ?_ | (refine Bu3 hC ?_; rw [hcB]) | wp_step)
 refine wpAny_onRaise ?_
 rw [show ∀ (a b:String) (n:Nat),Bind.check ⟨.positional,"*","Exception",.self,[⟨"args",.varPos,false⟩]⟩ a b n (Bz6 (fun x=>x.fst) ({ pos:=Value.ref e :: rest }:Args).kw)=pure () from
  fun a b n=>check_star_args _ _ _ _ _ _]
 refine Bf6 ?_
 wp_walk
 exact hq
end
noncomputable def Axe (k:Int):Str:=Bf5 (toString k)
section
variable {P:Pm} {n:Nat} {fx:Fx} {σ:Sto} {m:A8} {X:Xt}
theorem Ak7 {i Q} (h1:-1000000<=i) (h2:i<=1000000) (h:Q (.str (Axe i)) σ):Bt P n (.type "str") [.int i] σ Q:=
 fun A st B g env m s vals hr hv hm=>by
  replace hv:=hv.inv; obtain ⟨_,_,rfl,hv,t⟩:=hv
  ·
   cases t; obtain ⟨_,rfl⟩:=hv.inv
   refine PySem.P.str_of_int ?_ ⟨g,σ,m,_,A2 g,hr.tok _,.str _ _,rfl,h⟩
   have hn:i.natAbs < 2 ^ 20:=by
     cases i with
     | ofNat n=>exact Bg7 (Bk9.mp h2) (by decide)
     | negSucc n=>exact Bg7 (Bk9.mp (Cp3 h1)) (by decide)
   rcases Nat.eq_zero_or_pos i.natAbs with h0 | hp
   · rw [h0]; decide
   · exact Bj4 ((Nat.log2_lt (Bq2 hp)).mpr hn) (by decide)
theorem Ai9 {g}:∀ (ps:List Str) (tk:Nat),VRs g (strsFrom tk ps) (ps.map .str)
 | [],_=>.nil
 | x :: r,tk=>.cons (.str x tk) (Ai9 r (tk + 1))
theorem Ame {x y ps Q} (h1:(decide (x.length < y.length) || decide (Bs8 x < Bs8 y))=false) (hy:(y.length == 0)=false)
  (hf:(Bo2 x y 0 x.length (x.length + 1)).isEmpty=false) (hp:Bs5 x (Bo2 x y 0 x.length (x.length + 1)) y.length=ps) (hx:x.length<=100000) (hn:ps.length<=100000)
  (h:Q (.lst (ps.map .str)) σ):Bt P n (.builtin "str.split") [.str x,.str y] σ Q:=
 fun A st B g env m s vals hr hv hm=>by
  replace hv:=hv.inv; obtain ⟨_,_,rfl,hv,t⟩:=hv
  ·
   replace t:=t.inv; obtain ⟨_,_,rfl,hv2,t⟩:=t
   cases t; obtain ⟨_,rfl⟩:=hv.inv; obtain ⟨_,rfl⟩:=hv2.inv
   refine Bx1 F.slot_str_split (typeIs_str _ _ _) F.entry_str_split (F.args_str_split_2 _ _) (meets_str_split_sep x y _ _ h1 hy hf (sz hx) (by rw [hp]; exact sz hn)) ?_
   rw [hp]
   obtain ⟨g2,hg2,ho2,R2⟩:=hr.Aap { cls:=.type "list",data:=.seq (strsFrom s.toks ps).toArray } rfl (fun f=>by have q:Value.type "list"=Value.type "frame":=f.1; exact absurd q (by decide)) (s.toks + ps.length)
   exact ⟨g2,σ,m,_,hg2,R2,.lst ho2 rfl rfl (Ai9 ps _),rfl,h⟩
end
noncomputable def kev {α:Type} (lt:Nat->Nat->Bool):KasT α->α
 | .ret a=>a
 | .ask i j k=>kev lt (k (lt i j))
noncomputable def kin {α:Type} (n:Nat) (lt:Nat->Nat->Bool):KasT α->Bool
 | .ret _=>true
 | .ask i j k=>decide (i < n) && decide (j < n) && kin n lt (k (lt i j))
theorem Bah:∀ {α:Type} (n:Nat) (lt:Nat->Nat->Bool) (i j:Nat) (k:Bool->KasT α),kin n lt (KasT.ask i j k)=(decide (i < n) && decide (j < n) && kin n lt (k (lt i j))):=by intros; rfl
theorem Aug {α:Type} {n lt cmp s} (hc:∀ i j C,i < n->j < n->C (lt i j) s->cmp i j C s) {Q}:∀ (t:KasT α),kin n lt t=true->Q (kev lt t) s->t.kasWp cmp Q s
 | .ret a,_,h=>h
 | .ask i j k,g,h=>by
  simp only [Bah,Bg1,decide_eq_true_eq] at g
  exact hc i j _ g.1.1 g.1.2 (Aug hc (k (lt i j)) g.2 h)
noncomputable def allR (m:Nat):Nat->List (List Nat)
 | 0=>[[]]
 | k + 1=>(allR m k).flatMap fun r=>(Bi1 m).map fun x=>x :: r
theorem Ayf:∀ (m k:Nat),allR m k.succ=List.flatMap (fun r=>Bz6 (fun x=>x :: r) (Bi1 m)) (allR m k):=by intros; rfl
noncomputable def Ai8 (n:Nat) (r:List Nat):Bool:=
 kin n (fun i j=>decide (r.getD i 0 < r.getD j 0)) (Bz5 n) &&
 let p:=(kev (fun i j=>decide (r.getD i 0 < r.getD j 0)) (Bz5 n)).toList
 p.isPerm (Bi1 n) && (p.zip p.tail).all fun x=>decide (r.getD x.1 0<=r.getD x.2 0)
theorem Avt:(allR 2 2).all (Ai8 2)=true:=by decide +kernel
theorem Aws:(allR 3 3).all (Ai8 3)=true:=by decide +kernel
theorem Awx:(allR 4 4).all (Ai8 4)=true:=by decide +kernel
theorem Av7:(allR 5 5).all (Ai8 5)=true:=by decide +kernel
theorem Ani {m}:∀ {k r},r.length=k->(∀ x∈r,x < m)->r∈allR m k
 | 0,r,h,_=>by simp at h; subst h; exact .head _
 | k + 1,[],h,_=>by simp at h
 | k + 1,x :: r,h,hx=>by
  rw [Ayf,Ce8]
  exact ⟨r,Ani (by simpa using h) (fun y hy=>hx y (.tail _ hy)),Bh3.mpr ⟨x,Bk7.mpr (hx x (.head _)),rfl⟩⟩
noncomputable def lexLt (a b:Int × Int):Bool:=decide (a.1 < b.1) || (decide (a.1=b.1) && decide (a.2 < b.2))
theorem Ab7 {a b}:lexLt a b=true ↔ a.1 < b.1∨(a.1=b.1/\a.2 < b.2):=by simp [lexLt]
noncomputable def Ab4 (ps:List (Int × Int)) (a:Int × Int):Nat:=ps.countP fun b=>lexLt b a
theorem Awi {ps a b} (h:lexLt b a=false):Ab4 ps a<=Ab4 ps b:=by
 refine List.countP_mono_left fun x _ hx=>?_
 rw [Ab7] at hx ⊢
 have:¬ (b.1 < a.1∨(b.1=a.1/\b.2 < a.2)):=by rw [<- Ab7,h]; simp
 exact lx1 hx this
theorem Apa {ps a b} (ha:a∈ps) (h:lexLt a b=true):Ab4 ps a < Ab4 ps b:=by
 have h':=Ab7.mp h
 unfold Ab4
 induction ps with
 | nil=>cases ha
 | cons x r ih=>
  have Bbm:r.countP (fun y=>lexLt y a)<=r.countP (fun y=>lexLt y b):=List.countP_mono_left fun y _ hy=>by
    rw [Ab7] at hy ⊢; exact lx2 hy h'
  rw [List.countP_cons,List.countP_cons]
  rcases Bi0.mp ha with rfl | ha
  · have e1:lexLt a a=false:=by
     cases q:lexLt a a with
     | false=>rfl
     | true=>exact (lx0 (Ab7.mp q)).elim
    rw [e1,h]; simp; exact Bp3 Bbm
  · have:=ih ha
    have:(if lexLt x a=true then 1 else 0)<=(if lexLt x b=true then 1 else 0):=by
     cases q:lexLt x a with
     | false=>simp
     | true=>
      have:lexLt x b=true:=by have:=Ab7.mp q; rw [Ab7]; exact lx2 this h'
      simp [this]
    exact Nat.add_lt_add_of_lt_of_le (ih ha) this
theorem Asf {ps a b} (ha:a∈ps):decide (Ab4 ps a < Ab4 ps b)=lexLt a b:=by
 cases q:lexLt a b with
 | false=>exact decide_eq_false (Ck8.mpr (Awi (ps:=ps) q))
 | true=>have:=Apa ha q; simp [this]
theorem Au3 {ps a} (ha:a∈ps):Ab4 ps a < ps.length:=by
 have h1:Ab4 ps a<=ps.length:=List.countP_le_length
 rcases Nat.lt_or_ge (Ab4 ps a) ps.length with h | h
 · exact h
 · have:=List.countP_eq_length.mp (Cn6 h1 h:ps.countP (fun b=>lexLt b a)=ps.length) a ha
   exact (lx0 (Ab7.mp this)).elim
theorem Ao2 {n} (h2:2<=n) (h5:n<=5) {r} (hl:r.length=n) (hx:∀ x∈r,x < n):Ai8 n r=true:=by
 have hm:=Ani hl hx
 rcases (by lia:n=2∨n=3∨n=4∨n=5) with rfl | rfl | rfl | rfl
 · exact Bj8.mp Avt _ hm
 · exact Bj8.mp Aws _ hm
 · exact Bj8.mp Awx _ hm
 · exact Bj8.mp Av7 _ hm
theorem Ao8 {α:Type} {R:α->α->Prop} (ht:∀ a b c,R a b->R b c->R a c) {l:List α} (h:∀ x∈l.zip l.tail,R x.1 x.2):l.Pairwise R:=by
 induction l with
 | nil=>exact .nil
 | cons a l ih=>
  cases l with
  | nil=>exact List.pairwise_singleton ..
  | cons b r=>
   have ih:=ih fun x hx=>h x (.tail _ hx)
   have hab:R a b:=h (a,b) (.head _)
   refine Cj2.mpr ⟨fun c hc=>?_,ih⟩
   cases Bi0.mp hc with
   | inl e=>rw [e]; exact hab
   | inr hc=>exact ht _ _ _ hab (List.rel_of_pairwise_cons ih hc)
noncomputable def Ans (ps:List (Int × Int)) (i j:Nat):Bool:=decide ((ps.map (Ab4 ps)).getD i 0 < (ps.map (Ab4 ps)).getD j 0)
theorem Ahp {ps i} (hi:i < ps.length):(ps.map (Ab4 ps)).getD i 0=Ab4 ps (ps.getD i (0,0))/\ps.getD i (0,0)∈ps:=by
 have hi':i < (ps.map (Ab4 ps)).length:=by rw [Bf0]; exact hi
 refine ⟨?_,?_⟩
 · simp [hi]
 · simp [hi]
theorem Aw2 {ps i j} (hi:i < ps.length) (hj:j < ps.length):Ans ps i j=lexLt (ps.getD i (0,0)) (ps.getD j (0,0)):=by
 unfold Ans
 rw [(Ahp hi).1,(Ahp hj).1,Asf (Ahp hi).2]
theorem As2 {ps:List (Int × Int)} (h2:2<=ps.length) (h5:ps.length<=5) :
  kin ps.length (Ans ps) (Bz5 ps.length)=true/\(kev (Ans ps) (Bz5 ps.length)).toList.Perm (Bi1 ps.length)/\((kev (Ans ps) (Bz5 ps.length)).toList.map fun i=>ps.getD i (0,0)).Pairwise (fun a b=>a.1<=b.1):=by
 have hok:=Ao2 h2 h5 (r:=ps.map (Ab4 ps)) (Bf0 ..) (fun x hx=>by
  obtain ⟨a,ha,rfl⟩:=Bh3.mp hx
  exact Au3 ha)
 unfold Ai8 at hok
 simp only [Bg1] at hok
 obtain ⟨o0,o1,o2⟩:=hok
 have hp:=List.isPerm_iff.mp o1
 refine ⟨o0,hp,?_⟩
 rw [List.pairwise_map]
 refine List.Pairwise.imp_of_mem (R:=fun i j=>(ps.map (Ab4 ps)).getD i 0<=(ps.map (Ab4 ps)).getD j 0) (fun {i j} hi hj hij=>?_) (Ao8 (R:=fun i j=>(ps.map (Ab4 ps)).getD i 0<=(ps.map (Ab4 ps)).getD j 0) (fun a b c x y=>Be8 x y) fun x hx=>by
  have:=Bj8.mp o2 x hx
  simpa using this)
 have hi':=Bk7.mp (hp.subset hi)
 have hj':=Bk7.mp (hp.subset hj)
 rw [(Ahp hi').1,(Ahp hj').1] at hij
 have:lexLt (ps.getD j (0,0)) (ps.getD i (0,0))=false:=by
  cases q:lexLt (ps.getD j (0,0)) (ps.getD i (0,0)) with
  | false=>rfl
  | true=>exact absurd hij (Nat.not_le.mpr (Apa (Ahp hj').2 q))
 have:¬ (_∨_):=fun q=>by rw [Ab7.mpr q] at this; cases this
 exact Bs6.mp fun q=>this (.inl q)
noncomputable abbrev prV (x:Int × Int):V:=.tup [.int x.1,.int x.2]
theorem VRs.two {g:Heap} {l:List Value} {x:Int × Int} (h:VRs g l [.int x.1,.int x.2]):∃ t u,l=[.int x.1 t,.int x.2 u]:=by
 replace h:=h.inv; obtain ⟨_,_,rfl,a1,t1⟩:=h
 ·
  replace t1:=t1.inv; obtain ⟨_,_,rfl,a2,t2⟩:=t1
  · obtain ⟨_,rfl⟩:=a1.inv; obtain ⟨_,rfl⟩:=a2.inv; cases t2; exact ⟨_,_,rfl⟩
theorem VRs.Bcl {g:Heap} {vs:List Value} {ps:List (Int × Int)} (h:VRs g vs (ps.map prV)) {i:Nat} (hi:i < ps.length):∃ a o n xs t u,vs.getD i Value.none=.ref a/\g.get? a=some o/\o.cls=.type "tuple"/\o.data=.seq xs n/\xs.toList=[.int (ps.getD i (0,0)).1 t,.int (ps.getD i (0,0)).2 u]:=by
 obtain ⟨v,hv,hr⟩:=h.get (k:=i) (d:=prV (ps.getD i (0,0))) (by simp [hi])
 obtain ⟨a,xs,rfl,⟨o,h1,h2,n,h3⟩,h4⟩:=hr.isTup
 obtain ⟨t,u,e⟩:=h4.two
 exact ⟨a,o,n,xs,t,u,by rw [Bj9,hv]; rfl,h1,h2,h3,e⟩
section
variable {prog:Program} {w:World} {A:Around} {E:Value->Shared->Prop} {s:Shared} {g:Heap}
theorem Aqs {vs:List Value} {ps:List (Int × Int)} {b:Bool} {i j:Nat} {C:Bool->Shared->Prop} (h:VRs g vs (ps.map prV)) (gs:g.StaysIn s.heap) (hi:i < ps.length) (hj:j < ps.length)
   (hc:C (lexLt (ps.getD i (0,0)) (ps.getD j (0,0))) s):kas_ask prog w A (tuples' b) vs i j C s:=by
 obtain ⟨a1,o1,n1,xs,t1,u1,e1,g1,c1,d1,q1⟩:=h.Bcl hi
 obtain ⟨a2,o2,n2,ys,t2,u2,e2,g2,c2,d2,q2⟩:=h.Bcl hj
 revert hc q1; with_reducible refine gz (ps.getD i (0,0)) fun p hc q1=>?_
 revert q2 hc; with_reducible refine gz (ps.getD j (0,0)) fun q q2 hc=>?_
 unfold kas_ask
 rw [e1,e2]
 refine kat_lt (gs _ _ g1) d1 (gs _ _ g2) d2 ?_
 have z:decide (xs.size < ys.size)=false:=by
   have e1:=congrArg Bp6 q1
   have e2:=congrArg Bp6 q2
   simp only [Bg5,Bh5,Bl2] at e1 e2
   simp [e1,e2]
 rw [q1,q2,z]
 show KatLex prog w A b false _ [(_,_),(_,_)] 0 s
 refine kat_cons (wpAny_eqBool_int (kat_go (fun k=>?_) (fun k=>?_)))
 · have k1:p.1=q.1:=by simpa using k
   refine kat_yes (kat_cons (wpAny_eqBool_int (kat_go (fun k=>?_) (fun k=>?_))))
   · have k2:p.2=q.2:=by simpa using k
     rw [show lexLt p q=false by simp [lexLt,k1,k2]] at hc
     exact kat_yes (kat_nil hc)
   · have e:lexLt p q=decide (p.2 < q.2):=by simp [lexLt,k1]
     rw [e] at hc
     refine kat_no ?_
     rw [show (b && 0 + 1 == 0)=false by simp]
     exact kat_one _ _ (lt_int hc)
 · have k1:¬ p.1=q.1:=by simpa using k
   have e:lexLt p q=decide (p.1 < q.1):=by simp [lexLt,k1]
   rw [e] at hc
   refine kat_no ?_
   cases b with
   | true=>exact oneLt_int hc
   | false=>exact kat_one _ _ (lt_int hc)
theorem Ao4 {l:Addr} {vs:List Value} {ps:List (Int × Int)} {Q:Value->Shared->Prop} (hl:s.heap.IsList l vs.toArray) (h:VRs g vs (ps.map prV)) (gs:g.StaysIn s.heap) (h5:ps.length<=5)
  (hq:∀ (h':Heap) (D:Addr) (n:Nat) (out:List Value) (ps':List (Int × Int)),s.heap.StaysIn h'->s.heap.get? D=none->D≠l->h'.get? D=some (Bx4 "list" (Bu9 out) n)->VRs g out (ps'.map prV)->ps'.Perm ps->ps'.Pairwise (fun a b=>a.1<=b.1)->Q (.ref D) { s with heap:=h' }) :
  wpAny (model prog w) A (call (.builtin "sorted") [.ref l]) Q E s:=by
 have hvl:vs.length=ps.length:=by rw [h.length,Bf0]
 refine Calls.call_function_entry kind_sorted plain_sorted entry_sorted (args_sorted1 _) ?_
 unfold Bi9.«sorted»
 refine Be9 (m:=checkCount "sorted" 1 1 _) (Bf6 ?_)
 refine Be9 (collect_list hl ?_ (by rw [hvl]; exact sz (Be8 h5 (by decide))))
 refine Be9 (wpAny_newList ?_ (by rw [hvl]; exact sz (Be8 h5 (by decide))))
 have hsz:((s.heap.push (Bx4 "list" #[] 0)).update s.heap.objs.size (Bt4 (· ++ vs.toArray))).objs.size=s.heap.objs.size + 1:=by
  rw [Ca1,size_push']
 have hoL:(((s.heap.push (Bx4 "list" #[] 0)).update s.heap.objs.size (Bt4 (· ++ vs.toArray))).push (Bx4 "list" vs.toArray 0)).get? (s.heap.objs.size + 1)=some (Bx4 "list" vs.toArray 0):=by
  rw [<- hsz]; exact Bi4 _ rfl
 have keep:s.heap.StaysIn (((s.heap.push (Bx4 "list" #[] 0)).update s.heap.objs.size (Bt4 (· ++ vs.toArray))).push (Bx4 "list" vs.toArray 0)):=fun b o q=>by
  have hlt:b < s.heap.objs.size:=Bl3 q
  rw [Bw1 _ _ _ (by rw [hsz]; exact Bl9 (Bt5 hlt)),Cb5 _ _ _ _ (Bl9 hlt),Bw1 _ _ _ (Bl9 hlt)]
  exact q
 have hD:s.heap.get? (s.heap.objs.size + 1)=none:=Bn8 (Bm9 _)
 have hDl:s.heap.objs.size + 1≠l:=by
  obtain ⟨o,ho,_⟩:=hl
  have:=Bl3 ho; exact Bq2 (Bt5 this)
 show wpAny _ _ _ _ _ { s with heap:=((s.heap.push (Bx4 "list" #[] 0)).update s.heap.objs.size (Bt4 (· ++ vs.toArray))).push (Bx4 "list" vs.toArray 0) }
 rw [hsz]
 revert hoL keep; with_reducible refine gze (((s.heap.push (Bx4 "list" #[] 0)).update s.heap.objs.size (Bt4 (· ++ vs.toArray))).push (Bx4 "list" vs.toArray 0)) fun H hH hoL keep=>?_
 revert hsz hD hDl hoL; with_reducible refine gz (s.heap.objs.size + 1) fun a hsz hD hDl hoL=>?_
 refine Be9 (Bl1 (Br4 slot_list_sort ⟨_,hoL,rfl⟩ entry_list_sort ?body (args_list_sort _)))
 case body=>
  rw [list_sort_plain]
  have ha:a < H.objs.size:=Bl3 hoL
  obtain ⟨e1,ho1⟩:∃ e1,(H.update a (Bt4 fun _=>(#[]:Array Value))).get? a=some (Bx4 "list" #[] e1):=⟨_,Cq1 hoL fun _=>#[]⟩
  refine Be9 (listItems_at hoL rfl ?_)
  refine Be9 (listUpdate_at hoL rfl ?_ (by rw [Bp2,hvl]; exact sz (Be8 h5 (by decide))) (Bh2 _))
  refine Be9 (seqEpoch_at ho1 rfl ?_)
  refine Be9 (wpAny_newTuple ?_ (by show vs.length<=_; rw [hvl]; exact sz (Be8 h5 (by decide))))
  refine Be9 (wpAny_newList ?_ (Bh2 _))
  refine Bl1 ?_
  have ho6:(((H.update a (Bt4 fun _=>#[])).push (Bx4 "tuple" vs.toArray 0)).push (Bx4 "list" #[] 0)).get? a=some (Bx4 "list" #[] e1):=by
    rw [Bw1 _ _ _ (by rw [size_push',Ca1]; exact Bl9 (Bt5 ha)),Bw1 _ _ _ (by rw [Ca1]; exact Bl9 ha)]
    exact ho1
  have keep6:s.heap.StaysIn (((H.update a (Bt4 fun _=>#[])).push (Bx4 "tuple" vs.toArray 0)).push (Bx4 "list" #[] 0)):=fun b o q=>by
    have hb:=keep b o q
    have hlt:b < H.objs.size:=Bl3 hb
    rw [Bw1 _ _ _ (by rw [size_push',Ca1]; exact Bl9 (Bt5 hlt)),Bw1 _ _ _ (by rw [Ca1]; exact Bl9 hlt),
      Cb5 _ _ _ _ (by rintro rfl; rw [hD] at q; cases q)]
    exact hb
  show wpAny (model prog w) A.in1.in1 _ _ _ { s with heap:=((H.update a (Bt4 fun _=>#[])).push (Bx4 "tuple" vs.toArray 0)).push (Bx4 "list" #[] 0) }
  revert ho6 keep6; with_reducible refine gze (((H.update a (Bt4 fun _=>#[])).push (Bx4 "tuple" vs.toArray 0)).push (Bx4 "list" #[] 0)) fun H6 hH6 ho6 keep6=>?_
  dsimp only
  have sub:∀ (p:List Nat),p.Perm (Bi1 ps.length)->VRs g (p.map fun i=>vs.getD i Value.none) ((p.map fun i=>ps.getD i (0,0)).map prV)/\(p.map fun i=>ps.getD i (0,0)).Perm ps:=fun p hp=>by
    refine ⟨?_,?_⟩
    · have:∀ (l:List Nat),(∀ i∈l,i < ps.length)->VRs g (l.map fun i=>vs.getD i Value.none) ((l.map fun i=>ps.getD i (0,0)).map prV):=by
        intro l
        induction l with
        | nil=>intro _; exact .nil
        | cons i r ih=>
         intro hi
         obtain ⟨v,hv,hr⟩:=h.get (k:=i) (d:=prV (ps.getD i (0,0))) (by simp [hi i (.head _)])
         refine .cons ?_ (ih fun j hj=>hi j (.tail _ hj))
         show VR g (vs.getD i Value.none) _
         rw [Bj9,hv]; exact hr
      exact this p fun i hi=>Bk7.mp (hp.subset hi)
    · refine (hp.map _).trans (List.Perm.of_eq ?_)
      apply Bt9
      · simp
      · intro i h1 h2; simp [h2]
  by_cases h2:vs.toArray.size < 2
  · rw [if_pos h2,if_pos h2]
    refine Be9 (Bf6 ?_)
    rw [StateT.run_pure]
    refine Be9 (Bf6 ?_)
    dsimp only
    have Bax:(arrOf (SortSt.mk' general' (vs.toArray.zip vs.toArray) #[] 7 none)).map (·.2)=Bu9 vs:=by
      show (vs.toArray.zip vs.toArray).map (·.2)=_
      apply Array.toList_inj.mp
      simp [Cl4]
    have hf:failedOf (SortSt.mk' general' (vs.toArray.zip vs.toArray) #[] 7 none)=none:=rfl
    have hp1:ps.Pairwise (fun a b=>a.1<=b.1):=by
      rw [Bp2] at h2
      have h2:ps.length < 2:=hvl ▸ h2
      cases ps with
      | nil=>exact .nil
      | cons x ps=>
        cases ps with
        | nil=>exact List.pairwise_singleton ..
        | cons y r=>exact absurd h2 (Ck8.mpr (Bq0 2 r.length))
    obtain ⟨c2,hc2⟩:∃ c2,(H6.update a (Bt4 fun _=>Bu9 (vs))).get? a=some (Bx4 "list" (Bu9 (vs)) c2):=⟨_,Cq1 ho6 fun _=>Bu9 (vs)⟩
    refine Be9 (seqEpoch_at ho6 rfl ?_)
    rw [Bax]
    refine Be9 (listUpdate_at ho6 rfl ?_ (Bh2 _) (by rw [Bp2,hvl]; exact Bk1 (sz (Be8 h5 (by decide)))))
    simp only [bne_self_eq_false,Bp7,if_false]
    refine Bf6 ⟨_,rfl,Bf6 ⟨_,rfl,hq _ a c2 (vs) (ps) (fun b o q=>?_) hD hDl hc2 h (Cl1 ps) hp1⟩⟩
    rw [Cb5 _ _ _ _ (by rintro rfl; rw [hD] at q; cases q)]
    exact keep6 b o q
  · rw [if_neg h2,if_neg h2]
    rw [Bp2] at h2
    have hT:∃ fs:List Value,KatTups H6 vs fs/\fs.length=vs.length/\∀ v∈fs,∃ i t,v=.int i t:=by
      have:∀ (vs:List Value) (ps:List (Int × Int)),VRs g vs (ps.map prV)->∃ fs:List Value,KatTups H6 vs fs/\fs.length=vs.length/\∀ v∈fs,∃ i t,v=.int i t:=by
        intro vs ps
        induction ps generalizing vs with
        | nil=>intro h; cases h; exact ⟨[],.nil,rfl,by simp⟩
        | cons p r ih=>
         intro h
         replace h:=h.inv; obtain ⟨_,_,rfl,x,xs⟩:=h
         ·
          obtain ⟨fs,f1,f2,f3⟩:=ih _ xs
          obtain ⟨a,ys,rfl,⟨o,h1,h2,n,h3⟩,h4⟩:=x.isTup
          obtain ⟨t,u,e⟩:=h4.two
          refine ⟨.int p.1 t :: fs,KatTups.cons (keep6 _ _ (gs _ _ h1)) h2 h3 ?_ f1,by simp [f2],fun v hv=>?_⟩
          · rw [<- Bj0,e]; rfl
          · rcases Bi0.mp hv with rfl | hv
            · exact ⟨_,_,rfl⟩
            · exact f3 v hv
      exact this vs ps h
    obtain ⟨fs,f1,f2,f3⟩:=hT
    refine Be9 (Bf3 (kat_kind (E:=fun _ _=>False) (T:=.type "int") (Q:=fun κ s'=>(∃ b,κ=tuples' b)/\s'={ s with heap:=H6 }) f1 (by rw [f2]; exact Bh0 (by decide) (Bm5 h2)) (fun v hv=>?_) (by rfl) ⟨⟨_,rfl⟩,rfl⟩) ?_ fun _ _ x=>x.elim)
    · obtain ⟨i,t,rfl⟩:=f3 v hv
      exact Cp1 rfl
    rintro κ s' ⟨⟨bb,rfl⟩,rfl⟩
    obtain ⟨k1,k2,k3⟩:=As2 (ps:=ps) (hvl ▸ Bm5 h2) h5
    have hkw:(Bz5 vs.length).kasWp (kas_ask prog w A.in1.in1 (tuples' bb) vs) (fun p s''=>p=kev (Ans ps) (Bz5 ps.length)/\s''={ s with heap:=H6 }) { s with heap:=H6 }:=by
      rw [hvl]
      refine Aug (n:=ps.length) (lt:=Ans ps) (fun i j C hi hj hc=>Aqs h (fun b o q=>keep6 b o (gs b o q)) hi hj ?_) _ k1 ⟨rfl,rfl⟩
      rw [<- Aw2 hi hj]; exact hc
    refine Be9 (Bf3 (kat_run (Q:=fun st' s'=>arrOf st'=(kev (Ans ps) (Bz5 ps.length)).map (kas_item (vs.toArray.zip vs.toArray))/\failedOf st'=none/\s'={ s with heap:=H6 })
      (rfl:vs.length=vs.length) (Bm5 h2) (by rw [hvl]; exact Bg7 h5 (by decide)) (fun p st' s' a1 a2 a3 a4=>⟨by rw [a2,a4.1],a3,a4.2⟩) hkw) ?_ fun _ _ e=>e)
    rintro ⟨⟨⟩,st'⟩ s' ⟨har,hf,rfl⟩
    dsimp only
    have Bax:=kat_snds rfl har
    obtain ⟨s1,s2⟩:=sub _ k2
    obtain ⟨c2,hc2⟩:∃ c2,(H6.update a (Bt4 fun _=>Bu9 ((kev (Ans ps) (Bz5 ps.length)).toList.map fun i=>vs.getD i Value.none))).get? a=some (Bx4 "list" (Bu9 ((kev (Ans ps) (Bz5 ps.length)).toList.map fun i=>vs.getD i Value.none)) c2):=⟨_,Cq1 ho6 fun _=>Bu9 ((kev (Ans ps) (Bz5 ps.length)).toList.map fun i=>vs.getD i Value.none)⟩
    refine Be9 (seqEpoch_at ho6 rfl ?_)
    rw [Bax]
    refine Be9 (listUpdate_at ho6 rfl ?_ (Bh2 _) (by rw [Bp2,Bn6]; have hh:=s1.length; have h3:=(s2).length_eq; (try simp only [Bf0] at hh h3 ⊢); rw [h3]; exact Be8 h5 (by decide)))
    rw [hf]
    simp only [bne_self_eq_false,Bp7,if_false]
    refine Bf6 ⟨_,rfl,Bf6 ⟨_,rfl,hq _ a c2 ((kev (Ans ps) (Bz5 ps.length)).toList.map fun i=>vs.getD i Value.none) ((kev (Ans ps) (Bz5 ps.length)).toList.map fun i=>ps.getD i (0,0)) (fun b o q=>?_) hD hDl hc2 s1 s2 k3⟩⟩
    rw [Cb5 _ _ _ _ (by rintro rfl; rw [hD] at q; cases q)]
    exact keep6 b o q
end
section
variable {P:Pm} {n:Nat} {σ:Sto}
theorem Aq0 {c ps Q} (hc:Dv σ c (.lst (ps.map prV))) (hl:ps.length<=5)
  (h:∀ ps':List (Int × Int),ps'.Perm ps->ps'.Pairwise (fun a b=>a.1<=b.1)->Q (.lst (ps'.map prV)) σ):Bt P n (.builtin "sorted") [c] σ Q:=
 fun A st B g env m s vals hr hv hm=>by
  replace hv:=hv.inv; obtain ⟨_,_,rfl,hv,t⟩:=hv
  ·
   cases t
   obtain ⟨l,items,rfl,hli,hi⟩:=hc.items hr.toRepC hv
   refine Ao4 (g:=g) (vs:=items.toList) (by rw [Array.toArray_toList]; exact hli) hi hr.fz hl fun h' D n out ps' hk hD hDl hDo hvo hp hpw=>?_
   have R':=hr.stays hk s.toks
   obtain ⟨ml,⟨oL,es,ep,hL,_⟩,_⟩:=hr.fr.ns
   have hnf:¬ Ahg (Bx4 "list" (Bu9 out) n):=fun f=>by have q:Value.type "list"=Value.type "frame":=f.1; exact absurd q (by decide)
   have R2:=R'.grow hDo (Aa0 hr.keeps hD) (hr.toRepC.Aat hD) hnf (by rintro rfl; rw [hL] at hD; cases hD) fun x c hx hc=>by
    obtain ⟨c',cv,h1,h2,_⟩:=hr.fr.cel x hx
    rw [hc] at h1; cases h1
    rintro rfl
    obtain ⟨o,ho,_⟩:=h2
    rw [hD] at ho; cases ho
   have hst:=Aa4 (g:=g) (a:=D) (A3 hr.fz hk)
   exact ⟨_,σ,m,_,hst,R2,.lst (Abq.trans hDo) rfl rfl (hvo.mono hst),rfl,h ps' hp hpw⟩
end
noncomputable def PM (w:World):Pm:=⟨Bn0.row.prog,w,Kf w.params,44⟩
section
variable {w:World} {B:Bs} {g:Heap} {A:Around} {st:List Env} {σ:Sto} {s:Shared}
theorem Arp {prog w A E s K name v T pl Q} (X:K.In s.heap) (ht:typeOf (.type T)=pure (.type "type")) (hs:Manifest.isStub T=false)
  (e:findCls K (.type T) (.type "type") name=some (.val v)) (hh:handedIn v=true) (h:Q (v,[]) { s with toks:=s.toks + 1 }):wpAny (model prog w) A (getMethod (.type T) name pl) Q E s:=by
 have Bbr:opaqueClassAbove (.type T)=pure none:=by unfold opaqueClassAbove; dsimp only; rw [hs]; rfl
 have L0:Looks (model prog w) s.heap (typeOf (.type T)) (.type "type"):=Cp1 ht
 have hg:findIn K (.type "type") "__getattribute__"=some (some (.builtin "type.__getattribute__")):=type_tga
 unfold getMethod specialOf
 refine Be9 (Be9 (L0.here ((Cd9 X hg).here ?_)))
 dsimp only
 rw [if_pos canon_tga]
 refine Be9 (Bf3 (Q:=fun v=>Q (v,[])) (E:=E) ?_ (fun _ _ z=>Bf6 z) fun _ _ z=>z)
 refine cls_open X (Cp1 Bbr) L0 hg (looks_hook X (r:=none) (by rfl)) (by show subIn K _ _=_; rfl) e
  (Bf6 (by show wpAny _ _ (handedOut v) _ _ _; rw [handedOut_of hh]; exact Bf6 h))
noncomputable def MadeX (B:Bs) (g:Heap) (h:Heap) (ea:Addr) (why:Str):Prop:=
 ∃ t0 dx od t,h.get? ea=some { cls:=.ref 44,dict:=some dx,data:=.fields #[.ref t0,.none,.none,.none,.bool false,.none] }/\g.get? dx=some od/\lookIn "why" od=some (some (.str why t))/\g.get? ea=none/\B.k.get? ea=none
set_option tactic.hygienic true in
set_option maxHeartbeats 4000000 in
theorem Als {why t E n} (R:RepC (PM w) B g A st σ s) (hm:Bg A (n + 2)) :
   wpAny (model (PM w).prog (PM w).w) A (call (.ref 44) [.str why t] []) (fun v s'=>∃ g' ea,g.StaysIn g'/\RepC (PM w) B g' A st σ s'/\v=.ref ea/\MadeX B g' s'.heap ea why) E s:=by
 obtain ⟨h,gs,dr,tk,os⟩:=s
 have X:(PM w).K.In h:=R.pc.kin.keeps R.fz
 have hC:=X 44 _ rfl
 refine Ba2 (K:=(PM w).K) (C:=44) (fI:=28) X (by kernel_rfl) (by kernel_rfl) (by decide +kernel) (by decide +kernel) (by decide +kernel) hC (fun h1 e Aqb=>?_) (by show 1<=_; rw [Bn6]; decide)
 obtain ⟨t0,he1,ht1,ht2⟩:=Aqb.there
 have k1:h.StaysIn h1:=Aqb.keeps
 have R1:RepC (PM w) B g A st σ ⟨h1,gs,dr,tk,os⟩:=R.stays k1 tk
 have eg:g.get? e=none:=Aa2 R.fz Aqb.new
 have ek:B.k.get? e=none:=Aa0 R.keeps Aqb.new
 have es:σ e=none:=R.Aat Aqb.new
 obtain ⟨B',hB1,RB,hB2,hB3,hB4⟩:=R1.step (fun b=>b=e) (fun b hb=>by subst hb; exact ek)
 have X1:(PM w).K.In h1:=X.keeps k1
 have ho:=X1 28 _ rfl
 refine Ci9 (codeAny_call_function (by show A.depth + 1 < _; exact Bg7 (Bg9 ..) (rd (n:=n + 1) hm.1)) ho rfl rfl rfl rfl (codeRec_of X1 (by rfl)) ?_)
 refine Cg8 (show bindArgs _ _=pure [(Bf5 "self",Value.ref e),(Bf5 "why",Value.str why t)] from rfl) ?_
 have RB2:RepC (PM w) B' g ((A.under (.builtin "type.__call__" ⟨.ref 44 :: [Value.str why t],[]⟩)).in1) st σ ⟨h1,gs,dr,tk,os⟩:=(RB.Atr RB.stack)
 refine Am9 RB2 (ds:=[(Bf5 "self",V.loc e),(Bf5 "why",V.str why)]) rfl (fun n=>by rw [Aba]; decide) (fun n x hx=>?_) (fun x hx=>?_) rfl (.cons (.loc e) (.one (.str why t))) (fun x hx=>?_) (fun env s' he hfn hcd Bbw hst R2=>⟨Bbw,codeAny_func ?_⟩)
 · have:=lookup_mem hx; revert this; simp
 · have:=lookup_mem hx; revert this; simp
 · simp only [Bi0,Bj2,or_false] at hx; rcases hx with rfl | rfl <;> exact .inl rfl
 obtain ⟨outer,hou,hfr⟩:=he.top rfl
 have R3:Rep (PM w) B' g ((A.under (.builtin "type.__call__" ⟨.ref 44 :: [Value.str why t],[]⟩)).deeper env) (env :: st) env σ (putAll [(Bf5 "self",V.loc e),(Bf5 "why",V.str why)] fun _=>none) s':=
   ⟨(R2.Atr (Cg7 R.stack)),R2.fr,R2.own⟩
 clear R2
 obtain ⟨h2,gs2,dr2,tk2,os2⟩:=s'
 have he2:h2.get? e=some _:=hst _ _ he1
 have X2:(PM w).K.In h2:=X1.keeps hst
 have hC2:=X2 44 _ rfl
 refine Cb6 (wpAny_Expr (methodCall_KW (pl:=do return (<- importBound _ env).getD true) (ldB he R3 rfl (by rfl) (by rfl) (by decide) (by decide) ?_)) (by unfold interactive; rw [he.sc]; rfl) rfl)
 refine Arp X2 (by rfl) (by kernel_rfl) (v:=.builtin "Exception.__init__") (by kernel_rfl) (by kernel_rfl) ?_
 refine Cf2 rfl (Ado (.inr ⟨_,_,rfl⟩) ?_)
 have R3':=R3.tok (tk2 + 1)
 refine Co7 (Cc2 (ldN (v:=.loc e) he R3' (.inl rfl) rfl (by decide) fun c hc=>?_) (by decide)) rfl
 obtain ⟨_,rfl⟩:=hc.inv
 refine Co7 (Cc2 (ldN (v:=.str why) he R3' (.inl rfl) rfl (by decide) fun c hc=>?_) (by decide)) rfl
 obtain ⟨_,rfl⟩:=hc.inv; rename_i t1
 refine wpAny_items_nil ?_
 refine Bag (C:=44) (by decide +kernel) hC2 he2 (by show 1<=_; rw [Bn6]; decide) ?_
 have he3:=Bk4 (Br5 (·.setIfInBounds 0 (.ref h2.objs.size))) (Bi5 { cls:=.type "tuple",data:=.seq [Value.str why t1].toArray } he2) rfl
 have n3:Ahi (·=e) g h2 ((h2.push { cls:=.type "tuple",data:=.seq [Value.str why t1].toArray }).update e (Br5 (·.setIfInBounds 0 (.ref h2.objs.size)))):=fun b o q hb=>.inl ((Bj5 _ _ (Bq3 hb)).trans (Bi5 _ q))
 have hz:∀ b,b=e->g.get? b=none/\B'.k.get? b=none:=fun b hb=>by subst hb; exact ⟨eg,by
   cases q:B'.k.get? b with
   | none=>rfl
   | some o=>exact absurd rfl ((hB2 b o).mp q).2.1⟩
 have R4:=R3'.B5 (fun b hb=>by subst hb; exact ⟨(hz _ rfl).1,(hz _ rfl).2,_,he2,_,rfl⟩) n3 (tk2 + 1)
 revert he3 R4; with_reducible refine gz ((h2.push { cls:=.type "tuple",data:=.seq [Value.str why t1].toArray }).update e (Br5 (·.setIfInBounds 0 (.ref h2.objs.size)))) fun h3 he3 R4=>?_
 have he3':h3.get? e=some { cls:=.ref 44,data:=.fields #[.ref h2.objs.size,.none,.none,.none,.bool false,.none] }:=he3
 clear he3 n3 R3 R3' he2 X2 hC2
 have X3:(PM w).K.In h3:=R4.pc.kin.keeps R4.fz
 -- self.why=why
 refine Cb6 (Ca3 (Cc2 (ldN (v:=.str why) he R4 (.inl rfl) rfl (by decide) fun c hc=>?_) (by decide)) rfl)
 obtain ⟨_,rfl⟩:=hc.inv; rename_i t2
 refine Cc2 (ldN (v:=.loc e) he R4 (.inl rfl) rfl (by decide) fun c hc=>?_) (by decide)
 obtain ⟨_,rfl⟩:=hc.inv
 have I3:InstAt h3 e _ 44 none:=⟨he3',rfl,rfl,trivial⟩
 refine set_plain X3 I3 (by kernel_rfl) (Aki (od:=none) (r:=none) (cd:=_) X3 I3 (by rfl) ?_ (by kernel_rfl) (by kernel_rfl) fun b=>?_)
 · show refuseLoop (.ref e) "__setattr__" [.ref 44,.ref 31,.type "Exception",.type "BaseException",.type "object"]=pure ()
   rw [Ck3,Ck3]; exact PySem.F.store_Exception.passes _
 refine Aop (C:=44) (cd:=_) X3 he3' rfl rfl ⟨_,rfl⟩ (by rfl) (by rfl) fun hash=>?_
 have ed:e≠h3.objs.size:=Bl9 (Bl3 he3')
 have he4:=(Bj5 ((h3.push emptyDict).update e fun o=>{ o with dict:=some h3.objs.size }) (Bp9 "why" hash (.str "why" (tk2 + 1 + 1)) (.str why t2)) (Bq3 ed)).trans (Bk4 (fun o=>{ o with dict:=some h3.objs.size }) (Bi5 emptyDict he3') rfl)
 have hd0:((h3.push emptyDict).update e fun o=>{ o with dict:=some h3.objs.size }).get? h3.objs.size=some emptyDict:=(Bj5 _ _ ed).trans (Bi4 _ rfl)
 have hp0:=Aaq (name:="why") (hash:=hash) (key:=.str "why" (tk2 + 1 + 1)) (v:=.str why t2) (od:=emptyDict) rfl (by simp)
 have hd4:=Bk4 (Bp9 "why" hash (.str "why" (tk2 + 1 + 1)) (.str why t2)) hd0 (by rw [hp0]; rfl)
 rw [hp0] at hd4
 have n4:Ahi (·=e) g h3 (((h3.push emptyDict).update e fun o=>{ o with dict:=some h3.objs.size }).update h3.objs.size (Bp9 "why" hash (.str "why" (tk2 + 1 + 1)) (.str why t2))):=fun b o q hb=>
   .inl ((Bj5 _ _ (Bq3 (Bl9 (Bl3 q)))).trans ((Bj5 _ _ (Bq3 hb)).trans (Bi5 _ q)))
 have dg:g.get? h3.objs.size=none:=Aa2 R4.fz (Ak _)
 have dk':B'.k.get? h3.objs.size=none:=Aa0 R4.keeps (Ak _)
 have dk:B.k.get? h3.objs.size=none:=hB3 _ dk'
 have ds:σ h3.objs.size=none:=R4.Aat (Ak _)
 have dst:=R4.stk.Bb6 (Ak h3)
 have dl:h3.objs.size≠env.locals:=by
   obtain ⟨ml,⟨oL,es,ep,hL,_⟩,_⟩:=R4.fr.ns
   exact Bq2 (Bl3 hL)
 have dc:∀ x c,(env.kindOf x=some .cell∨env.kindOf x=some .free)->env.cells.lookup x=some c->c≠h3.objs.size:=fun x c hx hc=>by
   obtain ⟨c',cv,w1,w2,_⟩:=R4.fr.cel x hx
   rw [hc] at w1; cases w1
   exact Bl9 w2.lt
 have R5:=R4.B5 (fun b hb=>by subst hb; exact ⟨(hz _ rfl).1,(hz _ rfl).2,_,he3',_,rfl⟩) n4 (tk2 + 1 + 1 + 1)
 generalize hdx:h3.objs.size=dx at *
 revert he4 hd4 R5; with_reducible refine gz (((h3.push emptyDict).update e fun o=>{ o with dict:=some dx }).update dx (Bp9 "why" hash (.str "why" (tk2 + 1 + 1)) (.str why t2))) fun h4 he4 hd4 R5=>?_
 clear n4 hd0 R4 X3 I3
 have X4:(PM w).K.In h4:=R5.pc.kin.keeps R5.fz
 -- self.at=-1
 refine Cb6 (Ca3 (wpAny_UnaryOp (Cm2 (neg_int ?_))) rfl)
 have R5':=R5.tok (tk2 + 1 + 1 + 1 + 1 + 1)
 refine Cc2 (ldN (v:=.loc e) he R5' (.inl rfl) rfl (by decide) fun c hc=>?_) (by decide)
 obtain ⟨_,rfl⟩:=hc.inv
 have I4:InstAt h4 e _ 44 (some _):=⟨he4,rfl,rfl,hd4⟩
 refine set_plain X4 I4 (by kernel_rfl) (Aki (od:=some _) (r:=none) (cd:=_) X4 I4 (by rfl) ?_ (by kernel_rfl) (by kernel_rfl) fun b=>?_)
 · show refuseLoop (.ref e) "__setattr__" [.ref 44,.ref 31,.type "Exception",.type "BaseException",.type "object"]=pure ()
   rw [Ck3,Ck3]; exact PySem.F.store_Exception.passes _
 have hi5:(#[(⟨hash,.str "why" (tk2 + 1 + 1),.str why t2⟩:DictEntry)]).findIdx? (·.key.isStr "at")=none:=by
   rw [Array.findIdx?_eq_none_iff]
   intro y hy
   simp only [List.mem_toArray,Bf7] at hy
   subst hy
   show ((Bf5 "why") == (Bf5 "at"))=false
   decide
 refine Ai4 (C:=44) (cd:=_) X4 he4 rfl rfl (by rfl) (by rfl) hd4 rfl (by simp [Cc7]) hi5 (by show 1<=1000; decide) fun Ar7=>?_
 have hp5:=Aaq (name:="at") (hash:=Ar7) (key:=.str "at" (tk2 + 1 + 1 + 1 + 1 + 1 + 1)) (v:=.int (-1) (tk2 + 1 + 1 + 1 + 1)) (od:={ emptyDict with data:=.dict (#[].push (⟨hash,.str "why" (tk2 + 1 + 1),.str why t2⟩:DictEntry)) (0 + 1) }) rfl hi5
 have hd5:=Bk4 (Bp9 "at" Ar7 (.str "at" (tk2 + 1 + 1 + 1 + 1 + 1 + 1)) (.int (-1) (tk2 + 1 + 1 + 1 + 1))) hd4 (by rw [hp5]; rfl)
 rw [hp5] at hd5
 have he5:=(Bj5 h4 (Bp9 "at" Ar7 (.str "at" (tk2 + 1 + 1 + 1 + 1 + 1 + 1)) (.int (-1) (tk2 + 1 + 1 + 1 + 1))) (Bq3 ed)).trans he4
 have R6:=R5'.Ao7 dg dk' ds dst dl dc (h':=h4.update dx (Bp9 "at" Ar7 (.str "at" (tk2 + 1 + 1 + 1 + 1 + 1 + 1)) (.int (-1) (tk2 + 1 + 1 + 1 + 1)))) (fun b o hb q=>(Bj5 _ _ (Bq3 hb)).trans q) (tk2 + 1 + 1 + 1 + 1 + 1 + 1 + 1)
 refine Cp7 ?_
 have RC:=hB4 g _ [env] st σ _ R6.toRepC R.stack
 have hsn:=Aa4 (a:=dx) R6.fz
 refine ⟨rfl,_,e,hsn,RC.grow (a:=dx) hd5 dk ds (fun f=>by have q:Value.type "dict"=Value.type "frame":=f.1; exact absurd q (by decide)),rfl,h2.objs.size,dx,_,t2,he5,Abq.trans hd5,?_,Aa8 ed eg,ek⟩
 unfold lookIn
 simp only [List.push_toArray,Cb3,Bx2]
 rw [show (List.find? (fun x:DictEntry=>x.key.isStr "why") [⟨hash,.str "why" (tk2 + 1 + 1),.str why t2⟩,⟨Ar7,.str "at" (tk2 + 1 + 1 + 1 + 1 + 1 + 1),.int (-1) (tk2 + 1 + 1 + 1 + 1)⟩])=some ⟨hash,.str "why" (tk2 + 1 + 1),.str why t2⟩ from by
   rw [List.find?_cons_of_pos]
   show ((Bf5 "why") == (Bf5 "why"))=true
   decide]
end
section
variable {M:Model} {A:Around} {E:Value->Shared->Prop} {env:Env}
variable {nm q:Str} {C N:Addr} {bs bm:List Value} {Auu:Bool} {sn:List Str} {sub:List Value} {ab:Bool} {col:Option Bool} {dd:Option Addr} {k0 k1 k2 k3 k5:Option Value} {newId:String}
theorem Az4 {s x Q} (hcB:(Value.ref C :: bm).contains (.type "BaseException")=true) (hh:A.handled=none)
  (h:wpAny M A x (fun v s₁=>∃ e t dx,v=.ref e/\s₁.heap.get? C=some (Ck5 nm q C N bs bm Auu sn sub ab col dd k0 k1 k2 k3 k5 newId) ∧
   s₁.heap.get? e=some { cls:=.ref C,dict:=some dx,data:=.fields #[.ref t,.none,.none,.none,.bool false,.none] }/\E (.ref e) s₁) E s) :
  wpAny M A (raiseStmt env (some x) none) Q E s:=by
 unfold raiseStmt
 refine Be9 (Bf3 h (fun v s₁ h₁=>?_) fun _ _ x=>x)
 obtain ⟨e,t,dx,rfl,hC,he,hE⟩:=h₁
 obtain ⟨hp,g,d,tk,os⟩:=s₁
 repeat (first | with_reducible refine Bp4 he ?_ | with_reducible refine Bp4 hC ?_ | (refine Bu3 hC ?_; rw [hcB]) | wp_step)
 exact wpAny_raiseNew_none hh hE
end
set_option tactic.hygienic true in
theorem Ako (name:Str) (o:Obj):(Cl2 name o).cls=o.cls:=by
 rw [Obj.dropName_eq]
 obtain ⟨c,d,dt,sl⟩:=o
 cases dt <;> try rfl
 rename_i es n
 simp only [Obj.dropNameByArray]
 cases es.findIdx? (·.key.isStr name) <;> rfl
theorem Aj9 {name o es n} (hd:o.data=.dict es n):∃ es' n',(Cl2 name o).data=.dict es' n'/\((∃ i,es'=es.eraseIdxIfInBounds i)∨es'=es):=by
 rw [Obj.dropName_eq]
 obtain ⟨c,d,dt,sl⟩:=o
 simp only at hd; subst hd
 simp only [Obj.dropNameByArray]
 cases es.findIdx? (·.key.isStr name) with
 | none=>exact ⟨_,_,rfl,.inr rfl⟩
 | some i=>exact ⟨_,_,rfl,.inl ⟨i,rfl⟩⟩
theorem Ayl {M A E s a m name v Q} (hn:s.heap.Ns a m) (hv:m name=some v)
   (hQ:∀ h' m' o',h'.Ns a m'->Bq8 a s.heap h'->h'.get? a=some o'->(∀ o,s.heap.get? a=some o->o'.cls=o.cls)->(∃ es n,o'.data=.dict es n)->Q true { s with heap:=h' }):wpAny M A (nsDel a name) Q E s:=by
 obtain ⟨o,es,ep,ho,hd,hk,hm⟩:=id hn
 have Aze:es.any (·.refKey)=false:=by
   rw [Array.any_eq_false']; intro e he; obtain ⟨n,t,h⟩:=hk e he; simp [Cc7,h]
 have Apy:es.any (·.key.isStr name)=true:=by
   have:=hm name
   rw [hv] at this
   simp only [nsFind,findBy] at this
   obtain ⟨e,h1,_⟩:=Bn7.mp this
   obtain ⟨i,hi,rfl⟩:=Array.mem_iff_getElem.mp (Array.mem_of_find?_eq_some h1)
   exact Array.any_eq_true.mpr ⟨i,hi,Array.find?_some (p:=fun e:DictEntry=>e.key.isStr name) h1⟩
 have Bdc:nsHas name o=pure true:=by
   rw [nsHas_eq]; unfold nsHasByArray; rw [hd]
   show (if (es.any fun x=>x.key.isStr name)=true then _ else _)=_
   rw [if_pos Apy]
 unfold nsDel
 refine Be9 (Ca7 ho ?_)
 rw [Bdc]
 refine Be9 (Bf6 ?_)
 refine Be9 (Ch2 ho (Bf6 ?_))
 obtain ⟨es',n',e1,e2⟩:=Aj9 (name:=name) hd
 have e3:=Bk4 (Cl2 name) ho (by
   generalize Cl2 name o=q at e1
   obtain ⟨_,_,dt,_⟩:=q; cases e1; rfl)
 refine hQ _ _ _ ⟨_,es',n',e3,e1,?_,fun _=>rfl⟩ (Bv4 ..) e3 (fun o' q=>by rw [ho] at q; cases q; exact Ako _ _) ⟨_,_,e1⟩
 rcases e2 with ⟨i,rfl⟩ | rfl
 · exact hk.erase i
 · exact hk
section
variable {w:World} {n:Nat} {fx:Fx} {σ:Sto} {m:A8} {X:Xt}
theorem Ash {np cpos pos e Q} (hk:fx.sc.names.lookup (Bf5 "Misused")=some .globalImplicit)
  (h:Ev (PM w) (n + 2) fx e σ m (fun v σ'=>∃ why,v=.str why/\X why σ' m) X)
  (ha:∀ env,Bk6 [e] env=[(false,eval e env)]:=by intro _; rfl):Ex (PM w) (n + 2) fx (.Raise (some (.Call (.Name "Misused" np) [e] [] cpos)) none pos) σ m Q X:=
 fun A st B g env s he hr hm=>by
  show wpAny _ _ (exec _ env) _ _ _
  rw [arm_exec_Raise]
  have hC:∀ {g':Heap},PC (PM w) g'->g'.get? 44=some _:=fun x=>x.kin 44 _ rfl
  have e1:∀ x,evalOpt (some x) env=some (eval x env):=fun _=>rfl
  have e2:evalOpt none env=none:=rfl
  simp only [e1,e2,Option.map]
  refine Be9 (Bo3 (Az4 (C:=44) (nm:="Misused") (q:="Misused") (N:=43) (bs:=[.ref 31]) (bm:=[.ref 31,.type "Exception",.type "BaseException",.type "object"]) (Auu:=true) (sn:=[]) (sub:=[]) (ab:=false) (col:=none) (dd:=none) (k0:=some (.ref 35)) (k1:=none) (k2:=some (.str "Misused" 219)) (k3:=some (.str "Misused" 227)) (k5:=some (.bool true)) (newId:="Exception.__new__") (by decide +kernel) hm.2.2 (Q:=_) ?_))
  refine Be9 (Bf3 (Q:=fun v s₁=>∃ e t dx,v=Value.ref e/\s₁.heap.get? 44=some _/\s₁.heap.get? e=some { cls:=.ref 44,dict:=some dx,data:=.fields #[.ref t,.none,.none,.none,.bool false,.none] }/\XP (PM w) B A st env g X (.ref e) s₁) ?_ (fun v s₃ h₃=>Be9 (Bo3 (Bf6 h₃))) fun _ _ x=>x)
  refine Bx0 (ldG he hr hk (by rfl) (by decide) (callWith_K (hr.pc.kin.keeps hr.fz) (by kernel_rfl) ?_ (ha env) (by rfl)))
  have hx:=h A st B g env s he hr hm
  have:=(Aea (pos:=cpos) (es:=[]) (Q:=fun vs σ'=>∃ why,vs=[.str why]/\X why σ' m) (Ag h fun v σ' qA=>by obtain ⟨why,e1,e2⟩:=qA; exact Am3 ⟨why,by rw [e1],e2⟩) ha) A st B g env s he hr hm
  refine Bf3 this (fun vs s' qM=>?_) fun _ _ q=>q
  obtain ⟨g',σ',m',ds,hg,hr',hv,hm',hlen,why,e1,e2⟩:=qM
  subst hm'; subst e1
  replace hv:=hv.inv; obtain ⟨_,_,rfl,hv,t⟩:=hv
  ·
   cases t; obtain ⟨_,rfl⟩:=hv.inv
   refine ⟨hr'.pc.kin.keeps hr'.fz,?_⟩
   obtain ⟨B',RB,hB3,hB4⟩:=hr'.call
   refine Bf3 (Als (n:=n) (E:=XP (PM w) B A st env g X) RB hm) (fun v s3 qM=>?_) fun _ _ q=>q
   obtain ⟨g3,ea,hg3,R3,ev,t0,dx,od,t1,w1,w2,w3,w4,w5⟩:=qM
   subst ev
   refine ⟨ea,t0,dx,rfl,R3.fz _ _ (hC R3.pc),w1,g3,σ',m',why,ea,A3 hg hg3,hB4 _ _ _ R3,rfl,⟨_,_,_,dx,od,t1,w1,rfl,rfl,rfl,rfl,w2,w3,rfl,w4,hB3 _ w5,.no⟩,e2⟩
theorem Ary {tp np rp cp ap p1 hp pos nm y body Q} (hc:fx.comp=false) (hk:fx.sc.names.lookup (Bf5 "Misused")=some .globalImplicit) (hn:fx.sc.names.lookup nm=some .local) (hy:fx.sc.names.lookup y=some .local) (hny:y≠nm)
  (d1:(nm == ("__classdict__" : Str))=false) (d2:(nm == ("__debug__" : Str))=false) (d3:(y == ("__classdict__" : Str))=false) (d4:(y == ("__debug__" : Str))=false)
  (h:Exs (PM w) n fx body σ m (fun _ _ _=>False) (fun why σ' m'=>∃ x,m' y=some (.str x)/\Q (.ret (.bool (decide (why=x)))) σ' (fun _=>none))) :
  Ex (PM w) n fx (.Try body [.ExceptHandler (some (.Name "Misused" tp)) (some nm) [.Return (some (.Compare (.Attribute (.Name nm np) "why" ap) [.Eq] [.Name y p1] cp)) rp] hp] [] [] pos) σ m Q X:=
 fun A st B g env s he hr hm=>by
  obtain ⟨outer,hst,hfr⟩:=he.top hc
  have hkf:env.scope.kind=.function:=by rw [he.sc]; exact he.kind
  refine wpAny_Try_except (Bf3 (h A st B g env s he hr hm) (fun f s' qD=>by obtain ⟨g',σ',m',b,hg,hr',hf,hq⟩:=qD; exact hq.elim) fun e s₁ qM=>?_)
  obtain ⟨g1,σ1,m1,why,ea,hg1,hr1,hev,hx1,x,hmx,hq1⟩:=qM
  subst hev
  refine Ad9 hst hfr hr1.toRepC hx1 fun h2 Z T k1 k3 k4=>?_
  have hr2:=hr1.B5 k3 k4 s₁.toks
  refine Ac5 (s:={ s₁ with heap:=h2 }) k1 fun h3 Z3 l1 l3 l4=>?_
  have hr3:=hr2.B5 l3 l4 s₁.toks
  clear k1 k3 k4 hr2
  refine wpAny_handleBy_cons (codeAny_handlers_test ?_) (by intro q; cases q)
  have R4:Rep (PM w) B g1 (A.mark (some (.ref ea))) st env σ1 m1 { s₁ with heap:=h3 }:=⟨(hr3.Atr (hr.stack)),hr3.fr,hr3.own⟩
  refine ldG he R4 hk (by rfl) (by decide) ?_
  have hC:h3.get? 44=some _:=hr3.fz _ _ (hr3.pc.kin 44 _ rfl)
  obtain ⟨oe,vs,dx,od,t,x1,x2,x3,x4,x5,x6,x7,x8,x9,x10,x11⟩:=id l1
  obtain ⟨hh,gs,dr,tk,os⟩:=s₁
  refine wpAny_excMatches_sub_self hC x1 x2 (by decide +kernel) ?_
  have he1:(if true then Flow.brk else Flow.next)=Flow.brk:=rfl
  rw [he1]
  have R5:Rep (PM w) B g1 (A.mark (some (.ref ea))) st env σ1 m1 ⟨h3,gs,dr,tk,os⟩:=R4
  refine codeAny_handlers_suite_as ?_
  refine Ac5 (s:=⟨h3,gs,dr,tk,os⟩) l1 fun h4 Z4 q1 q3 q4=>?_
  have R6:=R5.B5 q3 q4 tk
  obtain ⟨oe,vs,dx,od,t,x1,x2,x3,x4,x5,x6,x7,x8,x9,x10,x11⟩:=id q1
  refine Aui he R6 (.inl hn) (.loc ea) fun h5 tk5 R7 j1 j2=>?_
  have e5:h5.get? ea=some oe:=j1 ea oe (by
      rintro rfl
      obtain ⟨ml,⟨oL,es,ep,hL,hd,_⟩,_⟩:=R6.fr.ns
      rw [x1] at hL; cases hL; rw [x3] at hd; cases hd) (fun z c hz hzc=>by
      rintro rfl
      obtain ⟨c',cv,w1,⟨o',w2,w3⟩,_⟩:=R6.fr.cel z hz
      rw [hzc] at w1; cases w1; rw [x1] at w2; cases w2; rw [x3] at w3; cases w3) x1
  have X5:(PM w).K.In h5:=R7.pc.kin.keeps R7.fz
  have I5:InstAt h5 ea oe 44 (some od):=⟨e5,x2,by unfold notCls; rw [x3],by rw [x5]; exact R7.fz _ _ x6⟩
  refine Cb6 (wpAny_Return_some (wpAny_Compare1 (Attribute_Name_ (Cc2 (ldN (v:=.loc ea) he R7 (.inl hn) (by simp [A8.put]) d1 fun c hcv=>?_) d2))))
  · obtain ⟨_,rfl⟩:=hcv.inv
    have hmy:(m1.put nm (.loc ea)) y=some (.str x):=by simp [A8.put,hny,hmx]
    refine Bcs (C:=44) (v:=.str why t) X5 I5 (by kernel_rfl) (by kernel_rfl) (by kernel_rfl) (findObj_own (attr:=none) (by kernel_rfl) (by kernel_rfl) rfl x7) rfl ?_
    have R8:=R7.tok (tk5 + 1)
    refine Cc2 (ldN (v:=.str x) he R8 (.inl hy) hmy d3 fun c hcv=>?_) d4
    obtain ⟨_,rfl⟩:=hcv.inv
    refine eq_str ?_
    -- the name goes
    refine Be9 (wpAny_bindName ?_)
    have R9:Rep (PM w) B g1 A st env σ1 (m1.put nm (.loc ea)) ⟨h5,gs,dr,tk5 + 1,os⟩:=⟨(R8.Atr (hr.stack)),R8.fr,R8.own⟩
    refine Aui (s:=⟨h5,gs,dr,tk5 + 1,os⟩) he R9 (.inl hn) .none fun h6 tk6 R10 _ _=>?_
    unfold unbindBehindTheSuite
    refine wpAny_onRaise ?_
    unfold unbindName
    refine Be9 (wpAny_point (Be9 ?_))
    unfold deleteName
    have hkl:env.kindOf nm=some .local:=by unfold By0; rw [he.sc]; exact hn
    have hp:(env.scope.kind == .class || (env.scope.kind == .module && env.locals != env.globals))=false:=by rw [hkf]; rfl
    simp only [hkl,hp]
    rw [if_neg (by decide)]
    obtain ⟨ml,hns,hml⟩:=R10.fr.ns
    obtain ⟨c0,hc0,_⟩:=hml nm .none (by simp [A8.put]) hkl
    refine Be9 (Ayl hns hc0 fun h7 m7 o7 n7 s7 g7 cl7 d7=>?_)
    simp only [if_true,Option.isSome_some,Bool.not_true,Bp7,if_false]
    refine Bf6 (wpAny_point ?_)
    have RF:RepC (PM w) B g1 A st σ1 ⟨h7,gs,dr,tk6,os⟩:=by
      have R:=R10.toRepC
      refine ⟨R.pc,R.stack,R.stk.keeps (fun b o e f=>?_) (fun _ _ _ _ e=>e),fun b o e=>?_,fun b o e=>(s7.2 b (by rintro rfl; rw [R10.own.loc.1] at e; cases e)).trans (R.fz b o e),R.ext,R.new,fun b z e=>?_,R.gens,R.drawn,R.os⟩
      · by_cases hb:b=env.locals
        · subst hb; exact ⟨o7,g7,(cl7 o e).trans f.1,d7⟩
        · exact ⟨o,(s7.2 b hb).trans e,f⟩
      · have hb:b≠env.locals:=by rintro rfl; rw [R10.own.loc.2.1] at e; cases e
        rcases R.keeps b o e with q | ⟨f,sl,q⟩
        · exact .inl ((s7.2 b hb).trans q)
        · exact .inr ⟨f,sl,(s7.2 b hb).trans q⟩
      · obtain ⟨w1,w2,o,w3,w4⟩:=R.sto b z e
        exact ⟨w1,w2,o,(s7.2 b (by rintro rfl; rw [R10.own.loc.2.2] at e; cases e)).trans w3,w4⟩
    refine ⟨g1,σ1,fun _=>none,_,hg1,⟨RF,⟨⟨m7,n7,fun z v e=>by cases e⟩,fun z hz=>?_,R10.fr.apart⟩,R10.own⟩,.ret (.bool _),?_⟩
    · obtain ⟨d,cv,w1,w2,_⟩:=R10.fr.cel z hz
      exact ⟨d,cv,w1,w2.sameBut s7 (Abg R10.fr hz w1),fun v e=>by cases e⟩
    · rw [show (why == x)=decide (why=x) from by by_cases e:why=x <;> simp [e]]; exact hq1
end
noncomputable def Al5 (m0 m:A8):Prop:=∀ x v,m0 x=some v->m x=some v
section
variable {P:Pm} {n:Nat} {fx:Fx} {σ:Sto} {m:A8} {X:Xt}
theorem Ara {en t body ds σ0 m0 Q} (hs:Sub σ0 σ) (hv:Al5 m0 m) (h:Lp P n fx en t body ds σ0 m0 Q X):Lp P n fx en t body ds σ m Q X:=
 fun A st B g env s it he hr hm hi=>h A st B g env s it he ((hr.forget hs).drop hv) hm hi
theorem Aqj {t body σ0 m0 Q} (hs:Sub σ0 σ) (hv:Al5 m0 m) (h:Wl P n fx t body σ0 m0 Q X):Wl P n fx t body σ m Q X:=
 fun A st B g env s he hr hm=>h A st B g env s he ((hr.forget hs).drop hv) hm
theorem Aur {en src e d acc ds σ0 Q} (hs:Sub σ0 σ) (h:ClS P n fx en src e d acc ds σ0 m Q):ClS P n fx en src e d acc ds σ m Q:=
 fun A st B g env s it he hr hm hi=>h A st B g env s it he (hr.forget hs) hm hi
theorem Axw {en target body Q} {α:Type} (τ:α->Sto) (μ:α->A8) (I:List V->α->Prop) (hc:fx.comp=false) (hgo:(∃ elts k pos,target=.Tuple elts k pos)∨((∀ it v,Bl5 target it v=pure ())/\en=false))
  (Aj0:∀ a,I [] a->Q .next (τ a) (μ a))
  (Ax:∀ d r a,I (d :: r) a->Bd P n fx target d (τ a) (μ a) (fun σ' m'=>Exs P n fx body σ' m' (fun f σ'' m''=>match f with | .next | .cont=>∃ a',I r a'/\Sub (τ a') σ''/\Al5 (μ a') m'' | .brk=>Q .next σ'' m'' | .ret v=>Q (.ret v) σ'' m'') X) X) :
  ∀ (ds:List V) (a:α),I ds a->Lp P n fx en target body ds (τ a) (μ a) Q X:=by
 intro ds
 induction ds with
 | nil=>exact fun a h=>Au5 hc hgo (fun _=>Aj0 a h) (fun d r e=>nomatch e)
 | cons d r ih=>
  refine fun a h=>Au5 hc hgo (fun e=>nomatch e) (fun d' r' e=>?_)
  · cases e
    refine fun A st B g env s v he hr hm hv=>Bf3 (Ax d r a h A st B g env s v he hr hm hv) (fun _ s' qM=>?_) fun _ _ x=>x
    obtain ⟨g',σ',m',hg,hr',hq⟩:=qM
    refine ⟨g',σ',m',hg,hr',?_⟩
    refine JS.mono hq (fun f σ'' m'' hh=>?_) fun _ _ _ x=>x
    induction f using Flw.casesOn with
    | next=>obtain ⟨a',h1,h2,h3⟩:=hh; exact Ara h2 h3 (ih a' h1)
    | cont=>obtain ⟨a',h1,h2,h3⟩:=hh; exact Ara h2 h3 (ih a' h1)
    | brk=>exact hh
    | ret v=>exact hh
theorem Aya {en target body ds Q} {α:Type} (τ:α->Sto) (μ:α->A8) (I:List V->α->Prop) (a0:α) (hc:fx.comp=false) (hgo:(∃ elts k pos,target=.Tuple elts k pos)∨((∀ it v,Bl5 target it v=pure ())/\en=false))
 (h0:I ds a0) (hs:Sub (τ a0) σ) (hv:Al5 (μ a0) m) (Aj0:∀ a,I [] a->Q .next (τ a) (μ a))
 (Ax:∀ d r a,I (d :: r) a->Bd P n fx target d (τ a) (μ a) (fun σ' m'=>Exs P n fx body σ' m' (fun f σ'' m''=>match f with | .next | .cont=>∃ a',I r a'/\Sub (τ a') σ''/\Al5 (μ a') m'' | .brk=>Q .next σ'' m'' | .ret v=>Q (.ret v) σ'' m'') X) X) :
 Lp P n fx en target body ds σ m Q X:=Ara hs hv (Axw τ μ I hc hgo Aj0 Ax ds a0 h0)
theorem Ays {test body Q} {α:Type} (τ:α->Sto) (μ:α->A8) (I:Nat->α->Prop) (hc:fx.comp=false)
  (Ax:∀ k a,I k a->Tt P n fx test (τ a) (μ a) (fun b σ'=>if b then Exs P n fx body σ' (μ a) (fun f σ'' m''=>match f with | .next | .cont=>∃ a' k',k' < k/\I k' a'/\Sub (τ a') σ''/\Al5 (μ a') m'' | .brk=>Q .next σ'' m'' | .ret v=>Q (.ret v) σ'' m'') X else Q .next σ' (μ a)) X) (k:Nat) :
  ∀ (a:α),I k a->Wl P n fx test body (τ a) (μ a) Q X:=by
 induction k using Nat.strongRecOn with
 | ind k ih=>
  intro a h
  refine Ave hc (JS.mono (Ax k a h) (fun b σ' m' hh=>⟨hh.1,?_⟩) fun _ _ _ x=>x)
  have hh:=hh.2
  cases b with
  | true=>
   refine JS.mono hh (fun f σ'' m'' hq=>?_) fun _ _ _ x=>x
   induction f using Flw.casesOn with
   | next=>obtain ⟨a',k',h1,h2,h3,h4⟩:=hq; exact Aqj h3 h4 (ih k' h1 a' h2)
   | cont=>obtain ⟨a',k',h1,h2,h3,h4⟩:=hq; exact Aqj h3 h4 (ih k' h1 a' h2)
   | brk=>exact hq
   | ret v=>exact hq
  | false=>exact hh
theorem Ayw {test body Q} {α:Type} (τ:α->Sto) (μ:α->A8) (I:Nat->α->Prop) (k0:Nat) (a0:α) (hc:fx.comp=false) (h0:I k0 a0) (hs:Sub (τ a0) σ) (hv:Al5 (μ a0) m)
 (Ax:∀ k a,I k a->Tt P n fx test (τ a) (μ a) (fun b σ'=>if b then Exs P n fx body σ' (μ a) (fun f σ'' m''=>match f with | .next | .cont=>∃ a' k',k' < k/\I k' a'/\Sub (τ a') σ''/\Al5 (μ a') m'' | .brk=>Q .next σ'' m'' | .ret v=>Q (.ret v) σ'' m'') X else Q .next σ' (μ a)) X) :
 Wl P n fx test body σ m Q X:=Aqj hs hv (Ays τ μ I hc Ax k0 a0 h0)
theorem Aql {en src elt c scope pos acc Q} {α:Type} (τ:α->Sto) (I:List V->List V->α->Prop) (ha:c.is_async=0) (Auy:∀ a l all,src=some (l,all)->τ a l=some (.list all)/\l≠acc)
  (hgo:(∃ elts k pos,c.target=.Tuple elts k pos)∨((∀ it v,Bl5 c.target it v=pure ())/\en=false))
  (Aj0:∀ vs a,I [] vs a->Q ((τ a).put acc (.list vs)))
  (Ax:∀ x r vs a,I (x :: r) vs a->vs.length<=100000/\Bd P n fx c.target x ((τ a).put acc (.list vs)) m (fun σ1 m1=>(∀ y v,m y=some v->m1 y=some v)/\Ts P n fx c.ifs σ1 m1 (fun b σ2=>if b then
     Ev P n fx elt σ2 m1 (fun v σ3=>∃ a',I r (vs ++ [v]) a'/\Sub ((τ a').put acc (.list vs)) σ3) noX
     else ∃ a',I r vs a'/\Sub ((τ a').put acc (.list vs)) σ2)) noX) (ds:List V) :
  ∀ (vs:List V) (a:α),I ds vs a->ClS P n fx en src (.ListComp elt [c] scope pos) 0 acc ds ((τ a).put acc (.list vs)) m Q:=by
 have hs:∀ (a:α) (vs:List V) l all,src=some (l,all)->(τ a).put acc (.list vs) l=some (.list all):=fun a vs l all e=>by rw [Sto.A4 _ _ (Auy a l all e).2]; exact (Auy a l all e).1
 induction ds with
 | nil=>exact fun vs a h=>Aik (c:=c) rfl ha (fun _ e=>nomatch e) (hs a vs) hgo (fun _=>Aj0 vs a h) (fun d r e=>nomatch e)
 | cons x r ih=>
  refine fun vs a h=>Aik (c:=c) rfl ha (fun _ e=>nomatch e) (hs a vs) hgo (fun e=>nomatch e) (fun d' r' e=>?_)
  cases e
  refine fun A st B g env s v he hr hm hv=>Bf3 ((Ax x r vs a h).2 A st B g env s v he hr hm hv) (fun _ s' qM=>?_) fun _ _ x=>x
  obtain ⟨g',σ',m',hg,hr',hk,hq⟩:=qM
  refine ⟨g',σ',m',hg,hr',hk,?_⟩
  refine JS.mono hq (fun b σ'' m'' hh=>⟨hh.1,?_⟩) fun _ _ _ x=>x
  replace hh:=hh.2
  cases b with
  | false=>exact hh.elim fun a' h2=>Aur h2.2 (ih vs a' h2.1)
  | true=>
   refine Ag hh fun v σ3 hh=>hh.elim fun a' h2=>⟨vs,h2.2 _ _ (Sto.A0 ..),(Ax x r vs a h).1,?_⟩
   refine Aur (σ0:=(τ a').put acc (.list (vs ++ [v]))) (fun b o e=>?_) (ih (vs ++ [v]) a' h2.1)
   by_cases hb:b=acc
   · subst hb; rw [Sto.A0] at e ⊢; exact e
   · rw [Sto.A4 _ _ hb] at e ⊢
     exact h2.2 b o (by rw [Sto.A4 _ _ hb]; exact e)
theorem An5 {β:Type} {en src elt c scope pos acc Q} (l:List β) (f:β->V) (G:β->Option V) (ha:c.is_async=0) (Auy:∀ l all,src=some (l,all)->σ l=some (.list all)/\l≠acc)
   (hgo:(∃ elts k pos,c.target=.Tuple elts k pos)∨((∀ it v,Bl5 c.target it v=pure ())/\en=false)) (hl:l.length<=100000)
   (Aj0:Q (σ.put acc (.list (l.filterMap G))))
   (Ax:∀ x∈l,∀ vs,Bd P n fx c.target (f x) (σ.put acc (.list vs)) m (fun σ1 m1=>Al5 m m1/\Ts P n fx c.ifs σ1 m1 (fun b σ2=>if b then
     Ev P n fx elt σ2 m1 (fun v σ3=>G x=some v/\Sub (σ.put acc (.list vs)) σ3) noX
     else G x=none/\Sub (σ.put acc (.list vs)) σ2)) noX) :
   ClS P n fx en src (.ListComp elt [c] scope pos) 0 acc (l.map f) (σ.put acc (.list [])) m Q:=by
 refine Aql (α:=List β × List β) (τ:=fun _=>σ) (I:=fun r vs a=>l=a.1 ++ a.2/\r=a.2.map f/\vs=a.1.filterMap G) ha (fun _=>Auy) hgo (fun vs a h=>?_) (fun x r vs a h=>?_) (l.map f) [] ([],l) ⟨rfl,rfl,rfl⟩
 · obtain ⟨d,e⟩:=a
   obtain ⟨e1,e2,rfl⟩:=h
   cases e with
   | nil=>rw [show d=l from (Bh6 d ▸ e1).symm]; exact Aj0
   | cons _ _=>nomatch e2
 · obtain ⟨d,e⟩:=a
   obtain ⟨e1,e2,rfl⟩:=h
   cases e with
   | nil=>nomatch e2
   | cons y e=>
    cases e2
    have e1:l=d ++ y :: e:=e1
    refine ⟨Be8 (List.length_filterMap_le _ _) (Be8 (by rw [e1,Bf2]; exact Bg9 ..) hl),?_⟩
    have nx:∀ {w:List V},[y].filterMap G=w->l=(d ++ [y]) ++ e/\e.map f=e.map f/\d.filterMap G ++ w=(d ++ [y]).filterMap G:=fun h=>⟨by rw [e1,Bj1]; rfl,rfl,by rw [List.filterMap_append,h]⟩
    refine fun A st B g env s v he hr hm hv=>Bf3 (Ax y (by rw [e1]; exact Bi2 _ (.head _)) _ A st B g env s v he hr hm hv) (fun _ s' qM=>?_) fun _ _ x=>x
    obtain ⟨g',σ',m',hg,hr',hk,hq⟩:=qM
    refine ⟨g',σ',m',hg,hr',hk,?_⟩
    refine JS.mono hq (fun b σ'' m'' hh=>⟨hh.1,?_⟩) fun _ _ _ x=>x
    replace hh:=hh.2
    cases b with
    | false=>exact ⟨(d ++ [y],e),(by have:=nx (w:=[]) (by rw [Bq4,hh.1]; rfl); rwa [Bh6] at this),hh.2⟩
    | true=>exact Ag hh fun v σ3 h=>⟨(d ++ [y],e),nx (by rw [Bq4,h.1]; rfl),h.2⟩
theorem Sto.Abn {σ:Sto} {a:Addr} {o:O} (h:σ a=none):(σ.put a o).del a=σ:=funext fun b=>by
 by_cases hb:b=a
 · subst hb; simp [Sto.del,h]
 · simp [Sto.del,Sto.put,hb]
theorem Aj4 {β:Type} (l:List β) (g:β->V):l.filterMap (fun x=>some (g x))=l.map g:=congrFun List.filterMap_eq_map' l
theorem Aq3 {i j Q} (h1:-1000000<=i) (h2:i<=1000000) (h:Q (.int (i * j)) σ):Bo P n .Mult (.int i) (.int j) σ Q:=Au4 h (IntMulOk.of_left (intBits_le_64 (Bo0 (by decide) h1) (Cc6 h2 (by decide))))
theorem Afy {x pos} (v:V) {Q} (hk:fx.sc.names.lookup x=some .local∨fx.sc.names.lookup x=some .cell∨fx.sc.names.lookup x=some .free) (hd:(x == ("__classdict__" : Str))=false) (hd':(x == ("__debug__" : Str))=false) (hv:m x=some v) (h:Q v σ):Ev P n fx (.Name x pos) σ m Q X:=Av5 hk hv h hd hd'
theorem Ank {x np pos e es} (a:Addr) {Q} (hk:fx.sc.names.lookup x=some .globalImplicit) (hv:nsIn P.K Bl4 x=some (some (.ref a))) (Aj5:keepIn P.K (.ref a)=true) (hd:(x == ("__debug__" : Str))=false)
 (ha:∀ env,Bk6 (e :: es) env=(false,eval e env) :: Bk6 es env) (hp:∀ env,(By7 pos (Bk6 es env)).any (·.1)=false)
 (h:Evs P n fx pos (e :: es) σ m (fun vs σ'=>Fn P n (.ref a) vs σ' Q (fun why σ''=>X why σ'' m)) X):Ev P n fx (.Call (.Name x np) (e :: es) [] pos) σ m Q X:=Awp hk hv Aj5 h hd ha hp
theorem Arm {x np pos} (a:Addr) {Q} (hk:fx.sc.names.lookup x=some .globalImplicit) (hv:nsIn P.K Bl4 x=some (some (.ref a))) (Aj5:keepIn P.K (.ref a)=true) (hd:(x == ("__debug__" : Str))=false)
 (h:Fn P n (.ref a) [] σ Q (fun why σ''=>X why σ'' m)):Ev P n fx (.Call (.Name x np) [] [] pos) σ m Q X:=Atx hk hv Aj5 h hd
theorem Axp {x np pos e es} (id:String) {Q} (hk:fx.sc.names.lookup x=some .globalImplicit) (hv:nsIn P.K Bl4 x=some none) (hb:Bs9 x=some (.builtin id)) (hx:x≠"__name__") (hd:(x == ("__debug__" : Str))=false)
 (ha:∀ env,Bk6 (e :: es) env=(false,eval e env) :: Bk6 es env) (hp:∀ env,(By7 pos (Bk6 es env)).any (·.1)=false)
 (h:Evs P n fx pos (e :: es) σ m (fun vs σ'=>Bt P n (.builtin id) vs σ' Q) X):Ev P n fx (.Call (.Name x np) (e :: es) [] pos) σ m Q X:=Ba4 hk hv hb h hx hd ha hp
theorem Az6 {x np pos e es} (T:String) {Q} (hk:fx.sc.names.lookup x=some .globalImplicit) (hv:nsIn P.K Bl4 x=some none) (hb:Bs9 x=some (.type T)) (hx:x≠"__name__") (hd:(x == ("__debug__" : Str))=false)
 (ha:∀ env,Bk6 (e :: es) env=(false,eval e env) :: Bk6 es env) (hp:∀ env,(By7 pos (Bk6 es env)).any (·.1)=false)
 (h:Evs P n fx pos (e :: es) σ m (fun vs σ'=>Bt P n (.type T) vs σ' Q) X):Ev P n fx (.Call (.Name x np) (e :: es) [] pos) σ m Q X:=Ba0 hk hv hb h hx hd ha hp
theorem Avq {en x np pos e es} (T:String) {Q} (hk:fx.sc.names.lookup x=some .globalImplicit) (hv:nsIn P.K Bl4 x=some none) (hb:Bs9 x=some (.type T)) (hx:x≠"__name__") (hd:(x == ("__debug__" : Str))=false)
 (ha:∀ env,Bk6 (e :: es) env=(false,eval e env) :: Bk6 es env) (hp:∀ env,(By7 pos (Bk6 es env)).any (·.1)=false)
 (h:Evs P n fx pos (e :: es) σ m (fun vs σ'=>BtI P n en (.type T) vs σ' Q) X):Itr P n fx en (.Call (.Name x np) (e :: es) [] pos) σ m Q X:=Az2 hk hv hb h hx hd ha hp
theorem Sto.A9 (σ:Sto) (a:Addr) (x y:O):(σ.put a x).put a y=σ.put a y:=funext fun b=>by by_cases hb:b=a <;> simp [Sto.put,hb]
theorem Sto.Ao (σ:Sto) {a b} (x y:O) (h:a≠b):(σ.put a x).put b y=(σ.put b y).put a x:=funext fun c=>by
 by_cases h1:c=a
 · subst h1; simp [Sto.put,h]
 · by_cases h2:c=b
   · subst h2; simp [Sto.put,h1]
   · simp [Sto.put,h1,h2]
theorem Sto.Acr {σ:Sto} {a:Addr} {x:O} (h:σ a=some x):σ.put a x=σ:=funext fun b=>by
 by_cases hb:b=a
 · subst hb; rw [Sto.A0,h]
 · exact Sto.A4 _ _ hb
end
noncomputable def rowsOf (t:List V) (top:Nat):List (List V):=(Bi1 (top + 1)).map fun k=>slc (some (t.length / (top + 1) * k)) (some (t.length / (top + 1) * (k + 1))) t
noncomputable def dif (rows:List (List V)):Bool:=rows.any fun r=>decide (r≠rows.headD [])
noncomputable def asked:List Nat->List V->Nat × List (List V)
 | [],t=>(0,[t])
 | p :: ps,t=>if dif (rowsOf t p) then (0,rowsOf t p) else ((asked ps ((rowsOf t p).headD [])).1 + 1,(asked ps ((rowsOf t p).headD [])).2)
theorem Af9:∀ (x:List V),asked [] x=(0,[x]):=by intros; rfl
theorem Aao:∀ (x:List V) (p:Nat) (ps:List Nat),asked (p :: ps) x=if dif (Mine.Internal.rowsOf x p)=true then (0,Mine.Internal.rowsOf x p) else ((asked ps ((Mine.Internal.rowsOf x p).headD [])).fst + 1,(asked ps ((Mine.Internal.rowsOf x p).headD [])).snd):=by intros; rfl
noncomputable def whole (N:Nat) (t:List V):List V:=(Bg8 (N / t.length) t).flatten
noncomputable def tupI (l:List Nat):List V:=l.map fun n:Nat=>V.int (n:Int)
structure Wo where
 names:List Str
 A1:List Nat
 lg:Addr
 cells:List V
 dn:Addr
 db:Addr
 dm:Addr
noncomputable abbrev B9 (A1:List Nat) (dn db dm:Addr):V:=.obj 117 [("tops",.tup (tupI A1)),("nodes",.loc dn),("book",.loc db),("memo",.loc dm)]
noncomputable abbrev Wo.dia (a:Wo):V:=B9 a.A1 a.dn a.db a.dm
noncomputable def Wo.es (a:Wo):List (Str × V):=[("names",.lst (a.names.map .str)),("tops",.lst (tupI a.A1)),("legal",.loc a.lg),("cells",.lst a.cells),("diagrams",a.dia)]
noncomputable def B3 (v:V):Prop:=v.dat=true/\v.dep<=1
noncomputable def Aad {α:Type} [DecidableEq α] (found:List (Nat × Nat × α)) (k:Nat) (row:α):List (Nat × Nat × α):=
 match found.getLast? with
 | some x=>if x.2.2=row then found.dropLast ++ [(x.1,k,row)] else found ++ [(k,k,row)]
 | none=>[(k,k,row)]
noncomputable def Ac1 {α:Type} [DecidableEq α]:List (Nat × Nat × α)->Nat->List α->List (Nat × Nat × α)
 | f,_,[]=>f
 | f,k,r :: rs=>Ac1 (Aad f k r) (k + 1) rs
theorem Ar8:∀ {α:Type} [inst:DecidableEq α] (x:List (Nat × Nat × α)) (x_1:Nat),Ac1 x x_1 []=x:=by intros; rfl
theorem Agu:∀ {α:Type} [inst:DecidableEq α] (x:List (Nat × Nat × α)) (x_1:Nat) (r:α) (rs:List α),Ac1 x x_1 (r :: rs)=Ac1 (Aad x x_1 r) (x_1 + 1) rs:=by intros; rfl
noncomputable def Aa {α:Type} [DecidableEq α] (rows:List α):List (Nat × Nat × α):=Ac1 [] 0 rows
noncomputable abbrev Avy (x:Nat × Nat × List V):V:=.tup [.int x.1,.int x.2.1,.tup x.2.2]
noncomputable def Avw (parts:List (Int × V)) (v:Int):List V:=parts.filterMap fun p=>if v<=p.1 then some p.2 else none
noncomputable def Aae (nums:List Int) (lo hi:Nat):List (Int × Int):=if nums=[] then [((lo:Int),(hi:Int))] else (slc (some lo) (some (hi + 1)) nums).map fun k=>(k,k)
noncomputable abbrev Acs (x:Int × Int):V:=.tup [.int x.1,.int x.2]
noncomputable def Ap (D:List V):List (V × V):=D.zipIdx.map fun x=>(x.1,V.int x.2)
noncomputable abbrev Au (x:Int × Nat):V:=.tup [.int x.1,.int x.2]
noncomputable def Aax (j:List (Int × Nat)) (p:Int × Nat):List (Int × Nat):=match j.getLast? with
 | some q=>if q.2=p.2 then j.dropLast ++ [p] else j ++ [p]
 | none=>[p]
noncomputable def joined (parts:List (Int × Nat)):List (Int × Nat):=parts.foldl Aax []
noncomputable def Acy (top:Int) (at_:Int) (p:Int × Nat):Int:=if p.1 > at_ then p.1 else top + 1
noncomputable def atEnd (top:Int) (parts:List (Int × Nat)):Int:=parts.foldl (Acy top) (-1)
noncomputable def Acb (parts:List (Int × Nat)) (v:Int):Option Nat:=(parts.find? fun p=>v<=p.1).map (·.2)
noncomputable abbrev Aqf (x:Int × List Nat):V:=.tup [.int x.1,.lst (x.2.map fun k:Nat=>V.int (k:Int))]
noncomputable def unlike:Int->List (Int × Nat × Nat)->Option (Int × Nat × Nat)
 | _,[]=>none
 | low,(h,a,b) :: r=>if a≠b then some (low,a,b) else unlike (h + 1) r
theorem Aiy:∀ (x h:Int) (a b:Nat) (r:List (Int × Nat × Nat)),unlike x ((h,a,b) :: r)=if a≠b then some (x,a,b) else unlike (h + 1) r:=by intros; rfl
noncomputable def Apm (h1:Int) (a:Nat) (f:List (Int × Nat)->List (Int × Nat × Nat)):List (Int × Nat)->List (Int × Nat × Nat)
 | []=>[]
 | (h2,b) :: r2=>if h1=h2 then (h1,a,b) :: f r2 else if h1 < h2 then (h1,a,b) :: f ((h2,b) :: r2) else (h2,a,b) :: Apm h1 a f r2
noncomputable def Ac9:List (Int × Nat)->List (Int × Nat)->List (Int × Nat × Nat)
 | [],_=>[]
 | (h1,a) :: r1,B=>Apm h1 a (fun B=>Ac9 r1 B) B
theorem Abu {h1 h2:Int} {a b:Nat} {r1 r2:List (Int × Nat)}:Ac9 ((h1,a) :: r1) ((h2,b) :: r2)=if h1=h2 then (h1,a,b) :: Ac9 r1 r2 else if h1 < h2 then (h1,a,b) :: Ac9 r1 ((h2,b) :: r2) else (h2,a,b) :: Ac9 ((h1,a) :: r1) r2:=rfl
theorem Adm {A B:List (Int × Nat)} (h:A=[]∨B=[]):Ac9 A B=[]:=by
 rcases h with rfl | rfl
 · rfl
 · cases A <;> rfl
noncomputable def Agt (top:Int):Int->List (Int × Nat)->Prop
 | lo,[]=>lo=top
 | lo,p :: r=>lo < p.1/\p.1<=top/\Agt top p.1 r
theorem Agt.le {top:Int}:∀ {lo:Int} {l:List (Int × Nat)},Agt top lo l->lo<=top
 | _,[],h=>Int.le_of_eq h
 | _,_ :: _,h=>Bo8 (Cl9 h.1) h.2.1
theorem Agt.low {top lo lo':Int} {p:Int × Nat} {l:List (Int × Nat)} (h:Agt top lo (p :: l)) (k:lo' < p.1):Agt top lo' (p :: l):=⟨k,h.2.1,h.2.2⟩
noncomputable def As5 (A1:List Nat) (hd:V):V:=if hd=.str "leaf" then .int A1.length else hd
noncomputable def Ar (x:V):Bool:=decide (x∈[V.str "accept",V.str "drop"])
noncomputable def nName (k:Nat):Str:=Bf5 "n" ++ Axe k
theorem Adc:∀ k,k < 20->(Axe (k:Nat)).length<=2:=by decide +kernel
noncomputable abbrev Abl (names:List Str) (A1:List Nat) (lg pl:Addr):V:=.obj 185 [("names",.tup (names.map .str)),("tops",.tup (tupI A1)),("legal",.loc lg),("place",.loc pl)]
noncomputable def Ajp (D:List V) (c:Nat):Option V:=match D[c]? with
 | some (.tup [h,x])=>if h=.str "leaf" then (if Ar x then some (.tup [x,.str ""]) else none) else some (.tup [.str "goto",.str (nName c)])
 | _=>none
noncomputable abbrev elV (v:V) (s:Int × Int):V:=.tup [.tup [Acs s],v,.int 0,.str ""]
noncomputable def Ab0 (vd:Nat->Option V) (nums:List Int):Nat->List (Nat × Nat)->Option (List V)
 | _,[]=>some []
 | low,(h,c) :: r=>match vd c with
  | none=>none
  | some v=>match Ab0 vd nums (h + 1) r with
   | none=>none
   | some els=>some ((Aae nums low h).map (elV v) ++ els)
theorem Aow:∀ (vd:Nat->Option V) (nums:List Int) (x:Nat),Ab0 vd nums x []=some []:=by intros; rfl
theorem Ae5:∀ (vd:Nat->Option V) (nums:List Int) (x h c:Nat) (r:List (Nat × Nat)),Ab0 vd nums x ((h,c) :: r)=match vd c with | none=>none | some v=>match Ab0 vd nums (h + 1) r with | none=>none | some els=>some (Bz6 (elV v) (Aae nums x h) ++ els):=by intros; rfl
noncomputable abbrev Aoc (name:Str) (els:List V):V:=.tup [.tup [.str "vmap",.tup [.str "field",.str name],.tup [.str "map",.tup els]]]
noncomputable def Aaj (a b:Int):V:=if a=b then .tup [.str "num",.int a] else .tup [.str "span",.int a,.int b]
noncomputable abbrev Abp (name:Str) (right:V):V:=.tup [.str "match",.tup [.str "field",.str name],.str "==",right]
noncomputable def Akr (D:List V) (k:Nat):Prop:=∃ hd x,D[k]?=some (.tup [hd,x])/\k < 20/\hd.dat=true/\hd.dep<=40/\(hd=.str "leaf"->x.dat=true/\x.dep<=40)
noncomputable abbrev Ad4 (x:Nat × Nat):V:=.tup [.int x.1,.int x.2]
noncomputable abbrev Aeb (v lo hi:Nat):V:=.tup [.int v,.tup [.int lo,.int hi]]
noncomputable def Adt (ws:Nat->List (List V × V)) (v:Nat):Nat->List (Nat × Nat)->List (List V × V)
 | _,[]=>[]
 | low,(h,c) :: r=>(ws c).map (fun p=>(Aeb v low h :: p.1,p.2)) ++ Adt ws v (h + 1) r
theorem Aky:∀ (ws:Nat->List (List V × V)) (v x h c:Nat) (r:List (Nat × Nat)),Adt ws v x ((h,c) :: r)=Bz6 (fun p=>(Aeb v x h :: p.fst,p.snd)) (ws c) ++ Adt ws v (h + 1) r:=by intros; rfl
noncomputable abbrev Aou (p:List V × V):V:=.tup [.tup p.1,p.2]
noncomputable abbrev Apb (p:Nat × List V):V:=.tup [.int p.1,.tup p.2]
noncomputable def Ad8 (v:Nat) (path:List V):Nat->List (Nat × Nat)->List (Nat × List V)
 | _,[]=>[]
 | low,(h,c) :: r=>(c,path ++ [Aeb v low h]) :: Ad8 v path (h + 1) r
theorem Amb:∀ (v:Nat) (path:List V) (x:Nat),Ad8 v path x []=[]:=by intros; rfl
theorem Ams:∀ (v:Nat) (path:List V) (x h c:Nat) (r:List (Nat × Nat)),Ad8 v path x ((h,c) :: r)=(c,path ++ [Aeb v x h]) :: Ad8 v path (h + 1) r:=by intros; rfl
noncomputable def Af8 (ws:Nat->List (List V × V)) (st:List (Nat × List V)):List (List V × V):=st.flatMap fun x=>(ws x.1).map fun p=>(x.2 ++ p.1,p.2)
noncomputable def Ae9 (x:Str × Int):V:=.tup [.str x.1,.int x.2]
noncomputable def Ah3:List (Str × V):=[("ether",.tup []),("th",.tup []),("vlan",.tup [Ae9 ("ether type",33024)]),("arp",.tup [Ae9 ("meta protocol",2054)]),("ip",.tup [Ae9 ("meta nfproto",2)]),("ip6",.tup [Ae9 ("meta nfproto",10)]),
 ("tcp",.tup [Ae9 ("meta l4proto",6)]),("udp",.tup [Ae9 ("meta l4proto",17)]),("icmp",.tup [Ae9 ("meta nfproto",2),Ae9 ("meta l4proto",1)]),("icmpv6",.tup [Ae9 ("meta nfproto",10),Ae9 ("meta l4proto",58)])]
structure Aec (name pr:Str) (nd:List (Str × Int)):Prop where
 len:name.length<=100
 k1:(decide (name.length < (" " : Str).length) || decide (Bs8 name < Bs8 " "))=false
 k2:(Bo2 name " " 0 name.length (name.length + 1)).isEmpty=false
 k3:∃ r,Bs5 name (Bo2 name " " 0 name.length (name.length + 1)) (" " : Str).length=pr :: r/\r.length<=100
 k4:(pr∈(["meta","ct"]:List Str)/\nd=[])∨(pr ∉ (["meta","ct"]:List Str)/\Am Ah3 pr=some (.tup (nd.map Ae9)))
 k5:∀ q∈nd,q.1.length<=100
noncomputable def Ahr (name q:Str):Str:=name ++ Bf5 " stands ahead of " ++ q
noncomputable def B2 (nd:Str->List (Str × Int)) (all:List Str):List Str->Option Str
 | []=>none
 | name :: r=>match (nd name).find? fun q=>decide (q.1∈all/\all.idxOf name < all.idxOf q.1) with
  | some q=>some (Ahr name q.1)
  | none=>B2 nd all r
theorem Aru:∀ (nd:Str->List (Str × Int)) (all:List Str) (name:Str) (r:List Str),B2 nd all (name :: r)=match List.find? (fun q=>decide (q.fst∈all/\Cp2 name all < Cp2 q.fst all)) (nd name) with | some q=>some (Ahr name q.fst) | none=>B2 nd all r:=by intros; rfl
noncomputable def placeOf (names:List Str):List (Str × V):=names.zipIdx.map fun x=>(x.1,V.int (x.2:Nat))
noncomputable def Aku (mt:V->V) (p:List V × V):V:=.tup (p.1.map mt ++ [.tup [.str "verdict",.tup [p.2,.str ""]]])
noncomputable def Ayh (names:List Str) (A1:List Nat) (les:List (Str × V)) (s m:V):Prop:=∃ (v lo hi top:Nat) (name:Str) (a b:Int),s=Aeb v lo hi/\names[v]?=some name/\A1[v]?=some top/\v < 100/\¬ (lo=0/\hi=top)/\lo < 1000/\hi < 1000 ∧
 ((Am les name=none/\a=lo/\b=hi)∨∃ nums:List Int,Am les name=some (.tup (nums.map .int))/\nums[lo]?=some a/\nums[hi]?=some b)/\m=Abp name (Aaj a b)
theorem Aev:∀ i,i < 20->∀ j,j < 20->nName i=nName j->i=j:=by decide +kernel
noncomputable abbrev Vs:=List (Str × V)
noncomputable def vof:Vs->A8
 | [],_=>none
 | (x,v) :: r,y=>if y=x then some v else vof r y
noncomputable abbrev As8 (m:Vs) (x:Str) (v:V):Vs:=(x,v) :: m
theorem Ada (m:Vs) (x:Str) (v:V):vof (As8 m x v)=(vof m).put x v:=rfl
noncomputable abbrev Alj (F:A8) (μ:Vs):Prop:=μ.map (fun p=>F p.1)=μ.map fun p=>some p.2
theorem Ad7 {F:A8}:∀ {μ:Vs},Alj F μ->Al5 (vof μ) F
 | [],_=>fun _ _ e=>nomatch e
 | (x,v) :: r,h=>fun y u e=>by
  injection h with h1 h2
  revert e
  show (if y=x then some v else vof r y)=some u->_
  by_cases q:y=x
  · rw [if_pos q,q]; intro e; rw [<- e]; exact h1
  · rw [if_neg q]; exact Ad7 h2 y u
structure Cf where
 w:World
 n:Nat
 fx:Fx
 Y:Str->Sto->Prop
 R:V->Sto->Prop
 C:Sto->Vs->Prop
noncomputable abbrev Cf.P (c:Cf):Pm:=PM c.w
noncomputable abbrev Cf.X (c:Cf):Xt:=fun y σ _=>c.Y y σ
noncomputable def Cf.setC (c:Cf) (K:Sto->Vs->Prop):Cf:=⟨c.w,c.n,c.fx,c.Y,c.R,K⟩
noncomputable def Baw:List (Str × Value):=[("_law_told",.ref 264),("_law_take",.ref 271),("_law_pool",.ref 278),("_law_needs",.ref 285),("_law_world",.ref 290),("_law_rows",.ref 295),("_law_asked",.ref 300),("_law_whole",.ref 307),("_law_stretches",.ref 314),("_law_done",.ref 321),("_law_refused",.ref 328),("_law_led",.ref 333),("_law_made",.ref 338),("_law_tested",.ref 343),("_law_numbers",.ref 348),("_law_read_right",.ref 353),("_law_parted_right",.ref 358),("_law_misplaced",.ref 365),("_law_spans",.ref 370),("_law_on",.ref 377),("_law_chains",.ref 382),("_law_ways",.ref 389)]
noncomputable def Bb9:List (Str × Value):=[("_law_told_right",.ref 394),("tidy",.ref 65),("parts_at",.ref 128),("split",.ref 133),("below",.ref 140),("value_at",.ref 147),("test",.ref 154),("first_unlike",.ref 161),("ways",.ref 168),("needs_of",.ref 196),("check_places",.ref 203),("inner_nodes",.ref 210),("verdict_of_leaf",.ref 217),("verdict_to",.ref 224),("spans_told",.ref 229),("node_rule",.ref 236),("chains_of_node",.ref 243),("way_match",.ref 250),("rules_of_ways",.ref 257),("Diagrams",.ref 117),("Space",.ref 185)]
noncomputable def Baj:List (Str × Value):=[("len",.builtin "len"),("min",.builtin "min"),("sorted",.builtin "sorted"),("str",.type "str"),("tuple",.type "tuple"),("range",.type "range"),("enumerate",.type "enumerate")]
noncomputable def Axi:List (Str × Value):=Baw ++ (Bb9 ++ Baj)
noncomputable def ckG (P:Pm) (p:Str × Value):Bool:=!(p.1 == Bf5 "__debug__") && match p.2 with
 | .ref a=>decide (nsIn P.K Bl4 p.1=some (some (.ref a))) && keepIn P.K (.ref a)
 | .builtin nm=>decide (nsIn P.K Bl4 p.1=some none) && decide (Bs9 p.1=some (.builtin nm)) && !(p.1 == Bf5 "__name__")
 | .type T=>decide (nsIn P.K Bl4 p.1=some none) && decide (Bs9 p.1=some (.type T)) && !(p.1 == Bf5 "__name__")
 | _=>false
theorem Ax2 (w:World):Axi.all (ckG (PM w))=true:=by kernel_rfl
noncomputable def ckA (P:Pm) (p:Addr × Str):Bool:=plainGet P.K p.1 p.2 && hasDictIn P.K p.1 && decide (findIn P.K (.ref p.1) p.2=some none)
noncomputable def Baq:List (Addr × Str):=[(185,"names"),(185,"tops"),(185,"legal"),(185,"place"),(117,"tops"),(117,"nodes"),(117,"book"),(117,"memo")]
theorem Avh (w:World):Baq.all (ckA (PM w))=true:=by kernel_rfl
noncomputable def ckS (P:Pm) (p:Addr × Str):Bool:=decide (findIn P.K (.ref p.1) "__setattr__"=some (some (.builtin "object.__setattr__"))) && plainOver P.K p.1 && decide (takerIn P.K p.1 p.2=some none) && hasDictIn P.K p.1
theorem Av3 (w:World):Baq.all (ckS (PM w))=true:=by kernel_rfl
noncomputable def aOk (C:Addr) (x:Str):Bool:=Baq.any fun p=>p.1 == C && p.2 == x
noncomputable def ckM (P:Pm) (p:Addr × Str × Addr):Bool:=plainGet P.K p.1 p.2.1 && decide (findIn P.K (.ref p.1) p.2.1=some (some (.ref p.2.2))) && isFn P.K (.ref p.2.2) && keepIn P.K (.ref p.2.2)
noncomputable def Bcg:List (Addr × Str × Addr):=[(117,"kept",86),(117,"leaf",93),(117,"make",100),(117,"node",107),(117,"level",114)]
theorem Av8 (w:World):Bcg.all (ckM (PM w))=true:=by kernel_rfl
noncomputable def At5 (C:Addr) (x:Str):Option Addr:=(Bcg.find? fun p=>p.1 == C && p.2.1 == x).map (·.2.2)
noncomputable def Bbq (sc:Scope) (x:Str):Bool:=(match sc.names.lookup x with | some .local=>true | some .cell=>true | some .free=>true | _=>false) && !(x == Bf5 "__classdict__") && !(x == Bf5 "__debug__")
noncomputable def Auj (sc:Scope) (x:Str):Bool:=match sc.names.lookup x with | some .local=>true | some .cell=>true | _=>false
noncomputable def At6 (sc:Scope) (x:Str):Bool:=match sc.names.lookup x with | some .globalImplicit=>true | _=>false
noncomputable def Ayq:Const->Option V
 | .int i=>some (.int i) | .str x=>some (.str x) | .none=>some .none | .bool b=>some (.bool b) | _=>none
noncomputable def notStar:Expr->Bool
 | .Starred ..=>false | _=>true
noncomputable def Bam:UnaryOp->Bool
 | .Not=>false | _=>true
noncomputable def Aiu:Expr->Bool
 | .UnaryOp op _ _=>Bam op | .BoolOp ..=>false | .IfExp ..=>false | .Compare ..=>false | _=>true
noncomputable def Aby:Expr->Bool
 | .ListComp ..=>false | .SetComp ..=>false | .DictComp ..=>false | _=>true
noncomputable def Agy:Expr->Bool
 | .Call ..=>false | _=>true
structure WR where
 E:Expr->Sto->Vs->(V->Sto->Prop)->Prop
 T:Expr->Sto->Vs->(Bool->Sto->Prop)->Prop
noncomputable abbrev Ck (b:Bool) (p:Prop):Prop:=match b with | true=>p | false=>False
theorem Ck.out {b:Bool} {p:Prop} (h:Ck b p):b=true/\p:=by
 cases b with
 | false=>exact h.elim
 | true=>exact ⟨rfl,h⟩
noncomputable abbrev Oc {α:Type} (o:Option α) (F:α->Prop):Prop:=match o with | some a=>F a | none=>False
theorem Oc.out {α:Type} {o:Option α} {F:α->Prop} (h:Oc o F):∃ a,o=some a/\F a:=by
 cases o with
 | none=>exact h.elim
 | some a=>exact ⟨a,rfl,h⟩
noncomputable def Bbv (Q:List V->Sto->Prop) (v:V) (vs:List V) (σ:Sto):Prop:=Q (v :: vs) σ
noncomputable def Kes (F:Sto->Vs->(List V->Sto->Prop)->Prop) (m:Vs) (Q:List V->Sto->Prop) (v:V) (σ:Sto):Prop:=F σ m (Bbv Q v)
noncomputable def wEs (E:Expr->Sto->Vs->(V->Sto->Prop)->Prop):List Expr->Sto->Vs->(List V->Sto->Prop)->Prop
 | []=>fun σ _ Q=>Q [] σ
 | e :: r=>fun σ m Q=>Ck (notStar e) (E e σ m (Kes (wEs E r) m Q))
noncomputable def wPe (E:Expr->Sto->Vs->(V->Sto->Prop)->Prop) (e:Option Expr) (σ:Sto) (m:Vs) (Q:V->Sto->Prop):Prop:=match e with | none=>Q .none σ | some e=>E e σ m Q
noncomputable def Bd3 (Q:V->Sto->Prop) (vs:List V) (σ:Sto):Prop:=Q (.tup vs) σ
inductive Ld (Q:V->Sto->Prop) (vs:List V) (σ:Sto):Prop
 | inl (h:∀ a,σ a=none->Q (.loc a) (σ.put a (.list vs)))
 | inr (h:Q (.lst vs) σ)
noncomputable def K2 (F:V->V->Sto->Prop) (vs:List V) (σ:Sto):Prop:=match vs with | [a,b]=>F a b σ | _=>False
noncomputable def K3 (F:V->V->V->Sto->Prop) (vs:List V) (σ:Sto):Prop:=match vs with | [a,b,d]=>F a b d σ | _=>False
noncomputable def Azp (c:Cf) (op:Operator) (Q:V->Sto->Prop) (a b:V) (σ:Sto):Prop:=match op with
 | .Add=>(match a with | .int i=>(match b with | .int j=>Q (.int (i + j)) σ | b=>Bo c.P c.n .Add (.int i) b σ Q) | a=>Bo c.P c.n .Add a b σ Q)
 | .Sub=>(match a with | .int i=>(match b with | .int j=>Q (.int (i - j)) σ | b=>Bo c.P c.n .Sub (.int i) b σ Q) | a=>Bo c.P c.n .Sub a b σ Q)
 | op=>Bo c.P c.n op a b σ Q
noncomputable def Kb (Q:V->Sto->Prop) (b:Bool) (σ:Sto):Prop:=Q (.bool b) σ
noncomputable def Kco (c:Cf) (op:CmpOp) (Q:Bool->Sto->Prop) (a b:V) (σ:Sto):Prop:=Co c.P c.n op a b σ Q
noncomputable def Bdm (c:Cf) (op:CmpOp) (a:V) (Q:Bool->Sto->Prop) (b:V) (σ:Sto):Prop:=Co c.P c.n op a b σ Q
noncomputable def Bdn (c:Cf) (r:WR) (op:CmpOp) (b:V) (e:Expr) (m:Vs) (Q:Bool->Sto->Prop) (x:Bool) (σ:Sto):Prop:=if x then r.E e σ m (Bdm c op b Q) else Q false σ
noncomputable def Kcc (c:Cf) (r:WR) (op op2:CmpOp) (e:Expr) (m:Vs) (Q:Bool->Sto->Prop) (a b:V) (σ:Sto):Prop:=Co c.P c.n op a b σ (Bdn c r op2 b e m Q)
noncomputable def Ksu (c:Cf) (Q:V->Sto->Prop) (a b:V) (σ:Sto):Prop:=Su c.P c.n a b σ Q
noncomputable def Bdv (c:Cf) (v a:V) (Q:V->Sto->Prop) (b:V) (σ:Sto):Prop:=Sl c.P c.n v a b σ Q
noncomputable def Bd4 (c:Cf) (r:WR) (v:V) (hi:Option Expr) (m:Vs) (Q:V->Sto->Prop) (a:V) (σ:Sto):Prop:=wPe r.E hi σ m (Bdv c v a Q)
noncomputable def Bdg (c:Cf) (r:WR) (lo hi:Option Expr) (m:Vs) (Q:V->Sto->Prop) (v:V) (σ:Sto):Prop:=wPe r.E lo σ m (Bd4 c r v hi m Q)
noncomputable def Kif (r:WR) (b o:Expr) (m:Vs) (Q:V->Sto->Prop) (x:Bool) (σ:Sto):Prop:=if x then r.E b σ m Q else r.E o σ m Q
inductive AtI (dx:Addr) (x:Str) (σ:Sto) (Q:V->Sto->Prop):Prop
 | mk (as:List (Str × V)) (d:V) (h:σ dx=some (.attrs as)) (hl:as.lookup x=some d) (hq:Q d σ)
noncomputable def Kat (x:Str) (Q:V->Sto->Prop) (v:V) (σ:Sto):Prop:=match v with
 | .obj C as=>(Ck (aOk C x) ((Oc (as.lookup x) fun d=>Q d σ)))
 | .inst C dx=>(Ck (aOk C x) (AtI dx x σ Q))
 | _=>False
noncomputable def Kfn (c:Cf) (f:Value) (Q:V->Sto->Prop) (vs:List V) (σ:Sto):Prop:=Fn c.P c.n f vs σ Q c.Y
noncomputable def Kbt (c:Cf) (f:Value) (Q:V->Sto->Prop) (vs:List V) (σ:Sto):Prop:=Bt c.P c.n f vs σ Q
noncomputable def Kmf (c:Cf) (f:Value) (v:V) (Q:V->Sto->Prop) (vs:List V) (σ:Sto):Prop:=Fn c.P c.n f (v :: vs) σ Q c.Y
noncomputable def Kmb (c:Cf) (f:Value) (v:V) (Q:V->Sto->Prop) (vs:List V) (σ:Sto):Prop:=Bt c.P c.n f (v :: vs) σ Q
structure MB (T:String) (x:Str) (id:String):Prop where
 pa:PlainAttrs T
 slot:Slot T x id
 ty:typeOf (.builtin id)=pure (.type "method_descriptor")
inductive Me (x:Str) (v:V) (σ:Sto) (F:String->Prop):Prop
 | mk (T id:String) (hb:MB T x id) (ht:Ty σ v T) (h:F id)
noncomputable def Fmb (c:Cf) (r:WR) (es:List Expr) (v:V) (m:Vs) (Q:V->Sto->Prop) (σ:Sto) (id:String):Prop:=wEs r.E es σ m (Kmb c (.builtin id) v Q)
noncomputable def Kme (c:Cf) (r:WR) (x:Str) (es:List Expr) (m:Vs) (Q:V->Sto->Prop) (v:V) (σ:Sto):Prop:=match v with
 | .obj C as=>(match At5 C x with | some f=>(match as.lookup x with | none=>wEs r.E es σ m (Kmf c (.ref f) v Q) | some _=>False) | none=>False)
 | v=>Me x v σ (Fmb c r es v m Q σ)
noncomputable def Bd8 (Q:Bool->Sto->Prop) (b:Bool) (σ:Sto):Prop:=Q (!b) σ
inductive Tru (Q:Bool->Sto->Prop) (v:V) (σ:Sto):Prop
 | mk (b:Bool) (h:Tv σ v b) (hq:Q b σ)
noncomputable def Bab (F:Sto->Vs->(Bool->Sto->Prop)->Prop) (m:Vs) (Q:Bool->Sto->Prop) (b:Bool) (σ:Sto):Prop:=if b then F σ m Q else Q false σ
noncomputable def Kor (F:Sto->Vs->(Bool->Sto->Prop)->Prop) (m:Vs) (Q:Bool->Sto->Prop) (b:Bool) (σ:Sto):Prop:=if b then Q true σ else F σ m Q
noncomputable def Baf (T:Expr->Sto->Vs->(Bool->Sto->Prop)->Prop):List Expr->Sto->Vs->(Bool->Sto->Prop)->Prop
 | []=>fun σ _ Q=>Q true σ
 | e :: r=>fun σ m Q=>T e σ m (Bab (Baf T r) m Q)
noncomputable def wOr (T:Expr->Sto->Vs->(Bool->Sto->Prop)->Prop):List Expr->Sto->Vs->(Bool->Sto->Prop)->Prop
 | []=>fun σ _ Q=>Q false σ
 | e :: r=>fun σ m Q=>T e σ m (Kor (wOr T r) m Q)
noncomputable def Ay6 (c:Cf) (r:WR) (e:Expr) (f:Expr) (es:List Expr) (p:Pos) (σ:Sto) (m:Vs) (Q:V->Sto->Prop):Prop:=match f with
 | .Name x _=>(match At6 c.fx.sc x && es.all notStar with
  | true=>(match Axi.lookup x with
   | some (.ref a)=>wEs r.E es σ m (Kfn c (.ref a) Q)
   | some v=>(match es with | []=>False | _ :: _=>wEs r.E es σ m (Kbt c v Q))
   | none=>False)
  | false=>False)
 | .Attribute o x ap=>(Ck (Agy o && (es.all notStar && (decide (es.length < 30) && (ap.endLine == p.line)))) (r.E o σ m (Kme c r x es m Q)))
 | _=>Ev c.P c.n c.fx e σ (vof m) Q c.X
noncomputable def stE (c:Cf) (r:WR) (e:Expr) (σ:Sto) (m:Vs) (Q:V->Sto->Prop):Prop:=match e with
 | .Constant k _ _=>(Oc (Ayq k) fun v=>Q v σ)
 | .Name x _=>(Ck (Bbq c.fx.sc x) ((Oc (vof m x) fun v=>Q v σ)))
 | .Tuple es _ _=>(Ck (Nat.ble es.length 1000) (wEs r.E es σ m (Bd3 Q)))
 | .List es _=>(Ck (Nat.ble es.length 1000) (wEs r.E es σ m (Ld Q)))
 | .BinOp a op b _=>wEs r.E [a,b] σ m (K2 (Azp c op Q))
 | .UnaryOp .USub (.Constant (.int i) _ _) _=>Q (.int (-i)) σ
 | .Compare l [op] [x] _=>(match Br0 op x with | false=>wEs r.E [l,x] σ m (K2 (Kco c op (Kb Q))) | true=>False)
 | .IfExp t b o _=>r.T t σ m (Kif r b o m Q)
 | .Subscript v (.Slice lo hi none _) _=>r.E v σ m (Bdg c r lo hi m Q)
 | .Subscript v i _=>wEs r.E [v,i] σ m (K2 (Ksu c Q))
 | .Attribute o x _=>(Ck (Agy o) (r.E o σ m (Kat x Q)))
 | .Call f es [] p=>Ay6 c r e f es p σ m Q
 | e=>Ev c.P c.n c.fx e σ (vof m) Q c.X
noncomputable def stT (c:Cf) (r:WR) (e:Expr) (σ:Sto) (m:Vs) (Q:Bool->Sto->Prop):Prop:=match e with
 | .UnaryOp .Not x _=>r.T x σ m (Bd8 Q)
 | .BoolOp .And es _=>Baf r.T es σ m Q
 | .BoolOp .Or es _=>wOr r.T es σ m Q
 | .Compare l [op] [x] _=>(match Br0 op x with | false=>wEs r.E [l,x] σ m (K2 (Kco c op Q)) | true=>False)
 | .Compare l [op,op2] [x,y] _=>(match Br0 op x || Br0 op2 y with | false=>wEs r.E [l,x] σ m (K2 (Kcc c r op op2 y m Q)) | true=>False)
 | e=>(Ck (Aiu e) (r.E e σ m (Tru Q)))
noncomputable def wr0 (c:Cf):WR:=⟨fun e σ m Q=>Ev c.P c.n c.fx e σ (vof m) Q c.X,fun e σ m Q=>Tt c.P c.n c.fx e σ (vof m) Q c.X⟩
noncomputable def wr (c:Cf):Nat->WR
 | 0=>wr0 c
 | k + 1=>⟨stE c (wr c k),stT c (wr c k)⟩
noncomputable abbrev wE (c:Cf):=(wr c 40).E
noncomputable abbrev wT (c:Cf):=(wr c 40).T
theorem Ab2 {e es} (h:notStar e=true) (env:Env):Bk6 (e :: es) env=(false,eval e env) :: Bk6 es env:=by
 cases e <;> first | rfl | cases h
theorem Agv {e} (h:Aby e=true) (t:Option Expr) (l:Nat) (env:Env):Cc9 e t l env=pure false:=by
 cases e <;> first | rfl | cases h
theorem Aud {o} (h:Agy o=true) (x:Str) (env:Env) (w:Sem Value):attributeBase o x env w=w:=by
 cases o <;> first | rfl | cases h
theorem Akj {env}:∀ {es},es.all notStar=true->∀ x∈Bk6 es env,x.1=false
 | [],_,x,hx=>nomatch hx
 | e :: r,h,x,hx=>by
  rw [Bw0,Bg1] at h
  rw [Ab2 h.1] at hx
  cases hx with
  | head=>rfl
  | tail _ hx=>exact Akj h.2 x hx
theorem Adw {pos env es} (h:es.all notStar=true):((By7 pos (Bk6 es env)).any fun x=>x.1)=false:=by
 rw [Bz3]
 intro x hx
 unfold By7 at hx
 obtain ⟨y,hy,e⟩:=Bh3.mp hx
 have:=Akj h y hy
 rw [<- e]
 simpa using this
theorem Bap (e:Expr) (h:Aiu e=true) (env:Env) (whole:Sem Value):isTrue e env whole=(do let v <- whole; Cb7 e.pos; holding [v] (truthy v)):=by
 cases e with
 | UnaryOp op x p=>cases op <;> first | rfl | cases h
 | _=>first | rfl | cases h
theorem Bbj {pos env es} (h:es.all notStar=true) (hl:es.length < 30):((By7 pos (Bk6 es env)).all (fun x=>!x.1) && (backToKw pos (Ck4 [] env)).all (fun x=>x.1.isSome) && decide (es.length + ([]:List Keyword).length + (if ([]:List Keyword).isEmpty then 0 else 1) < 30))=true:=by
 have:=Adw (pos:=pos) (env:=env) h
 rw [Bz3] at this
 rw [Bg1,Bg1,Bj8]
 exact ⟨⟨fun x hx=>by have:=this x hx; simpa using this,rfl⟩,by simpa using hl⟩
theorem Av2 {pos env es} (h:es.all notStar=true):By7 pos (Bk6 es env)=[]∨∃ x r,By7 pos (Bk6 es env)=(false,x) :: r:=by
 cases es with
 | nil=>exact .inl rfl
 | cons e r=>
  rw [Bw0,Bg1] at h
  rw [Ab2 h.1]
  exact .inr ⟨_,_,rfl⟩
theorem Al8 {sc x} (h:Bbq sc x=true):(sc.names.lookup x=some .local∨sc.names.lookup x=some .cell∨sc.names.lookup x=some .free)/\(x == Bf5 "__classdict__")=false/\(x == Bf5 "__debug__")=false:=by
 unfold Bbq at h
 rw [Bg1,Bg1,Bm8,Bm8] at h
 refine ⟨?_,h.1.2,h.2⟩
 have:=h.1.1
 cases e:sc.names.lookup x with
 | none=>rw [e] at this; cases this
 | some k=>cases k <;> first | exact .inl rfl | exact .inr (.inl rfl) | exact .inr (.inr rfl) | (rw [e] at this; cases this)
theorem Am6 {sc x} (h:Auj sc x=true):sc.names.lookup x=some .local∨sc.names.lookup x=some .cell:=by
 unfold Auj at h
 cases e:sc.names.lookup x with
 | none=>rw [e] at h; cases h
 | some k=>cases k <;> first | exact .inl rfl | exact .inr rfl | (rw [e] at h; cases h)
theorem Alc {sc x} (h:At6 sc x=true):sc.names.lookup x=some .globalImplicit:=by
 unfold At6 at h
 cases e:sc.names.lookup x with
 | none=>rw [e] at h; cases h
 | some k=>cases k <;> first | rfl | (rw [e] at h; cases h)
theorem Amt {x v} (h:Axi.lookup x=some v) (w:World):ckG (PM w) (x,v)=true:=Bj8.mp (Ax2 w) _ (lookup_mem h)
theorem Aqq {C x} (h:aOk C x=true) (w:World):ckA (PM w) (C,x)=true/\ckS (PM w) (C,x)=true:=by
 obtain ⟨p,hp,e⟩:=Bx3.mp h
 rw [Bg1] at e
 obtain ⟨a,b⟩:=p
 rw [<- eq_of_beq e.1,<- eq_of_beq e.2]
 exact ⟨Bj8.mp (Avh w) _ hp,Bj8.mp (Av3 w) _ hp⟩
theorem Ata {C f x} (h:At5 C x=some f) (w:World):ckM (PM w) (C,x,f)=true:=by
 unfold At5 at h
 obtain ⟨p,hp,e⟩:=Bn7.mp h
 have h1:=List.find?_some hp
 rw [Bg1] at h1
 obtain ⟨a,b,d⟩:=p
 rw [<- eq_of_beq h1.1,<- eq_of_beq h1.2,<- e]
 exact Bj8.mp (Av8 w) _ (Cc4 hp)
section
variable {P:Pm} {n:Nat} {fx:Fx} {σ:Sto} {m:A8} {X:Xt}
theorem Axm {o name pos Q} (hb:Agy o=true)
  (h:Ev P n fx o σ m (fun c σ1=>∃ C as d,ckA P (C,name)=true/\Io σ1 c C as/\as.lookup name=some d/\Q d σ1) X):Ev P n fx (.Attribute o name pos) σ m Q X:=
 fun A st B g env s he hr hm=>by
  show wpAny _ _ (attributeBase o name env (eval o env) >>= _) _ _ _
  rw [Aud hb]
  refine Be9 (Bf3 (h A st B g env s he hr hm) (fun ov s1 qM=>?_) fun _ _ q=>q)
  obtain ⟨g1,σ1,m1,c,hg1,hr1,hv1,hm1,C,as,d,ck,hio,hlk,hq1⟩:=qM
  subst hm1
  unfold ckA at ck
  rw [Bg1,Bg1,decide_eq_true_eq] at ck
  obtain ⟨⟨hg,hh⟩,hf⟩:=ck
  obtain ⟨a,dx,od,es',k,rfl,q1,q2,q3,q4,I⟩:=hio.at hr1.toRepC hv1
  have hl:=q4.lookIn q3 name
  rw [hlk] at hl
  obtain ⟨v,hl,hv⟩:=hl
  have kin:=hr1.pc.kin.keeps hr1.fz
  have hin:handedIn v=true:=by cases hv <;> rfl
  refine Be9 (Bo3 (Be9 (Bl1 (get_value kin I (plainGet_of hg).1 (findObj_own hh hf rfl hl) hin (Be9 (wpAny_letTemporaryGo (Bf6 ?_)))))))
  exact ⟨g1,σ1,_,d,hg1,hr1.tok _,hv,rfl,hq1⟩
theorem Aw5 {o name apos pos es Q} (hb:Agy o=true) (hs:es.all notStar=true) (hl:es.length < 30) (Bbs:(apos.endLine == pos.line)=true)
  (h:Ev P n fx o σ m (fun c σ1=>(∃ C as f,ckM P (C,name,f)=true/\Io σ1 c C as/\as.lookup name=none/\Evs P n fx pos es σ1 m (fun vs σ2=>Fn P n (.ref f) (c :: vs) σ2 Q (fun why σ''=>X why σ'' m)) X) ∨
    ∃ T id,MB T name id/\Ty σ1 c T/\Evs P n fx pos es σ1 m (fun vs σ2=>Bt P n (.builtin id) (c :: vs) σ2 Q) X) X):Ev P n fx (.Call (.Attribute o name apos) es [] pos) σ m Q X:=
 fun A st B g env s he hr hm=>by
  show wpAny _ _ (attributeBase o name env (eval o env) >>= _) _ _ _
  rw [Aud hb]
  refine Be9 (Bf3 (h A st B g env s he hr hm) (fun ov s1 qM=>?_) fun _ _ q=>q)
  obtain ⟨g1,σ1,m1,c,hg1,hr1,hv1,hm1,hh⟩:=qM
  subst hm1
  have Bbx:methodCallForm (es.length + ([]:List Keyword).length) (By7 pos (Bk6 es env)) (backToKw pos (Ck4 [] env))=true:=Bbj hs hl
  have Bce:methodCallPos true o env apos pos=pure pos:=by unfold methodCallPos; rw [Bbs]; rfl
  refine Be9 (Bo3 ?_)
  unfold methodCall
  rw [Bbx]
  rcases hh with ⟨C,as,f,ck,hio,hlk,hq1⟩ | ⟨T,id,hmb,ht,hq1⟩
  · unfold ckM at ck
    rw [Bg1,Bg1,Bg1,decide_eq_true_eq] at ck
    obtain ⟨⟨⟨hg,hf⟩,ht⟩,Aj5⟩:=ck
    obtain ⟨a,dx,od,es',k,rfl,q1,q2,q3,q4,I⟩:=hio.at hr1.toRepC hv1
    have hl:=q4.lookIn q3 name
    rw [hlk] at hl
    have kin:=hr1.pc.kin.keeps hr1.fz
    refine Be9 (Bl1 (method_fn kin I (plainGet_of hg).1 (plainGet_of hg).2 hf (beq_iff_eq.mp ht) (by show (lookIn name od).map _=_; rw [hl]; rfl) ?_))
    refine Be9 (Cg8 Bce ?_)
    refine callWith_of (P:=P.K.In) (by show ((By7 pos (Bk6 es env)).any (·.1) || false)=false; rw [Adw hs]; rfl) (keeps_K Aj5) (Ado (Av2 hs) ?_)
    refine Bf3 (hq1 A st B g1 env _ he hr1 hm) (fun vs s' qM=>?_) fun _ _ q=>q.mono hg1 fun _ _ _ x=>x
    obtain ⟨g',σ',m',ds,hg,hr',hv,hm',hlen,hq⟩:=qM
    subst hm'
    refine ⟨hr'.pc.kin.keeps hr'.fz,?_⟩
    exact Bf3 (Alx hr' (.cons (hv1.mono hg) hv) hm hq) (fun _ _ q=>q.mono (A3 hg1 hg) fun _ _ _ x=>x) fun _ _ q=>q.mono (A3 hg1 hg) fun _ _ _ x=>x
  · obtain ⟨t1,t2⟩:=ht.is hr1.toRepC hv1
    refine Be9 (Bl1 (getMethod_builtin t1 hmb.pa hmb.slot hmb.ty t2 ?_))
    refine Be9 (Cg8 Bce (Cf2 (Adw hs) (Ado (Av2 hs) ?_)))
    refine Bf3 (hq1 A st B g1 env s1 he hr1 hm) (fun vs s' qM=>?_) fun _ _ q=>q.mono hg1 fun _ _ _ x=>x
    obtain ⟨g',σ',m',ds,hg,hr',hv,hm',hlen,hq⟩:=qM
    subst hm'
    exact Bf3 (hq A st B g' env _ s' (ov :: vs) hr' (.cons (hv1.mono hg) hv) hm) (fun _ _ q=>q.mono (A3 hg1 hg) fun _ _ _ x=>x) fun _ _ q=>q.elim
theorem Aw1 {op a b Q Q'} (h:Co P n op a b σ Q) (hq:∀ v σ,Q v σ->Q' v σ):Co P n op a b σ Q':=
 fun A st B g env m s u v hr ha hb hm=>Bf3 (h A st B g env m s u v hr ha hb hm) (fun _ _ q=>q.mono (A2 _) fun _ _ _ x=>⟨x.1,hq _ _ x.2⟩) fun _ _ q=>q
theorem Ba1 {es pos Q} (h:Evs P n fx pos es σ m (Ld Q) X) (hl:es.length<=1000):Ev P n fx (.List es pos) σ m Q X:=
 fun A st B g env s he hr hm=>List_ (Bf3 (h A st B g env s he hr hm) (fun vs s' qE=>by
  obtain ⟨g',σ',m',ds,hg,hr',hv,hm',hlen,hq⟩:=qE
  have hz:vs.length<=sizeLine:=by rw [hv.length,hlen,Bn6]; exact Be8 hl (by decide)
  refine Bn9 ?_ (by show vs.toArray.size<=sizeLine; rw [Bp2]; exact hz)
  obtain ⟨hn,R2⟩:=hr'.Ac7 (x:=.list ds) (Aa3 s'.heap _) (Bh7 _) (Bi4 s'.heap (o:={ cls:=.type "list",data:=.seq vs.toArray }) rfl) ⟨rfl,_,_,rfl,hv,rfl,rfl⟩ s'.toks
  cases hq with
  | inl hq=>exact ⟨g',_,m',_,hg,R2,.loc _,hm',hq _ hn⟩
  | inr hq=>
   obtain ⟨g2,k1,k2,k3⟩:=R2.Af1 (Sto.A0 ..)
   rw [Sto.Abn hn] at k3
   exact ⟨g2,_,_,_,A3 hg k1,k3,k2,hm',hq⟩) fun _ _ q=>q)
theorem Avx {e Q Q'} (h:Pe P n fx e σ m Q X) (hq:∀ v σ,Q v σ->Q' v σ):Pe P n fx e σ m Q' X:=by
 cases e with
 | none=>exact hq _ _ h
 | some e=>exact Ag h hq
theorem Afa {e Q Q'} (h:Tt P n fx e σ m Q X) (hq:∀ v σ,Q v σ->Q' v σ):Tt P n fx e σ m Q' X:=
 JS.mono h (fun _ _ _ q=>⟨q.1,hq _ _ q.2⟩) fun _ _ _ q=>q
end
noncomputable def SE (c:Cf) (E:Expr->Sto->Vs->(V->Sto->Prop)->Prop):Prop:=∀ e σ m Q,E e σ m Q->Ev c.P c.n c.fx e σ (vof m) Q c.X
noncomputable def ST (c:Cf) (T:Expr->Sto->Vs->(Bool->Sto->Prop)->Prop):Prop:=∀ e σ m Q,T e σ m Q->Tt c.P c.n c.fx e σ (vof m) Q c.X
section
variable {c:Cf} {r:WR}
theorem Aef {E} (hE:SE c E):∀ es pos σ m Q,wEs E es σ m Q->Evs c.P c.n c.fx pos es σ (vof m) Q c.X
 | [],pos,σ,m,Q,h=>Am3 h
 | e :: r,pos,σ,m,Q,h=>by
  obtain ⟨hs,h⟩:=Ck.out h
  exact Aea (Ag (hE _ _ _ _ h) fun v σ' q=>Aef hE r pos _ _ _ q) (Ab2 hs)
theorem w1 {E e σ m Q} (hE:SE c E) (h:wEs E [e] σ m Q):Ev c.P c.n c.fx e σ (vof m) (fun a σ=>Q [a] σ) c.X:=by
 obtain ⟨hs,h⟩:=Ck.out h
 exact hE _ _ _ _ h
theorem w2 {E a b σ m Q} (hE:SE c E) (h:wEs E [a,b] σ m Q):Ev c.P c.n c.fx a σ (vof m) (fun x σ1=>Ev c.P c.n c.fx b σ1 (vof m) (fun y σ2=>Q [x,y] σ2) c.X) c.X:=by
 obtain ⟨hs,h⟩:=Ck.out h
 exact Ag (hE _ _ _ _ h) fun v σ' q=>w1 hE q
theorem w3 {E a b d σ m Q} (hE:SE c E) (h:wEs E [a,b,d] σ m Q):Ev c.P c.n c.fx a σ (vof m) (fun x σ1=>Ev c.P c.n c.fx b σ1 (vof m) (fun y σ2=>Ev c.P c.n c.fx d σ2 (vof m) (fun z σ3=>Q [x,y,z] σ3) c.X) c.X) c.X:=by
 obtain ⟨hs,h⟩:=Ck.out h
 exact Ag (hE _ _ _ _ h) fun v σ' q=>w2 hE q
theorem Aup {E} (hE:SE c E) {e σ m Q} (h:wPe E e σ m Q):Pe c.P c.n c.fx e σ (vof m) Q c.X:=by
 cases e with
 | none=>exact h
 | some e=>exact hE _ _ _ _ h
theorem Arn {T} (hT:ST c T):∀ es σ m Q,Baf T es σ m Q->At c.P c.n c.fx .And es σ (vof m) Q c.X
 | [],σ,m,Q,h=>Aoa h
 | e :: r,σ,m,Q,h=>Ay8 (Afa (hT _ _ _ _ h) fun b σ' q=>by
  cases b with
  | true=>exact Arn hT r _ _ _ q
  | false=>exact q)
theorem Auw {T} (hT:ST c T):∀ es σ m Q,wOr T es σ m Q->At c.P c.n c.fx .Or es σ (vof m) Q c.X
 | [],σ,m,Q,h=>Arw h
 | e :: r,σ,m,Q,h=>Baz (Afa (hT _ _ _ _ h) fun b σ' q=>by
  cases b with
  | true=>exact q
  | false=>exact Auw hT r _ _ _ q)
theorem Awc {op Q a b σ} (h:Azp c op Q a b σ):Bo c.P c.n op a b σ Q:=by
 cases op with
 | Add=>
  unfold Azp at h
  dsimp only at h
  cases a <;> first | exact h | (cases b <;> first | exact h | exact Azg h)
 | Sub=>
  unfold Azp at h
  dsimp only at h
  cases a <;> first | exact h | (cases b <;> first | exact h | exact Ayj h)
 | _=>exact h
theorem Aso (hE:SE c r.E) {f es p σ m Q} (h:Ay6 c r (.Call f es [] p) f es p σ m Q):Ev c.P c.n c.fx (.Call f es [] p) σ (vof m) Q c.X:=by
 cases f with
 | Name x np=>
  obtain ⟨hg,h⟩:=Ck.out h
  rw [Bg1] at hg
  cases hv:Axi.lookup x with
   | none=>rw [hv] at h; exact h.elim
   | some v=>
    rw [hv] at h
    have ck:=Amt hv c.w
    unfold ckG at ck
    rw [Bg1,Bm8] at ck
    obtain ⟨kd,ck⟩:=ck
    have kg:=Alc hg.1
    cases v with
    | ref a=>
     rw [Bg1,decide_eq_true_eq] at ck
     cases es with
     | nil=>exact Arm a kg ck.1 ck.2 kd h
     | cons e r=>
      have h2:=hg.2
      rw [Bw0,Bg1] at h2
      exact Ank a kg ck.1 ck.2 kd (Ab2 h2.1) (fun env=>Adw h2.2) (Aef hE _ _ _ _ _ h)
    | builtin id=>
     rw [Bg1,Bg1,decide_eq_true_eq,decide_eq_true_eq,Bm8,beq_eq_false_iff_ne] at ck
     cases es with
     | nil=>exact h.elim
     | cons e r=>
      have h2:=hg.2
      rw [Bw0,Bg1] at h2
      exact Axp id kg ck.1.1 ck.1.2 ck.2 kd (Ab2 h2.1) (fun env=>Adw h2.2) (Aef hE _ _ _ _ _ h)
    | type T=>
     rw [Bg1,Bg1,decide_eq_true_eq,decide_eq_true_eq,Bm8,beq_eq_false_iff_ne] at ck
     cases es with
     | nil=>exact h.elim
     | cons e r=>
      have h2:=hg.2
      rw [Bw0,Bg1] at h2
      exact Az6 T kg ck.1.1 ck.1.2 ck.2 kd (Ab2 h2.1) (fun env=>Adw h2.2) (Aef hE _ _ _ _ _ h)
    | _=>cases ck
 | Attribute o x ap=>
  obtain ⟨hg,h⟩:=Ck.out h
  rw [Bg1,Bg1,Bg1,decide_eq_true_eq] at hg
  refine Aw5 hg.1 hg.2.1 hg.2.2.1 hg.2.2.2 (Ag (hE _ _ _ _ h) fun v σ' q=>?_)
  have kb:∀ {v},Me x v σ' (Fmb c r es v m Q σ')->∃ T id,MB T x id/\Ty σ' v T/\Evs c.P c.n c.fx p es σ' (vof m) (fun vs σ2=>Bt c.P c.n (.builtin id) (v :: vs) σ2 Q) c.X:=fun q=>by
   cases q with | mk T id hb ht h=>exact ⟨T,id,hb,ht,Aef hE _ _ _ _ _ h⟩
  cases v with
   | obj C as=>
    unfold Kme at q
    dsimp only at q
    cases hm:At5 C x with
    | none=>rw [hm] at q; exact q.elim
    | some f=>
     rw [hm] at q
     dsimp only at q
     cases hl:as.lookup x with
     | some _=>rw [hl] at q; exact q.elim
     | none=>rw [hl] at q; exact .inl ⟨C,as,f,Ata hm _,.obj,hl,Aef hE _ _ _ _ _ q⟩
   | _=>exact .inr (kb q)
 | _=>exact h
theorem Ayy (hE:SE c r.E) (hT:ST c r.T):SE c (stE c r):=fun e σ m Q h=>by
 cases e with
 | Constant k a p=>
  cases k with
  | int i=>exact Axs h
  | str x=>exact Ayz h
  | none=>exact Awj h
  | bool b=>exact Avu h
  | _=>exact h.elim
 | Name x p=>
  obtain ⟨hk,h⟩:=Ck.out h
  obtain ⟨v,hv,h⟩:=Oc.out h
  exact Afy v (Al8 hk).1 (Al8 hk).2.1 (Al8 hk).2.2 hv h
 | Tuple es k p=>
  obtain ⟨hk,h⟩:=Ck.out h
  exact At1 (Aef hE _ _ _ _ _ h) (Bh8 hk)
 | List es p=>
  obtain ⟨hk,h⟩:=Ck.out h
  exact Ba1 (Aef hE _ _ _ _ _ h) (Bh8 hk)
 | BinOp a op b p=>exact Ay7 (Ag (w2 hE h) fun v σ' q=>Ag q fun u σ'' q=>Awc q)
 | UnaryOp op x p=>
  cases op with
  | USub=>
   cases x with
   | Constant k a p'=>cases k with
    | int i=>exact Ayi h
    | _=>exact h
   | _=>exact h
  | _=>exact h
 | IfExp t b o p=>exact Atf (Afa (hT _ _ _ _ h) fun x σ' q=>by
   cases x with
   | true=>exact hE _ _ _ _ q
   | false=>exact hE _ _ _ _ q)
 | Compare l ops xs p=>
  cases ops with
  | nil=>exact h
  | cons op ops=>
   cases ops with
   | cons _ _=>exact h
   | nil=>
    cases xs with
    | nil=>exact h
    | cons x xs=>
     cases xs with
     | cons _ _=>exact h
     | nil=>
      unfold stE at h
      dsimp only at h
      cases hk:Br0 op x with
      | true=>rw [hk] at h; exact h.elim
      | false=>rw [hk] at h; exact Axx (w2 hE h) hk
 | Subscript v i p=>
  cases i with
  | Slice lo hi st q=>
   cases st with
   | some _=>exact Av1 (w2 hE h)
   | none=>exact Asv (Ag (hE _ _ _ _ h) fun v σ1 q=>Avx (Aup hE q) fun a σ2 q=>Aup hE q)
  | _=>exact Av1 (w2 hE h)
 | Attribute o x p=>
  obtain ⟨hk,h⟩:=Ck.out h
  refine Axm hk (Ag (hE _ _ _ _ h) fun v σ' q=>?_)
  cases v with
   | obj C as=>
    obtain ⟨ha,q⟩:=Ck.out q
    obtain ⟨d,hl,q⟩:=Oc.out q
    exact ⟨C,as,d,(Aqq ha _).1,.obj,hl,q⟩
   | inst C dx=>
    obtain ⟨ha,q⟩:=Ck.out q
    cases q with | mk as d h1 h2 h3=>exact ⟨C,as,d,(Aqq ha _).1,.inst h1,h2,h3⟩
   | _=>exact q.elim
 | Call f es ks p=>
  cases ks with
  | nil=>exact Aso hE h
  | cons _ _=>exact h
 | _=>exact h
theorem Azd (hE:SE c r.E) (hT:ST c r.T):ST c (stT c r):=fun e σ m Q h=>by
 have g:∀ e',e'=e->Aiu e=true->stT c r e σ m Q=Ck (Aiu e) (r.E e σ m (Tru Q))->Tt c.P c.n c.fx e σ (vof m) Q c.X:=fun _ _ hn he=>by
  rw [he,hn] at h
  exact Axu (Ag (hE _ _ _ _ h) fun v σ' q=>by cases q with | mk b h1 h2=>exact ⟨b,h1,h2⟩) (Bap e hn)
 cases e with
 | UnaryOp op x p=>
  cases op with
  | Not=>exact Azi (hT _ _ _ _ h)
  | _=>exact g _ rfl rfl rfl
 | BoolOp op es p=>
  cases op with
  | And=>exact Aq9 (Arn hT _ _ _ _ h)
  | Or=>exact Aq9 (Auw hT _ _ _ _ h)
 | Compare l ops xs p=>
  cases ops with
  | nil=>exact h.elim
  | cons op ops=>
   cases ops with
   | cons op2 ops=>
    cases ops with
    | cons _ _=>exact h.elim
    | nil=>
     cases xs with
     | nil=>exact h.elim
     | cons x xs=>
      cases xs with
      | nil=>exact h.elim
      | cons y xs=>
       cases xs with
       | cons _ _=>exact h.elim
       | nil=>
        unfold stT at h
        dsimp only at h
        cases hk:(Br0 op x || Br0 op2 y) with
        | true=>rw [hk] at h; exact h.elim
        | false=>
         rw [hk] at h
         rw [Bool.or_eq_false_iff] at hk
         refine Awd (Ag (w2 hE h) fun a σ1 q=>Ag q fun b σ2 q=>Aw1 q fun x σ3 q=>?_) hk.1 hk.2
         cases x with
         | true=>exact hE _ _ _ _ q
         | false=>exact q
   | nil=>
    cases xs with
    | nil=>exact h.elim
    | cons x xs=>
     cases xs with
     | cons _ _=>exact h.elim
     | nil=>
      unfold stT at h
      dsimp only at h
      cases hk:Br0 op x with
      | true=>rw [hk] at h; exact h.elim
      | false=>rw [hk] at h; exact Ay3 (w2 hE h) hk
 | IfExp _ _ _ _=>exact h.elim
 | _=>exact g _ rfl rfl rfl
theorem Ace (c:Cf):∀ k,SE c (wr c k).E/\ST c (wr c k).T
 | 0=>⟨fun _ _ _ _ h=>h,fun _ _ _ _ h=>h⟩
 | k + 1=>⟨Ayy (Ace c k).1 (Ace c k).2,Azd (Ace c k).1 (Ace c k).2⟩
end
noncomputable def Bbp {α:Type} (t:Sem α):Option α:=match t with | .pure a=>some a | _=>none
theorem Ap5 {α:Type} {t:Sem α} {a:α} (h:Bbp t=some a):t=Pure.pure a:=by
 cases t with
 | pure b=>cases h; rfl
 | _=>cases h
noncomputable def envOf (sc:Scope):Env:={ scope:=sc,locals:=0,globals:=0,cells:=[] }
noncomputable def Awz (sc:Scope) (t e:Expr):Option (Option (List Str)):=Bbp (Cm4 [t] e (envOf sc))
theorem Amr {sc:Scope} {t e:Expr} {r:Option (List Str)} (h:Awz sc t e=some r) {env:Env} (he:env.scope=sc):Cm4 [t] e env=Pure.pure r:=by
 subst he; exact Ap5 h
noncomputable def Ape (sc:Scope) (t e:Expr) (l:Nat):Option Bool:=Bbp (Cc9 e (some t) l (envOf sc))
theorem Ajk {sc:Scope} {t e:Expr} {l:Nat} {r:Bool} (h:Ape sc t e l=some r) {env:Env} (he:env.scope=sc):Cc9 e (some t) l env=Pure.pure r:=by
 subst he; exact Ap5 h
noncomputable def NQ (c:Cf) (N:Sto->Vs->Prop) (f:Flw) (σ:Sto) (m':A8):Prop:=match f with
 | .next=>∃ m,m'=vof m/\N σ m
 | .cont=>∃ m,m'=vof m/\c.C σ m
 | .ret v=>c.R v σ
 | .brk=>False
noncomputable def ExL (c:Cf) (s:Stmt) (σ:Sto) (m:Vs) (N:Sto->Vs->Prop):Prop:=Ex c.P c.n c.fx s σ (vof m) (NQ c N) c.X
noncomputable def ExA (c:Cf) (x:Str) (e:Expr) (p pos:Pos) (σ:Sto) (m:Vs) (N:Sto->Vs->Prop):Prop:=Ex c.P c.n c.fx (.Assign [.Name x p] e pos) σ (vof m) (NQ c N) c.X
noncomputable def Kas (x:Str) (m:Vs) (N:Sto->Vs->Prop) (v:V) (σ:Sto):Prop:=N σ (As8 m x v)
noncomputable def Aga:List Str->List V->Vs->Vs
 | x :: xs,d :: ds,m=>Aga xs ds (As8 m x d)
 | _,_,m=>m
noncomputable def swB:List Str->List V->Vs->(Vs->Prop)->Prop
 | [],[],m,F=>F m
 | x :: xs,d :: ds,m,F=>swB xs ds m fun m'=>F (As8 m' x d)
 | _,_,_,_=>False
noncomputable def Bb0:List Str->List V->Vs->(Vs->Prop)->Prop
 | x :: xs,d :: ds,m,F=>Bb0 xs ds (As8 m x d) F
 | _,_,m,F=>F m
noncomputable def bdV (sc:Scope) (t:Expr) (v:V) (m:Vs):Option Vs:=match t with
 | .Name x _=>(match Auj sc x with | true=>some (As8 m x v) | false=>none)
 | _=>none
noncomputable def Azr (sc:Scope):List Expr->List V->Vs->Option Vs
 | [],[],m=>some m
 | t :: ts,d :: ds,m=>(bdV sc t d m).bind fun m'=>Azr sc ts ds m'
 | _,_,_=>none
noncomputable def bdT (sc:Scope) (t:Expr) (v:V) (m:Vs):Option Vs:=match t with
 | .Tuple ts _ _=>(match v with | .tup ds=>Azr sc ts ds m | _=>none)
 | _=>bdV sc t v m
noncomputable def wBd (c:Cf) (t:Expr) (v:V) (m:Vs) (F:Vs->Prop):Prop:=match bdT c.fx.sc t v m with | some m'=>F m' | none=>False
noncomputable def Kbd (c:Cf) (t:Expr) (m:Vs) (N:Sto->Vs->Prop) (v:V) (σ:Sto):Prop:=wBd c t v m (N σ)
noncomputable def Ksw (names:List Str) (m:Vs) (N:Sto->Vs->Prop) (v:V) (σ:Sto):Prop:=match v with | .tup ds=>swB names ds m (N σ) | _=>False
noncomputable def Ksi (c:Cf) (m:Vs) (N:Sto->Vs->Prop) (v o i:V) (σ:Sto):Prop:=Si c.P c.n o i v σ (fun σ'=>N σ' m)
inductive Sat (dx:Addr) (x:Str) (v:V) (σ:Sto) (m:Vs) (N:Sto->Vs->Prop):Prop
 | mk (as:List (Str × V)) (h:σ dx=some (.attrs as)) (hl:as.lookup x=none) (hn:as.length<=100) (hq:N (σ.put dx (.attrs (as ++ [(x,v)]))) m)
noncomputable def Ksa (x:Str) (m:Vs) (N:Sto->Vs->Prop) (v o:V) (σ:Sto):Prop:=match o with
 | .inst C dx=>(match aOk C x with | true=>Sat dx x v σ m N | false=>False)
 | _=>False
noncomputable def Kex (m:Vs) (N:Sto->Vs->Prop) (v:V) (σ:Sto):Prop:=match v with | .none=>N σ m | _=>False
noncomputable def Kst (F:List Stmt->Sto->Vs->(Sto->Vs->Prop)->Prop) (b o:List Stmt) (m:Vs) (N:Sto->Vs->Prop) (x:Bool) (σ:Sto):Prop:=if x then F b σ m N else F o σ m N
noncomputable def Krs (c:Cf) (v:V) (σ:Sto):Prop:=match v with | .str y=>c.Y y σ | _=>False
noncomputable def LpC (c:Cf) (en:Bool) (t:Expr) (b:List Stmt) (m:Vs) (N:Sto->Vs->Prop) (ds:List V) (σ:Sto):Prop:=Lp c.P c.n c.fx en t b ds σ (vof m) (NQ c N) c.X
noncomputable def Kfo (F:List V->Sto->Prop) (v:V) (σ:Sto):Prop:=match v with | .lst ds=>F ds σ | .tup ds=>F ds σ | _=>False
noncomputable def Kit (c:Cf) (en:Bool) (T:String) (F:List V->Sto->Prop) (vs:List V) (σ:Sto):Prop:=BtI c.P c.n en (.type T) vs σ F
noncomputable def wIt (c:Cf) (it:Expr) (σ:Sto) (m:Vs) (F:Bool->List V->Sto->Prop):Prop:=
 let go:Prop:=wE c it σ m (Kfo (F false))
 match it with
 | .Call (.Name x _) (e :: es) [] _=>(match x == Bf5 "range" || x == Bf5 "enumerate" with
  | true=>(match At6 c.fx.sc x && (e :: es).all notStar with
   | true=>(match x == Bf5 "range" with | true=>wEs (wE c) (e :: es) σ m (Kit c false "range" (F false)) | false=>wEs (wE c) (e :: es) σ m (Kit c true "enumerate" (F true)))
   | false=>False)
  | false=>go)
 | .Set ..=>False
 | _=>go
noncomputable def WlC (c:Cf) (t:Expr) (b:List Stmt) (σ:Sto) (m:Vs) (N:Sto->Vs->Prop):Prop:=Wl c.P c.n c.fx t b σ (vof m) (NQ c N) c.X
noncomputable def Fl (c:Cf) (t:Expr) (b:List Stmt) (m:Vs) (N:Sto->Vs->Prop) (en:Bool) (ds:List V) (σ:Sto):Prop:=LpC c en t b m N ds σ
noncomputable def Ksq (F:List Stmt->Sto->Vs->(Sto->Vs->Prop)->Prop) (r:List Stmt) (N:Sto->Vs->Prop) (σ:Sto) (m:Vs):Prop:=F r σ m N
noncomputable def stA (c:Cf) (t e:Expr) (pos:Pos) (σ:Sto) (m:Vs) (N:Sto->Vs->Prop):Prop:=match t with
 | .Name x p=>(match Auj c.fx.sc x with | true=>(match Aby e with | true=>wE c e σ m (Kas x m N) | false=>ExA c x e p pos σ m N) | false=>False)
 | .Tuple ts k p=>(match Aby e with
  | true=>(match Awz c.fx.sc t e with
   | some (some names)=>(match names.all fun x=>(match c.fx.sc.names.lookup x with | some .local=>true | _=>false) with | true=>wE c e σ m (Ksw names m N) | false=>False)
   | some none=>wE c e σ m (Kbd c t m N)
   | none=>False)
  | false=>False)
 | .Subscript o i _=>(match Aby e with | true=>wEs (wE c) [e,o,i] σ m (K3 (Ksi c m N)) | false=>False)
 | .Attribute o x _=>(match Aby e with | true=>wEs (wE c) [e,o] σ m (K2 (Ksa x m N)) | false=>False)
 | _=>False
noncomputable def wRs (c:Cf) (e:Expr) (pos:Pos) (σ:Sto) (m:Vs) (N:Sto->Vs->Prop):Prop:=match e with
 | .Call (.Name x _) [e] [] _=>(match x == Bf5 "Misused" with
  | true=>(match At6 c.fx.sc x && (notStar e && Nat.ble 2 c.n) with | true=>wE c e σ m (Krs c) | false=>False)
  | false=>False)
 | _=>False
inductive Aft (F:List Stmt->Sto->Vs->(Sto->Vs->Prop)->Prop) (r:List Stmt) (N:Sto->Vs->Prop):Sto->Vs->Prop
 | go {σ:Sto} {m:Vs} (h:F r σ m N):Aft F r N σ m
 | frz {σ:Sto} {m:Vs} (x:Str) {a:Addr} {ds:List V} (hm:vof m x=some (.loc a)) (hx:σ a=some (.list ds)) (h:Aft F r N (σ.del a) (As8 m x (.lst ds))):Aft F r N σ m
 | fgt {σ:Sto} {m:Vs} (σ0:Sto) (μ:Vs) (hs:Sub σ0 σ) (hm:Alj (vof m) μ) (h:Aft F r N σ0 μ):Aft F r N σ m
noncomputable def isNm:Expr->Bool
 | .Name ..=>true | _=>false
noncomputable def Apg:Stmt->Bool
 | .For ..=>true | .While ..=>true | .If t _ _ _=>isNm t | _=>false
inductive Bda (c:Cf) (a:Addr) (ds:List V) (j:Nat) (x:Int) (m:Vs) (N:Sto->Vs->Prop) (v:V) (σ:Sto):Prop
 | mk (y:Int) (e:v=.int y) (h:σ a=some (.list ds)) (hq:N (σ.put a (.list (ds.set j (.int (x + y))))) m)
inductive Bd7 (c:Cf) (e:Expr) (m:Vs) (N:Sto->Vs->Prop) (o i:V) (σ:Sto):Prop
 | mk (a:Addr) (ds:List V) (k:Int) (j:Nat) (x:Int) (ho:o=.loc a) (hi:i=.int k) (h1:σ a=some (.list ds)) (h2:ds[j]?=some (.int x)) (h3:k=(j:Int)) (h4:j < 1000000) (h:wE c e σ m (Bda c a ds j x m N))
noncomputable def stS (c:Cf) (F:List Stmt->Sto->Vs->(Sto->Vs->Prop)->Prop) (s:Stmt) (σ:Sto) (m:Vs) (N:Sto->Vs->Prop):Prop:=match s with
 | .Assign [t] e pos=>stA c t e pos σ m N
 | .Expr e _=>(match Aby e with | true=>wE c e σ m (Kex m N) | false=>False)
 | .Return (some e) _=>wE c e σ m c.R
 | .If t b o _=>wT c t σ m (Kst F b o m N)
 | .Continue _=>c.C σ m
 | .For t it b [] _=>wIt c it σ m (Fl c t b m N)
 | .While t b [] _=>WlC c t b σ m N
 | .Raise (some e) none pos=>wRs c e pos σ m N
 | .AugAssign (.Subscript o (.Name i ip) _) .Add e _=>wEs (wE c) [o,.Name i ip] σ m (K2 (Bd7 c e m N))
 | s=>ExL c s σ m N
noncomputable def stB (c:Cf) (F:List Stmt->Sto->Vs->(Sto->Vs->Prop)->Prop) (l:List Stmt) (σ:Sto) (m:Vs) (N:Sto->Vs->Prop):Prop:=match l with
 | []=>N σ m
 | s :: r=>match Apg s with | true=>stS c F s σ m (Aft F r N) | false=>stS c F s σ m (Ksq F r N)
noncomputable def wB0 (c:Cf) (l:List Stmt) (σ:Sto) (m:Vs) (N:Sto->Vs->Prop):Prop:=Exs c.P c.n c.fx l σ (vof m) (NQ c N) c.X
noncomputable def wB (c:Cf):Nat->List Stmt->Sto->Vs->(Sto->Vs->Prop)->Prop
 | 0=>wB0 c
 | k + 1=>stB c (wB c k)
section
variable {c:Cf} {σ:Sto} {m:Vs}
theorem Aub {n t v m' Q X} (h:bdV c.fx.sc t v m=some m') (hQ:Q σ (vof m')):Bd c.P n c.fx t v σ (vof m) Q X/\∀ ts env,Ca4 (t :: ts) env=(false,assign t env) :: Ca4 ts env:=by
 cases t with
 | Name x p=>
  unfold bdV at h
  dsimp only at h
  cases hs:Auj c.fx.sc x with
  | false=>rw [hs] at h; cases h
  | true=>
   rw [hs] at h
   cases h
   exact ⟨Awt (Am6 hs) (by rw [<- Ada]; exact hQ),fun _ _=>rfl⟩
 | _=>cases h
theorem Aw8 {n m' Q X ts ds m} (h:Azr c.fx.sc ts ds m=some m') (hQ:Q σ (vof m')):Bds c.P n c.fx ts ds σ (vof m) Q X/\ts.length=ds.length/\(∀ env,(Ca4 ts env).length=ts.length)/\∀ env,(Ca4 ts env).findIdx? (·.1)=none:=by
 induction ts generalizing ds m with
 | nil=>
  cases ds with
  | nil=>cases h; exact ⟨Awa hQ,rfl,fun _=>rfl,fun _=>rfl⟩
  | cons _ _=>cases h
 | cons t ts ih=>
  cases ds with
  | nil=>cases h
  | cons d ds=>
   obtain ⟨m1,hb,h⟩:=Bx6.mp h
   obtain ⟨h1,h2,h3,h4⟩:=ih h
   have hh:=Aub (σ:=σ) (n:=n) (X:=X) (Q:=fun σ' μ=>Bds c.P n c.fx ts ds σ' μ Q X) hb h1
   refine ⟨Atb hh.1 (hh.2 ts),congrArg (· + 1) h2,fun env=>?_,fun env=>?_⟩
   · rw [hh.2]; exact congrArg (· + 1) (h3 env)
   · rw [hh.2,List.findIdx?_cons,h4]; rfl
theorem Ahy {n t v F Q X} (h:wBd c t v m F) (hQ:∀ m',F m'->Q σ (vof m')):Bd c.P n c.fx t v σ (vof m) Q X:=by
 unfold wBd at h
 cases hb:bdT c.fx.sc t v m with
 | none=>rw [hb] at h; exact h.elim
 | some m'=>
  rw [hb] at h
  have hq:=hQ _ h
  cases t with
  | Tuple ts k p=>
   cases v with
   | tup ds=>
    obtain ⟨h1,h2,h3,h4⟩:=Aw8 (n:=n) (X:=X) hb hq
    exact Atz h1 h2 h3 h4
   | _=>cases hb
  | Name x p=>exact (Aub (c:=c) (t:=.Name x p) (v:=v) (m:=m) hb hq).1
  | _=>exact nomatch (show (none:Option Vs)=some m' from hb)
theorem Ava {P n o i v Q Q'} (h:Si P n o i v σ Q) (hq:∀ σ,Q σ->Q' σ):Si P n o i v σ Q':=
 fun A st B g env m s o i x hr h1 h2 h3 hm=>Bf3 (h A st B g env m s o i x hr h1 h2 h3 hm) (fun _ _ q=>q.mono (A2 _) fun _ _ x=>⟨x.1,hq _ x.2⟩) fun _ _ q=>q
theorem Ax1 {P n fx μ X o name p' pos e Q}
  (h:Ev P n fx e σ μ (fun v σ1=>Ev P n fx o σ1 μ (fun c σ2=>∃ C dx as,ckS P (C,name)=true/\c=.inst C dx/\σ2 dx=some (.attrs as)/\as.lookup name=none/\as.length<=100/\Q .next (σ2.put dx (.attrs (as ++ [(name,v)]))) μ) X) X)
  (hsw:∀ env,Cc9 e (some (.Attribute o name p')) pos.line env=pure false):Ex P n fx (.Assign [.Attribute o name p'] e pos) σ μ Q X:=
 fun A st B g env s he hr hm=>Ca3 (Bf3 (h A st B g env s he hr hm) (fun v s1 qA=>by
  obtain ⟨g1,σ1,m1,d,hg1,hr1,hv1,hm1,hq1⟩:=qA
  subst hm1
  refine Bf3 (hq1 A st B g1 env s1 he hr1 hm) (fun ov s2 qM=>?_) fun _ _ q=>q.mono hg1 fun _ _ _ x=>x
  obtain ⟨g2,σ2,m2,c,hg2,hr2,hv2,hm2,C,dx,as,ck,e1,e2,e3,e4,hq2⟩:=qM
  subst hm2; subst e1
  unfold ckS at ck
  rw [Bg1,Bg1,Bg1,decide_eq_true_eq,decide_eq_true_eq] at ck
  obtain ⟨⟨⟨hs,hp⟩,ht⟩,hh⟩:=ck
  obtain ⟨a,dx',od,es,k,rfl,q1,q2,q3,q4,I⟩:=Io.at hr2.toRepC (.inst e2) hv2
  obtain rfl:dx'=dx:=by
   cases hv2 with
   | inst w=>rw [q1] at w; cases (w); rfl
  obtain ⟨x1,x2,o',x3,x4,x5,x6,es',n',x7,x8⟩:=hr2.sto _ _ e2
  rw [q2] at x3; cases x3
  rw [q3] at x7; cases x7
  have kin:P.K.In s2.heap:=hr2.pc.kin.keeps hr2.fz
  obtain ⟨cd,hc,hd⟩:=any_some hh
  have hl:=q4.look name
  rw [e3] at hl
  have hi:es.findIdx? (·.key.isStr name)=none:=by
   rw [Array.findIdx?_eq_none_iff]
   intro y hy
   have:=By3.mp hl y (by simpa using hy)
   simpa using this
  have hn:es.any (·.refKey)=false:=by rw [<- Ce3]; exact q4.noRef
  have hsz:es.size<=1000:=by
   have:∀ {l:List DictEntry} {as:List (Str × V)},ARs g2 l as->l.length=as.length:=by
    intro l as h
    induction as generalizing l with
    | nil=>cases h; rfl
    | cons x r ih=>cases h with | cons _ _ t=>simp [ih t]
   have:=this q4
   rw [Bg5] at this; rw [this]; exact Be8 e4 (by decide)
  refine set_plain kin I hs (osa_open (s:={ s2 with toks:=s2.toks + 1 }) (od:=some od) kin ⟨I.at_,I.cls,I.no,I.dict⟩ hp ht fun b=>?_)
  refine Ai4 (s:={ s2 with toks:=s2.toks + 1 }) kin I.at_ rfl rfl hc hd q2 q3 hn hi hsz fun hash=>?_
  have ho2:=Bk4 (Bp9 name hash (.str name (s2.toks + 1)) v) q2 (by rw [Aaq q3 hi]; rfl)
  rw [Aaq q3 hi] at ho2
  have R3:=hr2.upd (x':=.attrs (as ++ [(name,d)])) e2 (Abz (Bp9 name hash (.str name (s2.toks + 1)) v)) ho2 ⟨x4,x5,x6,_,_,rfl,by
   rw [Array.toList_push]
   have:∀ {l:List DictEntry} {as:List (Str × V)} {e:DictEntry} {t:Tok},ARs g2 l as->e.key=.str name t->VR g2 e.val d->ARs g2 (l ++ [e]) (as ++ [(name,d)]):=by
    intro l as e t h k1 k2
    induction as generalizing l with
    | nil=>cases h; exact .cons k1 k2 .nil
    | cons x r ih=>cases h with | cons w1 w2 w3=>exact .cons w1 w2 (ih w3)
   exact this q4 rfl (hv1.mono hg2)⟩ (s2.toks + 1 + 1)
  exact ⟨g2,_,m2,.next,A3 hg1 hg2,R3,.next,hq2⟩) fun _ _ q=>q) (hsw env)
theorem Aqt {n w fx μ X np cpos pos e Q} (h2:2<=n) (hk:fx.sc.names.lookup (Bf5 "Misused")=some .globalImplicit)
  (h:Ev (PM w) n fx e σ μ (fun v σ'=>∃ why,v=.str why/\X why σ' μ) X) (ha:notStar e=true):Ex (PM w) n fx (.Raise (some (.Call (.Name (Bf5 "Misused") np) [e] [] cpos)) none pos) σ μ Q X:=by
 obtain ⟨k,rfl⟩:=Nat.exists_eq_add_of_le' h2
 exact Ash hk h (Ab2 ha)
theorem An8 {P n fx en e μ X Q Q'} (h:Itr P n fx en e σ μ Q X) (hq:∀ v σ,Q v σ->Q' v σ):Itr P n fx en e σ μ Q' X:=
 fun A st B g env s he hr hm=>Bf3 (h A st B g env s he hr hm) (fun x s1 h1=>Bf3 h1 (fun v s2 qC=>by obtain ⟨g',σ',ds,it,a1,a2,a3,a4,a5⟩:=qC; exact ⟨g',σ',ds,it,a1,a2,a3,a4,hq _ _ a5⟩) fun _ _ q=>q) fun _ _ q=>q
theorem Atc {e F} (h:Ev c.P c.n c.fx e σ (vof m) (Kfo F) c.X):Itr c.P c.n c.fx false e σ (vof m) F c.X:=
 fun A st B g env s he hr hm=>Bf3 (h A st B g env s he hr hm) (fun v s1 qD=>by
  obtain ⟨g1,σ1,m1,d,hg1,hr1,hv1,hm1,hq⟩:=qD
  subst hm1
  have n1:=Aa2 hr1.fz (Ak _)
  have n2:=Aa0 hr1.keeps (Ak _)
  cases d with
  | lst ds=>
   obtain ⟨l,items,rfl,hli,hi⟩:=hv1.Atw
   exact wpAny_pyIter_list (IsList.stays hli hr1.fz) ⟨g1,σ1,ds,s1.heap.objs.size,hg1,hr1.stays (Aa3 _ _) s1.toks,rfl,.list (i:=0) (all:=ds) ⟨_,Bi4 _ rfl,rfl,rfl⟩ hli hi n1 n2,hq⟩
  | tup ds=>
   obtain ⟨l,items,rfl,hli,hi⟩:=hv1.isTup
   exact wpAny_pyIter_tuple (IsTuple.stays hli hr1.fz) ⟨g1,σ1,ds,s1.heap.objs.size,hg1,hr1.stays (Aa3 _ _) s1.toks,rfl,.tup (i:=0) (all:=ds) ⟨_,Bi4 _ rfl,rfl,rfl⟩ hli hi n1 n2,hq⟩
  | _=>exact hq.elim) fun _ _ q=>q
theorem Bb3 {x T} (h:At6 c.fx.sc x=true) (hx:Axi.lookup x=some (.type T)):c.fx.sc.names.lookup x=some .globalImplicit/\nsIn c.P.K Bl4 x=some none/\Bs9 x=some (.type T)/\x≠Bf5 "__name__"/\(x == Bf5 "__debug__")=false:=by
 have ck:=Amt hx c.w
 unfold ckG at ck
 rw [Bg1,Bm8] at ck
 obtain ⟨kd,ck⟩:=ck
 rw [Bg1,Bg1,decide_eq_true_eq,decide_eq_true_eq,Bm8,beq_eq_false_iff_ne] at ck
 exact ⟨Alc h,ck.1.1,ck.1.2,ck.2,kd⟩
theorem Ap6 {en x np pos e es T F} (hg:(At6 c.fx.sc x && (e :: es).all notStar)=true) (hx:Axi.lookup x=some (.type T)) (h:wEs (wE c) (e :: es) σ m (Kit c en T F)) :
  Itr c.P c.n c.fx en (.Call (.Name x np) (e :: es) [] pos) σ (vof m) F c.X:=by
 rw [Bg1] at hg
 have h2:=hg.2
 rw [Bw0,Bg1] at h2
 obtain ⟨a1,a2,a3,a4,a5⟩:=Bb3 hg.1 hx
 exact Avq T a1 a2 a3 a4 a5 (Ab2 h2.1) (fun env=>Adw h2.2) (Aef (Ace c 40).1 _ _ _ _ _ h)
theorem Ak0 {it F} (h:wIt c it σ m F):(∃ en,Itr c.P c.n c.fx en it σ (vof m) (F en) c.X)/\∀ env x,Bo7 it env x=pure x:=by
 have go:wE c it σ m (Kfo (F false))->∃ en,Itr c.P c.n c.fx en it σ (vof m) (F en) c.X:=fun h=>⟨false,Atc ((Ace c 40).1 _ _ _ _ h)⟩
 cases it with
 | Call f es ks p=>
  refine ⟨?_,fun _ _=>rfl⟩
  cases f with
  | Name x np=>
   cases es with
   | nil=>exact go h
   | cons e es=>
    cases ks with
    | cons _ _=>exact go h
    | nil=>
     unfold wIt at h
     dsimp only at h
     cases h1:(x == Bf5 "range" || x == Bf5 "enumerate") with
     | false=>rw [h1] at h; exact go h
     | true=>
      rw [h1] at h
      dsimp only at h
      cases h2:(At6 c.fx.sc x && (e :: es).all notStar) with
      | false=>rw [h2] at h; exact h.elim
      | true=>
       rw [h2] at h
       dsimp only at h
       cases h3:x == Bf5 "range" with
       | true=>rw [h3] at h; obtain rfl:=eq_of_beq h3; exact ⟨false,Ap6 h2 rfl h⟩
       | false=>
        rw [h3] at h h1
        obtain rfl:=eq_of_beq (a:=x) (by simpa using h1)
        exact ⟨true,Ap6 h2 rfl h⟩
  | _=>exact go h
 | Set _ _=>exact h.elim
 | _=>exact ⟨go h,fun _ _=>rfl⟩
theorem Af7:∀ (xs:List Str) (ds:List V) (m:Vs),putAll (xs.zip ds) (vof m)=vof (Aga xs ds m)
 | [],_,_=>rfl
 | _ :: _,[],_=>rfl
 | x :: xs,d :: ds,m=>by
  show putAll (xs.zip ds) ((vof m).put x d)=vof (Aga xs ds (As8 m x d))
  rw [<- Ada]; exact Af7 xs ds _
theorem Agn {x:Str} {d:V}:∀ {xs:List Str} {ds:List V} {m:Vs},ds.length=xs.length->Aga (xs ++ [x]) (ds ++ [d]) m=As8 (Aga xs ds m) x d
 | [],[],_,_=>rfl
 | _ :: xs,_ :: ds,_,h=>Agn (xs:=xs) (ds:=ds) (Ca9 h)
theorem Auf:∀ {xs:List Str} {ds:List V} {m:Vs} {F:Vs->Prop},swB xs ds m F->ds.length=xs.length/\F (Aga xs.reverse ds.reverse m)
 | [],[],_,_,h=>⟨rfl,h⟩
 | x :: xs,d :: ds,m,F,h=>by
  have q:=Auf (xs:=xs) (ds:=ds) h
  rw [Cd4,Cd4,Agn (by rw [Ci4,Ci4]; exact q.1)]
  exact ⟨congrArg _ q.1,q.2⟩
theorem Arl:∀ {xs:List Str} {ds:List V} {m:Vs} {F:Vs->Prop},Bb0 xs ds m F->F (Aga xs ds m)
 | _ :: xs,_ :: ds,_,_,h=>Arl (xs:=xs) (ds:=ds) h
 | [],_,_,_,h=>h
 | _ :: _,[],_,_,h=>h
theorem Ayd {t e pos N} (h:stA c t e pos σ m N) (hfn:c.fx.sc.kind=.function):Ex c.P c.n c.fx (.Assign [t] e pos) σ (vof m) (NQ c N) c.X:=by
 have hE:=(Ace c 40).1
 cases t with
 | Name x p=>
  unfold stA at h
  dsimp only at h
  cases h1:Auj c.fx.sc x with
  | false=>rw [h1] at h; exact h.elim
  | true=>
   rw [h1] at h
   dsimp only at h
   cases h2:Aby e with
   | false=>rw [h2] at h; exact h
   | true=>rw [h2] at h; exact Ap2 (Am6 h1) (Ag (hE _ _ _ _ h) fun v σ' q=>⟨_,(Ada ..).symm,q⟩) (Agv h2 _ _)
 | Tuple ts k p=>
  unfold stA at h
  dsimp only at h
  cases h2:Aby e with
  | false=>rw [h2] at h; exact h.elim
  | true=>
   rw [h2] at h
   dsimp only at h
   have Azc:∀ env,env.scope=c.fx.sc->swapsWithSole [.Tuple ts k p] e pos.line env=pure false:=fun env _=>Agv h2 (some (.Tuple ts k p)) pos.line env
   cases h3:Awz c.fx.sc (.Tuple ts k p) e with
   | none=>rw [h3] at h; exact h.elim
   | some r=>
    rw [h3] at h
    cases r with
    | none=>exact Axv (Ag (hE _ _ _ _ h) fun v σ' q=>Ahy q fun m' q=>⟨_,rfl,q⟩) Azc fun env he=>Amr h3 he
    | some names=>
     dsimp only at h
     cases h4:(names.all fun x=>(match c.fx.sc.names.lookup x with | some .local=>true | _=>false)) with
     | false=>rw [h4] at h; exact h.elim
     | true=>
      rw [h4] at h
      refine Awk (names:=names) (Ag (hE _ _ _ _ h) fun v σ' q=>?_) (fun x hx=>?_) Azc fun env he=>Amr h3 he
      · cases v with
        | tup ds=>
         have q:=Auf q
         exact ⟨ds,rfl,q.1,_,Af7 ..,q.2⟩
        | _=>exact q.elim
      · have:=Bj8.mp h4 x hx
        revert this
        cases c.fx.sc.names.lookup x with
        | none=>intro q; cases q
        | some k=>cases k <;> intro q <;> first | rfl | cases q
 | Subscript o i p=>
  unfold stA at h
  dsimp only at h
  cases h2:Aby e with
  | false=>rw [h2] at h; exact h.elim
  | true=>
   rw [h2] at h
   exact Ao3 (Ag (w3 hE h) fun v σ1 q=>Ag q fun o σ2 q=>Ag q fun i σ3 q=>Ava q fun σ' q=>⟨_,rfl,q⟩) (Agv h2 _ _)
 | Attribute o x p=>
  unfold stA at h
  dsimp only at h
  cases h2:Aby e with
  | false=>rw [h2] at h; exact h.elim
  | true=>
   rw [h2] at h
   refine Ax1 (Ag (w2 hE h) fun v σ1 q=>Ag q fun o σ2 q=>?_) (Agv h2 _ _)
   cases o with
   | inst C dx=>
    have q:(match aOk C x with | true=>Sat dx x v σ2 m N | false=>False):=q
    cases ha:aOk C x with
    | false=>rw [ha] at q; exact q.elim
    | true=>
     rw [ha] at q
     cases q with | mk as h1 h3 h4 h5=>exact ⟨C,dx,as,(Aqq ha _).2,rfl,h1,h3,h4,_,rfl,h5⟩
   | _=>exact q.elim
 | _=>exact h.elim
theorem Aum {F} (hF:∀ l σ m N,F l σ m N->Exs c.P c.n c.fx l σ (vof m) (NQ c N) c.X) (hfn:c.fx.sc.kind=.function) {s N} (h:stS c F s σ m N):Ex c.P c.n c.fx s σ (vof m) (NQ c N) c.X:=by
 have hE:=(Ace c 40).1
 have hT:=(Ace c 40).2
 cases s with
 | Assign ts e pos=>
  cases ts with
  | nil=>exact h
  | cons t ts=>
   cases ts with
   | nil=>exact Ayd h hfn
   | cons _ _=>exact h
 | Expr e pos=>
  unfold stS at h
  dsimp only at h
  cases h2:Aby e with
  | false=>rw [h2] at h; exact h.elim
  | true=>
   rw [h2] at h
   refine Apu (Ag (hE _ _ _ _ h) fun v σ' q=>?_) (Agv h2 _ _)
   cases v with
   | none=>exact ⟨rfl,_,rfl,q⟩
   | _=>exact q.elim
 | Return e pos=>
  cases e with
  | none=>exact h
  | some e=>exact Ap8 (Ag (hE _ _ _ _ h) fun v σ' q=>q)
 | If t b o pos=>
  refine Bb2 (Afa (hT _ _ _ _ h) fun x σ' q=>?_)
  cases x with
  | true=>exact hF _ _ _ _ q
  | false=>exact hF _ _ _ _ q
 | Continue pos=>exact Alr ⟨_,rfl,h⟩
 | For t it b o pos=>
  cases o with
  | cons _ _=>exact h
  | nil=>
   have hh:=Ak0 h
   obtain ⟨en,hi⟩:=hh.1
   exact Aye hi hh.2
 | While t b o pos=>
  cases o with
  | cons _ _=>exact h
  | nil=>exact Asz h
 | AugAssign t op e pos=>
  cases t with
  | Subscript o i q=>
   cases i with
   | Name x p=>
    cases op with
    | Add=>
     exact Anp (Ag (w2 hE h) fun v σ1 q=>Ag q fun u σ2 q=>by
      cases q with
      | mk a ds k j x ho hi h1 h2 h3 h4 h=>exact ⟨a,ds,k,j,x,ho,hi,h1,h2,h3,h4,Ag (hE _ _ _ _ h) fun v σ' q=>by
        cases q with | mk y e h hq=>exact ⟨y,e,h,_,rfl,hq⟩⟩) fun _ _ _=>rfl
    | _=>exact h
   | _=>exact h
  | _=>exact h
 | Raise e o pos=>
  cases e with
  | none=>exact h
  | some e=>
   cases o with
   | some _=>exact h
   | none=>
    cases e with
    | Call f es ks p=>
     cases f with
     | Name x np=>
      cases es with
      | nil=>exact h.elim
      | cons e es=>
       cases es with
       | cons _ _=>exact h.elim
       | nil=>
        cases ks with
        | cons _ _=>exact h.elim
        | nil=>
         unfold stS wRs at h
         dsimp only at h
         cases h1:x == Bf5 "Misused" with
         | false=>rw [h1] at h; exact h.elim
         | true=>
          rw [h1] at h
          obtain rfl:=eq_of_beq h1
          dsimp only at h
          cases h2:(At6 c.fx.sc (Bf5 "Misused") && (notStar e && Nat.ble 2 c.n)) with
          | false=>rw [h2] at h; exact h.elim
          | true=>
           rw [h2] at h
           rw [Bg1,Bg1] at h2
           refine Aqt (Bh8 h2.2.2) (Alc h2.1) (Ag (hE _ _ _ _ h) fun v σ' q=>?_) h2.2.1
           cases v with
           | str y=>exact ⟨y,rfl,q⟩
           | _=>exact q.elim
     | _=>exact h.elim
    | _=>exact h.elim
 | _=>exact h
theorem Azh {F r N} (hF:∀ l σ m N,F l σ m N->Exs c.P c.n c.fx l σ (vof m) (NQ c N) c.X) {σ m} (h:Aft F r N σ m):Exs c.P c.n c.fx r σ (vof m) (NQ c N) c.X:=by
 induction h with
 | go h=>exact hF _ _ _ _ h
 | frz x hm hx h ih=>rw [Ada] at ih; exact Ax3 x hm hx ih
 | fgt σ0 μ hs hm h ih=>exact Av6 hs (Atu (Ad7 hm) ih)
theorem Aon (hfn:c.fx.sc.kind=.function):∀ k l σ m N,wB c k l σ m N->Exs c.P c.n c.fx l σ (vof m) (NQ c N) c.X
 | 0,l,σ,m,N,h=>h
 | k + 1,[],σ,m,N,h=>Ax0 ⟨_,rfl,h⟩
 | k + 1,s :: r,σ,m,N,h=>by
  have h:(match Apg s with | true=>stS c (wB c k) s σ m (Aft (wB c k) r N) | false=>stS c (wB c k) s σ m (Ksq (wB c k) r N)):=h
  cases hs:Apg s with
  | true=>
   rw [hs] at h
   exact Aj7 (JS.mono (Aum (Aon hfn k) hfn h) (fun f σ' m' q=>by
    cases f with
    | next=>obtain ⟨m1,rfl,q⟩:=q; exact Azh (Aon hfn k) q
    | _=>exact q) fun _ _ _ q=>q)
  | false=>
   rw [hs] at h
   exact Aj7 (JS.mono (Aum (Aon hfn k) hfn h) (fun f σ' m' q=>by
    cases f with
    | next=>obtain ⟨m1,rfl,q⟩:=q; exact Aon hfn k _ _ _ _ q
    | _=>exact q) fun _ _ _ q=>q)
end
theorem Aog {P n fx σ m X x p' pos e Q} (hk:fx.sc.names.lookup x=some .local∨fx.sc.names.lookup x=some .cell) (h:Ev P n fx e σ m (fun v σ'=>Q .next σ' (m.put x v)) X)
  (hs:∀ env,env.scope=fx.sc->Cc9 e (some (.Name x p')) pos.line env=pure false):Ex P n fx (.Assign [.Name x p'] e pos) σ m Q X:=
 fun A st B g env s he hr hm=>wpAny_Assign_Name (Bf3 (h A st B g env s he hr hm) (fun v s' qA=>by
  obtain ⟨g',σ',m',b,hg,hr',hv,hm',hq⟩:=qA
  subst hm'
  exact Aui he hr' hk hv fun h' tk R' _ _=>⟨g',σ',_,.next,hg,R',.next,hq⟩) fun _ _ q=>q) (hs env he.sc)
theorem Az9 {α:Type} {C:List α->Prop} {n:Nat} (h:∀ a l,l.length=n->C (a :: l)) (l:List α) (e:l.length=n + 1):C l:=by
 cases l with
 | nil=>cases e
 | cons a l=>exact h a l (Ca9 e)
theorem len0 {α:Type} {C:List α->Prop} (h:C []) (l:List α) (e:l.length=0):C l:=by
 cases l with
 | nil=>exact h
 | cons a l=>cases e
theorem Aov {α:Type} {C:List α->Prop} (h:∀ a,C [a]):∀ l:List α,l.length=1->C l:=Az9 fun a=>len0 (C:=fun l=>C (a :: l)) (h a)
theorem Ang {α:Type} {C:List α->Prop} (h:∀ a b,C [a,b]):∀ l:List α,l.length=2->C l:=Az9 fun a=>Aov (C:=fun l=>C (a :: l)) (h a)
theorem Ajq {α:Type} {C:List α->Prop} (h:∀ a b c,C [a,b,c]):∀ l:List α,l.length=3->C l:=Az9 fun a=>Ang (C:=fun l=>C (a :: l)) (h a)
theorem Aqc {α:Type} {C:List α->Prop} (h:∀ a b c d,C [a,b,c,d]):∀ l:List α,l.length=4->C l:=Az9 fun a=>Ajq (C:=fun l=>C (a :: l)) (h a)
theorem Bac {α:Type} {C:List α->Prop} (h:∀ a b c d e,C [a,b,c,d,e]):∀ l:List α,l.length=5->C l:=Az9 fun a=>Aqc (C:=fun l=>C (a :: l)) (h a)
noncomputable def noN (_:Sto) (_:Vs):Prop:=False
noncomputable def Bcu (R:V->Sto->Prop) (σ:Sto) (_:Vs):Prop:=R .none σ
noncomputable def fOk (P:Pm) (f:FuncData) (k:Nat):Bool:=f.globals == Bl4 && f.closure.isEmpty && f.builtins == Cf9 && codeIn P.K f.code f.qualname && Azx f.scope (f.params.args.map (·.arg)) && Nat.beq f.params.args.length k
theorem B8 {w n a f body vs σ Q Y} (hf:Bc6 (PM w).K a=some f) (hb:f.body=.stmts body)
  (hbi:∀ vals:List Value,vals.length=f.params.args.length->bindArgs f ⟨vals,[]⟩=pure ((f.params.args.map (·.arg)).zip vals)) (ok:fOk (PM w) f vs.length=true)
  (h:∀ (R':V->Sto->Prop) (Y':Str->Sto->Prop),(∀ {v σ'},Q v σ'->R' v σ')->(∀ {y σ'},Y y σ'->Y' y σ')->(∀ {v σ' σ''},Sub σ'' σ'->Q v σ''->R' v σ')->(∀ {y σ' σ''},Sub σ'' σ'->Y y σ''->Y' y σ') ->
   Bb0 (f.params.args.map (·.arg)) vs [] fun m=>wB ⟨w,n,⟨f.scope,false⟩,Y',R',noN⟩ 60 body σ m (Bcu R')):Fn (PM w) (n + 1) (.ref a) vs σ Q Y:=by
 unfold fOk at ok
 simp only [Bg1,List.isEmpty_iff] at ok
 obtain ⟨⟨⟨⟨⟨k1,k2⟩,k3⟩,k4⟩,k5⟩,k6⟩:=ok
 refine Azb (Bbe hf hb (eq_of_beq k1) k2 (eq_of_beq k3) k4 hbi k5 (Nat.eq_of_beq_eq_true k6) ?_)
 have hk:f.scope.kind=.function:=by
  unfold Azx at k5
  simp only [Bg1] at k5
  exact eq_of_beq k5.1.1.1.1.1
 have:=Aon (c:=⟨w,n,⟨f.scope,false⟩,fun y σ'=>∃ σ'',Sub σ'' σ'/\Y y σ'',fun v σ'=>∃ σ'',Sub σ'' σ'/\Q v σ'',noN⟩) hk _ _ _ _ _ (Arl (h _ _ (fun q=>⟨_,Sub.refl _,q⟩) (fun q=>⟨_,Sub.refl _,q⟩) (fun h q=>⟨_,h,q⟩) fun h q=>⟨_,h,q⟩))
 rw [<- Af7] at this
 refine JS.mono this (fun fl σ' m' q=>?_) fun _ _ _ q=>q
 induction fl using Flw.casesOn with
 | next=>obtain ⟨m1,_,q⟩:=q; exact q
 | cont=>obtain ⟨m1,_,q⟩:=q; exact q.elim
 | ret v=>exact q
 | brk=>exact q.elim
noncomputable def goT (t:Expr) (en:Bool):Bool:=match t with | .Tuple ..=>true | .Name ..=>!en | _=>false
theorem Aij {t en} (h:goT t en=true):(∃ elts k pos,t=.Tuple elts k pos)∨((∀ it v,Bl5 t it v=pure ())/\en=false):=by
 cases t with
 | Tuple a b d=>exact .inl ⟨_,_,_,rfl⟩
 | Name x p=>exact .inr ⟨fun _ _=>rfl,by cases en; rfl; cases h⟩
 | _=>cases h
section
variable {c:Cf} {σ:Sto} {m:Vs} {N:Sto->Vs->Prop}
theorem Aul {K k l} (hfn:c.fx.sc.kind=.function) (h:wB (c.setC K) k l σ m K):Exs c.P c.n c.fx l σ (vof m) (NQ (c.setC K) K) c.X:=Aon (c:=c.setC K) hfn _ _ _ _ _ h
theorem Axc {en t b} {α:Type} (τ:α->Sto) (μ:α->Vs) (I:List V->α->Prop) (ds:List V) (a0:α) (hgo:(goT t en && !c.fx.comp && c.fx.sc.kind == .function)=true) (h0:I ds a0) (hs:Sub (τ a0) σ) (hm:Alj (vof m) (μ a0))
  (Aj0:∀ a,I [] a->N (τ a) (μ a))
  (Ax:∀ d r a K,(∀ a' σ' m',I r a'->Sub (τ a') σ'->Alj (vof m') (μ a')->K σ' m')->I (d :: r) a->wBd c t d (μ a) fun m1=>wB (c.setC K) 60 b (τ a) m1 K) :
  Fl c t b m N en ds σ:=by
 rw [Bg1,Bg1,Bm8] at hgo
 refine Aya (α:=α) τ (fun a=>vof (μ a)) I a0 hgo.1.2 (Aij hgo.1.1) h0 hs (Ad7 hm) (fun a h=>⟨_,rfl,Aj0 a h⟩) ?_
 intro d r a h
 refine Ahy (Ax d r a (fun σ' m'=>∃ a',I r a'/\Sub (τ a') σ'/\Alj (vof m') (μ a')) (fun a' σ' m' h1 h2 h3=>⟨a',h1,h2,h3⟩) h) fun m1 q=>?_
 refine JS.mono (Aul (eq_of_beq hgo.2) q) (fun fl σ' m' q=>?_) fun _ _ _ q=>q
 induction fl using Flw.casesOn with
 | next=>obtain ⟨_,rfl,a',h1,h2,h3⟩:=q; exact ⟨a',h1,h2,Ad7 h3⟩
 | cont=>obtain ⟨_,rfl,a',h1,h2,h3⟩:=q; exact ⟨a',h1,h2,Ad7 h3⟩
 | ret v=>exact q
 | brk=>exact q.elim
theorem Ajw {en t b} {α β:Type} (f:β->V) (τ:α->Sto) (μ:α->Vs) (I:List β->α->Prop) (l:List β) (a0:α) (hgo:(goT t en && !c.fx.comp && c.fx.sc.kind == .function)=true) (h0:I l a0) (hs:Sub (τ a0) σ) (hm:Alj (vof m) (μ a0))
   (Aj0:∀ a,I [] a->N (τ a) (μ a))
   (Ax:∀ d r a K,(∀ a' σ' m',I r a'->Sub (τ a') σ'->Alj (vof m') (μ a')->K σ' m')->I (d :: r) a->wBd c t (f d) (μ a) fun m1=>wB (c.setC K) 60 b (τ a) m1 K) :
   Fl c t b m N en (l.map f) σ:=by
 refine Axc τ μ (fun ds a=>∃ l,ds=l.map f/\I l a) _ a0 hgo ⟨l,rfl,h0⟩ hs hm ?_ ?_
 · rintro a ⟨l,e,h⟩
   cases l with
   | nil=>exact Aj0 a h
   | cons=>cases e
 · rintro d r a K hK ⟨l,e,h⟩
   cases l with
   | nil=>cases e
   | cons x l=>cases e; exact Ax x l a K (fun a' σ' m' h1=>hK a' σ' m' ⟨l,rfl,h1⟩) h
theorem Ajx {t b} {α:Type} {u k} (τ:α->Sto) (μ:α->Vs) (I:Nat->α->Prop) (a0:α) (hgo:(goT t false && !c.fx.comp && c.fx.sc.kind == .function)=true) (h0:I u a0) (hs:Sub (τ a0) σ) (hm:Alj (vof m) (μ a0))
   (Aj0:∀ a,I (u + k) a->N (τ a) (μ a))
   (Ax:∀ (i:Nat) a K,i < u + k->(∀ a' σ' m',I (i + 1) a'->Sub (τ a') σ'->Alj (vof m') (μ a')->K σ' m')->I i a->wBd c t (.int i) (μ a) fun m1=>wB (c.setC K) 60 b (τ a) m1 K) :
   Fl c t b m N false (Ai0 u k) σ:=by
 refine Axc τ μ (fun ds a=>∃ i j:Nat,i + j=u + k/\ds=Ai0 i j/\I i a) _ a0 hgo ⟨u,k,rfl,rfl,h0⟩ hs hm ?_ ?_
 · rintro a ⟨i,j,e,e2,h⟩
   cases j with
   | zero=>exact Aj0 a (e ▸ h)
   | succ j=>cases e2
 · rintro d r a K hK ⟨i,j,e,e2,h⟩
   cases j with
   | zero=>cases e2
   | succ j=>
    injection e2 with e2 e3
    subst e2 e3
    exact Ax i a K (e ▸ By5 (Bq1 j)) (fun a' σ' m' h1=>hK a' σ' m' ⟨i + 1,j,(Bh4 i 1 j).trans e,rfl,h1⟩) h
theorem Aoh {t b} {α β:Type} {k0} (f:β->V) (τ:α->Sto) (μ:α->Vs) (I:Nat->List β->α->Prop) (l:List β) (a0:α) (hgo:(goT t true && !c.fx.comp && c.fx.sc.kind == .function)=true) (h0:I k0 l a0) (hs:Sub (τ a0) σ) (hm:Alj (vof m) (μ a0))
   (Aj0:∀ k a,I k [] a->N (τ a) (μ a))
   (Ax:∀ k d r a K,(∀ a' σ' m',I (k + 1) r a'->Sub (τ a') σ'->Alj (vof m') (μ a')->K σ' m')->I k (d :: r) a->wBd c t (.tup [.int k,f d]) (μ a) fun m1=>wB (c.setC K) 60 b (τ a) m1 K) :
   Fl c t b m N true (Ahj k0 (l.map f)) σ:=by
 refine Axc τ μ (fun ds a=>∃ k l,ds=Ahj k (l.map f)/\I k l a) _ a0 hgo ⟨k0,l,rfl,h0⟩ hs hm ?_ ?_
 · rintro a ⟨k,l,e,h⟩
   cases l with
   | nil=>exact Aj0 k a h
   | cons=>cases e
 · rintro d r a K hK ⟨k,l,e,h⟩
   cases l with
   | nil=>cases e
   | cons x l=>cases e; exact Ax k x l a K (fun a' σ' m' h1=>hK a' σ' m' ⟨k + 1,l,rfl,h1⟩) h
noncomputable def Kwl (c:Cf) (b:List Stmt) (m:Vs) (N K:Sto->Vs->Prop) (x:Bool) (σ:Sto):Prop:=if x then wB (c.setC K) 60 b σ m K else N σ m
theorem Az0 {t b} {α:Type} (τ:α->Sto) (μ:α->Vs) (I:Nat->α->Prop) (k0:Nat) (a0:α) (hgo:(!c.fx.comp && c.fx.sc.kind == .function)=true) (h0:I k0 a0) (hs:Sub (τ a0) σ) (hm:Alj (vof m) (μ a0))
  (Ax:∀ k a K,(∀ k' a' σ' m',k' < k->I k' a'->Sub (τ a') σ'->Alj (vof m') (μ a')->K σ' m')->I k a->wT c t (τ a) (μ a) (Kwl c b (μ a) N K)) :
  WlC c t b σ m N:=by
 rw [Bg1,Bm8] at hgo
 refine Ayw (α:=α) τ (fun a=>vof (μ a)) I k0 a0 hgo.1 h0 hs (Ad7 hm) fun k a h=>?_
 refine Afa ((Ace c 40).2 _ _ _ _ (Ax k a (fun σ' m'=>∃ k' a',k' < k/\I k' a'/\Sub (τ a') σ'/\Alj (vof m') (μ a')) (fun k' a' σ' m' h0 h1 h2 h3=>⟨k',a',h0,h1,h2,h3⟩) h)) fun x σ' q=>?_
 cases x with
 | false=>exact ⟨_,rfl,q⟩
 | true=>
  unfold Kwl at q
  rw [if_pos rfl] at q
  refine JS.mono (Aul (eq_of_beq hgo.2) q) (fun fl σ' m' q=>?_) fun _ _ _ q=>q
  induction fl using Flw.casesOn with
  | next=>obtain ⟨_,rfl,k',a',h0,h1,h2,h3⟩:=q; exact ⟨a',k',h0,h1,h2,Ad7 h3⟩
  | cont=>obtain ⟨_,rfl,k',a',h0,h1,h2,h3⟩:=q; exact ⟨a',k',h0,h1,h2,Ad7 h3⟩
  | ret v=>exact q
  | brk=>exact q.elim
end
noncomputable def Cf.inC (c:Cf) (scope:Scope):Cf:=⟨c.w,c.n,⟨Am0 scope c.fx.sc,true⟩,fun _ _=>False,fun _ _=>False,noN⟩
noncomputable def cm (scope:Scope) (m:Vs):Vs:=m.filter fun p=>scope.names.lookup p.1 == some .free
noncomputable def Aox (t:Expr):List Str:=match t with
 | .Name x _=>[x]
 | .Tuple ts _ _=>ts.filterMap fun e=>match e with | .Name x _=>some x | _=>none
 | _=>[]
theorem Adb (scope:Scope):∀ m:Vs,Al7 scope (vof m)=vof (cm scope m)
 | []=>funext fun y=>by unfold Al7; split <;> rfl
 | (k,u) :: r=>funext fun y=>by
  let p:Str × V:=(k,u)
  have ih:=congrFun (Adb scope r) y
  unfold Al7 at ih ⊢
  unfold cm at ih ⊢
  rw [Cl7]
  show (if _ then (if y=p.1 then some p.2 else vof r y) else none)=_
  by_cases hy:y=p.1
  · subst hy
    by_cases hf:(scope.names.lookup p.1 == some .free)=true
    · rw [if_pos hf,if_pos hf,if_pos rfl]
      show _=if p.1=p.1 then some p.2 else _
      rw [if_pos rfl]
    · rw [if_neg hf,if_neg hf,<- ih,if_neg hf]
  · rw [if_neg hy,ih]
    by_cases hf:(scope.names.lookup p.1 == some .free)=true
    · rw [if_pos hf]
      show _=if y=p.1 then some p.2 else _
      rw [if_neg hy]
    · rw [if_neg hf]
theorem Aqo {scope m x v} (h:vof (cm scope m) x=some v):scope.names.lookup x=some .free:=by
 rw [<- Adb] at h; exact (Ah1 h).2
theorem Asr {x y} (h:y≠x) (m:Vs) (v:V):vof (As8 m x v) y=vof m y:=if_neg h
theorem Apx {sc t v m m'} (h:bdV sc t v m=some m') {y} (hy:y ∉ Aox t):vof m' y=vof m y:=by
 cases t with
 | Name x p=>
  unfold bdV at h
  dsimp only at h
  cases hs:Auj sc x with
  | false=>rw [hs] at h; cases h
  | true=>rw [hs] at h; cases h; exact Asr (fun e=>hy (by rw [e]; exact .head _)) _ _
 | _=>cases h
theorem Atd {sc y m' k p ts ds m} (h:Azr sc ts ds m=some m') (hy:y ∉ Aox (.Tuple ts k p)):vof m' y=vof m y:=by
 induction ts generalizing ds m with
 | nil=>
  cases ds with
  | nil=>cases h; rfl
  | cons _ _=>cases h
 | cons t ts ih=>
  cases ds with
  | nil=>cases h
  | cons d ds=>
   obtain ⟨m1,hb,h2⟩:=Bx6.mp h
   cases t with
   | Name x q=>
    have hy:y ∉ x :: Aox (.Tuple ts k p):=hy
    rw [ih h2 fun e=>hy (.tail _ e)]
    exact Apx hb (fun e=>by rw [Bf7.mp e] at hy; exact hy (.head _))
   | _=>cases hb
theorem Aj1 {sc t v m m'} (h:bdT sc t v m=some m') {y} (hy:y ∉ Aox t):vof m' y=vof m y:=by
 cases t with
 | Tuple ts k p=>
  induction v using V.casesOn with
  | tup ds=>exact Atd (k:=k) (p:=p) h hy
  | _=>cases h
 | Name x p=>exact Apx (t:=.Name x p) h hy
 | _=>cases h
noncomputable def Lcm (c:Cf) (elt t it:Expr) (ifs:List Expr) (scope:Scope) (pos:Pos) (m:Vs) (Q:V->Sto->Prop) (en:Bool) (ds:List V) (σ:Sto):Prop:=
 ∀ acc,σ acc=none->Cl c.P c.n ⟨Am0 scope c.fx.sc,true⟩ en (.ListComp elt [⟨t,it,ifs,0⟩] scope pos) 0 acc ds (σ.put acc (.list [])) (Al7 scope (vof m)) (fun σ2=>∃ vs,σ2 acc=some (.list vs)/\Q (.lst vs) (σ2.del acc))
noncomputable def Kci (c:Cf) (elt:Expr) (m:Vs) (K1:V->Sto->Prop) (K0:Sto->Prop) (x:Bool) (σ:Sto):Prop:=if x then wE c elt σ m K1 else K0 σ
noncomputable def wIf (c:Cf) (elt:Expr) (ifs:List Expr) (σ:Sto) (K1:V->Sto->Prop) (K0:Sto->Prop) (m:Vs):Prop:=match ifs with
 | []=>wE c elt σ m K1
 | [g]=>wT c g σ m (Kci c elt m K1 K0)
 | _=>False
section
variable {c:Cf} {σ:Sto} {m:Vs}
theorem Aht {elt t it ifs scope pos Q} (ok:Adz scope c.fx.sc=true) (h:wIt c it σ m (Lcm c elt t it ifs scope pos m Q)):Ev c.P c.n c.fx (.ListComp elt [⟨t,it,ifs,0⟩] scope pos) σ (vof m) Q c.X:=by
 obtain ⟨⟨en,hi⟩,hf⟩:=Ak0 h
 exact Amw (en:=en) ok hi hf
theorem Axg {x p spos elt t it ifs scope pos N} (ok:Adz scope c.fx.sc=true) (hx:(match c.fx.sc.names.lookup x with | some .local=>true | _=>false)=true) (hsw:Ape c.fx.sc (.Name x p) (.ListComp elt [⟨t,it,ifs,0⟩] scope pos) spos.line=some true)
   (h:wIt c it σ m (Lcm c elt t it ifs scope pos m (Kas x m N))):ExA c x (.ListComp elt [⟨t,it,ifs,0⟩] scope pos) p spos σ m N:=by
 obtain ⟨⟨en,hi⟩,hf⟩:=Ak0 h
 refine As1 (en:=en) ok ?_ (An8 hi fun ds σ1 q acc B1=>?_) (fun env he=>Ajk hsw he) hf
 · revert hx
   cases c.fx.sc.names.lookup x with
   | none=>intro q; cases q
   | some k=>cases k <;> intro q <;> first | rfl | cases q
 · exact fun A st B g env s it he hr hm hi=>Bp5 (q acc B1 A st B g env s it he hr hm hi) fun r s2 hh=>by
    cases r with
    | ok f=>induction hh using BdP.casesOn with | mk g' σ' m' h1 h2 h3=>exact ⟨g',σ',m',h1,h2,h3.1,by obtain ⟨_,vs,e1,e2⟩:=h3; exact ⟨vs,e1,_,(Ada ..).symm,e2⟩⟩
    | error e=>exact hh
theorem Awl {x e p pos N} (hx:(Auj c.fx.sc x && match Ape c.fx.sc (.Name x p) e pos.line with | some false=>true | _=>false)=true) (h:Ev c.P c.n c.fx e σ (vof m) (Kas x m N) c.X):ExA c x e p pos σ m N:=by
 rw [Bg1] at hx
 cases hs:Ape c.fx.sc (.Name x p) e pos.line with
 | none=>rw [hs] at hx; cases hx.2
 | some b=>
  rw [hs] at hx
  cases b with
  | true=>cases hx.2
  | false=>exact Aog (Am6 hx.1) (Ag h fun v σ' q=>⟨_,rfl,q⟩) fun env he=>Ajk hs he
theorem Bdd {ifs c' m1 K1 K0 elt} (hY:c'.Y=fun _ _=>False) (h:wIf c' elt ifs σ K1 K0 m1):Ts c'.P c'.n c'.fx ifs σ (vof m1) (fun b σ2=>if b then Ev c'.P c'.n c'.fx elt σ2 (vof m1) K1 noX else K0 σ2):=by
 have hX:c'.X=noX:=by funext a b d; show c'.Y a b=_; rw [hY]; rfl
 have hE:=(Ace c' 40).1
 have hT:=(Ace c' 40).2
 unfold SE at hE
 unfold ST at hT
 rw [hX] at hE hT
 cases ifs with
 | nil=>exact Amf (hE _ _ _ _ h)
 | cons g r=>
  cases r with
  | cons _ _=>exact h.elim
  | nil=>
   refine Az1 (Afa (hT _ _ _ _ h) fun b σ' q=>?_)
   cases b with
   | true=>exact hE _ _ _ _ q
   | false=>exact q
theorem Aqg {scope t elt ifs v σ0 K1 K0} (h2:((Aox t).all fun x=>scope.names.lookup x != some .free)=true) (h:wBd (c.inC scope) t v (cm scope m) (wIf (c.inC scope) elt ifs σ0 K1 K0)) :
  Bd c.P c.n (c.inC scope).fx t v σ0 (vof (cm scope m)) (fun σ1 m1=>Al5 (vof (cm scope m)) m1/\Ts c.P c.n (c.inC scope).fx ifs σ1 m1 (fun b σ2=>if b then Ev c.P c.n (c.inC scope).fx elt σ2 m1 K1 noX else K0 σ2)) noX:=by
 unfold wBd at h
 cases hb:bdT (c.inC scope).fx.sc t v (cm scope m) with
 | none=>rw [hb] at h; exact h.elim
 | some m1=>
  rw [hb] at h
  have hv:Al5 (vof (cm scope m)) (vof m1):=fun y v e=>by
   rw [Aj1 hb]; exact e
   intro hy
   have:=Bj8.mp h2 y hy
   rw [Aqo e] at this
   cases this
  refine Ahy (c:=c.inC scope) (F:=fun m'=>m'=m1) (by unfold wBd; rw [hb]) fun m' e=>?_
  subst e
  exact ⟨hv,Bdd (c':=c.inC scope) rfl h⟩
theorem Acw {β:Type} {elt t it ifs scope pos Q en} (f:β->V) (G:β->Option V) (l:List β) (hgo:(goT t en && (Aox t).all fun x=>scope.names.lookup x != some .free)=true) (hl:l.length<=100000) (hq:Q (.lst (l.filterMap G)) σ)
  (Ax:∀ acc,σ acc=none->∀ x∈l,∀ vs K1 K0,(∀ v σ',G x=some v->Sub (σ.put acc (.list vs)) σ'->K1 v σ')->(∀ σ',G x=none->Sub (σ.put acc (.list vs)) σ'->K0 σ')->wBd (c.inC scope) t (f x) (cm scope m) (wIf (c.inC scope) elt ifs (σ.put acc (.list vs)) K1 K0)) :
  Lcm c elt t it ifs scope pos m Q en (l.map f) σ:=by
 rw [Bg1] at hgo
 intro acc B1
 refine An5 l f G rfl (fun _ _ e=>nomatch e) (Aij hgo.1) hl ⟨_,Sto.A0 ..,by rw [Sto.Abn B1]; exact hq⟩ fun x hx vs=>?_
 rw [Adb]
 exact Aqg hgo.2 (Ax acc B1 x hx vs (fun v σ'=>G x=some v/\Sub (σ.put acc (.list vs)) σ') (fun σ'=>G x=none/\Sub (σ.put acc (.list vs)) σ') (fun v σ' a b=>⟨a,b⟩) fun σ' a b=>⟨a,b⟩)
theorem Acv {β:Type} {elt t it scope pos Q en} (f:β->V) (G:β->V) (l:List β) (hgo:(goT t en && (Aox t).all fun x=>scope.names.lookup x != some .free)=true) (hl:l.length<=100000) (hq:Q (.lst (l.map G)) σ)
  (Ax:∀ acc,σ acc=none->∀ x∈l,∀ vs (K:V->Sto->Prop),(∀ σ',Sub (σ.put acc (.list vs)) σ'->K (G x) σ')->wBd (c.inC scope) t (f x) (cm scope m) fun m1=>wE (c.inC scope) elt (σ.put acc (.list vs)) m1 K) :
  Lcm c elt t it [] scope pos m Q en (l.map f) σ:=
 Acw f (fun x=>some (G x)) l hgo hl (by rw [Aj4]; exact hq) fun acc ha x hx vs K1 K0 h1 h0=>Ax acc ha x hx vs K1 fun σ' s=>h1 _ σ' rfl s
end
noncomputable def Kpc (x:Str) (d:V) (Q:List (Str × V)->Sto->Prop) (es:List (Str × V)) (σ:Sto):Prop:=Q ((x,d) :: es) σ
noncomputable def Kpv (F:Sto->Vs->(List (Str × V)->Sto->Prop)->Prop) (x:Str) (m:Vs) (Q:List (Str × V)->Sto->Prop) (d:V) (σ:Sto):Prop:=F σ m (Kpc x d Q)
noncomputable def Kpk (E:Expr->Sto->Vs->(V->Sto->Prop)->Prop) (F:Sto->Vs->(List (Str × V)->Sto->Prop)->Prop) (v:Expr) (m:Vs) (Q:List (Str × V)->Sto->Prop) (c:V) (σ:Sto):Prop:=match c with | .str x=>E v σ m (Kpv F x m Q) | _=>False
noncomputable def wPr (E:Expr->Sto->Vs->(V->Sto->Prop)->Prop):List (Option Expr)->List Expr->Sto->Vs->(List (Str × V)->Sto->Prop)->Prop
 | []=>fun vs σ _ Q=>match vs with | []=>Q [] σ | _=>False
 | k :: ks=>fun vs σ m Q=>match k with
  | some k=>(match vs with | v :: vs=>E k σ m (Kpk E (wPr E ks vs) v m Q) | _=>False)
  | none=>False
noncomputable def Dd (Q:V->Sto->Prop) (es:List (Str × V)) (σ:Sto):Prop:=∀ a,σ a=none->Q (.loc a) (σ.put a (.A5 (Ahw [] es)))
theorem Aue {c pos m}:∀ {ks vs σ Q},wPr (wE c) ks vs σ m Q->Prs c.P c.n c.fx pos ks vs σ (vof m) Q c.X
 | [],[],_,_,h=>Apv h
 | some k :: ks,v :: vs,_,_,h=>by
  refine Ass (Ag ((Ace c 40).1 _ _ _ _ h) fun d σ' q=>?_)
  induction d using V.casesOn with
  | str x=>exact ⟨x,rfl,Ag ((Ace c 40).1 _ _ _ _ q) fun u σ'' q=>Aue q⟩
  | _=>exact q.elim
 | [],_ :: _,_,_,h=>h.elim
 | none :: _,_,_,_,h=>h.elim
 | some _ :: _,[],_,_,h=>h.elim
theorem Afl {c σ m keys values pos Q} (h:wPr (wE c) keys values σ m (Dd Q))
  (Aed:∀ env,(Ck6 keys env).zip ((evalEach values env).map fun v=>do let x <- v; Cb7 pos; pure x)=(Ae3 pos env keys values).map fun p=>(some p.1,p.2):=by intro _; rfl)
  (h0:∀ env,Ae3 pos env keys values≠[]:=by intro _; exact Bs4 _ _) (hlen:∀ env,(Ae3 pos env keys values).length<=15:=by intro _; exact Bh8 rfl):Ev c.P c.n c.fx (.Dict keys values pos) σ (vof m) Q c.X:=
 Aw3 (Aue h) Aed h0 hlen
noncomputable def Bcy (x:Int) (Q:V->Sto->Prop) (d:V) (σ:Sto):Prop:=∀ a,σ a=none->Q (.loc a) (σ.put a (.Acf [(x,d)]))
noncomputable def Bcr (c:Cf) (v:Expr) (m:Vs) (Q:V->Sto->Prop) (k:V) (σ:Sto):Prop:=match k with | .int x=>wE c v σ m (Bcy x Q) | _=>False
theorem Av9 {c σ m k v pos Q} (h:wE c k σ m (Bcr c v m Q))
  (Aed:∀ env,(Ck6 [some k] env).zip ((evalEach [v] env).map fun v=>do let x <- v; Cb7 pos; pure x)=(Ae3 pos env [some k] [v]).map fun p=>(some p.1,p.2):=by intro _; rfl):Ev c.P c.n c.fx (.Dict [some k] [v] pos) σ (vof m) Q c.X:=
 At9 (Ag ((Ace c 40).1 _ _ _ _ h) fun d σ' q=>by
  induction d using V.casesOn with
  | int x=>exact ⟨x,rfl,Ag ((Ace c 40).1 _ _ _ _ q) fun u σ'' q=>q⟩
  | _=>exact q.elim) Aed
section
variable {P:Pm} {n:Nat} {σ:Sto}
theorem dI {p:Prop} [Decidable p] {Q:Bool->Sto->Prop} (h1:p->Q true σ) (h0:¬ p->Q false σ):Q (decide p) σ:=by
 cases h:decide p with
 | true=>exact h1 (of_decide_eq_true h)
 | false=>exact h0 (of_decide_eq_false h)
theorem dT {p:Prop} [Decidable p] {Q:Bool->Sto->Prop} (h:p) (h1:Q true σ):Q (decide p) σ:=by rw [decide_eq_true h]; exact h1
theorem dF {p:Prop} [Decidable p] {Q:Bool->Sto->Prop} (h:¬ p) (h0:Q false σ):Q (decide p) σ:=by rw [decide_eq_false h]; exact h0
theorem nI {p:Prop} [Decidable p] {Q:Bool->Sto->Prop} (h1:p->Q false σ) (h0:¬ p->Q true σ):Q (!decide p) σ:=by
 cases h:decide p with
 | true=>exact h1 (of_decide_eq_true h)
 | false=>exact h0 (of_decide_eq_false h)
theorem nT {p:Prop} [Decidable p] {Q:Bool->Sto->Prop} (h:¬ p) (h1:Q true σ):Q (!decide p) σ:=by rw [decide_eq_false h]; exact h1
theorem nF {p:Prop} [Decidable p] {Q:Bool->Sto->Prop} (h:p) (h1:Q false σ):Q (!decide p) σ:=by rw [decide_eq_true h]; exact h1
theorem jI {p:Prop} [Decidable p] {r:WR} {b o:Expr} {m:Vs} {Q:V->Sto->Prop} (v:V) (h:Q v σ) (h1:p->Q v σ->r.E b σ m Q) (h0:¬ p->Q v σ->r.E o σ m Q):Kif r b o m Q (decide p) σ:=dI (Q:=Kif r b o m Q) (fun q=>h1 q h) fun q=>h0 q h
theorem Bd5 {p:Prop} [Decidable p] {F:Sto->Vs->(Bool->Sto->Prop)->Prop} {m:Vs} {Q:Bool->Sto->Prop} (h:Q false σ) (h1:p->Q false σ->F σ m Q):Bab F m Q (decide p) σ:=dI (Q:=Bab F m Q) (fun q=>h1 q h) fun _=>h
theorem orI {p:Prop} [Decidable p] {F:Sto->Vs->(Bool->Sto->Prop)->Prop} {m:Vs} {Q:Bool->Sto->Prop} {b:Bool} (h:Q b σ) (h1:p->b=true) (h0:¬ p->Q b σ->F σ m Q):Kor F m Q (decide p) σ:=
 dI (Q:=Kor F m Q) (fun q=>show Q true σ from h1 q ▸ h) fun q=>h0 q h
theorem orN {p:Prop} [Decidable p] {F:Sto->Vs->(Bool->Sto->Prop)->Prop} {m:Vs} {Q:Bool->Sto->Prop} {b:Bool} (h:Q b σ) (h1:¬ p->b=true) (h0:p->Q b σ->F σ m Q):Kor F m Q (!decide p) σ:=
 nI (Q:=Kor F m Q) (fun q=>h0 q h) fun q=>show Q true σ from h1 q ▸ h
theorem Asc {α:Type} {F F0 b o r m N x} (τ:α->Sto) (μ:α->Vs) (I:α->Prop) (h1:(∀ a σ' m',I a->Sub (τ a) σ'->Alj (vof m') (μ a)->Aft F0 r N σ' m')->Kst F b o m (Aft F0 r N) x σ)
 (h2:∀ a,I a->F0 r (τ a) (μ a) N):Kst F b o m (Aft F0 r N) x σ:=h1 fun a σ' m' ha hs hm=>.fgt _ _ hs hm (.go (h2 a ha))
variable {a:Addr} {G:String->Prop}
theorem Af {ds} (h:σ a=some (.list ds)) (hq:G "list.append"):Me (Bf5 "append") (.loc a) σ G:=.mk "list" _ ⟨Cf1,F.slot_list_append,F.type_list_append⟩ (.list h) hq
theorem Aju {ds} (h:σ a=some (.list ds)) (hq:G "list.pop"):Me (Bf5 "pop") (.loc a) σ G:=.mk "list" _ ⟨Cf1,Cp4,F.type_list_pop⟩ (.list h) hq
theorem Aoq {ds} (h:σ a=some (.list ds)) (hq:G "list.reverse"):Me (Bf5 "reverse") (.loc a) σ G:=.mk "list" _ ⟨Cf1,F.slot_list_reverse,F.type_list_reverse⟩ (.list h) hq
theorem Apr {ds} (h:σ a=some (.list ds)) (hq:G "list.extend"):Me (Bf5 "extend") (.loc a) σ G:=.mk "list" _ ⟨Cf1,F.slot_list_extend,F.type_list_extend⟩ (.list h) hq
theorem Auv {es} (h:σ a=some (.A5 es)) (hq:G "dict.get"):Me (Bf5 "get") (.loc a) σ G:=.mk "dict" _ ⟨Cn0,Ci0,F.type_dict_get⟩ (.A5 h) hq
theorem Awe {es} (h:σ a=some (.Ad es)) (hq:G "dict.get"):Me (Bf5 "get") (.loc a) σ G:=.mk "dict" _ ⟨Cn0,Ci0,F.type_dict_get⟩ (.Ad h) hq
theorem Aoy {es} (h:σ a=some (.A5 es)) (hq:G "dict.update"):Me (Bf5 "update") (.loc a) σ G:=.mk "dict" _ ⟨Cn0,F.slot_dict_update,F.type_dict_update⟩ (.A5 h) hq
theorem Amj {x} (hq:G "str.split"):Me (Bf5 "split") (.str x) σ G:=.mk "str" _ ⟨F.plainAttrs_str,F.slot_str_split,F.type_str_split⟩ (.str x) hq
end
section
variable {P:Pm} {n:Nat} {fx:Fx} {σ:Sto} {m:A8} {X:Xt}
theorem Atp {e:Expr} {l:Addr} {ds:List V} {Q:List V->Sto->Prop} (h:Ev P n fx e σ m (fun v σ'=>v=.loc l/\σ' l=some (.list ds)/\Q ds σ') X):Azy P n fx false (some (l,ds)) e σ m Q X:=
 fun A st B g env s he hr hm=>Bf3 (h A st B g env s he hr hm) (fun v s1 qA=>by
  obtain ⟨g1,σ1,m1,a,hg1,hr1,hv1,hm1,e1,e2,hq⟩:=qA
  subst hm1; subst e1
  obtain ⟨_,rfl⟩:=hv1.inv
  obtain ⟨_,_,ol,hol,hcl,items,nl,hdl,c,_⟩:=hr1.sto l _ e2
  refine wpAny_pyIter_list (items:=items) ⟨ol,hol,hcl,nl,hdl⟩ ⟨g1,σ1,ds,s1.heap.objs.size,hg1,hr1.stays (Aa3 _ _) s1.toks,rfl,?_,hq⟩
  exact .As7 (i:=0) (all:=ds) ⟨_,Bi4 _ rfl,rfl,rfl⟩ (Aa2 hr1.fz (Ak _)) (Aa0 hr1.keeps (Ak _))) fun _ _ q=>q
end
section
variable {w:World} {n:Nat} {σ:Sto}
noncomputable def B0 (ns:List Int):O:=.list (ns.map .int)
theorem Ay4 {pa ns} (h:σ pa=some (B0 ns)):Dv σ (.loc pa) (.lst (ns.map .int)):=.loc h
theorem Ae7 (ns:List Int):V.Bf (ns.map .int)=true:=by
 induction ns with
 | nil=>rfl
 | cons a r ih=>exact ih
theorem Ajh {a:V}:min a.dep (V.lst []).dep<=40:=Be8 (Bm4 _ _) (by decide)
theorem Aus {a:V}:min a.dep (V.tup []).dep<=40:=Be8 (Bm4 _ _) (by decide)
theorem Aaz {pa:Addr} {ns:List Int} {k:Nat} {Q:V->Sto->Prop} {Y:Str->Sto->Prop} (h:σ pa=some (B0 ns)) (hl:ns.length<=66) (hk:0 < k)
  (hq:∀ (r:Nat) ms,r < k->ms.length<=66->Q (.int r) (σ.put pa (B0 ms))):Fn (PM w) (n + 1) (.ref 271) [.loc pa,.int k] σ Q Y:=by
 refine B8 rfl rfl (Ang fun _ _=>rfl) rfl fun R' Y' hR hY hRs hYs=>?_
 have fin:∀ (x:Int) (ms:List Int),ms.length<=66->R' (.int (x.fmod k)) (σ.put pa (B0 ms)):=fun x ms hm=>by
  obtain ⟨r,e⟩:=By6 (Int.fmod_nonneg_of_pos x (show 0 < (k:Int) by lia))
  have:=Int.fmod_lt_of_pos x (show 0 < (k:Int) by lia)
  rw [e]; exact hR (hq r ms (by exact Bn2.mp (e ▸ this)) hm)
 refine .inr (Afs (Ay4 h) (.val _) ?_ (Ae7 ns) rfl Ajh)
 cases ns with
 | nil=>
  refine nF rfl (Au6 (by lia) ?_)
  have:=fin 0 [] (Bh2 _)
  rw [show σ.put pa (B0 [])=σ from Sto.Acr h] at this
  exact this
 | cons x r=>
  refine nT (fun e=>nomatch e) (Aju h (Ane (k:=0) h rfl rfl (Au6 (by lia) (fin x r ?_)) ?_))
  · exact Bl8 hl
  · rw [Bf0]; lia
end
section
variable {w:World} {n:Nat} {σ:Sto}
theorem Acl:∀ (k:Nat) (a:Int),Ai0 a k=(Bi1 k).map fun (i:Nat)=>V.int (a + i)
 | 0,a=>rfl
 | k + 1,a=>by
  rw [Ayo,Acl k,By9,Bh1,Bi7]
  simp only [Int.natCast_zero,Int.add_zero,Bn1,true_and]
  apply Bj6
  intro i _
  simp only [Bt2,Nat.succ_eq_add_one,Int.natCast_add]
  congr 1; lia
theorem Alb {t:List V} {top:Nat} {Q:V->Sto->Prop} {Y:Str->Sto->Prop} (hl:t.length<=1000) (ht:top<=10) (hq:Q (.lst ((rowsOf t top).map .tup)) σ):Fn (PM w) (n + 1) (.ref 295) [.tup t,.int top] σ Q Y:=by
 refine B8 rfl rfl (Ang fun _ _=>rfl) rfl fun R' Y' hR hY hRs hYs=>?_
 refine Af5 (by lia) ?_
 refine Aqi (by lia) ?_ ?_
 · exact PyProof.noPylong_small (by exact (show top + 1 < 1073741824 from Bg7 (Bg4 ht) (by decide)))
 refine Aht rfl ?_
 refine Aac (k:=top + 1) (by lia) ?_ (by lia)
 rw [Acl]
 have hfd:((t.length:Int)).fdiv ((top:Int) + 1)=((t.length / (top + 1):Nat):Int):=by
   rw [Int.fdiv_eq_ediv_of_nonneg _ (by lia)]; push_cast; rfl
 have hb:t.length / (top + 1)<=1000:=Be8 (Nat.div_le_self ..) hl
 refine Acv _ (fun k=>.tup (slc (some (t.length / (top + 1) * k)) (some (t.length / (top + 1) * (k + 1))) t)) _ rfl (by simp; lia) (hR ?_) fun acc B1 k hk vs K hK=>?_
 · rw [show (rowsOf t top).map V.tup=(Bi1 (top + 1)).map fun k=>V.tup (slc (some (t.length / (top + 1) * k)) (some (t.length / (top + 1) * (k + 1))) t) from by simp [rowsOf]] at hq
   exact hq
 · have hk':k < top + 1:=Bk7.mp hk
   have h2:t.length / (top + 1) * k<=1000 * 10:=Ci2 hb (by lia)
   rw [hfd]
   generalize t.length / (top + 1)=z at hb h2 hK
   refine Aq3 (by lia) (by lia) ?_
   refine Aq3 (by lia) (by lia) ?_
   refine Amx (lo:=some (z * k)) (hi:=some (z * (k + 1))) ?_ ?_ (hK _ (Sub.refl _)) (by lia)
   · show V.int _=V.int _; congr 1; push_cast; simp
   · show V.int _=V.int _; congr 1; push_cast; simp
theorem Azj {rows}:decide (rows.filterMap (fun r=>if r≠rows.headD [] then some (V.tup r) else none)=[])=!dif rows:=by
 rw [Bv7,decide_eq_true_iff,Bm8,dif,Bz3,Bq5]
 constructor
 · intro h r hr; have:=h r hr; by_cases q:r=rows.headD [] <;> simp_all
 · intro h r hr; have:=h r hr; by_cases q:r=rows.headD [] <;> simp_all
theorem Ag0 {t p r} (h:r∈rowsOf t p):r.length<=t.length:=by
 simp only [rowsOf,Bh3] at h
 obtain ⟨k,_,rfl⟩:=h
 simp only [slc,Bp0,Bn5]; exact Be8 (Bx8 ..) (Bm4 ..)
theorem Adi {t p r} (h:r∈rowsOf t p) {v} (hv:v∈r):v∈t:=by
 simp only [rowsOf,Bh3] at h
 obtain ⟨k,_,rfl⟩:=h
 exact Ch4 (Ca5 hv)
theorem Ad1 (t:List V) (p:Nat):∃ r rs,rowsOf t p=r :: rs:=by
 cases h:rowsOf t p with
 | nil=>have:=congrArg Bp6 h; simp [rowsOf] at this
 | cons r rs=>exact ⟨r,rs,rfl⟩
theorem Ab9 {t} (h:∀ v∈t,B3 v):V.Bf t=true:=Acn.mpr fun v hv=>(h v hv).1
theorem Ae1:∀ {t},(∀ v∈t,B3 v)->V.Be t<=1
 | [],_=>Bh2 _
 | a :: r,h=>by
  have h1:=(h a (.head _)).2
  have h2:=Ae1 (t:=r) fun v hv=>h v (.tail _ hv)
  exact Cd6.mpr ⟨h1,h2⟩
theorem Ar0 {P m r r0 Q} (h:∀ v∈r,B3 v) (h':∀ v∈r0,B3 v) (h1:r≠r0->Q true σ) (h0:r=r0->Q false σ):Co P m .NotEq (.tup r) (.tup r0) σ Q:=
 Afs (.val _) (.val _) (nI (fun e=>h0 (V.tup.inj e)) fun e=>h1 fun q=>e (congrArg V.tup q)) (Ab9 h) (Ab9 h') (Be8 (Bq9 ..) (Be8 (Bg4 (Ae1 h)) (by decide)))
theorem Av0 {P m rows r0 Q} (hr0:rows.headD []=r0) (h:∀ r∈rows,∀ v∈r,B3 v) (hq:Q (dif rows) σ):Co P m .NotEq (.lst (rows.filterMap fun r=>if r≠r0 then some (V.tup r) else none)) (.lst []) σ Q:=by
 subst hr0
 refine Afs (.val _) (.val _) ?_ (Acn.mpr fun v hv=>?_) rfl Ajh
 · rw [show decide (V.lst (List.filterMap (fun r=>if r≠rows.headD [] then some (V.tup r) else none) rows)=V.lst [])=!dif rows from by rw [<- Azj]; simp,Bool.not_not]
   exact hq
 · simp only [By1] at hv
   obtain ⟨r,hr,e⟩:=hv
   split at e
   · cases e; exact Ab9 fun v hv=>h r hr v hv
   · cases e
theorem Ac8 {wl:Addr} {a:Wo} {t:List V} {v:Nat} {Q:V->Sto->Prop} {Y:Str->Sto->Prop} (hw:σ wl=some (.A5 a.es)) (h3:a.A1.length=3) (Ba:∀ p∈a.A1,p<=10) (hv:v<=3) (hl:t.length<=1000) (hf:∀ x∈t,B3 x)
   (hq:Q (.tup [.int ((v + (asked (a.A1.drop v) t).1:Nat):Int),.lst ((asked (a.A1.drop v) t).2.map .tup)]) σ):Fn (PM w) (n + 2) (.ref 300) [.loc wl,.tup t,.int v] σ Q Y:=by
 refine B8 rfl rfl (Ajq fun _ _ _=>rfl) rfl fun R' Y' hR hY hRs hYs=>?_
 refine Apl (k:=3 - v) (by exact (congrArg Int.ofNat (Bm1 hv)).symm) ?_ (by exact r30) (by exact (Bk9.mpr (Be8 (Bm3 (Bm1 hv)) (by decide)):((v + (3 - v):Nat):Int)<=((1000000:Nat):Int)))
 refine Ajx (α:=List V) (fun _=>σ) (fun t=>[("table",.tup t),("world",.loc wl),("variable",.int v)]) (fun u t=>t.length<=1000/\(∀ z∈t,B3 z)/\Q (.tup [.int ((u + (asked (a.A1.drop u) t).1:Nat):Int),.lst ((asked (a.A1.drop u) t).2.map .tup)]) σ) t rfl ⟨hl,hf,hq⟩ (Sub.refl _) rfl ?_ ?_
 · rintro x ⟨_,_,h8⟩
   rw [show v + (3 - v)=3 by exact Bm1 hv,Cf5 (by exact Bm3 h3)] at h8
   exact .go <| .inr (hR h8)
 · rintro u x K hu hK ⟨h6,h7,h8⟩
   obtain ⟨p,hp⟩:∃ p,a.A1[u]?=some p:=⟨_,Bf1 (by lia)⟩
   have Aod:a.A1.drop u=p :: a.A1.drop (u + 1):=by
    rw [Bj3 (by lia)]; congr 1
    rw [Bf1 (by lia)] at hp; exact Br1 hp
   refine Ac hw rfl ?_
   refine Ab (k:=u) (hf:=Bh0 hu (by rw [Bm1 hv]; decide)) (.val _) (by rw [tupI,Bf9,hp]; rfl) ?_
   have Bat:=Ba p (Bg0 hp)
   refine Alb h6 Bat ?_
   obtain ⟨r0,rs,hrs⟩:=Ad1 x p
   have hr0:r0∈rowsOf x p:=by rw [hrs]; exact .head _
   refine Aht rfl ?_
   have h7':∀ r∈rowsOf x p,∀ v∈r,B3 v:=fun r hr v hv=>h7 v (Adi hr hv)
   refine Acw V.tup (fun r=>if r≠r0 then some (.tup r) else none) _ rfl (by rw [rowsOf,Bf0,Bl0]; lia) (.inr (Av0 (by rw [hrs]; rfl) h7' ?_)) fun acc B1 r hr vs K1 K0 h1 h0=>Ab (k:=0) (d:=.tup r0) (.val _) (by rw [hrs]; rfl) (Ar0 (h7' r hr) (h7' r0 hr0) (fun q=>h1 _ _ (if_pos q) (Sub.refl _)) fun q=>h0 _ (if_neg fun h=>h q) (Sub.refl _))
   rw [Aod,Aao] at h8
   cases hd:dif (rowsOf x p) with
   | true=>
    rw [hd,if_pos rfl] at h8
    exact hR h8
   | false=>
    rw [hd,if_neg Bg6] at h8
    refine Ab (k:=0) (d:=.tup r0) (.val _) (by rw [hrs]; rfl) (hK r0 _ _ ⟨Be8 (Ag0 hr0) h6,h7' r0 hr0,?_⟩ (Sub.refl _) rfl)
    rw [hrs] at h8
    rw [Bh4]
    exact h8
end
section
variable {w:World} {n:Nat} {σ:Sto}
theorem Ajc {wl:Addr} {a:Wo} {t:List V} {Q:V->Sto->Prop} {Y:Str->Sto->Prop} (hw:σ wl=some (.A5 a.es)) (hc:a.cells.length<=1000) (ht:t≠[]) (hl:t.length<=a.cells.length)
  (hq:Q (.tup (whole a.cells.length t)) σ):Fn (PM w) (n + 1) (.ref 307) [.loc wl,.tup t] σ Q Y:=by
 have h1:0 < t.length:=List.length_pos_iff.mpr ht
 have hc':a.cells.length<=100000:=Be8 hc (by decide)
 refine B8 rfl rfl (Ang fun _ _=>rfl) rfl fun R' Y' hR hY hRs hYs=>?_
 refine Ac hw rfl (Aa1 (.val _) hc' (Af5 (Be8 hl hc') (Aqi (by exact fun e=>Bq2 h1 (Bs1 e)) (PyProof.noPylong_small (by exact Bg7 (Be8 hl hc) (by decide))) ?_)))
 rw [show ((a.cells.length:Int)).fdiv (t.length:Int)=((a.cells.length / t.length:Nat):Int) by rw [Int.fdiv_eq_ediv_of_nonneg _ (Bk0 _)]; rfl]
 exact Ar6 rfl (Cn7 hl h1) ht (hR hq) (Be8 (Nat.mul_div_le ..) hc')
theorem At7 {x} (h:∀ v∈x.2.2,B3 v):(Avy x).dat=true:=by
 exact (Cj7 (V.Bf x.2.2)).trans (Ab9 h)
theorem Aeq {α:Type} {l:List α} {f:α->V} (h:∀ x∈l,(f x).dat=true):V.Bf (l.map f)=true:=Acn.mpr fun v hv=>by
 obtain ⟨x,hx,rfl⟩:=Bh3.mp hv; exact h x hx
theorem getL {α β:Type} {l x} (f:α->β):(Bz6 f (l ++ [x])).getLast?=some (f x):=by rw [Bg2]; exact Ca6
theorem Bby {α β:Type} {l x y} (f:α->β):(Bz6 f (l ++ [x])).set ((Bz6 f (l ++ [x])).length - 1) (f y)=Bz6 f (l ++ [y]):=by
 rw [Bg2,Bg2,Bf2]; exact (List.set_append_right _ _ (Bh7 _)).trans (by rw [Nat.sub_self]; rfl)
theorem Bay {α β:Type} {l x} (f:α->β):(Bz6 f (l ++ [x])).length - 1 < (Bz6 f (l ++ [x])).length:=by
 rw [Bf0,Bf2]; exact Br2 _
theorem snoc {α:Type} {C:List α->Prop} (h0:C []) (h1:∀ l x,C (l ++ [x])) (l:List α):C l:=by
 rcases Bv2 l with rfl | ⟨l,x,rfl⟩
 · exact h0
 · rw [Bv3]; exact h1 l x
theorem Aa9 {α:Type} {p:α->Prop} {l:List α} {x:α} (h:∀ y∈l,p y) (hx:p x):∀ y∈l ++ [x],p y:=fun y hy=>by
 rcases Bh9.mp hy with hy | hy
 · exact h y hy
 · rw [Bf7.mp hy]; exact hx
theorem Afk {rows:List (List V)} {Q:V->Sto->Prop} {Y:Str->Sto->Prop} (hl:rows.length<=100) (hf:∀ r∈rows,∀ v∈r,B3 v)
   (hq:Q (.lst ((Aa rows).map Avy)) σ):Fn (PM w) (n + 1) (.ref 314) [.lst (rows.map .tup)] σ Q Y:=by
 refine B8 rfl rfl (Aov fun _=>rfl) rfl fun R' Y' hR hY hRs hYs=>.inl fun fa hfa=>Ads ?_
 refine Aoh .tup (α:=List (Nat × Nat × List V)) (fun f=>σ.put fa (.list (f.map Avy))) (fun f=>[("found",.loc fa)])
   (fun k rs f=>Ac1 f k rs=Aa rows/\f.length<=k/\k + rs.length<=100/\(∀ r∈rs,∀ v∈r,B3 v)/\(∀ x∈f,∀ v∈x.2.2,B3 v)) rows [] rfl
   ⟨rfl,Bh7 _,by rw [Bk8]; exact hl,hf,fun _ h=>nomatch h⟩ (Sub.refl _) rfl ?_ ?_
 · rintro k f ⟨h2,_⟩
   refine .frz "found" rfl (Sto.A0 ..) (.go ?_)
   rw [Sto.Abn hfa,show f=Aa rows from h2]
   exact hR hq
 · rintro k x xs f K hK ⟨h2,h3,h4,h5,h6⟩
   have hx5:=h5 x (.head _)
   have h4':k + 1 + xs.length<=100:=by rw [Bh4]; exact h4
   have nxt:∀ f',Aad f k x=f'->f'.length<=k + 1->(∀ y∈f',∀ v∈y.2.2,B3 v)->Ac1 f' (k + 1) xs=Aa rows/\f'.length<=k + 1/\k + 1 + xs.length<=100/\(∀ r∈xs,∀ v∈r,B3 v)/\(∀ x∈f',∀ v∈x.2.2,B3 v):=fun f' e h7 h8=>
    ⟨by rw [<- e]; exact h2,h7,h4',fun r hr=>h5 r (.tail _ hr),h8⟩
   have nx1:=nxt (f ++ [(k,k,x)])
   refine .inr (Afs (.loc (Sto.A0 ..)) (.val _) ?_ (Aeq fun x hx=>At7 (h6 x hx)) rfl Ajh)
   induction f using snoc with
   | h0=>
    refine nF rfl (Af (Sto.A0 ..) (Ae (Sto.A0 ..) (hK [(k,k,x)] _ _ (nx1 rfl (Bq0 ..) (Aa9 h6 hx5)) ?_ rfl) (Bh2 _)))
    rw [Sto.A9]; exact Sub.refl _
   | h1 fs y=>
    have hy6:=h6 y (Bi2 _ (.head _))
    have hst:Aad (fs ++ [y]) k x=if y.2.2=x then fs ++ [(y.1,k,x)] else fs ++ [y] ++ [(k,k,x)]:=by unfold Aad; rw [Ca6,Bt0]
    rw [Bf2] at h3
    refine nT (fun e=>by rw [Bg2] at e; exact absurd (V.lst.inj e) (List.append_ne_nil_of_right_ne_nil _ (fun e=>nomatch e))) (Acd (.loc (Sto.A0 ..)) (getL _) (A6 (k:=2) rfl (Ahk (.val _) (.val _) ?_ (Ab9 hy6) (Ab9 hx5) ?_)))
    · refine dI (fun q=>?_) fun q=>?_
      · rw [if_pos (V.tup.inj q)] at hst
        refine Acd (.loc (Sto.A0 ..)) (getL _) (A6 (k:=0) rfl (Ahe (Sto.A0 ..) (.inr ⟨rfl,rfl⟩) (Bay _) (hK (fs ++ [(y.1,k,x)]) _ _ (nxt _ hst (by rw [Bf2]; exact Bk1 h3) (Aa9 (fun z hz=>h6 z (Bi3 _ hz)) hx5)) ?_ rfl)))
        rw [Sto.A9]; exact (Bby Avy).symm ▸ Sub.refl _
      · rw [if_neg fun e=>q (congrArg V.tup e)] at hst
        refine Af (Sto.A0 ..) (Ae (Sto.A0 ..) (hK (fs ++ [y] ++ [(k,k,x)]) _ _ (nx1 hst (by rw [Bf2,Bf2]; exact Bg4 h3) (Aa9 h6 hx5)) ?_ rfl) (by rw [Bf0,Bf2]; exact Be8 h3 (Be8 (Be8 (Bg9 ..) h4) (by decide))))
        rw [Sto.A9,Bg2 (f:=Avy) (l₁:=fs ++ [y])]; exact Sub.refl _
    · exact Be8 (Bq9 ..) (Be8 (Bg4 (Ae1 hy6)) (by decide))
theorem Axy {parts v d Q Y} (hl:parts.length<=100) (hd:(Avw parts v)[0]?=some d)
  (hq:Q d σ):Fn (PM w) (n + 1) (.ref 333) [.lst (parts.map fun p=>.tup [.int p.1,p.2]),.int v] σ Q Y:=by
 refine B8 rfl rfl (Ang fun _ _=>rfl) rfl fun R' Y' hR hY hRs hYs=>Aht rfl ?_
 refine Acw _ (fun p:Int × V=>if v<=p.1 then some p.2 else none) parts rfl (Be8 hl (by decide)) (Ab (k:=0) (.val _) hd (hR hq)) fun acc B1 p hp vs K1 K0 h1 h0=>?_
 exact Ajo (dI (fun q=>h1 _ _ (if_pos q) (Sub.refl _)) fun q=>h0 _ (if_neg q) (Sub.refl _))
theorem Agj {α:Type} {nums:List α} (lo hi:Option Nat):(slc lo hi nums).length<=nums.length:=by
 rw [slc,Bp0,Bn5]; exact Be8 (Bx8 ..) (Bm4 ..)
theorem Amy {wl:Addr} {a:Wo} {les:List (Str × V)} {nums:List Int} {name:Str} {v lo hi:Nat} {Q:V->Sto->Prop} {Y:Str->Sto->Prop} (hw:σ wl=some (.A5 a.es)) (hlg:σ a.lg=some (.A5 les)) (hn:a.names[v]?=some name) (hd:(Am les name).getD (.tup [])=.tup (nums.map .int))
   (hnl:nums.length<=1000) (hv:v < 10) (hq:Q (.lst ((Aae nums lo hi).map Acs)) σ):Fn (PM w) (n + 1) (.ref 370) [.loc wl,.int v,.int lo,.int hi] σ Q Y:=by
 refine B8 rfl rfl (Aqc fun _ _ _ _=>rfl) rfl fun R' Y' hR hY hRs hYs=>Ac hw rfl ?_
 refine Auv hlg (Ac hw rfl (Ab (k:=v) (.val _) (by rw [Bf9,hn]; rfl) (Akn hlg ?_) (Bj4 hv (by decide))))
 rw [hd]
 refine Afs (.val _) (.val _) (nI (fun e=>?_) fun e=>?_) (Aeq fun x _=>rfl) rfl Aus
 · cases nums with
   | nil=>exact .inr (hR hq)
   | cons=>cases e
 · refine Aht rfl (Amx (lo:=some lo) (hi:=some (hi + 1)) rfl rfl ?_ (by rw [Bf0]; exact Be8 hnl (by decide)))
   rw [Alf]
   refine Acv V.int (fun k=>.tup [.int k,.int k]) _ rfl (Be8 (Agj ..) (Be8 hnl (by decide))) (hR ?_) fun acc B1 k hk vs K hK=>hK _ (Sub.refl _)
   rw [Aae,if_neg (fun q=>e (by rw [q]; rfl)),Bi7] at hq
   exact hq
end
section
variable {w:World} {n:Nat} {σ:Sto} {A1:List Nat} {dn db dm:Addr} {D:List V} {Q:V->Sto->Prop} {Y:Str->Sto->Prop}
theorem Ab6 {D x}:Am (Ap D) x=if x∈D then some (.int (D.idxOf x)) else none:=by
 have:∀ (D:List V) (k:Nat),Am ((D.zipIdx k).map fun x=>(x.1,V.int x.2)) x=if x∈D then some (.int ((D.idxOf x + k:Nat):Int)) else none:=by
  intro D
  induction D with
  | nil=>intro k; rfl
  | cons d r ih=>
   intro k
   have ih':=ih (k + 1)
   unfold Am at ih' ⊢
   rw [List.zipIdx_cons,Bh1,Bk3]
   by_cases h:d=x
   · subst h; simp
   · have h':x≠d:=fun e=>h e.symm
     rw [show decide ((d,V.int (k:Int)).1=x)=false by simp [h]]
     dsimp only
     rw [ih']
     simp only [Bi0,h',false_or]
     by_cases q:x∈r
     · rw [if_pos q,if_pos q,Cb4,show (d == x)=false by simp [h]]
       simp only [cond_false]; congr 3; exact Bh4 (Cp2 x r) k 1
     · rw [if_neg q,if_neg q]
 exact this D 0
theorem Ajy {D x}:Ap (D ++ [x])=Ap D ++ [(x,.int D.length)]:=by
 simp [Ap,List.zipIdx_append]
theorem Acu {k:Nat} {d:V} (h:σ dn=some (.list D)) (hd:D[k]?=some d) (hk:k < 1000) (hq:Q d σ):Fn (PM w) (n + 1) (.ref 107) [B9 A1 dn db dm,.int k] σ Q Y:=
 B8 rfl rfl (Ang fun _ _=>rfl) rfl fun R' Y' hR hY hRs hYs=>Ab (k:=k) (.loc h) hd (hR hq) (Bj4 hk (by decide))
theorem Ar2 {ks} (h:σ dn=some (.list D)) (hb:σ db=some (.Ad (Ap D))) (hne:dn≠db) (hl:D.length<=1000) (hk:V.keys ks=true) (hdp:V.Be ks<=7)
   (hq1:V.tup ks∈D->Q (.int (D.idxOf (V.tup ks):Nat)) σ) (hq2:V.tup ks ∉ D->Q (.int D.length) ((σ.put db (.Ad (Ap (D ++ [V.tup ks])))).put dn (.list (D ++ [V.tup ks])))) :
   Fn (PM w) (n + 1) (.ref 86) [B9 A1 dn db dm,.tup ks] σ Q Y:=by
 have hl':D.length<=100000:=Be8 hl (by decide)
 refine B8 rfl rfl (Ang fun _ _=>rfl) rfl fun R' Y' hR hY hRs hYs=>Ald hb hk hdp ?_
 rw [Ab6]
 by_cases hm:V.tup ks∈D
 · rw [if_pos hm]
   exact Aee hb hk hdp (by rw [Ab6,if_pos hm]) (hR (hq1 hm))
 · rw [if_neg hm]
   refine Aa1 (.loc h) hl' (Amn hb hk hdp (by rw [Ab6,if_neg hm]) ?_ (by rw [Ap,Bf0,Cj4]; exact hl'))
   rw [<- Ajy]
   have h':(σ.put db (.Ad (Ap (D ++ [V.tup ks])))) dn=some (.list D):=by rw [Sto.A4 _ _ hne]; exact h
   refine Af h' (Ae h' (Aee (a:=db) (by rw [Sto.A4 _ _ hne.symm,Sto.A0]) hk hdp (by rw [Ab6,if_pos (Bi2 _ (.head _)),Br8,if_neg hm]) (hR ?_)) hl')
   rw [show ([V.tup ks].idxOf (V.tup ks) + D.length:Nat)=D.length by rw [List.idxOf_cons_self,Bk8]]
   exact hq2 hm
theorem Avv {x} (h:σ dn=some (.list D)) (hb:σ db=some (.Ad (Ap D))) (hne:dn≠db) (hl:D.length<=1000) (hk:x.key=true) (hdp:x.dep<=1)
  (hq1:V.tup [.str "leaf",x]∈D->Q (.int (D.idxOf (V.tup [.str "leaf",x]):Nat)) σ) (hq2:V.tup [.str "leaf",x] ∉ D->Q (.int D.length) ((σ.put db (.Ad (Ap (D ++ [V.tup [.str "leaf",x]])))).put dn (.list (D ++ [V.tup [.str "leaf",x]])))) :
  Fn (PM w) (n + 2) (.ref 93) [B9 A1 dn db dm,x] σ Q Y:=
 B8 rfl rfl (Ang fun _ _=>rfl) rfl fun R' Y' hR hY hRs hYs=>Ar2 h hb hne hl (by show (true && (x.key && true))=true; rw [hk]; rfl) (by exact Cd6.mpr ⟨Bh2 _,Cd6.mpr ⟨Be8 hdp (by decide),Bh2 _⟩⟩) (fun q=>hR (hq1 q)) fun q=>hR (hq2 q)
theorem Ae8 {a:V}:min a.dep (V.str "leaf").dep<=40:=Be8 (Bm4 _ _) (by decide)
theorem Afz {k:Nat} {hd about:V} (h:σ dn=some (.list D)) (hD:D[k]?=some (.tup [hd,about])) (hk:k < 1000) (Axf:hd.dat=true) (Azw:hd.dep<=40) (hq:Q (As5 A1 hd) σ) (ht:A1.length<=100):Fn (PM w) (n + 1) (.ref 114) [B9 A1 dn db dm,.int k] σ Q Y:=by
 refine B8 rfl rfl (Ang fun _ _=>rfl) rfl fun R' Y' hR hY hRs hYs=>Ab (k:=k) (.loc h) hD (A6 (k:=0) rfl (Ahk (.val _) (.val _) (dI (fun q=>?_) fun q=>?_) Axf rfl Ae8)) (Bj4 hk (by decide))
 · rw [As5,if_pos q] at hq
   refine Af5 ?_ (hR ?_) <;> rw [tupI,Bf0]
   · exact Be8 ht (by decide)
   · exact hq
 · rw [As5,if_neg q] at hq; exact hR hq
theorem Agr {k v top:Nat} {hd about:V} (h:σ dn=some (.list D)) (hD:D[k]?=some (.tup [hd,about])) (hk:k < 1000) (Axf:hd.dat=true) (Azw:hd.dep<=40) (ht:A1[v]?=some top) (hv:v < 100)
   (hq:Q (if hd=.int v then about else .tup [.tup [.int top,.int k]]) σ):Fn (PM w) (n + 2) (.ref 128) [B9 A1 dn db dm,.int k,.int v] σ Q Y:=by
 refine B8 rfl rfl (Ajq fun _ _ _=>rfl) rfl fun R' Y' hR hY hRs hYs=>Acu h hD hk (Ahk (.val _) (.val _) (dI (fun q=>?_) fun q=>?_) Axf rfl (Be8 (Bq9 _ _) Azw))
 · rw [if_pos q] at hq; exact hR hq
 · rw [if_neg q] at hq
   exact A6 (k:=v) (by rw [tupI,Bf9,ht]; rfl) (hR hq) (Bj4 hv (by decide))
theorem Asl {parts v} (h1:∀ k,Acb parts v=some k->Q (.int k) σ) (h2:Acb parts v=none->Y "a value past its variable's top" σ):Fn (PM w) (n + 3) (.ref 140) [.tup (parts.map Au),.int v] σ Q Y:=by
 refine B8 rfl rfl (Ang fun _ _=>rfl) rfl fun R' Y' hR hY hRs hYs=>Ajw Au (α:=Unit) (fun _=>σ) (fun _=>[("value",.int v)]) (fun rs _=>Acb parts v=Acb rs v) parts () rfl rfl (Sub.refl _) rfl (fun _ e=>.go (hY (h2 e))) fun p rs a K hK e=>Ajo (dI (fun q=>hR (h1 _ ?_)) fun q=>hK () _ _ ?_ (Sub.refl _) rfl)
 · rw [e,Acb,Bk3,decide_eq_true q]; rfl
 · rw [e,Acb,Bk3,decide_eq_false q]; rfl
theorem Alq {k k0:Nat} {vals:V} {vs:List Int} {hd about:V} (R:Nat->V->V->Prop) (h:σ dn=some (.list D)) (Alm:Dv σ vals (.lst (vs.map .int))∨vals=.tup (vs.map .int)) (hd0:D[k]?=some (.tup [hd,about])) (hk:k < 1000) (hR0:R k0 hd about)
   (hR:∀ j hd ab,R j hd ab->(hd=.str "leaf"/\Q ab σ)∨∃ (v:Nat) (parts:List (Int × Nat)) (x:Int),hd=.int v/\v < 100/\ab=.tup (parts.map Au)/\vs[v]?=some x/\(Acb parts x=none->Y "a value past its variable's top" σ) ∧
    ∀ c,Acb parts x=some c->∃ hd' ab' j',j' < j/\c < 1000/\D[c]?=some (.tup [hd',ab'])/\R j' hd' ab'):Fn (PM w) (n + 4) (.ref 147) [B9 A1 dn db dm,.int k,vals] σ Q Y:=by
 refine B8 rfl rfl (Ajq fun _ _ _=>rfl) rfl fun R' Y' gR gY _ _=>Acu h hd0 hk ?_
 refine Az0 (α:=V × V) (fun _=>σ) (fun x=>[("head",x.1),("about",x.2),("diagrams",B9 A1 dn db dm),("values",vals)]) (fun j x=>R j x.1 x.2) k0 (hd,about) rfl hR0 (Sub.refl _) rfl ?_
 rintro j ⟨hd,ab⟩ K hK hr
 rcases hR j hd ab hr with ⟨rfl,hq⟩ | ⟨v,parts,x,rfl,hv,rfl,hx,Bai,Apy⟩
 · exact Anj (dF (fun h=>h rfl) (.go (gR hq)))
 · refine Afs (.val _) (.val _) (nT (fun e=>nomatch e) ?_) rfl rfl Ae8
   have fin:∀ {Q':V->Sto->Prop},Q' (.int x) σ->Su (PM w) (n + 3) vals (.int v) σ Q':=fun hq=>by
    have hx':(vs.map V.int)[v]?=some (.int x):=by rw [Bf9,hx]; rfl
    rcases Alm with Alm | rfl
    · exact Ab (k:=v) Alm hx' hq (Bj4 hv (by decide))
    · exact A6 (k:=v) hx' hq (Bj4 hv (by decide))
   refine fin (Asl (fun c hc=>?_) fun hc=>gY (Bai hc))
   obtain ⟨hd',ab',j',h1,h2,h3,h4⟩:=Apy c hc
   exact Acu h h3 h2 (hK j' (hd',ab') _ _ h1 h4 (Sub.refl _) rfl)
end
theorem keys_map {α:Type} {f:α->V} {l:List α} (h:∀ x,(f x).key=true):V.keys (l.map f)=true:=by
 induction l with
 | nil=>rfl
 | cons a r ih=>show ((f a).key && V.keys (r.map f))=true; rw [h,ih]; rfl
theorem Asj {α:Type} {f:α->V} {l:List α} {k:Nat} (h:∀ x,(f x).dep<=k):V.Be (l.map f)<=k:=by
 induction l with
 | nil=>exact Bh2 _
 | cons a r ih=>exact Cd6.mpr ⟨h a,ih⟩
theorem Aks {a l}:V.Be (a :: l)=max a.dep (V.Be l):=rfl
theorem Awf {l}:(V.tup l).dep=V.Be l + 1:=rfl
theorem Akc (j:List (Int × Nat)) (p:Int × Nat):(Aax j p).length<=j.length + 1:=by
 unfold Aax
 split
 · split
   · rw [Bf2,Ch5]; exact Bg4 (Bx8 ..)
   · rw [Bf2]; exact Bh7 _
 · exact Bq0 ..
theorem A7 {σ:Sto} {a b:Addr} {o:O} (h:σ a=some o) (hb:σ b=none):a≠b:=fun e=>by rw [e,hb] at h; cases h
section
variable {w:World} {n:Nat} {σ:Sto} {A1:List Nat} {dn db dm:Addr} {D:List V} {Q:V->Sto->Prop} {Y:Str->Sto->Prop}
theorem Apj {v top:Nat} {parts:List (Int × Nat)} (h:σ dn=some (.list D)) (hb:σ db=some (.Ad (Ap D))) (hne:dn≠db) (hl:D.length<=1000) (ht:A1[v]?=some top) (hv:v < 100) (hp:parts.length<=100)
   (h1:atEnd top parts≠top->Y "parts that do not rise up to the top" σ)
   (h2:∀ p,atEnd top parts=top->joined parts=[p]->Q (.int p.2) σ)
   (h3:atEnd top parts=top->(joined parts).length≠1->V.tup [.int v,.tup ((joined parts).map Au)]∈D->Q (.int (D.idxOf (V.tup [.int v,.tup ((joined parts).map Au)]):Nat)) σ)
   (h4:atEnd top parts=top->(joined parts).length≠1->V.tup [.int v,.tup ((joined parts).map Au)] ∉ D->Q (.int D.length) ((σ.put db (.Ad (Ap (D ++ [V.tup [.int v,.tup ((joined parts).map Au)]])))).put dn (.list (D ++ [V.tup [.int v,.tup ((joined parts).map Au)]])))) :
   Fn (PM w) (n + 3) (.ref 100) [B9 A1 dn db dm,.int v,.lst (parts.map Au)] σ Q Y:=by
 have hv':v < 1000000:=Bj4 hv (by decide)
 refine B8 rfl rfl (Ajq fun _ _ _=>rfl) rfl fun R' Y' hR hY hRs hYs=>.inl fun ja hja=>A6 (k:=v) (by rw [tupI,Bf9,ht]; rfl) ?_ hv'
 have nd:=A7 h hja
 have nb:=A7 hb hja
 have lj:∀ j:List (Int × Nat),j.length<=100->(j.map Au).length<=100000:=fun j hj=>by rw [Bf0]; exact Be8 hj (by decide)
 refine Ajw Au (α:=List (Int × Nat) × Int) (fun x=>σ.put ja (.list (x.1.map Au))) (fun x=>[("self",B9 A1 dn db dm),("variable",.int v),("joined",.loc ja),("top",.int top),("at",.int x.2)])
   (fun rs x=>rs.foldl Aax x.1=joined parts/\rs.foldl (Acy top) x.2=atEnd top parts/\x.1.length + rs.length<=100) parts ([],-1) rfl
   ⟨rfl,rfl,by rw [Bl2,Bk8]; exact hp⟩ (Sub.refl _) rfl ?_ ?_
 · rintro ⟨j,at_⟩ ⟨e2,e3,e4⟩
   cases e2; cases e3
   have sn:Sub σ (σ.put ja (.list ((joined parts).map Au))):=Sub.new (Sub.refl _) hja
   refine .go (Amh (dI (fun q=>hYs sn (h1 q)) fun qa=>Aa1 (.loc (Sto.A0 ..)) (lj _ e4) ?_))
   have qa:=Classical.not_not.mp qa
   rw [Bf0]
   refine Abx (dI (fun ql=>?_) fun ql=>?_)
   · obtain ⟨p,hp1⟩:=Bz0.mp (Bs1 ql)
     exact Ab (k:=0) (.loc (Sto.A0 ..)) (by rw [hp1]; rfl) (A6 (k:=1) rfl (hRs sn (h2 p qa hp1)))
   · have ql:(joined parts).length≠1:=fun e=>ql (congrArg Int.ofNat e)
     refine Aa7 (.loc (Sto.A0 ..)) (lj _ e4) ?_
     refine Ar2 (D:=D) (by rw [Sto.A4 _ _ nd]; exact h) (by rw [Sto.A4 _ _ nb]; exact hb) hne hl ?_ ?_ (fun hm=>hRs sn (h3 qa ql hm)) fun hm=>hRs (Sub.put (Sub.put sn _ _) _ _) (h4 qa ql hm)
     · exact (Cj7 _).trans (keys_map fun _=>rfl)
     · rw [Aks,Aks,Awf]
       exact Cd6.mpr ⟨Bh8 rfl,Cd6.mpr ⟨Bg4 (Asj fun _=>Bh8 rfl),Bh2 _⟩⟩
 · rintro p rs ⟨j,at_⟩ K hK ⟨e2,e3,e4⟩
   have e4':j.length + 1 + rs.length<=100:=by rw [Bh4]; exact e4
   have hj1:j.length + 1<=100:=Be8 (Bg9 ..) e4'
   refine Ahm (jI (.int (Acy top at_ p)) ?_ (fun q hq=>?_) fun q hq=>?_)
   · refine Aa1 (.loc (Sto.A0 ..)) (lj _ (Bl8 hj1)) ?_
     have I:Cb1 Aax (Aax j p) rs=joined parts/\Cb1 (Acy top) (Acy top at_ p) rs=atEnd top parts/\(Aax j p).length + rs.length<=100:=⟨e2,e3,Be8 (Bi6 (Akc ..) _) e4'⟩
     have hK:=fun σ' m'=>hK (Aax j p,Acy top at_ p) σ' m' I
     clear e2 e3 e4 I
     rw [Bf0]
     induction j using snoc with
     | h0=>
       refine Ahm (dF (Ck0 _) (Af (Sto.A0 ..) (Ae (Sto.A0 ..) (hK _ _ ?_ rfl) (Bh2 _))))
       rw [Sto.A9]; exact Sub.refl _
     | h1 js y=>
       have lj:=lj _ (Bl8 hj1)
       have hst:Aax (js ++ [y]) p=if y.2=p.2 then js ++ [p] else js ++ [y] ++ [p]:=by unfold Aax; rw [Ca6,Bt0]
       refine Ahm (dT (by rw [Bf2]; exact Int.natCast_pos.mpr (Bq1 _)) (Acd (.loc (Sto.A0 ..)) (getL _) (A6 (k:=1) rfl (Abx (dI (fun q=>?_) fun q=>?_)))))
       · rw [if_pos (Bs1 q)] at hst
         refine Ahe (Sto.A0 ..) (.inr ⟨rfl,rfl⟩) (Bay _) (hK _ _ ?_ rfl)
         rw [Sto.A9,hst]; exact (Bby (x:=y) (y:=p) Au).symm ▸ Sub.refl _
       · rw [if_neg fun e=>q (congrArg Int.ofNat e)] at hst
         refine Af (Sto.A0 ..) (Ae (Sto.A0 ..) (hK _ _ ?_ rfl) lj)
         rw [Sto.A9,hst,Bg2 (f:=Au) (l₁:=js ++ [y])]; exact Sub.refl _
   · rw [Acy,if_pos q] at hq; exact hq
   · rw [Acy,if_neg q] at hq; exact hq
theorem Ak8 {ps} (h1:∀ l a b,unlike 0 ps=some (l,a,b)->Q (.tup [.int l,.int a,.int b]) σ) (h2:unlike 0 ps=none->Y "no piece that parts" σ) :
   Fn (PM w) (n + 3) (.ref 161) [.lst (ps.map fun x=>Aqf (x.1,[x.2.1,x.2.2]))] σ Q Y:=by
 refine B8 rfl rfl (Aov fun _=>rfl) rfl fun R' Y' hR hY hRs hYs=>Ajw (fun x:Int × Nat × Nat=>Aqf (x.1,[x.2.1,x.2.2])) (α:=Int) (fun _=>σ) (fun x=>[("low",.int x)]) (fun rs x=>unlike x rs=unlike 0 ps) ps 0 rfl rfl (Sub.refl _) rfl (fun _ e=>.go (hY (h2 e.symm))) ?_
 rintro ⟨hi,a,b⟩ rs x K hK e2
 refine Ab (k:=0) (.val _) rfl (Ab (k:=1) (.val _) rfl (Amh (dI (fun q=>?_) fun q=>?_)))
 · exact Ab (k:=0) (.val _) rfl (Ab (k:=1) (.val _) rfl (hR (h1 _ _ _ (by rw [<- e2,Aiy,if_pos fun e=>q (congrArg Int.ofNat e)]))))
 · exact hK (hi + 1) _ _ (by rw [<- e2,Aiy,if_neg (fun h=>q fun e=>h (Bs1 e))]) (Sub.refl _) rfl
end
section
variable {w:World} {n:Nat} {σ:Sto} {A1:List Nat} {dn db dm:Addr} {D:List V} {Q:V->Sto->Prop} {Y:Str->Sto->Prop}
theorem all2 {α:Type} {a b:α} {p:α->Prop} (h1:p a) (h2:p b):∀ x∈[a,b],p x:=fun x hx=>by
 cases hx with
 | head=>exact h1
 | tail _ hx=>cases hx with | head=>exact h2 | tail _ hx=>cases hx
noncomputable abbrev pcV (x:Int × Nat × Nat):V:=Aqf (x.1,[x.2.1,x.2.2])
theorem Ast {a b la lb v top:Nat} {ha aa hb ab:V} {A B:List (Int × Nat)} (h:σ dn=some (.list D)) (hDa:D[a]?=some (.tup [ha,aa])) (hDb:D[b]?=some (.tup [hb,ab])) (hka:a < 1000) (hkb:b < 1000)
   (da:ha.dat=true) (da':ha.dep<=40) (dbt:hb.dat=true) (db':hb.dep<=40) (hla:As5 A1 ha=.int la) (hlb:As5 A1 hb=.int lb) (hv:v=min la lb) (ht:A1[v]?=some top) (hv':v < 100) (htl:A1.length<=100)
   (hA:(if ha=.int v then aa else .tup [.tup [.int top,.int a]])=.tup (A.map Au)) (hB:(if hb=.int v then ab else .tup [.tup [.int top,.int b]])=.tup (B.map Au)) (rA:Agt top (-1) A) (rB:Agt top (-1) B) (zA:A.length<=100) (zB:B.length<=100)
   (hq:Q (.tup [.int v,.lst ((Ac9 A B).map pcV)]) σ):Fn (PM w) (n + 3) (.ref 133) [B9 A1 dn db dm,.tup [.int a,.int b]] σ Q Y:=by
 have hv'':v < 1000000:=Bj4 hv' (by decide)
 have htv:(tupI A1)[v]?=some (V.int top):=by rw [tupI,Bf9,ht]; rfl
 have two:2<=100000:=by decide
 refine B8 rfl rfl (Ang fun _ _=>rfl) rfl fun R' Y' hR hY hRs hYs=>Aht rfl (Acv (β:=Nat × V × V × Nat) (fun x=>.int x.1) (fun x=>.int x.2.2.2) [(a,ha,aa,la),(b,hb,ab,lb)] rfl two ?_ fun acc B1=>?_)
 rotate_left
 · have nd:=A7 h B1
   exact all2 (fun vs K hK=>Afz (D:=D) (by rw [Sto.A4 _ _ nd]; exact h) hDa hka da da' (by rw [hla]; exact hK _ (Sub.refl _)) htl)
     fun vs K hK=>Afz (D:=D) (by rw [Sto.A4 _ _ nd]; exact h) hDb hkb dbt db' (by rw [hlb]; exact hK _ (Sub.refl _)) htl
 refine Arx (ns:=[(la:Int),(lb:Int)]) (.val _) (Nat.zero_lt_succ _) fun M hM hle=>?_
 have eM:M=(v:Int):=by
   have h1:=hle la (.head _)
   have h2:=hle lb (.tail _ (.head _))
   simp only [Bi0,Bj2,or_false] at hM
   rw [hv,<- r15]; exact Cn8 (Int.le_min.mpr ⟨h1,h2⟩) (hM.elim (fun e=>e ▸ Int.min_le_left ..) fun e=>e ▸ Int.min_le_right ..)
 subst eM
 refine Axg rfl rfl rfl (Acv (β:=Nat × V × V × List (Int × Nat)) (fun x=>.int x.1) (fun x=>.tup (x.2.2.2.map Au)) [(a,ha,aa,A),(b,hb,ab,B)] rfl two ?_ fun acc B1=>?_)
 rotate_left
 · have nd:=A7 h B1
   exact all2 (fun vs K hK=>Agr (D:=D) (by rw [Sto.A4 _ _ nd]; exact h) hDa hka da da' ht hv' (by rw [hA]; exact hK _ (Sub.refl _)))
     fun vs K hK=>Agr (D:=D) (by rw [Sto.A4 _ _ nd]; exact h) hDb hkb dbt db' ht hv' (by rw [hB]; exact hK _ (Sub.refl _))
 refine .inr (Aa1 (.val _) two (Avm (k:=2) (.val _) rfl (fun pa hpa=>.inl fun qa hqa=>?_) two two))
 have nab:pa≠qa:=A7 (Sto.A0 ..) hqa
 have hz:∀ {σ':Sto} {i j:Nat} {PV:List V},σ'=(σ.put pa (.list [.int i,.int j])).put qa (.list PV)->σ' pa=some (.list [.int i,.int j]):=fun e=>by rw [e,Sto.A4 _ _ nab,Sto.A0]
 refine Az0 (α:=Nat × Nat × Int × List (Int × Nat × Nat)) (fun x=>(σ.put pa (.list [.int x.1,.int x.2.1])).put qa (.list (x.2.2.2.map pcV))) (fun x=>[("diagrams",B9 A1 dn db dm),("variable",.int v),("sides",.lst [.tup (A.map Au),.tup (B.map Au)]),("places",.loc pa),("pieces",.loc qa),("high",.int x.2.2.1)])
   (fun k x=>Agt top x.2.2.1 (A.drop x.1)/\Agt top x.2.2.1 (B.drop x.2.1)/\x.2.2.2 ++ Ac9 (A.drop x.1) (B.drop x.2.1)=Ac9 A B/\k=(A.drop x.1).length + (B.drop x.2.1).length/\x.2.2.2.length + k<=200)
   (A.length + B.length) (0,0,-1,[]) rfl ⟨rA,rB,rfl,rfl,by rw [Bl2,Bk8]; exact Bo5 zA zB⟩ (Sub.refl _) rfl ?_
 rintro k ⟨i,j,hi,ps⟩ K hK ⟨r1,r2,r3,r4,r5⟩
 dsimp only at r1 r2 r3 r4 r5
 refine A6 (k:=v) htv (Arj (dI (fun q=>?_) fun q=>?_)) hv''
 · cases eA:A.drop i with
   | nil=>rw [eA] at r1; exact absurd (show hi=top from r1) (Int.ne_of_lt q)
   | cons p ra=>
   cases eB:B.drop j with
   | nil=>rw [eB] at r2; exact absurd (show hi=top from r2) (Int.ne_of_lt q)
   | cons s rb=>
   have hA':=eA; have hB':=eB
   rw [eA] at r1 r3 r4; rw [eB] at r2 r3 r4
   obtain ⟨g1,g2⟩:=drop_cons eA
   obtain ⟨g3,g4⟩:=drop_cons eB
   have one:1<=100000:=by decide
   have il:i < 1000000:=Bh0 (Bf8.mp g1).1 (Be8 zA (by decide))
   have jl:j < 1000000:=Bh0 (Bf8.mp g3).1 (Be8 zB (by decide))
   refine Axg rfl rfl rfl (Ads (Acv (β:=Nat × List (Int × Nat) × Nat × Int × Nat) (fun x=>.tup [.int x.1,.tup (x.2.1.map Au)]) (fun x=>Au x.2.2.2) [(0,A,i,p),(1,B,j,s)] rfl two ?_ fun acc B1=>?_))
   rotate_left
   · have hpl:=fun vs=>show (((σ.put pa (.list [.int i,.int j])).put qa (.list (ps.map pcV))).put acc (.list vs)) pa=some (.list [.int i,.int j]) by rw [Sto.A4 _ _ (A7 (hz rfl) B1)]; exact hz rfl
     exact all2 (fun vs K hK=>Ab (k:=0) (.loc (hpl vs)) rfl (A6 (k:=i) (by rw [Bf9,g1]; rfl) (hK _ (Sub.refl _)) il))
       fun vs K hK=>Ab (k:=1) (.loc (hpl vs)) rfl (A6 (k:=j) (by rw [Bf9,g3]; rfl) (hK _ (Sub.refl _)) jl)
   refine Aht rfl (Acv Au (fun x=>.int x.1) [p,s] rfl two ?_ fun acc B1 x hx vs K hK=>A6 (k:=0) rfl (hK _ (Sub.refl _)))
   refine Arx (ns:=[p.1,s.1]) (.val _) (Nat.zero_lt_succ _) fun M hM hle=>?_
   have hM1:=hle p.1 (.head _)
   have hM2:=hle s.1 (.tail _ (.head _))
   simp only [Bi0,Bj2,or_false] at hM
   refine Af (Sto.A0 ..) (Aht rfl (Acv Au (fun x=>.int x.2) [p,s] rfl two (Ae (Sto.A0 ..) (Ads ?_) ?_) fun acc B1 x hx vs K hK=>A6 (k:=1) rfl (hK _ (Sub.refl _))))
   rotate_left
   · rw [Bf0]; exact Be8 (Be8 (Bg9 ..) r5) (by decide)
   rw [Sto.A9]
   obtain ⟨δ1,hδ1⟩:∃ δ1,δ1=if p.1=M then 1 else 0:=⟨_,rfl⟩
   obtain ⟨δ2,hδ2⟩:∃ δ2,δ2=if s.1=M then 1 else 0:=⟨_,rfl⟩
   have y1:(p :: ra).length=A.length - i:=by rw [<- eA]; exact Bp0 ..
   have y2:(s :: rb).length=B.length - j:=by rw [<- eB]; exact Bp0 ..
   rw [Bh5] at y1 y2
   refine Aoh Au (α:=Nat × Nat) (fun x=>(σ.put pa (.list [.int x.1,.int x.2])).put qa (.list ((ps ++ [(M,p.2,s.2)]).map pcV))) (fun x=>[("diagrams",B9 A1 dn db dm),("variable",.int v),("sides",.lst [.tup (A.map Au),.tup (B.map Au)]),("places",.loc pa),("pieces",.loc qa),("high",.int M)])
     (fun k rs x=>(k=0/\rs=[p,s]/\x=(i,j))∨(k=1/\rs=[s]/\x=(i + δ1,j))∨(rs=[]/\x=(i + δ1,j + δ2))) [p,s] (i,j) rfl (.inl ⟨rfl,rfl,rfl⟩) (by rw [Bg2]; exact Sub.refl _) rfl ?_ ?_
   · rintro _ x (⟨_,e,_⟩ | ⟨_,e,_⟩ | ⟨_,rfl⟩)
     · cases e
     · cases e
     have dA:Agt top M (A.drop (i + δ1))/\Agt top M (B.drop (j + δ2))/\(M,p.2,s.2) :: Ac9 (A.drop (i + δ1)) (B.drop (j + δ2))=Ac9 (p :: ra) (s :: rb)/\1<=δ1 + δ2:=by
       obtain ⟨p1,p2⟩:=p
       obtain ⟨s1,s2⟩:=s
       dsimp only at *
       rcases Int.lt_trichotomy p1 s1 with hlt | heq | hgt
       · have eM:M=p1:=by exact hM.resolve_right fun e=>absurd (e ▸ hM1) (Bx9.mpr hlt)
         subst eM
         rw [if_pos rfl] at hδ1; rw [if_neg (Int.ne_of_gt hlt)] at hδ2
         subst hδ1; subst hδ2
         rw [g2,Nat.add_zero,eB]
         exact ⟨r1.2.2,r2.low hlt,by rw [Abu,if_neg (Int.ne_of_lt hlt),if_pos hlt],Bh7 _⟩
       · subst heq
         have eM:M=p1:=by lia
         subst eM
         rw [if_pos rfl] at hδ1 hδ2
         subst hδ1; subst hδ2
         rw [g2,g4]
         exact ⟨r1.2.2,r2.2.2,by rw [Abu,if_pos rfl],Bq0 ..⟩
       · have eM:M=s1:=by exact hM.resolve_left fun e=>absurd (e ▸ hM2) (Bx9.mpr hgt)
         subst eM
         rw [if_neg (Int.ne_of_gt hgt)] at hδ1; rw [if_pos rfl] at hδ2
         subst hδ1; subst hδ2
         rw [g4,Nat.add_zero,eA]
         exact ⟨r1.low hgt,r2.2.2,by rw [Abu,if_neg (Int.ne_of_gt hgt),if_neg (Int.lt_asymm hgt)],Bh7 _⟩
     obtain ⟨dA,dB,dC,dD⟩:=dA
     have z1:(A.drop (i + δ1)).length + (B.drop (j + δ2)).length + 1<=k:=by
       rw [Bp0,Bp0,r4,Bh5,Bh5]; exact rz y1 y2 (hM.imp (fun q=>by rw [hδ1,if_pos q.symm]) fun q=>by rw [hδ2,if_pos q.symm])
     refine .go (hK _ (i + δ1,j + δ2,M,ps ++ [(M,p.2,s.2)]) _ _ z1 ⟨dA,dB,?_,rfl,?_⟩ (Sub.refl _) rfl)
     · rw [<- r3,<- dC,Bj1]; rfl
     · rw [Bf2]; exact Be8 (by rw [Br6]; exact Bf4 (Bm0 1 _ ▸ z1) _) r5
   · rintro k' d r x K2 hK2 (⟨rfl,e,rfl⟩ | ⟨rfl,e,rfl⟩ | ⟨e,_⟩)
     · cases e
       refine A6 (k:=0) rfl (Abx (dI (fun q1=>?_) fun q1=>?_))
       · rw [if_pos q1] at hδ1
         refine .mk pa _ 0 0 i rfl rfl (hz rfl) rfl rfl (by decide) (.mk 1 rfl (hz rfl) (hK2 (i + δ1,j) _ _ (.inr (.inl ⟨rfl,rfl,rfl⟩)) ?_ rfl))
         rw [Sto.Ao _ _ _ nab.symm,Sto.A9,hδ1]
         exact Sub.refl _
       · rw [if_neg q1] at hδ1
         exact hK2 (i + δ1,j) _ _ (.inr (.inl ⟨rfl,rfl,rfl⟩)) (by rw [hδ1]; exact Sub.refl _) rfl
     · cases e
       refine A6 (k:=0) rfl (Abx (dI (fun q1=>?_) fun q1=>?_))
       · rw [if_pos q1] at hδ2
         refine .mk pa _ 1 1 j rfl rfl (hz rfl) rfl rfl (by decide) (.mk 1 rfl (hz rfl) (hK2 (i + δ1,j + δ2) _ _ (.inr (.inr ⟨rfl,rfl⟩)) ?_ rfl))
         rw [Sto.Ao _ _ _ nab.symm,Sto.A9,hδ2]
         exact Sub.refl _
       · rw [if_neg q1] at hδ2
         exact hK2 (i + δ1,j + δ2) _ _ (.inr (.inr ⟨rfl,rfl⟩)) (by rw [hδ2]; exact Sub.refl _) rfl
     · cases e
 · have hA0:A.drop i=[]:=by
     cases eA:A.drop i with
     | nil=>rfl
     | cons p ra=>rw [eA] at r1; exact absurd (Bo0 r1.1 r1.2.1) q
   have hB0:B.drop j=[]:=by
     cases eB:B.drop j with
     | nil=>rfl
     | cons p ra=>rw [eB] at r2; exact absurd (Bo0 r2.1 r2.2.1) q
   rw [hA0,hB0,Adm (.inl rfl),Bh6] at r3
   · refine .frz "pieces" rfl (Sto.A0 ..) (.go (hRs ?_ (r3 ▸ hq)))
     rw [Sto.Abn (by rw [Sto.A4 _ _ nab.symm]; rw [Sto.A4 _ _ nab.symm] at hqa; exact hqa)]
     exact Sub.new (Sub.refl _) hpa
end
section
variable {w:World} {n:Nat} {σ:Sto} {A1:List Nat} {dn db dm lg pl:Addr} {D:List V} {Q:V->Sto->Prop} {Y:Str->Sto->Prop}
theorem Amm {x} (hx:x.dat=true) (hx':x.dep<=40) (h1:Ar x=true->Q (.tup [x,.str ""]) σ) (h2:Ar x=false->Y "a leaf that is no verdict" σ):Fn (PM w) (n + 3) (.ref 217) [x] σ Q Y:=by
 refine B8 rfl rfl (Aov fun _=>rfl) rfl fun R' Y' hR hY hRs hYs=>Afn (.val _) ?_ hx rfl hx'
 refine nI (fun q=>hR (h1 (decide_eq_true q))) fun q=>hY (h2 (decide_eq_false q))
theorem Aua {k hd x} (h:σ dn=some (.list D)) (hD:D[k]?=some (.tup [hd,x])) (hk:k < 20) (h1:hd.dat=true) (h2:hd.dep<=40) (h3:hd=.str "leaf"->x.dat=true/\x.dep<=40)
   (hq:∀ v,Ajp D k=some v->Q v σ) (hy:Ajp D k=none->Y "a leaf that is no verdict" σ):Fn (PM w) (n + 4) (.ref 224) [B9 A1 dn db dm,.int k] σ Q Y:=by
 have hv:Ajp D k=if hd=.str "leaf" then (if Ar x then some (.tup [x,.str ""]) else none) else some (.tup [.str "goto",.str (nName k)]):=by unfold Ajp; rw [hD]
 refine B8 rfl rfl (Ang fun _ _=>rfl) rfl fun R' Y' hR hY hRs hYs=>Acu h hD (Bj4 hk (by decide)) (A6 (k:=0) rfl (Ahk (.val _) (.val _) (dI (fun q=>?_) fun q=>?_) h1 rfl Ae8))
 · rw [if_pos q] at hv
   refine A6 (k:=1) rfl (Amm (h3 q).1 (h3 q).2 (fun e=>?_) (fun e=>?_))
   · rw [if_pos e] at hv; exact hR (hq _ hv)
   · rw [if_neg (Bool.eq_false_iff.mp e)] at hv; exact hY (hy hv)
 · rw [if_neg q] at hv
   refine Ak7 (by lia) (by lia) (Aew (hR (hq _ hv)) ?_)
   rw [Bn6,show (Bf5 "n").length=1 by decide +kernel]
   exact Be8 (Bf4 (Adc k hk) 1) (by decide)
theorem Awy {names les nums name lo hi} (hlg:σ lg=some (.A5 les)) (hn:(Am les name=none/\nums=[])∨(Am les name=some (.tup (nums.map .int))/\nums≠[])) (hnl:nums.length<=1000)
   (hq:Q (.lst ((Aae nums lo hi).map Acs)) σ):Fn (PM w) (n + 1) (.ref 229) [Abl names A1 lg pl,.str name,.int lo,.int hi] σ Q Y:=by
 refine B8 rfl rfl (Aqc fun _ _ _ _=>rfl) rfl fun R' Y' hR hY hRs hYs=>Agw hlg ?_
 rcases hn with ⟨hd,rfl⟩ | ⟨hd,hne⟩
 · rw [hd]
   exact .inr (hR hq)
 · rw [hd]
   have hnl':nums.length<=100000:=Be8 hnl (by decide)
   refine Aht rfl (Ac hlg hd (Amx (lo:=some lo) (hi:=some (hi + 1)) rfl rfl ?_ (by rw [Bf0]; exact hnl')))
   rw [Alf]
   refine Acv V.int (fun k=>.tup [.int k,.int k]) _ rfl (Be8 (Agj ..) hnl') (hR ?_) fun acc B1 k hk vs K hK=>hK _ (Sub.refl _)
   rw [Aae,if_neg hne,Bi7] at hq
   exact hq
theorem Asn {names:List Str} {les:List (Str × V)} {name:Str} {v top lo hi:Nat} {a b:Int} (hlg:σ lg=some (.A5 les)) (hna:names[v]?=some name) (ht:A1[v]?=some top) (hv:v < 100) (hne:¬ (lo=0/\hi=top)) (hlo:lo < 1000) (hhi:hi < 1000)
   (hn:(Am les name=none/\a=lo/\b=hi)∨∃ nums:List Int,Am les name=some (.tup (nums.map .int))/\nums[lo]?=some a/\nums[hi]?=some b)
   (hq:Q (Abp name (Aaj a b)) σ):Fn (PM w) (n + 1) (.ref 250) [Abl names A1 lg pl,.int v,.tup [.int lo,.int hi]] σ Q Y:=by
 have hv':v < 1000000:=Bj4 hv (by decide)
 have fin:∀ {a' b':Int} {R':V->Sto->Prop},a'=a->b'=b->R' (Abp name (Aaj a b)) σ->(a'=b'->R' (Abp name (.tup [.str "num",.int a'])) σ)/\(¬ a'=b'->R' (Abp name (.tup [.str "span",.int a',.int b'])) σ):=fun e1 e2 h=>by
   subst e1 e2
   exact ⟨fun q=>by rw [Aaj,if_pos q] at h; exact h,fun q=>by rw [Aaj,if_neg q] at h; exact h⟩
 refine B8 rfl rfl (Ajq fun _ _ _=>rfl) rfl fun R' Y' hR hY hRs hYs=>A6 (k:=v) (by rw [Bf9,hna]; rfl) (A6 (k:=0) rfl (A6 (k:=1) rfl (Abx (Bd5 ?_ fun q hq=>?_)))) hv'
 · refine Ag5 hlg ?_
   rcases hn with ⟨hd,rfl,rfl⟩ | ⟨nums,hd,ha,hb⟩
   · rw [hd]
     have:=fin rfl rfl (hR hq)
     exact Abx (dI this.1 this.2)
   · rw [hd]
     have:=fin rfl rfl (hR hq)
     refine Ac hlg hd (A6 (k:=lo) (by rw [Bf9,ha]; rfl) (Ac hlg hd (A6 (k:=hi) (by rw [Bf9,hb]; rfl) (Abx (dI this.1 this.2)) (Bj4 hhi (by decide)))) (Bj4 hlo (by decide)))
 · exact A6 (k:=v) (by rw [tupI,Bf9,ht]; rfl) (Abx (dF (fun e=>hne ⟨Bs1 q,Bs1 e⟩) hq)) hv'
end
section
variable {w:World} {n:Nat} {σ:Sto} {A1:List Nat} {dn db dm lg pl:Addr} {D:List V} {Q:V->Sto->Prop} {Y:Str->Sto->Prop}
theorem Avk {names:List Str} {les:List (Str × V)} {nums:List Int} {name:Str} {v:Nat} {l:List (Nat × Nat)} (h:σ dn=some (.list D)) (hlg:σ lg=some (.A5 les)) (hna:names[v]?=some name) (hv:v < 100)
   (hn:(Am les name=none/\nums=[])∨(Am les name=some (.tup (nums.map .int))/\nums≠[])) (hnl:nums.length<=10) (hll:l.length<=10) (hch:∀ p∈l,Akr D p.2)
   (hq:∀ els,Ab0 (Ajp D) nums 0 l=some els->Q (Aoc name els) σ) (hy:Ab0 (Ajp D) nums 0 l=none->Y "a leaf that is no verdict" σ) :
   Fn (PM w) (n + 5) (.ref 236) [B9 A1 dn db dm,Abl names A1 lg pl,.tup [.int v,.tup (l.map Ad4)]] σ Q Y:=by
 have hl':∀ {ls:List V},ls.length<=200->ls.length<=100000:=fun h=>Be8 h (by decide)
 refine B8 rfl rfl (Ajq fun _ _ _=>rfl) rfl fun R' Y' hR hY hRs hYs=>A6 (k:=0) rfl (A6 (k:=v) (by rw [Bf9,hna]; rfl) (.inl fun ea hea=>A6 (k:=1) rfl ?_) (Bj4 hv (by decide)))
 have nd:=A7 h hea
 have nl:=A7 hlg hea
 refine Ajw Ad4 (α:=Nat × List V) (fun x=>σ.put ea (.list x.2)) (fun x=>[("diagrams",B9 A1 dn db dm),("space",Abl names A1 lg pl),("name",.str name),("low",.int x.1),("elements",.loc ea)])
   (fun rs x=>(∀ p∈rs,Akr D p.2)/\(Ab0 (Ajp D) nums x.1 rs).map (x.2 ++ ·)=Ab0 (Ajp D) nums 0 l/\x.2.length + 20 * rs.length<=200) l (0,[]) rfl
   ⟨hch,by simp,by rw [Bl2]; lia⟩ (Sub.refl _) rfl ?_ ?_
 · rintro ⟨low,els⟩ ⟨_,e3,e4⟩
   rw [Aow,Bl6,Bh6] at e3
   exact .go (Aa7 (.loc (Sto.A0 ..)) (hl' e4) (hRs (Sub.new (Sub.refl _) hea) (hq _ e3.symm)))
 · rintro p rs ⟨low,els⟩ K hK ⟨e2,e3,e4⟩
   obtain ⟨hd,x,k1,k2,k3,k4,k5⟩:=e2 p (.head _)
   refine A6 (k:=1) rfl (Aua (D:=D) (by rw [Sto.A4 _ _ nd]; exact h) k1 k2 k3 k4 k5 (fun vv hvv=>?_) fun hvv=>?_)
   · refine A6 (k:=0) rfl (Awy (by rw [Sto.A4 _ _ nl]; exact hlg) hn (Be8 hnl (by decide)) ?_)
     have hsl:(Aae nums low p.1).length<=20:=by
       unfold Aae
       split
       · exact Bh8 rfl
       · rw [Bf0]; exact Be8 (Agj ..) (Be8 hnl (by decide))
     rw [Bh5] at e4
     dsimp only at e3 e4
     refine Ajw Acs (α:=List V) (fun x=>σ.put ea (.list x)) (fun x=>[("diagrams",B9 A1 dn db dm),("space",Abl names A1 lg pl),("name",.str name),("elements",.loc ea),("part",Ad4 p),("verdict",vv)])
       (fun ss x=>x ++ ss.map (elV vv)=els ++ (Aae nums low p.1).map (elV vv)/\x.length + ss.length<=els.length + 20) _ els rfl ⟨rfl,Bf4 hsl _⟩ (Sub.refl _) rfl ?_ ?_
     · rintro y ⟨f2,f3⟩
       rw [Bq6,Bh6] at f2
       refine .go (A6 (k:=0) rfl (hK (p.1 + 1,y) _ _ ⟨fun q hq=>e2 q (.tail _ hq),?_,?_⟩ (Sub.refl _) rfl))
       · rw [<- e3,f2,Ae5,hvv]
         dsimp only
         cases Ab0 (Ajp D) nums (p.1 + 1) rs with
         | none=>rfl
         | some els'=>exact congrArg some (Bj1 ..)
       · rw [Bl2] at f3; dsimp only; exact Be8 (Bi6 f3 _) (by rw [Bt6] at e4; rw [Bh4]; exact e4)
     · rintro s ss y K2 hK2 ⟨f2,f3⟩
       rw [Bh5] at f3
       refine Af (Sto.A0 ..) (Ae (Sto.A0 ..) (hK2 (y ++ [elV vv s]) _ _ ⟨by rw [<- f2,Bj1]; rfl,?_⟩ (by rw [Sto.A9]; exact Sub.refl _) rfl) (hl' (by exact Be8 (Be8 (Bg9 ..) f3) (Be8 (Bf4 (Nat.le_mul_of_pos_right 20 (Bq1 _)) _) e4))))
       rw [Bf2]; exact Be8 (Bm3 (Bh4 ..)) f3
   · exact hYs (Sub.new (Sub.refl _) hea) (hy (by rw [<- e3,Ae5,hvv]; rfl))
theorem An4 {cost:Nat->Nat}:∀ {st:List (Nat × List V)},(∀ p∈st,1<=cost p.1)->st.length<=(st.map fun p=>cost p.1).sum
 | [],_=>Bh7 _
 | p :: r,h=>by
  have:=An4 (st:=r) fun q hq=>h q (.tail _ hq)
  have:=h p (.head _)
  simp only [Bh1,Cj1,Bh5]; lia
theorem Adn {v:Nat} {path:List V} {cost:Nat->Nat}:∀ {low:Nat} {l:List (Nat × Nat)},(Ad8 v path low l).map (fun p=>cost p.1)=l.map fun p=>cost p.2
 | _,[]=>rfl
 | _,(_,_) :: r=>by simp [Amb,Ams,Adn (l:=r)]
theorem Al0 {v:Nat} {path:List V} {ok:Nat->Prop}:∀ {low:Nat} {l:List (Nat × Nat)},(∀ p∈l,ok p.2)->∀ p∈Ad8 v path low l,ok p.1
 | _,[],_,p,hp=>by cases hp
 | _,(a,c) :: r,h,p,hp=>by
  rcases Bi0.mp hp with rfl | hp
  · exact h (a,c) (.head _)
  · exact Al0 (fun q hq=>h q (.tail _ hq)) p hp
theorem Agp {v path}:∀ {low l p},p∈Ad8 v path low l->p.2.length=path.length + 1
 | _,[],p,hp=>by cases hp
 | _,(a,c) :: r,p,hp=>by
  rcases Bi0.mp hp with rfl | hp
  · simp
  · exact Agp hp
theorem Auc:∀ {l:List Nat} {x:Nat},x∈l->x<=l.sum
 | a :: r,x,h=>by
  rcases Bi0.mp h with rfl | h
  · simp
  · have:=Auc h; simp; lia
theorem Ak1 {ws v path}:∀ {low l},Af8 ws (Ad8 v path low l)=(Adt ws v low l).map fun p=>(path ++ p.1,p.2)
 | _,[]=>rfl
 | low,(a,c) :: r=>by
  have:=Ak1 (ws:=ws) (v:=v) (path:=path) (low:=a + 1) (l:=r)
  unfold Af8 at this ⊢
  rw [Ams,Bt1,this,Aky,Bg2,Bi7]
  congr 1
  apply Bj6
  intro p _
  simp
theorem Awu {k most:Nat} (ws:Nat->List (List V × V)) (cost:Nat->Nat) (ok:Nat->Prop) (h:σ dn=some (.list D)) (hk:ok k)
  (hok:∀ k,ok k->k < 1000/\1<=cost k/\((∃ x,D[k]?=some (.tup [.str "leaf",x])/\ws k=[([],x)])∨∃ v l,D[k]?=some (.tup [.int (v:Nat),.tup (l.map Ad4)])/\l.length<=10/\(∀ p∈l,ok p.2)/\ws k=Adt ws v 0 l/\(l.map fun p=>cost p.2).sum + 1<=cost k))
  (Apw:(ws k).length<=most) (hm2:(ws k).length<=500) (hc:cost k<=500) (hq:Q (.lst ((ws k).map Aou)) σ):Fn (PM w) (n + 2) (.ref 168) [B9 A1 dn db dm,.int k,.int most] σ Q Y:=by
 refine B8 rfl rfl (Ajq fun _ _ _=>rfl) rfl fun R' Y' hR hY hRs hYs=>.inl fun fa hfa=>.inl fun sa hsa=>?_
 have nfs:fa≠sa:=A7 (Sto.A0 ..) hsa
 have hsa':σ sa=none:=by rw [Sto.A4 _ _ nfs.symm] at hsa; exact hsa
 have ndf:=A7 h hfa
 have nds:=A7 h hsa'
 have hl':∀ {α:Type} {f:α->V} {ls:List α} {z},ls.length<=500 + z->z<=1000->(ls.map f).length<=100000:=fun h h'=>by rw [Bf0]; lia
 refine Az0 (α:=List (List V × V) × List (Nat × List V)) (fun x=>(σ.put fa (.list (x.1.map Aou))).put sa (.list (x.2.map Apb)))
  (fun x=>[("diagrams",B9 A1 dn db dm),("most",.int most),("found",.loc fa),("stack",.loc sa)])
  (fun j x=>x.1 ++ Af8 ws x.2.reverse=ws k/\(∀ p∈x.2,ok p.1)/\j=(x.2.map fun p=>cost p.1).sum/\j<=500/\∀ p∈x.2,p.2.length + cost p.1<=500) (cost k) ([],[(k,[])]) rfl
  ⟨by simp [Af8],by simpa using hk,by simp,hc,by simpa using hc⟩ (Sub.refl _) rfl ?_
 rintro j ⟨f,st⟩ K hK ⟨g1,g2,g3,g4,g6⟩
 dsimp only at g1 g2 g3 g4 g6
 have g5:st.length<=j:=by rw [g3]; exact An4 fun p hp=>(hok _ (g2 p hp)).2.1
 have g7:st.length<=500 + 0:=Be8 g5 g4
 refine Aa1 (.loc (Sto.A0 ..)) (hl' g7 (Bh2 _)) ?_
 rw [Bf0]
 induction st using snoc with
 | h0=>
  refine Ahm (dF (Ck0 _) (.frz "found" rfl (by rw [Sto.A4 _ _ nfs,Sto.A0]) (.go (hRs (σ'':=σ) ?_ ?_))))
  · exact Sub.del (Sub.over (Sub.over (Sub.refl _) hfa) hsa') hfa
  · rw [show f=ws k from (Bh6 f).symm.trans g1]; exact hq
 | h1 st p=>
  obtain ⟨at_,path⟩:=p
  have hat:=g2 (at_,path) (Bi2 _ (.head _))
  obtain ⟨q1,q2,q3⟩:=hok at_ hat
  have g2':∀ p∈st,ok p.1:=fun p hp=>g2 p (Bi3 _ hp)
  have g6':∀ p∈st,p.2.length + cost p.1<=500:=fun p hp=>g6 p (Bi3 _ hp)
  have h2:=g6 (at_,path) (Bi2 _ (.head _))
  have hst:((σ.put fa (.list (f.map Aou))).put sa (.list ((st ++ [(at_,path)]).map Apb))) sa=some (.list (st.map Apb ++ [Apb (at_,path)])):=by rw [Sto.A0,Bg2]; rfl
  rw [Bf2] at g5 g7
  refine Ahm (dT (by rw [Bf2]; exact Int.natCast_pos.mpr (Bq1 _)) (Aju hst (Aq7 hst ?_ (hl' (Bl8 g7) (Bh2 _)))))
  rw [Sto.A9]
  have hg1:f ++ ((ws at_).map (fun p=>(path ++ p.1,p.2)) ++ Af8 ws st.reverse)=ws k:=by
    rw [<- g1,List.reverse_append]; rfl
  have Avr:f.length + (ws at_).length<=(ws k).length:=by rw [<- hg1,Bf2,Bf2,Bf0]; lia
  have hj:j=(st.map fun p=>cost p.1).sum + cost at_:=by rw [g3,Bg2,Cg1]; rfl
  have Af6:((σ.put fa (.list (f.map Aou))).put sa (.list (st.map Apb))) dn=some (.list D):=by rw [Sto.A4 _ _ nds,Sto.A4 _ _ ndf]; exact h
  have hfb:((σ.put fa (.list (f.map Aou))).put sa (.list (st.map Apb))) fa=some (.list (f.map Aou)):=by rw [Sto.A4 _ _ nfs,Sto.A0]
  have hfl:=hl' (f:=Aou) (ls:=f) (z:=0) (Be8 (Be8 (Bg9 ..) Avr) hm2) (Bh2 _)
  rcases q3 with ⟨x,d1,d2⟩ | ⟨v,l,d1,d2,d3,d4,d5⟩
  · rw [d2] at Avr hg1
    rw [Bo4] at Avr
    refine Acu Af6 d1 q1 (Aw (dT rfl (Aa1 (.loc hfb) hfl ?_)))
    rw [Bf0]
    refine Abx (dF (fun e=>?_) (Af hfb (Ae hfb (hK (st.map fun p=>cost p.1).sum (f ++ [(path,x)],st) _ _ ?_ ⟨?_,g2',rfl,?_,g6'⟩ ?_ rfl) hfl)))
    · have:=Bs1 e; lia
    · rw [hj]; exact By5 q2
    · rw [<- hg1,Bj1]; simp only [Bh1,Bq6,Bh6]
    · exact Be8 (Bk5 (by rw [hj]; exact By5 q2)) g4
    · rw [Sto.Ao _ _ _ nfs.symm,Sto.A9,Bg2]; exact Sub.refl _
  · refine Acu Af6 d1 q1 (Ahk (.val _) (.val _) (dF (fun e=>nomatch e) (.inl fun la hla=>?_)) rfl rfl Ae8)
    have nla_s:=A7 (Sto.A0 ..) hla
    have nla_f:=A7 hfb hla
    have Bdw:(σ.put fa (.list (f.map Aou))) la=none:=by rw [Sto.A4 _ _ nla_s.symm] at hla; exact hla
    refine Ajw Ad4 (α:=Nat × List (Nat × List V)) (fun x=>((σ.put fa (.list (f.map Aou))).put sa (.list (st.map Apb))).put la (.list (x.2.map Apb)))
      (fun x=>[("diagrams",B9 A1 dn db dm),("most",.int most),("found",.loc fa),("stack",.loc sa),("path",.tup path),("head",.int v),("later",.loc la),("low",.int x.1)])
      (fun rs x=>x.2 ++ Ad8 v path x.1 rs=Ad8 v path 0 l/\x.2.length + rs.length<=10) l (0,[]) rfl ⟨rfl,by rw [Bl2,Bk8]; exact d2⟩ (Sub.refl _) rfl ?_ ?_
    · rintro ⟨low,later⟩ ⟨e2,e3⟩
      dsimp only at e2 e3
      rw [Amb,Bh6] at e2
      rw [Bl2] at e3
      have hll:later.length<=500 + 0:=Be8 e3 (by decide)
      have hsb:(((σ.put fa (.list (f.map Aou))).put sa (.list (st.map Apb))).put la (.list (later.map Apb).reverse)) sa=some (.list (st.map Apb)):=by rw [Sto.A4 _ _ nla_s,Sto.A0]
      refine .go (Aoq (Sto.A0 ..) (Anu (Sto.A0 ..) ?_ (hl' hll (Bh2 _))))
      rw [Sto.A9]
      refine Apr hsb (Aph hsb (Sto.A0 ..) ?_ ?_)
      · rw [Sto.Ao _ _ _ nla_s.symm,Sto.A9,<- List.map_reverse,<- Bg2]
        have hc':((st ++ later.reverse).map fun p=>cost p.1).sum=(st.map fun p=>cost p.1).sum + (l.map fun p=>cost p.2).sum:=by
          rw [Bg2,Cg1,List.map_reverse,List.sum_reverse,e2,Adn]
        refine hK ((st ++ later.reverse).map fun p=>cost p.1).sum (f,st ++ later.reverse) _ _ ?_ ⟨?_,?_,rfl,?_,?_⟩ ?_ rfl
        · rw [hc',hj]; exact Nat.add_lt_add_left d5 _
        · rw [<- hg1,d4,<- Ak1,<- e2]; simp [Af8]
        · intro p hp
          rcases Bh9.mp hp with hp | hp
          · exact g2' p hp
          · rw [e2] at hp; exact Al0 d3 p (Ce7.mp hp)
        · rw [hc']; exact Be8 (Bf4 (Bl8 d5) _) (hj ▸ g4)
        · intro p hp
          rcases Bh9.mp hp with hp | hp
          · exact g6' p hp
          · rw [e2] at hp
            have h1:=Agp (Ce7.mp hp)
            have h3:=Auc (l:=(Ad8 v path 0 l).map fun p=>cost p.1) (Bh3.mpr ⟨p,Ce7.mp hp,rfl⟩)
            rw [Adn] at h3
            dsimp only at h2
            rw [h1,Br6,Bm0 1]; exact Be8 (Bf4 (Be8 (Bg4 h3) d5) _) h2
        · exact Sub.new (Sub.refl _) (by rw [Sto.A4 _ _ nla_s.symm]; exact Bdw)
      · rw [Ci4,Bf0,Bf0]; exact Be8 (Bo5 (Bl8 g7) hll) (by decide)
    · rintro p rs ⟨low,later⟩ K2 hK2 ⟨e2,e3⟩
      dsimp only at e2 e3
      rw [Bh5] at e3
      have hll:later.length<=500 + 0:=Be8 (Be8 (Bg9 ..) e3) (by decide)
      refine Af (Sto.A0 ..) (Aly (Ae (Sto.A0 ..) (hK2 (p.1 + 1,later ++ [(p.2,path ++ [Aeb v low p.1])]) _ _ ⟨by rw [<- e2,Bj1]; rfl,?_⟩ ?_ rfl) (hl' hll (Bh2 _))) ?_)
      · rw [Bf2]; exact Be8 (Bm3 (Bh4 ..)) e3
      · rw [Sto.A9,Bg2]; exact Sub.refl _
      · dsimp only at h2; simp only [Bh5,Bl2]; lia
end
section
variable {w:World} {n:Nat} {σ:Sto} {A1:List Nat} {dn db dm lg pl:Addr} {D:List V} {Q:V->Sto->Prop} {Y:Str->Sto->Prop}
theorem Aex {names x}:Am (placeOf names) x=if x∈names then some (.int (names.idxOf x:Nat)) else none:=by
 have:∀ (D:List Str) (k:Nat),Am ((D.zipIdx k).map fun x=>(x.1,V.int (x.2:Nat))) x=if x∈D then some (.int ((D.idxOf x + k:Nat):Int)) else none:=by
  intro D
  induction D with
  | nil=>intro k; rfl
  | cons d r ih=>
   intro k
   have ih':=ih (k + 1)
   unfold Am at ih' ⊢
   rw [List.zipIdx_cons,Bh1,Bk3]
   by_cases h:d=x
   · subst h; simp
   · have h':x≠d:=fun e=>h e.symm
     rw [show decide ((d,V.int (k:Int)).1=x)=false by simp [h]]
     dsimp only
     rw [ih']
     simp only [Bi0,h',false_or]
     by_cases q:x∈r
     · rw [if_pos q,if_pos q,Cb4,show (d == x)=false by simp [h]]
       simp only [cond_false]; congr 3; exact Bh4 (Cp2 x r) k 1
     · rw [if_neg q,if_neg q]
 exact this names 0
theorem Atq {pr d} (hd:Am Ah3 pr=some d) (hq:Q d σ):Fn (PM w) (n + 3) (.ref 196) [.str pr] σ Q Y:=by
 refine B8 rfl rfl (Aov fun _=>rfl) rfl fun R' Y' hR hY hRs hYs=>?_
 refine Afl ?_
 intro a ha
 have hs:(σ.put a (.A5 Ah3)) a=some (.A5 Ah3):=Sto.A0 ..
 refine Agw (es:=Ah3) hs ?_
 rw [hd]
 exact Ac (es:=Ah3) hs hd (hRs (Sub.new (Sub.refl _) ha) hq)
theorem Aol {names:List Str} {k:Nat} {x:Str} (hnd:names.Nodup) (g1:names[k]?=some x):dput (placeOf (names.take k)) x (V.int (k:Nat))=placeOf (names.take (k + 1)):=by
 have hlt:k < names.length:=(Bf8.mp g1).1
 have htk:names.take (k + 1)=names.take k ++ [x]:=by rw [Cd3,g1]; rfl
 unfold dput
 rw [if_neg,htk]
 · unfold placeOf
   rw [List.zipIdx_append,Bg2,Bn5,Bs0 (Bk5 hlt)]
   show _=_ ++ [(x,V.int ((0 + k:Nat):Int))]
   rw [Bk8]
 · simp only [placeOf,Cl0,Bx3,Bt2,decide_eq_true_eq,not_exists,not_and]
   rintro ⟨y,j⟩ hy rfl
   have hm:=(List.mem_zipIdx hy).2.2
   have h2:(names.take k ++ [y]).Nodup:=by rw [<- htk]; exact (List.take_sublist ..).nodup hnd
   exact (Bm6.mp h2).2.2 _ (by rw [hm]; exact Bl7 _) _ (.head _) rfl
theorem At3 {names:List Str} (hnl:names.length<=100) (hnd:names.Nodup) (hq:∀ pl,σ pl=none->Q (Abl names A1 lg pl) (σ.put pl (.A5 (placeOf names)))) :
   Fn (PM w) (n + 2) (.ref 185) [.tup (names.map .str),.tup (tupI A1),.loc lg] σ Q Y:=by
 refine As4 (Auz (fI:=182) (by kernel_rfl) (by kernel_rfl) (by kernel_rfl) fun dx hdx=>?_)
 refine B8 rfl rfl (Aqc fun _ _ _ _=>rfl) rfl fun R' Y' hR hY hRs hYs=>.mk _ (Sto.A0 ..) rfl (Bh2 _) ?_
 rw [Sto.A9]
 refine .mk _ (Sto.A0 ..) rfl (Bh8 rfl) ?_
 rw [Sto.A9]
 refine .mk _ (Sto.A0 ..) rfl (Bh8 rfl) ?_
 rw [Sto.A9]
 refine Ajm fun pl hpl=>?_
 have npd:dx≠pl:=A7 (Sto.A0 ..) hpl
 have Be4:σ pl=none:=by rw [Sto.A4 _ _ npd.symm] at hpl; exact hpl
 refine .mk _ (by rw [Sto.A4 _ _ npd,Sto.A0]) rfl (Bh8 rfl) ?_
 rw [Sto.Ao _ _ _ npd.symm,Sto.A9]
 refine Asx ?_
 simp only [Bx2,Cb3]
 generalize Bco:([("names",V.tup (names.map .str)),("tops",.tup (tupI A1)),("legal",.loc lg),("place",.loc pl)]:List (Str × V))=att
 have hdx':∀ k,((σ.put dx (.attrs att)).put pl (.A5 (placeOf (names.take k)))) dx=some (.attrs att):=fun k=>by rw [Sto.A4 _ _ npd,Sto.A0]
 refine Aoh V.str (α:=Nat) (fun k=>(σ.put dx (.attrs att)).put pl (.A5 (placeOf (names.take k)))) (fun _=>[("self",.inst 185 dx)]) (fun k rs a=>a=k/\names.drop k=rs) names 0 rfl ⟨rfl,rfl⟩ (Sub.refl _) rfl ?_ ?_
 · rintro k _ ⟨rfl,hk⟩
   refine .go (hR ⟨rfl,185,dx,att,rfl,hdx' _,?_⟩)
   rw [Bu2 (List.drop_eq_nil_iff.mp hk),show ((σ.put dx (.attrs att)).put pl (.A5 (placeOf names))).del dx=σ.put pl (.A5 (placeOf names)) from ?_,<- Bco]
   · exact hq pl Be4
   · rw [Sto.Ao _ _ _ npd]; exact Sto.Abn (by rw [Sto.A4 _ _ npd]; exact hdx)
 · rintro k x xs _ K hK ⟨rfl,h1⟩
   obtain ⟨g1,g2⟩:=drop_cons h1
   refine .mk att (.loc pl) (hdx' _) (by rw [<- Bco]; rfl) (Ag3 (Sto.A0 ..) (hK (_ + 1) _ _ ⟨rfl,g2⟩ ?_ rfl) ?_)
   · rw [Sto.A9,Aol hnd g1]; exact Sub.refl _
   · rw [placeOf,Bf0,Cj4,Bn5]; exact Be8 (Bm4 ..) (Be8 hnl (by decide))
theorem Aid:(Bf5 " stands ahead of ").length=17:=by decide +kernel
theorem Akd {names:List Str} {pr:Str->Str} {nd:Str->List (Str × Int)} (hpl:σ pl=some (.A5 (placeOf names))) (hnl:names.length<=100) (hok:∀ x∈names,Aec x (pr x) (nd x))
   (h1:B2 nd names names=none->Q .none σ) (h2:∀ y,B2 nd names names=some y->Y y σ):Fn (PM w) (n + 4) (.ref 203) [Abl names A1 lg pl] σ Q Y:=by
 have l100:∀ {k},k<=100->k<=100000:=fun h=>Be8 h (by decide)
 refine B8 rfl rfl (Aov fun _=>rfl) rfl fun R' Y' hR hY hRs hYs=>Ajw V.str (α:=Unit) (fun _=>σ) (fun _=>[("space",Abl names A1 lg pl)]) (fun rs _=>(∀ x∈rs,x∈names)/\B2 nd names rs=B2 nd names names) names () rfl ⟨fun x h=>h,rfl⟩ (Sub.refl _) rfl (fun _ e=>.go (hR (h1 e.2.symm))) ?_
 rintro x rs a K hK ⟨e2,e3⟩
 have hx:=hok x (e2 x (.head _))
 obtain ⟨ps,k3,k3'⟩:=hx.k3
 have hxn:=e2 x (.head _)
 have e3':B2 nd names (x :: rs)=match (nd x).find? fun q=>decide (q.1∈names/\names.idxOf x < names.idxOf q.1) with
   | some q=>some (Ahr x q.1)
   | none=>B2 nd names rs:=rfl
 rw [e3] at e3'
 refine Amj (Ame (ps:=pr x :: ps) hx.k1 rfl hx.k2 k3 (l100 hx.len) (Nat.succ_le_of_lt (Bg7 k3' (by decide))) (Ab (k:=0) (.val _) rfl (Ap1 (ds:=[V.str "meta",V.str "ct"]) (.val _) (jI (.tup ((nd x).map Ae9)) ?_ (fun q hq=>?_) fun q hq=>?_) rfl rfl (Bh2 _))))
 rotate_left
 · rcases hx.k4 with ⟨_,q2⟩ | ⟨q1,_⟩
   · rw [q2] at hq; exact hq
   · exact absurd (by simpa using q) q1
 · rcases hx.k4 with ⟨q1,_⟩ | ⟨_,q2⟩
   · exact absurd (by simpa using q1) q
   · exact Atq q2 hq
 refine Ajw Ae9 (α:=Unit) (fun _=>σ) (fun _=>[("space",Abl names A1 lg pl),("name",.str x)])
   (fun qs _=>(∀ q∈qs,q∈nd x)/\(qs.find? fun q=>decide (q.1∈names/\names.idxOf x < names.idxOf q.1))=(nd x).find? fun q=>decide (q.1∈names/\names.idxOf x < names.idxOf q.1)) (nd x) () rfl ⟨fun q h=>h,rfl⟩ (Sub.refl _) rfl ?_ ?_
 · rintro a ⟨_,f3⟩
   rw [<- f3] at e3'
   exact .go (hK () _ _ ⟨fun y hy=>e2 y (.tail _ hy),e3'.symm⟩ (Sub.refl _) rfl)
 · rintro q qs a K2 hK2 ⟨f2,f3⟩
   rw [Bk3] at f3
   have goOn:decide (q.1∈names/\names.idxOf x < names.idxOf q.1)=false->(∀ q∈qs,q∈nd x)/\(qs.find? fun q=>decide (q.1∈names/\names.idxOf x < names.idxOf q.1))=(nd x).find? fun q=>decide (q.1∈names/\names.idxOf x < names.idxOf q.1):=fun h=>by
     rw [h] at f3
     exact ⟨fun y hy=>f2 y (.tail _ hy),f3⟩
   refine A6 (k:=0) (d:=.str q.1) rfl (Ag5 hpl ?_)
   rw [Aex]
   by_cases hm:q.1∈names
   · rw [if_pos hm]
     refine A6 (k:=0) (d:=.str q.1) rfl (Ac hpl (by rw [Aex,if_pos hm]) (Ac hpl (by rw [Aex,if_pos hxn]) (Ahm (dI (fun hlt=>?_) fun hlt=>?_))))
     · have hlt:=Bn2.mp hlt
       have l1:=hx.len
       have l2:=hx.k5 q (f2 q (.head _))
       have l3:=Aid
       refine Aew (A6 (k:=0) (d:=.str q.1) rfl (Aew (hY (h2 _ ?_)) ?_)) ?_
       · rw [e3',<- f3,decide_eq_true ⟨hm,hlt⟩]
         rfl
       · rw [strLen_append,Bn6]; rw [l3]; exact Be8 (Bo5 (Bi6 l1 17) l2) (by decide)
       · rw [Bn6]; rw [l3]; exact Be8 (Bi6 l1 17) (by decide)
     · exact hK2 () _ _ (goOn (decide_eq_false fun h=>hlt (Bn2.mpr h.2))) (Sub.refl _) rfl
   · rw [if_neg hm]
     exact hK2 () _ _ (goOn (decide_eq_false fun h=>hm h.1)) (Sub.refl _) rfl
end
noncomputable abbrev nV (m:Nat):V:=.int m
theorem Aqz {α:Type} {A:List α} {x:α}:(A ++ [x]).isEmpty=false:=by cases A <;> rfl
theorem nd1 {α:Type} {a:α}:[a].Nodup:=Br9.mpr ⟨Bj2,Co2⟩
noncomputable def Ab3 (S:List Nat):List Nat->Nat
 | []=>0
 | a :: l=>(if a∈S then 0 else 1) + Ab3 S l
theorem Au1:∀ (S:List Nat) (a:Nat) (l:List Nat),Ab3 S (a :: l)=(if a∈S then 0 else 1) + Ab3 S l:=by intros; rfl
theorem Aic {S:List Nat} {c a:Nat}:(if a∈S ++ [c] then 0 else 1)<=(if a∈S then 0 else 1):=by
 by_cases h:a∈S
 · simp [h]
 · by_cases h2:a=c <;> simp [h,h2]
theorem Akw {S:List Nat} {c:Nat}:∀ (l:List Nat),Ab3 (S ++ [c]) l<=Ab3 S l
 | []=>Bh7 _
 | a :: l=>Bo5 Aic (Akw l)
theorem Agx {S:List Nat} {c:Nat} (hc:c ∉ S):∀ (l:List Nat),c∈l->Ab3 (S ++ [c]) l + 1<=Ab3 S l
 | [],h=>by cases h
 | a :: l,h=>by
  have l1:=Akw (S:=S) (c:=c) l
  have l3:=Aic (S:=S) (c:=c) (a:=a)
  simp only [Au1]
  rcases Bi0.mp h with e | e
  · subst e
    have e1:(if c∈S ++ [c] then 0 else 1)=0:=if_pos (by simp)
    have e2:(if c∈S then 0 else 1)=1:=if_neg hc
    rw [e1,if_neg hc,Bk8,Bm0 1]; exact Bg4 l1
  · have l2:=Agx hc l e
    exact rw1 l3 l2
noncomputable def Af3 (S:List Nat):List (Int × V):=S.map fun s:Nat=>((s:Int),V.bool true)
theorem Ap7 {S:List Nat} {c:Nat}:(Am (Af3 S) (c:Int)).isSome=decide (c∈S):=by
 unfold Am Af3
 induction S with
 | nil=>rfl
 | cons s r ih=>
  rw [Bh1,Bk3]
  by_cases h:s=c
  · subst h; simp
  · rw [show decide (((s:Int),V.bool true).1=(c:Int))=false by simp; lia]
    dsimp only
    rw [ih]
    have:c≠s:=fun e=>h e.symm
    simp [this]
theorem Ars {S:List Nat} {c:Nat} (h:c ∉ S):dput (Af3 S) (c:Int) (.bool true)=Af3 (S ++ [c]):=by
 unfold dput
 rw [if_neg]
 · simp [Af3]
 · simp only [Af3,Cl0,Bx3,Bt2,decide_eq_true_eq,not_exists,not_and]
   intro s hs e
   have:s=c:=by lia
   exact h (this ▸ hs)
inductive InI (ch:Nat->Option (List Nat)) (reach:Nat->Prop) (k j:Nat) (S M T:List Nat):Prop
 | mk (h1:k∈S) (h2:∀ t∈T,t∈S) (h3:∀ m∈M,m∈S/\ch m≠none/\m ∉ T) (h4:M.Nodup) (h5:T.Nodup) (h6:∀ s∈S,reach s) (h7:∀ s∈S,s∈T∨ch s=none∨(s∈M/\∀ cs,ch s=some cs->∀ c∈cs,c∈S)) (h8:j=T.length + 2 * Ab3 S (Bi1 20))
  (h9:M.length + T.length + Ab3 S (Bi1 20)<=20) (h10:S.length + Ab3 S (Bi1 20)<=20)
inductive InJ (reach:Nat->Prop) (l:List (Nat × Nat)) (S M T:List Nat) (one:Nat) (rs:List (Nat × Nat)) (S' T':List Nat):Prop
 | mk (h1:∀ p∈rs,p∈l) (h2:∀ s∈S,s∈S') (h3:∀ p∈l,p∈rs∨p.2∈S') (h4:∀ t∈T',t∈S') (h5:T'.Nodup) (h6:∀ m∈M ++ [one],m ∉ T') (h7:∀ s∈S',reach s) (h8:∀ s∈S',s∈S∨s∈T') (h9:∀ t∈T,t∈T')
  (h10:T'.length + 2 * Ab3 S' (Bi1 20)<=T.length + 2 * Ab3 S (Bi1 20)) (h11:M.length + 1 + T'.length + Ab3 S' (Bi1 20)<=20) (h12:S'.length + Ab3 S' (Bi1 20)<=20)
section
variable {w:World} {n:Nat} {σ:Sto} {A1:List Nat} {dn db dm lg pl:Addr} {D:List V} {Q:V->Sto->Prop} {Y:Str->Sto->Prop}
structure Met (ch:Nat->Option (List Nat)) (reach:Nat->Prop) (number:Nat) (M:List Nat):Prop where
 nd:M.Nodup
 inn:∀ m∈M,reach m/\ch m≠none
 all:∃ S:List Nat,number∈S/\∀ s∈S,ch s=none∨(s∈M/\∀ cs,ch s=some cs->∀ c∈cs,c∈S)
theorem Au0 {k:Nat} (ch:Nat->Option (List Nat)) (reach:Nat->Prop) (h:σ dn=some (.list D)) (hk:reach k)
   (hok:∀ k,reach k->k < 20/\((∃ x,D[k]?=some (.tup [.str "leaf",x])/\ch k=none)∨∃ (v:Nat) (l:List (Nat × Nat)),D[k]?=some (.tup [.int (v:Nat),.tup (l.map Ad4)])/\l.length<=10/\ch k=some (l.map (·.2))/\∀ p∈l,reach p.2))
   (hq:∀ M,Met ch reach k M->M.length<=20->Q (.lst (M.map fun m:Nat=>V.int (m:Int))) σ):Fn (PM w) (n + 2) (.ref 210) [B9 A1 dn db dm,.int k] σ Q Y:=by
 have hl':∀ {ls:List Nat},ls.length<=20->(ls.map nV).length<=100000:=fun h=>by rw [Bf0]; exact Be8 h (by decide)
 refine B8 rfl rfl (Ang fun _ _=>rfl) rfl fun R' Y' hR hY hRs hYs=>?_
 refine Av9 ?_
 refine fun sa hsa=>.inl fun ma hma=>.inl fun ta hta=>?_
 have nsm:sa≠ma:=A7 (Sto.A0 ..) hma
 have nmt:ma≠ta:=A7 (Sto.A0 ..) hta
 have nst:sa≠ta:=A7 (by rw [Sto.A4 _ _ nsm]; exact Sto.A0 ..) hta
 have hm0:σ ma=none:=by rw [Sto.A4 _ _ nsm.symm] at hma; exact hma
 have ht0:σ ta=none:=by rw [Sto.A4 _ _ nmt.symm,Sto.A4 _ _ nst.symm] at hta; exact hta
 have nds:=A7 h hsa
 have ndm:=A7 h hm0
 have ndt:=A7 h ht0
 have u0:=Agx (S:=[]) (c:=k) (fun h=>nomatch h) (Bi1 20) (Bk7.mpr (hok k hk).1)
 rw [show Ab3 [] (Bi1 20)=20 from rfl] at u0
 refine Az0 (α:=List Nat × List Nat × List Nat) (fun x=>((σ.put sa (.Acf (Af3 x.1))).put ma (.list (x.2.1.map nV))).put ta (.list (x.2.2.map nV)))
   (fun x=>[("diagrams",B9 A1 dn db dm),("seen",.loc sa),("met",.loc ma),("todo",.loc ta)])
   (fun j x=>InI ch reach k j x.1 x.2.1 x.2.2)
   (1 + 2 * Ab3 [k] (Bi1 20)) ([k],[],[k]) rfl ⟨.head _,fun t h=>h,fun _ h=>absurd h Bj2,Co2,nd1,by simpa using hk,fun s h=>.inl h,rfl,?_,?_⟩ (Sub.refl _) rfl ?_
 · show 1 + Ab3 [k] (Bi1 20)<=20; rw [Bm0]; exact u0
 · show 1 + Ab3 [k] (Bi1 20)<=20; rw [Bm0]; exact u0
 rintro j ⟨S,M,T⟩ K hK ⟨i1,i2,i3,i4,i5,i6,i7,i8,i9,i10⟩
 dsimp only at i1 i2 i3 i4 i5 i6 i7 i8 i9 i10
 have hMl:M.length<=20:=Be8 (Be8 (Bg9 ..) (Bg9 ..)) i9
 have hTl:T.length<=20:=Be8 (Be8 (Bq0 ..) (Bg9 ..)) i9
 refine .mk _ (.list (.loc (Sto.A0 ..)) (hl' hTl)) ?_
 induction T using snoc with
 | h0=>
   refine .frz "met" rfl (by rw [Sto.A4 _ _ nmt,Sto.A0]) (.go (hRs (σ'':=σ) (Sub.del (Sub.over (Sub.over (Sub.new (Sub.refl _) hsa) hm0) ht0) hm0) (hq M ⟨i4,fun m hm=>⟨i6 m (i3 m hm).1,(i3 m hm).2.1⟩,S,i1,fun s hs=>?_⟩ hMl)))
   rcases i7 s hs with h | h
   · cases h
   · exact h
 | h1 T one=>
   rw [Bg2]
   have hol:one∈T ++ [one]:=Bi2 _ (.head _)
   have Bbk:=i6 one (i2 one hol)
   obtain ⟨q1,q2⟩:=hok one Bbk
   have q1':one < 1000:=Bj4 q1 (by decide)
   have hnT:one ∉ T/\T.Nodup:=by
     rw [Bm6] at i5
     exact ⟨fun hm=>i5.2.2 one hm one (.head _) rfl,i5.1⟩
   have hnM:one ∉ M:=fun hm=>(i3 one hm).2.2 hol
   have hTM:∀ m∈M,m ∉ T:=fun m hm e=>(i3 m hm).2.2 (Bi3 _ e)
   have i2':∀ t∈T,t∈S:=fun t ht=>i2 t (Bi3 _ ht)
   rw [Bf2] at i8 i9 hTl
   rw [Bo4] at i8 i9
   rw [show ((T.map nV) ++ [one].map nV).isEmpty=false from Aqz]
   refine Aju (Sto.A0 ..) (Aq7 (Sto.A0 ..) ?_ (hl' (Bl8 hTl)))
   rw [Sto.A9]
   have Af6:(((σ.put sa (.Acf (Af3 S))).put ma (.list (M.map nV))).put ta (.list (T.map nV))) dn=some (.list D):=by rw [Sto.A4 _ _ ndt,Sto.A4 _ _ ndm,Sto.A4 _ _ nds]; exact h
   rcases q2 with ⟨x,d1,d2⟩ | ⟨v,l,d1,d2,d3,d4⟩
   · refine Acu Af6 d1 q1' (A6 (k:=0) rfl (Aw (dT rfl (hK (T.length + 2 * Ab3 S (Bi1 20)) (S,M,T) _ _ ?_ ⟨i1,i2',fun m hm=>⟨(i3 m hm).1,(i3 m hm).2.1,hTM m hm⟩,i4,hnT.2,i6,fun s hs=>?_,rfl,?_,i10⟩ (Sub.refl _) rfl))))
     · rw [i8,Bh4]; exact Br2 _
     · rcases i7 s hs with e | e
       · rcases Bh9.mp e with e | e
         · exact .inl e
         · rw [Bf7.mp e]; exact .inr (.inl d2)
       · exact .inr e
     · dsimp only; exact Be8 (Bi6 (Bm9 _) _) i9
   · have hmb:(((σ.put sa (.Acf (Af3 S))).put ma (.list (M.map nV))).put ta (.list (T.map nV))) ma=some (.list (M.map nV)):=by rw [Sto.A4 _ _ nmt,Sto.A0]
     refine Acu Af6 d1 q1' (A6 (k:=0) rfl (Ahk (.val _) (.val _) (dF (fun e=>nomatch e) (Af hmb (Ae hmb ?_ (hl' hMl)))) rfl rfl Ae8))
     rw [Sto.Ao _ _ _ nmt.symm,Sto.A9]
     refine A6 (k:=1) rfl ?_
     refine Ajw Ad4 (α:=List Nat × List Nat) (fun x=>((σ.put sa (.Acf (Af3 x.1))).put ma (.list ((M ++ [one]).map nV))).put ta (.list (x.2.map nV)))
       (fun x=>[("diagrams",B9 A1 dn db dm),("seen",.loc sa),("met",.loc ma),("todo",.loc ta)])
       (fun rs x=>InJ reach l S M T one rs x.1 x.2) l (S,T) rfl
       ⟨fun p h=>h,fun s h=>h,fun p h=>.inl h,i2',hnT.2,Aa9 hTM hnT.1,i6,fun s h=>.inl h,fun t h=>h,Bh7 _,by dsimp only; rw [Bh4 M.length 1]; exact i9,i10⟩ (by rw [Bg2]; exact Sub.refl _) rfl ?_ ?_
     · rintro ⟨S',T'⟩ ⟨_,e3,e4,e5,e6,e7,e8,e9,e10,e11,e12,e13⟩
       dsimp only at e3 e4 e5 e6 e7 e8 e9 e10 e11 e12 e13
       refine .go (hK (T'.length + 2 * Ab3 S' (Bi1 20)) (S',M ++ [one],T') _ _ (by rw [i8,Bh4]; exact Bp3 e11) ⟨e3 _ i1,e5,fun m hm=>⟨?_,?_,e7 m hm⟩,?_,e6,e8,fun s hs=>?_,rfl,by rw [Bf2]; exact e12,e13⟩ (Sub.refl _) rfl)
       · exact Aa9 (fun m hm=>e3 _ (i3 m hm).1) (e3 _ (i2 one hol)) m hm
       · exact Aa9 (p:=fun m=>ch m≠none) (fun m hm=>(i3 m hm).2.1) (by rw [d3]; exact fun e=>nomatch e) m hm
       · rw [Bm6]
         refine ⟨i4,nd1,fun a ha b hb e=>?_⟩
         rw [Bf7.mp hb] at e
         exact hnM (e ▸ ha)
       · rcases e9 s hs with hs | hs
         · rcases i7 s hs with q | q | ⟨q,q'⟩
           · rcases Bh9.mp q with q | q
             · exact .inl (e10 s q)
             · rw [Bf7.mp q]
               refine .inr (.inr ⟨Bi2 _ (.head _),fun cs hcs c hc=>?_⟩)
               rw [d3] at hcs; cases hcs
               obtain ⟨p,hp,rfl⟩:=Bh3.mp hc
               rcases e4 p hp with f | f
               · cases f
               · exact f
           · exact .inr (.inl q)
           · exact .inr (.inr ⟨Bi3 _ q,fun cs hcs c hc=>e3 _ (q' cs hcs c hc)⟩)
         · exact .inl hs
     · rintro p rs ⟨S',T'⟩ K2 hK2 ⟨e2,e3,e4,e5,e6,e7,e8,e9,e10,e11,e12,e13⟩
       dsimp only at e2 e3 e4 e5 e6 e7 e8 e9 e10 e11 e12 e13
       have hsd:(((σ.put sa (.Acf (Af3 S'))).put ma (.list ((M ++ [one]).map nV))).put ta (.list (T'.map nV))) sa=some (.Acf (Af3 S')):=by rw [Sto.A4 _ _ nst,Sto.A4 _ _ nsm,Sto.A0]
       have hp2:=d4 p (e2 p (.head _))
       have e2':∀ q∈rs,q∈l:=fun q hq=>e2 q (.tail _ hq)
       refine A6 (k:=1) rfl (Am2 hsd ?_)
       rw [Ap7]
       refine nI (fun hc=>hK2 (S',T') _ _ ⟨e2',e3,fun q hq=>?_,e5,e6,e7,e8,e9,e10,e11,e12,e13⟩ (Sub.refl _) rfl) fun hc=>?_
       · rcases e4 q hq with f | f
         · rcases Bi0.mp f with f | f
           · rw [f]; exact .inr hc
           · exact .inl f
         · exact .inr f
       · have hul:=Agx hc (Bi1 20) (Bk7.mpr (hok p.2 hp2).1)
         have hTl':T'.length<=20:=by exact Be8 (Bq0 ..) (Be8 (Bg9 ..) e12)
         have Ate:p.2∈S' ++ [p.2]:=Bi2 _ (.head _)
         have hS':∀ {s},s∈S'->s∈S' ++ [p.2]:=Bi3 _
         have hT':∀ {s},s∈T'->s∈T' ++ [p.2]:=Bi3 _
         refine A6 (k:=1) rfl (Au2 hsd ?_ (by rw [Af3,Bf0]; exact Be8 (Bg9 ..) (Be8 e13 (by decide))))
         rw [Ars hc,Sto.Ao _ _ _ nst.symm,Sto.Ao _ _ _ nsm.symm,Sto.A9]
         refine Af (Sto.A0 ..) (A6 (k:=1) rfl (Ae (Sto.A0 ..) ?_ (hl' hTl')))
         rw [Sto.A9]
         have hnT':p.2 ∉ T':=fun hm=>hc (e5 _ hm)
         refine hK2 (S' ++ [p.2],T' ++ [p.2]) _ _ ⟨e2',fun s hs=>hS' (e3 s hs),fun q hq=>?_,Aa9 (fun t ht=>hS' (e5 t ht)) Ate,?_,fun m hm=>?_,Aa9 e8 hp2,Aa9 (p:=fun s=>s∈S∨s∈T' ++ [p.2]) (fun s hs=>(e9 s hs).imp id hT') (.inr (Bi2 _ (.head _))),fun t ht=>hT' (e10 t ht),?_,?_,?_⟩ (by rw [Bg2 (l₁:=T')]; exact Sub.refl _) rfl
         · rcases e4 q hq with f | f
           · rcases Bi0.mp f with f | f
             · rw [f]; exact .inr Ate
             · exact .inl f
           · exact .inr (hS' f)
         · rw [Bm6]
           refine ⟨e6,nd1,fun a ha b hb e=>?_⟩
           rw [Bf7.mp hb] at e
           exact hnT' (e ▸ ha)
         · intro ht
           rcases Bh9.mp ht with ht | ht
           · exact e7 m hm ht
           · rw [Bf7.mp ht] at hm
             exact hc (Aa9 (fun m hm=>e3 _ (i3 m hm).1) (e3 _ (i2 one hol)) _ hm)
         · rw [Bf2]; simp only [Bo4]; exact rq e11 hul
         · rw [Bf2]; simp only [Bo4]; exact rx hul e12
         · rw [Bf2]; simp only [Bo4]; exact ry hul e13
end
section
variable {w:World} {n:Nat} {σ:Sto} {A1:List Nat} {dn db dm lg pl:Addr} {D:List V} {Q:V->Sto->Prop} {Y:Str->Sto->Prop}
theorem Asw {names:List Str} {les:List (Str × V)} {pr:Str->Str} {nd:Str->List (Str × Int)} {base:Str} {k most:Nat} (ws:Nat->List (List V × V)) (cost:Nat->Nat) (ok:Nat->Prop) (mt:V->V)
   (hpl:σ pl=some (.A5 (placeOf names))) (hnl:names.length<=100) (hnm:∀ x∈names,Aec x (pr x) (nd x)) (hlg:σ lg=some (.A5 les))
   (h:σ dn=some (.list D)) (hk:ok k)
   (hok:∀ k,ok k->k < 1000/\1<=cost k/\((∃ x,D[k]?=some (.tup [.str "leaf",x])/\ws k=[([],x)])∨∃ v l,D[k]?=some (.tup [.int (v:Nat),.tup (l.map Ad4)])/\l.length<=10/\(∀ p∈l,ok p.2)/\ws k=Adt ws v 0 l/\(l.map fun p=>cost p.2).sum + 1<=cost k))
   (Apw:(ws k).length<=most) (hm2:(ws k).length<=500) (hc:cost k<=500)
   (hst:∀ p∈ws k,p.1.length<=100/\p.2.dat=true/\p.2.dep<=40/\∀ s∈p.1,Ayh names A1 les s (mt s))
   (h1:∀ y,B2 nd names names=some y->Y y σ) (h2:B2 nd names names=none->(∃ p∈ws k,Ar p.2=false)->Y "a leaf that is no verdict" σ)
   (hq:B2 nd names names=none->(∀ p∈ws k,Ar p.2=true)->∀ r,σ r=none->Q (.loc r) (σ.put r (.A5 [(base,.lst ((ws k).map (Aku mt)))]))) :
   Fn (PM w) (n + 5) (.ref 257) [B9 A1 dn db dm,Abl names A1 lg pl,.int k,.str base,.int most] σ Q Y:=by
 have ndr:∀ {ra},σ ra=none->dn≠ra:=A7 h
 have nlr:∀ {ra},σ ra=none->lg≠ra:=A7 hlg
 refine B8 rfl rfl (Bac fun _ _ _ _ _=>rfl) rfl fun R' Y' hR hY hRs hYs=>Akd hpl hnl hnm (fun Atv=>?_) fun y hy=>hY (h1 y hy)
 refine .inl fun ra hra=>Awu ws cost ok (D:=D) (by rw [Sto.A4 _ _ (ndr hra)]; exact h) hk hok Apw hm2 hc ?_
 refine Ajw Aou (α:=List (List V × V)) (fun q=>σ.put ra (.list (q.map (Aku mt)))) (fun _=>[("space",Abl names A1 lg pl),("base",.str base),("rules",.loc ra)])
   (fun ps q=>ws k=q ++ ps/\∀ p∈q,Ar p.2=true) (ws k) [] rfl ⟨rfl,fun _ h=>nomatch h⟩ (Sub.refl _) rfl ?_ ?_
 · rintro q ⟨e2,e3⟩
   rw [Bh6] at e2
   subst e2
   refine .frz "rules" rfl (Sto.A0 ..) (.go ?_)
   rw [Sto.Abn hra]
   refine Afl ?_
   exact fun r hr=>hR (hq Atv e3 r hr)
 · rintro p ps q K hK ⟨e2,e3⟩
   have hp:p∈ws k:=by rw [e2]; exact Bi2 _ (.head _)
   have hql:(q.map (Aku mt)).length<=100000:=by
     rw [e2,Bf2] at hm2
     rw [Bf0]; exact Be8 (Be8 (Bg9 ..) hm2) (by decide)
   obtain ⟨s1,s2,s3,s4⟩:=hst p hp
   refine .inl fun sa hsa=>A6 (k:=0) rfl ?_
   have nrs:ra≠sa:=A7 (Sto.A0 ..) hsa
   have Bbn:σ sa=none:=by rw [Sto.A4 _ _ nrs.symm] at hsa; exact hsa
   have hl1:∀ {y:List V},y.length<=101->y.length<=100000:=fun h=>Be8 h (by decide)
   refine Axc (α:=List V) (fun y=>(σ.put ra (.list (q.map (Aku mt)))).put sa (.list y)) (fun _=>[("space",Abl names A1 lg pl),("base",.str base),("rules",.loc ra),("way",Aou p),("statements",.loc sa)])
     (fun ds y=>(∀ s∈ds,s∈p.1)/\y ++ ds.map mt=p.1.map mt) p.1 [] rfl ⟨fun s h=>h,rfl⟩ (Sub.refl _) rfl ?_ ?_
   · rintro y ⟨_,f2⟩
     rw [Bq6,Bh6] at f2
     subst f2
     have s1':(p.1.map mt).length<=100:=by rw [Bf0]; exact s1
     refine .go (Af (Sto.A0 ..) (A6 (k:=1) rfl (Amm s2 s3 (fun hl=>Ae (Sto.A0 ..) ?_ (hl1 (Bk1 s1'))) fun hl=>hYs (Sub.over (Sub.new (Sub.refl _) hra) Bbn) (h2 Atv ⟨p,hp,hl⟩))))
     rw [Sto.A9]
     refine Af (ds:=q.map (Aku mt)) (by rw [Sto.A4 _ _ nrs,Sto.A0]) (Aa7 (.loc (Sto.A0 ..)) (hl1 (by rw [Bf2]; exact Bg4 s1')) (Ae (ds:=q.map (Aku mt)) (by rw [Sto.A4 _ _ nrs,Sto.A0]) ?_ hql))
     rw [Sto.Ao _ _ _ nrs.symm,Sto.A9]
     refine hK (q ++ [p]) _ _ ⟨by rw [e2,Bj1]; rfl,Aa9 e3 hl⟩ ?_ rfl
     rw [Bg2]
     exact Sub.new (Sub.refl _) (by rw [Sto.A4 _ _ nrs.symm]; exact Bbn)
   · rintro s rr y K2 hK2 ⟨f1,f2⟩
     obtain ⟨v,lo,hi,top,name,a,b,t1,t2,t3,t4,t5,t6,t7,t8,t9⟩:=s4 s (f1 s (.head _))
     subst t1
     have hyl:y.length<=100:=by
      have:=congrArg Bp6 f2
      rw [Bf2,Bf0 (as:=p.1)] at this
      exact Be8 (Be8 (Bg9 ..) (Bm3 this)) s1
     refine A6 (k:=0) rfl (A6 (k:=1) rfl (Asn (les:=les) (by rw [Sto.A4 _ _ (nlr Bbn),Sto.A4 _ _ (nlr hra)]; exact hlg) t2 t3 t4 t5 t6 t7 t8 (Asb (dT (fun e=>nomatch e) (Af (Sto.A0 ..) (Ae (Sto.A0 ..) ?_ (hl1 (Bk1 hyl))))))))
     rw [Sto.A9]
     exact hK2 (y ++ [Abp name (Aaj a b)]) _ _ ⟨fun z hz=>f1 z (.tail _ hz),by rw [<- f2,<- t9,Bj1]; rfl⟩ (Sub.refl _) rfl
end
noncomputable def Ai (base:Str) (vt:V) (rv:Nat->V) (q:List Nat):List (Str × V):=(base,.lst [.tup [.tup [.str "verdict",vt]]]) :: q.map fun m=>(nName m,.lst [rv m])
theorem Adx {base vt rv q m} (hq:∀ x∈q,x < 20) (hm:m < 20) (hn:m ∉ q):(Am (Ai base vt rv q) (nName m)).isSome=decide (nName m=base):=by
 have:(q.map fun m=>(nName m,V.lst [rv m])).find? (fun kv=>decide (kv.1=nName m))=none:=by
   rw [By3]
   intro kv hkv
   obtain ⟨x,hx,rfl⟩:=Bh3.mp hkv
   simp only [decide_eq_true_eq]
   exact fun e=>hn (Aev x (hq x hx) m hm e ▸ hx)
 unfold Am Ai
 rw [Bk3]
 by_cases h:base=nName m
 · subst h; simp
 · have h':¬ nName m=base:=fun e=>h e.symm
   simp only [h,h',decide_false,this,Option.map_none,Option.isSome_none]
theorem Ahc {base vt rv q m x} (hq:∀ x∈q,x < 20) (hm:m < 20) (hn:m ∉ q) (hb:nName m≠base) (hx:x=.lst [rv m]):dput (Ai base vt rv q) (nName m) x=Ai base vt rv (q ++ [m]):=by
 have:=Adx (vt:=vt) (rv:=rv) (base:=base) hq hm hn
 rw [show decide (nName m=base)=false by simp [hb]] at this
 unfold dput
 rw [if_neg]
 · rw [hx]; simp [Ai]
 · unfold Am at this
   rw [Option.isSome_map] at this
   have h0:=By3.mp (Option.not_isSome_iff_eq_none.mp (by rw [this]; simp))
   rw [Bx3]
   rintro ⟨kv,hkv,e⟩
   exact h0 kv hkv e
section
variable {w:World} {n:Nat} {σ:Sto} {A1:List Nat} {dn db dm lg pl:Addr} {D:List V} {Q:V->Sto->Prop} {Y:Str->Sto->Prop}
theorem Apz {names:List Str} {les:List (Str × V)} {pr:Str->Str} {nd:Str->List (Str × Int)} {base:Str} {k:Nat} (ch:Nat->Option (List Nat)) (reach:Nat->Prop) (rl:Nat->Option V)
   (hpl:σ pl=some (.A5 (placeOf names))) (hnl:names.length<=100) (hnm:∀ x∈names,Aec x (pr x) (nd x)) (hlg:σ lg=some (.A5 les))
   (h:σ dn=some (.list D)) (hk:reach k) (hN:Akr D k) (hb:base.length<=100)
   (hok:∀ k,reach k->k < 20/\((∃ x,D[k]?=some (.tup [.str "leaf",x])/\ch k=none)∨∃ (v:Nat) (l:List (Nat × Nat)),D[k]?=some (.tup [.int (v:Nat),.tup (l.map Ad4)])/\l.length<=10/\ch k=some (l.map (·.2))/\(∀ p∈l,reach p.2) ∧
     ∃ (name:Str) (nums:List Int),names[v]?=some name/\v < 100/\((Am les name=none/\nums=[])∨(Am les name=some (.tup (nums.map .int))/\nums≠[]))/\nums.length<=10/\(∀ p∈l,Akr D p.2)/\rl k=(Ab0 (Ajp D) nums 0 l).map (Aoc name)))
   (h1:∀ y,B2 nd names names=some y->Y y σ) (h2:B2 nd names names=none->Ajp D k=none->Y "a leaf that is no verdict" σ)
   (h3:B2 nd names names=none->∀ M,Met ch reach k M->(∃ m∈M,nName m=base)->Y "the base chain has a node's name" σ)
   (h4:B2 nd names names=none->∀ M,Met ch reach k M->(∃ m∈M,rl m=none)->Y "a leaf that is no verdict" σ)
   (hq:B2 nd names names=none->∀ M vt (rv:Nat->V),Met ch reach k M->Ajp D k=some vt->(∀ m∈M,nName m≠base/\rl m=some (rv m))->∀ r,σ r=none->Q (.loc r) (σ.put r (.A5 (Ai base vt rv M)))) :
   Fn (PM w) (n + 6) (.ref 243) [B9 A1 dn db dm,Abl names A1 lg pl,.int k,.str base] σ Q Y:=by
 obtain ⟨hd,x,n1,n2,n3,n4,n5⟩:=hN
 refine B8 rfl rfl (Aqc fun _ _ _ _=>rfl) rfl fun R' Y' hR hY hRs hYs=>Akd hpl hnl hnm (fun Atv=>?_) fun y hy=>hY (h1 y hy)
 refine Afl ?_
 refine Aua h n1 n2 n3 n4 n5 (fun vt hvt=>.inr fun ca hca=>?_) fun hvt=>hY (h2 Atv hvt)
 have ndc:=A7 h hca
 have nlc:=A7 hlg hca
 rw [show Ahw [] [(base,V.lst [V.tup [V.tup [V.str (Bf5 "verdict"),vt]]])]=Ai base vt (fun m=>(rl m).getD .none) [] from rfl]
 refine Au0 (D:=D) ch reach (by rw [Sto.A4 _ _ ndc]; exact h) hk (fun j hj=>?_) (fun M hM Auk=>?_)
 · obtain ⟨z1,z2⟩:=hok j hj
   refine ⟨z1,z2.imp id ?_⟩
   rintro ⟨v,l,y1,y2,y3,y4,_⟩
   exact ⟨v,l,y1,y2,y3,y4⟩
 refine Ajw nV (α:=List Nat) (fun q=>σ.put ca (.A5 (Ai base vt (fun m=>(rl m).getD .none) q))) (fun _=>[("diagrams",B9 A1 dn db dm),("space",Abl names A1 lg pl),("base",.str base),("chains",.loc ca)])
   (fun ps q=>M=q ++ ps/\∀ m∈q,nName m≠base/\∃ r,rl m=some r) M [] rfl ⟨rfl,fun _ h=>nomatch h⟩ (Sub.refl _) rfl ?_ ?_
 · rintro q ⟨e2,e3⟩
   rw [Bh6] at e2
   subst e2
   exact .go (hR (hq Atv M vt _ hM hvt (fun m hm=>⟨(e3 m hm).1,by obtain ⟨r,hr⟩:=(e3 m hm).2; rw [hr]; rfl⟩) ca hca))
 · rintro m ps q K hK ⟨e2,e3⟩
   have hmM:m∈M:=by rw [e2]; exact Bi2 _ (.head _)
   obtain ⟨hr,hch⟩:=hM.inn m hmM
   obtain ⟨z1,z2⟩:=hok m hr
   have Bc0:∀ x∈q,x < 20:=fun x hx=>(hok x (hM.inn x (by rw [e2]; exact Bi3 _ hx)).1).1
   have hmq:m ∉ q:=fun hm=>by
     have:=hM.nd
     rw [e2,Bm6] at this
     exact this.2.2 m hm m (.head _) rfl
   refine Ak7 (by exact r30) (by lia) (Aew (Ag5 (Sto.A0 ..) ?_) ?_)
   · rw [show Bf5 "n" ++ Axe (m:Int)=nName m from rfl,Adx Bc0 z1 hmq]
     refine dI (fun hbm=>hYs (Sub.new (Sub.refl _) hca) (h3 Atv M hM ⟨m,hmM,hbm⟩)) fun hbm=>?_
     rcases z2 with ⟨x,y1,y2⟩ | ⟨v,l,y1,y2,y3,y4,name,nums,y5,y6,y7,y8,y9,y10⟩
     · exact absurd y2 hch
     have hD':(σ.put ca (.A5 (Ai base vt (fun m=>(rl m).getD .none) q))) dn=some (.list D):=by rw [Sto.A4 _ _ ndc]; exact h
     have hl':(σ.put ca (.A5 (Ai base vt (fun m=>(rl m).getD .none) q))) lg=some (.A5 les):=by rw [Sto.A4 _ _ nlc]; exact hlg
     refine Acu hD' y1 (Bj4 z1 (by decide)) (Avk hD' hl' y5 y6 y7 y8 y2 y9 (fun els he=>?_) fun he=>?_)
     · rw [he] at y10
       refine .inr (Ag3 (Sto.A0 ..) ?_ ?_)
       · rw [Sto.A9,Ahc Bc0 z1 hmq hbm (by rw [y10]; rfl)]
         exact hK (q ++ [m]) _ _ ⟨by rw [e2,Bj1]; rfl,Aa9 e3 ⟨hbm,_,y10⟩⟩ (Sub.refl _) rfl
       · rw [e2,Bf2] at Auk
         rw [Ai,Bh5,Bf0]
         exact Be8 (Bg4 (Be8 (Bg9 ..) Auk)) (by decide)
     · rw [he] at y10
       exact hYs (Sub.new (Sub.refl _) hca) (h4 Atv M hM ⟨m,hmM,y10⟩)
   · rw [Bn6,show (Bf5 "n").length=1 by decide +kernel]
     exact Be8 (Bf4 (Adc m z1) 1) (by decide)
end
noncomputable def Aiz:List (Str × List Str):=[("ip",["meta nfproto"]),("icmp",["meta nfproto","meta l4proto"]),("vlan",["ether type"]),("arp",["meta protocol"]),("udp",["meta l4proto"])]
noncomputable def Aet (pr:Str):List Str:=(Aiz.lookup pr).getD []
noncomputable abbrev As9 (l:List Str):V:=.lst (l.map .str)
noncomputable def Agh (lnd:Str->List Str):List Str->Str
 | []=>""
 | x :: r=>match (lnd x).find? (fun q=>decide (q∈r)) with
  | some q=>Ahr x q
  | none=>Agh lnd r
theorem Amg:∀ (lnd:Str->List Str) (x_1:Str) (r:List Str),Agh lnd (x_1 :: r)=match List.find? (fun q=>decide (q∈r)) (lnd x_1) with | some q=>Ahr x_1 q | none=>Agh lnd r:=by intros; rfl
theorem Aih {x:Str}:∀ {l:List (Str × List Str)},Am (l.map fun y=>(y.1,As9 y.2)) x=(l.lookup x).map As9
 | []=>rfl
 | (k,v) :: l=>by
  have ih:=Aih (x:=x) (l:=l)
  unfold Am at ih ⊢
  rw [Bh1,Bk3,Bn4]
  by_cases h:k=x
  · subst h; simp
  · rw [show decide ((k,As9 v).1=x)=false by simp [h],show (x == k)=false by simp; exact fun e=>h e.symm]
    exact ih
section
variable {w:World} {n:Nat} {σ:Sto} {A1:List Nat} {dn db dm lg pl:Addr} {D:List V} {Q:V->Sto->Prop} {Y:Str->Sto->Prop}
theorem Aqx {name pr:Str} {nd:List (Str × Int)} (hn:Aec name pr nd) (hq:Q (As9 (Aet pr)) σ):Fn (PM w) (n + 1) (.ref 285) [.str name] σ Q Y:=by
 obtain ⟨ps,k3,k3'⟩:=hn.k3
 refine B8 rfl rfl (Aov fun _=>rfl) rfl fun R' Y' hR hY hRs hYs=>?_
 refine Afl ?_
 refine .inr (.inr (.inr fun a ha=>?_))
 refine Aoy (Sto.A0 ..) ?_
 refine Afl ?_
 refine .inr (.inr fun b hb=>?_)
 have nab:=A7 (Sto.A0 ..) hb
 refine Arb (by rw [Sto.A4 _ _ nab,Sto.A0]) (Sto.A0 ..) nab ?_ (by decide)
 refine Auv (Sto.A0 ..) (Amj (Ame (ps:=pr :: ps) hn.k1 rfl hn.k2 k3 (Be8 hn.len (by decide)) (Nat.succ_le_of_lt (Bg7 k3' (by decide))) (Ab (k:=0) (.val _) rfl (.inr (Akn (es:=Aiz.map fun x=>(x.1,As9 x.2)) (Sto.A0 ..) ?_)))))
 rw [Aih,show ((Aiz.lookup pr).map As9).getD (V.lst [])=As9 (Aet pr) by unfold Aet; cases Aiz.lookup pr <;> rfl]
 exact hRs (Sub.over (Sub.new (Sub.new (Sub.refl _) ha) hb) ha) hq
theorem Ake {names:List Str} {pr:Str->Str} {nd:Str->List (Str × Int)} (hok:∀ x∈names,Aec x (pr x) (nd x)) (hlen:names.length<=100) (hl2:∀ x∈names,∀ q∈Aet (pr x),q.length<=100)
   (hq:Q (.str (Agh (fun x=>Aet (pr x)) names)) σ):Fn (PM w) (n + 2) (.ref 365) [As9 names] σ Q Y:=by
 refine B8 rfl rfl (Aov fun _=>rfl) rfl fun R' Y' hR hY hRs hYs=>Ads ?_
 refine Aoh V.str (α:=Unit) (fun _=>σ) (fun _=>[("names",As9 names)]) (fun k rs _=>names.drop k=rs/\Agh (fun x=>Aet (pr x)) rs=Agh (fun x=>Aet (pr x)) names) names () rfl ⟨rfl,rfl⟩ (Sub.refl _) rfl ?_ ?_
 · rintro k _ ⟨_,e2⟩
   rw [<- e2] at hq
   exact .go (hR hq)
 · rintro k x xs a K hK ⟨h1,e2⟩
   obtain ⟨g1,g2⟩:=drop_cons h1
   have hxm:x∈names:=Bg0 g1
   rw [Amg] at e2
   refine Aqx (hok x hxm) (Ajw V.str (α:=Unit) (fun _=>σ) (fun _=>[("names",As9 names),("place",.int k),("name",.str x)])
     (fun qs _=>(∀ q∈qs,q∈Aet (pr x))/\(qs.find? fun q=>decide (q∈xs))=(Aet (pr x)).find? fun q=>decide (q∈xs)) _ () rfl ⟨fun q h=>h,rfl⟩ (Sub.refl _) rfl ?_ ?_)
   · rintro a ⟨_,f3⟩
     rw [<- f3] at e2
     exact .go (hK () _ _ ⟨g2,e2⟩ (Sub.refl _) rfl)
   · rintro q qs a K2 hK2 ⟨f2,f3⟩
     rw [Bk3] at f3
     refine Aq8 (lo:=some (k + 1)) (hi:=none) (.val _) rfl rfl ?_ (by rw [Bf0]; exact Be8 hlen (by decide))
     rw [Alf,show slc (some (k + 1)) none names=xs by rw [slc]; simp only [Bz8,Bm2,Ce6,g2]]
     refine Ahv (ds:=xs.map V.str) (.val _) (.val _) (dI (fun hm=>?_) fun hm=>?_) rfl (Aeq fun x _=>rfl) (Bh2 _)
     · rw [decide_eq_true (show q∈xs by simpa using hm)] at f3
       rw [<- f3] at e2
       rw [<- e2] at hq
       have l1:=(hok x hxm).len
       have l2:=hl2 x hxm q (f2 q (.head _))
       have l3:=Aid
       refine Aew (Aew (hR hq) ?_) ?_
       · rw [strLen_append,Bn6]; rw [l3]; exact Be8 (Bo5 (Bi6 l1 17) l2) (by decide)
       · rw [Bn6]; rw [l3]; exact Be8 (Bi6 l1 17) (by decide)
     · rw [decide_eq_false (show ¬ q∈xs by simpa using hm)] at f3
       exact hK2 () _ _ ⟨fun y hy=>f2 y (.tail _ hy),f3⟩ (Sub.refl _) rfl
theorem Bal {wl nl:Addr} {a:Wo} {t:List V} {es:List (V × V)} {v k:Nat} {x:V} (hw:σ wl=some (.A5 a.es)) (h3:a.A1.length=3) (Ba:∀ p∈a.A1,p<=10) (hv:v<=3) (hl:t.length<=100) (hf:∀ x∈t,B3 x)
   (hx:t[0]?=some x) (hnu:σ nl=some (.Ad es)) (hc:a.cells.length<=100) (hle:t.length<=a.cells.length) (hky:V.keys (whole a.cells.length t)=true) (hkd:V.Be (whole a.cells.length t)<=7)
   (hk:v + (asked (a.A1.drop v) t).1≠3->Am es (.tup (whole a.cells.length t))=some (.int k)/\k < 20)
   (hq:Q (if v + (asked (a.A1.drop v) t).1=3 then .tup [x,.str ""] else .tup [.str "goto",.str (nName k)]) σ):Fn (PM w) (n + 3) (.ref 377) [.loc wl,.loc nl,.tup t,.int v] σ Q Y:=by
 refine B8 rfl rfl (Aqc fun _ _ _ _=>rfl) rfl fun R' Y' hR hY hRs hYs=>Ac8 hw h3 Ba hv (Be8 hl (by decide)) hf (A6 (k:=0) rfl (Abx (dI (fun q=>?_) fun q=>?_)))
 · rw [if_pos (Bs1 q)] at hq
   exact A6 (k:=0) hx (hR hq)
 · have q:¬ v + (asked (a.A1.drop v) t).1=3:=fun e=>q (congrArg Int.ofNat e)
   rw [if_neg q] at hq
   obtain ⟨hk1,hk2⟩:=hk q
   have hne:t≠[]:=by rintro rfl; cases hx
   refine Ajc hw (Be8 hc (by decide)) hne hle (Aee hnu hky hkd hk1 (Ak7 (by exact r30) (by exact ti (Bk5 (hk q).2) (by decide)) (Aew (hR hq) ?_)))
   rw [Bn6,show (Bf5 "n").length=1 by decide +kernel]
   exact Be8 (Bf4 (Adc k hk2) 1) (by decide)
theorem Awo {σ:Sto} {a:Addr} {o:O} (h:σ a=none):(σ.put a o).del a=σ:=Sto.Abn h
theorem Ajd {σ:Sto} {a b:Addr} {o:O} (h:a≠b):(σ.put a o).del b=(σ.del b).put a o:=funext fun c=>by
 show (if c=b then none else if c=a then some o else σ c)=if c=a then some o else if c=b then none else σ c
 by_cases h1:c=b
 · rw [if_pos h1,if_pos h1,if_neg fun e=>h (e.symm.trans h1)]
 · rw [if_neg h1,if_neg h1]
theorem Aza (hq:∀ dn db dm,σ dn=none->σ db=none->σ dm=none->dn≠db->dn≠dm->db≠dm->Q (B9 A1 dn db dm) (((σ.put dn (.list [])).put db (.Ad [])).put dm (.A5 []))) :
   Fn (PM w) (n + 2) (.ref 117) [.tup (tupI A1)] σ Q Y:=by
 refine As4 (Auz (fI:=79) (by kernel_rfl) (by kernel_rfl) (by kernel_rfl) fun dx hdx=>?_)
 refine B8 rfl rfl (Ang fun _ _=>rfl) rfl fun R' Y' hR hY hRs hYs=>.mk _ (Sto.A0 ..) rfl (Bh2 _) ?_
 rw [Sto.A9]
 refine .inl fun dn hdn=>?_
 have n1:dx≠dn:=A7 (Sto.A0 ..) hdn
 refine .mk _ (by rw [Sto.A4 _ _ n1,Sto.A0]) rfl (Bh8 rfl) ?_
 rw [Sto.Ao _ _ _ n1.symm,Sto.A9]
 refine Aka fun db hdb=>?_
 have n3:dn≠db:=A7 (Sto.A0 ..) hdb
 have n2:dx≠db:=A7 (by rw [Sto.A4 _ _ n1,Sto.A0]) hdb
 refine .mk _ (by rw [Sto.A4 _ _ n2,Sto.A4 _ _ n1,Sto.A0]) rfl (Bh8 rfl) ?_
 rw [Sto.Ao _ _ _ n2.symm,Sto.Ao _ _ _ n1.symm,Sto.A9]
 refine Ajm fun dm hdm=>?_
 have n4:db≠dm:=A7 (Sto.A0 ..) hdm
 have n5:dn≠dm:=A7 (by rw [Sto.A4 _ _ n3,Sto.A0]) hdm
 have n6:dx≠dm:=A7 (by rw [Sto.A4 _ _ n2,Sto.A4 _ _ n1,Sto.A0]) hdm
 refine .mk _ (by rw [Sto.A4 _ _ n6,Sto.A4 _ _ n2,Sto.A4 _ _ n1,Sto.A0]) rfl (Bh8 rfl) ?_
 rw [Sto.Ao _ _ _ n6.symm,Sto.Ao _ _ _ n2.symm,Sto.Ao _ _ _ n1.symm,Sto.A9]
 refine hR ⟨rfl,117,dx,_,rfl,by rw [Sto.A4 _ _ n6,Sto.A4 _ _ n2,Sto.A4 _ _ n1,Sto.A0],?_⟩
 rw [Ajd n6.symm,Ajd n2.symm,Ajd n1.symm,Awo hdx]
 refine hq dn db dm ?_ ?_ ?_ n3 n5 n4
 · rw [Sto.A4 _ _ n1.symm] at hdn; exact hdn
 · rw [Sto.A4 _ _ n3.symm,Sto.A4 _ _ n2.symm] at hdb; exact hdb
 · rw [Sto.A4 _ _ n4.symm,Sto.A4 _ _ n5.symm,Sto.A4 _ _ n6.symm] at hdm; exact hdm
end
theorem Alu {α:Type} [DecidableEq α] {f:List (Nat × Nat × α)} {k:Nat} {r:α}:(Aad f k r).length<=f.length + 1:=by
 unfold Aad
 split
 · split
   · rw [Bf2,Ch5]; exact Bg4 (Bx8 ..)
   · rw [Bf2]; exact Bh7 _
 · exact Bq0 ..
theorem Ak3 {α:Type} [DecidableEq α]:∀ {rs:List α} {f:List (Nat × Nat × α)} {k:Nat},(Ac1 f k rs).length<=f.length + rs.length
 | [],f,k=>by simp [Ar8,Agu]
 | r :: rs,f,k=>by
  rw [Agu]
  have:=Ak3 (rs:=rs) (f:=Aad f k r) (k:=k + 1)
  have:=Alu (f:=f) (k:=k) (r:=r)
  simp only [Bh5]; lia
theorem Aco {α:Type} [DecidableEq α] {rs:List α}:(Aa rs).length<=rs.length:=by
 have:=Ak3 (rs:=rs) (f:=[]) (k:=0)
 simpa [Aa] using this
set_option tactic.hygienic true in
theorem Al3 {α:Type} [DecidableEq α]:∀ {rs f k} (P:α->Prop),(∀ x∈f,P x.2.2/\x.1<=x.2.1/\x.2.1 < k)->(∀ r∈rs,P r)->∀ x∈Ac1 f k rs,P x.2.2/\x.1<=x.2.1/\x.2.1 < k + rs.length
 | [],f,k,P,h1,h2,x,hx=>by simpa [Ar8,Agu] using h1 x hx
 | r :: rs,f,k,P,h1,h2,x,hx=>by
  rw [Agu] at hx
  have:=Al3 (rs:=rs) (f:=Aad f k r) (k:=k + 1) P (fun y hy=>?_) (fun q hq=>h2 q (.tail _ hq)) x hx
  · simp only [Bh5]; exact ⟨this.1,this.2.1,by have q:=this.2.2; rw [Bh4] at q; exact q⟩
  · have hr:=h2 r (.head _)
    unfold Aad at hy
    split at hy
    · rename_i z hz
      have hzm:z∈f:=List.mem_of_getLast? hz
      split at hy
      · rcases Bh9.mp hy with hy | hy
        · have:=h1 y ((List.dropLast_sublist _).subset hy); exact ⟨this.1,this.2.1,by exact Bt5 this.2.2⟩
        · rw [Bf7.mp hy]
          have:=h1 z hzm
          exact ⟨hr,by dsimp only; exact Bk5 (Bg7 this.2.1 this.2.2),by dsimp only; exact Br2 _⟩
      · rcases Bh9.mp hy with hy | hy
        · have:=h1 y hy; exact ⟨this.1,this.2.1,by exact Bt5 this.2.2⟩
        · rw [Bf7.mp hy]; exact ⟨hr,Bh7 _,by dsimp only; exact Br2 _⟩
    · rw [Bf7.mp hy]; exact ⟨hr,Bh7 _,by dsimp only; exact Br2 _⟩
theorem Aak {α:Type} [DecidableEq α] {rs:List α} {x:Nat × Nat × α} (h:x∈Aa rs):x.2.2∈rs/\x.1<=x.2.1/\x.2.1 < rs.length:=by
 have:=Al3 (rs:=rs) (f:=[]) (k:=0) (fun r=>r∈rs) (by simp) (fun r h=>h) x h
 simpa using this
theorem Age:∀ {ts t r},r∈(asked ts t).2->r.length<=t.length/\∀ v∈r,v∈t
 | [],t,r,h=>by
  rw [Af9] at h; rw [Bf7.mp h]; exact ⟨Bh7 _,fun v h=>h⟩
 | p :: ps,t,r,h=>by
  rw [Aao] at h
  split at h
  · exact ⟨Ag0 h,fun v hv=>Adi h hv⟩
  · obtain ⟨r0,rs,hrs⟩:=Ad1 t p
    have h0:r0∈rowsOf t p:=by rw [hrs]; exact .head _
    rw [hrs] at h
    have:=Age h
    exact ⟨Be8 this.1 (Ag0 h0),fun v hv=>Adi h0 (this.2 v hv)⟩
theorem Aam:∀ {ts t},(∀ p∈ts,p<=10)->(asked ts t).2.length<=11/\(asked ts t).2≠[]/\(asked ts t).1<=ts.length
 | [],t,h=>by simp [Af9,Aao]
 | p :: ps,t,h=>by
  rw [Aao]
  split
  · obtain ⟨r0,rs,hrs⟩:=Ad1 t p
    have:=h p (.head _)
    refine ⟨by simp [rowsOf]; exact r43 ‹_›,by rw [hrs]; simp,by simp⟩
  · have:=Aam (ts:=ps) (t:=(rowsOf t p).headD []) fun q hq=>h q (.tail _ hq)
    exact ⟨this.1,this.2.1,by simp only [Bh5]; lia⟩
set_option tactic.hygienic true in
theorem Aa5:∀ {ts t p},ts[(asked ts t).1]?=some p->(asked ts t).2.length=p + 1
 | [],t,p,h=>by simp [Af9,Aao] at h
 | q :: qs,t,p,h=>by
  rw [Aao] at h ⊢
  split at h
  · rename_i hd
    rw [if_pos hd]
    simp at h; subst h; simp [rowsOf]
  · rename_i hd
    rw [if_neg hd]
    exact Aa5 (by simpa using h)
noncomputable def szs:List Nat->Nat
 | []=>1
 | p :: ps=>(p + 1) * szs ps
theorem Ayx:szs []=1:=by intros; rfl
theorem Afu:∀ (p:Nat) (ps:List Nat),szs (p :: ps)=(p + 1) * szs ps:=by intros; rfl
theorem Ah:∀ ts:List Nat,0 < szs ts
 | []=>Nat.one_pos
 | p :: ps=>Nat.mul_pos (Bq1 p) (Ah ps)
theorem Ady {t p z} (h:t.length=(p + 1) * z) {r} (hr:r∈rowsOf t p):r.length=z:=by
 simp only [rowsOf,Bh3,Bk7] at hr
 obtain ⟨k,hk,rfl⟩:=hr
 have hd:t.length / (p + 1)=z:=by rw [h,Bj7 _ (Bq1 p)]
 rw [hd]
 simp only [slc,Bm2,Bp0,Bn5]
 have h1:z * (k + 1)<=t.length:=by rw [h,Br7 (p + 1)]; exact Bp1 _ hk
 rw [Bs0 h1,Nat.mul_add,Nat.mul_one]; exact r22
set_option tactic.hygienic true in
theorem Ae6:∀ {ts t r},t.length=szs ts->r∈(asked ts t).2->r.length=szs (ts.drop ((asked ts t).1 + 1))
 | [],t,r,h,hr=>by
  rw [Af9] at hr; rw [Bf7.mp hr,h]; simp [Ayx,Afu]
 | p :: ps,t,r,h,hr=>by
  rw [Aao] at hr ⊢
  split at hr
  · rename_i hd
    rw [if_pos hd]
    exact Ady h hr
  · rename_i hd
    rw [if_neg hd]
    obtain ⟨r0,rs,hrs⟩:=Ad1 t p
    have h0:r0∈rowsOf t p:=by rw [hrs]; exact .head _
    rw [hrs] at hr ⊢
    exact Ae6 (Ady h h0) hr
noncomputable def Al9 (st:List V) (x:V):V:=.tup (st ++ [.tup [.str "verdict",.tup [x,.str ""]]])
noncomputable def Abk (nums:List Int) (lo hi:Nat):Int × Int:=(((Aae nums lo hi).head?.getD (0,0)).1,((Aae nums lo hi).getLast?.getD (0,0)).2)
noncomputable def Ay (A1:List Nat) (nm:Nat->Str) (nums:Nat->List Int):Nat->Nat->List V->List V->List V
 | 0,_,_,_=>[]
 | f + 1,v,t,st=>
  if v + (asked (A1.drop v) t).1=3 then [Al9 st (((asked (A1.drop v) t).2.headD []).headD .none)]
  else (Aa (asked (A1.drop v) t).2).flatMap fun x=>Ay A1 nm nums f (v + (asked (A1.drop v) t).1 + 1) x.2.2 (st ++ [Abp (nm (v + (asked (A1.drop v) t).1)) (Aaj (Abk (nums (v + (asked (A1.drop v) t).1)) x.1 x.2.1).1 (Abk (nums (v + (asked (A1.drop v) t).1)) x.1 x.2.1).2)])
theorem Ax6:∀ (A1:List Nat) (nm:Nat->Str) (nums:Nat->List Int) (x:Nat) (x_1 x_2:List V),Ay A1 nm nums 0 x x_1 x_2=[]:=by intros; rfl
theorem Agm:∀ (A1:List Nat) (nm:Nat->Str) (nums:Nat->List Int) (x:Nat) (x_1 x_2:List V) (f:Nat),Ay A1 nm nums f.succ x x_1 x_2=if x + (asked (Cg5 x A1) x_1).fst=3 then [Al9 x_2 (((asked (Cg5 x A1) x_1).snd.headD []).headD V.none)] else List.flatMap (fun x_3=>Ay A1 nm nums f (x + (asked (Cg5 x A1) x_1).fst + 1) x_3.snd.snd (x_2 ++ [Abp (nm (x + (asked (Cg5 x A1) x_1).fst)) (Aaj (Abk (nums (x + (asked (Cg5 x A1) x_1).fst)) x_3.fst x_3.snd.fst).fst (Abk (nums (x + (asked (Cg5 x A1) x_1).fst)) x_3.fst x_3.snd.fst).snd)])) (Aa (asked (Cg5 x A1) x_1).snd):=by intros; rfl
theorem Akz {A1:List Nat} {nm:Nat->Str} {nums:Nat->List Int} (ht:∀ p∈A1,p<=10):∀ (f v:Nat) (t st:List V),(Ay A1 nm nums f v t st).length<=11 ^ f
 | 0,_,_,_=>by simp [Ax6,Agm]
 | f + 1,v,t,st=>by
  rw [Agm]
  split
  · exact By4 (by simp)
  · have h1:(Aa (asked (A1.drop v) t).2).length<=11:=Be8 Aco (Aam fun p hp=>ht p (Ca5 hp)).1
    have:∀ (l:List (Nat × Nat × List V)) (g:Nat × Nat × List V->List V),(∀ x,(g x).length<=11 ^ f)->(l.flatMap g).length<=l.length * 11 ^ f:=by
     intro l g hg
     induction l with
     | nil=>simp
     | cons a l ih=>rw [Bt1,Bf2,Bh5,Nat.add_mul]; have:=hg a; rw [Nat.one_mul,Bm0]; exact Bo5 ih this
    refine Be8 (this _ _ fun x=>Akz ht f _ _ _) ?_
    rw [Cl3,Br7]
    exact Bp1 _ h1
section
variable {w:World} {n:Nat} {σ:Sto} {A1:List Nat} {dn db dm lg pl:Addr} {D:List V}
theorem Att {wl:Addr} {a:Wo} {les:List (Str × V)} {nm:Nat->Str} {nums:Nat->List Int} {Y:Str->Sto->Prop} (hw:σ wl=some (.A5 a.es)) (hlg:σ a.lg=some (.A5 les)) (h3:a.A1.length=3) (Ba:∀ p∈a.A1,p<=10)
  (hnm:∀ v,v < 3->a.names[v]?=some (nm v)/\(Am les (nm v)).getD (.tup [])=.tup ((nums v).map .int)/\(nums v).length<=100/\(nums v=[]∨∀ p,a.A1[v]?=some p->p < (nums v).length)) :
  ∀ (f v:Nat) (t st:List V) (Q:V->Sto->Prop),v<=3->4<=v + f->f<=4->t.length<=1000->t.length=szs (a.A1.drop v)->st.length + f<=10->(∀ x∈t,B3 x)->Q (.lst (Ay a.A1 nm nums f v t st)) σ ->
    Fn (PM w) (n + 2 + f) (.ref 389) [.loc wl,.tup t,.int v,.tup st] σ Q Y:=by
 intro f
 induction f generalizing Y with
 | zero=>intro v t st Q h1 h2; exact absurd (Be8 h2 h1) (by decide)
 | succ f ih=>
  intro v t st Q hv hvf hf4 hl hsz hst hfl hq
  show Fn (PM w) (n + 2 + f + 1) _ _ _ _ _
  have Bd2:∀ r∈(asked (a.A1.drop v) t).2,r≠[]:=fun r hr e=>by
    have:=Ae6 hsz hr
    rw [e] at this
    have:=Ah ((a.A1.drop v).drop ((asked (a.A1.drop v) t).1 + 1))
    simp at *; lia
  have hn1:n + 1<=n + 2 + f:=Be8 (Bm9 (n + 1)) (Bg9 (n + 2) f)
  refine B8 rfl rfl (Aqc fun _ _ _ _=>rfl) rfl fun R' Y' hR hY hRs hYs=>Fn.room (n:=n + 2) (Ac8 (n:=n) hw h3 Ba hv hl hfl ?_) (Bg9 ..)
  have hrl:=Aam (t:=t) (ts:=a.A1.drop v) fun p hp=>Ba p (Ca5 hp)
  rw [Agm] at hq
  refine Abx (dI (fun q=>?_) fun q=>?_)
  · rw [if_pos (Bs1 q)] at hq
    obtain ⟨r0,rs,hrs⟩:=Cc0 hrl.2.1
    obtain ⟨x0,xs,hx0⟩:=Cc0 (Bd2 r0 (by rw [hrs]; exact .head _))
    rw [hrs,Bq7,hx0,Bq7] at hq
    exact Ab (k:=0) (d:=.tup r0) (.val _) (by rw [hrs]; rfl) (A6 (k:=0) (d:=x0) (by rw [hx0]; rfl) (Aly (.inr (hR hq)) (by simp only [Bh5,Bl2]; lia)))
  · have q:¬ v + (asked (a.A1.drop v) t).1=3:=fun e=>q (congrArg Int.ofNat e)
    rw [if_neg q] at hq
    have hat:v + (asked (a.A1.drop v) t).1 < 3:=by
      have:=hrl.2.2
      rw [Bp0] at this; exact Bu6 (Be8 (Bf4 this v) (Bm3 ((Bm1 (by rw [h3]; exact hv)).trans h3))) fun e=>q e
    refine .inr (Fn.room (n:=n + 1) (Afk (n:=n) (Be8 hrl.1 (by decide)) (fun r hr v hv=>hfl v ((Age hr).2 v hv)) ?_) hn1)
    generalize hAT:v + (asked (a.A1.drop v) t).1=at_ at hq hat q ⊢
    obtain ⟨m1,m2,m3,m4⟩:=hnm at_ hat
    have Ba6:∀ p,a.A1[at_]?=some p->(asked (a.A1.drop v) t).2.length=p + 1:=fun p hp=>Aa5 (by rw [List.getElem?_drop,hAT]; exact hp)
    have Bdi:∀ r∈(asked (a.A1.drop v) t).2,r.length=szs (a.A1.drop (at_ + 1)):=fun r hr=>by
      have:=Ae6 hsz hr
      rw [Cc5] at this
      rw [this,<- hAT]; rfl
    have Azm:=Akz (nm:=nm) (nums:=nums) Ba (f + 1) v t st
    rw [Agm,if_neg (hAT ▸ q),hAT] at Azm
    have h11:11 ^ (f + 1)<=11 ^ 4:=Ca8 (by decide) hf4
    obtain ⟨tp,htp⟩:∃ tp,a.A1[at_]?=some tp:=⟨_,Bf1 (h3 ▸ hat)⟩
    have hRl:=Ba6 tp htp
    generalize hR':(asked (a.A1.drop v) t).2=R at *
    generalize hG:(fun x:Nat × Nat × List V=>Ay a.A1 nm nums f (at_ + 1) x.2.2 (st ++ [Abp (nm at_) (Aaj (Abk (nums at_) x.1 x.2.1).1 (Abk (nums at_) x.1 x.2.1).2)]))=G at hq Azm
    refine Ajw Avy (α:=List V) (fun _=>σ) (fun y=>[("world",.loc wl),("statements",.tup st),("at",.int at_),("found",.lst y)]) (fun xs y=>(∀ x∈xs,x∈Aa R)/\y ++ xs.flatMap G=(Aa R).flatMap G) _ [] rfl ⟨fun x h=>h,rfl⟩ (Sub.refl _) rfl ?_ ?_
    · rintro y ⟨_,e3⟩
      rw [List.flatMap_nil,Bh6] at e3
      rw [<- e3] at hq
      exact .go (hR hq)
    · rintro ⟨lo,hi,row⟩ xs y K hK ⟨e2,e3⟩
      obtain ⟨y1,y2,y3⟩:=Aak (e2 _ (.head _))
      dsimp only at y1 y2 y3
      rw [Bt1] at e3
      have hyl:y.length + (G (lo,hi,row)).length<=100000:=by
       rw [<- e3,Bf2,Bf2] at Azm
       exact Be8 (Be8 (Bf4 (Bg9 ..) _) (Be8 Azm h11)) (by decide)
      refine Fn.room (n:=n + 1) (Amy (n:=n) (lo:=lo) (hi:=hi) hw hlg m1 m2 (Be8 m3 (by decide)) (Bj4 hat (by decide)) ?_) hn1
      obtain ⟨z0,zs,hz⟩:∃ z0 zs,Aae (nums at_) lo hi=z0 :: zs:=by
       unfold Aae
       rcases m4 with m4 | m4
       · rw [if_pos m4]; exact ⟨_,_,rfl⟩
       · have:=m4 tp htp
         have hn0:nums at_≠[]:=by intro e; rw [e] at this; exact Cn5 _ this
         rw [if_neg hn0]
         refine Cc0 fun e=>?_
         have:=congrArg Bp6 e
         simp [slc] at this; rw [Bs0 (Be8 (hRl ▸ y3:hi + 1<=tp + 1) ‹tp < (nums at_).length›)] at this; exact absurd (Nat.le_of_sub_eq_zero this) (Nat.not_le.mpr (Bp3 y2))
      obtain ⟨zl,hzl⟩:∃ zl,(Aae (nums at_) lo hi).getLast?=some zl:=⟨_,List.getLast?_eq_some_getLast (by rw [hz]; exact Bs4 _ _)⟩
      have hE:Abk (nums at_) lo hi=(z0.1,zl.2):=by
       unfold Abk; rw [hzl,hz]; rfl
      refine Ab (k:=0) (d:=Acs z0) (.val _) (by rw [hz]; rfl) (A6 (k:=0) rfl (Acd (d:=Acs zl) (.val _) (by rw [Bv9,hzl]; rfl) (A6 (k:=1) rfl (Abx (jI (Aaj z0.1 zl.2) ?_ (fun q hq=>by rw [Aaj,if_pos q] at hq; exact hq) fun q hq=>by rw [Aaj,if_neg q] at hq; exact hq)))))
      refine Ac hw rfl (Ab (k:=at_) (.val _) (by rw [Bf9,m1]; rfl) (Aly ?_ (by simp only [Bh5,Bl2]; lia)) (Bj4 hat (by decide)))
      have Bdq:row∈(asked (a.A1.drop v) t).2:=by rw [hR']; exact y1
      have hrm:=Age Bdq
      refine ih (at_ + 1) row (st ++ [Abp (nm at_) (Aaj z0.1 zl.2)]) _ hat (by rw [<- hAT,Bh4]; exact Be8 hvf (Bi6 (Bg9 ..) _)) (Bl8 hf4) (Be8 hrm.1 hl) (Bdi row y1) (by rw [Bf2]; exact Be8 (Bm3 (Bh4 ..)) hst) (fun z hz=>hfl z (hrm.2 z hz)) ?_
      have hGx:G (lo,hi,row)=Ay a.A1 nm nums f (at_ + 1) row (st ++ [Abp (nm at_) (Aaj z0.1 zl.2)]):=by rw [<- hG]; dsimp only; rw [hE]
      rw [<- hGx]
      exact Ajn (.val _) (.val _) (hK (y ++ G (lo,hi,row)) _ _ ⟨fun z hz=>e2 z (.tail _ hz),by rw [<- e3,Bj1]⟩ (Sub.refl _) rfl) hyl
end
structure Ent where
 name:Str
 top:Nat
 nums:List Int
noncomputable def Axd (e:Ent):V:=.tup [.str e.name,.int e.top,.tup (e.nums.map .int)]
noncomputable def Aeu:List Ent:=[⟨"meta nfproto",1,[2,10]⟩,⟨"ip ecn",2,[]⟩,⟨"meta mark",2,[]⟩,⟨"icmp type",1,[]⟩,⟨"meta l4proto",2,[]⟩,⟨"ct state",2,[1,2,64]⟩,⟨"vlan id",2,[]⟩,⟨"ether type",1,[]⟩,⟨"arp operation",2,[]⟩,⟨"meta protocol",1,[]⟩,⟨"th sport",2,[]⟩,⟨"udp length",1,[]⟩]
section
variable {w:World} {n:Nat} {σ:Sto} {Q:V->Sto->Prop} {Y:Str->Sto->Prop}
theorem Avo (hq:∀ p,σ p=none->Q (.loc p) (σ.put p (.list (Aeu.map Axd)))):Fn (PM w) (n + 1) (.ref 278) [] σ Q Y:=
 B8 rfl rfl (len0 rfl) rfl fun R' Y' hR hY hRs hYs=>.inl fun p hp=>hR (hq p hp)
theorem At8 (hq:∀ p ns,ns.length=66->σ p=none->Q (.loc p) (σ.put p (B0 ns))):Fn (PM w) (n + 1) (.ref 264) [] σ Q Y:=
 B8 rfl rfl (len0 rfl) rfl fun R' Y' hR hY hRs hYs=>.inl fun p hp=>hR (hq p [0,0,0,1,1,2,1,2,0,1,0,1,3,2,1,3,3,0,1,2,1,3,1,0,0,0,4,1,3,1,1,0,1,1,4,3,0,2,2,4,3,0,1,2,0,1,0,0,5,0,0,0,2,0,2,4,1,4,0,2,0,0,5,4,4,4] rfl hp)
end
section
variable {w:World} {n:Nat} {σ:Sto} {A1:List Nat} {dn db dm lg pl:Addr} {Q:V->Sto->Prop} {Y:Str->Sto->Prop}
theorem Apt {a b} (h:Fn (PM w) n (.ref 100) [B9 A1 dn db dm,a,b] σ Q Y):Fn (PM w) (n + 1) (.ref 321) [B9 A1 dn db dm,.str "make",.tup [a,b]] σ Q Y:=
 B8 rfl rfl (Ajq fun _ _ _=>rfl) rfl fun R' Y' hR hY hRs hYs=>Aw (dT (by decide) (A6 (k:=0) rfl (A6 (k:=1) rfl (Fn.mono h (fun _ _ q=>hR q) fun _ _ q=>hY q))))
theorem Are {a b c d} (h:Fn (PM w) n (.ref 154) [B9 A1 dn db dm,a,b,c,d] σ Q Y):Fn (PM w) (n + 1) (.ref 321) [B9 A1 dn db dm,.str "test",.tup [a,b,c,d]] σ Q Y:=
 B8 rfl rfl (Ajq fun _ _ _=>rfl) rfl fun R' Y' hR hY hRs hYs=>Aw (dF (by decide) (Aw (dT (by decide) (A6 (k:=0) rfl (A6 (k:=1) rfl (A6 (k:=2) rfl (A6 (k:=3) rfl (Fn.mono h (fun _ _ q=>hR q) fun _ _ q=>hY q))))))))
theorem Aqy {a b} (h:Fn (PM w) n (.ref 147) [B9 A1 dn db dm,a,b] σ Q Y):Fn (PM w) (n + 1) (.ref 321) [B9 A1 dn db dm,.str "read",.tup [a,b]] σ Q Y:=
 B8 rfl rfl (Ajq fun _ _ _=>rfl) rfl fun R' Y' hR hY hRs hYs=>Aw (dF (by decide) (Aw (dF (by decide) (Aw (dT (by decide) (A6 (k:=0) rfl (A6 (k:=1) rfl (Fn.mono h (fun _ _ q=>hR q) fun _ _ q=>hY q))))))))
theorem Apd {a} (h:Fn (PM w) n (.ref 161) [a] σ Q Y):Fn (PM w) (n + 1) (.ref 321) [B9 A1 dn db dm,.str "part",.tup [a]] σ Q Y:=
 B8 rfl rfl (Ajq fun _ _ _=>rfl) rfl fun R' Y' hR hY hRs hYs=>Aw (dF (by decide) (Aw (dF (by decide) (Aw (dF (by decide) (Aw (dT (by decide) (A6 (k:=0) rfl (Fn.mono h (fun _ _ q=>hR q) fun _ _ q=>hY q)))))))))
theorem Adq {a b c} (h:Fn (PM w) n (.ref 243) [B9 A1 dn db dm,a,b,c] σ Q Y):Fn (PM w) (n + 1) (.ref 321) [B9 A1 dn db dm,.str "chains",.tup [a,b,c]] σ Q Y:=
 B8 rfl rfl (Ajq fun _ _ _=>rfl) rfl fun R' Y' hR hY hRs hYs=>Aw (dF (by decide) (Aw (dF (by decide) (Aw (dF (by decide) (Aw (dF (by decide) (Aw (dT (by decide) (A6 (k:=0) rfl (A6 (k:=1) rfl (A6 (k:=2) rfl (Fn.mono h (fun _ _ q=>hR q) fun _ _ q=>hY q)))))))))))))
theorem Ai6 {a b c} (h:Fn (PM w) n (.ref 257) [B9 A1 dn db dm,a,b,c,.int 99] σ Q Y):Fn (PM w) (n + 1) (.ref 321) [B9 A1 dn db dm,.str "rules",.tup [a,b,c]] σ Q Y:=
 B8 rfl rfl (Ajq fun _ _ _=>rfl) rfl fun R' Y' hR hY hRs hYs=>Aw (dF (by decide) (Aw (dF (by decide) (Aw (dF (by decide) (Aw (dF (by decide) (Aw (dF (by decide) (A6 (k:=0) rfl (A6 (k:=1) rfl (A6 (k:=2) rfl (Fn.mono h (fun _ _ q=>hR q) fun _ _ q=>hY q)))))))))))))
theorem Aar {why what args} (h:Fn (PM w) n (.ref 321) [B9 A1 dn db dm,.str what,args] σ (fun _ _=>False) (fun y σ'=>Q (.bool (decide (y=why))) σ')) :
  Fn (PM w) (n + 1) (.ref 328) [B9 A1 dn db dm,.str why,.str what,args] σ Q Y:=by
 refine B8 rfl rfl (Aqc fun _ _ _ _=>rfl) rfl fun R' Y' hR hY hRs hYs=>?_
 refine Ary rfl rfl rfl rfl (by decide) rfl rfl rfl rfl ?_
 refine Aj7 (Apu (Ank 321 rfl rfl (by kernel_rfl) rfl (fun _=>rfl) (fun _=>rfl) (Aea (Afy _ (.inl rfl) rfl rfl rfl (Aea (Afy _ (.inl rfl) rfl rfl rfl (Aea (Afy _ (.inl rfl) rfl rfl rfl (Am3 ?_)) fun _=>rfl)) fun _=>rfl)) fun _=>rfl)) fun _=>rfl)
 exact Fn.mono h (fun v σ' hf=>hf.elim) fun y σ' hy=>⟨why,rfl,hR hy⟩
end
noncomputable def Reads (w:World) (n:Nat) (a:Wo) (D:List V) (k:Nat) (c x:V):Prop:=∀ (σ':Sto) (Q:V->Sto->Prop) (Y:Str->Sto->Prop),σ' a.dn=some (.list D)->Q x σ'->Fn (PM w) n (.ref 147) [a.dia,.int k,c] σ' Q Y
theorem range_getD {l:List V}:(Bi1 l.length).map (fun j=>l.getD j .none)=l:=by
 apply List.ext_getElem?
 intro i
 by_cases h:i < l.length
 · simp [h]
 · simp [h]
theorem Ail {l:List V} {m:Nat} (h:l.length=m):(Bi1 m).filterMap (fun j=>l[j]?)=l:=by
 have:∀ (l:List V),(Bi1 l.length).filterMap (fun j=>l[j]?)=l:=by
  intro l
  induction l with
  | nil=>rfl
  | cons a l ih=>
   rw [Bh5,By9,Bq4]
   simp only [List.getElem?_cons_zero,List.filterMap_map,Function.comp_def,List.getElem?_cons_succ]
   rw [ih]
 rw [<- h]; exact this l
section
variable {w:World} {n:Nat} {σ:Sto} {Q:V->Sto->Prop} {Y:Str->Sto->Prop}
theorem Ar1 {T:List (List V)} {k:Nat} {t:List V} (ht:T[k]?=some t):Ap ((T.take k).map V.tup) ++ [(V.tup t,V.int k)]=Ap ((T.take (k + 1)).map V.tup):=by
 rw [Cd3,ht,Bg2]
 have:=Ajy (D:=(T.take k).map V.tup) (x:=V.tup t)
 rw [Bf0,Bn5,Bs0 (Bk5 (Bf8.mp ht).1)] at this
 exact this.symm
theorem Ato {T:List (List V)} {k:Nat} {t:List V} (hT:T.Nodup) (ht:T[k]?=some t):V.tup t ∉ (T.take k).map V.tup:=fun hm=>by
 obtain ⟨t',ht',e⟩:=Bh3.mp hm
 cases e
 have h2:(T.take (k + 1)).Nodup:=(List.take_sublist ..).nodup hT
 rw [Cd3,ht] at h2
 exact (Bm6.mp h2).2.2 _ ht' _ (.head _) rfl
theorem Anx {wl:Addr} {a:Wo} {D:List V} {T:List (List V)} (hw:σ wl=some (.A5 a.es)) (hD:σ a.dn=some (.list D)) (hDl:D.length=T.length) (hT:T.Nodup) (hl:T.length<=100) (hlen:∀ t∈T,t.length=a.cells.length) (hc:a.cells.length<=100)
   (Akp:∀ t∈T,V.keys t=true/\V.Be t<=7) (hr:∀ (k:Nat) (t:List V),T[k]?=some t->∀ (j:Nat) (c x:V),a.cells[j]?=some c->t[j]?=some x->Reads w n a D k c x)
   (hq:∀ f,σ f=none->Q (.loc f) (σ.put f (.Ad (Ap (T.map .tup))))):Fn (PM w) (n + 1) (.ref 348) [.loc wl] σ Q Y:=by
 refine B8 rfl rfl (Aov fun _=>rfl) rfl fun R' Y' hR hY hRs hYs=>Aka fun fa hfa=>?_
 have nw:=A7 hw hfa
 have nd:=A7 hD hfa
 have hw':∀ es,(σ.put fa (.Ad es)) wl=some (.A5 a.es):=fun es=>by rw [Sto.A4 _ _ nw]; exact hw
 have hD':∀ es,(σ.put fa (.Ad es)) a.dn=some (.list D):=fun es=>by rw [Sto.A4 _ _ nd]; exact hD
 have hc':a.cells.length<=100000:=Be8 hc (by decide)
 refine Ac (hw' _) rfl (Aa1 (.loc (hD' _)) (by rw [hDl]; exact Be8 hl (by decide)) (Aac (k:=T.length) (by rw [hDl]) ?_ (Be8 hl (by decide))))
 refine Ajx (u:=0) (α:=Nat) (fun k=>σ.put fa (.Ad (Ap ((T.take k).map .tup)))) (fun _=>[("world",.loc wl),("found",.loc fa)]) (fun k j=>j=k) 0 rfl rfl (Sub.refl _) rfl ?_ ?_
 · rintro _ rfl
   rw [Bk8,Ce6]
   exact .go (hR (hq fa hfa))
 · rintro _ k K hk hK rfl
   rw [Bk8] at hk
   obtain ⟨t,ht⟩:∃ t,T[k]?=some t:=⟨_,Bf1 hk⟩
   have htm:=Bg0 ht
   obtain ⟨ky1,ky2⟩:=Akp t htm
   refine Aht rfl (Ac (hw' _) rfl ?_)
   rw [show V.lst a.cells=.lst ((Bi1 a.cells.length).map fun j=>a.cells.getD j .none) by rw [range_getD]]
   refine Acw (fun j=>a.cells.getD j .none) (fun j=>t[j]?) _ rfl (by rw [Bl0]; exact hc') ?_ fun acc B1 i hi vs K1 K0 g1 g0=>?_
   · rw [Ail (hlen t htm)]
     have Bcm:=Ato hT ht
     refine Aa7 (.val _) (by rw [hlen t htm]; exact hc') (Asp (Sto.A0 ..) ky1 ky2 ?_)
     rw [Ab6,if_neg Bcm]
     refine Amn (Sto.A0 ..) ky1 ky2 (by rw [Ab6,if_neg Bcm]) ?_ ?_
     · rw [Sto.A9]
       exact hK (k + 1) _ _ rfl (by rw [Ar1 ht]; exact Sub.refl _) rfl
     · rw [Ap,Bf0,Cj4,Bf0,Bn5]; exact Be8 (Bm4 ..) (Be8 hl (by decide))
   · have hi':=Bk7.mp hi
     obtain ⟨x,hx⟩:∃ x,t[i]?=some x:=⟨_,Bf1 (by rw [hlen t htm]; exact hi')⟩
     exact Ac (a:=wl) (by rw [Sto.A4 _ _ (A7 (hw' _) B1)]; exact hw' _) rfl (hr k t ht i _ x (by rw [Bj9,Bf1 hi']; rfl) hx _ _ _ (by rw [Sto.A4 _ _ (A7 (hD' _) B1)]; exact hD' _) (g1 _ _ hx (Sub.refl _)))
end
noncomputable def Bb:List Nat->List V->List Nat->Option V
 | [],t,_=>t.head?
 | p :: ps,t,x :: xs=>if dif (rowsOf t p) then (if p < x then none else Bb ps ((rowsOf t p).getD x []) xs) else Bb ps ((rowsOf t p).headD []) xs
 | _ :: _,_,[]=>none
theorem Aiv:∀ (x:List V) (p:Nat) (ps:List Nat) (x_3:Nat) (xs:List Nat),Bb (p :: ps) x (x_3 :: xs)=if dif (Mine.Internal.rowsOf x p)=true then if p < x_3 then none else Bb ps ((Mine.Internal.rowsOf x p).getD x_3 []) xs else Bb ps ((Mine.Internal.rowsOf x p).headD []) xs:=by intros; rfl
section
variable {w:World} {n:Nat} {σ:Sto} {Q:V->Sto->Prop} {Y:Str->Sto->Prop}
theorem Avb {wl:Addr} {a:Wo} {k:Nat} {t:List V} {vals:List Nat} (hw:σ wl=some (.A5 a.es)) (Ba:∀ p∈a.A1,p<=10) (hsz:t.length=szs a.A1) (hl:t.length<=1000) (hf:∀ x∈t,B3 x) (h3:a.A1.length<=100) (hvl:vals.length=a.A1.length) (hv:∀ x∈vals,x<=100)
   (h1:Bb a.A1 t vals=none->∀ Q',Q' "a value past its variable's top" σ->Fn (PM w) n (.ref 147) [a.dia,.int k,.lst (tupI vals)] σ (fun _ _=>False) Q')
   (h2:∀ x,Bb a.A1 t vals=some x->∀ (Q':V->Sto->Prop) Y',Q' x σ->Fn (PM w) (n + 2) (.ref 147) [a.dia,.int k,.lst (tupI vals)] σ Q' Y') (hq:Q (.bool true) σ) :
   Fn (PM w) (n + 3) (.ref 353) [.loc wl,.tup [.int k,.tup t],.lst (tupI vals)] σ Q Y:=by
 have hn1:n + 1<=n + 2:=Bm9 _
 refine B8 rfl rfl (Ajq fun _ _ _=>rfl) rfl fun R' Y' hR hY hRs hYs=>A6 (k:=1) rfl (Ac hw rfl (Ads ?_))
 refine Aoh (fun p:Nat=>V.int (p:Int)) (α:=List V) (fun _=>σ) (fun t'=>[("world",.loc wl),("one",.tup [.int k,.tup t]),("values",.lst (tupI vals)),("table",.tup t')])
   (fun u ps t'=>a.A1.drop u=ps/\t'.length=szs ps/\t'.length<=1000/\(∀ z∈t',B3 z)/\Bb ps t' (vals.drop u)=Bb a.A1 t vals) a.A1 t rfl
   ⟨rfl,hsz,hl,hf,rfl⟩ (Sub.refl _) rfl ?_ ?_
 · rintro u t' ⟨_,e3,e4,e5,e6⟩
   cases t' with
   | nil=>cases e3
   | cons x xs=>
   have hx:=e5 x (.head _)
   exact .go (Ac hw rfl (A6 (k:=0) rfl (h2 x (by rw [<- e6]; rfl) _ _ (A6 (k:=0) (d:=x) rfl (Ahk (.val _) (.val _) (dT rfl (hR hq)) hx.1 hx.1 (Be8 (Bq9 ..) (Be8 hx.2 (by decide))))))))
 · rintro u p ps t' K hK ⟨g0,e3,e4,e5,e6⟩
   obtain ⟨g1,g2⟩:=drop_cons g0
   have Bat:p<=10:=Ba p (Bg0 g1)
   have hul:u < a.A1.length:=(Bf8.mp g1).1
   have hul':u < 1000000:=Bh0 hul (Be8 h3 (by decide))
   obtain ⟨xv,hxv⟩:∃ xv,vals[u]?=some xv:=⟨_,Bf1 (hvl ▸ hul)⟩
   have hvd:vals.drop u=xv :: vals.drop (u + 1):=by
    rw [Bj3 (hvl ▸ hul)]; congr 1
    rw [Bf1 (hvl ▸ hul)] at hxv; exact Br1 hxv
   rw [hvd,Aiv] at e6
   obtain ⟨r0,rs,hrs⟩:=Ad1 t' p
   have hr0:r0∈rowsOf t' p:=by rw [hrs]; exact .head _
   have e5':∀ r∈rowsOf t' p,∀ v∈r,B3 v:=fun r hr v hv=>e5 v (Adi hr hv)
   have nxt:∀ r∈rowsOf t' p,Bb ps r (vals.drop (u + 1))=Bb a.A1 t vals->a.A1.drop (u + 1)=ps/\r.length=szs ps/\r.length<=1000/\(∀ z∈r,B3 z)/\Bb ps r (vals.drop (u + 1))=Bb a.A1 t vals:=
    fun r hr h=>⟨g2,Ady e3 hr,Be8 (Ag0 hr) e4,e5' r hr,h⟩
   refine Fn.room (n:=n + 1) (Alb (n:=n) e4 Bat (Aht rfl ?_)) hn1
   refine Acw V.tup (fun r=>if r≠r0 then some (.tup r) else none) _ rfl (by rw [rowsOf,Bf0,Bl0]; lia) (.inr (Av0 (by rw [hrs]; rfl) e5' (.mk _ (.bool _) ?_))) fun acc B1 r hr vs K1 K0 h1 h0=>Ab (k:=0) (d:=.tup r0) (.val _) (by rw [hrs]; rfl) (Ar0 (e5' r hr) (e5' r0 hr0) (fun q=>h1 _ _ (if_pos q) (Sub.refl _)) fun q=>h0 _ (if_neg fun h=>h q) (Sub.refl _))
   have sv:∀ {P:V->Sto->Prop},P (.int xv) σ->Su (PM w) (n + 2) (.lst (tupI vals)) (.int u) σ P:=fun h=>Ab (k:=u) (d:=.int xv) (.val _) (by rw [tupI,Bf9,hxv]; rfl) h hul'
   cases hd:dif (rowsOf t' p) with
   | true=>
    rw [hd,if_pos rfl] at e6
    refine sv (Ahm (dI (fun hlt=>?_) fun hlt=>?_))
    · rw [if_pos (Bn2.mp hlt)] at e6
      exact Ac hw rfl (A6 (k:=0) rfl (Aar (n:=n + 1) (Aqy (n:=n) (h1 e6.symm _ (by rw [decide_eq_true rfl]; exact hR hq)))))
    · have hlt:¬ p < xv:=fun h=>hlt (Bn2.mpr h)
      rw [if_neg hlt] at e6
      have hxl:xv < (rowsOf t' p).length:=by rw [rowsOf,Bf0,Bl0]; exact r52 ‹_›
      have hrx:(rowsOf t' p)[xv]∈rowsOf t' p:=Bl7 _
      rw [Bj9,Bf1 hxl] at e6
      exact .mk _ (.bool _) (sv (Ab (k:=xv) (d:=.tup (rowsOf t' p)[xv]) (.val _) (by rw [Bf9,Bf1 hxl]; rfl) (hK _ _ _ (nxt _ hrx e6) (Sub.refl _) rfl) (Bg7 (hv _ (Bg0 hxv)) (by decide))))
   | false=>
    rw [hd,if_neg Bg6,hrs] at e6
    exact .mk _ (.bool _) (Ab (k:=0) (d:=.tup r0) (.val _) (by rw [hrs]; rfl) (hK r0 _ _ (nxt r0 hr0 e6) (Sub.refl _) rfl))
end
section
variable {w:World} {n:Nat} {σ:Sto} {Q:V->Sto->Prop} {Y:Str->Sto->Prop}
theorem Ad3 {l:List Nat} {p:Nat->Prop} [DecidablePred p] {f:Nat->V}:l.filterMap (fun k=>if p k then some (f k) else none)=(l.filter fun k=>decide (p k)).map f:=by
 induction l with
 | nil=>rfl
 | cons a l ih=>
  rw [Bq4,Cl7]
  by_cases h:p a
  · simp only [h,if_true,decide_true,Bh1,ih]
  · simp only [h,if_false,decide_false,Bp7,ih]
theorem Aml:∀ (ts:List Nat) (m:Int),ts.foldl (fun (m:Int) (p:Nat)=>m * ((p:Int) + 1)) m=m * (szs ts:Nat)
 | [],m=>by simp [Ayx,Afu]
 | p :: ps,m=>by
  rw [Bv1,Aml ps,Afu]; push_cast; rw [Int.mul_assoc]
theorem Arq {wl nl:Addr} {a:Wo} {es:List (V × V)} {i j v top:Nat} {ta tb:List V} {ps:List (Int × Nat × Nat)} (hw:σ wl=some (.A5 a.es)) (hnu:σ nl=some (.Ad es)) (h3:a.A1.length=3) (Ba:∀ p∈a.A1,p<=10)
   (hla:ta.length=szs a.A1) (hlb:tb.length=szs a.A1) (hl:szs a.A1<=100) (hfa:∀ x∈ta,B3 x) (hfb:∀ x∈tb,B3 x)
   (htv:v < 3->a.A1[v]?=some top) (hv:v=min (asked a.A1 ta).1 (asked a.A1 tb).1)
   (hsp:v < 3->∀ (Q':V->Sto->Prop) Y',Q' (.tup [.int v,.lst (ps.map pcV)]) σ->Fn (PM w) (n + 3) (.ref 133) [a.dia,.tup [.int i,.int j]] σ Q' Y')
   (hne:ta≠tb->v < 3->∃ (l x y:Nat) (ra rb:List V),l<=top/\((Bi1 (top + 1)).filter fun k=>decide ((rowsOf (ta.take (szs (a.A1.drop v))) top)[k]?≠(rowsOf (tb.take (szs (a.A1.drop v))) top)[k]?))[0]?=some l ∧
     (rowsOf (ta.take (szs (a.A1.drop v))) top)[l]?=some ra/\(rowsOf (tb.take (szs (a.A1.drop v))) top)[l]?=some rb/\Am es (.tup (whole a.cells.length ra))=some (.int x)/\Am es (.tup (whole a.cells.length rb))=some (.int y) ∧
     V.keys (whole a.cells.length ra)=true/\V.Be (whole a.cells.length ra)<=7/\V.keys (whole a.cells.length rb)=true/\V.Be (whole a.cells.length rb)<=7/\ra≠[]/\rb≠[]/\ra.length<=a.cells.length/\rb.length<=a.cells.length/\unlike 0 ps=some ((l:Int),x,y))
   (hcl:a.cells.length<=100) (heq:ta=tb->unlike 0 ps=none) (hq:Q (.bool true) σ) :
   Fn (PM w) (n + 6) (.ref 358) [.loc wl,.loc nl,.tup [.int i,.tup ta],.tup [.int j,.tup tb]] σ Q Y:=by
 have la:ta.length<=100:=hla ▸ hl
 have lb:tb.length<=100:=hlb ▸ hl
 have two:2<=100000:=by decide
 have r2:n + 2<=n + 5:=Bf4 (by decide) n
 refine B8 rfl rfl (Aqc fun _ _ _ _=>rfl) rfl fun R' Y' hR hY hRs hYs=>A6 (k:=1) rfl (Fn.room (n:=n + 2) (Ac8 (n:=n) (v:=0) hw h3 Ba (Bh2 _) (Be8 la (by decide)) hfa ?_) r2)
 rw [Bo9,Bk8]
 refine A6 (k:=0) rfl (A6 (k:=1) rfl (Fn.room (n:=n + 2) (Ac8 (n:=n) (v:=0) hw h3 Ba (Bh2 _) (Be8 lb (by decide)) hfb ?_) r2))
 rw [Bo9,Bk8]
 refine A6 (k:=0) rfl (Afd ?_)
 rw [show min ((asked a.A1 ta).1:Int) ((asked a.A1 tb).1:Int)=(v:Int) by rw [hv]; exact r15]
 refine Abx (dI (fun _=>hR hq) fun q3=>?_)
 have hv3:v < 3:=by
   have:=(Aam (t:=ta) Ba).2.2
   exact Bu6 (by rw [hv,<- h3]; exact Be8 (Bq9 ..) this) fun e=>q3 (congrArg Int.ofNat e)
 have htp:=htv hv3
 have Bb4:=Ba top (Bg0 htp)
 refine Ac hw rfl (A6 (k:=0) rfl (A6 (k:=0) rfl (Fn.room (n:=n + 3) (hsp hv3 _ _ (A6 (k:=1) rfl (A6 (k:=1) rfl (A6 (k:=1) rfl (Ahk (.val _) (.val _) (dI (fun qe=>?_) fun qe=>?_) (Ab9 hfa) (Ab9 hfb) (by have:=Ae1 hfa; simp only [V.dep]; lia)))))) (Bf4 (by decide) n))))
 · have qe:=V.tup.inj qe
   refine Ac hw rfl (Aar (n:=n + 4) (Apd (n:=n + 3) (Ak8 (n:=n) (fun l x y e=>?_) fun _=>by rw [decide_eq_true rfl]; exact hR hq)))
   rw [heq qe] at e; cases e
 · have qe:ta≠tb:=fun e=>qe (congrArg V.tup e)
   refine Ac hw rfl (Aq8 (lo:=some v) (hi:=none) (.val _) rfl rfl ?_ (by rw [tupI,Bf0,h3]; decide))
   rw [show slc (some v) none (tupI a.A1)=(a.A1.drop v).map fun p:Nat=>V.int (p:Int) by rw [slc]; simp only [Bz8,Bm2,Ce6,tupI,List.map_drop]]
   refine Ajw (fun p:Nat=>V.int (p:Int)) (α:=Int) (fun _=>σ) (fun x=>[("world",.loc wl),("numbers",.loc nl),("one",.tup [.int i,.tup ta]),("other",.tup [.int j,.tup tb]),("variable",.int v),("pieces",.lst (ps.map pcV)),("many",.int x)])
     (fun rs x=>(∀ p∈rs,p<=10)/\rs.foldl (fun (m:Int) (p:Nat)=>m * ((p:Int) + 1)) x=(szs (a.A1.drop v):Nat)) _ 1 rfl ⟨fun p hp=>Ba p (Ca5 hp),by rw [Aml,Int.one_mul]⟩ (Sub.refl _) rfl ?_ ?_
   · rintro x ⟨_,e2⟩
     rw [Ch8] at e2
     subst e2
     obtain ⟨l,x,y,ra,rb,l1,l2,l3,l4,l5,l6,l7,l8,l9,l10,l11,l12,l13,l14,l15⟩:=hne qe hv3
     generalize hRA:rowsOf (ta.take (szs (a.A1.drop v))) top=RA at *
     generalize hRB:rowsOf (tb.take (szs (a.A1.drop v))) top=RB at *
     have Bbf:RA.length=top + 1:=by rw [<- hRA,rowsOf,Bf0,Bl0]
     have Bdb:RB.length=top + 1:=by rw [<- hRB,rowsOf,Bf0,Bl0]
     have fa:∀ r∈RA,∀ z∈r,B3 z:=fun r hr z hz=>hfa z (Ch4 (Adi (by rw [hRA]; exact hr) hz))
     have fb:∀ r∈RB,∀ z∈r,B3 z:=fun r hr z hz=>hfb z (Ch4 (Adi (by rw [hRB]; exact hr) hz))
     have tl:top + 1<=100000:=Bg4 (Be8 Bb4 (by decide))
     have vl:v < 1000000:=Bj4 hv3 (by decide)
     refine .go (Awl rfl ?_)
     refine Aht rfl (Acv (β:=Nat × List V × List (List V)) (fun x=>.tup [.int x.1,.tup x.2.1]) (fun x=>.lst (x.2.2.map .tup)) [(i,ta,RA),(j,tb,RB)] rfl two ?_ fun acc B1 x hx vs K hK=>?_)
     rotate_left
     · obtain ⟨hxl,hxr⟩:=all2 (p:=fun x:Nat × List V × List (List V)=>x.2.1.length<=100/\rowsOf (x.2.1.take (szs (a.A1.drop v))) top=x.2.2) ⟨la,hRA⟩ ⟨lb,hRB⟩ x hx
       have e:slc none (some (szs (a.A1.drop v))) x.2.1=x.2.1.take (szs (a.A1.drop v)):=by rw [slc]; simp only [Bz8,Bm2,Bo9]
       refine A6 (k:=1) rfl (Amx (lo:=none) (hi:=some (szs (a.A1.drop v))) rfl rfl (Ac (a:=wl) (by rw [Sto.A4 _ _ (A7 hw B1)]; exact hw) rfl (Ab (k:=v) (.val _) (by rw [tupI,Bf9,htp]; rfl) (Fn.room (n:=n + 1) (Alb (n:=n) (Be8 (Agj ..) (Be8 hxl (by decide))) Bb4 ?_) (Bf4 (by decide) n)) vl)) (Be8 hxl (by decide)))
       rw [e,hxr]; exact hK _ (Sub.refl _)
     refine Aht rfl (Ab (k:=0) (.val _) rfl (Aa1 (.val _) (by rw [Bf0]; exact Bbf ▸ tl) (Aac (k:=top + 1) (by rw [Bf0]; exact congrArg _ Bbf) ?_ (Be8 tl (by decide)))))
     rw [Acl]
     refine Acw _ (fun k=>if RA[k]?≠RB[k]? then some (.int (k:Nat)) else none) (Bi1 (top + 1)) rfl (by rw [Bl0]; exact tl) ?_ fun acc B1 k hk vs K1 K0 h1 h0=>?_
     rotate_left
     · have hk':k < top + 1:=Bk7.mp hk
       have e1:RA[k]?=some RA[k]:=Bf1 (Bbf ▸ hk')
       have e2:RB[k]?=some RB[k]:=Bf1 (Bdb ▸ hk')
       have kl:k < 1000000:=Bh0 hk' (Be8 tl (by decide))
       rw [Int.zero_add]
       refine Ab (k:=0) (.val _) rfl (Ab (k:=k) (d:=.tup RA[k]) (.val _) (by rw [Bf9,e1]; rfl) (Ab (k:=1) (.val _) rfl (Ab (k:=k) (d:=.tup RB[k]) (.val _) (by rw [Bf9,e2]; rfl) (Ar0 (fa _ (Bl7 _)) (fb _ (Bl7 _)) (fun q=>h1 _ _ (if_pos ?_) (Sub.refl _)) fun q=>h0 _ (if_neg ?_) (Sub.refl _)) kl)) kl)
       · rw [e1,e2]; exact fun e=>q (Br1 e)
       · rw [e1,e2,q]; exact fun e=>e rfl
     rw [Ad3]
     refine Ab (k:=0) (d:=.int l) (.val _) (by rw [Bf9,l2]; rfl) ?_
     refine Axg rfl rfl rfl (Acv (β:=List (List V) × List V × Nat) (fun z=>.lst (z.1.map .tup)) (fun z=>.int z.2.2) [(RA,ra,x),(RB,rb,y)] rfl two ?_ fun acc B1 z hz vs K hK=>?_)
     rotate_left
     · obtain ⟨z1,z2,z3,z4,z5,z6⟩:=all2 (p:=fun z:List (List V) × List V × Nat=>z.1[l]?=some z.2.1/\Am es (.tup (whole a.cells.length z.2.1))=some (.int z.2.2)/\V.keys (whole a.cells.length z.2.1)=true/\V.Be (whole a.cells.length z.2.1)<=7/\z.2.1≠[]/\z.2.1.length<=a.cells.length) ⟨l3,l5,l7,l8,l11,l13⟩ ⟨l4,l6,l9,l10,l12,l14⟩ z hz
       exact Ab (k:=l) (d:=.tup z.2.1) (.val _) (by rw [Bf9,z1]; rfl) (Fn.room (n:=n + 1) (Ajc (n:=n) (a:=a) (by rw [Sto.A4 _ _ (A7 hw B1)]; exact hw) (Be8 hcl (by decide)) z5 z6 (Aee (a:=nl) (by rw [Sto.A4 _ _ (A7 hnu B1)]; exact hnu) z3 z4 z2 (hK _ (Sub.refl _)))) (Bf4 (by decide) n)) (Bg7 l1 (Bg7 Bb4 (by decide)))
     refine Fn.room (n:=n + 3) (Ak8 (n:=n) (fun l' x' y' e=>?_) (fun e=>by rw [l15] at e; cases e)) (Bf4 (by decide) n)
     rw [l15] at e; cases e
     exact Ab (k:=0) (.val _) rfl (Ab (k:=1) (.val _) rfl (Ahk (.val _) (.val _) (dT rfl (hR hq)) rfl rfl (Bh8 rfl)))
   · rintro p rs x K hK ⟨hrs,e2⟩
     have hpp:p<=10:=hrs p (.head _)
     exact Au4 (hK _ _ _ ⟨fun z hz=>hrs z (.tail _ hz),e2⟩ (Sub.refl _) rfl) (IntMulOk.of_right (intBits_le_64 (by lia) (by lia)))
end
noncomputable def Aa6 (f:List (Int × Int)) (p:Int × Int):List (Int × Int):=match f.getLast? with
 | some q=>if p.1<=q.2 + 1 then (if q.2 < p.2 then f.dropLast ++ [(q.1,p.2)] else f) else f ++ [p]
 | none=>[p]
noncomputable def Air (l:List (Int × Int)):List (Int × Int):=l.foldl Aa6 []
theorem Afi {f p}:(Aa6 f p).length<=f.length + 1:=by
 unfold Aa6
 split
 · split
   · split
     · rw [Bf2,Ch5]; exact Bg4 (Bx8 ..)
     · exact Bm9 _
   · rw [Bf2]; exact Bh7 _
 · exact Bq0 ..
noncomputable def Aan (top:Int) (y k:Nat) (x:List (Int × Nat) × Int) (p:Int × Int):List (Int × Nat) × Int:=
 if p.1<=top then (x.1 ++ (if x.2 < p.1 then [(p.1 - 1,k)] else []) ++ [(min p.2 top,y)],p.2 + 1) else x
noncomputable def Agz (top:Int) (y k:Nat) (l:List (Int × Int)):List (Int × Nat):=
 (l.foldl (Aan top y k) ([],0)).1 ++ (if (l.foldl (Aan top y k) ([],0)).2<=top then [(top,k)] else [])
section
variable {w:World} {n:Nat} {σ:Sto} {A1:List Nat} {dn db dm:Addr} {D:List V} {Q:V->Sto->Prop} {Y:Str->Sto->Prop}
theorem Avf {ps} (hl:ps.length<=5) (hq:∀ ps':List (Int × Int),ps'.Perm ps->ps'.Pairwise (fun a b=>a.1<=b.1)->Q (.lst ((Air ps').map Acs)) σ) :
   Fn (PM w) (n + 1) (.ref 65) [.lst (ps.map Acs)] σ Q Y:=by
 have lf:∀ {f:List (Int × Int)},f.length<=5->(f.map Acs).length<=100000:=fun h=>by rw [Bf0]; exact Be8 h (by decide)
 refine B8 rfl rfl (Aov fun _=>rfl) rfl fun R' Y' hR hY hRs hYs=>.inl fun fa hfa=>Aq0 (.val _) hl (fun ps' hp hs=>?_)
 refine Ajw prV (α:=List (Int × Int)) (fun f=>σ.put fa (.list (f.map Acs))) (fun f=>[("found",.loc fa)]) (fun rs f=>rs.foldl Aa6 f=Air ps'/\f.length + rs.length<=5) ps' [] rfl
   ⟨rfl,by rw [Bl2,Bk8,hp.length_eq]; exact hl⟩ (Sub.refl _) rfl ?_ ?_
 · rintro f ⟨e2,_⟩
   rw [Ch8] at e2
   subst e2
   exact .frz "found" rfl (Sto.A0 ..) (.go (hRs (Sub.del (Sub.new (Sub.refl _) hfa) hfa) (hq ps' hp hs)))
 · rintro p rs f K hK ⟨e2,e3⟩
   have e3':f.length + 1 + rs.length<=5:=by rw [Bh4]; exact e3
   have f1:f.length + 1<=5:=Be8 (Bg9 ..) e3'
   have hK:=fun σ' m'=>hK (Aa6 f p) σ' m' ⟨e2,Be8 (Bi6 Afi _) e3'⟩
   clear e2 e3 e3'
   refine .mk _ (.list (.loc (Sto.A0 ..)) (lf (Bl8 f1))) ?_
   induction f using snoc with
   | h0=>
    refine Af (Sto.A0 ..) (Ae (Sto.A0 ..) (hK _ _ ?_ rfl) (Bh2 _))
    rw [Sto.A9]; exact Sub.refl _
   | h1 fs y=>
    rw [show (!((fs ++ [y]).map Acs).isEmpty)=true by rw [Bg2]; exact congrArg (!·) Aqz]
    have hst:Aa6 (fs ++ [y]) p=if p.1<=y.2 + 1 then (if y.2 < p.2 then fs ++ [(y.1,p.2)] else fs ++ [y]) else fs ++ [y] ++ [p]:=by unfold Aa6; rw [Ca6,Bt0]
    refine Acd (.loc (Sto.A0 ..)) (getL _) (A6 (k:=1) rfl (Ajo (dI (fun q1=>?_) fun q1=>?_)))
    · rw [if_pos q1] at hst
      refine Acd (.loc (Sto.A0 ..)) (getL _) (A6 (k:=1) rfl (Ahm (dI (fun q2=>?_) fun q2=>?_)))
      · rw [if_pos q2] at hst
        refine Acd (.loc (Sto.A0 ..)) (getL _) (A6 (k:=0) rfl (Ahe (Sto.A0 ..) (.inr ⟨rfl,rfl⟩) (Bay _) (hK _ _ ?_ rfl)))
        rw [Sto.A9,hst]; exact (Bby (x:=y) (y:=(y.1,p.2)) Acs).symm ▸ Sub.refl _
      · rw [if_neg q2] at hst
        exact hK _ _ (by rw [hst]; exact Sub.refl _) rfl
    · rw [if_neg q1] at hst
      refine Af (Sto.A0 ..) (Ae (Sto.A0 ..) (hK _ _ ?_ rfl) (lf (Bl8 f1)))
      rw [Sto.A9,hst,Bg2 (f:=Acs) (l₁:=fs ++ [y])]; exact Sub.refl _
theorem Akk {top y k x p}:(Aan top y k x p).1.length<=x.1.length + 2:=by
 unfold Aan
 split
 · dsimp only
   rw [Bf2,Bf2]
   split
   · exact Bh7 _
   · exact Bg4 (Bm9 _)
 · exact Bg9 ..
theorem Ajz:∀ (l f:List (Int × Int)),(l.foldl Aa6 f).length<=f.length + l.length
 | [],f=>Bh7 _
 | a :: r,f=>Be8 (Ajz r (Aa6 f a)) (Be8 (Bi6 Afi _) (Bm3 (Bh4 ..)))
theorem Aoz {l}:(Air l).length<=l.length:=Be8 (Ajz l []) (Bm3 (Bk8 _))
theorem Ax5 {P m f v0 v1 a ds} (hx:σ a=some (.list ds)) (h:Fn P m f [v0,v1,.lst ds] (σ.del a) Q Y):Fn P m f [v0,v1,.loc a] σ Q Y:=
 fun A st B g s vals R hv hm=>by
  obtain ⟨h1,h2,o,h3,hc,items,n,hd,hi,_⟩:=R.sto a _ hx
  have R':RepC P B g A st (σ.del a) s:=R.forget fun b y e=>by
   unfold Sto.del at e; split at e
   · cases e
   · exact e
  have gs:=Aa4 (a:=a) R.fz
  have R2:=R'.grow h3 h2 (by simp [Sto.del]) fun f=>by have q:=f.1; rw [hc] at q; exact absurd q (by decide)
  cases hv with
  | cons a0 t=>
  cases t with
  | cons a1 t=>
  cases t with
  | cons a2 t=>
  cases t; cases a2
  refine Bp5 (h A st B _ s _ R2 (.cons (a0.mono gs) (.cons (a1.mono gs) (.one (.lst (Abq.trans h3) hc hd (hi.mono gs))))) hm) fun r s' q=>?_
  cases r with
  | ok f=>
   cases f with
   | ret v=>obtain ⟨g',σ',d,a,b,c,e⟩:=q; exact ⟨g',σ',d,A3 gs a,b,c,e⟩
   | _=>exact q
  | error e=>obtain ⟨g',σ',why,ea,a,b,c,d,e⟩:=q; exact ⟨g',σ',why,ea,A3 gs a,b,c,d,e⟩
theorem Ar5 {v top y k ly lk:Nat} {hy ay hk ak:V} {ps:List (Int × Int)} (h:σ dn=some (.list D)) (hDy:D[y]?=some (.tup [hy,ay])) (hDk:D[k]?=some (.tup [hk,ak])) (hy':y < 1000) (hk':k < 1000)
   (dy:hy.dat=true) (dy':hy.dep<=40) (dk:hk.dat=true) (dk':hk.dep<=40) (hly:As5 A1 hy=.int ly) (hlk:As5 A1 hk=.int lk) (ht:A1[v]?=some top) (hv:v < 100) (htl:A1.length<=100) (hl:ps.length<=5)
   (h1:min ly lk<=v->Y "a test ahead of which another stands" σ)
   (h2:v < min ly lk->∀ ps':List (Int × Int),ps'.Perm ps->ps'.Pairwise (fun a b=>a.1<=b.1)->Fn (PM w) (n + 3) (.ref 100) [B9 A1 dn db dm,.int v,.lst ((Agz top y k (Air ps')).map Au)] σ Q Y) :
   Fn (PM w) (n + 4) (.ref 154) [B9 A1 dn db dm,.int v,.lst (ps.map Acs),.int y,.int k] σ Q Y:=by
 have r1:n + 1<=n + 3:=Bf4 (by decide) n
 refine B8 rfl rfl (Bac fun _ _ _ _ _=>rfl) rfl fun R' Y' hR hY hRs hYs=>Fn.room (n:=n + 1) (Afz h hDy hy' dy dy' ?_ htl) r1
 rw [hly]
 refine Fn.room (n:=n + 1) (Afz h hDk hk' dk dk' ?_ htl) r1
 rw [hlk]
 refine Afd (Ajo (dI (fun q=>hY (h1 (by exact r21 ‹_›))) fun q=>A6 (k:=v) (by rw [tupI,Bf9,ht]; rfl) (.inl fun pa hpa=>Fn.room (n:=n + 1) (Avf hl (fun ps' hp hs=>?_)) r1) (Bj4 hv (by decide))))
 have htl:=Aoz (l:=ps')
 rw [hp.length_eq] at htl
 have h2':=h2 (by exact Bn2.mp (by rw [<- r15]; exact Bx9.mp q)) ps' hp hs
 unfold Agz at h2'
 generalize Air ps'=T at *
 have lf:∀ {f:List (Int × Nat)},f.length<=11->(f.map Au).length<=100000:=fun h=>by rw [Bf0]; exact Be8 h (by decide)
 refine Ajw Acs (α:=List (Int × Nat) × Int) (fun x=>σ.put pa (.list (x.1.map Au))) (fun x=>[("diagrams",B9 A1 dn db dm),("variable",.int v),("yes",.int y),("no",.int k),("top",.int top),("parts",.loc pa),("at",.int x.2)])
   (fun rs x=>rs.foldl (Aan top y k) x=T.foldl (Aan top y k) ([],0)/\x.1.length + 2 * rs.length<=10) T ([],0) rfl ⟨rfl,by rw [Bl2]; lia⟩ (Sub.refl _) rfl ?_ ?_
 · rintro ⟨l,at_⟩ ⟨e2,e3⟩
   rw [Ch8] at e2
   rw [<- e2] at h2'
   have e3:l.length<=10:=e3
   dsimp only at h2'
   have fin:∀ {l':List (Int × Nat)},Fn (PM w) (n + 3) (.ref 100) [B9 A1 dn db dm,.int v,.lst (l'.map Au)] σ Q Y->Fn (PM w) (n + 3) (.ref 100) [B9 A1 dn db dm,.int v,.loc pa] (σ.put pa (.list (l'.map Au))) R' Y':=fun h=>
     Ax5 (Sto.A0 ..) (by rw [Sto.Abn hpa]; exact Fn.mono h (fun _ _ q=>hR q) fun _ _ q=>hY q)
   refine .go (Ajo (dI (fun qa=>?_) fun qa=>?_))
   · rw [if_pos qa] at h2'
     refine Af (Sto.A0 ..) (Ae (Sto.A0 ..) ?_ (lf (Bk1 e3)))
     rw [Sto.A9]
     have:=fin h2'
     rw [Bg2] at this
     exact this
   · rw [if_neg qa,Bh6] at h2'
     exact fin h2'
 · rintro p rs ⟨l,at_⟩ K hK ⟨e2,e3⟩
   have hK:=fun σ' m'=>hK (Aan top y k (l,at_) p) σ' m' ⟨e2,by have:=Akk (top:=top) (y:=y) (k:=k) (x:=(l,at_)) (p:=p); rw [Bh5] at e3; exact Be8 (Bi6 this _) (by rw [Bt6] at e3; rw [Bh4]; exact e3)⟩
   have e3:l.length<=10:=Be8 (Bg9 ..) e3
   unfold Aan at hK
   dsimp only at hK
   refine Ajo (dI (fun q1=>?_) fun q1=>?_)
   · rw [if_pos q1] at hK
     refine Ahm (dI (fun q2=>?_) fun q2=>?_)
     · rw [if_pos q2] at hK
       refine Af (Sto.A0 ..) (Ae (Sto.A0 ..) ?_ (lf (Bk1 e3)))
       rw [Sto.A9]
       refine Af (Sto.A0 ..) (Afd (Ae (Sto.A0 ..) (hK _ _ ?_ rfl) ?_))
       · rw [Sto.A9,Bg2,Bg2]; exact Sub.refl _
       · rw [Bf2,Bf0]; exact Be8 (Bg4 e3) (by decide)
     · rw [if_neg q2,Bh6] at hK
       refine Af (Sto.A0 ..) (Afd (Ae (Sto.A0 ..) (hK _ _ ?_ rfl) (lf (Bk1 e3))))
       rw [Sto.A9,Bg2]; exact Sub.refl _
   · rw [if_neg q1] at hK
     exact hK _ _ (Sub.refl _) rfl
end
noncomputable def Ahh (σ:Sto):List Addr->List O->Sto
 | a :: as,x :: xs=>Ahh (σ.put a x) as xs
 | _,_=>σ
theorem Ag6:∀ {ks vs σ a},a ∉ ks->Ahh σ ks vs a=σ a
 | [],_,_,_,_=>rfl
 | _ :: _,[],_,_,_=>rfl
 | k :: ks,x :: xs,σ,a,h=>by
  rw [Bi0,not_or] at h
  exact (Ag6 h.2).trans (Sto.A4 _ _ h.1)
theorem Aag {ks vs σ} (i:Nat) {a x} (n:ks.Nodup) (h:ks[i]?=some a) (h2:vs[i]?=some x):Ahh σ ks vs a=some x:=by
 induction ks generalizing vs σ i with
 | nil=>cases h
 | cons k ks ih=>
  cases vs with
  | nil=>cases h2
  | cons y ys=>
   cases i with
   | zero=>cases h; cases h2; exact (Ag6 (Br9.mp n).1).trans (Sto.A0 ..)
   | succ i=>exact ih i (Br9.mp n).2 h h2
theorem Akh:∀ {ks vs σ a y},a ∉ ks->(Ahh σ ks vs).put a y=Ahh (σ.put a y) ks vs
 | [],_,_,_,_,_=>rfl
 | _ :: _,[],_,_,_,_=>rfl
 | k :: ks,x :: xs,σ,a,y,h=>by
  rw [Bi0,not_or] at h
  refine (Akh h.2).trans ?_
  rw [Sto.Ao _ _ _ (Bq3 h.1)]; rfl
theorem Aeo {ks vs σ} (i:Nat) {a x y} (n:ks.Nodup) (h:ks[i]?=some a) (h2:vs[i]?=some x):(Ahh σ ks vs).put a y=Ahh σ ks (vs.set i y):=by
 induction ks generalizing vs σ i with
 | nil=>cases h
 | cons k ks ih=>
  cases vs with
  | nil=>cases h2
  | cons z zs=>
   cases i with
   | zero=>
    cases h; cases h2
    refine (Akh (Br9.mp n).1).trans ?_
    rw [Sto.A9]; rfl
   | succ i=>exact ih i (Br9.mp n).2 h h2
theorem Ac3 {ks vs σ a} (e:ks.length=vs.length) (h:Ahh σ ks vs a=none):a ∉ ks/\σ a=none:=by
 induction ks generalizing vs σ with
 | nil=>exact ⟨Bj2,h⟩
 | cons k ks ih=>
  cases vs with
  | nil=>cases e
  | cons x xs=>
   obtain ⟨h1,h2⟩:=ih (Ca9 e) h
   have n:a≠k:=fun q=>by rw [q,Sto.A0] at h2; cases h2
   rw [Sto.A4 _ _ n] at h2
   exact ⟨fun m=>(Bi0.mp m).elim n h1,h2⟩
theorem Acm {ks:List Addr} {a:Addr} (n:ks.Nodup) (h:a ∉ ks):(ks ++ [a]).Nodup:=
 Bm6.mpr ⟨n,nd1,fun x hx y hy e=>h (by rw [<- Bf7.mp hy,<- e]; exact hx)⟩
theorem Sub.none {σ σ'} (h:Sub σ σ') {b} (hb:σ' b=none):σ b=none:=by
 cases q:σ b with
 | none=>rfl
 | some x=>rw [h b x q] at hb; cases hb
theorem Ajv {ks vs σ σ'} (h:Sub σ σ'):Sub (Ahh σ ks vs) (Ahh σ' ks vs):=by
 induction ks generalizing vs σ σ' with
 | nil=>exact h
 | cons k ks ih=>
  cases vs with
  | nil=>exact h
  | cons x xs=>exact ih (h.put k x)
section
variable {P:Pm} {n:Nat} {fx:Fx} {σ:Sto} {m:A8}
theorem Awn {en elt gens scope pos d c acc} (F:V->V) (hd:gens[d]?=some c) (hd1:gens[d + 1]?=none) (ha:c.is_async=0)
  (hgo:(∃ elts k pos,c.target=.Tuple elts k pos)∨((∀ it v,Bl5 c.target it v=pure ())/\en=false)):∀ (ds vs:List V) (Q:Sto->Prop),vs.length + ds.length<=100000 ->
  (∀ x∈ds,∀ vs,Bd P n fx c.target x (σ.put acc (.list vs)) m (fun σ1 m1=>Al5 m m1/\Ts P n fx c.ifs σ1 m1 (fun b σ2=>b=true/\Ev P n fx elt σ2 m1 (fun v σ3=>v=F x/\σ3=σ.put acc (.list vs)) noX)) noX) ->
  Q (σ.put acc (.list (vs ++ ds.map F)))->Cl P n fx en (.ListComp elt gens scope pos) d acc ds (σ.put acc (.list vs)) m Q:=by
 have hdc:∀ c'',gens[d + 1]?=some c''->c''.is_async=0:=fun c'' e=>by rw [hd1] at e; cases e
 intro ds
 induction ds with
 | nil=>exact fun vs Q hl hs hq=>Aik hd ha hdc (fun _ _ e=>nomatch e) hgo (fun _=>by rw [show vs ++ [].map F=vs from Bh6 vs] at hq; exact hq) (fun x r e=>nomatch e)
 | cons x r ih=>
  refine fun vs Q hl hs hq=>Aik hd ha hdc (fun _ _ e=>nomatch e) hgo (fun e=>nomatch e) (fun x' r' e=>?_)
  · cases e
    refine fun A st B g env s v he hr hm hv=>Bf3 (hs x (.head _) vs A st B g env s v he hr hm hv) (fun _ s' qM=>?_) fun _ _ x=>x
    obtain ⟨g',σ',m',hg,hr',hk,hq'⟩:=qM
    refine ⟨g',σ',m',hg,hr',hk,?_⟩
    refine JS.mono hq' (fun b σ'' m'' hh=>⟨hh.1,?_⟩) fun _ _ _ x=>x
    obtain ⟨e1,rfl,hh⟩:=hh
    rw [if_pos rfl,hd1]
    refine Ag hh fun v σ3 qM=>?_
    obtain ⟨h1,h2⟩:=qM
    subst h1; subst h2
    refine ⟨vs,Sto.A0 ..,r56 hl,?_⟩
    rw [Sto.A9]
    exact ih (vs ++ [F x]) Q (by rw [Bf2,Br6,Bm0 _ r.length]; exact hl) (fun y hy=>hs y (.tail _ hy)) (by rw [Bj1]; exact hq)
theorem Az5 {en elt gens scope pos d c c' acc} (F:V->List V) (hd:gens[d]?=some c) (hd1:gens[d + 1]?=some c') (ha:c.is_async=0) (ha':c'.is_async=0)
  (hf:∀ env x,Bo7 c'.iter env x=pure x)
  (hgo:(∃ elts k pos,c.target=.Tuple elts k pos)∨((∀ it v,Bl5 c.target it v=pure ())/\en=false)):∀ (ds vs:List V) (Q:Sto->Prop),vs.length + (ds.flatMap F).length<=100000 ->
  (∀ x∈ds,∀ vs (Q':Sto->Prop),vs.length + (F x).length<=100000->Q' (σ.put acc (.list (vs ++ F x)))->Bd P n fx c.target x (σ.put acc (.list vs)) m (fun σ1 m1=>Al5 m m1/\Ts P n fx c.ifs σ1 m1 (fun b σ2=>b=true/\∃ en',Itr P n fx en' c'.iter σ2 m1 (fun ds' σ3=>Cl P n fx en' (.ListComp elt gens scope pos) (d + 1) acc ds' σ3 m1 Q') noX)) noX) ->
  Q (σ.put acc (.list (vs ++ ds.flatMap F)))->Cl P n fx en (.ListComp elt gens scope pos) d acc ds (σ.put acc (.list vs)) m Q:=by
 have hdc:∀ c'',gens[d + 1]?=some c''->c''.is_async=0:=fun c'' e=>by rw [hd1] at e; cases e; exact ha'
 intro ds
 induction ds with
 | nil=>exact fun vs Q hl hs hq=>Aik hd ha hdc (fun _ _ e=>nomatch e) hgo (fun _=>by rw [show vs ++ [].flatMap F=vs from Bh6 vs] at hq; exact hq) (fun x r e=>nomatch e)
 | cons x r ih=>
  refine fun vs Q hl hs hq=>Aik hd ha hdc (fun _ _ e=>nomatch e) hgo (fun e=>nomatch e) (fun x' r' e=>?_)
  cases e
  rw [Bt1,Bf2,<- Br6] at hl
  refine fun A st B g env s v he hr hm hv=>Bf3 (hs x (.head _) vs (fun σ4=>Cl P n fx en (.ListComp elt gens scope pos) d acc r σ4 m Q) (Be8 (Bg9 ..) hl) ?_ A st B g env s v he hr hm hv) (fun _ s' qM=>?_) fun _ _ x=>x
  · exact ih (vs ++ F x) Q (by rw [Bf2]; exact hl) (fun y hy=>hs y (.tail _ hy)) (by rw [Bj1,<- Bt1]; exact hq)
  · obtain ⟨g',σ',m',hg,hr',hk,hq'⟩:=qM
    refine ⟨g',σ',m',hg,hr',hk,?_⟩
    refine JS.mono hq' (fun b σ'' m'' hh=>⟨hh.1,?_⟩) fun _ _ _ x=>x
    obtain ⟨e1,rfl,en',hh⟩:=hh
    rw [if_pos rfl,hd1]
    exact ⟨hf,en',hh⟩
end
noncomputable def B7:List Nat->List (List Nat)
 | []=>[[]]
 | p :: ps=>(Bi1 (p + 1)).flatMap fun i=>(B7 ps).map (i :: ·)
noncomputable def Aj6 (c:List Nat):V:=.tup (tupI c)
noncomputable def Az (es:List Ent):List (Str × V):=es.filterMap fun e=>if e.nums=[] then none else some (e.name,.tup (e.nums.map .int))
theorem Ago {α β:Type} (f:α->β):∀ l:List α,(l.map fun a=>[f a]).flatten=l.map f
 | []=>rfl
 | a :: r=>by rw [Bh1,Bm7,Ago f r]; rfl
theorem Aun (a b c:Nat):(B7 [a,b,c]).map Aj6=(Ai0 0 (a + 1)).flatMap fun i=>(Ai0 0 (b + 1)).flatMap fun j=>(Ai0 0 (c + 1)).map fun k=>.tup [i,j,k]:=by
 simp only [B7,Acl,List.map_flatMap,List.flatMap_map,Bi7,Bh1,Bq6]
 congr 1
 funext i
 congr 1
 funext j
 rw [Ce9]
 simp [Aj6,tupI,Ago]
theorem Akg {α β:Type} (f:α->β):∀ (l:List α) (i:Nat),(l.map f).eraseIdx i=(l.eraseIdx i).map f
 | [],_=>rfl
 | a :: r,0=>rfl
 | a :: r,i + 1=>by simp [Akg f r i]
theorem Aib {α:Type}:∀ (l:List α) (i:Nat) (e:α),l[i]?=some e->(e :: l.eraseIdx i).Perm l
 | [],i,e,h=>by simp at h
 | a :: r,0,e,h=>by simp at h; subst h; exact Cl1 _
 | a :: r,i + 1,e,h=>((List.Perm.swap a e (r.eraseIdx i))).trans ((Aib r i e (by simpa using h)).cons a)
theorem Aob {es e} (h:e.name ∉ es.map (·.name)):Az (es ++ [e])=if e.nums=[] then Az es else dput (Az es) e.name (.tup (e.nums.map .int)):=by
 unfold Az
 rw [List.filterMap_append]
 by_cases q:e.nums=[]
 · simp [q]
 · rw [if_neg q]
   unfold dput
   rw [if_neg]
   · simp [q]
   · simp only [Bx3,By1,decide_eq_true_eq,not_exists,not_and]
     rintro kv ⟨x,hx,e1⟩ e2
     split at e1
     · cases e1
     · cases e1; exact h (e2 ▸ Bi8 hx)
theorem Aq6 {es}:(Az es).length<=es.length:=List.length_filterMap_le _ _
theorem Ai5:(Aeu.map (·.name)).Nodup:=by decide +kernel
theorem Aer:∀ e∈Aeu,1<=e.top/\e.top<=2/\e.nums.length<=3/\(e.nums≠[]->e.nums.length=e.top + 1):=by decide +kernel
section
variable {w:World} {n:Nat} {σ:Sto} {Q:V->Sto->Prop} {Y:Str->Sto->Prop}
theorem Arv {c m en elt t it gens scope pos d c' acc} (F:V->List V) (hd:gens[d]?=some ⟨t,it,[],0⟩) (hd1:gens[d + 1]?=some c') (ha':c'.is_async=0)
  (hf:∀ env x,Bo7 c'.iter env x=pure x) (hgo:(goT t en && (Aox t).all fun x=>(vof m x).isNone)=true) (hX:c.X=noX) {ds vs Q} (hl:vs.length + (ds.flatMap F).length<=100000)
  (hs:∀ x∈ds,∀ vs (Q':Sto->Prop),vs.length + (F x).length<=100000->Q' (σ.put acc (.list (vs ++ F x)))->wBd c t x m fun m1=>wIt c c'.iter (σ.put acc (.list vs)) m1 fun en' ds' σ3=>Cl c.P c.n c.fx en' (.ListComp elt gens scope pos) (d + 1) acc ds' σ3 (vof m1) Q')
  (hq:Q (σ.put acc (.list (vs ++ ds.flatMap F)))):Cl c.P c.n c.fx en (.ListComp elt gens scope pos) d acc ds (σ.put acc (.list vs)) (vof m) Q:=by
 rw [Bg1] at hgo
 refine Az5 F hd hd1 rfl ha' hf (Aij hgo.1) ds vs Q hl (fun x hx vs Q' h1 h2=>?_) hq
 have h:=hs x hx vs Q' h1 h2
 unfold wBd at h
 cases hb:bdT c.fx.sc t x m with
 | none=>rw [hb] at h; exact h.elim
 | some m1=>
  rw [hb] at h
  refine Ahy (c:=c) (F:=fun m'=>m'=m1) (by unfold wBd; rw [hb]) fun m' e=>?_
  subst e
  refine ⟨fun y v e=>?_,Amf ⟨rfl,by have:=(Ak0 h).1; rw [hX] at this; exact this⟩⟩
  rw [Aj1 hb]; exact e
  intro hy
  have:=Bj8.mp hgo.2 y hy
  rw [e] at this; cases this
theorem Ati {c m en elt t it gens scope pos d acc} (F:V->V) (hd:gens[d]?=some ⟨t,it,[],0⟩) (hd1:gens[d + 1]?=none)
  (hgo:(goT t en && (Aox t).all fun x=>(vof m x).isNone)=true) (hX:c.X=noX) {ds vs Q} (hl:vs.length + ds.length<=100000)
  (hs:∀ x∈ds,∀ vs K,K (F x) (σ.put acc (.list vs))->wBd c t x m fun m1=>wE c elt (σ.put acc (.list vs)) m1 K)
  (hq:Q (σ.put acc (.list (vs ++ ds.map F)))):Cl c.P c.n c.fx en (.ListComp elt gens scope pos) d acc ds (σ.put acc (.list vs)) (vof m) Q:=by
 rw [Bg1] at hgo
 refine Awn F hd hd1 rfl (Aij hgo.1) ds vs Q hl (fun x hx vs=>?_) hq
 have h:=hs x hx vs (fun v σ3=>v=F x/\σ3=σ.put acc (.list vs)) ⟨rfl,rfl⟩
 unfold wBd at h
 cases hb:bdT c.fx.sc t x m with
 | none=>rw [hb] at h; exact h.elim
 | some m1=>
  rw [hb] at h
  refine Ahy (c:=c) (F:=fun m'=>m'=m1) (by unfold wBd; rw [hb]) fun m' e=>?_
  subst e
  refine ⟨fun y v e=>?_,Amf ⟨rfl,by have:=(Ace c 40).1 _ _ _ _ h; rw [hX] at this; exact this⟩⟩
  rw [Aj1 hb]; exact e
  intro hy
  have:=Bj8.mp hgo.2 y hy
  rw [e] at this; cases this
theorem Bb7 {c m x p spos elt t it ifs cs scope pos N} (ok:Adz scope c.fx.sc=true) (hx:(match c.fx.sc.names.lookup x with | some .local=>true | _=>false)=true) (hsw:Ape c.fx.sc (.Name x p) (.ListComp elt (⟨t,it,ifs,0⟩ :: cs) scope pos) spos.line=some true)
   (h:wIt c it σ m fun en ds σ1=>∀ acc,σ1 acc=none->Cl c.P c.n ⟨Am0 scope c.fx.sc,true⟩ en (.ListComp elt (⟨t,it,ifs,0⟩ :: cs) scope pos) 0 acc ds (σ1.put acc (.list [])) (Al7 scope (vof m)) fun σ2=>∃ vs,σ2 acc=some (.list vs)/\Kas x m N (.lst vs) (σ2.del acc)):ExA c x (.ListComp elt (⟨t,it,ifs,0⟩ :: cs) scope pos) p spos σ m N:=by
 obtain ⟨⟨en,hi⟩,hf⟩:=Ak0 h
 refine As1 (en:=en) ok ?_ (An8 hi fun ds σ1 q acc B1=>?_) (fun env he=>Ajk hsw he) hf
 · revert hx
   cases c.fx.sc.names.lookup x with
   | none=>intro q; cases q
   | some k=>cases k <;> intro q <;> first | rfl | cases q
 · exact fun A st B g env s it he hr hm hi=>Bp5 (q acc B1 A st B g env s it he hr hm hi) fun r s2 hh=>by
    cases r with
    | ok f=>induction hh using BdP.casesOn with | mk g' σ' m' h1 h2 h3=>exact ⟨g',σ',m',h1,h2,h3.1,by obtain ⟨_,vs,e1,e2⟩:=h3; exact ⟨vs,e1,_,(Ada ..).symm,e2⟩⟩
    | error e=>exact hh
theorem Ap3 {a b c} (ha:a<=2) (hb:b<=2) (hc:c<=2):((Ai0 0 (a + 1)).flatMap fun i=>(Ai0 0 (b + 1)).flatMap fun j=>(Ai0 0 (c + 1)).map fun k=>V.tup [i,j,k]).length<=100:=by
 rw [<- Aun,Bf0]
 have:∀ a < 3,∀ b < 3,∀ c < 3,(B7 [a,b,c]).length<=100:=by decide +kernel
 exact this a (Bp3 ha) b (Bp3 hb) c (Bp3 hc)
theorem Asy {pa:Addr} {ns:List Int} (h:σ pa=some (B0 ns)) (hl:ns.length<=66)
   (hq:∀ (es:List Ent) (ms:List Int) (a:Wo) (wl:Addr),es.length=3->(∃ rem:List Ent,(rem ++ es).Perm Aeu)->ms.length<=66->a.names=es.map (·.name)->a.A1=es.map (·.top)->a.cells=(B7 a.A1).map Aj6 ->
     [pa,a.lg,a.dn,a.db,a.dm,wl].Nodup->Q (.loc wl) (Ahh σ [pa,a.lg,a.dn,a.db,a.dm,wl] [B0 ms,.A5 (Az es),.list [],.Ad [],.A5 [],.A5 a.es])) :
   Fn (PM w) (n + 3) (.ref 290) [.loc pa] σ Q Y:=by
 have r1:n + 1<=n + 2:=Bm9 _
 refine B8 rfl rfl (Aov fun _=>rfl) rfl fun R' Y' hR hY hRs hYs=>Fn.room (n:=n + 1) (Avo fun po hpo=>.inl fun na hna=>.inl fun ta hta=>Ajm fun lg hlg=>?_) r1
 have hσ:σ=Ahh σ [pa] [B0 ns]:=(Sto.Acr h).symm
 rw [hσ] at hpo hna hta hlg
 obtain ⟨n1,hpo⟩:=Ac3 (ks:=[pa]) (vs:=[B0 ns]) rfl hpo
 obtain ⟨n2,hna⟩:=Ac3 (ks:=[pa,po]) (vs:=[B0 ns,_]) rfl hna
 obtain ⟨n3,hta⟩:=Ac3 (ks:=[pa,po,na]) (vs:=[B0 ns,_,_]) rfl hta
 obtain ⟨n4,hlg⟩:=Ac3 (ks:=[pa,po,na,ta]) (vs:=[B0 ns,_,_,_]) rfl hlg
 have K:[pa,po,na,ta,lg].Nodup:=Acm (Acm (Acm (Acm nd1 n1) n2) n3) n4
 refine Aac (k:=3) rfl ?_ (by decide)
 refine Ajx (u:=0) (α:=List Ent × List Ent × List Int) (fun x=>Ahh σ [pa,po,na,ta,lg] [B0 x.2.2,.list (x.1.map Axd),.list (x.2.1.map fun e=>V.str e.name),.list (x.2.1.map fun e=>V.int (e.top:Int)),.A5 (Az x.2.1)]) (fun x=>[("pen",.loc pa),("pool",.loc po),("names",.loc na),("tops",.loc ta),("legal",.loc lg)])
   (fun k x=>x.2.1.length=k/\(x.1 ++ x.2.1).Perm Aeu/\x.2.2.length<=66) (Aeu,[],ns) rfl ⟨rfl,Cl1 _,hl⟩ (by show Sub (Ahh (σ.put pa (B0 ns)) [po,na,ta,lg] [_,_,_,_]) _; rw [Sto.Acr h]; exact Sub.refl _) rfl ?_ ?_
 · rintro ⟨rem,es,ms⟩ ⟨e2,e3,e4⟩
   dsimp only at e2 e3 e4
   obtain ⟨e0,e1',e2',rfl⟩:∃ e0 e1 e2,es=[e0,e1,e2]:=Ajq (C:=fun es=>∃ e0 e1 e2:Ent,es=[e0,e1,e2]) (fun _ _ _=>⟨_,_,_,rfl⟩) es e2
   have Ajr:∀ e∈[e0,e1',e2'],e∈Aeu:=fun e he=>e3.subset (Bi2 _ he)
   have in1:∀ {b:Addr} {r:List Addr} {x:O},b ∉ [pa] ++ r->σ b=none->Ahh σ [pa] [x] b=none:=fun h hb=>(Ag6 (ks:=[pa]) fun e=>h (Bi3 _ e)).trans hb
   have in2:∀ {b:Addr} {r:List Addr} {x y:O},b ∉ [pa] ++ r->b≠lg->σ b=none->Ahh σ [pa,lg] [x,y] b=none:=fun h h2 hb=>(Ag6 (ks:=[pa,lg]) fun e=>by
     cases e with
     | head=>exact h (Bi3 _ (.head _))
     | tail _ e=>exact h2 (Bf7.mp e)).trans hb
   have hA:Sub (Ahh σ [pa,lg] [B0 ms,.A5 (Az [e0,e1',e2'])]) (Ahh σ [pa,po,na,ta,lg] [B0 ms,.list (rem.map Axd),.list ([e0,e1',e2'].map fun e=>V.str e.name),.list ([e0,e1',e2'].map fun e=>V.int (e.top:Int)),.A5 (Az [e0,e1',e2'])]):=
     Sub.put (Sub.over (Sub.over (Sub.over (Sub.refl _) (in1 (r:=[]) n1 hpo)) (in1 (r:=[po]) n2 hna)) (in1 (r:=[po,na]) n3 hta)) lg _
   have nt:ta≠na:=fun e=>n3 (e ▸ .tail _ (.tail _ (.head _)))
   have hA2:=(hA.del (a:=na) (in2 (r:=[po]) n2 (fun e=>n4 (e ▸ .tail _ (.tail _ (.head _)))) hna)).del (a:=ta) (in2 (r:=[po,na]) n3 (fun e=>n4 (e ▸ .tail _ (.tail _ (.tail _ (.head _))))) hta)
   refine .frz "names" rfl (Aag 2 K rfl rfl) (.frz (ds:=[e0,e1',e2'].map fun e=>V.int (e.top:Int)) "tops" rfl ((if_neg nt).trans (Aag 3 K rfl rfl)) (.go ?_))
   generalize ((Ahh σ [pa,po,na,ta,lg] [B0 ms,.list (rem.map Axd),.list ([e0,e1',e2'].map fun e=>V.str e.name),.list ([e0,e1',e2'].map fun e=>V.int (e.top:Int)),.A5 (Az [e0,e1',e2'])]).del na).del ta=σ2 at hA2 ⊢
   have q0:=(Aer e0 (Ajr _ (.head _))).2.1
   have q1:=(Aer e1' (Ajr _ (.tail _ (.head _)))).2.1
   have q2:=(Aer e2' (Ajr _ (.tail _ (.tail _ (.head _))))).2.1
   have tr:∀ {a:Nat},a<=2->a + 1<=1000000:=fun h=>Be8 (Bg4 h) (by decide)
   refine Bb7 rfl rfl rfl (Ab (k:=0) (.val _) rfl (Aac (k:=e0.top + 1) rfl ?_ (tr q0)))
   intro acc B1
   rw [Adb]
   have lens:=Ap3 q0 q1 q2
   refine Arv (c:=Cf.inC _ _) (fun i=>(Ai0 0 (e1'.top + 1)).flatMap fun j=>(Ai0 0 (e2'.top + 1)).map fun k=>V.tup [i,j,k]) rfl rfl rfl (fun _ _=>rfl) rfl rfl (vs:=[]) (by rw [Bl2,Bk8]; exact Be8 lens (by decide)) ?_ ?_
   · intro x hx vs Q' hl' hQ'
     refine Ab (k:=1) (.val _) rfl (Aac (k:=e1'.top + 1) rfl ?_ (tr q1))
     refine Arv (c:=Cf.inC _ _) (fun j=>(Ai0 0 (e2'.top + 1)).map fun k=>V.tup [x,j,k]) rfl rfl rfl (fun _ _=>rfl) rfl rfl hl' ?_ hQ'
     intro y hy vs Q' hl' hQ'
     refine Ab (k:=2) (.val _) rfl (Aac (k:=e2'.top + 1) rfl ?_ (tr q2))
     exact Ati (c:=Cf.inC _ _) (fun k=>V.tup [x,y,k]) rfl rfl rfl rfl (by rw [Bf0] at hl'; exact hl') (fun z hz vs K hK=>by exact hK) hQ'
   · rw [Cb3,<- Aun]
     refine ⟨_,Sto.A0 ..,?_⟩
     rw [Sto.Abn B1]
     refine Afl ?_
     refine Aa7 (.val _) (Bh8 rfl) (Aza (A1:=[e0.top,e1'.top,e2'.top]) fun dn db dm hdn hdb hdm d1 d2 d3=>?_)
     intro wl hwl
     have s1:=hA2.none hdn
     have s2:=hA2.none hdb
     have s3:=hA2.none hdm
     have s4:=(Ajv (ks:=[dn,db,dm]) (vs:=[_,_,_]) hA2).none hwl
     obtain ⟨k1,_⟩:=Ac3 (ks:=[pa,lg]) rfl s1
     obtain ⟨k2,_⟩:=Ac3 (ks:=[pa,lg]) rfl s2
     obtain ⟨k3,_⟩:=Ac3 (ks:=[pa,lg]) rfl s3
     obtain ⟨k4,_⟩:=Ac3 (ks:=[pa,lg,dn,db,dm]) (vs:=[_,_,_,_,_]) rfl s4
     have K2:[pa,lg,dn,db,dm,wl].Nodup:=by
      refine Acm (ks:=[pa,lg,dn,db,dm]) (Acm (ks:=[pa,lg,dn,db]) (Acm (ks:=[pa,lg,dn]) (Acm (ks:=[pa,lg]) (Acm (ks:=[pa]) nd1 fun e=>?_) k1) fun e=>?_) fun e=>?_) k4
      · exact n4 (Bi3 [po,na,ta] e)
      · rcases Bh9.mp (show db∈[pa,lg] ++ [dn] from e) with e | e
        · exact k2 e
        · exact d1 (Bf7.mp e).symm
      · rcases Bh9.mp (show dm∈[pa,lg] ++ [dn,db] from e) with e | e
        · exact k3 e
        · cases e with
          | head=>exact d2 rfl
          | tail _ e=>exact d3 (Bf7.mp e).symm
     have:=hq [e0,e1',e2'] ms ⟨[e0,e1',e2'].map (·.name),[e0,e1',e2'].map (·.top),lg,(B7 [e0.top,e1'.top,e2'.top]).map Aj6,dn,db,dm⟩ wl rfl ⟨rem,e3⟩ e4 rfl rfl rfl K2
     exact hRs (Ajv (ks:=[dn,db,dm,wl]) (vs:=[.list [],.Ad [],.A5 [],.A5 (Wo.es ⟨[e0,e1',e2'].map (·.name),[e0,e1',e2'].map (·.top),lg,(B7 [e0.top,e1'.top,e2'.top]).map Aj6,dn,db,dm⟩)]) hA2) this
 · rintro k ⟨rem,es,ms⟩ Kk hk hK ⟨e2,e3,e4⟩
   dsimp only at e2 e3 e4
   have hrl:rem.length + es.length=12:=by rw [<- Bf2,e3.length_eq]; rfl
   have esl:es.length<=2:=by rw [e2]; exact Bw3 (show k < 3 from hk)
   have hr0:0 < rem.length:=by exact By4 fun e=>by rw [e,Bk8,e2] at hrl; rw [hrl] at hk; exact absurd hk (by decide)
   have esl':es.length<=100000:=Be8 esl (by decide)
   have rml:rem.length<=100000:=Be8 (Be8 (Bg9 ..) (Bm3 hrl)) (by decide)
   refine Aju (Aag 1 K rfl rfl) (Aa1 (.loc (Aag 1 K rfl rfl)) (by rw [Bf0]; exact rml) ?_)
   rw [Bf0]
   refine Fn.room (n:=n + 1) (Aaz (Aag 0 K rfl rfl) e4 hr0 fun i ms' hi hms=>?_) r1
   obtain ⟨e,he⟩:∃ e,rem[i]?=some e:=⟨_,Bf1 hi⟩
   have Ajr:e∈rem:=Bg0 he
   rw [Aeo 0 K rfl rfl]
   refine Ane (ds:=rem.map Axd) (k:=i) (Aag 1 K rfl rfl) rfl (d:=Axd e) (by rw [Bf9,he]; rfl) ?_ (by rw [Bf0]; exact rml)
   rw [Aeo 1 K rfl rfl,Akg]
   refine Af (Aag 2 K rfl rfl) (Ae (ds:=es.map fun e=>V.str e.name) (Aag 2 K rfl rfl) ?_ (by rw [Bf0]; exact esl'))
   rw [Aeo 2 K rfl rfl]
   refine Af (Aag 3 K rfl rfl) (Ae (ds:=es.map fun e=>V.int (e.top:Int)) (Aag 3 K rfl rfl) ?_ (by rw [Bf0]; exact esl'))
   rw [Aeo 3 K rfl rfl]
   have hnd:e.name ∉ es.map (·.name):=fun hm=>by
     have:=(e3.map (·.name)).nodup_iff.mpr Ai5
     rw [Bg2,Bm6] at this
     exact this.2.2 _ (Bi8 Ajr) _ hm rfl
   have Al4:(rem.eraseIdx i ++ (es ++ [e])).Perm Aeu:=by
     refine List.Perm.trans ?_ e3
     rw [<- Bj1]
     exact (List.perm_append_singleton e _).trans ((Aib rem i e he).append_right es)
   have Azn:=Aob hnd
   have hI:(es ++ [e]).length=k + 1:=by rw [Bf2,e2]; rfl
   refine Afs (.val _) (.val _) (nI (fun qn=>?_) fun qn=>?_) (by exact Ae7 _) rfl Aus
   · have qn:e.nums=[]:=Ci3.mp (V.tup.inj qn)
     rw [if_pos qn] at Azn
     refine hK (rem.eraseIdx i,es ++ [e],ms') _ _ ⟨hI,Al4,hms⟩ ?_ rfl
     show Sub (Ahh σ _ [_,_,.list ((es ++ [e]).map _),.list ((es ++ [e]).map _),.A5 (Az (es ++ [e]))]) _
     rw [Azn,Bg2,Bg2]
     exact Sub.refl _
   · have qn:¬ e.nums=[]:=fun q=>qn (by rw [q]; rfl)
     rw [if_neg qn] at Azn
     refine Ag3 (a:=lg) (es:=Az es) (Aag 4 K rfl rfl) ?_ (Be8 Aq6 esl')
     rw [Aeo 4 K rfl rfl]
     refine hK (rem.eraseIdx i,es ++ [e],ms') _ _ ⟨hI,Al4,hms⟩ ?_ rfl
     show Sub (Ahh σ _ [_,_,.list ((es ++ [e]).map _),.list ((es ++ [e]).map _),.A5 (Az (es ++ [e]))]) _
     rw [Azn,Bg2,Bg2]
     exact Sub.refl _
end
noncomputable def rep (k:Nat) (s:List V):List V:=(Bg8 k s).flatten
theorem Alh (k:Nat) (s:List V):(rep k s).length=k * s.length:=by
 induction k with
 | zero=>simp [rep]
 | succ k ih=>unfold rep at ih ⊢; rw [Bn3,Bm7,Bf2,ih,Bx7,Bm0]
theorem Al6 (s:List V):rep 1 s=s:=by simp [rep]
theorem Alp (a b:Nat) (s:List V):rep (a + b) s=rep a s ++ rep b s:=by
 unfold rep; rw [<- Bz1,List.flatten_append]
theorem Aj2 (a b:Nat) (s:List V):rep a (rep b s)=rep (a * b) s:=by
 induction a with
 | zero=>simp [rep]
 | succ a ih=>rw [Bx7,Alp a 1,Al6,Alp,ih]
theorem Aai (N:Nat) (t:List V):whole N t=rep (N / t.length) t:=rfl
theorem Afo {z:Nat}:∀ {S:List (List V)} (k:Nat),(∀ r∈S,r.length=z)->S.flatten.drop (z * k)=(S.drop k).flatten
 | S,0,h=>by simp
 | [],k + 1,h=>by simp
 | r :: S,k + 1,h=>by
  rw [Bm7,Bx5,Bt6,Bm0,<- Cc5]
  have:(r ++ S.flatten).drop z=S.flatten:=by rw [<- h r (.head _)]; simp
  rw [this]
  exact Afo k fun q hq=>h q (.tail _ hq)
theorem Abd {z:Nat}:∀ {S:List (List V)},(∀ r∈S,r.length=z)->S.flatten.length=S.length * z
 | [],_=>by simp
 | r :: S,h=>by rw [Bm7,Bf2,Abd fun q hq=>h q (.tail _ hq),h r (.head _),Bh5,Bx7,Bm0]
theorem Aek {p z:Nat} {S:List (List V)} (hl:S.length=p + 1) (h:∀ r∈S,r.length=z):rowsOf S.flatten p=S:=by
 have hz:S.flatten.length / (p + 1)=z:=by rw [Abd h,hl,Bj7 _ (Bq1 p)]
 unfold rowsOf
 rw [hz]
 apply Bt9
 · simp [hl]
 · intro k h1 h2
   simp only [Cl5,Cj5,slc,Bm2]
   rw [Co5,Afo k h,Bj3 h2,Bm7,show z * (k + 1) - z * k=z by rw [Bt6]; exact r22]
   rw [<- h S[k] (Bl7 h2)]
   simp
theorem Aeh {p z t} (h:t.length=(p + 1) * z):(rowsOf t p).flatten=t:=by
 have hz:t.length / (p + 1)=z:=by rw [h,Bj7 _ (Bq1 p)]
 unfold rowsOf
 rw [hz]
 have:∀ m,((Bi1 m).map fun k=>slc (some (z * k)) (some (z * (k + 1))) t).flatten=t.take (z * m):=by
  intro m
  induction m with
  | zero=>simp
  | succ m ih=>
   rw [List.range_succ,Bg2,List.flatten_append,ih]
   simp only [Bh1,Bq6,Bm7,Cl6,Bh6,slc,Bm2]
   rw [Co5,show z * (m + 1) - z * m=z by rw [Bt6]; exact r22,Bt6,List.take_add]
 rw [this,Br7,<- h,Ce6]
theorem Ad0 {r S} (h:dif (r :: S)=false):r :: S=Bg8 (S.length + 1) r:=by
 unfold dif at h
 rw [Bz3] at h
 refine Cg4.mpr ⟨rfl,fun b hb=>?_⟩
 have:=h b hb
 simpa using this
theorem Alk (k:Nat) (r:List V):dif (Bg8 k r)=false:=by
 unfold dif
 rw [Bz3]
 intro b hb
 obtain rfl:=Bo1 hb
 have:(Bg8 k b).headD []=b:=by
  cases k with
  | zero=>simp at hb
  | succ k=>rfl
 rw [this]; simp
theorem Aem (t:List V) (p:Nat):(rowsOf t p).length=p + 1:=by simp [rowsOf]
theorem An9 {p u}:rowsOf (rep (p + 1) u) p=Bg8 (p + 1) u:=by
 unfold rep
 exact Aek (z:=u.length) (Bv0 ..) fun r hr=>by rw [Bo1 hr]
theorem Aqw {p ps u}:asked (p :: ps) (rep (p + 1) u)=((asked ps u).1 + 1,(asked ps u).2):=by
 rw [Aao,An9,Alk,if_neg (by simp),Bn3,Bq7]
theorem Anv {p z ps S} (hl:S.length=p + 1) (h:∀ r∈S,r.length=z) (hd:dif S=true):asked (p :: ps) S.flatten=(0,S):=by
 rw [Aao,Aek hl h,if_pos hd]
theorem Al:∀ (ts:List Nat) (d:Nat),szs (ts.drop d) ∣ szs ts
 | ts,0=>Nat.dvd_refl _
 | [],d + 1=>Nat.dvd_refl _
 | p :: ps,d + 1=>Nat.dvd_trans (Al ps d) (Nat.dvd_mul_left _ _)
theorem Ab1 {t} (h:0 < t.length):whole t.length t=t:=by rw [Aai,Nat.div_self h,Al6]
theorem Aep {a N s} (h0:0 < s.length) (h:s.length ∣ N):whole (a * N) s=rep a (whole N s):=by
 obtain ⟨m,rfl⟩:=h
 rw [Aai,Aai,Aj2,<- Ce5,Br7 a,Ce5,Bj7 _ h0,Bj7 _ h0]
theorem Ab8 {N s} (h:s.length ∣ N):(whole N s).length=N:=by
 rw [Aai,Alh,Nat.div_mul_cancel h]
theorem As3 {N s u} (h:s.length ∣ N) (h0:0 < N) (hl:s.length=u.length) (e:whole N s=whole N u):s=u:=by
 have hs:0 < s.length:=Ch1 h h0
 have h1:0 < N / s.length:=Cn7 (Cb0 h0 h) hs
 rw [Aai,Aai,<- hl] at e
 obtain ⟨m,hm⟩:∃ m,N / s.length=m + 1:=⟨N / s.length - 1,by exact r31 ‹_›⟩
 rw [hm] at e
 unfold rep at e
 rw [Bn3,Bn3,Bm7,Bm7] at e
 exact (List.append_inj e hl).1
theorem Aaf:∀ {ts d s},d<=ts.length->s.length=szs (ts.drop d)->asked ts (whole (szs ts) s)=(d + (asked (ts.drop d) s).1,(asked (ts.drop d) s).2)
 | ts,0,s,_,h=>by
  rw [Bo9] at h
  rw [<- h,Ab1 (by rw [h]; exact Ah _)]; simp
 | [],d + 1,s,h0,h=>by simp at h0
 | p :: ps,d + 1,s,h0,h=>by
  rw [Bx5] at h ⊢
  rw [Afu,Aep (by rw [h]; exact Ah _) (by rw [h]; exact Al ps d),Aqw,Aaf (by simpa using h0) h]
  simp only [Bu8,and_true]; lia
theorem Aah:∀ {ts t},(asked ts t).1<=ts.length
 | [],t=>by simp [Af9,Aao]
 | p :: ps,t=>by
  rw [Aao]
  split
  · simp
  · have:=Aah (ts:=ps) (t:=(rowsOf t p).headD []); simp only [Bh5]; lia
set_option tactic.hygienic true in
theorem Aaa {ts:List Nat} {t:List V} (h:t.length=szs ts):(asked ts t).2.flatten.length=szs (ts.drop (asked ts t).1):=by
 rw [Abd fun r hr=>Ae6 h hr]
 have hle:=Aah (ts:=ts) (t:=t)
 rcases Nat.lt_or_ge (asked ts t).1 ts.length with q | q
 · obtain ⟨p,hp⟩:∃ p,ts[(asked ts t).1]?=some p:=⟨_,Bf1 q⟩
   rw [Aa5 hp]
   have:ts.drop (asked ts t).1=p :: ts.drop ((asked ts t).1 + 1):=by
    rw [Bj3 q]; rw [Bf1 q] at hp; rw [Br1 hp]
   rw [this,Afu]
 · have e:(asked ts t).1=ts.length:=by lia
   have:∀ {ts:List Nat} {t:List V},(asked ts t).1=ts.length->(asked ts t).2.length=1:=by
    intro ts
    induction ts with
    | nil=>intro t _; rfl
    | cons p ps ih=>
     intro t h
     rw [Aao] at h ⊢
     split at h
     · simp at h
     · rename_i hd; rw [if_neg hd]; exact ih (by simpa using h)
   rw [this e,e,Cf5 (Bm9 _),Ca0]
   rfl
set_option tactic.hygienic true in
theorem Aay:∀ {ts t},t.length=szs ts->whole (szs ts) (asked ts t).2.flatten=t
 | [],t,h=>by simp only [Af9,Aao,Bm7,Cl6,Bh6]; rw [<- h]; exact Ab1 (by rw [h]; decide)
 | p :: ps,t,h=>by
  have hf:=Aeh (p:=p) (z:=szs ps) h
  rw [Aao]
  split
  · rw [hf,<- h]; exact Ab1 (by rw [h]; exact Ah _)
  · rename_i hd
    obtain ⟨r0,rs,hrs⟩:=Ad1 t p
    have hr0:r0.length=szs ps:=Ady (z:=szs ps) h (by rw [hrs]; exact .head _)
    rw [hrs] at hd hf ⊢
    have Aty:=Ad0 (Cm0 _ ▸ hd)
    have hlen:rs.length + 1=p + 1:=by have:=Aem t p; rw [hrs] at this; simpa using this
    rw [Bq7]
    have ih:=Aay hr0
    have hl:=Aaa hr0
    dsimp only
    rw [Afu,Aep (by rw [hl]; exact Ah _) (by rw [hl]; exact Al ..),ih]
    rw [<- hf,Aty,hlen]; rfl
section
variable {α:Type}
noncomputable def Aq:Nat->List (Nat × α)->List α
 | _,[]=>[]
 | low,p :: q=>Bg8 (p.1 + 1 - low) p.2 ++ Aq (p.1 + 1) q
noncomputable def As (e:Nat):Nat->List (Nat × α)->Prop
 | low,[]=>low=e
 | low,p :: r=>low<=p.1/\p.1 < e/\As e (p.1 + 1) r
theorem As.le {e:Nat}:∀ {low:Nat} {l:List (Nat × α)},As e low l->low<=e
 | _,[],h=>by have:_=e:=h; lia
 | _,_ :: _,h=>by have:=h.1; have:=h.2.1; lia
theorem Adh {e:Nat}:∀ {low:Nat} {l:List (Nat × α)},As e low l->(Aq low l).length=e - low
 | low,[],h=>by have:low=e:=h; subst this; simp [Aq]
 | low,p :: r,h=>by
  have:=h.2.2.le
  rw [Aq,Bf2,Bv0,Adh h.2.2]
  have:=h.1; have:=h.2.1; exact r5 ‹_› ‹_›
theorem Abe {e:Nat}:∀ {low:Nat} {l m:List (Nat × α)},As e low l->Aq low (l ++ m)=Aq low l ++ Aq e m
 | low,[],m,h=>by have:low=e:=h; subst this; simp [Aq]
 | low,p :: r,m,h=>by rw [Bx2,Aq,Aq,Abe h.2.2,Bj1]
theorem Abj {e e':Nat}:∀ {low:Nat} {l m:List (Nat × α)},As e low l->As e' e m->As e' low (l ++ m)
 | low,[],m,h,k=>by have:low=e:=h; subst this; exact k
 | low,p :: r,m,h,k=>⟨h.1,by have:=h.2.1; have:=k.le; exact r38 ‹_› ‹_›,Abj h.2.2 k⟩
theorem Adg {β:Type} (f:α->β):∀ {low l},Aq low (l.map fun x=>(x.1,f x.2))=(Aq low l).map f
 | _,[]=>rfl
 | low,p :: r=>by rw [Bh1,Aq,Aq,Bg2,Cj3,Adg f]
theorem Agf {β:Type} {e} (f:α->β):∀ {low l},As e low l->As e low (l.map fun x=>(x.1,f x.2))
 | _,[],h=>h
 | low,p :: r,h=>⟨h.1,h.2.1,Agf f h.2.2⟩
theorem Ajj {e:Nat}:∀ {low:Nat} {l:List (Nat × α)} {x:Nat},As e low l->low<=x->(Aq low l)[x - low]?=(l.find? fun p=>decide (x<=p.1)).map (·.2)
 | low,[],x,h,hx=>by simp [Aq]
 | low,p :: r,x,h,hx=>by
  rw [Aq,Bk3]
  have h1:=h.1
  by_cases q:x<=p.1
  · rw [Bw8 (by rw [Bv0]; exact r17 ‹_› ‹_›),By2,if_pos (by exact r17 ‹_› ‹_›)]
    simp [q]
  · rw [Bw4 (by rw [Bv0]; exact Ch7 (Cm9 q) _),Bv0,show x - low - (p.1 + 1 - low)=x - (p.1 + 1) by exact r2 ‹_›,Ajj h.2.2 (by exact r52 ‹_›)]
    simp [q]
variable [DecidableEq α]
noncomputable def Bh (rows:List α):List (Nat × α):=(Aa rows).map fun x=>(x.2.1,x.2.2)
set_option tactic.hygienic true in
theorem Ak6 {f:List (Nat × Nat × α)} {k:Nat} {r:α} (h:As k 0 (f.map fun x=>(x.2.1,x.2.2))) :
   As (k + 1) 0 ((Aad f k r).map fun x=>(x.2.1,x.2.2))/\Aq 0 ((Aad f k r).map fun x=>(x.2.1,x.2.2))=Aq 0 (f.map fun x=>(x.2.1,x.2.2)) ++ [r]:=by
 have one:As (k + 1) k [((k:Nat),r)]:=⟨Bh7 _,by simp,rfl⟩
 have app:As (k + 1) 0 ((f ++ [(k,k,r)]).map fun x=>(x.2.1,x.2.2))/\Aq 0 ((f ++ [(k,k,r)]).map fun x=>(x.2.1,x.2.2))=Aq 0 (f.map fun x=>(x.2.1,x.2.2)) ++ [r]:=by
   rw [Bg2]
   refine ⟨Abj h one,?_⟩
   rw [Abe h]; simp [Aq]
 rcases Bv2 f with rfl | ⟨g,y,rfl⟩
 · exact app
 · rw [Bv3] at *
   unfold Aad
   simp only [Ch6,Ce0,Cn1,Bt0]
   split
   · rename_i q
     rw [Bg2] at h ⊢
     have:∀ {low:Nat} {l:List (Nat × α)} {hh:Nat},As k low (l ++ [(hh,r)])->As (k + 1) low (l ++ [(k,r)])/\Aq low (l ++ [(k,r)])=Aq low (l ++ [(hh,r)]) ++ [r]:=by
      intro low l
      induction l generalizing low with
      | nil=>
       rintro hh ⟨a1,a2,a3⟩
       have a3':hh + 1=k:=a3
       dsimp only at a1 a2
       refine ⟨⟨by show low<=k; lia,by simp,rfl⟩,?_⟩
       simp only [Cb3,Aq,Bh6]
       rw [show k + 1 - low=(hh + 1 - low) + 1 by exact r24 ‹_› ‹_›,List.replicate_succ']
      | cons p l ih=>
       rintro hh ⟨a1,a2,a3⟩
       obtain ⟨b1,b2⟩:=ih a3
       refine ⟨⟨a1,by exact r42 ‹_›,b1⟩,?_⟩
       rw [Bx2,Bx2,Aq,Aq,b2,Bj1]
     obtain ⟨y1,y2,y3⟩:=y
     dsimp only at q
     subst q
     rw [Bg2]
     exact this h
   · exact app
theorem Ahx:∀ {rs:List α} {f:List (Nat × Nat × α)} {k:Nat},As k 0 (f.map fun x=>(x.2.1,x.2.2)) ->
  As (k + rs.length) 0 ((Ac1 f k rs).map fun x=>(x.2.1,x.2.2))/\Aq 0 ((Ac1 f k rs).map fun x=>(x.2.1,x.2.2))=Aq 0 (f.map fun x=>(x.2.1,x.2.2)) ++ rs
 | [],f,k,h=>by simpa [Ac1] using h
 | r :: rs,f,k,h=>by
  obtain ⟨a,b⟩:=Ak6 (r:=r) h
  obtain ⟨c,d⟩:=Ahx (rs:=rs) a
  rw [Ac1]
  refine ⟨by rw [Bh5,show k + (rs.length + 1)=k + 1 + rs.length by lia]; exact c,?_⟩
  rw [d,b,Bj1]; rfl
theorem Abh (rows:List α):As rows.length 0 (Bh rows)/\Aq 0 (Bh rows)=rows:=by
 have:=Ahx (rs:=rows) (f:=[]) (k:=0) rfl
 simpa [Bh,Aa,Aq] using this
noncomputable def Ah0 (f:List (Nat × Nat × α)) (hi lo:Nat) (a:α):List (Nat × Nat × α):=match f.getLast? with
 | some x=>if x.2.2=a then f.dropLast ++ [(x.1,hi,a)] else f ++ [(lo,hi,a)]
 | none=>[(lo,hi,a)]
theorem Ali {f:List (Nat × Nat × α)} {hi lo k:Nat} {a:α}:Ah0 (Aad f k a) hi lo a=Ah0 f hi k a:=by
 rcases Bv2 f with rfl | ⟨g,y,rfl⟩
 · simp [Ah0,Aad]
 · rw [Bv3]
   unfold Ah0 Aad
   simp only [Ch6,Ce0,Cn1,Bt0]
   by_cases q:y.2.2=a
   · simp [q]
   · simp [q]
theorem Agc {a:α} {rest:List α}:∀ (m:Nat) (f:List (Nat × Nat × α)) (k:Nat),Ac1 f k (Bg8 (m + 1) a ++ rest)=Ac1 (Ah0 f (k + m) k a) (k + m + 1) rest
 | 0,f,k=>rfl
 | m + 1,f,k=>by
  rw [Bn3,Bx2,Ac1,Agc m,Ali]
  congr 1
  · congr 1; lia
  · lia
theorem Akf {β:Type} [DecidableEq β] (g:α->β):∀ {rs f k},(∀ x∈f,∀ r∈rs,g x.2.2=g r->x.2.2=r)->(∀ x∈rs,∀ y∈rs,g x=g y->x=y) ->
  Ac1 (f.map fun x=>(x.1,x.2.1,g x.2.2)) k (rs.map g)=(Ac1 f k rs).map fun x=>(x.1,x.2.1,g x.2.2)
 | [],f,k,_,_=>rfl
 | r :: rs,f,k,h1,h2=>by
  rw [Bh1,Ac1,Ac1]
  have e:Aad (f.map fun x=>(x.1,x.2.1,g x.2.2)) k (g r)=(Aad f k r).map fun x=>(x.1,x.2.1,g x.2.2):=by
   unfold Aad
   rw [Bv9]
   cases q:f.getLast? with
   | none=>rfl
   | some x=>
     have hx:=List.mem_of_getLast? q
     simp only [Bl6]
     by_cases c:x.2.2=r
     · simp [c,List.map_dropLast]
     · rw [if_neg c,if_neg (fun e=>c (h1 x hx r (.head _) e))]; simp
  rw [e]
  refine Akf g (fun x hx y hy e=>?_) fun x hx y hy=>h2 x (.tail _ hx) y (.tail _ hy)
  unfold Aad at hx
  cases q:f.getLast? with
  | none=>
   rw [q] at hx
   rw [Bf7.mp hx] at e ⊢
   exact h2 r (.head _) y (.tail _ hy) e
  | some z=>
   rw [q] at hx
   dsimp only at hx
   split at hx
   · rcases Bh9.mp hx with hx | hx
     · exact h1 x ((List.dropLast_sublist _).subset hx) y (.tail _ hy) e
     · rw [Bf7.mp hx] at e ⊢
       exact h2 r (.head _) y (.tail _ hy) e
   · rcases Bh9.mp hx with hx | hx
     · exact h1 x hx y (.tail _ hy) e
     · rw [Bf7.mp hx] at e ⊢
       exact h2 r (.head _) y (.tail _ hy) e
theorem Ana {β:Type} [DecidableEq β] (g:α->β) {rs} (h:∀ x∈rs,∀ y∈rs,g x=g y->x=y):Bh (rs.map g)=(Bh rs).map fun x=>(x.1,g x.2):=by
 unfold Bh Aa
 have:=Akf g (rs:=rs) (f:=[]) (k:=0) (by simp) h
 simp only [Bq6] at this
 rw [this,Bi7,Bi7]; rfl
theorem Abr {rs:List α} {x:Nat × α} (h:x∈Bh rs):x.2∈rs:=by
 obtain ⟨y,hy,rfl⟩:=Bh3.mp h
 exact (Aak hy).1
theorem Atk {a:α} (m:Nat):Bh (Bg8 (m + 1) a)=[(m,a)]:=by
 unfold Bh Aa
 have:=Agc (a:=a) (rest:=[]) m [] 0
 rw [Bh6] at this
 rw [this]; simp [Ah0,Ac1]
theorem Anc {e:Nat} {p:Nat × α} {rows:List α} (h:Aq 0 [p]=rows):∀ x∈rows,x=p.2:=fun x hx=>by
 rw [<- h] at hx
 simp only [Aq,Bh6] at hx
 exact Bo1 hx
end
noncomputable abbrev pI (x:Nat × Nat):Int × Nat:=((x.1:Int),x.2)
theorem Aux {e}:∀ {ps k f},As e k ps->((Ac1 f k (Aq k ps)).map fun x=>(x.2.1,x.2.2)).map pI=(ps.map pI).foldl Aax ((f.map fun x=>(x.2.1,x.2.2)).map pI)
 | [],k,f,h=>rfl
 | p :: ps,k,f,h=>by
  have h1:=h.1
  obtain ⟨m,hm⟩:∃ m,p.1 + 1 - k=m + 1:=⟨p.1 - k,by exact r31 ‹_›⟩
  rw [Aq,hm,Agc,show k + m + 1=p.1 + 1 by exact r28 ‹_›,Aux h.2.2,Bh1,Bv1]
  congr 1
  rw [show k + m=p.1 by exact Ca9 (r28 hm)]
  unfold Ah0 Aax
  rw [Bv9,Bv9]
  cases q:f.getLast? with
  | none=>simp
  | some x=>
   simp only [Bl6]
   by_cases c:x.2.2=p.2
   · simp [c,List.map_dropLast]
   · simp [c]
theorem Ar3 {e ps} (h:As e 0 ps):joined (ps.map pI)=(Bh (Aq 0 ps)).map pI:=(Aux (f:=[]) h).symm
theorem Ama {top:Nat}:∀ {ps:List (Int × Nat)} {low:Nat},Agt top ((low:Int) - 1) ps->∃ qs:List (Nat × Nat),ps=qs.map pI/\As (top + 1) low qs
 | [],low,h=>⟨[],rfl,by have:(low:Int) - 1=top:=h; show low=top + 1; lia⟩
 | (h1,a) :: ps,low,⟨x,y,z⟩=>by
  dsimp only at x y z
  obtain ⟨hn,rfl⟩:=By6 (show 0<=h1 by lia)
  obtain ⟨qs,e,r⟩:=Ama (low:=hn + 1) (ps:=ps) (by simpa using z)
  exact ⟨(hn,a) :: qs,by rw [e]; rfl,by dsimp only; lia,by dsimp only; lia,r⟩
theorem Aix {top}:∀ {qs low},As (top + 1) low qs->Agt top ((low:Int) - 1) (qs.map pI)
 | [],low,h=>by have:low=top + 1:=h; show (low:Int) - 1=top; lia
 | (h1,a) :: ps,low,⟨x,y,z⟩=>by
  have:=Aix z
  refine ⟨by dsimp only; lia,by dsimp only; lia,by simpa using this⟩
theorem Afb {top}:∀ {ps lo},lo<=top->(ps.foldl (Acy top) lo=top ↔ Agt top lo ps)
 | [],lo,h=>Iff.rfl
 | p :: ps,lo,h=>by
  have stuck:∀ (ps:List (Int × Nat)) (x:Int),top < x->ps.foldl (Acy top) x≠top:=by
    intro ps
    induction ps with
    | nil=>intro x hx; simp only [Ch8]; lia
    | cons q r ih=>intro x hx; rw [Bv1]; refine ih _ ?_; unfold Acy; split <;> lia
  rw [Bv1]
  show _ ↔ (lo < p.1/\p.1<=top/\Agt top p.1 ps)
  rw [show Acy top lo p=if p.1 > lo then p.1 else (top:Int) + 1 from rfl]
  by_cases q:p.1 > lo
  · rw [if_pos q]
    by_cases q2:p.1<=top
    · rw [Afb q2]; exact ⟨fun x=>⟨q,q2,x⟩,fun x=>x.2.2⟩
    · exact ⟨fun x=>absurd x (stuck _ _ (by lia)),fun x=>absurd x.2.1 q2⟩
  · rw [if_neg q]
    exact ⟨fun x=>absurd x (stuck _ _ (by lia)),fun x=>absurd x.1 q⟩
noncomputable def Abf:Nat->List Nat->List Nat->Option (Int × Nat × Nat)
 | k,a :: r,b :: q=>if a≠b then some ((k:Int),a,b) else Abf (k + 1) r q
 | _,_,_=>none
theorem Ac4 {a b r q}:∀ (m k:Nat),Abf k (Bg8 (m + 1) a ++ r) (Bg8 (m + 1) b ++ q)=if a≠b then some ((k:Int),a,b) else Abf (k + m + 1) r q
 | 0,k=>rfl
 | m + 1,k=>by
  show Abf k (a :: (Bg8 (m + 1) a ++ r)) (b :: (Bg8 (m + 1) b ++ q))=_
  rw [Abf,Ac4 m]
  by_cases h:a≠b
  · rw [if_pos h,if_pos h]
  · rw [if_neg h,if_neg h,if_neg h]; congr 1; lia
theorem Abi {e}:∀ (A B:List (Nat × Nat)) (k:Nat),As e k A->As e k B->unlike k (Ac9 (A.map pI) (B.map pI))=Abf k (Aq k A) (Aq k B)
 | [],B,k,ha,hb=>by rw [Bq6,Adm (.inl rfl)]; rfl
 | (h1,a) :: A,[],k,ha,hb=>by
  have h1:=ha.1; have h2:=ha.2.1; have:k=e:=hb
  lia
 | (h1,a) :: A,(h2,b) :: B,k,ha,hb=>by
  have a1:=ha.1; have b1:=hb.1
  dsimp only at a1 b1
  rw [Bh1,Bh1,Abu,Aq,Aq]
  dsimp only
  by_cases q1:h1=h2
  · subst q1
    rw [if_pos rfl,unlike,show ((h1:Int) + 1)=((h1 + 1:Nat):Int) by push_cast; rfl,Abi A B (h1 + 1) ha.2.2 hb.2.2]
    obtain ⟨m,hm⟩:∃ m,h1 + 1 - k=m + 1:=⟨h1 - k,by exact r31 ‹_›⟩
    rw [hm,Ac4,show k + m + 1=h1 + 1 by exact r28 ‹_›]
  · rw [if_neg (by lia)]
    by_cases q2:h1 < h2
    · rw [if_pos (by lia),unlike,show ((h1:Int) + 1)=((h1 + 1:Nat):Int) by push_cast; rfl]
      have:=Abi A ((h2,b) :: B) (h1 + 1) ha.2.2 ⟨by dsimp only; lia,hb.2.1,hb.2.2⟩
      rw [Bh1] at this
      rw [this]
      obtain ⟨m,hm⟩:∃ m,h1 + 1 - k=m + 1:=⟨h1 - k,by exact r31 ‹_›⟩
      have er:Bg8 (h2 + 1 - k) b=Bg8 (m + 1) b ++ Bg8 (h2 - h1) b:=by rw [Bz1]; congr 1; exact r7 ‹_› ‹_› ‹_›
      rw [hm,er,Bj1,Ac4,show k + m + 1=h1 + 1 by exact r28 ‹_›]
      rw [Aq,show h2 + 1 - (h1 + 1)=h2 - h1 by lia]
    · rw [if_neg (by lia),unlike,show ((h2:Int) + 1)=((h2 + 1:Nat):Int) by push_cast; rfl]
      have:=Abi ((h1,a) :: A) B (h2 + 1) ⟨by dsimp only; lia,ha.2.1,ha.2.2⟩ hb.2.2
      rw [Bh1] at this
      rw [this]
      obtain ⟨m,hm⟩:∃ m,h2 + 1 - k=m + 1:=⟨h2 - k,by exact r31 ‹_›⟩
      have er:Bg8 (h1 + 1 - k) a=Bg8 (m + 1) a ++ Bg8 (h1 - h2) a:=by rw [Bz1]; congr 1; exact r8 ‹_› ‹_› ‹_› ‹_›
      rw [hm,er,Bj1,Ac4,show k + m + 1=h2 + 1 by exact r28 ‹_›]
      rw [Aq,show h1 + 1 - (h2 + 1)=h1 - h2 by lia]
 termination_by A B=>A.length + B.length
theorem Aei:∀ {k A},Abf k A A=none
 | k,[]=>rfl
 | k,a :: r=>by rw [Abf,if_neg (by simp)]; exact Aei
theorem Aen:∀ {k A B},A.length=B.length->A≠B->∃ (l x y:Nat),A[l]?=some x/\B[l]?=some y/\x≠y/\(∀ j,j < l->A[j]?=B[j]?)/\Abf k A B=some (((k + l:Nat):Int),x,y)
 | k,[],[],_,h=>absurd rfl h
 | k,[],_ :: _,h,_=>by simp at h
 | k,_ :: _,[],h,_=>by simp at h
 | k,a :: r,b :: q,hl,hn=>by
  rw [Abf]
  by_cases h:a≠b
  · exact ⟨0,a,b,rfl,rfl,h,by simp,by rw [if_pos h]; rfl⟩
  · rw [if_neg h]
    have hab:a=b:=Decidable.byContradiction h
    obtain ⟨l,x,y,h1,h2,h3,h4,h5⟩:=Aen (k:=k + 1) (A:=r) (B:=q) (by simpa using hl) (fun e=>hn (by rw [hab,e]))
    refine ⟨l + 1,x,y,by simpa using h1,by simpa using h2,h3,fun j hj=>?_,by rw [h5,show k + 1 + l=k + (l + 1) by lia]⟩
    cases j with
    | zero=>simp [hab]
    | succ j=>simpa using h4 j (by exact r33 ‹_›)
noncomputable def numOf (ts:List Nat) (T:List (List V)) (s:List V):Nat:=T.idxOf (whole (szs ts) s)
noncomputable def canon (ts:List Nat) (T:List (List V)) (t:List V):V:=
 if (asked ts t).1=ts.length then .tup [.str "leaf",((asked ts t).2.headD []).headD .none]
 else .tup [.int (asked ts t).1,.tup ((Bh (asked ts t).2).map fun x=>Ad4 (x.1,numOf ts T x.2))]
noncomputable def kv (x:V):Prop:=x.key=true/\x.dep=0
theorem kv.flat {x} (h:kv x):B3 x:=⟨V.Aal x h.1,by rw [h.2]; lia⟩
theorem Agg:∀ {t},(∀ x∈t,kv x)->V.keys t=true/\V.Be t=0
 | [],_=>⟨rfl,rfl⟩
 | a :: r,h=>by
  have:=Agg fun x hx=>h x (.tail _ hx)
  have ha:=h a (.head _)
  exact ⟨by show (a.key && V.keys r)=true; rw [ha.1,this.1]; rfl,by show max a.dep (V.Be r)=0; rw [ha.2,this.2]; rfl⟩
structure Bc (ts:List Nat) (T:List (List V)):Prop where
 nd:T.Nodup
 len:∀ t∈T,t.length=szs ts
 cl:∀ t∈T,∀ r∈(asked ts t).2,whole (szs ts) r∈T
 val:∀ t∈T,∀ x∈t,kv x
set_option tactic.hygienic true in
theorem Abb {ts t} (h:t.length=szs ts) (e:(asked ts t).1=ts.length):∃ x,(asked ts t).2=[[x]]/\whole (szs ts) [x]=t:=by
 have hl:=Aaa h
 rw [e,Ca0] at hl
 have:∀ {ts:List Nat} {t:List V},(asked ts t).1=ts.length->∃ r,(asked ts t).2=[r]:=by
  intro ts
  induction ts with
  | nil=>intro t _; exact ⟨t,rfl⟩
  | cons p ps ih=>
   intro t h
   rw [Aao] at h ⊢
   split at h
   · simp at h
   · rename_i hd; rw [if_neg hd]; exact ih (by simpa using h)
 obtain ⟨r,hr⟩:=this e
 rw [hr] at hl
 simp only [Bm7,Cl6,Bh6] at hl
 obtain ⟨x,rfl⟩:∃ x,r=[x]:=Bz0.mp hl
 refine ⟨x,hr,?_⟩
 have:=Aay h
 rw [hr] at this
 simpa using this
theorem Acq {ts t r} (h:t.length=szs ts) (hr:r∈(asked ts t).2):r.length=szs (ts.drop ((asked ts t).1 + 1)):=Ae6 h hr
theorem Ajl {ts t r} (h:t.length=szs ts) (hr:r∈(asked ts t).2):r.length ∣ szs ts:=by rw [Acq h hr]; exact Al ..
theorem Avd {α:Type} [BEq α] [LawfulBEq α] {T:List α} {a b:α} (ha:a∈T) (hb:b∈T) (h:T.idxOf a=T.idxOf b):a=b:=by
 have h1:=Bk2 ha
 have h2:=Bk2 hb
 have e1:T[T.idxOf a]?=some a:=by rw [Bf1 h1,Cj6]
 have e2:T[T.idxOf b]?=some b:=by rw [Bf1 h2,Cj6]
 rw [h,e2] at e1; exact (Br1 e1).symm
theorem Aca {α:Type} [BEq α] [LawfulBEq α] {T:List α} {a:α} (ha:a∈T):T[T.idxOf a]?=some a:=by
 have h1:=Bk2 ha
 rw [Bf1 h1,Cj6]
theorem Aci {α:Type} [BEq α] [LawfulBEq α] {T:List α} {a:α} {k:Nat} (hn:T.Nodup) (h:T[k]?=some a):T.idxOf a=k:=by
 obtain ⟨hk,rfl⟩:=Bf8.mp h
 exact hn.idxOf_getElem k hk
theorem Ale {ts:List Nat} {T:List (List V)} {s u:List V} (hs:whole (szs ts) s∈T) (hu:whole (szs ts) u∈T) (hd:s.length ∣ szs ts) (hl:s.length=u.length) (h:numOf ts T s=numOf ts T u):s=u:=
 As3 hd (Ah ts) hl (Avd hs hu h)
theorem Aey {ts T U t} (h:∀ r∈(asked ts t).2,whole (szs ts) r∈T):canon ts (T ++ U) t=canon ts T t:=by
 unfold canon
 split
 · rfl
 · congr 4
   refine Bj6 fun x hx=>?_
   unfold numOf
   rw [Br8,if_pos (h x.2 (Abr hx))]
theorem Art {a b} (h:Ad4 a=Ad4 b):a=b:=by
 obtain ⟨a1,a2⟩:=a
 obtain ⟨b1,b2⟩:=b
 simp only [Ad4,V.tup.injEq,Bn1,V.int.injEq,and_true] at h
 exact Prod.ext (by dsimp only; lia) (by dsimp only; lia)
set_option tactic.hygienic true in
theorem Akm {ts T t u} (ht:t.length=szs ts) (hu:u.length=szs ts) (ct:∀ r∈(asked ts t).2,whole (szs ts) r∈T) (cu:∀ r∈(asked ts u).2,whole (szs ts) r∈T) (h:canon ts T t=canon ts T u):t=u:=by
 unfold canon at h
 split at h
 · rename_i e1
   obtain ⟨x,hx,wx⟩:=Abb ht e1
   split at h
   · rename_i e2
     obtain ⟨y,hy,wy⟩:=Abb hu e2
     rw [hx,hy] at h
     simp only [Bq7,V.tup.injEq,Bn1,and_true,true_and] at h
     rw [<- wx,<- wy,h]
   · simp at h
 · split at h
   · simp at h
   · simp only [V.tup.injEq,Bn1,V.int.injEq,and_true] at h
     obtain ⟨e,h⟩:=h
     have e':(asked ts t).1=(asked ts u).1:=by lia
     have h2:=List.map_inj_right (fun a b=>Art) |>.mp (by rw [Bi7,Bi7]; exact h:((Bh (asked ts t).2).map fun x=>(x.1,numOf ts T x.2)).map Ad4=((Bh (asked ts u).2).map fun x=>(x.1,numOf ts T x.2)).map Ad4)
     have h3:=congrArg (Aq 0) h2
     rw [Adg,Adg,(Abh _).2,(Abh _).2] at h3
     have h4:(asked ts t).2=(asked ts u).2:=by
      have hl:=congrArg Bp6 h3
      simp only [Bf0] at hl
      apply Bt9 hl
      intro i i1 i2
      have:=congrArg (fun l=>l[i]?) h3
      simp only [Bf9,Bf1 i1,Bf1 i2,Bl6,Bs3] at this
      have m1:=Bl7 i1
      have m2:=Bl7 i2
      exact Ale (ct _ m1) (cu _ m2) (Ajl ht m1) (by rw [Acq ht m1,Acq hu m2,e']) this
     rw [<- Aay ht,<- Aay hu,h4]
noncomputable def An (ts:List Nat) (T:List (List V)):List V:=T.map (canon ts T)
theorem Abo {ts:List Nat} {T:List (List V)} {t:List V} {k:Nat} (h:T[k]?=some t):(An ts T)[k]?=some (canon ts T t):=by rw [An,Bf9,h]; rfl
theorem idx_map {α β:Type} [BEq α] [LawfulBEq α] [BEq β] [LawfulBEq β] {f:α->β} {a:α}:∀ {l:List α},(∀ x∈l,f x=f a->x=a)->(l.map f).idxOf (f a)=l.idxOf a
 | [],_=>rfl
 | b :: r,h=>by
  rw [Bh1,Cb4,Cb4]
  by_cases q:b=a
  · subst q; simp
  · have:¬ f b=f a:=fun e=>q (h b (.head _) e)
    rw [show (b == a)=false by simpa using q,show (f b == f a)=false by simpa using this,idx_map fun x hx=>h x (.tail _ hx)]
section
variable {ts:List Nat} {T:List (List V)}
theorem Bc.Arz (H:Bc ts T) {u} (hu:u.length=szs ts) (cu:∀ r∈(asked ts u).2,whole (szs ts) r∈T):canon ts T u∈An ts T ↔ u∈T:=by
 unfold An
 constructor
 · intro h
   obtain ⟨t,ht,e⟩:=Bh3.mp h
   rw [<- Akm (H.len t ht) hu (H.cl t ht) cu e]; exact ht
 · exact fun h=>Bi8 h
theorem Bc.Akq (H:Bc ts T) {u:List V} (hu:u∈T):(An ts T).idxOf (canon ts T u)=T.idxOf u:=
 idx_map fun x hx e=>Akm (H.len x hx) (H.len u hu) (H.cl x hx) (H.cl u hu) e
noncomputable def B6 (T:List (List V)) (u:List V):List (List V):=if u∈T then T else T ++ [u]
theorem Adf {T u}:u∈B6 T u:=by
 unfold B6; split
 · assumption
 · simp
theorem Ag2 {T u t} (h:t∈T):t∈B6 T u:=by
 unfold B6; split
 · exact h
 · simp [h]
theorem Asm {T u t} (h:t∈T):(B6 T u).idxOf t=T.idxOf t:=by
 unfold B6; split
 · rfl
 · rw [Br8,if_pos h]
theorem Ajb {T u}:(B6 T u).length<=T.length + 1:=by
 unfold B6; split
 · lia
 · simp
set_option tactic.hygienic true in
theorem Bc.add (H:Bc ts T) {u} (hu:u.length=szs ts) (cu:∀ r∈(asked ts u).2,whole (szs ts) r∈B6 T u) (hv:∀ x∈u,kv x):Bc ts (B6 T u):=by
 unfold B6 at cu ⊢
 split
 · exact H
 · rename_i hn
   rw [if_neg hn] at cu
   refine ⟨?_,fun t ht=>?_,fun t ht r hr=>?_,fun t ht=>?_⟩
   · rw [Bm6]
     exact ⟨H.nd,by simp,fun a ha b hb e=>hn (by rw [Bf7.mp hb] at e; rw [<- e]; exact ha)⟩
   · rcases Bh9.mp ht with ht | ht
     · exact H.len t ht
     · rw [Bf7.mp ht]; exact hu
   · rcases Bh9.mp ht with ht | ht
     · exact Bi3 _ (H.cl t ht r hr)
     · rw [Bf7.mp ht] at hr; exact cu r hr
   · rcases Bh9.mp ht with ht | ht
     · exact H.val t ht
     · rw [Bf7.mp ht]; exact hv
theorem Asi (H:Bc ts T) {u} (cu:∀ r∈(asked ts u).2,whole (szs ts) r∈T):An ts (B6 T u)=if u∈T then An ts T else An ts T ++ [canon ts T u]:=by
 unfold B6
 split
 · rfl
 · unfold An
   rw [Bg2]
   congr 1
   · exact Bj6 fun t ht=>Aey (H.cl t ht)
   · simp [Aey cu]
theorem Aim {v top S} (hv:ts[v]?=some top) (hl:S.length=top + 1) (hz:∀ s∈S,s.length=szs (ts.drop (v + 1))) (hd:dif S=true):asked ts (whole (szs ts) S.flatten)=(v,S)/\v < ts.length:=by
 obtain ⟨hlt,e⟩:=Bf8.mp hv
 have hdr:ts.drop v=top :: ts.drop (v + 1):=by rw [Bj3 hlt,e]
 have hfl:S.flatten.length=szs (ts.drop v):=by rw [Abd hz,hl,hdr,Afu]
 refine ⟨?_,hlt⟩
 rw [Aaf (Bk5 hlt) hfl,hdr,Anv hl hz hd]; rfl
theorem Ag7 {v top s} (hv:ts[v]?=some top) (hz:s.length=szs (ts.drop (v + 1))):whole (szs ts) (Bg8 (top + 1) s).flatten=whole (szs ts) s:=by
 obtain ⟨hlt,e⟩:=Bf8.mp hv
 have hdr:ts.drop v=top :: ts.drop (v + 1):=by rw [Bj3 hlt,e]
 have hl:(rep (top + 1) s).length=szs (ts.drop v):=by rw [Alh,hz,hdr,Afu]
 have h1:(rep (top + 1) s).length ∣ szs ts:=by rw [hl]; exact Al ..
 have h0:0 < s.length:=by rw [hz]; exact Ah _
 show whole (szs ts) (rep (top + 1) s)=_
 obtain ⟨m,hm⟩:=h1
 have h2:0 < (rep (top + 1) s).length:=by rw [hl]; exact Ah _
 rw [Aai,Aai,hm,Bj7 _ h2,Aj2,Alh]
 congr 1
 rw [show (top + 1) * s.length * m=s.length * (m * (top + 1)) by rw [Br7 (top + 1),Ce5,Br7 (top + 1)],Bj7 _ h0]
end
noncomputable def tab (ts:List Nat) (f:List Nat->V):List V:=(B7 ts).map f
theorem Aw9:∀ (ts:List Nat) (f:List Nat->V),tab ts f=Bz6 f (B7 ts):=by intros; rfl
theorem Afx {p ps f}:tab (p :: ps) f=((Bi1 (p + 1)).map fun i=>tab ps fun c=>f (i :: c)).flatten:=by
 rw [Aw9]
 rw [B7,List.map_flatMap,Ce9]
 congr 1
 refine Bj6 fun i _=>?_
 rw [Bi7]; rfl
theorem Ac2:∀ (ts:List Nat),(B7 ts).length=szs ts
 | []=>rfl
 | p :: ps=>by
  have:∀ m:Nat,((Bi1 m).flatMap fun i=>(B7 ps).map (i :: ·)).length=m * szs ps:=by
   intro m
   induction m with
   | zero=>simp
   | succ m ih=>rw [List.range_succ,List.flatMap_append,Bf2,ih,Bx7]; simp [Ac2 ps]
  rw [B7,this,szs]
theorem Ah8 (ts:List Nat) (f:List Nat->V):(tab ts f).length=szs ts:=by rw [Aw9,Bf0,Ac2]
theorem Acj:∀ {ts c},c∈B7 ts->c.length=ts.length/\∀ (i x p:Nat),c[i]?=some x->ts[i]?=some p->x<=p
 | [],c,h=>by rw [B7,Bf7] at h; subst h; simp
 | p :: ps,c,h=>by
  rw [B7,Ce8] at h
  obtain ⟨i,hi,h⟩:=h
  obtain ⟨c',h',rfl⟩:=Bh3.mp h
  obtain ⟨h1,h2⟩:=Acj h'
  refine ⟨by simp [h1],fun j x q hx hq=>?_⟩
  cases j with
  | zero=>simp at hx hq; subst hx; subst hq; exact Bw3 (Bk7.mp hi)
  | succ j=>exact h2 j x q (by simpa using hx) (by simpa using hq)
theorem Ap4:∀ {ts t},t.length=szs ts->∃ f,t=tab ts f
 | [],t,h=>by
  obtain ⟨x,rfl⟩:∃ x,t=[x]:=Bz0.mp h
  exact ⟨fun _=>x,rfl⟩
 | p :: ps,t,h=>by
  have hf:=Aeh (p:=p) (z:=szs ps) h
  have:∀ i:Nat,∃ g:List Nat->V,∀ r,(rowsOf t p)[i]?=some r->r=tab ps g:=fun i=>by
    cases q:(rowsOf t p)[i]? with
    | none=>exact ⟨fun _=>.none,fun r e=>by cases e⟩
    | some r=>
     obtain ⟨g,hg⟩:=Ap4 (Ady (z:=szs ps) h (Bg0 q))
     exact ⟨g,fun r' e=>by cases e; exact hg⟩
  obtain ⟨g,hg⟩:=Classical.axiomOfChoice this
  refine ⟨fun c=>g (c.headD 0) c.tail,?_⟩
  rw [Afx,<- hf]
  congr 1
  apply Bt9
  · rw [Aem]; simp
  · intro i h1 h2
    have e:=hg i _ (Bf1 h1)
    simp only [Cl5,Cj5,Bq7,Co1]
    rw [e]
theorem Ah2:∀ {ts d g},d<=ts.length->whole (szs ts) (tab (ts.drop d) g)=tab ts fun c=>g (c.drop d)
 | ts,0,g,_=>by
  rw [Bo9,<- Ah8 ts g,Ab1 (by rw [Ah8]; exact Ah _)]; rfl
 | [],d + 1,g,h=>by simp at h
 | p :: ps,d + 1,g,h=>by
  rw [Bx5,Afu,Aep (by rw [Ah8]; exact Ah _) (by rw [Ah8]; exact Al ..),Ah2 (by simpa using h),Afx]
  unfold rep
  congr 1
  apply Bt9
  · simp
  · intro i h1 h2; simp
theorem Aqk {ts:List Nat} {v top:Nat} {S:List (List V)} (hv:ts[v]?=some top) (hl:S.length=top + 1) (hz:∀ s∈S,s.length=szs (ts.drop (v + 1))) {k:Nat} {c:List Nat} {x:Nat} {s:List V} (hc:(B7 ts)[k]?=some c) (hx:c[v]?=some x) (hs:S[x]?=some s) :
  (whole (szs ts) S.flatten)[k]?=(whole (szs ts) s)[k]?:=by
 obtain ⟨hlt,e⟩:=Bf8.mp hv
 have hdr:ts.drop v=top :: ts.drop (v + 1):=by rw [Bj3 hlt,e]
 have:∀ i:Nat,∃ g:List Nat->V,∀ r,S[i]?=some r->r=tab (ts.drop (v + 1)) g:=fun i=>by
  cases q:S[i]? with
  | none=>exact ⟨fun _=>.none,fun r e=>by cases e⟩
  | some r=>
    obtain ⟨g,hg⟩:=Ap4 (hz r (Bg0 q))
    exact ⟨g,fun r' e=>by cases e; exact hg⟩
 obtain ⟨g,hg⟩:=Classical.axiomOfChoice this
 have hS:S.flatten=tab (ts.drop v) fun c=>g (c.headD 0) c.tail:=by
  rw [hdr,Afx]
  congr 1
  apply Bt9
  · rw [hl]; simp
  · intro i h1 h2
    have e:=hg i _ (Bf1 h1)
    simp only [Cl5,Cj5,Bq7,Co1]
    rw [e]
 rw [hS,Ah2 (Bk5 hlt),hg x s hs,Ah2 hlt]
 unfold tab
 rw [Bf9,Bf9,hc]
 simp only [Bl6,Bs3]
 obtain ⟨hvc,e2⟩:=Bf8.mp hx
 rw [Bj3 hvc,e2,Bq7,Co1]
theorem Acp:∀ {ts d s vals},d<=ts.length->s.length=szs (ts.drop d)->vals.length=ts.length->Bb ts (whole (szs ts) s) vals=Bb (ts.drop d) s (vals.drop d)
 | ts,0,s,vals,_,h,_=>by
  rw [Bo9] at h
  rw [<- h,Ab1 (by rw [h]; exact Ah _)]; simp
 | [],d + 1,s,vals,h0,h,_=>by simp at h0
 | p :: ps,d + 1,s,[],h0,h,hl=>by simp at hl
 | p :: ps,d + 1,s,x :: xs,h0,h,hl=>by
  rw [Bx5] at h ⊢
  rw [Afu,Aep (by rw [h]; exact Ah _) (by rw [h]; exact Al ps d),Aiv,An9,Alk,if_neg (by simp),Bn3,Bq7,Bx5]
  exact Acp (by simpa using h0) h (by simpa using hl)
set_option tactic.hygienic true in
theorem Agi:∀ {ts t},(asked ts t).1 < ts.length->dif (asked ts t).2=true
 | [],t,h=>by simp at h
 | p :: ps,t,h=>by
  rw [Aao] at h ⊢
  split
  · assumption
  · rename_i q
    rw [if_neg q] at h
    exact Agi (by simpa using h)
set_option tactic.hygienic true in
theorem Am1 {ts t vals top x} (h:t.length=szs ts) (hl:vals.length=ts.length) (ha:ts[(asked ts t).1]?=some top) (hx:vals[(asked ts t).1]?=some x) :
   Bb ts t vals=if top < x then none else Bb ts (whole (szs ts) ((asked ts t).2.getD x [])) vals:=by
 obtain ⟨hlt,e⟩:=Bf8.mp ha
 have hdr:ts.drop (asked ts t).1=top :: ts.drop ((asked ts t).1 + 1):=by rw [Bj3 hlt,e]
 obtain ⟨hlx,ex⟩:=Bf8.mp hx
 have hdv:vals.drop (asked ts t).1=x :: vals.drop ((asked ts t).1 + 1):=by rw [Bj3 hlx,ex]
 have h1:=Acp (vals:=vals) (Bk5 hlt) (Aaa h) hl
 rw [Aay h,hdr,hdv,Aiv,Aek (Aa5 ha) (fun r hr=>Acq h hr),Agi hlt,if_pos rfl] at h1
 rw [h1]
 split
 · rfl
 · rename_i q
   have hxl:x < (asked ts t).2.length:=by rw [Aa5 ha]; exact r52 ‹_›
   have hm:(asked ts t).2.getD x []∈(asked ts t).2:=by
    rw [Bj9,Bf1 hxl]; exact Bl7 hxl
   exact (Acp (d:=(asked ts t).1 + 1) hlt (Acq h hm) hl).symm
theorem Ao9 {ts t vals x} (h:t.length=szs ts) (hl:vals.length=ts.length) (ha:(asked ts t).1=ts.length) (hx:(asked ts t).2=[[x]]):Bb ts t vals=some x:=by
 have h1:=Acp (vals:=vals) (Bm3 ha) (Aaa h) hl
 rw [Aay h,ha,Ca0,Cf5 (by lia),hx] at h1
 rw [h1]; rfl
set_option tactic.hygienic true in
theorem Ah5:∀ {ts f c},c∈B7 ts->Bb ts (tab ts f) c=some (f c)
 | [],f,c,h=>by rw [B7,Bf7] at h; subst h; rfl
 | p :: ps,f,c,h=>by
  rw [B7,Ce8] at h
  obtain ⟨i,hi,h⟩:=h
  obtain ⟨c',h',rfl⟩:=Bh3.mp h
  have hi':=Bk7.mp hi
  have At4:rowsOf (tab (p :: ps) f) p=(Bi1 (p + 1)).map fun i=>tab ps fun c=>f (i :: c):=by
    rw [Afx]
    exact Aek (z:=szs ps) (by simp) fun r hr=>by
     obtain ⟨j,_,rfl⟩:=Bh3.mp hr
     exact Ah8 ..
  have Awh:(rowsOf (tab (p :: ps) f) p)[i]?=some (tab ps fun c=>f (i :: c)):=by
    rw [At4,Bf9,Ci5 hi']; rfl
  rw [Aiv]
  split
  · rw [if_neg (by lia),Bj9,Awh,Bm2]
    exact Ah5 h'
  · rename_i q
    obtain ⟨r0,rs,hrs⟩:=Ad1 (tab (p :: ps) f) p
    rw [hrs] at q Awh ⊢
    have Aty:=Ad0 (Cm0 _ ▸ q)
    have:r0=tab ps fun c=>f (i :: c):=by
     have hm:=Bg0 Awh
     rw [Aty] at hm
     exact (Bo1 hm).symm
    rw [Bq7,this]
    exact Ah5 h'
theorem Aor {ts:List Nat} {t:List V} {k:Nat} {c:List Nat} {x:V} (h:t.length=szs ts) (hc:(B7 ts)[k]?=some c) (hx:t[k]?=some x):Bb ts t c=some x:=by
 obtain ⟨f,rfl⟩:=Ap4 h
 rw [Ah5 (Bg0 hc)]
 rw [Aw9] at hx
 rw [Bf9,hc] at hx
 simpa using hx
set_option tactic.hygienic true in
theorem Aas (ts:List Nat) (T:List (List V)) (t:List V):∃ hd ab,canon ts T t=.tup [hd,ab]/\hd.dat=true/\hd.dep<=40/\As5 ts hd=.int (asked ts t).1 ∧
   (((asked ts t).1=ts.length/\hd=.str "leaf"/\ab=((asked ts t).2.headD []).headD .none)∨((asked ts t).1≠ts.length/\hd=.int (asked ts t).1/\ab=.tup ((Bh (asked ts t).2).map fun x=>Ad4 (x.1,numOf ts T x.2)))):=by
 unfold canon
 split
 · rename_i h
   exact ⟨_,_,rfl,rfl,Bh2 _,by rw [As5,if_pos rfl,h],.inl ⟨h,rfl,rfl⟩⟩
 · rename_i h
   exact ⟨_,_,rfl,rfl,Bh2 _,by rw [As5,if_neg (by simp)],.inr ⟨h,rfl,rfl⟩⟩
section
variable {w:World} {n:Nat} {σ:Sto} {ts:List Nat} {dn db dm:Addr} {T:List (List V)} {Q:V->Sto->Prop} {Y:Str->Sto->Prop}
noncomputable def Aho (σ:Sto) (dn db:Addr) (D:List V):Sto:=(σ.put db (.Ad (Ap D))).put dn (.list D)
theorem Ah6 {D} (h:σ dn=some (.list D)) (hb:σ db=some (.Ad (Ap D))):Aho σ dn db D=σ:=by
 unfold Aho; rw [Sto.Acr hb,Sto.Acr h]
theorem Amc {v top:Nat} {S:List (List V)} {qs:List (Nat × Nat)} (H:Bc ts T) (h:σ dn=some (.list (An ts T))) (hb:σ db=some (.Ad (Ap (An ts T)))) (hne:dn≠db) (hl:T.length<=1000) (hv:ts[v]?=some top) (hv':v < 100)
   (hr:As (top + 1) 0 qs) (hq':qs.length<=100) (hS:S.length=top + 1) (hz:∀ s∈S,s.length=szs (ts.drop (v + 1))) (hT:∀ s∈S,whole (szs ts) s∈T) (hE:Aq 0 qs=S.map (numOf ts T))
   (hq:Q (.int ((B6 T (whole (szs ts) S.flatten)).idxOf (whole (szs ts) S.flatten):Nat)) (Aho σ dn db (An ts (B6 T (whole (szs ts) S.flatten))))) :
   Fn (PM w) (n + 3) (.ref 100) [B9 ts dn db dm,.int v,.lst ((qs.map pI).map Au)] σ Q Y:=by
 have Bch:∀ x∈S,∀ y∈S,numOf ts T x=numOf ts T y->x=y:=fun x hx y hy e=>Ale (hT x hx) (hT y hy) (by rw [hz x hx]; exact Al ..) (by rw [hz x hx,hz y hy]) e
 have hj:joined (qs.map pI)=(Bh (S.map (numOf ts T))).map pI:=by rw [Ar3 hr,hE]
 have Apc:atEnd top (qs.map pI)=top:=(Afb (by lia)).mpr (by have:=Aix hr; simpa using this)
 have hDl:(An ts T).length=T.length:=by simp [An]
 refine Apj (n:=n) h hb hne (by rw [hDl]; exact hl) hv hv' (by rw [Bf0]; exact hq') (fun e=>absurd Apc e) (fun p _ hp=>?_) (fun _ hl1 hm=>?_) (fun _ hl1 hm=>?_)
 · rw [hj,Ana _ Bch] at hp
   obtain ⟨s0,hs⟩:∃ s0,Bh S=[s0]:=by
    have:=congrArg Bp6 hp
    simp only [Bf0,Bo4] at this
    exact Bz0.mp this
   have hSr:S=Bg8 (top + 1) s0.2:=Cg4.mpr ⟨hS,Anc (e:=0) (by rw [<- hs]; exact (Abh S).2)⟩
   have hs0:s0.2∈S:=by rw [hSr]; simp
   have hu:whole (szs ts) S.flatten=whole (szs ts) s0.2:=by rw [hSr]; exact Ag7 hv (hz _ hs0)
   rw [hs] at hp
   have hp2:p.2=numOf ts T s0.2:=by
    simp only [Bh1,Bq6,Bn1,and_true] at hp
    rw [<- hp]
   rw [hu] at hq
   rw [show B6 T (whole (szs ts) s0.2)=T from if_pos (hT _ hs0),Ah6 h hb] at hq
   rw [hp2]; exact hq
 all_goals
   have hd:dif S=true:=by
    cases q:dif S with
    | true=>rfl
    | false=>
     obtain ⟨s0,S',rfl⟩:∃ s0 S',S=s0 :: S':=by
      cases S with
      | nil=>simp at hS
      | cons a b=>exact ⟨a,b,rfl⟩
     rw [hj,Ad0 q,Cj3,Atk] at hl1
     simp at hl1
   obtain ⟨ha,hlt⟩:=Aim hv hS hz hd
   have hc:V.tup [.int v,.tup ((joined (qs.map pI)).map Au)]=canon ts T (whole (szs ts) S.flatten):=by
    unfold canon
    rw [ha,if_neg (by dsimp only; lia),hj,Ana _ Bch]
    simp only [Bi7]; rfl
   have hul:(whole (szs ts) S.flatten).length=szs ts:=by
    refine Ab8 ?_
    have hdr:ts.drop v=top :: ts.drop (v + 1):=by
     obtain ⟨hlt,e⟩:=Bf8.mp hv
     rw [Bj3 hlt,e]
    rw [Abd hz,hS,show (top + 1) * szs (ts.drop (v + 1))=szs (ts.drop v) by rw [hdr]; rfl]
    exact Al ..
   have hcu:∀ r∈(asked ts (whole (szs ts) S.flatten)).2,whole (szs ts) r∈T:=by rw [ha]; exact hT
   rw [hc] at hm ⊢
   have Ajr:=H.Arz hul hcu
 · rw [H.Akq (Ajr.mp hm)]
   rw [show B6 T (whole (szs ts) S.flatten)=T from if_pos (Ajr.mp hm),Ah6 h hb] at hq
   exact hq
 · have hn:whole (szs ts) S.flatten ∉ T:=fun e=>hm (Ajr.mpr e)
   rw [Asi H hcu,if_neg hn] at hq
   rw [show (B6 T (whole (szs ts) S.flatten)).idxOf (whole (szs ts) S.flatten)=(An ts T).length from by
    unfold B6; rw [if_neg hn,Br8,if_neg hn]; simp [An]] at hq
   exact hq
theorem Ae4 {ts x}:asked ts (whole (szs ts) [x])=(ts.length,[[x]]):=by
 have:=Aaf (ts:=ts) (d:=ts.length) (s:=[x]) (Bh7 _) (by rw [Ca0]; rfl)
 rw [this,Ca0]; rfl
theorem Atn {x} (H:Bc ts T) (h:σ dn=some (.list (An ts T))) (hb:σ db=some (.Ad (Ap (An ts T)))) (hne:dn≠db) (hl:T.length<=1000) (hx:kv x)
   (hq:Q (.int ((B6 T (whole (szs ts) [x])).idxOf (whole (szs ts) [x]):Nat)) (Aho σ dn db (An ts (B6 T (whole (szs ts) [x]))))):Fn (PM w) (n + 2) (.ref 93) [B9 ts dn db dm,x] σ Q Y:=by
 have hDl:(An ts T).length=T.length:=by simp [An]
 have hul:(whole (szs ts) [x]).length=szs ts:=Ab8 (by simp)
 have hc:V.tup [.str "leaf",x]=canon ts T (whole (szs ts) [x]):=by unfold canon; rw [Ae4,if_pos rfl]; rfl
 refine Avv h hb hne (by rw [hDl]; exact hl) hx.1 (by rw [hx.2]; lia) (fun hm=>?_) (fun hm=>?_)
 all_goals rw [hc] at hm ⊢
 · have Ajr:whole (szs ts) [x]∈T:=by
    obtain ⟨t,ht,e⟩:=Bh3.mp hm
    have e2:canon ts T t=.tup [.str "leaf",x]:=e.trans hc.symm
    obtain ⟨hd,ab,g1,_,_,_,g2⟩:=Aas ts T t
    rw [g1] at e2
    simp only [V.tup.injEq,Bn1,and_true] at e2
    rcases g2 with ⟨a1,a2,a3⟩ | ⟨a1,a2,a3⟩
    · obtain ⟨y,hy,wy⟩:=Abb (H.len t ht) a1
      rw [hy] at a3
      have:y=x:=by rw [<- e2.2,a3]; rfl
      rw [<- this,wy]; exact ht
    · rw [a2] at e2; simp at e2
   rw [H.Akq Ajr]
   rw [show B6 T (whole (szs ts) [x])=T from if_pos Ajr,Ah6 h hb] at hq
   exact hq
 · have hn:whole (szs ts) [x] ∉ T:=fun e=>hm (Bi8 e)
   have hD:An ts (B6 T (whole (szs ts) [x]))=An ts T ++ [canon ts T (whole (szs ts) [x])]:=by
    unfold B6 An
    rw [if_neg hn,Bg2]
    congr 1
    · exact Bj6 fun t ht=>Aey (H.cl t ht)
    · rw [Bh1,Bq6]
      unfold canon; rw [Ae4,if_pos rfl,if_pos rfl]
   rw [hD] at hq
   rw [show (B6 T (whole (szs ts) [x])).idxOf (whole (szs ts) [x])=(An ts T).length from by
    unfold B6; rw [if_neg hn,Br8,if_neg hn]; simp [An]] at hq
   exact hq
theorem Bc.leaf (H:Bc ts T) {x} (hx:kv x):Bc ts (B6 T (whole (szs ts) [x])):=by
 refine H.add (Ab8 (by simp)) (fun r hr=>?_) (fun y hy=>?_)
 · rw [Ae4] at hr
   rw [Bf7.mp hr]; exact Adf
 · unfold whole at hy
   obtain ⟨l,h1,h2⟩:=Bt8.mp hy
   rw [Bo1 h1] at h2
   rw [Bf7.mp h2]; exact hx
theorem Abw {N s x} (h:x∈whole N s):x∈s:=by
 unfold whole at h
 obtain ⟨l,h1,h2⟩:=Bt8.mp h
 rw [Bo1 h1] at h2; exact h2
theorem Aav {N s x} (hd:s.length ∣ N) (h0:0 < N) (h:x∈s):x∈whole N s:=by
 have hs:0 < s.length:=Ch1 hd h0
 have h1:0 < N / s.length:=Cn7 (Cb0 h0 hd) hs
 unfold whole
 exact Bt8.mpr ⟨s,List.mem_replicate.mpr ⟨by exact r50 ‹_›,rfl⟩,h⟩
theorem Bc.join (H:Bc ts T) {v top:Nat} {S:List (List V)} (hv:ts[v]?=some top) (hS:S.length=top + 1) (hz:∀ s∈S,s.length=szs (ts.drop (v + 1))) (hT:∀ s∈S,whole (szs ts) s∈T):Bc ts (B6 T (whole (szs ts) S.flatten)):=by
 obtain ⟨hlt,e⟩:=Bf8.mp hv
 have hdr:ts.drop v=top :: ts.drop (v + 1):=by rw [Bj3 hlt,e]
 have hfl:S.flatten.length=szs (ts.drop v):=by rw [Abd hz,hS,hdr,Afu]
 have Alm:∀ y∈whole (szs ts) S.flatten,kv y:=fun y hy=>by
  obtain ⟨s,hs,hy⟩:=Bt8.mp (Abw hy)
  exact H.val _ (hT s hs) y (Aav (by rw [hz s hs]; exact Al ..) (Ah _) hy)
 cases q:dif S with
 | true=>
  refine H.add (Ab8 (by rw [hfl]; exact Al ..)) (fun r hr=>?_) Alm
  rw [(Aim hv hS hz q).1] at hr
  exact Ag2 (hT r hr)
 | false=>
  obtain ⟨s0,S',rfl⟩:∃ s0 S',S=s0 :: S':=by
   cases S with
   | nil=>simp at hS
   | cons a b=>exact ⟨a,b,rfl⟩
  have hu:whole (szs ts) (s0 :: S').flatten=whole (szs ts) s0:=by
   rw [Ad0 q,show S'.length + 1=top + 1 by simpa using hS]; exact Ag7 hv (hz _ (.head _))
  rw [hu,show B6 T (whole (szs ts) s0)=T from if_pos (hT _ (.head _))]
  exact H
theorem At2 {e l} (x:Nat) (h:As e 0 l):Acb (l.map pI) x=(Aq 0 l)[x]?:=by
 have:=Ajj (x:=x) h (Bh2 _)
 rw [Nat.sub_zero] at this
 rw [this]
 unfold Acb
 rw [Co4,Option.map_map]
 have e1:((fun p:Int × Nat=>decide ((x:Int)<=p.1)) ∘ pI)=fun p:Nat × Nat=>decide (x<=p.1):=funext fun p=>by simp [Bt2]
 rw [e1]; rfl
theorem Aje {t:List V} {k:Nat} {vals:List Nat} {c:V} (H:Bc ts T) (h:σ dn=some (.list (An ts T))) (hl:T.length<=1000) (h3:ts.length<=100) (hk:T[k]?=some t) (hvl:vals.length=ts.length)
   (Alm:Dv σ c (.lst ((vals.map fun x:Nat=>(x:Int)).map .int))∨c=.tup ((vals.map fun x:Nat=>(x:Int)).map .int)) (h1:Bb ts t vals=none->Y "a value past its variable's top" σ) (h2:∀ x,Bb ts t vals=some x->Q x σ) :
   Fn (PM w) (n + 4) (.ref 147) [B9 ts dn db dm,.int k,c] σ Q Y:=by
 obtain ⟨hd,ab,g1,_⟩:=Aas ts T t
 have hkl:k < T.length:=by rw [Bf8] at hk; exact hk.1
 refine Alq (D:=An ts T) (k0:=ts.length - (asked ts t).1) (hd:=hd) (about:=ab) (fun j hd ab=>∃ u∈T,canon ts T u=.tup [hd,ab]/\Bb ts u vals=Bb ts t vals/\j=ts.length - (asked ts u).1) h Alm
   (by rw [Abo hk,g1]) (by exact r38 ‹_› ‹_›) ⟨t,Bg0 hk,g1,rfl,rfl⟩ ?_
 rintro j hd ab ⟨u,hu,e1,e2,e3⟩
 obtain ⟨hd',ab',g1,_,_,_,g2⟩:=Aas ts T u
 rw [g1] at e1
 simp only [V.tup.injEq,Bn1,and_true] at e1
 obtain ⟨rfl,rfl⟩:=e1
 have hul:=H.len u hu
 rcases g2 with ⟨a1,a2,a3⟩ | ⟨a1,a2,a3⟩
 · obtain ⟨x,hx,wx⟩:=Abb hul a1
   refine .inl ⟨a2,h2 _ ?_⟩
   rw [<- e2,Ao9 hul hvl a1 hx,a3,hx]; rfl
 · right
   have hle:=Aah (ts:=ts) (t:=u)
   have hlt:(asked ts u).1 < ts.length:=by exact r53 ‹_› ‹_›
   obtain ⟨top,Ba⟩:∃ top,ts[(asked ts u).1]?=some top:=⟨_,Bf1 hlt⟩
   obtain ⟨x,hx⟩:∃ x,vals[(asked ts u).1]?=some x:=⟨_,Bf1 (by exact r46 ‹_› ‹_›)⟩
   have hrl:=Aa5 Ba
   have hra:=Am1 hul hvl Ba hx
   obtain ⟨r1,r2⟩:=Abh (asked ts u).2
   have hr1:=Agf (numOf ts T) r1
   have Bad:=At2 x hr1
   rw [Adg,r2] at Bad
   refine ⟨(asked ts u).1,((Bh (asked ts u).2).map fun x=>(x.1,numOf ts T x.2)).map pI,x,a2,by exact r38 ‹_› ‹_›,?_,?_,fun hb=>?_,fun c hc=>?_⟩
   · rw [a3,Bi7,Bi7]; rfl
   · rw [Bf9,hx]; rfl
   · rw [Bad,List.getElem?_eq_none_iff,Bf0,hrl] at hb
     refine h1 ?_
     rw [<- e2,hra,if_pos (by lia)]
   · rw [Bad,Bf9] at hc
     obtain ⟨r,hr,hc⟩:=Bn7.mp hc
     have hrm:=Bg0 hr
     have hwm:=H.cl u hu r hrm
     have hxl:x < top + 1:=by rw [<- hrl]; exact (Bf8.mp hr).1
     have hcl:c < T.length:=by rw [<- hc]; exact Bk2 hwm
     obtain ⟨hd2,ab2,g3,_⟩:=Aas ts T (whole (szs ts) r)
     have Be6:(asked ts u).1 + 1<=(asked ts (whole (szs ts) r)).1:=by
       rw [Aaf (d:=(asked ts u).1 + 1) hlt (Acq hul hrm)]; dsimp only; lia
     refine ⟨hd2,ab2,ts.length - (asked ts (whole (szs ts) r)).1,by exact r4 ‹_› ‹_› ‹_› ‹_›,by exact r38 ‹_› ‹_›,?_,whole (szs ts) r,hwm,g3,?_,rfl⟩
     · rw [<- g3]
       refine Abo ?_
       rw [<- hc]; exact Aca hwm
     · rw [<- e2,hra,if_neg (by lia),Bj9,hr]; rfl
end
theorem Asq {m w}:(rep (m + 1) w).take w.length=w:=by
 rw [Bm0,Alp,Al6]; simp
theorem Ai2 {N w} (hd:w.length ∣ N) (h0:0 < N):(whole N w).take w.length=w:=by
 have hs:0 < w.length:=Ch1 hd h0
 have h1:0 < N / w.length:=Cn7 (Cb0 h0 hd) hs
 rw [Aai,show N / w.length=(N / w.length - 1) + 1 by exact r31 ‹_›]; exact Asq
set_option tactic.hygienic true in
theorem Ag8 {ts t v top} (h:t.length=szs ts) (hv:ts[v]?=some top) (hle:v<=(asked ts t).1) :
   (rowsOf (t.take (szs (ts.drop v))) top).length=top + 1/\(∀ r∈rowsOf (t.take (szs (ts.drop v))) top,r.length=szs (ts.drop (v + 1)))/\whole (szs ts) (rowsOf (t.take (szs (ts.drop v))) top).flatten=t ∧
   ((asked ts t).1=v->rowsOf (t.take (szs (ts.drop v))) top=(asked ts t).2)/\(v < (asked ts t).1->∃ r0,rowsOf (t.take (szs (ts.drop v))) top=Bg8 (top + 1) r0/\whole (szs ts) r0=t):=by
 obtain ⟨hlt,e⟩:=Bf8.mp hv
 have hdr:ts.drop v=top :: ts.drop (v + 1):=by rw [Bj3 hlt,e]
 have hF:=Aaa h
 have hF0:0 < (asked ts t).2.flatten.length:=by rw [hF]; exact Ah _
 have hdd:(ts.drop v).drop ((asked ts t).1 - v)=ts.drop (asked ts t).1:=by rw [Cc5]; congr 1; exact Bm1 hle
 have hdv:(asked ts t).2.flatten.length ∣ szs (ts.drop v):=by rw [hF,<- hdd]; exact Al ..
 have hwl:(whole (szs (ts.drop v)) (asked ts t).2.flatten).length=szs (ts.drop v):=Ab8 hdv
 have hww:whole (szs ts) (whole (szs (ts.drop v)) (asked ts t).2.flatten)=t:=by
   refine Eq.trans ?_ (Aay h)
   obtain ⟨m,hm⟩:=hdv
   obtain ⟨k,hk⟩:=Al ts v
   have hM:=Ah (ts.drop v)
   rw [Aai (szs ts),hwl,Aai (szs (ts.drop v)),Aai (szs ts),Aj2,hk,Bj7 _ hM,hm,Bj7 _ hF0,Ce5,Bj7 _ hF0,Br7]
 have htk:t.take (szs (ts.drop v))=whole (szs (ts.drop v)) (asked ts t).2.flatten:=by
   have:=Ai2 (N:=szs ts) (w:=whole (szs (ts.drop v)) (asked ts t).2.flatten) (by rw [hwl]; exact Al ..) (Ah _)
   rw [hww,hwl] at this; exact this
 rw [htk]
 generalize hw:whole (szs (ts.drop v)) (asked ts t).2.flatten=w at *
 have hwl':w.length=(top + 1) * szs (ts.drop (v + 1)):=by rw [hwl,hdr,Afu]
 have Axh:asked (ts.drop v) w=((asked ts t).1 - v,(asked ts t).2):=by
   have h1:=Aaf (ts:=ts) (d:=(asked ts t).1) (s:=(asked ts t).2.flatten) Aah hF
   rw [Aay h] at h1
   have h2:=Aaf (ts:=ts.drop v) (d:=(asked ts t).1 - v) (s:=(asked ts t).2.flatten) (by have:=Aah (ts:=ts) (t:=t); rw [Bp0]; exact Ch7 this _) (by rw [hdd]; exact hF)
   rw [hw,hdd] at h2
   have e1:=congrArg Cp5 h1
   have e2:=congrArg Prod.snd h1
   dsimp only at e1 e2
   rw [h2,<- e2]
   simp only [Bu8,and_true]; lia
 rw [hdr,Aao] at Axh
 refine ⟨Aem ..,fun r hr=>Ady hwl' hr,?_,fun q=>?_,fun q=>?_⟩
 · rw [Aeh hwl']; exact hww
 · split at Axh
   · exact congrArg Prod.snd Axh
   · have:=congrArg Cp5 Axh; dsimp only at this; exact absurd (this.trans (by rw [q,Nat.sub_self])) (Nat.succ_ne_zero _)
 · split at Axh
   · have:=congrArg Cp5 Axh; dsimp only at this; exact absurd this (Bl9 (Nat.sub_pos_of_lt q))
   · rename_i hd
     obtain ⟨r0,rs,hrs⟩:=Ad1 w top
     have Aty:=Ad0 (r:=r0) (S:=rs) (by rw [<- hrs]; exact Cm0 _ ▸ hd)
     have hlen:rs.length + 1=top + 1:=by have:=Aem w top; rw [hrs] at this; simpa using this
     rw [hlen] at Aty
     refine ⟨r0,by rw [hrs,Aty],?_⟩
     rw [<- Ag7 hv (Ady hwl' (by rw [hrs]; exact .head _)),<- Aty,<- hrs,Aeh hwl']; exact hww
noncomputable def Ak5 (ts:List Nat) (T:List (List V)) (t:List V) (k v top:Nat):List (Nat × Nat):=if (asked ts t).1=v then (Bh (asked ts t).2).map fun x=>(x.1,numOf ts T x.2) else [(top,k)]
section
variable {w:World} {n:Nat} {σ:Sto} {T:List (List V)} {Q:V->Sto->Prop} {Y:Str->Sto->Prop}
theorem Afe {ts t k v top} (H:Bc ts T) (hk:T[k]?=some t) (hv:ts[v]?=some top) (hle:v<=(asked ts t).1) :
   As (top + 1) 0 (Ak5 ts T t k v top)/\Aq 0 (Ak5 ts T t k v top)=(rowsOf (t.take (szs (ts.drop v))) top).map (numOf ts T)/\∀ r∈rowsOf (t.take (szs (ts.drop v))) top,whole (szs ts) r∈T:=by
 have ht:=Bg0 hk
 obtain ⟨c1,c2,c3,c4,c5⟩:=Ag8 (H.len t ht) hv hle
 unfold Ak5
 by_cases q:(asked ts t).1=v
 · rw [if_pos q,c4 q]
   obtain ⟨r1,r2⟩:=Abh (asked ts t).2
   rw [<- c4 q,c1,c4 q] at r1
   exact ⟨Agf _ r1,by rw [Adg,r2],fun r hr=>H.cl t ht r hr⟩
 · rw [if_neg q]
   obtain ⟨r0,d1,d2⟩:=c5 (by exact r54 ‹_› ‹_›)
   rw [d1]
   refine ⟨⟨Bh2 _,by simp,rfl⟩,?_,fun r hr=>?_⟩
   · simp only [Aq,Bh6,Cj3]
     unfold numOf
     rw [d2,Aci H.nd hk]; rfl
   · rw [Bo1 hr,d2]; exact ht
theorem Ag1 {α:Type} [DecidableEq α] {rs:List α}:(Bh rs).length<=rs.length:=by unfold Bh; rw [Bf0]; exact Aco
theorem Aoo {m l p} (h:l < m) (hp:p l=true) (hj:∀ j,j < l->p j=false):((Bi1 m).filter p)[0]?=some l:=by
 rw [<- List.head?_eq_getElem?,List.head?_filter,List.find?_range_eq_some]
 exact ⟨hp,Bk7.mpr h,fun j hjl=>by simp [hj j hjl]⟩
theorem Ao1 {wl nl:Addr} {a:Wo} {i j:Nat} {ta tb:List V} (H:Bc a.A1 T) (hw:σ wl=some (.A5 a.es)) (hD:σ a.dn=some (.list (An a.A1 T))) (hnu:σ nl=some (.Ad (Ap (T.map .tup)))) (h3:a.A1.length=3) (Ba:∀ p∈a.A1,p<=10)
   (hs:szs a.A1<=100) (hc:a.cells.length=szs a.A1) (hl:T.length<=100) (hi:T[i]?=some ta) (hj:T[j]?=some tb) (hq:Q (.bool true) σ) :
   Fn (PM w) (n + 6) (.ref 358) [.loc wl,.loc nl,.tup [.int i,.tup ta],.tup [.int j,.tup tb]] σ Q Y:=by
 have hta:=Bg0 hi
 have htb:=Bg0 hj
 have hla:=H.len _ hta
 have hlb:=H.len _ htb
 have key:∀ {v:Nat},v=min (asked a.A1 ta).1 (asked a.A1 tb).1->v < 3->a.A1[v]?=some (a.A1.getD v 0):=fun _ hv=>by
   rw [Bj9,Bf1 (by exact r46 ‹_› ‹_›)]; rfl
 generalize hv:min (asked a.A1 ta).1 (asked a.A1 tb).1=v at key
 have key:=key rfl
 generalize a.A1.getD v 0=top at key
 have Ajr:∀ {r:List V},whole (szs a.A1) r∈T->Am (Ap (T.map V.tup)) (.tup (whole a.cells.length r))=some (.int (numOf a.A1 T r:Nat)):=fun {r} hr=>by
   rw [hc,Ab6,if_pos (Bi8 hr),idx_map (f:=V.tup) fun x _ e=>by cases (e); rfl]; rfl
 have Akp:∀ {r:List V},whole (szs a.A1) r∈T->V.keys (whole a.cells.length r)=true/\V.Be (whole a.cells.length r)<=7:=fun {r} hr=>by
   rw [hc]; have:=Agg (H.val _ hr); exact ⟨this.1,by rw [this.2]; lia⟩
 refine Arq (v:=v) (top:=top) (ps:=Ac9 ((Ak5 a.A1 T ta i v top).map pI) ((Ak5 a.A1 T tb j v top).map pI)) hw hnu h3 Ba hla hlb hs (fun x hx=>(H.val _ hta x hx).flat) (fun x hx=>(H.val _ htb x hx).flat) (fun q=>key q) hv.symm (fun q Q' Y' hQ'=>?_) (fun hn q=>?_) (by lia) (fun he=>?_) hq
 · have hk:=key q
   obtain ⟨ra1,ra2,ra3⟩:=Afe H hi hk (by exact r12 ‹_›)
   obtain ⟨rb1,rb2,rb3⟩:=Afe H hj hk (by exact r11 ‹_›)
   obtain ⟨ha,aa,p1,p2,p3,p4,p5⟩:=Aas a.A1 T ta
   obtain ⟨hb,ab,q1,q2,q3,q4,q5⟩:=Aas a.A1 T tb
   have htl:top<=10:=Ba _ (Bg0 hk)
   have sideV:∀ {t:List V} {k:Nat} {hd x:V},T[k]?=some t->v<=(asked a.A1 t).1->(((asked a.A1 t).1=a.A1.length/\hd=.str "leaf"/\x=((asked a.A1 t).2.headD []).headD .none)∨((asked a.A1 t).1≠a.A1.length/\hd=.int (asked a.A1 t).1/\x=.tup ((Bh (asked a.A1 t).2).map fun x=>Ad4 (x.1,numOf a.A1 T x.2)))) ->
       (if hd=.int v then x else .tup [.tup [.int top,.int k]])=.tup (((Ak5 a.A1 T t k v top).map pI).map Au)/\((Ak5 a.A1 T t k v top).map pI).length<=100:=fun {t k hd x} hk' hle hx=>by
     unfold Ak5
     rcases hx with ⟨e1,e2,e3⟩ | ⟨e1,e2,e3⟩
     · rw [e2,if_neg (by simp),if_neg (by lia)]; exact ⟨rfl,by simp⟩
     · by_cases z:(asked a.A1 t).1=v
       · rw [e2,if_pos (by rw [z]),if_pos z,e3]
         refine ⟨by rw [Bi7,Bi7]; rfl,?_⟩
         have:=Ag1 (rs:=(asked a.A1 t).2)
         have:=(Aam (t:=t) Ba).1
         simp only [Bf0]; lia
       · rw [e2,if_neg (by simp only [V.int.injEq]; lia),if_neg z]; exact ⟨rfl,by simp⟩
   obtain ⟨sa1,sa2⟩:=sideV hi (by exact r12 ‹_›) p5
   obtain ⟨sb1,sb2⟩:=sideV hj (by exact r11 ‹_›) q5
   have hil:=(Bf8.mp hi).1
   have hjl:=(Bf8.mp hj).1
   refine Ast (D:=An a.A1 T) hD (by rw [Abo hi,p1]) (by rw [Abo hj,q1]) (by exact Bh0 hil (Be8 hl (by decide))) (by exact Bh0 hjl (Be8 hl (by decide))) p2 p3 q2 q3 p4 q4 hv.symm hk (by lia) (by lia) sa1 sb1 (by have:=Aix ra1; simpa using this) (by have:=Aix rb1; simpa using this) sa2 sb2 hQ'
 · have hk:=key q
   obtain ⟨ra1,ra2,ra3⟩:=Afe H hi hk (by exact r12 ‹_›)
   obtain ⟨rb1,rb2,rb3⟩:=Afe H hj hk (by exact r11 ‹_›)
   obtain ⟨ca1,ca2,ca3,_⟩:=Ag8 hla hk (by exact r12 ‹_›)
   obtain ⟨cb1,cb2,cb3,_⟩:=Ag8 hlb hk (by exact r11 ‹_›)
   have Bdf:rowsOf (ta.take (szs (a.A1.drop v))) top≠rowsOf (tb.take (szs (a.A1.drop v))) top:=fun e=>hn (by rw [<- ca3,<- cb3,e])
   have hum:=Abi _ _ 0 ra1 rb1
   rw [ra2,rb2] at hum
   generalize rowsOf (ta.take (szs (a.A1.drop v))) top=Ra at *
   generalize rowsOf (tb.take (szs (a.A1.drop v))) top=Rb at *
   have Bc5:∀ {k:Nat} {x y:List V},Ra[k]?=some x->Rb[k]?=some y->numOf a.A1 T x=numOf a.A1 T y->x=y:=fun {k x y} hx hy e=>by
     have mx:=Bg0 hx
     have my:=Bg0 hy
     exact Ale (ra3 x mx) (rb3 y my) (by rw [ca2 x mx]; exact Al ..) (by rw [ca2 x mx,cb2 y my]) e
   obtain ⟨l,x,y,f1,f2,f3,f4,f5⟩:=Aen (k:=0) (A:=Ra.map (numOf a.A1 T)) (B:=Rb.map (numOf a.A1 T)) (by simp [ca1,cb1]) (fun e=>Bdf (by
     apply Bt9 (by rw [ca1,cb1])
     intro k k1 k2
     refine Bc5 (Bf1 k1) (Bf1 k2) ?_
     have:=congrArg (fun l=>l[k]?) e
     simpa [Bf9,Bf1 k1,Bf1 k2] using this))
   rw [Bf9] at f1 f2
   obtain ⟨ra,g1,rfl⟩:=Bn7.mp f1
   obtain ⟨rb,g2,rfl⟩:=Bn7.mp f2
   have m1:=Bg0 g1
   have m2:=Bg0 g2
   have hll:l < top + 1:=by rw [<- ca1]; exact (Bf8.mp g1).1
   have k1:=Akp (ra3 ra m1)
   have k2:=Akp (rb3 rb m2)
   have z1:=ca2 ra m1
   have z2:=cb2 rb m2
   have zp:=Ah (a.A1.drop (v + 1))
   have zl:=Cb0 (Ah a.A1) (Al a.A1 (v + 1))
   refine ⟨l,_,_,ra,rb,by lia,?_,g1,g2,Ajr (ra3 ra m1),Ajr (rb3 rb m2),k1.1,k1.2,k2.1,k2.2,?_,?_,by lia,by lia,?_⟩
   · refine Aoo hll ?_ fun j hj=>?_
     · rw [g1,g2]; simp only [ne_eq,Bs3,decide_eq_true_eq]
       exact fun e=>f3 (by rw [e])
     · have:=f4 j hj
       have j1:j < Ra.length:=by rw [ca1]; exact Bj4 hj hll
       have j2:j < Rb.length:=by rw [cb1]; exact Bj4 hj hll
       rw [Bf9,Bf9,Bf1 j1,Bf1 j2] at this
       simp only [Bl6,Bs3] at this
       have e:=Bc5 (Bf1 j1) (Bf1 j2) this
       rw [Bf1 j1,Bf1 j2,e]; simp
   · rintro rfl; simp at z1; lia
   · rintro rfl; simp at z2; lia
   · have h5:=hum.trans f5
     simpa using h5
 · subst he
   by_cases q:v < 3
   · have hk:=key q
     obtain ⟨ra1,ra2,ra3⟩:=Afe H hi hk (by exact r11 ‹_›)
     obtain ⟨rb1,rb2,rb3⟩:=Afe H hj hk (by exact r11 ‹_›)
     have hum:=Abi _ _ 0 ra1 rb1
     rw [ra2,rb2] at hum
     rw [Aei] at hum
     simpa using hum
   · have hij:i=j:=by rw [<- Aci H.nd hi,<- Aci H.nd hj]
     subst hij
     have:∀ (A:List (Int × Nat)) (k:Int),unlike k (Ac9 A A)=none:=by
       intro A
       induction A with
       | nil=>intro k; rw [Adm (.inl rfl)]; rfl
       | cons a r ih=>intro k; obtain ⟨x,y⟩:=a; rw [Abu,if_pos rfl,Aiy,if_neg (by simp)]; exact ih _
     exact this _ _
end
section
variable {P:Pm} {n:Nat} {fx:Fx} {σ:Sto} {m:A8} {X:Xt}
theorem Az8 {β:Type} {elt target iter ifs scope pos Q} (l:Addr) (xs:List β) (f:β->V) (G:β->Option V) (ok:Adz scope fx.sc=true)
  (h:Ev P n fx iter σ m (fun v σ1=>v=.loc l/\σ1 l=some (.list (xs.map f))/\σ1=σ) X) (hl:xs.length<=100000)
  (hgo:(∃ elts k pos,target=.Tuple elts k pos)∨((∀ it v,Bl5 target it v=pure ())/\false=false))
  (Ax:∀ acc,σ acc=none->∀ x∈xs,∀ vs,Bd P n ⟨Am0 scope fx.sc,true⟩ target (f x) (σ.put acc (.list vs)) (Al7 scope m) (fun σ2 m1=>Al5 (Al7 scope m) m1/\Ts P n ⟨Am0 scope fx.sc,true⟩ ifs σ2 m1 (fun b σ3=>if b then
   Ev P n ⟨Am0 scope fx.sc,true⟩ elt σ3 m1 (fun v σ4=>G x=some v/\Sub (σ.put acc (.list vs)) σ4) noX
   else G x=none/\Sub (σ.put acc (.list vs)) σ3)) noX) (hq:Q (.lst (xs.filterMap G)) σ)
  (hs:∀ env x,Bo7 iter env x=pure x):Ev P n fx (.ListComp elt [⟨target,iter,ifs,0⟩] scope pos) σ m Q X:=by
 refine Amw (en:=false) (src:=some (l,xs.map f)) ok (Atp (Ag h fun v σ1 ⟨e1,e2,e3⟩=>⟨e1,e2,?_⟩)) hs
 subst e3
 intro acc B1
 refine An5 xs f G rfl (fun ll all e=>?_) hgo hl ⟨_,Sto.A0 ..,by rw [Sto.Abn B1]; exact hq⟩ (Ax acc B1)
 cases e
 exact ⟨e2,by rintro rfl; rw [B1] at e2; cases e2⟩
theorem Bbz {c σ m} {β:Type} {elt t it ifs scope pos Q} (l:Addr) (xs:List β) (f:β->V) (G:β->Option V) (ok:(Adz scope c.fx.sc && (goT t false && (Aox t).all fun x=>scope.names.lookup x != some .free))=true)
  (hit:wE c it σ m fun v σ1=>v=.loc l/\σ1=σ) (hx:σ l=some (.list (xs.map f))) (hl:xs.length<=100000) (hq:Q (.lst (xs.filterMap G)) σ)
  (Ax:∀ acc,σ acc=none->∀ x∈xs,∀ vs K1 K0,(∀ v,G x=some v->K1 v (σ.put acc (.list vs)))->(G x=none->K0 (σ.put acc (.list vs)))->wBd (c.inC scope) t (f x) (cm scope m) (wIf (c.inC scope) elt ifs (σ.put acc (.list vs)) K1 K0))
  (hs:∀ env x,Bo7 it env x=pure x:=by intro _ _; rfl):Ev c.P c.n c.fx (.ListComp elt [⟨t,it,ifs,0⟩] scope pos) σ (vof m) Q c.X:=by
 rw [Bg1,Bg1] at ok
 refine Az8 l xs f G ok.1 (Ag ((Ace c 40).1 _ _ _ _ hit) fun v σ1 q=>⟨q.1,by rw [q.2]; exact hx,q.2⟩) hl (Aij ok.2.1) (fun acc B1 x hxm vs=>?_) hq hs
 rw [Adb]
 exact Aqg ok.2.2 (Ax acc B1 x hxm vs (fun v σ'=>G x=some v/\Sub (σ.put acc (.list vs)) σ') (fun σ'=>G x=none/\Sub (σ.put acc (.list vs)) σ') (fun v a=>⟨a,Sub.refl _⟩) fun a=>⟨a,Sub.refl _⟩)
end
noncomputable def Pw {β:Type} (R:β->V->Prop):List β->List V->Prop
 | [],[]=>True
 | x :: l,v :: vs=>R x v/\Pw R l vs
 | _,_=>False
theorem Aqv {β:Type} {R:β->V->Prop}:∀ {l:List β} {vs:List V} {x:β} {v:V},Pw R l vs->R x v->Pw R (l ++ [x]) (vs ++ [v])
 | [],[],x,v,h,k=>⟨k,trivial⟩
 | [],_ :: _,x,v,h,k=>h.elim
 | _ :: _,[],x,v,h,k=>h.elim
 | y :: l,u :: vs,x,v,h,k=>⟨h.1,Aqv h.2 k⟩
theorem Auh {β:Type} {R:β->V->Prop}:∀ {l:List β} {vs:List V},Pw R l vs->vs.length=l.length
 | [],[],h=>rfl
 | [],_ :: _,h=>h.elim
 | _ :: _,[],h=>h.elim
 | y :: l,u :: vs,h=>by simp [Auh h.2]
theorem An1 {β γ:Type} {R} (f:β->γ->V) (S:β->γ->Prop):∀ {l vs},Pw R l vs->(∀ x∈l,∀ v,R x v->∃ y,v=f x y/\S x y)->∃ ys:List (β × γ),ys.map (·.1)=l/\vs=ys.map (fun p=>f p.1 p.2)/\∀ p∈ys,S p.1 p.2
 | [],[],h,_=>⟨[],rfl,rfl,by simp⟩
 | [],_ :: _,h,_=>h.elim
 | _ :: _,[],h,_=>h.elim
 | y :: l,u :: vs,h,k=>by
  obtain ⟨z,rfl,hz⟩:=k y (.head _) u h.1
  obtain ⟨ys,e1,e2,e3⟩:=An1 f S h.2 fun x hx=>k x (.tail _ hx)
  exact ⟨(y,z) :: ys,by simp [e1],by simp [e2],fun p hp=>by
   rcases Bi0.mp hp with rfl | hp
   · exact hz
   · exact e3 p hp⟩
theorem Ahd {ts t d} (h:t.length=szs ts) (hle:d<=(asked ts t).1):(t.take (szs (ts.drop d))).length=szs (ts.drop d)/\whole (szs ts) (t.take (szs (ts.drop d)))=t:=by
 have hF:=Aaa h
 have hF0:0 < (asked ts t).2.flatten.length:=by rw [hF]; exact Ah _
 have hdd:(ts.drop d).drop ((asked ts t).1 - d)=ts.drop (asked ts t).1:=by rw [Cc5]; congr 1; exact Bm1 hle
 have hdv:(asked ts t).2.flatten.length ∣ szs (ts.drop d):=by rw [hF,<- hdd]; exact Al ..
 have hwl:(whole (szs (ts.drop d)) (asked ts t).2.flatten).length=szs (ts.drop d):=Ab8 hdv
 have hww:whole (szs ts) (whole (szs (ts.drop d)) (asked ts t).2.flatten)=t:=by
  refine Eq.trans ?_ (Aay h)
  obtain ⟨m,hm⟩:=hdv
  obtain ⟨k,hk⟩:=Al ts d
  have hM:=Ah (ts.drop d)
  rw [Aai (szs ts),hwl,Aai (szs (ts.drop d)),Aai (szs ts),Aj2,hk,Bj7 _ hM,hm,Bj7 _ hF0,Ce5,Bj7 _ hF0,Br7]
 have htk:t.take (szs (ts.drop d))=whole (szs (ts.drop d)) (asked ts t).2.flatten:=by
  have:=Ai2 (N:=szs ts) (w:=whole (szs (ts.drop d)) (asked ts t).2.flatten) (by rw [hwl]; exact Al ..) (Ah _)
  rw [hww,hwl] at this; exact this
 rw [htk]; exact ⟨hwl,hww⟩
theorem Afm {α β:Type} (f:α->β) {e}:∀ {l low},As e low (l.map fun x=>(x.1,f x.2))->As e low l
 | [],_,h=>h
 | p :: r,low,h=>⟨h.1,h.2.1,Afm f h.2.2⟩
theorem Ah9:∀ (l:List V) (k:Nat),Ahj k l=(Bi1 l.length).map fun i=>.tup [.int ((k + i:Nat):Int),l.getD i .none]
 | [],k=>rfl
 | a :: l,k=>by
  rw [Avz,Ah9 l,Bh5,By9,Bh1,Bi7]
  congr 1
  refine Bj6 fun i _=>?_
  simp only [Bt2,List.getD_cons_succ]
  rw [show k + 1 + i=k + Nat.succ i by lia]
theorem An0 {v}:∀ {l},(Avw l v)[0]?=(l.find? fun p=>decide (v<=p.1)).map (·.2)
 | []=>rfl
 | p :: l=>by
  have ih:=An0 (v:=v) (l:=l)
  unfold Avw at ih ⊢
  rw [Bq4,Bk3]
  by_cases q:v<=p.1
  · simp [q]
  · simp [q,ih]
theorem Ais {α:Type} {x:α}:∀ {l:List (Nat × α)} {low:Nat},x∈Aq low l->∃ p∈l,p.2=x
 | [],_,h=>by cases h
 | p :: r,low,h=>by
  rw [Aq] at h
  rcases Bh9.mp h with h | h
  · exact ⟨p,.head _,(Bo1 h).symm⟩
  · obtain ⟨q,hq,e⟩:=Ais h
    exact ⟨q,.tail _ hq,e⟩
theorem Atm {ts:List Nat} {T:List (List V)} (H:Bc ts T) {v top:Nat} (hv:ts[v]?=some top) {ps:List (Nat × List V)} (hr:As (top + 1) 0 ps) (hm:∀ p∈ps,p.2∈T/\v < (asked ts p.2).1) :
   ∃ S:List (List V),S.length=top + 1/\(∀ s∈S,s.length=szs (ts.drop (v + 1)))/\(∀ s∈S,whole (szs ts) s∈T)/\Aq 0 (ps.map fun x=>(x.1,T.idxOf x.2))=S.map (numOf ts T) ∧
    ∀ (k:Nat) (c:List Nat) (x:Nat),(B7 ts)[k]?=some c->c[v]?=some x->∃ t,(ps.find? fun p=>decide (x<=p.1)).map (·.2)=some t/\t∈T/\(whole (szs ts) S.flatten)[k]?=t[k]?:=by
 have hE:∀ t∈Aq 0 ps,t∈T/\v < (asked ts t).1:=fun t ht=>by
   obtain ⟨p,hp,rfl⟩:=Ais ht; exact hm p hp
 have hck:∀ t∈Aq 0 ps,(t.take (szs (ts.drop (v + 1)))).length=szs (ts.drop (v + 1))/\whole (szs ts) (t.take (szs (ts.drop (v + 1))))=t:=fun t ht=>Ahd (H.len t (hE t ht).1) (hE t ht).2
 have hl:=Adh hr
 refine ⟨(Aq 0 ps).map fun t=>t.take (szs (ts.drop (v + 1))),by rw [Bf0,hl]; lia,fun s hs=>?_,fun s hs=>?_,?_,fun k c x hc hx=>?_⟩
 · obtain ⟨t,ht,rfl⟩:=Bh3.mp hs; exact (hck t ht).1
 · obtain ⟨t,ht,rfl⟩:=Bh3.mp hs
   rw [(hck t ht).2]; exact (hE t ht).1
 · rw [Adg (fun t=>T.idxOf t),Bi7]
   refine Bj6 fun t ht=>?_
   simp only [Bt2,numOf]
   rw [(hck t ht).2]
 · have hxt:x<=top:=(Acj (Bg0 hc)).2 v x top hx hv
   obtain ⟨t,ht⟩:∃ t,(Aq 0 ps)[x]?=some t:=⟨_,Bf1 (by rw [hl]; lia)⟩
   have hg:=Ajj (x:=x) hr (Bh2 _)
   rw [Nat.sub_zero,ht] at hg
   have htm:=Bg0 ht
   refine ⟨t,hg.symm,(hE t htm).1,?_⟩
   rw [Aqk hv (by rw [Bf0,hl]; lia) (fun s hs=>by obtain ⟨t,ht,rfl⟩:=Bh3.mp hs; exact (hck t ht).1) hc hx (by rw [Bf9,ht]; rfl),(hck t htm).2]
theorem Aj8 {top}:∀ {pp lo},pp≠[]->(Agt top lo pp ↔ (∀ h,(pp.map (·.1)).head?=some h->lo < h)/\(pp.map (·.1)).getLast?=some top/\∀ k,k + 1 < pp.length->(pp.map (·.1)).getD k 0 < (pp.map (·.1)).getD (k + 1) 0)
 | [],lo,h=>absurd rfl h
 | [p],lo,_=>by
  show (lo < p.1/\p.1<=top/\p.1=top) ↔ _
  simp
  lia
 | p :: q :: r,lo,_=>by
  show (lo < p.1/\p.1<=top/\Agt top p.1 (q :: r)) ↔ _
  constructor
  · rintro ⟨h1,h2,h3⟩
    obtain ⟨a1,a2,a3⟩:=(Aj8 (by simp)).mp h3
    refine ⟨by simpa using h1,by simpa using a2,fun k hk=>?_⟩
    cases k with
    | zero=>simpa using a1 q.1 (by simp)
    | succ k=>simpa using a3 k (by simpa using hk)
  · rintro ⟨h1,h2,h3⟩
    have h4:Agt top p.1 (q :: r):=(Aj8 (by simp)).mpr ⟨fun h hh=>by
     have:=h3 0 (by simp)
     simp at hh this; lia,by simpa using h2,fun k hk=>by simpa using h3 (k + 1) (by simpa using hk)⟩
    exact ⟨by simpa using h1,h4.le,h4⟩
section
variable {P:Pm} {n:Nat} {fx:Fx} {σ:Sto} {m:A8} {X:Xt}
theorem Aqd {i k Q} (hi:k=i.toNat) (h:Q (Ai0 0 k) σ) (h1:-1000000<=i) (h2:i<=1000000):BtI P n false (.type "range") [.int i] σ Q:=
 fun A st B g env m s vals hr hv hm=>by
  cases hv with
  | cons hv t=>
   cases t; cases hv
   refine call_range_1 ?_
   refine Cm1 (Cq2 ..) (small_one (by exact r30) (by exact r30) (by lia) (by lia)) ?_
   have e:Cb2 0 i 1=(k:Int):=by rw [rangeSize_one]; split <;> lia
   exact Aha hr (by rw [e]; exact Bi4 _ rfl) h
theorem Axn {β:Type} {elt target iter:Expr} {scope:Scope} {pos:Pos} {acc pa:Addr} {Q:Sto->Prop} (σp:List Int->Sto) (l:List β) (f:β->V) (R:β->V->Prop) {ns:List Int} (hns:ns.length<=66)
   (hgo:(∃ elts k pos,target=.Tuple elts k pos)∨((∀ it v,Bl5 target it v=pure ())/\false=false)) (hl:l.length<=1000)
   (Aj0:∀ vs ms,Pw R l vs->ms.length<=66->Q ((σp ms).put acc (.list vs)))
   (Ax:∀ x∈l,∀ vs ms,ms.length<=66->Bd P n fx target (f x) ((σp ms).put acc (.list vs)) m (fun σ1 m1=>Al5 m m1/\Ts P n fx [] σ1 m1 (fun b σ2=>b=true ∧
      Ev P n fx elt σ2 m1 (fun v σ3=>R x v/\∃ ms',ms'.length<=66/\Sub ((σp ms').put acc (.list vs)) σ3) noX)) noX) :
   Cl P n fx false (.ListComp elt [⟨target,iter,[],0⟩] scope pos) 0 acc (l.map f) ((σp ns).put acc (.list [])) m Q:=by
 refine Aql (src:=none) (α:=List Int) (c:=⟨target,iter,[],0⟩) (τ:=σp) (I:=fun r vs ms=>ms.length<=66/\∃ d e,l=d ++ e/\r=e.map f/\Pw R d vs) rfl (fun _ _ _ e=>nomatch e) hgo ?_ ?_ (l.map f) [] ns ⟨hns,[],l,rfl,rfl,trivial⟩
 · rintro vs ms ⟨h0,d,e,e1,e2,e3⟩
   have:e=[]:=by cases e with | nil=>rfl | cons=>simp at e2
   subst this
   rw [Bh6] at e1
   subst e1
   exact Aj0 vs ms e3 h0
 · rintro x r vs ms ⟨h0,d,e,e1,e2,e3⟩
   cases e with
   | nil=>simp at e2
   | cons y e=>
   simp only [Bh1,Bn1] at e2
   obtain ⟨rfl,rfl⟩:=e2
   refine ⟨?_,?_⟩
   · rw [Auh e3]; have:=congrArg Bp6 e1; simp at this; exact Be8 (Be8 (Bg9 ..) (this ▸ hl)) (by decide)
   · refine fun A st B g env s v he hr hm hv=>Bf3 (Ax y (by rw [e1]; simp) vs ms h0 A st B g env s v he hr hm hv) (fun _ s' qM=>?_) fun _ _ x=>x
     obtain ⟨g',σ',m',hg,hr',hk,hq⟩:=qM
     refine ⟨g',σ',m',hg,hr',hk,?_⟩
     refine JS.mono hq (fun b σ'' m'' qM=>?_) fun _ _ _ x=>x
     obtain ⟨e1',hh⟩:=qM
     refine ⟨e1',?_⟩
     obtain ⟨rfl,hh⟩:=hh
     simp only [if_true]
     exact Ag hh fun v σ3 qD=>by obtain ⟨h1,ms',h2,h3⟩:=qD; exact ⟨ms',⟨h2,d ++ [y],e,by simp [e1],rfl,Aqv e3 h1⟩,h3⟩
theorem Aq4 {c:Cf} {m:Vs} {β:Type} {elt t it:Expr} {scope:Scope} {pos:Pos} {Q:V->Sto->Prop} (σp:List Int->Sto) (l:List β) (f:β->V) (R:β->V->Prop) {ns:List Int} (hgo:(goT t false && (Aox t).all fun x=>scope.names.lookup x != some .free)=true) (hns:ns.length<=66) (hl:l.length<=1000)
  (hn:∀ ms acc,σp ns acc=none->σp ms acc=none) (Aj0:∀ vs ms,Pw R l vs->ms.length<=66->Q (.lst vs) (σp ms))
  (Ax:∀ acc,σp ns acc=none->∀ x∈l,∀ vs ms (K:V->Sto->Prop),ms.length<=66->(∀ v ms',R x v->ms'.length<=66->K v ((σp ms').put acc (.list vs)))->wBd (c.inC scope) t (f x) (cm scope m) fun m1=>wE (c.inC scope) elt ((σp ms).put acc (.list vs)) m1 K) :
  Lcm c elt t it [] scope pos m Q false (l.map f) (σp ns):=by
 rw [Bg1] at hgo
 intro acc B1
 refine Axn (pa:=acc) σp l f R hns (Aij hgo.1) hl (fun vs ms h1 h2=>⟨vs,Sto.A0 ..,by rw [Sto.Abn (hn ms acc B1)]; exact Aj0 vs ms h1 h2⟩) fun x hx vs ms hms=>?_
 rw [Adb]
 have h:=Ax acc B1 x hx vs ms (fun v σ3=>R x v/\∃ ms',ms'.length<=66/\Sub ((σp ms').put acc (.list vs)) σ3) hms fun v ms' a b=>⟨a,ms',b,Sub.refl _⟩
 unfold wBd at h
 cases hb:bdT (c.inC scope).fx.sc t (f x) (cm scope m) with
 | none=>rw [hb] at h; exact h.elim
 | some m1=>
  rw [hb] at h
  refine Ahy (c:=c.inC scope) (F:=fun m'=>m'=m1) (by unfold wBd; rw [hb]) fun m' e=>?_
  subst e
  refine ⟨fun y v e=>?_,Amf ⟨rfl,(Ace (c.inC scope) 40).1 _ _ _ _ h⟩⟩
  rw [Aj1 hb]; exact e
  intro hy
  have:=Bj8.mp hgo.2 y hy
  rw [Aqo e] at this
  cases this
end
section
variable {w:World} {n:Nat} {σ:Sto} {Q:V->Sto->Prop} {Y:Str->Sto->Prop}
noncomputable def Av (T:List (List V)) (t:List V):V:=.tup [.int (T.idxOf t:Nat),.tup t]
noncomputable def Aj (σ:Sto) (a:Wo) (pa na:Addr) (T nd:List (List V)) (ns:List Int):Sto:=((Aho σ a.dn a.db (An a.A1 T)).put na (.list (nd.map (Av T)))).put pa (B0 ns)
structure LawW (σ:Sto) (a:Wo) (wl pa na:Addr):Prop where
 hw:σ wl=some (.A5 a.es)
 h3:a.A1.length=3
 Ba:∀ p∈a.A1,1<=p/\p<=2
 hc:a.cells=(B7 a.A1).map Aj6
 n1:pa≠na
 n2:pa≠a.dn
 n3:pa≠a.db
 n4:na≠a.dn
 n5:na≠a.db
 n6:a.dn≠a.db
 w1:wl≠pa
 w2:wl≠na
 w3:wl≠a.dn
 w4:wl≠a.db
structure Axk (a:Wo) (T nd:List (List V)):Prop where
 H:Bc a.A1 T
 sub:∀ t∈nd,t∈T
 lf:∃ t∈nd,(asked a.A1 t).1=3
section
variable {a:Wo} {wl pa na:Addr} {T nd:List (List V)} {ns:List Int}
theorem LawW.pen (L:LawW σ a wl pa na):Aj σ a pa na T nd ns pa=some (B0 ns):=Sto.A0 ..
theorem LawW.nod (L:LawW σ a wl pa na):Aj σ a pa na T nd ns na=some (.list (nd.map (Av T))):=by
 unfold Aj; rw [Sto.A4 _ _ L.n1.symm,Sto.A0]
theorem LawW.dn (L:LawW σ a wl pa na):Aj σ a pa na T nd ns a.dn=some (.list (An a.A1 T)):=by
 unfold Aj Aho; rw [Sto.A4 _ _ L.n2.symm,Sto.A4 _ _ L.n4.symm,Sto.A0]
theorem LawW.db (L:LawW σ a wl pa na):Aj σ a pa na T nd ns a.db=some (.Ad (Ap (An a.A1 T))):=by
 unfold Aj Aho; rw [Sto.A4 _ _ L.n3.symm,Sto.A4 _ _ L.n5.symm,Sto.A4 _ _ L.n6.symm,Sto.A0]
theorem LawW.wld (L:LawW σ a wl pa na):Aj σ a pa na T nd ns wl=some (.A5 a.es):=by
 unfold Aj Aho; rw [Sto.A4 _ _ L.w1,Sto.A4 _ _ L.w2,Sto.A4 _ _ L.w3,Sto.A4 _ _ L.w4]; exact L.hw
theorem Aau {ms}:(Aj σ a pa na T nd ns).put pa (B0 ms)=Aj σ a pa na T nd ms:=by unfold Aj; rw [Sto.A9]
theorem LawW.Aho (L:LawW σ a wl pa na) {T'}:Aho (Aj σ a pa na T nd ns) a.dn a.db (An a.A1 T')=((Aho σ a.dn a.db (An a.A1 T')).put na (.list (nd.map (Av T)))).put pa (B0 ns):=by
 unfold Mine.Internal.Aho Aj Mine.Internal.Aho
 funext b
 simp only [Sto.put]
 have:=L.n1; have:=L.n2; have:=L.n3; have:=L.n4; have:=L.n5; have:=L.n6
 by_cases b1:b=a.dn
 · subst b1; simp [L.n2.symm,L.n4.symm]
 by_cases b2:b=a.db
 · subst b2; simp [b1,L.n3.symm,L.n5.symm]
 simp [b1,b2]
theorem LawW.szs (L:LawW σ a wl pa na):Mine.Internal.szs a.A1<=27/\a.cells.length=Mine.Internal.szs a.A1:=by
 refine ⟨?_,by rw [L.hc,Bf0,Ac2]⟩
 obtain ⟨x,y,z,e⟩:∃ x y z,a.A1=[x,y,z]:=by
  exact Ajq (C:=fun l=>∃ x y z,l=[x,y,z]) (fun x y z=>⟨x,y,z,rfl⟩) a.A1 L.h3
 have h1:=(L.Ba x (by rw [e]; exact .head _)).2
 have h2:=(L.Ba y (by rw [e]; exact .tail _ (.head _))).2
 have h3:=(L.Ba z (by rw [e]; exact .tail _ (.tail _ (.head _)))).2
 rw [e]
 exact Ci2 (Bg4 h1) (Ci2 (Bg4 h2) (Ci2 (Bg4 h3) (Bh7 1)))
theorem Arf {u t} (h:t∈T):Av (B6 T u) t=Av T t:=by unfold Av; rw [Asm h]
theorem Ah7 {u} (h:∀ t∈nd,t∈T):nd.map (Av (B6 T u))=nd.map (Av T):=Bj6 fun t ht=>Arf (h t ht)
end
end
theorem nne {σ:Sto} {a b:Addr} {o:O} (h:σ a=some o) (k:σ b=none):a≠b:=A7 h k
theorem Adv {σ a pa na T nd ns} (ms:List Int) (b:Addr) (h:Aj σ a pa na T nd ns b=none):Aj σ a pa na T nd ms b=none:=by
 unfold Aj at h ⊢
 have n:b≠pa:=by rintro rfl; rw [Sto.A0] at h; cases h
 rw [Sto.A4 _ _ n] at h ⊢
 exact h
theorem Aiw {α:Type} {l:List α} {p:α->Prop} [DecidablePred p] {f:α->V}:l.filterMap (fun k=>if p k then some (f k) else none)=(l.filter fun k=>decide (p k)).map f:=by
 induction l with
 | nil=>rfl
 | cons a l ih=>
  rw [Bq4,Cl7]
  by_cases h:p a
  · rw [if_pos h,decide_eq_true h,if_pos rfl,Bh1,ih]
  · rw [if_neg h,decide_eq_false h,if_neg Bg6,ih]
section
variable {w:World} {n:Nat} {σ:Sto} {Q:V->Sto->Prop} {Y:Str->Sto->Prop} {a:Wo} {wl pa na:Addr} {T nd:List (List V)} {ns:List Int}
theorem Av4 {v:Nat} {r:Bool} (L:LawW σ a wl pa na) (G:Axk a T nd) (hv:v < 3) (hTl:T.length<=20) (Ant:nd.length<=20) (hns:ns.length<=66)
   (hq:∀ T' nd' ms,Axk a T' nd'->T'.length<=T.length + 1->nd'.length<=nd.length + 1->ms.length<=66->Q (.bool true) (Aj σ a pa na T' nd' ms)) :
   Fn (PM w) (n + 6) (.ref 338) [.loc wl,.loc na,.int v,.loc pa,.bool r] (Aj σ a pa na T nd ns) Q Y:=by
 have L1:=L.pen (T:=T) (nd:=nd) (ns:=ns)
 have L2:=L.nod (T:=T) (nd:=nd) (ns:=ns)
 have L5:=L.wld (T:=T) (nd:=nd) (ns:=ns)
 have Acx:∀ p∈a.A1,p<=10:=fun p hp=>by have:=L.Ba p hp; lia
 obtain ⟨Amk,hcl⟩:=L.szs
 obtain ⟨top,Ba⟩:∃ top,a.A1[v]?=some top:=⟨_,Bf1 (by rw [L.h3]; exact hv)⟩
 obtain ⟨ht1,ht2⟩:=L.Ba top (Bg0 Ba)
 have hv':v < 1000000:=Bj4 hv (by decide)
 have hpa:∀ ms,Aj σ a pa na T nd ms pa=some (B0 ms):=fun ms=>L.pen
 have r1:n + 1<=n + 5:=Bf4 (by decide) n
 refine B8 rfl rfl (Bac fun _ _ _ _ _=>rfl) rfl fun R' Y' hR' hY hRs hYs=>Ac L5 rfl (Ab (k:=v) (.val _) (by rw [tupI,Bf9,Ba]; rfl) ?_ hv')
 refine Bbz na nd (Av T) (fun t=>if v < (asked a.A1 t).1 then some (Av T t) else none) rfl (And.intro rfl rfl) L2 (Be8 Ant (by decide)) ?_ fun acc B1 t ht vs K1 K0 h1 h0=>?_
 rotate_left
 · have hlt:=G.H.len t (G.sub t ht)
   refine A6 (k:=1) (d:=.tup t) rfl (Fn.room (n:=n + 2) (Ac8 (n:=n) (v:=0) (a:=a) (by rw [Sto.A4 _ _ (nne L5 B1)]; exact L5) L.h3 Acx (Bh2 _) (by rw [hlt]; exact Be8 Amk (by decide)) (fun x hx=>(G.H.val t (G.sub t ht) x hx).flat) ?_) (Bf4 (by decide) n))
   rw [Bk8,Bo9]
   exact A6 (k:=0) rfl (Ahm (dI (fun q=>h1 _ (if_pos (Bn2.mp q))) fun q=>h0 (if_neg fun e=>q (Bn2.mpr e))))
 rw [Aiw]
 have hlm:∀ t∈nd.filter fun t=>decide (v < (asked a.A1 t).1),t∈T/\v < (asked a.A1 t).1:=fun t ht=>by
   rw [Cg2] at ht; exact ⟨G.sub t ht.1,of_decide_eq_true ht.2⟩
 have hln:0 < (nd.filter fun t=>decide (v < (asked a.A1 t).1)).length:=by
   obtain ⟨t,ht,e⟩:=G.lf
   exact List.length_pos_of_mem (Cg2.mpr ⟨ht,by rw [e]; exact decide_eq_true hv⟩)
 have hll:(nd.filter fun t=>decide (v < (asked a.A1 t).1)).length<=20:=Be8 (List.length_filter_le ..) Ant
 revert hlm hln hll; with_reducible refine gz (nd.filter fun t=>decide (v < (asked a.A1 t).1)) fun lat hlm hln hll=>?_
 refine Awl rfl (Aht rfl (Fn.room (n:=n + 1) (Aaz (n:=n) L1 hns (k:=5) (by decide) fun k1 ns1 hk1 Ar4=>?_) r1))
 rw [Aau]
 refine Aac (k:=k1) rfl ?_ (Be8 (Bk5 hk1) (by decide))
 rw [Acl]
 refine Aq4 (fun ms=>Aj σ a pa na T nd ms) (Bi1 k1) _ (fun _ x=>∃ r:Nat,r < top + 3/\x=.int ((r:Int) - 1)) rfl Ar4 (by rw [Bl0]; exact Be8 (Bk5 hk1) (by decide)) (fun ms acc h=>Adv ms acc h) (fun vs ns2 hvs Auo=>?_) fun acc B1 x hx vs ms K hms hK=>?_
 rotate_left
 · have hacc':=nne (hpa _) B1
   refine Fn.room (n:=n + 1) (Aaz (n:=n) (k:=top + 3) (by rw [Sto.A4 _ _ hacc']; exact hpa ms) hms (Bq1 _) fun r1 ms1 hr1 Avg=>?_) r1
   rw [Sto.Ao _ _ _ hacc'.symm,Aau]
   exact hK _ _ ⟨r1,hr1,rfl⟩ Avg
 obtain ⟨hs,hh1,rfl,hh2⟩:=An1 (fun _ (h:Int)=>V.int h) (fun _ h=>-1<=h/\h<=top + 1) hvs (fun x hx v qA=>by obtain ⟨r,hr,e⟩:=qA; exact ⟨_,e,by lia,by lia⟩)
 have hhl:hs.length<=4:=by
   have:=congrArg Bp6 hh1
   rw [Bf0,Bl0] at this
   rw [this]; exact Bw3 hk1
 clear hvs hh1
 obtain ⟨hs,hhl,hh2,e⟩:∃ hs':List Int,hs'.length<=4/\(∀ h∈hs',-1<=h/\h<=top + 1)/\hs.map (fun p=>V.int p.2)=hs'.map .int:=⟨hs.map (·.2),by rw [Bf0]; exact hhl,fun h hm=>by obtain ⟨p,hp,rfl⟩:=Bh3.mp hm; exact hh2 p hp,by rw [Bi7]; rfl⟩
 rw [e]
 refine .mk _ (.bool _) ?_
 refine Asc (α:=List Int) (fun _=>Aj σ a pa na T nd ns2) (fun hs=>[("world",.loc wl),("nodes",.loc na),("variable",.int v),("pen",.loc pa),("top",.int top),("later",.lst (lat.map (Av T))),("highs",.lst (hs.map .int))]) (fun hs=>hs.length<=4/\∀ h∈hs,-1<=h/\h<=top + 1) (fun hK=>?_) ?_
 · cases r with
   | false=>exact hK hs _ _ ⟨hhl,hh2⟩ (Sub.refl _) rfl
   | true=>
     refine Aht rfl (Aac (k:=top) rfl ?_ (Be8 ht2 (by decide)))
     rw [Acl]
     refine Acw _ (fun k:Nat=>if (k:Int)∈hs then some (.int k) else none) (Bi1 top) rfl (by rw [Bl0]; exact Be8 ht2 (by decide)) ?_ fun acc B1 k hk vs K1 K0 h1 h0=>?_
     rotate_left
     · rw [Int.zero_add]
       refine Ahv (.val _) (.val _) (dI (fun q=>h1 _ _ (if_pos ?_) (Sub.refl _)) fun q=>h0 _ (if_neg fun e=>q (Bi8 e)) (Sub.refl _)) rfl (Ae7 _) (Bh2 _)
       obtain ⟨x,hx,e⟩:=Bh3.mp q
       cases e; exact hx
     rw [Ad3]
     have hfl:((Bi1 top).filter fun k:Nat=>decide ((k:Int)∈hs)).length<=top:=Be8 (List.length_filter_le ..) (Bm3 Bl0)
     have hfm:∀ k∈(Bi1 top).filter fun k:Nat=>decide ((k:Int)∈hs),k < top:=fun k hk=>by rw [Cg2] at hk; exact Bk7.mp hk.1
     revert hfl hfm; with_reducible refine gz ((Bi1 top).filter fun k:Nat=>decide ((k:Int)∈hs)) fun fl hfl hfm=>?_
     refine .inr (Ajn (.val _) (.val _) ?_ (by rw [Bf0]; exact Be8 (Bg4 (Be8 hfl ht2)) (by decide)))
     rw [show fl.map (fun k:Nat=>V.int (k:Int)) ++ [V.int (top:Int)]=(fl.map (fun k:Nat=>(k:Int)) ++ [(top:Int)]).map V.int by rw [Bg2,Bi7]; rfl]
     refine hK (fl.map (fun k:Nat=>(k:Int)) ++ [(top:Int)]) _ _ ⟨by rw [Bf2,Bf0]; exact Be8 (Bg4 (Be8 hfl ht2)) (by decide),Aa9 (fun h hm=>?_) (by lia)⟩ (Sub.refl _) rfl
     obtain ⟨k,hk,rfl⟩:=Bh3.mp hm
     have:=hfm k hk; exact ⟨tn (by decide),Bk9.mpr (Bk1 (Bk5 this))⟩
 clear hs e hhl hh2
 rintro hs ⟨hhl,hh2⟩
 refine Awl rfl (Aht rfl ?_)
 refine Aq4 (fun ms=>Aj σ a pa na T nd ms) hs _ (fun h x=>∃ t∈lat,x=.tup [.int h,Av T t]) rfl Auo (Be8 hhl (by decide)) (fun ms acc h=>Adv ms acc h) (fun vs ns3 hvs Azl=>?_) fun acc B1 x hx vs ms K hms hK=>?_
 rotate_left
 · have hacc':=nne (hpa _) B1
   refine Aa1 (ds:=lat.map (Av T)) (.val _) (by rw [Bf0]; exact Be8 hll (by decide)) ?_
   rw [Bf0]
   refine Fn.room (n:=n + 1) (Aaz (n:=n) (k:=lat.length) (by rw [Sto.A4 _ _ hacc']; exact hpa ms) hms hln fun r1 ms1 hr1 Avg=>?_) r1
   rw [Sto.Ao _ _ _ hacc'.symm,Aau]
   obtain ⟨t1,ht1⟩:∃ t1,lat[r1]?=some t1:=⟨_,Bf1 hr1⟩
   exact Ab (k:=r1) (.val _) (by rw [Bf9,ht1]; rfl) (hK _ _ ⟨t1,Bg0 ht1,rfl⟩ Avg) (Bh0 hr1 (Be8 hll (by decide)))
 obtain ⟨ps,hp1,rfl,hp2⟩:=An1 (fun (h:Int) (t:List V)=>.tup [.int h,Av T t]) (fun _ t=>t∈lat) hvs (fun x hx v qB=>by obtain ⟨t,ht,e⟩:=qB; exact ⟨t,e,ht⟩)
 have Axt:ps.length=hs.length:=by rw [<- hp1,Bf0]
 have hpl:ps.length<=4:=Axt ▸ hhl
 have l5:∀ {k},k<=4->k<=100000:=fun h=>Be8 h (by decide)
 refine Axg rfl rfl rfl (Acv _ (fun p:Int × List V=>Au (p.1,T.idxOf p.2)) ps rfl (l5 hpl) ?_ fun acc B1 p hp vs K hK=>A6 (k:=0) rfl (hK _ (Sub.refl _)))
 rw [show ps.map (fun x=>Au (x.1,T.idxOf x.2))=(ps.map fun x=>(x.1,T.idxOf x.2)).map Au by rw [Bi7]; rfl]
 refine Axg rfl rfl rfl (Aa1 (ds:=hs.map V.int) (.val _) (by rw [Bf0]; exact l5 hhl) ?_)
 rw [Bf0]
 refine Aqd (k:=hs.length - 1) (by exact r9) ?_ (by lia) (by lia)
 rw [Acl,show (fun i:Nat=>V.int (0 + (i:Int)))=fun i:Nat=>V.int (i:Int) from funext fun i=>by rw [Int.zero_add]]
 refine Acw _ (fun k:Nat=>if hs.getD (k + 1) 0<=hs.getD k 0 then some (.int k) else none) (Bi1 (hs.length - 1)) rfl (by rw [Bl0]; exact l5 (Be8 (Bx8 ..) hhl)) ?_ fun acc B1 k hk vs K1 K0 h1 h0=>?_
 rotate_left
 · have hk':=Bk7.mp hk
   have hk2:k + 1 < hs.length:=Nat.add_lt_of_lt_sub hk'
   have gk:∀ {i},i < hs.length->(hs.map V.int)[i]?=some (.int (hs.getD i 0)):=fun h=>by rw [Bf9,Bj9,Bf1 h]; rfl
   have kl:k + 1 < 1000000:=Bh0 hk2 (Be8 hhl (by decide))
   exact Ab (k:=k) (d:=.int (hs.getD k 0)) (.val _) (gk (Cd7 hk2)) (Ab (k:=k + 1) (d:=.int (hs.getD (k + 1) 0)) (.val _) (gk hk2) (Bbb (dI (fun q=>h1 _ _ (if_pos q) (Sub.refl _)) fun q=>h0 _ (if_neg q) (Sub.refl _))) kl) (Cd7 kl)
 rw [Ad3]
 have hpp:(ps.map fun x=>(x.1,T.idxOf x.2)).map (·.1)=hs:=by rw [Bi7,<- hp1]; rfl
 have Ax8:((Bi1 (hs.length - 1)).filter fun k=>decide (hs.getD (k + 1) 0<=hs.getD k 0))=[] ↔ ∀ k,k + 1 < hs.length->hs.getD k 0 < hs.getD (k + 1) 0:=by
   rw [List.filter_eq_nil_iff]
   exact ⟨fun h k hk=>Bx9.mp fun q=>h k (Bk7.mpr (Nat.lt_sub_of_add_lt hk)) (decide_eq_true q),fun h k hk q=>Bx9.mpr (h k (Nat.add_lt_of_lt_sub (Bk7.mp hk))) (of_decide_eq_true q)⟩
 revert Ax8; with_reducible refine gz ((Bi1 (hs.length - 1)).filter fun k=>decide (hs.getD (k + 1) 0<=hs.getD k 0)) fun fl Ax8=>?_
 revert hpp; with_reducible refine gze (ps.map fun x:Int × List V=>(x.1,T.idxOf x.2)) fun pp hPP hpp=>?_
 have Azv:pp.length=hs.length:=by rw [<- hpp,Bf0]
 have Apc:Agt top (-1) pp ↔ (hs≠[]/\(∀ h,hs.head?=some h->-1 < h)/\hs.getLast?=some (top:Int)/\fl=[]):=by
   by_cases q:pp=[]
   · subst q
     have:hs=[]:=by rw [<- hpp]; rfl
     subst this
     exact ⟨fun h=>absurd (show (-1:Int)=top from h) (by lia),fun h=>absurd rfl h.1⟩
   · rw [Aj8 q,hpp,Azv,Ax8]
     have:hs≠[]:=by rintro e; rw [e] at Azv; exact q (Br3.mp Azv)
     exact ⟨fun h=>⟨this,h⟩,fun h=>h.2⟩
 obtain ⟨b,hb⟩:∃ b:Bool,(b=false ↔ Agt top (-1) pp):=by
   classical exact ⟨!decide (Agt top (-1) pp),by rw [Bool.not_eq_false',decide_eq_true_iff]⟩
 have hbt:¬ (hs≠[]/\(∀ h,hs.head?=some h->-1 < h)/\hs.getLast?=some (top:Int)/\fl=[])->b=true:=fun h=>by
   cases b with
   | true=>rfl
   | false=>exact absurd (Apc.mp (hb.mp rfl)) h
 refine .inr (Ahk (.val _) (.val _) (orI (b:=b) ?_ (fun q=>hbt fun h=>h.1 (Ci3.mp (V.lst.inj q))) fun q0 hQ=>?_) (Ae7 _) rfl Ajh)
 rotate_left
 · cases hs with
   | nil=>exact absurd rfl q0
   | cons h0 hr=>
     obtain ⟨hl,hhl'⟩:∃ hl,(h0 :: hr).getLast?=some hl:=⟨_,List.getLast?_eq_some_getLast (Bs4 _ _)⟩
     refine Ab (k:=0) (.val _) rfl (Arj (orI hQ (fun q=>hbt fun h=>by have:=h.2.1 h0 rfl; lia) fun q1 hQ=>Acd (d:=.int hl) (.val _) (by rw [Bv9,hhl']; rfl) (Amh (orI hQ (fun q=>hbt fun h=>q (Br1 (hhl'.symm.trans h.2.2.1))) fun q2 hQ=>.inr (Afs (.val _) (.val _) (orN hQ (fun q=>hbt fun h=>q (by rw [h.2.2.2]; rfl)) fun q3 hQ=>?_) (by rw [V.dat]; exact Aeq fun _ _=>rfl) rfl Ajh)))))
     have e:b=false:=hb.mpr (Apc.mpr ⟨Bs4 _ _,fun h e=>by cases e; lia,by rw [hhl',Classical.not_not.mp q2],Ci3.mp (V.lst.inj q3)⟩)
     subst e
     exact hQ
 clear hbt Apc
 have hDl:(An a.A1 T).length=T.length:=by rw [An,Bf0]
 have hDl':(An a.A1 T).length<=1000:=by rw [hDl]; exact Be8 hTl (by decide)
 have Aom:v < 100:=Bj4 hv (by decide)
 cases b with
 | true=>
   have hR:¬ Agt top (-1) pp:=fun h=>nomatch hb.mpr h
   have Baa:=fun e=>hR ((Afb (by lia)).mp e)
   refine Ac L.wld rfl (Aar (n:=n + 4) (Apt (n:=n + 3) (Apj (n:=n) (D:=An a.A1 T) (top:=top) L.dn L.db L.n6 hDl' Ba Aom (by rw [Azv]; exact Be8 hhl (by decide)) (fun _=>?_) (fun p e _=>absurd e Baa) (fun e _ _=>absurd e Baa) fun e _ _=>absurd e Baa)))
   rw [decide_eq_true rfl]
   exact hR' (hq T nd ns3 G (Bm9 _) (Bm9 _) Azl)
 | false=>
   have hR:=hb.mp rfl
   refine Ac L.wld rfl ?_
   obtain ⟨qs,hqs,hqr⟩:=Ama (low:=0) (top:=top) (by rw [Int.natCast_zero,Int.zero_sub]; exact hR)
   have Bcx:∀ p∈ps,((p.1.toNat:Nat):Int)=p.1:=fun p hp=>by
     have:(p.1,T.idxOf p.2)∈qs.map pI:=by rw [<- hqs,<- hPP]; exact Bi8 hp
     obtain ⟨q,hq,e⟩:=Bh3.mp this
     have:p.1=(q.1:Int):=by rw [<- congrArg Cp5 e]
     lia
   with_reducible refine gze (ps.map fun p=>(p.1.toNat,p.2)) fun pn hpn=>?_
   have hps:ps=pn.map fun p=>((p.1:Int),p.2):=by
     rw [<- hpn,Bi7]
     conv=>lhs; rw [<- Cn2 ps]
     exact Bj6 fun p hp=>by simp only [Bt2,id]; rw [Bcx p hp]
   have hqn:qs=pn.map fun x=>(x.1,T.idxOf x.2):=by
     have h1:qs.map pI=(pn.map fun x=>(x.1,T.idxOf x.2)).map pI:=by
       rw [<- hqs,<- hPP,hps,Bi7,Bi7]; rfl
     exact List.map_inj_right (fun a b e=>by
       have e1:=congrArg Cp5 e
       have e2:=congrArg Prod.snd e
       dsimp only at e1 e2
       exact Prod.ext (by lia) e2) |>.mp h1
   rw [hqn] at hqr
   have Bct:=Afm (fun t=>T.idxOf t) hqr
   obtain ⟨S,s1,s2,s3,s4,s5⟩:=Atm G.H Ba Bct (fun p hp=>by
     have:((p.1:Int),p.2)∈ps:=by rw [hps]; exact Bi8 (f:=fun p:Nat × List V=>((p.1:Int),p.2)) hp
     exact hlm _ (hp2 _ this))
   rw [hqs,hqn]
   have Bd9:pn.length<=4:=by rw [<- hpn,Bf0]; exact hpl
   refine Fn.room (n:=n + 3) (Amc (n:=n) (S:=S) G.H L.dn L.db L.n6 (Be8 hTl (by decide)) Ba Aom hqr (by rw [Bf0]; exact Be8 Bd9 (by decide)) s1 s2 s3 s4 ?_) (Bf4 (by decide) n)
   rw [L.Aho,<- Ah7 (u:=whole (szs a.A1) S.flatten) G.sub]
   have HT':=G.H.join Ba s1 s2 s3
   have hul:(whole (szs a.A1) S.flatten).length=szs a.A1:=HT'.len _ Adf
   have hTl':=Ajb (T:=T) (u:=whole (szs a.A1) S.flatten)
   revert s5 HT' hul hTl'; with_reducible refine gz (whole (szs a.A1) S.flatten) fun u s5 HT' hul hTl'=>?_
   rw [show ((Aho σ a.dn a.db (An a.A1 (B6 T u))).put na (.list (nd.map (Av (B6 T u))))).put pa (B0 ns3)=Aj σ a pa na (B6 T u) nd ns3 from rfl]
   have L2':=L.nod (T:=B6 T u) (nd:=nd) (ns:=ns3)
   have hc3:a.cells.length<=100000:=by rw [hcl]; exact Be8 Amk (by decide)
   refine Af L2' (Aht rfl (Ac L.wld rfl (Ads ?_)))
   rw [Ah9]
   refine Acw _ (fun k=>u[k]?) (Bi1 a.cells.length) rfl (by rw [Bl0]; exact hc3) ?_ fun acc B1 k hk vs K1 K0 h1 h0=>?_
   · rw [Ail (by rw [hul,hcl])]
     refine Aa7 (.val _) (by rw [hul]; exact Be8 Amk (by decide)) (Ae L2' (hR' ?_) (by rw [Bf0]; exact Be8 Ant (by decide)))
     have:=hq (B6 T u) (nd ++ [u]) ns3 ⟨HT',Aa9 (fun t ht=>Ag2 (G.sub t ht)) Adf,?_⟩ hTl' (by rw [Bf2]; exact Bh7 _) Azl
     · unfold Aj at this ⊢
       rw [Sto.Ao _ _ _ L.n1,Sto.A9]
       rw [Bg2] at this
       exact this
     · obtain ⟨t,ht,e⟩:=G.lf
       exact ⟨t,Bi3 _ ht,e⟩
   · have hk':=Bk7.mp hk
     obtain ⟨c,hck⟩:∃ c,(B7 a.A1)[k]?=some c:=⟨_,Bf1 (by rw [Ac2,<- hcl]; exact hk')⟩
     obtain ⟨cl1,cl2⟩:=Acj (Bg0 hck)
     obtain ⟨x,hx⟩:∃ x,c[v]?=some x:=⟨_,Bf1 (by rw [cl1,L.h3]; exact hv)⟩
     obtain ⟨t,t1,t2,t3⟩:=s5 k c x hck hx
     obtain ⟨y,hy⟩:∃ y,t[k]?=some y:=⟨_,Bf1 (by rw [G.H.len t t2,<- hcl]; exact hk')⟩
     rw [Bk8,show a.cells.getD k .none=Aj6 c by rw [L.hc,Bj9,Bf9,hck]; rfl]
     refine A6 (k:=v) (d:=.int x) (by rw [tupI,Bf9,hx]; rfl) ?_ hv'
     rw [show (ps.map fun p=>V.tup [.int p.1,Av T p.2])=(ps.map fun p=>(p.1,Av T p.2)).map fun p=>V.tup [.int p.1,p.2] by rw [Bi7]; rfl]
     refine Fn.room (n:=n + 1) (Axy (n:=n) (parts:=ps.map fun p=>(p.1,Av T p.2)) (d:=Av T t) (by rw [Bf0]; exact Be8 hpl (by decide)) ?_ (A6 (k:=1) (d:=.tup t) rfl (A6 (k:=k) hy (h1 _ _ (by rw [t3,hy]) (Sub.refl _)) (Bh0 hk' (Be8 (Bm3 hcl) (Be8 Amk (by decide))))))) r1
     rw [An0,hps,Bi7,Co4,Option.map_map,show ((fun p:Int × V=>decide ((x:Int)<=p.1)) ∘ (fun p:Int × List V=>(p.1,Av T p.2)) ∘ fun p:Nat × List V=>((p.1:Int),p.2))=fun p:Nat × List V=>decide (x<=p.1) from funext fun p=>decide_eq_decide.mpr Bk9]
     obtain ⟨q,hq1,hq2⟩:=Bn7.mp t1
     rw [hq1,<- hq2]; rfl
end
noncomputable def inS (T:List (Int × Int)) (x:Nat):Bool:=T.any fun p=>decide (p.1<=x/\(x:Int)<=p.2)
theorem Ain {p T x}:inS (p :: T) x=(decide (p.1<=x/\(x:Int)<=p.2) || inS T x):=rfl
theorem Aiq {T x}:inS T x=true ↔ ∃ p∈T,p.1<=x/\(x:Int)<=p.2:=by simp [inS]
noncomputable def Gap (T:List (Int × Int)):Prop:=T.Pairwise (fun a b=>a.2 + 1 < b.1)/\∀ p∈T,p.1<=p.2
theorem Ap0:∀ {l f},Gap f->(∀ p∈l,p.1<=p.2)->l.Pairwise (fun a b=>a.1<=b.1)->(∀ q∈f,∀ p∈l,q.1<=p.1) ->
  Gap (l.foldl Aa6 f)/\(∀ x:Nat,inS (l.foldl Aa6 f) x=(inS f x || inS l x))/\∀ c:Int,(∀ p∈f,c<=p.1)->(∀ p∈l,c<=p.1)->∀ p∈l.foldl Aa6 f,c<=p.1
 | [],f,hg,_,_,_=>⟨hg,fun x=>by simp [inS],fun c h1 _=>h1⟩
 | p :: l,f,hg,hl,hs,hq=>by
  rw [Bv1]
  have hs':=Cj2.mp hs
  have hp:=hl p (.head _)
  have key:Gap (Aa6 f p)/\(∀ q∈Aa6 f p,∀ p'∈l,q.1<=p'.1)/\(∀ x:Nat,inS (Aa6 f p) x=(inS f x || decide (p.1<=x/\(x:Int)<=p.2)))/\∀ c:Int,(∀ q∈f,c<=q.1)->c<=p.1->∀ q∈Aa6 f p,c<=q.1:=by
   rcases Bv2 f with rfl | ⟨g,q,rfl⟩
   · refine ⟨⟨by simp [Aa6],fun z hz=>?_⟩,fun z hz p' hp'=>?_,fun x=>by simp [Aa6,inS],fun c _ hc z hz=>?_⟩
     all_goals rw [show z=p by simpa [Aa6] using hz]
     · exact hp
     · exact hs'.1 p' hp'
     · exact hc
   · rw [Bv3] at *
     obtain ⟨g1,g2⟩:=hg
     rw [Bw5] at g1
     obtain ⟨ga,_,gb⟩:=g1
     have hqp:=hq q (by simp) p (.head _)
     have hqq:=g2 q (by simp)
     have hst:Aa6 (g ++ [q]) p=if p.1<=q.2 + 1 then (if q.2 < p.2 then g ++ [(q.1,p.2)] else g ++ [q]) else g ++ [q] ++ [p]:=by simp [Aa6]
     rw [hst]
     by_cases c1:p.1<=q.2 + 1
     · rw [if_pos c1]
       by_cases c2:q.2 < p.2
       · rw [if_pos c2]
         refine ⟨⟨?_,fun z hz=>?_⟩,fun z hz p' hp'=>?_,fun x=>?_,fun c hc1 hc2 z hz=>?_⟩
         · rw [Bw5]
           exact ⟨ga,by simp,fun a ha b hb=>by rw [Bf7.mp hb]; exact gb a ha q (by simp)⟩
         · rcases Bh9.mp hz with hz | hz
           · exact g2 z (by simp [hz])
           · rw [Bf7.mp hz]; dsimp only; lia
         · rcases Bh9.mp hz with hz | hz
           · exact hq z (by simp [hz]) p' (.tail _ hp')
           · rw [Bf7.mp hz]; exact hq q (by simp) p' (.tail _ hp')
         · simp only [inS,Cn3,Ce1,Ck9,Ce2]
           rw [Cp6]
           congr 1
           rw [Bv7]
           simp only [Bv6,decide_eq_true_eq]
           exact ⟨fun h=>(Classical.em ((x:Int) < p.1)).elim (fun k=>.inl ⟨h.1,Int.le_of_lt_add_one (Bo0 k c1)⟩) fun k=>.inr ⟨Bs6.mp k,h.2⟩,fun h=>h.elim (fun h=>⟨h.1,Bo8 h.2 (Cl9 c2)⟩) fun h=>⟨Bo8 hqp h.1,h.2⟩⟩
         · rcases Bh9.mp hz with hz | hz
           · exact hc1 z (by simp [hz])
           · rw [Bf7.mp hz]; exact hc1 q (by simp)
       · rw [if_neg c2]
         refine ⟨⟨?_,g2⟩,fun z hz p' hp'=>hq z hz p' (.tail _ hp'),fun x=>?_,fun c hc1 hc2 z hz=>hc1 z hz⟩
         · rw [Bw5]; exact ⟨ga,by simp,gb⟩
         · simp only [inS,Cn3,Ce1,Ck9,Ce2]
           rw [Cp6]
           congr 1
           rw [Bv7]
           simp only [Bv6,decide_eq_true_eq]
           exact ⟨.inl,fun h=>h.elim id fun h=>⟨Bo8 hqp h.1,Bo8 h.2 (Bs6.mp c2)⟩⟩
     · rw [if_neg c1]
       refine ⟨⟨?_,fun z hz=>?_⟩,fun z hz p' hp'=>?_,fun x=>?_,fun c hc1 hc2 z hz=>?_⟩
       · rw [Bw5]
         refine ⟨by rw [Bw5]; exact ⟨ga,by simp,gb⟩,by simp,fun a ha b hb=>?_⟩
         rw [Bf7.mp hb]
         rcases Bh9.mp ha with ha | ha
         · have:=gb a ha q (by simp); exact Cl8 (Bo0 this (Bo8 hqq (Bw6 (by decide)))) (Bx9.mp c1)
         · rw [Bf7.mp ha]; lia
       · rcases Bh9.mp hz with hz | hz
         · exact g2 z hz
         · rw [Bf7.mp hz]; exact hp
       · rcases Bh9.mp hz with hz | hz
         · exact hq z hz p' (.tail _ hp')
         · rw [Bf7.mp hz]; exact hs'.1 p' hp'
       · simp only [inS,Cn3,Ce1,Ck9,Ce2]
       · rcases Bh9.mp hz with hz | hz
         · exact hc1 z hz
         · rw [Bf7.mp hz]; exact hc2
  obtain ⟨k1,k2,k3,k4⟩:=key
  obtain ⟨r1,r2,r3⟩:=Ap0 k1 (fun z hz=>hl z (.tail _ hz)) hs'.2 k2
  refine ⟨r1,fun x=>?_,fun c h1 h2=>r3 c (k4 c h1 (h2 p (.head _))) fun z hz=>h2 z (.tail _ hz)⟩
  rw [r2,k3,Ain,Cp6]
theorem Alv {top y k}:∀ {T parts at_},As (min at_ (top + 1)) 0 parts->Gap T->(∀ p∈T,(at_:Int)<=p.1) ->
  ∃ qs:List (Nat × Nat),(T.foldl (Aan top y k) (parts.map pI,(at_:Int))).1 ++ (if (T.foldl (Aan top y k) (parts.map pI,(at_:Int))).2<=top then [((top:Int),k)] else [])=qs.map pI/\As (top + 1) 0 qs ∧
    ∀ x,x<=top->(Aq 0 qs)[x]?=if x < at_ then (Aq 0 parts)[x]? else some (if inS T x then y else k)
 | [],parts,at_,hr,_,_=>by
  show ∃ qs:List (Nat × Nat),parts.map pI ++ (if (at_:Int)<=top then [((top:Int),k)] else [])=qs.map pI/\_
  by_cases q:at_<=top
  · rw [show min at_ (top + 1)=at_ by lia] at hr
    refine ⟨parts ++ [(top,k)],by rw [if_pos (by lia),Bg2]; rfl,Abj hr ⟨q,by simp,rfl⟩,fun x hx=>?_⟩
    rw [Abe hr]
    have hl:=Adh hr
    by_cases c:x < at_
    · rw [if_pos c,Bw8 (by exact r46 ‹_› ‹_›)]
    · rw [if_neg c,Bw4 (by rw [hl]; exact Bm5 c),hl]
      simp only [Aq,Bh6,inS,Ck9,Bp7,if_false]
      rw [By2,if_pos (by exact r17 ‹_› ‹_›)]
  · rw [show min at_ (top + 1)=top + 1 by exact Cf3 (Cm9 q)] at hr
    exact ⟨parts,by rw [if_neg (by lia),Bh6],hr,fun x hx=>by rw [if_pos (by lia)]⟩
 | p :: T,parts,at_,hr,hg,ha=>by
  obtain ⟨g1,g2⟩:=hg
  have g1':=Cj2.mp g1
  have hgT:Gap T:=⟨g1'.2,fun z hz=>g2 z (.tail _ hz)⟩
  have hp:=g2 p (.head _)
  have hap:=ha p (.head _)
  rw [Bv1]
  by_cases c0:p.1<=top
  · obtain ⟨lo,hlo⟩:=By6 (show 0<=p.1 by lia)
    obtain ⟨hi,hhi⟩:=By6 (show 0<=p.2 by lia)
    have hat:min at_ (top + 1)=at_:=by exact Bs0 (Bk1 (Bk9.mp (Bo8 hap c0)))
    rw [hat] at hr
    have hst:Aan top y k (parts.map pI,(at_:Int)) p=((parts ++ (if at_ < lo then [(lo - 1,k)] else []) ++ [(min hi top,y)]).map pI,((hi + 1:Nat):Int)):=by
      unfold Aan
      rw [if_pos c0]
      simp only [Bg2]
      rw [hlo,hhi]
      congr 1
      congr 1
      · congr 1
        by_cases c1:at_ < lo
        · rw [if_pos c1,if_pos (by exact Bn2.mpr c1)]
          simp only [Bh1,Bq6,Bn1,and_true]
          exact Prod.ext (by dsimp only; exact (Int.ofNat_sub (Cm8 c1)).symm) rfl
        · rw [if_neg c1,if_neg (by exact fun q=>c1 (Bn2.mp q))]; rfl
      · simp only [Bh1,Bq6,Bn1,and_true]
        exact Prod.ext (by dsimp only; exact r15) rfl
    have hr1:As lo 0 (parts ++ (if at_ < lo then [(lo - 1,k)] else [])):=by
      by_cases c1:at_ < lo
      · rw [if_pos c1]
        exact Abj hr ⟨by dsimp only; exact r33 ‹_›,by dsimp only; exact r32 ‹_›,by show lo - 1 + 1=lo; exact Nat.sub_add_cancel (Cm8 c1)⟩
      · rw [if_neg c1,Bh6,show lo=at_ by exact Cn6 (Bm5 c1) (Bk9.mp (hlo ▸ hap))]; exact hr
    have hr2:As (min (hi + 1) (top + 1)) 0 (parts ++ (if at_ < lo then [(lo - 1,k)] else []) ++ [(min hi top,y)]):=
      Abj hr1 ⟨by dsimp only; rw [hlo,hhi] at hp; rw [hlo] at c0; exact Nat.le_min.mpr ⟨Bk9.mp hp,Bk9.mp c0⟩,by dsimp only; exact Nat.lt_of_lt_of_eq (Br2 _) (Ck7 ..).symm,by show min hi top + 1=_; exact (Ck7 ..).symm⟩
    obtain ⟨qs,e1,e2,e3⟩:=Alv (y:=y) (k:=k) hr2 hgT (fun z hz=>by have:=g1'.1 z hz; rw [hhi] at this; exact Cl9 this)
    rw [hst]
    refine ⟨qs,e1,e2,fun x hx=>?_⟩
    rw [e3 x hx,Abe hr1,Ain]
    have hl1:=Adh hr1
    have hl0:=Adh hr
    by_cases c2:x < hi + 1
    · rw [if_pos c2]
      have hTn:inS T x=false:=by
        cases q:inS T x with
        | false=>rfl
        | true=>obtain ⟨z,hz,z1,z2⟩:=Aiq.mp q; have:=g1'.1 z hz; exact absurd (Bo0 this z1) (Bs6.mpr (by rw [hhi]; exact Bk9.mpr (Bk5 c2)))
      rw [hTn,Ce2]
      by_cases c3:x < lo
      · rw [Bw8 (by exact r46 ‹_› ‹_›)]
        by_cases c4:x < at_
        · rw [if_pos c4,Abe hr,Bw8 (by exact r46 ‹_› ‹_›)]
        · rw [if_neg c4,Abe hr,Bw4 (by rw [hl0]; exact Bm5 c4),hl0,if_pos (by exact Bg7 (Bm5 c4) c3)]
          simp only [Aq,Bh6]
          rw [By2,if_pos (by exact r6 ‹_› ‹_›),if_neg (by simp; exact fun h=>absurd h (Bx9.mpr (by rw [hlo]; exact Bn2.mpr c3)))]
      · rw [if_neg (show ¬ x < at_ by exact fun q=>c3 (Bh0 q (Bk9.mp (hlo ▸ hap)))),Bw4 (by rw [hl1]; exact Bm5 c3),hl1]
        simp only [Aq,Bh6]
        rw [By2,if_pos (by exact r3 ‹_› ‹_› ‹_›),if_pos (by simp; rw [hlo,hhi]; exact ⟨Bk9.mpr (Bm5 c3),Bk9.mpr (Bw3 c2)⟩)]
    · rw [if_neg c2,if_neg (show ¬ x < at_ by exact fun q=>c2 (Bp3 (Be8 (Bk5 q) (Bk9.mp (hhi ▸ Bo8 hap hp))))),show decide (p.1<=(x:Int)/\(x:Int)<=p.2)=false by simp; exact fun _=>by rw [hhi]; exact Bn2.mpr (Nat.lt_of_succ_le (Bm5 c2)),Bool.false_or]
  · have hst:Aan top y k (parts.map pI,(at_:Int)) p=(parts.map pI,(at_:Int)):=by unfold Aan; rw [if_neg c0]
    rw [hst]
    obtain ⟨qs,e1,e2,e3⟩:=Alv (y:=y) (k:=k) hr hgT (fun z hz=>ha z (.tail _ hz))
    refine ⟨qs,e1,e2,fun x hx=>?_⟩
    rw [e3 x hx,Ain,show decide (p.1<=(x:Int)/\(x:Int)<=p.2)=false by simp; exact fun h=>absurd (Bo8 h (Bk9.mpr hx)) c0,Bool.false_or]
theorem Akv {top y k:Nat} {ps ps':List (Int × Int)} (hp:ps'.Perm ps) (hs:ps'.Pairwise (fun a b=>a.1<=b.1)) (h:∀ p∈ps,0<=p.1/\p.1<=p.2) :
   ∃ qs:List (Nat × Nat),Agz top y k (Air ps')=qs.map pI/\As (top + 1) 0 qs/\Aq 0 qs=(Bi1 (top + 1)).map fun x=>if inS ps x then y else k:=by
 obtain ⟨t1,t2,t3⟩:=Ap0 (l:=ps') (f:=[]) ⟨.nil,by simp⟩ (fun p hp'=>(h p (hp.subset hp')).2) hs (by simp)
 obtain ⟨qs,e1,e2,e3⟩:=Alv (top:=top) (y:=y) (k:=k) (parts:=[]) (at_:=0) (T:=Air ps') (by show 0=min 0 (top + 1); lia) t1 (t3 0 (by simp) fun p hp'=>(h p (hp.subset hp')).1)
 refine ⟨qs,e1,e2,?_⟩
 have hl:=Adh e2
 apply List.ext_getElem?
 intro x
 by_cases hx:x<=top
 · rw [e3 x hx,if_neg (by lia),Bf9,Ci5 (by lia)]
   have:inS (Air ps') x=inS ps x:=by
    rw [show Air ps'=ps'.foldl Aa6 [] from rfl,t2 x,Bv7]
    simp only [Bv6,Aiq]
    constructor
    · rintro (⟨p,hp',_⟩ | ⟨p,hp',r⟩)
      · cases hp'
      · exact ⟨p,hp.subset hp',r⟩
    · rintro ⟨p,hp',r⟩; exact .inr ⟨p,hp.symm.subset hp',r⟩
   rw [this]; rfl
 · rw [List.getElem?_eq_none (by lia),List.getElem?_eq_none (by simp; exact r52 ‹_›)]
theorem Akx {α:Type} {e:Nat}:∀ {l:List (Nat × α)} {low:Nat},As e low l->l.length<=e - low
 | [],_,_=>Bh2 _
 | p :: r,low,h=>by
  have:=Akx h.2.2
  have:=h.1
  have:=h.2.1
  rw [Bh5]; exact ra (p:=p.1) ‹_› ‹_› ‹_›
section
variable {w:World} {n:Nat} {σ:Sto} {Q:V->Sto->Prop} {Y:Str->Sto->Prop} {a:Wo} {wl pa na:Addr} {T nd:List (List V)} {ns:List Int}
theorem Ap9 {v:Nat} (L:LawW σ a wl pa na) (G:Axk a T nd) (hv:v < 3) (hTl:T.length<=20) (Ant:nd.length<=20) (hns:ns.length<=66)
   (hq:∀ T' nd' ms,Axk a T' nd'->T'.length<=T.length + 1->nd'.length<=nd.length + 1->ms.length<=66->Q (.bool true) (Aj σ a pa na T' nd' ms)) :
   Fn (PM w) (n + 7) (.ref 343) [.loc wl,.loc na,.int v,.loc pa] (Aj σ a pa na T nd ns) Q Y:=by
 have L2:=L.nod (T:=T) (nd:=nd) (ns:=ns)
 have L5:=L.wld (T:=T) (nd:=nd) (ns:=ns)
 have Acx:∀ p∈a.A1,p<=10:=fun p hp=>by have:=L.Ba p hp; exact Be8 this.2 (by decide)
 have hpa:∀ ms,Aj σ a pa na T nd ms pa=some (B0 ms):=fun ms=>L.pen
 obtain ⟨Amk,hcl⟩:=L.szs
 obtain ⟨top,Ba⟩:∃ top,a.A1[v]?=some top:=⟨_,Bf1 (by rw [L.h3]; exact hv)⟩
 obtain ⟨ht1,ht2⟩:=L.Ba top (Bg0 Ba)
 have Ayk:0 < nd.length:=by obtain ⟨t,ht,_⟩:=G.lf; exact List.length_pos_of_mem ht
 have hv':v < 1000000:=Bj4 hv (by decide)
 have r1:n + 1<=n + 6:=Bf4 (by decide) n
 have hnl:(nd.map (Av T)).length<=100000:=by rw [Bf0]; exact Be8 Ant (by decide)
 refine B8 rfl rfl (Aqc fun _ _ _ _=>rfl) rfl fun R' Y' hR hY hRs hYs=>Ac L5 rfl (Ab (k:=v) (d:=.int top) (.val _) (by rw [tupI,Bf9,Ba]; rfl) (.inl fun sp hsp=>?_) hv')
 have nsp:=fun ms=>Adv ms sp hsp
 have Axq:=nne (hpa ns) hsp
 have hpa':∀ ms {x},((Aj σ a pa na T nd ms).put sp x) pa=some (B0 ms):=fun ms {x}=>by rw [Sto.A4 _ _ Axq]; exact hpa ms
 have Ba7:∀ ms ms' {x},((Aj σ a pa na T nd ms).put sp x).put pa (B0 ms')=(Aj σ a pa na T nd ms').put sp x:=fun ms ms' {x}=>by rw [Sto.Ao _ _ _ Axq.symm,Aau]
 refine Fn.room (n:=n + 1) (Aaz (n:=n) (k:=6) (hpa' ns) hns (by decide) fun k1 ns1 hk1 Ar4=>?_) r1
 rw [Ba7]
 refine Aac (k:=k1) rfl ?_ (Be8 (Bk5 hk1) (by decide))
 refine Ajx (u:=0) (α:=List (Int × Int) × List Int) (fun x=>(Aj σ a pa na T nd x.2).put sp (.list (x.1.map Acs))) (fun _=>[("world",.loc wl),("nodes",.loc na),("variable",.int v),("pen",.loc pa),("top",.int top),("spans",.loc sp)])
   (fun k x=>x.1.length=k/\(∀ p∈x.1,0<=p.1/\p.1<=p.2)/\x.2.length<=66) ([],ns1) rfl ⟨rfl,fun _ h=>absurd h Bj2,Ar4⟩ (Sub.refl _) rfl ?_ ?_
 rotate_left
 · rintro k ⟨ps,ms⟩ K hk hK ⟨e1,e2,e3⟩
   dsimp only at e1 e2 e3
   refine Fn.room (n:=n + 1) (Aaz (n:=n) (k:=top + 3) (hpa' ms) e3 (Bq1 _) fun r1' ms1 hr1 Avg=>?_) r1
   rw [Ba7]
   refine Af (Sto.A0 ..) (Fn.room (n:=n + 1) (Aaz (n:=n) (k:=3) (hpa' ms1) Avg (by decide) fun r2 ms2 hr2 Bcw=>?_) r1)
   rw [Ba7]
   refine Ae (ds:=ps.map Acs) (Sto.A0 ..) ?_ (by rw [Bf0]; rw [e1]; exact Be8 (Bk5 (Bk8 k1 ▸ hk)) (Be8 (Bk5 hk1) (by decide)))
   rw [Sto.A9]
   refine hK (ps ++ [((r1':Int),(r1':Int) + r2)],ms2) _ _ ⟨by rw [Bf2,e1]; rfl,Aa9 e2 (by dsimp only; exact ⟨Bk0 _,Bw6 (Bk0 _)⟩),Bcw⟩ ?_ rfl
   dsimp only
   rw [Bg2]; exact Sub.refl _
 rintro ⟨ps,ns2⟩ ⟨e1,e2,e3⟩
 dsimp only at e1 e2 e3
 have e1:ps.length<=5:=by rw [e1,Bk8]; exact Bw3 hk1
 refine .frz "spans" rfl (Sto.A0 ..) (.go ?_)
 rw [Sto.Abn (nsp ns2)]
 have nodT:∀ ms,Aj σ a pa na T nd ms na=some (.list (nd.map (Av T))):=fun ms=>L.nod
 have getN:∀ r,r < nd.length->∃ t,nd[r]?=some t/\t∈T:=fun r hr=>⟨nd[r],Bf1 hr,G.sub _ (Bl7 hr)⟩
 refine Aa1 (ds:=nd.map (Av T)) (.loc (nodT _)) hnl ?_
 rw [Bf0]
 refine Fn.room (n:=n + 1) (Aaz (n:=n) (k:=nd.length) (hpa ns2) e3 Ayk fun k1 ns3 hk1 Azl=>?_) r1
 rw [Aau]
 obtain ⟨ty,hy1,hy2⟩:=getN k1 hk1
 refine Ab (k:=k1) (.loc (nodT _)) (by rw [Bf9,hy1]; rfl) (Aa1 (ds:=nd.map (Av T)) (.loc (nodT _)) hnl ?_) (Bh0 hk1 (Be8 Ant (by decide)))
 rw [Bf0]
 refine Fn.room (n:=n + 1) (Aaz (n:=n) (k:=nd.length) (hpa ns3) Azl Ayk fun k2 ns4 hk2 Bck=>?_) r1
 rw [Aau]
 obtain ⟨tk,hk1',hk2'⟩:=getN k2 hk2
 refine Ab (k:=k2) (.loc (nodT _)) (by rw [Bf9,hk1']; rfl) ?_ (Bh0 hk2 (Be8 Ant (by decide)))
 have hyl:=G.H.len ty hy2
 have hkl:=G.H.len tk hk2'
 have t1000:∀ {t:List V},t.length=szs a.A1->t.length<=1000:=fun h=>by rw [h]; exact Be8 Amk (by decide)
 refine A6 (k:=1) (d:=.tup ty) rfl (Fn.room (n:=n + 2) (Ac8 (n:=n) (v:=0) (a:=a) L.wld L.h3 Acx (Bh2 _) (t1000 hyl) (fun x hx=>(G.H.val ty hy2 x hx).flat) ?_) (Bf4 (by decide) n))
 refine A6 (k:=0) rfl (A6 (k:=1) (d:=.tup tk) rfl (Fn.room (n:=n + 2) (Ac8 (n:=n) (v:=0) (a:=a) L.wld L.h3 Acx (Bh2 _) (t1000 hkl) (fun x hx=>(G.H.val tk hk2' x hx).flat) ?_) (Bf4 (by decide) n)))
 rw [Bk8,Bk8,Bo9]
 obtain ⟨hy,ay,p1,p2,p3,p4,p5⟩:=Aas a.A1 T ty
 obtain ⟨hk,ak,q1,q2,q3,q4,q5⟩:=Aas a.A1 T tk
 have hDy:(An a.A1 T)[T.idxOf ty]?=some (.tup [hy,ay]):=by rw [Abo (Aca hy2),p1]
 have hDk:(An a.A1 T)[T.idxOf tk]?=some (.tup [hk,ak]):=by rw [Abo (Aca hk2'),q1]
 have hyi:T.idxOf ty < 1000:=Bh0 (Bk2 hy2) (Be8 hTl (by decide))
 have hki:T.idxOf tk < 1000:=Bh0 (Bk2 hk2') (Be8 hTl (by decide))
 have Aom:v < 100:=Bj4 hv (by decide)
 have Ayr:a.A1.length<=100:=by rw [L.h3]; decide
 refine A6 (k:=0) rfl (Afd (Ajo (dI (fun q=>?_) fun q=>?_)))
 · refine Ac L.wld rfl (A6 (k:=0) rfl (A6 (k:=0) rfl (Aar (n:=n + 5) (Are (n:=n + 4) (Ar5 (n:=n) (D:=An a.A1 T) (y:=T.idxOf ty) (k:=T.idxOf tk) (top:=top) L.dn hDy hDk hyi hki p2 p3 q2 q3 p4 q4 Ba Aom Ayr e1 (fun _=>?_) (fun hh=>by omega))))))
   rw [decide_eq_true rfl]
   exact hR (hq T nd ns4 G (Bm9 _) (Bm9 _) Bck)
 have hcy:=Ahd hyl (show v + 1<=(asked a.A1 ty).1 by exact r20 ‹_›)
 have hck:=Ahd hkl (show v + 1<=(asked a.A1 tk).1 by exact r19 ‹_›)
 refine Ac L.wld rfl (A6 (k:=0) rfl (A6 (k:=0) rfl (Fn.room (n:=n + 4) (Ar5 (n:=n) (D:=An a.A1 T) (y:=T.idxOf ty) (k:=T.idxOf tk) (top:=top) L.dn hDy hDk hyi hki p2 p3 q2 q3 p4 q4 Ba Aom Ayr e1 (fun hh=>by omega) (fun _ ps' Al4 Bb1=>?_)) (Bf4 (by decide) n))))
 obtain ⟨qs,z1,z2,z3⟩:=Akv (top:=top) (y:=T.idxOf ty) (k:=T.idxOf tk) Al4 Bb1 e2
 rw [z1]
 have Be5:qs.length<=100:=by
   have:=Akx z2; exact Be8 this (Be8 (Bg4 ht2) (by decide))
 with_reducible refine gze ((Bi1 (top + 1)).map fun x=>(if inS ps x then ty else tk).take (szs (a.A1.drop (v + 1)))) fun S hS=>?_
 have s1:S.length=top + 1:=by rw [<- hS,Bf0,Bl0]
 have s2:∀ s∈S,s.length=szs (a.A1.drop (v + 1)):=fun s hs=>by
   rw [<- hS] at hs
   obtain ⟨x,_,rfl⟩:=Bh3.mp hs
   split
   · exact hcy.1
   · exact hck.1
 have s3:∀ s∈S,whole (szs a.A1) s∈T:=fun s hs=>by
   rw [<- hS] at hs
   obtain ⟨x,_,rfl⟩:=Bh3.mp hs
   split
   · rw [hcy.2]; exact hy2
   · rw [hck.2]; exact hk2'
 have s4:Aq 0 qs=S.map (numOf a.A1 T):=by
   rw [z3,<- hS,Bi7]
   refine Bj6 fun x _=>?_
   simp only [Bt2,numOf]
   by_cases c:inS ps x=true
   · rw [if_pos c,if_pos c,hcy.2]
   · rw [if_neg c,if_neg c,hck.2]
 have s5:∀ (k:Nat) (c:List Nat) (x:Nat),(B7 a.A1)[k]?=some c->c[v]?=some x->(whole (szs a.A1) S.flatten)[k]?=(if inS ps x then ty else tk)[k]?:=fun k c x hc hx=>by
   have hxt:x<=top:=(Acj (Bg0 hc)).2 v x top hx Ba
   rw [Aqk Ba s1 s2 hc hx (s:=(if inS ps x then ty else tk).take (szs (a.A1.drop (v + 1)))) (by rw [<- hS,Bf9,Ci5 (by exact Bp3 hxt)]; rfl)]
   split
   · rw [hcy.2]
   · rw [hck.2]
 refine Amc (n:=n) (S:=S) G.H L.dn L.db L.n6 (Be8 hTl (by decide)) Ba Aom z2 Be5 s1 s2 s3 s4 ?_
 rw [L.Aho,<- Ah7 (u:=whole (szs a.A1) S.flatten) G.sub]
 have HT':=G.H.join Ba s1 s2 s3
 have hul:(whole (szs a.A1) S.flatten).length=szs a.A1:=HT'.len _ Adf
 have hTl':=Ajb (T:=T) (u:=whole (szs a.A1) S.flatten)
 revert s5 HT' hul hTl'; with_reducible refine gz (whole (szs a.A1) S.flatten) fun u s5 HT' hul hTl'=>?_
 rw [show ((Aho σ a.dn a.db (An a.A1 (B6 T u))).put na (.list (nd.map (Av (B6 T u))))).put pa (B0 ns4)=Aj σ a pa na (B6 T u) nd ns4 from rfl]
 have L2':=L.nod (T:=B6 T u) (nd:=nd) (ns:=ns4)
 have L5':=L.wld (T:=B6 T u) (nd:=nd) (ns:=ns4)
 refine .inl fun tb htb=>?_
 have nwt:=nne L5' htb
 have nnt:=nne L2' htb
 refine Ac (a:=wl) (by rw [Sto.A4 _ _ nwt]; exact L5') rfl (Ads ?_)
 rw [L.hc]
 have ul:∀ {l:List V},l.length<=u.length->l.length<=100000:=fun h=>Be8 h (by rw [hul]; exact Be8 Amk (by decide))
 refine Aoh Aj6 (α:=Nat) (fun k=>(Aj σ a pa na (B6 T u) nd ns4).put tb (.list (u.take k))) (fun _=>[("world",.loc wl),("nodes",.loc na),("variable",.int v),("spans",.lst (ps.map Acs)),("no",Av T tk),("yes",Av T ty),("table",.loc tb),("number",.int ((B6 T u).idxOf u:Nat))])
   (fun k rs j=>j=k/\(B7 a.A1).drop k=rs) _ 0 rfl ⟨rfl,rfl⟩ (Sub.refl _) rfl ?_ ?_
 · rintro k _ ⟨rfl,f2⟩
   rw [Bu2 (by rw [hul,<- Ac2]; exact List.drop_eq_nil_iff.mp f2)]
   have M2':((Aj σ a pa na (B6 T u) nd ns4).put tb (.list u)) na=some (.list (nd.map (Av (B6 T u)))):=by rw [Sto.A4 _ _ nnt]; exact L2'
   refine .go (Af M2' (Aa7 (.loc (Sto.A0 ..)) (ul (Bh7 _)) (Ae M2' (hRs ?_ (hq (B6 T u) (nd ++ [u]) ns4 ⟨HT',Aa9 (fun t ht=>Ag2 (G.sub t ht)) Adf,?_⟩ hTl' (by rw [Bf2]; exact Bh7 _) Bck)) (by rw [Bf0]; exact Be8 Ant (by decide)))))
   · unfold Aj
     rw [Bg2,<- Sto.A9 (Aho σ a.dn a.db (An a.A1 (B6 T u))) na (.list (nd.map (Av (B6 T u)))) (.list (nd.map (Av (B6 T u)) ++ _)),Sto.Ao _ _ _ L.n1.symm]
     exact Sub.put (Sub.new (Sub.refl _) htb) _ _
   · obtain ⟨t,ht,e⟩:=G.lf
     exact ⟨t,Bi3 _ ht,e⟩
 · rintro _ c rs k K hK ⟨rfl,f2⟩
   obtain ⟨hck',f3⟩:=drop_cons f2
   obtain ⟨cl1,cl2⟩:=Acj (Bg0 hck')
   obtain ⟨x,hx⟩:∃ x,c[v]?=some x:=⟨_,Bf1 (by rw [cl1,L.h3]; exact hv)⟩
   have hu5:=s5 k c x hck' hx
   have hkz:k < szs a.A1:=by rw [<- Ac2]; exact (Bf8.mp hck').1
   have kl:k < 1000000:=Bh0 hkz (Be8 Amk (by decide))
   refine Aht rfl (Acw _ (fun p:Int × Int=>if p.1<=x/\(x:Int)<=p.2 then some (.int 1) else none) ps rfl (Be8 e1 (by decide)) ?_ fun acc B1 p hp vs K1 K0 h1 h0=>?_)
   rotate_left
   · exact A6 (k:=v) (d:=.int x) (by rw [tupI,Bf9,hx]; rfl) (Ajo (dI (fun c1=>Ajo (dI (fun c2=>h1 _ _ (if_pos ⟨c1,c2⟩) (Sub.refl _)) fun c2=>h0 _ (if_neg fun h=>c2 h.2) (Sub.refl _))) fun c1=>h0 _ (if_neg fun h=>c1 h.1) (Sub.refl _))) hv'
   have hin:(!decide (V.lst (ps.filterMap fun p:Int × Int=>if p.1<=x/\(x:Int)<=p.2 then some (V.int 1) else none)=V.lst []))=inS ps x:=by
     cases h:inS ps x with
     | true=>
       obtain ⟨p,hp,h⟩:=Aiq.mp h
       rw [Bm8,decide_eq_false_iff_not,V.lst.injEq,Bq5]
       intro hh
       have:=hh p hp
       rw [if_pos h] at this; cases this
     | false=>
       rw [Bool.not_eq_false',decide_eq_true_eq,V.lst.injEq,Bq5]
       intro p hp
       refine if_neg fun c=>?_
       rw [Aiq.mpr ⟨p,hp,c⟩] at h; cases h
   refine .inr (Afs (.val _) (.val _) ?_ (by
     refine Acn.mpr fun y hy=>?_
     obtain ⟨p,_,h⟩:=By1.mp hy
     split at h
     · cases h; rfl
     · cases h) rfl Ajh)
   rw [hin]
   have fin:∀ {t:List V},t∈T->u[k]?=t[k]?->∃ y,t[k]?=some y/\u.take k ++ [y]=u.take (k + 1):=fun {t} ht hu=>by
     have e:t[k]?=some (t[k]'(by rw [G.H.len t ht]; exact hkz)):=Bf1 _
     exact ⟨_,e,by rw [Cd3,hu,e]; rfl⟩
   refine Af (Sto.A0 ..) (.mk _ (.bool _) ?_)
   cases hb:inS ps x with
   | true=>
     rw [hb,if_pos rfl] at hu5
     obtain ⟨y,hyk,e⟩:=fin hy2 hu5
     refine A6 (k:=1) (d:=.tup ty) rfl (A6 (k:=k) hyk (Ae (ds:=u.take k) (Sto.A0 ..) (hK (k + 1) _ _ ⟨rfl,f3⟩ ?_ rfl) (ul (by rw [Bn5]; exact Bm4 ..))) kl)
     rw [Sto.A9,e]; exact Sub.refl _
   | false=>
     rw [hb,if_neg Bg6] at hu5
     obtain ⟨y,hyk,e⟩:=fin hk2' hu5
     refine A6 (k:=1) (d:=.tup tk) rfl (A6 (k:=k) hyk (Ae (ds:=u.take k) (Sto.A0 ..) (hK (k + 1) _ _ ⟨rfl,f3⟩ ?_ rfl) (ul (by rw [Bn5]; exact Bm4 ..))) kl)
     rw [Sto.A9,e]; exact Sub.refl _
end
section
variable {α:Type} [DecidableEq α]
noncomputable def Agk (e:Nat):Nat->List (Nat × Nat × α)->Prop
 | low,[]=>low=e
 | low,x :: r=>x.1=low/\x.1<=x.2.1/\Agk e (x.2.1 + 1) r
theorem Af0 {e:Nat}:∀ {low:Nat} {l:List (Nat × Nat × α)} {x:Nat × Nat × α},Agk x.1 low l->x.1<=x.2.1->x.2.1 + 1=e->Agk e low (l ++ [x])
 | low,[],x,h,h1,h2=>⟨h.symm,h1,h2⟩
 | low,y :: r,x,h,h1,h2=>⟨h.1,h.2.1,Af0 h.2.2 h1 h2⟩
theorem Ahz {e:Nat}:∀ {low:Nat} {l:List (Nat × Nat × α)} {x:Nat × Nat × α},Agk e low (l ++ [x])->Agk x.1 low l/\x.1<=x.2.1/\x.2.1 + 1=e
 | low,[],x,h=>⟨h.1.symm,h.2.1,h.2.2⟩
 | low,y :: r,x,h=>by obtain ⟨a,b⟩:=Ahz h.2.2; exact ⟨⟨h.1,h.2.1,a⟩,b⟩
theorem Ahs:∀ {rs:List α} {f:List (Nat × Nat × α)} {k:Nat},Agk k 0 f->Agk (k + rs.length) 0 (Ac1 f k rs)
 | [],f,k,h=>h
 | r :: rs,f,k,h=>by
  rw [Agu,Bh5,show k + (rs.length + 1)=k + 1 + rs.length by lia]
  refine Ahs ?_
  have app:Agk (k + 1) 0 (f ++ [(k,k,r)]):=Af0 h (Bh7 _) rfl
  rcases Bv2 f with rfl | ⟨g,y,rfl⟩
  · exact app
  · rw [Bv3] at *
    obtain ⟨a,b,c⟩:=Ahz h
    unfold Aad
    simp only [Ch6,Ce0,Cn1,Bt0]
    split
    · exact Af0 (x:=(y.1,k,r)) a (by dsimp only; lia) rfl
    · exact app
theorem Adj (rs:List α):Agk rs.length 0 (Aa rs):=by
 have:=Ahs (rs:=rs) (f:=[]) (k:=0) rfl
 simpa [Aa] using this
end
noncomputable def Amp (g:List V->List (List V × V)) (v:Nat):Nat->List (Nat × List V)->List (List V × V)
 | _,[]=>[]
 | low,(h,s) :: r=>(g s).map (fun p=>(Aeb v low h :: p.1,p.2)) ++ Amp g v (h + 1) r
theorem Axo:∀ (g:List V->List (List V × V)) (v x:Nat),Amp g v x []=[]:=by intros; rfl
theorem Aes:∀ (g:List V->List (List V × V)) (v x h:Nat) (s:List V) (r:List (Nat × List V)),Amp g v x ((h,s) :: r)=Bz6 (fun p=>(Aeb v x h :: p.fst,p.snd)) (g s) ++ Amp g v (h + 1) r:=by intros; rfl
theorem Ai7 {g g' v}:∀ {low l},(∀ x∈l,g x.2=g' x.2)->Amp g v low l=Amp g' v low l
 | _,[],_=>rfl
 | low,(h,s) :: r,k=>by rw [Aes,Aes,k (h,s) (.head _),Ai7 fun x hx=>k x (.tail _ hx)]
theorem Anl {g v}:∀ {low l p},p∈Amp g v low l->∃ x∈l,∃ q∈g x.2,p.2=q.2/\∃ lo,p.1=Aeb v lo x.1 :: q.1
 | _,[],p,h=>by cases h
 | low,(hh,s) :: r,p,h=>by
  rw [Aes] at h
  rcases Bh9.mp h with h | h
  · obtain ⟨q,hq,rfl⟩:=Bh3.mp h
    exact ⟨(hh,s),.head _,q,hq,rfl,low,rfl⟩
  · obtain ⟨x,hx,r⟩:=Anl h; exact ⟨x,.tail _ hx,r⟩
theorem Amv {g v q}:∀ {low l x},x∈l->q∈g x.2->∃ p∈Amp g v low l,p.2=q.2
 | low,[],x,hx,_=>by cases hx
 | low,(hh,s) :: r,x,hx,hq=>by
  rw [Aes]
  rcases Bi0.mp hx with rfl | hx
  · exact ⟨_,Bi3 _ (Bi8 hq),rfl⟩
  · obtain ⟨p,hp,e⟩:=Amv (low:=hh + 1) hx hq
    exact ⟨p,Bi2 _ hp,e⟩
theorem An3 {g v b}:∀ {low l},(∀ x∈l,(g x.2).length<=b)->(Amp g v low l).length<=l.length * b
 | _,[],_=>by simp [Axo,Aes]
 | low,(h,s) :: r,k=>by
  have:=An3 (g:=g) (v:=v) (b:=b) (low:=h + 1) (l:=r) fun x hx=>k x (.tail _ hx)
  have:=k (h,s) (.head _)
  rw [Aes,Bf2,Bf0,Bh5,Bx7]
  dsimp only at this; rw [Bm0]; exact Bo5 ‹_› ‹_›
noncomputable def Wf (ts:List Nat):Nat->List V->List (List V × V)
 | 0,_=>[]
 | f + 1,t=>if (asked ts t).1=ts.length then [([],((asked ts t).2.headD []).headD .none)] else Amp (fun s=>Wf ts f (whole (szs ts) s)) (asked ts t).1 0 (Bh (asked ts t).2)
theorem Bdk:∀ (ts:List Nat) (x:List V),Wf ts 0 x=[]:=by intros; rfl
theorem As6:∀ (ts:List Nat) (x:List V) (f:Nat),Wf ts f.succ x=if (asked ts x).fst=ts.length then [([],((asked ts x).snd.headD []).headD V.none)] else Amp (fun s=>Wf ts f (whole (szs ts) s)) (asked ts x).fst 0 (Bh (asked ts x).snd):=by intros; rfl
section
variable {ts:List Nat}
theorem Abv {t r} (h:t.length=szs ts) (hr:r∈(asked ts t).2) (hn:(asked ts t).1≠ts.length):(asked ts t).1 + 1<=(asked ts (whole (szs ts) r)).1/\(whole (szs ts) r).length=szs ts:=by
 have hle:=Aah (ts:=ts) (t:=t)
 refine ⟨?_,Ab8 (Ajl h hr)⟩
 rw [Aaf (d:=(asked ts t).1 + 1) (by exact r53 ‹_› ‹_›) (Acq h hr)]; dsimp only; lia
set_option tactic.hygienic true in
theorem Ari:∀ (f f':Nat) (t:List V),t.length=szs ts->ts.length + 1<=(asked ts t).1 + f->ts.length + 1<=(asked ts t).1 + f'->Wf ts f t=Wf ts f' t
 | 0,f',t,h,h1,h2=>by have:=Aah (ts:=ts) (t:=t); lia
 | f + 1,0,t,h,h1,h2=>by have:=Aah (ts:=ts) (t:=t); lia
 | f + 1,f' + 1,t,h,h1,h2=>by
  rw [As6,As6]
  split
  · rfl
  · rename_i hn
    refine Ai7 fun x hx=>?_
    obtain ⟨a,b⟩:=Abv h (Abr hx) hn
    exact Ari f f' _ b (by exact r29 ‹_› ‹_›) (by exact r29 ‹_› ‹_›)
set_option tactic.hygienic true in
theorem Aqa:∀ (f:Nat) (t:List V),(∀ p∈ts,p<=2)->(Wf ts f t).length<=3 ^ f
 | 0,t,_=>by simp [Bdk,As6]
 | f + 1,t,h=>by
  rw [As6]
  split
  · exact By4 (by simp)
  · rename_i hn
    refine Be8 (An3 fun x _=>Aqa f (whole (szs ts) x.2) h) ?_
    have h1:=Ag1 (rs:=(asked ts t).2)
    have hlt:(asked ts t).1 < ts.length:=by have:=Aah (ts:=ts) (t:=t); exact r53 ‹_› ‹_›
    have h2:(asked ts t).2.length<=3:=by
     rw [Aa5 (Bf1 hlt)]
     have:=h _ (Bl7 hlt); lia
    rw [Cl3,Br7]
    exact Bp1 _ (by exact r38 ‹_› ‹_›)
set_option tactic.hygienic true in
theorem Anh:∀ (f:Nat) (t:List V),t.length=szs ts->∀ p∈Wf ts f t,p.2∈t/\p.1.length<=f
 | 0,t,h,p,hp=>by cases hp
 | f + 1,t,h,p,hp=>by
  rw [As6] at hp
  split at hp
  · rename_i e
    rw [Bf7.mp hp]
    obtain ⟨x,hx,wx⟩:=Abb h e
    rw [hx]
    refine ⟨?_,Bh2 _⟩
    rw [<- wx]; exact Aav (by simp) (Ah _) (by simp)
  · rename_i hn
    obtain ⟨x,hx,q,hq,e,lo,e2⟩:=Anl hp
    have hr:=Abr hx
    obtain ⟨a,b⟩:=Abv h hr hn
    have:=Anh f _ b q hq
    refine ⟨?_,by rw [e2,Bh5]; lia⟩
    rw [e]
    have h2:=Abw this.1
    have ht:=Aay h
    rw [<- ht]
    exact Aav (by rw [Aaa h]; exact Al ..) (Ah _) (Bt8.mpr ⟨x.2,hr,h2⟩)
theorem Aqn {t x} (h:t.length=szs ts) (hx:x∈t):∃ r∈(asked ts t).2,x∈r:=by
 rw [<- Aay h] at hx
 obtain ⟨r,hr,hx⟩:=Bt8.mp (Abw hx)
 exact ⟨r,hr,hx⟩
theorem Aqh {t r x} (h:t.length=szs ts) (hr:r∈(asked ts t).2) (hx:x∈r):x∈t:=by
 rw [<- Aay h]
 exact Aav (by rw [Aaa h]; exact Al ..) (Ah _) (Bt8.mpr ⟨r,hr,hx⟩)
theorem Amu {α:Type} [DecidableEq α] {rs:List α} {r:α} (h:r∈rs):∃ hh,(hh,r)∈Bh rs:=by
 rw [<- (Abh rs).2] at h
 obtain ⟨p,hp,rfl⟩:=Ais h
 exact ⟨p.1,hp⟩
set_option tactic.hygienic true in
theorem Au9:∀ (f:Nat) (t:List V),t.length=szs ts->ts.length + 1<=(asked ts t).1 + f->∀ x∈t,∃ p∈Wf ts f t,p.2=x
 | 0,t,h,h1,x,hx=>by have:=Aah (ts:=ts) (t:=t); exact absurd (Be8 h1 this) (Nat.not_succ_le_self _)
 | f + 1,t,h,h1,x,hx=>by
  rw [As6]
  split
  · rename_i e
    obtain ⟨y,hy,wy⟩:=Abb h e
    rw [hy]
    rw [<- wy] at hx
    have:=Abw hx
    exact ⟨_,Bf7.mpr rfl,(Bf7.mp this).symm⟩
  · rename_i hn
    obtain ⟨r,hr,hxr⟩:=Aqn h hx
    obtain ⟨hh,hp⟩:=Amu hr
    obtain ⟨a,b⟩:=Abv h hr hn
    obtain ⟨q,hq,e⟩:=Au9 f (whole (szs ts) r) b (by exact r29 ‹_› ‹_›) x (Aav (Ajl h hr) (Ah _) hxr)
    obtain ⟨p,hp,e2⟩:=Amv (g:=fun s=>Wf ts f (whole (szs ts) s)) (v:=(asked ts t).1) (low:=0) hp hq
    exact ⟨p,hp,by rw [e2,e]⟩
noncomputable def Axa (nm:Nat->Str) (nums:Nat->List Int):V->V
 | .tup [.int v,.tup [.int lo,.int hi]]=>Abp (nm v.toNat) (Aaj (Abk (nums v.toNat) lo.toNat hi.toNat).1 (Abk (nums v.toNat) lo.toNat hi.toNat).2)
 | _=>.none
theorem Aj3 {nm nums v lo hi}:Axa nm nums (Aeb v lo hi)=Abp (nm v) (Aaj (Abk (nums v) lo hi).1 (Abk (nums v) lo hi).2):=by
 show Abp (nm (v:Int).toNat) (Aaj (Abk (nums (v:Int).toNat) (lo:Int).toNat (hi:Int).toNat).1 _)=_
 rw [Bz7,Bz7,Bz7]
theorem Ann {F:List V × V->V} {g:List V->List (List V × V)} {v e:Nat}:∀ {low:Nat} {L:List (Nat × Nat × List V)},Agk e low L ->
  L.flatMap (fun x=>(g x.2.2).map fun p=>F (Aeb v x.1 x.2.1 :: p.1,p.2))=(Amp g v low (L.map fun x=>(x.2.1,x.2.2))).map F
 | low,[],_=>rfl
 | low,(lo,hi,s) :: r,h=>by
  obtain ⟨h1,h2,h3⟩:=h
  dsimp only at h1 h2 h3
  subst h1
  rw [Bt1,Bh1,Aes,Bg2,Bi7,Ann h3]; rfl
theorem Ag4 {nm nums} (h3:ts.length=3):∀ (f v:Nat) (s st:List V),v<=3->4<=v + f->s.length=szs (ts.drop v) ->
  Ay ts nm nums f v s st=(Wf ts f (whole (szs ts) s)).map fun p=>Al9 (st ++ p.1.map (Axa nm nums)) p.2
 | 0,v,s,st,h1,h2,_=>by lia
 | f + 1,v,s,st,h1,h2,hs=>by
  have hlen:(whole (szs ts) s).length=szs ts:=Ab8 (by rw [hs]; exact Al ..)
  have ha:=Aaf (ts:=ts) (d:=v) (s:=s) (by exact r48 ‹_› ‹_›) hs
  rw [Agm,As6,ha]
  dsimp only
  by_cases q:v + (asked (ts.drop v) s).1=3
  · rw [if_pos q,if_pos (by lia)]; simp
  · rw [if_neg q,if_neg (by lia)]
    have At4:∀ r∈(asked (ts.drop v) s).2,r.length=szs (ts.drop (v + (asked (ts.drop v) s).1 + 1)):=fun r hr=>by
     have:=Acq (ts:=ts) (t:=whole (szs ts) s) hlen (r:=r) (by rw [ha]; exact hr)
     rw [ha] at this; exact this
    have hle:v + (asked (ts.drop v) s).1<=3:=by have:=Aah (ts:=ts) (t:=whole (szs ts) s); rw [ha,h3] at this; exact this
    generalize hat:v + (asked (ts.drop v) s).1=at_ at *
    have e1:(Aa (asked (ts.drop v) s).2).flatMap (fun x=>Ay ts nm nums f (at_ + 1) x.2.2 (st ++ [Abp (nm at_) (Aaj (Abk (nums at_) x.1 x.2.1).1 (Abk (nums at_) x.1 x.2.1).2)])) =
      (Aa (asked (ts.drop v) s).2).flatMap fun x=>((fun s=>Wf ts f (whole (szs ts) s)) x.2.2).map fun p=>(fun p:List V × V=>Al9 (st ++ p.1.map (Axa nm nums)) p.2) (Aeb at_ x.1 x.2.1 :: p.1,p.2):=by
     rw [Ce9,Ce9]
     congr 1
     refine Bj6 fun x hx=>?_
     obtain ⟨y1,_,_⟩:=Aak hx
     rw [Ag4 h3 f (at_ + 1) x.2.2 _ (by exact r53 ‹_› ‹_›) (by rw [<- hat,Bh4]; exact Be8 h2 (Bi6 (Bg9 ..) _)) (At4 _ y1)]
     refine Bj6 fun p _=>?_
     dsimp only
     rw [Bh1,Aj3,Bj1]; rfl
    rw [e1,Ann (F:=fun p:List V × V=>Al9 (st ++ p.1.map (Axa nm nums)) p.2) (g:=fun s=>Wf ts f (whole (szs ts) s)) (v:=at_) (Adj _)]
    rfl
end
inductive Reach (ch:Nat->Option (List Nat)) (k0:Nat):Nat->Prop
 | base:Reach ch k0 k0
 | step {m c:Nat} {cs:List Nat}:Reach ch k0 m->ch m=some cs->c∈cs->Reach ch k0 c
theorem Ait {ch k0 M} (h:Met ch (Reach ch k0) k0 M) (m:Nat):m∈M ↔ Reach ch k0 m/\ch m≠none:=by
 refine ⟨h.inn m,fun qM=>?_⟩
 obtain ⟨hr,hn⟩:=qM
 obtain ⟨S,s1,s2⟩:=h.all
 have:∀ {m},Reach ch k0 m->m∈S:=fun hr=>by
   induction hr with
   | base=>exact s1
   | step hr hc hm ih=>
    rcases s2 _ ih with e | ⟨_,e⟩
    · rw [hc] at e; cases e
    · exact e _ hc _ hm
 rcases s2 m (this hr) with e | e
 · exact absurd e hn
 · exact e.1
noncomputable def Acg (ts:List Nat) (T:List (List V)) (t:List V):List (Nat × Nat):=(Bh (asked ts t).2).map fun x=>(x.1,numOf ts T x.2)
noncomputable def chN (ts:List Nat) (T:List (List V)) (k:Nat):Option (List Nat):=match T[k]? with
 | some t=>if (asked ts t).1=ts.length then none else some ((Acg ts T t).map (·.2))
 | none=>none
noncomputable def B4 (ts:List Nat) (T:List (List V)) (u:List V):V:=if (asked ts u).1=ts.length then .tup [((asked ts u).2.headD []).headD .none,.str ""] else .tup [.str "goto",.str (nName (T.idxOf u))]
noncomputable def rlN (nm:Nat->Str) (nums:Nat->List Int) (ts:List Nat) (T:List (List V)) (m:Nat):Option V:=match T[m]? with
 | some t=>(Ab0 (Ajp (An ts T)) (nums (asked ts t).1) 0 (Acg ts T t)).map (Aoc (nm (asked ts t).1))
 | none=>none
noncomputable def Amz (nums:Nat->List Int) (ts:List Nat) (T:List (List V)) (u:List V):List V:=(Aa (asked ts u).2).flatMap fun x=>(Aae (nums (asked ts u).1) x.1 x.2.1).map (elV (B4 ts T (whole (szs ts) x.2.2)))
noncomputable def rvN (nm:Nat->Str) (nums:Nat->List Int) (ts:List Nat) (T:List (List V)) (m:Nat):V:=match T[m]? with
 | some u=>Aoc (nm (asked ts u).1) (Amz nums ts T u)
 | none=>.none
section
variable {ts:List Nat} {T:List (List V)}
theorem Ayt (H:Bc ts T) {u k} (hk:T[k]?=some u):Ajp (An ts T) k=if (asked ts u).1=ts.length/\Ar (((asked ts u).2.headD []).headD .none)=false then none else some (B4 ts T u):=by
 have hi:=Aci H.nd hk
 unfold Ajp
 rw [Abo hk]
 unfold canon B4
 by_cases q:(asked ts u).1=ts.length
 · rw [if_pos q,if_pos q]
   dsimp only
   rw [if_pos rfl]
   cases Ar (((asked ts u).2.headD []).headD .none) <;> simp [q]
 · rw [if_neg q,if_neg q,if_neg (fun h=>q h.1)]
   dsimp only
   rw [if_neg (by simp),hi]
theorem Aej {u} (h:u.length=szs ts) (e:(asked ts u).1=ts.length):(∀ x,x∈u ↔ x=((asked ts u).2.headD []).headD .none):=by
 obtain ⟨y,hy,wy⟩:=Abb h e
 intro x
 rw [hy]
 constructor
 · intro hx; rw [<- wy] at hx; simpa using Bf7.mp (Abw hx)
 · rintro rfl; rw [<- wy]; exact Aav (by simp) (Ah _) (by simp)
theorem Awr (H:Bc ts T) {u k} (hk:T[k]?=some u) (ho:∀ x∈u,Ar x=true):Ajp (An ts T) k=some (B4 ts T u):=by
 rw [Ayt H hk,if_neg]
 rintro ⟨a,b⟩
 have:=ho _ ((Aej (H.len u (Bg0 hk)) a _).mpr rfl)
 rw [b] at this; cases this
theorem Ahq {vd:Nat->Option V} {nums:List Int} {num:List V->Nat} {said:List V->V} {e:Nat}:∀ {low:Nat} {L:List (Nat × Nat × List V)},Agk e low L->(∀ x∈L,vd (num x.2.2)=some (said x.2.2)) ->
  Ab0 vd nums low (L.map fun x=>(x.2.1,num x.2.2))=some (L.flatMap fun x=>(Aae nums x.1 x.2.1).map (elV (said x.2.2)))
 | low,[],_,_=>rfl
 | low,(lo,hi,s) :: r,h,k=>by
  obtain ⟨h1,h2,h3⟩:=h
  dsimp only at h1 h2 h3
  subst h1
  rw [Bh1,Ae5,k _ (.head _)]
  dsimp only
  rw [Ahq h3 fun x hx=>k x (.tail _ hx),Bt1]
theorem Afj {vd nums}:∀ {low l els},Ab0 vd nums low l=some els->∀ p∈l,∃ v,vd p.2=some v
 | low,[],els,_,p,hp=>by cases hp
 | low,(h,c) :: r,els,e,p,hp=>by
  rw [Ae5] at e
  cases q:vd c with
  | none=>rw [q] at e; cases e
  | some v=>
   rw [q] at e
   dsimp only at e
   cases q2:Ab0 vd nums (h + 1) r with
   | none=>rw [q2] at e; cases e
   | some els'=>
    rcases Bi0.mp hp with rfl | hp
    · exact ⟨v,q⟩
    · exact Afj q2 p hp
theorem Adu (H:Bc ts T) {u} (hu:u∈T) {r} (hr:r∈(asked ts u).2):T[numOf ts T r]?=some (whole (szs ts) r):=Aca (H.cl u hu r hr)
theorem Aqu {u}:Acg ts T u=(Aa (asked ts u).2).map fun x=>(x.2.1,numOf ts T x.2.2):=by
 unfold Acg Bh; rw [Bi7]; rfl
theorem Ayv (H:Bc ts T) {nm:Nat->Str} {nums:Nat->List Int} {u:List V} {m:Nat} (hm:T[m]?=some u) (ho:∀ x∈u,Ar x=true):rlN nm nums ts T m=some (rvN nm nums ts T m):=by
 have hu:=Bg0 hm
 unfold rlN rvN
 rw [hm]
 dsimp only
 rw [Aqu,Ahq (said:=fun s=>B4 ts T (whole (szs ts) s)) (Adj _) fun x hx=>?_]
 · rfl
 · obtain ⟨y1,_,_⟩:=Aak hx
   refine Awr H (Adu H hu y1) fun z hz=>ho z (Aqh (H.len u hu) y1 (Abw hz))
theorem Ac0 (H:Bc ts T) {t k0} (hk:T[k0]?=some t) {m} (h:Reach (chN ts T) k0 m):∃ u,T[m]?=some u/\∀ x∈u,x∈t:=by
 induction h with
 | base=>exact ⟨t,hk,fun x h=>h⟩
 | @step m c cs hr hc hm ih=>
  obtain ⟨u,hu,hs⟩:=ih
  have hum:=Bg0 hu
  unfold chN at hc
  rw [hu] at hc
  dsimp only at hc
  split at hc
  · cases hc
  · cases hc
    obtain ⟨p,hp,rfl⟩:=Bh3.mp hm
    obtain ⟨x,hx,rfl⟩:=Bh3.mp hp
    have hr:=Abr hx
    exact ⟨_,Adu H hum hr,fun y hy=>hs y (Aqh (H.len u hum) hr (Abw hy))⟩
theorem An2 (H:Bc ts T) {nm:Nat->Str} {nums:Nat->List Int} {S M:List Nat} (hs:∀ s∈S,chN ts T s=none∨(s∈M/\∀ cs,chN ts T s=some cs->∀ c∈cs,c∈S)) (hrl:∀ m∈M,rlN nm nums ts T m≠none) :
  ∀ (f:Nat) (u:List V) (m:Nat) (x:V),T[m]?=some u->ts.length<=(asked ts u).1 + f->m∈S->Ajp (An ts T) m≠none->x∈u->Ar x=true
 | f,u,m,x,hm,hf,hS,hv,hx=>by
  have hu:=Bg0 hm
  have hul:=H.len u hu
  by_cases q:(asked ts u).1=ts.length
  · rw [Ayt H hm] at hv
    have hx':=(Aej hul q x).mp hx
    rw [hx']
    cases o:Ar (((asked ts u).2.headD []).headD .none) with
    | true=>rfl
    | false=>rw [if_pos ⟨q,o⟩] at hv; exact absurd rfl hv
  · have hle:=Aah (ts:=ts) (t:=u)
    match f,hf with
    | 0,hf=>lia
    | f + 1,hf=>
     obtain ⟨r,hr,hxr⟩:=Aqn hul hx
     obtain ⟨hh,hp⟩:=Amu hr
     obtain ⟨a,b⟩:=Abv hul hr q
     have Bcb:(hh,numOf ts T r)∈Acg ts T u:=Bh3.mpr ⟨(hh,r),hp,rfl⟩
     have hch:chN ts T m=some ((Acg ts T u).map (·.2)):=by unfold chN; rw [hm]; dsimp only; rw [if_neg q]
     rcases hs m hS with e | ⟨e1,e2⟩
     · rw [hch] at e; cases e
     · have hc:=e2 _ hch (numOf ts T r) (Bh3.mpr ⟨_,Bcb,rfl⟩)
       have hr1:=hrl m e1
       have hvd:Ajp (An ts T) (numOf ts T r)≠none:=by
        unfold rlN at hr1
        rw [hm] at hr1
        dsimp only at hr1
        cases z:Ab0 (Ajp (An ts T)) (nums (asked ts u).1) 0 (Acg ts T u) with
        | none=>rw [z] at hr1; exact absurd rfl hr1
        | some els=>
         obtain ⟨v,hv⟩:=Afj z _ Bcb
         dsimp only at hv
         rw [hv]; simp
       exact An2 H hs hrl f (whole (szs ts) r) _ x (Adu H hu hr) (by exact Be8 hf (by rw [<- Br6,Bh4]; exact Bi6 a _)) hc hvd (Aav (Ajl hul hr) (Ah _) hxr)
theorem Aq5 (H:Bc ts T) {u k} (hk:T[k]?=some u) (hl:T.length<=20):Akr (An ts T) k:=by
 obtain ⟨hd,ab,g1,g2,g3,g4,g5⟩:=Aas ts T u
 have hkl:=(Bf8.mp hk).1
 refine ⟨hd,ab,by rw [Abo hk,g1],by exact r38 ‹_› ‹_›,g2,g3,fun e=>?_⟩
 rcases g5 with ⟨a1,a2,a3⟩ | ⟨a1,a2,a3⟩
 · have hu:=Bg0 hk
   have:=(Aej (H.len u hu) a1 _).mpr rfl
   have hkv:=H.val u hu _ this
   rw [a3]
   exact ⟨V.Aal _ hkv.1,by rw [hkv.2]; exact r57 ‹_›⟩
 · rw [a2] at e; cases e
end
section
variable {w:World} {n:Nat} {σ:Sto} {ts:List Nat} {dn db dm lg pl:Addr} {T:List (List V)} {Q:V->Sto->Prop} {Y:Str->Sto->Prop} {names:List Str} {les:List (Str × V)} {pr:Str->Str} {nd:Str->List (Str × Int)} {nm:Nat->Str} {nums:Nat->List Int}
theorem Avn {nums lo hi a b} (h:nums≠[]) (hle:lo<=hi) (ha:nums[lo]?=some a) (hb:nums[hi]?=some b):Abk nums lo hi=(a,b):=by
 have hh:=(Bf8.mp hb).1
 unfold Abk Aae
 rw [if_neg h,List.head?_map,Bv9]
 have e1:(slc (some lo) (some (hi + 1)) nums).head?=some a:=by
  simp only [slc,Bm2]
  rw [List.head?_drop,List.getElem?_take,if_pos (by lia),ha]
 have e2:(slc (some lo) (some (hi + 1)) nums).getLast?=some b:=by
  simp only [slc,Bm2]
  rw [List.getLast?_eq_getElem?,List.getElem?_drop,List.getElem?_take,Bp0,Bn5,show lo + (min (hi + 1) nums.length - lo - 1)=hi by exact r25 ‹_› ‹_›,if_pos (by lia),hb]
 rw [e1,e2]; rfl
theorem Akl {g v e}:∀ {low l p},As e low l->p∈Amp g v low l->∃ x∈l,∃ q∈g x.2,∃ lo,p.1=Aeb v lo x.1 :: q.1/\low<=lo/\lo<=x.1/\x.1 < e/\(lo=0->x.1 + 1=e->l=[x])
 | _,[],p,_,h=>by cases h
 | low,(hh,s) :: r,p,hr,h=>by
  obtain ⟨h1,h2,h3⟩:=hr
  dsimp only at h1 h2 h3
  rw [Aes] at h
  rcases Bh9.mp h with h | h
  · obtain ⟨q,hq,rfl⟩:=Bh3.mp h
    refine ⟨(hh,s),.head _,q,hq,low,rfl,Bh7 _,h1,h2,fun _ e1=>?_⟩
    cases r with
    | nil=>rfl
    | cons y r=>have:=h3.1; have:=h3.2.1; dsimp only at e1; lia
  · obtain ⟨x,hx,q,hq,lo,a1,a2,a3,a4,a5⟩:=Akl h3 h
    exact ⟨x,.tail _ hx,q,hq,lo,a1,by lia,a3,a4,fun e1=>by lia⟩
set_option tactic.hygienic true in
theorem Alo {ts}:∀ (f:Nat) (t:List V),t.length=szs ts->∀ p∈Wf ts f t,∀ s∈p.1,∃ v lo hi top,s=Aeb v lo hi/\ts[v]?=some top/\lo<=hi/\hi<=top/\¬ (lo=0/\hi=top)
 | 0,t,h,p,hp,s,hs=>by cases hp
 | f + 1,t,h,p,hp,s,hs=>by
  rw [As6] at hp
  split at hp
  · rw [Bf7.mp hp] at hs; cases hs
  · rename_i hn
    have hle:=Aah (ts:=ts) (t:=t)
    have hlt:(asked ts t).1 < ts.length:=by exact r53 ‹_› ‹_›
    obtain ⟨top,Ba⟩:∃ top,ts[(asked ts t).1]?=some top:=⟨_,Bf1 hlt⟩
    have hrl:=Aa5 Ba
    have hr:=(Abh (asked ts t).2).1
    obtain ⟨x,hx,q,hq,lo,e1,e2,e3,e4,e5⟩:=Akl hr hp
    have hxr:=Abr hx
    rw [e1] at hs
    rcases Bi0.mp hs with rfl | hs
    · refine ⟨_,lo,x.1,top,rfl,Ba,e3,by lia,fun qM=>?_⟩
      obtain ⟨c1,c2⟩:=qM
      have Bbk:=e5 c1 (by lia)
      have Az3:=Anc (e:=0) (p:=x) (rows:=(asked ts t).2) (by rw [<- Bbk]; exact (Abh _).2)
      have hd:=Agi hlt
      have Aty:(asked ts t).2=Bg8 (asked ts t).2.length x.2:=Cg4.mpr ⟨rfl,Az3⟩
      rw [Aty,Alk] at hd; cases hd
    · exact Alo f _ (Abv h hxr hn).2 q hq s hs
structure Aie (names:List Str) (ts:List Nat) (les:List (Str × V)) (nm:Nat->Str) (nums:Nat->List Int):Prop where
 get:∀ v,v < 3->names[v]?=some (nm v)
 les:∀ v,v < 3->(Am les (nm v)=none/\nums v=[])∨(Am les (nm v)=some (.tup ((nums v).map .int))/\nums v≠[])
 len:∀ v,v < 3->(nums v).length<=10
 big:∀ v,v < 3->nums v=[]∨∀ p,ts[v]?=some p->p < (nums v).length
theorem Ade {k:Nat} {t:List V} {base:Str} (H:Bc ts T) (h3:ts.length=3) (ht2:∀ p∈ts,p<=2) (hpl:σ pl=some (.A5 (placeOf names))) (hnl:names.length<=100) (hnm:∀ x∈names,Aec x (pr x) (nd x)) (hlg:σ lg=some (.A5 les)) (N:Aie names ts les nm nums)
   (h:σ dn=some (.list (An ts T))) (hk:T[k]?=some t) (hTl:T.length<=20) (hb:base.length<=100) (Af6:(∀ m,m < 20->nName m≠base)∨∀ x∈t,Ar x=true)
   (h1:∀ y,B2 nd names names=some y->Y y σ) (h2:B2 nd names names=none->(∃ x∈t,Ar x=false)->Y "a leaf that is no verdict" σ)
   (h3':B2 nd names names=none->(∀ x∈t,Ar x=true)->(∃ m,Reach (chN ts T) k m/\chN ts T m≠none/\nName m=base)->Y "the base chain has a node's name" σ)
   (hq:B2 nd names names=none->(∀ x∈t,Ar x=true)->∀ M,Met (chN ts T) (Reach (chN ts T) k) k M->(∀ m∈M,nName m≠base)->∀ r,σ r=none->Q (.loc r) (σ.put r (.A5 (Ai base (B4 ts T t) (rvN nm nums ts T) M)))) :
   Fn (PM w) (n + 6) (.ref 243) [B9 ts dn db dm,Abl names ts lg pl,.int k,.str base] σ Q Y:=by
 have hkl:=(Bf8.mp hk).1
 have lim:∀ {m},Reach (chN ts T) k m->m < 20:=fun hm=>by
   obtain ⟨u,hu,_⟩:=Ac0 H hk hm
   have:=(Bf8.mp hu).1; exact r38 ‹_› ‹_›
 have okAll:(∀ x∈t,Ar x=true)∨∃ x∈t,Ar x=false:=by
   by_cases q:∀ x∈t,Ar x=true
   · exact .inl q
   · right
     cases e:t.find? fun x=>!Ar x with
     | none=>
       rw [By3] at e
       exact absurd (fun x hx=>by have:=e x hx; simpa using this) q
     | some x=>exact ⟨x,Cc4 e,by have:=List.find?_some e; simpa using this⟩
 refine Apz (D:=An ts T) (chN ts T) (Reach (chN ts T) k) (rlN nm nums ts T) hpl hnl hnm hlg h .base (Aq5 H hk hTl) hb (fun m hm=>?_) h1 (fun e1 e2=>?_) (fun e1 M hM ⟨m,hm,e⟩=>?_) (fun e1 M hM ⟨m,hm,e⟩=>?_) (fun e1 M vt rv hM e2 e3 r hr=>?_)
 · obtain ⟨u,hu,hs⟩:=Ac0 H hk hm
   have hum:=Bg0 hu
   refine ⟨lim hm,?_⟩
   have hle:=Aah (ts:=ts) (t:=u)
   by_cases q:(asked ts u).1=ts.length
   · left
     refine ⟨((asked ts u).2.headD []).headD .none,by rw [Abo hu]; unfold canon; rw [if_pos q],?_⟩
     unfold chN; rw [hu]; dsimp only; rw [if_pos q]
   · right
     have hv3:(asked ts u).1 < 3:=by exact h3 ▸ Bu6 hle q
     have hch:chN ts T m=some ((Acg ts T u).map (·.2)):=by unfold chN; rw [hu]; dsimp only; rw [if_neg q]
     refine ⟨(asked ts u).1,Acg ts T u,by rw [Abo hu]; unfold canon; rw [if_neg q]; unfold Acg; rw [Bi7]; rfl,?_,hch,fun p hp=>.step hm hch (Bi8 hp),nm (asked ts u).1,nums (asked ts u).1,N.get _ hv3,by exact r43 ‹_›,N.les _ hv3,N.len _ hv3,fun p hp=>?_,?_⟩
     · have:=Ag1 (rs:=(asked ts u).2)
       have h11:=(Aam (t:=u) (ts:=ts) fun p hp=>by have:=ht2 p hp; exact r43 ‹_›).1
       have hlt:(asked ts u).1 < ts.length:=by exact r46 ‹_› ‹_›
       rw [Aa5 (Bf1 hlt)] at this
       have:=ht2 _ (Bl7 hlt)
       unfold Acg; rw [Bf0]; lia
     · obtain ⟨x,hx,rfl⟩:=Bh3.mp hp
       exact Aq5 H (Adu H hum (Abr hx)) hTl
     · unfold rlN; rw [hu]
 · rcases okAll with o | o
   · rw [Awr H hk o] at e2; cases e2
   · exact h2 e1 o
 · rcases okAll with o | o
   · exact h3' e1 o ⟨m,(hM.inn m hm).1,(hM.inn m hm).2,e⟩
   · rcases Af6 with b | b
     · exact absurd e (b m (lim (hM.inn m hm).1))
     · obtain ⟨x,hx,e'⟩:=o
       rw [b x hx] at e'; cases e'
 · rcases okAll with o | o
   · obtain ⟨u,hu,hs⟩:=Ac0 H hk (hM.inn m hm).1
     rw [Ayv H hu fun x hx=>o x (hs x hx)] at e; cases e
   · exact h2 e1 o
 · rcases okAll with o | o
   · rw [Awr H hk o] at e2
     cases e2
     have hc:Ai base (B4 ts T t) rv M=Ai base (B4 ts T t) (rvN nm nums ts T) M:=by
       unfold Ai
       congr 1
       refine Bj6 fun m hm=>?_
       obtain ⟨u,hu,hs⟩:=Ac0 H hk (hM.inn m hm).1
       have:=(e3 m hm).2
       rw [Ayv H hu fun x hx=>o x (hs x hx)] at this
       rw [Br1 this]
     rw [hc]
     exact hq e1 o M hM (fun m hm=>(e3 m hm).1) r hr
   · exfalso
     obtain ⟨x,hx,e⟩:=o
     obtain ⟨S,s1,s2⟩:=hM.all
     have:=An2 H (nm:=nm) (nums:=nums) s2 (fun m hm=>by rw [(e3 m hm).2]; simp) ts.length t k x hk (by lia) s1 (by rw [e2]; simp) hx
     rw [this] at e; cases e
theorem Agq {k most:Nat} {t:List V} {base:Str} (H:Bc ts T) (h3:ts.length=3) (ht2:∀ p∈ts,p<=2) (hpl:σ pl=some (.A5 (placeOf names))) (hnl:names.length<=100) (hnm:∀ x∈names,Aec x (pr x) (nd x)) (hlg:σ lg=some (.A5 les)) (N:Aie names ts les nm nums)
   (h:σ dn=some (.list (An ts T))) (hk:T[k]?=some t) (hTl:T.length<=20) (Apw:(Ay ts nm nums 4 0 t []).length<=most)
   (h1:∀ y,B2 nd names names=some y->Y y σ) (h2:B2 nd names names=none->(∃ x∈t,Ar x=false)->Y "a leaf that is no verdict" σ)
   (hq:B2 nd names names=none->(∀ x∈t,Ar x=true)->∀ r,σ r=none->Q (.loc r) (σ.put r (.A5 [(base,.lst (Ay ts nm nums 4 0 t []))]))) :
   Fn (PM w) (n + 5) (.ref 257) [B9 ts dn db dm,Abl names ts lg pl,.int k,.str base,.int most] σ Q Y:=by
 have ht:=Bg0 hk
 have htl:=H.len t ht
 have hlw:Ay ts nm nums 4 0 t []=(Wf ts 4 t).map (Aku (Axa nm nums)):=by
   rw [Ag4 h3 4 0 t [] (by lia) (by lia) (by rw [Bo9]; exact htl)]
   have:whole (szs ts) t=t:=by rw [<- htl]; exact Ab1 (by rw [htl]; exact Ah _)
   rw [this]
   exact Bj6 fun p _=>by simp [Al9,Aku]
 have hws:∀ {m:Nat} {u:List V},T[m]?=some u->(T.getD m [])=u:=fun {m u} hu=>by rw [Bj9,hu]; rfl
 rw [hlw,Bf0] at Apw
 have hwl:=Aqa 4 t ht2
 refine Asw (D:=An ts T) (fun m=>Wf ts 4 (T.getD m [])) (fun m=>4 ^ (4 - (asked ts (T.getD m [])).1)) (fun m=>m < T.length) (Axa nm nums) hpl hnl hnm hlg h ((Bf8.mp hk).1) (fun m hm=>?_) ?_ ?_ ?_ (fun p hp=>?_) h1 (fun e1 e2=>?_) (fun e1 e2 r hr=>?_)
 · obtain ⟨u,hu⟩:∃ u,T[m]?=some u:=⟨_,Bf1 hm⟩
   have hum:=Bg0 hu
   have hul:=H.len u hum
   have hle:=Aah (ts:=ts) (t:=u)
   try dsimp only
   rw [hws hu]
   refine ⟨by exact Bh0 hm (Be8 hTl (by decide)),By4 (by simp),?_⟩
   by_cases q:(asked ts u).1=ts.length
   · left
     refine ⟨((asked ts u).2.headD []).headD .none,by rw [Abo hu]; unfold canon; rw [if_pos q],?_⟩
     rw [As6,if_pos q]
   · right
     have hlt:(asked ts u).1 < ts.length:=by exact r53 ‹_› ‹_›
     have hsl:=Ag1 (rs:=(asked ts u).2)
     rw [Aa5 (Bf1 hlt)] at hsl
     have htp:=ht2 _ (Bl7 hlt)
     refine ⟨(asked ts u).1,Acg ts T u,by rw [Abo hu]; unfold canon; rw [if_neg q]; unfold Acg; rw [Bi7]; rfl,by unfold Acg; rw [Bf0]; lia,fun p hp=>?_,?_,?_⟩
     · obtain ⟨x,hx,rfl⟩:=Bh3.mp hp
       exact (Bf8.mp (Adu H hum (Abr hx))).1
     · rw [As6,if_neg q]
       have:∀ (l:List (Nat × List V)) (low:Nat),(∀ x∈l,x.2∈(asked ts u).2)->Amp (fun s=>Wf ts 3 (whole (szs ts) s)) (asked ts u).1 low l=Adt (fun m=>Wf ts 4 (T.getD m [])) (asked ts u).1 low (l.map fun x=>(x.1,numOf ts T x.2)):=by
         intro l
         induction l with
         | nil=>intro _ _; rfl
         | cons x l ih=>
          intro low hx
          obtain ⟨hh,s⟩:=x
          have hs:=hx _ (.head _)
          obtain ⟨a,b⟩:=Abv hul hs q
          rw [Aes,Bh1,Aky,ih _ fun y hy=>hx y (.tail _ hy),hws (Adu H hum hs),Ari 3 4 _ b (by rw [h3]; exact (show 1 + 3<=_ from Bi6 (Be8 (Bg4 (Bh2 _)) a) 3)) (by rw [h3]; exact Bq0 ..)]
       exact this _ 0 fun x hx=>Abr hx
     · have hk3:∀ p∈Acg ts T u,4 ^ (4 - (asked ts (T.getD p.2 [])).1)<=4 ^ (3 - (asked ts u).1):=fun p hp=>by
         obtain ⟨x,hx,rfl⟩:=Bh3.mp hp
         have hs:=Abr hx
         obtain ⟨a,b⟩:=Abv hul hs q
         rw [hws (Adu H hum hs)]
         exact Ca8 (by lia) (by exact r10 ‹_›)
       have:∀ (l:List (Nat × Nat)),(∀ p∈l,4 ^ (4 - (asked ts (T.getD p.2 [])).1)<=4 ^ (3 - (asked ts u).1))->(l.map fun p=>4 ^ (4 - (asked ts (T.getD p.2 [])).1)).sum<=l.length * 4 ^ (3 - (asked ts u).1):=by
         intro l
         induction l with
         | nil=>intro _; simp
         | cons p l ih=>intro hp; have:=ih fun z hz=>hp z (.tail _ hz); have:=hp p (.head _); rw [Bh1,Cj1,Bh5,Bx7]; rw [Bm0]; exact Bo5 ‹_› ‹_›
       have h4:=this _ hk3
       have hkl:(Acg ts T u).length<=3:=by unfold Acg; rw [Bf0]; lia
       have h5:(Acg ts T u).length * 4 ^ (3 - (asked ts u).1)<=3 * 4 ^ (3 - (asked ts u).1):=Nat.mul_le_mul_right _ hkl
       have h6:4 ^ (4 - (asked ts u).1)=4 ^ (3 - (asked ts u).1) * 4:=by rw [<- Cl3]; congr 1; exact r27 ‹_› ‹_› ‹_›
       have h7:0 < 4 ^ (3 - (asked ts u).1):=By4 (by simp)
       rw [h6]; exact Be8 (Bg4 (Be8 h4 h5)) (by rw [Br7 3]; exact Nat.mul_lt_mul_of_pos_left (by decide) h7)
 · rw [hws hk]; exact Apw
 · rw [hws hk]; have:(3:Nat) ^ 4=81:=by decide
   exact r43 ‹_›
 · try dsimp only
   have:(4:Nat) ^ (4 - (asked ts (T.getD k [])).1)<=4 ^ 4:=Ca8 (by lia) (by exact r35)
   have e:(4:Nat) ^ 4=256:=by decide
   exact r43 ‹_›
 · try dsimp only at hp
   rw [hws hk] at hp
   obtain ⟨v1,v2⟩:=Anh 4 t htl p hp
   have hkv:=H.val t ht _ v1
   refine ⟨by exact r43 ‹_›,V.Aal _ hkv.1,by rw [hkv.2]; lia,fun s hs=>?_⟩
   obtain ⟨v,lo,hi,top,rfl,e2,e3,e4,e5⟩:=Alo 4 t htl p hp s hs
   have hv3:v < 3:=by rw [<- h3]; exact (Bf8.mp e2).1
   have htp:=ht2 _ (Bg0 e2)
   rcases N.les v hv3 with ⟨l1,l2⟩ | ⟨l1,l2⟩
   · exact ⟨v,lo,hi,top,nm v,lo,hi,rfl,N.get v hv3,e2,by lia,e5,by exact Bg7 (Be8 e3 (Be8 e4 htp)) (by decide),by lia,.inl ⟨l1,rfl,rfl⟩,by rw [Aj3,l2]; rfl⟩
   · have Be2:hi < (nums v).length:=by
       rcases N.big v hv3 with b | b
       · exact absurd b l2
       · have:=b top e2; exact r40 ‹_› ‹_›
     obtain ⟨a,ha⟩:∃ a,(nums v)[lo]?=some a:=⟨_,Bf1 (by exact r40 ‹_› ‹_›)⟩
     obtain ⟨b,hb⟩:∃ b,(nums v)[hi]?=some b:=⟨_,Bf1 Be2⟩
     exact ⟨v,lo,hi,top,nm v,a,b,rfl,N.get v hv3,e2,by lia,e5,by exact Bg7 (Be8 e3 (Be8 e4 htp)) (by decide),by lia,.inr ⟨nums v,l1,ha,hb⟩,by rw [Aj3,Avn l2 e3 ha hb]⟩
 · try dsimp only at e2
   rw [hws hk] at e2
   obtain ⟨p,hp,e⟩:=e2
   exact h2 e1 ⟨p.2,(Anh 4 t htl p hp).1,e⟩
 · try dsimp only at e2
   rw [hws hk] at e2
   have:=hq e1 (fun x hx=>by
     obtain ⟨p,hp,e⟩:=Au9 4 t htl (by lia) x hx
     rw [<- e]; exact e2 p hp) r hr
   rw [hlw] at this
   try dsimp only
   rw [hws hk]; exact this
end
noncomputable def Au7:List (Str × Str × List (Str × Int)):=[("meta nfproto","meta",[]),("ip ecn","ip",[("meta nfproto",2)]),("meta mark","meta",[]),("icmp type","icmp",[("meta nfproto",2),("meta l4proto",1)]),("meta l4proto","meta",[]),("ct state","ct",[]),
 ("vlan id","vlan",[("ether type",33024)]),("ether type","ether",[]),("arp operation","arp",[("meta protocol",2054)]),("meta protocol","meta",[]),("th sport","th",[]),("udp length","udp",[("meta l4proto",17)])]
noncomputable def prP (x:Str):Str:=((Au7.lookup x).map (·.1)).getD ""
noncomputable def ndP (x:Str):List (Str × Int):=((Au7.lookup x).map (·.2)).getD []
theorem Afc:∀ e∈Aeu,e.name.length<=100/\(decide (e.name.length < (" " : Str).length) || decide (Bs8 e.name < Bs8 " "))=false/\(Bo2 e.name " " 0 e.name.length (e.name.length + 1)).isEmpty=false ∧
 (Bs5 e.name (Bo2 e.name " " 0 e.name.length (e.name.length + 1)) (" " : Str).length=prP e.name :: (Bs5 e.name (Bo2 e.name " " 0 e.name.length (e.name.length + 1)) (" " : Str).length).tail ∧
  (Bs5 e.name (Bo2 e.name " " 0 e.name.length (e.name.length + 1)) (" " : Str).length).tail.length<=100) ∧
 (∀ q∈ndP e.name,q.1.length<=100) ∧
 Aet (prP e.name)=(ndP e.name).map (·.1)/\(∀ q∈Aet (prP e.name),q.length<=100):=by decide +kernel
noncomputable def Bci {α:Type} (P:α->Prop):List α->Prop
 | []=>True
 | a :: l=>P a/\Bci P l
theorem allM {α:Type} {P} (l:List α) (h:Bci P l):∀ e∈l,P e:=by
 induction l with
 | nil=>exact fun _ h=>nomatch h
 | cons a l ih=>exact fun e he=>by cases he with | head=>exact h.1 | tail _ m=>exact ih h.2 e m
theorem Aq2:∀ e∈Aeu,(prP e.name∈(["meta","ct"]:List Str)/\ndP e.name=[])∨(prP e.name ∉ (["meta","ct"]:List Str)/\Am Ah3 (prP e.name)=some (.tup ((ndP e.name).map Ae9))):=by
 refine allM _ ⟨?_,?_,?_,?_,?_,?_,?_,?_,?_,?_,?_,?_,trivial⟩ <;> first | exact .inl ⟨by decide,rfl⟩ | exact .inr ⟨by decide,rfl⟩
theorem Awv {e} (h:e∈Aeu):Aec e.name (prP e.name) (ndP e.name):=by
 obtain ⟨a,b,c,d,g,_,_⟩:=Afc e h
 exact ⟨a,b,c,⟨_,d.1,d.2⟩,Aq2 e h,g⟩
theorem Auq {names nd lnd} (hn:names.Nodup) (h:∀ x∈names,lnd x=(nd x).map (·.1)):∀ (pre r:List Str),names=pre ++ r->Agh lnd r=(B2 nd names r).getD ""
 | pre,[],_=>rfl
 | pre,x :: r,e=>by
  rw [Amg,Aru,h x (by rw [e]; simp),Co4]
  have hx:names.idxOf x=pre.length:=by
   rw [e,Br8,if_neg,List.idxOf_cons_self]; lia
   rw [e,Bm6] at hn
   exact fun hm=>hn.2.2 x hm x (.head _) rfl
  have hp:((fun q:Str=>decide (q∈r)) ∘ fun q:Str × Int=>q.1)=fun q:Str × Int=>decide (q.1∈names/\names.idxOf x < names.idxOf q.1):=funext fun q=>by
   simp only [Bt2]
   rw [Bv7,decide_eq_true_iff,decide_eq_true_iff,hx]
   have hn':=hn
   rw [e,Bm6,Br9] at hn'
   constructor
   · intro hq
     refine ⟨by rw [e]; simp [hq],?_⟩
     have n1:q.1 ∉ pre:=fun hm=>hn'.2.2 _ hm _ (.tail _ hq) rfl
     have n2:q.1≠x:=fun he=>hn'.2.1.1 (he ▸ hq)
     rw [e,Br8,if_neg n1,Cb4,show (x == q.1)=false by simpa using Bq3 n2]; simp only [cond_false]; lia
   · rintro ⟨h1,h2⟩
     rw [e] at h1 h2
     rcases Bh9.mp h1 with h1 | h1
     · rw [Br8,if_pos h1] at h2
       have:=Bk2 h1; lia
     · rcases Bi0.mp h1 with h1 | h1
       · rw [h1,<- e,hx] at h2; lia
       · exact h1
  rw [hp]
  cases q:(nd x).find? fun q:Str × Int=>decide (q.1∈names/\names.idxOf x < names.idxOf q.1) with
  | none=>
   simp only [Option.map_none]
   exact Auq hn h (pre ++ [x]) r (by rw [e]; simp)
  | some q=>simp
theorem Aut {nd all}:∀ {l y},B2 nd all l=some y->y≠""
 | [],y,h=>by cases h
 | x :: r,y,h=>by
  rw [Aru] at h
  split at h
  · cases h
    unfold Ahr
    intro e
    have:=congrArg Str.length e
    simp only [PySem.Str.length_append] at this
    have h1:("" : Str).length=0:=by decide +kernel
    have h2:(Bf5 " stands ahead of ").length=17:=by decide +kernel
    lia
  · exact Aut h
theorem As0 {K:Type} [DecidableEq K] {es:List (K × V)} {k:K} {v:V} (h1:es.any (fun kv=>decide (kv.1=k))=true) (h2:∀ kv∈es,kv.1=k->kv.2=v):dput es k v=es:=by
 unfold dput
 rw [if_pos h1]
 conv=>rhs; rw [<- Cn2 es]
 refine Bj6 fun kv hkv=>?_
 by_cases q:kv.1=k
 · rw [if_pos q]
   show (kv.1,v)=kv
   rw [<- h2 kv hkv q]
 · rw [if_neg q]; rfl
theorem Avs {ts T v s x} (h3:ts.length=3) (hv:v<=3) (hs:s.length=szs (ts.drop v)) (hx:s[0]?=some x) :
   (if v + (asked (ts.drop v) s).1=3 then V.tup [x,.str ""] else .tup [.str "goto",.str (nName (numOf ts T s))])=B4 ts T (whole (szs ts) s):=by
 have hlen:(whole (szs ts) s).length=szs ts:=Ab8 (by rw [hs]; exact Al ..)
 have ha:=Aaf (ts:=ts) (d:=v) (s:=s) (by exact r48 ‹_› ‹_›) hs
 unfold B4
 by_cases q:v + (asked (ts.drop v) s).1=3
 · have e1:(asked ts (whole (szs ts) s)).1=ts.length:=by rw [ha,h3]; exact q
   rw [if_pos q,if_pos e1]
   have:=(Aej hlen e1 x).mp (Aav (by rw [hs]; exact Al ..) (Ah _) (Bg0 hx))
   rw [<- this]
 · have e1:¬ (asked ts (whole (szs ts) s)).1=ts.length:=by rw [ha,h3]; exact q
   rw [if_neg q,if_neg e1]; rfl
theorem Aip (k:Nat):0 < 4 ^ k:=Nat.pow_pos (by decide)
theorem Ard:∀ (l:List (List V × Nat)),l.length<=(l.map fun y=>4 ^ (4 - y.2)).sum
 | []=>Bh7 _
 | y :: l=>by
  rw [Bh1,Cj1,Bh5,Bm0]
  exact Bo5 (Aip _) (Ard l)
theorem Aqr (p:Nat):∀ (l:List (Nat × Nat × List V)),((l.map fun y:Nat × Nat × List V=>(y.2.2,p)).map fun y:List V × Nat=>4 ^ (4 - y.2)).sum=l.length * 4 ^ (4 - p)
 | []=>(Nat.zero_mul _).symm
 | y :: l=>by
  rw [Bh1,Bh1,Cj1,Aqr p l,Bh5,Bx7,Bm0]
noncomputable abbrev wtV (y:List V × Nat):V:=.tup [.tup y.1,.int y.2]
section
variable {w:World} {n:Nat} {σ:Sto} {Q:V->Sto->Prop} {Y:Str->Sto->Prop} {a:Wo} {wl nl:Addr} {T:List (List V)} {les:List (Str × V)} {nm:Nat->Str} {nums:Nat->List Int}
theorem Aif {k:Nat} {t:List V} {base:Str} (H:Bc a.A1 T) (h3:a.A1.length=3) (ht2:∀ p∈a.A1,p<=2) (hw:σ wl=some (.A5 a.es)) (hnu:σ nl=some (.Ad (Ap (T.map .tup)))) (hlg:σ a.lg=some (.A5 les)) (N:Aie a.names a.A1 les nm nums)
   (hs:szs a.A1<=100) (hc:a.cells.length=szs a.A1) (hk:T[k]?=some t) (hTl:T.length<=20) (hb:base.length<=100) (Af6:∀ m,Reach (chN a.A1 T) k m->chN a.A1 T m≠none->nName m≠base)
   (hq:∀ M,Met (chN a.A1 T) (Reach (chN a.A1 T) k) k M->∀ r,σ r=none->Q (.loc r) (σ.put r (.A5 (Ai base (B4 a.A1 T t) (rvN nm nums a.A1 T) M)))) :
   Fn (PM w) (n + 4) (.ref 382) [.loc wl,.loc nl,.tup t,.str base] σ Q Y:=by
 have Acx:∀ p∈a.A1,p<=10:=fun p hp=>by have:=ht2 p hp; exact r43 ‹_›
 have htm:=Bg0 hk
 have htl:=H.len t htm
 have Ajr:∀ {r:List V},whole (szs a.A1) r∈T->Am (Ap (T.map V.tup)) (.tup (whole a.cells.length r))=some (.int (numOf a.A1 T r:Nat)):=fun {r} hr=>by
   rw [hc,Ab6,if_pos (Bi8 hr),idx_map (f:=V.tup) fun x _ e=>by cases (e); rfl]; rfl
 have Akp:∀ {r:List V},whole (szs a.A1) r∈T->V.keys (whole a.cells.length r)=true/\V.Be (whole a.cells.length r)<=7:=fun {r} hr=>by
   rw [hc]; have:=Agg (H.val _ hr); exact ⟨this.1,by rw [this.2]; lia⟩
 have hwt:whole (szs a.A1) t=t:=by rw [<- htl]; exact Ab1 (by rw [htl]; exact Ah _)
 have onAll:∀ {σ':Sto} {s:List V} {v:Nat} {Q':V->Sto->Prop} {Y'},σ' wl=some (.A5 a.es)->σ' nl=some (.Ad (Ap (T.map .tup)))->v<=3->s.length=szs (a.A1.drop v)->whole (szs a.A1) s∈T->Q' (B4 a.A1 T (whole (szs a.A1) s)) σ' ->
     Fn (PM w) (n + 3) (.ref 377) [.loc wl,.loc nl,.tup s,.int v] σ' Q' Y':=fun {σ' s v Q' Y'} h1 h2 h4 h5 h6 h7=>by
   have hz:=Ah (a.A1.drop v)
   have hzl:=Cb0 (Ah a.A1) (Al a.A1 v)
   obtain ⟨x,hx⟩:∃ x,s[0]?=some x:=⟨_,Bf1 (by exact r46 ‹_› ‹_›)⟩
   have hfl:∀ x∈s,B3 x:=fun x hx=>(H.val _ h6 x (Aav (by rw [h5]; exact Al ..) (Ah _) hx)).flat
   have sl:s.length<=szs a.A1:=h5 ▸ hzl
   refine Bal (k:=numOf a.A1 T s) h1 h3 Acx h4 (Be8 sl hs) hfl hx h2 (hc ▸ hs) (hc ▸ sl) (Akp h6).1 (Akp h6).2 (fun _=>⟨Ajr h6,?_⟩) ?_
   · exact Bh0 (Bk2 h6) hTl
   · rw [Avs h3 h4 h5 hx]; exact h7
 have Axl:numOf a.A1 T t=k:=by unfold numOf; rw [hwt]; exact Aci H.nd hk
 refine B8 rfl rfl (Aqc fun _ _ _ _=>rfl) rfl fun R' Y' hR hY hRs hYs=>?_
 refine Afl ?_
 refine onAll (v:=0) hw hnu (Bh2 _) htl (by rw [hwt]; exact htm) (.inr fun ca hca=>.inl fun wa hwa=>?_)
 rw [hwt] at hwa ⊢
 have Azt:σ wa=none:=(Sub.new (Sub.refl _) hca).none hwa
 have ncw:ca≠wa:=A7 (Sto.A0 ..) hwa
 have n1:=nne hw hca
 have n2:=nne hnu hca
 have n3:=nne hlg hca
 have n4:=nne hw Azt
 have n5:=nne hnu Azt
 have n6:=nne hlg Azt
 rw [show Ahw [] [(base,V.lst [V.tup [V.tup [V.str (Bf5 "verdict"),B4 a.A1 T t]]])]=Ai base (B4 a.A1 T t) (rvN nm nums a.A1 T) [] from rfl]
 refine Az0 (α:=List (List V × Nat) × List Nat) (fun x=>(σ.put ca (.A5 (Ai base (B4 a.A1 T t) (rvN nm nums a.A1 T) x.2))).put wa (.list (x.1.map wtV)))
   (fun x=>[("world",.loc wl),("numbers",.loc nl),("table",.tup t),("base",.str base),("waiting",.loc wa),("chains",.loc ca)])
   (fun j x=>(∀ y∈x.1,y.2<=3/\y.1.length=szs (a.A1.drop y.2)/\whole (szs a.A1) y.1∈T/\Reach (chN a.A1 T) k (numOf a.A1 T y.1))/\x.2.Nodup/\(∀ m∈x.2,Reach (chN a.A1 T) k m/\chN a.A1 T m≠none) ∧
     (∃ S:List Nat,k∈S/\∀ s∈S,chN a.A1 T s=none∨(s∈x.2/\∀ cs,chN a.A1 T s=some cs->∀ c∈cs,c∈S)∨s∈x.1.map fun y=>numOf a.A1 T y.1)/\j=(x.1.map fun y=>4 ^ (4 - y.2)).sum/\j<=256)
   256 ([(t,0)],[]) rfl ⟨fun y hy=>?_,Co2,fun _ h=>absurd h Bj2,⟨[k],.head _,fun s hs=>.inr (.inr ?_)⟩,rfl,Bh7 _⟩ (Sub.refl _) rfl ?_
 · rw [Bf7.mp hy]
   exact ⟨Bh2 _,htl,by rw [hwt]; exact htm,by rw [Axl]; exact .base⟩
 · rw [Bf7.mp hs]
   exact Bf7.mpr Axl.symm
 rintro j ⟨W,M⟩ K hK ⟨i1,i2,i3,⟨S,i4,i5⟩,i6,i7⟩
 dsimp only at i1 i2 i3 i4 i5 i6 i7
 have hWl:W.length<=256:=Be8 (Ard W) (i6 ▸ i7)
 have hMl:M.length<=20:=by
   have:∀ m∈M,m < T.length:=fun m hm=>by
     obtain ⟨u,hu,_⟩:=Ac0 H hk (i3 m hm).1
     exact (Bf8.mp hu).1
   have:=List.Nodup.length_le_of_subset i2 (l₂:=Bi1 T.length) fun m hm=>Bk7.mpr (this m hm)
   rw [Bl0] at this; exact Be8 this hTl
 have Bbu:∀ {s:List V} {v:Nat},s.length=szs (a.A1.drop v)->whole (szs a.A1) s∈T->∀ x∈s,B3 x:=fun {s v} h5 h6 x hx=>(H.val _ h6 x (Aav (by rw [h5]; exact Al ..) (Ah _) hx)).flat
 have hst:∀ o p,((σ.put ca o).put wa p) wl=some (.A5 a.es)/\((σ.put ca o).put wa p) nl=some (.Ad (Ap (T.map .tup)))/\((σ.put ca o).put wa p) a.lg=some (.A5 les):=fun o p=>
   ⟨by rw [Sto.A4 _ _ n4,Sto.A4 _ _ n1]; exact hw,by rw [Sto.A4 _ _ n5,Sto.A4 _ _ n2]; exact hnu,by rw [Sto.A4 _ _ n6,Sto.A4 _ _ n3]; exact hlg⟩
 refine .inr (Afs (.loc (Sto.A0 ..)) (.val _) ?_ (by
   exact Aeq fun y hy=>by
     exact (Cj7 _).trans (Ab9 (Bbu (i1 y hy).2.1 (i1 y hy).2.2.1))) rfl Ajh)
 induction W using snoc with
 | h0=>
   refine nF rfl (.go (hRs (Sub.over (Sub.refl _) ?_) (hq M ⟨i2,i3,S,i4,fun s hs=>?_⟩ ca hca)))
   · rw [Sto.A4 _ _ ncw.symm]; exact Azt
   · rcases i5 s hs with e | e | e
     · exact .inl e
     · exact .inr e
     · exact absurd e Bj2
 | h1 W y=>
   obtain ⟨part,v⟩:=y
   have Ate:(part,v)∈W ++ [(part,v)]:=Bi2 _ (.head _)
   obtain ⟨y1,y2,y3,y4⟩:=i1 (part,v) Ate
   dsimp only at y1 y2 y3 y4
   have i1':∀ y∈W,y.2<=3/\y.1.length=szs (a.A1.drop y.2)/\whole (szs a.A1) y.1∈T/\Reach (chN a.A1 T) k (numOf a.A1 T y.1):=fun y hy=>i1 y (Bi3 _ hy)
   rw [Bf2] at hWl
   have hW':W.length<=256:=Bl8 hWl
   rw [Bg2]
   refine nT (fun e=>absurd (V.lst.inj e) (List.append_ne_nil_of_right_ne_nil _ (Bs4 _ _))) (Aju (Sto.A0 ..) (Aq7 (Sto.A0 ..) ?_ (by rw [Bf0]; exact Be8 hW' (by decide))))
   rw [Sto.A9]
   have Bd1:=Bbu y2 y3
   have Bca:=Cb0 (Ah a.A1) (Al a.A1 v)
   have hpp:=Ah (a.A1.drop v)
   have r1:n + 1<=n + 3:=Bf4 (by decide) n
   refine Fn.room (n:=n + 2) (Ac8 (n:=n) (v:=v) (a:=a) (hst _ _).1 h3 Acx y1 (by rw [y2]; exact Be8 Bca (Be8 hs (by decide))) Bd1 ?_) (Bm9 _)
   have hau:=Aaf (ts:=a.A1) (d:=v) (s:=part) (h3 ▸ y1) y2
   have hmu:T[numOf a.A1 T part]?=some (whole (szs a.A1) part):=Aca y3
   have hul:=H.len _ y3
   have Ayc:=Aah (ts:=a.A1) (t:=whole (szs a.A1) part)
   rw [hau,h3] at Ayc
   dsimp only at Ayc
   revert hau Ayc; with_reducible refine gze (v + (asked (a.A1.drop v) part).1) fun at_ hat hau Ayc=>?_
   revert hau; with_reducible refine gze ((asked (a.A1.drop v) part).2) fun rows At4 hau=>?_
   revert y4 hmu; with_reducible refine gze (numOf a.A1 T part) fun m hm y4 hmu=>?_
   have hWs:(W.map fun y=>4 ^ (4 - y.2)).sum + 4 ^ (4 - v)=j:=by rw [i6,Bg2,Cg1]; rfl
   have h4:=Aip (4 - v)
   refine Arj (dI (fun q=>?_) fun q=>?_)
   rotate_left
   · have q:at_=3:=Cn6 Ayc (Bm5 fun h=>q (Bn2.mpr h))
     have hch:chN a.A1 T m=none:=by unfold chN; rw [hmu]; dsimp only; rw [hau,if_pos (by rw [h3]; exact q)]
     refine hK _ (W,M) _ _ ?_ ⟨i1',i2,i3,⟨S,i4,fun s hs=>?_⟩,rfl,?_⟩ (Sub.refl _) rfl
     · dsimp only; rw [<- hWs]; exact By5 h4
     · rcases i5 s hs with e | e | e
       · exact .inl e
       · exact .inr (.inl e)
       · rw [Bg2] at e
         rcases Bh9.mp e with e | e
         · exact .inr (.inr e)
         · have e:s=numOf a.A1 T part:=Bf7.mp e
           rw [e,hm]; exact .inl hch
     · dsimp only; exact Be8 (hWs ▸ Bg9 ..) i7
   · have hq3:at_ < 3:=Bn2.mp q
     have q:¬ at_=3:=Bl9 hq3
     have hch:chN a.A1 T m=some ((Acg a.A1 T (whole (szs a.A1) part)).map (·.2)):=by unfold chN; rw [hmu]; dsimp only; rw [if_neg (by rw [hau,h3]; exact q)]
     have Azf:(Acg a.A1 T (whole (szs a.A1) part)).map (·.2)=(Aa rows).map fun x=>numOf a.A1 T x.2.2:=by
       rw [Aqu,hau,Bi7]; rfl
     have hrl:∀ r∈rows,r.length=szs (a.A1.drop (at_ + 1))/\whole (szs a.A1) r∈T:=fun r hr=>by
       have hr':r∈(asked a.A1 (whole (szs a.A1) part)).2:=by rw [hau]; exact hr
       have:=Acq hul hr'
       rw [hau] at this
       exact ⟨this,H.cl _ y3 r hr'⟩
     obtain ⟨top,htp⟩:∃ top,a.A1[at_]?=some top:=⟨_,Bf1 (h3 ▸ hq3)⟩
     have Bc3:rows.length=top + 1:=by
       have:=Aa5 (ts:=a.A1) (t:=whole (szs a.A1) part) (p:=top) (by rw [hau]; exact htp)
       rw [hau] at this; exact this
     have Bau:(Aa rows).length<=3:=Be8 Aco (by rw [Bc3]; exact Bg4 (ht2 _ (Bg0 htp)))
     refine .inr (Fn.room (n:=n + 1) (Afk (n:=n) (by rw [Bc3]; exact Be8 (Bg4 (ht2 _ (Bg0 htp))) (by decide)) (fun r hr x hx=>Bbu (hrl r hr).1 (hrl r hr).2 x hx) ?_) r1)
     with_reducible refine gze (fun x:Nat × Nat × List V=>(Aae (nums at_) x.1 x.2.1).map (elV (B4 a.A1 T (whole (szs a.A1) x.2.2)))) fun G hG=>?_
     have hGl:∀ x,(G x).length<=11:=fun x=>by
       rw [<- hG]
       dsimp only
       rw [Bf0]
       unfold Aae
       split
       · exact Bh8 rfl
       · rw [Bf0]; exact Be8 (Agj ..) (Be8 (N.len at_ hq3) (by decide))
     refine Ajw Avy (α:=List (List V × Nat) × List V) (fun x=>(σ.put ca (.A5 (Ai base (B4 a.A1 T t) (rvN nm nums a.A1 T) M))).put wa (.list (x.1.map wtV)))
       (fun x=>[("world",.loc wl),("numbers",.loc nl),("table",.tup t),("base",.str base),("waiting",.loc wa),("chains",.loc ca),("part",.tup part),("at",.int at_),("elements",.lst x.2)])
       (fun xs x=>∃ dn:List (Nat × Nat × List V),Aa rows=dn ++ xs/\x.1=W ++ dn.map (fun y=>(y.2.2,at_ + 1))/\x.2=dn.flatMap G/\x.2.length<=11 * dn.length) _ (W,[]) rfl
       ⟨[],rfl,(Bh6 W).symm,rfl,Bh7 _⟩ (Sub.refl _) rfl ?_ ?_
     · rintro ⟨W',els⟩ ⟨dn,e2,e3,e4,e5⟩
       rw [Bh6] at e2
       subst e2
       dsimp only at e3 e4 e5
       subst e3; subst e4
       have Bd0:(List.flatMap G (Aa rows)).length<=100:=by exact r36 ‹_› ‹_›
       have hdg:=Ajr y3
       have hky:=Akp y3
       rw [hm] at hdg
       have Ba8:m < 20:=Bh0 (Bf8.mp hmu).1 hTl
       refine .go (Ac (hst _ _).1 rfl (Ab (k:=at_) (.val _) (by rw [Bf9,N.get at_ hq3]; rfl) (Aa7 (.val _) (Be8 Bd0 (by decide)) (.inr (Fn.room (n:=n + 1) (Ajc (n:=n) (hst _ _).1 (by rw [hc]; exact Be8 hs (by decide)) (by rintro rfl; rw [Bl2] at y2; lia) (by rw [y2,hc]; exact Bca) (Aee (hst _ _).2.1 hky.1 hky.2 hdg (Ak7 (by exact r30) (by lia) (Aew ?_ ?_)))) r1))) (Bj4 hq3 (by decide))))
       · have Bcj:rvN nm nums a.A1 T m=Aoc (nm at_) ((Aa rows).flatMap G):=by
           unfold rvN; rw [hmu]; dsimp only; rw [hau,<- hG]; unfold Amz; rw [hau]
         have Auk:∀ x∈M,x < 20:=fun x hx=>by
           obtain ⟨u,hu,_⟩:=Ac0 H hk (i3 x hx).1
           exact Bh0 (Bf8.mp hu).1 hTl
         have hmr:Reach (chN a.A1 T) k m:=y4
         have Bcn:chN a.A1 T m≠none:=by rw [hch]; exact fun e=>nomatch e
         have hmb:nName m≠base:=Af6 m hmr Bcn
         refine Ag3 (a:=ca) (es:=Ai base (B4 a.A1 T t) (rvN nm nums a.A1 T) M) (by rw [Sto.A4 _ _ ncw,Sto.A0]) ?_ (by rw [Ai,Bh5,Bf0]; exact Be8 (Bg4 hMl) (by decide))
         rw [show Bf5 "n" ++ Axe (m:Int)=nName m from rfl,Sto.Ao _ _ _ ncw.symm,Sto.A9]
         have Bcz:dput (Ai base (B4 a.A1 T t) (rvN nm nums a.A1 T) M) (nName m) (.lst [Aoc (nm at_) ((Aa rows).flatMap G)])=Ai base (B4 a.A1 T t) (rvN nm nums a.A1 T) (if m∈M then M else M ++ [m]):=by
           by_cases hmM:m∈M
           · rw [if_pos hmM]
             refine As0 ?_ fun kv hkv e=>?_
             · rw [Bx3]
               exact ⟨(nName m,.lst [rvN nm nums a.A1 T m]),by unfold Ai; exact .tail _ (Bi8 (f:=fun m=>(nName m,V.lst [rvN nm nums a.A1 T m])) hmM),decide_eq_true rfl⟩
             · unfold Ai at hkv
               rcases Bi0.mp hkv with rfl | hkv
               · exact absurd e.symm hmb
               · obtain ⟨z,hz,rfl⟩:=Bh3.mp hkv
                 have:=Aev z (Auk z hz) m Ba8 e
                 rw [this,Bcj]
           · rw [if_neg hmM]
             exact Ahc Auk Ba8 hmM hmb (by rw [Bcj])
         rw [Bcz]
         have hMM:∃ M',M'=(if m∈M then M else M ++ [m])/\M'.Nodup/\(∀ z∈M',Reach (chN a.A1 T) k z/\chN a.A1 T z≠none)/\m∈M'/\∀ x∈M,x∈M':=by
           by_cases hmM:m∈M
           · exact ⟨M,(if_pos hmM).symm,i2,i3,hmM,fun x h=>h⟩
           · exact ⟨M ++ [m],(if_neg hmM).symm,Bm6.mpr ⟨i2,nd1,fun x hx y hy e=>hmM (by rw [Bf7.mp hy] at e; rw [<- e]; exact hx)⟩,Aa9 i3 ⟨hmr,Bcn⟩,Bi2 _ (.head _),fun x h=>Bi3 _ h⟩
         obtain ⟨M',eM,m1,m2,m3,m4⟩:=hMM
         rw [<- eM]
         have Bao:=Aqr (at_ + 1) (Aa rows)
         have h6:(Aa rows).length * 4 ^ (4 - (at_ + 1))<=3 * 4 ^ (4 - (at_ + 1)):=Nat.mul_le_mul_right _ Bau
         have h7:4 ^ (4 - v)=4 * 4 ^ (4 - (v + 1)):=by rw [show 4 - v=(4 - (v + 1)) + 1 by exact (Ch0 y1).trans (congrArg Nat.succ (Nat.succ_sub_succ 3 v).symm),Cl3,Br7]
         have h8:4 ^ (4 - (at_ + 1))<=4 ^ (4 - (v + 1)):=Ca8 (by decide) (by exact Nat.sub_le_sub_left (Bg4 (hat ▸ Bg9 ..)) 4)
         have h9:=Aip (4 - (v + 1))
         have hlt:((W ++ (Aa rows).map fun y=>(y.2.2,at_ + 1)).map fun y=>4 ^ (4 - y.2)).sum < j:=by
           rw [Bg2,Cg1,Bao]; rw [<- hWs]; exact Nat.add_lt_add_left (Bg7 (Be8 h6 (Bp1 3 h8)) (by rw [h7]; exact Nat.mul_lt_mul_of_pos_right (by decide) (Nat.pow_pos (by decide)))) _
         refine hK _ (W ++ (Aa rows).map fun y=>(y.2.2,at_ + 1),M') _ _ hlt ⟨fun y hy=>?_,m1,m2,⟨S ++ (Aa rows).map fun x=>numOf a.A1 T x.2.2,Bi3 _ i4,fun s hs=>?_⟩,rfl,Be8 (Bk5 hlt) i7⟩ (Sub.refl _) rfl
         · rcases Bh9.mp hy with hy | hy
           · exact i1' y hy
           · obtain ⟨x,hx,rfl⟩:=Bh3.mp hy
             obtain ⟨x1,_,_⟩:=Aak hx
             refine ⟨hq3,(hrl _ x1).1,(hrl _ x1).2,.step hmr hch ?_⟩
             rw [Azf]; exact Bi8 (f:=fun x:Nat × Nat × List V=>numOf a.A1 T x.2.2) hx
         · dsimp only
           rcases Bh9.mp hs with hs | hs
           · rcases i5 s hs with e | e | e
             · exact .inl e
             · exact .inr (.inl ⟨m4 s e.1,fun cs hcs c hc=>Bi3 _ (e.2 cs hcs c hc)⟩)
             · rw [Bg2] at e
               rcases Bh9.mp e with e | e
               · exact .inr (.inr (by rw [Bg2]; exact Bi3 _ e))
               · have e:s=numOf a.A1 T part:=Bf7.mp e
                 rw [hm] at e
                 subst e
                 refine .inr (.inl ⟨m3,fun cs hcs c hc=>?_⟩)
                 rw [hch] at hcs
                 cases hcs
                 rw [Azf] at hc
                 exact Bi2 _ hc
           · refine .inr (.inr ?_)
             rw [Bg2,Bi7]
             exact Bi2 _ hs
       · rw [Bn6,show (Bf5 "n").length=1 by decide +kernel]
         exact Be8 (Bf4 (Adc m Ba8) 1) (by decide)
     · rintro ⟨lo,hi,row⟩ xs ⟨W',els⟩ K2 hK2 ⟨dn,e2,e3,e4,e5⟩
       dsimp only at e3 e4 e5
       have hxs:(lo,hi,row)∈Aa rows:=by rw [e2]; exact Bi2 _ (.head _)
       obtain ⟨x1,x2,x3⟩:=Aak hxs
       dsimp only at x1 x2 x3
       have hdl:dn.length<=3:=by rw [e2,Bf2] at Bau; exact Be8 (Bg9 ..) Bau
       have hW'l:W'.length<=259:=by rw [e3,Bf2,Bf0]; exact Bo5 hW' hdl
       refine Af (Sto.A0 ..) (Ae (ds:=W'.map wtV) (Sto.A0 ..) ?_ (by rw [Bf0]; exact Be8 hW'l (by decide)))
       rw [Sto.A9]
       have hln:(Am les (nm at_)).getD (.tup [])=.tup ((nums at_).map .int):=by
         rcases N.les at_ hq3 with ⟨l1,l2⟩ | ⟨l1,l2⟩
         · rw [l1,l2]; rfl
         · rw [l1]; rfl
       have hGx:G (lo,hi,row)=(Aae (nums at_) lo hi).map (elV (B4 a.A1 T (whole (szs a.A1) row))):=by rw [<- hG]
       have hGx':=hGl (lo,hi,row)
       have hsl:(Aae (nums at_) lo hi).length<=11:=by rw [hGx,Bf0] at hGx'; exact hGx'
       refine onAll (v:=at_ + 1) (hst _ _).1 (hst _ _).2.1 hq3 (hrl row x1).1 (hrl row x1).2 (Aht rfl (Fn.room (n:=n + 1) (Amy (n:=n) (lo:=lo) (hi:=hi) (hst _ _).1 (hst _ _).2.2 (N.get at_ hq3) hln (Be8 (N.len at_ hq3) (by decide)) (Bj4 hq3 (by decide)) ?_) r1))
       refine Acv Acs (elV (B4 a.A1 T (whole (szs a.A1) row))) _ rfl (Be8 hsl (by decide)) ?_ fun acc B1 s hs vs K3 hK3=>by exact hK3 _ (Sub.refl _)
       rw [<- hGx]
       refine Ajn (.val _) (.val _) (hK2 (W' ++ [(row,at_ + 1)],els ++ G (lo,hi,row)) _ _ ⟨dn ++ [(lo,hi,row)],by rw [e2,Bj1]; rfl,?_,?_,?_⟩ (by rw [Bg2]; exact Sub.refl _) rfl) (Be8 (Bo5 (Be8 e5 (Bp1 _ hdl)) hGx') (by decide))
       · rw [e3,Bg2,Bj1]; rfl
       · rw [e4,List.flatMap_append]; simp
       · rw [Bf2,Bf2,Nat.mul_add]; exact Bo5 e5 hGx'
end
noncomputable def okD (v:V) (d:Nat):Prop:=v.dat=true/\v.dep<=d
theorem Ami {l d} (h:∀ x∈l,okD x d):V.Bf l=true/\V.Be l<=d:=by
 induction l with
 | nil=>exact ⟨rfl,Bh2 _⟩
 | cons a r ih=>
  have h1:=ih fun x hx=>h x (.tail _ hx)
  have h2:=h a (.head _)
  exact ⟨by show (a.dat && V.Bf r)=true; rw [h1.1,h2.1]; rfl,Cd6.mpr ⟨h2.2,h1.2⟩⟩
theorem Abm {l d} (h:∀ x∈l,okD x d):okD (.tup l) (d + 1):=by
 have:=Ami h
 exact ⟨this.1,Bg4 this.2⟩
theorem Alw {l d} (h:∀ x∈l,okD x d):okD (.lst l) (d + 1):=by
 have:=Ami h
 exact ⟨this.1,Bg4 this.2⟩
theorem kv.ok {x d} (h:kv x):okD x d:=⟨V.Aal x h.1,by rw [h.2]; lia⟩
theorem Apf (a b:Int):okD (Aaj a b) 1:=by
 unfold Aaj
 split <;> exact ⟨rfl,Bh8 rfl⟩
theorem okD.le {v d e} (h:okD v d) (k:d<=e):okD v e:=⟨h.1,by have:=h.2; exact r38 ‹_› ‹_›⟩
theorem Aro (s:Str) {r} (h:okD r 1):okD (Abp s r) 2:=by
 refine Abm fun x hx=>?_
 simp only [Bi0,Bj2,or_false] at hx
 rcases hx with rfl | rfl | rfl | rfl
 · exact ⟨rfl,Bh2 _⟩
 · exact ⟨rfl,Bh8 rfl⟩
 · exact ⟨rfl,Bh2 _⟩
 · exact h
set_option tactic.hygienic true in
theorem Am7 {ts T} (H:Bc ts T) {u} (hu:u∈T):okD (B4 ts T u) 1:=by
 unfold B4
 split
 · rename_i e
   have:=H.val u hu _ ((Aej (H.len u hu) e _).mpr rfl)
   refine Abm (d:=0) fun x hx=>?_
   simp only [Bi0,Bj2,or_false] at hx
   rcases hx with rfl | rfl
   · exact this.ok
   · exact ⟨rfl,Bh2 _⟩
 · exact ⟨rfl,Bh8 rfl⟩
theorem Ase {ts T nm nums} (H:Bc ts T) (h3:ts.length=3) {t} (ht:t∈T):okD (.lst (Ay ts nm nums 4 0 t [])) 4:=by
 have htl:=H.len t ht
 rw [Ag4 h3 4 0 t [] (by lia) (by lia) (by rw [Bo9]; exact htl)]
 rw [show whole (szs ts) t=t by rw [<- htl]; exact Ab1 (by rw [htl]; exact Ah _)]
 refine Alw fun x hx=>?_
 obtain ⟨p,hp,rfl⟩:=Bh3.mp hx
 obtain ⟨v1,v2⟩:=Anh 4 t htl p hp
 unfold Al9
 refine Abm fun y hy=>?_
 rw [Cb3] at hy
 rcases Bh9.mp hy with hy | hy
 · obtain ⟨s,hs,rfl⟩:=Bh3.mp hy
   obtain ⟨v,lo,hi,top,rfl,_⟩:=Alo 4 t htl p hp s hs
   rw [Aj3]
   exact Aro _ (Apf _ _)
 · rw [Bf7.mp hy]
   refine Abm (d:=1) fun z hz=>?_
   simp only [Bi0,Bj2,or_false] at hz
   rcases hz with rfl | rfl
   · exact ⟨rfl,Bh2 _⟩
   · refine Abm (d:=0) fun z hz=>?_
     simp only [Bi0,Bj2,or_false] at hz
     rcases hz with rfl | rfl
     · exact (H.val t ht _ v1).ok
     · exact ⟨rfl,Bh2 _⟩
theorem Ayp {v s} (h:okD v 1):okD (elV v s) 3:=by
 refine Abm (d:=2) fun x hx=>?_
 simp only [Bi0,Bj2,or_false] at hx
 rcases hx with rfl | rfl | rfl | rfl
 · exact ⟨rfl,Bh8 rfl⟩
 · exact h.le (by lia)
 · exact ⟨rfl,Bh2 _⟩
 · exact ⟨rfl,Bh2 _⟩
theorem Ay9 {ts T nm nums} (H:Bc ts T) (m:Nat):okD (rvN nm nums ts T m) 7:=by
 unfold rvN
 cases hm:T[m]? with
 | none=>exact ⟨rfl,Bh2 _⟩
 | some u=>
  have hu:=Bg0 hm
  have he:okD (.tup (Amz nums ts T u)) 4:=Abm fun x hx=>by
    unfold Amz at hx
    obtain ⟨y,hy,hx⟩:=Ce8.mp hx
    obtain ⟨s,hs,rfl⟩:=Bh3.mp hx
    exact Ayp (Am7 H (H.cl u hu _ (Aak hy).1))
  refine Abm (d:=6) fun x hx=>?_
  rw [Bf7.mp hx]
  refine Abm (d:=5) fun x hx=>?_
  simp only [Bi0,Bj2,or_false] at hx
  rcases hx with rfl | rfl | rfl
  · exact ⟨rfl,Bh2 _⟩
  · exact ⟨rfl,Bh8 rfl⟩
  · refine Abm (d:=4) fun x hx=>?_
    simp only [Bi0,Bj2,or_false] at hx
    rcases hx with rfl | rfl
    · exact ⟨rfl,Bh2 _⟩
    · exact he
theorem Ai1 {ts T nm nums} (H:Bc ts T) {t} (ht:t∈T) {base M}:∀ kv∈Ai base (B4 ts T t) (rvN nm nums ts T) M,kv.2.dat=true/\kv.2.dep<=40:=fun kv hkv=>by
 have:okD kv.2 40:=by
  unfold Ai at hkv
  rcases Bi0.mp hkv with rfl | hkv
  · refine (Alw (d:=3) fun x hx=>?_).le (by lia)
    rw [Bf7.mp hx]
    refine Abm (d:=2) fun x hx=>?_
    rw [Bf7.mp hx]
    refine Abm (d:=1) fun x hx=>?_
    simp only [Bi0,Bj2,or_false] at hx
    rcases hx with rfl | rfl
    · exact ⟨rfl,Bh2 _⟩
    · exact Am7 H ht
  · obtain ⟨m,hm,rfl⟩:=Bh3.mp hkv
    refine (Alw (d:=7) fun x hx=>?_).le (by lia)
    rw [Bf7.mp hx]; exact Ay9 H m
 exact this
theorem Ad6 {base vt rv q m} (hq:∀ x∈q,x < 20) (hm:m∈q) (hb:nName m≠base):Am (Ai base vt rv q) (nName m)=some (.lst [rv m]):=by
 unfold Am Ai
 rw [Bk3,show decide (base=nName m)=false by simpa using Bq3 hb]
 dsimp only
 have:∀ (l:List Nat),(∀ x∈l,x < 20)->m∈l->((l.map fun m=>(nName m,V.lst [rv m])).find? fun kv=>decide (kv.1=nName m))=some (nName m,.lst [rv m]):=by
  intro l
  induction l with
  | nil=>intro _ h; cases h
  | cons a r ih=>
   intro h1 h2
   rw [Bh1,Bk3]
   by_cases e:nName a=nName m
   · have:=Aev a (h1 a (.head _)) m (hq m hm) e
     subst this; simp
   · rw [show decide ((nName a,V.lst [rv a]).1=nName m)=false by simpa using e]
     dsimp only
     refine ih (fun x hx=>h1 x (.tail _ hx)) ?_
     rcases Bi0.mp h2 with rfl | h2
     · exact absurd rfl e
     · exact h2
 rw [this q hq hm]; rfl
theorem Ao0 {base vt rv M M'} (hn:M.Nodup) (hn':M'.Nodup) (h:∀ m,m∈M ↔ m∈M') (hl:∀ m∈M,m < 20) (hb:∀ m∈M,nName m≠base):deq (Ai base vt rv M) (Ai base vt rv M')=true:=by
 have hp:M.Perm M':=(List.perm_ext_iff_of_nodup hn hn').mpr h
 unfold deq
 rw [Bg1]
 refine ⟨by simp [Ai,hp.length_eq],Bj8.mpr fun kv hkv=>?_⟩
 rw [decide_eq_true_iff]
 unfold Ai at hkv
 rcases Bi0.mp hkv with rfl | hkv
 · unfold Am Ai; simp
 · obtain ⟨m,hm,rfl⟩:=Bh3.mp hkv
   exact Ad6 (fun x hx=>hl x ((h x).mpr hx)) ((h m).mp hm) (hb m hm)
theorem Agb:∀ m,m < 20->nName m≠"b":=by decide +kernel
theorem Ayu {c σ m x y pos Q} (h:wE c x σ m fun v σ'=>∃ b,Tv σ' v b/\if b then wE c y σ' m Q else Q v σ'):Ev c.P c.n c.fx (.BoolOp .And [x,y] pos) σ (vof m) Q c.X:=
 Ayb (Ag ((Ace c 40).1 _ _ _ _ h) fun v σ' qA=>by obtain ⟨b,h1,h2⟩:=qA; exact ⟨b,h1,by
  cases b with
  | true=>exact (Ace c 40).1 _ _ _ _ h2
  | false=>exact h2⟩)
section
variable {w:World} {n:Nat} {σ:Sto} {Q:V->Sto->Prop} {Y:Str->Sto->Prop} {a:Wo} {wl nl:Addr} {T nd:List (List V)} {les:List (Str × V)} {nm:Nat->Str} {nums:Nat->List Int}
theorem Atl {t} (H:Bc a.A1 T) (h3:a.A1.length=3) (ht2:∀ p∈a.A1,p<=2) (hw:σ wl=some (.A5 a.es)) (hnu:σ nl=some (.Ad (Ap (T.map .tup)))) (hlg:σ a.lg=some (.A5 les)) (hD:σ a.dn=some (.list (An a.A1 T))) (N:Aie a.names a.A1 les nm nums)
  (hs:szs a.A1<=27) (hc:a.cells.length=szs a.A1) (hTl:T.length<=19) (Ant:nd.length<=20) (hnd:∀ u∈nd,u∈T) (ht:t∈T)
  (hok:∀ x∈a.names,Aec x (prP x) (ndP x)) (hnn:a.names.Nodup) (hnl:a.names.length<=100) (Bde:∀ x∈a.names,Aet (prP x)=(ndP x).map (·.1)) (Bbc:∀ x∈a.names,∀ q∈Aet (prP x),q.length<=100)
  (hq:Q (.bool true) σ):Fn (PM w) (n + 9) (.ref 394) [.loc wl,.loc nl,.lst ((nd ++ [t]).map (Av T))] σ Q Y:=by
 have Acx:∀ p∈a.A1,p<=10:=fun p hp=>by have:=ht2 p hp; exact r43 ‹_›
 have htl:=H.len t ht
 have Atv:=Auq (lnd:=fun x=>Aet (prP x)) hnn Bde [] a.names rfl
 have r2:n + 2<=n + 8:=Bf4 (by decide) n
 have l100:∀ {k},k<=100->k<=100000:=fun h=>Be8 h (by decide)
 refine B8 rfl rfl (Ajq fun _ _ _=>rfl) rfl fun R' Y' hR hY hRs hYs=>Acd (d:=.tup [.int (T.idxOf t:Nat),.tup t]) (.val _) (getL _) (Ac hw rfl (Ac hw rfl (Aa7 (ds:=a.names.map .str) (.val _) (by rw [Bf0]; exact l100 hnl) (Ac hw rfl (Aa7 (ds:=tupI a.A1) (.val _) (by rw [tupI,Bf0,h3]; decide) (Ac hw rfl (Fn.room (n:=n + 2) (At3 (n:=n) hnl hnn fun pl hpl=>?_) r2)))))))
 have hw':(σ.put pl (.A5 (placeOf a.names))) wl=some (.A5 a.es):=by rw [Sto.A4 _ _ (nne hw hpl)]; exact hw
 have hnu':(σ.put pl (.A5 (placeOf a.names))) nl=some (.Ad (Ap (T.map .tup))):=by rw [Sto.A4 _ _ (nne hnu hpl)]; exact hnu
 have hlg':(σ.put pl (.A5 (placeOf a.names))) a.lg=some (.A5 les):=by rw [Sto.A4 _ _ (nne hlg hpl)]; exact hlg
 have hD':(σ.put pl (.A5 (placeOf a.names))) a.dn=some (.list (An a.A1 T)):=by rw [Sto.A4 _ _ (nne hD hpl)]; exact hD
 have hpl':(σ.put pl (.A5 (placeOf a.names))) pl=some (.A5 (placeOf a.names)):=Sto.A0 ..
 have Au8:Sub σ (σ.put pl (.A5 (placeOf a.names))):=Sub.new (Sub.refl _) hpl
 revert hw' hnu' hlg' hD' hpl' Au8; with_reducible refine gz (σ.put pl (.A5 (placeOf a.names))) fun σ1 hw' hnu' hlg' hD' hpl' Au8=>?_
 refine Ac hw' rfl (Fn.room (n:=n + 2) (Ake (n:=n) (nd:=ndP) hok hnl Bbc ?_) r2)
 rw [Atv]
 have hki:=Aca ht
 have hkl:=Bk2 ht
 revert hki hkl; with_reducible refine gz (T.idxOf t) fun k hki hkl=>?_
 have Be7:k<=20:=Be8 (Bk5 hkl) (Bk1 hTl)
 have Aio:T.length<=20:=Bk1 hTl
 have Awm:szs a.A1<=100:=Be8 hs (by decide)
 have Aw4:(Ay a.A1 nm nums 4 0 t []).length<=99:=by
  rw [Ag4 h3 4 0 t [] (by decide) (by decide) (by rw [Bo9]; exact htl),Bf0]
  exact Be8 (Aqa 4 (whole (szs a.A1) t) ht2) (by decide)
 cases hm:B2 ndP a.names a.names with
 | some y=>
  have hy:=Aut hm
  have nn:∀ {P:Prop},B2 ndP a.names a.names=none->P:=fun e=>by rw [hm] at e; cases e
  refine Aw (dF hy (Anj (dT hy (Aar (n:=n + 7) (Adq (n:=n + 6) (Ade (n:=n) (pr:=prP) (nd:=ndP) (nm:=nm) (nums:=nums) H h3 ht2 hpl' hnl hok hlg' N hD' hki Aio (by decide) (.inl Agb) (fun y' e=>?_) (fun e=>nn e) (fun e=>nn e) (fun e=>nn e)))))))
  rw [hm] at e
  cases e
  rw [decide_eq_true (show y=(some y).getD (Bf5 "") from rfl)]
  refine Ayu (Exists.intro true (And.intro (.bool _) ?_))
  refine Fn.room (n:=n + 7) (Aar (n:=n + 6) (Ai6 (n:=n + 5) (Agq (n:=n) (most:=99) (pr:=prP) (nd:=ndP) (nm:=nm) (nums:=nums) H h3 ht2 hpl' hnl hok hlg' N hD' hki Aio Aw4 (fun y' e=>?_) (fun e=>nn e) (fun e=>nn e)))) (Bm9 _)
  rw [hm] at e
  cases e
  rw [decide_eq_true (show y=(some y).getD (Bf5 "") from rfl)]
  exact hRs Au8 hq
 | none=>
  have ns:∀ {P:Prop} {y},B2 ndP a.names a.names=some y->P:=fun e=>by rw [hm] at e; cases e
  refine Aw (dT rfl (Aht rfl ?_))
  rw [show V.tup t=V.tup (t.map id) by rw [Cn2]]
  refine Acw id (fun x=>if Ar x=true then none else some x) t rfl (by rw [htl]; exact l100 Awm) (.inr (Afs (.val _) (.val _) ?_ (by
      refine Acn.mpr fun y hy=>?_
      obtain ⟨p,hp,h⟩:=By1.mp hy
      split at h
      · cases h
      · cases h; exact V.Aal _ (H.val t ht _ hp).1) rfl Ajh)) fun acc B1 x hx vs K1 K0 h1 h0=>?_
  rotate_left
  · have hkx:=H.val t ht x hx
    exact Afn (.val _) (nI (fun q=>h0 _ (if_pos (decide_eq_true q)) (Sub.refl _)) fun q=>h1 _ _ (if_neg fun e=>q (of_decide_eq_true e)) (Sub.refl _)) (V.Aal x hkx.1) rfl (by show x.dep<=40; rw [hkx.2]; decide)
  rw [Cn2]
  refine nI (fun ho=>?_) fun ho=>?_
  rotate_left
  · have ho:∃ x∈t,Ar x=false:=Classical.byContradiction fun h=>ho (congrArg V.lst (Bq5.mpr fun x hx=>if_pos (by
      cases o:Ar x with
      | true=>rfl
      | false=>exact absurd ⟨x,hx,o⟩ h)))
    have no:∀ {P:Prop},(∀ x∈t,Ar x=true)->P:=fun e=>by obtain ⟨x,hx,e'⟩:=ho; rw [e x hx] at e'; cases e'
    refine Anj (dT (by decide +kernel) (Aar (n:=n + 7) (Adq (n:=n + 6) (Ade (n:=n) (pr:=prP) (nd:=ndP) (nm:=nm) (nums:=nums) H h3 ht2 hpl' hnl hok hlg' N hD' hki Aio (by decide) (.inl Agb) (fun y' e=>ns e) (fun _ _=>?_) (fun _ e=>no e) (fun _ e=>no e)))))
    rw [decide_eq_true rfl]
    refine Ayu (Exists.intro true (And.intro (.bool _) ?_))
    refine Fn.room (n:=n + 7) (Aar (n:=n + 6) (Ai6 (n:=n + 5) (Agq (n:=n) (most:=99) (pr:=prP) (nd:=ndP) (nm:=nm) (nums:=nums) H h3 ht2 hpl' hnl hok hlg' N hD' hki Aio Aw4 (fun y' e=>ns e) (fun _ _=>?_) (fun _ e=>no e)))) (Bm9 _)
    rw [decide_eq_true rfl]
    exact hRs Au8 hq
  have Az3:∀ x∈t,Ar x=true:=fun x hx=>by
    have:=Bq5.mp (V.lst.inj ho) x hx
    split at this
    · assumption
    · cases this
  have no:∀ {P:Prop},(∃ x∈t,Ar x=false)->P:=fun qB=>by obtain ⟨x,hx,e⟩:=qB; rw [Az3 x hx] at e; cases e
  have Ban:∀ (Q':V->Sto->Prop) Y',Q' (.lst (Ay a.A1 nm nums 4 0 t [])) σ1->Fn (PM w) (n + 8) (.ref 389) [.loc wl,.tup t,.int 0,.tup []] σ1 Q' Y':=fun Q' Y' hQ'=>by
    refine Fn.room (n:=n + 6) (Att (n:=n) (a:=a) (nm:=nm) (nums:=nums) hw' hlg' h3 Acx (fun v hv=>⟨N.get v hv,?_,Be8 (N.len v hv) (by decide),N.big v hv⟩) 4 0 t [] Q' (by decide) (by decide) (by decide) (by rw [htl]; exact Be8 hs (by decide)) (by rw [Bo9]; exact htl) (by decide) (fun x hx=>(H.val t ht x hx).flat) hQ') (Bf4 (by decide) n)
    rcases N.les v hv with ⟨l1,l2⟩ | ⟨l1,l2⟩
    · rw [l1,l2]; rfl
    · rw [l1]; rfl
  refine Anj (dF (fun h=>h rfl) (Ban _ _ (Aa1 (.val _) (Be8 Aw4 (by decide)) (Fn.room (n:=n + 5) (Agq (n:=n) (most:=(Ay a.A1 nm nums 4 0 t []).length) (pr:=prP) (nd:=ndP) (nm:=nm) (nums:=nums) H h3 ht2 hpl' hnl hok hlg' N hD' hki Aio (Bh7 _) (fun y' e=>ns e) (fun _ e=>no e) (fun _ _ r hr=>?_)) (Bf4 (by decide) n)))))
  refine Afl ?_
  intro r2' hr2
  have hX:=Ase (nm:=nm) (nums:=nums) H h3 ht
  have hr2':σ1 r2'=none:=(Sub.new (Sub.refl _) hr).none hr2
  have nr:r≠r2':=A7 (Sto.A0 ..) hr2
  refine An6 (es:=[(Bf5 "b",V.lst (Ay a.A1 nm nums 4 0 t []))]) (by rw [Sto.A4 _ _ nr,Sto.A0]) (Sto.A0 ..) (fun kv hkv=>?_) (fun kv hkv=>?_) ?_
  · rw [Bf7.mp hkv]; exact ⟨hX.1,Be8 hX.2 (by decide)⟩
  · rewrite [Bf7.mp hkv]; exact hX.1
  rw [show deq [(Bf5 "b",V.lst (Ay a.A1 nm nums 4 0 t []))] (Ahw [] [(Bf5 "b",V.lst (Ay a.A1 nm nums 4 0 t []))])=true by simp [deq,Am,Ahw,dput]]
  have fr:∀ {b:Addr} {o x1 x2:O},σ1 b=some o->((σ1.put r x1).put r2' x2) b=some o:=fun {b o x1 x2} h=>by
    rw [Sto.A4 _ _ (nne h hr2'),Sto.A4 _ _ (nne h hr)]; exact h
  have hw2:=fr (x1:=.A5 [(Bf5 "b",V.lst (Ay a.A1 nm nums 4 0 t []))]) (x2:=.A5 (Ahw [] [(Bf5 "b",V.lst (Ay a.A1 nm nums 4 0 t []))])) hw'
  have Azk:=fr (x1:=.A5 [(Bf5 "b",V.lst (Ay a.A1 nm nums 4 0 t []))]) (x2:=.A5 (Ahw [] [(Bf5 "b",V.lst (Ay a.A1 nm nums 4 0 t []))])) hnu'
  have Azs:=fr (x1:=.A5 [(Bf5 "b",V.lst (Ay a.A1 nm nums 4 0 t []))]) (x2:=.A5 (Ahw [] [(Bf5 "b",V.lst (Ay a.A1 nm nums 4 0 t []))])) hlg'
  have hD2:=fr (x1:=.A5 [(Bf5 "b",V.lst (Ay a.A1 nm nums 4 0 t []))]) (x2:=.A5 (Ahw [] [(Bf5 "b",V.lst (Ay a.A1 nm nums 4 0 t []))])) hD'
  have Axt:=fr (x1:=.A5 [(Bf5 "b",V.lst (Ay a.A1 nm nums 4 0 t []))]) (x2:=.A5 (Ahw [] [(Bf5 "b",V.lst (Ay a.A1 nm nums 4 0 t []))])) hpl'
  have Awq:Sub σ ((σ1.put r (.A5 [(Bf5 "b",V.lst (Ay a.A1 nm nums 4 0 t []))])).put r2' (.A5 (Ahw [] [(Bf5 "b",V.lst (Ay a.A1 nm nums 4 0 t []))]))):=fun b o e=>fr (Au8 b o e)
  revert hw2 Azk Azs hD2 Axt Awq; with_reducible refine gz ((σ1.put r (.A5 [(Bf5 "b",V.lst (Ay a.A1 nm nums 4 0 t []))])).put r2' (.A5 (Ahw [] [(Bf5 "b",V.lst (Ay a.A1 nm nums 4 0 t []))]))) fun σ2 hw2 Azk Azs hD2 Axt Awq=>?_
  have lim:∀ {m},Reach (chN a.A1 T) k m->m < 19:=fun hm=>by
    obtain ⟨u,hu,_⟩:=Ac0 H hki hm
    exact Bh0 (Bf8.mp hu).1 hTl
  have lim2:∀ {m},Reach (chN a.A1 T) k m->m < 20:=fun hm=>Bt5 (lim hm)
  have r4:n + 4<=n + 8:=Bf4 (by decide) n
  refine Fn.room (n:=n + 4) (Aif (n:=n) (a:=a) (nm:=nm) (nums:=nums) (k:=k) H h3 ht2 hw2 Azk Azs N Awm hc hki Aio (by decide +kernel) (fun m hm' _=>Agb m (lim2 hm')) fun M hM tk htk=>?_) r4
  have fr:∀ {b:Addr} {o x1:O},σ2 b=some o->(σ2.put tk x1) b=some o:=fun {b o x1} h=>by
    rw [Sto.A4 _ _ (nne h htk)]; exact h
  have hMi:=Ait hM
  with_reducible refine gze (σ2.put tk (.A5 (Ai (Bf5 "b") (B4 a.A1 T t) (rvN nm nums a.A1 T) M))) fun σ3 hσ3=>?_
  have Bdj:σ3 tk=some (.A5 (Ai (Bf5 "b") (B4 a.A1 T t) (rvN nm nums a.A1 T) M)):=by rw [<- hσ3,Sto.A0]
  have hw3:σ3 wl=some (.A5 a.es):=by rw [<- hσ3]; exact fr hw2
  have Bcf:σ3 nl=some (.Ad (Ap (T.map .tup))):=by rw [<- hσ3]; exact fr Azk
  have Azu:σ3 a.lg=some (.A5 les):=by rw [<- hσ3]; exact fr Azs
  have hD3:σ3 a.dn=some (.list (An a.A1 T)):=by rw [<- hσ3]; exact fr hD2
  have Bc4:σ3 pl=some (.A5 (placeOf a.names)):=by rw [<- hσ3]; exact fr Axt
  have Ba3:Sub σ σ3:=fun b o e=>by rw [<- hσ3]; exact fr (Awq b o e)
  have hDl:(An a.A1 T).length=T.length:=by rw [An,Bf0]
  refine Aa1 (.loc hD3) (by rw [hDl]; exact Be8 hTl (by decide)) (.inr (Ajn (.val _) (.val _) ?_ (by rw [Bf0,Bf2]; exact Be8 (Bg4 (Bg4 Ant)) (by decide))))
  refine Axc (α:=Unit) (fun _=>σ3) (fun _=>[("world",.loc wl),("numbers",.loc nl),("number",.int k),("table",.tup t),("space",Abl a.names a.A1 a.lg pl),("diagrams",a.dia),("taken",.loc tk)])
    (fun ds _=>∀ d∈ds,∃ (j:Nat) (x:V),d=.tup [.int j,x]/\j<=19) _ () rfl (fun d hd=>?_) (Sub.refl _) rfl ?_ ?_
  · rcases Bh9.mp hd with hd | hd
    · obtain ⟨u,hu,rfl⟩:=Bh3.mp hd
      exact ⟨_,_,rfl,Be8 (Bk5 (Bk2 (Aa9 hnd ht u hu))) hTl⟩
    · rw [Bf7.mp hd]
      exact ⟨_,_,rfl,hDl ▸ hTl⟩
  · rintro ⟨⟩ _
    exact .go (hRs Ba3 hq)
  · rintro d rr ⟨⟩ K hK hI
    obtain ⟨j,x,rfl,hj⟩:=hI _ (.head _)
    have Axb:j < 20:=Bp3 hj
    have hn1:(Bf5 "n").length=1:=by decide +kernel
    have hI':=fun d hd=>hI d (.tail _ hd)
    refine A6 (k:=0) rfl (Ak7 (by exact r30) (by lia) (Aew ?_ ?_))
    rotate_left
    · rw [Bn6,hn1]
      exact Be8 (Bf4 (Adc j Axb) 1) (by decide)
    rw [show Bf5 "n" ++ Axe (j:Int)=nName j from rfl]
    have hjl:(nName j).length<=100:=by
      unfold nName
      rw [PySem.Str.length_append,hn1]; exact Be8 (Bf4 (Adc j Axb) 1) (by decide)
    have Auk:∀ m∈M,m < 20:=fun m hm'=>lim2 (hM.inn m hm').1
    refine Ag5 Bdj ?_
    by_cases hjM:j∈M
    · rw [Ad6 Auk hjM (Agb j Axb),Option.isSome_some]
      refine Aar (n:=n + 7) (Adq (n:=n + 6) (Ade (n:=n) (pr:=prP) (nd:=ndP) (nm:=nm) (nums:=nums) H h3 ht2 Bc4 hnl hok Azu N hD3 hki Aio hjl (.inr Az3) (fun y' e=>ns e) (fun _ e=>no e) (fun _ _ _=>?_) (fun _ _ M' hM' hb'=>absurd rfl (hb' j ((Ait hM' j).mpr ((hMi j).mp hjM))))))
      rw [decide_eq_true rfl]
      exact .mk _ (.bool _) (hK () _ _ hI' (Sub.refl _) rfl)
    · rw [Adx Auk Axb hjM,decide_eq_false (Agb j Axb)]
      have Bbg:∀ m,Reach (chN a.A1 T) k m->chN a.A1 T m≠none->nName m≠nName j:=fun m hr hn e=>by
        have:=Aev m (lim2 hr) j Axb e
        subst this
        exact hjM ((hMi m).mpr ⟨hr,hn⟩)
      refine Fn.room (n:=n + 6) (Ade (n:=n) (pr:=prP) (nd:=ndP) (nm:=nm) (nums:=nums) H h3 ht2 Bc4 hnl hok Azu N hD3 hki Aio hjl (.inr Az3) (fun y' e=>ns e) (fun _ e=>no e) (fun _ _ qC=>by obtain ⟨m,h1,h2,h3⟩:=qC; exact absurd h3 (Bbg m h1 h2)) (fun _ _ M1 hM1 _ q1 hq1=>?_)) (Bf4 (by decide) n)
      refine Fn.room (n:=n + 4) (Aif (n:=n) (a:=a) (nm:=nm) (nums:=nums) (k:=k) H h3 ht2 (by rw [Sto.A4 _ _ (nne hw3 hq1)]; exact hw3) (by rw [Sto.A4 _ _ (nne Bcf hq1)]; exact Bcf) (by rw [Sto.A4 _ _ (nne Azu hq1)]; exact Azu) N Awm hc hki Aio hjl Bbg fun M2 hM2 q2 hq2=>?_) r4
      have nq:q1≠q2:=A7 (Sto.A0 ..) hq2
      refine An6 (es:=Ai (nName j) (B4 a.A1 T t) (rvN nm nums a.A1 T) M1) (by rw [Sto.A4 _ _ nq,Sto.A0]) (Sto.A0 ..) (Ai1 H ht) (fun kv hkv=>(Ai1 H ht kv hkv).1) ?_
      rw [Ao0 hM1.nd hM2.nd (fun m=>by rw [Ait hM1,Ait hM2]) (fun m hm'=>lim2 (hM1.inn m hm').1) (fun m hm'=>Bbg m (hM1.inn m hm').1 (hM1.inn m hm').2)]
      exact hK () _ _ hI' (Sub.new (Sub.new (Sub.refl _) hq1) hq2) rfl
end
theorem Anb:∀ {es e},(es.map (·.name)).Nodup->e∈es->Am (Az es) e.name=if e.nums=[] then none else some (.tup (e.nums.map .int))
 | [],e,_,h=>by cases h
 | x :: es,e,hn,h=>by
  rw [Bh1,Br9] at hn
  have out:∀ {y:Str},y ∉ es.map (·.name)->Am (Az es) y=none:=fun {y} hy=>by
    unfold Am Az
    rw [Option.map_eq_none_iff,By3]
    intro kv hkv
    obtain ⟨z,hz,e1⟩:=By1.mp hkv
    split at e1
    · cases e1
    · cases e1
      simp only [decide_eq_true_eq]
      exact fun e2=>hy (e2 ▸ Bi8 hz)
  have hc:Az (x :: es)=if x.nums=[] then Az es else (x.name,.tup (x.nums.map .int)) :: Az es:=by
    unfold Az
    rw [Bq4]
    by_cases q:x.nums=[] <;> simp [q]
  rcases Bi0.mp h with rfl | h
  · rw [hc]
    by_cases q:e.nums=[]
    · rw [if_pos q,if_pos q,out hn.1]
    · rw [if_neg q,if_neg q]; simp [Am]
  · have ne:x.name≠e.name:=fun e2=>hn.1 (e2 ▸ Bi8 h)
    have ih:=Anb hn.2 h
    rw [hc]
    by_cases q:x.nums=[]
    · rw [if_pos q,ih]
    · rw [if_neg q,<- ih]
      unfold Am
      rw [Bk3,show decide (x.name=e.name)=false by simpa using ne]
theorem Ax4 {es} (h3:es.length=3) (hn:(es.map (·.name)).Nodup) (hp:∀ e∈es,e∈Aeu):Aie (es.map (·.name)) (es.map (·.top)) (Az es) (fun v=>((es[v]?).map (·.name)).getD "") (fun v=>((es[v]?).map (·.nums)).getD []):=by
 have get:∀ v,v < 3->∃ e,es[v]?=some e/\e∈es:=fun v hv=>⟨es[v]'(by lia),Bf1 (by lia),Bl7 _⟩
 refine ⟨fun v hv=>?_,fun v hv=>?_,fun v hv=>?_,fun v hv=>?_⟩
 all_goals obtain ⟨e,he,hm⟩:=get v hv
 all_goals obtain ⟨z1,z2,z3,z4⟩:=Aer e (hp e hm)
 · rw [Bf9,he]; rfl
 · simp only [he,Bl6,Bm2]
   rw [Anb hn hm]
   by_cases q:e.nums=[]
   · exact .inl ⟨if_pos q,q⟩
   · exact .inr ⟨if_neg q,q⟩
 · simp only [he,Bl6,Bm2]; lia
 · simp only [he,Bl6,Bm2]
   by_cases q:e.nums=[]
   · exact .inl q
   · right
     intro p hp'
     rw [Bf9,he] at hp'
     simp only [Bl6,Bs3] at hp'
     have:=z4 q; rw [this,hp']; exact Br2 _
theorem kne {ks:List Addr} (K:ks.Nodup) (i j:Nat) {a b:Addr} (hi:ks[i]?=some a) (hj:ks[j]?=some b) (h:i≠j:=by decide):a≠b:=fun e=>h ((List.getElem?_inj (Bf8.mp hi).1 K).mp (hi.trans (e ▸ hj.symm)))
section
variable {w:World} {n:Nat} {σ:Sto} {Y:Str->Sto->Prop}
theorem Ay1 {xs:List Int} (hxs:xs.length<=63):Fn (PM w) (n + 12) (.ref 399) [.lst (xs.map .int)] σ (fun v _=>v=.bool true) Y:=by
 have l63:xs.length<=100000:=Be8 hxs (by decide)
 refine B8 rfl rfl (Aov fun _=>rfl) rfl fun R' Y' hR hY hRs hYs=>Fn.room (n:=n + 1) (At8 fun pa ns hns hpa=>?_) (Bf4 (by decide) n)
 refine Aa1 (.val _) (by rw [Bf0]; exact l63) (Aa1 (ds:=ns.map .int) (.loc (Sto.A0 ..)) (by rw [Bf0,hns]; decide) ?_)
 rw [Bf0,Bf0]
 refine Afd (Aac (k:=min xs.length ns.length) (by exact r15) ?_ (Be8 (Bq9 ..) (Be8 l63 (by decide))))
 have r1:n + 1<=n + 11:=Bf4 (by decide) n
 refine Ajx (u:=0) (α:=List Int) (fun ns=>σ.put pa (B0 ns)) (fun _=>[("script",.lst (xs.map .int)),("pen",.loc pa)]) (fun k ns=>ns.length=66) ns rfl hns (Sub.refl _) rfl ?_ ?_
 rotate_left
 · rintro k ns' K hk hK e1
   have hk:k < xs.length:=Bh0 (Bk8 (min ..) ▸ hk) (Bq9 ..)
   have hk2:k < ns'.length:=by rw [e1]; exact Bh0 hk (Be8 hxs (by decide))
   have kl:k < 1000000:=Bh0 hk (Be8 l63 (by decide))
   refine Ab (k:=k) (d:=.int ns'[k]) (.loc (Sto.A0 ..)) (by rw [Bf9,Bf1 hk2]; rfl) (Ab (k:=k) (d:=.int xs[k]) (.val _) (by rw [Bf9,Bf1 hk]; rfl) (Ahe (ds:=ns'.map .int) (j:=k) (Sto.A0 ..) (.inl ⟨Bk0 _,by exact tl (Bh0 hk hxs) (by decide),rfl⟩) (by rw [Bf0]; exact hk2) ?_) kl) kl
   rw [Sto.A9,<- List.map_set]
   exact hK (ns'.set k (ns'[k] + xs[k])) _ _ (by rw [List.length_set]; exact e1) (Sub.refl _) rfl
 clear hns
 intro ns hns
 refine .go (Fn.room (n:=n + 3) (Asy (n:=n) (Sto.A0 ..) (Bm3 hns) fun es ms a wl h3 qM hms hna hta hce K6=>?_) (Bf4 (by decide) n))
 obtain ⟨rem,Al4⟩:=qM
 have s1:=fun (σ:Sto) vs=>Aag (σ:=σ) (vs:=B0 ms :: vs) 0 K6 rfl rfl
 have s2:=Aag (σ:=σ.put pa (B0 ns)) (vs:=[B0 ms,.A5 (Az es),.list [],.Ad [],.A5 [],.A5 a.es]) 1 K6 rfl rfl
 have s3:=Aag (σ:=σ.put pa (B0 ns)) (vs:=[B0 ms,.A5 (Az es),.list [],.Ad [],.A5 [],.A5 a.es]) 2 K6 rfl rfl
 have s4:=Aag (σ:=σ.put pa (B0 ns)) (vs:=[B0 ms,.A5 (Az es),.list [],.Ad [],.A5 [],.A5 a.es]) 3 K6 rfl rfl
 have s5:=Aag (σ:=σ.put pa (B0 ns)) (vs:=[B0 ms,.A5 (Az es),.list [],.Ad [],.A5 [],.A5 a.es]) 5 K6 rfl rfl
 have s1:=s1 (σ.put pa (B0 ns)) [.A5 (Az es),.list [],.Ad [],.A5 [],.A5 a.es]
 revert s2 s3 s4 s5 s1; with_reducible refine gz (Ahh (σ.put pa (B0 ns)) [pa,a.lg,a.dn,a.db,a.dm,wl] [B0 ms,.A5 (Az es),.list [],.Ad [],.A5 [],.A5 a.es]) fun σ1 s2 s3 s4 s5 s1=>?_
 refine .inl fun na Ay2=>?_
 have m1:=nne s1 Ay2
 have m2:=nne s2 Ay2
 have m3:=nne s3 Ay2
 have m4:=nne s4 Ay2
 have m5:=nne s5 Ay2
 have np1:a.lg≠pa:=kne K6 1 0 rfl rfl
 have L:LawW (σ1.put na (.list [])) a wl pa na:=by
   refine ⟨by rw [Sto.A4 _ _ m5]; exact s5,by rw [hta,Bf0,h3],fun p hp=>?_,hce,m1,kne K6 0 2 rfl rfl,kne K6 0 3 rfl rfl,m3.symm,m4.symm,kne K6 2 3 rfl rfl,kne K6 5 0 rfl rfl,m5,kne K6 5 2 rfl rfl,kne K6 5 3 rfl rfl⟩
   rw [hta] at hp
   obtain ⟨e,he,rfl⟩:=Bh3.mp hp
   have:=Aer e (Al4.subset (Bi2 _ he))
   exact ⟨this.1,this.2.1⟩
 have Af6:Aj (σ1.put na (.list [])) a pa na [] [] ms=σ1.put na (.list []):=by
   show ((((σ1.put na (.list [])).put a.db (.Ad [])).put a.dn (.list [])).put na (.list [])).put pa (B0 ms)=_
   rw [Sto.Acr (a:=a.db) (by rw [Sto.A4 _ _ m4]; exact s4),Sto.Acr (a:=a.dn) (by rw [Sto.A4 _ _ m3]; exact s3),Sto.A9,Sto.Acr (a:=pa) (by rw [Sto.A4 _ _ m1]; exact s1)]
 have Bar:∀ T nd ms,Aj (σ1.put na (.list [])) a pa na T nd ms a.lg=some (.A5 (Az es)):=fun T nd ms=>by
   unfold Aj Aho
   rw [Sto.A4 _ _ np1,Sto.A4 _ _ m2,Sto.A4 _ _ (kne K6 1 2 rfl rfl),Sto.A4 _ _ (kne K6 1 3 rfl rfl),Sto.A4 _ _ m2]; exact s2
 rw [<- Af6]
 revert L Af6 Bar; with_reducible refine gz (σ1.put na (.list [])) fun σ2 L Af6 Bar=>?_
 obtain ⟨Amk,hcl⟩:=L.szs
 have Ba9:∀ T nd ms,Aj σ2 a pa na T nd ms pa=some (B0 ms):=fun T nd ms=>L.pen
 refine .inr (Fn.room (n:=n + 1) (Aaz (n:=n) (k:=4) (Ba9 _ _ _) hms (by decide) fun q1 ns1 hq1 Ar4=>?_) r1)
 rw [Aau]
 obtain ⟨x3,hx3,hk3⟩:∃ x,([V.str (Bf5 "drop"),V.str (Bf5 "continue"),V.int 7,V.str (Bf5 "accept")]:List V)[q1]?=some x/\kv x:=by
   rcases (by lia:q1=0∨q1=1∨q1=2∨q1=3) with rfl | rfl | rfl | rfl <;> exact ⟨_,rfl,rfl,rfl⟩
 refine Ab (k:=q1) (.val _) hx3 (.inr ?_) (Bj4 hq1 (by decide))
 refine Axc (α:=List (List V) × List (List V)) (fun x=>Aj σ2 a pa na x.1 x.2 ns1) (fun _=>[("pen",.loc pa),("nodes",.loc na),("world",.loc wl)])
   (fun ds x=>Bc a.A1 x.1/\(∀ t∈x.2,t∈x.1/\(asked a.A1 t).1=3)/\x.1.length + ds.length<=3/\x.2.length + ds.length=3/\∀ d∈ds,kv d) _ ([],[]) rfl
   ⟨⟨.nil,fun _ h=>absurd h Bj2,fun _ h=>absurd h Bj2,fun _ h=>absurd h Bj2⟩,fun _ h=>absurd h Bj2,Bh7 _,rfl,fun d hd=>?_⟩ (Sub.refl _) rfl ?_ ?_
 · cases hd with
   | head=>exact ⟨rfl,rfl⟩
   | tail _ hd=>
     cases hd with
     | head=>exact ⟨rfl,rfl⟩
     | tail _ hd=>rw [Bf7.mp hd]; exact hk3
 rotate_left
 · rintro d r ⟨T,nd⟩ K hK ⟨e1,e2,e3,e4,e5⟩
   dsimp only at e1 e2 e3 e4
   rw [Bh5] at e3 e4
   have hkd:=e5 d (.head _)
   have L2:=L.nod (T:=T) (nd:=nd) (ns:=ns1)
   refine Af L2 (Ac L.wld rfl (Fn.room (n:=n + 2) (Atn (n:=n) e1 L.dn L.db L.n6 (by lia) hkd ?_) (Bf4 (by decide) n)))
   rw [L.Aho,<- Ah7 (u:=whole (szs a.A1) [d]) fun t ht=>(e2 t ht).1]
   have HT':=e1.leaf hkd
   have hTl':=Ajb (T:=T) (u:=whole (szs a.A1) [d])
   have ha3:(asked a.A1 (whole (szs a.A1) [d])).1=3:=by rw [Ae4,L.h3]
   rw [show ((Aho σ2 a.dn a.db (An a.A1 (B6 T (whole (szs a.A1) [d])))).put na (.list (nd.map (Av (B6 T (whole (szs a.A1) [d])))))).put pa (B0 ns1)=Aj σ2 a pa na (B6 T (whole (szs a.A1) [d])) nd ns1 from rfl]
   have L2':=L.nod (T:=B6 T (whole (szs a.A1) [d])) (nd:=nd) (ns:=ns1)
   have Aii:a.cells.length<=100000:=by rw [hcl]; exact Be8 Amk (by decide)
   refine Ac L.wld rfl (Aa1 (ds:=a.cells) (.val _) Aii (Ar6 (k:=a.cells.length) rfl (by rw [hcl]; exact Ah _) (Bs4 _ _) ?_ (by rw [Bo4,Nat.one_mul]; exact Aii)))
   rw [show V.tup (Bg8 a.cells.length [d]).flatten=V.tup (whole (szs a.A1) [d]) by rw [hcl,Aai,Bo4,Nat.div_one]; rfl]
   revert HT' hTl' ha3 L2'; with_reducible refine gz (whole (szs a.A1) [d]) fun u HT' hTl' ha3 L2'=>?_
   refine Ae L2' (hK (B6 T u,nd ++ [u]) _ _ ⟨HT',Aa9 (p:=fun t=>t∈B6 T u/\(asked a.A1 t).1=3) (fun t ht=>⟨Ag2 (e2 t ht).1,(e2 t ht).2⟩) ⟨Adf,ha3⟩,by dsimp only; exact Be8 (Bi6 hTl' _) (by rw [Bh4]; exact e3),by rw [Bf2,Bo4]; lia,fun x hx=>e5 x (.tail _ hx)⟩ ?_ rfl) (by rw [Bf0]; lia)
   dsimp only
   unfold Aj
   rw [Sto.Ao _ _ _ L.n1,Sto.A9,Bg2]
   exact Sub.refl _
 rintro ⟨T,nd⟩ ⟨e1,e2,e3,e4,_⟩
 dsimp only at e1 e2 e3 e4
 rw [Bl2,Nat.add_zero] at e3 e4
 have G:Axk a T nd:=⟨e1,fun t ht=>(e2 t ht).1,by
   cases nd with
   | nil=>cases e4
   | cons t r=>exact ⟨t,.head _,(e2 t (.head _)).2⟩⟩
 clear e1 e2
 refine .go (Aac (k:=6) rfl ?_ (by decide))
 refine Ajx (u:=0) (α:=List (List V) × List (List V) × List Int) (fun x=>Aj σ2 a pa na x.1 x.2.1 x.2.2) (fun _=>[("pen",.loc pa),("nodes",.loc na),("world",.loc wl)])
   (fun k x=>Axk a x.1 x.2.1/\x.1.length<=3 + k/\x.2.1.length<=3 + k/\x.2.2.length<=66) (T,nd,ns1) rfl ⟨G,e3,Bm3 e4,Ar4⟩ (Sub.refl _) rfl ?_ ?_
 rotate_left
 · clear G e3 e4 Ar4
   rintro k ⟨T,nd,ns⟩ K hk hK ⟨G,e3,e4,hns⟩
   dsimp only at G e3 e4 hns
   have hk:k < 6:=Bk8 6 ▸ hk
   have tl:T.length<=20:=by exact Be8 e3 (Be8 (Bf4 (Bk5 hk) 3) (by decide))
   have nl:nd.length<=20:=by exact Be8 e4 (Be8 (Bf4 (Bk5 hk) 3) (by decide))
   refine Fn.room (n:=n + 1) (Aaz (n:=n) (k:=3) (Ba9 _ _ _) hns (by decide) fun kd ns1 hkd Ar4=>?_) r1
   rw [Aau]
   refine Fn.room (n:=n + 1) (Aaz (n:=n) (k:=3) (Ba9 _ _ _) Ar4 (by decide) fun v ns2 hv Auo=>?_) r1
   rw [Aau]
   refine Abx (dI (fun qk=>?_) fun qk=>?_)
   · refine Fn.room (n:=n + 7) (Ap9 (n:=n) L G hv tl nl Auo fun T' nd' ms' G' h1 h2 h3=>?_) (Bf4 (by decide) n)
     exact .mk _ (.bool _) (Arj (dF (fun e=>by lia) (hK (T',nd',ms') _ _ ⟨G',Be8 h1 (Bg4 e3),Be8 h2 (Bg4 e4),h3⟩ (Sub.refl _) rfl)))
   · refine Arj (dT (by lia) (Abx (Fn.room (n:=n + 6) (Av4 (n:=n) L G hv tl nl Auo fun T' nd' ms' G' h1 h2 h3=>?_) (Bf4 (by decide) n))))
     exact .mk _ (.bool _) (hK (T',nd',ms') _ _ ⟨G',Be8 h1 (Bg4 e3),Be8 h2 (Bg4 e4),h3⟩ (Sub.refl _) rfl)
 clear G e3 e4 Ar4
 rintro ⟨T,nd,ns⟩ ⟨G,e3,e4,hns⟩
 dsimp only at G e3 e4 hns
 have e3:T.length<=9:=e3
 have e4:nd.length<=9:=e4
 refine .frz "nodes" rfl L.nod (.go ?_)
 have fd:∀ {b:Addr},b≠na->((Aj σ2 a pa na T nd ns).del na) b=Aj σ2 a pa na T nd ns b:=fun {b} hb=>if_neg hb
 have f1:=(fd L.w2).trans L.wld
 have f2:=(fd (Bq3 L.n4)).trans L.dn
 have f3:=(fd L.n1).trans L.pen
 have f4:=(fd m2).trans (Bar T nd ns)
 revert fd f1 f2 f3 f4; with_reducible refine gze ((Aj σ2 a pa na T nd ns).del na) fun σf hσf fd f1 f2 f3 f4=>?_
 have g1:∀ ms,(σf.put pa (B0 ms)) wl=some (.A5 a.es):=fun ms=>by rw [Sto.A4 _ _ L.w1]; exact f1
 have g2:∀ ms,(σf.put pa (B0 ms)) a.dn=some (.list (An a.A1 T)):=fun ms=>by rw [Sto.A4 _ _ L.n2.symm]; exact f2
 have g4:∀ ms,(σf.put pa (B0 ms)) a.lg=some (.A5 (Az es)):=fun ms=>by rw [Sto.A4 _ _ np1]; exact f4
 rw [show σf=σf.put pa (B0 ns) from (Sto.Acr f3).symm]
 have H:=G.H
 have ht2:∀ p∈a.A1,p<=2:=fun p hp=>(L.Ba p hp).2
 have Acx:∀ p∈a.A1,p<=10:=fun p hp=>Be8 (ht2 p hp) (by decide)
 have hDl:(An a.A1 T).length=T.length:=by rw [An,Bf0]
 have T20:T.length<=20:=Be8 e3 (by decide)
 have h33:3<=a.A1.length:=Bm3 L.h3.symm
 have h3':a.A1.length<=3:=Bm3 L.h3
 refine Fn.room (n:=n + 5) (Anx (n:=n + 4) (a:=a) (T:=T) (g1 _) (g2 _) hDl H.nd (Be8 e3 (by decide)) (fun t ht=>by rw [H.len t ht,hcl]) (by rw [hcl]; exact Be8 Amk (by decide)) (fun t ht=>by have:=Agg (H.val t ht); exact ⟨this.1,by rw [this.2]; decide⟩) (fun k t hk j c x hc hx=>?_) fun nl hnl=>?_) (Bf4 (by decide) n)
 · obtain ⟨cn,hcn⟩:∃ cn,(B7 a.A1)[j]?=some cn:=⟨_,Bf1 (by rw [Ac2,<- hcl]; exact (Bf8.mp hc).1)⟩
   have hcc:c=Aj6 cn:=by rw [L.hc,Bf9,hcn] at hc; exact (Br1 hc).symm
   subst hcc
   have hrd:=Aor (H.len t (Bg0 hk)) hcn hx
   intro σ' Q' Y' hD' hQ'
   refine Aje (n:=n) (vals:=cn) H hD' (Be8 e3 (by decide)) (by rw [L.h3]; decide) hk (by rw [(Acj (Bg0 hcn)).1]) (.inr ?_) (fun e=>by rw [hrd] at e; cases e) (fun y e=>by rw [hrd] at e; cases e; exact hQ')
   rw [Bi7]; rfl
 have nlp':nl≠pa:=(nne (Sto.A0 ..) hnl).symm
 have Bbh:∀ ms,(σf.put pa (B0 ms)) nl=none:=fun ms=>by rw [Sto.A4 _ _ nlp'] at hnl ⊢; exact hnl
 have t1:∀ ms,((σf.put pa (B0 ms)).put nl (.Ad (Ap (T.map .tup)))) wl=some (.A5 a.es):=fun ms=>by rw [Sto.A4 _ _ (nne (g1 ms) (Bbh ms))]; exact g1 ms
 have t2:∀ ms,((σf.put pa (B0 ms)).put nl (.Ad (Ap (T.map .tup)))) a.dn=some (.list (An a.A1 T)):=fun ms=>by rw [Sto.A4 _ _ (nne (g2 ms) (Bbh ms))]; exact g2 ms
 have t4:∀ ms,((σf.put pa (B0 ms)).put nl (.Ad (Ap (T.map .tup)))) a.lg=some (.A5 (Az es)):=fun ms=>by rw [Sto.A4 _ _ (nne (g4 ms) (Bbh ms))]; exact g4 ms
 have t5:∀ ms,((σf.put pa (B0 ms)).put nl (.Ad (Ap (T.map .tup)))) nl=some (.Ad (Ap (T.map .tup))):=fun ms=>Sto.A0 ..
 have t6:∀ ms,((σf.put pa (B0 ms)).put nl (.Ad (Ap (T.map .tup)))) pa=some (B0 ms):=fun ms=>by rw [Sto.A4 _ _ nlp'.symm,Sto.A0]
 have t7:∀ ms ms',((σf.put pa (B0 ms)).put nl (.Ad (Ap (T.map .tup)))).put pa (B0 ms')=(σf.put pa (B0 ms')).put nl (.Ad (Ap (T.map .tup))):=fun ms ms'=>by rw [Sto.Ao _ _ _ nlp',Sto.A9]
 obtain ⟨σp,hσp⟩:∃ σp:List Int->Sto,∀ ms,(σf.put pa (B0 ms)).put nl (.Ad (Ap (T.map .tup)))=σp ms:=⟨_,fun _=>rfl⟩
 simp only [hσp] at t1 t2 t4 t5 t6 t7 ⊢
 have t8:∀ {ms:List Int} ms' acc,σp ms acc=none->σp ms' acc=none:=fun {ms} ms' acc h=>by
   have:=nne (t6 ms) h
   rw [<- t7 ms ms',Sto.A4 _ _ this.symm]; exact h
 refine Bbd (dF (fun e=>nomatch e) (Aht rfl (Acw (Av T) (fun _=>none) nd rfl (Be8 e4 (by decide)) ?_ fun acc B1 t ht vs K1 K0 h1 h0=>?_)))
 rotate_left
 · have htT:=G.sub t ht
   have nla:=nne (t5 ns) B1
   have hky:=Agg (H.val t htT)
   refine Awe (es:=Ap (T.map .tup)) (by rw [Sto.A4 _ _ nla]; exact t5 ns) (A6 (k:=1) (d:=.tup t) rfl (Ark (es:=Ap (T.map .tup)) (by rw [Sto.A4 _ _ nla]; exact t5 ns) hky.1 (by rw [hky.2]; decide) ?_))
   rw [Ab6,if_pos (Bi8 htT),idx_map (f:=V.tup) fun x _ e=>by cases (e); rfl]
   exact A6 (k:=0) (d:=.int (T.idxOf t:Nat)) rfl (Amh (dF (fun h=>h rfl) (h0 _ rfl (Sub.refl _))))
 rw [show nd.filterMap (fun _=>(none:Option V))=[] from Bq5.mpr fun _ _=>rfl]
 refine .inr (Afs (.val _) (.val _) (nF rfl ?_) rfl rfl Ajh)
 have Bc7:∀ e∈es,e∈Aeu:=fun e he=>Al4.subset (Bi2 _ he)
 have hnn:(es.map (·.name)).Nodup:=by
   have:=(Al4.map (·.name)).nodup_iff.mpr Ai5
   rw [Bg2,Bm6] at this
   exact this.2.1
 have N:Aie a.names a.A1 (Az es) (fun v=>((es[v]?).map (·.name)).getD "") (fun v=>((es[v]?).map (·.nums)).getD []):=by
   rw [hna,hta]; exact Ax4 h3 hnn Bc7
 have Awg:∀ x∈a.names,∃ e∈Aeu,e.name=x:=fun x hx=>by
   rw [hna] at hx
   obtain ⟨e,he,rfl⟩:=Bh3.mp hx
   exact ⟨e,Bc7 e he,rfl⟩
 obtain ⟨nd',t,rfl⟩:∃ nd' t,nd=nd' ++ [t]:=by
   obtain ⟨u,hu,_⟩:=G.lf
   exact snoc (C:=fun nd=>u∈nd->∃ nd' t,nd=nd' ++ [t]) (fun h=>absurd h Bj2) (fun l x _=>⟨l,x,rfl⟩) nd hu
 have htT:=G.sub t (Bi2 _ (.head _))
 have htl:=H.len t htT
 have Ayk:0 < (nd' ++ [t]).length:=by rw [Bf2]; exact Bq1 _
 have Ant:((nd' ++ [t]).map (Av T)).length<=100000:=by rw [Bf0]; exact Be8 e4 (by decide)
 refine Aac (k:=4) rfl ?_ (by decide)
 refine Ajx (u:=0) (α:=List Int) σp (fun _=>[("pen",.loc pa),("world",.loc wl),("nodes",.lst ((nd' ++ [t]).map (Av T))),("numbers",.loc nl)]) (fun _ ms=>ms.length<=66) ns rfl hns (Sub.refl _) rfl ?_ ?_
 rotate_left
 · clear hns
   rintro _ ns K _ hK hns
   refine Axg rfl rfl rfl (Ac (t1 ns) rfl ?_)
   refine Aq4 σp a.A1 (fun n:Nat=>V.int (n:Int)) (fun p x=>∃ r:Nat,r < p + 3/\x=.int (r:Int)) rfl hns (by rw [L.h3]; decide) (fun ms acc h=>t8 ms acc h) (fun vs ns2 hvs Auo=>?_) fun acc B1 p hp vs ms K hms hK=>?_
   rotate_left
   · have hacc':=nne (t6 _) B1
     refine Fn.room (n:=n + 1) (Aaz (n:=n) (k:=p + 3) (by rw [Sto.A4 _ _ hacc']; exact t6 ms) hms (Bq1 _) fun k1 ms1 hk1 Avg=>?_) r1
     rw [Sto.Ao _ _ _ hacc'.symm,t7]
     exact hK _ _ ⟨k1,hk1,rfl⟩ Avg
   obtain ⟨ys,hy1,rfl,hy2⟩:=An1 (fun _ (r:Nat)=>V.int (r:Int)) (fun p r=>r < p + 3) hvs (fun x hx v qB=>by obtain ⟨r,hr,e⟩:=qB; exact ⟨r,e,hr⟩)
   have hvl:(ys.map (·.2)).length=a.A1.length:=by rw [Bf0,<- hy1,Bf0]
   have hvb:∀ x∈ys.map (·.2),x<=100:=fun x hx=>by
     obtain ⟨p,hp,rfl⟩:=Bh3.mp hx
     have h2:p.1∈a.A1:=by rw [<- hy1]; exact Bi8 hp
     exact Be8 (Bk5 (hy2 p hp)) (Be8 (Bi6 (ht2 _ h2) 3) (by decide))
   rw [show ys.map (fun p=>V.int (p.2:Int))=tupI (ys.map (·.2)) by unfold tupI; rw [Bi7]; rfl]
   revert hvl hvb; with_reducible refine gz (ys.map fun x:Nat × Nat=>x.2) fun vals hvl hvb=>?_
   have hvv:V.lst (tupI vals)=.lst ((vals.map fun x:Nat=>(x:Int)).map .int):=by unfold tupI; rw [Bi7]; rfl
   have T1000:T.length<=1000:=Be8 e3 (by decide)
   have t100:a.A1.length<=100:=by rw [L.h3]; decide
   refine Acd (d:=.tup [.int (T.idxOf t:Nat),.tup t]) (.val _) (getL _) (Fn.room (n:=n + 7) (Avb (n:=n + 4) (a:=a) (t1 ns2) Acx htl (by rw [htl]; exact Be8 Amk (by decide)) (fun x hx=>(H.val t htT x hx).flat) t100 hvl hvb (fun e Q' hQ'=>?_) (fun x e Q' Y' hQ'=>?_) (.mk _ (.bool _) (hK ns2 _ _ Auo (Sub.refl _) rfl))) (Bf4 (by decide) n))
   · exact Aje (n:=n) (vals:=vals) H (t2 ns2) T1000 t100 (Aca htT) hvl (.inl (by rw [hvv]; exact .val _)) (fun _=>hQ') (fun x e'=>by rw [e] at e'; cases e')
   · exact Fn.room (Aje (n:=n) (vals:=vals) H (t2 ns2) T1000 t100 (Aca htT) hvl (.inl (by rw [hvv]; exact .val _)) (fun e'=>by rw [e] at e'; cases e') (fun y e'=>by rw [e] at e'; cases e'; exact hQ')) (by lia)
 clear hns
 intro ns hns
 refine .go (Aac (k:=2) rfl ?_ (by decide))
 refine Ajx (u:=0) (α:=List Int) σp (fun _=>[("pen",.loc pa),("world",.loc wl),("nodes",.lst ((nd' ++ [t]).map (Av T))),("numbers",.loc nl)]) (fun _ ms=>ms.length<=66) ns rfl hns (Sub.refl _) rfl ?_ ?_
 rotate_left
 · clear hns
   rintro _ ns K _ hK hns
   have getN:∀ r,r < (nd' ++ [t]).length->∃ u,(nd' ++ [t])[r]?=some u/\u∈T:=fun r hr=>⟨(nd' ++ [t])[r],Bf1 hr,G.sub _ (Bl7 hr)⟩
   refine Aa1 (ds:=(nd' ++ [t]).map (Av T)) (.val _) Ant ?_
   rw [Bf0]
   refine Fn.room (n:=n + 1) (Aaz (n:=n) (k:=(nd' ++ [t]).length) (t6 _) hns Ayk fun k1 ns1 hk1 Ar4=>?_) r1
   rw [t7]
   obtain ⟨ty,hy1,hy2⟩:=getN k1 hk1
   refine Ab (k:=k1) (.val _) (by rw [Bf9,hy1]; rfl) (Aa1 (ds:=(nd' ++ [t]).map (Av T)) (.val _) Ant ?_) (Bh0 hk1 (Be8 e4 (by decide)))
   rw [Bf0]
   refine Fn.room (n:=n + 1) (Aaz (n:=n) (k:=(nd' ++ [t]).length) (t6 _) Ar4 Ayk fun k2 ns2 hk2 Auo=>?_) r1
   rw [t7]
   obtain ⟨tk,hk1',hk2'⟩:=getN k2 hk2
   refine Ab (k:=k2) (.val _) (by rw [Bf9,hk1']; rfl) ?_ (Bh0 hk2 (Be8 e4 (by decide)))
   exact Fn.room (n:=n + 6) (Ao1 (n:=n) (a:=a) H (t1 _) (t2 _) (t5 _) L.h3 Acx (Be8 Amk (by decide)) hcl (Be8 e3 (by decide)) (Aca hy2) (Aca hk2') (.mk _ (.bool _) (hK ns2 _ _ Auo (Sub.refl _) rfl))) (Bf4 (by decide) n)
 clear hns
 intro ns hns
 have e5:nd'.length<=20:=by rw [Bf2] at e4; exact Be8 (Bl8 e4) (by decide)
 refine .go (Fn.room (n:=n + 9) (Atl (n:=n) (a:=a) (nd:=nd') H L.h3 ht2 (t1 _) (t5 _) (t4 _) (t2 _) N Amk hcl (Be8 e3 (by decide)) e5 (fun u hu=>G.sub u (Bi3 _ hu)) htT (fun x hx=>?_) (by rw [hna]; exact hnn) (by rw [hna,Bf0,h3]; decide) (fun x hx=>?_) (fun x hx=>?_) (hR rfl)) (Bf4 (by decide) n))
 · obtain ⟨e,he,rfl⟩:=Awg x hx; exact Awv he
 · obtain ⟨e,he,rfl⟩:=Awg x hx; exact (Afc e he).2.2.2.2.2.1
 · obtain ⟨e,he,rfl⟩:=Awg x hx; exact (Afc e he).2.2.2.2.2.2
end
theorem Ath {g:Heap} {vs:List Value} {ns:List Int} (h:IntsAre vs ns):VRs g vs (ns.map .int):=by
 induction h with
 | nil=>exact .nil
 | cons i t _ ih=>exact .cons (.int i t) ih
end Mine.Internal
open Mine.Internal
set_option tactic.hygienic true in
set_option maxRecDepth 100000 in
set_option maxHeartbeats 8000000 in
theorem PySem.Challenge.cw_pq1083_01_holds : PySem.Challenge.rw_pq1083_01.Holds :=
 hd (by
 k_fill
 intro w s₀ s₁ mg mb G Y fa o pm cd doc dV kV ho hd hcd hD hmg hg args vals as Bd6 Bdt hrd hwl hlo
 have KX := kIn_of Y
 have Bdp : fa = 399 := by
  have := mg_of (n := "law") (v := .ref 399) KX G.T.g (by kernel_rfl)
  have e2 : mg "law" = some (.ref fa) := hmg
  rw [this] at e2; cases e2; rfl
 subst Bdp
 clear hd hcd hD hmg ho
 wrow_args Bd6 Bdt hrd hwl hlo
 rename_i xs hs Bbo hL1 hr1 hl2 w4 w3 l vs w0 hL ra w1 r0 hI hr Be3 hT
 clear hs Bbo hL1 hr1 hl2 w1 r0 hr ra
 have hlen : xs.length <= 63 := by omega
 have R : RepC (PM w) ⟨s₁.heap, s₁.heap, s₁.gens, s₁.drawn, s₁.os⟩ s₁.heap callerA [] (fun _ => none) s₁ :=
  ⟨⟨KX, ⟨mb, G.T.b, G.T.builtins⟩, G.T.nolimit, G.T.nodigits⟩, rfl, trivial, Keeps.refl _, A2 _, A2 _, fun a h1 h2 => absurd h2 h1, (by intro a x e; cases e), rfl, rfl, ⟨rfl, by intro a x e; cases e⟩⟩
 have hv : VRs s₁.heap [Value.ref l] [V.lst (xs.map .int)] := by
  obtain ⟨ol, hol, hcl, nl, hdl⟩ := hL
  exact .one (.lst hol hcl hdl (Ath hI))
 have Azz : Bg callerA 12 := ⟨by decide +kernel, by decide +kernel, rfl⟩
 refine Ci9 (Bp5 (Ay1 (w := w) (n := 0) (σ := fun _ => none) (Y := fun _ _ => False) hlen callerA [] _ s₁.heap s₁ _ R hv Azz) fun r s' q => ?_)
 cases r with
 | error e => obtain ⟨_, _, _, _, _, _, _, _, f⟩ := q; exact f.elim
 | ok f =>
  cases f with
  | ret v =>
   obtain ⟨g', σ', d, q1, q2, q3, q4⟩ := q
   subst q4
   cases q3
   refine ⟨.inl ⟨_, .bool true, [], rfl, fun _ => rfl, ?_, ?_, ?_⟩, OldK.of_keep (A3 q1 q2.fz), q2.os.1, ?_⟩
   · exact .bool true
   · wrow_post
   · exact fun _ => ⟨.nil, fun a ha => by cases ha⟩
   · rw [q2.gens]
     show AllBare s₁.gens
     rw [hg]
     intro y hy
     simp at hy
  | _ => exact q.elim)