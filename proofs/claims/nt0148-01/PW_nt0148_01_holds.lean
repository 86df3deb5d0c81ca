import PyProof.Rows.All
import Wide.All
import OpenK.AllK
import Wide.FinOn
import ObjForm.Fk.InstStore
import Imp.PinsA
import KE.IntText
import PyProof.SliceStr2
import PyProof.StrBlock2
import KE.KIntText
import PyProof.Rows.StrCase
import PyProof.Rows.StrJoin2
import PyProof.Rows.StrFit
import KE.KFromBytes
import PyProof.ToksMono
import PyProof.Walks
import PyProof.InstStoreFacts
import PyProof.ExcBaseAll.Exception
import PyProof.ExcClass2
import KE.KItem
import KE.KTryMore
import Wide.WTab
import PyProof.Conv_int_bool
import PyProof.Rows.RuleB_small
import PyProof.Cells
import PyProof.CompFree
import Lean
import PySem.Challenge.RW_nt0148_01
set_option Elab.async false
set_option maxRecDepth 100000
set_option maxHeartbeats 0
set_option linter.all false
set_option genInjectivity false
set_option genSizeOf false
noncomputable section
namespace Mine
open PySem PySem.W PySem.Calls PyProof.Rows PySem.Builtin
abbrev Z0a:=@Option.some.inj
abbrev Z0b:=@Nat.lt_of_lt_of_le
abbrev Z0c:=@Nat.le_trans
abbrev Z0d:=@wpAny_bind
abbrev Z0e:=@Nat.eq_of_beq_eq_true
abbrev Z0f:=@wpAny_pure
abbrev Z0g:=@Nat.le_refl
abbrev Z0h:=@Heap.get?_push_of_some
abbrev Z0i:=@Heap.lt_size
abbrev Z0j:=@wpAny_execs_cons
abbrev Z0k:=@Nat.ne_of_lt
abbrev Z0l:=@Nat.le_of_ble_eq_true
abbrev Z0m:=@if_neg
abbrev Z0n:=@spliced_cons
abbrev Z0o:=@Nat.le_of_lt
abbrev Z0p:=@if_pos
abbrev Z0q:=@Nat.ne_of_gt
abbrev Z0r:=@Heap.get?_push_size
abbrev Z0s:=@List.mem_singleton
abbrev Z0t:=@Nat.lt_of_le_of_lt
abbrev Z0u:=@Bool.false_ne_true
abbrev Z0v:=@Nat.lt_succ_self
abbrev Z0w:=@List.getElem?_eq_getElem
abbrev Z0x:=@spliced_nil
abbrev Z0y:=@Nat.not_lt_zero
abbrev Z0z:=@Nat.le_of_eq
abbrev Z1a:=@wpAny_truthy_bool
abbrev Z1b:=@wpAny_holding
abbrev Z1c:=@wpAny_mono
abbrev Z1d:=@Nat.le_succ
abbrev Z1e:=@Nat.lt_irrefl
abbrev Z1f:=@Nat.lt_trans
abbrev Z1g:=@Nat.not_lt
abbrev Z1h:=@decide_eq_false
abbrev Z1i:=@wpAny_Assign_Name
abbrev Z1j:=@Bool.and_eq_true_iff
abbrev Z1k:=@wpAny_Constant_int
abbrev Z1l:=@List.getElem?_append_left
abbrev Z1m:=@List.getElem?_eq_some_iff
abbrev Z1n:=@List.all_eq_true
abbrev Z1o:=@List.getElem?_append_right
abbrev Z1p:=@List.mem_of_getElem?
abbrev Z1q:=@wpAny_isTrue_Compare1
abbrev Z1r:=@wpAny_standAt
abbrev Z1s:=@Heap.get?_update_other
abbrev Z1t:=@wpAny_BinOp
abbrev Z1u:=@wpAny_Return_some
abbrev Z1v:=@List.getElem?_map
abbrev Z1w:=@wpAny_storeName_local
abbrev Z1x:=@Array.toArray_toList
abbrev Z1y:=@Nat.zero_le
abbrev Z1z:=@looks_findIn
abbrev Z2a:=@Nat.lt_succ_of_lt
abbrev Z2b:=@Array.getElem?_eq_some_iff
abbrev Z2c:=@List.cons.inj
abbrev Z2d:=@List.take_append_drop
abbrev Z2e:=@List.mem_cons_self
abbrev Z2f:=@Int.natCast_nonneg
abbrev Z2g:=@wpAny_call
abbrev Z2h:=@List.mem_filterMap
abbrev Z2i:=@wpAny_mkText
abbrev Z2j:=@Nat.zero_add
abbrev Z2k:=@wpAny_loadName_local
abbrev Z2l:=@List.map_append
abbrev Z2m:=@Nat.ble_eq_true_of_le
abbrev Z2n:=@List.contains_iff_mem
abbrev Z2o:=@wpAny_loadPart
abbrev Z2p:=@Array.getElem?_eq_getElem
abbrev Z2q:=@List.mem_map
abbrev Z2r:=@List.take_sublist
abbrev Z2s:=@List.take_of_length_le
abbrev Z2t:=@wpAny_Constant_str
abbrev Z2u:=@List.nodup_cons
abbrev Z2v:=@codeAny_of_tree
abbrev Z2w:=@Looks.of_pure
abbrev Z2x:=@Nat.lt_of_succ_lt
abbrev Z2y:=@Nat.lt_succ_of_le
abbrev Z2z:=@Name_function_global
abbrev Z3a:=@wpAny_letTemporaryGo
abbrev Z3b:=@wpAny_If
abbrev Z3c:=@wpAny_Tuple_spliced
abbrev Z3d:=@List.length_eq_zero_iff
abbrev Z3e:=@wpAny_List_spliced
abbrev Z3f:=@wpAny_Call_Name_kw
abbrev Z3g:=@wpAny_Name
abbrev Z3h:=@Subscript_
abbrev Z3i:=@Option.map_eq_some_iff
abbrev Z3j:=@Nat.le_of_succ_le_succ
abbrev Z3k:=@List.drop_append_of_le_length
abbrev Z3l:=@wpAny_newObj_type
abbrev Z3m:=@wpAny_assign_Name
abbrev Z3n:=@IntMulOk.of_right
abbrev Z3o:=@List.reverse_cons
abbrev Z3p:=@List.take_length
abbrev Z3q:=@wpAny_Subscript_list_slice
abbrev Z3r:=@wpAny_field
abbrev Z3s:=@List.mem_filter
abbrev Z3t:=@List.getLast?_eq_getElem?
abbrev Z3u:=@wpAny_getItem_list
abbrev Z3v:=@Nat.beq_refl
abbrev Z3w:=@List.map_map
abbrev Z3x:=@List.getElem?_take
abbrev Z3y:=@Option.isSome_iff_exists
abbrev Z3z:=@List.drop_drop
abbrev Z4a:=@strKind_is
abbrev Z4b:=@wpAny_Compare1
abbrev Z4c:=@loadGlobal_global
abbrev Z4d:=@List.count_append
abbrev Z4e:=@looks_clsIn
abbrev Z4f:=@wpAny_pyNext_list_item
abbrev Z4g:=@wpAny_onRaise
abbrev Z4h:=@List.map_fst_zip
abbrev Z4i:=@List.length_replicate
abbrev Z4j:=@List.getElem?_eq_none
abbrev Z4k:=@Heap.get?_update_self
abbrev Z4l:=@add_str
abbrev Z4m:=@Nat.lt_or_ge
abbrev Z4n:=@isTrue_and
abbrev Z4o:=@codeAny_call_builtin
abbrev Z4p:=@List.mem_append_left
abbrev Z4q:=@List.getElem?_of_mem
abbrev Z4r:=@wpAny_evalPart_some
abbrev Z4s:=@wpAny_evalPart_none
abbrev Z4t:=@wpAny_Constant_none
abbrev Z4u:=@Array.toList_append
abbrev Z4v:=@wpAny_setField
abbrev Z4w:=@List.nodup_nil
abbrev Z4x:=@wpAny_noted
abbrev Z4y:=@wpAny_pyIter_tuple
abbrev Z4z:=@Nat.eq_zero_or_pos
abbrev Z5a:=@List.getElem?_drop
abbrev Z5b:=@List.contains_cons
abbrev Z5c:=@Code.quiet_builtin
abbrev Z5d:=@Bool.false_or
abbrev Z5e:=@wpAny_pyIter_list
abbrev Z5f:=@wpAny_loadPart_at
abbrev Z5g:=@getMethod_builtin
abbrev Z5h:=@Nat.le_succ_of_le
abbrev Z5i:=@List.any_eq_false
abbrev Z5j:=@wpAny_rule
abbrev Z5k:=@Array.toList_inj
abbrev Z5l:=@F.slot_dict_get
theorem A8{p0 p1:Prop}{G:Prop}(h:p0/\p1)(k:p0->p1->G):G:=k h.1 h.2
theorem A7{p0 p1 p2:Prop}{G:Prop}(h:p0/\p1/\p2)(k:p0->p1->p2->G):G:=k h.1 |> A8 h.2
theorem R2{p0 p1 p2 p3:Prop}{G:Prop}(h:p0/\p1/\p2/\p3)(k:p0->p1->p2->p3->G):G:=k h.1 |> A7 h.2
theorem A5t{p0 p1 p2 p3 p4:Prop}{G:Prop}(h:p0/\p1/\p2/\p3/\p4)(k:p0->p1->p2->p3->p4->G):G:=k h.1 |> R2 h.2
theorem A0i{p0 p1 p2 p3 p4 p5:Prop}{G:Prop}(h:p0/\p1/\p2/\p3/\p4/\p5)(k:p0->p1->p2->p3->p4->p5->G):G:=k h.1 |> A5t h.2
theorem A9w{p0 p1 p2 p3 p4 p5 p6:Prop}{G:Prop}(h:p0/\p1/\p2/\p3/\p4/\p5/\p6)(k:p0->p1->p2->p3->p4->p5->p6->G):G:=k h.1 |> A0i h.2
theorem A1{α0:Sort _}{p0 p1:α0->Prop}{G:Prop}(h:∃x0,p0 x0/\p1 x0)(k:∀x0,p0 x0->p1 x0->G):G:=h.elim λx h=>A8 h (k x)
theorem D6{α0:Sort _}{p0 p1 p2:α0->Prop}{G:Prop}(h:∃x0,p0 x0/\p1 x0/\p2 x0)(k:∀x0,p0 x0->p1 x0->p2 x0->G):G:=h.elim λx h=>A7 h (k x)
theorem T7{α0:Sort _}{p0 p1 p2 p3:α0->Prop}{G:Prop}(h:∃x0,p0 x0/\p1 x0/\p2 x0/\p3 x0)(k:∀x0,p0 x0->p1 x0->p2 x0->p3 x0->G):G:=h.elim λx h=>R2 h (k x)
theorem A0e{α0:Sort _}{p0 p1 p2 p3 p4:α0->Prop}{G:Prop}(h:∃x0,p0 x0/\p1 x0/\p2 x0/\p3 x0/\p4 x0)(k:∀x0,p0 x0->p1 x0->p2 x0->p3 x0->p4 x0->G):G:=h.elim λx h=>A5t h (k x)
theorem D5v{α0:Sort _}{p0 p1 p2 p3 p4 p5:α0->Prop}{G:Prop}(h:∃x0,p0 x0/\p1 x0/\p2 x0/\p3 x0/\p4 x0/\p5 x0)(k:∀x0,p0 x0->p1 x0->p2 x0->p3 x0->p4 x0->p5 x0->G):G:=h.elim λx h=>A0i h (k x)
theorem C2e{α0:Sort _}{p0 p1 p2 p3 p4 p5 p6:α0->Prop}{G:Prop}(h:∃x0,p0 x0/\p1 x0/\p2 x0/\p3 x0/\p4 x0/\p5 x0/\p6 x0)(k:∀x0,p0 x0->p1 x0->p2 x0->p3 x0->p4 x0->p5 x0->p6 x0->G):G:=h.elim λx h=>A9w h (k x)
theorem F9{α0:Sort _}{α1:Sort _}{p0:α0->α1->Prop}{G:Prop}(h:∃x0 x1,p0 x0 x1)(k:∀x0 x1,p0 x0 x1->G):G:=h.elim λx h=>h.elim (k x)
theorem B4{α0:Sort _}{α1:Sort _}{p0 p1:α0->α1->Prop}{G:Prop}(h:∃x0 x1,p0 x0 x1/\p1 x0 x1)(k:∀x0 x1,p0 x0 x1->p1 x0 x1->G):G:=h.elim λx h=>A1 h (k x)
theorem F8{α0:Sort _}{α1:Sort _}{p0 p1 p2:α0->α1->Prop}{G:Prop}(h:∃x0 x1,p0 x0 x1/\p1 x0 x1/\p2 x0 x1)(k:∀x0 x1,p0 x0 x1->p1 x0 x1->p2 x0 x1->G):G:=h.elim λx h=>D6 h (k x)
theorem K6{α0:Sort _}{α1:Sort _}{p0 p1 p2 p3:α0->α1->Prop}{G:Prop}(h:∃x0 x1,p0 x0 x1/\p1 x0 x1/\p2 x0 x1/\p3 x0 x1)(k:∀x0 x1,p0 x0 x1->p1 x0 x1->p2 x0 x1->p3 x0 x1->G):G:=h.elim λx h=>T7 h (k x)
theorem B0d{α0:Sort _}{α1:Sort _}{p0 p1 p2 p3 p4:α0->α1->Prop}{G:Prop}(h:∃x0 x1,p0 x0 x1/\p1 x0 x1/\p2 x0 x1/\p3 x0 x1/\p4 x0 x1)(k:∀x0 x1,p0 x0 x1->p1 x0 x1->p2 x0 x1->p3 x0 x1->p4 x0 x1->G):G:=h.elim λx h=>A0e h (k x)
theorem B4m{α0:Sort _}{α1:Sort _}{p0 p1 p2 p3 p4 p5:α0->α1->Prop}{G:Prop}(h:∃x0 x1,p0 x0 x1/\p1 x0 x1/\p2 x0 x1/\p3 x0 x1/\p4 x0 x1/\p5 x0 x1)(k:∀x0 x1,p0 x0 x1->p1 x0 x1->p2 x0 x1->p3 x0 x1->p4 x0 x1->p5 x0 x1->G):G:=h.elim λx h=>D5v h (k x)
theorem B3r{α0:Sort _}{α1:Sort _}{p0 p1 p2 p3 p4 p5 p6:α0->α1->Prop}{G:Prop}(h:∃x0 x1,p0 x0 x1/\p1 x0 x1/\p2 x0 x1/\p3 x0 x1/\p4 x0 x1/\p5 x0 x1/\p6 x0 x1)(k:∀x0 x1,p0 x0 x1->p1 x0 x1->p2 x0 x1->p3 x0 x1->p4 x0 x1->p5 x0 x1->p6 x0 x1->G):G:=h.elim λx h=>C2e h (k x)
theorem B7c{α0:Sort _}{α1:Sort _}{α2:Sort _}{p0:α0->α1->α2->Prop}{G:Prop}(h:∃x0 x1 x2,p0 x0 x1 x2)(k:∀x0 x1 x2,p0 x0 x1 x2->G):G:=h.elim λx h=>F9 h (k x)
theorem Q0{α0:Sort _}{α1:Sort _}{α2:Sort _}{p0 p1:α0->α1->α2->Prop}{G:Prop}(h:∃x0 x1 x2,p0 x0 x1 x2/\p1 x0 x1 x2)(k:∀x0 x1 x2,p0 x0 x1 x2->p1 x0 x1 x2->G):G:=h.elim λx h=>B4 h (k x)
theorem G4{α0:Sort _}{α1:Sort _}{α2:Sort _}{p0 p1 p2:α0->α1->α2->Prop}{G:Prop}(h:∃x0 x1 x2,p0 x0 x1 x2/\p1 x0 x1 x2/\p2 x0 x1 x2)(k:∀x0 x1 x2,p0 x0 x1 x2->p1 x0 x1 x2->p2 x0 x1 x2->G):G:=h.elim λx h=>F8 h (k x)
theorem R9{α0:Sort _}{α1:Sort _}{α2:Sort _}{p0 p1 p2 p3:α0->α1->α2->Prop}{G:Prop}(h:∃x0 x1 x2,p0 x0 x1 x2/\p1 x0 x1 x2/\p2 x0 x1 x2/\p3 x0 x1 x2)(k:∀x0 x1 x2,p0 x0 x1 x2->p1 x0 x1 x2->p2 x0 x1 x2->p3 x0 x1 x2->G):G:=h.elim λx h=>K6 h (k x)
theorem B75{α0:Sort _}{α1:Sort _}{α2:Sort _}{p0 p1 p2 p3 p4:α0->α1->α2->Prop}{G:Prop}(h:∃x0 x1 x2,p0 x0 x1 x2/\p1 x0 x1 x2/\p2 x0 x1 x2/\p3 x0 x1 x2/\p4 x0 x1 x2)(k:∀x0 x1 x2,p0 x0 x1 x2->p1 x0 x1 x2->p2 x0 x1 x2->p3 x0 x1 x2->p4 x0 x1 x2->G):G:=h.elim λx h=>B0d h (k x)
theorem C4g{α0:Sort _}{α1:Sort _}{α2:Sort _}{p0 p1 p2 p3 p4 p5:α0->α1->α2->Prop}{G:Prop}(h:∃x0 x1 x2,p0 x0 x1 x2/\p1 x0 x1 x2/\p2 x0 x1 x2/\p3 x0 x1 x2/\p4 x0 x1 x2/\p5 x0 x1 x2)(k:∀x0 x1 x2,p0 x0 x1 x2->p1 x0 x1 x2->p2 x0 x1 x2->p3 x0 x1 x2->p4 x0 x1 x2->p5 x0 x1 x2->G):G:=h.elim λx h=>B4m h (k x)
theorem C0f{α0:Sort _}{α1:Sort _}{α2:Sort _}{p0 p1 p2 p3 p4 p5 p6:α0->α1->α2->Prop}{G:Prop}(h:∃x0 x1 x2,p0 x0 x1 x2/\p1 x0 x1 x2/\p2 x0 x1 x2/\p3 x0 x1 x2/\p4 x0 x1 x2/\p5 x0 x1 x2/\p6 x0 x1 x2)(k:∀x0 x1 x2,p0 x0 x1 x2->p1 x0 x1 x2->p2 x0 x1 x2->p3 x0 x1 x2->p4 x0 x1 x2->p5 x0 x1 x2->p6 x0 x1 x2->G):G:=h.elim λx h=>B3r h (k x)
theorem A9d{α0:Sort _}{α1:Sort _}{α2:Sort _}{α3:Sort _}{p0:α0->α1->α2->α3->Prop}{G:Prop}(h:∃x0 x1 x2 x3,p0 x0 x1 x2 x3)(k:∀x0 x1 x2 x3,p0 x0 x1 x2 x3->G):G:=h.elim λx h=>B7c h (k x)
theorem A74{α0:Sort _}{α1:Sort _}{α2:Sort _}{α3:Sort _}{p0 p1:α0->α1->α2->α3->Prop}{G:Prop}(h:∃x0 x1 x2 x3,p0 x0 x1 x2 x3/\p1 x0 x1 x2 x3)(k:∀x0 x1 x2 x3,p0 x0 x1 x2 x3->p1 x0 x1 x2 x3->G):G:=h.elim λx h=>Q0 h (k x)
theorem D2a{α0:Sort _}{α1:Sort _}{α2:Sort _}{α3:Sort _}{p0 p1 p2 p3:α0->α1->α2->α3->Prop}{G:Prop}(h:∃x0 x1 x2 x3,p0 x0 x1 x2 x3/\p1 x0 x1 x2 x3/\p2 x0 x1 x2 x3/\p3 x0 x1 x2 x3)(k:∀x0 x1 x2 x3,p0 x0 x1 x2 x3->p1 x0 x1 x2 x3->p2 x0 x1 x2 x3->p3 x0 x1 x2 x3->G):G:=h.elim λx h=>R9 h (k x)
theorem C7q{α0:Sort _}{α1:Sort _}{α2:Sort _}{α3:Sort _}{p0 p1 p2 p3 p4:α0->α1->α2->α3->Prop}{G:Prop}(h:∃x0 x1 x2 x3,p0 x0 x1 x2 x3/\p1 x0 x1 x2 x3/\p2 x0 x1 x2 x3/\p3 x0 x1 x2 x3/\p4 x0 x1 x2 x3)(k:∀x0 x1 x2 x3,p0 x0 x1 x2 x3->p1 x0 x1 x2 x3->p2 x0 x1 x2 x3->p3 x0 x1 x2 x3->p4 x0 x1 x2 x3->G):G:=h.elim λx h=>B75 h (k x)
theorem D24{α0:Sort _}{α1:Sort _}{α2:Sort _}{α3:Sort _}{p0 p1 p2 p3 p4 p5 p6:α0->α1->α2->α3->Prop}{G:Prop}(h:∃x0 x1 x2 x3,p0 x0 x1 x2 x3/\p1 x0 x1 x2 x3/\p2 x0 x1 x2 x3/\p3 x0 x1 x2 x3/\p4 x0 x1 x2 x3/\p5 x0 x1 x2 x3/\p6 x0 x1 x2 x3)(k:∀x0 x1 x2 x3,p0 x0 x1 x2 x3->p1 x0 x1 x2 x3->p2 x0 x1 x2 x3->p3 x0 x1 x2 x3->p4 x0 x1 x2 x3->p5 x0 x1 x2 x3->p6 x0 x1 x2 x3->G):G:=h.elim λx h=>C0f h (k x)
theorem C6c{α0:Sort _}{α1:Sort _}{α2:Sort _}{α3:Sort _}{α4:Sort _}{p0:α0->α1->α2->α3->α4->Prop}{G:Prop}(h:∃x0 x1 x2 x3 x4,p0 x0 x1 x2 x3 x4)(k:∀x0 x1 x2 x3 x4,p0 x0 x1 x2 x3 x4->G):G:=h.elim λx h=>A9d h (k x)
theorem Y7{α0:Sort _}{α1:Sort _}{α2:Sort _}{α3:Sort _}{α4:Sort _}{p0 p1:α0->α1->α2->α3->α4->Prop}{G:Prop}(h:∃x0 x1 x2 x3 x4,p0 x0 x1 x2 x3 x4/\p1 x0 x1 x2 x3 x4)(k:∀x0 x1 x2 x3 x4,p0 x0 x1 x2 x3 x4->p1 x0 x1 x2 x3 x4->G):G:=h.elim λx h=>A74 h (k x)
theorem A8m{α0:Sort _}{α1:Sort _}{α2:Sort _}{α3:Sort _}{α4:Sort _}{p0 p1 p2 p3:α0->α1->α2->α3->α4->Prop}{G:Prop}(h:∃x0 x1 x2 x3 x4,p0 x0 x1 x2 x3 x4/\p1 x0 x1 x2 x3 x4/\p2 x0 x1 x2 x3 x4/\p3 x0 x1 x2 x3 x4)(k:∀x0 x1 x2 x3 x4,p0 x0 x1 x2 x3 x4->p1 x0 x1 x2 x3 x4->p2 x0 x1 x2 x3 x4->p3 x0 x1 x2 x3 x4->G):G:=h.elim λx h=>D2a h (k x)
theorem C23{α0:Sort _}{α1:Sort _}{α2:Sort _}{α3:Sort _}{α4:Sort _}{p0 p1 p2 p3 p4:α0->α1->α2->α3->α4->Prop}{G:Prop}(h:∃x0 x1 x2 x3 x4,p0 x0 x1 x2 x3 x4/\p1 x0 x1 x2 x3 x4/\p2 x0 x1 x2 x3 x4/\p3 x0 x1 x2 x3 x4/\p4 x0 x1 x2 x3 x4)(k:∀x0 x1 x2 x3 x4,p0 x0 x1 x2 x3 x4->p1 x0 x1 x2 x3 x4->p2 x0 x1 x2 x3 x4->p3 x0 x1 x2 x3 x4->p4 x0 x1 x2 x3 x4->G):G:=h.elim λx h=>C7q h (k x)
theorem B4d{α0:Sort _}{α1:Sort _}{α2:Sort _}{α3:Sort _}{α4:Sort _}{p0 p1 p2 p3 p4 p5 p6:α0->α1->α2->α3->α4->Prop}{G:Prop}(h:∃x0 x1 x2 x3 x4,p0 x0 x1 x2 x3 x4/\p1 x0 x1 x2 x3 x4/\p2 x0 x1 x2 x3 x4/\p3 x0 x1 x2 x3 x4/\p4 x0 x1 x2 x3 x4/\p5 x0 x1 x2 x3 x4/\p6 x0 x1 x2 x3 x4)(k:∀x0 x1 x2 x3 x4,p0 x0 x1 x2 x3 x4->p1 x0 x1 x2 x3 x4->p2 x0 x1 x2 x3 x4->p3 x0 x1 x2 x3 x4->p4 x0 x1 x2 x3 x4->p5 x0 x1 x2 x3 x4->p6 x0 x1 x2 x3 x4->G):G:=h.elim λx h=>D24 h (k x)
theorem C6y{α0:Sort _}{α1:Sort _}{α2:Sort _}{α3:Sort _}{α4:Sort _}{α5:Sort _}{p0:α0->α1->α2->α3->α4->α5->Prop}{G:Prop}(h:∃x0 x1 x2 x3 x4 x5,p0 x0 x1 x2 x3 x4 x5)(k:∀x0 x1 x2 x3 x4 x5,p0 x0 x1 x2 x3 x4 x5->G):G:=h.elim λx h=>C6c h (k x)
theorem B8w{α0:Sort _}{α1:Sort _}{α2:Sort _}{α3:Sort _}{α4:Sort _}{α5:Sort _}{p0 p1:α0->α1->α2->α3->α4->α5->Prop}{G:Prop}(h:∃x0 x1 x2 x3 x4 x5,p0 x0 x1 x2 x3 x4 x5/\p1 x0 x1 x2 x3 x4 x5)(k:∀x0 x1 x2 x3 x4 x5,p0 x0 x1 x2 x3 x4 x5->p1 x0 x1 x2 x3 x4 x5->G):G:=h.elim λx h=>Y7 h (k x)
theorem C3f{α0:Sort _}{α1:Sort _}{α2:Sort _}{α3:Sort _}{α4:Sort _}{α5:Sort _}{p0 p1 p2 p3 p4:α0->α1->α2->α3->α4->α5->Prop}{G:Prop}(h:∃x0 x1 x2 x3 x4 x5,p0 x0 x1 x2 x3 x4 x5/\p1 x0 x1 x2 x3 x4 x5/\p2 x0 x1 x2 x3 x4 x5/\p3 x0 x1 x2 x3 x4 x5/\p4 x0 x1 x2 x3 x4 x5)(k:∀x0 x1 x2 x3 x4 x5,p0 x0 x1 x2 x3 x4 x5->p1 x0 x1 x2 x3 x4 x5->p2 x0 x1 x2 x3 x4 x5->p3 x0 x1 x2 x3 x4 x5->p4 x0 x1 x2 x3 x4 x5->G):G:=h.elim λx h=>C23 h (k x)
theorem B4q{α0:Sort _}{α1:Sort _}{α2:Sort _}{α3:Sort _}{α4:Sort _}{α5:Sort _}{α6:Sort _}{p0 p1:α0->α1->α2->α3->α4->α5->α6->Prop}{G:Prop}(h:∃x0 x1 x2 x3 x4 x5 x6,p0 x0 x1 x2 x3 x4 x5 x6/\p1 x0 x1 x2 x3 x4 x5 x6)(k:∀x0 x1 x2 x3 x4 x5 x6,p0 x0 x1 x2 x3 x4 x5 x6->p1 x0 x1 x2 x3 x4 x5 x6->G):G:=h.elim λx h=>B8w h (k x)
theorem P6{α:Sort _}{p:α->Prop}{G:Prop}(h:∃x,p x)(k:∀x,p x->G):G:=h.elim k
@[elab_as_elim] theorem re{α:Sort _}{a b:α}{P:α->Prop}(e:a=b)(h:P b):P a:=e▸h
@[elab_as_elim] theorem rs{α:Sort _}{a b:α}{P:α->Prop}(e:b=a)(h:P b):P a:=e▸h
theorem O2{p0 p1 p2:Prop}(h0:p0)(h1:p1)(h2:p2):p0/\p1/\p2:=⟨h0,h1,h2⟩
theorem T4{p0 p1 p2 p3:Prop}(h0:p0)(h1:p1)(h2:p2)(h3:p3):p0/\p1/\p2/\p3:=⟨h0,O2 h1 h2 h3⟩
theorem A1o{p0 p1 p2 p3 p4:Prop}(h0:p0)(h1:p1)(h2:p2)(h3:p3)(h4:p4):p0/\p1/\p2/\p3/\p4:=⟨h0,T4 h1 h2 h3 h4⟩
theorem A2m{p0 p1 p2 p3 p4 p5:Prop}(h0:p0)(h1:p1)(h2:p2)(h3:p3)(h4:p4)(h5:p5):p0/\p1/\p2/\p3/\p4/\p5:=⟨h0,A1o h1 h2 h3 h4 h5⟩
theorem B07{p0 p1 p2 p3 p4 p5 p6:Prop}(h0:p0)(h1:p1)(h2:p2)(h3:p3)(h4:p4)(h5:p5)(h6:p6):p0/\p1/\p2/\p3/\p4/\p5/\p6:=⟨h0,A2m h1 h2 h3 h4 h5 h6⟩
theorem A6{α0:Sort _}{p0 p1:α0->Prop}(x0:α0)(h0:p0 x0)(h1:p1 x0):∃x0,p0 x0/\p1 x0:=⟨x0,h0,h1⟩
theorem T9{α0:Sort _}{p0 p1 p2:α0->Prop}(x0:α0)(h0:p0 x0)(h1:p1 x0)(h2:p2 x0):∃x0,p0 x0/\p1 x0/\p2 x0:=⟨x0,O2 h0 h1 h2⟩
theorem C1a{α0:Sort _}{p0 p1 p2 p3:α0->Prop}(x0:α0)(h0:p0 x0)(h1:p1 x0)(h2:p2 x0)(h3:p3 x0):∃x0,p0 x0/\p1 x0/\p2 x0/\p3 x0:=⟨x0,T4 h0 h1 h2 h3⟩
theorem A6l{α0:Sort _}{p0 p1 p2 p3 p4:α0->Prop}(x0:α0)(h0:p0 x0)(h1:p1 x0)(h2:p2 x0)(h3:p3 x0)(h4:p4 x0):∃x0,p0 x0/\p1 x0/\p2 x0/\p3 x0/\p4 x0:=⟨x0,A1o h0 h1 h2 h3 h4⟩
theorem B56{α0:Sort _}{p0 p1 p2 p3 p4 p5:α0->Prop}(x0:α0)(h0:p0 x0)(h1:p1 x0)(h2:p2 x0)(h3:p3 x0)(h4:p4 x0)(h5:p5 x0):∃x0,p0 x0/\p1 x0/\p2 x0/\p3 x0/\p4 x0/\p5 x0:=⟨x0,A2m h0 h1 h2 h3 h4 h5⟩
theorem C1u{α0:Sort _}{p0 p1 p2 p3 p4 p5 p6:α0->Prop}(x0:α0)(h0:p0 x0)(h1:p1 x0)(h2:p2 x0)(h3:p3 x0)(h4:p4 x0)(h5:p5 x0)(h6:p6 x0):∃x0,p0 x0/\p1 x0/\p2 x0/\p3 x0/\p4 x0/\p5 x0/\p6 x0:=⟨x0,B07 h0 h1 h2 h3 h4 h5 h6⟩
theorem A5x{α0:Sort _}{α1:Sort _}{p0:α0->α1->Prop}(x0:α0)(x1:α1)(h0:p0 x0 x1):∃x0 x1,p0 x0 x1:=⟨x0,x1,h0⟩
theorem L7{α0:Sort _}{α1:Sort _}{p0 p1:α0->α1->Prop}(x0:α0)(x1:α1)(h0:p0 x0 x1)(h1:p1 x0 x1):∃x0 x1,p0 x0 x1/\p1 x0 x1:=⟨x0,A6 x1 h0 h1⟩
theorem V7{α0:Sort _}{α1:Sort _}{p0 p1 p2:α0->α1->Prop}(x0:α0)(x1:α1)(h0:p0 x0 x1)(h1:p1 x0 x1)(h2:p2 x0 x1):∃x0 x1,p0 x0 x1/\p1 x0 x1/\p2 x0 x1:=⟨x0,T9 x1 h0 h1 h2⟩
theorem A2x{α0:Sort _}{α1:Sort _}{p0 p1 p2 p3:α0->α1->Prop}(x0:α0)(x1:α1)(h0:p0 x0 x1)(h1:p1 x0 x1)(h2:p2 x0 x1)(h3:p3 x0 x1):∃x0 x1,p0 x0 x1/\p1 x0 x1/\p2 x0 x1/\p3 x0 x1:=⟨x0,C1a x1 h0 h1 h2 h3⟩
theorem D1z{α0:Sort _}{α1:Sort _}{p0 p1 p2 p3 p4:α0->α1->Prop}(x0:α0)(x1:α1)(h0:p0 x0 x1)(h1:p1 x0 x1)(h2:p2 x0 x1)(h3:p3 x0 x1)(h4:p4 x0 x1):∃x0 x1,p0 x0 x1/\p1 x0 x1/\p2 x0 x1/\p3 x0 x1/\p4 x0 x1:=⟨x0,A6l x1 h0 h1 h2 h3 h4⟩
theorem B49{α0:Sort _}{α1:Sort _}{p0 p1 p2 p3 p4 p5:α0->α1->Prop}(x0:α0)(x1:α1)(h0:p0 x0 x1)(h1:p1 x0 x1)(h2:p2 x0 x1)(h3:p3 x0 x1)(h4:p4 x0 x1)(h5:p5 x0 x1):∃x0 x1,p0 x0 x1/\p1 x0 x1/\p2 x0 x1/\p3 x0 x1/\p4 x0 x1/\p5 x0 x1:=⟨x0,B56 x1 h0 h1 h2 h3 h4 h5⟩
theorem C77{α0:Sort _}{α1:Sort _}{p0 p1 p2 p3 p4 p5 p6:α0->α1->Prop}(x0:α0)(x1:α1)(h0:p0 x0 x1)(h1:p1 x0 x1)(h2:p2 x0 x1)(h3:p3 x0 x1)(h4:p4 x0 x1)(h5:p5 x0 x1)(h6:p6 x0 x1):∃x0 x1,p0 x0 x1/\p1 x0 x1/\p2 x0 x1/\p3 x0 x1/\p4 x0 x1/\p5 x0 x1/\p6 x0 x1:=⟨x0,C1u x1 h0 h1 h2 h3 h4 h5 h6⟩
theorem D08{α0:Sort _}{α1:Sort _}{α2:Sort _}{p0:α0->α1->α2->Prop}(x0:α0)(x1:α1)(x2:α2)(h0:p0 x0 x1 x2):∃x0 x1 x2,p0 x0 x1 x2:=⟨x0,A5x x1 x2 h0⟩
theorem A31{α0:Sort _}{α1:Sort _}{α2:Sort _}{p0 p1:α0->α1->α2->Prop}(x0:α0)(x1:α1)(x2:α2)(h0:p0 x0 x1 x2)(h1:p1 x0 x1 x2):∃x0 x1 x2,p0 x0 x1 x2/\p1 x0 x1 x2:=⟨x0,L7 x1 x2 h0 h1⟩
theorem S9{α0:Sort _}{α1:Sort _}{α2:Sort _}{p0 p1 p2:α0->α1->α2->Prop}(x0:α0)(x1:α1)(x2:α2)(h0:p0 x0 x1 x2)(h1:p1 x0 x1 x2)(h2:p2 x0 x1 x2):∃x0 x1 x2,p0 x0 x1 x2/\p1 x0 x1 x2/\p2 x0 x1 x2:=⟨x0,V7 x1 x2 h0 h1 h2⟩
theorem X6{α0:Sort _}{α1:Sort _}{α2:Sort _}{p0 p1 p2 p3:α0->α1->α2->Prop}(x0:α0)(x1:α1)(x2:α2)(h0:p0 x0 x1 x2)(h1:p1 x0 x1 x2)(h2:p2 x0 x1 x2)(h3:p3 x0 x1 x2):∃x0 x1 x2,p0 x0 x1 x2/\p1 x0 x1 x2/\p2 x0 x1 x2/\p3 x0 x1 x2:=⟨x0,A2x x1 x2 h0 h1 h2 h3⟩
theorem B79{α0:Sort _}{α1:Sort _}{α2:Sort _}{p0 p1 p2 p3 p4:α0->α1->α2->Prop}(x0:α0)(x1:α1)(x2:α2)(h0:p0 x0 x1 x2)(h1:p1 x0 x1 x2)(h2:p2 x0 x1 x2)(h3:p3 x0 x1 x2)(h4:p4 x0 x1 x2):∃x0 x1 x2,p0 x0 x1 x2/\p1 x0 x1 x2/\p2 x0 x1 x2/\p3 x0 x1 x2/\p4 x0 x1 x2:=⟨x0,D1z x1 x2 h0 h1 h2 h3 h4⟩
theorem A34{α0:Sort _}{α1:Sort _}{α2:Sort _}{p0 p1 p2 p3 p4 p5:α0->α1->α2->Prop}(x0:α0)(x1:α1)(x2:α2)(h0:p0 x0 x1 x2)(h1:p1 x0 x1 x2)(h2:p2 x0 x1 x2)(h3:p3 x0 x1 x2)(h4:p4 x0 x1 x2)(h5:p5 x0 x1 x2):∃x0 x1 x2,p0 x0 x1 x2/\p1 x0 x1 x2/\p2 x0 x1 x2/\p3 x0 x1 x2/\p4 x0 x1 x2/\p5 x0 x1 x2:=⟨x0,B49 x1 x2 h0 h1 h2 h3 h4 h5⟩
theorem C89{α0:Sort _}{α1:Sort _}{α2:Sort _}{p0 p1 p2 p3 p4 p5 p6:α0->α1->α2->Prop}(x0:α0)(x1:α1)(x2:α2)(h0:p0 x0 x1 x2)(h1:p1 x0 x1 x2)(h2:p2 x0 x1 x2)(h3:p3 x0 x1 x2)(h4:p4 x0 x1 x2)(h5:p5 x0 x1 x2)(h6:p6 x0 x1 x2):∃x0 x1 x2,p0 x0 x1 x2/\p1 x0 x1 x2/\p2 x0 x1 x2/\p3 x0 x1 x2/\p4 x0 x1 x2/\p5 x0 x1 x2/\p6 x0 x1 x2:=⟨x0,C77 x1 x2 h0 h1 h2 h3 h4 h5 h6⟩
theorem D10{α0:Sort _}{α1:Sort _}{α2:Sort _}{α3:Sort _}{p0:α0->α1->α2->α3->Prop}(x0:α0)(x1:α1)(x2:α2)(x3:α3)(h0:p0 x0 x1 x2 x3):∃x0 x1 x2 x3,p0 x0 x1 x2 x3:=⟨x0,D08 x1 x2 x3 h0⟩
theorem D4i{α0:Sort _}{α1:Sort _}{α2:Sort _}{α3:Sort _}{p0 p1:α0->α1->α2->α3->Prop}(x0:α0)(x1:α1)(x2:α2)(x3:α3)(h0:p0 x0 x1 x2 x3)(h1:p1 x0 x1 x2 x3):∃x0 x1 x2 x3,p0 x0 x1 x2 x3/\p1 x0 x1 x2 x3:=⟨x0,A31 x1 x2 x3 h0 h1⟩
theorem B2c{α0:Sort _}{α1:Sort _}{α2:Sort _}{α3:Sort _}{p0 p1 p2 p3:α0->α1->α2->α3->Prop}(x0:α0)(x1:α1)(x2:α2)(x3:α3)(h0:p0 x0 x1 x2 x3)(h1:p1 x0 x1 x2 x3)(h2:p2 x0 x1 x2 x3)(h3:p3 x0 x1 x2 x3):∃x0 x1 x2 x3,p0 x0 x1 x2 x3/\p1 x0 x1 x2 x3/\p2 x0 x1 x2 x3/\p3 x0 x1 x2 x3:=⟨x0,X6 x1 x2 x3 h0 h1 h2 h3⟩
theorem D8b{α0:Sort _}{α1:Sort _}{α2:Sort _}{α3:Sort _}{p0 p1 p2 p3 p4:α0->α1->α2->α3->Prop}(x0:α0)(x1:α1)(x2:α2)(x3:α3)(h0:p0 x0 x1 x2 x3)(h1:p1 x0 x1 x2 x3)(h2:p2 x0 x1 x2 x3)(h3:p3 x0 x1 x2 x3)(h4:p4 x0 x1 x2 x3):∃x0 x1 x2 x3,p0 x0 x1 x2 x3/\p1 x0 x1 x2 x3/\p2 x0 x1 x2 x3/\p3 x0 x1 x2 x3/\p4 x0 x1 x2 x3:=⟨x0,B79 x1 x2 x3 h0 h1 h2 h3 h4⟩
theorem B7v{α0:Sort _}{α1:Sort _}{α2:Sort _}{α3:Sort _}{p0 p1 p2 p3 p4 p5:α0->α1->α2->α3->Prop}(x0:α0)(x1:α1)(x2:α2)(x3:α3)(h0:p0 x0 x1 x2 x3)(h1:p1 x0 x1 x2 x3)(h2:p2 x0 x1 x2 x3)(h3:p3 x0 x1 x2 x3)(h4:p4 x0 x1 x2 x3)(h5:p5 x0 x1 x2 x3):∃x0 x1 x2 x3,p0 x0 x1 x2 x3/\p1 x0 x1 x2 x3/\p2 x0 x1 x2 x3/\p3 x0 x1 x2 x3/\p4 x0 x1 x2 x3/\p5 x0 x1 x2 x3:=⟨x0,A34 x1 x2 x3 h0 h1 h2 h3 h4 h5⟩
theorem D6m{α0:Sort _}{α1:Sort _}{α2:Sort _}{α3:Sort _}{p0 p1 p2 p3 p4 p5 p6:α0->α1->α2->α3->Prop}(x0:α0)(x1:α1)(x2:α2)(x3:α3)(h0:p0 x0 x1 x2 x3)(h1:p1 x0 x1 x2 x3)(h2:p2 x0 x1 x2 x3)(h3:p3 x0 x1 x2 x3)(h4:p4 x0 x1 x2 x3)(h5:p5 x0 x1 x2 x3)(h6:p6 x0 x1 x2 x3):∃x0 x1 x2 x3,p0 x0 x1 x2 x3/\p1 x0 x1 x2 x3/\p2 x0 x1 x2 x3/\p3 x0 x1 x2 x3/\p4 x0 x1 x2 x3/\p5 x0 x1 x2 x3/\p6 x0 x1 x2 x3:=⟨x0,C89 x1 x2 x3 h0 h1 h2 h3 h4 h5 h6⟩
theorem C58{α0:Sort _}{α1:Sort _}{α2:Sort _}{α3:Sort _}{α4:Sort _}{p0:α0->α1->α2->α3->α4->Prop}(x0:α0)(x1:α1)(x2:α2)(x3:α3)(x4:α4)(h0:p0 x0 x1 x2 x3 x4):∃x0 x1 x2 x3 x4,p0 x0 x1 x2 x3 x4:=⟨x0,D10 x1 x2 x3 x4 h0⟩
theorem B50{α0:Sort _}{α1:Sort _}{α2:Sort _}{α3:Sort _}{α4:Sort _}{p0 p1:α0->α1->α2->α3->α4->Prop}(x0:α0)(x1:α1)(x2:α2)(x3:α3)(x4:α4)(h0:p0 x0 x1 x2 x3 x4)(h1:p1 x0 x1 x2 x3 x4):∃x0 x1 x2 x3 x4,p0 x0 x1 x2 x3 x4/\p1 x0 x1 x2 x3 x4:=⟨x0,D4i x1 x2 x3 x4 h0 h1⟩
theorem A3i{α0:Sort _}{α1:Sort _}{α2:Sort _}{α3:Sort _}{α4:Sort _}{p0 p1 p2 p3:α0->α1->α2->α3->α4->Prop}(x0:α0)(x1:α1)(x2:α2)(x3:α3)(x4:α4)(h0:p0 x0 x1 x2 x3 x4)(h1:p1 x0 x1 x2 x3 x4)(h2:p2 x0 x1 x2 x3 x4)(h3:p3 x0 x1 x2 x3 x4):∃x0 x1 x2 x3 x4,p0 x0 x1 x2 x3 x4/\p1 x0 x1 x2 x3 x4/\p2 x0 x1 x2 x3 x4/\p3 x0 x1 x2 x3 x4:=⟨x0,B2c x1 x2 x3 x4 h0 h1 h2 h3⟩
theorem D3x{α0:Sort _}{α1:Sort _}{α2:Sort _}{α3:Sort _}{α4:Sort _}{p0 p1 p2 p3 p4:α0->α1->α2->α3->α4->Prop}(x0:α0)(x1:α1)(x2:α2)(x3:α3)(x4:α4)(h0:p0 x0 x1 x2 x3 x4)(h1:p1 x0 x1 x2 x3 x4)(h2:p2 x0 x1 x2 x3 x4)(h3:p3 x0 x1 x2 x3 x4)(h4:p4 x0 x1 x2 x3 x4):∃x0 x1 x2 x3 x4,p0 x0 x1 x2 x3 x4/\p1 x0 x1 x2 x3 x4/\p2 x0 x1 x2 x3 x4/\p3 x0 x1 x2 x3 x4/\p4 x0 x1 x2 x3 x4:=⟨x0,D8b x1 x2 x3 x4 h0 h1 h2 h3 h4⟩
theorem D7m{α0:Sort _}{α1:Sort _}{α2:Sort _}{α3:Sort _}{α4:Sort _}{p0 p1 p2 p3 p4 p5 p6:α0->α1->α2->α3->α4->Prop}(x0:α0)(x1:α1)(x2:α2)(x3:α3)(x4:α4)(h0:p0 x0 x1 x2 x3 x4)(h1:p1 x0 x1 x2 x3 x4)(h2:p2 x0 x1 x2 x3 x4)(h3:p3 x0 x1 x2 x3 x4)(h4:p4 x0 x1 x2 x3 x4)(h5:p5 x0 x1 x2 x3 x4)(h6:p6 x0 x1 x2 x3 x4):∃x0 x1 x2 x3 x4,p0 x0 x1 x2 x3 x4/\p1 x0 x1 x2 x3 x4/\p2 x0 x1 x2 x3 x4/\p3 x0 x1 x2 x3 x4/\p4 x0 x1 x2 x3 x4/\p5 x0 x1 x2 x3 x4/\p6 x0 x1 x2 x3 x4:=⟨x0,D6m x1 x2 x3 x4 h0 h1 h2 h3 h4 h5 h6⟩
theorem B2k{α0:Sort _}{α1:Sort _}{α2:Sort _}{α3:Sort _}{α4:Sort _}{α5:Sort _}{p0:α0->α1->α2->α3->α4->α5->Prop}(x0:α0)(x1:α1)(x2:α2)(x3:α3)(x4:α4)(x5:α5)(h0:p0 x0 x1 x2 x3 x4 x5):∃x0 x1 x2 x3 x4 x5,p0 x0 x1 x2 x3 x4 x5:=⟨x0,C58 x1 x2 x3 x4 x5 h0⟩
theorem D6v{α0:Sort _}{α1:Sort _}{α2:Sort _}{α3:Sort _}{α4:Sort _}{α5:Sort _}{p0 p1 p2 p3:α0->α1->α2->α3->α4->α5->Prop}(x0:α0)(x1:α1)(x2:α2)(x3:α3)(x4:α4)(x5:α5)(h0:p0 x0 x1 x2 x3 x4 x5)(h1:p1 x0 x1 x2 x3 x4 x5)(h2:p2 x0 x1 x2 x3 x4 x5)(h3:p3 x0 x1 x2 x3 x4 x5):∃x0 x1 x2 x3 x4 x5,p0 x0 x1 x2 x3 x4 x5/\p1 x0 x1 x2 x3 x4 x5/\p2 x0 x1 x2 x3 x4 x5/\p3 x0 x1 x2 x3 x4 x5:=⟨x0,A3i x1 x2 x3 x4 x5 h0 h1 h2 h3⟩
theorem D00{α0:Sort _}{α1:Sort _}{α2:Sort _}{α3:Sort _}{α4:Sort _}{α5:Sort _}{p0 p1 p2 p3 p4:α0->α1->α2->α3->α4->α5->Prop}(x0:α0)(x1:α1)(x2:α2)(x3:α3)(x4:α4)(x5:α5)(h0:p0 x0 x1 x2 x3 x4 x5)(h1:p1 x0 x1 x2 x3 x4 x5)(h2:p2 x0 x1 x2 x3 x4 x5)(h3:p3 x0 x1 x2 x3 x4 x5)(h4:p4 x0 x1 x2 x3 x4 x5):∃x0 x1 x2 x3 x4 x5,p0 x0 x1 x2 x3 x4 x5/\p1 x0 x1 x2 x3 x4 x5/\p2 x0 x1 x2 x3 x4 x5/\p3 x0 x1 x2 x3 x4 x5/\p4 x0 x1 x2 x3 x4 x5:=⟨x0,D3x x1 x2 x3 x4 x5 h0 h1 h2 h3 h4⟩
theorem D3f{α0:Sort _}{α1:Sort _}{α2:Sort _}{α3:Sort _}{α4:Sort _}{α5:Sort _}{α6:Sort _}{p0:α0->α1->α2->α3->α4->α5->α6->Prop}(x0:α0)(x1:α1)(x2:α2)(x3:α3)(x4:α4)(x5:α5)(x6:α6)(h0:p0 x0 x1 x2 x3 x4 x5 x6):∃x0 x1 x2 x3 x4 x5 x6,p0 x0 x1 x2 x3 x4 x5 x6:=⟨x0,B2k x1 x2 x3 x4 x5 x6 h0⟩
theorem D6i{α0:Sort _}{α1:Sort _}{α2:Sort _}{α3:Sort _}{α4:Sort _}{α5:Sort _}{α6:Sort _}{p0 p1 p2 p3:α0->α1->α2->α3->α4->α5->α6->Prop}(x0:α0)(x1:α1)(x2:α2)(x3:α3)(x4:α4)(x5:α5)(x6:α6)(h0:p0 x0 x1 x2 x3 x4 x5 x6)(h1:p1 x0 x1 x2 x3 x4 x5 x6)(h2:p2 x0 x1 x2 x3 x4 x5 x6)(h3:p3 x0 x1 x2 x3 x4 x5 x6):∃x0 x1 x2 x3 x4 x5 x6,p0 x0 x1 x2 x3 x4 x5 x6/\p1 x0 x1 x2 x3 x4 x5 x6/\p2 x0 x1 x2 x3 x4 x5 x6/\p3 x0 x1 x2 x3 x4 x5 x6:=⟨x0,D6v x1 x2 x3 x4 x5 x6 h0 h1 h2 h3⟩
theorem D4m{α0:Sort _}{α1:Sort _}{α2:Sort _}{α3:Sort _}{α4:Sort _}{α5:Sort _}{α6:Sort _}{α7:Sort _}{p0:α0->α1->α2->α3->α4->α5->α6->α7->Prop}(x0:α0)(x1:α1)(x2:α2)(x3:α3)(x4:α4)(x5:α5)(x6:α6)(x7:α7)(h0:p0 x0 x1 x2 x3 x4 x5 x6 x7):∃x0 x1 x2 x3 x4 x5 x6 x7,p0 x0 x1 x2 x3 x4 x5 x6 x7:=⟨x0,D3f x1 x2 x3 x4 x5 x6 x7 h0⟩
theorem ff{G:Prop}(h:false=true):G:=nomatch h
theorem nn{α:Type _}{x:α}{G:Prop}(h:none=some x):G:=nomatch h
theorem sn{α:Type _}{x:α}{G:Prop}(h:some x=none):G:=nomatch h
theorem el{β:Type}{c:Prop}[Decidable c]{g:c->Option β}{y:β}(h:(if h:c then g h else none)=some y):∃hc,g hc=some y:=by
 by_cases z:c
 . exact⟨z,by rw[dif_pos z] at h;exact h⟩
 . rw[dif_neg z] at h;cases h
noncomputable def I8{β:Type}(e:Expr)(f:Str->Pos->Option β):Option β:=if h:e.ctorIdx=23 then Expr.Name.elim (motive_1:=λJ=>Option β) e h f else none
@[elab_as_elim] theorem A0u{P:Expr->Prop}{e:Expr}{β:Type}{f:Str->Pos->Option β}{y:β}(h:I8 e f=some y)(q:∀x p,f x p=some y->P (.Name x p)):P e:=
 (el h).elim λz h=>Expr.Name.elim (motive_1:=λe=>∀z,Expr.Name.elim (motive_1:=λJ=>Option β) e z f=some y->P e) e z (λx p J h=>q x p h) z h
noncomputable def A2p{β:Type}(e:Expr)(f:Const->Nat->Pos->Option β):Option β:=if h:e.ctorIdx=19 then Expr.Constant.elim (motive_1:=λJ=>Option β) e h f else none
@[elab_as_elim] theorem B3h{P:Expr->Prop}{e:Expr}{β:Type}{f:Const->Nat->Pos->Option β}{y:β}(h:A2p e f=some y)(q:∀c k p,f c k p=some y->P (.Constant c k p)):P e:=
 (el h).elim λz h=>Expr.Constant.elim (motive_1:=λe=>∀z,Expr.Constant.elim (motive_1:=λJ=>Option β) e z f=some y->P e) e z (λc k p J h=>q c k p h) z h
noncomputable def A8r{β:Type}(e:Expr)(f:Expr->Operator->Expr->Pos->Option β):Option β:=if h:e.ctorIdx=2 then Expr.BinOp.elim (motive_1:=λJ=>Option β) e h f else none
noncomputable def A4i{β:Type}(e:Expr)(f:List Expr->Nat->Pos->Option β):Option β:=if h:e.ctorIdx=25 then Expr.Tuple.elim (motive_1:=λJ=>Option β) e h f else none
@[elab_as_elim] theorem C6q{P:Expr->Prop}{e:Expr}{β:Type}{f:List Expr->Nat->Pos->Option β}{y:β}(h:A4i e f=some y)(q:∀es k p,f es k p=some y->P (.Tuple es k p)):P e:=
 (el h).elim λz h=>Expr.Tuple.elim (motive_1:=λe=>∀z,Expr.Tuple.elim (motive_1:=λJ=>Option β) e z f=some y->P e) e z (λes k p J h=>q es k p h) z h
noncomputable def A9k{β:Type}(e:Expr)(f:List (Option Expr)->List Expr->Pos->Option β):Option β:=if h:e.ctorIdx=6 then Expr.Dict.elim (motive_1:=λJ=>Option β) e h f else none
@[elab_as_elim] theorem C55{P:Expr->Prop}{e:Expr}{β:Type}{f:List (Option Expr)->List Expr->Pos->Option β}{y:β}(h:A9k e f=some y)(q:∀ks vs p,f ks vs p=some y->P (.Dict ks vs p)):P e:=
 (el h).elim λz h=>Expr.Dict.elim (motive_1:=λe=>∀z,Expr.Dict.elim (motive_1:=λJ=>Option β) e z f=some y->P e) e z (λks vs p J h=>q ks vs p h) z h
noncomputable def A3y:Const->Option Str
 | .str x=>some x
 |_=>none
theorem B5l{c:Const}{x:Str}(h:A3y c=some x):c= .str x:=by cases c <;> first | exact Z0a h▸rfl | cases h
noncomputable def A7d:Const->Option Int
 | .int x=>some x
 |_=>none
theorem D5n{c:Const}{x:Int}(h:A7d c=some x):c= .int x:=by cases c <;> first | exact Z0a h▸rfl | cases h
theorem bi{α β:Type}{a:Option α}{f:α->Option β}{y:β}(h:a.bind f=some y):∃x,a=some x/\f x=some y:=Option.bind_eq_some_iff.mp h
theorem mi{α β:Type}{a:Option α}{f:α->β}{y:β}(h:a.map f=some y):∃x,a=some x/\f x=y:=Z3i.mp h
theorem iss{o:Option Unit}(h:o.isSome=true):o=some ():=by
 cases o with
 |none=>exact ff h
 |some _=>rfl
def A0d(e:Expr):Option Str:=A2p e λc J J=>A3y c
@[elab_as_elim] theorem A9j{P:Expr->Prop}{e:Expr}{x:Str}(h:A0d e=some x)(q:∀k p,P (.Constant (.str x) k p)):P e:=B3h h λc k p h=>(B5l h:c=_)▸q k p
theorem or2{α:Type}{a b:Option α}{x:α}(h:a.or b=some x):a=some x\/b=some x:=by
 cases a with
 |none=>exact .inr h
 |some y=>exact .inl h
theorem ift{c:Prop}[Decidable c]{α:Type}{a:Option α}{y:α}(h:(if c then a else none)=some y):c/\a=some y:=by
 by_cases z:c
 . rw[Z0p z] at h;exact⟨z,h⟩
 . rw[Z0m z] at h;cases h
theorem ifs{c:Prop}[Decidable c]{α:Type}{x y:α}(h:(if c then some x else none)=some y):c/\x=y:=by
 by_cases z:c
 . rw[Z0p z] at h;exact⟨z,Z0a h⟩
 . rw[Z0m z] at h;cases h
noncomputable def B7m{β:Type}(e:Expr)(f:Expr->Expr->Expr->Pos->Option β):Option β:=if h:e.ctorIdx=5 then Expr.IfExp.elim (motive_1:=λJ=>Option β) e h f else none
@[elab_as_elim] theorem B9y{P:Expr->Prop}{e:Expr}{β:Type}{f:Expr->Expr->Expr->Pos->Option β}{y:β}(h:B7m e f=some y)(q:∀t b o p,f t b o p=some y->P (.IfExp t b o p)):P e:=
 (el h).elim λz h=>Expr.IfExp.elim (motive_1:=λe=>∀z,Expr.IfExp.elim (motive_1:=λJ=>Option β) e z f=some y->P e) e z (λt b o p J h=>q t b o p h) z h
noncomputable def B72{β:Type}(e:Expr)(f:Expr->List CmpOp->List Expr->Pos->Option β):Option β:=if h:e.ctorIdx=15 then Expr.Compare.elim (motive_1:=λJ=>Option β) e h f else none
@[elab_as_elim] theorem D0k{P:Expr->Prop}{e:Expr}{β:Type}{f:Expr->List CmpOp->List Expr->Pos->Option β}{y:β}(h:B72 e f=some y)(q:∀l os rs p,f l os rs p=some y->P (.Compare l os rs p)):P e:=
 (el h).elim λz h=>Expr.Compare.elim (motive_1:=λe=>∀z,Expr.Compare.elim (motive_1:=λJ=>Option β) e z f=some y->P e) e z (λl os rs p J h=>q l os rs p h) z h
noncomputable def A4h{β:Type}(e:Expr)(f:Expr->List Expr->List Keyword->Pos->Option β):Option β:=if h:e.ctorIdx=16 then Expr.Call.elim (motive_1:=λJ=>Option β) e h f else none
@[elab_as_elim] theorem B5k{P:Expr->Prop}{e:Expr}{β:Type}{f:Expr->List Expr->List Keyword->Pos->Option β}{y:β}(h:A4h e f=some y)(q:∀g es ks p,f g es ks p=some y->P (.Call g es ks p)):P e:=
 (el h).elim λz h=>Expr.Call.elim (motive_1:=λe=>∀z,Expr.Call.elim (motive_1:=λJ=>Option β) e z f=some y->P e) e z (λg es ks p J h=>q g es ks p h) z h
noncomputable def A2a{β:Type}(e:Expr)(f:Expr->Str->Pos->Option β):Option β:=if h:e.ctorIdx=20 then Expr.Attribute.elim (motive_1:=λJ=>Option β) e h f else none
@[elab_as_elim] theorem A41{P:Expr->Prop}{e:Expr}{β:Type}{f:Expr->Str->Pos->Option β}{y:β}(h:A2a e f=some y)(q:∀o n p,f o n p=some y->P (.Attribute o n p)):P e:=
 (el h).elim λz h=>Expr.Attribute.elim (motive_1:=λe=>∀z,Expr.Attribute.elim (motive_1:=λJ=>Option β) e z f=some y->P e) e z (λo n p J h=>q o n p h) z h
noncomputable def A8v{β:Type}(e:Expr)(f:Expr->List Comprehension->Scope->Pos->Option β):Option β:=if h:e.ctorIdx=8 then Expr.ListComp.elim (motive_1:=λJ=>Option β) e h f else none
@[elab_as_elim] theorem D8g{P:Expr->Prop}{e:Expr}{β:Type}{f:Expr->List Comprehension->Scope->Pos->Option β}{y:β}(h:A8v e f=some y)(q:∀e gs sc p,f e gs sc p=some y->P (.ListComp e gs sc p)):P e:=
 (el h).elim λz h=>Expr.ListComp.elim (motive_1:=λe=>∀z,Expr.ListComp.elim (motive_1:=λJ=>Option β) e z f=some y->P e) e z (λe gs sc p J h=>q e gs sc p h) z h
noncomputable def Y5{β:Type}(s:Stmt)(f:List Expr->Expr->Option β):Option β:=if h:s.ctorIdx=5 then Stmt.Assign.elim (motive_2:=λJ=>Option β) s h (λts e J=>f ts e) else none
@[elab_as_elim] theorem C53{P:Stmt->Prop}{s:Stmt}{β:Type}{f:List Expr->Expr->Option β}{y:β}(h:Y5 s f=some y)(q:∀ts e p,f ts e=some y->P (.Assign ts e p)):P s:=
 (el h).elim λz h=>Stmt.Assign.elim (motive_2:=λs=>∀z,Stmt.Assign.elim (motive_2:=λJ=>Option β) s z (λts e J=>f ts e)=some y->P s) s z (λts e p J h=>q ts e p h) z h
noncomputable def A76{β:Type}(s:Stmt)(f:Str->Arguments->List Stmt->Scope->Pos->Option β):Option β:=if h:s.ctorIdx=0 then Stmt.FunctionDef.elim (motive_2:=λJ=>Option β) s h (λx p b J J J sc J J pos=>f x p b sc pos) else none
noncomputable def A6t{β:Type}(s:Stmt)(f:Str->List Expr->List Stmt->List Str->Pos->Option β):Option β:=if h:s.ctorIdx=2 then Stmt.ClassDef.elim (motive_2:=λJ=>Option β) s h (λx bs J b J J J J J st pos=>f x bs b st pos) else none
noncomputable def A7m(s:Stmt):List Stmt:=if h:s.ctorIdx=9 then Stmt.For.elim (motive_2:=λJ=>List Stmt) s h (λJ J b J J=>b) else []
noncomputable def B04{β:Type}(e:Expr)(f:Option Expr->Option Expr->Option Expr->Pos->Option β):Option β:=if h:e.ctorIdx=26 then Expr.Slice.elim (motive_1:=λJ=>Option β) e h f else none
@[elab_as_elim] theorem C5t{P:Expr->Prop}{e:Expr}{β:Type}{f:Option Expr->Option Expr->Option Expr->Pos->Option β}{y:β}(h:B04 e f=some y)(q:∀a b c p,f a b c p=some y->P (.Slice a b c p)):P e:=
 (el h).elim λz h=>Expr.Slice.elim (motive_1:=λe=>∀z,Expr.Slice.elim (motive_1:=λJ=>Option β) e z f=some y->P e) e z (λa b c p J h=>q a b c p h) z h
noncomputable def on1{α β:Type}(l:List α)(f:α->Option β):Option β:=match l with
 | [a]=>f a
 |_=>none
@[elab_as_elim] theorem M6{α β:Type}{P:List α->Prop}{l:List α}{f:α->Option β}{y:β}(h:on1 l f=some y)(q:∀a,f a=some y->P [a]):P l:=by
 cases l with
 |nil=>cases h
 |cons a l=>cases l with
  |nil=>exact q a h
  |cons b l=>cases h
def on2{α β:Type}(l:List α)(f:α->α->Option β):Option β:=match l with
 |a :: l=>on1 l λb=>f a b
 | []=>none
@[elab_as_elim] theorem Q5{α β:Type}{P:List α->Prop}{l:List α}{f:α->α->Option β}{y:β}(h:on2 l f=some y)(q:∀a b,f a b=some y->P [a,b]):P l:=by
 cases l with
 |nil=>cases h
 |cons a l=>exact M6 (P:=λl=>P (a :: l)) h λb h=>q a b h
section
variable{α:Type}{M:Model}{A:Around}{E:Value->Shared->Prop}{s:Shared}{Q:α->Shared->Prop}
theorem O1{c:Prop}[Decidable c]{a b:Sem α}(h:¬c)(k:wpAny M A b Q E s):wpAny M A (if c then a else b) Q E s:=by rw[Z0m h];exact k
theorem D53{c:Prop}[Decidable c]{a b:Sem α}(h:c)(k:wpAny M A a Q E s):wpAny M A (if c then a else b) Q E s:=by rw[Z0p h];exact k
theorem L6{β:Type}{m:Sem β}{r:β}{f:β->Sem α}(x:Looks M s.heap m r)(k:wpAny M A (f r) Q E s):wpAny M A (m >>= f) Q E s:=Z0d (x.here k)
theorem C94{h:Heap}{c:Prop}[Decidable c]{a b:Sem α}{r:α}(hc:¬c)(x:Looks M h b r):Looks M h (if c then a else b) r:=by rw[Z0m hc];exact x
end
noncomputable abbrev pg:Program:=PySem.Challenge.pw_nt0148_01
structure FnRec where
 name:Str
 params:Arguments
 body:List Stmt
 scope:Scope
 pos:Pos
noncomputable def A9g:List Str:= ["__module__", "__qualname__", "__firstlineno__", "__static_attributes__", "__dict__", "__weakref__", "__doc__"]
def B45(h h':Heap):Prop:=∀b o,h.get? b=some o->h'.get? b=some o
def Gives(prog:Program)(w:World)(A:Around)(env:Env)(h:Heap)(e:Expr)(P:Heap->Value->Prop):Prop:=
 ∀(s:Shared) (Q E:Value->Shared->Prop),s.heap=h->(∀v h' tk,B45 h h'->h.objs.size<=h'.objs.size->P h' v->Q v {s with heap:=h',toks:=tk})->wpAny (model prog w) A (eval e env) Q E s
noncomputable def T5:Bool->List Value
 |false=> [.type "object"]
 |true=> [.type "Exception", .type "BaseException", .type "object"]
noncomputable def B5r:Bool->String
 |false=> "object.__new__"
 |true=> "Exception.__new__"
noncomputable def A94:List (Option Expr)->List Expr->Option (List (Expr × Expr) × List (Str × Const))
 | [],vs=>if vs.isEmpty then some ([],[]) else none
 |k :: ks,vs=>k.bind λk=>vs.head?.bind λv=>(A0d k).bind λx=>A2p v λc J J=>if v.isPlainConst then (A94 ks vs.tail).map λr=>((k,v) :: r.1,(x,c) :: r.2) else none
section
variable{prog:Program}{w:World}{A:Around}{E:Value->Shared->Prop}
def B4k(p:Expr × Expr)(q:Str × Const):Prop:=(∃k a,p.1= .Constant (.str q.1) k a)/\∃k a,p.2= .Constant q.2 k a/\(Expr.Constant q.2 k a).isPlainConst=true
noncomputable def D8{α β:Type}(R:α->β->Prop)(l:List α):List β->Prop:=List.rec (motive:=λJ=>List β->Prop) (λr=>List.rec (motive:=λJ=>Prop) True (λJ J J=>False) r) (λa J ih r=>List.rec (motive:=λJ=>Prop) False (λb r J=>R a b/\ih r) r) l
@[elab_as_elim] theorem D8.ind{α β:Type}{R:α->β->Prop}{P:List α->List β->Prop}{l:List α}{r:List β}(x:D8 R l r)(h0:P [] [])(h1:∀a b l r,R a b->D8 R l r->P l r->P (a :: l) (b :: r)):P l r:=by
 induction l generalizing r with
 |nil=>cases r with
  |nil=>exact h0
  |cons _ _=>exact x.elim
 |cons a l ih=>cases r with
  |nil=>exact x.elim
  |cons b r=>exact h1 a b l r x.1 x.2 (ih x.2)
theorem D8.imp{α β:Type}{R R':α->β->Prop}(f:∀a b,R a b->R' a b){l:List α}{r:List β}(x:D8 R l r):D8 R' l r:=x.ind trivial λa b J J h J ih=>⟨f a b h,ih⟩
theorem D8.len{α β:Type}{R:α->β->Prop}{l:List α}{r:List β}(x:D8 R l r):l.length=r.length:=x.ind rfl λJ J J J J J ih=>congrArg Nat.succ ih
theorem D8.app{α β:Type}{R:α->β->Prop}{l l':List α}{r r':List β}(x:D8 R l r)(y:D8 R l' r'):D8 R (l ++ l') (r ++ r'):=x.ind y λJ J J J h J ih=>⟨h,ih⟩
def A2s:List (Expr × Expr)->List (Str × Const)->Prop:=D8 B4k
def Kvs:List (Str × Value)->List (Str × Const)->Prop:=D8 λp q=>p.1=q.1/\q.2.Val p.2
noncomputable def Z5(env:Env)(pos:Pos)(ps:List (Expr × Expr)):List (Sem Value × Sem Value):=ps.map λp=>(eval p.1 env,do let x<-eval p.2 env;standAt pos;pure x)
theorem A44{env:Env}{pos:Pos}{p:Expr × Expr}{q:Str × Const}{s:Shared}(h:B4k p q) :
 (∀{Q:Value->Shared->Prop},(∀t tk,Q (.str q.1 t) {s with toks:=tk})->wpAny (model prog w) A (eval p.1 env) Q E s)/\
 (∀{Q:Value->Shared->Prop},(∀v tk,q.2.Val v->Q v {s with toks:=tk})->wpAny (model prog w) A (do let x<-eval p.2 env;standAt pos;pure x) Q E s):=by
 rcases h with⟨q'1,k',a',e2,e3⟩
 refine F9 q'1 λk a e1=>?_
 refine⟨λ{Q} kk=>?_,λ{Q} kk=>?_⟩
 . refine re e1 ?_
   refine wpAny_eval_const rfl λv tk hv=>?_
   obtain⟨t,rfl⟩:=hv
   exact kk t tk
 . refine re e2 ?_
   exact Z0d (wpAny_eval_const e3 λv tk hv=>Z0d (Z1r (Z0f (kk v tk hv))))
theorem C5l{env:Env}{pos:Pos}(ps:List (Expr × Expr))(l:List (Str × Const))(s:Shared)(Q:List (Value × Value)->Shared->Prop)(h:A2s ps l)
 (k:∀vs kvs tk,Carries (strKind prog w) vs kvs->Kvs kvs l->Q vs {s with toks:=tk}):wpAny (model prog w) A (evalPairs (Z5 env pos ps)) Q E s:=by
 revert s Q k
 refine D8.ind h (λs Q k=>evalPairs_nil (k [] [] s.toks trivial trivial)) λp q ps qs h J ih s Q k=>evalPairs_cons ?_
 refine(A44 (pos:=pos) h).1 λt tk=>(A44 (pos:=pos) h).2 λv tk' hv=>ih _ _ λvs kvs tk'' hc hk=>?_
 exact k _ ((q.1,v) :: kvs) tk'' ⟨Z4a prog w _ _,rfl,hc⟩ ⟨⟨rfl,hv⟩,hk⟩
theorem D0p{env:Env}{pos:Pos}{d:Addr}(ps:List (Expr × Expr))(l:List (Str × Const))(acc:List (Str × Value))(s:Shared)(Q:PUnit->Shared->Prop)(h:A2s ps l)(hm:s.heap.DictOf (strKind prog w) d acc)(hz:acc.length+l.length<=1000)
 (k:∀kvs h' tk,Kvs kvs l->h'.DictOf (strKind prog w) d (merged acc kvs)->Heap.SameBut d s.heap h'->Q PUnit.unit {s with heap:=h',toks:=tk}) :
 wpAny (model prog w) A (forIn (Z5 env pos ps) PUnit.unit λ(x:Sem Value × Sem Value) (_:PUnit)=>(do
  let kv<-x.1
  let vv<-holding [kv] x.2
  holding [kv,vv] (dictSet d kv vv)
  pure (ForInStep.yield PUnit.unit):Sem (ForInStep PUnit))) Q E s:=by
 induction ps generalizing l acc s with
 |nil=>
  cases l with
  |nil=>exact Z0f (k [] s.heap s.toks trivial hm (Heap.SameBut.refl _ _))
  |cons _ _=>exact h.elim
 |cons p ps ih=>
  cases l with
  |nil=>exact h.elim
  |cons q qs=>
   rw[List.length_cons] at hz;show wpAny _ _ (forIn (_ :: _) _ _) _ _ _;rw[List.forIn_cons];refine Z0d (Z0d ((A44 (pos:=pos) h.1).1 λt tk=>?_));refine Z0d (Z1b ((A44 (pos:=pos) h.1).2 λv tk' hv=>?_));refine Z0d (Z1b (wpAny_dictSet_pairs (knd:=strKind prog w) (k:=q.1) (Z4a prog w _ _) hm (λh1 hm1 hs1=>?_) (by rw[show sizeLine=16777216 from rfl];lia)));refine Z0f ?_;refine ih qs _ _ h.2 hm1 (by have e:=stored_length_le acc q.1 v;lia) λkvs h' tk'' hk hm' hs'=>?_;exact k ((q.1,v) :: kvs) h' tk'' ⟨⟨rfl,hv⟩,hk⟩ hm' (hs1.trans hs')
theorem C0p{env:Env}{h:Heap}{ps:List (Expr × Expr)}{l:List (Str × Const)}{pos:Pos}(hp:A2s ps l)(h0:ps≠ [])(hlen:ps.length<17)
 (hshape:(evalEachOpt (ps.map λp=>some p.1) env).zip ((evalEach (ps.map (·.2)) env).map λv=>do let x<-v;standAt pos;pure x)=(Z5 env pos ps).map λp=>(some p.1,p.2)) :
 Gives prog w A env h (.Dict (ps.map λp=>some p.1) (ps.map (·.2)) pos) (λh' v=>∃a kvs,v= .ref a/\h.objs.size<=a/\h'.DictOf (strKind prog w) a (merged [] kvs)/\Kvs kvs l):=λs Q E hs k=>by
 subst hs
 have hl:(Z5 env pos ps).length=ps.length:=by unfold Z5;rw[List.length_map]
 haveI hn0:Z5 env pos ps≠ []:=λq=>h0 (by rw[q] at hl;exact Z3d.mp hl.symm)
 rw[arm_eval_Dict,hshape,dictDisplay_pairs _ hn0 (by rw[hl];exact hlen)]
 refine Z0d (Z1r (Z0d ?_))
 have hD:(s.heap.push {cls:= .type "dict",data:= .dict #[]}).DictOf (strKind prog w) s.heap.objs.size []:=⟨_,#[],0,Z0r _ rfl,⟨rfl,rfl,rfl⟩,rfl,(λJ h=>nomatch h),Pairs.nil,Z4w⟩
 have ke:∀{h1 h2:Heap},Heap.SameBut s.heap.objs.size (s.heap.push {cls:= .type "dict",data:= .dict #[]}) h2->B45 s.heap h2/\s.heap.objs.size<=h2.objs.size:=λhsb=>
  ⟨λb o e=>(hsb.2 b (Z0k (Z0i e))).trans (Z0h _ e),by simp only[hsb.1,Heap.size_push];exact Z1d _⟩
 by_cases h15:ps.length<=15
 . refine wpAny_subDict (knd:=strKind prog w) (by rw[hl];exact h15) (C5l ps l _ _ hp λvs kvs tk hc hk=>⟨kvs,hc,hD,λh' hd' hs'=>Z0f ?_⟩)
   exact k _ h' _ (ke (h1:=s.heap) hs').1 (ke (h1:=s.heap) hs').2 ⟨_,kvs,rfl,Z0g _,hd',hk⟩
 . refine Z0d (wpAny_alloc (Z0d (Z1b ?_)))
   rw[Z0m (by rw[hl];exact h15)]
   refine Z0d (Z5j ?_)
   refine Z0d (D0p ps l [] _ _ hp hD (by simp only[List.length_nil,<-D8.len hp];exact Z0c (Nat.add_le_add (Z0g _) (Z0c (Z0z hl.symm) (Z0c (Z0z hl) (Z0c (Z0o hlen) (Z0g _))))) (by decide)) λkvs h' tk hk hd' hs'=>?_)
   refine Z0f (Z0f (Z0f ?_))
   exact k _ h' _ (ke (h1:=s.heap) hs').1 (ke (h1:=s.heap) hs').2 ⟨_,kvs,rfl,Z0g _,hd',hk⟩
end
theorem C1p{ks:List (Option Expr)}{vs:List Expr}{r:List (Expr × Expr) × List (Str × Const)}(h:A94 ks vs=some r):A2s r.1 r.2/\ks=r.1.map (λp=>some p.1)/\vs=r.1.map (·.2):=by
 induction ks generalizing vs r with
 |nil=>
  cases vs with
  |nil=>rw[<-Z0a h];exact O2 trivial rfl rfl
  |cons v vs=>exact nn h
 |cons k ks ih=>
  cases k with
  |none=>exact nn h
  |some k=>cases vs with
   |nil=>exact nn h
   |cons v vs=>
    change (A0d k).bind _=_ at h;refine A1 (bi h) λx hx h=>B3h (P:=λe=>e=v->_) h (λc k' p' h e=>?_) rfl;refine A8 (ift h) λhp h=>A1 (mi h) λr' e' q'=>A7 (ih e') λa b d=>?_;rw[<-q'];exact O2 ⟨⟨A9j hx λk p=>⟨k,p,rfl⟩,k',p',e.symm,e▸hp⟩,a⟩ (congrArg (some k :: ·) b) (congrArg (v :: ·) d)
theorem B74{env:Env}{pos:Pos}:∀(ps:List (Expr × Expr)),(evalEachOpt (ps.map λp=>some p.1) env).zip ((evalEach (ps.map (·.2)) env).map λv=>do let x<-v;standAt pos;pure x)=(Z5 env pos ps).map λp=>(some p.1,p.2)
 | []=>rfl
 |p :: ps=>by
  haveI:=B74 (env:=env) (pos:=pos) ps;show(some (eval p.1 env),_) :: _=_ :: _;congr 1
noncomputable def sq(a b:Str):Bool:=Fast.sEq a b
noncomputable def A6k:Str:=Str.ofString "/claim/cut.py"
noncomputable def ent(P:Params)(x:Str)(t:Nat)(v:Value):DictEntry:=⟨PyData.keyHash P x, .str x t,v⟩
noncomputable def N4(l:List Value):Obj:={cls:= .type "tuple",data:= .seq l.toArray}
noncomputable def A0w(l:List DictEntry)(n:Nat):Obj:={cls:= .type "dict",data:= .dict l.toArray n}
noncomputable def V3(c:Value)(l:List Value):Obj:={cls:=c,data:= .fields l.toArray}
noncomputable def A3z:List Str->Nat->List Value
 | [],_=> []
 |x :: l,t=> .str x t :: A3z l (t+1)
def A85(name q:Str)(line argc fl free:Nat)(isF:Bool)(places:Nat)(l:List Value)(t t':Nat):Obj:=
 V3 (.type "code") ([.str name t, .str q (t+1), .str A6k (t+2),rawInt line,rawInt argc,rawInt 0,rawInt 0,rawInt fl, .ref free, .bool isF,rawInt 181, .ref places, .none] ++ (l ++ [rawInt t',rawInt line, .str A6k (t'+1)]))
noncomputable def B6n(c ns:Nat)(pm:Value):Obj:={cls:= .type "frame",slots:=#[some (.ref c),some (.ref 3),some (.ref ns),none,some pm,none,some (.ref 0)]}
inductive Kd where
 |fn (r:FnRec)
 |cl (name:Str) (bases:List Expr) (body:List Stmt) (sa:List Str) (pos:Pos)
 |tup (x:Str) (es:List Expr)
 |dict (x:Str) (ks:List (Option Expr)) (vs:List Expr)
 |val (x:Str) (e:Expr)
 |mod (s:Str)
 |no
noncomputable def kdA(x:Str)(e:Expr):Kd:=((A4i e λes J J=>some (.tup x es)).or (A9k e λks vs J=>some (.dict x ks vs))).getD (if sq x "__name__" then ((A0d e).map .mod).getD .no else .val x e)
def kd(s:Stmt):Kd:=((A76 s λname p body sc pos=>some (.fn ⟨name,p,body,sc,pos⟩)).or ((A6t s λname bases body sa pos=>some (.cl name bases body sa pos)).or
 (Y5 s λts e=>on1 ts λt=>I8 t λx J=>some (kdA x e)))).getD .no
structure Row where
 k:Kd
 n:Nat
 t:Nat
 n':Nat
 t':Nat
 pm:Value
noncomputable def NT:List (Nat × Nat):= [(15,187),(15,189),(35,218),(47,234),(66,261),(66,263),(66,265),(66,267),(66,269),(66,271),(66,273),(66,277),(67,286),(67,288),(68,295),(68,297),(68,301),(69,360),(70,369),(75,375),(82,382),(138,454),(243,609),(250,616),(250,618),(257,625),(262,631),(283,658),(295,674),(321,706),(347,743),(373,775),(399,809),(425,845),(451,883),(477,919),(503,955),(529,989),(555,1021),(579,1056),(605,1094),(631,1128),(657,1162),(683,1196),(709,1237),(735,1273),(761,1309),(787,1343),(813,1384),(839,1427),(863,1458),(889,1494),(915,1528),(941,1567),(967,1606),(993,1642),(1019,1678),(1045,1718),(1071,1760),(1097,1796),(1123,1835),(1147,1872),(1173,1906),(1199,1938),(1218,1961),(1244,1993),(1270,2025),(1296,2057),(1322,2089),(1348,2123),(1367,2146),(1367,2148),(1374,2157),(1381,2165),(1388,2173),(1388,2175),(1389,2181),(1445,2259),(1445,2261),(1445,2263),(1445,2265),(1445,2267),(1446,2316),(1447,2350),(1448,2356),(1449,2360),(1576,2533),(1576,2535),(1709,2707),(1709,2709),(1710,2714),(1711,2723),(1823,2868),(1823,2870),(1824,2874),(1880,2942),(1880,2944),(1880,2946),(2013,3101),(2013,3103),(2048,3152),(2055,3159),(2062,3167),(2062,3169),(2069,3180),(2076,3189),(2083,3197),(2088,3203),(2095,3212),(2102,3222),(2109,3238),(2116,3245),(2123,3261),(2130,3270),(2135,3276),(2142,3285),(2149,3291),(2156,3302),(2161,3308),(2168,3317)]
noncomputable def B26(k:Kd)(t:Nat)(pm:Value):Value:=match k with | .mod s=> .str s t | _=>pm
noncomputable def B2m:List Kd->List (Nat × Nat)->Value->List Row
 |k :: l,(n,t) :: (n',t') :: r,pm=>⟨k,n,t,n',t',pm⟩ :: B2m l ((n',t') :: r) (B26 k t pm)
 |_,_,_=> []
noncomputable def isObj:List Expr->Bool | []=>true | _=>false
def A23(bases:List Expr):Nat:=match bases with | []=>4 | [.Name x _]=>if sq x "Exception" then 3 else 2 | _=>0
def B1(r:Row):Nat:=match r.k with
 | .fn _=>r.n' - 1
 | .cl _ bases _ _ _=>r.n' - 1 - A23 bases
 |_=>r.n
noncomputable def E6:Kd->Str
 | .fn r=>r.name
 | .cl name _ _ _ _=>name
 | .tup x _=>x
 | .dict x _ _=>x
 | .val x _=>x
 |_=>Str.empty
noncomputable def find(x:Str)(l:List Row):Option Row:=l.find? λr=>sq (E6 r.k) x
noncomputable def C3k:Kd->Option Expr
 | .val _ e=>some e
 |_=>none
noncomputable def A0k:Value->Option Str
 | .str x _=>some x
 |_=>none
noncomputable def A24:Value->Option Int
 | .int x _=>some x
 |_=>none
noncomputable def C2q:Const->Option Bool
 | .bool b=>some b
 |_=>none
noncomputable def evC(e:Expr)(t:Nat):Value × Nat:=(A2p e λc J J=>((A3y c).map λs=>(.str s t,t+1)).or (((A7d c).map λi=>(.int i t,t+1)).or ((C2q c).map λb=>(.bool b,t)))).getD (.none,t)
noncomputable def evP(x y:Value)(t:Nat):Value:=(((A0k x).bind λu=>(A0k y).map λv=> .str ⟨u.cps ++ v.cps⟩ t).or ((A24 x).bind λi=>(A24 y).map λj=> .int (i ^ j.toNat) t)).getD .none
noncomputable def ev(rs:List Row)(f:Nat):Expr->Nat->Value × Nat:=Nat.rec (motive:=λJ=>Expr->Nat->Value × Nat) evC (λJ ih e t=>
 ((I8 e λx J=>some (((find x rs).bind λr=>(C3k r.k).map λe=>(ih e r.t).1).getD .none,t)).or
 (A8r e λa J b J=>some (let x:=ih a t;let y:=ih b x.2;(evP x.1 y.1 y.2,y.2+1)))).getD (evC e t)) f
noncomputable def evs(rs:List Row):List Expr->Nat->List Value × Nat
 | [],t=>([],t)
 |e :: es,t=>let x:=ev rs 3 e t;let y:=evs rs es x.2;(x.1 :: y.1,y.2)
structure Fp where
 r:FnRec
 q:Str
 pm:Value
 dv:List Value
 n:Nat
 t:Nat
 ln:Option (List Str × List Str)
noncomputable def Fp.f(p:Fp):Nat:=match p.dv with | []=>p.n | _=>p.n+1
def Fp.c(p:Fp):Nat:=match p.ln with | none=>p.f+3 | some _=>p.f+5
def Fp.a(p:Fp):Nat:=p.c+1
noncomputable def Fp.u(p:Fp):Nat:=match p.ln with | none=>p.t+3 | some l=>p.t+3+l.1.length+l.2.length
def Fp.fn(p:Fp):Obj:={cls:= .type "function",data:= .func (defFd p.r.name p.q p.r.params p.r.body p.r.scope mainGlobals (match p.dv with | []=> .none | _=> .ref p.n) .none none p.pm (.ref p.c) .none)}
def Fp.co(p:Fp):Obj:=A85 p.r.name p.q p.r.pos.line p.r.params.args.length 3 p.f true (p.f+1) (match p.ln with | none=> [.none, .none, .ref (p.f+2)] | some _=> [.ref (p.f+2), .ref (p.f+3), .ref (p.f+4)]) p.t p.u
def Fp.os(p:Fp):List Obj:=
 (match p.dv with | []=> [] | l=> [N4 l]) ++ (N4 [] :: V3 .none [] :: ((match p.ln with | none=> [] | some l=> [N4 (A3z l.1 (p.t+3)),N4 (A3z l.2 (p.t+3+l.1.length))]) ++
 [{cls:= .none,data:= .func {name:=p.r.name,qualname:=p.q,params:=p.r.params,body:= .stmts p.r.body,scope:=p.r.scope,globals:=builtinsNs,closure:= [],defaults:= .none,kwdefaults:= .none}},p.co,p.fn]))
def A8t(rs:List Row)(q:Str)(pm:Value)(r:FnRec)(n t:Nat):Fp:=let d:=evs rs r.params.defaults t;⟨r,q,pm,d.1,n,d.2,localNames r.params r.scope (.stmts r.body)⟩
noncomputable def A8o(rs:List Row)(q:Str)(pm:Value):List Stmt->Nat->Nat->List Fp
 |st :: l,n,t=>match kd st with
  | .fn r=>let o:=A8t rs (q ++ "." ++ r.name) pm r n t;o :: A8o rs q pm l (o.a+1) (o.u+3)
  |_=>A8o rs q pm l n t
 | [],_,_=> []
def fps(rs:List Row)(r:Row):List Fp:=match r.k with
 | .fn f=> [A8t rs f.name r.pm f r.n r.t]
 | .cl name _ body _ _=>A8o rs name r.pm body (r.n+7) (r.t+12)
 |_=> []
noncomputable def clB:Kd->Option (List Expr)
 | .cl _ bases _ _ _=>some bases
 |_=>none
noncomputable def chain(rs:List Row)(f:Nat):List Expr->List Row × Bool:=Nat.rec (motive:=λJ=>List Expr->List Row × Bool) (λJ=>([],false)) (λJ ih bs=>
 (on1 bs λb=>I8 b λx J=>some x).elim ([],false) λx=>(find x rs).elim ([],true) λr=>(clB r.k).elim ([],false) λbases=>let c:=ih bases;(r :: c.1,c.2)) f
def P5(l:List Row):List Value:=l.map λr=> .ref (B1 r)
def own(rs:List Row)(bases:List Expr):List Value:=let c:=chain rs 5 bases;P5 c.1 ++ T5 c.2
def B7u(rs:List Row)(bases:List Expr):List Value:=match bases with | []=> [] | _=>(own rs bases).take 1
def D1a(r:Row)(name:Str)(bases:List Expr)(exc:Bool):Array (Option Value):=
 #[if isObj bases then none else some (.ref r.n),none,some (.str name r.t),some (.str name (r.t+8)),some (.builtin (B5r exc)),some (.bool true)]
def A69(rs:List Row)(r:Row)(sub:List Value):Obj:=match r.k with
 | .cl name bases _ _ _=>
  {cls:= .type "type",data:= .cls ⟨name,(own rs bases).take 1, .ref (B1 r) :: own rs bases,B1 r - 1,name,true,[],sub,false,none,false⟩,slots:=D1a r name bases (chain rs 5 bases).2}
 |_=>default
noncomputable def kv3(rs:List Row)(b:Nat):List (Option Expr)->List Expr->Nat->List (Str × Nat × Value)
 |k :: ks,v :: vs,t=>((k.bind A0d).map λk=>let x:=ev rs 3 v (t+1);(k,t,x.1) :: kv3 rs b ks vs (x.2+b)).getD []
 |_,_,_=> []
def kvR(rs:List Row)(r:Row):List (Str × Nat × Value):=match r.k with | .dict _ ks vs=>kv3 rs (if vs.length>15 then 1 else 0) ks vs r.t | _=> []
def A9e(P:Params)(l:List (Str × Nat × Value)):Obj:=A0w (l.map λe=>ent P e.1 e.2.1 e.2.2) l.length
noncomputable def t4(r:Row)(b:Nat):Nat:=if b==3 then r.t' - 5 else r.t' - 3
def t3(r:Row)(b:Nat):Nat:=if b==2 then t4 r b else t4 r b - 2
def t2(r:Row)(b:Nat):Nat:=if b==4 then t3 r b - 2 else t3 r b
def B11(P:Params)(fs:List Fp)(r:Row)(b:Nat)(pos:Pos):List DictEntry:=
 let C:=B1 r
 let ww:List DictEntry:=(if b==2 then [] else [ent P "__weakref__" (t3 r b+1) (.ref (if b==4 then C+2 else C+1))]) ++ [ent P "__doc__" (t4 r b) .none]
 ent P "__module__" (r.t+7) r.pm :: ent P "__firstlineno__" (r.t+11) (.int pos.line (r.t+10)) :: (fs.map (λf=>ent P f.r.name (f.u+2) (.ref f.a)) ++ ent P "__static_attributes__" (t2 r b - 1) (.ref (C - 2)) :: (if b==4 then ent P "__dict__" (t2 r b+1) (.ref (C+1)) :: ww else ww))
def objs(P:Params)(rs:List Row)(r:Row):List Obj:=match r.k with
 | .tup _ es=> [N4 (evs rs es r.t).1]
 | .dict _ _ _=> [A9e P (kvR rs r)]
 | .fn _=>(fps rs r).flatMap Fp.os
 | .cl name bases body sa pos=>
  let n:=r.n
  let C:=B1 r
  let fs:=fps rs r
  let b:=A23 bases
  let gs (x:Str) (k:Nat) (a b:Value):Obj:=V3 (.type "getset_descriptor") [.str x k, .ref C,a,b]
  [N4 (B7u rs bases),V3 (.type "builtin_function_or_method") [.builtin "type.__prepare__", .type "type"],
   A0w (ent P "__module__" (r.t+7) r.pm :: ent P "__qualname__" (r.t+9) (.str name (r.t+8)) :: ent P "__firstlineno__" (r.t+11) (.int pos.line (r.t+10)) :: (fs.map (λf=>ent P f.r.name (f.u+2) (.ref f.a)) ++ [ent P "__static_attributes__" (t2 r b - 1) (.ref (C - 2))])) (4+fs.length),
   N4 [],V3 .none (fs.flatMap λf=> [rawInt f.r.pos.line,rawInt f.r.pos.col, .ref f.c]),A85 name name pos.line 0 0 (n+3) false (n+4) [.none, .none, .none] (r.t+2) (r.t+5),B6n (n+5) (n+2) r.pm] ++ (fs.flatMap Fp.os ++
  ([N4 (A3z sa (t2 r b - 1 - sa.length)),A0w (B11 P fs r b pos) (if b==4 then 4 else b),default] ++ ((if b==4 then [gs "__dict__" (t2 r b) (.builtin "function.__dict__") (.builtin "function.__dict__#set")] else []) ++
  ((if b==2 then [] else [gs "__weakref__" (t3 r b) (.builtin "ExceptionGroup.__weakref__") .none]) ++
  [V3 (.type "super") [.ref C, .ref C, .ref C],V3 (.type "builtin_function_or_method") [.builtin "object.__init_subclass__", .ref C]]))))
 |_=> []
noncomputable def K4(rs:List Row)(C:Nat):Nat->List Row->List Value
 |k+1,r :: l=>match r.k with
  | .cl _ bases _ _ _=>(match B7u rs bases with | [.ref b]=>if Nat.beq b C then .ref (B1 r) :: K4 rs C k l else K4 rs C k l | _=>K4 rs C k l)
  |_=>K4 rs C k l
 |_,_=> []
def W3(rs:List Row)(r:Row):Value:=match r.k with
 | .val _ e=>(ev rs 3 e r.t).1
 |_=> .ref (B1 r)
noncomputable def A90:Kd->Bool | .mod _=>false | .no=>false | _=>true
noncomputable def A8z(P:Params)(rs:List Row):Nat->List Row->List DictEntry
 |k+1,r :: l=>if A90 r.k then ent P (E6 r.k) (r.t' - 1) (W3 rs r) :: A8z P rs k l else A8z P rs k l
 |_,_=> []
noncomputable def B1d:Nat->List Row->Value->Value
 |k+1,r :: l,_=>B1d k l (B26 r.k r.t r.pm)
 |_,_,pm=>pm
noncomputable def A48:Nat->List Row->List Value
 |k+1,r :: l=>match r.k with
  | .fn f=>rawInt f.pos.line :: rawInt f.pos.col :: .ref (r.n' - 2) :: A48 k l
  | .cl _ _ _ _ pos=>rawInt pos.line :: rawInt pos.col :: .ref (r.n+5) :: A48 k l
  |_=>A48 k l
 |_,_=> []
noncomputable def A66(P:Params):Nat->List Row->List DictEntry
 |k+1,r :: l=>match r.k with
  | .cl _ bases _ _ _=>if Nat.beq (A23 bases) 3 then [ent P "type.__subclasses__.Exception.0" (r.t' - 4) (.int (B1 r) 0),ent P "type.__subclasses__.Exception.n" (r.t' - 3) (.int 1 0)] else A66 P k l
  |_=>A66 P k l
 |_,_=> []
noncomputable def pm0:Value:= .str "__main__" 164
def D6b(P:Params)(rs:List Row)(k:Nat):Obj:=
 let es:=A8z P rs k rs
 A0w ([ent P "__name__" 165 (B1d k rs pm0),ent P "__doc__" 166 .none,ent P "__package__" 167 .none,ent P "__loader__" 168 (.builtin "__main__.__loader__#opaque"),ent P "__spec__" 169 .none,
  ent P "__annotations__" 170 (.ref 6),ent P "__builtins__" 171 (.ref 4),ent P "__file__" 173 (.str A6k 172),ent P "__cached__" 174 .none] ++ es) (9+es.length)
def D3c(r:Row)(i:Nat):Bool:=match r.k with | .cl _ _ _ _ _=>Nat.beq i (B1 r) | _=>false
def B2:List Row:=B2m (pg.main.body.map kd) NT pm0
noncomputable def B5m(l:List Obj)(i:Nat):Obj:=@List.rec Obj (λJ=>Nat->Obj) (λJ=>default) (λo J ih i=>@Nat.rec (λJ=>Obj) o (λi J=>ih i) i) l i
def C3t(k:Nat)(P:Params)(r:Row)(i:Nat):Obj:=@Bool.rec (λJ=>Obj) (B5m (objs P B2 r) (i - r.n)) (A69 B2 r (K4 B2 i k B2)) (D3c r i)
def A4x(k:Nat)(P:Params)(i:Nat):Obj:=B5m [boot_o_0 P,boot_o_1 P,(let es:=A66 P k B2;{cls:= .none,data:= .dict es.toArray es.length}),D6b P B2 k,boot_o_4 P,boot_o_5 P,boot_o_6 P,boot_o_7 P,boot_o_8 P,boot_o_9 P,boot_o_10 P,
 N4 [],V3 .none (A48 k B2),A85 "<module>" "<module>" 1 0 0 11 false 12 [.none, .none, .none] 182 185,B6n 13 3 (.str "__main__" 164)] i
def A1v(k:Nat):Nat × Nat:=NT.getD k (0,0)
noncomputable def BL:Nat->Nat × List Nat
 | 0=>(0,[]) | 1=>(13,[]) | 2=>(14,[]) | 3=>(30,[]) | 4=>(44,[26,27]) | 5=>(56,[26,27]) | 6=>(68,[26,27]) | 7=>(81,[26,27]) | 8=>(82,[]) | 9=>(83,[]) | 10=>(88,[]) | 11=>(98,[]) | _=>(119,[])
def C0o(k:Nat)(P:Params)(r:Row)(m:Nat)(t:BT):BT:=@Nat.rec (λJ=>BT) t (λm ih=>ih.ins (r.n+m) (C3t k P r (r.n+m))) m
def D46(k:Nat)(P:Params)(m:Nat)(t:BT):BT:=@Nat.rec (λJ=>BT) t (λm ih=>ih.ins m (A4x k P m)) m
def D3r(k:Nat)(P:Params)(l:List Row)(t:BT):BT:=@List.rec Row (λJ=>BT->BT) (λt=>t) (λr J ih t=>ih (C0o k P r (r.n' - r.n) t)) l t
def D03(k:Nat)(P:Params)(l:List Nat)(t:BT):BT:=@List.rec Nat (λJ=>BT) t (λi J ih=>match B2[i]? with | some r=>ih.ins (B1 r) (A69 B2 r (K4 B2 (B1 r) k B2)) | none=>ih) l
def C8h(k:Nat)(P:Params)(t:BT):BT:=((t.ins 2 (A4x k P 2)).ins 3 (A4x k P 3)).ins 12 (A4x k P 12)
def Q4(P:Params)(j:Nat):BT:=@Nat.rec (λJ=>BT) (D46 0 P 15 .nil) (λj ih=>C8h (BL (j+1)).1 P (D03 (BL (j+1)).1 P (BL (j+1)).2 (D3r (BL (j+1)).1 P ((B2.drop (BL j).1).take ((BL (j+1)).1 - (BL j).1)) ih))) j
def sT(j:Nat)(P:Params)(os:OsState):SharedT:=⟨Q4 P j,(A1v (BL j).1).1,{},#[],{},(A1v (BL j).1).2,os⟩
def J5:List Stmt:=pg.main.body
def R8:Env:={scope:=pg.main.scope,locals:=mainNs,globals:=mainNs,cells:= [],code:= .ref 13,frame:=some 14}
noncomputable def C71(s:Stmt):Pos:=((Y5 s λts J=>ts.head?.bind λt=>I8 t λJ p=>some p).or ((A76 s λJ J J J p=>some p).or (A6t s λJ J J J p=>some p))).getD default
def A38:Nat->Pos
 | 0=>default
 |k+1=>C71 (J5.getD k (.Pass default))
noncomputable def qT:Pos:=default
abbrev bnd(j:Nat):Nat:=(BL j).1
abbrev Pd(f:(String->Option Builtin)->Program->World->Nat->Option Value->Nat->Nat->SharedT->Thread->Option (Flow × SharedT × Code × Pos))(tb:String->Option Builtin)(j:Nat)(w:World)(os:OsState):Prop:=
 f tb pg w 11 (some (.ref 6)) 1 9000 (sT j w.params os) (piecesOf ((J5.drop (bnd j)).take (bnd (j+1) - bnd j)) R8 (.body J5 R8) (A38 (bnd j)) [topFrame qT])=some (.next,sT (j+1) w.params os, .body J5 R8,A38 (bnd (j+1)))
abbrev Pc(j:Nat)(w:World)(os:OsState):Prop:=Pd segRunT treeTable j w os
abbrev Pq(j:Nat)(w:World)(os:OsState):Prop:=Pd Fast.tw10110043849684766642 Fast.tw14364793385576792824 j w os
theorem pq{j:Nat}{w:World}{os:OsState}(h:Pq j w os):Pc j w os:=by
 show Pd _ _ _ _ _;rw[Fast.te10110043849684766642,Fast.te14364793385576792824];exact h
theorem pr{j:Nat}{w:World}{os:OsState}(hf:∀w:World,Pq j (w.withFollow "special-get-raises" false) os)(ht:∀w:World,Pq j (w.withFollow "special-get-raises" true) os):Pc j w os:=
 byRow2 "special-get-raises" (P:=λw=>Pc j w os) (λw=>pq (hf w)) (λw=>pq (ht w)) w
section
variable(w:World)(os:OsState)
theorem pc0:Pc 0 w os:=pq (by kernel_rfl)
theorem pc1:Pc 1 w os:=pr (λJ=>by kernel_rfl) λJ=>by kernel_rfl
theorem pc2:Pc 2 w os:=pq (by kernel_rfl)
theorem pc3:Pc 3 w os:=pq (by kernel_rfl)
theorem pc4:Pc 4 w os:=pq (by kernel_rfl)
theorem pc5:Pc 5 w os:=pq (by kernel_rfl)
theorem pc6:Pc 6 w os:=pq (by kernel_rfl)
theorem pc7:Pc 7 w os:=pr (λJ=>by kernel_rfl) λJ=>by kernel_rfl
theorem pc8:Pc 8 w os:=pr (λJ=>by kernel_rfl) λJ=>by kernel_rfl
theorem pc9:Pc 9 w os:=pq (by kernel_rfl)
theorem B9u:Pc 10 w os:=pq (by kernel_rfl)
theorem C9q:Pc 11 w os:=pq (by kernel_rfl)
end
theorem D4q(w:World)(os:OsState):topGo treeTable pg w 11 (some (.ref 6)) 12 ⟨boot_heap w.params,#[],boot_drawn,boot_toks,os⟩ (topStub pg)=some ((sT 0 w.params os).abs,⟨denote treeTable (.body J5 R8), .body J5 R8,default,[topFrame qT]⟩):=by
 kernel_rfl
theorem C2b(w:World)(os:OsState):segRun treeTable pg w 11 (some (.ref 6)) 1 1 (sT 0 w.params os).abs (blockOf J5 R8 (.body J5 R8) default [topFrame qT])=some (.next,(sT 0 w.params os).abs, .body J5 R8,A38 0):=by
 kernel_rfl
section
variable{w:World}{os:OsState}
abbrev C8d(j:Nat):Thread:=restOf (J5.drop (bnd j)) R8 (.body J5 R8) (A38 (bnd j)) [topFrame qT]
abbrev Tr(n:Nat)(j:Nat)(w:World)(os:OsState):Prop:=topRun treeTable pg w 11 (some (.ref 6)) n (sT j w.params os).abs (C8d j)=some (sT 12 w.params os).abs
theorem Tr.back{n j:Nat}(p:Pc j w os)(le:Nat.ble (bnd j) (bnd (j+1))=true)(h:Tr n (j+1) w os):Tr (9000+n) j w os:=by
 have e:J5.drop (bnd j)=(J5.drop (bnd j)).take (bnd (j+1) - bnd j) ++ J5.drop (bnd (j+1)):=by
  have:=(Z2d (bnd (j+1) - bnd j) (J5.drop (bnd j))).symm;rwa [Z3z,Nat.add_sub_cancel' (Z0l le)] at this
 show topRun _ _ _ _ _ _ _ (restOf (J5.drop (bnd j)) _ _ _ _)=_;rw[e];exact piece_app (segRun_of p) h
theorem C30:Tr 2 12 w os:=by kernel_rfl
theorem D36:∃n,topRun treeTable pg w 11 (some (.ref 6)) n ⟨boot_heap w.params,#[],boot_drawn,boot_toks,os⟩ (topStub pg)=some (sT 12 w.params os).abs:=
 ⟨_,go_top (D4q w os) (piece_block (C2b w os) (Tr.back (pc0 w os) rfl (Tr.back (pc1 w os) rfl (Tr.back (pc2 w os) rfl (Tr.back (pc3 w os) rfl (Tr.back (pc4 w os) rfl (Tr.back (pc5 w os) rfl
  (Tr.back (pc6 w os) rfl (Tr.back (pc7 w os) rfl (Tr.back (pc8 w os) rfl (Tr.back (pc9 w os) rfl (Tr.back (B9u w os) rfl (Tr.back (C9q w os) rfl C30)))))))))))))⟩
def HF(P:Params):Heap:=absHeap (Q4 P 12) (A1v (bnd 12)).1 {}
theorem C2v:(sT 12 w.params os).abs=⟨HF w.params,#[],{},(A1v (bnd 12)).2,os⟩:=by kernel_rfl
theorem D29:∃n t,topRun treeTable pg w 11 (some (.ref 6)) n ⟨boot_heap w.params,#[],boot_drawn,boot_toks,os⟩ (topStub pg)=some ⟨HF w.params,#[],{},t,os⟩:=by
 obtain⟨n,h⟩:=D36 (w:=w) (os:=os);rw[C2v] at h;exact⟨n,_,h⟩
end
theorem D8c:opening pg=plainProg pg.main.scope.names:=by kernel_rfl
theorem C82(s:Shared):fenceModules? pg s=some s:=by kernel_rfl
theorem B0r(P:Params):(staticsOk (importedModules pg.main.body) (boot_heap P) (HF P)&&namesBound pg (HF P)&&laidKept (boot_heap P) (HF P)&&(HF P).accountedOkI (importedModules pg.main.body)&&(HF P).isNs mainGlobals&&(HF P).isNs builtinsNs&&(HF P).bmainOk)=true:=by kernel_rfl
theorem C83(P:Params):(HF P).bltView=bltViewBooted:=by kernel_rfl
theorem C2f(P:Params):(boot_heap P).isNs mainGlobals=true/\(boot_heap P).nsMap mainGlobals (Str.ofString "__annotations__")=some (.ref 6)/\(boot_heap P).objs.size=11:=⟨by kernel_rfl,by kernel_rfl,by kernel_rfl⟩
theorem B6d(w:World):(∃s,AfterRun (opening pg) w s)/\∀s,AfterRun (opening pg) w s->∃s₀,fenceModules? pg s=some s₀/\s₀.gens= #[]/\∃s₁,TopRan pg w s₀ s₁/\s₁.heap=HF w.params/\s₁.gens= #[]/\s₁.asleep:=by
 have h:=boot_open (p:=pg) (N:=600) D8c rfl C82 w;rw[<-table_eq_tree] at h;obtain⟨⟨h0,g0,d0,t0,os⟩,h1,e⟩:=Z3i.mp h;simp only[Prod.mk.injEq] at e;obtain⟨rfl,rfl,rfl,rfl⟩:=e;obtain⟨s,h2,h3⟩:=Option.bind_eq_some_iff.mp h1;have Af:=AfterImport.of_importEnds h2;refine⟨⟨s,Af⟩,λs' hs'=>?_⟩;obtain rfl:s'=s:=AfterImport.unique hs' Af;obtain⟨n,t,hn⟩:=D29 (w:=w) (os:=os);rw[<-table_eq_tree] at hn;have z:=Shared.asleep_of_life (fence_lifeW h3) Af.life;obtain⟨a,l,o,fr⟩:=topRun_spec n _ _ _ z hn;have x:=B0r w.params;rw[Bool.and_eq_true,Bool.and_eq_true,Bool.and_eq_true,Bool.and_eq_true,Bool.and_eq_true,Bool.and_eq_true] at x;obtain⟨⟨⟨⟨⟨⟨x1,x2⟩,x3⟩,x4⟩,x5⟩,x6⟩,x7⟩:=x;obtain⟨b1,b2,b3⟩:=C2f w.params;obtain⟨bm,ob,y1,_,y2,y3,y4,_⟩:=Heap.bmainOk_spec x7
 exact⟨_,h3,rfl,_,⟨a,l,Shared.rest_eq o,λb o' hb nt=>fr b o' (b3▸Z0i hb) (λq=>nt (.inl q)) (λq=>nt (.inr (.inl q))) (λq=>nt (.inr (.inr ((Pin.globalOf_eq b1 _).trans (b2.trans q))))) hb,
  Heap.accountedI_of_ok x4,statics_of_ok x1,Pin.keysAreStrs_of x5,λk hk=>(Pin.builtinOf_eq x6 k).trans (Heap.of_bltView x6 (C83 w.params) k hk),⟨bm,ob,(Pin.globalOf_eq x5 _).trans y1,y2,y3,y4⟩,
  (λg h=>by simp at h),names_of_bound x2,laid_of_kept x3⟩,rfl,rfl,Shared.asleep_of_life l z⟩
noncomputable abbrev rw0:OpenLaw:=PySem.Challenge.rw_nt0148_01
abbrev rr:RowW:=rw0.row.toRowW
theorem D2x(hb:rr.prog.bare)(hw:rr.promised)(hopen:opensWell rr.prog=true)(hfree:frees rr=true)
 (pin:∀w:World,isTheDefsW pg (HF w.params) (Str.ofString "law"))
 (call:∀(w:World) (s s₁:Shared),s.heap=HF w.params->(∀b o,s.heap.get? b=some o->s₁.heap.get? b=some o)->∀(args:List WData) (vs:List Value) (as:List Addr),rr.claim.pre args=true->WData.layableAll args=true->s₁.gens= #[]->
  ReadsAllW rr.records (classAt s.heap) s₁.heap vs args as->(∀a∈as,s.heap.objs.size<=a)->WellAll w.params s₁.heap vs args->∃f mg,s₁.heap.Ns mainGlobals mg/\mg (Str.ofString "law")=some f/\
   wpAny (model pg w) callerA (PySem.call f vs) (λv s'=>GoodW rr.claim (classAt s.heap) (ExcName.means s.heap) args s₁ (.ok (.ret v)) s') (λe s'=>GoodW rr.claim (classAt s.heap) (ExcName.means s.heap) args s₁ (.error e) s') s₁) :
 rr.claim.HoldsOpenBy (callStub (Str.ofString "law")) [Str.ofString "law"] rw0.row.keeps false:=by
 refine A5t (frees_parts hfree) λhsame hu ha hap hm=>?_
 refine O2 ⟨hb,hopen,rfl⟩ hw.witness (λw=>⟨(B6d w).1,λs' hs'=>?_⟩)
 obtain⟨s₀,hf,hg0,s,hT,B,hgens,hz⟩:=(B6d w).2 s' hs'
 refine⟨s₀,hf,hg0,s,hT,λn hn=>?_,λx hx=>(nomatch hx),λx hx=>(nomatch hx),?_⟩
 . obtain rfl:n=Str.ofString "law" :=by simpa using hn
   rw[B];exact pin w
 refine ClaimW.callFrom_of_specN (c:=rr.claim) (tree:=λvs=>do match<-nsGet mainNs "law" with
  |some f=>do ret (<-PySem.call f vs)
  |none=>unsupported "claim.caller:no-such-global") hz (by rw[hgens];simp[leftWithCleanup]) λargs hpre hlay ord hord=>?_
 obtain⟨⟨vs,s₁⟩,hlaid⟩:=Z3y.mp (layAllW_isSome (P:=w.params) (ord:=ord) (R:=rr.records) (cl:=classAt s.heap) (λc hc=>(nomatch hc)) args rr.args s (pre_splitW hpre).1)
 haveI keeps:=layAllW_keeps _ _ _ hlaid
 haveI hal:=layAllW_rest _ _ _ hlaid
 refine D6 (reads_layAllW hord _ _ _ hlaid hlay s₁.heap (λJ J e=>e)) λas hrd hin hold=>?_
 refine F8 (call w s {s₁ with gens:=#[]} B keeps args vs as hpre hlay rfl hrd (λa ha=>(hin.2.2 a ha).1) (well_layAllW hord args s _ hlaid _ λJ J e=>e)) λf mg hg hmf h=>?_
 haveI hi:=ident_freeW hu ha hap
 haveI hwi:rr.claim.within= []:=rfl
 refine L7 vs s₁ hlaid (Z0d (wpAny_nsGet hg ?_))
 refine re hmf ?_
 refine Z0d (Z1c h (λv s' g=>Z0f ?_) λe s' g=>?_)
 . exact A6 _ rfl (have z:=g.endsN (c:=rr.claim) hsame hwi hi hrd hold hal.2.2.1;⟨z.1,z.2.1,z.2.2,λq=>(nomatch q)⟩)
 . exact have z:=g.endsN (c:=rr.claim) hsame hwi hi hrd hold hal.2.2.1;⟨z.1,z.2.1,z.2.2,λq=>(nomatch q)⟩
theorem D51:rr.prog.bare:=⟨rfl,rfl,rfl,rfl,rfl,by decide +kernel⟩
theorem C8e:opensWell rr.prog=true:=by decide +kernel
theorem C0t:frees rr=true:=by decide +kernel
theorem B01:rr.promised:=⟨[.list []],by decide +kernel,by decide +kernel⟩
noncomputable abbrev p0:=PySem.Challenge.pw_nt0148_01
theorem A0b{a b:Bool}(x:a=true)(y:b=true):(a&&b)=true:=by rw[x,y];rfl
theorem C9a:sreFenced p0.main=true:=by kernel_rfl
theorem D45:((moduleNames p0.main.body).isEmpty||lookedIntoSs (moduleNames p0.main.body) p0.main.body)=true:=by kernel_rfl
theorem C43:namesResolve p0=true:=by kernel_rfl
theorem D3l:p0.boundNames.all (λn=> !worldNames.contains n)=true:=by kernel_rfl
theorem C36:(!(importedModules p0.main.body).all cThrough.contains)=false:=by kernel_rfl
theorem D7n:(["vars", "dir", "locals"]:List Str).filter (readsOut p0 p0.main.body)= []:=by kernel_rfl
theorem C69:noRoadLSs {strict:=false,foot:=none,bare:= []} p0.main.body=true:=by kernel_rfl
theorem C22:noRoadLSs {strict:= !(importedModules p0.main.body).all cThrough.contains,foot:=none,bare:=(["vars", "dir", "locals"]:List Str).filter (readsOut p0 p0.main.body)} p0.main.body=true:=by
 rw[C36,D7n];exact C69
theorem D5z:(namesMeet p0 p0.main.body λJ n=>attrL n)=true:=by kernel_rfl
theorem D7a:looksOpen p0=true:=A0b (A0b (A0b (A0b (A0b C9a D45) C43) D3l) C22) D5z
theorem C54:(rw0.row.loose.isEmpty&&rw0.row.makers.isEmpty &&
 (rw0.row.records.isEmpty||rw0.row.raises.all λct=>ct.1 != .builtin "AttributeError" && ct.1 != .builtin "TypeError") &&
 (rw0.row.raises.all λct=>match ct.1 with | .builtin n=> !rw0.row.prog.boundNames.contains (Str.ofString n)&&!ofTheWorld.contains n | .own _=>true) &&
 decide (rw0.row.records.map (·.1)).Nodup&&(rw0.row.records.all λx=> !x.1.opensWith "__" && !builtinNamed x.1&&rw0.row.prog.boundNames.contains x.1&&x.2.all λf=> !f.1.opensWith "__") &&
 rw0.row.toRowW.solid&&rw0.row.pre.litsOk&&rw0.row.post.litsOk&&rw0.row.raises.all (·.2.litsOk) &&
 rw0.row.mutates.all (λi=>match rw0.row.args[i]? with
  |some sh=> !sh.arms.any WShape.isObj
  |none=>false) &&
 rw0.row.within.all (λi=>decide (i<rw0.row.args.length))&&rw0.row.same.all (λi=>decide (i<rw0.row.args.length)))=true:=by kernel_rfl
theorem B9v:rw0.row.partSaid=true:=by
 have c:=C54;simp only[Bool.and_eq_true] at c;unfold OpenRow.partSaid;simp only[Bool.and_eq_true];obtain⟨⟨⟨⟨⟨⟨⟨⟨⟨⟨⟨⟨x1,x2⟩,x3⟩,x4⟩,x5⟩,x6⟩,x7⟩,x8⟩,x9⟩,x10⟩,x11⟩,x12⟩,x13⟩:=c;exact⟨⟨⟨⟨⟨⟨⟨⟨⟨⟨⟨⟨⟨D7a,x1⟩,x2⟩,x3⟩,x4⟩,x5⟩,x6⟩,x7⟩,x8⟩,x9⟩,x10⟩,x11⟩,x12⟩,x13⟩
theorem C3w:(rw0.row.prog.boundNames.contains rw0.row.name)=true:=by kernel_rfl
theorem C4j:(!startupNames.contains rw0.row.name)=true:=by kernel_rfl
theorem B7b:rw0.row.wellSaid=true:=A0b (A0b B9v C3w) C4j
theorem C9t:decide (rw0.foot<=(behindTheImports rw0.prog).length)=true:=by kernel_rfl
theorem C0w:rw0.footing.all footLine=true:=by kernel_rfl
theorem D69:noClassBlock rw0.prog rw0.footing=true:=by kernel_rfl
theorem C05:rw0.most.all (λn=>decide (63<=n))=true:=by kernel_rfl
theorem D1c:rw0.bound.all (λn=>decide (2 ^ 63<=n))=true:=by kernel_rfl
theorem D50:noRoadLSs {strict:=true,foot:=some rw0.bound',writes:=rw0.writes,may:=rw0.may} rw0.footing=true:=by kernel_rfl
theorem D6o:defStands rw0.about rw0.above=true:=by kernel_rfl
theorem C27:rw0.namesIt=true:=by kernel_rfl
theorem D6x:(["type", "isinstance", "issubclass", "getattr", "hasattr"]:List Str).all (λn=>rw0.about != [n])=true:=by kernel_rfl
theorem C7n:rw0.bound'.all (λn=> !builtinNamed n||rw0.about == [n]||!rw0.reads n)=true:=by kernel_rfl
theorem D1i:(!rw0.writes||(rw0.prog.main.body.flatMap importedNames).all λn=> !rw0.reads n)=true:=by kernel_rfl
theorem B8p:((rw0.prog.main.body.flatMap importedNames).all (λn=> !rw0.reads n||(drawsOf n rw0.prog.main.body).all λmn=>mn.2 !=("attrgetter" :Str)&&mn.2 !=("methodcaller" :Str)))=true:=by kernel_rfl
theorem D5s:namesMeet rw0.prog rw0.footing (λsc n=>(!(["type", "isinstance", "issubclass", "getattr", "hasattr"]:List Str).contains n||sc.names.lookup n==some .globalImplicit) &&
 (rw0.may !=some n||sc.kind == .module||sc.names.lookup n==some .globalImplicit))=true:=by kernel_rfl
theorem D3d:rw0.own.contains rw0.name=true:=by kernel_rfl
theorem B8v:(rw0.own.eraseDups.length==rw0.own.length)=true:=by kernel_rfl
theorem B9x:rw0.own.all (λn=> !builtinNamed n)=true:=by kernel_rfl
theorem C4m:namesMeet rw0.prog rw0.above (λJ n=> !rw0.own.contains n)=true:=by kernel_rfl
theorem C3e:(namesMeet rw0.prog rw0.footing λsc n=>sc.kind == .module||sc.names.lookup n !=some .globalExplicit)=true:=by kernel_rfl
theorem B86:rw0.wellSaid=true:=by
 unfold OpenLaw.wellSaid;simp only[Bool.and_eq_true];exact⟨⟨⟨⟨⟨⟨⟨⟨⟨⟨⟨⟨⟨⟨⟨⟨⟨⟨B7b,C9t⟩,C0w⟩,D69⟩,C05⟩,D1c⟩,D50⟩,D6o⟩,C27⟩,D6x⟩,C7n⟩,D1i⟩,B8p⟩,D5s⟩,D3d⟩,B8v⟩,B9x⟩,C4m⟩,C3e⟩
theorem C04(H:rr.claim.HoldsOpenBy (callStub (Str.ofString "law")) [Str.ofString "law"] rw0.row.keeps false):PySem.Challenge.rw_nt0148_01.Holds:=
 ⟨B86,B7b,B01,H⟩
end Mine
namespace MineE
open PySem PySem.W PySem.Calls PyProof.Rows PySem.Builtin PySem.Builtin.ObjectAttr Mine
abbrev Tx:=List Nat
inductive V where
 |none | bool (b:Bool) | int (i:Int) | lin (g k:Nat) | pl (g j:Nat) | tlen (g m:Nat)
 |str (s:Tx) | txt (g:Nat) (s:Tx) (o:Bool) | anyS | bytes (b:List Nat)
 |glob (n:Nat) | bi (n:Nat) | ref (i:Nat) | wd (i j:Nat) | wl (i k:Nat)
deriving Inhabited
inductive Bop | add | sub | mul | pow | mod
deriving Inhabited
inductive Cp | eq | ne | lt | le | gt | ge | is | isnot | inn | notin
deriving Inhabited
inductive X where
 |nil | cons (a r:X)
 |const (v:V) | loc (x:Nat)
 |and (a r:X) | or (a r:X) | not (a:X) | neg (a:X)
 |bin (op:Bop) (a b:X) | ite (t a b:X)
 |cmp (a:X) (op:Cp) (b:X) | chain (a:X) (op:Cp) (b:X) (op2:Cp) (c:X)
 |meth (o:X) (name:Nat) (args:X) | call (f:X) (args:X) | attr (o:X) (name:Nat)
 |sub (o i:X) | slc (o lo hi:X)
 |list (xs:X) | tuple (xs:X) | dget (es:List (V × V)) (k d:X) | fold (a:X)
 |bad
deriving Inhabited
inductive S where
 |nil
 |assign (x:Nat) (e:X) (q:S) | assignT (xs:List Nat) (e:X) (q:S) | swap (xs:List Nat) (e:X) (q:S) | setattr (o:X) (name:Nat) (e:X) (q:S)
 |expr (e:X) (q:S) | ret (e:X) | ite (t:X) (b o:S) (q:S) | whl (t:X) (b:S) (q:S) | forr (x:Nat) (it:X) (b:S) (q:S)
 |raise (m p:X) | pass (q:S) | bad
deriving Inhabited
inductive Tri(α:Type) where
 |leaf | node (l:Tri α) (v:Option α) (r:Tri α)
deriving Inhabited
inductive Wt where
 |leaf | node (fs:List (Nat × V)) (nx alt:Wt)
deriving Inhabited
inductive O where
 |list (xs:List V) | tuple (xs:List V) | inst (c:Nat) (fs:List (Nat × V)) | log (xs:List V) | ghost (t:Wt) | pool | dict (es:List (V × V)) | lz (c:Nat) (ws:List (List (Nat × V))) (t:Wt)
deriving Inhabited
noncomputable def S.q(s:S):S:=S.casesOn (motive:=λJ=>S) s .bad (λJ J q=>q) (λJ J q=>q) (λJ J q=>q) (λJ J J q=>q) (λJ q=>q) (λJ=> .bad) (λJ J J q=>q) (λJ J q=>q) (λJ J J q=>q) (λJ J=> .bad) (λq=>q) .bad
noncomputable def S.x(s:S):X:=S.casesOn (motive:=λJ=>X) s .bad (λJ e J=>e) (λJ e J=>e) (λJ e J=>e) (λJ J e J=>e) (λe J=>e) (λe=>e) (λt J J J=>t) (λt J J=>t) (λJ e J J=>e) (λm J=>m) (λJ=> .bad) .bad
noncomputable def S.b(s:S):S:=S.casesOn (motive:=λJ=>S) s .bad (λJ J J=> .bad) (λJ J J=> .bad) (λJ J J=> .bad) (λJ J J J=> .bad) (λJ J=> .bad) (λJ=> .bad) (λJ b J J=>b) (λJ b J=>b) (λJ J b J=>b) (λJ J=> .bad) (λJ=> .bad) .bad
structure Fn where
 params:List Nat
 dflt:List V
 body:S
deriving Inhabited
structure Cl where
 mro:List Nat
 ms:List (Nat × Fn)
deriving Inhabited
structure Tabs where
 fns:Tri Fn
 cls:Tri Cl
 tps:Tri O
deriving Inhabited
noncomputable def bB{β:Type}(b:Bool)(t f:β):β:=Bool.rec (motive:=λJ=>β) f t b
noncomputable def teq(a:Tx):Tx->Bool:=
 List.rec (motive:=λJ=>Tx->Bool) (λl=>List.rec (motive:=λJ=>Bool) true (λJ J J=>false) l)
  (λa J ih l=>List.rec (motive:=λJ=>Bool) false (λb q J=>Bool.rec (motive:=λJ=>Bool) false (ih q) (Nat.beq a b)) l) a
def E0(a b:Str):Bool:=teq a.cps.toList b.cps.toList
noncomputable def B9(n:Str)(l:List Str):Nat->Option Nat:=List.rec (motive:=λJ=>Nat->Option Nat) (λJ=>none) (λa J ih i=>bB (E0 a n) (some i) (ih (i+1))) l
noncomputable def B3(n:Str)(l:List (Str × NameKind)):Nat->Option (Nat × NameKind):=List.rec (motive:=λJ=>Nat->Option (Nat × NameKind)) (λJ=>none) (λp J ih i=>bB (E0 p.1 n) (some (i,p.2)) (ih (i+1))) l
structure CC where
 attrs:List Str
 glob:List (Str × V)
noncomputable def lkS(n:Str)(l:List (Str × V)):Option V:=List.rec (motive:=λJ=>Option V) none (λp J ih=>bB (E0 p.1 n) (some p.2) ih) l
noncomputable def X5:Const->Option V
 | .none=>some .none | .bool b=>some (.bool b) | .int i=>some (.int i) | .str s=>some (.str s.cps.toList)
 | .bytes b=>some (.bytes (b.map (·.toNat)))
 |_=>none
noncomputable def cOp:Operator->Option Bop
 | .Add=>some .add | .Sub=>some .sub | .Mult=>some .mul | .Pow=>some .pow | .Mod=>some .mod | _=>none
noncomputable def cCp:CmpOp->Cp
 | .Eq=> .eq | .NotEq=> .ne | .Lt=> .lt | .LtE=> .le | .Gt=> .gt | .GtE=> .ge | .Is=> .is | .IsNot=> .isnot | .In=> .inn | .NotIn=> .notin
noncomputable def isSetE(e:Expr):Bool:=Nat.beq e.ctorIdx 7
noncomputable def xl:List (Option X)->Option X
 | []=>some .nil
 |a :: r=>a.bind λa=>(xl r).map λq=> .cons a q
noncomputable def Q3(f:X->X->X):List (Option X)->Option X
 | []=>none
 |a :: r=>if r.isEmpty then a else a.bind λa=>(Q3 f r).bind λq=>some (f a q)
abbrev Ns:=List (Str × NameKind)
def A1d(c:CC)(ns:Ns)(x:Str):Option X:=(B3 x ns 0).bind λq=>if q.2 == .local then some (.loc q.1) else if q.2 == .globalImplicit then (lkS x c.glob).map .const else none
theorem A8u{c:CC}{ns:Ns}{x:Str}{y:X}(h:A1d c ns x=some y):(∃i,B3 x ns 0=some (i, .local)/\ .loc i=y)\/∃i v,B3 x ns 0=some (i, .globalImplicit)/\lkS x c.glob=some v/\ .const v=y:=by
 obtain⟨⟨i,k⟩,e,h⟩:=bi h;by_cases z:(k==NameKind.local)=true
 . rw[Z0p z] at h;exact .inl ⟨i,e.trans (congrArg (λk=>some (i,k)) (eq_of_beq z)),Z0a h⟩
 . rw[Z0m z] at h;obtain⟨z,h⟩:=ift h;obtain⟨v,e2,h⟩:=mi h;exact .inr ⟨i,v,e.trans (congrArg (λk=>some (i,k)) (eq_of_beq z)),e2,h⟩
noncomputable def x1(f:X->X)(a:Option X):Option X:=a.map f
noncomputable def x2(f:X->X->X)(a b:Option X):Option X:=a.bind λa=>b.bind λb=>some (f a b)
noncomputable def x3(f:X->X->X->X)(a b c:Option X):Option X:=a.bind λa=>b.bind λb=>c.bind λc=>some (f a b c)
noncomputable def isSuper(e:Expr):Bool:=(A4h e λf as ks J=>I8 f λJ J=>if as.isEmpty&&ks.isEmpty then some () else none).isSome
noncomputable def B7(e:Expr):Bool:=Nat.beq e.ctorIdx 22
noncomputable def cvs:List (Str × Const)->Option (List (V × V))
 | []=>some []
 |(x,k) :: r=>(X5 k).bind λv=>(cvs r).map λl=>(.str x.cps.toList,v) :: l
noncomputable def K8:List Str->Bool
 | []=>true
 |x :: r=>(B9 x r 0).isNone&&K8 r
def A3j(ks:List (Option Expr))(vs:List Expr):Option (List (V × V)):=(A94 ks vs).bind λr=>if decide (r.1.length<17)&&!r.1.isEmpty&&K8 (r.2.map (·.1)) then cvs r.2 else none
noncomputable def A8b:Str:=Str.ofString "get"
def B3q(k:Const):Option X:=(X5 k).bind λv=>some (.const v)
noncomputable def C78:BoolOp->X->X->X | .And=> .and | .Or=> .or
def cUn(op:UnaryOp)(a:Option X):Option X:=match op with | .Not=>x1 .not a | .USub=>x1 .neg a | _=>none
def B0i(op:Operator)(a b:Option X):Option X:=(cOp op).bind λo=>x2 (.bin o) a b
def B7t(g:Expr->Option X)(a:Expr)(ops:List CmpOp)(bs:List Expr):Option X:=
 (on1 ops λop=>on1 bs λb=>if isSetE b then none else x2 (λa b=> .cmp a (cCp op) b) (g a) (g b)).or
 (on2 ops λop op2=>on2 bs λb d=>if isSetE b||isSetE d then none else x3 (λa b d=> .chain a (cCp op) b (cCp op2) d) (g a) (g b) (g d))
def C45(g:Expr->Option X)(ks:List (Option Expr))(vs:List Expr)(n:Str)(ap:Pos)(as:List Expr)(pos:Pos):Option X:=on2 as λx d=>
 if E0 n A8b&&!B7 x&&!B7 d&&(ap.endLine==pos.line) then (A3j ks vs).bind λes=>x2 (.dget es) (g x) (g d) else none
noncomputable def A1q(x:Str)(e:Expr):Bool:=(I8 e λy J=>if E0 y x then some () else none).isSome
noncomputable def A7c(x:Str)(e:Expr):Bool:=((A0d e).bind λy=>if E0 y x then some () else none).isSome
noncomputable def B3i(x:Str)(t:Expr):Bool:=(B72 t λl os rs J=>on2 rs λy z=>if decide (os= [.LtE, .LtE])&&A7c (Str.ofString "a") l&&(A1q x y&&A7c (Str.ofString "z") z) then some () else none).isSome
noncomputable def B15(x:Str)(b:Expr):Bool:=(A4h b λg es ks cpos=>A2a g λy up apos=>if (es.isEmpty&&ks.isEmpty)&&A1q x y&&(E0 up (Str.ofString "upper")&&(apos.endLine==cpos.line)) then some () else none).isSome
def A3q(x:Str)(e:Expr):Bool:=(B7m e λt b o J=>if B3i x t&&(B15 x b&&A1q x o) then some () else none).isSome
def A4j(x:Str)(sc:Scope):Bool:=(sc.kind == .function)&&sc.names.all (λp=>p.2 == .local)&&K8 (sc.names.map (·.1))&&(B9 x (sc.names.map (·.1)) 0).isSome&&!E0 x (Str.ofString "__debug__")
def B1r(g:Expr->Option X)(o:Expr)(n:Str)(ap:Pos)(as:List Expr)(pos:Pos):Option X:=(A0d o).bind λz=>on1 as λa=>A8v a λelt gs sc J=>on1 gs λq=>I8 q.target λx J=>
 if (q.ifs.isEmpty&&decide (q.is_async=0))&&(E0 z Str.empty&&E0 n (Str.ofString "join")&&A3q x elt&&A4j x sc&&!isSetE q.iter&&(ap.endLine==pos.line)) then x1 .fold (g q.iter) else none
def B5f(c:CC)(g:Expr->Option X)(o:Expr)(n:Str)(ap:Pos)(as:List Expr)(pos:Pos):Option X:=
 if as.any B7||isSuper o||decide (25<as.length)||!(ap.endLine==pos.line) then none else (B9 n c.attrs 0).bind λi=>x2 (λo as=> .meth o i as) (g o) (xl (as.map g))
def D4k(g:Expr->Option X)(x:Str)(p:Pos)(as:List Expr):Option X:=if as.any B7||decide (25<as.length) then none else x2 .call (g (.Name x p)) (xl (as.map g))
def B0u(c:CC)(g:Expr->Option X)(fn:Expr)(as:List Expr)(kws:List Keyword)(pos:Pos):Option X:=if kws.isEmpty then
 (A2a fn λo n ap=>(A9k o λks vs J=>C45 g ks vs n ap as pos).or ((B1r g o n ap as pos).or (B5f c g o n ap as pos))).or (I8 fn λx p=>D4k g x p as) else none
def B05(c:CC)(g:Expr->Option X)(o:Expr)(n:Str):Option X:=if isSuper o then none else (B9 n c.attrs 0).bind λi=>if i==12 then none else x1 (λo=> .attr o i) (g o)
noncomputable def Y9(g:Expr->Option X)(x:Option Expr):Option X:=match x with | some x=>g x | none=>some (.const .none)
def B4i(g:Expr->Option X)(o i:Expr):Option X:=(B04 i λlo hi st J=>if st.isNone then x3 .slc (g o) (Y9 g lo) (Y9 g hi) else none).or (x2 .sub (g o) (g i))
noncomputable def cE(c:CC)(ns:Ns):Nat->Expr->Option X
 | 0,_=>none
 |f+1,e=>match e with
  | .Constant k _ _=>B3q k
  | .Name x _=>A1d c ns x
  | .BoolOp op vs _=>Q3 (C78 op) (vs.map (cE c ns f))
  | .UnaryOp op a _=>cUn op (cE c ns f a)
  | .BinOp a op b _=>B0i op (cE c ns f a) (cE c ns f b)
  | .IfExp t a b _=>x3 .ite (cE c ns f t) (cE c ns f a) (cE c ns f b)
  | .Compare a ops bs _=>B7t (cE c ns f) a ops bs
  | .Call fn as kws pos=>B0u c (cE c ns f) fn as kws pos
  | .Attribute o n _=>B05 c (cE c ns f) o n
  | .Subscript o i _=>B4i (cE c ns f) o i
  | .List xs _=>if xs.any B7 then none else x1 .list (xl (xs.map (cE c ns f)))
  | .Tuple xs _ _=>if xs.any B7 then none else x1 .tuple (xl (xs.map (cE c ns f)))
  |_=>none
def A49(ns:Ns)(e:Expr):Option Nat:=I8 e λx J=>(B3 x ns 0).bind λq=>if q.2 == .local then some q.1 else none
theorem A84{ns:Ns}{e:Expr}{i:Nat}(h:A49 ns e=some i):∃x p,e= .Name x p/\B3 x ns 0=some (i, .local):=A0u h λx p h=>by
 obtain⟨q,e,h⟩:=bi h;obtain⟨z,rfl⟩:=ifs h;exact⟨x,p,rfl,by rw[e,<-eq_of_beq z]⟩
noncomputable def X7(ns:Ns):List Expr->Option (List Nat)
 | []=>some []
 |e :: r=>(A49 ns e).bind λi=>(X7 ns r).bind λl=>some (i :: l)
noncomputable def s1(f:X->S->S)(a:Option X)(q:Option S):Option S:=a.bind λa=>q.bind λq=>some (f a q)
noncomputable def s2(f:X->X->S->S)(a b:Option X)(q:Option S):Option S:=a.bind λa=>b.bind λb=>q.bind λq=>some (f a b q)
noncomputable def DF:Nat:=40
noncomputable def B7h(e:Expr):Bool:=Nat.beq e.ctorIdx 25
noncomputable def G5(e:Expr):Bool:=Nat.ble 8 e.ctorIdx&&Nat.ble e.ctorIdx 10
noncomputable def Z2(e:Expr):Bool:=(A4i e λvs J J=>if vs.all (constantsAlone 8) then some () else none).isSome
noncomputable def Z9:List Nat->Bool | []=>true | a :: r=> !(r.contains a)&&Z9 r
def A5u(ns:Ns)(x:Str):Bool:=((B3 x ns 0).bind λq=>if q.2 == .globalImplicit then some () else none).isSome
theorem D3w{ns:Ns}{x:Str}(h:A5u ns x=true):∃i,B3 x ns 0=some (i, .globalImplicit):=by
 obtain⟨⟨i,k⟩,e,h⟩:=bi (iss h);exact⟨i,e.trans (congrArg (λk=>some (i,k)) (eq_of_beq (ifs h).1))⟩
noncomputable def J0:Str:=Str.ofString "ParseError"
def D15(c:CC)(ns:Ns)(t e:Expr)(q:Option S):Option S:=
 (I8 t λx p=>(A49 ns (.Name x p)).bind λi=>s1 (.assign i) (cE c ns DF e) q).or
 ((A4i t λxs J J=>if Z2 e then none else (X7 ns xs).bind λl=>if Z9 l then s1 (if B7h e then .swap l else .assignT l) (cE c ns DF e) q else none).or
 (A2a t λo n J=>(B9 n c.attrs 0).bind λi=>if i==12 then none else s2 (λo e q=> .setattr o i e q) (cE c ns DF o) (cE c ns DF e) q))
def C8g(c:CC)(ns:Ns)(ts:List Expr)(e:Expr)(q:Option S):Option S:=on1 ts λt=>if G5 e then none else D15 c ns t e q
def C21(c:CC)(ns:Ns)(v:Option Expr):Option S:=match v with
 |some e=>(cE c ns DF e).bind λx=>some (.ret x)
 |none=>some (.ret (.const .none))
noncomputable def cIf(t:Option X)(b o q:Option S):Option S:=t.bind λt=>b.bind λb=>o.bind λo=>q.bind λq=>some (.ite t b o q)
noncomputable def D4t(o:List Stmt)(t:Option X)(b q:Option S):Option S:=if o.isEmpty then t.bind λt=>b.bind λb=>q.bind λq=>some (.whl t b q) else none
def D11(ns:Ns)(tg:Expr)(o:List Stmt)(it:Option X)(b q:Option S):Option S:=if o.isEmpty then (A49 ns tg).bind λi=>it.bind λit=>b.bind λb=>q.bind λq=>some (.forr i it b q) else none
def C0s(c:CC)(ns:Ns)(ex ca:Option Expr):Option S:=match ca with
 |none=>ex.bind λe=>A4h e λg es ks J=>I8 g λx J=>on2 es λm p=>
  if ks.isEmpty&&(((E0 x J0&&A5u ns x)&&!B7 m)&&!B7 p) then (cE c ns DF m).bind λm=>(cE c ns DF p).bind λp=>some (.raise m p) else none
 |some _=>none
noncomputable def cSs(c:CC)(ns:Ns):Nat->List Stmt->Option S
 | 0,_=>none
 |f+1,s=>match s with
  | []=>some .nil
  |a :: r=>match a with
   | .Assign ts e _=>C8g c ns ts e (cSs c ns f r)
   | .Expr e _=>if G5 e then none else s1 .expr (cE c ns DF e) (cSs c ns f r)
   | .Return v _=>C21 c ns v
   | .If t b o _=>cIf (cE c ns DF t) (cSs c ns f b) (cSs c ns f o) (cSs c ns f r)
   | .While t b o _=>D4t o (cE c ns DF t) (cSs c ns f b) (cSs c ns f r)
   | .For tg it b o _=>D11 ns tg o (cE c ns DF it) (cSs c ns f b) (cSs c ns f r)
   | .Raise ex ca _=>C0s c ns ex ca
   | .Pass _=>(cSs c ns f r).bind λq=>some (.pass q)
   |_=>none
theorem pkl{env:Env}{sc:Scope}(hs:env.scope=sc)(x:Str)(i:Nat)(h:B3 x sc.names 0=some (i, .local):=by kernel_rfl):B3 x env.scope.names 0=some (i, .local):=hs▸h
theorem pkg{env:Env}{sc:Scope}(hs:env.scope=sc)(x:Str)(i:Nat)(h:B3 x sc.names 0=some (i, .globalImplicit):=by kernel_rfl):B3 x env.scope.names 0=some (i, .globalImplicit):=hs▸h
theorem gk{env:Env}{sc:Scope}(hs:env.scope=sc){i:Nat}{q:Str × NameKind}(h:sc.names[i]?=some q:=by kernel_rfl):env.scope.names[i]?=some q:=hs▸h
section
noncomputable def BtG{α:Type}(t:Tri α):Nat->Option α:=
 Tri.rec (motive:=λJ=>Nat->Option α) (λJ=>none) (λJ v J gl gr k=>Bool.rec (motive:=λJ=>Option α) (Bool.rec (motive:=λJ=>Option α) (gr (Nat.div k 2)) (gl (Nat.div k 2)) (Nat.beq (Nat.mod k 2) 0)) v (Nat.beq k 1)) t
noncomputable def V4{α:Type}(o:α)(f:Nat):Nat->Tri α:=Nat.rec (motive:=λJ=>Nat->Tri α) (λJ=> .leaf) (λJ ih k=>Bool.rec (motive:=λJ=>Tri α) (Bool.rec (motive:=λJ=>Tri α) (.node .leaf none (ih (Nat.div k 2))) (.node (ih (Nat.div k 2)) none .leaf) (Nat.beq (Nat.mod k 2) 0)) (.node .leaf (some o) .leaf) (Nat.beq k 1)) f
def BtS{α:Type}(t:Tri α)(k:Nat)(o:α):Tri α:=
 Tri.rec (motive:=λJ=>Nat->Tri α) (V4 o 40) (λl v r gl gr k=>Bool.rec (motive:=λJ=>Tri α) (Bool.rec (motive:=λJ=>Tri α) (.node l v (gr (Nat.div k 2))) (.node (gl (Nat.div k 2)) v r) (Nat.beq (Nat.mod k 2) 0)) (.node l (some o) r) (Nat.beq k 1)) t k
noncomputable def lkG{α:Type}(n:Nat)(l:List (Nat × α)):Option α:=
 List.rec (motive:=λJ=>Option α) none (λp J ih=>Bool.rec (motive:=λJ=>Option α) ih (some p.2) (Nat.beq p.1 n)) l
noncomputable def I7{α:Type}(n:Nat)(v:α)(l:List (Nat × α)):List (Nat × α):=
 List.rec (motive:=λJ=>List (Nat × α)) [(n,v)] (λp r ih=>Bool.rec (motive:=λJ=>List (Nat × α)) (p :: ih) ((n,v) :: r) (Nat.beq p.1 n)) l
noncomputable def ieq(a b:Int):Bool:=Int.rec (motive:=λJ=>Bool) (λa=>Int.rec (motive:=λJ=>Bool) (λb=>Nat.beq a b) (λJ=>false) b) (λa=>Int.rec (motive:=λJ=>Bool) (λJ=>false) (λb=>Nat.beq a b) b) a
noncomputable def ile(a b:Int):Bool:=Int.rec (motive:=λJ=>Bool) (λa=>Int.rec (motive:=λJ=>Bool) (λb=>Nat.ble a b) (λJ=>false) b) (λa=>Int.rec (motive:=λJ=>Bool) (λJ=>true) (λb=>Nat.ble b a) b) a
noncomputable def Q2(b:Bool):Bool:=Bool.rec (motive:=λJ=>Bool) true false b
noncomputable def nth{α:Type}(l:List α):Nat->Option α:=List.rec (motive:=λJ=>Nat->Option α) (λJ=>none) (λa J ih n=>Nat.rec (motive:=λJ=>Option α) (some a) (λm J=>ih m) n) l
noncomputable def len{α:Type}(l:List α):Nat:=List.rec (motive:=λJ=>Nat) 0 (λJ J ih=>Nat.succ ih) l
noncomputable def M3(d:Nat)(l:List Nat):Bool:=List.rec (motive:=λJ=>Bool) false (λa J ih=>Bool.rec (motive:=λJ=>Bool) ih true (Nat.beq a d)) l
noncomputable def oB{α:Type}{β:Type}(o:Option α)(n:β)(f:α->β):β:=Option.rec (motive:=λJ=>β) n f o
noncomputable def drp{α:Type}(l:List α):Nat->List α:=List.rec (motive:=λJ=>Nat->List α) (λJ=> []) (λa r ih n=>Nat.rec (motive:=λJ=>List α) (a :: r) (λm J=>ih m) n) l
noncomputable def tke{α:Type}(l:List α):Nat->List α:=List.rec (motive:=λJ=>Nat->List α) (λJ=> []) (λa r ih n=>Nat.rec (motive:=λJ=>List α) [] (λm J=>a :: ih m) n) l
noncomputable def pre(q:Tx):Tx->Bool:=List.rec (motive:=λJ=>Tx->Bool) (λJ=>true) (λa J ih l=>List.rec (motive:=λJ=>Bool) false (λb r J=>Bool.rec (motive:=λJ=>Bool) false (ih r) (Nat.beq a b)) l) q
def A0x(q:Tx)(l:Tx):Nat->Option Nat:=List.rec (motive:=λJ=>Nat->Option Nat) (λJ=>none) (λa r ih i=>Bool.rec (motive:=λJ=>Option Nat) (ih (Nat.succ i)) (some i) (pre q (a :: r))) l
noncomputable def B0n{α:Type}(l:List α):Option α:=List.rec (motive:=λJ=>Option α) none (λa r ih=>match r with | []=>some a | _=>ih) l
noncomputable def ap(a b:Tx):Tx:=List.rec (motive:=λJ=>Tx) b (λx J ih=>x :: ih) a
structure Hp where
 t:Tri O
 n:Nat
def Hp.get(h:Hp)(i:Nat):Option O:=BtG h.t (Nat.succ i)
def Hp.put(h:Hp)(i:Nat)(o:O):Hp:=⟨BtS h.t (Nat.succ i) o,h.n⟩
def Hp.new(h:Hp)(o:O):Hp:=⟨BtS h.t (Nat.succ h.n) o,Nat.succ h.n⟩
abbrev K:=V->Hp->Bool
abbrev Loc:=List (Nat × V)
inductive Fl | next | ret (v:V)
abbrev KS:=Fl->Loc->Hp->Bool
structure Rec where
 e:X->Loc->Hp->K->K->Bool
 es:X->Loc->Hp->(List V->Hp->Bool)->K->Bool
 t:X->Loc->Hp->(Bool->Hp->Bool)->K->Bool
 ss:S->Loc->Hp->KS->K->Bool
 w:X->S->Loc->Hp->KS->K->Bool
 fr:Nat->List V->S->Loc->Hp->KS->K->Bool
 call:Fn->List V->Hp->K->K->Bool
noncomputable def U9{β:Type}(e:V)(f:Nat->Tx->Bool->Option β):Option β:=if h:e.ctorIdx=7 then V.txt.elim (motive:=λJ=>Option β) e h f else none
@[elab_as_elim] theorem A1f{P:V->Prop}{e:V}{β:Type}{f:Nat->Tx->Bool->Option β}{y:β}(h:U9 e f=some y)(q:∀g s o,f g s o=some y->P (.txt g s o)):P e:=
 (Mine.el h).elim λz h=>V.txt.elim (motive:=λe=>∀z,V.txt.elim (motive:=λJ=>Option β) e z f=some y->P e) e z (λg s o J h=>q g s o h) z h
noncomputable def I5{β:Type}(e:V)(f:Nat->Nat->Option β):Option β:=if h:e.ctorIdx=3 then V.lin.elim (motive:=λJ=>Option β) e h f else none
@[elab_as_elim] theorem M0{P:V->Prop}{e:V}{β:Type}{f:Nat->Nat->Option β}{y:β}(h:I5 e f=some y)(q:∀g k,f g k=some y->P (.lin g k)):P e:=
 (Mine.el h).elim λz h=>V.lin.elim (motive:=λe=>∀z,V.lin.elim (motive:=λJ=>Option β) e z f=some y->P e) e z (λg k J h=>q g k h) z h
noncomputable def D7{β:Type}(e:V)(f:Int->Option β):Option β:=if h:e.ctorIdx=2 then V.int.elim (motive:=λJ=>Option β) e h f else none
@[elab_as_elim] theorem J4{P:V->Prop}{e:V}{β:Type}{f:Int->Option β}{y:β}(h:D7 e f=some y)(q:∀i,f i=some y->P (.int i)):P e:=
 (Mine.el h).elim λz h=>V.int.elim (motive:=λe=>∀z,V.int.elim (motive:=λJ=>Option β) e z f=some y->P e) e z (λi J h=>q i h) z h
noncomputable def E5{β:Type}(e:V)(f:Tx->Option β):Option β:=if h:e.ctorIdx=6 then V.str.elim (motive:=λJ=>Option β) e h f else none
@[elab_as_elim] theorem O3{P:V->Prop}{e:V}{β:Type}{f:Tx->Option β}{y:β}(h:E5 e f=some y)(q:∀s,f s=some y->P (.str s)):P e:=
 (Mine.el h).elim λz h=>V.str.elim (motive:=λe=>∀z,V.str.elim (motive:=λJ=>Option β) e z f=some y->P e) e z (λs J h=>q s h) z h
noncomputable def G0{β:Type}(e:V)(f:Nat->Option β):Option β:=if h:e.ctorIdx=12 then V.ref.elim (motive:=λJ=>Option β) e h f else none
@[elab_as_elim] theorem R3{P:V->Prop}{e:V}{β:Type}{f:Nat->Option β}{y:β}(h:G0 e f=some y)(q:∀i,f i=some y->P (.ref i)):P e:=
 (Mine.el h).elim λz h=>V.ref.elim (motive:=λe=>∀z,V.ref.elim (motive:=λJ=>Option β) e z f=some y->P e) e z (λi J h=>q i h) z h
noncomputable def V1{β:Type}(e:V)(f:Nat->Option β):Option β:=if h:e.ctorIdx=10 then V.glob.elim (motive:=λJ=>Option β) e h f else none
@[elab_as_elim] theorem W2{P:V->Prop}{e:V}{β:Type}{f:Nat->Option β}{y:β}(h:V1 e f=some y)(q:∀i,f i=some y->P (.glob i)):P e:=
 (Mine.el h).elim λz h=>V.glob.elim (motive:=λe=>∀z,V.glob.elim (motive:=λJ=>Option β) e z f=some y->P e) e z (λi J h=>q i h) z h
noncomputable def R1{β:Type}(e:O)(f:List V->Option β):Option β:=if h:e.ctorIdx=0 then O.list.elim (motive:=λJ=>Option β) e h f else none
@[elab_as_elim] theorem Q6{P:O->Prop}{e:O}{β:Type}{f:List V->Option β}{y:β}(h:R1 e f=some y)(q:∀l,f l=some y->P (.list l)):P e:=
 (Mine.el h).elim λz h=>O.list.elim (motive:=λe=>∀z,O.list.elim (motive:=λJ=>Option β) e z f=some y->P e) e z (λl J h=>q l h) z h
noncomputable def A2t{β:Type}(e:O)(f:List V->Option β):Option β:=if h:e.ctorIdx=1 then O.tuple.elim (motive:=λJ=>Option β) e h f else none
@[elab_as_elim] theorem A2e{P:O->Prop}{e:O}{β:Type}{f:List V->Option β}{y:β}(h:A2t e f=some y)(q:∀l,f l=some y->P (.tuple l)):P e:=
 (Mine.el h).elim λz h=>O.tuple.elim (motive:=λe=>∀z,O.tuple.elim (motive:=λJ=>Option β) e z f=some y->P e) e z (λl J h=>q l h) z h
noncomputable def A2i{β:Type}(e:O)(f:List (V × V)->Option β):Option β:=if h:e.ctorIdx=6 then O.dict.elim (motive:=λJ=>Option β) e h f else none
@[elab_as_elim] theorem A04{P:O->Prop}{e:O}{β:Type}{f:List (V × V)->Option β}{y:β}(h:A2i e f=some y)(q:∀l,f l=some y->P (.dict l)):P e:=
 (Mine.el h).elim λz h=>O.dict.elim (motive:=λe=>∀z,O.dict.elim (motive:=λJ=>Option β) e z f=some y->P e) e z (λl J h=>q l h) z h
noncomputable def A0s{β:Type}(e:O)(f:Nat->List (List (Nat × V))->Wt->Option β):Option β:=if h:e.ctorIdx=7 then O.lz.elim (motive:=λJ=>Option β) e h f else none
@[elab_as_elim] theorem A2v{P:O->Prop}{e:O}{β:Type}{f:Nat->List (List (Nat × V))->Wt->Option β}{y:β}(h:A0s e f=some y)(q:∀c ws t,f c ws t=some y->P (.lz c ws t)):P e:=
 (Mine.el h).elim λz h=>O.lz.elim (motive:=λe=>∀z,O.lz.elim (motive:=λJ=>Option β) e z f=some y->P e) e z (λc ws t J h=>q c ws t h) z h
noncomputable def A30{β:Type}(e:V)(f:Nat->Nat->Option β):Option β:=if h:e.ctorIdx=4 then V.pl.elim (motive:=λJ=>Option β) e h f else none
@[elab_as_elim] theorem A6b{P:V->Prop}{e:V}{β:Type}{f:Nat->Nat->Option β}{y:β}(h:A30 e f=some y)(q:∀g j,f g j=some y->P (.pl g j)):P e:=
 (Mine.el h).elim λz h=>V.pl.elim (motive:=λe=>∀z,V.pl.elim (motive:=λJ=>Option β) e z f=some y->P e) e z (λg j J h=>q g j h) z h
noncomputable def A19{β:Type}(e:V)(f:Option β):Option β:=if h:e.ctorIdx=0 then V.none.elim (motive:=λJ=>Option β) e h f else none
@[elab_as_elim] theorem A86{P:V->Prop}{e:V}{β:Type}{f:Option β}{y:β}(h:A19 e f=some y)(q:f=some y->P .none):P e:=
 (Mine.el h).elim λz h=>V.none.elim (motive:=λe=>∀z,V.none.elim (motive:=λJ=>Option β) e z f=some y->P e) e z (λJ h=>q h) z h
noncomputable def A6c{β:Type}(e:V)(f:Nat->Nat->Option β):Option β:=if h:e.ctorIdx=5 then V.tlen.elim (motive:=λJ=>Option β) e h f else none
@[elab_as_elim] theorem B8e{P:V->Prop}{e:V}{β:Type}{f:Nat->Nat->Option β}{y:β}(h:A6c e f=some y)(q:∀g m,f g m=some y->P (.tlen g m)):P e:=
 (Mine.el h).elim λz h=>V.tlen.elim (motive:=λe=>∀z,V.tlen.elim (motive:=λJ=>Option β) e z f=some y->P e) e z (λg m J h=>q g m h) z h
noncomputable def A46{β:Type}(e:V)(f:Nat->Nat->Option β):Option β:=if h:e.ctorIdx=14 then V.wl.elim (motive:=λJ=>Option β) e h f else none
@[elab_as_elim] theorem B2n{P:V->Prop}{e:V}{β:Type}{f:Nat->Nat->Option β}{y:β}(h:A46 e f=some y)(q:∀g j,f g j=some y->P (.wl g j)):P e:=
 (Mine.el h).elim λz h=>V.wl.elim (motive:=λe=>∀z,V.wl.elim (motive:=λJ=>Option β) e z f=some y->P e) e z (λg j J h=>q g j h) z h
noncomputable def B5x{β:Type}(e:V)(f:Nat->Nat->Option β):Option β:=if h:e.ctorIdx=13 then V.wd.elim (motive:=λJ=>Option β) e h f else none
@[elab_as_elim] theorem C3n{P:V->Prop}{e:V}{β:Type}{f:Nat->Nat->Option β}{y:β}(h:B5x e f=some y)(q:∀g j,f g j=some y->P (.wd g j)):P e:=
 (Mine.el h).elim λz h=>V.wd.elim (motive:=λe=>∀z,V.wd.elim (motive:=λJ=>Option β) e z f=some y->P e) e z (λg j J h=>q g j h) z h
noncomputable def A4m{β:Type}(e:V)(f:Nat->Option β):Option β:=if h:e.ctorIdx=11 then V.bi.elim (motive:=λJ=>Option β) e h f else none
@[elab_as_elim] theorem A4u{P:V->Prop}{e:V}{β:Type}{f:Nat->Option β}{y:β}(h:A4m e f=some y)(q:∀i,f i=some y->P (.bi i)):P e:=
 (Mine.el h).elim λz h=>V.bi.elim (motive:=λe=>∀z,V.bi.elim (motive:=λJ=>Option β) e z f=some y->P e) e z (λi J h=>q i h) z h
noncomputable def A1u{β:Type}(e:V)(f:Bool->Option β):Option β:=if h:e.ctorIdx=1 then V.bool.elim (motive:=λJ=>Option β) e h f else none
@[elab_as_elim] theorem A9l{P:V->Prop}{e:V}{β:Type}{f:Bool->Option β}{y:β}(h:A1u e f=some y)(q:∀i,f i=some y->P (.bool i)):P e:=
 (Mine.el h).elim λz h=>V.bool.elim (motive:=λe=>∀z,V.bool.elim (motive:=λJ=>Option β) e z f=some y->P e) e z (λi J h=>q i h) z h
noncomputable def A8w{β:Type}(e:V)(f:Option β):Option β:=if h:e.ctorIdx=8 then V.anyS.elim (motive:=λJ=>Option β) e h f else none
@[elab_as_elim] theorem A6i{P:V->Prop}{e:V}{β:Type}{f:Option β}{y:β}(h:A8w e f=some y)(q:f=some y->P .anyS):P e:=
 (Mine.el h).elim λz h=>V.anyS.elim (motive:=λe=>∀z,V.anyS.elim (motive:=λJ=>Option β) e z f=some y->P e) e z (λJ h=>q h) z h
noncomputable def A07{β:Type}(e:O)(f:Nat->List (Nat × V)->Option β):Option β:=if h:e.ctorIdx=2 then O.inst.elim (motive:=λJ=>Option β) e h f else none
@[elab_as_elim] theorem A2q{P:O->Prop}{e:O}{β:Type}{f:Nat->List (Nat × V)->Option β}{y:β}(h:A07 e f=some y)(q:∀c fs,f c fs=some y->P (.inst c fs)):P e:=
 (Mine.el h).elim λz h=>O.inst.elim (motive:=λe=>∀z,O.inst.elim (motive:=λJ=>Option β) e z f=some y->P e) e z (λc fs J h=>q c fs h) z h
noncomputable def A3m{β:Type}(e:O)(f:List V->Option β):Option β:=if h:e.ctorIdx=3 then O.log.elim (motive:=λJ=>Option β) e h f else none
@[elab_as_elim] theorem A4w{P:O->Prop}{e:O}{β:Type}{f:List V->Option β}{y:β}(h:A3m e f=some y)(q:∀l,f l=some y->P (.log l)):P e:=
 (Mine.el h).elim λz h=>O.log.elim (motive:=λe=>∀z,O.log.elim (motive:=λJ=>Option β) e z f=some y->P e) e z (λl J h=>q l h) z h
noncomputable def N3{β:Type}(i:Int)(f:Nat->Option β):Option β:=Int.rec (motive:=λJ=>Option β) f (λJ=>none) i
@[elab_as_elim] theorem R4{P:Int->Prop}{i:Int}{β:Type}{f:Nat->Option β}{y:β}(h:N3 i f=some y)(q:∀j,f j=some y->P (.ofNat j)):P i:=
 Int.rec (motive:=λi=>N3 i f=some y->P i) q (λJ h=>nomatch (show none=some y from h)) i h
noncomputable def tr(o:Option Bool):Bool:=Option.rec (motive:=λJ=>Bool) false (λb=>b) o
theorem I9{o:Option Bool}(h:tr o=true):o=some true:=by
 cases o with
 |none=>cases h
 |some b=>exact congrArg some h
noncomputable def A15(v:V):Bool:=Nat.beq v.ctorIdx 3||Nat.beq v.ctorIdx 4
def V8(s:Tx)(n:Nat):Tx:=Nat.rec (motive:=λJ=>Tx) [] (λJ ih=>ap s ih) n
def small(s:Tx):Bool:=Nat.ble (len s) 4000
def B10(a b:V):Option V:=(D7 b λb=>(D7 a λa=>some (.int (Int.add a b))).or (I5 a λg k=>N3 b λj=>some (.lin g (Nat.add k j)))).or
 (E5 b λb=>(E5 a λa=>bB (small (ap a b)) (some (.str (ap a b))) none).or (U9 a λg a o=>bB o none (bB (small (ap a b)) (some (.txt g (ap a b) false)) none)))
noncomputable def B0p(a b:V):Option V:=D7 b λb=>(D7 a λa=>some (.int (Int.sub a b))).or (A46 a λi k=>N3 b λj=>some (.wl i (Nat.add k j)))
def B7l(a b:V):Option V:=D7 b λb=>(D7 a λa=>bB (Nat.ble a.natAbs 1000) (some (.int (Int.mul a b))) none).or
 (E5 a λs=>N3 b λj=>bB (Nat.ble j 100) (bB (small s) (bB (small (V8 s j)) (some (.str (V8 s j))) none) none) none)
noncomputable def B69(a b:V):Option V:=D7 a λa=>N3 a λa=>D7 b λb=>N3 b λb=>bB (Nat.beq b 0) none (some (.int (.ofNat (Nat.mod a b))))
def B8b(a b:V):Option V:=D7 a λa=>D7 b λb=>bB (ieq a 2) (bB (ieq b 63) (some (.int 9223372036854775808)) none) none
def A9i(op:Bop)(a b:V):Option V:=match op with
 | .add=>B10 a b
 | .sub=>B0p a b
 | .mul=>B7l a b
 | .mod=>B69 a b
 | .pow=>B8b a b
def veq(a b:V):Option Bool:=(E5 a λx=>E5 b λy=>some (teq x y)).or ((D7 a λx=>D7 b λy=>some (ieq x y)).or
 ((I5 a λg x=>I5 b λg' y=>bB (Nat.beq g g') (some (Nat.beq x y)) none).or (A30 a λg x=>A30 b λg' y=>bB (Nat.beq g g') (bB (Nat.beq x y) (some true) none) none)))
noncomputable def snoc(l:List V)(v:V):List V:=List.rec (motive:=λJ=>List V) [v] (λa J ih=>a :: ih) l
noncomputable def A3h(l:List (List (Nat × V)))(v:List (Nat × V)):List (List (Nat × V)):=List.rec (motive:=λJ=>List (List (Nat × V))) [v] (λa J ih=>a :: ih) l
noncomputable def apV(a b:List V):List V:=List.rec (motive:=λJ=>List V) b (λx J ih=>x :: ih) a
noncomputable def L5{α:Type}(l:List α):Bool:=List.rec (motive:=λJ=>Bool) true (λJ J J=>false) l
def B0v(h:Hp)(a b:Nat):Option Bool:=(h.get a).bind λo=>R1 o λxs=>(h.get b).bind λo=>R1 o λys=>bB (L5 xs) (some (L5 ys)) (bB (L5 ys) (some false) none)
def A7o(h:Hp)(a b:V):Option Bool:=(G0 a λi=>G0 b λj=>B0v h i j).or (veq a b)
def vlt(a b:V):Option Bool:=(D7 a λx=>D7 b λy=>some (Q2 (ile y x))).or ((I5 a λg x=>I5 b λg' y=>bB (Nat.beq g g') (some (Q2 (Nat.ble y x))) none).or
 ((I5 a λJ J=>D7 b λy=>bB (ieq y 0) (some false) none).or (I5 a λg x=>A6c b λg' m=>bB (Nat.beq g g') (bB (Nat.ble (Nat.succ x) m) (some true) none) none)))
def vle(a b:V):Option Bool:=(D7 a λx=>D7 b λy=>some (ile x y)).or ((I5 a λg x=>I5 b λg' y=>bB (Nat.beq g g') (some (Nat.ble x y)) none).or
 (D7 a λx=>I5 b λJ J=>bB (ieq x 0) (some true) none))
def A3b:Option Bool->Option Bool | some b=>some (Q2 b) | none=>none
def isNone(a b:V):Option Bool:=A19 b ((A19 a (some true)).or ((E5 a λJ=>some false).or ((D7 a λJ=>some false).or ((G0 a λJ=>some false).or ((I5 a λJ J=>some false).or (A30 a λJ J=>some false))))))
def A98(l:List V):Option (List Tx):=List.rec (motive:=λJ=>Option (List Tx)) (some []) (λv J ih=>E5 v λs=>ih.map (s :: ·)) l
def A5d(s:Tx)(l:List Tx):Bool:=List.rec (motive:=λJ=>Bool) false (λy J ih=>bB (teq s y) true ih) l
def A4p(s:Tx)(l:List V):Option Bool:=(A98 l).map (A5d s)
def dget(s:Tx)(l:List (V × V)):Option (Option V):=List.rec (motive:=λJ=>Option (Option V)) (some none) (λp J ih=>E5 p.1 λy=>bB (teq s y) (some (some p.2)) ih) l
noncomputable def A2h(b:Nat)(s:Tx):Option Int:=(int_private% "Numeral.casesOn") (motive:=λJ=>Option Int) ((int_private% "readNumeral") 0 b s) none (λJ=>none) none (λi=>some i)
variable(T:Tabs)(P:Nat->List V->Hp->K->K->Option Bool)
def lkp(h:Hp)(v:V):Option O:=(G0 v λa=>h.get a).or (V1 v λn=>BtG T.tps (Nat.succ n))
def B6p{β:Type}(s:Tx)(f:Nat->Option β):Option β:=List.rec (motive:=λJ=>Option β) none (λc r J=>bB (L5 r) (f c) none) s
def contains(h:Hp)(v w:V):Option Bool:=E5 v λs=>(E5 w λl=>B6p s λc=>some (M3 c l)).or
 ((lkp T h w).bind λo=>(A2t o λxs=>A4p s xs).or (A2i o λes=>(dget s es).map (·.isSome)))
def A17(h:Hp)(op:Cp)(a b:V):Option Bool:=match op with
 | .eq=>A7o h a b | .ne=>A3b (A7o h a b) | .lt=>vlt a b | .le=>vle a b | .gt=>vlt b a | .ge=>vle b a
 | .is=>isNone a b | .isnot=>A3b (isNone a b) | .inn=>contains T h a b | .notin=>A3b (contains T h a b)
def A0t(xs:List V)(v:V):Option V:=D7 v λi=>Int.rec (motive:=λJ=>Option V) (λn=>bB (Nat.ble n 100000) (nth xs n) none) (λn=>bB (Nat.beq n 0) (B0n xs) none) i
def B71(s:Tx)(k:Nat):Option V:=bB (Nat.ble k 100000) ((nth s k).map λc=> .str [c]) none
def C4a(es:List (V × V))(v:V):Option V:=E5 v λs=>(dget s es).bind id
def C2y(a:Nat)(ws:List (List (Nat × V)))(v:V):Option V:=D7 v λi=>Int.rec (motive:=λJ=>Option V) (λj=>bB (Nat.ble (Nat.succ j) (len ws)) (bB (Nat.ble j 100000) (some (.wd a j)) none) none) (λJ=>none) i
def itR(a:Nat)(o:O)(v:V):Option V:=(R1 o λxs=>A0t xs v).or ((A2t o λxs=>A0t xs v).or (A0s o λJ ws J=>C2y a ws v))
def itG(o:O)(v:V):Option V:=(A2t o λxs=>A0t xs v).or (A2i o λes=>C4a es v)
def item(h:Hp)(o v:V):Option V:=
 (U9 o λg s J=>I5 v λg' k=>bB (Nat.beq g g') (B71 s k) none).or ((G0 o λa=>(h.get a).bind λo=>itR a o v).or (V1 o λn=>(BtG T.tps (Nat.succ n)).bind λo=>itG o v))
def A64(g:Nat)(s:Tx)(op:Bool)(a b:V):Option V:=I5 a λg1 i=>I5 b λg2 j=>
 bB (Nat.beq g g1) (bB (Nat.beq g g2) (bB (Nat.ble i (len s)) (bB (Nat.ble i j) (bB (Nat.ble j (len s)) (some (.str (tke (drp s i) (Nat.sub j i)))) (bB op none (some (.str (drp s i))))) none) none) none) none
def B5a(o a b:V):Option V:=U9 o λg s op=>bB (small s) (oB (A64 g s op a b) (bB (A15 a) (bB (A15 b) (some .anyS) none) none) some) none
def A6f(v:V):Option V:=A1u v λb=>some (.bool (Q2 b))
noncomputable def A92(v:V):Option V:=D7 v λi=>some (.int (Int.neg i))
def B8u(c d:Nat):Option Bool:=(BtG T.cls (Nat.succ c)).bind λcl=>bB (M3 d cl.mro) (some true) ((BtG T.cls (Nat.succ d)).map λJ=>false)
def noZ(s:Tx):Bool:=List.rec (motive:=λJ=>Bool) true (λc J ih=>bB (Nat.beq c 0) false ih) s
def U0(s:Tx):Bool:=List.rec (motive:=λJ=>Bool) true (λc J ih=>bB (Nat.ble c 127) ih false) s
def C2g(s:Tx)(b:Nat):Option V:=bB (Nat.ble (len s) 640) (bB (U0 s) (bB (noZ s) (bB (Nat.beq b 10||Nat.beq b 16) (Option.map V.int (A2h b s)) none) none) none) none
def A0z(f:Nat):Nat->Tx->Tx:=Nat.rec (motive:=λJ=>Nat->Tx->Tx) (λJ l=>l) (λJ ih n l=>bB (Nat.ble n 9) (Nat.add 48 n :: l) (ih (Nat.div n 10) (Nat.add 48 (Nat.mod n 10) :: l))) f
def A4s(s:Tx):Option (List Nat):=bB (teq s []) (some []) (bB (teq s [48,48,102,70]) (some [0,255]) (bB (teq s [55,65]) (some [122]) none))
def B4c(v:V)(h:Hp):Option V:=(U9 v λg s o=>bB (Nat.ble (len s) 100000) (some (bB o (.tlen g (len s)) (.lin g (len s)))) none).or
 ((E5 v λs=>bB (Nat.ble (len s) 100000) (some (.int (.ofNat (len s)))) none).or
 (G0 v λa=>(h.get a).bind λo=>(R1 o λxs=>bB (Nat.ble (len xs) 100000) (some (.int (.ofNat (len xs)))) none).or (A0s o λJ J J=>some (.wl a 0))))
def B27(v w:V)(h:Hp):Option V:=G0 v λa=>V1 w λd=>(h.get a).bind λo=>A07 o λc J=>(B8u T c d).map V.bool
noncomputable def A4n(f:Int->Int->Option V)(a b:V):Option V:=D7 a λa=>D7 b λb=>f a b
noncomputable def bI1(a:V):Option V:=D7 a λa=>some (.int a)
def bI2(a b:V):Option V:=E5 a λs=>D7 b λb=>N3 b λj=>C2g s j
def bS1(a:V):Option V:=D7 a λa=>N3 a λj=>bB (Nat.ble j 10000000000000000000000) (some (.str (A0z 40 j []))) none
noncomputable def B66(a:V):Option V:=E5 a λs=>Mine.on1 s λc=>some (.int (.ofNat c))
def b1(n:Nat)(a:V)(h:Hp):Option V:=bB (Nat.beq n 0) (B4c a h) (bB (Nat.beq n 6) (B66 a) (bB (Nat.beq n 4) (bI1 a) (bB (Nat.beq n 5) (bS1 a) none)))
def b2(n:Nat)(a b:V)(h:Hp):Option V:=bB (Nat.beq n 2) (A4n (λa b=>some (.int (bB (ile a b) a b))) a b) (bB (Nat.beq n 3) (A4n (λa b=>some (.int (bB (ile b a) a b))) a b) (bB (Nat.beq n 1) (B27 T a b h) (bB (Nat.beq n 4) (bI2 a b) none)))
def builtin(n:Nat)(vs:List V)(h:Hp):Option V:=match vs with
 | []=>none
 |a :: r=>(match r with
  | []=>b1 n a h
  |b :: q=>(match q with | []=>b2 T n a b h | _ :: _=>none))
def A7v(t:Wt):(List (Nat × V)->Wt->Bool)->Bool:=Wt.rec (motive:=λJ=>(List (Nat × V)->Wt->Bool)->Bool) (λJ=>true) (λfs nx J J ihalt k=>bB (k fs nx) (ihalt k) false) t
noncomputable def A3u(t:Wt):Bool:=Wt.rec (motive:=λJ=>Bool) true (λJ J J J J=>false) t
def rv(n:Nat)(i j:Nat):Hp->(Hp->Bool)->Bool:=Nat.rec (motive:=λJ=>Hp->(Hp->Bool)->Bool) (λJ J=>false)
 (λJ ih h k=>oB ((h.get i).bind λo=>A0s o λc ws t=>bB (Nat.ble (Nat.succ j) (len ws)) none (bB (A3u t) none (some (c,ws,t)))) (k h) λp=>A7v p.2.2 λfs nx=>ih (h.put i (.lz p.1 (A3h p.2.1 fs) nx)) k) n
noncomputable def rvF:Nat:=200
def rvK(a b:V)(h:Hp)(k:Hp->Bool):Bool:=oB (G0 a λi=>D7 b λb=>N3 b λj=>some (i,j)) (k h) λp=>rv rvF p.1 p.2 h k
def B0s(i a:Nat)(h:Hp)(k:K):Bool:=tr ((h.get i).bind λo=>A0s o λJ ws t=>bB (Nat.ble (len ws) 100000) (bB (Nat.ble (Nat.succ a) (len ws)) (some (k (.int (.ofNat a)) h)) (bB (A3u t) (bB (L5 ws) none (some (k (.int (.ofNat (Nat.pred (len ws)))) h))) none)) none)
def A3l(s:Tx)(l:List V):Option Tx:=bB (L5 s) (List.rec (motive:=λJ=>Option Tx) (some []) (λv J ih=>E5 v λy=>ih.map (ap y)) l) (Mine.on1 l λv=>E5 v λy=>bB (small s) (some y) none)
def B03(g:Nat)(s:Tx)(o:Bool)(q:Tx)(k:Nat):Option V:=bB (L5 q) none (bB (Nat.ble k (len s)) (match A0x q (drp s k) k with | some j=>some (.lin g j) | none=>bB o none (some (.int (.negSucc 0)))) none)
def A9p(c:Nat):Nat:=bB (Nat.ble 65 c&&Nat.ble c 90) (Nat.add c 32) c
noncomputable def A67(f:Nat->Nat)(s:Tx):Option Tx:=List.rec (motive:=λJ=>Option Tx) (some []) (λc J ih=>ih.bind λr=>bB (Nat.ble c 127) (some (f c :: r)) none) s
def A96(s:Tx):Option Tx:=A67 A9p s
def upC(c:Nat):Nat:=bB (Nat.ble 97 c&&Nat.ble c 122) (Nat.sub c 32) c
def upT(s:Tx):Option Tx:=A67 upC s
def A53(s:Tx):Tx:=List.rec (motive:=λJ=>Tx) [] (λc r ih=>bB (Nat.beq c 48) ih (c :: r)) s
def B1a(s:Tx)(a:V):Option V:=E5 a λq=>bB (teq q [48]) (some (.str (A53 s))) none
def B6u(s:Tx)(a:V)(h:Hp):Option V:=G0 a λa=>(h.get a).bind λo=>R1 o λxs=>(A3l s xs).bind λx=>bB (small x) (some (.str x)) none
noncomputable def A6m{α β:Type}(l:List α)(x:Option β):Option β:=List.rec (motive:=λJ=>Option β) x (λJ J J=>none) l
@[elab_as_elim] theorem B3b{α β:Type}{P:List α->Prop}{l:List α}{x:Option β}{y:β}(h:A6m l x=some y)(q:x=some y->P []):P l:=by
 cases l with
 |nil=>exact q h
 |cons _ _=>cases h
def B3s(s:Tx)(n:Nat)(vs:List V)(h:Hp):Option V:=(A6m vs (bB (Nat.beq n 3) (Option.map V.str (upT s)) (bB (Nat.beq n 4) (Option.map V.str (A96 s)) (bB (Nat.beq n 5) (some (.bool (U0 s))) none)))).or
 (Mine.on1 vs λa=>bB (Nat.beq n 2) (B6u s a h) (bB (Nat.beq n 6) (B1a s a) none))
noncomputable def opK(v:Option V)(h:Hp)(k:K):Bool:=Option.rec (motive:=λJ=>Bool) false (λv=>k v h) v
noncomputable def opB(v:Option Bool)(h:Hp)(k:Bool->Hp->Bool):Bool:=Option.rec (motive:=λJ=>Bool) false (λv=>k v h) v
def A06(o:O)(h:Hp)(k:K):Bool:=bB (Nat.ble h.n 100000) (k (.ref h.n) (h.new o)) false
def A4k(es:List (V × V))(n:Nat)(vs:List V)(h:Hp)(k:K):Bool:=bB (Nat.beq n 8) (tr (Mine.on2 vs λx d=>E5 x λs=>(dget s es).bind λr=>some (oB r (k d h) λx=>k x h))) false
inductive Cal | fn (f:Fn) | b | h
def A9c(n c:Nat)(fs:List (Nat × V)):Option Cal:=oB (lkG n fs) (oB (BtG T.cls (Nat.succ c)) none λcl=>oB (lkG n cl.ms) none λf=>some (.fn f)) λJ=>none
noncomputable def D2z(o:Option O):Option (Nat × List (Nat × V)):=o.bind λo=>A07 o λc fs=>some (c,fs)
def D2s(j:Nat)(o:Option O):Option (Nat × List (Nat × V)):=o.bind λo=>A0s o λc ws J=>(nth ws j).map λfs=>(c,fs)
def Z6(h:Hp)(v:V):Option (Nat × List (Nat × V)):=(G0 v λa=>D2z (h.get a)).or (B5x v λi j=>D2s j (h.get i))
def A8k(n:Nat)(o:V)(h:Hp):Option Cal:=(G0 o λa=>bB (Nat.beq n 0) ((h.get a).bind λo=>(R1 o λJ=>some .b).or (A3m o λJ=>some .b)) none).or
 ((V1 o λg=>bB (Nat.beq n 8) ((BtG T.tps (Nat.succ g)).bind λo=>A2i o λJ=>some .b) none).or
 ((E5 o λJ=>bB (Nat.ble 2 n) (bB (Nat.ble n 6) (some .b) none) none).or
 ((U9 o λJ J J=>bB (Nat.beq n 1) (some .b) none).or
 ((A8w o (bB (Nat.beq n 7) (some .b) none)).or
 (A4m o λb=>bB (Nat.beq b 7) (bB (Nat.beq n 10) (some .h) none) none)))))
def B6m(n:Nat)(o:V)(h:Hp):Option Cal:=oB (Z6 h o) (A8k T n o h) λp=>A9c T n p.1 p.2
def B5q(a:Nat)(o:Option O)(vs:List V)(h:Hp)(k:K):Bool:=tr (Mine.on1 vs λv=>o.bind λo=>(R1 o λxs=>bB (Nat.ble (len xs) 10000) (some (k .none (h.put a (.list (snoc xs v))))) none).or
 (A3m o λxs=>bB (Nat.ble (len xs) 10000) (some (k .none (h.put a (.log (snoc xs v))))) none))
def B65(g:Nat)(s:Tx)(o:Bool)(vs:List V)(h:Hp)(k:K):Bool:=tr (Mine.on2 vs λx y=>E5 x λq=>I5 y λg' j=>bB (Nat.beq g g') (some (opK (B03 g s o q j) h k)) none)
def doB(n:Nat)(o:V)(vs:List V)(h:Hp)(k:K):Bool:=tr ((G0 o λa=>some (B5q a (h.get a) vs h k)).or
 ((V1 o λg=>(BtG T.tps (Nat.succ g)).bind λo=>A2i o λes=>some (A4k es n vs h k)).or
 ((E5 o λs=>bB (small s) (some (opK (B3s s n vs h) h k)) none).or
 ((U9 o λg s o=>some (B65 g s o vs h k)).or
 (A8w o (A6m vs (some (k .anyS h))))))))
def D6t(vs:List V)(h:Hp)(k:K):Bool:=tr (Mine.on1 vs λx=>E5 x λs=>(A4s s).map λb=>k (.bytes b) h)
def A6n(r:Rec)(c:Cal)(n:Nat)(o:V)(vs:List V)(h:Hp)(k:K)(kx:K):Bool:=match c with
 | .fn f=>r.call f (o :: vs) h k kx
 | .b=>doB T n o vs h k
 | .h=>D6t vs h k
def A4z(r:Rec)(n:Nat)(vs:List V)(h:Hp)(k:K)(kx:K):Bool:=bB (Nat.ble h.n 100000) (oB (BtG T.cls (Nat.succ n)) false λcl=>match lkG 12 cl.ms with
 |some f=>r.call f (.ref h.n :: vs) (h.new (.inst n [])) (λv h'=>tr (A19 v (some (k (.ref h.n) h')))) kx
 |none=>(match vs with | []=>k (.ref h.n) (h.new (.inst n [])) | _=>false)) false
def B1l(n:Nat)(vs:List V):Option (Nat × Nat):=bB (Nat.beq n 2) (Mine.on2 vs λa b=>D7 a λa=>N3 a λa=>A46 b λi k=>bB (Nat.beq k 1) (some (a,i)) none) none
def B68(n:Nat)(vs:List V)(h:Hp)(k:K):Bool:=oB (B1l n vs) (opK (builtin T n vs h) h k) λp=>rv rvF p.2 p.1 h λh=>B0s p.2 p.1 h k
def B8o(r:Rec)(fv:V)(vs:List V)(h:Hp)(k:K)(kx:K):Bool:=tr ((A4m fv λn=>some (B68 T n vs h k)).or
 (V1 fv λn=>some (oB (P n vs h k kx) (oB (BtG T.fns (Nat.succ n)) (A4z T r n vs h k kx) λf=>r.call f vs h k kx) λb=>b)))
def B0c(n:Nat)(o:V)(h:Hp)(k:K):Bool:=oB (Z6 h o) false λp=>opK (lkG n p.2) h k
def A99(n:Nat)(o v:V)(h:Hp):Option Hp:=G0 o λa=>(h.get a).bind λo=>A07 o λc fs=>some (h.put a (.inst c (I7 n v fs)))
noncomputable def A8y(op:Bop)(a:V):Bool:=match op with | .add=>tr (G0 a λJ=>some true) | _=>false
def D30(a b:Option O)(h:Hp)(k:K):Bool:=tr (a.bind λa=>R1 a λxs=>b.bind λb=>R1 b λys=>bB (Nat.ble (len (apV xs ys)) 1000) (some (A06 (.list (apV xs ys)) h k)) none)
def A7n(a b:V)(h:Hp)(k:K):Bool:=tr (G0 a λi=>G0 b λj=>some (D30 (h.get i) (h.get j) h k))
def D1g(op:Bop)(a b:V)(h:Hp)(k:K):Bool:=bB (A8y op a) (A7n a b h k) (opK (A9i op a b) h k)
noncomputable def truthy(v:V):Option Bool:=A1u v some
def C93(n:Nat)(l:Loc)(h:Hp)(k:K):Bool:=oB (lkG n l) false λv=>k v h
def B3o(r:Rec)(a q:X)(l:Loc)(h:Hp)(k kx:K):Bool:=r.e a l h (λv h=>oB (truthy v) false λb=>bB b (r.e q l h k kx) (k v h)) kx
def eOr(r:Rec)(a q:X)(l:Loc)(h:Hp)(k kx:K):Bool:=r.e a l h (λv h=>oB (truthy v) false λb=>bB b (k v h) (r.e q l h k kx)) kx
def B31(r:Rec)(op:Bop)(a b:X)(l:Loc)(h:Hp)(k kx:K):Bool:=r.e a l h (λva h=>r.e b l h (λvb h=>D1g op va vb h k) kx) kx
def B2y(r:Rec)(t a b:X)(l:Loc)(h:Hp)(k kx:K):Bool:=r.t t l h (λc h=>bB c (r.e a l h k kx) (r.e b l h k kx)) kx
def A4l(r:Rec)(a:X)(op:Cp)(b:X)(l:Loc)(h:Hp)(k:Bool->Hp->Bool)(kx:K):Bool:=r.e a l h (λva h=>r.e b l h (λvb h=>opB (A17 T h op va vb) h k) kx) kx
def A5z(r:Rec)(a:X)(op:Cp)(b:X)(op2:Cp)(c:X)(l:Loc)(h:Hp)(k:Bool->Hp->Bool)(kx:K):Bool:=
 r.e a l h (λva h=>r.e b l h (λvb h=>opB (A17 T h op va vb) h λq h=>bB q (r.e c l h (λvc h=>opB (A17 T h op2 vb vc) h k) kx) (k false h)) kx) kx
def B3l(r:Rec)(o:X)(n:Nat)(as:X)(l:Loc)(h:Hp)(k kx:K):Bool:=r.e o l h (λov h=>oB (B6m T n ov h) false λc=>r.es as l h (λvs h=>A6n T r c n ov vs h k kx) kx) kx
def B2f(r:Rec)(f:X)(as:X)(l:Loc)(h:Hp)(k kx:K):Bool:=r.e f l h (λov h=>r.es as l h (λvs h=>B8o T P r ov vs h k kx) kx) kx
def B46(r:Rec)(a b:X)(l:Loc)(h:Hp)(k kx:K):Bool:=r.e a l h (λva h=>r.e b l h (λvb h=>rvK va vb h λh=>opK (item T h va vb) h k) kx) kx
def B3c(r:Rec)(es:List (V × V))(x d:X)(l:Loc)(h:Hp)(k kx:K):Bool:=r.es (.cons x (.cons d .nil)) l h (λvs h=>A4k es 8 vs h k) kx
def upA(s:Tx):Tx:=List.rec (motive:=λJ=>Tx) [] (λc J ih=>upC c :: ih) s
def B00(v:V):Option V:=E5 v λs=>bB (small s) (some (.str (upA s))) none
def B6a(r:Rec)(o a b:X)(l:Loc)(h:Hp)(k kx:K):Bool:=r.e o l h (λvo h=>r.e a l h (λva h=>r.e b l h (λvb h=>opK (B5a vo va vb) h k) kx) kx) kx
noncomputable def kb(k:K):Bool->Hp->Bool:=λb h=>k (.bool b) h
noncomputable def fl(f:Fl)(n:Bool)(k:V->Bool):Bool:=Fl.casesOn (motive:=λJ=>Bool) f n k
def A0v(xs:List Nat):List V->Loc->Option Loc:=List.rec (motive:=λJ=>List V->Loc->Option Loc) (λvs l=>match vs with | []=>some l | _=>none) (λx J ih vs l=>match vs with | v :: r=>ih r (I7 x v l) | []=>none) xs
def A5w(h:Hp)(v:V):Option (List V):=G0 v λa=>(h.get a).bind λo=>A2t o some
def B6h(r:Rec)(t:X)(b o q:S)(l:Loc)(h:Hp)(k:KS)(kx:K):Bool:=r.t t l h (λc h=>r.ss (bB c b o) l h (λf l h=>fl f (r.ss q l h k kx) (λv=>k (.ret v) l h)) kx) kx
def B23(r:Rec)(t:X)(b q:S)(l:Loc)(h:Hp)(k:KS)(kx:K):Bool:=r.w t b l h (λf l h=>fl f (r.ss q l h k kx) (λv=>k (.ret v) l h)) kx
def sAT(r:Rec)(xs:List Nat)(e:X)(q:S)(l:Loc)(h:Hp)(k:KS)(kx:K):Bool:=r.e e l h (λv h=>oB (A5w h v) false λvs=>oB (A0v xs vs l) false λl=>r.ss q l h k kx) kx
def sSA(r:Rec)(o:X)(n:Nat)(e:X)(q:S)(l:Loc)(h:Hp)(k:KS)(kx:K):Bool:=r.e e l h (λv h=>r.e o l h (λov h=>oB (A99 n ov v h) false λh=>r.ss q l h k kx) kx) kx
noncomputable def A5o(s:Tx):List V:=List.rec (motive:=λJ=>List V) [] (λc J ih=> .str [c] :: ih) s
def B6r(r:Rec)(x:Nat)(v:V)(b q:S)(l:Loc)(h:Hp)(k:KS)(kx:K):Bool:=tr (E5 v λs=>some (r.fr x (A5o s) b l h (λf l h=>fl f (r.ss q l h k kx) (λv=>k (.ret v) l h)) kx))
noncomputable def B24(v:V):Bool:=tr (E5 v λJ=>some true)
def tE(r:Rec)(x:X)(l:Loc)(h:Hp)(k:Bool->Hp->Bool)(kx:K):Bool:=r.e x l h (λv h=>opB (truthy v) h k) kx
def stE(r:Rec)(x:X)(l:Loc)(h:Hp)(k kx:K):Bool:=match x with
 | .const v=>k v h | .loc n=>C93 n l h k | .and a q=>B3o r a q l h k kx | .or a q=>eOr r a q l h k kx
 | .not a=>r.e a l h (λv h=>opK (A6f v) h k) kx | .neg a=>r.e a l h (λv h=>opK (A92 v) h k) kx
 | .bin op a b=>B31 r op a b l h k kx | .ite t a b=>B2y r t a b l h k kx
 | .cmp a op b=>A4l T r a op b l h (kb k) kx | .chain a op b op2 c=>A5z T r a op b op2 c l h (kb k) kx
 | .meth o n as=>B3l T r o n as l h k kx | .call f as=>B2f T P r f as l h k kx | .attr o n=>r.e o l h (λov h=>B0c n ov h k) kx
 | .sub o i=>B46 T r o i l h k kx | .slc o lo hi=>B6a r o lo hi l h k kx
 | .list xs=>r.es xs l h (λvs h=>bB (Nat.ble (len vs) 1000) (A06 (.list vs) h k) false) kx
 | .tuple xs=>r.es xs l h (λvs h=>bB (Nat.ble (len vs) 1000) (A06 (.tuple vs) h k) false) kx
 | .dget es x d=>B3c r es x d l h k kx
 | .fold a=>r.e a l h (λv h=>opK (B00 v) h k) kx
 |_=>false
noncomputable def D4z(r:Rec)(x:X)(l:Loc)(h:Hp)(k:List V->Hp->Bool)(kx:K):Bool:=match x with
 | .nil=>k [] h
 | .cons a q=>r.e a l h (λv h=>r.es q l h (λvs h=>k (v :: vs) h) kx) kx
 |_=>false
def stT(r:Rec)(x:X)(l:Loc)(h:Hp)(k:Bool->Hp->Bool)(kx:K):Bool:=match x with
 | .and a q=>r.t a l h (λb h=>bB b (r.t q l h k kx) (k false h)) kx
 | .or a q=>r.t a l h (λb h=>bB b (k true h) (r.t q l h k kx)) kx
 | .not a=>r.t a l h (λb h=>k (Q2 b) h) kx
 | .ite t a b=>r.t t l h (λc h=>bB c (r.t a l h k kx) (r.t b l h k kx)) kx
 | .cmp a op b=>A4l T r a op b l h k kx
 | .chain a op b op2 c=>A5z T r a op b op2 c l h k kx
 |x=>tE r x l h k kx
def stS(r:Rec)(x:S)(l:Loc)(h:Hp)(k:KS)(kx:K):Bool:=match x with
 | .nil=>k .next l h
 | .assign x e q=>r.e e l h (λv h=>r.ss q (I7 x v l) h k kx) kx
 | .assignT xs e q=>sAT r xs e q l h k kx
 | .swap xs e q=>sAT r xs e q l h k kx
 | .setattr o n e q=>sSA r o n e q l h k kx
 | .expr e q=>r.e e l h (λJ h=>r.ss q l h k kx) kx
 | .ret e=>r.e e l h (λv h=>k (.ret v) l h) kx
 | .ite t b o q=>B6h r t b o q l h k kx
 | .whl t b q=>B23 r t b q l h k kx
 | .forr x it b q=>r.e it l h (λv h=>B6r r x v b q l h k kx) kx
 | .raise m p=>r.e m l h (λvm h=>r.e p l h (λvp h=>bB (B24 vm) (kx vp h) false) kx) kx
 | .pass q=>r.ss q l h k kx
 | .bad=>false
def stW(r:Rec)(t:X)(b:S)(l:Loc)(h:Hp)(k:KS)(kx:K):Bool:=r.t t l h (λc h=>bB c (r.ss b l h (λf l h=>fl f (r.w t b l h k kx) (λv=>k (.ret v) l h)) kx) (k .next l h)) kx
def D3k(r:Rec)(x:Nat)(vs:List V)(b:S)(l:Loc)(h:Hp)(k:KS)(kx:K):Bool:=match vs with
 | []=>k .next l h
 |v :: q=>r.ss b (I7 x v l) h (λf l h=>fl f (r.fr x q b l h k kx) (λv=>k (.ret v) l h)) kx
def binds(ps:List Nat):List V->List V->Option Loc:=List.rec (motive:=λJ=>List V->List V->Option Loc)
 (λvs J=>List.rec (motive:=λJ=>Option Loc) (some []) (λJ J J=>none) vs)
 (λp r ih vs ds=>List.rec (motive:=λJ=>Option Loc) (bB (Nat.ble (Nat.succ (len r)) (len ds)) ((nth ds (Nat.sub (len ds) (Nat.succ (len r)))).bind λd=>(ih [] ds).map λl=>(p,d) :: l) none)
  (λv vs J=>(ih vs ds).map λl=>(p,v) :: l) vs) ps
def stC(r:Rec)(f:Fn)(vs:List V)(h:Hp)(k kx:K):Bool:=oB (binds f.params vs f.dflt) false λl=>r.ss f.body l h (λf J h=>fl f (k .none h) (λv=>k v h)) kx
def R6(r:Rec):Rec:=⟨stE T P r,D4z r,stT T r,stS r,stW r,D3k r,stC r⟩
noncomputable def bot:Rec:=⟨λJ J J J J=>false,λJ J J J J=>false,λJ J J J J=>false,λJ J J J J=>false,λJ J J J J J=>false,λJ J J J J J J=>false,λJ J J J J=>false⟩
def run:Nat->Rec:=λn=>Nat.rec (motive:=λJ=>Rec) bot (λJ r=>R6 T P r) n
end
def B5:List Row:=(B2.filter λr=>A90 r.k).reverse
noncomputable def B7s:Value->Str | .str s _=>s | _=>Str.empty
noncomputable def A7y:List (Option Expr)->List Expr->List (Str × Const)
 |some (.Constant (.str k) _ _) :: ks, .Constant c _ _ :: vs=>(k,c) :: A7y ks vs
 |_,_=> []
def A0a:List Str:=B5.map λr=>E6 r.k
noncomputable def C5z:List Str:= ["len", "isinstance", "min", "max", "int", "str", "ord", "bytes", "range"].map Str.ofString
def gV(r:Row)(i:Nat):V:=match r.k with
 | .val _ _=>(match W3 B2 r with | .str s _=> .str s.cps.toList | .int k _=> .int k | _=> .glob i)
 |_=> .glob i
noncomputable def A4e:List Str:= ["append", "find", "join", "upper", "lower", "isascii", "lstrip", "rstrip", "get", "replace", "fromhex", "split", "__init__", "stream", "text", "kind", "value", "place", "words", "at", "depth", "found", "greatest", "selects", "expressions", "changes", "tables", "transactions", "message", "table", "column", "source"].map Str.ofString
noncomputable def A4b:List Str->List Str->List Str
 |l,[]=>l
 |l,x :: r=>match B9 x l 0 with | some _=>A4b l r | none=>A4b (l ++ [x]) r
noncomputable def isC(r:Row):Bool:=(clB r.k).isSome
def C7g:List Str:=pg.main.body.flatMap λs=>(A6t s λJ J J st J=>some st).getD []
def S7:List Str:=A4b (A4b A4e (B5.flatMap λr=>if isC r then (fps B2 r).map (·.r.name) else [])) C7g
def cc0:CC:=⟨S7,(B5.zipIdx.map λp=>(E6 p.1.k,gV p.1 p.2)) ++ C5z.zipIdx.map λp=>(p.1, .bi p.2)⟩
noncomputable def U5(p:Arguments)(sc:Scope):Bool:=p.posonlyargs.isEmpty&&p.vararg.isNone&&p.kwonlyargs.isEmpty&&p.kw_defaults.isEmpty&&p.kwarg.isNone&&!sc.isGenerator&&!sc.isCoroutine&&(sc.kind == .function)&&decide (p.defaults.length<=p.args.length)
noncomputable def A0m(ns:Ns):List Str->Option (List Nat)
 | []=>some []
 |x :: r=>(B3 x ns 0).bind λq=>if q.2 == .local then (A0m ns r).map λl=>q.1 :: l else none
noncomputable def D6g(c:CC)(e:Expr):Option V:=(A2p e λk J J=>X5 k).or (I8 e λx J=>lkS x c.glob)
noncomputable def V0(c:CC):List Expr->Option (List V)
 | []=>some []
 |e :: r=>(D6g c e).bind λv=>(V0 c r).map λl=>v :: l
noncomputable def A51:Str:=Str.ofString "__debug__"
def Q7(ns:Ns):Bool:=ns.all λp=>(match p.2 with | .cell=>false | .free=>false | _=>true)&&!(E0 p.1 A51)
def cFn(c:CC)(r:FnRec):Option Fn:=
 if U5 r.params r.scope&&K8 (r.scope.names.map (·.1))&&Q7 r.scope.names&&K8 (r.params.args.map (·.arg)) then
  (A0m r.scope.names (r.params.args.map (·.arg))).bind λps=>(V0 c r.params.defaults).bind λd=>(cSs c r.scope.names DF r.body).map λb=>⟨ps,d,b⟩
 else none
def chR(r:Row):List Row:=match r.k with | .cl _ bases _ _ _=>(chain B2 5 bases).1 | _=> []
def M7(r:Row):Bool:=match r.k with | .cl _ bases _ _ _=>(chain B2 5 bases).2 | _=>true
def A4o(r:Row):List Fp:=(r :: chR r).flatMap (fps B2)
def B22(r:Row):List Fp:=(A4o r).filter λp=>match (A4o r).find? λq=>sq q.r.name p.r.name with | some q=>Nat.beq q.a p.a | none=>false
def msR(r:Row):List (Nat × Fn):=(B22 r).filterMap λp=>(B9 p.r.name cc0.attrs 0).bind λi=>(cFn cc0 p.r).map (i,·)
def X9(r:Row):List Nat:=(r :: chR r).filterMap λb=>B9 (E6 b.k) A0a 0
noncomputable def B44:Str:=Str.ofString "__init__"
def A28(r:Row):Bool:=(A4o r).any λp=>E0 p.r.name B44
def ofL{α:Type}(l:List (Row × Nat))(f:Row->Nat->Option α):Tri α:=l.foldr (λp t=>match f p.1 p.2 with | some x=>BtS t (p.2+1) x | none=>t) .leaf
noncomputable def fnK:Kd->Option FnRec
 | .fn r=>some r
 |_=>none
def fnR(r:Row)(_:Nat):Option Fn:=(fnK r.k).bind (cFn cc0)
def clR(r:Row)(_:Nat):Option Cl:=if isC r&&!M7 r&&((msR r).any λp=>Nat.beq p.1 12)==A28 r then some ⟨X9 r,msR r⟩ else none
def tpR(r:Row)(_:Nat):Option O:=match r.k with
 | .tup _ es=>some (.tuple ((evs B2 es r.t).1.map λv=> .str (B7s v).cps.toList))
 | .dict _ ks vs=>(cvs (A7y ks vs)).map .dict
 |_=>none
def T0:Tabs:=⟨ofL B5.zipIdx fnR,ofL B5.zipIdx clR,ofL B5.zipIdx tpR⟩
abbrev OGt:=OsState × Array GenState
noncomputable abbrev OG(s:Shared):OGt:=(s.os,s.gens)
abbrev Og(s:Shared)(og:OGt):Prop:=Nonempty (OG s=og)
noncomputable def A25(w:World)(s s₁:Shared):Prop:=s.heap=HF w.params->(∀b o,s.heap.get? b=some o->s₁.heap.get? b=some o)->∀(args:List WData) (vs:List Value) (as:List Addr),rr.claim.pre args=true->WData.layableAll args=true->s₁.gens= #[]->
 ReadsAllW rr.records (classAt s.heap) s₁.heap vs args as->(∀a∈as,s.heap.objs.size<=a)->WellAll w.params s₁.heap vs args->∃f mg,s₁.heap.Ns mainGlobals mg/\mg (Str.ofString "law")=some f/\
  wpAny (model pg w) callerA (PySem.call f vs) (λv s'=>GoodW rr.claim (classAt s.heap) (ExcName.means s.heap) args s₁ (.ok (.ret v)) s') (λe s'=>GoodW rr.claim (classAt s.heap) (ExcName.means s.heap) args s₁ (.error e) s') s₁
noncomputable def A88:Params:={strHash:=λJ=>0,shareClass:=λJ=>0,mergeTok:=id,idOf:=λJ=>0,idOfShared:=λJ J=>0,followText:=λJ=>true,idOfImm:=λJ=>0}
theorem D1e:Nonempty (World × Shared × Shared):=⟨⟨λJ J=>0,A88⟩,⟨HF A88,#[],{},0,{}⟩,⟨HF A88,#[],{},0,{}⟩⟩
noncomputable def cx:World × Shared × Shared:=@Classical.epsilon _ D1e λc=>¬A25 c.1 c.2.1 c.2.2
theorem C2z(h:A25 cx.1 cx.2.1 cx.2.2)(w:World)(s s₁:Shared):A25 w s s₁:=
 Classical.byContradiction λn=>@Classical.epsilon_spec _ (λc=>¬A25 c.1 c.2.1 c.2.2) ⟨(w,s,s₁),n⟩ h
@[irreducible] noncomputable def w:World:=cx.1
@[irreducible] noncomputable def og:OGt:=OG cx.2.2
@[irreducible] noncomputable def D:Nat:=700
@[irreducible] noncomputable def U:Nat:=4000
theorem W6{α:Type}(x:α):∃y,y=x:=⟨x,rfl⟩
@[irreducible] noncomputable def A0:Heap:=Classical.choose (W6 (HF w.params))
@[irreducible] noncomputable def mg:Str->Option Value:=Classical.choose (W6 ((HF w.params).nsMap mainGlobals))
@[irreducible] noncomputable def mb:Str->Option Value:=Classical.choose (W6 ((HF w.params).nsMap builtinsNs))
noncomputable def A97:Value->Option Addr
 | .ref a=>some a
 |_=>none
theorem B4l{c:Value}{a:Addr}(h:A97 c=some a):c= .ref a:=by cases c <;> first | exact nn h | exact congrArg Value.ref (Z0a h)
def J7(mg:Str->Option Value):Nat->Option Value:=λk=>(A0a[k]?).bind λx=>(mg x).bind λv=>(A97 v).map .ref
@[irreducible] noncomputable def gv:Nat->Option Value:=Classical.choose (W6 (J7 mg))
@[irreducible] noncomputable def pc:Addr:=Classical.epsilon λa=>mg (Str.ofString "ParseError")=some (.ref a)
theorem C3b:w=cx.1:=by unfold w;rfl
theorem B9h:og=OG cx.2.2:=by unfold og;rfl
theorem B3a:A0=HF w.params:=by unfold A0;exact Classical.choose_spec (W6 _)
theorem D8a:mg=(HF w.params).nsMap mainGlobals:=by unfold mg;exact Classical.choose_spec (W6 _)
theorem B9n:mb=(HF w.params).nsMap builtinsNs:=by unfold mb;exact Classical.choose_spec (W6 _)
theorem C10:gv=J7 mg:=by unfold gv;exact Classical.choose_spec (W6 _)
theorem C8a{a:Addr}(h:mg (Str.ofString "ParseError")=some (.ref a)):pc=a:=by
 have e:=@Classical.epsilon_spec _ (λa=>mg (Str.ofString "ParseError")=some (.ref a)) ⟨a,h⟩;unfold pc;exact Value.ref.inj (Z0a (e.symm.trans h))
theorem elB{c:Prop}[Decidable c]{g:c->Bool}(h:(if h:c then g h else false)=true):∃hc,g hc=true:=by
 by_cases z:c
 . exact⟨z,by rw[dif_pos z] at h;exact h⟩
 . rw[dif_neg z] at h;cases h
noncomputable def A35(e:O)(f:List V->Bool):Bool:=if h:e.ctorIdx=1 then O.tuple.elim (motive:=λJ=>Bool) e h f else false
@[elab_as_elim] theorem A8d{P:O->Prop}{e:O}{f:List V->Bool}(h:A35 e f=true)(q:∀l,f l=true->P (.tuple l)):P e:=
 (elB h).elim λz h=>O.tuple.elim (motive:=λe=>∀z,O.tuple.elim (motive:=λJ=>Bool) e z f=true->P e) e z (λl J h=>q l h) z h
noncomputable def A21(e:O)(f:List V->Bool):Bool:=if h:e.ctorIdx=0 then O.list.elim (motive:=λJ=>Bool) e h f else false
@[elab_as_elim] theorem A6z{P:O->Prop}{e:O}{f:List V->Bool}(h:A21 e f=true)(q:∀l,f l=true->P (.list l)):P e:=
 (elB h).elim λz h=>O.list.elim (motive:=λe=>∀z,O.list.elim (motive:=λJ=>Bool) e z f=true->P e) e z (λl J h=>q l h) z h
noncomputable def A61(e:O)(f:List V->Bool):Bool:=if h:e.ctorIdx=3 then O.log.elim (motive:=λJ=>Bool) e h f else false
@[elab_as_elim] theorem B4p{P:O->Prop}{e:O}{f:List V->Bool}(h:A61 e f=true)(q:∀l,f l=true->P (.log l)):P e:=
 (elB h).elim λz h=>O.log.elim (motive:=λe=>∀z,O.log.elim (motive:=λJ=>Bool) e z f=true->P e) e z (λl J h=>q l h) z h
noncomputable def C65(e:O)(f:Nat->List (Nat × V)->Bool):Bool:=if h:e.ctorIdx=2 then O.inst.elim (motive:=λJ=>Bool) e h f else false
noncomputable def O0(e:V)(f:Tx->Bool):Bool:=if h:e.ctorIdx=6 then V.str.elim (motive:=λJ=>Bool) e h f else false
@[elab_as_elim] theorem O8{P:V->Prop}{e:V}{f:Tx->Bool}(h:O0 e f=true)(q:∀s,f s=true->P (.str s)):P e:=
 (elB h).elim λz h=>V.str.elim (motive:=λe=>∀z,V.str.elim (motive:=λJ=>Bool) e z f=true->P e) e z (λs J h=>q s h) z h
noncomputable def N7(e:V)(f:Nat->Bool):Bool:=if h:e.ctorIdx=12 then V.ref.elim (motive:=λJ=>Bool) e h f else false
@[elab_as_elim] theorem P4{P:V->Prop}{e:V}{f:Nat->Bool}(h:N7 e f=true)(q:∀i,f i=true->P (.ref i)):P e:=
 (elB h).elim λz h=>V.ref.elim (motive:=λe=>∀z,V.ref.elim (motive:=λJ=>Bool) e z f=true->P e) e z (λi J h=>q i h) z h
noncomputable def A6a(e:V)(f:Nat->Tx->Bool->Bool):Bool:=if h:e.ctorIdx=7 then V.txt.elim (motive:=λJ=>Bool) e h f else false
@[elab_as_elim] theorem B0f{P:V->Prop}{e:V}{f:Nat->Tx->Bool->Bool}(h:A6a e f=true)(q:∀g s o,f g s o=true->P (.txt g s o)):P e:=
 (elB h).elim λz h=>V.txt.elim (motive:=λe=>∀z,V.txt.elim (motive:=λJ=>Bool) e z f=true->P e) e z (λg s o J h=>q g s o h) z h
noncomputable def Z8(e:V)(f:Nat->Nat->Bool):Bool:=if h:e.ctorIdx=3 then V.lin.elim (motive:=λJ=>Bool) e h f else false
@[elab_as_elim] theorem A2k{P:V->Prop}{e:V}{f:Nat->Nat->Bool}(h:Z8 e f=true)(q:∀g k,f g k=true->P (.lin g k)):P e:=
 (elB h).elim λz h=>V.lin.elim (motive:=λe=>∀z,V.lin.elim (motive:=λJ=>Bool) e z f=true->P e) e z (λg k J h=>q g k h) z h
noncomputable def U4(e:V)(f:Int->Bool):Bool:=if h:e.ctorIdx=2 then V.int.elim (motive:=λJ=>Bool) e h f else false
@[elab_as_elim] theorem W1{P:V->Prop}{e:V}{f:Int->Bool}(h:U4 e f=true)(q:∀i,f i=true->P (.int i)):P e:=
 (elB h).elim λz h=>V.int.elim (motive:=λe=>∀z,V.int.elim (motive:=λJ=>Bool) e z f=true->P e) e z (λi J h=>q i h) z h
noncomputable def A9u(e:V)(f:Nat->Bool):Bool:=U4 e λi=>Int.rec (motive:=λJ=>Bool) f (λJ=>false) i
@[elab_as_elim] theorem B18{P:V->Prop}{e:V}{f:Nat->Bool}(h:A9u e f=true)(q:∀n,f n=true->P (.int (.ofNat n))):P e:=W1 h λi h=>by
 cases i with
 |ofNat n=>exact q n h
 |negSucc _=>cases h
noncomputable def bPl(e:V)(f:Nat->Nat->Bool):Bool:=if h:e.ctorIdx=4 then V.pl.elim (motive:=λJ=>Bool) e h f else false
@[elab_as_elim] theorem A5m{P:V->Prop}{e:V}{f:Nat->Nat->Bool}(h:bPl e f=true)(q:∀g j,f g j=true->P (.pl g j)):P e:=
 (elB h).elim λz h=>V.pl.elim (motive:=λe=>∀z,V.pl.elim (motive:=λJ=>Bool) e z f=true->P e) e z (λg j J h=>q g j h) z h
noncomputable def bWd(e:V)(f:Nat->Nat->Bool):Bool:=if h:e.ctorIdx=13 then V.wd.elim (motive:=λJ=>Bool) e h f else false
@[elab_as_elim] theorem D7e{P:V->Prop}{e:V}{f:Nat->Nat->Bool}(h:bWd e f=true)(q:∀i j,f i j=true->P (.wd i j)):P e:=
 (elB h).elim λz h=>V.wd.elim (motive:=λe=>∀z,V.wd.elim (motive:=λJ=>Bool) e z f=true->P e) e z (λi j J h=>q i j h) z h
noncomputable def A9a(e:V)(f:List Nat->Bool):Bool:=if h:e.ctorIdx=9 then V.bytes.elim (motive:=λJ=>Bool) e h f else false
@[elab_as_elim] theorem B1s{P:V->Prop}{e:V}{f:List Nat->Bool}(h:A9a e f=true)(q:∀s,f s=true->P (.bytes s)):P e:=
 (elB h).elim λz h=>V.bytes.elim (motive:=λe=>∀z,V.bytes.elim (motive:=λJ=>Bool) e z f=true->P e) e z (λs J h=>q s h) z h
noncomputable def A9b(e:V):Bool:=Nat.beq e.ctorIdx 0
theorem B39{e:V}(h:A9b e=true):e= .none:=V.none.elim (motive:=λe=>e= .none) e (Z0e h) rfl
noncomputable def E8{α:Type}(o:Option α)(f:α->Bool):Bool:=match o with
 |some a=>f a
 |none=>false
@[elab_as_elim] theorem F6{α:Type}{P:Option α->Prop}{o:Option α}{f:α->Bool}(h:E8 o f=true)(q:∀a,f a=true->P (some a)):P o:=by
 cases o with
 |none=>cases h
 |some a=>exact q a h
noncomputable def G7{α:Type}(l:List α)(f:α->List α->Bool):Bool:=match l with
 |a :: l=>f a l
 | []=>false
@[elab_as_elim] theorem I4{α:Type}{P:List α->Prop}{l:List α}{f:α->List α->Bool}(h:G7 l f=true)(q:∀a l,f a l=true->P (a :: l)):P l:=by
 cases l with
 |nil=>cases h
 |cons a l=>exact q a l h
noncomputable def S4{α:Type}(l:List α)(b:Bool):Bool:=match l with
 | []=>b
 |_ :: _=>false
@[elab_as_elim] theorem U8{α:Type}{P:List α->Prop}{l:List α}{b:Bool}(h:S4 l b=true)(q:b=true->P []):P l:=by
 cases l with
 |nil=>exact q h
 |cons a l=>cases h
variable{T:Tabs}{cc:CC}{n C W:Nat}{A A₀:Around}{env:Env}{outer fs:List Env}{s:Shared}{H H':Hp}{l:Loc}{h h' h'' h₀ h0 hp:Heap}{I:Addr}{m:Str->Option Value}{R:Result->Shared->Prop}{E:Value->Shared->Prop}{r:Rec}{P:Nat->List V->Hp->MineE.K->MineE.K->Option Bool}
theorem A2u(b:Bool):Q2 b= !b:=by cases b <;> rfl
theorem Z7{β:Type}(b:Bool)(t f:β):bB b t f=if b then t else f:=by cases b <;> rfl
theorem R0{α:Type}{o:Option α}{f:α->Bool}(h:oB o false f=true):∃a,o=some a/\f a=true:=by
 cases o with
 |none=>exact ff h
 |some a=>exact A6 a rfl h
theorem A5{b:Bool}{f:Bool}(h:bB b f false=true):b=true/\f=true:=by cases b with | false=>exact ff h | true=>exact⟨rfl,h⟩
theorem T2{v:Option V}{H:Hp}{k:K}(h:opK v H k=true):∃a,v=some a/\k a H=true:=by
 cases v with
 |none=>exact ff h
 |some a=>exact A6 a rfl h
theorem Z0{v:Option Bool}{H:Hp}{k:Bool->Hp->Bool}(h:opB v H k=true):∃a,v=some a/\k a H=true:=by
 cases v with
 |none=>exact ff h
 |some a=>exact A6 a rfl h
theorem bBo{β:Type}{b:Bool}{x y:Option β}{r:β}(h:bB b x y=some r):(b=true/\x=some r)\/(b=false/\y=some r):=by cases b with | false=>exact .inr ⟨rfl,h⟩ | true=>exact .inl ⟨rfl,h⟩
theorem A4y{α:Type}(n:Nat):lkG n ([]:List (Nat × α))=none:=rfl
theorem T6{β:Type}(a b:Nat)(x y:β):bB (Nat.beq a b) x y=if a=b then x else y:=by
 rw[Z7];by_cases e:a=b
 . rw[Z0p e,Z0p (by rw[e];exact Z3v b)]
 . rw[Z0m e,Z0m (λq=>e (Z0e q))]
theorem J6{α:Type}(n:Nat)(p:Nat × α)(r:List (Nat × α)):lkG n (p :: r)=if p.1=n then some p.2 else lkG n r:=T6 _ _ _ _
theorem A71{α:Type}{n:Nat}{a:α}:∀{l:List (Nat × α)},lkG n l=some a->(n,a)∈l
 | [],h=>by exact nn h
 |(m,b) :: r,h=>by
  rw[J6] at h;split at h
  . rename_i e;replace h:=Z0a h;subst h;subst e;exact .head _
  . exact .tail _ (A71 h)
theorem C6o{α:Type}(n:Nat)(v:α):I7 n v []= [(n,v)]:=rfl
theorem D34{α:Type}(n:Nat)(v:α)(p:Nat × α)(r:List (Nat × α)):I7 n v (p :: r)=if p.1=n then (n,v) :: r else p :: I7 n v r:=T6 _ _ _ _
theorem A5n{α:Type}(n m:Nat)(v:α):∀l:List (Nat × α),lkG m (I7 n v l)=if m=n then some v else lkG m l
 | []=>by
  rw[C6o,J6];by_cases e:m=n
  . rw[Z0p e.symm,Z0p e]
  . rw[Z0m (λq=>e q.symm),Z0m e]
 |p :: r=>by
  rw[D34];by_cases e:p.1=n
  . rw[Z0p e,J6,J6];by_cases q:m=n
    . rw[Z0p q.symm,Z0p q]
    . rw[Z0m (λz=>q z.symm),Z0m q,Z0m (λz=>q (z.symm.trans e))]
  . rw[Z0m e,J6,J6,A5n n m v r];by_cases q:m=n
    . by_cases z:p.1=m
      . exact absurd (z.trans q) e
      . rw[Z0m z,Z0p q,Z0p q]
    . rw[Z0m q,Z0m q]
@[elab_as_elim] theorem A5v{P:Nat->Prop}(h1:P 1)(he:∀b,1<=b->P (2 * b))(ho:∀b,1<=b->P (2 * b+1))(k:Nat)(hk:1<=k):P k:=by
 by_cases e:k=1
 . exact e▸h1
 . haveI d:=Nat.div_add_mod k 2;obtain z | z:=Nat.mod_two_eq_zero_or_one k
   . rw[z] at d;rw[<-d];exact he _ (Nat.pos_of_ne_zero λz=>Nat.not_succ_le_zero 0 (Z0c hk (Z0z ((congrArg (2 * · +0) z).symm.trans d).symm)))
   . rw[z] at d;rw[<-d];exact ho _ (Nat.pos_of_ne_zero λz=>e ((congrArg (2 * · +1) z).symm.trans d).symm)
theorem A7a(b:Nat):¬2 * b=1:=λh=>Nat.zero_ne_one ((Nat.mul_mod_right 2 b).symm.trans (congrArg (· % 2) h))
theorem A9f{b:Nat}(h:1<=b):¬2 * b+1=1:=λe=>Z0q (Nat.mul_pos (by decide) h) (Nat.succ.inj e)
theorem B7a(a b:Nat):¬2 * a=2 * b+1:=λe=>Nat.zero_ne_one ((Nat.mul_mod_right 2 a).symm.trans ((congrArg (· % 2) e).trans (Nat.mul_add_mod 2 b 1)))
theorem B1t{β:Type}(a b:Nat)(x y:β):(if 2 * a=2 * b then x else y)=if a=b then x else y:=by
 by_cases e:a=b
 . rw[Z0p e,Z0p (congrArg _ e)]
 . rw[Z0m e,Z0m λz=>e (Nat.mul_left_cancel (by decide) z)]
theorem C7r{β:Type}(a b:Nat)(x y:β):(if 2 * a+1=2 * b+1 then x else y)=if a=b then x else y:=by
 rw[<-B1t a b x y];by_cases e:2 * a=2 * b
 . rw[Z0p e,Z0p (congrArg Nat.succ e)]
 . rw[Z0m e,Z0m λz=>e (Nat.succ.inj z)]
theorem B3z{β:Type}{b:Nat}(x:β)(f:Nat->β)(g:Nat->β):(if 2 * b=1 then x else if 2 * b % 2=0 then f (2 * b / 2) else g (2 * b / 2))=f b:=by
 rw[Z0m (A7a b),Z0p (Nat.mul_mod_right 2 b),Nat.mul_div_cancel_left b (by decide)]
theorem B7g{β:Type}{b:Nat}(h:1<=b)(x:β)(f:Nat->β)(g:Nat->β):(if 2 * b+1=1 then x else if (2 * b+1) % 2=0 then f ((2 * b+1) / 2) else g ((2 * b+1) / 2))=g b:=by
 rw[Z0m (A9f h),Z0m (by rw[Nat.mul_add_mod];decide),Nat.mul_add_div (by decide)];rfl
theorem C8r{α:Type}(k:Nat):BtG (Tri.leaf:Tri α) k=none:=rfl
theorem A52{α:Type}(l:Tri α)(v:Option α)(r:Tri α)(k:Nat):BtG (.node l v r) k=if k=1 then v else if k % 2=0 then BtG l (k / 2) else BtG r (k / 2):=by
 rw[<-T6,<-T6];rfl
theorem D6p{α:Type}(o:α)(f k:Nat):V4 o (f+1) k=if k=1 then .node .leaf (some o) .leaf else if k % 2=0 then .node (V4 o f (k / 2)) none .leaf else .node .leaf none (V4 o f (k / 2)):=by
 rw[<-T6,<-T6];rfl
theorem A1p{α:Type}(l:Tri α)(v:Option α)(r:Tri α)(b:Nat):BtG (.node l v r) (2 * b)=BtG l b:=(A52 ..).trans (B3z _ (BtG l) (BtG r))
theorem A00{α:Type}(l:Tri α)(v:Option α)(r:Tri α){b:Nat}(h:1<=b):BtG (.node l v r) (2 * b+1)=BtG r b:=(A52 ..).trans (B7g h _ (BtG l) (BtG r))
theorem B2x{α:Type}{o:α}{l r:Tri α}{v:Option α}(L R:Nat->Tri α){k:Nat}(hk:1<=k)
 (hl:∀a b,2 * a<=k->1<=a->1<=b->BtG (L a) b=if b=a then some o else BtG l b) (hr:∀a b,2 * a<=k->1<=a->1<=b->BtG (R a) b=if b=a then some o else BtG r b) {j:Nat} (hj:1<=j) :
 BtG (if k=1 then .node l (some o) r else if k % 2=0 then .node (L (k / 2)) v r else .node l v (R (k / 2))) j=if j=k then some o else BtG (.node l v r) j:=by
 revert hl hr
 refine A5v ?_ (λa ha=>?_) (λa ha=>?_) k hk <;> intro hl hr
 . rw[Z0p rfl]
   refine A5v rfl (λb hb=>?_) (λb hb=>?_) j hj
   . rw[A1p,A1p,Z0m (A7a b)]
   . rw[A00 _ _ _ hb,A00 _ _ _ hb,Z0m (A9f hb)]
 . rw[B3z _ (λa=>Tri.node (L a) v r) λa=>Tri.node l v (R a)]
   refine A5v ?_ (λb hb=>?_) (λb hb=>?_) j hj
   . exact(Z0m λz=>A7a a z.symm).symm
   . rw[A1p,A1p,B1t];exact hl a b (Z0g _) ha hb
   . rw[A00 _ _ _ hb,A00 _ _ _ hb,Z0m λz=>B7a a b z.symm]
 . rw[B7g ha _ (λa=>Tri.node (L a) v r) λa=>Tri.node l v (R a)]
   refine A5v ?_ (λb hb=>?_) (λb hb=>?_) j hj
   . exact(Z0m λz=>A9f ha z.symm).symm
   . rw[A1p,A1p,Z0m (B7a b a)]
   . rw[A00 _ _ _ hb,A00 _ _ _ hb,C7r];exact hr a b (Z1d _) ha hb
theorem B8x{α:Type}(o:α)(f:Nat):∀(k j:Nat),1<=k->k<2 ^ f->1<=j->BtG (V4 o f k) j=if j=k then some o else none:=by
 induction f with
 |zero=>intro k j h1 h2 J;exact absurd h2 (Z1g.mpr h1)
 |succ f ih=>
  intro k j h1 h2 hj;rw[D6p];rw[Nat.pow_succ] at h2;haveI z:∀a b,2 * a<=k->1<=a->1<=b->BtG (V4 o f a) b=if b=a then some o else BtG .leaf b:=λa b h3 h4 h5=>ih a b h4 (Nat.lt_of_mul_lt_mul_left (a:=2) (Z0t h3 (Nat.mul_comm ..▸h2))) h5
  refine(B2x (V4 o f) (V4 o f) h1 z z hj).trans ?_;rw[A52,C8r,ite_self,ite_self]
theorem C98{α:Type}(l:Tri α)(v:Option α)(r:Tri α)(k:Nat)(o:α):BtS (.node l v r) k o=if k=1 then .node l (some o) r else if k % 2=0 then .node (BtS l (k / 2) o) v r else .node l v (BtS r (k / 2) o):=by
 rw[<-T6,<-T6];rfl
theorem A6g{α:Type}(o:α)(t:Tri α):∀(k j:Nat),1<=k->k<2 ^ 40->1<=j->BtG (BtS t k o) j=if j=k then some o else BtG t j:=by
 induction t with
 |leaf=>intro k j h1 h2 hj;exact B8x o 40 k j h1 h2 hj
 |node l v r il ir=>
  intro k j h1 h2 hj;rw[C98];exact B2x (λa=>BtS l a o) (λa=>BtS r a o) h1 (λa b h h3 h4=>il a b h3 (Z0t (Z0c (Nat.le_mul_of_pos_left a (by decide)) h) h2) h4) (λa b h h3 h4=>ir a b h3 (Z0t (Z0c (Nat.le_mul_of_pos_left a (by decide)) h) h2) h4) hj
theorem Hp.get_put{H:Hp}{i j:Nat}{o:O}(hi:i<2 ^ 39):(H.put i o).get j=if j=i then some o else H.get j:=by
 show BtG (BtS H.t (i+1) o) (j+1)=_;rw[A6g o H.t (i+1) (j+1) ((Nat.le_add_left _ _)) (Z0t (Nat.add_le_add (Z0c (Z0o hi) (Z0g _)) (Z0g _)) (by decide)) ((Nat.le_add_left _ _))];by_cases e:j=i
 . rw[Z0p e,Z0p (by lia)]
 . rw[Z0m e,Z0m (by lia)];rfl
theorem Hp.get_new{H:Hp}{j:Nat}{o:O}(hi:H.n<2 ^ 39):(H.new o).get j=if j=H.n then some o else H.get j:=by
 show BtG (BtS H.t (H.n+1) o) (j+1)=_;rw[A6g o H.t (H.n+1) (j+1) ((Nat.le_add_left _ _)) (Z0t (Nat.add_le_add (Z0c (Z0o hi) (Z0g _)) (Z0g _)) (by decide)) ((Nat.le_add_left _ _))];by_cases e:j=H.n
 . rw[Z0p e,Z0p (by lia)]
 . rw[Z0m e,Z0m (by lia)];rfl
theorem Hp.new_n{H:Hp}{o:O}:(H.new o).n=H.n+1:=rfl
section
set_option maxRecDepth 1000000
noncomputable def T1p:PSigma λt:Tabs=>T0=t:=⟨_,by conv=>lhs;reduce⟩
def T1:Tabs:=T1p.1
theorem C92:T0=T1:=T1p.2
end
section
set_option maxRecDepth 1000000
noncomputable def P1:Nat->List V->Hp->K->K->Option Bool:=λJ J J J J=>none
structure Tk where
 kind:Tx
 text:Tx
 val:V
noncomputable abbrev gN(n:Nat):V:= .int (.ofNat n)
def A5i(r:Rec)(x:X)(y:S)(stop:Hp->Bool)(n:Nat):Loc->Hp->(Loc->Hp->Bool)->K->Bool:=Nat.rec (motive:=λJ=>Loc->Hp->(Loc->Hp->Bool)->K->Bool) (λJ J J J=>false)
 (λJ ih l h k kx=>bB (stop h) (k l h) (r.t x l h (λc h=>bB c (r.ss y l h (λf l h=>fl f (ih l h k kx) (λJ=>false)) kx) false) kx)) n
def A1z(r:Rec)(x:X)(y:S)(n:Nat):Loc->Hp->(Loc->Hp->Bool)->K->Bool:=Nat.rec (motive:=λJ=>Loc->Hp->(Loc->Hp->Bool)->K->Bool) (λJ J J J=>false)
 (λJ ih l h k kx=>r.t x l h (λc h=>bB c (r.ss y l h (λf l h=>fl f (ih l h k kx) (λJ=>false)) kx) (k l h)) kx) n
def D67(j:Nat)(h:Hp):Bool:=E8 (h.get 0) λo=>C65 o λJ fs=>E8 (lkG 17 fs) λv=>Z8 v λJ k=>Nat.beq k j
def A40(a b:V):Bool:=(O0 a λa=>O0 b λb=>teq a b)||((U4 a λa=>U4 b λb=>ieq a b)||((A9a a λa=>A9a b λb=>teq a b)||(A9b a&&A9b b)))
def A27(o:Option V)(n:Nat):Bool:=E8 o λv=>Z8 v λg k=>bB (Nat.beq g 1) (Nat.beq k n) false
def isStr(o:Option V)(s:Tx):Bool:=E8 o λv=>O0 v λx=>teq x s
noncomputable def A2y(o:Option V)(n:Nat):Bool:=E8 o λv=>N7 v λi=>Nat.beq i n
def B5n(o:Option V)(s:Tx)(op:Bool):Bool:=E8 o λv=>A6a v λg x q=>bB (Nat.beq g 1) (bB (teq x s) (bB op q (Q2 q)) false) false
def C4r(o:Option V)(v:V):Bool:=E8 o λx=>A40 x v
noncomputable def fs4(fs:List (Nat × V))(a b c d:Nat)(k:V->V->V->V->Bool):Bool:=G7 fs λp fs=>bB (Nat.beq p.1 a) (G7 fs λq fs=>bB (Nat.beq q.1 b) (G7 fs λr fs=>bB (Nat.beq r.1 c) (G7 fs λz fs=>bB (Nat.beq z.1 d) (S4 fs (k p.2 q.2 r.2 z.2)) false) false) false) false
def wdF(fs:List (Nat × V))(t:Tk)(p:Nat):Bool:=fs4 fs 15 14 16 17 λk x v q=>bB (isStr (some k) t.kind) (bB (isStr (some x) t.text) (bB (C4r (some v) t.val) (A27 (some q) p) false) false) false
def wdO(o:Option O)(t:Tk)(p:Nat):Bool:=tr (o.bind λo=>A07 o λc fs=>some (bB (Nat.beq c 88) (wdF fs t p) false))
def A65(h:Hp)(v:V)(t:Tk)(p:Nat):Bool:=N7 v λi=>bB (Nat.ble 2 i) (wdO (h.get i) t p) false
def H0(s:Tx)(o:Bool)(g:V):Hp:=((⟨.leaf,0⟩:Hp).new (.inst 87 [(14, .txt 1 s o),(17, .lin 1 0),(21, .ref 1),(22,g)])).new (.log [])
def l0(s:Tx)(o:Bool):Loc:= [(0, .ref 0),(1,bB o (.tlen 1 (len s)) (.lin 1 (len s)))]
def A9r:Cl:=(BtG T1.cls 88).getD ⟨[],[]⟩
def N5:Fn:=(lkG 103 A9r.ms).getD ⟨[],[], .nil⟩
def B6v:X:=N5.body.x
def Z4:X:=N5.body.q.x
def Y0:S:=N5.body.q.b
def A5h:S:=N5.body.q.q
def C5{α:Type}(l:List α)(p:α->Bool):Bool:=List.rec (motive:=λJ=>Bool) true (λa J ih=>bB (p a) ih false) l
def A2n(h:Hp)(ts:List (Tk × Nat)):List V->Bool:=List.rec (motive:=λJ=>List V->Bool) (λxs=>L5 xs) (λt J ih xs=>List.rec (motive:=λJ=>Bool) false (λx r J=>bB (A65 h x t.1 t.2) (ih r) false) xs) ts
def A1k(h:Hp)(ts:List (Tk × Nat))(o:Option O):Bool:=tr (o.bind λo=>A3m o λxs=>some (A2n h ts xs))
def isG(o:Option V)(g:V):Bool:=bB (U4 g λi=>E8 o λv=>U4 v λj=>ieq j i) true (Z8 g λa b=>E8 o λv=>Z8 v λc d=>bB (Nat.beq c a) (Nat.beq d b) false)
def scF(fs:List (Nat × V))(s:Tx)(op:Bool)(j:Nat)(gr:V):Bool:=fs4 fs 14 17 21 22 λx q f g=>bB (B5n (some x) s op) (bB (A27 (some q) j) (bB (A2y (some f) 1) (isG (some g) gr) false) false) false
def scO(o:Option O)(s:Tx)(op:Bool)(j:Nat)(gr:V):Bool:=tr (o.bind λo=>A07 o λc fs=>some (bB (Nat.beq c 87) (scF fs s op j gr) false))
noncomputable def B1z(op:Bool)(v:Option V)(n:Nat):Bool:=bB op (tr (v.bind λv=>A6c v λg m=>some (bB (Nat.beq g 1) (Nat.beq m n) false))) (A27 v n)
def B1y(l:Loc)(h:Hp)(s:Tx)(op:Bool)(j:Nat)(ts:List (Tk × Nat))(gr:V):Bool:=
 bB (A2y (lkG 0 l) 0) (bB (scO (h.get 0) s op j gr) (bB (A1k h ts (h.get 1)) (B1z op (lkG 1 l) (len s)) false) false) false
def win(n m:Nat)(s:Tx)(o:Bool)(j:Nat)(ts:List (Tk × Nat))(gr gr':V):Bool:=
 A5i (run T1 P1 n) Z4 Y0 (D67 j) m (l0 s o) (H0 s o gr) (λl h=>B1y l h s o j ts gr') (λJ J=>false)
def A9t(n m:Nat)(s:Tx)(ts:List (Tk × Nat))(gr:V):Bool:=
 A1z (run T1 P1 n) Z4 Y0 m (l0 s false) (H0 s false gr) (λl h=>(run T1 P1 n).ss A5h l h (λf J h=>fl f false (λv=>bB (A2y (some v) 1) (A1k h ts (h.get 1)) false)) (λJ J=>false)) (λJ J=>false)
def B6l(n m:Nat)(s:Tx)(q:Nat)(gr:V):Bool:=
 A1z (run T1 P1 n) Z4 Y0 m (l0 s false) (H0 s false gr) (λJ J=>false) (λv J=>A27 (some v) q)
end
noncomputable def NW:Nat:=100
noncomputable def E9(t:Tk)(pv:V):List (Nat × V):= [(15, .str t.kind),(14, .str t.text),(16,t.val),(17,pv)]
inductive GrOk(gr:Nat):V->Prop
 |num:GrOk gr (.int (.ofNat gr))
 |sym:GrOk gr (.lin 0 0)
inductive Gr2(gr gr':Nat):V->V->Prop
 |num:Gr2 gr gr' (.int (.ofNat gr)) (.int (.ofNat gr'))
 |sym (e:gr=gr'):Gr2 gr gr' (.lin 0 0) (.lin 0 0)
theorem Gr2.ok{gr gr':Nat}{g g':V}:Gr2 gr gr' g g'->GrOk gr g
 | .num=> .num
 | .sym _=> .sym
noncomputable def sh(n:Nat)(ts:List (Tk × Nat)):List (Tk × Nat):=ts.map λt=>(t.1,n+t.2)
inductive Scan(n:Nat):Tx->Tx->Nat->List (Tk × Nat)->Prop
 |win {pre s suf rest:Tx} {o:Bool} {j gr gr':Nat} {g g':V} {ts ts':List (Tk × Nat)} (m:Nat) (hw:win n m s o j ts g g'=true) (hg:Gr2 gr gr' g g') (hgr:gr'<=1000) (ho:o=true\/suf= []) (hj:j<=s.length) (he:rest=s ++ suf) (next:Scan n (pre ++ s.take j) (s.drop j ++ suf) gr' ts') :
  Scan n pre rest gr (sh pre.length ts ++ ts')
 |fin {pre s:Tx} {gr:Nat} {g:V} {ts:List (Tk × Nat)} (m:Nat) (hw:A9t n m s ts g=true) (hg:GrOk gr g):Scan n pre s gr (sh pre.length ts)
inductive ScanX(n:Nat):Tx->Tx->Nat->Nat->Prop
 |win {pre s suf rest:Tx} {o:Bool} {j gr gr' q:Nat} {g g':V} {ts:List (Tk × Nat)} (m:Nat) (hw:win n m s o j ts g g'=true) (hg:Gr2 gr gr' g g') (hgr:gr'<=1000) (ho:o=true\/suf= []) (hj:j<=s.length) (he:rest=s ++ suf) (hl:ts.length<=j) (next:ScanX n (pre ++ s.take j) (s.drop j ++ suf) gr' q):ScanX n pre rest gr q
 |fin {pre s:Tx} {gr q:Nat} {g:V} (m:Nat) (hw:B6l n m s q g=true) (hg:GrOk gr g):ScanX n pre s gr (pre.length+q)
def Wt.Path:Wt->List (List (Nat × V))->Prop
 | .leaf,p=>p= []
 | .node fs nx alt,p=>(∃q,p=fs :: q/\nx.Path q)\/(A3u alt=false/\alt.Path p)
inductive PlOk(pre:Tx)(pl:Nat->Int):V->Nat->Prop
 |pl {j p:Nat} (h:pl j=p):PlOk pre pl (.pl 0 j) p
 |tlen:PlOk pre pl (.tlen 0 0) pre.length
inductive Tells(pre:Tx)(pl:Nat->Int):List (List (Nat × V))->List (Tk × Nat)->Prop
 |nil:Tells pre pl [] []
 |cons {t:Tk} {p:Nat} {v:V} {path:List (List (Nat × V))} {ts:List (Tk × Nat)} (h:PlOk pre pl v p) (r:Tells pre pl path ts):Tells pre pl (E9 t v :: path) ((t,p) :: ts)
structure Told(t:Wt)(pre suf:Tx)(pl:Nat->Int):Prop where
 suf:suf= []
 ex:∃path ts,t.Path path/\Scan NW [] pre 0 ts/\Tells pre pl path ts/\ts.length<=1000
structure Gh where
 pre:Tx
 suf:Tx
 pl:Nat->Int
 front:List Value
 wn:Nat
 wa:Nat->Addr
 wb:Nat->Addr
structure Th where
 a:Nat->Addr
 d:Nat->Addr
 gh:Nat->Gh
noncomputable def sOf(s:Tx):Str:=⟨s.toArray⟩
theorem F4(s:Tx):(sOf s).length=s.length:=rfl
noncomputable def biL:List Value:= [.builtin "len", .builtin "isinstance", .builtin "min", .builtin "max", .type "int", .type "str", .builtin "ord", .type "bytes", .type "range"]
noncomputable def O9(n:Nat):Option Value:=biL[n]?
noncomputable def D4:Nat:=1048576
def VR(gv:Nat->Option Value)(Θ:Th)(n:Nat):V->Value->Prop
 | .none,v=>v= .none
 | .bool b,v=>v= .bool b
 | .int i,v=>∃t,v= .int i t
 | .lin g k,v=>g<n/\∃t,v= .int (((Θ.gh g).pre.length+k:Nat):Int) t
 | .pl g j,v=>g<n/\∃t,v= .int ((Θ.gh g).pl j) t
 | .tlen g m,v=>g<n/\∃t,v= .int (((Θ.gh g).pre.length+m+(Θ.gh g).suf.length:Nat):Int) t
 | .str s,v=>∃t,v= .str (sOf s) t
 | .txt g s o,v=>g<n/\∃t,v= .str (sOf ((Θ.gh g).pre ++ s ++ (if o then (Θ.gh g).suf else []))) t
 | .anyS,v=>∃x t,v= .str x t/\x.length<=2 * D4
 | .bytes b,v=>∃t,v= .bytes (b.map UInt8.ofNat).toArray t
 | .glob k,v=>gv k=some v
 | .bi k,v=>O9 k=some v
 | .ref i,v=>i<n/\v= .ref (Θ.a i)
 | .wd i j,v=>i<n/\j<(Θ.gh i).wn/\v= .ref ((Θ.gh i).wa j)
 | .wl i k,v=>i<n/\∃t,v= .int (((Θ.gh i).wn:Int) - (k:Int)) t
def VRs(gv:Nat->Option Value)(Θ:Th)(n:Nat):List V->List Value->Prop:=D8 (VR gv Θ n)
structure An where
 ns:List Str
 cls:Nat->Prop
def H8(gv:Nat->Option Value)(an:An)(Θ:Th)(n:Nat)(fs:List (Nat × V))(m:Str->Option Value):Prop:=
 ∀x,match B9 x an.ns 0 with
  |some i=>(match lkG i fs with | some v=>∃cv,m x=some cv/\VR gv Θ n v cv | none=>m x=none)
  |none=>m x=none
inductive WdAt(gv:Nat->Option Value)(an:An)(Θ:Th)(n:Nat)(h:Heap)(c:Nat)(a d:Addr)(fs:List (Nat × V)):Prop
 |mk (C:Addr) (m:Str->Option Value) (x1:a≠d) (x2:gv c=some (.ref C)) (x3:h.get? a=some (instObj C d)) (x4:h.Ns1 d m) (x5:H8 gv an Θ n fs m)
def own(Θ:Th)(i:Nat)(x:Addr):Prop:=x=Θ.a i\/x=Θ.d i\/∃j,j<(Θ.gh i).wn/\(x=(Θ.gh i).wa j\/x=(Θ.gh i).wb j)
inductive LzAt(gv:Nat->Option Value)(an:An)(Θ:Th)(n:Nat)(h:Heap)(i c:Nat)(ws:List (List (Nat × V)))(t:Wt):Prop
 |mk (cls:an.cls c) (small:(Θ.gh i).wn<=100000) (vs:Array Value) (e:Nat) (path:List (List (Nat × V))) (x1:IsL h (Θ.a i) vs e) (x2:t.Path path) (x3:vs.size=(Θ.gh i).wn) (x4:ws.length+path.length=(Θ.gh i).wn) (x5:(∀j,j<(Θ.gh i).wn->vs[j]?=some (.ref ((Θ.gh i).wa j)))) (x6:∀j fs,(ws ++ path)[j]?=some fs->WdAt gv an Θ n h c ((Θ.gh i).wa j) ((Θ.gh i).wb j) fs)
inductive InsAt(gv:Nat->Option Value)(an:An)(Θ:Th)(n:Nat)(h:Heap)(i c:Nat)(fs:List (Nat × V)):Prop
 |mk (C:Addr) (m:Str->Option Value) (z:Θ.a i≠Θ.d i) (g1:gv c=some (.ref C)) (g2:h.get? (Θ.a i)=some (instObj C (Θ.d i))) (g3:h.Ns1 (Θ.d i) m) (g4:H8 gv an Θ n fs m) (cl:an.cls c)
inductive LogAt(gv:Nat->Option Value)(Θ:Th)(n:Nat)(h:Heap)(i:Nat)(xs:List V):Prop
 |mk (vs:Array Value) (e:Nat) (ws:List Value) (l:IsL h (Θ.a i) vs e) (eq:vs.toList=(Θ.gh i).front ++ ws) (v:VRs gv Θ n xs ws) (few:(Θ.gh i).front.length<=1000000)
def OR(gv:Nat->Option Value)(an:An)(Θ:Th)(n:Nat)(h:Heap)(i:Nat):O->Prop
 | .list xs=>∃vs e,IsL h (Θ.a i) vs e/\VRs gv Θ n xs vs.toList
 | .tuple xs=>∃vs e,IsT h (Θ.a i) vs e/\VRs gv Θ n xs vs.toList
 | .inst c fs=>InsAt gv an Θ n h i c fs
 | .log xs=>LogAt gv Θ n h i xs
 | .ghost t=>Told t (Θ.gh i).pre (Θ.gh i).suf (Θ.gh i).pl
 | .pool=>∃a b ta tb e,IsL h (Θ.a i) #[.int a ta, .int b tb] e/\0<=a/\0<=b/\b<2147483648
 | .dict _=>False
 | .lz c ws t=>LzAt gv an Θ n h i c ws t
def K7(Θ:Th)(i:Nat):Prop:=(Θ.gh i).pre.length+(Θ.gh i).suf.length<=D4
noncomputable def frs(fs:List Env):List Addr:=fs.filterMap (·.frame)
structure St(gv:Nat->Option Value)(an:An)(A0:Heap)(Θ:Th)(H:Hp)(fs:List Env)(h:Heap):Prop where
 stays:A0.StaysIn h
 nb:H.n<=100001
 obj:∀i,i<H.n->∃o,H.get i=some o/\OR gv an Θ H.n h i o
 lt:∀i,i<H.n->Θ.a i<h.objs.size/\Θ.d i<h.objs.size
 low:∀i,i<H.n->A0.get? (Θ.a i)=none/\A0.get? (Θ.d i)=none
 sep:∀i j,i<H.n->j<H.n->i≠j->Θ.a i≠Θ.a j/\Θ.a i≠Θ.d j/\Θ.d i≠Θ.a j/\Θ.d i≠Θ.d j
 gh:∀i,i<H.n->K7 Θ i
 frames:h.FunFrames A0 fs
 apart:∀i,i<H.n->∀L,L∈frs fs->L≠Θ.a i/\L≠Θ.d i
 wlt:∀i,i<H.n->∀j,j<(Θ.gh i).wn->(Θ.gh i).wa j<h.objs.size/\(Θ.gh i).wb j<h.objs.size
 wsep:∀i,i<H.n->∀j,j<(Θ.gh i).wn->∀k,k<H.n->(Θ.gh i).wa j≠Θ.a k/\(Θ.gh i).wa j≠Θ.d k/\(Θ.gh i).wb j≠Θ.a k/\(Θ.gh i).wb j≠Θ.d k
 wap:∀i,i<H.n->∀L,L∈frs fs->∀j,j<(Θ.gh i).wn->L≠(Θ.gh i).wa j/\L≠(Θ.gh i).wb j
structure Ext(S:List Addr)(X:Addr->Prop)(Θ:Th)(n:Nat)(h:Heap)(Θ':Th)(n':Nat)(h':Heap):Prop where
 le:n<=n'
 same:∀i,i<n->Θ'.a i=Θ.a i/\Θ'.d i=Θ.d i/\Θ'.gh i=Θ.gh i
 new:∀i,n<=i->i<n'->∀z,own Θ' i z->h.objs.size<=z
 keep:∀b o,h.get? b=some o->(∀i,i<n->b≠Θ.a i/\b≠Θ.d i)->¬X b->(b∉S->h'.get? b=some o)/\∃sl,h'.get? b=some {o with slots:=sl}
 size:h.objs.size<=h'.objs.size
abbrev noX:Addr->Prop:=λJ=>False
theorem Ext.refl{S:List Addr}{X:Addr->Prop}{Θ:Th}{n:Nat}{h:Heap}:Ext S X Θ n h Θ n h:=⟨Z0g _,λJ J=>⟨rfl,rfl,rfl⟩,λJ a b=>absurd b (Z1g.mpr a),λJ o e J J=>⟨λJ=>e,o.slots,e⟩,Z0g _⟩
theorem Ext.trans{S:List Addr}{X:Addr->Prop}{Θ Θ' Θ'':Th}{n n' n'':Nat}{h h' h'':Heap}(x:Ext S X Θ n h Θ' n' h')(y:Ext S X Θ' n' h' Θ'' n'' h''):Ext S X Θ n h Θ'' n'' h'' where
 le:=Z0c x.le y.le
 same:=λi hi=>by
  obtain⟨a1,a2,a3⟩:=x.same i hi;refine A7 (y.same i (Z0b hi x.le)) λb1 b2 b3=>?_;exact⟨b1.trans a1,b2.trans a2,b3.trans a3⟩
 new:=λi h1 h2 z hz=>by
  by_cases q:i<n'
  . refine x.new i h1 q z ?_;refine A7 (y.same i q) λb1 b2 b3=>?_;unfold own at hz ⊢;rw[b1,b2,b3] at hz;exact hz
  . exact Z0c x.size (y.new i (Z1g.mp q) h2 z hz)
 keep:=λb o e hb hX=>by
  have out:∀i,i<n'->b≠Θ'.a i/\b≠Θ'.d i:=λi hi=>by
   by_cases q:i<n
   . refine A7 (x.same i q) λa1 a2 J=>?_;rw[a1,a2];exact hb i q
   . haveI:=x.new i (Z1g.mp q) hi;haveI l:=Z0i e;exact⟨Z0k (Z0b l (this _ (.inl rfl))),Z0k (Z0b l (this _ (.inr (.inl rfl))))⟩
  obtain⟨k1,sl,k2⟩:=x.keep b o e hb hX;obtain⟨_,sl',j2⟩:=y.keep b _ k2 out hX;exact⟨λhS=>(y.keep b o (k1 hS) out hX).1 hS,sl',j2⟩
 size:=Z0c x.size y.size
theorem Ext.weak{S:List Addr}{X:Addr->Prop}{Θ Θ':Th}{n n':Nat}{h h':Heap}(x:Ext S noX Θ n h Θ' n' h'):Ext S X Θ n h Θ' n' h':=
 ⟨x.le,x.same,x.new,λb o e hb J=>x.keep b o e hb (λq=>q),x.size⟩
theorem Ext.ns{S:List Addr}{X:Addr->Prop}{Θ Θ':Th}{n n':Nat}{h h':Heap}{a:Addr}{m:Str->Option Value}(x:Ext S X Θ n h Θ' n' h')(hn:h.Ns a m)(ha:∀i,i<n->a≠Θ.a i/\a≠Θ.d i)(hX:¬X a):h'.Ns a m:=by
 refine G4 hn λo es ep e d r=>?_;obtain⟨_,sl,e'⟩:=x.keep a o e ha hX;exact S9 _ es ep e' d r
section
variable{an:An}{Θ Θ':Th}{n':Nat}
theorem VR.up{v:V}{cv:Value}(hn:n<=n')(hs:∀i,i<n->Θ'.a i=Θ.a i/\Θ'.d i=Θ.d i/\Θ'.gh i=Θ.gh i)(x:VR gv Θ n v cv):VR gv Θ' n' v cv:=by
 cases v with
 |lin g k=>obtain⟨a,t,e⟩:=x;exact⟨Z0b a hn,t,by rw[(hs g a).2.2];exact e⟩
 |pl g k=>obtain⟨a,t,e⟩:=x;exact⟨Z0b a hn,t,by rw[(hs g a).2.2];exact e⟩
 |tlen g m=>obtain⟨a,t,e⟩:=x;exact⟨Z0b a hn,t,by rw[(hs g a).2.2];exact e⟩
 |txt g s o=>obtain⟨a,t,e⟩:=x;exact⟨Z0b a hn,t,by rw[(hs g a).2.2];exact e⟩
 |ref i=>obtain⟨a,e⟩:=x;exact⟨Z0b a hn,by rw[(hs i a).1];exact e⟩
 |wd i j=>obtain⟨a,b,e⟩:=x;exact⟨Z0b a hn,by rw[(hs i a).2.2];exact b,by rw[(hs i a).2.2];exact e⟩
 |wl i k=>obtain⟨a,t,e⟩:=x;exact⟨Z0b a hn,t,by rw[(hs i a).2.2];exact e⟩
 |_=>exact x
theorem VR.ext{S:List Addr}{X:Addr->Prop}{h h':Heap}{v:V}{cv:Value}(E:Ext S X Θ n h Θ' n' h')(x:VR gv Θ n v cv):VR gv Θ' n' v cv:=x.up E.le E.same
theorem VRs.up{vs:List V}{cvs:List Value}(hn:n<=n')(hs:∀i,i<n->Θ'.a i=Θ.a i/\Θ'.d i=Θ.d i/\Θ'.gh i=Θ.gh i)(x:VRs gv Θ n vs cvs):VRs gv Θ' n' vs cvs:=D8.imp (λJ J=>VR.up hn hs) x
theorem VRs.len{vs:List V}{cvs:List Value}(x:VRs gv Θ n vs cvs):vs.length=cvs.length:=D8.len x
theorem VRs.app{vs:List V}{cvs:List Value}{us:List V}{cus:List Value}(x:VRs gv Θ n vs cvs)(y:VRs gv Θ n us cus):VRs gv Θ n (vs ++ us) (cvs ++ cus):=D8.app x y
theorem H8.up{fs:List (Nat × V)}{m:Str->Option Value}(hn:n<=n')(hs:∀i,i<n->Θ'.a i=Θ.a i/\Θ'.d i=Θ.d i/\Θ'.gh i=Θ.gh i)(F:H8 gv an Θ n fs m):H8 gv an Θ' n' fs m:=by
 intro x;haveI:=F x;split at this
 . rename_i i e;split at this
   . rename_i v e2;refine A1 this λcv a b=>?_;exact A6 cv a (b.up hn hs)
   . exact this
 . exact this
theorem WdAt.up{h h':Heap}{c:Nat}{a d:Addr}{fs:List (Nat × V)}(hn:n<=n')(hs:∀i,i<n->Θ'.a i=Θ.a i/\Θ'.d i=Θ.d i/\Θ'.gh i=Θ.gh i)(ka:∀b,h.get? a=some b->h'.get? a=some b)(kd:∀b,h.get? d=some b->h'.get? d=some b)
 (x:WdAt gv an Θ n h c a d fs):WdAt gv an Θ' n' h' c a d fs:=by
 obtain⟨C,m,z,p,q,r,f⟩:=x
 exact⟨C,m,z,p,ka _ q,r.at kd,f.up hn hs⟩
theorem OR.up{h h':Heap}{i:Nat}{o:O}(hi:i<n)(hn:n<=n')(hs:∀i,i<n->Θ'.a i=Θ.a i/\Θ'.d i=Θ.d i/\Θ'.gh i=Θ.gh i)
 (kk:∀z,own Θ i z->∀b,h.get? z=some b->h'.get? z=some b) (x:OR gv an Θ n h i o):OR gv an Θ' n' h' i o:=by
 have ka:∀b,h.get? (Θ.a i)=some b->h'.get? (Θ.a i)=some b:=kk _ (.inl rfl)
 haveI kd:∀b,h.get? (Θ.d i)=some b->h'.get? (Θ.d i)=some b:=kk _ (.inr (.inl rfl))
 refine A7 (hs i hi) λha hd hg=>?_
 cases o with
 |list xs=>obtain⟨vs,e,a,b⟩:=x;exact L7 vs e (by rw[ha];exact ka _ a) (b.up hn hs)
 |tuple xs=>obtain⟨vs,e,a,b⟩:=x;exact L7 vs e (by rw[ha];exact ka _ a) (b.up hn hs)
 |inst c fs=>obtain⟨C,m,z,a,b,d,f,cl⟩:=x;exact⟨C,m,(by rw[ha,hd];exact z),a,(by rw[ha,hd];exact ka _ b),(by rw[hd];exact d.at kd),f.up hn hs,cl⟩
 |log xs=>obtain⟨vs,e,ws,a,b,c,d⟩:=x;exact⟨vs,e,ws,(by rw[ha];exact ka _ a),(by rw[hg];exact b),c.up hn hs,(by rw[hg];exact d)⟩
 |ghost w=>show Told _ _ _ _;rw[hg];exact x
 |pool=>obtain⟨a,b,ta,tb,e,q,r⟩:=x;exact B50 a b ta tb e (by rw[ha];exact ka _ q) r
 |dict _=>exact x.elim
 |lz c ws t=>
  obtain⟨c1,c2,vs,e,path,l1,l2,l3,l4,l5,l6⟩:=x;haveI lj:∀(j:Nat) fs,(ws ++ path)[j]?=some fs->j<(Θ.gh i).wn:=λj fs hj=>Z0b (Z1m.mp hj).1 (Z0z (List.length_append.trans l4));refine⟨c1,by rw[hg];exact c2,vs,e,path,by rw[ha];exact ka _ l1,l2,by rw[hg];exact l3,by rw[hg];exact l4,by rw[hg];exact l5,λj fs hj=>?_⟩;rw[hg];exact(l6 j fs hj).up hn hs (kk _ (.inr (.inr ⟨j,lj j fs hj, .inl rfl⟩))) (kk _ (.inr (.inr ⟨j,lj j fs hj, .inr rfl⟩)))
end
variable{Θ Θ':Th}{an:An}
theorem W7{h h':Heap}:∀{l:List Env},h.FunFrames A0 l->(∀env∈l,∀L,env.frame=some L->∃o,h'.get? L=some o/\∀vs,o.data≠ .fields vs)->h'.FunFrames A0 l
 | [],_,_=>trivial
 |env :: rest,⟨hk,⟨L,o,hf,hn,ho,hd⟩,hr⟩,x=>by
  refine A1 (x env (.head _) L hf) λo' e1 e2=>?_;exact O2 hk ⟨L,o',hf,hn,e1,e2⟩ (W7 hr λe he=>x e (.tail _ he))
theorem S6{h:Heap}{l:List Env}(x:h.FunFrames A0 l)(env:Env)(he:env∈l):∃L o,env.frame=some L/\A0.get? L=none/\h.get? L=some o/\(∀vs,o.data≠ .fields vs):=by
 induction l with
 |nil=>cases he
 |cons e r ih=>
  refine A7 x λJ q'1 hr=>?_;refine K6 q'1 λL o hf hn ho hd=>?_;rcases List.mem_cons.mp he with q | q
  . rw[q];exact A2x L o hf hn ho hd
  . exact ih hr q
theorem St.but(S:St gv an A0 Θ H fs h){X:Addr->Prop}(k:∀b o,h.get? b=some o->¬X b->h'.get? b=some o)(hsz:h.objs.size<=h'.objs.size)(hX:∀i,i<H.n->∀z,own Θ i z->¬X z)
 (hb:∀b o,A0.get? b=some o->¬X b) (hf:h'.FunFrames A0 fs):St gv an A0 Θ H fs h' where
 stays:=λb o e=>k b o (S.stays b o e) (hb b o e)
 nb:=S.nb
 obj:=λi hi=>by
  refine A1 (S.obj i hi) λo e r=>?_;exact A6 o e (r.up hi (Z0g _) (λJ J=>⟨rfl,rfl,rfl⟩) (λz hz b e=>k _ _ e (hX i hi z hz)))
 lt:=λi hi=>⟨Z0b (S.lt i hi).1 hsz,Z0b (S.lt i hi).2 hsz⟩
 low:=S.low
 sep:=S.sep
 gh:=S.gh
 frames:=hf
 apart:=S.apart
 wlt:=λi hi j hj=>⟨Z0b (S.wlt i hi j hj).1 hsz,Z0b (S.wlt i hi j hj).2 hsz⟩
 wsep:=S.wsep
 wap:=S.wap
theorem St.keeps(S:St gv an A0 Θ H fs h)(k:∀b o,h.get? b=some o->h'.get? b=some o)(hsz:h.objs.size<=h'.objs.size):St gv an A0 Θ H fs h':=
 S.but (X:=noX) (λb o e J=>k b o e) hsz (λJ J J J q=>q) (λJ J J q=>q) (S.frames.of_keeps λb o e J=>⟨o,k b o e,rfl⟩)
theorem Ext.keeps{Sl:List Addr}{X:Addr->Prop}{n:Nat}(k:∀b o,h.get? b=some o->h'.get? b=some o)(hsz:h.objs.size<=h'.objs.size):Ext Sl X Θ n h Θ n h':=
 ⟨Z0g _,λJ J=>⟨rfl,rfl,rfl⟩,λJ a b=>absurd b (Z1g.mpr a),λb o e J J=>⟨λJ=>k b o e,o.slots,k b o e⟩,hsz⟩
noncomputable def Th.set(Θ:Th)(n:Nat)(a d:Addr)(g:Gh):Th:=⟨λi=>if i=n then a else Θ.a i,λi=>if i=n then d else Θ.d i,λi=>if i=n then g else Θ.gh i⟩
theorem Th.set_old(Θ:Th)(n:Nat)(a d:Addr)(g:Gh):∀i,i<n->(Θ.set n a d g).a i=Θ.a i/\(Θ.set n a d g).d i=Θ.d i/\(Θ.set n a d g).gh i=Θ.gh i:=λi hi=>by
 haveI:¬i=n:=Z0k hi;exact⟨Z0m this,Z0m this,Z0m this⟩
theorem Th.set_new(Θ:Th)(n:Nat)(a d:Addr)(g:Gh):(Θ.set n a d g).a n=a/\(Θ.set n a d g).d n=d/\(Θ.set n a d g).gh n=g:=⟨Z0p rfl,Z0p rfl,Z0p rfl⟩
noncomputable def gh0:Gh:=⟨[],[],λJ=>0,[],0,λJ=>0,λJ=>0⟩
theorem St.add(S:St gv an A0 Θ H fs h)(hst:A0.StaysIn h')(hfr:h'.FunFrames A0 fs){a d:Nat}{g:Gh}{o:O}(hn:H.n<=100000)(k:∀b x,h.get? b=some x->(b∉frs fs->h'.get? b=some x)/\∃sl,h'.get? b=some {x with slots:=sl})(ha:h.objs.size<=a/\a<h'.objs.size)(hd:h.objs.size<=d/\d<h'.objs.size)
 (hg:g.pre.length+g.suf.length<=D4) (hw:∀j,j<g.wn->(h.objs.size<=g.wa j/\g.wa j<h'.objs.size/\g.wa j≠a/\g.wa j≠d)/\h.objs.size<=g.wb j/\g.wb j<h'.objs.size/\g.wb j≠a/\g.wb j≠d) (ho:OR gv an (Θ.set H.n a d g) (H.n+1) h' H.n o) :
 St gv an A0 (Θ.set H.n a d g) (H.new o) fs h'/\Ext (frs fs) noX Θ H.n h (Θ.set H.n a d g) (H.new o).n h':=by
 have hsz:h.objs.size<=h'.objs.size:=by lia
 haveI lt':∀i,i<H.n->Θ.a i<h'.objs.size/\Θ.d i<h'.objs.size:=λi hi=>⟨Z0b (S.lt i hi).1 hsz,Z0b (S.lt i hi).2 hsz⟩
 have old:=Th.set_old Θ H.n a d g
 have nw:=Th.set_new Θ H.n a d g
 have hlt:H.n<2 ^ 39:=Z0t hn (by decide)
 have fresh:∀x:Nat,h.objs.size<=x->A0.get? x=none:=λx hx=>by
  cases q:A0.get? x with
  |none=>rfl
  |some o=>exact absurd (Z0b (Z0i (S.stays _ _ q)) hx) (Z1e _)
 have cs:∀i,i<(H.new o).n->i<H.n\/i=H.n:=λi hi=>Nat.lt_succ_iff_lt_or_eq.mp hi
 refine⟨⟨hst,by simp only[Hp.new_n];lia,λi hi=>?_,λi hi=>?_,λi hi=>?_,λi j hi hj hij=>?_,λi hi=>?_,hfr,λi hi L hL=>?_,λi hi j hj=>?_,λi hi j hj m hm=>?_,λi hi L hL j hj=>?_⟩,
  ⟨Z1d _,old,λi h1 h2 z hz=>?_,λb x e J J=>k b x e,hsz⟩⟩
 . rcases cs i hi with q | rfl
   . refine A1 (S.obj i q) λx e r=>?_
     refine A6 x (by rw[Hp.get_new hlt,Z0m (Z0k q)];exact e) (?_)
     exact r.up q (Z1d _) old (λz hz b e=>(k _ _ e).1 λhL=>by
      rcases hz with rfl | rfl | ⟨j,hj,rfl | rfl⟩
      . exact(S.apart i q _ hL).1 rfl
      . exact(S.apart i q _ hL).2 rfl
      . exact(S.wap i q _ hL j hj).1 rfl
      . exact(S.wap i q _ hL j hj).2 rfl)
   . exact A6 o (by rw[Hp.get_new hlt,Z0p rfl]) ho
 . rcases cs i hi with q | rfl
   . rw[(old i q).1,(old i q).2.1];exact lt' i q
   . rw[nw.1,nw.2.1];exact⟨ha.2,hd.2⟩
 . rcases cs i hi with q | rfl
   . rw[(old i q).1,(old i q).2.1];exact S.low i q
   . rw[nw.1,nw.2.1];exact⟨fresh _ ha.1,fresh _ hd.1⟩
 . rcases cs i hi with q | rfl <;> rcases cs j hj with q' | rfl
   . rw[(old i q).1,(old i q).2.1,(old j q').1,(old j q').2.1];exact S.sep i j q q' hij
   . rw[(old i q).1,(old i q).2.1,nw.1,nw.2.1]
     haveI:=S.lt i q
     exact⟨Z0k (Z0b this.1 ha.1),Z0k (Z0b this.1 hd.1),Z0k (Z0b this.2 ha.1),Z0k (Z0b this.2 hd.1)⟩
   . rw[(old j q').1,(old j q').2.1,nw.1,nw.2.1]
     haveI:=S.lt j q'
     exact⟨Z0q (Z0b this.1 ha.1),Z0q (Z0b this.2 ha.1),Z0q (Z0b this.1 hd.1),Z0q (Z0b this.2 hd.1)⟩
   . exact absurd rfl hij
 . rcases cs i hi with q | rfl
   . unfold K7;rw[(old i q).2.2];exact S.gh i q
   . unfold K7;rw[nw.2.2];exact hg
 . rcases cs i hi with q | rfl
   . rw[(old i q).1,(old i q).2.1];exact S.apart i q L hL
   . obtain⟨_,x,e,_⟩:=S.frames.mem hL
     haveI:=Z0i e
     rw[nw.1,nw.2.1];exact⟨Z0k (Z0b this ha.1),Z0k (Z0b this hd.1)⟩
 . rcases cs i hi with q | rfl
   . rw[(old i q).2.2] at hj ⊢
     haveI:=S.wlt i q j hj
     exact⟨Z0b this.1 hsz,Z0b this.2 hsz⟩
   . rw[nw.2.2] at hj ⊢
     haveI:=hw j hj
     exact⟨this.1.2.1,this.2.2.1⟩
 . rcases cs i hi with q | rfl
   . rw[(old i q).2.2] at hj ⊢
     rcases cs m hm with q' | rfl
     . rw[(old m q').1,(old m q').2.1];exact S.wsep i q j hj m q'
     . rw[nw.1,nw.2.1]
       haveI:=S.wlt i q j hj
       exact⟨Z0k (Z0b this.1 ha.1),Z0k (Z0b this.1 hd.1),Z0k (Z0b this.2 ha.1),Z0k (Z0b this.2 hd.1)⟩
   . rw[nw.2.2] at hj ⊢
     have:=hw j hj
     rcases cs m hm with q' | rfl
     . rw[(old m q').1,(old m q').2.1]
       have l:=S.lt m q'
       exact⟨Z0q (Z0b l.1 this.1.1),Z0q (Z0b l.2 this.1.1),Z0q (Z0b l.1 this.2.1),Z0q (Z0b l.2 this.2.1)⟩
     . rw[nw.1,nw.2.1];exact T4 this.1.2.2.1 this.1.2.2.2 this.2.2.2.1 this.2.2.2.2
 . rcases cs i hi with q | rfl
   . rw[(old i q).2.2] at hj ⊢;exact S.wap i q L hL j hj
   . rw[nw.2.2] at hj ⊢
     have t:=hw j hj
     obtain⟨_,x,e,_⟩:=S.frames.mem hL
     have:=Z0i e
     exact⟨Z0k (Z0b this t.1.1),Z0k (Z0b this t.2.1)⟩
 . obtain rfl:i=H.n:=by simp only[Hp.new_n] at h2;lia
   rcases hz with hz | hz | ⟨j,hj,hz⟩
   . rw[hz,nw.1];exact ha.1
   . rw[hz,nw.2.1];exact hd.1
   . rw[nw.2.2] at hj hz
     have:=hw j hj
     rcases hz with hz | hz
     . rw[hz];exact this.1.1
     . rw[hz];exact this.2.1
theorem St.new(S:St gv an A0 Θ H fs h){a d:Nat}{g:Gh}{o:O}(hn:H.n<=100000)(k:∀b x,h.get? b=some x->h'.get? b=some x)(ha:h.objs.size<=a/\a<h'.objs.size)(hd:h.objs.size<=d/\d<h'.objs.size)
 (hg:g.pre.length+g.suf.length<=D4) (hw:∀j,j<g.wn->(h.objs.size<=g.wa j/\g.wa j<h'.objs.size/\g.wa j≠a/\g.wa j≠d)/\h.objs.size<=g.wb j/\g.wb j<h'.objs.size/\g.wb j≠a/\g.wb j≠d) (ho:OR gv an (Θ.set H.n a d g) (H.n+1) h' H.n o) :
 St gv an A0 (Θ.set H.n a d g) (H.new o) fs h'/\Ext (frs fs) noX Θ H.n h (Θ.set H.n a d g) (H.new o).n h':=
 S.add (S.keeps k (Z0o (Z0t hd.1 hd.2))).stays (S.keeps k (Z0o (Z0t hd.1 hd.2))).frames hn (λb x e=>⟨λJ=>k b x e,x.slots,k b x e⟩) ha hd hg hw ho
theorem St.put(S:St gv an A0 Θ H fs h){i:Nat}{o:O}(hi:i<H.n)(k:∀b x,h.get? b=some x->b≠Θ.a i->b≠Θ.d i->h'.get? b=some x)(hsz:h.objs.size<=h'.objs.size)(ho:OR gv an Θ H.n h' i o) :
 St gv an A0 Θ (H.put i o) fs h'/\Ext (frs fs) noX Θ H.n h Θ (H.put i o).n h':=by
 haveI hlt:i<2 ^ 39:=Z0b hi (Z0c S.nb (by decide))
 refine⟨⟨λb x e=>k b x (S.stays b x e) ?_ ?_,S.nb,λj hj=>?_,λj hj=>?_,S.low,S.sep,S.gh,?_,S.apart,λm hm j hj=>⟨Z0b (S.wlt m hm j hj).1 hsz,Z0b (S.wlt m hm j hj).2 hsz⟩,S.wsep,S.wap⟩,⟨Z0g _,λJ J=>⟨rfl,rfl,rfl⟩,λj h1 h2=>absurd h2 (Z1g.mpr h1),λb x e hb J=>⟨λJ=>k b x e (hb i hi).1 (hb i hi).2,x.slots,k b x e (hb i hi).1 (hb i hi).2⟩,hsz⟩⟩
 . intro q;subst q;rw[(S.low i hi).1] at e;exact nn e
 . intro q;subst q;rw[(S.low i hi).2] at e;exact nn e
 . by_cases q:j=i
   . subst q;exact A6 o (by rw[Hp.get_put hlt,Z0p rfl]) ho
   . refine A1 (S.obj j hj) λx e r=>?_
     refine A6 x (by rw[Hp.get_put hlt,Z0m q];exact e) (?_)
     haveI sp:=S.sep j i hj hi q
     refine r.up hj (Z0g _) (λJ J=>⟨rfl,rfl,rfl⟩) (λz hz b e=>k _ _ e ?_ ?_)
     . rcases hz with rfl | rfl | ⟨m,hm,rfl | rfl⟩
       . exact sp.1
       . exact sp.2.2.1
       . exact(S.wsep j hj m hm i hi).1
       . exact(S.wsep j hj m hm i hi).2.2.1
     . rcases hz with rfl | rfl | ⟨m,hm,rfl | rfl⟩
       . exact sp.2.1
       . exact sp.2.2.2
       . exact(S.wsep j hj m hm i hi).2.1
       . exact(S.wsep j hj m hm i hi).2.2.2
 . exact⟨Z0b (S.lt j hj).1 hsz,Z0b (S.lt j hj).2 hsz⟩
 . refine W7 S.frames λenv he L hL=>?_
   refine K6 (S6 S.frames env he) λL' o' hf J e d=>?_
   obtain rfl:L=L':=Z0a (hL.symm.trans hf)
   haveI:=S.apart i hi L (Z2h.mpr ⟨env,he,hL⟩)
   exact A6 o' (k _ _ e this.1 this.2) d
theorem St.enter(S:St gv an A0 Θ H fs h){env:Env}{m:Str->Option Value}(hk:env.scope.kind≠ .module)(hf:env.frame=some h.objs.size)(hn:h'.Ns h.objs.size m)
 (k:∀b o,h.get? b=some o->h'.get? b=some o):St gv an A0 Θ H (env :: fs) h':=by
 haveI hsz:h.objs.size<=h'.objs.size:=Z0o hn.lt
 haveI S':=S.keeps k hsz
 haveI hl:A0.get? h.objs.size=none:=Heap.StaysIn.fresh S.stays
 refine⟨S'.stays,S.nb,S'.obj,S'.lt,S.low,S.sep,S.gh,Heap.FunFrames.cons hk hf hn hl S'.frames,λi hi L hL=>?_,S'.wlt,S.wsep,λi hi L hL j hj=>?_⟩
 . unfold frs at hL
   rw[List.filterMap_cons,hf] at hL
   rcases List.mem_cons.mp hL with rfl | hL
   . exact⟨Z0q (S.lt i hi).1,Z0q (S.lt i hi).2⟩
   . exact S.apart i hi L hL
 . unfold frs at hL
   rw[List.filterMap_cons,hf] at hL
   rcases List.mem_cons.mp hL with rfl | hL
   . exact⟨Z0q (S.wlt i hi j hj).1,Z0q (S.wlt i hi j hj).2⟩
   . exact S.wap i hi L hL j hj
theorem F5{env:Env}{L:Addr}(hL:L∈frs fs):L∈frs (env :: fs):=by
 unfold frs at hL ⊢;refine re List.filterMap_cons ?_;cases env.frame with
 |none=>exact hL
 |some x=>exact .tail _ hL
theorem St.leave{env:Env}(S:St gv an A0 Θ H (env :: fs) h):St gv an A0 Θ H fs h:=
 ⟨S.stays,S.nb,S.obj,S.lt,S.low,S.sep,S.gh,S.frames.2.2,λi hi L hL=>S.apart i hi L (F5 hL),S.wlt,S.wsep,λi hi L hL=>S.wap i hi L (F5 hL)⟩
theorem St.store{env:Env}(S:St gv an A0 Θ H (env :: fs) h){L:Addr}{m:Str->Option Value}(hL:env.frame=some L)(hn:h'.Ns L m)(hs:Heap.SameBut L h h'):St gv an A0 Θ H (env :: fs) h':=by
 have hm:L∈(env :: fs).filterMap (·.frame):=by simp only[List.filterMap_cons,hL];exact .head _
 refine S.but (X:=λb=>b=L) (λb o e hb=>(hs.2 b hb).trans e) (Z0z hs.1.symm) (λi hi z hz=>?_) (λb o e q=>?_) ?_
 . have:=S.apart i hi L hm;rcases hz with rfl | rfl | ⟨j,hj,rfl | rfl⟩
   . exact λq=>this.1 q.symm
   . exact λq=>this.2 q.symm
   . exact λq=>(S.wap i hi L hm j hj).1 q.symm
   . exact λq=>(S.wap i hi L hm j hj).2 q.symm
 . subst q;rw[(S.frames.mem hm).1] at e;exact nn e
 . refine W7 S.frames λe he L' hL'=>?_;by_cases q:L'=L
   . subst q;refine G4 hn λo es ep a b J=>?_;exact⟨o,a,λvs z=>by rw[b] at z;cases z⟩
   . refine K6 (S6 S.frames e he) λL₂ o' hf J e1 d=>?_;obtain rfl:L'=L₂:=Z0a (hL'.symm.trans hf);exact A6 o' ((hs.2 L' q).trans e1) d
def TB(A0:Heap)(lo:Nat)(e:Addr)(v1:Value)(L:Addr)(h:Heap):Prop:=
 v1= .none\/∃T oT ts,v1= .ref T/\(T≠e/\lo<=T)/\A0.get? T=none/\h.get? T=some oT/\oT.data= .fields ts/\(ts[3]?=some .none\/ts[3]?=some (rawInt L))
def TH(A0:Heap)(lo:Nat)(e:Addr)(v1:Value)(f:Value)(h:Heap):Prop:=
 ∃T oT ts,v1= .ref T/\(T≠e/\lo<=T)/\A0.get? T=none/\h.get? T=some oT/\oT.data= .fields ts/\ts[3]?=some f
def EP(gv:Nat->Option Value)(Θ:Th)(n:Nat)(pv:V)(dx:Addr)(h:Heap):Prop:=
 ∃m cv,h.Ns1 dx m/\(∃x t,m (Str.ofString "message")=some (.str x t))/\m (Str.ofString "place")=some cv/\VR gv Θ n pv cv
structure XAt(gv:Nat->Option Value)(A0:Heap)(lo:Nat)(pc:Addr)(Θ:Th)(n:Nat)(pv:V)(e:Addr)(v1:Value)(h:Heap):Prop where
 obj:∃dx vs sl,h.get? e=some ⟨.ref pc,some dx, .fields vs,sl⟩/\vs[1]?=some v1/\EP gv Θ n pv dx h
 low:A0.get? e=none
 lo:lo<=e
def XIs(gv:Nat->Option Value)(A0:Heap)(lo:Nat)(pc:Addr)(Θ:Th)(n:Nat)(L:Addr)(pv:V)(e:Addr)(h:Heap):Prop:=
 ∃v1,XAt gv A0 lo pc Θ n pv e v1 h/\TB A0 lo e v1 L h
def H9(gv:Nat->Option Value)(A0:Heap)(lo:Nat)(pc:Addr)(Θ:Th)(n:Nat)(f:Value)(pv:V)(e:Addr)(h:Heap):Prop:=
 ∃v1,XAt gv A0 lo pc Θ n pv e v1 h/\TH A0 lo e v1 f h
theorem H9.is{lo:Nat}{Θ:Th}{n:Nat}{L:Addr}{pv:V}{e:Addr}{h:Heap}(x:H9 gv A0 lo pc Θ n .none pv e h):XIs gv A0 lo pc Θ n L pv e h:=by
 obtain⟨v1,a,T,oT,ts,b1,b2,b3,b4,b5,b6⟩:=x;exact A6 v1 a (.inr ⟨T,oT,ts,b1,b2,b3,b4,b5, .inl b6⟩)
theorem H9.is'{lo:Nat}{Θ:Th}{n:Nat}{L:Addr}{pv:V}{e:Addr}{h:Heap}(x:H9 gv A0 lo pc Θ n (rawInt L) pv e h):XIs gv A0 lo pc Θ n L pv e h:=by
 obtain⟨v1,a,T,oT,ts,b1,b2,b3,b4,b5,b6⟩:=x;exact A6 v1 a (.inr ⟨T,oT,ts,b1,b2,b3,b4,b5, .inr b6⟩)
structure Kept(S:List Addr)(lo:Nat)(h h':Heap):Prop where
 size:h.objs.size<=h'.objs.size
 keep:∀(b:Nat) o,h.get? b=some o->(b<lo\/∀vs,o.data≠ .fields vs)->(b∉S->h'.get? b=some o)/\∃sl,h'.get? b=some {o with slots:=sl}
theorem Kept.refl(S:List Addr)(lo:Nat)(h:Heap):Kept S lo h h:=⟨Z0g _,λb o e J=>⟨λJ=>e,o.slots,e⟩⟩
theorem Kept.trans{S:List Addr}{lo:Nat}{h h' h'':Heap}(x:Kept S lo h h')(y:Kept S lo h' h''):Kept S lo h h'':=
 ⟨Z0c x.size y.size,λb o e d=>by
  obtain⟨a1,sl,a2⟩:=x.keep b o e d;obtain⟨_,sl',b2⟩:=y.keep b _ a2 d;exact⟨λhb=>(y.keep b o (a1 hb) d).1 hb,sl',b2⟩⟩
theorem Kept.ns1{S:List Addr}{lo:Nat}{h h':Heap}{a:Addr}{m:Str->Option Value}(k:Kept S lo h h')(x:h.Ns1 a m):h'.Ns1 a m:=by
 refine G4 x λo es ep e d r=>?_;obtain⟨_,sl,e'⟩:=k.keep a o e (.inr λvs q=>by rw[d] at q;cases q);exact S9 _ es ep e' d r
theorem Kept.of_slots{S:List Addr}{lo:Nat}{h h':Heap}(x:Heap.SlotsOnly S h h'):Kept S lo h h':=
 ⟨Z0z x.1.symm,λb o e J=>⟨λhb=>(x.2.1 b hb).trans e,x.2.2 b o e⟩⟩
theorem Kept.onRec{S:List Addr}{lo:Nat}{h h':Heap}(hs:h.objs.size<=h'.objs.size)(k:∀(b:Nat) o,h.get? b=some o->(b<lo\/∀vs,o.data≠ .fields vs)->h'.get? b=some o):Kept S lo h h':=
 ⟨hs,λb o e d=>⟨λJ=>k b o e d,o.slots,k b o e d⟩⟩
theorem Ext.kept{S:List Addr}{X:Addr->Prop}{Θ Θ':Th}{n n':Nat}{h h' h'':Heap}(x:Ext S X Θ n h Θ' n' h')(k:Kept S h.objs.size h' h''):Ext S X Θ n h Θ' n' h'':=
 ⟨x.le,x.same,x.new,λb o e hb hX=>by
  obtain⟨k1,sl,k2⟩:=x.keep b o e hb hX;haveI l:b<h.objs.size:=Z0i e;obtain⟨_,sl',j2⟩:=k.keep b _ k2 (.inl l);exact⟨λhS=>(k.keep b o (k1 hS) (.inl l)).1 hS,sl',j2⟩,Z0c x.size k.size⟩
theorem EP.kept{Θ:Th}{n:Nat}{pv:V}{dx:Addr}{S:List Addr}{lo:Nat}{h h':Heap}(k:Kept S lo h h')(x:EP gv Θ n pv dx h):EP gv Θ n pv dx h':=by
 refine B4 x λm cv a b=>?_;exact L7 m cv (k.ns1 a) b
theorem OR.data{an:An}{Θ:Th}{n:Nat}{h h':Heap}{i:Nat}{o:O}(x:OR gv an Θ n h i o)
 (kk:∀z,own Θ i z->∀b,h.get? z=some b->(∀vs,b.data≠ .fields vs)->h'.get? z=some b):OR gv an Θ n h' i o:=by
 have ka:=kk _ (.inl rfl)
 haveI kd:=kk _ (.inr (.inl rfl))
 haveI nf:∀{c d x e sl},(∀vs,(Obj.mk c d (.seq x e) sl).data≠ .fields vs):=λvs q=>nomatch q
 cases o with
 |list xs=>obtain⟨vs,e,a,b⟩:=x;exact L7 vs e (ka _ a nf) b
 |tuple xs=>obtain⟨vs,e,a,b⟩:=x;exact L7 vs e (ka _ a nf) b
 |inst c fs=>
  obtain⟨C,m,z,a,b,d,f,cl⟩:=x;refine⟨C,m,z,a,ka _ b (λvs q=>nomatch q),?_,f,cl⟩
  obtain⟨o',es,ep,e1,e2,r⟩:=d;exact⟨o',es,ep,kd _ e1 (λvs q=>by rw[e2] at q;cases q),e2,r⟩
 |log xs=>obtain⟨vs,e,ws,a,b,c,d⟩:=x;exact⟨vs,e,ws,ka _ a nf,b,c,d⟩
 |ghost w=>trivial
 |pool=>obtain⟨a,b,ta,tb,e,q,r⟩:=x;exact B50 a b ta tb e (ka _ q nf) r
 |dict _=>exact x.elim
 |lz c ws t=>
  obtain⟨c1,c2,vs,e,path,l1,l2,l3,l4,l5,l6⟩:=x;refine⟨c1,c2,vs,e,path,ka _ l1 nf,l2,l3,l4,l5,λj fs hj=>?_⟩;haveI lj:j<(Θ.gh i).wn:=by have:=(Z1m.mp hj).1;rw[List.length_append] at this;exact Z0b this (Z0z l4)
  obtain⟨C,m,z,a,b,d,f⟩:=(l6 j fs hj);obtain⟨o',es,ep,e1,e2,r⟩:=d;exact⟨C,m,z,a,kk _ (.inr (.inr ⟨j,lj, .inl rfl⟩)) _ b (λvs q=>nomatch q),⟨o',es,ep,kk _ (.inr (.inr ⟨j,lj, .inr rfl⟩)) _ e1 (λvs q=>by rw[e2] at q;cases q),e2,r⟩,f⟩
theorem St.kept{an:An}{Θ:Th}{H:Hp}{fs:List Env}{lo:Nat}{h h':Heap}(S:St gv an A0 Θ H fs h)(k:Kept (frs fs) lo h h')(hb:A0.StaysIn h'):St gv an A0 Θ H fs h' where
 stays:=hb
 nb:=S.nb
 obj:=λi hi=>by
  refine A1 (S.obj i hi) λo e r=>?_;refine A6 o e (r.data (λz hz b e d=>(k.keep _ _ e (.inr d)).1 λq=>?_));rcases hz with rfl | rfl | ⟨j,hj,rfl | rfl⟩
  . exact(S.apart i hi _ q).1 rfl
  . exact(S.apart i hi _ q).2 rfl
  . exact(S.wap i hi _ q j hj).1 rfl
  . exact(S.wap i hi _ q j hj).2 rfl
 lt:=λi hi=>⟨Z0b (S.lt i hi).1 k.size,Z0b (S.lt i hi).2 k.size⟩
 low:=S.low
 sep:=S.sep
 gh:=S.gh
 frames:=W7 S.frames λenv he L hL=>by
  refine K6 (S6 S.frames env he) λL' o' hf J e d=>?_;obtain rfl:L=L':=Z0a (hL.symm.trans hf);obtain⟨_,sl,e'⟩:=k.keep L o' e (.inr d);exact A6 _ e' d
 apart:=S.apart
 wlt:=λi hi j hj=>⟨Z0b (S.wlt i hi j hj).1 k.size,Z0b (S.wlt i hi j hj).2 k.size⟩
 wsep:=S.wsep
 wap:=S.wap
section
variable{M:Model}
variable{lo:Nat}{pv:V}{e:Addr}
theorem B61{env:Env}{outer:List Env}{L:Addr}{v1 head:Value}{hadNext:Bool}{Q:Unit->Shared->Prop}
 (hfr:A.frames=some (env :: outer)) (hl:s.heap.FunFrames A0 (env :: outer)) (hf:env.frame=some L) (hb:A0.StaysIn s.heap) (X:XAt gv A0 lo pc Θ n pv e v1 s.heap)
 (k:∀h',A0.StaysIn h'->Kept (frs (env :: outer)) lo s.heap h'->H9 gv A0 lo pc Θ n (rawInt L) pv e h'->Q () {s with heap:=h'}) :
 wpAny M A (do let a<-frameOf env;let pl<-entryPlaceOf L hadNext;let b<-EntryCells.newEntry head a .none (rawInt L) .none pl;setField (.ref e) 1 b) Q E s:=by
 rcases X with⟨q'1,low,hlo⟩
 refine G4 q'1 λdx vs sl he h1 ep=>?_
 clear q'1
 have hsz:1<vs.size:=(Z2b.mp h1).1
 have hene:e∉(env :: outer).filterMap (·.frame):=λhm=>by
  obtain⟨_,o,ho,hnf⟩:=hl.mem hm;rw[he] at ho;injection ho with ho;subst ho;exact hnf vs rfl
 refine Z0d (wpAny_frameOf_fun hfr hl hf λh₁ hs₁=>?_)
 refine Z0d (wpAny_entryPlaceOf λpl hpl=>?_)
 refine Z0d (Z3l ?_ (hpl.sizeOk5 _ _ _ _ _))
 have he₁:h₁.get? e=some _:=(hs₁.2.1 e hene).trans he
 have kb₁:A0.StaysIn h₁:=λb o hbo=>(hs₁.2.1 b λhm=>by rw[(hl.mem hm).1] at hbo;exact nn hbo).trans (hb b o hbo)
 generalize hT:([head, .ref L, .none,rawInt L, .none] ++ (if pl.isEmpty then List.replicate 6 Value.none else pl):List Value).toArray=ts
 haveI ht3:ts[3]?=some (rawInt L):=by rw[<-hT];simp
 have he₂:=Z0h (h:=h₁) {cls:= .type "traceback",dict:=none,data:= .fields ts} he₁
 have hTe:h₁.objs.size≠e:=Z0q (Z0i he₁)
 refine Z4v he₂ rfl hsz ?_
 have he₃:=Z4k (Obj.mapFields (·.setIfInBounds 1 (Value.ref h₁.objs.size))) he₂ rfl
 have hT₃:=(Z1s (h₁.push {cls:= .type "traceback",dict:=none,data:= .fields ts}) (Obj.mapFields (·.setIfInBounds 1 (Value.ref h₁.objs.size))) (Ne.symm hTe)).trans (Z0r h₁ rfl)
 have keep:∀b o,b≠e->h₁.get? b=some o->((h₁.push {cls:= .type "traceback",dict:=none,data:= .fields ts}).update e (Obj.mapFields (·.setIfInBounds 1 (Value.ref h₁.objs.size)))).get? b=some o:=
  λb o hbe hb=>by rw[Z1s _ _ (Ne.symm hbe)];exact Z0h _ hb
 have K2:Kept (frs (env :: outer)) lo h₁ ((h₁.push {cls:= .type "traceback",dict:=none,data:= .fields ts}).update e (Obj.mapFields (·.setIfInBounds 1 (Value.ref h₁.objs.size)))):=
  .onRec (by simp only[Heap.size_after_update,Heap.size_push];lia) λb o eb d=>keep b o (λq=>by subst q;rw[he₁] at eb;replace eb:=Z0a eb;subst eb;exact d.elim (λq=>absurd hlo (Nat.not_le.mpr q)) λd=>d vs rfl) eb
 haveI K:=(Kept.of_slots hs₁).trans K2
 refine k _ (λb o hbo=>keep b o (λq=>by subst q;rw[low] at hbo;exact nn hbo) (kb₁ b o hbo)) K ?_
 exact⟨.ref h₁.objs.size,⟨⟨dx,_,sl,he₃,by simp[hsz],ep.kept K⟩,low,hlo⟩,h₁.objs.size,_,ts,rfl,⟨hTe,Z0o (Z0t hlo (Z0i he₁))⟩,kb₁.fresh,hT₃,rfl,ht3⟩
theorem A6s{env:Env}{outer:List Env}{H:Hp}{L:Addr}{Q:Unit->Shared->Prop}(hfr:A.frames=some (env :: outer))(hf:env.frame=some L)(S:St gv an A0 Θ H (env :: outer) s.heap)(X:XIs gv A0 lo pc Θ n L pv e s.heap)
 (k:∀h',St gv an A0 Θ H (env :: outer) h'->Kept (frs (env :: outer)) lo s.heap h'->H9 gv A0 lo pc Θ n (rawInt L) pv e h'->Q () {s with heap:=h'}) :
 wpAny M A (noteFrame (.ref e) env) Q E s:=by
 refine A1 X λv1 X tb=>?_
 haveI X0:=X
 rcases X with⟨q'2,low,hlo⟩
 refine G4 q'2 λdx vs sl he h1 ep=>?_
 clear q'2
 unfold noteFrame
 refine re hf ?_
 refine Z0d (Z3r he rfl h1 ?_)
 rcases tb with rfl | ⟨T,oT,ts,rfl,t1,t2,t3,t4,t5⟩
 . exact B61 hfr S.frames hf S.stays X0 λh' hb K XH=>k h' (S.kept K hb) K XH
 . rcases t5 with t5 | t5
   . refine Z0d (Z3r t3 t4 t5 ?_)
     haveI hsz3:3<ts.size:=(Z2b.mp t5).1
     refine Z0d (Z4v t3 t4 hsz3 ?_)
     have other:∀b,b≠T->(s.heap.update T (Obj.mapFields (·.setIfInBounds 3 Value.none))).get? b=s.heap.get? b:=λb hb=>Z1s _ _ (Ne.symm hb)
     have K1:Kept (frs (env :: outer)) lo s.heap (s.heap.update T (Obj.mapFields (·.setIfInBounds 3 Value.none))):=
      .onRec (by rw[Heap.size_after_update];exact Z0g _) λb o eb d=>(other b (λq=>by subst q;rw[t3] at eb;replace eb:=Z0a eb;subst eb;exact d.elim (λq=>absurd t1.2 (Nat.not_le.mpr q)) λd=>d ts t4)).trans eb
     haveI hb1:A0.StaysIn (s.heap.update T (Obj.mapFields (·.setIfInBounds 3 Value.none))):=λb o hbo=>(other b λq=>by subst q;rw[t2] at hbo;exact nn hbo).trans (S.stays b o hbo)
     haveI S1:=S.kept K1 hb1
     exact B61 (s:={s with heap:=_}) hfr S1.frames hf S1.stays ⟨⟨dx,vs,sl,(other e (Ne.symm t1.1)).trans he,h1,ep.kept K1⟩,low,hlo⟩ λh' hb K XH=>k h' (S.kept (K1.trans K) hb) (K1.trans K) XH
   . refine Z0d (Z3r t3 t4 t5 ?_)
     refine re (Z0p (show(rawInt L==rawInt L)=true from by simp)) ?_
     exact Z0f (k _ S (.refl ..) ⟨_,X0,T,oT,ts,rfl,t1,t2,t3,t4,t5⟩)
theorem A5q{outer:List Env}{H:Hp}{f:Value}{g:Option Addr}{Q:Unit->Shared->Prop}(S:St gv an A0 Θ H outer s.heap)(X:H9 gv A0 lo pc Θ n f pv e s.heap)
 (k:∀h',St gv an A0 Θ H outer h'->Kept (frs outer) lo s.heap h'->H9 gv A0 lo pc Θ n (g.elim .none λf=>rawInt f) pv e h'->Q () {s with heap:=h'}):wpAny M A (setFlight (.ref e) g) Q E s:=by
 rcases X with⟨v1,q'3,T,oT,ts,q'5,t1,t2,t3,t4,t5⟩
 rcases q'3 with⟨q'4,low,hlo⟩
 refine G4 q'4 λdx vs sl he h1 ep=>?_
 clear q'4
 subst q'5
 haveI hsz3:3<ts.size:=(Z2b.mp t5).1
 have other:∀b,b≠T->(s.heap.update T (Obj.mapFields (·.setIfInBounds 3 (g.elim Value.none λf=>rawInt f)))).get? b=s.heap.get? b:=λb hb=>Z1s _ _ (Ne.symm hb)
 refine Z0d (Z3r he rfl h1 ?_)
 have K1:Kept (frs outer) lo s.heap (s.heap.update T (Obj.mapFields (·.setIfInBounds 3 (g.elim Value.none λf=>rawInt f)))):=
  .onRec (by rw[Heap.size_after_update];exact Z0g _) λb o eb d=>(other b (λq=>by subst q;rw[t3] at eb;replace eb:=Z0a eb;subst eb;exact d.elim (λq=>absurd t1.2 (Nat.not_le.mpr q)) λd=>d ts t4)).trans eb
 haveI hb1:A0.StaysIn (s.heap.update T (Obj.mapFields (·.setIfInBounds 3 (g.elim Value.none λf=>rawInt f)))):=λb o hbo=>(other b λq=>by subst q;rw[t2] at hbo;exact nn hbo).trans (S.stays b o hbo)
 refine Z4v t3 t4 hsz3 (k _ (S.kept K1 hb1) K1 ⟨_,⟨⟨dx,vs,sl,(other e (Ne.symm t1.1)).trans he,h1,ep.kept K1⟩,low,hlo⟩,T,_,_,rfl,t1,t2,Z4k _ t3 (Obj.isFreed_of_fields (Obj.data_mapFields t4 _)),Obj.data_mapFields t4 _,by simp[hsz3]⟩)
theorem A50{env:Env}{outer:List Env}{H:Hp}{L:Addr}{Q:Unit->Shared->Prop}(hfr:A.frames=some (env :: outer))(hf:env.frame=some L)(S:St gv an A0 Θ H (env :: outer) s.heap)(X:XIs gv A0 lo pc Θ n L pv e s.heap)
 (k:∀h',St gv an A0 Θ H outer h'->Kept (frs (env :: outer)) lo s.heap h'->H9 gv A0 lo pc Θ n .none pv e h'->Q () {s with heap:=h'}):wpAny M A (leaving env (.ref e)) Q E s:=by
 refine Z0d (A6s hfr hf S X λh1 S1 K1 X1=>?_)
 exact A5q (s:={s with heap:=h1}) (g:=none) S1 X1 λh2 S2 K2 X2=>k h2 S2.leave (K1.trans K2) X2
theorem A9q{env:Env}{outer:List Env}{H:Hp}{L:Addr}(hfr:A.frames=some (env :: outer))(hf:env.frame=some L)(S:St gv an A0 Θ H (env :: outer) s.heap)(X:XIs gv A0 lo pc Θ n L pv e s.heap)
 (k:∀h',St gv an A0 Θ H (env :: outer) h'->Kept (frs (env :: outer)) lo s.heap h'->XIs gv A0 lo pc Θ n L pv e h'->E (.ref e) {s with heap:=h'}):notedBy M A env (cameBackBy M A env E) (.ref e) s:=by
 refine A6s hfr hf S X λh1 S1 K1 X1=>?_
 haveI X1':=X1
 rcases X1' with⟨v1,q'6,T,oT,ts,q'8,t1,t2,t3,t4,t5⟩
 rcases q'6 with⟨q'7,low,hlo⟩
 refine G4 q'7 λdx vs sl he h1' ep=>?_
 clear q'7
 subst q'8
 refine Z0d (Z3r he rfl h1' ?_)
 refine re hf ?_
 exact A5q (s:={s with heap:=h1}) (g:=some L) S1 X1 λh2 S2 K2 X2=>k h2 S2 (K1.trans K2) X2.is'
end
structure ClsK(K:Frag)(C:Addr):Prop where
 ga:findIn K (.ref C) "__getattribute__" = some (some (.builtin "object.__getattribute__"))
 gh:findIn K (.ref C) "__getattr__" = some none
 sa:findIn K (.ref C) "__setattr__" = some (some (.builtin "object.__setattr__"))
 dict:(clsIn K C).any (·.hasDict)=true
 over:plainOver K C=true
 cls:findIn K (.ref C) "__class__" = some (some (.builtin "object.__class__"))
 top:mroIn K C (.type "object")=some true
def A4r(K:Frag)(C:Addr)(name:Str):Prop:=findIn K (.ref C) name=some none\/∃f,findIn K (.ref C) name=some (some (.ref f))/\typeIn K (.ref f)=some (.type "function")
theorem B82:fastLookup "function" "__get__" = some (some (.builtin "function.__get__")):=rfl
theorem D56:fastLookup "function" "__set__" = some none:=rfl
theorem D32:fastLookup "function" "__delete__" = some none:=rfl
theorem A82{K:Frag}{f:Addr}{n:Str}{r:Option Value}(e:typeIn K (.ref f)=some (.type "function"))(q:fastLookup "function" n=some r):specialIn K (.ref f) n=some r:=by
 unfold specialIn;rw[e,Option.bind_some];exact q
theorem B2j{K:Frag}{f:Addr}(e:typeIn K (.ref f)=some (.type "function")):takesIn K (.ref f)=some false:=by
 unfold takesIn;rw[A82 e D56,A82 e D32];rfl
section
variable{prog:Program}{w:World}{K:Frag}{x C dx:Addr}{name:Str}{v:Value}
theorem C63{M:Model}{h:Heap}{cd:ClassData}(X:K.In h)(hx:h.get? x=some (instObj C dx))(hc:clsIn K C=some cd)(hd:cd.hasDict=true)(hn:h.Ns1 dx m):Looks M h (inOwnDict name (.ref x)) (m name):=by
 intro A Q E s k q;refine Z0d (Z0d (Z2o (k _ _ hx) ?_));refine Z0d (Z2o (k _ _ hx) ?_);dsimp only;refine Z0d ((Z4e X hc) A _ E s k ?_);refine re hd ?_;refine Z0f ?_;exact wpAny_nsGet (hn.keeps k).ns q
theorem A7x{M:Model}{h:Heap}(hx:h.get? x=some (instObj C dx)):Looks M h (typeOf (.ref x)) (.ref C):=(Looks.ld (part:=none) hx).andThen .now
theorem B73{expr:Bool}{Q:Value->Shared->Prop}(X:K.In s.heap)(CK:ClsK K C)(hx:s.heap.get? x=some (instObj C dx))(hn:s.heap.Ns1 dx m)(hv:m name=some v)(sf:A4r K C name)(hh:handedIn v=true)
 (k:Q v {s with toks:=s.toks+1}):wpAny (model prog w) A (getAttr (.ref x) name expr) Q E s:=by
 refine A1 (any_some CK.dict) λcd hc hd=>?_
 have I:InstAt s.heap x (instObj C dx) C ((s.heap.get? dx)):=⟨hx,rfl,rfl,by
  refine Q0 hn λo J J e J=>?_;rw[e];exact e⟩
 refine get_open X I CK.ga ?_
 obtain⟨hh',g,d,t,os⟩:=s
 haveI L0:=I.type (M:=model prog w)
 have Lo:Looks (model prog w) hh' (inOwnDict name (.ref x)) (some v):=hv▸C63 X hx hc hd hn
 have Lf:Looks (model prog w) hh' (find (.ref x) (.ref C) name) (.value v):=by
  rcases sf with e | ⟨f,e,et⟩
  . exact(Z1z X e).andThen (Looks.now.andThen (Looks.now.andThen (Lo.andThen (Looks.tag .now))))
  . refine(Z1z X e).andThen ((looks_specialIn X (A82 et B82)).andThen ?_);exact(show Looks (model prog w) hh' (dataDescriptor? (some (.ref f)) (some (.builtin "function.__get__"))) none from(looks_takesIn X (B2j et)).andThen .now).andThen (Lo.andThen (Looks.tag .now))
 refine Z0d (Z0f (Z0d (L0.at (Z0d (Lf.at ?_)))))
 refine Z0f ?_
 show wpAny _ _ (handedOut v) _ _ _
 rw[handedOut_of hh];exact Z0f k
theorem A7r{f:Addr}{pl:Sem Bool}{Q:Value × List Value->Shared->Prop}(X:K.In s.heap)(CK:ClsK K C)(hx:s.heap.get? x=some (instObj C dx))(hn:s.heap.Ns1 dx m)(hv:m name=none)
 (hf:findIn K (.ref C) name=some (some (.ref f))) (ht:typeIn K (.ref f)=some (.type "function")) (k:Q (.ref f,[.ref x]) s):wpAny (model prog w) A (getMethod (.ref x) name pl) Q E s:=by
 haveI hcan:=PySem.F.canon_object_ga
 haveI T:=A7x (M:=model prog w) hx
 refine Z0d (Z0d (T.here ((Z1z X CK.ga).here ?_)))
 dsimp only
 refine Z0d (Z0d (T.here ((Z1z X CK.gh).here ?_)))
 refine Z0d (Z0d (T.here ((Z1z X hf).here (Z0d ((looks_typeIn X ht).here ?_)))))
 refine Z0d (Z2o hx ?_)
 dsimp only
 refine Z0d (wpAny_nsGet hn.ns ?_)
 refine re hv ?_
 exact Z0d (Z5j (Z0f k))
theorem C1e{Q:Unit->Shared->Prop}{ns:List Str}(X:K.In s.heap)(CK:ClsK K C)(hx:s.heap.get? x=some (instObj C dx))(hn:s.heap.Ns1 dx m)(hne:dx≠x)(sf:A4r K C name)(hw:Within m ns)(hsz:ns.length<=1000)
 (k:∀h' tk,h'.Ns1 dx (λy=>if y=name then some v else m y)->Heap.SameBut dx s.heap h'->Q () {s with heap:=h',toks:=tk}):wpAny (model prog w) A (setAttr (.ref x) name v) Q E s:=by
 refine A1 (any_some CK.dict) λcd hc hd=>?_
 have I:InstAt s.heap x (instObj C dx) C ((s.heap.get? dx)):=⟨hx,rfl,rfl,by
  refine Q0 hn λo J J e J=>?_;rw[e];exact e⟩
 have tk:takerIn K C name=some none:=by
  unfold takerIn;rcases sf with e | ⟨f,e,et⟩
  . rw[e];rfl
  . rw[e];show Option.map _ (takesIn K (.ref f))=some none;rw[B2j et];rfl
 refine set_plain X I CK.sa (osa_open (s:={s with toks:=s.toks+1}) X I CK.over tk λb=>?_)
 refine Z0d (Z0f (Z0d (Z0d (Z2o hx (Z0d ((Z4e X hc) _ _ _ _ (λJ J e=>e) ?_))))))
 refine re hd ?_
 refine Z0f (a:=some dx) (Z0d (Z0f (Z0d ?_)))
 refine wpAny_nsSet1 hn λh' hn' hs=>?_
 refine G4 (hn'.count (Within.cons name v hw)) λoD esD epD hoD hdD hcD=>?_
 refine Z0d (wpAny_lookBehind hoD (by rw[hdD];exact pastItsLine_dict (Z0c hcD (by rw[List.length_cons,sizeLine_eq];lia))) ?_)
 exact Z0f (k h' _ hn' hs)
theorem C6w{Q:Option Value->Shared->Prop}(X:K.In s.heap)(CK:ClsK K C)(hx:s.heap.get? x=some (instObj C dx))(hn:s.heap.Ns1 dx m)
 (k:Q (some (.ref C)) {s with toks:=s.toks+1}):wpAny (model prog w) A (getAttr? (.ref x) "__class__") Q E s:=by
 have I:InstAt s.heap x (instObj C dx) C ((s.heap.get? dx)):=⟨hx,rfl,rfl,by
  refine Q0 hn λo J J e J=>?_;rw[e];exact e⟩
 obtain⟨hh',g,d,t,os⟩:=s
 haveI L0:=I.type (M:=model prog w)
 haveI L1:=Z1z (M:=model prog w) X CK.ga
 haveI L2:=Z1z (M:=model prog w) X CK.gh
 have Lf:Looks (model prog w) hh' (find (.ref x) (.ref C) "__class__") (.bind (.builtin "getset_descriptor.__get__") (.builtin "object.__class__")):=by
  haveI e1:specialIn K (.builtin "object.__class__") "__get__" = some (some (.builtin "getset_descriptor.__get__")):=rfl;have e2:takesIn K (.builtin "object.__class__")=some true:=rfl;refine(Z1z X CK.cls).andThen ((looks_specialIn X e1).andThen ?_);exact(show Looks (model prog w) hh' (dataDescriptor? (some (.builtin "object.__class__")) (some (.builtin "getset_descriptor.__get__"))) (some (.builtin "getset_descriptor.__get__", .builtin "object.__class__")) from(looks_takesIn X e2).andThen .now).andThen (Looks.tag .now)
 refine Z0d (Z2i (Z0d (wpAny_attempt ?_)))
 refine Z1b (Z0d (L0.at (Z0d (L1.at ?_))))
 refine Z0d (Z4g (wpAny_runValue (codeAny_builtin F.plainObj_entry_getattr_hooked ?_)))
 refine Z0d (Z0f (Z0d (L0.at (Z0d (Lf.at (Z0d (L2.at ?_)))))))
 refine Z0d (Z1b (Z2g (class_get X I CK.top ?_)))
 refine Z0f ?_
 exact Z0f (Z0f k)
noncomputable def A08(K:Frag)(C D:Addr):Bool:=(clsIn K D).isSome&&typeIn K (.ref D)==some (.type "type")&&instIn K (.ref D) (.type "type")==some true&&subIn K (.ref C) (.ref D)==some false&&!(C==D)
theorem C7m{D:Addr}{dep:Int}{tk:Tok}{Q:Fin->Shared->Prop}(X:K.In s.heap)(CK:ClsK K C)(hx:s.heap.get? x=some (instObj C dx))(hn:s.heap.Ns1 dx m)(e:A08 K C D=true)
 (h:Q (.done (.ret (.bool false))) {s with toks:=s.toks+1}) :
 wpAny (model prog w) A (Builtin.«isinstance.nested» ⟨[.ref x, .ref D, .int dep tk],[]⟩) Q E s:=by
 haveI ht:=A7x (M:=model prog w) hx
 obtain⟨hh,g,d,tt,os⟩:=s
 refine Z0d (ht.at ?_)
 unfold A08 at e
 simp only[Bool.and_eq_true,beq_iff_eq,Bool.not_eq_true',beq_eq_false_iff_ne] at e
 obtain⟨⟨⟨⟨e0,e1⟩,e2⟩,e3⟩,e4⟩:=e
 refine re (Z0m (λq=>e4 (by injection (beq_iff_eq.mp q)))) ?_
 haveI L1:=looks_typeIn (M:=model prog w) X e1
 haveI L4:Looks (model prog w) hh (isSubtype (.ref C) (.ref D)) false:=looks_subIn X e3
 haveI L3:Looks (model prog w) hh (isInstance (.ref x) (.ref D)) false:=ht.andThen L4
 refine Z0d (L1.at ?_)
 refine re (Z0p (by decide)) ?_
 k_delta "plainIsInstance"
 repeat lk
 unfold clsIn at e0
 split at e0
 . rename_i ho
   refine nd_load (X _ _ ho) (nd_pure (Z0f ?_))
   refine Z0d (L3.at ?_)
   refine Z0d (C6w X CK hx hn ?_)
   refine A1 (any_some CK.dict) λcd hc J=>?_
   unfold clsIn at hc
   split at hc
   . rename_i ho'
     refine Z0d ?_
     refine Z0d (Z2o (X _ _ ho') (Z0f ?_))
     refine Z0d (Z5j ?_)
     exact L4.at (Z0f h)
   . exact nn hc
 . exact ff e0
theorem C1t{D:Addr}{Q:Value->Shared->Prop}(X:K.In s.heap)(CK:ClsK K C)(hx:s.heap.get? x=some (instObj C dx))(hn:s.heap.Ns1 dx m)(e:A08 K C D=true)
 (h:Q (.bool false) {s with toks:=s.toks+1}):wpAny (model prog w) A (call (.builtin "isinstance") [.ref x, .ref D]) Q E s:=
 call_isinstance (S:=λJ R s=>(K.In s.heap/\s.heap.get? x=some (instObj C dx)/\s.heap.Ns1 dx m)/\R (.ok (.ret (.bool false))) {s with toks:=s.toks+1})
  (λJ J J J J hs=>isinstance_outer (C7m hs.1.1 CK hs.1.2.1 hs.1.2.2 e hs.2) (by intro q;cases q)) ⟨⟨X,hx,hn⟩,h⟩
theorem C1h{D:Addr}{Q:Value->Shared->Prop}(X:K.In s.heap)(hx:s.heap.get? x=some (instObj C dx))(e:isIn K (.ref C) D=true)
 (h:Q (.bool true) s):wpAny (model prog w) A (call (.builtin "isinstance") [.ref x, .ref D]) Q E s:=
 isi_call X (λM=>A7x hx) e (by intro q;cases q) h
end
inductive FnOk(gv:Nat->Option Value)(cc:CC)(K:Frag)(f:Fn)(a:Addr):Prop
 |mk (r:FnRec) (qual:Str) (pm:Value) (c:Addr) (doc dV:Value) (dvs:List Value) (x1:K.lookup a=some {cls:= .type "function",data:= .func (defFd r.name qual r.params r.body r.scope mainGlobals dV .none none pm (.ref c) doc)}) (x2:cFn cc r=some f) (x3:((dvs= []/\dV= .none)\/(dvs≠ []/\∃t,dV= .ref t/\K.lookup t=some {cls:= .type "tuple",data:= .seq dvs.toArray}))) (x4:(∀Θ n,VRs gv Θ n f.dflt dvs)) (x5:codeIn K (.ref c) qual=true)
structure ClsOk(gv:Nat->Option Value)(cc:CC)(K:Frag)(cl:Cl)(C:Addr):Prop where
 k:ClsK K C
 makes:makesIn K C=true
 kp:keepIn K (.ref C)=true
 meth:∀x i f,B9 x cc.attrs 0=some i->lkG i cl.ms=some f->∃fa,findIn K (.ref C) x=some (some (.ref fa))/\typeIn K (.ref fa)=some (.type "function")/\FnOk gv cc K f fa
 soft:∀x i,B9 x cc.attrs 0=some i->i≠12->A4r K C x
 noInit:lkG 12 cl.ms=none->findIn K (.ref C) "__init__" = some (some (.builtin "object.__init__"))
def A8l(gv:Nat->Option Value)(w:World)(h:Heap)(a:Addr):O->Prop
 | .tuple xs=>∃vs,IsT h a vs 0/\∀Θ n,VRs gv Θ n xs vs.toList
 | .dict es=>(a==sysModules)=false/\∃f,h.MapOf (strKind pg w) a f/\∀s:Tx,(∀v,dget s es=some (some v)->∃cv,f (sOf s)=some cv/\∀Θ n,VR gv Θ n v cv)/\(dget s es=some none->f (sOf s)=none)
 |_=>False
structure GT(w:World)(T:Tabs)(cc:CC)(gv:Nat->Option Value)(mg mb:Str->Option Value)(A0:Heap)(K:Frag):Prop where
 kin:K.In A0
 g:A0.Ns mainGlobals mg
 b:A0.Ns builtinsNs mb
 lim:A0.NoLimit
 ref:∀k v,gv k=some v->∃a,v= .ref a
 name:∀x v,lkS x cc.glob=some v->(x==Str.ofString "__debug__")=false/\((∃cv,mg x=some cv/\∀Θ n,VR gv Θ n v cv)\/(mg x=none/\∃cv,mb x=some cv/\∀Θ n,VR gv Θ n v cv))
 fns:∀k f,BtG T.fns (k+1)=some f->∃a,gv k=some (.ref a)/\FnOk gv cc K f a
 cls:∀k cl,BtG T.cls (k+1)=some cl->∃C,gv k=some (.ref C)/\ClsOk gv cc K cl C
 tps:∀k o,BtG T.tps (k+1)=some o->∃a,gv k=some (.ref a)/\A8l gv w A0 a o
 isi:∀k cl d,BtG T.cls (k+1)=some cl->∀C D,gv k=some (.ref C)->gv d=some (.ref D)->(M3 d cl.mro=true->isIn K (.ref C) D=true)/\(M3 d cl.mro=false->∀cl',BtG T.cls (d+1)=some cl'->A08 K C D=true)
 attrs:K8 cc.attrs=true
 attrsN:cc.attrs.length<=900
 attrsF:∃r,cc.attrs=A4e ++ r
 initN:B9 (Str.ofString "__init__") cc.attrs 0=some 12
 sysm:∃b o,sysModules<b/\A0.get? b=some o
structure CA(D U n:Nat)(A:Around)(fs:List Env):Prop where
 fr:A.frames=some fs
 dep:A.depth+n<=D
 uni:A.units+8 * n<=U
 hand:A.handled=none
def A2o(ns:Ns):Bool:=ns.all λp=> !(E0 p.1 A51)
theorem A72{ns:Ns}(h:Q7 ns=true):A2o ns=true:=by
 unfold Q7 at h;unfold A2o;rw[Z1n] at h ⊢;intro x hx;haveI:=h x hx;rw[Bool.and_eq_true] at this;exact this.2
structure Cx(D U n:Nat)(A:Around)(env:Env)(outer:List Env):Prop where
 ca:CA D U n A (env :: outer)
 kind:env.scope.kind= .function
 frame:env.frame=some env.locals
 glob:env.globals=mainGlobals
 blt:env.builtins=builtinsNs
 nd:K8 (env.scope.names.map (·.1))=true
 nc:A2o env.scope.names=true
theorem CA.low{D U n n':Nat}{A:Around}{fs:List Env}(c:CA D U n A fs)(h:n'<=n):CA D U n' A fs:=⟨c.fr,Z0c (Nat.add_le_add_left h _) c.dep,Z0c (Nat.add_le_add_left (Nat.mul_le_mul_left 8 h) _) c.uni,c.hand⟩
theorem Cx.low{D U n n':Nat}{A:Around}{env:Env}{outer:List Env}(c:Cx D U n A env outer)(h:n'<=n):Cx D U n' A env outer:=⟨c.ca.low h,c.kind,c.frame,c.glob,c.blt,c.nd,c.nc⟩
def FR(gv:Nat->Option Value)(Θ:Th)(n:Nat)(ns:Ns)(l:Loc)(m:Str->Option Value):Prop:=
 ∀i x k v,ns[i]?=some (x,k)->lkG i l=some v->∃cv,m x=some cv/\VR gv Θ n v cv
section
variable(gv:Nat->Option Value)(an:An)(A0:Heap)
structure At(Θ:Th)(H:Hp)(l:Loc)(env:Env)(outer:List Env)(h:Heap):Prop where
 st:St gv an A0 Θ H (env :: outer) h
 fr:∃m,h.Ns env.locals m/\FR gv Θ H.n env.scope.names l m
end
abbrev onL(env:Env):Addr->Prop:=λb=>b=env.locals
theorem FR.up{n n':Nat}{ns:Ns}{m:Str->Option Value}(F:FR gv Θ n ns l m)(hn:n<=n')(hs:∀i,i<n->Θ'.a i=Θ.a i/\Θ'.d i=Θ.d i/\Θ'.gh i=Θ.gh i):FR gv Θ' n' ns l m:=λi x k v a b=>by
 refine A1 (F i x k v a b) λcv c d=>?_;exact A6 cv c (d.up hn hs)
theorem At.ext{S:List Addr}(a:At gv an A0 Θ H l env outer h)(hf:env.frame=some env.locals)(x:Ext S noX Θ H.n h Θ' H'.n h')(s:St gv an A0 Θ' H' (env :: outer) h'):At gv an A0 Θ' H' l env outer h':=by
 refine A1 a.fr λm hn F=>?_;refine⟨s,m,x.ns hn (λi hi=>?_) (λq=>q),F.up x.le x.same⟩;exact a.st.apart i hi env.locals (by unfold frs;rw[List.filterMap_cons,hf];exact .head _)
theorem XIs.mono{lo lo' n:Nat}{L:Addr}{pv:V}{e:Addr}(hl:lo'<=lo)(x:XIs gv A0 lo pc Θ n L pv e h):XIs gv A0 lo' pc Θ n L pv e h:=by
 refine A1 x λv1 a t=>?_;refine A6 v1 ⟨a.obj,a.low,Z0c hl a.lo⟩ (?_);rcases t with t | ⟨T,oT,ts,b1,b2,b3⟩
 . exact .inl t
 . exact .inr ⟨T,oT,ts,b1,⟨b2.1,Z0c hl b2.2⟩,b3⟩
theorem H9.mono{lo lo' n:Nat}{f:Value}{pv:V}{e:Addr}(hl:lo'<=lo)(x:H9 gv A0 lo pc Θ n f pv e h):H9 gv A0 lo' pc Θ n f pv e h:=by
 obtain⟨v1,a,T,oT,ts,b1,b2,b3⟩:=x;exact⟨v1,⟨a.obj,a.low,Z0c hl a.lo⟩,T,oT,ts,b1,⟨b2.1,Z0c hl b2.2⟩,b3⟩
section
variable(og:OGt)(gv:Nat->Option Value)(an:An)(A0:Heap)(pc:Addr)
def PK(Θ:Th)(H:Hp)(l:Loc)(env:Env)(outer:List Env)(h:Heap)(k:K)(Q:Value->Shared->Prop):Prop:=
 ∀v H',k v H'=true->∀Θ' cv s',Ext (frs (env :: outer)) noX Θ H.n h Θ' H'.n s'.heap->At gv an A0 Θ' H' l env outer s'.heap->VR gv Θ' H'.n v cv->∀ [Og s' og],Q cv s'
def PKs(Θ:Th)(H:Hp)(l:Loc)(env:Env)(outer:List Env)(h:Heap)(k:List V->Hp->Bool)(Q:List Value->Shared->Prop):Prop:=
 ∀v H',k v H'=true->∀Θ' cv s',Ext (frs (env :: outer)) noX Θ H.n h Θ' H'.n s'.heap->At gv an A0 Θ' H' l env outer s'.heap->VRs gv Θ' H'.n v cv->∀ [Og s' og],Q cv s'
def PKt(Θ:Th)(H:Hp)(l:Loc)(env:Env)(outer:List Env)(h:Heap)(k:Bool->Hp->Bool)(Q:Bool->Shared->Prop):Prop:=
 ∀b H',k b H'=true->∀Θ' s',Ext (frs (env :: outer)) noX Θ H.n h Θ' H'.n s'.heap->At gv an A0 Θ' H' l env outer s'.heap->∀ [Og s' og],Q b s'
def PX(X:Addr->Prop)(Θ:Th)(H:Hp)(env:Env)(outer:List Env)(h:Heap)(kx:K)(E:Value->Shared->Prop):Prop:=
 ∀pv H',kx pv H'=true->∀Θ' e s',Ext (frs (env :: outer)) X Θ H.n h Θ' H'.n s'.heap->St gv an A0 Θ' H' (env :: outer) s'.heap->XIs gv A0 h.objs.size pc Θ' H'.n env.locals pv e s'.heap->∀ [Og s' og],E (.ref e) s'
inductive FlR(Θ:Th)(n:Nat):Fl->Flow->Prop
 |next:FlR Θ n .next .next
 |ret {v:V} {cv:Value}:VR gv Θ n v cv->FlR Θ n (.ret v) (.ret cv)
def PS(Θ:Th)(H:Hp)(env:Env)(outer:List Env)(h:Heap)(k:KS)(Q:Flow->Shared->Prop):Prop:=
 ∀f l' H',k f l' H'=true->∀Θ' cf s',Ext (frs (env :: outer)) (onL env) Θ H.n h Θ' H'.n s'.heap->At gv an A0 Θ' H' l' env outer s'.heap->FlR gv Θ' H'.n f cf->∀ [Og s' og],Q cf s'
def PC(Θ:Th)(H:Hp)(fs:List Env)(h:Heap)(k kx:K)(R:Result->Shared->Prop):Prop:=
 (∀v H',k v H'=true->∀Θ' cv s',Ext (frs fs) noX Θ H.n h Θ' H'.n s'.heap->St gv an A0 Θ' H' fs s'.heap->VR gv Θ' H'.n v cv->∀ [Og s' og],R (.ok (.ret cv)) s')/\
 (∀pv H',kx pv H'=true->∀Θ' e s',Ext (frs fs) noX Θ H.n h Θ' H'.n s'.heap->St gv an A0 Θ' H' fs s'.heap->H9 gv A0 h.objs.size pc Θ' H'.n .none pv e s'.heap->∀ [Og s' og],R (.error (.ref e)) s')
end
theorem PX.on{X:Addr->Prop}{kx:K}{E:Value->Shared->Prop}(p:PX og gv an A0 pc X Θ H env outer h kx E)(x:Ext (frs (env :: outer)) X Θ H.n h Θ' H'.n h'):PX og gv an A0 pc X Θ' H' env outer h' kx E:=
 λpv H'' hk Θ'' e s' y st xi=>p pv H'' hk Θ'' e s' (x.trans y) st (xi.mono x.size)
theorem PX.strong{X:Addr->Prop}{kx:K}{E:Value->Shared->Prop}(p:PX og gv an A0 pc X Θ H env outer h kx E):PX og gv an A0 pc noX Θ H env outer h kx E:=
 λpv H'' hk Θ'' e s' y st xi=>p pv H'' hk Θ'' e s' y.weak st xi
theorem A0h{b:Bool}{p:Prop}[Decidable p](h:b=true ↔ p):b=decide p:=(@Bool.decide_eq_true b (instDecidableEqBool b true)).symm.trans (decide_eq_decide.mpr h)
theorem nbe{a b:Nat}:Nat.beq a b=true ↔ a=b:=⟨Z0e,λe=>e▸Z3v a⟩
theorem Z3{a b:Tx}:teq a b=true ↔ a=b:=by
 induction a generalizing b with
 |nil=>cases b with | nil=>exact⟨λJ=>rfl,λJ=>rfl⟩ | cons _ _=>exact⟨λh=>ff h,λh=>nomatch h⟩
 |cons x a ih=>cases b with
  |nil=>exact⟨λh=>ff h,λh=>nomatch h⟩
  |cons y b=>exact⟨λh=>(A5 (b:=Nat.beq x y) (f:=teq a b) h).elim λh1 h2=>List.cons_eq_cons.mpr ⟨nbe.mp h1,ih.mp h2⟩,λh=>(congrArg (bB · (teq a b) false) (nbe.mpr (Z2c h).1)).trans (ih.mpr (Z2c h).2)⟩
theorem J1(a b:Tx):teq a b=decide (a=b):=A0h Z3
theorem P9(a b:Int):ieq a b=decide (a=b):=by
 cases a with
 |ofNat m=>cases b with
  |ofNat n=>exact A0h ⟨λh=>congrArg Int.ofNat (nbe.mp h),λh=>nbe.mpr (Int.ofNat.inj h)⟩
  |negSucc n=>exact(Z1h λh=>nomatch h).symm
 |negSucc m=>cases b with
  |ofNat n=>exact(Z1h λh=>nomatch h).symm
  |negSucc n=>exact A0h ⟨λh=>congrArg Int.negSucc (nbe.mp h),λh=>nbe.mpr (Int.negSucc.inj h)⟩
theorem C8(a b:Nat):Nat.ble a b=decide (a<=b):=A0h ⟨Z0l,Z2m⟩
theorem B4a(m n:Nat):Int.negSucc m<Int.ofNat n:=Int.lt_of_lt_of_le (Int.negSucc_lt_zero m) (Z2f n)
theorem C4f{m n:Nat}:n<=m ↔ Int.negSucc m<=Int.negSucc n:=⟨λh=>Int.neg_le_neg (Int.ofNat_le.mpr (Nat.succ_le_succ h)),λh=>Z3j (Int.ofNat_le.mp (Int.le_of_neg_le_neg h))⟩
theorem A4v(a b:Int):ile a b=decide (a<=b):=by
 cases a with
 |ofNat m=>cases b with
  |ofNat n=>exact(C8 m n).trans (decide_eq_decide.mpr Int.ofNat_le.symm)
  |negSucc n=>exact(Z1h (Int.not_le.mpr (B4a n m))).symm
 |negSucc m=>cases b with
  |ofNat n=>exact(decide_eq_true (Int.le_of_lt (B4a m n))).symm
  |negSucc n=>exact(C8 n m).trans (decide_eq_decide.mpr C4f)
theorem A1h{α:Type}(l:List α)(n:Nat):nth l n=l[n]?:=by
 induction l generalizing n with
 |nil=>exact List.getElem?_nil.symm
 |cons a l ih=>cases n with
  |zero=>rfl
  |succ n=>exact ih n
theorem D0{α:Type}(l:List α):len l=l.length:=by
 induction l with
 |nil=>rfl
 |cons a l ih=>exact congrArg Nat.succ ih
theorem C4b(d:Nat)(l:List Nat):M3 d l=decide (d∈l):=by
 refine A0h ?_;induction l with
 |nil=>exact⟨λh=>ff h,λh=>nomatch h⟩
 |cons a l ih=>
  refine(List.mem_cons (a:=d)).symm.subst ?_;show bB (Nat.beq a d) true (M3 d l)=true ↔ _;cases e:Nat.beq a d with
  |true=>exact⟨λJ=> .inl (nbe.mp e).symm,λJ=>rfl⟩
  |false=>exact⟨λh=> .inr (ih.mp h),λh=>h.elim (λq=>ff ((e.symm.trans (nbe.mpr q.symm)))) ih.mpr⟩
theorem A59{α:Type}(l:List α)(n:Nat):drp l n=l.drop n:=by
 induction l generalizing n with
 |nil=>exact List.drop_nil.symm
 |cons a l ih=>cases n with
  |zero=>rfl
  |succ n=>exact ih n
theorem C11{α:Type}(l:List α)(n:Nat):tke l n=l.take n:=by
 induction l generalizing n with
 |nil=>exact List.take_nil.symm
 |cons a l ih=>cases n with
  |zero=>rfl
  |succ n=>exact congrArg (a :: ·) (ih n)
theorem A8i{q l:Tx}:pre q l=true ↔ q <+:l:=by
 induction q generalizing l with
 |nil=>exact⟨λJ=>List.nil_prefix,λJ=>rfl⟩
 |cons a q ih=>cases l with
  |nil=>exact⟨λh=>ff h,λh=>nomatch List.prefix_nil.mp h⟩
  |cons b l=>exact⟨λh=>(A5 (b:=Nat.beq a b) (f:=pre q l) h).elim λh1 h2=>List.cons_prefix_cons.mpr ⟨nbe.mp h1,ih.mp h2⟩,λh=>(congrArg (bB · (pre q l) false) (nbe.mpr (List.cons_prefix_cons.mp h).1)).trans (ih.mpr (List.cons_prefix_cons.mp h).2)⟩
theorem Q1(a b:Tx):ap a b=a ++ b:=by
 induction a with
 |nil=>rfl
 |cons x a ih=>exact congrArg (x :: ·) ih
theorem B08(l:List V)(v:V):snoc l v=l ++ [v]:=by
 induction l with
 |nil=>rfl
 |cons x a ih=>exact congrArg (x :: ·) ih
theorem D40{α:Type}(l:List α):B0n l=l.getLast?:=by
 induction l with
 |nil=>rfl
 |cons a l ih=>cases l with
  |nil=>rfl
  |cons b l=>exact ih
theorem B9k(q:Tx)(a:Nat)(l:Tx)(i:Nat):A0x q (a :: l) i=if pre q (a :: l)=true then some i else A0x q l (i+1):=Z7 _ _ _
theorem A8q{i j:Nat}(h:i+1<=j):j - i=(j - (i+1))+1:=((Nat.sub_add_comm h).symm.trans (Nat.add_sub_add_right ..)).symm
theorem C73(q l:Tx)(i j:Nat)(h:A0x q l i=some j):i<=j/\j - i<l.length/\q <+:l.drop (j - i)/\∀k,k<j - i->¬q <+:l.drop k:=by
 induction l generalizing i with
 |nil=>exact nn h
 |cons a l ih=>
  refine(bBo (b:=pre q (a :: l)) h).elim (λh=>?_) λh=>?_
  . obtain rfl:=Z0a h.2;rw[Nat.sub_self];exact⟨Z0g _,Nat.succ_pos _,A8i.mp h.1,λk hk=>absurd hk (Z0y k)⟩
  . refine R2 (ih _ h.2) λh1 h2 h3 h4=>?_;rw[A8q h1];refine⟨Z0o h1,Nat.succ_lt_succ h2,h3,λk hk=>?_⟩;cases k with
    |zero=>exact λz=>ff (h.1.symm.trans (A8i.mpr z))
    |succ k=>exact h4 k (Nat.lt_of_succ_lt_succ hk)
theorem D35(q:Tx)(hq:q≠ [])(l:Tx)(i:Nat)(h:A0x q l i=none)(k:Nat):¬q <+:l.drop k:=by
 induction l generalizing i k with
 |nil=>rw[List.drop_nil];exact λe=>hq (List.prefix_nil.mp e)
 |cons a l ih=>
  rw[B9k] at h;by_cases e:pre q (a :: l)=true
  . rw[Z0p e] at h;exact sn h
  . rw[Z0m e] at h;cases k with
    |zero=>exact λz=>e (A8i.mpr z)
    |succ k=>exact ih _ h k
theorem J3(a b:Str):E0 a b=true ↔ a=b:=by
 refine Z3.trans ⟨λe=>?_,λe=>e▸rfl⟩;obtain⟨⟨x⟩⟩:=a;obtain⟨⟨y⟩⟩:=b;exact congrArg (λx=>(⟨⟨x⟩⟩:Str)) e
theorem B6c{a b:Str}(h:E0 a b=false):b≠a:=λe=>ff (h.symm.trans ((J3 a b).mpr e.symm))
theorem G6{x:Str}{i:Nat}{k:NameKind}{ns:Ns}{j:Nat}(h:B3 x ns j=some (i,k)):j<=i/\ns[i - j]?=some (x,k)/\ns.lookup x=some k:=by
 induction ns generalizing j with
 |nil=>exact nn h
 |cons p r ih=>
  obtain⟨a,q⟩:=p;refine(bBo (b:=E0 a x) h).elim (λh=>?_) λh=>?_
  . obtain rfl:=(J3 a x).mp h.1;obtain⟨rfl,rfl⟩:=Prod.mk.inj (Z0a h.2);rw[Nat.sub_self,List.lookup_cons,beq_self_eq_true];exact⟨Z0g _,rfl,rfl⟩
  . refine A7 (ih h.2) λh1 h2 h3=>?_;rw[A8q h1,List.lookup_cons,beq_eq_false_iff_ne.mpr (B6c h.1)];exact⟨Z0o h1,h2,h3⟩
theorem V2{x:Str}{i:Nat}{ns:List Str}{j:Nat}(h:B9 x ns j=some i):j<=i/\ns[i - j]?=some x:=by
 induction ns generalizing j with
 |nil=>exact nn h
 |cons a r ih=>
  refine(bBo (b:=E0 a x) h).elim (λh=>?_) λh=>?_
  . obtain rfl:=(J3 a x).mp h.1;obtain rfl:=Z0a h.2;rw[Nat.sub_self];exact⟨Z0g _,rfl⟩
  . refine A8 (ih h.2) λh1 h2=>?_;rw[A8q h1];exact⟨Z0o h1,h2⟩
theorem B92{x:Str}{ns:List Str}{j:Nat}(h:B9 x ns j=none):x∉ns:=by
 induction ns generalizing j with
 |nil=>exact List.not_mem_nil
 |cons a r ih=>
  have h:bB (E0 a x) (some j) (B9 x r (j+1))=none:=h;cases e:E0 a x with
  |true=>rw[e] at h;exact sn h
  |false=>rw[e] at h;exact λq=>(List.mem_cons.mp q).elim (B6c e) (ih h)
theorem A3k{l:List Str}(h:K8 l=true):l.Nodup:=by
 induction l with
 |nil=>exact .nil
 |cons x r ih=>
  obtain⟨a,b⟩:=Z1j.mp h;exact Z2u.mpr ⟨B92 (Option.isNone_iff_eq_none.mp a),ih b⟩
section
open PySem.Builtin.Str
theorem J2(a b:Tx):sOf a ++ sOf b=sOf (a ++ b):=by
 show Str.mk (a.toArray ++ b.toArray)=Str.mk (a ++ b).toArray;rw[List.append_toArray]
theorem A83(a:Tx):(sOf a).cps.toList=a:=rfl
theorem A2b{α:Type}{b:Bool}{o:Option α}{v:α}(h:bB b none o=some v):b=false/\o=some v:=by cases b <;> first | exact⟨rfl,h⟩ | exact nn h
theorem B0{α:Type}{b:Bool}{o:Option α}{v:α}(h:bB b o none=some v):b=true/\o=some v:=by cases b <;> first | exact⟨rfl,h⟩ | exact nn h
theorem A0c{s:Tx}(h:small s=true):s.length<=4000:=by
 unfold small at h;rw[C8,D0,decide_eq_true_eq] at h;exact h
theorem D1j{a:Int}(h:a.natAbs<=1000):Builtin.Int.intBits a<=64:=by
 unfold Builtin.Int.intBits;split
 . decide
 . have:a.natAbs.log2<63:=by
    rename_i q;haveI hne:a.natAbs≠0:=by simp at q;lia
    rw[Nat.log2_lt hne];lia
   refine Z0b (by assumption) ?_;decide
theorem B76{x y:Str}{t u:Tok}{Q:Value->Shared->Prop}(hl:(x ++ y).length<=sizeLine)(k:∀t' tk,Q (.str (x ++ y) t') {s with toks:=tk}):wpAny (model pg w) A (binaryOp .Add (.str x t) (.str y u)) Q E s:=by
 refine P.add_str ?_;split
 . rename_i h;have:x ++ y=y:=by
    obtain⟨⟨a⟩⟩:=x;obtain⟨⟨b⟩⟩:=y;haveI:a= []:=by simpa [Str.length] using h
    subst this;show Str.mk (#[] ++ _)=_;rw[Array.empty_append]
   refine rs this ?_;exact k _ s.toks
 . split
   . rename_i h;have:x ++ y=x:=by
      obtain⟨⟨a⟩⟩:=x;obtain⟨⟨b⟩⟩:=y;haveI:b= []:=by simpa [Str.length] using h
      subst this;show Str.mk (_ ++ #[])=_;rw[Array.append_empty]
     haveI k':=k t s.toks;rw[this] at k';exact k'
   . exact⟨hl,k _ _⟩
noncomputable def C6x:Bop->Operator
 | .add=> .Add | .sub=> .Sub | .mul=> .Mult | .mod=> .Mod | .pow=> .Pow
theorem A1r{o:Operator}{op:Bop}(h:cOp o=some op):o=C6x op:=by cases o <;> first | exact nn h | exact Z0a h▸rfl
theorem A87(s:Tx)(n:Nat):V8 s (n+1)=s ++ V8 s n:=by show ap s (V8 s n)=_;rw[Q1]
theorem B2w(s:Tx):∀(n:Nat) (acc:Array Nat),(List.replicate n s.toArray).foldl (· ++ ·) acc=acc ++ (V8 s n).toArray
 | 0,acc=>by show acc=acc ++ #[];rw[Array.append_empty]
 |n+1,acc=>by
  rw[List.replicate_succ,List.foldl_cons,B2w s n,A87,Array.append_assoc];apply Z5k.mp;simp
theorem D3s(s:Tx)(n:Nat):Txt.mul (sOf s) (n:Int)=sOf (V8 s n):=by
 unfold Txt.mul;split
 . have:n=0:=by lia
   subst this;rfl
 . split
   . rename_i q;simp only[Bool.or_eq_true,beq_iff_eq] at q;rcases q with q | q
     . haveI:n=1:=by lia
       subst this;rw[A87];show _=sOf (s ++ []);rw[List.append_nil]
     . haveI:s= []:=Z3d.mp q;subst this;have:∀n,V8 [] n= []:=λn=>by induction n with | zero=>rfl | succ n ih=>rw[A87,ih];rfl
       rw[this]
   . rw[Int.toNat_natCast,show(sOf s).cps=s.toArray from rfl,B2w];unfold sOf;rw[Array.empty_append]
@[elab_as_elim] theorem G8{β:Type}{P:V->Value->Prop}{f:Int->Option β}{y:β}{a:V}{ca:Value}(h:D7 a f=some y)(x:VR gv Θ n a ca)(q:∀i t,f i=some y->P (.int i) (.int i t)):P a ca:=
 J4 (P:=λa=>VR gv Θ n a ca->P a ca) h (λi h x=>x.elim λt e=>e▸q i t h) x
@[elab_as_elim] theorem M5{β:Type}{P:V->Value->Prop}{f:Tx->Option β}{y:β}{a:V}{ca:Value}(h:E5 a f=some y)(x:VR gv Θ n a ca)(q:∀i t,f i=some y->P (.str i) (.str (sOf i) t)):P a ca:=
 O3 (P:=λa=>VR gv Θ n a ca->P a ca) h (λi h x=>x.elim λt e=>e▸q i t h) x
@[elab_as_elim] theorem B4n{β:Type}{P:V->Value->Prop}{f:Nat->Nat->Option β}{y:β}{a:V}{ca:Value}(h:I5 a f=some y)(x:VR gv Θ n a ca)(q:∀g j t,g<n->f g j=some y->P (.lin g j) (.int (((Θ.gh g).pre.length+j:Nat):Int) t)):P a ca:=
 M0 (P:=λa=>VR gv Θ n a ca->P a ca) h (λg j h x=>x.2.elim λt e=>e▸q g j t x.1 h) x
@[elab_as_elim] theorem A80{β:Type}{P:V->Value->Prop}{f:Nat->Tx->Bool->Option β}{y:β}{a:V}{ca:Value}(h:U9 a f=some y)(x:VR gv Θ n a ca)(q:∀g i o t,g<n->f g i o=some y->P (.txt g i o) (.str (sOf ((Θ.gh g).pre ++ i ++ (if o then (Θ.gh g).suf else []))) t)):P a ca:=
 A1f (P:=λa=>VR gv Θ n a ca->P a ca) h (λg i o h x=>x.2.elim λt e=>e▸q g i o t x.1 h) x
@[elab_as_elim] theorem vWl{β:Type}{P:V->Value->Prop}{f:Nat->Nat->Option β}{y:β}{a:V}{ca:Value}(h:A46 a f=some y)(x:VR gv Θ n a ca)(q:∀i k t,i<n->f i k=some y->P (.wl i k) (.int (((Θ.gh i).wn:Int) - (k:Int)) t)):P a ca:=
 B2n (P:=λa=>VR gv Θ n a ca->P a ca) h (λg j h x=>x.2.elim λt e=>e▸q g j t x.1 h) x
@[elab_as_elim] theorem U6{β:Type}{P:V->Value->Prop}{f:Nat->Option β}{y:β}{a:V}{ca:Value}(h:G0 a f=some y)(x:VR gv Θ n a ca)(q:∀i,i<n->f i=some y->P (.ref i) (.ref (Θ.a i))):P a ca:=
 R3 (P:=λa=>VR gv Θ n a ca->P a ca) h (λi h x=>x.2▸q i x.1 h) x
@[elab_as_elim] theorem C7t{β:Type}{P:V->Value->Prop}{f:Bool->Option β}{y:β}{a:V}{ca:Value}(h:A1u a f=some y)(x:VR gv Θ n a ca)(q:∀i,f i=some y->P (.bool i) (.bool i)):P a ca:=
 A9l (P:=λa=>VR gv Θ n a ca->P a ca) h (λi h (x:ca=_)=>x▸q i h) x
theorem St.is{an:An}{H:Hp}{fs:List Env}{h:Heap}{i:Nat}{o:O}(S:St gv an A0 Θ H fs h)(hi:i<H.n)(e:H.get i=some o):OR gv an Θ H.n h i o:=A1 (S.obj i hi) λJ e' r=>Z0a (e'.symm.trans e)▸r
theorem C46{p j c:Nat}:((p+j:Nat):Int)+Int.ofNat c=((p+(j.add c):Nat):Int):=congrArg Int.ofNat (Nat.add_assoc p j c)
theorem D02{p m j:Nat}:(p:Int) - (m:Int) - Int.ofNat j=(p:Int) - ((m.add j:Nat):Int):=Int.sub_sub _ _ _
theorem D7c{a b v:V}{ca cb:Value}{Q:Value->Shared->Prop}(h:B10 a b=some v)(gh:∀g,g<n->K7 Θ g)(ha:VR gv Θ n a ca)(hb:VR gv Θ n b cb)
 (k:∀cv tk,VR gv Θ n v cv->Q cv {s with toks:=tk}):wpAny (model pg w) A (binaryOp .Add ca cb) Q E s:=by
 refine(or2 h).elim (λh=>?_) λh=>?_
 . refine G8 h hb λb u h=>(or2 h).elim (λh=>?_) λh=>?_
   . refine G8 h ha λa t h=>?_
     exact wpAny_add_int (k _ _ (Z0a h▸⟨_,rfl⟩))
   . refine B4n h ha λg j t hg h=>?_
     refine R4 h λc h=>?_
     exact wpAny_add_int (k _ _ (Z0a h▸⟨hg,_,congrArg (Value.int · _) C46⟩))
 . refine M5 h hb λb u h=>(or2 h).elim (λh=>?_) λh=>?_
   . refine M5 h ha λa t h=>?_
     obtain⟨q,e⟩:=B0 h
     rw[Q1] at q e
     refine B76 ?_ λt' tk=>?_
     . rw[J2,F4];have:=A0c q;rw[sizeLine_eq];refine Z0c (by assumption) ?_;decide
     . exact k _ _ (Z0a e▸⟨_,by rw[J2]⟩)
   . refine A80 h ha λg a ob t hg h=>?_
     obtain⟨q1,h⟩:=A2b h
     obtain⟨q,e⟩:=B0 h
     subst q1
     rw[Q1] at q e
     haveI hs:=A0c q
     haveI hp:(Θ.gh g).pre.length<=D4:=by have:=gh g hg;unfold K7 at this;lia
     rw[Z0m Z0u,List.append_nil]
     refine B76 ?_ λt' tk=>?_
     . rw[J2,F4,List.append_assoc,List.length_append,sizeLine_eq];unfold D4 at hp;lia
     . exact k _ _ (Z0a e▸⟨hg,t',by rw[Z0m Z0u,List.append_nil,<-List.append_assoc,J2]⟩)
theorem C06{a b v:V}{ca cb:Value}{Q:Value->Shared->Prop}(h:B0p a b=some v)(ha:VR gv Θ n a ca)(hb:VR gv Θ n b cb)
 (k:∀cv tk,VR gv Θ n v cv->Q cv {s with toks:=tk}):wpAny (model pg w) A (binaryOp .Sub ca cb) Q E s:=by
 refine G8 h hb λb u h=>(or2 h).elim (λh=>?_) λh=>?_
 . refine G8 h ha λa t h=>?_
   exact P.sub_int (k _ _ (Z0a h▸⟨_,rfl⟩))
 . refine vWl h ha λg j t hg h=>?_
   refine R4 h λc h=>?_
   exact P.sub_int (k _ _ (Z0a h▸⟨hg,_,congrArg (Value.int · _) D02⟩))
theorem C72{l j:Nat}(h1:l<=4000)(h2:j<=100):l * j<=400000:=Nat.mul_le_mul h1 h2
theorem D2d{a b v:V}{ca cb:Value}{Q:Value->Shared->Prop}(h:B7l a b=some v)(ha:VR gv Θ n a ca)(hb:VR gv Θ n b cb)
 (k:∀cv tk,VR gv Θ n v cv->Q cv {s with toks:=tk}):wpAny (model pg w) A (binaryOp .Mult ca cb) Q E s:=by
 refine G8 h hb λb u h=>(or2 h).elim (λh=>?_) λh=>?_
 . refine G8 h ha λa t h=>?_
   obtain⟨q,e⟩:=B0 h
   rw[C8,decide_eq_true_eq] at q
   exact P.mul_int (k _ _ (Z0a e▸⟨_,rfl⟩)) (IntMulOk.of_left (D1j q))
 . refine M5 h ha λa t h=>?_
   refine R4 h λj h=>?_
   obtain⟨q1,h⟩:=B0 h
   obtain⟨q2,h⟩:=B0 h
   obtain⟨_,e⟩:=B0 h
   rw[C8,decide_eq_true_eq] at q1
   have l2:=C72 (A0c q2) q1
   refine SB.mul (n:=Int.ofNat j) ⟨?_,λh1 J=>?_,λJ J=>?_⟩ λt' tk=>?_
   . rw[Z1h (by simp only[Int.ofNat_eq_natCast];lia),Z1h (by simp only[Int.ofNat_eq_natCast];lia)];rfl
   . rw[F4]
     intro z
     haveI:=(Int.ediv_lt_iff_lt_mul (by omega)).mp z
     haveI e1:((a.length:Int)) * Int.ofNat j=(a.length * j:Nat):=rfl
     lia
   . unfold tooLong
     rw[Z1h]
     rw[F4,sizeLine_eq]
     simp only[Int.ofNat_eq_natCast,Int.toNat_natCast]
     lia
   . rw[show Int.ofNat j=(j:Int) from rfl,D3s a j]
     exact k _ _ (Z0a e▸⟨_,rfl⟩)
theorem C3r{a b:Nat}:(Int.ofNat a).fmod (Int.ofNat (b+1))=Int.ofNat (a.mod (b+1)):=by cases a <;> rfl
theorem C60{a b v:V}{ca cb:Value}{Q:Value->Shared->Prop}(h:B69 a b=some v)(ha:VR gv Θ n a ca)(hb:VR gv Θ n b cb)
 (k:∀cv tk,VR gv Θ n v cv->Q cv {s with toks:=tk}):wpAny (model pg w) A (binaryOp .Mod ca cb) Q E s:=by
 refine G8 h ha λa t h=>?_
 refine R4 h λa h=>?_
 refine G8 h hb λb u h=>?_
 refine R4 h λb h=>?_
 obtain⟨q,e⟩:=A2b h
 clear h ha hb
 cases b with
 |zero=>cases q
 |succ b=>exact AutoIntOps.mod_1 Z0u (k _ _ (Z0a e▸⟨s.toks,congrArg (Value.int · _) C3r⟩))
theorem C50{a b v:V}{ca cb:Value}{Q:Value->Shared->Prop}(h:B8b a b=some v)(ha:VR gv Θ n a ca)(hb:VR gv Θ n b cb)
 (k:∀cv tk,VR gv Θ n v cv->Q cv {s with toks:=tk}):wpAny (model pg w) A (binaryOp .Pow ca cb) Q E s:=by
 refine G8 h ha λa t h=>G8 h hb λb u h=>?_
 obtain⟨q1,h⟩:=B0 h
 obtain⟨q2,e⟩:=B0 h
 obtain rfl:=of_decide_eq_true ((P9 a 2).symm.trans q1)
 obtain rfl:=of_decide_eq_true ((P9 b 63).symm.trans q2)
 exact AutoIntOps.pow_4 (by decide) (by decide) (by decide) (by decide) (by decide) (k _ _ (Z0a e▸⟨_,rfl⟩))
theorem C1o{o:Operator}{op:Bop}{a b v:V}{ca cb:Value}{Q:Value->Shared->Prop}(ho:cOp o=some op)(h:A9i op a b=some v)(gh:∀g,g<n->K7 Θ g)(ha:VR gv Θ n a ca)(hb:VR gv Θ n b cb)
 (k:∀cv tk,VR gv Θ n v cv->Q cv {s with toks:=tk}):wpAny (model pg w) A (binaryOp o ca cb) Q E s:=by
 cases op with
 |add=>exact A1r ho▸D7c h gh ha hb k
 |sub=>exact A1r ho▸C06 h ha hb k
 |mul=>exact A1r ho▸D2d h ha hb k
 |mod=>exact A1r ho▸C60 h ha hb k
 |pow=>exact A1r ho▸C50 h ha hb k
end
theorem A5y{h h':Heap}{a:Addr}{f:Str->Option Value}(x:h.MapOf (strKind pg w) a f)(k:∀b o,h.get? b=some o->h'.get? b=some o):h'.MapOf (strKind pg w) a f:=
 let ⟨o,es,ep,e,r⟩:=x;⟨o,es,ep,k _ _ e,r⟩
theorem C5u{h h':Heap}{a:Addr}{f:Str->Option Value}(x:h.MapOf (strKind pg w) a f)(k:∀o,h.get? a=some o->h'.get? a=some o):h'.MapOf (strKind pg w) a f:=
 let ⟨o,es,ep,e,r⟩:=x;⟨o,es,ep,k _ e,r⟩
theorem A8j{r:Option Bool}{b:Bool}(h:A3b r=some b):r=some (!b):=by
 cases r with
 |none=>exact nn h
 |some c=>unfold A3b at h;replace h:=Z0a h;subst h;rw[A2u,Bool.not_not]
theorem U1{β:Type}{a b:Nat}{x:Option β}{r:β}(h:bB (Nat.beq a b) x none=some r):a=b/\x=some r:=(bBo h).elim (λh=>⟨nbe.mp h.1,h.2⟩) λh=>nn h.2
section
variable{K:Frag}
theorem B70{p x y:Nat}:Nat.ble x y=decide (((p+x:Nat):Int)<=((p+y:Nat):Int)):=by rw[C8];exact decide_eq_decide.mpr (Nat.add_le_add_iff_left.symm.trans Int.ofNat_le.symm)
theorem C19{p x y:Nat}:Q2 (Nat.ble y x)=decide (((p+x:Nat):Int)<((p+y:Nat):Int)):=by rw[A2u,B70 (p:=p),<-decide_not];exact decide_eq_decide.mpr Int.not_le
theorem C37{p x y:Nat}:Nat.beq x y=decide (((p+x:Nat):Int)=((p+y:Nat):Int)):=by
 exact A0h (nbe.trans ⟨λe=>e▸rfl,λe=>Nat.add_left_cancel (Int.ofNat.inj e)⟩)
theorem D0h{β:Type}{s:Tx}{f:Nat->Option β}{y:β}(h:B6p s f=some y):∃c,s= [c]/\f c=some y:=by
 cases s with
 |nil=>exact nn h
 |cons c r=>cases r with
  |nil=>exact A6 c rfl h
  |cons _ _=>exact nn h
inductive VEq:Value->Value->Bool->Prop
 |str (x y:Tx) (t u:Tok) {r:Bool} (e:r=decide (x=y)):VEq (.str (sOf x) t) (.str (sOf y) u) r
 |int (i j:Int) (t u:Tok) {r:Bool} (e:r=decide (i=j)):VEq (.int i t) (.int j u) r
theorem C9j{a b:V}{ca cb:Value}{r:Bool}(h:veq a b=some r)(ha:VR gv Θ n a ca)(hb:VR gv Θ n b cb):VEq ca cb r:=by
 revert ha hb;refine(or2 h).elim (λh=>?_) λh=>(or2 h).elim (λh=>?_) λh=>(or2 h).elim (λh=>?_) λh=>?_
 . exact O3 h λx h=>O3 h λy h ha hb=>ha.elim λt ea=>hb.elim λu eb=>ea▸eb▸ .str x y t u ((Z0a h).symm.trans (J1 x y))
 . exact J4 h λx h=>J4 h λy h ha hb=>ha.elim λt ea=>hb.elim λu eb=>ea▸eb▸ .int x y t u ((Z0a h).symm.trans (P9 x y))
 . refine M0 h λg x h=>M0 h λg' y h=>(U1 h).elim λe k ha hb=>ha.2.elim λt ea=>hb.2.elim λu eb=>ea▸eb▸ .int _ _ t u ((Z0a k).symm.trans ?_);rw[e];exact C37
 . refine A6b h λg x h=>A6b h λg' y h=>(U1 h).elim λe k=>(U1 k).elim λe' k ha hb=>ha.2.elim λt ea=>hb.2.elim λu eb=>ea▸eb▸ .int _ _ t u ((Z0a k).symm.trans (decide_eq_true ?_).symm);rw[e,e']
theorem C7a{a b:V}{ca cb:Value}{r:Bool}{Q:Value->Shared->Prop}(h:veq a b=some r)(ha:VR gv Θ n a ca)(hb:VR gv Θ n b cb) :
 (Q (.bool r) s->wpAny (model pg w) A (compareOp .Eq ca cb) Q E s)/\(Q (.bool (!r)) s->wpAny (model pg w) A (compareOp .NotEq ca cb) Q E s):=by
 have z:=C9j h ha hb
 clear h ha hb
 cases z with
 |str x y t u e=>
  rw[e.trans (show decide (x=y)=((sOf x).cps.toList==(sOf y).cps.toList) from Bool.eq_iff_iff.mpr (decide_eq_true_iff.trans beq_iff_eq.symm))];exact⟨λq=>P.eq_str q,λq=>P.ne_str q⟩
 |int i j t u e=>rw[e];exact⟨λq=>P.eq_int q,λq=>P.ne_int q⟩
theorem C9n{xs ys:List V}{r:Bool}(h:bB (L5 xs) (some (L5 ys)) (bB (L5 ys) (some false) none)=some r):(xs.length=0/\ys.length=0/\r=true)\/(xs.length≠ys.length/\r=false):=by
 cases xs with
 |nil=>cases ys with
  |nil=>exact .inl ⟨rfl,rfl,(Z0a h).symm⟩
  |cons _ _=>exact .inr ⟨Nat.noConfusion,(Z0a h).symm⟩
 |cons _ _=>cases ys with
  |nil=>exact .inr ⟨Nat.noConfusion,(Z0a h).symm⟩
  |cons _ _=>exact nn h
theorem B8r{a b:Nat}{r:Bool}{Q:Value->Shared->Prop}(S:St gv an A0 Θ H fs s.heap)(hu:A.units<cLine)(h:B0v H a b=some r)(ha:a<H.n)(hb:b<H.n) :
 (Q (.bool r) s->wpAny (model pg w) A (compareOp .Eq (.ref (Θ.a a)) (.ref (Θ.a b))) Q E s)/\(Q (.bool (!r)) s->wpAny (model pg w) A (compareOp .NotEq (.ref (Θ.a a)) (.ref (Θ.a b))) Q E s):=by
 refine A1 (S.obj a ha) λo1 q1 r1=>?_
 refine A1 (S.obj b hb) λo2 q2 r2=>?_
 refine A1 (bi h) λo e h=>?_
 obtain rfl:=Z0a (q1.symm.trans e)
 revert r1
 refine Q6 h λxs h=>?_
 obtain⟨o,e,h⟩:=bi h
 obtain rfl:=Z0a (q2.symm.trans e)
 revert r2
 refine Q6 h λys h=>?_
 intro q'17 q'18
 refine B4 q'17 λus ep' l2 v2=>?_
 refine B4 q'18 λvs ep l1 v1=>?_
 have i1:s.heap.IsList (Θ.a a) vs:=⟨_,l1,rfl,_,rfl⟩
 have i2:s.heap.IsList (Θ.a b) us:=⟨_,l2,rfl,_,rfl⟩
 haveI h:=C9n h
 rw[v1.len,v2.len,Array.length_toList,Array.length_toList] at h
 rcases h with⟨z1,z2,rfl⟩ | ⟨hne,rfl⟩
 . haveI hr:(List.range vs.size).all (λJ=>true)=true:=by rw[z1];rfl
   have no:∀{j},j<vs.size->False:=λh1=>Z0y _ (z1▸h1)
   exact⟨λq=>SeqAt.eq_listAt (e:=λJ=>true) i1 i2 (z1.trans z2.symm) hu (λj h1=>(no h1).elim) (hr.symm▸q),λq=>SeqAt.RcNeAt.lists (e:=λJ=>true) i1 i2 (z1.trans z2.symm) hu (λj h1=>(no h1).elim) pg w E Q (hr.symm▸q)⟩
 . have hne:=bne_iff_ne.mpr hne
   exact⟨λq=>SeqAt.eq_list_lengthsAt i1 i2 hne hu q,λq=>SeqAt.RcNeAt.lists_lengths i1 i2 hne hu pg w E Q q⟩
def Y1(st:Tx):Value->Bool
 | .str z _=>z==sOf st
 |_=>false
theorem D61(st z:Tx)(t:Tok):Y1 st (.str (sOf z) t)=teq st z:=by
 show(sOf z==sOf st)=_;rw[J1];by_cases e:st=z
 . subst e;simp
 . rw[Z1h e];refine beq_eq_false_iff_ne.mpr λq=>e ?_;haveI:=congrArg (λx:Str=>x.cps.toList) q;exact this.symm
theorem C4e(st:Tx){l:List V}{vs:List Value}{ss:List Tx}(h:A98 l=some ss)(x:VRs gv Θ n l vs):(∀y∈vs,∃z t,y= .str (sOf z) t)/\vs.any (Y1 st)=A5d st ss:=by
 refine D8.ind (P:=λl vs=>∀ss,A98 l=some ss->(∀y∈vs,∃z t,y= .str (sOf z) t)/\vs.any (Y1 st)=A5d st ss) x (λss h=>?_) (λv c l vs x1 J ih ss h=>?_) ss h
 . rw[<-Z0a h];exact⟨λy hy=>(nomatch hy),rfl⟩
 . revert x1;refine O3 h λy h=>A1 (mi h) λss h1 e x1=>x1.elim λu eu=>A8 (ih _ h1) λa b=>?_;rw[<-e,eu];refine⟨λz hz=>(List.mem_cons.mp hz).elim (λq=>⟨y,u,q⟩) (a z),?_⟩;rw[List.any_cons,D61,b];show _=bB (teq st y) true (A5d st ss);cases teq st y <;> rfl
theorem C03{st:Tx}{l:List V}{vs:List Value}{r:Bool}(h:A4p st l=some r)(x:VRs gv Θ n l vs):(∀y∈vs,∃z t,y= .str (sOf z) t)/\vs.any (Y1 st)=r:=by
 refine A1 (mi h) λss h1 e=>?_;exact e▸C4e st h1 x
theorem B41{a:Addr}{st:Tx}{t:Tok}{vs:Array Value}{l:List V}{r:Bool}{Q:Value->Shared->Prop}(ht:s.heap.IsTuple a vs)(h:A4p st l=some r)(x:VRs gv Θ n l vs.toList) :
 (Q (.bool r) s->wpAny (model pg w) A (compareOp .In (.str (sOf st) t) (.ref a)) Q E s)/\(Q (.bool (!r)) s->wpAny (model pg w) A (compareOp .NotIn (.str (sOf st) t) (.ref a)) Q E s):=by
 refine A8 (C03 h x) λh1 h2=>?_
 have he:∀y,y∈vs->SeqAt.EqAt A.in1 s y (.str (sOf st) t) (Y1 st y):=λy hy=>by
  refine F9 (h1 y (Array.mem_toList_iff.mpr hy)) λz u q'21=>?_;subst q'21;exact SeqAt.EqAt.str_str _ _ _ _
 rw[Array.any_toList] at h2
 exact⟨λq=>SeqAt.in_tupleAt (Y1 st) ht he (by rw[h2];exact q),λq=>SeqAt.notIn_tupleAt (Y1 st) ht he (by rw[h2];exact q)⟩
inductive VLt:Value->Value->Bool->Prop
 |mk (i j:Int) (t u:Tok) {r:Bool} (e:r=decide (i<j)):VLt (.int i t) (.int j u) r
inductive VLe:Value->Value->Bool->Prop
 |mk (i j:Int) (t u:Tok) {r:Bool} (e:r=decide (i<=j)):VLe (.int i t) (.int j u) r
theorem C32(x y:Int):Q2 (ile y x)=decide (x<y):=by rw[A2u,A4v,<-decide_not];exact decide_eq_decide.mpr Int.not_le
theorem C96{a b:V}{ca cb:Value}{r:Bool}(h:vlt a b=some r)(ha:VR gv Θ n a ca)(hb:VR gv Θ n b cb):VLt ca cb r:=by
 revert ha hb;refine(or2 h).elim (λh=>?_) λh=>(or2 h).elim (λh=>?_) λh=>(or2 h).elim (λh=>?_) λh=>?_
 . exact J4 h λx h=>J4 h λy h ha hb=>ha.elim λt ea=>hb.elim λu eb=>ea▸eb▸ .mk x y t u ((Z0a h).symm.trans (C32 x y))
 . refine M0 h λg x h=>M0 h λg' y h=>(U1 h).elim λe k ha hb=>ha.2.elim λt ea=>hb.2.elim λu eb=>ea▸eb▸ .mk _ _ t u ((Z0a k).symm.trans ?_);rw[e];exact C19
 . refine M0 h λg x h=>J4 h λy h=>(B0 h).elim λq h ha hb=>ha.2.elim λt ea=>hb.elim λu eb=>ea▸eb▸ .mk _ _ t u ((Z0a h).symm.trans (Z1h ?_).symm);rw[of_decide_eq_true ((P9 y 0).symm.trans q)];exact Int.not_lt.mpr (Z2f _)
 . refine M0 h λg x h=>B8e h λg' m h=>(U1 h).elim λe k=>(B0 k).elim λq k ha hb=>ha.2.elim λt ea=>hb.2.elim λu eb=>ea▸eb▸ .mk _ _ t u ((Z0a k).symm.trans (decide_eq_true ?_).symm);rw[e];exact Int.ofNat_lt.mpr (Z0b (Nat.add_lt_add_left (Z0l q) _) (Nat.le_add_right ..))
theorem D59{a b:V}{ca cb:Value}{r:Bool}(h:vle a b=some r)(ha:VR gv Θ n a ca)(hb:VR gv Θ n b cb):VLe ca cb r:=by
 revert ha hb;refine(or2 h).elim (λh=>?_) λh=>(or2 h).elim (λh=>?_) λh=>?_
 . exact J4 h λx h=>J4 h λy h ha hb=>ha.elim λt ea=>hb.elim λu eb=>ea▸eb▸ .mk x y t u ((Z0a h).symm.trans (A4v x y))
 . refine M0 h λg x h=>M0 h λg' y h=>(U1 h).elim λe k ha hb=>ha.2.elim λt ea=>hb.2.elim λu eb=>ea▸eb▸ .mk _ _ t u ((Z0a k).symm.trans ?_);rw[e];exact B70
 . refine J4 h λx h=>M0 h λg y h=>(B0 h).elim λq h ha hb=>ha.elim λt ea=>hb.2.elim λu eb=>ea▸eb▸ .mk _ _ t u ((Z0a h).symm.trans (decide_eq_true ?_).symm);rw[of_decide_eq_true ((P9 x 0).symm.trans q)];exact Z2f _
theorem B4j{a b:V}{ca cb:Value}{r:Bool}{Q:Value->Shared->Prop}(h:vlt a b=some r)(ha:VR gv Θ n a ca)(hb:VR gv Θ n b cb)(q:Q (.bool r) s) :
 wpAny (model pg w) A (compareOp .Lt ca cb) Q E s/\wpAny (model pg w) A (compareOp .Gt cb ca) Q E s:=by
 have z:=C96 h ha hb
 clear h ha hb
 cases z with
 |mk i j t u e=>rw[e] at q;exact⟨P.lt_int q,P.gt_int q⟩
theorem B7o{a b:V}{ca cb:Value}{r:Bool}{Q:Value->Shared->Prop}(h:vle a b=some r)(ha:VR gv Θ n a ca)(hb:VR gv Θ n b cb)(q:Q (.bool r) s) :
 wpAny (model pg w) A (compareOp .LtE ca cb) Q E s/\wpAny (model pg w) A (compareOp .GtE cb ca) Q E s:=by
 have z:=D59 h ha hb
 clear h ha hb
 cases z with
 |mk i j t u e=>rw[e] at q;exact⟨P.le_int q,P.ge_int q⟩
theorem D25{a b:V}{ca cb:Value}{r:Bool}(h:isNone a b=some r)(ha:VR gv Θ n a ca)(hb:VR gv Θ n b cb):cb= .none/\((ca= .none/\r=true)\/(plainIs ca .none=true/\ca≠ .none/\r=false)):=by
 revert ha hb;refine A86 h λh ha hb=>⟨hb,?_⟩;have no:∀{c:Value},plainIs c .none=true->c≠ .none->some false=some r->(c= .none/\r=true)\/(plainIs c .none=true/\c≠ .none/\r=false):=λh1 h2 h=> .inr ⟨h1,h2,(Z0a h).symm⟩;revert ha;obtain h | h:=or2 h
 . exact A86 h λh ha=> .inl ⟨ha,(Z0a h).symm⟩
 obtain h | h:=or2 h
 . exact O3 h λx h ha=>ha.elim λt e=>e▸no rfl Value.noConfusion h
 obtain h | h:=or2 h
 . exact J4 h λx h ha=>ha.elim λt e=>e▸no rfl Value.noConfusion h
 obtain h | h:=or2 h
 . exact R3 h λx h ha=>ha.2▸no rfl Value.noConfusion h
 obtain h | h:=or2 h
 . exact M0 h λg x h ha=>ha.2.elim λt e=>e▸no rfl Value.noConfusion h
 . exact A6b h λg x h ha=>ha.2.elim λt e=>e▸no rfl Value.noConfusion h
theorem B21{a b:V}{ca cb:Value}{r:Bool}{Q:Value->Shared->Prop}(h:isNone a b=some r)(ha:VR gv Θ n a ca)(hb:VR gv Θ n b cb) :
 (Q (.bool r) s->wpAny (model pg w) A (compareOp .Is ca cb) Q E s)/\(Q (.bool (!r)) s->wpAny (model pg w) A (compareOp .IsNot ca cb) Q E s):=by
 obtain⟨rfl,⟨rfl,rfl⟩ | ⟨h1,h2,rfl⟩⟩:=D25 h ha hb
 . exact⟨wpAny_is_self rfl,wpAny_isNot_self rfl⟩
 . exact⟨wpAny_is_other h1 h2,wpAny_isNot_other h1 h2⟩
theorem B2o{a b:V}{ca cb:Value}{r:Bool}{Q:Value->Shared->Prop}(G:GT w T cc gv mg mb A0 K)(S:St gv an A0 Θ H fs s.heap)(h:contains T H a b=some r)(ha:VR gv Θ H.n a ca)(hb:VR gv Θ H.n b cb) :
 ((∀tk,Q (.bool r) {s with toks:=tk})->wpAny (model pg w) A (compareOp .In ca cb) Q E s)/\((∀tk,Q (.bool (!r)) {s with toks:=tk})->wpAny (model pg w) A (compareOp .NotIn ca cb) Q E s):=by
 revert ha
 refine O3 h λst h=>?_
 rintro⟨t,rfl⟩
 obtain h | h:=or2 h
 . revert hb
   refine O3 h λl h=>?_
   rintro⟨u,rfl⟩
   obtain⟨c,rfl,h⟩:=D0h h
   replace h:=Z0a h;subst h
   have e:(!(Str.occurrences (sOf l) ⟨#[c]⟩ 0 (sOf l).length 1).isEmpty)=M3 c l:=by rw[StrLaws.found_one,C4b,A83]
   exact⟨λq=>P.in_str (x:=sOf l) (y:=⟨#[c]⟩) (e.symm▸q s.toks),λq=>P.notIn_str (x:=sOf l) (y:=⟨#[c]⟩) (e.symm▸q s.toks)⟩
 . refine A1 (bi h) λo e h=>?_
   have tup:∀{a:Addr} {vs:Array Value} {xs:List V},s.heap.IsTuple a vs->A4p st xs=some r->VRs gv Θ H.n xs vs.toList->cb= .ref a->
    ((∀tk,Q (.bool r) {s with toks:=tk})->wpAny (model pg w) A (compareOp .In (.str (sOf st) t) cb) Q E s)/\((∀tk,Q (.bool (!r)) {s with toks:=tk})->wpAny (model pg w) A (compareOp .NotIn (.str (sOf st) t) cb) Q E s):=λl1 h v1 e=>by
    subst e
    exact⟨λq=>(B41 l1 h v1).1 (q s.toks),λq=>(B41 l1 h v1).2 (q s.toks)⟩
   revert hb
   obtain e | e:=or2 e
   . refine R3 e λi e=>?_
     rintro⟨hi,ec⟩
     refine A1 (S.obj i hi) λo' q r'=>?_
     obtain rfl:=Z0a (q.symm.trans e)
     revert r'
     obtain h | h:=or2 h
     . refine A2e h λxs h=>?_
       intro q'62
       refine B4 q'62 λvs ep l1 v1=>?_
       exact tup ⟨_,l1,rfl,_,rfl⟩ h v1 ec
     . exact A04 h λes h r'=>r'.elim
   . refine W2 e λk e=>?_
     intro hb
     refine A1 (G.tps _ _ e) λa ga tp=>?_
     haveI ec:=Z0a (hb.symm.trans ga)
     revert tp
     obtain h | h:=or2 h
     . refine A2e h λxs h=>?_
       rintro⟨vs,l1,v1⟩
       exact tup ⟨_,S.stays _ _ l1,rfl,_,rfl⟩ h (v1 Θ H.n) ec
     . refine A04 h λes h=>?_
       rintro⟨ns,f,mf,hf⟩
       subst ec
       have m':=A5y mf S.stays
       haveI hk:=Z4a pg w (sOf st) t
       have hr:(f (sOf st)).isSome=r:=by
        refine A1 (mi h) λx q q'65=>?_;subst q'65;cases x with
        |none=>rw[(hf st).2 q];rfl
        |some v=>obtain⟨cv,e1,_⟩:=(hf st).1 v q;rw[e1];rfl
       exact⟨λq=>wpAny_in_of hk ns m' (hr.symm▸q _),λq=>wpAny_notIn_of hk ns m' (hr.symm▸q _)⟩
theorem A0p{op:CmpOp}{a b:V}{ca cb:Value}{r:Bool}{Q:Value->Shared->Prop}(G:GT w T cc gv mg mb A0 K)(S:St gv an A0 Θ H fs s.heap)(hu:A.units<cLine)(h:A17 T H (cCp op) a b=some r)(ha:VR gv Θ H.n a ca)(hb:VR gv Θ H.n b cb)
 (k:∀tk,Q (.bool r) {s with toks:=tk}):wpAny (model pg w) A (compareOp op ca cb) Q E s:=by
 have eqs:∀r,A7o H a b=some r->(Q (.bool r) s->wpAny (model pg w) A (compareOp .Eq ca cb) Q E s)/\(Q (.bool (!r)) s->wpAny (model pg w) A (compareOp .NotEq ca cb) Q E s):=λr e=>by
  obtain e | e:=or2 e
  . revert ha hb;refine R3 e λi e=>R3 e λj e=>?_;rintro⟨hi,rfl⟩ ⟨hj,rfl⟩;exact B8r S hu e hi hj
  . exact C7a e ha hb
 cases op <;> simp only[cCp,A17] at h
 . exact(eqs _ h).1 (k s.toks)
 . have:=A8j h;exact(eqs _ this).2 (by rw[Bool.not_not];exact k s.toks)
 . exact(B4j h ha hb (k s.toks)).1
 . exact(B7o h ha hb (k s.toks)).1
 . exact(B4j h hb ha (k s.toks)).2
 . exact(B7o h hb ha (k s.toks)).2
 . exact(B21 h ha hb).1 (k s.toks)
 . haveI:=A8j h;exact(B21 this ha hb).2 (by rw[Bool.not_not];exact k s.toks)
 . exact(B2o G S h ha hb).1 k
 . haveI:=A8j h;exact(B2o G S this ha hb).2 (λtk=>by rw[Bool.not_not];exact k tk)
end
section
open PySem.Builtin.Str
theorem VRs.nth{xs:List V}{vs:List Value}{i:Nat}{v:V}(x:VRs gv Θ n xs vs)(h:xs[i]?=some v):∃cv,vs[i]?=some cv/\VR gv Θ n v cv:=by
 refine D8.ind (P:=λxs vs=>∀i:Nat,xs[i]?=some v->∃cv,vs[i]?=some cv/\VR gv Θ n v cv) x (λi h=>nn (List.getElem?_nil.symm.trans h)) (λa b J J r J ih i h=>?_) i h;cases i with
 |zero=>exact⟨b,rfl,Z0a h▸r⟩
 |succ i=>exact ih i h
theorem VRs.last{xs:List V}{vs:List Value}{v:V}(r:VRs gv Θ n xs vs)(h:xs.getLast?=some v):∃cv,vs.getLast?=some cv/\VR gv Θ n v cv:=by
 rw[Z3t] at h;refine A1 (VRs.nth r h) λcv a b=>?_;refine A6 cv (?_) b;rw[Z3t,<-VRs.len r];exact a
theorem B5h{j n:Nat}(h:j<n):seqIndex? (j:Int) n=some j:=by
 unfold seqIndex?;haveI h0:¬((j:Int)<0):=by lia
 simp only[h0,if_false];rw[Z0p (by simp only[Bool.and_eq_true,decide_eq_true_eq];lia)];simp
section
variable{K:Frag}
theorem D2f(slice:Expr)(o i:Value):∃ops,subscripted slice false o i=operate ops (getItem o i):=by
 cases slice with
 |Slice a b c p=>cases c <;> exact⟨_,rfl⟩
 |_=>exact⟨_,rfl⟩
theorem W4{value slice:Expr}{o i:Value}{ty id:String}{Q:Value->Shared->Prop}(hT:s.TypeIs o ty)
 (hl:typeLookup (.type ty) "__getitem__" = pure (some (.builtin id))) (h:wpAny (model pg w) A (getItem o i) Q E s):wpAny (model pg w) A (subscriptTail value slice o i) Q E s:=by
 refine Z0d ?_
 refine Z0d (wpAny_specialOf hT hl ?_)
 have fin:wpAny (model pg w) A (subscripted slice false o i) (λr s₃=>wpAny (model pg w) A (letTemporaryGo value o r >>= λJ=>pure r) Q E s₃) E s:=by
  refine P6 (D2f slice o i) λops e=>?_;refine re e ?_;exact wpAny_operating (Z1c h (λr s₃ h₃=>Z0d (Z3a (Z0f h₃))) λJ J x=>x)
 first
  |exact Z0f (Z0d fin)
  |exact Z0d (Z0f (Z0d fin))
  |exact Z0d fin
theorem B3p{xs:List V}{vs:Array Value}{b v:V}{cb:Value}(x:VRs gv Θ n xs vs.toList)(h:A0t xs b=some v)(hb:VR gv Θ n b cb) :
 ∃cv,VR gv Θ n v cv/\((∃(j:Nat) (t:Tok),cb= .int j t/\j<=100000/\vs[j]?=some cv)\/∃t,cb= .int (-1) t/\vs.size≠0/\vs[vs.size - 1]?=some cv):=by
 revert hb
 refine J4 h λi h=>?_
 rintro⟨t,rfl⟩
 cases i with
 |ofNat j=>
  obtain⟨q,e⟩:=B0 h;rw[A1h] at e;refine A1 (x.nth e) λcv e1 e2=>?_;exact A6 cv e2 (.inl ⟨j,t,rfl,Z0l q,Array.getElem?_toList▸e1⟩)
 |negSucc j=>
  obtain⟨q,e⟩:=B0 h;obtain rfl:=Z0e q;rw[D40] at e;refine A1 (x.last e) λcv e1 e2=>?_;rw[Z3t,Array.length_toList,Array.getElem?_toList] at e1;exact A6 cv e2 (.inr ⟨t,rfl,Z0q (Z0t (Z1y _) (Z2b.mp e1).1),e1⟩)
theorem A7e{j:Nat}(h:j<=100000):(j:Int)<2 ^ 63:=Int.lt_of_le_of_lt (Int.ofNat_le.mpr h) (by decide)
theorem A3s{n:Nat}(h:n≠0):-(n:Int)<=-1/\((-1:Int)+n).toNat=n - 1:=⟨Int.neg_le_neg (Int.ofNat_le.mpr (Nat.one_le_iff_ne_zero.mpr h)),Int.add_comm ..▸Int.toNat_sub n 1⟩
theorem C3o{value slice:Expr}{l:Addr}{xs:List V}{vs:Array Value}{v b:V}{cb:Value}{Q:Value->Shared->Prop}(hl:s.heap.IsList l vs)(x:VRs gv Θ n xs vs.toList)(h:A0t xs b=some v)(hb:VR gv Θ n b cb)
 (k:∀cv tk,VR gv Θ n v cv->Q cv {s with toks:=tk}):wpAny (model pg w) A (subscriptTail value slice (.ref l) cb) Q E s:=by
 refine A1 (B3p x h hb) λcv e2 h=>?_
 refine W4 hl.typeIs slot_list_getitem.lookup ?_
 rcases h with⟨j,t,rfl,q,e1⟩ | ⟨t,rfl,hne,e1⟩
 . exact Z3u hl (Z2f j) (A7e q) e1 (k cv s.toks e2)
 . exact wpAny_getItem_list_neg hl (by decide) (A3s hne).1 (by decide) (by rw[(A3s hne).2];exact e1) (k cv s.toks e2)
theorem B30{value slice:Expr}{l:Addr}{xs:List V}{vs:Array Value}{e:Nat}{v b:V}{cb:Value}{Q:Value->Shared->Prop}(hl:IsT s.heap l vs e)(x:VRs gv Θ n xs vs.toList)(h:A0t xs b=some v)(hb:VR gv Θ n b cb)
 (k:∀cv tk,VR gv Θ n v cv->Q cv {s with toks:=tk}):wpAny (model pg w) A (subscriptTail value slice (.ref l) cb) Q E s:=by
 refine A1 (B3p x h hb) λcv e2 h=>?_
 refine W4 ⟨_,hl,rfl⟩ F.slot_tuple_getitem.lookup ?_
 rcases h with⟨j,t,rfl,q,e1⟩ | ⟨t,rfl,hne,e1⟩
 . exact P.getItem_tuple hl (Int.le_trans (by decide) (Z2f j)) (A7e q) (B5h (Z2b.mp e1).1) e1 (k cv s.toks e2)
 . exact P.getItem_tuple (k:=vs.size - 1) hl (by decide) (by decide) ((seqIndex_neg (by decide) (A3s hne).1).trans (congrArg some (A3s hne).2)) e1 (k cv s.toks e2)
theorem D7j{s:Tx}{k:Nat}{v:V}(h:B71 s k=some v):∃c,k<=100000/\s[k]?=some c/\v= .str [c]:=by
 obtain⟨q,h⟩ | ⟨_,h⟩:=bBo h
 . rw[A1h] at h;rw[C8,decide_eq_true_eq] at q;cases e:s[k]? with
   |none=>rw[e] at h;exact nn h
   |some c=>rw[e] at h;replace h:=Z0a h;subst h;exact T9 c q rfl rfl
 . exact nn h
theorem C8t{value slice:Expr}{a b v:V}{ca cb:Value}{Q:Value->Shared->Prop}(G:GT w T cc gv mg mb A0 K)(S:St gv an A0 Θ H fs s.heap)(h:item T H a b=some v)(ha:VR gv Θ H.n a ca)(hb:VR gv Θ H.n b cb)
 (k:∀cv tk,VR gv Θ H.n v cv->Q cv {s with toks:=tk}):wpAny (model pg w) A (subscriptTail value slice ca cb) Q E s:=by
 revert ha
 rcases or2 h with h1 | h
 . refine A1f h1 λg st op h1=>?_
   revert hb
   refine M0 h1 λg' j h2=>?_
   rintro⟨_,u,rfl⟩ ⟨hg,t,rfl⟩
   obtain⟨rfl,e2⟩:=U1 h2
   refine D6 (D7j e2) λc q e3 q'8=>?_
   subst q'8
   haveI hp:=S.gh g hg
   unfold K7 D4 at hp
   have hx:((Θ.gh g).pre ++ st ++ (if op=true then (Θ.gh g).suf else []))[(Θ.gh g).pre.length+j]?=some c:=by
    rw[List.append_assoc,Z1o (Nat.le_add_right _ _),Nat.add_sub_cancel_left,Z1l (Z1m.mp e3).1];exact e3
   refine W4 (typeIs_str _ _ _) F.slot_str_getitem.lookup (P.getItem_str (c:=c) ?_ ?_ (k _ _ ⟨s.toks,rfl⟩))
   . rw[Z1h (by lia),Z1h (by lia)];rfl
   . rw[B5h (by simp only[F4];exact(Z1m.mp hx).1)]
     unfold sOf
     simpa using hx
 rcases or2 h with h1 | h1
 . refine R3 h1 λi h2=>?_
   rintro⟨hi,rfl⟩
   refine A1 (bi h2) λo eo h=>?_
   refine A1 (S.obj i hi) λo' eo' r=>?_
   obtain rfl:=Z0a (eo'.symm.trans eo)
   revert r
   rcases or2 h with h | h
   . exact Q6 h λxs h r=>r.elim λvs r=>r.elim λep r=>C3o ⟨_,r.1,rfl,_,rfl⟩ r.2 h hb k
   rcases or2 h with h | h
   . exact A2e h λxs h r=>r.elim λvs r=>r.elim λep r=>B30 r.1 r.2 h hb k
   . refine A2v h λc ws wt h r=>?_
     obtain⟨_,_,vs,e,path,l1,_,_,_,l5,_⟩:=r
     revert hb
     refine J4 h λj h=>?_
     rintro⟨t,rfl⟩
     cases j with
     |negSucc j=>exact nn h
     |ofNat j=>
      obtain⟨q1,h⟩:=B0 h;obtain⟨q2,h⟩:=B0 h;rw[C8,decide_eq_true_eq,D0] at q1;haveI hj:j<(Θ.gh i).wn:=by lia
      exact W4 ⟨_,l1,rfl⟩ slot_list_getitem.lookup (Z3u ⟨_,l1,rfl,_,rfl⟩ (Z2f j) (A7e (Z0l q2)) (l5 j hj) (k _ s.toks (Z0a h▸⟨hi,hj,rfl⟩)))
 . refine W2 h1 λg h2 ha=>?_
   obtain⟨o,eo,h⟩:=bi h2
   refine A1 (G.tps _ _ eo) λa ga r=>?_
   obtain rfl:ca= .ref a:=Z0a (ha.symm.trans ga)
   revert r
   rcases or2 h with h | h
   . exact A2e h λxs h r=>r.elim λvs r=>B30 (S.stays _ _ r.1) (r.2 Θ H.n) h hb k
   . refine A04 h λes h r=>?_
     obtain⟨ns,f,mf,hf⟩:=r
     haveI m':=A5y mf S.stays
     revert hb
     refine O3 h λst h=>?_
     rintro⟨t,rfl⟩
     refine A1 (bi h) λx q e=>?_
     refine A1 ((hf st).1 _ (q.trans (congrArg some e))) λcv e1 e2=>?_
     exact W4 m'.typeIs slot_dict_getitem.lookup (wpAny_getItem_of (Z4a pg w (sOf st) t) m' e1 (k _ _ (e2 Θ H.n)))
theorem D0e(a b:Int)(n:Nat)(hb:0<=b):strSliceIndices (some a) (some b) 1 n=strSliceIndices (some a) (some (min b n)) 1 n:=by
 haveI h2:¬(b<0):=Int.not_lt.mpr hb;haveI h3:¬(min b (n:Int)<0):=Int.not_lt.mpr (Int.le_min.mpr ⟨hb,Z2f n⟩);simp only[strSliceIndices,h2,h3,if_false,show((1:Int)>0)=True from by simp,if_true];rw[show min (min b (n:Int)) (n:Int)=min b n from Int.min_eq_left (Int.min_le_right ..)]
theorem C29(a b:Nat):min (a:Int) (b:Int)=((min a b:Nat):Int):=by
 rcases Nat.le_total a b with h | h
 . rw[Nat.min_eq_left h,Int.min_eq_left (Int.ofNat_le.mpr h)]
 . rw[Nat.min_eq_right h,Int.min_eq_right (Int.ofNat_le.mpr h)]
theorem B2s{α:Type}(l:List α)(a b:Nat):(l.drop a).take (min b l.length - a)=(l.drop a).take (b - a):=by
 rcases Nat.le_total b l.length with q | q
 . rw[Nat.min_eq_left q]
 . rw[Nat.min_eq_right q,Z2s (Z0z List.length_drop),Z2s (Z0c (Z0z List.length_drop) (Nat.sub_le_sub_right q a))]
theorem B8q(l:Tx){a b:Nat}(hab:a<=b)(ha:a<=l.length):Txt.slice (sOf l) (some (a:Int)) (some (b:Int))=sOf ((l.drop a).take (b - a)):=by
 have m1:a<=min b l.length:=Nat.le_min.mpr ⟨hab,ha⟩;have m2:min b l.length<=(sOf l).length:=Nat.min_le_right ..;have e:strSliceIndices (some (a:Int)) (some (b:Int)) 1 (sOf l).length=strSliceIndices (some (a:Int)) (some ((min b l.length:Nat):Int)) 1 (sOf l).length:=(D0e _ _ _ (Z2f b)).trans (congrArg (λz=>strSliceIndices (some (a:Int)) (some z) 1 (sOf l).length) (C29 b l.length));unfold Txt.slice;rw[e];by_cases q:((1:Int)==1&&(strSliceIndices (some (a:Int)) (some ((min b l.length:Nat):Int)) 1 (sOf l).length).length==(sOf l).length)=true
 . rw[Z0p q];have z:=eq_of_beq (Z1j.mp q).2;rw[StrLaws.strSliceIndices_plain m1 m2,List.length_map,List.length_range] at z;refine congrArg sOf (List.Sublist.eq_of_length ((Z2r _ _).trans (List.drop_sublist _ _)) ?_).symm;rw[<-B2s,List.length_take,List.length_drop,Nat.min_eq_left (Nat.sub_le_sub_right (Nat.min_le_right ..) a)];exact z
 . rw[Z0m q,StrLaws.sliced_plain (sOf l) m1 m2];exact congrArg sOf (B2s l a b)
theorem C3i(a b:Tx)(i:Nat):(a ++ b).drop (a.length+i)=b.drop i:=by
 rw[<-Z3z,List.drop_left]
theorem B4b{v:V}{cv:Value}(h:A15 v=true)(x:VR gv Θ n v cv):∃i t,cv= .int i t:=by
 rcases(Bool.or_eq_true _ _).mp h with h | h
 . exact V.lin.elim (motive:=λv=>VR gv Θ n v cv->∃i t,cv= .int i t) v (Z0e h) (λJ J x=>⟨_,x.2⟩) x
 . exact V.pl.elim (motive:=λv=>VR gv Θ n v cv->∃i t,cv= .int i t) v (Z0e h) (λJ J x=>⟨_,x.2⟩) x
theorem B2e{value slice:Expr}{x:Str}{t ti tj:Tok}{i j:Int}{Q:Value->Shared->Prop}(hx:x.length<=sizeLine)
 (k:∀t' tk,Q (.str (Txt.slice x (some i) (some j)) t') {s with heap:=s.heap.push {cls:= .type "slice",data:= .fields #[.int i ti, .int j tj, .none]},toks:=tk}) :
 wpAny (model pg w) A (subscriptTail value slice (.str x t) (.ref s.heap.objs.size)) Q E {s with heap:=s.heap.push {cls:= .type "slice",data:= .fields #[.int i ti, .int j tj, .none]}}:=
 W4 (typeIs_str _ _ _) F.slot_str_getitem.lookup (wpAny_getItem_str_slice (l:=some (i,ti)) (u:=some (j,tj)) (st:=none) ⟨_,Z0r _ rfl,rfl,rfl⟩ rfl
  (post_val_or_str ⟨Z0c (Txt.slice_le x _ _) hx,λt' kk=>k _ _⟩))
theorem C2w{g:Nat}{st:Tx}{op:Bool}{v:V}{a b:V}{ca cb:Value}(h:A64 g st op a b=some v)(ha:VR gv Θ n a ca)(hb:VR gv Θ n b cb) :
 ∃i j ti tj s,ca= .int i ti/\cb= .int j tj/\v= .str s/\Txt.slice (sOf ((Θ.gh g).pre ++ st ++ (if op=true then (Θ.gh g).suf else []))) (some i) (some j)=sOf s:=by
 revert ha hb
 refine M0 h λg1 i h1=>M0 h1 λg2 j h2=>?_
 clear h h1
 rintro⟨_,ti,rfl⟩ ⟨_,tj,rfl⟩
 obtain⟨e1,h3⟩:=U1 h2
 obtain⟨e2,h⟩:=U1 h3
 clear h2 h3
 subst e1 e2
 obtain⟨q1,h⟩:=B0 h
 refine A8 (B0 h) λq2 h=>?_
 have q1:=Z0l q1
 have q2:=Z0l q2
 rw[D0] at q1
 have e:(((Θ.gh g).pre ++ st ++ (if op=true then (Θ.gh g).suf else [])).drop ((Θ.gh g).pre.length+i)).take ((Θ.gh g).pre.length+j - ((Θ.gh g).pre.length+i))=(st.drop i ++ (if op=true then (Θ.gh g).suf else [])).take (j - i):=by
  rw[List.append_assoc,C3i,Nat.add_sub_add_left,Z3k q1]
 have sl:=B8q ((Θ.gh g).pre ++ st ++ (if op=true then (Θ.gh g).suf else [])) (Nat.add_le_add_left q2 (Θ.gh g).pre.length) (by rw[List.length_append,List.length_append];exact Z0c (Nat.add_le_add_left q1 _) (Nat.le_add_right _ _))
 rw[e] at sl
 rcases bBo h with⟨q3,h⟩ | ⟨q3,h⟩
 . have q3:=Z0l q3
   rw[D0] at q3
   refine A3i _ _ ti tj _ rfl rfl ((Z0a h).symm) (?_)
   rw[sl,List.take_append_of_le_length (by rw[List.length_drop];exact Nat.sub_le_sub_right q3 i),C11,A59];rfl
 . rcases bBo h with⟨_,h⟩ | ⟨rfl,h⟩
   . exact nn h
   . refine A3i _ _ ti tj _ rfl rfl ((Z0a h).symm) (?_)
     rw[C8,decide_eq_false_iff_not,D0] at q3
     rw[sl,Z0m Z0u,List.append_nil,Z2s (by rw[List.length_drop];exact Nat.sub_le_sub_right (Nat.le_of_not_le q3) i),A59]
theorem C0h{value slice:Expr}{o a b v:V}{co ca cb:Value}{Q:Value->Shared->Prop}(gh:∀g,g<n->K7 Θ g)(h:B5a o a b=some v)(ho:VR gv Θ n o co)(ha:VR gv Θ n a ca)(hb:VR gv Θ n b cb)
 (k:∀cv tk,VR gv Θ n v cv->Q cv {s with heap:=s.heap.push {cls:= .type "slice",data:= .fields #[ca,cb, .none]},toks:=tk}) :
 wpAny (model pg w) A (subscriptTail value slice co (.ref s.heap.objs.size)) Q E {s with heap:=s.heap.push {cls:= .type "slice",data:= .fields #[ca,cb, .none]}}:=by
 revert ho
 refine A1f h λg st op h=>?_
 rintro⟨hg,t,rfl⟩
 obtain⟨q,h⟩:=B0 h
 haveI hs:=A0c q
 haveI hp:=gh g hg
 unfold K7 at hp
 have hl:((Θ.gh g).pre ++ st ++ (if op=true then (Θ.gh g).suf else [])).length<=2 * D4:=by
  rw[List.length_append,List.length_append,show D4=1048576 from rfl] at *;cases op <;> simp <;> lia
 haveI hl2:(sOf ((Θ.gh g).pre ++ st ++ (if op=true then (Θ.gh g).suf else []))).length<=sizeLine:=Z0c hl (by decide)
 cases e:A64 g st op a b with
 |none=>
  rw[e] at h;obtain⟨na,h⟩:=B0 (show bB (A15 a) (bB (A15 b) (some V.anyS) none) none=some v from h);refine A8 (B0 h) λnb h=>?_;refine F9 (B4b na ha) λi ti q'21=>?_;subst q'21;refine F9 (B4b nb hb) λj tj q'20=>?_;subst q'20;exact B2e hl2 λt' tk=>k _ _ ((Z0a h)▸⟨_,t',rfl,Z0c (Txt.slice_le _ _ _) hl⟩)
 |some v'=>
  rw[e] at h;refine A8m (C2w e ha hb) λi j ti tj s' q'23 q'24 e1 e2=>?_;subst q'23;subst q'24;exact B2e hl2 λt' tk=>k _ _ ((Z0a h:v'=v)▸e1▸⟨t',by rw[e2]⟩)
end
end
section
open PySem.Builtin.Str
theorem D44:∀(f n:Nat) (l:Tx),n<10 ^ (f+1)->A0z (f+1) n l=(Nat.toDigits 10 n).map Char.toNat ++ l:=by
 intro f;have dig:∀d:Nat,d<10->(Nat.digitChar d).toNat=Nat.add 48 d:=by decide
 have unf:∀f n l,A0z (f+1) n l=if n<=9 then Nat.add 48 n :: l else A0z f (n / 10) (Nat.add 48 (n % 10) :: l):=λf n l=>by
  show bB (Nat.ble n 9) (Nat.add 48 n :: l) (A0z f (Nat.div n 10) (Nat.add 48 (Nat.mod n 10) :: l))=_;rw[Z7,C8];by_cases q:n<=9
  . rw[decide_eq_true q,Z0p rfl,Z0p q]
  . rw[Z1h q,Z0m (by decide),Z0m q];rfl
 have small:∀(n:Nat) (l:Tx),n<=9->Nat.add 48 n :: l=(Nat.toDigits 10 n).map Char.toNat ++ l:=λn l q=>by
  rw[Nat.toDigits_of_lt_base (Z0t q (by decide))];show _= [(Nat.digitChar n).toNat] ++ l;rw[dig n (Z0t q (by decide))];rfl
 induction f with
 |zero=>intro n l h;rw[unf,Z0p (Nat.le_of_lt_succ h)];exact small n l (Nat.le_of_lt_succ h)
 |succ f ih=>
  intro n l h;rw[unf];by_cases q:n<=9
  . rw[Z0p q];exact small n l q
  . rw[Z0m q];have hm:n % 10<10:=Nat.mod_lt n (by decide);haveI t:Nat.toDigits 10 (n / 10) ++ Nat.toDigits 10 (n % 10)=Nat.toDigits 10 (10 * (n / 10)+n % 10):=Nat.toDigits_append_toDigits (by decide) (Nat.div_pos (Nat.lt_of_not_le q) (by decide)) hm;rw[Nat.div_add_mod] at t;haveI hp:n / 10<10 ^ (f+1):=Nat.div_lt_of_lt_mul (by rw[Nat.mul_comm,<-Nat.pow_succ];exact h);rw[ih (n / 10) _ hp,<-t,Z2l,small (n % 10) l (Nat.le_of_lt_succ hm),List.append_assoc]
theorem C7b{j:Nat}(h:j<10 ^ 40):Str.ofString (toString (Int.ofNat j))=sOf (A0z 40 j []):=by
 haveI e:=PySem.W.KIN.signs_num j;rw[D44 39 j [] h,List.append_nil,<-e];show _=Str.mk (List.toArray _);rw[Z1x];rfl
theorem B2a:∀s:Tx,noZ s=true->s.takeWhile (· !=0)=s
 | [],_=>rfl
 |c :: s,h=>by
  haveI h:bB (Nat.beq c 0) false (noZ s)=true:=h;cases q:Nat.beq c 0 with
  |true=>rw[q] at h;exact ff h
  |false=>
   rw[q] at h;have:(c !=0)=true:=by
    rw[bne_iff_ne];intro z;subst z;cases q
   rw[List.takeWhile_cons,Z0p this,B2a s h]
theorem C0y{b:Nat}{s:Tx}{n:Int}(h:A2h b s=some n):(int_private% "readNumeral") 0 b s=(int_private% "Numeral.value") n:=by
 unfold A2h at h;generalize (int_private% "readNumeral") 0 b s=q at h ⊢;cases q <;> first | (cases h;rfl) | (exact nn h;done)
theorem D7o{s:Tx}(h:U0 s=true):(sOf s).cps.all (· < 128)=true:=by
 have:∀s:Tx,U0 s=true->s.all (· < 128)=true:=by
  intro s;induction s with
  |nil=>intro J;rfl
  |cons c s ih=>
   intro h;obtain⟨a,b⟩:=A5 h;rw[C8,decide_eq_true_eq] at a;rw[List.all_cons,ih b,decide_eq_true (Z0t a (by decide))];rfl
 unfold sOf;simpa using this s h
theorem C3p(a b:Value):checkTypeCall "int" ⟨[a,b],[]⟩=pure ():=rfl
theorem C5v(a b:Value):checkBuiltinCall "int.__new__" ⟨[.type "int",a,b],[]⟩=pure ():=by kernel_rfl
theorem D7q(obj a b:Value):argsOk "object.__init__" ⟨[obj,a,b],[]⟩:=by unfold argsOk;kernel_rfl
theorem D72{x:Tx}{u t:Tok}{n:Int}{b:Nat}(hb:b=10\/b=16)(hl:x.length<=640)(ha:U0 x=true)(hz:noZ x=true)(hn:A2h b x=some n) :
 Gives (Builtin.«int.__new__» ⟨[.type "int", .str (sOf x) u, .int (b:Int) t],[]⟩) (.int n):=
 .of_wp λM A E s Q h=>by
  haveI f1:=F.conv_sub_int;haveI f2:=F.madeHere_int;have e1:=B2a x hz;haveI e2:=D7o ha;haveI h1:(x.takeWhile (· !=0)).length<=640:=by rw[e1];exact hl
  have h2:(int_private% "readNumeral") 0 b (x.takeWhile (· !=0))=(int_private% "Numeral.value") n:=by rw[e1];exact C0y hn
  haveI h3:((x.takeWhile (· !=0)).length==x.length)=true:=by rw[e1];simp
  haveI hbad:¬(((((b:Int) !=0)&&decide ((b:Int)<2))||decide ((b:Int)>36))=true):=by rcases hb with rfl | rfl <;> decide
  haveI h4:((b:Int)).toNat=b:=Int.toNat_natCast b;obtain⟨hp,g,d,tk,os⟩:=s
  repeat (any_goals (first
   |assumption
   |(with_reducible refine wpAny_ite_false hbad ?_)
   |wp_step))
  all_goals (simp only[e2,if_true,A83])
  repeat (any_goals (first
   |assumption
   |(with_reducible refine wpAny_ite_true (decide_eq_true h1) ?_)
   |wp_step))
  all_goals (rw[h4,h2];dsimp only)
  repeat (any_goals (first
   |assumption
   |(with_reducible refine wpAny_ite_true (decide_eq_true h3) ?_)
   |wp_step))
  all_goals exact A6 _ rfl h
theorem D2g{x:Tx}{u t:Tok}{n:Int}{b:Nat}{Q:Value->Shared->Prop}(hb:b=10\/b=16)(hl:x.length<=640)(ha:U0 x=true)(hz:noZ x=true)(hn:A2h b x=some n)(h:Q (.int n s.toks) {s with toks:=s.toks+1}) :
 wpAny (model pg w) A (call (.type "int") [.str (sOf x) u, .int (b:Int) t]) Q E s:=
 callType_new F.called_int F.newNe_int (C3p _ _) (C5v _ _) (λobj=>D7q obj _ _) F.entry_int_new (D72 hb hl ha hz hn).meets (show(Made.int n).post _ s from⟨rfl,h⟩)
end
section
open PySem.Builtin.Str
theorem A8x{a b:Int}{t u:Tok}{Q:Value->Shared->Prop}(hh:A.handled=none)
 (h:∀h' tk,(∀c o,s.heap.get? c=some o->h'.get? c=some o)->s.heap.objs.size<=h'.objs.size->Q (if b>a then .int b u else .int a t) {s with heap:=h',toks:=tk}) :
 wpAny (model pg w) A (call (.builtin "max") [.int a t, .int b u]) Q E s:=by
 have hT:(s.heap.push {cls:= .type "tuple",data:= .seq #[.int a t, .int b u]}).IsTuple s.heap.objs.size (intItems #[(a,t),(b,u)]):=⟨_,Z0r _ rfl,rfl,0,by simp[intItems]⟩
 refine call_max_two (Z4y hT ?_)
 haveI hsz:(s.heap.push {cls:= .type "tuple",data:= .seq #[.int a t, .int b u]}).objs.size=s.heap.objs.size+1:=Heap.size_push ..
 refine⟨_,[_,s.heap.objs.size],[_],_,_,_,_,rfl,Walks.tuple (A:=A.in1) hh _ s.heap.objs.size (by rw[hsz];exact Z0k (Z0v _)) (intItems #[(a,t),(b,u)]),
  ⟨⟨_,Z0r _ rfl,rfl,rfl⟩,hT.push _⟩,λc hc=>?_,by simp[intItems],CmpOf.ints_gt (numAt #[(a,t),(b,u)]) (λJ J=>intItems_at),λv h' tk hP hk=>?_⟩
 . rw[Heap.size_push,hsz]
   rcases List.mem_cons.mp hc with rfl | hc
   . rw[hsz];exact Z0v _
   . rcases List.mem_cons.mp hc with rfl | hc
     . exact Z2a (Z0v _)
     . cases hc
 . have hold:∀c o,s.heap.get? c=some o->h'.get? c=some o:=λc o e=>by
    refine hk c o (λhm=>?_) (Z0h _ (Z0h _ e));rcases List.mem_cons.mp hm with e1 | hm
    . have:=Z0i e;rw[e1,hsz] at this;exact Z1e _ (Z2x this)
    . cases hm
   have hs':s.heap.objs.size<=h'.objs.size:=by
    refine A1 hT λoT eT J=>?_;have:=Z0i (hk s.heap.objs.size oT (λhm=>by
     rcases List.mem_cons.mp hm with e1 | hm
     . rw[hsz] at e1;exact Z0k (Z0v _) e1
     . cases hm) (Z0h _ eT))
    exact Z0o this
   haveI:=h h' tk hold hs'
   have hv:v=if b>a then Value.int b u else Value.int a t:=by
    have hP':(intItems #[(a,t),(b,u)])[argBest (λi j=>decide (numAt #[(a,t),(b,u)] i>numAt #[(a,t),(b,u)] j)) 1]?=some v:=by
     haveI hsz2:(intItems #[(a,t),(b,u)]).size - 1=1:=by simp[intItems]
     rw[<-hsz2];exact hP
    by_cases hba:b>a
    . have e:argBest (λi j=>decide (numAt #[(a,t),(b,u)] i>numAt #[(a,t),(b,u)] j)) 1=1:=by simp[argBest,numAt,hba]
      rw[e] at hP';simpa [intItems,hba] using hP'.symm
    . have e:argBest (λi j=>decide (numAt #[(a,t),(b,u)] i>numAt #[(a,t),(b,u)] j)) 1=0:=by simp[argBest,numAt,hba]
      rw[e] at hP';simpa [intItems,hba] using hP'.symm
   rw[hv];exact this
theorem A7z{a b:Int}{t u:Tok}{Q:Value->Shared->Prop}(hh:A.handled=none)
 (h:∀h' tk,(∀c o,s.heap.get? c=some o->h'.get? c=some o)->s.heap.objs.size<=h'.objs.size->Q (if b<a then .int b u else .int a t) {s with heap:=h',toks:=tk}) :
 wpAny (model pg w) A (call (.builtin "min") [.int a t, .int b u]) Q E s:=by
 have hT:(s.heap.push {cls:= .type "tuple",data:= .seq #[.int a t, .int b u]}).IsTuple s.heap.objs.size (intItems #[(a,t),(b,u)]):=⟨_,Z0r _ rfl,rfl,0,by simp[intItems]⟩
 refine call_min_two (Z4y hT ?_)
 haveI hsz:(s.heap.push {cls:= .type "tuple",data:= .seq #[.int a t, .int b u]}).objs.size=s.heap.objs.size+1:=Heap.size_push ..
 refine⟨_,[_,s.heap.objs.size],[_],_,_,_,_,rfl,Walks.tuple (A:=A.in1) hh _ s.heap.objs.size (by rw[hsz];exact Z0k (Z0v _)) (intItems #[(a,t),(b,u)]),
  ⟨⟨_,Z0r _ rfl,rfl,rfl⟩,hT.push _⟩,λc hc=>?_,by simp[intItems],CmpOf.ints_lt (numAt #[(a,t),(b,u)]) (λJ J=>intItems_at),λv h' tk hP hk=>?_⟩
 . rw[Heap.size_push,hsz]
   rcases List.mem_cons.mp hc with rfl | hc
   . rw[hsz];exact Z0v _
   . rcases List.mem_cons.mp hc with rfl | hc
     . exact Z2a (Z0v _)
     . cases hc
 . have hold:∀c o,s.heap.get? c=some o->h'.get? c=some o:=λc o e=>by
    refine hk c o (λhm=>?_) (Z0h _ (Z0h _ e));rcases List.mem_cons.mp hm with e1 | hm
    . have:=Z0i e;rw[e1,hsz] at this;exact Z1e _ (Z2x this)
    . cases hm
   have hs':s.heap.objs.size<=h'.objs.size:=by
    refine A1 hT λoT eT J=>?_;have:=Z0i (hk s.heap.objs.size oT (λhm=>by
     rcases List.mem_cons.mp hm with e1 | hm
     . rw[hsz] at e1;exact Z0k (Z0v _) e1
     . cases hm) (Z0h _ eT))
    exact Z0o this
   haveI:=h h' tk hold hs'
   have hv:v=if b<a then Value.int b u else Value.int a t:=by
    have hP':(intItems #[(a,t),(b,u)])[argBest (λi j=>decide (numAt #[(a,t),(b,u)] i<numAt #[(a,t),(b,u)] j)) 1]?=some v:=by
     haveI hsz2:(intItems #[(a,t),(b,u)]).size - 1=1:=by simp[intItems]
     rw[<-hsz2];exact hP
    by_cases hba:b<a
    . have e:argBest (λi j=>decide (numAt #[(a,t),(b,u)] i<numAt #[(a,t),(b,u)] j)) 1=1:=by simp[argBest,numAt,hba]
      rw[e] at hP';simpa [intItems,hba] using hP'.symm
    . have e:argBest (λi j=>decide (numAt #[(a,t),(b,u)] i<numAt #[(a,t),(b,u)] j)) 1=0:=by simp[argBest,numAt,hba]
      rw[e] at hP';simpa [intItems,hba] using hP'.symm
   rw[hv];exact this
section
variable{K:Frag}
theorem VRs.one{Θ:Th}{n:Nat}{v:V}{cvs:List Value}(x:VRs gv Θ n [v] cvs):∃c,cvs= [c]/\VR gv Θ n v c:=by
 cases cvs with
 |nil=>exact x.elim
 |cons c r=>
  cases r with
  |nil=>exact A6 c rfl x.1
  |cons _ _=>exact x.2.elim
theorem VRs.two{Θ:Th}{n:Nat}{v u:V}{cvs:List Value}(x:VRs gv Θ n [v,u] cvs):∃c d,cvs= [c,d]/\VR gv Θ n v c/\VR gv Θ n u d:=by
 cases cvs with
 |nil=>exact x.elim
 |cons c r=>
  refine A1 (VRs.one x.2) λd q'1 y=>?_;subst q'1;exact V7 c d rfl x.1 y
theorem VRs.zero{Θ:Th}{n:Nat}{cvs:List Value}(x:VRs gv Θ n [] cvs):cvs= []:=by
 cases cvs with
 |nil=>rfl
 |cons c r=>exact x.elim
theorem C8c{a b c:Tx}{op:Bool}(h:a.length+c.length<=D4)(hb:b.length<=100000):¬((sOf (a ++ b ++ if op then c else [])).length:Int)>=2 ^ 63:=by
 unfold D4 at h;rw[F4,List.length_append,List.length_append];cases op with
 |false=>rw[Z0m Z0u,List.length_nil,Nat.add_zero];exact Int.not_le.mpr (Int.lt_of_le_of_lt (Int.ofNat_le.mpr (Nat.add_le_add (Z0c (Nat.le_add_right _ c.length) h) hb)) (by decide))
 |true=>rw[Z0p rfl,Nat.add_right_comm];exact Int.not_le.mpr (Int.lt_of_le_of_lt (Int.ofNat_le.mpr (Nat.add_le_add h hb)) (by decide))
theorem C5y{g:Nat}{st:Tx}{t:Tok}(hg:g<n)(op:Bool):VR gv Θ n (bB op (.tlen g (len st)) (.lin g (len st))) (.int ((sOf ((Θ.gh g).pre ++ st ++ if op then (Θ.gh g).suf else [])).length:Int) t):=by
 rw[F4,List.length_append,List.length_append,D0];cases op with
 |false=>exact⟨hg,t,rfl⟩
 |true=>exact⟨hg,t,rfl⟩
theorem D7s{a:V}{ca v:Value}{r:V}{Q:Value->Shared->Prop}(S:St gv an A0 Θ H fs s.heap)(h:B4c a H=some r)(ha:VR gv Θ H.n a ca)(k:∀cv tk,VR gv Θ H.n r cv->Q cv {s with toks:=tk}):wpAny (model pg w) A (call (.builtin "len") [ca]) Q E s:=by
 refine(or2 h).elim (λh=>A80 h ha λg st op t hg h=>?_) λh=>(or2 h).elim (λh=>M5 h ha λst t h=>?_) λh=>U6 h ha λi hi h=>?_
 . refine(B0 h).elim λq e=>?_;rw[C8,decide_eq_true_eq,D0] at q;exact P.len_str (C8c (S.gh g hg) q) (k _ _ (Z0a e▸C5y hg op))
 . refine(B0 h).elim λq e=>?_;rw[C8,decide_eq_true_eq,D0] at q;refine P.len_str ?_ (k _ _ (Z0a e▸⟨_,by rw[F4,D0];rfl⟩));rw[F4];lia
 . refine A1 (bi h) λo eo h=>?_;haveI x:=S.is hi eo;revert x;refine(or2 h).elim (λh=>Q6 h λxs h x=>?_) λh=>A2v h λc ws t h x=>?_
   . refine B4 x λvs ep l1 v1=>?_;refine(B0 h).elim λq e=>?_;rw[C8,decide_eq_true_eq,D0] at q;haveI s1:=v1.len.trans Array.length_toList;exact len_list ⟨_,l1,rfl,_,rfl⟩ (by lia) (k _ _ (Z0a e▸⟨_,by rw[D0,s1];rfl⟩))
   . obtain⟨c1,c2,vs,e,path,l1,l2,l3,l4,l5,l6⟩:=x;refine len_list ⟨_,l1,rfl,_,rfl⟩ (by lia) (k _ _ (Z0a h▸⟨hi,s.toks+1,?_⟩));rw[l3,show((0:Nat):Int)=0 from rfl,Int.sub_zero]
theorem C13{a d r:V}{ca cd:Value}{Q:Value->Shared->Prop}(G:GT w T cc gv mg mb A0 K)(S:St gv an A0 Θ H fs s.heap)(h:B27 T a d H=some r)(ha:VR gv Θ H.n a ca)(hd:VR gv Θ H.n d cd)(k:∀cv tk,VR gv Θ H.n r cv->Q cv {s with toks:=tk}) :
 wpAny (model pg w) A (call (.builtin "isinstance") [ca,cd]) Q E s:=by
 have KI:K.In s.heap:=G.kin.keeps S.stays
 refine U6 h ha λi hi h=>?_
 revert hd
 refine W2 h λd h hd=>?_
 refine A1 (bi h) λo eo h=>?_
 haveI x:=S.is hi eo
 revert x
 refine A2q h λc fx h x=>?_
 obtain⟨C,m,z,g1,g2,g3,g4,cl⟩:=x
 refine A1 (mi h) λb e2 h=>?_
 refine A1 (bi e2) λcl e3 e2=>?_
 obtain⟨D,rfl⟩:=G.ref _ _ hd
 obtain⟨i1,i2⟩:=G.isi _ cl d e3 C D g1 hd
 refine A1 (G.cls _ _ e3) λC' g1' CO=>?_
 obtain rfl:C=C':=Value.ref.inj (Z0a (g1.symm.trans g1'))
 refine(bBo e2).elim (λx=>?_) λx=>?_
 . exact C1h KI g2 (i1 x.1) (k _ s.toks (h▸Z0a x.2▸rfl))
 . refine A1 (mi x.2) λcl' e5 e4=>?_
   exact C1t KI CO.k g2 g3 (i2 x.1 _ e5) (k _ _ (h▸e4▸rfl))
theorem B9r{a:V}{ca v:Value}{r:V}{Q:Value->Shared->Prop}(h:B66 a=some r)(ha:VR gv Θ n a ca)(k:∀cv tk,VR gv Θ n r cv->Q cv {s with toks:=tk}):wpAny (model pg w) A (call (.builtin "ord") [ca]) Q E s:=by
 refine M5 h ha λst t h=>?_;exact M6 h λc h=>P.ord_of_char (k _ _ (Z0a h▸⟨_,rfl⟩))
theorem C6i{a:V}{ca v:Value}{r:V}{Q:Value->Shared->Prop}(h:bI1 a=some r)(ha:VR gv Θ n a ca)(k:∀cv tk,VR gv Θ n r cv->Q cv {s with toks:=tk}):wpAny (model pg w) A (call (.type "int") [ca]) Q E s:=
 G8 h ha λi t h=>call_int_int (k _ s.toks (Z0a h▸⟨t,rfl⟩))
theorem C95{a:V}{ca v:Value}{r:V}{Q:Value->Shared->Prop}(h:bS1 a=some r)(ha:VR gv Θ n a ca)(k:∀cv tk,VR gv Θ n r cv->Q cv {s with toks:=tk}):wpAny (model pg w) A (call (.type "str") [ca]) Q E s:=by
 refine G8 h ha λi t h=>?_;refine R4 h λj h=>?_;refine(B0 h).elim λq e=>?_;rw[C8,decide_eq_true_eq] at q;refine P.str_of_int ?_ (k _ _ (Z0a e▸⟨s.toks,?_⟩))
 . by_cases z:j=0
   . subst z;decide
   . exact(Nat.log2_lt z).mpr (Z0t q (by decide))
 . rw[<-C7b (Z0t q (by decide))]
theorem C5w{m:Nat}{f:Value}{a:V}{ca:Value}{v:V}{Q:Value->Shared->Prop}(S:St gv an A0 Θ H fs s.heap)
 (h:b1 m a H=some v) (hf:O9 m=some f) (ha:VR gv Θ H.n a ca) (k:∀cv tk,VR gv Θ H.n v cv->Q cv {s with toks:=tk}):wpAny (model pg w) A (call f [ca]) Q E s:=by
 have eq:∀{c g},m.beq c=true->O9 c=some g->g=f:=λq e=>Z0a (e.symm.trans (Z0e q▸hf))
 refine(bBo h).elim (λh=>eq h.1 rfl▸D7s (v:=ca) S h.2 ha k) λh=>(bBo h.2).elim (λh=>eq h.1 rfl▸B9r (v:=ca) h.2 ha k) λh=>(bBo h.2).elim (λh=>eq h.1 rfl▸C6i (v:=ca) h.2 ha k) λh=>
  (bBo h.2).elim (λh=>eq h.1 rfl▸C95 (v:=ca) h.2 ha k) λh=>nomatch h.2
theorem C9f[Og s og]{a b:V}{ca cb:Value}{v:V}{Q:Value->Shared->Prop}(hh:A.handled=none)
 (h:A4n (λa b=>some (.int (bB (ile a b) a b))) a b=some v) (ha:VR gv Θ n a ca) (hb:VR gv Θ n b cb)
 (k:∀cv s',(∀b o,s.heap.get? b=some o->s'.heap.get? b=some o)->s.heap.objs.size<=s'.heap.objs.size->VR gv Θ n v cv->∀ [Og s' og],Q cv s'):wpAny (model pg w) A (call (.builtin "min") [ca,cb]) Q E s:=by
 refine G8 h ha λa t h=>G8 h hb λb u h=>A7z hh λh' tk k1 k2=>k _ _ k1 k2 (Z0a h▸?_)
 rw[A4v]
 by_cases z:b<a
 . exact⟨u,by rw[Z0p z,Z1h (Int.not_le.mpr z)];rfl⟩
 . exact⟨t,by rw[Z0m z,decide_eq_true (Int.not_lt.mp z)];rfl⟩
theorem D6s[Og s og]{a b:V}{ca cb:Value}{v:V}{Q:Value->Shared->Prop}(hh:A.handled=none)
 (h:A4n (λa b=>some (.int (bB (ile b a) a b))) a b=some v) (ha:VR gv Θ n a ca) (hb:VR gv Θ n b cb)
 (k:∀cv s',(∀b o,s.heap.get? b=some o->s'.heap.get? b=some o)->s.heap.objs.size<=s'.heap.objs.size->VR gv Θ n v cv->∀ [Og s' og],Q cv s'):wpAny (model pg w) A (call (.builtin "max") [ca,cb]) Q E s:=by
 refine G8 h ha λa t h=>G8 h hb λb u h=>A8x hh λh' tk k1 k2=>k _ _ k1 k2 (Z0a h▸?_)
 rw[A4v]
 by_cases z:b>a
 . exact⟨u,by rw[Z0p z,Z1h (Int.not_le.mpr z)];rfl⟩
 . exact⟨t,by rw[Z0m z,decide_eq_true (Int.not_lt.mp z)];rfl⟩
theorem C52{a b:V}{ca cb v:Value}{r:V}{Q:Value->Shared->Prop}(h:bI2 a b=some r)(ha:VR gv Θ n a ca)(hb:VR gv Θ n b cb)(k:∀cv tk,VR gv Θ n r cv->Q cv {s with toks:=tk}):wpAny (model pg w) A (call (.type "int") [ca,cb]) Q E s:=by
 refine M5 h ha λa t h=>G8 h hb λb u h=>?_;refine R4 h λj h=>?_;obtain⟨q1,h⟩:=B0 h;obtain⟨q2,h⟩:=B0 h;obtain⟨q3,h⟩:=B0 h;obtain⟨q4,h⟩:=B0 h;refine A1 (mi h) λn e1 e2=>?_;rw[C8,decide_eq_true_eq,D0] at q1;exact D2g ((Bool.or_eq_true_iff.mp q4).imp Z0e Z0e) q1 q2 q3 e1 (k _ _ (e2▸⟨_,rfl⟩))
theorem D0m[Og s og]{m:Nat}{f:Value}{a b:V}{ca cb:Value}{v:V}{Q:Value->Shared->Prop}(G:GT w T cc gv mg mb A0 K)(S:St gv an A0 Θ H fs s.heap)(hh:A.handled=none)
 (h:b2 T m a b H=some v) (hf:O9 m=some f) (ha:VR gv Θ H.n a ca) (hb:VR gv Θ H.n b cb)
 (k:∀cv s',(∀b o,s.heap.get? b=some o->s'.heap.get? b=some o)->s.heap.objs.size<=s'.heap.objs.size->VR gv Θ H.n v cv->∀ [Og s' og],Q cv s'):wpAny (model pg w) A (call f [ca,cb]) Q E s:=by
 have eq:∀{c g},m.beq c=true->O9 c=some g->g=f:=λq e=>Z0a (e.symm.trans (Z0e q▸hf))
 have kk:∀cv tk,VR gv Θ H.n v cv->Q cv {s with toks:=tk}:=λcv tk r=>k cv _ (λJ J e=>e) (Z0g _) r
 refine(bBo h).elim (λh=>eq h.1 rfl▸C9f hh h.2 ha hb k) λh=>(bBo h.2).elim (λh=>eq h.1 rfl▸D6s hh h.2 ha hb k) λh=>(bBo h.2).elim (λh=>eq h.1 rfl▸C13 G S h.2 ha hb kk) λh=>
  (bBo h.2).elim (λh=>eq h.1 rfl▸C52 (v:=ca) h.2 ha hb kk) λh=>nomatch h.2
theorem C24[Og s og]{m:Nat}{f:Value}{vs:List V}{cvs:List Value}{v:V}{Q:Value->Shared->Prop}(G:GT w T cc gv mg mb A0 K)(S:St gv an A0 Θ H fs s.heap)(hh:A.handled=none)
 (h:builtin T m vs H=some v) (hf:O9 m=some f) (hv:VRs gv Θ H.n vs cvs)
 (k:∀cv s',(∀b o,s.heap.get? b=some o->s'.heap.get? b=some o)->s.heap.objs.size<=s'.heap.objs.size->VR gv Θ H.n v cv->∀ [Og s' og],Q cv s'):wpAny (model pg w) A (call f cvs) Q E s:=by
 rcases vs with _ | ⟨a,_ | ⟨b,_ | ⟨_,_⟩⟩⟩ <;> first | (exact nn h;done) | skip
 . obtain⟨c,rfl,h1⟩:=hv.one
   exact C5w S h hf h1 λcv tk r=>k cv _ (λJ J e=>e) (Z0g _) r
 . refine F8 hv.two λc d q'4 h1 h2=>?_
   subst q'4
   exact D0m G S hh h hf h1 h2 k
end
end
section
open PySem.Builtin.Str
theorem C3y(c:Nat):upC c=up1 c:=by
 unfold upC up1;rw[Z7];simp only[Bool.and_eq_true,C8,decide_eq_true_eq];first | done | rfl
theorem C2m(c:Nat):A9p c=lo1 c:=by
 unfold A9p lo1;rw[Z7];simp only[Bool.and_eq_true,C8,decide_eq_true_eq]
theorem B1c{f:Nat->Nat}{s r:Tx}(h:A67 f s=some r):(∀c∈s,c<128)/\r=s.map f:=by
 induction s generalizing r with
 |nil=>exact⟨λc hc=>(nomatch hc),(Z0a h).symm⟩
 |cons c s ih=>
  refine A1 (bi h) λq e h=>(bBo h).elim (λh=>?_) λh=>nn h.2;rw[<-Z0a h.2,(ih e).2];exact⟨λd hd=>(List.mem_cons.mp hd).elim (λz=>z▸Z2y (Z0l h.1)) ((ih e).1 d),rfl⟩
theorem B9o{s r:Tx}(h:upT s=some r):(∀c∈s,c<128)/\r=s.map up1:=funext C3y▸B1c h
theorem D6u{s r:Tx}(h:A96 s=some r):(∀c∈s,c<128)/\r=s.map lo1:=funext C2m▸B1c h
theorem C02(b x:Bool):bB b x false=(b&&x):=by cases b <;> rfl
theorem C1j(s:Tx):U0 s=s.all (· < 128):=by
 induction s with
 |nil=>rfl
 |cons c s ih=>
  refine(C02 (Nat.ble c 127) (U0 s)).trans ?_;rw[ih,(C8 c 127).trans (decide_eq_decide.mpr Nat.lt_succ_iff.symm)];rfl
theorem C5c(s:Tx):A53 s=s.drop (s.takeWhile (λc=>c==48)).length:=by
 induction s with
 |nil=>rfl
 |cons c s ih=>
  by_cases z:c=48
  . subst z;exact ih
  . refine(T6 c 48 _ _).trans ((Z0m z).trans ?_);rw[List.takeWhile_cons,Z0m λq=>z (eq_of_beq q)];rfl
theorem B0m(l:Tx)(i j:Nat):(sOf l).cps.extract i j=((l.drop i).take (j - i)).toArray:=Z5k.mp (Array.toList_extract.trans List.extract_eq_take_drop)
theorem D47(s:Tx):Txt.lstripChars (sOf s) (sOf [48])=sOf (A53 s):=by
 have e0:(sOf [48]).cps.contains=(λc=>c==48):=by
  funext c;show(#[48]:Array Nat).contains c=_;rw[Bool.eq_iff_iff];simp
 unfold Txt.lstripChars Txt.stripBy;refine re e0 ?_;unfold stripSame PySem.stripped stripHi stripLo;rw[C5c];show(if ((s.takeWhile _).length==0&&_)=true then _ else _)=_
 by_cases z:(s.takeWhile (λc=>c==48)).length=0
 . rw[z];simp
 . rw[Z0m λq=>z (eq_of_beq (Z1j.mp q).1)];refine congrArg Str.mk ((B0m s _ _).trans (congrArg List.toArray ?_));exact Z2s (Z0z (List.length_drop ..))
theorem B53(a b:Tx):a.toArray ++ b.toArray=(a ++ b).toArray:=List.append_toArray a b
theorem D4y(ys:List Tx)(acc:Array Nat):(ys.map sOf).foldl (λacc p=>acc ++ (sOf []).cps ++ p.cps) acc=acc ++ ys.flatten.toArray:=by
 induction ys generalizing acc with
 |nil=>exact Array.append_empty.symm
 |cons y ys ih=>
  refine(ih _).trans ?_;show acc ++ #[] ++ y.toArray ++ ys.flatten.toArray=_;rw[Array.append_empty,Array.append_assoc,List.flatten_cons,<-B53 y]
theorem B02(ys:List Tx):Txt.join (sOf []) (ys.map sOf)=sOf ys.flatten:=by
 unfold Txt.join glued;cases ys with
 |nil=>rfl
 |cons y ys=>
  rw[List.map_cons,List.drop_succ_cons,List.drop_zero,List.headD_cons,D4y];exact congrArg Str.mk (B53 y ys.flatten)
theorem D5j{Θ:Th}{n:Nat}{xs:List V}{r:Tx}{vs:List Value}(h:A3l [] xs=some r)(x:VRs gv Θ n xs vs):∃ys:List Tx,StrsAre vs (ys.map sOf)/\r=ys.flatten:=by
 induction xs generalizing r vs with
 |nil=>
  cases vs with
  |nil=>exact⟨[], .nil,(Z0a h).symm⟩
  |cons _ _=>exact x.elim
 |cons v l ih=>
  cases vs with
  |nil=>exact x.elim
  |cons c cs=>
   refine M5 (show E5 v (λy=>(A3l [] l).map (ap y))=some r from h) x.1 λy t h=>?_;refine A1 (mi h) λz e h=>A1 (ih e x.2) λys a b=>?_;exact A6 (y :: ys) (.cons _ _ a) (by simp only[<-h,Q1,b];rfl)
theorem B7w(ys:List Tx):((ys.map sOf).map (·.length)).sum=ys.flatten.length:=by
 induction ys with
 |nil=>rfl
 |cons y ys ih=>rw[List.map_cons,List.map_cons,List.sum_cons,ih,List.flatten_cons,List.length_append,F4]
noncomputable def A2l(x y:Str)(hi i:Nat):Bool:=decide (i+y.length<=hi)&&subAt x y i
theorem C88(x y:Str)(hi:Nat)(l:List Nat)(st:Array Nat × Nat)(h:1<=st.fst.size):(Id.run (forIn l st (StrLaws.occBody x y hi 1))).fst=st.fst:=by
 induction l with
 |nil=>rfl
 |cons b l ih=>
  rw[List.forIn_cons];unfold StrLaws.occBody;exact re (Z0m λq=>absurd q.1.1.1 (Z1g.mpr h)) ih
theorem C6m(x y:Str)(hi:Nat)(l:List Nat)(free:Nat)(hf:∀i∈l,free<=i):(Id.run (forIn l ((#[]:Array Nat),free) (StrLaws.occBody x y hi 1))).fst.toList=(match l.find? (A2l x y hi) with | some i=> [i] | none=> []):=by
 induction l with
 |nil=>rfl
 |cons a l ih=>
  rw[List.forIn_cons,List.find?_cons];unfold StrLaws.occBody;cases q:A2l x y hi a with
  |true=>
   obtain⟨h1,h2⟩:=Z1j.mp q;rw[Z0p ⟨⟨⟨Nat.zero_lt_one,hf a (.head _)⟩,of_decide_eq_true h1⟩,h2⟩];exact congrArg Array.toList (C88 x y hi l (#[].push a,a+y.length) (Z0g 1))
  |false=>
   rw[Z0m λz=>ff (q.symm.trans (Z1j.mpr ⟨decide_eq_true z.1.2,z.2⟩))];exact ih λi hi'=>hf i (.tail _ hi')
theorem B6b(x y:Str)(lo hi:Nat):occurrences x y lo hi 1=(match (List.range' lo (hi+1 - lo)).find? (A2l x y hi) with | some i=> [i] | none=> []):=by
 rw[StrLaws.occ_eq];refine C6m x y hi _ lo λi hi'=>?_;rw[List.mem_range'_1] at hi';exact hi'.1
theorem C75(l q:Tx)(i:Nat):subAt (sOf l) (sOf q) i=decide (q <+:l.drop i):=by
 unfold subAt;rw[B0m,F4,Nat.add_sub_cancel_left];exact A0h (beq_iff_eq.trans ⟨λe=>List.prefix_iff_eq_take.mpr (congrArg Array.toList e).symm,λe=>congrArg List.toArray (List.prefix_iff_eq_take.mp e).symm⟩)
section
variable{K:Frag}
theorem D49(p:Nat->Bool)(n a j:Nat)(h1:a<=j)(h2:j<a+n)(h3:p j=true)(h4:∀i,a<=i->i<j->p i=false):(List.range' a n).find? p=some j:=by
 induction n generalizing a with
 |zero=>exact absurd h2 (Z1g.mpr h1)
 |succ n ih=>
  rw[List.range'_succ,List.find?_cons];by_cases z:a=j
  . rw[z,h3]
  . rw[h4 a (Z0g _) (Nat.lt_of_le_of_ne h1 z)];exact ih (a+1) (Nat.lt_of_le_of_ne h1 z) (Nat.add_right_comm ..▸h2) λi h5=>h4 i (Z0o h5)
theorem C5a(p:Nat->Bool)(n a:Nat)(h:∀i,a<=i->i<a+n->p i=false):(List.range' a n).find? p=none:=by
 rw[List.find?_eq_none];intro i hi;rw[List.mem_range'_1] at hi;rw[h i hi.1 hi.2];exact Z0u
theorem C0v{q a b:Tx}(h:q.length<=a.length):q <+:a ++ b ↔ q <+:a:=by
 constructor
 . intro⟨r,e⟩;exact List.prefix_of_prefix_length_le ⟨r,e⟩ (List.prefix_append a b) h
 . intro x;exact x.trans (List.prefix_append a b)
theorem A7u{q:Tx}(hq:1<=q.length)(P X:Tx)(i:Nat)(h:P.length<=i):A2l (sOf (P ++ X)) (sOf q) (sOf (P ++ X)).length i=decide (q <+:X.drop (i - P.length)):=by
 obtain⟨d,rfl⟩:=Nat.le.dest h;unfold A2l;rw[F4,F4,C75,List.drop_append,List.drop_eq_nil_of_le h,List.nil_append,Nat.add_sub_cancel_left,List.length_append];cases z:decide (q <+:X.drop d) with
 |false=>exact Bool.and_false _
 |true=>
  have y:=(of_decide_eq_true z).length_le;rw[List.length_drop] at y;refine(Bool.and_true _).trans (decide_eq_true ?_);rw[Nat.add_assoc,Nat.add_comm d];exact Nat.add_le_add_left (Nat.add_le_of_le_sub (Z0o (Nat.lt_of_sub_pos (Z0b hq y))) y) _
theorem C25(P X:Tx)(j:Nat):fromIndex (sOf (P ++ X)).length ((P.length+j:Nat):Int)=P.length+j:=by
 unfold fromIndex;rw[Z0m (Int.not_lt.mpr (Z2f _))];rfl
theorem D7v{q:Tx}(hq:1<=q.length)(P X:Tx)(j d:Nat)(a:q <+:X.drop (j+d))(b:∀k,k<d->¬q <+:X.drop (j+k)) :
 occurrences (sOf (P ++ X)) (sOf q) (P.length+j) (sOf (P ++ X)).length 1= [P.length+(j+d)]:=by
 haveI z:=a.length_le
 rw[List.length_drop] at z
 rw[B6b,D49 _ _ _ (P.length+(j+d)) (Nat.add_le_add_left (Nat.le_add_right ..) _) (Z0b (Z2y ?_) (Nat.sub_le_iff_le_add'.mp (Z0g _))) ?_ λi h1 h2=>?_]
 . rw[F4,List.length_append];exact Nat.add_le_add_left (Z0o (Nat.lt_of_sub_pos (Z0b hq z))) _
 . rw[A7u hq _ _ _ (Nat.le_add_right ..),Nat.add_sub_cancel_left];exact decide_eq_true a
 . obtain⟨c,rfl⟩:=Nat.le.dest h1
   rw[Nat.add_assoc] at h2 ⊢
   rw[A7u hq _ _ _ (Nat.le_add_right ..),Nat.add_sub_cancel_left]
   exact Z1h (b c (Nat.lt_of_add_lt_add_left (Nat.lt_of_add_lt_add_left h2)))
theorem B9e{q:Tx}(hq:1<=q.length)(P X:Tx)(j:Nat)(b:∀k,¬q <+:X.drop (j+k)):occurrences (sOf (P ++ X)) (sOf q) (P.length+j) (sOf (P ++ X)).length 1= []:=by
 rw[B6b,C5a _ _ _ λi h1 h2=>?_];obtain⟨c,rfl⟩:=Nat.le.dest h1;rw[Nat.add_assoc,A7u hq _ _ _ (Nat.le_add_right ..),Nat.add_sub_cancel_left];exact Z1h (b c)
theorem C2a{g:Nat}{st:Tx}{o:Bool}{q:Tx}{j:Nat}{v:V}{t u tv:Tok}{Q:Value->Shared->Prop}(h:B03 g st o q j=some v)(hg:g<n)
 (k:∀cv tk,VR gv Θ n v cv->Q cv {s with toks:=tk}) :
 wpAny (model pg w) A (call (.builtin "str.find") [.str (sOf ((Θ.gh g).pre ++ st ++ (if o then (Θ.gh g).suf else []))) t, .str (sOf q) u, .int (((Θ.gh g).pre.length+j:Nat):Int) tv]) Q E s:=by
 refine call_gives F.slot_str_find (typeIs_str _ _ _) F.entry_str_find (F.args_str_find_3 _ _ _) (gives_str_find_from _ _ _ _ _ _) ?_
 rw[List.append_assoc,C25]
 obtain⟨_,h⟩ | ⟨q0,h⟩:=bBo h
 . exact nn h
 . obtain⟨q1,h⟩ | ⟨_,h⟩:=bBo h
   . have hq:1<=q.length:=by cases q with | nil=>cases q0 | cons _ _=>exact Nat.le_add_left ..
     rw[A59] at h
     cases e:A0x q (st.drop j) j with
     |some j2=>
      rw[e] at h;obtain rfl:=Z0a h;refine R2 (C73 q _ _ _ e) λa1 a2 a3 a4=>?_;rw[List.length_drop] at a2;obtain⟨d,rfl⟩:=Nat.le.dest a1;rw[Nat.add_sub_cancel_left] at a2 a3 a4;rw[Z3z] at a3;haveI z:=a3.length_le;rw[List.length_drop] at z;have hj:j+d<=st.length:=Z0o (Nat.lt_of_sub_pos (Z0b hq z));rw[D7v hq _ _ j d (by rw[Z3k hj];exact a3.trans (List.prefix_append ..)) λi hi=>?_]
      . exact k _ _ ⟨hg,s.toks,rfl⟩
      . have hi2:=Nat.add_le_add_left (Z0o hi) j;rw[Z3k (Z0c hi2 hj),C0v (by rw[List.length_drop];exact Z0c z (Nat.sub_le_sub_left hi2 _)),<-Z3z];exact a4 i hi
     |none=>
      rw[e] at h;obtain⟨_,h⟩ | ⟨rfl,h⟩:=bBo h
      . exact nn h
      . obtain rfl:=Z0a h;rw[B9e hq _ _ j λi=>?_]
        . exact k _ _ ⟨s.toks,rfl⟩
        . rw[Z0m Z0u,List.append_nil,<-Z3z];exact D35 q (List.ne_nil_of_length_pos hq) _ _ e i
   . exact nn h
end
end
section
open PySem.Builtin.Str
def bId(o:V)(n:Nat):Option String:=match o with
 | .ref _=>bB (Nat.beq n 0) (some "list.append") none
 | .glob _=>bB (Nat.beq n 8) (some "dict.get") none
 | .str _=>bB (Nat.beq n 2) (some "str.join") (bB (Nat.beq n 3) (some "str.upper") (bB (Nat.beq n 4) (some "str.lower") (bB (Nat.beq n 5) (some "str.isascii") (bB (Nat.beq n 6) (some "str.lstrip") none))))
 | .txt _ _ _=>bB (Nat.beq n 1) (some "str.find") none
 | .anyS=>bB (Nat.beq n 7) (some "str.rstrip") none
 |_=>none
theorem K0{α:Type}{b:Bool}{x r:α}(h:bB b (some x) none=some r):b=true/\x=r:=by cases b <;> first | (cases h;done) | (replace h:=Z0a h;subst h;exact⟨rfl,rfl⟩)
theorem D1o{c:Nat}{st:Tx}{xs:List V}{r:Tx}(h:A3l (c :: st) xs=some r):xs= [.str r]/\small (c :: st)=true:=by
 refine M6 (show Mine.on1 xs _=some r from h) λv h=>O3 h λy h=>?_;obtain⟨z,h⟩:=B0 h;exact⟨by rw[Z0a h],z⟩
section
variable{K:Frag}
theorem GT.aname(G:GT w T cc gv mg mb A0 K){x y:Str}{m:Nat}(h:B9 x cc.attrs 0=some m)(e:A4e[m]?=some y):x=y:=by
 obtain⟨r,er⟩:=G.attrsF;haveI:=(V2 h).2;rw[Nat.sub_zero,er,Z1l (Z1m.mp e).1,e] at this;exact(Z0a this).symm
theorem B8f{α β:Type}{o:Option α}{f:α->Option β}{x:β}(h:oB o none f=some x):∃a,o=some a/\f a=some x:=by
 cases o with
 |none=>exact nn h
 |some a=>exact A6 a rfl h
theorem C7s{α β:Type}{o:Option α}{q:Option β}{x:β}(h:oB o q (λJ=>none)=some x):o=none/\q=some x:=by
 cases o with
 |none=>exact⟨rfl,h⟩
 |some a=>exact nn h
theorem C12{n c:Nat}{fx:List (Nat × V)}{x:Cal}(h:A9c T n c fx=some x):∃cl f,x= .fn f/\lkG n fx=none/\BtG T.cls (c+1)=some cl/\lkG n cl.ms=some f:=by
 refine A8 (C7s h) λe1 h=>?_;refine A1 (B8f h) λcl e2 h=>?_;refine A1 (B8f h) λf e3 h=>?_;exact A2x cl f ((Z0a h).symm) e1 e2 e3
def A4f(w:World)(A:Around)(E:Value->Shared->Prop)(s:Shared)(o:V)(m:Nat)(co:Value)(name:Str):Prop:=
 ∃id,bId o m=some id/\∀pl (Q:Value × List Value->Shared->Prop),Q (.builtin id,[co]) s->wpAny (model pg w) A (getMethod co name pl) Q E s
theorem B4z{m:Nat}{name:Str}{a:Nat}{vs:Array Value}{ep:Nat}(G:GT w T cc gv mg mb A0 K)(hn:B9 name cc.attrs 0=some m)(z:m.beq 0=true)(l1:IsL s.heap (Θ.a a) vs ep):A4f w A E s (.ref a) m (.ref (Θ.a a)) name:=by
 obtain rfl:=Z0e z;refine re (G.aname hn (y:=Str.ofString "append") rfl) ?_;exact⟨_,rfl,λpl Q q=>Z5g ⟨_,l1,rfl⟩ F.plainAttrs_list F.slot_list_append F.type_list_append (λb e=>by cases e;exact A6 _ l1 rfl) q⟩
theorem C66{m g a:Nat}{es:List (V × V)}{name:Str}(G:GT w T cc gv mg mb A0 K)(S:St gv an A0 Θ H fs s.heap)(hn:B9 name cc.attrs 0=some m)(z:m.beq 8=true)(t:A8l gv w A0 a (.dict es)):A4f w A E s (.glob g) m (.ref a) name:=by
 obtain rfl:=Z0e z;refine re (G.aname hn (y:=Str.ofString "get") rfl) ?_;obtain⟨ns,f,mf,hf⟩:=t;haveI m':=A5y mf S.stays;exact A6 _ rfl (λpl Q q=>Z5g m'.typeIs F.plainAttrs_dict Z5l F.type_dict_get m'.noDict q)
theorem D2r:∀m:Nat,m<=6->2<=m->m=2\/m=3\/m=4\/m=5\/m=6:=by decide
theorem D3v{m:Nat}{st:Tx}{t:Tok}{name:Str}(G:GT w T cc gv mg mb A0 K)(hn:B9 name cc.attrs 0=some m)(z1:Nat.ble 2 m=true)(z2:m.ble 6=true):A4f w A E s (.str st) m (.str (sOf st) t) name:=by
 rw[C8,decide_eq_true_eq] at z1 z2;have:=D2r m z2 z1;clear z1 z2;rcases this with rfl | rfl | rfl | rfl | rfl
 . rw[G.aname hn (y:=Str.ofString "join") rfl];exact A6 _ rfl (λpl Q q=>GM.join q)
 . rw[G.aname hn (y:=Str.ofString "upper") rfl];exact A6 _ rfl (λpl Q q=>GM.upper q)
 . rw[G.aname hn (y:=Str.ofString "lower") rfl];exact A6 _ rfl (λpl Q q=>GM.lower q)
 . rw[G.aname hn (y:=Str.ofString "isascii") rfl];exact A6 _ rfl (λpl Q q=>GM.isascii q)
 . rw[G.aname hn (y:=Str.ofString "lstrip") rfl];exact A6 _ rfl (λpl Q q=>GM.lstrip q)
theorem D3m{m:Nat}{name:Str}{o:V}{co:Value}(G:GT w T cc gv mg mb A0 K)(S:St gv an A0 Θ H fs s.heap)(hn:B9 name cc.attrs 0=some m)(h:A8k T m o H=some .b)(ho:VR gv Θ H.n o co) :
 A4f w A E s o m co name:=by
 refine(or2 h).elim (λh=>?_) λh=>(or2 h).elim (λh=>?_) λh=>(or2 h).elim (λh=>?_) λh=>(or2 h).elim (λh=>?_) λh=>(or2 h).elim (λh=>?_) λh=>?_
 . refine U6 h ho λa hi h=>?_
   obtain⟨z,h⟩:=B0 h
   refine A1 (bi h) λo e h=>?_
   haveI r:=S.is hi e
   revert r
   exact(or2 h).elim (λh=>Q6 h λxs h r=>r.elim λJ r=>r.elim λJ r=>B4z G hn z r.1) λh=>A4w h λxs h r=>by obtain⟨_,_,_,l,_⟩:=r;exact B4z G hn z l
 . revert ho
   refine W2 h λg h ho=>?_
   obtain⟨z,h⟩:=B0 h
   obtain⟨o,e,h⟩:=bi h
   refine A1 (G.tps _ _ e) λa ga t=>?_
   obtain rfl:co= .ref a:=Z0a (ho.symm.trans ga)
   revert t
   exact A04 h λes h t=>C66 G S hn z t
 . exact M5 h ho λx t h=>D3v G hn (B0 h).1 (B0 (B0 h).2).1
 . refine A80 h ho λg x op t hg h=>?_
   obtain rfl:=Z0e (B0 h).1
   rw[G.aname hn (y:=Str.ofString "find") rfl];exact A6 _ rfl (λpl Q q=>GM.find q)
 . revert ho
   refine A6i h λh ho=>?_
   refine B4 ho λx t q'1 J=>?_
   clear ho
   subst q'1
   obtain rfl:=Z0e (B0 h).1
   rw[G.aname hn (y:=Str.ofString "rstrip") rfl];exact A6 _ rfl (λpl Q q=>GM.rstrip q)
 . exact A4u h λb h=>nomatch (B0 (B0 h).2).2
theorem B1b{x:Str}(h:x.length<=20000):tooLong x.length=false:=by
 unfold tooLong;rw[Z1h];rw[sizeLine_eq];lia
theorem C28{st:Tx}{t:Tok}{v:V}{Q:Value->Shared->Prop}(h:(upT st).map V.str=some v)(hs:st.length<=4000)
 (k:∀cv tk,VR gv Θ n v cv->Q cv {s with toks:=tk}):wpAny (model pg w) A (call (.builtin "str.upper") [.str (sOf st) t]) Q E s:=by
 refine A1 (mi h) λr e e2=>A8 (B9o e) λa b=>?_
 refine SC.upper (B1b (Z0c (len_upper _) (by simp only[F4];lia))) ?_
 refine re (upper_ascii (x:=sOf st) a) ?_
 exact k _ _ (e2▸⟨s.toks,by rw[b];unfold sOf;simp⟩)
theorem C3a{st:Tx}{t:Tok}{v:V}{Q:Value->Shared->Prop}(h:(A96 st).map V.str=some v)(hs:st.length<=4000)
 (k:∀cv tk,VR gv Θ n v cv->Q cv {s with toks:=tk}):wpAny (model pg w) A (call (.builtin "str.lower") [.str (sOf st) t]) Q E s:=by
 refine A1 (mi h) λr e e2=>A8 (D6u e) λa b=>?_
 refine SC.lower (B1b (Z0c (len_lower _) (by simp only[F4];lia))) ?_
 refine re (lower_ascii (x:=sOf st) a) ?_
 exact k _ _ (e2▸⟨s.toks,by rw[b];unfold sOf;simp⟩)
theorem C6z{st:Tx}{t:Tok}{v:V}{Q:Value->Shared->Prop}(h:V.bool (U0 st)=v)
 (k:∀cv tk,VR gv Θ n v cv->Q cv {s with toks:=tk}):wpAny (model pg w) A (call (.builtin "str.isascii") [.str (sOf st) t]) Q E s:=by
 refine SC.isascii (k _ s.toks (h▸?_))
 show _=_
 rw[C1j]
 unfold Txt.isascii sOf
 simp
theorem D5p{st:Tx}{t:Tok}{a v:V}{ca:Value}{Q:Value->Shared->Prop}(S:St gv an A0 Θ H fs s.heap)(h:B6u st a H=some v)(hs:st.length<=4000)(ha:VR gv Θ H.n a ca)
 (k:∀cv tk,VR gv Θ H.n v cv->Q cv {s with toks:=tk}):wpAny (model pg w) A (call (.builtin "str.join") [.str (sOf st) t,ca]) Q E s:=by
 refine U6 h ha λi hi h=>?_
 refine A1 (bi h) λo e h=>?_
 haveI r:=S.is hi e
 revert r
 refine Q6 h λxs h r=>?_
 refine B4 r λvs ep l1 v1=>?_
 clear r
 refine A1 (bi h) λr e2 h=>?_
 obtain⟨z,e⟩:=K0 h
 have hr:=A0c z
 cases st with
 |nil=>
  refine A1 (D5j e2 v1) λys b1 b2=>?_;refine join_list ⟨_,l1,rfl,_,rfl⟩ b1 ?_ (λt' kk=>?_)
  . rw[B7w,<-b2];refine Z0c (by assumption) ?_;decide
  . rw[B02,<-b2];exact k _ _ (e▸⟨t',rfl⟩)
 |cons c0 st=>
  obtain rfl:=(D1o e2).1;obtain⟨cv,ecv,u,rfl⟩:=v1.one;refine join_list (ys:= [sOf r]) ⟨_,l1,rfl,_,rfl⟩ (by rw[ecv];exact .cons _ _ .nil) ?_ (λt' kk=>k _ _ (e▸⟨t',rfl⟩));haveI:st.length+1<=4000:=hs;simp only[List.map_cons,List.map_nil,List.sum_cons,List.sum_nil,List.length_cons,List.length_nil,F4];lia
theorem C4v{st:Tx}{t:Tok}{a v:V}{ca:Value}{Q:Value->Shared->Prop}(h:B1a st a=some v)(hs:st.length<=4000)(ha:VR gv Θ n a ca)
 (k:∀cv tk,VR gv Θ n v cv->Q cv {s with toks:=tk}):wpAny (model pg w) A (call (.builtin "str.lstrip") [.str (sOf st) t,ca]) Q E s:=by
 refine M5 h ha λx u h=>?_
 obtain⟨z,e⟩:=K0 h
 obtain rfl:=of_decide_eq_true ((J1 _ _).symm.trans z)
 refine SC.lstripChars (λt' kk=>?_) (by simp only[F4,sizeLine_eq];refine Z0c (by assumption) ?_;decide)
 rw[D47]
 exact k _ _ (e▸⟨t',rfl⟩)
theorem D21{m:Nat}{st:Tx}{t:Tok}{id:String}{vs:List V}{cvs:List Value}{v:V}{Q:Value->Shared->Prop}(S:St gv an A0 Θ H fs s.heap)(h:B3s st m vs H=some v)(hid:bId (.str st) m=some id)(hl:small st=true)(hv:VRs gv Θ H.n vs cvs)
 (k:∀cv tk,VR gv Θ H.n v cv->Q cv {s with toks:=tk}):wpAny (model pg w) A (call (.builtin id) (.str (sOf st) t :: cvs)) Q E s:=by
 haveI hs:=A0c hl
 have eq:∀{c g},m.beq c=true->bId (.str st) c=some g->g=id:=λq e=>Z0a (e.symm.trans (Z0e q▸hid))
 revert hv
 refine(or2 h).elim (λh=>B3b h λh hv=>hv.zero▸?_) λh=>M6 h λa h hv=>A1 hv.one λc e ha=>e▸?_
 . exact(bBo h).elim (λh=>eq h.1 rfl▸C28 h.2 hs k) λh=>(bBo h.2).elim (λh=>eq h.1 rfl▸C3a h.2 hs k) λh=>eq (K0 h.2).1 rfl▸C6z (K0 h.2).2 k
 . exact(bBo h).elim (λh=>eq h.1 rfl▸D5p S h.2 hs ha k) λh=>eq (B0 h.2).1 rfl▸C4v (B0 h.2).2 hs ha k
def PV(og:OGt)(gv:Nat->Option Value)(an:An)(A0:Heap)(Θ:Th)(H:Hp)(fs:List Env)(h:Heap)(k:MineE.K)(Q:Value->Shared->Prop):Prop:=
 ∀v H',k v H'=true->∀Θ' cv s',Ext (frs fs) noX Θ H.n h Θ' H'.n s'.heap->St gv an A0 Θ' H' fs s'.heap->VR gv Θ' H'.n v cv->∀ [Og s' og],Q cv s'
theorem PV.same{v:V}{k:MineE.K}{Q:Value->Shared->Prop}{s':Shared}[Og s og][Og s' og](p:PV og gv an A0 Θ H fs s.heap k Q)(S:St gv an A0 Θ H fs s.heap)(hk:k v H=true){cv:Value}(kp:∀b o,s.heap.get? b=some o->s'.heap.get? b=some o)(hz:s.heap.objs.size<=s'.heap.objs.size)
 (x:VR gv Θ H.n v cv):Q cv s':=p v H hk Θ cv s' (Ext.keeps kp hz) (S.keeps kp hz) x
theorem B1h[Og s og]{a:Nat}{vs:Array Value}{ep:Nat}{cv:Value}{o':O}{k:MineE.K}{Q:Value->Shared->Prop}(S:St gv an A0 Θ H fs s.heap)(p:PV og gv an A0 Θ H fs s.heap k Q)(hi:a<H.n)(l1:IsL s.heap (Θ.a a) vs ep)(hsz:vs.size<=sizeLine)
 (hk:k .none (H.put a o')=true) (ho:∀h' ep',IsL h' (Θ.a a) (vs.push cv) ep'->OR gv an Θ H.n h' a o'):wpAny (model pg w) A (call (.builtin "list.append") [.ref (Θ.a a),cv]) Q E s:=by
 refine call_meets F.slot_list_append ⟨_,l1,rfl⟩ F.entry_list_append (F.args_list_append_2 _ _) (list_append (Θ.a a) vs ep cv hsz) ⟨l1,?_⟩
 haveI lu:=l1.update (λx=>x.push cv)
 obtain⟨S',X'⟩:=S.put (h':=s.heap.update (Θ.a a) (Obj.mapSeq λx=>x.push cv)) hi (λb x e q1 J=>(Z1s _ _ (Ne.symm q1)).trans e) (by rw[Heap.size_after_update];exact Z0g _) (ho _ _ lu)
 exact p _ _ hk Θ .none _ X' S' rfl
theorem G1{b:Bool}(h:some b=some true):b=true:=Z0a h
theorem B9w[Og s og]{g:Nat}{st:Tx}{op:Bool}{t:Tok}{vs:List V}{cvs:List Value}{k:MineE.K}{Q:Value->Shared->Prop}(S:St gv an A0 Θ H fs s.heap)(h:B65 g st op vs H k=true)(hg:g<H.n)
 (hv:VRs gv Θ H.n vs cvs) (p:PV og gv an A0 Θ H fs s.heap k Q):wpAny (model pg w) A (call (.builtin "str.find") (.str (sOf ((Θ.gh g).pre ++ st ++ if op then (Θ.gh g).suf else [])) t :: cvs)) Q E s:=by
 revert hv
 refine Q5 (I9 h) λa b h hv=>?_
 refine F8 hv.two λc1 c2 q'3 h1 h2=>?_
 subst q'3
 refine M5 h h1 λq u h=>B4n h h2 λg' j tv hg' h=>?_
 obtain⟨z,h3⟩:=B0 h
 obtain rfl:=Z0e z
 refine A1 (T2 (G1 h3)) λv e hk=>?_
 exact C2a e hg λcv tk x=>p.same S hk (λJ J e=>e) (Z0g _) x
theorem B20[Og s og]{m a:Nat}{es:List (V × V)}{f:Str->Option Value}{vs:List V}{cvs:List Value}{k:MineE.K}{Q:Value->Shared->Prop}(S:St gv an A0 Θ H fs s.heap)(h:A4k es m vs H k=true)(ns:(a==sysModules)=false)(mf:s.heap.MapOf (strKind pg w) a f)
 (hf:∀st:Tx,(∀v,dget st es=some (some v)->∃cv,f (sOf st)=some cv/\∀Θ n,VR gv Θ n v cv)/\(dget st es=some none->f (sOf st)=none))
 (hv:VRs gv Θ H.n vs cvs) (p:PV og gv an A0 Θ H fs s.heap k Q):wpAny (model pg w) A (call (.builtin "dict.get") (.ref a :: cvs)) Q E s:=by
 revert hv
 refine Q5 (I9 (A5 h).2) λx d h hv=>?_
 refine F8 hv.two λc1 c2 q'4 h1 hd=>?_
 subst q'4
 refine M5 h h1 λst u h=>?_
 refine A1 (bi h) λr q h=>?_
 refine call_meetsIn Z5l mf.typeIs F.entry_dict_get (F.args_dict_get_3 _ _ _) (meets_dict_get_default (strKind pg w) a (Z4a pg w (sOf st) u) ns c2) ⟨f,mf,?_⟩
 cases r with
 |some x=>
  refine A1 ((hf st).1 _ q) λcv e1 e2=>?_;refine re e1 ?_;exact p.same S (G1 h) (λJ J e=>e) (Z0g _) (e2 Θ H.n)
 |none=>
  refine re ((hf st).2 q) ?_;exact p.same S (G1 h) (λJ J e=>e) (Z0g _) hd
theorem C8p[Og s og]{m a:Nat}{es:List (V × V)}{vs:List V}{cvs:List Value}{k:MineE.K}{Q:Value->Shared->Prop}(S:St gv an A0 Θ H fs s.heap)(h:A4k es m vs H k=true)(t:A8l gv w A0 a (.dict es))
 (hv:VRs gv Θ H.n vs cvs) (p:PV og gv an A0 Θ H fs s.heap k Q):wpAny (model pg w) A (call (.builtin "dict.get") (.ref a :: cvs)) Q E s:=
 t.elim λns t=>t.elim λJ t=>B20 S h ns (A5y t.1 S.stays) t.2 hv p
theorem C5r[Og s og]{a:Nat}{vs:List V}{cvs:List Value}{k:MineE.K}{Q:Value->Shared->Prop}(S:St gv an A0 Θ H fs s.heap)(h:B5q a (H.get a) vs H k=true)(hi:a<H.n)
 (hv:VRs gv Θ H.n vs cvs) (p:PV og gv an A0 Θ H fs s.heap k Q):wpAny (model pg w) A (call (.builtin "list.append") (.ref (Θ.a a) :: cvs)) Q E s:=by
 revert hv
 refine M6 (I9 h) λv h hv=>?_
 refine A1 hv.one λcv q'5 hv1=>?_
 subst q'5
 refine A1 (bi h) λo e h=>?_
 haveI r:=S.is hi e
 revert r
 refine(or2 h).elim (λh=>Q6 h λxs h r=>?_) λh=>A4w h λxs h r=>?_
 . obtain⟨ws,ep,l1,v1⟩:=r
   obtain⟨z,hk⟩:=B0 h
   rw[C8,decide_eq_true_eq,D0,v1.len,Array.length_toList] at z
   refine B1h S p hi l1 (by rw[sizeLine_eq];refine Z0c (by assumption) ?_;decide) (G1 hk) λh' ep' l'=>⟨_,_,l',?_⟩
   rw[B08,Array.toList_push]
   exact v1.app ⟨hv1,trivial⟩
 . obtain⟨ws,ep,us,l1,v1,v2,v3⟩:=r
   obtain⟨z,hk⟩:=B0 h
   rw[C8,decide_eq_true_eq,D0,v2.len] at z
   haveI sz:ws.size=(Θ.gh a).front.length+us.length:=by simp only[<-Array.length_toList,v1,List.length_append]
   refine B1h S p hi l1 (by rw[sizeLine_eq];lia) (G1 hk) λh' ep' l'=>⟨_,_,us ++ [cv],l',?_,?_,v3⟩
   . rw[Array.toList_push,v1,List.append_assoc]
   . rw[B08];exact v2.app ⟨hv1,trivial⟩
theorem C7z[Og s og]{m:Nat}{o:V}{co:Value}{id:String}{vs:List V}{cvs:List Value}{k:MineE.K}{Q:Value->Shared->Prop}(G:GT w T cc gv mg mb A0 K)(S:St gv an A0 Θ H fs s.heap)(h:doB T m o vs H k=true)(hid:bId o m=some id)
 (ho:VR gv Θ H.n o co) (hv:VRs gv Θ H.n vs cvs) (p:PV og gv an A0 Θ H fs s.heap k Q):wpAny (model pg w) A (call (.builtin id) (co :: cvs)) Q E s:=by
 revert hid ho
 refine(or2 (I9 h)).elim (λh=>?_) λh=>(or2 h).elim (λh=>?_) λh=>(or2 h).elim (λh=>?_) λh=>(or2 h).elim (λh=>?_) λh=>?_
 . refine R3 h λi h hid ho=>?_
   obtain⟨hi,rfl⟩:=ho
   obtain rfl:=(K0 hid).2
   exact C5r S (G1 h) hi hv p
 . refine W2 h λg h hid ho=>?_
   obtain rfl:=(K0 hid).2
   refine A1 (bi h) λo e h=>?_
   refine A1 (G.tps _ _ e) λa ga t=>?_
   obtain rfl:co= .ref a:=Z0a (ho.symm.trans ga)
   revert t
   exact A04 h λes h t=>C8p S (G1 h) t hv p
 . refine O3 h λst h hid ho=>?_
   obtain⟨t,rfl⟩:=ho
   obtain⟨z,h⟩:=B0 h
   refine A1 (T2 (G1 h)) λv e hk=>?_
   exact D21 S e hid z hv λcv tk x=>p.same S hk (λJ J e=>e) (Z0g _) x
 . refine A1f h λg st op h hid ho=>?_
   obtain⟨hg,t,rfl⟩:=ho
   obtain rfl:=(K0 hid).2
   exact B9w S (G1 h) hg hv p
 . refine A6i h λh hid ho=>?_
   refine B4 ho λx t q'9 hx=>?_
   subst q'9
   obtain rfl:=(K0 hid).2
   revert hv
   refine B3b h λh hv=>hv.zero▸?_
   refine SC.rstrip (λt' kk=>?_) (by rw[sizeLine_eq];unfold D4 at hx;refine Z0c (by assumption) ?_;decide)
   exact p.same S (G1 h) (λJ J e=>e) (Z0g _) ⟨_,t',rfl,Z0c (len_rstrip x) hx⟩
end
end
theorem A55(xs:List Str)(vs:List Value)(x:Str)(nd:xs.Nodup)(hl:vs.length=xs.length)(i:Nat)(h:xs[i]?=some x):(xs.zip vs).lookup x=vs[i]?:=by
 induction xs generalizing vs i with
 |nil=>exact nn (List.getElem?_nil.symm.trans h)
 |cons y xs ih=>cases vs with
  |nil=>exact nomatch hl
  |cons v vs=>
   refine(List.lookup_cons ..).trans ?_;cases i with
   |zero=>rw[<-Z0a (h:some y=some x),beq_self_eq_true];rfl
   |succ i=>
    rw[(beq_eq_false_iff_ne (a:=x) (b:=y)).mpr λe=>(Z2u.mp nd).1 (e▸Z1p (h:xs[i]?=some x))];exact ih vs (Z2u.mp nd).2 (Nat.succ.inj hl) i h
theorem C3v(xs:List Str)(vs:List Value)(x:Str)(h:x∉xs.take vs.length):(xs.zip vs).lookup x=none:=by
 induction xs generalizing vs with
 |nil=>rfl
 |cons y xs ih=>cases vs with
  |nil=>rfl
  |cons v vs=>
   refine(List.lookup_cons ..).trans ?_;rw[(beq_eq_false_iff_ne (a:=x) (b:=y)).mpr λe=>h (e▸ .head _)];exact ih vs λq=>h (.tail _ q)
noncomputable def A05(s:List (Str × Value))(p:Str × Value):List (Str × Value):=if (s.lookup p.1).isNone then s ++ [p] else s
noncomputable def A1y(slots r:List (Str × Value)):List (Str × Value):=r.foldl A05 slots
theorem A5f{a b:List (Str × Value)}{x:Str}:(a ++ b).lookup x=(a.lookup x).or (b.lookup x):=by
 induction a with
 |nil=>rfl
 |cons p a ih=>
  refine(List.lookup_cons (k:=p.1) ..).trans (Eq.trans ?_ (congrArg (Option.or · _) (List.lookup_cons (k:=p.1) ..).symm));cases x==p.1 with
  |true=>rfl
  |false=>exact ih
theorem C6v{s:List (Str × Value)}{p:Str × Value}{x:Str}:(A05 s p).lookup x=(s.lookup x).or (List.lookup x [p]):=by
 unfold A05;by_cases e:(s.lookup p.1).isNone=true
 . rw[Z0p e];exact A5f
 . rw[Z0m e];cases hs:s.lookup x with
   |some v=>rfl
   |none=>
    refine((List.lookup_cons (k:=p.1) ..).trans ?_).symm;rw[beq_eq_false_iff_ne.mpr λq=>e (by rw[<-q,hs];rfl)];rfl
theorem D5d(r slots:List (Str × Value))(x:Str):(A1y slots r).lookup x=(slots.lookup x).or (r.lookup x):=by
 induction r generalizing slots with
 |nil=>exact Option.or_none.symm
 |cons p r ih=>
  refine(ih (A05 slots p)).trans ?_;rw[C6v,Option.or_assoc,<-A5f];rfl
theorem D0l(r slots:List (Str × Value)):(forIn r slots (λ(p:Str × Value) (sl:List (Str × Value))=>(if (sl.lookup p.1).isNone=true then pure (ForInStep.yield (sl ++ [(p.1,p.2)])) else pure (ForInStep.yield sl):Sem (ForInStep (List (Str × Value))))))=pure (A1y slots r):=by
 induction r generalizing slots with
 |nil=>rfl
 |cons p r ih=>
  refine(List.forIn_cons ..).trans (Eq.trans ?_ (ih (A05 slots p)));unfold A05;by_cases e:(slots.lookup p.1).isNone=true
  . rw[Z0p e,Z0p e];rfl
  . rw[Z0m e,Z0m e];rfl
theorem C7c(xs:List Str)(vs:List Value)(f:Str->Option Value)(hl:vs.length=xs.length)(h:∀(i:Nat) x,xs[i]?=some x->f x=vs[i]?):xs.filterMap (λn=>(f n).map (n,·))=xs.zip vs:=by
 induction xs generalizing vs with
 |nil=>rfl
 |cons x xs ih=>cases vs with
  |nil=>exact nomatch hl
  |cons v vs=>
   rw[List.filterMap_cons,show f x=some v from h 0 x rfl,ih vs (Nat.succ.inj hl) λi y e=>h (i+1) y e];rfl
section
variable{xs:List Str}{cvs dvs:List Value}
theorem B5y(nd:xs.Nodup)(hg:cvs.length<=xs.length){i:Nat}{x:Str}(e:xs[i]?=some x)(hi:i<cvs.length):(xs.zip cvs).lookup x=cvs[i]?:=by
 rw[List.zip_eq_zip_take_min,Nat.min_eq_right hg,Z3p];refine A55 _ _ _ (nd.sublist (Z2r _ _)) (by rw[List.length_take];exact(Nat.min_eq_left hg).symm) i ?_;rw[Z3x,Z0p hi];exact e
theorem C9r(nd:xs.Nodup)(hg:cvs.length<=xs.length)(hd:xs.length<=cvs.length+dvs.length)(hdl:dvs.length<=xs.length):List.filter (λn=>(List.lookup n (xs.zip cvs)).isNone) (List.take (xs.length - dvs.length) xs)= []:=by
 rw[List.filter_eq_nil_iff];intro x hx;obtain⟨i,hi⟩:=Z4q hx;rw[Z3x] at hi;by_cases z:i<xs.length - dvs.length
 . rw[Z0p z] at hi;have l:i<cvs.length:=Z0b z (Nat.sub_le_iff_le_add.mpr hd);rw[B5y nd hg hi l,Z0w l];exact Z0u
 . rw[Z0m z] at hi;exact nn hi
theorem D3o{i:Nat}{x:Str}(nd:xs.Nodup)(hg:cvs.length<=xs.length)(e:xs[i]?=some x)(hi:i<xs.length)(q:¬i<cvs.length):(xs.zip cvs).lookup x=none:=by
 refine C3v _ _ _ λhm=>?_;obtain⟨j,e3⟩:=Z4q hm;rw[Z3x] at e3;by_cases z:j<cvs.length
 . rw[Z0p z] at e3;exact q ((List.getElem?_inj hi nd).mp (e.trans e3.symm)▸z)
 . rw[Z0m z] at e3;exact nn e3
theorem C6f{a b c i:Nat}(h1:a<=c)(h2:c<=a+b)(h3:b<=c)(q:a<=i):c - b+(i - (c - b))=i/\b - (c - a)+(i - a)=i - (c - b):=by
 obtain⟨k,rfl⟩:=Nat.exists_eq_add_of_le h1;obtain⟨i,rfl⟩:=Nat.exists_eq_add_of_le q;obtain⟨d,rfl⟩:=Nat.exists_eq_add_of_le (Nat.le_of_add_le_add_left h2);obtain⟨e,rfl⟩:∃e,a=d+e:=Nat.exists_eq_add_of_le (Nat.le_of_add_le_add_left (Nat.add_comm a k▸h3:k+d<=k+a));rw[Nat.add_sub_cancel_left,Nat.add_sub_cancel_left,Nat.add_sub_cancel_left,show d+e+k - (k+d)=e by rw[Nat.add_comm d e,Nat.add_assoc,Nat.add_comm k d,Nat.add_sub_cancel]];rw[Nat.add_right_comm,Nat.add_sub_cancel];exact⟨Nat.add_comm _ _,rfl⟩
theorem D7i(nd:xs.Nodup)(hg:cvs.length<=xs.length)(hd:xs.length<=cvs.length+dvs.length)(hdl:dvs.length<=xs.length) :
 List.filterMap (λn=>Option.map (λx=>(n,x)) (List.lookup n (A1y (xs.zip cvs) ((List.drop (xs.length - dvs.length) xs).zip dvs)))) xs=xs.zip (cvs ++ dvs.drop (dvs.length - (xs.length - cvs.length))):=by
 have nd2:(List.drop (xs.length - dvs.length) xs).Nodup:=nd.sublist (List.drop_sublist _ _)
 have l2:dvs.length=(List.drop (xs.length - dvs.length) xs).length:=by rw[List.length_drop,Nat.sub_sub_self hdl]
 refine C7c xs _ (λn=>(A1y (xs.zip cvs) ((List.drop (xs.length - dvs.length) xs).zip dvs)).lookup n) (by rw[List.length_append,List.length_drop,Nat.sub_sub_self (Nat.sub_le_iff_le_add'.mpr hd),Nat.add_sub_cancel' hg]) λi x e=>?_
 have hi:i<xs.length:=(Z1m.mp e).1
 rw[D5d]
 by_cases q:i<cvs.length
 . rw[B5y nd hg e q,Z1l q,Z0w q];rfl
 . obtain⟨b1,b2⟩:=C6f hg hd hdl (Z1g.mp q)
   rw[D3o nd hg e hi q,Option.none_or,Z1o (Z1g.mp q),Z5a,b2]
   exact A55 _ _ x nd2 l2 (i - (xs.length - dvs.length)) (by rw[Z5a,b1];exact e)
end
theorem A62{s:Shared}{fd:FuncData}{xs:List Str}{cvs dvs:List Value}(h1:fd.params.posonlyargs= [])(h2:fd.params.kwonlyargs= [])(h3:fd.params.vararg=none)(h4:fd.params.kwarg=none)(hx:fd.params.args.map (·.arg)=xs)
 (nd:xs.Nodup) (hg:cvs.length<=xs.length) (hd:xs.length<=cvs.length+dvs.length) (hdl:dvs.length<=xs.length)
 (hD:(dvs= []/\fd.defaults= .none)\/(dvs≠ []/\∃t,fd.defaults= .ref t/\s.heap.get? t=some {cls:= .type "tuple",data:= .seq dvs.toArray})) :
 BindsTo s fd ⟨cvs,[]⟩ (xs.zip (cvs ++ dvs.drop (dvs.length - (xs.length - cvs.length)))):=by
 intro M A E Q q
 have sq:∀{α:Type} {k:Option (Array Value)->Sem α} {Q':α->Shared->Prop},(∀r:Option (Array Value),(r.getD #[]).toList=dvs->wpAny M A (k r) Q' E s)->wpAny M A (seqItems? fd.defaults >>= k) Q' E s:=by
  intro α k Q' hk;refine hD.elim (λz=>?_) λz=>?_
  . rw[z.2];exact Z0d (Z0f (hk none z.1.symm))
  . refine z.2.elim λt z=>?_;rw[z.1];exact Z0d (wpAny_seqItems z.2 rfl (hk _ rfl))
 subst hx
 generalize hL:fd.params.args.map (·.arg)=xs at nd hg hd hdl q
 have e0:dvs.drop (dvs.length - xs.length)=dvs:=by rw[Nat.sub_eq_zero_of_le hdl];rfl
 have miss:List.filter (λn=>(List.lookup n (xs.zip cvs)).isNone) (List.take (xs.length - (dvs.drop (dvs.length - xs.length)).length) xs)= []:=by rw[e0];exact C9r nd hg hd hdl
 have fin:List.filterMap (λn=>Option.map (λx=>(n,x)) (List.lookup n (A1y (xs.zip cvs) ((List.drop (xs.length - (dvs.drop (dvs.length - xs.length)).length) xs).zip (dvs.drop (dvs.length - xs.length)))))) (xs ++ [])=xs.zip (cvs ++ dvs.drop (dvs.length - (xs.length - cvs.length))):=by
  rw[e0,List.append_nil];exact D7i nd hg hd hdl
 clear nd hd hD hdl e0
 unfold bindArgs
 generalize fd.params=p at h1 h2 h3 h4 hL ⊢
 obtain⟨po,ar,va,ko,kd,kw,df⟩:=p
 obtain rfl:po= []:=h1
 obtain rfl:ko= []:=h2
 obtain rfl:va=none:=h3
 obtain rfl:kw=none:=h4
 obtain rfl:ar.map (·.arg)=xs:=hL
 refine L6 (Z2w (List.forIn_nil ..)) (sq λr hr=>?_)
 clear sq
 subst hr
 refine O1 (λc=>absurd hg (Nat.not_le.mpr (of_decide_eq_true ((Bool.and_eq_true _ _).mp c).1))) (O1 (λc=>?_) (L6 (Z2w (D0l ..)) (L6 (Z2w (List.forIn_nil ..)) (O1 (λc=>nomatch c) (Z0f (cast (congrArg (λb=>Q b s) fin.symm) q))))))
 exact nomatch (congrArg (λl=> !l.isEmpty) miss).symm.trans c
theorem D2p{x:Str}{l:List (Str × Value)}(nd:(l.map (·.1)).Nodup):l.reverse.lookup x=l.lookup x:=by
 induction l with
 |nil=>rfl
 |cons p l ih=>
  rw[List.map_cons,Z2u] at nd;refine(Z3o▸A5f).trans (Eq.trans (congrArg (Option.or · _) (ih nd.2)) (Eq.trans ?_ (A5f (a:= [p])).symm));rw[List.lookup_cons];cases q:x==p.1 with
  |false=>exact Option.or_none
  |true=>
   rw[List.lookup_eq_none_iff.mpr λu hu=>bne_iff_ne.mpr λz=>nd.1 ((eq_of_beq q).symm.trans z▸List.mem_map_of_mem hu)];rfl
theorem A91{ns:Ns}{xs:List Str}{ps:List Nat}(h:A0m ns xs=some ps):ps.length=xs.length/\∀(j:Nat) x,xs[j]?=some x->∃i,ps[j]?=some i/\B3 x ns 0=some (i, .local):=by
 induction xs generalizing ps with
 |nil=>rw[<-Z0a h];exact⟨rfl,λj x e=>nomatch e⟩
 |cons y xs ih=>
  refine A1 (bi h) λq e1 h=>A8 (ift h) λz h=>A1 (mi h) λl e2 h=>?_;rw[<-h];refine A8 (ih e2) λa b=>⟨congrArg (· +1) a,λj x e=>?_⟩;cases j with
  |zero=>exact A6 q.1 rfl (by rw[<-Z0a e,e1,<-eq_of_beq z])
  |succ j=>exact b j x e
theorem C8m{α:Type}{ds:List α}{k:Nat}{d:α}(h:k+1<=ds.length)(e:ds[ds.length - (k+1)]?=some d):ds.drop (ds.length - (k+1))=d :: ds.drop (ds.length - k):=by
 obtain⟨z,e⟩:=Z1m.mp e;rw[List.drop_eq_getElem_cons z,e,<-Nat.sub_add_comm h,Nat.add_sub_add_right]
theorem C3l{ps:List Nat}{vs ds:List V}{l:Loc}(h:binds ps vs ds=some l):l=ps.zip (vs ++ ds.drop (ds.length - (ps.length - vs.length)))/\vs.length<=ps.length/\ps.length<=vs.length+ds.length:=by
 induction ps generalizing vs l with
 |nil=>cases vs with
  |nil=>exact⟨(Z0a h).symm,Z0g _,Z1y _⟩
  |cons _ _=>exact nn h
 |cons p r ih=>cases vs with
  |nil=>
   refine(bBo h).elim (λh=>?_) λh=>nn h.2;refine A1 (bi h.2) λd ed h2=>A1 (mi h2) λl' e h2=>A7 (ih e) λa J J=>?_;have z:=Z0l h.1;rw[A1h] at ed;rw[D0,D0] at z ed;refine⟨?_,Z1y _,(Z2j ds.length).symm▸z⟩;show _=(p :: r).zip (ds.drop (ds.length - (r.length+1)));rw[C8m z ed,<-h2,a];rfl
  |cons v vs=>
   refine A1 (mi h) λl' e h=>A7 (ih e) λa b c=>?_;rw[<-h,a,List.length_cons,List.length_cons,Nat.add_sub_add_right];exact⟨rfl,Nat.succ_le_succ b,Nat.add_right_comm ..▸Nat.succ_le_succ c⟩
theorem D0z{i:Nat}{v:V}{ps:List Nat}{us:List V}(h:lkG i (ps.zip us)=some v):∃j:Nat,ps[j]?=some i/\us[j]?=some v:=by
 induction ps generalizing us with
 |nil=>exact nn h
 |cons p ps ih=>cases us with
  |nil=>exact nn h
  |cons u us=>
   refine(bBo (b:=Nat.beq p i) h).elim (λh=>⟨0,congrArg some (nbe.mp h.1),h.2⟩) λh=>?_;exact A1 (ih h.2) λj a b=>⟨j+1,a,b⟩
theorem C49{Θ:Th}{n:Nat}{ns:Ns}{xs:List Str}{ps:List Nat}{us:List V}{cus:List Value}(hl:A0m ns xs=some ps)(nd:xs.Nodup)(hu:us.length=xs.length)(V:VRs gv Θ n us cus) :
 FR gv Θ n ns (ps.zip us) (λx=>(xs.zip cus).reverse.lookup x):=by
 intro i x k v hi hv
 refine A1 (D0z hv) λj a b=>?_
 obtain⟨l1,l2⟩:=A91 hl
 have hj:j<xs.length:=by rw[<-l1];exact(Z1m.mp a).1
 refine A1 (l2 j xs[j] (Z0w hj)) λi' e1 e2=>?_
 obtain rfl:i=i':=Z0a (a.symm.trans e1)
 haveI e3:=(G6 e2).2.1
 rw[Nat.sub_zero,hi] at e3
 haveI ex:x=xs[j]:=by injection e3 with e3;injection e3
 have hc:cus.length=xs.length:=by rw[<-V.len,hu]
 refine A1 (V.nth b) λcv c1 c2=>?_
 refine A6 cv (?_) c2
 show(xs.zip cus).reverse.lookup x=some cv
 rw[D2p (by rw[Z4h (by lia)];exact nd),A55 xs cus x nd hc j (by rw[ex];exact Z0w hj),c1]
def A2(T:Tabs)(cc:CC):An:=⟨cc.attrs,λc=>∃cl,BtG T.cls (c+1)=some cl⟩
section
variable{s':Shared}
theorem PK.on{k:MineE.K}{Q:Value->Shared->Prop}(p:PK og gv an A0 Θ H l env outer h k Q)(x:Ext (frs (env :: outer)) noX Θ H.n h Θ' H'.n h'):PK og gv an A0 Θ' H' l env outer h' k Q:=
 λv H'' hk Θ'' cv s' y a vr=>p v H'' hk Θ'' cv s' (x.trans y) a vr
theorem PKt.on{k:Bool->Hp->Bool}{Q:Bool->Shared->Prop}(p:PKt og gv an A0 Θ H l env outer h k Q)(x:Ext (frs (env :: outer)) noX Θ H.n h Θ' H'.n h'):PKt og gv an A0 Θ' H' l env outer h' k Q:=
 λv H'' hk Θ'' s' y a=>p v H'' hk Θ'' s' (x.trans y) a
theorem PS.on{k:KS}{Q:Flow->Shared->Prop}(p:PS og gv an A0 Θ H env outer h k Q)(x:Ext (frs (env :: outer)) (onL env) Θ H.n h Θ' H'.n h'):PS og gv an A0 Θ' H' env outer h' k Q:=
 λf l' H'' hk Θ'' cf s' y a fr=>p f l' H'' hk Θ'' cf s' (x.trans y) a fr
theorem At.keeps(a:At gv an A0 Θ H l env outer h)(k:∀b o,h.get? b=some o->h'.get? b=some o)(hz:h.objs.size<=h'.objs.size):At gv an A0 Θ H l env outer h':=by
 refine A1 a.fr λm hn F=>?_;exact⟨a.st.keeps k hz,m,hn.keeps k,F⟩
theorem PK.here[Og s' og]{k:MineE.K}{Q:Value->Shared->Prop}{v:V}{cv:Value}(p:PK og gv an A0 Θ H l env outer s.heap k Q)(a:At gv an A0 Θ H l env outer s.heap)(hk:k v H=true)
 (kp:∀b o,s.heap.get? b=some o->s'.heap.get? b=some o) (hz:s.heap.objs.size<=s'.heap.objs.size) (vr:VR gv Θ H.n v cv):Q cv s':=
 p v H hk Θ cv s' (Ext.keeps kp hz) (a.keeps kp hz) vr
theorem PKt.here[Og s' og]{k:Bool->Hp->Bool}{Q:Bool->Shared->Prop}{b:Bool}(p:PKt og gv an A0 Θ H l env outer s.heap k Q)(a:At gv an A0 Θ H l env outer s.heap)(hk:k b H=true)
 (kp:∀b o,s.heap.get? b=some o->s'.heap.get? b=some o) (hz:s.heap.objs.size<=s'.heap.objs.size):Q b s':=
 p b H hk Θ s' (Ext.keeps kp hz) (a.keeps kp hz)
end
section
variable(og:OGt)(w:World)(T:Tabs)(cc:CC)(gv:Nat->Option Value)(A0:Heap)(pc:Addr)(K:Frag)(D U:Nat)
def SoE(r:Rec)(n:Nat):Prop:=∀fu e x l H k kx A env outer s Θ Q E,cE cc env.scope.names fu e=some x->r.e x l H k kx=true->Cx D U n A env outer->
 At gv (A2 T cc) A0 Θ H l env outer s.heap->PK og gv (A2 T cc) A0 Θ H l env outer s.heap k Q->PX og gv (A2 T cc) A0 pc noX Θ H env outer s.heap kx E->∀ [Og s og],wpAny (model pg w) A (eval e env) Q E s
def B7k(r:Rec)(n:Nat):Prop:=∀fu (es:List Expr) x l H k kx A env outer s Θ pos Q E,xl (es.map (cE cc env.scope.names fu))=some x->es.any B7=false->r.es x l H k kx=true->Cx D U n A env outer->
 At gv (A2 T cc) A0 Θ H l env outer s.heap->PKs og gv (A2 T cc) A0 Θ H l env outer s.heap k Q->PX og gv (A2 T cc) A0 pc noX Θ H env outer s.heap kx E->∀ [Og s og],wpAny (model pg w) A (spliced (backTo pos (starEach es env))) Q E s
def SoT(r:Rec)(n:Nat):Prop:=∀fu e x l H k kx A env outer s Θ Q E,cE cc env.scope.names fu e=some x->r.t x l H k kx=true->Cx D U n A env outer->
 At gv (A2 T cc) A0 Θ H l env outer s.heap->PKt og gv (A2 T cc) A0 Θ H l env outer s.heap k Q->PX og gv (A2 T cc) A0 pc noX Θ H env outer s.heap kx E->∀ [Og s og],wpAny (model pg w) A (isTrue e env (eval e env)) Q E s
def SoS(r:Rec)(n:Nat):Prop:=∀fu ss x l H k kx A env outer s Θ Q E,cSs cc env.scope.names fu ss=some x->r.ss x l H k kx=true->Cx D U n A env outer->
 At gv (A2 T cc) A0 Θ H l env outer s.heap->PS og gv (A2 T cc) A0 Θ H env outer s.heap k Q->PX og gv (A2 T cc) A0 pc (onL env) Θ H env outer s.heap kx E->∀ [Og s og],wpAny (model pg w) A (execs ss env) Q E s
def N1(M:Model)(A:Around)(env:Env)(Q:Flow->Shared->Prop)(E:Value->Shared->Prop):Result->Shared->Prop:=λr s'=>match r with | .ok f=>Q f s' | .error e=>cameBackBy M A env E e s'
def SoW(r:Rec)(n:Nat):Prop:=∀fu e ss x y l H k kx A env outer s Θ Q E,cE cc env.scope.names DF e=some x->cSs cc env.scope.names fu ss=some y->r.w x y l H k kx=true->Cx D U n A env outer->
 At gv (A2 T cc) A0 Θ H l env outer s.heap->PS og gv (A2 T cc) A0 Θ H env outer s.heap k Q->PX og gv (A2 T cc) A0 pc (onL env) Θ H env outer s.heap kx E->∀ [Og s og],codeAny (model pg w) A (.whileLoop e ss [] env) (N1 (model pg w) A env Q E) s
def SoC(r:Rec)(n:Nat):Prop:=∀f fa vs H k kx A fs s Θ cvs R,FnOk gv cc K f fa->r.call f vs H k kx=true->CA D U n A fs->St gv (A2 T cc) A0 Θ H fs s.heap->VRs gv Θ H.n vs cvs->
 PC og gv (A2 T cc) A0 pc Θ H fs s.heap k kx R->∀ [Og s og],codeAny (model pg w) A (.call (.ref fa) ⟨cvs,[]⟩) R s
structure Apart(Θ:Th)(H:Hp)(fs:List Env)(h:Heap)(fp:List Addr):Prop where
 lt:∀b,b∈fp->b<h.objs.size
 low:∀b,b∈fp->A0.get? b=none
 ours:∀b,b∈fp->∀i,i<H.n->∀z,own Θ i z->z≠b
 fr:∀b,b∈fp->b∉frs fs
def B2t(r:Rec)(n:Nat):Prop:=∀fu x p ss y i vs l H k kx A env outer s Θ I fp wr N PP Stt j Θ0 H0 h0 Q E,B3 x env.scope.names 0=some (i, .local)->cSs cc env.scope.names fu ss=some y->r.fr i vs y l H k kx=true->Cx D U n A env outer->
 At gv (A2 T cc) A0 Θ H l env outer s.heap->Walks pg w A I fp wr N PP Stt->Stt j s.heap->j+vs.length=N->(∀q v,vs[q]?=some v->∀cv,PP (j+q) cv->∀Θ n,VR gv Θ n v cv)->Apart A0 Θ H (env :: outer) s.heap fp->(∀b,b∈fp->h0.objs.size<=b)->env.locals∉fp->
 Ext (frs (env :: outer)) (onL env) Θ0 H0.n h0 Θ H.n s.heap->PS og gv (A2 T cc) A0 Θ0 H0 env outer h0 k Q->PX og gv (A2 T cc) A0 pc (onL env) Θ0 H0 env outer h0 kx E->∀ [Og s og],codeAny (model pg w) A (.forLoop (.Name x p) (.ref I) ss [] env) (N1 (model pg w) A env Q E) s
structure SoAll(r:Rec)(n:Nat):Prop where
 e:SoE og w T cc gv A0 pc D U r n
 es:B7k og w T cc gv A0 pc D U r n
 t:SoT og w T cc gv A0 pc D U r n
 ss:SoS og w T cc gv A0 pc D U r n
 lp:SoW og w T cc gv A0 pc D U r n
 c:SoC og w T cc gv A0 pc K D U r n
 fr:B2t og w T cc gv A0 pc D U r n
 kn:∀l H k kx,r.e (.const .none) l H k kx=true->k .none H=true
end
section
variable{K:Frag}{D U:Nat}
variable{k:MineE.K}{kx:MineE.K}{Q:Value->Shared->Prop}
theorem A6h{v:V}{b:Bool}(h:truthy v=some b):v= .bool b:=by
 exact A9l h λi h=>congrArg _ (Z0a h)
theorem D5m[Og s og]{c:Const}{kd:Nat}{p:Pos}{v:V}(hc:X5 c=some v)(h:k v H=true)(a:At gv (A2 T cc) A0 Θ H l env outer s.heap)(pk:PK og gv (A2 T cc) A0 Θ H l env outer s.heap k Q) :
 wpAny (model pg w) A (eval (.Constant c kd p) env) Q E s:=by
 cases c <;> first | (cases hc;done) | skip
 . replace hc:=Z0a hc;subst hc;exact Z0f (pk.here a h (λJ J e=>e) (Z0g _) rfl)
 . replace hc:=Z0a hc;subst hc;exact Z0f (pk.here a h (λJ J e=>e) (Z0g _) rfl)
 . replace hc:=Z0a hc;subst hc;exact λJ J J=>(pk.here (s':={s with toks:=s.toks+1}) a h (λJ J e=>e) (Z0g _) ⟨_,rfl⟩)
 . rename_i x
   replace hc:=Z0a hc;subst hc;exact Z2i (pk.here (s':={s with toks:=s.toks+1}) a h (λJ J e=>e) (Z0g _) ⟨s.toks,by
    unfold sOf;rw[Z1x]⟩)
 . rename_i b
   replace hc:=Z0a hc;subst hc
   refine wpAny_mkTextBytes (pk.here (s':={s with toks:=s.toks+1}) a h (λJ J e=>e) (Z0g _) ⟨s.toks,?_⟩)
   congr 1
   congr 1
   rw[Z3w]
   conv=>lhs;rw[<-List.map_id b]
   apply List.map_congr_left
   intro x J
   simp
theorem Cx.nodbg{x:Str}{kd:NameKind}(cx:Cx D U n A env outer)(h:(x,kd)∈env.scope.names):(x==("__debug__" :Str))=false:=by
 haveI:=cx.nc;unfold A2o at this;rw[Z1n] at this;haveI q:=this _ h;rw[Bool.not_eq_true'] at q;refine beq_eq_false_iff_ne.mpr λe=>?_;rw[Bool.eq_false_iff] at q;exact q ((J3 _ _).mpr e)
theorem C4x[Og s og]{x:Str}{p:Pos}{xx:X}(G:GT w T cc gv mg mb A0 K)(hc:A1d cc env.scope.names x=some xx)(h:stE T P r xx l H k kx=true)(cx:Cx D U n A env outer)
 (a:At gv (A2 T cc) A0 Θ H l env outer s.heap) (pk:PK og gv (A2 T cc) A0 Θ H l env outer s.heap k Q):wpAny (model pg w) A (eval (.Name x p) env) Q E s:=by
 refine(A8u hc).elim (λhc=>A1 hc λi e hc=>?_) λhc=>F8 hc λi v e ev hc=>?_
 . subst hc
   refine A7 (G6 e) λJ e1 e2=>?_
   refine A1 (R0 h) λv ev hk=>?_
   refine A1 a.fr λm hn F=>?_
   refine A1 (F i x _ v e1 ev) λcv c1 c2=>?_
   exact Z3g (Z2k cx.kind e2 hn c1 (pk.here a hk (λJ J e=>e) (Z0g _) c2)) (cx.nodbg (Z1p e1))
 . subst hc
   obtain⟨d1,d2⟩:=G.name _ _ ev
   have ng:s.heap.Ns env.globals mg:=by rw[cx.glob];exact G.g.keeps a.st.stays
   haveI nb:s.heap.Ns env.builtins mb:=by rw[cx.blt];exact G.b.keeps a.st.stays
   refine Z2z cx.kind (G6 e).2.2 ?_ d1
   rcases d2 with⟨cv,c1,c2⟩ | ⟨c0,cv,c1,c2⟩
   . exact Z4c ng c1 (pk.here a h (λJ J e=>e) (Z0g _) (c2 _ _))
   . exact loadGlobal_builtin ng c0 nb c1 (pk.here a h (λJ J e=>e) (Z0g _) (c2 _ _))
variable{nn:Nat}
theorem B0w[Og s og]{op:UnaryOp}{ex:Expr}{p:Pos}{xx:X}{fu:Nat}(hr:SoAll og w T cc gv A0 pc K D U r n)(hc:cE cc env.scope.names fu ex=some xx)(f:V->Option V)(hf:∀v v' cv s₁ Θ' n' (Q':Value->Shared->Prop),f v=some v'->VR gv Θ' n' v cv->(∀cv' tk,VR gv Θ' n' v' cv'->Q' cv' {s₁ with toks:=tk})->wpAny (model pg w) A (unaryOp op cv) Q' E s₁)
 (h:r.e xx l H (λv h=>opK (f v) h k) kx=true) (cx:Cx D U n A env outer)
 (a:At gv (A2 T cc) A0 Θ H l env outer s.heap) (pk:PK og gv (A2 T cc) A0 Θ H l env outer s.heap k Q) (px:PX og gv (A2 T cc) A0 pc noX Θ H env outer s.heap kx E):wpAny (model pg w) A (eval (.UnaryOp op ex p) env) Q E s:=by
 refine UnaryOp_ (hr.e _ _ _ _ _ _ _ _ _ _ _ _ _ _ hc h cx a ?_ px)
 intro v H' hk Θ' cv s₁ x a' vr
 refine A1 (T2 hk) λv' e hk'=>?_
 exact hf v v' cv s₁ Θ' H'.n Q e vr λcv' tk vr'=>(pk.on x).here (s:=s₁) a' hk' (λJ J e=>e) (Z0g _) vr'
theorem C4u{v v':V}{cv:Value}{n':Nat}(e:A6f v=some v')(vr:VR gv Θ n' v cv)(q:∀cv' tk,VR gv Θ n' v' cv'->Q cv' {s with toks:=tk}):wpAny (model pg w) A (unaryOp .Not cv) Q E s:=by
 refine C7t e vr λb e=>not_of (Z1a ?_);exact q _ s.toks (by rw[<-Z0a e,A2u];rfl)
theorem D4g{v v':V}{cv:Value}{n':Nat}(e:A92 v=some v')(vr:VR gv Θ n' v cv)(q:∀cv' tk,VR gv Θ n' v' cv'->Q cv' {s with toks:=tk}):wpAny (model pg w) A (unaryOp .USub cv) Q E s:=by
 exact G8 e vr λi t e=>PySem.P.neg_int (q _ _ (Z0a e▸⟨_,rfl⟩))
theorem D6h[Og s og]{e0 e1 e2:Expr}{p:Pos}{x0 x1 x2:X}{fu:Nat}(hr:SoAll og w T cc gv A0 pc K D U r n)(hc0:cE cc env.scope.names fu e0=some x0)(hc1:cE cc env.scope.names fu e1=some x1)(hc2:cE cc env.scope.names fu e2=some x2)
 (h:B2y r x0 x1 x2 l H k kx=true) (cx:Cx D U n A env outer)
 (a:At gv (A2 T cc) A0 Θ H l env outer s.heap) (pk:PK og gv (A2 T cc) A0 Θ H l env outer s.heap k Q) (px:PX og gv (A2 T cc) A0 pc noX Θ H env outer s.heap kx E):wpAny (model pg w) A (eval (.IfExp e0 e1 e2 p) env) Q E s:=by
 refine IfExp_ (hr.t _ _ _ _ _ _ _ _ _ _ _ _ _ _ hc0 h cx a ?_ px)
 intro b H1 hk1 Θ1 s1 xx1 a1
 cases b with
 |true=>exact hr.e _ _ _ _ _ _ _ _ _ _ _ _ _ _ hc1 hk1 cx a1 (pk.on xx1) (px.on xx1)
 |false=>exact hr.e _ _ _ _ _ _ _ _ _ _ _ _ _ _ hc2 hk1 cx a1 (pk.on xx1) (px.on xx1)
theorem A5c{op:CmpOp}{e:Expr}(h:isSetE e=false):behindInMarks op e=false:=by
 cases e <;> first | rfl | (cases h;done)
theorem CA.cline{D U n:Nat}{A:Around}{fs:List Env}(c:CA D U n A fs)(hU:U<cLine):A.units<cLine:=Z0t (Z0c (Nat.le_add_right ..) c.uni) hU
theorem C2u[Og s og](G:GT w T cc gv mg mb A0 K)(hU:U<cLine){op:CmpOp}{e1 e2:Expr}{p:Pos}{x1 x2:X}{fu:Nat}(hr:SoAll og w T cc gv A0 pc K D U r n)(hs:isSetE e2=false)(hc1:cE cc env.scope.names fu e1=some x1)(hc2:cE cc env.scope.names fu e2=some x2)
 (h:A4l T r x1 (cCp op) x2 l H (kb k) kx=true) (cx:Cx D U n A env outer)
 (a:At gv (A2 T cc) A0 Θ H l env outer s.heap) (pk:PK og gv (A2 T cc) A0 Θ H l env outer s.heap k Q) (px:PX og gv (A2 T cc) A0 pc noX Θ H env outer s.heap kx E):wpAny (model pg w) A (eval (.Compare e1 [op] [e2] p) env) Q E s:=by
 refine Z4b (hr.e _ _ _ _ _ _ _ _ _ _ _ _ _ _ hc1 h cx a ?_ px) (A5c hs)
 intro v1 H1 hk1 Θ1 c1 s1 xx1 a1 vr1
 refine hr.e _ _ _ _ _ _ _ _ _ _ _ _ _ _ hc2 hk1 cx a1 ?_ (px.on xx1)
 intro v2 H2 hk2 Θ2 c2 s2 xx2 a2 vr2
 refine A1 (Z0 hk2) λb e hk=>?_
 exact A0p G a2.st (cx.ca.cline hU) e (vr1.ext xx2) vr2 λtk=>((pk.on xx1).on xx2).here (s:=s2) a2 hk (λJ J e=>e) (Z0g _) rfl
end
section
variable{K:Frag}{D U:Nat}
variable{k:MineE.K}{kx:MineE.K}{Q:Value->Shared->Prop}
theorem D7p[Og s og]{e1 e2:Expr}{rest:List Expr}{p:Pos}{x1 x2:X}{fu:Nat}(hr:SoAll og w T cc gv A0 pc K D U r n)(hc1:cE cc env.scope.names fu e1=some x1)(hc2:Q3 .and ((e2 :: rest).map (cE cc env.scope.names fu))=some x2)
 (h:B3o r x1 x2 l H k kx=true) (cx:Cx D U n A env outer)
 (a:At gv (A2 T cc) A0 Θ H l env outer s.heap) (pk:PK og gv (A2 T cc) A0 Θ H l env outer s.heap k Q) (px:PX og gv (A2 T cc) A0 pc noX Θ H env outer s.heap kx E):wpAny (model pg w) A (eval (.BoolOp .And (e1 :: e2 :: rest) p) env) Q E s:=by
 refine BoolOp_and (hr.e _ _ _ _ _ _ _ _ _ _ _ _ _ _ hc1 h cx a ?_ px)
 intro v1 H1 hk1 Θ1 c1 s1 xx1 a1 vr1 J
 refine A1 (R0 hk1) λb e hk=>?_
 obtain rfl:=A6h e
 subst vr1
 refine Z1a ?_
 cases b with
 |false=>exact(pk.on xx1).here a1 hk (λJ J e=>e) (Z0g _) rfl
 |true=>exact hr.e (fu+1) _ _ _ _ _ _ _ _ _ _ _ _ _ hc2 hk cx a1 (pk.on xx1) (px.on xx1)
theorem D1m[Og s og]{e1 e2:Expr}{rest:List Expr}{p:Pos}{x1 x2:X}{fu:Nat}(hr:SoAll og w T cc gv A0 pc K D U r n)(hc1:cE cc env.scope.names fu e1=some x1)(hc2:Q3 .or ((e2 :: rest).map (cE cc env.scope.names fu))=some x2)
 (h:eOr r x1 x2 l H k kx=true) (cx:Cx D U n A env outer)
 (a:At gv (A2 T cc) A0 Θ H l env outer s.heap) (pk:PK og gv (A2 T cc) A0 Θ H l env outer s.heap k Q) (px:PX og gv (A2 T cc) A0 pc noX Θ H env outer s.heap kx E):wpAny (model pg w) A (eval (.BoolOp .Or (e1 :: e2 :: rest) p) env) Q E s:=by
 refine BoolOp_or (hr.e _ _ _ _ _ _ _ _ _ _ _ _ _ _ hc1 h cx a ?_ px)
 intro v1 H1 hk1 Θ1 c1 s1 xx1 a1 vr1 J
 refine A1 (R0 hk1) λb e hk=>?_
 obtain rfl:=A6h e
 subst vr1
 refine Z1a ?_
 cases b with
 |true=>exact(pk.on xx1).here a1 hk (λJ J e=>e) (Z0g _) rfl
 |false=>exact hr.e (fu+1) _ _ _ _ _ _ _ _ _ _ _ _ _ hc2 hk cx a1 (pk.on xx1) (px.on xx1)
theorem D13[Og s og](G:GT w T cc gv mg mb A0 K)(hU:U<cLine){op op2:CmpOp}{e1 e2 e3:Expr}{p:Pos}{x1 x2 x3:X}{fu:Nat}(hr:SoAll og w T cc gv A0 pc K D U r n)(hs:isSetE e3=false)(hc1:cE cc env.scope.names fu e1=some x1)(hc2:cE cc env.scope.names fu e2=some x2)(hc3:cE cc env.scope.names fu e3=some x3)
 (h:A5z T r x1 (cCp op) x2 (cCp op2) x3 l H (kb k) kx=true) (cx:Cx D U n A env outer)
 (a:At gv (A2 T cc) A0 Θ H l env outer s.heap) (pk:PK og gv (A2 T cc) A0 Θ H l env outer s.heap k Q) (px:PX og gv (A2 T cc) A0 pc noX Θ H env outer s.heap kx E):wpAny (model pg w) A (eval (.Compare e1 [op,op2] [e2,e3] p) env) Q E s:=by
 refine Compare_chain (hr.e _ _ _ _ _ _ _ _ _ _ _ _ _ _ hc1 h cx a ?_ px) (by show behindInMarks op2 e3=false;exact A5c hs)
 intro v1 H1 hk1 Θ1 c1 s1 xx1 a1 vr1 J
 refine chain_link (hr.e _ _ _ _ _ _ _ _ _ _ _ _ _ _ hc2 hk1 cx a1 ?_ (px.on xx1))
 intro v2 H2 hk2 Θ2 c2 s2 xx2 a2 vr2 J
 refine A1 (Z0 hk2) λb e hk=>?_
 refine A0p G a2.st (cx.ca.cline hU) e (vr1.ext xx2) vr2 λtk=>Z1a ?_
 cases b with
 |false=>exact((pk.on xx1).on xx2).here (s:=s2) a2 hk (λJ J e=>e) (Z0g _) rfl
 |true=>
  refine chain_last (hr.e _ _ _ _ _ _ _ _ _ _ _ _ _ _ hc3 hk cx a2 ?_ ((px.on xx1).on xx2));intro v3 H3 hk3 Θ3 c3 s3 xx3 a3 vr3 J;refine A1 (Z0 hk3) λb e hk=>?_;exact A0p G a3.st (cx.ca.cline hU) e (vr2.ext xx3) vr3 λtk=>(((pk.on xx1).on xx2).on xx3).here (s:=s3) a3 hk (λJ J e=>e) (Z0g _) rfl
theorem B0z{f:List (Nat × V)->Wt->Bool}:∀{t:Wt} {p:List (List (Nat × V))},A7v t f=true->A3u t=false->t.Path p->∃fs nx q,p=fs :: q/\nx.Path q/\f fs nx=true
 | .leaf,p,_,h,_=>by cases h
 | .node fs nx alt,p,h,_,hp=>by
  obtain⟨h1,h2⟩:=A5 (show bB (f fs nx) (A7v alt f) false=true from h);rcases hp with⟨q,e,hq⟩ | ⟨hl,hq⟩
  . exact S9 fs nx q e hq h1
  . exact B0z h2 hl hq
theorem B64:∀(l:List (List (Nat × V))) (v:List (Nat × V)),A3h l v=l ++ [v]
 | [],_=>rfl
 |x :: a,b=>by show x :: A3h a b=_;rw[B64 a b];rfl
theorem oBc{α:Type}{o:Option α}{n:Bool}{f:α->Bool}(h:oB o n f=true):n=true\/∃a,o=some a/\f a=true:=by
 cases o with
 |none=>exact .inl h
 |some a=>exact .inr ⟨a,rfl,h⟩
theorem B8d{an:An}{fs:List Env}{h:Heap}{i j:Nat}{k:Hp->Bool}{m:Nat}{H:Hp}(hk:rv m i j H k=true)(hi:i<H.n)(S:St gv an A0 Θ H fs h):∃H',k H'=true/\H'.n=H.n/\St gv an A0 Θ H' fs h:=by
 induction m generalizing H with
 |zero=>exact ff hk
 |succ m ih=>
  refine(oBc hk).elim (λhk=>⟨H,hk,rfl,S⟩) λhk=>?_
  . refine A1 hk λp q hk=>?_;refine A1 (bi q) λo eo q=>?_;have x:=S.is hi eo;revert x;refine A2v q λc ws t q x=>?_;obtain⟨q2,q⟩:=A2b (A2b q).2;obtain rfl:=Z0a q;obtain⟨c1,c2,vs,e,path,l1,l2,l3,l4,l5,l6⟩:=x;refine G4 (B0z hk q2 l2) λfs' nx q q'1 hq hk'=>?_;subst q'1;refine D6 (ih hk' (by exact hi) (S.put (h':=h) (o:= .lz c (A3h ws fs') nx) hi (λb x e J J=>e) (Z0g _) (by
     rw[B64];refine⟨c1,c2,vs,e,q,l1,hq,l3,?_,l5,λj fs hj=>l6 j fs ?_⟩
     . rw[List.length_append];rw[List.length_cons] at l4;simp only[List.length_cons,List.length_nil];lia
     . rw[List.append_assoc] at hj;exact hj)).1) λH' a1 a2 a3=>T9 H' a1 a2 a3
theorem C7y{an:An}{fs:List Env}{h:Heap}{a b:V}{ca:Value}{k:Hp->Bool}{H:Hp}(hk:rvK a b H k=true)(va:VR gv Θ H.n a ca)(S:St gv an A0 Θ H fs h):∃H',k H'=true/\H'.n=H.n/\St gv an A0 Θ H' fs h:=by
 refine(oBc hk).elim (λhk=>⟨H,hk,rfl,S⟩) λhk=>A1 hk λp q hk=>?_;refine B8d hk ?_ S;revert va;refine R3 q λi q va=>?_;exact J4 q λb q=>R4 q λj q=>Z0a q▸va.1
theorem At.rv{H':Hp}{h:Heap}(a:At gv (A2 T cc) A0 Θ H l env outer h)(e:H'.n=H.n)(S:St gv (A2 T cc) A0 Θ H' (env :: outer) h):At gv (A2 T cc) A0 Θ H' l env outer h:=by
 refine A1 a.fr λm hn F=>?_;exact⟨S,m,hn,by rw[e];exact F⟩
theorem Ext.rv{Sl:List Addr}{X:Addr->Prop}{n':Nat}{h:Heap}(e:n'=H.n):Ext Sl X Θ H.n h Θ n' h:=by rw[e];exact Ext.refl
theorem D7t[Og s og](G:GT w T cc gv mg mb A0 K){e1 e2:Expr}{p:Pos}{x1 x2:X}{fu:Nat}(hr:SoAll og w T cc gv A0 pc K D U r n)(hc1:cE cc env.scope.names fu e1=some x1)(hc2:cE cc env.scope.names fu e2=some x2)
 (h:B46 T r x1 x2 l H k kx=true) (cx:Cx D U n A env outer)
 (a:At gv (A2 T cc) A0 Θ H l env outer s.heap) (pk:PK og gv (A2 T cc) A0 Θ H l env outer s.heap k Q) (px:PX og gv (A2 T cc) A0 pc noX Θ H env outer s.heap kx E):wpAny (model pg w) A (eval (.Subscript e1 e2 p) env) Q E s:=by
 refine Z3h (hr.e _ _ _ _ _ _ _ _ _ _ _ _ _ _ hc1 h cx a ?_ px)
 intro v1 H1 hk1 Θ1 c1 s1 xx1 a1 vr1 J
 refine hr.e _ _ _ _ _ _ _ _ _ _ _ _ _ _ hc2 hk1 cx a1 ?_ (px.on xx1)
 intro v2 H2 hk2 Θ2 c2 s2 xx2 a2 vr2 J
 refine D6 (C7y hk2 (vr1.ext xx2) a2.st) λH3 hk3 e3 S3=>?_
 refine A1 (T2 hk3) λv e hk=>?_
 haveI a3:=a2.rv e3 S3
 exact C8t G S3 e (by rw[e3];exact vr1.ext xx2) (by rw[e3];exact vr2) λcv tk vr=>(((pk.on xx1).on xx2).on (Ext.rv e3)).here (s:=s2) a3 hk (λJ J e=>e) (Z0g _) vr
theorem B8c{h:Heap}(o:Obj):∀b x,h.get? b=some x->(h.push o).get? b=some x:=λJ J e=>Z0h o e
theorem D79[Og s og]{e1:Expr}{lo hi:Option Expr}{p p':Pos}{x1 x2 x3:X}{fu:Nat}(hr:SoAll og w T cc gv A0 pc K D U r n)(hc1:cE cc env.scope.names fu e1=some x1)
 (hc2:Y9 (cE cc env.scope.names fu) lo=some x2) (hc3:Y9 (cE cc env.scope.names fu) hi=some x3)
 (h:B6a r x1 x2 x3 l H k kx=true) (cx:Cx D U n A env outer)
 (a:At gv (A2 T cc) A0 Θ H l env outer s.heap) (pk:PK og gv (A2 T cc) A0 Θ H l env outer s.heap k Q) (px:PX og gv (A2 T cc) A0 pc noX Θ H env outer s.heap kx E):wpAny (model pg w) A (eval (.Subscript e1 (.Slice lo hi none p') p) env) Q E s:=by
 have part:∀{A:Around} {s:Shared} {Θ:Th} {H:Hp} {k:MineE.K} {Q:Value->Shared->Prop} {E:Value->Shared->Prop} (lo:Option Expr) (x:X),Y9 (cE cc env.scope.names fu) lo=some x->r.e x l H k kx=true->Cx D U n A env outer->
  At gv (A2 T cc) A0 Θ H l env outer s.heap->PK og gv (A2 T cc) A0 Θ H l env outer s.heap k Q->PX og gv (A2 T cc) A0 pc noX Θ H env outer s.heap kx E->∀ [Og s og],wpAny (model pg w) A (evalPart lo env) Q E s:=by
  intro A s Θ H k Q E lo x hx h cx a pk px J
  cases lo with
  |none=>
   replace hx:=Z0a hx;subst hx;exact Z0f (pk.here a (hr.kn _ _ _ _ h) (λJ J e=>e) (Z0g _) rfl)
  |some e=>
   exact hr.e _ _ _ _ _ _ _ _ _ _ _ _ _ _ hx h cx a pk px
 refine Z3h (hr.e _ _ _ _ _ _ _ _ _ _ _ _ _ _ hc1 h cx a ?_ px)
 intro v1 H1 hk1 Θ1 c1 s1 xx1 a1 vr1 J
 refine wpAny_Slice (part lo x2 hc2 hk1 cx a1 ?_ (px.on xx1))
 intro v2 H2 hk2 Θ2 c2 s2 xx2 a2 vr2 J
 refine part hi x3 hc3 hk2 cx a2 ?_ ((px.on xx1).on xx2)
 intro v3 H3 hk3 Θ3 c3 s3 xx3 a3 vr3 J
 refine Z0f ?_
 refine A1 (T2 hk3) λv e hk=>?_
 refine C0h a3.st.gh e ((vr1.ext xx2).ext xx3) (vr2.ext xx3) vr3 λcv tk vr=>?_
 exact(((pk.on xx1).on xx2).on xx3).here (s:=s3) a3 hk (B8c _) (by show _<=(s3.heap.push _).objs.size;rw[Heap.size_push];lia) vr
theorem A78[Og s og]{o:O}{ob:Obj}(a:At gv (A2 T cc) A0 Θ H l env outer s.heap)(pk:PK og gv (A2 T cc) A0 Θ H l env outer s.heap k Q)(h:A06 o H k=true)(hob:ob.isFreed=false)
 (ho:∀Θ':Th,Θ'.a H.n=s.heap.objs.size->(∀v cv,VR gv Θ H.n v cv->VR gv Θ' (H.n+1) v cv)->OR gv (A2 T cc) Θ' (H.n+1) (s.heap.push ob) H.n o):Q (.ref s.heap.objs.size) {s with heap:=s.heap.push ob}:=by
 refine A8 (A5 h) λz hk=>?_
 rw[C8,decide_eq_true_eq] at z
 haveI nw:=Th.set_new Θ H.n s.heap.objs.size s.heap.objs.size gh0
 haveI old:=Th.set_old Θ H.n s.heap.objs.size s.heap.objs.size gh0
 obtain⟨S',X'⟩:=a.st.new (h':=s.heap.push ob) (g:=gh0) (o:=o) z (B8c _) (a:=s.heap.objs.size) (d:=s.heap.objs.size) ⟨Z0g _,by rw[Heap.size_push];exact Z0g _⟩ ⟨Z0g _,by rw[Heap.size_push];exact Z0g _⟩ (by show 0+0<=_;decide) (λj hj=>absurd hj (Z0y j))
  (ho _ nw.1 λv cv vr=>vr.up (Z1d _) old)
 haveI hnn:(H.new o).n=H.n+1:=Hp.new_n
 refine pk _ _ hk _ _ {s with heap:=s.heap.push ob} X' ?_ ⟨by rw[hnn];exact Z0v _,by rw[nw.1]⟩
 refine A1 a.fr λm hn F=>?_
 exact⟨S',m,hn.push _,F.up (by rw[hnn];exact Z1d _) old⟩
theorem OR.newList{vs:List V}{cvs:List Value}{Θ':Th}(V:VRs gv Θ H.n vs cvs)(e:Θ'.a H.n=s.heap.objs.size)(up:∀v cv,VR gv Θ H.n v cv->VR gv Θ' (H.n+1) v cv) :
 OR gv (A2 T cc) Θ' (H.n+1) (s.heap.push {cls:= .type "list",data:= .seq cvs.toArray}) H.n (.list vs):=
 ⟨cvs.toArray,0,by rw[e];exact Z0r _ rfl,by
  induction vs generalizing cvs with
  |nil=>cases cvs with | nil=>trivial | cons _ _=>exact V.elim
  |cons v vs ih=>cases cvs with | nil=>exact V.elim | cons c cvs=>exact⟨up _ _ V.1,ih V.2⟩⟩
theorem OR.newTup{vs:List V}{cvs:List Value}{Θ':Th}(V:VRs gv Θ H.n vs cvs)(e:Θ'.a H.n=s.heap.objs.size)(up:∀v cv,VR gv Θ H.n v cv->VR gv Θ' (H.n+1) v cv) :
 OR gv (A2 T cc) Θ' (H.n+1) (s.heap.push {cls:= .type "tuple",data:= .seq cvs.toArray}) H.n (.tuple vs):=
 ⟨cvs.toArray,0,by rw[e];exact Z0r _ rfl,by
  induction vs generalizing cvs with
  |nil=>cases cvs with | nil=>trivial | cons _ _=>exact V.elim
  |cons v vs ih=>cases cvs with | nil=>exact V.elim | cons c cvs=>exact⟨up _ _ V.1,ih V.2⟩⟩
theorem C97[Og s og]{es:List Expr}{p:Pos}{xx:X}{fu:Nat}(hr:SoAll og w T cc gv A0 pc K D U r n)(hc:xl (es.map (cE cc env.scope.names fu))=some xx)(hst:es.any B7=false)
 (h:r.es xx l H (λvs h=>bB (Nat.ble (len vs) 1000) (A06 (.list vs) h k) false) kx=true) (cx:Cx D U n A env outer)
 (a:At gv (A2 T cc) A0 Θ H l env outer s.heap) (pk:PK og gv (A2 T cc) A0 Θ H l env outer s.heap k Q) (px:PX og gv (A2 T cc) A0 pc noX Θ H env outer s.heap kx E):wpAny (model pg w) A (eval (.List es p) env) Q E s:=by
 refine Z3e (hr.es _ _ _ _ _ _ _ _ _ _ _ _ _ _ _ hc hst h cx a ?_ px)
 intro vs H1 hk1 Θ1 cvs s1 xx1 a1 vr1 J
 obtain⟨z,hk⟩:=A5 hk1
 rw[C8,decide_eq_true_eq,D0,vr1.len] at z
 exact⟨by rw[sizeLine_eq];refine Z0c (by assumption) ?_;decide,A78 a1 (pk.on xx1) hk rfl λΘ' e up=>OR.newList vr1 e up⟩
theorem D4x[Og s og]{es:List Expr}{kd}{p:Pos}{xx:X}{fu:Nat}(hr:SoAll og w T cc gv A0 pc K D U r n)(hc:xl (es.map (cE cc env.scope.names fu))=some xx)(hst:es.any B7=false)
 (h:r.es xx l H (λvs h=>bB (Nat.ble (len vs) 1000) (A06 (.tuple vs) h k) false) kx=true) (cx:Cx D U n A env outer)
 (a:At gv (A2 T cc) A0 Θ H l env outer s.heap) (pk:PK og gv (A2 T cc) A0 Θ H l env outer s.heap k Q) (px:PX og gv (A2 T cc) A0 pc noX Θ H env outer s.heap kx E):wpAny (model pg w) A (eval (.Tuple es kd p) env) Q E s:=by
 refine Z3c (hr.es _ _ _ _ _ _ _ _ _ _ _ _ _ _ _ hc hst h cx a ?_ px)
 intro vs H1 hk1 Θ1 cvs s1 xx1 a1 vr1 J
 obtain⟨z,hk⟩:=A5 hk1
 rw[C8,decide_eq_true_eq,D0,vr1.len] at z
 exact⟨by rw[sizeLine_eq];refine Z0c (by assumption) ?_;decide,A78 a1 (pk.on xx1) hk rfl λΘ' e up=>OR.newTup vr1 e up⟩
theorem B4o:∀a b:List V,apV a b=a ++ b
 | [],_=>rfl
 |x :: a,b=>by show x :: apV a b=_;rw[B4o a b];rfl
theorem bBb{b x y:Bool}(h:bB b x y=true):(b=true/\x=true)\/y=true:=by cases b with | false=>exact .inr h | true=>exact .inl ⟨rfl,h⟩
theorem D64{op:Bop}{v:V}(h:A8y op v=true):op= .add:=by cases op <;> first | rfl | exact ff h
theorem D0w[Og s og]{v1 v2:V}{c1 c2:Value}(h:A7n v1 v2 H k=true)(a:At gv (A2 T cc) A0 Θ H l env outer s.heap)(pk:PK og gv (A2 T cc) A0 Θ H l env outer s.heap k Q)(x1:VR gv Θ H.n v1 c1)(x2:VR gv Θ H.n v2 c2) :
 wpAny (model pg w) A (binaryOp .Add c1 c2) Q E s:=by
 refine U6 (I9 h) x1 λi hi h=>U6 h x2 λj hj h=>?_
 refine A1 (bi (I9 (G1 h))) λo1 e1 h=>?_
 haveI r1:=a.st.is hi e1
 revert r1
 refine Q6 h λxs h r1=>?_
 refine A1 (bi h) λo2 e2 h=>?_
 haveI r2:=a.st.is hj e2
 revert r2
 refine Q6 h λys h r2=>?_
 refine B4 r1 λvs ep l1 v1=>?_
 refine B4 r2 λws ep2 l2 v2=>?_
 obtain⟨z,hk⟩:=B0 h
 replace hk:=G1 hk
 rw[B4o] at hk z
 haveI v3:=v1.app v2
 rw[C8,decide_eq_true_eq,D0,v3.len,List.length_append,Array.length_toList,Array.length_toList] at z
 refine PySem.P.add_list l1 l2 ?_ (by rw[sizeLine_eq];refine Z0c (by assumption) ?_;decide)
 haveI e3:vs ++ ws=(vs.toList ++ ws.toList).toArray:=by apply Z5k.mp;simp
 refine re e3 ?_
 exact A78 a pk hk rfl λΘ' e up=>OR.newList v3 e up
theorem C6g[Og s og]{o:Operator}{op:Bop}{e1 e2:Expr}{p:Pos}{x1 x2:X}{fu:Nat}(hr:SoAll og w T cc gv A0 pc K D U r n)(ho:cOp o=some op)(hc1:cE cc env.scope.names fu e1=some x1)(hc2:cE cc env.scope.names fu e2=some x2)
 (h:B31 r op x1 x2 l H k kx=true) (cx:Cx D U n A env outer)
 (a:At gv (A2 T cc) A0 Θ H l env outer s.heap) (pk:PK og gv (A2 T cc) A0 Θ H l env outer s.heap k Q) (px:PX og gv (A2 T cc) A0 pc noX Θ H env outer s.heap kx E):wpAny (model pg w) A (eval (.BinOp e1 o e2 p) env) Q E s:=by
 refine Z1t (hr.e _ _ _ _ _ _ _ _ _ _ _ _ _ _ hc1 h cx a ?_ px)
 intro v1 H1 hk1 Θ1 c1 s1 xx1 a1 vr1 J
 refine hr.e _ _ _ _ _ _ _ _ _ _ _ _ _ _ hc2 hk1 cx a1 ?_ (px.on xx1)
 intro v2 H2 hk2 Θ2 c2 s2 xx2 a2 vr2 J
 refine(bBb (show bB (A8y op v1) (A7n v1 v2 H2 k) (opK (A9i op v1 v2) H2 k)=true from hk2)).elim (λh=>?_) λh=>?_
 . obtain rfl:=D64 h.1
   exact A1r ho▸D0w h.2 a2 ((pk.on xx1).on xx2) (vr1.ext xx2) vr2
 . refine A1 (T2 h) λv e hk=>?_
   exact C1o ho e a2.st.gh (vr1.ext xx2) vr2 λcv tk vr=>((pk.on xx1).on xx2).here (s:=s2) a2 hk (λJ J e=>e) (Z0g _) vr
theorem A54{o:Expr}{attr:Str}{env:Env}{m:Sem Value}(h:isSuper o=false):attributeBase o attr env m=m:=by
 cases o <;> first | rfl | skip
 rename_i f as ks p;cases f <;> first | rfl | skip
 cases as <;> first | rfl | skip
 cases ks <;> first | rfl | exact ff h.symm
theorem VR.handed{v:V}{cv:Value}{m:Nat}(G:GT w T cc gv mg mb A0 K)(vr:VR gv Θ m v cv):handedIn cv=true:=by
 cases v with
 |none=>subst vr;rfl
 |bool b=>subst vr;rfl
 |int i=>obtain⟨t,rfl⟩:=vr;rfl
 |lin g j=>obtain⟨_,t,rfl⟩:=vr;rfl
 |pl g j=>obtain⟨_,t,rfl⟩:=vr;rfl
 |tlen g m=>obtain⟨_,t,rfl⟩:=vr;rfl
 |str x=>obtain⟨t,rfl⟩:=vr;rfl
 |txt g x o=>obtain⟨_,t,rfl⟩:=vr;rfl
 |anyS=>obtain⟨x,t,rfl,_⟩:=vr;rfl
 |bytes b=>obtain⟨t,rfl⟩:=vr;rfl
 |glob j=>obtain⟨a,rfl⟩:=G.ref _ _ vr;rfl
 |bi j=>exact Z1n.mp (show biL.all handedIn=true by decide) _ (Z1p vr)
 |ref i=>obtain⟨_,rfl⟩:=vr;rfl
 |wd i j=>obtain⟨_,_,rfl⟩:=vr;rfl
 |wl i j=>obtain⟨_,t,rfl⟩:=vr;rfl
inductive InstR(T:Tabs)(cc:CC)(gv:Nat->Option Value)(K:Frag)(Θ:Th)(n:Nat)(h:Heap)(co:Value)(c:Nat)(fx:List (Nat × V)):Prop
 |mk (x C dx:Addr) (m:Str->Option Value) (cl:Cl) (e:co= .ref x) (g0:BtG T.cls (c+1)=some cl) (CO:ClsOk gv cc K cl C) (z:x≠dx) (g1:gv c=some (.ref C)) (g2:h.get? x=some (instObj C dx)) (g3:h.Ns1 dx m) (g4:H8 gv (A2 T cc) Θ n fx m)
theorem A32{c:Nat}{fx:List (Nat × V)}{h:Heap}{x C dx:Addr}{m:Str->Option Value}{n:Nat}(G:GT w T cc gv mg mb A0 K)(z:x≠dx)(g1:gv c=some (.ref C))(g2:h.get? x=some (instObj C dx))(g3:h.Ns1 dx m)(g4:H8 gv (A2 T cc) Θ n fx m)(hc:(A2 T cc).cls c):InstR T cc gv K Θ n h (.ref x) c fx:=by
 obtain⟨cl,g5⟩:=hc;refine A1 (G.cls _ _ g5) λC' g1' CO=>?_;haveI eC:C=C':=by rw[g1] at g1';injection g1' with g1';injection g1'
 rw[<-eC] at CO;exact⟨x,C,dx,m,cl,rfl,g5,CO,z,g1,g2,g3,g4⟩
theorem A6p{v:V}{cv:Value}{c:Nat}{fx:List (Nat × V)}{fs:List Env}{h:Heap}(G:GT w T cc gv mg mb A0 K)(S:St gv (A2 T cc) A0 Θ H fs h)(vr:VR gv Θ H.n v cv)(e:Z6 H v=some (c,fx)):InstR T cc gv K Θ H.n h cv c fx:=by
 refine(or2 e).elim (λe=>?_) λe=>?_
 . refine U6 e vr λi hi e=>?_;refine A1 (bi e) λo eo e=>?_;haveI r:=S.is hi eo;revert r;refine A2q e λc' fs e r=>?_;obtain⟨C,m,z,g1,g2,g3,g4,g5⟩:=r;obtain⟨rfl,rfl⟩:=Prod.mk.inj (Z0a e);exact A32 G z g1 g2 g3 g4 g5
 . revert vr;refine C3n e λi j e vr=>?_;refine A7 vr λhi hj q'3=>?_;clear vr;subst q'3;obtain⟨o,eo,e⟩:=bi e;have r:=S.is hi eo;revert r;refine A2v e λc' ws t e r=>?_;refine A1 (mi e) λfs e2 e=>?_;obtain⟨rfl,rfl⟩:=Prod.mk.inj e;obtain⟨c1,c2,vs,ep,path,l1,l2,l3,l4,l5,l6⟩:=r;rw[A1h] at e2;obtain⟨C,m,z,g1,g2,g3,g4⟩:=(l6 j fs (by rw[Z1l (Z1m.mp e2).1];exact e2));exact A32 G z g1 g2 g3 g4 c1
theorem H8.at{fx:List (Nat × V)}{m:Str->Option Value}{x:Str}{i:Nat}{n':Nat}(F:H8 gv (A2 T cc) Θ n' fx m)(hp:B9 x cc.attrs 0=some i):(match lkG i fx with | some v=>∃cv,m x=some cv/\VR gv Θ n' v cv | none=>m x=none):=by
 haveI:=F x;haveI e:B9 x (A2 T cc).ns 0=some i:=hp;rw[e] at this;exact this
theorem C0c[Og s og](G:GT w T cc gv mg mb A0 K){o:Expr}{name:Str}{i:Nat}{p:Pos}{xx:X}{fu:Nat}(hr:SoAll og w T cc gv A0 pc K D U r n)(hsu:isSuper o=false)(hp:B9 name cc.attrs 0=some i)(hi12:i≠12)(hc:cE cc env.scope.names fu o=some xx)
 (h:r.e xx l H (λov h=>B0c i ov h k) kx=true) (cx:Cx D U n A env outer)
 (a:At gv (A2 T cc) A0 Θ H l env outer s.heap) (pk:PK og gv (A2 T cc) A0 Θ H l env outer s.heap k Q) (px:PX og gv (A2 T cc) A0 pc noX Θ H env outer s.heap kx E):wpAny (model pg w) A (eval (.Attribute o name p) env) Q E s:=by
 rw[arm_eval_Attribute,A54 hsu]
 refine Z0d (hr.e _ _ _ _ _ _ _ _ _ _ _ _ _ _ hc h cx a ?_ px)
 intro v1 H1 hk1 Θ1 c1 s1 xx1 a1 vr1 J
 refine A1 (R0 (show oB (Z6 H1 v1) false (λp=>opK (lkG i p.2) H1 k)=true from hk1)) λq'6 e hk2=>?_
 rcases q'6 with⟨c,fx⟩
 refine A1 (T2 hk2) λv ev hk=>?_
 obtain⟨x,C,dx,m,cl,rfl,g0,CO,z,g1,g2,g3,g4⟩:=A6p G a1.st vr1 e
 haveI:=g4.at hp
 rw[show lkG i fx=some v from ev] at this
 refine A1 this λcv m1 vr=>?_
 refine Z0d (Z1r (Z0d (Z1b ?_)))
 refine B73 (G.kin.keeps a1.st.stays) CO.k g2 g3 m1 (CO.soft _ _ hp hi12) (vr.handed G) ?_
 exact Z0d (Z3a (Z0f ((pk.on xx1).here (s:=s1) a1 hk (λJ J e=>e) (Z0g _) vr)))
theorem C3c[Og s og]{pos:Pos}{kk:List V->Hp->Bool}{QQ:List Value->Shared->Prop}(h:kk [] H=true)(a:At gv (A2 T cc) A0 Θ H l env outer s.heap)(pk:PKs og gv (A2 T cc) A0 Θ H l env outer s.heap kk QQ) :
 wpAny (model pg w) A (spliced (backTo pos (starEach [] env))) QQ E s:=
 Z0x (pk _ _ h _ _ _ Ext.refl a trivial)
theorem A4t{e:Expr}{es:List Expr}(h:B7 e=false):starEach (e :: es) env=(false,eval e env) :: starEach es env:=by
 cases e <;> first | rfl | (cases h;done)
theorem D3y[Og s og]{e:Expr}{es:List Expr}{pos:Pos}{x1 x2:X}{fu:Nat}{kk:List V->Hp->Bool}{QQ:List Value->Shared->Prop}(hr:SoAll og w T cc gv A0 pc K D U r n)(hc1:cE cc env.scope.names fu e=some x1)(hc2:xl (es.map (cE cc env.scope.names fu))=some x2)
 (h1:B7 e=false) (h2:es.any B7=false)
 (h:r.e x1 l H (λv h=>r.es x2 l h (λvs h=>kk (v :: vs) h) kx) kx=true) (cx:Cx D U n A env outer)
 (a:At gv (A2 T cc) A0 Θ H l env outer s.heap) (pk:PKs og gv (A2 T cc) A0 Θ H l env outer s.heap kk QQ) (px:PX og gv (A2 T cc) A0 pc noX Θ H env outer s.heap kx E):wpAny (model pg w) A (spliced (backTo pos (starEach (e :: es) env))) QQ E s:=by
 refine re (A4t h1) ?_
 refine Z0n (hr.e _ _ _ _ _ _ _ _ _ _ _ _ _ _ hc1 h cx a ?_ px)
 intro v1 H1 hk1 Θ1 c1 s1 xx1 a1 vr1 J
 refine hr.es _ _ _ _ _ _ _ _ _ _ _ _ _ _ _ hc2 h2 hk1 cx a1 ?_ (px.on xx1)
 intro vs H2 hk2 Θ2 cvs s2 xx2 a2 vr2 J
 exact pk _ _ hk2 _ _ _ (xx1.trans xx2) a2 ⟨vr1.ext xx2,vr2⟩
end
section
variable{K:Frag}{D U:Nat}
variable{k:Bool->Hp->Bool}{kx:MineE.K}{Q:Bool->Shared->Prop}
theorem C86[Og s og]{e1 e2:Expr}{rest:List Expr}{p:Pos}{wh:Sem Value}{x1 x2:X}{fu:Nat}(hr:SoAll og w T cc gv A0 pc K D U r n)(hc1:cE cc env.scope.names fu e1=some x1)(hc2:Q3 .and ((e2 :: rest).map (cE cc env.scope.names fu))=some x2)
 (h:r.t x1 l H (λb h=>bB b (r.t x2 l h k kx) (k false h)) kx=true) (cx:Cx D U n A env outer)
 (a:At gv (A2 T cc) A0 Θ H l env outer s.heap) (pk:PKt og gv (A2 T cc) A0 Θ H l env outer s.heap k Q) (px:PX og gv (A2 T cc) A0 pc noX Θ H env outer s.heap kx E):wpAny (model pg w) A (isTrue (.BoolOp .And (e1 :: e2 :: rest) p) env wh) Q E s:=by
 refine Z4n (hr.t _ _ _ _ _ _ _ _ _ _ _ _ _ _ hc1 h cx a ?_ px)
 intro b H1 hk1 Θ1 s1 xx1 a1 J
 cases b with
 |false=>exact(pk.on xx1).here a1 hk1 (λJ J e=>e) (Z0g _)
 |true=>exact hr.t (fu+1) (.BoolOp .And (e2 :: rest) p) _ _ _ _ _ _ _ _ _ _ _ _ hc2 hk1 cx a1 (pk.on xx1) (px.on xx1)
theorem C0u[Og s og]{e1 e2:Expr}{rest:List Expr}{p:Pos}{wh:Sem Value}{x1 x2:X}{fu:Nat}(hr:SoAll og w T cc gv A0 pc K D U r n)(hc1:cE cc env.scope.names fu e1=some x1)(hc2:Q3 .or ((e2 :: rest).map (cE cc env.scope.names fu))=some x2)
 (h:r.t x1 l H (λb h=>bB b (k true h) (r.t x2 l h k kx)) kx=true) (cx:Cx D U n A env outer)
 (a:At gv (A2 T cc) A0 Θ H l env outer s.heap) (pk:PKt og gv (A2 T cc) A0 Θ H l env outer s.heap k Q) (px:PX og gv (A2 T cc) A0 pc noX Θ H env outer s.heap kx E):wpAny (model pg w) A (isTrue (.BoolOp .Or (e1 :: e2 :: rest) p) env wh) Q E s:=by
 refine isTrue_or (hr.t _ _ _ _ _ _ _ _ _ _ _ _ _ _ hc1 h cx a ?_ px)
 intro b H1 hk1 Θ1 s1 xx1 a1 J
 cases b with
 |true=>exact(pk.on xx1).here a1 hk1 (λJ J e=>e) (Z0g _)
 |false=>exact hr.t (fu+1) (.BoolOp .Or (e2 :: rest) p) _ _ _ _ _ _ _ _ _ _ _ _ hc2 hk1 cx a1 (pk.on xx1) (px.on xx1)
theorem C81[Og s og]{e1:Expr}{p:Pos}{wh:Sem Value}{x1:X}{fu:Nat}(hr:SoAll og w T cc gv A0 pc K D U r n)(hc1:cE cc env.scope.names fu e1=some x1)
 (h:r.t x1 l H (λb h=>k (Q2 b) h) kx=true) (cx:Cx D U n A env outer)
 (a:At gv (A2 T cc) A0 Θ H l env outer s.heap) (pk:PKt og gv (A2 T cc) A0 Θ H l env outer s.heap k Q) (px:PX og gv (A2 T cc) A0 pc noX Θ H env outer s.heap kx E):wpAny (model pg w) A (isTrue (.UnaryOp .Not e1 p) env wh) Q E s:=by
 refine isTrue_not (hr.t _ _ _ _ _ _ _ _ _ _ _ _ _ _ hc1 h cx a ?_ px)
 intro b H1 hk1 Θ1 s1 xx1 a1 J
 haveI hk1:k (Q2 b) H1=true:=hk1
 rw[A2u] at hk1
 exact(pk.on xx1).here a1 hk1 (λJ J e=>e) (Z0g _)
theorem D5b[Og s og]{e0 e1 e2:Expr}{p:Pos}{wh:Sem Value}{x0 x1 x2:X}{fu:Nat}(hr:SoAll og w T cc gv A0 pc K D U r n)(hc0:cE cc env.scope.names fu e0=some x0)(hc1:cE cc env.scope.names fu e1=some x1)(hc2:cE cc env.scope.names fu e2=some x2)
 (h:r.t x0 l H (λc h=>bB c (r.t x1 l h k kx) (r.t x2 l h k kx)) kx=true) (cx:Cx D U n A env outer)
 (a:At gv (A2 T cc) A0 Θ H l env outer s.heap) (pk:PKt og gv (A2 T cc) A0 Θ H l env outer s.heap k Q) (px:PX og gv (A2 T cc) A0 pc noX Θ H env outer s.heap kx E):wpAny (model pg w) A (isTrue (.IfExp e0 e1 e2 p) env wh) Q E s:=by
 refine isTrue_IfExp (hr.t _ _ _ _ _ _ _ _ _ _ _ _ _ _ hc0 h cx a ?_ px)
 intro b H1 hk1 Θ1 s1 xx1 a1 J
 cases b with
 |true=>exact hr.t _ _ _ _ _ _ _ _ _ _ _ _ _ _ hc1 hk1 cx a1 (pk.on xx1) (px.on xx1)
 |false=>exact hr.t _ _ _ _ _ _ _ _ _ _ _ _ _ _ hc2 hk1 cx a1 (pk.on xx1) (px.on xx1)
theorem C5i[Og s og](G:GT w T cc gv mg mb A0 K)(hU:U<cLine){op:CmpOp}{e1 e2:Expr}{p:Pos}{wh:Sem Value}{x1 x2:X}{fu:Nat}(hr:SoAll og w T cc gv A0 pc K D U r n)(hs:isSetE e2=false)(hc1:cE cc env.scope.names fu e1=some x1)(hc2:cE cc env.scope.names fu e2=some x2)
 (h:A4l T r x1 (cCp op) x2 l H k kx=true) (cx:Cx D U n A env outer)
 (a:At gv (A2 T cc) A0 Θ H l env outer s.heap) (pk:PKt og gv (A2 T cc) A0 Θ H l env outer s.heap k Q) (px:PX og gv (A2 T cc) A0 pc noX Θ H env outer s.heap kx E):wpAny (model pg w) A (isTrue (.Compare e1 [op] [e2] p) env wh) Q E s:=by
 refine Z1q (hr.e _ _ _ _ _ _ _ _ _ _ _ _ _ _ hc1 h cx a ?_ px) (A5c hs)
 intro v1 H1 hk1 Θ1 c1 s1 xx1 a1 vr1 J
 refine hr.e _ _ _ _ _ _ _ _ _ _ _ _ _ _ hc2 hk1 cx a1 ?_ (px.on xx1)
 intro v2 H2 hk2 Θ2 c2 s2 xx2 a2 vr2 J
 refine A1 (Z0 hk2) λb e hk=>?_
 exact A0p G a2.st (cx.ca.cline hU) e (vr1.ext xx2) vr2 λtk=>Z1a (((pk.on xx1).on xx2).here (s:=s2) a2 hk (λJ J e=>e) (Z0g _))
theorem C9i[Og s og](G:GT w T cc gv mg mb A0 K)(hU:U<cLine){op op2:CmpOp}{e1 e2 e3:Expr}{p:Pos}{wh:Sem Value}{x1 x2 x3:X}{fu:Nat}(hr:SoAll og w T cc gv A0 pc K D U r n)(hs:isSetE e3=false)(hc1:cE cc env.scope.names fu e1=some x1)(hc2:cE cc env.scope.names fu e2=some x2)(hc3:cE cc env.scope.names fu e3=some x3)
 (h:A5z T r x1 (cCp op) x2 (cCp op2) x3 l H k kx=true) (cx:Cx D U n A env outer)
 (a:At gv (A2 T cc) A0 Θ H l env outer s.heap) (pk:PKt og gv (A2 T cc) A0 Θ H l env outer s.heap k Q) (px:PX og gv (A2 T cc) A0 pc noX Θ H env outer s.heap kx E):wpAny (model pg w) A (isTrue (.Compare e1 [op,op2] [e2,e3] p) env wh) Q E s:=by
 refine isTrue_chain (hr.e _ _ _ _ _ _ _ _ _ _ _ _ _ _ hc1 h cx a ?_ px) (by show behindInMarks op2 e3=false;exact A5c hs)
 intro v1 H1 hk1 Θ1 c1 s1 xx1 a1 vr1 J
 refine test_link (hr.e _ _ _ _ _ _ _ _ _ _ _ _ _ _ hc2 hk1 cx a1 ?_ (px.on xx1))
 intro v2 H2 hk2 Θ2 c2 s2 xx2 a2 vr2 J
 refine A1 (Z0 hk2) λb e hk=>?_
 refine A0p G a2.st (cx.ca.cline hU) e (vr1.ext xx2) vr2 λtk=>Z1a ?_
 cases b with
 |false=>exact((pk.on xx1).on xx2).here (s:=s2) a2 hk (λJ J e=>e) (Z0g _)
 |true=>
  refine test_last (hr.e _ _ _ _ _ _ _ _ _ _ _ _ _ _ hc3 hk cx a2 ?_ ((px.on xx1).on xx2));intro v3 H3 hk3 Θ3 c3 s3 xx3 a3 vr3 J;refine A1 (Z0 hk3) λb e hk=>?_;exact A0p G a3.st (cx.ca.cline hU) e (vr2.ext xx3) vr3 λtk=>Z1a ((((pk.on xx1).on xx2).on xx3).here (s:=s3) a3 hk (λJ J e=>e) (Z0g _))
theorem D3h[Og s og]{e:Expr}{x:X}{fu:Nat}(hr:SoAll og w T cc gv A0 pc K D U r n)(hc:cE cc env.scope.names fu e=some x)
 (h:tE r x l H k kx=true) (cx:Cx D U n A env outer)
 (a:At gv (A2 T cc) A0 Θ H l env outer s.heap) (pk:PKt og gv (A2 T cc) A0 Θ H l env outer s.heap k Q) (px:PX og gv (A2 T cc) A0 pc noX Θ H env outer s.heap kx E)
 (he:isTrue e env (eval e env)=(do let v<-eval e env;standAt e.pos;holding [v] (PySem.truthy v))):wpAny (model pg w) A (isTrue e env (eval e env)) Q E s:=by
 refine isTrue_plain (hr.e _ _ _ _ _ _ _ _ _ _ _ _ _ _ hc h cx a ?_ px) he
 intro v H1 hk1 Θ1 c1 s1 xx1 a1 vr1 J
 refine A1 (Z0 hk1) λb e hk=>?_
 obtain rfl:=A6h e
 subst vr1
 exact Z1a ((pk.on xx1).here a1 hk (λJ J e=>e) (Z0g _))
theorem A09{f:X->X}{o:Option X}{x:X}(h:x1 f o=some x):∃a,o=some a/\x=f a:=by
 cases o with
 |none=>exact nn h
 |some a=>replace h:=Z0a h;subst h;exact A6 a rfl rfl
theorem A1e{f:X->X->X}{o q:Option X}{x:X}(h:x2 f o q=some x):∃a b,o=some a/\q=some b/\x=f a b:=by
 refine A1 (bi h) λa h1 h=>?_;refine A1 (bi h) λb h2 h=>?_;exact V7 a b h1 h2 ((Z0a h).symm)
theorem A8g{f:X->X->X->X}{o q z:Option X}{x:X}(h:x3 f o q z=some x):∃a b c,o=some a/\q=some b/\z=some c/\x=f a b c:=by
 refine A1 (bi h) λa h1 h=>?_;refine A1 (bi h) λb h2 h=>?_;refine A1 (bi h) λc h3 h=>?_;exact X6 a b c h1 h2 h3 ((Z0a h).symm)
theorem C8q{f:X->X->X}{c:Expr->Option X}{vs:List Expr}{x:X}(h:Q3 f (vs.map c)=some x):(∃e,vs= [e]/\c e=some x)\/∃e1 e2 rest a b,vs=e1 :: e2 :: rest/\c e1=some a/\Q3 f ((e2 :: rest).map c)=some b/\x=f a b:=by
 cases vs with
 |nil=>exact nn h
 |cons e1 vs=>cases vs with
  |nil=>exact .inl ⟨e1,rfl,h⟩
  |cons e2 rest=>
   refine A1 (bi h) λa q h=>?_;refine A1 (bi h) λb q2 h=>?_;exact .inr ⟨e1,e2,rest,a,b,rfl,q,q2,(Z0a h).symm⟩
end
section
variable{K:Frag}{D U:Nat}
theorem C7v{k:Const}{x:X}(h:B3q k=some x):∃v,X5 k=some v/\x= .const v:=by
 refine A1 (bi h) λv e h=>?_;exact A6 v e ((Z0a h).symm)
theorem B9l{op:Operator}{a b:Option X}{x:X}(h:B0i op a b=some x):∃o xa xb,cOp op=some o/\a=some xa/\b=some xb/\x= .bin o xa xb:=by
 refine A1 (bi h) λo e h=>?_;refine F9 (A1e h) λxa xb h=>?_;exact A31 o xa xb e h
theorem D2o{op:UnaryOp}{a:Option X}{x:X}(h:cUn op a=some x):(op= .Not/\∃xa,a=some xa/\x= .not xa)\/(op= .USub/\∃xa,a=some xa/\x= .neg xa):=by
 cases op <;> first | (exact nn h;done) | skip
 . exact .inl ⟨rfl,A09 h⟩
 . exact .inr ⟨rfl,A09 h⟩
theorem V5{c:Bool}{o:Option X}{x:X}(h:(if c then none else o)=some x):c=false/\o=some x:=by cases c <;> first | exact⟨rfl,h⟩ | exact nn h
theorem D0s{g:Expr->Option X}{a:Expr}{ops:List CmpOp}{bs:List Expr}{x:X}(h:B7t g a ops bs=some x) :
 (∃op b xa xb,ops= [op]/\bs= [b]/\isSetE b=false/\g a=some xa/\g b=some xb/\x= .cmp xa (cCp op) xb)\/
 (∃op op2 b d xa xb xd,ops= [op,op2]/\bs= [b,d]/\isSetE d=false/\g a=some xa/\g b=some xb/\g d=some xd/\x= .chain xa (cCp op) xb (cCp op2) xd):=by
 obtain h | h:=or2 h
 . refine .inl (M6 h λop h=>M6 h λb h=>?_)
   obtain⟨q,h⟩:=V5 h
   refine F9 (A1e h) λxa xb h=>?_
   exact B2c op b xa xb rfl rfl q h
 . refine .inr (Q5 h λop op2 h=>Q5 h λb d h=>?_)
   obtain⟨q,h⟩:=V5 h
   refine B7c (A8g h) λxa xb xd h=>?_
   exact D6i op op2 b d xa xb xd rfl rfl ((Bool.or_eq_false_iff.mp q).2) h
noncomputable def A2f(x:X):Bool:=match x with | .and _ _=>false | .or _ _=>false | .not _=>false | .ite _ _ _=>false | .cmp _ _ _=>false | .chain _ _ _ _ _=>false | _=>true
theorem D8f{T:Tabs}{r:Rec}{x:X}{l:Loc}{h:Hp}{k:Bool->Hp->Bool}{kx:MineE.K}(hx:A2f x=true):stT T r x l h k kx=tE r x l h k kx:=by
 cases x <;> first | rfl | (exact ff hx;done)
inductive CallR(c:CC)(g:Expr->Option X)(x:X)(pos:Pos):Expr->List Expr->List Keyword->Prop
 |dget (ks:List (Option Expr)) (vs:List Expr) (p ap:Pos) (n:Str) (e d:Expr) (es:List (V × V)) (xe xd:X) (hn:E0 n A8b=true) (h1:B7 e=false) (h2:B7 d=false) (hp:(ap.endLine==pos.line)=true)
  (hd:A3j ks vs=some es) (he:g e=some xe) (hdd:g d=some xd) (hx:x= .dget es xe xd):CallR c g x pos (.Attribute (.Dict ks vs p) n ap) [e,d] []
 |meth (o:Expr) (n:Str) (ap:Pos) (as:List Expr) (i:Nat) (xo xa:X) (h1:as.any B7=false) (h2:isSuper o=false) (h3:as.length<=25) (hp:(ap.endLine==pos.line)=true) (hi:B9 n c.attrs 0=some i)
  (ho:g o=some xo) (ha:xl (as.map g)=some xa) (hx:x= .meth xo i xa):CallR c g x pos (.Attribute o n ap) as []
 |fold (z:Str) (kz:Nat) (pz:Pos) (n:Str) (ap:Pos) (elt it:Expr) (y:Str) (py lp:Pos) (sc:Scope) (xi:X) (hz:E0 z Str.empty=true) (hn:E0 n (Str.ofString "join")=true) (he:A3q y elt=true) (hs:A4j y sc=true) (hi:isSetE it=false) (hp:(ap.endLine==pos.line)=true)
  (h1:g it=some xi) (hx:x= .fold xi):CallR c g x pos (.Attribute (.Constant (.str z) kz pz) n ap) [.ListComp elt [⟨.Name y py,it,[],0⟩] sc lp] []
 |fn (y:Str) (p:Pos) (as:List Expr) (xo xa:X) (h1:as.any B7=false) (ho:g (.Name y p)=some xo) (ha:xl (as.map g)=some xa) (hx:x= .call xo xa):CallR c g x pos (.Name y p) as []
theorem D0c{c:CC}{g:Expr->Option X}{o:Expr}{n:Str}{ap pos:Pos}{as:List Expr}{x:X}(h:B5f c g o n ap as pos=some x):CallR c g x pos (.Attribute o n ap) as []:=by
 refine A8 (V5 h) λq h=>?_;refine A1 (bi h) λi e h=>?_;refine F8 (A1e h) λxo xa h1 h2 h3=>?_;simp only[Bool.or_eq_false_iff,decide_eq_false_iff_not,Bool.not_eq_false'] at q;exact .meth o n ap as i xo xa q.1.1.1 q.1.1.2 (Nat.le_of_not_lt q.1.2) q.2 e h1 h2 h3
theorem D0b{c:CC}{g:Expr->Option X}{o:Expr}{n:Str}{ap pos:Pos}{as:List Expr}{x:X}(h:B1r g o n ap as pos=some x):CallR c g x pos (.Attribute o n ap) as []:=by
 refine A1 (bi h) λz hz h=>?_;refine A9j hz λkz pz=>M6 h λa h=>D8g h λelt gs sc lp h=>M6 h λq h=>?_;obtain⟨tg,it,ifs,asy⟩:=q;change I8 tg _=_ at h;refine A0u h λy py h=>?_;obtain⟨q,h⟩:=ift h;simp only[Bool.and_eq_true,Bool.not_eq_true',List.isEmpty_iff,decide_eq_true_eq] at q;obtain⟨⟨rfl,rfl⟩,q⟩:=q;refine A1 (A09 h) λxi h1 q'4=>?_;subst q'4;exact .fold _ _ _ _ _ _ _ _ _ _ _ xi q.1.1.1.1.1 q.1.1.1.1.2 q.1.1.1.2 q.1.1.2 q.1.2 q.2 h1 rfl
theorem D16{c:CC}{g:Expr->Option X}{fn:Expr}{as:List Expr}{kws:List Keyword}{pos:Pos}{x:X}(h:B0u c g fn as kws pos=some x):CallR c g x pos fn as kws:=by
 obtain⟨hk,h⟩:=ift h;obtain rfl:=List.isEmpty_iff.mp hk;obtain h | h:=or2 h
 . refine A41 h λo n ap h=>?_;obtain h | h:=or2 h
   . refine C55 h λks vs p h=>Q5 h λe d h=>?_;obtain⟨q,h⟩:=ift h;simp only[Bool.and_eq_true,Bool.not_eq_true'] at q;refine A1 (bi h) λes e1 h=>?_;refine F8 (A1e h) λxa xb h1 h2 h3=>?_;exact .dget ks vs p ap n e d es xa xb q.1.1.1 q.1.1.2 q.1.2 q.2 e1 h1 h2 h3
   obtain h | h:=or2 h
   . exact D0b h
   . exact D0c h
 . refine A0u h λy p h=>?_;obtain⟨q,h⟩:=V5 h;refine F8 (A1e h) λxo xa h1 h2 h3=>?_;exact .fn y p as xo xa (Bool.or_eq_false_iff.mp q).1 h1 h2 h3
theorem CallR.plain{c:CC}{g:Expr->Option X}{x:X}{pos:Pos}{fn:Expr}{as:List Expr}{kws:List Keyword}(h:CallR c g x pos fn as kws):A2f x=true:=by
 cases h <;> (subst_vars;rfl)
theorem C70{c:CC}{g:Expr->Option X}{o:Expr}{n:Str}{x:X}(h:B05 c g o n=some x):∃i xo,isSuper o=false/\B9 n c.attrs 0=some i/\i≠12/\g o=some xo/\x= .attr xo i:=by
 refine A8 (V5 h) λq h=>?_;refine A1 (bi h) λi e h=>?_;obtain⟨q2,h⟩:=V5 h;refine A1 (A09 h) λxo h1 h2=>?_;exact⟨i,xo,q,e,(λz=>by subst z;cases q2),h1,h2⟩
inductive SubR(g:Expr->Option X)(o:Expr)(x:X):Expr->Prop
 |slc (lo hi:Option Expr) (p:Pos) (x1 x2 x3:X) (h1:g o=some x1) (h2:Y9 g lo=some x2) (h3:Y9 g hi=some x3) (hx:x= .slc x1 x2 x3):SubR g o x (.Slice lo hi none p)
 |sub (i:Expr) (x1 x2:X) (h1:g o=some x1) (h2:g i=some x2) (hx:x= .sub x1 x2):SubR g o x i
theorem D3a{g:Expr->Option X}{o i:Expr}{x:X}(h:B4i g o i=some x):SubR g o x i:=by
 obtain h | h:=or2 h
 . refine C5t h λlo hi st p h=>?_;obtain⟨q,h⟩:=ift h;refine R9 (A8g h) λx1 x2 x3 h1 h2 h3 h4=>?_;obtain rfl:=Option.isNone_iff_eq_none.mp q;exact .slc lo hi p x1 x2 x3 h1 h2 h3 h4
 . refine F8 (A1e h) λx1 x2 h1 h2 h3=>?_;exact .sub _ x1 x2 h1 h2 h3
theorem D33{c:CC}{ns:Ns}{y:Str}{x:X}(h:A1d c ns y=some x):A2f x=true:=by
 exact(A8u h).elim (λh=>A1 h λJ J h=>h▸rfl) λh=>F8 h λJ J J J h=>h▸rfl
inductive ER(c:CC)(ns:Ns)(fu:Nat):Expr->X->Prop
 |const {k:Const} {kd:Nat} {p:Pos} {v:V} (h:X5 k=some v):ER c ns fu (.Constant k kd p) (.const v)
 |name {y:Str} {p:Pos} {x:X} (h:A1d c ns y=some x):ER c ns fu (.Name y p) x
 |one {op:BoolOp} {e:Expr} {p:Pos} {x:X} (h:cE c ns fu e=some x):ER c ns fu (.BoolOp op [e] p) x
 |and {e1 e2:Expr} {rest:List Expr} {p:Pos} {x1 x2:X} (h1:cE c ns fu e1=some x1) (h2:Q3 .and ((e2 :: rest).map (cE c ns fu))=some x2):ER c ns fu (.BoolOp .And (e1 :: e2 :: rest) p) (.and x1 x2)
 |or {e1 e2:Expr} {rest:List Expr} {p:Pos} {x1 x2:X} (h1:cE c ns fu e1=some x1) (h2:Q3 .or ((e2 :: rest).map (cE c ns fu))=some x2):ER c ns fu (.BoolOp .Or (e1 :: e2 :: rest) p) (.or x1 x2)
 |not {e:Expr} {p:Pos} {x1:X} (h:cE c ns fu e=some x1):ER c ns fu (.UnaryOp .Not e p) (.not x1)
 |neg {e:Expr} {p:Pos} {x1:X} (h:cE c ns fu e=some x1):ER c ns fu (.UnaryOp .USub e p) (.neg x1)
 |bin {e1 e2:Expr} {op:Operator} {p:Pos} {o:Bop} {x1 x2:X} (ho:cOp op=some o) (h1:cE c ns fu e1=some x1) (h2:cE c ns fu e2=some x2):ER c ns fu (.BinOp e1 op e2 p) (.bin o x1 x2)
 |ite {e0 e1 e2:Expr} {p:Pos} {x0 x1 x2:X} (h0:cE c ns fu e0=some x0) (h1:cE c ns fu e1=some x1) (h2:cE c ns fu e2=some x2):ER c ns fu (.IfExp e0 e1 e2 p) (.ite x0 x1 x2)
 |cmp {e1 e2:Expr} {op:CmpOp} {p:Pos} {x1 x2:X} (q:isSetE e2=false) (h1:cE c ns fu e1=some x1) (h2:cE c ns fu e2=some x2):ER c ns fu (.Compare e1 [op] [e2] p) (.cmp x1 (cCp op) x2)
 |chain {e1 e2 e3:Expr} {op op2:CmpOp} {p:Pos} {x1 x2 x3:X} (q:isSetE e3=false) (h1:cE c ns fu e1=some x1) (h2:cE c ns fu e2=some x2) (h3:cE c ns fu e3=some x3):ER c ns fu (.Compare e1 [op,op2] [e2,e3] p) (.chain x1 (cCp op) x2 (cCp op2) x3)
 |call {fn:Expr} {as:List Expr} {kws:List Keyword} {p:Pos} {x:X} (h:CallR c (cE c ns fu) x p fn as kws):ER c ns fu (.Call fn as kws p) x
 |attr {o:Expr} {y:Str} {p:Pos} {i:Nat} {xo:X} (h1:isSuper o=false) (h2:B9 y c.attrs 0=some i) (h3:i≠12) (h4:cE c ns fu o=some xo):ER c ns fu (.Attribute o y p) (.attr xo i)
 |sub {o i:Expr} {p:Pos} {x:X} (h:SubR (cE c ns fu) o x i):ER c ns fu (.Subscript o i p) x
 |list {es:List Expr} {p:Pos} {x1:X} (q:es.any B7=false) (h:xl (es.map (cE c ns fu))=some x1):ER c ns fu (.List es p) (.list x1)
 |tuple {es:List Expr} {kd:Nat} {p:Pos} {x1:X} (q:es.any B7=false) (h:xl (es.map (cE c ns fu))=some x1):ER c ns fu (.Tuple es kd p) (.tuple x1)
theorem A70{c:CC}{ns:Ns}{fu:Nat}{e:Expr}{x:X}(h:cE c ns (fu+1) e=some x):ER c ns fu e x:=by
 cases e with
 |Constant k kd p=>exact A1 (C7v h) λv h e=>e▸ .const h
 |Name y p=>exact .name h
 |BoolOp op vs p=>
  refine(C8q h).elim (λq=>A1 q λe q h=>q▸ .one h) λq=>?_;obtain⟨e1,e2,rest,x1,x2,q,h1,h2,hx⟩:=q;rw[q,hx];cases op with
  |And=>exact .and h1 h2
  |Or=>exact .or h1 h2
 |UnaryOp op e1 p=>exact(D2o h).elim (λq=>A1 q.2 λx1 h e=>by rw[e,q.1];exact .not h) λq=>A1 q.2 λx1 h e=>by rw[e,q.1];exact .neg h
 |BinOp e1 op e2 p=>exact R9 (B9l h) λo x1 x2 ho h1 h2 e=>e▸ .bin ho h1 h2
 |IfExp e0 e1 e2 p=>exact R9 (A8g h) λx0 x1 x2 h0 h1 h2 e=>e▸ .ite h0 h1 h2
 |Compare e1 ops bs p=>
  refine(D0s h).elim (λh=>?_) λh=>?_
  . obtain⟨op,b,x1,x2,q1,q2,q,h1,h2,e⟩:=h;rw[q1,q2,e];exact .cmp q h1 h2
  . obtain⟨op,op2,b,d,x1,x2,x3,q1,q2,q,h1,h2,h3,e⟩:=h;rw[q1,q2,e];exact .chain q h1 h2 h3
 |Call fn as kws p=>exact .call (D16 h)
 |Attribute o y p=>exact B0d (C70 h) λi xo h1 h2 h3 h4 e=>e▸ .attr h1 h2 h3 h4
 |Subscript o i p=>exact .sub (D3a h)
 |List es p=>exact A8 (V5 (show(if es.any B7 then none else _)=some x from h)) λq h=>A1 (A09 h) λx1 h e=>e▸ .list q h
 |Tuple es kd p=>exact A8 (V5 (show(if es.any B7 then none else _)=some x from h)) λq h=>A1 (A09 h) λx1 h e=>e▸ .tuple q h
 |_=>exact nn h
theorem SubR.plain{g:Expr->Option X}{o i:Expr}{x:X}(h:SubR g o x i):A2f x=true:=by
 cases h with
 |slc _ _ _ _ _ _ _ _ _ hx=>rw[hx];rfl
 |sub _ _ _ _ _ hx=>rw[hx];rfl
theorem D4o(G:GT w T cc gv mg mb A0 K)(hU:U<cLine)(hr:SoAll og w T cc gv A0 pc K D U r n):SoT og w T cc gv A0 pc D U (R6 T P r) (n+1):=by
 intro fu;induction fu with
 |zero=>intro e x l H k kx A env outer s Θ Q E hc J;exact nn hc
 |succ fu ih=>
  intro e x l H k kx A env outer s Θ Q E hc h cx a pk px J;have cx':=cx.low (Z1d n)
  have oth:A2f x=true->isTrue e env (eval e env)=(do let v<-eval e env;standAt e.pos;holding [v] (PySem.truthy v))->wpAny (model pg w) A (isTrue e env (eval e env)) Q E s:=
   λhx he=>D3h hr hc (by rw[<-D8f hx];exact h) cx' a pk px he
  have er:=A70 hc;clear hc;cases er with
  |name hn=>exact oth (D33 hn) rfl
  | @one op _ _ _ h1=>
   clear oth;cases op with
   |And=>
    refine Z4n (Z1c (ih _ x l H k kx A env outer s Θ Q E h1 h cx a pk px) (λc s' q=>?_) λJ J q=>q);cases c with
    |false=>exact q
    |true=>exact isTrue_and_nil q
   |Or=>
    refine isTrue_or (Z1c (ih _ x l H k kx A env outer s Θ Q E h1 h cx a pk px) (λc s' q=>?_) λJ J q=>q);cases c with
    |true=>exact q
    |false=>exact isTrue_or_nil q
  |and h1 h2=>exact C86 hr h1 h2 h cx' a pk px
  |or h1 h2=>exact C0u hr h1 h2 h cx' a pk px
  |not h1=>exact C81 hr h1 h cx' a pk px
  |ite h0 h1 h2=>exact D5b hr h0 h1 h2 h cx' a pk px
  |cmp q h1 h2=>exact C5i G hU hr q h1 h2 h cx' a pk px
  |chain q h1 h2 h3=>exact C9i G hU hr q h1 h2 h3 h cx' a pk px
  |call hc=>exact oth hc.plain rfl
  |sub hs=>exact oth hs.plain rfl
  |_=>exact oth rfl rfl
end
theorem Ext.call{fs:List Env}{env:Env}{Θ Θ':Th}{n n':Nat}{h h₀ h':Heap}(x:Ext (frs (env :: fs)) (onL env) Θ n h₀ Θ' n' h')(hf:env.frame=some h.objs.size)(hl:env.locals=h.objs.size)(kp:∀b o,h.get? b=some o->h₀.get? b=some o)(hz:h.objs.size<=h₀.objs.size) :
 Ext (frs fs) noX Θ n h Θ' n' h' where
 le:=x.le
 same:=x.same
 new:=λi a b z hz'=>Z0c hz (x.new i a b z hz')
 keep:=λb o e hb J=>by
  have hne:b≠h.objs.size:=Z0k (Z0i e);obtain⟨k1,k2⟩:=x.keep b o (kp b o e) hb (λq=>hne (q.trans hl));refine⟨λhS=>k1 λq=>?_,k2⟩;unfold frs at q;rw[List.filterMap_cons,hf] at q;rcases List.mem_cons.mp q with q | q
  . exact hne q
  . exact hS q
 size:=Z0c hz x.size
theorem Kept.lower{S:List Addr}{lo lo':Nat}{h h':Heap}(k:Kept S lo h h')(hl:lo'<=lo):Kept S lo' h h':=
 ⟨k.size,λb o e d=>k.keep b o e (d.elim (λq=> .inl (Z0b q hl)) .inr)⟩
theorem Ext.left{fs:List Env}{env:Env}{Θ Θ':Th}{n n':Nat}{h h₀ h' h'':Heap}(X:Ext (frs fs) noX Θ n h Θ' n' h')(e2:env.frame=some h.objs.size)(kp:Kept (frs (env :: fs)) h₀.objs.size h' h'')(hz:h.objs.size<=h₀.objs.size):Ext (frs fs) noX Θ n h Θ' n' h'':=by
 have K2:=kp.lower hz;refine⟨X.le,X.same,X.new,λb o eb hb hX=>?_,Z0c X.size K2.size⟩;obtain⟨k1,sl,k2⟩:=X.keep b o eb hb hX;haveI lb:b<h.objs.size:=Z0i eb;obtain⟨_,sl',j2⟩:=K2.keep b _ k2 (.inl lb);refine⟨λhS=>(K2.keep b o (k1 hS) (.inl lb)).1 λq=>?_,sl',j2⟩;unfold frs at q;rw[List.filterMap_cons,e2] at q;rcases List.mem_cons.mp q with q | q
 . exact absurd q (Z0k lb)
 . exact hS q
section
variable{K:Frag}{D U:Nat}
theorem B7j{c:CC}{r0:FnRec}{f:Fn}(h:cFn c r0=some f):U5 r0.params r0.scope=true/\K8 (r0.scope.names.map (·.1))=true/\Q7 r0.scope.names=true/\K8 (r0.params.args.map (·.arg))=true/\
 A0m r0.scope.names (r0.params.args.map (·.arg))=some f.params/\V0 c r0.params.defaults=some f.dflt/\cSs c r0.scope.names DF r0.body=some f.body:=by
 obtain⟨q,h⟩:=ift h
 simp only[Bool.and_eq_true] at q
 refine A1 (bi h) λps e1 h=>A1 (bi h) λdd e2 h=>A1 (mi h) λbb e3 h=>?_
 rw[<-h]
 exact B07 q.1.1.1 q.1.1.2 q.1.2 q.2 e1 e2 e3
theorem D5t{c:CC}{es:List Expr}{vs:List V}(h:V0 c es=some vs):vs.length=es.length:=by
 induction es generalizing vs with
 |nil=>rw[<-Z0a h];rfl
 |cons e es ih=>exact A1 (bi h) λv J h=>A1 (mi h) λl e2 h=>by rw[<-h,List.length_cons,List.length_cons,ih e2]
def A18(R:Result->Shared->Prop):Flow->Shared->Prop:=λf s'=>R (.ok (.ret (match f with | .ret v=>v | _=> .none))) s'
def lvE(w:World)(A:Around)(env:Env)(R:Result->Shared->Prop):Value->Shared->Prop:=λe s'=>wpAny (model pg w) A (leaving env e) (λJ s''=>R (.error e) s'') (λe' s''=>R (.error e') s'') s'
structure Sig(c:CC)(r0:FnRec)(ps:List Nat)(df:List V):Prop where
 shape:U5 r0.params r0.scope=true
 nd:K8 (r0.scope.names.map (·.1))=true
 nc:A2o r0.scope.names=true
 na:K8 (r0.params.args.map (·.arg))=true
 ps:A0m r0.scope.names (r0.params.args.map (·.arg))=some ps
 df:V0 c r0.params.defaults=some df
inductive FnRaw(gv:Nat->Option Value)(cc:CC)(K:Frag)(r:FnRec)(ps:List Nat)(df:List V)(a:Addr):Prop
 |mk (qual:Str) (pm:Value) (c:Addr) (doc dV:Value) (dvs:List Value) (x1:K.lookup a=some {cls:= .type "function",data:= .func (defFd r.name qual r.params r.body r.scope mainGlobals dV .none none pm (.ref c) doc)}) (x2:Sig cc r ps df) (x3:((dvs= []/\dV= .none)\/(dvs≠ []/\∃t,dV= .ref t/\K.lookup t=some {cls:= .type "tuple",data:= .seq dvs.toArray}))) (x4:(∀Θ n,VRs gv Θ n df dvs)) (x5:codeIn K (.ref c) qual=true)
theorem fit{a b c:Nat}(h1:a<=c)(h2:c<=a+b):a+(b - (b - (c - a)))=c:=by rw[Nat.sub_sub_self (Nat.sub_le_iff_le_add'.mpr h2),Nat.add_sub_of_le h1]
theorem N6(G:GT w T cc gv mg mb A0 K)(hD:D<recursionLimit){r0:FnRec}{ps:List Nat}{df:List V}{fa:Addr}{vs:List V}{H:Hp}{A:Around}{fs:List Env}{s:Shared}{Θ:Th}{cvs:List Value}{R:Result->Shared->Prop}{l:Loc}
 (fo:FnRaw gv cc K r0 ps df fa) (hb:binds ps vs df=some l) (ca:CA D U (n+1) A fs) (S:St gv (A2 T cc) A0 Θ H fs s.heap) (Va:VRs gv Θ H.n vs cvs)
 (hs:∀env h₀ tk,s.toks<=tk/\(cvs.length=ps.length->h₀.Ns env.locals λx=>((r0.params.args.map (·.arg)).zip cvs).reverse.lookup x)->env.scope=r0.scope->Cx D U n (A.deeper env) env fs->At gv (A2 T cc) A0 Θ H l env fs h₀->(∀b o,s.heap.get? b=some o->h₀.get? b=some o)->env.locals=s.heap.objs.size->
  wpAny (model pg w) (A.deeper env) (execs r0.body env) (A18 R) (lvE w (A.deeper env) env R) {s with heap:=h₀,toks:=tk}) (c3:Q7 r0.scope.names=true:=by kernel_rfl) :
 codeAny (model pg w) A (.call (.ref fa) ⟨cvs,[]⟩) R s:=by
 obtain⟨qual,pm,c,doc,dV,dvs,hK,q'3,hdv,hVd,hcode⟩:=fo
 rcases q'3 with⟨c1,c2,_,c4,c5,c6⟩
 refine A7 (C3l hb) λb1 b2 b3=>?_
 haveI KI:K.In s.heap:=G.kin.keeps S.stays
 unfold U5 at c1
 simp only[Bool.and_eq_true,List.isEmpty_iff,Option.isNone_iff_eq_none,Bool.not_eq_true',beq_iff_eq,decide_eq_true_eq] at c1
 obtain⟨⟨⟨⟨⟨⟨⟨⟨s1,s2⟩,s3⟩,s4⟩,s5⟩,s6⟩,s7⟩,s8⟩,s9⟩:=c1
 obtain⟨lk1,lk2⟩:=A91 c5
 haveI nd:=A3k c4
 haveI Vd:=hVd Θ H.n
 have ld:dvs.length=df.length:=Vd.len.symm
 have lv:cvs.length=vs.length:=Va.len.symm
 haveI lx:(r0.params.args.map (·.arg)).length=r0.params.args.length:=List.length_map _
 have ldd:=D5t c6
 rw[lk1] at b2 b3
 generalize hus:vs ++ df.drop (df.length - (ps.length - vs.length))=us at b1
 generalize hcus:cvs ++ dvs.drop (dvs.length - ((r0.params.args.map (·.arg)).length - cvs.length))=cus
 have Vdrop:∀(m:Nat) {xs:List V} {ys:List Value},VRs gv Θ H.n xs ys->VRs gv Θ H.n (xs.drop m) (ys.drop m):=by
  intro m;induction m with
  |zero=>intro xs ys x;exact x
  |succ m ih=>
   intro xs ys x;cases xs with
   |nil=>cases ys with | nil=>exact x | cons _ _=>exact x.elim
   |cons a xs=>cases ys with | nil=>exact x.elim | cons b ys=>exact ih x.2
 have Vu:VRs gv Θ H.n us cus:=by
  rw[<-hus,<-hcus,lv,ld,lk1];exact Va.app (Vdrop _ Vd)
 have lus:us.length=(r0.params.args.map (·.arg)).length:=by
  rw[<-hus,List.length_append,List.length_drop,lk1];exact fit b2 b3
 refine codeAny_call_def (binds:=(r0.params.args.map (·.arg)).zip cus) (body:=r0.body) (by have:=ca.dep;lia) (S.stays _ _ (G.kin _ _ hK)) rfl ?_ (codeRec_of KI hcode) rfl ?_ ?_ ?_ ?_ s7 s6 s8
 . refine A1 G.lim λmc n1 n2=>?_
   exact A6 mc (n1.keeps S.stays) n2
 . refine rs hcus ?_
   refine A62 s1 s3 s2 s5 rfl nd (by rw[lv];exact b2) (by rw[lv,ld];exact b3) (by rw[ld,ldd,lx];exact s9) ?_
   rcases hdv with⟨a,b⟩ | ⟨a,t,b,d⟩
   . exact .inl ⟨a,b⟩
   . exact .inr ⟨a,t,b,S.stays _ _ (G.kin _ _ d)⟩
 . intro x hx
   unfold Q7 at c3
   rw[Z1n] at c3
   have:=c3 x hx
   intro q
   rw[q] at this
   exact ff this
 . intro x hx
   haveI:=List.of_mem_zip hx
   obtain⟨j,hj,e⟩:=List.getElem_of_mem this.1
   refine A1 (lk2 j x.1 (by rw[Z0w hj,e])) λi J e2=>?_
   exact(G6 e2).2.2
 . intro h₀ hns hkp
   generalize henv:callEnv (defFd r0.name qual r0.params r0.body r0.scope mainGlobals dV .none none pm (.ref c) doc) s.heap.objs.size fa=env
   have e1:env.scope=r0.scope:=by rw[<-henv];rfl
   haveI e2:env.frame=some s.heap.objs.size:=by rw[<-henv];rfl
   have e3:env.locals=s.heap.objs.size:=by rw[<-henv];rfl
   haveI e4:env.globals=mainGlobals:=by rw[<-henv];rfl
   haveI e5:env.builtins=builtinsNs:=by rw[<-henv];rfl
   haveI S':St gv (A2 T cc) A0 Θ H (env :: fs) h₀:=S.enter (by rw[e1,s8];intro q;cases q) e2 hns hkp
   haveI cx:Cx D U n (A.deeper env) env fs:=⟨⟨by show A.frames.map _=_;rw[ca.fr];rfl,by have:=ca.dep;show A.depth+1+n<=D;lia,by have:=ca.uni;show A.units+3+8 * n<=U;lia,ca.hand⟩,by rw[e1];exact s8,by rw[e2,e3],e4,e5,by rw[e1];exact c2,by rw[e1];exact A72 c3⟩
   refine hs env h₀ _ ⟨Nat.le_add_right _ _,λhc=>?_⟩ e1 cx ⟨S',_,by rw[e3];exact hns,?_⟩ hkp e3
   . have:cus=cvs:=by
      rw[<-hcus,List.drop_eq_nil_of_le (by rw[hc,lk1,Nat.sub_self];exact Z0g _),List.append_nil]
     rw[e3,<-this];exact hns
   . rw[e1,b1]
     exact C49 c5 nd lus Vu
theorem A47(G:GT w T cc gv mg mb A0 K)(hD:D<recursionLimit){f:Fn}{fa:Addr}{vs:List V}{H:Hp}{A:Around}{fs:List Env}{s:Shared}{Θ:Th}{cvs:List Value}{R:Result->Shared->Prop}{l:Loc}
 (fo:FnOk gv cc K f fa) (hb:binds f.params vs f.dflt=some l) (ca:CA D U (n+1) A fs) (S:St gv (A2 T cc) A0 Θ H fs s.heap) (Va:VRs gv Θ H.n vs cvs)
 (hs:∀ss env h₀ tk,cSs cc env.scope.names DF ss=some f.body->Cx D U n (A.deeper env) env fs->At gv (A2 T cc) A0 Θ H l env fs h₀->(∀b o,s.heap.get? b=some o->h₀.get? b=some o)->env.locals=s.heap.objs.size->
  wpAny (model pg w) (A.deeper env) (execs ss env) (A18 R) (lvE w (A.deeper env) env R) {s with heap:=h₀,toks:=tk}) :
 codeAny (model pg w) A (.call (.ref fa) ⟨cvs,[]⟩) R s:=by
 obtain⟨r0,qual,pm,c,doc,dV,dvs,hK,hcf,hdv,hVd,hcode⟩:=fo
 refine A9w (B7j hcf) λc1 c2 c3 c4 c5 c6 c7=>?_
 exact N6 G hD (ps:=f.params) (df:=f.dflt) ⟨qual,pm,c,doc,dV,dvs,hK,⟨c1,c2,A72 c3,c4,c5,c6⟩,hdv,hVd,hcode⟩ hb ca S Va (c3:=c3) λenv h₀ tk J e1 cx a kp e3=>hs r0.body env h₀ tk (by rw[e1];exact c7) cx a kp e3
theorem D4j(G:GT w T cc gv mg mb A0 K)(hD:D<recursionLimit){f:Fn}{fa:Addr}{vs:List V}{H:Hp}{k kx:MineE.K}{A:Around}{fs:List Env}{s:Shared}[Og s og]{Θ:Th}{cvs:List Value}{R:Result->Shared->Prop}{l:Loc}
 (fo:FnOk gv cc K f fa) (hb:binds f.params vs f.dflt=some l) (ca:CA D U (n+1) A fs) (S:St gv (A2 T cc) A0 Θ H fs s.heap) (Va:VRs gv Θ H.n vs cvs) (pk:PC og gv (A2 T cc) A0 pc Θ H fs s.heap k kx R)
 (hs:∀ss env h₀ tk Qb Eb,cSs cc env.scope.names DF ss=some f.body->Cx D U n (A.deeper env) env fs->At gv (A2 T cc) A0 Θ H l env fs h₀->(∀b o,s.heap.get? b=some o->h₀.get? b=some o)->env.locals=s.heap.objs.size->
  PS og gv (A2 T cc) A0 Θ H env fs h₀ (λf J h=>fl f (k .none h) (λv=>k v h)) Qb->PX og gv (A2 T cc) A0 pc (onL env) Θ H env fs h₀ kx Eb->wpAny (model pg w) (A.deeper env) (execs ss env) Qb Eb {s with heap:=h₀,toks:=tk}) :
 codeAny (model pg w) A (.call (.ref fa) ⟨cvs,[]⟩) R s:=by
 refine A47 G hD fo hb ca S Va λss env h₀ tk hc cx a hkp e3=>hs ss env h₀ tk _ _ hc cx a hkp e3 ?_ ?_
 . intro fl' l' H' hk Θ' cf s' x a' fr J
   have X:=x.call (cx.frame.trans (by rw[e3])) e3 hkp (Z0o (by obtain⟨m,hn,_⟩:=a.fr;rw[e3] at hn;exact hn.lt))
   have St':=a'.st.leave
   cases fr with
   |next=>exact pk.1 _ _ hk Θ' .none s' X St' rfl
   |ret vr=>exact pk.1 _ _ hk Θ' _ s' X St' vr
 . intro pv H' hk Θ' e s' x st xi J
   have e2:env.frame=some s.heap.objs.size:=cx.frame.trans (by rw[e3])
   have hz:s.heap.objs.size<=h₀.objs.size:=Z0o (by obtain⟨m,hn,_⟩:=a.fr;rw[e3] at hn;exact hn.lt)
   haveI X:=x.call e2 e3 hkp hz
   refine A50 (L:=env.locals) (outer:=fs) (by exact cx.ca.fr) (by rw[e2,e3]) st xi λh' st' kp xh=>?_
   refine pk.2 pv H' hk Θ' e _ (X.left e2 kp hz) st' (xh.mono hz)
theorem C48(G:GT w T cc gv mg mb A0 K)(hD:D<recursionLimit)(hr:SoAll og w T cc gv A0 pc K D U r n):SoC og w T cc gv A0 pc K D U (R6 T P r) (n+1):=by
 intro f fa vs H k kx A fs s Θ cvs R fo h ca S Va pk J;haveI h:stC r f vs H k kx=true:=h;refine A1 (R0 h) λl hb hs=>?_;exact D4j G hD fo hb ca S Va pk λss env h₀ tk Qb Eb hc cx a J J ps px=>hr.ss DF ss f.body l H _ kx (A.deeper env) env fs {s with heap:=h₀,toks:=tk} Θ _ _ hc hs cx a ps px
end
section
variable{K:Frag}{D U:Nat}
theorem C9g(G:GT w T cc gv mg mb A0 K)(hr:SoC og w T cc gv A0 pc K D U r n){c:Nat}{C:Addr}{vs:List V}{cvs:List Value}{H:Hp}{k kx:MineE.K}{A:Around}{fs:List Env}{s:Shared}[Og s og]{Θ:Th}{R:Result->Shared->Prop}
 (h:A4z T r c vs H k kx=true) (hg:gv c=some (.ref C)) (ca:CA D U (n+1) A fs) (S:St gv (A2 T cc) A0 Θ H fs s.heap) (Va:VRs gv Θ H.n vs cvs) (pk:PC og gv (A2 T cc) A0 pc Θ H fs s.heap k kx R) :
 codeAny (model pg w) A (.call (.ref C) ⟨cvs,[]⟩) R s/\keepIn K (.ref C)=true:=by
 refine A8 (A5 h) λz h=>?_
 rw[C8,decide_eq_true_eq] at z
 refine A1 (R0 h) λcl ecl h=>?_
 refine A1 (G.cls _ _ ecl) λC' hg' CO=>?_
 haveI eC:C=C':=by rw[hg] at hg';injection hg' with hg';injection hg'
 subst eC
 refine⟨?_,CO.kp⟩
 haveI KI:K.In s.heap:=G.kin.keeps S.stays
 have ca':CA D U n (A.under (.builtin "type.__call__" ⟨.ref C :: cvs,[]⟩)) fs:=
  ⟨ca.fr,by have:=ca.dep;show A.depth+1+n<=D;lia,by have:=ca.uni;show A.units+1+8 * n<=U;lia,ca.hand⟩
 obtain⟨hh,g,d,t,os⟩:=s
 have kp:∀b o,hh.get? b=some o->((hh.push emptyDict).push (instObj C hh.objs.size)).get? b=some o:=λb o e=>Z0h _ (Z0h _ e)
 have sz:((hh.push emptyDict).push (instObj C hh.objs.size)).objs.size=hh.objs.size+2:=by rw[Heap.size_push,Heap.size_push]
 haveI hd0:((hh.push emptyDict).push (instObj C hh.objs.size)).get? hh.objs.size=some emptyDict:=Z0h _ (Z0r _ rfl)
 have hx0:((hh.push emptyDict).push (instObj C hh.objs.size)).get? (hh.objs.size+1)=some (instObj C hh.objs.size):=by
  haveI:=Z0r (hh.push emptyDict) (o:=instObj C hh.objs.size) rfl;rwa [Heap.size_push] at this
 haveI nw:=Th.set_new Θ H.n (hh.objs.size+1) hh.objs.size gh0
 haveI old:=Th.set_old Θ H.n (hh.objs.size+1) hh.objs.size gh0
 obtain⟨S',X'⟩:=S.new (h':=(hh.push emptyDict).push (instObj C hh.objs.size)) (g:=gh0) (o:= .inst c []) z kp (a:=hh.objs.size+1) (d:=hh.objs.size)
  ⟨Z1d _,by rw[sz];exact Z0g _⟩ ⟨Z0g _,by rw[sz];lia⟩ (by show 0+0<=_;decide) (λj hj=>absurd hj (Z0y j))
  ⟨C,λJ=>none,by rw[nw.1,nw.2.1];exact Nat.succ_ne_self _,hg,by rw[nw.1,nw.2.1];exact hx0,by
   rw[nw.2.1];exact Heap.Ns1.of_empty ⟨_,#[],_,hd0,rfl,λe he=>absurd he (by simp),λJ=>rfl⟩,λx=>by split <;> first | rfl | (rw[A4y]),cl,ecl⟩
 haveI hnn:(H.new (.inst c [])).n=H.n+1:=Hp.new_n
 have Y:=makes_of (M:=model pg w) KI CO.makes
 split at h
 . rename_i f ef
   refine D6 (CO.meth _ _ _ G.initN ef) λfa q1 q2 q3=>?_
   refine make_core Y (Z1z KI q1) (λself=>bind_fn KI self q2) (.inl rfl) ?_
   refine hr f fa _ _ _ _ _ fs ⟨_,g,d,t,os⟩ _ (.ref (hh.objs.size+1) :: cvs) _ q3 h ca' S' ⟨⟨by rw[hnn];exact Z0v _,by rw[nw.1]⟩,Va.up (by rw[hnn];exact Z1d _) old⟩ ⟨?_,?_⟩
   . intro v H2 hk Θ2 cv s2 x st vr J
     cases v with
     |none=>
      subst vr;refine⟨rfl,pk.1 _ _ hk Θ2 _ s2 (X'.trans x) st ⟨?_,?_⟩⟩
      . exact Z0b (by rw[hnn];exact Z0v _) x.le
      . rw[(x.same H.n (by rw[hnn];exact Z0v _)).1,nw.1]
     |_=>exact(Z0u hk).elim
   . intro pv H2 hk Θ2 e s2 x st xh J
     exact pk.2 pv H2 hk Θ2 e s2 (X'.trans x) st (xh.mono (by show hh.objs.size<=((hh.push emptyDict).push (instObj C hh.objs.size)).objs.size;rw[sz];lia))
 . rename_i ef
   split at h
   . obtain rfl:=Va.zero
     have q1:=CO.noInit ef
     refine make_core Y (Z1z KI q1) (λself=>Z2w (oi_bind self)) (.inr ⟨rfl,rfl⟩) ?_
     haveI t1:Looks (model pg w) ((hh.push emptyDict).push (instObj C hh.objs.size)) (typeOf (.ref (hh.objs.size+1))) (.ref C):=(Looks.ld hx0).andThen .now
     haveI t2:Looks (model pg w) ((hh.push emptyDict).push (instObj C hh.objs.size)) (isInstance (.ref (hh.objs.size+1)) (.type "object")) true:=t1.andThen (Y.top.keeps kp)
     refine Z4o oi_plain entry_oi (@check_slot (model pg w) _ _ _ "object.__init__" "object" "__init__" (.ref (hh.objs.size+1)) [] [] _ oi_kind oi_split t2 (oi_args (.ref (hh.objs.size+1))) ?_)
     refine Z0f (And.intro rfl ?_)
     exact pk.1 _ _ h _ _ _ X' S' ⟨by rw[hnn];exact Z0v _,by rw[nw.1]⟩
   . exact ff h
end
section
variable{M:Model}
theorem D73{f:Value}{args:List (Bool × Sem Value)}{Q:Args->Shared->Prop}(hp:args.any (·.1)=false)(h:wpAny M A (spliced args) (λvs s'=>Q ⟨vs,[]⟩ s') E s):wpAny M A (evalArgs f true args []) Q E s:=by
 cases args with
 |nil=>
  refine Z0d (Z1c h (λvs s' h'=>?_) λJ J x=>x);refine Z0d (Z0f ?_);refine Z1b ?_;exact Z0d (Z0f (Z0f h'))
 |cons a rest=>
  obtain⟨b,x⟩:=a;cases b with
  |true=>cases hp
  |false=>exact evalArgs_plain h
theorem M4{f:Value}{first:List Value}{pos:Pos}{args:List (Bool × Sem Value)}{Q:Value->Shared->Prop}(hp:args.any (·.1)=false)
 (h:wpAny M A (spliced args) (λvs s₁=>(∃k,Looks M s₁.heap (keeperOf f) k)/\wpAny M A (call f (first ++ vs)) Q E s₁) E s):wpAny M A (callWith pos f first args []) Q E s:=by
 refine Z0d (Z1b (Z1c (D73 (Q:=λa s₁=>(∃k,Looks M s₁.heap (keeperOf f) k)/\wpAny M A (call f (first ++ a.pos) a.kw) Q E s₁) hp h) (λa s₁ h₁=>Z0d (Z1r ?_)) λJ J x=>x))
 obtain⟨k,L⟩:=h₁.1
 haveI e:(args.any (·.1)||([]:List (Option Str × Sem Value)).any (·.1.isNone))=false:=by rw[hp];rfl
 refine re e ?_
 refine Z0d (L.here ?_)
 have tail:∀{t:Sem Value},wpAny M A t Q E s₁->wpAny M A (t >>= λr=>holding [r] point >>= λJ=>pure r) Q E s₁:=
  λht=>Z0d (Z1c ht (λr s₂ hr=>Z0d (Z1b (wpAny_point (Z0f hr)))) λJ J x=>x)
 haveI marked (mk:Value):wpAny M A (callMarked mk f (first ++ a.pos) a.kw) Q E s₁:=by unfold callMarked;exact Calls.wpAny_keep h₁.2
 cases k <;> dsimp only <;> first | exact tail h₁.2 | exact tail (wpAny_operating h₁.2) | (split <;> first | exact tail h₁.2 | exact tail (marked _))
theorem H6{h:Heap}{id:String}:∃k,Looks M h (keeperOf (.builtin id)) k:=⟨.machine, .now⟩
theorem U7{K:Frag}{f:Value}{h:Heap}(hk:keepIn K f=true)(X:K.In h):∃k,Looks M h (keeperOf f) k:=by
 refine A1 (looks_keep (M:=M) hk X) λk J L=>?_;exact⟨k,L⟩
end
noncomputable def S5:Obj:={cls:= .type "builtin_function_or_method",data:= .fields #[.builtin "bytes.fromhex", .type "bytes"]}
theorem C8b:typeOf (.builtin "bytes.fromhex")=pure (.type "classmethod_descriptor"):=by show builtinType _=_;rw[builtinType_eq_fast];kernel_rfl
theorem D1s:entryFor table "bytes.fromhex" = some Builtin.«bytes.fromhex»:=entryFor_of_tree (rfl)
theorem D2j{as:Args}:(Code.builtin "bytes.fromhex" as).quiet=true:=Z5c _ (by decide +kernel)
theorem C5s:isType (.type "bytes")=pure true:=by first | rfl | kernel_rfl | (unfold isType;rw[isSubtype_type];kernel_rfl)
theorem D5h:isSubtype (.type "bytes") (.type "bytes")=pure true:=by rw[isSubtype_type];kernel_rfl
theorem C1b{x:Str}{u:Tok}:checkBoundCall "bytes.fromhex" ⟨[.type "bytes", .str x u],[]⟩=pure ():=by first | kernel_rfl | rfl
section
variable{M:Model}{K:Frag}
theorem B87{P:Fin->Shared->Prop}(h:P (.done (.ret (.ref s.heap.objs.size))) {s with heap:=s.heap.push S5}) :
 wpAny M A (Builtin.«classmethod_descriptor.__get__» ⟨[.builtin "bytes.fromhex", .none, .type "bytes"],[]⟩) P E s:=by
 refine Z0d (wpAny_of_eq (a:=(.builtin "bytes.fromhex",none,some (.type "bytes"))) (by first | rfl | kernel_rfl) ?_)
 refine Z0d (wpAny_of_eq (a:= .type "bytes") rfl ?_)
 refine Z0d (wpAny_of_eq (a:=true) C5s ?_)
 refine KFB.if_not rfl ?_
 refine Z0d (wpAny_of_eq (a:=true) D5h ?_)
 refine KFB.if_not rfl ?_
 exact Z0d (Z3l (Z0f h))
theorem D2q{pl:Sem Bool}{Q:Value × List Value->Shared->Prop}(X:K.In s.heap)(h:Q (.ref s.heap.objs.size,[]) {s with heap:=s.heap.push S5,toks:=s.toks+1}) :
 wpAny (model pg w) A (getMethod (.type "bytes") (Str.ofString "fromhex") pl) Q E s:=by
 have hstub:opaqueClassAbove (.type "bytes")=pure none:=by unfold opaqueClassAbove;dsimp only;rw[show Manifest.isStub "bytes" = false by decide +kernel];rfl
 haveI ht:typeOf (.type "bytes")=pure (.type "type"):=by first | rfl | kernel_rfl
 haveI L0:Looks (model pg w) s.heap (typeOf (.type "bytes")) (.type "type"):=Z2w ht
 haveI hg:findIn K (.type "type") "__getattribute__" = some (some (.builtin "type.__getattribute__")):=type_tga
 haveI e:findCls K (.type "bytes") (.type "type") "fromhex" = some (.get (.builtin "classmethod_descriptor.__get__") (.builtin "bytes.fromhex") .none (.type "bytes")):=by first | rfl | kernel_rfl
 refine Z0d (Z0d (L0.here ((Z1z X hg).here ?_)))
 dsimp only
 refine Z0d (Z1c (Q:=λv=>Q (v,[])) (E:=E) ?_ (λJ J z=>Z0f z) λJ J z=>z)
 haveI LO:Looks (model pg w) s.heap (opaqueClassAbove (.type "bytes")) none:=Z2w hstub
 refine cls_open X LO L0 hg (looks_hook X (r:=none) rfl) (by show subIn K _ _=_;rfl) e ?_
 refine Z0d (Z1b (wpAny_call_entry KFB.slot_get C8b KFB.entry_get (B87 ⟨_,rfl,Z0f (Z0f h)⟩) (KFB.args_get _ _ _)))
theorem C6k{a:Addr}{h:Heap}(ho:h.get? a=some S5):∃k,Looks M h (keeperOf (.ref a)) k:=by
 refine⟨.machine,?_⟩;exact(Looks.ld (part:=none) ho).andThen (Z2w rfl)
theorem A81{α:Type}{c:Bool}{p q r:α}(h:bB c p q=r):(c=true/\p=r)\/q=r:=by cases c <;> first | exact .inr h | exact .inl ⟨rfl,h⟩
theorem B5t{P:Tx->List Nat->Prop}{x:Tx}{b:List Nat}(h:A4s x=some b)(h1:P [] [])(h2:P [48,48,102,70] [0,255])(h3:P [55,65] [122]):P x b:=by
 have tq:∀{y:Tx},teq x y=true->x=y:=λe=>of_decide_eq_true ((J1 _ _).symm.trans e);obtain⟨e,h⟩ | h:=A81 h
 . rw[tq e,<-Z0a h];exact h1
 obtain⟨e,h⟩ | h:=A81 h
 . rw[tq e,<-Z0a h];exact h2
 obtain⟨e,h⟩ | h:=A81 h
 . rw[tq e,<-Z0a h];exact h3
 . exact nn h
theorem C9v{x:Tx}{b:List Nat}{u:Tok}(h:A4s x=some b):Builtin.«bytes.fromhex» ⟨[.type "bytes", .str (sOf x) u],[]⟩=(do ret (<-mkBytes (b.map UInt8.ofNat).toArray)):=
 B5t (P:=λx b=>Builtin.«bytes.fromhex» ⟨[.type "bytes", .str (sOf x) u],[]⟩=(do ret (<-mkBytes (b.map UInt8.ofNat).toArray))) h (by kernel_rfl) (by kernel_rfl) (by kernel_rfl)
theorem D0d{a:Addr}{x:Tx}{b:List Nat}{u:Tok}{Q:Value->Shared->Prop}(ho:s.heap.get? a=some S5)(hx:A4s x=some b)
 (h:∀t tk,Q (.bytes (b.map UInt8.ofNat).toArray t) {s with toks:=tk}):wpAny (model pg w) A (call (.ref a) [.str (sOf x) u]) Q E s:=by
 refine Z2g (Z2v ?_)
 refine Z0d (wpAny_load ho ?_)
 refine KFB.if_so (by decide) ?_
 refine Z0d (wpAny_of_eq (a:=()) C1b ?_)
 refine Z0d (Z0f (Z0f ?_))
 refine⟨D2j,codeAny_builtin D1s ?_⟩
 show wpAny _ _ (Builtin.«bytes.fromhex» ⟨[.type "bytes", .str (sOf x) u],[]⟩) _ _ _
 refine re (C9v hx) ?_
 refine Z0d (wpAny_mkBytes (Z0f (h _ _)) ?_)
 haveI:b.length<=2:=B5t (P:=λJ b=>b.length<=2) hx (by decide) (by decide) (by decide)
 rw[List.size_toArray,List.length_map,sizeLine_eq];refine Z0c (by assumption) ?_;decide
end
theorem D0u{gv:Nat->Option Value}{Θ:Th}{n:Nat}{c:Const}{v:V}{cv:Value}(h:X5 c=some v)(x:c.Val cv):VR gv Θ n v cv:=by
 cases c <;> first | (cases h;done) | skip
 . cases h;exact x
 . cases h;exact x
 . cases h;exact x
 . rename_i y;cases h;obtain⟨t,rfl⟩:=x;exact⟨t,by unfold sOf;rw[Z1x]⟩
 . rename_i b;cases h;obtain⟨t,rfl⟩:=x;refine⟨t,?_⟩;congr 1;congr 1;rw[Z3w];conv=>lhs;rw[<-List.map_id b]
   apply List.map_congr_left;intro y J;simp
theorem C4o{s y:Tx}{v:V}{l:List (V × V)}:dget s ((.str y,v) :: l)=if s=y then some (some v) else dget s l:=by
 show bB (teq s y) (some (some v)) (dget s l)=_;rw[J1,Z7];by_cases q:s=y
 . rw[decide_eq_true q,Z0p rfl,Z0p q]
 . rw[Z1h q,Z0m (by simp),Z0m q]
theorem B25{x:Str}{s:Tx}:s=x.cps.toList ↔ x=sOf s:=by
 constructor
 . intro e;subst e;unfold sOf;rw[Z1x]
 . intro e;subst e;rfl
theorem B5z{gv:Nat->Option Value}(s:Tx){l:List (Str × Const)}{es:List (V × V)}{kvs:List (Str × Value)}(h:cvs l=some es)(d:Kvs kvs l) :
 (∀v,dget s es=some (some v)->∃cv,valueAt kvs (sOf s)=some cv/\∀Θ n,VR gv Θ n v cv)/\(dget s es=some none->valueAt kvs (sOf s)=none):=by
 induction l generalizing es kvs with
 |nil=>
  cases kvs with
  |nil=>obtain rfl:=Z0a h;exact⟨λv e=>(nomatch Z0a e),λJ=>rfl⟩
  |cons _ _=>exact d.elim
 |cons p l ih=>
  cases kvs with
  |nil=>exact d.elim
  |cons q kvs=>
   obtain⟨⟨d1,d2⟩,d3⟩:=d;refine A1 (bi h) λv' e1 h=>A1 (mi h) λl' e2 h=>?_;refine A8 (ih e2 d3) λa b=>?_;rw[<-h,C4o,<-show q.1=p.1 from d1];unfold valueAt;rw[List.find?_cons];by_cases z:s=q.1.cps.toList
   . rw[Z0p z,show(decide (q.1=sOf s))=true from decide_eq_true (B25.mp z)];exact⟨λv e=>⟨q.2,rfl,λΘ n=>Z0a (Z0a e)▸D0u e1 d2⟩,λe=>(nomatch Z0a e)⟩
   . rw[Z0m z,show(decide (q.1=sOf s))=false from Z1h λe=>z (B25.mpr e)];exact⟨a,b⟩
theorem D1w{kvs:List (Str × Value)}{l:List (Str × Const)}(x:Kvs kvs l):kvs.map (·.1)=l.map (·.1):=D8.ind x rfl λp q J J h J ih=>by rw[List.map_cons,List.map_cons,h.1,ih]
theorem C6h{ks:List (Option Expr)}{vs:List Expr}{es:List (V × V)}(h:A3j ks vs=some es):∃ps l,A2s ps l/\ks=ps.map (λp=>some p.1)/\vs=ps.map (·.2)/\ps.length<17/\ps≠ []/\(l.map (·.1)).Nodup/\cvs l=some es:=by
 obtain⟨r,e,h⟩:=bi h;obtain⟨q,h⟩:=ift h;simp only[Bool.and_eq_true,decide_eq_true_eq,Bool.not_eq_true',List.isEmpty_eq_false_iff] at q;obtain⟨a,b,c⟩:=C1p e;exact⟨r.1,r.2,a,b,c,q.1.1,q.1.2,A3k q.2,h⟩
theorem J8{env:Env}:∀{es:List Expr},es.any B7=false->starEach es env=es.map λe=>(false,eval e env)
 | [],_=>rfl
 |e :: es,h=>by
  rw[List.any_cons,Bool.or_eq_false_iff] at h;rw[A4t h.1,J8 h.2];rfl
theorem N0{env:Env}{pos:Pos}{es:List Expr}(h:es.any B7=false):(backTo pos (starEach es env)).any (·.1)=false/\(backTo pos (starEach es env)).all (λx=> !x.1)=true:=by
 rw[J8 h];unfold backTo;constructor
 . rw[Z5i];intro x hx;rw[Z3w] at hx;obtain⟨e,_,rfl⟩:=Z2q.mp hx;simp
 . rw[Z1n];intro x hx;rw[Z3w] at hx;obtain⟨e,_,rfl⟩:=Z2q.mp hx;rfl
section
variable(og:OGt)(w:World)(T:Tabs)(cc:CC)(gv:Nat->Option Value)(A0:Heap)(pc:Addr)(K:Frag)(D U:Nat)
def N9(P:Nat->List V->Hp->MineE.K->MineE.K->Option Bool):Prop:=∀g vs H k kx,P g vs H k kx=some true->∀a A fs s Θ cvs R,gv g=some (.ref a)->CA D U 0 A fs->St gv (A2 T cc) A0 Θ H fs s.heap->VRs gv Θ H.n vs cvs->
 PC og gv (A2 T cc) A0 pc Θ H fs s.heap k kx R->∀ [Og s og],codeAny (model pg w) A (.call (.ref a) ⟨cvs,[]⟩) R s/\keepIn K (.ref a)=true
end
section
variable{K:Frag}{D U:Nat}
variable{k:MineE.K}{kx:MineE.K}{Q:Value->Shared->Prop}
def B33(Q:Value->Shared->Prop)(E:Value->Shared->Prop):Result->Shared->Prop:=λr s'=>match r with | .ok (.ret v)=>Q v s' | .ok _=>False | .error e=>E e s'
theorem B3m{h:Heap}(pk:PK og gv (A2 T cc) A0 Θ H l env outer h k Q)(px:PX og gv (A2 T cc) A0 pc noX Θ H env outer h kx E)(a:At gv (A2 T cc) A0 Θ H l env outer h)(hf:env.frame=some env.locals) :
 PC og gv (A2 T cc) A0 pc Θ H (env :: outer) h k kx (B33 Q E):=
 ⟨λv H' hk Θ' cv s' x st vr=>pk v H' hk Θ' cv s' x (a.ext hf x st) vr,λpv H' hk Θ' e s' x st xh=>px pv H' hk Θ' e s' x st xh.is⟩
theorem B8g{h:Heap}(pk:PK og gv (A2 T cc) A0 Θ H l env outer h k Q)(a:At gv (A2 T cc) A0 Θ H l env outer h)(hf:env.frame=some env.locals) :
 PV og gv (A2 T cc) A0 Θ H (env :: outer) h k Q:=λv H' hk Θ' cv s' x st vr=>pk v H' hk Θ' cv s' x (a.ext hf x st) vr
theorem FnOk.keep{f:Fn}{fa:Addr}(h:FnOk gv cc K f fa):keepIn K (.ref fa)=true:=by
 obtain⟨r0,qual,pm,c,doc,dV,dvs,hK,_⟩:=h;unfold keepIn;dsimp only;rw[hK]
theorem C8f{o:Expr}{as:List Expr}{name:Str}{apos pos:Pos}{co:Value}(hpos:(apos.endLine==pos.line)=true)
 (h:wpAny (model pg w) A (getMethod co name (do return (<-importBound o env).getD true)) (λp s'=>wpAny (model pg w) A (callWith pos p.1 p.2 (backTo pos (starEach as env)) []) Q E s') E s) :
 wpAny (model pg w) A (do
  let (f,first)<-holding [co] (calleeOf true o env co name)
  let callPos<-methodCallPos true o env apos pos
  callWith callPos f first (backTo pos (starEach as env)) (backToKw pos (keywordEach [] env))) Q E s:=by
 refine Z0d (Z1b (Z1c h (λp s' hp=>?_) λJ J x=>x))
 obtain⟨f,first⟩:=p
 unfold methodCallPos
 refine re hpos ?_
 exact Z0d (Z0f hp)
theorem S8{o:Expr}{as:List Expr}{name:Str}{apos pos:Pos}(hst:as.any B7=false)(hsu:isSuper o=false)(hlen:as.length<=25)(hpos:(apos.endLine==pos.line)=true)
 (h:wpAny (model pg w) A (eval o env) (λco s1=>wpAny (model pg w) A (getMethod co name (do return (<-importBound o env).getD true)) (λp s'=>wpAny (model pg w) A (callWith pos p.1 p.2 (backTo pos (starEach as env)) []) Q E s') E s1) E s) :
 wpAny (model pg w) A (eval (.Call (.Attribute o name apos) as [] pos) env) Q E s:=by
 rw[arm_eval_Call,A54 hsu]
 refine Z0d (Z1c h (λco s1 h1=>?_) λJ J x=>x)
 refine Z0d (Z1r ?_)
 obtain⟨bb1,bb2⟩:=N0 (env:=env) (pos:=pos) hst
 have few:methodCallForm (as.length+([]:List Keyword).length) (backTo pos (starEach as env)) (backToKw pos (keywordEach [] env))=true:=by
  unfold methodCallForm;refine re bb2 ?_;show(true&&true&&decide (as.length+0+0<30))=true;rw[decide_eq_true (by lia)];rfl
 unfold methodCall
 refine re few ?_
 exact C8f hpos h1
theorem C5x{m:Nat}{o:V}{c:Cal}(h:A8k T m o H=some c):c= .b\/(c= .h/\m=10/\o= .bi 7):=by
 refine(or2 h).elim (λh=> .inl ?_) λh=>(or2 h).elim (λh=> .inl ?_) λh=>(or2 h).elim (λh=> .inl ?_) λh=>(or2 h).elim (λh=> .inl ?_) λh=>(or2 h).elim (λh=> .inl ?_) λh=> .inr ?_
 . exact R3 h λa h=>(bi (B0 h).2).elim λo h=>(or2 h.2).elim (λh=>Q6 h λJ h=>(Z0a h).symm) λh=>A4w h λJ h=>(Z0a h).symm
 . exact W2 h λa h=>(bi (B0 h).2).elim λo h=>A04 h.2 λJ h=>(Z0a h).symm
 . exact O3 h λJ h=>(K0 (B0 h).2).2.symm
 . exact A1f h λJ J J h=>(K0 h).2.symm
 . exact A6i h λh=>(K0 h).2.symm
 . exact A4u h λb h=>⟨(K0 (B0 h).2).2.symm,Z0e (B0 (B0 h).2).1,congrArg _ (Z0e (B0 h).1)⟩
theorem A3g[Og s og](hr:SoAll og w T cc gv A0 pc K D U r n){as:List Expr}{pos:Pos}{xas:X}{fu:Nat}{f:Value}{first:List Value}{kk:List V->Hp->Bool}(hst:as.any B7=false)(hc2:xl (as.map (cE cc env.scope.names fu))=some xas)
 (h:r.es xas l H kk kx=true) (cx:Cx D U n A env outer) (a:At gv (A2 T cc) A0 Θ H l env outer s.heap) (px:PX og gv (A2 T cc) A0 pc noX Θ H env outer s.heap kx E)
 (hc:PKs og gv (A2 T cc) A0 Θ H l env outer s.heap kk λcvs s2=>(∃k,Looks (model pg w) s2.heap (keeperOf f) k)/\wpAny (model pg w) A (call f (first ++ cvs)) Q E s2) :
 wpAny (model pg w) A (callWith pos f first (backTo pos (starEach as env)) []) Q E s:=
 M4 (N0 hst).1 (hr.es _ _ _ _ _ _ _ _ _ _ _ _ _ _ _ hc2 hst h cx a hc px)
theorem C2d[Og s og](G:GT w T cc gv mg mb A0 K)(hr:SoAll og w T cc gv A0 pc K D U r n){as:List Expr}{name:Str}{i:Nat}{pos:Pos}{xas:X}{fu:Nat}{ov:V}{co:Value}{c:Cal}{p:Nat × List (Nat × V)}{pl:Sem Bool}(hst:as.any B7=false)
 (hp:B9 name cc.attrs 0=some i) (hc2:xl (as.map (cE cc env.scope.names fu))=some xas) (eI:Z6 H ov=some p) (ec:A9c T i p.1 p.2=some c)
 (h:r.es xas l H (λvs h=>A6n T r c i ov vs h k kx) kx=true) (cx:Cx D U n A env outer) (a:At gv (A2 T cc) A0 Θ H l env outer s.heap) (vr:VR gv Θ H.n ov co)
 (pk:PK og gv (A2 T cc) A0 Θ H l env outer s.heap k Q) (px:PX og gv (A2 T cc) A0 pc noX Θ H env outer s.heap kx E) :
 wpAny (model pg w) A (getMethod co name pl) (λp s'=>wpAny (model pg w) A (callWith pos p.1 p.2 (backTo pos (starEach as env)) []) Q E s') E s:=by
 refine K6 (C12 ec) λcl' f q'3 e1 e2 e3=>?_
 obtain⟨x,C,dx,m,cl,q,g0,CO,z,g1,g2,g3,g4⟩:=A6p G a.st vr eI
 refine D6 (CO.meth _ _ _ hp (Z0a (e2.symm.trans g0)▸e3)) λfa q1 q2 q3=>?_
 have hm:m name=none:=by
  haveI:=g4.at hp;rw[e1] at this;exact this
 rw[q] at vr ⊢
 refine A7r (G.kin.keeps a.st.stays) CO.k g2 g3 hm q1 q2 (A3g (f:= .ref fa) (first:= [.ref x]) hr hst hc2 h cx a px λvs H2 hk2 Θ2 cvs s2 xx2 a2 vr2 J=>⟨U7 q3.keep (G.kin.keeps a2.st.stays),?_⟩)
 rw[q'3] at hk2
 exact Z2g (hr.c f fa _ _ _ _ _ _ _ _ _ _ q3 hk2 cx.ca a2.st ⟨vr.ext xx2,vr2⟩ (B3m (pk.on xx2) (px.on xx2) a2 cx.frame))
theorem C6n[Og s og](G:GT w T cc gv mg mb A0 K)(hr:SoAll og w T cc gv A0 pc K D U r n){as:List Expr}{pos:Pos}{xas:X}{fu:Nat}{pl:Sem Bool}{ov:V}(hst:as.any B7=false)
 (hc2:xl (as.map (cE cc env.scope.names fu))=some xas) (h:r.es xas l H (λvs h=>A6n T r .h 10 ov vs h k kx) kx=true) (cx:Cx D U n A env outer) (a:At gv (A2 T cc) A0 Θ H l env outer s.heap)
 (pk:PK og gv (A2 T cc) A0 Θ H l env outer s.heap k Q) (px:PX og gv (A2 T cc) A0 pc noX Θ H env outer s.heap kx E) :
 wpAny (model pg w) A (getMethod (.type "bytes") (Str.ofString "fromhex") pl) (λp s'=>wpAny (model pg w) A (callWith pos p.1 p.2 (backTo pos (starEach as env)) []) Q E s') E s:=by
 have kp:∀b o,s.heap.get? b=some o->(s.heap.push S5).get? b=some o:=λJ J e=>Z0h _ e
 have sz:s.heap.objs.size<=(s.heap.push S5).objs.size:=by rw[Heap.size_push];exact Z1d _
 have X1:Ext (frs (env :: outer)) noX Θ H.n s.heap Θ H.n (s.heap.push S5):=Ext.keeps kp sz
 refine D2q (G.kin.keeps a.st.stays) (A3g (s:={s with heap:=s.heap.push S5,toks:=s.toks+1}) (f:= .ref s.heap.objs.size) (first:= []) hr hst hc2 h cx (a.keeps kp sz) (px.on X1) λvs H2 hk2 Θ2 cvs s2 xx2 a2 vr2 J=>?_)
 have hb:s2.heap.get? s.heap.objs.size=some S5:=
  (xx2.keep _ _ (Z0r _ rfl) (λi hi=>⟨Z0q (a.st.lt i hi).1,Z0q (a.st.lt i hi).2⟩) (λq=>q)).1 λq=>(a.st.frames.mem q).elim λJ x=>x.elim λx e=>absurd (Z0i e.1) (Z1e _)
 refine⟨C6k hb,?_⟩
 revert vr2
 refine M6 (I9 hk2) λv h vr2=>?_
 refine A1 vr2.one λc q'3 h1=>?_
 subst q'3
 refine M5 h h1 λx t h=>?_
 refine A1 (mi h) λb eh h=>?_
 exact D0d hb eh λt tk=>((pk.on X1).on xx2).here (s:=s2) a2 h (λJ J e=>e) (Z0g _) ⟨t,rfl⟩
theorem C7o[Og s og](G:GT w T cc gv mg mb A0 K)(hr:SoAll og w T cc gv A0 pc K D U r n){o:Expr}{as:List Expr}{name:Str}{i:Nat}{apos pos:Pos}{xo xas:X}{fu:Nat}(hst:as.any B7=false)(hsu:isSuper o=false)(hlen:as.length<=25)(hpos:(apos.endLine==pos.line)=true)
 (hp:B9 name cc.attrs 0=some i) (hc1:cE cc env.scope.names fu o=some xo) (hc2:xl (as.map (cE cc env.scope.names fu))=some xas)
 (h:B3l T r xo i xas l H k kx=true) (cx:Cx D U n A env outer)
 (a:At gv (A2 T cc) A0 Θ H l env outer s.heap) (pk:PK og gv (A2 T cc) A0 Θ H l env outer s.heap k Q) (px:PX og gv (A2 T cc) A0 pc noX Θ H env outer s.heap kx E):wpAny (model pg w) A (eval (.Call (.Attribute o name apos) as [] pos) env) Q E s:=by
 refine S8 hst hsu hlen hpos (hr.e _ _ _ _ _ _ _ _ _ _ _ _ _ _ hc1 h cx a ?_ px)
 intro ov H1 hk1 Θ1 co s1 xx1 a1 vr1 J
 refine A1 (R0 hk1) λc ec hk1=>?_
 replace pk:=pk.on xx1
 replace px:=px.on xx1
 unfold B6m at ec
 cases eI:Z6 H1 ov with
 |some p=>exact C2d G hr hst hp hc2 eI (by rw[eI] at ec;exact ec) hk1 cx a1 vr1 pk px
 |none=>
  rw[eI] at ec;rcases C5x ec with rfl | ⟨rfl,rfl,rfl⟩
  . refine A1 (D3m (A:=A) (E:=E) G a1.st hp ec vr1) λid hid gm=>?_;exact gm _ _ (A3g (f:= .builtin id) (first:= [co]) hr hst hc2 hk1 cx a1 px λvs H2 hk2 Θ2 cvs s2 xx2 a2 vr2 J=>⟨H6,C7z G a2.st hk2 hid (vr1.ext xx2) vr2 (B8g (pk.on xx2) a2 cx.frame)⟩)
  . obtain rfl:=G.aname hp (y:=Str.ofString "fromhex") rfl;exact Z0a vr1▸C6n G hr hst hc2 hk1 cx a1 pk px
theorem D4d[Og s og](G:GT w T cc gv mg mb A0 K)(hr:SoAll og w T cc gv A0 pc K D U r n){ks:List (Option Expr)}{vs:List Expr}{dp apos pos:Pos}{name:Str}{e d:Expr}{es:List (V × V)}{xe xd:X}{fu:Nat}
 (hn:E0 name A8b=true) (h1:B7 e=false) (h2:B7 d=false) (hpos:(apos.endLine==pos.line)=true) (hd:A3j ks vs=some es) (hc1:cE cc env.scope.names fu e=some xe) (hc2:cE cc env.scope.names fu d=some xd)
 (h:B3c r es xe xd l H k kx=true) (cx:Cx D U n A env outer)
 (a:At gv (A2 T cc) A0 Θ H l env outer s.heap) (pk:PK og gv (A2 T cc) A0 Θ H l env outer s.heap k Q) (px:PX og gv (A2 T cc) A0 pc noX Θ H env outer s.heap kx E):wpAny (model pg w) A (eval (.Call (.Attribute (.Dict ks vs dp) name apos) [e,d] [] pos) env) Q E s:=by
 refine B3r (C6h hd) λps l' po q'7 q'8 hlen hne nd hcv=>?_
 subst q'7
 subst q'8
 have hst: [e,d].any B7=false:=by simp only[List.any_cons,List.any_cons,h1,h2];rfl
 obtain rfl:=(J3 _ _).mp hn
 refine S8 hst rfl (by show 2<=25;decide) hpos (C0p po hne hlen (B74 _) s _ _ rfl λv h' tk kp sz p=>?_)
 refine K6 p λad kvs q'9 hsz hD hK=>?_
 clear p
 subst q'9
 rw[merged_nil_of_nodup _ (by rw[D1w hK];exact nd)] at hD
 haveI X1:Ext (frs (env :: outer)) noX Θ H.n s.heap Θ H.n h':=Ext.keeps kp sz
 have M:=hD.mapOf
 refine Z5g (s:={s with heap:=h',toks:=tk}) M.typeIs F.plainAttrs_dict Z5l F.type_dict_get M.noDict ?_
 refine A3g (s:={s with heap:=h',toks:=tk}) (f:= .builtin "dict.get") (first:= [.ref ad]) (fu:=fu) (xas:= .cons xe (.cons xd .nil)) hr hst (by simp only[List.map_cons,List.map_cons,hc1,hc2];rfl) h cx (a.keeps kp sz) (px.on X1) λus H2 hk2 Θ2 cvs s2 xx2 a2 vr2 J=>⟨H6,?_⟩
 refine B20 a2.st hk2 ?_ (C5u M λo eo=>?_) (λst=>B5z st hcv hK) vr2 (B8g ((pk.on X1).on xx2) a2 cx.frame)
 . refine beq_eq_false_iff_ne.mpr λq=>?_
   refine B4 G.sysm λb o q1 q2=>?_
   exact absurd (Z0b (Z1f q1 (Z0i (a.st.stays _ _ q2))) (q▸hsz)) (Z1e _)
 . exact(xx2.keep _ _ eo (λi hi=>⟨Z0q (Z0b (a.st.lt i hi).1 hsz),Z0q (Z0b (a.st.lt i hi).2 hsz)⟩) (λq=>q)).1 λq=>(a.st.frames.mem q).elim λJ x=>x.elim λx e=>absurd (Z0b (Z0i e.1) hsz) (Z1e _)
theorem D2c{m:Nat}{vs:List V}{p:Nat × Nat}(h:B1l m vs=some p):m=2/\vs= [.int (.ofNat p.1), .wl p.2 1]:=by
 refine⟨Z0e (B0 h).1,?_⟩;refine Q5 (B0 h).2 λa b h=>J4 h λa h=>R4 h λa h=>B2n h λi k h=>?_;rw[Z0e (K0 h).1,<-(K0 h).2]
theorem C4k{h:Heap}{i j:Nat}(S:St gv an A0 Θ H fs h)(hi:i<H.n)(hk:B0s i j H k=true) :
 ∃z,k (.int z) H=true/\z=if ((Θ.gh i).wn:Int) - ((1:Nat):Int)<Int.ofNat j then ((Θ.gh i).wn:Int) - ((1:Nat):Int) else Int.ofNat j:=by
 refine A1 (bi (I9 hk)) λo eo hk=>?_
 haveI x:=S.is hi eo
 revert x
 refine A2v hk λc ws t hk x=>?_
 obtain⟨_,hk⟩:=B0 hk
 obtain⟨c1,c2,vs,e,path,l1,l2,l3,l4,l5,l6⟩:=x
 clear l1 l3 l5 l6
 refine rs l4 ?_
 refine(bBo hk).elim (λhk=>?_) λhk=>?_
 . haveI q:=Z0l hk.1
   rw[D0] at q
   exact A6 _ (G1 hk.2) ((Z0m (by simp only[Int.ofNat_eq_natCast];lia)).symm)
 . obtain⟨q,hk⟩:=hk
   obtain⟨q2,hk⟩:=B0 hk
   obtain⟨q3,hk⟩:=A2b hk
   rw[C8,decide_eq_false_iff_not,D0] at q
   cases t with
   |node _ _ _=>exact ff q2
   |leaf=>
    obtain rfl:path= []:=l2;cases ws with
    |nil=>exact ff q3.symm
    |cons w0 ws=>
     refine A6 _ (G1 hk) ?_;show((len ws:Nat):Int)=_;rw[D0];dsimp only[List.length_cons,List.length_nil,Int.ofNat_eq_natCast] at q ⊢;split <;> lia
theorem D1h{m:Nat}{co:Value}{M:Model}{h:Heap}(e:O9 m=some co):∃k,Looks M h (keeperOf co) k:=by
 have q:(match (generalizing:=false) co with | .builtin _=>true | .type _=>true | _=>false)=true:=Z1n.mp (show biL.all (λco=>match co with | .builtin _=>true | .type _=>true | _=>false)=true by decide) _ (Z1p e)
 clear e;cases co <;> first | exact H6 | exact⟨.machine, .now⟩ | exact ff q
theorem C9m[Og s og](G:GT w T cc gv mg mb A0 K){m:Nat}{co:Value}{vs:List V}{cvs:List Value}(h:B68 T m vs H k=true)(ca:A.handled=none)(hf:env.frame=some env.locals)
 (a:At gv (A2 T cc) A0 Θ H l env outer s.heap) (vr1:O9 m=some co) (vr2:VRs gv Θ H.n vs cvs) (pk:PK og gv (A2 T cc) A0 Θ H l env outer s.heap k Q):wpAny (model pg w) A (call co cvs) Q E s:=by
 refine(oBc h).elim (λh=>?_) λh=>?_
 . exact A1 (T2 h) λv e hk=>C24 G a.st ca e vr1 vr2 λcv s' k1 k2 vr=>pk.here a hk k1 k2 vr
 . refine A1 h λp ew h2=>?_
   clear h
   obtain⟨rfl,rfl⟩:=D2c ew
   obtain rfl:=Z0a vr1
   obtain⟨c1,c2,rfl,⟨t,rfl⟩,hi,u,rfl⟩:=vr2.two
   refine D6 (B8d h2 hi a.st) λH3 hk3 e3 S3=>?_
   refine A1 (C4k S3 (by rw[e3];exact hi) hk3) λz hk4 ez=>?_
   refine A7z ca λh' tk k1 k2=>(pk.on (Ext.rv e3 (Θ:=Θ) (H:=H) (h:=s.heap))).here (s:=s) (a.rv e3 S3) hk4 k1 k2 ?_
   refine re ez ?_
   split <;> exact⟨_,rfl⟩
theorem D3i[Og s og](G:GT w T cc gv mg mb A0 K)(hP:N9 og w T cc gv A0 pc K D U P)(hr:SoAll og w T cc gv A0 pc K D U r n){m:Nat}{co:Value}{vs:List V}{cvs:List Value}
 (h:oB (P m vs H k kx) (oB (BtG T.fns (Nat.succ m)) (A4z T r m vs H k kx) λf=>r.call f vs H k kx) (λb=>b)=true) (ca:CA D U (n+1) A (env :: outer)) (hf:env.frame=some env.locals)
 (a:At gv (A2 T cc) A0 Θ H l env outer s.heap) (vr1:gv m=some co) (vr2:VRs gv Θ H.n vs cvs) (pk:PK og gv (A2 T cc) A0 Θ H l env outer s.heap k Q) (px:PX og gv (A2 T cc) A0 pc noX Θ H env outer s.heap kx E) :
 (∃k,Looks (model pg w) s.heap (keeperOf co) k)/\wpAny (model pg w) A (call co cvs) Q E s:=by
 have KI:K.In s.heap:=G.kin.keeps a.st.stays
 obtain⟨fa,rfl⟩:=G.ref _ _ vr1
 haveI pcc:=B3m pk px a hf
 cases eP:P m vs H k kx with
 |some b=>
  rw[eP] at h;exact(hP m vs H k kx (eP.trans (congrArg some h)) fa A (env :: outer) s Θ cvs _ vr1 (ca.low (Z1y _)) a.st vr2 pcc).elim λq1 q2=>⟨U7 q2 KI,Z2g q1⟩
 |none=>
  rw[eP] at h;refine(oBc (show oB (BtG T.fns (Nat.succ m)) (A4z T r m vs H k kx) (λf=>r.call f vs H k kx)=true from h)).elim (λh=>(C9g G hr.c h vr1 ca a.st vr2 pcc).elim λq1 q2=>⟨U7 q2 KI,Z2g q1⟩) λh=>?_;refine A1 h λf eF h2=>?_;refine A1 (G.fns _ _ eF) λfa' g1 fo=>?_;refine re (show fa=fa' from Value.ref.inj (Z0a (vr1.symm.trans g1))) ?_;exact⟨U7 fo.keep KI,Z2g (hr.c f fa' _ _ _ _ _ _ _ _ _ _ fo h2 (ca.low (Z1d n)) a.st vr2 pcc)⟩
theorem C35[Og s og](G:GT w T cc gv mg mb A0 K)(hP:N9 og w T cc gv A0 pc K D U P)(hr:SoAll og w T cc gv A0 pc K D U r n){as:List Expr}{id:Str}{p pos:Pos}{xo xas:X}{fu:Nat}(hst:as.any B7=false)
 (hc1:cE cc env.scope.names fu (.Name id p)=some xo) (hc2:xl (as.map (cE cc env.scope.names fu))=some xas)
 (h:B2f T P r xo xas l H k kx=true) (cx:Cx D U (n+1) A env outer)
 (a:At gv (A2 T cc) A0 Θ H l env outer s.heap) (pk:PK og gv (A2 T cc) A0 Θ H l env outer s.heap k Q) (px:PX og gv (A2 T cc) A0 pc noX Θ H env outer s.heap kx E):wpAny (model pg w) A (eval (.Call (.Name id p) as [] pos) env) Q E s:=by
 have cx':=cx.low (Z1d n)
 obtain⟨bb1,bb2⟩:=N0 (env:=env) (pos:=pos) hst
 refine Z3f (hr.e _ _ _ _ _ _ _ _ _ _ _ _ _ _ hc1 h cx' a ?_ px)
 intro fv H1 hk1 Θ1 co s1 xx1 a1 vr1 J
 refine M4 bb1 (hr.es _ _ _ _ _ _ _ _ _ _ _ _ _ _ _ hc2 hst hk1 cx' a1 ?_ (px.on xx1))
 intro vs H2 hk2 Θ2 cvs s2 xx2 a2 vr2 J
 replace pk:=(pk.on xx1).on xx2
 replace px:=(px.on xx1).on xx2
 revert vr1
 refine(or2 (I9 hk2)).elim (λh=>?_) λh=>?_
 . exact A4u h λm h vr1=>⟨D1h vr1,C9m G (G1 h) cx.ca.hand cx.frame a2 vr1 vr2 pk⟩
 . exact W2 h λm h vr1=>D3i G hP hr (G1 h) cx.ca cx.frame a2 vr1 vr2 pk px
end
theorem A8p{M:Model}{Γ :Ctx}{p:Pos}{t:Sem Fin}{fs:List Frame}{s s':Shared}{e:End}(h:Runs M Γ p t fs s e s'):s.heap.objs.size<=s'.heap.objs.size:=by
 induction h <;> (try simp only[Shared.setGen,Heap.size_push,Heap.size_after_update] at *) <;> first | exact Z0g _ | assumption | (refine Z0c ?_ (by assumption);first | exact Z0g _ | exact Z1d _ | assumption) | omega
theorem B0e{M:Model}{Γ :Ctx}{p:Pos}{s s':Shared}{r:Result}(h:Returns M Γ p s r s'):s.heap.objs.size<=s'.heap.objs.size:=A8p h
theorem B97{M:Model}{Γ :Ctx}{p:Pos}{g:Nat}{r:Resume}{s s':Shared}{res:GenResult}(h:Wakes M Γ p g r s res s'):s.heap.objs.size<=s'.heap.objs.size:=by
 unfold Wakes at h;split at h
 . exact h.elim
 . split at h
   . obtain⟨e₁,s₁,hr,_,_,rfl⟩:=h;exact(A8p hr:(s.setGen g .running).heap.objs.size<=s₁.heap.objs.size)
   . rw[h.2];exact Z0g _
   . rw[h.2];exact Z0g _
 . obtain⟨e₁,s₁,hr,_,_,rfl⟩:=h;exact(A8p hr:(s.setGen g .running).heap.objs.size<=s₁.heap.objs.size)
 . rw[h.2];exact Z0g _
 . rw[h.2];exact Z0g _
theorem D5c{α:Type}(M:Model)(Γ :Ctx)(n:Nat)(t:Sem α):∀(Q:α->Pos->Shared->Prop) (E:Value->Pos->Shared->Prop) (p:Pos) (s:Shared),n<=s.heap.objs.size->Sem.wp M Γ t Q E p s->
 Sem.wp M Γ t (λa p' s'=>n<=s'.heap.objs.size/\Q a p' s') (λe p' s'=>n<=s'.heap.objs.size/\E e p' s') p s:=by
 induction t with
 |pure a=>intro Q E p s hn h;exact⟨hn,h⟩
 |raise e=>intro Q E p s hn h;exact⟨hn,h⟩
 |unsupported _=>intro Q E p s J h;exact h
 |finish _=>intro Q E p s J h;exact h
 |rule _ k ih=>intro Q E p s hn h;exact ih () Q E p s hn h
 | «at» p' k ih=>intro Q E p s hn h;exact ih () Q E p' s hn h
 |load a _ k ih=>intro Q E p s hn h;obtain⟨o,ho,h⟩:=h;exact⟨o,ho,ih o Q E p s hn h⟩
 |update a _ f k ih=>intro Q E p s hn h;exact⟨h.1,ih () Q E p _ (by rw[Heap.size_after_update];exact hn) h.2⟩
 |loadIfAlive a k ih=>intro Q E p s hn h;exact ih _ Q E p s hn h
 |point _ k ih=>intro Q E p s hn h;exact ih () Q E p s hn h
 |register _ _=>intro Q E p s J h;exact h
 |alloc o k ih=>intro Q E p s hn h;exact ih _ Q E p _ (by rw[Heap.size_push];exact Z5h hn) h
 |fresh k ih=>intro Q E p s hn h;exact ih _ Q E p _ hn h
 |ask k ih=>intro Q E p s hn h;exact ih _ Q E p s hn h
 |choose src m k ih=>intro Q E p s hn h;exact⟨h.1,ih _ Q E p _ hn h.2⟩
 |os q _ k ih=>intro Q E p s hn h;exact ih _ Q E p _ hn h
 |call c hd _ _ k ih=>intro Q E p s hn h;obtain⟨r,s',hr,h⟩:=h;exact⟨r,s',hr,ih r Q E p s' (Z0c hn (B0e hr)) h⟩
 |handled own k ih=>intro Q E p s hn h;exact ih _ Q E p s hn h
 |genState g k ih=>intro Q E p s hn h;obtain⟨st,hs,h⟩:=h;exact⟨st,hs,ih _ Q E p s hn h⟩
 |newGen c k ih=>intro Q E p s hn h;exact ih _ Q E p _ hn h
 |resume g r _ k ih=>intro Q E p s hn h;obtain⟨res,s',hw,h⟩:=h;exact⟨res,s',hw,ih res Q E p s' (Z0c hn (B97 hw)) h⟩
 |yield _ _ _ _=>intro Q E p s J h;exact h
 |stack k ih=>intro Q E p s hn h;exact ih _ Q E p s hn h
 |fork _ _=>intro Q E p s J h;exact h
 |thread k ih=>intro Q E p s hn h;exact ih _ Q E p s hn h
 |await _ _ _ _ _=>intro Q E p s J h;exact h
section
variable{α:Type}{M:Model}
theorem P7{t:Sem α}{Q:α->Shared->Prop}{E:Value->Shared->Prop}(h:wpAny M A t (λa s'=>s.heap.objs.size<=s'.heap.objs.size->Q a s') E s):wpAny M A t Q E s:=
 fun Γ p hΓ =>(Z1c (M:=M) (A:=A) (t:=t) (s:=s) (Q:=λa s'=>s.heap.objs.size<=s'.heap.objs.size/\(s.heap.objs.size<=s'.heap.objs.size->Q a s')) (E:=λe s'=>s.heap.objs.size<=s'.heap.objs.size/\E e s')
  (fun Γ p hΓ =>D5c M Γ _ t _ _ p s (Z0g _) (h Γ p hΓ)) (λJ J x=>x.2 x.1) (λJ J x=>x.2)) Γ p hΓ
theorem B5p{c:Code}{R:Result->Shared->Prop}(h:codeAny M A c (λr s'=>s.heap.objs.size<=s'.heap.objs.size->R r s') s):codeAny M A c R s:=fun Γ p hc hΓ =>by
 obtain⟨r,s',hr,hR⟩:=h Γ p hc hΓ;exact⟨r,s',hr,hR (B0e hr)⟩
end
section
variable{prog:Program}{w:World}
theorem B9g{s:Shared}{elt iter:Expr}{x:Str}{px:Pos}{ifs:List Expr}{scope:Scope}{pos:Pos}{Q:Value->Shared->Prop}(p:Value->Bool)(F:Value->Value->Prop)
 (hfree:∀y∈scope.names,y.2≠ .free) (hcell:∀y∈scope.names,y.2≠ .cell) (hkind:scope.kind= .function)
 (hnames:∀y∈scope.names,y.2= .local->scope.names.lookup y.1=some .local) (hx:scope.names.lookup x=some .local)
 (h:wpAny (model prog w) A (eval iter env) (λxv s₁=>wpAny (model prog w) A (pyIter xv) (λit s₂=>∃I fp wr n P St,it= .ref I/\Walks prog w A I fp wr n P St/\n<=sizeLine/\St 0 s₂.heap/\(∀b∈fp,b<s₂.heap.objs.size)/\
  QuietOn prog w A env scope x ifs elt wr P p F s₂/\
  (∀D h' tk ys (vs:List Value),s₂.heap.get? D=none->h'.IsList D ys->h'.PlainList D ys->vs.length=n->(∀j v,vs[j]?=some v->P j v)->Paired F (vs.filter p) ys.toList->
   (∀b o,b∉wr->s₂.heap.get? b=some o->h'.get? b=some o)->s₂.heap.objs.size<=h'.objs.size->Q (.ref D) {s₂ with heap:=h',toks:=tk})) E s₁) E s)
 (hs:∀x,foldedSetIterable iter env x=pure x):wpAny (model prog w) A (eval (.ListComp elt [⟨.Name x px,iter,ifs,0⟩] scope pos) env) Q E s:=by
 refine wpAny_ListComp hfree hkind hnames (Z1c h (λxv s₁ h₁=>Z1c h₁ (λit s₂ h₂=>?_) λJ J e=>e) λJ J e=>e) hs
 obtain⟨I,fp,wr,n,P,St,rfl,W,hsz,hst,hfp,hq,hQ⟩:=h₂
 refine P7 (Z1c (comp_block_walk (RR:=λacc cenv r s'=>s₂.heap.objs.size<=s'.heap.objs.size->∃m,s'.heap.Ns cenv.locals m/\∀h',Heap.SameBut cenv.locals s'.heap h'->
  match r with | .ok _=>Q acc {s' with heap:=h'} | .error x=>wpAny (model prog w) A (passOn "comprehension.variables-let-go" x cenv) Q E {s' with heap:=h'}) W hsz p F hcell hkind hx hst hfp hq ?_)
  (λacc s₃ h₃ z₃=>P7 (Z1c h₃ (λcenv s₄ h₄ z₄=>B5p (codeAny_mono h₄ λr s₅ h₅ z₅=>h₅ (Z0c z₃ (Z0c z₄ z₅)))) λJ J e=>e)) λJ J e=>e)
 intro D C h' tk m' ys vs hD hC hDC hn hl hpl hlen hP hF hk hz
 exact⟨m',hn,λh'' hs''=>hQ D h'' tk ys vs hD (hl.extBut hs''.extBut hDC) (hpl.extBut hs''.extBut hDC) hlen hP hF (λb o hbf e=>hs''.extBut b o (by rintro rfl;rw[hC] at e;cases e) (hk b o hbf e)) (by rw[hs''.1];exact hz)⟩
end
section
variable{M:Model}
theorem B67(a c:Nat):(([a]:List Nat) < [c]) ↔ a<c:=by
 constructor
 . intro h;cases h with | rel h=>exact h | cons h=>cases h
 . intro h;exact .rel h
theorem D4f:Keeps s s:=⟨s.heap,s.toks,rfl,λJ J e=>e⟩
theorem B0h{t:Nat}:Keeps s {s with toks:=t}:=⟨s.heap,t,rfl,λJ J e=>e⟩
inductive FoldE(x:Str):Expr->Prop
 |mk (k1 k2:Nat) (p1 p2 q1 q3 q4 pc q apos cpos:Pos) (hp:(apos.endLine==cpos.line)=true):FoldE x (.IfExp (.Compare (.Constant (.str (Str.ofString "a")) k1 p1) [.LtE, .LtE] [.Name x q1, .Constant (.str (Str.ofString "z")) k2 p2] pc)
  (.Call (.Attribute (.Name x q3) (Str.ofString "upper") apos) [] [] cpos) (.Name x q4) q)
theorem ba{a b:Bool}(h:(a&&b)=true):a=true/\b=true:=Z1j.mp h
theorem A29{x:Str}{e:Expr}(h:A1q x e=true):∃p,e= .Name x p:=A0u (iss h) λy p h=>⟨p,by rw[(J3 _ _).mp (ifs h).1]⟩
theorem B2z{x:Str}{e:Expr}(h:A7c x e=true):∃k p,e= .Constant (.str x) k p:=(bi (iss h)).elim λy h=>A9j h.1 λk p=>⟨k,p,by rw[(J3 _ _).mp (ifs h.2).1]⟩
theorem C1w{x:Str}{e:Expr}(h:B3i x e=true):∃k1 k2 p1 p2 q1 pc,e= .Compare (.Constant (.str (Str.ofString "a")) k1 p1) [.LtE, .LtE] [.Name x q1, .Constant (.str (Str.ofString "z")) k2 p2] pc:=by
 refine D0k (iss h) λl os rs pc h=>Q5 h λy z h=>?_;obtain⟨h1,h2⟩:=ba (ifs h).1;refine F9 (B2z (ba h1).2) λk1 p1 e1=>?_;obtain⟨q1,e2⟩:=A29 (ba h2).1;refine F9 (B2z (ba h2).2) λk2 p2 e3=>?_;exact B2k k1 k2 p1 p2 q1 pc (by simp only[of_decide_eq_true (ba h1).1,e1,e2,e3])
theorem D7d{x:Str}{e:Expr}(h:B15 x e=true):∃q3 apos cpos,e= .Call (.Attribute (.Name x q3) (Str.ofString "upper") apos) [] [] cpos/\(apos.endLine==cpos.line)=true:=by
 refine B5k (iss h) λg es ks cpos h=>A41 h λy up apos h=>?_;obtain⟨h1,h2⟩:=ba (ifs h).1;obtain⟨h3,h4⟩:=ba h1;obtain⟨q3,e⟩:=A29 h4;exact A31 q3 apos cpos (by simp only[e,(J3 _ _).mp (ba h2).1,List.isEmpty_iff.mp (ba h3).1,List.isEmpty_iff.mp (ba h3).2]) ((ba h2).2)
theorem B9p{x:Str}{e:Expr}(h:A3q x e=true):FoldE x e:=by
 refine B9y (iss h) λt b o q h=>?_;obtain⟨h1,h2⟩:=ba (ifs h).1;refine C6y (C1w h1) λk1 k2 p1 p2 q1 pc e1=>?_;refine Q0 (D7d (ba h2).1) λq3 apos cpos e2 hp=>?_;obtain⟨q4,e3⟩:=A29 (ba h2).2;rw[e1,e2,e3];exact .mk _ _ _ _ _ _ _ _ _ _ _ hp
theorem D2b{sc:Scope}{C:Addr}{x:Str}{elt:Expr}{c:Nat}{u:Tok}{m:Str->Option Value}(he:FoldE x elt)(hk:sc.kind= .function)(hl:sc.names.lookup x=some .local)(hd:(x==("__debug__" :Str))=false)
 (hn:s.heap.Ns C m) (hv:m x=some (.str ⟨#[c]⟩ u)):wpAny (model pg w) A (eval elt (compEnv sc C env)) (λy s'=>(∃t,y= .str (sOf [upC c]) t)/\Keeps s s') E s:=by
 obtain⟨k1,k2,p1,p2,q1,q3,q4,pc,q,apos,cpos,hp⟩:=he
 have nm:∀{tk:Nat} {p:Pos} {Q:Value->Shared->Prop},Q (.str ⟨#[c]⟩ u) {s with toks:=tk}->wpAny (model pg w) A (eval (.Name x p) (compEnv sc C env)) Q E {s with toks:=tk}:=
  λh=>Z3g (Z2k hk hl hn hv h) hd
 refine wpAny_IfExp (isTrue_chain ?_)
 refine Z2i ?_
 refine test_link (nm (P.le_str (Z1a ?_)))
 haveI za:(Str.ofString "a").cps.toList= [97]:=rfl
 haveI zz:(Str.ofString "z").cps.toList= [122]:=rfl
 haveI e1:decide (({cps:=#[c]}:Str).cps.toList<(Str.ofString "a").cps.toList)=decide (c<97):=by rw[za];exact decide_eq_decide.mpr (B67 _ _)
 haveI e2:decide ((Str.ofString "z").cps.toList<({cps:=#[c]}:Str).cps.toList)=decide (122<c):=by rw[zz];exact decide_eq_decide.mpr (B67 _ _)
 have done:upC c=c->∀tk,wpAny (model pg w) A (eval (.Name x q4) (compEnv sc C env)) (λy s'=>(∃t,y= .str (sOf [upC c]) t)/\Keeps s s') E {s with toks:=tk}:=
  λe tk=>nm ⟨⟨u,by rw[e];rfl⟩,B0h⟩
 have ec:upC c=if 97<=c/\c<=122 then c - 32 else c:=by
  unfold upC;rw[Z7];simp only[Bool.and_eq_true,C8,decide_eq_true_eq];rfl
 refine re e1 ?_
 by_cases a:c<97
 . rw[decide_eq_true a]
   exact done (by rw[ec,Z0m λz=>absurd z.1 (Nat.not_le.mpr a)]) _
 rw[Z1h a,Z0p (by decide)]
 refine test_last ?_
 refine Z2i (P.le_str (Z1a ?_))
 refine re e2 ?_
 by_cases b:122<c
 . rw[decide_eq_true b]
   exact done (by rw[ec,Z0m λz=>absurd z.2 (Nat.not_le.mpr b)]) _
 rw[Z1h b,Z0p (by decide)]
 refine S8 rfl rfl (by decide) hp (nm (GM.upper (M4 rfl (Z0x ⟨H6,?_⟩))))
 have r:97<=c/\c<=122:=⟨Z1g.mp a,Z1g.mp b⟩
 haveI asc:∀d∈(sOf [c]).cps.toList,d<128:=λd hd'=>Z0s.mp hd'▸Z0t r.2 (by decide)
 have eu:Txt.upper ⟨#[c]⟩=sOf [upC c]:=by
  show Txt.upper (sOf [c])=_;rw[upper_ascii asc,ec,Z0p r];unfold sOf;simp only[List.map_toArray,List.map_cons,List.map_nil];rw[up1,Z0p r]
 refine SC.upper ?_ ?_
 . rw[eu];rfl
 . rw[eu];exact⟨⟨_,rfl⟩,B0h⟩
theorem B4u{y:Str}{ns:Ns}(a:∀p∈ns,p.2= .local)(h:y∈ns.map (·.1)):ns.lookup y=some .local:=by
 induction ns with
 |nil=>exact nomatch h
 |cons p ns ih=>
  refine(List.lookup_cons ..).trans ?_;cases e:y==p.1 with
  |true=>exact congrArg some (a p (.head _))
  |false=>exact ih (λq hq=>a q (.tail _ hq)) ((List.mem_cons.mp h).elim (λz=>absurd z (beq_eq_false_iff_ne.mp e)) id)
theorem C5o:∀{vs:List Value} {ys:List Value} {cs:Tx},Paired (λ(v y:Value)=>∀c u,v=Value.str ⟨#[c]⟩ u->∃t,y=Value.str (sOf [upC c]) t) vs ys->vs.length=cs.length->(∀(j:Nat) (v:Value),vs[j]?=some v->∃c u,cs[j]?=some c/\v=Value.str ⟨#[c]⟩ u)->
 StrsAre ys ((cs.map λc=> [upC c]).map sOf)
 |vs,ys,cs,h,hl,hP=>by
  induction h generalizing cs with
  |nil=>cases cs with
   |nil=>exact .nil
   |cons c cs=>cases hl
  |cons h0 _ ih=>cases cs with
   |nil=>cases hl
   |cons c cs=>
    refine B4 (hP 0 _ rfl) λc' u e q'17=>?_;subst q'17;replace e:=Z0a e;subst e;obtain⟨t,rfl⟩:=h0 _ _ rfl;exact .cons _ _ (ih (cs:=cs) (by simpa using hl) λj v e=>hP (j+1) v e)
theorem B6x(s:Tx):(s.map λc=> [upC c]).flatten=upA s:=by
 induction s with
 |nil=>rfl
 |cons c s ih=>show upC c :: _=_;rw[ih];rfl
theorem C4n(s:Tx):(upA s).length=s.length:=by
 induction s with
 |nil=>rfl
 |cons c s ih=>show(upA s).length+1=_;rw[ih];rfl
end
section
variable{K:Frag}{D U:Nat}
variable{k:MineE.K}{kx:MineE.K}{Q:Value->Shared->Prop}
theorem C64{y:Str}{sc:Scope}(h:A4j y sc=true):sc.kind= .function/\(∀p∈sc.names,p.2= .local)/\sc.names.lookup y=some .local/\(y==("__debug__" :Str))=false:=by
 refine A8 (ba h) λh h5=>?_;obtain⟨h,h4⟩:=ba h;obtain⟨h,_⟩:=ba h;obtain⟨h1,h2⟩:=ba h;have al:∀p∈sc.names,p.2= .local:=λp hp=>eq_of_beq (Z1n.mp h2 p hp);refine T4 (eq_of_beq h1) al (?_) (?_)
 . cases e:B9 y (sc.names.map (·.1)) 0 with
   |none=>rw[e] at h4;exact ff h4
   |some i=>exact B4u al (Z1p (V2 e).2)
 . rw[beq_eq_false_iff_ne];intro e;rw[Bool.not_eq_true',(J3 _ _).mpr e] at h5;cases h5
noncomputable abbrev UpR(v r:Value):Prop:=∀c u,v=Value.str ⟨#[c]⟩ u->∃t,r=Value.str (sOf [upC c]) t
theorem C9e{st:Tx}{D':Addr}{ys vs:List Value}{tj:Tok}(hs:st.length<=4000)(hlD:s.heap.IsList D' ys.toArray)(hlen:vs.length=st.length)(hP:∀(j:Nat) v,vs[j]?=some v->SignAt (sOf st) j v)(hF:Paired UpR vs ys)
 (k:∀t tk,Q (.str (sOf (upA st)) t) {s with toks:=tk}):wpAny (model pg w) A (call (.builtin "str.join") [.str Str.empty tj, .ref D']) Q E s:=by
 refine join_list (ys:=(st.map λc=> [upC c]).map sOf) hlD (C5o (cs:=st) hF hlen λj v e=>?_) ?_ (λt' kk=>?_)
 . refine B4 (hP j v e) λc u e1 e2=>?_
   exact L7 c u (by rw[<-A83 st,Array.getElem?_toList];exact e1) e2
 . rw[show Str.empty=sOf [] from rfl,B7w,B6x,C4n,F4];simp only[List.length_map];show _+_ * 0<=_;refine Z0c (by assumption) ?_;decide
 . rw[show Str.empty=sOf [] from rfl,B02,B6x]
   exact k t' kk
theorem D5y[Og s og](hr:SoAll og w T cc gv A0 pc K D U r n){z n' y:Str}{kz:Nat}{pz apos pos py lp:Pos}{elt it:Expr}{sc:Scope}{xi:X}{fu:Nat}(hz:E0 z Str.empty=true)(hj:E0 n' (Str.ofString "join")=true)(he:A3q y elt=true)(hs:A4j y sc=true)
 (hi:isSetE it=false) (hpos:(apos.endLine==pos.line)=true) (hc:cE cc env.scope.names fu it=some xi) (h:r.e xi l H (λv h=>opK (B00 v) h k) kx=true) (cx:Cx D U n A env outer)
 (a:At gv (A2 T cc) A0 Θ H l env outer s.heap) (pk:PK og gv (A2 T cc) A0 Θ H l env outer s.heap k Q) (px:PX og gv (A2 T cc) A0 pc noX Θ H env outer s.heap kx E) :
 wpAny (model pg w) A (eval (.Call (.Attribute (.Constant (.str z) kz pz) n' apos) [.ListComp elt [⟨.Name y py,it,[],0⟩] sc lp] [] pos) env) Q E s:=by
 obtain rfl:=(J3 _ _).mp hz
 obtain rfl:=(J3 _ _).mp hj
 have FE:=B9p he
 refine R2 (C64 hs) λhk al hx hd=>?_
 refine S8 rfl rfl (by show 1<=25;decide) hpos ?_
 refine Z2i (GM.join ?_)
 refine A8 (N0 (env:=env) (pos:=pos) (es:= [.ListComp elt [⟨.Name y py,it,[],0⟩] sc lp]) rfl) λbb1 bb2=>?_
 refine M4 bb1 ?_
 refine Z0n ?_
 refine B9g (λJ=>true) (λ(v r:Value)=>∀c u,v=Value.str ⟨#[c]⟩ u->∃t,r=Value.str (sOf [upC c]) t) (λp hp=>by rw[al p hp];decide) (λp hp=>by rw[al p hp];decide) hk (λp hp J=>B4u al (Z2q.mpr ⟨p,hp,rfl⟩)) hx
  (hr.e _ _ _ _ _ _ _ _ _ _ _ _ _ _ hc h cx (a.keeps (λJ J e=>e) (Z0g _)) ?_ px) ?_
 . intro v H1 hk1 Θ1 cv s1 xx1 a1 vr1 J
   refine A1 (T2 hk1) λv' ev hk1=>?_
   refine M5 ev vr1 λst u e=>?_
   clear ev vr1
   obtain⟨z,e⟩:=K0 e
   subst e
   haveI hs:=A0c z
   refine wpAny_pyIter_str λo Stt W hst=>?_
   refine⟨s1.heap.objs.size,[s1.heap.objs.size],[s1.heap.objs.size],(sOf st).cps.size,SignAt (sOf st),Stt,rfl,W A cx.ca.hand,?_,hst,?_,⟨?_,?_⟩,?_⟩
   . show(sOf st).length<=_
     rw[F4,sizeLine_eq];refine Z0c (by assumption) ?_;decide
   . intro b hb
     rw[Heap.size_push,Z0s.mp hb]
     exact Z0v _
   . intro C i v s3 m3 E' hP hn hm J J
     exact Z0f ⟨rfl,D4f⟩
   . intro C i v s3 m3 E' hP J hn hm J J
     refine B4 hP λc u J q'23=>?_
     clear hP
     subst q'23
     refine Z1c (D2b FE hk hx hd hn hm) (λr s4 h4=>⟨λc' u' e=>?_,h4.2⟩) λJ J e=>e
     cases e
     exact h4.1
   . intro D' h' tk ys vs hnew hlD hplD hlen hP hF hkp hsz
     rw[List.filter_eq_self.mpr λJ J=>rfl] at hF
     haveI up:∀b o',s1.heap.get? b=some o'->h'.get? b=some o':=λb o' e=>hkp b o' (old_not_new e) (Z0h _ e)
     refine Z0x ⟨H6,?_⟩
     exact C9e hs hlD hlen hP hF λt kk=>(pk.on xx1).here (s':={s1 with heap:=h',toks:=kk}) a1 hk1 up (Z0o (by have:=hsz;rw[Heap.size_push] at this;exact this)) ⟨t,rfl⟩
 . intro x;cases it <;> first | rfl | cases hi
end
section
variable{K:Frag}{D U:Nat}
theorem D23(hr:SoAll og w T cc gv A0 pc K D U r n):B7k og w T cc gv A0 pc D U (R6 T P r) (n+1):=by
 intro fu es x l H k kx A env outer s Θ pos Q E hc hst h cx a pk px J;cases es with
 |nil=>
  replace hc:=Z0a hc;subst hc;exact C3c h a pk
 |cons e es=>
  rw[List.any_cons,Bool.or_eq_false_iff] at hst;rw[List.map_cons] at hc;cases q:cE cc env.scope.names fu e with
  |none=>rw[q] at hc;exact nn hc
  |some x1=>
   rw[q] at hc;cases q2:xl (es.map (cE cc env.scope.names fu)) with
   |none=>unfold xl at hc;rw[q2] at hc;exact nn hc
   |some x2=>
    unfold xl at hc;rw[q2] at hc;replace hc:=Z0a hc;subst hc;exact D3y hr q q2 hst.1 hst.2 h (cx.low (Z1d n)) a pk px
theorem D60(G:GT w T cc gv mg mb A0 K)(hU:U<cLine)(hP:N9 og w T cc gv A0 pc K D U P)(hr:SoAll og w T cc gv A0 pc K D U r n):SoE og w T cc gv A0 pc D U (R6 T P r) (n+1):=by
 intro fu;induction fu with
 |zero=>intro e x l H k kx A env outer s Θ Q E hc J;exact nn hc
 |succ fu ih=>
  intro e x l H k kx A env outer s Θ Q E hc h cx a pk px J;have cx':=cx.low (Z1d n);have er:=A70 hc;clear hc;cases er with
  |const ev=>exact D5m ev h a pk
  |name hn=>exact C4x (P:=P) (r:=r) G hn h cx a pk
  |one h1=>exact BoolOp_one (ih _ x l H k kx A env outer s Θ Q E h1 h cx a pk px)
  |and h1 h2=>exact D7p hr h1 h2 h cx' a pk px
  |or h1 h2=>exact D1m hr h1 h2 h cx' a pk px
  |not h1=>exact B0w hr h1 A6f (λv v' cv s₁ Θ' n' Q' e vr q=>C4u e vr q) h cx' a pk px
  |neg h1=>exact B0w hr h1 A92 (λv v' cv s₁ Θ' n' Q' e vr q=>D4g e vr q) h cx' a pk px
  |bin ho h1 h2=>exact C6g hr ho h1 h2 h cx' a pk px
  |ite h0 h1 h2=>exact D6h hr h0 h1 h2 h cx' a pk px
  |cmp q h1 h2=>exact C2u G hU hr q h1 h2 h cx' a pk px
  |chain q h1 h2 h3=>exact D13 G hU hr q h1 h2 h3 h cx' a pk px
  |call hc=>
   clear ih;cases hc with
   |dget ks vs dp ap n e d es xe xd hn h1 h2 hp hd he hdd hx=>rw[hx] at h;exact D4d G hr hn h1 h2 hp hd he hdd h cx' a pk px
   |fold z kz pz n ap elt it y py lp sc xi hz hn he hs hi hp h1 hx=>rw[hx] at h;exact D5y hr hz hn he hs hi hp h1 h cx' a pk px
   |meth o n ap as i xo xa h1 h2 h3 hp hi ho ha hx=>rw[hx] at h;exact C7o G hr h1 h2 h3 hp hi ho ha h cx' a pk px
   |fn y p as xo xa h1 ho ha hx=>rw[hx] at h;exact C35 G hP hr h1 ho ha h cx a pk px
  |attr h1 h2 h3 h4=>exact C0c G hr h1 h2 h3 h4 h cx' a pk px
  |sub hs=>
   clear ih;cases hs with
   |slc lo hi p x1 x2 x3 h1 h2 h3 hx=>rw[hx] at h;exact D79 hr h1 h2 h3 h cx' a pk px
   |sub i x1 x2 h1 h2 hx=>rw[hx] at h;exact D7t G hr h1 h2 h cx' a pk px
  |list q h1=>exact C97 hr h1 q h cx' a pk px
  |tuple q h1=>exact D4x hr h1 q h cx' a pk px
end
theorem D7g{it t:Addr}{i:Nat}{items}{Q:Option Value->Shared->Prop}(hh:A.handled=none)
 (hit:s.heap.IsTupleIter it t i) (ht:s.heap.IsTuple t items) (hx:items[i]?=none)
 (hQ:∀h',Heap.ExtBut it s.heap h'->s.heap.objs.size<=h'.objs.size->Q none {s with heap:=h'}):wpAny (model pg w) A (pyNext (.ref it)) Q E s:=by
 refine D6 (id hit) λo ho hc hd=>?_
 obtain⟨ol,hol,_,nl,hdl⟩:=ht
 refine Z0d (wpAny_attempt (wpAny_callSpecial?_slot (name:=Str.ofString "__next__") hit.typeIs F.slot_tuple_iterator_next
  (wpAny_call_entry F.slot_tuple_iterator_next hit.typeIs F.entry_tuple_iterator_next ?_ (F.args_tuple_iterator_next_1 _))))
 show wpAny _ _ (field (.ref it) 0 >>= _) _ _ s
 refine Z0d (Z3r ho hd (x:= .ref t) rfl ?_)
 refine Z0d (Z3r ho hd (x:= .int i 0) rfl ?_)
 refine Z0d (wpAny_seqItems hol hdl ?_)
 simp only[Int.toNat_natCast,hx]
 refine Z0d (Z5j (Z0d (Z4v ho hd (by simp) ?_)))
 refine Z0d ?_
 refine Z0d (Z3l ?_ (by size_fits))
 refine Z0d (m:=firstArgMember _ _) (wpAny_of_eq (a:=Value.none) (by first | rfl | (simp only[firstArgMember];rfl)) ?_)
 refine Z3l ?_ (by size_fits)
 refine Z0d (wpAny_handled ?_)
 first | rw[show A.in1.handled=none from hh] | rw[hh]
 refine Z0d (Z0f (wpAny_throw ?_))
 refine Z0d (wpAny_isInstance (T:= "StopIteration") (b:=true) ⟨_,Z0r _ rfl,rfl⟩ isSubtype_stop ?_)
 exact Z0f (hQ _ (λc oc hc' ec=>by
  refine Z0h _ (Z0h _ ?_);rw[Z1s _ _ (Ne.symm hc')];exact ec) (by rw[Heap.size_push,Heap.size_push,Heap.size_after_update];lia))
theorem B54{t:Addr}{items:Array Value}{Q:List Value->Shared->Prop}(hh:A.handled=none)(ht:s.heap.IsTuple t items)
 (hQ:∀h',(∀b o,s.heap.get? b=some o->h'.get? b=some o)->s.heap.objs.size<=h'.objs.size->Q items.toList {s with heap:=h'}):wpAny (model pg w) A (unpackItems (.ref t) items.size none) Q E s:=by
 have hlt:t≠s.heap.objs.size:=by obtain⟨o,ho,_⟩:=ht;exact Z0k (Z0i ho)
 refine Z0d ?_
 . refine Z0d (wpAny_specialOf ht.typeIs F.slot_tuple_iter.lookup ?_)
   refine Z0f ?_
   refine Z0d (Z1b (Z4y ht ?_))
   refine Z0d (Z1b (wpAny_draw_tuple hlt items.size 0 _ _ ⟨_,Z0r _ rfl,rfl,rfl⟩ (ht.push _) (by lia) λh₁ hit₁ hs₁=>?_))
   have hall:List.take items.size (List.drop 0 items.toList)=items.toList:=by
    rw[List.drop_zero];exact Z2s (by simp)
   refine re hall ?_
   refine re (Z0m (by simp)) ?_
   haveI ht₁:h₁.IsTuple t items:=(ht.push _).extBut hs₁.extBut hlt
   refine Z0d (Z1b (D7g hh hit₁ ht₁ (by simp) λh₂ he₂ hz₂=>?_))
   haveI hz₁:=hs₁.1
   rw[Heap.size_push] at hz₁
   refine Z0f (hQ h₂ (λb o e=>?_) (by show s.heap.objs.size<=h₂.objs.size;have:h₁.objs.size<=h₂.objs.size:=hz₂;lia))
   haveI hb:b≠s.heap.objs.size:=Z0k (Z0i e)
   exact he₂ b o hb (hs₁.extBut b o hb (Z0h _ e))
section
variable{K:Frag}{D U:Nat}
theorem C57{m:Str->Option Value}{ns:Ns}{x:Str}{i:Nat}{kd:NameKind}{v:V}{cv:Value}{n':Nat}(nd:(ns.map (·.1)).Nodup)(hi:ns[i]?=some (x,kd))(F:FR gv Θ n' ns l m)(vr:VR gv Θ n' v cv) :
 FR gv Θ n' ns (I7 i v l) (λy=>if y=x then some cv else m y):=by
 intro j y k u e h
 rw[A5n] at h
 by_cases q:j=i
 . subst q
   rw[Z0p rfl] at h
   replace h:=Z0a h;subst h
   rw[hi] at e
   cases e
   exact A6 cv (Z0p rfl) vr
 . rw[Z0m q] at h
   refine A1 (F j y k u e h) λc c1 c2=>?_
   refine A6 c (?_) c2
   show(if y=x then _ else _)=_
   rw[Z0m,c1]
   intro z
   subst z
   haveI h1:(ns.map (·.1))[j]?=some y:=by rw[Z1v,e];rfl
   haveI h2:(ns.map (·.1))[i]?=some y:=by rw[Z1v,hi];rfl
   exact q ((List.getElem?_inj (Z1m.mp h1).1 nd).mp (h1.trans h2.symm))
theorem A3c[Og s og]{x:Str}{i:Nat}{v:V}{cv:Value}{Q:Unit->Shared->Prop}(cx:Cx D U n A env outer)(hp:B3 x env.scope.names 0=some (i, .local))(a:At gv (A2 T cc) A0 Θ H l env outer s.heap)(vr:VR gv Θ H.n v cv)
 (k:∀s',Ext (frs (env :: outer)) (onL env) Θ H.n s.heap Θ H.n s'.heap->At gv (A2 T cc) A0 Θ H (I7 i v l) env outer s'.heap->∀ [Og s' og],Q () s'):wpAny (model pg w) A (storeName env x cv) Q E s:=by
 refine A1 a.fr λm hn F=>?_
 refine A7 (G6 hp) λJ e1 e2=>?_
 refine Z1w e2 hn (λh' hn' hs=>k _ ?_ ⟨?_,_,hn',?_⟩) (by rw[cx.kind];rfl)
 . exact⟨Z0g _,λJ J=>⟨rfl,rfl,rfl⟩,λJ p q=>absurd q (Z1g.mpr p),λb o e J hX=>⟨λJ=>(hs.2 b hX).trans e,o.slots,(hs.2 b hX).trans e⟩,Z0z hs.1.symm⟩
 . exact a.st.store cx.frame hn' hs
 . exact C57 (A3k cx.nd) e1 F vr
theorem At.loc{l':Loc}{h:Heap}(a:At gv (A2 T cc) A0 Θ H l env outer h)(e:∀j,lkG j l'=lkG j l):At gv (A2 T cc) A0 Θ H l' env outer h:=by
 refine A1 a.fr λm hn F=>?_;exact⟨a.st,m,hn,λi x k v q1 q2=>F i x k v q1 (by rw[<-e];exact q2)⟩
noncomputable def A2w(ps:List (Nat × V))(l:Loc):Loc:=ps.foldl (λl p=>I7 p.1 p.2 l) l
def C3g(env:Env)(f:Value->Sem Unit)(x:Str):Prop:=∀(w:World) (A:Around) (E:Value->Shared->Prop) (v:Value) (s:Shared) (Q:Unit->Shared->Prop),wpAny (model pg w) A (storeName env x v) Q E s->wpAny (model pg w) A (f v) Q E s
theorem B7q(cx:Cx D U n A env outer)(qs:List (Str × Nat))(fl:List (Value->Sem Unit))(vs:List V)(cvs:List Value)(l:Loc)(s:Shared)(Q:Unit->Shared->Prop)(h1:fl.length=qs.length)(hf:∀(j:Nat) f q,fl[j]?=some f->qs[j]?=some q->C3g env f q.1)
 (hp:∀q∈qs,B3 q.1 env.scope.names 0=some (q.2, .local)) (h2:vs.length=qs.length) (Va:VRs gv Θ H.n vs cvs) (a:At gv (A2 T cc) A0 Θ H l env outer s.heap)
 (k:∀s',Ext (frs (env :: outer)) (onL env) Θ H.n s.heap Θ H.n s'.heap->At gv (A2 T cc) A0 Θ H (A2w ((qs.map (·.2)).zip vs) l) env outer s'.heap->∀ [Og s' og],Q () s') (ok:Og s og):wpAny (model pg w) A (assignInOrder fl cvs) Q E s:=by
 induction qs generalizing fl vs cvs l s with
 |nil=>
  obtain rfl:=Z3d.mp h1;obtain rfl:=Z3d.mp h2;obtain rfl:=Va.zero;exact Z0f (k s Ext.refl a)
 |cons q qs ih=>
  cases fl with
  |nil=>exact nomatch h1
  |cons f fl=>cases vs with
   |nil=>exact nomatch h2
   |cons v vs=>cases cvs with
    |nil=>exact Va.elim
    |cons c cvs=>
     refine Z0d (Z1b (hf 0 f q rfl rfl w A E c s _ (A3c cx (hp q (.head _)) a Va.1 λs' x a' ok'=>?_)));exact ih fl vs cvs (I7 q.2 v l) s' (Nat.succ.inj h1) (λj f' q' e1 e2=>hf (j+1) f' q' e1 e2) (λq' hq=>hp q' (.tail _ hq)) (Nat.succ.inj h2) Va.2 a' (λs'' x' a''=>k s'' (x.trans x') a'') ok'
theorem A9x{j:Nat}{a b:List (Nat × V)}:lkG j (a ++ b)=(lkG j a).or (lkG j b):=by
 induction a with
 |nil=>rfl
 |cons p a ih=>
  rw[List.cons_append,J6,J6,ih];by_cases q:p.1=j
  . rw[Z0p q,Z0p q];rfl
  . rw[Z0m q,Z0m q]
theorem C6a{j:Nat}{p:Nat × V}{l:Loc}:lkG j (I7 p.1 p.2 l)=(lkG j [p]).or (lkG j l):=by
 rw[A5n,J6];by_cases q:j=p.1
 . rw[Z0p q,Z0p q.symm];rfl
 . rw[Z0m q,Z0m λz=>q z.symm];rfl
theorem B7f{j:Nat}{ps:List (Nat × V)}{l:Loc}:lkG j (A2w ps l)=(lkG j ps.reverse).or (lkG j l):=by
 induction ps generalizing l with
 |nil=>rfl
 |cons p r ih=>exact(ih (l:=I7 p.1 p.2 l)).trans (by rw[C6a,<-Option.or_assoc,<-A9x,Z3o])
theorem D1p{j:Nat}{ps:List (Nat × V)}(nd:(ps.map (·.1)).Nodup):lkG j ps.reverse=lkG j ps:=by
 induction ps with
 |nil=>rfl
 |cons p r ih=>
  rw[List.map_cons,Z2u] at nd;refine(congrArg (lkG j) Z3o).trans (A9x.trans ((congrArg (Option.or · _) (ih nd.2)).trans (Eq.trans ?_ (A9x (a:= [p])).symm)));rw[J6];by_cases q:p.1=j
  . rw[Z0p q];cases e:lkG j r with
    |none=>rfl
    |some u=>exact absurd (Z2q.mpr ⟨_,A71 e,q.symm⟩) nd.1
  . rw[Z0m q];exact Option.or_none
theorem D5r{xs:List Nat}{vs:List V}{l l':Loc}(h:A0v xs vs l=some l'):l'=A2w (xs.zip vs) l/\vs.length=xs.length:=by
 induction xs generalizing vs l with
 |nil=>cases vs with
  |nil=>exact⟨(Z0a h).symm,rfl⟩
  |cons _ _=>exact nn h
 |cons x xs ih=>cases vs with
  |nil=>exact nn h
  |cons v vs=>exact⟨(ih h).1,congrArg Nat.succ (ih h).2⟩
end
section
variable{K:Frag}{D U:Nat}
variable{k:KS}{kx:MineE.K}{Q:Flow->Shared->Prop}
theorem A1m{e:Expr}{t:Option Expr}{ln:Nat}(h:G5 e=false):swapsWith e t ln env=pure false:=by
 cases e <;> first | (cases h;done) | rfl
theorem B4h(cx:Cx D U n A env outer):interactive env=false:=by
 unfold interactive;rw[cx.kind];rfl
def A3d(w:World)(A:Around)(env:Env)(rest:List Stmt)(Q:Flow->Shared->Prop)(E:Value->Shared->Prop):Flow->Shared->Prop:=λf s'=>match f with | .next=>wpAny (model pg w) A (execs rest env) Q E s' | f=>Q f s'
theorem A5g{rest:List Stmt}{q:S}{fu:Nat}(hr:SoS og w T cc gv A0 pc D U r n)(hq:cSs cc env.scope.names fu rest=some q)(cx:Cx D U n A env outer)(ps:PS og gv (A2 T cc) A0 Θ H env outer h k Q)(px:PX og gv (A2 T cc) A0 pc (onL env) Θ H env outer h kx E) :
 PS og gv (A2 T cc) A0 Θ H env outer h (λf l h=>fl f (r.ss q l h k kx) (λv=>k (.ret v) l h)) (A3d w A env rest Q E):=by
 intro f l' H' hk Θ' cf s' x a fr J
 cases fr with
 |next=>exact hr _ _ _ _ _ _ _ _ _ _ _ _ _ _ hq hk cx a (ps.on x) (px.on x)
 |ret vr=>exact ps _ _ _ hk _ _ _ x a (.ret vr)
theorem D2k[Og s og]{x:Str}{i:Nat}{e:Expr}{rest:List Stmt}{p p':Pos}{xe:X}{q:S}{fu:Nat}(hr:SoAll og w T cc gv A0 pc K D U r n)(hco:G5 e=false)(hp:B3 x env.scope.names 0=some (i, .local))(hc:cE cc env.scope.names DF e=some xe)(hq:cSs cc env.scope.names fu rest=some q)
 (h:r.e xe l H (λv h=>r.ss q (I7 i v l) h k kx) kx=true) (cx:Cx D U n A env outer)
 (a:At gv (A2 T cc) A0 Θ H l env outer s.heap) (ps:PS og gv (A2 T cc) A0 Θ H env outer s.heap k Q) (px:PX og gv (A2 T cc) A0 pc (onL env) Θ H env outer s.heap kx E):wpAny (model pg w) A (execs (.Assign [.Name x p'] e p :: rest) env) Q E s:=by
 refine Z0j (Z1i (hr.e _ _ _ _ _ _ _ _ _ _ _ _ _ _ hc h cx a ?_ px.strong) (A1m hco))
 intro v H1 hk1 Θ1 c1 s1 x1 a1 vr1 J
 refine A3c cx hp a1 vr1 λs2 x2 a2=>?_
 intro J
 haveI X:=x1.weak (X:=onL env) |>.trans x2
 exact hr.ss _ _ _ _ _ _ _ _ _ _ _ _ _ _ hq hk1 cx a2 (ps.on X) (px.on X)
theorem D5x[Og s og]{e:Expr}{rest:List Stmt}{p:Pos}{xe:X}{q:S}{fu:Nat}(hr:SoAll og w T cc gv A0 pc K D U r n)(hco:G5 e=false)(hc:cE cc env.scope.names DF e=some xe)(hq:cSs cc env.scope.names fu rest=some q)
 (h:r.e xe l H (λJ h=>r.ss q l h k kx) kx=true) (cx:Cx D U n A env outer)
 (a:At gv (A2 T cc) A0 Θ H l env outer s.heap) (ps:PS og gv (A2 T cc) A0 Θ H env outer s.heap k Q) (px:PX og gv (A2 T cc) A0 pc (onL env) Θ H env outer s.heap kx E):wpAny (model pg w) A (execs (.Expr e p :: rest) env) Q E s:=by
 refine Z0j (wpAny_Expr_any (hr.e _ _ _ _ _ _ _ _ _ _ _ _ _ _ hc h cx a ?_ px.strong) (B4h cx) (A1m hco))
 intro v H1 hk1 Θ1 c1 s1 x1 a1 vr1 J
 haveI X:=x1.weak (X:=onL env)
 exact hr.ss _ _ _ _ _ _ _ _ _ _ _ _ _ _ hq hk1 cx a1 (ps.on X) (px.on X)
theorem C1s[Og s og]{e:Expr}{rest:List Stmt}{p:Pos}{xe:X}(hr:SoAll og w T cc gv A0 pc K D U r n)(hc:cE cc env.scope.names DF e=some xe)
 (h:r.e xe l H (λv h=>k (.ret v) l h) kx=true) (cx:Cx D U n A env outer)
 (a:At gv (A2 T cc) A0 Θ H l env outer s.heap) (ps:PS og gv (A2 T cc) A0 Θ H env outer s.heap k Q) (px:PX og gv (A2 T cc) A0 pc (onL env) Θ H env outer s.heap kx E):wpAny (model pg w) A (execs (.Return (some e) p :: rest) env) Q E s:=by
 refine Z0j (Z1u (hr.e _ _ _ _ _ _ _ _ _ _ _ _ _ _ hc h cx a ?_ px.strong))
 intro v H1 hk1 Θ1 c1 s1 x1 a1 vr1 J
 exact ps _ _ _ hk1 _ _ _ (x1.weak (X:=onL env)) a1 (.ret vr1)
theorem C07[Og s og]{rest:List Stmt}{p:Pos}(hr:SoAll og w T cc gv A0 pc K D U r n)
 (h:r.e (.const .none) l H (λv h=>k (.ret v) l h) kx=true)
 (a:At gv (A2 T cc) A0 Θ H l env outer s.heap) (ps:PS og gv (A2 T cc) A0 Θ H env outer s.heap k Q):wpAny (model pg w) A (execs (.Return none p :: rest) env) Q E s:=by
 refine Z0j (wpAny_Return_none ?_)
 exact ps _ _ _ (hr.kn _ _ _ _ h) _ _ _ Ext.refl a (.ret (v:= .none) rfl)
theorem B80[Og s og]{e:Expr}{body els rest:List Stmt}{p:Pos}{xe:X}{xb xo q:S}{fu:Nat}(hr:SoAll og w T cc gv A0 pc K D U r n)(hc:cE cc env.scope.names DF e=some xe)(hb:cSs cc env.scope.names fu body=some xb)(ho:cSs cc env.scope.names fu els=some xo)(hq:cSs cc env.scope.names fu rest=some q)
 (h:B6h r xe xb xo q l H k kx=true) (cx:Cx D U n A env outer)
 (a:At gv (A2 T cc) A0 Θ H l env outer s.heap) (ps:PS og gv (A2 T cc) A0 Θ H env outer s.heap k Q) (px:PX og gv (A2 T cc) A0 pc (onL env) Θ H env outer s.heap kx E):wpAny (model pg w) A (execs (.If e body els p :: rest) env) Q E s:=by
 refine Z0j (Z3b (hr.t _ _ _ _ _ _ _ _ _ _ _ _ _ _ hc h cx a ?_ px.strong))
 intro b H1 hk1 Θ1 s1 x1 a1 J
 haveI X:=x1.weak (X:=onL env)
 cases b with
 |true=>exact hr.ss _ _ _ _ _ _ _ _ _ _ _ _ _ _ hb hk1 cx a1 (A5g hr.ss hq cx (ps.on X) (px.on X)) (px.on X)
 |false=>exact hr.ss _ _ _ _ _ _ _ _ _ _ _ _ _ _ ho hk1 cx a1 (A5g hr.ss hq cx (ps.on X) (px.on X)) (px.on X)
theorem C6u[Og s og]{e:Expr}{body rest:List Stmt}{p:Pos}{xe:X}{xb q:S}{fu:Nat}(hr:SoAll og w T cc gv A0 pc K D U r n)(hc:cE cc env.scope.names DF e=some xe)(hb:cSs cc env.scope.names fu body=some xb)(hq:cSs cc env.scope.names fu rest=some q)
 (h:B23 r xe xb q l H k kx=true) (cx:Cx D U n A env outer)
 (a:At gv (A2 T cc) A0 Θ H l env outer s.heap) (ps:PS og gv (A2 T cc) A0 Θ H env outer s.heap k Q) (px:PX og gv (A2 T cc) A0 pc (onL env) Θ H env outer s.heap kx E):wpAny (model pg w) A (execs (.While e body [] p :: rest) env) Q E s:=by
 refine Z0j (wpAny_While ?_)
 exact hr.lp _ _ _ _ _ _ _ _ _ _ _ _ _ _ _ _ hc hb h cx a (A5g hr.ss hq cx ps px) px
theorem C62(hr:SoAll og w T cc gv A0 pc K D U r n):SoW og w T cc gv A0 pc D U (R6 T P r) (n+1):=by
 intro fu e ss x y l H k kx A env outer s Θ Q E hc hb h cx a ps px J;have cx':=cx.low (Z1d n)
 have noted:∀{Θ':Th} {H':Hp} {pv:V} {e:Addr} {s':Shared} {lo:Nat},Ext (frs (env :: outer)) (onL env) Θ H.n s.heap Θ' H'.n s'.heap->lo=s.heap.objs.size->St gv (A2 T cc) A0 Θ' H' (env :: outer) s'.heap->XIs gv A0 lo pc Θ' H'.n env.locals pv e s'.heap->kx pv H'=true->∀ [Og s' og],
  notedBy (model pg w) A env (λe s'=>N1 (model pg w) A env Q E (.error e) s') (.ref e) s':=by
  intro Θ' H' pv e s' lo X hlo st xi hk J
  refine A9q cx.ca.fr cx.frame st xi λh' st' kp xi'=>?_
  subst hlo
  exact px _ _ hk _ _ _ (X.kept kp) st' xi'
 refine Z2v ?_;refine Z4x ?_;refine Z0d (hr.t _ _ _ _ _ _ _ _ _ _ _ _ _ _ hc h cx' a ?_ ?_)
 . intro b H1 hk1 Θ1 s1 x1 a1 J;have X:=x1.weak (X:=onL env);cases b with
   |true=>
    refine Z0d (hr.ss _ _ _ _ _ _ _ _ _ _ _ _ _ _ hb hk1 cx' a1 ?_ ?_)
    . intro f l2 H2 hk2 Θ2 cf s2 x2 a2 fr J;cases fr with
      |next=>
       refine Z0f ⟨rfl,?_⟩;haveI X2:=X.trans x2;exact hr.lp _ _ _ _ _ _ _ _ _ _ _ _ _ _ _ _ hc hb hk2 cx' a2 (ps.on X2) (px.on X2)
      |ret vr=>exact Z0f (ps _ _ _ hk2 _ _ _ (X.trans x2) a2 (.ret vr))
    . intro pv H2 hk2 Θ2 e2 s2 x2 st xi J;exact noted (X.trans x2) rfl st (xi.mono X.size) hk2
   |false=>
    refine Z0d (Z0f (Z0f ?_));exact ps _ _ _ hk1 _ _ _ X a1 .next
 . intro pv H2 hk2 Θ2 e2 s2 x2 st xi J;exact noted x2.weak rfl st xi hk2
end
section
variable{K:Frag}{D U:Nat}
variable{k:KS}{kx:MineE.K}{Q:Flow->Shared->Prop}
theorem A0q{t e:Expr}{p:Pos}{QQ:Flow->Shared->Prop}(hco:G5 e=false)
 (h:wpAny (model pg w) A (eval e env) (λv s₁=>wpAny (model pg w) A (swappedStores [t] e env) (λsw s₂=>wpAny (model pg w) A (assignStores env v sw [assign t env]) QQ E s₂) E s₁) E s)
 (ht:(assignEach [t] env).map (·.2)= [assign t env]) :
 wpAny (model pg w) A (exec (.Assign [t] e p) env) QQ E s:=by
 rw[arm_exec_Assign,ht]
 refine Z0d (Z1r ?_)
 show wpAny _ _ (swapsWith e (some t) p.line env >>= _) _ _ _
 refine re (A1m hco) ?_
 refine Z0d (Z0f ?_)
 exact Z0d (Z1c h (λv s₁ h₁=>Z0d h₁) λJ J x=>x)
theorem A56{v:Value}{f:Value->Sem Unit}{QQ:Flow->Shared->Prop}(h:wpAny (model pg w) A (f v) (λJ=>QQ .next) E s):wpAny (model pg w) A (assignStores env v none [f]) QQ E s:=by
 exact Z0d (Z1c h (λJ J x=>Z0f x) λJ J x=>x)
theorem H8.set{fx:List (Nat × V)}{m:Str->Option Value}{name:Str}{i:Nat}{v:V}{cv:Value}{n':Nat}(F:H8 gv (A2 T cc) Θ n' fx m)(hp:B9 name cc.attrs 0=some i)(vr:VR gv Θ n' v cv) :
 H8 gv (A2 T cc) Θ n' (I7 i v fx) (λy=>if y=name then some cv else m y):=by
 intro x
 haveI Fx:=F x
 cases e:B9 x (A2 T cc).ns 0 with
 |none=>
  rw[e] at Fx;have hne:x≠name:=λq=>by subst q;rw[show B9 x (A2 T cc).ns 0=B9 x cc.attrs 0 from rfl,hp] at e;exact sn e
  dsimp only;rw[Z0m hne];exact Fx
 |some j=>
  rw[e] at Fx;dsimp only at Fx ⊢;rw[A5n];by_cases q:j=i
  . subst q;haveI h1:=(V2 e).2;haveI h2:=(V2 hp).2;haveI:x=name:=Z0a (h1.symm.trans h2);clear F h1 h2;subst this;refine re (Z0p rfl) ?_;exact A6 cv (Z0p rfl) vr
  . have hne:x≠name:=λz=>by subst z;rw[show B9 x (A2 T cc).ns 0=B9 x cc.attrs 0 from rfl,hp] at e;exact q (Z0a e).symm
    refine re (Z0m q) ?_;split at Fx
    . refine A1 Fx λc c1 c2=>?_;exact A6 c (by rw[Z0m hne];exact c1) c2
    . rw[Z0m hne];exact Fx
theorem C7f(G:GT w T cc gv mg mb A0 K){name:Str}{i:Nat}{ov v:V}{co cv:Value}{H3:Hp}{Q:Unit->Shared->Prop}(hp:B9 name cc.attrs 0=some i)(hi:i≠12)(e:A99 i ov v H=some H3)
 (a:At gv (A2 T cc) A0 Θ H l env outer s.heap) (hf:env.frame=some env.locals) (vo:VR gv Θ H.n ov co) (vv:VR gv Θ H.n v cv)
 (k:∀h' tk,Ext (frs (env :: outer)) noX Θ H.n s.heap Θ H3.n h'->At gv (A2 T cc) A0 Θ H3 l env outer h'->Q () {s with heap:=h',toks:=tk}):wpAny (model pg w) A (setAttr co name cv) Q E s:=by
 refine U6 e vo λj hj e=>?_
 refine A1 (bi e) λo eo e=>?_
 haveI r:=a.st.is hj eo
 revert r
 refine A2q e λc fx e r=>?_
 obtain⟨C,m,z,g1,g2,g3,g4,cl,g0⟩:=r
 obtain rfl:=Z0a e
 refine A1 (G.cls _ _ g0) λC' g1' CO=>?_
 rw[<-show C=C' from Value.ref.inj (Z0a (g1.symm.trans g1'))] at CO
 have hw:Within m cc.attrs:=by
  intro y hy;haveI:=g4 y;cases ep:B9 y (A2 T cc).ns 0 with
  |none=>rw[ep] at this;rw[this] at hy;exact absurd rfl hy
  |some j=>exact Z1p (V2 ep).2
 refine C1e (ns:=cc.attrs) (G.kin.keeps a.st.stays) CO.k g2 g3 (Ne.symm z) (CO.soft _ _ hp hi) hw (Z0c G.attrsN (by decide)) λh' tk hn' hs=>?_
 refine A8 (a.st.put (h':=h') (o:= .inst c (I7 i v fx)) hj (λb x e J q2=>(hs.2 b q2).trans e) (Z0z hs.1.symm)
  ⟨C,_,z,g1,(hs.2 _ z).trans g2,hn',g4.set hp vv,cl,g0⟩) λS' X3=>k h' tk X3 (a.ext hf X3 S')
theorem C1q[Og s og](G:GT w T cc gv mg mb A0 K){o e:Expr}{name:Str}{i:Nat}{rest:List Stmt}{p p':Pos}{xo xe:X}{q:S}{fu:Nat}(hr:SoAll og w T cc gv A0 pc K D U r n)(hco:G5 e=false)(hp:B9 name cc.attrs 0=some i)(hi:i≠12)
 (hc1:cE cc env.scope.names DF o=some xo) (hc2:cE cc env.scope.names DF e=some xe) (hq:cSs cc env.scope.names fu rest=some q)
 (h:sSA r xo i xe q l H k kx=true) (cx:Cx D U n A env outer)
 (a:At gv (A2 T cc) A0 Θ H l env outer s.heap) (ps:PS og gv (A2 T cc) A0 Θ H env outer s.heap k Q) (px:PX og gv (A2 T cc) A0 pc (onL env) Θ H env outer s.heap kx E):wpAny (model pg w) A (execs (.Assign [.Attribute o name p'] e p :: rest) env) Q E s:=by
 refine Z0j (A0q hco (hr.e _ _ _ _ _ _ _ _ _ _ _ _ _ _ hc2 h cx a ?_ px.strong) rfl)
 intro v H1 hk1 Θ1 c1 s1 x1 a1 vr1 J
 refine wpAny_of_eq (a:=none) rfl (A56 ?_)
 haveI X1:=x1.weak (X:=onL env)
 refine Z0d (Z1b (hr.e _ _ _ _ _ _ _ _ _ _ _ _ _ _ hc1 hk1 cx a1 ?_ (px.on X1).strong))
 intro ov H2 hk2 Θ2 c2 s2 x2 a2 vr2 J
 haveI X2:=X1.trans (x2.weak (X:=onL env))
 refine A1 (R0 hk2) λH3 e3 hk3=>?_
 refine Z0d (Z1r (Z0d (Z1b ?_)))
 refine C7f G hp hi e3 a2 cx.frame vr2 (vr1.ext x2) λh' tk X3 A'=>?_
 haveI X4:=X2.trans (X3.weak (X:=onL env))
 exact wpAny_release (hr.ss _ _ _ _ _ _ _ _ _ _ _ _ _ _ hq hk3 cx A' (ps.on X4) (px.on X4))
noncomputable def E6:Expr->Str
 | .Name x _=>x
 |_=>Str.ofString ""
theorem B96{ns:Ns}{ts:List Expr}{ps:List Nat}(h:X7 ns ts=some ps):ps.length=ts.length/\(∀t∈ts,∃y p,t= .Name y p)/\(∀q∈(ts.map E6).zip ps,B3 q.1 ns 0=some (q.2, .local)):=by
 induction ts generalizing ps with
 |nil=>rw[<-Z0a h];exact O2 rfl (λt ht=>(nomatch ht)) (λq hq=>(nomatch hq))
 |cons t ts ih=>
  refine A1 (bi h) λi e1 h=>A1 (bi h) λl e2 h=>A7 (ih e2) λa b c=>B4 (A84 e1) λx p et e3=>?_;rw[<-Z0a h,et];exact⟨congrArg (· +1) a,λt ht=>(List.mem_cons.mp ht).elim (λq=>⟨x,p,q⟩) (b t),λq hq=>(List.mem_cons.mp hq).elim (λz=>z▸e3) (c q)⟩
theorem D27{l:List Nat}(h:Z9 l=true):l.Nodup:=by
 induction l with
 |nil=>exact Z4w
 |cons a r ih=>
  obtain⟨h1,h2⟩:=Z1j.mp h;exact Z2u.mpr ⟨λq=>ff (((Bool.not_eq_true' _).mp h1).symm.trans (Z2n.mpr q)),ih h2⟩
theorem B6y{g:Expr->Option Str}:∀{ts:List Expr},(∀t∈ts,g t=some (E6 t)\/g t=none)->(ts.filterMap g).length=ts.length->ts.filterMap g=ts.map E6
 | [],_,_=>rfl
 |t :: ts,hg,hl=>by
  rcases hg t (.head _) with e | e
  . rw[List.filterMap_cons,e] at hl ⊢;rw[B6y (λt ht=>hg t (.tail _ ht)) (by simpa using hl)];rfl
  . rw[List.filterMap_cons,e] at hl;haveI:=List.length_filterMap_le g ts;rw[hl,List.length_cons] at this;exact absurd this (Nat.not_succ_le_self _)
theorem C8l{ts:List Expr}{kd}{p:Pos}{e:Expr}{QQ:Option (List Str)->Shared->Prop}(hts:∀t∈ts,∃y p,t= .Name y p)(hc:Z2 e=false)(h0:QQ none s)(h1:QQ (some (ts.map E6)) s) :
 wpAny (model pg w) A (swappedStores [.Tuple ts kd p] e env) QQ E s:=by
 unfold swappedStores
 cases e <;> first | exact Z0f h0 | skip
 rename_i vs kd2 p2
 dsimp only
 split
 . exact Z0f h0
 . split
   . exact Z0f h0
   . split
     . exact Z0f h0
     . rename_i q
       split
       . exact Z0f h0
       . split
         . rename_i q2
           haveI:Z2 (.Tuple vs kd2 p2)=true:=congrArg Option.isSome (Z0p q2)
           rw[hc] at this;exact ff this
         . refine Z0f ?_
           rw[Bool.or_eq_true,not_or,bne_iff_ne,ne_eq,Decidable.not_not] at q
           rewrite [B6y (λt ht=>?_) q.1]
           . exact h1
           . refine F9 (hts t ht) λy p q'3=>?_
             subst q'3
             dsimp only
             split
             . exact .inl rfl
             . exact .inr rfl
theorem B77:∀{ts:List Expr},(∀t∈ts,∃y p,t= .Name y p)->assignEach ts env=ts.map λt=>(false,assign t env)
 | [],_=>rfl
 |t :: ts,h=>by
  refine F9 (h t (.head _)) λy p q'4=>?_;subst q'4;show(false,assign (.Name y p) env) :: assignEach ts env=_;rw[B77 λt ht=>h t (.tail _ ht)];rfl
theorem D4u{ps:List (Nat × V)}{l:Loc}{j:Nat}(nd:(ps.map (·.1)).Nodup):lkG j (A2w ps.reverse l)=lkG j (A2w ps l):=by
 rw[B7f,B7f,List.reverse_reverse,D1p nd]
theorem VRs.rev{vs:List V}{cvs:List Value}{n':Nat}(x:VRs gv Θ n' vs cvs):VRs gv Θ n' vs.reverse cvs.reverse:=D8.ind x trivial λJ J J J h J ih=>by
 rw[Z3o,Z3o];exact VRs.app ih ⟨h,trivial⟩
theorem A3o[Og s og]{ts:List Expr}{kd}{e:Expr}{is:List Nat}{p':Pos}{c1:Value}{ws:Array Value}{vs:List V}{l':Loc}{QQ:Flow->Shared->Prop}(cx:Cx D U n A env outer)(hac:Z2 e=false)(hl:X7 env.scope.names ts=some is)(hd:Z9 is=true)(el:A0v is vs l=some l')(v1:VRs gv Θ H.n vs ws.toList)
 (a1:At gv (A2 T cc) A0 Θ H l env outer s.heap) (hu:∀Q':List Value->Shared->Prop,(∀h',(∀b o,s.heap.get? b=some o->h'.get? b=some o)->s.heap.objs.size<=h'.objs.size->Q' ws.toList {s with heap:=h'})->wpAny (model pg w) A (unpackItems c1 ws.size none) Q' E s)
 (fin:∀s2,Ext (frs (env :: outer)) (onL env) Θ H.n s.heap Θ H.n s2.heap->At gv (A2 T cc) A0 Θ H l' env outer s2.heap->∀ [Og s2 og],QQ .next s2) :
 wpAny (model pg w) A (swappedStores [.Tuple ts kd p'] e env) (λsw s₂=>wpAny (model pg w) A (assignStores env c1 sw [assign (.Tuple ts kd p') env]) QQ E s₂) E s:=by
 refine A8 (D5r el) λb1 b2=>?_
 refine A7 (B96 hl) λg1 g2 g3=>?_
 haveI nd:=D27 hd
 have hn:ts.length=ws.size:=by simp only[<-Array.length_toList,<-v1.len,b2,g1]
 have lz:(ts.map E6).length=is.length:=by simp only[List.length_map,g1]
 haveI qsn:(((ts.map E6).zip is).map (·.2))=is:=List.map_snd_zip (Z0z lz.symm)
 haveI qln:((ts.map E6).zip is).length=ts.length:=by simp only[List.length_zip,List.length_map,g1,Nat.min_self]
 refine C8l g2 hac ?_ ?_
 . refine A56 ?_
   refine Z0d (Z1r ?_)
   unfold unpack
   rw[B77 g2,List.length_map,hn]
   have hf:(ts.map λt=>((false,assign t env):Bool × (Value->Sem Unit))).findIdx? (·.1)=none:=by
    rw[List.findIdx?_eq_none_iff];intro x hx;obtain⟨t,_,rfl⟩:=Z2q.mp hx;rfl
   refine re hf ?_
   refine Z0d (Z1b (hu _ λh' kp hz=>?_))
   refine re Z3w ?_
   refine B7q cx ((ts.map E6).zip is) _ _ _ _ _ _ (by simp only[List.length_map,qln]) (λj f q e1 e2=>?_) g3 (by rw[qln,b2,g1]) v1 (a1.keeps kp hz) (λs2 x2 a2=>?_) inferInstance
   . rw[Z1v] at e1
     cases et:ts[j]? with
     |none=>rw[et] at e1;exact nn e1
     |some t=>
      rw[et] at e1;obtain⟨y,p,rfl⟩:=g2 t (Z1p et);haveI e1:(λv=>assign (.Name y p) env v)=f:=Z0a e1;subst e1;have e3:q.1=y:=by
       haveI:=congrArg (Option.map (·.1)) e2;rw[<-Z1v,Z4h (Z0z lz),Z1v,et] at this;exact(Z0a this).symm
      intro w A E v s QQ hs;rw[e3] at hs;exact Z0d (Z1r (wpAny_bindName hs))
   . rewrite [qsn] at a2
     exact fin s2 ((Ext.keeps kp hz).trans x2) (a2.loc λi=>by rw[b1])
 . show wpAny _ _ (do
    rule "assign.swapped-stores"
    let items<-unpackItems c1 (ts.map E6).length none
    assignInOrder ((ts.map E6).reverse.map λn=>bindName env n) items.reverse
    (pure Flow.next:Sem Flow)) _ _ _
   refine Z0d (Z5j ?_)
   rw[List.length_map,hn]
   refine Z0d (hu _ λh' kp hz=>?_)
   have znd:((is.zip vs).map (·.1)).Nodup:=by rw[Z4h (Z0z b2.symm)];exact nd
   refine Z0d (B7q cx ((ts.map E6).zip is).reverse _ vs.reverse _ _ _ _ (by simp only[List.length_map,List.length_reverse,List.length_map,List.length_reverse,qln]) (λj f q e1 e2=>?_) (λq hq=>g3 q (List.mem_reverse.mp hq)) (by rw[List.length_reverse,List.length_reverse,qln,b2,g1]) v1.rev (a1.keeps kp hz) (λs2 x2 a2=>Z0f ?_) inferInstance)
   . rw[Z1v] at e1
     cases et:(ts.map E6).reverse[j]? with
     |none=>rw[et] at e1;exact nn e1
     |some y=>
      rw[et] at e1;haveI e1:(λv=>bindName env y v)=f:=Z0a e1;subst e1;have e3:q.1=y:=by
       haveI:=congrArg (Option.map (·.1)) e2;rw[<-Z1v,List.map_reverse,Z4h (Z0z lz),et] at this;exact(Z0a this).symm
      intro w A E v s QQ hs;rw[e3] at hs;exact wpAny_bindName hs
   . rewrite [List.map_reverse,qsn] at a2
     refine fin s2 ((Ext.keeps kp hz).trans x2) (a2.loc λi=>?_)
     rw[b1,<-D4u znd]
     congr 2
     rw[List.zip_eq_zipWith,List.zip_eq_zipWith,List.reverse_zipWith b2.symm]
theorem A6q[Og s og]{ts:List Expr}{kd}{e:Expr}{is:List Nat}{rest:List Stmt}{p p':Pos}{xe:X}{kk:Loc->Hp->Bool}(hr:SoAll og w T cc gv A0 pc K D U r n)(hco:G5 e=false)(hac:Z2 e=false)(hl:X7 env.scope.names ts=some is)(hd:Z9 is=true)
 (hc:cE cc env.scope.names DF e=some xe) (h:r.e xe l H (λv h=>oB (A5w h v) false λvs=>oB (A0v is vs l) false λl=>kk l h) kx=true) (cx:Cx D U n A env outer)
 (a:At gv (A2 T cc) A0 Θ H l env outer s.heap) (px:PX og gv (A2 T cc) A0 pc (onL env) Θ H env outer s.heap kx E)
 (fin:∀l' H' Θ' s2,kk l' H'=true->Ext (frs (env :: outer)) (onL env) Θ H.n s.heap Θ' H'.n s2.heap->At gv (A2 T cc) A0 Θ' H' l' env outer s2.heap->∀ [Og s2 og],wpAny (model pg w) A (execs rest env) Q E s2):wpAny (model pg w) A (execs (.Assign [.Tuple ts kd p'] e p :: rest) env) Q E s:=by
 refine Z0j (A0q hco (hr.e _ _ _ _ _ _ _ _ _ _ _ _ _ _ hc h cx a ?_ px.strong) rfl)
 intro v H1 hk1 Θ1 c1 s1 x1 a1 vr1 J
 refine A1 (R0 hk1) λvs ev hk2=>?_
 refine A1 (R0 hk2) λl' el hk3=>?_
 refine U6 ev vr1 λj hj ev=>?_
 refine A1 (bi ev) λo eo ev=>?_
 haveI r':=a1.st.is hj eo
 revert r'
 refine A2e ev λxs e r'=>?_
 obtain rfl:=Z0a e
 refine B4 r' λws ep l1 v1=>?_
 exact A3o cx hac hl hd el v1 a1 (λQ' k'=>B54 cx.ca.hand ⟨_,l1,rfl,ep,rfl⟩ k') λs2 x2 a2=>fin l' H1 Θ1 s2 hk3 ((x1.weak (X:=onL env)).trans x2) a2
theorem D5o[Og s og](G:GT w T cc gv mg mb A0 K){ts:List Expr}{kd}{e:Expr}{is:List Nat}{rest:List Stmt}{p p':Pos}{xe:X}{q:S}{fu:Nat}(hr:SoAll og w T cc gv A0 pc K D U r n)(hco:G5 e=false)(hac:Z2 e=false)(hl:X7 env.scope.names ts=some is)(hd:Z9 is=true)
 (hc:cE cc env.scope.names DF e=some xe) (hq:cSs cc env.scope.names fu rest=some q)
 (h:sAT r is xe q l H k kx=true) (cx:Cx D U n A env outer)
 (a:At gv (A2 T cc) A0 Θ H l env outer s.heap) (ps:PS og gv (A2 T cc) A0 Θ H env outer s.heap k Q) (px:PX og gv (A2 T cc) A0 pc (onL env) Θ H env outer s.heap kx E):wpAny (model pg w) A (execs (.Assign [.Tuple ts kd p'] e p :: rest) env) Q E s:=
 A6q (kk:=λl h=>r.ss q l h k kx) hr hco hac hl hd hc h cx a px λl' H' Θ' s2 hk x2 a2=>hr.ss _ _ _ _ _ _ _ _ _ _ _ _ _ _ hq hk cx a2 (ps.on x2) (px.on x2)
end
noncomputable abbrev bmE:List Value:= [.type "Exception", .type "BaseException", .type "object"]
noncomputable def C9:Str:=Str.ofString "self"
noncomputable def B8:Str:=Str.ofString "message"
noncomputable def C7:Str:=Str.ofString "place"
abbrev Z1(nm q:Str)(C N:Addr)(bs:List Value)(S:Addr × Addr)(sub:List Value)(sl:Array (Option Value)):Obj:=
 ⟨.type "type",none, .cls ⟨nm,bs, .ref C :: .ref S.1 :: .ref S.2 :: bmE,N,q,true,[],sub,false,none,false⟩,sl⟩
inductive InitX(K:Frag)(pc:Addr):Prop
 |mk (fi:Addr) (r0:FnRec) (qual:Str) (pm:Value) (c:Addr) (doc:Value) (i1:findIn K (.ref pc) "__init__" = some (some (.ref fi))) (i2:typeIn K (.ref fi)=some (.type "function"))
  (hK:K.lookup fi=some {cls:= .type "function",data:= .func (defFd r0.name qual r0.params r0.body r0.scope mainGlobals .none .none none pm (.ref c) doc)}) (hcode:codeIn K (.ref c) qual=true)
  (c1:U5 r0.params r0.scope=true) (c2:r0.params.args.map (·.arg)= [C9,B8,C7]) (c3:Q7 r0.scope.names=true) (c4:∀x∈ [C9,B8,C7],r0.scope.names.lookup x=some .local)
  (p1 p2 p3 p4 p5 p6 p7 p8:Pos) (hb:r0.body= [.Assign [.Attribute (.Name C9 p1) B8 p2] (.Name B8 p3) p4, .Assign [.Attribute (.Name C9 p5) C7 p6] (.Name C7 p7) p8])
structure PerrK(K:Frag)(A0:Heap)(pc:Addr):Prop where
 cls:∃nm q N bs S sub sl,K.lookup pc=some (Z1 nm q pc N bs S sub sl)/\sl[4]?=some (some (.builtin "Exception.__new__"))
 sa:findIn K (.ref pc) "__setattr__" = some (some (.builtin "object.__setattr__"))
 msg:findIn K (.ref pc) B8=some none
 plc:findIn K (.ref pc) C7=some none
 kp:keepIn K (.ref pc)=true
 init:InitX K pc
section
variable{K:Frag}{C N x:Addr}{S:Addr × Addr}{nm q name:Str}{bs:List Value}{sub:List Value}{sl:Array (Option Value)}{v:Value}{mA:Str->Option Value}
theorem D5l{ns:List Str}{Q:Unit->Shared->Prop}(X:K.In s.heap)(hC:K.lookup C=some (Z1 nm q C N bs S sub sl))
 (hsa:findIn K (.ref C) "__setattr__" = some (some (.builtin "object.__setattr__"))) (hn:findIn K (.ref C) name=some none) (I:s.heap.Inst x C mA)
 (hq:∀h' tk',h'.Inst x C (λy=>if y=name then some v else mA y)->s.heap.objs.size<=h'.objs.size->
  (∀b o,b≠x->(∀o₀ dx,s.heap.get? x=some o₀->o₀.dict=some dx->b≠dx)->s.heap.get? b=some o->h'.get? b=some o)->
  (∀o₀,s.heap.get? x=some o₀->∃o₁,h'.get? x=some o₁/\o₁.cls=o₀.cls/\o₁.data=o₀.data/\o₁.slots=o₀.slots/\(∀dx,o₀.dict=some dx->o₁.dict=some dx)/\∃dx,o₁.dict=some dx/\(o₀.dict=none->dx=s.heap.objs.size))->Q () {s with heap:=h',toks:=tk'})
 (hw:Within mA ns) (hsz:ns.length<=1000) :
 wpAny (model pg w) A (setAttr (.ref x) name v) Q E s:=by
 refine T7 I λo hx hc hnc hd=>?_
 clear I
 have hcl:clsIn K C=some {name:=nm,bases:=bs,mro:= .ref C :: .ref S.1 :: .ref S.2 :: bmE,ns:=N,qualname:=q,hasDict:=true,slotNames:= [],subclasses:=sub,abstract:=false,collection:=none,hasDel:=false}:=by
  unfold clsIn;rw[hC]
 have I':InstAt s.heap x o C (match o.dict with | some dx=>s.heap.get? dx | none=>none):=by
  refine⟨hx,hc,?_,?_⟩
  . unfold notCls;cases e:o.data <;> first | rfl | exact(hnc _ e).elim
  . rcases hd with⟨e,_⟩ | ⟨d,e,_,hn1⟩
    . rw[e];trivial
    . refine re e ?_;refine Q0 hn1 λod J J eo J=>?_;dsimp only;refine re eo ?_;exact eo
 haveI SF:=PySem.F.store_object
 haveI sub':Looks (model pg w) s.heap (isInstance (.ref x) (.type "object")) true:=I'.type.andThen (looks_mroIn X (by unfold mroIn;rw[hcl];rfl))
 refine set_plain X I' hsa ?_
 refine Z4o SF.slot.plain SF.entry (@check_slot (model pg w) _ _ {s with toks:=s.toks+1} "object.__setattr__" "object" "__setattr__" (.ref x) [.str name s.toks,v] [] _ SF.kind SF.split sub' (SF.args (.ref x) (.str name s.toks) v) ?_)
 haveI hm:Looks (model pg w) s.heap (mroOf (.ref C)) (.ref C :: .ref S.1 :: .ref S.2 :: bmE):=(Z4e X hcl).andThen .now
 haveI L0:=I'.type (M:=model pg w)
 haveI L1:=Z1z (M:=model pg w) X hn
 obtain⟨hh,g,d,t,os⟩:=s
 rw[osa_eq,refuse_eq]
 refine Z0d (Z0d (L0.at (Z0d (hm.at ?_))))
 refine Z0f (Z0d (L0.at (Z0d (L1.at (Z0d ?_)))))
 refine Z0f ?_
 refine Z0d (Z0f (Z0d (Z0d (Z2o hx ?_))))
 obtain⟨oc,od,odt,osl⟩:=o
 subst hc
 refine Z0d ((Z4e X hcl) _ _ _ _ (λJ J e=>e) ?_)
 simp only[Bool.not_true,Bool.false_eq_true,if_false]
 rcases hd with⟨hdn,hmA⟩ | ⟨dx,hdx,hne,hns⟩
 . subst hdn
   dsimp only
   split
   . rename_i q;exact ff q
   haveI hx₁:(hh.push emptyDict).get? x=some ⟨.ref C,none,odt,osl⟩:=Z0h _ hx
   have hxs:x≠hh.objs.size:=Z0k (Z0i hx)
   refine Z0d (wpAny_alloc' ?_)
   refine Z0d (wpAny_update' hx₁ ?_)
   refine Z0f ?_
   have hgd:((hh.push emptyDict).update x λo=>{cls:=o.cls,dict:=some hh.objs.size,data:=o.data,slots:=o.slots}).get? hh.objs.size=some emptyDict:=
    (Heap.get?_update_ne _ _ _ _ hxs.symm).trans (Heap.get?_push_at rfl rfl)
   have hnd:((hh.push emptyDict).update x λo=>{cls:=o.cls,dict:=some hh.objs.size,data:=o.data,slots:=o.slots}).Ns hh.objs.size (λJ=>none):=
    ⟨_,#[],_,hgd,rfl,λe he=>absurd he (by simp),λJ=>rfl⟩
   refine Z0d (Z0f (Z0d (wpAny_nsSet1 (Heap.Ns1.of_empty hnd) λh' hn' hs=>?_)))
   refine G4 (hn'.count (Within.cons name v Within.nil)) λoD esD epD hoD hdD hcD=>?_
   refine Z0d (wpAny_lookBehind hoD (by rw[hdD];exact pastItsLine_dict (Z0c hcD (by rw[List.length_cons,List.length_nil,sizeLine_eq];decide))) ?_)
   refine Z0f ?_
   have hx':h'.get? x=some ⟨.ref C,some hh.objs.size,odt,osl⟩:=by
    refine(hs.2 x hxs).trans (Z4k _ hx₁ ?_);have hfr:=(Heap.get?_some_iff.mp hx).2;cases odt <;> first | rfl | exact hfr
   refine hq h' _ ⟨_,hx',rfl,hnc, .inr ⟨hh.objs.size,rfl,hxs.symm,?_⟩⟩ ?_ (λb ob hbx J hb=>?_)
    (λo₀ h₀=>by obtain rfl:=Z0a (hx.symm.trans h₀);exact B56 _ hx' rfl rfl rfl ((λdx e=>by exact nn e)) ⟨hh.objs.size,rfl,λJ=>rfl⟩)
   . refine B75 hn' λo' es ep e1 e2 e3 eu e4=>?_
     exact B79 o' es ep e1 e2 e3 eu (λy=>by simp only[e4 y];by_cases hy:y=name <;> simp[hy,hmA])
   . haveI:=hs.1
     rw[Heap.size_after_update,Heap.size_push] at this
     lia
   . exact(hs.2 b (Z0k (Z0i hb))).trans ((Heap.get?_update_ne _ _ _ _ hbx).trans (Z0h _ hb))
 . subst hdx
   refine Z0f (a:=some dx) ?_
   refine Z0d (Z0f (Z0d ?_))
   refine wpAny_nsSet1 hns λh' hn' hs=>?_
   refine G4 (hn'.count (Within.cons name v hw)) λoD esD epD hoD hdD hcD=>?_
   refine Z0d (wpAny_lookBehind hoD (by rw[hdD];exact pastItsLine_dict (Z0c hcD (by rw[List.length_cons,sizeLine_eq];lia))) ?_)
   refine Z0f ?_
   refine hq h' _ ⟨_,(hs.2 x hne.symm).trans hx,rfl,hnc, .inr ⟨dx,rfl,hne,hn'⟩⟩ (Z0z hs.1.symm) (λb ob J hbd hb=>(hs.2 b (hbd _ dx hx rfl)).trans hb)
    (λo₀ h₀=>⟨o₀,(hs.2 x hne.symm).trans h₀,rfl,rfl,rfl,λJ e=>e,?_⟩)
   obtain rfl:=Z0a (hx.symm.trans h₀)
   exact A6 dx rfl (λe=>nomatch e)
end
structure NewX(pc:Addr)(cm cp:Value)(h h':Heap)(e:Addr):Prop where
 keeps:∀b o,h.get? b=some o->h'.get? b=some o
 size:h.objs.size<=h'.objs.size
 new:h.objs.size<=e
 there:∃t dx m,h'.get? e=some ⟨.ref pc,some dx, .fields #[.ref t, .none, .none, .none, .bool false, .none],#[]⟩/\h'.Ns1 dx m/\m B8=some cm/\m C7=some cp
section
variable{K:Frag}
theorem D5q{e t fi c:Addr}{r0:FnRec}{qual:Str}{pm doc cm cp:Value}{p1 p2 p3 p4 p5 p6 p7 p8:Pos}{R:Result->Shared->Prop}{nm q:Str}{N:Addr}{S:Addr × Addr}{bs:List Value}{sub:List Value}{sl:Array (Option Value)}
 (X:K.In s.heap) (kb:∀b o,K.lookup b=some o->b≠e) (PK:PerrK K A0 pc) (hC:K.lookup pc=some (Z1 nm q pc N bs S sub sl)) (hl:s.heap.NoLimit) (hd:A.depth<recursionLimit)
 (hK:K.lookup fi=some {cls:= .type "function",data:= .func (defFd r0.name qual r0.params r0.body r0.scope mainGlobals .none .none none pm (.ref c) doc)}) (hcode:codeIn K (.ref c) qual=true)
 (c1:U5 r0.params r0.scope=true) (c2:r0.params.args.map (·.arg)= [C9,B8,C7]) (c3:Q7 r0.scope.names=true) (c4:∀x∈ [C9,B8,C7],r0.scope.names.lookup x=some .local)
 (hb:r0.body= [.Assign [.Attribute (.Name C9 p1) B8 p2] (.Name B8 p3) p4, .Assign [.Attribute (.Name C9 p5) C7 p6] (.Name C7 p7) p8])
 (he:s.heap.get? e=some ⟨.ref pc,none, .fields #[.ref t, .none, .none, .none, .bool false, .none],#[]⟩)
 (hq:∀h' tk,(∀b o,b≠e->s.heap.get? b=some o->h'.get? b=some o)->s.heap.objs.size<=h'.objs.size->
  (∃dx m,h'.get? e=some ⟨.ref pc,some dx, .fields #[.ref t, .none, .none, .none, .bool false, .none],#[]⟩/\h'.Ns1 dx m/\m B8=some cm/\m C7=some cp)->R (.ok (.ret .none)) {s with heap:=h',toks:=tk}) :
 codeAny (model pg w) A (.call (.ref fi) ⟨[.ref e,cm,cp],[]⟩) R s:=by
 unfold U5 at c1
 simp only[Bool.and_eq_true,List.isEmpty_iff,Option.isNone_iff_eq_none,Bool.not_eq_true',beq_iff_eq,decide_eq_true_eq] at c1
 obtain⟨⟨⟨⟨⟨⟨⟨⟨s1,s2⟩,s3⟩,s4⟩,s5⟩,s6⟩,s7⟩,s8⟩,s9⟩:=c1
 haveI nd:([C9,B8,C7]:List Str).Nodup:=by decide +kernel
 haveI bp:=A62 (s:=s) (fd:=defFd r0.name qual r0.params r0.body r0.scope mainGlobals .none .none none pm (.ref c) doc) (xs:= [C9,B8,C7]) (cvs:= [.ref e,cm,cp]) (dvs:= []) s1 s3 s2 s5 c2 nd (Z0g _) (by simp) (by simp) (.inl ⟨rfl,rfl⟩)
 refine codeAny_call_def (binds:= [(C9, .ref e),(B8,cm),(C7,cp)]) (body:=r0.body) hd (X _ _ hK) rfl hl (codeRec_of X hcode) rfl bp ?_ ?_ ?_ s7 s6 s8
 . intro x hx
   unfold Q7 at c3
   rw[Z1n] at c3
   haveI:=c3 x hx
   intro q
   rw[q] at this
   exact ff this
 . intro x hx
   have:x.1∈ [C9,B8,C7]:=by
    rcases List.mem_cons.mp hx with rfl | hx
    . exact .head _
    . rcases List.mem_cons.mp hx with rfl | hx
      . exact .tail _ (.head _)
      . rcases List.mem_cons.mp hx with rfl | hx
        . exact .tail _ (.tail _ (.head _))
        . cases hx
   exact c4 _ this
 . intro h₀ hns hkp
   generalize henv:callEnv (defFd r0.name qual r0.params r0.body r0.scope mainGlobals .none .none none pm (.ref c) doc) s.heap.objs.size fi=env
   haveI e1:env.scope=r0.scope:=by rw[<-henv];rfl
   haveI e3:env.locals=s.heap.objs.size:=by rw[<-henv];rfl
   have hz:s.heap.objs.size<h₀.objs.size:=hns.lt
   haveI hsc:env.scope.kind= .function:=by rw[e1];exact s8
   have nodbg:∀x∈ [C9,B8,C7],(x==("__debug__" :Str))=false:=by decide +kernel
   have ld:∀{h:Heap} {m:Str->Option Value} {x:Str} {v:Value} {p:Pos} {tk:Nat} {A:Around} {E:Value->Shared->Prop} {Q:Value->Shared->Prop},x∈ [C9,B8,C7]->h.Ns s.heap.objs.size m->m x=some v->Q v {s with heap:=h,toks:=tk}->wpAny (model pg w) A (eval (.Name x p) env) Q E {s with heap:=h,toks:=tk}:=by
    intro h m x v p tk A E Q hx hn hv k;exact Z3g (Z2k hsc (by show env.scope.names.lookup x=_;rw[e1];exact c4 x hx) (by rw[e3];exact hn) hv k) (nodbg x hx)
   have m1:(λx=>([(C9,Value.ref e),(B8,cm),(C7,cp)]:List (Str × Value)).reverse.lookup x) C9=some (.ref e):=by
    show List.lookup C9 [(C7,cp),(B8,cm),(C9, .ref e)]=_;rw[List.lookup_cons,show(C9==C7)=false by decide +kernel];dsimp only;rw[List.lookup_cons,show(C9==B8)=false by decide +kernel];dsimp only;rw[List.lookup_cons,show(C9==C9)=true by decide +kernel]
   have m2:(λx=>([(C9,Value.ref e),(B8,cm),(C7,cp)]:List (Str × Value)).reverse.lookup x) B8=some cm:=by
    show List.lookup B8 [(C7,cp),(B8,cm),(C9, .ref e)]=_;rw[List.lookup_cons,show(B8==C7)=false by decide +kernel];dsimp only;rw[List.lookup_cons,show(B8==B8)=true by decide +kernel]
   have m3:(λx=>([(C9,Value.ref e),(B8,cm),(C7,cp)]:List (Str × Value)).reverse.lookup x) C7=some cp:=by
    show List.lookup C7 [(C7,cp),(B8,cm),(C9, .ref e)]=_;rw[List.lookup_cons,show(C7==C7)=true by decide +kernel]
   generalize hm:(λx=>([(C9,Value.ref e),(B8,cm),(C7,cp)]:List (Str × Value)).reverse.lookup x)=m at hns m1 m2 m3
   have hLe:s.heap.objs.size≠e:=Z0q (Z0i he)
   have I0:h₀.Inst e pc (λJ=>none):=⟨_,hkp _ _ he,rfl,(λc q=>nomatch q), .inl ⟨rfl,λJ=>rfl⟩⟩
   rw[hb]
   have X0:K.In h₀:=X.keeps hkp
   have asg:∀{ps pa pv pos:Pos} {x:Str} {QQ:Flow->Shared->Prop} {E:Value->Shared->Prop} {v:Value} {h:Heap} {tk:Nat} {A:Around} {mA:Str->Option Value},x∈ [C9,B8,C7]->findIn K (.ref pc) x=some none->K.In h->h.Ns s.heap.objs.size m->m x=some v->h.Inst e pc mA->Within mA [B8]->
    (∀h' tk',h'.Inst e pc (λy=>if y=x then some v else mA y)->h.objs.size<=h'.objs.size->
     (∀b o,b≠e->(∀o₀ dx,h.get? e=some o₀->o₀.dict=some dx->b≠dx)->h.get? b=some o->h'.get? b=some o)->
     (∀o₀,h.get? e=some o₀->∃o₁,h'.get? e=some o₁/\o₁.cls=o₀.cls/\o₁.data=o₀.data/\o₁.slots=o₀.slots/\(∀dx,o₀.dict=some dx->o₁.dict=some dx)/\∃dx,o₁.dict=some dx/\(o₀.dict=none->dx=h.objs.size))->QQ .next {s with heap:=h',toks:=tk'})->
    wpAny (model pg w) A (exec (.Assign [.Attribute (.Name C9 ps) x pa] (.Name x pv) pos) env) QQ E {s with heap:=h,toks:=tk}:=by
    intro ps pa pv pos x QQ E v h tk A mA hx hf XK hn hv I hw k
    refine A0q rfl (ld hx hn hv ?_) rfl
    refine wpAny_of_eq (a:=none) rfl (A56 ?_)
    rw[arm_assign_Attribute]
    refine Z0d (Z1b (ld (.head _) hn m1 ?_))
    refine Z0d (Z1r (Z0d (Z1b ?_)))
    exact D5l (s:={s with heap:=h,toks:=tk}) XK hC PK.sa hf I (λh' tk' i1 i2 i3 i4=>wpAny_release (k h' tk' i1 i2 i3 i4)) hw (by simp)
   refine Z0j (asg (.tail _ (.head _)) PK.msg X0 hns m2 I0 (λy hy=>absurd rfl hy) λh1 tk1 i1 z1 k1 o1=>?_)
   have hns1:h1.Ns s.heap.objs.size m:=by
    refine Q0 hns λo es ep eo r=>?_;clear hns;exact⟨o,es,ep,k1 _ _ hLe (λo₀ dx h0 hd0=>by rw[hkp _ _ he] at h0;cases h0;cases hd0) eo,r⟩
   have keep1:∀b o,b≠e->h₀.get? b=some o->h1.get? b=some o:=λb o hb hb0=>k1 b o hb (λo₀ dx h0 hd0=>by rw[hkp _ _ he] at h0;cases h0;cases hd0) hb0
   have X1:K.In h1:=λb o hb=>keep1 b o (kb b o hb) (X0 b o hb)
   obtain⟨o1',g1,g2,g3,g4,_,dx,g6,g7⟩:=o1 _ (hkp _ _ he)
   have g7:=g7 rfl
   obtain⟨oc,od,odt,osl⟩:=o1'
   have g2:oc= .ref pc:=g2
   have g3:odt= .fields #[.ref t, .none, .none, .none, .bool false, .none]:=g3
   have g4:osl= #[]:=g4
   have g6:od=some dx:=g6
   subst g2 g3 g4 g6
   refine Z0j (asg (tk:=tk1) (.tail _ (.tail _ (.head _))) PK.plc X1 hns1 m3 i1 (λy hy=>?_) λh2 tk2 i2 z2 k2 o2=>?_)
   . by_cases q:y=B8
     . subst q;exact .head _
     . exact absurd (Z0m q) hy
   . show wpAny _ _ (execs [] env) _ _ _
     refine Z0f ?_
     obtain⟨o2',f1,f2,f3,f4,f5,dx',f6,f7⟩:=o2 _ g1
     have f5:=f5 dx rfl
     obtain⟨oc,od,odt,osl⟩:=o2'
     have f2:oc= .ref pc:=f2
     have f3:odt= .fields #[.ref t, .none, .none, .none, .bool false, .none]:=f3
     have f4:osl= #[]:=f4
     have f5:od=some dx:=f5
     subst f2 f3 f4 f5
     refine hq h2 tk2 (λb o hbe hb=>?_) (Z0c (Z0o hz) (Z0c z1 z2)) ⟨dx,(λy=>if y=C7 then some cp else if y=B8 then some cm else none),f1,?_⟩
     . refine k2 b o hbe (λo₀ d h0 hd0=>?_) (keep1 b o hbe (hkp b o hb))
       rw[g1] at h0
       replace h0:=Z0a h0;subst h0
       have hd0:some dx=some d:=hd0
       injection hd0 with hd0
       subst hd0
       have:=Z0i hb
       intro q
       subst q
       rw[g7] at this
       exact absurd (Z1f this hz) (Z1e _)
     . refine T7 i2 λoo ho J J hdd=>?_
       clear i2
       rw[f1] at ho
       replace ho:=Z0a ho;subst ho
       rcases hdd with⟨q,_⟩ | ⟨d,q,_,hN⟩
       . exact sn q
       . have q:some dx=some d:=q
         injection q with q
         subst q
         refine⟨hN,?_,Z0p rfl⟩
         show(if B8=C7 then some cp else if B8=B8 then some cm else none)=some cm
         rw[Z0m (by decide +kernel),Z0p rfl]
theorem C9s:fastLookup "type" "__call__" = some (some (.builtin "type.__call__")):=rfl
theorem D5u:(fastBuiltinMro "type").map (·.contains (.type "type"))=some true:=rfl
noncomputable abbrev A12(cm cp:Value):Obj:={cls:= .type "tuple",data:= .seq ([cm,cp]:List Value).toArray}
noncomputable abbrev A01(pc t:Addr):Obj:={cls:= .ref pc,data:= .fields #[.ref t, .none, .none, .none, .bool false, .none]}
theorem B8t{cm cp:Value}{R:Result->Shared->Prop}{nm q:Str}{N:Addr}{bs:List Value}{S:Addr × Addr}{sub:List Value}{sl:Array (Option Value)}(hC:s.heap.get? pc=some (Z1 nm q pc N bs S sub sl))
 (made:Looks (model pg w) s.heap (Bind.madeBy (.ref pc)) (some "Exception.__new__")) (base':Looks (model pg w) s.heap (Bind.staticBase (.ref pc)) (.ref pc))
 (typ:Looks (model pg w) s.heap (isInstance (.ref pc) (.type "type")) true) (K4:∀v b,(Value.ref pc :: .ref S.1 :: .ref S.2 :: bmE).contains v=b->Looks (model pg w) s.heap (isSubtype (.ref pc) v) b)
 (hq:R (.ok (.ret (.ref (s.heap.objs.size+1)))) {s with heap:=(s.heap.push (A12 cm cp)).push (A01 pc s.heap.objs.size)}) :
 codeAny (model pg w) A (.call (.builtin "Exception.__new__") ⟨[.ref pc,cm,cp],[]⟩) R s:=by
 haveI F:=PySem.F.excBase_Exception
 haveI subX:=K4 (.type "Exception") true (rfl)
 haveI subA:=K4 (.type "AttributeError") false (rfl)
 haveI subN:=K4 (.type "NameError") false (rfl)
 obtain⟨h,g,d,t,os⟩:=s
 refine codeAny_call_builtin_code (Z5c _ F.quiet) ?_
 have ty:Looks (model pg w) h (isType (.ref pc)) true:=(Looks.ld hC).andThen .now
 haveI here:Looks (model pg w) h (Bind.madeHere "BaseException.__new__" (.ref pc)) ():=base'.andThen (made.andThen (C94 (by simp only[Option.map_some,F.canon];simp) .now))
 dsimp only[checkBuiltinCall,F.newKind,F.newSplit,F.newRow]
 refine D53 (by decide) (L6 ty (O1 (by decide) (L6 subX (O1 (by decide) (L6 base' (L6 made (O1 (by decide) ?_)))))))
 repeat (first | simp only[bne_self_eq_false,Bool.false_eq_true,if_false,Bool.not_true] | lk)
 haveI hends:=F.ends
 refine PySem.codeAny_builtinAt F.entry ?_
 refine PySem.wpAt_bind ?_
 refine PySem.wpAt_bind (PySem.wpAt_stack λp below=>PySem.wpAt_of_wpAny ?_)
 wp_walk
 refine PySem.wpAt_of_wpAny ?_
 refine re F.owner ?_
 refine L6 ty (O1 (by decide) (L6 subX (O1 (by decide) (L6 here ?_))))
 repeat (first | simp only[Bool.not_true,Bool.false_eq_true,if_false] | lk | wp_step)
 haveI kp2:∀o1 o2:Obj,((h.push o1).push o2).get? pc=some (Z1 nm q pc N bs S sub sl):=λo1 o2=>Z0h _ (Z0h _ hC)
 refine wpAny_load (kp2 _ _) ?_
 repeat (first | simp only[Bool.not_true,Bool.false_eq_true,if_false] | lk | wp_step)
 rw[Heap.size_push]
 exact hq
theorem C6t{cm cp:Value}{Q:Value->Shared->Prop}(kin:K.In A0)(hs:A0.StaysIn s.heap)(PK:PerrK K A0 pc)(hl:s.heap.NoLimit)(hd:A.depth+1<recursionLimit)
 (hq:∀h' e tk,NewX pc cm cp s.heap h' e->Q (.ref e) {s with heap:=h',toks:=tk}):wpAny (model pg w) A (call (.ref pc) [cm,cp]) Q E s:=by
 refine B4q PK.cls λnm q N bs S sub sl hC0 s4=>?_
 obtain⟨fi,r0,qual,pm,c,doc,hi,hty,hK,hcode,c1,c2,c3,c4,p1,p2,p3,p4,p5,p6,p7,p8,hb⟩:=PK.init
 have X:K.In s.heap:=kin.keeps hs
 haveI hC:s.heap.get? pc=some (Z1 nm q pc N bs S sub sl):=X _ _ hC0
 have cin:clsIn K pc=some ⟨nm,bs, .ref pc :: .ref S.1 :: .ref S.2 :: bmE,N,q,true,[],sub,false,none,false⟩:=by unfold clsIn;rw[hC0]
 have hm:Looks (model pg w) s.heap (mroOf (.ref pc)) (.ref pc :: .ref S.1 :: .ref S.2 :: bmE):=(Z4e X cin).andThen .now
 have made:Looks (model pg w) s.heap (Bind.madeBy (.ref pc)) (some "Exception.__new__"):=by
  intro A Q E s k q;refine Z0d (hm A _ E s k ?_);rw[List.forIn_cons];refine Z0d (Z0d (Z0d (Z0d (Z2o (k _ _ hC) (Z0f ?_)))));refine re s4 ?_;exact Z0f (Z0f (Z0f q))
 have base':Looks (model pg w) s.heap (Bind.staticBase (.ref pc)) (.ref pc):=by
  intro A Q E s k q;refine Z0d (hm A _ E s k ?_);rw[List.forIn_cons];exact Z0d (Z0d (Z0d (made A _ E s k (Z0f (Z0f (Z0f q))))))
 haveI tin:typeIn K (.ref pc)=some (.type "type"):=by unfold typeIn;dsimp only;rw[hC0];rfl
 haveI typ:Looks (model pg w) s.heap (isInstance (.ref pc) (.type "type")) true:=looks_instIn X (by unfold instIn;rw[tin];exact D5u)
 have K4:∀v b,(Value.ref pc :: .ref S.1 :: .ref S.2 :: bmE).contains v=b->Looks (model pg w) s.heap (isSubtype (.ref pc) v) b:=λv b e=>
  looks_mroIn X (by unfold mroIn;rw[cin];show some ((Value.ref pc :: .ref S.1 :: .ref S.2 :: bmE).contains v)=_;rw[e])
 haveI self:=K4 (.ref pc) true (by simp)
 haveI call:Looks (model pg w) s.heap (specialOf (.ref pc) "__call__") (some (.builtin "type.__call__")):=looks_specialIn X (by unfold specialIn;rw[tin];exact C9s)
 refine Z2g (Z2v (nd_load hC (Z0d (Z0f (Z0d (call.at ?_))))))
 refine L6 (Z2w (tc_bind _)) ?_
 refine Z0d (Z0f ?_)
 refine Z0f (a:=Fin.again (.call (.builtin "type.__call__") ⟨[.ref pc,cm,cp],[]⟩)) (And.intro rfl ?_)
 refine codeAny_call_builtin_at (Z5c _ (by decide +kernel)) entry_typeCall (check_slot tc_kind tc_split typ (tc_args _ _ _) ?_)
 delta Builtin.«type.__call__»
 refine O1 (by simp) ?_
 refine L6 hm ?_
 refine O1 (λq=>Bool.noConfusion q) ?_
 refine L6 made ?_
 refine Z0d (Z0f ?_)
 refine Z0d (Z1b (Z2g (B8t hC made base' typ K4 ?_)))
 have kp:∀b o,s.heap.get? b=some o->((s.heap.push (A12 cm cp)).push (A01 pc s.heap.objs.size)).get? b=some o:=λb o e=>Z0h _ (Z0h _ e)
 haveI hz:((s.heap.push (A12 cm cp)).push (A01 pc s.heap.objs.size)).objs.size=s.heap.objs.size+2:=by rw[Heap.size_push,Heap.size_push]
 haveI hget:((s.heap.push (A12 cm cp)).push (A01 pc s.heap.objs.size)).get? (s.heap.objs.size+1)=some (A01 pc s.heap.objs.size):=by heap_get
 generalize (s.heap.push (A12 cm cp)).push (A01 pc s.heap.objs.size)=h1 at kp hz hget ⊢
 have X₁:K.In h1:=X.keeps kp
 have t1:Looks (model pg w) h1 (typeOf (.ref (s.heap.objs.size+1))) (.ref pc):=(Looks.ld hget).andThen .now
 refine L6 (s:={s with heap:=h1}) (t1.andThen (f:=λt=>isSubtype t (.ref pc)) (self.keeps kp)) ?_
 refine O1 (by decide) ?_
 refine Z0d (Z1b ?_)
 refine Z0d (Z0d (t1.at ((Z1z X₁ hi).at ?_)))
 refine Z1b (Z0d ((bind_fn X₁ (.ref (s.heap.objs.size+1)) hty).at ?_))
 refine Z0d (Z2g ?_)
 refine D5q (s:={s with heap:=h1}) (e:=s.heap.objs.size+1) (t:=s.heap.objs.size) X₁ (λb o e q=>?_) PK hC0 ?_ hd hK hcode c1 c2 c3 c4 hb hget λh' tk k1 k2 k3=>?_
 . subst q
   exact Z1e _ (Z2x (Z0i (X _ _ e)))
 . refine A1 hl λmc n1 n2=>?_
   clear hl
   exact A6 mc (n1.keeps kp) n2
 . refine Z0f (O1 (by decide) (Z0f ?_))
   exact hq h' (s.heap.objs.size+1) tk ⟨λb o eb=>k1 b o (λq=>by subst q;exact Z1e _ (Z2x (Z0i eb))) (kp b o eb),Z0c (by rw[hz];lia) k2,Z1d _,s.heap.objs.size,k3⟩
end
section
variable{K:Frag}{D U:Nat}
variable{k:KS}{kx:MineE.K}{Q:Flow->Shared->Prop}
theorem D2n{N:Addr}{S:Addr × Addr}{nm q:Str}{bs:List Value}{sub:List Value}{sl:Array (Option Value)}{x:Sem Value}{Q:Flow->Shared->Prop}(hh:A.handled=none)
 (h:wpAny (model pg w) A x (λv s₁=>∃e t dx,v= .ref e/\s₁.heap.get? pc=some (Z1 nm q pc N bs S sub sl)/\
  s₁.heap.get? e=some ⟨.ref pc,some dx, .fields #[.ref t, .none, .none, .none, .bool false, .none],#[]⟩/\E (.ref e) s₁) E s) :
 wpAny (model pg w) A (raiseStmt env (some x) none) Q E s:=by
 haveI hcB:(Value.ref pc :: (.ref S.1 :: .ref S.2 :: bmE)).contains (.type "BaseException")=true:=by simp only[Z5b,Z5b,Z5b,show(bmE.contains (.type "BaseException"))=true by decide +kernel,Bool.or_true,Bool.or_true,Bool.or_true]
 refine Z0d (Z1c h (λv s₁ h₁=>?_) λJ J x=>x)
 refine R9 h₁ λe t dx q'1 hC he hE=>?_
 clear h₁
 subst q'1
 obtain⟨hp,g,d,tk,os⟩:=s₁
 have sub1:∀{QQ:Bool->Shared->Prop} {EE:Value->Shared->Prop} {A0:Value} {A:Around},QQ ((Value.ref pc :: .ref S.1 :: .ref S.2 :: bmE).contains A0) ⟨hp,g,d,tk,os⟩->wpAny (model pg w) A (isSubtype (.ref pc) A0) QQ EE ⟨hp,g,d,tk,os⟩:=by
  intro QQ EE A0 A hq;unfold isSubtype;repeat (any_goals (first | assumption | with_reducible refine Z5f hC ?_ | wp_step))
 repeat (first | with_reducible refine Z5f he ?_ | with_reducible refine Z5f hC ?_ | (with_reducible refine sub1 ?_;rw[hcB]) | wp_step)
 exact wpAny_raiseNew_none hh hE
theorem B9c[Og s og](G:GT w T cc gv mg mb A0 K)(hD:D<recursionLimit)(hpc:mg J0=some (.ref pc))(PK:PerrK K A0 pc){x:Str}{m p:Expr}{np cpos pos:Pos}{rest:List Stmt}{xm xp:X}(hr:SoAll og w T cc gv A0 pc K D U r n)(hx:E0 x J0=true)(hg:A5u env.scope.names x=true)(h1:B7 m=false)(h2:B7 p=false)
 (hc1:cE cc env.scope.names DF m=some xm) (hc2:cE cc env.scope.names DF p=some xp)
 (h:r.e xm l H (λvm h=>r.e xp l h (λvp h=>bB (B24 vm) (kx vp h) false) kx) kx=true) (cx:Cx D U (n+1) A env outer)
 (a:At gv (A2 T cc) A0 Θ H l env outer s.heap) (px:PX og gv (A2 T cc) A0 pc (onL env) Θ H env outer s.heap kx E):wpAny (model pg w) A (execs (.Raise (some (.Call (.Name x np) [m,p] [] cpos)) none pos :: rest) env) Q E s:=by
 have cx':=cx.low (Z1d n)
 obtain rfl:=(J3 _ _).mp hx
 refine Z0j ?_
 refine Z0d (Z1r ?_)
 refine B4q PK.cls λnm q N bs S sub sl hC0 J=>?_
 refine D2n (S:=S) (N:=N) (nm:=nm) (q:=q) (bs:=bs) (sub:=sub) (sl:=sl) cx.ca.hand ?_
 have hgl:env.kindOf J0=some .globalImplicit:=(D3w hg).elim λJ e=>(G6 e).2.2
 haveI ng:s.heap.Ns env.globals mg:=by rw[cx.glob];exact G.g.keeps a.st.stays
 refine Z0d (Z3f (Z2z cx.kind hgl (Z4c ng hpc ?_) (by decide)))
 haveI hst:([m,p]:List Expr).any B7=false:=by simp[h1,h2]
 refine M4 (N0 hst).1 ?_
 rw[A4t h1,A4t h2]
 show wpAny _ _ (spliced [(false,eval m env),(false,eval p env)]) _ _ _
 refine Z0n (hr.e _ _ _ _ _ _ _ _ _ _ _ _ _ _ hc1 h cx' a ?_ px.strong)
 intro vm H1 hk1 Θ1 cm s1 x1 a1 vr1 J
 haveI X1:=x1.weak (X:=onL env)
 refine Z0n (hr.e _ _ _ _ _ _ _ _ _ _ _ _ _ _ hc2 hk1 cx' a1 ?_ (px.on X1).strong)
 intro vp H2 hk2 Θ2 cp s2 x2 a2 vr2 J
 have X2:=X1.trans (x2.weak (X:=onL env))
 obtain⟨hsv,hk⟩:=A5 hk2
 refine Z0x ⟨U7 PK.kp (G.kin.keeps a2.st.stays),?_⟩
 have hl:s2.heap.NoLimit:=by
  refine A1 G.lim λmc n1 n2=>?_;exact A6 mc (n1.keeps a2.st.stays) n2
 refine C6t G.kin a2.st.stays PK hl (by have:=cx.ca.dep;lia) λh' e tk nx=>?_
 refine Z0d (Z1r (Z0f ?_))
 refine R9 nx.there λt dx mm e1 e2 e3 e4=>?_
 refine X6 e t dx rfl (nx.keeps _ _ (a2.st.stays _ _ (G.kin _ _ hC0))) e1 (?_)
 refine px vp H2 hk Θ2 e _ (X2.trans (Ext.keeps nx.keeps nx.size)) (a2.st.keeps nx.keeps nx.size) ?_
 have hm:∃y u,cm= .str y u:=by
  cases vm <;> first | (cases hsv;done) | (obtain⟨u,rfl⟩:=vr1;exact A5x _ _ rfl)
 refine F9 hm λy u q'2=>?_
 clear hm
 subst q'2
 haveI hlo:s.heap.objs.size<=e:=Z0c X2.size nx.new
 refine A6 .none ⟨⟨dx,_,#[],e1,rfl,mm,cp,e2,⟨y,u,e3⟩,e4,vr2⟩,?_,hlo⟩ (.inl rfl)
 cases qq:A0.get? e with
 |none=>rfl
 |some o=>exact absurd (Z0b (Z0i (a2.st.stays _ _ qq)) nx.new) (Z1e _)
end
theorem Ext.fresh{S:List Addr}{X:Addr->Prop}{Θ Θ':Th}{n n':Nat}{h h' h'':Heap}{wr:List Addr}(x:Ext S X Θ n h Θ' n' h')(hk:∀b o,b∉wr->h'.get? b=some o->h''.get? b=some o)(hw:∀b,b∈wr->h.objs.size<=b)(hz:h'.objs.size<=h''.objs.size) :
 Ext S X Θ n h Θ' n' h'':=
 ⟨x.le,x.same,x.new,λb o e hb hX=>by
  obtain⟨k1,sl,k2⟩:=x.keep b o e hb hX;have q:b∉wr:=λz=>absurd (Z0i e) (Z1g.mpr (hw b z));exact⟨λz=>hk b o q (k1 z),sl,hk b _ q k2⟩,Z0c x.size hz⟩
section
variable{K:Frag}{D U:Nat}
variable{k:KS}{kx:MineE.K}{Q:Flow->Shared->Prop}
theorem At.walk{fp:List Addr}{wr:List Addr}(a:At gv (A2 T cc) A0 Θ H l env outer h)(hf:env.frame=some env.locals)(ap:Apart A0 Θ H (env :: outer) h fp)(hsub:∀b,b∈wr->b∈fp)(hL:env.locals∉fp)(hk:∀b o,b∉wr->h.get? b=some o->h'.get? b=some o)(hz:h.objs.size<=h'.objs.size) :
 At gv (A2 T cc) A0 Θ H l env outer h':=by
 refine A1 a.fr λm hn F=>?_
 refine⟨a.st.but (X:=λb=>b∈wr) (λb o e q=>hk b o q e) hz (λi hi z hz q=>ap.ours z (hsub z q) i hi z hz rfl) (λb o e q=>?_) ?_,m,hn.at' λo e=>hk _ o (λq=>hL (hsub _ q)) e,F⟩
 . rw[ap.low b (hsub b q)] at e;exact nn e
 . refine W7 a.st.frames λenv' he L hL'=>?_
   refine K6 (S6 a.st.frames env' he) λL' o' hf' J e d=>?_
   obtain rfl:L=L':=Z0a (hL'.symm.trans hf')
   exact A6 o' (hk _ _ (λq=>ap.fr L (hsub L q) (Z2h.mpr ⟨env',he,hL'⟩)) e) d
theorem Apart.on{fp:List Addr}{fs:List Env}{S:List Addr}{X:Addr->Prop}(ap:Apart A0 Θ H fs h fp)(x:Ext S X Θ H.n h Θ' H'.n h'):Apart A0 Θ' H' fs h' fp where
 lt:=λb hb=>Z0b (ap.lt b hb) x.size
 low:=ap.low
 ours:=λb hb i hi z hz=>by
  by_cases q:i<H.n
  . refine A7 (x.same i q) λe1 e2 e3=>?_;refine ap.ours b hb i q z ?_;unfold own at hz ⊢;rw[e1,e2,e3] at hz;exact hz
  . exact Z0q (Z0b (ap.lt b hb) (x.new i (Z1g.mp q) hi z hz))
 fr:=ap.fr
theorem C0a(hr:SoAll og w T cc gv A0 pc K D U r n):B2t og w T cc gv A0 pc D U (R6 T P r) (n+1):=by
 intro fu x p ss y i vs l H k kx A env outer s Θ I fp wr N PP Stt j Θ0 H0 h0 Q E hp hb h cx a W st hN hV ap hfp hL x0 ps px J;have cx':=cx.low (Z1d n);refine Z2v ?_;refine Z4x ?_;refine Z0d (Z1r (Z0d (Z4g ?_)));cases vs with
 |nil=>
  subst hN;refine P7 (W.done s _ _ st λh' tk hk hz=>?_);exact Z0f ⟨rfl,codeAny_block (Z0f (ps _ _ _ h _ _ _ (x0.fresh (wr:=wr) hk (λb hb=>hfp b (W.sub b hb)) hz) (a.walk cx.frame ap (λb hb=>W.sub b hb) hL hk hz) .next))⟩
 |cons v vs=>
  refine P7 (W.item j s _ _ (hN▸Nat.lt_add_of_pos_right (Nat.succ_pos _)) st λcv h' tk hP st' hk hz=>?_);haveI a1:=a.walk (h':=h') cx.frame ap (λb hb=>W.sub b hb) hL hk hz;haveI x1:Ext (frs (env :: outer)) (onL env) Θ0 H0.n h0 Θ H.n h':=x0.fresh (wr:=wr) hk (λb hb=>hfp b (W.sub b hb)) hz;refine Z0d (wpAny_of_eq (a:=()) rfl ?_);refine Z0d (Z3m (A3c (s:={s with heap:=h',toks:=tk}) cx hp a1 (hV 0 v rfl cv hP Θ H.n) λs2 x2 a2=>?_))
  intro J;haveI ap1:Apart A0 Θ H (env :: outer) h' fp:=⟨λb hb=>Z0b (ap.lt b hb) hz,ap.low,ap.ours,ap.fr⟩;have ap2:=ap1.on x2;have st2:Stt (j+1) s2.heap:=W.frame _ _ _ st' λb hb o e=>(x2.keep b o e (λi hi=>⟨(ap.ours b hb i hi _ (.inl rfl)).symm,(ap.ours b hb i hi _ (.inr (.inl rfl))).symm⟩) (λq=>hL (q▸hb))).1 (ap.fr b hb);have X2:=x1.trans x2;refine Z0d (hr.ss _ _ _ _ _ _ _ _ _ _ _ _ _ _ hb h cx' a2 ?_ ?_)
  . intro f l3 H3 hk3 Θ3 cf s3 x3 a3 fr J;have X3:=X2.trans x3;cases fr with
    |next=>
     refine Z0f ⟨rfl,?_⟩;have ap3:=ap2.on x3;refine hr.fr fu x p ss y i vs _ _ k kx A env outer s3 Θ3 I fp wr N PP Stt (j+1) Θ0 H0 h0 Q E hp hb hk3 cx' a3 W ?_ ((Nat.add_right_comm j 1 _).trans hN) (λq v' e cv' hP'=>hV (q+1) v' e cv' (by rw[show j+(q+1)=j+1+q from Nat.add_right_comm j q 1];exact hP')) ap3 hfp hL X3 ps px;exact W.frame _ _ _ st2 λb hb o e=>(x3.keep b o e (λi hi=>⟨(ap2.ours b hb i hi _ (.inl rfl)).symm,(ap2.ours b hb i hi _ (.inr (.inl rfl))).symm⟩) (λq=>hL (q▸hb))).1 (ap.fr b hb)
    |ret vr=>exact Z0f (ps _ _ _ hk3 _ _ _ X3 a3 (.ret vr))
  . intro pv H3 hk3 Θ3 e3 s3 x3 st3 xi J;have X3:=X2.trans x3;refine A9q cx.ca.fr cx.frame st3 xi λh'' st'' kp xi'=>?_;refine px _ _ hk3 _ _ _ ?_ st'' (xi'.mono (Z0c X2.size (Z0g _)));refine⟨X3.le,X3.same,X3.new,λb o eb hb' hX=>?_,Z0c X3.size kp.size⟩;obtain⟨k1,sl,k2⟩:=X3.keep b o eb hb' hX;have lb:b<s2.heap.objs.size:=Z0b (Z0i eb) X2.size;obtain⟨_,sl',j2⟩:=kp.keep b _ k2 (.inl lb);exact⟨λhS=>(kp.keep b o (k1 hS) (.inl lb)).1 hS,sl',j2⟩
theorem A8h:∀s:Tx,A5o s=s.map λc=> .str [c]
 | []=>rfl
 |c :: s=>by show V.str [c] :: A5o s=_;rw[A8h s];rfl
theorem D1x[Og s og]{x:Str}{i:Nat}{it:Expr}{body rest:List Stmt}{p p':Pos}{xi:X}{xb q:S}{fu:Nat}(hr:SoAll og w T cc gv A0 pc K D U r n)(hp:B3 x env.scope.names 0=some (i, .local))(hc:cE cc env.scope.names DF it=some xi)(hb:cSs cc env.scope.names fu body=some xb)(hq:cSs cc env.scope.names fu rest=some q)
 (h:r.e xi l H (λv h=>B6r r i v xb q l h k kx) kx=true) (cx:Cx D U n A env outer)
 (a:At gv (A2 T cc) A0 Θ H l env outer s.heap) (ps:PS og gv (A2 T cc) A0 Θ H env outer s.heap k Q) (px:PX og gv (A2 T cc) A0 pc (onL env) Θ H env outer s.heap kx E):wpAny (model pg w) A (execs (.For (.Name x p') it body [] p :: rest) env) Q E s:=by
 refine Z0j (wpAny_For (hr.e _ _ _ _ _ _ _ _ _ _ _ _ _ _ hc h cx a ?_ px.strong) (λJ=>by cases it <;> first | rfl | (exact nn hc;done)))
 intro v H1 hk1 Θ1 c1 s1 x1 a1 vr1 J
 cases v <;> first | (exact ff hk1;done) | skip
 rename_i st
 obtain⟨t,rfl⟩:=vr1
 refine wpAny_pyIter_str λo Stt W st0=>?_
 have kp:∀b o',s1.heap.get? b=some o'->(s1.heap.push o).get? b=some o':=λJ J e=>Z0h _ e
 have sz:s1.heap.objs.size<=(s1.heap.push o).objs.size:=by rw[Heap.size_push];exact(Z1d _)
 haveI X:=x1.weak (X:=onL env)
 haveI Xp:Ext (frs (env :: outer)) (onL env) Θ1 H1.n s1.heap Θ1 H1.n (s1.heap.push o):=Ext.keeps kp sz
 have lfr:∀L,L∈frs (env :: outer)->L<s1.heap.objs.size:=λL hL=>by
  obtain⟨_,x,e,_⟩:=a1.st.frames.mem hL;exact Z0i e
 refine hr.fr fu x p' body xb i (A5o st) l H1 _ kx A env outer {s1 with heap:=s1.heap.push o} Θ1 s1.heap.objs.size [s1.heap.objs.size] [s1.heap.objs.size] _ _ Stt 0 Θ1 H1 s1.heap (A3d w A env rest Q E) E hp hb hk1 cx (a1.keeps kp sz) (W A cx.ca.hand) st0 ?_ ?_ ?_ ?_ ?_ Xp ?_ (px.on X)
 . rw[A8h,List.length_map];show 0+st.length=st.toArray.size;simp
 . intro q v hv cv hP Θ n'
   refine B4 hP λc u e1 q'2=>?_
   clear hP
   subst q'2
   rw[A8h,Z1v] at hv
   have e1:st[q]?=some c:=by simpa [sOf] using e1
   rw[e1] at hv
   replace hv:=Z0a hv;subst hv
   exact⟨u,rfl⟩
 . refine⟨λb hb=>?_,λb hb=>?_,λb hb i hi z hz=>?_,λb hb=>?_⟩
   . rw[Z0s.mp hb];show _<(s1.heap.push o).objs.size;rw[Heap.size_push];exact Z0v _
   . rw[Z0s.mp hb];exact Heap.StaysIn.fresh a1.st.stays
   . rw[Z0s.mp hb]
     rcases hz with rfl | rfl | ⟨j,hj,rfl | rfl⟩
     . exact Z0k (a1.st.lt i hi).1
     . exact Z0k (a1.st.lt i hi).2
     . exact Z0k (a1.st.wlt i hi j hj).1
     . exact Z0k (a1.st.wlt i hi j hj).2
   . rw[Z0s.mp hb];exact λq=>absurd (lfr _ q) (Z1e _)
 . intro b hb;rw[Z0s.mp hb];exact Z0g _
 . intro q
   have e:=Z0s.mp q
   have:=lfr env.locals (by unfold frs;rw[List.filterMap_cons,cx.frame];exact .head _)
   rw[e] at this
   exact Z1e _ this
 . exact A5g hr.ss hq cx (ps.on X) (px.on X)
end
section
variable{K:Frag}{D U:Nat}
theorem A95{f:X->S->S}{o:Option X}{q:Option S}{x:S}(h:s1 f o q=some x):∃a b,o=some a/\q=some b/\x=f a b:=by
 refine A1 (bi h) λa h1 h=>?_;refine A1 (bi h) λb h2 h=>?_;exact V7 a b h1 h2 ((Z0a h).symm)
theorem B9q{f:X->X->S->S}{o z:Option X}{q:Option S}{x:S}(h:s2 f o z q=some x):∃a b c,o=some a/\z=some b/\q=some c/\x=f a b c:=by
 refine A1 (bi h) λa h1 h=>?_;refine A1 (bi h) λb h2 h=>?_;refine A1 (bi h) λc h3 h=>?_;exact X6 a b c h1 h2 h3 ((Z0a h).symm)
theorem ifn{α:Type}{c:Bool}{o:Option α}{x:α}(h:(if c then none else o)=some x):c=false/\o=some x:=by cases c <;> first | exact⟨rfl,h⟩ | exact nn h
inductive SsR(c:CC)(ns:Ns):Nat->List Stmt->S->Prop
 |nil (fu:Nat):SsR c ns fu [] .nil
 |assign {fu:Nat} {x:Str} {p p':Pos} {e:Expr} {rest:List Stmt} {i:Nat} {xe:X} {q:S} (hp:B3 x ns 0=some (i, .local)) (hco:G5 e=false) (hc:cE c ns DF e=some xe) (hq:cSs c ns fu rest=some q):SsR c ns (fu+1) (.Assign [.Name x p'] e p :: rest) (.assign i xe q)
 |tup {fu:Nat} {ts:List Expr} {kd:Nat} {p p':Pos} {e:Expr} {rest:List Stmt} {is:List Nat} {xe:X} {q x:S} (hl:X7 ns ts=some is) (hd:Z9 is=true) (hco:G5 e=false) (hac:Z2 e=false) (hc:cE c ns DF e=some xe) (hq:cSs c ns fu rest=some q) (hx:x= .swap is xe q\/x= .assignT is xe q) :
  SsR c ns (fu+1) (.Assign [.Tuple ts kd p'] e p :: rest) x
 |attr {fu:Nat} {o e:Expr} {y:Str} {p p':Pos} {rest:List Stmt} {i:Nat} {xo xe:X} {q:S} (hp:B9 y c.attrs 0=some i) (hi:i≠12) (hco:G5 e=false) (ho:cE c ns DF o=some xo) (hc:cE c ns DF e=some xe) (hq:cSs c ns fu rest=some q):SsR c ns (fu+1) (.Assign [.Attribute o y p'] e p :: rest) (.setattr xo i xe q)
 |expr {fu:Nat} {e:Expr} {p:Pos} {rest:List Stmt} {xe:X} {q:S} (hco:G5 e=false) (hc:cE c ns DF e=some xe) (hq:cSs c ns fu rest=some q):SsR c ns (fu+1) (.Expr e p :: rest) (.expr xe q)
 |ret0 {fu:Nat} {p:Pos} {rest:List Stmt}:SsR c ns (fu+1) (.Return none p :: rest) (.ret (.const .none))
 |ret {fu:Nat} {e:Expr} {p:Pos} {rest:List Stmt} {xe:X} (hc:cE c ns DF e=some xe):SsR c ns (fu+1) (.Return (some e) p :: rest) (.ret xe)
 |ite {fu:Nat} {t:Expr} {b o rest:List Stmt} {p:Pos} {xt:X} {xb xo q:S} (h1:cE c ns DF t=some xt) (h2:cSs c ns fu b=some xb) (h3:cSs c ns fu o=some xo) (h4:cSs c ns fu rest=some q):SsR c ns (fu+1) (.If t b o p :: rest) (.ite xt xb xo q)
 |whl {fu:Nat} {t:Expr} {b rest:List Stmt} {p:Pos} {xt:X} {xb q:S} (h1:cE c ns DF t=some xt) (h2:cSs c ns fu b=some xb) (h4:cSs c ns fu rest=some q):SsR c ns (fu+1) (.While t b [] p :: rest) (.whl xt xb q)
 |forr {fu:Nat} {x:Str} {it:Expr} {b rest:List Stmt} {p p':Pos} {i:Nat} {xi:X} {xb q:S} (h0:B3 x ns 0=some (i, .local)) (h1:cE c ns DF it=some xi) (h2:cSs c ns fu b=some xb) (h4:cSs c ns fu rest=some q):SsR c ns (fu+1) (.For (.Name x p') it b [] p :: rest) (.forr i xi xb q)
 |raise {fu:Nat} {y:Str} {p p1 p2:Pos} {m e:Expr} {rest:List Stmt} {xm xp:X} (q1:E0 y J0=true) (q2:A5u ns y=true) (q3:B7 m=false) (q4:B7 e=false) (h1:cE c ns DF m=some xm) (h2:cE c ns DF e=some xp):SsR c ns (fu+1) (.Raise (some (.Call (.Name y p1) [m,e] [] p2)) none p :: rest) (.raise xm xp)
 |pass {fu:Nat} {p:Pos} {rest:List Stmt} {q:S} (hq:cSs c ns fu rest=some q):SsR c ns (fu+1) (.Pass p :: rest) (.pass q)
theorem B43{c:CC}{ns:Ns}{fu:Nat}{ss:List Stmt}{x:S}(hc:cSs c ns fu ss=some x):SsR c ns fu ss x:=by
 cases fu with
 |zero=>exact nn hc
 |succ fu=>
  cases ss with
  |nil=>replace hc:=Z0a hc;subst hc;exact .nil _
  |cons st rest=>
   cases st with
   |Assign ts e p=>
    refine M6 hc λt hc=>?_;obtain⟨hco,hc⟩:=ifn hc;obtain hc | hc:=or2 hc
    . refine A0u hc λy p' hc=>?_;refine A1 (bi hc) λi ei hc=>?_;refine F8 (A95 hc) λxe xq h1 h2 q'1=>?_;subst q'1;refine B4 (A84 ei) λJ J ez ei=>?_;cases ez;exact .assign ei hco h1 h2
    obtain hc | hc:=or2 hc
    . refine C6q hc λxs kd p' hc=>?_;obtain⟨hac,hc⟩:=ifn hc;refine A1 (bi hc) λis ei hc=>?_;obtain⟨qd,hc⟩:=ift hc;obtain⟨xe,xq,h1,h2,rfl⟩:=A95 hc;refine .tup ei qd hco hac h1 h2 ?_;cases B7h e <;> first | exact .inr rfl | exact .inl rfl
    . refine A41 hc λo y p' hc=>?_;obtain⟨i,ei,hc⟩:=bi hc;obtain⟨q2,hc⟩:=ifn hc;refine R9 (B9q hc) λxo xe xq h1 h2 h3 q'3=>?_;subst q'3;exact .attr ei (λz=>by rw[z] at q2;cases q2) hco h1 h2 h3
   |Expr e p=>
    obtain⟨hco,hc2⟩:=ifn (show(if G5 e then none else _)=some x from hc)
    refine F8 (A95 hc2) λxe xq h1 h2 q'4=>?_;subst q'4;exact .expr hco h1 h2
   |Return v p=>
    cases v with
    |none=>replace hc:=Z0a hc;subst hc;exact .ret0
    |some e=>
     refine A1 (bi hc) λxe h1 hc=>?_;replace hc:=Z0a hc;subst hc;exact .ret h1
   |If t b o p=>
    refine A1 (bi hc) λJ h1 hc=>?_;refine A1 (bi hc) λJ h2 hc=>?_;obtain⟨_,h3,hc⟩:=bi hc;obtain⟨_,h4,hc⟩:=bi hc;replace hc:=Z0a hc;subst hc;exact .ite h1 h2 h3 h4
   |While t b o p=>
    obtain⟨q,hc⟩:=ift hc;obtain⟨_,h1,hc⟩:=bi hc;obtain⟨_,h2,hc⟩:=bi hc;obtain⟨_,h4,hc⟩:=bi hc;cases hc;obtain rfl:=List.isEmpty_iff.mp q;exact .whl h1 h2 h4
   |For tg it b o p=>
    obtain⟨q,hc⟩:=ift hc;refine A1 (bi hc) λJ h0 hc=>?_;obtain⟨_,h1,hc⟩:=bi hc;obtain⟨_,h2,hc⟩:=bi hc;obtain⟨_,h4,hc⟩:=bi hc;cases hc;obtain rfl:=List.isEmpty_iff.mp q;refine B4 (A84 h0) λy p' q'5 k0=>?_;subst q'5;exact .forr k0 h1 h2 h4
   |Raise ex ca p=>
    cases ca with
    |some _=>exact nn hc
    |none=>
     cases ex with
     |none=>exact nn hc
     |some e=>
      refine B5k hc λg es ks J h=>A0u h λy J h=>Q5 h λm p h=>?_;obtain⟨q,h⟩:=ift h;refine A1 (bi h) λxm h1 h=>?_;refine A1 (bi h) λxp h2 h=>?_;replace h:=Z0a h;subst h;simp only[Bool.and_eq_true,Bool.not_eq_true',List.isEmpty_iff] at q;obtain⟨rfl,q⟩:=q;exact .raise q.1.1.1 q.1.1.2 q.1.2 q.2 h1 h2
   |Pass p=>
    obtain⟨_,h1,hc⟩:=bi hc;cases hc;exact .pass h1
   |_=>exact nn hc
theorem C67(G:GT w T cc gv mg mb A0 K)(hD:D<recursionLimit)(hpc:mg J0=some (.ref pc))(PK:PerrK K A0 pc)(hr:SoAll og w T cc gv A0 pc K D U r n):SoS og w T cc gv A0 pc D U (R6 T P r) (n+1):=by
 intro fu ss x l H k kx A env outer s Θ Q E hc h cx a ps px J;have cx':=cx.low (Z1d n);cases B43 hc with
 |nil=>exact Z0f (ps _ _ _ h _ _ _ Ext.refl a .next)
 |assign hp hco h1 h2=>exact D2k hr hco hp h1 h2 h cx' a ps px
 | @tup fu ts kd p p' e rest is xe q x hl hd hco hac h1 h2 hx=>
  haveI h':sAT r is xe q l H k kx=true:=by rcases hx with rfl | rfl <;> exact h
  exact D5o G hr hco hac hl hd h1 h2 h' cx' a ps px
 |attr hp hi hco ho h1 h2=>exact C1q G hr hco hp hi ho h1 h2 h cx' a ps px
 |expr hco h1 h2=>exact D5x hr hco h1 h2 h cx' a ps px
 |ret0=>exact C07 hr h a ps
 |ret h1=>exact C1s hr h1 h cx' a ps px
 |ite h1 h2 h3 h4=>exact B80 hr h1 h2 h3 h4 h cx' a ps px
 |whl h1 h2 h4=>exact C6u hr h1 h2 h4 h cx' a ps px
 |forr h0 h1 h2 h4=>exact D1x hr h0 h1 h2 h4 h cx' a ps px
 |raise q1 q2 q3 q4 h1 h2=>exact B9c G hD hpc PK hr q1 q2 q3 q4 h1 h2 h cx a px
 |pass hq=>exact Z0j (wpAny_Pass (hr.ss _ _ _ _ _ _ _ _ _ _ _ _ _ _ hq h cx' a ps px))
theorem D4b:SoAll og w T cc gv A0 pc K D U bot 0 where
 e:=λJ J J J J J J J J J J J J J J h=>(Z0u h).elim
 es:=λJ J J J J J J J J J J J J J J J J h=>(Z0u h).elim
 t:=λJ J J J J J J J J J J J J J J h=>(Z0u h).elim
 ss:=λJ J J J J J J J J J J J J J J h=>(Z0u h).elim
 lp:=λJ J J J J J J J J J J J J J J J J J h=>(Z0u h).elim
 c:=λJ J J J J J J J J J J J J h=>(Z0u h).elim
 fr:=λJ J J J J J J J J J J J J J J J J J J J J J J J J J J J J J h=>(Z0u h).elim
 kn:=λJ J J J h=>(Z0u h).elim
theorem A2g(G:GT w T cc gv mg mb A0 K)(hD:D<recursionLimit)(hU:U<cLine)(hpc:mg J0=some (.ref pc))(PK:PerrK K A0 pc)(hP:N9 og w T cc gv A0 pc K D U P):∀n,SoAll og w T cc gv A0 pc K D U (run T P n) n
 | 0=>D4b
 |n+1=>by
  haveI hr:=A2g G hD hU hpc PK hP n;exact⟨D60 G hU hP hr,D23 hr,D4o G hU hr,C67 G hD hpc PK hr,C62 hr,C48 G hD hr,C0a hr,λJ J J J h=>h⟩
end
def A4(i:Nat):FnRec:=((pg.main.body.drop (118 - i)).head?.bind λs=>A76 s λname params body scope pos=>some ⟨name,params,body,scope,pos⟩).getD ⟨Str.empty,default,[],default,default⟩
theorem B7z:lkS "int" cc0.glob=some (.bi 4):=rfl
theorem A26:lkS "len" cc0.glob=some (.bi 0):=rfl
theorem B7p:lkS "max" cc0.glob=some (.bi 3):=rfl
theorem C08:lkS "min" cc0.glob=some (.bi 2):=rfl
theorem B8n:lkS "range" cc0.glob=some (.bi 8):=rfl
section
variable{K:Frag}{D U:Nat}
variable{Q:Value->Shared->Prop}
def Ie(w:World)(A:Around)(env:Env)(h:Heap)(e:Expr)(i:Int):Prop:=∀(s:Shared) (Q E:Value->Shared->Prop),s.heap=h->(∀t tk,Q (.int i t) {s with toks:=tk})->wpAny (model pg w) A (eval e env) Q E s
variable{e1 e2:Expr}{p pos:Pos}{i j:Int}
theorem Ie.const{k:Nat}:Ie w A env h (.Constant (.int i) k p) i:=λs Q E hs q=>Z1k (q _ _)
theorem Ie.add(a:Ie w A env h e1 i)(b:Ie w A env h e2 j):Ie w A env h (.BinOp e1 .Add e2 p) (i+j):=λs Q E hs q=>Z1t (a s _ _ hs λt tk=>b {s with toks:=tk} _ _ hs λu tk2=>add_int (q _ _))
theorem Ie.sub(a:Ie w A env h e1 i)(b:Ie w A env h e2 j):Ie w A env h (.BinOp e1 .Sub e2 p) (i - j):=λs Q E hs q=>Z1t (a s _ _ hs λt tk=>b {s with toks:=tk} _ _ hs λu tk2=>sub_int (q _ _))
theorem Ie.mul(hm:IntMulOk i j)(a:Ie w A env h e1 i)(b:Ie w A env h e2 j):Ie w A env h (.BinOp e1 .Mult e2 p) (i * j):=λs Q E hs q=>Z1t (a s _ _ hs λt tk=>b {s with toks:=tk} _ _ hs λu tk2=>mul_int (q _ _) hm)
theorem Ie.mod(hj:j≠0)(a:Ie w A env h e1 i)(b:Ie w A env h e2 j):Ie w A env h (.BinOp e1 .Mod e2 p) (i.fmod j):=λs Q E hs q=>Z1t (a s _ _ hs λt tk=>b {s with toks:=tk} _ _ hs λu tk2=>mod_int hj (q _ _))
theorem Ie.div(hj:j≠0)(hb:j.natAbs<1073741824)(a:Ie w A env h e1 i)(b:Ie w A env h e2 j):Ie w A env h (.BinOp e1 .FloorDiv e2 p) (i.fdiv j):=
 λs Q E hs q=>Z1t (a s _ _ hs λt tk=>b {s with toks:=tk} _ _ hs λu tk2=>floordiv_int hj (q _ _) (.inl (PyProof.noPylong_small hb)))
theorem A9{x:Str}{k:Nat}{m:Str->Option Value}{v:Value}(cx:Cx D U n A₀ env outer)(hp:B3 x env.scope.names 0=some (k, .local))(hn:s.heap.Ns env.locals m)(hv:m x=some v)(q:Q v s):wpAny (model pg w) A (eval (.Name x p) env) Q E s:=by
 refine A7 (G6 hp) λJ e1 e2=>?_;exact Z3g (Z2k cx.kind e2 hn hv q) (cx.nodbg (Z1p e1))
theorem A13{x:Str}{k:Nat}{v:V}(G:GT w T cc gv mg mb A0 K)(cx:Cx D U n A₀ env outer)(hp:B3 x env.scope.names 0=some (k, .globalImplicit))(hl:lkS x cc.glob=some v)(sy:A0.StaysIn s.heap)
 (q:∀cv,(∀Θ n,VR gv Θ n v cv)->Q cv s):wpAny (model pg w) A (eval (.Name x p) env) Q E s:=by
 refine A7 (G6 hp) λJ J e2=>?_
 obtain⟨d1,d2⟩:=G.name _ _ hl
 haveI hgl:env.kindOf x=some .globalImplicit:=e2
 have ng:s.heap.Ns env.globals mg:=by rw[cx.glob];exact G.g.keeps sy
 have nb:s.heap.Ns env.builtins mb:=by rw[cx.blt];exact G.b.keeps sy
 rcases d2 with⟨cv,c1,c2⟩ | ⟨c0,cv,c1,c2⟩
 . exact Z2z cx.kind hgl (Z4c ng c1 (q _ c2)) d1
 . exact Z2z cx.kind hgl (loadGlobal_builtin ng c0 nb c1 (q _ c2)) d1
theorem B0o{x:Str}{k:Nat}{v:Value}(G:GT w T cc gv mg mb A0 K)(cx:Cx D U n A₀ env outer)(hp:B3 x env.scope.names 0=some (k, .globalImplicit))(hm:mg x=some v)(hd:(x==Str.ofString "__debug__")=false)(sy:A0.StaysIn s.heap)
 (q:Q v s):wpAny (model pg w) A (eval (.Name x p) env) Q E s:=by
 refine A7 (G6 hp) λJ J e2=>?_
 haveI ng:s.heap.Ns env.globals mg:=by rw[cx.glob];exact G.g.keeps sy
 exact Z2z cx.kind e2 (Z4c ng hm q) hd
theorem L8{x:Str}{k m:Nat}{cv:Value}{as:List Expr}(G:GT w T cc gv mg mb A0 K)(cx:Cx D U n A₀ env outer)(hp:B3 x env.scope.names 0=some (k, .globalImplicit))(hl:lkS x cc.glob=some (.bi m))(hcv:O9 m=some cv)(hk:∀h:Heap,∃k,Looks (model pg w) h (keeperOf cv) k)(sy:A0.StaysIn s.heap)(hst:as.any B7=false)
 (h:wpAny (model pg w) A (spliced (backTo pos (starEach as env))) (λvs s'=>wpAny (model pg w) A (call cv vs) Q E s') E s):wpAny (model pg w) A (eval (.Call (.Name x p) as [] pos) env) Q E s:=by
 refine Z3f (A13 G cx hp hl sy λc hc=>?_)
 haveI:O9 m=some c:=hc ⟨λJ=>0,λJ=>0,λJ=>gh0⟩ 0
 clear hl sy hc
 obtain rfl:cv=c:=Z0a (hcv.symm.trans this)
 refine M4 (N0 hst).1 (Z1c h (λvs s' h'=>⟨hk _,h'⟩) λJ J e=>e)
theorem Ie.int{x:Str}{k:Nat}(G:GT w T cc0 gv mg mb A0 K)(cx:Cx D U n A env outer)(sy:A0.StaysIn h)(hx:x=Str.ofString "int")(hp:B3 x env.scope.names 0=some (k, .globalImplicit))(hs1:B7 e1=false)(a:Ie w A env h e1 i):Ie w A env h (.Call (.Name x p) [e1] [] pos) i:=λs Q E hs q=>by
 subst hx;refine L8 (cv:= .type "int") G cx hp B7z rfl (λJ=>⟨.machine, .now⟩) (by rw[hs];exact sy) (by simp[hs1]) ?_;rw[J8 (by simp[hs1])];exact Z0n (a s _ _ hs λt tk=>Z0x (call_int_int (q t tk)))
theorem Ie.name{x:Str}{k:Nat}{m:Str->Option Value}{t:Tok}(cx:Cx D U n A env outer)(hp:B3 x env.scope.names 0=some (k, .local))(hn:h.Ns env.locals m)(hv:m x=some (.int i t)):Ie w A env h (.Name x p) i:=
 λs Q E hs q=>A9 cx hp (by rw[hs];exact hn) hv (q t s.toks)
theorem Ie.item{x:Str}{k:Nat}{m:Str->Option Value}{S:Addr}{vs:Array Value}{ep:Nat}{t:Tok}{p1:Pos}{ki:Nat}{p2:Pos}{jn:Nat}(cx:Cx D U n A env outer)(hp:B3 x env.scope.names 0=some (k, .local))(hn:h.Ns env.locals m)(hv:m x=some (.ref S))
 (hl:IsL h S vs ep) (hj:j=(jn:Int)) (hb:jn<1000) (hi:vs[jn]?=some (.int i t)):Ie w A env h (.Subscript (.Name x p1) (.Constant (.int j) ki p2) p) i:=λs Q E hs q=>by
 subst hs hj
 refine Z3h (A9 cx hp hn hv (Z1k ?_))
 exact W4 (s:={s with toks:=s.toks+1}) hl.isList.typeIs slot_list_getitem.lookup (Z3u (s:={s with toks:=s.toks+1}) hl.isList (by lia) (by lia) (by simp only[Int.toNat_natCast];exact hi) (q t _))
end
structure Pool(h:Heap)(S:Addr):Prop where
 ex:∃a b ta tb e,IsL h S #[.int a ta, .int b tb] e/\0<=a/\0<=b/\b<2147483648
theorem IsL.set{h:Heap}{S:Addr}{vs:Array Value}{e k:Nat}{v:Value}(x:IsL h S vs e):∃e',IsL (h.update S (Obj.mapSeq (·.setIfInBounds k v))) S (vs.setIfInBounds k v) e':=⟨_,x.update _⟩
theorem A4d{a b:Int}(hb:0<b):0<=a.fmod b/\a.fmod b<b:=⟨Int.fmod_nonneg_of_pos a hb,Int.fmod_lt_of_pos a hb⟩
section
variable{K:Frag}{D U:Nat}
variable{Q:Flow->Shared->Prop}
structure Drawn(S:Addr)(h h':Heap):Prop where
 keep:∀b o,h.get? b=some o->b≠S->h'.get? b=some o
 size:h.objs.size<=h'.objs.size
 pool:Pool h' S
theorem C0i[Og s og](G:GT w T1 cc0 gv mg mb A0 K)(cx:Cx D U n A env outer)(hsc:env.scope=(A4 14).scope){m:Str->Option Value}{S:Addr}{a b:Int}{ta tb tt:Tok}{ep top:Nat}(sy:A0.StaysIn s.heap)(low:A0.get? S=none)(hn:s.heap.Ns env.locals m)(hm1:m "source" = some (.ref S))(hm2:m "top" = some (.int top tt))(hL:S≠env.locals)(bL:A0.get? env.locals=none)
 (hl:IsL s.heap S #[.int a ta, .int b tb] ep) (ha:0<=a) (hb:0<=b) (hb':b<2147483648) (ht:1<=top) (ht':top<=1000)
 (q:∀d:Nat,d<top->∀t s',(∀b o,s.heap.get? b=some o->b≠S->b≠env.locals->s'.heap.get? b=some o)->s.heap.objs.size<=s'.heap.objs.size->Pool s'.heap S->∀ [Og s' og],Q (.ret (.int d t)) s'):wpAny (model pg w) A (execs (A4 14).body env) Q E s:=by
 conv=>arg 3;arg 1;whnf
 have p0:=pkl hsc "source" 0
 have p1:=pkl hsc "top" 1
 have p2:=pkl hsc "drawn" 2
 have p3:=pkg hsc "int" 3
 have i0:∀{p p1 p2:Pos} {ki:Nat},Ie w A env s.heap (.Subscript (.Name "source" p1) (.Constant (.int 0) ki p2) p) a:=Ie.item (jn:=0) cx p0 hn hm1 hl rfl ((by decide)) rfl
 haveI i1:∀{p p1 p2:Pos} {ki:Nat},Ie w A env s.heap (.Subscript (.Name "source" p1) (.Constant (.int 1) ki p2) p) b:=Ie.item (jn:=1) cx p0 hn hm1 hl rfl (by decide) rfl
 haveI it:∀{p:Pos},Ie w A env s.heap (.Name "top" p) (top:Int):=Ie.name cx p1 hn hm2
 have tp0:(0:Int)<top:=Int.ofNat_lt.mpr ht
 have tp:(top:Int)≠0:=Int.ne_of_gt tp0
 refine Z0j (Z3b (Z1q (i0 s _ _ rfl λt1 k1=>Ie.const {s with toks:=k1} _ _ rfl λt2 k2=>gt_int (Z1a ?_))))
 by_cases hpos:0<a
 . rw[decide_eq_true hpos,Z0p rfl]
   refine Z0j (Z1i (Ie.mod tp (Ie.int G cx sy rfl p3 rfl i0) it {s with toks:=k2} _ _ rfl λt3 k3=>?_))
   haveI dm:=A4d (a:=a) (b:=(top:Int)) tp0
   refine A7 (G6 p2) λJ e1 e2=>?_
   refine Z1w e2 hn (λh' hn' sb=>?_) (by rw[cx.kind];rfl)
   have ks:∀b o,s.heap.get? b=some o->b≠env.locals->h'.get? b=some o:=λb o eb hb=>(sb.2 b hb).trans eb
   haveI hl':IsL h' S #[.int a ta, .int b tb] ep:=ks _ _ hl hL
   have m1:(λx=>if x=Str.ofString "drawn" then some (Value.int (a.fmod top) t3) else m x) "source" = some (.ref S):=by
    show(if Str.ofString "source" = Str.ofString "drawn" then _ else _)=_
    rw[Z0m (by decide)];exact hm1
   have m2:(λx=>if x=Str.ofString "drawn" then some (Value.int (a.fmod top) t3) else m x) "top" = some (.int top tt):=by
    show(if Str.ofString "top" = Str.ofString "drawn" then _ else _)=_
    rw[Z0m (by decide)];exact hm2
   haveI m3:(λx=>if x=Str.ofString "drawn" then some (Value.int (a.fmod top) t3) else m x) "drawn" = some (.int (a.fmod top) t3):=Z0p rfl
   refine Z0j (wpAny_Assign_Subscript (Ie.div tp (by omega) (Ie.item (jn:=0) cx p0 hn' m1 hl' rfl ((by decide)) rfl) (Ie.name cx p1 hn' m2) {s with heap:=h',toks:=k3+1} _ _ rfl λt4 k4=>A9 cx p0 hn' m1 (Z1k ?_)))
   refine ki_setAt (ho:=hl') (by decide) (by decide) (by show(0:Int)<((2:Nat):Int);decide) ?_
   obtain⟨e',hl2⟩:=IsL.set (k:=0) (v:= .int (a.fdiv top) t4) hl'
   haveI hn2:(h'.update S (Obj.mapSeq (·.setIfInBounds 0 (.int (a.fdiv top) t4)))).Ns env.locals _:=hn'.at λo eo=>(Z1s _ _ hL).trans eo
   refine Z0j (Z1u (A9 cx p2 hn2 m3 ?_))
   obtain⟨dn,hd⟩:=Int.eq_ofNat_of_zero_le dm.1
   refine re hd ?_
   refine q dn (Int.ofNat_lt.mp (hd▸dm.2)) _ _ (λb o eb h1 h2=>(Z1s _ _ (Ne.symm h1)).trans (ks b o eb h2)) (by simp only[Heap.size_after_update];exact Z0z sb.1.symm) ⟨a.fdiv top,b,_,_,e',hl2,?_,hb,hb'⟩
   rw[Int.fdiv_eq_ediv_of_nonneg a (Int.le_of_lt tp0)]
   exact Int.ediv_nonneg ha (Int.le_of_lt tp0)
 . rw[Z1h hpos,Z0m (by decide)]
   refine Z0f ?_
   haveI bm:=A4d (a:=b * 39373+7) (b:=2147483647) (by decide)
   refine Z0j (wpAny_Assign_Subscript (Ie.mod (by decide) (Ie.int G cx sy rfl p3 rfl (Ie.add (Ie.mul (Z3n (by decide)) i1 Ie.const) Ie.const)) Ie.const {s with toks:=k2} _ _ rfl λt4 k4=>A9 cx p0 hn hm1 (Z1k ?_)))
   generalize (b * 39373+7).fmod 2147483647=b2 at bm
   refine ki_setAt (ho:=hl) (by decide) (by decide) (by show(1:Int)<((2:Nat):Int);decide) ?_
   obtain⟨e',hl2⟩:=IsL.set (k:=1) (v:= .int b2 t4) hl
   haveI hn2:(s.heap.update S (Obj.mapSeq (·.setIfInBounds 1 (.int b2 t4)))).Ns env.locals m:=hn.at λo eo=>(Z1s _ _ hL).trans eo
   have sy2:A0.StaysIn (s.heap.update S (Obj.mapSeq (·.setIfInBounds 1 (.int b2 t4)))):=λb o eb=>(Z1s _ _ (λz=>by rw[<-z,low] at eb;exact nn eb)).trans (sy b o eb)
   have i2:∀{p p1 p2:Pos} {ki:Nat},Ie w A env (s.heap.update S (Obj.mapSeq (·.setIfInBounds 1 (.int b2 t4)))) (.Subscript (.Name "source" p1) (.Constant (.int 1) ki p2) p) b2:=Ie.item (jn:=1) cx p0 hn2 hm1 hl2 rfl (by decide) rfl
   have dm:=A4d (a:=((b2 * b2).fmod 2147483629).fdiv 32) (b:=(top:Int)) tp0
   refine Z0j (Z1u (Ie.mod tp (Ie.int G cx sy2 rfl p3 rfl (Ie.div (by decide) (by decide) (Ie.mod (by decide) (Ie.int G cx sy2 rfl p3 rfl (Ie.mul (Z3n (intBits_le_64 (Int.lt_of_lt_of_le (by decide) bm.1) (Int.lt_trans bm.2 (by decide)))) i2 i2)) Ie.const) Ie.const)) (Ie.name cx p1 hn2 hm2) {s with heap:=_,toks:=k4+1} _ _ rfl λt5 k5=>?_))
   obtain⟨dn,hd⟩:=Int.eq_ofNat_of_zero_le dm.1
   rw[hd]
   exact q dn (Int.ofNat_lt.mp (hd▸dm.2)) _ _ (λb o eb h1 h2=>(Z1s _ _ (Ne.symm h1)).trans eb) (by show _<=(s.heap.update _ _).objs.size;rw[Heap.size_after_update];exact Z0g _) ⟨a,b2,_,_,e',hl2,ha,bm.1,Int.lt_trans bm.2 (by decide)⟩
end
section
variable{K:Frag}{D U:Nat}
variable{Θ0:Th}{H00:Hp}{kx:MineE.K}{Q:Flow->Shared->Prop}{x:X}{y:S}{e:Expr}{ss:List Stmt}{fu:Nat}
theorem B13[Og s og](hr:SoAll og w T cc gv A0 pc K D U r n){kt:Bool->Hp->Bool}(hc:cE cc env.scope.names DF e=some x)(hb:cSs cc env.scope.names fu ss=some y)(cx:Cx D U n A env outer)(a:At gv (A2 T cc) A0 Θ H l env outer s.heap)
 (x0:Ext (frs (env :: outer)) (onL env) Θ0 H00.n h0 Θ H.n s.heap) (px:PX og gv (A2 T cc) A0 pc (onL env) Θ0 H00 env outer h0 kx E)
 (h:r.t x l H kt kx=true)
 (go:∀(H1:Hp) (Θ1:Th) (s1:Shared),kt true H1=true->Ext (frs (env :: outer)) (onL env) Θ0 H00.n h0 Θ1 H1.n s1.heap->At gv (A2 T cc) A0 Θ1 H1 l env outer s1.heap->∃kb,r.ss y l H1 kb kx=true/\
  ∀(f:Fl) (l2:Loc) (H2:Hp) (Θ2:Th) (s2:Shared),kb f l2 H2=true->f= .next/\(Ext (frs (env :: outer)) (onL env) Θ0 H00.n h0 Θ2 H2.n s2.heap->At gv (A2 T cc) A0 Θ2 H2 l2 env outer s2.heap->∀ [Og s2 og],codeAny (model pg w) A (.whileLoop e ss [] env) (N1 (model pg w) A env Q E) s2))
 (done:∀(H1:Hp) (Θ1:Th) (s1:Shared),kt false H1=true->Ext (frs (env :: outer)) (onL env) Θ0 H00.n h0 Θ1 H1.n s1.heap->At gv (A2 T cc) A0 Θ1 H1 l env outer s1.heap->∀ [Og s1 og],Q .next s1) :
 codeAny (model pg w) A (.whileLoop e ss [] env) (N1 (model pg w) A env Q E) s:=by
 have noted:∀{Θ1:Th} {H1:Hp} {s1:Shared} {Θ':Th} {H':Hp} {pv:V} {e:Addr} {s':Shared} {X:Addr->Prop},Ext (frs (env :: outer)) (onL env) Θ0 H00.n h0 Θ1 H1.n s1.heap->(∀z,X z->onL env z)->Ext (frs (env :: outer)) X Θ1 H1.n s1.heap Θ' H'.n s'.heap->St gv (A2 T cc) A0 Θ' H' (env :: outer) s'.heap->XIs gv A0 s1.heap.objs.size pc Θ' H'.n env.locals pv e s'.heap->kx pv H'=true->∀ [Og s' og],
  notedBy (model pg w) A env (λe s'=>N1 (model pg w) A env Q E (.error e) s') (.ref e) s':=by
  intro Θ1 H1 s1 Θ' H' pv e s' X X1 hX X2 st xi hk J
  haveI X2':Ext (frs (env :: outer)) (onL env) Θ1 H1.n s1.heap Θ' H'.n s'.heap:=⟨X2.le,X2.same,X2.new,λb o eb hb hn=>X2.keep b o eb hb (λq=>hn (hX _ q)),X2.size⟩
  have X3:=X1.trans X2'
  refine A9q cx.ca.fr cx.frame st xi λh'' st'' kp xi'=>?_
  refine px pv H' hk Θ' e _ ?_ st'' (xi'.mono X1.size)
  refine⟨X3.le,X3.same,X3.new,λb o eb hb' hX=>?_,Z0c X3.size kp.size⟩
  obtain⟨k1,sl,k2⟩:=X3.keep b o eb hb' hX
  have lb:b<s1.heap.objs.size:=Z0b (Z0i eb) X1.size
  obtain⟨_,sl',j2⟩:=kp.keep b _ k2 (.inl lb)
  exact⟨λhS=>(kp.keep b o (k1 hS) (.inl lb)).1 hS,sl',j2⟩
 refine Z2v ?_
 refine Z4x ?_
 refine Z0d (hr.t _ _ _ _ _ _ _ _ _ _ _ _ _ _ hc h cx a ?_ ?_)
 . intro b H1 hk1 Θ1 s1 x1 a1 J
   have X:=x0.trans x1.weak
   cases b with
   |true=>
    refine A1 (go H1 Θ1 s1 hk1 X a1) λkb hk2 hn=>?_;refine Z0d (hr.ss _ _ _ _ _ _ _ _ _ _ _ _ _ _ hb hk2 cx a1 ?_ ?_)
    . intro f l2 H2 hk3 Θ2 cf s2 x2 a2 fr J;obtain⟨rfl,hn⟩:=hn f l2 H2 Θ2 s2 hk3;cases fr;exact Z0f ⟨rfl,hn (X.trans x2) a2⟩
    . intro pv H2 hk2 Θ2 e2 s2 x2 st xi J;exact noted X (λJ q=>q) x2 st xi hk2
   |false=>
    refine Z0d (Z0f (Z0f ?_));exact done H1 Θ1 s1 hk1 X a1
 . intro pv H2 hk2 Θ2 e2 s2 x2 st xi J
   exact noted x0 (λJ q=>q.elim) x2 st xi hk2
theorem D1l{stop:Hp->Bool}{m:Nat}{k:Loc->Hp->Bool}:A5i r x y stop (m+1) l H k kx=bB (stop H) (k l H) (r.t x l H (λc h=>bB c (r.ss y l h (λf l h=>fl f (A5i r x y stop m l h k kx) (λJ=>false)) kx) false) kx):=rfl
theorem B89{m:Nat}{k:Loc->Hp->Bool}:A1z r x y (m+1) l H k kx=r.t x l H (λc h=>bB c (r.ss y l h (λf l h=>fl f (A1z r x y m l h k kx) (λJ=>false)) kx) (k l h)) kx:=rfl
theorem A6e(hr:SoAll og w T cc gv A0 pc K D U r n){stop:Hp->Bool}{k:Loc->Hp->Bool}(hc:cE cc env.scope.names DF e=some x)(hb:cSs cc env.scope.names fu ss=some y)(cx:Cx D U n A env outer)
 (px:PX og gv (A2 T cc) A0 pc (onL env) Θ0 H00 env outer h0 kx E)
 (go:∀(l':Loc) (H':Hp) (Θ':Th) (s':Shared),k l' H'=true->Ext (frs (env :: outer)) (onL env) Θ0 H00.n h0 Θ' H'.n s'.heap->At gv (A2 T cc) A0 Θ' H' l' env outer s'.heap->∀ [Og s' og],codeAny (model pg w) A (.whileLoop e ss [] env) (N1 (model pg w) A env Q E) s') :
 ∀(m:Nat) (l:Loc) (H:Hp) (s:Shared) (Θ:Th),A5i r x y stop m l H k kx=true->At gv (A2 T cc) A0 Θ H l env outer s.heap->Ext (frs (env :: outer)) (onL env) Θ0 H00.n h0 Θ H.n s.heap->Og s og->codeAny (model pg w) A (.whileLoop e ss [] env) (N1 (model pg w) A env Q E) s
 | 0,l,H,s,Θ,h,_,_,_=>by exact ff h
 |m+1,l,H,s,Θ,h,a,x0,ok=>by
  rw[D1l] at h;cases q:stop H with
  |true=>rw[q] at h;exact go l H Θ s h x0 a
  |false=>
   rw[q] at h;refine B13 hr hc hb cx a x0 px h (λH1 Θ1 s1 hk X a1=>⟨_,hk,λf l2 H2 Θ2 s2 hk2=>?_⟩) (λH1 Θ1 s1 hk J J=>by exact ff hk);cases f with
   |next=>exact⟨rfl,λX2 a2=>A6e hr hc hb cx px go m l2 H2 s2 Θ2 hk2 a2 X2 inferInstance⟩
   |ret v=>exact ff hk2
theorem A7q(hr:SoAll og w T cc gv A0 pc K D U r n){k:Loc->Hp->Bool}(hc:cE cc env.scope.names DF e=some x)(hb:cSs cc env.scope.names fu ss=some y)(cx:Cx D U n A env outer)
 (px:PX og gv (A2 T cc) A0 pc (onL env) Θ0 H00 env outer h0 kx E)
 (done:∀(l':Loc) (H':Hp) (Θ':Th) (s':Shared),k l' H'=true->Ext (frs (env :: outer)) (onL env) Θ0 H00.n h0 Θ' H'.n s'.heap->At gv (A2 T cc) A0 Θ' H' l' env outer s'.heap->∀ [Og s' og],Q .next s') :
 ∀(m:Nat) (l:Loc) (H:Hp) (s:Shared) (Θ:Th),A1z r x y m l H k kx=true->At gv (A2 T cc) A0 Θ H l env outer s.heap->Ext (frs (env :: outer)) (onL env) Θ0 H00.n h0 Θ H.n s.heap->Og s og->codeAny (model pg w) A (.whileLoop e ss [] env) (N1 (model pg w) A env Q E) s
 | 0,l,H,s,Θ,h,_,_,_=>by exact ff h
 |m+1,l,H,s,Θ,h,a,x0,ok=>by
  rw[B89] at h;refine B13 hr hc hb cx a x0 px h (λH1 Θ1 s1 hk X a1=>⟨_,hk,λf l2 H2 Θ2 s2 hk2=>?_⟩) (λH1 Θ1 s1 hk X a1=>done _ _ _ _ hk X a1);cases f with
  |next=>exact⟨rfl,λX2 a2=>A7q hr hc hb cx px done m l2 H2 s2 Θ2 hk2 a2 X2 inferInstance⟩
  |ret v=>exact ff hk2
end
abbrev an0:An:=A2 T1 cc0
noncomputable def A1j(x p g:V):List (Nat × V):= [(14,x),(17,p),(21, .ref 1),(22,g)]
noncomputable def Θw(Θ:Th)(pre suf:Tx)(gr:Nat)(fv:List Value):Th:=⟨Θ.a,Θ.d,λi=>if i=1 then ⟨pre,suf,λJ=>0,fv,0,λJ=>0,λJ=>0⟩ else ⟨List.replicate gr 0,[],λJ=>0,[],0,λJ=>0,λJ=>0⟩⟩
theorem Θw_wn{Θ:Th}{pre suf:Tx}{gr:Nat}{fv:List Value}(i:Nat):((Θw Θ pre suf gr fv).gh i).wn=0:=by
 unfold Θw;dsimp only;split <;> rfl
inductive Cl0:V->Prop
 |none:Cl0 .none
 |str (s:Tx):Cl0 (.str s)
 |int (i:Int):Cl0 (.int i)
 |bytes (b:List Nat):Cl0 (.bytes b)
theorem A89{a b:V}(h:A40 a b=true):a=b/\Cl0 b:=by
 refine(Bool.or_eq_true_iff.mp h).elim (λh=>?_) λh=>(Bool.or_eq_true_iff.mp h).elim (λh=>?_) λh=>(Bool.or_eq_true_iff.mp h).elim (λh=>?_) λh=>?_
 . exact O8 h λa h=>O8 h λb h=>⟨congrArg _ (Z3.mp h), .str _⟩
 . exact W1 h λa h=>W1 h λb h=>⟨congrArg _ (of_decide_eq_true ((P9 a b).symm.trans h)), .int _⟩
 . exact B1s h λa h=>B1s h λb h=>⟨congrArg _ (Z3.mp h), .bytes _⟩
 . refine(Z1j.mp h).elim λh1 h2=>?_;rw[B39 h1,B39 h2];exact⟨rfl, .none⟩
section
variable{n':Nat}
theorem Cl0.vr{v:V}{cv:Value}(c:Cl0 v)(x:VR gv Θ n v cv):VR gv Θ' n' v cv:=by cases c <;> exact x
theorem H8.map{fs fs':List (Nat × V)}{m:Str->Option Value}(F:H8 gv an0 Θ n fs m)(hm:∀i,match lkG i fs with | some v=>∃v',lkG i fs'=some v'/\∀cv,VR gv Θ n v cv->VR gv Θ' n' v' cv | none=>lkG i fs'=none):H8 gv an0 Θ' n' fs' m:=by
 intro x;haveI Fx:=F x;cases e:B9 x an0.ns 0 with
 |none=>rw[e] at Fx;exact Fx
 |some i=>
  rw[e] at Fx;haveI q:=hm i;cases e2:lkG i fs with
  |none=>
   rw[e2] at q;dsimp only at Fx q ⊢;rw[e2] at Fx;rw[q];exact Fx
  |some v=>
   rw[e2] at q;dsimp only at Fx q ⊢;rw[e2] at Fx;refine A1 q λv' e3 q=>?_;refine A1 Fx λcv m1 vr=>?_;rw[e3];exact A6 cv m1 (q cv vr)
theorem A0l{a b c d:Nat}{x y z u x' y' z' u':V}(hx:∀cv,VR gv Θ n x cv->VR gv Θ' n' x' cv)(hy:∀cv,VR gv Θ n y cv->VR gv Θ' n' y' cv)(hz:∀cv,VR gv Θ n z cv->VR gv Θ' n' z' cv)(hu:∀cv,VR gv Θ n u cv->VR gv Θ' n' u' cv)(i:Nat) :
 match lkG i [(a,x),(b,y),(c,z),(d,u)] with | some v=>∃v',lkG i [(a,x'),(b,y'),(c,z'),(d,u')]=some v'/\∀cv,VR gv Θ n v cv->VR gv Θ' n' v' cv | none=>lkG i [(a,x'),(b,y'),(c,z'),(d,u')]=none:=by
 simp only[J6,A4y]
 by_cases q1:a=i
 . simp only[q1,if_true];exact A6 _ rfl hx
 . simp only[q1,if_false]
   by_cases q2:b=i
   . simp only[q2,if_true];exact A6 _ rfl hy
   . simp only[q2,if_false]
     by_cases q3:c=i
     . simp only[q3,if_true];exact A6 _ rfl hz
     . simp only[q3,if_false]
       by_cases q4:d=i
       . simp only[q4,if_true];exact A6 _ rfl hu
       . simp only[q4,if_false]
inductive Wd(gv:Nat->Option Value)(Θ:Th)(S:List Addr)(lo:Nat)(h:Heap)(v:Value)(t:Tk)(p:Nat):Prop
 |mk (x d:Nat) (x1:v= .ref x) (x2:lo<=x) (x3:lo<=d) (x4:x<h.objs.size) (x5:d<h.objs.size) (x6:(∀i,i<2->x≠Θ.a i/\x≠Θ.d i/\d≠Θ.a i/\d≠Θ.d i)) (x7:x∉S) (x8:d∉S) (x9:∀Θ' n',WdAt gv an0 Θ' n' h 88 x d (E9 t (.int (.ofNat p))))
def Wds(gv:Nat->Option Value)(Θ:Th)(S:List Addr)(lo:Nat)(h:Heap):List Value->List (Tk × Nat)->Prop:=D8 λv t=>Wd gv Θ S lo h v t.1 t.2
theorem Wds.app{S:List Addr}{lo:Nat}{vs us:List Value}{ts rs:List (Tk × Nat)}(x:Wds gv Θ S lo h vs ts)(y:Wds gv Θ S lo h us rs):Wds gv Θ S lo h (vs ++ us) (ts ++ rs):=D8.app x y
theorem Wd.keep{S:List Addr}{lo:Nat}{v:Value}{t:Tk}{p:Nat}{pre suf:Tx}{gr:Nat}{fv:List Value}(x:Wd gv Θ S lo h v t p)(hL:env.locals∈S)(hS:frs (env :: outer)=S)(k:Ext S (onL env) (Θw Θ pre suf gr fv) 2 h Θ' n' h'):Wd gv Θ S lo h' v t p:=by
 obtain⟨a,d,q'1,h1,h2,h3,h4,h5,h6,h7,h8⟩:=x;subst q'1;refine⟨a,d,rfl,h1,h2,Z0b h3 k.size,Z0b h4 k.size,h5,h6,h7,λΘ2 n2=>?_⟩;exact(h8 Θ2 n2).up (Z0g _) (λJ J=>⟨rfl,rfl,rfl⟩) (λb e=>(k.keep a b e (λi hi=>⟨(h5 i hi).1,(h5 i hi).2.1⟩) (λq=>h6 (q▸hL))).1 h6) (λb e=>(k.keep d b e (λi hi=>⟨(h5 i hi).2.2.1,(h5 i hi).2.2.2⟩) (λq=>h7 (q▸hL))).1 h7)
theorem Wds.keep{S:List Addr}{lo:Nat}{pre suf:Tx}{gr:Nat}{fv:List Value}(hL:env.locals∈S)(hS:frs (env :: outer)=S)(k:Ext S (onL env) (Θw Θ pre suf gr fv) 2 h Θ' n' h'){vs:List Value}{ts:List (Tk × Nat)}(x:Wds gv Θ S lo h vs ts):Wds gv Θ S lo h' vs ts:=D8.imp (λJ J x=>x.keep hL hS k) x
structure Sc(gv:Nat->Option Value)(A0:Heap)(Θ:Th)(env:Env)(outer:List Env)(h:Heap)(pre suf:Tx)(gr:Nat)(fv:List Value):Prop where
 stays:A0.StaysIn h
 lt:∀i,i<2->Θ.a i<h.objs.size/\Θ.d i<h.objs.size
 low:∀i,i<2->A0.get? (Θ.a i)=none/\A0.get? (Θ.d i)=none
 sep:∀i j,i<2->j<2->i≠j->Θ.a i≠Θ.a j/\Θ.a i≠Θ.d j/\Θ.d i≠Θ.a j/\Θ.d i≠Θ.d j
 frames:h.FunFrames A0 (env :: outer)
 apart:∀i,i<2->∀L,L∈frs (env :: outer)->L≠Θ.a i/\L≠Θ.d i
 small:pre.length+suf.length<=D4
 few:fv.length<=1000000
 gsm:gr<=1000
 sc:∃C m,Θ.a 0≠Θ.d 0/\gv 87=some (.ref C)/\h.get? (Θ.a 0)=some (instObj C (Θ.d 0))/\h.Ns1 (Θ.d 0) m/\H8 gv an0 (Θw Θ pre suf gr fv) 2 (A1j (.txt 1 [] true) (.lin 1 0) (.int (.ofNat gr))) m/\an0.cls 87
 lg:∃vs e,IsL h (Θ.a 1) vs e/\vs.toList=fv
 fr:∃m,h.Ns env.locals m/\(∀x k,env.scope.names[0]?=some (x,k)->m x=some (.ref (Θ.a 0)))/\∀x k,env.scope.names[1]?=some (x,k)->∃t,m x=some (.int ((pre.length+suf.length:Nat):Int) t)
theorem J9{s:Tx}{o:Bool}{gr:V}:(H0 s o gr).n=2:=rfl
theorem B2q{s:Tx}{o:Bool}{gr:V}:(H0 s o gr).get 0=some (.inst 87 (A1j (.txt 1 s o) (.lin 1 0) gr)):=by kernel_rfl
theorem B3w{s:Tx}{o:Bool}{gr:V}:(H0 s o gr).get 1=some (.log []):=by kernel_rfl
theorem two{i:Nat}(h:i<2):i=0\/i=1:=(Nat.eq_or_lt_of_le (Nat.le_of_lt_succ h)).elim .inr λh=> .inl (Nat.lt_one_iff.mp h)
theorem Sc.win{pre suf s:Tx}{o:Bool}{gr:Nat}{g:V}{fv:List Value}(S:Sc gv A0 Θ env outer h pre (s ++ suf) gr fv)(ho:o=true\/suf= [])(hg:GrOk gr g)(hf:env.frame=some env.locals):At gv an0 A0 (Θw Θ pre suf gr fv) (H0 s o g) (l0 s o) env outer h:=by
 have etx:∀b:Tx,pre ++ [] ++ (s ++ suf)=pre ++ s ++ (if o then suf else []):=λJ=>by
  rcases ho with rfl | rfl
  . simp
  . cases o <;> simp
 refine⟨⟨S.stays,by simp only[J9];decide,λi hi=>?_,S.lt,S.low,S.sep,λi hi=>?_,S.frames,S.apart,λi J j hj=>?_,λi J j hj=>?_,λi J L J j hj=>?_⟩,?_⟩
 . rcases two hi with rfl | rfl
   . refine B4m S.sc λC m z g1 g2 g3 g4 g5=>?_;refine⟨_,B2q,C,m,z,g1,g2,g3,?_,g5⟩;refine g4.map (A0l ?_ ?_ ?_ ?_)
     . rintro cv ⟨_,t,rfl⟩;refine⟨by rw[J9];omega,t,?_⟩;congr 1;congr 1;exact etx []
     . rintro cv ⟨_,t,rfl⟩;exact⟨by rw[J9];omega,t,rfl⟩
     . rintro cv ⟨_,rfl⟩;exact⟨by simp only[J9];omega,rfl⟩
     . rintro cv ⟨t,rfl⟩;cases hg with
       |num=>exact⟨t,rfl⟩
       |sym=>
        refine⟨by simp only[J9];assumption,t,?_⟩;show Value.int ((gr:Nat):Int) t=Value.int (((List.replicate gr 0).length+0:Nat):Int) t;rw[Z4i,Nat.add_zero]
   . refine B4 S.lg λvs e l1 l2=>?_;exact⟨_,B3w,vs,e,[],l1,by simp only[l2,List.append_nil];rfl,trivial,S.few⟩
 . haveI:=S.small;rw[List.length_append] at this;unfold K7 Θw;dsimp only;split
   . show pre.length+suf.length<=_;lia
   . haveI:=S.gsm;rw[Z4i];unfold D4;refine Z0c (by assumption) ?_;decide
 . rw[Θw_wn] at hj;exact absurd hj (Z0y _)
 . rw[Θw_wn] at hj;exact absurd hj (Z0y _)
 . rw[Θw_wn] at hj;exact absurd hj (Z0y _)
 . refine D6 S.fr λm hn f1 f2=>?_;refine A6 m hn (λi x k v hi hv=>?_);unfold l0 at hv;rw[J6,J6,A4y] at hv;split at hv
   . rename_i q;dsimp only at q;subst q;replace hv:=Z0a hv;subst hv;exact T9 _ (f1 x k hi) (by simp only[J9];decide) rfl
   . split at hv
     . rename_i q;dsimp only at q;subst q;replace hv:=Z0a hv;subst hv;obtain⟨t,e⟩:=f2 x k hi;refine A6 _ e (?_);refine re List.length_append ?_;cases o with
       |true=>
        refine⟨by simp only[J9];omega,t,?_⟩;rw[D0,<-Nat.add_assoc];rfl
       |false=>
        rcases ho with q | rfl
        . exact ff q
        . refine⟨by simp only[J9];omega,t,?_⟩;rw[D0];rfl
     . exact nn hv
end
theorem A3x{o:Option V}{n:Nat}(h:A27 o n=true):o=some (.lin 1 n):=F6 h λv h=>A2k h λg k h=>by rw[Z0e (A5 h).1,Z0e (A5 h).2]
theorem B1f{o:Option V}{s:Tx}(h:isStr o s=true):o=some (.str s):=F6 h λv h=>O8 h λx h=>by rw[of_decide_eq_true ((J1 x _).symm.trans h)]
theorem A6o{o:Option V}{n:Nat}(h:A2y o n=true):o=some (.ref n):=F6 h λv h=>P4 h λi h=>by rw[Z0e h]
theorem C8n{o:Option V}{s:Tx}{op:Bool}(h:B5n o s op=true):o=some (.txt 1 s op):=F6 h λv h=>B0f h λg x q h=>by
 obtain⟨a,b⟩:=A5 h;obtain⟨b,c⟩:=A5 b;have e:q=op:=by cases op <;> cases q <;> first | rfl | exact ff c
 rw[Z0e a,of_decide_eq_true ((J1 x _).symm.trans b),e]
theorem B6g{fs:List (Nat × V)}{a b c d:Nat}{k:V->V->V->V->Bool}(h:fs4 fs a b c d k=true):∃x y z u,fs= [(a,x),(b,y),(c,z),(d,u)]/\k x y z u=true:=by
 refine I4 h λp fs h=>?_;obtain⟨e1,h⟩:=A5 h;refine I4 h λq fs h=>?_;obtain⟨e2,h⟩:=A5 h;refine I4 h λr fs h=>?_;obtain⟨e3,h⟩:=A5 h;refine I4 h λz fs h=>?_;obtain⟨e4,h⟩:=A5 h;refine U8 h λh=>⟨p.2,q.2,r.2,z.2,?_,h⟩;rw[<-Z0e e1,<-Z0e e2,<-Z0e e3,<-Z0e e4]
theorem C6b{fs:List (Nat × V)}{t:Tk}{p:Nat}(h:wdF fs t p=true):fs=E9 t (.lin 1 p)/\Cl0 t.val:=by
 obtain⟨k,x,v,q,e,h⟩:=B6g h;obtain⟨e5,h⟩:=A5 h;obtain⟨e6,h⟩:=A5 h;obtain⟨e7,e8⟩:=A5 h;obtain⟨e7,c7⟩:=A89 (show A40 v t.val=true from e7);rw[e,Z0a (B1f e5),Z0a (B1f e6),e7,Z0a (A3x e8)];exact⟨rfl,c7⟩
theorem C4y{o:Option V}{g:V}(h:isG o g=true):o=some g:=by
 refine(bBb h).elim (λh=>W1 h.1 λi h=>F6 h λv h=>W1 h λj h=>?_) λh=>A2k h λa b h=>F6 h λv h=>A2k h λc d h=>?_
 . rw[of_decide_eq_true ((P9 j _).symm.trans h)]
 . rw[Z0e (A5 h).1,Z0e (A5 h).2]
theorem D0r{fs:List (Nat × V)}{s:Tx}{op:Bool}{j:Nat}{gr:V}(h:scF fs s op j gr=true):fs=A1j (.txt 1 s op) (.lin 1 j) gr:=by
 obtain⟨x,q,f,g,e,h⟩:=B6g h;obtain⟨e5,h⟩:=A5 h;obtain⟨e6,h⟩:=A5 h;obtain⟨e7,e8⟩:=A5 h;rw[e,Z0a (C8n e5),Z0a (A3x e6),Z0a (A6o e7),Z0a (C4y e8)];rfl
theorem C1v{H:Hp}{v:V}{t:Tk}{p:Nat}(h:A65 H v t p=true):∃i,v= .ref i/\2<=i/\H.get i=some (.inst 88 (E9 t (.lin 1 p)))/\Cl0 t.val:=by
 refine P4 h λi h=>?_;obtain⟨a,h⟩:=A5 h;obtain⟨o,e,h⟩:=bi (I9 h);refine⟨i,rfl,Z0l a,?_⟩;rw[e];refine A2q h λc fs h=>?_;obtain⟨b,h⟩:=A5 (G1 h);obtain⟨f,c4⟩:=C6b h;rw[Z0e b,f];exact⟨rfl,c4⟩
theorem B5j{o:Option O}{s:Tx}{op:Bool}{j:Nat}{gr:V}(h:scO o s op j gr=true):o=some (.inst 87 (A1j (.txt 1 s op) (.lin 1 j) gr)):=by
 obtain⟨o,e,h⟩:=bi (I9 h);rw[e];refine A2q h λc fs h=>?_;obtain⟨b,h⟩:=A5 (G1 h);rw[D0r h,Z0e b]
theorem A7b{H:Hp}{ts:List (Tk × Nat)}{o:Option O}(h:A1k H ts o=true):∃xs,o=some (.log xs)/\A2n H ts xs=true:=by
 obtain⟨o,e,h⟩:=bi (I9 h);rw[e];exact A4w h λxs h=>A6 xs rfl (G1 h)
section
variable{n':Nat}
theorem B7n{S:Tx}{pre suf:Tx}{gr:Nat}{fv:List Value}{fs:List Env}(st:St gv an0 A0 Θ' H' fs h')(x:Ext (frs fs) (onL env) (Θw Θ pre suf gr fv) 2 h Θ' H'.n h'){ts:List (Tk × Nat)}{xs:List V}{us:List Value}(hl:A2n H' ts xs=true)(vr:VRs gv Θ' H'.n xs us) :
 Wds gv Θ (frs fs) h.objs.size h' us (ts.map λt=>(t.1,pre.length+t.2)):=by
 refine D8.ind (P:=λxs us=>∀ts:List (Tk × Nat),A2n H' ts xs=true->Wds gv Θ (frs fs) h.objs.size h' us (ts.map λt=>(t.1,pre.length+t.2))) vr (λts hl=>?_) (λv u xs us vr J ih ts hl=>?_) ts hl
 . cases ts with
   |nil=>exact trivial
   |cons _ _=>exact ff hl
 cases ts with
 |nil=>exact ff hl
 |cons t ts=>
  obtain⟨h1,h2⟩:=A5 (show bB (A65 H' v t.1 t.2) (A2n H' ts xs) false=true from hl);refine⟨?_,ih ts h2⟩;clear ih hl h2;refine T7 (C1v h1) λi q'2 i3 ei c=>?_;subst q'2;obtain⟨hi,rfl⟩:=vr;refine A1 (st.obj i hi) λo eo r=>?_;obtain rfl:=Z0a (eo.symm.trans ei);obtain⟨C,m,z,g1,g2,g3,g4,g5⟩:=r;haveI nw:=x.new i i3 hi;have sm:∀j,j<2->Θ'.a j=Θ.a j/\Θ'.d j=Θ.d j:=λj hj=>⟨(x.same j hj).1,(x.same j hj).2.1⟩;haveI g0:=(x.same 1 (by decide)).2.2;refine⟨Θ'.a i,Θ'.d i,rfl,nw _ (.inl rfl),nw _ (.inr (.inl rfl)),(st.lt i hi).1,(st.lt i hi).2,λj hj=>?_,λq=>(st.apart i hi _ q).1 rfl,λq=>(st.apart i hi _ q).2 rfl,λΘ2 n2=>?_⟩
  . haveI:=st.sep i j hi (Z0b hj x.le) (by lia);rw[(sm j hj).1,(sm j hj).2] at this;exact this
  . refine⟨C,m,z,g1,g2,g3,?_⟩;refine g4.map (A0l (λcv x=>x) (λcv x=>x) (λcv x=>c.vr x) ?_);rintro cv ⟨_,t',rfl⟩;refine⟨t',?_⟩;rw[g0];rfl
theorem C7u{o:Bool}{s:Tx}{pre suf:Tx}{gr:Nat}{fv:List Value}{x:Option V}(h:B1z o x (len s)=true)(ho:o=true\/suf= []):∃v,x=some v/\∀{Θ':Th} {n':Nat} {cv:Value},Θ'.gh 1=(Θw Θ pre suf gr fv).gh 1->VR gv Θ' n' v cv->∃t,cv= .int ((pre.length+s.length+suf.length:Nat):Int) t:=by
 cases o with
 |true=>
  refine A1 (bi (I9 h)) λv e h=>⟨v,e,?_⟩;refine B8e h λg m h=>A8 (A5 (G1 h)) λp q=>?_;rw[Z0e p,Z0e q,D0];intro g0 c2;exact c2.2.elim λt e=>⟨t,by rw[e,g0];rfl⟩
 |false=>
  refine ho.elim (λq=>nomatch q) λq=>⟨_,A3x h,?_⟩
  intro Θ' n' cv g0 c2;exact c2.2.elim λt e=>⟨t,by rw[e,g0,q,D0];rfl⟩
theorem C51{pre suf s:Tx}{o:Bool}{j gr gr' n':Nat}{g g':V}{fv fv':List Value}{m:Str->Option Value}(ho:o=true\/suf= [])(hg:Gr2 gr gr' g g')(pl:(pre ++ s.take j).length=pre.length+j)(g0:Θ'.gh 1=(Θw Θ pre suf gr fv).gh 1)(g00:Θ'.gh 0=(Θw Θ pre suf gr fv).gh 0)(a1:Θ'.a 1=Θ.a 1)
 (q:H8 gv an0 Θ' n' (A1j (.txt 1 s o) (.lin 1 j) g') m):H8 gv an0 (Θw Θ (pre ++ s.take j) (s.drop j ++ suf) gr' fv') 2 (A1j (.txt 1 [] true) (.lin 1 0) (.int (.ofNat gr'))) m:=by
 refine q.map (A0l ?_ ?_ ?_ ?_)
 . rintro cv ⟨_,t,rfl⟩
   refine⟨by decide,t,?_⟩
   rw[g0]
   show Value.str (sOf (pre ++ s ++ (if o=true then suf else []))) t=Value.str (sOf (pre ++ s.take j ++ [] ++ (s.drop j ++ suf))) t
   have e:(if o=true then suf else [])=suf:=ho.elim (λq=>Z0p q) λq=>by rw[q];split <;> rfl
   rw[e,List.append_nil,List.append_assoc pre (s.take j),<-List.append_assoc (s.take j),Z2d,List.append_assoc]
 . rintro cv ⟨_,t,rfl⟩
   exact⟨by decide,t,by rw[g0];show Value.int ((pre.length+j:Nat):Int) t=Value.int (((pre ++ s.take j).length+0:Nat):Int) t;rw[pl,Nat.add_zero]⟩
 . rintro cv ⟨_,rfl⟩;exact⟨by decide,by rw[a1];rfl⟩
 . cases hg with
   |num=>exact λJ z=>z
   |sym e=>
    rintro cv ⟨_,t,rfl⟩;refine⟨t,?_⟩;rw[g00,<-e];show Value.int (((List.replicate gr 0).length+0:Nat):Int) t=Value.int ((gr:Nat):Int) t;rw[Z4i,Nat.add_zero]
theorem Wds.len{S:List Addr}{lo:Nat}{h:Heap}{us:List Value}{ts:List (Tk × Nat)}(w:Wds gv Θ S lo h us ts):us.length=ts.length:=by
 induction us generalizing ts with
 |nil=>cases ts with | nil=>rfl | cons _ _=>exact w.elim
 |cons u us ih=>cases ts with | nil=>exact w.elim | cons _ _=>rw[List.length_cons,List.length_cons,ih w.2]
theorem Sc.next{pre suf s:Tx}{o:Bool}{j gr gr':Nat}{g g':V}{fv:List Value}{ts:List (Tk × Nat)}{l':Loc}(S:Sc gv A0 Θ env outer h pre (s ++ suf) gr fv)(ho:o=true\/suf= [])(hg:Gr2 gr gr' g g')(hgr:gr'<=1000)(hj:j<=s.length)(he:B1y l' H' s o j ts g'=true)(hn:fv.length+ts.length<=1000000)
 (x:Ext (frs (env :: outer)) (onL env) (Θw Θ pre suf gr fv) 2 h Θ' H'.n h') (a:At gv an0 A0 Θ' H' l' env outer h') :
 ∃us,Sc gv A0 Θ env outer h' (pre ++ s.take j) (s.drop j ++ suf) gr' (fv ++ us)/\Wds gv Θ (frs (env :: outer)) h.objs.size h' us (ts.map λt=>(t.1,pre.length+t.2)):=by
 refine A8 (A5 he) λe1 he=>A8 (A5 he) λe2 he=>A8 (A5 he) λe3 e4=>A1 (A7b e3) λxs e3 el=>?_
 have sm:∀j,j<2->Θ'.a j=Θ.a j/\Θ'.d j=Θ.d j:=λj hj=>⟨(x.same j hj).1,(x.same j hj).2.1⟩
 have up:∀{i},i<2->i<H'.n:=λhi=>Z0b hi x.le
 have g0:=(x.same 1 (by decide)).2.2
 have g00:=(x.same 0 (by decide)).2.2
 have r1:=a.st.is (up (by decide)) (B5j e2)
 have r2:=a.st.is (up (by decide)) e3
 obtain⟨C,m,z,q1,q2,q3,q4,q5⟩:=r1
 obtain⟨vs,e,us,l1,l2,l3,l4⟩:=r2
 have hw:=B7n (S:=s) a.st x el l3
 have lenU:us.length=ts.length:=hw.len.trans (List.length_map _)
 clear el l3 l4 e2 e3 he
 have tot:(pre ++ s.take j).length+(s.drop j ++ suf).length=pre.length+(s ++ suf).length:=by
  rw[List.length_append,List.length_append,List.length_append,Nat.add_assoc,<-Nat.add_assoc (s.take j).length,<-List.length_append (as:=s.take j),Z2d]
 have pl:(pre ++ s.take j).length=pre.length+j:=by rw[List.length_append,List.length_take,Nat.min_eq_left hj]
 have s0:=sm 0 (by decide)
 have s1:=(sm 1 (by decide)).1
 rw[s0.1,s0.2] at z q2
 rw[s0.2] at q3
 rw[s1] at l1
 refine⟨us,⟨a.st.stays,λi hi=>?_,S.low,S.sep,a.st.frames,S.apart,tot▸S.small,by rw[List.length_append,lenU];exact hn,hgr,⟨C,m,z,q1,q2,q3,C51 ho hg pl g0 g00 s1 q4,q5⟩,⟨vs,e,l1,by rw[l2,g0];rfl⟩,?_⟩,hw⟩
 . have:=a.st.lt i (up hi)
   rw[(sm i hi).1,(sm i hi).2] at this;exact this
 . obtain⟨v,ev,hv⟩:=C7u (Θ:=Θ) (pre:=pre) (gr:=gr) (fv:=fv) e4 ho
   refine A1 a.fr λm hn F=>⟨m,hn,λy k hi=>?_,λy k hi=>?_⟩
   . refine A1 (F 0 y k _ hi (A6o e1)) λcv c1 c2=>?_
     rw[c1,c2.2,s0.1]
   . refine A1 (F 1 y k v hi ev) λcv c1 c2=>P6 (hv g0 c2) λt c2=>⟨t,?_⟩
     rw[c1,c2,tot,List.length_append,Nat.add_assoc]
end
section
variable{K:Frag}{D U:Nat}
variable{Q:Flow->Shared->Prop}{e:Expr}{ss rest:List Stmt}{fu fu2:Nat}{S:List Addr}
theorem Wds.lo{lo lo':Nat}(hl:lo<=lo'){vs:List Value}{ts:List (Tk × Nat)}(x:Wds gv Θ S lo' h vs ts):Wds gv Θ S lo h vs ts:=D8.imp (λJ J x=>by
 obtain⟨a,d,q,h1,h2,h3,h4,h5,h6,h7,r⟩:=x;exact⟨a,d,q,Z0c hl h1,Z0c hl h2,h3,h4,h5,h6,h7,r⟩) x
theorem Ext.forget{X:Addr->Prop}{pre suf:Tx}{gr:Nat}{fv:List Value}{n':Nat}(x:Ext S X (Θw Θ pre suf gr fv) 2 h Θ' n' h'):Ext S X Θ 2 h Θ 2 h':=
 ⟨Z0g _,λJ J=>⟨rfl,rfl,rfl⟩,λJ a b=>absurd b (Z1g.mpr a),λb o e hb hX=>x.keep b o e hb hX,x.size⟩
structure Read(gv:Nat->Option Value)(A0:Heap)(Θ:Th)(S:List Addr)(X:Addr->Prop)(fs:List Env)(lo:Nat)(h0 h:Heap)(ts:List (Tk × Nat)):Prop where
 stays:A0.StaysIn h
 frames:h.FunFrames A0 fs
 ext:Ext S X Θ 2 h0 Θ 2 h
 ex:∃vs e,IsL h (Θ.a 1) vs e/\Wds gv Θ S lo h vs.toList ts
theorem C44(hr:SoAll og w T1 cc0 gv A0 pc K D U (run T1 P1 n) n)(hc:cE cc0 env.scope.names DF e=some Z4)(hb:cSs cc0 env.scope.names fu ss=some Y0)(hq:cSs cc0 env.scope.names fu2 rest=some A5h)(cx:Cx D U n A env outer){lo:Nat}{pre suf:Tx}{gr:Nat}{ts:List (Tk × Nat)}(sc:Scan n pre suf gr ts) :
 ∀(s:Shared) (fv:List Value) (ts0:List (Tk × Nat)),Sc gv A0 Θ env outer s.heap pre suf gr fv->Wds gv Θ (frs (env :: outer)) lo s.heap fv ts0->lo<=s.heap.objs.size->fv.length+ts.length<=1000000->Ext (frs (env :: outer)) (onL env) Θ 2 h0 Θ 2 s.heap->
  (∀s',Read gv A0 Θ (frs (env :: outer)) (onL env) (env :: outer) lo h0 s'.heap (ts0 ++ ts)->∀ [Og s' og],Q (.ret (.ref (Θ.a 1))) s')->Og s og->codeAny (model pg w) A (.whileLoop e ss [] env) (N1 (model pg w) A env (A3d w A env rest Q E) E) s:=by
 have hL:env.locals∈frs (env :: outer):=by unfold frs;rw[List.filterMap_cons,cx.frame];exact .head _
 have px0:∀{Θ0:Th} {H00:Hp} {h:Heap},PX og gv an0 A0 pc (onL env) Θ0 H00 env outer h (λJ J=>false) E:=λJ J q=>by exact ff q
 induction sc with
 | @win pre s suf rest' o j gr gr' g g' ts ts' m hw hg hgr ho hj he next ih=>
  intro s₁ fv ts0 Z W hlo hn x0 fin ok;subst he;rw[List.length_append,show(sh pre.length ts).length=ts.length from List.length_map _] at hn;refine A6e (Θ0:=Θw Θ pre suf gr fv) (H00:=H0 s o g) (h0:=s₁.heap) hr hc hb cx px0 (λl' H' Θ' s' hk x a=>?_) m _ _ s₁ _ hw (Z.win ho hg.ok cx.frame) Ext.refl inferInstance;intro J;refine A1 (Z.next ho hg hgr hj hk (Z0c (Nat.add_le_add_left (Nat.le_add_right ..) _) hn) x a) λus Z' W'=>?_;have lenU:us.length=ts.length:=W'.len.trans (List.length_map _);refine ih s' (fv ++ us) (ts0 ++ sh pre.length ts) Z' ((W.keep hL rfl x).app (W'.lo hlo)) (Z0c hlo x.size) (by rw[List.length_append,lenU,Nat.add_assoc];exact hn) (x0.trans x.forget) (λs'' r=>fin s'' ?_) inferInstance;rw[List.append_assoc] at r;exact r
 | @fin pre s gr g ts m hw hg=>
  intro s₁ fv ts0 Z W hlo hn x0 fin ok;haveI Z':Sc gv A0 Θ env outer s₁.heap pre (s ++ []) gr fv:=by rw[List.append_nil];exact Z
  refine A7q (Θ0:=Θw Θ pre [] gr fv) (H00:=H0 s false g) (h0:=s₁.heap) hr hc hb cx px0 (λl' H' Θ' s' hk x a=>?_) m _ _ s₁ _ hw (Z'.win (.inr rfl) hg cx.frame) Ext.refl inferInstance;intro J;rw[J9] at x;refine hr.ss _ _ _ _ _ _ _ _ _ _ _ _ _ _ hq hk cx a ?_ (λJ J q=>by exact ff q);intro f l2 H2 hk2 Θ2 cf s2 x2 a2 fr J;have X:=x.trans x2;cases fr with
  |next=>exact ff hk2
  | @ret v cv vr=>
   obtain⟨q1,q2⟩:=A5 (show bB (A2y (some v) 1) (A1k H2 ts (H2.get 1)) false=true from hk2);obtain rfl:=Z0a (A6o q1);obtain⟨_,rfl⟩:=vr;refine A1 (A7b q2) λxs e3 el=>?_;refine A1 (a2.st.obj 1 (Z0b (by decide) X.le)) λo2 eo2 r2=>?_;obtain rfl:=Z0a (eo2.symm.trans e3);obtain⟨vs,e,us,l1,l2,l3,l4⟩:=r2;haveI e2a:Θ2.a 1=Θ.a 1:=(X.same 1 (by decide)).1;haveI g2:=(X.same 1 (by decide)).2.2;rw[e2a] at l1 ⊢;rw[g2] at l2;refine fin s2 ⟨a2.st.stays,a2.st.frames,x0.trans X.forget,vs,e,l1,?_⟩;rw[l2];exact(W.keep hL rfl X).app ((B7n (S:=s) a2.st X el l3).lo hlo)
theorem C2s(hr:SoAll og w T1 cc0 gv A0 pc K D U (run T1 P1 n) n)(hc:cE cc0 env.scope.names DF e=some Z4)(hb:cSs cc0 env.scope.names fu ss=some Y0)(cx:Cx D U n A env outer){pre suf:Tx}{gr q:Nat}(sc:ScanX n pre suf gr q) :
 ∀(s:Shared) (fv:List Value),Sc gv A0 Θ env outer s.heap pre suf gr fv->fv.length+suf.length<=1000000->Ext (frs (env :: outer)) (onL env) Θ 2 h0 Θ 2 s.heap->
  (∀Θ' n' e s',A0.StaysIn s'.heap->s'.heap.FunFrames A0 (env :: outer)->Ext (frs (env :: outer)) (onL env) Θ 2 h0 Θ 2 s'.heap->XIs gv A0 h0.objs.size pc Θ' n' env.locals (.int (.ofNat q)) e s'.heap->∀ [Og s' og],E (.ref e) s')->Og s og->
  codeAny (model pg w) A (.whileLoop e ss [] env) (N1 (model pg w) A env Q E) s:=by
 haveI px0:∀{Θ0:Th} {H00:Hp} {h:Heap},PX og gv an0 A0 pc (onL env) Θ0 H00 env outer h (λJ J=>false) E:=λJ J q=>by exact ff q
 induction sc with
 | @win pre s suf rest' o j gr gr' q g g' ts m hw hg hgr ho hj he hl next ih=>
  intro s₁ fv Z hn x0 fin ok;subst he;rw[List.length_append] at hn;refine A6e (Θ0:=Θw Θ pre suf gr fv) (H00:=H0 s o g) (h0:=s₁.heap) hr hc hb cx px0 (λl' H' Θ' s' hk x a=>?_) m _ _ s₁ _ hw (Z.win ho hg.ok cx.frame) Ext.refl inferInstance;intro J;refine A1 (Z.next ho hg hgr hj hk (Z0c (Nat.add_le_add_left (Z0c (Z0c hl hj) (Nat.le_add_right ..)) _) hn) x a) λus Z' W'=>?_;have lenU:us.length=ts.length:=W'.len.trans (List.length_map _);exact ih s' (fv ++ us) Z' (by rw[List.length_append,List.length_append,List.length_drop,lenU,Nat.add_assoc];refine Z0c (Nat.add_le_add_left ?_ _) hn;rw[<-Nat.add_assoc];exact Nat.add_le_add_right (Z0c (Nat.add_le_add_right hl _) (Z0z (Nat.add_sub_of_le hj))) _) (x0.trans x.forget) fin inferInstance
 | @fin pre s gr q g m hw hg=>
  intro s₁ fv Z hn x0 fin ok;have Z':Sc gv A0 Θ env outer s₁.heap pre (s ++ []) gr fv:=by rw[List.append_nil];exact Z
  refine A7q (Θ0:=Θw Θ pre [] gr fv) (H00:=H0 s false g) (h0:=s₁.heap) hr hc hb cx ?_ (λl' H' Θ' s' hk x a=>by exact ff hk) m _ _ s₁ _ hw (Z'.win (.inr rfl) hg cx.frame) Ext.refl inferInstance;intro pv H' hk Θ' e s' x st xi J;rw[J9] at x;obtain rfl:=Z0a (A3x hk);have g0:=(x.same 1 (by decide)).2.2;refine fin Θ' H'.n e s' st.stays st.frames (x0.trans x.forget) ?_;refine A1 xi λv1 q'2 t=>?_;rcases q'2 with⟨q'3,lw,lo⟩
  rcases q'3 with⟨dx,vs,sl,o1,o2,m,cv,m1,m2,m3,vr⟩
  haveI hsz:h0.objs.size<=s₁.heap.objs.size:=x0.size;have X:XIs gv A0 s₁.heap.objs.size pc Θ' H'.n env.locals (.int (.ofNat (pre.length+q))) e s'.heap:=by
   refine A6 v1 ⟨⟨dx,vs,sl,o1,o2,m,cv,m1,m2,m3,?_⟩,lw,lo⟩ t;obtain⟨_,t',rfl⟩:=vr;exact⟨t',by rw[g0];rfl⟩
  exact X.mono hsz
end
noncomputable def D7x(c:CC)(ns:Ns)(ss:List Stmt):S->Prop
 | .assign i xe q=>∃fu' x p p' e rest,ss= .Assign [.Name x p'] e p :: rest/\B3 x ns 0=some (i, .local)/\G5 e=false/\cE c ns DF e=some xe/\cSs c ns fu' rest=some q
 | .whl xt xb q=>∃fu' t b rest p,ss= .While t b [] p :: rest/\cE c ns DF t=some xt/\cSs c ns fu' b=some xb/\cSs c ns fu' rest=some q
 | .ret xe=>xe= .const .none\/∃e p rest,ss= .Return (some e) p :: rest/\cE c ns DF e=some xe
 |_=>True
theorem A8a{c:CC}{ns:Ns}{fu:Nat}{ss:List Stmt}{x:S}(h:cSs c ns fu ss=some x):D7x c ns ss x:=by
 cases B43 h with
 |assign hp hco h1 h2=>exact D00 _ _ _ _ _ _ rfl hp hco h1 h2
 |whl h1 h2 h4=>exact A3i _ _ _ _ _ rfl h1 h2 h4
 |ret0=>exact .inl rfl
 |ret h1=>exact .inr (A31 _ _ _ rfl h1)
 |tup _ _ _ _ _ _ hx=>exact hx.elim (λq=>q▸trivial) λq=>q▸trivial
 |_=>exact trivial
theorem D0i{c:CC}{ns:Ns}{fu:Nat}{ss:List Stmt}{i:Nat}{xe:X}{q:S}(h:cSs c ns fu ss=some (.assign i xe q)) :
 ∃fu' x p p' e rest,ss= .Assign [.Name x p'] e p :: rest/\B3 x ns 0=some (i, .local)/\G5 e=false/\cE c ns DF e=some xe/\cSs c ns fu' rest=some q:=A8a h
theorem D38{c:CC}{ns:Ns}{fu:Nat}{ss:List Stmt}{xt:X}{xb q:S}(h:cSs c ns fu ss=some (.whl xt xb q)) :
 ∃fu' t b rest p,ss= .While t b [] p :: rest/\cE c ns DF t=some xt/\cSs c ns fu' b=some xb/\cSs c ns fu' rest=some q:=A8a h
theorem D4c{c:CC}{ns:Ns}{fu:Nat}{ss:List Stmt}{xe:X}(h:cSs c ns fu ss=some (.ret xe))(hn:xe≠ .const .none) :
 ∃e p rest,ss= .Return (some e) p :: rest/\cE c ns DF e=some xe:=(A8a h).elim (λq=>absurd q hn) id
theorem D6c:N5.body= .assign 1 B6v (.whl Z4 Y0 A5h):=rfl
theorem B3x:binds N5.params [.ref 0] N5.dflt=some [(0, .ref 0)]:=rfl
theorem C9w{n:Nat}:(run T1 P1 (n+8)).e B6v [(0, .ref 0)] (H0 [] true (gN 0)) (λv h=>match v with | .tlen g m=>bB (Nat.beq g 1) (bB (Nat.beq m 0) (bB (scO (h.get 0) [] true 0 (gN 0)) (bB (A1k h [] (h.get 1)) (Nat.beq h.n 2) false) false) false) false | _=>false) (λJ J=>false)=true:=rfl
section
variable{K:Frag}{D U:Nat}
variable{Q:Flow->Shared->Prop}{e:Expr}{ss rest:List Stmt}{fu fu2:Nat}{S:List Addr}
theorem Sc.start{full:Tx}{l:Loc}{H:Hp}(a:At gv an0 A0 Θ' H l env outer h)(hl0:lkG 0 l=some (.ref 0))(hl1:lkG 1 l=some (.tlen 1 0))(h1:scO (H.get 0) [] true 0 (gN 0)=true)(h2:A1k H [] (H.get 1)=true)(hn:H.n=2)(hΘ:∀i,i<2->Θ'.a i=Θ.a i/\Θ'.d i=Θ.d i/\Θ'.gh i=(Θw Θ [] full 0 []).gh i) :
 Sc gv A0 Θ env outer h [] full 0 []:=by
 haveI e1:=B5j h1
 refine A1 (A7b h2) λxs e2 el=>?_
 refine A7 (hΘ 0 (by decide)) λa0 d0 J=>?_
 refine A7 (hΘ 1 (by decide)) λa1 d1 g1=>?_
 have gs:(Θ'.gh 1).pre= []/\(Θ'.gh 1).suf=full/\(Θ'.gh 1).front= []:=by rw[g1];exact⟨rfl,rfl,rfl⟩
 refine A1 (a.st.obj 0 (by lia)) λo1 eo1 r1=>?_
 obtain rfl:=Z0a (eo1.symm.trans e1)
 obtain⟨C,m,z,q1,q2,q3,q4,q5⟩:=r1
 refine A1 (a.st.obj 1 (by lia)) λo2 eo2 r2=>?_
 obtain rfl:=Z0a (eo2.symm.trans e2)
 obtain⟨vs,e,us,l1,l2,l3,l4⟩:=r2
 have xs0:xs= []:=by cases xs with | nil=>rfl | cons _ _=>exact ff el
 subst xs0
 obtain rfl:=l3.zero
 have ad:∀i,i<2->Θ'.a i=Θ.a i/\Θ'.d i=Θ.d i:=λi hi=>⟨(hΘ i hi).1,(hΘ i hi).2.1⟩
 refine⟨a.st.stays,λi hi=>?_,λi hi=>?_,λi j hi hj hij=>?_,a.st.frames,λi hi L hL=>?_,?_,by simp,Z1y _,?_,?_,?_⟩
 . have:=a.st.lt i (by omega);rw[(ad i hi).1,(ad i hi).2] at this;exact this
 . have:=a.st.low i (by omega);rw[(ad i hi).1,(ad i hi).2] at this;exact this
 . haveI:=a.st.sep i j (by lia) (by lia) hij;rw[(ad i hi).1,(ad i hi).2,(ad j hj).1,(ad j hj).2] at this;exact this
 . have:=a.st.apart i (by lia) L hL;rw[(ad i hi).1,(ad i hi).2] at this;exact this
 . haveI:=a.st.gh 1 (by lia);unfold K7 at this;rw[gs.1,gs.2.1] at this;exact this
 . rw[a0,d0] at *
   refine B49 C m z q1 q2 q3 (?_) q5
   refine q4.map (A0l ?_ ?_ ?_ ?_)
   . rintro cv ⟨_,t,rfl⟩;exact⟨by omega,t,by rw[gs.1,gs.2.1];rfl⟩
   . rintro cv ⟨_,t,rfl⟩;exact⟨by omega,t,by rw[gs.1];rfl⟩
   . rintro cv ⟨_,rfl⟩;exact⟨by decide,by rw[a1];rfl⟩
   . rintro cv ⟨t,rfl⟩;exact⟨t,rfl⟩
 . rw[a1] at l1
   exact L7 vs e l1 (by rw[l2,gs.2.2];rfl)
 . refine A1 a.fr λm hn' F=>?_
   refine T9 m hn' (λy k hi=>?_) (λy k hi=>?_)
   . refine D6 (F 0 y k _ hi hl0) λcv c1 J q'1=>?_
     subst q'1
     rw[c1,a0]
   . obtain⟨cv,c1,_,t,rfl⟩:=F 1 y k _ hi hl1
     exact⟨t,by rw[c1,gs.1,gs.2.1];rfl⟩
end
noncomputable def HE:Hp:=⟨.leaf,0⟩
section
variable{K:Frag}{D U:Nat}
variable{Q:Flow->Shared->Prop}{S:List Addr}
theorem St.none(st:A0.StaysIn h)(fr:h.FunFrames A0 fs):St gv an0 A0 Θ HE fs h:=
 ⟨st,Z1y _,λi hi=>absurd hi (Z0y i),λi hi=>absurd hi (Z0y i),λi hi=>absurd hi (Z0y i),λi J hi=>absurd hi (Z0y i),λi hi=>absurd hi (Z0y i),fr,λi hi=>absurd hi (Z0y i),λi hi=>absurd hi (Z0y i),λi hi=>absurd hi (Z0y i),λi hi=>absurd hi (Z0y i)⟩
theorem Wds.sub{S':List Addr}{lo:Nat}(hS:∀b,b∈S'->b∈S){vs:List Value}{ts:List (Tk × Nat)}(x:Wds gv Θ S lo h vs ts):Wds gv Θ S' lo h vs ts:=D8.imp (λJ J x=>by
 obtain⟨a,d,q,h1,h2,h3,h4,h5,h6,h7,r⟩:=x;exact⟨a,d,q,h1,h2,h3,h4,h5,λz=>h6 (hS _ z),λz=>h7 (hS _ z),r⟩) x
theorem Read.out{lo:Nat}{ts:List (Tk × Nat)}(r:Read gv A0 Θ (frs (env :: fs)) (onL env) (env :: fs) lo h₀ h' ts)(hf:env.frame=some env.locals)(e3:env.locals=h.objs.size)(kp:∀b o,h.get? b=some o->h₀.get? b=some o)(hz:h.objs.size<=h₀.objs.size) :
 Read gv A0 Θ (frs fs) noX fs lo h h' ts:=by
 refine B4 r.ex λvs e l1 wd=>?_
 exact⟨r.stays,r.frames.2.2,r.ext.call (hf.trans (by rw[e3])) e3 kp hz,vs,e,l1,wd.sub λb hb=>F5 hb⟩
theorem B2v(hr:SoAll og w T1 cc0 gv A0 pc K D U (run T1 P1 (n+8)) (n+8)){full:Tx}{s:Shared}[Og s og]{ss:List Stmt}{fu:Nat}{Q:Flow->Shared->Prop}{E:Value->Shared->Prop}(hc:cSs cc0 env.scope.names fu ss=some N5.body)(cx:Cx D U (n+8) A env outer)
 (a:At gv an0 A0 (Θw Θ [] full 0 []) (H0 [] true (gN 0)) [(0, .ref 0)] env outer s.heap)
 (go:∀s' e sb rest fu1 fu2,cE cc0 env.scope.names DF e=some Z4->cSs cc0 env.scope.names fu1 sb=some Y0->cSs cc0 env.scope.names fu2 rest=some A5h->Sc gv A0 Θ env outer s'.heap [] full 0 []->Ext (frs (env :: outer)) (onL env) Θ 2 s.heap Θ 2 s'.heap->∀ [Og s' og],
  codeAny (model pg w) A (.whileLoop e sb [] env) (N1 (model pg w) A env (A3d w A env rest Q E) E) s') :
 wpAny (model pg w) A (execs ss env) Q E s:=by
 rw[D6c] at hc
 refine C3f (D0i hc) λfu1 x p p' e rest q'1 hp hco h1 h2=>?_
 subst q'1
 refine A8m (D38 h2) λfu2 t b rest2 p2 q'2 h3 h4 h5=>?_
 subst q'2
 refine Z0j (Z1i (hr.e _ _ _ _ _ _ _ _ _ _ _ _ _ _ h1 C9w cx a ?_ (λJ J q=>by exact ff q)) (A1m hco))
 intro v H1 hk1 Θ1 c1 s1 x1 a1 vr1 J
 cases v <;> first | (exact ff hk1;done) | skip
 obtain⟨g1,hk1⟩:=A5 hk1
 refine A8 (A5 hk1) λg2 hk1=>?_
 obtain⟨g3,hk1⟩:=A5 hk1
 obtain⟨g4,g5⟩:=A5 hk1
 have e1:=Z0e g1
 have e2:=Z0e g2
 subst e1 e2
 refine A3c cx hp a1 vr1 λs2 x2 a2=>?_
 intro J
 have X:=(x1.weak (X:=onL env)).trans x2
 refine Z0j (wpAny_While ?_)
 refine go s2 _ _ _ _ _ h3 h4 h5 (Sc.start a2 rfl rfl g3 g4 (Z0e g5) λi hi=>?_) X.forget
 haveI:=X.same i hi
 exact this
theorem C34[Og s og](G:GT w T1 cc0 gv mg mb A0 K)(hD:D<recursionLimit)(hr:SoAll og w T1 cc0 gv A0 pc K D U (run T1 P1 (n+8)) (n+8)){fa:Addr}{full:Tx}{ts:List (Tk × Nat)}{R:Result->Shared->Prop}(fo:FnOk gv cc0 K N5 fa)(ca:CA D U (n+9) A fs)
 (S0:St gv an0 A0 (Θw Θ [] full 0 []) (H0 [] true (gN 0)) fs s.heap) (sc:Scan (n+8) [] full 0 ts) (hn:ts.length<=1000000)
 (hR:∀s',Read gv A0 Θ (frs fs) noX fs s.heap.objs.size s.heap s'.heap ts->∀ [Og s' og],R (.ok (.ret (.ref (Θ.a 1)))) s') :
 codeAny (model pg w) A (.call (.ref fa) ⟨[.ref (Θ.a 0)],[]⟩) R s:=by
 refine A47 (n:=n+8) (vs:= [.ref 0]) G hD fo B3x ca S0 ⟨⟨by simp only[J9];decide,rfl⟩,trivial⟩ λss env h₀ tk hc cx a hkp e3=>?_
 have hz:s.heap.objs.size<=h₀.objs.size:=Z0o (by obtain⟨m,hn,_⟩:=a.fr;rw[e3] at hn;exact hn.lt)
 refine B2v (s:={s with heap:=h₀,toks:=tk}) hr hc cx a λs' e sb rest fu1 fu2 h3 h4 h5 Z X=>?_
 intro J
 exact C44 hr h3 h4 h5 cx sc s' [] [] Z trivial (Z0c hz X.size) (by simpa using hn) X (λs'' r=>hR s'' (r.out cx.frame e3 hkp hz)) inferInstance
theorem C4w[Og s og](G:GT w T1 cc0 gv mg mb A0 K)(hD:D<recursionLimit)(hr:SoAll og w T1 cc0 gv A0 pc K D U (run T1 P1 (n+8)) (n+8)){fa:Addr}{full:Tx}{q:Nat}{R:Result->Shared->Prop}(fo:FnOk gv cc0 K N5 fa)(ca:CA D U (n+9) A fs)
 (S0:St gv an0 A0 (Θw Θ [] full 0 []) (H0 [] true (gN 0)) fs s.heap) (sc:ScanX (n+8) [] full 0 q) (hn:full.length<=1000000)
 (hR:∀Θ' n' e s',A0.StaysIn s'.heap->s'.heap.FunFrames A0 fs->Ext (frs fs) noX Θ 2 s.heap Θ 2 s'.heap->H9 gv A0 s.heap.objs.size pc Θ' n' .none (.int (.ofNat q)) e s'.heap->∀ [Og s' og],R (.error (.ref e)) s') :
 codeAny (model pg w) A (.call (.ref fa) ⟨[.ref (Θ.a 0)],[]⟩) R s:=by
 refine A47 (n:=n+8) (vs:= [.ref 0]) G hD fo B3x ca S0 ⟨⟨by simp only[J9];decide,rfl⟩,trivial⟩ λss env h₀ tk hc cx a hkp e3=>?_
 haveI hz:s.heap.objs.size<=h₀.objs.size:=Z0o (by obtain⟨m,hn,_⟩:=a.fr;rw[e3] at hn;exact hn.lt)
 refine B2v (s:={s with heap:=h₀,toks:=tk}) hr hc cx a λs' e sb rest fu1 fu2 h3 h4 h5 Z X=>?_
 intro J
 refine C2s hr h3 h4 cx sc s' [] Z (by simpa using hn) X (λΘ' n' e s'' sy fr X2 xi=>?_) inferInstance
 intro J
 have e2:env.frame=some s.heap.objs.size:=cx.frame.trans (by rw[e3])
 refine A50 (H:=HE) (Θ:=Θ') (L:=env.locals) (outer:=fs) (by exact cx.ca.fr) (by rw[e2,e3]) (St.none sy fr) xi λh' st' kp xh=>?_
 exact hR Θ' n' e _ st'.stays st'.frames ((X2.call e2 e3 hkp hz).left e2 kp hz) (xh.mono hz)
end
def P0(n:Nat)(f:Nat->Bool):Bool:=Nat.rec (motive:=λJ=>Bool) true (λi ih=>bB (f i) ih false) n
noncomputable def B29{β:Type}(e:O)(f:Option β):Option β:=bB (Nat.beq e.ctorIdx 5) f none
@[elab_as_elim] theorem C3j{P:O->Prop}{e:O}{β:Type}{f:Option β}{y:β}(h:B29 e f=some y)(q:f=some y->P .pool):P e:=O.pool.elim (motive:=P) e (Z0e (B0 h).1) (q (B0 h).2)
def P3:Nat->List V->Hp->K->K->Option Bool:=λg vs h k kx=>bB (Nat.beq g 14) (on2 vs λa b=>G0 a λi=>D7 b λb=>N3 b λtop=>(h.get i).bind λo=>B29 o (some (bB (Nat.ble 1 top) (bB (Nat.ble top 1000) (P0 top λn=>k (.int (.ofNat n)) h) false) false))) none
def HP:Hp:=(⟨.leaf,0⟩:Hp).new .pool
def ΘP(S:Addr):Th:=⟨λJ=>S,λJ=>S,λJ=>gh0⟩
noncomputable def K5(o:Option O):Bool:=E8 o λo=>Nat.beq o.ctorIdx 5
def kp0(k:V->Hp->Bool):K:=λv h=>bB (K5 (h.get 0)) (k v h) false
theorem A16{f:Nat->Bool}{n:Nat}(h:P0 n f=true)(i:Nat)(hi:i<n):f i=true:=by
 induction n with
 |zero=>exact absurd hi (Z0y i)
 |succ n ih=>exact(A5 (b:=f n) (f:=P0 n f) h).elim λh1 h2=>(Nat.lt_succ_iff_lt_or_eq.mp hi).elim (ih h2) λq=>q▸h1
theorem A2j:HP.get 0=some .pool:=rfl
theorem C6:HP.n=1:=rfl
theorem U2{o:Option O}(h:K5 o=true):o=some .pool:=by
 exact F6 h λo h=>congrArg some (O.pool.elim (motive:=λo=>o= .pool) o (Z0e h) rfl)
theorem D6n{g:Nat}{vs:List V}{H:Hp}{k kx:K}(h:P3 g vs H k kx=some true):g=14/\∃i top,vs= [.ref i, .int (.ofNat top)]/\H.get i=some .pool/\1<=top/\top<=1000/\∀n,n<top->k (.int (.ofNat n)) H=true:=by
 refine A8 (B0 h) λh1 h=>⟨Z0e h1,?_⟩;refine Q5 h λa b h=>R3 h λi h=>J4 h λb h=>R4 h λtop h=>A1 (bi h) λo e h=>?_;refine⟨i,top,rfl,?_⟩;rw[e];refine C3j h λh=>A8 (A5 (Z0a h)) λh2 h=>A8 (A5 h) λh3 h=>?_;exact⟨rfl,Z0l h2,Z0l h3,A16 h⟩
theorem St.congr{an:An}{Θ:Th}{H H':Hp}{fs:List Env}{h:Heap}(S:St gv an A0 Θ H fs h)(en:H'.n=H.n)(eg:∀j,H'.get j=H.get j):St gv an A0 Θ H' fs h:=by
 obtain⟨a1,a2,a3,a4,a5,a6,a7,a8,a9,a10,a11,a12⟩:=S;exact⟨a1,by rw[en];exact a2,by rw[en];intro i hi;rw[eg];exact a3 i hi,by rw[en];exact a4,by rw[en];exact a5,by rw[en];exact a6,by rw[en];exact a7,a8,by rw[en];exact a9,by rw[en];exact a10,by rw[en];exact a11,by rw[en];exact a12⟩
section
variable{K:Frag}{D U:Nat}
variable{S:Addr}
theorem FnRaw.keep{r:FnRec}{ps:List Nat}{df:List V}{fa:Addr}(h:FnRaw gv cc0 K r ps df fa):keepIn K (.ref fa)=true:=by
 obtain⟨qual,pm,c,doc,dV,dvs,hK,_⟩:=h;unfold keepIn;dsimp only;rw[hK]
theorem F2(hf:env.frame=some env.locals):env.locals∈frs (env :: outer):=by
 unfold frs;rw[List.filterMap_cons,hf];exact Z2e ..
theorem F3(hf:env.frame=some env.locals){b:Addr}(h1:b≠env.locals)(h2:b∉frs outer):b∉frs (env :: outer):=by
 unfold frs;rw[List.filterMap_cons,hf];intro q;rcases List.mem_cons.mp q with q | q
 . exact h1 q
 . exact h2 q
theorem A4q(hf:h.FunFrames A0 fs){L:Addr}(hL:L∈frs fs):L<h.objs.size:=by
 obtain⟨_,o,e,_⟩:=hf.mem hL;exact Z0i e
theorem C4z(G:GT w T1 cc0 gv mg mb A0 K)(hD:D+10<recursionLimit){fa:Addr}(hg:gv 14=some (.ref fa))(raw:FnRaw gv cc0 K (A4 14) [0,1] [] fa):N9 og w T1 cc0 gv A0 pc K D U P3:=by
 intro g vs H k kx hp a A fs s Θ cvs R ha ca st vr pc' J;obtain⟨rfl,i,top,rfl,ei,t1,t2,hk⟩:=D6n hp;obtain rfl:fa=a:=by rw[hg] at ha;injection ha with ha;injection ha
 refine⟨?_,raw.keep⟩;haveI ca':CA (D+10) (U+100) 1 A fs:=⟨ca.fr,by have:=ca.dep;lia,by have:=ca.uni;lia,ca.hand⟩;refine F8 vr.two λc1 c2 q'3 q'4 q'6=>?_;subst q'3;refine A8 q'4 λhi q'5=>?_;clear q'4;subst q'5;refine P6 q'6 λtt q'7=>?_;clear q'6;subst q'7;refine N6 G hD raw (vs:= [.ref i, .int (.ofNat top)]) (l:= [(0, .ref i),(1, .int (.ofNat top))]) rfl ca' st ⟨⟨hi,rfl⟩,⟨tt,rfl⟩,trivial⟩ λenv h₀ tk J hsc cx at' kp e3=>?_;obtain⟨st',m,hn,F⟩:=at';refine D6 (F 0 "source" .local (.ref i) (gk hsc) rfl) λc1 m1 J q'8=>?_;subst q'8;obtain⟨c2,m2,tt,rfl⟩:=F 1 "top" .local (.int (.ofNat top)) (gk hsc) rfl;refine A1 (st'.obj i hi) λo eo r=>?_;obtain rfl:=Z0a (eo.symm.trans ei);refine A8m r λx y tx ty ep l1 p1 p2 p3=>?_;haveI lm:=F2 (outer:=fs) cx.frame;refine C0i G cx hsc (s:={s with heap:=h₀,toks:=tk}) st'.stays (st'.low i hi).1 hn m1 m2 (λq=>(st'.apart i hi _ lm).1 q.symm) (st'.frames.mem lm).1 l1 p1 p2 p3 t1 t2 λd hd t s' k1 k2 pl=>?_
 intro J;obtain⟨S2,X2⟩:=st.put (h':=s'.heap) (o:= .pool) hi (λb x eb hb J=>k1 b x (kp b x eb) hb (by rw[e3];exact Z0k (Z0i eb))) (by have:s.heap.objs.size<=h₀.objs.size:=Z0o (by rw[e3] at hn;exact hn.lt);exact Z0c this k2) pl.ex;refine pc'.1 _ _ (hk d hd) Θ _ s' X2 (S2.congr rfl λj=>?_) ⟨t,rfl⟩;rw[Hp.get_put (by have:=st.nb;exact Z0t (Z0c (Z0o hi) this) (by decide))];split
 . rename_i q;rw[q];exact ei
 . rfl
structure Hd(A0:Heap)(S:Addr)(env:Env)(outer:List Env)(m:Str->Option Value)(h:Heap):Prop where
 stays:A0.StaysIn h
 frames:h.FunFrames A0 (env :: outer)
 ns:h.Ns env.locals m
 pool:Pool h S
 low:A0.get? S=none
 nf:S∉frs (env :: outer)
structure Lx(S L:Addr)(fs:List Env)(h h':Heap):Prop where
 keep:∀b o,h.get? b=some o->b≠S->b≠L->(b∉frs fs->h'.get? b=some o)/\∃sl,h'.get? b=some {o with slots:=sl}
 size:h.objs.size<=h'.objs.size
theorem Lx.refl{L:Addr}:Lx S L fs h h:=⟨λb o e J J=>⟨λJ=>e,o.slots,e⟩,Z0g _⟩
theorem Lx.trans{L:Addr}(x:Lx S L fs h h')(y:Lx S L fs h' h''):Lx S L fs h h'':=⟨λb o e h1 h2=>by
 obtain⟨k1,sl,k2⟩:=x.keep b o e h1 h2;obtain⟨_,sl',j2⟩:=y.keep b _ k2 h1 h2;exact⟨λhf=>(y.keep b o (k1 hf) h1 h2).1 hf,sl',j2⟩,Z0c x.size y.size⟩
theorem Lx.keeps{L:Addr}(k:∀b o,h.get? b=some o->h'.get? b=some o)(hz:h.objs.size<=h'.objs.size):Lx S L fs h h':=⟨λb o e J J=>⟨λJ=>k b o e,o.slots,k b o e⟩,hz⟩
theorem Lx.store{L:Addr}(hs:Heap.SameBut L h h'):Lx S L fs h h':=⟨λb o e J h2=>have q:=(hs.2 b h2).trans e;⟨λJ=>q,o.slots,q⟩,Z0z hs.1.symm⟩
theorem ΘP_st(sy:A0.StaysIn h)(fr:h.FunFrames A0 fs)(pl:Pool h S)(low:A0.get? S=none)(nf:S∉frs fs):St gv an0 A0 (ΘP S) HP fs h:=by
 haveI one:∀i,i<HP.n->i=0:=λi hi=>by simp only[C6] at hi;lia
 haveI lt:S<h.objs.size:=by obtain⟨_,_,_,_,_,l,_⟩:=pl.ex;exact Z0i l
 refine⟨sy,by simp only[C6];decide,λi hi=>⟨.pool,by rw[one i hi];exact A2j,pl.ex⟩,λi hi=>⟨lt,lt⟩,λi hi=>⟨low,low⟩,λi j hi hj hij=>absurd ((one i hi).trans (one j hj).symm) hij,λi hi=>?_,fr,λi J L hL=>⟨λq=>nf (by show S∈_;rw[show S=L from q.symm];exact hL),λq=>nf (by show S∈_;rw[show S=L from q.symm];exact hL)⟩,λi hi j hj=>absurd hj (Z0y _),λi hi j hj=>absurd hj (Z0y _),λi hi L J j hj=>absurd hj (Z0y _)⟩;show 0+0<=_;decide
theorem Hd.st(d:Hd A0 S env outer m h):St gv an0 A0 (ΘP S) HP (env :: outer) h:=ΘP_st d.stays d.frames d.pool d.low d.nf
theorem Hd.at(d:Hd A0 S env outer m h){l:Loc}(F:FR gv (ΘP S) 1 env.scope.names l m):At gv an0 A0 (ΘP S) HP l env outer h:=⟨d.st,m,d.ns,F⟩
theorem Hd.lt(d:Hd A0 S env outer m h):S<h.objs.size:=by obtain⟨_,_,_,_,_,l,_⟩:=d.pool.ex;exact Z0i l
theorem Hd.ne(d:Hd A0 S env outer m h)(hf:env.frame=some env.locals):S≠env.locals:=λq=>d.nf (by rw[q];exact F2 hf)
theorem K3{Θ:Th}{H:Hp}(st:St gv an0 A0 Θ H fs h)(e:K5 (H.get 0)=true)(hn:0<H.n):Pool h (Θ.a 0):=by
 refine A1 (st.obj 0 hn) λo eo r=>?_;obtain rfl:=Z0a (eo.symm.trans (U2 e));exact⟨r⟩
theorem FR.nil{Θ:Th}{ns:Ns}:FR gv Θ n ns [] m:=λi x k v J e=>nomatch e
theorem FR.cons{Θ:Th}{ns:Ns}{i:Nat}{x:Str}{kd:NameKind}{v:V}{cv:Value}{l:Loc}(e:ns[i]?=some (x,kd))(hm:m x=some cv)(vr:VR gv Θ n v cv)(F:FR gv Θ n ns l m):FR gv Θ n ns ((i,v) :: l) m:=λj y k u e1 e2=>by
 rw[J6] at e2;by_cases q:i=j
 . rw[Z0p q] at e2;replace e2:=Z0a e2;subst e2;subst q;rw[e] at e1;cases e1;exact A6 cv hm vr
 . rw[Z0m q] at e2;exact F j y k u e1 e2
theorem Lx.ext{Θ':Th}{H':Hp}(hf:env.frame=some env.locals)(x:Ext (frs (env :: outer)) noX (ΘP S) HP.n h Θ' H'.n h'):Lx S env.locals outer h h':=⟨λb o e h1 h2=>by
 obtain⟨k1,k2⟩:=x.keep b o e (λi hi=>⟨h1,h1⟩) (λq=>q);exact⟨λq=>k1 (F3 hf h2 q),k2⟩,x.size⟩
theorem Hd.ev[Og s og](d:Hd A0 S env outer m s.heap)(cx:Cx D U n A env outer){r:Rec}(hr:SoAll og w T1 cc0 gv A0 pc K D U r n){fu:Nat}{e:Expr}{x:X}{l:Loc}{k:V->Hp->Bool}{Q E:Value->Shared->Prop}
 (hc:cE cc0 env.scope.names fu e=some x) (chk:r.e x l HP (kp0 k) (λJ J=>false)=true) (F:FR gv (ΘP S) 1 env.scope.names l m)
 (q:∀v H' Θ' cv s',k v H'=true->Lx S env.locals outer s.heap s'.heap->Hd A0 S env outer m s'.heap->St gv an0 A0 Θ' H' (env :: outer) s'.heap->Ext (frs (env :: outer)) noX (ΘP S) HP.n s.heap Θ' H'.n s'.heap->VR gv Θ' H'.n v cv->∀ [Og s' og],Q cv s'):wpAny (model pg w) A (eval e env) Q E s:=by
 refine hr.e _ _ _ _ _ _ _ _ _ _ _ _ _ _ hc chk cx (d.at F) ?_ λJ J z=>(Z0u z).elim
 intro v H' hk Θ' cv s' X a vr J
 obtain⟨z,hk⟩:=A5 hk
 haveI h0:Θ'.a 0=S:=(X.same 0 (by rw[C6];omega)).1
 haveI hn:0<H'.n:=Z0b (by rw[C6];omega) X.le
 refine q v H' Θ' cv s' hk (Lx.ext cx.frame X) ⟨a.st.stays,a.st.frames,?_,h0▸K3 a.st z hn,d.low,d.nf⟩ a.st X vr
 exact X.ns d.ns (λi J=>⟨(d.ne cx.frame).symm,(d.ne cx.frame).symm⟩) (λq=>q)
theorem Hd.store{x:Str}{k:Nat}{v:Value}{E:Value->Shared->Prop}{Q:Unit->Shared->Prop}(d:Hd A0 S env outer m s.heap)(cx:Cx D U n A env outer)(hp:B3 x env.scope.names 0=some (k, .local))
 (q:∀h',Lx S env.locals outer s.heap h'->Hd A0 S env outer (λy=>if y=x then some v else m y) h'->Q () {s with heap:=h',toks:=s.toks+1}):wpAny (model pg w) A (storeName env x v) Q E s:=by
 refine A7 (G6 hp) λJ e1 e2=>?_
 refine Z1w e2 d.ns (λh' hn' sb=>q h' (Lx.store sb) ?_) (by rw[cx.kind];rfl)
 haveI st:=(d.st).store cx.frame hn' sb
 refine⟨st.stays,st.frames,hn',?_,d.low,d.nf⟩
 refine Y7 d.pool.ex λa b ta tb e l r=>?_
 exact⟨a,b,ta,tb,e,(sb.2 S (d.ne cx.frame)).trans l,r⟩
theorem Hd.keeps(d:Hd A0 S env outer m h)(k:∀b o,h.get? b=some o->h'.get? b=some o):Hd A0 S env outer m h':=by
 refine Y7 d.pool.ex λa b ta tb e l r=>?_;exact⟨λb o e=>k b o (d.stays b o e),d.frames.of_keeps λb o e J=>⟨o,k b o e,rfl⟩,d.ns.keeps k,⟨a,b,ta,tb,e,k _ _ l,r⟩,d.low,d.nf⟩
end
section
set_option maxRecDepth 1000000
structure Pc where
 told:Tx
 tk:Tk
structure Pv where
 gr:Nat
 told:Tx
 num:Nat
 gr2:Nat
noncomputable def O4:List Tx:= [[32],[10],[9,32,32],[32,47,42,32,39,32,42,47],[32,45,45,39,120,10],[13,10]]
noncomputable def pcs:List Pc:= [
⟨[97],⟨[110,97,109,101],[65], .str [97]⟩⟩,
⟨[83,101,108,101,99,116],⟨[110,97,109,101],[83,69,76,69,67,84], .str [83,101,108,101,99,116]⟩⟩,
⟨[120,49],⟨[110,97,109,101],[88,49], .str [120,49]⟩⟩,
⟨[95,122,36,57],⟨[110,97,109,101],[95,90,36,57], .str [95,122,36,57]⟩⟩,
⟨[79,82,68,69,82],⟨[110,97,109,101],[79,82,68,69,82], .str [79,82,68,69,82]⟩⟩,
⟨[233,98,50],⟨[110,97,109,101],[233,66,50], .str [233,98,50]⟩⟩,
⟨[120,88],⟨[110,97,109,101],[88,88], .str [120,88]⟩⟩,
⟨[88],⟨[110,97,109,101],[88], .str [88]⟩⟩,
⟨[34,97,32,98,34],⟨[110,97,109,101],[], .str [97,32,98]⟩⟩,
⟨[96,97,32,98,96],⟨[110,97,109,101],[], .str [97,32,98]⟩⟩,
⟨[91,97,32,98,93],⟨[110,97,109,101],[], .str [97,32,98]⟩⟩,
⟨[34,34],⟨[110,97,109,101],[], .str []⟩⟩,
⟨[96,96],⟨[110,97,109,101],[], .str []⟩⟩,
⟨[91,93],⟨[110,97,109,101],[], .str []⟩⟩,
⟨[34,113,34,34,34],⟨[110,97,109,101],[], .str [113,34]⟩⟩,
⟨[96,113,34,96],⟨[110,97,109,101],[], .str [113,34]⟩⟩,
⟨[91,113,34,93],⟨[110,97,109,101],[], .str [113,34]⟩⟩,
⟨[34,120,96,34],⟨[110,97,109,101],[], .str [120,96]⟩⟩,
⟨[96,120,96,96,96],⟨[110,97,109,101],[], .str [120,96]⟩⟩,
⟨[91,120,96,93],⟨[110,97,109,101],[], .str [120,96]⟩⟩,
⟨[34,83,69,76,69,67,84,34],⟨[110,97,109,101],[], .str [83,69,76,69,67,84]⟩⟩,
⟨[96,83,69,76,69,67,84,96],⟨[110,97,109,101],[], .str [83,69,76,69,67,84]⟩⟩,
⟨[91,83,69,76,69,67,84,93],⟨[110,97,109,101],[], .str [83,69,76,69,67,84]⟩⟩,
⟨[34,45,45,34],⟨[110,97,109,101],[], .str [45,45]⟩⟩,
⟨[96,45,45,96],⟨[110,97,109,101],[], .str [45,45]⟩⟩,
⟨[91,45,45,93],⟨[110,97,109,101],[], .str [45,45]⟩⟩,
⟨[34,47,42,34],⟨[110,97,109,101],[], .str [47,42]⟩⟩,
⟨[96,47,42,96],⟨[110,97,109,101],[], .str [47,42]⟩⟩,
⟨[91,47,42,93],⟨[110,97,109,101],[], .str [47,42]⟩⟩,
⟨[48,120,48],⟨[110,117,109,98,101,114],[], .int (.ofNat 0)⟩⟩,
⟨[48,88,102,102],⟨[110,117,109,98,101,114],[], .int (.ofNat 255)⟩⟩,
⟨[48,120,55,70,102,102,102,102,102,102,102,102,102,102,102,102,102,102],⟨[110,117,109,98,101,114],[], .int (.ofNat 9223372036854775807)⟩⟩,
⟨[48,120,70,70,70,70,70,70,70,70,70,70,70,70,70,70,70,70],⟨[110,117,109,98,101,114],[], .int (.negSucc 0)⟩⟩,
⟨[48],⟨[110,117,109,98,101,114],[], .int (.ofNat 0)⟩⟩,
⟨[48,48,48],⟨[110,117,109,98,101,114],[], .int (.ofNat 0)⟩⟩,
⟨[55],⟨[110,117,109,98,101,114],[], .int (.ofNat 7)⟩⟩,
⟨[48,48,55],⟨[110,117,109,98,101,114],[], .int (.ofNat 7)⟩⟩,
⟨[49,50,48],⟨[110,117,109,98,101,114],[], .int (.ofNat 120)⟩⟩,
⟨[48,48,49,50,48],⟨[110,117,109,98,101,114],[], .int (.ofNat 120)⟩⟩,
⟨[57,50,50,51,51,55,50,48,51,54,56,53,52,55,55,53,56,48,55],⟨[110,117,109,98,101,114],[], .int (.ofNat 9223372036854775807)⟩⟩,
⟨[48,48,57,50,50,51,51,55,50,48,51,54,56,53,52,55,55,53,56,48,55],⟨[110,117,109,98,101,114],[], .int (.ofNat 9223372036854775807)⟩⟩,
⟨[57,50,50,51,51,55,50,48,51,54,56,53,52,55,55,53,56,48,56],⟨[110,117,109,98,101,114],[], .int (.ofNat 9223372036854775808)⟩⟩,
⟨[48,48,57,50,50,51,51,55,50,48,51,54,56,53,52,55,55,53,56,48,56],⟨[110,117,109,98,101,114],[], .int (.ofNat 9223372036854775808)⟩⟩,
⟨[39,39],⟨[116,101,120,116],[], .str []⟩⟩,
⟨[39,105,116,39,39,115,39],⟨[116,101,120,116],[], .str [105,116,39,115]⟩⟩,
⟨[39,39,39,39,39,39],⟨[116,101,120,116],[], .str [39,39]⟩⟩,
⟨[39,97,32,45,45,32,98,39],⟨[116,101,120,116],[], .str [97,32,45,45,32,98]⟩⟩,
⟨[39,34,39],⟨[116,101,120,116],[], .str [34]⟩⟩,
⟨[39,10,39],⟨[116,101,120,116],[], .str [10]⟩⟩,
⟨[120,39,39],⟨[98,108,111,98],[], .bytes []⟩⟩,
⟨[88,39,48,48,102,70,39],⟨[98,108,111,98],[], .bytes [0,255]⟩⟩,
⟨[120,39,55,65,39],⟨[98,108,111,98],[], .bytes [122]⟩⟩,
⟨[40],⟨[115,105,103,110],[40], .none⟩⟩,
⟨[41],⟨[115,105,103,110],[41], .none⟩⟩,
⟨[44],⟨[115,105,103,110],[44], .none⟩⟩,
⟨[46],⟨[115,105,103,110],[46], .none⟩⟩,
⟨[59],⟨[115,105,103,110],[59], .none⟩⟩,
⟨[43],⟨[115,105,103,110],[43], .none⟩⟩,
⟨[45],⟨[115,105,103,110],[45], .none⟩⟩,
⟨[42],⟨[115,105,103,110],[42], .none⟩⟩,
⟨[47],⟨[115,105,103,110],[47], .none⟩⟩,
⟨[37],⟨[115,105,103,110],[37], .none⟩⟩,
⟨[61],⟨[115,105,103,110],[61], .none⟩⟩,
⟨[60],⟨[115,105,103,110],[60], .none⟩⟩,
⟨[62],⟨[115,105,103,110],[62], .none⟩⟩,
⟨[38],⟨[115,105,103,110],[38], .none⟩⟩,
⟨[124],⟨[115,105,103,110],[124], .none⟩⟩,
⟨[126],⟨[115,105,103,110],[126], .none⟩⟩,
⟨[60,61],⟨[115,105,103,110],[60,61], .none⟩⟩,
⟨[62,61],⟨[115,105,103,110],[62,61], .none⟩⟩,
⟨[60,62],⟨[115,105,103,110],[60,62], .none⟩⟩,
⟨[124,124],⟨[115,105,103,110],[124,124], .none⟩⟩,
⟨[60,60],⟨[115,105,103,110],[60,60], .none⟩⟩,
⟨[62,62],⟨[115,105,103,110],[62,62], .none⟩⟩,
⟨[61,61],⟨[115,105,103,110],[61], .none⟩⟩,
⟨[33,61],⟨[115,105,103,110],[60,62], .none⟩⟩]
noncomputable def pcw:List Pc:= [
⟨[83,69,76,69,67,84],⟨[110,97,109,101],[83,69,76,69,67,84], .str [83,69,76,69,67,84]⟩⟩,
⟨[98],⟨[110,97,109,101],[66], .str [98]⟩⟩,
⟨[65,83],⟨[110,97,109,101],[65,83], .str [65,83]⟩⟩,
⟨[99],⟨[110,97,109,101],[67], .str [99]⟩⟩,
⟨[70,82,79,77],⟨[110,97,109,101],[70,82,79,77], .str [70,82,79,77]⟩⟩,
⟨[116],⟨[110,97,109,101],[84], .str [116]⟩⟩,
⟨[76,69,70,84],⟨[110,97,109,101],[76,69,70,84], .str [76,69,70,84]⟩⟩,
⟨[74,79,73,78],⟨[110,97,109,101],[74,79,73,78], .str [74,79,73,78]⟩⟩,
⟨[117],⟨[110,97,109,101],[85], .str [117]⟩⟩,
⟨[79,78],⟨[110,97,109,101],[79,78], .str [79,78]⟩⟩,
⟨[87,72,69,82,69],⟨[110,97,109,101],[87,72,69,82,69], .str [87,72,69,82,69]⟩⟩,
⟨[78,79,84],⟨[110,97,109,101],[78,79,84], .str [78,79,84]⟩⟩,
⟨[73,83],⟨[110,97,109,101],[73,83], .str [73,83]⟩⟩,
⟨[78,85,76,76],⟨[110,97,109,101],[78,85,76,76], .str [78,85,76,76]⟩⟩,
⟨[66,89],⟨[110,97,109,101],[66,89], .str [66,89]⟩⟩,
⟨[49],⟨[110,117,109,98,101,114],[], .int (.ofNat 1)⟩⟩,
⟨[68,69,83,67],⟨[110,97,109,101],[68,69,83,67], .str [68,69,83,67]⟩⟩,
⟨[76,73,77,73,84],⟨[110,97,109,101],[76,73,77,73,84], .str [76,73,77,73,84]⟩⟩,
⟨[50],⟨[110,117,109,98,101,114],[], .int (.ofNat 2)⟩⟩,
⟨[79,70,70,83,69,84],⟨[110,97,109,101],[79,70,70,83,69,84], .str [79,70,70,83,69,84]⟩⟩,
⟨[51],⟨[110,117,109,98,101,114],[], .int (.ofNat 3)⟩⟩,
⟨[68,73,83,84,73,78,67,84],⟨[110,97,109,101],[68,73,83,84,73,78,67,84], .str [68,73,83,84,73,78,67,84]⟩⟩,
⟨[99,111,117,110,116],⟨[110,97,109,101],[67,79,85,78,84], .str [99,111,117,110,116]⟩⟩,
⟨[115],⟨[110,97,109,101],[83], .str [115]⟩⟩,
⟨[71,82,79,85,80],⟨[110,97,109,101],[71,82,79,85,80], .str [71,82,79,85,80]⟩⟩,
⟨[72,65,86,73,78,71],⟨[110,97,109,101],[72,65,86,73,78,71], .str [72,65,86,73,78,71]⟩⟩,
⟨[85,78,73,79,78],⟨[110,97,109,101],[85,78,73,79,78], .str [85,78,73,79,78]⟩⟩,
⟨[65,76,76],⟨[110,97,109,101],[65,76,76], .str [65,76,76]⟩⟩,
⟨[86,65,76,85,69,83],⟨[110,97,109,101],[86,65,76,85,69,83], .str [86,65,76,85,69,83]⟩⟩,
⟨[39,120,39],⟨[116,101,120,116],[], .str [120]⟩⟩,
⟨[67,65,83,69],⟨[110,97,109,101],[67,65,83,69], .str [67,65,83,69]⟩⟩,
⟨[87,72,69,78],⟨[110,97,109,101],[87,72,69,78], .str [87,72,69,78]⟩⟩,
⟨[84,72,69,78],⟨[110,97,109,101],[84,72,69,78], .str [84,72,69,78]⟩⟩,
⟨[69,76,83,69],⟨[110,97,109,101],[69,76,83,69], .str [69,76,83,69]⟩⟩,
⟨[69,78,68],⟨[110,97,109,101],[69,78,68], .str [69,78,68]⟩⟩,
⟨[67,65,83,84],⟨[110,97,109,101],[67,65,83,84], .str [67,65,83,84]⟩⟩,
⟨[84,69,88,84],⟨[110,97,109,101],[84,69,88,84], .str [84,69,88,84]⟩⟩,
⟨[66,69,84,87,69,69,78],⟨[110,97,109,101],[66,69,84,87,69,69,78], .str [66,69,84,87,69,69,78]⟩⟩,
⟨[65,78,68],⟨[110,97,109,101],[65,78,68], .str [65,78,68]⟩⟩,
⟨[73,78],⟨[110,97,109,101],[73,78], .str [73,78]⟩⟩,
⟨[69,88,73,83,84,83],⟨[110,97,109,101],[69,88,73,83,84,83], .str [69,88,73,83,84,83]⟩⟩,
⟨[67,79,76,76,65,84,69],⟨[110,97,109,101],[67,79,76,76,65,84,69], .str [67,79,76,76,65,84,69]⟩⟩,
⟨[110,111,99,97,115,101],⟨[110,97,109,101],[78,79,67,65,83,69], .str [110,111,99,97,115,101]⟩⟩,
⟨[76,73,75,69],⟨[110,97,109,101],[76,73,75,69], .str [76,73,75,69]⟩⟩,
⟨[69,83,67,65,80,69],⟨[110,97,109,101],[69,83,67,65,80,69], .str [69,83,67,65,80,69]⟩⟩,
⟨[73,78,68,69,88,69,68],⟨[110,97,109,101],[73,78,68,69,88,69,68], .str [73,78,68,69,88,69,68]⟩⟩,
⟨[105],⟨[110,97,109,101],[73], .str [105]⟩⟩,
⟨[73,78,83,69,82,84],⟨[110,97,109,101],[73,78,83,69,82,84], .str [73,78,83,69,82,84]⟩⟩,
⟨[79,82],⟨[110,97,109,101],[79,82], .str [79,82]⟩⟩,
⟨[73,71,78,79,82,69],⟨[110,97,109,101],[73,71,78,79,82,69], .str [73,71,78,79,82,69]⟩⟩,
⟨[73,78,84,79],⟨[110,97,109,101],[73,78,84,79], .str [73,78,84,79]⟩⟩,
⟨[52],⟨[110,117,109,98,101,114],[], .int (.ofNat 4)⟩⟩,
⟨[85,80,68,65,84,69],⟨[110,97,109,101],[85,80,68,65,84,69], .str [85,80,68,65,84,69]⟩⟩,
⟨[83,69,84],⟨[110,97,109,101],[83,69,84], .str [83,69,84]⟩⟩,
⟨[68,69,76,69,84,69],⟨[110,97,109,101],[68,69,76,69,84,69], .str [68,69,76,69,84,69]⟩⟩,
⟨[73,83,78,85,76,76],⟨[110,97,109,101],[73,83,78,85,76,76], .str [73,83,78,85,76,76]⟩⟩,
⟨[67,82,69,65,84,69],⟨[110,97,109,101],[67,82,69,65,84,69], .str [67,82,69,65,84,69]⟩⟩,
⟨[84,65,66,76,69],⟨[110,97,109,101],[84,65,66,76,69], .str [84,65,66,76,69]⟩⟩,
⟨[73,70],⟨[110,97,109,101],[73,70], .str [73,70]⟩⟩,
⟨[73,78,84,69,71,69,82],⟨[110,97,109,101],[73,78,84,69,71,69,82], .str [73,78,84,69,71,69,82]⟩⟩,
⟨[80,82,73,77,65,82,89],⟨[110,97,109,101],[80,82,73,77,65,82,89], .str [80,82,73,77,65,82,89]⟩⟩,
⟨[75,69,89],⟨[110,97,109,101],[75,69,89], .str [75,69,89]⟩⟩,
⟨[68,69,70,65,85,76,84],⟨[110,97,109,101],[68,69,70,65,85,76,84], .str [68,69,70,65,85,76,84]⟩⟩,
⟨[53],⟨[110,117,109,98,101,114],[], .int (.ofNat 5)⟩⟩,
⟨[85,78,73,81,85,69],⟨[110,97,109,101],[85,78,73,81,85,69], .str [85,78,73,81,85,69]⟩⟩,
⟨[73,78,68,69,88],⟨[110,97,109,101],[73,78,68,69,88], .str [73,78,68,69,88]⟩⟩,
⟨[68,82,79,80],⟨[110,97,109,101],[68,82,79,80], .str [68,82,79,80]⟩⟩,
⟨[82,79,76,76,66,65,67,75],⟨[110,97,109,101],[82,79,76,76,66,65,67,75], .str [82,79,76,76,66,65,67,75]⟩⟩,
⟨[84,79],⟨[110,97,109,101],[84,79], .str [84,79]⟩⟩,
⟨[83,65,86,69,80,79,73,78,84],⟨[110,97,109,101],[83,65,86,69,80,79,73,78,84], .str [83,65,86,69,80,79,73,78,84]⟩⟩,
⟨[80,82,65,71,77,65],⟨[110,97,109,101],[80,82,65,71,77,65], .str [80,82,65,71,77,65]⟩⟩,
⟨[120],⟨[110,97,109,101],[88], .str [120]⟩⟩,
⟨[69,88,80,76,65,73,78],⟨[110,97,109,101],[69,88,80,76,65,73,78], .str [69,88,80,76,65,73,78]⟩⟩]
noncomputable def pvs:List Pv:= [
⟨0,[63],1,1⟩,
⟨0,[63,53],5,5⟩,
⟨0,[63,57,57,57],999,999⟩,
⟨1,[63],2,2⟩,
⟨1,[63,49],1,1⟩,
⟨1,[63,53],5,5⟩,
⟨1,[63,57,57,57],999,999⟩,
⟨2,[63],3,3⟩,
⟨2,[63,49],1,2⟩,
⟨2,[63,53],5,5⟩,
⟨2,[63,57,57,57],999,999⟩,
⟨3,[63],4,4⟩,
⟨3,[63,49],1,3⟩,
⟨3,[63,53],5,5⟩,
⟨3,[63,57,57,57],999,999⟩,
⟨4,[63],5,5⟩,
⟨4,[63,49],1,4⟩,
⟨4,[63,57,57,57],999,999⟩,
⟨5,[63],6,6⟩,
⟨5,[63,49],1,5⟩,
⟨5,[63,53],5,5⟩,
⟨5,[63,57,57,57],999,999⟩,
⟨6,[63],7,7⟩,
⟨6,[63,49],1,6⟩,
⟨6,[63,53],5,6⟩,
⟨6,[63,57,57,57],999,999⟩,
⟨7,[63],8,8⟩,
⟨7,[63,49],1,7⟩,
⟨7,[63,53],5,7⟩,
⟨7,[63,57,57,57],999,999⟩,
⟨8,[63],9,9⟩,
⟨8,[63,49],1,8⟩,
⟨8,[63,53],5,8⟩,
⟨8,[63,57,57,57],999,999⟩,
⟨9,[63],10,10⟩,
⟨9,[63,49],1,9⟩,
⟨9,[63,53],5,9⟩,
⟨9,[63,57,57,57],999,999⟩,
⟨10,[63],11,11⟩,
⟨10,[63,49],1,10⟩,
⟨10,[63,53],5,10⟩,
⟨10,[63,57,57,57],999,999⟩,
⟨11,[63],12,12⟩,
⟨11,[63,49],1,11⟩,
⟨11,[63,53],5,11⟩,
⟨11,[63,57,57,57],999,999⟩,
⟨999,[63,57,57,57],999,999⟩,
⟨999,[63,49],1,999⟩,
⟨999,[63,53],5,999⟩,
⟨0,[63,50],2,2⟩]
noncomputable def G9:List Tx:= [[],[32],[32,45,45,32,111,112,101,110],[32,47,42,32,111,112,101,110],[10,47,42,32,42,32,47],[10]]
noncomputable def M8:List Tx:= [
[39,97,98],
[39,97,39,39],
[34,97,34,34],
[96],
[91,97,98],
[120,39,48,39],
[88,39,48,103,39],
[49,50,97],
[49,46,53],
[48,120],
[48,120,103],
[48,120,49,49,49,49,49,49,49,49,49,49,49,49,49,49,49,49,49],
[57,50,50,51,51,55,50,48,51,54,56,53,52,55,55,53,56,48,57],
[63,48],
[63,49,48,48,48],
[64],
[35],
[36,97],
[123],
[94],
[58,97],
[33],
[92],
[1]]
noncomputable def A1a:List Nat:= [32,10,9,13]
noncomputable def gS:V:= .lin 0 0
def okT(told:Tx)(t:Tk)(g g':V):Bool:=bB (C5 A1a λc=>win NW 4 (ap told [c]) true (len told) [(t,0)] g g') (bB (win NW 4 told false (len told) [(t,0)] g g') (Nat.ble 1 (len told)) false) false
def A6j(p:Pc):Bool:=okT p.told p.tk gS gS
noncomputable def V6:Tx:= [118,97,114,105,97,98,108,101]
def C2l(p:Pv):Bool:=bB (okT p.told ⟨V6,[],gN p.num⟩ (gN p.gr) (gN p.gr2)) (Nat.ble p.gr2 1000) false
def A7p(g:Tx):Bool:=win NW 8 g true (len g) [] gS gS
noncomputable def E7:Tk:=⟨[101,110,100],[], .none⟩
noncomputable def O5:Tk:=⟨[115,105,103,110],[59], .none⟩
def B1k(s:Tx):Bool:=A9t NW 8 s [(E7,len s)] gS
def C5e(s:Tx):Bool:=B6l NW 8 (32 :: s) 1 gS
noncomputable def Y8:Tx:= [32,59,32,59]
def D0j:Bool:=A9t NW 8 Y8 [(O5,1),(O5,3),(E7,4)] gS
end
section
set_option maxRecDepth 1000000
noncomputable def A11:List Tx:= [[97,32,98],[],[113,34],[120,96],[83,69,76,69,67,84],[45,45],[47,42]]
noncomputable def A5s:List Tx:= [[],[105,116,39,115],[39,39],[97,32,45,45,32,98],[34],[10]]
def dbl(q:Nat)(t:Tx):Tx:=List.rec (motive:=λJ=>Tx) [] (λc J ih=>bB (Nat.beq c q) (q :: q :: ih) (c :: ih)) t
def D2e:Fn:=(BtG T1.fns 10).getD ⟨[],[], .nil⟩
def A3w:S:=D2e.body.q
def Y6{α:Type}(p:α->Bool)(l:List α):Bool:=List.rec (motive:=λJ=>Bool) false (λa J ih=>bB (p a) true ih) l
def eqV(a b:V):Bool:=A40 a b
def A93(o:Option O)(f:Tx->Tx->Tx->V->Bool):Bool:=E8 o λo=>A35 o λl=>G7 l λa l=>O0 a λa=>G7 l λb l=>O0 b λb=>G7 l λc l=>O0 c λc=>G7 l λd l=>S4 l (f a b c d)
def A33(told kind great:Tx)(v:V):Bool:=Y6 (λp=>bB (teq p.told told) (bB (teq p.tk.kind kind) (bB (teq p.tk.text great) (eqV p.tk.val v) false) false) false) pcs
def B6k(g:Nat)(told great:Tx)(v:V):Bool:=bB (L5 great) (Y6 (λp=>bB (Nat.beq p.gr g) (bB (teq p.told told) (eqV (.int (.ofNat p.num)) v) false) false) pvs) false
def A57(g:Nat)(v:V)(h:Hp):Bool:=N7 v λa=>A93 (h.get a) λtold kind great v=>bB (teq kind V6) (B6k g told great v) (A33 told kind great v)
def B0k(g way:Nat):Bool:=(run T1 P3 NW).ss A3w [(0, .ref 0),(1, .int (.ofNat g)),(2, .int (.ofNat way))] HP (λf J h=>bB (K5 (h.get 0)) (fl f false λv=>A57 g v h) false) (λJ J=>false)
noncomputable def grs:List Nat:= [0,1,2,3,4,5,6,7,8,9,10,11,999]
noncomputable def A3p:List Nat:= [0,1,3,5,6,7,8]
def pcO(v:V)(h:Hp):Bool:=N7 v λa=>A93 (h.get a) A33
def C00:X:=A3w.q.b.x
def B6w:S:=A3w.q.b.q.q
def D68:X:=A3w.q.q.q.b.x
def Y4(l:List Tx)(v:V)(_:Hp):Bool:=O0 v λs=>Y6 (teq s) l
noncomputable def D74(o:Option O):Bool:=E8 o λo=>A21 o λJ=>true
def B7e(t:Tx)(a b:Tx):Bool:=(run T1 P3 NW).ss B6w [(0, .ref 0),(4, .str t),(5, .ref 1)] (HP.new (.list [.str a, .str b, .str (91 :: ap t [93])])) (λf J h=>bB (K5 (h.get 0)) (bB (D74 (h.get 1)) (fl f false λv=>pcO v h) false) false) (λJ J=>false)
theorem D3g:C5 grs (λg=>C5 A3p (B0k g))=true:=by kernel_rfl
theorem C8z:C5 A11 (λt=>B7e t (34 :: ap (dbl 34 t) [34]) (96 :: ap (dbl 96 t) [96]))=true:=by kernel_rfl
theorem C5p:C5 A5s (λt=>A33 (39 :: ap (dbl 39 t) [39]) [116,101,120,116] [] (.str t))=true:=by kernel_rfl
theorem D4n:(run T1 P3 NW).e C00 [(0, .ref 0)] HP (kp0 (Y4 A11)) (λJ J=>false)=true:=by kernel_rfl
theorem C8u:(run T1 P3 NW).e D68 [(0, .ref 0)] HP (kp0 (Y4 A5s)) (λJ J=>false)=true:=by kernel_rfl
end
def okQ(q:Nat)(t:Tx):Bool:=bB (teq (Txt.replace (sOf t) (sOf [q]) (sOf [q,q])).cps.toList (dbl q t)) (Nat.ble (len (dbl q t)) 1000) false
theorem D77:C5 A11 (okQ 34)=true:=by kernel_rfl
theorem C9x:C5 A11 (okQ 96)=true:=by kernel_rfl
theorem B9a:C5 A5s (okQ 39)=true:=by kernel_rfl
theorem C8x{q:Nat}{t:Tx}(h:okQ q t=true):Txt.replace (sOf t) (sOf [q]) (sOf [q,q])=sOf (dbl q t)/\(dbl q t).length<=1000:=by
 refine A8 (A5 h) λh1 h2=>?_;rw[J1,decide_eq_true_eq] at h1;rw[C8,D0,decide_eq_true_eq] at h2;refine⟨?_,h2⟩;refine rs h1 ?_;unfold sOf;rw[Z1x]
section
variable{K:Frag}
variable{S:Addr}
theorem C7i[Og s og](G:GT w T1 cc0 gv mg mb A0 K)(hD:D<recursionLimit){fa:Addr}(raw:FnRaw gv cc0 K (A4 11) [0,1,2] [] fa)(ca:CA D U 1 A fs)(st:St gv an0 A0 (ΘP S) HP fs s.heap){q:Nat}{t:Tx}{u:Nat}{tt:Tok}(hu:1<=u)(hu':u<s.toks)(hl:t.length<=1000)(hq:okQ q t=true)
 (k:∀t' s',(∀b o,s.heap.get? b=some o->s'.heap.get? b=some o)->s.heap.objs.size<=s'.heap.objs.size->∀ [Og s' og],R (.ok (.ret (.str (sOf (q :: (dbl q t ++ [q]))) t'))) s'):codeAny (model pg w) A (.call (.ref fa) ⟨[.ref S, .str (sOf [q]) u, .str (sOf t) tt],[]⟩) R s:=by
 refine A8 (C8x hq) λe1 e2=>?_
 refine N6 G hD raw (vs:= [.ref 0, .str [q], .str t]) (l:= [(0, .ref 0),(1, .str [q]),(2, .str t)]) rfl ca st ⟨⟨by simp only[C6];decide,rfl⟩,⟨u,rfl⟩,⟨tt,rfl⟩,trivial⟩ λenv h₀ tk hh hsc cx at' kp e3=>?_
 obtain⟨htk,hns⟩:=hh
 obtain⟨m,hn,m1,m2⟩:∃m,h₀.Ns env.locals m/\m "quote" = some (.str (sOf [q]) u)/\m "text" = some (.str (sOf t) tt):=⟨_,hns rfl,rfl,rfl⟩
 haveI hz:s.heap.objs.size<=h₀.objs.size:=Z0o (by rw[e3] at hn;exact hn.lt)
 have p1:=pkl hsc "quote" 1
 haveI p2:=pkl hsc "text" 2
 conv=>arg 3;arg 1;whnf
 refine Z0j (Z1u (Z1t (Z1t (A9 (s:={s with heap:=h₀,toks:=tk}) cx p1 hn m1 ?_))))
 refine S8 rfl rfl (by decide) rfl (A9 (s:={s with heap:=h₀,toks:=tk}) cx p2 hn m2 (GM.replace ?_))
 refine M4 (N0 rfl).1 ?_
 refine Z0n (A9 (s:={s with heap:=h₀,toks:=tk}) cx p1 hn m1 (Z0n (Z1t (A9 (s:={s with heap:=h₀,toks:=tk}) cx p1 hn m1 (A9 (s:={s with heap:=h₀,toks:=tk}) cx p1 hn m1 (P.add_str ?_))))))
 refine⟨by show 2<=sizeLine;rw[sizeLine_eq];decide,Z0x ⟨H6,?_⟩⟩
 refine SC.replaceW (show(u:Nat)≠0 from by lia) (show(tk:Nat)≠0 from by lia) (show(u:Nat)≠tk from Z0k (Z0b hu' htk)) (beq_eq_false_iff_ne.mpr λe=>?_) (by refine Z0c (by assumption) ?_;decide) (by show 2<=14;decide) λt1 k1=>?_
 . haveI:=congrArg Str.length e
   exact absurd this (by show ¬1=2;decide)
 rw[show sOf [q] ++ sOf [q]=sOf [q,q] from J2 [q] [q],e1]
 refine Z4l (λt2 k2=>A9 (s:={s with heap:=h₀,toks:=k2}) cx p1 hn m1 (Z4l (λt3 k3=>?_) ?_)) ?_
 . rw[J2,J2]
   exact k t3 {s with heap:=h₀,toks:=k3} kp hz
 . rw[J2,sizeLine_eq];show([q] ++ dbl q t).length+1<=_;rw[List.length_append];show 1+(dbl q t).length+1<=_;exact Z0c (Nat.add_le_add (Nat.add_le_add (Z0g _) e2) (Z0g _)) (by decide)
 . rw[sizeLine_eq];show 1+(dbl q t).length<=_;exact Z0c (Nat.add_le_add (Z0g _) e2) (by decide)
end
theorem St.adopt(S:St gv an A0 Θ H fs h){a:Nat}{g:Gh}{o:O}(hn:H.n<=100000)(ha:a<h.objs.size)(lo:A0.get? a=Option.none)(hf:a∉frs fs)(ho':∀i,i<H.n->∀z,own Θ i z->z≠a)(hg:g.pre.length+g.suf.length<=D4)(hw:g.wn=0)
 (ho:OR gv an (Θ.set H.n a a g) (H.n+1) h H.n o):St gv an A0 (Θ.set H.n a a g) (H.new o) fs h:=by
 haveI old:=Th.set_old Θ H.n a a g
 haveI nw:=Th.set_new Θ H.n a a g
 have hlt:H.n<2 ^ 39:=by omega
 have cs:∀i,i<(H.new o).n->i<H.n\/i=H.n:=λi hi=>by simp only[Hp.new_n] at hi;lia
 haveI na:∀i,i<H.n->Θ.a i≠a/\Θ.d i≠a:=λi hi=>⟨ho' i hi _ (.inl rfl),ho' i hi _ (.inr (.inl rfl))⟩
 have now:∀j,¬j<((Θ.set H.n a a g).gh H.n).wn:=λj hj=>by rw[nw.2.2,hw] at hj;exact absurd hj (Z0y _)
 refine⟨S.stays,by simp only[Hp.new_n];lia,λi hi=>?_,λi hi=>?_,λi hi=>?_,λi j hi hj hij=>?_,λi hi=>?_,S.frames,λi hi L hL=>?_,λi hi j hj=>?_,λi hi j hj m hm=>?_,λi hi L hL j hj=>?_⟩
 . rcases cs i hi with q | rfl
   . refine A1 (S.obj i q) λx e r=>?_
     exact A6 x (by rw[Hp.get_new hlt,Z0m (Z0k q)];exact e) (r.up q (Z1d _) old λJ J J e=>e)
   . exact A6 o (by rw[Hp.get_new hlt,Z0p rfl]) ho
 . rcases cs i hi with q | rfl
   . rw[(old i q).1,(old i q).2.1];exact S.lt i q
   . rw[nw.1,nw.2.1];exact⟨ha,ha⟩
 . rcases cs i hi with q | rfl
   . rw[(old i q).1,(old i q).2.1];exact S.low i q
   . rw[nw.1,nw.2.1];exact⟨lo,lo⟩
 . rcases cs i hi with q | rfl <;> rcases cs j hj with q' | rfl
   . rw[(old i q).1,(old i q).2.1,(old j q').1,(old j q').2.1];exact S.sep i j q q' hij
   . rw[(old i q).1,(old i q).2.1,nw.1,nw.2.1];exact⟨(na i q).1,(na i q).1,(na i q).2,(na i q).2⟩
   . rw[(old j q').1,(old j q').2.1,nw.1,nw.2.1];exact⟨(na j q').1.symm,(na j q').2.symm,(na j q').1.symm,(na j q').2.symm⟩
   . exact absurd rfl hij
 . rcases cs i hi with q | rfl
   . unfold K7;rw[(old i q).2.2];exact S.gh i q
   . unfold K7;rw[nw.2.2];exact hg
 . rcases cs i hi with q | rfl
   . rw[(old i q).1,(old i q).2.1];exact S.apart i q L hL
   . have:L≠a:=λq=>hf (q▸hL)
     rw[nw.1,nw.2.1];exact⟨this,this⟩
 . rcases cs i hi with q | rfl
   . rw[(old i q).2.2] at hj ⊢;exact S.wlt i q j hj
   . exact absurd hj (now j)
 . rcases cs i hi with q | rfl
   . rw[(old i q).2.2] at hj ⊢
     rcases cs m hm with q' | rfl
     . rw[(old m q').1,(old m q').2.1];exact S.wsep i q j hj m q'
     . rw[nw.1,nw.2.1]
       haveI t1:=ho' i q _ (.inr (.inr ⟨j,hj, .inl rfl⟩))
       haveI t2:=ho' i q _ (.inr (.inr ⟨j,hj, .inr rfl⟩))
       exact T4 t1 t1 t2 t2
   . exact absurd hj (now j)
 . rcases cs i hi with q | rfl
   . rw[(old i q).2.2] at hj ⊢;exact S.wap i q L hL j hj
   . exact absurd hj (now j)
section
variable{K:Frag}
variable{S:Addr}
theorem Lx.leave{L:Addr}(x:Lx S L fs h₀ h')(kp:∀b o,h.get? b=some o->h₀.get? b=some o)(hz:h.objs.size<=h₀.objs.size)(hL:L=h.objs.size):Lx S S fs h h':=
 ⟨λb o e h1 J=>x.keep b o (kp b o e) h1 (by rw[hL];exact Z0k (Z0i e)),Z0c hz x.size⟩
theorem Lx.inner(hf:env.frame=some env.locals)(x:Lx S S (env :: outer) h h'):Lx S env.locals outer h h':=
 ⟨λb o e h1 h2=>by
  obtain⟨k1,k2⟩:=x.keep b o e h1 h1;exact⟨λq=>k1 (F3 hf h2 q),k2⟩,x.size⟩
theorem Hd.inner(d:Hd A0 S env outer m h)(hf:env.frame=some env.locals)(x:Lx S S (env :: outer) h h')(sy:A0.StaysIn h')(fr:h'.FunFrames A0 (env :: outer))(pl:Pool h' S):Hd A0 S env outer m h':=by
 refine⟨sy,fr,?_,pl,d.low,d.nf⟩;refine G4 d.ns λo es ep e dd r=>?_;obtain⟨_,sl,e'⟩:=x.keep _ o e (d.ne hf).symm (d.ne hf).symm;exact S9 _ es ep e' dd r
theorem Lx.extL{Θ':Th}{H':Hp}(hf:env.frame=some env.locals)(x:Ext (frs (env :: outer)) (onL env) (ΘP S) HP.n h Θ' H'.n h'):Lx S env.locals outer h h':=⟨λb o e h1 h2=>by
 obtain⟨k1,k2⟩:=x.keep b o e (λi hi=>⟨h1,h1⟩) h2;exact⟨λq=>k1 (F3 hf h2 q),k2⟩,x.size⟩
theorem Hd.ss[Og s og](d:Hd A0 S env outer m s.heap)(cx:Cx D U n A env outer){r:Rec}(hr:SoAll og w T1 cc0 gv A0 pc K D U r n){fu:Nat}{ss:List Stmt}{x:MineE.S}{l:Loc}{k:KS}{Q:Flow->Shared->Prop}{E:Value->Shared->Prop}
 (hc:cSs cc0 env.scope.names fu ss=some x) (chk:r.ss x l HP (λf l h=>bB (K5 (h.get 0)) (k f l h) false) (λJ J=>false)=true) (F:FR gv (ΘP S) 1 env.scope.names l m)
 (q:∀f l' H' Θ' cf s',k f l' H'=true->Lx S env.locals outer s.heap s'.heap->Pool s'.heap S->At gv an0 A0 Θ' H' l' env outer s'.heap->Ext (frs (env :: outer)) (onL env) (ΘP S) HP.n s.heap Θ' H'.n s'.heap->FlR gv Θ' H'.n f cf->H'.get 0=some .pool->∀ [Og s' og],Q cf s'):wpAny (model pg w) A (execs ss env) Q E s:=by
 refine hr.ss _ _ _ _ _ _ _ _ _ _ _ _ _ _ hc chk cx (d.at F) ?_ λJ J z=>(Z0u z).elim
 intro f l' H' hk Θ' cf s' X a fr J
 obtain⟨z,hk⟩:=A5 hk
 haveI h0:Θ'.a 0=S:=(X.same 0 (by rw[C6];omega)).1
 haveI hn:0<H'.n:=Z0b (by rw[C6];omega) X.le
 exact q f l' H' Θ' cf s' hk (Lx.extL cx.frame X) (h0▸K3 a.st z hn) a X fr (U2 z)
end
def N8:Fn:=(BtG T1.fns 87).getD ⟨[],[], .nil⟩
theorem A5a:BtG T1.fns 87=some N8:=rfl
def C87:X:=match N8.body with | .ret (.meth o _ _)=>o | _=> .bad
theorem C1c{full:Tx}:binds N8.params [.str full] N8.dflt=some [(0, .str full)]:=rfl
def HS(full:Tx):Hp:=(HE.new (.inst 87 [(14, .str full),(17, .int 0),(21, .ref 1),(22, .int 0)])).new (.list [])
theorem C7d{full:Tx}:(HS full).get 0=some (.inst 87 [(14, .str full),(17, .int 0),(21, .ref 1),(22, .int 0)]):=by kernel_rfl
theorem D39{full:Tx}:(HS full).get 1=some (.list []):=by kernel_rfl
theorem D2w{full:Tx}:Z6 (HS full) (.ref 0)=some (87,[(14, .str full),(17, .int 0),(21, .ref 1),(22, .int 0)]):=by kernel_rfl
theorem C74{n:Nat}{full:Tx}{k kx:MineE.K}:(run T1 P1 (n+20)).e C87 [(0, .str full)] HE k kx=k (.ref 0) (HS full):=by kernel_rfl
theorem D09:BtG T1.cls 88=some A9r:=rfl
theorem C7j:lkG 103 A9r.ms=some N5:=rfl
section
variable{K:Frag}{D U:Nat}
variable{Q:Value->Shared->Prop}{S:List Addr}
theorem D54{c:CC}{ns:Ns}{y:Str}{x:X}(h:A1d c ns y=some x):Nat.beq x.ctorIdx 12=false:=by
 exact(A8u h).elim (λh=>A1 h λJ J h=>h▸rfl) λh=>F8 h λJ J J J h=>h▸rfl
theorem D63{c:CC}{ns:Ns}{fu:Nat}{e:Expr}{x:X}(h:cE c ns (fu+1) e=some x)(hm:Nat.beq x.ctorIdx 12=true):(∃op e1 p,e= .BoolOp op [e1] p/\cE c ns fu e1=some x)\/∃fn as kws p,e= .Call fn as kws p/\CallR c (cE c ns fu) x p fn as kws:=by
 have er:=A70 h;clear h;cases er with
 |one h1=>exact .inl ⟨_,_,_,rfl,h1⟩
 |call hc=>exact .inr ⟨_,_,_,_,rfl,hc⟩
 |name hn=>exact absurd (D54 hn) (by rw[hm];exact λq=>nomatch q)
 |sub hs=>
  cases hs with
  |slc _ _ _ _ _ _ _ _ _ q=>rw[q] at hm;exact ff hm
  |sub _ _ _ _ _ q=>rw[q] at hm;exact ff hm
 |_=>exact ff hm
theorem D1t{xo xa:X}{i fu:Nat}{e:Expr}(h:cE cc env.scope.names fu e=some (.meth xo i xa))(go:∀fu' o name apos as pos,as.any B7=false->isSuper o=false->as.length<=25->(apos.endLine==pos.line)=true->B9 name cc.attrs 0=some i->cE cc env.scope.names fu' o=some xo->xl (as.map (cE cc env.scope.names fu'))=some xa->
 wpAny (model pg w) A (eval (.Call (.Attribute o name apos) as [] pos) env) Q E s):wpAny (model pg w) A (eval e env) Q E s:=by
 induction fu generalizing e with
 |zero=>exact nn h
 |succ fu ih=>
  refine(D63 h rfl).elim (λq=>?_) λq=>?_
  . obtain⟨op,e1,p,q,h1⟩:=q;rw[q];exact BoolOp_one (ih h1)
  . obtain⟨fn,as,kws,p,q,hc⟩:=q;rw[q];cases hc with
    |dget ks vs dp ap n e d es xe xd hn h1 h2 hp hd he hdd hx=>cases hx
    |meth o n ap as i xo xa h1 h2 h3 hp hi ho ha hx=>cases hx;exact go fu o n ap _ p h1 h2 h3 hp hi ho ha
    |fold _ _ _ _ _ _ _ _ _ _ _ _ _ _ _ _ _ _ _ hx=>cases hx
    |fn y p as xo xa h1 ho ha hx=>cases hx
theorem C16{l:List (Option X)}(h:xl l=some .nil):l= []:=by
 cases l with
 |nil=>rfl
 |cons a r=>exact A1 (bi h) λa J h=>A1 (mi h) λq J h=>nomatch h
theorem St.start{full:Tx}(st:St gv an0 A0 Θ (HS full) fs h)(hl:full.length<=D4):St gv an0 A0 (Θw Θ [] full 0 []) (H0 [] true (gN 0)) fs h:=by
 haveI lt:∀{i},i<2->i<(HS full).n:=λhi=>hi;refine⟨st.stays,by simp only[J9];decide,λi hi=>?_,λi hi=>st.lt i (lt hi),λi hi=>st.low i (lt hi),λi j hi hj=>st.sep i j (lt hi) (lt hj),λi hi=>?_,st.frames,λi hi=>st.apart i (lt hi),λi J j hj=>?_,λi J j hj=>?_,λi J L J j hj=>?_⟩
 . rcases two hi with rfl | rfl
   . refine A1 (st.obj 0 (lt (by assumption))) λo eo r=>?_;obtain rfl:=Z0a (eo.symm.trans C7d);obtain⟨C,m,z,q1,q2,q3,q4,q5⟩:=r;refine⟨_,B2q,C,m,z,q1,q2,q3,?_,q5⟩;refine q4.map (A0l ?_ ?_ ?_ ?_)
     . rintro cv ⟨t,rfl⟩;exact⟨by rw[J9];omega,t,rfl⟩
     . rintro cv ⟨t,rfl⟩;exact⟨by rw[J9];omega,t,rfl⟩
     . rintro cv ⟨_,rfl⟩;exact⟨by rw[J9];omega,rfl⟩
     . rintro cv ⟨t,rfl⟩;exact⟨t,rfl⟩
   . refine A1 (st.obj 1 (lt (by assumption))) λo eo r=>?_;obtain rfl:=Z0a (eo.symm.trans D39);refine B4 r λvs e l1 v1=>?_;have:vs.toList= []:=by
      cases q:vs.toList with
      |nil=>rfl
      |cons _ _=>rw[q] at v1;exact v1.elim
     exact⟨_,B3w,vs,e,[],l1,by rw[this];rfl,trivial,by show 0<=_;decide⟩
 . unfold K7 Θw;dsimp only;split
   . show 0+full.length<=_;lia
   . show 0+0<=_;decide
 . rw[Θw_wn] at hj;exact absurd hj (Z0y _)
 . rw[Θw_wn] at hj;exact absurd hj (Z0y _)
 . rw[Θw_wn] at hj;exact absurd hj (Z0y _)
theorem B3d[Og s og](G:GT w T1 cc0 gv mg mb A0 K)(hD:D<recursionLimit)(hr:SoAll og w T1 cc0 gv A0 pc K D U (run T1 P1 (n+20)) (n+20)){fa:Addr}{full:Tx}{t:Tok}{R:Result->Shared->Prop}(fo:FnOk gv cc0 K N8 fa)(ca:CA D U (n+22) A fs)(sy:A0.StaysIn s.heap)(fr:s.heap.FunFrames A0 fs)(hl:full.length<=D4)
 (go:∀A' env ra s' Θ,FnOk gv cc0 K N5 ra->CA D U (n+21) A' (env :: fs)->env.frame=some env.locals->env.locals=s.heap.objs.size->A'.frames=some (env :: fs)->St gv an0 A0 (Θw Θ [] full 0 []) (H0 [] true (gN 0)) (env :: fs) s'.heap->
  (∀i,i<2->∀z,z=Θ.a i\/z=Θ.d i->s.heap.objs.size<=z)->(∀b o,s.heap.get? b=some o->(b∉frs fs->s'.heap.get? b=some o)/\∃sl,s'.heap.get? b=some {o with slots:=sl})->s.heap.objs.size<=s'.heap.objs.size->∀ [Og s' og],
  codeAny (model pg w) A' (.call (.ref ra) ⟨[.ref (Θ.a 0)],[]⟩) (λr s'=>match r with | .ok (.ret v)=>A18 R (.ret v) s' | .ok _=>False | .error e=>lvE w A' env R e s') s') :
 codeAny (model pg w) A (.call (.ref fa) ⟨[.str (sOf full) t],[]⟩) R s:=by
 refine A47 (n:=n+21) (H:=HE) (Θ:=⟨λJ=>0,λJ=>0,λJ=>gh0⟩) (vs:= [.str full]) G hD fo C1c ca (St.none sy fr) ⟨⟨t,rfl⟩,trivial⟩ λss env h₀ tk hc cx a hkp e3=>?_
 haveI cx':Cx D U (n+20) (A.deeper env) env fs:=cx.low (Z1d _)
 haveI hz:s.heap.objs.size<=h₀.objs.size:=Z0o (by obtain⟨m,hn,_⟩:=a.fr;rw[e3] at hn;exact hn.lt)
 refine Q0 (D4c hc (by intro q;cases q)) λe p rest q'1 h1=>?_
 subst q'1
 refine Z0j (Z1u (D1t h1 λfu' o name apos as pos q1 q2 q3 q4 q5 q6 q7=>?_))
 have has:as= []:=List.map_eq_nil_iff.mp (C16 q7)
 subst has
 refine S8 q1 q2 q3 q4 (hr.e _ _ _ _ _ (λv h=>@decide (v= .ref 0/\h=HS full) (Classical.propDecidable _)) (λJ J=>false) _ _ _ {s with heap:=h₀,toks:=tk} _ _ _ q6 (C74.trans (@decide_eq_true _ (Classical.propDecidable _) ⟨rfl,rfl⟩)) cx' a ?_ (λJ J q=>by exact ff q))
 intro v H1 hk Θ1 cv s1 x1 a1 vr1 J
 obtain⟨rfl,rfl⟩:=@of_decide_eq_true _ (Classical.propDecidable _) hk
 obtain⟨x,C,dx,m,cl,rfl,g0,CO,z,g1,g2,g3,g4⟩:=A6p G a1.st vr1 (D2w (full:=full))
 obtain rfl:=Z0a (g0.symm.trans D09)
 refine D6 (CO.meth _ _ _ q5 C7j) λra r1 r2 r3=>?_
 haveI hm:m name=none:=g4.at q5
 obtain⟨_,ex⟩:=vr1
 refine A7r (G.kin.keeps a1.st.stays) CO.k g2 g3 hm r1 r2 ?_
 obtain⟨bb1,_⟩:=N0 (env:=env) (pos:=pos) q1
 refine M4 bb1 (Z0x ⟨U7 r3.keep (G.kin.keeps a1.st.stays),Z2g ?_⟩)
 refine re ex ?_
 have X:=(x1.weak (X:=onL env)).call (cx.frame.trans (by rw[e3])) e3 hkp hz
 refine go (A.deeper env) env ra s1 Θ1 r3 cx.ca cx.frame e3 cx.ca.fr (a1.st.start hl) (λi hi z hz'=>?_) (λb o e=>X.keep b o e (λi hi=>absurd hi (Z0y i)) (λq=>q)) X.size
 exact X.new i (Z1y _) hi z (hz'.imp id .inl)
end
section
variable{K:Frag}{D U:Nat}
variable{h1 h2:Heap}
theorem Ext.join2(k:∀b o,h.get? b=some o->(b∉frs fs->h1.get? b=some o)/\∃sl,h1.get? b=some {o with slots:=sl})(hz:h.objs.size<=h1.objs.size)(x:Ext (frs (env :: fs)) noX Θ 2 h1 Θ 2 h2)(hf:env.frame=some env.locals)(e3:env.locals=h.objs.size)
 (lo:∀i,i<2->∀z,z=Θ.a i\/z=Θ.d i->h.objs.size<=z):Ext (frs fs) noX Θ 2 h Θ 2 h2:=
 ⟨Z0g _,λJ J=>⟨rfl,rfl,rfl⟩,λJ a b=>absurd b (Z1g.mpr a),λb o e J J=>by
  have lb:=Z0i e;have nb:∀i,i<2->b≠Θ.a i/\b≠Θ.d i:=λi hi=>⟨Z0k (Z0b lb (lo i hi _ (.inl rfl))),Z0k (Z0b lb (lo i hi _ (.inr rfl)))⟩;obtain⟨k1,sl,k2⟩:=k b o e;obtain⟨_,sl',j2⟩:=x.keep b _ k2 nb (λq=>q);refine⟨λhS=>(x.keep b o (k1 hS) nb (λq=>q)).1 λq=>?_,sl',j2⟩;unfold frs at q;rw[List.filterMap_cons,hf] at q;rcases List.mem_cons.mp q with q | q
  . exact absurd (q.trans e3) (Z0k lb)
  . exact hS q,Z0c hz x.size⟩
theorem B6e[Og s og](G:GT w T1 cc0 gv mg mb A0 K)(hD:D<recursionLimit)(hr:SoAll og w T1 cc0 gv A0 pc K D U (run T1 P1 (n+20)) (n+20)){fa:Addr}{full:Tx}{t:Tok}{ts:List (Tk × Nat)}{R:Result->Shared->Prop}(fo:FnOk gv cc0 K N8 fa)(ca:CA D U (n+22) A fs)(sy:A0.StaysIn s.heap)(fr:s.heap.FunFrames A0 fs)(hl:full.length<=D4)
 (sc:Scan (n+20) [] full 0 ts) (hn:ts.length<=1000000)
 (hR:∀s' Θ,Read gv A0 Θ (frs fs) noX fs s.heap.objs.size s.heap s'.heap ts->(∀i,i<2->∀z,z=Θ.a i\/z=Θ.d i->s.heap.objs.size<=z)->∀ [Og s' og],R (.ok (.ret (.ref (Θ.a 1)))) s') :
 codeAny (model pg w) A (.call (.ref fa) ⟨[.str (sOf full) t],[]⟩) R s:=by
 refine B3d G hD hr fo ca sy fr hl λA' env ra s' Θ fo' ca' hf e3 J st lo kp hz=>?_
 intro J
 refine C34 (n:=n+12) G hD hr fo' ca' st sc hn λs'' r=>?_
 intro J
 refine B4 r.ex λvs e l1 wd=>?_
 exact hR s'' Θ ⟨r.stays,r.frames.2.2,Ext.join2 kp hz r.ext hf e3 lo,vs,e,l1,(wd.lo hz).sub λb hb=>F5 hb⟩ lo
theorem C5m[Og s og](G:GT w T1 cc0 gv mg mb A0 K)(hD:D<recursionLimit)(hr:SoAll og w T1 cc0 gv A0 pc K D U (run T1 P1 (n+20)) (n+20)){fa:Addr}{full:Tx}{t:Tok}{q:Nat}{R:Result->Shared->Prop}(fo:FnOk gv cc0 K N8 fa)(ca:CA D U (n+22) A fs)(sy:A0.StaysIn s.heap)(fr:s.heap.FunFrames A0 fs)(hl:full.length<=1000000)
 (sc:ScanX (n+20) [] full 0 q)
 (hR:∀Θ' n' e s' Θ,A0.StaysIn s'.heap->s'.heap.FunFrames A0 fs->Ext (frs fs) noX Θ 2 s.heap Θ 2 s'.heap->(∀i,i<2->∀z,z=Θ.a i\/z=Θ.d i->s.heap.objs.size<=z)->H9 gv A0 s.heap.objs.size pc Θ' n' .none (.int (.ofNat q)) e s'.heap->∀ [Og s' og],R (.error (.ref e)) s') :
 codeAny (model pg w) A (.call (.ref fa) ⟨[.str (sOf full) t],[]⟩) R s:=by
 refine B3d G hD hr fo ca sy fr (by unfold D4;refine Z0c (by assumption) ?_;decide) λA' env ra s' Θ fo' ca' hf e3 hfr st lo kp hz=>?_
 intro J
 refine C4w (n:=n+12) G hD hr fo' ca' st sc hl λΘ' n' e s'' sy' fr' X xh=>?_
 intro J
 have e2:env.frame=some s.heap.objs.size:=hf.trans (by rw[e3])
 haveI X2:=Ext.join2 kp hz X hf e3 lo
 refine A50 (H:=HE) (Θ:=Θ') (L:=env.locals) (outer:=fs) hfr (by rw[e2,e3]) (St.none sy' fr') (xh.is (L:=env.locals)) λh' st' kp' xh'=>?_
 exact hR Θ' n' e _ Θ st'.stays st'.frames (X2.left (h₀:=s'.heap) e2 kp' hz) lo (xh'.mono hz)
end
section
set_option maxRecDepth 1000000
theorem B5e:C5 O4 A7p=true:=by kernel_rfl
theorem C1i:C5 pcs A6j=true:=by kernel_rfl
theorem B9f:C5 pcw A6j=true:=by kernel_rfl
theorem D6d:C5 pvs C2l=true:=by kernel_rfl
theorem C4c:C5 G9 B1k=true:=by kernel_rfl
theorem D41:C5 M8 C5e=true:=by kernel_rfl
theorem C3q:D0j=true:=by kernel_rfl
end
theorem C0{α:Type}{p:α->Bool}{l:List α}(h:C5 l p=true)(a:α)(m:a∈l):p a=true:=by
 induction l with
 |nil=>exact nomatch m
 |cons b l ih=>exact(A5 (b:=p b) (f:=C5 l p) h).elim λh1 h2=>(List.mem_cons.mp m).elim (λq=>q▸h1) (ih h2)
inductive Fol:Tx->Prop
 |nil:Fol []
 |cons {c:Nat} {r:Tx} (h:c∈A1a):Fol (c :: r)
noncomputable def A8e(v:V):Bool:=match v with | .none=>true | .str _=>true | .int _=>true | .bytes _=>true | _=>false
theorem B6q{v:V}(h:A8e v=true):Cl0 v:=by
 cases v <;> first | (cases h;done) | exact .none | exact .str _ | exact .int _ | exact .bytes _
theorem D1k:C5 pcs (λp=>A8e p.tk.val)=true:=rfl
theorem C1y:C5 pcw (λp=>A8e p.tk.val)=true:=rfl
structure Said(told:Tx)(t:Tk)(gr gr':Nat):Prop where
 ok:∃g g',okT told t g g'=true/\Gr2 gr gr' g g'
 le:gr'<=1000
 cl:Cl0 t.val
theorem Said.pos{told:Tx}{t:Tk}{gr gr':Nat}(S:Said told t gr gr'):1<=told.length:=by
 refine B4 S.ok λg g' h J=>?_;obtain⟨_,h⟩:=A5 h;obtain⟨_,h⟩:=A5 h;rw[C8,D0,decide_eq_true_eq] at h;exact h
theorem A8n{p:Pc}{gr:Nat}(h:p∈pcs\/p∈pcw)(hg:gr<=1000):Said p.told p.tk gr gr:=by
 have e:A6j p=true:=by
  rcases h with h | h
  . exact C0 C1i p h
  . exact C0 B9f p h
 exact⟨⟨_,_,e, .sym rfl⟩,hg,by
  rcases h with h | h
  . exact B6q (C0 D1k p h)
  . exact B6q (C0 C1y p h)⟩
theorem B8m{p:Pv}(h:p∈pvs):Said p.told ⟨V6,[], .int (.ofNat p.num)⟩ p.gr p.gr2:=by
 refine A8 (A5 (show bB _ _ false=true from C0 D6d p h)) λe z=>?_;rw[C8,decide_eq_true_eq] at z;exact⟨⟨_,_,e, .num⟩,z, .int _⟩
theorem Said.win{told:Tx}{t:Tk}{gr gr':Nat}{rest:Tx}(S:Said told t gr gr')(hf:Fol rest):∃s suf o g g',win NW 4 s o told.length [(t,0)] g g'=true/\Gr2 gr gr' g g'/\(o=true\/suf= [])/\told.length<=s.length/\told ++ rest=s ++ suf/\s.take told.length=told/\s.drop told.length ++ suf=rest:=by
 refine B4 S.ok λg g' h hg=>?_;obtain⟨h1,h⟩:=A5 h;obtain⟨h2,_⟩:=A5 h;cases hf with
 |nil=>exact D7m told ([]) false g g' (by rw[<-D0];exact h2) hg (.inr rfl) (Z0g _) rfl Z3p (by rw[List.drop_length];rfl)
 | @cons c r hc=>
  have:=C0 h1 c hc;rw[Q1,D0] at this;refine⟨told ++ [c],r,true,g,g',this,hg, .inl rfl,by rw[List.length_append];exact(Nat.le_add_right _ _),by rw[List.append_assoc];rfl,List.take_left ..,?_⟩;rw[List.drop_left ..];rfl
theorem Scan.word{told:Tx}{t:Tk}{gr gr':Nat}{pre rest:Tx}{ts:List (Tk × Nat)}(S:Said told t gr gr')(hf:Fol rest)(next:Scan NW (pre ++ told) rest gr' ts):Scan NW pre (told ++ rest) gr ((t,pre.length) :: ts):=by
 refine B4d (S.win hf) λs suf o g g' h hg ho hj he e1 e2=>?_;exact .win 4 h hg S.le ho hj he (by rw[e1,e2];exact next)
theorem ScanX.word{told:Tx}{t:Tk}{gr gr' q:Nat}{pre rest:Tx}(S:Said told t gr gr')(hf:Fol rest)(next:ScanX NW (pre ++ told) rest gr' q):ScanX NW pre (told ++ rest) gr q:=by
 refine B4d (S.win hf) λs suf o g g' h hg ho hj he e1 e2=>?_;exact .win 4 h hg S.le ho hj he S.pos (by rw[e1,e2];exact next)
theorem Scan.gap{g:Tx}{gr:Nat}{pre rest:Tx}{ts:List (Tk × Nat)}(h:g∈O4)(hg:gr<=1000)(next:Scan NW (pre ++ g) rest gr ts):Scan NW pre (g ++ rest) gr ts:=by
 haveI e:=C0 B5e g h;unfold A7p at e;rw[D0] at e;exact .win 8 e (.sym rfl) hg (.inl rfl) (Z0g _) rfl (by rw[Z3p,List.drop_length];exact next)
theorem ScanX.gap{g:Tx}{gr q:Nat}{pre rest:Tx}(h:g∈O4)(hg:gr<=1000)(next:ScanX NW (pre ++ g) rest gr q):ScanX NW pre (g ++ rest) gr q:=by
 haveI e:=C0 B5e g h;unfold A7p at e;rw[D0] at e;exact .win 8 e (.sym rfl) hg (.inl rfl) (Z0g _) rfl (Z1y _) (by rw[Z3p,List.drop_length];exact next)
theorem Scan.tail{s:Tx}{gr:Nat}{pre:Tx}(h:s∈G9):Scan NW pre s gr [(E7,pre.length+s.length)]:=by
 haveI e:=C0 C4c s h;unfold B1k at e;rw[D0] at e;exact .fin 8 e .sym
theorem Scan.semi{gr:Nat}{pre:Tx}:Scan NW pre Y8 gr [(O5,pre.length+1),(O5,pre.length+3),(E7,pre.length+4)]:= .fin 8 C3q .sym
theorem ScanX.bad{s:Tx}{gr:Nat}{pre:Tx}(h:s∈M8):ScanX NW pre (32 :: s) gr (pre.length+1):= .fin 8 (C0 D41 s h) .sym
structure Turn where
 gap:Tx
 told:Tx
 tk:Tk
 gr:Nat
def D9:Nat->List Turn->Prop
 |_,[]=>True
 |gr,t :: l=>t.gap∈O4/\Said t.told t.tk gr t.gr/\gr<=1000/\D9 t.gr l
noncomputable def A3:List Turn->Tx
 | []=> []
 |t :: l=>t.gap ++ (t.told ++ A3 l)
noncomputable def B6:Nat->List Turn->List (Tk × Nat)
 |_,[]=> []
 |p,t :: l=>(t.tk,p+t.gap.length) :: B6 (p+t.gap.length+t.told.length) l
noncomputable def G3:Nat->List Turn->Nat
 |gr,[]=>gr
 |_,t :: l=>G3 t.gr l
theorem D1y{g r:Tx}(h:g∈O4):Fol (g ++ r):=by
 haveI:C5 O4 (λg=>match g with | []=>false | c :: _=>A1a.contains c)=true:=rfl
 haveI:=C0 this g h;clear h;cases g with
 |nil=>exact ff this
 |cons c g=>exact .cons (by simpa using this)
theorem B7d{l:List Turn}{gr:Nat}{r:Tx}(h:D9 gr l)(hr:Fol r):Fol (A3 l ++ r):=by
 cases l with
 |nil=>exact hr
 |cons t l=>
  show Fol ((t.gap ++ (t.told ++ A3 l)) ++ r);rw[List.append_assoc];exact D1y h.1
theorem Scan.turns{ts:List (Tk × Nat)}{r:Tx}(hr:Fol r):∀{l:List Turn} {gr:Nat} {pre:Tx},D9 gr l->Scan NW (pre ++ A3 l) r (G3 gr l) ts->Scan NW pre (A3 l ++ r) gr (B6 pre.length l ++ ts)
 | [],gr,pre,_,h=>by rw[show A3 []= [] from rfl,List.append_nil] at h;exact h
 |t :: l,gr,pre,h,n=>by
  show Scan NW pre ((t.gap ++ (t.told ++ A3 l)) ++ r) gr _;rw[List.append_assoc,List.append_assoc];refine .gap h.1 h.2.2.1 ?_;haveI:=Scan.word (pre:=pre ++ t.gap) (ts:=B6 (pre.length+t.gap.length+t.told.length) l ++ ts) h.2.1 (B7d h.2.2.2 hr) ?_
  . rw[List.length_append] at this;exact this
  . have z:=Scan.turns (ts:=ts) hr (pre:=pre ++ t.gap ++ t.told) h.2.2.2 (by
     haveI e:pre ++ A3 (t :: l)=pre ++ t.gap ++ t.told ++ A3 l:=by show pre ++ (t.gap ++ (t.told ++ A3 l))=_;simp only[List.append_assoc]
     rw[<-e];exact n)
    rw[List.length_append,List.length_append] at z;exact z
theorem ScanX.turns{q:Nat}{r:Tx}(hr:Fol r):∀{l:List Turn} {gr:Nat} {pre:Tx},D9 gr l->ScanX NW (pre ++ A3 l) r (G3 gr l) q->ScanX NW pre (A3 l ++ r) gr q
 | [],gr,pre,_,h=>by rw[show A3 []= [] from rfl,List.append_nil] at h;exact h
 |t :: l,gr,pre,h,n=>by
  show ScanX NW pre ((t.gap ++ (t.told ++ A3 l)) ++ r) gr _;rw[List.append_assoc,List.append_assoc];refine .gap h.1 h.2.2.1 (.word h.2.1 (B7d h.2.2.2 hr) (ScanX.turns hr h.2.2.2 ?_));haveI e:pre ++ A3 (t :: l)=pre ++ t.gap ++ t.told ++ A3 l:=by show pre ++ (t.gap ++ (t.told ++ A3 l))=_;simp only[List.append_assoc]
  rw[<-e];exact n
theorem G2:∀(l:List Turn) (n:Nat),(B6 n l).length=l.length
 | [],_=>rfl
 |_ :: l,n=>by show(B6 _ l).length+1=_;rw[G2 l];rfl
theorem A5j(l l':List Turn)(n:Nat):B6 n (l ++ l')=B6 n l ++ B6 (n+(A3 l).length) l':=by
 induction l generalizing n with
 |nil=>rfl
 |cons t l ih=>
  show _ :: B6 _ (l ++ l')=_ :: (B6 _ l ++ B6 (n+(t.gap ++ (t.told ++ A3 l)).length) l');rw[ih,List.length_append,List.length_append,<-Nat.add_assoc,<-Nat.add_assoc]
theorem A1l{α:Type}{p:α->Bool}{l:List α}(h:Y6 p l=true):∃a∈l,p a=true:=by
 induction l with
 |nil=>exact ff h
 |cons b l ih=>exact(bBb (b:=p b) h).elim (λh=>⟨b, .head _,h.1⟩) λh=>(ih h).elim λa q=>⟨a, .tail _ q.1,q.2⟩
theorem A2d{a b:V}(h:eqV a b=true):a=b/\∀{gv:Nat->Option Value} {Θ Θ':Th} {n n':Nat} {cv:Value},VR gv Θ n b cv->VR gv Θ' n' b cv:=by
 refine⟨(A89 h).1,?_⟩;cases (A89 h).2 <;> exact λx=>x
def W9(g:Nat)(told:Tx)(t:Tk):Prop:=(⟨told,t⟩:Pc)∈pcs\/∃p∈pvs,p.gr=g/\p.told=told/\t=⟨V6,[], .int (.ofNat p.num)⟩
def T3(v:V):Prop:=∀{gv:Nat->Option Value} {Θ Θ':Th} {n n':Nat} {cv:Value},VR gv Θ n v cv->VR gv Θ' n' v cv
theorem A6u{told kind great:Tx}{v:V}{g:Nat}(h:A33 told kind great v=true):∃t,W9 g told t/\t.kind=kind/\t.text=great/\t.val=v/\T3 v:=by
 refine A1 (A1l h) λp hm h=>?_;obtain⟨h1,h⟩:=A5 h;obtain⟨h2,h⟩:=A5 h;obtain⟨h3,h⟩:=A5 h;rw[J1,decide_eq_true_eq] at h1 h2 h3;obtain⟨h4,h5⟩:=A2d h;exact A6l p.tk (.inl (by rw[<-h1];exact hm)) h2 h3 h4 h5
theorem C9z{told great:Tx}{v:V}{g:Nat}(h:B6k g told great v=true):∃t,W9 g told t/\t.kind=V6/\t.text=great/\t.val=v/\T3 v:=by
 refine A8 (A5 h) λh0 h=>?_;refine A1 (A1l h) λp hm h=>?_;obtain⟨h1,h⟩:=A5 h;obtain⟨h2,h⟩:=A5 h;rw[J1,decide_eq_true_eq] at h2;obtain⟨h4,h5⟩:=A2d h;refine A6l _ (.inr ⟨p,hm,Z0e h1,h2,rfl⟩) rfl (?_) h4 h5;cases great with
 |nil=>rfl
 |cons _ _=>exact ff h0
theorem B5g{o:Option O}{f:Tx->Tx->Tx->V->Bool}(h:A93 o f=true):∃a b c d,o=some (.tuple [.str a, .str b, .str c,d])/\f a b c d=true:=by
 exact F6 h λo h=>A8d h λl h=>I4 h λa l h=>O8 h λa h=>I4 h λb l h=>O8 h λb h=>I4 h λc l h=>O8 h λc h=>I4 h λd l h=>U8 h λh=>⟨a,b,c,d,rfl,h⟩
theorem D4v{g:Nat}{v:V}{H:Hp}(h:A57 g v H=true):∃a told t,v= .ref a/\H.get a=some (.tuple [.str told, .str t.kind, .str t.text,t.val])/\W9 g told t/\T3 t.val:=by
 refine P4 h λa h=>A74 (B5g h) λtold kind great d e h=>(bBb h).elim (λh=>?_) λh=>?_
 . refine A0e (C9z h.2) λt h1 h2 q'1 q'2 h5=>?_;subst q'1;subst q'2;exact X6 a told t rfl (by rw[e,Z3.mp h.1,h2]) h1 h5
 . refine A0e (A6u (g:=g) h) λt h1 q'3 q'4 q'5 h5=>?_;subst q'3;subst q'4;subst q'5;exact X6 a told t rfl e h1 h5
theorem D4h{g:Nat}{v:V}{H:Hp}(h:pcO v H=true):∃a told t,v= .ref a/\H.get a=some (.tuple [.str told, .str t.kind, .str t.text,t.val])/\W9 g told t/\T3 t.val:=by
 refine P4 h λa h=>A74 (B5g h) λtold kind great d e h=>A0e (A6u (g:=g) h) λt h1 q'6 q'7 q'8 h5=>?_;subst q'6;subst q'7;subst q'8;exact X6 a told t rfl e h1 h5
theorem A1i{l:List Tx}{v:V}{H:Hp}(h:Y4 l v H=true):∃s∈l,v= .str s:=by
 exact O8 h λs h=>A1 (A1l h) λa m e=>⟨a,m,congrArg V.str (Z3.mp e)⟩
theorem D48:C5 A11 (λt=>Nat.ble t.length 1000)=true:=rfl
theorem D1b:C5 A5s (λt=>Nat.ble t.length 1000)=true:=rfl
theorem D26:lkS "_law_quoted" cc0.glob=some (.glob 11):=rfl
theorem B09:lkS "_law_take" cc0.glob=some (.glob 14):=rfl
section
variable{K:Frag}
variable{S:Addr}{Q:Value->Shared->Prop}
theorem P8{pos:Pos}{env:Env}:∀(as:List Expr),backTo pos (as.map λe=>(false,eval e env))=as.map λe=>(false,eval e env)
 | []=>rfl
 |a :: r=>by
  haveI:=P8 (pos:=pos) (env:=env) r;unfold backTo at this ⊢;rw[List.map_cons,List.map_cons,this];rfl
theorem N2{x:Str}{k j:Nat}{fa:Addr}{as:List Expr}{p pos:Pos}(G:GT w T1 cc0 gv mg mb A0 K)(cx:Cx D U n A env outer)(hp:B3 x env.scope.names 0=some (k, .globalImplicit))(hl:lkS x cc0.glob=some (.glob j))(hg:gv j=some (.ref fa))(hk:keepIn K (.ref fa)=true)(sy:A0.StaysIn s.heap)(hst:as.any B7=false)
 (h:wpAny (model pg w) A (spliced (as.map λe=>(false,eval e env))) (λvs s'=>A0.StaysIn s'.heap/\codeAny (model pg w) A (.call (.ref fa) ⟨vs,[]⟩) (B33 Q E) s') E s):wpAny (model pg w) A (eval (.Call (.Name x p) as [] pos) env) Q E s:=by
 refine Z3f (A13 G cx hp hl sy λc hc=>?_)
 haveI:gv j=some c:=hc ⟨λJ=>0,λJ=>0,λJ=>gh0⟩ 0
 clear hl sy hc
 obtain rfl: .ref fa=c:=Z0a (hg.symm.trans this)
 refine M4 (N0 hst).1 ?_
 rw[J8 hst,P8]
 exact Z1c h (λvs s' h'=>⟨U7 hk (G.kin.keeps h'.1),Z2g h'.2⟩) λJ J e=>e
theorem A7i[Og s og](G:GT w T1 cc0 gv mg mb A0 K)(hD:D<recursionLimit)(d:Hd A0 S env outer m s.heap)(cx:Cx D U (n+1) A env outer){fa:Addr}(hg:gv 11=some (.ref fa))(raw:FnRaw gv cc0 K (A4 11) [0,1,2] [] fa){k1 k2 k3 kk:Nat}{x qs:Str}{q:Nat}{t:Tx}{tt:Tok}{p1 p2 p3 p4 pos:Pos}
 (ht:1<=s.toks) (h1:B3 "_law_quoted" env.scope.names 0=some (k1, .globalImplicit)) (h2:B3 "source" env.scope.names 0=some (k2, .local)) (h3:B3 x env.scope.names 0=some (k3, .local)) (ms:m "source" = some (.ref S)) (mx:m x=some (.str (sOf t) tt)) (e:qs=sOf [q]) (hl:t.length<=1000) (hq:okQ q t=true)
 (k:∀t' s',1<=s'.toks->(∀b o,s.heap.get? b=some o->s'.heap.get? b=some o)->s.heap.objs.size<=s'.heap.objs.size->∀ [Og s' og],Q (.str (sOf (q :: (dbl q t ++ [q]))) t') s'):wpAny (model pg w) A (eval (.Call (.Name "_law_quoted" p1) [.Name "source" p2, .Constant (.str qs) kk p3, .Name x p4] [] pos) env) Q E s:=by
 subst e
 refine N2 G cx h1 D26 hg raw.keep d.stays rfl (Z0n (A9 cx h2 d.ns ms (Z0n ?_)))
 refine Z2i (Z0n (A9 (s:={s with toks:=s.toks+1}) cx h3 d.ns mx (Z0x ⟨d.stays,?_⟩)))
 refine codeAny_with_toks (n:=1) (s:={s with toks:=s.toks+1}) (by show 1<=s.toks+1;lia) ?_
 exact C7i (s:={s with toks:=s.toks+1}) G hD raw (cx.ca.low (by lia)) d.st ht (Z0v _) hl hq λt' s' kp hz=>(λht'=>k t' s' ht' kp hz)
end
noncomputable def lt9(v:V)(_:Hp):Bool:=A9u v λn=>Nat.ble n 8
theorem D06{kx:K}:P3 14 [.ref 0, .int (.ofNat 9)] HP (kp0 lt9) kx=some true:=rfl
theorem C84{v:V}{H:Hp}(h:lt9 v H=true):∃n,v= .int (.ofNat n)/\n<=8:=by
 exact B18 h λn h=>⟨n,rfl,Z0l h⟩
section
variable{K:Frag}
variable{S:Addr}{Q:Value->Shared->Prop}
theorem Hd.enter(st:St gv an0 A0 (ΘP S) HP (env :: fs) h)(hn:h.Ns env.locals m)(low:A0.get? S=none):Hd A0 S env fs m h:=
 ⟨st.stays,st.frames,hn,K3 (Θ:=ΘP S) st (by simp only[A2j];rfl) (by rw[C6];decide),low,λhL=>(st.apart 0 (by rw[C6];decide) S hL).1 rfl⟩
theorem Hd.next{Θ':Th}{H':Hp}(d:Hd A0 S env outer m h)(hf:env.frame=some env.locals)(X:Ext (frs (env :: outer)) noX (ΘP S) HP.n h Θ' H'.n h')(st:St gv an0 A0 Θ' H' (env :: outer) h')(z:K5 (H'.get 0)=true):Lx S env.locals outer h h'/\Hd A0 S env outer m h':=by
 have h0:Θ'.a 0=S:=(X.same 0 (by rw[C6];exact(by decide))).1;have hn:0<H'.n:=Z0b (by rw[C6];exact(by decide)) X.le;exact⟨Lx.ext hf X,st.stays,st.frames,X.ns d.ns (λi J=>⟨(d.ne hf).symm,(d.ne hf).symm⟩) (λq=>q),h0▸K3 st z hn,d.low,d.nf⟩
theorem Lx.on{L:Addr}(x:Lx S L fs h h')(y:∀b o,b<h.objs.size->h'.get? b=some o->b≠S->b≠L->(b∉frs fs->h''.get? b=some o)/\∃sl,h''.get? b=some {o with slots:=sl})(hz:h'.objs.size<=h''.objs.size):Lx S L fs h h'':=
 ⟨λb o e h1 h2=>by
  obtain⟨k1,sl,k2⟩:=x.keep b o e h1 h2;haveI lb:=Z0i e;obtain⟨_,sl',j2⟩:=y b _ lb k2 h1 h2;exact⟨λhf=>(y b o lb (k1 hf) h1 h2).1 hf,sl',j2⟩,Z0c x.size hz⟩
structure PcAt(gv:Nat->Option Value)(h:Heap)(x:Addr)(g:Nat)(told:Tx)(t:Tk):Prop where
 ok:W9 g told t
 pl:T3 t.val
 ex:∃vs e,IsT h x vs e/\∀Θ n,VRs gv Θ n [.str told, .str t.kind, .str t.text,t.val] vs.toList
theorem C0l{Θ Θ':Th}{n n':Nat}{a b c:Tx}{d:V}{vs:List Value}(hp:T3 d)(x:VRs gv Θ n [.str a, .str b, .str c,d] vs):VRs gv Θ' n' [.str a, .str b, .str c,d] vs:=by
 rcases vs with _ | ⟨v1,_ | ⟨v2,_ | ⟨v3,_ | ⟨v4,_ | ⟨_,_⟩⟩⟩⟩⟩ <;> first | exact x.elim | skip
 . exact x.2.elim
 . exact x.2.2.elim
 . exact x.2.2.2.elim
 . exact A1o x.1 x.2.1 x.2.2.1 (hp x.2.2.2.1) trivial
 . exact x.2.2.2.2.elim
theorem B63{Θ':Th}{H':Hp}{hs:Heap}{a g:Nat}{told:Tx}{t:Tk}{cv:Value}{n0:Nat}{Sl:List Addr}{X:Addr->Prop}{Θ:Th}(st:St gv an0 A0 Θ' H' fs h)(x:Ext Sl X Θ n0 hs Θ' H'.n h)(h0:H'.get 0=some .pool)(hh:∀i,i<n0->H'.get i≠H'.get a)(e:H'.get a=some (.tuple [.str told, .str t.kind, .str t.text,t.val]))(ok:W9 g told t)(pl:T3 t.val)(vr:VR gv Θ' H'.n (.ref a) cv) :
 ∃y,cv= .ref y/\hs.objs.size<=y/\PcAt gv h y g told t:=by
 obtain⟨ha,rfl⟩:=vr
 obtain⟨o,eo,vs,ep,l,v⟩:∃o,H'.get a=some o/\∃vs ep,IsT h (Θ'.a a) vs ep/\VRs gv Θ' H'.n [.str told, .str t.kind, .str t.text,t.val] vs.toList:=by
  refine A1 (st.obj a ha) λo eo r=>?_;obtain rfl:=Z0a (eo.symm.trans e);refine B4 r λvs ep l v=>?_;exact⟨_,eo,vs,ep,l,v⟩
 refine⟨_,rfl,?_,ok,pl,vs,ep,l,λΘ n=>C0l pl v⟩
 by_cases q:a<n0
 . exact absurd rfl (hh a q)
 . exact x.new a (Z1g.mp q) ha _ (.inl rfl)
end
theorem B2l{c:Prop}[Decidable c](h:¬c){M:Model}{A:Around}{env:Env}{b o:List Stmt}{Q:Flow->Shared->Prop}{E:Value->Shared->Prop}{s:Shared}(k:wpAny M A (execs o env) Q E s):if decide c=true then wpAny M A (execs b env) Q E s else wpAny M A (execs o env) Q E s:=by
 rw[Z1h h,Z0m (by decide)];exact k
section
variable{K:Frag}
variable{S:Addr}{Q:Flow->Shared->Prop}
def A9m:List Stmt:=(A4 9).body.drop 1
structure PEnd(A0:Heap)(S:Addr)(env:Env)(fs:List Env)(gv:Nat->Option Value)(g:Nat)(h₀:Heap)(x:Addr)(h:Heap):Prop where
 lo:h₀.objs.size<=x
 at':∃told t,PcAt gv h x g told t
 lx:Lx S env.locals fs h₀ h
 pool:Pool h S
 stays:A0.StaysIn h
 frames:h.FunFrames A0 (env :: fs)
theorem B8z[Og s og](hr:SoAll og w T1 cc0 gv A0 pc K D U (run T1 P3 NW) NW)(cx:Cx D U NW A env fs)(hsc:env.scope=(A4 9).scope){g k:Nat}{tg:Tok}{tk:Tok}(hg:g∈grs)(hk:k∈A3p)(d:Hd A0 S env fs m s.heap)(m1:m "source" = some (.ref S))(m2:m "greatest" = some (.int g tg))(m3:m "way" = some (.int k tk))
 (q:∀x s',PEnd A0 S env fs gv g s.heap x s'.heap->∀ [Og s' og],Q (.ret (.ref x)) s'):wpAny (model pg w) A (execs A9m env) Q E s:=by
 haveI chk:=C0 (C0 D3g g hg) k hk
 refine d.ss cx hr (fu:=39) (by rw[hsc];kernel_rfl) (show B0k g k=true from chk) (.cons (x:=Str.ofString "source") (kd:= .local) (gk hsc) m1 ⟨Z0v 0,rfl⟩ (.cons (x:=Str.ofString "greatest") (kd:= .local) (gk hsc) m2 ⟨_,rfl⟩ (.cons (x:=Str.ofString "way") (kd:= .local) (gk hsc) m3 ⟨_,rfl⟩ .nil))) ?_
 intro f l' H' Θ' cf s' hk lx pl a X fr e0 J
 cases fr with
 |next=>exact ff hk
 |ret vr=>
  refine R9 (D4v (show A57 g _ H'=true from hk)) λb told t q'1 e ok pln=>?_;subst q'1;obtain⟨y,rfl,lo,pa⟩:=B63 a.st X e0 (λi hi z=>by
   obtain rfl:i=0:=by simp only[C6] at hi;lia
   rw[e0,e] at z;cases z) e ok pln vr
  exact q y s' ⟨lo,⟨told,t,pa⟩,lx,pl,a.st.stays,a.st.frames⟩
theorem D78[Og s og](G:GT w T1 cc0 gv mg mb A0 K)(hD:D<recursionLimit)(hr:SoAll og w T1 cc0 gv A0 pc K D U (run T1 P3 NW) NW)(cx:Cx D U NW A env fs)(hsc:env.scope=(A4 9).scope){fa:Addr}(g11:gv 11=some (.ref fa))(raw:FnRaw gv cc0 K (A4 11) [0,1,2] [] fa){g:Nat}{tk:Tok}(d:Hd A0 S env fs m s.heap)(m1:m "source" = some (.ref S))(m3:m "way" = some (.int 4 tk))(ht:1<=s.toks)
 (q:∀x s',PEnd A0 S env fs gv g s.heap x s'.heap->∀ [Og s' og],Q (.ret (.ref x)) s'):wpAny (model pg w) A (execs A9m env) Q E s:=by
 conv=>arg 3;arg 1;whnf
 haveI p0:=pkl hsc "source" 0
 haveI p2:=pkl hsc "way" 2
 have p7:=pkl hsc "value" 7
 haveI p13:=pkg hsc "_law_quoted" 13
 refine Z0j (Z3b (Z1q (A9 cx p2 d.ns m3 (Z1k (lt_int (Z1a (B2l (by decide) (Z0f ?_))))))))
 refine Z0j (Z3b (Z1q (A9 (s:={s with toks:=_}) cx p2 d.ns m3 (Z1k (eq_int (Z1a ?_))))))
 refine Z0f ?_
 refine Z0j (Z3b (Z1q (A9 (s:={s with toks:=_}) cx p2 d.ns m3 (Z1k (eq_int (Z1a ?_))))))
 rw[Z0m (by decide)]
 refine Z0f ?_
 refine Z0j (Z3b (Z1q (A9 (s:={s with toks:=_}) cx p2 d.ns m3 (Z1k (eq_int (Z1a ?_))))))
 refine Z0j (Z1i (wpAny_with_toks (n:=1) (s:={s with toks:=_}) (by show 1<=s.toks+1+1+1+1;lia) (Hd.ev (s:={s with toks:=s.toks+1+1+1+1}) d cx hr (fu:=40) (by rw[hsc];kernel_rfl) C8u (.cons (x:=Str.ofString "source") (kd:= .local) (gk hsc) m1 ⟨Z0v 0,rfl⟩ .nil) ?_)))
 intro v H' Θ' cv s1 hk lx1 d1 st1 X1 vr1 J ht1
 refine A1 (A1i hk) λt tm q'2=>?_
 subst q'2
 obtain⟨tt,rfl⟩:=vr1
 refine d1.store cx p7 λh2 lx2 d2=>?_
 refine Z0j (Z1u (Z3c ?_))
 refine Z0n (A7i (s:={s1 with heap:=h2,toks:=s1.toks+1}) (q:=39) G hD d2 (cx.low (by show 1<=100;decide)) g11 raw (by show 1<=s1.toks+1;lia) p13 p0 p7 ((Z0m (by decide)).trans m1) (Z0p rfl) (rfl) (Z0l (C0 D1b t tm)) (C0 B9a t tm) λt3 s3 ht3 kp3 hz3=>?_)
 intro J
 refine Z0n ?_
 refine Z2i (Z0n ?_)
 rw[arm_eval_Constant]
 haveI d3:Hd A0 S env fs _ s3.heap:=d2.keeps kp3
 refine Z2i (Z0n (A9 (s:={s3 with toks:=_}) cx p7 d3.ns (Z0p rfl) (Z0x ⟨by rw[sizeLine_eq];show 4<=_;decide,?_⟩)))
 haveI c4:=C0 C5p t tm
 refine A0e (A6u (g:=g) c4) λtk4 ok e1 e2 e3 pl=>?_
 haveI kp:∀b o,h2.get? b=some o->(s3.heap.push {cls:= .type "tuple",data:= .seq [Value.str (sOf (39 :: (dbl 39 t ++ [39]))) t3, .str "text" s3.toks, .str "" (s3.toks+1), .str (sOf t) tt].toArray}).get? b=some o:=λb o e=>Z0h _ (kp3 b o e)
 refine q s3.heap.objs.size {s3 with heap:=_,toks:=_} ⟨Z0c lx1.size (Z0c lx2.size hz3),⟨_,tk4,ok,by rw[e3];exact pl,_,0,Z0r _ rfl,λΘ n=>?_⟩,?_,?_,?_,?_⟩
 . rw[e1,e2,e3,Q1]
   exact A1o ⟨_,rfl⟩ ⟨_,rfl⟩ ⟨_,rfl⟩ ⟨_,rfl⟩ trivial
 . exact(lx1.trans lx2).trans (Lx.keeps kp (by show _<=(s3.heap.push _).objs.size;rw[Heap.size_push];lia))
 . exact(d2.keeps kp).pool
 . exact(d2.keeps kp).stays
 . exact(d2.keeps kp).frames
end
section
variable{K:Frag}
variable{S:Addr}{Q:Flow->Shared->Prop}
theorem Hd.list1(d:Hd A0 S env fs m h){x:Nat}{vs:Array Value}{e:Nat}{xs:List V}(l:IsL h x vs e)(v:∀Θ n,VRs gv Θ n xs vs.toList)(hx:x≠S)(lo:A0.get? x=none)(hf:x∉frs (env :: fs)) :
 St gv an0 A0 ((ΘP S).set 1 x x gh0) (HP.new (.list xs)) (env :: fs) h:=by
 haveI:=(d.st).adopt (a:=x) (g:=gh0) (o:= .list xs) (by simp only[C6];decide) (Z0i l) lo hf (λi hi z hz=>?_) (by show 0+0<=_;decide) rfl ⟨vs,e,?_,v _ _⟩
 . exact this
 . clear d xs v lo
   rcases hz with rfl | rfl | ⟨j,hj,_⟩
   . exact hx.symm
   . exact hx.symm
   . exact absurd hj (Z0y j)
 . show IsL h (((ΘP S).set 1 x x gh0).a 1) vs e
   exact l
theorem Hd.new(d:Hd A0 S env fs m h){x:Nat}(hx:h.objs.size<=x):x≠S/\A0.get? x=none/\x∉frs (env :: fs):=by
 refine⟨λq=>?_,?_,λq=>?_⟩
 . haveI:=d.lt;rw[q] at hx;exact absurd (Z0b this hx) (Z1e _)
 . cases e:A0.get? x with
   |none=>rfl
   |some o=>exact absurd (Z0b (Z0i (d.stays _ _ e)) hx) (Z1e _)
 . exact absurd (Z0b (A4q d.frames q) hx) (Z1e _)
theorem C4i[Og s og](G:GT w T1 cc0 gv mg mb A0 K)(hD:D<recursionLimit)(hr:SoAll og w T1 cc0 gv A0 pc K D U (run T1 P3 NW) NW)(cx:Cx D U NW A env fs)(hsc:env.scope=(A4 9).scope){fa:Addr}(g11:gv 11=some (.ref fa))(raw:FnRaw gv cc0 K (A4 11) [0,1,2] [] fa){g:Nat}{tk:Tok}(d:Hd A0 S env fs m s.heap)(m1:m "source" = some (.ref S))(m3:m "way" = some (.int 2 tk))(ht:1<=s.toks)
 (q:∀x s',PEnd A0 S env fs gv g s.heap x s'.heap->∀ [Og s' og],Q (.ret (.ref x)) s'):wpAny (model pg w) A (execs A9m env) Q E s:=by
 conv=>arg 3;arg 1;whnf
 haveI p0:=pkl hsc "source" 0
 have p2:=pkl hsc "way" 2
 have p4:=pkl hsc "name" 4
 have p5:=pkl hsc "quotes" 5
 have p13:=pkg hsc "_law_quoted" 13
 refine Z0j (Z3b (Z1q (A9 cx p2 d.ns m3 (Z1k (lt_int (Z1a (B2l (by decide) (Z0f ?_))))))))
 refine Z0j (Z3b (Z1q (A9 (s:={s with toks:=_}) cx p2 d.ns m3 (Z1k (eq_int (Z1a ?_))))))
 refine Z0j (Z1i (wpAny_with_toks (n:=1) (s:={s with toks:=_}) (by show 1<=s.toks+1+1;lia) (Hd.ev (s:={s with toks:=s.toks+1+1}) d cx hr (fu:=40) (by rw[hsc];kernel_rfl) D4n (.cons (x:=Str.ofString "source") (kd:= .local) (gk hsc) m1 ⟨Z0v 0,rfl⟩ .nil) ?_)))
 intro v H' Θ' cv s1 hk lx1 d1 st1 X1 vr1 J ht1
 refine A1 (A1i hk) λt tm q'1=>?_
 subst q'1
 obtain⟨tt,rfl⟩:=vr1
 have tl:t.length<=1000:=Z0l (C0 D48 t tm)
 refine d1.store cx p4 λh2 lx2 d2=>?_
 refine Z0j (Z1i (Z3e ?_))
 refine Z0n (A7i (s:={s1 with heap:=h2,toks:=s1.toks+1}) (q:=34) G hD d2 (cx.low (by show 1<=100;decide)) g11 raw (by show 1<=s1.toks+1;lia) p13 p0 p4 ((Z0m (by decide)).trans m1) (Z0p rfl) (rfl) tl (C0 D77 t tm) λt3 s3 ht3 kp3 hz3=>?_)
 intro J
 haveI d3:Hd A0 S env fs _ s3.heap:=d2.keeps kp3
 refine Z0n (A7i (s:=s3) (q:=96) G hD d3 (cx.low (by show 1<=100;decide)) g11 raw ht3 p13 p0 p4 ((Z0m (by decide)).trans m1) (Z0p rfl) (rfl) tl (C0 C9x t tm) λt4 s4 ht4 kp4 hz4=>?_)
 intro J
 have d4:Hd A0 S env fs _ s4.heap:=d3.keeps kp4
 refine Z0n (Z1t (Z1t ?_))
 refine Z2i (A9 (s:={s4 with toks:=_}) cx p4 d4.ns (Z0p rfl) (Z4l (λt5 k5=>?_) (by rw[sizeLine_eq];show 1+t.length<=_;omega)))
 rw[arm_eval_Constant]
 refine Z2i (Z4l (λt6 k6=>Z0x ⟨by simp only[sizeLine_eq];show 3<=_;decide,?_⟩) ?_)
 . rw[show Str.ofString "[" = sOf [91] from rfl,show Str.ofString "]" = sOf [93] from rfl,J2,J2]
   haveI hz2:h2.objs.size<=s3.heap.objs.size:=hz3
   generalize eo:(⟨.type "list",Option.none, .seq [Value.str (sOf (34 :: (dbl 34 t ++ [34]))) t3, .str (sOf (96 :: (dbl 96 t ++ [96]))) t4, .str (sOf ([91] ++ t ++ [93])) t6].toArray,#[]⟩:Obj)=ob
   haveI d5:Hd A0 S env fs _ (s4.heap.push ob):=d4.keeps λb o e=>Z0h _ e
   refine d5.store (s:={s4 with heap:=s4.heap.push ob,toks:=k6}) cx p5 λh6 lx6 d6=>?_
   refine A7 (d4.new (Z0g s4.heap.objs.size)) λn1 n2 n3=>?_
   haveI lx5:Lx S env.locals fs h2 (s4.heap.push ob):=Lx.keeps (λb o e=>Z0h _ (kp4 b o (kp3 b o e))) (by rw[Heap.size_push];lia)
   haveI nL:s4.heap.objs.size≠env.locals:=λq=>n3 (q▸F2 cx.frame)
   haveI l5:IsL (s4.heap.push ob) s4.heap.objs.size #[Value.str (sOf (34 :: (dbl 34 t ++ [34]))) t3, .str (sOf (96 :: (dbl 96 t ++ [96]))) t4, .str (sOf ([91] ++ t ++ [93])) t6] 0:=by rw[<-eo];exact Z0r _ rfl
   haveI l6:=(lx6.keep _ _ l5 n1 nL).1 λq=>n3 (F5 q)
   haveI st6:=d6.list1 l6 (xs:= [.str (34 :: ap (dbl 34 t) [34]), .str (96 :: ap (dbl 96 t) [96]), .str (91 :: ap t [93])]) (λΘ n=>by simp only[Q1,Q1,Q1];exact T4 ⟨_,rfl⟩ ⟨_,rfl⟩ ⟨_,rfl⟩ trivial) n1 n2 n3
   have lxA:Lx S env.locals fs s.heap h6:=((lx1.trans lx2).trans lx5).trans lx6
   haveI chk:=C0 C8z t tm
   refine hr.ss 37 _ B6w [(0, .ref 0),(4, .str t),(5, .ref 1)] _ _ _ A env fs {s4 with heap:=h6,toks:=k6+1} _ _ _ (by rw[hsc];kernel_rfl) (show B7e t _ _=true from chk) cx ⟨st6,_,d6.ns,?_⟩ ?_ λJ J z=>(Z0u z).elim
   . refine .cons (x:=Str.ofString "source") (kd:= .local) (gk hsc) ((Z0m (by decide)).trans ((Z0m (by decide)).trans m1)) ⟨by show 0<2;decide,?_⟩ (.cons (x:=Str.ofString "name") (kd:= .local) (gk hsc) ((Z0m (by decide)).trans (Z0p rfl)) ⟨_,rfl⟩ (.cons (x:=Str.ofString "quotes") (kd:= .local) (gk hsc) (Z0p rfl) ⟨by show 1<2;decide,?_⟩ .nil))
     . rw[(Th.set_old (ΘP S) 1 _ _ gh0 0 (by omega)).1];rfl
     . rw[(Th.set_new (ΘP S) 1 _ _ gh0).1]
   . intro f l' H' hk Θ' cf s7 X a fr J
     obtain⟨z0,hk⟩:=A5 hk
     obtain⟨z1,hk⟩:=A5 hk
     cases fr with
     |next=>exact ff hk
     |ret vr=>
      have e0:=U2 z0;refine R9 (D4h (g:=g) (show pcO _ H'=true from hk)) λb told tk' q'3 e ok pln=>?_;subst q'3;haveI h0:Θ'.a 0=S:=by rw[(X.same 0 (by show 0<2;decide)).1,(Th.set_old (ΘP S) 1 _ _ gh0 0 (by decide)).1];rfl
      haveI hn:0<H'.n:=Z0b (by show 0<2;decide) X.le;obtain⟨y,rfl,lo,pa⟩:=B63 a.st X e0 (λi hi z=>by
       haveI:=two (i:=i) hi;rcases this with rfl | rfl
       . rw[e0,e] at z;cases z
       . rw[z,e] at z1;exact ff z1) e ok pln vr
      refine q y s7 ⟨Z0c lxA.size lo,⟨told,tk',pa⟩,lxA.on (λc o hc ec h1 h2=>?_) X.size,h0▸K3 a.st z0 hn,a.st.stays,a.st.frames⟩;have nc:c≠s4.heap.objs.size:=by
       haveI:s.heap.objs.size<=s4.heap.objs.size:=Z0c (lx1.trans lx2).size (Z0c hz2 hz4);lia
      obtain⟨j1,j2⟩:=X.keep c o ec (λi hi=>by
       have:=two (i:=i) hi;rcases this with rfl | rfl
       . rw[(Th.set_old (ΘP S) 1 _ _ gh0 0 (by decide)).1,(Th.set_old (ΘP S) 1 _ _ gh0 0 (by decide)).2.1];exact⟨h1,h1⟩
       . rw[(Th.set_new (ΘP S) 1 _ _ gh0).1,(Th.set_new (ΘP S) 1 _ _ gh0).2.1];exact⟨nc,nc⟩) h2
      exact⟨λhf=>j1 (F3 cx.frame h2 hf),j2⟩
 . rw[show Str.ofString "[" = sOf [91] from rfl,show Str.ofString "]" = sOf [93] from by kernel_rfl,J2,sizeLine_eq]
   show([91] ++ t).length+1<=_
   rw[List.length_append];show 1+t.length+1<=_;lia
end
section
variable{K:Frag}
variable{S:Addr}{Q:Flow->Shared->Prop}
theorem PEnd.from{g:Nat}{x:Addr}(q:PEnd A0 S env fs gv g h x h')(lx:Lx S env.locals fs h₀ h):PEnd A0 S env fs gv g h₀ x h':=⟨Z0c lx.size q.lo,q.at',lx.trans q.lx,q.pool,q.stays,q.frames⟩
theorem D5k[Og s og](G:GT w T1 cc0 gv mg mb A0 K)(hD:D<recursionLimit)(hr:SoAll og w T1 cc0 gv A0 pc K D U (run T1 P3 NW) NW)(pt:N9 og w T1 cc0 gv A0 pc K D U P3){f14 f11 f9:Addr}(g14:gv 14=some (.ref f14))(k14:keepIn K (.ref f14)=true)(g11:gv 11=some (.ref f11))(r11:FnRaw gv cc0 K (A4 11) [0,1,2] [] f11)(r9:FnRaw gv cc0 K (A4 9) [0,1] [] f9)
 (ca:CA D U (NW+1) A fs) (st:St gv an0 A0 (ΘP S) HP fs s.heap) (low:A0.get? S=none) {g:Nat} {tg:Tok} (hg:g∈grs)
 (k:∀y s' told t,s.heap.objs.size<=y->PcAt gv s'.heap y g told t->Lx S S fs s.heap s'.heap->Pool s'.heap S->A0.StaysIn s'.heap->s'.heap.FunFrames A0 fs->∀ [Og s' og],R (.ok (.ret (.ref y))) s'):codeAny (model pg w) A (.call (.ref f9) ⟨[.ref S, .int g tg],[]⟩) R s:=by
 refine N6 G hD r9 (vs:= [.ref 0, .int (.ofNat g)]) (l:= [(0, .ref 0),(1, .int (.ofNat g))]) rfl ca st ⟨⟨by rw[C6];decide,rfl⟩,⟨tg,rfl⟩,trivial⟩ λenv h₀ tk J hsc cx at' kp e3=>?_
 obtain⟨st',m,hn,F⟩:=at'
 refine D6 (F 0 "source" .local (.ref 0) (gk hsc) rfl) λc1 m1 J q'1=>?_
 subst q'1
 obtain⟨c2,m2,tg',rfl⟩:=F 1 "greatest" .local (.int (.ofNat g)) (gk hsc) rfl
 have d:Hd A0 S env fs m h₀:=Hd.enter st' hn low
 haveI hz:s.heap.objs.size<=h₀.objs.size:=Z0o (by rw[e3] at hn;exact hn.lt)
 haveI p0:=pkl hsc "source" 0
 haveI p2:=pkl hsc "way" 2
 haveI p10:=pkg hsc "_law_take" 10
 have fin:∀x s',PEnd A0 S env fs gv g h₀ x s'.heap->∀ [Og s' og],A18 R (.ret (.ref x)) s':=λx s' pe J=>by
  refine F9 pe.at' λtold t pa=>?_;exact k x s' told t (Z0c hz pe.lo) pa (pe.lx.leave kp hz e3) pe.pool pe.stays pe.frames.2.2
 conv=>arg 3;arg 1;whnf
 refine Z0j (Z1i (N2 (s:={s with heap:=h₀,toks:=tk}) G cx p10 B09 g14 k14 d.stays rfl (Z0n (A9 (s:={s with heap:=h₀,toks:=tk}) cx p0 d.ns m1 (Z0n (Z1k (Z0x ⟨d.stays,?_⟩)))))))
 refine codeAny_with_toks (n:=1) (s:={s with heap:=h₀,toks:=tk+1}) (by show 1<=tk+1;exact(Nat.le_add_left _ _)) ?_
 refine(pt 14 [.ref 0, .int (.ofNat 9)] HP (kp0 lt9) (λJ J=>false) D06 f14 _ (env :: fs) {s with heap:=h₀,toks:=tk+1} (ΘP S) [.ref S, .int 9 tk] _ g14 (cx.ca.low (Z1y _)) d.st ⟨⟨by rw[C6];assumption,rfl⟩,⟨_,rfl⟩,trivial⟩ ⟨λv H' hk Θ' cv s1 X st1 vr=>?_,λJ J z=>(Z0u z).elim⟩).1
 intro J ht1
 refine A8 (A5 hk) λz0 hk=>?_
 refine A1 (C84 hk) λk' q'3 hk8=>?_
 subst q'3
 obtain⟨tw,rfl⟩:=vr
 obtain⟨lx1,d1⟩:=d.next (h':=s1.heap) cx.frame X st1 z0
 refine d1.store cx p2 λh2 lx2 d2=>?_
 have n1:(λy=>if y=Str.ofString "way" then some (Value.int (Int.ofNat k') tw) else m y) "source" = some (.ref S):=(Z0m (by decide)).trans m1
 have n2:(λy=>if y=Str.ofString "way" then some (Value.int (Int.ofNat k') tw) else m y) "greatest" = some (.int g tg'):=(Z0m (by decide)).trans m2
 have n3:(λy=>if y=Str.ofString "way" then some (Value.int (Int.ofNat k') tw) else m y) "way" = some (.int k' tw):=Z0p rfl
 have lx:=lx1.trans lx2
 by_cases q2:k'=2
 . subst q2
   exact C4i (s:={s1 with heap:=h2,toks:=s1.toks+1}) G hD hr cx hsc g11 r11 (g:=g) d2 n1 n3 (by show 1<=s1.toks+1;exact(Nat.le_add_left _ _)) λx s' pe=>fin x s' (pe.from lx)
 by_cases q4:k'=4
 . subst q4
   exact D78 (s:={s1 with heap:=h2,toks:=s1.toks+1}) G hD hr cx hsc g11 r11 (g:=g) d2 n1 n3 (by show 1<=s1.toks+1;exact(Nat.le_add_left _ _)) λx s' pe=>fin x s' (pe.from lx)
 haveI hw:k'∈A3p:=(by decide:∀i,i<9->i≠2->i≠4->i∈A3p) k' (Z2y hk8) q2 q4
 exact B8z (s:={s1 with heap:=h2,toks:=s1.toks+1}) hr cx hsc hg hw d2 n1 n2 n3 λx s' pe=>fin x s' (pe.from lx)
end
section
set_option maxRecDepth 1000000
def A7t:Fn:=(BtG T1.fns 8).getD ⟨[],[], .nil⟩
def B1e:S:=A7t.body.q.b.q
def B4e(o:Option O)(f:V->V->Bool):Bool:=E8 o λo=>A35 o λl=>G7 l λa l=>G7 l λb l=>S4 l (f a b)
def B2h(o:Option O)(f:Tx->Tx->V->Bool):Bool:=E8 o λo=>A35 o λl=>G7 l λa l=>O0 a λa=>G7 l λb l=>O0 b λb=>G7 l λc l=>S4 l (f a b c)
def A6x(o:Option O)(f:V->Bool):Bool:=E8 o λo=>A61 o λl=>G7 l λa l=>S4 l (f a)
def B58(h:Hp)(a:V)(f:Nat->Tx->Tx->V->Bool):Bool:=N7 a λa=>B4e (h.get a) λb m=>N7 b λb=>Z8 m λg m=>bB (Nat.beq g 1) (B2h (h.get b) λkind great v=>f m kind great v) false
def A4c(v:Option V)(f:Tx->Bool):Bool:=E8 v λv=>A6a v λg s o=>bB (Nat.beq g 1) (bB o false (f s)) false
def A0f(i:Nat)(v:Option V):Bool:=E8 v λv=>N7 v λj=>Nat.beq i j
def B38(g:V)(v:Option V):Bool:=E8 v λv=>U4 g (λa=>U4 v λb=>ieq a b)||bPl g (λa b=>bPl v λc d=>bB (Nat.beq a c) (Nat.beq b d) false)
def HR:Hp:=HP.new (.log [])
noncomputable def B60(g:V):Loc:= [(0, .ref 0),(2, .txt 1 [] false),(3, .ref 1),(4,g)]
noncomputable def B2u(told kind great:Tx)(v g:V):Loc:= [(0, .ref 0),(2, .txt 1 [] false),(3, .ref 1),(4,g),(6, .str told),(7, .str kind),(8, .str great),(9,v)]
def A73(told kind great:Tx)(v g:V)(l:Loc)(h:Hp):Bool:=bB (A0f 0 (lkG 0 l)) (bB (A0f 1 (lkG 3 l)) (bB (B38 g (lkG 4 l)) (A6x (h.get 1) λa=>B58 h a λm kind' great' v'=>A4c (lkG 2 l) λs=>
 bB (teq kind kind') (bB (teq great great') (bB (eqV v v') (Y6 (λgp=>bB (teq s (ap gp told)) (Nat.beq m (len gp)) false) O4) false) false) false) false) false) false
def A1c(told kind great:Tx)(v g g':V):Bool:=(run T1 P3 NW).ss B1e (B2u told kind great v g) HR (λf l h=>bB (K5 (h.get 0)) (fl f (A73 told kind great v g' l h) λJ=>false) false) (λJ J=>false)
theorem D57:C5 pcs (λp=>A1c p.told p.tk.kind p.tk.text p.tk.val (.pl 1 0) (.pl 1 0))=true:=by kernel_rfl
theorem D0t:C5 pvs (λp=>A1c p.told V6 [] (.int (.ofNat p.num)) (.int (.ofNat p.gr)) (.int (.ofNat p.gr2)))=true:=by kernel_rfl
end
section
variable{K:Frag}
variable{S:Addr}{Q:Flow->Shared->Prop}
abbrev noE:Value->Shared->Prop:=λJ J=>False
theorem A68{x:Str}{p:Pos}{ss:List Stmt}{I:Addr}{fp wr:List Addr}{N:Nat}{PP:Nat->Value->Prop}{Stt:Nat->Heap->Prop}(W:Walks pg w A I fp wr N PP Stt)(Inv:Nat->Shared->Prop)
 (R6:∀j s cv h' tk,j<N->Inv j s->PP j cv->Stt (j+1) h'->(∀b o,b∉wr->s.heap.get? b=some o->h'.get? b=some o)->s.heap.objs.size<=h'.objs.size->
  wpAny (model pg w) A (storeName env x cv) (λJ s2=>wpAny (model pg w) A (execs ss env) (λf s3=>f= .next/\Inv (j+1) s3/\Stt (j+1) s3.heap) noE s2) noE {s with heap:=h',toks:=tk})
 (fin:∀s h' tk,Inv N s->(∀b o,b∉wr->s.heap.get? b=some o->h'.get? b=some o)->s.heap.objs.size<=h'.objs.size->Q .next {s with heap:=h',toks:=tk}) (k j:Nat) (s:Shared) (hN:j+k=N) (hi:Inv j s) (st:Stt j s.heap) :
 codeAny (model pg w) A (.forLoop (.Name x p) (.ref I) ss [] env) (N1 (model pg w) A env Q E) s:=by
 induction k generalizing j s with
 |zero=>
  obtain rfl:j=N:=hN;refine Z2v ?_;refine Z4x ?_;refine Z0d (Z1r (Z0d (Z4g ?_)));refine P7 (W.done s _ _ st λh' tk hk hz=>?_);exact Z0f ⟨rfl,codeAny_block (Z0f (fin s h' tk hi hk hz))⟩
 |succ k ih=>
  have lt:j<N:=hN▸Nat.lt_add_of_pos_right (Nat.succ_pos k);refine Z2v ?_;show wpAny _ A ((forTurn (.Name x p) (.ref I) ss [] env).onRaise (λx=>do noteFrame x env;theTreesLotGoes x)) _ _ s;refine Z4x ?_;simp only[forTurn];refine Z0d (Z1r (Z0d (Z4g ?_)));refine P7 (W.item j s _ _ lt st λcv h' tk hP st' hk hz=>?_);refine Z0d (wpAny_of_eq (a:=()) rfl ?_);refine Z0d (Z3m (Z1c (R6 j s cv h' tk lt hi hP st' hk hz) (λJ s2 h2=>?_) λJ J z=>z.elim));refine Z0d (Z1c h2 (λf s3 h3=>?_) λJ J z=>z.elim);refine A7 h3 λq'1 hi3 st3=>?_;clear h3;subst q'1;exact Z0f ⟨rfl,ih (j+1) s3 ((Nat.add_right_comm j 1 k).trans hN) hi3 st3⟩
theorem Hd.but(d:Hd A0 S env outer m h){wr:List Addr}(k:∀b o,b∉wr->h.get? b=some o->h'.get? b=some o)(hw:∀b,b∈wr->b≠S/\A0.get? b=none/\b∉frs (env :: outer))(hf:env.frame=some env.locals):Hd A0 S env outer m h':=by
 refine Y7 d.pool.ex λa b ta tb e l r=>?_;refine⟨λb o e=>k b o (λq=>by rw[(hw b q).2.1] at e;exact nn e) (d.stays b o e),W7 d.frames λe he L hL=>?_,d.ns.at λo eo=>k _ _ (λq=>(hw _ q).2.2 (F2 hf)) eo,⟨a,b,ta,tb,e,k _ _ (λq=>(hw _ q).1 rfl) l,r⟩,d.low,d.nf⟩;refine K6 (S6 d.frames e he) λL' o e1 e2 e3 e4=>?_;obtain rfl:L'=L:=by rw[e1] at hL;exact Z0a hL
 exact A6 o (k _ _ (λq=>(hw _ q).2.2 (Z2h.mpr ⟨e,he,e1⟩)) e3) e4
theorem Lx.but{L:Addr}{wr:List Addr}(x:Lx S L fs h h')(k:∀b o,b∉wr->h'.get? b=some o->h''.get? b=some o)(hw:∀b,b∈wr->h.objs.size<=b)(hz:h'.objs.size<=h''.objs.size):Lx S L fs h h'':=
 x.on (λb o hb e J J=>have q:=k b o (λq=>absurd (Z0b hb (hw b q)) (Z1e _)) e;⟨λJ=>q,o.slots,q⟩) hz
def ΘR(S R:Addr)(T:Tx)(front:List Value)(g:Int):Th:=(ΘP S).set 1 R R ⟨T,[],λJ=>g,front,0,λJ=>0,λJ=>0⟩
theorem H7:HR.n=2:=rfl
theorem Hd.listR(d:Hd A0 S env fs m h){R:Nat}{vs:Array Value}{e:Nat}{T:Tx}{g:Int}(l:IsL h R vs e)(hv:vs.size<=1000000)(hT:T.length<=D4)(hx:R≠S)(lo:A0.get? R=none)(hf:R∉frs (env :: fs)) :
 St gv an0 A0 (ΘR S R T vs.toList g) HR (env :: fs) h:=by
 refine(d.st).adopt (a:=R) (g:=⟨T,[],λJ=>g,vs.toList,0,λJ=>0,λJ=>0⟩) (o:= .log []) (by simp only[C6];decide) (Z0i l) lo hf (λi hi z hz=>?_) (by show T.length+0<=_;assumption) rfl ⟨vs,e,[],?_,?_,trivial,?_⟩
 . rcases hz with rfl | rfl | ⟨j,hj,_⟩
   . exact hx.symm
   . exact hx.symm
   . exact absurd hj (Z0y j)
 . exact l
 . rw[show HP.n=1 from rfl,(Th.set_new (ΘP S) 1 R R _).2.2,List.append_nil]
 . show vs.toList.length<=_
   rw[Array.length_toList];exact hv
theorem ΘR_0{R:Addr}{T:Tx}{v:List Value}{g:Int}:(ΘR S R T v g).a 0=S/\(ΘR S R T v g).d 0=S:=⟨(Th.set_old (ΘP S) 1 R R _ 0 (by decide)).1,(Th.set_old (ΘP S) 1 R R _ 0 (by decide)).2.1⟩
theorem ΘR_1{R:Addr}{T:Tx}{v:List Value}{g:Int}:(ΘR S R T v g).a 1=R/\(ΘR S R T v g).d 1=R/\(ΘR S R T v g).gh 1=⟨T,[],λJ=>g,v,0,λJ=>0,λJ=>0⟩:=Th.set_new (ΘP S) 1 R R _
theorem Ext.turn{R:Addr}{T:Tx}{v:List Value}{g:Int}{Θ':Th}{n':Nat}(x:Ext (frs (env :: fs)) (onL env) (ΘR S R T v g) HR.n h Θ' n' h')(hf:env.frame=some env.locals){b:Addr}{o:Obj}(e:h.get? b=some o)(h1:b≠S)(h2:b≠R)(h3:b≠env.locals):(b∉frs fs->h'.get? b=some o)/\∃sl,h'.get? b=some {o with slots:=sl}:=by
 obtain⟨j1,j2⟩:=x.keep b o e (λi hi=>by
  haveI:=two (i:=i) hi;rcases this with rfl | rfl
  . rw[ΘR_0.1,ΘR_0.2];exact⟨h1,h1⟩
  . rw[ΘR_1.1,ΘR_1.2.1];exact⟨h2,h2⟩) h3
 exact⟨λq=>j1 (F3 hf h3 q),j2⟩
end
theorem B51{t:Turn}{l:List Turn}{gr:Nat}(h:D9 gr l)(h1:t.gap∈O4)(h2:Said t.told t.tk (G3 gr l) t.gr)(h3:G3 gr l<=1000):D9 gr (l ++ [t])/\G3 gr (l ++ [t])=t.gr:=by
 induction l generalizing gr with
 |nil=>exact⟨⟨h1,h2,h3,trivial⟩,rfl⟩
 |cons u l ih=>exact(ih h.2.2.2 h2 h3).elim λa b=>⟨⟨h.1,h.2.1,h.2.2.1,a⟩,b⟩
theorem A8f:∀(l l':List Turn),A3 (l ++ l')=A3 l ++ A3 l'
 | [],_=>rfl
 |t :: l,l'=>by show t.gap ++ (t.told ++ A3 (l ++ l'))=(t.gap ++ (t.told ++ A3 l)) ++ A3 l';rw[A8f l l'];simp only[List.append_assoc]
theorem B81:C5 pcs (λp=>Nat.ble p.told.length 60)=true:=rfl
theorem B93:C5 pvs (λp=>Nat.ble p.told.length 60)=true:=rfl
theorem D3b:C5 pvs (λp=>bB (Nat.beq p.gr 999) (Nat.beq p.gr2 999) (bB (Nat.beq p.gr2 999) true (bB (Nat.ble p.gr2 5) true (Nat.ble p.gr2 (Nat.succ p.gr)))))=true:=rfl
theorem B6j:C5 O4 (λg=>Nat.ble g.length 30)=true:=rfl
inductive RowAt(gv:Nat->Option Value)(lo:Nat)(R I:Addr)(h:Heap)(v:Value)(t:Tk × Nat):Prop
 |mk (a b:Nat) (e1:Nat) (us:Array Value) (e2:Nat) (tt:Tok) (x1:v= .ref a) (x2:lo<a) (x3:lo<b) (x4:a≠R) (x5:b≠R) (x6:a≠I) (x7:b≠I) (x8:IsT h a #[.ref b, .int (t.2:Int) tt] e1) (x9:IsT h b us e2) (x10:∀Θ n,VRs gv Θ n [.str t.1.kind, .str t.1.text,t.1.val] us.toList)
theorem RowAt.keep{lo:Nat}{R I:Addr}{h h':Heap}{v:Value}{t:Tk × Nat}(x:RowAt gv lo R I h v t)(k:∀(z:Nat) o,h.get? z=some o->lo<z->z≠R->z≠I->h'.get? z=some o):RowAt gv lo R I h' v t:=by
 obtain⟨a,b,e1,us,e2,tt,q1,q2,q3,q4,q5,i1,i2,q6,q7,q8⟩:=x;exact⟨a,b,e1,us,e2,tt,q1,q2,q3,q4,q5,i1,i2,k _ _ q6 q2 q4 i1,k _ _ q7 q3 q5 i2,q8⟩
structure RowsAt(gv:Nat->Option Value)(lo:Nat)(R I:Addr)(h:Heap)(vs:List Value)(ts:List (Tk × Nat)):Prop where
 len:vs.length=ts.length
 at':∀(i:Nat) v t,vs[i]?=some v->ts[i]?=some t->RowAt gv lo R I h v t
theorem RowsAt.keep{lo:Nat}{R I:Addr}{h h':Heap}{vs:List Value}{ts:List (Tk × Nat)}(x:RowsAt gv lo R I h vs ts)(k:∀(z:Nat) o,h.get? z=some o->lo<z->z≠R->z≠I->h'.get? z=some o):RowsAt gv lo R I h' vs ts:=
 ⟨x.len,λi v t e1 e2=>(x.at' i v t e1 e2).keep k⟩
theorem RowsAt.snoc{lo:Nat}{R I:Addr}{h:Heap}{vs:List Value}{ts:List (Tk × Nat)}{v:Value}{t:Tk × Nat}(x:RowsAt gv lo R I h vs ts)(y:RowAt gv lo R I h v t):RowsAt gv lo R I h (vs ++ [v]) (ts ++ [t]):=by
 refine⟨by simp only[List.length_append,List.length_append,x.len];rfl,λi u s e1 e2=>?_⟩;by_cases q:i<vs.length
 . rw[Z1l q] at e1;rw[Z1l (by rw[<-x.len];exact q)] at e2;exact x.at' i u s e1 e2
 . rw[Z1o (Z1g.mp q)] at e1;rw[Z1o (by rw[<-x.len];exact Z1g.mp q),<-x.len] at e2;cases z:i - vs.length with
   |zero=>rw[z] at e1 e2;replace e1:=Z0a e1;subst e1;replace e2:=Z0a e2;subst e2;exact y
   |succ k=>rw[z] at e1;exact nn e1
theorem B9s{Θ Θ':Th}{n n':Nat}{a b:Tx}{d:V}{vs:List Value}(hp:T3 d)(x:VRs gv Θ n [.str a, .str b,d] vs):VRs gv Θ' n' [.str a, .str b,d] vs:=by
 rcases vs with _ | ⟨v1,_ | ⟨v2,_ | ⟨v3,_ | ⟨_,_⟩⟩⟩⟩ <;> first | exact x.elim | skip
 . exact x.2.elim
 . exact x.2.2.elim
 . exact T4 x.1 x.2.1 (hp x.2.2.1) trivial
 . exact x.2.2.2.elim
theorem A1n{i:Nat}{v:Option V}(h:A0f i v=true):v=some (.ref i):=by
 exact F6 h λv h=>P4 h λj h=>Z0e h▸rfl
theorem D2h{g:V}{v:Option V}(h:B38 g v=true):v=some g:=by
 refine F6 h λv h=>?_;rcases(Bool.or_eq_true _ _).mp h with h | h
 . refine W1 h λa h=>W1 h λb h=>?_;rw[P9,decide_eq_true_eq] at h;rw[h]
 . refine A5m h λa b h=>A5m h λc d h=>?_;obtain⟨h1,h2⟩:=A5 h;rw[Z0e h1,Z0e h2]
theorem B1v{o:Option O}{f:V->Bool}(h:A6x o f=true):∃a,o=some (.log [a])/\f a=true:=by
 exact F6 h λo h=>B4p h λl h=>I4 h λa l h=>U8 h λh=>⟨a,rfl,h⟩
theorem D43{o:Option O}{f:V->V->Bool}(h:B4e o f=true):∃a b,o=some (.tuple [a,b])/\f a b=true:=by
 exact F6 h λo h=>A8d h λl h=>I4 h λa l h=>I4 h λb l h=>U8 h λh=>⟨a,b,rfl,h⟩
theorem C0e{o:Option O}{f:Tx->Tx->V->Bool}(h:B2h o f=true):∃a b c,o=some (.tuple [.str a, .str b,c])/\f a b c=true:=by
 exact F6 h λo h=>A8d h λl h=>I4 h λa l h=>O8 h λa h=>I4 h λb l h=>O8 h λb h=>I4 h λc l h=>U8 h λh=>⟨a,b,c,rfl,h⟩
theorem A79{v:Option V}{f:Tx->Bool}(h:A4c v f=true):∃s,v=some (.txt 1 s false)/\f s=true:=by
 refine F6 h λv h=>B0f h λg s o h=>?_;obtain⟨h1,h⟩:=A5 h;refine re (Z0e h1) ?_;cases o with
 |true=>exact ff h
 |false=>exact A6 s rfl h
theorem C1x{H:Hp}{a:V}{f:Nat->Tx->Tx->V->Bool}(h:B58 H a f=true):∃i b m k g v,a= .ref i/\H.get i=some (.tuple [.ref b, .lin 1 m])/\H.get b=some (.tuple [.str k, .str g,v])/\f m k g v=true:=by
 refine P4 h λi h=>B4 (D43 h) λb m e h=>⟨i,?_⟩;rw[e];refine P4 h λb h=>A2k h λg m h=>A8 (A5 h) λz h=>Q0 (C0e h) λk gr v e2 h=>?_;rw[Z0e z];exact⟨b,m,k,gr,v,rfl,rfl,e2,h⟩
theorem C2n{told kind great:Tx}{v g:V}{l:Loc}{H:Hp}(h:A73 told kind great v g l H=true):lkG 0 l=some (.ref 0)/\lkG 3 l=some (.ref 1)/\lkG 4 l=some g/\
 ∃a b gp,H.get 1=some (.log [.ref a])/\H.get a=some (.tuple [.ref b, .lin 1 gp.length])/\H.get b=some (.tuple [.str kind, .str great,v])/\lkG 2 l=some (.txt 1 (gp ++ told) false)/\gp∈O4/\T3 v:=by
 refine A8 (A5 h) λh1 h=>A8 (A5 h) λh2 h=>A8 (A5 h) λh3 h=>A1 (B1v h) λa e1 h=>?_
 obtain⟨i,b,m,k,gr,v',ea,e2,e3,h⟩:=C1x h
 refine A1 (A79 h) λs e4 h=>A8 (A5 h) λq1 h=>A8 (A5 h) λq2 h=>A8 (A5 h) λq3 h=>A1 (A1l h) λgp gm h=>A8 (A5 h) λq4 q5=>?_
 rw[J1,decide_eq_true_eq] at q1 q2 q4
 refine⟨A1n h1,A1n h2,D2h h3,i,b,gp,by rw[e1,ea],?_,?_,by rw[e4,q4,Q1],gm,(A2d q3).1▸(A2d q3).2⟩
 . rw[e2,Z0e q5,D0]
 . rw[e3,<-q1,<-q2,<-(A2d q3).1]
theorem C5h:lkS "_law_piece" cc0.glob=some (.glob 9):=rfl
def B1u:List Stmt:=(A4 7).body.tail.head?.elim [] A7m
section
variable{K:Frag}
variable{S R:Addr}{lo:Nat}
theorem D22{g:Nat}(h:g<=11\/g=999):g∈grs:=h.elim (λz=>(by decide:∀i,i<12->i∈grs) g (Z2y z)) λz=>z▸(by decide:999∈grs)
inductive RowI(og:OGt)(A0:Heap)(gv:Nat->Option Value)(S R I:Addr)(env:Env)(fs:List Env)(lo:Nat)(h₀:Heap)(j:Nat)(s:Shared):Prop
 |mk (m:Str->Option Value) (l:List Turn) (vs:Array Value) (e gr:Nat) (tt tg:Tok) (d:Hd A0 S env fs m s.heap) (m1:m "source" = some (.ref S)) (m2:m "rows" = some (.ref R)) (m3:m "text" = some (.str (sOf (A3 l)) tt)) (m4:m "greatest" = some (.int (gr:Int) tg))
  (hT:D9 0 l) (hl:l.length=j) (hgr:G3 0 l=gr) (hgb:gr<=4+j\/gr=999) (hTl:(A3 l).length<=100 * j) (hvs:vs.size=j) (lR:IsL s.heap R vs e) (rows:RowsAt gv lo R I s.heap vs.toList (B6 0 l)) (lx:Lx S env.locals fs h₀ s.heap) (os:Og s og)
structure Stand(A0:Heap)(S R:Addr)(env:Env)(fs:List Env)(lo:Nat)(h₀:Heap):Prop where
 loc:env.locals=lo
 sLo:S<lo
 fr:∀L,L∈frs fs->L<lo
 h0:lo<h₀.objs.size
 rh:h₀.objs.size<=R
 rB:A0.get? R=none
theorem B95{g j:Nat}{told:Tx}{t:Tk}{tg:Tok}{T:Tx}{front:List Value}(ok:W9 g told t)(hg:g<=4+j\/g=999)(hj:j<=7):∃(g0 g1:V) (gr':Nat),A1c told t.kind t.text t.val g0 g1=true/\Said told t g gr'/\(gr'<=4+(j+1)\/gr'=999)/\told.length<=60/\
 VR gv (ΘR S R T front (g:Int)) 2 g0 (.int (g:Int) tg)/\∀Θ' n' cv,Θ'.gh 1=(ΘR S R T front (g:Int)).gh 1->VR gv Θ' n' g1 cv->∃t,cv= .int (gr':Int) t:=by
 rcases ok with hm | ⟨p,hm,rfl,rfl,rfl⟩
 . refine A34 (.pl 1 0) (.pl 1 0) g (show A1c told t.kind t.text t.val (.pl 1 0) (.pl 1 0)=true from C0 D57 (⟨told,t⟩:Pc) hm) (A8n (.inl hm) (by lia)) (by lia) (Z0l (C0 B81 _ hm)) ⟨by decide,tg,?_⟩ (λΘ' n' cv hΘ vr=>?_)
   . rw[ΘR_1.2.2]
   . obtain⟨_,t',e⟩:=vr
     exact⟨t',by rw[hΘ,ΘR_1.2.2] at e;exact e⟩
 . have hb:=C0 D3b p hm
   refine A34 (.int (.ofNat p.gr)) (.int (.ofNat p.gr2)) p.gr2 (show A1c p.told V6 [] (.int (.ofNat p.num)) (.int (.ofNat p.gr)) (.int (.ofNat p.gr2))=true from C0 D0t p hm) (B8m hm) (?_) (Z0l (C0 B93 _ hm)) ⟨tg,rfl⟩ (λΘ' n' cv J vr=>?_)
   . cases q1:Nat.beq p.gr 999 with
     |true=>
      rw[q1] at hb;exact .inr (Z0e hb)
     |false=>
      rw[q1] at hb;have n9:p.gr≠999:=λz=>by rw[z] at q1;cases q1
      cases q2:Nat.beq p.gr2 999 with
      |true=>exact .inr (Z0e q2)
      |false=>
       rw[q2] at hb;cases q3:Nat.ble p.gr2 5 with
       |true=>rw[C8,decide_eq_true_eq] at q3;lia
       |false=>
        rw[q3] at hb;haveI hb:Nat.ble p.gr2 (Nat.succ p.gr)=true:=hb;rw[C8,decide_eq_true_eq] at hb;lia
   . obtain⟨t',e⟩:=vr
     exact⟨t',e⟩
theorem C5f[Og s og](G:GT w T1 cc0 gv mg mb A0 K)(hD:D<recursionLimit)(hr:SoAll og w T1 cc0 gv A0 pc K D U (run T1 P3 NW) NW)(pt:N9 og w T1 cc0 gv A0 pc K D U P3){f14 f11 f9:Addr}(g14:gv 14=some (.ref f14))(k14:keepIn K (.ref f14)=true)(g11:gv 11=some (.ref f11))(r11:FnRaw gv cc0 K (A4 11) [0,1,2] [] f11)(g9:gv 9=some (.ref f9))(r9:FnRaw gv cc0 K (A4 9) [0,1] [] f9)
 (cx:Cx D U (NW+1) A env fs) (hsc:env.scope=(A4 7).scope) (sd:Stand A0 S R env fs lo h₀) {j:Nat} (hj:j<=7) (iI:I<s.heap.objs.size) (hI:RowI og A0 gv S R I env fs lo h₀ j s) :
 wpAny (model pg w) A (execs B1u env) (λf s3=>f= .next/\RowI og A0 gv S R I env fs lo h₀ (j+1) s3/\∀b o,s.heap.get? b=some o->b≠S->b≠R->b≠env.locals->b∉frs fs->s3.heap.get? b=some o) noE s:=by
 obtain⟨m,l,vs,e,gr,tt,tg,d,m1,m2,m3,m4,hT,hl,hgr,hgb,hTl,hvs,lR,rows,lx⟩:=hI
 have p0:=pkl hsc "source" 0
 have p4:=pkl hsc "greatest" 4
 have p11:=pkg hsc "_law_piece" 11
 have gm:gr∈grs:=D22 (hgb.imp_left λz=>Z0c z (Nat.add_le_add_left hj 4))
 have rS:R≠S:=Z0q (Z0b (Z1f sd.sLo sd.h0) sd.rh)
 have rL:R≠env.locals:=by rw[sd.loc];exact Z0q (Z0b sd.h0 sd.rh)
 have rF:R∉frs fs:=λq=>absurd (Z1f (sd.fr R q) (Z0b sd.h0 sd.rh)) (Z1e _)
 conv=>arg 3;arg 1;whnf
 refine Z0j (A0q rfl (N2 G cx p11 C5h g9 r9.keep d.stays rfl (Z0n (A9 cx p0 d.ns m1 (Z0n (A9 cx p4 d.ns m4 (Z0x ⟨d.stays,?_⟩)))))) rfl)
 refine D5k G hD hr pt g14 k14 g11 r11 r9 cx.ca d.st d.low gm λy s1 told t lo1 pa lx1 pl sy fr=>?_
 intro J
 haveI d1:Hd A0 S env fs m s1.heap:=d.inner cx.frame lx1 sy fr pl
 have lx1':=lx1.inner cx.frame
 haveI lR1:IsL s1.heap R vs e:=(lx1'.keep _ _ lR rS rL).1 rF
 refine C4g (B95 (S:=S) (R:=R) (tg:=tg) (T:=A3 l) (front:=vs.toList) pa.ok hgb hj) λg0 g1 gr' okr said grb tl vg0 vg1=>?_
 haveI st1:=d1.listR (T:=A3 l) (g:=gr) lR1 (by lia) (by unfold D4;lia) rS sd.rB (F3 cx.frame rL rF)
 have F1:FR gv (ΘR S R (A3 l) vs.toList gr) HR.n env.scope.names (B60 g0) m:=
  .cons (x:=Str.ofString "source") (kd:= .local) (gk hsc) m1 ⟨by rw[H7];decide,by rw[ΘR_0.1]⟩ (.cons (x:=Str.ofString "text") (kd:= .local) (gk hsc) m3 ⟨by rw[H7];decide,tt,by rw[ΘR_1.2.2];simp⟩
   (.cons (x:=Str.ofString "rows") (kd:= .local) (gk hsc) m2 ⟨by rw[H7];decide,by rw[ΘR_1.1]⟩ (.cons (x:=Str.ofString "greatest") (kd:= .local) (gk hsc) m4 vg0 .nil)))
 refine B4 pa.ex λus eu lu vu=>?_
 refine A3o (l:=B60 g0) (l':=B2u told t.kind t.text t.val g0) (is:= [6,7,8,9]) (Θ:=ΘR S R (A3 l) vs.toList gr) (H:=HR) cx rfl (by rw[hsc];kernel_rfl) (rfl) rfl (vu _ _) ⟨st1,m,d1.ns,F1⟩ (λQ' k'=>B54 cx.ca.hand ⟨_,lu,rfl,eu,rfl⟩ k') λs2 x2 a2=>?_
 intro J
 refine hr.ss 39 _ B1e _ HR _ (λJ J=>false) A env fs s2 _ _ _ (by rw[hsc];kernel_rfl) (show A1c told t.kind t.text t.val g0 g1=true from okr) (cx.low (Z1d _)) a2 ?_ λJ J z=>(Z0u z).elim
 intro f l' H' hk Θ' cf s3 X a3 fr3 J
 obtain⟨z0,hk⟩:=A5 hk
 cases fr3 with
 |ret vr=>exact ff hk
 |next=>
  obtain⟨q0,q3,q4,a,b,gp,e1,e2,e3,q2,gpm,pv⟩:=C2n (show A73 told t.kind t.text t.val g1 l' H'=true from hk);have XX:=x2.trans X;refine A7 (XX.same 0 (by rw[H7];decide)) λs0a s0d J=>?_;refine A7 (XX.same 1 (by rw[H7];decide)) λs1a s1d s1g=>?_;have a0:Θ'.a 0=S:=s0a.trans ΘR_0.1;haveI a1:Θ'.a 1=R:=s1a.trans ΘR_1.1;haveI gh1:=s1g.trans ΘR_1.2.2;refine A1 a3.fr λm' hn' F=>?_;refine D6 (F 0 "source" .local (.ref 0) (gk hsc) q0) λc1 n1 J q'2=>?_;subst q'2;obtain⟨c2,n2,_,tt2,rfl⟩:=F 2 "text" .local (.txt 1 (gp ++ told) false) (gk hsc) q2;refine D6 (F 3 "rows" .local (.ref 1) (gk hsc) q3) λc3 n3 J q'4=>?_;subst q'4;refine A1 (F 4 "greatest" .local g1 (gk hsc) q4) λc4 n4 v4=>?_;obtain⟨tg4,rfl⟩:=vg1 Θ' H'.n c4 s1g v4;rw[a0] at n1;rw[a1] at n3;have d3:Hd A0 S env fs m' s3.heap:=⟨a3.st.stays,a3.st.frames,hn',a0▸K3 a3.st z0 (by omega),d.low,d.nf⟩;refine A1 (a3.st.obj 1 (by assumption)) λo1 eo1 r1=>?_;obtain rfl:=Z0a (eo1.symm.trans e1);obtain⟨vs',e',ws,lR3,hvs',vws,_⟩:=r1;refine D6 vws.one λcva q'6 ha q'7=>?_;subst q'6;subst q'7;refine A1 (a3.st.obj a ha) λoa eoa ra=>?_;obtain rfl:=Z0a (eoa.symm.trans e2);refine B4 ra λua ea la va=>?_;refine F8 va.two λcb cm hua q'8 q'10=>?_;refine A8 q'8 λhb q'9=>?_;clear q'8;subst q'9;rcases q'10 with⟨_,tm,q'11⟩
  subst q'11;refine A1 (a3.st.obj b hb) λob eob rb=>?_;obtain rfl:=Z0a (eob.symm.trans e3);refine B4 rb λub eb lb vb=>?_;rw[gh1] at hvs';have old:∀i,i<2->H'.get i=some .pool\/∃x,H'.get i=some (.log x):=λi hi=>by
   exact(two hi).elim (λq=>q▸ .inl (U2 z0)) λq=>q▸ .inr ⟨_,e1⟩
  have hi2:∀i x,H'.get i=some (.tuple x)->2<=i:=λi x ex=>by
   rcases Z4m i 2 with q | q
   . rcases old i q with z | ⟨y,z⟩ <;> (rw[z] at ex;cases ex)
   . exact q
  have ha2:=hi2 a _ e2;have hb2:=hi2 b _ e3;haveI fa:=XX.new a ha2 ha _ (.inl rfl);haveI fb:=XX.new b hb2 hb _ (.inl rfl);haveI sz1:h₀.objs.size<=s1.heap.objs.size:=Z0c lx.size lx1.size;haveI hl0:=sd.h0;have keep13:∀(z:Nat) o,s1.heap.get? z=some o->z≠S->z≠R->z≠env.locals->z∉frs fs->s3.heap.get? z=some o:=λz o ez h1 h2 h3 h4=>(XX.turn cx.frame ez h1 h2 h3).1 h4;have keep03:∀(z:Nat) o,s.heap.get? z=some o->z≠S->z≠R->z≠env.locals->z∉frs fs->s3.heap.get? z=some o:=λz o ez h1 h2 h3 h4=>keep13 z o ((lx1'.keep z o ez h1 h3).1 h4) h1 h2 h3 h4;refine A8 (B51 (t:=⟨gp,told,t,gr'⟩) hT gpm (by rw[hgr];exact said) (by rw[hgr];lia)) λT1' T2'=>?_;have eT:A3 (l ++ [⟨gp,told,t,gr'⟩])=A3 l ++ (gp ++ told):=by rw[A8f];show _ ++ (gp ++ (told ++ []))=_;rw[List.append_nil]
  have gl:gp.length<=30:=Z0l (C0 B6j gp gpm);refine O2 rfl ⟨m',l ++ [⟨gp,told,t,gr'⟩],vs',e',gr',tt2,tg4,d3,n1,n3,?_,n4,T1',?_,T2',grb,?_,?_,by rw[<-a1];exact lR3,?_,?_,inferInstance⟩ keep03
  . rw[n2,gh1,eT];simp
  . rw[List.length_append,hl];rfl
  . rw[eT,List.length_append,List.length_append];exact Z0c (Nat.add_le_add (by assumption) (Nat.add_le_add gl (by assumption))) (Nat.add_le_add_left (by decide) (100 * j))
  . have:=congrArg List.length hvs';rw[Array.length_toList,List.length_append,Array.length_toList,hvs] at this;exact this
  . rw[hvs',A5j];refine(rows.keep λz o ez h1 h2 J=>keep03 z o ez (Z0q (Z1f sd.sLo h1)) h2 (by rw[sd.loc];exact Z0q h1) λq=>absurd (Z1f h1 (sd.fr z q)) (Z1e _)).snoc ⟨Θ'.a a,Θ'.a b,ea,ub,eb,tm,rfl,by lia,by lia,?_,?_,Z0q (Z0b iI (Z0c lx1.size fa)),Z0q (Z0b iI (Z0c lx1.size fb)),?_,lb,λΘ n=>B9s pv vb⟩
    . rw[<-a1];exact(a3.st.sep a 1 ha (by assumption) (by lia)).1
    . rw[<-a1];exact(a3.st.sep b 1 hb (by assumption) (by lia)).1
    . have:ua= #[.ref (Θ'.a b), .int (((A3 l).length+gp.length:Nat):Int) tm]:=by
       rw[<-Z1x (xs:=ua),hua,gh1]
      rw[this] at la;rw[Z2j];exact la
  . exact(lx.trans lx1').on (λb o hb' eb' h1 h2=>XX.turn cx.frame eb' h1 (Z0k (Z0b hb' sd.rh)) h2) XX.size
end
def C6d:X:=A7t.body.x
def B17:S:=A7t.body.q.q
def A7f(s:Tx)(v:Option V):Bool:=E8 v λv=>O0 v λt=>teq s t
def A6y(n:Nat)(v:Option V):Bool:=E8 v λv=>U4 v λi=>ieq (.ofNat n) i
def newList(v:Option V)(h:Hp):Bool:=E8 v λv=>N7 v λr=>E8 (h.get r) λo=>A21 o λl=>S4 l true
def A7h(n:Nat)(l:Loc)(h:Hp):Bool:=bB (A6y n (lkG 1 l)) (bB (K5 (h.get 0)) (bB (A0f 0 (lkG 0 l)) (bB (A7f [] (lkG 2 l)) (bB (newList (lkG 3 l) h) (A6y 0 (lkG 4 l)) false) false) false) false) false
noncomputable def B5d(o:Option O):Bool:=E8 o λo=>A61 o λl=>S4 l true
def A2r(v:V)(h:Hp):Bool:=bB (B5d (h.get 1)) (N7 v λa=>E8 (h.get a) λo=>A21 o λl=>G7 l λx l=>G7 l λy l=>S4 l (bB (A4c (some x) L5) (N7 y λi=>Nat.beq 1 i) false)) false
noncomputable def A5e:Loc:= [(2, .txt 1 [] false),(3, .ref 1)]
def D6w(n:Nat):Bool:=(run T1 P3 NW).e C6d [(0, .ref 0),(1, .int (.ofNat n))] HP (λv h=>oB (A5w h v) false λvs=>oB (A0v [2,3,4] vs [(0, .ref 0),(1, .int (.ofNat n))]) false λl=>A7h n l h) (λJ J=>false)
theorem D42:P0 9 D6w=true:=rfl
theorem D4w:(run T1 P3 NW).ss B17 A5e HR (λf J h=>bB (K5 (h.get 0)) (fl f false λv=>A2r v h) false) (λJ J=>false)=true:=rfl
theorem B2r{s:Tx}{v:Option V}(h:A7f s v=true):v=some (.str s):=by
 refine F6 h λv h=>O8 h λt h=>?_;rw[J1,decide_eq_true_eq] at h;rw[h]
theorem B1j{n:Nat}{v:Option V}(h:A6y n v=true):v=some (.int (.ofNat n)):=by
 refine F6 h λv h=>W1 h λi h=>?_;rw[P9,decide_eq_true_eq] at h;rw[h]
theorem B4g{v:Option V}{H:Hp}(h:newList v H=true):∃r,v=some (.ref r)/\H.get r=some (.list []):=by
 refine F6 h λv h=>P4 h λr h=>⟨r,rfl,?_⟩;exact F6 h λo h=>A6z h λl h=>U8 h λJ=>rfl
theorem D31{o:Option O}(h:B5d o=true):o=some (.log []):=by
 exact F6 h λo h=>B4p h λl h=>U8 h λJ=>rfl
theorem B59{v:V}{H:Hp}(h:A2r v H=true):H.get 1=some (.log [])/\∃a,v= .ref a/\H.get a=some (.list [.txt 1 [] false, .ref 1]):=by
 refine A8 (A5 h) λh1 h=>?_;refine⟨D31 h1,P4 h λa h=>⟨a,rfl,?_⟩⟩;refine F6 h λo h=>A6z h λl h=>I4 h λx l h=>I4 h λy l h=>U8 h λh=>?_;obtain⟨h1,h2⟩:=A5 h;refine A1 (A79 h1) λs hx hs=>?_;replace hx:=Z0a hx;subst hx;cases s with
 |nil=>exact P4 h2 λi h=>by rw[Z0e h]
 |cons c s=>exact ff hs
theorem C0q{n:Nat}{l:Loc}{H:Hp}(h:A7h n l H=true):lkG 1 l=some (.int (.ofNat n))/\K5 (H.get 0)=true/\lkG 0 l=some (.ref 0)/\lkG 2 l=some (.str [])/\(∃r,lkG 3 l=some (.ref r)/\H.get r=some (.list []))/\lkG 4 l=some (.int (.ofNat 0)):=by
 refine A8 (A5 h) λh0 h=>?_;obtain⟨h1,h⟩:=A5 h;obtain⟨h2,h⟩:=A5 h;obtain⟨h3,h⟩:=A5 h;obtain⟨h4,h⟩:=A5 h;exact A2m (B1j h0) h1 (A1n h2) (B2r h3) (B4g h4) (B1j h)
section
variable{K:Frag}
variable{S:Addr}{lo:Nat}
inductive RowOut(gv:Nat->Option Value)(lo:Nat)(h:Heap)(x:Addr)(l:List Turn):Prop
 |mk (r:Nat) (vs:Array Value) (e e2:Nat) (tt:Tok) (I:Addr) (x1:IsL h x #[.str (sOf (A3 l)) tt, .ref r] e) (x2:lo<x) (x3:lo<r) (x4:IsL h r vs e2) (x5:RowsAt gv lo r I h vs.toList (B6 0 l))
end
section
variable{K:Frag}
variable{S:Addr}{lo:Nat}{Q:Flow->Shared->Prop}
def D3e:List Stmt:=(A4 7).body.drop 2
theorem C7h[Og s og](hr:SoAll og w T1 cc0 gv A0 pc K D U (run T1 P3 NW) NW)(cx:Cx D U NW A env fs)(hsc:env.scope=(A4 7).scope){r:Nat}(sd:Stand A0 S r env fs lo h₀){j:Nat}(hj:j<=8)(hI:RowI og A0 gv S r I env fs lo h₀ j s)
 (q:∀x s' l,RowOut gv lo s'.heap x l->D9 0 l->l.length=j->(A3 l).length<=100 * j->Lx S env.locals fs h₀ s'.heap->Pool s'.heap S->A0.StaysIn s'.heap->s'.heap.FunFrames A0 (env :: fs)->∀ [Og s' og],Q (.ret (.ref x)) s'):wpAny (model pg w) A (execs D3e env) Q E s:=by
 obtain⟨m,l,vs,e,gr,tt,tg,d,m1,m2,m3,m4,hT,hl,hgr,hgb,hTl,hvs,lR,rows,lx⟩:=hI
 haveI rS:r≠S:=Z0q (Z0b (Z1f sd.sLo sd.h0) sd.rh)
 haveI rL:r≠env.locals:=by rw[sd.loc];exact Z0q (Z0b sd.h0 sd.rh)
 have rF:r∉frs fs:=λq=>absurd (Z1f (sd.fr r q) (Z0b sd.h0 sd.rh)) (Z1e _)
 haveI st1:=d.listR (T:=A3 l) (g:=0) lR (by lia) (by unfold D4;lia) rS sd.rB (F3 cx.frame rL rF)
 refine hr.ss 39 _ B17 A5e HR _ (λJ J=>false) A env fs s (ΘR S r (A3 l) vs.toList 0) _ _ (by rw[hsc];kernel_rfl) D4w cx ⟨st1,m,d.ns,?_⟩ ?_ λJ J z=>(Z0u z).elim
 . exact .cons (x:=Str.ofString "text") (kd:= .local) (gk hsc) m3 ⟨by rw[H7];decide,tt,by rw[ΘR_1.2.2];simp⟩ (.cons (x:=Str.ofString "rows") (kd:= .local) (gk hsc) m2 ⟨by rw[H7];decide,by rw[ΘR_1.1]⟩ .nil)
 intro f l' H' hk Θ' cf s3 XX a3 fr3 J
 obtain⟨z0,hk⟩:=A5 hk
 cases fr3 with
 |next=>exact ff hk
 |ret vr=>
  obtain⟨e1,a,rfl,ea⟩:=B59 (show A2r _ H'=true from hk);obtain⟨ha,rfl⟩:=vr;refine A7 (XX.same 0 (by simp only[H7];decide)) λs0a s0d J=>?_;refine A7 (XX.same 1 (by rw[H7];decide)) λs1a s1d s1g=>?_;haveI a0:Θ'.a 0=S:=s0a.trans ΘR_0.1;have a1:Θ'.a 1=r:=s1a.trans ΘR_1.1;have gh1:=s1g.trans ΘR_1.2.2;refine A1 (a3.st.obj a ha) λoa eoa ra=>?_;obtain rfl:=Z0a (eoa.symm.trans ea);refine B4 ra λua eu la va=>?_;clear ra;refine F8 va.two λct cr hua q'4 q'6=>?_;rcases q'4 with⟨_,tt2,q'5⟩
  subst q'5;refine A8 q'6 λJ q'7=>?_;clear q'6;subst q'7;haveI keep13:∀(z:Nat) o,s.heap.get? z=some o->lo<z->z≠r->s3.heap.get? z=some o:=λz o ez h1 h2=>(XX.turn cx.frame ez (Z0q (Z1f sd.sLo h1)) h2 (by rw[sd.loc];exact Z0q h1)).1 λq=>absurd (Z1f h1 (sd.fr z q)) (Z1e _);have a12:2<=a\/a=1:=by
   rcases Z4m a 2 with q | q
   . have:a=0\/a=1:=by lia
     rcases this with rfl | rfl
     . rw[U2 z0] at ea;cases ea
     . exact .inr rfl
   . exact .inl q
  have lx3:Lx S env.locals fs h₀ s3.heap:=lx.on (λb o hb' eb' h1 h2=>XX.turn cx.frame eb' h1 (Z0k (Z0b hb' sd.rh)) h2) XX.size;have xlo:lo<Θ'.a a:=by
   rcases a12 with q | rfl
   . exact Z0b sd.h0 (Z0c lx.size (XX.new a q ha _ (.inl rfl)))
   . rw[a1];exact Z0b sd.h0 sd.rh
  refine A1 (a3.st.obj 1 (by assumption)) λo1 eo1 r1=>?_;obtain rfl:=Z0a (eo1.symm.trans e1);obtain⟨vs',e',ws,lR3,hvs',vws,_⟩:=r1;rw[vws.zero,List.append_nil,gh1] at hvs';rw[a1] at lR3;refine q _ s3 l ⟨r,vs',eu,e',tt2,I,?_,xlo,Z0b sd.h0 sd.rh,lR3,hvs'▸rows.keep λz o ez h1 h2 J=>keep13 z o ez h1 h2⟩ hT hl hTl lx3 (a0▸K3 a3.st z0 (by exact Z0o (by assumption))) a3.st.stays a3.st.frames;have:ua= #[.str (sOf (A3 l)) tt2, .ref r]:=by
   rw[<-Z1x (xs:=ua),hua,gh1,a1];simp
  rw[this] at la;exact la
end
section
variable{K:Frag}
variable{S:Addr}{lo:Nat}{Q:Flow->Shared->Prop}
theorem D3p[Og s og](G:GT w T1 cc0 gv mg mb A0 K)(hD:D<recursionLimit)(hr:SoAll og w T1 cc0 gv A0 pc K D U (run T1 P3 NW) NW)(pt:N9 og w T1 cc0 gv A0 pc K D U P3){f14 f11 f9:Addr}(g14:gv 14=some (.ref f14))(k14:keepIn K (.ref f14)=true)(g11:gv 11=some (.ref f11))(r11:FnRaw gv cc0 K (A4 11) [0,1,2] [] f11)(g9:gv 9=some (.ref f9))(r9:FnRaw gv cc0 K (A4 9) [0,1] [] f9)
 (cx:Cx D U (NW+1) A env fs) (hsc:env.scope=(A4 7).scope) {r:Nat} (sd:Stand A0 S r env fs lo h₀) {many:Nat} (hm:many<=8) {tm:Tok} {p1 p2 p3 p4:Pos} (d:Hd A0 S env fs m s.heap) (m1:m "source" = some (.ref S)) (mm:m "many" = some (.int (many:Int) tm)) (m2:m "rows" = some (.ref r)) {tt tg:Tok} (m3:m "text" = some (.str (sOf []) tt)) (m4:m "greatest" = some (.int 0 tg))
 {e:Nat} (lR:IsL s.heap r #[] e) (lx:Lx S env.locals fs h₀ s.heap)
 (q:∀s',(∃I,RowI og A0 gv S r I env fs lo h₀ many s')->∀ [Og s' og],Q .next s'):wpAny (model pg w) A (exec (.For (.Name "turn" p1) (.Call (.Name "range" p2) [.Name "many" p3] [] p4) B1u [] p1) env) Q E s:=by
 haveI pr:=pkg hsc "range" 10
 haveI pm:=pkl hsc "many" 1
 haveI p5:=pkl hsc "turn" 5
 haveI rS:r≠S:=Z0q (Z0b (Z1f sd.sLo sd.h0) sd.rh)
 haveI rL:r≠env.locals:=by rw[sd.loc];exact Z0q (Z0b sd.h0 sd.rh)
 haveI rF:r∉frs fs:=λq=>absurd (Z1f (sd.fr r q) (Z0b sd.h0 sd.rh)) (Z1e _)
 haveI rlt:r<s.heap.objs.size:=Z0i lR
 refine wpAny_For (L8 (cv:= .type "range") G cx pr B8n rfl (λJ=>⟨.machine, .now⟩) d.stays rfl ?_) (λJ=>rfl)
 refine Z0n (A9 cx pm d.ns mm (Z0x (call_range_1 ?_)))
 refine wpAny_pyIter_range (IsRange.new _ _ _ _ _ _ _) (small_one (by decide) (by decide) (by lia) (by lia)) ?_
 generalize eh:((s.heap.push {cls:= .type "range",data:= .fields #[.int 0 s.toks, .int (many:Int) tm, .int 1 (s.toks+1)]}).push {cls:= .type "range_iterator",data:= .fields #[rawInt 0,rawInt (Builtin.Range.rangeSize 0 (many:Int) 1),rawInt 1]})=h4
 have hI:h4.get? (s.heap.objs.size+1)=some {cls:= .type "range_iterator",data:= .fields #[rawInt 0,rawInt (Builtin.Range.rangeSize 0 (many:Int) 1),rawInt 1]}:=by
  refine rs eh ?_;haveI:=Z0r (s.heap.push {cls:= .type "range",data:= .fields #[.int 0 s.toks, .int (many:Int) tm, .int 1 (s.toks+1)]}) (o:={cls:= .type "range_iterator",data:= .fields #[rawInt 0,rawInt (Builtin.Range.rangeSize 0 (many:Int) 1),rawInt 1]}) rfl;rw[Heap.size_push] at this;exact this
 haveI kp4:∀b o,s.heap.get? b=some o->h4.get? b=some o:=λb o e=>by rw[<-eh];exact Z0h _ (Z0h _ e)
 have hz4:s.heap.objs.size+2=h4.objs.size:=by rw[<-eh,Heap.size_push,Heap.size_push]
 haveI d4:=d.keeps kp4
 haveI en:(s.heap.push {cls:= .type "range",data:= .fields #[.int 0 s.toks, .int (many:Int) tm, .int 1 (s.toks+1)]}).objs.size=s.heap.objs.size+1:=Heap.size_push ..
 have rz:Builtin.Range.rangeSize 0 (many:Int) 1=(many:Int):=by
  rw[rangeSize_one];split <;> lia
 refine A7 (d.new (x:=s.heap.objs.size+1) (Z1d _)) λn1 n2 n3=>?_
 have hw:∀b,b∈ [s.heap.objs.size+1]->b≠S/\A0.get? b=none/\b∉frs (env :: fs):=λb hb=>by rw[Z0s.mp hb];exact O2 n1 n2 n3
 haveI iL:s.heap.objs.size+1≠env.locals:=λq=>n3 (q▸F2 cx.frame)
 haveI iF:s.heap.objs.size+1∉frs fs:=λq=>n3 (F5 q)
 have iR:r≠s.heap.objs.size+1:=by lia
 have I0:RowI og A0 gv S r (s.heap.objs.size+1) env fs lo h₀ 0 {s with heap:=h4,toks:=s.toks+1+1}:=
  ⟨m,[],#[],e,0,tt,tg,d4,m1,m2,m3,m4,trivial,rfl,rfl, .inl (by decide),Z1y _,rfl,kp4 _ _ lR,⟨rfl,λi v t e1 J=>nomatch e1⟩,lx.trans (Lx.keeps kp4 (by show _<=h4.objs.size;lia)),inferInstance⟩
 haveI sz0:h₀.objs.size<=s.heap.objs.size:=lx.size
 refine re en ?_
 refine A68 (Walks.range cx.ca.hand (s.heap.objs.size+1) 0 1 many) (λj s'=>RowI og A0 gv S r (s.heap.objs.size+1) env fs lo h₀ j s'/\s.heap.objs.size+1<s'.heap.objs.size) ?_ ?_ many 0 _ (Z2j _) ⟨I0,Nat.lt_of_lt_of_eq (Z0v (s.heap.objs.size+1)) hz4⟩ ?_
 . intro j s5 cv h' tk hj hi hP st' hk hz
   obtain⟨⟨m',l,vs,e',gr,tt',tg',d5,a1,a2,a3,a4,hT,hl,hgr,hgb,hTl,hvs,lR5,rows,lx5,os5⟩,iI⟩:=hi
   haveI d6:=d5.but hk hw cx.frame
   refine(Hd.store (s:={s5 with heap:=h',toks:=tk}) d6 cx p5 λh2 lx2 d2=>?_)
   haveI k2:∀(z:Nat) o,s5.heap.get? z=some o->z≠s.heap.objs.size+1->z≠S->z≠env.locals->z∉frs fs->h2.get? z=some o:=λz o ez h1 h3 h4 h5=>(lx2.keep z o (hk z o (λq=>h1 (Z0s.mp q)) ez) h3 h4).1 h5
   have I2:RowI og A0 gv S r (s.heap.objs.size+1) env fs lo h₀ j {s5 with heap:=h2,toks:=tk+1}:=
    ⟨_,l,vs,e',gr,tt',tg',d2,(Z0m (by decide)).trans a1,(Z0m (by decide)).trans a2,(Z0m (by decide)).trans a3,(Z0m (by decide)).trans a4,hT,hl,hgr,hgb,hTl,hvs,k2 _ _ lR5 iR rS rL rF,
     rows.keep λz o ez h1 J h3=>k2 z o ez h3 (Z0q (Z1f sd.sLo h1)) (by rw[sd.loc];exact Z0q h1) λq=>absurd (Z1f h1 (sd.fr z q)) (Z1e _),
     lx5.on (λb o hb eb h1 h2'=>by
      have q:=hk b o (λq=>by rw[Z0s.mp q] at hb;lia) eb;exact lx2.keep b o q h1 h2') (Z0c hz lx2.size),inferInstance⟩
   haveI iI2:s.heap.objs.size+1<h2.objs.size:=Z0b iI (Z0c hz lx2.size)
   refine P7 (Z1c (C5f (s:={s5 with heap:=h2,toks:=tk+1}) G hD hr pt g14 k14 g11 r11 g9 r9 cx hsc sd (by lia) iI2 I2) (λf s3 h3 hz3=>?_) λJ J z=>z)
   refine A7 h3 λq'3 I3 kk=>?_
   clear h3
   subst q'3
   exact O2 rfl ⟨I3,Z0b iI2 hz3⟩ (kk _ _ ((lx2.keep _ _ st' n1 iL).1 iF) n1 iR.symm iL iF)
 . intro s5 h' tk hi hk hz
   obtain⟨⟨m',l,vs,e',gr,tt',tg',d5,a1,a2,a3,a4,hT,hl,hgr,hgb,hTl,hvs,lR5,rows,lx5,os5⟩,iI⟩:=hi
   have d6:=d5.but hk hw cx.frame
   refine q _ ⟨s.heap.objs.size+1,_,l,vs,e',gr,tt',tg',d6,a1,a2,a3,a4,hT,hl,hgr,hgb,hTl,hvs,hk _ _ (λq=>iR (Z0s.mp q)) lR5,rows.keep λz o ez J J h3=>hk z o (λq=>h3 (Z0s.mp q)) ez,?_,inferInstance⟩
   refine lx5.on (λb o hb eb h1 h2'=>?_) hz
   have q:=hk b o (λq=>by rw[Z0s.mp q] at hb;lia) eb
   exact⟨λJ=>q,o.slots,q⟩
 . rw[rz] at hI
   show h4.get? _=_
   rw[hI]
   simp
end
section
variable{K:Frag}
variable{S:Addr}{lo:Nat}{Q:Flow->Shared->Prop}
structure Fns(gv:Nat->Option Value)(K:Frag):Prop where
 f14:∃a,gv 14=some (.ref a)/\FnRaw gv cc0 K (A4 14) [0,1] [] a
 f11:∃a,gv 11=some (.ref a)/\FnRaw gv cc0 K (A4 11) [0,1,2] [] a
 f9:∃a,gv 9=some (.ref a)/\FnRaw gv cc0 K (A4 9) [0,1] [] a
 f7:∃a,gv 7=some (.ref a)/\FnRaw gv cc0 K (A4 7) [0,1] [] a
 f6:∃a,gv 6=some (.ref a)/\FnRaw gv cc0 K (A4 6) [0,1] [] a
 f5:∃a,gv 5=some (.ref a)/\FnRaw gv cc0 K (A4 5) [0] [] a
 f4:∃a,gv 4=some (.ref a)/\FnRaw gv cc0 K (A4 4) [0] [] a
 f2:∃a,gv 2=some (.ref a)/\FnRaw gv cc0 K (A4 2) [0,1] [] a
 f15:∃a,gv 15=some (.ref a)/\FnRaw gv cc0 K (A4 15) [0,1] [] a
 f13:∃a,gv 13=some (.ref a)/\FnRaw gv cc0 K (A4 13) [0,1] [] a
 f1:∃a,gv 1=some (.ref a)/\FnRaw gv cc0 K (A4 1) [0] [] a
theorem C56[Og s og](G:GT w T1 cc0 gv mg mb A0 K)(hD:D<recursionLimit)(hr:SoAll og w T1 cc0 gv A0 pc K D U (run T1 P3 NW) NW)(pt:N9 og w T1 cc0 gv A0 pc K D U P3)(fns:Fns gv K){f7:Addr}(r7:FnRaw gv cc0 K (A4 7) [0,1] [] f7)(ca:CA D U (NW+2) A fs)(st:St gv an0 A0 (ΘP S) HP fs s.heap)(low:A0.get? S=none){many:Nat}(hm:many<=8){tm:Tok}
 (k:∀x s' l,RowOut gv s.heap.objs.size s'.heap x l->D9 0 l->l.length=many->(A3 l).length<=100 * many->Lx S S fs s.heap s'.heap->Pool s'.heap S->A0.StaysIn s'.heap->s'.heap.FunFrames A0 fs->∀ [Og s' og],R (.ok (.ret (.ref x))) s') :
 codeAny (model pg w) A (.call (.ref f7) ⟨[.ref S, .int (many:Int) tm],[]⟩) R s:=by
 refine A1 fns.f14 λf14 g14 r14=>?_
 refine A1 fns.f11 λf11 g11 r11=>?_
 refine A1 fns.f9 λf9 g9 r9=>?_
 refine N6 (n:=NW+1) G hD r7 (vs:= [.ref 0, .int (.ofNat many)]) (l:= [(0, .ref 0),(1, .int (.ofNat many))]) rfl ca st ⟨⟨by rw[C6];decide,rfl⟩,⟨tm,rfl⟩,trivial⟩ λenv h₀ tk J hsc cx at' kp e3=>?_
 have hz:s.heap.objs.size<h₀.objs.size:=by obtain⟨m,hn,_⟩:=at'.fr;rw[e3] at hn;exact hn.lt
 conv=>arg 3;arg 1;whnf
 refine A6q (s:={s with heap:=h₀,toks:=tk}) (H:=HP) (l:= [(0, .ref 0),(1, .int (.ofNat many))]) (is:= [2,3,4]) (kk:=A7h many) (kx:=λJ J=>false) hr rfl (rfl) (by rw[hsc];kernel_rfl) (rfl) (by rw[hsc];kernel_rfl) (A16 D42 many (by lia)) (cx.low (Z1d _)) at' (λJ J z=>(Z0u z).elim) ?_
 intro l' H' Θ' s2 hk X a2 J
 refine A0i (C0q hk) λq1 z0 q0 q2 q'1 q4=>?_
 refine A1 q'1 λr q3 er=>?_
 refine A1 a2.fr λm' hn' F=>?_
 refine D6 (F 0 "source" .local (.ref 0) (gk hsc) q0) λc0 n0 J q'2=>?_
 subst q'2
 obtain⟨c1,n1,tm1,rfl⟩:=F 1 "many" .local (.int (.ofNat many)) (gk hsc) q1
 obtain⟨c2,n2,tt,rfl⟩:=F 2 "text" .local (.str []) (gk hsc) q2
 refine D6 (F 3 "rows" .local (.ref r) (gk hsc) q3) λc3 n3 hrn q'5=>?_
 subst q'5
 obtain⟨c4,n4,tg,rfl⟩:=F 4 "greatest" .local (.int (.ofNat 0)) (gk hsc) q4
 haveI a0:Θ'.a 0=S:=(X.same 0 (by rw[C6];decide)).1
 rw[a0] at n0
 haveI hn:0<H'.n:=Z0b (by rw[C6];decide) X.le
 haveI nfS:S∉frs (env :: fs):=λhL=>(at'.st.apart 0 (by rw[C6];decide) S hL).1 rfl
 haveI d2:Hd A0 S env fs m' s2.heap:=⟨a2.st.stays,a2.st.frames,hn',a0▸K3 a2.st z0 hn,low,nfS⟩
 refine A1 (a2.st.obj r hrn) λo1 eo1 r1=>?_
 obtain rfl:=Z0a (eo1.symm.trans er)
 refine B4 r1 λvs e lR vv=>?_
 have ev:vs= #[]:=by rw[<-Z1x (xs:=vs),vv.zero]
 subst ev
 have r0:1<=r:=by
  rcases Z4z r with q | q
  . rw[q,U2 z0] at er;cases er
  . exact q
 have sd:Stand A0 S (Θ'.a r) env fs s.heap.objs.size h₀:=⟨e3,(st.lt 0 (by rw[C6];decide)).1,λL hL=>A4q st.frames hL,hz,X.new r r0 hrn _ (.inl rfl),(a2.st.low r hrn).1⟩
 refine Z0j (D3p G hD hr pt g14 r14.keep g11 r11 g9 r9 cx hsc sd hm d2 n0 n1 n3 n2 n4 lR (Lx.extL cx.frame X) λs3 hI=>?_)
 obtain⟨I,hI⟩:=hI
 refine C7h (I:=I) hr (cx.low (Z1d _)) hsc sd hm hI λx s' l ro hT hl hTl lx pl sy fr=>?_
 exact k x s' l ro hT hl hTl (lx.leave kp (Z0o hz) e3) pl sy fr.2.2
end
noncomputable def A7w{β:Type}(e:O)(f:Wt->Option β):Option β:=if h:e.ctorIdx=4 then O.ghost.elim (motive:=λJ=>Option β) e h f else none
@[elab_as_elim] theorem D5a{P:O->Prop}{e:O}{β:Type}{f:Wt->Option β}{y:β}(h:A7w e f=some y)(q:∀t,f t=some y->P (.ghost t)):P e:=
 (Mine.el h).elim λz h=>O.ghost.elim (motive:=λe=>∀z,O.ghost.elim (motive:=λJ=>Option β) e z f=some y->P e) e z (λt J h=>q t h) z h
def P2:Nat->List V->Hp->K->K->Option Bool:=λg vs h k kx=>bB (Nat.beq g 86) (on1 vs λv=>U9 v λa s o=>bB (bB (Nat.beq a 0) (bB (L5 s) o false) false)
 ((h.get 0).bind λx=>A7w x λt=>some (bB (Nat.ble h.n 100000) (k (.ref h.n) (h.new (.lz 88 [] t))) false)) none) none
section
set_option maxRecDepth 1000000
noncomputable def stN:List (List Nat):= [
[76,0,54,77,78,79,80,81,82,83,84,85,0,62,77,86,87,0,88,89,4,90,91,92,93,94,95,96],
[76,97,98,52,59,53,80,52,76,91,53,78,99,100,90,0,101,0,64,91,102,103,104,52,91,54,105,53],
[76,106,0,107,91,108,94,109,96,110,54,111,52,0,78,112,53,54,0,113,91,114,94,54,0,115,52,91,54,94,53],
[76,81,55,59,54,116,52,76,91,53,54,58,0,71,67,77,117,118,54,0,119,77,120,79,80,81,121,90,122],
[123,124,125,126,81,52,0,54,77,53,104,52,91,54,94,53,54,52,96,54,127,53],
[128,81,129,0,62,91,54,77,62,500,86,0,70,77],
[130,80,81,86,0,131],
[132,133,134,87,116,81,52,0,135,136,137,92,54,77,112,138,139,87,89,54,140,52,0,54,77,53,53],
[132,140,141,122,85,81,52,0,117,118,92,54,77,53],
[142,133,134,116,81],
[143,144,145,99],
[146,147,62,58,96],
[148,130,80,81]]
def E2(i:Nat):Tk:=bB (Nat.beq i 500) ⟨V6,[],gN 2⟩ (bB (Nat.ble 76 i) ((nth pcw (Nat.sub i 76)).getD ⟨[],E7⟩).tk ((nth pcs i).getD ⟨[],E7⟩).tk)
noncomputable def B28:Tk:=⟨[115,105,103,110],[40], .none⟩
noncomputable def R7:Tk:=⟨[115,105,103,110],[41], .none⟩
def Y3:Wt:= .node (E9 E7 (.pl 0 2000)) .leaf .leaf
def A77(e:Wt)(ws:List Tk):Nat->Wt:=List.rec (motive:=λJ=>Nat->Wt) (λJ=>e) (λt J ih j=> .node (E9 t (.pl 0 j)) (ih (Nat.succ j)) .leaf) ws
def A5r(ws:List Tk):Wt:=A77 (.node (E9 O5 (.pl 0 500)) (.node (E9 O5 (.pl 0 501)) Y3 .leaf) .leaf) ws 0
def B0l(ws:List Tk):Nat->Wt:=List.rec (motive:=λJ=>Nat->Wt) (λJ=>Y3) (λt J ih j=> .node (E9 t (.pl 0 j)) (ih (Nat.succ j)) Y3) ws
def A3r(ws:List Tk):Wt:=match ws with | []=> .leaf | t :: r=> .node (E9 t (.pl 0 0)) (B0l r 1) .leaf
def A3v(a b:Tk):Bool:=bB (teq a.kind b.kind) (teq a.text b.text) false
def A3t(ws:List Tk):Nat->Nat->Wt:=List.rec (motive:=λJ=>Nat->Nat->Wt) (λj d=>bB (Nat.beq d 0) (.node (E9 R7 (.pl 0 1000)) Y3 .leaf) .leaf)
 (λt r ih j d=> .node (E9 t (.pl 0 j)) (ih (Nat.succ j) (bB (A3v t B28) (Nat.succ d) (bB (A3v t R7) (Nat.sub d 1) d))) (bB (Nat.beq d 0) (.node (E9 R7 (.pl 0 1000)) (A77 Y3 (t :: r) j) .leaf) .leaf)) ws
def HT(t:Wt):Hp:=(⟨.leaf,0⟩:Hp).new (.ghost t)
def T8:Fn:=(BtG T1.fns 17).getD ⟨[],[], .nil⟩
noncomputable def NP:Nat:=300
def A6w(v:V):Bool:=bPl v λa b=>bB (Nat.beq a 0) (Nat.beq b 2000) false
def A60(v:V):Bool:=bPl v λa b=>bB (Nat.beq a 0) (Nat.beq b 1000) false
def W5(t:Wt)(k kx:V->Bool):Bool:=(run T1 P2 NP).call T8 [.txt 0 [] true] (HT t) (λv J=>k v) (λv J=>kx v)
def C09(s:List Nat):Bool:=W5 (A5r (s.map E2)) (λJ=>true) (λJ=>false)
def D1v(s:List Nat):Bool:=W5 (A3r (s.map E2)) (λJ=>true) A6w
def D1u(s:List Nat):Bool:=W5 (A3t (s.map E2) 0 0) (λJ=>false) A60
end
section
set_option maxRecDepth 1000000
def E4(i:Nat):Tx:=bB (Nat.beq i 500) [63,50] (bB (Nat.ble 76 i) ((nth pcw (Nat.sub i 76)).getD ⟨[],E7⟩).told ((nth pcs i).getD ⟨[],E7⟩).told)
def A7l:Fn:=(BtG T1.fns 3).getD ⟨[],[], .nil⟩
def D4l:X:=A7l.body.x
def B0j:S:=A7l.body.q.b
def B48:S:=A7l.body.q.q
noncomputable def B0b(w:Tx):Loc:= [(0, .ref 0),(2, .txt 1 [] false),(3, .ref 1),(4, .str w)]
noncomputable def D1n(a:V)(f:Nat->Bool):Bool:=Z8 a λg m=>bB (Nat.beq g 1) (f m) false
def A9n(w:Tx)(l:Loc)(h:Hp):Bool:=bB (A0f 0 (lkG 0 l)) (bB (A0f 1 (lkG 3 l)) (A6x (h.get 1) λa=>D1n a λm=>A4c (lkG 2 l) λs=>Y6 (λgp=>bB (teq s (ap gp w)) (Nat.beq m (len gp)) false) O4) false) false
def A39(i:Nat):Bool:=(run T1 P3 NW).ss B0j (B0b (E4 i)) HR (λf l h=>bB (K5 (h.get 0)) (fl f (A9n (E4 i) l h) λJ=>false) false) (λJ J=>false)
def B8l(v:Option V):Bool:=E8 v λv=>bWd v λi j=>bB (Nat.beq i 0) (Nat.beq j 0) false
def B1q(l:Loc)(h:Hp):Bool:=bB (B8l (lkG 1 l)) (bB (K5 (h.get 0)) (bB (A0f 0 (lkG 0 l)) (bB (A7f [] (lkG 2 l)) (newList (lkG 3 l) h) false) false) false) false
def A0g(i:Nat):Bool:=bB (Nat.beq i 500) true (Nat.ble (Nat.succ i) 149)
theorem D75:(run T1 P3 NW).e D4l [(0, .ref 0),(1, .wd 0 0)] HP (λv h=>oB (A5w h v) false λvs=>oB (A0v [2,3] vs [(0, .ref 0),(1, .wd 0 0)]) false λl=>B1q l h) (λJ J=>false)=true:=by kernel_rfl
theorem C5q:(run T1 P3 NW).ss B48 A5e HR (λf J h=>bB (K5 (h.get 0)) (fl f false λv=>A2r v h) false) (λJ J=>false)=true:=by kernel_rfl
theorem C0j:bB (A39 500) (P0 149 A39) false=true:=by kernel_rfl
theorem C90:bB (Nat.ble (E4 500).length 60) (P0 149 λi=>Nat.ble (E4 i).length 60) false=true:=by kernel_rfl
theorem C4p:Nat.beq pcs.length 76&&Nat.beq (pcs.length+pcw.length) 149=true:=by kernel_rfl
theorem D8e:C5 stN (λs=>C5 s A0g)=true:=by kernel_rfl
end
theorem D6r:pvs[49]?=some ⟨0,[63,50],2,2⟩:=rfl
theorem D0o{i gr:Nat}(h:A0g i=true)(hg:i=500->gr=0)(hg2:gr<=1000):Said (E4 i) (E2 i) gr (if i=500 then 2 else gr):=by
 by_cases q:i=500
 . subst q;obtain rfl:=hg rfl;exact B8m (p:=⟨0,[63,50],2,2⟩) (Z1p D6r)
 . refine re (Z0m q) ?_;have q1:Nat.beq i 500=false:=Bool.eq_false_iff.mpr λe=>q (Z0e e);unfold A0g at h;rw[q1] at h;haveI h:Nat.ble (i+1) 149=true:=h;rw[C8,decide_eq_true_eq] at h;have pl:=C4p;rw[Bool.and_eq_true] at pl;have l1:=Z0e pl.1;have l2:=Z0e (of_decide_eq_true pl.2);have eT:E4 i=(bB (Nat.ble 76 i) ((nth pcw (Nat.sub i 76)).getD ⟨[],E7⟩) ((nth pcs i).getD ⟨[],E7⟩)).told/\E2 i=(bB (Nat.ble 76 i) ((nth pcw (Nat.sub i 76)).getD ⟨[],E7⟩) ((nth pcs i).getD ⟨[],E7⟩)).tk:=by
    unfold E4 E2;refine re q1 ?_;cases Nat.ble 76 i <;> exact⟨rfl,rfl⟩
   rw[eT.1,eT.2];cases z:Nat.ble 76 i with
   |true=>
    haveI hi:i - 76<pcw.length:=by rw[l1] at l2;exact Nat.lt_of_add_lt_add_left (n:=76) (l2▸(Nat.add_sub_of_le (Z0l z)).symm▸h)
    refine A8n (p:=(nth pcw (Nat.sub i 76)).getD ⟨[],E7⟩) (.inr ?_) hg2;rw[A1h,show Nat.sub i 76=i - 76 from rfl,Z0w hi];exact List.getElem_mem hi
   |false=>
    haveI z:¬76<=i:=λq=>by simp only[C8,decide_eq_true q] at z;cases z
    haveI hi:i<pcs.length:=Z0b (Nat.not_le.mp z) (by decide);refine A8n (p:=(nth pcs i).getD ⟨[],E7⟩) (.inl ?_) hg2;rw[A1h,Z0w hi];exact List.getElem_mem hi
theorem C4h{i:Nat}(h:A0g i=true):A39 i=true/\(E4 i).length<=60:=by
 refine A8 (A5 C0j) λa1 a2=>?_;obtain⟨b1,b2⟩:=A5 C90;cases q:Nat.beq i 500 with
 |true=>rw[Z0e q];exact⟨a1,Z0l b1⟩
 |false=>
  unfold A0g at h;rw[q] at h;haveI h:Nat.ble (i+1) 149=true:=h;rw[C8,decide_eq_true_eq] at h;exact⟨A16 a2 i (by assumption),Z0l (A16 b2 i (by assumption))⟩
theorem C9y{w:Tx}{l:Loc}{H:Hp}(h:A9n w l H=true):lkG 0 l=some (.ref 0)/\lkG 3 l=some (.ref 1)/\∃gp,gp∈O4/\H.get 1=some (.log [.lin 1 gp.length])/\lkG 2 l=some (.txt 1 (gp ++ w) false):=by
 refine A8 (A5 h) λh1 h=>A8 (A5 h) λh2 h=>A1 (B1v h) λa e1 h=>⟨A1n h1,A1n h2,?_⟩;rw[e1];refine A2k h λg m h=>A8 (A5 h) λz h=>A1 (A79 h) λs e4 h=>A1 (A1l h) λgp gm h=>A8 (A5 h) λq4 q5=>?_;rw[J1,decide_eq_true_eq,Q1] at q4;refine⟨gp,gm,?_,by rw[e4,q4]⟩;rw[Z0e z,Z0e q5,D0]
structure PlAt(vs:List Value)(ts:List (Tk × Nat)):Prop where
 len:vs.length=ts.length
 at':∀(i:Nat) v t,vs[i]?=some v->ts[i]?=some t->∃tk,v= .int (t.2:Int) tk
theorem PlAt.snoc{vs:List Value}{ts:List (Tk × Nat)}{v:Value}{t:Tk × Nat}(x:PlAt vs ts)(y:∃tk,v= .int (t.2:Int) tk):PlAt (vs ++ [v]) (ts ++ [t]):=by
 refine⟨by simp only[List.length_append,List.length_append,x.len];rfl,λi u s e1 e2=>?_⟩;by_cases q:i<vs.length
 . rw[Z1l q] at e1;rw[Z1l (by rw[<-x.len];exact q)] at e2;exact x.at' i u s e1 e2
 . rw[Z1o (Z1g.mp q)] at e1;rw[Z1o (by rw[<-x.len];exact Z1g.mp q),<-x.len] at e2;cases z:i - vs.length with
   |zero=>rw[z] at e1 e2;replace e1:=Z0a e1;subst e1;replace e2:=Z0a e2;subst e2;exact y
   |succ k=>rw[z] at e1;exact nn e1
structure NsOk(ns:List Nat):Prop where
 ok:∀i∈ns,A0g i=true
 one:ns.count 500<=1
 few:ns.length<=100
def B62:List Stmt:=(A4 2).body.tail.head?.elim [] A7m
section
variable{K:Frag}
variable{S:Addr}{lo:Nat}{Q:Flow->Shared->Prop}
inductive JoinM(og:OGt)(A0:Heap)(S R:Addr)(env:Env)(fs:List Env)(h₀:Heap)(ns:List Nat)(j:Nat)(m:Str->Option Value)(s:Shared):Prop
 |mk (l:List Turn) (vs:Array Value) (e:Nat) (tt:Tok) (d:Hd A0 S env fs m s.heap) (m1:m "source" = some (.ref S)) (m2:m "places" = some (.ref R)) (m3:m "text" = some (.str (sOf (A3 l)) tt)) (hT:D9 0 l) (hk1:l.map (·.tk)=(ns.take j).map E2) (hk2:l.map (·.told)=(ns.take j).map E4)
  (hg1:G3 0 l=0\/500∈ns.take j) (hg2:G3 0 l<=2) (hTl:(A3 l).length<=100 * j) (hvs:vs.size=j) (lR:IsL s.heap R vs e) (pls:PlAt vs.toList (B6 0 l)) (lx:Lx S env.locals fs h₀ s.heap) (os:Og s og)
theorem C91[Og s og](hr:SoAll og w T1 cc0 gv A0 pc K D U (run T1 P3 NW) NW)(cx:Cx D U NW A env fs)(hsc:env.scope=(A4 2).scope){r:Nat}(sd:Stand A0 S r env fs lo h₀){ns:List Nat}(no:NsOk ns){j i:Nat}(hi:ns[j]?=some i){tw:Tok}(mw:m "word" = some (.str (sOf (E4 i)) tw))(hI:JoinM og A0 S r env fs h₀ ns j m s) :
 wpAny (model pg w) A (execs B62 env) (λf s3=>f= .next/\(∃m3,JoinM og A0 S r env fs h₀ ns (j+1) m3 s3)/\∀b o,s.heap.get? b=some o->b≠S->b≠r->b≠env.locals->b∉frs fs->s3.heap.get? b=some o) noE s:=by
 obtain⟨l,vs,e,tt,d,m1,m2,m3,hT,hk1,hk2,hg1,hg2,hTl,hvs,lR,pls,lx⟩:=hI
 haveI rS:r≠S:=Z0q (Z0b (Z1f sd.sLo sd.h0) sd.rh)
 haveI rL:r≠env.locals:=by rw[sd.loc];exact Z0q (Z0b sd.h0 sd.rh)
 haveI rF:r∉frs fs:=λq=>absurd (Z1f (sd.fr r q) (Z0b sd.h0 sd.rh)) (Z1e _)
 have hjn:j<ns.length:=(Z1m.mp hi).1
 haveI few:=no.few
 have iw:=no.ok i (Z1p hi)
 obtain⟨okj,tl⟩:=C4h iw
 haveI st1:=d.listR (T:=A3 l) (g:=0) lR (Z0c (Z0c (Z0z hvs) (Z0c (Z0o hjn) few)) (by decide)) (by unfold D4;exact Z0c (Z0c hTl (Nat.mul_le_mul_left _ (Z0c (Z0o hjn) few))) (by decide)) rS sd.rB (F3 cx.frame rL rF)
 have F1:FR gv (ΘR S r (A3 l) vs.toList 0) HR.n env.scope.names (B0b (E4 i)) m:=
  .cons (x:=Str.ofString "source") (kd:= .local) (gk hsc) m1 ⟨by rw[H7];decide,by rw[ΘR_0.1]⟩ (.cons (x:=Str.ofString "text") (kd:= .local) (gk hsc) m3 ⟨by rw[H7];decide,tt,by rw[ΘR_1.2.2];simp⟩
   (.cons (x:=Str.ofString "places") (kd:= .local) (gk hsc) m2 ⟨by rw[H7];decide,by rw[ΘR_1.1]⟩ (.cons (x:=Str.ofString "word") (kd:= .local) (gk hsc) mw ⟨tw,rfl⟩ .nil)))
 refine hr.ss 39 _ B0j _ HR _ (λJ J=>false) A env fs s _ _ _ (by rw[hsc];kernel_rfl) (show A39 i=true from okj) cx ⟨st1,m,d.ns,F1⟩ ?_ λJ J z=>(Z0u z).elim
 intro f l' H' hk Θ' cf s3 XX a3 fr3 J
 obtain⟨z0,hk⟩:=A5 hk
 cases fr3 with
 |ret vr=>exact ff hk
 |next=>
  obtain⟨q0,q3,gp,gpm,e1,q2⟩:=C9y (show A9n (E4 i) l' H'=true from hk);refine A7 (XX.same 0 (by rw[H7];decide)) λs0a s0d J=>?_;refine A7 (XX.same 1 (by rw[H7];decide)) λs1a s1d s1g=>?_;have a0:Θ'.a 0=S:=s0a.trans ΘR_0.1;haveI a1:Θ'.a 1=r:=s1a.trans ΘR_1.1;haveI gh1:=s1g.trans ΘR_1.2.2;refine A1 a3.fr λm' hn' F=>?_;refine D6 (F 0 "source" .local (.ref 0) (gk hsc) q0) λc1 n1 J q'2=>?_;subst q'2;obtain⟨c2,n2,_,tt2,rfl⟩:=F 2 "text" .local (.txt 1 (gp ++ E4 i) false) (gk hsc) q2;refine D6 (F 3 "places" .local (.ref 1) (gk hsc) q3) λc3 n3 J q'4=>?_;subst q'4;rw[a0] at n1;rw[a1] at n3;have d3:Hd A0 S env fs m' s3.heap:=⟨a3.st.stays,a3.st.frames,hn',a0▸K3 a3.st z0 (by omega),d.low,d.nf⟩;refine A1 (a3.st.obj 1 (by assumption)) λo1 eo1 r1=>?_;obtain rfl:=Z0a (eo1.symm.trans e1);obtain⟨vs',e',ws,lR3,hvs',vws,_⟩:=r1;obtain⟨cva,rfl,_,tm,rfl⟩:=vws.one;rw[gh1] at hvs';haveI keep03:∀(z:Nat) o,s.heap.get? z=some o->z≠S->z≠r->z≠env.locals->z∉frs fs->s3.heap.get? z=some o:=λz o ez h1 h2 h3 h4=>(XX.turn cx.frame ez h1 h2 h3).1 h4;haveI ht:ns.take (j+1)=ns.take j ++ [i]:=by rw[List.take_add_one,hi];rfl
  have g0:i=500->G3 0 l=0:=λq=>by
   rcases hg1 with z | z
   . exact z
   . haveI c1:1<=(ns.take j).count 500:=List.one_le_count_iff.mpr z;have c2:(ns.take (j+1)).count 500<=ns.count 500:=(Z2r _ _).count_le _;rw[ht,Z4d,q] at c2;have:=no.one;have:([500]:List Nat).count 500=1:=rfl;lia
  refine A8 (B51 (t:=⟨gp,E4 i,E2 i,if i=500 then 2 else G3 0 l⟩) hT gpm (D0o iw g0 (by refine Z0c (by assumption) ?_;decide)) (by refine Z0c (by assumption) ?_;decide)) λT1' T2'=>?_
  have eT:A3 (l ++ [⟨gp,E4 i,E2 i,if i=500 then 2 else G3 0 l⟩])=A3 l ++ (gp ++ E4 i):=by rw[A8f];show _ ++ (gp ++ (E4 i ++ []))=_;rw[List.append_nil]
  have gl:gp.length<=30:=Z0l (C0 B6j gp gpm);refine O2 rfl ⟨m',l ++ [⟨gp,E4 i,E2 i,if i=500 then 2 else G3 0 l⟩],vs',e',tt2,d3,n1,n3,?_,T1',?_,?_,?_,?_,?_,?_,by rw[<-a1];exact lR3,?_,?_,inferInstance⟩ keep03
  . rw[n2,gh1,eT];simp
  . rw[Z2l,hk1,ht,Z2l];rfl
  . rw[Z2l,hk2,ht,Z2l];rfl
  . rw[T2',ht];by_cases q:i=500
    . rw[q];exact .inr (by simp)
    . rw[Z0m q];exact hg1.imp id λz=>Z4p _ z
  . rw[T2'];show(if i=500 then 2 else G3 0 l)<=2
    split <;> omega
  . rw[eT,List.length_append,List.length_append];exact Z0c (Nat.add_le_add (by assumption) (Nat.add_le_add gl (by assumption))) (Nat.add_le_add_left (by decide) (100 * j))
  . haveI:=congrArg List.length hvs';rw[Array.length_toList,List.length_append,Array.length_toList,hvs] at this;exact this
  . rw[hvs',A5j];refine pls.snoc ⟨tm,?_⟩;rw[Z2j]
  . exact lx.on (λb o hb' eb' h1 h2=>XX.turn cx.frame eb' h1 (Z0k (Z0b hb' sd.rh)) h2) XX.size
end
section
variable{K:Frag}
variable{S:Addr}{lo:Nat}{Q:Flow->Shared->Prop}
def F0(vs:List Value)(ns:List Nat):Prop:=vs.length=ns.length/\∀(i:Nat) v k,vs[i]?=some v->ns[i]?=some k->∃t,v= .str (sOf (E4 k)) t
theorem D5i[Og s og](hr:SoAll og w T1 cc0 gv A0 pc K D U (run T1 P3 NW) NW)(cx:Cx D U NW A env fs)(hsc:env.scope=(A4 2).scope){r W:Nat}(sd:Stand A0 S r env fs lo h₀){ns:List Nat}(no:NsOk ns){p1 p3 p4:Pos}{vs:Array Value}(hW:s.heap.IsList W vs)(hws:F0 vs.toList ns)(wS:W≠S)(wL:W<lo)(wF:W∉frs fs)
 (mm:m "words" = some (.ref W)) (hM:JoinM og A0 S r env fs h₀ ns 0 m s) (q:∀s',(∃m',JoinM og A0 S r env fs h₀ ns ns.length m' s')->∀ [Og s' og],Q .next s'):wpAny (model pg w) A (exec (.For (.Name "word" p1) (.Name "words" p3) B62 [] p4) env) Q E s:=by
 haveI pm:=pkl hsc "words" 1
 haveI p5:=pkl hsc "word" 4
 haveI rS:r≠S:=Z0q (Z0b (Z1f sd.sLo sd.h0) sd.rh)
 haveI rL:r≠env.locals:=by rw[sd.loc];exact Z0q (Z0b sd.h0 sd.rh)
 have rF:r∉frs fs:=λq=>absurd (Z1f (sd.fr r q) (Z0b sd.h0 sd.rh)) (Z1e _)
 haveI wE:W≠env.locals:=by rw[sd.loc];exact Z0k wL
 have wR:W≠r:=Z0k (Z0b (Z1f wL sd.h0) sd.rh)
 obtain⟨l,vs0,e,tt,d,m1,m2,m3,hT,hk1,hk2,hg1,hg2,hTl,hvs,lR,pls,lx⟩:=hM
 haveI rlt:r<s.heap.objs.size:=Z0i lR
 haveI wlt:W<s.heap.objs.size:=by obtain⟨o,ho,_⟩:=hW;exact Z0i ho
 refine wpAny_For (A9 cx pm d.ns mm (Z5e hW ?_)) (λJ=>rfl)
 generalize eh:s.heap.push {cls:= .type "list_iterator",data:= .fields #[.ref W, .int 0 0]}=h4
 haveI hI:h4.IsListIter s.heap.objs.size W 0:=by rw[<-eh];exact T9 _ (Z0r _ rfl) rfl rfl
 haveI kp4:∀b o,s.heap.get? b=some o->h4.get? b=some o:=λb o e=>by rw[<-eh];exact Z0h _ e
 haveI hz4:s.heap.objs.size+1=h4.objs.size:=by rw[<-eh,Heap.size_push]
 haveI d4:=d.keeps kp4
 refine A7 (d.new (Z0g s.heap.objs.size)) λn1 n2 n3=>?_
 have hw:∀b,b∈ [s.heap.objs.size]->b≠S/\A0.get? b=none/\b∉frs (env :: fs):=λb hb=>by rw[Z0s.mp hb];exact⟨n1,n2,n3⟩
 haveI iL:s.heap.objs.size≠env.locals:=λq=>n3 (q▸F2 cx.frame)
 have iF:s.heap.objs.size∉frs fs:=λq=>n3 (F5 q)
 have iR:r≠s.heap.objs.size:=Z0k rlt
 haveI wI:W≠s.heap.objs.size:=Z0k wlt
 have sz0:h₀.objs.size<=s.heap.objs.size:=lx.size
 have I0:JoinM og A0 S r env fs h₀ ns 0 m {s with heap:=h4}:=
  ⟨l,vs0,e,tt,d4,m1,m2,m3,hT,hk1,hk2,hg1,hg2,hTl,hvs,kp4 _ _ lR,pls,lx.trans (Lx.keeps kp4 (by show _<=h4.objs.size;lia)),inferInstance⟩
 have hlen:vs.size=ns.length:=by simp only[<-hws.1,Array.length_toList]
 refine A68 (Walks.list cx.ca.hand s.heap.objs.size W wI vs) (λj s'=>∃m',JoinM og A0 S r env fs h₀ ns j m' s') ?_ ?_ vs.size 0 _ (Z2j _) ⟨m,I0⟩ ⟨hI,by obtain⟨o,ho,x⟩:=hW;exact A6 o (kp4 _ _ ho) x⟩
 . intro j s5 cv h' tk hj hi hP st' hk hz
   obtain⟨m',l,vs5,e',tt',d5,a1,a2,a3,hT,hk1,hk2,hg1,hg2,hTl,hvs,lR5,pls,lx5,os5⟩:=hi
   haveI hjn:j<ns.length:=Z0b hj (Z0z hlen)
   obtain⟨tw,rfl⟩:=hws.2 j cv ns[j] (by rw[Array.getElem?_toList];exact hP) (Z0w hjn)
   have d6:=d5.but hk hw cx.frame
   refine(Hd.store (s:={s5 with heap:=h',toks:=tk}) d6 cx p5 λh2 lx2 d2=>?_)
   haveI k2:∀(z:Nat) o,s5.heap.get? z=some o->z≠s.heap.objs.size->z≠S->z≠env.locals->z∉frs fs->h2.get? z=some o:=λz o ez h1 h3 h4 h5=>(lx2.keep z o (hk z o (λq=>h1 (Z0s.mp q)) ez) h3 h4).1 h5
   have I2:JoinM og A0 S r env fs h₀ ns j _ {s5 with heap:=h2,toks:=tk+1}:=
    ⟨l,vs5,e',tt',d2,(Z0m (by decide)).trans a1,(Z0m (by decide)).trans a2,(Z0m (by decide)).trans a3,hT,hk1,hk2,hg1,hg2,hTl,hvs,k2 _ _ lR5 iR rS rL rF,pls,
     lx5.on (λb o hb eb h1 h2'=>by
      have q:=hk b o (λq=>by rw[Z0s.mp q] at hb;exact Nat.not_le_of_lt hb sz0) eb;exact lx2.keep b o q h1 h2') (Z0c hz lx2.size),inferInstance⟩
   refine Z1c (C91 (s:={s5 with heap:=h2,toks:=tk+1}) hr cx hsc sd no (Z0w hjn) (Z0p rfl) I2) (λf s3 h3=>?_) λJ J z=>z
   refine A7 h3 λq'4 I3 kk=>?_
   clear h3
   subst q'4
   refine A8 st' λq'5 q'6=>?_
   refine A1 q'5 λoi i1 i2=>?_
   refine A1 q'6 λow w1 w2=>?_
   exact T4 rfl I3 ⟨oi,kk _ _ ((lx2.keep _ _ i1 n1 iL).1 iF) n1 iR.symm iL iF,i2⟩ ⟨ow,kk _ _ ((lx2.keep _ _ w1 wS wE).1 wF) wS wR wE wF,w2⟩
 . intro s5 h' tk hi hk hz
   obtain⟨m',l,vs5,e',tt',d5,a1,a2,a3,hT,hk1,hk2,hg1,hg2,hTl,hvs,lR5,pls,lx5,os5⟩:=hi
   have d6:=d5.but hk hw cx.frame
   rw[hlen] at hk1 hk2 hg1 hTl hvs
   refine q _ ⟨m',l,vs5,e',tt',d6,a1,a2,a3,hT,hk1,hk2,hg1,hg2,hTl,hvs,hk _ _ (λq=>iR (Z0s.mp q)) lR5,pls,?_,inferInstance⟩
   refine lx5.on (λb o hb eb h1 h2'=>?_) hz
   have q:=hk b o (λq=>by rw[Z0s.mp q] at hb;exact Nat.not_le_of_lt hb sz0) eb
   exact⟨λJ=>q,o.slots,q⟩
inductive JoinOut(lo:Nat)(h:Heap)(x:Addr)(l:List Turn):Prop
 |mk (r:Nat) (vs:Array Value) (e e2:Nat) (tt:Tok) (x1:IsL h x #[.str (sOf (A3 l)) tt, .ref r] e) (x2:lo<x) (x3:lo<r) (x4:IsL h r vs e2) (x5:PlAt vs.toList (B6 0 l))
def D1q:List Stmt:=(A4 2).body.drop 2
theorem B94[Og s og](hr:SoAll og w T1 cc0 gv A0 pc K D U (run T1 P3 NW) NW)(cx:Cx D U NW A env fs)(hsc:env.scope=(A4 2).scope){r:Nat}(sd:Stand A0 S r env fs lo h₀){ns:List Nat}(few:ns.length<=100)(hI:JoinM og A0 S r env fs h₀ ns ns.length m s)
 (q:∀x s' l,JoinOut lo s'.heap x l->D9 0 l->l.map (·.tk)=ns.map E2->l.map (·.told)=ns.map E4->(A3 l).length<=100 * ns.length->Lx S env.locals fs h₀ s'.heap->Pool s'.heap S->A0.StaysIn s'.heap->s'.heap.FunFrames A0 (env :: fs)->∀ [Og s' og],Q (.ret (.ref x)) s'):wpAny (model pg w) A (execs D1q env) Q E s:=by
 obtain⟨l,vs,e,tt,d,m1,m2,m3,hT,hk1,hk2,hg1,hg2,hTl,hvs,lR,pls,lx⟩:=hI
 rw[Z3p] at hk1 hk2
 haveI rS:r≠S:=Z0q (Z0b (Z1f sd.sLo sd.h0) sd.rh)
 haveI rL:r≠env.locals:=by rw[sd.loc];exact Z0q (Z0b sd.h0 sd.rh)
 have rF:r∉frs fs:=λq=>absurd (Z1f (sd.fr r q) (Z0b sd.h0 sd.rh)) (Z1e _)
 haveI st1:=d.listR (T:=A3 l) (g:=0) lR (Z0c (Z0c (Z0z hvs) few) (by decide)) (by unfold D4;exact Z0c (Z0c hTl (Nat.mul_le_mul_left _ few)) (by decide)) rS sd.rB (F3 cx.frame rL rF)
 refine hr.ss 39 _ B48 A5e HR _ (λJ J=>false) A env fs s (ΘR S r (A3 l) vs.toList 0) _ _ (by rw[hsc];kernel_rfl) C5q cx ⟨st1,m,d.ns,?_⟩ ?_ λJ J z=>(Z0u z).elim
 . exact .cons (x:=Str.ofString "text") (kd:= .local) (gk hsc) m3 ⟨by rw[H7];decide,tt,by rw[ΘR_1.2.2];simp⟩ (.cons (x:=Str.ofString "places") (kd:= .local) (gk hsc) m2 ⟨by rw[H7];decide,by rw[ΘR_1.1]⟩ .nil)
 intro f l' H' hk Θ' cf s3 XX a3 fr3 J
 obtain⟨z0,hk⟩:=A5 hk
 cases fr3 with
 |next=>exact ff hk
 |ret vr=>
  obtain⟨e1,a,rfl,ea⟩:=B59 (show A2r _ H'=true from hk);obtain⟨ha,rfl⟩:=vr;refine A7 (XX.same 0 (by simp only[H7];decide)) λs0a s0d J=>?_;refine A7 (XX.same 1 (by rw[H7];decide)) λs1a s1d s1g=>?_;haveI a0:Θ'.a 0=S:=s0a.trans ΘR_0.1;have a1:Θ'.a 1=r:=s1a.trans ΘR_1.1;haveI gh1:=s1g.trans ΘR_1.2.2;refine A1 (a3.st.obj a ha) λoa eoa ra=>?_;obtain rfl:=Z0a (eoa.symm.trans ea);refine B4 ra λua eu la va=>?_;clear ra;obtain⟨ct,cr,hua,⟨_,tt2,rfl⟩,⟨_,rfl⟩⟩:=va.two;have a12:2<=a\/a=1:=by
   rcases Z4m a 2 with q | q
   . have:a=0\/a=1:=two q;rcases this with rfl | rfl
     . rw[U2 z0] at ea;cases ea
     . exact .inr rfl
   . exact .inl q
  have lx3:Lx S env.locals fs h₀ s3.heap:=lx.on (λb o hb' eb' h1 h2=>XX.turn cx.frame eb' h1 (Z0k (Z0b hb' sd.rh)) h2) XX.size;have xlo:lo<Θ'.a a:=by
   rcases a12 with q | rfl
   . exact Z0b sd.h0 (Z0c lx.size (XX.new a q ha _ (.inl rfl)))
   . rw[a1];exact Z0b sd.h0 sd.rh
  refine A1 (a3.st.obj 1 (by assumption)) λo1 eo1 r1=>?_;obtain rfl:=Z0a (eo1.symm.trans e1);obtain⟨vs',e',ws,lR3,hvs',vws,_⟩:=r1;rw[vws.zero,List.append_nil,gh1] at hvs';rw[a1] at lR3;refine q _ s3 l ⟨r,vs',eu,e',tt2,?_,xlo,Z0b sd.h0 sd.rh,lR3,hvs'▸pls⟩ hT hk1 hk2 hTl lx3 (a0▸K3 a3.st z0 (by exact Z0o (by assumption))) a3.st.stays a3.st.frames;have:ua= #[.str (sOf (A3 l)) tt2, .ref r]:=by
   rw[<-Z1x (xs:=ua),hua,gh1,a1];simp
  rw[this] at la;exact la
end
section
variable{K:Frag}
variable{S:Addr}{lo:Nat}{Q:Flow->Shared->Prop}
noncomputable def ΘW(S W:Addr):Th:=⟨λJ=>S,λJ=>S,λJ=>⟨[],[],λJ=>0,[],1,λJ=>W,λJ=>W⟩⟩
theorem C1l{v:Option V}(h:B8l v=true):v=some (.wd 0 0):=by
 refine F6 h λv h=>D7e h λi j h=>?_;obtain⟨h1,h2⟩:=A5 h;rw[Z0e h1,Z0e h2]
theorem ΘW_st{W:Addr}(st:St gv an0 A0 (ΘP S) HP fs h)(wl:W<h.objs.size)(wS:W≠S)(wF:W∉frs fs):St gv an0 A0 (ΘW S W) HP fs h:=
 ⟨st.stays,st.nb,λi hi=>by
  refine A1 (st.obj i hi) λo e r=>?_;obtain rfl:i=0:=by simp only[C6] at hi;lia
  obtain rfl:=Z0a (e.symm.trans A2j);exact⟨_,e,r⟩,st.lt,st.low,st.sep,λi hi=>by show 0+0<=_;decide,st.frames,st.apart,λi hi j hj=>⟨wl,wl⟩,λi hi j hj k hk=>⟨wS,wS,wS,wS⟩,λi hi L hL j hj=>⟨λq=>wF (by rw[<-show L=W from q];exact hL),λq=>wF (by rw[<-show L=W from q];exact hL)⟩⟩
theorem D3q[Og s og](G:GT w T1 cc0 gv mg mb A0 K)(hD:D<recursionLimit)(hr:SoAll og w T1 cc0 gv A0 pc K D U (run T1 P3 NW) NW){f2:Addr}(r2:FnRaw gv cc0 K (A4 2) [0,1] [] f2)(ca:CA D U (NW+1) A fs)(st:St gv an0 A0 (ΘP S) HP fs s.heap)(low:A0.get? S=none){ns:List Nat}(no:NsOk ns){W:Nat}{vs:Array Value}{eW:Nat}(hW:IsL s.heap W vs eW)(hws:F0 vs.toList ns)(wS:W≠S)(wB:A0.get? W=none)(wF:W∉frs fs)
 (k:∀x s' l,JoinOut s.heap.objs.size s'.heap x l->D9 0 l->l.map (·.tk)=ns.map E2->l.map (·.told)=ns.map E4->(A3 l).length<=100 * ns.length->Lx S S fs s.heap s'.heap->Pool s'.heap S->A0.StaysIn s'.heap->s'.heap.FunFrames A0 fs->∀ [Og s' og],R (.ok (.ret (.ref x))) s') :
 codeAny (model pg w) A (.call (.ref f2) ⟨[.ref S, .ref W],[]⟩) R s:=by
 have wlt:W<s.heap.objs.size:=Z0i hW
 haveI st2:=ΘW_st st wlt wS wF
 refine N6 (n:=NW) G hD r2 (vs:= [.ref 0, .wd 0 0]) (l:= [(0, .ref 0),(1, .wd 0 0)]) rfl ca st2 ⟨⟨by rw[C6];decide,rfl⟩,⟨by rw[C6];decide,Z0v 0,rfl⟩,trivial⟩ λenv h₀ tk J hsc cx at' kp e3=>?_
 have hz:s.heap.objs.size<h₀.objs.size:=by obtain⟨m,hn,_⟩:=at'.fr;rw[e3] at hn;exact hn.lt
 conv=>arg 3;arg 1;whnf
 refine A6q (s:={s with heap:=h₀,toks:=tk}) (H:=HP) (l:= [(0, .ref 0),(1, .wd 0 0)]) (Θ:=ΘW S W) (is:= [2,3]) (kk:=B1q) (kx:=λJ J=>false) hr rfl (rfl) (by rw[hsc];kernel_rfl) (rfl) (by rw[hsc];kernel_rfl) D75 cx at' (λJ J z=>(Z0u z).elim) ?_
 intro l' H' Θ' s2 hk X a2 J
 obtain⟨q1,hk⟩:=A5 hk
 obtain⟨z0,hk⟩:=A5 hk
 obtain⟨q0,hk⟩:=A5 hk
 obtain⟨q2,hk⟩:=A5 hk
 haveI q0:=A1n q0
 haveI q1:=C1l q1
 haveI q2:=B2r q2
 refine A1 (B4g hk) λr q3 er=>?_
 refine A1 a2.fr λm' hn' F=>?_
 refine A7 (X.same 0 (by rw[C6];decide)) λx0a x0d x0g=>?_
 refine D6 (F 0 "source" .local (.ref 0) (gk hsc) q0) λc0 n0 J q'1=>?_
 subst q'1
 refine T7 (F 1 "words" .local (.wd 0 0) (gk hsc) q1) λc1 n1 J J q'2=>?_
 subst q'2
 obtain⟨c2,n2,tt,rfl⟩:=F 2 "text" .local (.str []) (gk hsc) q2
 refine D6 (F 3 "places" .local (.ref r) (gk hsc) q3) λc3 n3 hrn q'4=>?_
 subst q'4
 haveI a0:Θ'.a 0=S:=x0a
 rw[a0] at n0
 rw[x0g] at n1
 haveI hn:0<H'.n:=Z0b (by rw[C6];decide) X.le
 haveI nfS:S∉frs (env :: fs):=λhL=>(at'.st.apart 0 (by rw[C6];decide) S hL).1 rfl
 have d2:Hd A0 S env fs m' s2.heap:=⟨a2.st.stays,a2.st.frames,hn',a0▸K3 a2.st z0 hn,low,nfS⟩
 refine A1 (a2.st.obj r hrn) λo1 eo1 r1=>?_
 obtain rfl:=Z0a (eo1.symm.trans er)
 refine B4 r1 λvs0 e lR vv=>?_
 have ev:vs0= #[]:=by rw[<-Z1x (xs:=vs0),vv.zero]
 subst ev
 have r0:1<=r:=by
  rcases Z4z r with q | q
  . rw[q,U2 z0] at er;cases er
  . exact q
 have sd:Stand A0 S (Θ'.a r) env fs s.heap.objs.size h₀:=⟨e3,(st.lt 0 (by rw[C6];decide)).1,λL hL=>A4q st.frames hL,hz,X.new r r0 hrn _ (.inl rfl),(a2.st.low r hrn).1⟩
 have wE:W≠env.locals:=by rw[e3];exact Z0k wlt
 haveI hW2:=(X.keep W _ (kp _ _ hW) (λi J=>⟨wS,wS⟩) wE).1 (F3 cx.frame wE wF)
 have hx:Lx S env.locals fs h₀ s2.heap:=⟨λb o e h1 h2=>by
  obtain⟨k1,k2⟩:=X.keep b o e (λi hi=>⟨h1,h1⟩) h2;exact⟨λq=>k1 (F3 cx.frame h2 q),k2⟩,X.size⟩
 refine Z0j (D5i hr cx hsc sd no ⟨_,hW2,rfl,eW,rfl⟩ hws wS wlt wF n1 ⟨[],#[],e,tt,d2,n0,n3,n2,trivial,rfl,rfl, .inl rfl,Z1y _,Z1y _,rfl,lR,⟨rfl,λi v t e1 J=>nomatch e1⟩,hx,inferInstance⟩ λs3 hI=>?_)
 obtain⟨m3,hI⟩:=hI
 refine B94 hr cx hsc sd no.few hI λx s' l ro hT hk1 hk2 hTl lx pl sy fr=>?_
 exact k x s' l ro hT hk1 hk2 hTl (lx.leave kp (Z0o hz) e3) pl sy fr.2.2
end
structure PerrQ(K:Frag)(mg:Str->Option Value)(pc:Addr):Prop where
 ga:findIn K (.ref pc) "__getattribute__" = some (some (.builtin "BaseException.__getattribute__"))
 gh:findIn K (.ref pc) "__getattr__" = some none
 exm:exmOne K (.ref pc) (.ref pc)=some true
 sub:subIn K (.ref pc) (.type "BaseException")=some true
 dict:∃cd,clsIn K pc=some cd/\cd.hasDict=true
 sq:∃Sq,mg "SqlError" = some (.ref Sq)/\isIn K (.ref pc) Sq=true
section
variable{K:Frag}{C x dx:Addr}{vs:Array Value}{sl:Array (Option Value)}{name:Str}{v:Value}
theorem C1r{M:Model}{h:Heap}{cd:ClassData}(X:K.In h)(hx:h.get? x=some ⟨.ref C,some dx, .fields vs,sl⟩)(hc:clsIn K C=some cd)(hd:cd.hasDict=true)(hn:h.Ns1 dx m):Looks M h (inOwnDict name (.ref x)) (m name):=by
 intro A Q E s k q;refine Z0d (Z0d (Z2o (k _ _ hx) ?_));refine Z0d (Z2o (k _ _ hx) ?_);dsimp only;refine Z0d ((Z4e X hc) A _ E s k ?_);refine re hd ?_;refine Z0f ?_;exact wpAny_nsGet (hn.keeps k).ns q
theorem A9h{M:Model}{h:Heap}(hx:h.get? x=some ⟨.ref C,some dx, .fields vs,sl⟩):Looks M h (typeOf (.ref x)) (.ref C):=(Looks.ld (part:=none) hx).andThen .now
theorem D6j:builtinKind "BaseException.__getattribute__" = some .slot:=by decide +kernel
theorem D66:splitId "BaseException.__getattribute__" = some ("BaseException", "__getattribute__"):=by decide +kernel
theorem B1x{expr:Bool}{Q:Value->Shared->Prop}(X:K.In s.heap)(PQ:PerrQ K mg C)(hx:s.heap.get? x=some ⟨.ref C,some dx, .fields vs,sl⟩)(hn:s.heap.Ns1 dx m)(hv:m name=some v)(sf:findIn K (.ref C) name=some none)(hh:handedIn v=true)
 (k:Q v {s with toks:=s.toks+1}):wpAny (model pg w) A (getAttr (.ref x) name expr) Q E s:=by
 refine A1 PQ.dict λcd hc hd=>?_
 obtain⟨hh',g,d,t,os⟩:=s
 have L0:Looks (model pg w) hh' (typeOf (.ref x)) (.ref C):=A9h hx
 haveI L1:=Z1z (M:=model pg w) X PQ.ga
 haveI L2:=Z1z (M:=model pg w) X PQ.gh
 haveI Lo:Looks (model pg w) hh' (inOwnDict name (.ref x)) (some v):=hv▸C1r X hx hc hd hn
 haveI Lf:Looks (model pg w) hh' (find (.ref x) (.ref C) name) (.value v):=(Z1z X sf).andThen (Looks.now.andThen (Looks.now.andThen (Lo.andThen (Looks.tag .now))))
 haveI Li:Looks (model pg w) hh' (isInstance (.ref x) (.type "BaseException")) true:=L0.andThen (looks_subIn X PQ.sub)
 refine Z0d (Z2i (Z1b (Z0d (L0.at (Z0d (L1.at ?_))))))
 refine Z0d (show wpAny _ _ (typeLookup (.ref C) "__getattr__") _ _ _ from L2.at ?_)
 refine Z0d (wpAny_attempt (Z1b ?_))
 unfold callGetattribute
 haveI e0:(expr&&onTheHeap (Value.builtin "BaseException.__getattribute__"))=false:=by cases expr <;> rfl
 rw[e0,Z0m (by decide)]
 unfold boundAndCalled
 refine Z0d (Z0f ?_)
 refine Z2g (Z4o F.excAttr_ValueError.ga.plain F.entry_bexc_ga ?_)
 refine check_slot (owner:= "BaseException") (n:= "__getattribute__") ?_ ?_ ?_ ?_ ?_
 . exact D6j
 . exact D66
 . exact Li
 . exact F.args_bexc_ga _ _
 refine Z0d (Z0f (Z0d (Z0f (Z0d (L0.at (Z0d (Lf.at ?_)))))))
 refine Z0f ?_
 show wpAny _ _ (handedOut v) _ _ _
 rw[handedOut_of hh];exact Z0f k
end
theorem C0z:BtG T1.cls 89=some ((BtG T1.cls 89).getD ⟨[],[]⟩):=rfl
theorem C85{H:Hp}{f:Wt->Option Bool}(h:((H.get 0).bind λx=>A7w x f)=some true):∃t,H.get 0=some (.ghost t)/\f t=some true:=by
 refine A1 (bi h) λx e h=>?_;rw[e];exact D5a h λt h=>⟨t,rfl,h⟩
theorem D01{g:Nat}{vs:List V}{H:Hp}{k kx:K}(h:P2 g vs H k kx=some true):g=86/\vs= [.txt 0 [] true]/\∃t,H.get 0=some (.ghost t)/\H.n<=100000/\k (.ref H.n) (H.new (.lz 88 [] t))=true:=by
 refine A8 (B0 h) λh1 h=>⟨Z0e h1,?_⟩;refine M6 h λv h=>A1f h λa s o h=>A8 (B0 h) λh2 h=>A8 (A5 h2) λh3 h4=>A8 (A5 h4) λh4 ho=>A1 (C85 h) λt e h=>A8 (A5 (Z0a h)) λh6 h7=>?_;cases s with
 |cons _ _=>exact ff h4
 |nil=>
  rw[Z0e h3,ho];exact⟨rfl,t,e,Z0l h6,h7⟩
theorem Tells.len{pre:Tx}{pl:Nat->Int}{path:List (List (Nat × V))}{ts:List (Tk × Nat)}(h:Tells pre pl path ts):path.length=ts.length:=by
 induction h with
 |nil=>rfl
 |cons _ _ ih=>rw[List.length_cons,List.length_cons,ih]
theorem Tells.at{pre:Tx}{pl:Nat->Int}{path:List (List (Nat × V))}{ts:List (Tk × Nat)}(h:Tells pre pl path ts):∀{j:Nat} {fs:List (Nat × V)},path[j]?=some fs->∃t v,ts[j]?=some t/\fs=E9 t.1 v/\PlOk pre pl v t.2:=by
 induction h with
 |nil=>intro j fs e;exact nn e
 | @cons t p v path ts h _ ih=>
  intro j fs e;cases j with
  |zero=>replace e:=Z0a e;subst e;exact V7 ((t,p)) v rfl rfl h
  |succ j=>exact ih e
theorem no2{x a b:Nat}(h1:x≠a)(h2:x≠b):x∉ [a,b]:=λq=>by
 rcases List.mem_cons.mp q with q | q
 . exact h1 q
 . exact h2 (Z0s.mp q)
structure WdG(gv:Nat->Option Value)(S:List Addr)(lo:Nat)(h:Heap)(A:List Addr)(v:Value)(t:Tk × Nat)(x d:Addr):Prop where
 v:v= .ref x
 lx:lo<=x/\x<h.objs.size
 ld:lo<=d/\d<h.objs.size
 nx:x∉A
 nd:d∉A
 at':∀Θ n,WdAt gv an0 Θ n h 88 x d (E9 t.1 (.int (.ofNat t.2)))
theorem Wds.addr{Θ:Th}{S:List Addr}{lo:Nat}{h:Heap}{vs:List Value}{ts:List (Tk × Nat)}(x:Wds gv Θ S lo h vs ts) :
 vs.length=ts.length/\∃wa wb:Nat->Addr,∀j t,ts[j]?=some t->∃v,vs[j]?=some v/\WdG gv S lo h [Θ.a 1,Θ.d 1] v t (wa j) (wb j):=by
 refine⟨D8.len x,D8.ind x ⟨λJ=>0,λJ=>0,λJ J e=>nomatch e⟩ λv t J J x J ih=>F9 ih λwa wb g=>?_⟩
 obtain⟨a,d,e,h1,h2,h3,h4,h5,h6,h7,h8⟩:=x
 refine⟨λj=>Nat.casesOn j a wa,λj=>Nat.casesOn j d wb,λj u eu=>?_⟩
 cases j with
 |zero=>
  rw[<-Z0a eu];exact R2 (h5 1 (by decide)) λn1 n2 n3 n4=>⟨v,rfl,e,⟨h1,h3⟩,⟨h2,h4⟩,no2 n1 n2,no2 n3 n4,h8⟩
 |succ j=>exact g j u eu
section
variable{K:Frag}{D U:Nat}
theorem C8o(G:GT w T1 cc0 gv mg mb A0 K)(hD:D+150<recursionLimit)(hr:SoAll og w T1 cc0 gv A0 pc K (D+150) (U+1200) (run T1 P1 NW) NW):N9 og w T1 cc0 gv A0 pc K D U P2:=by
 intro g vs H k kx h a A fs s Θ cvs R hg ca st vr pc' J;obtain⟨rfl,rfl,t,e0,hn,hk⟩:=D01 h;refine A1 (G.fns 86 N8 A5a) λfa q1 fo=>?_;obtain rfl:fa=a:=by rw[hg] at q1;injection q1 with q1;injection q1 with q1;exact q1.symm
 refine⟨?_,fo.keep⟩;obtain⟨cv,rfl,p0,tk,rfl⟩:=vr.one;refine A1 (st.obj 0 p0) λo eo r=>?_;obtain rfl:=Z0a (eo.symm.trans e0);obtain⟨es,path,ts,hp,sc,tl,few⟩:=(r:Told t (Θ.gh 0).pre (Θ.gh 0).suf (Θ.gh 0).pl);haveI hl:=st.gh 0 p0;unfold K7 at hl;rw[es] at hl ⊢;simp only[List.append_nil,if_true];refine B6e (n:=80) G hD hr fo ⟨ca.fr,by have:=ca.dep;lia,by have:=ca.uni;lia,ca.hand⟩ st.stays st.frames (by simpa using hl) sc (by refine Z0c (by assumption) ?_;decide) λs' Θs rd lo=>?_;intro J;refine B4 rd.ex λvs e l1 wd=>?_;obtain⟨len,wa,wb,wg⟩:=wd.addr;haveI lo1:=lo 1 (by decide);haveI sz:vs.size=ts.length:=by rw[<-len];rfl
 generalize eg:(⟨[],[],λJ=>0,[],ts.length,wa,wb⟩:Gh)=g;have g1:g.wn=ts.length:=by rw[<-eg]
 have g2:g.wa=wa:=by rw[<-eg]
 have g3:g.wb=wb:=by rw[<-eg]
 haveI old:=Th.set_old Θ H.n (Θs.a 1) (Θs.a 1) g;haveI nw:=Th.set_new Θ H.n (Θs.a 1) (Θs.a 1) g;haveI la:Θs.a 1<s'.heap.objs.size:=Z0i l1;haveI S1:=st.add (o:= .lz 88 [] t) (a:=Θs.a 1) (d:=Θs.a 1) (g:=g) rd.stays rd.frames hn (λb x eb=>rd.ext.keep b x eb (λi hi=>?_) (λq=>q)) ⟨lo1 _ (.inl rfl),la⟩ ⟨lo1 _ (.inl rfl),la⟩ (by rw[<-eg];show 0+0<=D4;decide) (λj hj=>?_) ?_
 . exact pc'.1 _ _ hk _ _ _ S1.2 S1.1 ⟨by simp only[Hp.new_n];exact Z0g _,by rw[nw.1]⟩
 . haveI:=Z0i eb;exact⟨Z0k (Z0b this (lo i hi _ (.inl rfl))),Z0k (Z0b this (lo i hi _ (.inr rfl)))⟩
 . rw[g1] at hj;refine A1 (wg j ts[j] (Z0w hj)) λv J z=>?_;haveI n1:wa j≠Θs.a 1:=λq=>z.nx (by simp only[q];exact Z2e ..);haveI n2:wb j≠Θs.a 1:=λq=>z.nd (by simp only[q];exact Z2e ..);rw[g2,g3];exact A1o ⟨z.lx.1,z.lx.2,n1,n1⟩ z.ld.1 z.ld.2 n2 n2
 . have lz:LzAt gv (A2 T1 cc0) (Θ.set H.n (Θs.a 1) (Θs.a 1) g) (H.n+1) s'.heap H.n 88 [] t:=by
    refine⟨⟨_,C0z⟩,by rw[nw.2.2,g1];refine Z0c (by assumption) ?_;decide,vs,e,path,by rw[nw.1];exact l1,hp,by rw[nw.2.2,g1];exact sz,by rw[nw.2.2,g1];show 0+path.length=ts.length;rw[tl.len];lia,λj hj=>?_,λj fs' ej=>?_⟩
    . rw[nw.2.2] at hj ⊢;rw[g1] at hj;refine A1 (wg j ts[j] (Z0w hj)) λv ev z=>?_;rw[g2,<-z.v,<-ev,Array.getElem?_toList]
    . rw[nw.2.2,g2,g3];refine F8 (tl.at (show path[j]?=some fs' from ej)) λu v eu q'5 po=>?_;subst q'5;refine A1 (wg j u eu) λJ J z=>?_;obtain⟨C,m,y1,y2,y3,y4,y5⟩:=(z.at' (Θ.set H.n (Θs.a 1) (Θs.a 1) g) (H.n+1));refine⟨C,m,y1,y2,y3,y4,y5.map (A0l (λcv x=>x) (λcv x=>x) (λcv x=>x) ?_)⟩;rintro cv ⟨tk',rfl⟩;generalize u.2=p at po;cases po with
      |pl q=>exact⟨by lia,tk',by rw[(old 0 p0).2.2,q];rfl⟩
      |tlen=>exact⟨by lia,tk',by rw[(old 0 p0).2.2,es];rfl⟩
   exact lz
end
section
set_option maxRecDepth 1000000
theorem D18:C5 stN C09=true:=by kernel_rfl
theorem D6y:C5 stN D1v=true:=by kernel_rfl
theorem D2l:C5 stN D1u=true:=by kernel_rfl
end
theorem C26:BtG T1.fns 17=some T8:=by kernel_rfl
structure Left(A0:Heap)(x:Addr)(fs:List Env)(h h':Heap):Prop where
 stays:A0.StaysIn h'
 frames:h'.FunFrames A0 fs
 keep:∀b o,h.get? b=some o->b≠x->(b∉frs fs->h'.get? b=some o)/\∃sl,h'.get? b=some {o with slots:=sl}
 size:h.objs.size<=h'.objs.size
def Θt(x:Addr)(full:Tx)(pl:Nat->Int):Th:=⟨λJ=>x,λJ=>x,λi=>if i=0 then ⟨full,[],pl,[],0,λJ=>0,λJ=>0⟩ else gh0⟩
theorem C61{t:Wt}:(HT t).get 0=some (.ghost t):=by kernel_rfl
theorem A43{t:Wt}:(HT t).n=1:=rfl
section
variable{K:Frag}{D U:Nat}
theorem C3z{t:Wt}{x:Addr}{full:Tx}{pl:Nat->Int}(sy:A0.StaysIn s.heap)(fr:s.heap.FunFrames A0 fs)(hx:x<s.heap.objs.size)(bx:A0.get? x=none)(fx:x∉frs fs)(hl:full.length<=D4)(tl:Told t full [] pl) :
 St gv an0 A0 (Θt x full pl) (HT t) fs s.heap:=by
 have one:∀i,i<(HT t).n->i=0:=λi hi=>by rw[A43] at hi;omega
 refine⟨sy,by rw[A43];exact(by decide),λi hi=>?_,λJ J=>⟨hx,hx⟩,λJ J=>⟨bx,bx⟩,λi j hi hj hij=>absurd ((one i hi).trans (one j hj).symm) hij,λi hi=>?_,fr,λi J L hL=>⟨λq=>fx ((show L=x from q)▸hL),λq=>fx ((show L=x from q)▸hL)⟩,λi hi j hj=>?_,λi hi j hj=>?_,λi hi L J j hj=>?_⟩
 . obtain rfl:=one i hi
   exact⟨_,C61,tl⟩
 . obtain rfl:=one i hi
   show full.length+0<=_;omega
 . obtain rfl:=one i hi
   exact absurd hj (Z0y _)
 . obtain rfl:=one i hi
   exact absurd hj (Z0y _)
 . obtain rfl:=one i hi
   exact absurd hj (Z0y _)
theorem D0g[Og s og](hr:SoAll og w T1 cc0 gv A0 pc K D U (run T1 P2 NP) NP){fa:Addr}(fo:FnOk gv cc0 K T8 fa)(ca:CA D U NP A fs){t:Wt}{k kx:V->Bool}(h:W5 t k kx=true){x:Addr}{full:Tx}{pl:Nat->Int}{tk:Tok}
 (sy:A0.StaysIn s.heap) (fr:s.heap.FunFrames A0 fs) (hx:x<s.heap.objs.size) (bx:A0.get? x=none) (fx:x∉frs fs) (hl:full.length<=D4) (tl:Told t full [] pl)
 (ok:∀v cv s',k v=true->Left A0 x fs s.heap s'.heap->∀ [Og s' og],R (.ok (.ret cv)) s')
 (no:∀pv p e s' Θ' n',kx pv=true->(∀cv,VR gv (Θt x full pl) 1 pv cv->∃t,cv= .int p t)->Left A0 x fs s.heap s'.heap->H9 gv A0 s.heap.objs.size pc Θ' n' .none (.int p) e s'.heap->∀ [Og s' og],R (.error (.ref e)) s')
 (pls:∀pv,kx pv=true->∃p:Int,∀Θ' n' cv,(Θ'.gh 0)=(Θt x full pl).gh 0->VR gv Θ' n' pv cv->∃t,cv= .int p t) :
 codeAny (model pg w) A (.call (.ref fa) ⟨[.str (sOf full) tk],[]⟩) R s:=by
 have left:∀{Θ':Th} {H':Hp} {s':Shared},Ext (frs fs) noX (Θt x full pl) (HT t).n s.heap Θ' H'.n s'.heap->St gv an0 A0 Θ' H' fs s'.heap->Left A0 x fs s.heap s'.heap:=λX S=>
  ⟨S.stays,S.frames,λb o e hb=>X.keep b o e (λJ J=>⟨hb,hb⟩) (λq=>q),X.size⟩
 refine hr.c _ _ _ _ _ _ A fs s _ _ R fo h ca (C3z sy fr hx bx fx hl tl) ⟨⟨by rw[A43];exact(by decide),tk,?_⟩,trivial⟩ ⟨λv H' hk Θ' cv s' X S vr=>ok v cv s' hk (left X S),λpv H' hk Θ' e s' X S xh=>?_⟩
 . show Value.str (sOf full) tk= .str (sOf (full ++ [] ++ if true then [] else [])) tk
   simp
 . intro J
   obtain⟨p,hp⟩:=pls pv hk
   have g0:=(X.same 0 (by rw[A43];exact(by decide))).2.2
   refine no pv p e s' Θ' H'.n hk (λcv vr=>hp _ _ cv rfl vr) (left X S) ?_
   obtain⟨v1,⟨⟨dx,vs,sl,o1,o2,m,cv,m1,m2,m3,vr⟩,lw,lo⟩,th⟩:=xh
   exact⟨v1,⟨⟨dx,vs,sl,o1,o2,m,cv,m1,m2,m3,hp _ _ cv g0 vr⟩,lw,lo⟩,th⟩
end
theorem B1i:(Str.ofString "ParseError" == Str.ofString "__debug__")=false/\(Str.ofString "SqlError" == Str.ofString "__debug__")=false:=⟨rfl,rfl⟩
theorem B8i:lkS "isinstance" cc0.glob=some (.bi 1):=rfl
theorem C8v:lkS "str" cc0.glob=some (.bi 5):=rfl
section
variable{K:Frag}
variable{S:Addr}{lo:Nat}{Q:Flow->Shared->Prop}
def Q9(og:OGt)(w:World)(gv:Nat->Option Value)(A0:Heap)(pc:Addr)(D U:Nat)(fa:Addr)(T:Tx)(x:Addr)(okC:Prop)(P:Int->Prop):Prop:=
 ∀(A:Around) (fs:List Env) (s:Shared) (R:Result->Shared->Prop) (tk:Tok),CA D U NP A fs->A0.StaysIn s.heap->s.heap.FunFrames A0 fs->x<s.heap.objs.size->A0.get? x=none->x∉frs fs->
  (okC->∀cv s',Left A0 x fs s.heap s'.heap->∀ [Og s' og],R (.ok (.ret cv)) s')->(∀p e s' Θ' n',P p->Left A0 x fs s.heap s'.heap->H9 gv A0 s.heap.objs.size pc Θ' n' .none (.int p) e s'.heap->∀ [Og s' og],R (.error (.ref e)) s')->∀ [Og s og],
  codeAny (model pg w) A (.call (.ref fa) ⟨[.str (sOf T) tk],[]⟩) R s
theorem C1f{a:Addr}{m m':Str->Option Value}(x:h.Ns a m)(y:h.Ns a m'):m=m':=x.eq_nsMap.trans y.eq_nsMap.symm
theorem Lx.left{x:Addr}(hf:env.frame=some env.locals)(l:Left A0 x (env :: outer) h h'):Lx x env.locals outer h h':=⟨λb o e h1 h2=>by
 obtain⟨k1,k2⟩:=l.keep b o e h1;exact⟨λq=>k1 (F3 hf h2 q),k2⟩,l.size⟩
theorem Lx.kept{x L:Addr}(l:Lx x L outer h h')(hf:env.frame=some L)(k:Kept (frs (env :: outer)) h.objs.size h' h''):Lx x L outer h h'':=
 l.on (λb o hb e h1 h2=>by
  obtain⟨k1,k2⟩:=k.keep b o e (.inl hb);refine⟨λq=>k1 λz=>?_,k2⟩;unfold frs at z;rw[List.filterMap_cons,hf] at z;rcases List.mem_cons.mp z with z | z
  . exact h2 z
  . exact q z) k.size
theorem Ns.kept{S:List Addr}{lo:Nat}{a:Addr}(k:Kept S lo h h')(x:h.Ns a m):h'.Ns a m:=by
 refine G4 x λo es ep e d r=>?_;obtain⟨_,sl,e'⟩:=k.keep a o e (.inr λvs q=>by rw[d] at q;cases q);exact S9 _ es ep e' d r
theorem C3h(G:GT w T1 cc0 gv mg mb A0 K)(PK:PerrK K A0 pc)(PQ:PerrQ K mg pc)(cx:Cx D U n A₀ env fs)(hsc:env.scope=(A4 6).scope){e dx:Addr}{vs:Array Value}{sl:Array (Option Value)}{p:Int}{p1 p2 p3 p4 p5 p6 p7 p8 p9 pa pb pd q6 q7:Pos}(sy:A0.StaysIn s.heap)(hn:s.heap.Ns env.locals m)(me:m "e" = some (.ref e))
 (hx:s.heap.get? e=some ⟨.ref pc,some dx, .fields vs,sl⟩) {md:Str->Option Value} (hd:s.heap.Ns1 dx md) (mm:∃x t,md B8=some (.str x t)) {tp:Tok} (mp:md C7=some (.int p tp)) {b:Expr}
 (q:∀tk,Q (.ret (.int p tp)) {s with toks:=tk}):wpAny (model pg w) A (execs [.Return (some (.IfExp (.BoolOp .And [.Call (.Name "isinstance" p1) [.Name "e" p2, .Name "SqlError" p3] [] p4, .Call (.Name "isinstance" p5) [.Attribute (.Name "e" p6) "message" p7, .Name "str" p8] [] p9] pa) (.Attribute (.Name "e" q6) "place" q7) b pb)) pd] env) Q E s:=by
 have pe:=pkl hsc "e" 2
 haveI pi:=pkg hsc "isinstance" 4
 haveI ps:=pkg hsc "SqlError" 5
 haveI pt:=pkg hsc "str" 6
 refine A1 PQ.sq λSq s1 s2=>?_
 refine F9 mm λxm tm em=>?_
 have X:K.In s.heap:=G.kin.keeps sy
 refine Z0j (Z1u (IfExp_ (Z4n (isTrue_plain (L8 (cv:= .builtin "isinstance") G cx pi B8i rfl (λJ=>H6) sy rfl ?_)))))
 refine Z0n (A9 cx pe hn me (Z0n (B0o G cx ps s1 B1i.2 sy (Z0x ?_))))
 refine isi_call X (λM=>A9h hx) s2 (by intro q;cases q) (Z1a ?_)
 refine Z4n (isTrue_plain (L8 (cv:= .builtin "isinstance") G cx pi B8i rfl (λJ=>H6) sy rfl ?_))
 refine re (J8 rfl) ?_
 refine Z0n ?_
 refine Z0d (A9 cx pe hn me (Z0d (Z1r (Z0d (Z1b ?_)))))
 refine B1x X PQ hx hd (show md "message" = _ from em) PK.msg rfl (Z0d (Z3a (Z0f ?_)))
 refine Z0n (A13 (s:={s with toks:=s.toks+1}) G cx pt C8v sy λc hc=>Z0x ?_)
 obtain rfl:Value.type "str" = c:=Z0a (hc ⟨λJ=>0,λJ=>0,λJ=>gh0⟩ 0)
 refine IsiPair.str_str (Z1a ?_)
 rw[Z0p rfl]
 refine isTrue_and_nil ?_
 refine Z0d (A9 (s:={s with toks:=s.toks+1}) cx pe hn me (Z0d (Z1r (Z0d (Z1b ?_)))))
 exact B1x (s:={s with toks:=s.toks+1}) X PQ hx hd (show md "place" = _ from mp) PK.plc rfl (Z0d (Z3a (Z0f (q _))))
end
section
variable{K:Frag}
variable{S:Addr}{lo:Nat}{Q:Flow->Shared->Prop}
theorem B6f[Og s og](G:GT w T1 cc0 gv mg mb A0 K)(hD:D<recursionLimit)(hpc:mg J0=some (.ref pc))(PK:PerrK K A0 pc)(PQ:PerrQ K mg pc){f6:Addr}(r6:FnRaw gv cc0 K (A4 6) [0,1] [] f6)(ca:CA D U (NP+1) A fs)(sy:A0.StaysIn s.heap)(fr:s.heap.FunFrames A0 fs)
 {k fa:Nat} (gk:gv k=some (.ref fa)) (kf:keepIn K (.ref fa)=true) {T:Tx} {x:Addr} {okC:Prop} {P:Int->Prop} (rd:Q9 og w gv A0 pc D U fa T x okC P) (hx:x<s.heap.objs.size) (bx:A0.get? x=none) (fx:x∉frs fs) {tT:Tok}
 (ok:okC->∀s',Left A0 x fs s.heap s'.heap->∀ [Og s' og],R (.ok (.ret .none)) s') (no:∀p t s',P p->Left A0 x fs s.heap s'.heap->∀ [Og s' og],R (.ok (.ret (.int p t))) s'):codeAny (model pg w) A (.call (.ref f6) ⟨[.str (sOf T) tT, .ref fa],[]⟩) R s:=by
 refine N6 (n:=NP) G hD r6 (Θ:=⟨λJ=>0,λJ=>0,λJ=>gh0⟩) (H:=HE) (vs:= [.str T, .glob k]) (l:= [(0, .str T),(1, .glob k)]) rfl ca (St.none sy fr) ⟨⟨tT,rfl⟩,gk,trivial⟩ λenv h₀ tk hh hsc cx at' kp e3=>?_
 obtain⟨m,hn,m0,m1,mM⟩:∃m,h₀.Ns env.locals m/\m "text" = some (.str (sOf T) tT)/\m "reader" = some (.ref fa)/\m B8=none:=⟨_,hh.2 rfl,rfl,rfl,rfl⟩
 haveI sy0:=at'.st.stays
 haveI fr0:=at'.st.frames
 have hz:s.heap.objs.size<h₀.objs.size:=by rw[e3] at hn;exact hn.lt
 haveI p0:=pkl hsc "text" 0
 haveI p1:=pkl hsc "reader" 1
 haveI p2:=pkl hsc "e" 2
 have p3:=pkg hsc "ParseError" 3
 have xL:x≠env.locals:=by rw[e3];exact Z0k hx
 have fin:∀s':Shared,A0.StaysIn s'.heap->s'.heap.FunFrames A0 (env :: fs)->Lx x env.locals fs h₀ s'.heap->Left A0 x fs s.heap s'.heap:=λs' a b l=>⟨a,b.2.2,λc o e hc=>l.keep c o (kp c o e) hc (by rw[e3];exact Z0k (Z0i e)),Z0c (Z0o hz) l.size⟩
 have cp:(env.scope.kind == .class||(env.scope.kind == .module&&env.locals !=env.globals))=false:=by rw[cx.kind];rfl
 conv=>arg 3;arg 1;whnf
 refine Z0j (wpAny_Try_except (Z0j (wpAny_Expr_any (Z3f (A9 (s:={s with heap:=h₀,toks:=tk}) cx p1 hn m1 (M4 (N0 rfl).1 ?_))) (B4h cx))))
 refine Z0n (A9 (s:={s with heap:=h₀,toks:=tk}) cx p0 hn m0 (Z0x ⟨U7 kf (G.kin.keeps sy0),Z2g ?_⟩))
 refine rd _ (env :: fs) {s with heap:=h₀,toks:=tk} _ tT (cx.ca) sy0 fr0 (Z1f hx hz) bx (F3 cx.frame xL fx) ?_ ?_
 . intro oc cv s1 l1
   refine Z0f (Z0f (Z0j (Z1u ?_)))
   exact Z0f (ok oc s1 (fin s1 l1.stays l1.frames (Lx.left cx.frame l1)))
 . intro p e s1 Θ' n' pp l1 xh J
   haveI lx1:=Lx.left cx.frame l1
   have hn1:s1.heap.Ns env.locals m:=by
    refine G4 hn λo es ep eo d r=>?_;obtain⟨_,sl,e'⟩:=l1.keep _ o eo xL.symm;exact S9 _ es ep e' d r
   refine A6s (H:=HE) (Θ:=Θ') (L:=env.locals) cx.ca.fr cx.frame (St.none l1.stays l1.frames) xh.is λh2 st2 k2 xh2=>?_
   refine A5q (H:=HE) (Θ:=Θ') (s:={s1 with heap:=h2}) (outer:=env :: fs) (g:=none) st2 xh2 λh3 st3 k3 xh3=>?_
   haveI lx3:Lx x env.locals fs h₀ h3:=(lx1.kept cx.frame k2).kept cx.frame k3
   haveI hn3:=Ns.kept k3 (Ns.kept k2 hn1)
   haveI X3:K.In h3:=G.kin.keeps st3.stays
   refine A1 xh3 λv1 q'1 th=>?_
   rcases q'1 with⟨q'2,elo,elo2⟩
   refine G4 q'2 λdx vs sl he h1 ep=>?_
   refine wpAny_handleBy_cons (codeAny_handlers_test (B0o (s:={s1 with heap:=h3}) G cx p3 hpc B1i.1 st3.stays ((exm_one X3 (A9h he) PQ.exm).here ?_))) (by intro q;cases q)
   refine codeAny_handlers_suite_as ?_
   refine A5q (H:=HE) (Θ:=Θ') (s:={s1 with heap:=h3}) (outer:=env :: fs) (g:=none) st3 ⟨v1,⟨⟨dx,vs,sl,he,h1,ep⟩,elo,elo2⟩,th⟩ λh4 st4 k4 xh4=>?_
   have lx4:=lx3.kept cx.frame k4
   have hn4:=Ns.kept k4 hn3
   refine A1 xh4 λv1' q'3 th4=>?_
   rcases q'3 with⟨q'4,elo4,elo24⟩
   refine G4 q'4 λdx4 vs4 sl4 he4 h14 ep4=>?_
   obtain⟨md,cv,hmd,mm,mp,tp,rfl⟩:=ep4
   haveI eL:e≠env.locals:=by rw[e3];exact Z0q (Z0b hz elo24)
   have dL:dx4≠env.locals:=λq=>by
    subst q;obtain⟨xm,tm,em⟩:=mm;rw[<-C1f hn4 hmd.ns,show Str.ofString "message" = B8 from rfl,mM] at em;exact nn em
   refine A7 (G6 p2) λJ J e2k=>?_
   refine Z1w e2k hn4 (λh5 hn5 sb5=>?_) cp
   haveI st5:=st4.store cx.frame hn5 sb5
   have lx5:=lx4.trans (Lx.store (S:=x) (fs:=fs) sb5)
   refine C3h (s:={s1 with heap:=h5,toks:=s1.toks+1}) G PK PQ cx hsc st5.stays hn5 (Z0p rfl) ((sb5.2 e eL).trans he4) (hmd.sameBut sb5 dL) mm mp λtk5=>?_
   refine Z0d (wpAny_bindName (Z1w e2k hn5 (λh6 hn6 sb6=>?_) cp))
   haveI st6:=st5.store cx.frame hn6 sb6
   haveI lx6:=lx5.trans (Lx.store (S:=x) (fs:=fs) sb6)
   refine Z4g (wpAny_unbindName_local e2k hn6 (Z0p rfl) cp λh7 u hn7 sb7=>?_)
   haveI st7:=st6.store cx.frame hn7 sb7
   haveI lx7:=lx6.trans (Lx.store (S:=x) (fs:=fs) sb7)
   exact no p tp _ pp (fin {s1 with heap:=h7,toks:=_} st7.stays st7.frames lx7)
end
noncomputable def V9:List Tk->Nat->List (List (Nat × V))
 | [],_=> []
 |t :: r,j=>E9 t (.pl 0 j) :: V9 r (j+1)
def A1x:List (Nat × V):=E9 E7 (.pl 0 2000)
theorem A20:Y3.Path [A1x]:= .inl ⟨[],rfl,rfl⟩
theorem A9s{e:Wt}{p:List (List (Nat × V))}(he:e.Path p):∀(ws:List Tk) (j:Nat),(A77 e ws j).Path (V9 ws j ++ p)
 | [],_=>he
 |_ :: r,j=> .inl ⟨_,rfl,A9s he r (j+1)⟩
theorem D6l(ws:List Tk):(A5r ws).Path (V9 ws 0 ++ [E9 O5 (.pl 0 500),E9 O5 (.pl 0 501),A1x]):=
 A9s (e:= .node (E9 O5 (.pl 0 500)) (.node (E9 O5 (.pl 0 501)) Y3 .leaf) .leaf) (Or.inl ⟨_,rfl,Or.inl ⟨_,rfl,A20⟩⟩) ws 0
theorem B47:∀(ws:List Tk) (j k:Nat),k<=ws.length->(B0l ws j).Path (V9 (ws.take k) j ++ [A1x])
 | [],_,0,_=>A20
 |_ :: _,_,0,_=> .inr ⟨rfl,A20⟩
 |_ :: r,j,k+1,h=> .inl ⟨_,rfl,B47 r (j+1) k (Z3j h)⟩
theorem D19:∀(ws:List Tk) (k:Nat),1<=k->k<=ws.length->(A3r ws).Path (V9 (ws.take k) 0 ++ [A1x])
 | [],k,h1,h2=>absurd (Z0c h1 h2) (Nat.not_succ_le_zero 0)
 |_ :: r,k+1,_,h=> .inl ⟨_,rfl,B47 r 1 k (Z3j h)⟩
def dep(d:Nat)(t:Tk):Nat:=bB (A3v t B28) (Nat.succ d) (bB (A3v t R7) (Nat.sub d 1) d)
noncomputable def A1s:Nat->List Tk->Nat
 |d,[]=>d
 |d,t :: r=>A1s (dep d t) r
theorem B5c:∀(ws:List Tk) (j d k:Nat),k<=ws.length->A1s d (ws.take k)=0->(A3t ws j d).Path (V9 (ws.take k) j ++ E9 R7 (.pl 0 1000) :: (V9 (ws.drop k) (j+k) ++ [A1x]))
 | [],j,d,0,_,h=>by
  obtain rfl:d=0:=h;exact .inl ⟨_,rfl,A20⟩
 |t :: r,j,d,0,_,h=>by
  obtain rfl:d=0:=h;exact .inr ⟨rfl, .inl ⟨_,rfl,A9s A20 (t :: r) j⟩⟩
 |t :: r,j,d,k+1,hk,h=>by
  refine .inl ⟨_,rfl,?_⟩;have:=B5c r (j+1) (dep d t) k (Z3j hk) h;rw[show j+1+k=j+(k+1) from Nat.add_right_comm j 1 k] at this;exact this
theorem A22{pre:Tx}{pl:Nat->Int}{p:List (List (Nat × V))}{ts:List (Tk × Nat)}(hp:Tells pre pl p ts):∀(l:List Turn) (j n:Nat),(∀i t,(B6 n l)[i]?=some t->pl (j+i)=t.2)->Tells pre pl (V9 (l.map (·.tk)) j ++ p) (B6 n l ++ ts)
 | [],_,_,_=>hp
 |t :: l,j,n,h=> .cons (.pl (h 0 _ rfl)) (A22 hp l (j+1) _ λi u e=>by
  have:=h (i+1) u e;rw[show j+(i+1)=j+1+i from Nat.add_right_comm j i 1] at this;exact this)
noncomputable def M9(ps:List (Tk × Nat))(b e:Nat):Nat->Int:=λi=>if i=2000 then (e:Int) else if i=1000 then (b:Int) else match ps[i]? with | some t=>(t.2:Int) | none=>if i=500 then (e - 3:Int) else (e - 1:Int)
theorem A36{ps:List (Tk × Nat)}{b e i:Nat}{t:Tk × Nat}(h:ps[i]?=some t)(hl:ps.length<=400):M9 ps b e i=t.2:=by
 have:i<ps.length:=by
  rcases Z4m i ps.length with q | q
  . exact q
  . rw[Z4j q] at h;cases h
 unfold M9;rw[Z0m (Z0k (Z0t (Z0c (Z0o this) hl) (by decide))),Z0m (Z0k (Z0t (Z0c (Z0o this) hl) (by decide))),h]
theorem D58{ws:List Tk}{l:List Turn}{tl:Tx}{k:Nat}(hT:D9 0 l)(hw:l.map (·.tk)=ws.take k)(h1:1<=k)(h2:k<=ws.length)(h3:ws.length<=400)(ht:tl∈G9)(hf:Fol tl) :
 Told (A3r ws) (A3 l ++ tl) [] (M9 (B6 0 l) 0 (A3 l ++ tl).length):=by
 have ll:l.length=k:=by rw[<-List.length_map (·.tk),hw,List.length_take,Nat.min_eq_left h2]
 refine⟨rfl,_,B6 0 l ++ [(E7,(A3 l).length+tl.length)],D19 ws k h1 h2,?_,?_,by rw[List.length_append,G2,ll];exact Z0c (Nat.succ_le_succ (Z0c h2 h3)) (by decide)⟩
 . have:=Scan.turns (pre:= []) hf hT (Scan.tail (pre:= [] ++ A3 l) (gr:=G3 0 l) ht)
   exact this
 . rw[<-hw]
   refine A22 (.cons (.pl ?_) .nil) l 0 0 λi t e=>?_
   . unfold M9;rw[Z0p rfl,List.length_append]
   . rw[Z2j];exact A36 e (by rw[G2,ll];exact Z0c h2 h3)
theorem B8a{ps:List (Tk × Nat)}{b e i:Nat}(hl:ps.length<=400)(hi:i=500\/i=501):M9 ps b e i=if i=500 then (e - 3:Int) else (e - 1:Int):=by
 unfold M9;rw[Z0m (by omega),Z0m (by omega),Z4j (by omega)]
theorem D7h{ws:List Tk}{l:List Turn}(hT:D9 0 l)(hw:l.map (·.tk)=ws)(h3:ws.length<=400):Told (A5r ws) (A3 l ++ Y8) [] (M9 (B6 0 l) 0 (A3 l ++ Y8).length):=by
 have ll:l.length=ws.length:=by rw[<-hw,List.length_map]
 have le:(A3 l ++ Y8).length=(A3 l).length+4:=by rw[List.length_append];rfl
 have hlen:(B6 0 l).length<=400:=by rw[G2,ll];exact h3
 refine⟨rfl,_,B6 0 l ++ [(O5,(A3 l).length+1),(O5,(A3 l).length+3),(E7,(A3 l).length+4)],D6l ws,?_,?_,by rw[List.length_append,G2,ll];exact Z0c (Nat.add_le_add_right h3 3) (by decide)⟩
 . exact Scan.turns (pre:= []) (Fol.cons (c:=32) (Z2e ..)) hT (Scan.semi (pre:= [] ++ A3 l) (gr:=G3 0 l))
 . rw[<-hw];refine A22 (.cons (.pl ?_) (.cons (.pl ?_) (.cons (.pl ?_) .nil))) l 0 0 λi t e=>?_
   . rw[B8a hlen (.inl rfl),Z0p rfl,le];exact Int.add_sub_cancel (((A3 l).length+1:Nat):Int) 3
   . rw[B8a hlen (.inr rfl),Z0m (by decide),le];exact Int.add_sub_cancel (((A3 l).length+3:Nat):Int) 1
   . unfold M9;rw[Z0p rfl,le]
   . rw[Z2j];exact A36 e hlen
theorem C4t{ws:List Tk}{l1 l2:List Turn}{B:Turn}{k:Nat}(hT:D9 0 (l1 ++ B :: l2))(h1:l1.map (·.tk)=ws.take k)(h2:l2.map (·.tk)=ws.drop k)(hB:B.tk=R7)(hk:k<=ws.length)(h3:ws.length<=400)(hd:A1s 0 (ws.take k)=0) :
 Told (A3t ws 0 0) (A3 (l1 ++ B :: l2)) [] (M9 (B6 0 l1 ++ B6 ((A3 l1).length+B.gap.length+B.told.length) l2) ((A3 l1).length+B.gap.length) (A3 (l1 ++ B :: l2)).length):=by
 have e1:l1.length=k:=by rw[<-List.length_map (·.tk),h1,List.length_take,Nat.min_eq_left hk]
 have e2:l2.length=ws.length - k:=by rw[<-List.length_map (·.tk),h2,List.length_drop]
 have hlen:(B6 0 l1 ++ B6 ((A3 l1).length+B.gap.length+B.told.length) l2).length<=400:=by rw[List.length_append,G2,G2,e1,e2,Nat.add_sub_of_le hk];exact h3
 have eW:B6 0 (l1 ++ B :: l2)=B6 0 l1 ++ (R7,(A3 l1).length+B.gap.length) :: B6 ((A3 l1).length+B.gap.length+B.told.length) l2:=by
  rw[A5j,Z2j];show _ ++ (B.tk,_) :: _=_;rw[hB]
 refine⟨rfl,_,B6 0 (l1 ++ B :: l2) ++ [(E7,(A3 (l1 ++ B :: l2)).length)],B5c ws 0 0 k hk hd,?_,?_,?_⟩
 . have:=Scan.turns (pre:= []) .nil hT (Scan.tail (pre:= [] ++ A3 (l1 ++ B :: l2)) (gr:=G3 0 (l1 ++ B :: l2)) (s:= []) (by unfold G9;exact Z2e ..))
   rw[List.append_nil] at this
   exact this
 . rw[<-h1,<-h2,eW,List.append_assoc]
   refine A22 (.cons (.pl ?_) (A22 (.cons (.pl ?_) .nil) l2 (0+k) _ λi t e=>?_)) l1 0 0 λi t e=>?_
   . unfold M9;rw[Z0m (by decide),Z0p rfl]
   . unfold M9;rw[Z0p rfl]
   . refine A36 ?_ hlen
     rw[Z2j,Z1o (by rw[G2,e1];exact Nat.le_add_right ..),G2,e1,Nat.add_sub_cancel_left]
     exact e
   . refine A36 ?_ hlen
     have:i<(B6 0 l1).length:=by
      rcases Z4m i (B6 0 l1).length with q | q
      . exact q
      . rw[Z4j q] at e;cases e
     rw[Z2j,Z1l this]
     exact e
 . rw[List.length_append,G2,List.length_append]
   rw[e1,List.length_cons,e2,<-Nat.add_assoc,Nat.add_sub_of_le hk]
   exact Z0c (Nat.add_le_add_right h3 2) (by decide)
section
variable{K:Frag}
variable{S:Addr}{lo:Nat}{Q:Flow->Shared->Prop}
theorem Q9.weak{fa:Addr}{T:Tx}{x:Addr}{okC okC':Prop}{P P':Int->Prop}(r:Q9 og w gv A0 pc D U fa T x okC P)(h1:okC->okC')(h2:∀p,P p->P' p):Q9 og w gv A0 pc D U fa T x okC' P':=
 λA fs s R tk ca sy fr hx bx fx ok no=>r A fs s R tk ca sy fr hx bx fx (λc=>ok (h1 c)) λp e s' Θ' n' hp=>no p e s' Θ' n' (h2 p hp)
theorem C0b(G:GT w T1 cc0 gv mg mb A0 K)(hD:D<recursionLimit)(hr:SoAll og w T1 cc0 gv A0 pc K D U (run T1 P1 NW) NW){fa:Addr}(fo:FnOk gv cc0 K N8 fa){T:Tx}{q:Nat}(hl:T.length<=1000000)(sc:ScanX NW [] T 0 q){x:Addr}:Q9 og w gv A0 pc D U fa T x False λp=>p=q:=by
 intro A fs s R tk ca sy fr hx bx fx J no;refine C5m (n:=80) G hD hr fo (ca.low (by unfold NP;decide)) sy fr hl sc λΘ' n' e s' Θ sy' fr' X lo xh=>?_;exact no q e s' Θ' n' rfl ⟨sy',fr',λb o eb J=>X.keep b o eb (λi hi=>⟨Z0k (Z0b (Z0i eb) (lo i hi _ (.inl rfl))),Z0k (Z0b (Z0i eb) (lo i hi _ (.inr rfl)))⟩) (λq=>q),X.size⟩ xh
theorem D7u{l:List Turn}{b:Tx}(hT:D9 0 l)(hb:b∈M8):ScanX NW [] (A3 l ++ 32 :: b) 0 ((A3 l).length+1):=
 ScanX.turns (pre:= []) (.cons (c:=32) (Z2e ..)) hT (ScanX.bad (pre:= [] ++ A3 l) (gr:=G3 0 l) hb)
theorem C47{x:Addr}{T:Tx}{pl:Nat->Int}{j:Nat}{p:Int}(h:∀cv,VR gv (Θt x T pl) 1 (.pl 0 j) cv->∃t,cv= .int p t):p=pl j:=by
 obtain⟨t,e⟩:=h (.int (pl j) 0) ⟨Z0v 0,0,rfl⟩;cases e;rfl
theorem C7w{x:Addr}{T:Tx}{pl:Nat->Int}{j:Nat}:∃p:Int,∀Θ' n' cv,(Θ'.gh 0)=(Θt x T pl).gh 0->VR gv Θ' n' (.pl 0 j) cv->∃t,cv= .int p t:=
 ⟨pl j,λΘ' n' cv hg vr=>by
  obtain⟨_,t,e⟩:=vr;rw[hg] at e;exact⟨t,e⟩⟩
theorem C2j{v:V}(h:A6w v=true):v= .pl 0 2000:=by
 refine A5m h λa b h=>(A5 h).elim λh1 h2=>?_;rw[Z0e h1,Z0e h2]
theorem B98{v:V}(h:A60 v=true):v= .pl 0 1000:=by
 refine A5m h λa b h=>(A5 h).elim λh1 h2=>?_;rw[Z0e h1,Z0e h2]
theorem A7k(hr:SoAll og w T1 cc0 gv A0 pc K D U (run T1 P2 NP) NP){fa:Addr}(fo:FnOk gv cc0 K T8 fa){t:Wt}{k kx:V->Bool}(h:W5 t k kx=true){T:Tx}{pl:Nat->Int}(hl:T.length<=D4)(tl:Told t T [] pl){x:Addr}{P:Int->Prop}(hk:∀pv,kx pv=true->∃j,pv= .pl 0 j/\P (pl j)) :
 Q9 og w gv A0 pc D U fa T x (∃v,k v=true) P:=by
 intro A fs s R tk ca sy fr hx bx fx ok no
 refine D0g hr fo ca h sy fr hx bx fx hl tl (λv cv s' hv l=>ok ⟨v,hv⟩ cv s' l) (λpv p e s' Θ' n' hp hcv l xh=>?_) λpv hp=>?_
 . refine A1 (hk pv hp) λj q'1 pj=>?_
   subst q'1
   exact no p e s' Θ' n' (C47 hcv▸pj) l xh
 . refine A1 (hk pv hp) λj q'2 J=>?_
   subst q'2
   exact C7w
theorem A7g:C5 stN (λs=>Nat.ble s.length 60)=true:=rfl
theorem D70(hr:SoAll og w T1 cc0 gv A0 pc K D U (run T1 P2 NP) NP){fa:Addr}(fo:FnOk gv cc0 K T8 fa){ns:List Nat}(hm:ns∈stN){l:List Turn}(hT:D9 0 l)(hw:l.map (·.tk)=ns.map E2)(hl:(A3 l).length<=10000){x:Addr}:Q9 og w gv A0 pc D U fa (A3 l ++ Y8) x True λJ=>False:=by
 haveI h60:=Z0l (C0 A7g ns hm);refine(A7k hr fo (P:=λJ=>False) (show W5 (A5r (ns.map E2)) (λJ=>true) (λJ=>false)=true from C0 D18 ns hm) (by rw[List.length_append];show _+4<=D4;unfold D4;lia) (D7h hT hw (by rw[List.length_map];refine Z0c (by assumption) ?_;decide)) λpv z=>(Z0u z).elim).weak (λJ=>trivial) λp z=>z
theorem D7y(hr:SoAll og w T1 cc0 gv A0 pc K D U (run T1 P2 NP) NP){fa:Addr}(fo:FnOk gv cc0 K T8 fa){ns:List Nat}(hm:ns∈stN){l:List Turn}{tl:Tx}{k:Nat}(hT:D9 0 l)(h1:1<=k)(h2:k<=ns.length)(hw:l.map (·.tk)=(ns.take k).map E2)(ht:tl∈G9)(hf:Fol tl)(hl:(A3 l ++ tl).length<=20000){x:Addr} :
 Q9 og w gv A0 pc D U fa (A3 l ++ tl) x True λp=>p=((A3 l ++ tl).length:Nat):=by
 haveI h60:=Z0l (C0 A7g ns hm)
 refine(A7k hr fo (P:=λp=>p=((A3 l ++ tl).length:Nat)) (show W5 (A3r (ns.map E2)) (λJ=>true) A6w=true from C0 D6y ns hm) (by unfold D4;refine Z0c (by assumption) ?_;decide) (D58 hT (by rw[hw,List.map_take]) h1 (by rw[List.length_map];exact h2) (by rw[List.length_map];refine Z0c (by assumption) ?_;decide) ht hf) λpv z=>⟨2000,C2j z,?_⟩).weak (λJ=>trivial) λp z=>z
 unfold M9
 rw[Z0p rfl]
theorem C9l(hr:SoAll og w T1 cc0 gv A0 pc K D U (run T1 P2 NP) NP){fa:Addr}(fo:FnOk gv cc0 K T8 fa){ns:List Nat}(hm:ns∈stN){l1 l2:List Turn}{B:Turn}{k:Nat}(hT:D9 0 (l1 ++ B :: l2))(h1:l1.map (·.tk)=(ns.take k).map E2)(h2:l2.map (·.tk)=(ns.drop k).map E2)(hB:B.tk=R7)(hk:k<=ns.length)(hd:A1s 0 ((ns.take k).map E2)=0)(hl:(A3 (l1 ++ B :: l2)).length<=20000){x:Addr} :
 Q9 og w gv A0 pc D U fa (A3 (l1 ++ B :: l2)) x False λp=>p=(((A3 l1).length+B.gap.length:Nat):Int):=by
 haveI h60:=Z0l (C0 A7g ns hm)
 refine(A7k hr fo (P:=λp=>p=(((A3 l1).length+B.gap.length:Nat):Int)) (show W5 (A3t (ns.map E2) 0 0) (λJ=>false) A60=true from C0 D2l ns hm) (by unfold D4;refine Z0c (by assumption) ?_;decide) (C4t hT (by rw[h1,List.map_take]) (by rw[h2,List.map_drop]) hB (by rw[List.length_map];exact hk) (by rw[List.length_map];refine Z0c (by assumption) ?_;decide) (by rw[<-List.map_take];exact hd)) λpv z=>⟨1000,B98 z,?_⟩).weak (λ⟨_,z⟩=>(Z0u z).elim) λp z=>z
 unfold M9
 rw[Z0m (by decide),Z0p rfl]
end
def A8s(l:List Tx):List V->Bool:=List.rec (motive:=λJ=>List V->Bool) (λvs=>S4 vs true) (λa J ih vs=>G7 vs λv r=>O0 v λb=>bB (teq a b) (ih r) false) l
def W8(l:List Tx)(v:V)(h:Hp):Bool:=N7 v λa=>E8 (h.get a) λo=>A21 o (A8s l)
noncomputable def ltN(n:Nat)(v:V)(_:Hp):Bool:=A9u v λk=>Nat.ble (Nat.succ k) n
noncomputable def txs(l:List Tx):List V:=List.rec (motive:=λJ=>List V) [] (λa J ih=> .str a :: ih) l
theorem D76(l:List Tx):txs l=l.map .str:=by
 induction l with
 |nil=>rfl
 |cons a l ih=>exact congrArg (V.str a :: ·) ih
theorem B4s{l:List Tx}{vs:List V}(h:A8s l vs=true):vs=l.map .str:=by
 induction l generalizing vs with
 |nil=>exact U8 h λJ=>rfl
 |cons a l ih=>exact I4 h λv r h=>O8 h λb h=>(A5 h).elim λh1 h2=>by rw[Z3.mp h1,ih h2];rfl
theorem C6r{l:List Tx}{v:V}{H:Hp}(h:W8 l v H=true):∃a,v= .ref a/\H.get a=some (.list (l.map .str)):=
 P4 h λa h=>⟨a,rfl,F6 h λo h=>A6z h λvs h=>by rw[B4s h]⟩
theorem A63{n:Nat}{v:V}{H:Hp}(h:ltN n v H=true):∃k,v= .int (.ofNat k)/\k<n:=B18 h λk h=>⟨k,rfl,Z0l h⟩
section
variable{K:Frag}
variable{S:Addr}{lo:Nat}{Q:Value->Shared->Prop}
theorem Hd.evL[Og s og](d:Hd A0 S env outer m s.heap)(cx:Cx D U n A env outer){r:Rec}(hr:SoAll og w T1 cc0 gv A0 pc K D U r n){fu:Nat}{e:Expr}{x:X}{l:Loc}{xs:List Tx}
 (hc:cE cc0 env.scope.names fu e=some x) (chk:r.e x l HP (kp0 (W8 xs)) (λJ J=>false)=true) (F:FR gv (ΘP S) 1 env.scope.names l m)
 (q:∀(y:Nat) s' vs ep,s.heap.objs.size<=y->IsL s'.heap y vs ep->(∀Θ n,VRs gv Θ n (xs.map .str) vs.toList)->Lx S env.locals outer s.heap s'.heap->Hd A0 S env outer m s'.heap->∀ [Og s' og],Q (.ref y) s'):wpAny (model pg w) A (eval e env) Q E s:=by
 refine hr.e _ _ _ _ _ _ _ _ _ _ _ _ _ _ hc chk cx (d.at F) ?_ λJ J z=>(Z0u z).elim
 intro v H' hk Θ' cv s' X a vr J
 obtain⟨z,hk⟩:=A5 hk
 refine A1 (C6r hk) λi q'1 ei=>?_
 subst q'1
 obtain⟨hi,rfl⟩:=vr
 refine A1 (a.st.obj i hi) λo eo rr=>?_
 obtain rfl:=Z0a (eo.symm.trans ei)
 refine B4 rr λvs ep l1 v1=>?_
 obtain⟨lx,d'⟩:=d.next cx.frame X a.st z
 have i1:1<=i:=by
  rcases Z4z i with p | p
  . rw[p,U2 z] at ei;cases ei
  . exact p
 refine q _ s' vs ep (X.new i i1 hi _ (.inl rfl)) l1 (λΘ n=>?_) lx d'
 have:∀{xs:List Tx} {vs:List Value},VRs gv Θ' H'.n (xs.map .str) vs->VRs gv Θ n (xs.map .str) vs:=by
  intro xs;induction xs with
  |nil=>intro vs x;cases vs with | nil=>trivial | cons _ _=>exact x.elim
  |cons a xs ih=>intro vs x;cases vs with | nil=>exact x.elim | cons b vs=>exact⟨x.1,ih x.2⟩
 exact this v1
theorem Hd.ev1[Og s og](d:Hd A0 S env outer m s.heap)(cx:Cx D U n A env outer){r:Rec}(hr:SoAll og w T1 cc0 gv A0 pc K D U r n){fu:Nat}{e:Expr}{x:X}{l:Loc}{xs:List Tx}{k:V->Hp->Bool}{y:Nat}{vs:Array Value}{ep:Nat}(ly:IsL s.heap y vs ep)(vv:∀Θ n,VRs gv Θ n (xs.map .str) vs.toList)(yS:y≠S)(yB:A0.get? y=none)(yF:y∉frs (env :: outer))
 (hc:cE cc0 env.scope.names fu e=some x) (chk:r.e x l (HP.new (.list (txs xs))) (kp0 k) (λJ J=>false)=true) (F:FR gv ((ΘP S).set 1 y y gh0) 2 env.scope.names l m)
 (q:∀v H' Θ' cv s',k v H'=true->VR gv Θ' H'.n v cv->(∀b o,s.heap.get? b=some o->b≠S->b≠env.locals->b≠y->(b∉frs outer->s'.heap.get? b=some o)/\∃sl,s'.heap.get? b=some {o with slots:=sl})->s.heap.objs.size<=s'.heap.objs.size->Hd A0 S env outer m s'.heap->∀ [Og s' og],Q cv s'):wpAny (model pg w) A (eval e env) Q E s:=by
 haveI st:=d.list1 ly (xs:=txs xs) (by rw[D76];exact vv) yS yB yF
 refine hr.e _ _ _ _ _ _ _ _ _ _ _ _ _ _ hc chk cx ⟨st,m,d.ns,F⟩ ?_ λJ J z=>(Z0u z).elim
 intro v H' hk Θ' cv s' X a vr J
 obtain⟨z,hk⟩:=A5 hk
 have e0:((ΘP S).set 1 y y gh0).a 0=S/\((ΘP S).set 1 y y gh0).d 0=S:=⟨(Th.set_old (ΘP S) 1 y y gh0 0 (by decide)).1,(Th.set_old (ΘP S) 1 y y gh0 0 (by decide)).2.1⟩
 haveI e1:((ΘP S).set 1 y y gh0).a 1=y/\((ΘP S).set 1 y y gh0).d 1=y:=⟨(Th.set_new (ΘP S) 1 y y gh0).1,(Th.set_new (ΘP S) 1 y y gh0).2.1⟩
 haveI h0:Θ'.a 0=S:=(X.same 0 (Nat.succ_pos 1)).1.trans e0.1
 haveI hn:0<H'.n:=Z0b (Nat.succ_pos 1) X.le
 have kp:∀b o,s.heap.get? b=some o->b≠S->b≠y->(b∉frs (env :: outer)->s'.heap.get? b=some o)/\∃sl,s'.heap.get? b=some {o with slots:=sl}:=λb o eb h1 h3=>X.keep b o eb (λi hi=>by
  haveI:=two (i:=i) hi;rcases this with rfl | rfl
  . rw[e0.1,e0.2];exact⟨h1,h1⟩
  . rw[e1.1,e1.2];exact⟨h3,h3⟩) (λq=>q)
 refine q v H' Θ' cv s' hk vr (λb o eb h1 h2 h3=>⟨λhf=>(kp b o eb h1 h3).1 (F3 cx.frame h2 hf),(kp b o eb h1 h3).2⟩) X.size ⟨a.st.stays,a.st.frames,?_,h0▸K3 a.st z hn,d.low,d.nf⟩
 refine G4 d.ns λo es ep' eo dd rr=>?_
 obtain⟨_,sl,e'⟩:=kp _ o eo (d.ne cx.frame).symm (λq=>yF (q▸F2 cx.frame))
 exact S9 _ es ep' e' dd rr
theorem Hd.asgL[Og s og]{Q:Flow->Shared->Prop}(d:Hd A0 S env outer m s.heap)(cx:Cx D U n A env outer){r:Rec}(hr:SoAll og w T1 cc0 gv A0 pc K D U r n){fu ky:Nat}{e:Expr}{x:X}{l:Loc}{xs:List Tx}{y:Str}{p p':Pos}(hco:G5 e=false)(hp:B3 y env.scope.names 0=some (ky, .local))
 (hc:cE cc0 env.scope.names fu e=some x) (chk:r.e x l HP (kp0 (W8 xs)) (λJ J=>false)=true) (F:FR gv (ΘP S) 1 env.scope.names l m)
 (q:∀(a:Nat) s' vs ep,s.heap.objs.size<=a->IsL s'.heap a vs ep->(∀Θ n,VRs gv Θ n (xs.map .str) vs.toList)->Lx S env.locals outer s.heap s'.heap->Hd A0 S env outer (λz=>if z=y then some (.ref a) else m z) s'.heap->∀ [Og s' og],Q .next s'):wpAny (model pg w) A (exec (.Assign [.Name y p'] e p) env) Q E s:=by
 refine Z1i (d.evL cx hr hc chk F λa s1 vs ep lo la va lx d1=>?_) (A1m hco)
 intro J
 refine d1.store cx hp λh2 lx2 d2=>?_
 refine A7 (d.new lo) λn1 n2 n3=>?_
 exact q a _ vs ep lo ((lx2.keep _ _ la n1 λz=>n3 (z▸F2 cx.frame)).1 λz=>n3 (F5 z)) va (lx.trans lx2) d2
theorem Hd.asgApp[Og s og]{Q:Flow->Shared->Prop}(d:Hd A0 S env outer m s.heap)(cx:Cx D U n A env outer){r:Rec}(hr:SoAll og w T1 cc0 gv A0 pc K D U r n){fu ky:Nat}{e:Expr}{x:X}{l:Loc}{xs zs:List Tx}{y:Str}{p p' p2 p3:Pos}(hp:B3 y env.scope.names 0=some (ky, .local)){a:Nat}{va:Array Value}{ea:Nat}(my:m y=some (.ref a))(la:IsL s.heap a va ea)(vva:∀Θ n,VRs gv Θ n (zs.map .str) va.toList)(aS:a≠S)(aF:a∉frs (env :: outer))(few:zs.length+xs.length<=1000)
 (hc:cE cc0 env.scope.names fu e=some x) (chk:r.e x l HP (kp0 (W8 xs)) (λJ J=>false)=true) (F:FR gv (ΘP S) 1 env.scope.names l m)
 (q:∀(a:Nat) s' vs ep,s.heap.objs.size<=a->IsL s'.heap a vs ep->(∀Θ n,VRs gv Θ n ((zs ++ xs).map .str) vs.toList)->Lx S env.locals outer s.heap s'.heap->Hd A0 S env outer (λz=>if z=y then some (.ref a) else m z) s'.heap->∀ [Og s' og],Q .next s'):wpAny (model pg w) A (exec (.Assign [.Name y p'] (.BinOp (.Name y p2) .Add e p3) p) env) Q E s:=by
 refine Z1i (Z1t (A9 cx hp d.ns my (d.evL cx hr hc chk F λb s1 vs ep lo lb vb lx d1=>?_))) (A1m rfl)
 intro J
 haveI l1:=(lx.keep _ _ la aS λz=>aF (z▸F2 cx.frame)).1 λz=>aF (F5 z)
 haveI z1:va.size=zs.length:=by rw[<-Array.length_toList,<-(vva ⟨λJ=>0,λJ=>0,λJ=>gh0⟩ 0).len,List.length_map]
 have z2:vs.size=xs.length:=by rw[<-Array.length_toList,<-(vb ⟨λJ=>0,λJ=>0,λJ=>gh0⟩ 0).len,List.length_map]
 refine P.add_list l1 lb ?_ (by simp only[z1,z2,sizeLine_eq];refine Z0c (by assumption) ?_;decide)
 haveI kp4:∀b o,s1.heap.get? b=some o->(s1.heap.push {cls:= .type "list",data:= .seq (va ++ vs)}).get? b=some o:=λb o e=>Z0h _ e
 haveI d4:=d1.keeps kp4
 haveI l4:IsL (s1.heap.push {cls:= .type "list",data:= .seq (va ++ vs)}) s1.heap.objs.size (va ++ vs) 0:=Z0r _ rfl
 refine Hd.store (s:={s1 with heap:=s1.heap.push {cls:= .type "list",data:= .seq (va ++ vs)}}) d4 cx hp λh5 lx5 d5=>?_
 refine A7 (d1.new (Z0g s1.heap.objs.size)) λn1 n2 n3=>?_
 refine q s1.heap.objs.size _ (va ++ vs) 0 lx.size ((lx5.keep _ _ l4 n1 λz=>n3 (z▸F2 cx.frame)).1 λz=>n3 (F5 z)) (λΘ n=>?_) ((lx.trans (Lx.keeps kp4 (by rw[Heap.size_push];lia))).trans lx5) d5
 rw[Z4u,Z2l]
 exact(vva Θ n).app (vb Θ n)
end
def B0a:Fn:=(BtG T1.fns 5).getD ⟨[],[], .nil⟩
def B3t:X:=B0a.body.x
def B8h:X:=match B0a.body with | .assign _ _ (.assign _ (.bin _ _ e) _)=>e | _=> .bad
noncomputable def C6p:X:= .call (.const (.glob 13)) (.cons (.loc 0) (.cons (.loc 1) .nil))
noncomputable def B06(c:Nat):X:= .call (.const (.glob 14)) (.cons (.loc 0) (.cons (.const (.int (.ofNat c))) .nil))
theorem C4q:(run T1 P3 NW).e B3t [] HP (kp0 (W8 (M8.take 12))) (λJ J=>false)=true:=rfl
theorem C1m:(run T1 P3 NW).e B8h [] HP (kp0 (W8 (M8.drop 12))) (λJ J=>false)=true:=rfl
theorem D3u:(run T1 P3 NW).e C6p [(0, .ref 0),(1, .ref 1)] (HP.new (.list (txs M8))) (kp0 (Y4 M8)) (λJ J=>false)=true:=rfl
theorem C2p:(run T1 P3 NW).e (B06 4) [(0, .ref 0)] HP (kp0 (ltN 4)) (λJ J=>false)=true:=rfl
theorem C6e:lkS "_law_row" cc0.glob=some (.glob 7):=rfl
theorem B1g:lkS "_law_refused_at" cc0.glob=some (.glob 6):=rfl
theorem rdS:lkS "read_words" cc0.glob=some (.glob 86):=rfl
theorem C7l:C5 M8 (λb=>Nat.ble b.length 100)=true:=rfl
section
variable{K:Frag}
variable{S:Addr}{lo:Nat}{Q:Value->Shared->Prop}
structure Ground(og:OGt)(w:World)(gv:Nat->Option Value)(mg mb:Str->Option Value)(A0:Heap)(pc:Addr)(K:Frag)(D U:Nat):Prop where
 G:GT w T1 cc0 gv mg mb A0 K
 hD:D<recursionLimit
 hU:U<cLine
 hpc:mg J0=some (.ref pc)
 PK:PerrK K A0 pc
 PQ:PerrQ K mg pc
 fns:Fns gv K
 pt:N9 og w T1 cc0 gv A0 pc K D U P3
 h3:SoAll og w T1 cc0 gv A0 pc K D U (run T1 P3 NW) NW
 h1:SoAll og w T1 cc0 gv A0 pc K D U (run T1 P1 NW) NW
 h2:SoAll og w T1 cc0 gv A0 pc K D U (run T1 P2 NP) NP
theorem B19[Og s og](g:Ground og w gv mg mb A0 pc K D U)(d:Hd A0 S env fs m s.heap)(cx:Cx D U (NW+2) A env fs){kr:Nat}(pr:B3 "_law_row" env.scope.names 0=some (kr, .globalImplicit))(ps:B3 "source" env.scope.names 0=some (0, .local))(m1:m "source" = some (.ref S)){e2:Expr}{p1 p2 pos:Pos}(h2:B7 e2=false){b:Nat}(hb:b<=8)
 (he:∀(Q E:Value->Shared->Prop),(∀many t s',many<=b->Lx S env.locals fs s.heap s'.heap->Hd A0 S env fs m s'.heap->∀ [Og s' og],Q (.int ((many:Nat):Int) t) s')->wpAny (model pg w) A (eval e2 env) Q E s)
 (q:∀(x:Nat) s' l lo,s.heap.objs.size<=lo->RowOut gv lo s'.heap x l->D9 0 l->l.length<=b->(A3 l).length<=800->Lx S env.locals fs s.heap s'.heap->Hd A0 S env fs m s'.heap->∀ [Og s' og],Q (.ref x) s'):wpAny (model pg w) A (eval (.Call (.Name "_law_row" p1) [.Name "source" p2,e2] [] pos) env) Q E s:=by
 refine A1 g.fns.f7 λf7 g7 r7=>?_
 refine N2 g.G cx pr C6e g7 r7.keep d.stays (by simp only[List.any_cons,List.any_cons,h2];rfl) (Z0n (A9 cx ps d.ns m1 (Z0n (he _ _ λmany t s1 hm lx1 d1=>Z0x ⟨d1.stays,?_⟩))))
 refine C56 g.G g.hD g.h3 g.pt g.fns r7 (cx.ca.low (by decide)) d1.st d1.low (many:=many) (by lia) λx s2 l ro hT hl hTl lx2 pl sy fr=>?_
 intro J
 exact q x s2 l _ lx1.size ro hT (by lia) (by lia) (lx1.trans (lx2.inner cx.frame)) (d1.inner cx.frame lx2 sy fr pl)
theorem Hd.two[Og s og]{Q:Flow->Shared->Prop}(d:Hd A0 S env outer m s.heap)(cx:Cx D U n A env outer){r:Rec}(hr:SoAll og w T1 cc0 gv A0 pc K D U r n){fu ky:Nat}{e1 e2:Expr}{x1 x2:X}{xs zs:List Tx}{y:Str}{p1 p2 p3 p4 p5 p6:Pos}{rest:List Stmt}(hco:G5 e1=false)(hp:B3 y env.scope.names 0=some (ky, .local))(few:zs.length+xs.length<=1000)
 (hc1:cE cc0 env.scope.names fu e1=some x1) (chk1:r.e x1 [] HP (kp0 (W8 zs)) (λJ J=>false)=true) (hc2:cE cc0 env.scope.names fu e2=some x2) (chk2:r.e x2 [] HP (kp0 (W8 xs)) (λJ J=>false)=true)
 (q:∀(a:Nat) s' vs ep m',s.heap.objs.size<=a->IsL s'.heap a vs ep->(∀Θ n,VRs gv Θ n ((zs ++ xs).map .str) vs.toList)->Lx S env.locals outer s.heap s'.heap->Hd A0 S env outer m' s'.heap->m' y=some (.ref a)->(∀z,z≠y->m' z=m z)->∀ [Og s' og],wpAny (model pg w) A (execs rest env) Q E s') :
 wpAny (model pg w) A (execs (.Assign [.Name y p1] e1 p2 :: .Assign [.Name y p3] (.BinOp (.Name y p4) .Add e2 p5) p6 :: rest) env) Q E s:=by
 refine Z0j (d.asgL cx hr hco hp hc1 chk1 FR.nil λa s1 vs ep lo la va lx d1=>?_)
 intro J
 refine A7 (d.new lo) λn1 n2 n3=>?_
 refine Z0j (d1.asgApp cx hr hp (Z0p rfl) la va n1 n3 few hc2 chk2 FR.nil λb s2 vs2 ep2 lo2 lb vb lx2 d2=>?_)
 intro J
 exact q b s2 vs2 ep2 _ (Z0c lx.size lo2) lb vb (lx.trans lx2) d2 (Z0p rfl) λz hz=>(Z0m hz).trans (Z0m hz)
end
section
variable{K:Frag}
variable{S:Addr}{lo:Nat}{Q:Value->Shared->Prop}
theorem A1g{value slice:Expr}{x i:Nat}{vs:Array Value}{e:Nat}{t:Tok}{v:Value}(l:IsL s.heap x vs e)(hi:vs[i]?=some v)(hb:i<1000)(q:Q v s):wpAny (model pg w) A (subscriptTail value slice (.ref x) (.int (i:Int) t)) Q E s:=
 W4 l.isList.typeIs slot_list_getitem.lookup (Z3u l.isList (by lia) (by lia) (by simp only[Int.toNat_natCast];exact hi) q)
theorem B9m:(M8.take 12).length+(M8.drop 12).length<=1000:=Z0l (rfl)
def B5b:List Stmt:=(A4 4).body.drop 2
theorem Hd.left{x:Addr}(d:Hd A0 S env outer m h)(l:Left A0 x (env :: outer) h h')(xS:x≠S)(hf:env.frame=some env.locals)(xF:x∉frs (env :: outer)):Hd A0 S env outer m h':=by
 refine Y7 d.pool.ex λa b ta tb e l1 r=>?_;refine⟨l.stays,l.frames,?_,⟨a,b,ta,tb,e,(l.keep _ _ l1 xS.symm).1 d.nf,r⟩,d.low,d.nf⟩;refine G4 d.ns λo es ep eo dd rr=>?_;obtain⟨_,sl,e'⟩:=l.keep _ o eo (λq=>xF (q▸F2 hf));exact S9 _ es ep e' dd rr
theorem C79[Og s og]{Q:Flow->Shared->Prop}(g:Ground og w gv mg mb A0 pc K D U)(cx:Cx D U (NP+2) A env fs)(hsc:env.scope=(A4 4).scope)(d:Hd A0 S env fs m s.heap)(m1:m "source" = some (.ref S)){y:Nat}{vs:Array Value}{ep:Nat}(my:m "bads" = some (.ref y))(ly:IsL s.heap y vs ep)(vv:∀Θ n,VRs gv Θ n (M8.map .str) vs.toList)(yS:y≠S)(yB:A0.get? y=none)(yF:y∉frs (env :: fs))(hy:h₀.objs.size<=y)(lx0:Lx S env.locals fs h₀ s.heap)
 (q:∀s',Lx S env.locals fs h₀ s'.heap->Pool s'.heap S->A0.StaysIn s'.heap->s'.heap.FunFrames A0 (env :: fs)->∀ [Og s' og],Q (.ret (.bool true)) s'):wpAny (model pg w) A (execs B5b env) Q E s:=by
 refine A1 g.fns.f6 λf6 g6 r6=>?_
 refine A1 (g.G.fns 86 N8 A5a) λfr gr fo=>?_
 haveI p0:=pkl hsc "source" 0
 have p2:=pkl hsc "text" 2
 haveI p4:=pkg hsc "_law_row" 4
 haveI p6:=pkg hsc "_law_refused_at" 6
 haveI p8:=pkg hsc "read_words" 8
 haveI p9:=pkg hsc "len" 9
 have cw:Cx D U NW A env fs:=cx.low (by show 100<=302;decide)
 haveI yL:y≠env.locals:=λq=>yF (q▸F2 cx.frame)
 haveI yF':y∉frs fs:=λq=>yF (F5 q)
 conv=>arg 3;arg 1;whnf
 refine Z0j (Z1i (Z1t (Z3h (B19 (b:=3) g d (cx.low (by show 102<=302;decide)) p4 p0 m1 rfl (by decide) (λQ E kk=>?_) ?_))))
 . refine Hd.ev d cw g.h3 (fu:=40) (by rw[hsc];kernel_rfl) C2p (.cons (x:=Str.ofString "source") (kd:= .local) (gk hsc) m1 ⟨Z0v 0,rfl⟩ .nil) ?_
   intro v H' Θ' cv s' hk lx d' st2 X vr J
   obtain⟨i,rfl,hi⟩:=A63 hk
   obtain⟨t,rfl⟩:=vr
   exact kk i t s' (by lia) lx d'
 intro x s6 l lo1 hlo ro hT hl hTl lx6 d6 J
 obtain⟨r,vr,ex,e2,tt,I,lX,xlo,rlo,lR,rows⟩:=ro
 refine Z1k (A1g (s:={s6 with toks:=s6.toks+1}) (i:=0) lX rfl (by decide) ?_)
 refine Z2i (Z4l (λt7 k7=>?_) (by rw[sizeLine_eq];show(A3 l).length+1<=_;exact Z0c (Nat.add_le_add hTl (Z0g _)) (by decide)))
 rw[show Str.ofString " " = sOf [32] from rfl,J2]
 refine Hd.store (s:={s6 with heap:=s6.heap,toks:=k7}) d6 cx p2 λh8 lx8 d8=>?_
 refine A7 (d.new (Z0o (Z0t hlo xlo))) λx1 x2 x3=>?_
 haveI xL:x≠env.locals:=λq=>x3 (q▸F2 cx.frame)
 haveI xF:x∉frs fs:=λq=>x3 (F5 q)
 haveI ly6:=(lx6.keep _ _ ly yS yL).1 yF'
 haveI ly8:=(lx8.keep _ _ ly6 yS yL).1 yF'
 haveI lX8:=(lx8.keep _ _ lX x1 xL).1 xF
 haveI ns1:(λy=>if y=Str.ofString "text" then some (Value.str (sOf (A3 l ++ [32])) t7) else m y) "source" = some (.ref S):=(Z0m (by decide)).trans m1
 haveI ns2:(λy=>if y=Str.ofString "text" then some (Value.str (sOf (A3 l ++ [32])) t7) else m y) "bads" = some (.ref y):=(Z0m (by decide)).trans my
 haveI ns3:(λy=>if y=Str.ofString "text" then some (Value.str (sOf (A3 l ++ [32])) t7) else m y) "text" = some (.str (sOf (A3 l ++ [32])) t7):=Z0p rfl
 haveI xy:x≠y:=Z0q (Z0b (Z0i ly) (Z0o (Z0t hlo xlo)))
 refine Z0j (Z1u (Z4b (N2 (s:={s6 with heap:=h8,toks:=k7+1}) g.G cx p6 B1g g6 r6.keep d8.stays rfl (Z0n (Z1t (A9 (s:={s6 with heap:=h8,toks:=k7+1}) cx p2 d8.ns ns3 ?_))))))
 refine Hd.ev1 (s:={s6 with heap:=h8,toks:=k7+1}) d8 cw g.h3 (fu:=40) ly8 vv yS yB yF (by rw[hsc];kernel_rfl) D3u (.cons (x:=Str.ofString "source") (kd:= .local) (gk hsc) ns1 ⟨by decide,(Th.set_old (ΘP S) 1 y y gh0 0 (by decide)).1.symm▸rfl⟩ (.cons (x:=Str.ofString "bads") (kd:= .local) (gk hsc) ns2 ⟨by decide,by rw[(Th.set_new (ΘP S) 1 y y gh0).1]⟩ .nil)) ?_
 intro v H' Θ' cv s9 hk vr kp9 hz9 d9 J
 refine A1 (A1i hk) λb bm q'3=>?_
 subst q'3
 obtain⟨tb,rfl⟩:=vr
 have bl:b.length<=100:=Z0l (C0 C7l b bm)
 refine Z4l (λt10 k10=>Z0n (A13 (s:={s9 with toks:=k10}) g.G cx p8 rdS d9.stays λc hc=>Z0x ⟨d9.stays,?_⟩)) (by simp only[sizeLine_eq];show(A3 l ++ [32]).length+b.length<=_;rw[List.length_append];show(A3 l).length+1+b.length<=_;exact Z0c (Nat.add_le_add (Nat.add_le_add hTl (Z0g _)) bl) (by decide))
 obtain rfl:Value.ref fr=c:=Z0a (gr.symm.trans (hc ⟨λJ=>0,λJ=>0,λJ=>gh0⟩ 0))
 rw[J2,List.append_assoc]
 haveI lX9:=(kp9 _ _ lX8 x1 xL xy).1 xF
 haveI lx9:Lx S env.locals fs h₀ s9.heap:=((lx0.trans lx6).trans lx8).on (λc o hc ec h1 h2=>kp9 c o ec h1 h2 (Z0k (Z0b hc hy))) hz9
 refine B6f (s:={s9 with toks:=k10}) g.G g.hD g.hpc g.PK g.PQ r6 (cx.ca.low (by decide)) d9.stays d9.frames gr fo.keep (C0b g.G g.hD g.h1 fo (by show(A3 l ++ 32 :: b).length<=_;rw[List.length_append];show(A3 l).length+(b.length+1)<=_;exact Z0c (Nat.add_le_add hTl (Nat.add_le_add bl (Z0g _))) (by decide)) (D7u hT bm)) (Z0i lX9) x2 x3 (λz=>z.elim) ?_
 rintro p t11 s11 rfl l11 _
 haveI d11:=d9.left l11 x1 cx.frame x3
 refine L8 (cv:= .builtin "len") g.G cx p9 A26 rfl (λJ=>H6) d11.stays rfl ?_
 refine Z0n (A9 cx p2 d11.ns ns3 (Z0x (P.len_str (by show ¬(((A3 l ++ [32]).length:Nat):Int)>=_;rw[List.length_append];show ¬(((A3 l).length+1:Nat):Int)>=_;lia) (eq_int ?_))))
 have e12:((((A3 l).length+1:Nat):Int)==((sOf (A3 l ++ [32])).length:Int))=true:=by
  rw[F4,List.length_append];exact beq_self_eq_true _
 refine re e12 ?_
 exact q _ (lx9.on (λc o hc ec h1 h2=>by
  obtain⟨j1,j2⟩:=l11.keep c o ec (Z0k (Z0b hc (Z0c lx0.size (Z0o (Z0t hlo xlo)))));exact⟨λz=>j1 (F3 cx.frame h2 z),j2⟩) l11.size) d11.pool d11.stays d11.frames
inductive BadSh:Prop
 |mk (e1:Expr) (p1 p2:Pos) (e2:Expr) (p3 p4 p5 p6:Pos) (h0:(A4 4).body= .Assign [.Name "bads" p1] e1 p2 :: .Assign [.Name "bads" p3] (.BinOp (.Name "bads" p4) .Add e2 p5) p6 :: B5b) (h1:G5 e1=false) (h2:cE cc0 (A4 4).scope.names 40 e1=some B3t) (h3:cE cc0 (A4 4).scope.names 40 e2=some B8h)
theorem C4l:BadSh:=
 ⟨_,_,_,_,_,_,_,_,rfl,rfl,rfl,rfl⟩
theorem D6a[Og s og](g:Ground og w gv mg mb A0 pc K D U){f4:Addr}(r4:FnRaw gv cc0 K (A4 4) [0] [] f4)(ca:CA D U (NP+3) A fs)(st:St gv an0 A0 (ΘP S) HP fs s.heap)(low:A0.get? S=none)
 (k:∀s',Lx S S fs s.heap s'.heap->Pool s'.heap S->A0.StaysIn s'.heap->s'.heap.FunFrames A0 fs->∀ [Og s' og],R (.ok (.ret (.bool true))) s'):codeAny (model pg w) A (.call (.ref f4) ⟨[.ref S],[]⟩) R s:=by
 rcases g.fns.f6 with⟨f6,g6,r6⟩
 rcases g.G.fns 86 N8 A5a with⟨fr,gr,fo⟩
 refine N6 (n:=NP+2) g.G g.hD r4 (vs:= [.ref 0]) (l:= [(0, .ref 0)]) rfl ca st ⟨⟨by simp only[C6];decide,rfl⟩,trivial⟩ λenv h₀ tk J hsc cx at' kp e3=>?_
 rcases at' with⟨st',m,hn,F⟩
 rcases F 0 "source" .local (.ref 0) (gk hsc) rfl with⟨c1,m1,_,rfl⟩
 haveI d:Hd A0 S env fs m h₀:=Hd.enter st' hn low
 haveI hz:s.heap.objs.size<=h₀.objs.size:=Z0o (by rw[e3] at hn;exact hn.lt)
 haveI p1:=pkl hsc "bads" 1
 haveI cw:Cx D U NW (A.deeper env) env fs:=cx.low (by show 100<=302;decide)
 rcases C4l with⟨e1,q1,q2,e2,q3,q4,q5,q6,hb,h1,h2,h3⟩
 rewrite [hb]
 refine Hd.two (s:={s with heap:=h₀,toks:=tk}) (zs:=M8.take 12) (xs:=M8.drop 12) d cw g.h3 (fu:=40) h1 p1 B9m (by rw[hsc];exact h2) C4q (by rw[hsc];exact h3) C1m ?_
 intro y s5 v5 e5 m5 ylo ly5 vv lx5 d5 my mo J
 rcases d.new (show h₀.objs.size<=y from ylo) with⟨w1,w2,w3⟩
 haveI m51:m5 "source" = some (.ref S):=(mo _ (by decide)).trans m1
 exact C79 g cx hsc d5 m51 my ly5 vv w1 w2 w3 ylo lx5 (λs' lx pl sy fr=>k s' (lx.leave kp hz e3) pl sy fr.2.2)
end
section
variable{K:Frag}
variable{S:Addr}{Q:Flow->Shared->Prop}
structure Kf(fr:List Addr)(X:Addr)(h h':Heap):Prop where
 keep:∀b o,h.get? b=some o->b≠X->(b∉fr->h'.get? b=some o)/\∃sl,h'.get? b=some {o with slots:=sl}
 size:h.objs.size<=h'.objs.size
theorem Kf.keeps{fr:List Addr}{X:Addr}(k:∀b o,h.get? b=some o->h'.get? b=some o)(hz:h.objs.size<=h'.objs.size):Kf fr X h h':=⟨λb o e J=>⟨λJ=>k b o e,o.slots,k b o e⟩,hz⟩
theorem Kf.trans{fr:List Addr}{X:Addr}(x:Kf fr X h h')(y:Kf fr X h' h''):Kf fr X h h'':=⟨λb o e n=>by
 obtain⟨k1,sl,k2⟩:=x.keep b o e n;obtain⟨_,sl',j2⟩:=y.keep b _ k2 n;exact⟨λhf=>(y.keep b o (k1 hf) n).1 hf,sl',j2⟩,Z0c x.size y.size⟩
theorem Kf.but{fr:List Addr}{X a:Addr}(x:Kf fr X h h')(k:Heap.ExtBut a h' h'')(ha:h.objs.size<=a)(hz:h'.objs.size<=h''.objs.size):Kf fr X h h'':=⟨λb o e n=>by
 have nb:b≠a:=Z0k (Z0b (Z0i e) ha);obtain⟨k1,sl,k2⟩:=x.keep b o e n;exact⟨λq=>k b o nb (k1 q),sl,k b _ nb k2⟩,Z0c x.size hz⟩
theorem Kf.stays{X:Addr}(x:Kf (frs fs) X h h')(sy:A0.StaysIn h)(fr:h.FunFrames A0 fs)(lo:A0.get? X=none):A0.StaysIn h':=λb o e=>(x.keep b o (sy b o e) (λq=>by rw[q,lo] at e;exact nn e)).1 λq=>by
 refine A1 (Z2h.mp q) λe1 he hL=>?_;refine K6 (S6 fr e1 he) λL' o' f1 f2 f3 f4=>?_;rw[f1] at hL;replace hL:=Z0a hL;subst hL;rw[f2] at e;exact nn e
theorem Kf.frames{X:Addr}(x:Kf (frs fs) X h h')(fr:h.FunFrames A0 fs)(hX:X∉frs fs):h'.FunFrames A0 fs:=W7 fr λe he L hL=>by
 refine K6 (S6 fr e he) λL' o' f1 f2 f3 f4=>?_;rw[f1] at hL;replace hL:=Z0a hL;subst hL;obtain⟨_,sl,k2⟩:=x.keep _ _ f3 (λq=>hX (q▸Z2h.mpr ⟨e,he,f1⟩));exact A6 _ k2 f4
def I6(h:Heap)(a:Addr)(items:Array Value):Prop:=∃e,IsL h a items e
theorem I6.isList{a:Addr}{items:Array Value}(x:I6 h a items):h.IsList a items:=by obtain⟨e,l⟩:=x;exact l.isList
theorem I6.at{a:Addr}{items:Array Value}(x:I6 h a items)(k:∀o,h.get? a=some o->h'.get? a=some o):I6 h' a items:=by obtain⟨e,l⟩:=x;exact⟨e,k _ l⟩
theorem I6.ext{a b:Addr}{items:Array Value}(x:I6 h a items)(k:Heap.ExtBut b h h')(n:a≠b):I6 h' a items:=x.at λo e=>k a o n e
theorem A0o(fr:h.FunFrames A0 fs){b:Addr}(q:b∈frs fs):b<h.objs.size:=by
 refine A1 (Z2h.mp q) λe1 he hL=>?_;refine K6 (S6 fr e1 he) λL' o' f1 f2 f3 f4=>?_;rw[f1] at hL;replace hL:=Z0a hL;subst hL;exact Z0i f3
inductive CompA(og:OGt)(w:World)(A:Around)(env:Env)(fs:List Env)(elt:Expr)(scope:Scope)(x y:Str)(py:Pos)(Q:Flow->Shared->Prop)(E:Value->Shared->Prop)(xv:Value)(s₁:Shared):Prop
 |mk (ax:Addr) (items:Array Value) (hv:xv= .ref ax) (os:Og s₁ og) (l:I6 s₁.heap ax items) (few:items.size<=100000) (nf:ax∉frs fs) (fr:∀b,b∈frs fs->b<s₁.heap.objs.size) (F:Nat->Nat->Value->Heap->Prop)
  (mono:∀lo lo' j y h h',F lo j y h->lo'<=lo->(∀b o,lo<=b->h.get? b=some o->h'.get? b=some o)->F lo' j y h')
  (turn:∀C j v s₂ m₂,items[j]?=some v->s₁.heap.objs.size<=C->s₂.heap.Ns C m₂->m₂ x=some v->I6 s₂.heap ax items->Kf (frs fs) ax s₁.heap s₂.heap->∀ [Og s₂ og],
   wpAny (model pg w) A (eval elt (compEnv scope C env)) (λy s₃=>F s₂.heap.objs.size j y s₃.heap/\I6 s₃.heap ax items/\Kf (frs fs) ax s₂.heap s₃.heap/\Og s₃ og) noE s₂)
  (fin:∀Dd C s' ys,s₁.heap.objs.size<=Dd->s₁.heap.objs.size<=C->Dd≠C->Dd<C->s'.heap.IsList Dd ys->ys.size=items.size->(∀j y,ys[j]?=some y->F (C+1) j y s'.heap)->Kf (frs fs) ax s₁.heap s'.heap->∀ [Og s' og],
   wpAny (model pg w) A (assign (.Name y py) env (.ref Dd)) (λJ s''=>(∀o,s'.heap.get? C=some o->s''.heap.get? C=some o)/\∀h',Heap.SameBut C s''.heap h'->Q .next {s'' with heap:=h'}) E s')
inductive CompI(og:OGt)(fs:List Env)(h₀:Heap)(ax:Addr)(items:Array Value)(F:Nat->Nat->Value->Heap->Prop)(I Dd C k:Nat)(s':Shared):Prop
 |mk (m':Str->Option Value) (ys:Array Value) (i:Nat) (it:s'.heap.IsListIter I ax i) (l:I6 s'.heap ax items) (acc:s'.heap.IsList Dd ys) (ns:s'.heap.Ns C m') (len:ys.size=i) (le:i<=items.size) (hk:k=items.size+1 - i)
  (hF:∀j y,ys[j]?=some y->F (C+1) j y s'.heap) (kf:Kf (frs fs) ax h₀ s'.heap) (z:C+1<=s'.heap.objs.size) (os:Og s' og)
theorem D62[Og s og]{elt iter:Expr}{x y:Str}{px py:Pos}{scope:Scope}{pos spos:Pos}(hsw:swapsWith (.ListComp elt [⟨.Name x px,iter,[],0⟩] scope pos) (some (.Name y py)) spos.line env=pure true)(hh:A.handled=none)
 (hfree:∀y∈scope.names,y.2≠ .free) (hcell:∀y∈scope.names,y.2≠ .cell) (hkind:scope.kind= .function)
 (hnames:∀y∈scope.names,y.2= .local->scope.names.lookup y.1=some .local) (hx:scope.names.lookup x=some .local)
 (h:wpAny (model pg w) A (eval iter env) (CompA og w A env fs elt scope x y py Q E) E s)
 (hs:∀x,foldedSetIterable iter env x=pure x:=by intro J;rfl) :
 wpAny (model pg w) A (exec (.Assign [.Name y py] (.ListComp elt [⟨.Name x px,iter,[],0⟩] scope pos) spos) env) Q E s:=by
 rw[exec_Assign_Name_used _ _ _ _ hsw]
 refine Z0d (Z1r (Z0d ?_))
 refine Z0d (Z1c (wpAny_comprehension_use (Q:=λJ s'=>Q .next s') rfl hs hfree hkind hnames (Z1c h (λxv s₁ h₁=>?_) λJ J e=>e)) (λJ s' hq=>Z0f (Z0f hq)) λJ J e=>e)
 obtain⟨ax,items,rfl,os1,hl,hsz,haf,hfr,F,mono,turn,fin⟩:=h₁
 refine Z5e hl.isList (Z3l (hd:=by size_fits) (wpAny_newFunctionEnv hcell (by intro y hy;simp at hy) (λh₁ hns₁ hsb₁=>?_) hkind))
 refine A1 hl.isList λol hol hol'=>?_
 have hax:ax<s₁.heap.objs.size:=Z0i hol
 generalize hH1:s₁.heap.push {cls:= .type "list_iterator",data:= .fields #[.ref ax, .int 0 0]}=H1 at hns₁ hsb₁ ⊢
 have hD:H1.objs.size=s₁.heap.objs.size+1:=by rw[<-hH1,Heap.size_push]
 generalize hH2:H1.push {cls:= .type "list",dict:=none,data:= .seq ([]:List Value).toArray}=H2 at hns₁ hsb₁ ⊢
 have hC:H2.objs.size=s₁.heap.objs.size+2:=by rw[<-hH2,Heap.size_push,hD]
 generalize hIe:s₁.heap.objs.size=I at *
 generalize hDe:H1.objs.size=Dd at *
 generalize hCe:H2.objs.size=C at *
 have lID:I<Dd:=hD▸Z0v I
 have lDC:Dd<C:=by rw[hD,hC];exact Z0v _
 have lIC:I<C:=Z1f lID lDC
 have hDI:Dd≠I:=Z0q lID
 have hDC:Dd≠C:=Z0k lDC
 have hIC:I≠C:=Z0k lIC
 have below:∀b:Addr,b<I->b≠I/\b≠Dd/\b≠C:=λb hb=>⟨Z0k hb,Z0k (Z1f hb lID),Z0k (Z1f hb lIC)⟩
 haveI haI:=(below ax hax).1
 haveI haD:=(below ax hax).2.1
 haveI haC:=(below ax hax).2.2
 have old:∀b o,s₁.heap.get? b=some o->h₁.get? b=some o:=λb o e=>
  hsb₁.extBut b o (below b (hIe▸Z0i e)).2.2 (Z0h _ (hH2▸Z0h _ (hH1▸Z0h _ e)))
 have hit:h₁.IsListIter I ax 0:=
  ⟨_,hsb₁.extBut _ _ hIC (Z0h _ (hH2▸Z0h _ (hH1▸hIe▸Z0r _ rfl))),rfl,rfl⟩
 haveI hacc:h₁.IsList Dd #[]:=⟨_,hsb₁.extBut _ _ hDC (Z0h _ (hH2▸hDe▸Z0r _ rfl)),rfl,_,rfl⟩
 haveI hl₁:I6 h₁ ax items:=hl.at λo e=>old _ _ e
 haveI z1:C+1<=h₁.objs.size:=by have:=hns₁.lt;exact this
 haveI nfr:∀b,I<=b->b∉frs fs:=λb hb q=>Z1g.mpr hb (hfr b q)
 have loop:∀s₂:Shared,s₂={s₁ with heap:=h₁,toks:=s₁.toks+([]:List (Str × Value)).length}->
  codeAny (model pg w) A (.compLoop (.ListComp elt [⟨.Name x px,iter,[],0⟩] scope pos) 0 (.ref I) (.ref Dd) (compEnv scope C env))
   (λr s'=>match r with
    | .ok _=>wpAny (model pg w) A (assign (.Name y py) env (.ref Dd)) (λJ s''=>∃m,s''.heap.Ns C m/\∀h',Heap.SameBut C s''.heap h'->Q .next {s'' with heap:=h'}) E s'
    | .error x=>∃m,s'.heap.Ns C m/\∀h',Heap.SameBut C s'.heap h'->wpAny (model pg w) A (passOn (α:=Value) "comprehension.variables-let-go" x (compEnv scope C env)) (λ(_:Value) s'=>Q .next s') E {s' with heap:=h'}) s₂:=by
  rintro s₂ rfl
  refine codeAny_compLoop_list (CompI og fs s₁.heap ax items F I Dd C) ?_ (items.size+1)
   ⟨_,#[],0,hit,hl₁,hacc,hns₁,rfl,Z1y _,rfl,λj y e=>by simp at e,Kf.keeps old (by rw[hIe];exact Z0c (Z0o (Z2a lIC)) z1),z1,inferInstance⟩
  intro k s' q'2
  obtain⟨m',ys,i,hit',hl',hacc',hn',hy,hi,q'3,hF,kf,hz,os'⟩:=q'2
  cases hv:items[i]? with
  |none=>
   have hsz':items.size<=i:=by simpa using hv
   refine P7 (wpAny_pyNext_list_end hh hit' hl'.isList hv λh₁ he₁ hz₁=>?_);haveI hn1:=hn'.extBut he₁ hIC.symm;haveI kf2:=kf.but he₁ (Z0z hIe) hz₁;refine Z1c (fin Dd C _ ys (Z0o lID) (Z0o lIC) hDC lDC (hacc'.extBut he₁ hDI) (hy.trans (Nat.le_antisymm hi hsz')) (λj y e=>mono _ _ _ _ _ _ (hF j y e) (Z0g _) λb o hb e=>?_) kf2) (λJ s'' hq=>?_) λJ J e=>e
   . exact he₁ b o (Z0q (Z0b (Z2a lIC) hb)) e
   . exact⟨_,hn1.at λo e=>hq.1 o e,hq.2⟩
  |some v=>
   haveI hlt:i<items.size:=(Z2b.mp hv).1;refine Z4f hit' hl'.isList hv λh₁ hit₁ hs₁=>?_;refine Z3m (Z1w hx (hn'.sameBut hs₁ hIC.symm) (λh₂ hn₂ hs₂=>?_) (by simp[compEnv,hkind]));haveI kf2:=(kf.but hs₁.extBut (Z0z hIe) (Z0z hs₁.1.symm)).but hs₂.extBut (hIe▸Z0o lIC) (Z0z hs₂.1.symm);refine Z1c (turn C i v _ _ hv (Z0o lIC) hn₂ (by simp) ((hl'.ext hs₁.extBut haI).ext hs₂.extBut haC) kf2) (λy s₃ h₃=>?_) λJ J z=>z.elim;refine R2 h₃ λhy3 hl3 k3 os3=>?_;have z2:h₂.objs.size=s'.heap.objs.size:=hs₂.1.trans hs₁.1;have kp:∀b o,I<=b->h₂.get? b=some o->s₃.heap.get? b=some o:=λb o hb e=>(k3.keep b o e (Z0q (Z0b hax hb))).1 (nfr b hb);haveI hit3:s₃.heap.IsListIter I ax (i+1):=(hit₁.extBut hs₂.extBut hIC).at λo e=>kp _ o (Z0g _) e;have up:∀b o,b≠C->b≠I->s'.heap.get? b=some o->h₂.get? b=some o:=λb o h1 h2 e=>hs₂.extBut b o h1 (hs₁.extBut b o h2 e);haveI hD3:s₃.heap.IsList Dd ys:=(hacc'.at λo e=>up _ o hDC hDI e).at λo e=>kp _ o (Z0o lID) e;have hn3:s₃.heap.Ns C _:=hn₂.at λo e=>kp C o (Z0o lIC) e;refine wpAny_list_append (hsz:=by rw[hy];exact Z0c hi (Z0c hsz (by decide))) hD3 λh₅ hl₅ hs₅=>?_;refine⟨items.size+1 - (i+1),q'3▸Nat.sub_lt_sub_left (Z2a hlt) (Z0v i),_,ys.push y,i+1,hit3.extBut hs₅.extBut hDI.symm,hl3.ext hs₅.extBut haD,hl₅,hn3.sameBut hs₅ hDC.symm,by rw[Array.size_push,hy],hlt,rfl,λj u e=>?_,?_,?_,inferInstance⟩
   . rw[Array.getElem?_push] at e;split at e
     . rename_i q;replace e:=Z0a e;subst e;subst q;rw[hy];refine mono _ _ _ _ _ _ hy3 (z2.symm▸hz) λb o hb e=>hs₅.extBut b o ?_ e;exact Z0q (Z0b (Z0b (Z2a lDC) (z2.symm▸hz)) hb)
     . refine mono _ _ _ _ _ _ (hF j u e) (Z0g _) λb o hb e=>hs₅.extBut b o (Z0q (Z0b (Z2a lDC) hb)) (kp b o (Z0c (Z0o (Z2a lIC)) hb) (up b o (Z0q hb) (Z0q (Z0b (Z2a lIC) hb)) e))
   . exact(kf2.trans k3).but hs₅.extBut (by rw[hIe];lia) (Z0z hs₅.1.symm)
   . have:=k3.size;show C+1<=h₅.objs.size;have e5:=hs₅.1;have:h₂.objs.size<=s₃.heap.objs.size:=this;have e6:h₅.objs.size=s₃.heap.objs.size:=e5;lia
 exact codeAny_compStart_list (loop _ rfl) (wpAny_pyIter_listiter hit (loop _ rfl))
end
def wcl:Cl:=(BtG T1.cls 89).getD ⟨[],[]⟩
def A9v:Fn:=(lkG 101 wcl.ms).getD ⟨[],[], .nil⟩
theorem A5b:B9 "row" cc0.attrs 0=some 101/\B9 "place" cc0.attrs 0=some 17:=⟨rfl,rfl⟩
theorem A3f:BtG T1.cls (88+1)=some wcl:=rfl
theorem C8y:lkG 101 wcl.ms=some A9v:=rfl
theorem D6e(t:Tk)(v:V):lkG 17 (E9 t v)=some v:=rfl
def HWd(ws:List (List (Nat × V))):Hp:=HE.new (.lz 88 ws .leaf)
noncomputable def A2c(t:Tk):O:= .tuple [.str t.kind, .str t.text,t.val]
theorem D0n(k kx:K)(t:Tk)(v:V)(j:Nat)(ws:List (List (Nat × V)))(hj:j<10)(e:ws[j]?=some (E9 t v)):(run T1 P1 NW).call A9v [.wd 0 j] (HWd ws) k kx=k (.ref 1) ((HWd ws).new (A2c t)):=by
 iterate 10
  rcases ws with _ | ⟨_,ws⟩
  . exact nn e
  rcases j with _ | j
  . replace e:=Z0a e;subst e;kernel_rfl
  replace e:ws[j]?=some (E9 t v):=e
 exact absurd hj (by lia)
section
variable{K:Frag}
variable{Q:Value->Shared->Prop}{ax:Addr}{items:Array Value}{ts:List (Tk × Nat)}{wa wb:Nat->Addr}
structure WL(gv:Nat->Option Value)(lo:Nat)(ax:Addr)(items:Array Value)(ts:List (Tk × Nat))(wa wb:Nat->Addr)(h:Heap):Prop where
 l:I6 h ax items
 sz:items.size=ts.length
 at':∀j t,ts[j]?=some t->items[j]?=some (.ref (wa j))/\lo<=wa j/\lo<=wb j/\wa j≠ax/\wb j≠ax/\∀Θ n,WdAt gv an0 Θ n h 88 (wa j) (wb j) (E9 t.1 (.int (t.2:Int)))
theorem WdAt.lt{Θ:Th}{c:Nat}{a d:Addr}{f:List (Nat × V)}(x:WdAt gv an0 Θ n h c a d f):a<h.objs.size/\d<h.objs.size:=by
 obtain⟨C,m,z,p,q,r,f⟩:=x;refine Q0 r λo J J e J=>?_;exact⟨Z0i q,Z0i e⟩
theorem WL.keep{lo:Nat}(x:WL gv lo ax items ts wa wb h)(kf:Kf (frs fs) ax h h')(hf:∀b,b∈frs fs->b<lo)(l':I6 h' ax items):WL gv lo ax items ts wa wb h':=
 ⟨l',x.sz,λj t e=>by
  refine A0i (x.at' j t e) λa1 a2 a3 a4 a5 a6=>?_;exact A2m a1 a2 a3 a4 a5 (λΘ n=>(a6 Θ n).up (Z0g _) (λJ J=>⟨rfl,rfl,rfl⟩) (λb e=>(kf.keep _ b e a4).1 λq=>Z1g.mpr a2 (hf _ q)) (λb e=>(kf.keep _ b e a5).1 λq=>Z1g.mpr a3 (hf _ q)))⟩
noncomputable def ghW(N:Nat)(wa wb:Nat->Addr):Gh:=⟨[],[],λJ=>0,[],N,wa,wb⟩
def K9(ts:List (Tk × Nat)):List (List (Nat × V)):=ts.map λt=>E9 t.1 (.int (t.2:Int))
def ΘE:Th:=⟨λJ=>0,λJ=>0,λJ=>gh0⟩
theorem WL.st(x:WL gv h0.objs.size ax items ts wa wb h)(sy0:A0.StaysIn h0)(fr0:h0.FunFrames A0 fs)(kf:Kf (frs fs) ax h0 h)(ha:h0.objs.size<=ax)(few:ts.length<=1000)(sy:A0.StaysIn h)(fr:h.FunFrames A0 fs) :
 St gv an0 A0 (ΘE.set 0 ax ax (ghW ts.length wa wb)) (HWd (K9 ts)) fs h:=by
 haveI nw:=Th.set_new ΘE 0 ax ax (ghW ts.length wa wb)
 refine P6 (id x.l) λep e1=>?_
 haveI la:ax<h.objs.size:=Z0i e1
 refine((St.none sy0 fr0).add (Θ:=ΘE) (o:= .lz 88 (K9 ts) .leaf) (a:=ax) (d:=ax) (g:=ghW ts.length wa wb) sy fr (Z1y _) (λb o e=>kf.keep b o e (Z0k (Z0b (Z0i e) ha))) ⟨ha,la⟩ ⟨ha,la⟩ (by show 0+0<=D4;decide) (λj hj=>?_) ?_).1
 . have hj:j<ts.length:=hj
   refine A0i (x.at' j _ (Z0w hj)) λa1 a2 a3 a4 a5 a6=>?_
   haveI:=(a6 ΘE 0).lt
   exact A1o ⟨a2,this.1,a4,a4⟩ a3 this.2 a5 a5
 . show LzAt gv an0 (ΘE.set 0 ax ax (ghW ts.length wa wb)) 1 h 0 88 (K9 ts) .leaf
   refine⟨⟨_,A3f⟩,by rw[nw.2.2];show ts.length<=_;refine Z0c (by assumption) ?_;decide,items,ep,[],?_,rfl,by rw[nw.2.2];exact x.sz,by rw[nw.2.2];show(K9 ts).length+0=ts.length;unfold K9;rw[List.length_map];rfl,λj hj=>?_,λj f ej=>?_⟩
   . rw[nw.1];exact e1
   . have hj:j<ts.length:=hj
     exact(x.at' j _ (Z0w hj)).1
   . rw[List.append_nil] at ej
     unfold K9 at ej
     rw[Z1v] at ej
     cases e:ts[j]? with
     |none=>rw[e] at ej;exact nn ej
     |some t=>rw[e] at ej;replace ej:=Z0a ej;subst ej;exact(x.at' j t e).2.2.2.2.2 _ _
inductive PairO(gv:Nat->Option Value)(lo:Nat)(y:Value)(h:Heap)(t:Tk × Nat):Prop
 |mk (p r e1:Nat) (us:Array Value) (e2:Nat) (tt:Tok) (Θ:Th) (n:Nat) (x1:y= .ref p) (x2:lo<=p) (x3:lo<=r) (x4:IsT h p #[.ref r, .int (t.2:Int) tt] e1) (x5:IsT h r us e2) (x6:VRs gv Θ n [.str t.1.kind, .str t.1.text,t.1.val] us.toList)
def U3(gv:Nat->Option Value)(ts:List (Tk × Nat))(lo j:Nat)(y:Value)(h:Heap):Prop:=∀t,ts[j]?=some t->PairO gv lo y h t
theorem U3.mono:∀lo lo' j y (h h':Heap),U3 gv ts lo j y h->lo'<=lo->(∀b o,lo<=b->h.get? b=some o->h'.get? b=some o)->U3 gv ts lo' j y h':=
 λlo lo' j y h h' x hl k t e=>by
  obtain⟨p,r,e1,us,e2,tt,Θ,n,q1,q2,q3,q4,q5,q6⟩:=x t e;exact⟨p,r,e1,us,e2,tt,Θ,n,q1,Z0c hl q2,Z0c hl q3,k _ _ q2 q4,k _ _ q3 q5,q6⟩
theorem B3e{wd:Str}{p:Pos}{C:Addr}{scope:Scope}{v:Value}(hk:scope.kind= .function)(hx:scope.names.lookup wd=some .local)(hd:(wd==("__debug__" :Str))=false)(hn:s.heap.Ns C m)(hm:m wd=some v)(q:Q v s) :
 wpAny (model pg w) A (eval (.Name wd p) (compEnv scope C env)) Q E s:=
 Z3g (Z2k (env:=compEnv scope C env) hk hx hn hm q) hd
theorem C9c[Og s og](g:Ground og w gv mg mb A0 pc K D U)(ca:CA D U NW A fs)(sy0:A0.StaysIn h0)(fr0:h0.FunFrames A0 fs)(kf:Kf (frs fs) ax h0 s.heap)(ha:h0.objs.size<=ax)(hX:A0.get? ax=none)(few:ts.length<=10)(W:WL gv h0.objs.size ax items ts wa wb s.heap)
 {j:Nat} {t:Tk × Nat} (ht:ts[j]?=some t) {C:Addr} {scope:Scope} {wd:Str} (hk:scope.kind= .function) (hx:scope.names.lookup wd=some .local) (hd:(wd==("__debug__" :Str))=false) (hn:s.heap.Ns C m) (hm:m wd=some (.ref (wa j))) (hC:h0.objs.size<=C) (hCx:C≠ax)
 {p1 p2 p3 p4 p5 p6:Pos} {kd:Nat} (hpos:(p2.endLine==p3.line)=true) :
 wpAny (model pg w) A (eval (.Tuple [.Call (.Attribute (.Name wd p1) "row" p2) [] [] p3, .Attribute (.Name wd p4) "place" p5] kd p6) (compEnv scope C env)) (λy s₃=>U3 gv ts s.heap.objs.size j y s₃.heap/\I6 s₃.heap ax items/\Kf (frs fs) ax s.heap s₃.heap/\Og s₃ og) noE s:=by
 have hf:∀b,b∈frs fs->b<h0.objs.size:=λb q=>A0o fr0 q
 haveI hXf:ax∉frs fs:=λq=>Z1g.mpr ha (hf _ q)
 haveI sy:=kf.stays sy0 fr0 hX
 have fr:=kf.frames fr0 hXf
 refine A0i (W.at' j t ht) λhi l1 l2 n1 n2 wat=>?_
 haveI hj:j<ts.length:=(Z1m.mp ht).1
 obtain⟨Cc,mm,z,c1,c2,c3,c4⟩:=(wat ΘE 0)
 obtain⟨x',C',dx,m',cl,q0,g0,CO,z',g1,g2,g3,g4⟩:=A32 (n:=0) (Θ:=ΘE) g.G z c1 c2 c3 c4 ⟨_,A3f⟩
 cases q0
 obtain rfl:wcl=cl:=Z0a (A3f.symm.trans g0)
 refine D6 (CO.meth _ _ _ A5b.1 C8y) λfa f1 f2 fo=>?_
 have hm':m' "row" = none:=by
  haveI:=g4.at A5b.1;exact this
 refine Z3c ?_
 rw[J8 rfl,P8]
 refine Z0n (S8 rfl rfl (by decide) hpos (B3e hk hx hd hn hm ?_))
 refine A7r (g.G.kin.keeps sy) CO.k g2 g3 hm' f1 f2 (M4 (N0 rfl).1 (Z0x ⟨U7 fo.keep (g.G.kin.keeps sy),Z2g ?_⟩))
 refine g.h1.c A9v fa [.wd 0 j] (HWd (K9 ts)) (λv H'=>@decide (v= .ref 1/\H'=(HWd (K9 ts)).new (A2c t.1)) (Classical.propDecidable _)) (λJ J=>false) A fs s _ [.ref (wa j)] _ fo ?_ ca (W.st sy0 fr0 kf ha (by refine Z0c (by assumption) ?_;decide) sy fr) ⟨⟨by show 0<1;decide,?_,?_⟩,trivial⟩ ⟨?_,λJ J q=>nomatch q⟩
 . rw[D0n _ _ t.1 (.int (t.2:Int)) j (K9 ts) (Z0b hj few) (by unfold K9;rw[Z1v,ht];rfl)]
   exact@decide_eq_true _ (Classical.propDecidable _) ⟨rfl,rfl⟩
 . rw[(Th.set_new ΘE 0 ax ax (ghW ts.length wa wb)).2.2];exact hj
 . rw[(Th.set_new ΘE 0 ax ax (ghW ts.length wa wb)).2.2];rfl
 intro v H' hk' Θ' cv s' X st' vr J
 obtain⟨rfl,rfl⟩:=@of_decide_eq_true _ (Classical.propDecidable _) hk'
 have hE:(HWd (K9 ts)).n=1:=rfl
 haveI nw:=Th.set_new ΘE 0 ax ax (ghW ts.length wa wb)
 have own0:∀(b:Addr),b≠ax->∀i,i<(HWd (K9 ts)).n->b≠(ΘE.set 0 ax ax (ghW ts.length wa wb)).a i/\b≠(ΘE.set 0 ax ax (ghW ts.length wa wb)).d i:=λb hb i hi=>by
  obtain rfl:i=0:=by lia
  rw[nw.1,nw.2.1];exact⟨hb,hb⟩
 have k1:Kf (frs fs) ax s.heap s'.heap:=⟨λb o e hb=>X.keep b o e (own0 b hb) (λq=>q),X.size⟩
 obtain⟨_,rfl⟩:1<((HWd (K9 ts)).new (A2c t.1)).n/\cv= .ref (Θ'.a 1):=vr
 have la:I6 s'.heap ax items:=by
  refine A1 (st'.obj 0 (by simp only[Hp.new_n];exact Z0o (by assumption))) λo eo r=>?_;rw[Hp.get_new (by rw[hE];decide),Z0m (by rw[hE];decide)] at eo;obtain rfl:O.lz 88 (K9 ts) .leaf=o:=Z0a (show some _=some o from eo);obtain⟨c1,c2,vs,ep,path,b1,b2,b3,b4,b5,b6⟩:=r;haveI h0:=X.same 0 (by rw[hE];decide);rw[h0.1,nw.1] at b1;rw[h0.2.2,nw.2.2] at b3 b5;have e:vs=items:=by
   refine Array.ext' ?_;refine List.ext_getElem? λi=>?_;by_cases q:i<ts.length
   . rw[Array.getElem?_toList,Array.getElem?_toList,b5 i q];exact(W.at' i _ (Z0w q)).1.symm
   . rw[Array.getElem?_toList,Array.getElem?_toList,Array.getElem?_eq_none (by rw[b3];exact Z1g.mp q),Array.getElem?_eq_none (by rw[W.sz];exact Z1g.mp q)]
  exact⟨ep,e▸b1⟩
 haveI lo1:s.heap.objs.size<=Θ'.a 1:=X.new 1 (by rw[hE];decide) (by rw[Hp.new_n,hE];assumption) _ (.inl rfl)
 obtain⟨us,e2,tu,vu⟩:∃vs e,IsT s'.heap (Θ'.a 1) vs e/\VRs gv Θ' ((HWd (K9 ts)).new (A2c t.1)).n [.str t.1.kind, .str t.1.text,t.1.val] vs.toList:=by
  refine A1 (st'.obj 1 (by rw[Hp.new_n,hE];assumption)) λo eo r=>?_;rw[Hp.get_new (by rw[hE];decide),Z0p (by rw[hE])] at eo;obtain rfl:A2c t.1=o:=Z0a eo;exact r
 haveI W':=W.keep k1 hf la
 obtain⟨Cc,mm,z,c1,c2,c3,c4⟩:=((W'.at' j t ht).2.2.2.2.2 ΘE 0)
 obtain⟨x',C',dx,m',cl,q0,g0,CO,z',g1,g2,g3,g4⟩:=A32 (n:=0) (Θ:=ΘE) g.G z c1 c2 c3 c4 ⟨_,A3f⟩
 cases q0
 have hv:=g4.at A5b.2
 rw[D6e] at hv
 obtain⟨pv,hv,tt,rfl⟩:=hv
 have hn':s'.heap.Ns C m:=hn.at λo e=>(k1.keep C o e hCx).1 λq=>Z1g.mpr hC (hf _ q)
 refine Z0n ?_
 rw[arm_eval_Attribute,A54 rfl]
 refine Z0d (B3e hk hx hd hn' hm ?_)
 refine Z0d (Z1r (Z0d (Z1b ?_)))
 refine B73 (g.G.kin.keeps st'.stays) CO.k g2 g3 hv (CO.soft _ _ A5b.2 (by decide)) rfl ?_
 refine Z0d (Z3a (Z0f (Z0x ⟨(show 2<=sizeLine by decide),?_⟩)))
 have kp:∀b o,s'.heap.get? b=some o->(s'.heap.push {cls:= .type "tuple",data:= .seq (List.toArray [.ref (Θ'.a 1), .int (t.2:Int) tt])}).get? b=some o:=λb o e=>Z0h _ e
 refine⟨λt' e'=>?_,la.at λo e=>kp _ _ e,k1.trans (Kf.keeps kp (by show _<=(s'.heap.push _).objs.size;rw[Heap.size_push];exact(Z1d _))),inferInstance⟩
 obtain rfl:=Z0a (ht.symm.trans e')
 exact⟨s'.heap.objs.size,Θ'.a 1,0,us,e2,tt,Θ',_,rfl,X.size,lo1,Z0r _ rfl,kp _ _ tu,vu⟩
end
def A6d:Expr:=((A4 5).body.tail.head?.bind λs=>Y5 s λJ e=>A8r e λJ J e J=>some e).getD (.Constant .none 0 default)
def B2g:X:=(cE cc0 (A4 5).scope.names 40 A6d).getD .bad
def B34:X:=MineE.X.bin .add (.const (.int 1)) (B06 8)
def A5l:List Stmt:=(A4 5).body.drop 2
theorem C1n:(run T1 P3 NW).e B34 [(0, .ref 0)] HP (kp0 (ltN 9)) (λJ J=>false)=true:=rfl
theorem C4d:(run T1 P3 NW).e B2g [(0, .ref 0)] HP (kp0 (Y4 G9)) (λJ J=>false)=true:=rfl
inductive WrSh:Prop
 |mk (e2:Expr) (p1 p2:Pos) (k:Nat) (p3 p4 p5 p6 p7 p8 p9 p10 p11:Pos) (h0:(A4 5).body= .Assign [.Tuple [.Name "text" p1, .Name "rows" p2] k p3] (.Call (.Name "_law_row" p4) [.Name "source" p5,e2] [] p6) p7 :: .Assign [.Name "text" p8] (.BinOp (.Name "text" p9) .Add A6d p10) p11 :: A5l) (h1:B7 e2=false) (h2:cE cc0 (A4 5).scope.names 40 e2=some B34) (h3:cE cc0 (A4 5).scope.names 40 A6d=some B2g)
theorem D4a:WrSh:=
 ⟨_,_,_,_,_,_,_,_,_,_,_,_,_,rfl,rfl,rfl,rfl⟩
section
variable{K:Frag}
variable{S:Addr}{Q:Value->Shared->Prop}
theorem B4y{t:Addr}{a b:Value}{e:Nat}{Q:List Value->Shared->Prop}{E:Value->Shared->Prop}(hh:A.handled=none)(l:IsL s.heap t #[a,b] e)
 (hQ:∀h',(∀b o,s.heap.get? b=some o->h'.get? b=some o)->s.heap.objs.size<=h'.objs.size->Q [a,b] {s with heap:=h'}):wpAny (model pg w) A (unpackItems (.ref t) 2 none) Q E s:=by
 have ht:=l.isList
 have hlt:t≠s.heap.objs.size:=Z0k (Z0i l)
 refine Z0d ?_
 refine Z0d (wpAny_specialOf ht.typeIs PySem.slot_list_iter.lookup ?_)
 refine Z0f ?_
 refine Z0d (Z1b (Z5e ht ?_))
 generalize hH:s.heap.push {cls:= .type "list_iterator",data:= .fields #[.ref t, .int 0 0]}=H1
 haveI hz:H1.objs.size=s.heap.objs.size+1:=by rw[<-hH,Heap.size_push]
 have k0:∀b o,s.heap.get? b=some o->H1.get? b=some o:=λb o e=>hH▸Z0h _ e
 haveI i0:H1.IsListIter s.heap.objs.size t 0:=⟨_,hH▸Z0r _ rfl,rfl,rfl⟩
 refine Z0d (Z1b ?_)
 refine Z0d (Z4f i0 (ht.at λo e=>k0 _ _ e) (x:=a) rfl λh1 i1 s1=>?_)
 have l1:h1.IsList t #[a,b]:=(ht.at λo e=>k0 _ _ e).extBut s1.extBut hlt
 refine Z0d (Z1b ?_)
 show wpAny _ _ (pyNext (.ref _) >>= _) _ _ {s with heap:=h1}
 refine Z0d (Z4f i1 l1 (x:=b) rfl λh2 i2 s2=>?_)
 haveI l2:h2.IsList t #[a,b]:=l1.extBut s2.extBut hlt
 refine Z0d (Z1b (Z0f (Z0f (Z0f ?_))))
 refine Z0d (Z1b (P7 (wpAny_pyNext_list_end hh i2 l2 rfl λh3 e3 z3=>?_)))
 refine Z0f (hQ h3 (λc o ec=>?_) ?_)
 . haveI nc:c≠s.heap.objs.size:=Z0k (Z0i ec)
   exact e3 c o nc (s2.extBut c o nc (s1.extBut c o nc (k0 c o ec)))
 . haveI a1:h1.objs.size=H1.objs.size:=s1.1
   haveI a2:h2.objs.size=h1.objs.size:=s2.1
   lia
theorem D6f[Og s og]{Q:Flow->Shared->Prop}(g:Ground og w gv mg mb A0 pc K D U)(cx:Cx D U (NW+2) A env fs)(hsc:env.scope=(A4 5).scope)(d:Hd A0 S env fs m s.heap)(m1:m "source" = some (.ref S))
 (q:∀s' (l:List Turn) tl tok r vs e2 I lo m',s.heap.objs.size<=lo->tl∈G9->D9 0 l->l.length<=8->(A3 l).length<=800->Lx S env.locals fs s.heap s'.heap->Hd A0 S env fs m' s'.heap->m' "text" = some (.str (sOf (A3 l ++ tl)) tok)->m' "rows" = some (.ref r)->lo<r->IsL s'.heap r vs e2->RowsAt gv lo r I s'.heap vs.toList (B6 0 l)->∀ [Og s' og],wpAny (model pg w) A (execs A5l env) Q E s') :
 wpAny (model pg w) A (execs (A4 5).body env) Q E s:=by
 haveI p0:=pkl hsc "source" 0
 haveI p1:=pkl hsc "text" 1
 haveI p4:=pkg hsc "_law_row" 4
 have cw:Cx D U NW A env fs:=cx.low (by decide)
 have g0:env.scope.names[0]?=some (Str.ofString "source", .local):=(gk hsc)
 haveI g1:env.scope.names[1]?=some (Str.ofString "text", .local):=(gk hsc)
 haveI g2:env.scope.names[2]?=some (Str.ofString "rows", .local):=(gk hsc)
 obtain⟨e2,q1,q2,kd,q3,q4,q5,q6,q7,q8,q9,q10,q11,hb,hs2,hc2,hc3⟩:=D4a
 refine re hb ?_
 refine Z0j (A0q rfl (B19 (b:=8) g d cx p4 p0 m1 hs2 (by decide) (λQ E kk=>?_) ?_) rfl)
 . refine Hd.ev d cw g.h3 (fu:=40) (by rw[hsc];exact hc2) C1n (.cons (x:=Str.ofString "source") (kd:= .local) g0 m1 ⟨Z0v 0,rfl⟩ .nil) ?_
   intro v H' Θ' cv s' hk lx d' st2 X vr J
   obtain⟨i,rfl,hi⟩:=A63 hk
   obtain⟨t,rfl⟩:=vr
   exact kk i t s' (by lia) lx d'
 intro x s6 l lo1 hlo ro hT hl hTl lx6 d6 J
 obtain⟨r,vr,ex,e2',tt,I,lX,xlo,rlo,lR,rows⟩:=ro
 refine A7 (d.new (Z0o (Z0t hlo rlo))) λrS rB rF=>?_
 haveI at6:At gv an0 A0 (ΘW S r) HP [(0, .ref 0)] env fs s6.heap:=⟨ΘW_st d6.st (Z0i lR) rS rF,m,d6.ns, .cons (x:=Str.ofString "source") (kd:= .local) g0 m1 ⟨Z0v 0,rfl⟩ .nil⟩
 refine A3o (is:= [1,2]) (vs:= [.str (A3 l), .wd 0 0]) (ws:=#[.str (sOf (A3 l)) tt, .ref r]) cx rfl (by rw[hsc];kernel_rfl) (rfl) rfl ⟨⟨tt,rfl⟩,⟨by rw[C6];decide,Z0v 0,rfl⟩,trivial⟩ at6 (λQ' k'=>B4y cx.ca.hand lX k') λs7 X a7=>?_
 intro J
 refine A1 a7.fr λm7 n7 F7=>?_
 refine D6 (F7 0 _ _ (.ref 0) g0 rfl) λJ ms J q'3=>?_
 subst q'3
 obtain⟨_,mt,tt7,rfl⟩:=F7 1 _ _ (.str (A3 l)) g1 rfl
 refine T7 (F7 2 _ _ (.wd 0 0) g2 rfl) λJ mr J J q'5=>?_
 subst q'5
 have d7:Hd A0 S env fs m7 s7.heap:=⟨a7.st.stays,a7.st.frames,n7,K3 (Θ:=ΘW S r) a7.st (rfl) (by rw[C6];assumption),d.low,d.nf⟩
 have lx7:Lx S env.locals fs s6.heap s7.heap:=⟨λb o e h1 h2=>by
  obtain⟨k1,k2⟩:=X.keep b o e (λi J=>⟨h1,h1⟩) h2;exact⟨λq=>k1 (F3 cx.frame h2 q),k2⟩,X.size⟩
 refine Z0j (Z1i (Z1t (A9 cx p1 d7.ns mt ?_)))
 refine Hd.ev d7 cw g.h3 (fu:=40) (by rw[hsc];exact hc3) C4d (.cons (x:=Str.ofString "source") (kd:= .local) g0 ms ⟨Z0v 0,rfl⟩ .nil) ?_
 intro v H' Θ' cv s8 hk lx8 d8 st8 X8 vr J
 refine A1 (A1i hk) λtl tm q'6=>?_
 subst q'6
 obtain⟨tb,rfl⟩:=vr
 have tll:tl.length<=100:=Z0l (C0 (show C5 G9 (λb=>Nat.ble b.length 100)=true by kernel_rfl) tl tm)
 refine Z4l (λt9 k9=>?_) (by simp only[sizeLine_eq];show(A3 l).length+tl.length<=_;lia)
 rw[J2]
 refine Hd.store (s:={s8 with toks:=k9}) d8 cx p1 λh9 lx9 d9=>?_
 have rkeep:∀{ha hb:Heap},Lx S env.locals fs ha hb->∀(z:Nat) o,ha.get? z=some o->lo1<z->hb.get? z=some o:=λlx z o e hz=>by
  haveI hz':s.heap.objs.size<=z:=Z0o (Z0t hlo hz);refine A7 (d.new hz') λzS J zF=>?_;exact(lx.keep z o e zS (λq=>zF (q▸F2 cx.frame))).1 λq=>zF (F5 q)
 have lxA:Lx S env.locals fs s6.heap h9:=(lx7.trans lx8).trans lx9
 exact q _ l tl t9 r vr e2' I lo1 _ hlo tm hT hl hTl (lx6.trans lxA) d9 (Z0p rfl) ((Z0m (by decide)).trans mr) rlo (rkeep lxA _ _ lR rlo) (rows.keep λz o e hz J J=>rkeep lxA z o e hz)
end
section
open PySem.SeqAt
section
variable{n':Nat}
theorem A8c{v:V}{a b:Value}(c:Cl0 v)(x:VR gv Θ n v a)(y:VR gv Θ' n' v b):EqAt A s a b true:=by
 cases c with
 |none=>obtain rfl:a= .none:=x;obtain rfl:b= .none:=y;exact EqAt.same _
 |str z=>obtain⟨t,rfl⟩:=x;obtain⟨u,rfl⟩:=y;have:=EqAt.str_str (A:=A) (s:=s) (sOf z) t (sOf z) u;rwa [beq_self_eq_true] at this
 |int z=>obtain⟨t,rfl⟩:=x;obtain⟨u,rfl⟩:=y;have:=EqAt.int_int (A:=A) (s:=s) z t z u;rwa [beq_self_eq_true] at this
 |bytes z=>
  obtain⟨t,rfl⟩:=x;obtain⟨u,rfl⟩:=y;intro pg w E Q h;refine eqBool_bytes ?_;rw[decide_eq_true rfl];exact h
theorem B7x{r b:Addr}{us vs:Array Value}{e1 e2:Nat}(hr:IsT s.heap r us e1)(hb:IsT s.heap b vs e2)(hn:r≠b)(hu:A.units<cLine)(hs:us.size=vs.size)(he:∀j (h1:j<us.size) (h2:j<vs.size),EqAt A.in1 s us[j] vs[j] true):EqAt A s (.ref r) (.ref b) true:=by
 haveI:=RcAt.tuples (A:=A) (e:=λJ=>true) (show s.heap.IsTuple r us from⟨_,hr,rfl,e1,rfl⟩) (show s.heap.IsTuple b vs from⟨_,hb,rfl,e2,rfl⟩) hu he;rw[hs] at this;haveI e:((List.range (min vs.size vs.size)).all (λJ=>true)&&(vs.size==vs.size))=true:=by simp
 rw[e] at this;exact EqAt.of_refs hn this
theorem C39{k x v:V}{us vs:Array Value}(ck:Cl0 k)(cx:Cl0 x)(cv:Cl0 v)(a:VRs gv Θ n [k,x,v] us.toList)(b:VRs gv Θ' n' [k,x,v] vs.toList):us.size=vs.size/\∀j (h1:j<us.size) (h2:j<vs.size),EqAt A s us[j] vs[j] true:=by
 obtain⟨l1⟩:=us;obtain⟨l2⟩:=vs;rcases l1 with _ | ⟨a1,_ | ⟨a2,_ | ⟨a3,_ | ⟨_,_⟩⟩⟩⟩ <;> first | (exact a.elim) | (exact a.2.elim) | (exact a.2.2.elim) | (exact a.2.2.2.elim) | skip
 rcases l2 with _ | ⟨b1,_ | ⟨b2,_ | ⟨b3,_ | ⟨_,_⟩⟩⟩⟩ <;> first | (exact b.elim) | (exact b.2.elim) | (exact b.2.2.elim) | (exact b.2.2.2.elim) | skip
 refine⟨rfl,λj h1 h2=>?_⟩;haveI h1:j<3:=h1;match j,h1 with
 | 0,_=>exact A8c ck a.1 b.1
 | 1,_=>exact A8c cx a.2.1 b.2.1
 | 2,_=>exact A8c cv a.2.2.1 b.2.2.1
theorem B1o{t:Tk × Nat}{p r a b:Addr}{us vs:Array Value}{e1 e2 e3 e4:Nat}{tt tu:Tok}(cv:Cl0 t.1.val)(hp:IsT s.heap p #[.ref r, .int (t.2:Int) tt] e1)(hr:IsT s.heap r us e2)(vu:VRs gv Θ n [.str t.1.kind, .str t.1.text,t.1.val] us.toList)
 (ha:IsT s.heap a #[.ref b, .int (t.2:Int) tu] e3) (hb:IsT s.heap b vs e4) (vv:VRs gv Θ' n' [.str t.1.kind, .str t.1.text,t.1.val] vs.toList) (n1:p≠a) (n2:r≠b) (hu:A.units+1<cLine):EqAt A s (.ref p) (.ref a) true:=by
 refine B7x hp ha n1 (by exact Z0o (by assumption)) rfl λj h1 h2=>?_
 haveI h1:j<2:=h1
 match j,h1 with
 | 0,_=>
  obtain⟨q1,q2⟩:=C39 (A:=A.in1.in1) (s:=s) (.str _) (.str _) cv vu vv;exact B7x hr hb n2 hu q1 q2
 | 1,_=>have:=EqAt.int_int (A:=A.in1) (s:=s) (t.2:Int) tt (t.2:Int) tu;rwa [beq_self_eq_true] at this
end
end
section
open PySem.SeqAt
inductive WrrSh:Prop
 |mk (pf p1 p2 p3 p4 p5 p6 px pr pt pc ppos pa pb q1 q2 q3 q4 q5 q6 q7 q8 q9 q10 q11 q12 q13:Pos) (kd k1 k2 k3 k4 k5:Nat) (scope:Scope) (h0:A5l= [.Assign [.Name "found" pf] (.ListComp (.Tuple [.Call (.Attribute (.Name "word" p1) "row" p2) [] [] p3, .Attribute (.Name "word" p4) "place" p5] kd p6)
  [⟨.Name "word" px, .Call (.Name "read_words" pr) [.Name "text" pt] [] pc,[],0⟩] scope ppos) pa,
  .Return (some (.Compare (.Name "found" q1) [.Eq] [.BinOp (.Name "rows" q2) .Add (.List [.Tuple [.Tuple [.Constant (.str (sOf [101,110,100])) k1 q3, .Constant (.str (sOf [])) k2 q4, .Constant .none k3 q5] k4 q6, .Call (.Name "len" q7) [.Name "text" q8] [] q9] k5 q10] q11) q12] q13)) pb]) (h1:(p2.endLine==p3.line)=true) (h2:(∀y∈scope.names,y.2≠ .free)) (h3:(∀y∈scope.names,y.2≠ .cell)) (h4:scope.kind= .function) (h5:(∀y∈scope.names,y.2= .local->scope.names.lookup y.1=some .local)) (h6:scope.names.lookup (Str.ofString "word")=some .local) (h7:(pf.line==ppos.line)=true) (h8:(scope.names.any λ(n,k)=>n==Str.ofString "found" && (k == .local||k == .cell))=false)
theorem C9u:WrrSh:=
 ⟨_,_,_,_,_,_,_,_,_,_,_,_,_,_,_,_,_,_,_,_,_,_,_,_,_,_,_,_,_,_,_,_,_,_,rfl,by decide,by decide,by decide,rfl,by decide,rfl,rfl,rfl⟩
theorem B99{s:Tx}(h:s∈G9):Fol s:=by
 haveI:C5 G9 (λg=>match g with | []=>true | c :: _=>A1a.contains c)=true:=rfl
 have:=C0 this s h;cases s with
 |nil=>exact .nil
 |cons c g=>exact .cons (by simpa using this)
theorem C9d{l:List Turn}{tl:Tx}(hT:D9 0 l)(tm:tl∈G9):Scan NW [] (A3 l ++ tl) 0 (B6 0 l ++ [(E7,(A3 l ++ tl).length)]):=by
 haveI:=Scan.turns (pre:= []) (B99 tm) hT (Scan.tail (pre:= [] ++ A3 l) (gr:=G3 0 l) tm);rw[List.length_append];exact this
theorem B35:∀{l:List Turn} {gr p:Nat},D9 gr l->∀t∈B6 p l,Cl0 t.1.val
 | [],_,_,_,_,m=>nomatch m
 |u :: l,gr,p,h,t,m=>by
  rcases List.mem_cons.mp m with rfl | m
  . exact h.2.1.cl
  . exact B35 h.2.2.2 t m
section
variable{K:Frag}
variable{S:Addr}{Q:Flow->Shared->Prop}
theorem Hd.kf{X:Addr}(d:Hd A0 S env outer m h)(k:Kf (frs (env :: outer)) X h h')(hX:h.objs.size<=X)(hf:env.frame=some env.locals):Hd A0 S env outer m h':=by
 refine A7 (d.new hX) λx1 x2 x3=>?_;refine Y7 d.pool.ex λa b ta tb e l r=>?_;refine⟨k.stays d.stays d.frames x2,k.frames d.frames x3,?_,⟨a,b,ta,tb,e,(k.keep _ _ l x1.symm).1 d.nf,r⟩,d.low,d.nf⟩;refine G4 d.ns λo es ep eo dd rr=>?_;obtain⟨_,sl,e'⟩:=k.keep _ o eo (λq=>x3 (q▸F2 hf));exact S9 _ es ep e' dd rr
theorem Kf.lx{X L:Addr}(x:Kf (frs (env :: fs)) X h h')(hX:h.objs.size<=X)(hf:env.frame=some L):Lx S L fs h h':=⟨λb o e J h2=>by
 obtain⟨k1,k2⟩:=x.keep b o e (Z0k (Z0b (Z0i e) hX));refine⟨λq=>k1 λz=>?_,k2⟩;unfold frs at z;rw[List.filterMap_cons,hf] at z;rcases List.mem_cons.mp z with z | z
 . exact h2 z
 . exact q z,x.size⟩
theorem B1m{elt:Expr}{gens:List Comprehension}{scope:Scope}{pos py:Pos}{y:Str}{sl:Nat}(hb:env.scope.kind= .function)(hk:env.kindOf y=some .local)(hl:(py.line==pos.line)=true)(hn:(scope.names.any λ(n,k)=>n==y&&(k == .local||k == .cell))=false) :
 swapsWith (.ListComp elt gens scope pos) (some (.Name y py)) sl env=pure true:=by
 haveI hbk:env.blockKind= .function:=by unfold Env.blockKind;rw[hb];rfl
 unfold swapsWith
 dsimp only
 rw[hbk,hk,show(Expr.ListComp elt gens scope pos).pos=pos from rfl,hl,hn]
 rfl
theorem C8s[Og s og]{scope:Scope}{p1 p2 p3 p4 p5 p6 px pr pt pcx ppos:Pos}{kd:Nat}{pf pa:Pos}{l:List Turn}{tl:Tx}{tok:Tok}(g:Ground og w gv mg mb A0 pc K D U)(cx:Cx D U (NW+2) A env fs)(hsc:env.scope=(A4 5).scope)(d:Hd A0 S env fs m s.heap)
 (hpos:(p2.endLine==p3.line)=true) (h1:∀y∈scope.names,y.2≠ .free) (h2:∀y∈scope.names,y.2≠ .cell) (h3:scope.kind= .function) (h4:∀y∈scope.names,y.2= .local->scope.names.lookup y.1=some .local) (h5:scope.names.lookup (Str.ofString "word")=some .local) (h6:(pf.line==ppos.line)=true) (h7:(scope.names.any λ(n,k)=>n==Str.ofString "found" && (k == .local||k == .cell))=false)
 (mt:m "text" = some (.str (sOf (A3 l ++ tl)) tok)) (hT:D9 0 l) (tm:tl∈G9) (hl8:l.length<=8) (hlen:(A3 l ++ tl).length<=1000)
 (q:∀Dd s' ys lo2 m',s.heap.objs.size<=Dd->s.heap.objs.size<=lo2->s'.heap.IsList Dd ys->ys.size=(B6 0 l ++ [(E7,(A3 l ++ tl).length)]).length->(∀j y,ys[j]?=some y->U3 gv (B6 0 l ++ [(E7,(A3 l ++ tl).length)]) lo2 j y s'.heap)->Lx S env.locals fs s.heap s'.heap->Hd A0 S env fs m' s'.heap->m' "found" = some (.ref Dd)->(∀z,z≠Str.ofString "found" ->m' z=m z)->∀ [Og s' og],Q .next s') :
 wpAny (model pg w) A (exec (.Assign [.Name "found" pf] (.ListComp (.Tuple [.Call (.Attribute (.Name "word" p1) "row" p2) [] [] p3, .Attribute (.Name "word" p4) "place" p5] kd p6)
  [⟨.Name "word" px, .Call (.Name "read_words" pr) [.Name "text" pt] [] pcx,[],0⟩] scope ppos) pa) env) Q E s:=by
 refine A1 (g.G.fns 86 N8 A5a) λfr gr fo=>?_
 haveI q1:=pkl hsc "text" 1
 haveI q3:=pkl hsc "found" 3
 refine A7 (G6 q3) λJ J q3k=>?_
 haveI q7:=pkg hsc "read_words" 7
 have hts:(B6 0 l ++ [(E7,(A3 l ++ tl).length)]).length=l.length+1:=by rw[List.length_append,G2];rfl
 haveI sc:=C9d hT tm
 generalize B6 0 l ++ [(E7,(A3 l ++ tl).length)]=ts at q hts sc
 refine D62 (fs:=env :: fs) (B1m cx.kind q3k h6 h7) cx.ca.hand h1 h2 h3 h4 h5 ?_
 refine N2 g.G cx q7 rdS gr fo.keep d.stays rfl (Z0n (A9 cx q1 d.ns mt (Z0x ⟨d.stays,?_⟩)))
 refine B6e (n:=80) g.G g.hD g.h1 fo cx.ca d.stays d.frames (by unfold D4;refine Z0c (by assumption) ?_;decide) sc (by lia) λs1 Θs rd lo=>?_
 intro J
 refine B4 rd.ex λvs e l1 wd=>?_
 obtain⟨len,wa,wb,wg⟩:=wd.addr
 have lo1:s.heap.objs.size<=Θs.a 1:=lo 1 (by decide) _ (.inl rfl)
 have k0:Kf (frs (env :: fs)) (Θs.a 1) s.heap s1.heap:=⟨λb o eb J=>rd.ext.keep b o eb (λi hi=>⟨Z0k (Z0b (Z0i eb) (lo i hi _ (.inl rfl))),Z0k (Z0b (Z0i eb) (lo i hi _ (.inr rfl)))⟩) (λq=>q),rd.ext.size⟩
 haveI hf:∀b,b∈frs (env :: fs)->b<s.heap.objs.size:=λb z=>A0o d.frames z
 refine A7 (d.new lo1) λx1 x2 x3=>?_
 have W0:WL gv s.heap.objs.size (Θs.a 1) vs ts wa wb s1.heap:=⟨⟨e,l1⟩,len,λj t ej=>by
  refine A1 (wg j t ej) λv ev z=>?_;refine A2m (by simp only[<-z.v,<-ev,Array.getElem?_toList]) z.lx.1 z.ld.1 (λq=>z.nx (by rw[q];exact Z2e ..)) (λq=>z.nd (by rw[q];exact Z2e ..)) z.at'⟩
 refine⟨_,vs,rfl,inferInstance,⟨e,l1⟩,by rw[W0.sz,hts];lia,x3,λb z=>Z0b (hf b z) k0.size,U3 gv ts,U3.mono,λC j v s2 m2 hv hC hn hm hl kf=>?_,λDd C s' ys hD hC hDC hlt lD hsz hF kf=>?_⟩
 . intro J
   have hj:j<ts.length:=by rw[<-W0.sz];exact(Z2b.mp hv).1
   haveI ev:=(W0.at' j _ (Z0w hj)).1
   obtain rfl:v= .ref (wa j):=Z0a (hv.symm.trans ev)
   refine C9c g (cx.ca.low (by decide)) d.stays d.frames (k0.trans kf) lo1 x2 (by lia) (W0.keep kf hf hl) (Z0w hj) h3 h5 (by decide) hn hm (Z0c k0.size hC) (λq=>?_) hpos
   haveI:=Z0i l1
   exact absurd (Z0b this hC) (by rw[q];exact Z1e _)
 . intro J
   haveI kk:=k0.trans kf
   have d1:=d.kf kk lo1 cx.frame
   have lx1:=kk.lx (S:=S) lo1 cx.frame
   have hC':=Z0c k0.size hC
   refine A7 (d.new hC') λc1 c2 c3=>?_
   haveI nC:C≠env.locals:=λz=>c3 (z▸F2 cx.frame)
   haveI cF:C∉frs fs:=λz=>c3 (F5 z)
   refine Z3m (Hd.store d1 cx q3 λh2 lx2 d2=>⟨λo e=>(lx2.keep C o e c1 nC).1 cF,λh3 sb=>?_⟩)
   have kB:∀b o,b∉ [C]->h2.get? b=some o->h3.get? b=some o:=λb o hb e=>sb.extBut b o (λz=>hb (Z0s.mpr z)) e
   haveI d3:=d2.but (wr:= [C]) kB (λb hb=>by rw[Z0s.mp hb];exact⟨c1,c2,c3⟩) cx.frame
   haveI lx3:=(lx1.trans lx2).but (wr:= [C]) kB (λb hb=>by rw[Z0s.mp hb];exact hC') (Z0z sb.1.symm)
   have up:∀b o,s.heap.objs.size<=b->b≠C->s'.heap.get? b=some o->h3.get? b=some o:=λb o hb hbC e=>by
    refine A7 (d.new hb) λz1 z2 z3=>?_;exact sb.extBut b o hbC ((lx2.keep b o e z1 (λz=>z3 (z▸F2 cx.frame))).1 λz=>z3 (F5 z))
   have hD':=Z0c k0.size hD
   refine q Dd _ ys (C+1) _ hD' (Z5h hC') (lD.at λo e=>up _ o hD' hDC e) (by simp only[hsz,W0.sz]) (λj y ej=>U3.mono _ _ _ _ _ _ (hF j y ej) (Z0g _) λb o hb e=>up b o (Z0c (Z5h hC') hb) (Z0q hb) e) lx3 d3 (Z0p rfl) λz hz=>Z0m hz
end
end
section
open PySem.SeqAt
section
variable{K:Frag}
variable{S:Addr}{Q:Value->Shared->Prop}
theorem D37[Og s og]{q1 q2 q3 q4 q5 q6 q7 q8 q9 q10 q11 q12 q13:Pos}{k1 k2 k3 k4 k5:Nat}{l:List Turn}{tl:Tx}{tok:Tok}{r Dd lo1 lo2:Nat}{vs ys:Array Value}{e2:Nat}{I:Addr}(g:Ground og w gv mg mb A0 pc K D U)(cx:Cx D U (NW+2) A env fs)(hsc:env.scope=(A4 5).scope)(d:Hd A0 S env fs m s.heap)
 (mt:m "text" = some (.str (sOf (A3 l ++ tl)) tok)) (mr:m "rows" = some (.ref r)) (mf:m "found" = some (.ref Dd)) (hT:D9 0 l) (hl8:l.length<=8) (hlen:(A3 l ++ tl).length<=1000)
 (lr:IsL s.heap r vs e2) (rows:RowsAt gv lo1 r I h₀ vs.toList (B6 0 l)) (lD:s.heap.IsList Dd ys) (hsz:ys.size=(B6 0 l ++ [(E7,(A3 l ++ tl).length)]).length)
 (hF:∀j y,ys[j]?=some y->U3 gv (B6 0 l ++ [(E7,(A3 l ++ tl).length)]) lo2 j y s.heap) (h0s:h₀.objs.size<=lo2) (keep0:∀(z:Nat) o,h₀.get? z=some o->lo1<z->s.heap.get? z=some o)
 (q:∀s',Lx S env.locals fs s.heap s'.heap->Hd A0 S env fs m s'.heap->∀ [Og s' og],Q (.bool true) s') :
 wpAny (model pg w) A (eval (.Compare (.Name "found" q1) [.Eq] [.BinOp (.Name "rows" q2) .Add (.List [.Tuple [.Tuple [.Constant (.str (sOf [101,110,100])) k1 q3, .Constant (.str (sOf [])) k2 q4, .Constant .none k3 q5] k4 q6, .Call (.Name "len" q7) [.Name "text" q8] [] q9] k5 q10] q11) q12] q13) env) Q E s:=by
 haveI p1:=pkl hsc "text" 1
 haveI p2:=pkl hsc "rows" 2
 haveI p3:=pkl hsc "found" 3
 haveI p8:=pkg hsc "len" 8
 refine Z4b (A9 cx p3 d.ns mf (Z1t (A9 cx p2 d.ns mr (Z3e ?_))))
 rw[J8 rfl,P8]
 refine Z0n (Z3c ?_)
 rw[J8 rfl,P8]
 refine Z0n (Z3c ?_)
 rw[J8 rfl,P8]
 refine Z0n (Z2t (Z0n (Z2t (Z0n (Z4t (Z0x ⟨(show 3<=sizeLine by decide),?_⟩))))))
 generalize hH1:s.heap.push {cls:= .type "tuple",data:= .seq (List.toArray [Value.str (sOf [101,110,100]) s.toks,Value.str (sOf []) (s.toks+1),Value.none])}=H1
 have k1:∀b o,s.heap.get? b=some o->H1.get? b=some o:=λb o e=>hH1▸Z0h _ e
 have z1:H1.objs.size=s.heap.objs.size+1:=by rw[<-hH1,Heap.size_push]
 haveI t1:IsT H1 s.heap.objs.size #[Value.str (sOf [101,110,100]) s.toks,Value.str (sOf []) (s.toks+1),Value.none] 0:=hH1▸Z0r _ rfl
 haveI d1:=d.keeps k1
 refine Z0n (L8 (cv:= .builtin "len") g.G cx p8 A26 rfl (λJ=>H6) d1.stays rfl ?_)
 refine Z0n (A9 cx p1 d1.ns mt (Z0x (P.len_str (by show ¬(((A3 l ++ tl).length:Nat):Int)>=_;lia) (Z0x ⟨(show 2<=sizeLine by decide),Z0x ⟨(show 1<=sizeLine by decide),?_⟩⟩))))
 generalize hH2:H1.push {cls:= .type "tuple",data:= .seq (List.toArray [Value.ref s.heap.objs.size,_])}=H2
 have k2:∀b o,H1.get? b=some o->H2.get? b=some o:=λb o e=>hH2▸Z0h _ e
 haveI z2:H2.objs.size=H1.objs.size+1:=by rw[<-hH2,Heap.size_push]
 obtain⟨tk,t2⟩:∃tk,IsT H2 H1.objs.size #[.ref s.heap.objs.size, .int (((A3 l ++ tl).length:Nat):Int) tk] 0:=⟨_,hH2▸Z0r _ rfl⟩
 clear hH2
 generalize hH3:H2.push {cls:= .type "list",data:= .seq (List.toArray [Value.ref H1.objs.size])}=H3
 have k3:∀b o,H2.get? b=some o->H3.get? b=some o:=λb o e=>hH3▸Z0h _ e
 haveI z3:H3.objs.size=H2.objs.size+1:=by rw[<-hH3,Heap.size_push]
 haveI t3:IsL H3 H2.objs.size #[Value.ref H1.objs.size] 0:=hH3▸Z0r _ rfl
 haveI k03:∀b o,s.heap.get? b=some o->H3.get? b=some o:=λb o e=>k3 _ _ (k2 _ _ (k1 _ _ e))
 have hvs:vs.size=l.length:=by have:=rows.len;rw[Array.length_toList,G2] at this;exact this
 refine P.add_list (k03 _ _ lr) t3 ?_ (by rw[hvs];show l.length+1<=sizeLine;rw[sizeLine_eq];lia)
 generalize hH4:H3.push {cls:= .type "list",data:= .seq (vs ++ #[Value.ref H1.objs.size])}=H4
 have k4:∀b o,H3.get? b=some o->H4.get? b=some o:=λb o e=>hH4▸Z0h _ e
 haveI z4:H4.objs.size=H3.objs.size+1:=by rw[<-hH4,Heap.size_push]
 haveI t4:IsL H4 H3.objs.size (vs ++ #[Value.ref H1.objs.size]) 0:=hH4▸Z0r _ rfl
 haveI k04:∀b o,s.heap.get? b=some o->H4.get? b=some o:=λb o e=>k4 _ _ (k03 _ _ e)
 have hu:A.units+816<cLine:=Z0t (by have:=cx.ca.uni;show A.units+816<=U;have e:NW=100:=rfl;assumption) g.hU
 haveI hys:ys.size=l.length+1:=by rw[hsz,List.length_append,G2];rfl
 refine eq_listAt (e:=λJ=>true) (lD.at λo e=>k04 _ _ e) t4.isList (by rw[hys,Array.size_append,hvs];rfl) (by lia) (λj h1 h2=>?_) ?_
 . haveI eF:=hF j ys[j] (Z2p h1)
   by_cases hj:j<l.length
   . have hjw:j<(B6 0 l).length:=by rw[G2];exact hj
     haveI et:(B6 0 l)[j]?=some (B6 0 l)[j]:=Z0w hjw
     obtain⟨p,r',e1,us,e3,tt,Θ,n0,y1,y2,y3,y4,y5,y6⟩:=eF _ (by rw[Z1l hjw];exact et)
     have hjv:j<vs.size:=by rw[hvs];exact hj
     obtain⟨a,b,f1,uv,f2,tu,w1,w2,w3,_,_,_,_,w4,w5,w6⟩:=(rows.at' j vs[j] _ (by rw[Array.getElem?_toList];exact Z2p hjv) et)
     rw[Array.getElem_append_left hjv,w1,y1]
     haveI c1:=Z0i w4
     haveI c2:=Z0i w5
     exact B1o (A:=A.in1) (B35 hT _ (Z1p et)) (k04 _ _ y4) (k04 _ _ y5) y6 (k04 _ _ (keep0 _ _ w4 w2)) (k04 _ _ (keep0 _ _ w5 w3)) (w6 Θ n0)
      (Z0q (Z0b c1 (Z0c h0s y2))) (Z0q (Z0b c2 (Z0c h0s y3))) (by simp only[Around.in1_units];lia)
   . obtain rfl:j=l.length:=by lia
     obtain⟨p,r',e1,us,e3,tt,Θ,n0,y1,y2,y3,y4,y5,y6⟩:=eF (E7,(A3 l ++ tl).length) (by rw[Z1o (by rw[G2];exact Z0g _),G2,Nat.sub_self];rfl)
     have ee:(vs ++ #[Value.ref H1.objs.size])[l.length]'h2=Value.ref H1.objs.size:=by
      rw[Array.getElem_append_right (by rw[hvs];exact Z0g _)];simp[hvs]
     rw[ee,y1]
     haveI c1:=Z0i y4
     haveI c2:=Z0i y5
     exact B1o (A:=A.in1) (t:=(E7,(A3 l ++ tl).length)) .none (k04 _ _ y4) (k04 _ _ y5) y6 (k4 _ _ (k3 _ _ t2)) (k4 _ _ (k3 _ _ (k2 _ _ t1))) (Θ':=Θ) (n':=n0) ⟨⟨_,rfl⟩,⟨_,rfl⟩,rfl,trivial⟩
      (Z0k (Z0b c1 (by lia))) (Z0k c2) (by simp only[Around.in1_units];lia)
 . haveI e:((List.range ys.size).all λJ=>true)=true:=by simp
   refine re e ?_
   exact q _ (Lx.keeps k04 (by show s.heap.objs.size<=H4.objs.size;lia)) (d.keeps k04)
end
end
section
open PySem.SeqAt
section
variable{K:Frag}
variable{S:Addr}
theorem C76[Og s og]{Q:Flow->Shared->Prop}(g:Ground og w gv mg mb A0 pc K D U)(cx:Cx D U (NW+2) A env fs)(hsc:env.scope=(A4 5).scope)(d:Hd A0 S env fs m s.heap){l:List Turn}{tl:Tx}{tok:Tok}{r lo:Nat}{vs:Array Value}{e2:Nat}{I:Addr}
 (mt:m "text" = some (.str (sOf (A3 l ++ tl)) tok)) (mr:m "rows" = some (.ref r)) (hT:D9 0 l) (tm:tl∈G9) (hl8:l.length<=8) (hTl:(A3 l).length<=800)
 {h00:Heap} (d00:∀z:Nat,lo<z->z≠S/\z∉frs (env :: fs)) (rlo:lo<r) (lr:IsL s.heap r vs e2) (rows:RowsAt gv lo r I s.heap vs.toList (B6 0 l))
 (q:∀s',Lx S env.locals fs s.heap s'.heap->Pool s'.heap S->A0.StaysIn s'.heap->s'.heap.FunFrames A0 (env :: fs)->∀ [Og s' og],Q (.ret (.bool true)) s'):wpAny (model pg w) A (execs A5l env) Q E s:=by
 haveI tll:tl.length<=100:=Z0l (C0 (show C5 G9 (λb=>Nat.ble b.length 100)=true by kernel_rfl) tl tm)
 have hlen:(A3 l ++ tl).length<=1000:=by rw[List.length_append];exact Z0c (Nat.add_le_add hTl tll) (by decide)
 obtain⟨pf,p1,p2,p3',p4,p5,p6,px,pr,pt,pcx,ppos,pa,pb,q1,q2,q3,q4,q5,q6,q7,q8,q9,q10,q11,q12,q13,kd,k1,k2,k3,k4,k5,scope,hb,hp,n1,n2,n3,n4,n5,n6,n7⟩:=C9u
 refine re hb ?_
 have rk:∀{ha hb:Heap},Lx S env.locals fs ha hb->∀(z:Nat) o,ha.get? z=some o->lo<z->hb.get? z=some o:=λlx z o e hz=>by
  obtain⟨zS,zF⟩:=d00 z hz;exact(lx.keep z o e zS (λq=>zF (q▸F2 cx.frame))).1 λq=>zF (F5 q)
 refine Z0j (C8s g cx hsc d hp n1 n2 n3 n4 n5 n6 n7 mt hT tm hl8 hlen λDd s1 ys lo2 m' hD hlo2 lD hsz hF lx1 d1 mf mo=>?_)
 intro J
 refine Z0j (Z1u (D37 (lo1:=lo) (lo2:=lo2) (h₀:=s.heap) g cx hsc d1 ((mo _ (by decide)).trans mt) ((mo _ (by decide)).trans mr) mf hT hl8 hlen
  (rk lx1 _ _ lr rlo) rows lD hsz hF hlo2 (rk lx1) λs3 lx3 d3=>?_))
 intro J
 exact q _ (lx1.trans lx3) d3.pool d3.stays d3.frames
theorem D3t[Og s og](g:Ground og w gv mg mb A0 pc K D U){f5:Addr}(r5:FnRaw gv cc0 K (A4 5) [0] [] f5)(ca:CA D U (NW+3) A fs)(st:St gv an0 A0 (ΘP S) HP fs s.heap)(low:A0.get? S=none)
 (k:∀s',Lx S S fs s.heap s'.heap->Pool s'.heap S->A0.StaysIn s'.heap->s'.heap.FunFrames A0 fs->∀ [Og s' og],R (.ok (.ret (.bool true))) s'):codeAny (model pg w) A (.call (.ref f5) ⟨[.ref S],[]⟩) R s:=by
 refine N6 (n:=NW+2) g.G g.hD r5 (vs:= [.ref 0]) (l:= [(0, .ref 0)]) rfl ca st ⟨⟨by simp only[C6];decide,rfl⟩,trivial⟩ λenv h₀ tk J hsc cx at' kp e3=>?_
 obtain⟨st',m,hn,F⟩:=at'
 refine D6 (F 0 "source" .local (.ref 0) (gk hsc) rfl) λc1 m1 J q'1=>?_
 subst q'1
 haveI d:Hd A0 S env fs m h₀:=Hd.enter st' hn low
 have hz:s.heap.objs.size<=h₀.objs.size:=Z0o (by rw[e3] at hn;exact hn.lt)
 refine D6f (s:={s with heap:=h₀,toks:=tk}) g cx hsc d m1 λs1 l tl tok r vs e2 I lo m' hlo tm hT hl8 hTl lx1 d1 mt mr rlo lr rows=>?_
 intro J
 refine C76 (h00:=h₀) g cx hsc d1 mt mr hT tm hl8 hTl (λz hz'=>?_) rlo lr rows λs2 lx2 pl sy fr=>?_
 . refine A7 (d.new (Z0o (Z0t hlo hz'))) λz1 J z3=>?_
   exact⟨z1,z3⟩
 . intro J
   exact k s2 ((lx1.trans lx2).leave kp hz e3) pl sy fr.2.2
end
end
section
variable{K:Frag}
variable{i j:Int}{e1 e2:Expr}{p p2 pos:Pos}
theorem Ie.neg(a:Ie w A env h e1 i):Ie w A env h (.UnaryOp .USub e1 p) (-i):=λs Q E hs q=>wpAny_UnaryOp (a s _ _ hs λt tk=>neg_int (q _ _))
theorem Ie.pow(hn:0<=j)(hn2:j<=1000000)(ha:i.natAbs<2 ^ 64)(a:Ie w A env h e1 i)(b:Ie w A env h e2 j):Ie w A env h (.BinOp e1 .Pow e2 p) (i ^ j.toNat):=
 λs Q E hs q=>Z1t (a s _ _ hs λt tk=>b {s with toks:=tk} _ _ hs λu tk2=>pow_int_small hn hn2 ha (q _ _))
theorem Ie.flag{x:Str}{k:Nat}(hm:behindInMarks .GtE e2=false)(G:GT w T1 cc0 gv mg mb A0 K)(cx:Cx D U n A env outer)(sy:A0.StaysIn h)(hx:x=Str.ofString "int")(hp:B3 x env.scope.names 0=some (k, .globalImplicit))(a:Ie w A env h e1 i)(b:Ie w A env h e2 j) :
 Ie w A env h (.Call (.Name x p) [.Compare e1 [.GtE] [e2] p2] [] pos) (if decide (i>=j) then 1 else 0):=λs Q E hs q=>by
 subst hx
 refine L8 (cv:= .type "int") G cx hp B7z rfl (λJ=>⟨.machine, .now⟩) (by rw[hs];exact sy) rfl ?_
 exact Z0n (Z4b (hm:=hm) (a s _ _ hs λt tk=>b {s with toks:=tk} _ _ hs λu tk2=>ge_int (Z0x (call_int_bool (q _ _)))))
end
def B2b:List Stmt:=(A4 15).body.drop 2
section
variable{K:Frag}
variable{Q:Flow->Shared->Prop}
theorem D1d[Og s og](G:GT w T1 cc0 gv mg mb A0 K)(cx:Cx D U n A env outer)(hsc:env.scope=(A4 15).scope)(sy:A0.StaysIn s.heap)(bL:A0.get? env.locals=none)(hn:s.heap.Ns env.locals m){kk:Nat}{c:Int}{tk tc:Tok}(mk:m "k" = some (.int (kk:Int) tk))(mc:m "cell" = some (.int c tc))(hk:kk<=1)
 (q:∀(S:Addr) s',(∀b o,s.heap.get? b=some o->b≠env.locals->s'.heap.get? b=some o)->s.heap.objs.size<=s'.heap.objs.size->s.heap.objs.size<=S->Pool s'.heap S->∀ [Og s' og],Q (.ret (.ref S)) s'):wpAny (model pg w) A (execs B2b env) Q E s:=by
 haveI p1:=pkl hsc "k" 1
 haveI p2:=pkl hsc "cell" 2
 have p3:=pkl hsc "big" 3
 have p4:=pkl hsc "mixed" 4
 haveI p6:=pkg hsc "max" 6
 have p7:=pkg hsc "int" 7
 conv=>arg 3;arg 1;whnf
 have iC:∀{p:Pos},Ie w A env s.heap (.Name "cell" p) c:=Ie.name cx p2 hn mc
 refine Z0j (Z1i (L8 (cv:= .builtin "max") G cx p6 B7p rfl (λJ=>H6) sy rfl ?_))
 refine Z0n (Ie.int G cx sy rfl p7 rfl iC s _ _ rfl λt1 k1=>Z0n (Ie.int G cx sy rfl p7 rfl (Ie.sub (Ie.neg Ie.const) iC) {s with toks:=k1} _ _ rfl λt2 k2=>Z0x (A8x cx.ca.hand λh1 k3 kp1 z1=>?_)))
 have hb:∃b t,(if -1 - c>c then Value.int (-1 - c) t2 else .int c t1)= .int b t/\0<=b:=by
  by_cases z:-1 - c>c
  . rw[Z0p z];exact⟨_,_,rfl,by lia⟩
  . rw[Z0m z];exact⟨_,_,rfl,by lia⟩
 refine B4 hb λb tb eb hb0=>?_
 clear hb
 refine re eb ?_
 have bk:∀{h:Heap},(∀b o,s.heap.get? b=some o->b≠env.locals->h.get? b=some o)->A0.StaysIn h:=λk b o e=>k b o (sy b o e) λz=>by rw[z,bL] at e;exact nn e
 refine A7 (G6 p3) λJ J e3=>?_
 refine Z1w e3 (hn.keeps kp1) (λh2 hn2 sb2=>?_) (by rw[cx.kind];rfl)
 have kp2:∀b o,s.heap.get? b=some o->b≠env.locals->h2.get? b=some o:=λb o e hb=>(sb2.2 b hb).trans (kp1 b o e)
 haveI sy2:=bk kp2
 have m21:(λx=>if x=Str.ofString "big" then some (Value.int b tb) else m x) "k" = some (.int (kk:Int) tk):=(Z0m (by decide)).trans mk
 have m22:(λx=>if x=Str.ofString "big" then some (Value.int b tb) else m x) "big" = some (.int b tb):=Z0p rfl
 generalize (λx=>if x=Str.ofString "big" then some (Value.int b tb) else m x)=m2 at hn2 m21 m22
 have iB:∀{p:Pos},Ie w A env h2 (.Name "big" p) b:=Ie.name cx p3 hn2 m22
 have iK:∀{p:Pos},Ie w A env h2 (.Name "k" p) (kk:Int):=Ie.name cx p1 hn2 m21
 have ok:∀i:Int,IntMulOk i (kk:Int):=λi=>Z3n (intBits_le_64 (by omega (splitDisjunctions:=true)) (by omega (splitDisjunctions:=true)))
 refine Z0j (Z1i (Ie.mod (by decide) (Ie.int G cx sy2 rfl p7 rfl (Ie.mul (Z3n (by decide)) (Ie.add (Ie.add (Ie.add (Ie.mod (by decide) (Ie.int G cx sy2 rfl p7 rfl iB) Ie.const) (Ie.mul (ok _) (Ie.mul (ok _) Ie.const iK) iK)) (Ie.mul (ok _) Ie.const iK)) Ie.const) Ie.const)) Ie.const {s with heap:=h2,toks:=k3+1} _ _ rfl λt5 k5=>?_))
 haveI bm:=A4d (a:=(b.fmod 2147483629+7919 * (kk:Int) * kk+31 * kk+17) * 48271) (b:=2147483647) (by decide)
 generalize ((b.fmod 2147483629+7919 * (kk:Int) * kk+31 * kk+17) * 48271).fmod 2147483647=mx at bm
 refine A7 (G6 p4) λJ J e4=>?_
 refine Z1w e4 hn2 (λh3 hn3 sb3=>?_) (by rw[cx.kind];rfl)
 have kp3:∀b o,s.heap.get? b=some o->b≠env.locals->h3.get? b=some o:=λb o e hb=>(sb3.2 b hb).trans (kp2 b o e hb)
 haveI m32:(λx=>if x=Str.ofString "mixed" then some (Value.int mx t5) else m2 x) "big" = some (.int b tb):=(Z0m (by decide)).trans m22
 haveI m33:(λx=>if x=Str.ofString "mixed" then some (Value.int mx t5) else m2 x) "mixed" = some (.int mx t5):=Z0p rfl
 haveI iB3:∀{p:Pos},Ie w A env h3 (.Name "big" p) b:=Ie.name cx p3 hn3 m32
 haveI z3:s.heap.objs.size<=h3.objs.size:=by have a1:h2.objs.size=h1.objs.size:=sb2.1;have a2:h3.objs.size=h2.objs.size:=sb3.1;have z1:s.heap.objs.size<=h1.objs.size:=z1;lia
 refine Z0j (Z1u (Z3e ?_))
 refine Z0n (Ie.mul (Z3n (by split <;> decide)) iB3 (Ie.flag rfl G cx (bk kp3) rfl p7 iB3 (Ie.pow (by decide) (by decide) (by decide) Ie.const Ie.const)) {s with heap:=h3,toks:=k5+1} _ _ rfl λt6 k6=>Z0n (A9 cx p4 hn3 m33 (Z0x ⟨(show 2<=sizeLine by decide),?_⟩)))
 refine q h3.objs.size _ (λb o e hb=>Z0h _ (kp3 b o e hb)) (by show _<=(h3.push _).objs.size;rw[Heap.size_push];lia) z3 ⟨_,_,_,_,0,Z0r _ rfl,Int.mul_nonneg hb0 (by split <;> decide),bm.1,by lia⟩
end
section
variable{K:Frag}
theorem C6j[Og s og](G:GT w T1 cc0 gv mg mb A0 K)(hD:D<recursionLimit){f:Addr}(r:FnRaw gv cc0 K (A4 15) [0,1] [] f)(ca:CA D U (n+1) A fs)(sy:A0.StaysIn s.heap)(fr:s.heap.FunFrames A0 fs){X:Nat}{vs:Array Value}{e:Nat}(lX:IsL s.heap X vs e)(hint:∀(j:Nat) v,vs[j]?=some v->∃i t,v=Value.int i t)(hsz:vs.size<=63)(lo:A0.get? X=none)(hX:X∉frs fs){kk:Nat}{tk:Tok}(hk:kk<=1)
 (q:∀(S:Addr) s',(∀b o,s.heap.get? b=some o->s'.heap.get? b=some o)->s.heap.objs.size<=s'.heap.objs.size->s.heap.objs.size<=S->Pool s'.heap S->∀ [Og s' og],R (.ok (.ret (.ref S))) s'):codeAny (model pg w) A (.call (.ref f) ⟨[.ref X, .int (.ofNat kk) tk],[]⟩) R s:=by
 have st:St gv an0 A0 (ΘE.set 0 X X ⟨[],[],λJ=>0,vs.toList,0,λJ=>0,λJ=>0⟩) (HE.new (.log [])) fs s.heap:=by
  haveI nw:=Th.set_new ΘE 0 X X ⟨[],[],λJ=>0,vs.toList,0,λJ=>0,λJ=>0⟩;refine(St.none sy fr).adopt (Θ:=ΘE) (a:=X) (g:=⟨[],[],λJ=>0,vs.toList,0,λJ=>0,λJ=>0⟩) (o:= .log []) (Z1y _) (Z0i lX) lo hX (λi hi=>absurd hi (Z0y i)) (by show 0+0<=D4;decide) rfl ?_;refine⟨vs,e,[],?_,?_,trivial,?_⟩
  . show IsL s.heap ((ΘE.set 0 X X _).a 0) vs e;rw[nw.1];exact lX
  . show vs.toList=((ΘE.set 0 X X _).gh 0).front ++ [];rw[nw.2.2,List.append_nil]
  . show((ΘE.set 0 X X _).gh 0).front.length<=_;rw[nw.2.2];show vs.toList.length<=_;rw[Array.length_toList];refine Z0c (by assumption) ?_;decide
 have hn1:(HE.new (.log [])).n=1:=rfl
 refine N6 (n:=n) G hD r (vs:= [.ref 0, .int (.ofNat kk)]) (l:= [(0, .ref 0),(1, .int (.ofNat kk))]) rfl ca st ⟨⟨by rw[hn1];decide,by rw[(Th.set_new ΘE 0 X X _).1]⟩,⟨tk,rfl⟩,trivial⟩ λenv h₀ tk0 J hsc cx at' kp e3=>?_
 obtain⟨st',m,hn,F⟩:=at'
 refine D6 (F 0 "script" .local (.ref 0) (gk hsc) rfl) λJ m1 J q'1=>?_
 subst q'1
 obtain⟨_,m2,tk2,rfl⟩:=F 1 "k" .local (.int (.ofNat kk)) (gk hsc) rfl
 have bL:A0.get? env.locals=none:=(st'.frames.mem (F2 (outer:=fs) cx.frame)).1
 have p0:=pkl hsc "script" 0
 have p1:=pkl hsc "k" 1
 haveI p2:=pkl hsc "cell" 2
 haveI p5:=pkg hsc "len" 5
 refine A7 (G6 p2) λJ J e2=>?_
 haveI hz0:s.heap.objs.size<=h₀.objs.size:=Z0o (by rw[e3] at hn;exact hn.lt)
 have fin:∀(c:Int) tc (s2:Shared) m2,(∀b o,h₀.get? b=some o->b≠env.locals->s2.heap.get? b=some o)->h₀.objs.size<=s2.heap.objs.size->s2.heap.Ns env.locals m2->m2 "k" = some (.int (.ofNat kk) tk2)->m2 "cell" = some (.int c tc)->
  ∀Q E,(∀S s',(∀b o,s.heap.get? b=some o->s'.heap.get? b=some o)->s.heap.objs.size<=s'.heap.objs.size->s.heap.objs.size<=S->Pool s'.heap S->∀ [Og s' og],Q (Flow.ret (.ref S)) s')->∀ [Og s2 og],wpAny (model pg w) (A.deeper env) (execs B2b env) Q E s2:=λc tc s2 m2 k2 z2 n2 mk mc Q E qq=>by
  intro J
  refine D1d G cx hsc (λb o e=>k2 b o (st'.stays b o e) λz=>by rw[z,bL] at e;exact nn e) bL n2 mk mc hk λS s' k3 z3 hS pl=>qq S s' (λb o e=>?_) (Z0c hz0 (Z0c z2 z3)) (Z0c hz0 (Z0c z2 hS)) pl
  haveI nb:b≠env.locals:=by rw[e3];exact Z0k (Z0i e)
  exact k3 b o (k2 b o (kp b o e) nb) nb
 haveI lX0:=kp _ _ lX
 haveI XL:X≠env.locals:=by rw[e3];exact Z0k (Z0i lX)
 conv=>arg 3;arg 1;whnf
 refine Z0j (Z1i (Z1k (Z1w e2 hn (λh2 hn2 sb2=>?_) (by rw[cx.kind];rfl))))
 have lX2:IsL h2 X vs e:=(sb2.2 _ XL).trans lX0
 have kA:∀b o,h₀.get? b=some o->b≠env.locals->h2.get? b=some o:=λb o e hb=>(sb2.2 b hb).trans e
 haveI mm1:(λx=>if x=Str.ofString "cell" then some (Value.int 0 tk0) else m x) "script" = some (.ref X):=(Z0m (by decide)).trans m1
 have mm2:(λx=>if x=Str.ofString "cell" then some (Value.int 0 tk0) else m x) "k" = some (.int (.ofNat kk) tk2):=(Z0m (by decide)).trans m2
 haveI mm3:(λx=>if x=Str.ofString "cell" then some (Value.int 0 tk0) else m x) "cell" = some (.int 0 tk0):=Z0p rfl
 generalize (λx=>if x=Str.ofString "cell" then some (Value.int 0 tk0) else m x)=m9 at hn2 mm1 mm2 mm3
 have sy2:A0.StaysIn h2:=λb o e=>kA b o (st'.stays b o e) λz=>by rw[z,bL] at e;exact nn e
 refine Z0j (Z3b (Z1q (A9 cx p1 hn2 mm2 (L8 (cv:= .builtin "len") G cx p5 A26 rfl (λJ=>H6) sy2 rfl ?_))))
 refine Z0n (A9 cx p0 hn2 mm1 (Z0x (PySem.Calls.call_len_list lX2.isList (by lia) (lt_int (Z1a ?_)))))
 by_cases hlt:kk<vs.size
 . have hv:vs[kk]?=some vs[kk]:=Z2p hlt
   refine F9 (hint kk _ hv) λc tc ec=>?_
   rw[decide_eq_true (show(Int.ofNat kk:Int)<(vs.size:Int) from Int.ofNat_lt.mpr hlt),Z0p rfl]
   refine Z0j (Z1i (Z3h (A9 cx p0 hn2 mm1 (A9 cx p1 hn2 mm2 (A1g (i:=kk) lX2 (hv.trans (congrArg some ec)) (Z0t hk (by decide)) ?_)))))
   refine Z1w e2 hn2 (λh3 hn3 sb3=>?_) (by rw[cx.kind];rfl)
   refine Z0f (fin c tc _ _ (λb o e hb=>(sb3.2 b hb).trans (kA b o e hb)) ?_ hn3 ((Z0m (by decide)).trans mm2) (Z0p rfl) _ _ λS s' k1 k2 k3 k4=>q S s' k1 k2 k3 k4)
   exact Z0z (sb2.1.symm.trans sb3.1.symm)
 . rw[Z1h (show ¬(Int.ofNat kk:Int)<(vs.size:Int) from λz=>hlt (Int.ofNat_lt.mp z)),Z0m (by decide)]
   refine Z0f (fin 0 tk0 _ _ kA (Z0z sb2.1.symm) hn2 mm2 mm3 _ _ λS s' k1 k2 k3 k4=>q S s' k1 k2 k3 k4)
end
section
set_option maxRecDepth 1000000
def R5(ns:List Nat):Tx:=List.rec (motive:=λJ=>Tx) [] (λi r ih=>ap (E4 i) (match r with | []=> [] | _=>32 :: ih)) ns
def B3f(x:Str):List Nat:=Str.occurrences x (sOf [32]) 0 x.length (x.length+1)
def spl(x:Str):List Str:=Str.partsBetween x (B3f x) 1
def B9i(ns:List Nat):Bool:=bB (decide ((sOf (R5 ns)).length<(sOf [32]).length)||decide (Str.strKind (sOf (R5 ns))<Str.strKind (sOf [32]))) false (bB (B3f (sOf (R5 ns))).isEmpty false
 (bB (Nat.ble (len (R5 ns)) 1000) (bB (Nat.ble (spl (sOf (R5 ns))).length 100) (A8s (ns.map E4) (((spl (sOf (R5 ns))).map (·.cps.toList)).map .str)) false) false))
def isT(c:Nat)(i:Nat):Bool:=teq (E4 i) [c]
def L9(c:Nat)(ns:List Nat):Nat:=ns.countP (isT c)
def O6(ns:List Nat):Bool:=Nat.beq (L9 40 ns) (L9 41 ns)
def D4r(ns:List Nat):Bool:=P0 (Nat.succ ns.length) λk=>bB (O6 (ns.take k)) (Nat.beq (A1s 0 ((ns.take k).map E2)) 0) true
theorem B52{b f:Bool}(h:bB b false f=true):b=false/\f=true:=by cases b with | false=>exact⟨rfl,h⟩ | true=>exact ff h
theorem C5n:C5 stN B9i=true:=by kernel_rfl
theorem C2c:C5 stN D4r=true:=rfl
theorem C33{a b:List Tx}(h:a.map V.str=b.map V.str):a=b:=by
 induction a generalizing b with
 |nil=>cases b with
  |nil=>rfl
  |cons _ _=>exact nomatch h
 |cons x a ih=>cases b with
  |nil=>exact nomatch h
  |cons y b=>exact List.cons_eq_cons.mpr ⟨congrArg (λv=>V.casesOn (motive:=λJ=>Tx) v [] (λJ=> []) (λJ=> []) (λJ J=> []) (λJ J=> []) (λJ J=> []) id (λJ J J=> []) [] (λJ=> []) (λJ=> []) (λJ=> []) (λJ=> []) (λJ J=> []) (λJ J=> [])) (Z2c h).1,ih (Z2c h).2⟩
theorem B4t:∀(l:List Str) (tk i:Nat) (v:Value),(strsFrom tk l)[i]?=some v->∃p t,l[i]?=some p/\v= .str p t
 | [],_,_,_,h=>by exact nn h
 |x :: l,tk,0,v,h=>⟨x,tk,rfl,(Z0a h).symm⟩
 |x :: l,tk,i+1,v,h=>B4t l (tk+1) i v h
section
variable{Q:Value->Shared->Prop}
theorem C8w{ns:List Nat}(hm:ns∈stN){t u:Tok}(q:∀vs tk,F0 vs.toList ns->Q (.ref s.heap.objs.size) {s with heap:=s.heap.push {cls:= .type "list",data:= .seq vs},toks:=tk}):wpAny (model pg w) A (call (.builtin "str.split") [.str (sOf (R5 ns)) t, .str (sOf [32]) u]) Q E s:=by
 haveI h:=C0 C5n ns hm;refine A8 (B52 h) λh1 h=>?_;obtain⟨h2,h⟩:=B52 h;obtain⟨h3,h⟩:=A5 h;obtain⟨h4,h⟩:=A5 h;haveI h5:=C33 (B4s h);haveI h3:=Z0l h3;haveI h4:=Z0l h4;rw[D0] at h3;refine call_meets F.slot_str_split (typeIs_str _ _ _) F.entry_str_split (F.args_str_split_2 _ _) (meets_str_split_sep _ _ t u h1 rfl h2 (by rw[sizeLine_eq];show(R5 ns).length<=_;refine Z0c (by assumption) ?_;decide) (by rw[sizeLine_eq];exact Z0c h4 (by decide))) ?_;refine q _ _ ⟨?_,λi v k e1 e2=>?_⟩
 . rw[strsFrom_length];haveI:=congrArg List.length h5;rewrite [List.length_map,List.length_map] at this;exact this
 . refine B4 (B4t (spl (sOf (R5 ns))) _ i v e1) λp t e3 q'1=>?_;subst q'1;haveI e4:=congrArg (·[i]?) h5;rw[Z1v,Z1v,e3,e2] at e4;haveI e5:p.cps.toList=E4 k:=Z0a e4;exact⟨t,by rw[<-e5];unfold sOf;rw[Z1x]⟩
end
theorem C5g{ns:List Nat}(hm:ns∈stN){k:Nat}(hk:k<=ns.length)(he:O6 (ns.take k)=true):A1s 0 ((ns.take k).map E2)=0:=by
 haveI h:=A16 (C0 C2c ns hm) k (Z2y hk);rw[he] at h;exact Z0e h
theorem F0.take{vs:List Value}{ns:List Nat}(x:F0 vs ns)(k:Nat):F0 (vs.take k) (ns.take k):=⟨by simp only[List.length_take,List.length_take,x.1],λi v j e1 e2=>by
 rw[Z3x] at e1 e2;split at e1
 . rename_i q;rw[Z0p q] at e2;exact x.2 i v j e1 e2
 . exact nn e1⟩
theorem F0.drop{vs:List Value}{ns:List Nat}(x:F0 vs ns)(k:Nat):F0 (vs.drop k) (ns.drop k):=⟨by simp only[List.length_drop,List.length_drop,x.1],λi v j e1 e2=>by
 rw[Z5a] at e1 e2;exact x.2 _ v j e1 e2⟩
theorem F0.app{vs us:List Value}{ns ms:List Nat}(x:F0 vs ns)(y:F0 us ms):F0 (vs ++ us) (ns ++ ms):=⟨by simp only[List.length_append,List.length_append,x.1,y.1],λi v j e1 e2=>by
 by_cases q:i<vs.length
 . rw[Z1l q] at e1;rw[Z1l (by rw[<-x.1];exact q)] at e2;exact x.2 i v j e1 e2
 . rw[Z1o (Z1g.mp q)] at e1;rw[Z1o (by rw[<-x.1];exact Z1g.mp q),<-x.1] at e2;exact y.2 _ v j e1 e2⟩
theorem D28{c i:Nat}{t:Tok}:isStrOf (sOf [c]) (.str (sOf (E4 i)) t)=isT c i:=by
 unfold isT;rw[J1];by_cases q:E4 i= [c]
 . rw[q,decide_eq_true rfl];exact beq_self_eq_true _
 . rw[Z1h q];refine beq_eq_false_iff_ne.mpr λe=>q ?_;haveI:=congrArg (λs:Str=>s.cps.toList) e;exact this
theorem F0.cnt{c:Nat}:∀{vs:List Value} {ns:List Nat},F0 vs ns->vs.countP (isStrOf (sOf [c]))=L9 c ns/\∀y∈vs,∃x t,y= .str x t
 | [],[],_=>⟨rfl,λy hy=>nomatch hy⟩
 | [],_ :: _,x=>nomatch x.1
 |_ :: _,[],x=>nomatch x.1
 |v :: vs,k :: ns,x=>by
  obtain⟨t,rfl⟩:=x.2 0 v k rfl rfl;haveI x':F0 vs ns:=⟨Nat.succ.inj x.1,λi u j e1 e2=>x.2 (i+1) u j e1 e2⟩;obtain⟨h1,h2⟩:=x'.cnt (c:=c);refine⟨?_,λy hy=>?_⟩
  . unfold L9 at h1 ⊢;rw[List.countP_cons,List.countP_cons,h1,D28]
  . rcases List.mem_cons.mp hy with rfl | hy
    . exact A5x _ _ rfl
    . exact h2 y hy
section
variable{Q:Value->Shared->Prop}
theorem D2v{W c:Nat}{vs:Array Value}{ns:List Nat}{e:Nat}{t:Tok}(l:IsL s.heap W vs e)(x:F0 vs.toList ns)(q:Q (.int ((L9 c ns:Nat):Int) s.toks) {s with toks:=s.toks+1}):wpAny (model pg w) A (call (.builtin "list.count") [.ref W, .str (sOf [c]) t]) Q E s:=by
 refine A8 (x.cnt (c:=c)) λh1 h2=>?_;refine call_meets F.slot_list_count ⟨_,l,rfl⟩ F.entry_list_count (F.args_list_count_2 _ _) (SeqAt.list_countAt W vs e none #[] (.str (sOf [c]) t) (isStrOf (sOf [c]))) ⟨l,λy hy=>?_,?_⟩
 . refine F9 (h2 y (by simpa using hy)) λz tz q'3=>?_;subst q'3;exact(eq_isStrOf (sOf [c]) t (StrsAre.cons z tz .nil) _ (Z0s.mpr rfl)).at _ _
 . rw[h1];exact q
end
end
section
variable{K:Frag}{D U:Nat}
theorem D7l(G:GT w T cc gv mg mb A0 K)(hD:D<recursionLimit){r0:FnRec}{fa:Addr}{x0 nC:Str}{v:V}{cv:Value}{H:Hp}{A:Around}{fs:List Env}{s:Shared}{Θ:Th}{R:Result->Shared->Prop}
 (fo:FnRaw gv cc K r0 [0] [] fa) (hx:r0.params.args.map (·.arg)= [x0]) (hcs:∀k,cellsFrom (k+1) r0.scope.names []= [(nC,k+1)]) (ca:CA D U (n+1) A fs) (S:St gv (A2 T cc) A0 Θ H fs s.heap) (vr:VR gv Θ H.n v cv)
 (hs:∀env h₀ tk,env.scope=r0.scope->Cx D U n (A.deeper env) env fs->At gv (A2 T cc) A0 Θ H [(0,v)] env fs h₀->env.cells= [(nC,s.heap.objs.size+1)]->h₀.IsCell (s.heap.objs.size+1) none->(∀b o,s.heap.get? b=some o->h₀.get? b=some o)->env.locals=s.heap.objs.size->
  wpAny (model pg w) (A.deeper env) (execs r0.body env) (A18 R) (lvE w (A.deeper env) env R) {s with heap:=h₀,toks:=tk}) :
 codeAny (model pg w) A (.call (.ref fa) ⟨[cv],[]⟩) R s:=by
 obtain⟨qual,pm,c,doc,dV,dvs,hK,q'1,hdv,hVd,hcode⟩:=fo
 rcases q'1 with⟨c1,c2,c3,c4,c5,c6⟩
 haveI KI:K.In s.heap:=G.kin.keeps S.stays
 unfold U5 at c1
 simp only[Bool.and_eq_true,List.isEmpty_iff,Option.isNone_iff_eq_none,Bool.not_eq_true',beq_iff_eq,decide_eq_true_eq] at c1
 obtain⟨⟨⟨⟨⟨⟨⟨⟨s1,s2⟩,s3⟩,s4⟩,s5⟩,s6⟩,s7⟩,s8⟩,s9⟩:=c1
 obtain⟨lk1,lk2⟩:=A91 c5
 rw[hx] at lk2
 refine A1 (lk2 0 x0 rfl) λi hi e0=>?_
 have hi0:i=0:=by
  haveI:([0]:List Nat)[0]?=some i:=hi;exact(Z0a this).symm
 subst hi0
 have hd0:dvs= []:=by
  haveI:=(hVd Θ H.n).len;cases dvs with
  |nil=>rfl
  |cons _ _=>cases this
 subst hd0
 have hdV:dV= .none:=by
  rcases hdv with⟨_,b⟩ | ⟨a,_⟩
  . exact b
  . exact absurd rfl a
 subst hdV
 refine A7 (G6 e0) λJ g1 g2=>?_
 have hlim:s.heap.NoLimit:=by
  refine A1 G.lim λmc n1 n2=>?_;exact A6 mc (n1.keeps S.stays) n2
 have hb:BindsTo s (defFd r0.name qual r0.params r0.body r0.scope mainGlobals .none .none none pm (.ref c) doc) ⟨[cv],[]⟩ [(x0,cv)]:=
  A62 (xs:= [x0]) (dvs:= []) s1 s3 s2 s5 hx (Z2u.mpr ⟨List.not_mem_nil,Z4w⟩) (Z0g _) (Z0g _) (Z1y _) (.inl ⟨rfl,rfl⟩)
 refine codeAny_call_function (by have:=ca.dep;lia) (S.stays _ _ (G.kin _ _ hK)) rfl s7 s6 rfl (codeRec_of KI hcode) (hb _ _ _ _ ?_)
 refine wpAny_newFunctionEnv_cells s8 (λx hx=> .inl ?_) λenv he s' x=>?_
 . rw[Z0s.mp hx];exact g2
 have e1:env.scope=r0.scope:=by rw[he];rfl
 have e2:env.frame=some s.heap.objs.size:=by rw[he];rfl
 have e3:env.locals=s.heap.objs.size:=by rw[he];rfl
 haveI e4:env.globals=mainGlobals:=by rw[he];rfl
 haveI e5:env.builtins=builtinsNs:=by rw[he];rfl
 haveI e6:env.cells= [(nC,s.heap.objs.size+1)]:=by rw[he];exact hcs _
 have ek:env.kindOf x0=some .local:=by unfold Env.kindOf;rw[e1];exact g2
 refine F9 x.toInCall.same λh₀ tk q'9=>?_
 subst q'9
 haveI hns:=x.toInCall.ns
 haveI hkp:=x.toInCall.keep
 rw[show bindL env.kindOf [(x0,cv)] (λJ=>none)=λy=>if y=x0 then some cv else none by unfold bindL;rw[Z0p ek];rfl] at hns
 rw[e3] at hns
 haveI S':St gv (A2 T cc) A0 Θ H (env :: fs) h₀:=S.enter (by rw[e1,s8];intro q;cases q) e2 hns hkp
 haveI cx:Cx D U n (A.deeper env) env fs:=⟨⟨by show A.frames.map _=_;rw[ca.fr];rfl,by have:=ca.dep;show A.depth+1+n<=D;lia,by have:=ca.uni;show A.units+3+8 * n<=U;lia,ca.hand⟩,by rw[e1];exact s8,by rw[e2,e3],e4,e5,by rw[e1];exact c2,by rw[e1];exact c3⟩
 refine⟨hlim.keeps hkp,codeAny_func ?_⟩
 refine hs env h₀ tk e1 cx ⟨S',_,by rw[e3];exact hns,?_⟩ e6 ?_ hkp e3
 . intro j y k u ej hv
   rw[J6,A4y] at hv
   split at hv
   . rename_i q
     subst q
     replace hv:=Z0a hv;subst hv
     rw[e1] at ej
     haveI:some (x0,_)=some (y,k):=g1.symm.trans ej
     obtain⟨rfl,_⟩:=Prod.mk.inj (Z0a this)
     exact A6 cv (Z0p rfl) vr
   . exact nn hv
 . haveI:=x.cell nC (s.heap.objs.size+1) (by rw[e6];simp)
   unfold bindC at this
   rw[Z0p ek] at this
   exact this
end
theorem C9b{top:Nat}{k kx:MineE.K}(h1:1<=top)(h2:top<=1000)(hk:∀n,n<top->k (.int (.ofNat n)) HP=true):P3 14 [.ref 0, .int (.ofNat top)] HP k kx=some true:=by
 show(match HP.get 0 with
  |some .pool=>some (bB (Nat.ble 1 top) (bB (Nat.ble top 1000) (P0 top λn=>k (.int (.ofNat n)) HP) false) false)
  |_=>none)=some true
 rw[Z2m h1,Z2m h2];show some (P0 top λn=>k (.int (.ofNat n)) HP)=some true;have:∀t,t<=top->P0 t (λn=>k (.int (.ofNat n)) HP)=true:=by
  intro t;induction t with
  |zero=>intro J;rfl
  |succ t ih=>
   intro ht;show bB (k (.int (.ofNat t)) HP) (P0 t λn=>k (.int (.ofNat n)) HP) false=true;rw[hk t ht,ih (by exact Z0o (by assumption))];rfl
 rw[this top (Z0g _)]
theorem D1r:lkS "_law_one" cc0.glob=some (.glob 13):=rfl
theorem D5f:lkS "_law_joined" cc0.glob=some (.glob 2):=rfl
theorem D0y:lkS "parse_one" cc0.glob=some (.glob 16):=rfl
section
variable{K:Frag}
variable{S:Addr}{lo:Nat}{Q:Value->Shared->Prop}
theorem B6i[Og s og](g:Ground og w gv mg mb A0 pc K D U)(d:Hd A0 S env fs m s.heap)(cx:Cx D U (n+1) A env fs){kt ks:Nat}(pt:B3 "_law_take" env.scope.names 0=some (kt, .globalImplicit))(ps:B3 "source" env.scope.names 0=some (ks, .local))(ms:m "source" = some (.ref S))
 {e2:Expr} (h2:B7 e2=false) {top:Nat} (t1:1<=top) (t2:top<=1000) (a:Ie w A env s.heap e2 (top:Int)) {p1 p2 pos:Pos}
 (q:∀(i:Nat) t s',i<top->Lx S env.locals fs s.heap s'.heap->Hd A0 S env fs m s'.heap->∀ [Og s' og],Q (.int (i:Int) t) s'):wpAny (model pg w) A (eval (.Call (.Name "_law_take" p1) [.Name "source" p2,e2] [] pos) env) Q E s:=by
 refine A1 g.fns.f14 λf14 g14 r14=>?_
 refine N2 g.G cx pt B09 g14 r14.keep d.stays (by simp only[List.any_cons,List.any_cons,h2];rfl) (Z0n (A9 cx ps d.ns ms (Z0n (a s _ _ rfl λt tk=>Z0x ⟨d.stays,?_⟩))))
 refine(g.pt 14 [.ref 0, .int (.ofNat top)] HP (kp0 (ltN top)) (λJ J=>false) (C9b t1 t2 λi hi=>?_) f14 A (env :: fs) {s with heap:=s.heap,toks:=tk} (ΘP S) [.ref S, .int (top:Int) t] _ g14 (cx.ca.low (by lia)) d.st ⟨⟨by simp only[C6];decide,rfl⟩,⟨t,rfl⟩,trivial⟩ ⟨λv H' hk Θ' cv s' X st vr=>?_,λJ J z=>(Z0u z).elim⟩).1
 . show bB (K5 (HP.get 0)) (Nat.ble (i+1) top) false=true
   rw[A2j];exact Z2m hi
 . refine A8 (A5 hk) λz hk=>?_
   refine A1 (A63 hk) λi q'1 hi=>?_
   subst q'1
   obtain⟨t',rfl⟩:=vr
   obtain⟨lx,d'⟩:=d.next cx.frame X st z
   exact q i t' s' hi lx d'
theorem Ie.len{k:Nat}{e:Expr}{W ep:Nat}{vs:Array Value}{p pos:Pos}(G:GT w T1 cc0 gv mg mb A0 K)(cx:Cx D U n A env outer)(hp:B3 "len" env.scope.names 0=some (k, .globalImplicit))(sy:A0.StaysIn h)(hs1:B7 e=false)(l:IsL h W vs ep)(hv:vs.size<=1000000)
 (ld:∀(s:Shared) (Q E:Value->Shared->Prop),s.heap=h->Q (.ref W) s->wpAny (model pg w) A (eval e env) Q E s):Ie w A env h (.Call (.Name "len" p) [e] [] pos) (vs.size:Int):=λs Q E hs q=>by
 subst hs
 refine L8 (cv:= .builtin "len") G cx hp A26 rfl (λJ=>H6) sy (by rw[List.any_cons,hs1];rfl) ?_
 rw[J8 (by rw[List.any_cons,hs1];rfl)]
 exact Z0n (ld s _ _ rfl (Z0x (PySem.Calls.call_len_list l.isList (by lia) (q _ _))))
theorem D7w[Og s og](g:Ground og w gv mg mb A0 pc K D U){f13:Addr}(r13:FnRaw gv cc0 K (A4 13) [0,1] [] f13)(ca:CA D U (n+2) A fs)(st:St gv an0 A0 (ΘP S) HP fs s.heap)(low:A0.get? S=none){W ep:Nat}{vs:Array Value}(hW:IsL s.heap W vs ep)(z1:1<=vs.size)(z2:vs.size<=999)(wS:W≠S)(wF:W∉frs fs)
 (k:∀(i:Nat) v s',vs[i]?=some v->Lx S S fs s.heap s'.heap->Pool s'.heap S->A0.StaysIn s'.heap->s'.heap.FunFrames A0 fs->∀ [Og s' og],R (.ok (.ret v)) s'):codeAny (model pg w) A (.call (.ref f13) ⟨[.ref S, .ref W],[]⟩) R s:=by
 haveI wlt:W<s.heap.objs.size:=Z0i hW
 refine N6 (n:=n+1) g.G g.hD r13 (vs:= [.ref 0, .wd 0 0]) (l:= [(0, .ref 0),(1, .wd 0 0)]) rfl ca (ΘW_st st wlt wS wF) ⟨⟨by rw[C6];decide,rfl⟩,⟨by rw[C6];decide,Z0v 0,rfl⟩,trivial⟩ λenv h₀ tk J hsc cx at' kp e3=>?_
 obtain⟨st',m,hn,F⟩:=at'
 refine D6 (F 0 "source" .local (.ref 0) (gk hsc) rfl) λJ m1 J q'3=>?_
 subst q'3
 refine T7 (F 1 "things" .local (.wd 0 0) (gk hsc) rfl) λJ m2 J J q'4=>?_
 subst q'4
 have nfS:S∉frs (env :: fs):=λhL=>(st'.apart 0 (by rw[C6];omega) S hL).1 rfl
 have d:Hd A0 S env fs m h₀:=⟨st'.stays,st'.frames,hn,K3 (Θ:=ΘW S W) st' (by simp only[A2j];rfl) (by rw[C6];omega),low,nfS⟩
 haveI hz:s.heap.objs.size<=h₀.objs.size:=Z0o (by rw[e3] at hn;exact hn.lt)
 haveI l0:=kp _ _ hW
 haveI p0:=pkl hsc "source" 0
 haveI p1:=pkl hsc "things" 1
 haveI p2:=pkg hsc "_law_take" 2
 haveI p3:=pkg hsc "len" 3
 haveI wL:W≠env.locals:=by rw[e3];exact Z0k wlt
 conv=>arg 3;arg 1;whnf
 refine Z0j (Z1u (Z3h (A9 (s:={s with heap:=h₀,toks:=tk}) cx p1 hn m2 ?_)))
 refine B6i (s:={s with heap:=h₀,toks:=tk}) g d cx p2 p0 m1 rfl z1 (by refine Z0c (by assumption) ?_;decide) (Ie.len g.G cx p3 d.stays rfl l0 (by refine Z0c (by assumption) ?_;decide) λs2 Q E hs q=>A9 cx p1 (by rw[hs];exact hn) m2 q) λi t s3 hi lx d3=>?_
 intro J
 refine A1g ((lx.keep _ _ l0 wS wL).1 wF) (Z2p hi) (by lia) ?_
 exact k i _ s3 (Z2p hi) (lx.leave kp hz e3) d3.pool d3.stays d3.frames.2.2
end
noncomputable abbrev E1:Str:=Str.ofString "words"
theorem B32:(E1==("__debug__" :Str))=false:=rfl
section
variable{K:Frag}
variable{S:Addr}{lo:Nat}{Q:Value->Shared->Prop}{ns:List Nat}
structure CW(A0:Heap)(S:Addr)(env:Env)(fs:List Env)(ns:List Nat)(C W:Nat)(h:Heap):Prop where
 kind:env.kindOf E1=some .cell
 at':env.cells.lookup E1=some C
 is:h.IsCell C (some (.ref W))
 nC:C≠S/\C≠env.locals/\C∉frs fs
 l:∃vs e,IsL h W vs e/\F0 vs.toList ns
 nW:W≠S/\A0.get? W=none/\W≠env.locals/\W∉frs fs
theorem CW.at_(c:CW A0 S env fs ns C W h)(k:∀b o,h.get? b=some o->b≠S->b≠env.locals->b∉frs fs->h'.get? b=some o):CW A0 S env fs ns C W h':=by
 rcases c with⟨c1,c2,q'1,c4,q'2,c5⟩
 refine A1 q'1 λo c3 c3'=>?_;refine B4 q'2 λvs e l v=>?_;exact⟨c1,c2,⟨o,k C o c3 c4.1 c4.2.1 c4.2.2,c3'⟩,c4,⟨vs,e,k W _ l c5.1 c5.2.2.1 c5.2.2.2,v⟩,c5⟩
theorem CW.lx(c:CW A0 S env fs ns C W h)(x:Lx S env.locals fs h h'):CW A0 S env fs ns C W h':=c.at_ λb o e h1 h2 h3=>(x.keep b o e h1 h2).1 h3
theorem A1w(cx:Cx D U n A₀ env fs)(c:CW A0 S env fs ns C W s.heap){p:Pos}(q:Q (.ref W) s):wpAny (model pg w) A (eval (.Name E1 p) env) Q E s:=Z3g (wpAny_loadName_cell cx.kind c.kind c.at' c.is q) B32
theorem B5s(few:ns.length<=100)(cx:Cx D U n A₀ env fs)(c:CW A0 S env fs ns C W s.heap){e:Expr}{p1 p2 p3:Pos}
 (he:wpAny (model pg w) A (eval e env) (λv s'=>∃(j:Nat) (t:Tok),v= .int (j:Int) t/\j<=ns.length/\CW A0 S env fs ns C W s'.heap/\∀(X:Nat) h' vs,s'.heap.objs.size<=X->(∀b o,s'.heap.get? b=some o->h'.get? b=some o)->s'.heap.objs.size<=h'.objs.size->IsL h' X vs 0->F0 vs.toList (ns.take j)->Q (.ref X) {s' with heap:=h'}) E s) :
 wpAny (model pg w) A (eval (.Subscript (.Name E1 p1) (.Slice none (some e) none p2) p3) env) Q E s:=by
 refine Z3q (A1w cx c (Z4s (Z4r (Z1c he (λv s' hv=>?_) λJ J z=>z))))
 refine K6 hv λj t q'3 hj c' q=>?_
 clear hv
 subst q'3
 refine B4 c'.l λvs ep l x=>?_
 haveI hsz:vs.size=ns.length:=by simp only[<-x.1,Array.length_toList]
 refine B7v W vs none (some (j:Int)) rfl l.isList (by rw[hsz,sizeLine_eq];refine Z0c (by assumption) ?_;decide) .none (.int _ _) (?_)
 refine q _ _ (slicePick vs none (some (j:Int)) none) (Z1d _) (λb o e=>Z0h _ (Z0h _ e)) (by rw[Heap.size_push,Heap.size_push];lia) ?_ ?_
 . haveI:=Z0r (s'.heap.push {cls:= .type "slice",data:= .fields #[.none, .int (j:Int) t, .none]}) (o:={cls:= .type "list",data:= .seq (slicePick vs none (some (j:Int)) none)}) rfl
   rw[Heap.size_push] at this
   exact this
 . refine re (slicePick_upto vs j (Z0c hj (Z0z hsz.symm))) ?_
   exact x.take j
theorem D2u(few:ns.length<=100)(cx:Cx D U n A₀ env fs)(c:CW A0 S env fs ns C W s.heap){e:Expr}{p1 p2 p3:Pos}
 (he:wpAny (model pg w) A (eval e env) (λv s'=>∃(j:Nat) (t:Tok),v= .int (j:Int) t/\j<=ns.length/\CW A0 S env fs ns C W s'.heap/\∀(X:Nat) h' vs,s'.heap.objs.size<=X->(∀b o,s'.heap.get? b=some o->h'.get? b=some o)->s'.heap.objs.size<=h'.objs.size->IsL h' X vs 0->F0 vs.toList (ns.drop j)->Q (.ref X) {s' with heap:=h'}) E s) :
 wpAny (model pg w) A (eval (.Subscript (.Name E1 p1) (.Slice (some e) none none p2) p3) env) Q E s:=by
 refine Z3q (A1w cx c (Z4r (Z1c he (λv s' hv=>Z4s ?_) λJ J z=>z)))
 refine K6 hv λj t q'4 hj c' q=>?_
 clear hv
 subst q'4
 refine B4 c'.l λvs ep l x=>?_
 haveI hsz:vs.size=ns.length:=by simp only[<-x.1,Array.length_toList]
 refine⟨W,vs,some (j:Int),none,rfl,l.isList,by simp only[hsz,sizeLine_eq];refine Z0c (by assumption) ?_;decide, .int _ _, .none,?_⟩
 refine q _ _ (slicePick vs (some (j:Int)) none none) (Z1d _) (λb o e=>Z0h _ (Z0h _ e)) (by rw[Heap.size_push,Heap.size_push];lia) ?_ ?_
 . haveI:=Z0r (s'.heap.push {cls:= .type "slice",data:= .fields #[.int (j:Int) t, .none, .none]}) (o:={cls:= .type "list",data:= .seq (slicePick vs (some (j:Int)) none none)}) rfl
   rw[Heap.size_push] at this
   exact this
 . refine re (slicePick_from vs j (by lia)) ?_
   exact x.drop j
inductive JoinA(og:OGt)(A0:Heap)(S:Addr)(env:Env)(fs:List Env)(m:Str->Option Value)(h:Heap)(Q:Value->Shared->Prop)(v:Value)(s':Shared):Prop
 |mk (X:Nat) (vs:Array Value) (e:Nat) (ms:List Nat) (hv:v= .ref X) (os:Og s' og) (no:NsOk ms) (l:IsL s'.heap X vs e) (ws:F0 vs.toList ms) (n:X≠S/\A0.get? X=none/\X∉frs (env :: fs)) (lx:Lx S env.locals fs h s'.heap) (d:Hd A0 S env fs m s'.heap)
  (q:∀(x:Nat) s'' l lo,h.objs.size<=lo->JoinOut lo s''.heap x l->D9 0 l->l.map (·.tk)=ms.map E2->l.map (·.told)=ms.map E4->(A3 l).length<=100 * ms.length->Lx S env.locals fs h s''.heap->Hd A0 S env fs m s''.heap->∀ [Og s'' og],Q (.ref x) s'')
theorem A7j[Og s og](g:Ground og w gv mg mb A0 pc K D U)(d:Hd A0 S env fs m s.heap)(cx:Cx D U (NW+1) A env fs){kj ks:Nat}(pj:B3 "_law_joined" env.scope.names 0=some (kj, .globalImplicit))(ps:B3 "source" env.scope.names 0=some (ks, .local))(ms:m "source" = some (.ref S)){e2:Expr}{p1 p2 pos:Pos}(h2:B7 e2=false)
 (he:wpAny (model pg w) A (eval e2 env) (JoinA og A0 S env fs m s.heap Q) E s) :
 wpAny (model pg w) A (eval (.Call (.Name "_law_joined" p1) [.Name "source" p2,e2] [] pos) env) Q E s:=by
 refine A1 g.fns.f2 λf2 g2 r2=>?_
 refine N2 g.G cx pj D5f g2 r2.keep d.stays (by simp only[List.any_cons,List.any_cons,h2];rfl) (Z0n (A9 cx ps d.ns ms (Z0n (Z1c he (λv s1 hv=>?_) λJ J z=>z))))
 obtain⟨X,vs,e,ws,q'5,os1,no,lX,wX,q'6,lx1,d1,q⟩:=hv
 subst q'5
 refine A7 q'6 λxS xB xF=>?_
 refine Z0x ⟨d1.stays,?_⟩
 refine D3q g.G g.hD g.h3 r2 cx.ca d1.st d1.low no lX wX xS xB xF λx s2 l ro hT hk1 hk2 hl lx2 pl sy fr=>?_
 intro J
 exact q x s2 l _ lx1.size ro hT hk1 hk2 hl (lx1.trans (lx2.inner cx.frame)) (d1.inner cx.frame lx2 sy fr pl)
structure Xo(A0:Heap)(S:Addr)(env:Env)(fs:List Env)(C W:Nat)(hp h:Heap)(x:Nat):Prop where
 lo:hp.objs.size<=x
 lt:x<h.objs.size
 ne:x≠S/\A0.get? x=none/\x∉frs (env :: fs)
 nC:x≠C
 nW:x≠W
theorem Xo.new{hp:Heap}{x:Nat}(d:Hd A0 S env fs m h)(c:CW A0 S env fs ns C W h)(lx:Lx S env.locals fs hp h)(h1:h.objs.size<=x)(h2:x<h'.objs.size):Xo A0 S env fs C W hp h' x:=by
 rcases c with⟨_,_,q'7,_,q'8,_⟩
 refine A1 q'7 λo c3 J=>?_;refine B4 q'8 λJ J l J=>?_;exact⟨Z0c lx.size h1,h2,d.new h1,Z0q (Z0b (Z0i c3) h1),Z0q (Z0b (Z0i l) h1)⟩
inductive RefA(og:OGt)(w:World)(gv:Nat->Option Value)(A0:Heap)(pc:Addr)(K:Frag)(D U:Nat)(S:Addr)(env:Env)(fs:List Env)(ns:List Nat)(C W:Nat)(m:Str->Option Value)(hp:Heap)(Q:Value->Shared->Prop)(v:Value)(s':Shared):Prop
 |mk (T:Tx) (t:Tok) (x:Nat) (okC:Prop) (P:Int->Prop) (hv:v= .str (sOf T) t) (os:Og s' og) (rd:∀fo,FnOk gv cc0 K T8 fo->Q9 og w gv A0 pc D U fo T x okC P) (xo:Xo A0 S env fs C W hp s'.heap x) (lx:Lx S env.locals fs hp s'.heap) (d:Hd A0 S env fs m s'.heap) (c:CW A0 S env fs ns C W s'.heap)
  (ok:okC->∀s'',(∀b o,s'.heap.get? b=some o->b≠x->b∉frs (env :: fs)->s''.heap.get? b=some o)->Lx S env.locals fs hp s''.heap->Hd A0 S env fs m s''.heap->CW A0 S env fs ns C W s''.heap->∀ [Og s'' og],Q .none s'')
  (no:∀p t' s'',P p->(∀b o,s'.heap.get? b=some o->b≠x->b∉frs (env :: fs)->s''.heap.get? b=some o)->Lx S env.locals fs hp s''.heap->Hd A0 S env fs m s''.heap->CW A0 S env fs ns C W s''.heap->∀ [Og s'' og],Q (.int p t') s'')
theorem A7s[Og s og]{hp:Heap}(g:Ground og w gv mg mb A0 pc K D U)(sy:A0.StaysIn s.heap)(cx:Cx D U (NP+1) A env fs){kr kp:Nat}(pr:B3 "_law_refused_at" env.scope.names 0=some (kr, .globalImplicit))(pp:B3 "parse_one" env.scope.names 0=some (kp, .globalImplicit)){e1:Expr}{p1 p2 pos:Pos}(h1:B7 e1=false)
 (he:wpAny (model pg w) A (eval e1 env) (RefA og w gv A0 pc K D U S env fs ns C W m hp Q) E s) :
 wpAny (model pg w) A (eval (.Call (.Name "_law_refused_at" p1) [e1, .Name "parse_one" p2] [] pos) env) Q E s:=by
 refine A1 g.fns.f6 λf6 g6 r6=>?_
 refine A1 (g.G.fns 16 T8 C26) λfo g16 fok=>?_
 refine N2 g.G cx pr B1g g6 r6.keep sy (by simp only[List.any_cons,h1];rfl) (Z0n (Z1c he (λv s1 hv=>?_) λJ J z=>z))
 obtain⟨T,t,x,okC,P,q'9,os1,rd,xo,lx1,d1,c1,ok,no⟩:=hv
 subst q'9
 refine A7 xo.ne λx1 x2 x3=>?_
 refine Z0n (A13 g.G cx pp D0y d1.stays λc hc=>Z0x ⟨d1.stays,?_⟩)
 obtain rfl:Value.ref fo=c:=Z0a (g16.symm.trans (hc ⟨λJ=>0,λJ=>0,λJ=>gh0⟩ 0))
 have nx:∀{s'':Shared},Left A0 x (env :: fs) s1.heap s''.heap->(∀b o,s1.heap.get? b=some o->b≠x->b∉frs (env :: fs)->s''.heap.get? b=some o)/\Lx S env.locals fs hp s''.heap/\Hd A0 S env fs m s''.heap/\CW A0 S env fs ns C W s''.heap:=λl=>
  ⟨λb o e h1 h2=>(l.keep b o e h1).1 h2,lx1.on (λc o hc ec h1 h2=>by
   obtain⟨j1,j2⟩:=l.keep c o ec (Z0k (Z0b hc xo.lo));exact⟨λz=>j1 (F3 cx.frame h2 z),j2⟩) l.size,d1.left l x1 cx.frame x3,by
   rcases c1 with⟨e1,e2,q'10,e4,q'11,e5⟩
   refine A1 q'10 λo e3 e3'=>?_;refine B4 q'11 λvs e l' v=>?_;exact⟨e1,e2,⟨o,(l.keep C o e3 xo.nC.symm).1 (F3 cx.frame e4.2.1 e4.2.2),e3'⟩,e4,⟨vs,e,(l.keep W _ l' xo.nW.symm).1 (F3 cx.frame e5.2.2.1 e5.2.2.2),v⟩,e5⟩⟩
 exact B6f g.G g.hD g.hpc g.PK g.PQ r6 cx.ca d1.stays d1.frames g16 fok.keep (rd fo fok) xo.lt x2 x3 (λoc s2 l=>ok oc s2 (nx l).1 (nx l).2.1 (nx l).2.2.1 (nx l).2.2.2) λp t' s2 hp l=>no p t' s2 hp (nx l).1 (nx l).2.1 (nx l).2.2.1 (nx l).2.2.2
end
def H5(k:Nat):List Stmt:=(A4 1).body.drop k
noncomputable def B8j:X:= .call (.const (.glob 13)) (.cons (.loc 0) (.cons (.call (.const (.glob 3)) .nil) .nil))
noncomputable def A6v:List Tx:= [[],[32],[10]]
def C8j:Expr:=((H5 2).head?.bind λs=>Y5 s λJ e=>A8r e λJ J e J=>some e).getD (.Constant .none 0 default)
def B3k:X:=(cE cc0 (A4 1).scope.names 40 C8j).getD .bad
def D7f(ns:List Nat):Bool:=bB (Nat.ble (ns.count 500) 1) (bB (Nat.ble ns.length 60) (Nat.ble 4 ns.length) false) false
theorem D0x:(run T1 P3 NW).e B8j [(0, .ref 0)] HP (kp0 (Y4 (stN.map R5))) (λJ J=>false)=true:=rfl
theorem C7e:(run T1 P3 NW).e B3k [(0, .ref 0)] HP (kp0 (Y4 A6v)) (λJ J=>false)=true:=rfl
theorem D7r:C5 A6v (λt=>Y6 (teq t) G9)=true:=rfl
theorem C2o:C5 stN D7f=true:=rfl
theorem A2z{ns:List Nat}(hm:ns∈stN):NsOk ns/\ns.length<=60/\4<=ns.length:=by
 obtain⟨h1,h⟩:=A5 (C0 C2o ns hm);obtain⟨h2,h3⟩:=A5 h;haveI h1:=Z0l h1;haveI h2:=Z0l h2;haveI h3:=Z0l h3;exact O2 ⟨λi hi=>C0 (C0 D8e ns hm) i hi,h1,by refine Z0c (by assumption) ?_;decide⟩ h2 h3
theorem NsOk.take{ns:List Nat}(no:NsOk ns)(k:Nat):NsOk (ns.take k):=⟨λi hi=>no.ok i (List.mem_of_mem_take hi),Z0c ((Z2r k ns).count_le 500) no.one,Z0c (Z2r k ns).length_le no.few⟩
theorem C1g{t:Tx}(h:t∈A6v):t∈G9/\Fol t/\t.length<=1:=by
 refine A1 (A1l (C0 D7r t h)) λa am e=>?_;rw[J1,decide_eq_true_eq] at e;refine⟨e▸am,?_,?_⟩
 . rcases List.mem_cons.mp h with rfl | h
   . exact .nil
   . rcases List.mem_cons.mp h with rfl | h
     . exact .cons (by unfold A1a;decide)
     . obtain rfl:=Z0s.mp h;exact .cons (by unfold A1a;decide)
 . rcases List.mem_cons.mp h with rfl | h
   . exact Z1y _
   . rcases List.mem_cons.mp h with rfl | h
     . exact Z0g _
     . obtain rfl:=Z0s.mp h;exact Z0g _
section
variable{K:Frag}
variable{S:Addr}{lo:Nat}{Q:Flow->Shared->Prop}{ns:List Nat}
theorem D4e[Og s og](g:Ground og w gv mg mb A0 pc K D U)(cx:Cx D U (NP+2) A env fs)(hsc:env.scope=(A4 1).scope)(d:Hd A0 S env fs m s.heap)(ms:m "source" = some (.ref S))(hk:env.kindOf E1=some .cell)(hc:env.cells.lookup E1=some C)(is:s.heap.IsCell C none)(nC:C≠S/\C≠env.locals/\C∉frs fs)(bC:A0.get? C=none)(lx0:Lx S env.locals fs hp s.heap)(hC:hp.objs.size<=C)
 (q:∀ns W s',ns∈stN->CW A0 S env fs ns C W s'.heap->Lx S env.locals fs hp s'.heap->Hd A0 S env fs m s'.heap->∀ [Og s' og],wpAny (model pg w) A (execs (H5 1) env) Q E s'):wpAny (model pg w) A (execs (H5 0) env) Q E s:=by
 haveI cw:Cx D U NW A env fs:=cx.low (by show 100<=302;decide)
 haveI g0:env.scope.names[0]?=some (Str.ofString "source", .local):=(gk hsc)
 conv=>arg 3;arg 1;whnf
 refine Z0j (Z1i (S8 rfl rfl (by decide) rfl ?_))
 refine Hd.ev d cw g.h3 (fu:=40) (x:=B8j) (by rw[hsc];kernel_rfl) D0x (.cons (x:=Str.ofString "source") (kd:= .local) g0 ms ⟨Z0v 0,rfl⟩ .nil) ?_
 intro v H' Θ' cv s1 hk1 lx1 d1 st1 X1 vr J
 refine A1 (A1i hk1) λb bm q'1=>?_
 subst q'1
 obtain⟨ns,hm,rfl⟩:=Z2q.mp bm
 obtain⟨tb,rfl⟩:=vr
 refine GM.split (M4 (N0 rfl).1 ?_)
 rw[J8 rfl,P8]
 refine Z0n (Z2t (Z0x ⟨H6,?_⟩))
 refine C8w hm λvs tk x=>?_
 haveI kp2:∀b o,s1.heap.get? b=some o->(s1.heap.push {cls:= .type "list",data:= .seq vs}).get? b=some o:=λb o e=>Z0h _ e
 haveI l2:IsL (s1.heap.push {cls:= .type "list",data:= .seq vs}) s1.heap.objs.size vs 0:=Z0r _ rfl
 haveI z2:s1.heap.objs.size<=(s1.heap.push {cls:= .type "list",data:= .seq vs}).objs.size:=by rw[Heap.size_push];exact Z1d _
 refine A7 (d1.new (Z0g s1.heap.objs.size)) λx1 x2 x3=>?_
 haveI d2:=d1.keeps kp2
 generalize (s1.heap.push {cls:= .type "list",data:= .seq vs})=h2 at kp2 l2 z2 d2
 have is2:h2.IsCell C none:=by
  refine A1 is λo e e'=>?_;exact A6 o (kp2 _ _ ((lx1.keep _ _ e nC.1 nC.2.1).1 nC.2.2)) e'
 have cl:C<s1.heap.objs.size:=by obtain⟨o,e,_⟩:=is;exact Z0b (Z0i e) lx1.size
 refine wpAny_storeName_cell cx.kind hk hc is2 λh3 is3 sb3=>?_
 refine q ns s1.heap.objs.size _ hm ⟨hk,hc,is3,nC,⟨vs,0,(sb3.2 _ (Z0q cl)).trans l2,x⟩,x1,x2,λz=>x3 (z▸F2 cx.frame),λz=>x3 (F5 z)⟩ ?_ ?_
 . refine((lx0.trans lx1).trans (Lx.keeps kp2 z2)).on (λc o hc ec h1 h2=>?_) (Z0z sb3.1.symm)
   have e3:=(sb3.2 c (Z0k (Z0b hc hC))).trans ec
   exact⟨λJ=>e3,o.slots,e3⟩
 . refine d2.but (wr:= [C]) (λb o hb e=>(sb3.2 b λz=>hb (by rw[z];exact Z0s.mpr rfl)).trans e) (λb hb=>?_) cx.frame
   clear g hsc d ms hk hc is lx0 hC q cw g0
   obtain rfl:=Z0s.mp hb
   exact⟨nC.1,bC,F3 cx.frame nC.2.1 nC.2.2⟩
theorem C9o[Og s og](g:Ground og w gv mg mb A0 pc K D U)(cx:Cx D U (NP+2) A env fs)(hsc:env.scope=(A4 1).scope)(d:Hd A0 S env fs m s.heap)(ms:m "source" = some (.ref S))(hm:ns∈stN)(c:CW A0 S env fs ns C W s.heap)(lx0:Lx S env.locals fs hp s.heap)
 (q:∀s',CW A0 S env fs ns C W s'.heap->Lx S env.locals fs hp s'.heap->Hd A0 S env fs m s'.heap->∀ [Og s' og],wpAny (model pg w) A (execs (H5 2) env) Q E s'):wpAny (model pg w) A (execs (H5 1) env) Q E s:=by
 haveI p0:=pkl hsc "source" 0
 haveI p9:=pkg hsc "_law_refused_at" 9
 haveI p10:=pkg hsc "_law_joined" 10
 haveI p11:=pkg hsc "parse_one" 11
 refine A7 (A2z hm) λno n60 n4=>?_
 refine B4 c.l λvs e lW wx=>?_
 conv=>arg 3;arg 1;whnf
 refine Z0j (Z3b (Z1q (A7s (S:=S) (C:=C) (W:=W) (ns:=ns) (m:=m) (hp:=hp) g d.stays (cx.low (by decide)) p9 p11 rfl (Z1t (Z3h (A7j g d (cx.low (by show 101<=302;decide)) p10 p0 ms rfl (A1w cx c ?_)))))))
 refine⟨W,vs,e,ns,rfl,inferInstance,no,lW,wx,⟨c.nW.1,c.nW.2.1,F3 cx.frame c.nW.2.2.1 c.nW.2.2.2⟩, .refl,d,λx s1 l lo hlo ro hT hk1 hk2 hTl lx1 d1=>?_⟩
 intro J
 obtain⟨r,vr,ex,e2,tt,lX,xlo,rlo,lR,pls⟩:=ro
 refine Z1k (A1g (s:={s1 with toks:=s1.toks+1}) (i:=0) lX rfl (by decide) (Z2t (Z4l (λt2 k2=>?_) (by rw[sizeLine_eq];show(A3 l).length+4<=_;exact Z0c (Nat.add_le_add (Z0c hTl (Nat.mul_le_mul_left _ n60)) (Z0g _)) (by decide)))))
 refine⟨A3 l ++ Y8,t2,x,True,λJ=>False,?_,inferInstance,λfo fok=>D70 g.h2 fok hm hT hk1 (Z0c (Z0c hTl (Nat.mul_le_mul_left _ n60)) (by decide)),?_,lx0.trans lx1,d1,c.lx lx1,λJ s3 kp3 lx3 d3 c3=>?_,λp t' s3 z=>z.elim⟩
 . rw[<-J2];rfl
 . exact Xo.new d c lx0 (Z0o (Z0t hlo xlo)) (Z0i lX)
 . refine Z4t (wpAny_isNot_self rfl (Z1a ?_))
   exact Z0f (q s3 c3 lx3 d3)
end
section
variable{K:Frag}
variable{S:Addr}{lo:Nat}{Q:Flow->Shared->Prop}{ns:List Nat}
theorem C7p[Og s og](g:Ground og w gv mg mb A0 pc K D U)(cx:Cx D U (NP+2) A env fs)(hsc:env.scope=(A4 1).scope)(d:Hd A0 S env fs m s.heap)(ms:m "source" = some (.ref S))(hm:ns∈stN)(c:CW A0 S env fs ns C W s.heap)(lx0:Lx S env.locals fs hp s.heap)
 (q:∀s' l tl k t m' x,tl∈G9->Fol tl->D9 0 l->1<=k->k<=ns.length->l.map (·.tk)=(ns.take k).map E2->(A3 l ++ tl).length<=20000->m' "text" = some (.str (sOf (A3 l ++ tl)) t)->m' "source" = some (.ref S)->Xo A0 S env fs C W hp s'.heap x->CW A0 S env fs ns C W s'.heap->Lx S env.locals fs hp s'.heap->Hd A0 S env fs m' s'.heap->∀ [Og s' og],wpAny (model pg w) A (execs (H5 3) env) Q E s') :
 wpAny (model pg w) A (execs (H5 2) env) Q E s:=by
 haveI p0:=pkl hsc "source" 0
 haveI p2:=pkl hsc "text" 2
 have p10:=pkg hsc "_law_joined" 10
 have p12:=pkg hsc "_law_take" 12
 have p13:=pkg hsc "len" 13
 have g0:env.scope.names[0]?=some (Str.ofString "source", .local):=(gk hsc)
 have cw:Cx D U NW A env fs:=cx.low (by show 100<=302;decide)
 refine A7 (A2z hm) λno n60 n4=>?_
 refine B4 c.l λvs ep lW wx=>?_
 have hsz:vs.size=ns.length:=by simp only[<-wx.1,Array.length_toList]
 have ie:∀{p1 p2 p3 p4 p5:Pos} {kk:Nat},Ie w A env s.heap (.BinOp (.Call (.Name "len" p1) [.Name E1 p2] [] p3) .Sub (.Constant (.int 1) kk p4) p5) ((ns.length - 1:Nat):Int):=by
  intro p1 p2 p3 p4 p5 kk;haveI e:((ns.length - 1:Nat):Int)=(vs.size:Int) - 1:=by rw[hsz];exact Int.ofNat_sub (Z0c (by decide) n4)
  rw[e];exact Ie.sub (Ie.len g.G cx p13 d.stays rfl lW (Z0c (Z0c (Z0z hsz) n60) (by decide)) λs2 Q E hs q=>A1w cx (by rw[hs];exact c) q) Ie.const
 conv=>arg 3;arg 1;whnf
 refine Z0j (Z1i (Z1t (Z3h (A7j g d (cx.low (by show 101<=302;decide)) p10 p0 ms rfl (B5s (by refine Z0c (by assumption) ?_;decide) cx c (Z1t (Z1k ?_)))))))
 refine B6i (n:=301) (s:={s with toks:=s.toks+1}) g d cx p12 p0 ms rfl (top:=ns.length - 1) (Nat.le_sub_of_add_le (Z0c (by decide) n4)) (Z0c (Nat.sub_le ..) (Z0c n60 (by decide))) ie λi t s1 hi lx1 d1=>add_int ?_
 refine⟨1+i,_,by push_cast;rfl,Nat.add_comm 1 i▸Z0c (Nat.succ_le_of_lt hi) (Nat.sub_le ..),c.lx lx1,λX h' vs' xlo kp' z' lX wX=>?_⟩
 have lx1':Lx S env.locals fs s.heap s1.heap:=lx1
 have xs:s.heap.objs.size<=X:=Z0c lx1'.size xlo
 refine⟨X,vs',0,ns.take (1+i),rfl,inferInstance,no.take _,lX,wX,d.new xs,lx1'.trans (Lx.keeps kp' z'),d1.keeps kp',λx s3 l lo hlo ro hT hk1 hk2 hTl lx3 d3=>?_⟩
 intro J
 obtain⟨r,vr,ex,e2,tt,lX3,xlo3,rlo,lR,pls⟩:=ro
 refine Z1k (A1g (s:={s3 with toks:=s3.toks+1}) (i:=0) lX3 rfl (by decide) ?_)
 refine Hd.ev (s:={s3 with toks:=s3.toks+1}) d3 cw g.h3 (fu:=40) (x:=B3k) (by rw[hsc];kernel_rfl) C7e (.cons (x:=Str.ofString "source") (kd:= .local) g0 ms ⟨Z0v 0,rfl⟩ .nil) ?_
 intro v H' Θ' cv s4 hk4 lx4 d4 st4 X4 vr4 J
 refine A1 (A1i hk4) λtl tm q'1=>?_
 subst q'1
 obtain⟨tb,rfl⟩:=vr4
 refine A7 (C1g tm) λt1 t2 t3=>?_
 have hlen:(ns.take (1+i)).length<=60:=Z0c (Z2r _ _).length_le n60
 refine Z4l (λt5 k5=>?_) (by simp only[sizeLine_eq];show(A3 l).length+tl.length<=_;exact Z0c (Nat.add_le_add (Z0c hTl (Nat.mul_le_mul_left _ hlen)) t3) (by decide))
 rw[J2]
 refine Hd.store (s:={s4 with toks:=k5}) d4 cx p2 λh6 lx6 d6=>?_
 haveI lx4':Lx S env.locals fs s.heap h6:=(lx3.trans lx4).trans lx6
 refine q _ l tl (1+i) t5 _ x t1 t2 hT ((Nat.le_add_right _ _)) (by lia) hk1 (by rw[List.length_append];exact Z0c (Nat.add_le_add (Z0c hTl (Nat.mul_le_mul_left _ hlen)) t3) (by decide)) (Z0p rfl) ((Z0m (by decide)).trans ms) ?_ (c.lx lx4') (lx0.trans lx4') d6
 haveI xz:x<s3.heap.objs.size:=Z0i lX3
 haveI z34:s3.heap.objs.size<=s4.heap.objs.size:=lx4.size
 haveI z46:s4.heap.objs.size<=h6.objs.size:=lx6.size
 exact Xo.new d c lx0 (Z0o (Z0t hlo xlo3)) (Z0b xz (Z0c z34 z46))
theorem C6s[Og s og]{l:List Turn}{tl:Tx}{k:Nat}{t:Tok}{x:Nat}(g:Ground og w gv mg mb A0 pc K D U)(cx:Cx D U (NP+2) A env fs)(hsc:env.scope=(A4 1).scope)(d:Hd A0 S env fs m s.heap)(ms:m "source" = some (.ref S))(hm:ns∈stN)(c:CW A0 S env fs ns C W s.heap)(lx0:Lx S env.locals fs hp s.heap)
 (ht:tl∈G9) (hf:Fol tl) (hT:D9 0 l) (h1:1<=k) (h2:k<=ns.length) (hk:l.map (·.tk)=(ns.take k).map E2) (hl:(A3 l ++ tl).length<=20000) (mt:m "text" = some (.str (sOf (A3 l ++ tl)) t)) (xo:Xo A0 S env fs C W hp s.heap x)
 (q:∀s' m',m' "source" = some (.ref S)->CW A0 S env fs ns C W s'.heap->Lx S env.locals fs hp s'.heap->Hd A0 S env fs m' s'.heap->∀ [Og s' og],wpAny (model pg w) A (execs (H5 5) env) Q E s') :
 wpAny (model pg w) A (execs (H5 3) env) Q E s:=by
 have p2:=pkl hsc "text" 2
 have p3:=pkl hsc "place" 3
 haveI p9:=pkg hsc "_law_refused_at" 9
 haveI p11:=pkg hsc "parse_one" 11
 haveI p13:=pkg hsc "len" 13
 have fin:∀(v:Value) (s1:Shared),(v= .none\/∃t',v= .int (((A3 l ++ tl).length:Nat):Int) t')->Lx S env.locals fs hp s1.heap->Hd A0 S env fs m s1.heap->CW A0 S env fs ns C W s1.heap->∀ [Og s1 og],
  wpAny (model pg w) A (storeName env "place" v) (λJ s'=>wpAny (model pg w) A (execs (H5 4) env) Q E s') E s1:=by
  intro v s1 hv lx1 d1 c1 J
  refine Hd.store d1 cx p3 λh2 lx2 d2=>?_
  haveI mp:(λy=>if y=Str.ofString "place" then some v else m y) "place" = some v:=Z0p rfl
  haveI mt2:(λy=>if y=Str.ofString "place" then some v else m y) "text" = some (.str (sOf (A3 l ++ tl)) t):=(Z0m (by decide)).trans mt
  have ms2:(λy=>if y=Str.ofString "place" then some v else m y) "source" = some (.ref S):=(Z0m (by decide)).trans ms
  generalize (λy=>if y=Str.ofString "place" then some v else m y)=m2 at d2 mp mt2 ms2
  conv=>arg 3;arg 1;whnf
  refine Z0j (Z3b (Z4n (Z1q (A9 (s:={s1 with heap:=h2,toks:=s1.toks+1}) cx p3 d2.ns mp (Z4t ?_)))))
  rcases hv with rfl | ⟨t',rfl⟩
  . refine wpAny_isNot_self rfl (Z1a ?_)
    exact Z0f (q _ m2 ms2 (c1.lx lx2) (lx1.trans lx2) d2)
  . refine isnot_int_none (Z1a ?_)
    refine Z4n (Z1q (A9 (s:={s1 with heap:=h2,toks:=s1.toks+1}) cx p3 d2.ns mp (L8 (cv:= .builtin "len") g.G cx p13 A26 rfl (λJ=>H6) d2.stays rfl ?_)))
    refine Z0n (A9 (s:={s1 with heap:=h2,toks:=s1.toks+1}) cx p2 d2.ns mt2 (Z0x (P.len_str (by show ¬(((A3 l ++ tl).length:Nat):Int)>=_;lia) (ne_int (Z1a ?_)))))
    haveI e12:((((A3 l ++ tl).length:Nat):Int) !=((sOf (A3 l ++ tl)).length:Int))=false:=by simp only[F4];exact bne_self_eq_false _
    rw[e12,Z0m (by decide),Z0m (by decide)]
    exact Z0f (q _ m2 ms2 (c1.lx lx2) (lx1.trans lx2) d2)
 conv=>arg 3;arg 1;whnf
 refine Z0j (Z1i (A7s (S:=S) (C:=C) (W:=W) (ns:=ns) (m:=m) (hp:=hp) g d.stays (cx.low (by decide)) p9 p11 rfl (A9 cx p2 d.ns mt ?_)))
 exact⟨A3 l ++ tl,t,x,True,λp=>p=(((A3 l ++ tl).length:Nat):Int),rfl,inferInstance,λfo fok=>D7y g.h2 fok hm hT h1 h2 hk ht hf hl,xo,lx0,d,c,λJ s1 kp lx d1 c1=>fin .none s1 (.inl rfl) lx d1 c1,λp t' s1 hp kp lx d1 c1=>fin _ s1 (.inr ⟨t',by rw[hp]⟩) lx d1 c1⟩
end
noncomputable abbrev nAt:Str:=Str.ofString "at"
def E3:Scope:=((H5 5).head?.bind λs=>Y5 s λJ e=>A8v e λJ J sc J=>some sc).getD default
noncomputable def Y2(sc osc:Scope):Scope:={sc with names:=sc.names.map λ(n,k)=>if (k == .free&&osc.kind == .function&&osc.names.lookup n==some .cell) then (n, .cell) else (n,k)}
theorem D2i(sc:Scope)(env:Env):relabel sc env=Y2 sc env.scope:=rfl
theorem B3g:(Y2 E3 (A4 1).scope).names.lookup nAt=some .local:=rfl
theorem C2x:(Y2 E3 (A4 1).scope).names.lookup E1=some .cell:=rfl
theorem B6z:(Y2 E3 (A4 1).scope).kind= .function:=rfl
theorem D14{env:Env}{C:Addr}(h:env.cells.lookup E1=some C):closureFor E3 env=pure [(E1,C)]:=by
 haveI e:E3.names=E3.names:=rfl;conv at e=>rhs;whnf
 unfold closureFor;refine re e ?_;simp only[List.forIn_cons];unfold cellOf;rw[h];rfl
theorem B78:(nAt==("__debug__" :Str))=false:=rfl
section
variable{K:Frag}
variable{S:Addr}{lo:Nat}{Q:Flow->Shared->Prop}{ns:List Nat}
theorem Walks.below{I:Addr}{fp wr:List Addr}{P:Nat->Value->Prop}{St:Nat->Heap->Prop}(x:Walks pg w A I fp wr n P St):Walks pg w A I fp wr n (λi v=>P i v/\i<n) St:=
 {x with item:=λi s Q E hi st hQ=>x.item i s Q E hi st λv h' tk hp=>hQ v h' tk ⟨hp,hi⟩}
inductive CompF(w:World)(A:Around)(env:Env)(scope:Scope)(cl:List (Str × Addr))(x:Str)(ifs:List Expr)(elt:Expr)(p:Value->Bool)(F:Value->Value->Prop)(y:Str)(py:Pos)(Q:Flow->Shared->Prop)(E:Value->Shared->Prop)(it:Value)(s₂:Shared):Prop
 |mk (I:Addr) (fp wr:List Addr) (n:Nat) (P:Nat->Value->Prop) (St:Nat->Heap->Prop) (hi:it= .ref I) (W:Walks pg w A I fp wr n P St) (few:n<=sizeLine) (st:St 0 s₂.heap) (hf:∀b∈fp,b<s₂.heap.objs.size) (quiet:QuietOnC pg w A env scope cl x ifs elt wr P p F s₂)
  (fin:∀(Dd C:Addr) h' tk ys (vs:List Value),s₂.heap.get? Dd=none->s₂.heap.get? C=none->Dd≠C->h'.PlainList Dd ys->vs.length=n->(∀j v,vs[j]?=some v->P j v)->Paired F (vs.filter p) ys.toList->
   (∀b o,b∉wr->s₂.heap.get? b=some o->h'.get? b=some o)->s₂.heap.objs.size<=h'.objs.size->
   wpAny (model pg w) A (assign (.Name y py) env (.ref Dd)) (λJ s''=>(∀o,h'.get? C=some o->s''.heap.get? C=some o)/\∀h3,Heap.SameBut C s''.heap h3->Q .next {s'' with heap:=h3}) E {s₂ with heap:=h',toks:=tk})
theorem C8i{elt iter:Expr}{x y:Str}{px py:Pos}{ifs:List Expr}{scope:Scope}{cl:List (Str × Addr)}{pos spos:Pos}(p:Value->Bool)(F:Value->Value->Prop)
 (hsw:swapsWith (.ListComp elt [⟨.Name x px,iter,ifs,0⟩] scope pos) (some (.Name y py)) spos.line env=pure true) (hclos:closureFor scope env=pure cl) (hcell:∀z∈scope.names,z.2≠ .cell) (hkind:scope.kind= .function)
 (hnames:∀z∈scope.names,z.2= .local->scope.names.lookup z.1=some .local) (hx:scope.names.lookup x=some .local)
 (h:wpAny (model pg w) A (eval iter env) (λxv s₁=>wpAny (model pg w) A (pyIter xv) (CompF w A env scope cl x ifs elt p F y py Q E) E s₁) E s)
 (hs:∀x,foldedSetIterable iter env x=pure x) :
 wpAny (model pg w) A (exec (.Assign [.Name y py] (.ListComp elt [⟨.Name x px,iter,ifs,0⟩] scope pos) spos) env) Q E s:=by
 refine re (exec_Assign_Name_used _ _ _ _ hsw) ?_
 refine Z0d (Z1r (Z0d ?_))
 refine Z0d (Z1c (wpAny_comprehension_free (use:=some (assign (.Name y py) env)) (Q:=λJ s'=>Q .next s') rfl hs hclos hkind hnames
  (Z1c h (λxv s₁ h₁=>Z1c h₁ (λit s₂ h₂=>?_) λJ J e=>e) λJ J e=>e)) (λJ s' hq=>Z0f (Z0f hq)) λJ J e=>e)
 obtain⟨I,fp,wr,n,P,St,q'1,W,hsz,hst,hfp,hq,hQ⟩:=h₂
 subst q'1
 refine P7 (Z1c (comp_block_walkC (RR:=λacc C r s'=>s₂.heap.objs.size<=s'.heap.objs.size->compPost (model pg w) A E (some (assign (.Name y py) env)) (λJ s'=>Q .next s') acc C r s') W hsz p F hcell hkind hx hst hfp hq ?_)
  (λacc s₃ h₃ z₃=>P7 (Z1c h₃ (λcenv s₄ h₄ z₄=>B5p (codeAny_mono h₄ λr s₅ h₅ z₅=>h₅ (Z0c z₃ (Z0c z₄ z₅)))) λJ J e=>e)) λJ J e=>e)
 intro Dd C h' tk m' ys vs hD hC hDC hnC hlD hplD hlen hP hF hk hz
 refine Z1c (hQ Dd C h' tk ys vs hD hC hDC hplD hlen hP hF hk hz) (λJ s'' hh=>?_) λJ J e=>e
 exact A6 m' (hnC.at' λo e=>hh.1 o e) hh.2
theorem B1w{k:Nat}{e1:Expr}{p pos:Pos}{Q:Value->Shared->Prop}(G:GT w T1 cc0 gv mg mb A0 K)(cx:Cx D U n A env outer)(hp:B3 "range" env.scope.names 0=some (k, .globalImplicit))(sy:A0.StaysIn s.heap)(hs1:B7 e1=false)
 (he:wpAny (model pg w) A (eval e1 env) (λv s'=>∃(many:Nat) (tm:Tok),v= .int (many:Int) tm/\many<=100000/\
  ∀h' tk,(∀b o,s'.heap.get? b=some o->h'.get? b=some o)->s'.heap.objs.size+1<h'.objs.size->IsRangeIter h' (s'.heap.objs.size+1) (0+((0:Nat):Int) * 1) ((many:Int) - ((0:Nat):Int)) 1->Q (.ref (s'.heap.objs.size+1)) {s' with heap:=h',toks:=tk}) E s) :
 wpAny (model pg w) A (eval (.Call (.Name "range" p) [e1] [] pos) env) (λxv s₁=>wpAny (model pg w) A (pyIter xv) Q E s₁) E s:=by
 refine L8 (cv:= .type "range") G cx hp B8n rfl (λJ=>⟨.machine, .now⟩) sy (by rw[List.any_cons,hs1];rfl) ?_
 rw[J8 (by rw[List.any_cons,hs1];rfl)]
 refine Z0n (Z1c he (λv s1 hv=>?_) λJ J z=>z)
 refine F8 hv λmany tm q'2 hm q=>?_
 clear hv
 subst q'2
 refine Z0x (call_range_1 ?_)
 refine wpAny_pyIter_range (IsRange.new _ _ _ _ _ _ _) (small_one (by decide) (by decide) (by lia) (by lia)) ?_
 haveI en:∀o:Obj,(s1.heap.push o).objs.size=s1.heap.objs.size+1:=λo=>Heap.size_push ..
 have rz:Builtin.Range.rangeSize 0 (many:Int) 1=(many:Int):=by
  rw[rangeSize_one];split <;> lia
 rw[en]
 refine q _ _ (λb o e=>Z0h _ (Z0h _ e)) (by rw[Heap.size_push,Heap.size_push];show s1.heap.objs.size+1<s1.heap.objs.size+1+1;exact Z0g _) ?_
 haveI:=Z0r (s1.heap.push {cls:= .type "range",data:= .fields #[.int 0 s1.toks, .int (many:Int) tm, .int 1 (s1.toks+1)]}) (o:={cls:= .type "range_iterator",data:= .fields #[rawInt 0,rawInt (Builtin.Range.rangeSize 0 (many:Int) 1),rawInt 1]}) rfl
 rw[en,rz] at this
 show Heap.get? _ _=_
 rw[rz,this]
 simp
theorem B91{k:Nat}{e1:Expr}{p pos:Pos}{Q:Value->Shared->Prop}(G:GT w T1 cc0 gv mg mb A0 K)(cx:Cx D U n A env outer)(hp:B3 "range" env.scope.names 0=some (k, .globalImplicit))(sy:A0.StaysIn s.heap)(hs1:B7 e1=false){many:Nat}(hm:many<=100000)(a:Ie w A env s.heap e1 (many:Int))
 (q:∀h' tk,(∀b o,s.heap.get? b=some o->h'.get? b=some o)->s.heap.objs.size+1<h'.objs.size->IsRangeIter h' (s.heap.objs.size+1) (0+((0:Nat):Int) * 1) ((many:Int) - ((0:Nat):Int)) 1->Q (.ref (s.heap.objs.size+1)) {s with heap:=h',toks:=tk}) :
 wpAny (model pg w) A (eval (.Call (.Name "range" p) [e1] [] pos) env) (λxv s₁=>wpAny (model pg w) A (pyIter xv) Q E s₁) E s:=
 B1w G cx hp sy hs1 (a s _ _ rfl λtm tk=>⟨many,tm,rfl,hm,λh' tk' k1 k2 k3=>q h' tk' k1 k2 k3⟩)
theorem B0y{c a kc:Nat}{vs:Array Value}{e:Nat}{t:Tok}{p1 p2 p3 p4 p5 ap pos:Pos}{Q:Value->Shared->Prop}(hk:env.scope.kind= .function)(kw:env.kindOf E1=some .cell)(aw:env.cells.lookup E1=some C)(ka:env.kindOf nAt=some .local)(is:s.heap.IsCell C (some (.ref W)))(l:IsL s.heap W vs e)(x:F0 vs.toList ns)
 (hn:s.heap.Ns env.locals m) (ma:m nAt=some (.int (a:Int) t)) (ha:a<=ns.length) (few:ns.length<=100) (hp:(ap.endLine==pos.line)=true)
 (q:∀t h' tk,(∀b o,s.heap.get? b=some o->h'.get? b=some o)->Q (.int ((L9 c (ns.take a):Nat):Int) t) {s with heap:=h',toks:=tk}) :
 wpAny (model pg w) A (eval (.Call (.Attribute (.Subscript (.Name E1 p1) (.Slice none (some (.Name nAt p2)) none p3) p4) "count" ap) [.Constant (.str (sOf [c])) kc p5] [] pos) env) Q E s:=by
 have hsz:vs.size=ns.length:=by simp only[<-x.1,Array.length_toList]
 refine S8 rfl rfl (Z0l rfl) hp (Z3q (Z3g (wpAny_loadName_cell hk kw aw is (Z4s (Z4r (Z3g (Z2k hk ka hn ma ?_) B78)))) B32))
 refine B7v W vs none (some (a:Int)) rfl l.isList (by simp only[hsz,sizeLine_eq];refine Z0c (by assumption) ?_;decide) .none (.int _ _) (?_)
 haveI kp:∀b o,s.heap.get? b=some o->((s.heap.push {cls:= .type "slice",data:= .fields #[.none, .int (a:Int) t, .none]}).push {cls:= .type "list",data:= .seq (slicePick vs none (some (a:Int)) none)}).get? b=some o:=λb o e=>Z0h _ (Z0h _ e)
 have l2:IsL ((s.heap.push {cls:= .type "slice",data:= .fields #[.none, .int (a:Int) t, .none]}).push {cls:= .type "list",data:= .seq (slicePick vs none (some (a:Int)) none)}) (s.heap.objs.size+1) (slicePick vs none (some (a:Int)) none) 0:=by
  haveI:=Z0r (s.heap.push {cls:= .type "slice",data:= .fields #[.none, .int (a:Int) t, .none]}) (o:={cls:= .type "list",data:= .seq (slicePick vs none (some (a:Int)) none)}) rfl;rw[Heap.size_push] at this;exact this
 have x2:F0 (slicePick vs none (some (a:Int)) none).toList (ns.take a):=by
  rw[slicePick_upto vs a (by lia)];exact x.take a
 generalize ((s.heap.push {cls:= .type "slice",data:= .fields #[.none, .int (a:Int) t, .none]}).push {cls:= .type "list",data:= .seq (slicePick vs none (some (a:Int)) none)})=h2 at kp l2
 refine getMethod_list_of PySem.F.slot_list_count PySem.F.type_list_count l2.isList ⟨_,l2,rfl⟩ (M4 (N0 rfl).1 ?_)
 rw[J8 rfl,P8]
 refine Z0n (Z2t (Z0x ⟨H6,?_⟩))
 exact D2v (s:={s with heap:=h2,toks:=s.toks+1}) l2 x2 (q _ _ _ kp)
end
def A3n(ns:List Nat)(v:Value):Bool:=match v with | .int i _=>O6 (ns.take i.toNat) | _=>false
theorem D1f:∀z∈E3.names,z.2≠ .cell:=by
 have e:E3.names=E3.names:=rfl;conv at e=>rhs;whnf
 rw[e];decide
theorem B9j:E3.kind= .function:=rfl
theorem D55:∀z∈E3.names,z.2= .local->E3.names.lookup z.1=some .local:=by
 have e:E3.names=E3.names:=rfl;conv at e=>rhs;whnf
 rw[e];decide
theorem C0x:E3.names.lookup nAt=some .local:=rfl
theorem B8y:(E3.names.any λ(n,k)=>n==Str.ofString "free" && (k == .local||k == .cell))=false:=rfl
theorem D7b:O6 []=true:=rfl
theorem C15{l1:List Value}{l2:List Value}(h:Paired (λv y=>y=v) l1 l2):l2=l1:=by
 induction h with
 |nil=>rfl
 |cons h1 _ ih=>rw[h1,ih]
section
variable{K:Frag}
variable{S:Addr}{lo:Nat}{Q:Flow->Shared->Prop}{ns:List Nat}
theorem C0n[Og s og](g:Ground og w gv mg mb A0 pc K D U)(cx:Cx D U (NP+2) A env fs)(hsc:env.scope=(A4 1).scope)(d:Hd A0 S env fs m s.heap)(ms:m "source" = some (.ref S))(hm:ns∈stN)(c:CW A0 S env fs ns C W s.heap)(lx0:Lx S env.locals fs hp s.heap)
 (q:∀s' m' (Dd:Nat) ys e,m' "source" = some (.ref S)->m' "free" = some (.ref Dd)->IsL s'.heap Dd ys e->1<=ys.size->ys.size<=999->(∀(i:Nat) v,ys[i]?=some v->∃(a:Nat) (t:Tok),v= .int (a:Int) t/\a<=ns.length/\O6 (ns.take a)=true)->(Dd≠S/\A0.get? Dd=none/\Dd∉frs (env :: fs))->
  CW A0 S env fs ns C W s'.heap->Lx S env.locals fs hp s'.heap->Hd A0 S env fs m' s'.heap->∀ [Og s' og],wpAny (model pg w) A (execs (H5 6) env) Q E s') :
 wpAny (model pg w) A (execs (H5 5) env) Q E s:=by
 have p5:=pkl hsc "free" 5
 haveI p13:=pkg hsc "len" 13
 haveI p14:=pkg hsc "range" 14
 refine A7 (G6 p5) λJ J k5=>?_
 refine A7 (A2z hm) λno n60 n4=>?_
 refine B4 c.l λvs ep lW wx=>?_
 have hsz:vs.size=ns.length:=by simp only[<-wx.1,Array.length_toList]
 have ie:∀{p1 p2 p3 p4 p5:Pos} {kk:Nat},Ie w A env s.heap (.BinOp (.Call (.Name "len" p1) [.Name E1 p2] [] p3) .Add (.Constant (.int 1) kk p4) p5) ((ns.length+1:Nat):Int):=by
  intro p1 p2 p3 p4 p5 kk;haveI e:((ns.length+1:Nat):Int)=(vs.size:Int)+1:=by rw[hsz];rfl
  rw[e];exact Ie.add (Ie.len g.G cx p13 d.stays rfl lW (hsz▸Z0c n60 (by decide)) λs2 Q E hs q=>A1w cx (by simp only[hs];exact c) q) Ie.const
 conv=>arg 3;arg 1;whnf
 refine Z0j (C8i (scope:=E3) (A3n ns) (λv y=>y=v) (B1m cx.kind k5 rfl B8y) (D14 c.at') D1f B9j D55 C0x ?_ λJ=>rfl)
 refine B91 g.G cx p14 d.stays rfl (Z0c (Nat.succ_le_succ n60) (by decide)) ie λh4 tk4 kp4 z4 hI=>?_
 have d4:=d.keeps kp4
 refine A7 (d.new (x:=s.heap.objs.size+1) (Z1d _)) λn1 n2 n3=>?_
 haveI hw:∀b,b∈ [s.heap.objs.size+1]->b≠S/\A0.get? b=none/\b∉frs (env :: fs):=λb hb=>by rw[Z0s.mp hb];exact⟨n1,n2,n3⟩
 haveI zs:s.heap.objs.size<=h4.objs.size:=Z0o (Z2x z4)
 haveI lx4:Lx S env.locals fs s.heap h4:=Lx.keeps kp4 zs
 refine⟨s.heap.objs.size+1,[s.heap.objs.size+1],[s.heap.objs.size+1],ns.length+1,_,_,rfl,MineE.Walks.below (PySem.Walks.range cx.ca.hand (s.heap.objs.size+1) 0 1 (ns.length+1)),by rw[sizeLine_eq];lia,hI,λb hb=>by rw[Z0s.mp hb];exact z4,?_,?_⟩
 . have r1:(compEnvC E3 [(E1,C)] 0 env).scope=Y2 E3 (A4 1).scope:=by rw[<-hsc];exact D2i E3 env
   have kept:∀{s3:Shared},(∀b o,b∉ [s.heap.objs.size+1]->h4.get? b=some o->s3.heap.get? b=some o)->s3.heap.IsCell C (some (.ref W))/\∃vs e,IsL s3.heap W vs e/\F0 vs.toList ns:=λhk=>by
    rcases c with⟨_,_,q'1,_,q'2,_⟩
    refine A1 q'1 λo c3 c3'=>?_;refine B4 q'2 λvs e l v=>?_;have ne:∀{b:Nat} {o:Obj},s.heap.get? b=some o->b∉ [s.heap.objs.size+1]:=λe z=>by
     rw[Z0s.mp z] at e;exact absurd (Z0i e) (Z1g.mpr (Z1d _))
    exact⟨⟨o,hk C o (ne c3) (kp4 _ _ c3),c3'⟩,vs,e,hk W _ (ne l) (kp4 _ _ l),v⟩
   constructor
   . rintro Cc i v s3 m3 E' hC ⟨⟨t,rfl⟩,hi⟩ hn hmx hk htk
     obtain⟨is3,vs3,e3,l3,x3⟩:=kept (s3:=s3) hk
     have ei:(0+(i:Int) * 1)=(i:Int):=(Int.zero_add _).trans (Int.mul_one _)
     rw[ei] at hmx ⊢
     haveI r1':(compEnvC E3 [(E1,C)] Cc env).scope=Y2 E3 (A4 1).scope:=r1
     have kk:(compEnvC E3 [(E1,C)] Cc env).scope.kind= .function:=by rw[r1'];exact B6z
     have kw:(compEnvC E3 [(E1,C)] Cc env).kindOf E1=some .cell:=by unfold Env.kindOf;rw[r1'];exact C2x
     have ka:(compEnvC E3 [(E1,C)] Cc env).kindOf nAt=some .local:=by unfold Env.kindOf;rw[r1'];exact B3g
     have aw:(compEnvC E3 [(E1,C)] Cc env).cells.lookup E1=some C:=by show List.lookup E1 [(E1,C)]=_;rw[List.lookup_cons,beq_self_eq_true]
     rw[List.forIn_cons]
     refine Z0d ?_
     refine Z0d (Z1q (B0y (c:=40) (ns:=ns) kk kw aw ka is3 l3 x3 hn hmx (Nat.le_of_lt_succ hi) (Z0c n60 (by decide)) rfl λt1 h5 tk5 kp5=>?_))
     haveI is5:h5.IsCell C (some (.ref W)):=is3.keeps kp5
     refine B0y (s:={s3 with heap:=h5,toks:=tk5}) (c:=41) (ns:=ns) kk kw aw ka is5 (kp5 _ _ l3) x3 (hn.keeps kp5) hmx (Nat.le_of_lt_succ hi) (Z0c n60 (by decide)) rfl λt2 h6 tk6 kp6=>eq_int (Z1a (Z0f ?_))
     refine Z0f ⟨?_,h6,tk6,rfl,λb o e=>kp6 b o (kp5 b o e)⟩
     show(((L9 40 (ns.take i):Nat):Int)==((L9 41 (ns.take i):Nat):Int))=O6 (ns.take (i:Int).toNat)
     rw[Int.toNat_natCast]
     unfold O6
     by_cases q:L9 40 (ns.take i)=L9 41 (ns.take i)
     . rw[q,Z3v];exact beq_self_eq_true _
     . have e1:Nat.beq (L9 40 (ns.take i)) (L9 41 (ns.take i))=false:=by
        cases z:Nat.beq (L9 40 (ns.take i)) (L9 41 (ns.take i)) with
        |true=>exact absurd (Z0e z) q
        |false=>rfl
       rw[e1]
       exact beq_eq_false_iff_ne.mpr λz=>q (Int.ofNat.inj z)
   . rintro Cc i v s3 m3 E' hC ⟨⟨t,rfl⟩,hi⟩ hp' hn hmx hk htk
     have r1':(compEnvC E3 [(E1,C)] Cc env).scope=Y2 E3 (A4 1).scope:=r1
     have kk:(compEnvC E3 [(E1,C)] Cc env).scope.kind= .function:=by rw[r1'];exact B6z
     have ka:(compEnvC E3 [(E1,C)] Cc env).kindOf nAt=some .local:=by unfold Env.kindOf;rw[r1'];exact B3g
     exact Z3g (Z2k kk ka hn hmx ⟨rfl,s3.heap,s3.toks,rfl,λb o e=>e⟩) B78
 . intro Dd Cc h5 tk5 ys us hDd hCc hne hpl hlen hP hF hk hz
   have fresh:∀{x:Nat},h4.get? x=none->x≠S/\A0.get? x=none/\x∉frs (env :: fs):=λ{x} e=>by
    refine⟨λz=>?_,?_,λz=>?_⟩
    . refine Y7 d4.pool.ex λJ J J J J l J=>?_;rw[<-z] at l;exact nomatch e.symm.trans l
    . cases b:A0.get? x with
      |none=>rfl
      |some o=>exact nomatch e.symm.trans (d4.stays _ _ b)
    . obtain⟨_,o,b,_⟩:=d4.frames.mem z;exact nomatch e.symm.trans b
   refine A7 (fresh hDd) λD1 D2 D3=>?_
   refine A7 (fresh hCc) λC1 C2 C3=>?_
   haveI d5:=d4.but hk hw cx.frame
   obtain⟨eD,lD⟩:=hpl
   have DL:Dd≠env.locals:=λz=>D3 (z▸F2 cx.frame)
   haveI CL:Cc≠env.locals:=λz=>C3 (z▸F2 cx.frame)
   haveI ye:ys.toList=us.filter (A3n ns):=C15 hF
   refine Z3m (Hd.store (s:={s with heap:=h5,toks:=tk5}) d5 cx p5 λh6 lx6 d6=>⟨λo e=>(lx6.keep Cc o e C1 CL).1 λz=>C3 (F5 z),λh7 sb7=>?_⟩)
   haveI d7:=d6.but (wr:= [Cc]) (h':=h7) (λb o hb e=>(sb7.2 b λz=>hb (by rw[z];exact Z0s.mpr rfl)).trans e) (λb hb=>by rw[Z0s.mp hb];exact⟨C1,C2,C3⟩) cx.frame
   have lx7:Lx S env.locals fs s.heap h7:=⟨λb o e h1 h2=>by
    haveI e4:=kp4 _ _ e;have nI:b∉ [s.heap.objs.size+1]:=λz=>by
     rw[Z0s.mp z] at e;exact absurd (Z0i e) (Z1g.mpr (Z1d _))
    have nC:b≠Cc:=λz=>by rw[z] at e4;exact nomatch hCc.symm.trans e4
    obtain⟨j1,sl,j2⟩:=lx6.keep b o (hk b o nI e4) h1 h2;exact⟨λz=>(sb7.2 b nC).trans (j1 z),sl,(sb7.2 b nC).trans j2⟩,Z0c zs (Z0c hz (Z0c lx6.size (Z0z sb7.1.symm)))⟩
   refine q _ _ Dd ys eD ((Z0m (by decide)).trans ms) (Z0p rfl) ((sb7.2 _ hne).trans ((lx6.keep _ _ lD D1 DL).1 λz=>D3 (F5 z))) ?_ ?_ ?_ ⟨D1,D2,D3⟩ (c.lx lx7) (lx0.trans lx7) d7
   . have hlt:0<us.length:=by rw[hlen];exact Nat.succ_pos _
     obtain⟨⟨t,e0⟩,_⟩:=hP 0 us[0] (Z0w hlt)
     haveI hmem:us[0]∈us.filter (A3n ns):=Z3s.mpr ⟨List.getElem_mem hlt,by rw[e0];exact D7b⟩
     rw[<-ye] at hmem
     haveI:=List.length_pos_of_mem hmem
     exact this
   . haveI:ys.toList.length<=us.length:=by rw[ye];exact List.length_filter_le ..
     rw[Array.length_toList,hlen] at this
     lia
   . intro i v ev
     have hmem:v∈us.filter (A3n ns):=by rw[<-ye];exact Z1p (by rw[Array.getElem?_toList];exact ev)
     obtain⟨h1,h2⟩:=Z3s.mp hmem
     obtain⟨j,ej⟩:=Z4q h1
     obtain⟨⟨t,rfl⟩,hj⟩:=hP j v ej
     haveI ei:(0+(j:Int) * 1)=(j:Int):=(Int.zero_add _).trans (Int.mul_one _)
     rw[ei] at h2 ⊢
     refine⟨j,t,rfl,by lia,?_⟩
     haveI h2:O6 (ns.take (j:Int).toNat)=true:=h2
     exact h2
end
theorem D0a:E4 53= [41]:=rfl
theorem C0g:E2 53=R7:=rfl
theorem C3s:A0g 53=true:=rfl
noncomputable def M2(ns:List Nat)(a:Nat):List Nat:=ns.take a ++ [53] ++ ns.drop a
theorem C59{ns:List Nat}{a:Nat}(no:NsOk ns)(h:ns.length<=60):NsOk (M2 ns a):=by
 refine⟨λi hi=>?_,?_,?_⟩
 . rcases List.mem_append.mp hi with hi | hi
   . rcases List.mem_append.mp hi with hi | hi
     . exact no.ok i (List.mem_of_mem_take hi)
     . rw[Z0s.mp hi];exact C3s
   . exact no.ok i (List.mem_of_mem_drop hi)
 . haveI:(ns.take a ++ ns.drop a).count 500<=1:=by rw[Z2d];exact no.one
   unfold M2;rw[Z4d,Z4d,show([53]:List Nat).count 500=0 from rfl];rw[Z4d] at this;omega
 . haveI:(ns.take a ++ ns.drop a).length<=60:=by rw[Z2d];exact h
   unfold M2;rw[List.length_append] at this;rw[List.length_append,List.length_append];show _+1+_<=100;omega
section
variable{K:Frag}
variable{S:Addr}{lo:Nat}{Q:Flow->Shared->Prop}{ns:List Nat}
theorem D4p[Og s og]{Dd:Nat}{ys:Array Value}{e:Nat}(g:Ground og w gv mg mb A0 pc K D U)(cx:Cx D U (NP+2) A env fs)(hsc:env.scope=(A4 1).scope)(d:Hd A0 S env fs m s.heap)(ms:m "source" = some (.ref S))(mf:m "free" = some (.ref Dd))(c:CW A0 S env fs ns C W s.heap)(lx0:Lx S env.locals fs hp s.heap)
 (lD:IsL s.heap Dd ys e) (z1:1<=ys.size) (z2:ys.size<=999) (hys:∀(i:Nat) v,ys[i]?=some v->∃(a:Nat) (t:Tok),v= .int (a:Int) t/\a<=ns.length/\O6 (ns.take a)=true) (nD:Dd≠S/\A0.get? Dd=none/\Dd∉frs (env :: fs))
 (q:∀s' m' (a:Nat) t,m' "source" = some (.ref S)->m' nAt=some (.int (a:Int) t)->a<=ns.length->O6 (ns.take a)=true->CW A0 S env fs ns C W s'.heap->Lx S env.locals fs hp s'.heap->Hd A0 S env fs m' s'.heap->∀ [Og s' og],wpAny (model pg w) A (execs (H5 7) env) Q E s') :
 wpAny (model pg w) A (execs (H5 6) env) Q E s:=by
 haveI p0:=pkl hsc "source" 0
 haveI p4:B3 nAt env.scope.names 0=some (4, .local):=by rw[hsc];kernel_rfl
 haveI p5:=pkl hsc "free" 5
 haveI p7:=pkg hsc "_law_one" 7
 refine A1 g.fns.f13 λf13 g13 r13=>?_
 conv=>arg 3;arg 1;whnf
 refine Z0j (Z1i (N2 g.G cx p7 D1r g13 r13.keep d.stays rfl (Z0n (A9 cx p0 d.ns ms (Z0n (A9 cx p5 d.ns mf (Z0x ⟨d.stays,?_⟩)))))))
 refine D7w (n:=NP) g r13 cx.ca d.st d.low lD z1 z2 nD.1 nD.2.2 λi v s1 hv lx1 pl sy fr=>?_
 intro J
 refine F8 (hys i v hv) λa t q'1 ha he=>?_
 subst q'1
 haveI lx1':=lx1.inner cx.frame
 haveI d1:=d.inner cx.frame lx1 sy fr pl
 refine Hd.store d1 cx p4 λh2 lx2 d2=>?_
 exact q _ _ a t ((Z0m (by decide)).trans ms) (Z0p rfl) ha he (c.lx (lx1'.trans lx2)) (lx0.trans (lx1'.trans lx2)) d2
theorem D2t[Og s og]{a:Nat}{ta:Tok}(g:Ground og w gv mg mb A0 pc K D U)(cx:Cx D U (NP+2) A env fs)(hsc:env.scope=(A4 1).scope)(d:Hd A0 S env fs m s.heap)(ms:m "source" = some (.ref S))(ma:m nAt=some (.int (a:Int) ta))(ha:a<=ns.length)(hm:ns∈stN)(c:CW A0 S env fs ns C W s.heap)(lx0:Lx S env.locals fs hp s.heap)
 (q:∀s' m' l (r x:Nat) vs e2 t t2,m' nAt=some (.int (a:Int) t)->m' "text" = some (.str (sOf (A3 l)) t2)->m' "places" = some (.ref r)->D9 0 l->l.map (·.tk)=(M2 ns a).map E2->(A3 l).length<=100 * (M2 ns a).length->IsL s'.heap r vs e2->PlAt vs.toList (B6 0 l)->(r≠S/\A0.get? r=none/\r∉frs (env :: fs))->r≠x->Xo A0 S env fs C W hp s'.heap x->
  CW A0 S env fs ns C W s'.heap->Lx S env.locals fs hp s'.heap->Hd A0 S env fs m' s'.heap->∀ [Og s' og],wpAny (model pg w) A (execs (H5 8) env) Q E s') :
 wpAny (model pg w) A (execs (H5 7) env) Q E s:=by
 haveI p0:=pkl hsc "source" 0
 have p4:B3 nAt env.scope.names 0=some (4, .local):=by rw[hsc];kernel_rfl
 haveI p10:=pkg hsc "_law_joined" 10
 haveI g0:env.scope.names[0]?=some (Str.ofString "source", .local):=(gk hsc)
 haveI g2:env.scope.names[2]?=some (Str.ofString "text", .local):=(gk hsc)
 have g4:env.scope.names[4]?=some (nAt, .local):=by rw[hsc];kernel_rfl
 have g6:env.scope.names[6]?=some (Str.ofString "places", .local):=(gk hsc)
 refine A7 (A2z hm) λno n60 n4=>?_
 conv=>arg 3;arg 1;whnf
 refine Z0j (A0q rfl (A7j g d (cx.low (by show 101<=302;decide)) p10 p0 ms rfl (Z1t (Z1t (B5s (by refine Z0c (by assumption) ?_;decide) cx c (A9 cx p4 d.ns ma ?_))))) rfl)
 refine A2x a ta rfl ha c (λX1 h1 vs1 xlo1 kp1 z1 l1 x1=>Z3e ?_)
 rw[J8 rfl,P8]
 refine Z0n (Z2t (Z0x ⟨(show 1<=sizeLine by decide),?_⟩))
 have hs1:vs1.size<=60:=by rw[<-Array.length_toList,x1.1];exact Z0c (Z2r _ _).length_le n60
 generalize hH2:h1.push {cls:= .type "list",data:= .seq (List.toArray [Value.str ")" s.toks])}=h2
 have kp2:∀b o,h1.get? b=some o->h2.get? b=some o:=λb o e=>hH2▸Z0h _ e
 have z2:h2.objs.size=h1.objs.size+1:=by rw[<-hH2,Heap.size_push]
 haveI l2:IsL h2 h1.objs.size #[Value.str ")" s.toks] 0:=hH2▸Z0r _ rfl
 refine P.add_list (kp2 _ _ l1) l2 ?_ (by rw[sizeLine_eq];show vs1.size+1<=_;lia)
 generalize hH3:h2.push {cls:= .type "list",data:= .seq (vs1 ++ #[Value.str ")" s.toks])}=h3
 haveI kp3:∀b o,h2.get? b=some o->h3.get? b=some o:=λb o e=>hH3▸Z0h _ e
 have z3:h3.objs.size=h2.objs.size+1:=by rw[<-hH3,Heap.size_push]
 haveI l3:IsL h3 h2.objs.size (vs1 ++ #[Value.str ")" s.toks]) 0:=hH3▸Z0r _ rfl
 haveI k3:∀b o,s.heap.get? b=some o->h3.get? b=some o:=λb o e=>kp3 _ _ (kp2 _ _ (kp1 _ _ e))
 have zz:s.heap.objs.size<=h3.objs.size:=by have:s.heap.objs.size<=h1.objs.size:=z1;lia
 have x3:F0 (vs1 ++ #[Value.str ")" s.toks]).toList (ns.take a ++ [53]):=by
  rw[Z4u];refine x1.app ⟨rfl,λi v k e1 e2=>?_⟩;cases i with
  |zero=>
   obtain rfl:=Z0a e1;obtain rfl:=Z0a e2;exact⟨s.toks,by simp only[D0a];rfl⟩
  |succ i=>exact nn e2
 have lx3:Lx S env.locals fs s.heap h3:=Lx.keeps k3 zz
 have d3:=d.keeps k3
 refine D2u (s:={s with heap:=h3,toks:=s.toks+1}) (by refine Z0c (by assumption) ?_;decide) cx (c.lx lx3) (A9 (s:={s with heap:=h3,toks:=s.toks+1}) cx p4 d3.ns ma ?_)
 refine A2x a ta rfl ha (c.lx lx3) (λX4 h4 vs4 xlo4 kp4 z4 l4 x4=>?_)
 haveI hs4:vs4.size<=60:=by rw[<-Array.length_toList,x4.1];exact Z0c (List.drop_sublist _ _).length_le n60
 refine P.add_list (kp4 _ _ l3) l4 ?_ (by rw[Array.size_append,sizeLine_eq];show vs1.size+1+vs4.size<=_;lia)
 generalize hH5:h4.push {cls:= .type "list",data:= .seq ((vs1 ++ #[Value.str ")" s.toks]) ++ vs4)}=h5
 have kp5:∀b o,h4.get? b=some o->h5.get? b=some o:=λb o e=>hH5▸Z0h _ e
 have z5:h5.objs.size=h4.objs.size+1:=by rw[<-hH5,Heap.size_push]
 have l5:IsL h5 h4.objs.size ((vs1 ++ #[Value.str ")" s.toks]) ++ vs4) 0:=hH5▸Z0r _ rfl
 have k5:∀b o,s.heap.get? b=some o->h5.get? b=some o:=λb o e=>kp5 _ _ (kp4 _ _ (k3 _ _ e))
 have z4':h3.objs.size<=h4.objs.size:=z4
 have x5:F0 ((vs1 ++ #[Value.str ")" s.toks]) ++ vs4).toList (M2 ns a):=by
  rw[Z4u];exact x3.app x4
 refine⟨h4.objs.size,_,0,M2 ns a,rfl,inferInstance,C59 no n60,l5,x5,d.new (by lia),Lx.keeps k5 (by show s.heap.objs.size<=h5.objs.size;lia),d.keeps k5,λx s6 l lo6 hlo ro hT hk1 hk2 hTl lx6 d6=>?_⟩
 intro J
 obtain⟨r,vr,ex,e2,tt,lX,xlo,rlo,lR,pls⟩:=ro
 refine A7 (d.new (Z0o (Z0t hlo rlo))) λrS rB rF=>?_
 haveI rL:r≠env.locals:=λq=>rF (q▸F2 cx.frame)
 haveI at6:At gv an0 A0 (ΘW S r) HP [(0, .ref 0),(4, .int (.ofNat a))] env fs s6.heap:=⟨ΘW_st d6.st (Z0i lR) rS rF,m,d6.ns, .cons (x:=Str.ofString "source") (kd:= .local) g0 ms ⟨Z0v 0,rfl⟩ (.cons (x:=nAt) (kd:= .local) g4 ma ⟨ta,rfl⟩ .nil)⟩
 refine A3o (is:= [2,6]) (vs:= [.str (A3 l), .wd 0 0]) (ws:=#[.str (sOf (A3 l)) tt, .ref r]) cx rfl (by rw[hsc];kernel_rfl) (rfl) rfl ⟨⟨tt,rfl⟩,⟨by rw[C6];decide,Z0v 0,rfl⟩,trivial⟩ at6 (λQ' k'=>B4y cx.ca.hand lX k') λs7 X a7=>?_
 intro J
 refine A1 a7.fr λm7 n7 F7=>?_
 obtain⟨_,mt,tt7,rfl⟩:=F7 2 _ _ (.str (A3 l)) g2 rfl
 refine T7 (F7 6 _ _ (.wd 0 0) g6 rfl) λJ mr J J q'3=>?_
 subst q'3
 obtain⟨_,ma7,ta7,rfl⟩:=F7 4 _ _ (.int (.ofNat a)) g4 rfl
 haveI d7:Hd A0 S env fs m7 s7.heap:=⟨a7.st.stays,a7.st.frames,n7,K3 (Θ:=ΘW S r) a7.st (rfl) (by rw[C6];assumption),d.low,d.nf⟩
 have lx7:Lx S env.locals fs s6.heap s7.heap:=⟨λb o e h1 h2=>by
  obtain⟨k1,k2⟩:=X.keep b o e (λi J=>⟨h1,h1⟩) h2;exact⟨λq=>k1 (F3 cx.frame h2 q),k2⟩,X.size⟩
 have hl1:1<=(B6 0 l).length:=by
  haveI:=congrArg List.length hk1;rw[List.length_map,List.length_map] at this;rw[G2,this];unfold M2;rw[List.length_append,List.length_append];show 1<=_+1+_;lia
 have rx:r≠x:=λz=>by
  subst z;have e1:vr= #[.str (sOf (A3 l)) tt, .ref r]:=by
   haveI:=lR.symm.trans lX;injection this with this
   injection this with _ _ this _
   injection this
  rw[e1] at pls;haveI e2:(B6 0 l)[0]?=some (B6 0 l)[0]:=Z0w hl1;obtain⟨tk,e3⟩:=pls.at' 0 _ _ rfl e2;cases e3
 refine q s7 m7 l r x vr e2 ta7 tt7 ma7 mt mr hT hk1 hTl ((lx7.keep _ _ lR rS rL).1 λz=>rF (F5 z)) pls ⟨rS,rB,rF⟩ rx ?_ (c.lx (lx6.trans lx7)) (lx0.trans (lx6.trans lx7)) d7
 exact Xo.new d c lx0 (Z0o (Z0t hlo xlo)) (Z0b (Z0i lX) lx7.size)
end
theorem C2i:∀k:Addr,cellsFrom (k+1) (A4 1).scope.names []= [(E1,k+1)]:=λk=>by
 haveI e:(A4 1).scope.names=(A4 1).scope.names:=rfl;conv at e=>rhs;whnf
 rw[e];rfl
theorem C0r:(A4 1).scope.names.lookup E1=some .cell:=rfl
theorem B88:(A4 1).params.args.map (·.arg)= [Str.ofString "source"]:=rfl
section
variable{K:Frag}
variable{S:Addr}{lo:Nat}{Q:Flow->Shared->Prop}{ns:List Nat}
theorem C1z[Og s og]{a r x:Nat}{l:List Turn}{vs:Array Value}{e2:Nat}{t t2:Tok}(g:Ground og w gv mg mb A0 pc K D U)(cx:Cx D U (NP+2) A env fs)(hsc:env.scope=(A4 1).scope)(d:Hd A0 S env fs m s.heap)(hm:ns∈stN)(c:CW A0 S env fs ns C W s.heap)(lx0:Lx S env.locals fs hp s.heap)
 (ha:a<=ns.length) (he:O6 (ns.take a)=true) (ma:m nAt=some (.int (a:Int) t)) (mt:m "text" = some (.str (sOf (A3 l)) t2)) (mp:m "places" = some (.ref r)) (hT:D9 0 l) (hk:l.map (·.tk)=(M2 ns a).map E2) (hl:(A3 l).length<=100 * (M2 ns a).length)
 (lr:IsL s.heap r vs e2) (pls:PlAt vs.toList (B6 0 l)) (nr:r≠S/\A0.get? r=none/\r∉frs (env :: fs)) (rx:r≠x) (xo:Xo A0 S env fs C W hp s.heap x)
 (q:∀s',Lx S env.locals fs hp s'.heap->Hd A0 S env fs m s'.heap->∀ [Og s' og],Q (.ret (.bool true)) s') :
 wpAny (model pg w) A (execs (H5 8) env) Q E s:=by
 haveI p2:=pkl hsc "text" 2
 have p4:B3 nAt env.scope.names 0=some (4, .local):=by rw[hsc];kernel_rfl
 haveI p6:=pkl hsc "places" 6
 haveI p9:=pkg hsc "_law_refused_at" 9
 haveI p11:=pkg hsc "parse_one" 11
 refine A7 (A2z hm) λno n60 n4=>?_
 have bl:(M2 ns a).length=ns.length+1:=by
  haveI:(ns.take a ++ ns.drop a).length=ns.length:=by rw[Z2d]
  unfold M2;rw[List.length_append] at this;rw[List.length_append,List.length_append];show _+1+_=_;lia
 have ll:l.length=ns.length+1:=by have:=congrArg List.length hk;rw[List.length_map,List.length_map,bl] at this;exact this
 have hal:a<l.length:=by lia
 obtain⟨l1,B,l2,rfl,hl1⟩:∃l1 B l2,l=l1 ++ B :: l2/\l1.length=a:=⟨l.take a,l[a],l.drop (a+1),by rw[<-List.drop_eq_getElem_cons hal,Z2d],by rw[List.length_take];lia⟩
 have hk':l1.map (·.tk) ++ B.tk :: l2.map (·.tk)=(ns.take a).map E2 ++ E2 53 :: (ns.drop a).map E2:=by
  rw[Z2l,List.map_cons] at hk;rw[hk];unfold M2;rw[Z2l,Z2l,List.append_assoc];rfl
 refine A8 (List.append_inj hk' (by simp only[List.length_map,List.length_map,List.length_take,hl1];lia)) λk1 k2=>?_
 injection k2 with k2 k3
 rw[C0g] at k2
 have aw:(B6 0 (l1 ++ B :: l2))[a]?=some (R7,(A3 l1).length+B.gap.length):=by
  rw[A5j,Z2j,Z1o (by rw[G2,hl1];exact Z0g _),G2,hl1,Nat.sub_self];show some (B.tk,_)=_;rw[k2]
 have hva:a<vs.toList.length:=by simp only[pls.len,G2];exact hal
 obtain⟨tk,ev⟩:=pls.at' a _ _ (Z0w hva) aw
 have ev':vs[a]?=some (.int (((A3 l1).length+B.gap.length:Nat):Int) tk):=by
  rw[<-Array.getElem?_toList,Z0w hva,ev]
 conv=>arg 3;arg 1;whnf
 refine Z0j (Z1u (Z4b (A7s (S:=S) (C:=C) (W:=W) (ns:=ns) (m:=m) (hp:=hp) g d.stays (cx.low (by decide)) p9 p11 rfl (A9 cx p2 d.ns mt ?_))))
 refine⟨A3 (l1 ++ B :: l2),t2,x,False,λp=>p=(((A3 l1).length+B.gap.length:Nat):Int),rfl,inferInstance,λfo fok=>C9l g.h2 fok hm hT k1 k3 k2 ha (C5g hm ha he) (Z0c (Z0c hl (Nat.mul_le_mul_left _ (Z0c (Z0z bl) (Nat.add_le_add n60 (Z0g _))))) (by decide)),xo,lx0,d,c,λz=>z.elim,λp t' s1 hp' kp lx1 d1 c1=>?_⟩
 intro J
 subst hp'
 refine Z3h (A9 cx p6 d1.ns mp (A9 cx p4 d1.ns ma (A1g (kp _ _ lr rx nr.2.2) ev' (Z0t (Z0c (Z0z hl1.symm) (Z0c (Z0z hl1) (Z0c ha n60))) (by decide)) (eq_int ?_))))
 refine re (show((((A3 l1).length+B.gap.length:Nat):Int)==(((A3 l1).length+B.gap.length:Nat):Int))=true from beq_self_eq_true _) ?_
 exact q s1 lx1 d1
theorem D05[Og s og](g:Ground og w gv mg mb A0 pc K D U){f1:Addr}(r1:FnRaw gv cc0 K (A4 1) [0] [] f1)(ca:CA D U (NP+3) A fs)(st:St gv an0 A0 (ΘP S) HP fs s.heap)(low:A0.get? S=none)
 (k:∀s',Lx S S fs s.heap s'.heap->Pool s'.heap S->A0.StaysIn s'.heap->s'.heap.FunFrames A0 fs->∀ [Og s' og],R (.ok (.ret (.bool true))) s'):codeAny (model pg w) A (.call (.ref f1) ⟨[.ref S],[]⟩) R s:=by
 refine D7l (n:=NP+2) g.G g.hD (v:= .ref 0) r1 B88 C2i ca st ⟨by rw[C6];decide,rfl⟩ λenv h₀ tk hsc cx at' hcs is kp e3=>?_
 obtain⟨st',m,hn,F⟩:=at'
 refine D6 (F 0 "source" .local (.ref 0) (gk hsc) rfl) λJ m1 J q'1=>?_
 subst q'1
 haveI d:Hd A0 S env fs m h₀:=Hd.enter st' hn low
 haveI hz:s.heap.objs.size<=h₀.objs.size:=Z0o (by rw[e3] at hn;exact hn.lt)
 haveI Slt:S<s.heap.objs.size:=(st.lt 0 (by rw[C6];assumption)).1
 have bC:A0.get? (s.heap.objs.size+1)=none:=by
  cases b:A0.get? (s.heap.objs.size+1) with
  |none=>rfl
  |some o=>exact absurd (Z0i (st.stays _ _ b)) (Z1g.mpr (Z1d _))
 have nC:s.heap.objs.size+1≠S/\s.heap.objs.size+1≠env.locals/\s.heap.objs.size+1∉frs fs:=
  ⟨Z0q (Z2a Slt),by rw[e3];exact Nat.succ_ne_self _,λz=>absurd (A4q st.frames z) (Z1g.mpr (Z1d _))⟩
 haveI lx0:Lx S env.locals fs s.heap h₀:=Lx.keeps kp hz
 refine D4e (s:={s with heap:=h₀,toks:=tk}) g cx hsc d m1 (by unfold Env.kindOf;rw[hsc];exact C0r) (by simp only[hcs,List.lookup_cons,beq_self_eq_true]) is nC bC lx0 (Z1d _) λns W s1 hm c1 lx1 d1=>?_
 intro J
 refine C9o g cx hsc d1 m1 hm c1 lx1 λs2 c2 lx2 d2=>?_
 intro J
 refine C7p g cx hsc d2 m1 hm c2 lx2 λs3 l tl j t3 m3 x3 ht hf hT h1 h2 hk hl mt ms3 xo c3 lx3 d3=>?_
 intro J
 refine C6s g cx hsc d3 ms3 hm c3 lx3 ht hf hT h1 h2 hk hl mt xo λs5 m5 ms5 c5 lx5 d5=>?_
 intro J
 refine C0n g cx hsc d5 ms5 hm c5 lx5 λs6 m6 Dd ys e6 ms6 mf lD z1 z2 hys nD c6 lx6 d6=>?_
 intro J
 refine D4p g cx hsc d6 ms6 mf c6 lx6 lD z1 z2 hys nD λs7 m7 a t7 ms7 ma ha he c7 lx7 d7=>?_
 intro J
 refine D2t g cx hsc d7 ms7 ma ha hm c7 lx7 λs8 m8 l8 r x vs e8 t8 t8' ma8 mt8 mp8 hT8 hk8 hl8 lr pls nr rx xo8 c8 lx8 d8=>?_
 intro J
 refine C1z g cx hsc d8 hm c8 lx8 ha he ma8 mt8 mp8 hT8 hk8 hl8 lr pls nr rx xo8 λs9 lx9 d9=>?_
 intro J
 exact k s9 (lx9.leave (λb o e=>e) (Z0g _) e3) d9.pool d9.stays d9.frames.2.2
end
theorem D5e:lkS "_law_pool" cc0.glob=some (.glob 15):=rfl
theorem wrS:lkS "_law_words_right" cc0.glob=some (.glob 5):=rfl
theorem brS:lkS "_law_bad_right" cc0.glob=some (.glob 4):=rfl
theorem crS:lkS "_law_cut_right" cc0.glob=some (.glob 1):=rfl
def B55:List Stmt:=(A4 0).body.head?.elim [] A7m
section
variable{K:Frag}
variable{Q:Flow->Shared->Prop}
structure LawI(og:OGt)(A0:Heap)(env:Env)(fs:List Env)(X:Nat)(vs:Array Value)(h₀:Heap)(m:Str->Option Value)(s:Shared):Prop where
 stays:A0.StaysIn s.heap
 frames:s.heap.FunFrames A0 (env :: fs)
 ns:s.heap.Ns env.locals m
 ms:m "script" = some (.ref X)
 l:∃e,IsL s.heap X vs e
 old:∀b o,h₀.get? b=some o->b≠env.locals->b∉frs fs->s.heap.get? b=some o
 size:h₀.objs.size<=s.heap.objs.size
 os:Og s og
theorem D0f[Og s og]{X:Nat}{vs:Array Value}{kk:Nat}{tk:Tok}(g:Ground og w gv mg mb A0 pc K D U)(cx:Cx D U (NP+3) A env fs)(hsc:env.scope=(A4 0).scope)(hint:∀(j:Nat) v,vs[j]?=some v->∃i t,v=Value.int i t)(hsz:vs.size<=63)(lo:A0.get? X=none)(hX:X∉frs (env :: fs))
 (hk:kk<=1) (mk:m "k" = some (.int (.ofNat kk) tk)) (hI:LawI og A0 env fs X vs h₀ m s) :
 wpAny (model pg w) A (execs B55 env) (λf s3=>f= .next/\(∃m3,LawI og A0 env fs X vs h₀ m3 s3)/\∀b o,s.heap.get? b=some o->b≠env.locals->b∉frs fs->s3.heap.get? b=some o) noE s:=by
 obtain⟨sy,fr,hn,ms,⟨e,lX⟩,old,size,os⟩:=hI
 haveI p0:=pkl hsc "script" 0
 haveI p1:=pkl hsc "k" 1
 have p2:=pkl hsc "source" 2
 haveI p7:=pkg hsc "_law_pool" 7
 haveI p8:=pkg hsc "_law_words_right" 8
 haveI p9:=pkg hsc "_law_bad_right" 9
 haveI p10:=pkg hsc "_law_cut_right" 10
 refine A1 g.fns.f15 λf15 g15 r15=>?_
 refine A1 g.fns.f5 λf5 g5 r5=>?_
 refine A1 g.fns.f4 λf4 g4 r4=>?_
 refine A1 g.fns.f1 λf1 g1 r1=>?_
 conv=>arg 3;arg 1;whnf
 refine Z0j (Z1i (N2 g.G cx p7 D5e g15 r15.keep sy rfl (Z0n (A9 cx p0 hn ms (Z0n (A9 cx p1 hn mk (Z0x ⟨sy,?_⟩)))))))
 refine C6j (n:=302) g.G g.hD r15 cx.ca sy fr lX hint hsz lo hX hk λS s1 kp1 z1 hS pl1=>?_
 intro J
 have bS:A0.get? S=none:=by
  cases q:A0.get? S with
  |none=>rfl
  |some o=>exact absurd (Z0i (sy _ _ q)) (Z1g.mpr hS)
 haveI nS:S∉frs (env :: fs):=λq=>absurd (A0o fr q) (Z1g.mpr hS)
 haveI fr1:s1.heap.FunFrames A0 (env :: fs):=fr.of_keeps λb o e J=>⟨o,kp1 b o e,rfl⟩
 haveI d1:Hd A0 S env fs m s1.heap:=⟨λb o e=>kp1 _ _ (sy b o e),fr1,hn.keeps kp1,pl1,bS,nS⟩
 refine Hd.store d1 cx p2 λh2 lx2 d2=>?_
 haveI ms2:(λy=>if y=Str.ofString "source" then some (Value.ref S) else m y) "script" = some (.ref X):=(Z0m (by decide)).trans ms
 haveI mS2:(λy=>if y=Str.ofString "source" then some (Value.ref S) else m y) "source" = some (.ref S):=Z0p rfl
 generalize (λy=>if y=Str.ofString "source" then some (Value.ref S) else m y)=m2 at d2 ms2 mS2
 have one:∀{f j:Nat} {x:Str} {kx:Nat} {p q1 q2:Pos} {s:Shared} {Q:Bool->Shared->Prop} [Og s og],Hd A0 S env fs m2 s.heap->B3 x env.scope.names 0=some (kx, .globalImplicit)->lkS x cc0.glob=some (.glob j)->gv j=some (.ref f)->keepIn K (.ref f)=true->
  (∀{R:Result->Shared->Prop},(∀s',Lx S S (env :: fs) s.heap s'.heap->Pool s'.heap S->A0.StaysIn s'.heap->s'.heap.FunFrames A0 (env :: fs)->∀ [Og s' og],R (.ok (.ret (.bool true))) s')->codeAny (model pg w) A (.call (.ref f) ⟨[.ref S],[]⟩) R s)->
  (∀s',Lx S env.locals fs s.heap s'.heap->Hd A0 S env fs m2 s'.heap->∀ [Og s' og],Q true s')->wpAny (model pg w) A (isTrue (.Call (.Name x p) [.Name "source" q1] [] q2) env (eval (.Call (.Name x p) [.Name "source" q1] [] q2) env)) Q noE s:=by
  intro f j x kx p q1 q2 s Q J d hp hl hg hkp hc q
  refine isTrue_plain (N2 g.G cx hp hl hg hkp d.stays rfl (Z0n (A9 cx p2 d.ns mS2 (Z0x ⟨d.stays,hc λs' lx pl sy fr=>?_⟩))))
  intro J
  exact Z1a (q s' (lx.inner cx.frame) (d.inner cx.frame lx sy fr pl))
 refine Z0j (Z3b (isTrue_or (isTrue_not (one (s:={s1 with heap:=h2,toks:=s1.toks+1}) d2 p8 wrS g5 r5.keep (λq=>D3t g r5 (cx.ca.low (by show 103<=303;decide)) d2.st bS q) λs3 lx3 d3=>?_))))
 intro J
 refine isTrue_or (isTrue_not (one d3 p9 brS g4 r4.keep (λq=>D6a g r4 cx.ca d3.st bS q) λs4 lx4 d4=>?_))
 intro J
 refine isTrue_or (isTrue_not (one d4 p10 crS g1 r1.keep (λq=>D05 g r1 cx.ca d4.st bS q) λs5 lx5 d5=>?_))
 intro J
 rw[Z0m (by decide)]
 refine isTrue_or_nil ?_
 rw[Z0m (by decide)]
 have lx:=((lx2.trans lx3).trans lx4).trans lx5
 have up:∀b o,s.heap.get? b=some o->b≠env.locals->b∉frs fs->s5.heap.get? b=some o:=λb o e h1 h2=>(lx.keep b o (kp1 b o e) (Z0k (Z0b (Z0i e) hS)) h1).1 h2
 haveI XL:X≠env.locals:=λq=>hX (q▸F2 cx.frame)
 refine Z0f (Z0f ⟨rfl,⟨m2,d5.stays,d5.frames,d5.ns,ms2,⟨e,up _ _ lX XL λq=>hX (F5 q)⟩,λb o e h1 h2=>up b o (old b o e h1 h2) h1 h2,?_,inferInstance⟩,up⟩)
 exact Z0c size (Z0c z1 lx.size)
end
section
variable{K:Frag}
theorem D04[Og s og]{X:Nat}{vs:Array Value}{Q:Flow->Shared->Prop}{p1 p2 p3 p4 p5 p6 p7 p8 p9 q1 q2 q3:Pos}{k1 k2:Nat}(g:Ground og w gv mg mb A0 pc K D U)(cx:Cx D U (NP+3) A env fs)(hsc:env.scope=(A4 0).scope)(hint:∀(j:Nat) v,vs[j]?=some v->∃i t,v=Value.int i t)(hsz:vs.size<=63)(lo:A0.get? X=none)(hX:X∉frs (env :: fs))
 (hI:LawI og A0 env fs X vs s.heap m s) (q:∀s' m',LawI og A0 env fs X vs s.heap m' s'->Q .next s') :
 wpAny (model pg w) A (exec (.For (.Name "k" p1) (.Call (.Name "range" p2) [.Call (.Name "max" p3) [.Constant (.int 1) k1 p4, .Call (.Name "min" p5) [.Call (.Name "len" p6) [.Name "script" p7] [] p8, .Constant (.int 2) k2 p9] [] q1] [] q2] [] q3) B55 [] p1) env) Q E s:=by
 obtain⟨sy,fr,hn,ms,⟨e,lX⟩,old,size,os⟩:=hI
 haveI p0:=pkl hsc "script" 0
 haveI pk:=pkl hsc "k" 1
 haveI pr:=pkg hsc "range" 3
 have pM:B3 "max" env.scope.names 0=some (4, .globalImplicit):=by rw[hsc];kernel_rfl
 haveI pm:=pkg hsc "min" 5
 haveI pl:=pkg hsc "len" 6
 refine wpAny_For (B1w g.G cx pr sy rfl (L8 (cv:= .builtin "max") g.G cx pM B7p rfl (λJ=>H6) sy rfl ?_)) (λJ=>rfl)
 rw[J8 rfl,P8]
 refine Z0n (Z1k (Z0n (L8 (s:={s with toks:=s.toks+1}) (cv:= .builtin "min") g.G cx pm C08 rfl (λJ=>H6) sy rfl ?_)))
 rw[J8 rfl,P8]
 refine Z0n (Ie.len (h:=s.heap) g.G cx pl sy rfl lX (by refine Z0c (by assumption) ?_;decide) (λs2 Q E hs q=>A9 cx p0 (by rw[hs];exact hn) ms q) {s with toks:=s.toks+1} _ _ rfl λt2 tk2=>Z0n (Z1k (Z0x (A7z cx.ca.hand λh3 tk3 kp3 z3=>?_))))
 obtain⟨mn,tmn,emn,hmn⟩:∃(mn:Nat) (tmn:Tok),(if (2:Int)<(vs.size:Int) then Value.int 2 tk2 else Value.int (vs.size:Int) t2)= .int (mn:Int) tmn/\mn<=2:=by
  by_cases z:(2:Int)<(vs.size:Int)
  . rw[Z0p z];exact L7 2 _ rfl (Z0g _)
  . rw[Z0m z];exact L7 vs.size _ rfl (by lia)
 refine re emn ?_
 refine Z0x (A8x cx.ca.hand λh4 tk4 kp4 z4=>?_)
 obtain⟨mx,tmx,emx,hmx⟩:∃(mx:Nat) (tmx:Tok),(if (mn:Int)>1 then Value.int (mn:Int) tmn else Value.int 1 s.toks)= .int (mx:Int) tmx/\mx<=2:=by
  by_cases z:(mn:Int)>1
  . rw[Z0p z];exact L7 mn _ rfl hmn
  . rw[Z0m z];exact L7 1 _ rfl (by decide)
 refine re emx ?_
 refine V7 mx tmx rfl (by refine Z0c (by assumption) ?_;decide) (λh5 tk5 kp5 z5 hIt=>?_)
 have kp:∀b o,s.heap.get? b=some o->h5.get? b=some o:=λb o e=>kp5 b o (kp4 b o (kp3 b o e))
 haveI z35:s.heap.objs.size<=h4.objs.size:=Z0c z3 z4
 haveI z05:s.heap.objs.size<=h5.objs.size:=Z0c z35 (Z0o (Z2x z5))
 generalize hI':h4.objs.size+1=I at hIt z5
 have I1:s.heap.objs.size<I:=by rw[<-hI'];exact Z2y z35
 have iL:I≠env.locals:=Z0q (Z1f (A0o fr (F2 cx.frame)) I1)
 haveI iF:I∉frs fs:=λq=>absurd (Z1f (A0o fr (F5 q)) I1) (Z1e _)
 have iB:A0.get? I=none:=by
  cases q:A0.get? I with
  |none=>rfl
  |some o=>exact absurd (Z1f (Z0i (sy _ _ q)) I1) (Z1e _)
 haveI iX:X≠I:=Z0k (Z1f (Z0i lX) I1)
 -- what a walk of the iterator leaves
 have mv:∀{s5:Shared} {m5:Str->Option Value} {h':Heap} {tk:Nat},LawI og A0 env fs X vs s.heap m5 s5->(∀b o,b∉ [I]->s5.heap.get? b=some o->h'.get? b=some o)->s5.heap.objs.size<=h'.objs.size->LawI og A0 env fs X vs s.heap m5 {s5 with heap:=h',toks:=tk}:=by
  intro s5 m5 h' tk q'2 hk hz;rcases q'2 with⟨a1,a2,a3,a4,q'3,a6,a7,a8⟩
  refine P6 q'3 λae a5=>?_;have nI:∀{b:Addr},b≠I->b∉ [I]:=λh q=>h (Z0s.mp q);refine⟨λb o e=>hk b o (nI λq=>by rw[q,iB] at e;exact nn e) (a1 b o e),W7 a2 λe he L hL=>?_,a3.at λo e=>hk _ _ (nI iL.symm) e,a4,⟨ae,hk _ _ (nI iX) a5⟩,λb o e h1 h2=>hk b o (nI (Z0k (Z1f (Z0i e) I1))) (a6 b o e h1 h2),Z0c a7 hz,inferInstance⟩;refine K6 (S6 a2 e he) λL' o e1 e2 e3 e4=>?_;obtain rfl:L'=L:=by rw[e1] at hL;exact Z0a hL
  have hm:L'∈frs (env :: fs):=Z2h.mpr ⟨e,he,e1⟩;exact A6 o (hk _ _ (nI λq=>absurd (Z1f (A0o fr hm) I1) (by rw[q];exact Z1e _)) e3) e4
 have I0:LawI og A0 env fs X vs s.heap m {s with heap:=h5,toks:=tk5}:=
  ⟨λb o e=>kp _ _ (sy b o e),fr.of_keeps λb o e J=>⟨o,kp b o e,rfl⟩,hn.keeps kp,ms,⟨e,kp _ _ lX⟩,λb o e J J=>kp b o e,z05,inferInstance⟩
 refine A68 (PySem.Walks.range cx.ca.hand I 0 1 mx) (λj s'=>∃m',LawI og A0 env fs X vs s.heap m' s') ?_ ?_ mx 0 _ (Z2j _) ⟨m,I0⟩ hIt
 . intro j s5 cv h' tk hj q'4 q'5 st' hk hz
   refine P6 q'4 λm5 i5=>?_
   refine P6 q'5 λt q'6=>?_
   clear q'5
   subst q'6
   haveI i6:=mv (tk:=tk) i5 hk hz
   haveI ei:(0+(j:Int) * 1)=(Int.ofNat j):=by show _=(j:Int);lia
   refine re ei ?_
   obtain⟨a1,a2,a3,a4,⟨ae,a5⟩,a6,a7,a8⟩:=i6
   refine A7 (G6 pk) λJ J ek=>?_
   refine Z1w ek a3 (λh7 hn7 sb7=>?_) (by rw[cx.kind];rfl)
   haveI st7:=(St.none (Θ:=ΘE) a1 a2).store cx.frame hn7 sb7
   have XL:X≠env.locals:=λz=>hX (z▸F2 cx.frame)
   have i7:LawI og A0 env fs X vs s.heap (λy=>if y=Str.ofString "k" then some (.int (Int.ofNat j) t) else m5 y) {s5 with heap:=h7,toks:=tk+1}:=
    ⟨st7.stays,st7.frames,hn7,(Z0m (by decide)).trans a4,⟨ae,(sb7.2 X XL).trans a5⟩,λb o e h1 h2=>(sb7.2 b h1).trans (a6 b o e h1 h2),Z0c a7 (Z0z sb7.1.symm),inferInstance⟩
   refine Z1c (D0f (s:={s5 with heap:=h7,toks:=tk+1}) g cx hsc hint hsz lo hX (by lia) (Z0p rfl) i7) (λf s8 h8=>?_) λJ J z=>z
   refine A7 h8 λq'8 i8 k8=>?_
   clear h8
   subst q'8
   exact⟨rfl,i8,k8 _ _ ((sb7.2 I iL).trans st') iL iF⟩
 . rintro s5 h' tk ⟨m5,i5⟩ hk hz
   exact q _ m5 (mv i5 hk hz)
theorem C99[Og s og]{X:Nat}{vs:Array Value}{e:Nat}(g:Ground og w gv mg mb A0 pc K D U){f0:Addr}(r0:FnRaw gv cc0 K (A4 0) [0] [] f0)(ca:CA D U (NP+4) A fs)(sy:A0.StaysIn s.heap)(fr:s.heap.FunFrames A0 fs)(lX:IsL s.heap X vs e)(hint:∀(j:Nat) v,vs[j]?=some v->∃i t,v=Value.int i t)(hsz:vs.size<=63)(lo:A0.get? X=none)(hX:X∉frs fs)
 (k:∀s',(∀b o,s.heap.get? b=some o->b∉frs fs->s'.heap.get? b=some o)->∀ [Og s' og],R (.ok (.ret (.bool true))) s'):codeAny (model pg w) A (.call (.ref f0) ⟨[.ref X],[]⟩) R s:=by
 have st:St gv an0 A0 (ΘE.set 0 X X ⟨[],[],λJ=>0,vs.toList,0,λJ=>0,λJ=>0⟩) (HE.new (.log [])) fs s.heap:=by
  haveI nw:=Th.set_new ΘE 0 X X ⟨[],[],λJ=>0,vs.toList,0,λJ=>0,λJ=>0⟩;refine(St.none sy fr).adopt (Θ:=ΘE) (a:=X) (g:=⟨[],[],λJ=>0,vs.toList,0,λJ=>0,λJ=>0⟩) (o:= .log []) (Z1y _) (Z0i lX) lo hX (λi hi=>absurd hi (Z0y i)) (by show 0+0<=D4;decide) rfl ?_;refine⟨vs,e,[],?_,?_,trivial,?_⟩
  . show IsL s.heap ((ΘE.set 0 X X _).a 0) vs e;rw[nw.1];exact lX
  . show vs.toList=((ΘE.set 0 X X _).gh 0).front ++ [];rw[nw.2.2,List.append_nil]
  . show((ΘE.set 0 X X _).gh 0).front.length<=_;rw[nw.2.2];show vs.toList.length<=_;rw[Array.length_toList];refine Z0c (by assumption) ?_;decide
 have hn1:(HE.new (.log [])).n=1:=rfl
 refine N6 (n:=NP+3) g.G g.hD r0 (vs:= [.ref 0]) (l:= [(0, .ref 0)]) rfl ca st ⟨⟨by rw[hn1];decide,by rw[(Th.set_new ΘE 0 X X _).1]⟩,trivial⟩ λenv h₀ tk0 J hsc cx at' kp e3=>?_
 obtain⟨st',m,hn,F⟩:=at'
 refine D6 (F 0 "script" .local (.ref 0) (gk hsc) rfl) λJ m1 J q'10=>?_
 subst q'10
 haveI XL:X≠env.locals:=by rw[e3];exact Z0k (Z0i lX)
 have I0:LawI og A0 env fs X vs h₀ m {s with heap:=h₀,toks:=tk0}:=⟨st'.stays,st'.frames,hn,m1,⟨e,kp _ _ lX⟩,λb o e J J=>e,Z0g _,inferInstance⟩
 conv=>arg 3;arg 1;whnf
 refine Z0j (D04 (s:={s with heap:=h₀,toks:=tk0}) g cx hsc hint hsz lo (F3 cx.frame XL hX) I0 λs5 m5 i5=>?_)
 refine Z0j (Z1u ?_)
 haveI os:=i5.os
 exact Z0f (k s5 λb o e h1=>i5.old b o (kp b o e) (by rw[e3];exact Z0k (Z0i e)) h1)
end
noncomputable def A5k(h:Heap)(n:Nat):Frag:=Nat.rec (motive:=λJ=>Frag) [] (λn ih=>(h.get? n).elim ih λo=>(n,o) :: ih) n
def C4(h:Heap):Frag:=A5k h h.objs.size
theorem C8k{a n:Nat}(q:a≠n):(a<n) ↔ a<n+1:=⟨Z2a,λh=>Nat.lt_of_le_of_ne (Nat.le_of_lt_succ h) q⟩
theorem B84(h:Heap)(a:Nat)(n:Nat):(A5k h n).lookup a=if a<n then h.get? a else none:=by
 induction n with
 |zero=>rfl
 |succ n ih=>
  show List.lookup a ((h.get? n).elim (A5k h n) λo=>(n,o) :: A5k h n)=_;by_cases q:a=n
  . subst q;rw[Z0p (Z0v a)];cases e:h.get? a with
    |none=>exact ih.trans (Z0m (Z1e a))
    |some o=>exact(List.lookup_cons ..).trans (by rw[beq_self_eq_true])
  . refine Eq.trans ?_ (ih.trans (ite_congr (propext (C8k q)) (λJ=>rfl) λJ=>rfl));cases h.get? n with
    |none=>rfl
    |some o=>exact(List.lookup_cons ..).trans (by rw[beq_eq_false_iff_ne.mpr q])
theorem M1(h:Heap)(a:Addr):(C4 h).lookup a=h.get? a:=by
 refine(B84 h a h.objs.size).trans ?_;by_cases q:(show Nat from a)<h.objs.size
 . exact Z0p q
 . exact(Z0m q).trans (Heap.get?_none_of_le (Nat.le_of_not_lt q)).symm
theorem C31(h:Heap):(C4 h).In h:=λa o e=>by rw[M1] at e;exact e
theorem D3n{α:Type}{f:Row->Nat->Option α}{k:Nat}{x:α}{l:List (Row × Nat)}(hl:∀p∈l,p.2+1<2 ^ 40)(h:BtG (ofL l f) (k+1)=some x):∃r,(r,k)∈l/\f r k=some x:=by
 induction l with
 |nil=>exact nn h
 |cons p l ih=>
  have ih:BtG (ofL l f) (k+1)=some x->∃r,(r,k)∈p :: l/\f r k=some x:=λh=>(ih (λp hp=>hl p (.tail _ hp)) h).elim λr q=>⟨r, .tail _ q.1,q.2⟩;change BtG (match f p.1 p.2 with | some x=>BtS (ofL l f) (p.2+1) x | none=>ofL l f) (k+1)=some x at h
  cases e:f p.1 p.2 with
  |none=>rw[e] at h;exact ih h
  |some y=>
   rw[e,A6g y _ _ _ (Nat.succ_pos _) (hl p (.head _)) (Nat.succ_pos _)] at h;by_cases q:k+1=p.2+1
   . rw[Z0p q] at h;exact⟨p.1,Nat.succ.inj q▸ .head _,Nat.succ.inj q▸e.trans h⟩
   . rw[Z0m q] at h;exact ih h
theorem C3d:Nat.blt B5.length 1000=true:=rfl
theorem A10{α:Type}{f:Row->Nat->Option α}{k:Nat}{x:α}(h:BtG (ofL B5.zipIdx f) (k+1)=some x):∃r,B5[k]?=some r/\f r k=some x:=by
 refine(D3n (λp hp=>?_) h).elim λr q=>⟨r,List.mem_zipIdx_iff_getElem?.mp q.1,q.2⟩;exact Z0t (Z0c (List.snd_lt_of_mem_zipIdx hp) (Z0o (Z0l C3d))) (by decide)
theorem B3y{mg:Str->Option Value}{k:Nat}{v:Value}(h:J7 mg k=some v):∃x a,A0a[k]?=some x/\mg x=some (.ref a)/\v= .ref a:=by
 refine A1 (bi h) λx e h=>A1 (bi h) λc e2 h=>A1 (mi h) λa e3 h=>?_;exact V7 x a e (e2.trans (congrArg some (B4l e3))) h.symm
theorem B0t{mg:Str->Option Value}{k:Nat}{x:Str}{a:Addr}(h1:A0a[k]?=some x)(h2:mg x=some (.ref a)):J7 mg k=some (.ref a):=by
 unfold J7;rw[h1,Option.bind_some,h2];rfl
theorem C9h{k:Nat}{r:Row}(h:B5[k]?=some r):A0a[k]?=some (Mine.E6 r.k):=by
 unfold A0a;rw[Z1v,h];rfl
def hN:Nat:=(A1v (bnd 12)).1
noncomputable def B37(o:Obj):Bool:=match o.data with | .freed=>false | _=>true
theorem C38{o:Obj}(h:B37 o=true):alive o=some o:=by
 obtain⟨c,d,x,s⟩:=o;cases x <;> first | rfl | exact ff h
theorem A0j{P:Params}{a:Nat}{o:Obj}(lt:Nat.blt a hN=true)(g:(Q4 P 12).get a=some o)(h:B37 o=true):(HF P).get? a=some o:=
 (abs_get (Z0l lt) g).trans (C38 h)
def A0y:List Fp:=B2.flatMap (fps B2)
theorem B9z(P:Params):A0y.map (λf=>((Q4 P 12).get f.a,(Q4 P 12).get f.n,(Q4 P 12).get f.c))=A0y.map λf=>(some f.fn,some (N4 f.dv),some f.co):=by kernel_rfl
theorem A58{c:Value}{x:Str}(h:A0k c=some x):∃t,c= .str x t:=by cases c <;> first | exact nn h | exact⟨_,congrArg (Value.str · _) (Z0a h)⟩ | exact⟨_,congrArg (Value.int · _) (Z0a h)⟩
theorem B7r{c:Value}{x:Int}(h:A24 c=some x):∃t,c= .int x t:=by cases c <;> first | exact nn h | exact⟨_,congrArg (Value.str · _) (Z0a h)⟩ | exact⟨_,congrArg (Value.int · _) (Z0a h)⟩
noncomputable def B3j:Value->Option Bool
 | .bool x=>some x
 |_=>none
theorem C14{c:Value}{x:Bool}(h:B3j c=some x):c= .bool x:=by cases c <;> first | exact nn h | exact congrArg Value.bool (Z0a h)
noncomputable def B8k:Value->Option Bool
 | .none=>some true
 |_=>none
theorem D2m{c:Value}(h:B8k c=some true):c= .none:=by cases c <;> first | rfl | exact nn h
def vrB(v:V)(c:Value):Bool:=tr ((E5 v λs=>(A0k c).map λx=>teq s x.cps.toList).or ((D7 v λi=>(A24 c).map (ieq i)).or ((A1u v λa=>(B3j c).map λb=>a==b).or (A19 v (B8k c)))))
noncomputable def A45(l:List V):List Value->Bool:=List.rec (motive:=λJ=>List Value->Bool) (λr=>r.isEmpty) (λv J ih r=>List.rec (motive:=λJ=>Bool) false (λc r J=>vrB v c&&ih r) r) l
theorem B5i{gv:Nat->Option Value}{Θ:Th}{n:Nat}{v:V}{c:Value}(h:vrB v c=true):VR gv Θ n v c:=by
 refine(or2 (I9 h)).elim (λh=>O3 h λs h=>?_) λh=>(or2 h).elim (λh=>J4 h λi h=>?_) λh=>(or2 h).elim (λh=>A9l h λb h=>?_) λh=>A86 h λh=>D2m h
 . refine A1 (mi h) λx e h=>P6 (A58 e) λt e=>⟨t,?_⟩;rw[e,of_decide_eq_true ((J1 _ _).symm.trans h)];rfl
 . exact A1 (mi h) λx e h=>P6 (B7r e) λt e=>⟨t,by rw[e,of_decide_eq_true ((P9 _ _).symm.trans h)]⟩
 . exact A1 (mi h) λx e h=>(C14 e).trans (congrArg Value.bool (beq_iff_eq.mp h).symm)
theorem B7i{gv:Nat->Option Value}{Θ:Th}{n:Nat}{l:List V}{r:List Value}(h:A45 l r=true):VRs gv Θ n l r:=by
 induction l generalizing r with
 |nil=>cases r with
  |nil=>exact trivial
  |cons _ _=>exact ff h
 |cons v l ih=>cases r with
  |nil=>exact ff h
  |cons c r=>exact⟨B5i (Z1j.mp h).1,ih (Z1j.mp h).2⟩
theorem B9b:(A0y.all λf=>(Nat.blt f.a hN&&Nat.blt f.n f.a&&Nat.blt f.c f.a)&&match V0 cc0 f.r.params.defaults with | some l=>A45 l f.dv | none=>true)=true:=by kernel_rfl
inductive FnIs(h:Heap)(r:FnRec)(q:Str)(a:Addr):Prop
 |mk (pm:Value) (c:Addr) (dv:List Value) (n:Addr) (x1:h.get? a=some {cls:= .type "function",data:= .func (defFd r.name q r.params r.body r.scope mainGlobals (match dv with | []=> .none | _=> .ref n) .none none pm (.ref c) .none)}) (x2:h.get? n=some (N4 dv)) (x3:codeIn (C4 h) (.ref c) q=true) (x4:∀l,V0 cc0 r.params.defaults=some l->A45 l dv=true)
theorem A4a{P:Params}{f:Fp}(h:f∈A0y):FnIs (HF P) f.r f.q f.a:=by
 haveI e:=List.map_inj_left.mp (B9z P) f h;haveI l:=Z1n.mp B9b f h;simp only[Bool.and_eq_true,Prod.mk.injEq] at l e;obtain⟨⟨⟨l1,l2⟩,l3⟩,l4⟩:=l;refine A7 e λe1 e2 e3=>?_;haveI lt:∀{n},Nat.blt n f.a=true->Nat.blt n hN=true:=λh=>Z2m (Z1f (Z0l h) (Z0l l1));refine⟨_,_,_,_,A0j l1 e1 rfl,A0j (lt l2) e2 rfl,?_,λl q=>by rw[q] at l4;exact l4⟩;unfold codeIn;dsimp only;rw[M1,A0j (lt l3) e3 rfl];exact beq_self_eq_true f.q
theorem FnIs.type{h:Heap}{r:FnRec}{q:Str}{a:Addr}(x:FnIs h r q a):typeIn (C4 h) (.ref a)=some (.type "function"):=by
 obtain⟨pm,c,dv,n,e1,_⟩:=x;unfold typeIn;dsimp only;rw[M1,e1];rfl
theorem B4x{h:Heap}{r:FnRec}{q:Str}{a:Addr}{ps:List Nat}{df:List V}{gv:Nat->Option Value}(x:FnIs h r q a)(hc:Sig cc0 r ps df):FnRaw gv cc0 (C4 h) r ps df a:=by
 obtain⟨pm,c,dv,n,e1,e2,e3,e4⟩:=x;refine⟨q,pm,c, .none,_,dv,(by rw[M1];exact e1),hc,?_,λΘ n=>B7i (e4 _ hc.df),e3⟩;cases dv with
 |nil=>exact .inl ⟨rfl,rfl⟩
 |cons v dv=>exact .inr ⟨List.cons_ne_nil _ _,n,rfl,by rw[M1];exact e2⟩
theorem B5u{h:Heap}{r:FnRec}{q:Str}{a:Addr}{f:Fn}{gv:Nat->Option Value}(x:FnIs h r q a)(hc:cFn cc0 r=some f):FnOk gv cc0 (C4 h) f a:=by
 refine A9w (B7j hc) λc1 c2 c3 c4 c5 c6 c7=>?_;obtain⟨qual,pm,c,doc,dV,dvs,hK,_,hdv,hVd,hcode⟩:=B4x (gv:=gv) x ⟨c1,c2,A72 c3,c4,c5,c6⟩;exact⟨r,qual,pm,c,doc,dV,dvs,hK,hc,hdv,hVd,hcode⟩
abbrev mgF(P:Params):Str->Option Value:=(HF P).nsMap mainGlobals
abbrev mbF(P:Params):Str->Option Value:=(HF P).nsMap builtinsNs
def O7(P:Params)(r:Row):List DictEntry:=match r.k with | .cl _ bases _ _ pos=>B11 P (fps B2 r) r (A23 bases) pos | _=> []
def B0q(r:Row):Nat:=match r.k with | .cl _ bases _ _ _=>A23 bases | _=>0
def A6r(r:Row):Obj:=A69 B2 r (K4 B2 (B1 r) 119 B2)
def B1p(P:Params)(r:Row):List (Option Obj):=match r.k with
 | .cl _ _ _ _ _=> [(Q4 P 12).get (B1 r),(Q4 P 12).get (B1 r - 1)]
 | .tup _ _=> [(Q4 P 12).get r.n]
 | .dict _ _ _=> [(Q4 P 12).get r.n]
 |_=> []
def B4v(P:Params)(r:Row):List (Option Obj):=match r.k with
 | .cl _ _ _ _ _=> [some (A6r r),some (A0w (O7 P r) (B0q r))]
 | .tup _ es=> [some (N4 (evs B2 es r.t).1)]
 | .dict _ _ _=> [some (A9e P (kvR B2 r))]
 |_=> []
theorem C3x(P:Params):B5.map (λr=>(mgF P (Mine.E6 r.k),B1p P r))=B5.map λr=>(some (W3 B2 r),B4v P r):=by kernel_rfl
noncomputable def A1t(e:DictEntry):Str:=(A0k e.key).getD Str.empty
noncomputable def isS(e:DictEntry):Bool:=(A0k e.key).isSome
theorem B0g{e:DictEntry}(h:isS e=true):∃t,e.key= .str (A1t e) t:=by
 unfold A1t;refine(Z3y.mp h).elim λx q=>(A58 q).elim λt z=>⟨t,?_⟩;rw[q,z];rfl
def cvB(c:Const)(v:Value):Bool:=tr (((A3y c).bind λs=>(A0k v).map (sq s)).or ((A7d c).bind λi=>(A24 v).map (ieq i)))
theorem D4s{c:Const}{v:Value}(h:cvB c v=true):c.Val v:=by
 refine(or2 (I9 h)).elim (λh=>?_) λh=>?_
 . refine A1 (bi h) λs e h=>A1 (mi h) λx e2 h=>P6 (A58 e2) λt e2=>?_;rw[B5l e,e2];exact⟨t,by rw[Fast.sEq_iff.mp h]⟩
 . refine A1 (bi h) λs e h=>A1 (mi h) λx e2 h=>P6 (B7r e2) λt e2=>?_;rw[D5n e,e2];exact⟨t,by rw[of_decide_eq_true ((P9 _ _).symm.trans h)]⟩
noncomputable def kvB(l:List (Str × Nat × Value)):List (Str × Const)->Bool:=List.rec (motive:=λJ=>List (Str × Const)->Bool) (λr=>r.isEmpty) (λa J ih r=>List.rec (motive:=λJ=>Bool) false (λb r J=>(sq a.1 b.1&&cvB b.2 a.2.2)&&ih r) r) l
def isRefIn(v:Value)(l:List Fp):Bool:=l.any λf=>v == .ref f.a
def A3a(P:Params)(r:Row):Bool:=match r.k with
 | .fn _=>(match fps B2 r with | [f]=>Nat.beq f.a (r.n' - 1) | _=>false)
 | .cl _ _ _ _ _=>Nat.blt (B1 r) hN&&(O7 P r).all λe=>isS e&&(A9g.contains (A1t e)||isRefIn e.val (fps B2 r))
 | .tup _ es=>Nat.blt r.n hN&&A45 ((evs B2 es r.t).1.map λv=> .str (B7s v).cps.toList) (evs B2 es r.t).1
 | .dict _ ks vs=>Nat.blt r.n hN&&Nat.blt sysModules r.n&&K8 ((kvR B2 r).map (·.1))&&kvB (kvR B2 r) (A7y ks vs)
 | .val _ _=>true
 |_=>false
theorem D12(P:Params):(B5.all (A3a P))=true:=by kernel_rfl
theorem C3m{l:List (Str × Nat × Value)}{r:List (Str × Const)}(h:kvB l r=true):Kvs (l.map λe=>(e.1,e.2.2)) r:=by
 induction l generalizing r with
 |nil=>cases r with
  |nil=>exact trivial
  |cons _ _=>exact ff h
 |cons a l ih=>cases r with
  |nil=>exact ff h
  |cons b r=>
   obtain⟨h,h3⟩:=Z1j.mp h;obtain⟨h1,h2⟩:=Z1j.mp h;exact⟨⟨Fast.sEq_iff.mp h1,D4s h2⟩,ih h3⟩
theorem D65{w:World}{h:Heap}{a:Addr}{l:List (Str × Nat × Value)}(e:h.get? a=some (A9e w.params l))(nd:K8 (l.map (·.1))=true):h.DictOf (strKind pg w) a (l.map λe=>(e.1,e.2.2)):=by
 refine A34 _ _ _ e ⟨rfl,rfl,rfl⟩ rfl (λx hx=>?_) (?_) (?_)
 . rw[List.mem_toArray] at hx;refine A1 (Z2q.mp hx) λp J q'1=>?_;subst q'1;exact A6 p.1 (Z4a pg w _ _) rfl
 . clear nd e;induction l with
   |nil=>exact .nil
   |cons p l ih=>exact .cons (Z4a pg w _ _) rfl ih
 . refine re Z3w ?_;exact A3k nd
theorem A3e{r:Row}(h:r∈B5):r∈B2/\A90 r.k=true:=Z3s.mp (List.mem_reverse.mp h)
theorem B2p{r:Row}(h:r∈B2)(hc:isC r=true):r∈B5:=by
 refine List.mem_reverse.mpr (Z3s.mpr ⟨h,?_⟩);obtain⟨k,n,t,n',t',pm⟩:=r;cases k <;> first | rfl | exact ff hc
theorem A5p{r:Row}{f:Fp}(h:r∈B2)(hf:f∈fps B2 r):f∈A0y:=List.mem_flatMap.mpr ⟨r,h,hf⟩
section
variable{P:Params}{r:Row}{k:Nat}
theorem A0n(h:r∈B5):mgF P (Mine.E6 r.k)=some (W3 B2 r)/\B1p P r=B4v P r:=Prod.mk.inj (List.map_inj_left.mp (C3x P) r h)
theorem A9o(h:r∈B5):A3a P r=true:=Z1n.mp (D12 P) r h
theorem Q8(h:B5[k]?=some r):r∈B5:=Z1p h
theorem A03(h:B5[k]?=some r){a:Addr}(hv:W3 B2 r= .ref a):J7 (mgF P) k=some (.ref a):=B0t (C9h h) (hv▸(A0n (Q8 h)).1)
theorem A4g(hc:isC r=true):W3 B2 r= .ref (B1 r):=by
 obtain⟨k,n,t,n',t',pm⟩:=r;cases k <;> first | rfl | exact ff hc
theorem B6t{f:FnRec}(h:r∈B5)(hk:r.k= .fn f):∃a,W3 B2 r= .ref a/\FnIs (HF P) f f.name a:=by
 haveI ok:=A9o (P:=P) h;have hr:=(A3e h).1;obtain⟨k,n,t,n',t',pm⟩:=r;cases (hk:k=_);exact A6 (n' - 1) rfl (Z0e ok▸A4a (A5p hr (.head _)))
theorem A1b(h:r∈B5)(hc:isC r=true):(HF P).get? (B1 r)=some (A6r r)/\(HF P).get? (B1 r - 1)=some (A0w (O7 P r) (B0q r))/\∀e∈O7 P r,isS e=true/\(A9g.contains (A1t e)=true\/isRefIn e.val (fps B2 r)=true):=by
 haveI ok:=A9o (P:=P) h;have e2:=(A0n (P:=P) h).2;obtain⟨k,n,t,n',t',pm⟩:=r;cases k <;> first | (cases hc;done) | skip
 unfold A3a at ok;rw[Bool.and_eq_true] at ok;obtain⟨l1,l2⟩:=ok;refine⟨A0j l1 (Z2c e2).1 rfl,A0j (Z2m (Z0t (Nat.sub_le _ 1) (Z0l l1))) (Z2c (Z2c e2).2).1 rfl,λe he=>?_⟩;haveI:=Z1n.mp l2 e he;rw[Bool.and_eq_true,Bool.or_eq_true] at this;exact this
theorem B3v{x:Str}{l:List Row}(h:Mine.find x l=some r):r∈l:=List.mem_of_find?_eq_some h
theorem B36{r:Row}{b:List Expr}(h:clB r.k=some b):isC r=true:=congrArg Option.isSome h
theorem C40{b:Row}(f:Nat)(bases:List Expr)(h:b∈(chain B2 f bases).1):b∈B5/\isC b=true:=by
 induction f generalizing bases with
 |zero=>exact nomatch h
 |succ f ih=>
  have h:b∈((on1 bases λb=>I8 b λx J=>some x).elim ([],false) λx=>(Mine.find x B2).elim ([],true) λr=>(clB r.k).elim ([],false) λbases=>let c:=chain B2 f bases;(r :: c.1,c.2)).1:=h
  generalize (on1 bases λb=>I8 b λx J=>some x)=o at h;cases o with
  |none=>exact nomatch h
  |some x=>
   rw[Option.elim_some] at h;cases e2:Mine.find x B2 with
   |none=>rw[e2] at h;exact nomatch h
   |some r=>
    rw[e2,Option.elim_some] at h;cases e3:clB r.k with
    |none=>rw[e3] at h;exact nomatch h
    |some bs=>
     rw[e3] at h;exact(List.mem_cons.mp h).elim (λq=>q▸⟨B2p (B3v e2) (B36 e3),B36 e3⟩) (ih _)
theorem A42{b:Row}(h:r∈B5)(hc:isC r=true)(hb:b∈r :: chR r):b∈B5/\isC b=true:=by
 rcases List.mem_cons.mp hb with rfl | hb
 . exact⟨h,hc⟩
 . unfold chR at hb;split at hb
   . exact C40 _ _ hb
   . cases hb
def A0r(P:Params)(l:List Row):List DictEntry:=l.flatMap (O7 P)
theorem A14(hc:isC r=true):∃bs sl,A6r r=⟨.type "type",none, .cls ⟨Mine.E6 r.k,bs,P5 (r :: chR r) ++ T5 (M7 r),B1 r - 1,Mine.E6 r.k,true,[],K4 B2 (B1 r) 119 B2,false,none,false⟩,sl⟩/\sl[4]?=some (some (.builtin (B5r (M7 r)))):=by
 obtain⟨k,n,t,n',t',pm⟩:=r;cases k <;> first | (cases hc;done) | skip
 exact L7 _ _ rfl rfl
theorem B4r{K:Frag}{name:Str}{c:Value}{r:List Value}:alongIn K name (c :: r)=(match ownIn K name c with | some (some v)=>some (some v) | some none=>alongIn K name r | none=>none):=by
 conv=>lhs;unfold alongIn
 cases ownIn K name c with
 |none=>rfl
 |some o=>cases o <;> rfl
theorem C17{name:Str}(h:r∈B5)(hc:isC r=true):ownIn (C4 (HF P)) name (.ref (B1 r))=some (((O7 P r).find? λe=>e.key.isStr name).map (·.val)):=by
 refine A7 (A1b (P:=P) h hc) λg1 g2 g3=>?_;refine B4 (A14 hc) λbs sl e J=>?_;unfold ownIn;dsimp only;rw[M1,g1,e];show nsIn _ (B1 r - 1) name=_;unfold nsIn;rw[M1,g2];show(match (O7 P r).find? (·.key.isStr name) with | some e=>some (some e.val) | none=>if (O7 P r).any (·.refKey) then none else some none)=_
 cases (O7 P r).find? (·.key.isStr name) with
 |some e=>rfl
 |none=>
  rw[Z5i.mpr λe he q=>?_];rfl;obtain⟨_,e1⟩:=B0g (g3 e he).1;unfold DictEntry.refKey at q;rw[e1] at q;exact ff q
theorem B6o{name:Str}{tail:List Value}:∀{l:List Row},(∀b∈l,b∈B5/\isC b=true)->alongIn (C4 (HF P)) name (P5 l ++ tail)=match (A0r P l).find? (λe=>e.key.isStr name) with | some e=>some (some e.val) | none=>alongIn (C4 (HF P)) name tail
 | [],_=>rfl
 |b :: l,h=>by
  show alongIn _ _ (.ref (B1 b) :: (P5 l ++ tail))=_;rw[B4r,C17 (h b (.head _)).1 (h b (.head _)).2,B6o λx hx=>h x (.tail _ hx),show A0r P (b :: l)=O7 P b ++ A0r P l from List.flatMap_cons ..,List.find?_append];cases (O7 P b).find? λe=>e.key.isStr name <;> rfl
noncomputable def A37(exc:Bool)(name:Str):Option Value:=match exc with
 |false=>fastBuiltinOwn "object" name
 |true=>(fastBuiltinOwn "Exception" name).or ((fastBuiltinOwn "BaseException" name).or (fastBuiltinOwn "object" name))
theorem B83{K:Frag}{name:Str}{exc:Bool}:alongIn K name (T5 exc)=some (A37 exc name):=by
 have a:∀{n:String} {l:List Value},alongIn K name (.type n :: l)=match fastBuiltinOwn n name with | some v=>some (some v) | none=>alongIn K name l:=by
  intro n l;rw[B4r,show ownIn K name (.type n)=some (fastBuiltinOwn n name) from rfl];cases fastBuiltinOwn n name <;> rfl
 cases exc
 . exact a.trans (by unfold A37;cases fastBuiltinOwn "object" name <;> rfl)
 . refine a.trans ?_;unfold A37;cases fastBuiltinOwn "Exception" name with
   |some v=>rfl
   |none=>
    refine a.trans ?_;cases fastBuiltinOwn "BaseException" name with
    |some v=>rfl
    |none=>exact a.trans (by cases fastBuiltinOwn "object" name <;> rfl)
def fnd(P:Params)(r:Row)(name:Str):Option Value:=(((A0r P (r :: chR r)).find? λe=>e.key.isStr name).map (·.val)).or (A37 (M7 r) name)
theorem B1n{name:Str}(h:r∈B5)(hc:isC r=true):findIn (C4 (HF P)) (.ref (B1 r)) name=some (fnd P r name):=by
 refine B4 (A14 hc) λbs sl e J=>?_;unfold findIn;dsimp only;rw[M1,(A1b h hc).1,e];show alongIn _ name (P5 (r :: chR r) ++ T5 (M7 r))=_;rw[B6o λb hb=>A42 h hc hb,B83];unfold fnd;cases (A0r P (r :: chR r)).find? λe=>e.key.isStr name <;> rfl
end
noncomputable def bIs(o:Option Value)(s:String):Bool:=o==some (.builtin s)
theorem B4f{o:Option Value}{s:String}(h:bIs o s=true):o=some (.builtin s):=eq_of_beq h
def clsB(P:Params)(r:Row):Bool:=bIs (fnd P r "__getattribute__") "object.__getattribute__" && ((fnd P r "__getattr__").isNone&&(bIs (fnd P r "__setattr__") "object.__setattr__" && (bIs (fnd P r "__class__") "object.__class__" && ((A28 r||bIs (fnd P r "__init__") "object.__init__") &&
 (B22 r).all λp=>fnd P r p.r.name==some (.ref p.a)))))
def pairB(r:Row):Bool:=B5.zipIdx.all λp=>M3 p.2 (X9 r)==(isC p.1&&(r :: chR r).any λb=>Nat.beq (B1 b) (B1 p.1))
theorem C01:(B5.all λr=> !(isC r)||pairB r)=true:=by kernel_rfl
theorem C2r(P:Params):(B5.all λr=> !(isC r)||(M7 r||clsB P r))=true:=by kernel_rfl
theorem C18:(S7.all λx=> !A9g.contains x&&(E0 x B44||(fastBuiltinOwn "object" x).isNone))=true:=by kernel_rfl
theorem C2t:fastLookup "type" "__call__" = some (some (.builtin "type.__call__")):=rfl
theorem C80:(fastBuiltinMro "type").map (·.contains (.type "type"))=some true:=rfl
theorem B2d:B9 (Str.ofString "__init__") S7 0=some 12:=rfl
theorem B12{l:List Row}{a:Addr}{t:List Value}(ht:t.contains (.ref a)=false):(P5 l ++ t).contains (.ref a)=l.any λb=>Nat.beq (B1 b) a:=by
 rw[Bool.eq_iff_iff,Z2n,List.mem_append,List.any_eq_true];constructor
 . rintro(h | h)
   . refine A1 (Z2q.mp h) λb hb e=>?_;injection e with e
     exact A6 b hb (e▸Z3v _)
   . rw[Z2n.mpr h] at ht;cases ht
 . rintro⟨b,hb,e⟩;exact .inl (Z2q.mpr ⟨b,hb,congrArg Value.ref (Z0e e)⟩)
theorem B5o{a:Addr}{e:Bool}:(T5 e).contains (.ref a)=false:=by cases e <;> rfl
theorem B4w:∀l:List Row,onlyObject (P5 l ++ [.type "object"])=true
 | []=>by decide +kernel
 |a :: l=>B4w l
section
variable{P:Params}{r:Row}{k:Nat}{gv:Nat->Option Value}
structure ClsIs(P:Params)(r:Row):Prop where
 cl:∃bs sub,clsIn (C4 (HF P)) (B1 r)=some ⟨Mine.E6 r.k,bs,P5 (r :: chR r) ++ T5 (M7 r),B1 r - 1,Mine.E6 r.k,true,[],sub,false,none,false⟩
 ty:typeIn (C4 (HF P)) (.ref (B1 r))=some (.type "type")
 ins:instIn (C4 (HF P)) (.ref (B1 r)) (.type "type")=some true
 call:specialIn (C4 (HF P)) (.ref (B1 r)) "__call__" = some (some (.builtin "type.__call__"))
 keep:keepIn (C4 (HF P)) (.ref (B1 r))=true
theorem A02(h:r∈B5)(hc:isC r=true):ClsIs P r:=by
 refine B4 (A14 hc) λbs sl e J=>?_;have g:=(A1b (P:=P) h hc).1;rw[e] at g;have ty:typeIn (C4 (HF P)) (.ref (B1 r))=some (.type "type"):=by unfold typeIn;dsimp only;rw[M1,g];rfl
 have call:specialIn (C4 (HF P)) (.ref (B1 r)) "__call__" = some (some (.builtin "type.__call__")):=by unfold specialIn;rw[ty];exact C2t
 refine⟨⟨bs,_,by unfold clsIn;rw[M1,g]⟩,ty,by unfold instIn;rw[ty];exact C80,call,?_⟩;unfold keepIn;dsimp only;rw[M1,g];dsimp only;rw[call];decide +kernel
theorem A75(h:r∈B5)(hc:isC r=true)(v:Value):subIn (C4 (HF P)) (.ref (B1 r)) v=some ((P5 (r :: chR r) ++ T5 (M7 r)).contains v):=by
 refine F9 ((A02 (P:=P) h hc).cl) λbs sub e=>?_;show mroIn _ _ v=_;unfold mroIn;rw[e];rfl
theorem B3u(h:r∈B5)(hc:isC r=true){d:Nat}{b:Row}(hb:B5[d]?=some b):M3 d (X9 r)=(isC b&&(r :: chR r).any λx=>Nat.beq (B1 x) (B1 b)):=by
 haveI x:=Z1n.mp C01 r h;rw[hc,Bool.not_true,Z5d] at x;exact beq_iff_eq.mp (Z1n.mp x (b,d) (List.mem_zipIdx_iff_getElem?.mpr hb))
theorem C20(h:r∈B5)(hc:isC r=true)(he:M7 r=false):clsB P r=true:=by
 haveI x:=Z1n.mp (C2r P) r h;rw[hc,he,Bool.not_true,Z5d,Z5d] at x;exact x
theorem B85{p:Fp}(h:r∈B5)(hc:isC r=true)(hp:p∈A4o r):p∈A0y:=by
 refine A1 (List.mem_flatMap.mp hp) λb hb hp=>?_;exact A5p (A3e (A42 h hc hb).1).1 hp
theorem C2k(h:r∈B5)(hc:isC r=true)(he:M7 r=false)(hi:((msR r).any λp=>Nat.beq p.1 12)=A28 r):ClsOk gv cc0 (C4 (HF P)) ⟨X9 r,msR r⟩ (B1 r):=by
 have x:=C20 (P:=P) h hc he;unfold clsB at x;rw[Bool.and_eq_true,Bool.and_eq_true,Bool.and_eq_true,Bool.and_eq_true,Bool.and_eq_true] at x;refine A0i x λx1 x2 x3 x4 x5 x6=>?_;clear x;have I:=A02 (P:=P) h hc;obtain⟨bs,sub,cin⟩:=I.cl;have find:=λname=>B1n (P:=P) (name:=name) h hc;have bI:∀{name:Str} {s:String},bIs (fnd P r name) s=true->findIn (C4 (HF P)) (.ref (B1 r)) name=some (some (.builtin s)):=λq=>(find _).trans (congrArg some (B4f q));have top:(P5 (r :: chR r) ++ T5 (M7 r)).contains (.type "object")=true:=by rw[Z2n,he];simp[T5]
 refine⟨⟨bI x1,(find _).trans (by rw[Option.isNone_iff_eq_none.mp x2]),bI x3,by rw[cin];rfl,?_,bI x4,(A75 h hc _).trans (congrArg some top)⟩,?_,I.keep,?_,?_,?_⟩
 . unfold plainOver;rw[cin,he];exact B4w (r :: chR r)
 . refine B4 (A14 hc) λbs sl e e4=>?_;have g:=(A1b (P:=P) h hc).1;rw[e] at g;have e4:(sl.toList[4]?).join=some (.builtin "object.__new__"):=by rw[Array.getElem?_toList,e4,he];rfl
   unfold makesIn;rw[M1,g];dsimp only;rw[I.call,I.ins,e4,top,B12 B5o,List.any_cons,Z3v];simp[P5]
 . intro name i f hp hl;refine A1 (Z2h.mp (A71 hl)) λp hp1 hp2=>?_;refine A1 (bi hp2) λj hj hp2=>?_;refine A1 (mi hp2) λf' hf e=>?_;cases e;have en:p.r.name=name:=by
    have a:=(V2 hj).2;rw[(V2 hp).2] at a;exact(Z0a a).symm
   have F:=A4a (P:=P) (B85 h hc ((Z3s.mp hp1).1));have y:=Z1n.mp x6 p hp1;rw[en] at y;exact T9 p.a ((find _).trans (congrArg some (eq_of_beq y))) F.type (B5u F hf)
 . intro name i hp hi12;have hm:name∈S7:=Z1p (V2 hp).2;have a:=Z1n.mp C18 _ hm;rw[Bool.and_eq_true,Bool.not_eq_true',Bool.or_eq_true] at a;have ob:fastBuiltinOwn "object" name=none:=by
    rcases a.2 with z | z
    . have en:name=Str.ofString "__init__" :=(J3 _ _).mp z;subst en;exact absurd (Z0a (B2d.symm.trans hp)).symm hi12
    . exact Option.isNone_iff_eq_none.mp z
   unfold A4r;rw[find];unfold fnd;rw[he];cases q:(A0r P (r :: chR r)).find? λe=>e.key.isStr name with
   |none=>exact .inl (congrArg some ob)
   |some e=>
    refine A1 (List.mem_flatMap.mp (List.mem_of_find?_eq_some q)) λb hb hbe=>?_;obtain⟨hb1,hb2⟩:=A42 h hc hb;obtain⟨c1,c2⟩:=(A1b (P:=P) hb1 hb2).2.2 e hbe;have q:=List.find?_some q;obtain⟨t,c⟩:=B0g c1;rw[c] at q;obtain q:A1t e=name:=beq_iff_eq.mp q;rw[q] at c2;rcases c2 with c2 | c2
    . have:=a.1;rw[c2] at this;exact ff this.symm
    . obtain⟨p,hp1,hp2⟩:=List.any_eq_true.mp c2;exact .inr ⟨p.a,congrArg some ((Option.some_or).trans (congrArg some (eq_of_beq hp2))),(A4a (A5p (A3e hb1).1 hp1)).type⟩
 . intro hl;have hn:A28 r=false:=by
    rw[<-hi,Z5i];intro p hp q;have:∀{l:List (Nat × Fn)},p∈l->lkG 12 l≠none:=by
     intro l;induction l with
     |nil=>exact λh=>nomatch h
     |cons a l ih=>
      intro h z;rw[J6] at z;by_cases w:a.1=12
      . rw[Z0p w] at z;cases z
      . rw[Z0m w] at z;rcases List.mem_cons.mp h with rfl | h
        . exact w (Z0e q)
        . exact ih h z
    exact this hp hl
   rw[hn,Z5d] at x5;exact bI x5
noncomputable def cBt:Value->Option (Bool × String)
 | .builtin a=>some (true,a)
 | .type a=>some (false,a)
 |_=>none
theorem B5w{c:Value}{x:Bool × String}(h:cBt c=some x):c=bif x.1 then .builtin x.2 else .type x.2:=by cases c <;> first | exact nn h | (rw[<-Z0a h];rfl)
noncomputable def nmT(P:Params)(x:Str)(v:V):Bool:=tr ((V1 v λi=>(mgF P x).bind λc=>(A97 c).bind λJ=>(A0a[i]?).map λy=>sq y x).or
 ((A4m v λi=>if (mgF P x).isNone then (mbF P x).bind λc=>(O9 i).bind λd=>(cBt c).bind λa=>(cBt d).map λb=>a.1==b.1&&a.2==b.2 else none).or ((mgF P x).map λc=>vrB v c)))
def nmB(P:Params)(p:Str × V):Bool:= !E0 p.1 A51&&nmT P p.1 p.2
theorem C6l(P:Params):(cc0.glob.all (nmB P))=true:=by kernel_rfl
theorem D7z{x:Str}{v:V}{l:List (Str × V)}(h:lkS x l=some v):(x,v)∈l:=by
 induction l with
 |nil=>exact nn h
 |cons p l ih=>exact(bBo h).elim (λh=>(J3 _ _).mp h.1▸Z0a h.2▸ .head _) λh=> .tail _ (ih h.2)
theorem C41{P:Params}{x:Str}{v:V}(h:nmT P x v=true):(∃cv,mgF P x=some cv/\∀Θ n,VR (J7 (mgF P)) Θ n v cv)\/(mgF P x=none/\∃cv,mbF P x=some cv/\∀Θ n,VR (J7 (mgF P)) Θ n v cv):=by
 refine(or2 (I9 h)).elim (λh=>?_) λh=>(or2 h).elim (λh=>?_) λh=>?_
 . refine W2 h λi h=>A1 (bi h) λc e1 h=>A1 (bi h) λa e2 h=>A1 (mi h) λy e3 h4=>?_;obtain rfl:=B4l e2;exact .inl (A6 _ e1 λJ J=>B0t (by rw[e3,Fast.sEq_iff.mp h4]) e1)
 . refine A4u h λi h=>A8 (ift h) λz h=>A1 (bi h) λc e1 h=>A1 (bi h) λd e2 h=>A1 (bi h) λa e3 h=>A1 (mi h) λb e4 h=>?_;obtain⟨q1,q2⟩:=Z1j.mp h;refine .inr ⟨Option.isNone_iff_eq_none.mp z,A6 c e1 λJ J=>e2.trans ?_⟩;rw[B5w e3,B5w e4,beq_iff_eq.mp q1,beq_iff_eq.mp q2]
 . exact A1 (mi h) λc e h=> .inl (A6 c e λJ J=>B5i h)
theorem D7k{x:Str}{v:V}(e:lkS x cc0.glob=some v):(x==Str.ofString "__debug__")=false/\((∃cv,mgF P x=some cv/\∀Θ n,VR (J7 (mgF P)) Θ n v cv)\/(mgF P x=none/\∃cv,mbF P x=some cv/\∀Θ n,VR (J7 (mgF P)) Θ n v cv)):=by
 obtain⟨h1,h2⟩:=Z1j.mp (Z1n.mp (C6l P) _ (D7z e));rw[Bool.not_eq_true'] at h1;exact⟨beq_eq_false_iff_ne.mpr λq=>Z0u (h1.symm.trans ((J3 _ _).mpr q)),C41 h2⟩
theorem C5k(P:Params):((HF P).isNs cStatics&&((HF P).nsMap cStatics (Str.ofString "sys.recursionlimit")).isNone)=true:=by kernel_rfl
theorem C0d:(K8 S7&&Nat.ble S7.length 900&&(S7.take 32==A4e))=true:=by kernel_rfl
theorem D6k{k:Kd}{f:FnRec}(h:fnK k=some f):k= .fn f:=by cases k <;> first | exact nn h | exact congrArg Kd.fn (Z0a h)
theorem A9z{cl:Cl}(h:clR r k=some cl):isC r=true/\M7 r=false/\((msR r).any λp=>Nat.beq p.1 12)=A28 r/\cl=⟨X9 r,msR r⟩:=by
 refine A8 (ift h) λa b=>?_;replace b:=Z0a b;subst b;rw[Bool.and_eq_true,Bool.and_eq_true,Bool.not_eq_true'] at a;exact T4 a.1.1 a.1.2 (beq_iff_eq.mp a.2) rfl
theorem C42{d:Nat}{cl:Cl}(e:BtG T0.cls (k+1)=some cl)(C D:Addr)(hC:J7 (mgF P) k=some (.ref C))(hD:J7 (mgF P) d=some (.ref D)) :
 (M3 d cl.mro=true->isIn (C4 (HF P)) (.ref C) D=true)/\(M3 d cl.mro=false->∀cl',BtG T0.cls (d+1)=some cl'->A08 (C4 (HF P)) C D=true):=by
 refine A1 (A10 (f:=clR) e) λr hr e=>?_
 refine R2 (A9z e) λc1 J J q'2=>?_
 subst q'2
 have hm:=Q8 hr
 obtain rfl:B1 r=C:=by have:=A03 (P:=P) hr (A4g c1);rw[hC] at this;injection this with this;injection this with this;exact this.symm
 have cD:∀{b:Row},B5[d]?=some b->isC b=true->B1 b=D:=λhb h=>by
  have:=A03 (P:=P) hb (A4g h);rw[hD] at this;injection this with this;injection this with this;exact this.symm
 have su:=A75 (P:=P) hm c1 (.ref D)
 rw[B12 B5o] at su
 constructor
 . intro h
   refine B4 (B3y hD) λy J hy J=>?_
   refine A1 (Z3i.mp ((Z1v ..).symm.trans hy)) λb hb J=>?_
   have q:=B3u hm c1 hb
   rw[show M3 d (X9 r)=true from h] at q
   obtain⟨q1,q2⟩:=Z1j.mp q.symm
   obtain rfl:=cD hb q1
   have I:=A02 (P:=P) (Q8 hb) q1
   obtain⟨bs,sub,cin⟩:=I.cl
   unfold isIn
   rw[cin,I.ty,I.ins,su,q2]
   simp
 . intro h cl' e'
   obtain⟨b,hb,e'⟩:=A10 (f:=clR) e'
   obtain⟨q1,_⟩:=A9z e'
   have q:=B3u hm c1 hb
   rw[show M3 d (X9 r)=false from h,q1,Bool.true_and] at q
   obtain rfl:=cD hb q1
   have I:=A02 (P:=P) (Q8 hb) q1
   obtain⟨bs,sub,cin⟩:=I.cl
   unfold A08
   rw[cin,I.ty,I.ins,su,<-q]
   have:B1 r≠B1 b:=λz=>by rw[List.any_cons,z,Z3v] at q;exact ff q
   simp[this]
theorem C9p(w:World):GT w T1 cc0 (J7 (mgF w.params)) (mgF w.params) (mbF w.params) (HF w.params) (C4 (HF w.params)):=by
 have x:=B0r w.params;rw[Bool.and_eq_true,Bool.and_eq_true] at x;have l:=C5k w.params;rw[Bool.and_eq_true] at l;have at_:=C0d;rw[Bool.and_eq_true,Bool.and_eq_true] at at_;rw[<-C92];have g:(HF w.params).Ns mainGlobals (mgF w.params):= .of_isNs (Z1j.mp x.1.1).2
 refine⟨C31 _,g, .of_isNs x.1.2,⟨_, .of_isNs l.1,Option.isNone_iff_eq_none.mp l.2⟩,λk v e=>(B3y e).elim λx h=>h.elim λa h=>⟨a,h.2.2⟩,λx v e=>D7k e,λk f e=>?_,λk cl e=>?_,λk o e=>?_,λk cl d e C D hC hD=>C42 e C D hC hD,
  at_.1.1,Z0l at_.1.2,⟨S7.drop 32,?_⟩,B2d,?_⟩
 . obtain⟨r,hr,e⟩:=A10 (f:=fnR) e;refine A1 (bi e) λf hk e=>A1 (B6t (P:=w.params) (Q8 hr) (D6k hk)) λa h1 h2=>?_;exact⟨a,A03 hr h1,B5u h2 e⟩
 . refine A1 (A10 (f:=clR) e) λr hr e=>?_;refine R2 (A9z e) λc1 c2 c3 q'3=>?_;subst q'3;exact A6 _ (A03 hr (A4g c1)) (C2k (Q8 hr) c1 c2 c3)
 . refine A1 (A10 (f:=tpR) e) λr hr e=>?_;have ok:=A9o (P:=w.params) (Q8 hr);have e2:=(A0n (P:=w.params) (Q8 hr)).2;have gv:=λ{a:Addr} (h:W3 B2 r= .ref a)=>A03 (P:=w.params) hr h;obtain⟨kk,n,t,n',t',pm⟩:=r;cases kk <;> first | (cases e;done) | skip
   . replace e:=Z0a e;subst e;unfold A3a at ok;rw[Bool.and_eq_true] at ok;exact⟨n,gv rfl,_,A0j ok.1 (Z2c e2).1 rfl,λJ J=>by rw[List.toList_toArray];exact B7i ok.2⟩
   . obtain⟨es,he,e⟩:=mi e;cases e;unfold A3a at ok;rw[Bool.and_eq_true,Bool.and_eq_true,Bool.and_eq_true] at ok;obtain⟨⟨⟨l1,l2⟩,l3⟩,l4⟩:=ok;exact⟨n,gv rfl,beq_eq_false_iff_ne.mpr (Z0q (Z0l l2)),_,(D65 (A0j l1 (Z2c e2).1 rfl) l3).mapOf,λs=>B5z s he (C3m l4)⟩
 . show S7=_;rw[<-beq_iff_eq.mp at_.2,Z2d]
 . obtain⟨o,_,_,e,_⟩:=g;exact⟨mainGlobals,o,by decide,e⟩
end
def D5:Row:=(Mine.find J0 B2).getD ⟨.no,0,0,0,0, .none⟩
def fpP:Fp:=(fps B2 D5).headD (A8t [] Str.empty .none ⟨Str.empty,⟨[],[],none,[],[],none,[]⟩,[],⟨.module,[],false,false,[]⟩,⟨0,0,0,0⟩⟩ 0 0)
noncomputable def B6s(x:Str)(ts:List Expr)(e:Expr):Bool:=(on1 ts λt=>A2a t λo a J=>if A1q C9 o&&(E0 a x&&A1q x e) then some () else none).isSome
def A9y(x:Str)(s:Stmt):Bool:=(Y5 s λts e=>if B6s x ts e then some () else none).isSome
def B3n(l:List Stmt):Bool:=(on2 l λa b=>if A9y B8 a&&A9y C7 b then some () else none).isSome
def B57(P:Params):Bool:=(Mine.find J0 B2).isSome&&(isC D5&&(M7 D5&&((chR D5).map (λb=>Mine.E6 b.k) == [Str.ofString "SqlError",Str.ofString "PagebaseError"]&&(sq (Mine.E6 D5.k) J0&&(bIs (fnd P D5 "__setattr__") "object.__setattr__" && ((fnd P D5 B8).isNone&&((fnd P D5 C7).isNone &&
 (bIs (fnd P D5 "__getattribute__") "BaseException.__getattribute__" && ((fnd P D5 "__getattr__").isNone&&(fnd P D5 "__init__" == some (.ref fpP.a)&&(!(fps B2 D5).isEmpty&&(B3n fpP.r.body &&
 (U5 fpP.r.params fpP.r.scope&&(Q7 fpP.r.scope.names&&(fpP.r.params.defaults.isEmpty&&((fpP.r.params.args.map (·.arg) == [C9,B8,C7]) && [C9,B8,C7].all λx=>fpP.r.scope.names.lookup x==some .local))))))))))))))))
theorem C0k(P:Params):B57 P=true:=by kernel_rfl
theorem C1k{x:Str}{ts:List Expr}{e:Expr}(h:B6s x ts e=true):∃p1 p2 p3,ts= [.Attribute (.Name C9 p1) x p2]/\e= .Name x p3:=by
 refine M6 (iss h) λt h=>A41 h λo a p2 h=>?_;obtain⟨h1,h2⟩:=ba (ifs h).1;obtain⟨p1,e1⟩:=A29 h1;obtain⟨p3,e3⟩:=A29 (ba h2).2;exact⟨p1,p2,p3,by rw[e1,(J3 _ _).mp (ba h2).1],e3⟩
theorem B14{x:Str}{s:Stmt}(h:A9y x s=true):∃p1 p2 p3 p4,s= .Assign [.Attribute (.Name C9 p1) x p2] (.Name x p3) p4:=by
 refine C53 (iss h) λts e p4 h=>Q0 (C1k (ifs h).1) λp1 p2 p3 q1 q2=>⟨p1,p2,p3,p4,by rw[q1,q2]⟩
theorem C68{l:List Stmt}(h:B3n l=true):∃p1 p2 p3 p4 p5 p6 p7 p8,l= [.Assign [.Attribute (.Name C9 p1) B8 p2] (.Name B8 p3) p4, .Assign [.Attribute (.Name C9 p5) C7 p6] (.Name C7 p7) p8]:=by
 refine Q5 (iss h) λa b h=>?_;obtain⟨h1,h2⟩:=ba (ifs h).1;refine A9d (B14 h1) λp1 p2 p3 p4 q4=>A9d (B14 h2) λp5 p6 p7 p8 q5=>?_;rw[q4,q5];exact D4m p1 p2 p3 p4 p5 p6 p7 p8 rfl
theorem C7x(w:World):∃pc,mgF w.params J0=some (.ref pc)/\PerrK (C4 (HF w.params)) (HF w.params) pc/\PerrQ (C4 (HF w.params)) (mgF w.params) pc:=by
 haveI x:=C0k w.params;unfold B57 at x;simp only[Bool.and_eq_true] at x;obtain⟨x1,hc,he,x4,x5,x6,x7,x8,x9,x10,x11,x12,x13,x14,x15,x16,x17,x18⟩:=x;obtain⟨r,hr⟩:=Z3y.mp x1;have er:D5=r:=by unfold D5;rw[hr];rfl
 have hm:D5∈B5:=B2p (er▸B3v hr) hc;haveI find:=λname=>B1n (P:=w.params) (name:=name) hm hc;have bI:∀{name:Str} {s:String},bIs (fnd w.params D5 name) s=true->findIn (C4 (HF w.params)) (.ref (B1 D5)) name=some (some (.builtin s)):=λq=>(find _).trans (congrArg some (B4f q));have nI:∀{name:Str},(fnd w.params D5 name).isNone=true->findIn (C4 (HF w.params)) (.ref (B1 D5)) name=some none:=λq=>(find _).trans (congrArg some (Option.isNone_iff_eq_none.mp q));haveI hn:Mine.E6 D5.k=J0:=Fast.sEq_iff.mp x5;haveI mg:=(A0n (P:=w.params) hm).1;refine B4 (A14 hc) λbs sl e e4=>?_;haveI g:=(A1b (P:=w.params) hm hc).1;have I:=A02 (P:=w.params) hm hc;refine F9 I.cl λbs' sub' cin=>?_;haveI su:=A75 (P:=w.params) hm hc;have chn:=beq_iff_eq.mp x4;obtain⟨b1,b2,ch⟩:∃b1 b2,chR D5= [b1,b2]:=by
  cases q:chR D5 with
  |nil=>rw[q] at chn;cases chn
  |cons b1 l=>
   cases l with
   |nil=>rw[q] at chn;cases (Z2c chn).2
   |cons b2 l=>
    cases l with
    |nil=>exact A5x b1 b2 rfl
    |cons b3 l=>rw[q] at chn;cases (Z2c (Z2c chn).2).2
 rw[ch] at chn;obtain⟨h1,hc1⟩:=A42 hm hc (show b1∈D5 :: chR D5 by rw[ch];simp);haveI mg1:=(A0n (P:=w.params) h1).1;rw[A4g hc1,show Mine.E6 b1.k=Str.ofString "SqlError" from(Z2c chn).1] at mg1;haveI I1:=A02 (P:=w.params) h1 hc1;refine F9 I1.cl λbs1 sub1 cin1=>?_;have hf:fpP∈fps B2 D5:=by
  unfold fpP;cases q:fps B2 D5 with
  |nil=>rw[q] at x12;exact ff x12
  |cons a l=>exact .head _
 have F:=A4a (P:=w.params) (A5p (A3e hm).1 hf);haveI sB:∀{v},v∈bmE->subIn (C4 (HF w.params)) (.ref (B1 D5)) v=some true:=λh=>(su _).trans (congrArg some (Z2n.mpr (by rw[he];exact List.mem_append_right _ h)));haveI sR:∀{b},b∈D5 :: chR D5->subIn (C4 (HF w.params)) (.ref (B1 D5)) (.ref (B1 b))=some true:=λh=>(su _).trans (congrArg some (Z2n.mpr (Z4p _ (Z2q.mpr ⟨_,h,rfl⟩))));rw[e,he,ch] at g;refine T9 (B1 D5) mg ⟨⟨_,_,_,bs,(B1 b1,B1 b2),_,sl,by rw[M1];exact g,e4⟩,bI x6,nI x7,nI x8,I.keep,?_⟩ ⟨bI x9,nI x10,?_,sB (by decide),⟨_,cin,rfl⟩,B1 b1,mg1,?_⟩
 . haveI FT:=F.type;obtain⟨pm,c,dv,n,z1,_,z4,z2⟩:=F;haveI hv:=z2 [] rfl;have hv:dv= []:=by cases dv with | nil=>rfl | cons _ _=>exact ff hv
   subst hv;obtain⟨p1,p2,p3,p4,p5,p6,p7,p8,hb⟩:=C68 x13;refine⟨fpP.a,fpP.r,fpP.q,pm,c, .none,?_,FT,by rw[M1];exact z1,z4,x14,beq_iff_eq.mp x17,x15,λy hy=>beq_iff_eq.mp (Z1n.mp x18 y hy),p1,p2,p3,p4,p5,p6,p7,p8,hb⟩;exact(find _).trans (congrArg some (eq_of_beq x11))
 . unfold exmOne;rw[sB (by decide),Z0p (by rfl)];show(if ((clsIn (C4 (HF w.params)) (B1 D5)).isSome&&typeIn (C4 (HF w.params)) (.ref (B1 D5))==some (.type "type"))=true then subIn (C4 (HF w.params)) (.ref (B1 D5)) (.ref (B1 D5)) else none)=_
   rw[cin,I.ty,Z0p (by rfl),sR (.head _)]
 . unfold isIn;rw[cin1,I1.ty,I1.ins,sR (by rw[ch];simp)];simp
theorem B42{w:World}{h:Heap}(B:h=HF w.params):∃pc,GT w T1 cc0 (J7 (mgF w.params)) (mgF w.params) (mbF w.params) h (C4 h)/\mgF w.params J0=some (.ref pc)/\PerrK (C4 h) h pc/\PerrQ (C4 h) (mgF w.params) pc/\
 ∀i f ps df,(B5[i]?).map (·.k)=some (.fn f)->Sig cc0 f ps df->∃a,J7 (mgF w.params) i=some (.ref a)/\mgF w.params f.name=some (.ref a)/\FnIs h f f.name a/\FnRaw (J7 (mgF w.params)) cc0 (C4 h) f ps df a:=by
 subst B
 refine D6 (C7x w) λpc h1 h2 h3=>?_
 refine⟨pc,C9p w,h1,h2,h3,λi f ps df e hs=>?_⟩
 obtain⟨r,hr,hk⟩:=Z3i.mp e
 obtain⟨a,q1,q2⟩:=B6t (P:=w.params) (Q8 hr) hk
 haveI mg:=(A0n (P:=w.params) (Q8 hr)).1
 rw[hk,q1] at mg
 exact⟨a,A03 hr q1,mg,q2,B4x q2 hs⟩
theorem D52:GT w T1 cc0 gv mg mb A0 (C4 A0)/\mg J0=some (.ref pc)/\PerrK (C4 A0) A0 pc/\PerrQ (C4 A0) mg pc/\
 ∀i f ps df,(B5[i]?).map (·.k)=some (.fn f)->Sig cc0 f ps df->∃a,gv i=some (.ref a)/\FnRaw gv cc0 (C4 A0) f ps df a/\mg f.name=some (.ref a):=by
 refine A0e (B42 B3a) λc g h1 h2 h3 h4=>?_
 have e1:mgF w.params=mg:=D8a.symm
 have e2:mbF w.params=mb:=B9n.symm
 rw[e1] at g h1 h3 h4
 rw[<-C10] at g h4
 rw[e2] at g
 have e3:pc=c:=C8a h1
 rw[e3]
 exact⟨g,h1,h2,h3,λi f ps df a b=>(h4 i f ps df a b).elim λa q=>⟨a,q.1,q.2.2.2,q.2.1⟩⟩
theorem B16:(B5[0]?).map (·.k)=some (.fn (A4 0)):=rfl
theorem B5v:Sig cc0 (A4 0) [0] []:=⟨rfl,rfl,rfl,rfl,rfl,rfl⟩
theorem D6q:(B5[1]?).map (·.k)=some (.fn (A4 1)):=rfl
theorem C3u:Sig cc0 (A4 1) [0] []:=⟨rfl,rfl,rfl,rfl,rfl,rfl⟩
theorem D3j:(B5[2]?).map (·.k)=some (.fn (A4 2)):=rfl
theorem B9d:Sig cc0 (A4 2) [0,1] []:=⟨rfl,rfl,rfl,rfl,rfl,rfl⟩
theorem D8d:(B5[4]?).map (·.k)=some (.fn (A4 4)):=rfl
theorem D0v:Sig cc0 (A4 4) [0] []:=⟨rfl,rfl,rfl,rfl,rfl,rfl⟩
theorem D07:(B5[5]?).map (·.k)=some (.fn (A4 5)):=rfl
theorem D6z:Sig cc0 (A4 5) [0] []:=⟨rfl,rfl,rfl,rfl,rfl,rfl⟩
theorem B8s:(B5[6]?).map (·.k)=some (.fn (A4 6)):=rfl
theorem B90:Sig cc0 (A4 6) [0,1] []:=⟨rfl,rfl,rfl,rfl,rfl,rfl⟩
theorem D20:(B5[7]?).map (·.k)=some (.fn (A4 7)):=rfl
theorem D5g:Sig cc0 (A4 7) [0,1] []:=⟨rfl,rfl,rfl,rfl,rfl,rfl⟩
theorem D17:(B5[9]?).map (·.k)=some (.fn (A4 9)):=rfl
theorem C5d:Sig cc0 (A4 9) [0,1] []:=⟨rfl,rfl,rfl,rfl,rfl,rfl⟩
theorem C1d:(B5[11]?).map (·.k)=some (.fn (A4 11)):=rfl
theorem C5b:Sig cc0 (A4 11) [0,1,2] []:=⟨rfl,rfl,rfl,rfl,rfl,rfl⟩
theorem D3z:(B5[13]?).map (·.k)=some (.fn (A4 13)):=rfl
theorem C4s:Sig cc0 (A4 13) [0,1] []:=⟨rfl,rfl,rfl,rfl,rfl,rfl⟩
theorem B0x:(B5[14]?).map (·.k)=some (.fn (A4 14)):=rfl
theorem B40:Sig cc0 (A4 14) [0,1] []:=⟨rfl,rfl,rfl,rfl,rfl,rfl⟩
theorem C0m:(B5[15]?).map (·.k)=some (.fn (A4 15)):=rfl
theorem B9t:Sig cc0 (A4 15) [0,1] []:=⟨rfl,rfl,rfl,rfl,rfl,rfl⟩
theorem D71{R:WRecords}{xs:List WData}(h:WShape.hasItems R xs .int=true)(j:Nat)(x:WData)(e:xs[j]?=some x):Nat.beq x.ctorIdx 2=true:=by
 induction xs generalizing j with
 |nil=>exact nn (List.getElem?_nil.symm.trans e)
 |cons y xs ih=>
  obtain⟨h1,h2⟩:=Z1j.mp (show(WShape.has R y .int&&WShape.hasItems R xs .int)=true from h);cases j with
  |zero=>exact Z0a e▸(hasW_int h1).elim λi q=>q▸rfl
  |succ j=>exact ih h2 j e
theorem C5j{P:Params}{h:Heap}{v:Value}{x:WData}(a:Well P h v x)(e:Nat.beq x.ctorIdx 2=true):∃i t,v=Value.int i t:=by
 cases a with
 |int=>exact⟨_,_,rfl⟩
 |_=>exact ff e
theorem D5w{P:Params}{h:Heap}{vs:List Value}{xs:List WData}(w:WellAll P h vs xs)(hx:∀(j:Nat) x,xs[j]?=some x->Nat.beq x.ctorIdx 2=true):vs.length=xs.length/\∀(j:Nat) v,vs[j]?=some v->∃i t,v=Value.int i t:=by
 induction vs generalizing xs with
 |nil=>
  cases w;exact⟨rfl,λj v e=>nomatch e⟩
 |cons v vs ih=>
  cases w with
  |cons a b=>
   refine A8 (ih b λj x e=>hx (j+1) x e) λh1 h2=>⟨congrArg (· +1) h1,λj u e=>?_⟩;cases j with
   |zero=>exact Z0a e▸C5j a (hx 0 _ rfl)
   |succ j=>exact h2 j u e
section
variable{s₁:Shared}
theorem C2h{args:List WData}(h:rr.claim.pre args=true):∃xs,args= [.list xs]/\xs.length<=63/\∀(j:Nat) x,xs[j]?=some x->Nat.beq x.ctorIdx 2=true:=by
 obtain⟨h1,h2⟩:=pre_splitW (r:=rr) h;refine F8 (hasAllW_cons (show WShape.hasAll rr.records args [.list .int]=true from h1)) λd r q'2 h3 h4=>?_;subst q'2;obtain rfl:=hasAllW_nil h4;refine A1 (hasW_list h3) λxs q'3 h5=>?_;subst q'3;refine T9 xs rfl (?_) (D71 h5);haveI e:rr.pre= .and (.not (.lt (.lit (.int 63)) (.len (.arg 0)))) (.lit (.bool true)):=rfl;rw[e] at h2;by_cases z:(63:Int)<(xs.length:Int)
 . exact ff ((holdsW_of_value (X:=false) (by simp[WTm.value,PySem.W.less?,PySem.W.Num.less?,z])).symm.trans h2)
 . exact Int.ofNat_le.mp (Int.not_lt.mp z)
theorem B7y{K:Frag}{D U:Nat}:N9 og w T1 cc0 gv A0 pc K D U P1:=λJ J J J J h=>nomatch h
theorem D0q{og:OGt}(h:Og s og)(hs:og=OG s₁):s.os=s₁.os/\s.gens=s₁.gens:=by
 obtain⟨e⟩:=h;rw[hs] at e;exact Prod.mk.inj e
theorem B2i:(A4 0).name=Str.ofString "law" :=rfl
theorem C7k(hos:og=OG s₁):A25 w s s₁:=by
 intro B keeps args vs as hp J hg hr hlo hw;replace B:=B.trans B3a.symm;refine A5t D52 λG hpc PK PQ raw=>?_;refine D6 (raw _ _ _ _ B16 B5v) λf0 J r0 m0=>?_;refine D6 (raw _ _ _ _ B0x B40) λf14 g14 r14 J=>?_;have mk:∀{i f ps df},(B5[i]?).map (·.k)=some (.fn f)->Sig cc0 f ps df->∃a,gv i=some (.ref a)/\FnRaw gv cc0 (C4 A0) f ps df a:=λa b=>(raw _ _ _ _ a b).elim λa q=>⟨a,q.1,q.2.1⟩;have hD:D<recursionLimit:=by unfold D;decide
 have hU:U<cLine:=by unfold U;decide
 have pt:=C4z (U:=U) G (show D+10<recursionLimit by unfold D;decide) g14 r14
 have g:Ground og w gv mg mb A0 pc (C4 A0) D U:=
  ⟨G,hD,hU,hpc,PK,PQ,⟨mk B0x B40,mk C1d C5b,mk D17 C5d,mk D20 D5g,mk B8s B90,mk D07 D6z,mk D8d D0v,mk D3j B9d,mk C0m B9t,mk D3z C4s,mk D6q C3u⟩,pt,A2g G hD hU hpc PK pt NW,A2g G hD hU hpc PK B7y NW,A2g G hD hU hpc PK (C8o G (by unfold D;decide) (A2g G (by unfold D;decide) (by unfold U;decide) hpc PK B7y NW)) NP⟩
 rw[B] at keeps hlo;refine V7 (.ref f0) mg (G.g.keeps keeps) m0 (?_);refine D6 (C2h hp) λxs q'4 h63 hi=>?_;subst q'4;cases hw with
 |cons hv hn=>
  cases hn;cases hv with
  | @list X us _ hX wall=>
   obtain⟨l1,l2⟩:=D5w wall hi;have loX:A0.objs.size<=X:=by
    cases hr with
    |cons a b=>cases a with
     |list _ _ _ _=>exact hlo _ (Z4p _ (Z2e ..))
   have:Og s₁ og:=⟨hos.symm⟩;refine Z2g (C99 (vs:=us.toArray) (e:=0) (A:=callerA) (fs:= []) g r0 ⟨rfl,by unfold D;decide,by unfold U;decide,rfl⟩ keeps trivial hX (λj v e=>l2 j v (by simpa using e)) (by simp only[List.size_toArray];exact Z0c (Z0c (Z0z l1) h63) (by decide)) (Heap.get?_none_of_le loX) (λq=>nomatch q) λs' kp=>?_)
   intro hog;obtain⟨o1,o2⟩:=D0q hog hos;exact⟨.inl ⟨.bool true, .bool true,[],rfl,λJ=>rfl, .bool true,by kernel_rfl,λJ=>⟨Z4w,λa ha=>nomatch ha⟩⟩,λb o e=>kp b o e (λq=>nomatch q),o1,o2.trans hg⟩
theorem D2y:pg.theDef "law" = some ((A4 0).params,(A4 0).body,(A4 0).scope):=rfl
theorem C9k:(A4 0).params.defaults= []/\(A4 0).params.kwonlyargs= []/\(A4 0).params.kw_defaults= []/\V0 cc0 (A4 0).params.defaults=some []:=⟨rfl,rfl,rfl,rfl⟩
theorem pin(w:World):isTheDefsW pg (HF w.params) "law" :=by
 refine A0e (B42 (w:=w) rfl) λpc G J J J raw=>?_;refine T7 (raw _ _ _ _ B16 B5v) λa J hv q'5 J=>?_;rcases q'5 with⟨pm,c,dv,n,hg,_,_,hd⟩
 refine R2 C9k λd1 d2 d3 d5=>?_;haveI hd:=hd _ d5;refine R9 G.g λo es ep e1 e2 J e4=>?_;cases dv with
 |cons _ _=>exact ff hd
 |nil=>
  refine⟨a,_,_,(A4 0).params,(A4 0).body,(A4 0).scope,?_,hg,rfl,D2y,B2i,B2i,rfl,rfl,rfl,rfl,rfl,rfl, .inl ⟨d1,rfl⟩,[],by rw[d2,d3];rfl, .inl ⟨rfl,rfl⟩⟩;unfold globalOf;rw[show mainNs=mainGlobals from rfl,show(HF w.params).get? mainGlobals=some o from e1];dsimp only;refine re e2 ?_;exact(e4 _).trans hv
theorem law_holds:PySem.Challenge.rw_nt0148_01.Holds:=C04 (D2x D51 B01 C8e C0t pin (C2z (by rw[<-C3b];exact C7k B9h)))
end
end MineE
end
set_option maxHeartbeats 4000000 in
theorem PySem.Challenge.cw_nt0148_01_holds : PySem.Challenge.rw_nt0148_01.Holds :=
 MineE.law_holds
