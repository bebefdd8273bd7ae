import PyProof.Rows.All
import PyProof.TableCode
import Open.Line
import KE.KDictSum
import KE.KRevIter
import Wide.FinOn
import OpenK.AllK
import Wide.All
import Lean
import PySem.Challenge.RW_pf0153_01
set_option maxRecDepth 100000
set_option linter.unusedVariables false
set_option Elab.async false
set_option genSizeOf false
set_option genInjectivity false
set_option backward.match.sparseCases false
set_option maxHeartbeats 1000000
set_option linter.all false
set_option bootstrap.genMatcherCode false
namespace Mine.Tactic
noncomputable section
section
open PySem PySem.W PySem.Calls PyProof.Rows PySem.SeqAt
theorem ak:type_of% @List.mem_cons_self:=@List.mem_cons_self
theorem Ok:type_of% @List.getElem?_eq_some_iff:=@List.getElem?_eq_some_iff
theorem ay:type_of% @List.getElem?_eq_getElem:=@List.getElem?_eq_getElem
theorem ax:type_of% @List.mem_append_right:=@List.mem_append_right
theorem ah:type_of% @wpAny_pure:=@wpAny_pure
theorem ab:type_of% @wpAny_bind:=@wpAny_bind
theorem aD:type_of% @List.mem_cons_of_mem:=@List.mem_cons_of_mem
theorem ao:type_of% @List.length_map:=@List.length_map
theorem av{α:Type _}{a b:α}(h:some a=some b):a=b:=Option.some.inj h
theorem aB:type_of% @List.getElem?_map:=@List.getElem?_map
theorem aL:type_of% @Nat.lt_of_succ_lt_succ:=@Nat.lt_of_succ_lt_succ
theorem aJ:type_of% @Nat.lt_of_le_of_lt:=@Nat.lt_of_le_of_lt
theorem uB:type_of% @List.mem_cons:=@List.mem_cons
theorem M6:type_of% @Bool.and_eq_true_iff:=@Bool.and_eq_true_iff
theorem aP:type_of% @List.mem_of_getElem?:=@List.mem_of_getElem?
theorem aT:type_of% @List.mem_append_left:=@List.mem_append_left
theorem gB:type_of% @List.getElem?_eq_none_iff:=@List.getElem?_eq_none_iff
theorem Oc:type_of% @List.mem_singleton:=@List.mem_singleton
theorem bB:type_of% @List.getElem?_append_right:=@List.getElem?_append_right
theorem aU:type_of% @List.size_toArray:=@List.size_toArray
theorem aY:type_of% @Bool.and_eq_true:=@Bool.and_eq_true
theorem bu:type_of% @Heap.get?_push_of_some:=@Heap.get?_push_of_some
theorem NH:type_of% @List.mem_append:=@List.mem_append
theorem bv:type_of% @Nat.le_of_ble_eq_true:=@Nat.le_of_ble_eq_true
theorem bh:type_of% @List.length_take:=@List.length_take
theorem bL:type_of% @List.getElem?_set_self:=@List.getElem?_set_self
theorem bp:type_of% @decide_eq_true_eq:=@decide_eq_true_eq
theorem bx:type_of% @List.length_append:=@List.length_append
theorem MQ:type_of% @List.mem_map:=@List.mem_map
theorem iu:type_of% @beq_iff_eq:=@beq_iff_eq
theorem aZ:type_of% @Heap.lt_size:=@Heap.lt_size
theorem cD:type_of% @List.getElem?_append_left:=@List.getElem?_append_left
theorem bH:type_of% @List.append_assoc:=@List.append_assoc
theorem pI:type_of% @List.all_eq_true:=@List.all_eq_true
theorem bf:type_of% @Nat.ne_of_lt:=@Nat.ne_of_lt
theorem N1:type_of% @Option.bind_eq_some_iff:=@Option.bind_eq_some_iff
theorem ca:type_of% @List.length_mapIdx:=@List.length_mapIdx
theorem be:type_of% @Bool.false_ne_true:=@Bool.false_ne_true
theorem bW:type_of% @List.lookup_cons:=@List.lookup_cons
theorem cq:type_of% @Heap.get?_push_size:=@Heap.get?_push_size
theorem bz:type_of% @wpAny_holding:=@wpAny_holding
theorem ck:type_of% @List.length_drop:=@List.length_drop
theorem ch:type_of% @List.ext_getElem?:=@List.ext_getElem?
theorem bj:type_of% @wpAny_mono:=@wpAny_mono
theorem bX:type_of% @List.drop_drop:=@List.drop_drop
theorem aO:type_of% @Nat.le_trans:=@Nat.le_trans
theorem aS:type_of% @Nat.le_refl:=@Nat.le_refl
theorem ac:type_of% @if_pos:=@if_pos
theorem af:type_of% @if_neg:=@if_neg
end
section
variable{A0 A1 A2 A3 A4 A5 A6:Sort _}{G:Prop}
theorem xE0_2{p0 p1:Prop}(h:p0∧p1)(k:p0→p1→G):G:=k h.1 h.2
theorem xE0_3{p0 p1 p2:Prop}(h:p0∧p1∧p2)(k:p0→p1→p2→G):G:=xE0_2 h fun h0 h=>k h0 h.1 h.2
theorem xE0_4{p0 p1 p2 p3:Prop}(h:p0∧p1∧p2∧p3)(k:p0→p1→p2→p3→G):G:=xE0_3 h fun h0 h1 h=>k h0 h1 h.1 h.2
theorem xE0_5{p0 p1 p2 p3 p4:Prop}(h:p0∧p1∧p2∧p3∧p4)(k:p0→p1→p2→p3→p4→G):G:=xE0_4 h fun h0 h1 h2 h=>k h0 h1 h2 h.1 h.2
theorem xE1_1{p0:A0→Prop}(h:∃x0,p0 x0)(k:∀x0,p0 x0→G):G:=h.elim k
theorem xE1_2{p0 p1:A0→Prop}(h:∃x0,p0 x0∧p1 x0)(k:∀x0,p0 x0→p1 x0→G):G:=xE1_1 h fun x0 h=>k x0 h.1 h.2
theorem xE1_3{p0 p1 p2:A0→Prop}(h:∃x0,p0 x0∧p1 x0∧p2 x0)(k:∀x0,p0 x0→p1 x0→p2 x0→G):G:=xE1_2 h fun x0 h0 h=>k x0 h0 h.1 h.2
theorem xE1_4{p0 p1 p2 p3:A0→Prop}(h:∃x0,p0 x0∧p1 x0∧p2 x0∧p3 x0)(k:∀x0,p0 x0→p1 x0→p2 x0→p3 x0→G):G:=xE1_3 h fun x0 h0 h1 h=>k x0 h0 h1 h.1 h.2
theorem xE1_5{p0 p1 p2 p3 p4:A0→Prop}(h:∃x0,p0 x0∧p1 x0∧p2 x0∧p3 x0∧p4 x0)(k:∀x0,p0 x0→p1 x0→p2 x0→p3 x0→p4 x0→G):G:=xE1_4 h fun x0 h0 h1 h2 h=>k x0 h0 h1 h2 h.1 h.2
theorem xE1_6{p0 p1 p2 p3 p4 p5:A0→Prop}(h:∃x0,p0 x0∧p1 x0∧p2 x0∧p3 x0∧p4 x0∧p5 x0)(k:∀x0,p0 x0→p1 x0→p2 x0→p3 x0→p4 x0→p5 x0→G):G:=xE1_5 h fun x0 h0 h1 h2 h3 h=>k x0 h0 h1 h2 h3 h.1 h.2
theorem xE2_1{p0:A0→A1→Prop}(h:∃x0,∃x1,p0 x0 x1)(k:∀x0 x1,p0 x0 x1→G):G:=h.elim fun x0 h=>xE1_1 h fun x1 h=>k x0 x1 h
theorem xE2_2{p0 p1:A0→A1→Prop}(h:∃x0,∃x1,p0 x0 x1∧p1 x0 x1)(k:∀x0 x1,p0 x0 x1→p1 x0 x1→G):G:=xE2_1 h fun x0 x1 h=>k x0 x1 h.1 h.2
theorem xE2_3{p0 p1 p2:A0→A1→Prop}(h:∃x0,∃x1,p0 x0 x1∧p1 x0 x1∧p2 x0 x1)(k:∀x0 x1,p0 x0 x1→p1 x0 x1→p2 x0 x1→G):G:=xE2_2 h fun x0 x1 h0 h=>k x0 x1 h0 h.1 h.2
theorem xE2_4{p0 p1 p2 p3:A0→A1→Prop}(h:∃x0,∃x1,p0 x0 x1∧p1 x0 x1∧p2 x0 x1∧p3 x0 x1)(k:∀x0 x1,p0 x0 x1→p1 x0 x1→p2 x0 x1→p3 x0 x1→G):G:=xE2_3 h fun x0 x1 h0 h1 h=>k x0 x1 h0 h1 h.1 h.2
theorem xE2_5{p0 p1 p2 p3 p4:A0→A1→Prop}(h:∃x0,∃x1,p0 x0 x1∧p1 x0 x1∧p2 x0 x1∧p3 x0 x1∧p4 x0 x1)(k:∀x0 x1,p0 x0 x1→p1 x0 x1→p2 x0 x1→p3 x0 x1→p4 x0 x1→G):G:=xE2_4 h fun x0 x1 h0 h1 h2 h=>k x0 x1 h0 h1 h2 h.1 h.2
theorem xE3_1{p0:A0→A1→A2→Prop}(h:∃x0,∃x1,∃x2,p0 x0 x1 x2)(k:∀x0 x1 x2,p0 x0 x1 x2→G):G:=h.elim fun x0 h=>xE2_1 h fun x1 x2 h=>k x0 x1 x2 h
theorem xE3_2{p0 p1:A0→A1→A2→Prop}(h:∃x0,∃x1,∃x2,p0 x0 x1 x2∧p1 x0 x1 x2)(k:∀x0 x1 x2,p0 x0 x1 x2→p1 x0 x1 x2→G):G:=xE3_1 h fun x0 x1 x2 h=>k x0 x1 x2 h.1 h.2
theorem xE3_3{p0 p1 p2:A0→A1→A2→Prop}(h:∃x0,∃x1,∃x2,p0 x0 x1 x2∧p1 x0 x1 x2∧p2 x0 x1 x2)(k:∀x0 x1 x2,p0 x0 x1 x2→p1 x0 x1 x2→p2 x0 x1 x2→G):G:=xE3_2 h fun x0 x1 x2 h0 h=>k x0 x1 x2 h0 h.1 h.2
theorem xE3_4{p0 p1 p2 p3:A0→A1→A2→Prop}(h:∃x0,∃x1,∃x2,p0 x0 x1 x2∧p1 x0 x1 x2∧p2 x0 x1 x2∧p3 x0 x1 x2)(k:∀x0 x1 x2,p0 x0 x1 x2→p1 x0 x1 x2→p2 x0 x1 x2→p3 x0 x1 x2→G):G:=xE3_3 h fun x0 x1 x2 h0 h1 h=>k x0 x1 x2 h0 h1 h.1 h.2
theorem xE3_5{p0 p1 p2 p3 p4:A0→A1→A2→Prop}(h:∃x0,∃x1,∃x2,p0 x0 x1 x2∧p1 x0 x1 x2∧p2 x0 x1 x2∧p3 x0 x1 x2∧p4 x0 x1 x2)(k:∀x0 x1 x2,p0 x0 x1 x2→p1 x0 x1 x2→p2 x0 x1 x2→p3 x0 x1 x2→p4 x0 x1 x2→G):G:=xE3_4 h fun x0 x1 x2 h0 h1 h2 h=>k x0 x1 x2 h0 h1 h2 h.1 h.2
theorem xE3_6{p0 p1 p2 p3 p4 p5:A0→A1→A2→Prop}(h:∃x0,∃x1,∃x2,p0 x0 x1 x2∧p1 x0 x1 x2∧p2 x0 x1 x2∧p3 x0 x1 x2∧p4 x0 x1 x2∧p5 x0 x1 x2)(k:∀x0 x1 x2,p0 x0 x1 x2→p1 x0 x1 x2→p2 x0 x1 x2→p3 x0 x1 x2→p4 x0 x1 x2→p5 x0 x1 x2→G):G:=xE3_5 h fun x0 x1 x2 h0 h1 h2 h3 h=>k x0 x1 x2 h0 h1 h2 h3 h.1 h.2
theorem xE4_1{p0:A0→A1→A2→A3→Prop}(h:∃x0,∃x1,∃x2,∃x3,p0 x0 x1 x2 x3)(k:∀x0 x1 x2 x3,p0 x0 x1 x2 x3→G):G:=h.elim fun x0 h=>xE3_1 h fun x1 x2 x3 h=>k x0 x1 x2 x3 h
theorem xE4_2{p0 p1:A0→A1→A2→A3→Prop}(h:∃x0,∃x1,∃x2,∃x3,p0 x0 x1 x2 x3∧p1 x0 x1 x2 x3)(k:∀x0 x1 x2 x3,p0 x0 x1 x2 x3→p1 x0 x1 x2 x3→G):G:=xE4_1 h fun x0 x1 x2 x3 h=>k x0 x1 x2 x3 h.1 h.2
theorem xE4_3{p0 p1 p2:A0→A1→A2→A3→Prop}(h:∃x0,∃x1,∃x2,∃x3,p0 x0 x1 x2 x3∧p1 x0 x1 x2 x3∧p2 x0 x1 x2 x3)(k:∀x0 x1 x2 x3,p0 x0 x1 x2 x3→p1 x0 x1 x2 x3→p2 x0 x1 x2 x3→G):G:=xE4_2 h fun x0 x1 x2 x3 h0 h=>k x0 x1 x2 x3 h0 h.1 h.2
theorem xE4_4{p0 p1 p2 p3:A0→A1→A2→A3→Prop}(h:∃x0,∃x1,∃x2,∃x3,p0 x0 x1 x2 x3∧p1 x0 x1 x2 x3∧p2 x0 x1 x2 x3∧p3 x0 x1 x2 x3)(k:∀x0 x1 x2 x3,p0 x0 x1 x2 x3→p1 x0 x1 x2 x3→p2 x0 x1 x2 x3→p3 x0 x1 x2 x3→G):G:=xE4_3 h fun x0 x1 x2 x3 h0 h1 h=>k x0 x1 x2 x3 h0 h1 h.1 h.2
theorem xE4_5{p0 p1 p2 p3 p4:A0→A1→A2→A3→Prop}(h:∃x0,∃x1,∃x2,∃x3,p0 x0 x1 x2 x3∧p1 x0 x1 x2 x3∧p2 x0 x1 x2 x3∧p3 x0 x1 x2 x3∧p4 x0 x1 x2 x3)(k:∀x0 x1 x2 x3,p0 x0 x1 x2 x3→p1 x0 x1 x2 x3→p2 x0 x1 x2 x3→p3 x0 x1 x2 x3→p4 x0 x1 x2 x3→G):G:=xE4_4 h fun x0 x1 x2 x3 h0 h1 h2 h=>k x0 x1 x2 x3 h0 h1 h2 h.1 h.2
theorem xE4_6{p0 p1 p2 p3 p4 p5:A0→A1→A2→A3→Prop}(h:∃x0,∃x1,∃x2,∃x3,p0 x0 x1 x2 x3∧p1 x0 x1 x2 x3∧p2 x0 x1 x2 x3∧p3 x0 x1 x2 x3∧p4 x0 x1 x2 x3∧p5 x0 x1 x2 x3)(k:∀x0 x1 x2 x3,p0 x0 x1 x2 x3→p1 x0 x1 x2 x3→p2 x0 x1 x2 x3→p3 x0 x1 x2 x3→p4 x0 x1 x2 x3→p5 x0 x1 x2 x3→G):G:=xE4_5 h fun x0 x1 x2 x3 h0 h1 h2 h3 h=>k x0 x1 x2 x3 h0 h1 h2 h3 h.1 h.2
theorem xE4_7{p0 p1 p2 p3 p4 p5 p6:A0→A1→A2→A3→Prop}(h:∃x0,∃x1,∃x2,∃x3,p0 x0 x1 x2 x3∧p1 x0 x1 x2 x3∧p2 x0 x1 x2 x3∧p3 x0 x1 x2 x3∧p4 x0 x1 x2 x3∧p5 x0 x1 x2 x3∧p6 x0 x1 x2 x3)(k:∀x0 x1 x2 x3,p0 x0 x1 x2 x3→p1 x0 x1 x2 x3→p2 x0 x1 x2 x3→p3 x0 x1 x2 x3→p4 x0 x1 x2 x3→p5 x0 x1 x2 x3→p6 x0 x1 x2 x3→G):G:=xE4_6 h fun x0 x1 x2 x3 h0 h1 h2 h3 h4 h=>k x0 x1 x2 x3 h0 h1 h2 h3 h4 h.1 h.2
theorem xE4_8{p0 p1 p2 p3 p4 p5 p6 p7:A0→A1→A2→A3→Prop}(h:∃x0,∃x1,∃x2,∃x3,p0 x0 x1 x2 x3∧p1 x0 x1 x2 x3∧p2 x0 x1 x2 x3∧p3 x0 x1 x2 x3∧p4 x0 x1 x2 x3∧p5 x0 x1 x2 x3∧p6 x0 x1 x2 x3∧p7 x0 x1 x2 x3)(k:∀x0 x1 x2 x3,p0 x0 x1 x2 x3→p1 x0 x1 x2 x3→p2 x0 x1 x2 x3→p3 x0 x1 x2 x3→p4 x0 x1 x2 x3→p5 x0 x1 x2 x3→p6 x0 x1 x2 x3→p7 x0 x1 x2 x3→G):G:=xE4_7 h fun x0 x1 x2 x3 h0 h1 h2 h3 h4 h5 h=>k x0 x1 x2 x3 h0 h1 h2 h3 h4 h5 h.1 h.2
theorem xE5_1{p0:A0→A1→A2→A3→A4→Prop}(h:∃x0,∃x1,∃x2,∃x3,∃x4,p0 x0 x1 x2 x3 x4)(k:∀x0 x1 x2 x3 x4,p0 x0 x1 x2 x3 x4→G):G:=h.elim fun x0 h=>xE4_1 h fun x1 x2 x3 x4 h=>k x0 x1 x2 x3 x4 h
theorem xE5_2{p0 p1:A0→A1→A2→A3→A4→Prop}(h:∃x0,∃x1,∃x2,∃x3,∃x4,p0 x0 x1 x2 x3 x4∧p1 x0 x1 x2 x3 x4)(k:∀x0 x1 x2 x3 x4,p0 x0 x1 x2 x3 x4→p1 x0 x1 x2 x3 x4→G):G:=xE5_1 h fun x0 x1 x2 x3 x4 h=>k x0 x1 x2 x3 x4 h.1 h.2
theorem xE5_3{p0 p1 p2:A0→A1→A2→A3→A4→Prop}(h:∃x0,∃x1,∃x2,∃x3,∃x4,p0 x0 x1 x2 x3 x4∧p1 x0 x1 x2 x3 x4∧p2 x0 x1 x2 x3 x4)(k:∀x0 x1 x2 x3 x4,p0 x0 x1 x2 x3 x4→p1 x0 x1 x2 x3 x4→p2 x0 x1 x2 x3 x4→G):G:=xE5_2 h fun x0 x1 x2 x3 x4 h0 h=>k x0 x1 x2 x3 x4 h0 h.1 h.2
theorem xE5_4{p0 p1 p2 p3:A0→A1→A2→A3→A4→Prop}(h:∃x0,∃x1,∃x2,∃x3,∃x4,p0 x0 x1 x2 x3 x4∧p1 x0 x1 x2 x3 x4∧p2 x0 x1 x2 x3 x4∧p3 x0 x1 x2 x3 x4)(k:∀x0 x1 x2 x3 x4,p0 x0 x1 x2 x3 x4→p1 x0 x1 x2 x3 x4→p2 x0 x1 x2 x3 x4→p3 x0 x1 x2 x3 x4→G):G:=xE5_3 h fun x0 x1 x2 x3 x4 h0 h1 h=>k x0 x1 x2 x3 x4 h0 h1 h.1 h.2
theorem xE5_5{p0 p1 p2 p3 p4:A0→A1→A2→A3→A4→Prop}(h:∃x0,∃x1,∃x2,∃x3,∃x4,p0 x0 x1 x2 x3 x4∧p1 x0 x1 x2 x3 x4∧p2 x0 x1 x2 x3 x4∧p3 x0 x1 x2 x3 x4∧p4 x0 x1 x2 x3 x4)(k:∀x0 x1 x2 x3 x4,p0 x0 x1 x2 x3 x4→p1 x0 x1 x2 x3 x4→p2 x0 x1 x2 x3 x4→p3 x0 x1 x2 x3 x4→p4 x0 x1 x2 x3 x4→G):G:=xE5_4 h fun x0 x1 x2 x3 x4 h0 h1 h2 h=>k x0 x1 x2 x3 x4 h0 h1 h2 h.1 h.2
theorem xE5_6{p0 p1 p2 p3 p4 p5:A0→A1→A2→A3→A4→Prop}(h:∃x0,∃x1,∃x2,∃x3,∃x4,p0 x0 x1 x2 x3 x4∧p1 x0 x1 x2 x3 x4∧p2 x0 x1 x2 x3 x4∧p3 x0 x1 x2 x3 x4∧p4 x0 x1 x2 x3 x4∧p5 x0 x1 x2 x3 x4)(k:∀x0 x1 x2 x3 x4,p0 x0 x1 x2 x3 x4→p1 x0 x1 x2 x3 x4→p2 x0 x1 x2 x3 x4→p3 x0 x1 x2 x3 x4→p4 x0 x1 x2 x3 x4→p5 x0 x1 x2 x3 x4→G):G:=xE5_5 h fun x0 x1 x2 x3 x4 h0 h1 h2 h3 h=>k x0 x1 x2 x3 x4 h0 h1 h2 h3 h.1 h.2
theorem xE5_7{p0 p1 p2 p3 p4 p5 p6:A0→A1→A2→A3→A4→Prop}(h:∃x0,∃x1,∃x2,∃x3,∃x4,p0 x0 x1 x2 x3 x4∧p1 x0 x1 x2 x3 x4∧p2 x0 x1 x2 x3 x4∧p3 x0 x1 x2 x3 x4∧p4 x0 x1 x2 x3 x4∧p5 x0 x1 x2 x3 x4∧p6 x0 x1 x2 x3 x4)(k:∀x0 x1 x2 x3 x4,p0 x0 x1 x2 x3 x4→p1 x0 x1 x2 x3 x4→p2 x0 x1 x2 x3 x4→p3 x0 x1 x2 x3 x4→p4 x0 x1 x2 x3 x4→p5 x0 x1 x2 x3 x4→p6 x0 x1 x2 x3 x4→G):G:=xE5_6 h fun x0 x1 x2 x3 x4 h0 h1 h2 h3 h4 h=>k x0 x1 x2 x3 x4 h0 h1 h2 h3 h4 h.1 h.2
theorem xE6_1{p0:A0→A1→A2→A3→A4→A5→Prop}(h:∃x0,∃x1,∃x2,∃x3,∃x4,∃x5,p0 x0 x1 x2 x3 x4 x5)(k:∀x0 x1 x2 x3 x4 x5,p0 x0 x1 x2 x3 x4 x5→G):G:=h.elim fun x0 h=>xE5_1 h fun x1 x2 x3 x4 x5 h=>k x0 x1 x2 x3 x4 x5 h
theorem xE7_1{p0:A0→A1→A2→A3→A4→A5→A6→Prop}(h:∃x0,∃x1,∃x2,∃x3,∃x4,∃x5,∃x6,p0 x0 x1 x2 x3 x4 x5 x6)(k:∀x0 x1 x2 x3 x4 x5 x6,p0 x0 x1 x2 x3 x4 x5 x6→G):G:=h.elim fun x0 h=>xE6_1 h fun x1 x2 x3 x4 x5 x6 h=>k x0 x1 x2 x3 x4 x5 x6 h
theorem xE7_2{p0 p1:A0→A1→A2→A3→A4→A5→A6→Prop}(h:∃x0,∃x1,∃x2,∃x3,∃x4,∃x5,∃x6,p0 x0 x1 x2 x3 x4 x5 x6∧p1 x0 x1 x2 x3 x4 x5 x6)(k:∀x0 x1 x2 x3 x4 x5 x6,p0 x0 x1 x2 x3 x4 x5 x6→p1 x0 x1 x2 x3 x4 x5 x6→G):G:=xE7_1 h fun x0 x1 x2 x3 x4 x5 x6 h=>k x0 x1 x2 x3 x4 x5 x6 h.1 h.2
theorem xE7_3{p0 p1 p2:A0→A1→A2→A3→A4→A5→A6→Prop}(h:∃x0,∃x1,∃x2,∃x3,∃x4,∃x5,∃x6,p0 x0 x1 x2 x3 x4 x5 x6∧p1 x0 x1 x2 x3 x4 x5 x6∧p2 x0 x1 x2 x3 x4 x5 x6)(k:∀x0 x1 x2 x3 x4 x5 x6,p0 x0 x1 x2 x3 x4 x5 x6→p1 x0 x1 x2 x3 x4 x5 x6→p2 x0 x1 x2 x3 x4 x5 x6→G):G:=xE7_2 h fun x0 x1 x2 x3 x4 x5 x6 h0 h=>k x0 x1 x2 x3 x4 x5 x6 h0 h.1 h.2
theorem xE7_4{p0 p1 p2 p3:A0→A1→A2→A3→A4→A5→A6→Prop}(h:∃x0,∃x1,∃x2,∃x3,∃x4,∃x5,∃x6,p0 x0 x1 x2 x3 x4 x5 x6∧p1 x0 x1 x2 x3 x4 x5 x6∧p2 x0 x1 x2 x3 x4 x5 x6∧p3 x0 x1 x2 x3 x4 x5 x6)(k:∀x0 x1 x2 x3 x4 x5 x6,p0 x0 x1 x2 x3 x4 x5 x6→p1 x0 x1 x2 x3 x4 x5 x6→p2 x0 x1 x2 x3 x4 x5 x6→p3 x0 x1 x2 x3 x4 x5 x6→G):G:=xE7_3 h fun x0 x1 x2 x3 x4 x5 x6 h0 h1 h=>k x0 x1 x2 x3 x4 x5 x6 h0 h1 h.1 h.2
theorem xE7_5{p0 p1 p2 p3 p4:A0→A1→A2→A3→A4→A5→A6→Prop}(h:∃x0,∃x1,∃x2,∃x3,∃x4,∃x5,∃x6,p0 x0 x1 x2 x3 x4 x5 x6∧p1 x0 x1 x2 x3 x4 x5 x6∧p2 x0 x1 x2 x3 x4 x5 x6∧p3 x0 x1 x2 x3 x4 x5 x6∧p4 x0 x1 x2 x3 x4 x5 x6)(k:∀x0 x1 x2 x3 x4 x5 x6,p0 x0 x1 x2 x3 x4 x5 x6→p1 x0 x1 x2 x3 x4 x5 x6→p2 x0 x1 x2 x3 x4 x5 x6→p3 x0 x1 x2 x3 x4 x5 x6→p4 x0 x1 x2 x3 x4 x5 x6→G):G:=xE7_4 h fun x0 x1 x2 x3 x4 x5 x6 h0 h1 h2 h=>k x0 x1 x2 x3 x4 x5 x6 h0 h1 h2 h.1 h.2
theorem xE7_6{p0 p1 p2 p3 p4 p5:A0→A1→A2→A3→A4→A5→A6→Prop}(h:∃x0,∃x1,∃x2,∃x3,∃x4,∃x5,∃x6,p0 x0 x1 x2 x3 x4 x5 x6∧p1 x0 x1 x2 x3 x4 x5 x6∧p2 x0 x1 x2 x3 x4 x5 x6∧p3 x0 x1 x2 x3 x4 x5 x6∧p4 x0 x1 x2 x3 x4 x5 x6∧p5 x0 x1 x2 x3 x4 x5 x6)(k:∀x0 x1 x2 x3 x4 x5 x6,p0 x0 x1 x2 x3 x4 x5 x6→p1 x0 x1 x2 x3 x4 x5 x6→p2 x0 x1 x2 x3 x4 x5 x6→p3 x0 x1 x2 x3 x4 x5 x6→p4 x0 x1 x2 x3 x4 x5 x6→p5 x0 x1 x2 x3 x4 x5 x6→G):G:=xE7_5 h fun x0 x1 x2 x3 x4 x5 x6 h0 h1 h2 h3 h=>k x0 x1 x2 x3 x4 x5 x6 h0 h1 h2 h3 h.1 h.2
end
theorem Rk{α:Type _}{x:α}{P:Prop}(h:none=some x):P:=nomatch h
theorem QL{α:Type _}{x:α}{P:Prop}(h:some x=none):P:=nomatch h
theorem CS{P:Prop}(h:false=true):P:=nomatch h
theorem QH{α β:Type _}{a a':α}{b b':β}{G:Prop}(h:some (a,b)=some (a',b'))(k:a=a'→b=b'→G):G:=by cases h;exact k rfl rfl
theorem QI{α β:Type _}{a a':α}{b b':β}{G:Prop}(h:(a,b)=(a',b'))(k:a=a'→b=b'→G):G:=by cases h;exact k rfl rfl
theorem QG{α β γ:Type _}{a a':α}{b b':β}{c c':γ}{G:Prop}(h:some (a,b,c)=some (a',b',c'))(k:a=a'→b=b'→c=c'→G):G:=by cases h;exact k rfl rfl rfl
theorem Rj{α:Type _}{a a':α}{l l':List α}{G:Prop}(h:a::l=a'::l')(k:a=a'→l=l'→G):G:=by cases h;exact k rfl rfl
theorem QU{α:Type _}{a a':α}{G:Prop}(h:some a=some a')(k:a=a'→G):G:=by cases h;exact k rfl
theorem QT{α:Type _}{a:α}{motive:(c:α)→some a=some c→Prop}(m:motive a rfl){c:α}(h:some a=some c):motive c h:=by cases(h);exact m
theorem QM{α β:Type _}{a:α}{b:β}{motive:(c:α)→(d:β)→some (a,b)=some (c,d)→Prop}(m:motive a b rfl){c:α}{d:β}(h:some (a,b)=some (c,d)):motive c d h:=by cases(h);exact m
theorem QP{α β γ:Type _}{a:α}{b:β}{c:γ}{motive:(x:α)→(y:β)→(z:γ)→some (a,b,c)=some (x,y,z)→Prop}(m:motive a b c rfl){x:α}{y:β}{z:γ}(h:some (a,b,c)=some (x,y,z)):motive x y z h:=by cases(h);exact m
theorem QX{α β:Type _}{a:α}{b:β}{motive:(c:α)→(d:β)→(a,b)=(c,d)→Prop}(m:motive a b rfl){c:α}{d:β}(h:(a,b)=(c,d)):motive c d h:=by cases(h);exact m
theorem jO{α:Type _}{motive:Option α→Prop}(t:Option α)(none:motive .none)(some:∀val,motive (.some val)):motive t:=Option.casesOn t none some
theorem jL{α:Type _}{motive:List α→Prop}(t:List α)(nil:motive [])(cons:∀head tail,motive (head::tail)):motive t:=List.casesOn t nil cons
theorem jT{motive:Bool→Prop}(t:Bool)(false:motive .false)(true:motive .true):motive t:=Bool.casesOn t false true
theorem jU{motive:Nat→Prop}(t:Nat)(zero:motive 0)(succ:∀n,motive (n+1)):motive t:=Nat.casesOn t zero succ
theorem jW{α β:Type _}{motive:α×β→Prop}(t:α×β)(mk:∀fst snd,motive (fst,snd)):motive t:=Prod.casesOn t mk
theorem jX{a b:Prop}{motive:a∨b→Prop}(t:a∨b)(inl:∀h,motive (.inl h))(inr:∀h,motive (.inr h)):motive t:=Or.casesOn t inl inr
@[elab_as_elim] theorem mR{α:Sort _}{a b:α}{P:α→Prop}(h:a=b)(m:P b):P a:=h▸m
@[elab_as_elim] theorem mL{α:Sort _}{a b:α}{P:α→Prop}(h:a=b)(m:P a):P b:=h▸m
theorem nine{g:Nat}(h:1≤g∧g≤9):g=1∨g=2∨g=3∨g=4∨g=5∨g=6∨g=7∨g=8∨g=9:=(by decide:∀g,g<10→1≤g→g=1∨g=2∨g=3∨g=4∨g=5∨g=6∨g=7∨g=8∨g=9) g (Nat.lt_succ_of_le h.2) h.1
theorem RA{j m n:Nat}(h:j+(m+1)=n):j<n:=h▸Nat.lt_add_of_pos_right (Nat.succ_pos m)
theorem Q8{j m n:Nat}(h:j+(m+1)=n):j+1+m=n:=(Nat.succ_add_eq_add_succ j m).trans h
theorem Ru{j n:Nat}(h:j+0=n):n≤j:=Nat.le_of_eq h.symm
theorem oQ{m:Nat}(n:Nat)(h:m<n):∃k,n=k+1:=⟨n-1,(Nat.sub_add_cancel (Nat.zero_lt_of_lt h)).symm⟩
theorem oD{m n:Nat}(h:m<n):n=n-1+1:=(Nat.sub_add_cancel (Nat.zero_lt_of_lt h)).symm
theorem Rp{m n:Nat}(h:m+0=n):m=n:=h
theorem Rl{j m n k:Nat}(h:k=n)(g:j+(m+1)=n):j<k:=h▸RA g
theorem Rn{j n k:Nat}(h:k=n)(g:j+0=n):k≤j:=h▸Ru g
theorem Rz{x:Int}(h:¬0≤x)(g:-1≤x):x = -1:=Int.le_antisymm (Int.le_sub_one_of_lt (Int.not_le.mp h)) g
theorem Q9{p j:Nat}{x:Int}(h:x=p)(g:x<j):p<j:=Int.ofNat_lt.mp (h▸g)
theorem Rv{x:Int}(h:1≤x):x=(x.toNat:Int):=(Int.toNat_of_nonneg (Int.le_trans (by decide) h)).symm
theorem Ry{x:Int}{g:Nat}(h:x=g)(k:1≤x∧x≤9):1≤g∧g≤9:=by subst h;exact⟨Int.ofNat_le.mp k.1,Int.ofNat_le.mp k.2⟩
theorem QC{x:Int}{g:Nat}(h:x=g):x.toNat=g:=h▸rfl
local macro_rules | `(tactic| obtain ⟨$[$ps:rcasesPat],*⟩ := $e) => do
 let m := ps.size
 let mut as := #[]
 for k in [0:m] do as := as.push (← `(tactic| refine $(Lean.mkIdent (.str `Mine.Tactic s!"xE{k}_{m - k}")) $e ?_))
 let c ← match e.raw with | .ident .. => `(tactic| try clear $e) | _ => `(tactic| skip)
 `(tactic| first | ((first $[| $as:tactic]*); $c:tactic; rintro $[$ps:rcasesPat]*) | obtain (⟨$[$ps:rcasesPat],*⟩) := $e)
local macro_rules
 | `(tactic| rw [$rs,*]) => do
  let mut as := #[]
  for r in rs.getElems do
   let t : Lean.TSyntax `term := ⟨r.raw[1]⟩
   let n := Lean.mkIdent (.str `Mine.Tactic (if r.raw[0].getNumArgs == 0 then "mR" else "mL"))
   as := as.push (← `(tactic| first | refine $n $t ?_ | refine $n ($t ..) ?_ | rewrite [$r]))
  `(tactic| (($[$as:tactic];*); try (with_reducible rfl)))
local macro_rules | `(tactic| omega) => `(tactic| first | lia -abstractProof | omega +splitDisjunctions)
section
open PySem
set_option backward.eqns.nonrecursive false
set_option backward.eqns.deepRecursiveSplit false
noncomputable abbrev PP:=PySem.Challenge.pw_pf0153_01
inductive V where
 |none
 |bool (b:Bool)
 |int (i:Int)
 |str (s:List Nat)
 |tup (l:List V)
 |ref (r i:Nat)
 |kl (l:List V)
 deriving Inhabited
theorem cW:type_of% @V.casesOn.{0}:=@V.casesOn
inductive O where
 |list (l:List V)
 |dict (l:List (V×V))
 |inst (C:Addr) (l:List (Nat×V))
 deriving Inhabited
noncomputable abbrev Hp:=List (List O)
noncomputable abbrev bJ:=List (Option V)
noncomputable def Hp.get(H:Hp)(r i:Nat):Option O:=match H[r]? with|some R=>R[i]?|none=>none
noncomputable def Hp.put(H:Hp)(r i:Nat)(o:O):Hp:=match H[r]? with|some R=>H.set r (R.set i o)|none=>H
noncomputable def O.fits:O→Bool
 |.list l=>decide (l.length≤9000)
 |.dict l=>decide (l.length≤900)
 |.inst _ _=>true
noncomputable def Hp.new(H:Hp)(r:Nat)(o:O):Option (V×Hp):=match H[r]? with
 |some R=>if o.fits then some (.ref r R.length,H.set r (R++[o]))else none
 |none=>none
noncomputable abbrev Ev:=bJ→Nat→Hp→Option (V×Hp)
noncomputable abbrev Tv:=bJ→Nat→Hp→Option (Bool×Hp)
noncomputable abbrev Md:=List V→Nat→Hp→Option (V×Hp)
inductive Fl where
 |next
 |ret (v:V)
noncomputable abbrev St:=bJ→Nat→Hp→Option (Fl×bJ×Hp)
inductive It where
 |live (r i:Nat)
 |fixed (l:List V)
 |rev (r i n:Nat)
noncomputable abbrev Iv:=bJ→Nat→Hp→Option (It×Hp)
noncomputable def V.isInt:V→Option Int
 |.int i=>some i
 |_=>.none
noncomputable def fu:V→V→Bool
 |.int a,.int b=>decide (a=b)
 |.str a,.str b=>decide (a=b)
 |_,_=>false
noncomputable def cg:V→Bool
 |.int _=>true
 |.str _=>true
 |_=>false
noncomputable def br:V→Nat
 |.int _=>1
 |.str _=>2
 |_=>0
def aW(x:V)(l:List (V×V)):Bool:=l.all fun p=>Nat.beq (br p.1) (br x)
noncomputable def dG:List (V×V)→V→Option V
 |[],_=>.none
 |(k,v)::l,x=>if fu k x then some v else dG l x
noncomputable def gM:List (V×V)→V→V→List (V×V)
 |[],x,v=>[(x,v)]
 |(k,w)::l,x,v=>if fu k x then(k,v)::l else(k,w)::gM l x v
noncomputable def Ae:List (Nat×V)→Nat→Option V
 |[],_=>.none
 |(k,v)::l,x=>if Nat.beq k x then some v else Ae l x
noncomputable def iS:List (Nat×V)→Nat→V→List (Nat×V)
 |[],x,v=>[(x,v)]
 |(k,w)::l,x,v=>if Nat.beq k x then(k,v)::l else(k,w)::iS l x v
noncomputable def Cs:V→V→Option Bool
 |.none,.none=>some true
 |.bool a,.bool b=>some (a==b)
 |.int a,.int b=>some (decide (a=b))
 |.str a,.str b=>some (decide (a=b))
 |_,_=>.none
noncomputable def gU(f:V→V→Option Bool):List V→List V→Option Bool
 |a::l,b::m=>match f a b,gU f l m with
  |some x,some y=>some (x&&y)
  |_,_=>.none
 |_,_=>some true
def Ac:V→V→Option Bool
 |.tup a,.tup b=>(gU Cs a b).map fun x=>x&&decide (a.length=b.length)
 |a,b=>Cs a b
noncomputable def fD(i:Int)(n:Nat):Option Nat:=if 0≤i then(if i<n then some i.toNat else .none)else(if 0≤i+n then some (i+n).toNat else .none)
noncomputable def cu(i:Int)(n:Nat):Nat:=if 0≤i then min i.toNat n else(i+n).toNat
noncomputable def small(i:Int):Bool:=decide (-9223372036854775808<i)&&decide (i<9223372036854775808)
inductive Eu where
 |add|sub|mul|fdiv|mod|band|bor|shl|pow
def Be(o:Eu)(a b:Int):Option Int:=match o with
 |.add=>some (a+b)
 |.sub=>some (a-b)
 |.mul=>if small a||small b then some (a*b)else .none
 |.fdiv=>if 0<b&&decide (b.natAbs.log2<8000)then some (Int.fdiv a b)else .none
 |.mod=>if 0<b then some (Int.fmod a b)else .none
 |.band=>if 0≤a&&0≤b then some ((Nat.land a.toNat b.toNat:Nat):Int)else .none
 |.bor=>if 0≤a&&0≤b then some ((Nat.lor a.toNat b.toNat:Nat):Int)else .none
 |.shl=>if 0≤a&&a<1000&&0≤b&&b<100 then some (a*2 ^ b.toNat)else .none
 |.pow=>if 0≤a&&a<100&&0≤b&&b<1000 then some (a ^ b.toNat)else .none
noncomputable def vk:Eu→Bool
 |.add=>true
 |_=>false
def im(o:Eu)(x y:V)(q:Nat)(H:Hp):Option (V×Hp):=match x with
 |.int a=>(match y with | .int b=>(match Be o a b with|some c=>some (.int c,H) | .none=>.none)|_=>.none)
 |.str a=>(match y with | .str b=>if vk o&&decide (a.length+b.length≤9000)then some (.str (a++b),H)else .none|_=>.none)
 |.tup a=>(match y with | .tup b=>if vk o&&decide (a.length+b.length≤9000)then some (.tup (a++b),H)else .none|_=>.none)
 |.ref r i=>(match y with
  |.ref r' i'=>(match vk o with
   |true=>(match H.get r i,H.get r' i' with
    |some (.list a),some (.list b)=>H.new q (.list (a++b))
    |_,_=>.none)
   |false=>.none)
  |_=>.none)
 |_=>.none
noncomputable def dY:V→Option Bool
 |.none=>some false
 |.bool b=>some b
 |.int i=>some (decide (i≠0))
 |.tup l=>if l.length≤9000 then some (!l.isEmpty)else .none
 |_=>.none
inductive COp where
 |eq|ne|lt|le|gt|ge|is|isnot|isin|notin
def yl(H:Hp):V→V→Option Bool
 |.ref r i,.ref r' i'=>match H.get r i,H.get r' i' with
  |some (.list a),some (.list b)=>if a.length=b.length then gU Ac a b else some false
  |_,_=>.none
 |a,b=>Ac a b
def Lw(H:Hp)(x:V):V→Option Bool
 |.tup l=>match x with
  |.str _=>if l.all (fun | .str _=>true|_=>false)then some (l.any (fu x))else .none
  |_=>.none
 |.ref r i=>match H.get r i with
  |some (.dict l)=>if cg x&&aW x l then some (dG l x).isSome else .none
  |_=>.none
 |_=>.none
noncomputable def As:V→Option Bool
 |.none=>some true
 |.kl _=>.none
 |_=>some false
def bO(o:COp)(a b:V)(H:Hp):Option Bool:=match o with
 |.eq=>yl H a b
 |.ne=>(yl H a b).map (!·)
 |.lt=>match a,b with | .int x,.int y=>some (decide (x<y))|_,_=>.none
 |.le=>match a,b with | .int x,.int y=>some (decide (x≤y))|_,_=>.none
 |.gt=>match a,b with | .int x,.int y=>some (decide (x>y))|_,_=>.none
 |.ge=>match a,b with | .int x,.int y=>some (decide (x≥y))|_,_=>.none
 |.is=>match b with | .none=>As a|_=>.none
 |.isnot=>match b with | .none=>(As a).map (!·)|_=>.none
 |.isin=>Lw H a b
 |.notin=>(Lw H a b).map (!·)
noncomputable def aw:Ev:=fun _ _ _=>.none
noncomputable def ai(v:V):Ev:=fun _ _ H=>some (v,H)
noncomputable def aa(i:Nat):Ev:=fun ρ _ H=>match ρ[i]? with|some (some v)=>some (v,H)|_=>.none
def aI(o:Eu)(a b:Ev):Ev:=fun ρ q H=>match a ρ q H with
 |some (x,H)=>(match b ρ q H with|some (y,H)=>im o x y q H | .none=>.none)
 |.none=>.none
noncomputable def iE(a:Ev):Ev:=fun ρ q H=>match a ρ q H with|some (.int i,H)=>some (.int (-i),H)|_=>.none
def ae(a:Ev)(f:Nat):Ev:=fun ρ q H=>match a ρ q H with
 |some (.ref r i,H)=>(match H.get r i with|some (.inst _ l)=>(match Ae l f with|some v=>some (v,H) | .none=>.none)|_=>.none)
 |_=>.none
def idx(x i:V)(H:Hp):Option V:=match x,i with
 |.tup l,.int k=>if small k then(match fD k l.length with|some j=>l[j]? | .none=>.none)else .none
 |.str s,.int k=>if small k then(match fD k s.length with|some j=>(s[j]?).map (fun c=>.str [c]) | .none=>.none)else .none
 |.ref r a,i=>(match H.get r a with
  |some (.list l)=>(match i with | .int k=>(match fD k l.length with|some j=>l[j]? | .none=>.none)|_=>.none)
  |some (.dict l)=>if cg i&&aW i l then dG l i else .none
  |_=>.none)
 |_,_=>.none
def aG(a b:Ev):Ev:=fun ρ q H=>match a ρ q H with
 |some (x,H)=>(match b ρ q H with|some (y,H)=>(match idx x y H with|some v=>some (v,H) | .none=>.none) | .none=>.none)
 |.none=>.none
def nJ(a:Option Ev):Ev:=match a with|some a=>a | .none=>ai .none
def gi(l:List V)(a b:V):Option (List V):=
 match(match a with | .none=>some 0 | .int i=>some (cu i l.length)|_=>.none),(match b with | .none=>some l.length | .int i=>some (cu i l.length)|_=>.none)with
 |some i,some j=>some ((l.take j).drop i)
 |_,_=>.none
def bV(a:Ev)(lo hi:Option Ev):Ev:=fun ρ q H=>match a ρ q H with
 |some (x,H)=>(match nJ lo ρ q H with
  |some (i,H)=>(match nJ hi ρ q H with
   |some (j,H)=>(match x with
    |.tup l=>(match i,j with | .none,.int k=>if 1≤k∧k<l.length∧l.length≤9000 then some (.tup (l.take k.toNat),H)else .none|_,_=>.none)
    |.ref r k=>(match H.get r k with|some (.list l)=>(match gi l i j with|some m=>H.new q (.list m) | .none=>.none)|_=>.none)
    |.kl l=>(match gi l i j with|some m=>H.new q (.list m) | .none=>.none)
    |_=>.none)
   |.none=>.none)
  |.none=>.none)
 |.none=>.none
noncomputable def cs:List Ev→bJ→Nat→Hp→Option (List V×Hp)
 |[],_,_,H=>some ([],H)
 |a::l,ρ,q,H=>match a ρ q H with
  |some (x,H)=>(match cs l ρ q H with|some (xs,H)=>some (x::xs,H) | .none=>.none)
  |.none=>.none
noncomputable def bP(l:List Ev):Ev:=fun ρ q H=>match cs l ρ q H with|some (xs,H)=>if xs.length≤9000 then some (.tup xs,H)else .none | .none=>.none
def bD(l:List Ev):Ev:=fun ρ q H=>match cs l ρ q H with|some (xs,H)=>H.new q (.list xs) | .none=>.none
noncomputable def Nf:List V→List V→List (V×V)→Option (List (V×V))
 |[],[],d=>some d
 |k::ks,v::vs,d=>if cg k&&aW k d then Nf ks vs (gM d k v)else .none
 |_,_,_=>.none
noncomputable def OB:List (Ev×Ev)→bJ→Nat→Hp→Option (List V×List V×Hp)
 |[],_,_,H=>some ([],[],H)
 |(a,b)::l,ρ,q,H=>match a ρ q H with
  |some (x,H)=>(match b ρ q H with
   |some (y,H)=>(match OB l ρ q H with|some (xs,ys,H)=>some (x::xs,y::ys,H) | .none=>.none)
   |.none=>.none)
  |.none=>.none
def bN(l:List (Ev×Ev)):Ev:=fun ρ q H=>match OB l ρ q H with
 |some (ks,vs,H)=>(match Nf ks vs []with|some d=>H.new q (.dict d) | .none=>.none)
 |.none=>.none
noncomputable def aj(F:Md)(l:List Ev):Ev:=fun ρ q H=>match cs l ρ q H with|some (xs,H)=>F xs q H | .none=>.none
def gG(cands:List (Addr×Md))(a:Ev)(l:List Ev):Ev:=fun ρ q H=>match a ρ q H with
 |some (.ref r i,H)=>(match H.get r i with
  |some (.inst C _)=>(match cands.lookup C with
   |some F=>(match cs l ρ q H with|some (xs,H)=>F (.ref r i::xs) q H | .none=>.none)
   |.none=>.none)
  |_=>.none)
 |_=>.none
noncomputable def fE(a b:Ev):Ev:=fun ρ q H=>match a ρ q H with
 |some (.ref r i,H)=>(match H.get r i with
  |some (.list _)=>(match b ρ q H with
   |some (x,H)=>(match H.get r i with|some (.list l)=>if l.length<9000 then some (.none,H.put r i (.list (l++[x])))else .none|_=>.none)
   |.none=>.none)
  |_=>.none)
 |_=>.none
def mE(a b:Ev)(c:Option Ev):Ev:=fun ρ q H=>match a ρ q H with
 |some (.ref r i,H)=>(match H.get r i with
  |some (.dict _)=>(match b ρ q H with
   |some (x,H)=>(match nJ c ρ q H with
    |some (y,H)=>(match H.get r i with|some (.dict l)=>if cg x&&aW x l then(match dG l x with|some v=>some (v,H) | .none=>some (y,H))else .none|_=>.none)
    |.none=>.none)
   |.none=>.none)
  |_=>.none)
 |_=>.none
noncomputable def tT:List V→Option (List Nat)
 |[]=>some []
 |.str s::l=>(tT l).map (s ++ ·)
 |_::_=>.none
def qZ(a b:Ev):Ev:=fun ρ q H=>match a ρ q H with
 |some (.str [],H)=>(match b ρ q H with
  |some (.ref r i,H)=>(match H.get r i with|some (.list l)=>(match tT l with|some s=>if s.length<1000 then some (.str s,H)else .none | .none=>.none)|_=>.none)
  |_=>.none)
 |_=>.none
noncomputable def d7:List V→Option (List Int)
 |[]=>some []
 |.int i::l=>(d7 l).map (i :: ·)
 |_::_=>.none
noncomputable def oP:List V→Option (List (List Nat))
 |[]=>some []
 |.str i::l=>(oP l).map (i :: ·)
 |_::_=>.none
noncomputable def CD(x:Int):List Int→List Int
 |[]=>[x]
 |y::l=>if x<y then x::y::l else y::CD x l
def BO(l:List Int):List Int:=l.foldl (fun s x=>CD x s) []
noncomputable def Ol:List Nat→List Nat→Bool
 |[],[]=>false
 |[],_::_=>true
 |_::_,[]=>false
 |a::l,b::m=>if Nat.blt a b then true else if Nat.blt b a then false else Ol l m
noncomputable def CH(x:List Nat):List (List Nat)→List (List Nat)
 |[]=>[x]
 |y::l=>if Ol x y then x::y::l else y::CH x l
def vm(l:List (List Nat)):List (List Nat):=l.foldl (fun s x=>CH x s) []
def xT(l:List V):Option (List V):=if 64≤l.length then .none else match d7 l with
 |some is=>some ((BO is).map .int)
 |.none=>(match oP l with|some ss=>some ((vm ss).map .str) | .none=>.none)
noncomputable def Ql(l:List Int):List Int:=l.foldl (fun s x=>if s.contains x then s else s++[x]) []
inductive Bi where
 |len|min|max|sorted|sortedset|list|tuple|dict|abs|int|ord|sum
noncomputable def o9:List V→List (V×V)→Option (List (V×V))
 |[],d=>some d
 |.tup [k,v]::l,d=>if cg k&&aW k d&&decide (d.length<900)then o9 l (gM d k v)else .none
 |_,_=>.none
theorem xZ{k v:V}{l:List V}{d:List (V×V)}:o9 (.tup [k,v]::l) d=if cg k&&aW k d&&decide (d.length<900)then o9 l (gM d k v)else .none:=rfl
noncomputable abbrev FX:=V→Nat→Hp→Option (V×Hp)
noncomputable def one(f:FX):List V→Nat→Hp→Option (V×Hp)
 |[x]=>f x
 |_=>fun _ _=>.none
noncomputable def tS:FX:=fun x _ H=>match x with
 |.str s=>if s.length≤9000 then some (.int s.length,H)else .none
 |.tup l=>if l.length≤9000 then some (.int l.length,H)else .none
 |.ref r i=>(match H.get r i with|some (.list l)=>some (.int l.length,H)|some (.dict l)=>some (.int l.length,H)|_=>.none)
 |_=>.none
def Ip:FX:=fun x _ H=>match x with
 |.ref r i=>(match H.get r i with|some (.list l)=>(match d7 l with|some (x::is)=>some (.int (is.foldl min x),H)|_=>.none)|_=>.none)
 |_=>.none
noncomputable def KQ:List V→Nat→Hp→Option (V×Hp)
 |[.int a,.int b]=>fun _ H=>some (.int (max a b),H)
 |_=>fun _ _=>.none
def vG:FX:=fun x q H=>match x with
 |.ref r i=>(match H.get r i with
  |some (.list l)=>(match xT l with|some m=>H.new q (.list m) | .none=>.none)
  |some (.dict l)=>(match xT (l.map (·.1))with|some m=>H.new q (.list m) | .none=>.none)
  |_=>.none)
 |_=>.none
noncomputable def Dn:FX:=fun x q H=>match x with
 |.ref r i=>(match H.get r i with
  |some (.list [.int j])=>if j=11 then H.new q (.list [.int j])else .none
  |_=>.none)
 |_=>.none
noncomputable def yZ:FX:=fun x q H=>match x with
 |.ref r i=>(match H.get r i with|some (.list l)=>H.new q (.list l)|some (.dict l)=>H.new q (.list (l.map (·.1)))|_=>.none)
 |.tup l=>H.new q (.list l)
 |_=>.none
noncomputable def DS:FX:=fun x _ H=>match x with
 |.ref r i=>(match H.get r i with|some (.list l)=>some (.tup l,H)|_=>.none)
 |.tup l=>some (.tup l,H)
 |_=>.none
def DN:FX:=fun x q H=>match x with
 |.ref r i=>(match H.get r i with|some (.list l)=>(match o9 l []with|some d=>H.new q (.dict d) | .none=>.none)|_=>.none)
 |_=>.none
noncomputable def KV:FX:=fun x _ H=>match x with | .int a=>some (.int a.natAbs,H)|_=>.none
noncomputable def KM:FX:=fun x _ H=>match x with | .int a=>some (.int a,H) | .bool a=>some (.int (if a then 1 else 0),H)|_=>.none
noncomputable def K0:FX:=fun x _ H=>match x with | .str [c]=>some (.int c,H)|_=>.none
def IQ:FX:=fun x _ H=>match x with
 |.ref r i=>(match H.get r i with|some (.list l)=>(match d7 l with|some is=>if is.all (fun x=>decide (-1000000000000<x)&&decide (x<1000000000000))then some (.int is.sum,H)else .none | .none=>.none)|_=>.none)
 |_=>.none
def bi:Bi→List V→Nat→Hp→Option (V×Hp)
 |.len=>one tS
 |.min=>one Ip
 |.max=>KQ
 |.sorted=>one vG
 |.sortedset=>one Dn
 |.list=>one yZ
 |.tuple=>one DS
 |.dict=>one DN
 |.abs=>one KV
 |.int=>one KM
 |.ord=>one K0
 |.sum=>one IQ
theorem eC{f:FX}{xs:List V}{q:Nat}{H:Hp}{w:V×Hp}(h:one f xs q H=some w):∃x,xs=[x]∧f x q H=some w:=by
 rcases xs with _|⟨x,_|⟨y,xs⟩⟩
 ·exact Rk h
 ·exact⟨x,rfl,h⟩
 ·exact Rk h
def cK(b:Bi)(l:List Ev):Ev:=fun ρ q H=>match cs l ρ q H with|some (xs,H)=>bi b xs q H | .none=>.none
def aV(a:Ev):Tv:=fun ρ q H=>match a ρ q H with|some (v,H)=>(match dY v with|some b=>some (b,H) | .none=>.none) | .none=>.none
def aA(o:COp)(a b:Ev):Tv:=fun ρ q H=>match a ρ q H with
 |some (x,H)=>(match b ρ q H with|some (y,H)=>(match bO o x y H with|some t=>some (t,H) | .none=>.none) | .none=>.none)
 |.none=>.none
def gy(o o':COp)(a b c:Ev):Tv:=fun ρ q H=>match a ρ q H with
 |some (x,H)=>(match b ρ q H with
  |some (y,H)=>(match bO o x y H with
   |some true=>(match c ρ q H with|some (z,H)=>(match bO o' y z H with|some t=>some (t,H) | .none=>.none) | .none=>.none)
   |some false=>some (false,H)
   |.none=>.none)
  |.none=>.none)
 |.none=>.none
noncomputable def lK(a:Tv):Tv:=fun ρ q H=>match a ρ q H with|some (b,H)=>some (!b,H) | .none=>.none
noncomputable def iU:List Tv→Tv
 |[]=>fun _ _ H=>some (true,H)
 |a::l=>fun ρ q H=>match a ρ q H with|some (true,H)=>iU l ρ q H|some (false,H)=>some (false,H) | .none=>.none
noncomputable def Ds:List Tv→Tv
 |[]=>fun _ _ H=>some (false,H)
 |a::l=>fun ρ q H=>match a ρ q H with|some (true,H)=>some (true,H)|some (false,H)=>Ds l ρ q H | .none=>.none
noncomputable def nU:Tv:=fun _ _ _=>.none
noncomputable def bE(a:Tv):Ev:=fun ρ q H=>match a ρ q H with|some (b,H)=>some (.bool b,H) | .none=>.none
noncomputable def jZ:List Ev→Ev
 |[]=>fun _ _ _=>.none
 |[a]=>a
 |a::l=>fun ρ q H=>match a ρ q H with
  |some (v,H)=>(match dY v with|some true=>jZ l ρ q H|some false=>some (v,H) | .none=>.none)
  |.none=>.none
noncomputable def Hl:List Ev→Ev
 |[]=>fun _ _ _=>.none
 |[a]=>a
 |a::l=>fun ρ q H=>match a ρ q H with
  |some (v,H)=>(match dY v with|some true=>some (v,H)|some false=>Hl l ρ q H | .none=>.none)
  |.none=>.none
noncomputable def t9(t:Tv)(a b:Ev):Ev:=fun ρ q H=>match t ρ q H with|some (true,H)=>a ρ q H|some (false,H)=>b ρ q H | .none=>.none
noncomputable def LX(v:V)(H:Hp):Option It:=match v with
 |.tup l=>some (.fixed l)
 |.str s=>some (.fixed (s.map fun c=>.str [c]))
 |.ref r i=>(match H.get r i with|some (.list _)=>some (.live r i)|_=>.none)
 |_=>.none
def bn(a:Ev):Iv:=fun ρ q H=>match a ρ q H with|some (v,H)=>(match LX v H with|some it=>some (it,H) | .none=>.none) | .none=>.none
noncomputable def bw(a:Int):Nat→List V
 |0=>[]
 |n+1=>.int a::bw (a+1) n
noncomputable def dJ(a:Int):Nat→List V
 |0=>[]
 |n+1=>.int a::dJ (a-1) n
def Mq:List Int→Option (List V)
 |[]=>.none
 |a::l=>match l with
  |[]=>if -100000<a∧a<100000 then some (bw 0 a.toNat)else .none
  |b::l=>match l with
   |[]=>if -100000<a∧a<100000∧-100000<b∧b<100000 then some (bw a (b-a).toNat)else .none
   |s::l=>match l with
    |[]=>if -100000<a∧a<100000∧-100000<b∧b<100000∧s = -1 then some (dJ a (a-b).toNat)else .none
    |_::_=>.none
def zB(l:List V):Option (List V):=(d7 l).bind Mq
theorem Me{a:Int}(h:-100000<a∧a<100000):zB [.int a]=some (bw 0 a.toNat):=ac h
theorem Ly{a b:Int}(h:-100000<a∧a<100000∧-100000<b∧b<100000):zB [.int a,.int b]=some (bw a (b-a).toNat):=ac h
def bk(l:List Ev):Iv:=fun ρ q H=>match cs l ρ q H with|some (xs,H)=>(match zB xs with|some m=>some (.fixed m,H) | .none=>.none) | .none=>.none
noncomputable def C2(a:Ev):Iv:=fun ρ q H=>match a ρ q H with
 |some (.ref r i,H)=>(match H.get r i with|some (.list l)=>some (.rev r i l.length,H)|_=>.none)
 |_=>.none
noncomputable def ji:Nat→List Nat→List V
 |_,[]=>[]
 |n,c::l=>.tup [.int n,.str [c]]::ji (n+1) l
def rA(a:Ev):Iv:=fun ρ q H=>match a ρ q H with|some (.str s,H)=>some (.fixed (ji 0 s),H)|_=>.none
noncomputable def kU:Iv:=fun _ _ _=>.none
noncomputable def item(it:It)(j:Nat)(H:Hp):Option (Option V):=match it with
 |.fixed l=>some l[j]?
 |.live r i=>(match H.get r i with|some (.list l)=>some l[j]?|_=>.none)
 |.rev r i n=>(match H.get r i with|some (.list l)=>if l.length=n then some (if j<n then l[n-1-j]? else .none)else .none|_=>.none)
inductive Tn where
 |nm (i:Nat)
 |tp (l:List Nat)
noncomputable def fX:List Nat→List V→bJ→Option bJ
 |[],[],ρ=>some ρ
 |i::l,v::m,ρ=>fX l m (ρ.set i (some v))
 |_,_,_=>.none
def nq(t:Tn)(v:V)(ρ:bJ):Option bJ:=match t with
 |.nm i=>some (ρ.set i (some v))
 |.tp l=>match v with | .tup m=>fX l m ρ|_=>.none
noncomputable def dC(tg:Tn)(tests:List Tv)(elt:Ev)(it:It):Nat→Nat→List V→Ev
 |0,_,_=>fun _ _ _=>.none
 |n+1,j,acc=>fun ρ q H=>match item it j H with
  |some .none=>H.new q (.list acc)
  |some (some v)=>(match nq tg v ρ with
   |some ρ'=>(match iU tests ρ' q H with
    |some (true,H)=>(match elt ρ' q H with|some (y,H)=>dC tg tests elt it n (j+1) (acc++[y]) ρ' q H | .none=>.none)
    |some (false,H)=>dC tg tests elt it n (j+1) acc ρ' q H
    |.none=>.none)
   |.none=>.none)
  |.none=>.none
def bo(k:Nat)(iter:Iv)(tg:Tn)(tests:List Tv)(elt:Ev):Ev:=fun ρ q H=>match iter ρ q H with
 |some (it,H)=>dC tg tests elt it 2000 0 [] (ρ++List.replicate k .none) q H
 |.none=>.none
noncomputable def tu(tg:Tn)(tests:List Tv)(ke ve:Ev):List V→List (V×V)→Ev
 |[],acc=>fun _ q H=>H.new q (.dict acc)
 |v::ks,acc=>fun ρ q H=>match nq tg v ρ with
   |some ρ'=>(match iU tests ρ' q H with
    |some (true,H)=>(match ke ρ' q H with
     |some (x,H)=>(match ve ρ' q H with|some (y,H)=>if cg x&&aW x acc&&decide (acc.length<900)then tu tg tests ke ve ks (gM acc x y) ρ' q H else .none | .none=>.none)
     |.none=>.none)
    |some (false,H)=>tu tg tests ke ve ks acc ρ' q H
    |.none=>.none)
   |.none=>.none
def up(k:Nat)(a:Ev)(tg:Tn)(tests:List Tv)(ke ve:Ev):Ev:=fun ρ q H=>match a ρ q H with
 |some (.ref r i,H)=>(match H.get r i with
  |some (.dict l)=>tu tg tests ke ve (l.map (·.1)) [] (ρ++List.replicate k .none) q H
  |_=>.none)
 |_=>.none
inductive Tg where
 |nm (t:Tn)
 |at(o:Ev) (f:Nat)
 |ats (l:List (Ev×Nat))
 |ix (o i:Ev)
 |sl (o:Ev) (a b:Option Ev)
def fC(okf:Addr→Nat→Bool)(o:V)(f:Nat)(v:V)(H:Hp):Option Hp:=match o with
 |.ref r i=>(match H.get r i with|some (.inst C l)=>if okf C f&&decide (l.length≤90)then some (H.put r i (.inst C (iS l f v)))else .none|_=>.none)
 |_=>.none
noncomputable def i7(okf:Addr→Nat→Bool):List (Ev×Nat)→List V→bJ→Nat→Hp→Option Hp
 |[],[],_,_,H=>some H
 |(o,f)::l,v::m,ρ,q,H=>match o ρ q H with
  |some (x,H)=>(match fC okf x f v H with|some H=>i7 okf l m ρ q H | .none=>.none)
  |.none=>.none
 |_,_,_,_,_=>.none
def rO(okf:Addr→Nat→Bool)(t:Tg)(v:V)(ρ:bJ)(q:Nat)(H:Hp):Option (bJ×Hp):=match t with
 |.nm t=>(match nq t v ρ with|some ρ=>some (ρ,H) | .none=>.none)
 |.at o f=>(match o ρ q H with
  |some (x,H)=>(match fC okf x f v H with|some H=>some (ρ,H) | .none=>.none)
  |.none=>.none)
 |.ats l=>(match v with
  |.tup m=>if l.length=m.length then(match i7 okf l m ρ q H with|some H=>some (ρ,H) | .none=>.none)else .none
  |_=>.none)
 |.ix o i=>(match o ρ q H with
  |some (x,H)=>(match i ρ q H with
   |some (y,H)=>(match x with
    |.ref r a=>(match H.get r a with
     |some (.list l)=>(match y with | .int k=>if 0≤k∧k<l.length then some (ρ,H.put r a (.list (l.set k.toNat v)))else .none|_=>.none)
     |some (.dict l)=>if cg y&&aW y l&&decide (l.length<900)then some (ρ,H.put r a (.dict (gM l y v)))else .none
     |_=>.none)
    |_=>.none)
   |.none=>.none)
  |.none=>.none)
 |.sl o a b=>(match o ρ q H with
  |some (x,H)=>(match nJ a ρ q H with
   |some (i,H)=>(match nJ b ρ q H with
    |some (j,H)=>(match x,i,j,v with
     |.ref r k,.int i,.int j,.ref r' k'=>(match H.get r k,H.get r' k' with
      |some (.list l),some (.list m)=>if 0≤i∧i≤j∧j≤l.length∧(r≠r'∨k≠k')∧l.length+m.length≤9000 then some (ρ,H.put r k (.list (l.take i.toNat++m++l.drop j.toNat)))else .none
      |_,_=>.none)
     |_,_,_,_=>.none)
    |.none=>.none)
   |.none=>.none)
  |.none=>.none)
def am(okf:Addr→Nat→Bool)(t:Tg)(e:Ev):St:=fun ρ q H=>match e ρ q H with
 |some (v,H)=>(match rO okf t v ρ q H with|some (ρ,H)=>some (.next,ρ,H) | .none=>.none)
 |.none=>.none
noncomputable def bt(e:Ev):St:=fun ρ q H=>match e ρ q H with|some (_,H)=>some (.next,ρ,H) | .none=>.none
noncomputable def aF(e:Ev):St:=fun ρ q H=>match e ρ q H with|some (v,H)=>some (.ret v,ρ,H) | .none=>.none
noncomputable def gW:St:=fun _ _ _=>.none
noncomputable def aC:List St→St
 |[]=>fun ρ _ H=>some (.next,ρ,H)
 |a::l=>fun ρ q H=>match a ρ q H with
  |some (.next,ρ,H)=>aC l ρ q H
  |r=>r
noncomputable def cn(t:Tv)(a b:List St):St:=fun ρ q H=>match t ρ q H with|some (true,H)=>aC a ρ q H|some (false,H)=>aC b ρ q H | .none=>.none
noncomputable def cE(t:Tv)(b:List St):Nat→St
 |0=>fun _ _ _=>.none
 |n+1=>fun ρ q H=>match t ρ q H with
  |some (true,H)=>(match aC b ρ q H with
   |some (.next,ρ,H)=>cE t b n ρ q H
   |r=>r)
  |some (false,H)=>some (.next,ρ,H)
  |.none=>.none
noncomputable def gP(t:Tv)(b:List St):St:=cE t b 2000
noncomputable def di(tg:Tn)(it:It)(b:List St):Nat→Nat→St
 |0,_=>fun _ _ _=>.none
 |n+1,j=>fun ρ q H=>match item it j H with
  |some .none=>some (.next,ρ,H)
  |some (some v)=>(match nq tg v ρ with
   |some ρ=>(match aC b ρ q H with
    |some (.next,ρ,H)=>di tg it b n (j+1) ρ q H
    |r=>r)
   |.none=>.none)
  |.none=>.none
def bG(iter:Iv)(tg:Tn)(b:List St):St:=fun ρ q H=>match iter ρ q H with
 |some (it,H)=>di tg it b 2000 0 ρ q H
 |.none=>.none
noncomputable def gr:List V→List V→Nat→Option (List V)
 |xs,ds,n=>if xs.length≤n∧n≤xs.length+ds.length then some (xs++ds.drop (xs.length+ds.length-n))else .none
def aq(places:List Nat)(ds:List V)(size:Nat)(body:List St):Md:=fun xs q H=>match gr xs ds places.length with
 |some ys=>(match fX places ys (List.replicate size .none)with
  |some ρ=>(match aC body ρ q H with
   |some (.ret v,_,H)=>some (v,H)
   |some (.next,_,H)=>some (.none,H)
   |.none=>.none)
  |.none=>.none)
 |.none=>.none
noncomputable def cY(C:Addr)(init:Md):Md:=fun xs q H=>match H.new q (.inst C [])with
 |some (v,H)=>(match init (v::xs) q H with|some (.none,H)=>some (v,H)|_=>.none)
 |.none=>.none
noncomputable def f7(F:Md):Md:=fun xs _ H=>F xs H.length (H++[[]])
noncomputable def drop(F:Md):Md:=fun xs _ H=>match F xs H.length (H++[[]])with
 |some (v,H')=>some (v,H'.take H.length)
 |.none=>.none
structure Jh where
 fns:List (Str×Md)
 vals:List (Str×V)
 bis:List (Str×Bi)
 meths:List (Str×List (Addr×Md))
 fields:List Str
 okf:Addr→Nat→Bool
structure Sc where
 kinds:List (Str×NameKind)
 off:Nat
 outer:Option (List (Str×NameKind))
noncomputable def bc(x:Str):List (Str×NameKind)→Nat→Option (Nat×NameKind)
 |[],_=>.none
 |(y,k)::l,n=>if x==y then some (n,k)else bc x l (n+1)
noncomputable def Pq(n:Nat)(out:Option Nat):NameKind→Option Nat
 |.local=>some n
 |.cell=>some n
 |.free=>out
 |_=>.none
def Sc.find(sc:Sc)(x:Str):Option Nat:=(bc x sc.kinds sc.off).bind fun q=>Pq q.1 (sc.outer.bind fun l=>(bc x l 0).bind fun q=>if q.2 == .cell then some q.1 else .none) q.2
theorem Af{sc:Sc}{x:Str}{i:Nat}(h:sc.find x=some i):bc x sc.kinds sc.off=some (i,.local)∨bc x sc.kinds sc.off=some (i,.cell)∨∃n l,bc x sc.kinds sc.off=some (n,.free)∧sc.outer=some l∧bc x l 0=some (i,.cell):=by
 obtain⟨⟨n,k⟩,hp,h⟩:=N1.mp h;cases k<;>first|exact Rk h|skip
 ·exact .inl (av h▸hp)
 ·exact .inr (.inl (av h▸hp))
 ·obtain⟨l,h1,h⟩:=N1.mp h;obtain⟨⟨m,k⟩,h2,h⟩:=N1.mp h;by_cases c:(k == .cell)=true
  ·obtain rfl:=av ((ac c).symm.trans h);exact .inr (.inr ⟨n,l,hp,h1,iu.mp c▸h2⟩)
  ·exact Rk ((af c).symm.trans h)
def Sc.isGlob(sc:Sc)(x:Str):Bool:=match bc x sc.kinds sc.off with|some (_,.globalImplicit)=>true|_=>false
noncomputable def Jv(x:Str):List Str→Nat→Option Nat
 |[],_=>.none
 |y::l,n=>if x==y then some n else Jv x l (n+1)
noncomputable def gj{α:Type}:List (Option α)→Option (List α)
 |[]=>some []
 |some a::l=>(match gj l with|some m=>some (a::m) | .none=>.none)
 |.none::_=>.none
theorem dI{c:Prop}[Decidable c]{α:Type}{f:c→Option α}{x:α}(h:(if h:c then f h else none)=some x):∃c,f c=some x:=by
 by_cases hc:c
 ·exact⟨hc,(dif_pos hc).symm.trans h⟩
 ·exact Rk ((dif_neg hc).symm.trans h)
noncomputable def iR(e:Expr):Option (Str):=if h:e.ctorIdx=23 then Expr.Name.elim (motive_1:=fun _=>Option (Str)) e h fun x _=>some x else .none
theorem eQ{e:Expr}{x:Str}(h:iR e=some x):∃p,e=.Name x p:=
 (dI h).elim fun c h=>Expr.Name.elim (motive_1:=fun e=>(c:e.ctorIdx=23)→Expr.Name.elim (motive_1:=fun _=>Option (Str)) e c (fun x _=>some x)=some x→∃p,e=.Name x p) e c (fun _ p _ h=>⟨p,av h▸rfl⟩) c h
noncomputable def vr(e:Expr):Option (List Expr):=if h:e.ctorIdx=25 then Expr.Tuple.elim (motive_1:=fun _=>Option (List Expr)) e h fun x _ _=>some x else .none
theorem u9{e:Expr}{x:List Expr}(h:vr e=some x):∃k p,e=.Tuple x k p:=
 (dI h).elim fun c h=>Expr.Tuple.elim (motive_1:=fun e=>(c:e.ctorIdx=25)→Expr.Tuple.elim (motive_1:=fun _=>Option (List Expr)) e c (fun x _ _=>some x)=some x→∃k p,e=.Tuple x k p) e c (fun _ k p _ h=>⟨k,p,av h▸rfl⟩) c h
noncomputable def IT(e:Expr):Option (Const):=if h:e.ctorIdx=19 then Expr.Constant.elim (motive_1:=fun _=>Option (Const)) e h fun x _ _=>some x else .none
theorem GS{e:Expr}{x:Const}(h:IT e=some x):∃k p,e=.Constant x k p:=
 (dI h).elim fun c h=>Expr.Constant.elim (motive_1:=fun e=>(c:e.ctorIdx=19)→Expr.Constant.elim (motive_1:=fun _=>Option (Const)) e c (fun x _ _=>some x)=some x→∃k p,e=.Constant x k p) e c (fun _ k p _ h=>⟨k,p,av h▸rfl⟩) c h
noncomputable def IP(e:Expr):Option (Expr×Str):=if h:e.ctorIdx=20 then Expr.Attribute.elim (motive_1:=fun _=>Option (Expr×Str)) e h fun a x _=>some (a,x)else .none
theorem Ib{e:Expr}{x:Expr×Str}(h:IP e=some x):∃p,e=.Attribute x.1 x.2 p:=
 (dI h).elim fun c h=>Expr.Attribute.elim (motive_1:=fun e=>(c:e.ctorIdx=20)→Expr.Attribute.elim (motive_1:=fun _=>Option (Expr×Str)) e c (fun a x _=>some (a,x))=some x→∃p,e=.Attribute x.1 x.2 p) e c (fun _ _ p _ h=>⟨p,av h▸rfl⟩) c h
noncomputable def BL(e:Expr):Option (Expr×Expr):=if h:e.ctorIdx=21 then Expr.Subscript.elim (motive_1:=fun _=>Option (Expr×Expr)) e h fun a x _=>some (a,x)else .none
theorem B4{e:Expr}{x:Expr×Expr}(h:BL e=some x):∃p,e=.Subscript x.1 x.2 p:=
 (dI h).elim fun c h=>Expr.Subscript.elim (motive_1:=fun e=>(c:e.ctorIdx=21)→Expr.Subscript.elim (motive_1:=fun _=>Option (Expr×Expr)) e c (fun a x _=>some (a,x))=some x→∃p,e=.Subscript x.1 x.2 p) e c (fun _ _ p _ h=>⟨p,av h▸rfl⟩) c h
noncomputable def lq(e:Expr):Option (Expr×List Expr×List Keyword):=if h:e.ctorIdx=16 then Expr.Call.elim (motive_1:=fun _=>Option (Expr×List Expr×List Keyword)) e h fun f l k _=>some (f,l,k)else .none
theorem qa{e:Expr}{x:Expr×List Expr×List Keyword}(h:lq e=some x):∃p,e=.Call x.1 x.2.1 x.2.2 p:=
 (dI h).elim fun c h=>Expr.Call.elim (motive_1:=fun e=>(c:e.ctorIdx=16)→Expr.Call.elim (motive_1:=fun _=>Option (Expr×List Expr×List Keyword)) e c (fun f l k _=>some (f,l,k))=some x→∃p,e=.Call x.1 x.2.1 x.2.2 p) e c (fun _ _ _ p _ h=>⟨p,av h▸rfl⟩) c h
noncomputable def GJ(e:Expr):Option (Expr×List CmpOp×List Expr):=if h:e.ctorIdx=15 then Expr.Compare.elim (motive_1:=fun _=>Option (Expr×List CmpOp×List Expr)) e h fun a o b _=>some (a,o,b)else .none
theorem Gh{e:Expr}{x:Expr×List CmpOp×List Expr}(h:GJ e=some x):∃p,e=.Compare x.1 x.2.1 x.2.2 p:=
 (dI h).elim fun c h=>Expr.Compare.elim (motive_1:=fun e=>(c:e.ctorIdx=15)→Expr.Compare.elim (motive_1:=fun _=>Option (Expr×List CmpOp×List Expr)) e c (fun a o b _=>some (a,o,b))=some x→∃p,e=.Compare x.1 x.2.1 x.2.2 p) e c (fun _ _ _ p _ h=>⟨p,av h▸rfl⟩) c h
noncomputable def jg:List Expr→Option (List Str)
 |[]=>some []
 |e::l=>(match iR e with|some x=>(match jg l with|some m=>some (x::m) | .none=>.none) | .none=>.none)
def ik(sc:Sc)(e:Expr):Option Tn:=match iR e with
 |some x=>(match sc.find x with|some i=>some (.nm i) | .none=>.none)
 |.none=>(match vr e with|some es=>(match jg es with|some xs=>(match gj (xs.map sc.find)with|some is=>some (.tp is) | .none=>.none) | .none=>.none) | .none=>.none)
noncomputable def vi:Operator→Option Eu
 |.Add=>some .add | .Sub=>some .sub | .Mult=>some .mul | .FloorDiv=>some .fdiv | .Mod=>some .mod | .BitAnd=>some .band | .BitOr=>some .bor | .LShift=>some .shl | .Pow=>some .pow
 |_=>.none
noncomputable def eZ:CmpOp→COp
 |.Eq=>.eq | .NotEq=>.ne | .Lt=>.lt | .LtE=>.le | .Gt=>.gt | .GtE=>.ge | .Is=>.is | .IsNot=>.isnot | .In=>.isin | .NotIn=>.notin
noncomputable def Bk:Const→Option V
 |.none=>some .none
 |.bool b=>some (.bool b)
 |.int i=>some (.int i)
 |.str s=>some (.str s.cps.toList)
 |_=>.none
def vB(e:Expr):Bool:=Nat.beq e.ctorIdx 23||(Nat.beq e.ctorIdx 20||(Nat.beq e.ctorIdx 21||(Nat.beq e.ctorIdx 19||(Nat.beq e.ctorIdx 6||(match lq e with|some q=>(match iR q.1 with|some id=>id != ("super":Str) || !q.2.1.isEmpty | .none=>false) | .none=>false)))))
noncomputable def Ng:Option Const→Bool
 |some (.int _)=>true
 |_=>false
noncomputable def Nm:List CmpOp→Bool
 |[.NotEq]=>true
 |_=>false
def Mg(e:Expr):Bool:=(iR e).isSome||(Ng (IT e)||(match BL e with|some (a,b)=>(iR a).isSome&&(iR b).isSome | .none=>false))
noncomputable def M9{α:Type}:List α→Option α
 |[a]=>some a
 |_=>.none
theorem CB{α:Type}{l:List α}{a:α}(h:M9 l=some a):l=[a]:=by
 rcases l with _|⟨b,_|⟨c,l⟩⟩
 ·exact Rk h
 ·exact congrArg (fun x=>[x]) (av h)
 ·exact Rk h
def Oi(e:Expr):Bool:=match GJ e with
 |some q=>Nm q.2.1&&(Mg q.1&&(match M9 q.2.2 with|some b=>Mg b | .none=>false))
 |.none=>false
noncomputable def eV(names:List (Str×NameKind)):Bool:=names.all fun p=>!(p.1==("__debug__":Str)) && !(p.1==("__classdict__":Str))
noncomputable def eT(e:Expr):Bool:=Nat.beq e.ctorIdx 7
def Kf(e:Expr):Bool:=match lq e with
 |some (f,_,_)=>(match iR f with|some f=>f==("enumerate":Str) | .none=>false)
 |.none=>false
noncomputable def fk(e:Expr):Bool:=Nat.beq e.ctorIdx 25
noncomputable def xF(e:Expr):Bool:=Nat.ble 8 e.ctorIdx&&Nat.ble e.ctorIdx 10
def EU(t iter:Expr):Bool:=!Kf iter||fk t
def pE(sc:Sc)(x:Str):Bool:=match bc x sc.kinds sc.off with|some (_,.local)=>true|_=>false
def tw(e:Expr):List Str:=match iR e with
 |some x=>[x]
 |none=>(match vr e with|some es=>(jg es).getD []|none=>[])
def Gs(sc:Sc)(e:Expr):Bool:=(tw e).all (pE sc)
def LV(x:Str)(l:List (Str×NameKind))(off:Nat):Bool:=match bc x l off with|some (_,.cell)=>true|_=>false
def nF(sc:Sc)(s:Scope)(t iter:Expr):Bool:=
 sc.outer.isNone&&s.names.all (fun p=>p.2 != .cell)&&eV s.names&&s.kind == .function && !eT iter&&EU t iter&&Gs ⟨s.names,sc.kinds.length,some sc.kinds⟩ t&&sc.off==0
 && s.names.all fun p=>(p.2 != .local||s.names.lookup p.1==some .local)&&(p.2 != .free||LV p.1 sc.kinds 0)
noncomputable def Ky(e:Expr):Bool:=Nat.beq e.ctorIdx 10
def Bv:List Expr→Option (Str×Str)
 |[a,b]=>(match iR a with|some x=>(match iR b with|some y=>some (x,y) | .none=>.none) | .none=>.none)
 |_=>.none
def zT(t e:Expr):Bool:=match vr t with
 |some ts=>(match vr e with
  |some vs=>(match Bv ts with|some (x,y)=>!(x==y) && !(vs.all (constantsAlone 8)) | .none=>false)
  |.none=>true)
 |.none=>(iR t).isNone || !Ky e
def yf(sc:Sc)(l:List Expr):Option Expr:=(M9 l).bind fun e=>(lq e).bind fun q=>(M9 q.2.1).bind fun a=>(iR q.1).bind fun g=>if q.2.2.isEmpty&&(g==("set":Str)&&sc.isGlob g)then some a else .none
theorem Ff{sc:Sc}{l:List Expr}{a:Expr}(h:yf sc l=some a):∃g p q,l=[.Call (.Name g p) [a] [] q]∧(g==("set":Str))=true∧sc.isGlob g=true:=by
 obtain⟨e,h1,h⟩:=N1.mp h;obtain⟨⟨f,as,ks⟩,h2,h⟩:=N1.mp h;obtain⟨b,h3,h⟩:=N1.mp h;obtain⟨g,h4,h⟩:=N1.mp h;by_cases c:(ks.isEmpty&&(g==("set":Str)&&sc.isGlob g))=true
 ·obtain rfl:=av ((ac c).symm.trans h);obtain⟨c1,c⟩:=M6.mp c;obtain⟨c2,c3⟩:=M6.mp c;obtain⟨p,rfl⟩:=qa h2;obtain⟨p',e4⟩:=eQ h4;have e3:=CB h3;have e1:=List.isEmpty_iff.mp c1;dsimp only at e3 e4 e1;rw[e3,e4,e1]at h1;exact⟨g,p',p,CB h1,c2,c3⟩
 ·exact Rk ((af c).symm.trans h)
theorem HS{ts:List Expr}{x y:Str}(h:Bv ts=some (x,y)):∃p q,ts=[.Name x p,.Name y q]:=by
 rcases ts with _|⟨a,_|⟨b,_|⟨c,ts⟩⟩⟩
 ·exact Rk h
 ·exact Rk h
 ·dsimp only[Bv]at h
  (split at h;rotate_left;(first|exact Rk h|cases h);rename_i h1)
  (split at h;rotate_left;(first|exact Rk h|cases h);rename_i h2)
  induction h using QM;obtain⟨p,rfl⟩:=eQ h1;obtain⟨q,rfl⟩:=eQ h2;exact⟨p,q,rfl⟩
 ·exact Rk h
section
variable(Γ:Jh)
mutual
noncomputable def bU(sc:Sc):Nat→Expr→Ev
 |0,_=>aw
 |n+1,e=>match e with
  |.Constant c _ _=>(match Bk c with|some v=>ai v | .none=>aw)
  |.Name x _=>(match sc.find x with
   |some i=>aa i
   |.none=>if sc.isGlob x then(match Γ.vals.lookup x with|some v=>ai v | .none=>aw)else aw)
  |.BinOp a o b _=>(match vi o with|some o=>aI o (bU sc n a) (bU sc n b) | .none=>aw)
  |.UnaryOp .USub a _=>iE (bU sc n a)
  |.UnaryOp .Not a _=>bE (lK (aV (bU sc n a)))
  |.BoolOp o es _=>(match o with | .And=>jZ (es.map (bU sc n)) | .Or=>Hl (es.map (bU sc n)))
  |.Compare a [o] [b] _=>bE (aA (eZ o) (bU sc n a) (bU sc n b))
  |.Compare a [o,o'] [b,c] _=>if eT c then aw else bE (gy (eZ o) (eZ o') (bU sc n a) (bU sc n b) (bU sc n c))
  |.IfExp t a b _=>t9 (toT sc n t) (bU sc n a) (bU sc n b)
  |.Tuple es _ _=>bP (es.map (bU sc n))
  |.List es _=>bD (es.map (bU sc n))
  |.Dict ks vs _=>(match gj ks with|some ks=>if ks.length=vs.length∧ks.length≤15 then bN ((ks.zip vs).map fun p=>(bU sc n p.1,bU sc n p.2))else aw | .none=>aw)
  |.Attribute a x _=>if vB a then(match Jv x Γ.fields 0 with|some f=>ae (bU sc n a) f | .none=>aw)else aw
  |.Subscript a (.Slice lo hi .none _) _=>bV (bU sc n a) (lo.map (bU sc n)) (hi.map (bU sc n))
  |.Subscript a i _=>aG (bU sc n a) (bU sc n i)
  |.ListComp elt [⟨t,iter,ifs,0⟩] s _=>
   let sc':Sc:=⟨s.names,sc.kinds.length,some sc.kinds⟩
   if nF sc s t iter then
    (match ik sc' t with|some tn=>bo s.names.length (toI sc n iter) tn (ifs.map (toT sc' n)) (bU sc' n elt) | .none=>aw)else aw
  |.DictComp k v [⟨t,iter,ifs,0⟩] s _=>
   let sc':Sc:=⟨s.names,sc.kinds.length,some sc.kinds⟩
   if nF sc s t iter && !fk t&&ifs.all Oi&&Mg k&&Mg v then
    (match ik sc' t with|some tn=>up s.names.length (bU sc n iter) tn (ifs.map (toT sc' n)) (bU sc' n k) (bU sc' n v) | .none=>aw)else aw
  |.Call (.Attribute o x apos) args [] pos=>
   if !(vB o&&(apos.endLine==pos.line)&&Nat.ble args.length 29)then aw
   else if x==("append":Str)then(match args with|[a]=>fE (bU sc n o) (bU sc n a)|_=>aw)
   else if x==("get":Str)then(match args with|[a]=>mE (bU sc n o) (bU sc n a) .none|[a,b]=>mE (bU sc n o) (bU sc n a) (some (bU sc n b))|_=>aw)
   else if x==("join":Str)then(match args with|[a]=>qZ (bU sc n o) (bU sc n a)|_=>aw)
   else(match Γ.meths.lookup x with|some cands=>gG cands (bU sc n o) (args.map (bU sc n)) | .none=>aw)
  |.Call (.Name f _) args [] _=>if sc.isGlob f then(match Γ.fns.lookup f with
    |some F=>aj F (args.map (bU sc n))
    |.none=>(match Γ.bis.lookup f with
     |some .sorted=>(match yf sc args with|some a=>cK .sortedset [bU sc n a] | .none=>cK .sorted (args.map (bU sc n)))
     |some b=>cK b (args.map (bU sc n))
     |.none=>aw))else aw
  |_=>aw
noncomputable def toT(sc:Sc):Nat→Expr→Tv
 |0,_=>nU
 |n+1,e=>match e with
  |.UnaryOp .Not a _=>lK (toT sc n a)
  |.BoolOp .And es _=>iU (es.map (toT sc n))
  |.BoolOp .Or es _=>Ds (es.map (toT sc n))
  |.Compare a [o] [b] _=>aA (eZ o) (bU sc n a) (bU sc n b)
  |.Compare a [o,o'] [b,c] _=>if eT c then nU else gy (eZ o) (eZ o') (bU sc n a) (bU sc n b) (bU sc n c)
  |.Compare ..=>nU
  |.IfExp ..=>nU
  |e=>aV (bU sc n e)
noncomputable def toI(sc:Sc):Nat→Expr→Iv
 |0,_=>kU
 |n+1,e=>match lq e with
  |some (g,args,[])=>(match iR g with
   |some f=>
    if f==("range":Str)then(if sc.isGlob f then bk (args.map (bU sc n))else kU)
    else if f==("reversed":Str)then(match args with|[a]=>if sc.isGlob f then C2 (bU sc n a)else kU|_=>kU)
    else if f==("enumerate":Str)then(match args with|[a]=>if sc.isGlob f then rA (bU sc n a)else kU|_=>kU)
    else bn (bU sc n e)
   |.none=>bn (bU sc n e))
  |_=>bn (bU sc n e)
end
noncomputable def Id(e:Expr):Option (Option Expr×Option Expr×Option Expr):=if h:e.ctorIdx=26 then Expr.Slice.elim (motive_1:=fun _=>Option (Option Expr×Option Expr×Option Expr)) e h fun a b c _=>some (a,b,c)else .none
theorem Hm{e:Expr}{x:Option Expr×Option Expr×Option Expr}(h:Id e=some x):∃p,e=.Slice x.1 x.2.1 x.2.2 p:=
 (dI h).elim fun c h=>Expr.Slice.elim (motive_1:=fun e=>(c:e.ctorIdx=26)→Expr.Slice.elim (motive_1:=fun _=>Option (Option Expr×Option Expr×Option Expr)) e c (fun a b c _=>some (a,b,c))=some x→∃p,e=.Slice x.1 x.2.1 x.2.2 p) e c (fun _ _ _ p _ h=>⟨p,av h▸rfl⟩) c h
def Gp(n:Nat)(sc:Sc)(o i:Expr):Option Tg:=match Id i with
 |some q=>q.1.bind fun a=>q.2.1.bind fun b=>if q.2.2.isNone then some (.sl (bU Γ sc n o) (some (bU Γ sc n a)) (some (bU Γ sc n b)))else .none
 |.none=>some (.ix (bU Γ sc n o) (bU Γ sc n i))
def Gw(sc:Sc)(n:Nat)(e:Expr):Option (Ev×Nat):=match IP e with
 |some (o,x)=>(match Jv x Γ.fields 0 with|some f=>some (bU Γ sc n o,f) | .none=>.none)
 |.none=>.none
def BU(sc:Sc)(n:Nat)(e:Expr):Option Tg:=match ik sc e with
 |some t=>some (.nm t)
 |.none=>(match Gw Γ sc n e with
  |some (o,f)=>some (.at o f)
  |.none=>(match BL e with
   |some (o,i)=>Gp Γ n sc o i
   |.none=>(match vr e with
    |some es=>(match gj (es.map (Gw Γ sc n))with|some l=>some (.ats l) | .none=>.none)
    |.none=>.none)))
mutual
noncomputable def toS(sc:Sc):Nat→Stmt→St
 |0,_=>gW
 |n+1,s=>match s with
  |.Expr e _=>if Nat.beq e.ctorIdx 19||xF e then gW else bt (bU Γ sc n e)
  |.Assign [t] e _=>if zT t e then(match BU Γ sc n t with|some t=>am Γ.okf t (bU Γ sc n e) | .none=>gW)else gW
  |.If t a b _=>cn (toT Γ sc n t) (toB sc n a) (toB sc n b)
  |.While t b [] _=>gP (toT Γ sc n t) (toB sc n b)
  |.For t i b [] _=>if eT i || !EU t i then gW else(match ik sc t with|some tn=>bG (toI Γ sc n i) tn (toB sc n b) | .none=>gW)
  |.Return (some e) _=>aF (bU Γ sc n e)
  |.Return .none _=>aF (ai .none)
  |_=>gW
noncomputable def toB(sc:Sc):Nat→List Stmt→List St
 |0,_=>[gW]
 |_+1,[]=>[]
 |n+1,s::l=>toS sc n s::toB sc n l
end
def N2(ds:List V)(params:Arguments)(scope:Scope)(body:List Stmt):Md:=
 aq (params.args.map fun a=>(match bc a.arg scope.names 0 with|some (n,_)=>n | .none=>1000)) ds scope.names.length (toB Γ ⟨scope.names,0,.none⟩ 60 body)
end
def HP(e:Expr):Option V:=match IT e with
 |some c=>Bk c
 |.none=>(match vr e with|some []=>some (.tup [])|_=>.none)
noncomputable abbrev O0:=Str×Arguments×List Stmt×Scope
noncomputable def Ke(s:Stmt):Option O0:=if h:s.ctorIdx=0 then Stmt.FunctionDef.elim (motive_2:=fun _=>Option O0) s h fun n a b _ _ _ sc _ _ _=>some (n,a,b,sc)else .none
def Bu(Γ:Jh)(s:Stmt):Option Md:=(Ke s).bind fun q=>if !eV q.2.2.2.names then .none else(gj (q.2.1.defaults.map HP)).bind fun ds=>some (N2 Γ ds q.2.1 q.2.2.2 q.2.2.1)
section
variable{γ:Type}{w:γ}{G:Prop}
theorem Pn{x:Option (V×Hp)}{f:V→Hp→Option γ}(h:(match x with|some (a,b)=>f a b | .none=>.none)=some w)(k:∀a b,x=some (a,b)→f a b=some w→G):G:=by rcases x with _|⟨a,b⟩;exact Rk h;exact k a b rfl h
theorem Qy{x:Option (List V×Hp)}{f:List V→Hp→Option γ}(h:(match x with|some (a,b)=>f a b | .none=>.none)=some w)(k:∀a b,x=some (a,b)→f a b=some w→G):G:=by rcases x with _|⟨a,b⟩;exact Rk h;exact k a b rfl h
theorem QD{x:Option (Bool×Hp)}{f:Bool→Hp→Option γ}(h:(match x with|some (a,b)=>f a b | .none=>.none)=some w)(k:∀a b,x=some (a,b)→f a b=some w→G):G:=by rcases x with _|⟨a,b⟩;exact Rk h;exact k a b rfl h
theorem Q6{x:Option (bJ×Hp)}{f:bJ→Hp→Option γ}(h:(match x with|some (a,b)=>f a b | .none=>.none)=some w)(k:∀a b,x=some (a,b)→f a b=some w→G):G:=by rcases x with _|⟨a,b⟩;exact Rk h;exact k a b rfl h
theorem QZ{x:Option (It×Hp)}{f:It→Hp→Option γ}(h:(match x with|some (a,b)=>f a b | .none=>.none)=some w)(k:∀a b,x=some (a,b)→f a b=some w→G):G:=by rcases x with _|⟨a,b⟩;exact Rk h;exact k a b rfl h
theorem Qa{x:Option (List V×List V×Hp)}{f:List V→List V→Hp→Option γ}(h:(match x with|some (a,b,c)=>f a b c | .none=>.none)=some w)(k:∀a b c,x=some (a,b,c)→f a b c=some w→G):G:=by rcases x with _|⟨a,b,c⟩;exact Rk h;exact k a b c rfl h
theorem Rg{x:Option (Nat)}{f:Nat→Option γ}(h:(match x with|some a=>f a | .none=>.none)=some w)(k:∀a,x=some a→f a=some w→G):G:=by induction x with|none=>exact Rk h|some a=>exact k a rfl h
theorem Ro{x:Option (List V)}{f:List V→Option γ}(h:(match x with|some a=>f a | .none=>.none)=some w)(k:∀a,x=some a→f a=some w→G):G:=by induction x with|none=>exact Rk h|some a=>exact k a rfl h
theorem Ri{x:Option (bJ)}{f:bJ→Option γ}(h:(match x with|some a=>f a | .none=>.none)=some w)(k:∀a,x=some a→f a=some w→G):G:=by induction x with|none=>exact Rk h|some a=>exact k a rfl h
theorem Q7{x:Option (Bool)}{f:Bool→Option γ}(h:(match x with|some a=>f a | .none=>.none)=some w)(k:∀a,x=some a→f a=some w→G):G:=by induction x with|none=>exact Rk h|some a=>exact k a rfl h
theorem Re{x:Option (List Str)}{f:List Str→Option γ}(h:(match x with|some a=>f a | .none=>.none)=some w)(k:∀a,x=some a→f a=some w→G):G:=by induction x with|none=>exact Rk h|some a=>exact k a rfl h
theorem Rt{x:Option (V)}{f:V→Option γ}(h:(match x with|some a=>f a | .none=>.none)=some w)(k:∀a,x=some a→f a=some w→G):G:=by induction x with|none=>exact Rk h|some a=>exact k a rfl h
theorem Rf{x:Option (List Nat)}{f:List Nat→Option γ}(h:(match x with|some a=>f a | .none=>.none)=some w)(k:∀a,x=some a→f a=some w→G):G:=by induction x with|none=>exact Rk h|some a=>exact k a rfl h
theorem Rq{x:Option (Hp)}{f:Hp→Option γ}(h:(match x with|some a=>f a | .none=>.none)=some w)(k:∀a,x=some a→f a=some w→G):G:=by induction x with|none=>exact Rk h|some a=>exact k a rfl h
theorem Rm{x:Option (Str)}{f:Str→Option γ}(h:(match x with|some a=>f a | .none=>.none)=some w)(k:∀a,x=some a→f a=some w→G):G:=by induction x with|none=>exact Rk h|some a=>exact k a rfl h
theorem Rh{x:Option (Int)}{f:Int→Option γ}(h:(match x with|some a=>f a | .none=>.none)=some w)(k:∀a,x=some a→f a=some w→G):G:=by induction x with|none=>exact Rk h|some a=>exact k a rfl h
theorem QQ{x:Option (List Int)}{f:List Int→Option γ}(h:(match x with|some a=>f a | .none=>.none)=some w)(k:∀a,x=some a→f a=some w→G):G:=by induction x with|none=>exact Rk h|some a=>exact k a rfl h
theorem QR{x:Option (List (V×V))}{f:List (V×V)→Option γ}(h:(match x with|some a=>f a | .none=>.none)=some w)(k:∀a,x=some a→f a=some w→G):G:=by induction x with|none=>exact Rk h|some a=>exact k a rfl h
theorem QO{x:Option (Md)}{f:Md→Option γ}(h:(match x with|some a=>f a | .none=>.none)=some w)(k:∀a,x=some a→f a=some w→G):G:=by induction x with|none=>exact Rk h|some a=>exact k a rfl h
theorem QB{x:Option (List Expr)}{f:List Expr→Option γ}(h:(match x with|some a=>f a | .none=>.none)=some w)(k:∀a,x=some a→f a=some w→G):G:=by induction x with|none=>exact Rk h|some a=>exact k a rfl h
theorem Gu{x:Option (Bool×Hp)}{f g:Hp→Option γ}(h:(match x with|some (true,H)=>f H|some (false,H)=>g H | .none=>.none)=some w)(k1:∀H,x=some (true,H)→f H=some w→G)(k0:∀H,x=some (false,H)→g H=some w→G):G:=by rcases x with _|⟨_|_,H⟩;exact Rk h;exact k0 H rfl h;exact k1 H rfl h
theorem Pm{x:Option Bool}{f g:Option γ}(h:(match x with|some true=>f|some false=>g | .none=>.none)=some w)(k1:x=some true→f=some w→G)(k0:x=some false→g=some w→G):G:=by rcases x with _|_|_;exact Rk h;exact k0 rfl h;exact k1 rfl h
theorem Pv{x:Option (Option V)}{f:V→Option γ}{g:Option γ}(h:(match x with|some .none=>g|some (some v)=>f v | .none=>.none)=some w)(k0:x=some none→g=some w→G)(k1:∀v,x=some (some v)→f v=some w→G):G:=by rcases x with _|_|v;exact Rk h;exact k0 rfl h;exact k1 v rfl h
theorem OK{x:Option (Fl×bJ×Hp)}{f:bJ→Hp→Option (Fl×bJ×Hp)}{w:Fl×bJ×Hp}(h:(match x with|some (.next,ρ,H)=>f ρ H|r=>r)=some w)(k1:∀ρ H,x=some (.next,ρ,H)→f ρ H=some w→G)(k0:(∀ρ H,x≠some (.next,ρ,H))→x=some w→G):G:=by
 rcases x with _|⟨_|v,ρ,H⟩
 ·exact Rk h
 ·exact k1 ρ H rfl h
 ·exact k0 (fun _ _ e=>nomatch e) h
theorem tR{α:Type}{c:Prop}[Decidable c]{a b w:α}(h:(if c then a else b)=w)(k1:c→a=w→G)(k0:¬c→b=w→G):G:=if hc:c then k1 hc ((ac hc).symm.trans h)else k0 hc ((af hc).symm.trans h)
theorem pQ{α:Type}{c:Prop}[Decidable c]{a b:α}{P:α→Prop}(k1:c→P a)(k0:¬c→P b):P (if c then a else b):=if hc:c then(ac hc).symm▸k1 hc else(af hc).symm▸k0 hc
theorem NF{x:Option O}{f:List V→Option γ}{g:List (V×V)→Option γ}(h:(match x with|some (.list l)=>f l|some (.dict l)=>g l|_=>.none)=some w)(k1:∀l,x=some (.list l)→f l=some w→G)(k2:∀l,x=some (.dict l)→g l=some w→G):G:=by
 rcases x with _|_|_|_
 ·exact Rk h
 ·exact k1 _ rfl h
 ·exact k2 _ rfl h
 ·exact Rk h
theorem Qr{α:Type}{x:Option (List Int)}{f:List Int→α}{n w:α}(h:(match x with|some a=>f a | .none=>n)=w)(k1:∀a,x=some a→f a=w→G)(k0:x=none→n=w→G):G:=by induction x with|none=>exact k0 rfl h|some a=>exact k1 a rfl h
theorem QA{x:Option O}{f:List V→Option γ}(h:(match x with|some (.list a)=>f a|_=>.none)=some w)(k:∀a,x=some (.list a)→f a=some w→G):G:=by rcases x with _|_|_|_|_<;>first|exact k _ rfl h|exact Rk h
theorem QW{x:Option O}{f:List (V×V)→Option γ}(h:(match x with|some (.dict a)=>f a|_=>.none)=some w)(k:∀a,x=some (.dict a)→f a=some w→G):G:=by rcases x with _|_|_|_|_<;>first|exact k _ rfl h|exact Rk h
theorem QY{x:Option O}{f:Addr→List (Nat×V)→Option γ}(h:(match x with|some (.inst c a)=>f c a|_=>.none)=some w)(k:∀c a,x=some (.inst c a)→f c a=some w→G):G:=by rcases x with _|_|_|_|_<;>first|exact k _ _ rfl h|exact Rk h
theorem P6{x:Option (V×Hp)}{f:Nat→Nat→Hp→Option γ}(h:(match x with|some (.ref r i,b)=>f r i b|_=>.none)=some w)(k:∀r i b,x=some (.ref r i,b)→f r i b=some w→G):G:=by rcases x with _|⟨_|_|_|_|_|_|_,b⟩<;>first|exact k _ _ _ rfl h|exact Rk h
theorem Q0{x:Option (Option V)}{f:V→Option γ}(h:(match x with|some (some a)=>f a|_=>.none)=some w)(k:∀a,x=some (some a)→f a=some w→G):G:=by rcases x with _|_|a<;>first|exact k _ rfl h|exact Rk h
theorem Q1{x:Option (V×Hp)}{f:List Nat→Hp→Option γ}(h:(match x with|some (.str s,b)=>f s b|_=>.none)=some w)(k:∀s b,x=some (.str s,b)→f s b=some w→G):G:=by rcases x with _|⟨_|_|_|_|_|_|_,b⟩<;>first|exact k _ _ rfl h|exact Rk h
theorem Q2{x:Option (V×Hp)}{f:Int→Hp→Option γ}(h:(match x with|some (.int s,b)=>f s b|_=>.none)=some w)(k:∀s b,x=some (.int s,b)→f s b=some w→G):G:=by rcases x with _|⟨_|_|_|_|_|_|_,b⟩<;>first|exact k _ _ rfl h|exact Rk h
theorem QK{x:Option (V×Hp)}{f:Hp→Option γ}(h:(match x with|some (.none,b)=>f b|_=>.none)=some w)(k:∀b,x=some (.none,b)→f b=some w→G):G:=by rcases x with _|⟨_|_|_|_|_|_|_,b⟩<;>first|exact k _ rfl h|exact Rk h
theorem QE{x:Option (V×Hp)}{f:Hp→Option γ}(h:(match x with|some (.str [],b)=>f b|_=>.none)=some w)(k:∀b,x=some (.str [],b)→f b=some w→G):G:=by
 rcases x with _|⟨_|_|_|l|_|_|_,b⟩<;>first|(exact Rk h;done)|skip
 induction l using jL<;>first|exact k _ rfl h|exact Rk h
theorem Pb{x y:Option O}{f:List V→List V→Option γ}(h:(match x,y with|some (.list a),some (.list c)=>f a c|_,_=>.none)=some w)(k:∀a c,x=some (.list a)→y=some (.list c)→f a c=some w→G):G:=by
 rcases x with _|_|_|_|_<;>first|(exact Rk h;done)|skip
 rcases y with _|_|_|_|_<;>first|exact k _ _ rfl rfl h|exact Rk h
theorem QJ{x y:Option Bool}{f:Bool→Bool→Option γ}(h:(match x,y with|some a,some c=>f a c|_,_=>.none)=some w)(k:∀a c,x=some a→y=some c→f a c=some w→G):G:=by
 rcases x with _|_<;>rcases y with _|_<;>first|exact k _ _ rfl rfl h|exact Rk h
theorem Q3{x y:Option Nat}{f:Nat→Nat→Option γ}(h:(match x,y with|some a,some c=>f a c|_,_=>.none)=some w)(k:∀a c,x=some a→y=some c→f a c=some w→G):G:=by
 rcases x with _|_<;>rcases y with _|_<;>first|exact k _ _ rfl rfl h|exact Rk h
theorem Q5{x:Option (List Int)}{f:Int→List Int→Option γ}(h:(match x with|some (a::c)=>f a c|_=>.none)=some w)(k:∀a c,x=some (a::c)→f a c=some w→G):G:=by
 rcases x with _|_|_<;>first|exact k _ _ rfl h|exact Rk h
theorem QV{x:Option (Nat×NameKind)}(h:(match x with|some (_,.globalImplicit)=>true|_=>false)=true)(k:∀n,x=some (n,.globalImplicit)→true=true→G):G:=by
 rcases x with _|⟨n,e⟩
 ·exact CS h
 ·cases e<;>first|exact k _ rfl rfl|exact CS h
theorem P0{x:Option (Nat×NameKind)}(h:(match x with|some (_,.cell)=>true|_=>false)=true):∃i,x=some (i,.cell):=by
 rcases x with _|⟨n,e⟩
 ·exact CS h
 ·cases e<;>first|exact⟨n,rfl⟩|exact CS h
theorem Q4{x:Option It}{f:It→Option γ}(h:(match x with|some a=>f a | .none=>.none)=some w)(k:∀a,x=some a→f a=some w→G):G:=by induction x with|none=>exact Rk h|some a=>exact k a rfl h
theorem Qz{x:Option (List (List Nat))}{f:List (List Nat)→Option γ}(h:(match x with|some a=>f a | .none=>.none)=some w)(k:∀a,x=some a→f a=some w→G):G:=by induction x with|none=>exact Rk h|some a=>exact k a rfl h
theorem QS{α:Type}{x:Option (List α)}{f:List α→Option γ}(h:(match x with|some a=>f a | .none=>.none)=some w)(k:∀a,x=some a→f a=some w→G):G:=by induction x with|none=>exact Rk h|some a=>exact k a rfl h
theorem Qh{x:V}{f e:List V→Option γ}{g:Nat→Nat→Option γ}(h:(match x with | .tup l=>f l | .ref r k=>g r k | .kl l=>e l|_=>.none)=some w)(k1:∀l,x=.tup l→f l=some w→G)(k2:∀r k,x=.ref r k→g r k=some w→G)(k3:∀l,x=.kl l→e l=some w→G):G:=by
 induction x using cW<;>first|exact Rk h|exact k1 _ rfl h|exact k2 _ _ rfl h|exact k3 _ rfl h
theorem Qf{i j:V}{f:Int→Option γ}(h:(match i,j with | .none,.int k=>f k|_,_=>.none)=some w)(k:∀a,i=.none→j=.int a→f a=some w→G):G:=by
 induction i using cW<;>first|exact Rk h|(induction j using cW<;>first|exact Rk h|exact k _ rfl rfl h)
theorem Mf{x:V}{f:List V→Option γ}(h:(match x with | .tup l=>f l|_=>.none)=some w):∃l,x=.tup l∧f l=some w:=by
 induction x using cW<;>first|exact⟨_,rfl,h⟩|exact Rk h
theorem PQ{x:V}{f:Nat→Nat→Option γ}(h:(match x with | .ref r i=>f r i|_=>.none)=some w):∃r i,x=.ref r i∧f r i=some w:=by
 induction x using cW<;>first|exact⟨_,_,rfl,h⟩|exact Rk h
theorem tF(a:St)(l:List St)(ρ:bJ)(q:Nat)(H:Hp):aC (a::l) ρ q H=(match a ρ q H with|some (.next,ρ,H)=>aC l ρ q H|r=>r):=rfl
theorem lH(a:St)(ρ:bJ)(q:Nat)(H:Hp):aC [a] ρ q H=a ρ q H:=by
 rw[tF];rcases a ρ q H with _|⟨_|v,ρ',H'⟩<;>rfl
theorem JI{a:Ev}{l:List Ev}{ρ:bJ}{q:Nat}{H H':Hp}{xs:List V}(h:cs (a::l) ρ q H=some (xs,H')):∃x H₁ ys,a ρ q H=some (x,H₁)∧cs l ρ q H₁=some (ys,H')∧xs=x::ys:=Pn h fun x H₁ h1 h=>Qy h fun ys _ h2 h=>by induction h using QM;exact⟨x,H₁,ys,h1,h2,rfl⟩
theorem KW{k v:V}{ks vs:List V}{d:List (V×V)}:Nf (k::ks) (v::vs) d=if cg k&&aW k d then Nf ks vs (gM d k v)else .none:=rfl
theorem PR{x i j v:V}{f:Nat→Nat→Int→Int→Nat→Nat→Option γ}(h:(match x,i,j,v with | .ref r k,.int i,.int j,.ref r' k'=>f r k i j r' k'|_,_,_,_=>.none)=some w):∃r k a b r' k',x=.ref r k∧i=.int a∧j=.int b∧v=.ref r' k'∧f r k a b r' k'=some w:=by
 induction x using cW<;>first|(exact Rk h;done)|skip
 induction i using cW<;>first|(exact Rk h;done)|skip
 induction j using cW<;>first|(exact Rk h;done)|skip
 induction v using cW<;>first|(exact Rk h;done)|skip
 exact⟨_,_,_,_,_,_,rfl,rfl,rfl,rfl,h⟩
theorem yF{H:Hp}{x y:V}{b:Bool}(h:yl H x y=some b):(∃r i r' i' a c,x=.ref r i∧y=.ref r' i'∧H.get r i=some (.list a)∧H.get r' i'=some (.list c)∧(if a.length=c.length then gU Ac a c else some false)=some b)∨Ac x y=some b:=by
 induction x using cW<;>first|exact .inr h|skip
 induction y using cW<;>first|exact .inr h|skip
 refine Pb h fun a c h1 h2 h=>.inl ⟨_,_,_,_,a,c,rfl,rfl,h1,h2,h⟩
theorem PV{c:Prop}[Decidable c]{f:Option γ}(h:(if c then f else .none)=some w)(k:c→f=some w→G):G:=by by_cases q:c;exact k q (by rw[ac q]at h;exact h);rw[af q]at h;exact Rk h
end
end
section
open PySem PySem.W PySem.Calls PyProof.Rows
noncomputable def lawR:OpenLaw:=PySem.Challenge.rw_pf0153_01
theorem LZ{s:Bool}{p:Str→Bool}{a b c:Str}{l:List Stmt}(hs:s=false)(ha:p a=false)(hb:p b=false)(hc:p c=false)(h:PySem.W.Fast.tw8326940854005059898 {strict:=false,foot:=none,bare:=[]} l=true):PySem.W.Fast.tw8326940854005059898 {strict:=s,foot:=none,bare:=R.filterR p [a,b,c]} l=true:=by
 rw[hs,show R.filterR p [a,b,c]=[]by rw[←R.filterR_eq];simp[ha,hb,hc]];exact h
set_option maxHeartbeats 0 in
theorem LH:lawR.row.wellSaid=true:=by
 rw[show @OpenRow.wellSaid=_ from PySem.W.Fast.te17960256430627541270];unfold PySem.W.Fast.tw17960256430627541270 PySem.W.Fast.tw2436336058641802641 PySem.W.Fast.tw12908688711261696721;repeat' with_reducible refine look_both ?_ ?_
 all_goals try with_reducible refine LZ ?_ ?_ ?_ ?_ ?_
 all_goals decide +kernel
set_option maxHeartbeats 0 in
theorem OZ:lawR.wellSaid=true:=by
 rw[show @OpenLaw.wellSaid=_ from PySem.W.Fast.te9446332074065402090];unfold PySem.W.Fast.tw9446332074065402090;repeat' with_reducible refine look_both ?_ ?_
 ·rw[←show @OpenRow.wellSaid=_ from PySem.W.Fast.te17960256430627541270];exact LH
 all_goals decide +kernel
section
class HasP where
 p:PySem.Program
 ss:Nat→String
noncomputable def N0:Nat→List String→String
 |_,[]=>""
 |0,x::_=>x
 |k+1,_::l=>N0 k l
noncomputable def cy{α:Type}:List α→List α→List α
 |[],m=>m
 |x::l,m=>x::cy l m
noncomputable def u8:Nat→Nat→List Nat
 |0,_=>[]
 |k+1,n=>match Nat.beq n 0 with|true=>[]|false=>Nat.mod n 256::u8 k (Nat.div n 256)
def s8(n:Nat):Str:=⟨⟨u8 64 n⟩⟩
section
variable[HasP]
def a0:Str:=s8 0x5f5f656c75646f6d5f5f
def a1:Str:=s8 0x5f5f6f6e656e696c74737269665f5f
def a2:Str:=s8 0x5f5f736574756269727474615f6369746174735f5f
def a3:Str:=s8 0x5f5f74696e695f5f
def a4:Str:=s8 0x5f5f6665726b6165775f5f
def a5:Str:=s8 0x5f5f746369645f5f
def a6:Str:=s8 0x646c6f74
def a7:Str:=s8 0x5f5f656d616e5f5f
def a8:Str:=s8 0x5f5f636f645f5f
def a9:Str:=s8 0x5f5f656d616e6c6175715f5f
def Ji:Str:=s8 0x726566667542
def Jj:Str:=s8 0x726f7272456570616853
def Jw:Str:=s8 0x6665447373616c43
def Js:Str:=s8 0x66656447
def K1:Str:=s8 0x70614d72616843
def LW:Str:=s8 0x31305f3335313066705f77616c
def Mz:Str:=s8 0x6f666e49
def Ln:Str:=s8 0x73657373616c4372696150
def L9:Str:=s8 0x7363697274654d
def L0:Str:=s8 0x746c7561466e616c50
def LS:Str:=s8 0x746e6f46
def MO:Str:=s8 0x70756b6f6f4c
def MI:Str:=s8 0x726f68636e41
def MA:Str:=s8 0x657361426b72614d
def MC:Str:=s8 0x656c7069746c754d
def MK:Str:=s8 0x6e616c50
def ME:Str:=s8 0x746e6157
def MJ:Str:=s8 0x646570616853
def MF:Str:=s8 0x737953676e614c
def MN:Str:=s8 0x747069726353
def ML:Str:=s8 0x65727574616546
def MH:Str:=s8 0x74756f79614c
def N5:Str:=s8 0x736563616c50
def NC:Str:=s8 0x746e756f635f6870796c67
def Os:Str:=s8 0x79702e7475632f6d69616c632f
structure pP where
 objs:List Obj
 ct:List Value
 key:Str
 kt:Nat
 val:Value
noncomputable def S(x:Str)(t:Nat):Value:=.str x t
noncomputable def R(a:Nat):Value:=.ref a
noncomputable def E(P:Params)(x:Str)(t:Nat)(v:Value):DictEntry:=⟨PyData.keyHash P x,.str x t,v⟩
noncomputable def tup(l:List Value):Obj:=⟨.type (HasP.ss 0),.none,.seq ⟨l⟩ 0,⟨[]⟩⟩
noncomputable def fl(l:List Value):Obj:=⟨.none,.none,.fields ⟨l⟩,⟨[]⟩⟩
noncomputable def gs(l:List Value):Obj:=⟨.type (HasP.ss 1),.none,.fields ⟨l⟩,⟨[]⟩⟩
noncomputable def dc(l:List DictEntry)(n:Nat):Obj:=⟨.type (HasP.ss 2),.none,.dict ⟨l⟩ n,⟨[]⟩⟩
def GQ:Str:=Os
noncomputable def nI(n:Nat):Value:=.int n 0
def Ef(n q:Str)(t line argc flags:Nat)(a:Nat)(fn:Bool)(b:Nat)(x y z:Value)(u:Nat):Obj:= ⟨.type (HasP.ss 3),.none,.fields ⟨[.str n t,.str q (t+1),.str GQ (t+2),nI line,nI argc,nI 0,nI 0,nI flags,R a,.bool fn,nI 181,R b,.none,x,y,z,nI u,nI line,.str GQ (u+1)]⟩,⟨[]⟩⟩
def cc(n:Str)(t line a:Nat):Obj:=Ef n n t line 0 0 a false (a+1) .none .none .none (t+3)
def fr(c d:Nat)(m:Value):Obj:=⟨.type (HasP.ss 4),.none,.plain,⟨[some (R c),some (R 3),some (R d),.none,some m,.none,some (R 0)]⟩⟩
noncomputable def iD:Obj:=⟨.type (HasP.ss 5),.none,.fields ⟨[.builtin (HasP.ss 6),.type (HasP.ss 7)]⟩,⟨[]⟩⟩
def su(a:Nat):Obj:=⟨.type (HasP.ss 8),.none,.fields ⟨[R a,R a,R a]⟩,⟨[]⟩⟩
def uR(a:Nat):Obj:=⟨.type (HasP.ss 5),.none,.fields ⟨[.builtin (HasP.ss 9),R a]⟩,⟨[]⟩⟩
def cl(n:Str)(a d t u:Nat):Obj:= ⟨.type (HasP.ss 7),.none,.cls {name:=n,bases:=[.type (HasP.ss 10)],mro:=[R a,.type (HasP.ss 10)],ns:=d,qualname:=n,hasDict:=true,slotNames:=[],subclasses:=[],abstract:=false,hasDel:=false},⟨[.none,.none,some (S n t),some (S n u),some (.builtin (HasP.ss 11)),some (.bool true)]⟩⟩
noncomputable def NJ:List Str→Nat→List Value
 |[],_=>[]
 |x::l,t=>.str x t::NJ l (t+1)
noncomputable def On(s:Stmt)(q:Str):FuncData:=match s with
 |.FunctionDef n p b _ _ _ sc _ _ pos=>{name:=n,qualname:=(match q.cps with|⟨[]⟩=>n|⟨l⟩=>⟨⟨cy l (46::n.cps.toList)⟩⟩),params:=p,body:=.stmts b,scope:=sc,globals:=0,closure:=[],defaults:=.none,kwdefaults:=.none}
 |_=>default
noncomputable def Na(l:List (Str×NameKind)):List Str:=List.rec [] (fun p _ ih=>match p.2 with | .local=>p.1::ih|_=>ih) l
def O4(f:Bool)(s:Stmt)(q:Str)(a t:Nat)(dv md:Value):List Obj:=match s with
 |.FunctionDef n p b ds _ _ sc _ _ pos=>
  let fd:=On s q;let qn:=fd.qualname;let ln:=match ds with | .Name _ dp::_=>dp.line|_=>pos.line
  match f with
  |false=>
   let l:=Na sc.names
   [tup [],fl [],tup (NJ l (t+3)),tup [],⟨.none,.none,.func fd,⟨[]⟩⟩,
    Ef n qn t ln p.args.length 3 a true (a+1) (R (a+2)) (R (a+3)) (R (a+4)) (t+3+l.length),
    ⟨.type (HasP.ss 12),.none,.func {fd with globals:=3,defaults:=dv,pyModule:=md,code:=R (a+5)},⟨[]⟩⟩]
  |true=>
   [tup [],fl [],⟨.none,.none,.func fd,⟨[]⟩⟩,
    Ef n qn t ln p.args.length 3 a true (a+1) .none .none (R (a+2)) (t+3),
    ⟨.type (HasP.ss 12),.none,.func {fd with globals:=3,defaults:=dv,pyModule:=md,code:=R (a+3)},⟨[]⟩⟩]
 |_=>[]
def jw:=O4 false
def DE:=O4 true
noncomputable def PK(i:Nat):Stmt:=match HasP.p.main.body.drop i with|s::_=>s|[]=>.Pass ⟨0,0,0,0⟩
noncomputable def me(i j:Nat):Stmt:=match PK i with | .ClassDef _ _ _ b ..=>(match b.drop j with|s::_=>s|[]=>.Pass ⟨0,0,0,0⟩)|_=>.Pass ⟨0,0,0,0⟩
def Py(f:Bool)(i:Nat)(pre:List Obj)(a t:Nat)(dv md:Value):pP:=
 match PK i with
 |.FunctionDef n p b d r ty sc ts bi pos=>
  let(u,k):=match f with|false=>(t+(Na sc.names).length,5)|true=>(t,3)
  ⟨cy pre (O4 f (.FunctionDef n p b d r ty sc ts bi pos) Str.empty a t dv md),[nI pos.line,nI pos.col,R (a+k)],n,u+5,R (a+k+1)⟩
 |_=>⟨[],[],Str.empty,0,.none⟩
def fn:=Py false
def fo:=Py true
def LY:Value:=S (s8 0x5f5f6e69616d5f5f) 164
def dj:Value:=S (s8 0x7265666675622e646e616864656e696f6a) 194
def iB:Value:=S (s8 0x7367616c662e646e616864656e696f6a) 402
def lZ:Value:=S (s8 0x676e69686374616d2e646e616864656e696f6a) 546
def yW:Value:=S (s8 0x657669737275632e646e616864656e696f6a) 683
def tJ:Value:=S (s8 0x73726f68636e612e646e616864656e696f6a) 765
def dD:Value:=S (s8 0x736b72616d2e646e616864656e696f6a) 826
def D2:Value:=S (s8 0x73747865746e6f632e646e616864656e696f6a) 1051
def jC:Value:=S (s8 0x64657473656e2e646e616864656e696f6a) 1081
def I5:Value:=S (s8 0x7365756c61762e646e616864656e696f6a) 1203
def lE:Value:=S (s8 0x726961702e646e616864656e696f6a) 1225
def lv:Value:=S (s8 0x736f70672e646e616864656e696f6a) 1307
def rS:Value:=S (s8 0x657275746167696c2e646e616864656e696f6a) 1372
def KL:Value:=S (s8 0x657372657665722e646e616864656e696f6a) 1453
def kP:Value:=S (s8 0x656c676e69732e646e616864656e696f6a) 1467
def mX:Value:=S (s8 0x627573672e646e616864656e696f6a) 1550
def fz:Value:=S (s8 0x6e65646469682e646e616864656e696f6a) 1603
def iG:Value:=S (s8 0x676e696e696f6a2e646e616864656e696f6a) 1692
def BF:Value:=S (s8 0x6e72656b2e646e616864656e696f6a) 1798
def mU:Value:=S (s8 0x7363697274656d2e646e616864656e696f6a) 1847
def rY:Value:=S (s8 0x726f7272696d2e646e616864656e696f6a) 1908
def fU:Value:=S (s8 0x6c616d726f6e2e646e616864656e696f6a) 1963
def pp:Value:=S (s8 0x73726f7272652e646e616864656e696f6a) 2146
def fQ:Value:=S (s8 0x676e69736f6f68632e646e616864656e696f6a) 2206
def bS:Value:=S (s8 0x6e616c702e646e616864656e696f6a) 2290
def jM:Value:=S (s8 0x73656c62616c6c79732e646e616864656e696f6a) 2546
def cH:Value:=S (s8 0x7265706168732e646e616864656e696f6a) 2684
def KU:Value:=S (s8 0x73726f7463656c65732e646e616864656e696f6a) 2840
def nc:Value:=S (s8 0x70616d726168632e646e616864656e696f6a) 2852
def lR:Value:=S (s8 0x736665647373616c632e646e616864656e696f6a) 2906
def ou:Value:=S (s8 0x746e6f662e646e616864656e696f6a) 2968
def k7:Value:=S (s8 0x666564672e646e616864656e696f6a) 3030
def dm:Value:=S (s8 0x74756f79616c2e646e616864656e696f6a) 3107
def t4:Value:=S LW 3263
def PS(P:Params):List pP:=[fn 0 [] 15 187 .none LY,⟨[],[],a7,165,dj⟩,⟨cy [tup [],iD,dc [E P a0 203 dj,E P a9 205 (S Mz 204),E P a1 207 (.int 5 206),E P a3 217 (R 35),E P (s8 0x646569706f63) 225 (R 42),E P a6 232 (R 49),E P a2 249 (R 50)] 7,tup [],fl [(.int 7 0),(.int 4 0),(R 34),(.int 25 0),(.int 4 0),(R 41),(.int 42 0),(.int 4 0),(R 48)],cc Mz 198 5 25,fr 27 24 dj] (cy (jw (me 2 0) Mz 29 208 .none dj) (cy (jw (me 2 1) Mz 36 218 .none dj) (cy (jw (me 2 2) Mz 43 226 .none dj) [tup [(S (s8 0x646e6f62) 233),(S (s8 0x72657473756c63) 234),(S (s8 0x65646f63) 235),(S (s8 0x6870796c67) 236),(S (s8 0x656661736e755f7369) 237),(S (s8 0x646e696b) 238),(S (s8 0x746e756f635f67696c) 239),(S (s8 0x64695f67696c) 240),(S (s8 0x747261705f67696c) 241),(S (s8 0x6b73616d) 242),(S (s8 0x746e65726170) 243),(S (s8 0x64695f74696c7073) 244),(S (s8 0x65636e617664615f78) 245),(S (s8 0x74657366666f5f78) 246),(S (s8 0x65636e617664615f79) 247),(S (s8 0x74657366666f5f79) 248)],dc [E P a0 203 dj,E P a1 207 (.int 5 206),E P a3 217 (R 35),E P (s8 0x646569706f63) 225 (R 42),E P a6 232 (R 49),E P a2 249 (R 50),E P a5 251 (R 53),E P a4 253 (R 54),E P a8 254 .none] 4,cl Mz 52 51 196 204,gs [(S a5 250),(R 52),(.builtin (HasP.ss 13)),(.builtin (HasP.ss 14))],gs [(S a4 252),(R 52),(.builtin (HasP.ss 15)),.none],su 52,uR 52]))),[(.int 5 0),(.int 0 0),(R 27)],Mz,256,(R 52)⟩,⟨cy [tup [],iD,dc [E P a0 264 dj,E P a9 266 (S Ji 265),E P a1 268 (.int 44 267),E P a3 277 (R 71),E P (s8 0x736870796c67) 283 (R 76),E P (s8 0x7372657473756c63) 289 (R 81),E P a6 295 (R 86),E P (s8 0x67696c5f7478656e) 302 (R 93),E P (s8 0x74696c70735f7478656e) 309 (R 100),E P a2 314 (R 101)] 10,tup [],fl [(.int 46 0),(.int 4 0),(R 70),(.int 52 0),(.int 4 0),(R 75),(.int 55 0),(.int 4 0),(R 80),(.int 58 0),(.int 4 0),(R 85),(.int 61 0),(.int 4 0),(R 92),(.int 65 0),(.int 4 0),(R 99)],cc Ji 259 44 60,fr 62 59 dj,tup [(.bool false)]] (cy (jw (me 3 0) Ji 65 269 (R 64) dj) (cy (DE (me 3 1) Ji 72 278 .none dj) (cy (DE (me 3 2) Ji 77 284 .none dj) (cy (DE (me 3 3) Ji 82 290 .none dj) (cy (jw (me 3 4) Ji 87 296 .none dj) (cy (jw (me 3 5) Ji 94 303 .none dj) [tup [(S (s8 0x647261776b6361625f7369) 310),(S (s8 0x67696c5f7473616c) 311),(S (s8 0x74696c70735f7473616c) 312),(S (s8 0x776f72) 313)],dc [E P a0 264 dj,E P a1 268 (.int 44 267),E P a3 277 (R 71),E P (s8 0x736870796c67) 283 (R 76),E P (s8 0x7372657473756c63) 289 (R 81),E P a6 295 (R 86),E P (s8 0x67696c5f7478656e) 302 (R 93),E P (s8 0x74696c70735f7478656e) 309 (R 100),E P a2 314 (R 101),E P a5 316 (R 104),E P a4 318 (R 105),E P a8 319 .none] 4,cl Ji 103 102 257 265,gs [(S a5 315),(R 103),(.builtin (HasP.ss 13)),(.builtin (HasP.ss 14))],gs [(S a4 317),(R 103),(.builtin (HasP.ss 15)),.none],su 103,uR 103])))))),[(.int 44 0),(.int 0 0),(R 62)],Ji,321,(R 103)⟩,fo 4 [tup [(.bool false)]] 109 322 (R 108) dj,fo 5 [] 114 328 .none dj,fn 6 [] 119 334 .none dj,fn 7 [] 126 342 .none dj,fo 8 [] 133 353 .none dj,fo 9 [] 138 359 .none dj,fn 10 [] 143 365 .none dj,fo 11 [] 150 376 .none dj,fo 12 [] 155 382 .none dj,fn 13 [] 160 388 .none dj]
def P5(P:Params):List pP:=[fo 14 [] 167 396 .none dj,⟨[],[],a7,165,iB⟩,⟨[],[],(s8 0x5446454c5f4f545f5448474952),405,(.int 1 404)⟩,⟨[],[],(s8 0x53455341425f45524f4e4749),407,(.int 2 406)⟩,⟨[],[],(s8 0x53455255544147494c5f45524f4e4749),409,(.int 4 408)⟩,⟨[],[],(s8 0x534b52414d5f45524f4e4749),411,(.int 8 410)⟩,⟨[],[],(s8 0x5445535f455355),413,(.int 16 412)⟩,⟨cy [tup [],iD,dc [E P a0 421 iB,E P a9 423 (S MO 422),E P a1 425 (.int 152 424),E P a3 436 (R 185),E P a6 442 (R 190),E P a2 447 (R 191)] 6,tup [],fl [(.int 154 0),(.int 4 0),(R 184),(.int 160 0),(.int 4 0),(R 189)],cc MO 416 152 175,fr 177 174 iB] (cy (jw (me 21 0) MO 179 426 .none iB) (cy (DE (me 21 1) MO 186 437 .none iB) [tup [(S (s8 0x67616c66) 443),(S (s8 0x646e696b) 444),(S (s8 0x7465735f6b72616d) 445),(S (s8 0x73656c626174) 446)],dc [E P a0 421 iB,E P a1 425 (.int 152 424),E P a3 436 (R 185),E P a6 442 (R 190),E P a2 447 (R 191),E P a5 449 (R 194),E P a4 451 (R 195),E P a8 452 .none] 4,cl MO 193 192 414 422,gs [(S a5 448),(R 193),(.builtin (HasP.ss 13)),(.builtin (HasP.ss 14))],gs [(S a4 450),(R 193),(.builtin (HasP.ss 15)),.none],su 193,uR 193])),[(.int 152 0),(.int 0 0),(R 177)],MO,454,(R 193)⟩,⟨cy [tup [],iD,dc [E P a0 462 iB,E P a9 464 (S (s8 0x656e656353) 463),E P a1 466 (.int 163 465),E P a3 480 (R 212),E P a2 488 (R 213)] 5,tup [],fl [(.int 165 0),(.int 4 0),(R 211)],cc (s8 0x656e656353) 457 163 201,fr 203 200 iB,tup [(.int 0 467)]] (cy (jw (me 22 0) (s8 0x656e656353) 206 468 (R 205) iB) [tup [(S (s8 0x726566667562) 481),(S (s8 0x6874706564) 482),(S (s8 0x66656467) 483),(S (s8 0x70756b6f6f6c) 484),(S (s8 0x7370756b6f6f6c) 485),(S (s8 0x6b73616d) 486),(S (s8 0x7370657473) 487)],dc [E P a0 462 iB,E P a1 466 (.int 163 465),E P a3 480 (R 212),E P a2 488 (R 213),E P a5 490 (R 216),E P a4 492 (R 217),E P a8 493 .none] 4,cl (s8 0x656e656353) 215 214 455 463,gs [(S a5 489),(R 215),(.builtin (HasP.ss 13)),(.builtin (HasP.ss 14))],gs [(S a4 491),(R 215),(.builtin (HasP.ss 15)),.none],su 215,uR 215]),[(.int 163 0),(.int 0 0),(R 203)],(s8 0x656e656353),495,(R 215)⟩,fn 23 [] 220 496 .none iB,fn 24 [] 227 503 .none iB,fn 25 [] 234 510 .none iB,fn 26 [] 241 521 .none iB,fn 27 [] 248 529 .none iB,fn 28 [] 255 537 .none iB,⟨[],[],a7,165,lZ⟩,⟨[tup [(S (s8 0x6a777a) 548),(S (s8 0x6e6564646968) 549)]],[],(s8 0x5455504e495f4e495f53444e494b),550,(R 262)⟩,⟨[tup [(S (s8 0x6a777a) 551),(S (s8 0x6a6e777a) 552),(S (s8 0x6e6564646968) 553)]],[],(s8 0x444e554f52415f53444e494b),554,(R 263)⟩,fo 32 [] 264 555 .none lZ,fo 33 [] 269 561 .none lZ,fn 34 [] 274 567 .none lZ,fn 35 [] 281 575 .none lZ,fn 36 [] 288 585 .none lZ,fn 37 [] 295 593 .none lZ,fn 38 [] 302 601 .none lZ]
def Qi(P:Params):List pP:=[fn 39 [] 309 609 .none lZ,fn 40 [] 316 623 .none lZ,fn 41 [] 323 635 .none lZ,fn 42 [] 330 647 .none lZ,fn 43 [] 337 656 .none lZ,fn 44 [] 344 665 .none lZ,fn 45 [] 351 672 .none lZ,⟨[],[],a7,165,yW⟩,⟨[],[],(s8 0x444e4f42),686,(S (s8 0x65766973727563) 685)⟩,fn 48 [] 358 687 .none yW,fn 49 [] 365 698 .none yW,fn 50 [] 372 709 .none yW,fn 51 [] 379 716 .none yW,fn 52 [] 386 730 .none yW,fn 53 [] 393 741 .none yW,⟨[],[],(s8 0x657669737275635f656974),751,(R 399)⟩,fn 55 [] 400 752 .none yW,⟨[],[],a7,165,tJ⟩,⟨cy [tup [],iD,dc [E P a0 774 tJ,E P a9 776 (S MI 775),E P a1 778 (.int 333 777),E P a3 787 (R 420),E P a6 794 (R 427),E P a2 797 (R 428)] 6,tup [],fl [(.int 335 0),(.int 4 0),(R 419),(.int 339 0),(.int 4 0),(R 426)],cc MI 769 333 410,fr 412 409 tJ] (cy (jw (me 57 0) MI 414 779 .none tJ) (cy (jw (me 57 1) MI 421 788 .none tJ) [tup [(S (s8 0x78) 795),(S (s8 0x79) 796)],dc [E P a0 774 tJ,E P a1 778 (.int 333 777),E P a3 787 (R 420),E P a6 794 (R 427),E P a2 797 (R 428),E P a5 799 (R 431),E P a4 801 (R 432),E P a8 802 .none] 4,cl MI 430 429 767 775,gs [(S a5 798),(R 430),(.builtin (HasP.ss 13)),(.builtin (HasP.ss 14))],gs [(S a4 800),(R 430),(.builtin (HasP.ss 15)),.none],su 430,uR 430])),[(.int 333 0),(.int 0 0),(R 412)],MI,804,(R 430)⟩,fn 58 [] 435 805 .none tJ,fn 59 [] 442 812 .none tJ,fo 60 [] 449 820 .none tJ,⟨[],[],a7,165,dD⟩,⟨[],[],(s8 0x4850594c475f4b52414d),829,(.int 3 828)⟩,fo 63 [] 454 830 .none dD,fo 64 [] 459 836 .none dD,fo 65 [] 464 842 .none dD,fn 66 [] 469 848 .none dD]
def Qs(P:Params):List pP:=[⟨cy [tup [],iD,dc [E P a0 866 dD,E P a9 868 (S MA 867),E P a1 870 (.int 362 869),E P a3 879 (R 489),E P a6 886 (R 496),E P a2 889 (R 497)] 6,tup [],fl [(.int 364 0),(.int 4 0),(R 488),(.int 368 0),(.int 4 0),(R 495)],cc MA 861 362 479,fr 481 478 dD] (cy (jw (me 67 0) MA 483 871 .none dD) (cy (jw (me 67 1) MA 490 880 .none dD) [tup [(S (s8 0x7365736162) 887),(S (s8 0x736b72616d) 888)],dc [E P a0 866 dD,E P a1 870 (.int 362 869),E P a3 879 (R 489),E P a6 886 (R 496),E P a2 889 (R 497),E P a5 891 (R 500),E P a4 893 (R 501),E P a8 894 .none] 4,cl MA 499 498 859 867,gs [(S a5 890),(R 499),(.builtin (HasP.ss 13)),(.builtin (HasP.ss 14))],gs [(S a4 892),(R 499),(.builtin (HasP.ss 15)),.none],su 499,uR 499])),[(.int 362 0),(.int 0 0),(R 481)],MA,896,(R 499)⟩,fn 68 [] 504 897 .none dD,fn 69 [] 511 907 .none dD,fn 70 [] 518 915 .none dD,fn 71 [] 525 925 .none dD,fn 72 [] 532 935 .none dD,fn 73 [] 539 950 .none dD,fn 74 [] 546 960 .none dD,fn 75 [] 553 969 .none dD,fn 76 [] 560 981 .none dD,fn 77 [] 567 989 .none dD,fn 78 [] 574 1001 .none dD,fn 79 [] 581 1012 .none dD,fn 80 [] 588 1020 .none dD,fn 81 [] 595 1030 .none dD,fn 82 [] 602 1041 .none dD,⟨[],[],a7,165,D2⟩,⟨[],[],(s8 0x534850594c475f5942),1054,(.int 1 1053)⟩,⟨[],[],(s8 0x53455353414c435f5942),1056,(.int 2 1055)⟩,fo 86 [] 609 1057 .none D2,fn 87 [] 614 1063 .none D2,fo 88 [] 621 1075 .none D2,⟨[],[],a7,165,jC⟩,⟨[],[],(s8 0x48545045445f54534f4d),1084,(.int 6 1083)⟩,⟨[],[],(s8 0x534543414c505f54534f4d),1086,(.int 64 1085)⟩,⟨[],[],(s8 0x534e4f495443415f54534f4d),1088,(.int 256 1087)⟩]
def Qn(P:Params):List pP:=[⟨cy [tup [],iD,dc [E P a0 1096 jC,E P a9 1098 (S N5 1097),E P a1 1100 (.int 495 1099),E P a3 1109 (R 639),E P a2 1112 (R 640)] 5,tup [],fl [(.int 497 0),(.int 4 0),(R 638)],cc N5 1091 495 629,fr 631 628 jC] (cy (jw (me 93 0) N5 633 1101 .none jC) [tup [(S (s8 0x646e65) 1110),(S (s8 0x776f72) 1111)],dc [E P a0 1096 jC,E P a1 1100 (.int 495 1099),E P a3 1109 (R 639),E P a2 1112 (R 640),E P a5 1114 (R 643),E P a4 1116 (R 644),E P a8 1117 .none] 4,cl N5 642 641 1089 1097,gs [(S a5 1113),(R 642),(.builtin (HasP.ss 13)),(.builtin (HasP.ss 14))],gs [(S a4 1115),(R 642),(.builtin (HasP.ss 15)),.none],su 642,uR 642]),[(.int 495 0),(.int 0 0),(R 631)],N5,1119,(R 642)⟩,fn 94 [] 647 1120 .none jC,fn 95 [] 654 1136 .none jC,fo 96 [] 661 1144 .none jC,fo 97 [] 666 1150 .none jC,fn 98 [] 671 1156 .none jC,fn 99 [] 678 1165 .none jC,fn 100 [] 685 1180 .none jC,fn 101 [] 692 1191 .none jC,⟨[],[],a7,165,I5⟩,fn 103 [] 699 1205 .none I5,fn 104 [] 706 1214 .none I5,⟨[],[],a7,165,lE⟩,fn 106 [] 713 1227 .none lE,fo 107 [] 720 1234 .none lE,⟨cy [tup [],iD,dc [E P a0 1247 lE,E P a9 1249 (S Ln 1248),E P a1 1251 (.int 575 1250),E P a3 1257 (R 737),E P (s8 0x646e6966) 1268 (R 744),E P a6 1274 (R 749),E P a2 1280 (R 750)] 7,tup [],fl [(.int 577 0),(.int 4 0),(R 736),(.int 584 0),(.int 4 0),(R 743),(.int 593 0),(.int 4 0),(R 748)],cc Ln 1242 575 728,fr 730 727 lE,tup [(.bool false)]] (cy (DE (me 108 0) Ln 733 1252 (R 732) lE) (cy (jw (me 108 1) Ln 738 1258 .none lE) (cy (DE (me 108 2) Ln 745 1269 .none lE) [tup [(S (s8 0x6567617265766f63) 1275),(S (s8 0x737473726966) 1276),(S (s8 0x646e6f6365735f7369) 1277),(S (s8 0x73776f72) 1278),(S (s8 0x73646e6f636573) 1279)],dc [E P a0 1247 lE,E P a1 1251 (.int 575 1250),E P a3 1257 (R 737),E P (s8 0x646e6966) 1268 (R 744),E P a6 1274 (R 749),E P a2 1280 (R 750),E P a5 1282 (R 753),E P a4 1284 (R 754),E P a8 1285 .none] 4,cl Ln 752 751 1240 1248,gs [(S a5 1281),(R 752),(.builtin (HasP.ss 13)),(.builtin (HasP.ss 14))],gs [(S a4 1283),(R 752),(.builtin (HasP.ss 15)),.none],su 752,uR 752]))),[(.int 575 0),(.int 0 0),(R 730)],Ln,1287,(R 752)⟩,fn 109 [] 757 1288 .none lE,fn 110 [] 764 1295 .none lE,⟨[],[],a7,165,lv⟩]
def Qt(P:Params):List pP:=[fn 112 [] 771 1309 .none lv,fn 113 [] 778 1319 .none lv,fn 114 [] 785 1329 .none lv,fo 115 [] 792 1338 .none lv,fn 116 [] 797 1344 .none lv,fn 117 [] 804 1353 .none lv,⟨[],[],a7,165,rS⟩,⟨[],[],(s8 0x657275746167696c5f45534142),1375,(.int 1 1374)⟩,⟨[],[],(s8 0x657275746167696c5f4b52414d),1377,(.int 3 1376)⟩,fn 121 [] 811 1378 .none rS,fo 122 [] 818 1385 .none rS,fn 123 [] 823 1391 .none rS,⟨[],[],(s8 0x657275746167696c5f656974),1402,(R 829)⟩,fn 125 [] 830 1403 .none rS,fn 126 [] 837 1416 .none rS,fo 127 [] 844 1432 .none rS,⟨[],[],(s8 0x657275746167696c5f6e696f6a),1438,(R 848)⟩,fn 129 [] 849 1439 .none rS,⟨[],[],a7,165,KL⟩,fn 131 [] 856 1455 .none KL,⟨[],[],a7,165,kP⟩,⟨cy [tup [],iD,dc [E P a0 1476 kP,E P a9 1478 (S MC 1477),E P a1 1480 (.int 745 1479),E P a3 1488 (R 876),E P a6 1494 (R 881),E P a2 1496 (R 882)] 6,tup [],fl [(.int 747 0),(.int 4 0),(R 875),(.int 750 0),(.int 4 0),(R 880)],cc MC 1471 745 866,fr 868 865 kP] (cy (jw (me 133 0) MC 870 1481 .none kP) (cy (DE (me 133 1) MC 877 1489 .none kP) [tup [(S (s8 0x676e697070616d) 1495)],dc [E P a0 1476 kP,E P a1 1480 (.int 745 1479),E P a3 1488 (R 876),E P a6 1494 (R 881),E P a2 1496 (R 882),E P a5 1498 (R 885),E P a4 1500 (R 886),E P a8 1501 .none] 4,cl MC 884 883 1469 1477,gs [(S a5 1497),(R 884),(.builtin (HasP.ss 13)),(.builtin (HasP.ss 14))],gs [(S a4 1499),(R 884),(.builtin (HasP.ss 15)),.none],su 884,uR 884])),[(.int 745 0),(.int 0 0),(R 868)],MC,1503,(R 884)⟩,fn 134 [] 889 1504 .none kP,fn 135 [] 896 1514 .none kP,fn 136 [] 903 1529 .none kP,fn 137 [] 910 1538 .none kP,⟨[],[],a7,165,mX⟩,fn 139 [] 917 1552 .none mX,fn 140 [] 924 1562 .none mX]
def PT(P:Params):List pP:=[fn 141 [] 931 1572 .none mX,fn 142 [] 938 1582 .none mX,fn 143 [] 945 1591 .none mX,⟨[],[],a7,165,fz⟩,⟨[],[],(s8 0x6e65646469685f4a4e575a),1606,(.int 8204 1605)⟩,⟨[],[],(s8 0x6e65646469685f4a575a),1608,(.int 8205 1607)⟩,fn 147 [] 952 1609 .none fz,fn 148 [] 959 1615 .none fz,fn 149 [] 966 1624 .none fz,fn 150 [] 973 1631 .none fz,fn 151 [] 980 1638 .none fz,fn 152 [] 987 1646 .none fz,fn 153 [] 994 1657 .none fz,fn 154 [] 1001 1667 .none fz,fn 155 [] 1008 1674 .none fz,fn 156 [] 1015 1682 .none fz,⟨[],[],a7,165,iG⟩,⟨[tup [(S (s8 0x6c6f7369) 1694),(S (s8 0x616e6966) 1695),(S (s8 0x6964656d) 1696),(S (s8 0x74696e69) 1697)]],[],(s8 0x676e696e696f6a5f534d524f46),1698,(R 1022)⟩,⟨[tup [(S (s8 0x62617261) 1699)]],[],(s8 0x535450495243535f44454e494f4a),1700,(R 1023)⟩,⟨[],[],(s8 0x676e696e696f6a5f4a575a),1702,(.int 8205 1701)⟩,⟨[],[],(s8 0x4c454557544154),1704,(.int 1600 1703)⟩,fn 162 [] 1024 1705 .none iG,fn 163 [] 1031 1715 .none iG,fn 164 [] 1038 1721 .none iG,fn 165 [] 1045 1727 .none iG,fn 166 [] 1052 1733 .none iG,fo 167 [] 1059 1740 .none iG,fn 168 [] 1064 1746 .none iG,fn 169 [] 1071 1753 .none iG,fn 170 [] 1078 1760 .none iG,fn 171 [] 1085 1770 .none iG,fo 172 [] 1092 1778 .none iG,fo 173 [] 1097 1784 .none iG,⟨[],[],(s8 0x676e696e696f6a5f6e696f6a),1790,(R 1101)⟩,fn 175 [] 1102 1791 .none iG,⟨[],[],a7,165,BF⟩,⟨[],[],(s8 0x6e72656b5f4b52414d),1801,(.int 3 1800)⟩,fn 178 [] 1109 1802 .none BF,fn 179 [] 1116 1812 .none BF,fn 180 [] 1123 1823 .none BF]
def Qj(P:Params):List pP:=[fn 181 [] 1130 1837 .none BF,⟨[],[],a7,165,mU⟩,⟨cy [tup [],iD,dc [E P a0 1856 mU,E P a9 1858 (S L9 1857),E P a1 1860 (.int 987 1859),E P a3 1872 (R 1150),E P NC 1879 (R 1157),E P a6 1886 (R 1164),E P a2 1892 (R 1165)] 7,tup [],fl [(.int 989 0),(.int 4 0),(R 1149),(.int 996 0),(.int 4 0),(R 1156),(.int 999 0),(.int 4 0),(R 1163)],cc L9 1851 987 1140,fr 1142 1139 mU] (cy (jw (me 183 0) L9 1144 1861 .none mU) (cy (jw (me 183 1) L9 1151 1873 .none mU) (cy (jw (me 183 2) L9 1158 1880 .none mU) [tup [(S (s8 0x7365636e61766461) 1887),(S (s8 0x746e65637361) 1888),(S (s8 0x73676e6972616562) 1889),(S (s8 0x746e6563736564) 1890),(S (s8 0x7374696e75) 1891)],dc [E P a0 1856 mU,E P a1 1860 (.int 987 1859),E P a3 1872 (R 1150),E P NC 1879 (R 1157),E P a6 1886 (R 1164),E P a2 1892 (R 1165),E P a5 1894 (R 1168),E P a4 1896 (R 1169),E P a8 1897 .none] 4,cl L9 1167 1166 1849 1857,gs [(S a5 1893),(R 1167),(.builtin (HasP.ss 13)),(.builtin (HasP.ss 14))],gs [(S a4 1895),(R 1167),(.builtin (HasP.ss 15)),.none],su 1167,uR 1167]))),[(.int 987 0),(.int 0 0),(R 1142)],L9,1899,(R 1167)⟩,fn 184 [] 1172 1900 .none mU,⟨[],[],a7,165,rY⟩,⟨[tup [(S (s8 0x62617261) 1910),(S (s8 0x72626568) 1911),(S (s8 0x63727973) 1912),(S (s8 0x61616874) 1913),(S (s8 0x206f6b6e) 1914)]],[],(s8 0x535450495243535f445241574b434142),1915,(R 1179)⟩,fn 187 [] 1180 1916 .none rY,fn 188 [] 1187 1922 .none rY,fo 189 [] 1194 1928 .none rY,fn 190 [] 1199 1934 .none rY,fn 191 [] 1206 1943 .none rY,fn 192 [tup [(.int 0 1950)]] 1214 1951 (R 1213) rY,⟨[],[],a7,165,fU⟩,⟨[],[],(s8 0x4c55474e4148),1966,(.int 44032 1965)⟩,⟨[],[],(s8 0x534441454c),1968,(.int 4352 1967)⟩,⟨[],[],(s8 0x6c616d726f6e5f534c45574f56),1970,(.int 4449 1969)⟩,⟨[],[],(s8 0x534c494154),1972,(.int 4519 1971)⟩,⟨[],[],(s8 0x544e554f435f4c45574f56),1974,(.int 21 1973)⟩,⟨[],[],(s8 0x544e554f435f4c494154),1976,(.int 28 1975)⟩,⟨[],[],(s8 0x544e554f435f4441454c),1978,(.int 19 1977)⟩,fn 201 [] 1221 1979 .none fU,fn 202 [] 1228 1988 .none fU,fn 203 [] 1235 2000 .none fU,fn 204 [] 1242 2008 .none fU,fn 205 [] 1249 2018 .none fU,fn 206 [] 1256 2027 .none fU,fo 207 [] 1263 2038 .none fU,fn 208 [] 1268 2044 .none fU,fo 209 [] 1275 2055 .none fU,fn 210 [] 1280 2061 .none fU,fn 211 [] 1287 2069 .none fU]
def Qm(P:Params):List pP:=[fn 212 [] 1294 2077 .none fU,fn 213 [] 1301 2087 .none fU,fo 214 [] 1308 2102 .none fU,fn 215 [] 1313 2108 .none fU,fn 216 [] 1320 2122 .none fU,fn 217 [] 1327 2137 .none fU,⟨[],[],a7,165,pp⟩,⟨cy [tup [(.type (HasP.ss 16))],iD,dc [E P a0 2155 pp,E P a9 2157 (S Jj 2156),E P a1 2159 (.int 1157 2158),E P a3 2171 (R 1350),E P a6 2178 (R 1357),E P a2 2181 (R 1358),E P (s8 0x5f5f6c6c65637373616c635f5f) 2182 (R 1337)] 7,⟨(.type (HasP.ss 17)),.none,(.cell (some (R 1360))),#[]⟩,tup [],fl [(.int 1159 0),(.int 4 0),(R 1349),(.int 1164 0),(.int 4 0),(R 1356)],cc Jj 2150 1157 1338,fr 1340 1336 pp,tup [(.int (-1) 2161)],tup [(R 1337)],tup [(S (s8 0x5f5f7373616c635f5f) 2165)],fl [],tup [(S (s8 0x666c6573) 2166),(S (s8 0x74616877) 2167),(S (s8 0x7461) 2168)],tup [],⟨.none,.none,.func (On (me 219 0) Jj),⟨[]⟩⟩,⟨(.type (HasP.ss 3)),.none,(.fields #[(S a3 2162),(S (s8 0x5f5f74696e695f5f2e726f7272456570616853) 2163),(S Os 2164),(.int 1159 0),(.int 3 0),(.int 0 0),(.int 0 0),(.int 3 0),(R 1344),(.bool true),(.int 181 0),(R 1345),.none,(R 1346),(R 1347),(R 1348),(.int 2169 0),(.int 1159 0),(S Os 2170)]),#[]⟩,⟨.type (HasP.ss 12),.none,.func {On (me 219 0) Jj with globals:=3,closure:=[((s8 0x5f5f7373616c635f5f),1337)],closureTuple:=R 1343,defaults:=R 1342,pyModule:=pp,code:=R 1349},⟨[]⟩⟩] (cy (jw (me 219 1) Jj 1351 2172 .none pp) [tup [(S (s8 0x7461) 2179),(S (s8 0x74616877) 2180)],dc [E P a0 2155 pp,E P a1 2159 (.int 1157 2158),E P a3 2171 (R 1350),E P a6 2178 (R 1357),E P a2 2181 (R 1358),E P a4 2184 (R 1361),E P a8 2185 .none] 4,⟨(.type (HasP.ss 7)),.none,(.cls {name:=Jj,bases:=[(.type (HasP.ss 16))],mro:=[(R 1360),(.type (HasP.ss 16)),(.type (HasP.ss 18)),(.type (HasP.ss 10))],ns:=1359,qualname:=Jj,hasDict:=true,slotNames:=[],subclasses:=[(R 1373)],abstract:=false,hasDel:=false}),#[(some (R 1334)),.none,(some (S Jj 2148)),(some (S Jj 2156)),(some (.builtin (HasP.ss 19))),(some (.bool true))]⟩,gs [(S a4 2183),(R 1360),(.builtin (HasP.ss 15)),.none],su 1360,uR 1360]),[(.int 1157 0),(.int 0 0),(R 1340)],Jj,2189,(R 1360)⟩,⟨[tup [(R 1360)],iD,dc [E P a0 2197 pp,E P a9 2199 (S L0 2198),E P a1 2201 (.int 1166 2200),E P a2 2202 (R 1371)] 4,tup [],fl [],cc L0 2192 1166 1367,fr 1369 1366 pp,tup [],dc [E P a0 2197 pp,E P a1 2201 (.int 1166 2200),E P a2 2202 (R 1371),E P a8 2203 .none] 2,⟨(.type (HasP.ss 7)),.none,(.cls {name:=L0,bases:=[(R 1360)],mro:=[(R 1373),(R 1360),(.type (HasP.ss 16)),(.type (HasP.ss 18)),(.type (HasP.ss 10))],ns:=1372,qualname:=L0,hasDict:=true,slotNames:=[],subclasses:=[],abstract:=false,hasDel:=false}),#[(some (R 1364)),.none,(some (S L0 2190)),(some (S L0 2198)),(some (.builtin (HasP.ss 19))),(some (.bool true))]⟩,su 1373,uR 1373],[(.int 1166 0),(.int 0 0),(R 1369)],L0,2205,(R 1373)⟩,⟨[],[],a7,165,fQ⟩,⟨[tup [(S (s8 0x544c4644) 2208),(S (s8 0x746c6664) 2209),(S (s8 0x6e74616c) 2210)]],[],(s8 0x534b4341424c4c4146),2211,(R 1376)⟩,⟨[],[],(s8 0x534f464e495f4c4c41),2213,(.int 1 2212)⟩,fn 224 [] 1377 2214 .none fQ,fn 225 [] 1384 2220 .none fQ,fn 226 [] 1391 2228 .none fQ,fn 227 [] 1398 2237 .none fQ,fn 228 [] 1405 2245 .none fQ,fn 229 [] 1412 2253 .none fQ,fn 230 [] 1419 2261 .none fQ,fn 231 [] 1426 2273 .none fQ]
def Qg(P:Params):List pP:=[fo 232 [tup [(.bool true)]] 1434 2284 (R 1433) fQ,⟨[],[],a7,165,bS⟩,⟨[],[],(s8 0x535449425f54534f4d),2293,(.int 31 2292)⟩,⟨[],[],(s8 0x45554c41565f54534f4d),2295,(.int 255 2294)⟩,⟨[tup [(S (s8 0x6d766261) 2296),(S (s8 0x6d776c62) 2297),(S (s8 0x706d6363) 2298),(S (s8 0x6c636f6c) 2299),(S (s8 0x6b72616d) 2300),(S (s8 0x6b6d6b6d) 2301),(S (s8 0x67696c72) 2302),(S (s8 0x746c6163) 2303),(S (s8 0x67696c63) 2304),(S (s8 0x73727563) 2305),(S (s8 0x74736964) 2306),(S (s8 0x6e72656b) 2307),(S (s8 0x6167696c) 2308),(S (s8 0x746c6372) 2309)]],[],(s8 0x4e4f4d4d4f43),2310,(R 1439)⟩,⟨[tup [(S (s8 0x6172746c) 2311),(S (s8 0x6d72746c) 2312)]],[],(s8 0x44524157524f46),2313,(R 1440)⟩,⟨[tup [(S (s8 0x616c7472) 2314)]],[],(s8 0x445241574b434142),2315,(R 1441)⟩,⟨[tup [(S (s8 0x706d6363) 2316),(S (s8 0x6c636f6c) 2317),(S (s8 0x6172746c) 2318),(S (s8 0x6d72746c) 2319),(S (s8 0x616c7472) 2320),(S (s8 0x6d6c7472) 2321)],tup [(S (s8 0x6c6f7369) 2322)],tup [(S (s8 0x616e6966) 2323)],tup [(S (s8 0x6964656d) 2324)],tup [(S (s8 0x74696e69) 2325)],tup [(S (s8 0x67696c72) 2326)],tup [(R 1442),(R 1443),(R 1444),(R 1445),(R 1446),(R 1447)]],[],(s8 0x5345474154535f44454e494f4a),2327,(R 1448)⟩,⟨cy [tup [],iD,dc [E P a0 2335 bS,E P a9 2337 (S MK 2336),E P a1 2339 (.int 1222 2338),E P a3 2356 (R 1464),E P a6 2362 (R 1469),E P a2 2372 (R 1470)] 6,tup [],fl [(.int 1224 0),(.int 4 0),(R 1463),(.int 1235 0),(.int 4 0),(R 1468)],cc MK 2330 1222 1452,fr 1454 1451 bS,tup [],tup [(.int 1 2340),(R 1456)]] (cy (jw (me 240 0) MK 1458 2341 (R 1457) bS) (cy (DE (me 240 1) MK 1465 2357 .none bS) [tup [(S (s8 0x73746c7561666564) 2363),(S (s8 0x6e72656b5f736168) 2364),(S (s8 0x647261776b6361625f7369) 2365),(S (s8 0x65676175676e616c) 2366),(S (s8 0x736b73616d) 2367),(S (s8 0x736e6f697469736f70) 2368),(S (s8 0x747069726373) 2369),(S (s8 0x736761745f746573) 2370),(S (s8 0x736567617473) 2371)],dc [E P a0 2335 bS,E P a1 2339 (.int 1222 2338),E P a3 2356 (R 1464),E P a6 2362 (R 1469),E P a2 2372 (R 1470),E P a5 2374 (R 1473),E P a4 2376 (R 1474),E P a8 2377 .none] 4,cl MK 1472 1471 2328 2336,gs [(S a5 2373),(R 1472),(.builtin (HasP.ss 13)),(.builtin (HasP.ss 14))],gs [(S a4 2375),(R 1472),(.builtin (HasP.ss 15)),.none],su 1472,uR 1472])),[(.int 1222 0),(.int 0 0),(R 1454)],MK,2379,(R 1472)⟩,fn 241 [] 1477 2380 .none bS,⟨cy [tup [],iD,dc [E P a0 2394 bS,E P a9 2396 (S ME 2395),E P a1 2398 (.int 1244 2397),E P a3 2408 (R 1498),E P (s8 0x6e776f5f736168) 2415 (R 1505),E P a2 2420 (R 1506)] 6,tup [],fl [(.int 1246 0),(.int 4 0),(R 1497),(.int 1252 0),(.int 4 0),(R 1504)],cc ME 2389 1244 1487,fr 1489 1486 bS,tup [(.bool false)]] (cy (jw (me 242 0) ME 1492 2399 (R 1491) bS) (cy (jw (me 242 1) ME 1499 2409 .none bS) [tup [(S (s8 0x747261705f7369) 2416),(S (s8 0x7465735f7369) 2417),(S (s8 0x74736f6d) 2418),(S (s8 0x65756c6176) 2419)],dc [E P a0 2394 bS,E P a1 2398 (.int 1244 2397),E P a3 2408 (R 1498),E P (s8 0x6e776f5f736168) 2415 (R 1505),E P a2 2420 (R 1506),E P a5 2422 (R 1509),E P a4 2424 (R 1510),E P a8 2425 .none] 4,cl ME 1508 1507 2387 2395,gs [(S a5 2421),(R 1508),(.builtin (HasP.ss 13)),(.builtin (HasP.ss 14))],gs [(S a4 2423),(R 1508),(.builtin (HasP.ss 15)),.none],su 1508,uR 1508])),[(.int 1244 0),(.int 0 0),(R 1489)],ME,2427,(R 1508)⟩,fn 243 [] 1513 2428 .none bS,fn 244 [] 1520 2438 .none bS,fn 245 [] 1527 2450 .none bS,fn 246 [] 1534 2465 .none bS,fn 247 [] 1541 2475 .none bS,fn 248 [] 1548 2483 .none bS,fn 249 [] 1555 2492 .none bS,fn 250 [] 1562 2501 .none bS,fo 251 [] 1569 2514 .none bS]
def Pj(P:Params):List pP:=[fo 252 [] 1574 2520 .none bS,fo 253 [] 1579 2526 .none bS,fn 254 [] 1584 2532 .none bS,⟨[],[],a7,165,jM⟩,⟨[tup [(.int 2325 2548),(.int 2361 2549)],tup [(.int 2392 2550),(.int 2399 2551)],tup [(R 1591),(R 1592)]],[],(s8 0x53544e414e4f534e4f43),2552,(R 1593)⟩,⟨[tup [(.int 2308 2553),(.int 2324 2554)],tup [(.int 2400 2555),(.int 2401 2556)],tup [(R 1594),(R 1595)]],[],(s8 0x73656c62616c6c79735f534c45574f56),2557,(R 1596)⟩,⟨[tup [(.int 2366 2558),(.int 2366 2559)],tup [(.int 2368 2560),(.int 2380 2561)],tup [(.int 2402 2562),(.int 2403 2563)],tup [(R 1597),(R 1598),(R 1599)]],[],(s8 0x53415254414d),2564,(R 1600)⟩,⟨[tup [(.int 2304 2565),(.int 2307 2566)],tup [(.int 2385 2567),(.int 2388 2568)],tup [(R 1601),(R 1602)]],[],(s8 0x534e474953),2569,(R 1603)⟩,⟨[],[],(s8 0x414d41524956),2571,(.int 2381 2570)⟩,⟨[],[],(s8 0x41544b554e),2573,(.int 2364 2572)⟩,⟨[],[],(s8 0x495f415254414d),2575,(.int 2367 2574)⟩,⟨[],[],(s8 0x73656c62616c6c79735f4a4e575a),2577,(.int 8204 2576)⟩,⟨[],[],(s8 0x73656c62616c6c79735f4a575a),2579,(.int 8205 2578)⟩,⟨[],[],(s8 0x454c435249435f444554544f44),2581,(.int 9676 2580)⟩,fn 266 [] 1604 2582 .none jM,fn 267 [] 1611 2592 .none jM,fn 268 [] 1618 2601 .none jM,fn 269 [] 1625 2609 .none jM,fn 270 [] 1632 2618 .none jM,fn 271 [] 1639 2627 .none jM,fo 272 [] 1646 2638 .none jM,fn 273 [] 1651 2644 .none jM,fn 274 [] 1658 2652 .none jM,fo 275 [] 1665 2663 .none jM,fn 276 [] 1670 2669 .none jM,fo 277 [tup [(.bool false)]] 1678 2678 (R 1677) jM,⟨[],[],a7,165,cH⟩,⟨[],[],(s8 0x7265706168735f4b52414d),2687,(.int 3 2686)⟩,⟨[],[],(s8 0x4543415053),2689,(.int 32 2688)⟩,⟨[tup [(S (s8 0x6c6f7369) 2690),(S (s8 0x74696e69) 2691),(S (s8 0x6964656d) 2692),(S (s8 0x616e6966) 2693)]],[],(s8 0x7265706168735f534d524f46),2694,(R 1683)⟩,⟨cy [tup [],iD,dc [E P a0 2702 cH,E P a9 2704 (S MJ 2703),E P a1 2706 (.int 1454 2705),E P a3 2715 (R 1697),E P a6 2722 (R 1704),E P a2 2725 (R 1705)] 6,tup [],fl [(.int 1456 0),(.int 4 0),(R 1696),(.int 1460 0),(.int 4 0),(R 1703)],cc MJ 2697 1454 1687,fr 1689 1686 cH] (cy (jw (me 282 0) MJ 1691 2707 .none cH) (cy (jw (me 282 1) MJ 1698 2716 .none cH) [tup [(S (s8 0x647261776b6361625f7369) 2723),(S (s8 0x73776f72) 2724)],dc [E P a0 2702 cH,E P a1 2706 (.int 1454 2705),E P a3 2715 (R 1697),E P a6 2722 (R 1704),E P a2 2725 (R 1705),E P a5 2727 (R 1708),E P a4 2729 (R 1709),E P a8 2730 .none] 4,cl MJ 1707 1706 2695 2703,gs [(S a5 2726),(R 1707),(.builtin (HasP.ss 13)),(.builtin (HasP.ss 14))],gs [(S a4 2728),(R 1707),(.builtin (HasP.ss 15)),.none],su 1707,uR 1707])),[(.int 1454 0),(.int 0 0),(R 1689)],MJ,2732,(R 1707)⟩,fn 283 [] 1712 2733 .none cH,fo 284 [] 1719 2742 .none cH,fn 285 [] 1724 2748 .none cH]
def OD(P:Params):List pP:=[fn 286 [] 1731 2757 .none cH,fn 287 [] 1738 2769 .none cH,fn 288 [] 1745 2778 .none cH,fn 289 [] 1752 2786 .none cH,fo 290 [] 1759 2797 .none cH,fn 291 [] 1764 2803 .none cH,fn 292 [tup [],tup [(S (s8 0x544c4644) 2815),(S (s8 0x746c6664) 2816),(R 1771),.none,.none]] 1773 2817 (R 1772) cH,fo 293 [tup [],tup [(S (s8 0x544c4644) 2832),(S (s8 0x746c6664) 2833),(R 1780),.none,.none]] 1782 2834 (R 1781) cH,⟨[],[],a7,165,KU⟩,fn 295 [] 1787 2842 .none KU,⟨[],[],a7,165,nc⟩,⟨cy [tup [],iD,dc [E P a0 2861 nc,E P a9 2863 (S K1 2862),E P a1 2865 (.int 1532 2864),E P a3 2871 (R 1806),E P (s8 0x6870796c67) 2879 (R 1813),E P (s8 0x666f5f6870796c67) 2889 (R 1820),E P a6 2895 (R 1825),E P a2 2898 (R 1826)] 8,tup [],fl [(.int 1534 0),(.int 4 0),(R 1805),(.int 1538 0),(.int 4 0),(R 1812),(.int 1541 0),(.int 4 0),(R 1819),(.int 1549 0),(.int 4 0),(R 1824)],cc K1 2856 1532 1797,fr 1799 1796 nc,tup [.none]] (cy (DE (me 297 0) K1 1802 2866 (R 1801) nc) (cy (jw (me 297 1) K1 1807 2872 .none nc) (cy (jw (me 297 2) K1 1814 2880 .none nc) (cy (DE (me 297 3) K1 1821 2890 .none nc) [tup [(S (s8 0x7365646f63) 2896),(S (s8 0x736e6f69746169726176) 2897)],dc [E P a0 2861 nc,E P a1 2865 (.int 1532 2864),E P a3 2871 (R 1806),E P (s8 0x6870796c67) 2879 (R 1813),E P (s8 0x666f5f6870796c67) 2889 (R 1820),E P a6 2895 (R 1825),E P a2 2898 (R 1826),E P a5 2900 (R 1829),E P a4 2902 (R 1830),E P a8 2903 .none] 4,cl K1 1828 1827 2854 2862,gs [(S a5 2899),(R 1828),(.builtin (HasP.ss 13)),(.builtin (HasP.ss 14))],gs [(S a4 2901),(R 1828),(.builtin (HasP.ss 15)),.none],su 1828,uR 1828])))),[(.int 1532 0),(.int 0 0),(R 1799)],K1,2905,(R 1828)⟩,⟨[],[],a7,165,lR⟩,⟨cy [tup [],iD,dc [E P a0 2915 lR,E P a9 2917 (S Jw 2916),E P a1 2919 (.int 1553 2918),E P a3 2927 (R 1846),E P (s8 0x666f5f7373616c63) 2935 (R 1853),E P (s8 0x666f5f736870796c67) 2943 (R 1860),E P (s8 0x746e756f63) 2952 (R 1867),E P a6 2958 (R 1872),E P a2 2960 (R 1873)] 9,tup [],fl [(.int 1555 0),(.int 4 0),(R 1845),(.int 1558 0),(.int 4 0),(R 1852),(.int 1561 0),(.int 4 0),(R 1859),(.int 1564 0),(.int 4 0),(R 1866),(.int 1570 0),(.int 4 0),(R 1871)],cc Jw 2910 1553 1836,fr 1838 1835 lR] (cy (jw (me 299 0) Jw 1840 2920 .none lR) (cy (jw (me 299 1) Jw 1847 2928 .none lR) (cy (jw (me 299 2) Jw 1854 2936 .none lR) (cy (jw (me 299 3) Jw 1861 2944 .none lR) (cy (DE (me 299 4) Jw 1868 2953 .none lR) [tup [(S (s8 0x73657373616c63) 2959)],dc [E P a0 2915 lR,E P a1 2919 (.int 1553 2918),E P a3 2927 (R 1846),E P (s8 0x666f5f7373616c63) 2935 (R 1853),E P (s8 0x666f5f736870796c67) 2943 (R 1860),E P (s8 0x746e756f63) 2952 (R 1867),E P a6 2958 (R 1872),E P a2 2960 (R 1873),E P a5 2962 (R 1876),E P a4 2964 (R 1877),E P a8 2965 .none] 4,cl Jw 1875 1874 2908 2916,gs [(S a5 2961),(R 1875),(.builtin (HasP.ss 13)),(.builtin (HasP.ss 14))],gs [(S a4 2963),(R 1875),(.builtin (HasP.ss 15)),.none],su 1875,uR 1875]))))),[(.int 1553 0),(.int 0 0),(R 1838)],Jw,2967,(R 1875)⟩,⟨[],[],a7,165,ou⟩]
def O2(P:Params):List pP:=[⟨cy [tup [],iD,dc [E P a0 2977 ou,E P a9 2979 (S LS 2978),E P a1 2981 (.int 1573 2980),E P a3 2994 (R 1893),E P NC 3002 (R 1901),E P a6 3008 (R 1906),E P a2 3015 (R 1907)] 7,tup [],fl [(.int 1575 0),(.int 4 0),(R 1892),(.int 1584 0),(.int 4 0),(R 1899),(.int 1587 0),(.int 4 0),(R 1905)],cc LS 2972 1573 1883,fr 1885 1882 ou] (cy (jw (me 301 0) LS 1887 2982 .none ou) (cy (jw (me 301 1) LS 1894 2995 .none ou) (cy [⟨(.type (HasP.ss 20)),.none,(.fields #[(R 1900),.none,.none,.none,(S NC 3002),(.bool false)]),#[]⟩] (cy (DE (me 301 2) LS 1902 3003 .none ou) [tup [(S (s8 0x70616d72616863) 3009),(S (s8 0x66656467) 3010),(S (s8 0x736f7067) 3011),(S (s8 0x62757367) 3012),(S (s8 0x6e72656b) 3013),(S (s8 0x7363697274656d) 3014)],dc [E P a0 2977 ou,E P a1 2981 (.int 1573 2980),E P a3 2994 (R 1893),E P NC 3002 (R 1901),E P a6 3008 (R 1906),E P a2 3015 (R 1907),E P a5 3017 (R 1910),E P a4 3019 (R 1911),E P a8 3020 .none] 4,cl LS 1909 1908 2970 2978,gs [(S a5 3016),(R 1909),(.builtin (HasP.ss 13)),(.builtin (HasP.ss 14))],gs [(S a4 3018),(R 1909),(.builtin (HasP.ss 15)),.none],su 1909,uR 1909])))),[(.int 1573 0),(.int 0 0),(R 1885)],LS,3022,(R 1909)⟩,fn 302 [] 1914 3023 .none ou,⟨[],[],a7,165,k7⟩,⟨[],[],(s8 0x5353414c435f4f4e),3033,(.int 0 3032)⟩,⟨[],[],(s8 0x666564675f45534142),3035,(.int 1 3034)⟩,⟨[],[],(s8 0x544e454e4f504d4f43),3037,(.int 4 3036)⟩,⟨cy [tup [],iD,dc [E P a0 3045 k7,E P a9 3047 (S Js 3046),E P a1 3049 (.int 1595 3048),E P a3 3061 (R 1935),E P (s8 0x7373616c635f6870796c67) 3070 (R 1942),E P (s8 0x7373616c635f686361747461) 3078 (R 1949),E P (s8 0x7465735f6e695f7369) 3087 (R 1956),E P a6 3093 (R 1961),E P a2 3099 (R 1962)] 9,tup [],fl [(.int 1597 0),(.int 4 0),(R 1934),(.int 1604 0),(.int 4 0),(R 1941),(.int 1608 0),(.int 4 0),(R 1948),(.int 1611 0),(.int 4 0),(R 1955),(.int 1614 0),(.int 4 0),(R 1960)],cc Js 3040 1595 1924,fr 1926 1923 k7,tup [.none,.none]] (cy (jw (me 307 0) Js 1929 3050 (R 1928) k7) (cy (jw (me 307 1) Js 1936 3062 .none k7) (cy (jw (me 307 2) Js 1943 3071 .none k7) (cy (jw (me 307 3) Js 1950 3079 .none k7) (cy (DE (me 307 4) Js 1957 3088 .none k7) [tup [(S (s8 0x686361747461) 3094),(S (s8 0x737465726163) 3095),(S (s8 0x73657373616c63) 3096),(S (s8 0x73746e696f70) 3097),(S (s8 0x73746573) 3098)],dc [E P a0 3045 k7,E P a1 3049 (.int 1595 3048),E P a3 3061 (R 1935),E P (s8 0x7373616c635f6870796c67) 3070 (R 1942),E P (s8 0x7373616c635f686361747461) 3078 (R 1949),E P (s8 0x7465735f6e695f7369) 3087 (R 1956),E P a6 3093 (R 1961),E P a2 3099 (R 1962),E P a5 3101 (R 1965),E P a4 3103 (R 1966),E P a8 3104 .none] 4,cl Js 1964 1963 3038 3046,gs [(S a5 3100),(R 1964),(.builtin (HasP.ss 13)),(.builtin (HasP.ss 14))],gs [(S a4 3102),(R 1964),(.builtin (HasP.ss 15)),.none],su 1964,uR 1964]))))),[(.int 1595 0),(.int 0 0),(R 1926)],Js,3106,(R 1964)⟩,⟨[],[],a7,165,dm⟩]
def Pe(P:Params):List pP:=[⟨cy [tup [],iD,dc [E P a0 3116 dm,E P a9 3118 (S MF 3117),E P a1 3120 (.int 1619 3119),E P a3 3129 (R 1982),E P a6 3136 (R 1989),E P a2 3139 (R 1990)] 6,tup [],fl [(.int 1621 0),(.int 4 0),(R 1981),(.int 1625 0),(.int 4 0),(R 1988)],cc MF 3111 1619 1972,fr 1974 1971 dm] (cy (jw (me 309 0) MF 1976 3121 .none dm) (cy (jw (me 309 1) MF 1983 3130 .none dm) [tup [(S (s8 0x7365727574616566) 3137),(S (s8 0x6465726975716572) 3138)],dc [E P a0 3116 dm,E P a1 3120 (.int 1619 3119),E P a3 3129 (R 1982),E P a6 3136 (R 1989),E P a2 3139 (R 1990),E P a5 3141 (R 1993),E P a4 3143 (R 1994),E P a8 3144 .none] 4,cl MF 1992 1991 3109 3117,gs [(S a5 3140),(R 1992),(.builtin (HasP.ss 13)),(.builtin (HasP.ss 14))],gs [(S a4 3142),(R 1992),(.builtin (HasP.ss 15)),.none],su 1992,uR 1992])),[(.int 1619 0),(.int 0 0),(R 1974)],MF,3146,(R 1992)⟩,⟨cy [tup [],iD,dc [E P a0 3154 dm,E P a9 3156 (S MN 3155),E P a1 3158 (.int 1627 3157),E P a3 3168 (R 2010),E P a6 3174 (R 2015),E P a2 3178 (R 2016)] 6,tup [],fl [(.int 1629 0),(.int 4 0),(R 2009),(.int 1634 0),(.int 4 0),(R 2014)],cc MN 3149 1627 2000,fr 2002 1999 dm] (cy (jw (me 310 0) MN 2004 3159 .none dm) (cy (DE (me 310 1) MN 2011 3169 .none dm) [tup [(S (s8 0x746c7561666564) 3175),(S (s8 0x7365676175676e616c) 3176),(S (s8 0x676174) 3177)],dc [E P a0 3154 dm,E P a1 3158 (.int 1627 3157),E P a3 3168 (R 2010),E P a6 3174 (R 2015),E P a2 3178 (R 2016),E P a5 3180 (R 2019),E P a4 3182 (R 2020),E P a8 3183 .none] 4,cl MN 2018 2017 3147 3155,gs [(S a5 3179),(R 2018),(.builtin (HasP.ss 13)),(.builtin (HasP.ss 14))],gs [(S a4 3181),(R 2018),(.builtin (HasP.ss 15)),.none],su 2018,uR 2018])),[(.int 1627 0),(.int 0 0),(R 2002)],MN,3185,(R 2018)⟩,⟨cy [tup [],iD,dc [E P a0 3193 dm,E P a9 3195 (S ML 3194),E P a1 3197 (.int 1637 3196),E P a3 3206 (R 2036),E P a6 3213 (R 2043),E P a2 3216 (R 2044)] 6,tup [],fl [(.int 1639 0),(.int 4 0),(R 2035),(.int 1643 0),(.int 4 0),(R 2042)],cc ML 3188 1637 2026,fr 2028 2025 dm] (cy (jw (me 311 0) ML 2030 3198 .none dm) (cy (jw (me 311 1) ML 2037 3207 .none dm) [tup [(S (s8 0x7370756b6f6f6c) 3214),(S (s8 0x676174) 3215)],dc [E P a0 3193 dm,E P a1 3197 (.int 1637 3196),E P a3 3206 (R 2036),E P a6 3213 (R 2043),E P a2 3216 (R 2044),E P a5 3218 (R 2047),E P a4 3220 (R 2048),E P a8 3221 .none] 4,cl ML 2046 2045 3186 3194,gs [(S a5 3217),(R 2046),(.builtin (HasP.ss 13)),(.builtin (HasP.ss 14))],gs [(S a4 3219),(R 2046),(.builtin (HasP.ss 15)),.none],su 2046,uR 2046])),[(.int 1637 0),(.int 0 0),(R 2028)],ML,3223,(R 2046)⟩]
def Ox(P:Params):List pP:=[⟨cy [tup [],iD,dc [E P a0 3231 dm,E P a9 3233 (S MH 3232),E P a1 3235 (.int 1645 3234),E P a3 3245 (R 2064),E P a6 3251 (R 2069),E P a2 3255 (R 2070)] 6,tup [],fl [(.int 1647 0),(.int 4 0),(R 2063),(.int 1652 0),(.int 4 0),(R 2068)],cc MH 3226 1645 2054,fr 2056 2053 dm] (cy (jw (me 312 0) MH 2058 3236 .none dm) (cy (DE (me 312 1) MH 2065 3246 .none dm) [tup [(S (s8 0x7365727574616566) 3252),(S (s8 0x7370756b6f6f6c) 3253),(S (s8 0x73747069726373) 3254)],dc [E P a0 3231 dm,E P a1 3235 (.int 1645 3234),E P a3 3245 (R 2064),E P a6 3251 (R 2069),E P a2 3255 (R 2070),E P a5 3257 (R 2073),E P a4 3259 (R 2074),E P a8 3260 .none] 4,cl MH 2072 2071 3224 3232,gs [(S a5 3256),(R 2072),(.builtin (HasP.ss 13)),(.builtin (HasP.ss 14))],gs [(S a4 3258),(R 2072),(.builtin (HasP.ss 15)),.none],su 2072,uR 2072])),[(.int 1645 0),(.int 0 0),(R 2056)],MH,3262,(R 2072)⟩,⟨[],[],a7,165,t4⟩,fn 314 [] 2077 3265 .none (S LW 3263),fo 315 [] 2084 3275 .none (S LW 3263),fo 316 [] 2089 3281 .none (S LW 3263),fn 317 [] 2094 3287 .none (S LW 3263),fn 318 [] 2101 3296 .none (S LW 3263),fo 319 [] 2108 3305 .none (S LW 3263)]
def Oz:List (Params→List pP):=[fun P=>cy (PS P) (P5 P),fun P=>cy (Qi P) (Qs P),fun P=>cy (Qn P) (Qt P),fun P=>cy (PT P) (Qj P),fun P=>cy (Qm P) (Qg P),fun P=>cy (Pj P) (OD P),fun P=>cy (O2 P) (Pe P),Ox]
structure Ph where
 i:Nat
 n:Nat
 t:Nat
 p:Pos
noncomputable def fi:List Ph:=[⟨0,15,187,⟨0,0,0,0⟩⟩,⟨39,309,609,⟨221,0,222,38⟩⟩,⟨93,626,1089,⟨494,0,494,12⟩⟩,⟨141,931,1572,⟨805,0,810,13⟩⟩,⟨212,1294,2077,⟨1101,0,1102,62⟩⟩,⟨252,1574,2520,⟨1316,0,1321,62⟩⟩,⟨301,1880,2970,⟨1572,0,1572,8⟩⟩,⟨312,2051,3224,⟨1637,0,1644,46⟩⟩,⟨320,2113,3311,⟨1691,0,1713,68⟩⟩]
noncomputable def cutSteps:List Nat:=[1988,1854,1947,1954,1963,1963,1545,435]
def PW(P:Params):Obj:=⟨.none,.none,.dict ⟨[E P (s8 0x302e6e6f697470656378452e5f5f73657373616c636275735f5f2e65707974) 2186 (.int 1360 0),E P (s8 0x6e2e6e6f697470656378452e5f5f73657373616c636275735f5f2e65707974) 2187 (.int 1 0)]⟩ 2,⟨[]⟩⟩
noncomputable def PO:Nat:=5
noncomputable def MS(P:Params):Nat→List (Params→List pP)→List pP
 |0,_=>[]
 |_+1,[]=>[]
 |n+1,f::l=>cy (f P) (MS P n l)
noncomputable def PL(r:pP):Bool:=Nat.beq r.kt 165
noncomputable def Ag:Value→List pP→Value
 |v,[]=>v
 |v,r::l=>match PL r with|true=>Ag r.val l|false=>Ag v l
noncomputable def Ig(t:Nat):Value→List pP→Value
 |v,[]=>v
 |v,r::l=>match Nat.beq r.kt t with|true=>r.val|false=>Ig t v l
def Mr(r:pP)(l:List pP):Value:=match Nat.beq r.kt 750 with
 |true=>Ig 1401 r.val l
 |false=>match Nat.beq r.kt 1437 with|true=>Ig 1789 r.val l|false=>r.val
noncomputable def OQ(P:Params):List pP→List DictEntry
 |[]=>[]
 |r::l=>match PL r||Nat.beq r.kt 1401||Nat.beq r.kt 1789 with|true=>OQ P l|false=>E P r.key r.kt (Mr r l)::OQ P l
def Nt(P:Params)(rs:List pP):Obj:=
 let l:=OQ P rs
 dc (E P a7 165 (Ag LY rs)::E P a8 166 .none::E P (s8 0x5f5f6567616b6361705f5f) 167 .none::E P (s8 0x5f5f726564616f6c5f5f) 168 (.builtin (HasP.ss 21))::E P (s8 0x5f5f636570735f5f) 169 .none ::
  E P (s8 0x5f5f736e6f697461746f6e6e615f5f) 170 (R 6)::E P (s8 0x5f5f736e69746c6975625f5f) 171 (R 4)::E P (s8 0x5f5f656c69665f5f) 173 (S GQ 172)::E P (s8 0x5f5f6465686361635f5f) 174 .none::l) (9+l.length)
noncomputable def Pw:List pP→List Value
 |[]=>[]
 |r::l=>cy r.ct (Pw l)
noncomputable def PB:List pP→List Obj
 |[]=>[]
 |r::l=>cy r.objs (PB l)
def jj(P:Params)(j:Nat):List Obj:=
 let rs:=MS P j Oz
 boot_o_0 P::boot_o_1 P::(match Nat.ble PO j with|true=>PW P|false=>boot_o_2 P)::Nt P rs::boot_o_4 P::boot_o_5 P::boot_o_6 P::boot_o_7 P::boot_o_8 P::boot_o_9 P::boot_o_10 P ::
  tup []::fl (Pw rs)::Ef (s8 0x3e656c75646f6d3c) (s8 0x3e656c75646f6d3c) 182 1 0 0 11 false 12 .none .none .none 185::fr 13 3 LY::PB rs
noncomputable def lf:List Obj→List Obj
 |[]=>[]
 |[a]=>[a]
 |a::_::l=>a::lf l
noncomputable def lS:Nat→List Obj→BT
 |0,_=>.nil
 |_+1,[]=>.nil
 |n+1,o::l=>.node o (lS n (lf l)) (lS n (lf l.tail))
noncomputable def eU:Nat→List Ph→Ph
 |_,[]=>⟨0,0,0,⟨0,0,0,0⟩⟩
 |0,c::_=>c
 |n+1,_::l=>eU n l
def Ge(j:Nat)(w:World)(os:OsState):SharedT:=⟨lS 12 (jj w.params j),(eU j fi).n,{},⟨[]⟩,{},(eU j fi).t,os⟩
noncomputable def bodyL:List Stmt:=behindTheImports HasP.p
def nO:Env:={scope:=HasP.p.main.scope,locals:=mainNs,globals:=mainNs,cells:=[],code:=R 13,frame:=some 14}
def C5(j:Nat):List Stmt:=(bodyL.drop (eU j fi).i).take ((eU (j+1) fi).i-(eU j fi).i)
def Lf(j:Nat)(w:World)(os:OsState):Option (Flow×SharedT×Code×Pos):= segRunT treeTable HasP.p w 11 (some (R 6)) 1 (((cutSteps.drop j).headD 0)+1) (Ge j w os) (piecesOf (C5 j) nO (.body bodyL nO) (eU j fi).p [topFrame ⟨0,0,0,0⟩])
def u2(j:Nat)(w:World)(os:OsState):Option (Flow×SharedT×Code×Pos):=some (.next,Ge (j+1) w os,.body bodyL nO,(eU (j+1) fi).p)
end
theorem Qq:(fun _:[HasP]→Nat→World→OsState→Option (Flow×SharedT×Code×Pos)=>true) @Lf=true:=by k_qdec
noncomputable instance iPP:HasP:=⟨PP,fun k=>N0 k ["tuple","getset_descriptor","dict","code","frame","builtin_function_or_method","type.__prepare__","type","super","object.__init_subclass__","object","object.__new__","function","function.__dict__","function.__dict__#set","ExceptionGroup.__weakref__","Exception","cell","BaseException","Exception.__new__","property","__main__.__loader__#opaque"]⟩
end
theorem G0:PySem.W.Fast.tw16741427426087532498 0=u2 0:=by kernel_rfl
theorem HJ:PySem.W.Fast.tw16741427426087532498 1=u2 1:=by kernel_rfl
theorem Hw:PySem.W.Fast.tw16741427426087532498 2=u2 2:=by kernel_rfl
theorem Ja:PySem.W.Fast.tw16741427426087532498 3=u2 3:=by kernel_rfl
theorem Im:PySem.W.Fast.tw16741427426087532498 4=u2 4:=by kernel_rfl
theorem HF:PySem.W.Fast.tw16741427426087532498 5=u2 5:=by kernel_rfl
theorem GU:PySem.W.Fast.tw16741427426087532498 6=u2 6:=by kernel_rfl
theorem I8:PySem.W.Fast.tw16741427426087532498 7=u2 7:=by kernel_rfl
theorem gD{j:Nat}(h:PySem.W.Fast.tw16741427426087532498 j=u2 j):Lf j=u2 j:=
 (congrFun (congrFun PySem.W.Fast.te16741427426087532498 iPP) j).trans h
section
noncomputable abbrev RR:=PySem.Challenge.rw_pf0153_01.row
section
variable[HasP]
noncomputable def sg:PySem.Program:={HasP.p with main:={HasP.p.main with body:=HasP.p.main.body.drop 319}}
noncomputable def l9:List PySem.Str:=(HasP.p.main.scope.names.map (·.1)).filter fun n=>!(n==(PySem.Str.ofString "law")) && !(n==(PySem.Str.ofString "__name__"))
def wI(w:World)(os:OsState):Shared:=⟨⟨⟨jj w.params 8⟩,{}⟩,⟨[]⟩,{},3311,os⟩
noncomputable def K8 : List Str := importedModules HasP.p.main.body
def Jd(w:World)(os:OsState):Bool:=staticsOk K8 (boot_heap w.params) (wI w os).heap
def Hi(w:World)(os:OsState):Bool:=namesBound HasP.p (wI w os).heap
def K4(w:World)(os:OsState):Bool:=gensDone (wI w os)&&laidKept (boot_heap w.params) (wI w os).heap
noncomputable def PY(w:World)(os:OsState):Bool:=true
noncomputable def OG(s:Shared):Bool:=xlAt sg [] s&&recOk [] s
def KY(w:World)(os:OsState):=openSeen sg l9 K8 OG true (wI w os)
def KP(w:World)(os:OsState):=openGood sg l9
end
def OY:Bool:=(fun a b c=>let _:=(a,b,c);true) @Jd @Hi @K4
def N3:Bool:=(fun a b=>let _:=(a,b);true) @KY @KP
theorem Qp:OY=true:=by k_qdec
theorem PX:N3=true:=by k_qdec
end
set_option maxHeartbeats 0
theorem Kj:PySem.W.Fast.tw3140068170186336956=fun _ _=>true:=by kernel_rfl
theorem IK:K4=fun _ _=>true:=by kernel_rfl
theorem HO:Hi=fun _ _=>true:=by kernel_rfl
theorem lookD_F:PySem.W.Fast.tw15852473026317749427=PySem.W.Fast.tw6080880885171901488:=by kernel_rfl
section
theorem qz:∀(l:List Obj) (k:Nat),(lf l)[k]?=l[2*k]?
 |[],k=>rfl
 |[a],0=>rfl
 |[a],k+1=>rfl
 |a::b::l,0=>rfl
 |a::b::l,k+1=>by
  show(lf l)[k]?=_;exact qz l k
theorem qx:∀l:List Obj,(lf l).length=(l.length+1) / 2
 |[]=>rfl
 |[a]=>(show 1=(0+1+1) / 2 by decide)
 |a::b::l=>by
  show(lf l).length+1=_;rw[qx l];exact(Nat.add_div_right (l.length+1) (Nat.zero_lt_succ 1)).symm
theorem mu:∀(n:Nat) (l:List Obj) (i:Nat),l.length<2 ^ n→(lS n l).get i=l[i]?
 |0,l,i,h=>by
  have:l=[]:=List.length_eq_zero_iff.mp (by simpa using h);subst this;induction i using jU<;>rfl
 |n+1,[],i,h=>by induction i using jU<;>rfl
 |n+1,o::l,i,h=>by
  have hl:l.length+1<2 ^ n*2:=by rw[←Nat.pow_succ];exact h
  show(BT.node o (lS n (lf l)) (lS n (lf l.tail))).get i=_;have h1:(l.length+1) / 2<2 ^ n:=Nat.div_lt_of_lt_mul (by rw[Nat.mul_comm];exact hl);have h2:(l.tail.length+1) / 2<2 ^ n:=aJ (Nat.div_le_div_right (Nat.add_le_add_right (by rw[List.length_tail];exact Nat.sub_le ..) 1)) h1;rw[BT.get_node,mu n (lf l) _ (by rw[qx];exact h1),mu n (lf l.tail) _ (by rw[qx];exact h2),qz,qz];by_cases h0:i=0
  ·subst h0;rfl
  ·rw[af h0];obtain⟨j,rfl⟩:=Nat.exists_eq_succ_of_ne_zero h0;rw[List.getElem?_cons_succ];by_cases h1:(j+1) % 2=1
   ·rw[ac h1,show 2*((j+1) / 2)=j by omega]
   ·rw[af h1,List.getElem?_tail,show 2*((j+1) / 2-1)+1=j by omega]
theorem Dy{n k:Nat}{l:List Obj}(h:l.length<2 ^ n)(hk:l.length=k):(lS n l).list k=l:=by
 subst hk;unfold BT.list;refine ch fun i=>?_;rw[aB];by_cases hi:i<l.length
 ·rw[List.getElem?_range hi,ay hi];show some (((lS n l).get i).getD default)=_;rw[mu n l i h,ay hi];rfl
 ·rw[List.getElem?_eq_none (by rw[List.length_range];omega),List.getElem?_eq_none (by omega)];rfl
theorem Gr(P:Params):(jj P 8).length=2113:=by kernel_rfl
theorem Kb(w:World)(os:OsState):(Ge 8 w os).abs=wI w os:=by
 have e:(lS 12 (jj w.params 8)).list 2113=jj w.params 8:=Dy (by rw[Gr];decide) (Gr _);show(⟨absHeap (lS 12 (jj w.params 8)) (eU 8 fi).n {},⟨[]⟩,{},(eU 8 fi).t,os⟩:Shared)=_;unfold absHeap;rw[show(eU 8 fi).n=2113 from rfl,show(eU 8 fi).t=3311 from rfl,e];rfl
section
variable[HasP]
noncomputable def p0:Pos:=⟨0,0,0,0⟩
def NT(w:World)(os:OsState):Option (Shared×Thread):=topGo treeTable HasP.p w 11 (some (R 6)) 12 ⟨boot_heap w.params,Array.mk [],boot_drawn,boot_toks,os⟩ (topStub HasP.p)
def NM(w:World)(os:OsState):Option (Shared×Thread):=some ((Ge 0 w os).abs,⟨denote treeTable (.body bodyL nO),.body bodyL nO,p0,[topFrame p0]⟩)
def MV(w:World)(os:OsState):=segRun treeTable HasP.p w 11 (some (R 6)) 1 1 (Ge 0 w os).abs (blockOf bodyL nO (.body bodyL nO) p0 [topFrame p0])
def My(w:World)(os:OsState):Option (Flow×Shared×Code×Pos):=some (.next,(Ge 0 w os).abs,.body bodyL nO,p0)
def Nw(w:World)(os:OsState):Option Shared:=topRun treeTable HasP.p w 11 (some (R 6)) 2 (Ge 8 w os).abs ⟨doneF .next,.body bodyL nO,(eU 8 fi).p,[topFrame p0]⟩
def Lq(w:World)(os:OsState):Option Shared:=some (Ge 8 w os).abs
end
def NA:Bool:=(fun a b c d e f=>let _:=(a,b,c,d,e,f);true) @NT @NM @MV @My @Nw @Lq
theorem Qc:NA=true:=by k_qdec
noncomputable def N6(w:World):Bool×Nat×Option Value:=((boot_heap w.params).isNs mainGlobals&&(Array.mk []:Array GenState).size==0,(boot_heap w.params).objs.size,(boot_heap w.params).nsMap mainGlobals "__annotations__")
def NO:Bool:=(fun a=>let _:=a;true) @N6
theorem PU:NO=true:=by k_qdec
end
section
theorem pre_F:PySem.W.Fast.tw9837956596162312398=PySem.W.Fast.tw16695777193146926017:=by kernel_rfl
theorem NB:PySem.W.Fast.tw9330082795940832675=My:=by kernel_rfl
theorem MX:PySem.W.Fast.tw9265754198570028041=Lq:=by kernel_rfl
theorem Oa:PySem.W.Fast.tw4644084052648729221=fun _=>(true,11,some (R 6)):=by kernel_rfl
theorem LQ:NT=NM:=(congrFun PySem.W.Fast.te9837956596162312398 iPP).trans (pre_F.trans (congrFun PySem.W.Fast.te16695777193146926017 iPP).symm)
theorem L4:MV=My:=(congrFun PySem.W.Fast.te9330082795940832675 iPP).trans NB
theorem Mh:Nw=Lq:=(congrFun PySem.W.Fast.te9265754198570028041 iPP).trans MX
theorem Lo:N6=fun _=>(true,11,some (R 6)):=PySem.W.Fast.te4644084052648729221.trans Oa
theorem Hn:Jd=fun _ _=>true:=(congrFun PySem.W.Fast.te3140068170186336956 iPP).trans Kj
theorem Ic:KY=KP:=(congrFun PySem.W.Fast.te15852473026317749427 iPP).trans (lookD_F.trans (congrFun PySem.W.Fast.te6080880885171901488 iPP).symm)
theorem dS{j N:Nat}{w:World}{os:OsState}{r:Shared}(hp:Lf j=u2 j)(hd:Nat.ble (eU j fi).i (eU (j+1) fi).i=true) (k:topRun treeTable PP w 11 (some (R 6)) N (Ge (j+1) w os).abs (restOf (bodyL.drop (eU (j+1) fi).i) nO (.body bodyL nO) (eU (j+1) fi).p [topFrame p0])=some r) :topRun treeTable PP w 11 (some (R 6)) (((cutSteps.drop j).headD 0)+1+N) (Ge j w os).abs (restOf (bodyL.drop (eU j fi).i) nO (.body bodyL nO) (eU j fi).p [topFrame p0])=some r:=by
 have h:=segRun_of (congrFun (congrFun hp w) os);have e:bodyL.drop (eU j fi).i=C5 j++bodyL.drop (eU (j+1) fi).i:=by
  have:=bv hd;unfold C5
  conv=>lhs;rw[←List.take_append_drop ((eU (j+1) fi).i-(eU j fi).i) (bodyL.drop (eU j fi).i)]
  rw[bX,show(eU j fi).i+((eU (j+1) fi).i-(eU j fi).i)=(eU (j+1) fi).i from Nat.add_sub_of_le this]
 rw[e];exact piece_app h k
theorem Ha:bodyL.drop (eU 8 fi).i=[]:=by kernel_rfl
noncomputable def DR:Nat→Nat→Nat
 |0,_=>2
 |n+1,j=>((cutSteps.drop j).headD 0)+1+DR n (j+1)
theorem FK(w:World)(os:OsState):topRun treeTable PP w 11 (some (R 6)) (DR 8 0) (Ge 0 w os).abs (restOf (bodyL.drop (eU 0 fi).i) nO (.body bodyL nO) (eU 0 fi).p [topFrame p0])=some (Ge 8 w os).abs:=by
 refine dS (gD G0) rfl ?_;refine dS (gD HJ) rfl ?_;refine dS (gD Hw) rfl ?_;refine dS (gD Ja) rfl ?_;refine dS (gD Im) rfl ?_;refine dS (gD HF) rfl ?_;refine dS (gD GU) rfl ?_;refine dS (gD I8) rfl ?_;rw[Ha];exact piece_nil (congrFun (congrFun Mh w) os)
theorem JG(w:World)(os:OsState):topRun treeTable PP w 11 (some (R 6)) (12+(1+DR 8 0)) ⟨boot_heap w.params,Array.mk [],boot_drawn,boot_toks,os⟩ (topStub PP)=some (wI w os):=by
 rw[←Kb];exact go_top (congrFun (congrFun LQ w) os) (piece_block (congrFun (congrFun L4 w) os) (FK w os))
theorem Nr{α:Type}{Yf:Shared→α}{Ya:World→α}(h:∀w os,Yf (wI w os)=Ya w):LeftO PP sg l9 OG Yf Ya 27410:=by
 refine LeftO.of_pieces (H₀:=boot_heap) (H₁:=fun P=>⟨⟨jj P 8⟩,{}⟩) (gs₀:=Array.mk []) (gs₁:=⟨[]⟩) (d₀:=boot_drawn) (d₁:={}) (k₀:=boot_toks) (k₁:=3311) (m₀:=11) (ann:=some (R 6)) (M:=12+(1+DR 8 0))
  (boot_open rfl rfl fun s=>rfl) (fun w=>congrFun Lo w) (fun w os=>JG w os) (by rfl) (fun w=>?_)
 funext os
 have a:=congrFun (congrFun Hn w) os;have b:=congrFun (congrFun HO w) os;have c:=congrFun (congrFun IK w) os;have d:=congrFun (congrFun Ic w) os;have e:=h w os;refine Prod.ext ?_ (Prod.ext d e);show(Jd w os&&Hi w os&&gensDone (wI w os)&&laidKept (boot_heap w.params) (wI w os).heap)=true;rw[a,b];exact c
end
end
section
open PySem PySem.W
set_option maxHeartbeats 0
section
open TablesWhole
theorem xP(top:Scope)(cx:TablesWhole.Ctx)(sc:Scope):∀a b:List Stmt,wSs holds top cx sc (a++b)=(wSs holds top cx sc a&&wSs holds top cx sc b)
 |[],b=>rfl
 |s::a,b=>by
  show(wS holds top cx sc s&&wSs holds top cx sc (a++b))=((wS holds top cx sc s&&wSs holds top cx sc a)&&wSs holds top cx sc b);rw[xP top cx sc a b,Bool.and_assoc]
theorem x7(top:Scope)(cx:TablesWhole.Ctx)(sc:Scope):∀a b:List Stmt,wSs gather top cx sc (a++b)=(wSs gather top cx sc a++wSs gather top cx sc b)
 |[],b=>rfl
 |s::a,b=>by
  show(wS gather top cx sc s++wSs gather top cx sc (a++b))=((wS gather top cx sc s++wSs gather top cx sc a)++wSs gather top cx sc b);rw[x7 top cx sc a b,bH]
theorem q7{top:Scope}{cx:TablesWhole.Ctx}{sc:Scope}{l:List Stmt}(n:Nat)(a:wSs holds top cx sc (l.take n)=true)(b:wSs holds top cx sc (l.drop n)=true):wSs holds top cx sc l=true:=by
 rw[←List.take_append_drop n l,xP,a,b];rfl
theorem rq{top:Scope}{cx:TablesWhole.Ctx}{sc:Scope}{l:List Stmt}(n:Nat)(a:wSs gather top cx sc (l.take n)=[])(b:wSs gather top cx sc (l.drop n)=[]):wSs gather top cx sc l=[]:=by
 rw[←List.take_append_drop n l,x7,a,b];rfl
theorem Fn{m:Module}(h1:noTwice m.scope=true)(h2:wSs gather m.scope ⟨m.scope,[],[],[],none⟩ m.scope m.body=[]) (h3:wSs holds m.scope ⟨m.scope,[],[],[],none⟩ m.scope m.body=true):wModule holds m=true:=by
 unfold wModule;rw[h2];show(true&&(noTwice m.scope&&(wSs holds m.scope ⟨m.scope,[],[],[],none⟩ m.scope m.body&&true)))=true;rw[h1,h3];rfl
theorem DC{p:Program}(h:wModule holds p.main=true)(h1:p.modules=[])(h2:p.parses=[])(h3:p.harvested=[]):p.tablesWhole=true:=by
 unfold Program.tablesWhole wProgram;rw[h,h1,h2,h3];rfl
noncomputable def cj(l:List (Str×NameKind)):List Nat:=l.map fun p=>Fast.code p.1.cps.toList
noncomputable def D4:List Nat→Bool
 |[]=>true
 |a::r=>r.all (fun b=>!Nat.beq a b)&&D4 r
theorem uW{α:Type}{f:α→Nat}:∀{l:List α},(l.map f).Nodup→∀{x:α},x∈l→∀(p:α→Bool),p x=true→(∀y,p y=true→f y=f x)→∃z,l.filter p=[z]
 |a::l,h,x,hx,p,px,hp=>by
  rw[List.map_cons,List.nodup_cons]at h;rcases uB.mp hx with rfl|hx
  ·refine⟨x,?_⟩;rw[List.filter_cons_of_pos px,List.filter_eq_nil_iff.mpr];intro y hy py;exact h.1 (MQ.mpr ⟨y,hy,hp y py⟩)
  ·have:p a=false:=by
    cases q:p a with
    |false=>rfl
    |true=>exact absurd (MQ.mpr ⟨x,hx,(hp a q).symm⟩) h.1
   rw[List.filter_cons_of_neg (by rw[this];exact be)];exact uW h.2 hx p px hp
theorem Cm:∀{l:List Nat},D4 l=true→l.Nodup:=by
 intro zz;induction zz with
 |nil=>
  intro _;exact List.nodup_nil
 |cons zq1 zq2 ih=>
  intro h;obtain⟨h1,h2⟩:=M6.mp h;rw[List.nodup_cons];refine⟨fun hm=>?_,ih h2⟩;have:=pI.mp h1 zq1 hm;rw[Nat.beq_refl]at this;exact CS this
theorem Db{sc:Scope}(h:D4 (cj sc.names)=true):noTwice sc=true:=by
 unfold noTwice;rw[pI];intro x hx;obtain⟨z,hz⟩:=uW (f:=fun p:Str×NameKind=>Fast.code p.1.cps.toList) (Cm h) hx (fun y=>y.1==x.1) (by simp) (fun y hy=>by rw[iu.mp hy]);obtain⟨n,k⟩:=x;simp only[hz]
end
theorem K9:D4 (cj PP.main.scope.names)=true:=by decide +kernel
theorem g0:TablesWhole.wSs TablesWhole.gather PP.main.scope ⟨PP.main.scope,[],[],[],none⟩ PP.main.scope (PP.main.body.take 40)=[]:=by decide +kernel
theorem h0:TablesWhole.wSs TablesWhole.holds PP.main.scope ⟨PP.main.scope,[],[],[],none⟩ PP.main.scope (PP.main.body.take 40)=true:=by decide +kernel
theorem Qv:TablesWhole.wSs TablesWhole.gather PP.main.scope ⟨PP.main.scope,[],[],[],none⟩ PP.main.scope ((PP.main.body.drop 40).take 40)=[]:=by decide +kernel
theorem Qb:TablesWhole.wSs TablesWhole.holds PP.main.scope ⟨PP.main.scope,[],[],[],none⟩ PP.main.scope ((PP.main.body.drop 40).take 40)=true:=by decide +kernel
theorem Qd:TablesWhole.wSs TablesWhole.gather PP.main.scope ⟨PP.main.scope,[],[],[],none⟩ PP.main.scope ((PP.main.body.drop 80).take 40)=[]:=by decide +kernel
theorem P8:TablesWhole.wSs TablesWhole.holds PP.main.scope ⟨PP.main.scope,[],[],[],none⟩ PP.main.scope ((PP.main.body.drop 80).take 40)=true:=by decide +kernel
theorem Pp:TablesWhole.wSs TablesWhole.gather PP.main.scope ⟨PP.main.scope,[],[],[],none⟩ PP.main.scope ((PP.main.body.drop 120).take 40)=[]:=by decide +kernel
theorem Po:TablesWhole.wSs TablesWhole.holds PP.main.scope ⟨PP.main.scope,[],[],[],none⟩ PP.main.scope ((PP.main.body.drop 120).take 40)=true:=by decide +kernel
theorem OL:TablesWhole.wSs TablesWhole.gather PP.main.scope ⟨PP.main.scope,[],[],[],none⟩ PP.main.scope ((PP.main.body.drop 160).take 40)=[]:=by decide +kernel
theorem OV:TablesWhole.wSs TablesWhole.holds PP.main.scope ⟨PP.main.scope,[],[],[],none⟩ PP.main.scope ((PP.main.body.drop 160).take 40)=true:=by decide +kernel
theorem Pr:TablesWhole.wSs TablesWhole.gather PP.main.scope ⟨PP.main.scope,[],[],[],none⟩ PP.main.scope ((PP.main.body.drop 200).take 40)=[]:=by decide +kernel
theorem O8:TablesWhole.wSs TablesWhole.holds PP.main.scope ⟨PP.main.scope,[],[],[],none⟩ PP.main.scope ((PP.main.body.drop 200).take 40)=true:=by decide +kernel
theorem OU:TablesWhole.wSs TablesWhole.gather PP.main.scope ⟨PP.main.scope,[],[],[],none⟩ PP.main.scope ((PP.main.body.drop 240).take 40)=[]:=by decide +kernel
theorem OJ:TablesWhole.wSs TablesWhole.holds PP.main.scope ⟨PP.main.scope,[],[],[],none⟩ PP.main.scope ((PP.main.body.drop 240).take 40)=true:=by decide +kernel
theorem OF:TablesWhole.wSs TablesWhole.gather PP.main.scope ⟨PP.main.scope,[],[],[],none⟩ PP.main.scope ((PP.main.body.drop 280).take 40)=[]:=by decide +kernel
theorem OA:TablesWhole.wSs TablesWhole.holds PP.main.scope ⟨PP.main.scope,[],[],[],none⟩ PP.main.scope ((PP.main.body.drop 280).take 40)=true:=by decide +kernel
theorem O7:TablesWhole.wSs TablesWhole.gather PP.main.scope ⟨PP.main.scope,[],[],[],none⟩ PP.main.scope (PP.main.body.drop 320)=[]:=by decide +kernel
theorem Pg:TablesWhole.wSs TablesWhole.holds PP.main.scope ⟨PP.main.scope,[],[],[],none⟩ PP.main.scope (PP.main.body.drop 320)=true:=by decide +kernel
theorem GL:TablesWhole.wSs TablesWhole.gather PP.main.scope ⟨PP.main.scope,[],[],[],none⟩ PP.main.scope PP.main.body=[]:=rq 40 g0 (rq (l:=PP.main.body.drop 40) 40 Qv (by rw[bX];exact rq (l:=PP.main.body.drop 80) 40 Qd (by rw[bX];exact rq (l:=PP.main.body.drop 120) 40 Pp (by rw[bX];exact rq (l:=PP.main.body.drop 160) 40 OL (by rw[bX];exact rq (l:=PP.main.body.drop 200) 40 Pr (by rw[bX];exact rq (l:=PP.main.body.drop 240) 40 OU (by rw[bX];exact rq (l:=PP.main.body.drop 280) 40 OF (by rw[bX];exact O7))))))))
theorem Gg:TablesWhole.wSs TablesWhole.holds PP.main.scope ⟨PP.main.scope,[],[],[],none⟩ PP.main.scope PP.main.body=true:=q7 40 h0 (q7 (l:=PP.main.body.drop 40) 40 Qb (by rw[bX];exact q7 (l:=PP.main.body.drop 80) 40 P8 (by rw[bX];exact q7 (l:=PP.main.body.drop 120) 40 Po (by rw[bX];exact q7 (l:=PP.main.body.drop 160) 40 OV (by rw[bX];exact q7 (l:=PP.main.body.drop 200) 40 O8 (by rw[bX];exact q7 (l:=PP.main.body.drop 240) 40 OJ (by rw[bX];exact q7 (l:=PP.main.body.drop 280) 40 OA (by rw[bX];exact Pg))))))))
theorem EI:PP.tablesWhole=true:=DC (Fn (Db K9) GL Gg) rfl rfl rfl
end
section
open PySem PySem.W PySem.Calls PyProof.Rows
section
noncomputable def keyAddrs:List Nat:=[1,3,34,35,41,42,48,49,51,52,63,64,70,71,99,100,102,103,108,112,113,117,118,136,137,141,142,158,159,170,171,184,185,192,193,204,205,211,212,214,215,225,226,232,233,239,240,246,247,253,254,262,263,286,287,300,301,391,392,419,420,429,430,447,448,488,489,498,499,509,510,516,517,523,524,530,531,537,538,544,545,579,580,586,587,593,594,600,601,607,608,776,777,783,784,802,803,809,810,875,876,883,884,901,902,922,923,929,930,936,937,950,951,957,958,964,965,971,972,978,979,985,986,999,1000,1006,1007,1020,1021,1022,1023,1107,1108,1149,1150,1166,1167,1177,1178,1179,1211,1212,1376,1382,1383,1389,1390,1396,1397,1403,1404,1410,1411,1417,1418,1424,1425,1431,1432,1433,1437,1438,1439,1440,1441,1442,1443,1444,1445,1446,1447,1448,1456,1457,1463,1464,1471,1472,1490,1491,1497,1498,1504,1505,1507,1508,1518,1519,1525,1526,1532,1533,1539,1540,1553,1554,1560,1561,1567,1568,1572,1573,1577,1578,1582,1583,1589,1590,1591,1592,1593,1594,1595,1596,1597,1598,1599,1600,1601,1602,1603,1683,1696,1697,1706,1707,1717,1718,1722,1723,1729,1730,1736,1737,1743,1744,1750,1751,1757,1758,1762,1763,1769,1770,1771,1772,1778,1779,1780,1781,1785,1786,1800,1801,1805,1806,1812,1813,1827,1828,1845,1846,1852,1853,1874,1875,1892,1893,1908,1909,1927,1928,1934,1935,1941,1942,1963,1964,1981,1982,1991,1992,2009,2010,2017,2018,2035,2036,2045,2046,2063,2064,2071,2072,2082,2083,2087,2088,2092,2093,2099,2100,2106,2107,2111,2112]
noncomputable def Oo:Option Obj→Option Obj
 |some ⟨_,_,.freed,_⟩=>none
 |o=>o
section
variable[HasP]
def Bz(P:Params):BT:=lS 12 (jj P 8)
def Kp(P:Params):Frag:=keyAddrs.filterMap fun a=>match Oo ((Bz P).get a)with|some o=>some (a,o)|none=>none
end
end
section
theorem DH{α:Type}:∀{l:List (Nat×α)} {a:Nat} {o:α},l.lookup a=some o→(a,o)∈l:=by
 intro zz;induction zz with
 |nil=>
  intro _ _ h;exact Rk h
 |cons zq1 zq2 ih=>
  intro a o h;obtain⟨b,x⟩:=zq1;rw[bW]at h;split at h
  ·rename_i e;induction h using QT;rw[iu.mp e];exact ak
  ·exact aD _ (ih h)
theorem O5(P:Params){h:Heap}(e:h.objs.toList=jj P 8):(Kp P).In h:=by
 intro a o hl;have hm:(a,o)∈Kp P:=DH hl;obtain⟨a',_,ha⟩:=List.mem_filterMap.mp hm;have hg:Oo ((Bz P).get a)=some o:=by
  induction q:Oo ((Bz P).get a')with
  |none=>rw[q]at ha;exact Rk ha
  |some o'=>rw[q]at ha;induction ha using QM;exact q
 have hb:(Bz P).get a=h.objs[a]?:=by
  unfold Bz;rw[mu 12 _ a (by rw[Gr];decide),←e];simp
 rw[hb]at hg;unfold Heap.get?
 revert hg
 induction h.objs[a]? with
 |none=>exact id
 |some x=>
  obtain⟨c,d,dt,sl⟩:=x;cases dt<;>exact id
def lawD:DefRec:=match PP.main.body.drop 319 with
 |.FunctionDef n a b _ _ _ sc _ _ pos::_=>⟨n,a,b,sc,pos⟩
 |_=>⟨PySem.Str.empty,⟨[],[],none,[],[],none,[]⟩,[],⟨.module,[],false,false,[]⟩,⟨0,0,0,0⟩⟩
theorem Ou:defOf sg RR.name=some (lawD,[]):=by kernel_rfl
theorem hp:RR.prog.theDef RR.name=some (lawD.params,lawD.body,lawD.scope):=by kernel_rfl
theorem P7:kwWritten? lawD.params.kwonlyargs lawD.params.kw_defaults=some []:=by kernel_rfl
theorem P9:(chainsOk sg&&opensWell RR.prog&&(frees RR.toRowW&&RR.within.isEmpty))=true:=by decide +kernel
theorem bare:RR.prog.bare:=⟨rfl,rfl,rfl,rfl,rfl,EI⟩
theorem Jn(said:RR.wellSaid=true)(hw:RR.toRowW.promised) (call:WalkO sg l9 (XL sg []) (fun w h=>(Kp w.params).In h) RR.toRowW lawD [] fun f vs=>PySem.call f vs):RR.Holds:=
 holds_open (Xt:=OG) (Nr (Yf:=fun s=>s.heap.objs.toList) (Ya:=fun w=>jj w.params 8) fun w os=>rfl) (fun w s e=>O5 _ e) (fun w h h' x k=>Frag.In.keeps x k)
  (fun s e=>xl_of s (M6.mp e).1) XL.keeps Ou hp P7 (fun s e=>recFacts_of (M6.mp e).2) (Eq.refl true) said P9 bare hw call
end
theorem OW:RR.toRowW.promised:=by
 exact⟨[.list []],by decide +kernel,by decide +kernel⟩
end
section
open PySem
noncomputable abbrev sS(s:String):PySem.Str:=PySem.Str.ofString s
noncomputable def K5(s:Option PySem.Stmt)(j:Nat):Option PySem.Stmt:=s.bind fun s=>if h:s.ctorIdx=2 then PySem.Stmt.ClassDef.elim (motive_2:=fun _=>Option PySem.Stmt) s h fun _ _ _ b _ _ _ _ _ _ _=>b[j]? else none
def fieldNames:List Str:=[(sS "code"),(sS "glyph"),(sS "cluster"),(sS "mask"),(sS "is_unsafe"),(sS "lig_id"),(sS "lig_part"),(sS "lig_count"),(sS "split_id"),(sS "kind"),(sS "x_advance"),(sS "y_advance"),(sS "x_offset"),(sS "y_offset"),(sS "parent"),(sS "bond"),(sS "row"),(sS "is_backward"),(sS "last_lig"),(sS "last_split"),(sS "flag"),(sS "mark_set"),(sS "tables"),(sS "buffer"),(sS "gdef"),(sS "lookups"),(sS "lookup"),(sS "depth"),(sS "steps"),(sS "x"),(sS "y"),(sS "marks"),(sS "bases"),(sS "values"),(sS "ends"),(sS "mapping"),(sS "units"),(sS "ascent"),(sS "descent"),(sS "advances"),(sS "bearings"),(sS "scripts"),(sS "default"),(sS "languages"),(sS "features"),(sS "required"),(sS "tag"),(sS "script"),(sS "language"),(sS "masks"),(sS "defaults"),(sS "set_tags"),(sS "stages"),(sS "positions"),(sS "has_kern"),(sS "value"),(sS "most"),(sS "is_set"),(sS "is_part"),(sS "gsub"),(sS "gpos"),(sS "kern"),(sS "begin"),(sS "end"),(sS "rows"),(sS "metrics"),(sS "charmap"),(sS "codes"),(sS "variations"),(sS "classes"),(sS "attach"),(sS "sets"),(sS "points"),(sS "carets")]
noncomputable def okT:List (Addr×List Nat):=[(52,[0,1,2,3,4,5,6,7,8,9,10,11,12,13,14,15]),(103,[16,17,18,19]),(193,[9,20,21,22]),(215,[23,24,25,26,3,27,28]),(430,[29,30]),(499,[31,32]),(884,[35]),(1167,[36,37,38,39,40]),(1472,[47,48,17,49,50,51,52,53,54]),(1508,[55,56,57,58]),(1707,[64,17]),(1828,[67,68]),(1875,[69]),(1909,[66,65,24,59,60,61]),(1964,[69,70,71,72,73]),(1992,[45,44]),(2018,[46,42,43]),(2046,[46,25]),(2072,[41,44,25])]
def okf(C:Addr)(f:Nat):Bool:=match okT.lookup C with|some l=>l.contains f | .none=>false
abbrev cI(n:Int):Ev:=ai (V.int n)
abbrev sN(k:Nat)(e:Ev):St:=am okf (.nm (.nm k)) e
def valsT:List (Str×V):=[((sS "RIGHT_TO_LEFT"),(V.int 1)),((sS "IGNORE_BASES"),(V.int 2)),((sS "IGNORE_LIGATURES"),(V.int 4)),((sS "IGNORE_MARKS"),(V.int 8)),((sS "USE_SET"),(V.int 16)),((sS "KINDS_IN_INPUT"),(V.tup [(V.str [122,119,106]),(V.str [104,105,100,100,101,110])])),((sS "KINDS_AROUND"),(V.tup [(V.str [122,119,106]),(V.str [122,119,110,106]),(V.str [104,105,100,100,101,110])])),((sS "BOND"),(V.str [99,117,114,115,105,118,101])),((sS "MARK_GLYPH"),(V.int 3)),((sS "BY_GLYPHS"),(V.int 1)),((sS "BY_CLASSES"),(V.int 2)),((sS "MOST_DEPTH"),(V.int 6)),((sS "MOST_PLACES"),(V.int 64)),((sS "MOST_ACTIONS"),(V.int 256)),((sS "BASE_ligature"),(V.int 1)),((sS "MARK_ligature"),(V.int 3)),((sS "ZWNJ_hidden"),(V.int 8204)),((sS "ZWJ_hidden"),(V.int 8205)),((sS "FORMS_joining"),(V.tup [(V.str [105,115,111,108]),(V.str [102,105,110,97]),(V.str [109,101,100,105]),(V.str [105,110,105,116])])),((sS "JOINED_SCRIPTS"),(V.tup [(V.str [97,114,97,98])])),((sS "ZWJ_joining"),(V.int 8205)),((sS "TATWEEL"),(V.int 1600)),((sS "MARK_kern"),(V.int 3)),((sS "BACKWARD_SCRIPTS"),(V.tup [(V.str [97,114,97,98]),(V.str [104,101,98,114]),(V.str [115,121,114,99]),(V.str [116,104,97,97]),(V.str [110,107,111,32])])),((sS "HANGUL"),(V.int 44032)),((sS "LEADS"),(V.int 4352)),((sS "VOWELS_normal"),(V.int 4449)),((sS "TAILS"),(V.int 4519)),((sS "VOWEL_COUNT"),(V.int 21)),((sS "TAIL_COUNT"),(V.int 28)),((sS "LEAD_COUNT"),(V.int 19)),((sS "FALLBACKS"),(V.tup [(V.str [68,70,76,84]),(V.str [100,102,108,116]),(V.str [108,97,116,110])])),((sS "ALL_INFOS"),(V.int 1)),((sS "MOST_BITS"),(V.int 31)),((sS "MOST_VALUE"),(V.int 255)),((sS "COMMON"),(V.tup [(V.str [97,98,118,109]),(V.str [98,108,119,109]),(V.str [99,99,109,112]),(V.str [108,111,99,108]),(V.str [109,97,114,107]),(V.str [109,107,109,107]),(V.str [114,108,105,103]),(V.str [99,97,108,116]),(V.str [99,108,105,103]),(V.str [99,117,114,115]),(V.str [100,105,115,116]),(V.str [107,101,114,110]),(V.str [108,105,103,97]),(V.str [114,99,108,116])])),((sS "FORWARD"),(V.tup [(V.str [108,116,114,97]),(V.str [108,116,114,109])])),((sS "BACKWARD"),(V.tup [(V.str [114,116,108,97])])),((sS "JOINED_STAGES"),(V.tup [(V.tup [(V.str [99,99,109,112]),(V.str [108,111,99,108]),(V.str [108,116,114,97]),(V.str [108,116,114,109]),(V.str [114,116,108,97]),(V.str [114,116,108,109])]),(V.tup [(V.str [105,115,111,108])]),(V.tup [(V.str [102,105,110,97])]),(V.tup [(V.str [109,101,100,105])]),(V.tup [(V.str [105,110,105,116])]),(V.tup [(V.str [114,108,105,103])])])),((sS "CONSONANTS"),(V.tup [(V.tup [(V.int 2325),(V.int 2361)]),(V.tup [(V.int 2392),(V.int 2399)])])),((sS "VOWELS_syllables"),(V.tup [(V.tup [(V.int 2308),(V.int 2324)]),(V.tup [(V.int 2400),(V.int 2401)])])),((sS "MATRAS"),(V.tup [(V.tup [(V.int 2366),(V.int 2366)]),(V.tup [(V.int 2368),(V.int 2380)]),(V.tup [(V.int 2402),(V.int 2403)])])),((sS "SIGNS"),(V.tup [(V.tup [(V.int 2304),(V.int 2307)]),(V.tup [(V.int 2385),(V.int 2388)])])),((sS "VIRAMA"),(V.int 2381)),((sS "NUKTA"),(V.int 2364)),((sS "MATRA_I"),(V.int 2367)),((sS "ZWNJ_syllables"),(V.int 8204)),((sS "ZWJ_syllables"),(V.int 8205)),((sS "DOTTED_CIRCLE"),(V.int 9676)),((sS "MARK_shaper"),(V.int 3)),((sS "SPACE"),(V.int 32)),((sS "FORMS_shaper"),(V.tup [(V.str [105,115,111,108]),(V.str [105,110,105,116]),(V.str [109,101,100,105]),(V.str [102,105,110,97])])),((sS "NO_CLASS"),(V.int 0)),((sS "BASE_gdef"),(V.int 1)),((sS "COMPONENT"),(V.int 4))]
def bisT:List (Str×Bi):=[((sS "len"),.len),((sS "min"),.min),((sS "max"),.max),((sS "sorted"),.sorted),((sS "list"),.list),((sS "tuple"),.tuple),((sS "dict"),.dict),((sS "abs"),.abs),((sS "int"),.int),((sS "ord"),.ord),((sS "sum"),.sum)]
abbrev Cd:List St:=[(am okf (.at (aa 0) 0) (aa 1)),(am okf (.at (aa 0) 1) (aa 2)),(am okf (.at (aa 0) 2) (aa 3)),(am okf (.at (aa 0) 3) (cI 0)),(am okf (.at (aa 0) 4) (ai (V.bool false))),(am okf (.at (aa 0) 5) (cI 0)),(am okf (.at (aa 0) 6) (cI 0)),(am okf (.at (aa 0) 7) (cI 0)),(am okf (.at (aa 0) 8) (cI 0)),(am okf (.at (aa 0) 9) (ai (V.str []))),(am okf (.at (aa 0) 10) (cI 0)),(am okf (.at (aa 0) 11) (cI 0)),(am okf (.at (aa 0) 12) (cI 0)),(am okf (.at (aa 0) 13) (cI 0)),(am okf (.at (aa 0) 14) (cI 0)),(am okf (.at (aa 0) 15) (ai (V.str [])))]
def lj:Md:=aq [0,1,2,3] [] 4 Cd
def nM:Md:=cY 52 lj
abbrev xh:List St:=[(sN 1 (aj nM [(ae (aa 0) 0),(ae (aa 0) 1),(ae (aa 0) 2)])),(am okf (.at (aa 1) 3) (ae (aa 0) 3)),(am okf (.at (aa 1) 4) (ae (aa 0) 4)),(am okf (.at (aa 1) 5) (ae (aa 0) 5)),(am okf (.at (aa 1) 6) (ae (aa 0) 6)),(am okf (.at (aa 1) 7) (ae (aa 0) 7)),(am okf (.at (aa 1) 8) (ae (aa 0) 8)),(am okf (.at (aa 1) 9) (ae (aa 0) 9)),(am okf (.at (aa 1) 10) (ae (aa 0) 10)),(am okf (.at (aa 1) 11) (ae (aa 0) 11)),(am okf (.at (aa 1) 12) (ae (aa 0) 12)),(am okf (.at (aa 1) 13) (ae (aa 0) 13)),(am okf (.at (aa 1) 14) (ae (aa 0) 14)),(am okf (.at (aa 1) 15) (ae (aa 0) 15)),(aF (aa 1))]
def f9:Md:=aq [0] [] 3 xh
abbrev Bh:List St:=[(aF (bP [(ae (aa 0) 1),(ae (aa 0) 2),(ae (aa 0) 10),(ae (aa 0) 11),(ae (aa 0) 12),(ae (aa 0) 13)]))]
def je:Md:=aq [0] [] 1 Bh
abbrev wh:List St:=[(am okf (.at (aa 0) 16) (aa 1)),(am okf (.at (aa 0) 17) (aa 2)),(am okf (.at (aa 0) 18) (cI 0)),(am okf (.at (aa 0) 19) (cI 0))]
def jm:Md:=aq [0,1,2] [(V.bool false)] 3 wh
def oZ:Md:=cY 103 jm
abbrev mB:List St:=[(am okf (.at (aa 0) 19) (aI .add (ae (aa 0) 19) (cI 1))),(aF (ae (aa 0) 19))]
def cN:Md:=aq [0] [] 1 mB
abbrev pK:Ev:=(aj nM [(aG (aa 0) (aa 6)),(cI 0),(aa 6)])
abbrev B6:List St:=[(aF (aj oZ [(bo 4 (bk [(cK .len [(aa 0)])]) (.nm 6) [] pK),(aa 1)]))]
def gq:Md:=aq [0,1] [(V.bool false)] 5 B6
abbrev mT:Ev:=(aI .add (aa 5) (cI 1))
abbrev zm:List St:=[(sN 1 (ae (aa 0) 16)),(aF (bo 4 (bk [(cK .len [(aa 1)])]) (.nm 5) [(Ds [(aA .eq (aI .add (aa 5) (cI 1)) (cK .len [(aa 1)])),(aA .ne (ae (aG (aa 1) (aI .add (aa 5) (cI 1))) 2) (ae (aG (aa 1) (aa 5)) 2))])] mT))]
def fR:Md:=aq [0] [] 4 zm
abbrev Jb:Ev:=(ae (aa 11) 2)
abbrev Hy:List St:=[(bt aw)]
abbrev Kh:List St:=[(cn (aA .lt (aI .sub (aa 2) (aa 1)) (cI 2)) [(aF (ai V.none))] []),(sN 4 (cK .min [(bo 2 (bn (bV (ae (aa 0) 16) (some (aa 1)) (some (aa 2)))) (.nm 11) [] Jb)])),(am okf (.nm (.tp [5,6])) aw),(bG (bn (bV (ae (aa 0) 16) (some (aa 5)) (some (aa 6)))) (.nm 3) Hy)]
def ky:Md:=aq [0,1,2] [] 10 Kh
abbrev El:Ev:=(ae (aa 9) 2)
abbrev DU:List St:=[(cn (aA .ne (ae (aa 4) 2) (aa 5)) [(am okf (.at (aa 4) 4) (ai (V.bool true)))] [])]
abbrev Ll:List St:=[(sN 3 (bV (ae (aa 0) 16) (some (aa 1)) (some (aa 2)))),(cn (aA .lt (cK .len [(aa 3)]) (cI 2)) [(aF (ai V.none))] []),(sN 5 (cK .min [(bo 2 (bn (aa 3)) (.nm 9) [] El)])),(bG (bn (aa 3)) (.nm 4) DU)]
def u7:Md:=aq [0,1,2] [] 8 Ll
def Bd:List (Addr×Md):=[(52,f9)]
abbrev Hf:Ev:=(aa 11)
abbrev zO:List St:=[(sN 5 (gG Bd (aa 4) [])),(am okf (.at (aa 5) 1) (aa 7)),(bt (fE (aa 6) (aa 5)))]
abbrev M7:List St:=[(bt (aj ky [(aa 0),(aa 1),(aI .add (aa 1) (aa 2))])),(sN 4 (aG (ae (aa 0) 16) (aa 1))),(am okf (.at (aa 4) 4) (bE (aA .ne (bo 2 (bn (bV (ae (aa 0) 16) (some (aa 1)) (some (aI .add (aa 1) (aa 2))))) (.nm 11) [(aV (ae (aa 11) 4))] Hf) (bD [])))),(sN 6 (bD [])),(bG (bn (aa 3)) (.nm 7) zO),(cn (aA .eq (aa 6) (bD [])) [(am okf (.sl (ae (aa 0) 16) (some (aa 1)) (some (aI .add (aa 1) (aa 2)))) (bD [(aa 4)])),(bt aw),(am okf (.sl (ae (aa 0) 16) (some (aa 1)) (some (aI .add (aa 1) (cI 1)))) (bD []))] [(am okf (.sl (ae (aa 0) 16) (some (aa 1)) (some (aI .add (aa 1) (aa 2)))) (aa 6))])]
def vH:Md:=aq [0,1,2,3] [] 10 M7
abbrev fZ:Ev:=(aa 7)
abbrev jD:List St:=[(am okf (.at (aa 4) 4) (ai (V.bool true)))]
abbrev jP:List St:=[(sN 3 (bV (ae (aa 0) 16) (some (aa 1)) (some (aa 2)))),(cn (aA .ne (bo 2 (bn (aa 3)) (.nm 7) [(aV (ae (aa 7) 4))] fZ) (bD [])) [(bG (bn (aa 3)) (.nm 4) jD)] []),(sN 1 (aa 2))]
abbrev sK:List St:=[(sN 1 (cI 0)),(bG (bn (aj fR [(aa 0)])) (.nm 2) jP)]
def dg:Md:=aq [0] [] 6 sK
abbrev wi:List St:=[(am okf (.at (aa 0) 9) (aa 1)),(am okf (.at (aa 0) 20) (aa 2)),(am okf (.at (aa 0) 21) (aa 3)),(am okf (.at (aa 0) 22) (aa 4))]
def jq:Md:=aq [0,1,2,3,4] [] 5 wi
def iF:Md:=cY 193 jq
abbrev zg:List St:=[(am okf (.at (aa 0) 23) (aa 1)),(am okf (.at (aa 0) 24) (aa 2)),(am okf (.at (aa 0) 25) (aa 3)),(am okf (.at (aa 0) 26) (aa 4)),(am okf (.at (aa 0) 3) (aa 5)),(am okf (.at (aa 0) 27) (aa 6)),(am okf (.at (aa 0) 28) (bD [(cI 0)]))]
def hY:Md:=aq [0,1,2,3,4,5,6] [(V.int 0)] 7 zg
def g9:Md:=cY 215 hY
abbrev sy:List St:=[(aF (aI .mod (aI .fdiv (aa 0) (cI 256)) (cI 256)))]
def eP:Md:=aq [0] [] 1 sy
abbrev q8:List St:=[(aF (mE (bN [((cI 1),(cI 2)),((cI 2),(cI 4)),((cI 3),(cI 8))]) (aa 0) (some (cI 0))))]
def cC:Md:=aq [0] [] 4 q8
abbrev mD:List St:=[(aF (mE (ae (aa 0) 69) (aa 1) (some (cI 0))))]
def cM:Md:=aq [0,1] [] 2 mD
def vA:List (Addr×Md):=[(1875,cM)]
abbrev nZ:List St:=[(sN 2 (gG vA (ae (aa 0) 69) [(aa 1)])),(aF (t9 (gy .le .le (cI 1) (aa 2) (cI 4)) (aa 2) (cI 0)))]
def bF:Md:=aq [0,1] [] 6 nZ
def dA:List (Addr×Md):=[(1964,bF)]
abbrev zU:List St:=[(sN 3 (gG dA (aa 0) [(aa 2)])),(cn (aV (aI .band (ae (aa 1) 20) (aj (drop cC) [(aa 3)]))) [(aF (ai (V.bool true)))] []),(cn (aA .ne (aa 3) (cI 3)) [(aF (ai (V.bool false)))] []),(cn (aV (aI .band (ae (aa 1) 20) (cI 16))) [(aF (bE (lK (aV aw))))] []),(sN 4 (aj eP [(ae (aa 1) 20)])),(aF (jZ [(bE (aA .gt (aa 4) (cI 0))),(bE (aA .ne aw (aa 4)))]))]
def c9:Md:=aq [0,1,2] [] 8 zU
abbrev Iu:List St:=[(aF (aj c9 [(ae (aa 0) 24),(ae (aa 0) 26),(ae (aG (ae (ae (aa 0) 23) 16) (aa 1)) 1)]))]
def dT:Md:=aq [0,1] [] 3 Iu
abbrev KC:List St:=[(aF (jZ [(bE (aA .ne (aI .band (ae (aG (ae (ae (aa 0) 23) 16) (aa 1)) 3) (ae (aa 0) 3)) (cI 0))),(bE (lK (aV (aj dT [(aa 0),(aa 1)]))))]))]
def oa:Md:=aq [0,1] [] 3 KC
abbrev pv:Tv:=(gy .le .lt (cI 0) (aa 3) (cK .len [(ae (ae (aa 0) 23) 16)]))
abbrev on:List St:=[(cn (iU [(lK (aV (aj dT [(aa 0),(aa 3)]))),(aA .notin (ae (aG (ae (ae (aa 0) 23) 16) (aa 3)) 9) (ai (V.tup [(V.str [122,119,106]),(V.str [122,119,110,106]),(V.str [104,105,100,100,101,110])])))]) [(aF (aa 3))] []),(sN 3 (aI .add (aa 3) (aa 2)))]
abbrev Bm:List St:=[(sN 3 (aI .add (aa 1) (aa 2))),(gP pv on),(aF (iE (cI 1)))]
def iW:Md:=aq [0,1,2] [] 7 Bm
abbrev Bl:List St:=[(aF (aj iW [(aa 0),(aa 1),(iE (cI 1))]))]
def ff:Md:=aq [0,1] [] 3 Bl
abbrev wD:List St:=[(cn (aA .eq (ae (aG (aa 0) (aa 3)) 14) (cI 0)) [(aF (ai V.none))] []),(cn (aA .eq (aI .add (aa 3) (ae (aG (aa 0) (aa 3)) 14)) (aa 1)) [(bt aw),(am okf (.at (aG (aa 0) (aa 3)) 13) (cI 0)),(aF (ai V.none))] []),(sN 3 (aI .add (aa 3) (ae (aG (aa 0) (aa 3)) 14)))]
abbrev zv:List St:=[(sN 3 (aa 2)),(bG (bk [(cK .len [(aa 0)])]) (.nm 4) wD)]
def fj:Md:=aq [0,1,2] [] 8 zv
abbrev xe:List St:=[(am okf (.at (aa 0) 29) (aa 1)),(am okf (.at (aa 0) 30) (aa 2))]
def jv:Md:=aq [0,1,2] [] 3 xe
def oR:Md:=cY 430 jv
abbrev ym:List St:=[(aF (bP [(aI .sub (ae (aa 0) 29) (ae (aa 1) 29)),(aI .sub (ae (aa 0) 30) (ae (aa 1) 30))]))]
def fB:Md:=aq [0,1] [] 2 ym
abbrev th:List St:=[(am okf (.at (aa 0) 31) (aa 1)),(am okf (.at (aa 0) 32) (aa 2))]
def gO:Md:=aq [0,1,2] [] 3 th
def nT:Md:=cY 499 gO
abbrev An:List St:=[(sN 3 (aj iF [(ae (ae (aa 0) 26) 9),(aa 1),(aa 2),(bD [])])),(aF (aj g9 [(ae (aa 0) 23),(ae (aa 0) 24),(ae (aa 0) 25),(aa 3),(ae (aa 0) 3),(ae (aa 0) 27)]))]
def fw:Md:=aq [0,1,2] [] 6 An
abbrev yS:List St:=[(aF (bE (aA .eq (gG dA (ae (aa 0) 24) [(ae (aG (ae (ae (aa 0) 23) 16) (aa 1)) 1)]) (cI 3))))]
def dX:Md:=aq [0,1] [] 3 yS
abbrev jH:Tv:=(iU [(aA .ge (aa 3) (cI 0)),(aA .gt (ae (aG (aa 2) (aa 1)) 8) (cI 0)),(lK (aV (aj dX [(aa 0),(aa 3)])))])
abbrev jy:List St:=[(cn (aA .eq (ae (aG (aa 2) (aa 3)) 8) (ae (aG (aa 2) (aa 1)) 8)) [(aF (bE (aA .lt (ae (aG (aa 2) (aa 3)) 6) (ae (aG (aa 2) (aa 1)) 6))))] []),(sN 3 (aI .sub (aa 3) (cI 1)))]
abbrev td:List St:=[(sN 2 (ae (ae (aa 0) 23) 16)),(sN 3 (aI .sub (aa 1) (cI 1))),(gP jH jy),(aF (ai (V.bool false)))]
def de:Md:=aq [0,1] [] 5 td
abbrev nB:Tv:=(iU [(aA .ge (aa 3) (cI 0)),(aV (aj de [(aa 0),(aa 3)]))])
abbrev ny:List St:=[(sN 3 (aj ff [(aa 2),(aa 3)]))]
abbrev zM:List St:=[(sN 2 (aj fw [(aa 0),(cI 8),(cI 0)])),(sN 3 (aj ff [(aa 2),(aa 1)])),(gP nB ny),(aF (aa 3))]
def fO:Md:=aq [0,1] [] 8 zM
abbrev HE:List St:=[(sN 5 (aG (ae (ae (aa 0) 23) 16) (aa 3))),(am okf (.nm (.tp [6,7])) (aG (aa 1) (ae (aa 5) 1))),(sN 8 (t9 (aA .lt (aa 6) (cK .len [(aa 2)])) (aG (aa 2) (aa 6)) (ai V.none))),(cn (aA .is (aa 8) (ai V.none)) [(aF (iE (cI 1)))] []),(bt (aj fj [(ae (ae (aa 0) 23) 16),(aa 3),(aa 4)])),(am okf (.ats [((aa 5),12),((aa 5),13)]) (aj fB [(aa 8),(aa 7)])),(am okf (.at (aa 5) 14) (aI .sub (aa 4) (aa 3))),(am okf (.at (aa 5) 15) (ai (V.str [109,97,114,107]))),(bt (aj u7 [(ae (aa 0) 23),(aa 4),(aI .add (aa 3) (cI 1))])),(aF (aI .add (aa 3) (cI 1)))]
def lM:Md:=aq [0,1,2,3,4] [] 13 HE
abbrev yw:List St:=[(cn (aA .notin (ae (aG (ae (ae (aa 0) 23) 16) (aa 2)) 1) (ae (aa 1) 31)) [(aF (iE (cI 1)))] []),(sN 3 (aj fO [(aa 0),(aa 2)])),(cn (Ds [(aA .lt (aa 3) (cI 0)),(aA .notin (ae (aG (ae (ae (aa 0) 23) 16) (aa 3)) 1) (ae (aa 1) 32))]) [(aF (iE (cI 1)))] []),(aF (aj lM [(aa 0),(ae (aa 1) 31),(aG (ae (aa 1) 32) (ae (aG (ae (ae (aa 0) 23) 16) (aa 3)) 1)),(aa 2),(aa 3)]))]
def fN:Md:=aq [0,1,2] [] 6 yw
abbrev wa:Tv:=(iU [(aA .ne (ae (aG (aa 0) (aa 4)) 14) (cI 0)),(aA .notin (aa 4) (aa 3)),(gy .le .lt (cI 0) (aI .add (aa 4) (ae (aG (aa 0) (aa 4)) 14)) (cK .len [(aa 0)]))])
abbrev vY:List St:=[(am okf (.ix (aa 3) (aa 4)) (ai (V.bool true))),(bt (fE (aa 2) (aa 4))),(sN 4 (aI .add (aa 4) (ae (aG (aa 0) (aa 4)) 14)))]
abbrev yX:List St:=[(sN 2 (bD [])),(sN 3 (bN [])),(sN 4 (aa 1)),(gP wa vY),(aF (aa 2))]
def ed:Md:=aq [0,1] [] 6 yX
abbrev Bf:List St:=[(cn (aA .eq (ae (aa 0) 15) (ai (V.str [109,97,114,107]))) [(am okf (.at (aa 0) 12) (aI .add (ae (aa 0) 12) (ae (aa 1) 12)))] []),(am okf (.at (aa 0) 13) (aI .add (ae (aa 0) 13) (ae (aa 1) 13)))]
def gL:Md:=aq [0,1] [] 2 Bf
abbrev jJ:List St:=[(am okf (.at (aa 0) 12) (aI .sub (ae (aa 0) 12) (aI .mul (aa 2) (ae (aa 3) 10)))),(am okf (.at (aa 0) 13) (aI .sub (ae (aa 0) 13) (aI .mul (aa 2) (ae (aa 3) 11))))]
abbrev sI:List St:=[(bG (bn (aa 1)) (.nm 3) jJ)]
def cz:Md:=aq [0,1,2] [] 4 sI
abbrev zn:List St:=[(sN 2 (ae (aa 0) 16)),(sN 3 (aG (aa 2) (aa 1))),(sN 4 (aI .add (aa 1) (ae (aa 3) 14))),(am okf (.at (aa 3) 14) (cI 0)),(bt (aj gL [(aa 3),(aG (aa 2) (aa 4))])),(cn (aA .eq (ae (aa 3) 15) (ai (V.str [109,97,114,107]))) [(cn (aV (ae (aa 0) 17)) [(bt (aj cz [(aa 3),(bV (aa 2) (some (aI .add (aa 4) (cI 1))) (some (aI .add (aa 1) (cI 1)))),(iE (cI 1))]))] [(bt (aj cz [(aa 3),(bV (aa 2) (some (aa 4)) (some (aa 1))),(cI 1)]))])] [])]
def fq:Md:=aq [0,1] [] 7 zn
abbrev EQ:List St:=[(bt (aj fq [(aa 0),(aa 2)]))]
abbrev qs:List St:=[(bG (C2 (aj ed [(ae (aa 0) 16),(aa 1)])) (.nm 2) EQ)]
abbrev xD:List St:=[(am okf (.at (aa 3) 14) (cI 0))]
abbrev GY:List St:=[(bG (bk [(cK .len [(ae (aa 0) 16)])]) (.nm 1) qs),(bG (bn (ae (aa 0) 16)) (.nm 3) xD)]
def lF:Md:=aq [0] [] 9 GY
abbrev qK:List St:=[(cn (aA .eq (aa 0) (ai (V.str [97,100,106,117,115,116]))) [(aF aw)] []),(cn (aA .eq (aa 0) (ai (V.str [112,97,105,114]))) [(aF aw)] []),(cn (aA .eq (aa 0) (ai (V.str [99,117,114,115,105,118,101]))) [(aF aw)] []),(cn (aA .eq (aa 0) (ai (V.str [98,97,115,101]))) [(aF (aj fN [(aa 1),(aa 2),(aa 3)]))] []),(cn (aA .eq (aa 0) (ai (V.str [99,111,109,112,111,110,101,110,116]))) [(aF aw)] []),(cn (aA .eq (aa 0) (ai (V.str [109,97,114,107]))) [(aF aw)] []),(aF aw)]
def cR:Md:=aq [0,1,2,3] [] 12 qK
abbrev tO:List St:=[(sN 3 (aj cR [(ae (ae (aa 0) 26) 9),(aa 0),(aa 2),(aa 1)])),(cn (aA .ge (aa 3) (cI 0)) [(aF (aa 3))] [])]
abbrev xj:List St:=[(bG (bn (ae (ae (aa 0) 26) 22)) (.nm 2) tO),(aF (iE (cI 1)))]
def eE:Md:=aq [0,1] [] 5 xj
abbrev yk:List St:=[(cn (aA .eq (aa 0) (ai (V.str [97,100,106,117,115,116]))) [(sN 2 (cK .list [(ae (aa 1) 33)]))] [(cn (aA .eq (aa 0) (ai (V.str [112,97,105,114]))) [(sN 2 aw)] [(cn (aA .eq (aa 0) (ai (V.str [99,117,114,115,105,118,101]))) [(sN 2 (cK .list [(ae (aa 1) 34)]))] [(cn (aA .isin (aa 0) (bP [(ai (V.str [99,111,110,116,101,120,116])),(ai (V.str [99,104,97,105,110]))])) [(sN 2 aw)] [(sN 2 (cK .list [(ae (aa 1) 31)]))])])])]),(aF (cK .sortedset [(aa 2)]))]
def fL:Md:=aq [0,1] [] 8 yk
abbrev si:List St:=[(am okf (.ix (aa 6) (aa 8)) (ai (V.bool true)))]
abbrev r8:List St:=[(bG (bn (aj fL [(ae (aa 5) 9),(aa 7)])) (.nm 8) si)]
abbrev kA:Tv:=(aA .lt (aa 10) (cK .len [(ae (aa 0) 16)]))
abbrev kD:List St:=[(sN 11 (iE (cI 1))),(sN 12 (aG (ae (aa 0) 16) (aa 10))),(cn (iU [(aA .isin (ae (aa 12) 1) (aa 6)),(aA .ne (aI .band (ae (aa 12) 3) (aa 4)) (cI 0)),(lK (aV (aj dT [(aa 9),(aa 10)])))]) [(sN 11 (aj eE [(aa 9),(aa 10)]))] []),(sN 10 (cK .max [(aa 11),(aI .add (aa 10) (cI 1))]))]
abbrev uP:List St:=[(sN 5 (aG (aa 2) (aa 3))),(sN 6 (bN [])),(bG (bn (ae (aa 5) 22)) (.nm 7) r8),(sN 9 (aj g9 [(aa 0),(aa 1),(aa 2),(aa 5),(aa 4)])),(sN 10 (cI 0)),(gP kA kD)]
def dR:Md:=aq [0,1,2,3,4] [] 19 uP
abbrev sG:List St:=[(am okf (.at (aa 0) 35) (aa 1))]
def gN:Md:=aq [0,1] [] 2 sG
def n5:Md:=cY 884 gN
def pq:List (Addr×Md):=[(103,cN)]
abbrev dE:List St:=[(sN 8 (aG (ae (ae (aa 0) 23) 16) (aI .add (aa 2) (aa 7)))),(am okf (.at (aa 8) 8) (aa 6)),(cn (lK (aV (aa 5))) [(am okf (.at (aa 8) 6) (aa 7))] [])]
abbrev qc:List St:=[(sN 3 (aG (ae (ae (aa 0) 23) 16) (aa 2))),(cn (aA .notin (ae (aa 3) 1) (ae (aa 1) 35)) [(aF (iE (cI 1)))] []),(sN 4 (aG (ae (aa 1) 35) (ae (aa 3) 1))),(cn (aA .eq (cK .len [(aa 4)]) (cI 1)) [(am okf (.at (aa 3) 1) (aG (aa 4) (cI 0))),(aF (aI .add (aa 2) (cI 1)))] []),(sN 5 (bE (aA .ne (ae (aa 3) 5) (cI 0)))),(bt (aj vH [(ae (aa 0) 23),(aa 2),(cI 1),(aa 4)])),(cn (aV (aa 4)) [(sN 6 (gG pq (ae (aa 0) 23) [])),(bG (bk [(cK .len [(aa 4)])]) (.nm 7) dE)] []),(aF (aI .add (aa 2) (cK .len [(aa 4)])))]
def cS:Md:=aq [0,1,2] [] 12 qc
abbrev vN:List St:=[(cn (aA .eq (aa 1) (ai (V.str [115,105,110,103,108,101]))) [(aF aw)] []),(cn (aA .eq (aa 1) (ai (V.str [109,117,108,116,105,112,108,101]))) [(aF (aj cS [(aa 0),(aa 2),(aa 3)]))] []),(cn (aA .eq (aa 1) (ai (V.str [97,108,116,101,114,110,97,116,101]))) [(aF aw)] []),(cn (aA .eq (aa 1) (ai (V.str [108,105,103,97,116,117,114,101]))) [(aF aw)] []),(cn (aA .eq (aa 1) (ai (V.str [114,101,118,101,114,115,101]))) [(aF aw)] []),(aF aw)]
def em:Md:=aq [0,1,2,3] [] 11 vN
abbrev qj:List St:=[(sN 3 (aj em [(aa 0),(ae (ae (aa 0) 26) 9),(aa 2),(aa 1)])),(cn (aA .ge (aa 3) (cI 0)) [(aF (aa 3))] [])]
abbrev sm:List St:=[(bG (bn (ae (ae (aa 0) 26) 22)) (.nm 2) qj),(aF (iE (cI 1)))]
def dn:Md:=aq [0,1] [] 5 sm
abbrev lC:Tv:=(aA .lt (aa 2) (cK .len [(ae (ae (aa 0) 23) 16)]))
abbrev lu:List St:=[(sN 3 (t9 (aV (aj oa [(aa 0),(aa 2)])) (aj dn [(aa 0),(aa 2)]) (ai V.none))),(cn (Ds [(aA .is (aa 3) (ai V.none)),(aA .lt (aa 3) (cI 0))]) [(sN 2 (aI .add (aa 2) (cI 1)))] [(sN 1 (aI .add (aa 1) (cI 1))),(sN 2 (aa 3))])]
abbrev wR:List St:=[(sN 1 (cI 0)),(sN 2 (cI 0)),(gP lC lu),(aF (aa 1))]
def eo:Md:=aq [0] [] 7 wR
abbrev nV:List St:=[(sN 5 (aj g9 [(aa 0),(aa 1),(aa 2),(aG (aa 2) (aa 3)),(aa 4)])),(cn (aA .eq (ae (ae (aa 5) 26) 9) (ai (V.str [114,101,118,101,114,115,101]))) [(aF aw)] []),(aF (aj eo [(aa 5)]))]
def cw:Md:=aq [0,1,2,3,4] [] 9 nV
abbrev uI:List St:=[(aF (bP [(bP [(cI 173),(cI 173)]),(bP [(cI 847),(cI 847)]),(bP [(cI 1564),(cI 1564)]),(bP [(cI 6068),(cI 6069)]),(bP [(cI 6155),(cI 6158)]),(bP [(cI 8203),(cI 8207)]),(bP [(cI 8234),(cI 8238)]),(bP [(cI 8288),(cI 8303)]),(bP [(cI 65024),(cI 65039)]),(bP [(cI 65279),(cI 65279)]),(bP [(cI 65520),(cI 65528)]),(bP [(cI 119155),(cI 119162)]),(bP [(cI 917504),(cI 921599)])]))]
def ft:Md:=aq [] [] 0 uI
abbrev pk:List St:=[(cn (gy .le .le (aa 1) (aa 0) (aa 2)) [(aF (ai (V.bool true)))] [])]
abbrev qJ:List St:=[(bG (bn (aj ft [])) (.tp [1,2]) pk),(aF (ai (V.bool false)))]
def eh:Md:=aq [0] [] 4 qJ
abbrev xn:List St:=[(aF (Hl [(bE (gy .le .le (cI 65024) (aa 0) (cI 65039))),(bE (gy .le .le (cI 917760) (aa 0) (cI 917999)))]))]
def eL:Md:=aq [0] [] 1 xn
abbrev tH:List St:=[(cn (aA .eq (aa 0) (cI 8205)) [(aF (ai (V.str [122,119,106])))] []),(cn (aA .eq (aa 0) (cI 8204)) [(aF (ai (V.str [122,119,110,106])))] []),(aF (t9 (aV (aj eh [(aa 0)])) (ai (V.str [104,105,100,100,101,110])) (ai (V.str []))))]
def dW:Md:=aq [0] [] 4 tH
abbrev nA:List St:=[(am okf (.at (aa 1) 9) (aj dW [(ae (aa 1) 0)]))]
abbrev ze:List St:=[(bG (bn (ae (aa 0) 16)) (.nm 1) nA)]
def fF:Md:=aq [0] [] 3 ze
abbrev i5:Tv:=(aA .lt (aa 2) (cK .len [(ae (aa 0) 16)]))
abbrev iY:List St:=[(sN 3 (cI 0)),(cn (aV (aj eL [(ae (aG (ae (aa 0) 16) (aa 2)) 0)])) [(sN 3 aw)] []),(cn (aA .gt (aa 3) (cI 0)) [(bt (aj ky [(aa 0),(aI .sub (aa 2) (cI 1)),(aI .add (aa 2) (cI 1))])),(am okf (.at (aG (ae (aa 0) 16) (aI .sub (aa 2) (cI 1))) 1) (aa 3)),(am okf (.at (aa 0) 16) (aI .add (bV (ae (aa 0) 16) none (some (aa 2))) (bV (ae (aa 0) 16) (some (aI .add (aa 2) (cI 1))) none)))] [(sN 2 (aI .add (aa 2) (cI 1)))])]
abbrev qp:List St:=[(sN 2 (cI 1)),(gP i5 iY)]
def cU:Md:=aq [0,1] [] 8 qp
abbrev zj:List St:=[(aF (jZ [(bE (aA .ne (ae (aa 0) 9) (ai (V.str [])))),(bE (aA .eq (ae (aa 0) 7) (cI 0)))]))]
def cG:Md:=aq [0] [] 1 zj
abbrev J0:List St:=[(cn (aV (aj cG [(aa 2)])) [(bt aw)] [])]
abbrev En:Tv:=(aA .lt (aa 3) (cK .len [(ae (aa 0) 16)]))
abbrev Em:List St:=[(cn (aV (aj cG [(aG (ae (aa 0) 16) (aa 3))])) [(bt (aj vH [(aa 0),(aa 3),(cI 1),(bD [])]))] [(sN 3 (aI .add (aa 3) (cI 1)))])]
abbrev Lj:List St:=[(cn (aA .gt (aa 1) (cI 0)) [(bG (bn (ae (aa 0) 16)) (.nm 2) J0),(aF (ai V.none))] []),(sN 3 (cI 0)),(gP En Em)]
def vt:Md:=aq [0,1] [] 8 Lj
abbrev nN:List St:=[(aF (bE (aA .isin (aa 0) (ai (V.tup [(V.str [97,114,97,98])])))))]
def bZ:Md:=aq [0] [] 2 nN
abbrev tN:List St:=[(am okf (.at (aa 0) 36) (aa 1)),(am okf (.at (aa 0) 37) (aa 2)),(am okf (.at (aa 0) 38) (aa 3)),(am okf (.at (aa 0) 39) (cK .tuple [(aa 4)])),(am okf (.at (aa 0) 40) (cK .tuple [(aa 5)]))]
def io:Md:=aq [0,1,2,3,4,5] [] 7 tN
def qw:Md:=cY 1167 io
abbrev EG:List St:=[(aF (t9 (gy .le .lt (cI 0) (aa 1) (cK .len [(ae (aa 0) 39)])) (aG (ae (aa 0) 39) (aa 1)) (cI 0)))]
def ig:Md:=aq [0,1] [] 3 EG
abbrev lJ:List St:=[(aF (bE (aA .isin (aa 0) (ai (V.tup [(V.str [97,114,97,98]),(V.str [104,101,98,114]),(V.str [115,121,114,99]),(V.str [116,104,97,97]),(V.str [110,107,111,32])])))))]
def ce:Md:=aq [0] [] 2 lJ
abbrev w7:List St:=[(aF (bN [((ai (V.str [98,101,110,103])),(ai (V.str [98,110,103,50]))),((ai (V.str [100,101,118,97])),(ai (V.str [100,101,118,50]))),((ai (V.str [103,117,106,114])),(ai (V.str [103,106,114,50]))),((ai (V.str [103,117,114,117])),(ai (V.str [103,117,114,50]))),((ai (V.str [107,110,100,97])),(ai (V.str [107,110,100,50]))),((ai (V.str [109,108,121,109])),(ai (V.str [109,108,109,50]))),((ai (V.str [109,121,109,114])),(ai (V.str [109,121,109,50]))),((ai (V.str [111,114,121,97])),(ai (V.str [111,114,121,50]))),((ai (V.str [116,97,109,108])),(ai (V.str [116,109,108,50]))),((ai (V.str [116,101,108,117])),(ai (V.str [116,101,108,50])))]))]
def gh:Md:=aq [] [] 0 w7
abbrev wO:List St:=[(sN 1 (mE (aj gh []) (aa 0) none)),(aF (t9 (aA .is (aa 1) (ai V.none)) (bD [(aa 0)]) (bD [(aa 1),(aa 0)])))]
def gf:Md:=aq [0] [] 3 wO
abbrev pZ:List St:=[(cn (aA .isin (aa 2) (ae (aa 0) 41)) [(aF (aG (ae (aa 0) 41) (aa 2)))] [])]
abbrev sX:List St:=[(bG (bn (aI .add (cK .list [(aa 1)]) (cK .list [(ai (V.tup [(V.str [68,70,76,84]),(V.str [100,102,108,116]),(V.str [108,97,116,110])]))]))) (.nm 2) pZ),(aF (ai V.none))]
def eR:Md:=aq [0,1] [] 5 sX
abbrev qf:List St:=[(cn (aA .is (aa 0) (ai V.none)) [(aF (ai V.none))] []),(aF (mE (ae (aa 0) 43) (aa 1) (some (ae (aa 0) 42))))]
def d0:Md:=aq [0,1] [] 2 qf
abbrev zA:List St:=[(cn (gy .le .lt (cI 0) (aa 1) (cK .len [(ae (aa 0) 44)])) [(aF (aG (ae (aa 0) 44) (aa 1)))] []),(aF (ai V.none))]
def ee:Md:=aq [0,1] [] 3 zA
abbrev nE:List St:=[(cn (aA .is (aa 1) (ai V.none)) [(aF (ai V.none))] []),(aF (aj ee [(aa 0),(ae (aa 1) 45)]))]
def bY:Md:=aq [0,1] [] 3 nE
abbrev nS:List St:=[(sN 5 (aj ee [(aa 0),(aa 4)])),(cn (iU [(aA .isnot (aa 5) (ai V.none)),(aA .eq (ae (aa 5) 46) (aa 2))]) [(bt (fE (aa 3) (aa 4)))] [])]
abbrev oy:List St:=[(sN 3 (bD [])),(cn (aA .isnot (aa 1) (ai V.none)) [(bG (bn (ae (aa 1) 44)) (.nm 4) nS)] []),(aF (aa 3))]
def cf:Md:=aq [0,1,2] [] 7 oy
abbrev tK:List St:=[(cn (aA .lt (aa 4) (cK .len [(ae (aa 1) 25)])) [(am okf (.ix (aa 0) (aa 4)) (aI .bor (mE (aa 0) (aa 4) (some (cI 0))) (aa 3)))] [])]
abbrev wH:List St:=[(bG (bn (ae (aa 2) 25)) (.nm 4) tK)]
def eA:Md:=aq [0,1,2,3] [] 6 wH
abbrev FS:List St:=[(bt (aj eA [(aa 4),(aa 0),(aG (ae (aa 0) 44) (aa 7)),(aG (aa 2) (aa 6))]))]
abbrev Fb:List St:=[(cn (aA .ne (aG (aa 2) (aa 6)) (cI 0)) [(bG (bn (aj cf [(aa 0),(aa 1),(aa 6)])) (.nm 7) FS)] [])]
abbrev Fh:Ev:=(bP [(aa 14),(aG (aa 4) (aa 14))])
abbrev Ix:List St:=[(sN 4 (bN [])),(sN 5 (t9 (aV (aa 3)) (aj bY [(aa 0),(aa 1)]) (ai V.none))),(cn (aA .isnot (aa 5) (ai V.none)) [(bt (aj eA [(aa 4),(aa 0),(aa 5),(cI 1)]))] []),(bG (bn (cK .sorted [(aa 2)])) (.nm 6) Fb),(aF (bo 3 (bn (cK .sorted [(aa 4)])) (.nm 14) [] Fh))]
def oU:Md:=aq [0,1,2,3] [(V.bool true)] 13 Ix
abbrev B0:List St:=[(am okf (.at (aa 0) 47) (aa 1)),(am okf (.at (aa 0) 48) (aa 2)),(am okf (.at (aa 0) 17) (aa 3)),(am okf (.at (aa 0) 49) (aa 4)),(am okf (.at (aa 0) 50) (aa 8)),(am okf (.at (aa 0) 51) (aa 9)),(am okf (.at (aa 0) 52) (aa 5)),(am okf (.at (aa 0) 53) (aa 6)),(am okf (.at (aa 0) 54) (aa 7))]
def lw:Md:=aq [0,1,2,3,4,5,6,7,8,9] [(V.int 1),(V.tup [])] 10 B0
def Dl:Md:=cY 1472 lw
abbrev AB:List St:=[(am okf (.at (aa 0) 55) (aa 1)),(am okf (.at (aa 0) 56) (aa 2)),(am okf (.at (aa 0) 57) (aa 3)),(am okf (.at (aa 0) 58) (ai (V.bool false)))]
def lp:Md:=aq [0,1,2,3] [(V.bool false)] 4 AB
def nH:Md:=cY 1508 lp
abbrev vv:List St:=[(aF (Hl [(ae (aa 0) 57),(jZ [(ae (aa 0) 58),(bE (aA .gt (ae (aa 0) 56) (cI 0)))])]))]
def iA:Md:=aq [0] [] 1 vv
abbrev uE:List St:=[(am okf (.ix (aa 2) (aa 3)) (aj nH [(cI 1),(cI 1)]))]
abbrev u0:List St:=[(am okf (.ix (aa 2) (aa 3)) (aj nH [(cI 0),(cI 1),(ai (V.bool true))]))]
abbrev wP:List St:=[(sN 2 (bN [])),(bG (bn (aI .add (ai (V.tup [(V.str [97,98,118,109]),(V.str [98,108,119,109]),(V.str [99,99,109,112]),(V.str [108,111,99,108]),(V.str [109,97,114,107]),(V.str [109,107,109,107]),(V.str [114,108,105,103]),(V.str [99,97,108,116]),(V.str [99,108,105,103]),(V.str [99,117,114,115]),(V.str [100,105,115,116]),(V.str [107,101,114,110]),(V.str [108,105,103,97]),(V.str [114,99,108,116])])) (t9 (aV (aa 1)) (ai (V.tup [(V.str [114,116,108,97])])) (ai (V.tup [(V.str [108,116,114,97]),(V.str [108,116,114,109])]))))) (.nm 3) uE),(cn (aV (aa 1)) [(am okf (.ix (aa 2) (ai (V.str [114,116,108,109]))) (aj nH [(cI 0),(cI 1),(ai (V.bool true))]))] []),(cn (aV (aj bZ [(aa 0)])) [(bG (bn (ai (V.tup [(V.str [105,115,111,108]),(V.str [102,105,110,97]),(V.str [109,101,100,105]),(V.str [105,110,105,116])]))) (.nm 3) u0)] []),(aF (aa 2))]
def gm:Md:=aq [0,1] [] 10 wP
abbrev yO:List St:=[(bt aw),(cn (aA .notin (ae (aa 4) 46) (aa 3)) [(am okf (.ix (aa 3) (ae (aa 4) 46)) (aj nH [(cI 0),(cI 0)]))] []),(sN 5 (aG (aa 3) (ae (aa 4) 46))),(cn (aV aw) [(am okf (.at (aa 5) 55) (ae (aa 4) 55)),(am okf (.at (aa 5) 57) (ai (V.bool false)))] [(am okf (.at (aa 5) 58) (ai (V.bool true)))]),(am okf (.at (aa 5) 56) (cK .max [(ae (aa 5) 56),(ae (aa 4) 55)]))]
abbrev AX:List St:=[(sN 3 (aj gm [(aa 0),(aa 1)])),(bG (bn (aa 2)) (.nm 4) yO),(aF (aa 3))]
def i3:Md:=aq [0,1,2] [] 10 AX
def mf:List (Addr×Md):=[(1508,iA)]
abbrev w8:List St:=[(sN 6 (aG (aa 0) (aa 5))),(cn (iU [(lK (aV (gG mf (aa 6) []))),(aA .eq (ae (aa 6) 55) (cI 1))]) [(am okf (.ix (aa 2) (aa 5)) (bP [(cI 0),(cI 1)]))] [(cn (Ds [(aV (gG mf (aa 6) [])),(aA .gt (ae (aa 6) 55) (cI 1))]) [(sN 7 (t9 (aV (gG mf (aa 6) [])) (ae (aa 6) 56) (ae (aa 6) 55))),(sN 8 aw),(am okf (.ix (aa 2) (aa 5)) (bP [(aa 4),(aa 8)])),(sN 3 (aI .bor (aa 3) (aI .shl (ae (aa 6) 55) (aa 4)))),(sN 4 (aI .add (aa 4) (aa 8)))] [])])]
abbrev yN:List St:=[(sN 2 (bN [])),(sN 3 (cI 1)),(sN 4 (cI 1)),(bG (bn (cK .sorted [(aa 1)])) (.nm 5) w8),(cn (aA .gt (aa 4) (cI 31)) [gW] []),(aF (bP [(aa 2),(aa 3)]))]
def hZ:Md:=aq [0,1] [] 12 yN
abbrev Fi:List St:=[(cn (aA .notin (aa 1) (aa 0)) [(aF (cI 0))] []),(am okf (.nm (.tp [2,3])) (aG (aa 0) (aa 1))),(aF (aI .shl (aI .sub (aI .shl (cI 1) (aa 3)) (cI 1)) (aa 2)))]
def mn:Md:=aq [0,1] [] 4 Fi
abbrev v5:List St:=[(cn (aA .is (aa 0) (ai V.none)) [(aF (ai V.none))] []),(aF (aj d0 [(aj eR [(aa 0),(aj gf [(aa 1)])]),(aa 2)]))]
def ei:Md:=aq [0,1,2] [] 6 v5
abbrev vM:List St:=[(aF (jZ [(bE (aA .isnot (aa 1) (ai V.none))),(bE (aA .ne (aj cf [(aa 0),(aa 1),(aa 2)]) (bD [])))]))]
def dw:Md:=aq [0,1,2] [] 4 vM
abbrev Bp:List St:=[(cn (aA .isin (aa 6) (aa 2)) [(am okf (.ix (aa 5) (aa 6)) (aj mn [(aa 2),(aa 6)]))] [])]
abbrev De:List St:=[(cn (aA .is (aa 1) (ai V.none)) [(aF (bD []))] []),(sN 5 (bN [])),(bG (bn (aa 3)) (.nm 6) Bp),(aF (aj oU [(aa 0),(aa 1),(aa 5),(aa 4)]))]
def ii:Md:=aq [0,1,2,3,4] [] 9 De
abbrev vV:Ev:=aw
abbrev xi:Ev:=(aa 8)
abbrev y9:List St:=[(cn (lK (aV (aj bZ [(aa 0)]))) [(aF (bD [(cK .list [(aa 1)])]))] []),(sN 2 (bo 3 (bn (ai (V.tup [(V.tup [(V.str [99,99,109,112]),(V.str [108,111,99,108]),(V.str [108,116,114,97]),(V.str [108,116,114,109]),(V.str [114,116,108,97]),(V.str [114,116,108,109])]),(V.tup [(V.str [105,115,111,108])]),(V.tup [(V.str [102,105,110,97])]),(V.tup [(V.str [109,101,100,105])]),(V.tup [(V.str [105,110,105,116])]),(V.tup [(V.str [114,108,105,103])])]))) (.nm 8) [] vV)),(sN 3 aw),(aF (aI .add (aa 2) (bD [(bo 3 (bn (aa 1)) (.nm 8) [(aA .notin (aa 8) (aa 3))] xi)])))]
def g5:Md:=aq [0,1] [] 7 y9
abbrev pT:List St:=[(sN 3 (t9 (aA .is (aa 0) (ai V.none)) (ai V.none) (aj bY [(aa 0),(aa 1)]))),(cn (aA .is (aa 3) (ai V.none)) [(aF (iE (cI 1)))] []),(aF aw)]
def d9:Md:=aq [0,1,2] [] 6 pT
abbrev yY:List St:=[(sN 10 (jZ [(bE (aA .eq (aa 9) (ai (V.str [107,101,114,110])))),(bE (aA .gt (cK .len [(ae (aa 0) 61)]) (cI 0)))])),(cn (Ds [(aV (aa 10)),(aV (aj dw [(ae (aa 0) 59),(aa 6),(aa 9)])),(aV (aj dw [(ae (aa 0) 60),(aa 7),(aa 9)]))]) [(bt (fE (aa 8) (aa 9)))] [])]
abbrev zW:Ev:=(aj ii [(ae (aa 0) 59),(aa 6),(aa 11),(aG (aa 13) (aa 32)),(bE (aA .eq (aa 32) (aa 14)))])
abbrev yv:Ev:=(aa 32)
abbrev AT:List St:=[(sN 5 (aj i3 [(aa 1),(aa 3),(aa 4)])),(sN 6 (aj ei [(ae (aa 0) 59),(aa 1),(aa 2)])),(sN 7 (aj ei [(ae (aa 0) 60),(aa 1),(aa 2)])),(sN 8 (bD [])),(bG (bn (cK .sorted [(aa 5)])) (.nm 9) yY),(am okf (.nm (.tp [11,12])) (aj hZ [(aa 5),(aa 8)])),(sN 13 (aj g5 [(aa 1),(aa 8)])),(sN 14 (aj d9 [(ae (aa 0) 59),(aa 6),(aa 1)])),(sN 15 (bo 8 (bk [(cK .len [(aa 13)])]) (.nm 32) [] zW)),(sN 16 (aj ii [(ae (aa 0) 60),(aa 7),(aa 11),(aa 8),(ai (V.bool true))])),(sN 17 (jZ [(bE (aA .isin (ai (V.str [107,101,114,110])) (aa 11))),(bE (aA .gt (cK .len [(ae (aa 0) 61)]) (cI 0))),(bE (lK (aV (aj dw [(ae (aa 0) 60),(aa 7),(ai (V.str [107,101,114,110]))]))))])),(sN 18 (cK .tuple [(bo 3 (bn (cK .sorted [(aa 11)])) (.nm 32) [(aV (ae (aG (aa 5) (aa 32)) 57))] yv)])),(aF (aj Dl [(aa 1),(aa 2),(aa 3),(aa 11),(aa 15),(aa 16),(aa 17),(aa 12),(aa 18)]))]
def dM:Md:=aq [0,1,2,3,4] [] 31 AT
abbrev pa:List St:=[(am okf (.at (aa 3) 3) (aI .bor (ae (aa 3) 3) (ae (aa 1) 50)))]
abbrev zR:List St:=[(cn (iU [(aA .ge (ae (aa 3) 2) (ae (aa 4) 62)),(Ds [(aA .lt (ae (aa 4) 63) (cI 0)),(aA .lt (ae (aa 3) 2) (ae (aa 4) 63))])]) [(sN 7 (aI .band (ae (aa 3) 3) aw)),(am okf (.at (aa 3) 3) (aI .bor (aa 7) (aI .shl (ae (aa 4) 55) (aa 5))))] [])]
abbrev Ao:List St:=[(cn (iU [(aA .isin (ae (aa 4) 46) (ae (aa 1) 49)),(lK (aV aw))]) [(am okf (.nm (.tp [5,6])) (aG (ae (aa 1) 49) (ae (aa 4) 46))),(bG (bn (ae (aa 0) 16)) (.nm 3) zR)] [])]
abbrev BE:List St:=[(bG (bn (ae (aa 0) 16)) (.nm 3) pa),(bG (bn (aa 2)) (.nm 4) Ao)]
def gv:Md:=aq [0,1,2] [] 9 BE
abbrev xb:List St:=[(am okf (.at (aa 0) 64) (aa 1)),(am okf (.at (aa 0) 17) (aa 2))]
def jp:Md:=aq [0,1,2] [] 3 xb
def oo:Md:=cY 1707 jp
abbrev uK:List St:=[(bt (aj fF [(aa 0)])),(bt (aj cU [(aa 0),(aa 1)])),(cn (aA .isnot (aa 2) (ai V.none)) [(bt aw)] [])]
def dK:Md:=aq [0,1,2] [] 6 uK
abbrev sw:List St:=[(cn (aV (ae (aa 2) 17)) [(bt aw)] []),(cn (aA .eq (ae (aa 2) 47) (ai (V.str [97,114,97,98]))) [(bt aw)] []),(cn (aA .eq (ae (aa 2) 47) (ai (V.str [100,101,118,97]))) [(bt aw)] [])]
def db:Md:=aq [0,1,2] [] 9 sw
abbrev sv:List St:=[(aF (mE (ae (aa 0) 67) (aa 1) (some (cI 0))))]
def dq:Md:=aq [0,1] [] 2 sv
def tq:List (Addr×Md):=[(1828,dq)]
abbrev mK:List St:=[(cn (aA .eq (ae (aa 2) 1) (cI 0)) [(am okf (.at (aa 2) 1) (gG tq (aa 1) [(ae (aa 2) 0)]))] [])]
abbrev Aq:List St:=[(bG (bn (ae (aa 0) 16)) (.nm 2) mK)]
def fM:Md:=aq [0,1] [] 3 Aq
abbrev xf:List St:=[(bt (aj cw [(aa 0),(ae (aa 1) 24),(ae (ae (aa 1) 59) 25),(aa 4),(aa 5)]))]
abbrev v8:List St:=[(bG (bn (aa 3)) (.tp [4,5]) xf)]
abbrev zQ:List St:=[(bG (bn (ae (aa 2) 52)) (.nm 3) v8)]
def fH:Md:=aq [0,1,2] [] 7 zQ
abbrev kK:List St:=[(cn (aA .ne (gG dA (ae (aa 1) 24) [(ae (aa 2) 1)]) (cI 3)) [(am okf (.at (aa 2) 10) (aj ig [(ae (aa 1) 65),(ae (aa 2) 1)]))] [])]
abbrev uN:List St:=[(bG (bn (ae (aa 0) 16)) (.nm 2) kK)]
def dP:Md:=aq [0,1] [] 5 uN
abbrev jh:List St:=[(cn (aV (aj cG [(aa 1)])) [(am okf (.at (aa 1) 10) (cI 0)),(am okf (.at (aa 1) 11) (cI 0)),(am okf (.at (aa 1) 12) (cI 0)),(am okf (.at (aa 1) 13) (cI 0))] [])]
abbrev qh:List St:=[(bG (bn (ae (aa 0) 16)) (.nm 1) jh)]
def cP:Md:=aq [0] [] 3 qh
abbrev sr:List St:=[(bt (aj dR [(aa 0),(ae (aa 1) 24),(ae (ae (aa 1) 60) 25),(aa 3),(aa 4)]))]
abbrev uC:List St:=[(bG (bn (ae (aa 2) 53)) (.tp [3,4]) sr),(cn (aV (ae (aa 2) 54)) [(bt aw)] []),(bt (aj cP [(aa 0)])),(bt (aj lF [(aa 0)]))]
def dN:Md:=aq [0,1,2] [] 10 uC
def G3:List (Addr×Md):=[(52,je)]
abbrev uw:Ev:=(aI .add (gG G3 (aa 2) []) (bP [(ae (aa 2) 4)]))
abbrev xl:List St:=[(aF (bo 2 (bn (ae (aa 0) 16)) (.nm 2) [] uw))]
def eD:Md:=aq [0] [] 1 xl
abbrev C6:List St:=[(sN 5 (aj gq [(aa 1),(ae (aa 2) 17)])),(bt (aj dK [(aa 5),(ae (aa 0) 66),(aa 4)])),(bt (aj db [(aa 5),(ae (aa 0) 66),(aa 2)])),(bt (aj gv [(aa 5),(aa 2),(aa 3)])),(bt (aj fM [(aa 5),(ae (aa 0) 66)])),(bt (aj fH [(aa 5),(aa 0),(aa 2)])),(bt (aj dP [(aa 5),(aa 0)])),(bt (aj dN [(aa 5),(aa 0),(aa 2)])),(bt (aj vt [(aa 5),(gG tq (ae (aa 0) 66) [(cI 32)])])),(bt (aj dg [(aa 5)])),(cn (aV (ae (aa 2) 17)) [(bt aw)] []),(aF (aj oo [(aj eD [(aa 5)]),(ae (aa 2) 17)]))]
def fW:Md:=aq [0,1,2,3,4] [] 20 C6
abbrev wG:List St:=[(sN 7 (aj ce [(aa 2)])),(cn (aA .is (aa 6) (ai V.none)) [(sN 8 (aj (f7 dM) [(aa 0),(aa 2),(aa 3),(aa 7),(aa 4)]))] [(sN 8 aw)]),(aF (aj (f7 fW) [(aa 0),(aa 1),(aa 8),(aa 4),(aa 5)]))]
def el:Md:=aq [0,1,2,3,4,5,6] [(V.str [68,70,76,84]),(V.str [100,102,108,116]),(V.tup []),V.none,V.none] 12 wG
abbrev Bw:Ev:=(cK .ord [(aa 9)])
abbrev JW:List St:=[(aF (aj el [(aa 0),(bo 3 (bn (aa 1)) (.nm 9) [] Bw),(aa 2),(aa 3),(aa 4),(aa 5),(aa 6)]))]
def i8:Md:=aq [0,1,2,3,4,5,6] [(V.str [68,70,76,84]),(V.str [100,102,108,116]),(V.tup []),V.none,V.none] 8 JW
abbrev tM:List St:=[(am okf (.at (aa 0) 67) (up 3 (aa 1) (.nm 4) [(aA .ne (aG (aa 1) (aa 4)) (cI 0))] (aa 4) (aG (aa 1) (aa 4)))),(am okf (.at (aa 0) 68) (aa 2))]
def iO:Md:=aq [0,1,2] [V.none] 3 tM
def pU:Md:=cY 1828 iO
abbrev sP:List St:=[(am okf (.at (aa 0) 69) (aa 1))]
def gQ:Md:=aq [0,1] [] 2 sP
def kq:Md:=cY 1875 gQ
abbrev Ce:List St:=[(am okf (.at (aa 0) 66) (aa 1)),(am okf (.at (aa 0) 65) (aa 2)),(am okf (.at (aa 0) 24) (aa 3)),(am okf (.at (aa 0) 59) (aa 4)),(am okf (.at (aa 0) 60) (aa 5)),(am okf (.at (aa 0) 61) (aa 6))]
def lm:Md:=aq [0,1,2,3,4,5,6] [] 7 Ce
def DO:Md:=cY 1909 lm
abbrev AH:List St:=[(am okf (.at (aa 0) 69) (aa 1)),(am okf (.at (aa 0) 70) (aa 2)),(am okf (.at (aa 0) 71) (aa 3)),(am okf (.at (aa 0) 72) (t9 (aA .is (aa 4) (ai V.none)) (bN []) (aa 4))),(am okf (.at (aa 0) 73) (t9 (aA .is (aa 5) (ai V.none)) (bN []) (aa 5)))]
def ly:Md:=aq [0,1,2,3,4,5] [V.none,V.none] 6 AH
def Cy:Md:=cY 1964 ly
abbrev uX:List St:=[(am okf (.at (aa 0) 45) (aa 1)),(am okf (.at (aa 0) 44) (cK .list [(aa 2)]))]
def iJ:Md:=aq [0,1,2] [] 4 uX
def mc:Md:=cY 1992 iJ
abbrev wY:List St:=[(am okf (.at (aa 0) 46) (aa 1)),(am okf (.at (aa 0) 42) (aa 2)),(am okf (.at (aa 0) 43) (aa 3))]
def jl:Md:=aq [0,1,2,3] [] 4 wY
def pj:Md:=cY 2018 jl
abbrev uY:List St:=[(am okf (.at (aa 0) 46) (aa 1)),(am okf (.at (aa 0) 25) (cK .list [(aa 2)]))]
def iL:Md:=aq [0,1,2] [] 4 uY
def l8:Md:=cY 2046 iL
abbrev xm:List St:=[(am okf (.at (aa 0) 41) (aa 1)),(am okf (.at (aa 0) 44) (aa 2)),(am okf (.at (aa 0) 25) (aa 3))]
def ju:Md:=aq [0,1,2,3] [] 4 xm
def oV:Md:=cY 2072 ju
abbrev B_law_draw:List St:=[(sN 2 (aG (aa 0) (cI 1))),(am okf (.ix (aa 0) (cI 1)) (aI .add (aa 2) (cI 1))),(cn (aA .lt (aa 2) (cK .len [(aG (aa 0) (cI 0))])) [(aF (aI .mod (aG (aG (aa 0) (cI 0)) (aa 2)) (aa 1)))] []),(sN 3 (t9 (aA .ne (aG (aa 0) (cI 0)) (bD [])) (aI .fdiv (aG (aG (aa 0) (cI 0)) (aI .mod (aa 2) (cK .len [(aG (aa 0) (cI 0))]))) (aI .pow (cI 15) (aI .fdiv (aa 2) (cK .len [(aG (aa 0) (cI 0))])))) (cI 0))),(aF (aI .mod (aI .add (aI .add (aa 3) (aI .mul (cI 2) (aa 2))) (aI .fdiv (aa 2) (cI 9))) (aa 1)))]
def aM:Md:=aq [0,1] [] 5 B_law_draw
abbrev fP:Ev:=(aI .add (cI 4) (aj (drop aM) [(aa 0),(cI 6)]))
abbrev fK:List St:=[(sN 3 (aG (bP [(cI 2),(cI 3),(cI 9),(cI 6),(cI 7),(cI 8),(cI 4)]) (aj (drop aM) [(aa 0),(cI 7)]))),(am okf (.ix (aa 1) (aa 3)) (cK .tuple [(bo 4 (bk [(aG (bP [(cI 2),(cI 2),(cI 1)]) (aj (drop aM) [(aa 0),(cI 3)]))]) (.nm 8) [] fP)]))]
abbrev wE:List St:=[(bG (bk [(aj (drop aM) [(aa 0),(cI 4)])]) (.nm 2) fK),(aF (aa 1))]
def bA:Md:=aq [0,1] [] 7 wE
abbrev kv:Ev:=(bP [(aG (aa 8) (aa 12)),(aa 5),(aa 2),(aa 12)])
abbrev oW:List St:=[(sN 8 (mE (aa 1) (aa 4) (some (bP [(aa 4)])))),(cn (aA .eq (cK .len [(aa 8)]) (cI 1)) [(bt (fE (aa 3) (bP [(aG (aa 8) (cI 0)),(aa 5),(aa 6),(aa 7)])))] [(sN 2 (aI .add (aa 2) (cI 1))),(sN 3 (aI .add (aa 3) (bo 5 (bk [(cK .len [(aa 8)])]) (.nm 12) [] kv)))])]
abbrev AE:List St:=[(sN 3 (bD [])),(bG (bn (aa 0)) (.tp [4,5,6,7]) oW),(aF (bP [(aa 3),(aa 2)]))]
def gz:Md:=aq [0,1,2] [] 11 AE
abbrev kI:List St:=[(cn (Ds [(aA .eq (aG (aG (aa 0) (aa 1)) (cI 2)) (cI 0)),(aA .eq (aG (aG (aa 0) (aa 2)) (cI 0)) (cI 11))]) [(aF (ai (V.bool false)))] []),(cn (aA .eq (aG (aG (aa 0) (aa 2)) (cI 2)) (aG (aG (aa 0) (aa 1)) (cI 2))) [(aF (bE (aA .lt (aG (aG (aa 0) (aa 2)) (cI 3)) (aG (aG (aa 0) (aa 1)) (cI 3)))))] [])]
abbrev ut:List St:=[(bG (bk [(aI .sub (aa 1) (cI 1)),(iE (cI 1)),(iE (cI 1))]) (.nm 2) kI),(aF (ai (V.bool false)))]
def dQ:Md:=aq [0,1] [] 4 ut
abbrev rv:Tv:=(iU [(aA .ge (aa 2) (cI 0)),(Ds [(aA .eq (aG (aG (aa 0) (aa 2)) (cI 0)) (cI 11)),(aV (aj dQ [(aa 0),(aa 2)]))])])
abbrev qY:List St:=[(sN 2 (aI .sub (aa 2) (cI 1)))]
abbrev C7:List St:=[(sN 2 (aI .sub (aa 1) (cI 1))),(gP rv qY),(aF (aa 2))]
def iH:Md:=aq [0,1] [] 4 C7
abbrev CT:Ev:=(aI .add (aI .mul (cI 2) (cK .abs [(cK .int [(aa 43)])])) (cK .int [(bE (aA .lt (aa 43) (cI 0)))]))
abbrev y6:Ev:=(aG (ai (V.str [98,99,109,97,109])) (aj (drop aM) [(aa 1),(cI 5)]))
abbrev Dg:Ev:=(aI .add (aI .add (cI 20) (aI .mul (cI 10) (aa 43))) (aj (drop aM) [(aa 1),(cI 9)]))
abbrev Du:Ev:=(bP [(aj (drop aM) [(aa 1),(cI 90)]),(aj (drop aM) [(aa 1),(cI 90)])])
abbrev Mu:Ev:=(bP [(aa 43),(bP [(aj oR [(aG (aG (aa 5) (aa 43)) (cI 0)),(aG (aG (aa 5) (aa 43)) (cI 1))])])])
abbrev LN:Ev:=(aj iF [(ai (V.str [109,117,108,116,105,112,108,101])),(cI 0),(cI 0),(bD [(aj n5 [(aa 43)])])])
abbrev LP:Ev:=(bP [(aa 43),(cI 1)])
abbrev y4:Ev:=(bP [(aG (bN [((ai (V.str [97])),(cI 1)),((ai (V.str [98])),(cI 2)),((ai (V.str [99])),(cI 3)),((ai (V.str [109])),(cI 11))]) (aa 44)),(aa 43),(cI 0),(cI 0)])
abbrev Go:List St:=[(am okf (.nm (.tp [14,15])) (aj (f7 gz) [(aa 14),(aa 7),(aa 15)]))]
abbrev yT:Ev:=(t9 (aA .eq (aG (aG (aa 14) (aa 43)) (cI 0)) (cI 11)) (cI 0) (aG (aa 4) (aG (aG (aa 14) (aa 43)) (cI 0))))
abbrev oj:List St:=[(am okf (.nm (.tp [17,18])) (bP [(t9 (aA .eq (aG (aG (aa 14) (aa 13)) (cI 0)) (cI 11)) (aj iH [(aa 14),(aa 13)]) (iE (cI 1))),(bP [(cI 0),(cI 0)])])),(cn (aA .ge (aa 17) (cI 0)) [(sN 19 (cK .sum [(bo 4 (bk [(aa 17),(aa 13)]) (.nm 43) [] yT)])),(sN 18 (bP [(aI .sub (aI .sub (aG (aG (aa 5) (aG (aG (aa 14) (aa 17)) (cI 0))) (cI 0)) (cI 4)) (aa 19)),(aI .sub (aG (aG (aa 5) (aG (aG (aa 14) (aa 17)) (cI 0))) (cI 1)) (cI 9))]))] []),(bt (fE (aa 16) (aI .add (bP [(aG (aG (aa 14) (aa 13)) (cI 0)),(aG (aG (aa 14) (aa 13)) (cI 1)),(t9 (aA .eq (aG (aG (aa 14) (aa 13)) (cI 0)) (cI 11)) (cI 0) (aG (aa 4) (aG (aG (aa 14) (aa 13)) (cI 0)))),(cI 0)]) (aa 18))))]
abbrev yr:Ev:=(cK .tuple [(bV (aa 43) none (some (cI 6)))])
abbrev B_law:List St:=[(sN 1 (bD [(bo 4 (bn (bV (aa 0) none (some (cI 60)))) (.nm 43) [] CT),(cI 0)])),(sN 2 (aI .add (ai (V.str [97])) (qZ (ai (V.str [])) (bo 4 (bk [(aG (bP [(cI 1),(cI 3),(cI 2),(cI 2),(cI 0)]) (aj (drop aM) [(aa 1),(cI 5)]))]) (.nm 43) [] y6)))),(sN 3 (bD [(aj (f7 bA) [(aa 1),(bN [((cI 1),(bP [(cI 4),(cI 5),(cI 6)]))])]),(aj (f7 bA) [(aa 1),(bN [((cI 5),(bP [(cI 7),(cI 8)]))])]),(aj (f7 bA) [(aa 1),(bN [])])])),(sN 4 (bo 4 (bk [(cI 12)]) (.nm 43) [] Dg)),(sN 5 (bo 4 (bk [(cI 11)]) (.nm 43) [] Du)),(sN 6 (aj nT [(bN [((cI 11),(bP [(cI 0),(aj oR [(cI 4),(cI 9)])]))]),(cK .dict [(bo 4 (bk [(cI 1),(cI 10)]) (.nm 43) [] Mu)])])),(sN 8 (bo 4 (bn (aa 3)) (.nm 43) [] LN)),(sN 9 (aj oV [(bN [((ai (V.str [68,70,76,84])),(aj pj [(ai (V.str [68,70,76,84])),(aj mc [(iE (cI 1)),(bD [(cI 0)])]),(bN [])]))]),(bD [(aj l8 [(ai (V.str [99,99,109,112])),(bD [(cI 0),(cI 1),(cI 2)])])]),(aa 8)])),(sN 10 (aj oV [(bN [((ai (V.str [68,70,76,84])),(aj pj [(ai (V.str [68,70,76,84])),(aj mc [(iE (cI 1)),(bD [(cI 0)])]),(bN [])]))]),(bD [(aj l8 [(ai (V.str [109,97,114,107])),(bD [(cI 0)])])]),(bD [(aj iF [(ai (V.str [98,97,115,101])),(cI 0),(cI 0),(bD [(aa 6)])])])])),(sN 11 (aj Cy [(aj kq [(cK .dict [(aI .add (bo 2 (bk [(cI 1),(cI 10)]) (.nm 43) [] LP) (bD [(bP [(cI 11),(cI 3)])]))])]),(aj kq [(bN [])]),(bD [])])),(sN 12 (aj DO [(aj pU [(bN [((cI 97),(cI 1)),((cI 98),(cI 2)),((cI 99),(cI 3)),((cI 109),(cI 11))])]),(aj qw [(cI 1000),(cI 800),(aI .sub (cI 0) (cI 200)),(aa 4),(aa 4)]),(aa 11),(aa 9),(aa 10),(bN [])])),(am okf (.nm (.tp [14,15])) (bP [(bo 3 (rA (aa 2)) (.tp [43,44]) [] y4),(cI 0)])),(bG (bn (aa 3)) (.nm 7) Go),(sN 16 (bD [])),(bG (bk [(cK .len [(aa 14)])]) (.nm 13) oj),(aF (bE (aA .eq (bo 3 (bn (ae (aj (f7 i8) [(aa 12),(aa 2)]) 64)) (.nm 43) [] yr) (aa 16))))]
def DT:Md:=aq [0] [] 42 B_law
section
abbrev cB(k:Nat):Option Stmt:=PP.main.body[k]?
abbrev cA(k j:Nat):Option Stmt:=K5 (PP.main.body[k]?) j
abbrev cX(fns:List (Str×Md))(meths:List (Str×List (Addr×Md)))(o:Option Stmt)(F:Md):Prop:=o.bind (Bu ⟨fns,valsT,bisT,meths,fieldNames,okf⟩)=some F
theorem Co:cX [] [] (cA 2 0) lj:=by kernel_rfl
theorem wl:cX [((sS "Info"),nM)] [] (cA 2 1) f9:=by kernel_rfl
theorem Ch:cX [] [] (cA 2 2) je:=by kernel_rfl
theorem w9:cX [] [] (cA 3 0) jm:=by kernel_rfl
theorem mA:cX [] [] (cA 3 5) cN:=by kernel_rfl
theorem Bc:cX [((sS "Buffer"),oZ),((sS "Info"),nM)] [] (cB 4) gq:=by kernel_rfl
theorem zX:cX [] [] (cB 5) fR:=by kernel_rfl
theorem Ju:cX [] [] (cB 8) ky:=by kernel_rfl
theorem Lh:cX [] [] (cB 9) u7:=by kernel_rfl
theorem MW:cX [((sS "merge"),ky)] [((sS "copied"),Bd)] (cB 12) vH:=by kernel_rfl
theorem sR:cX [((sS "group_ends"),fR)] [] (cB 14) dg:=by kernel_rfl
theorem xd:cX [] [] (cA 21 0) jq:=by kernel_rfl
theorem zh:cX [] [] (cA 22 0) hY:=by kernel_rfl
theorem sa:cX [] [] (cB 23) eP:=by kernel_rfl
theorem Aw:cX [] [] (cB 24) cC:=by kernel_rfl
theorem mF:cX [] [] (cA 299 1) cM:=by kernel_rfl
theorem nX:cX [] [((sS "class_of"),vA)] (cA 307 1) bF:=by kernel_rfl
theorem zx:cX [((sS "class_bit"),(drop cC)),((sS "attach_wanted"),eP)] [((sS "glyph_class"),dA)] (cB 25) c9:=by kernel_rfl
theorem HL:cX [((sS "is_ignored"),c9)] [] (cB 26) dT:=by kernel_rfl
theorem KF:cX [((sS "passes"),dT)] [] (cB 27) oa:=by kernel_rfl
theorem Cn:cX [((sS "passes"),dT)] [] (cB 35) iW:=by kernel_rfl
theorem Cf:cX [((sS "neighbour"),iW)] [] (cB 37) ff:=by kernel_rfl
theorem zC:cX [] [] (cB 52) fj:=by kernel_rfl
theorem xc:cX [] [] (cA 57 0) jv:=by kernel_rfl
theorem yV:cX [] [] (cB 59) fB:=by kernel_rfl
theorem rZ:cX [] [] (cA 67 0) gO:=by kernel_rfl
theorem zE:cX [((sS "Lookup"),iF),((sS "Scene"),g9)] [] (cB 68) fw:=by kernel_rfl
theorem yt:cX [] [((sS "glyph_class"),dA)] (cB 69) dX:=by kernel_rfl
theorem sD:cX [((sS "is_mark_at"),dX)] [] (cB 70) de:=by kernel_rfl
theorem yC:cX [((sS "scene_with"),fw),((sS "before_at"),ff),((sS "is_later_part"),de)] [] (cB 71) fO:=by kernel_rfl
theorem Hs:cX [((sS "break_ring"),fj),((sS "difference"),fB),((sS "hang"),u7)] [] (cB 72) lM:=by kernel_rfl
theorem yA:cX [((sS "base_ahead"),fO),((sS "set_on"),lM)] [] (cB 73) fN:=by kernel_rfl
theorem Am:cX [] [] (cB 78) ed:=by kernel_rfl
theorem AI:cX [] [] (cB 79) gL:=by kernel_rfl
theorem sU:cX [] [] (cB 80) cz:=by kernel_rfl
theorem zk:cX [((sS "add_place"),gL),((sS "take_advances"),cz)] [] (cB 81) fq:=by kernel_rfl
theorem HQ:cX [((sS "chain_from"),ed),((sS "settle_one"),fq)] [] (cB 82) lF:=by kernel_rfl
theorem pX:cX [((sS "apply_base"),fN)] [] (cB 112) cR:=by kernel_rfl
theorem v9:cX [((sS "apply_position"),cR)] [] (cB 113) eE:=by kernel_rfl
theorem Aj:cX [] [] (cB 116) fL:=by kernel_rfl
theorem t6:cX [((sS "beginnings"),fL),((sS "Scene"),g9),((sS "passes"),dT),((sS "position_at"),eE)] [] (cB 117) dR:=by kernel_rfl
theorem sB:cX [] [] (cA 133 0) gN:=by kernel_rfl
theorem pR:cX [((sS "put"),vH)] [((sS "next_split"),pq)] (cB 135) cS:=by kernel_rfl
theorem we:cX [((sS "apply_multiple"),cS)] [] (cB 139) em:=by kernel_rfl
theorem sO:cX [((sS "apply_table"),em)] [] (cB 140) dn:=by kernel_rfl
theorem wv:cX [((sS "takes"),oa),((sS "substitute_at"),dn)] [] (cB 141) eo:=by kernel_rfl
theorem n6:cX [((sS "Scene"),g9),((sS "run_forward"),eo)] [] (cB 143) cw:=by kernel_rfl
theorem vj:cX [] [] (cB 147) ft:=by kernel_rfl
theorem qe:cX [((sS "hidden_spans"),ft)] [] (cB 148) eh:=by kernel_rfl
theorem xg:cX [] [] (cB 149) eL:=by kernel_rfl
theorem uV:cX [((sS "is_hidden_code"),eh)] [] (cB 150) dW:=by kernel_rfl
theorem yd:cX [((sS "kind_of_code"),dW)] [] (cB 151) fF:=by kernel_rfl
theorem qG:cX [((sS "is_selector"),eL),((sS "merge"),ky)] [] (cB 153) cU:=by kernel_rfl
theorem zw:cX [] [] (cB 154) cG:=by kernel_rfl
theorem Ls:cX [((sS "is_to_hide"),cG),((sS "put"),vH)] [] (cB 156) vt:=by kernel_rfl
theorem n7:cX [] [] (cB 175) bZ:=by kernel_rfl
theorem tL:cX [] [] (cA 183 0) io:=by kernel_rfl
theorem Fp:cX [] [] (cB 184) ig:=by kernel_rfl
theorem lg:cX [] [] (cB 191) ce:=by kernel_rfl
theorem wB:cX [] [] (cB 224) gh:=by kernel_rfl
theorem wy:cX [((sS "second_tags"),gh)] [] (cB 225) gf:=by kernel_rfl
theorem sC:cX [] [] (cB 226) eR:=by kernel_rfl
theorem qr:cX [] [] (cB 227) d0:=by kernel_rfl
theorem yu:cX [] [] (cB 228) ee:=by kernel_rfl
theorem nG:cX [((sS "feature_at"),ee)] [] (cB 229) bY:=by kernel_rfl
theorem ot:cX [((sS "feature_at"),ee)] [] (cB 230) cf:=by kernel_rfl
theorem vQ:cX [] [] (cB 231) eA:=by kernel_rfl
theorem IY:cX [((sS "required_feature"),bY),((sS "add_lookups"),eA),((sS "feature_indexes"),cf)] [] (cB 232) oU:=by kernel_rfl
theorem BW:cX [] [] (cA 240 0) lw:=by kernel_rfl
theorem Bx:cX [] [] (cA 242 0) lp:=by kernel_rfl
theorem uS:cX [] [] (cA 242 1) iA:=by kernel_rfl
theorem wC:cX [((sS "Want"),nH),((sS "is_joined_script"),bZ)] [] (cB 243) gm:=by kernel_rfl
theorem AU:cX [((sS "first_wants"),gm),((sS "Want"),nH)] [] (cB 244) i3:=by kernel_rfl
theorem zd:cX [] [((sS "has_own"),mf)] (cB 245) hZ:=by kernel_rfl
theorem FT:cX [] [] (cB 246) mn:=by kernel_rfl
theorem wM:cX [((sS "choose_langsys"),d0),((sS "choose_script"),eR),((sS "script_tags"),gf)] [] (cB 248) ei:=by kernel_rfl
theorem vZ:cX [((sS "feature_indexes"),cf)] [] (cB 249) dw:=by kernel_rfl
theorem CJ:cX [((sS "mask_at"),mn),((sS "gather"),oU)] [] (cB 250) ii:=by kernel_rfl
theorem zH:cX [((sS "is_joined_script"),bZ)] [] (cB 251) g5:=by kernel_rfl
theorem qF:cX [((sS "required_feature"),bY)] [] (cB 252) d9:=by kernel_rfl
theorem B8:cX [((sS "all_wants"),i3),((sS "language_of"),ei),((sS "has_feature"),dw),((sS "shared_out"),hZ),((sS "stage_tags"),g5),((sS "required_stage"),d9),((sS "gathered"),ii),((sS "Plan"),Dl)] [] (cB 253) dM:=by kernel_rfl
theorem BS:cX [] [] (cB 254) gv:=by kernel_rfl
theorem wA:cX [] [] (cA 282 0) jp:=by kernel_rfl
theorem uq:cX [((sS "mark_kinds"),fF),((sS "take_selectors"),cU)] [] (cB 283) dK:=by kernel_rfl
theorem sZ:cX [] [] (cB 284) db:=by kernel_rfl
theorem sJ:cX [] [] (cA 297 1) dq:=by kernel_rfl
theorem zF:cX [] [((sS "glyph"),tq)] (cB 285) fM:=by kernel_rfl
theorem zu:cX [((sS "run_substitution"),cw)] [] (cB 286) fH:=by kernel_rfl
theorem uT:cX [((sS "advance"),ig)] [((sS "glyph_class"),dA)] (cB 287) dP:=by kernel_rfl
theorem qS:cX [((sS "is_to_hide"),cG)] [] (cB 288) cP:=by kernel_rfl
theorem uL:cX [((sS "run_position"),dR),((sS "flatten_hidden"),cP),((sS "settle"),lF)] [] (cB 289) dN:=by kernel_rfl
theorem wX:cX [] [((sS "told"),G3)] (cB 290) eD:=by kernel_rfl
theorem Dw:cX [((sS "buffer_of"),gq),((sS "read_letters"),dK),((sS "shape_letters"),db),((sS "set_masks"),gv),((sS "map_glyphs"),fM),((sS "substitute"),fH),((sS "set_advances"),dP),((sS "place_glyphs"),dN),((sS "hide"),vt),((sS "spread_unsafe"),dg),((sS "Shaped"),oo),((sS "shaped_rows"),eD)] [((sS "glyph"),tq)] (cB 291) fW:=by kernel_rfl
theorem wg:cX [((sS "is_backward_script"),ce),((sS "make_plan"),(f7 dM)),((sS "shape_by"),(f7 fW))] [] (cB 292) el:=by kernel_rfl
theorem Ku:cX [((sS "shape_codes"),el)] [] (cB 293) i8:=by kernel_rfl
theorem uG:cX [] [] (cA 297 0) iO:=by kernel_rfl
theorem sq:cX [] [] (cA 299 0) gQ:=by kernel_rfl
theorem BI:cX [] [] (cA 301 0) lm:=by kernel_rfl
theorem AV:cX [] [] (cA 307 0) ly:=by kernel_rfl
theorem uA:cX [] [] (cA 309 0) iJ:=by kernel_rfl
theorem wK:cX [] [] (cA 310 0) jl:=by kernel_rfl
theorem uj:cX [] [] (cA 311 0) iL:=by kernel_rfl
theorem wu:cX [] [] (cA 312 0) ju:=by kernel_rfl
theorem DF:cX [] [] (cB 314) aM:=by kernel_rfl
theorem wc:cX [((sS "_law_draw"),(drop aM))] [] (cB 315) bA:=by kernel_rfl
theorem BJ:cX [] [] (cB 316) gz:=by kernel_rfl
theorem tA:cX [] [] (cB 317) dQ:=by kernel_rfl
theorem Dz:cX [((sS "_law_is_later"),dQ)] [] (cB 318) iH:=by kernel_rfl
theorem NZ:cX [((sS "_law_draw"),(drop aM)),((sS "_law_mapping"),(f7 bA)),((sS "MarkBase"),nT),((sS "Anchor"),oR),((sS "Lookup"),iF),((sS "Multiple"),n5),((sS "Layout"),oV),((sS "Script"),pj),((sS "LangSys"),mc),((sS "Feature"),l8),((sS "Gdef"),Cy),((sS "ClassDef"),kq),((sS "Font"),DO),((sS "CharMap"),pU),((sS "Metrics"),qw),((sS "_law_split"),(f7 gz)),((sS "_law_base"),iH),((sS "shape"),(f7 i8))] [] (cB 319) DT:=by kernel_rfl
end
end
section
open PySem PySem.W PySem.Calls PyProof.Rows
noncomputable abbrev sH(s:Shared)(h:Heap)(t:Nat):Shared:={s with heap:=h,toks:=t}
structure Wd where
 σ:List (List (Addr×Option Addr))
 tups:List (Addr×List Value)
noncomputable def Wd.at(W:Wd)(r i:Nat):Option (Addr×Option Addr):=match W.σ[r]? with|some R=>R[i]?|none=>none
noncomputable def Wd.adrs(W:Wd):List Addr:=W.σ.flatten.flatMap fun p=>p.1::p.2.toList
structure Wd.le(W W':Wd):Prop where
 at_:∀r i p,W.at r i=some p→W'.at r i=some p
 tup:∀p,p∈W.tups→p∈W'.tups
theorem Wd.le.refl(W:Wd):W.le W:=⟨fun _ _ _ h=>h,fun _ h=>h⟩
theorem Wd.le.trans{A B C:Wd}(x:A.le B)(y:B.le C):A.le C:=⟨fun r i p h=>y.at_ r i p (x.at_ r i p h),fun p h=>y.tup p (x.tup p h)⟩
mutual
inductive VR(K:Frag)(W:Wd):V→Value→Prop
 |none:VR K W .none .none
 |bool (b):VR K W (.bool b) (.bool b)
 |int (i t):VR K W (.int i) (.int i t)
 |str (s t):VR K W (.str s) (.str ⟨s.toArray⟩ t)
 |ref (r i x dx):W.at r i=some (x,dx)→VR K W (.ref r i) (.ref x)
 |tup (l a vs):(a,vs)∈W.tups→VRs K W l vs→VR K W (.tup l) (.ref a)
 |ktup (l a vs dd n sl):K.lookup a=some ⟨.type "tuple",dd,.seq vs n,sl⟩→VRs K W l vs.toList→VR K W (.tup l) (.ref a)
 |kl (l a vs n):K.lookup a=some ⟨.type "list",.none,.seq (List.toArray vs) n,#[]⟩→l.length≤9000→VRs K W l vs→VR K W (.kl l) (.ref a)
inductive VRs(K:Frag)(W:Wd):List V→List Value→Prop
 |nil:VRs K W [] []
 |cons (v w l m):VR K W v w→VRs K W l m→VRs K W (v::l) (w::m)
end
section
variable{K:Frag}{W W':Wd}{w:Value}{us:List Value}{G:Prop}
theorem Rx{motive:∀w,VR K W .none w→Prop}(m:motive .none .none){w:Value}(h:VR K W .none w):motive w h:=by cases(h);exact m
theorem Rr{b:Bool}{motive:∀w,VR K W (.bool b) w→Prop}(m:motive (.bool b) (.bool b)){w:Value}(h:VR K W (.bool b) w):motive w h:=by cases(h);exact m
theorem Rs{i:Int}{motive:∀w,VR K W (.int i) w→Prop}(m:∀t,motive (.int i t) (.int i t)){w:Value}(h:VR K W (.int i) w):motive w h:=by cases(h);exact m _
theorem RB{l:List Nat}{motive:∀w,VR K W (.str l) w→Prop}(m:∀t,motive (.str ⟨l.toArray⟩ t) (.str l t)){w:Value}(h:VR K W (.str l) w):motive w h:=by cases(h);exact m _
theorem jR{r i:Nat}{motive:∀w,VR K W (.ref r i) w→Prop}(m:∀x dx e,motive (.ref x) (.ref r i x dx e)){w:Value}(h:VR K W (.ref r i) w):motive w h:=by cases(h);exact m _ _ ‹_›
theorem QF{motive:∀w,VRs K W [] w→Prop}(m:motive [] .nil){w:List Value}(h:VRs K W [] w):motive w h:=by cases(h);exact m
theorem QN{v:V}{l:List V}{motive:∀w,VRs K W (v::l) w→Prop}(m:∀u us a b,motive (u::us) (.cons v u l us a b)){w:List Value}(h:VRs K W (v::l) w):motive w h:=by cases(h);exact m _ _ ‹_› ‹_›
theorem VRs.inv{v:V}{l:List V}(h:VRs K W (v::l) us):∃w m,us=w::m∧VR K W v w∧VRs K W l m:=by cases(h);exact⟨_,_,rfl,‹_›,‹_›⟩
theorem VRs.invR{l:List V}{m:List Value}(h:VRs K W l (w::m)):∃v n,l=v::n∧VR K W v w∧VRs K W n m:=by cases(h);exact⟨_,_,rfl,‹_›,‹_›⟩
theorem VRs.inv2{v:V}{l:List V}{m:List Value}(h:VRs K W (v::l) (w::m)):VR K W v w∧VRs K W l m:=by cases(h);exact⟨‹_›,‹_›⟩
end
section
variable{K:Frag}{W W':Wd}
theorem VR.mono(h:W.le W'){v:V}{w:Value}(x:VR K W v w):VR K W' v w:=
 VR.rec (motive_1:=fun v w _=>VR K W' v w) (motive_2:=fun l m _=>VRs K W' l m) .none .bool .int .str (fun r i x dx e=>.ref r i x dx (h.at_ _ _ _ e)) (fun l a vs e _ q=>.tup l a vs (h.tup _ e) q) (fun l a vs dd n sl e _ q=>.ktup l a vs dd n sl e q) (fun l a vs n e g _ q=>.kl l a vs n e g q) .nil (fun v w l m _ _ p q=>.cons v w l m p q) x
theorem VRs.mono(h:W.le W'){l:List V}{m:List Value}(x:VRs K W l m):VRs K W' l m:=
 VRs.rec (motive_1:=fun v w _=>VR K W' v w) (motive_2:=fun l m _=>VRs K W' l m) .none .bool .int .str (fun r i x dx e=>.ref r i x dx (h.at_ _ _ _ e)) (fun l a vs e _ q=>.tup l a vs (h.tup _ e) q) (fun l a vs dd n sl e _ q=>.ktup l a vs dd n sl e q) (fun l a vs n e g _ q=>.kl l a vs n e g q) .nil (fun v w l m _ _ p q=>.cons v w l m p q) x
theorem VRs.length{l:List V}{m:List Value}(x:VRs K W l m):l.length=m.length:=by
 induction l generalizing m with
 |nil=>induction x using QF;rfl
 |cons v l ih=>induction x using QN;rename_i w m _ b;simp[ih b]
theorem VRs.get{l:List V}{m:List Value}(x:VRs K W l m){i:Nat}{v:V}(h:l[i]?=some v):∃w,m[i]?=some w∧VR K W v w:=by
 induction l generalizing m i with
 |nil=>exact Rk h
 |cons a l ih=>cases x with
  |cons _ w _ m p b=>
   induction i with
   |zero=>simp only[List.getElem?_cons_zero,Option.some.injEq]at h;subst h;exact⟨w,rfl,p⟩
   |succ i=>exact ih b h
theorem VRs.append{l l':List V}{m m':List Value}(x:VRs K W l m)(y:VRs K W l' m'):VRs K W (l++l') (m++m'):=by
 induction l generalizing m with
 |nil=>induction x using QF;exact y
 |cons a l ih=>induction x using QN;rename_i w m p b;exact .cons _ _ _ _ p (ih b)
theorem VRs.take{l:List V}{m:List Value}(x:VRs K W l m)(n:Nat):VRs K W (l.take n) (m.take n):=by
 induction n generalizing l m with
 |zero=>simp only[List.take_zero];exact .nil
 |succ n ih=>cases x with
  |nil=>exact .nil
  |cons v w l m a b=>exact .cons _ _ _ _ a (ih b)
theorem VRs.drop{l:List V}{m:List Value}(x:VRs K W l m)(n:Nat):VRs K W (l.drop n) (m.drop n):=by
 induction n generalizing l m with
 |zero=>exact x
 |succ n ih=>cases x with
  |nil=>exact .nil
  |cons v w l m a b=>exact ih b
theorem VRs.set{l:List V}{m:List Value}(x:VRs K W l m)(n:Nat){v:V}{w:Value}(h:VR K W v w):VRs K W (l.set n v) (m.set n w):=by
 induction n generalizing l m with
 |zero=>cases x with
  |nil=>exact .nil
  |cons v w l m a b=>exact .cons _ _ _ _ h b
 |succ n ih=>cases x with
  |nil=>exact .nil
  |cons v w l m a b=>exact .cons _ _ _ _ a (ih b)
theorem VRs.one{v:V}{w:Value}(h:VR K W v w):VRs K W [v] [w]:=.cons _ _ _ _ h .nil
end
section
variable(w:World)(K:Frag)(names:List Str)
def fieldEnt(W:Wd):List (Nat×V)→List DictEntry→Prop
 |[],[]=>True
 |(f,v)::l,e::es=>(∃n,names[f]?=some n∧(∃t,e.key=.str n t)∧VR K W v e.val)∧fieldEnt W l es
 |_,_=>False
def ObjR(okf:Addr→Nat→Bool)(W:Wd)(h:Heap)(x:Addr)(dx:Option Addr):O→Prop
 |.list l=>dx=none∧l.length≤9000∧∃(vs:List Value) (n:Nat),IsL h x vs.toArray n∧VRs K W l vs
 |.dict l=>dx=none∧l.length≤900∧((∃kvs:List (Int×Value),h.DictOf (intKind PP w) x kvs∧l.map (·.1)=kvs.map (fun p=>V.int p.1)∧VRs K W (l.map (·.2)) (kvs.map (·.2)))∨
   ∃kvs:List (Str×Value),h.DictOf (strKind PP w) x kvs∧l.map (·.1)=kvs.map (fun p=>V.str p.1.cps.toList)∧VRs K W (l.map (·.2)) (kvs.map (·.2)))
 |.inst C l=>l.length≤100∧(∀p∈l,okf C p.1=true)∧∃d es n,dx=some d∧h.get? x=some (instObj C d)∧h.get? d=some (dictOf es n)∧fieldEnt K names W l es
end
section
variable{w:World}{K:Frag}{names:List Str}{W W':Wd}{okf:Addr→Nat→Bool}
theorem fieldEnt.mono(h:W.le W'):∀{l:List (Nat×V)} {es:List DictEntry},fieldEnt K names W l es→fieldEnt K names W' l es:=by
 intro l;induction l with
 |nil=>intro es x;induction es using jL with|nil=>trivial|cons=>cases x
 |cons p l ih=>
  intro es x;obtain⟨f,v⟩:=p;induction es using jL with
  |nil=>cases x
  |cons e es=>
   obtain⟨⟨n,a,b,c⟩,d⟩:=x;exact⟨⟨n,a,b,c.mono h⟩,ih d⟩
theorem rV{KK:Type}[DecidableEq KK]{knd:KeyKind PP w KK}{h h':Heap}{a:Addr}{kvs:List (KK×Value)}(x:h.DictOf knd a kvs)(e:h'.get? a=h.get? a):h'.DictOf knd a kvs:=by
 obtain⟨o,es,ep,ho,r⟩:=x;exact⟨o,es,ep,e.trans ho,r⟩
theorem ObjR.mono(h:W.le W'){hp:Heap}{x:Addr}{dx:Option Addr}{o:O}(X:ObjR w K names okf W hp x dx o):ObjR w K names okf W' hp x dx o:=by
 induction o with
 |list l=>obtain⟨a,b,vs,n,c,d⟩:=X;exact⟨a,b,vs,n,c,d.mono h⟩
 |dict l=>
  obtain⟨a,b,⟨kvs,c,d,e⟩|⟨kvs,c,d,e⟩⟩:=X
  ·exact⟨a,b,.inl ⟨kvs,c,d,e.mono h⟩⟩
  ·exact⟨a,b,.inr ⟨kvs,c,d,e.mono h⟩⟩
 |inst C l=>obtain⟨a,b,d,es,n,e1,e2,e3,e4⟩:=X;exact⟨a,b,d,es,n,e1,e2,e3,e4.mono h⟩
theorem ObjR.same{hp hp':Heap}{x:Addr}{dx:Option Addr}{o:O}(X:ObjR w K names okf W hp x dx o)(e:hp'.get? x=hp.get? x)(e':∀d,dx=some d→hp'.get? d=hp.get? d):ObjR w K names okf W hp' x dx o:=by
 induction o with
 |list l=>obtain⟨a,b,vs,n,c,d⟩:=X;exact⟨a,b,vs,n,e.trans c,d⟩
 |dict l=>
  obtain⟨a,b,⟨kvs,c,d,f⟩|⟨kvs,c,d,f⟩⟩:=X
  ·exact⟨a,b,.inl ⟨kvs,rV c e,d,f⟩⟩
  ·exact⟨a,b,.inr ⟨kvs,rV c e,d,f⟩⟩
 |inst C l=>obtain⟨a,b,d,es,n,e1,e2,e3,e4⟩:=X;exact⟨a,b,d,es,n,e1,e.trans e2,(e' d e1).trans e3,e4⟩
theorem ObjR.some{hp:Heap}{x:Addr}{dx:Option Addr}{o:O}(X:ObjR w K names okf W hp x dx o):(∃q,hp.get? x=some q)∧∀d,dx=some d→∃q,hp.get? d=some q:=by
 induction o with
 |list l=>obtain⟨a,b,vs,n,c,d⟩:=X;exact⟨⟨_,c⟩,fun d e=>by rw[a]at e;exact Rk e⟩
 |dict l=>
  obtain⟨a,b,⟨kvs,⟨q,_,_,c,_⟩,d,f⟩|⟨kvs,⟨q,_,_,c,_⟩,d,f⟩⟩:=X<;>exact⟨⟨q,c⟩,fun d e=>by rw[a]at e;exact Rk e⟩
 |inst C l=>obtain⟨a,b,d,es,n,e1,e2,e3,e4⟩:=X;exact⟨⟨_,e2⟩,fun d' e=>by rw[e1]at e;induction e using QT;exact⟨_,e3⟩⟩
def notTuple(o:Obj):Prop:=¬(o.cls=.type "tuple"∧∃(a:Array Value) (n:Nat),o.data=.seq a n)
theorem ObjR.notTuple{hp:Heap}{x:Addr}{dx:Option Addr}{o:O}(X:ObjR w K names okf W hp x dx o):(∀q,hp.get? x=.some q→Mine.Tactic.notTuple q)∧∀d,dx=.some d→∀q,hp.get? d=.some q→Mine.Tactic.notTuple q:=by
 induction o with
 |list l=>
  obtain⟨a,b,vs,n,c,d⟩:=X;refine⟨fun q' e=>?_,fun d e=>by rw[a]at e;exact Rk e⟩;rw[c]at e;induction e using QT;exact fun h=>by simp at h
 |dict l=>
  obtain⟨a,b,⟨kvs,⟨q,_,_,c,c',_⟩,d,f⟩|⟨kvs,⟨q,_,_,c,c',_⟩,d,f⟩⟩:=X <;>
   exact⟨fun q' e=>by rw[c]at e;induction e using QT;exact fun h=>by rw[c'.1]at h;exact absurd h.1 (by decide),fun d e=>by rw[a]at e;exact Rk e⟩
 |inst C l=>
  obtain⟨a,b,d,es,n,e1,e2,e3,e4⟩:=X;refine⟨fun q e=>?_,fun d' e=>?_⟩
  ·rw[e2]at e;induction e using QT;exact fun h=>by cases h.1
  ·rw[e1]at e;induction e using QT;intro q e;rw[e3]at e;induction e using QT;exact fun h=>by simp at h
end
set_option tactic.hygienic false
variable{pos p apos np:Pos}{v y:V}{n r i k j q RD:Nat}{u u':Value}{A:Around}{H H':Hp}{e t tgt iter ve se elt:Expr}{x:Str}{K:Frag}{ρ ρ':bJ}{es ifs:List Expr}{env:Env}{a S D C I:Addr}{l xs l' ds:List V}{vs us:List Value}{Ea Eb Eo Ee:Ev}{b:Bool}{o o':O}{h' h:Heap}{f:Expr→Ev}{names:List Str}{scope:Scope}{w:World}{sc:Sc}{M:Model}{prog:Program}{tn:Tn}{dx:Option Addr}{m m':Str→Option Value}{it:It}{T:Tg}{RC cells:List (Addr×Obj)}{items:Array Value}{B:List St}{F:Md}{R:List O}{okf:Addr→Nat→Bool}{is:List Nat}{body:List Stmt}
structure Fx where
 A₀:Around
 A:Around
 base:Heap
 outer:List Env
 fenv:Env
 env:Env
 h₀:Heap
 L:Addr
 frn:List (Addr×Obj)
def Wd.has(W:Wd)(r i:Nat)(a:Addr):Prop:=∃x dx,W.at r i=some (x,dx)∧(a=x∨dx=some a)
noncomputable def Wd.new(W:Wd)(r:Nat)(x:Addr)(dx:Option Addr):Wd:=match W.σ[r]? with
 |some R=>{W with σ:=W.σ.set r (R++[(x,dx)])}
 |none=>W
noncomputable def Wd.tup(W:Wd)(a:Addr)(vs:List Value):Wd:={W with tups:=(a,vs)::W.tups}
theorem Wd.le_tup(W:Wd)(a:Addr)(vs:List Value):W.le (W.tup a vs):=⟨fun _ _ _ h=>h,fun _ h=>.tail _ h⟩
theorem Wd.at_new{W:Wd}{x:Addr}{R:List (Addr×Option Addr)}(hR:W.σ[r]?=some R)(r' i:Nat):(W.new r x dx).at r' i=if r'=r∧i=R.length then some (x,dx)else W.at r' i:=by
 have hlt:r<W.σ.length:=(Ok.mp hR).1;unfold Wd.at Wd.new;rw[hR];dsimp only;rw[List.getElem?_set];by_cases h:r=r'
 ·subst h;rw[ac rfl,ac hlt,hR];dsimp only;rw[List.getElem?_append];by_cases hi:i<R.length
  ·rw[ac hi,af (fun h=>absurd h.2 (bf ‹_›))]
  ·rw[af hi];by_cases h2:i=R.length
   ·subst h2;simp
   ·rw[af (fun h=>absurd h.2 ‹_›)];have h3:R[i]?=none:=by rw[gB];exact Nat.le_of_not_lt ‹_›
    rw[h3,gB];simp;omega
 ·rw[af h,af (fun h=>absurd h.1.symm ‹_›)]
theorem Wd.le_new{W:Wd}{x:Addr}:W.le (W.new r x dx):=by
 induction hR:W.σ[r]? with
 |none=>unfold Wd.new;rw[hR];exact .refl W
 |some R=>
  refine⟨fun r' i p h=>?_,fun p h=>by unfold Wd.new;rw[hR];exact h⟩;rw[Wd.at_new hR];by_cases c:r'=r∧i=R.length
  ·obtain⟨rfl,rfl⟩:=c;unfold Wd.at at h;rw[hR]at h;simp at h
  ·rw[af c];exact h
theorem Hp.get_set{R':List O}(hR:H[r]?=some R)(r' i:Nat):Hp.get (H.set r R') r' i=if r'=r then R'[i]? else Hp.get H r' i:=by
 have hlt:r<H.length:=(Ok.mp hR).1;unfold Hp.get;rw[List.getElem?_set];by_cases h:r=r'
 ·subst h;rw[ac rfl,ac hlt,ac rfl]
 ·rw[af h,af (fun e=>h e.symm)]
theorem Hp.get_new(h:H.new r o=some (v,H')):∃R,H[r]?=some R∧v=.ref r R.length∧H'=H.set r (R++[o])∧O.fits o=true∧∀r' i,H'.get r' i=if r'=r∧i=R.length then some o else H.get r' i:=by
 unfold Hp.new at h;induction hR:H[r]? with
 |none=>rw[hR]at h;exact Rk h
 |some R=>
  rw[hR]at h;dsimp only at h;by_cases hf:O.fits o=true
  ·rw[ac hf]at h;induction h using QM;refine⟨R,rfl,rfl,rfl,hf,fun r' i=>?_⟩;rw[Hp.get_set hR];by_cases hr:r'=r
   ·subst hr;rw[ac rfl,List.getElem?_append];by_cases hi:i<R.length
    ·rw[ac hi,af (fun h=>absurd h.2 (bf ‹_›))];unfold Hp.get;rw[hR]
    ·rw[af hi];by_cases h2:i=R.length
     ·subst h2;simp
     ·rw[af (fun h=>absurd h.2 ‹_›)];have h3:R[i]?=none:=by rw[gB];exact Nat.le_of_not_lt ‹_›
      unfold Hp.get;rw[hR];dsimp only;rw[h3,gB];simp;omega
   ·rw[af hr,af (fun h=>absurd h.1 ‹_›)]
  ·rw[af hf]at h;exact Rk h
theorem Hp.get_put(h:H.get r i=some o)(r' i':Nat):(H.put r i o').get r' i'=if r'=r∧i'=i then some o' else H.get r' i':=by
 unfold Hp.get at h;induction hR:H[r]? with
 |none=>rw[hR]at h;exact Rk h
 |some R=>
  rw[hR]at h;dsimp only at h;unfold Hp.put;rw[hR];dsimp only;rw[Hp.get_set hR];by_cases hr:r'=r
  ·subst hr;rw[ac rfl,List.getElem?_set];by_cases hi:i=i'
   ·subst hi;rw[ac rfl,ac (Ok.mp h).1,ac ⟨rfl,rfl⟩]
   ·rw[af hi,af (fun h=>absurd h.2.symm ‹_›)];unfold Hp.get;rw[hR]
  ·rw[af hr,af (fun h=>absurd h.1 ‹_›)]
theorem Hp.shape_put:(H.put r i o').map List.length=H.map List.length:=by
 unfold Hp.put;induction hR:H[r]? with
 |none=>rfl
 |some R=>
  dsimp only;apply ch;intro j;simp only[aB,List.getElem?_set];by_cases h:r=j
  ·subst h;rw[ac rfl,ac (Ok.mp hR).1,hR];simp
  ·rw[af h]
section
variable(w:World)(K:Frag)(names:List Str)(okf:Addr→Nat→Bool)
structure CR(fx:Fx)(m:Str→Option Value)(RC:List (Addr×Obj))(W:Wd)(H:Hp)(h:Heap):Prop where
 fr:Fr fx.h₀ fx.L h m
 shape:W.σ.map List.length=H.map List.length
 obj:∀r i o,H.get r i=some o→∃x dx,W.at r i=some (x,dx)∧ObjR w K names okf W h x dx o
 tup:∀q∈W.tups,(∃n,IsT h q.1 q.2.toArray n)∧fx.h₀.get? q.1=none∧q.1≠fx.L
 keep:∀q∈fx.frn++RC,h.get? q.1=some q.2∧fx.h₀.get? q.1=none∧q.1≠fx.L
 inj:∀r i r' i' a,W.has r i a→W.has r' i' a→r=r'∧i=i'
 ap:∀r i a,W.has r i a→fx.h₀.get? a=none∧a≠fx.L∧∀q∈fx.frn++RC,q.1≠a
 axd:(RC.map (·.1)).Nodup∧∀q∈RC,∀p∈fx.frn,q.1≠p.1
 axk:∀q∈RC,notTuple q.2
end
section
variable{w:World}{K:Frag}{names:List Str}{okf:Addr→Nat→Bool}{fx:Fx}{W:Wd}
theorem DK{W:Wd}(hs:W.σ.map List.length=H.map List.length){p:Addr×Option Addr}(h:W.at r i=some p):∃o,H.get r i=some o:=by
 unfold Wd.at at h;induction hR:W.σ[r]? with
 |none=>rw[hR]at h;exact Rk h
 |some R=>
  rw[hR]at h;dsimp only at h;have e:(W.σ.map List.length)[r]?=(H.map List.length)[r]?:=by rw[hs]
  rw[aB,aB,hR]at e;induction hQ:H[r]? with
  |none=>rw[hQ]at e;cases e
  |some R'=>
   rw[hQ]at e;simp only[Option.map_some,Option.some.injEq]at e;have hi:=(Ok.mp h).1;unfold Hp.get;rw[hQ];dsimp only;exact⟨R'[i]'(Nat.lt_of_lt_of_eq ‹_› ‹_›),by rw[ay]⟩
theorem xu{W:Wd}(hs:W.σ.map List.length=H.map List.length)(h:H[r]?=some R):∃R',W.σ[r]?=some R'∧R'.length=R.length:=by
 have e:(W.σ.map List.length)[r]?=(H.map List.length)[r]?:=by rw[hs]
 rw[aB,aB,h]at e;induction hQ:W.σ[r]? with
 |none=>rw[hQ]at e;exact Rk e
 |some R'=>rw[hQ]at e;simp only[Option.map_some,Option.some.injEq]at e;exact⟨R',rfl,e⟩
theorem CR.has_some(C:CR w K names okf fx m RC W H h)(x:W.has r i a):∃o,h.get? a=some o∧notTuple o:=by
 obtain⟨y,dy,e,hy⟩:=x;obtain⟨o,ho⟩:=DK C.shape e;obtain⟨y',dy',e',O⟩:=C.obj r i o ho;rw[e]at e';induction e' using QM;rcases hy with rfl|hy
 ·obtain⟨q,hq⟩:=O.some.1;exact⟨q,hq,O.notTuple.1 q hq⟩
 ·obtain⟨q,hq⟩:=O.some.2 _ hy;exact⟨q,hq,O.notTuple.2 _ hy q hq⟩
theorem CR.tup_ne(C:CR w K names okf fx m RC W H h)(x:W.has r i a):∀q∈W.tups,q.1≠a:=by
 intro q hq e;obtain⟨n,h1⟩:=(C.tup q hq).1;obtain⟨o',h3,h4⟩:=C.has_some x;rw[←e,h1]at h3;induction h3 using QT;exact h4 ⟨rfl,_,_,rfl⟩
theorem CR.ext(C:CR w K names okf fx m RC W H h)(e:∀b o,h.get? b=some o→h'.get? b=some o):CR w K names okf fx m RC W H h':=by
 refine⟨C.fr.keeps e,C.shape,fun r i o ho=>?_,fun q hq=>?_,fun q hq=>?_,C.inj,C.ap,C.axd,C.axk⟩
 ·obtain⟨x,dx,a,b⟩:=C.obj r i o ho;obtain⟨⟨q,hq⟩,hd⟩:=b.some;refine⟨x,dx,a,b.same ((e _ _ hq).trans hq.symm) fun d hdx=>?_⟩;obtain⟨q',hq'⟩:=hd d hdx;exact(e _ _ hq').trans hq'.symm
 ·obtain⟨⟨n,a⟩,c⟩:=C.tup q hq;exact⟨⟨n,e _ _ a⟩,c⟩
 ·exact⟨e _ _ (C.keep q hq).1,(C.keep q hq).2⟩
theorem CR.push(C:CR w K names okf fx m RC W H h)(o:Obj):CR w K names okf fx m RC W H (h.push o):=C.ext fun _ _ e=>bu o e
theorem CR.fresh(C:CR w K names okf fx m RC W H h):fx.h₀.get? h.objs.size=none∧h.objs.size≠fx.L:=by
 refine⟨?_,fun e=>?_⟩
 ·induction q:fx.h₀.get? h.objs.size with
  |none=>rfl
  |some o=>exact absurd (aZ (C.fr.keep _ _ q)) (Nat.lt_irrefl _)
 ·exact absurd C.fr.ns.lt (by rw[←e];exact Nat.lt_irrefl _)
theorem CR.newTup(C:CR w K names okf fx m RC W H h):CR w K names okf fx m RC (W.tup h.objs.size vs) H (h.push {cls:=.type "tuple",data:=.seq vs.toArray}):=by
 have C':=C.push {cls:=.type "tuple",data:=.seq vs.toArray};refine⟨C'.fr,C'.shape,fun r i o ho=>?_,fun q hq=>?_,C'.keep,C'.inj,C'.ap,C'.axd,C'.axk⟩
 ·obtain⟨x,dx,a,b⟩:=C'.obj r i o ho;exact⟨x,dx,a,b.mono (W.le_tup _ _)⟩
 ·rcases uB.mp hq with rfl|hq
  ·exact⟨⟨0,cq _ rfl⟩,C.fresh⟩
  ·exact C'.tup q hq
theorem CR.new(C:CR w K names okf fx m RC W H h)(hn:H.new r o=some (v,H')){x:Addr} (e:∀b q,h.get? b=some q→h'.get? b=some q) (fr:∀a,a=x∨dx=some a→h.get? a=none) (lt:∀a,a=x∨dx=some a→fx.h₀.get? a=none∧a≠fx.L) (hO:ObjR w K names okf (W.new r x dx) h' x dx o) :∃i,v=.ref r i∧(W.new r x dx).at r i=some (x,dx)∧CR w K names okf fx m RC (W.new r x dx) H' h':=by
 obtain⟨R,hR,rfl,hH,hf,hg⟩:=Hp.get_new hn;obtain⟨R',hR',hl⟩:=xu C.shape hR;have C':=C.ext e;have hold:∀r' i p,W.at r' i=some p→¬(r'=r∧i=R'.length):=by
  intro r' i p h1 zq;obtain⟨rfl,rfl⟩:=zq;unfold Wd.at at h1;rw[hR']at h1;simp at h1
 refine⟨R.length,rfl,by rw[Wd.at_new hR',ac ⟨rfl,hl.symm⟩],C'.fr,?_,?_,?_,C'.keep,?_,?_,C'.axd,C'.axk⟩
 ·rw[hH];unfold Wd.new;rw[hR'];dsimp only;apply ch;intro j;have ej:(W.σ.map List.length)[j]?=(H.map List.length)[j]?:=by rw[C.shape]
  simp only[aB]at ej;simp only[aB,List.getElem?_set];have l1:=(Ok.mp hR').1;have l2:=(Ok.mp hR).1;by_cases hj:r=j
  ·subst hj;rw[ac rfl,ac l1,ac rfl,ac l2];simp[hl]
  ·rw[af hj,af hj,ej]
 ·intro r' i o' ho';rw[hg]at ho';by_cases c:r'=r∧i=R.length
  ·rw[ac c]at ho';induction ho' using QT;exact⟨x,dx,by rw[Wd.at_new hR',ac ⟨c.1,c.2.trans hl.symm⟩],hO⟩
  ·rw[af c]at ho';obtain⟨y,dy,a,b⟩:=C'.obj r' i o' ho';exact⟨y,dy,Wd.le_new.at_ _ _ _ a,b.mono Wd.le_new⟩
 ·intro q hq;have:(W.new r x dx).tups=W.tups:=by unfold Wd.new;rw[hR']
  rw[this]at hq;exact C'.tup q hq
 ·intro r1 i1 r2 i2 a zq;obtain⟨y,dy,h1,h2⟩:=zq;intro zq;obtain⟨z,dz,h3,h4⟩:=zq;rw[Wd.at_new hR']at h1 h3;by_cases c1:r1=r∧i1=R'.length<;>by_cases c2:r2=r∧i2=R'.length
  ·exact⟨c1.1.trans c2.1.symm,c1.2.trans c2.2.symm⟩
  ·rw[ac c1]at h1;induction h1 using QM;rw[af c2]at h3;obtain⟨q,hq,_⟩:=C.has_some (a:=a) ⟨z,dz,h3,h4⟩;rw[fr a h2]at hq;exact Rk hq
  ·rw[ac c2]at h3;induction h3 using QM;rw[af c1]at h1;obtain⟨q,hq,_⟩:=C.has_some (a:=a) ⟨y,dy,h1,h2⟩;rw[fr a h4]at hq;exact Rk hq
  ·rw[af c1]at h1;rw[af c2]at h3;exact C.inj _ _ _ _ _ ⟨y,dy,h1,h2⟩ ⟨z,dz,h3,h4⟩
 ·intro r1 i1 a zq;obtain⟨y,dy,h1,h2⟩:=zq;rw[Wd.at_new hR']at h1;by_cases c1:r1=r∧i1=R'.length
  ·rw[ac c1]at h1;induction h1 using QM;refine⟨(lt a h2).1,(lt a h2).2,fun q hq e=>?_⟩;have:=(C.keep q hq).1;rw[e,fr a h2]at this;exact Rk this
  ·rw[af c1]at h1;exact C'.ap r1 i1 a ⟨y,dy,h1,h2⟩
theorem CR.put(C:CR w K names okf fx m RC W H h){x:Addr}(hg:H.get r i=some o)(ha:W.at r i=some (x,dx))(hx:a=x∨dx=some a) (hs:Heap.SameBut a h h') (hO:ObjR w K names okf W h' x dx o'):CR w K names okf fx m RC W (H.put r i o') h':=by
 have hh:W.has r i a:=⟨x,dx,ha,hx⟩;obtain⟨a1,a2,a3⟩:=C.ap r i a hh;refine⟨⟨C.fr.ns.sameBut hs (Ne.symm a2),fun b q e=>(hs.2 b (fun eb=>by rw[eb,a1]at e;exact Rk e)).trans (C.fr.keep b q e),C.fr.above⟩,?_,?_,?_,?_,C.inj,C.ap,C.axd,C.axk⟩
 ·rw[Hp.shape_put];exact C.shape
 ·intro r' i' o1 h1;rw[Hp.get_put hg]at h1;by_cases c:r'=r∧i'=i
  ·rw[ac c]at h1;induction h1 using QT;obtain⟨rfl,rfl⟩:=c;exact⟨x,dx,ha,hO⟩
  ·rw[af c]at h1;obtain⟨y,dy,b1,b2⟩:=C.obj r' i' o1 h1;refine⟨y,dy,b1,b2.same (hs.2 y fun e=>c ?_) fun d hd=>hs.2 d fun e=>c ?_⟩
   ·exact C.inj r' i' r i a ⟨y,dy,b1,.inl e.symm⟩ hh
   ·exact C.inj r' i' r i a ⟨y,dy,b1,.inr (e▸hd)⟩ hh
 ·intro q hq;obtain⟨⟨n,b1⟩,b3⟩:=C.tup q hq;exact⟨⟨n,(hs.2 _ (C.tup_ne hh q hq)).trans b1⟩,b3⟩
 ·intro q hq;obtain⟨b1,b2⟩:=C.keep q hq;exact⟨(hs.2 _ (a3 q hq)).trans b1,b2⟩
end
structure Cx where
 w:World
 K:Frag
 names:List Str
 okf:Addr→Nat→Bool
 p:Program
 loose:List Str
 mean:ExcName→Option Value
 mg:Str→Option Value
 mb:Str→Option Value
abbrev Cx.mo(cx:Cx):Model:=model PP cx.w
abbrev Cx.CR(cx:Cx)(fx:Fx)(m:Str→Option Value)(RC:List (Addr×Obj))(W:Wd)(H:Hp)(h:Heap):Prop:=Mine.Tactic.CR cx.w cx.K cx.names cx.okf fx m RC W H h
structure Good(cx:Cx)(fx:Fx)(RD:Nat):Prop where
 B:Below fx.A₀ fx.base fx.outer fx.h₀
 hA:fx.A.frames=some (fx.fenv::fx.outer)
 hf:fx.fenv.frame=some fx.L
 hke:fx.fenv.scope.kind=.function
 hg:fx.env.globals=mainGlobals
 hb:fx.env.builtins=builtinsNs
 hk:fx.env.scope.kind=.function
 X:cx.K.In fx.h₀
 T:Top cx.p cx.loose cx.mean cx.mg cx.mb fx.h₀
 hh:fx.A.handled=none
 dep:fx.A.depth+10*RD+20≤990
 un:fx.A.units+100*RD+200≤9000
 sysm:∃o,fx.h₀.get? sysModules=some o
section
variable(cx:Cx)(fx:Fx)(m:Str→Option Value)(RC:List (Addr×Obj))
def Loads(x:Str)(u:Value):Prop:=∀(pos:Pos) (W:Wd) (H:Hp) (s:Shared) (Q:Value→Shared→Prop) (E:Value→Shared→Prop),cx.CR fx m RC W H s.heap→Q u s→wpAny cx.mo fx.A (eval (.Name x pos) fx.env) Q E s
structure LocOk(sc:Sc)(ρ:bJ)(W:Wd):Prop where
 loc:∀x i v,sc.find x=some i→ρ[i]?=some (some v)→∃u,VR cx.K W v u∧Loads cx fx m RC x u
 len:sc.outer=none→ρ.length=sc.kinds.length
 cel:sc.outer=none→∀x i,bc x sc.kinds sc.off=some (i,.cell)→fx.env.kindOf x=some .cell∧∃c o val,fx.env.cells.lookup x=some c∧(c,o)∈RC∧o.data=.cell val∧∀v,ρ[i]?=some (some v)→∃u,val=some u∧VR cx.K W v u
def GlobOk(sc:Sc):Prop:=∀x,sc.isGlob x=true→(∀v,nsIn cx.K mainGlobals x=some (some v)→Loads cx fx m RC x v)∧(∀v,nsIn cx.K mainGlobals x=some none→bootBuiltins x=some v→x≠"__name__"→Loads cx fx m RC x v)
end
def Shared.with(s:Shared)(h:Heap)(tk:Nat):Shared:=(sH s h tk)
section
variable(cx:Cx)(RD:Nat)(sc:Sc)
def MU(t:Fx→Sem Value)(E:Ev):Prop:=∀(fx:Fx) (m:Str→Option Value) (RC:List (Addr×Obj)) (ρ:bJ) (W:Wd) (H:Hp) (s:Shared) (v:V) (H':Hp) (r:Nat) (Q:Value→Shared→Prop) (Er:Value→Shared→Prop),Good cx fx RD→GlobOk cx fx m RC sc→LocOk cx fx m RC sc ρ W→cx.CR fx m RC W H s.heap→E ρ r H=some (v,H')→ (∀(W':Wd) (h':Heap) (tk:Nat) (u:Value),W.le W'→cx.CR fx m RC W' H' h'→VR cx.K W' v u→Q u (sH s h' tk))→wpAny cx.mo fx.A (t fx) Q Er s
def aN(e:Expr)(E:Ev):Prop:=MU cx RD sc (fun fx=>eval e fx.env) E
def iT(e:Expr)(T:Tv):Prop:=∀(fx:Fx) (m:Str→Option Value) (RC:List (Addr×Obj)) (ρ:bJ) (W:Wd) (H:Hp) (s:Shared) (b:Bool) (H':Hp) (r:Nat) (Q:Bool→Shared→Prop) (Er:Value→Shared→Prop),Good cx fx RD→GlobOk cx fx m RC sc→LocOk cx fx m RC sc ρ W→cx.CR fx m RC W H s.heap→T ρ r H=some (b,H')→ (∀(W':Wd) (h':Heap) (tk:Nat),W.le W'→cx.CR fx m RC W' H' h'→Q b (sH s h' tk))→wpAny cx.mo fx.A (isTrue e fx.env (eval e fx.env)) Q Er s
end
section
variable{cx:Cx}{RD:Nat}{sc:Sc}{fx:Fx}
theorem LocOk.mono{ρ:bJ}{W W':Wd}(h:W.le W')(x:LocOk cx fx m RC sc ρ W):LocOk cx fx m RC sc ρ W':=by
 refine⟨fun n i v a b=>?_,x.len,fun hs n i a=>?_⟩
 ·obtain⟨u,c,d⟩:=x.loc n i v a b;exact⟨u,c.mono h,d⟩
 ·obtain⟨k,c,o,val,a1,a2,a3,a4⟩:=x.cel hs n i a;refine⟨k,c,o,val,a1,a2,a3,fun v hv=>?_⟩;obtain⟨u,b1,b2⟩:=a4 v hv;exact⟨u,b1,b2.mono h⟩
theorem az{e:Expr}:aN cx RD sc e aw:=fun _ _ _ _ _ _ _ _ _ _ _ _ _ _ _ _ h _=>nomatch h
theorem du{e:Expr}:iT cx RD sc e nU:=fun _ _ _ _ _ _ _ _ _ _ _ _ _ _ _ _ h _=>nomatch h
theorem Kl{c:Const}{k:Nat}{pos:Pos}{v:V}(hc:Bk c=some v):aN cx RD sc (.Constant c k pos) (ai v):=by
 intro fx m RC ρ W H s v' H' r Q Er G GG LL C hE hQ;simp only[ai,Option.some.injEq,Prod.mk.injEq]at hE;obtain⟨rfl,rfl⟩:=hE;show wpAny _ _ (constValue fx.env c) _ _ _;cases c with
 |none=>(refine QU hc ?_;clear hc;rintro rfl);exact ah (hQ W s.heap s.toks _ (.refl W) C .none)
 |bool b=>(refine QU hc ?_;clear hc;rintro rfl);exact ah (hQ W s.heap s.toks _ (.refl W) C (.bool b))
 |int i=>(refine QU hc ?_;clear hc;rintro rfl);exact fun _ _ _=>hQ W s.heap (s.toks+1) _ (.refl W) C (.int i _)
 |str x=>
  (refine QU hc ?_;clear hc;rintro rfl)
  have e:x=⟨x.cps.toList.toArray⟩:=by cases x;simp
  refine fun _ _ _=>hQ W s.heap (s.toks+1) _ (.refl W) C ?_;have:=VR.str (K:=cx.K) (W:=W) x.cps.toList s.toks;rw[←e]at this;exact this
 |float=>exact Rk hc
 |complex=>exact Rk hc
 |bytes=>exact Rk hc
 |ellipsis=>exact Rk hc
theorem JH{x:Str}{pos:Pos}{i:Nat}(h:sc.find x=some i):aN cx RD sc (.Name x pos) (aa i):=by
 intro fx m RC ρ W H s v' H' r Q Er G GG LL C hE hQ;unfold aa at hE
 (refine Q0 hE ?_;clear hE;intro v hv hE)
 induction hE using QM;obtain⟨u,a,b⟩:=LL.loc x i _ h hv;exact b pos W H s _ _ C (hQ W s.heap s.toks u (.refl W) C a)
theorem HT{x:Str}{pos:Pos}{v:V}{u:Value}(h:sc.isGlob x=true)(hu:nsIn cx.K mainGlobals x=some (some u))(hv:∀W,VR cx.K W v u):aN cx RD sc (.Name x pos) (ai v):=by
 intro fx m RC ρ W H s v' H' r Q Er G GG LL C hE hQ;simp only[ai,Option.some.injEq,Prod.mk.injEq]at hE;obtain⟨rfl,rfl⟩:=hE;exact(GG x h).1 u hu pos W H s _ _ C (hQ W s.heap s.toks u (.refl W) C (hv W))
theorem kn{a b:Expr}{Ea Eb:Ev}(ha:aN cx RD sc a Ea)(hb:aN cx RD sc b Eb){fx:Fx}{m:Str→Option Value}{RC:List (Addr×Obj)}{ρ:bJ}{W:Wd}{H H₂:Hp}{s:Shared}{r:Nat} {Q:Value→Value→Shared→Prop} {Er:Value→Shared→Prop} {x y:V} {H₁:Hp} (G:Good cx fx RD) (GG:GlobOk cx fx m RC sc) (LL:LocOk cx fx m RC sc ρ W) (C:cx.CR fx m RC W H s.heap) (h1:Ea ρ r H=some (x,H₁)) (h2:Eb ρ r H₁=some (y,H₂)) (hQ:∀(W':Wd) (h':Heap) (tk:Nat) (u u':Value),W.le W'→cx.CR fx m RC W' H₂ h'→VR cx.K W' x u→VR cx.K W' y u'→Q u u' (sH s h' tk)) :wpAny cx.mo fx.A (eval a fx.env) (fun u s₁=>wpAny cx.mo fx.A (eval b fx.env) (fun u' s₂=>Q u u' s₂) Er s₁) Er s:=
 ha fx m RC ρ W H s x H₁ r _ Er G GG LL C h1 fun W₁ h₁ tk₁ u l₁ C₁ V₁=>
  hb fx m RC ρ W₁ H₁ _ y H₂ r _ Er G GG (LL.mono l₁) C₁ h2 fun W₂ h₂ tk₂ u' l₂ C₂ V₂=>hQ W₂ h₂ tk₂ u u' (l₁.trans l₂) C₂ (V₁.mono l₂) V₂
theorem EY{o:Eu}{Ea Eb:Ev}{ρ:bJ}{r:Nat}{H H':Hp}{v:V}(h:aI o Ea Eb ρ r H=some (v,H')):∃x H₁ y H₂,Ea ρ r H=some (x,H₁)∧Eb ρ r H₁=some (y,H₂)∧im o x y r H₂=some (v,H'):=by
 unfold aI at h
 (refine Pn h ?_;clear h;intro x H₁ e1 h)
 (refine Pn h ?_;clear h;intro y H₂ e2 h)
 exact⟨x,H₁,y,H₂,e1,e2,h⟩
end
set_option tactic.hygienic true
variable{RD:Nat}{Q Er E:Value→Shared→Prop}{s:Shared}{K:Frag}{W W':Wd}{names:List Str}{w:World}{sc:Sc}{cx:Cx}{fx:Fx}{okf:Addr→Nat→Bool}
section
abbrev Post(cx:Cx)(fx:Fx)(m:Str→Option Value)(RC:List (Addr×Obj))(W:Wd)(H':Hp)(s:Shared)(v:V)(Q:Value→Shared→Prop):Prop:= ∀(W':Wd) (h':Heap) (tk:Nat) (u:Value),W.le W'→cx.CR fx m RC W' H' h'→VR cx.K W' v u→Q u (sH s h' tk)
theorem Post.at(hQ:Post cx fx m RC W H' s v Q)(C:cx.CR fx m RC W H' s.heap)(tk:Nat)(V:VR cx.K W v u):Q u (sH s s.heap tk):=
 hQ W s.heap tk u (.refl W) C V
theorem Post.here(hQ:Post cx fx m RC W H' s v Q)(C:cx.CR fx m RC W H' s.heap)(V:VR cx.K W v u):Q u s:=
 hQ W s.heap s.toks u (.refl W) C V
theorem ba(h:n≤9000):n≤sizeLine:=by rw[sizeLine_eq];exact aO ‹_› (by decide)
theorem ie(h:O.fits (.list l)=true):l.length≤9000:=of_decide_eq_true h
theorem qi{l:List (V×V)}(h:O.fits (.dict l)=true):l.length≤900:=of_decide_eq_true h
theorem CR.pushList(C:cx.CR fx m RC W H s.heap)(hn:H.new r (.list l)=some (v,H'))(hv:VRs cx.K W l vs)(hQ:Post cx fx m RC W H' s v Q)(tk:Nat):Q (.ref s.heap.objs.size) {s with heap:=s.heap.push {cls:=.type "list",data:=.seq vs.toArray},toks:=tk}:=by
 obtain⟨R,hR,hv',hH,hf,hg⟩:=Hp.get_new hn;have hf:=ie hf;have fr:∀a,a=s.heap.objs.size∨(none:Option Addr)=some a→s.heap.get? a=none:=by
  rintro a (rfl|h)
  ·induction q:s.heap.get? s.heap.objs.size with
   |none=>rfl
   |some o=>exact absurd (aZ q) (Nat.lt_irrefl _)
  ·exact Rk h
 have lt:∀a,a=s.heap.objs.size∨(none:Option Addr)=some a→fx.h₀.get? a=none∧a≠fx.L:=by
  rintro a (rfl|h)
  ·exact C.fresh
  ·exact Rk h
 obtain⟨i,hv',hat,C'⟩:=CR.new C hn (x:=s.heap.objs.size) (dx:=none) (h':=s.heap.push {cls:=.type "list",data:=.seq vs.toArray}) (fun _ _ e=>bu _ e) fr lt
  ⟨rfl,hf,vs,0,cq _ rfl,hv.mono Wd.le_new⟩
 exact hQ _ _ tk _ Wd.le_new C' (hv'▸.ref _ _ _ _ hat)
theorem CR.pushTup(C:cx.CR fx m RC W H s.heap)(hv:VRs cx.K W l vs)(hQ:Post cx fx m RC W H s (.tup l) Q)(tk:Nat):Q (.ref s.heap.objs.size) {s with heap:=s.heap.push {cls:=.type "tuple",data:=.seq vs.toArray},toks:=tk}:=
 hQ _ _ tk _ (W.le_tup _ _) (CR.newTup C) (.tup _ _ vs (.head _) (hv.mono (W.le_tup _ _)))
theorem CR.list(C:cx.CR fx m RC W H s.heap)(V:VR cx.K W (.ref r i) u)(hg:H.get r i=some (.list l)):∃x vs n,u=.ref x∧W.at r i=some (x,none)∧IsL s.heap x vs.toArray n∧VRs cx.K W l vs∧l.length≤9000:=by
 cases V with
 |ref _ _ x dx e=>
  obtain⟨x',dx',e',a,b,vs,n,c,d⟩:=C.obj r i _ hg;rw[e]at e';induction e' using QM;subst a;exact⟨x,vs,n,rfl,e,c,d,b⟩
theorem CR.tuple(C:cx.CR fx m RC W H s.heap)(X:cx.K.In fx.h₀)(V:VR cx.K W (.tup l) u):∃x vs,u=.ref x∧IsTup s.heap x vs.toArray∧VRs cx.K W l vs:=by
 cases V with
 |tup _ a vs hm hv=>
  obtain⟨⟨n,h⟩,_⟩:=C.tup _ hm;exact⟨a,vs,rfl,⟨_,h,rfl,n,rfl⟩,hv⟩
 |ktup _ a vs dd n sl hm hv=>
  have h:=C.fr.keep _ _ (X _ _ hm);exact⟨a,vs.toList,rfl,⟨_,h,rfl,n,by simp⟩,hv⟩
theorem HH{t b:Addr}{ws:List Value}(ht:IsTup s.heap t vs.toArray)(hb:IsTup s.heap b ws.toArray) (h0:vs=[]→Q (.ref b) s) (h1:vs≠[]→ws=[]→Q (.ref t) s) (h2:vs≠[]→ws≠[]→Q (.ref s.heap.objs.size) {s with heap:=s.heap.push {cls:=.type "tuple",data:=.seq (vs++ws).toArray}}) (hsz:vs.length+ws.length≤sizeLine):wpAny cx.mo A (binaryOp .Add (.ref t) (.ref b)) Q E s:=by
 obtain⟨⟨cls,dd,data,sl⟩,ho,hc,n,hd⟩:=id ht;obtain⟨⟨cls2,dd2,data2,sl2⟩,ho2,hc2,n2,hd2⟩:=id hb;simp only at hc hd hc2 hd2;subst hc hd hc2 hd2;by_cases hv:vs=[]
 ·exact concat_meets ⟨_,ho,rfl⟩ ⟨_,ho2,rfl⟩ noFill_tuple_add seq_tuple_add PySem.F.slot_tuple_add PySem.F.entry_tuple_add (PySem.F.args_tuple_add_2 _ _)
   (tuple_addW0 t b vs.toArray ws.toArray n n2 dd dd2 sl sl2 (by simp[hv])) ⟨ho,ho2,h0 hv⟩
 ·by_cases hw:ws=[]
  ·exact concat_meets ⟨_,ho,rfl⟩ ⟨_,ho2,rfl⟩ noFill_tuple_add seq_tuple_add PySem.F.slot_tuple_add PySem.F.entry_tuple_add (PySem.F.args_tuple_add_2 _ _)
    (tuple_addW1 t b vs.toArray ws.toArray n n2 dd dd2 sl sl2 (by simpa using hv) (by simp[hw])) ⟨ho,ho2,h1 hv hw⟩
  ·refine concat_meets ⟨_,ho,rfl⟩ ⟨_,ho2,rfl⟩ noFill_tuple_add seq_tuple_add PySem.F.slot_tuple_add PySem.F.entry_tuple_add (PySem.F.args_tuple_add_2 _ _)
    (tuple_addW2 t b vs.toArray ws.toArray n n2 dd dd2 sl sl2 (by simpa using hv) (by simpa using hw) (by rw[aU,aU];exact hsz)) ⟨ho,ho2,?_⟩
   have e:vs.toArray++ws.toArray=(vs++ws).toArray:=by simp
   rw[e];exact h2 hv hw
theorem tX{a:Int}(h:small a=true):¬Builtin.Int.intBits a>shortFactorBits:=by
 unfold small at h;simp only[aY,bp]at h;have:=intBits_le_64 (k:=a) (Int.lt_trans (by decide) h.1) (Int.lt_trans h.2 (by decide));exact fun g=>absurd (Nat.lt_of_lt_of_le g this) (by decide)
theorem LJ{a b:Int}(h:(small a||small b)=true):IntMulOk a b:=by
 unfold IntMulOk;rcases Bool.or_eq_true_iff.mp h with h|h
 ·have:=tX h;simp[this]
 ·have:=tX h;simp[this]
theorem Gf{a b:Int}(h:b.natAbs.log2<8000):Builtin.divisionGoesByPylong a b=false:=by
 unfold Builtin.divisionGoesByPylong;have:¬((if(b==0)=true then 0 else b.natAbs.log2 / 30+1)>300):=by
  split
  ·exact Nat.not_lt_zero _
  ·exact Nat.not_lt.mpr (Nat.succ_le_of_lt (Nat.div_lt_of_lt_mul (Nat.lt_of_lt_of_le h (by decide))))
 exact Bool.and_eq_false_iff.mpr (.inl (decide_eq_false this))
theorem C1{a b:Int}(ha:0≤a)(hb:0≤b):Builtin.bitAnd a b=((Nat.land a.toNat b.toNat:Nat):Int):=by
 unfold Builtin.bitAnd;rw[decide_eq_true ha,decide_eq_true hb];rfl
theorem FH{a b:Int}(ha:0≤a)(hb:0≤b):Builtin.bitOr a b=((Nat.lor a.toNat b.toNat:Nat):Int):=by
 unfold Builtin.bitOr Builtin.bitAnd;have e1:decide (0≤Builtin.bitNot a)=false:=by unfold Builtin.bitNot;exact decide_eq_false (by omega)
 have e2:decide (0≤Builtin.bitNot b)=false:=by unfold Builtin.bitNot;exact decide_eq_false (by omega)
 rw[e1,e2];dsimp only;have f:∀x:Int,Builtin.bitNot (Builtin.bitNot x)=x:=fun x=>by unfold Builtin.bitNot;omega
 rw[f,f,f];rfl
theorem Fo{o:Operator}{o':Eu}(ho:vi o=some o'){a b c:Int}{t t':Nat}(h:Be o' a b=some c) (hQ:∀(t tk:Nat),Q (.int c t) (sH s s.heap tk)):wpAny (model PP w) A (binaryOp o (.int a t) (.int b t')) Q Er s:=by
 cases o<;>(first|(refine QU ho ?_;clear ho;rintro rfl)|exact Rk ho)<;>dsimp only[Be]at h
 ·induction h using QT;exact add_int (hQ _ _)
 ·induction h using QT;exact sub_int (hQ _ _)
 ·(refine PV h ?_;clear h;intro hm h)
  induction h using QT;exact mul_int (hQ _ _) (LJ hm)
 ·(refine PV h ?_;clear h;intro hm h)
  induction h using QT;exact mod_int' (Int.ne_of_gt hm) (hQ _ _)
 ·(refine PV h ?_;clear h;intro hm h)
  induction h using QT;simp only[aY,bp]at hm;refine pow_int hm.1.2 ?_ (hQ _ _);have hb:=intBits_le_64 (k:=a) (Int.lt_of_lt_of_le (by decide) hm.1.1.1) (Int.lt_trans hm.1.1.2 (by decide));have h1:((Builtin.Int.intBits a:Nat):Int)≤64:=Int.ofNat_le.mpr hb;exact Int.le_trans (Int.mul_le_mul h1 (Int.le_of_lt hm.2) hm.1.2 (by decide)) (by decide)
 ·(refine PV h ?_;clear h;intro hm h)
  induction h using QT;simp only[aY,bp]at hm;exact lshift_int_small hm.1.2 (Int.le_of_lt (Int.lt_trans hm.2 (by decide))) (Nat.lt_trans (Int.natAbs_lt_natAbs_of_nonneg_of_lt hm.1.1.1 hm.1.1.2) (by decide:1000<2 ^ 64)) (hQ _ _)
 ·(refine PV h ?_;clear h;intro hm h)
  induction h using QT;simp only[aY,bp]at hm;refine or_int ?_;rw[FH hm.1 hm.2];exact hQ _ _
 ·(refine PV h ?_;clear h;intro hm h)
  induction h using QT;simp only[aY,bp]at hm;refine and_int ?_;rw[C1 hm.1 hm.2];exact hQ _ _
 ·(refine PV h ?_;clear h;intro hm h)
  induction h using QT;simp only[aY,bp]at hm;exact floordiv_int (Int.ne_of_gt hm.1) (hQ _ _) (.inl (Gf hm.2))
theorem tZ{o:Operator}{o':Eu}(ho:vi o=some o')(h:vk o'=true):o=.Add:=by
 cases o<;>first|rfl|((first|(refine QU ho ?_;clear ho;rintro rfl)|exact Rk ho);done)|((refine QU ho ?_;clear ho;rintro rfl);exact CS h;done)
theorem B9{o:Operator}{o':Eu}(ho:vi o=some o')(G:Good cx fx RD)(C:cx.CR fx m RC W H s.heap){x:V}(V1:VR cx.K W x u)(V2:VR cx.K W y u') (h:im o' x y r H=some (v,H')) (hQ:Post cx fx m RC W H' s v Q):wpAny cx.mo fx.A (binaryOp o u u') Q Er s:=by
 induction x using cW with
 |int a=>
  induction y using cW<;>first|(exact Rk h;done)|skip
  rename_i b;change(match Be o' a b with|some c=>some (V.int c,H) | .none=>.none)=some (v,H')at h
  (refine Rh h ?_;clear h;intro _ hc h)
  induction h using QM;induction V1 using Rs;induction V2 using Rs;exact Fo ho hc fun t tk=>hQ.at C tk (.int _ t)
 |str a=>
  induction y using cW<;>first|(exact Rk h;done)|skip
  rename_i b;change(if(vk o'&&decide (a.length+b.length≤9000))=true then some (V.str (a++b),H)else .none)=some (v,H')at h
  (refine PV h ?_;clear h;intro hz h)
  obtain⟨ha,hz⟩:=M6.mp hz;cases tZ ho ha;induction h using QM;induction V1 using RB;induction V2 using RB;refine add_str (fun t' tk=>hQ.at C _ ?_) (ba (by simpa[Str.length]using of_decide_eq_true hz));have e:(⟨a.toArray⟩++⟨b.toArray⟩:Str)=⟨(a++b).toArray⟩:=by
   apply Str.ext';simp[Str.cps_append]
  rw[e];exact .str _ _
 |tup a=>
  induction y using cW<;>first|(exact Rk h;done)|skip
  rename_i b;change(if(vk o'&&decide (a.length+b.length≤9000))=true then some (V.tup (a++b),H)else .none)=some (v,H')at h
  (refine PV h ?_;clear h;intro hz h)
  obtain⟨ha,hz⟩:=M6.mp hz;cases tZ ho ha;induction h using QM;obtain⟨x1,vs,rfl,ht,hv⟩:=C.tuple G.X V1;obtain⟨x2,ws,rfl,ht2,hw⟩:=C.tuple G.X V2;refine HH ht ht2 (fun e=>?_) (fun e e2=>?_) (fun e e2=>C.pushTup (hv.append hw) hQ _) (ba (by rw[←hv.length,←hw.length];exact of_decide_eq_true hz))
  ·subst e;cases hv;exact hQ.here C V2
  ·subst e2;cases hw;rw[List.append_nil]at hQ;exact hQ.here C V1
 |ref r1 i1=>
  induction y using cW<;>first|(exact Rk h;done)|skip
  rename_i r2 i2;change(match vk o' with|true=>(match H.get r1 i1,H.get r2 i2 with|some (.list a),some (.list b)=>H.new r (.list (a++b))|_,_=>.none)|false=>.none)=some (v,H')at h
  (split at h;rotate_left;(first|exact Rk h|cases h);rename_i ha)
  cases tZ ho ha
  (refine Pb h ?_;clear h;intro a b h1 h2 h)
  obtain⟨x1,vs,n1,rfl,_,l1,v1,_⟩:=C.list V1 h1;obtain⟨x2,ws,n2,rfl,_,l2,v2,_⟩:=C.list V2 h2;have hf:=ie (Hp.get_new h).choose_spec.2.2.2.1;refine P.add_list l1 l2 ?_ (by simp only[aU];refine ba ?_;rw[←v1.length,←v2.length,←bx];exact hf);have e:vs.toArray++ws.toArray=(vs++ws).toArray:=by simp
  rw[e];exact C.pushList h (v1.append v2) hQ _
 |_=>exact Rk h
theorem J8{o:Operator}{o':Eu}(ho:vi o=some o'){a b:Expr}(ha:aN cx RD sc a Ea)(hb:aN cx RD sc b Eb):aN cx RD sc (.BinOp a o b pos) (aI o' Ea Eb):=by
 intro fx m RC ρ W H s v H' r Q Er G GG LL C hE hQ;obtain⟨x,H₁,y,H₂,h1,h2,h3⟩:=EY hE;refine wpAny_BinOp (kn (Q:=fun u u' s₂=>wpAny cx.mo fx.A (binaryOp o u u') Q Er s₂) ha hb G GG LL C h1 h2 fun W' h' tk u u' l C' V1 V2=>?_);exact B9 ho G (s:=(sH s h' tk)) C' V1 V2 h3 fun W'' h'' tk' v' l' C'' V'=>hQ W'' h'' tk' v' (l.trans l') C'' V'
theorem JS{a:Expr}(ha:aN cx RD sc a Ea):aN cx RD sc (.UnaryOp .USub a pos) (iE Ea):=by
 intro fx m RC ρ W H s v H' r Q Er G GG LL C hE hQ;unfold iE at hE
 (refine Q2 hE ?_;clear hE;intro i H₁ h1 hE)
 induction hE using QM;refine wpAny_UnaryOp (ha fx m RC ρ W H s _ _ r _ Er G GG LL C h1 fun W' h' tk u l C' V=>?_);induction V using Rs;exact neg_int (hQ W' h' _ _ l C' (.int _ _))
end
end
section
open PySem PySem.W PySem.Calls PyProof.Rows PySem.SeqAt
set_option tactic.hygienic false
variable{pos p apos np:Pos}{v y:V}{n r i k j q RD:Nat}{Q Er E:Value→Shared→Prop}{u u':Value}{A:Around}{H H':Hp}{e t tgt iter ve se elt:Expr}{s:Shared}{x:Str}{K:Frag}{W W':Wd}{ρ ρ':bJ}{es ifs:List Expr}{env:Env}{a S D C I:Addr}{l xs l' ds:List V}{vs us:List Value}{Ea Eb Eo Ee:Ev}{b:Bool}{o o':O}{h' h:Heap}{f:Expr→Ev}{names:List Str}{scope:Scope}{w:World}{sc:Sc}{M:Model}{prog:Program}{cx:Cx}{tn:Tn}{dx:Option Addr}{fx:Fx}{m m':Str→Option Value}{it:It}{T:Tg}{RC cells:List (Addr×Obj)}{items:Array Value}{B:List St}{F:Md}{R:List O}{okf:Addr→Nat→Bool}{is:List Nat}{body:List Stmt}
noncomputable def K7(f:V→V→Option Bool)(a b:List V)(j:Nat):Bool:=match a[j]?,b[j]? with
 |some x,some y=>(f x y).getD false
 |_,_=>false
theorem ro{f:V→V→Option Bool}:∀{a b:List V} {r:Bool},gU f a b=some r→(List.range (min a.length b.length)).all (K7 f a b)=r:=by
 intro zz;induction zz with
 |nil=>
  intro b r h;obtain rfl:=av h;simp
 |cons zq1 zq2 ih=>
  intro zq3;induction zq3 using jL with
  |nil=>
   intro r h;obtain rfl:=av h;simp
  |cons y b=>
   intro r h
   (conv at h=>lhs;whnf)
   (refine QJ h ?_;clear h;intro p q e1 e2 h)
   simp only[Option.some.injEq]at h;subst h;have ih:=ih e2;have:min (zq1::zq2).length (y::b).length=min zq2.length b.length+1:=by simp
   rw[this,List.range_succ_eq_map,List.all_cons,List.all_map];have e0:K7 f (zq1::zq2) (y::b) 0=p:=by simp[K7,e1]
   rw[e0,←ih];rfl
theorem xR{f:V→V→Option Bool}:∀{a b:List V} {r:Bool},gU f a b=some r→∀{j:Nat} {x y:V},a[j]?=some x→b[j]?=some y→f x y=some (K7 f a b j):=by
 intro zz;induction zz with
 |nil=>
  intro b r h j x y h1 h2;simp at h1
 |cons zq1 zq2 ih=>
  intro zq3;induction zq3 using jL with
  |nil=>
   intro r h j x y h1 h2;simp at h2
  |cons q b=>
   intro r h j x y h1 h2
   (conv at h=>lhs;whnf)
   (refine QJ h ?_;clear h;intro u v e1 e2 h)
   induction j with
   |zero=>
    simp only[List.getElem?_cons_zero,Option.some.injEq]at h1 h2;subst h1 h2;simp[K7,e1]
   |succ j=>exact ih e2 h1 h2
section
theorem Et(a b:List Nat):((⟨a.toArray⟩:Str)==⟨b.toArray⟩)=decide (a=b):=by
 rw[←str_beq];show(a==b)=decide (a=b);by_cases h:a=b
 ·subst h;simp
 ·simp[h]
theorem EV{P:V→V→Bool→Prop}(n:P .none .none true)(b:∀p q,P (.bool p) (.bool q) (p==q))(i:∀p q,P (.int p) (.int q) (decide (p=q)))(s:∀p q,P (.str p) (.str q) (decide (p=q))){x:V}{r:Bool}(h:Cs x y=some r):P x y r:=by
 cases x with
 |none=>induction y using cW<;>first|exact Rk h|exact av h▸n
 |bool p=>induction y using cW<;>first|exact Rk h|exact av h▸b _ _
 |int p=>induction y using cW<;>first|exact Rk h|exact av h▸i _ _
 |str p=>induction y using cW<;>first|exact Rk h|exact av h▸s _ _
 |_=>exact Rk h
theorem xH{x:V}(h:Ac x y=some b)(ht:¬∃l l',x=.tup l∧y=.tup l'):Cs x y=some b:=by
 induction x using cW<;>first|exact h|(induction y using cW<;>first|exact h|exact absurd ⟨_,_,rfl,rfl⟩ ht)
theorem zy{P:Value→Value→Bool→Prop}(n:P .none .none true)(b:∀p q,P (.bool p) (.bool q) (p==q))(i:∀p q t t',P (.int p t) (.int q t') (decide (p=q)))(st:∀p q t t',P (.str p t) (.str q t') (p==q)){x:V}{r:Bool}(V1:VR K W x u)(V2:VR K W y u')(h:Cs x y=some r):P u u' r:=by
 refine EV (P:=fun x y r=>VR K W x u→VR K W y u'→P u u' r) (fun V1 V2=>?_) (fun p q V1 V2=>?_) (fun p q V1 V2=>?_) (fun p q V1 V2=>?_) h V1 V2
 ·induction V1 using Rx;induction V2 using Rx;exact n
 ·induction V1 using Rr;induction V2 using Rr;exact b _ _
 ·induction V1 using Rs;induction V2 using Rs;exact i _ _ _ _
 ·induction V1 using RB;induction V2 using RB;rw[←Et];exact st _ _ _ _
theorem IS{x:V}(V1:VR K W x u)(V2:VR K W y u')(h:Cs x y=some b)(A:Around)(s:Shared):EqAt A s u u' b:=
 zy (P:=EqAt A s) (EqAt.same _) EqAt.bool_bool (fun p q t t'=>EqAt.int_int _ _ _ _) (fun p q t t'=>EqAt.str_str _ _ _ _) V1 V2 h
theorem Mi{x:V}(V1:VR K W x u)(V2:VR K W y u')(h:Cs x y=some b)(A:Around)(s:Shared):RcAt A s u u' b:=
 zy (P:=RcAt A s) RcAt.none_none RcAt.bool_bool (fun p q t t'=>RcAt.int_int _ _ _ _) (fun p q t t'=>RcAt.str_str _ _ _ _) V1 V2 h
theorem Hd{x:V}(V1:VR K W x u)(V2:VR K W y u')(h:Cs x y=some b)(A:Around)(s:Shared):RcNeAt A s u u' (!b):=
 zy (P:=fun u u' b=>RcNeAt A s u u' (!b)) RcNeAt.none_none RcNeAt.bool_bool (fun p q t t'=>RcNeAt.int_int _ _ _ _) (fun p q t t'=>RcNeAt.str_str _ _ _ _) V1 V2 h
theorem Ij{x:V}(V1:VR K W x u)(V2:VR K W y u)(h:Cs x y=some b):b=true:=
 zy (P:=fun u u' b=>u=u'→b=true) (fun _=>rfl) (fun p q e=>by cases e;simp) (fun p q t t' e=>by cases e;simp) (fun p q t t' e=>by cases e;simp) V1 V2 h rfl
theorem CQ{m:List V}(V1:VRs K W l vs)(V2:VRs K W m vs)(h:gU Cs l m=some b):b=true:=by
 induction vs generalizing l m b with
 |nil=>cases V1;exact(av h).symm
 |cons v vs ih=>
  obtain⟨_,_,zq,a1,a2⟩:=V1.invR;subst zq;obtain⟨_,_,zq,b1,b2⟩:=V2.invR;subst zq
  (conv at h=>lhs;whnf)
  (refine QJ h ?_;clear h;intro p q e1 e2 h)
  simp only[Option.some.injEq]at h;subst h;rw[Ij a1 b1 e1,ih a2 b2 e2];rfl
theorem VRs.arr(x:VRs K W l vs)(h:j<vs.toArray.size):∃v,l[j]?=some v∧VR K W v vs.toArray[j]:=by
 have h':j<vs.length:=by simpa using h
 have hl:j<l.length:=by rw[x.length];exact h'
 obtain⟨w,e,V⟩:=x.get (ay hl);refine⟨l[j],ay hl,?_⟩;rw[ay h']at e;induction e using QT;simpa using V
theorem BR(C:cx.CR fx m RC W H s.heap)(X:cx.K.In fx.h₀){a b:List V}{t:Bool}(V1:VR cx.K W (.tup a) u)(V2:VR cx.K W (.tup b) u')(h:Ac (.tup a) (.tup b)=some t)(A:Around)(hu:A.units<cLine):∃x y vs ws,u=.ref x∧u'=.ref y∧IsTup s.heap x vs.toArray∧IsTup s.heap y ws.toArray∧VRs cx.K W a vs∧VRs cx.K W b ws∧(∀A',∀j (h1:j<vs.toArray.size) (h2:j<ws.toArray.size),EqAt A' s vs.toArray[j] ws.toArray[j] (K7 Cs a b j))∧((List.range (min vs.toArray.size ws.toArray.size)).all (K7 Cs a b)&&vs.toArray.size==ws.toArray.size)=t:=by
 obtain⟨x,vs,rfl,t1,v1⟩:=C.tuple X V1;obtain⟨y,ws,rfl,t2,v2⟩:=C.tuple X V2;unfold Ac at h;simp only[Option.map_eq_some_iff]at h;obtain⟨p,hp,hr⟩:=h;refine⟨x,y,vs,ws,rfl,rfl,t1,t2,v1,v2,fun A' j h1 h2=>?_,?_⟩
 ·obtain⟨p1,e1,V3⟩:=v1.arr h1;obtain⟨p2,e2,V4⟩:=v2.arr h2;exact IS V3 V4 (xR hp e1 e2) _ _
 ·have:=ro hp;rw[v1.length,v2.length]at this;simp only[aU];rw[this,←hr,v1.length,v2.length];rfl
theorem Mw(C:cx.CR fx m RC W H s.heap)(X:cx.K.In fx.h₀){x:V}(V1:VR cx.K W x u)(V2:VR cx.K W y u')(h:Ac x y=some b)(A:Around)(hu:A.units<cLine):EqAt A s u u' b:=by
 by_cases ht:∃l l',x=.tup l∧y=.tup l'
 ·obtain⟨l,l',rfl,rfl⟩:=ht;obtain⟨x,y,vs,ws,rfl,rfl,t1,t2,v1,v2,he,hb⟩:=BR C X V1 V2 h A hu;by_cases hxy:x=y
  ·subst hxy;obtain⟨o,ho,hc,n,hd⟩:=t1;obtain⟨o',ho',hc',n',hd'⟩:=t2;rw[ho]at ho';induction ho' using QT;rw[hd]at hd';have e:vs=ws:=by cases hd';rfl
   subst e;unfold Ac at h;simp only[Option.map_eq_some_iff]at h;obtain⟨p,hp,hr⟩:=h;have:=CQ v1 v2 hp;subst this;rw[v1.length,v2.length]at hr;simp at hr;subst hr;exact EqAt.same _
  ·refine EqAt.of_refs hxy ?_;rw[←hb];exact RcAt.tuples t1 t2 hu (fun j h1 h2=>he _ j h1 h2)
 ·exact IS V1 V2 (xH h ht) A s
theorem Mv(C:cx.CR fx m RC W H s.heap)(X:cx.K.In fx.h₀){x:V}(V1:VR cx.K W x u)(V2:VR cx.K W y u')(h:Ac x y=some b)(A:Around)(hu:A.units<cLine):RcAt A s u u' b∧RcNeAt A s u u' (!b):=by
 by_cases ht:∃l l',x=.tup l∧y=.tup l'
 ·obtain⟨l,l',rfl,rfl⟩:=ht;obtain⟨x,y,vs,ws,rfl,rfl,t1,t2,v1,v2,he,hb⟩:=BR C X V1 V2 h A hu;rw[←hb];exact⟨RcAt.tuples t1 t2 hu (fun j h1 h2=>he _ j h1 h2),RcNeAt.tuples t1 t2 hu (fun j h1 h2=>he _ j h1 h2)⟩
 ·have h':=xH h ht;exact⟨Mi V1 V2 h' A s,Hd V1 V2 h' A s⟩
theorem aQ{vs:Array Value}(x:IsL h a vs n):h.IsList a vs:=⟨_,x,rfl,n,rfl⟩
theorem xQ(h:A.units+1<cLine):A.in1.units<cLine:=h
theorem xU(C:cx.CR fx m RC W H s.heap)(X:cx.K.In fx.h₀){x:V}(V1:VR cx.K W x u)(V2:VR cx.K W y u')(h:yl H x y=some b)(A:Around)(hu:A.units+1<cLine):RcAt A s u u' b∧RcNeAt A s u u' (!b):=by
 have hu0:A.units<cLine:=Nat.lt_of_succ_lt hu;rcases yF h with h|h
 ·obtain⟨r1,i1,r2,i2,a,a',rfl,rfl,h1,h2,h⟩:=h;obtain⟨x1,vs,n1,rfl,_,l1,v1,_⟩:=C.list V1 h1;obtain⟨x2,ws,n2,rfl,_,l2,v2,_⟩:=C.list V2 h2;refine tR h ?_ ?_<;>clear h
  ·intro hl h;have hsz:vs.toArray.size=ws.toArray.size:=by simp only[aU];rw[←v1.length,←v2.length,hl]
   have he:∀A',A'.units<cLine→∀j (h1:j<vs.toArray.size) (h2:j<ws.toArray.size),EqAt A' s vs.toArray[j] ws.toArray[j] (K7 Ac a a' j):=by
    intro A' hu' j h1 h2;obtain⟨p1,e1,V3⟩:=v1.arr h1;obtain⟨p2,e2,V4⟩:=v2.arr h2;exact Mw C X V3 V4 (xR h e1 e2) A' hu'
   have hr:=ro h;rw[←hl,Nat.min_self,v1.length,←aU]at hr;rw[←hr];exact⟨RcAt.lists (aQ l1) (aQ l2) hsz hu0 (he _ (xQ hu)),RcNeAt.lists (aQ l1) (aQ l2) hsz hu0 (he _ (xQ hu))⟩
  ·intro hl h;induction h using QT;have hsz:(vs.toArray.size != ws.toArray.size)=true:=by
    simp only[aU,bne_iff_ne,ne_eq];rw[←v1.length,←v2.length];exact hl
   exact⟨RcAt.lists_lengths (aQ l1) (aQ l2) hsz hu0,RcNeAt.lists_lengths (aQ l1) (aQ l2) hsz hu0⟩
 ·exact Mv C X V1 V2 h A hu0
end
set_option tactic.hygienic true
section
variable{cx:Cx}{RD:Nat}{sc:Sc}{fx:Fx}{m:Str→Option Value}{RC:List (Addr×Obj)}{W:Wd}{H H':Hp}{s:Shared}{r:Nat}
theorem Good.units(G:Good cx fx RD):fx.A.units+2<cLine:=by
 exact aJ (aO (Nat.add_le_add (Nat.le_add_right _ (100*RD)) (by decide:2≤200)) G.un) (show 9000<cLine by decide)
theorem CR.notSys(C:cx.CR fx m RC W H s.heap)(G:Good cx fx RD)(h:W.has r i a):(a==sysModules)=false:=by
 obtain⟨o,ho⟩:=G.sysm;refine beq_eq_false_iff_ne.mpr fun e=>?_;have:=(C.ap r i a h).1;rw[e,ho]at this;exact QL this
theorem ry(K:Program)(w:World)(i:Int)(t:Tok):(intKind K w).is i (.int i t)=true:=by simp[intKind,Value.isInt]
theorem rj(K:Program)(w:World)(x:Str)(t:Tok):(PySem.strKind K w).is x (.str x t)=true:=by simp[PySem.strKind,Value.isStrOf]
inductive Hu(cx:Cx)(W:Wd)(h:Heap)(x:Addr)(l:List (V×V)):V→Prop
 |int (i:Int) (kvs:List (Int×Value)):h.DictOf (intKind PP cx.w) x kvs→l.map (·.1)=kvs.map (fun p=>V.int p.1)→VRs cx.K W (l.map (·.2)) (kvs.map (·.2))→Hu cx W h x l (.int i)
 |str (i:List Nat) (kvs:List (Str×Value)):h.DictOf (PySem.strKind PP cx.w) x kvs→l.map (·.1)=kvs.map (fun p=>V.str p.1.cps.toList)→VRs cx.K W (l.map (·.2)) (kvs.map (·.2))→Hu cx W h x l (.str i)
theorem fG{K:Type}[DecidableEq K]{knd:KeyKind PP cx.w K}{x:Addr}(hd:h.DictOf knd x []){K':Type}[DecidableEq K']{knd':KeyKind PP cx.w K'}:h.DictOf knd' x []:=by
 obtain⟨o,es,ep,a,b,c,d,e,f⟩:=hd;induction he:es.toList using jL with
 |nil=>exact⟨o,es,ep,a,b,c,(fun y hy=>by rw[←Array.mem_toList_iff,he]at hy;cases hy),(by rw[he];exact .nil),(by simp)⟩
 |cons y l=>rw[he]at e;cases e
theorem CR.dict(C:cx.CR fx m RC W H s.heap){l:List (V×V)}(V1:VR cx.K W (.ref r i) u)(hg:H.get r i=some (.dict l)):∃x,u=.ref x∧W.at r i=some (x,none)∧l.length≤900∧∀k,cg k=true→aW k l=true→Hu cx W s.heap x l k:=by
 cases V1 with
 |ref _ _ x dx e=>
  obtain⟨x',dx',e',a,b,c⟩:=C.obj r i _ hg;rw[e]at e';induction e' using QM;subst a;refine⟨x,rfl,e,b,fun k h1 h2=>?_⟩;induction l using jL with
  |nil=>
   rcases c with⟨kvs,c1,c2,c3⟩|⟨kvs,c1,c2,c3⟩
   ·have:kvs=[]:=by induction kvs using jL with|nil=>rfl|cons=>simp at c2
    subst this;induction k using cW<;>first|((first|exact CS h1|cases h1);done)|skip
    ·exact .int _ [] c1 rfl .nil
    ·exact .str _ [] (fG (cx:=cx) c1) rfl .nil
   ·have:kvs=[]:=by induction kvs using jL with|nil=>rfl|cons=>simp at c2
    subst this;induction k using cW<;>first|((first|exact CS h1|cases h1);done)|skip
    ·exact .int _ [] (fG (cx:=cx) c1) rfl .nil
    ·exact .str _ [] c1 rfl .nil
  |cons p l=>
   unfold aW at h2;rw[List.all_cons]at h2;have h2:=(M6.mp h2).1;rcases c with⟨kvs,c1,c2,c3⟩|⟨kvs,c1,c2,c3⟩
   ·have hk:∃j,p.1=.int j:=by induction kvs using jL with|nil=>simp at c2|cons q kvs=>simp only[List.map_cons,List.cons.injEq]at c2;exact⟨_,c2.1⟩
    obtain⟨j,hj⟩:=hk;rw[hj]at h2;induction k using cW<;>first|((first|exact CS h1|cases h1);done)|skip
    ·exact .int _ kvs c1 c2 c3
    ·exact CS h2
   ·have hk:∃j,p.1=.str j:=by induction kvs using jL with|nil=>simp at c2|cons q kvs=>simp only[List.map_cons,List.cons.injEq]at c2;exact⟨_,c2.1⟩
    obtain⟨j,hj⟩:=hk;rw[hj]at h2;induction k using cW<;>first|((first|exact CS h1|cases h1);done)|skip
    ·exact CS h2
    ·exact .str _ kvs c1 c2 c3
def DG(K:Frag)(W:Wd)(x:Option V)(y:Option Value):Prop:=match x,y with|some v,some u=>VR K W v u|none,none=>True|_,_=>False
theorem DG.some{x:Option V}{y:Option Value}(h:DG K W x y):x.isSome=y.isSome:=by
 induction x using jO<;>induction y using jO<;>first|rfl|exact False.elim h
theorem ia(a b:Int):fu (.int a) (.int b)=decide (a=b):=rfl
theorem jz(a b:Str):fu (.str a.cps.toList) (.str b.cps.toList)=decide (a=b):=by
 unfold fu;by_cases h:a=b
 ·subst h;simp
 ·have:¬a.cps.toList=b.cps.toList:=fun e=>h (by cases a;cases b;simp at e;subst e;rfl);simp[h,this]
theorem BA{KK:Type}[DecidableEq KK]{enc:KK→V}(hk:∀a b,fu (enc a) (enc b)=decide (a=b)){i:KK}:∀{l:List (V×V)} {kvs:List (KK×Value)},l.map (·.1)=kvs.map (fun p=>enc p.1)→VRs K W (l.map (·.2)) (kvs.map (·.2))→DG K W (dG l (enc i)) (valueAt kvs i):=by
 intro l;induction l with
 |nil=>
  intro kvs h _;induction kvs using jL with
  |nil=>exact trivial
  |cons=>cases h
 |cons p l ih=>
  intro kvs h hv;induction kvs using jL with
  |nil=>cases h
  |cons q kvs=>
   obtain⟨j,u⟩:=q;obtain⟨k,v⟩:=p;obtain⟨e,g⟩:=List.cons.inj h;replace e:k=enc j:=e;subst e;obtain⟨h1,h2⟩:=VRs.inv2 hv;by_cases e:j=i
   ·subst e;rw[show dG ((enc j,v)::l) (enc j)=_ from ac ((hk j j).trans (decide_eq_true rfl)),show valueAt ((j,u)::kvs) j=some u by simp[valueAt]];exact h1
   ·rw[show dG ((enc j,v)::l) (enc i)=dG l (enc i)from af (by rw[hk,decide_eq_false e];exact be),show valueAt ((j,u)::kvs) i=valueAt kvs i by simp[valueAt,e]];exact ih g h2
theorem uO{l:List (V×V)}{kvs:List (Int×Value)}{i:Int}:l.map (·.1)=kvs.map (fun p=>V.int p.1)→VRs K W (l.map (·.2)) (kvs.map (·.2))→DG K W (dG l (.int i)) (valueAt kvs i):=BA ia
theorem uc{l:List (V×V)}{kvs:List (Str×Value)}{i:List Nat}:l.map (·.1)=kvs.map (fun p=>V.str p.1.cps.toList)→VRs K W (l.map (·.2)) (kvs.map (·.2))→DG K W (dG l (.str i)) (valueAt kvs ⟨i.toArray⟩):=BA (enc:=fun x:Str=>V.str x.cps.toList) jz (i:=⟨i.toArray⟩)
theorem t7{x:V}(h:As x=some b)(V1:VR K W x u):(u==Value.none)=b:=by
 cases V1<;>first|exact Rk h|exact av h
theorem Oj{x:V}{f:Int→Int→Bool}{r:Bool}(h:(match x,y with | .int a,.int b=>some (f a b)|_,_=>.none)=some r):∃a b,x=.int a∧y=.int b∧f a b=r:=by
 induction x using cW<;>first|exact Rk h|(induction y using cW<;>first|exact Rk h|exact⟨_,_,rfl,rfl,av h⟩)
theorem xK{o:CmpOp}(G:Good cx fx RD)(C:cx.CR fx m RC W H s.heap){x:V}(V1:VR cx.K W x u)(V2:VR cx.K W y u')(h:Lw H x y=some b) (hQ:∀tk,(o=.In→Q (.bool b) {s with toks:=tk})∧(o=.NotIn→Q (.bool (!b)) {s with toks:=tk})) (ho:o=.In∨o=.NotIn):wpAny cx.mo fx.A (compareOp o u u') Q Er s:=by
 induction y using cW<;>first|exact Rk h|skip
 ·rename_i l;induction x using cW<;>first|exact Rk h|skip
  rename_i k;change(if l.all (fun | .str _=>true|_=>false)=true then some (l.any (fu (.str k)))else .none)=some b at h
  (refine PV h ?_;clear h;intro hl h)
  obtain rfl:=av h;obtain⟨a,vs,rfl,ht,hv⟩:=C.tuple G.X V2;induction V1 using RB;rename_i t;have key:∀(l:List V) (vs:List Value),VRs cx.K W l vs→l.all (fun | .str _=>true|_=>false)=true→
    (∀y∈vs,EqAt fx.A.in1 s y (.str ⟨k.toArray⟩ t) (match y with | .str z _=>z==⟨k.toArray⟩|_=>false))∧vs.any (fun y=>match y with | .str z _=>z==⟨k.toArray⟩|_=>false)=l.any (fu (.str k)):=by
   intro l;induction l with
   |nil=>intro vs h _;induction h using QF;exact⟨(fun y hy=>by cases hy),rfl⟩
   |cons p l ih=>
    intro vs h hl;induction h using QN;rename_i q vs h1 h2;rw[List.all_cons]at hl;obtain⟨hp,hl⟩:=M6.mp hl;obtain⟨i1,i2⟩:=ih vs h2 hl;induction p using cW<;>first|((first|exact CS hp|cases hp);done)|skip
    rename_i z;generalize hz:V.str z=pz at h1;cases h1<;>first|(cases hz;done)|skip
    ·cases hz;refine⟨fun y hy=>?_,?_⟩
     ·rcases uB.mp hy with rfl|hy
      ·exact EqAt.str_str _ _ _ _
      ·exact i1 y hy
     ·rw[List.any_cons,List.any_cons,i2];congr 1;show((⟨z.toArray⟩:Str)==⟨k.toArray⟩)=decide (k=z);rw[Et];exact decide_eq_decide.mpr ⟨Eq.symm,Eq.symm⟩
  obtain⟨k1,k2⟩:=key l vs hv hl;rcases ho with rfl|rfl
  ·refine in_tupleAt _ ht (fun y hy=>k1 y (by simpa using hy)) ?_;have e:vs.toArray.any (fun y=>match y with | .str z _=>z==⟨k.toArray⟩|_=>false)=l.any (fu (.str k)):=by rw[←k2];simp
   rw[e];exact(hQ s.toks).1 rfl
  ·refine notIn_tupleAt _ ht (fun y hy=>k1 y (by simpa using hy)) ?_;have e:vs.toArray.any (fun y=>match y with | .str z _=>z==⟨k.toArray⟩|_=>false)=l.any (fu (.str k)):=by rw[←k2];simp
   rw[e];exact(hQ s.toks).2 rfl
 ·rename_i r1 i1;change(match H.get r1 i1 with|some (.dict l)=>if cg x&&aW x l then some (dG l x).isSome else .none|_=>.none)=some b at h
  (refine QW h ?_;clear h;intro l hg h)
  (refine PV h ?_;clear h;intro hk h)
  obtain⟨hk1,hk2⟩:=M6.mp hk;obtain rfl:=av h;obtain⟨a,rfl,hat,hlen,hD⟩:=C.dict V2 hg;have hs:=C.notSys G ⟨a,none,hat,.inl rfl⟩;have D:=hD x hk1 hk2;induction D with
  |int i kvs d1 d2 d3=>
   induction V1 using Rs;have e:=uO (i:=i) d2 d3;rw[e.some]at hQ;rcases ho with rfl|rfl
   ·exact wpAny_in_of (ry _ _ _ _) hs d1.mapOf ((hQ _).1 rfl)
   ·exact wpAny_notIn_of (ry _ _ _ _) hs d1.mapOf ((hQ _).2 rfl)
  |str i kvs d1 d2 d3=>
   induction V1 using RB;have e:=uc (i:=i) d2 d3;rw[e.some]at hQ;rcases ho with rfl|rfl
   ·exact wpAny_in_of (rj _ _ _ _) hs d1.mapOf ((hQ _).1 rfl)
   ·exact wpAny_notIn_of (rj _ _ _ _) hs d1.mapOf ((hQ _).2 rfl)
theorem dL{o:CmpOp}(G:Good cx fx RD)(C:cx.CR fx m RC W H s.heap){x:V}(V1:VR cx.K W x u)(V2:VR cx.K W y u')(h:bO (eZ o) x y H=some b) (hQ:∀tk,Q (.bool b) {s with toks:=tk}):wpAny cx.mo fx.A (compareOp o u u') Q Er s:=by
 have hu:=G.units;have hu1:fx.A.units+1<cLine:=by omega
 cases o
 ·exact(xU C G.X V1 V2 h fx.A hu1).1 _ _ _ _ (hQ s.toks)
 ·obtain⟨c,h',rfl⟩:=Option.map_eq_some_iff.mp h;exact(xU C G.X V1 V2 h' fx.A hu1).2 _ _ _ _ (hQ s.toks)
 ·obtain⟨a,b,rfl,rfl,rfl⟩:=Oj h;induction V1 using Rs;induction V2 using Rs;exact PyProof.Rows.lt_int (hQ s.toks)
 ·obtain⟨a,b,rfl,rfl,rfl⟩:=Oj h;induction V1 using Rs;induction V2 using Rs;exact PyProof.Rows.le_int (hQ s.toks)
 ·obtain⟨a,b,rfl,rfl,rfl⟩:=Oj h;induction V1 using Rs;induction V2 using Rs;exact PyProof.Rows.gt_int (hQ s.toks)
 ·obtain⟨a,b,rfl,rfl,rfl⟩:=Oj h;induction V1 using Rs;induction V2 using Rs;exact PyProof.Rows.ge_int (hQ s.toks)
 ·induction y using cW<;>first|exact Rk h|skip
  induction V2 using Rx;exact PyProof.Rows.is_none_gen (by rw[t7 h V1];exact hQ s.toks)
 ·induction y using cW<;>first|exact Rk h|skip
  obtain⟨c,h',rfl⟩:=Option.map_eq_some_iff.mp h;induction V2 using Rx;exact PyProof.Rows.isnot_none_gen (by rw[t7 h' V1];exact hQ s.toks)
 ·exact xK G C V1 V2 h (fun tk=>⟨fun _=>hQ tk,fun q=>by cases q⟩) (.inl rfl)
 ·obtain⟨c,h',rfl⟩:=Option.map_eq_some_iff.mp h;exact xK G C V1 V2 h' (fun tk=>⟨(fun q=>by cases q),fun _=>hQ tk⟩) (.inr rfl)
end
section
variable{cx:Cx}{RD:Nat}{sc:Sc}{fx:Fx}{m:Str→Option Value}{RC:List (Addr×Obj)}{W:Wd}{H H':Hp}{s:Shared}{r:Nat}
theorem d8(G:Good cx fx RD)(C:cx.CR fx m RC W H s.heap)(V1:VR cx.K W v u)(h:dY v=some b){Q:Bool→Shared→Prop} (hQ:∀tk,Q b {s with toks:=tk}):wpAny cx.mo fx.A (truthy u) Q Er s:=by
 induction v using cW with
 |none=>obtain rfl:=av h;induction V1 using Rx;exact truthy_none (hQ s.toks)
 |bool=>obtain rfl:=av h;induction V1 using Rr;exact wpAny_truthy_bool (hQ s.toks)
 |int => 
  obtain rfl:=av h;induction V1 using Rs;rename_i i t;refine PyProof.Rows.truthy_int ?_;have e:(i != 0)=decide (i≠0):=by by_cases h:i=0<;>simp[h]
  rw[e];exact hQ s.toks
 |tup l=>
  change(if l.length≤9000 then some (!l.isEmpty)else .none)=some b at h
  (refine PV h ?_;clear h;intro hl h)
  induction h using QT;obtain⟨a,vs,rfl,ht,hv⟩:=C.tuple G.X V1;have hlen:=hv.length;refine truthy_tuple ht (by rw[aU,←hlen];exact Int.lt_of_le_of_lt (Int.ofNat_le.mpr hl) (by decide)) ?_;have e:vs.toArray.isEmpty=l.isEmpty:=by
   cases hv with
   |nil=>rfl
   |cons=>rfl
  rw[e];exact hQ _
 |_=>exact Rk h
theorem HC{a:Expr}{T:Tv}(ha:iT cx RD sc a T):iT cx RD sc (.UnaryOp .Not a pos) (lK T):=by
 intro fx m RC ρ W H s b H' r Q Er G GG LL C hE hQ;unfold lK at hE
 (refine QD hE ?_;clear hE;intro b' H₁ h1 hE)
 induction hE using QM;exact isTrue_not (ha fx m RC ρ W H s _ _ r _ Er G GG LL C h1 fun W' h' tk l C'=>hQ W' h' tk l C')
theorem Jf{f:Expr→Tv}(h:∀e∈es,iT cx RD sc e (f e)):iT cx RD sc (.BoolOp .And es pos) (iU (es.map f)):=by
 induction es with
 |nil=>
  intro fx m RC ρ W H s b H' r Q Er G GG LL C hE hQ
  (refine QU hE ?_;clear hE;intro e;cases e)
  exact isTrue_and_nil (hQ W s.heap s.toks (.refl W) C)
 |cons e es ih=>
  intro fx m RC ρ W H s b H' r Q Er G GG LL C hE hQ;refine isTrue_and (Gu hE (fun H₁ h1 hE=>?_) fun H₁ h1 hE=>?_)
  ·refine h e ak fx m RC ρ W H s _ _ r _ Er G GG LL C h1 fun W₁ h₁ tk₁ l₁ C₁=>?_;rw[ac rfl];exact ih (fun e he=>h e (aD _ he)) fx m RC ρ W₁ H₁ (sH s h₁ tk₁) b H' r Q Er G GG (LL.mono l₁) C₁ hE fun W₂ h₂ tk₂ l₂ C₂=>hQ W₂ h₂ tk₂ (l₁.trans l₂) C₂
  ·induction hE using QM;refine h e ak fx m RC ρ W H s _ _ r _ Er G GG LL C h1 fun W₁ h₁ tk₁ l₁ C₁=>?_;rw[af be];exact hQ W₁ h₁ tk₁ l₁ C₁
theorem JJ{f:Expr→Tv}(h:∀e∈es,iT cx RD sc e (f e)):iT cx RD sc (.BoolOp .Or es pos) (Ds (es.map f)):=by
 induction es with
 |nil=>
  intro fx m RC ρ W H s b H' r Q Er G GG LL C hE hQ
  (refine QU hE ?_;clear hE;intro e;cases e)
  exact isTrue_or_nil (hQ W s.heap s.toks (.refl W) C)
 |cons e es ih=>
  intro fx m RC ρ W H s b H' r Q Er G GG LL C hE hQ;refine isTrue_or (Gu hE (fun H₁ h1 hE=>?_) fun H₁ h1 hE=>?_)
  ·induction hE using QM;refine h e ak fx m RC ρ W H s _ _ r _ Er G GG LL C h1 fun W₁ h₁ tk₁ l₁ C₁=>?_;rw[ac rfl];exact hQ W₁ h₁ tk₁ l₁ C₁
  ·refine h e ak fx m RC ρ W H s _ _ r _ Er G GG LL C h1 fun W₁ h₁ tk₁ l₁ C₁=>?_;rw[af be];exact ih (fun e he=>h e (aD _ he)) fx m RC ρ W₁ H₁ (sH s h₁ tk₁) b H' r Q Er G GG (LL.mono l₁) C₁ hE fun W₂ h₂ tk₂ l₂ C₂=>hQ W₂ h₂ tk₂ (l₁.trans l₂) C₂
theorem kp{E:Ev}(ha:aN cx RD sc e E)(he:∀env whole,isTrue e env whole=(do let v ←whole;standAt e.pos;holding [v] (truthy v))):iT cx RD sc e (aV E):=by
 intro fx m RC ρ W H s b H' r Q Er G GG LL C hE hQ;unfold aV at hE
 (refine Pn hE ?_;clear hE;intro v H₁ h1 hE)
 (refine Q7 hE ?_;clear hE;intro b' hb hE)
 induction hE using QM;refine isTrue_plain (ha fx m RC ρ W H s _ _ r _ Er G GG LL C h1 fun W₁ h₁ tk₁ u l₁ C₁ V₁=>?_) (he _ _);exact d8 G (s:=(sH s h₁ tk₁)) C₁ V₁ hb fun tk=>hQ W₁ h₁ tk l₁ C₁
theorem JD{a:Expr}{E:Ev}(ha:aN cx RD sc a E):aN cx RD sc (.UnaryOp .Not a pos) (bE (lK (aV E))):=by
 intro fx m RC ρ W H s v H' r Q Er G GG LL C hE hQ;unfold bE lK aV at hE
 (refine QD hE ?_;clear hE;intro b H₁ h1 hE)
 induction hE using QM
 (refine QD h1 ?_;clear h1;intro b' H₂ h2 h1)
 induction h1 using QM
 (refine Pn h2 ?_;clear h2;intro v H₃ h3 h2)
 (refine Q7 h2 ?_;clear h2;intro b'' hb h2)
 induction h2 using QM;refine wpAny_UnaryOp (ha fx m RC ρ W H s _ _ r _ Er G GG LL C h3 fun W₁ h₁ tk₁ u l₁ C₁ V₁=>not_of ?_);exact d8 G (s:=(sH s h₁ tk₁)) C₁ V₁ hb fun tk=>hQ W₁ h₁ tk _ l₁ C₁ (.bool _)
theorem tP{E:Ev}(h:(∀x k p,e≠.Set x k p))(op:CmpOp):behindInMarks op e=false:=by
 induction e using Expr.casesOn<;>first|rfl|exact absurd rfl (h _ _ _)
theorem p8{o:COp}{t:Bool}(h:aA o Ea Eb ρ r H=some (t,H')):∃x H₁ y,Ea ρ r H=some (x,H₁)∧Eb ρ r H₁=some (y,H')∧bO o x y H'=some t:=by
 unfold aA at h
 (refine Pn h ?_;clear h;intro x H₁ e1 h)
 (refine Pn h ?_;clear h;intro y H₂ e2 h)
 (refine Q7 h ?_;clear h;intro t' e3 h)
 induction h using QM;exact⟨x,H₁,y,e1,e2,e3⟩
theorem vw{T:Tv}(h:bE T ρ r H=some (v,H')):∃b,v=.bool b∧T ρ r H=some (b,H'):=by
 unfold bE at h
 (refine QD h ?_;clear h;intro b H₁ e h)
 induction h using QM;exact⟨b,rfl,e⟩
theorem JA{o:CmpOp}{a b:Expr}(ha:aN cx RD sc a Ea)(hb:aN cx RD sc b Eb)(hs:∀x k p,b≠.Set x k p):aN cx RD sc (.Compare a [o] [b] pos) (bE (aA (eZ o) Ea Eb)):=by
 intro fx m RC ρ W H s v H' r Q Er G GG LL C hE hQ;obtain⟨t,rfl,hB⟩:=vw hE;obtain⟨x,H₁,y,h1,h2,h3⟩:=p8 hB;refine wpAny_Compare1 (kn (Q:=fun u u' s₂=>wpAny cx.mo fx.A (compareOp o u u') Q Er s₂) ha hb G GG LL C h1 h2 fun W' h' tk u u' l C' V1 V2=>?_) (tP (E:=Eb) hs o);exact dL G (s:=(sH s h' tk)) C' V1 V2 h3 fun tk'=>hQ W' h' tk' _ l C' (.bool _)
theorem HB{o:CmpOp}{a b:Expr}(ha:aN cx RD sc a Ea)(hb:aN cx RD sc b Eb)(hs:∀x k p,b≠.Set x k p):iT cx RD sc (.Compare a [o] [b] pos) (aA (eZ o) Ea Eb):=by
 intro fx m RC ρ W H s t H' r Q Er G GG LL C hE hQ;obtain⟨x,H₁,y,h1,h2,h3⟩:=p8 hE;refine wpAny_isTrue_Compare1 (kn (Q:=fun u u' s₂=>wpAny cx.mo fx.A (compareOp o u u') (fun c s₃=>wpAny cx.mo fx.A (truthy c) Q Er s₃) Er s₂) ha hb G GG LL C h1 h2 fun W' h' tk u u' l C' V1 V2=>?_) (tP (E:=Eb) hs o);exact dL G (s:=(sH s h' tk)) C' V1 V2 h3 fun tk'=>wpAny_truthy_bool (hQ W' h' tk' l C')
theorem uM{o o':COp}{Ec:Ev}{t:Bool}(h:gy o o' Ea Eb Ec ρ r H=some (t,H')):∃x H₁ y H₂ t₁,Ea ρ r H=some (x,H₁)∧Eb ρ r H₁=some (y,H₂)∧bO o x y H₂=some t₁∧((t₁=false∧t=false∧H'=H₂)∨(t₁=true∧∃z,Ec ρ r H₂=some (z,H')∧bO o' y z H'=some t)):=by
 unfold gy at h
 (refine Pn h ?_;clear h;intro x H₁ e1 h)
 (refine Pn h ?_;clear h;intro y H₂ e2 h)
 refine Pm h ?_ ?_<;>clear h
 ·intro e3 h
  (refine Pn h ?_;clear h;intro z H₃ e4 h)
  (refine Q7 h ?_;clear h;intro t' e5 h)
  induction h using QM;exact⟨x,H₁,y,H₂,true,e1,e2,e3,.inr ⟨rfl,z,e4,e5⟩⟩
 ·intro e3 h;induction h using QM;exact⟨x,H₁,y,_,false,e1,e2,e3,.inl ⟨rfl,rfl,rfl⟩⟩
theorem HK{o o':CmpOp}{a b c:Expr}{Ec:Ev}(ha:aN cx RD sc a Ea)(hb:aN cx RD sc b Eb)(hc:aN cx RD sc c Ec)(hs:∀x k p,c≠.Set x k p):aN cx RD sc (.Compare a [o,o'] [b,c] pos) (bE (gy (eZ o) (eZ o') Ea Eb Ec)):=by
 intro fx m RC ρ W H s v H' r Q Er G GG LL C hE hQ;obtain⟨t,rfl,hB⟩:=vw hE;obtain⟨x,H₁,y,H₂,t₁,h1,h2,h3,h4⟩:=uM hB;refine Compare_chain (kn (Q:=fun u u' s₂=>wpAny cx.mo fx.A (compareOp o u u') (fun w s₃=>wpAny cx.mo fx.A (truthy w) (fun t s₄=>if t then wpAny cx.mo fx.A (compareChain pos u' [o'] [eval c fx.env]) Q Er s₄ else Q w s₄) Er s₃) Er s₂)
  ha hb G GG LL C h1 h2 (fun W' h' tk u u' l C' V1 V2=>?_) |> (fun z=>bj z (fun _ _ z=>chain_link z) fun _ _ z=>z)) (by
   show behindInMarks o' c=false;exact tP (E:=Ec) hs o')
 refine dL G (s:=(sH s h' tk)) C' V1 V2 h3 fun tk'=>wpAny_truthy_bool ?_;rcases h4 with⟨rfl,rfl,rfl⟩|⟨rfl,z,e4,e5⟩
 ·rw[af be];exact hQ W' h' tk' _ l C' (.bool _)
 ·rw[ac rfl];refine chain_last (hc fx m RC ρ W' H₂ (sH s h' tk') z H' r _ Er G GG (LL.mono l) C' e4 fun W₂ h₂ tk₂ u₂ l₂ C₂ V₂=>?_);exact dL G (s:=(sH s h₂ tk₂)) C₂ (V2.mono l₂) V₂ e5 fun tk₃=>hQ W₂ h₂ tk₃ _ (l.trans l₂) C₂ (.bool _)
theorem FJ{o o':CmpOp}{a b c:Expr}{Ec:Ev}(ha:aN cx RD sc a Ea)(hb:aN cx RD sc b Eb)(hc:aN cx RD sc c Ec)(hs:∀x k p,c≠.Set x k p):iT cx RD sc (.Compare a [o,o'] [b,c] pos) (gy (eZ o) (eZ o') Ea Eb Ec):=by
 intro fx m RC ρ W H s t H' r Q Er G GG LL C hE hQ;obtain⟨x,H₁,y,H₂,t₁,h1,h2,h3,h4⟩:=uM hE;refine isTrue_chain (kn (Q:=fun u u' s₂=>wpAny cx.mo fx.A (compareOp o u u') (fun w s₃=>wpAny cx.mo fx.A (truthy w) (fun t s₄=>if t then wpAny cx.mo fx.A (testChain pos u' [o'] [eval c fx.env]) Q Er s₄ else Q false s₄) Er s₃) Er s₂)
  ha hb G GG LL C h1 h2 (fun W' h' tk u u' l C' V1 V2=>?_) |> (fun z=>bj z (fun _ _ z=>test_link z) fun _ _ z=>z)) (by
   show behindInMarks o' c=false;exact tP (E:=Ec) hs o')
 refine dL G (s:=(sH s h' tk)) C' V1 V2 h3 fun tk'=>wpAny_truthy_bool ?_;rcases h4 with⟨rfl,rfl,rfl⟩|⟨rfl,z,e4,e5⟩
 ·rw[af be];exact hQ W' h' tk' l C'
 ·rw[ac rfl];refine test_last (hc fx m RC ρ W' H₂ (sH s h' tk') z H' r _ Er G GG (LL.mono l) C' e4 fun W₂ h₂ tk₂ u₂ l₂ C₂ V₂=>?_);exact dL G (s:=(sH s h₂ tk₂)) C₂ (V2.mono l₂) V₂ e5 fun tk₃=>wpAny_truthy_bool (hQ W₂ h₂ tk₃ (l.trans l₂) C₂)
theorem Li{a b:Expr}{T:Tv}(ht:iT cx RD sc t T)(ha:aN cx RD sc a Ea)(hb:aN cx RD sc b Eb):aN cx RD sc (.IfExp t a b pos) (t9 T Ea Eb):=by
 intro fx m RC ρ W H s v H' r Q Er G GG LL C hE hQ;unfold t9 at hE;refine Gu hE ?_ ?_<;>clear hE
 ·intro H₁ h1 hE;refine wpAny_IfExp (ht fx m RC ρ W H s _ _ r _ Er G GG LL C h1 fun W₁ h₁ tk₁ l₁ C₁=>?_);rw[ac rfl];exact ha fx m RC ρ W₁ H₁ (sH s h₁ tk₁) v H' r Q Er G GG (LL.mono l₁) C₁ hE fun W₂ h₂ tk₂ u l₂ C₂=>hQ W₂ h₂ tk₂ u (l₁.trans l₂) C₂
 ·intro H₁ h1 hE;refine wpAny_IfExp (ht fx m RC ρ W H s _ _ r _ Er G GG LL C h1 fun W₁ h₁ tk₁ l₁ C₁=>?_);rw[af be];exact hb fx m RC ρ W₁ H₁ (sH s h₁ tk₁) v H' r Q Er G GG (LL.mono l₁) C₁ hE fun W₂ h₂ tk₂ u l₂ C₂=>hQ W₂ h₂ tk₂ u (l₁.trans l₂) C₂
theorem rc{op:BoolOp}{x y:Sem Value}{rest:List (Sem Value)} (h:wpAny M A x (fun v s₁=>wpAny M A (truthy v) (fun t s₂=>if(match op,t with | .And,false | .Or,true=>true|_,_=>false)=true then Q v s₂ else wpAny M A (boolOp pos op (y::rest)) Q E s₂) E s₁) E s) :
  wpAny M A (boolOp pos op (x::y::rest)) Q E s:=by
 show wpAny M A (x>>=_) Q E s;refine ab (bj h (fun v s₁ h₁=>ab (wpAny_standAt (ab (bz (bj h₁ (fun t s₂ h₂=>?_) fun _ _ z=>z))))) fun _ _ z=>z);cases op<;>induction t using jT
 ·exact ah h₂
 ·exact h₂
 ·exact h₂
 ·exact ah h₂
theorem I1(h:∀e∈es,aN cx RD sc e (f e)):aN cx RD sc (.BoolOp .And es pos) (jZ (es.map f)):=by
 intro fx m RC ρ W H s v H' r Q Er G GG LL C hE hQ;show wpAny _ _ (boolOp pos .And (evalEach es fx.env)) _ _ _;induction es generalizing W H s with
 |nil=>exact Rk hE
 |cons e es ih=>
  induction es using jL with
  |nil=>exact h e ak fx m RC ρ W H s v H' r Q Er G GG LL C hE hQ
  |cons e' es=>
   refine rc (x:=eval e fx.env) (Pn hE fun w H₁ h1 hE=>?_);refine h e ak fx m RC ρ W H s w H₁ r _ Er G GG LL C h1 fun W₁ h₁ tk₁ u l₁ C₁ V₁=>?_;refine Pm hE (fun hb hE=>?_) fun hb hE=>?_
   ·refine d8 G (s:=(sH s h₁ tk₁)) C₁ V₁ hb fun tk=>?_;rw[af (fun e=>nomatch e)];exact ih (fun e he=>h e (aD _ he)) W₁ H₁ (sH s h₁ tk) (LL.mono l₁) C₁ hE fun W₂ h₂ tk₂ u l₂ C₂=>hQ W₂ h₂ tk₂ u (l₁.trans l₂) C₂
   ·induction hE using QM;refine d8 G (s:=(sH s h₁ tk₁)) C₁ V₁ hb fun tk=>?_;rw[ac rfl];exact hQ W₁ h₁ tk u l₁ C₁ V₁
theorem J3(h:∀e∈es,aN cx RD sc e (f e)):aN cx RD sc (.BoolOp .Or es pos) (Hl (es.map f)):=by
 intro fx m RC ρ W H s v H' r Q Er G GG LL C hE hQ;show wpAny _ _ (boolOp pos .Or (evalEach es fx.env)) _ _ _;induction es generalizing W H s with
 |nil=>exact Rk hE
 |cons e es ih=>
  induction es using jL with
  |nil=>exact h e ak fx m RC ρ W H s v H' r Q Er G GG LL C hE hQ
  |cons e' es=>
   refine rc (x:=eval e fx.env) (Pn hE fun w H₁ h1 hE=>?_);refine h e ak fx m RC ρ W H s w H₁ r _ Er G GG LL C h1 fun W₁ h₁ tk₁ u l₁ C₁ V₁=>?_;refine Pm hE (fun hb hE=>?_) fun hb hE=>?_
   ·induction hE using QM;refine d8 G (s:=(sH s h₁ tk₁)) C₁ V₁ hb fun tk=>?_;rw[ac rfl];exact hQ W₁ h₁ tk u l₁ C₁ V₁
   ·refine d8 G (s:=(sH s h₁ tk₁)) C₁ V₁ hb fun tk=>?_;rw[af (fun e=>nomatch e)];exact ih (fun e he=>h e (aD _ he)) W₁ H₁ (sH s h₁ tk) (LL.mono l₁) C₁ hE fun W₂ h₂ tk₂ u l₂ C₂=>hQ W₂ h₂ tk₂ u (l₁.trans l₂) C₂
end
set_option tactic.hygienic false
noncomputable def ol(K:Frag)(C:Addr)(n:Str):Bool:= plainGet K C n&&hasDictIn K C&&(findIn K (.ref C) n==some none)&&(findIn K (.ref C) "__setattr__" == some (some (.builtin "object.__setattr__")))&&plainOver K C
structure DL(cx:Cx):Prop where
 fld:∀C f,cx.okf C f=true→∃n,cx.names[f]?=some n∧ol cx.K C n=true
 nam:∀(i j:Nat) (n:Str),cx.names[i]?=some n→cx.names[j]?=some n→i=j
section
theorem F9(h:VR K W v u):handedIn u=true:=by cases h<;>rfl
theorem qM(n n':Str)(t:Tok):(Value.str n' t).isStr n=decide (n'=n):=by
 show(n'==n)=_;by_cases h:n'=n<;>simp[h]
theorem Gm{n:Str}{e:DictEntry}{es:List DictEntry}(h:e.key.isStr n=true):getL n (e::es)=some (some e.val):=by
 unfold getL;rw[List.find?_cons,h]
theorem x9{n:Str}{e:DictEntry}{es:List DictEntry}(h:e.key.isStr n=false)(hr:e.refKey=false):getL n (e::es)=getL n es:=by
 unfold getL;rw[List.find?_cons,h,List.any_cons,hr,Bool.false_or]
theorem oE(hn:∀(i j:Nat) (n:Str),names[i]?=some n→names[j]?=some n→i=j){f:Nat}{n:Str}(hf:names[f]?=some n):∀{l:List (Nat×V)} {es:List DictEntry},fieldEnt K names W l es→(match Ae l f with|some v=>∃u,getL n es=some (some u)∧VR K W v u|none=>getL n es=some none):=by
 intro zz;induction zz with
 |nil=>
  intro zq1;induction zq1 using jL with
  |nil=>
   intro _;exact rfl
  |cons e es=>
   intro h;exact h.elim
 |cons zq2 zq3 ih=>
  intro zq4;induction zq4 using jL with
  |nil=>
   intro h;exact h.elim
  |cons e es=>
   intro h;obtain⟨g,v⟩:=zq2;obtain⟨⟨n',h1,⟨t,h2⟩,h3⟩,h4⟩:=h;have ih:=ih h4;have hr:e.refKey=false:=by unfold DictEntry.refKey;rw[h2]
   have hk:e.key.isStr n=decide (n'=n):=by rw[h2];exact qM n n' t
   show(match(if Nat.beq g f then some v else Ae zq3 f)with|some _=>_ | .none=>_);by_cases hg:g=f
   ·subst hg;rw[hf]at h1;induction h1 using QT;rw[Nat.beq_refl,ac rfl,Gm (by rw[hk];simp)];exact⟨_,rfl,h3⟩
   ·have hne:¬n'=n:=fun q=>hg (hn g f n (q▸h1) hf);have hb:Nat.beq g f=false:=by
     induction q:Nat.beq g f with
     |false=>rfl
     |true=>exact absurd (Nat.eq_of_beq_eq_true q) hg
    rw[hb,af be,x9 (by rw[hk];simp[hne]) hr];exact ih
theorem zZ(hn:∀(i j:Nat) (n:Str),names[i]?=some n→names[j]?=some n→i=j){f:Nat}{n:Str}(hf:names[f]?=some n)(hv:VR K W v u)(hsh:Int)(t:Tok):∀{l:List (Nat×V)} {es:List DictEntry},fieldEnt K names W l es→fieldEnt K names W (iS l f v) (putL n hsh (.str n t) u es):=by
 intro zz;induction zz with
 |nil=>
  intro zq1;induction zq1 using jL with
  |nil=>
   intro _;exact⟨⟨n,hf,⟨t,rfl⟩,hv⟩,trivial⟩
  |cons e es=>
   intro h;exact h.elim
 |cons zq2 zq3 ih=>
  intro zq4;induction zq4 using jL with
  |nil=>
   intro h;exact h.elim
  |cons e es=>
   intro h;obtain⟨g,w⟩:=zq2;obtain⟨⟨n',h1,⟨t',h2⟩,h3⟩,h4⟩:=h;have ih:=ih h4;have hk:e.key.isStr n=decide (n'=n):=by rw[h2];exact qM n n' t'
   show fieldEnt K names W (if Nat.beq g f then(g,v)::zq3 else(g,w)::iS zq3 f v) _;unfold putL;rw[hk];by_cases hg:g=f
   ·subst hg;rw[hf]at h1;induction h1 using QT;simp only[Nat.beq_refl,if_true,decide_true];exact⟨⟨n,hf,⟨t',h2⟩,hv⟩,h4⟩
   ·have hne:¬n'=n:=fun q=>hg (hn g f n (q▸h1) hf);have hb:Nat.beq g f=false:=by
     induction q:Nat.beq g f with
     |false=>rfl
     |true=>exact absurd (Nat.eq_of_beq_eq_true q) hg
    simp only[hb,hne,decide_false,Bool.false_eq_true,if_false];exact⟨⟨n',h1,⟨t',h2⟩,h3⟩,ih⟩
theorem oY:∀{l:List (Nat×V)} {es:List DictEntry},fieldEnt K names W l es→l.length=es.length:=by
 intro zz;induction zz with
 |nil=>
  intro zq1;induction zq1 using jL with
  |nil=>
   intro _;exact rfl
  |cons e es=>
   intro h;exact h.elim
 |cons zq2 zq3 ih=>
  intro zq4;induction zq4 using jL with
  |nil=>
   intro h;exact h.elim
  |cons zq5 es=>
   intro h;simp[ih h.2]
theorem Br(f:Nat)(v:V):∀l:List (Nat×V),(iS l f v).length≤l.length+1
 |[]=>aS _
 |(g,w)::l=>pQ (P:=fun z:List (Nat×V)=>z.length≤_) (fun _=>Nat.le_succ _) fun _=>Nat.succ_le_succ (Br f v l)
theorem Ia{f:Nat}(hf:okf C f=true):∀{l:List (Nat×V)},(∀p∈l,okf C p.1=true)→∀p∈iS l f v,okf C p.1=true:=by
 intro zz;induction zz with
 |nil=>
  intro _ p hp;rw[Oc.mp hp];exact hf
 |cons zq1 zq2 ih=>
  intro h p hp;obtain⟨g,w⟩:=zq1;by_cases c:Nat.beq g f=true
  ·rw[show iS ((g,w)::zq2) f v=_ from ac c]at hp;rcases uB.mp hp with rfl|hp
   ·exact h (g,w) ak
   ·exact h p (aD _ hp)
  ·rw[show iS ((g,w)::zq2) f v=_ from af c]at hp;rcases uB.mp hp with rfl|hp
   ·exact h (g,w) ak
   ·exact ih (fun p hp=>h p (aD _ hp)) p hp
theorem CR.inst(C₀:cx.CR fx m RC W H s.heap){l:List (Nat×V)}(V1:VR cx.K W (.ref r i) u)(hg:H.get r i=some (.inst C l)):∃x d es n,u=.ref x∧W.at r i=some (x,some d)∧s.heap.get? x=some (instObj C d)∧s.heap.get? d=some (dictOf es n)∧fieldEnt cx.K cx.names W l es∧l.length≤100∧(∀p∈l,cx.okf C p.1=true)∧InstAt s.heap x (instObj C d) C (some (dictOf es n)):=by
 cases V1 with
 |ref _ _ x dx e=>
  obtain⟨x',dx',e',a,b,d,es,n,c1,c2,c3,c4⟩:=C₀.obj r i _ hg;rw[e]at e';induction e' using QM;subst c1;exact⟨x,d,es,n,rfl,e,c2,c3,c4,a,b,c2,rfl,rfl,c3⟩
theorem BY{f:Nat}:∀{l:List (Nat×V)},Ae l f=some v→∃w,(f,w)∈l
 |(g,w)::l,h=>by
  refine tR h ?_ ?_<;>clear h
  ·intro q h;rw[Nat.eq_of_beq_eq_true q];exact⟨w,ak⟩
  ·intro _ h;obtain⟨w',h'⟩:=BY h;exact⟨w',aD _ h'⟩
theorem vU(KH:DL cx)(G:Good cx fx RD)(C₀:cx.CR fx m RC W H s.heap){l:List (Nat×V)}{f:Nat}{n:Str}(V1:VR cx.K W (.ref r i) u)(hg:H.get r i=some (.inst C l)) (hn:cx.names[f]?=some n) (hf:Ae l f=some v) (hQ:Post cx fx m RC W H s v Q):wpAny cx.mo fx.A (getAttr u n b) Q Er s:=by
 obtain⟨x,d,es,k,rfl,hat,hx,hd,he,hlen,hok,I⟩:=C₀.inst V1 hg;obtain⟨w,hw⟩:=BY hf;obtain⟨n',hn',hfo⟩:=KH.fld C f (hok _ hw);rw[hn]at hn';induction hn' using QT;simp only[ol,aY,iu]at hfo;obtain⟨⟨⟨⟨f1,f2⟩,f3⟩,f4⟩,f5⟩:=hfo;have hget:=oE KH.nam hn he;rw[hf]at hget;obtain⟨u,g1,g2⟩:=hget;exact get_own C₀.fr G.X I f1 f2 f3 rfl g1 (F9 g2) (hQ.at C₀ _ g2)
theorem Je(KH:DL cx){a:Expr}{n:Str}{f:Nat}(ha:aN cx RD sc a Ea)(hn:cx.names[f]?=some n)(hb:∀env t,attributeBase a n env t=t):aN cx RD sc (.Attribute a n pos) (ae Ea f):=by
 intro fx m RC ρ W H s v H' r Q Er G GG LL C hE hQ;unfold ae at hE
 (refine P6 hE ?_;clear hE;intro r1 i1 H₁ h1 hE)
 (refine QY hE ?_;clear hE;intro c l hg hE)
 (refine Rt hE ?_;clear hE;intro v' hf hE)
 induction hE using QM;refine Attribute_any_ (ha fx m RC ρ W H s _ _ r _ Er G GG LL C h1 fun W₁ h₁ tk₁ u l₁ C₁ V₁=>?_) (by
  show(do
   let o ←attributeBase a n fx.env (eval a fx.env)
   standAt pos.atName
   let r ←holding [o] (getAttr o n true);letTemporaryGo a o r
   pure r)=_
  rw[hb])
 exact vU KH G (s:=(sH s h₁ tk₁)) C₁ V₁ hg hn hf fun W₂ h₂ tk₂ u₂ l₂ C₂ V₂=>hQ W₂ h₂ tk₂ u₂ (l₁.trans l₂) C₂ V₂
end
section
variable{w:World}{K:Frag}{names:List Str}{okf:Addr→Nat→Bool}{fx:Fx}{m:Str→Option Value}{RC:List (Addr×Obj)}{W:Wd}{H:Hp}{h h':Heap}
theorem CR.lt(C:CR w K names okf fx m RC W H h):(∀r i a,W.has r i a→a<h.objs.size)∧(∀q∈W.tups,q.1<h.objs.size)∧(∀q∈fx.frn++RC,q.1<h.objs.size):=by
 refine⟨fun r i a x=>?_,fun q hq=>?_,fun q hq=>aZ (C.keep q hq).1⟩
 ·obtain⟨o,ho,_⟩:=C.has_some x;exact aZ ho
 ·obtain⟨⟨n,e⟩,_⟩:=C.tup q hq;exact aZ e
theorem CR.pushAux(C:CR w K names okf fx m RC W H h)(o:Obj)(hf:o.isFreed=false)(ht:notTuple o):CR w K names okf fx m ((h.objs.size,o)::RC) W H (h.push o):=by
 have C':=C.push o;obtain⟨l1,l2,l3⟩:=C.lt;have fr:=C.fresh;refine⟨C'.fr,C'.shape,C'.obj,C'.tup,fun q hq=>?_,C'.inj,fun r i a x=>?_,?_,fun q hq=>?_⟩
 ·rcases NH.mp hq with hq|hq
  ·exact C'.keep q (aT _ hq)
  ·rcases uB.mp hq with rfl|hq
   ·exact⟨cq _ hf,fr.1,fr.2⟩
   ·exact C'.keep q (ax _ hq)
 ·obtain⟨a1,a2,a3⟩:=C.ap r i a x;refine⟨a1,a2,fun q hq=>?_⟩;rcases NH.mp hq with hq|hq
  ·exact a3 q (aT _ hq)
  ·rcases uB.mp hq with rfl|hq
   ·exact Nat.ne_of_gt (l1 r i a x)
   ·exact a3 q (ax _ hq)
 ·refine⟨?_,fun q hq p hp=>?_⟩
  ·rw[List.map_cons,List.nodup_cons];refine⟨fun hm=>?_,C.axd.1⟩;obtain⟨q,hq,e⟩:=MQ.mp hm;exact absurd (l3 q (ax _ hq)) (by rw[e];exact Nat.lt_irrefl _)
  ·rcases uB.mp hq with rfl|hq
   ·exact Nat.ne_of_gt (l3 p (aT _ hp))
   ·exact C.axd.2 q hq p hp
 ·rcases uB.mp hq with rfl|hq
  ·exact ht
  ·exact C.axk q hq
theorem CR.subAux(C:CR w K names okf fx m RC W H h){aux':List (Addr×Obj)}(hs:aux'.Sublist RC):CR w K names okf fx m aux' W H h:=by
 have hm:∀q,q∈aux'→q∈RC:=fun q hq=>hs.subset hq;have hm2:∀q,q∈fx.frn++aux'→q∈fx.frn++RC:=fun q hq=>by
  rcases NH.mp hq with hq|hq
  ·exact aT _ hq
  ·exact ax _ (hm q hq)
 exact⟨C.fr,C.shape,C.obj,C.tup,fun q hq=>C.keep q (hm2 q hq),C.inj,fun r i a x=>⟨(C.ap r i a x).1,(C.ap r i a x).2.1,fun q hq=>(C.ap r i a x).2.2 q (hm2 q hq)⟩,
  ⟨C.axd.1.sublist (hs.map _),fun q hq=>C.axd.2 q (hm q hq)⟩,fun q hq=>C.axk q (hm q hq)⟩
theorem CR.dropAux(C:CR w K names okf fx m RC W H h){q:Addr×Obj}{aux':List (Addr×Obj)}(e:RC=q::aux'):CR w K names okf fx m aux' W H h:=C.subAux (e▸List.sublist_cons_self _ _)
theorem CR.updAux{pre post:List (Addr×Obj)}{o o':Obj}(C:CR w K names okf fx m (pre++(a,o)::post) W H h)(hs:Heap.SameBut a h h')(ho:h'.get? a=some o')(ht:notTuple o'):CR w K names okf fx m (pre++(a,o')::post) W H h':=by
 have ha:=C.keep (a,o) (ax _ (ax _ ak));have hne:∀q∈fx.frn++(pre++(a,o')::post),q.1≠a→q∈fx.frn++(pre++(a,o)::post):=fun q hq hn=>by
  rcases NH.mp hq with hq|hq
  ·exact aT _ hq
  ·refine ax _ ?_;rcases NH.mp hq with hq|hq
   ·exact aT _ hq
   ·rcases uB.mp hq with rfl|hq
    ·exact absurd rfl hn
    ·exact ax _ (aD _ hq)
 have hh:∀r i b,W.has r i b→b≠a:=fun r i b x e=>(C.ap r i b x).2.2 (a,o) (ax _ (ax _ ak)) e.symm;have nd:=C.axd.1;rw[List.map_append,List.map_cons]at nd;have one:∀q∈fx.frn++(pre++(a,o')::post),q.1=a→q=(a,o'):=fun q hq e=>by
  rcases NH.mp hq with hq|hq
  ·exact absurd e.symm (C.axd.2 (a,o) (ax _ ak) q hq)
  ·rcases NH.mp hq with hq|hq
   ·have:=(List.nodup_append.mp nd).2.2 q.1 (List.mem_map_of_mem hq) a ak;exact absurd e this
   ·rcases uB.mp hq with rfl|hq
    ·rfl
    ·have:=(List.nodup_cons.mp (List.nodup_append.mp nd).2.1).1;exact absurd (show a∈post.map (·.1)from e▸List.mem_map_of_mem hq) this
 refine⟨⟨C.fr.ns.sameBut hs (Ne.symm ha.2.2),fun b q e=>(hs.2 b (fun eb=>by rw[eb,ha.2.1]at e;exact Rk e)).trans (C.fr.keep b q e),C.fr.above⟩,C.shape,fun r i q hq=>?_,fun q hq=>?_,fun q hq=>?_,C.inj,fun r i b x=>?_,?_,fun q hq=>?_⟩
 ·obtain⟨x,dx,b1,b2⟩:=C.obj r i q hq;exact⟨x,dx,b1,b2.same (hs.2 x (hh r i x ⟨x,dx,b1,.inl rfl⟩)) fun d hd=>hs.2 d (hh r i d ⟨x,dx,b1,.inr hd⟩)⟩
 ·obtain⟨⟨n,b1⟩,b2⟩:=C.tup q hq;refine⟨⟨n,(hs.2 q.1 fun e=>?_).trans b1⟩,b2⟩;have h1:h.get? a=some o:=ha.1;have h2:h.get? a=some _:=e▸b1;rw[h1]at h2
  (refine QU h2 ?_;clear h2;rintro rfl)
  exact C.axk (a,_) (ax _ ak) ⟨rfl,_,_,rfl⟩
 ·by_cases e:q.1=a
  ·rw[one q hq e];exact⟨ho,ha.2⟩
  ·have:=C.keep q (hne q hq e);exact⟨(hs.2 q.1 e).trans this.1,this.2⟩
 ·refine⟨(C.ap r i b x).1,(C.ap r i b x).2.1,fun q hq e=>?_⟩;by_cases e':q.1=a
  ·exact hh r i b x (e.symm.trans e')
  ·exact(C.ap r i b x).2.2 q (hne q hq e') e
 ·refine⟨by rw[List.map_append,List.map_cons];exact nd,fun q hq p hp=>?_⟩;by_cases e:q.1=a
  ·rw[e];exact C.axd.2 (a,o) (ax _ ak) p hp
  ·refine C.axd.2 q ?_ p hp;rcases NH.mp hq with hq|hq
   ·exact aT _ hq
   ·rcases uB.mp hq with rfl|hq
    ·exact absurd rfl e
    ·exact ax _ (aD _ hq)
 ·by_cases e:q.1=a
  ·rw[one q (ax _ hq) e];exact ht
  ·refine C.axk q ?_;rcases NH.mp hq with hq|hq
   ·exact aT _ hq
   ·rcases uB.mp hq with rfl|hq
    ·exact absurd rfl e
    ·exact ax _ (aD _ hq)
theorem CR.absorb{x:Addr}{o₀:Obj}(C:CR w K names okf fx m ((x,o₀)::RC) W H h)(hn:H.new r o=some (v,H')) (hs:Heap.SameBut x h h') (hO:ObjR w K names okf (W.new r x none) h' x none o):∃i,v=.ref r i∧(W.new r x none).at r i=some (x,none)∧CR w K names okf fx m RC (W.new r x none) H' h':=by
 obtain⟨q₀,hq₀,nt⟩:∃q,h'.get? x=some q∧notTuple q:=by
  obtain⟨q,hq⟩:=hO.some.1;exact⟨q,hq,hO.notTuple.1 q hq⟩
 have C':=CR.updAux (pre:=[]) C hs hq₀ nt;have hx:=C'.keep (x,q₀) (ax _ ak);have C₁:=C'.dropAux rfl;obtain⟨R,hR,rfl,hH,hf,hg⟩:=Hp.get_new hn;obtain⟨R',hR',hl⟩:=xu C₁.shape hR;have nh:∀r i,¬W.has r i x:=fun r i y=>(C'.ap r i x y).2.2 (x,q₀) (ax _ ak) rfl;refine⟨R.length,rfl,by rw[Wd.at_new hR',ac ⟨rfl,hl.symm⟩],C₁.fr,?_,?_,?_,C₁.keep,?_,?_,C₁.axd,C₁.axk⟩
 ·rw[hH];unfold Wd.new;rw[hR'];dsimp only;apply ch;intro j;have ej:(W.σ.map List.length)[j]?=(H.map List.length)[j]?:=by rw[C₁.shape]
  simp only[aB]at ej;simp only[aB,List.getElem?_set];have l1:=(Ok.mp hR').1;have l2:=(Ok.mp hR).1;by_cases hj:r=j
  ·subst hj;rw[ac rfl,ac l1,ac rfl,ac l2];simp[hl]
  ·rw[af hj,af hj,ej]
 ·intro r' i o' ho';rw[hg]at ho';by_cases c:r'=r∧i=R.length
  ·rw[ac c]at ho';induction ho' using QT;exact⟨x,none,by rw[Wd.at_new hR',ac ⟨c.1,c.2.trans hl.symm⟩],hO⟩
  ·rw[af c]at ho';obtain⟨y,dy,a,b⟩:=C₁.obj r' i o' ho';exact⟨y,dy,Wd.le_new.at_ _ _ _ a,b.mono Wd.le_new⟩
 ·intro q hq;have:(W.new r x none).tups=W.tups:=by unfold Wd.new;rw[hR']
  rw[this]at hq;exact C₁.tup q hq
 ·intro r1 i1 r2 i2 a zq;obtain⟨y,dy,h1,h2⟩:=zq;intro zq;obtain⟨z,dz,h3,h4⟩:=zq;rw[Wd.at_new hR']at h1 h3;by_cases c1:r1=r∧i1=R'.length<;>by_cases c2:r2=r∧i2=R'.length
  ·exact⟨c1.1.trans c2.1.symm,c1.2.trans c2.2.symm⟩
  ·rw[ac c1]at h1;induction h1 using QM;rw[af c2]at h3;have:a=x:=by rcases h2 with e|e;exact e;exact Rk e
   subst this;exact absurd ⟨z,dz,h3,h4⟩ (nh r2 i2)
  ·rw[ac c2]at h3;induction h3 using QM;rw[af c1]at h1;have:a=x:=by rcases h4 with e|e;exact e;exact Rk e
   subst this;exact absurd ⟨y,dy,h1,h2⟩ (nh r1 i1)
  ·rw[af c1]at h1;rw[af c2]at h3;exact C₁.inj _ _ _ _ _ ⟨y,dy,h1,h2⟩ ⟨z,dz,h3,h4⟩
 ·intro r1 i1 a zq;obtain⟨y,dy,h1,h2⟩:=zq;rw[Wd.at_new hR']at h1;by_cases c1:r1=r∧i1=R'.length
  ·rw[ac c1]at h1;induction h1 using QM;have:a=x:=by rcases h2 with e|e;exact e;exact Rk e
   subst this;refine⟨hx.2.1,hx.2.2,fun q hq e=>?_⟩;rcases NH.mp hq with hq|hq
   ·exact C'.axd.2 (a,q₀) ak q hq e.symm
   ·have:=C'.axd.1;simp only[List.nil_append,List.map_cons,List.nodup_cons]at this;exact this.1 (show a∈RC.map (·.1)from e▸List.mem_map_of_mem hq)
  ·rw[af c1]at h1;exact C₁.ap r1 i1 a ⟨y,dy,h1,h2⟩
end
section
variable{aux':List (Addr×Obj)}
theorem Loads.more(hs:RC.Sublist aux')(h:Loads cx fx m RC x u):Loads cx fx m aux' x u:=fun pos W H s Q E C=>h pos W H s Q E (C.subAux hs)
theorem GlobOk.more(hs:RC.Sublist aux')(x:GlobOk cx fx m RC sc):GlobOk cx fx m aux' sc:=fun y hy=>⟨fun v hv=>((x y hy).1 v hv).more hs,fun v hv hb hn=>((x y hy).2 v hv hb hn).more hs⟩
theorem LocOk.more(hs:RC.Sublist aux')(x:LocOk cx fx m RC sc ρ W):LocOk cx fx m aux' sc ρ W:=by
 refine⟨fun n i v a b=>?_,x.len,fun h n i a=>?_⟩
 ·obtain⟨u,c,d⟩:=x.loc n i v a b;exact⟨u,c,d.more hs⟩
 ·obtain⟨k,c,o,val,a1,a2,a3⟩:=x.cel h n i a;exact⟨k,c,o,val,a1,hs.subset a2,a3⟩
end
set_option tactic.hygienic true
section
variable{cx:Cx}{RD:Nat}{sc:Sc}{fx:Fx}{m:Str→Option Value}{RC:List (Addr×Obj)}{W:Wd}{H H':Hp}{s:Shared}{r:Nat}
theorem xO(i:Int)(n:Nat):seqIndex? i n=fD i n:=by
 unfold seqIndex? fD;by_cases h:0≤i
 ·have h1:¬i<0:=Int.not_lt.mpr h;rw[af h1,ac h];by_cases h2:i<n
  ·rw[ac h2];simp[h,h2]
  ·rw[af h2];simp[h2]
 ·have h1:i<0:=Int.not_le.mp h;rw[ac h1,af h];by_cases h2:0≤i+n
  ·rw[ac h2];have:i+n<n:=by have:=Int.add_lt_add_right h1 (n:Int);rwa [Int.zero_add]at this
   simp[h2,this]
  ·rw[af h2];simp[h2]
theorem EK{i:Int}(h:fD i n=some j):j<n∧-(n:Int)≤i∧i<n∧(0≤i→j=i.toNat)∧(i<0→j=(i+n).toNat):=by
 unfold fD at h;refine tR h ?_ ?_<;>clear h
 ·intro _ h
  (refine PV h ?_;clear h;intro _ h)
  induction h using QT;refine⟨by omega,by omega,by assumption,fun _=>rfl,fun _=>by exact absurd ‹_› (Int.not_lt.mpr ‹_›)⟩
 ·intro _ h
  (refine PV h ?_;clear h;intro _ h)
  induction h using QT;refine⟨by omega,by omega,by omega,fun _=>by contradiction,fun _=>rfl⟩
theorem x8{i:Int}(h:small i=true):-(2 ^ 63)≤i∧i<2 ^ 63:=by
 unfold small at h;simp only[aY,bp]at h;exact⟨Int.le_of_lt h.1,h.2⟩
theorem kf{value slice:Expr}{o i:Value}{T id:String}(hT:s.TypeIs o T) (hl:typeLookup (.type T) "__getitem__" = pure (some (.builtin id))) (h:wpAny (model prog w) A (getItem o i) Q E s):wpAny (model prog w) A (subscriptTail value slice o i) Q E s:=by
 obtain⟨vs,hs⟩:∃vs,subscripted slice false o i=operate vs (getItem o i):=by
  cases slice with
  |Slice a b c p=>induction c using jO<;>exact⟨_,rfl⟩
  |_=>exact⟨_,rfl⟩
 unfold subscriptTail;refine ab ?_;rw[getitemInPython_of_ne hT.not_modules];refine ab (wpAny_specialOf hT hl ?_);have fin:wpAny (model prog w) A (subscripted slice false o i) (fun r s₃=>wpAny (model prog w) A (letTemporaryGo value o r>>=fun _=>pure r) Q E s₃) E s:=by
  rw[hs];exact wpAny_operating (bj h (fun r s₃ h₃=>ab (wpAny_letTemporaryGo (ah h₃))) fun _ _ x=>x)
 first
  |exact ah (ab fin)
  |exact ab (ah (ab fin))
  |exact ab fin
theorem re{vs:Array Value}(h:IsL s.heap a vs n):s.TypeIs (.ref a) "list":=⟨_,h,rfl⟩
theorem VRs.getS(x:VRs K W l vs)(h:l[j]?=some v):∃u,vs.toArray[j]?=some u∧VR K W v u:=by
 obtain⟨u,a,b⟩:=x.get h;exact⟨u,by simpa using a,b⟩
theorem Ck(G:Good cx fx RD)(C:cx.CR fx m RC W H s.heap){x:V}(V1:VR cx.K W x u)(V2:VR cx.K W y u')(h:idx x y H=some v)(hQ:∀(tk:Nat) (u:Value),VR cx.K W v u→Q u (sH s s.heap tk)):wpAny cx.mo fx.A (subscriptTail ve se u u') Q Er s:=by
 induction x using cW<;>first|exact Rk h|skip
 rotate_left
 ·rename_i l;induction y using cW<;>first|exact Rk h|skip
  rename_i k;change(if small k then(match fD k l.length with|some j=>l[j]? | .none=>.none)else .none)=some v at h
  (refine PV h ?_;clear h;intro hk h)
  (refine Rg h ?_;clear h;intro j hj h)
  obtain⟨a,vs,rfl,ht,hv⟩:=C.tuple G.X V1;induction V2 using Rs;obtain⟨u,h1,h2⟩:=hv.getS h;obtain⟨k1,k2⟩:=x8 hk;refine kf ht.typeIs slot_tuple_getitem.lookup (PyProof.Rows.getItem_tuple ht k1 k2 (j:=j) ?_ h1 (hQ s.toks _ h2));rw[xO,aU,←hv.length];exact hj
 rotate_left
 ·rename_i l;induction y using cW<;>first|exact Rk h|skip
  rename_i k;change(if small k then(match fD k l.length with|some j=>(l[j]?).map (fun c=>.str [c]) | .none=>.none)else .none)=some v at h
  (refine PV h ?_;clear h;intro hk h)
  (refine Rg h ?_;clear h;intro j hj h)
  induction V1 using RB;induction V2 using Rs;obtain⟨c,hc,rfl⟩:=Option.map_eq_some_iff.mp h;obtain⟨k1,k2⟩:=x8 hk;refine kf (typeIs_str s _ _) PySem.F.slot_str_getitem.lookup (P.getItem_str (c:=c) ?_ ?_ (hQ _ _ ?_))
  ·simp only[Bool.or_eq_false_iff,decide_eq_false_iff_not];omega
  ·have:(⟨l.toArray⟩:Str).length=l.length:=by simp[Str.length]
   rw[this,xO,hj];simpa using hc
  ·exact .str [c] _
 ·rename_i r1 i1;change(match(generalizing:=false) H.get r1 i1 with|some (.list l)=>(match(generalizing:=false) y with | .int k=>(match fD k l.length with|some j=>l[j]? | .none=>.none)|_=>.none)|some (.dict l)=>if cg y&&aW y l then dG l y else .none|_=>.none)=some v at h;refine NF h ?_ ?_<;>clear h
  ·intro l hg h;induction y using cW<;>first|exact Rk h|skip
   rename_i k
   (refine Rg h ?_;clear h;intro j hj h)
   obtain⟨a,vs,n,rfl,hat,hl,hv,hlen⟩:=C.list V1 hg;induction V2 using Rs;obtain⟨u,h1,h2⟩:=hv.getS h;obtain⟨q1,q2,q3,q4,q5⟩:=EK hj;refine kf (re hl) slot_list_getitem.lookup ?_;by_cases hk:0≤k
   ·exact wpAny_getItem_list (aQ hl) hk (by omega) (by rw[←q4 hk];exact h1) (hQ s.toks _ h2)
   ·have hk':k<0:=by exact Int.not_le.mp ‹_›
    refine wpAny_getItem_list_neg (aQ hl) hk' ?_ (by omega) ?_ (hQ s.toks _ h2)
    ·rw[aU,←hv.length];exact q2
    ·rw[aU,←hv.length,←q5 hk'];exact h1
  ·intro l hg h
   (refine PV h ?_;clear h;intro hk h)
   obtain⟨hk1,hk2⟩:=M6.mp hk;obtain⟨a,rfl,hat,hlen,hD⟩:=C.dict V1 hg;have D:=hD _ hk1 hk2;induction D with
   |int j kvs d1 d2 d3=>
    induction V2 using Rs;have e:=uO (i:=j) d2 d3;rw[h]at e;induction hv:valueAt kvs j with
    |none=>rw[hv]at e;exact False.elim e
    |some u=>
     rw[hv]at e;exact kf d1.typeIs slot_dict_getitem.lookup (wpAny_getItem_of (ry _ _ _ _) d1.mapOf hv (hQ _ _ e))
   |str j kvs d1 d2 d3=>
    induction V2 using RB;have e:=uc (i:=j) d2 d3;rw[h]at e;induction hv:valueAt kvs ⟨j.toArray⟩with
    |none=>rw[hv]at e;exact False.elim e
    |some u=>
     rw[hv]at e;exact kf d1.typeIs slot_dict_getitem.lookup (wpAny_getItem_of (rj _ _ _ _) d1.mapOf hv (hQ _ _ e))
theorem Fv(G:Good cx fx RD)(C:cx.CR fx m RC W H s.heap){x:V}(V1:VR cx.K W x u)(V2:VR cx.K W y u')(h:idx x y H=some v)(hQ:Post cx fx m RC W H s v Q):wpAny cx.mo fx.A (subscriptTail ve se u u') Q Er s:=
 Ck G C V1 V2 h fun tk u V=>hQ.at C tk V
theorem Ez{a b:Expr}(ha:aN cx RD sc a Ea)(hb:aN cx RD sc b Eb):aN cx RD sc (.Subscript a b pos) (aG Ea Eb):=by
 intro fx m RC ρ W H s v H' r Q Er G GG LL C hE hQ;unfold aG at hE
 (refine Pn hE ?_;clear hE;intro x H₁ h1 hE)
 (refine Pn hE ?_;clear hE;intro y H₂ h2 hE)
 (refine Rt hE ?_;clear hE;intro v' h3 hE)
 induction hE using QM;refine Subscript_ (kn (Q:=fun u u' s₂=>wpAny cx.mo fx.A (subscriptTail a b u u') Q Er s₂) ha hb G GG LL C h1 h2 fun W' h' tk u u' l C' V1 V2=>?_);exact Fv G (s:=(sH s h' tk)) C' V1 V2 h3 fun W'' h'' tk' v' l' C'' V'=>hQ W'' h'' tk' v' (l.trans l') C'' V'
end
section
variable{cx:Cx}{RD:Nat}{sc:Sc}{fx:Fx}{m:Str→Option Value}{RC:List (Addr×Obj)}{W:Wd}{H H':Hp}{s:Shared}{r:Nat}
def CF:V→Nat→Nat→Option Nat
 |.none,d,_=>some d
 |.int i,_,n=>some (cu i n)
 |_,_,_=>.none
theorem CM(l:List V)(a b:V):gi l a b=(match CF a 0 l.length,CF b l.length l.length with|some i,some j=>some ((l.take j).drop i)|_,_=>.none):=by
 induction a using cW<;>induction b using cW<;>rfl
theorem Lp(a b:Nat):min (a:Int) (b:Int)=((min a b:Nat):Int):=by
 rcases Nat.le_total a b with h|h
 ·rw[Nat.min_eq_left h,Int.min_eq_left (Int.ofNat_le.mpr h)]
 ·rw[Nat.min_eq_right h,Int.min_eq_right (Int.ofNat_le.mpr h)]
theorem Ew{a:V}(V1:VR K W a u){d:Nat}(h:CF a d n=some i):∃p,IsPart u p∧(match p with|none=>(d:Int)|some i=>max 0 (min (if i<0 then i+n else i) n))=(i:Int):=by
 induction a using cW<;>first|exact Rk h|skip
 ·(refine QU h ?_;clear h;rintro rfl);induction V1 using Rx;exact⟨none,.none,rfl⟩
 ·(refine QU h ?_;clear h;rintro rfl);induction V1 using Rs
  rename_i k t;refine⟨some k,.int k t,?_⟩;dsimp only;unfold cu;by_cases hk:0≤k
  ·rw[af (Int.not_lt.mpr hk),ac hk];obtain⟨q,rfl⟩:=Int.eq_ofNat_of_zero_le hk;rw[Lp];exact Int.max_eq_right (Int.natCast_nonneg _)
  ·have hk':=Int.not_le.mp hk;rw[ac hk',af hk,Int.min_eq_left (by have:=Int.add_le_add_right (Int.le_of_lt hk') (n:Int);rwa [Int.zero_add]at this),Int.max_comm];exact(Int.ofNat_toNat _).symm
theorem Km{vs:Array Value}{lo hi:Option Int}(h1:(match lo with|none=>((0:Nat):Int)|some i=>max 0 (min (if i<0 then i+vs.size else i) vs.size))=(i:Int))
  (h2:(match hi with|none=>(vs.size:Int)|some i=>max 0 (min (if i<0 then i+vs.size else i) vs.size))=(j:Int)):(slicePick vs lo hi none).toList=(vs.toList.take j).drop i:=by
 have e:sliceBounds lo hi none vs.size=((i:Int),(j:Int),1):=by
  unfold sliceBounds;simp only[Option.getD_none,show((1:Int)>0)=True by simp,if_true];induction lo using jO<;>induction hi using jO<;>simp_all
 unfold slicePick;rw[e];dsimp only;rw[sliceRange_one,pick_run,List.drop_take]
theorem AR(G:Good cx fx RD)(C:cx.CR fx m RC W H s.heap){x:Addr}{a b:V}{ua ub:Value}(Va:VR cx.K W a ua)(Vb:VR cx.K W b ub)(hl:IsL s.heap x vs.toArray n)(hv:VRs cx.K W l vs)(hlen:l.length≤9000) (h:gi l a b=some l') (hn:H.new r (.list l')=some (v,H')) (hQ:Post cx fx m RC W H' s v Q) :wpAny cx.mo fx.A (subscriptTail ve se (.ref x) (.ref s.heap.objs.size)) Q Er {s with heap:=s.heap.push {cls:=.type "slice",data:=.fields #[ua,ub,.none]}}:=by
 rw[CM]at h
 (refine Q3 h ?_;clear h;intro i j h1 h2 h)
 induction h using QT;have hsz:vs.toArray.size=l.length:=by simp[hv.length]
 rw[←hsz]at h1 h2;obtain⟨lo,p1,p2⟩:=Ew Va h1;obtain⟨hi,p3,p4⟩:=Ew Vb h2;have hp:=Km p2 p4;have C':=C.push {cls:=.type "slice",data:=.fields #[ua,ub,.none]};have hl':IsL (s.heap.push {cls:=.type "slice",data:=.fields #[ua,ub,.none]}) x vs.toArray n:=bu _ hl;refine kf (s:={s with heap:=s.heap.push {cls:=.type "slice",data:=.fields #[ua,ub,.none]}}) (re (s:={s with heap:=s.heap.push {cls:=.type "slice",data:=.fields #[ua,ub,.none]}}) hl') slot_list_getitem.lookup ?_;refine wpAny_getItem_list_slice (aQ hl') (Heap.IsSliceOf.new ..) p1 p3 .none (by simp) ?_ (by rw[hsz];exact ba hlen);have e:slicePick vs.toArray lo hi none=((vs.take j).drop i).toArray:=by
  have:=congrArg List.toArray hp;simpa using this
 rw[e];exact CR.pushList (s:={s with heap:=s.heap.push {cls:=.type "slice",data:=.fields #[ua,ub,.none]}}) C' hn ((hv.take j).drop i) hQ _
theorem r9(G:Good cx fx RD)(C:cx.CR fx m RC W H s.heap){r1 i1:Nat}{a b:V}{ua ub:Value}(V1:VR cx.K W (.ref r1 i1) u)(Va:VR cx.K W a ua)(Vb:VR cx.K W b ub)(hg:H.get r1 i1=some (.list l)) (h:gi l a b=some l') (hn:H.new r (.list l')=some (v,H')) (hQ:Post cx fx m RC W H' s v Q) :wpAny cx.mo fx.A (subscriptTail ve se u (.ref s.heap.objs.size)) Q Er {s with heap:=s.heap.push {cls:=.type "slice",data:=.fields #[ua,ub,.none]}}:=by
 obtain⟨x,vs,n,rfl,hat,hl,hv,hlen⟩:=C.list V1 hg;exact AR G C Va Vb hl hv hlen h hn hQ
theorem Cq(k n:Nat)(hk:k≤n):Builtin.Slice.sliceAdjust none (some (k:Int)) 1 (n:Int)=(0,(k:Int)):=by
 unfold Builtin.Slice.sliceAdjust;have h1:¬((1:Int)<0):=by decide
 have h2:¬((k:Int)<0):=by omega
 simp only[h1,h2,if_false];congr 1;omega
theorem Bn(k:Nat):Builtin.Slice.slicePlaces 0 (k:Int) 1=k:=by
 unfold Builtin.Slice.slicePlaces;have h1:(1:Int)>0:=by decide
 simp only[h1,if_true,Int.ediv_one];split<;>omega
theorem o7{sl:Addr}{u:Tok}{Q:Int×Int×Nat→Shared→Prop}(hs:s.heap.IsSliceOf sl .none (.int k u) .none)(hk:k≤n)(h:Q (0,1,k) s):wpAny (model prog w) A (Builtin.Slice.sliceApplied (.ref sl) (pure (n:Int))) Q E s:=by
 obtain⟨os,hos,hcs,hds⟩:=id hs;unfold Builtin.Slice.sliceApplied Builtin.Slice.sliceFields;refine ab (ab (wpAny_field hos hds (x:=.none) rfl (ab (wpAny_field hos hds (x:=.int k u) rfl (ab (wpAny_field hos hds (x:=.none) rfl (ah ?_)))))));refine ab (slicePart_none ?_);show wpAny _ _ (if((1:Int)==0)=true then _ else _) _ _ s;rw[af (by decide)];refine ab (slicePart_none (ab (slicePart_int (ab (ah ?_)))));show wpAny _ _ (match Builtin.Slice.sliceAdjust none (some (k:Int)) 1 (n:Int)with|(lo,hi)=>pure (lo,(1:Int),Builtin.Slice.slicePlaces lo hi 1)) _ _ s;rw[Cq k n hk];show wpAny _ _ (pure ((0:Int),(1:Int),Builtin.Slice.slicePlaces 0 (k:Int) 1)) _ _ s;rw[Bn];exact ah h
theorem Fw(xs:Array Value)(k:Nat)(hk:k≤xs.size):((List.range k).filterMap fun(i:Nat)=>xs[((0:Int)+(i:Int)*1).toNat]?).toArray=(xs.toList.take k).toArray:=by
 have e:(fun(i:Nat)=>xs[((0:Int)+(i:Int)*1).toNat]?)=fun i=>xs[i]?:=by
  funext i
  have:((0:Int)+(i:Int)*1).toNat=i:=by omega
  rw[this]
 rw[e];have:=pick_run xs 0 k;simp only[List.drop_zero]at this;rw[←this];congr 2;have:(fun x=>0+x)=(id:Nat→Nat):=by funext x;simp
 rw[this,List.map_id]
theorem nR{t sl:Addr}{u:Tok}(ht:IsTup s.heap t items)(hs:s.heap.IsSliceOf sl .none (.int k u) .none)(hk:k<items.size) (h:Q (.ref s.heap.objs.size) {s with heap:=s.heap.push {cls:=.type "tuple",data:=.seq (items.toList.take k).toArray}}) (hsz:items.size≤sizeLine):wpAny (model prog w) A (getItem (.ref t) (.ref sl)) Q E s:=by
 have htake:sizeOk (.seq (items.toList.take k).toArray):=by
  show(items.toList.take k).toArray.size≤sizeLine;rw[aU,bh,Array.length_toList];omega
 obtain⟨os,hos,hcs,hds⟩:=id hs;have hTs:s.TypeIs (.ref sl) "slice":=⟨os,hos,hcs⟩;unfold getItem;try with_reducible refine bz ?_
 first|refine ab (ah ?_)|skip
 refine ab (wpAny_sequenceKey ht.typeIs (by decide) ?_);refine ab (wpAny_callSpecial?_slot (name:=Str.ofString "__getitem__") ht.typeIs slot_tuple_getitem
  (wpAny_call_entry slot_tuple_getitem ht.typeIs entry_tuple_getitem ?_ (args_tuple_getitem _ _)))
 show wpAny _ _ (Builtin.Tuple.tupleItemsOf (.ref t)>>=_) _ _ s;refine ab (tupleItemsOf_ ht ?_);refine ab (wpAny_typeOf hTs ?_);rw[ac (by decide)];refine ab (o7 hs (Nat.le_of_lt hk) ?_);have hno:¬(((0:Int)==0&&(1:Int)==1&&k==items.size)=true):=by
  have:(k==items.size)=false:=by rw[beq_eq_false_iff_ne];exact bf ‹_›
  rw[this];simp
 show wpAny _ _ (if((0:Int)==0&&(1:Int)==1&&k==items.size)=true then _ else _) _ _ s;rw[af hno,Fw items k (Nat.le_of_lt hk)];first
  |exact ab (m:=Builtin.Tuple.tupleExact _) (wpAny_newObj_type (ah ⟨_,rfl,ah h⟩) htake)
  |exact ab (m:=Builtin.Tuple.tupleExact _) (wpAny_newObj_type (ab (ah (ah ⟨_,rfl,ah h⟩))) htake)
  |exact ab (ab (m:=Builtin.Tuple.tupleExact _) (wpAny_newObj_type (ah (ah ⟨_,rfl,ah h⟩)) htake))
  |exact ab (ab (m:=Builtin.Tuple.tupleExact _) (wpAny_newObj_type (ah ⟨_,rfl,ah h⟩) htake))
theorem DZ{o:Option Expr}(ho:∀e,o=some e→aN cx RD sc e (f e)):MU cx RD sc (fun fx=>evalPart o fx.env) (nJ (o.map f)):=by
 induction o with
 |none=>
  intro fx m RC ρ W H s v H' r Q Er G GG LL C hE hQ;simp only[Option.map_none,nJ,ai,Option.some.injEq,Prod.mk.injEq]at hE;obtain⟨rfl,rfl⟩:=hE;exact ah (hQ W s.heap s.toks _ (.refl W) C .none)
 |some e=>exact ho e rfl
theorem FZ{a:Expr}{lo hi:Option Expr}(ha:aN cx RD sc a Ea)(hlo:∀e,lo=some e→aN cx RD sc e (f e))(hhi:∀e,hi=some e→aN cx RD sc e (f e)):aN cx RD sc (.Subscript a (.Slice lo hi none p) pos) (bV Ea (lo.map f) (hi.map f)):=by
 intro fx m RC ρ W H s v H' r Q Er G GG LL C hE hQ;unfold bV at hE
 (refine Pn hE ?_;clear hE;intro x H₁ h1 hE)
 (refine Pn hE ?_;clear hE;intro y H₂ h2 hE)
 (refine Pn hE ?_;clear hE;intro z H₃ h3 hE)
 refine Subscript_ (ha fx m RC ρ W H s x H₁ r _ Er G GG LL C h1 fun W₁ h₁ tk₁ u₁ l₁ C₁ V₁=>wpAny_Slice ?_);refine DZ hlo fx m RC ρ W₁ H₁ (sH s h₁ tk₁) y H₂ r _ Er G GG (LL.mono l₁) C₁ h2 fun W₂ h₂ tk₂ u₂ l₂ C₂ V₂=>?_;refine DZ hhi fx m RC ρ W₂ H₂ (sH s h₂ tk₂) z H₃ r _ Er G GG (LL.mono (l₁.trans l₂)) C₂ h3 fun W₃ h₃ tk₃ u₃ l₃ C₃ V₃=>?_;rw[evalPart_none];refine ah ?_;have VX:=V₁.mono (l₂.trans l₃);have VY:=V₂.mono l₃;have lW:=l₁.trans (l₂.trans l₃);refine Qh hE (fun l e hE=>?_) (fun r1 i1 e hE=>?_) fun l e hE=>?_<;>subst e
 ·refine Qf hE fun k e1 e2 hE=>?_;subst e1 e2
  (refine PV hE ?_;clear hE;intro hk hE)
  induction hE using QM;obtain⟨t,vs,rfl,ht,hv⟩:=CR.tuple (s:=(sH s h₃ tk₃)) C₃ G.X VX;induction VY using Rx;obtain⟨k',rfl⟩:∃k':Nat,k=k':=⟨k.toNat,by exact Rv (And.left ‹_›)⟩;induction V₃ using Rs;rename_i tk;have hl:=hv.length;have ht':IsTup (h₃.push {cls:=.type "slice",data:=.fields #[Value.none,Value.int (k':Int) tk,.none]}) t vs.toArray:=by
   obtain⟨o,q1,q2⟩:=ht;exact⟨o,bu _ q1,q2⟩
  refine kf (s:={s with heap:=h₃.push {cls:=.type "slice",data:=.fields #[Value.none,Value.int (k':Int) tk,.none]},toks:=tk₃}) ht'.typeIs slot_tuple_getitem.lookup
   (nR ht' (Heap.IsSliceOf.new ..) (by rw[aU];omega) ?_ (ba (by rw[aU];omega)))
  have C₄:=CR.push C₃ {cls:=.type "slice",data:=.fields #[Value.none,Value.int (k':Int) tk,.none]};have e:(vs.toArray.toList.take k')=vs.take (Int.toNat (k':Int)):=by simp
  rw[e];exact CR.pushTup (s:={s with heap:=h₃.push {cls:=.type "slice",data:=.fields #[Value.none,Value.int (k':Int) tk,.none]},toks:=tk₃}) C₄ (hv.take _) (fun W' h' tk' u l' C' V'=>hQ W' h' tk' u (lW.trans l') C' V') _
 ·(refine QA hE ?_;clear hE;intro l hg hE)
  (refine Ro hE ?_;clear hE;intro l' hs hE)
  exact r9 (s:=(sH s h₃ tk₃)) G C₃ VX VY V₃ hg hs hE fun W' h' tk' u l' C' V'=>hQ W' h' tk' u (lW.trans l') C' V'
 ·(refine Ro hE ?_;clear hE;intro l' hs hE)
  cases VX with
  |kl _ x vs n e hl ms=>
   exact AR (s:=(sH s h₃ tk₃)) G C₃ VY V₃ ((G.X.keeps C₃.fr.keep) _ _ e) ms hl hs hE fun W' h' tk' u l' C' V'=>hQ W' h' tk' u (lW.trans l') C' V'
end
section
variable{cx:Cx}{RD:Nat}{sc:Sc}{fx:Fx}{m:Str→Option Value}{RC:List (Addr×Obj)}{W:Wd}{H H':Hp}{s:Shared}{r:Nat}
noncomputable def aH(e:Expr):Bool:=Nat.beq e.ctorIdx 22
theorem bC(h:aH e=false):starEach (e::es) env=(false,eval e env)::starEach es env:=by
 induction e using Expr.casesOn<;>first|rfl|cases h
theorem cb{t:Sem Value}{l:List (Bool×Sem Value)}:backTo pos ((false,t)::l)=(false,t)::backTo pos l:=rfl
theorem mj(h:∀e∈es,aN cx RD sc e (f e))(hs:∀e∈es,aH e=true→f e=aw)(G:Good cx fx RD)(GG:GlobOk cx fx m RC sc)(LL:LocOk cx fx m RC sc ρ W)(C:cx.CR fx m RC W H s.heap) (hE:cs (es.map f) ρ r H=some (xs,H')) {Q:List Value→Shared→Prop} (hQ:∀(W':Wd) (h':Heap) (tk:Nat) (us:List Value),W.le W'→cx.CR fx m RC W' H' h'→VRs cx.K W' xs us→Q us (sH s h' tk)) :wpAny cx.mo fx.A (spliced (backTo pos (starEach es fx.env))) Q Er s:=by
 induction es generalizing W H s xs Q with
 |nil=>
  (refine QU hE ?_;clear hE;intro e;cases e)
  exact spliced_nil (hQ W s.heap s.toks [] (.refl W) C .nil)
 |cons e es ih=>
  obtain⟨x,H₁,ys,h1,h2,rfl⟩:=JI hE;have he:aH e=false:=by
   induction q:aH e with
   |false=>rfl
   |true=>rw[hs e ak q]at h1;exact Rk h1
  rw[bC he,cb];refine spliced_cons (h e ak fx m RC ρ W H s x H₁ r _ Er G GG LL C h1 fun W₁ h₁ tk₁ u l₁ C₁ V₁=>?_);exact ih (fun e he=>h e (aD _ he)) (fun e he=>hs e (aD _ he)) (s:=(sH s h₁ tk₁)) (LL.mono l₁) C₁ h2 fun W₂ h₂ tk₂ us l₂ C₂ V₂=>hQ W₂ h₂ tk₂ (u::us) (l₁.trans l₂) C₂ (.cons _ _ _ _ (V₁.mono l₂) V₂)
theorem ER(h:∀e∈es,aN cx RD sc e (f e))(hs:∀e∈es,aH e=true→f e=aw):aN cx RD sc (.Tuple es k pos) (bP (es.map f)):=by
 intro fx m RC ρ W H s v H' r Q Er G GG LL C hE hQ;unfold bP at hE
 (refine Qy hE ?_;clear hE;intro xs H₁ h1 hE)
 (refine PV hE ?_;clear hE;intro hl hE)
 induction hE using QM;refine wpAny_Tuple (mj h hs G GG LL C h1 fun W₁ h₁ tk₁ us l₁ C₁ V₁=>⟨ba (by rw[←V₁.length];exact hl),?_⟩);exact CR.pushTup (s:=(sH s h₁ tk₁)) C₁ V₁ (fun W' h' tk' u l' C' V'=>hQ W' h' tk' u (l₁.trans l') C' V') _
theorem Fa(h:∀e∈es,aN cx RD sc e (f e))(hs:∀e∈es,aH e=true→f e=aw):aN cx RD sc (.List es pos) (bD (es.map f)):=by
 intro fx m RC ρ W H s v H' r Q Er G GG LL C hE hQ;unfold bD at hE
 (refine Qy hE ?_;clear hE;intro xs H₁ h1 hE)
 have hf:=ie (Hp.get_new hE).choose_spec.2.2.2.1;refine wpAny_List (mj h hs G GG LL C h1 fun W₁ h₁ tk₁ us l₁ C₁ V₁=>⟨ba (by rw[←V₁.length];exact hf),?_⟩);exact CR.pushList (s:=(sH s h₁ tk₁)) C₁ hE V₁ (fun W' h' tk' u l' C' V'=>hQ W' h' tk' u (l₁.trans l') C' V') _
section
variable{KK:Type}[DecidableEq KK]{enc:KK→V}
theorem EW{kvs:List (KK×Value)}{x:KK×Value}{k:KK}(h:¬x.1=k):stored (x::kvs) k u=x::stored kvs k u:=by
 unfold stored;simp only[List.any_cons,h,decide_false,Bool.false_or,List.map_cons,if_false];split<;>rfl
theorem Ft{kvs:List (KK×Value)}{x:KK×Value}{k:KK}(h:x.1=k)(hn:k∉kvs.map (·.1)):stored (x::kvs) k u=(k,u)::kvs:=by
 unfold stored;simp only[List.any_cons,h,decide_true,Bool.true_or,if_true,List.map_cons];rw[map_store_of_not_mem kvs k u hn]
theorem eX(hk:∀a b,fu (enc a) (enc b)=decide (a=b)){k:KK}(hv:VR K W v u):∀{l:List (V×V)} {kvs:List (KK×Value)},l.map (·.1)=kvs.map (fun p=>enc p.1)→(kvs.map (·.1)).Nodup→VRs K W (l.map (·.2)) (kvs.map (·.2))→(gM l (enc k) v).map (·.1)=(stored kvs k u).map (fun p=>enc p.1)∧VRs K W ((gM l (enc k) v).map (·.2)) ((stored kvs k u).map (·.2)):=by
 intro l;induction l with
 |nil=>
  intro kvs h hn hl;induction kvs using jL with
  |nil=>exact⟨rfl,.cons _ _ _ _ hv .nil⟩
  |cons=>simp at h
 |cons p l ih=>
  intro kvs h hn hl;induction kvs using jL with
  |nil=>simp at h
  |cons y kvs=>
   obtain⟨q,w⟩:=p;obtain⟨j,z⟩:=y;simp only[List.map_cons,List.cons.injEq]at h;obtain⟨rfl,h⟩:=h;simp only[List.map_cons,List.nodup_cons]at hn;simp only[List.map_cons]at hl;obtain⟨h1,h2⟩:=hl.inv2;show List.map (·.1) (if fu (enc j) (enc k)then(enc j,v)::l else(enc j,w)::gM l (enc k) v)=_∧VRs K W (List.map (·.2) (if fu (enc j) (enc k)then(enc j,v)::l else(enc j,w)::gM l (enc k) v)) _;rw[hk];by_cases e:j=k
   ·subst e;rw[Ft rfl hn.1,decide_eq_true rfl,ac rfl];exact⟨by simp[h],.cons _ _ _ _ hv h2⟩
   ·rw[EW e,decide_eq_false e,af be];obtain⟨i1,i2⟩:=ih h hn.2 h2;exact⟨by simp[i1],.cons _ _ _ _ h1 i2⟩
theorem AZ(x v:V):∀l:List (V×V),(gM l x v).length≤l.length+1
 |[]=>aS _
 |(q,w)::l=>pQ (P:=fun z:List (V×V)=>z.length≤_) (fun _=>Nat.le_succ _) fun _=>Nat.succ_le_succ (AZ x v l)
theorem Ej{x v:V}{l:List (V×V)}:gM l x v≠[]:=by
 cases l with
 |nil=>exact List.cons_ne_nil _ _
 |cons p l=>exact pQ (P:=fun z:List (V×V)=>z≠[]) (fun _=>List.cons_ne_nil _ _) fun _=>List.cons_ne_nil _ _
end
theorem FU{es:List (Expr×Expr)}(h:∀p∈es,aN cx RD sc p.1 (f p.1)∧aN cx RD sc p.2 (f p.2))(G:Good cx fx RD)(GG:GlobOk cx fx m RC sc)(LL:LocOk cx fx m RC sc ρ W)(C:cx.CR fx m RC W H s.heap){ks vs:List V} (hE:OB (es.map fun p=>(f p.1,f p.2)) ρ r H=some (ks,vs,H')) {Q:List (Value×Value)→Shared→Prop} (hQ:∀(W':Wd) (h':Heap) (tk:Nat) (us:List (Value×Value)),W.le W'→cx.CR fx m RC W' H' h'→VRs cx.K W' ks (us.map (·.1))→VRs cx.K W' vs (us.map (·.2))→Q us (sH s h' tk)) :wpAny cx.mo fx.A (evalPairs (es.map fun p=>(eval p.1 fx.env,do let x ←eval p.2 fx.env;standAt pos;pure x))) Q Er s:=by
 induction es generalizing W H s ks vs Q with
 |nil=>
  (refine QU hE ?_;clear hE;intro e;cases e)
  exact evalPairs_nil (hQ W s.heap s.toks [] (.refl W) C .nil .nil)
 |cons p es ih=>
  (conv at hE=>lhs;whnf)
  (refine Pn hE ?_;clear hE;intro x H₁ h1 hE)
  (refine Pn hE ?_;clear hE;intro y H₂ h2 hE)
  (refine Qa hE ?_;clear hE;intro xs ys H₃ h3 hE)
  induction hE using QP;refine evalPairs_cons (k:=eval p.1 fx.env) ((h p ak).1 fx m RC ρ W H s x H₁ r _ Er G GG LL C h1 fun W₁ h₁ tk₁ u l₁ C₁ V₁=>?_);refine ab ((h p ak).2 fx m RC ρ W₁ H₁ (sH s h₁ tk₁) y H₂ r _ Er G GG (LL.mono l₁) C₁ h2 fun W₂ h₂ tk₂ u₂ l₂ C₂ V₂=>ab (wpAny_standAt (ah ?_)));exact ih (fun p hp=>h p (aD _ hp)) (s:=(sH s h₂ tk₂)) (LL.mono (l₁.trans l₂)) C₂ h3 fun W₃ h₃ tk₃ us l₃ C₃ V₃ V₄=>
   hQ W₃ h₃ tk₃ ((u,u₂)::us) (l₁.trans (l₂.trans l₃)) C₃ (.cons _ _ _ _ (V₁.mono (l₂.trans l₃)) V₃) (.cons _ _ _ _ (V₂.mono l₃) V₄)
theorem D3{KK:Type}{enc:KK→V}{k:V}{acc:List (V×V)}{kacc:List (KK×Value)}(h6:acc≠[])(h3:acc.map (·.1)=kacc.map (fun p=>enc p.1))(c2:aW k acc=true):∃b,br k=br (enc b):=by
 induction acc using jL with
 |nil=>exact absurd rfl h6
 |cons p acc=>
  induction kacc using jL with
  |nil=>cases h3
  |cons q kacc=>exact⟨q.1,Eq.symm ((congrArg br (List.cons.inj h3).1).symm.trans (Nat.eq_of_beq_eq_true (M6.mp c2).1))⟩
theorem xS{KK:Type}[DecidableEq KK]{kacc:List (KK×Value)}{a:KK}{u:Value}(h4:(kacc.map (·.1)).Nodup):((stored kacc a u).map (·.1)).Nodup:=by
 unfold stored;split
 ·rw[keys_map_store];exact h4
 ·rename_i hn;rw[List.map_append,List.nodup_append];refine⟨h4,by simp,fun x hx y hy e=>?_⟩;simp at hy;subst hy e;apply hn;obtain⟨z,hz,rfl⟩:=MQ.mp hx;exact List.any_eq_true.mpr ⟨z,hz,by simp⟩
theorem BB{KK:Type}[DecidableEq KK]{knd:KeyKind PP cx.w KK}{enc:KK→V}(hk:∀a b,fu (enc a) (enc b)=decide (a=b))(he:∀k v u,cg k=true→br k=br v→(∃b,v=enc b)→VR K W k u→∃a,k=enc a∧knd.is a u=true){k₀:KK}:∀{ks vs:List V} {us:List (Value×Value)} {acc d:List (V×V)} {kacc:List (KK×Value)},Nf ks vs acc=some d→VRs K W ks (us.map (·.1))→VRs K W vs (us.map (·.2))→acc.map (·.1)=kacc.map (fun p=>enc p.1)→(kacc.map (·.1)).Nodup→VRs K W (acc.map (·.2)) (kacc.map (·.2))→acc≠[]∨(∃k,ks.head?=some k∧br k=br (enc k₀))→∃kvs,Carries knd us kvs∧d.map (·.1)=(merged kacc kvs).map (fun p=>enc p.1)∧VRs K W (d.map (·.2)) ((merged kacc kvs).map (·.2))∧((merged kacc kvs).map (·.1)).Nodup:=by
  intro ks;induction ks with
  |nil=>
    intro vs us acc d kacc h h1 h2 h3 h4 h5 h6;induction vs using jL with
    |cons=>exact Rk h
    |nil=>
      obtain rfl:=av h;induction us using jL with
      |nil=>exact⟨[],trivial,h3,h5,h4⟩
      |cons=>cases h1
  |cons k ks ih=>
    intro vs us acc d kacc h h1 h2 h3 h4 h5 h6;induction vs using jL with
    |nil=>exact Rk h
    |cons v vs=>
     rewrite[KW]at h
     (refine PV h ?_;clear h;intro hc h)
     obtain⟨c1,c2⟩:=M6.mp hc;induction us using jL with
     |nil=>cases h1
     |cons u us=>
      obtain⟨a1,a2⟩:=VRs.inv2 h1;obtain⟨b1,b2⟩:=VRs.inv2 h2;have kind:∃b,br k=br (enc b):=by
        rcases h6 with h6|⟨k',e,hk'⟩
        · exact D3 h6 h3 c2
        · simp at e;subst e;exact⟨k₀,hk'⟩
      obtain⟨b,hb⟩:=kind;obtain⟨a,rfl,ha⟩:=he k _ u.1 c1 hb ⟨b,rfl⟩ a1;obtain⟨p1,p2⟩:=eX (u:=u.2) hk b1 h3 h4 h5 (k:=a);have p3:=xS (a:=a) (u:=u.2) h4;obtain⟨kvs,q1,q2,q3,q4⟩:=ih h a2 b2 p1 p3 p2 (.inl Ej);exact⟨(a,u.2)::kvs,⟨ha,rfl,q1⟩,q2,q3,q4⟩
theorem Al:∀(k v:V) (u:Value),cg k=true→br k=br v→(∃b:Int,v=V.int b)→VR K W k u→∃a,k=V.int a∧(intKind PP w).is a u=true:=by
 intro k v u h1 h2 zq;obtain⟨b,rfl⟩:=zq;intro h;induction k using cW<;>first|((first|exact CS h1|cases h1);done)|skip
 ·induction h using Rs;exact⟨_,rfl,ry _ _ _ _⟩
 ·cases h2
theorem D6:∀(k v:V) (u:Value),cg k=true→br k=br v→(∃b:Str,v=V.str b.cps.toList)→VR K W k u→∃a:Str,k=V.str a.cps.toList∧(PySem.strKind PP w).is a u=true:=by
 intro k v u h1 h2 zq;obtain⟨b,rfl⟩:=zq;intro h;induction k using cW<;>first|((first|exact CS h1|cases h1);done)|skip
 ·cases h2
 ·induction h using RB;exact⟨⟨_⟩,by simp,rj _ _ _ _⟩
theorem qv:notTuple {cls:=.type "dict",data:=.dict #[]}:=fun h=>absurd h.1 (by decide)
theorem E9{ks:List Expr}{vs:List Expr}(h:∀p∈ks.zip vs,aN cx RD sc p.1 (f p.1)∧aN cx RD sc p.2 (f p.2))(hlen:ks.length=vs.length)(h15:ks.length≤15):aN cx RD sc (.Dict (ks.map some) vs pos) (bN ((ks.zip vs).map fun p=>(f p.1,f p.2))):=by
 intro fx m RC ρ W H s v H' r Q Er G GG LL C hE hQ;unfold bN at hE
 (refine Qa hE ?_;clear hE;intro xs ys H₁ h1 hE)
 (refine QR hE ?_;clear hE;intro d hd hE)
 have hf:=qi (Hp.get_new hE).choose_spec.2.2.2.1;induction ks using jL with
 |nil=>
  induction vs using jL with
  |cons=>simp at hlen
  |nil=>
   (refine QU h1 ?_;clear h1;intro e;cases e)
   obtain rfl:=av hd;refine wpAny_Dict_empty ?_;have fr:∀a,a=s.heap.objs.size∨(none:Option Addr)=some a→s.heap.get? a=none:=by
    rintro a (rfl|h)
    ·induction q:s.heap.get? s.heap.objs.size with
     |none=>rfl
     |some o=>exact absurd (aZ q) (Nat.lt_irrefl _)
    ·exact Rk h
   have lt:∀a,a=s.heap.objs.size∨(none:Option Addr)=some a→fx.h₀.get? a=none∧a≠fx.L:=by
    rintro a (rfl|h)
    ·exact C.fresh
    ·exact Rk h
   obtain⟨i,hv',hat,C'⟩:=CR.new C hE (x:=s.heap.objs.size) (dx:=none) (h':=s.heap.push {cls:=.type "dict",data:=.dict #[]}) (fun _ _ e=>bu _ e) fr lt
    ⟨rfl,hf,.inl ⟨[],Heap.DictOf.new _,rfl,.nil⟩⟩
   exact hQ _ _ s.toks _ Wd.le_new C' (hv'▸.ref _ _ _ _ hat)
 |cons k ks=>
  induction vs using jL with
  |nil=>simp at hlen
  |cons z vs=>
   have hshape:∀(ks vs:List Expr),ks.length=vs.length→(evalEachOpt (ks.map some) fx.env).zip ((evalEach vs fx.env).map fun v=>do let x ←v;standAt pos;pure x) =
     ((ks.zip vs).map fun p=>(eval p.1 fx.env,do let x ←eval p.2 fx.env;standAt pos;pure x)).map fun p=>(some p.1,p.2):=by
    intro ks;induction ks with
    |nil=>intro vs _;induction vs using jL<;>rfl
    |cons k ks ih=>
     intro vs hl;induction vs using jL with
     |nil=>simp at hl
     |cons z vs=>
      show(some (eval k fx.env),_)::(evalEachOpt (ks.map some) fx.env).zip ((evalEach vs fx.env).map _)=_;rw[ih vs (by simpa using hl)];rfl
   have C₀:=C.pushAux {cls:=.type "dict",data:=.dict #[]} rfl qv;have go:∀{KK:Type} [DecidableEq KK] (knd:KeyKind PP cx.w KK) (enc:KK→V),(∀a b,fu (enc a) (enc b)=decide (a=b))→
     (∀W:Wd,∀(k v:V) (u:Value),cg k=true→br k=br v→(∃b,v=enc b)→VR cx.K W k u→∃a,k=enc a∧knd.is a u=true)→
     (∃k₀,∃k,xs.head?=some k∧br k=br (enc k₀))→
     (∀(W':Wd) (h':Heap) (kvs:List (KK×Value)),h'.DictOf knd s.heap.objs.size kvs→d.map (·.1)=kvs.map (fun p=>enc p.1)→VRs cx.K W' (d.map (·.2)) (kvs.map (·.2))→
      ObjR cx.w cx.K cx.names cx.okf W' h' s.heap.objs.size none (.dict d))→
     wpAny cx.mo fx.A (eval (.Dict ((k::ks).map some) (z::vs) pos) fx.env) Q Er s:=by
    intro KK _ knd enc k1 k2 zq;obtain⟨k₀,k3⟩:=zq;intro k4;refine wpAny_Dict_pairs (knd:=knd) (hshape _ _ hlen) (by simp) (by simp at hlen h15⊢;omega) ?_;have GG':GlobOk cx fx m ((s.heap.objs.size,{cls:=.type "dict",data:=.dict #[]})::RC) sc:=GG.more (List.sublist_cons_self _ _);have LL':LocOk cx fx m ((s.heap.objs.size,{cls:=.type "dict",data:=.dict #[]})::RC) sc ρ W:=LL.more (List.sublist_cons_self _ _);refine FU (s:={s with heap:=s.heap.push {cls:=.type "dict",data:=.dict #[]}}) h G GG' LL' C₀ h1 fun W₁ h₁ tk₁ us l₁ C₁ V₁ V₂=>?_;obtain⟨kvs,q1,q2,q3,q4⟩:=BB (knd:=knd) k1 (k2 W₁) hd V₁ V₂ (kacc:=[]) rfl (by simp) .nil (.inr k3);have hget:=(C₁.keep (s.heap.objs.size,_) (ax _ ak)).1;refine⟨kvs,q1,⟨_,_,_,hget,⟨rfl,rfl,rfl⟩,rfl,fun e he=>by simp at he,.nil,by simp⟩,fun h' hd' hs'=>?_⟩;obtain⟨i,hv',hat,C'⟩:=CR.absorb C₁ hE hs' (k4 _ h' _ hd' q2 (q3.mono Wd.le_new));exact hQ _ _ _ _ (l₁.trans Wd.le_new) C' (hv'▸.ref _ _ _ _ hat)
   have hx:∃x xs',xs=x::xs':=by
    induction xs using jL with
    |nil=>
     exfalso
     (conv at h1=>lhs;whnf)
     (refine Pn h1 ?_;clear h1;intro _ _ _ h1)
     (refine Pn h1 ?_;clear h1;intro _ _ _ h1)
     (refine Qa h1 ?_;clear h1;intro _ _ _ _ h1)
     (refine QU h1 ?_;clear h1;intro e;cases e)
    |cons x xs=>exact⟨x,xs,rfl⟩
   obtain⟨x,xs',rfl⟩:=hx;have hx1:cg x=true:=by
    induction ys using jL with
    |nil=>exact Rk hd
    |cons y ys=>
     rewrite[KW]at hd
     (refine PV hd ?_;clear hd;intro hc hd)
     exact(M6.mp hc).1
   induction x using cW<;>first|((first|exact CS hx1|cases hx1);done)|skip
   ·rename_i i;exact go (intKind PP cx.w) V.int ia (fun W=>Al) ⟨i,_,rfl,rfl⟩ fun W' h' kvs a b c=>⟨rfl,hf,.inl ⟨kvs,a,b,c⟩⟩
   ·rename_i i;exact go (PySem.strKind PP cx.w) (fun x=>V.str x.cps.toList) jz (fun W=>D6) ⟨⟨#[]⟩,_,rfl,rfl⟩ fun W' h' kvs a b c=>⟨rfl,hf,.inr ⟨kvs,a,b,c⟩⟩
end
set_option tactic.hygienic false
theorem kH{α:Type}{us:List α}{n:Str}(h:n∉names):(names.zip us).lookup n=none:=by
 induction names generalizing us with
 |nil=>rfl
 |cons x names ih=>
  induction us using jL with
  |nil=>rfl
  |cons u us=>
   simp only[uB,not_or]at h;rw[List.zip_cons_cons,bW,beq_eq_false_iff_ne.mpr h.1];exact ih h.2
theorem qt{α:Type}:∀{names:List Str} {us:List α},us.length≤names.length→names.zip us=(names.take us.length).zip us
 |[],[],_=>rfl
 |[],_::_,h=>by simp at h
 |_::_,[],_=>by simp
 |x::names,u::us,h=>by simp[qt (names:=names) (us:=us) (by simpa using h)]
theorem By{α:Type}:∀{names:List Str} {us:List α},names.Nodup→us.length=names.length→names.filterMap (fun n=>((names.zip us).lookup n).map (n,·))=names.zip us:=by
 intro names us hn hl;have key:∀(pre names:List Str) (pu us:List α),(pre++names).Nodup→pu.length=pre.length→us.length=names.length→
   names.filterMap (fun n=>(((pre++names).zip (pu++us)).lookup n).map (n,·))=names.zip us:=by
  intro pre names;induction names generalizing pre with
  |nil=>intro pu us _ _ h;induction us using jL<;>simp at h⊢
  |cons x names ih=>
   intro pu us hn hp hu;induction us using jL with
   |nil=>simp at hu
   |cons u us=>
    have e1:((pre++x::names).zip (pu++u::us)).lookup x=some u:=by
     rw[List.zip_append hp.symm,List.lookup_append,kH (n:=x) (by
      intro hm;exact(List.nodup_append.mp hn).2.2 x hm x ak rfl)]
     simp
    rw[List.filterMap_cons,e1];simp only[Option.map_some,List.zip_cons_cons];congr 1;have:=ih (pre++[x]) (pu++[u]) us (by simpa using hn) (by simp[hp]) (by simpa using hu);simpa using this
 simpa using key [] names [] us (by simpa using hn) rfl hl
noncomputable def hW(slots:List (Str×Value))(p:Str×Value):List (Str×Value):=if(slots.lookup p.1).isNone then slots++[(p.1,p.2)]else slots
theorem I0(hn:names.Nodup):∀(rest:List Str) (ds:List Value) (pre:List Str) (us:List Value),pre++rest=names→us.length=pre.length→ds.length=rest.length→(rest.zip ds).foldl hW (pre.zip us)=names.zip (us++ds):=by
 intro rest;induction rest with
 |nil=>
  intro ds pre us hp hu hd;induction ds using jL with
  |nil=>simp at hp⊢;rw[hp]
  |cons=>simp at hd
 |cons x rest ih=>
  intro ds pre us hp hu hd;induction ds using jL with
  |nil=>simp at hd
  |cons d ds=>
   rw[List.zip_cons_cons,List.foldl_cons];have hx:x∉pre:=fun hm=>by
    rw[←hp]at hn;exact(List.nodup_append.mp hn).2.2 x hm x ak rfl
   have e:hW (pre.zip us) (x,d)=(pre++[x]).zip (us++[d]):=by
    unfold hW;rw[kH hx];rw[ac rfl];rw[List.zip_append hu.symm];rfl
   rw[e,ih ds (pre++[x]) (us++[d]) (by simpa using hp) (by simp[hu]) (by simpa using hd)];simp
theorem xk:∀(rest:List Str) (ds:List Value),(∀x∈rest,((names.zip us).lookup x).isNone=false)→(rest.zip ds).foldl hW (names.zip us)=names.zip us:=by
 intro rest;induction rest with
 |nil=>intro ds _;rfl
 |cons x rest ih=>
  intro ds h;induction ds using jL with
  |nil=>rfl
  |cons d ds=>
   rw[List.zip_cons_cons,List.foldl_cons];have:hW (names.zip us) (x,d)=names.zip us:=by unfold hW;rw[af (by rw[h x ak];exact be)]
   rw[this];exact ih ds fun y hy=>h y (aD _ hy)
theorem kM{α:Type}:∀{names:List Str} {us:List α} {n:Str},us.length=names.length→n∈names→((names.zip us).lookup n).isNone=false:=by
 intro zz;induction zz with
 |nil=>
  intro _ _ _ h;cases h
 |cons zq1 zq2 ih=>
  intro zq3;induction zq3 using jL with
  |nil=>
   intro _ h _;simp at h
  |cons u us=>
   intro n h hm;rw[List.zip_cons_cons,bW];induction e:n==zq1 with
   |true=>rfl
   |false=>
    rcases uB.mp hm with rfl|hm
    ·simp at e
    ·exact ih (by simpa using h) hm
theorem EZ(hn:names.Nodup){ds:List Value}{p:Nat}(hU:us.length=p+k)(hN:names.length=p+ds.length)(hk:k≤ds.length):((names.drop p).zip ds).foldl hW (names.zip us)=names.zip (us++ds.drop k):=by
 have h1:us.length≤names.length:=by rw[hU,hN];exact Nat.add_le_add_left hk p
 have e0:names.zip us=(names.take us.length).zip us:=qt h1;have hd:(names.drop p).length=ds.length:=by rw[ck,hN,Nat.add_sub_cancel_left]
 have ht:(names.take us.length).length=us.length:=by rw[bh,Nat.min_eq_left h1]
 have split:(names.drop p).zip ds=((names.drop p).take k).zip (ds.take k)++(names.drop us.length).zip (ds.drop k):=by
  rw[hU,←bX,←List.zip_append (by rw[bh,bh,hd]),List.take_append_drop,List.take_append_drop]
 rw[split,List.foldl_append,e0];rw[xk (names:=names.take us.length) (us:=us) _ _ (fun x hx=>by
  refine kM ht.symm ?_;have:(names.drop p).take k=(names.take us.length).drop p:=by rw[List.drop_take,hU,Nat.add_sub_cancel_left]
  rw[this]at hx;exact List.mem_of_mem_drop hx)]
 exact I0 hn (names.drop us.length) (ds.drop k) (names.take us.length) us (List.take_append_drop _ _) ht.symm (by rw[ck,ck,hU,hN,Nat.add_sub_add_left])
theorem jF{α β:Type}(f:α→β→Sem (ForInStep β))(g:β→α→β)(hf:∀x r,f x r=pure (.yield (g r x))):∀(l:List α) (a:β) (Q:β→Shared→Prop),Q (l.foldl g a) s→wpAny M A (forIn l a f) Q E s
 |[],a,Q,h=>by rw[List.forIn_nil];exact ah h
 |x::l,a,Q,h=>by
  rw[List.forIn_cons,hf];exact ab (ah (jF f g hf l (g a x) Q h))
theorem vq{α:Type}{a b:α}{Q:α→Shared→Prop}(e:a=b)(h:Q b s):wpAny M A (pure a) Q E s:=ah (e▸h)
theorem Fe{fd:FuncData}{ds:List Value}(h1:fd.params.posonlyargs=[])(h2:fd.params.args.map (·.arg)=names)(h3:fd.params.vararg=none)(h4:fd.params.kwonlyargs=[])(h5:fd.params.kwarg=none) (hn:names.Nodup) (hd:∀(M:Model) (A:Around) (E:Value→Shared→Prop) (Q:Option (Array Value)→Shared→Prop),(∀r,(r.getD #[]).toList=ds→Q r s)→wpAny M A (seqItems? fd.defaults) Q E s) {p:Nat} (hU:us.length=p+k) (hN:names.length=p+ds.length) (hk:k≤ds.length):BindsTo s fd ⟨us,[]⟩ (names.zip (us++ds.drop k)):=by
 intro M A E Q hQ;obtain⟨nm,qn,⟨po,ar,va,ko,kd,kwa,df⟩,bd,sc,gl,cl,dfs⟩:=fd;dsimp only at h1 h2 h3 h4 h5;subst h1 h3 h4 h5;have hl:us.length≤names.length:=by rw[hU,hN];exact Nat.add_le_add_left hk p
 have c1:¬(us.length>names.length):=Nat.not_lt.mpr hl;have cp:names.length-ds.length=p:=by rw[hN,Nat.add_sub_cancel]
 have c2:ds.length-names.length=0:=by rw[hN];exact Nat.sub_eq_zero_of_le (Nat.le_add_left ..)
 have c3:((names.take (names.length-ds.length)).filter fun n=>((names.zip us).lookup n).isNone)=[]:=by
  rw[List.filter_eq_nil_iff];intro x hx;rw[qt hl,kM (by rw[bh,Nat.min_eq_left hl]) (by
   have:names.take (names.length-ds.length)=(names.take us.length).take p:=by rw[cp,hU,List.take_take,Nat.min_eq_left (Nat.le_add_right p k)]
   rw[this]at hx;exact List.mem_of_mem_take hx)]
  exact be
 unfold bindArgs;dsimp only[List.map_nil,List.nil_append,List.forIn_nil];rw[h2];refine ab (ah (ab (hd M A E _ fun r hr=>?_)));rewrite[hr];have c4:List.drop (ds.length-names.length) ds=ds:=by rw[c2,List.drop_zero]
 refine wpAny_ite_false (by simp only[List.map_nil,List.nil_append,Option.isNone_none,Bool.and_true];simp[c1]) ?_;refine wpAny_ite_false (by simp only[List.map_nil,List.nil_append,c4,c3];rfl) ?_;refine ab (jF _ hW (fun x r=>?_) _ _ _ ?_)
 ·obtain⟨n,d⟩:=x;unfold hW;dsimp only;split<;>rfl
 ·refine ab (ah ?_);refine wpAny_ite_false rfl ?_;refine vq ?_ hQ;simp only[List.map_nil,List.nil_append,List.append_nil,c4];rw[cp,EZ hn hU hN hk];exact By hn (by rw[bx,ck];omega)
theorem Wd.has_mem(x:W.has r i a):a∈W.adrs:=by
 obtain⟨y,dy,h,ha⟩:=x;unfold Wd.at at h;induction hR:W.σ[r]? with
 |none=>rw[hR]at h;exact Rk h
 |some R=>
  rw[hR]at h;dsimp only at h;unfold Wd.adrs;rw[List.mem_flatMap];refine⟨(y,dy),List.mem_flatten.mpr ⟨R,aP hR,aP h⟩,?_⟩;rcases ha with rfl|ha
  ·exact ak
  ·exact aD _ (by rw[ha];simp)
theorem Wd.mem_has(x:a∈W.adrs):∃r i,W.has r i a:=by
 unfold Wd.adrs at x;obtain⟨p,hp,ha⟩:=List.mem_flatMap.mp x;obtain⟨R,hR,hpR⟩:=List.mem_flatten.mp hp;obtain⟨r,hr⟩:=List.mem_iff_getElem?.mp hR;obtain⟨i,hi⟩:=List.mem_iff_getElem?.mp hpR;refine⟨r,i,p.1,p.2,?_,?_⟩
 ·unfold Wd.at;rw[hr];exact hi
 ·rcases uB.mp ha with rfl|ha
  ·exact .inl rfl
  ·exact .inr (by simpa using ha)
theorem GB{h₀:Heap}{L:Addr}:∀(l:List Addr),(∀a∈l,(∃o,h.get? a=some o)∧a≠L∧h₀.get? a=none)→∃news,News h₀ L h news∧news.map (·.1)=l
 |[],_=>⟨[],News.nil,rfl⟩
 |a::l,hl=>by
  obtain⟨news,N,e⟩:=GB l fun b hb=>hl b (aD _ hb);obtain⟨⟨o,ho⟩,h2⟩:=hl a ak;refine⟨(a,o)::news,fun p hp=>?_,by simp[e]⟩;rcases uB.mp hp with rfl|hp
  ·exact⟨ho,h2⟩
  ·exact N p hp
structure Og(fx:Fx)(RC:List (Addr×Obj))(W:Wd)(h:Heap)(news:List (Addr×Obj)):Prop where
 N:News fx.h₀ fx.L h news
 has:∀r i a,W.has r i a→a∈news.map (·.1)
 tup:∀q∈W.tups,q.1∈news.map (·.1)
 keep:∀q∈fx.frn++RC,q.1∈news.map (·.1)
section
theorem CR.ledger(C:CR w K names okf fx m RC W H h):∃news,Og fx RC W h news:=by
 obtain⟨news,N,e⟩:=GB (h₀:=fx.h₀) (h:=h) (L:=fx.L) (W.adrs++(W.tups.map (·.1)++(fx.frn++RC).map (·.1))) fun a ha=>by
  rcases NH.mp ha with ha|ha
  ·obtain⟨r,i,x⟩:=Wd.mem_has ha;obtain⟨o,ho,_⟩:=C.has_some x;exact⟨⟨o,ho⟩,(C.ap r i a x).2.1,(C.ap r i a x).1⟩
  ·rcases NH.mp ha with ha|ha
   ·obtain⟨q,hq,rfl⟩:=MQ.mp ha;obtain⟨⟨n,e⟩,a1,a2⟩:=C.tup q hq;exact⟨⟨_,e⟩,a2,a1⟩
   ·obtain⟨q,hq,rfl⟩:=MQ.mp ha;obtain⟨e,a1,a2⟩:=C.keep q hq;exact⟨⟨_,e⟩,a2,a1⟩
 refine⟨news,N,fun r i a x=>?_,fun q hq=>?_,fun q hq=>?_⟩<;>rw[e]
 ·exact aT _ (Wd.has_mem x)
 ·exact ax _ (aT _ (List.mem_map_of_mem hq))
 ·exact ax _ (ax _ (List.mem_map_of_mem hq))
theorem dZ{h₀ h₀':Heap}{L L':Addr}{news:List (Addr×Obj)}(N:News h₀ L h news)(N':News h₀' L' h' news)(ha:a∈news.map (·.1)):h'.get? a=h.get? a∧h₀'.get? a=none∧a≠L':=by
 obtain⟨p,hp,rfl⟩:=MQ.mp ha;exact⟨(N' p hp).1.trans (N p hp).1.symm,(N' p hp).2.2,(N' p hp).2.1⟩
theorem CR.enter(C:CR w K names okf fx m RC W H h){news:List (Addr×Obj)}(D:Og fx RC W h news){fx':Fx} (F:Fr fx'.h₀ fx'.L h' m') (N:News fx'.h₀ fx'.L h' (cells++news)) (hfr:fx'.frn=fx.frn++RC) (nd:(cells.map (·.1)).Nodup) (hc:∀q∈cells,∀p∈news,q.1≠p.1) (hk:∀q∈cells,notTuple q.2) :CR w K names okf fx' m' cells W H h':=by
 have Nn:News fx'.h₀ fx'.L h' news:=fun p hp=>N p (ax _ hp);refine⟨F,C.shape,fun r i o ho=>?_,fun q hq=>?_,fun q hq=>?_,C.inj,fun r i a x=>?_,⟨nd,fun q hq p hp e=>?_⟩,hk⟩
 ·obtain⟨x,dx,a,b⟩:=C.obj r i o ho;exact⟨x,dx,a,b.same (dZ D.N Nn (D.has r i x ⟨x,dx,a,.inl rfl⟩)).1 fun d hd=>(dZ D.N Nn (D.has r i d ⟨x,dx,a,.inr hd⟩)).1⟩
 ·obtain⟨e1,e2,e3⟩:=dZ D.N Nn (D.tup q hq);obtain⟨⟨n,e⟩,_⟩:=C.tup q hq;exact⟨⟨n,e1.trans e⟩,e2,e3⟩
 ·rcases NH.mp hq with hq|hq
  ·rw[hfr]at hq;obtain⟨e1,e2,e3⟩:=dZ D.N Nn (D.keep q hq);exact⟨e1.trans (C.keep q hq).1,e2,e3⟩
  ·exact⟨(N q (aT _ hq)).1,(N q (aT _ hq)).2.2,(N q (aT _ hq)).2.1⟩
 ·obtain⟨e1,e2,e3⟩:=dZ D.N Nn (D.has r i a x);refine⟨e2,e3,fun q hq e=>?_⟩;rcases NH.mp hq with hq|hq
  ·rw[hfr]at hq;exact(C.ap r i a x).2.2 q hq e
  ·obtain⟨p,hp,hpa⟩:=MQ.mp (D.has r i a x);exact hc q hq p hp (e.trans hpa.symm)
 ·rw[hfr]at hp;obtain⟨z,hz,hza⟩:=MQ.mp (D.keep p hp);exact hc q hq z hz (e.trans hza.symm)
theorem CR.leave(C:CR w K names okf fx m RC W H h){fx':Fx}{aux':List (Addr×Obj)}(C':CR w K names okf fx' m' aux' W' H' h')(hfr:fx'.frn=fx.frn++RC) {news':List (Addr×Obj)} (D:Og fx' aux' W' h' news') (F:Fr fx.h₀ fx.L h' m) (N:News fx.h₀ fx.L h' news'):CR w K names okf fx m RC W' H' h':=by
 refine⟨F,C'.shape,C'.obj,fun q hq=>⟨(C'.tup q hq).1,?_⟩,fun q hq=>?_,C'.inj,fun r i a x=>?_,C.axd,C.axk⟩
 ·obtain⟨p,hp,e⟩:=MQ.mp (D.tup q hq);rw[←e];exact⟨(N p hp).2.2,(N p hp).2.1⟩
 ·have hq':q∈fx'.frn++aux':=aT _ (hfr▸hq);obtain⟨p,hp,e⟩:=MQ.mp (D.keep q hq');refine⟨(C'.keep q hq').1,?_⟩;rw[←e];exact⟨(N p hp).2.2,(N p hp).2.1⟩
 ·obtain⟨p,hp,e⟩:=MQ.mp (D.has r i a x);refine⟨e▸(N p hp).2.2,e▸(N p hp).2.1,fun q hq=>?_⟩;exact(C'.ap r i a x).2.2 q (aT _ (hfr▸hq))
end
theorem aK{k:NameKind}:∀{l:List (Str×NameKind)} {n:Nat},bc x l n=some (i,k)→l.lookup x=some k∧n≤i:=by
 intro zz;induction zz with
 |nil=>
  intro _ h;exact Rk h
 |cons zq1 zq2 ih=>
  intro n h;obtain⟨y,k'⟩:=zq1;rw[bW];refine tR h ?_ ?_<;>clear h
  ·intro e h;induction h using QM;simp[e]
  ·intro e h;have:=ih h;simp[Bool.eq_false_iff.mpr e,this.1];omega
theorem dH{y:Str}{k k':NameKind}:∀{l:List (Str×NameKind)} {n:Nat},bc x l n=some (i,k)→bc y l n=some (i,k')→x=y:=by
 intro zz;induction zz with
 |nil=>
  intro _ h _;exact Rk h
 |cons zq1 zq2 ih=>
  intro n h h';obtain⟨z,k''⟩:=zq1;refine tR h (fun e h=>tR h' (fun e' _=>?_) fun _ h'=>?_) fun _ h=>tR h' (fun _ h'=>?_) fun _ h'=>ih h h'
  ·rw[iu.mp e,iu.mp e']
  ·induction h using QM;exact absurd (aK h').2 (Nat.lt_irrefl _)
  ·induction h' using QM;exact absurd (aK h).2 (Nat.lt_irrefl _)
noncomputable def bM(scope:Scope):Sc:=⟨scope.names,0,none⟩
structure hG(fx:Fx)(scope:Scope):Prop where
 env:fx.env=fx.fenv
 sc:fx.env.scope=scope
 loc:fx.env.locals=fx.L
structure FLoc(cx:Cx)(fx:Fx)(scope:Scope)(m:Str→Option Value)(cells:List (Addr×Obj))(ρ:bJ)(W:Wd):Prop where
 len:ρ.length=scope.names.length
 loc:∀x i v,bc x scope.names 0=some (i,.local)→ρ[i]?=some (some v)→∃u,m x=some u∧VR cx.K W v u
 cel:∀x i,bc x scope.names 0=some (i,.cell)→∃c o val,fx.env.cells.lookup x=some c∧(c,o)∈cells∧o.data=.cell val∧∀v,ρ[i]?=some (some v)→∃u,val=some u∧VR cx.K W v u
 ap:∀x y c,fx.env.cells.lookup x=some c→fx.env.cells.lookup y=some c→x=y
def PZ(K:Frag)(W:Wd):Fl→Flow→Prop
 |.next,.next=>True
 |.ret v,.ret u=>VR K W v u
 |_,_=>False
section
variable(cx:Cx)(RD:Nat)(scope:Scope)
def Ni(t:Env→Sem Flow)(S:St):Prop:=∀(fx:Fx) (m:Str→Option Value) (ext cells:List (Addr×Obj)) (ρ:bJ) (W:Wd) (H:Hp) (s:Shared) (fl:Fl) (ρ':bJ) (H':Hp) (r:Nat) (Q:Flow→Shared→Prop) (Er:Value→Shared→Prop),Good cx fx RD→hG fx scope→FLoc cx fx scope m cells ρ W→cx.CR fx m (ext++cells) W H s.heap→S ρ r H=some (fl,ρ',H')→ (∀(W':Wd) (h':Heap) (tk:Nat) (m':Str→Option Value) (cells':List (Addr×Obj)) (f:Flow),W.le W'→FLoc cx fx scope m' cells' ρ' W'→cx.CR fx m' (ext++cells') W' H' h'→PZ cx.K W' fl f→Q f (sH s h' tk))→ wpAny cx.mo fx.A (t fx.env) Q Er s
def jA(s:Stmt)(S:St):Prop:=Ni cx RD scope (fun env=>exec s env) S
def sd(l:List Stmt)(B:List St):Prop:=Ni cx RD scope (fun env=>execs l env) (aC B)
def Callee(f:Addr)(F:Md):Prop:=∀(fx:Fx) (m:Str→Option Value) (RC:List (Addr×Obj)) (W:Wd) (H:Hp) (s:Shared) (xs:List V) (us:List Value) (v:V) (H':Hp) (r:Nat) (R:Result→Shared→Prop),Good cx fx RD→fx.A.depth+10*RD+25≤990→fx.A.units+100*RD+250≤9000→cx.CR fx m RC W H s.heap→VRs cx.K W xs us→F xs r H=some (v,H')→ (∀(W':Wd) (h':Heap) (tk:Nat) (u:Value),W.le W'→cx.CR fx m RC W' H' h'→VR cx.K W' v u→R (.ok (.ret u)) (sH s h' tk))→codeAny cx.mo fx.A (.call (.ref f) ⟨us,[]⟩) R s
end
theorem Good.lower{lvl':Nat}(G:Good cx fx RD)(h:lvl'≤RD):Good cx fx lvl':=⟨G.B,G.hA,G.hf,G.hke,G.hg,G.hb,G.hk,G.X,G.T,G.hh,by have:=G.dep;omega,by have:=G.un;omega,G.sysm⟩
theorem nC:∀{is:List Nat} {ys:List V} {ρ₀ ρ:bJ},fX is ys ρ₀=some ρ→is.length=ys.length∧∀(i:Nat) (v:V),ρ[i]?=some (some v)→(∃j:Nat,is[j]?=some i∧ys[j]?=some v)∨ρ₀[i]?=some (some v)
 |[],[],ρ₀,ρ,h=>by obtain rfl:=av h;exact⟨rfl,fun i v hv=>.inr hv⟩
 |[],_::_,ρ₀,ρ,h=>by exact Rk h
 |_::_,[],ρ₀,ρ,h=>by exact Rk h
 |i₀::is,y::ys,ρ₀,ρ,h=>by
  obtain⟨h1,h2⟩:=nC (is:=is) (ys:=ys) (ρ₀:=ρ₀.set i₀ (some y)) h;refine⟨by simp[h1],fun i v hv=>?_⟩;rcases h2 i v hv with⟨j,a,b⟩|h3
  ·exact .inl ⟨j+1,a,b⟩
  ·rw[List.getElem?_set]at h3;by_cases e:i₀=i
   ·subst e;rw[ac rfl]at h3
    (refine PV h3 ?_;clear h3;intro _ h3)
    (refine QU h3 ?_;clear h3;intro e;cases e);exact .inl ⟨0,rfl,rfl⟩
   ·rw[af e]at h3;exact .inr h3
theorem t8:∀{is:List Nat} {ys:List V} {ρ₀ ρ:bJ},fX is ys ρ₀=some ρ→ρ.length=ρ₀.length
 |[],[],ρ₀,ρ,h=>by obtain rfl:=av h;rfl
 |[],_::_,ρ₀,ρ,h=>by exact Rk h
 |_::_,[],ρ₀,ρ,h=>by exact Rk h
 |i₀::is,y::ys,ρ₀,ρ,h=>(t8 (is:=is) (ys:=ys) (ρ₀:=ρ₀.set i₀ (some y)) h).trans List.length_set
theorem AC{kindOf:Str→Option NameKind}{x:Str}:∀{binds:List (Str×Value)} {m:Str→Option Value},x∉binds.map (·.1)→bindL kindOf binds m x=m x:=by
 intro zz;induction zz with
 |nil=>
  intro _ _;exact rfl
 |cons zq1 zq2 ih=>
  intro m h;obtain⟨n,v⟩:=zq1;simp only[List.map_cons,uB,not_or]at h;unfold bindL;rw[ih h.2];split
  ·exact af h.1
  ·rfl
theorem qA{kindOf:Str→Option NameKind}{x:Str}{u:Value}(hk:kindOf x=some .local):∀{binds:List (Str×Value)} {m:Str→Option Value},(binds.map (·.1)).Nodup→(x,u)∈binds→bindL kindOf binds m x=some u
 |(n,v)::r,m,hn,h=>by
  simp only[List.map_cons,List.nodup_cons]at hn;unfold bindL;rcases uB.mp h with e|h
  ·induction e using QX;rw[AC hn.1,ac hk];exact ac rfl
  ·exact qA hk hn.2 h
theorem AG{kindOf:Str→Option NameKind}{x:Str}:∀{binds:List (Str×Value)} {m:Str→Option Value},x∉binds.map (·.1)→bindC kindOf binds m x=m x:=by
 intro zz;induction zz with
 |nil=>
  intro _ _;exact rfl
 |cons zq1 zq2 ih=>
  intro m h;obtain⟨n,v⟩:=zq1;simp only[List.map_cons,uB,not_or]at h;unfold bindC;rw[ih h.2];split
  ·rfl
  ·exact af h.1
theorem xX{kindOf:Str→Option NameKind}(hk:kindOf x≠some .local):∀{binds:List (Str×Value)} {m:Str→Option Value},(binds.map (·.1)).Nodup→(x,u)∈binds→bindC kindOf binds m x=some u
 |(n,v)::r,m,hn,h=>by
  simp only[List.map_cons,List.nodup_cons]at hn;unfold bindC;rcases uB.mp h with e|h
  ·induction e using QX;rw[AG hn.1,af hk];exact ac rfl
  ·exact xX hk hn.2 h
theorem om{cm:Str→Option Value}:∀{cs:List (Str×Addr)} {cells:List (Addr×Obj)},CellsAre cm cs cells→cells.map (·.1)=cs.map (·.2)∧(∀x c,cs.lookup x=some c→∃o,(c,o)∈cells∧o.data=.cell (cm x))∧∀q∈cells,∃v,q.2.data=.cell v:=by
 intro cs cells h;induction h with
 |nil=>exact⟨rfl,(fun x c e=>by exact Rk e),(fun q hq=>by cases hq)⟩
 | @cons n c o cs cells hd _ ih=>
  refine⟨by simp[ih.1],fun x c' e=>?_,fun q hq=>?_⟩
  ·rw[bW]at e;induction hb:x==n with
   |true=>rw[hb]at e;induction e using QT;rw[iu.mp hb];exact⟨o,ak,hd⟩
   |false=>rw[hb]at e;obtain⟨o',h1,h2⟩:=ih.2.1 x c' e;exact⟨o',aD _ h1,h2⟩
  ·rcases uB.mp hq with rfl|hq
   ·exact⟨_,hd⟩
   ·exact ih.2.2 q hq
theorem fA:∀(names:List (Str×NameKind)) (n lo:Nat) (acc:List (Str×Addr)),(∀p∈acc,lo≤p.2∧p.2<n)→lo≤n→acc.Pairwise (fun x y=>x.2≠y.2)→(∀p∈cellsFrom n names acc,lo≤p.2)∧(cellsFrom n names acc).Pairwise (fun x y=>x.2≠y.2)
 |[],n,lo,acc,h,_,hp=>⟨fun p hp=>(h p hp).1,hp⟩
 |(name,kind)::r,n,lo,acc,h,hlo,hp=>by
  unfold cellsFrom;split
  ·refine fA r (n+1) lo _ (fun p hp=>?_) (by(constructor<;>first|assumption|decide)) (List.pairwise_cons.mpr ⟨fun y hy e=>?_,hp⟩)
   ·rcases uB.mp hp with rfl|hp
    ·exact⟨hlo,Nat.lt_succ_self _⟩
    ·have:=h p hp;exact⟨this.1,Nat.lt_succ_of_lt this.2⟩
   ·have:=(h y hy).2;rw[←e]at this;exact absurd this (Nat.lt_irrefl _)
  ·exact fA r n lo acc h hlo hp
set_option tactic.hygienic true
variable{RD:Nat}{scope:Scope}{cx:Cx}
inductive tv(K:Frag):Value→List Value→Prop
 |none:tv K .none []
 |some (T:Addr) (o:Obj) (items:Array Value) (n:Nat):K.lookup T=some o→o.data=.seq items n→tv K (.ref T) items.toList
inductive K2(cx:Cx)(f:Addr)(params:Arguments)(body:List Stmt)(scope:Scope)(ds:List V):Prop
 |mk (name qual:Str) (dV kV doc pm cdv ct oc:Value) (an od:Option Addr) (osl:Array (Option Value)) (dsV:List Value) :
  cx.K.lookup f=some ⟨oc,od,.func (fnX name qual params body scope [] dV kV doc pm an cdv ct),osl⟩→codeIn cx.K cdv qual=true→tv cx.K dV dsV→(∀W,VRs cx.K W ds dsV)→K2 cx f params body scope ds
structure Gn(cx:Cx)(f:Addr)(params:Arguments)(body:List Stmt)(scope:Scope)(ds:List V):Prop where
 obj:K2 cx f params body scope ds
 pos:params.posonlyargs=[]
 va:params.vararg=none
 kwo:params.kwonlyargs=[]
 kwa:params.kwarg=none
 nd:(params.args.map (·.arg)).Nodup
 kinds:∀x∈params.args.map (·.arg),∃i,bc x scope.names 0=some (i,.local)∨bc x scope.names 0=some (i,.cell)
 dl:ds.length≤params.args.length
 cnd:((cellsFrom 0 scope.names []).map (·.1)).Nodup
 co:scope.isCoroutine=false
 gen:scope.isGenerator=false
 kind:scope.kind=.function
def k8(params:Arguments)(scope:Scope):List Nat:=params.args.map fun a=>(match bc a.arg scope.names 0 with|some (n,_)=>n | .none=>1000)
theorem ur{α:Type}:∀{names:List Str} {us:List α},us.length=names.length→(names.zip us).map (·.1)=names
 |[],[],_=>rfl
 |[],_::_,h=>by simp at h
 |_::_,[],h=>by simp at h
 |x::names,u::us,h=>by simp[ur (names:=names) (us:=us) (by simpa using h)]
theorem AJ{ys:List V}(h:gr xs ds n=some ys)(hd:ds.length≤n):∃p k,xs.length=p+k∧n=p+ds.length∧k≤ds.length∧ys=xs++ds.drop k:=by
 unfold gr at h;dsimp only at h;by_cases hc:xs.length≤n∧n≤xs.length+ds.length
 ·rw[ac hc]at h;obtain⟨p,hp⟩:=Nat.exists_eq_add_of_le' hd;obtain⟨k,hk⟩:=Nat.exists_eq_add_of_le (Nat.le_of_add_le_add_right (hp▸hc.2):p≤xs.length);have e:xs.length+ds.length-n=k:=by rw[hk,hp,Nat.add_right_comm,Nat.add_sub_cancel_left]
  exact⟨p,k,hk,hp,Nat.le_of_add_le_add_left (a:=p) (by rw[←hk,←hp];exact hc.1),(av h).symm.trans (by rw[e])⟩
 ·rw[af hc]at h;exact Rk h
theorem jr:∀{names:List (Str×NameKind)} {n:Nat} {acc:List (Str×Addr)},names.lookup x=some .cell→((cellsFrom n names acc).lookup x).isSome=true:=by
 intro names n acc h;exact W.cellsFrom_some names n acc (.inl h)
theorem pG{l:List (Str×Addr)}(h:l.Pairwise fun x y=>x.2≠y.2){y:Str}{c:Addr}(hx:l.lookup x=some c)(hy:l.lookup y=some c):x=y:=name_of_addr h (mem_of_lookup hx) (mem_of_lookup hy)
set_option backward.match.sparseCases true in
theorem Dd{f:Addr}{params:Arguments}(D:Gn cx f params body scope ds)(hB:sd cx RD scope body B):Callee cx RD f (aq (k8 params scope) ds scope.names.length B):=by
 intro fx m RC W H s xs us v H' r R G hdep hun C V hE hR;obtain⟨name,qual,dV,kV,doc,pm,cdv,ct,oc,an,od,osl,dsV,ho,hcd,hdV,hds⟩:=D.obj;unfold aq at hE
 (refine Ro hE ?_;clear hE;intro ys hfill hE)
 (refine Ri hE ?_;clear hE;intro ρ hset hE)
 have hpl:(k8 params scope).length=params.args.length:=ao _;obtain⟨p,k,f1,f2,f3,rfl⟩:=AJ hfill (hpl.symm▸D.dl);have hdl:=(hds W).length;have hnl:(params.args.map (·.arg)).length=params.args.length:=ao _;have hU:us.length=p+k:=V.length▸f1;have hN:(params.args.map (·.arg)).length=p+dsV.length:=by rw[hnl,←hdl,←f2,hpl]
 have hK:k≤dsV.length:=hdl▸f3;obtain⟨news,LD⟩:=C.ledger;have X:=G.X.keeps C.fr.keep;have hbind:BindsTo s (fnX name qual params body scope [] dV kV doc pm an cdv ct) ⟨us,[]⟩ ((params.args.map (·.arg)).zip (us++dsV.drop (k))):=by
  refine Fe (fd:=fnX name qual params body scope [] dV kV doc pm an cdv ct) D.pos rfl D.va D.kwo D.kwa D.nd (fun M A E Q hq=>?_) hU hN hK;induction hdV with
  |none=>exact ah (hq _ rfl)
  |some T o items n hT hs=>exact wpAny_seqItems (X _ _ hT) hs (hq _ rfl)
 have hzl:(us++dsV.drop (k)).length=(params.args.map (·.arg)).length:=by rw[bx,ck,hU,hN,Nat.add_assoc,Nat.add_sub_of_le hK]
 have hVys:VRs cx.K W (xs++ds.drop k) (us++dsV.drop k):=V.append ((hds W).drop k);have hkinds:∀x∈(params.args.map (·.arg)).zip (us++dsV.drop (k)),scope.names.lookup x.1=some .local∨scope.names.lookup x.1=some .cell:=fun x hx=>by
  obtain⟨i,h|h⟩:=D.kinds x.1 (List.of_mem_zip hx).1
  ·exact .inl (aK h).1
  ·exact .inr (aK h).1
 generalize hbs:(params.args.map (·.arg)).zip (us++dsV.drop (k))=binds at hbind hkinds;have hbn:(binds.map (·.1))=params.args.map (·.arg):=by rw[←hbs];exact ur hzl
 refine callX_cells G.B C.fr LD.N G.T.nolimit G.hA G.hf G.hke (X _ _ ho) rfl (codeRec_of X hcd) ?_ hbind (fun n x hx=>?_) D.cnd (fun g L' h₁ tk cells FG F' N' Y B' st lt=>?_) D.co D.gen D.kind
 ·show fx.A.depth<recursionLimit;have:(990:Nat)<recursionLimit:=by decide
  clear hE;omega
 ·rcases hkinds x hx with h|h
  ·exact .inl h
  ·exact .inr ⟨h,jr h⟩
 ·have hpw:=fA scope.names (L'+1) (L'+1) [] (by simp) (aS _) .nil;obtain⟨cg1,cg2,cg3⟩:=om Y;let env':Env:=envOfC qual scope L' f cdv;let fx':Fx:={A₀:=fx.A,A:=fx.A.deeper env',base:=fx.base,outer:=fx.fenv::fx.outer,fenv:=env',env:=env',h₀:=g,L:=L',frn:=fx.frn++RC};have hnodup:(cells.map (·.1)).Nodup:=by
   rw[cg1];show((cellsFrom (L'+1) scope.names []).map (·.2)).Nodup;rw[List.Nodup,List.pairwise_map];exact hpw.2
  have hcn:∀q∈cells,∀p∈news,q.1≠p.1:=fun q hq p hp e=>by
   have h1:q.1∈cells.map (·.1):=List.mem_map_of_mem hq;rw[cg1]at h1;obtain⟨z,hz,hz2⟩:=MQ.mp h1;have h2:=hpw.1 z hz;have h3:=lt p hp;rw[hz2,e]at h2;exact absurd h3 (Nat.not_lt.mpr (Nat.le_of_succ_le h2))
  have C₁:cx.CR fx' (bindL env'.kindOf binds fun _=>none) ([]++cells) W H h₁:=C.enter (fx':=fx') LD F' N' rfl hnodup hcn fun q hq h=>by
   obtain⟨v,hv⟩:=cg3 q hq;obtain⟨_,a,n,h2⟩:=h;rw[hv]at h2;cases h2
  have G':Good cx fx' RD:=⟨B',Around.frames_deeper G.hA,rfl,D.kind,rfl,rfl,D.kind,G.X.keeps st,G.T.keeps st,G.hh,by show fx.A.depth+1+10*RD+20≤990;clear hE;omega,
   by show fx.A.units+3+100*RD+200≤9000;clear hE;omega,by obtain⟨o,ho⟩:=G.sysm;exact⟨o,st _ _ ho⟩⟩
  have FF:hG fx' scope:=⟨rfl,rfl,rfl⟩;have arg:∀x i v kd,bc x scope.names 0=some (i,kd)→ρ[i]?=some (some v)→∃u,(x,u)∈binds∧VR cx.K W v u:=fun x i v kd hx hv=>by
   rcases(nC hset).2 i v hv with⟨j,h1,h2⟩|h3
   ·obtain⟨u,hu,hV⟩:=hVys.get h2;refine⟨u,?_,hV⟩;unfold k8 at h1;rw[aB]at h1;induction ha:params.args[j]? with
    |none=>rw[ha]at h1;exact Rk h1
    |some a=>
     rw[ha]at h1;simp only[Option.map_some,Option.some.injEq]at h1;have hmem:a.arg∈params.args.map (·.arg):=List.mem_map_of_mem (aP ha);obtain⟨i',hp⟩:=D.kinds _ hmem;have hxa:x=a.arg:=by
      rcases hp with hp|hp<;>rw[hp]at h1<;>(simp only at h1;subst h1;exact dH hx hp)
     rw[←hbs,hxa];have:((params.args.map (·.arg)).zip (us++dsV.drop (k)))[j]?=some (a.arg,u):=by
      rw[List.getElem?_zip_eq_some];refine⟨by rw[aB,ha];rfl,hu⟩
     exact aP this
   ·exfalso;rw[List.getElem?_replicate]at h3;split at h3<;>(first|(refine QU h3 ?_;clear h3;intro e;cases e)|exact Rk h3)
  have FL:FLoc cx fx' scope (bindL env'.kindOf binds fun _=>none) cells ρ W:=by
   refine⟨by rw[t8 hset,List.length_replicate],fun x i v hx hv=>?_,fun x i hx=>?_,fun x y c h1 h2=>pG hpw.2 h1 h2⟩
   ·obtain⟨u,hu,hV⟩:=arg x i v _ hx hv;exact⟨u,qA (show env'.kindOf x=some .local from(aK hx).1) (by rw[hbn];exact D.nd) hu,hV⟩
   ·have hk:=(aK hx).1;obtain⟨c,hc⟩:=Option.isSome_iff_exists.mp (jr (n:=L'+1) (acc:=[]) hk);obtain⟨o,h1,h2⟩:=cg2 x c hc;refine⟨c,o,_,hc,h1,h2,fun v hv=>?_⟩;obtain⟨u,hu,hV⟩:=arg x i v _ hx hv;exact⟨u,xX (show env'.kindOf x≠some .local by show scope.names.lookup x≠_;rw[hk];decide) (by rw[hbn];exact D.nd) hu,hV⟩
  have post:∀(fl:Fl) (ρ':bJ),(match fl with | .ret v=>v | .next=>Mine.Tactic.V.none)=v→aC B ρ r H=some (fl,ρ',H')→
    wpAny cx.mo (fx.A.deeper env') (execs body env') (fun fl s'=>LeaveK fx.h₀ fx.L m g R (match fl with | .ret v=>v|_=>.none) s')
     (fun e s'=>wpAny cx.mo (fx.A.deeper env') (leaving env' e) (fun _ s''=>R (.error e) s'') (fun e' s''=>R (.error e') s'') s') (sH s h₁ tk):=fun fl ρ' hv hS=>by
   refine hB fx' _ [] cells ρ W H (sH s h₁ tk) fl ρ' H' r _ _ G' FF FL C₁ hS fun W' h' tk' m' cells' f lW FL' C' FR=>?_;obtain⟨news',LD'⟩:=C'.ledger;refine⟨L',m',news',C'.fr,LD'.N,fun F N=>hR W' h' tk' _ lW (C.leave (fx':=fx') C' rfl LD' F N) ?_⟩;induction fl using Fl.casesOn<;>induction f using Flow.casesOn<;>first|(exact FR.elim;done)|skip
   ·subst hv;exact .none
   ·subst hv;exact FR
  split at hE
  ·rename_i v' ρ' H₂ hS;induction hE using QM;exact post _ ρ' rfl hS
  ·rename_i ρ' H₂ hS;induction hE using QM;exact post _ ρ' rfl hS
  ·exact Rk hE
set_option tactic.hygienic false
section
variable{cx:Cx}{RD:Nat}{sc:Sc}{fx:Fx}{m:Str→Option Value}{RC:List (Addr×Obj)}{W:Wd}{H H':Hp}{s:Shared}{r:Nat}
theorem my(hs:∀e∈es,aH e=true→f e=aw)(h:cs (es.map f) ρ r H=some (xs,H')):∀e∈es,aH e=false:=by
 induction es generalizing H xs with
 |nil=>intro e he;cases he
 |cons e es ih=>
  obtain⟨x,H₁,ys,h1,h2,rfl⟩:=JI h;intro e' he;rcases uB.mp he with rfl|he
  ·induction q:aH e' with
   |false=>rfl
   |true=>rw[hs e' ak q]at h1;exact Rk h1
  ·exact ih (fun e he=>hs e (aD _ he)) h2 e' he
theorem mh(h:∀e∈es,aH e=false):(backTo pos (starEach es env)).any (·.1)=false∧(backTo pos (starEach es env)).all (fun x=>!x.1)=true:=by
 induction es with
 |nil=>exact⟨rfl,rfl⟩
 |cons e es ih=>
  rw[bC (h e ak),cb];have:=ih fun e he=>h e (aD _ he);simp[this.1,this.2]
theorem kg{f:Value}{Q:Args→Shared→Prop}(hn:∀e∈es,aH e=false) (h:wpAny M A (spliced (backTo pos (starEach es env))) (fun vs s'=>Q ⟨vs,[]⟩ s') E s):wpAny M A (evalArgs f true (backTo pos (starEach es env)) []) Q E s:=by
 induction es using jL with
 |nil=>
  unfold evalArgs;show wpAny M A (spliced (backTo pos (starEach [] env))>>=_) Q E s;refine ab (bj h (fun vs s' h'=>?_) fun _ _ x=>x);exact ab (ah (bz (ab (ah (ab (ah (ah h')))))))
 |cons e es=>
  rw[bC (hn e ak),cb]at h⊢;exact evalArgs_plain h
theorem rb{f:Value}{first:List Value}(hk:keepIn K f=true)(hn:∀e∈es,aH e=false) (h:wpAny M A (spliced (backTo pos (starEach es env))) (fun vs s₁=>K.In s₁.heap∧wpAny M A (call f (first++vs)) Q E s₁) E s):wpAny M A (callWith pos f first (backTo pos (starEach es env)) []) Q E s:=
 callWith_of (by rw[(mh hn).1];rfl) (keeps_K hk) (kg hn h)
theorem gE{id:String}{first:List Value}(hn:∀e∈es,aH e=false) (h:wpAny M A (spliced (backTo pos (starEach es env))) (fun vs s₁=>wpAny M A (call (.builtin id) (first++vs)) Q E s₁) E s):wpAny M A (callWith pos (.builtin id) first (backTo pos (starEach es env)) []) Q E s:=
 callWith_builtin (mh hn).1 (kg hn h)
theorem jf{o:Expr}{name:Str}{args:List Expr} (hbase:attributeBase o name env (eval o env)=eval o env) (hn:∀e∈args,aH e=false) (hlen:args.length<30) (hline:(apos.endLine==pos.line)=true) (h : wpAny M A (eval o env) (fun ov s₁ => wpAny M A (getMethod ov name (do return (← importBound o env).getD true)) (fun fx s₂ => wpAny M A (callWith pos fx.1 fx.2 (backTo pos (starEach args env)) []) Q E s₂) E s₁) E s) :wpAny M A (eval (.Call (.Attribute o name apos) args [] pos) env) Q E s:=by
 rw[arm_eval_Call,hbase];refine ab (bj h (fun ov s₁ h₁=>?_) fun _ _ e=>e);refine ab (wpAny_standAt ?_);have hform:methodCallForm (args.length+([]:List Keyword).length) (backTo pos (starEach args env)) (backToKw pos (keywordEach [] env))=true:=by
  unfold methodCallForm;rw[(mh hn).2];exact decide_eq_true hlen
 have hpos:methodCallPos true o env apos pos=pure pos:=by unfold methodCallPos;simp[hline]
 unfold methodCall;rw[hform];unfold calleeOf;refine ab (bz (bj h₁ (fun fx s₂ h₂=>?_) fun _ _ e=>e));exact ab (wpAny_of_eq hpos h₂)
theorem CA{init:Md}{fI:Addr}(hm:makesIn cx.K C=true)(hi:findIn cx.K (.ref C) "__init__" = some (some (.ref fI)))(hf:isFn cx.K (.ref fI)=true)(hI:Callee cx RD fI init):Callee cx (RD+1) C (cY C init):=by
 intro fx m RC W H s xs us v H' r R G hdep hun C₀ V₀ hE hR;unfold cY at hE
 (refine Pn hE ?_;clear hE;intro v₁ H₁ hnew hE)
 (refine QK hE ?_;clear hE;intro H₂ hinit hE)
 induction hE using QM;have X:=G.X.keeps C₀.fr.keep;obtain⟨hh,g,d,t,os⟩:=s;refine make_core (makes_of X hm) (looks_findIn X hi) (fun self=>bind_fn X self (iu.mp hf)) (.inl rfl) ?_;have old:∀b q,hh.get? b=some q→((hh.push emptyDict).push (instObj C hh.objs.size)).get? b=some q:=fun b q e=>bu _ (bu _ e);have hd:((hh.push emptyDict).push (instObj C hh.objs.size)).get? hh.objs.size=some emptyDict:=bu _ (cq _ rfl);have hx:((hh.push emptyDict).push (instObj C hh.objs.size)).get? (hh.objs.size+1)=some (instObj C hh.objs.size):=by
  have:=cq (hh.push emptyDict) (o:=instObj C hh.objs.size) rfl;rw[Heap.size_push]at this;exact this
 have none_at:∀a,hh.objs.size≤a→hh.get? a=none:=fun a ha=>by
  induction q:hh.get? a with
  |none=>rfl
  |some o=>exact absurd (aZ q) (Nat.not_lt.mpr ha)
 have fr:∀a,a=hh.objs.size+1∨some hh.objs.size=some a→hh.get? a=none:=by
  rintro a (rfl|h)
  ·exact none_at _ (Nat.le_succ _)
  ·induction h using QT;exact none_at _ (aS _)
 have lt:∀a,a=hh.objs.size+1∨some hh.objs.size=some a→fx.h₀.get? a=none∧a≠fx.L:=by
  intro a ha;have hle:hh.objs.size≤a:=by rcases ha with rfl|ha;exact Nat.le_succ _;induction ha using QT;exact aS _
  refine⟨?_,fun e=>?_⟩
  ·induction q:fx.h₀.get? a with
   |none=>rfl
   |some o=>exact absurd (aZ (C₀.fr.keep _ _ q)) (Nat.not_lt.mpr hle)
  ·exact absurd C₀.fr.ns.lt (by rw[←e];exact Nat.not_lt.mpr hle)
 obtain⟨i,hv',hat,C₁⟩:=CR.new C₀ hnew (x:=hh.objs.size+1) (dx:=some hh.objs.size) old fr lt
  ⟨by simp,(fun p hp=>by cases hp),hh.objs.size,[],0,rfl,hx,hd,trivial⟩
 let fx':Fx:={fx with A:=fx.A.under (.builtin "type.__call__" ⟨.ref C::us,[]⟩)};have hframes:(fx.A.under (.builtin "type.__call__" ⟨.ref C::us,[]⟩)).frames=fx.A.frames:=rfl;have hdepth:(fx.A.under (.builtin "type.__call__" ⟨.ref C::us,[]⟩)).depth≤fx.A.depth+2:=by
  show fx.A.depth+Code.weight (.builtin "type.__call__" ⟨.ref C::us,[]⟩)≤_;have:Code.weight (.builtin "type.__call__" ⟨.ref C::us,[]⟩)=1:=rfl;omega
 have hunits:(fx.A.under (.builtin "type.__call__" ⟨.ref C::us,[]⟩)).units≤fx.A.units+10:=by
  show fx.A.units+Code.cUnits (.builtin "type.__call__" ⟨.ref C::us,[]⟩)≤_;have:Code.cUnits (.builtin "type.__call__" ⟨.ref C::us,[]⟩)=1:=rfl;omega
 have G':Good cx fx' RD:=⟨G.B,hframes.trans G.hA,G.hf,G.hke,G.hg,G.hb,G.hk,G.X,G.T,G.hh,by show(fx.A.under _).depth+10*RD+20≤990;omega,by show(fx.A.under _).units+100*RD+200≤9000;omega,G.sysm⟩;have C₁':cx.CR fx' m RC (W.new r (hh.objs.size+1) (some hh.objs.size)) H₁ ((hh.push emptyDict).push (instObj C hh.objs.size)):=
  ⟨C₁.fr,C₁.shape,C₁.obj,C₁.tup,C₁.keep,C₁.inj,C₁.ap,C₁.axd,C₁.axk⟩
 have V':VRs cx.K (W.new r (hh.objs.size+1) (some hh.objs.size)) (v₁::xs) (.ref (hh.objs.size+1)::us):=.cons _ _ _ _ (hv'▸.ref _ _ _ _ hat) (V₀.mono Wd.le_new);refine hI fx' m RC _ H₁ _ (v₁::xs) _ .none _ r _ G' (by show(fx.A.under _).depth+10*RD+25≤990;omega) (by show(fx.A.under _).units+100*RD+250≤9000;omega) C₁' V' hinit fun W' h' tk u lW C' VU=>?_;induction VU using Rx;refine⟨rfl,?_⟩;refine hR W' h' tk _ (Wd.le_new.trans lW) ⟨C'.fr,C'.shape,C'.obj,C'.tup,C'.keep,C'.inj,C'.ap,C'.axd,C'.axk⟩ ?_;exact(hv'▸VR.ref _ _ _ _ hat:VR cx.K (W.new r (hh.objs.size+1) (some hh.objs.size)) v₁ (.ref (hh.objs.size+1))).mono lW
theorem rB{f:Addr}(G:Good cx fx (RD+1))(hF:Callee cx RD f F)(C:cx.CR fx m RC W H s.heap)(V₀:VRs cx.K W xs us)(hE:F xs r H=some (v,H'))(hQ:Post cx fx m RC W H' s v Q):wpAny cx.mo fx.A (call (.ref f) us) Q Er s:=by
 have:=G.dep;have:=G.un;exact wpAny_call (hF fx m RC W H s xs us v H' r _ (G.lower (Nat.le_succ _)) (by omega) (by omega) C V₀ hE fun W' h' tk u a b c=>hQ W' h' tk u a b c)
theorem zY(h:∀e∈es,aN cx (RD+1) sc e (f e))(hs:∀e∈es,aH e=true→f e=aw)(hx:sc.isGlob x=true)(hu:nsIn cx.K mainGlobals x=some (some (.ref a)))(hk:keepIn cx.K (.ref a)=true) (hF:Callee cx RD a F):aN cx (RD+1) sc (.Call (.Name x np) es [] pos) (aj F (es.map f)):=by
 intro fx m RC ρ W H s v H' r Q Er G GG LL C hE hQ;unfold aj at hE
 (refine Qy hE ?_;clear hE;intro xs H₁ h1 hE)
 have hn:=my hs h1;refine Call_ ((GG x hx).1 _ hu np W H s _ _ C ?_);refine rb hk hn (mj h hs G GG LL C h1 fun W₁ h₁ tk₁ us l₁ C₁ V₁=>⟨G.X.keeps C₁.fr.keep,?_⟩);exact rB (s:=(sH s h₁ tk₁)) G hF C₁ V₁ hE fun W' h' tk' u l' C' V'=>hQ W' h' tk' u (l₁.trans l') C' V'
theorem wk{n:Str}:∀{l:List (Nat×V)} {es:List DictEntry},(∀p∈l,names[p.1]?≠some n)→fieldEnt K names W l es→getL n es=some none:=by
 intro zz;induction zz with
 |nil=>
  intro zq1;induction zq1 using jL with
  |nil=>
   intro _ _;exact rfl
  |cons e es=>
   intro _ h;exact h.elim
 |cons zq2 zq3 ih=>
  intro zq4;induction zq4 using jL with
  |nil=>
   intro _ h;exact h.elim
  |cons e es=>
   intro hn h;obtain⟨g,v⟩:=zq2;obtain⟨⟨n',h1,⟨t,h2⟩,h3⟩,h4⟩:=h;have hr:e.refKey=false:=by unfold DictEntry.refKey;rw[h2]
   have hk:e.key.isStr n=decide (n'=n):=by rw[h2];exact qM n n' t
   have hne:¬n'=n:=fun q=>hn (g,v) ak (q▸h1);rw[x9 (by rw[hk];simp[hne]) hr];exact ih (fun p hp=>hn p (aD _ hp)) h4
structure IL(cx:Cx)(RD:Nat)(x:Str)(cands:List (Addr×Md)):Prop where
 nof:∀C F,cands.lookup C=some F→∀i,cx.names[i]?=some x→cx.okf C i=false
 each:∀C F,cands.lookup C=some F→∃f,findIn cx.K (.ref C) x=some (some (.ref f))∧isFn cx.K (.ref f)=true∧plainGet cx.K C x=true∧keepIn cx.K (.ref f)=true∧Callee cx RD f F
theorem Gl{o:Expr}{cands:List (Addr×Md)}(ho:aN cx (RD+1) sc o Eo)(h:∀e∈es,aN cx (RD+1) sc e (f e))(hs:∀e∈es,aH e=true→f e=aw)(hlen:es.length<30) (hline:(apos.endLine==pos.line)=true) (hb:∀env t,attributeBase o x env t=t) (hM:IL cx RD x cands):aN cx (RD+1) sc (.Call (.Attribute o x apos) es [] pos) (gG cands Eo (es.map f)):=by
 intro fx m RC ρ W H s v H' r Q Er G GG LL C hE hQ;unfold gG at hE
 (refine P6 hE ?_;clear hE;intro r1 i1 H₁ h1 hE)
 (refine QY hE ?_;clear hE;intro Cl l hg hE)
 (refine QO hE ?_;clear hE;intro F hl hE)
 (refine Qy hE ?_;clear hE;intro xs H₂ h2 hE)
 obtain⟨fa,Ro,Ri,Q7,Re,Rt⟩:=hM.each Cl F hl;have hn:=my hs h2;refine jf (hb _ _) hn hlen hline (ho fx m RC ρ W H s _ _ r _ Er G GG LL C h1 fun W₁ h₁ tk₁ u l₁ C₁ V₁=>?_);obtain⟨x',d,es',n,rfl,hat,hx,hd,he,hlen',hok,I⟩:=CR.inst (s:=(sH s h₁ tk₁)) C₁ V₁ hg;refine method_inst C₁.fr G.X I Q7 Ro Ri (wk (fun p hp e=>by have h1:=hok p hp;rw[hM.nof Cl F hl p.1 e]at h1;exact CS h1) he) ?_;refine rb Re hn (mj (s:=(sH s h₁ tk₁)) h hs G GG (LL.mono l₁) C₁ h2 fun W₂ h₂ tk₂ us l₂ C₂ V₂=>⟨G.X.keeps C₂.fr.keep,?_⟩);exact rB (s:=(sH s h₂ tk₂)) G Rt C₂ (.cons _ _ _ _ (V₁.mono l₂) V₂) hE fun W' h' tk' u l' C' V'=>hQ W' h' tk' u (l₁.trans (l₂.trans l')) C' V'
theorem CR.put_list(C:cx.CR fx m RC W H s.heap){r1 i1:Nat}{x:Addr}(hg:H.get r1 i1=some o)(hat:W.at r1 i1=some (x,none)){vs':List Value}{n':Nat}(hs:Heap.SameBut x s.heap h')(hI:IsL h' x vs'.toArray n')(hv:VRs cx.K W l' vs')(hlen:l'.length≤9000):cx.CR fx m RC W (H.put r1 i1 (.list l')) h':=CR.put C hg hat (.inl rfl) hs ⟨rfl,hlen,vs',n',hI,hv⟩
theorem Dx{o:Expr}(ho:aN cx RD sc o Eo)(he:aN cx RD sc e Ee)(hst:aH e=true→Ee=aw)(hline:(apos.endLine==pos.line)=true)(hb:∀env t,attributeBase o "append" env t=t):aN cx RD sc (.Call (.Attribute o "append" apos) [e] [] pos) (fE Eo Ee):=by
 intro fx m RC ρ W H s v H' r Q Er G GG LL C hE hQ;unfold fE at hE
 (refine P6 hE ?_;clear hE;intro r1 i1 H₁ h1 hE)
 (refine QA hE ?_;clear hE;intro l₀ hg₀ hE)
 (refine Pn hE ?_;clear hE;intro x H₂ h2 hE)
 (refine QA hE ?_;clear hE;intro l hg hE)
 (refine PV hE ?_;clear hE;intro hlen hE)
 induction hE using QM;have hn:∀e'∈[e],aH e'=false:=fun e' he'=>by
  rw[Oc.mp he'];induction q:aH e with
  |false=>rfl
  |true=>rw[hst q]at h2;exact Rk h2
 refine jf (hb _ _) hn (by simp) hline (ho fx m RC ρ W H s _ _ r _ Er G GG LL C h1 fun W₁ h₁ tk₁ u l₁ C₁ V₁=>?_);obtain⟨a,vs,n,rfl,hat,hl,hv,hlen₁⟩:=CR.list (s:=(sH s h₁ tk₁)) C₁ V₁ hg₀;refine getMethod_list_append hl rfl rfl ?_;refine gE hn ?_;rw[bC (hn e (Oc.mpr rfl)),cb];refine spliced_cons (he fx m RC ρ W₁ H₁ (sH s h₁ tk₁) x _ r _ Er G GG (LL.mono l₁) C₁ h2 fun W₂ h₂ tk₂ u₂ l₂ C₂ V₂=>spliced_nil ?_);obtain⟨a',vs',n',e',hat',hl',hv',hlen'⟩:=CR.list (s:=(sH s h₂ tk₂)) C₂ (V₁.mono l₂) hg;cases e';refine append_at (s:=(sH s h₂ tk₂)) hl' (fun h' hs' hI'=>?_) (by simp only[aU];exact ba (by rw[←hv'.length];exact hlen'));have e2:vs'.toArray.push u₂=(vs'++[u₂]).toArray:=by simp
 rw[e2]at hI';refine hQ W₂ h' tk₂ _ (l₁.trans l₂) ?_ .none;exact CR.put_list (s:=(sH s h₂ tk₂)) C₂ hg hat' hs' hI' (hv'.append (.one V₂)) (by simp;exact Nat.le_of_lt_succ ‹_›)
theorem xB(G:Good cx fx RD)(C:cx.CR fx m RC W H s.heap){r1 i1:Nat}{l:List (V×V)}{x:V}{ux:Value}(V₁:VR cx.K W (.ref r1 i1) u)(V₂:VR cx.K W x ux)(hg:H.get r1 i1=some (.dict l))(hk:(cg x&&aW x l)=true)(hv:(match dG l x with|some v=>some (v,H) | .none=>some (y,H))=some (v,H'))
  {dfl:Option Value} (hd:VR cx.K W y (dfl.getD .none)) (hQ:Post cx fx m RC W H' s v Q):wpAny cx.mo fx.A (call (.builtin "dict.get") (u::ux::dfl.toList)) Q Er s:=by
 obtain⟨hk1,hk2⟩:=M6.mp hk;obtain⟨a,rfl,hat,hlen,hD⟩:=C.dict V₁ hg;have hs:=C.notSys G ⟨a,none,hat,.inl rfl⟩;have D:=hD x hk1 hk2;have fin:∀(o:Option Value),DG cx.K W (dG l x) o→Q (o.getD (dfl.getD .none)) {s with toks:=s.toks+1}:=fun o ho=>by
  induction hdg:dG l x with
  |none=>
   rw[hdg]at hv ho;induction hv using QM;induction o with
   |none=>exact hQ.at C _ hd
   |some=>exact False.elim ho
  |some v'=>
   rw[hdg]at hv ho;induction hv using QM;induction o with
   |none=>exact False.elim ho
   |some u'=>exact hQ.at C _ ho
 induction D with
 |int i kvs d1 d2 d3=>
  induction V₂ using Rs;have e:=fin _ (uO (i:=i) d2 d3);induction dfl with
  |none=>exact call_meetsIn PySem.F.slot_dict_get d1.typeIs PySem.F.entry_dict_get (PySem.F.args_dict_get_2 _ _) (meets_dict_get (intKind PP cx.w) a (ry _ _ _ _) hs) ⟨_,d1.mapOf,e⟩
  |some dv=>exact call_meetsIn PySem.F.slot_dict_get d1.typeIs PySem.F.entry_dict_get (PySem.F.args_dict_get_3 _ _ _) (meets_dict_get_default (intKind PP cx.w) a (ry _ _ _ _) hs dv) ⟨_,d1.mapOf,e⟩
 |str i kvs d1 d2 d3=>
  induction V₂ using RB;have e:=fin _ (uc (i:=i) d2 d3);induction dfl with
  |none=>exact call_meetsIn PySem.F.slot_dict_get d1.typeIs PySem.F.entry_dict_get (PySem.F.args_dict_get_2 _ _) (meets_dict_get (PySem.strKind PP cx.w) a (rj _ _ _ _) hs) ⟨_,d1.mapOf,e⟩
  |some dv=>exact call_meetsIn PySem.F.slot_dict_get d1.typeIs PySem.F.entry_dict_get (PySem.F.args_dict_get_3 _ _ _) (meets_dict_get_default (PySem.strKind PP cx.w) a (rj _ _ _ _) hs dv) ⟨_,d1.mapOf,e⟩
theorem Ed{o:Expr}{d:Option Expr}(ho:aN cx RD sc o Eo)(he:aN cx RD sc e (f e))(hd:∀d',d=some d'→aN cx RD sc d' (f d'))(hst:aH e=true→f e=aw)(hst2:∀d',d=some d'→aH d'=true→f d'=aw) (hline:(apos.endLine==pos.line)=true) (hb:∀env t,attributeBase o "get" env t=t) :aN cx RD sc (.Call (.Attribute o "get" apos) (e::d.toList) [] pos) (mE Eo (f e) (d.map f)):=by
 intro fx m RC ρ W H s v H' r Q Er G GG LL C hE hQ;unfold mE at hE
 (refine P6 hE ?_;clear hE;intro r1 i1 H₁ h1 hE)
 (refine QW hE ?_;clear hE;intro l₀ hg₀ hE)
 (refine Pn hE ?_;clear hE;intro x H₂ h2 hE)
 (refine Pn hE ?_;clear hE;intro y H₃ h3 hE)
 (refine QW hE ?_;clear hE;intro l hg hE)
 (refine PV hE ?_;clear hE;intro hk hE)
 have hn1:aH e=false:=by
  induction q:aH e with
  |false=>rfl
  |true=>rw[hst q]at h2;exact Rk h2
 have hn:∀e'∈e::d.toList,aH e'=false:=fun e' he'=>by
  rcases uB.mp he' with rfl|he'
  ·exact hn1
  ·induction d with
   |none=>cases he'
   |some d'=>
    simp at he';subst he';induction q:aH e' with
    |false=>rfl
    |true=>simp only[Option.map_some,nJ,hst2 _ rfl q]at h3;exact Rk h3
 refine jf (hb _ _) hn (by induction d using jO<;>simp) hline (ho fx m RC ρ W H s _ _ r _ Er G GG LL C h1 fun W₁ h₁ tk₁ u l₁ C₁ V₁=>?_);obtain⟨a,rfl,hat,hlen₁,hD₁⟩:=CR.dict (s:=(sH s h₁ tk₁)) C₁ V₁ hg₀;have hdict:∃(KK:Type) (_:DecidableEq KK) (knd:KeyKind PP cx.w KK) (kvs:List (KK×Value)),h₁.DictOf knd a kvs:=by
  obtain⟨x',dx',e1,e2,e3,e4⟩:=C₁.obj r1 i1 _ hg₀;rw[hat]at e1;induction e1 using QM;rcases e4 with⟨kvs,q,_⟩|⟨kvs,q,_⟩
  ·exact⟨_,_,_,kvs,q⟩
  ·exact⟨_,_,_,kvs,q⟩
 obtain⟨KK,_,knd,kvs,hdo⟩:=hdict;refine getMethod_builtin (Heap.DictOf.typeIs (s:=(sH s h₁ tk₁)) hdo) PySem.F.plainAttrs_dict PySem.F.slot_dict_get PySem.F.type_dict_get hdo.mapOf.noDict ?_;refine gE hn ?_;rw[bC hn1,cb];refine spliced_cons (he fx m RC ρ W₁ H₁ (sH s h₁ tk₁) x _ r _ Er G GG (LL.mono l₁) C₁ h2 fun W₂ h₂ tk₂ u₂ l₂ C₂ V₂=>?_);induction d with
 |none=>
  simp only[Option.map_none,nJ,ai,Option.some.injEq,Prod.mk.injEq]at h3;obtain⟨rfl,rfl⟩:=h3;refine spliced_nil ?_;exact xB (dfl:=none) G (s:=(sH s h₂ tk₂)) C₂ (V₁.mono l₂) V₂ hg hk hE .none fun W' h' tk' u l' C' V'=>hQ W' h' tk' u (l₁.trans (l₂.trans l')) C' V'
 |some d'=>
  simp only[Option.map_some,nJ]at h3;show wpAny _ _ (spliced (backTo pos (starEach [d'] fx.env))) _ _ _;rw[bC (hn d' (by simp)),cb];refine spliced_cons (hd d' rfl fx m RC ρ W₂ _ (sH s h₂ tk₂) y _ r _ Er G GG (LL.mono (l₁.trans l₂)) C₂ h3 fun W₃ h₃ tk₃ u₃ l₃ C₃ V₃=>spliced_nil ?_);exact xB (dfl:=some u₃) G (s:=(sH s h₃ tk₃)) C₃ (V₁.mono (l₂.trans l₃)) (V₂.mono l₃) hg hk hE V₃ fun W' h' tk' u l' C' V'=>hQ W' h' tk' u (l₁.trans (l₂.trans (l₃.trans l'))) C' V'
end
set_option tactic.hygienic true
theorem qI(x:Int):∀l:List Int,(CD x l).Perm (x::l)
 |[]=>.refl _
 |y::l=>by
  exact pQ (P:=fun z:List Int=>z.Perm _) (fun _=>.refl _) fun _=>((qI x l).cons y).trans (.swap x y l)
theorem Ay{x:Int}:∀{l:List Int},l.Pairwise (·≤·)→(CD x l).Pairwise (·≤·):=by
 intro zz;induction zz with
 |nil=>
  intro _;exact List.pairwise_singleton ..
 |cons y l ih=>
  intro h;obtain⟨h1,h2⟩:=List.pairwise_cons.mp h;refine pQ (P:=List.Pairwise (·≤·)) (fun hxy=>?_) fun hxy=>?_
  ·refine List.pairwise_cons.mpr ⟨fun z hz=>?_,h⟩;rcases uB.mp hz with rfl|hz
   ·exact Int.le_of_lt hxy
   ·exact Int.le_trans (Int.le_of_lt hxy) (h1 z hz)
  ·refine List.pairwise_cons.mpr ⟨fun z hz=>?_,ih h2⟩;rcases uB.mp ((qI x l).mem_iff.mp hz)with rfl|hz
   ·exact Int.not_lt.mp hxy
   ·exact h1 z hz
theorem vF(l:List Int):(BO l).Perm l∧(BO l).Pairwise (·≤·):=by
 have key:∀(l acc:List Int),acc.Pairwise (·≤·)→(l.foldl (fun s x=>CD x s) acc).Perm (acc++l)∧(l.foldl (fun s x=>CD x s) acc).Pairwise (·≤·):=by
  intro l;induction l with
  |nil=>intro acc h;simpa using h
  |cons x l ih=>
   intro acc h;obtain⟨a,b⟩:=ih (CD x acc) (Ay h);refine⟨a.trans ?_,b⟩;refine((qI x acc).append_right l).trans ?_;exact List.perm_middle.symm
 have:=key l [] .nil;rw[List.nil_append]at this;exact this
theorem Cb{l m:List Int}(h1:m.Perm l)(h2:m.Pairwise (·≤·)):m=BO l:=
 List.Perm.eq_of_pairwise (le:=(·≤·)) (fun a b _ _ x y=>by omega) h2 (vF l).2 (h1.trans (vF l).1.symm)
theorem IJ:∀a b:List Nat,Ol a b=decide (a<b)
 |[],[]=>rfl
 |[],b::t=>(decide_eq_true (List.nil_lt_cons _ _)).symm
 |a::r,[]=>(decide_eq_false (List.not_lt_nil _)).symm
 |a::r,b::t=>by
  show(if Nat.blt a b then true else if Nat.blt b a then false else Ol r t)=_;have e1:∀x y:Nat,Nat.blt x y=decide (x<y):=fun x y=>by
   by_cases h:x<y
   ·rw[decide_eq_true h];exact Nat.ble_eq_true_of_le h
   ·rw[decide_eq_false h];induction q:Nat.blt x y with
    |false=>rfl
    |true=>exact absurd (bv q) h
  rw[e1,e1,IJ r t,show decide (a::r<b::t)=decide (a<b∨a=b∧r<t)from decide_eq_decide.mpr List.cons_lt_cons_iff];by_cases h1:a<b
  ·simp[h1]
  ·by_cases h2:b<a
   ·have:¬a=b:=by exact Nat.ne_of_gt ‹_›
    simp[h1,h2,this]
   ·have:a=b:=by omega
    simp[this]
theorem qo(x:List Nat):∀l:List (List Nat),(CH x l).Perm (x::l)
 |[]=>.refl _
 |y::l=>by
  exact pQ (P:=fun z:List (List Nat)=>z.Perm _) (fun _=>.refl _) fun _=>((qo x l).cons y).trans (.swap x y l)
theorem BK{x:List Nat}:∀{l:List (List Nat)},l.Pairwise (·≤·)→(CH x l).Pairwise (·≤·):=by
 intro zz;induction zz with
 |nil=>
  intro _;exact List.pairwise_singleton ..
 |cons y l ih=>
  intro h;obtain⟨h1,h2⟩:=List.pairwise_cons.mp h;refine pQ (P:=List.Pairwise (·≤·)) (fun hxy=>?_) fun hxy=>?_<;>rw[IJ]at hxy
  ·have hxy:x<y:=of_decide_eq_true hxy;refine List.pairwise_cons.mpr ⟨fun z hz=>?_,h⟩;have hle:x≤y:=by
    rcases List.le_total x y with q|q
    ·exact q
    ·exact absurd hxy (List.not_lt.mpr q)
   rcases uB.mp hz with rfl|hz
   ·exact hle
   ·exact List.le_trans hle (h1 z hz)
  ·have hxy:¬x<y:=fun q=>hxy (decide_eq_true q);have hle:y≤x:=List.not_lt.mp hxy;refine List.pairwise_cons.mpr ⟨fun z hz=>?_,ih h2⟩;rcases uB.mp ((qo x l).mem_iff.mp hz)with rfl|hz
   ·exact hle
   ·exact h1 z hz
theorem tW(l:List (List Nat)):(vm l).Perm l∧(vm l).Pairwise (·≤·):=by
 have key:∀(l acc:List (List Nat)),acc.Pairwise (·≤·)→(l.foldl (fun s x=>CH x s) acc).Perm (acc++l)∧(l.foldl (fun s x=>CH x s) acc).Pairwise (·≤·):=by
  intro l;induction l with
  |nil=>intro acc h;simpa using h
  |cons x l ih=>
   intro acc h;obtain⟨a,b⟩:=ih (CH x acc) (BK h);refine⟨a.trans ?_,b⟩;refine((qo x acc).append_right l).trans ?_;exact List.perm_middle.symm
 have:=key l [] .nil;rw[List.nil_append]at this;exact this
theorem Gj{l m:List (List Nat)}(h1:m.Perm l)(h2:m.Pairwise (·≤·)):m=vm l:=
 List.Perm.eq_of_pairwise (le:=(·≤·)) (fun a b _ _ x y=>List.le_antisymm x y) h2 (tW l).2 (h1.trans (tW l).1.symm)
theorem tY:∀(l:List Str) (p:Str),risingS p l=true→(p::l).Pairwise (fun a b=>a.cps.toList≤b.cps.toList)
 |[],p,_=>by simp
 |x::l,p,h=>by
  unfold risingS at h;obtain⟨h1,h2⟩:=M6.mp h;have ih:=tY l x h2;have hle:p.cps.toList≤x.cps.toList:=by
   rw[ltCps_eq]at h1;have:¬x.cps.toList<p.cps.toList:=by simpa using h1
   exact List.not_lt.mp this
  refine List.pairwise_cons.mpr ⟨fun z hz=>?_,ih⟩;rcases uB.mp hz with rfl|hz
  ·exact hle
  ·exact List.le_trans hle ((List.pairwise_cons.mp ih).1 z hz)
theorem Dj{l:List Str}(h:sortedS l=true):(l.map (fun x=>x.cps.toList)).Pairwise (·≤·):=by
 induction l using jL with
 |nil=>simp
 |cons x l=>rw[List.pairwise_map];exact tY l x h
section
theorem gH:∀{l:List V} {vs:List Value} {is:List Int},VRs K W l vs→d7 l=some is→IntsAre vs is∧l=is.map .int:=by
 intro zz;induction zz with
 |nil=>
  intro vs is h e;induction h using QF;obtain rfl:=av e;exact⟨.nil,rfl⟩
 |cons v l ih=>
  intro vs is h e;induction v using cW<;>first|(exact Rk e;done)|skip
  rename_i i;replace e:=Option.map_eq_some_iff.mp (show(d7 l).map (i :: ·)=some is from e);obtain⟨is',e1,rfl⟩:=e;generalize hz:V.int i=z at h;induction h using QN;rename_i w m a b;subst hz;obtain⟨c,d⟩:=ih b e1;induction a using Rs;exact⟨.cons _ _ c,by simp[d]⟩
theorem AP{vs:List Value}{is:List Int}(h:IntsAre vs is):VRs K W (is.map .int) vs:=by
 induction h with
 |nil=>exact .nil
 |cons n t h ih=>exact .cons _ _ _ _ (.int n t) ih
theorem rE:∀{l:List V} {vs:List Value} {ss:List (List Nat)},VRs K W l vs→oP l=some ss→StrsAre vs (ss.map fun x=>⟨x.toArray⟩)∧l=ss.map .str:=by
 intro zz;induction zz with
 |nil=>
  intro vs is h e;induction h using QF;obtain rfl:=av e;exact⟨.nil,rfl⟩
 |cons v l ih=>
  intro vs is h e;induction v using cW<;>first|(exact Rk e;done)|skip
  rename_i i;replace e:=Option.map_eq_some_iff.mp (show(oP l).map (i :: ·)=some is from e);obtain⟨is',e1,rfl⟩:=e;generalize hz:V.str i=z at h;induction h using QN;rename_i w m a b;subst hz;obtain⟨c,d⟩:=ih b e1;induction a using RB;exact⟨.cons _ _ c,by simp[d]⟩
theorem GW{vs:List Value}{ss:List Str}(h:StrsAre vs ss):VRs K W (ss.map fun x=>V.str x.cps.toList) vs:=by
 induction h with
 |nil=>exact .nil
 |cons x t h ih=>
  have:=VR.str (K:=K) (W:=W) x.cps.toList t;have e:(⟨x.cps.toList.toArray⟩:Str)=x:=by cases x;simp
  rw[e]at this;exact .cons _ _ _ _ this ih
end
section
theorem CR.anyList0(C:cx.CR fx m RC W H s.heap){l:List V}{vs:List Value}{v:V}(hn:H.new r (.list l)=some (v,H'))(hv:VRs cx.K W l vs){h':Heap}(e:∀b q,s.heap.get? b=some q→h'.get? b=some q){x:Addr}{n:Nat}(hx1:s.heap.get? x=none)(hx2:IsL h' x vs.toArray n) {Q:Value→Shared→Prop} (hQ:Post cx fx m RC W H' s v Q) (tk:Nat):Q (.ref x) (sH s h' tk):=by
 have hf:=ie (Hp.get_new hn).choose_spec.2.2.2.1;have fr:∀a,a=x∨(none:Option Addr)=some a→s.heap.get? a=none:=by
  rintro a (rfl|h)
  ·exact hx1
  ·exact Rk h
 have lt:∀a,a=x∨(none:Option Addr)=some a→fx.h₀.get? a=none∧a≠fx.L:=by
  rintro a (rfl|h)
  ·refine⟨?_,fun e=>?_⟩
   ·induction q:fx.h₀.get? a with
    |none=>rfl
    |some o=>have:=C.fr.keep _ _ q;rw[hx1]at this;exact Rk this
   ·obtain⟨Q9,_,_,hL,_⟩:=C.fr.ns;rw[←e,hx1]at hL;exact Rk hL
  ·exact Rk h
 obtain⟨i,hv',hat,C'⟩:=CR.new C hn (x:=x) (dx:=none) e fr lt ⟨rfl,hf,vs,n,hx2,hv.mono Wd.le_new⟩;exact hQ _ _ tk _ Wd.le_new C' (hv'▸.ref _ _ _ _ hat)
theorem CR.anyList(C:cx.CR fx m RC W H s.heap){l:List V}{vs:List Value}{v:V}(hn:H.new r (.list l)=some (v,H'))(hv:VRs cx.K W l vs){h':Heap}(e:∀b q,s.heap.get? b=some q→h'.get? b=some q){x:Addr}{n:Nat}(hx1:s.heap.objs.size≤x)(hx2:IsL h' x vs.toArray n) {Q:Value→Shared→Prop} (hQ:Post cx fx m RC W H' s v Q) (tk:Nat):Q (.ref x) (sH s h' tk):=C.anyList0 hn hv e (Heap.get?_none_of_le hx1) hx2 hQ tk
noncomputable def tC:Bi→Value
 |.len=>.builtin "len" | .min=>.builtin "min" | .max=>.builtin "max" | .sorted=>.builtin "sorted" | .sortedset=>.builtin "sorted" | .list=>.type "list" | .tuple=>.type "tuple" | .dict=>.type "dict"
 |.abs=>.builtin "abs" | .int=>.type "int" | .ord=>.builtin "ord" | .sum=>.builtin "sum"
theorem eO{xs:List V}{us:List Value}{v:V}{K:Frag}(V₀:VRs K W [v] us):∃u,us=[u]∧VR K W v u:=by
 induction V₀ using QN;rename_i u _ a b;induction b using QF;exact⟨u,rfl,a⟩
theorem Lb{n:Nat}(h:n≤9000):((n:Nat):Int)<2 ^ 63:=by
 have:(2:Int) ^ 63=9223372036854775808:=by decide
 omega
theorem rG:∀(is:List Int) (x:Int),(is.foldl min x)∈x::is∧∀a∈x::is,is.foldl min x≤a
 |[],x=>by simp
 |y::is,x=>by
  obtain⟨h1,h2⟩:=rG is (min x y);simp only[List.foldl_cons];refine⟨?_,fun a ha=>?_⟩
  ·rcases uB.mp h1 with h1|h1
   ·rw[h1];by_cases h:x≤y
    ·rw[Int.min_eq_left h];exact ak
    ·rw[Int.min_eq_right (Int.le_of_lt (Int.not_le.mp h))];exact aD _ ak
   ·exact aD _ (aD _ h1)
  ·have h3:=h2 (min x y) ak;rcases uB.mp ha with rfl|ha
   ·exact Int.le_trans h3 (Int.min_le_left ..)
   ·rcases uB.mp ha with rfl|ha
    ·exact Int.le_trans h3 (Int.min_le_right ..)
    ·exact h2 a (aD _ ha)
theorem Fc(G:Good cx fx RD)(C:cx.CR fx m RC W H s.heap){xs:List V}{us:List Value}{v:V}(V₀:VRs cx.K W xs us)(h:bi .len xs r H=some (v,H')){Q:Value→Shared→Prop}{Er:Value→Shared→Prop}(hQ:Post cx fx m RC W H' s v Q):wpAny cx.mo fx.A (call (.builtin "len") us) Q Er s:=by
 replace h:=eC (f:=tS) h;obtain⟨x,rfl,h⟩:=h
 ·obtain⟨u,rfl,V₁⟩:=eO (xs:=[]) V₀;induction x using cW<;>first|(exact Rk h;done)|skip
  ·dsimp only[tS]at h
   (refine PV h ?_;clear h;intro hl h)
   induction h using QM;induction V₁ using RB;rename_i x t;refine PyProof.Rows.len_str (by simp[Str.length];omega) ?_;have e:(⟨x.toArray⟩:Str).length=x.length:=by simp[Str.length]
   rw[e];exact hQ.at C _ (.int _ _)
  ·dsimp only[tS]at h
   (refine PV h ?_;clear h;intro hl h)
   induction h using QM;obtain⟨a,vs,rfl,ht,hv⟩:=C.tuple G.X V₁;have e:=hv.length;refine PyProof.Rows.len_tuple ht (by rw[aU,←e];exact Lb hl) ?_;rw[aU,←e];exact hQ.at C _ (.int _ _)
  ·dsimp only[tS]at h;refine NF h ?_ ?_<;>clear h
   ·intro l hg h;induction h using QM;obtain⟨a,vs,n,rfl,hat,hl,hv,hlen⟩:=C.list V₁ hg;have e:=hv.length;refine PyProof.Rows.len_list (aQ hl) (by rw[aU,←e];exact Lb hlen) ?_;rw[aU,←e];exact hQ.at C _ (.int _ _)
   ·intro l hg h;induction h using QM;obtain⟨a,rfl,hat,hlen,hD⟩:=C.dict V₁ hg;have hs:=C.notSys G ⟨a,none,hat,.inl rfl⟩;have go:∀{KK:Type} [DecidableEq KK] (knd:KeyKind PP cx.w KK) (kvs:List (KK×Value)),s.heap.DictOf knd a kvs→kvs.length=l.length→wpAny cx.mo fx.A (call (.builtin "len") [.ref a]) Q Er s:=fun knd kvs hd hk=>by
     refine call_function_entry kind_len plain_len entry_len (args_len1 _) (wpAny_len_body_dict hs hd (by rw[hk];exact Lb (aO ‹_› (by decide))) ?_);rw[hk];exact hQ.at C _ (.int _ _)
    obtain⟨x',dx',e1,e2,e3,e4⟩:=C.obj _ _ _ hg;rw[hat]at e1;induction e1 using QM;rcases e4 with⟨kvs,q1,q2,q3⟩|⟨kvs,q1,q2,q3⟩
    ·exact go _ kvs q1 (by have:=congrArg List.length q2;simpa using this.symm)
    ·exact go _ kvs q1 (by have:=congrArg List.length q2;simpa using this.symm)
end
section
variable{w:World}{K:Frag}{names:List Str}{okf:Addr→Nat→Bool}{fx:Fx}{m:Str→Option Value}{RC:List (Addr×Obj)}{W:Wd}{H:Hp}{h h':Heap}
theorem CR.of_led(C:CR w K names okf fx m RC W H h){news:List (Addr×Obj)}(D:Og fx RC W h news)(F:Fr fx.h₀ fx.L h' m')(N:News fx.h₀ fx.L h' news):CR w K names okf fx m' RC W H h':=by
 refine⟨F,C.shape,fun r i o ho=>?_,fun q hq=>?_,fun q hq=>?_,C.inj,C.ap,C.axd,C.axk⟩
 ·obtain⟨x,dx,a,b⟩:=C.obj r i o ho;exact⟨x,dx,a,b.same (dZ D.N N (D.has r i x ⟨x,dx,a,.inl rfl⟩)).1 fun d hd=>(dZ D.N N (D.has r i d ⟨x,dx,a,.inr hd⟩)).1⟩
 ·obtain⟨e1,e2,e3⟩:=dZ D.N N (D.tup q hq);obtain⟨⟨n,e⟩,_⟩:=C.tup q hq;exact⟨⟨n,e1.trans e⟩,e2,e3⟩
 ·obtain⟨e1,e2,e3⟩:=dZ D.N N (D.keep q hq);exact⟨e1.trans (C.keep q hq).1,e2,e3⟩
theorem CR.addAux(C:CR w K names okf fx m RC W H h){x:Addr}{o:Obj}(ho:h.get? x=some o)(h0:fx.h₀.get? x=none)(hL:x≠fx.L)(hn:∀r i a,W.has r i a→x≠a)(hk:∀q∈fx.frn++RC,q.1≠x)(ht:notTuple o):CR w K names okf fx m ((x,o)::RC) W H h:=by
 refine⟨C.fr,C.shape,C.obj,C.tup,fun q hq=>?_,C.inj,fun r i a y=>?_,?_,fun q hq=>?_⟩
 ·rcases NH.mp hq with hq|hq
  ·exact C.keep q (aT _ hq)
  ·rcases uB.mp hq with rfl|hq
   ·exact⟨ho,h0,hL⟩
   ·exact C.keep q (ax _ hq)
 ·refine⟨(C.ap r i a y).1,(C.ap r i a y).2.1,fun q hq=>?_⟩;rcases NH.mp hq with hq|hq
  ·exact(C.ap r i a y).2.2 q (aT _ hq)
  ·rcases uB.mp hq with rfl|hq
   ·exact hn r i a y
   ·exact(C.ap r i a y).2.2 q (ax _ hq)
 ·refine⟨?_,fun q hq p hp=>?_⟩
  ·rw[List.map_cons,List.nodup_cons];refine⟨fun hm=>?_,C.axd.1⟩;obtain⟨q,hq,e⟩:=MQ.mp hm;exact hk q (ax _ hq) e
  ·rcases uB.mp hq with rfl|hq
   ·exact(hk p (aT _ hp)).symm
   ·exact C.axd.2 q hq p hp
 ·rcases uB.mp hq with rfl|hq
  ·exact ht
  ·exact C.axk q hq
end
section
theorem FA(G:Good cx fx RD)(C:cx.CR fx m RC W H s.heap)(V₀:VRs cx.K W xs us)(h:bi .min xs r H=some (v,H'))(hQ:Post cx fx m RC W H' s v Q):wpAny cx.mo fx.A (call (.builtin "min") us) Q Er s:=by
 replace h:=eC (f:=Ip) h;obtain⟨x,rfl,h⟩:=h
 ·obtain⟨u,rfl,V₁⟩:=eO (xs:=[]) V₀;induction x using cW<;>first|(exact Rk h;done)|skip
  dsimp only[Ip]at h
  (refine QA h ?_;clear h;intro l hg h)
  (refine Q5 h ?_;clear h;intro x is hi h)
  induction h using QM;obtain⟨a,vs,n,rfl,hat,hl,hv,hlen⟩:=C.list V₁ hg;obtain⟨hI,rfl⟩:=gH hv hi;obtain⟨news,D⟩:=C.ledger;refine min_list_N G.hh C.fr D.N (aQ hl) hI (by simp) fun h' M t tk F N hM hle=>?_;have e:M=is.foldl min x:=by
   obtain⟨a1,a2⟩:=rG is x;have h1:=hle _ a1;have h2:=a2 _ hM;exact Int.le_antisymm h1 h2
  subst e;exact hQ W h' tk _ (.refl W) (CR.of_led C D F N) (.int _ _)
theorem Jg{w:V×Hp}(h:KQ xs q H=some w):∃a b,xs=[.int a,.int b]∧w=(.int (max a b),H):=by
 rcases xs with _|⟨x,_|⟨y,_|⟨z,l⟩⟩⟩
 ·exact Rk h
 ·induction x using cW<;>exact Rk h
 ·induction x using cW<;>first|exact Rk h|skip
  induction y using cW<;>first|exact Rk h|skip
  (refine QU h ?_;clear h;rintro rfl);exact⟨_,_,rfl,rfl⟩
 ·induction x using cW<;>first|exact Rk h|skip
  induction y using cW<;>exact Rk h
theorem Fk(G:Good cx fx RD)(C:cx.CR fx m RC W H s.heap)(V₀:VRs cx.K W xs us)(h:bi .max xs r H=some (v,H'))(hQ:Post cx fx m RC W H' s v Q):wpAny cx.mo fx.A (call (.builtin "max") us) Q Er s:=by
 replace h:=Jg h;obtain⟨x,y,rfl,h⟩:=h
 (refine QI h ?_;clear h;rintro rfl rfl)
 induction V₀ using QN;rename_i u _ a b;induction b using QN;rename_i u' _ a' b';induction b' using QF;induction a using Rs;induction a' using Rs;rename_i t t';obtain⟨news,D⟩:=C.ledger;refine max_two_N G.hh C.fr D.N fun h' tk F N=>?_;have e:(if y>x then y else x)=max x y:=by
  by_cases c:y>x
  ·rw[ac c,Int.max_eq_right (Int.le_of_lt c)]
  ·rw[af c,Int.max_eq_left (Int.not_lt.mp c)]
 rw[e];exact hQ W h' tk _ (.refl W) (CR.of_led C D F N) (.int _ _)
theorem km(G:Good cx fx RD)(C:cx.CR fx m RC W H s.heap){b:Bi}(hb:b=.abs∨b=.int∨b=.ord)(V₀:VRs cx.K W xs us)(h:bi b xs r H=some (v,H'))(hQ:Post cx fx m RC W H' s v Q):wpAny cx.mo fx.A (call (tC b) us) Q Er s:=by
 rcases hb with rfl|rfl|rfl
 ·replace h:=eC (f:=KV) h;obtain⟨x,rfl,h⟩:=h;obtain⟨u,rfl,V₁⟩:=eO (xs:=[]) V₀;induction x using cW<;>first|((first|exact Rk h|(refine QU h ?_;clear h;intro e;cases e));done)|skip
  (refine QU h ?_;clear h;intro e;cases e);induction V₁ using Rs
  refine call_abs_int fun u tk=>?_;rename_i a t;have e:(if a<0 then -a else a)=(a.natAbs:Int):=by
   split
   ·rename_i h;rw[Int.ofNat_natAbs_of_nonpos (Int.le_of_lt h)]
   ·rename_i h;exact(Int.natAbs_of_nonneg (Int.not_lt.mp h)).symm
  rw[e];exact hQ.at C _ (.int _ _)
 ·replace h:=eC (f:=KM) h;obtain⟨x,rfl,h⟩:=h;obtain⟨u,rfl,V₁⟩:=eO (xs:=[]) V₀;induction x using cW<;>first|((first|exact Rk h|(refine QU h ?_;clear h;intro e;cases e));done)|skip
  ·(refine QU h ?_;clear h;intro e;cases e);induction V₁ using Rr
   exact call_int_bool (hQ.at C _ (.int _ _))
  ·(refine QU h ?_;clear h;intro e;cases e);induction V₁ using Rs
   exact call_int_int (hQ.here C (.int _ _))
 ·replace h:=eC (f:=K0) h;obtain⟨x,rfl,h⟩:=h;obtain⟨u,rfl,V₁⟩:=eO (xs:=[]) V₀;induction x using cW<;>first|(exact Rk h;done)|skip
  rename_i x;rcases x with _|⟨c,_|⟨d,x⟩⟩<;>first|((first|exact Rk h|(refine QU h ?_;clear h;intro e;cases e));done)|skip
  (refine QU h ?_;clear h;intro e;cases e);induction V₁ using RB
  exact P.ord_of_char (hQ.at C _ (.int _ _))
theorem rz:∀(ns:List Int) (n:Nat),preSum (fun j=>ns.getD j 0) n=(ns.take n).sum
 |ns,0=>by simp[preSum]
 |ns,n+1=>by
  show preSum (fun j=>ns.getD j 0) n+ns.getD n 0=_;rw[rz ns n,List.take_add_one,List.sum_append];induction h:ns[n]? with
  |none=>simp[List.getD,h]
  |some x=>simp[List.getD,h]
theorem Fu(G:Good cx fx RD)(C:cx.CR fx m RC W H s.heap)(V₀:VRs cx.K W xs us)(h:bi .sum xs r H=some (v,H'))(hQ:Post cx fx m RC W H' s v Q):wpAny cx.mo fx.A (call (.builtin "sum") us) Q Er s:=by
 replace h:=eC (f:=IQ) h;obtain⟨x,rfl,h⟩:=h
 ·obtain⟨u,rfl,V₁⟩:=eO (xs:=[]) V₀;induction x using cW<;>first|(exact Rk h;done)|skip
  dsimp only[IQ]at h
  (refine QA h ?_;clear h;intro l hg h)
  (refine QQ h ?_;clear h;intro is hi h)
  (refine PV h ?_;clear h;intro hs h)
  induction h using QM;obtain⟨a,vs,n,rfl,hat,hl,hv,hlen⟩:=C.list V₁ hg;obtain⟨hI,rfl⟩:=gH hv hi;refine call_sum_walkAnyS (wpAny_pyIter_list (aQ hl) ?_);have hlt:a<s.heap.objs.size:=aZ hl;refine⟨_,_,_,_,_,_,_,fun j=>is.getD j 0,rfl,(Walks.list (A:=fx.A.in1) G.hh s.heap.objs.size a (bf hlt) vs.toArray).toS,⟨⟨_,cq _ rfl,rfl,rfl⟩,(aQ hl).push _⟩,fun b hb=>?_,fun i v hv'=>?_,fun s' t' hm=>?_⟩
  ·show b<(s.heap.push _).objs.size;rw[Heap.size_push];rcases uB.mp hb with e|hb
   ·rw[e];exact Nat.lt_succ_self _
   ·rw[Oc.mp hb];exact Nat.lt_succ_of_lt hlt
  ·exact hI.int_at i v (by simpa using hv')
  ·have hk:∀b o,s.heap.get? b=some o→s'.heap.get? b=some o:=fun b o e=>
    hm.heap b o (fun hI=>absurd (aZ e) (by rw[Oc.mp hI];exact Nat.lt_irrefl _)) (bu _ e)
   rw[Moved.eq_with hm];have e:preSum (fun j=>is.getD j 0) vs.toArray.size=is.sum:=by
    rw[rz,aU,hI.length,List.take_length]
   rw[e];exact hQ W s'.heap s'.toks _ (.refl W) (CR.ext C hk) (.int _ _)
theorem Dv(G:Good cx fx RD)(C:cx.CR fx m RC W H s.heap)(V₀:VRs cx.K W xs us)(h:bi .list xs r H=some (v,H'))(hQ:Post cx fx m RC W H' s v Q):wpAny cx.mo fx.A (call (.type "list") us) Q Er s:=by
 replace h:=eC (f:=yZ) h;obtain⟨x,rfl,h⟩:=h
 ·obtain⟨u,rfl,V₁⟩:=eO (xs:=[]) V₀;induction x using cW<;>first|(exact Rk h;done)|skip
  ·dsimp only[yZ]at h;obtain⟨a,vs,rfl,⟨o,ho,hc,n,hd⟩,hv⟩:=C.tuple G.X V₁;have hf:=ie (Hp.get_new h).choose_spec.2.2.2.1;refine call_list_seq (hsz:=by rw[aU,←hv.length];exact ba hf) a (.inr rfl) ho hc hd fun h' c' hk hD=>?_;exact C.anyList h hv hk (aS _) hD hQ _
  ·dsimp only[yZ]at h;refine NF h ?_ ?_<;>clear h
   ·intro l hg h;obtain⟨a,vs,n,rfl,hat,hl,hv,hlen⟩:=C.list V₁ hg;refine call_list_seq (hsz:=by rw[aU,←hv.length];exact ba hlen) a (.inl rfl) hl rfl rfl fun h' c' hk hD=>?_;exact C.anyList h hv hk (aS _) hD hQ _
   ·intro l hg h;obtain⟨a,rfl,hat,hlen,hD⟩:=C.dict V₁ hg;have hs:=C.notSys G ⟨a,none,hat,.inl rfl⟩;have go:∀{KK:Type} [DecidableEq KK] (knd:KeyKind PP cx.w KK) (enc:KK→V) (kvs:List (KK×Value)),s.heap.DictOf knd a kvs→l.map (·.1)=kvs.map (fun p=>enc p.1)→(∀k u,knd.is k u=true→VR cx.K W (enc k) u)→
      wpAny cx.mo fx.A (call (.type "list") [.ref a]) Q Er s:=fun{KK} _ knd enc kvs hd hk henc=>by
     obtain⟨ep,hda⟩:=hd.dictAt;have hkl:kvs.length=l.length:=by have:=congrArg List.length hk;simpa using this.symm
     refine kdl_call (kdl_dict (knd:=knd) (kvs:=kvs) (ep:=ep) hs) G.hh hda (ba (by omega)) fun h' tk acc c' hk' hD' hacc=>?_;have hv:VRs cx.K W (l.map (·.1)) acc.toList:=by
      rw[hk];have hlen2:acc.toList.length=kvs.length:=by rw[Array.length_toList];exact hacc.1
      have key:∀(kvs:List (KK×Value)) (us:List Value),us.length=kvs.length→(∀(j:Nat) (u:Value),us[j]?=some u→∃k x,kvs[j]?=some (k,x)∧knd.is k u=true)→VRs cx.K W (kvs.map fun p=>enc p.1) us:=by
       intro kvs;induction kvs with
       |nil=>intro us hl _;induction us using jL with|nil=>exact .nil|cons=>simp at hl
       |cons p kvs ih=>
        intro us hl hu;induction us using jL with
        |nil=>simp at hl
        |cons u us=>
         obtain⟨k,x,e1,e2⟩:=hu 0 u rfl;simp at e1;refine .cons _ _ _ _ (by rw[e1];exact henc k u e2) (ih us (by simpa using hl) fun j u' hj=>?_);exact hu (j+1) u' hj
      exact key kvs acc.toList hlen2 fun j u hj=>hacc.2 j u (by rw[←Array.getElem?_toList];exact hj)
     have hD2:IsL h' s.heap.objs.size acc.toList.toArray c':=by simpa using hD'
     have hH':=hQ;exact C.anyList h hv hk' (aS _) hD2 hQ tk
    obtain⟨x',dx',e1,e2,e3,e4⟩:=C.obj _ _ _ hg;rw[hat]at e1;induction e1 using QM;rcases e4 with⟨kvs,q1,q2,q3⟩|⟨kvs,q1,q2,q3⟩
    ·refine go _ V.int kvs q1 q2 fun k u hu=>?_;induction u using Value.casesOn<;>first|(simp[intKind,Value.isInt]at hu;done)|skip
     simp[intKind,Value.isInt]at hu;subst hu;exact .int _ _
    ·refine go _ (fun x=>V.str x.cps.toList) kvs q1 q2 fun k u hu=>?_;induction u using Value.casesOn<;>first|(simp[PySem.strKind,Value.isStrOf]at hu;done)|skip
     simp[PySem.strKind,Value.isStrOf]at hu;subst hu;rename_i k t;have:=VR.str (K:=cx.K) (W:=W) k.cps.toList t;have e:(⟨k.cps.toList.toArray⟩:Str)=k:=by cases k;simp
     rwa [e]at this
theorem Bo(G:Good cx fx RD)(C:cx.CR fx m RC W H s.heap)(V₀:VRs cx.K W xs us)(h:bi .tuple xs r H=some (v,H'))(hQ:Post cx fx m RC W H' s v Q):wpAny cx.mo fx.A (call (.type "tuple") us) Q Er s:=by
 replace h:=eC (f:=DS) h;obtain⟨x,rfl,h⟩:=h
 ·obtain⟨u,rfl,V₁⟩:=eO (xs:=[]) V₀;induction x using cW<;>first|((first|exact Rk h|(refine QU h ?_;clear h;intro e;cases e));done)|skip
  ·dsimp only[DS]at h;induction h using QM;obtain⟨a,vs,rfl,ht,hv⟩:=C.tuple G.X V₁;exact call_tuple_tup ht (hQ.here C V₁)
  ·dsimp only[DS]at h
   (refine QA h ?_;clear h;intro l hg h)
   induction h using QM;obtain⟨a,vs,n,rfl,hat,hl,hv,hlen⟩:=C.list V₁ hg;refine call_tuple_list (aQ hl) (fun h' hk=>?_) (by rw[aU,←hv.length];exact ba hlen);have C':=CR.ext C hk;exact CR.pushTup (s:={s with heap:=h'}) C' hv hQ _
end
section
variable{K:Frag}{W:Wd}
theorem rD{l m:List V}(h:xT l=some m):l.length<64∧((∃is,d7 l=some is∧m=(BO is).map .int)∨∃ss,oP l=some ss∧m=(vm ss).map .str):=by
 unfold xT at h;refine tR h ?_ ?_<;>clear h
 ·intro _ h;exact Rk h
 ·intro hl h;refine⟨by exact Nat.lt_of_not_le ‹_›,?_⟩;refine Qr h ?_ ?_<;>clear h
  ·intro is hi h;induction h using QT;exact .inl ⟨is,hi,rfl⟩
  ·intro _ h
   (refine Qz h ?_;clear h;intro ss hs h)
   induction h using QT;exact .inr ⟨ss,hs,rfl⟩
theorem og{vs:List Value}{ss:List (List Nat)}{out:List Value}{ss':List Str}(h1:StrsAre out ss')(h2:ss'.Perm (ss.map fun x=>(⟨x.toArray⟩:Str)))(h3:sortedS ss'=true):VRs K W ((vm ss).map .str) out:=by
 have hp:(ss'.map fun x=>x.cps.toList).Perm ss:=by
  have:=h2.map fun x:Str=>x.cps.toList;have e:(ss.map fun x=>(⟨x.toArray⟩:Str)).map (fun x:Str=>x.cps.toList)=ss:=by
   rw[List.map_map];have:((fun x:Str=>x.cps.toList)∘fun x:List Nat=>(⟨x.toArray⟩:Str))=id:=by funext x;simp
   rw[this,List.map_id]
  rwa [e]at this
 have e:ss'.map (fun x=>x.cps.toList)=vm ss:=Gj hp (Dj h3);have:=GW (K:=K) (W:=W) h1;rw[←e,List.map_map];exact this
end
section
theorem AM{A:Around}{n₀:Nat}(C:cx.CR fx m RC W H s.heap){l' l:List V}{vs:List Value}{v:V}(hn:H.new r (.list l)=some (v,H'))(hs:xT l'=some l)(hv:VRs cx.K W l' vs){h':Heap}{tk:Nat}(e:∀b q,s.heap.get? b=some q→h'.get? b=some q){x:Addr}{n:Nat}(hx1:s.heap.get? x=none)(hx2:IsL h' x vs.toArray n) {Q:Value→Shared→Prop} {Er:Value→Shared→Prop} (hQ:Post cx fx m RC W H' s v Q):wpAny cx.mo A (call (.builtin "list.sort") [.ref x]) (fun _ s'=>Q (.ref x) s') Er (sH s h' tk):=by
 obtain⟨hl,hc⟩:=rD hs;have hvl:=hv.length;have fin:∀out:Array Value,VRs cx.K W l out.toList→Q (.ref x) (sH s (sortedHeap h' x vs out) tk):=fun out ho=>by
  obtain⟨e2,he2⟩:=sortedHeap_at (out:=out) hx2;refine C.anyList0 hn ho (fun b q hb=>?_) hx1 (n:=e2) (by simpa[seqObj]using he2) hQ tk;rw[sortedHeap_old (fun q=>by rw[q,hx1]at hb;exact Rk hb) (aZ (e b q hb))];exact e b q hb
 have hT:Shared.TypeIs (sH s h' tk) (.ref x) "list":=⟨_,hx2,rfl⟩;rcases hc with⟨is,hi,rfl⟩|⟨ss,hi,rfl⟩
 ·obtain⟨hI,rfl⟩:=gH hv hi;refine wpAny_call_entry slot_list_sort hT entry_list_sort (list_sort_tree (s:=(sH s h' tk)) (n:=n) hx2 hI (by omega) fun out ns' a1 a2 a3=>⟨_,rfl,?_⟩) (args_list_sort _);refine fin out ?_;rw[←Cb a2 a3];exact AP a1
 ·obtain⟨hS,rfl⟩:=rE hv hi;refine wpAny_call_entry slot_list_sort hT entry_list_sort (list_sort_treeK (s:=(sH s h' tk)) (n:=n) strKind_oneLt hx2 hS.keysOf (fun v₁ v₂ rest e=>keyKind_strs (by rw[←e];exact hS)) (by omega) fun st' hp hs'=>⟨_,rfl,?_⟩) (args_list_sort _);obtain⟨ss',h1,h2,h3⟩:=sorted_out_str hS hp hs';exact fin _ (og (vs:=vs) h1 h2 h3)
theorem zD(G:Good cx fx RD)(C:cx.CR fx m RC W H s.heap){xs:List V}{us:List Value}{v:V}(V₀:VRs cx.K W xs us)(h:bi .sorted xs r H=some (v,H')){Q:Value→Shared→Prop}{Er:Value→Shared→Prop}(hQ:Post cx fx m RC W H' s v Q):wpAny cx.mo fx.A (call (.builtin "sorted") us) Q Er s:=by
 replace h:=eC (f:=vG) h;obtain⟨x,rfl,h⟩:=h
 ·obtain⟨u,rfl,V₁⟩:=eO (xs:=[]) V₀;induction x using cW<;>first|(exact Rk h;done)|skip
  dsimp only[vG]at h;refine NF h ?_ ?_<;>clear h
  ·intro l hg h
   (refine Ro h ?_;clear h;intro m' hs h)
   obtain⟨a,vs,n,rfl,hat,hl,hv,hlen⟩:=C.list V₁ hg;obtain⟨hl64,hc⟩:=rD hs;have hvl:=hv.length;have fin:∀out:Array Value,VRs cx.K W m' out.toList→Q (.ref (s.heap.objs.size+1)) {s with heap:=sortedAll s.heap vs out}:=fun out ho=>by
    obtain⟨e2,he2⟩:=sortedAll_at s.heap vs out;exact C.anyList h ho (fun b q hb=>sortedAll_old hb) (Nat.le_succ _) (n:=e2) (by simpa[seqObj]using he2) hQ s.toks
   rcases hc with⟨is,hi,rfl⟩|⟨ss,hi,rfl⟩
   ·obtain⟨hI,rfl⟩:=gH hv hi;refine sorted_ints (aQ hl) hI (by omega) fun out ns' a1 a2 a3=>fin out ?_;rw[←Cb a2 a3];exact AP a1
   ·obtain⟨hS,rfl⟩:=rE hv hi;refine sorted_strs (aQ hl) hS (by omega) fun out ss' a1 a2 a3=>fin out ?_;exact og (vs:=vs) a1 a2 a3
  ·intro l hg h
   (refine Ro h ?_;clear h;intro m' hs h)
   obtain⟨a,rfl,hat,hlen,hD⟩:=C.dict V₁ hg;have hsm:=C.notSys G ⟨a,none,hat,.inl rfl⟩;have go:∀{KK:Type} [DecidableEq KK] (knd:KeyKind PP cx.w KK) (enc:KK→V) (kvs:List (KK×Value)),s.heap.DictOf knd a kvs→l.map (·.1)=kvs.map (fun p=>enc p.1)→(∀k u,knd.is k u=true→VR cx.K W (enc k) u)→
     wpAny cx.mo fx.A (call (.builtin "sorted") [.ref a]) Q Er s:=fun{KK} _ knd enc kvs hd hk henc=>by
    obtain⟨ep,hda⟩:=hd.dictAt;have hkl:kvs.length=l.length:=by have:=congrArg List.length hk;simpa using this.symm
    refine call_function_entry kind_sorted plain_sorted entry_sorted (args_sorted1 _) ?_;unfold Builtin.«sorted»;refine ab (m:=checkCount "sorted" 1 1 _) (ah ?_);refine ab (kdu_collect (A:=fx.A.in1) (kdl_dict (knd:=knd) (kvs:=kvs) (ep:=ep) hsm) G.hh hda (ba (by omega)) fun h' tk acc hk' hacc=>?_);have hlen2:acc.toList.length=kvs.length:=by rw[Array.length_toList];exact hacc.1
    refine ab (wpAny_newList ?_ (by rw[hlen2];exact ba (by omega)));have hv:VRs cx.K W (l.map (·.1)) acc.toList:=by
     rw[hk];have key:∀(kvs:List (KK×Value)) (us:List Value),us.length=kvs.length→(∀(j:Nat) (u:Value),us[j]?=some u→∃k x,kvs[j]?=some (k,x)∧knd.is k u=true)→VRs cx.K W (kvs.map fun p=>enc p.1) us:=by
      intro kvs;induction kvs with
      |nil=>intro us hl _;induction us using jL with|nil=>exact .nil|cons=>simp at hl
      |cons p kvs ih=>
       intro us hl hu;induction us using jL with
       |nil=>simp at hl
       |cons u us=>
        obtain⟨k,x,e1,e2⟩:=hu 0 u rfl;simp at e1;refine .cons _ _ _ _ (by rw[e1];exact henc k u e2) (ih us (by simpa using hl) fun j u' hj=>?_);exact hu (j+1) u' hj
     exact key kvs acc.toList hlen2 fun j u hj=>hacc.2 j u (by rw[←Array.getElem?_toList];exact hj)
    have grow:∀b q,s.heap.get? b=some q→(h'.push {cls:=.type "list",data:=.seq acc.toList.toArray}).get? b=some q:=fun b q e=>bu _ (hk' b q e);have hsz:s.heap.get? h'.objs.size=none:=by
     induction q:s.heap.get? h'.objs.size with
     |none=>rfl
     |some o=>exact absurd (aZ (hk' _ _ q)) (Nat.lt_irrefl _)
    refine ab (bz (bj (AM (A:=fx.A.in1) (n₀:=0) (n:=0) (Er:=Er) C h hs hv grow hsz (cq _ rfl) hQ) (fun _ s' x=>?_) fun _ _ e=>e));exact ah ⟨_,rfl,x⟩
   obtain⟨x',dx',e1,e2,e3,e4⟩:=C.obj _ _ _ hg;rw[hat]at e1;induction e1 using QM;rcases e4 with⟨kvs,q1,q2,q3⟩|⟨kvs,q1,q2,q3⟩
   ·refine go _ V.int kvs q1 q2 fun k u hu=>?_;induction u using Value.casesOn<;>first|(simp[intKind,Value.isInt]at hu;done)|skip
    simp[intKind,Value.isInt]at hu;subst hu;exact .int _ _
   ·refine go _ (fun x=>V.str x.cps.toList) kvs q1 q2 fun k u hu=>?_;induction u using Value.casesOn<;>first|(simp[PySem.strKind,Value.isStrOf]at hu;done)|skip
    simp[PySem.strKind,Value.isStrOf]at hu;subst hu;rename_i k t;have:=VR.str (K:=cx.K) (W:=W) k.cps.toList t;have e:(⟨k.cps.toList.toArray⟩:Str)=k:=by cases k;simp
    rwa [e]at this
end
theorem i6:entryFor table "dict.update.loop" = some Builtin.«dict.update.loop»:=entryFor_of_tree (by kernel_rfl)
theorem dF:plainId "dict.update.loop" = true:=by decide +kernel
theorem vd:typeLookup (.type "list") "keys" = pure none:=by rw[typeLookup_type,builtinLookup_eq_fast];kernel_rfl
theorem nD{xs:Array Value}{Q:Option Value→Shared→Prop} (hx:IsL s.heap a xs k) (hA:A.handled=none) (h:∀h' tk,(∀b o,s.heap.get? b=some o→h'.get? b=some o)→Q none (sH s h' tk)):wpAny (model prog w) A (getAttr? (.ref a) "keys") Q E s:=by
 obtain⟨hp,g,d,tk,os⟩:=s;have hT:∀tk',(⟨hp,g,d,tk',os⟩:Shared).TypeIs (.ref a) "list":=fun _=>⟨_,hx,rfl⟩;have f1:=sub_AttributeError;have f3:=F.slot_list_getattribute.lookup;have f4:=F.slot_list_getattribute.bind (.ref a);have f5:=am_list_getattr_none;unfold getAttr? getAttrBy? getAttrBy;repeat (any_goals (first|assumption|exact hT _|((with_reducible show wpAny _ _ (call (Value.builtin "list.__getattribute__") _ _) _ _ _);refine call_meets F.slot_list_getattribute (hT _) am_entry_list_getattribute (F.args_list_getattribute_2 _ _) (meets_getattribute_miss_list a xs k #[] "keys" _ vd (by decide +kernel) (by decide +kernel)) ⟨hx,hA,fun h' tk' e hx'=>?_⟩)|wp_step))
 obtain⟨t',u',he⟩:=hx'.there;show wpAny _ _ (getattributeRaised _ _ _ _ _ _ _) _ _ _;unfold getattributeRaised;repeat (any_goals (first|assumption|wp_step))
 exact h _ _ hx'.keeps
section
variable{KK:Type}[DecidableEq KK]{knd:KeyKind prog w KK}
inductive PairsAt(knd:KeyKind prog w KK)(I d:Addr)(h:Heap):List Value→List (KK×Value)→Prop
 |nil:PairsAt knd I d h [] []
 |cons {t:Addr} {key u:Value} {k:KK} {vs:List Value} {more:List (KK×Value)}:h.IsTuple t #[key,u]→knd.is k key=true→t≠I→t≠d→PairsAt knd I d h vs more→PairsAt knd I d h (.ref t::vs) ((k,u)::more)
theorem PairsAt.keep{d:Addr}(e:∀b o,b≠I→b≠d→h.get? b=some o→h'.get? b=some o){vs:List Value}{more:List (KK×Value)}(f:PairsAt knd I d h vs more):PairsAt knd I d h' vs more:=by
 induction f with
 |nil=>exact .nil
 |cons a b c d' f ih=>obtain⟨o,ho,r⟩:=a;exact .cons ⟨o,e _ _ c d' ho,r⟩ b c d' ih
theorem sM{t:Addr}{Q:List Value→Shared→Prop}(ht:s.heap.IsTuple t items)(h:Q items.toList s):wpAny (model prog w) A (Builtin.Dict.pairItems (.ref t)) Q E s:=by
 obtain⟨o,ho,hc,n,hd⟩:=ht;have hT:s.TypeIs (.ref t) "tuple":=⟨o,ho,hc⟩;unfold Builtin.Dict.pairItems;refine ab (wpAny_typeOf hT ?_);rw[ac (by decide)];refine ab (wpAny_seqItems ho hd ?_);exact ah h
theorem wV(hh:A.handled=none){l d:Addr}{vs:Array Value}(hId:I≠d)(hlI:l≠I)(hld:l≠d){R:Result→Shared→Prop}:∀(more:List (KK×Value)) (i:Nat) (s:Shared) (kvs:List (KK×Value)),s.heap.IsListIter I l i→s.heap.IsList l vs→PairsAt knd I d s.heap (vs.toList.drop i) more→s.heap.DictOf knd d kvs→kvs.length+more.length≤sizeLine→(∀h' tk,h'.DictOf knd d (merged kvs more)→(∀b o,b≠I→b≠d→s.heap.get? b=some o→h'.get? b=some o)→R (.ok (.ret .none)) (sH s h' tk))→codeAny (model prog w) A (.builtin "dict.update.loop" ⟨[.ref d,.ref I,rawInt i,.none],[]⟩) R s:=by
 intro more;induction more with
 |nil=>
  intro i s kvs hit hl hP hd hsz hR;have hvs:vs[i]?=none:=by
   generalize hz:vs.toList.drop i=z at hP;cases hP;rw[Array.getElem?_eq_none_iff];have:=List.drop_eq_nil_iff.mp hz;simpa using this
  refine codeAny_builtin i6 ?_;rw[Around.under_plainId dF _];unfold Builtin.«dict.update.loop»;refine ab (wpAny_pyNext_list_end (A:=A.in1) hh hit hl hvs fun h' he=>?_);show wpAny _ _ (Builtin.Dict.addKeywords d []>>=fun _=>ret .none) _ _ _;refine ab (ah (ah ?_));refine hR h' s.toks ?_ fun b o hbI _ e=>he b o hbI e;exact hd.extBut he hId.symm
 |cons p more ih=>
  intro i s kvs hit hl hP hd hsz hR;generalize hz:vs.toList.drop i=z at hP;cases hP with
  | @cons t key u k vs' _ a1 a2 a3 a4 a5=>
   have hvi:vs[i]?=some (.ref t):=by
    have:(vs.toList.drop i)[0]?=some (Value.ref t):=by rw[hz];rfl
    simpa using this
   have hdrop:vs.toList.drop (i+1)=vs':=by
    have:=congrArg (List.drop 1) hz;simpa[bX]using this
   refine codeAny_builtin i6 ?_;rw[Around.under_plainId dF _];unfold Builtin.«dict.update.loop»;refine ab (wpAny_pyNext_list_item hit hl hvi fun h₁ hit₁ hs₁=>?_);have hl₁:h₁.IsList l vs:=hl.extBut hs₁.extBut hlI;have ht₁:h₁.IsTuple t #[key,u]:=a1.extBut hs₁.extBut a3;have hd₁:h₁.DictOf knd d kvs:=hd.extBut hs₁.extBut hId.symm;refine ab (bz ?_);refine ab (wpAny_tryCatch (sM (s:={s with heap:=h₁}) ht₁ ?_));show wpAny _ _ (holding [key,u] (dictSet d key u)) _ _ _;refine bz (wpAny_dictSet_pairs (s:={s with heap:=h₁}) a2 hd₁ (fun h₂ hd₂ hs₂=>?_) (by simp at hsz;omega));refine ah ⟨plainId_quiet dF _,?_⟩;have keep₂:∀b o,b≠I→b≠d→s.heap.get? b=some o→h₂.get? b=some o:=fun b o h1 h2 e=>(hs₂.2 b h2).trans ((hs₁.2 b h1).trans e);have e:rawInt ((i:Int)+1)=rawInt ((i+1:Nat):Int):=by congr 1
   show codeAny _ A (.builtin "dict.update.loop" ⟨[.ref d,.ref I,rawInt ((i:Int)+1),.none],[]⟩) R _;rw[e];refine ih (i+1) (sH s h₂ (s.toks+1)) (stored kvs k u) (hit₁.at fun o e=>(hs₂.2 I hId).trans e) (hl₁.extBut hs₂.extBut hld) (hdrop▸a5.keep keep₂) hd₂ ?_ fun h' tk hd' hk'=>hR h' tk hd' fun b o h1 h2 e=>hk' b o h1 h2 (keep₂ b o h1 h2 e);have hst:(stored kvs k u).length≤kvs.length+1:=by unfold stored;split<;>simp
   simp at hsz;omega
theorem sf(hh:A.handled=none){l:Addr}{vs:Array Value}{more:List (KK×Value)}(hl:IsL s.heap l vs n) (hP:∀I d,s.heap.objs.size≤I→s.heap.objs.size≤d→PairsAt knd I d s.heap vs.toList more) (hsz:more.length≤sizeLine) (h:∀h' tk,h'.DictOf knd s.heap.objs.size (merged [] more)→(∀b o,s.heap.get? b=some o→h'.get? b=some o)→Q (.ref s.heap.objs.size) (sH s h' tk)) :wpAny (model prog w) A (call (.type "dict") [.ref l]) Q E s:=by
 refine callType_codes (Q₁:=fun obj s₁=>obj=.ref s.heap.objs.size∧s₁={s with heap:=s.heap.push {cls:=.type "dict",data:=.dict #[]}}) F.kt_called_dict (F.kt_typeCall_dict_1 _) F.entry_dict_init (kt_code_dict_new _ ⟨rfl,rfl⟩) ?_;intro obj s₁ zq;obtain⟨rfl,rfl⟩:=zq;have hnew:(s.heap.push {cls:=.type "dict",data:=.dict #[]}).DictOf knd s.heap.objs.size []:=Heap.DictOf.new s.heap;have hl₁:IsL (s.heap.push {cls:=.type "dict",data:=.dict #[]}) l vs n:=bu _ hl;have hlt:l<s.heap.objs.size:=aZ hl;refine⟨hnew.typeIs,F.args_dict_init_2 _ _,?_⟩;unfold Builtin.«dict.__init__»;refine ab ?_;unfold Builtin.Dict.selfAndRest;refine ab (wpAny_notOrdered_dict hnew.typeIs ?_);show wpAny _ _ (pure (s.heap.objs.size,[Value.ref l])) _ _ _;refine ah ?_;show wpAny _ _ (Builtin.Dict.updateFrom "dict.__init__" s.heap.objs.size (.ref l) [] .none) _ _ _;unfold Builtin.Dict.updateFrom;have hT:Shared.TypeIs {s with heap:=s.heap.push {cls:=.type "dict",data:=.dict #[]}} (.ref l) "list":=⟨_,hl₁,rfl⟩;refine ab (wpAny_typeOf hT ?_);rw[ac (by decide)];refine ab (nD (A:=A.in1.in1) (s:={s with heap:=s.heap.push {cls:=.type "dict",data:=.dict #[]}}) hl₁ hh fun h₂ tk₂ hk₂=>?_);rw[ac rfl];refine ab (wpAny_rule ?_);have hl₂:IsL h₂ l vs n:=hk₂ _ _ hl₁;have hsz₂:s.heap.objs.size<h₂.objs.size:=by
  obtain⟨o,_,_,ho,_⟩:=hnew;exact aZ (hk₂ _ _ ho)
 refine ab (wpAny_pyIter_list (s:=(sH s h₂ tk₂)) (aQ hl₂) ?_);have old:∀b o,s.heap.get? b=some o→(h₂.push {cls:=.type "list_iterator",data:=.fields #[.ref l,.int 0 0]}).get? b=some o:=fun b o e=>bu _ (hk₂ b o (bu _ e));have hP':=(hP h₂.objs.size s.heap.objs.size (Nat.le_of_lt hsz₂) (aS _)).keep (h':=h₂.push {cls:=.type "list_iterator",data:=.fields #[.ref l,.int 0 0]}) fun b o _ _ e=>old b o e;refine ah ⟨plainId_quiet dF _,?_⟩;refine wV (knd:=knd) (A:=A.in1) hh (Nat.ne_of_gt hsz₂) (bf (Nat.lt_trans hlt hsz₂)) (bf hlt) more 0 _ [] ⟨_,cq _ rfl,rfl,rfl⟩ ((aQ hl₂).push _) (by simpa using hP') (Heap.DictOf.push (Heap.DictOf.keep hnew hk₂) _) (by simpa using hsz) fun h' tk hd' hk'=>?_;refine⟨rfl,h h' tk hd' fun b o e=>?_⟩;have hlt':b<s.heap.objs.size:=aZ e;exact hk' b o (bf (Nat.lt_trans hlt' hsz₂)) (bf hlt') (old b o e)
end
section
theorem CR.newDict(C:cx.CR fx m RC W H s.heap){l:List (V×V)}(hn:H.new r (.dict l)=some (v,H'))(e:∀b q,s.heap.get? b=some q→h'.get? b=some q){x:Addr}(hx1:s.heap.get? x=none) (hO:ObjR cx.w cx.K cx.names cx.okf (W.new r x none) h' x none (.dict l)) (hQ:Post cx fx m RC W H' s v Q) (tk:Nat):Q (.ref x) (sH s h' tk):=by
 have fr:∀a,a=x∨(none:Option Addr)=some a→s.heap.get? a=none:=by
  rintro a (rfl|h)
  ·exact hx1
  ·exact Rk h
 have lt:∀a,a=x∨(none:Option Addr)=some a→fx.h₀.get? a=none∧a≠fx.L:=by
  rintro a (rfl|h)
  ·refine⟨?_,fun e=>?_⟩
   ·induction q:fx.h₀.get? a with
    |none=>rfl
    |some o=>have:=C.fr.keep _ _ q;rw[hx1]at this;exact Rk this
   ·obtain⟨Q9,_,_,hL,_⟩:=C.fr.ns;rw[←e,hx1]at hL;exact Rk hL
  ·exact Rk h
 obtain⟨i,hv',hat,C'⟩:=CR.new C hn (x:=x) (dx:=none) e fr lt hO;exact hQ _ _ tk _ Wd.le_new C' (hv'▸.ref _ _ _ _ hat)
theorem Dr(C:cx.CR fx m RC W H s.heap)(X:cx.K.In fx.h₀){KK:Type}[DecidableEq KK]{knd:KeyKind PP cx.w KK}{enc:KK→V}(hk:∀a b,fu (enc a) (enc b)=decide (a=b)) (he:∀k v u,cg k=true→br k=br v→(∃b,v=enc b)→VR cx.K W k u→∃a,k=enc a∧knd.is a u=true) {k₀:KK} :∀{l:List V} {vs:List Value} {acc d:List (V×V)} {kacc:List (KK×Value)},o9 l acc=some d→VRs cx.K W l vs→acc.map (·.1)=kacc.map (fun p=>enc p.1)→(kacc.map (·.1)).Nodup→VRs cx.K W (acc.map (·.2)) (kacc.map (·.2))→acc≠[]∨(∀k v l',l=.tup [k,v]::l'→br k=br (enc k₀))→∃more,(∀I d',s.heap.objs.size≤I→s.heap.objs.size≤d'→PairsAt knd I d' s.heap vs more)∧more.length=l.length∧d.map (·.1)=(merged kacc more).map (fun p=>enc p.1)∧VRs cx.K W (d.map (·.2)) ((merged kacc more).map (·.2)):=by
 intro l;induction l with
 |nil=>
  intro vs acc d kacc h hv h3 h4 h5 h6;induction hv using QF;obtain rfl:=av h;exact⟨[],fun _ _ _ _=>.nil,rfl,h3,h5⟩
 |cons p l ih=>
  intro vs acc d kacc h hv h3 h4 h5 h6;induction hv using QN;rename_i w vs a1 a2;obtain⟨k,v,rfl⟩:∃k v,p=.tup [k,v]:=by
   induction p using cW<;>first|(exact Rk h;done)|skip
   rename_i z;rcases z with _|⟨k,_|⟨v,_|⟨y,z⟩⟩⟩<;>first|(exact Rk h;done)|exact⟨k,v,rfl⟩
  rewrite[xZ]at h
  (refine PV h ?_;clear h;intro hc h)
  simp only[aY]at hc;obtain⟨⟨c1,c2⟩,c3⟩:=hc;obtain⟨t,ws,rfl,ht,hw⟩:=C.tuple X a1;induction hw using QN;rename_i key _ k1 hw;induction hw using QN;rename_i u _ u1 hw;induction hw using QF;have kind:∃b,br k=br (enc b):=by
   rcases h6 with h6|h6
   ·exact D3 h6 h3 c2
   ·exact⟨k₀,h6 k v _ rfl⟩
  obtain⟨b,hb⟩:=kind;obtain⟨a,rfl,ha⟩:=he k _ key c1 hb ⟨b,rfl⟩ k1;obtain⟨p1,p2⟩:=eX (u:=u) hk u1 h3 h4 h5 (k:=a);have p3:=xS (a:=a) (u:=u) h4;obtain⟨more,q1,q2,q3,q4⟩:=ih h a2 p1 p3 p2 (.inl Ej);refine⟨(a,u)::more,fun I d' hI hd'=>?_,by simp[q2],q3,q4⟩;obtain⟨o,ho,hc',n,hdd⟩:=ht;have hlt:t<s.heap.objs.size:=aZ ho;exact .cons ⟨o,ho,hc',n,by simpa using hdd⟩ ha (bf (Nat.lt_of_lt_of_le hlt hI)) (bf (Nat.lt_of_lt_of_le hlt hd')) (q1 I d' hI hd')
theorem Dk(G:Good cx fx RD)(C:cx.CR fx m RC W H s.heap)(V₀:VRs cx.K W xs us)(h:bi .dict xs r H=some (v,H'))(hQ:Post cx fx m RC W H' s v Q):wpAny cx.mo fx.A (call (.type "dict") us) Q Er s:=by
 replace h:=eC (f:=DN) h;obtain⟨x,rfl,h⟩:=h
 ·obtain⟨u,rfl,V₁⟩:=eO (xs:=[]) V₀;induction x using cW<;>first|(exact Rk h;done)|skip
  dsimp only[DN]at h
  (refine QA h ?_;clear h;intro l hg h)
  (refine QR h ?_;clear h;intro d hd h)
  obtain⟨a,vs,n,rfl,hat,hl,hv,hlen⟩:=C.list V₁ hg;have hf:=qi (Hp.get_new h).choose_spec.2.2.2.1;have go:∀{KK:Type} [DecidableEq KK] (knd:KeyKind PP cx.w KK) (enc:KK→V),(∀a b,fu (enc a) (enc b)=decide (a=b))→
    (∀k v u,cg k=true→br k=br v→(∃b,v=enc b)→VR cx.K W k u→∃a,k=enc a∧knd.is a u=true)→(∃k₀:KK,∀k v l',l=.tup [k,v]::l'→br k=br (enc k₀))→
    (∀(W':Wd) (h':Heap) (kvs:List (KK×Value)),h'.DictOf knd s.heap.objs.size kvs→d.map (·.1)=kvs.map (fun p=>enc p.1)→VRs cx.K W' (d.map (·.2)) (kvs.map (·.2))→ObjR cx.w cx.K cx.names cx.okf W' h' s.heap.objs.size none (.dict d))→
    wpAny cx.mo fx.A (call (.type "dict") [.ref a]) Q Er s:=by
   intro KK _ knd enc k1 k2 zq;obtain⟨k₀,k3⟩:=zq;intro k4;obtain⟨more,q1,q2,q3,q4⟩:=Dr (knd:=knd) (k₀:=k₀) C G.X k1 k2 hd hv (kacc:=[]) rfl (by simp) .nil (.inr k3);refine sf (knd:=knd) G.hh hl (more:=more) (fun I d' hI hd'=>by simpa using q1 I d' hI hd') (ba (by omega)) fun h' tk hd' hk'=>?_;exact CR.newDict C h hk' (Heap.get?_none_of_le (aS _)) (k4 _ h' _ hd' q3 (q4.mono Wd.le_new)) hQ tk
  induction hhead:l using jL with
  |nil=>exact go (intKind PP cx.w) V.int ia Al ⟨0,fun k v l' e=>by rw[hhead]at e;cases e⟩ fun W' h' kvs a b c=>⟨rfl,hf,.inl ⟨kvs,a,b,c⟩⟩
  |cons p l'=>
   rw[hhead]at hd;obtain⟨k,v₂,rfl⟩:∃k v,p=.tup [k,v]:=by
    induction p using cW<;>first|(exact Rk hd;done)|skip
    rename_i z;rcases z with _|⟨k,_|⟨v,_|⟨y,z⟩⟩⟩<;>first|(exact Rk hd;done)|exact⟨k,v,rfl⟩
   have c1:cg k=true:=by
    rewrite[xZ]at hd
    (refine PV hd ?_;clear hd;intro hc hd)
    simp only[aY]at hc;exact hc.1.1
   induction k using cW<;>first|((first|exact CS c1|cases c1);done)|skip
   ·rename_i i;exact go (intKind PP cx.w) V.int ia Al ⟨i,fun k v l' e=>by rw[hhead]at e;(refine Rj e ?_;clear e;intro e;cases e;rintro rfl);rfl⟩ fun W' h' kvs a b c=>⟨rfl,hf,.inl ⟨kvs,a,b,c⟩⟩
   ·rename_i i;exact go (PySem.strKind PP cx.w) (fun x=>V.str x.cps.toList) jz D6 ⟨⟨#[]⟩,fun k v l' e=>by rw[hhead]at e;(refine Rj e ?_;clear e;intro e;cases e;rintro rfl);rfl⟩ fun W' h' kvs a b c=>⟨rfl,hf,.inr ⟨kvs,a,b,c⟩⟩
theorem ES:∀ys:List Str,Txt.join ⟨#[]⟩ ys=⟨(ys.map fun y=>y.cps.toList).flatten.toArray⟩:=by
 intro ys;have key:∀(l:List Str) (acc:Array Nat),l.foldl (fun acc p=>acc++(#[]:Array Nat)++p.cps) acc=acc++(l.map fun y=>y.cps.toList).flatten.toArray:=by
  intro l;induction l with
  |nil=>intro acc;simp
  |cons y l ih=>
   intro acc;rw[List.foldl_cons,ih];apply Array.ext';simp
 unfold Txt.join Builtin.Str.glued;induction ys using jL with
 |nil=>rfl
 |cons y ys=>
  apply Str.ext';simp only[List.drop_succ_cons,List.drop_zero,List.headD_cons];rw[key];simp
theorem FD:∀{l:List V} {vs:List Value} {x:List Nat},VRs K W l vs→tT l=some x→∃ys:List Str,StrsAre vs ys∧(ys.map fun y=>y.cps.toList).flatten=x∧(ys.map (·.length)).sum=x.length:=by
 intro zz;induction zz with
 |nil=>
  intro vs x h e;induction h using QF;obtain rfl:=av e;exact⟨[],.nil,rfl,rfl⟩
 |cons v l ih=>
  intro vs x h e;induction v using cW<;>first|(exact Rk e;done)|skip
  rename_i i;replace e:=Option.map_eq_some_iff.mp (show(tT l).map (i ++ ·)=some x from e);obtain⟨x',e1,rfl⟩:=e;generalize hz:V.str i=z at h;induction h using QN;rename_i w m a b;subst hz;obtain⟨ys,c,d,f⟩:=ih b e1;induction a using RB;exact⟨_::ys,.cons _ _ c,by simp[d],by rw[List.map_cons,List.sum_cons,f];simp[Str.length]⟩
theorem Gy{o:Expr}(ho:aN cx RD sc o Eo)(he:aN cx RD sc e Ee)(hst:aH e=true→Ee=aw)(hline:(apos.endLine==pos.line)=true)(hb:∀env t,attributeBase o "join" env t=t):aN cx RD sc (.Call (.Attribute o "join" apos) [e] [] pos) (qZ Eo Ee):=by
 intro fx m RC ρ W H s v H' r Q Er G GG LL C hE hQ;unfold qZ at hE
 (refine QE hE ?_;clear hE;intro H₁ h1 hE)
 (refine P6 hE ?_;clear hE;intro r1 i1 H₂ h2 hE)
 (refine QA hE ?_;clear hE;intro l hg hE)
 (refine Rf hE ?_;clear hE;intro x hj hE)
 (refine PV hE ?_;clear hE;intro hlen hE)
 induction hE using QM;have hn:∀e'∈[e],aH e'=false:=fun e' he'=>by
  rw[Oc.mp he'];induction q:aH e with
  |false=>rfl
  |true=>rw[hst q]at h2;exact Rk h2
 refine jf (hb _ _) hn (by simp) hline (ho fx m RC ρ W H s _ _ r _ Er G GG LL C h1 fun W₁ h₁ tk₁ u l₁ C₁ V₁=>?_);induction V₁ using RB;refine GM.join ?_;refine gE hn ?_;rw[bC (hn e (Oc.mpr rfl)),cb];refine spliced_cons (he fx m RC ρ W₁ H₁ (sH s h₁ tk₁) _ _ r _ Er G GG (LL.mono l₁) C₁ h2 fun W₂ h₂ tk₂ u₂ l₂ C₂ V₂=>spliced_nil ?_);obtain⟨a',vs',n',rfl,hat',hl',hv',hlen'⟩:=CR.list (s:=(sH s h₂ tk₂)) C₂ V₂ hg;obtain⟨ys,y1,y2,y3⟩:=FD hv' hj;refine join_list (s:=(sH s h₂ tk₂)) (aQ hl') (by simpa using y1) (by
  show(ys.map (·.length)).sum+ys.length*0≤16777216;omega) fun t' k=>?_
 have e2:Txt.join (⟨([]:List Nat).toArray⟩:Str) ys=⟨x.toArray⟩:=by rw[←y2];exact ES ys
 rw[e2];exact hQ W₂ h₂ k _ (l₁.trans l₂) C₂ (.str _ _)
end
set_option tactic.hygienic false
section
variable{cx:Cx}{RD:Nat}{sc:Sc}{fx:Fx}{m:Str→Option Value}{RC:List (Addr×Obj)}{W:Wd}{H H':Hp}{s:Shared}{r:Nat}
theorem gw{id:String}{first:List Value}(hn:∀e∈es,aH e=false) (h:wpAny M A (spliced (backTo pos (starEach es env))) (fun vs s₁=>wpAny M A (call (.type id) (first++vs)) Q E s₁) E s):wpAny M A (callWith pos (.type id) first (backTo pos (starEach es env)) []) Q E s:=
 PyProof.Rows.callWith_type (mh hn).1 (kg hn h)
theorem uF{b:Bi}(hn:∀e∈es,aH e=false) (h:wpAny M A (spliced (backTo pos (starEach es env))) (fun vs s₁=>wpAny M A (call (tC b) vs) Q E s₁) E s):wpAny M A (callWith pos (tC b) [] (backTo pos (starEach es env)) []) Q E s:=by
 cases b<;>first|exact gE hn h|exact gw hn h
noncomputable def Bi.isSet:Bi→Bool
 |.sortedset=>true
 |_=>false
theorem GZ(G:Good cx fx RD)(C:cx.CR fx m RC W H s.heap){b:Bi}(hb:b.isSet=false)(V₀:VRs cx.K W xs us)(h:bi b xs r H=some (v,H'))(hQ:Post cx fx m RC W H' s v Q):wpAny cx.mo fx.A (call (tC b) us) Q Er s:=by
 induction b with
 |len=>exact Fc G C V₀ h hQ
 |min=>exact FA G C V₀ h hQ
 |max=>exact Fk G C V₀ h hQ
 |sorted=>exact zD G C V₀ h hQ
 |sortedset=>cases hb
 |list=>exact Dv G C V₀ h hQ
 |tuple=>exact Bo G C V₀ h hQ
 |dict=>exact Dk G C V₀ h hQ
 |abs=>exact km G C (.inl rfl) V₀ h hQ
 |int=>exact km G C (.inr (.inl rfl)) V₀ h hQ
 |ord=>exact km G C (.inr (.inr rfl)) V₀ h hQ
 |sum=>exact Fu G C V₀ h hQ
theorem I4{b:Bi}(hb:b.isSet=false)(h:∀e∈es,aN cx RD sc e (f e))(hs:∀e∈es,aH e=true→f e=aw)(hx:sc.isGlob x=true)(hu:nsIn cx.K mainGlobals x=some none)(hbv:bootBuiltins x=some (tC b))(hn:x≠"__name__"):aN cx RD sc (.Call (.Name x np) es [] pos) (cK b (es.map f)):=by
 intro fx m RC ρ W H s v H' r Q Er G GG LL C hE hQ;unfold cK at hE
 (refine Qy hE ?_;clear hE;intro xs H₁ h1 hE)
 have hno:=my hs h1;refine Call_ ((GG x hx).2 _ hu hbv hn np W H s _ _ C ?_);refine uF hno (mj h hs G GG LL C h1 fun W₁ h₁ tk₁ us l₁ C₁ V₁=>?_);exact GZ (s:=(sH s h₁ tk₁)) G C₁ hb V₁ hE fun W' h' tk' u l' C' V'=>hQ W' h' tk' u (l₁.trans l') C' V'
end
end
section
open PySem PySem.W PySem.Calls PyProof.Rows PySem.SeqAt
set_option tactic.hygienic false
section
variable{w:World}{K:Frag}{names:List Str}{okf:Addr→Nat→Bool}{fx:Fx}{m:Str→Option Value}{RC its its':List (Addr×Obj)}{W:Wd}{H:Hp}{h h':Heap}
theorem CR.offL(C:CR w K names okf fx m (its++RC) W H h):fx.L∉its.map (·.1)∧(∀b o,fx.h₀.get? b=some o→b∉its.map (·.1))∧(∀r i a,W.has r i a→a∉its.map (·.1))∧(∀q∈W.tups,q.1∉its.map (·.1))∧(∀q∈fx.frn++RC,q.1∉its.map (·.1)):=by
 have hm:∀p∈its,p∈fx.frn++(its++RC):=fun p hp=>ax _ (aT _ hp);refine⟨fun hL=>?_,fun b o e hb=>?_,fun r i a x ha=>?_,fun q hq ha=>?_,fun q hq ha=>?_⟩
 ·obtain⟨p,hp,e⟩:=MQ.mp hL;exact(C.keep p (hm p hp)).2.2 e
 ·obtain⟨p,hp,e'⟩:=MQ.mp hb;have:=(C.keep p (hm p hp)).2.1;rw[e',e]at this;exact QL this
 ·obtain⟨p,hp,e⟩:=MQ.mp ha;exact(C.ap r i a x).2.2 p (hm p hp) e
 ·obtain⟨p,hp,e⟩:=MQ.mp ha;obtain⟨⟨n,b1⟩,_⟩:=C.tup q hq;have b2:=(C.keep p (hm p hp)).1;rw[e]at b2;rw[IsT]at b1;rw[b1]at b2;have hk:=C.axk p (aT _ hp);have hh:=(av b2).symm;rw[hh]at hk;exact hk ⟨rfl,_,_,rfl⟩
 ·obtain⟨p,hp,e⟩:=MQ.mp ha;rcases NH.mp hq with hq|hq
  ·exact C.axd.2 p (aT _ hp) q hq e
  ·have nd:=C.axd.1;rw[List.map_append]at nd;exact(List.nodup_append.mp nd).2.2 p.1 (List.mem_map_of_mem hp) q.1 (List.mem_map_of_mem hq) e
theorem CR.extBut(C:CR w K names okf fx m (its++RC) W H h)(e:∀b o,b∉its.map (·.1)→h.get? b=some o→h'.get? b=some o):CR w K names okf fx m RC W H h':=by
 obtain⟨o1,o2,o3,o4,o5⟩:=C.offL;have C₁:=C.subAux (aux':=RC) (List.sublist_append_right _ _);refine⟨⟨C.fr.ns.at' fun o x=>e _ o o1 x,fun b o x=>e b o (o2 b o x) (C.fr.keep b o x),C.fr.above⟩,C.shape,fun r i o ho=>?_,fun q hq=>?_,fun q hq=>?_,C.inj,C₁.ap,C₁.axd,C₁.axk⟩
 ·obtain⟨x,dx,a,b⟩:=C.obj r i o ho;obtain⟨⟨q,hq⟩,hd⟩:=b.some;refine⟨x,dx,a,b.same ((e _ _ (o3 r i x ⟨x,dx,a,.inl rfl⟩) hq).trans hq.symm) fun d hdx=>?_⟩;obtain⟨q',hq'⟩:=hd d hdx;exact(e _ _ (o3 r i d ⟨x,dx,a,.inr hdx⟩) hq').trans hq'.symm
 ·obtain⟨⟨n,a⟩,c⟩:=C.tup q hq;exact⟨⟨n,e _ _ (o4 q hq) a⟩,c⟩
 ·exact⟨e _ _ (o5 q hq) (C₁.keep q hq).1,(C₁.keep q hq).2⟩
theorem CR.turn(C:CR w K names okf fx m (its++RC) W H h)(e:∀b o,b∉its.map (·.1)→h.get? b=some o→h'.get? b=some o)(hn:its'.map (·.1)=its.map (·.1))(hg:∀q∈its',h'.get? q.1=some q.2)(ht:∀q∈its',notTuple q.2):CR w K names okf fx m (its'++RC) W H h':=by
 have C₁:=C.extBut e;have back:∀q∈its',∃p∈its,p.1=q.1:=fun q hq=>by
  have:q.1∈its.map (·.1):=hn▸List.mem_map_of_mem hq;obtain⟨p,hp,e⟩:=MQ.mp this;exact⟨p,hp,e⟩
 have hm:∀p∈its,p∈fx.frn++(its++RC):=fun p hp=>ax _ (aT _ hp);refine⟨C₁.fr,C₁.shape,C₁.obj,C₁.tup,fun q hq=>?_,C₁.inj,fun r i a x=>⟨(C.ap r i a x).1,(C.ap r i a x).2.1,fun q hq=>?_⟩,⟨?_,fun q hq p hp=>?_⟩,fun q hq=>?_⟩
 ·rcases NH.mp hq with hq|hq
  ·exact C₁.keep q (aT _ hq)
  ·rcases NH.mp hq with hq|hq
   ·obtain⟨p,hp,e'⟩:=back q hq;exact⟨hg q hq,e'▸(C.keep p (hm p hp)).2⟩
   ·exact C₁.keep q (ax _ hq)
 ·rcases NH.mp hq with hq|hq
  ·exact(C.ap r i a x).2.2 q (aT _ hq)
  ·rcases NH.mp hq with hq|hq
   ·obtain⟨p,hp,e'⟩:=back q hq;exact e'▸(C.ap r i a x).2.2 p (hm p hp)
   ·exact(C.ap r i a x).2.2 q (ax _ (ax _ hq))
 ·have:=C.axd.1;rw[List.map_append]at this⊢;rw[hn];exact this
 ·rcases NH.mp hq with hq|hq
  ·obtain⟨z,hz,e'⟩:=back q hq;exact e'▸C.axd.2 z (aT _ hz) p hp
  ·exact C.axd.2 q (ax _ hq) p hp
 ·rcases NH.mp hq with hq|hq
  ·exact ht q hq
  ·exact C.axk q (ax _ hq)
theorem CR.addTup(C:CR w K names okf fx m RC W H h){a:Addr}{vs:List Value}{n:Nat}(ha:IsT h a vs.toArray n)(h0:fx.h₀.get? a=none)(hL:a≠fx.L):CR w K names okf fx m RC (W.tup a vs) H h:=by
 refine⟨C.fr,C.shape,fun r i o ho=>?_,fun q hq=>?_,C.keep,C.inj,C.ap,C.axd,C.axk⟩
 ·obtain⟨x,dx,a',b⟩:=C.obj r i o ho;exact⟨x,dx,a',b.mono (W.le_tup _ _)⟩
 ·rcases uB.mp hq with rfl|hq
  ·exact⟨⟨n,ha⟩,h0,hL⟩
  ·exact C.tup q hq
end
inductive ItR(cx:Cx)(W:Wd)(tgt:Expr):It→Nat→Addr→List (Addr×Obj)→Prop
 |live (r i j a o x):W.at r i=some (x,none)→(∀h:Heap,h.get? a=some o→h.IsListIter a x j)→ItR cx W tgt (.live r i) j a [(a,o)]
 |rev (r i:Nat) (n j:Nat) (a o x):W.at r i=some (x,none)→j≤n→(∀h:Heap,h.get? a=some o→h.IsRevIter a x ((n:Int)-1-(j:Int)))→ItR cx W tgt (.rev r i n) j a [(a,o)]
 |tup (l j a o x):VR cx.K W (.tup l) (.ref x)→(∀h:Heap,h.get? a=some o→h.IsTupleIter a x j)→ItR cx W tgt (.fixed l) j a [(a,o)]
 |ascii (l:List Nat) (j t a o):(∀h:Heap,h.get? a=some o→h.IsStrIter a "str_ascii_iterator" ⟨l.toArray⟩ t j)→ItR cx W tgt (.fixed (l.map fun c=>.str [c])) j a [(a,o)]
 |wide (l:List Nat) (j t a o):(∀h:Heap,h.get? a=some o→h.IsStrIter a "str_iterator" ⟨l.toArray⟩ t j)→ItR cx W tgt (.fixed (l.map fun c=>.str [c])) j a [(a,o)]
 |range (f c:Int) (n j:Nat) (a o):(∀h:Heap,h.get? a=some o→IsRangeIter h a (f+(j:Int)*c) ((n:Int)-(j:Int)) c)→ItR cx W tgt (.fixed ((List.range n).map fun(k:Nat)=>.int (f+(k:Int)*c))) j a [(a,o)]
 |enum (l:List Nat) (j t a o b o' old):fk tgt=true→a≠b→j≤l.length→(∀h:Heap,h.get? a=some o→IsEnum h a b (j:Int) old)→(∀h:Heap,h.get? b=some o'→h.IsStrIter b (strIterType ⟨l.toArray⟩) ⟨l.toArray⟩ t j)→ItR cx W tgt (.fixed (ji 0 l)) j a [(a,o),(b,o')]
theorem ItR.mono{cx:Cx}{W W':Wd}{tgt:Expr}{it:It}{j:Nat}{a:Addr}{its:List (Addr×Obj)}(h:W.le W')(x:ItR cx W tgt it j a its):ItR cx W' tgt it j a its:=by
 induction x with
 |live r i j a o x h1 h2=>exact .live r i j a o x (h.at_ _ _ _ h1) h2
 |rev r i n j a o x h1 h2 h3=>exact .rev r i n j a o x (h.at_ _ _ _ h1) h2 h3
 |tup l j a o x h1 h2=>exact .tup l j a o x (h1.mono h) h2
 |ascii l j t a o h1=>exact .ascii l j t a o h1
 |wide l j t a o h1=>exact .wide l j t a o h1
 |range f c n j a o h1=>exact .range f c n j a o h1
 |enum l j t a o b o' old h1 h2 h3 h4 h5=>exact .enum l j t a o b o' old h1 h2 h3 h4 h5
theorem bT{o:Obj}{vs:Array Value}(h:o.data=.fields vs):notTuple o:=fun⟨_,a,n,e⟩=>by rw[h]at e;cases e
section
variable{prog:Program}{w:World}{A:Around}{E:Value→Shared→Prop}{s:Shared}
theorem Cj{tgt:Expr}{a:Addr}{o:Obj}{n:String}{v:Value}{Q:Unit→Shared→Prop}(ho:s.heap.get? a=some o)(hc:o.cls=.type n)(hn:["enumerate","zip","dict_itemiterator","dict_reverseitemiterator","odict_iterator","itertools.zip_longest","itertools.pairwise"].contains n=false)(h:Q () s):wpAny (model prog w) A (letOwnedTupleGo tgt (.ref a) v) Q E s:=by
  have go:wpAny (model prog w) A (letOwnedTupleGo (.Tuple [] 0 default) (.ref a) v) Q E s:=by
    induction v using Value.casesOn;all_goals first
      |exact ah h
      | (refine ab (wpAny_load ho ?_)
         rw[hc];cases hd:o.data;all_goals first
           |exact ah h
           | (dsimp only;rw[hn,Bool.false_and];exact ah h))
  induction tgt using Expr.casesOn<;>first|exact go|exact ah h
end
theorem nL:∀(l:List Nat) (n j:Nat),(ji n l)[j]?=(l[j]?).map fun c=>V.tup [.int ((n+j:Nat):Int),.str [c]]
 |[],n,j=>rfl
 |c::l,n,0=>rfl
 |c::l,n,j+1=>by
  show(ji (n+1) l)[j]?=_;rw[nL l (n+1) j];have:n+1+j=n+(j+1):=by omega
  rw[this];rfl
section
variable{cx:Cx}{RD:Nat}{sc:Sc}{fx:Fx}{m:Str→Option Value}{RC its:List (Addr×Obj)}{W:Wd}{H H':Hp}{s:Shared}{r:Nat}
theorem j3{tgt:Expr}{it:It}{j:Nat}{a:Addr}{o:Obj}{tk:Nat}{h':Heap}{v:V}{u:Value}(St:Heap→Prop)(mk:∀o':Obj,(∀h:Heap,h.get? a=some o'→St h)→ItR cx W tgt it (j+1) a [(a,o')]){n:String} (hfr:∀h₁ h₂:Heap,St h₁→h₂.get? a=h₁.get? a→St h₂) (hsome:St h'→∃o':Obj,h'.get? a=some o'∧o'.cls=.type n∧∃vs:Array Value,o'.data=.fields vs) (hn:["enumerate","zip","dict_itemiterator","dict_reverseitemiterator","odict_iterator","itertools.zip_longest","itertools.pairwise"].contains n=false) (C:cx.CR fx m ([(a,o)]++RC) W H s.heap) (hs:Heap.SameBut a s.heap h') (hst:St h') (V1:VR cx.K W v u) {Q:Option Value→Shared→Prop} {Er:Value→Shared→Prop} (hQ:∀(W':Wd) (h':Heap) (tk:Nat) (its':List (Addr×Obj)) (u:Value),W.le W'→ItR cx W' tgt it (j+1) a its'→cx.CR fx m (its'++RC) W' H h'→VR cx.K W' v u→Q (some u) (sH s h' tk)) :wpAny cx.mo fx.A (letOwnedTupleGo tgt (.ref a) u) (fun _ s₂=>Q (some u) s₂) Er (sH s h' tk):=by
 obtain⟨o',ho',hc',vs,hd'⟩:=hsome hst;refine Cj (s:=(sH s h' tk)) ho' hc' hn ?_;refine hQ W h' tk [(a,o')] u (.refl W) (mk o' fun h e=>hfr h' h hst (e.trans ho'.symm)) ?_ V1;refine CR.turn C (fun b q hb e=>?_) rfl (fun q hq=>?_) (fun q hq=>?_)
 ·exact(hs.2 b (by simpa using hb)).trans e
 ·rw[Oc.mp hq];exact ho'
 ·rw[Oc.mp hq];exact bT hd'
theorem j6{a:Addr}{o:Obj}{h':Heap}(C:cx.CR fx m ([(a,o)]++RC) W H s.heap)(hs:Heap.ExtBut a s.heap h'):cx.CR fx m RC W H h':=CR.extBut C fun b q hb e=>hs b q (by simpa using hb) e
theorem kr(G:Good cx fx RD){tgt:Expr}{it:It}{j:Nat}{a:Addr}(I:ItR cx W tgt it j a its)(C:cx.CR fx m (its++RC) W H s.heap){x:Option V}(hi:item it j H=some x){Q:Option Value→Shared→Prop}{Er:Value→Shared→Prop} (h0:x=none→∀(h':Heap) (tk:Nat),cx.CR fx m RC W H h'→Q none (sH s h' tk)) (h1:∀v,x=some v→∀(W':Wd) (h':Heap) (tk:Nat) (its':List (Addr×Obj)) (u:Value),W.le W'→ItR cx W' tgt it (j+1) a its'→cx.CR fx m (its'++RC) W' H h'→VR cx.K W' v u→Q (some u) (sH s h' tk)) :wpAny cx.mo fx.A (pyNext (.ref a)) (fun r s₁=>match r with|none=>Q none s₁|some u=>wpAny cx.mo fx.A (letOwnedTupleGo tgt (.ref a) u) (fun _ s₂=>Q (some u) s₂) Er s₁) Er s:=by
 have at0:∀q∈its,s.heap.get? q.1=some q.2:=fun q hq=>(C.keep q (ax _ (aT _ hq))).1;induction I with
 |live r1 i1 j a o y hat hit=>
  have hit0:=hit s.heap (at0 (a,o) ak)
  (conv at hi=>lhs;whnf)
  (refine QA hi ?_;clear hi;intro l hg hi)
  induction hi using QT;obtain⟨x',vs,n,e,hat',hl,hv,hlen⟩:=CR.list C (u:=.ref y) (.ref _ _ _ _ hat) hg;cases e;induction hj:l[j]? with
  |none=>
   have hj':vs.toArray[j]?=none:=by simp at hj⊢;rw[←hv.length];exact hj
   exact wpAny_pyNext_list_end G.hh hit0 (aQ hl) hj' fun h' hs=>h0 hj h' s.toks (j6 C hs)
  |some v=>
   obtain⟨u,hu,V1⟩:=hv.getS hj;refine wpAny_pyNext_list_item hit0 (aQ hl) hu fun h' hit' hs=>?_;exact j3 (tk:=s.toks) (fun h=>h.IsListIter a y (j+1)) (fun o' e=>.live _ _ _ _ _ _ hat e) (n:="list_iterator") (fun h₁ h₂ z e=>z.at fun o x=>e.trans x) (fun⟨o',a1,a2,a3⟩=>⟨o',a1,a2,_,a3⟩) (by decide) C hs hit' V1 (h1 v hj)
 |rev r1 i1 n j a o y hat hjn hit=>
  have hit0:=hit s.heap (at0 (a,o) ak)
  (conv at hi=>lhs;whnf)
  (refine QA hi ?_;clear hi;intro l hg hi)
  (refine PV hi ?_;clear hi;intro hln hi)
  obtain⟨x',vs,n',e,hat',hl,hv,hlen⟩:=CR.list C (u:=.ref y) (.ref _ _ _ _ hat) hg;cases e;by_cases hlt:j<n
  ·rw[ac hlt]at hi;induction hi using QT;have hex:∃v,l[n-1-j]?=some v:=⟨_,ay (by rw[hln];exact aJ (Nat.sub_le ..) (Nat.sub_lt (Nat.zero_lt_of_lt hlt) Nat.one_pos))⟩;obtain⟨v,hv'⟩:=hex;obtain⟨u,hu,V1⟩:=hv.getS hv';have e1:(n:Int)-1-(j:Int)=((n-1-j:Nat):Int):=by rw[Int.ofNat_sub (Nat.le_sub_one_of_lt hlt),Int.ofNat_sub (Nat.zero_lt_of_lt hlt)];rfl
   rw[e1]at hit0;refine wpAny_pyNext_rev_item hit0 (aQ hl) hu fun h' hit' hs=>?_;have e2:((n-1-j:Nat):Int)-1=(n:Int)-1-((j+1:Nat):Int):=by rw[←e1,Int.sub_sub];rfl
   rw[e2]at hit';exact j3 (tk:=s.toks) (fun h=>h.IsRevIter a y ((n:Int)-1-((j+1:Nat):Int))) (fun o' e=>.rev _ _ _ _ _ _ _ hat hlt e) (n:="list_reverseiterator") (fun h₁ h₂ z e=>z.at fun o x=>e.trans x) (fun⟨o',a1,a2,a3⟩=>⟨o',a1,a2,_,a3⟩) (by decide) C hs hit' V1 (h1 v hv')
  ·rw[af hlt]at hi;induction hi using QT;have e1:(n:Int)-1-(j:Int) = -1:=by omega
   rw[e1]at hit0;exact wpAny_pyNext_rev_end G.hh hit0 fun h' hs=>h0 rfl h' s.toks (j6 C hs)
 |tup l j a o y VT hit=>
  have hit0:=hit s.heap (at0 (a,o) ak);obtain rfl:=av hi;obtain⟨t,vs,e,ht,hv⟩:=C.tuple G.X VT;cases e;induction hj:l[j]? with
  |none=>
   have hj':vs.toArray[j]?=none:=by simp at hj⊢;rw[←hv.length];exact hj
   exact wpAny_pyNext_tuple_end G.hh hit0 ht hj' fun h' hs=>h0 hj h' s.toks (j6 C hs)
  |some v=>
   obtain⟨u,hu,V1⟩:=hv.getS hj;refine wpAny_pyNext_tuple_item hit0 ht hu fun h' hit' hs=>?_;exact j3 (tk:=s.toks) (fun h=>h.IsTupleIter a y (j+1)) (fun o' e=>.tup _ _ _ _ _ VT e) (n:="tuple_iterator") (fun h₁ h₂ z e=>z.at fun o x=>e.trans x) (fun⟨o',a1,a2,a3⟩=>⟨o',a1,a2,_,a3⟩) (by decide) C hs hit' V1 (h1 v hj)
 |ascii l j t a o hit=>
  have hit0:=hit s.heap (at0 (a,o) ak);obtain rfl:=av hi;induction hj:l[j]? with
  |none=>
   have hj':(⟨l.toArray⟩:Str).cps[j]?=none:=by simpa using hj
   exact wpAny_pyNext_ascii_end G.hh hit0 hj' fun h' hs=>h0 (by simp[hj]) h' s.toks (j6 C hs)
  |some c=>
   have hj':(⟨l.toArray⟩:Str).cps[j]?=some c:=by simpa using hj
   refine wpAny_pyNext_ascii_item hit0 hj' fun h' hit' hs=>?_;exact j3 (tk:=s.toks+1) (fun h=>h.IsStrIter a "str_ascii_iterator" ⟨l.toArray⟩ t (j+1)) (fun o' e=>.ascii _ _ _ _ _ e) (n:="str_ascii_iterator") (fun h₁ h₂ ⟨o,x,y⟩ e=>⟨o,e.trans x,y⟩) (fun⟨o',a1,a2,a3⟩=>⟨o',a1,a2,_,a3⟩) (by decide) C hs hit' (.str [c] s.toks) (h1 (.str [c]) (by simp[hj]))
 |wide l j t a o hit=>
  have hit0:=hit s.heap (at0 (a,o) ak);obtain rfl:=av hi;induction hj:l[j]? with
  |none=>
   have hj':(⟨l.toArray⟩:Str).cps[j]?=none:=by simpa using hj
   exact wpAny_pyNext_wide_end G.hh hit0 hj' fun h' hs=>h0 (by simp[hj]) h' s.toks (j6 C hs)
  |some c=>
   have hj':(⟨l.toArray⟩:Str).cps[j]?=some c:=by simpa using hj
   refine wpAny_pyNext_wide_item hit0 hj' fun h' hit' hs=>?_;exact j3 (tk:=s.toks+1) (fun h=>h.IsStrIter a "str_iterator" ⟨l.toArray⟩ t (j+1)) (fun o' e=>.wide _ _ _ _ _ e) (n:="str_iterator") (fun h₁ h₂ ⟨o,x,y⟩ e=>⟨o,e.trans x,y⟩) (fun⟨o',a1,a2,a3⟩=>⟨o',a1,a2,_,a3⟩) (by decide) C hs hit' (.str [c] s.toks) (h1 (.str [c]) (by simp[hj]))
 |range f c n j a o hit=>
  have hit0:=hit s.heap (at0 (a,o) ak);obtain rfl:=av hi;by_cases hlt:j<n
  ·have hj:((List.range n).map fun(k:Nat)=>V.int (f+(k:Int)*c))[j]?=some (.int (f+(j:Int)*c)):=by simp[hlt]
   refine wpAny_pyNext_range_item hit0 (by omega) fun h' hit' hs=>?_;have e1:f+((j+1:Nat):Int)*c=f+(j:Int)*c+c:=by push_cast;rw[Int.add_mul,Int.one_mul,Int.add_assoc]
   have e2:(n:Int)-((j+1:Nat):Int)=(n:Int)-(j:Int)-1:=by push_cast;omega
   rw[←e1,←e2]at hit';exact j3 (tk:=s.toks+1) (fun h=>IsRangeIter h a (f+((j+1:Nat):Int)*c) ((n:Int)-((j+1:Nat):Int)) c) (fun o' e=>.range _ _ _ _ _ _ e) (n:="range_iterator") (fun h₁ h₂ x e=>e.trans x) (fun x=>⟨_,x,rfl,_,rfl⟩) (by decide) C hs hit' (.int _ _) (h1 _ hj)
  ·have hj:((List.range n).map fun(k:Nat)=>V.int (f+(k:Int)*c))[j]?=none:=by simp;exact Nat.le_of_not_lt ‹_›
   exact wpAny_pyNext_range_end G.hh hit0 (by omega) fun h' hs=>h0 hj h' s.toks (j6 C hs)
 |enum l j t a o b o' old htp hab hjl hit hit2=>
  have hit0:=hit s.heap (at0 (a,o) ak);have hit1:=hit2 s.heap (at0 (b,o') (aD _ ak));obtain rfl:=av hi;obtain⟨D⟩:Nonempty (Draws PP cx.w fx.A.in1 b [b] (⟨l.toArray⟩:Str).cps.size (fun i v=>∃c u,(⟨l.toArray⟩:Str).cps[i]?=some c∧v=.str ⟨#[c]⟩ u) (fun i h=>h.IsStrIter b (strIterType ⟨l.toArray⟩) ⟨l.toArray⟩ t i)):=by
   unfold strIterType;split
   ·exact⟨Draws.strAscii (A:=fx.A.in1) G.hh b ⟨l.toArray⟩ t⟩
   ·exact⟨Draws.strWide (A:=fx.A.in1) G.hh b ⟨l.toArray⟩ t⟩
  have hab':a∉[b]:=by simpa using hab
  by_cases hlt:j<l.length
  ·have hj:(ji 0 l)[j]?=some (V.tup [.int (j:Int),.str [l[j]]]):=by rw[nL,ay hlt];simp
   refine wpAny_pyNext_enum_itemD D hit0 hit1 (by simpa using hlt) hab hab' fun x h' tk hP hout hst' hT hsz hk=>?_;obtain⟨c,u,hc,rfl⟩:=hP;have hc':c=l[j]:=by
    have:l[j]?=some c:=by simpa using hc
    rw[ay hlt]at this;exact(av this).symm
   subst hc';obtain⟨te,tk2,tp,rfl⟩:∃te k p,tgt=.Tuple te k p:=by
    induction tgt using Expr.casesOn<;>first|((first|exact CS htp|cases htp);done)|exact⟨_,_,_,rfl⟩
   refine wpAny_letOwnedTupleGo_enum (s:=(sH s h' (tk+1))) hout fun h₂ he₂ hs₂=>?_;replace hs₂:Heap.SameBut a h' h₂:=hs₂;obtain⟨o₂,ho₂,hc₂,hd₂⟩:=id hst';have hb₂:h₂.get? b=some o₂:=(hs₂.2 b hab.symm).trans ho₂;have ha_lt:a<s.heap.objs.size:=aZ hit0;have hb_lt:b<s.heap.objs.size:=by obtain⟨_,y,_⟩:=hit1;exact aZ y
   have hT₂:h₂.get? s.heap.objs.size=some {cls:=.type "tuple",data:=.seq #[.int (j:Int) tk,.str ⟨#[l[j]]⟩ u]}:=(hs₂.2 _ (Nat.ne_of_gt ha_lt)).trans hT;have fr:=C.fresh;have C₁:cx.CR fx m ([(a,({cls:=.type "enumerate",dict:=none,data:=.fields #[.none,.bool false,.ref b,rawInt ((j:Int)+1),.none,.str ⟨#[l[j]]⟩ u],slots:=#[]}:Obj)),(b,o₂)]++RC) W H h₂:=by
    refine CR.turn C (fun z q hz e=>?_) rfl (fun q hq=>?_) (fun q hq=>?_)
    ·have hz1:z≠a:=fun e'=>hz (by simp[e']);have hz2:z≠b:=fun e'=>hz (by simp[e']);exact(hs₂.2 z hz1).trans (hk z q hz1 hz2 e)
    ·rcases uB.mp hq with rfl|hq
     ·exact he₂
     ·rw[Oc.mp hq];exact hb₂
    ·rcases uB.mp hq with rfl|hq
     ·exact bT rfl
     ·rw[Oc.mp hq];exact bT hd₂
   have C₂:=CR.addTup C₁ (a:=s.heap.objs.size) (vs:=[.int (j:Int) tk,.str ⟨#[l[j]]⟩ u]) (n:=0) hT₂ fr.1 fr.2;refine h1 _ hj _ h₂ (tk+1) _ (.ref s.heap.objs.size) (W.le_tup _ _) (.enum l (j+1) t a _ b o₂ (.str ⟨#[l[j]]⟩ u) rfl hab hlt (fun h e=>?_) fun h e=>⟨o₂,e,hc₂,hd₂⟩) C₂ (.tup _ _ [.int (j:Int) tk,.str ⟨#[l[j]]⟩ u] (.head _) (.cons _ _ _ _ (.int _ _) (.cons _ _ _ _ (.str [l[j]] u) .nil)));have e1:((j+1:Nat):Int)=(j:Int)+1:=by push_cast;rfl
   rw[e1];exact e
  ·have hjn:j=l.length:=by omega
   have hj:(ji 0 l)[j]?=none:=by rw[nL,hjn];simp
   have hst:s.heap.IsStrIter b (strIterType ⟨l.toArray⟩) ⟨l.toArray⟩ t (⟨l.toArray⟩:Str).cps.size:=by
    have:(⟨l.toArray⟩:Str).cps.size=j:=by simp[hjn]
    rw[this];exact hit1
   refine wpAny_pyNext_enum_endD D hit0 hst fun h' hs=>h0 hj h' s.toks ?_;exact CR.extBut C fun z q hz e=>hs z q (fun e'=>hz (by simp[e'])) e
end
end
section
open PySem PySem.W PySem.Calls PyProof.Rows PySem.SeqAt
variable{pos p apos np:Pos}{v y:V}{n r i k j q RD:Nat}{Q Er E:Value→Shared→Prop}{u u':Value}{A:Around}{H H':Hp}{e t tgt iter ve se elt:Expr}{s:Shared}{x:Str}{K:Frag}{W W':Wd}{ρ ρ':bJ}{es ifs:List Expr}{env:Env}{a S D C I:Addr}{l xs l' ds:List V}{vs us:List Value}{Ea Eb Eo Ee:Ev}{b:Bool}{o o':O}{h' h:Heap}{f:Expr→Ev}{names:List Str}{scope:Scope}{w:World}{sc:Sc}{M:Model}{prog:Program}{cx:Cx}{tn:Tn}{dx:Option Addr}{fx:Fx}{m m':Str→Option Value}{it:It}{T:Tg}{RC cells:List (Addr×Obj)}{items:Array Value}{B:List St}{F:Md}{R:List O}{okf:Addr→Nat→Bool}{is:List Nat}{body:List Stmt}
def qu(cx:Cx)(RD:Nat)(sc:Sc)(tgt:Expr)(e:Expr)(I:Iv):Prop:=∀(fx:Fx) (m:Str→Option Value) (RC:List (Addr×Obj)) (ρ:bJ) (W:Wd) (H:Hp) (s:Shared) (it:It) (H':Hp) (r:Nat) (Q:Value→Shared→Prop) (Er:Value→Shared→Prop),
 Good cx fx RD→GlobOk cx fx m RC sc→LocOk cx fx m RC sc ρ W→cx.CR fx m RC W H s.heap→I ρ r H=some (it,H')→
 (∀(W':Wd) (h':Heap) (tk:Nat) (a:Addr) (its:List (Addr×Obj)),W.le W'→ItR cx W' tgt it 0 a its→cx.CR fx m (its++RC) W' H' h'→Q (.ref a) (sH s h' tk))→
 wpAny cx.mo fx.A (eval e fx.env) (fun u s₁=>wpAny cx.mo fx.A (pyIter u) Q Er s₁) Er s
section
variable{its:List (Addr×Obj)}
theorem ml(C:cx.CR fx m RC W H s.heap){o:Obj}{vs:Array Value}(hd:o.data=.fields vs)(hI:ItR cx W tgt it 0 s.heap.objs.size [(s.heap.objs.size,o)]) (hQ:∀(W':Wd) (h':Heap) (tk:Nat) (a:Addr) (its:List (Addr×Obj)),W.le W'→ItR cx W' tgt it 0 a its→cx.CR fx m (its++RC) W' H h'→Q (.ref a) (sH s h' tk)):Q (.ref s.heap.objs.size) {s with heap:=s.heap.push o}:=
 hQ W _ s.toks _ _ (.refl W) hI (C.pushAux o (Obj.isFreed_of_fields hd) (bT hd))
theorem Dc(G:Good cx fx RD)(C:cx.CR fx m RC W H s.heap)(V1:VR cx.K W v u)(h:LX v H=some it) (hQ:∀(W':Wd) (h':Heap) (tk:Nat) (a:Addr) (its:List (Addr×Obj)),W.le W'→ItR cx W' tgt it 0 a its→cx.CR fx m (its++RC) W' H h'→Q (.ref a) (sH s h' tk)) :wpAny cx.mo fx.A (pyIter u) Q Er s:=by
 induction v using cW<;>first|exact Rk h|skip
 rotate_left
 ·obtain rfl:=av h;obtain⟨t,vs,rfl,ht,hv⟩:=C.tuple G.X V1;refine wpAny_pyIter_tuple ht ?_;exact ml C rfl (.tup _ _ _ _ _ V1 fun h' e=>⟨_,e,rfl,rfl⟩) hQ
 rotate_left
 ·obtain rfl:=av h;induction V1 using RB;rename_i l t;cases ha:(⟨l.toArray⟩:Str).cps.all (· < 128)
  ·refine wpAny_pyIter_wide ha ?_;exact ml C rfl (.wide _ _ t _ _ fun h' e=>⟨_,e,rfl,rfl⟩) hQ
  ·refine wpAny_pyIter_ascii ha ?_;exact ml C rfl (.ascii _ _ t _ _ fun h' e=>⟨_,e,rfl,rfl⟩) hQ
 ·rename_i r1 i1;change(match H.get r1 i1 with|some (.list _)=>some (It.live r1 i1)|_=>.none)=some it at h
  (refine QA h ?_;clear h;intro l hg h)
  induction h using QT;obtain⟨x,vs,n,rfl,hat,hl,hv,hlen⟩:=C.list V1 hg;refine wpAny_pyIter_list (aQ hl) ?_;exact ml C rfl (.live _ _ _ _ _ x hat fun h' e=>⟨_,e,rfl,rfl⟩) hQ
theorem oi{E:Ev}(he:aN cx RD sc e E):qu cx RD sc tgt e (bn E):=by
 intro fx m RC ρ W H s it H' r Q Er G GG LL C hE hQ;unfold bn at hE
 (refine Pn hE ?_;clear hE;intro v H₁ h1 hE)
 (refine Q4 hE ?_;clear hE;intro it' h2 hE)
 induction hE using QM;refine he fx m RC ρ W H s v _ r _ Er G GG LL C h1 fun W₁ h₁ tk₁ u l₁ C₁ V₁=>?_;exact Dc (s:=(sH s h₁ tk₁)) G C₁ V₁ h2 fun W' h' tk a its l' I C'=>hQ W' h' tk a its (l₁.trans l') I C'
theorem qq:∀(n:Nat) (a:Int),bw a n=(List.range n).map fun(k:Nat)=>V.int (a+(k:Int)*1)
 |0,a=>rfl
 |n+1,a=>by
  rw[bw,qq n (a+1),List.range_succ_eq_map,List.map_cons,List.map_map];congr 1
  ·simp
  ·apply List.map_congr_left;intro k _;simp only[Function.comp];congr 1
   push_cast
   omega
theorem rM:∀(n:Nat) (a:Int),dJ a n=(List.range n).map fun(k:Nat)=>V.int (a+(k:Int)*(-1))
 |0,a=>rfl
 |n+1,a=>by
  rw[dJ,rM n (a-1),List.range_succ_eq_map,List.map_cons,List.map_map];congr 1
  ·simp
  ·apply List.map_congr_left;intro k _;simp only[Function.comp];congr 1
   push_cast
   omega
theorem xq{a b:Int}:Builtin.Range.rangeSize a b (-1)=((a-b).toNat:Int):=by
 unfold Builtin.Range.rangeSize;have h1:¬((-1:Int)>0):=by decide
 rw[af h1];show(if a>b then(a-b-1) / 1+1 else 0)=_;rw[Int.ediv_one];split<;>omega
theorem D9{a b:Int}:Builtin.Range.rangeSize a b 1=((b-a).toNat:Int):=by
 rw[rangeSize_one];split<;>omega
theorem Cz{a b:Int}(ha:-100000<a)(ha':a<100000)(hb:-100000<b)(hb':b<100000):Builtin.Range.small a b (-1)=true:=by
 have p:(2:Int) ^ 63=9223372036854775808:=by decide
 have h1:¬((-1:Int)>0):=by decide
 have f:∀x:Int, -300000<x→x<300000→-9223372036854775808≤x∧x<9223372036854775808:=fun x h h'=>⟨Int.le_of_lt (Int.lt_trans (by decide) h),Int.lt_trans h' (by decide)⟩;have fb:=f b (Int.lt_trans (by decide) hb) (Int.lt_trans hb' (by decide));have hd:a-b<300000:=Int.lt_trans (Int.sub_lt_sub_of_lt_of_le ha' (Int.le_of_lt hb)) (by decide);have ht:((a-b).toNat:Int)<300000:=by
  by_cases h:0≤a-b
  ·rw[Int.toNat_of_nonneg h];exact hd
  ·rw[Int.toNat_of_nonpos (Int.le_of_lt (Int.not_le.mp h))];decide
 unfold Builtin.Range.small;rw[xq,af h1];simp only[Builtin.Range.rangeFitsLong,p,aY,Bool.or_eq_true,bp,iu];exact⟨⟨⟨⟨f a (Int.lt_trans (by decide) ha) (Int.lt_trans ha' (by decide)),fb⟩,by decide⟩,f _ (Int.lt_of_lt_of_le (by decide) (Int.natCast_nonneg _)) ht⟩,.inr (by rw[show(-1:Int)+1=0 from rfl,Int.add_zero];exact fb)⟩
theorem uU(C:cx.CR fx m RC W H s.heap){f b c:Int}{t u v:Tok}{tk:Nat}(hn:Builtin.Range.rangeSize f b c=(n:Int))(hs:Builtin.Range.small f b c=true) (hQ:∀(W':Wd) (h':Heap) (tk:Nat) (a:Addr) (its:List (Addr×Obj)),W.le W'→ItR cx W' tgt (.fixed ((List.range n).map fun(k:Nat)=>.int (f+(k:Int)*c))) 0 a its→cx.CR fx m (its++RC) W' H h'→Q (.ref a) (sH s h' tk)) :wpAny cx.mo fx.A (pyIter (.ref s.heap.objs.size)) Q Er {s with heap:=s.heap.push {cls:=.type "range",data:=.fields #[.int f t,.int b u,.int c v]},toks:=tk}:=by
 have C₁:=C.push {cls:=.type "range",data:=.fields #[.int f t,.int b u,.int c v]};refine wpAny_pyIter_range (s:={s with heap:=s.heap.push {cls:=.type "range",data:=.fields #[.int f t,.int b u,.int c v]},toks:=tk}) (IsRange.new s.heap f b c t u v) hs ?_;refine ml (s:={s with heap:=s.heap.push {cls:=.type "range",data:=.fields #[.int f t,.int b u,.int c v]},toks:=tk}) C₁ rfl (.range _ _ _ _ _ _ fun h' e=>?_) hQ;have e1:f+((0:Nat):Int)*c=f:=by simp
 have e2:(n:Int)-((0:Nat):Int)=Builtin.Range.rangeSize f b c:=by rw[hn];simp
 rw[e1,e2];exact e
theorem CK(h:∀e∈es,aN cx RD sc e (f e))(hs:∀e∈es,aH e=true→f e=aw)(hx:sc.isGlob "range" = true)(hu:nsIn cx.K mainGlobals "range" = some none):qu cx RD sc tgt (.Call (.Name "range" np) es [] pos) (bk (es.map f)):=by
 intro fx m RC ρ W H s it H' r Q Er G GG LL C hE hQ;unfold bk at hE
 (refine Qy hE ?_;clear hE;intro xs H₂ h1 hE)
 (refine Ro hE ?_;clear hE;intro l hl hE)
 obtain⟨H₁,rfl⟩:∃H₁,H₂=H₁:=⟨_,rfl⟩;induction hE using QM;have hno:=my hs h1;refine Call_ ((GG "range" hx).2 _ hu boot_range (by decide) np W H s _ _ C ?_);refine gw hno (mj h hs G GG LL C h1 fun W₁ h₁ tk₁ us l₁ C₁ V₁=>?_);have hQ':∀(W':Wd) (h':Heap) (tk:Nat) (a:Addr) (its:List (Addr×Obj)),W₁.le W'→ItR cx W' tgt (.fixed l) 0 a its→cx.CR fx m (its++RC) W' _ h'→Q (.ref a) (sH s h' tk):=fun W' h' tk a its l' I C'=>hQ W' h' tk a its (l₁.trans l') I C';obtain⟨is,hi,hr⟩:=N1.mp hl;have w1:∀x:Int, -100000<x→-2 ^ 62≤x:=fun x h=>Int.le_of_lt (Int.lt_trans (by decide) h);have w2:∀x:Int,x<100000→x<2 ^ 62:=fun x h=>Int.lt_trans h (by decide);obtain⟨hI,rfl⟩:=gH V₁ hi;rcases is with _|⟨a,_|⟨b,_|⟨c,_|⟨d,is⟩⟩⟩⟩
 ·exact Rk hr
 ·refine tR hr (fun hn hl=>?_) (fun _ hl=>Rk hl);obtain rfl:=av hl;have V₁:VRs cx.K W₁ [.int a] us:=V₁;obtain⟨u,rfl,V⟩:=eO (xs:=[]) V₁;induction V using Rs;refine call_range_1 (s:=(sH s h₁ tk₁)) ?_;rw[qq]at hQ';refine uU (s:=(sH s h₁ tk₁)) C₁ (n:=a.toNat) ?_ (small_one (by decide) (by decide) (w1 _ hn.1) (w2 _ hn.2)) hQ';rw[D9,Int.sub_zero]
 ·refine tR hr (fun hn hl=>?_) (fun _ hl=>Rk hl);obtain rfl:=av hl;have V₁:VRs cx.K W₁ [.int a,.int b] us:=V₁;induction V₁ using QN;rename_i u _ a1 a2;induction a2 using QN;rename_i u' _ b1 b2;induction b2 using QF;induction a1 using Rs;induction b1 using Rs;refine call_range_2 (s:=(sH s h₁ tk₁)) ?_;rw[qq]at hQ';exact uU (s:=(sH s h₁ tk₁)) C₁ (n:=(b-a).toNat) D9 (small_one (w1 _ hn.1) (w2 _ hn.2.1) (w1 _ hn.2.2.1) (w2 _ hn.2.2.2)) hQ'
 ·refine tR hr (fun hn hl=>?_) (fun _ hl=>Rk hl);obtain rfl:=av hl;obtain⟨q1,q2,q3,q4,rfl⟩:=hn;have V₁:VRs cx.K W₁ [.int a,.int b,.int (-1)] us:=V₁;induction V₁ using QN;rename_i u _ a1 a2;induction a2 using QN;rename_i u' _ b1 b2;induction b2 using QN;rename_i u'' _ c1 c2;induction c2 using QF;induction a1 using Rs;induction b1 using Rs;induction c1 using Rs;refine call_range_3 (s:=(sH s h₁ tk₁)) (by decide) ?_ (.inl (Gf (by decide)));rw[rM]at hQ';exact uU (s:=(sH s h₁ tk₁)) C₁ (n:=(a-b).toNat) xq (Cz q1 q2 q3 q4) hQ'
 ·exact Rk hr
theorem IM{E:Ev}(he:aN cx RD sc e E)(hst:aH e=true→E=aw)(hx:sc.isGlob "reversed" = true)(hu:nsIn cx.K mainGlobals "reversed" = some none):qu cx RD sc tgt (.Call (.Name "reversed" np) [e] [] pos) (C2 E):=by
 intro fx m RC ρ W H s it H' r Q Er G GG LL C hE hQ;unfold C2 at hE
 (refine P6 hE ?_;clear hE;intro r1 i1 H₁ h1 hE)
 (refine QA hE ?_;clear hE;intro l hg hE)
 induction hE using QM;have hn:aH e=false:=by
  induction q:aH e with
  |false=>rfl
  |true=>rw[hst q]at h1;exact Rk h1
 have hno:∀e'∈[e],aH e'=false:=fun e' he'=>by rw[Oc.mp he'];exact hn
 refine Call_ ((GG "reversed" hx).2 _ hu boot_reversed (by decide) np W H s _ _ C ?_);refine gw hno ?_;rw[bC hn,cb];refine spliced_cons (he fx m RC ρ W H s _ _ r _ Er G GG LL C h1 fun W₁ h₁ tk₁ u l₁ C₁ V₁=>spliced_nil ?_);obtain⟨x,vs,n,rfl,hat,hl,hv,hlen⟩:=CR.list (s:=(sH s h₁ tk₁)) C₁ V₁ hg;refine call_reversed_list (s:=(sH s h₁ tk₁)) (aQ hl) ?_;refine wpAny_pyIter_revIter (s:=(sH s (h₁.push (revObj x ((vs.toArray.size:Int)-1))) tk₁)) ⟨_,cq _ rfl,rfl,rfl⟩ ?_;refine ml (s:=(sH s h₁ tk₁)) C₁ rfl (.rev _ _ _ _ _ _ x hat (Nat.zero_le _) fun h' e=>?_) fun W' h' tk a its l' I C'=>hQ W' h' tk a its (l₁.trans l') I C';refine⟨_,e,rfl,?_⟩;have e1:(l.length:Int)-1-((0:Nat):Int)=(vs.toArray.size:Int)-1:=by rw[hv.length];simp
 rw[e1];rfl
theorem FB{E:Ev}(htp:fk tgt=true)(he:aN cx RD sc e E)(hst:aH e=true→E=aw)(hx:sc.isGlob "enumerate" = true)(hu:nsIn cx.K mainGlobals "enumerate" = some none):qu cx RD sc tgt (.Call (.Name "enumerate" np) [e] [] pos) (rA E):=by
 intro fx m RC ρ W H s it H' r Q Er G GG LL C hE hQ;unfold rA at hE
 (refine Q1 hE ?_;clear hE;intro x H₁ h1 hE)
 induction hE using QM;have hn:aH e=false:=by
  induction q:aH e with
  |false=>rfl
  |true=>rw[hst q]at h1;exact Rk h1
 have hno:∀e'∈[e],aH e'=false:=fun e' he'=>by rw[Oc.mp he'];exact hn
 refine Call_ ((GG "enumerate" hx).2 _ hu boot_enumerate (by decide) np W H s _ _ C ?_);refine gw hno ?_;rw[bC hn,cb];refine spliced_cons (he fx m RC ρ W H s _ _ r _ Er G GG LL C h1 fun W₁ h₁ tk₁ u l₁ C₁ V₁=>spliced_nil ?_);induction V₁ using RB;rename_i t;refine call_enumerate_str (s:=(sH s h₁ tk₁)) fun h' he' hs' hz hk=>?_;refine wpAny_pyIter_enum (s:=(sH s h' tk₁)) he' ?_;obtain⟨o',ho',hc',hd'⟩:=id hs';have C₂:cx.CR fx m RC W₁ _ h':=CR.ext C₁ hk;have lts:=C₁.lt;have fr1:∀b,h₁.objs.size≤b→fx.h₀.get? b=none∧b≠fx.L:=fun b hb=>by
  refine⟨?_,fun e=>?_⟩
  ·induction q:fx.h₀.get? b with
   |none=>rfl
   |some o=>exact absurd (aZ (C₁.fr.keep _ _ q)) (Nat.not_lt.mpr hb)
  ·exact absurd C₁.fr.ns.lt (by rw[←e];exact Nat.not_lt.mpr hb)
 have C₃:=C₂.addAux ho' (fr1 _ (aS _)).1 (fr1 _ (aS _)).2 (fun r i a y=>Nat.ne_of_gt (lts.1 r i a y)) (fun q hq=>bf (lts.2.2 q hq)) (bT hd');have C₄:=C₃.addAux he' (fr1 _ (Nat.le_succ _)).1 (fr1 _ (Nat.le_succ _)).2 (fun r i a y=>Nat.ne_of_gt (Nat.lt_succ_of_lt (lts.1 r i a y))) (fun q hq=>by
  rcases NH.mp hq with hq|hq
  ·exact bf (Nat.lt_succ_of_lt (lts.2.2 q (aT _ hq)))
  ·rcases uB.mp hq with rfl|hq
   ·exact bf (Nat.lt_succ_self _)
   ·exact bf (Nat.lt_succ_of_lt (lts.2.2 q (ax _ hq)))) (bT rfl)
 exact hQ W₁ h' tk₁ _ _ l₁ (.enum x 0 t _ _ _ o' .none htp (Nat.ne_of_gt (Nat.lt_succ_self _)) (Nat.zero_le _) (fun h e=>e) fun h e=>⟨o',e,hc',hd'⟩) C₄
end
set_option tactic.hygienic false
section
variable{cx:Cx}{RD:Nat}{sc:Sc}{fx:Fx}{m:Str→Option Value}{RC its ext cells:List (Addr×Obj)}{W:Wd}{H H':Hp}{s:Shared}{r:Nat}{scope:Scope}{ρ ρ':bJ}
theorem xw(G:Good cx fx RD)(h:∀x,sc.isGlob x=true→fx.env.kindOf x=some .globalImplicit∧(x==("__debug__":Str))=false):GlobOk cx fx m RC sc:=fun x hx=>by
 obtain⟨hk,hd⟩:=h x hx;refine⟨fun v hv pos W H s Q E C hQ=>nameG_K C.fr G.X (topRead_of G.T) hv hQ G.hg G.hk hk hd,fun v hv hb hn pos W H s Q E C hQ=>?_⟩;have T:=topRead_of G.T;exact Name_function_global G.hk hk (loadGlobal_builtin (env:=fx.env) (by rw[G.hg];exact T.g.keeps C.fr.keep) (mg_none_of G.X T.g hv) (by rw[G.hb];exact T.b.keeps C.fr.keep) ((T.builtins x hn).trans hb) hQ) hd
theorem mq{names:List (Str×NameKind)}(h:eV names=true){k:NameKind}(hx:names.lookup x=some k):(x==("__debug__":Str))=false:=by
 have:=pI.mp h _ (mem_of_lookup hx);simp only[aY,Bool.not_eq_true']at this;exact this.1
theorem cO(G:Good cx fx RD)(FF:hG fx scope)(hsc:eV scope.names=true):GlobOk cx fx m RC (bM scope):=xw G fun x hx=>by
 (conv at hx=>lhs;whnf)
 (refine QV hx ?_;clear hx;intro n hp hx)
 have hl:=(aK hp).1;refine⟨?_,mq hsc hl⟩;unfold Env.kindOf;rw[FF.sc];exact hl
theorem oK(FF:hG fx scope){k:NameKind}(h:bc x scope.names 0=some (i,k)):fx.env.kindOf x=some k:=by
 unfold Env.kindOf;rw[FF.sc];exact(aK h).1
theorem tj(h:(bM scope).find x=some i):bc x scope.names 0=some (i,.local)∨bc x scope.names 0=some (i,.cell):=by
 rcases Af h with h|h|⟨n,l,_,e,_⟩
 ·exact .inl h
 ·exact .inr h
 ·exact Rk e
theorem FLoc.locOk(G:Good cx fx RD)(FF:hG fx scope)(hsc:eV scope.names=true)(FL:FLoc cx fx scope m cells ρ W):LocOk cx fx m (ext++cells) (bM scope) ρ W:=by
 refine⟨fun x i v hx hv=>?_,fun _=>FL.len,fun _ x i hx=>?_⟩
 ·rcases tj hx with hp|hp
  ·obtain⟨u,hu,hV⟩:=FL.loc x i v hp hv;refine⟨u,hV,fun pos W' H s Q E C hQ=>?_⟩;exact wpAny_Name (wpAny_loadName_local G.hk (oK FF hp) (by rw[FF.loc];exact C.fr.ns) hu hQ) (mq hsc (aK hp).1)
  ·obtain⟨c,o,val,a1,a2,a3,a4⟩:=FL.cel x i hp;obtain⟨u,rfl,hV⟩:=a4 v hv;refine⟨u,hV,fun pos W' H s Q E C hQ=>?_⟩;refine wpAny_Name (wpAny_loadName_cell G.hk (oK FF hp) a1 ⟨o,(C.keep (c,o) (ax _ (ax _ a2))).1,a3⟩ hQ) (mq hsc (aK hp).1)
 ·obtain⟨c,o,val,a1,a2,a3,a4⟩:=FL.cel x i hx;exact⟨oK FF hx,c,o,val,a1,ax _ a2,a3,a4⟩
theorem FLoc.mono(h:W.le W')(FL:FLoc cx fx scope m cells ρ W):FLoc cx fx scope m cells ρ W':=by
 refine⟨FL.len,fun x i v a b=>?_,fun x i a=>?_,FL.ap⟩
 ·obtain⟨u,c,d⟩:=FL.loc x i v a b;exact⟨u,c,d.mono h⟩
 ·obtain⟨c,o,val,a1,a2,a3,a4⟩:=FL.cel x i a;refine⟨c,o,val,a1,a2,a3,fun v hv=>?_⟩;obtain⟨u,b1,b2⟩:=a4 v hv;exact⟨u,b1,b2.mono h⟩
theorem CR.setLocal(C:cx.CR fx m RC W H s.heap)(hn:h'.Ns fx.L m')(hs:Heap.SameBut fx.L s.heap h'):cx.CR fx m' RC W H h':=by
 refine⟨C.fr.set hn hs,C.shape,fun r i o ho=>?_,fun q hq=>?_,fun q hq=>?_,C.inj,C.ap,C.axd,C.axk⟩
 ·obtain⟨x,dx,a,b⟩:=C.obj r i o ho;exact⟨x,dx,a,b.same (hs.2 x (C.ap r i x ⟨x,dx,a,.inl rfl⟩).2.1) fun d hd=>hs.2 d (C.ap r i d ⟨x,dx,a,.inr hd⟩).2.1⟩
 ·obtain⟨⟨n,b1⟩,b2,b3⟩:=C.tup q hq;exact⟨⟨n,(hs.2 _ b3).trans b1⟩,b2,b3⟩
 ·obtain⟨b1,b2,b3⟩:=C.keep q hq;exact⟨(hs.2 _ b3).trans b1,b2,b3⟩
theorem uD{w:V}(h:i≠j)(hv:(ρ.set i (some v))[j]?=some (some w)):ρ[j]?=some (some w):=by
 rw[List.getElem?_set,af h]at hv;exact hv
theorem Ct{w:V}(hv:(ρ.set i (some v))[i]?=some (some w)):w=v:=by
 rw[List.getElem?_set,ac rfl]at hv
 (refine PV hv ?_;clear hv;intro _ hv)
 (refine QU hv ?_;clear hv;intro e;cases e);rfl
theorem bind_fn(G:Good cx fx RD)(FF:hG fx scope)(FL:FLoc cx fx scope m cells ρ W)(C:cx.CR fx m (ext++cells) W H s.heap)(hx:(bM scope).find x=some i)(V1:VR cx.K W v u){Q:Unit→Shared→Prop} (hQ:∀(h':Heap) (tk:Nat) (m':Str→Option Value) (cells':List (Addr×Obj)),FLoc cx fx scope m' cells' (ρ.set i (some v)) W→cx.CR fx m' (ext++cells') W H h'→Q () (sH s h' tk)):wpAny cx.mo fx.A (storeName fx.env x u) Q Er s:=by
 rcases tj hx with hp|hp
 ·refine wpAny_storeName_local (oK FF hp) (by rw[FF.loc];exact C.fr.ns) (fun h' hn hs=>?_) (by rw[G.hk];rfl);rw[FF.loc]at hn hs;refine hQ h' _ _ cells ⟨by rw[List.length_set];exact FL.len,fun y j w hy hw=>?_,fun y j hy=>?_,FL.ap⟩ (C.setLocal hn hs)
  ·by_cases e:i=j
   ·subst e;have:=dH hp hy;subst this;rw[Ct hw];exact⟨u,by simp,V1⟩
   ·obtain⟨u',a,b⟩:=FL.loc y j w hy (uD e hw);have hne:¬y=x:=fun q=>by subst q;rw[hp]at hy;(refine QH hy ?_;clear hy;rintro rfl;intro e;cases e);exact e rfl
    exact⟨u',by rw[af hne];exact a,b⟩
  ·obtain⟨c,o,val,a1,a2,a3,a4⟩:=FL.cel y j hy;refine⟨c,o,val,a1,a2,a3,fun w hw=>a4 w (uD (fun e=>?_) hw)⟩;subst e;have:=dH hp hy;subst this;rw[hp]at hy;(refine QH hy ?_;clear hy;intro e;cases e;intro e;cases e)
 ·obtain⟨c,o,val,a1,a2,a3,a4⟩:=FL.cel x i hp;have hc:=C.keep (c,o) (ax _ (ax _ a2));refine wpAny_storeName_cell G.hk (oK FF hp) a1 ⟨o,hc.1,a3⟩ fun h' hcell hs=>?_;obtain⟨o',ho',hd'⟩:=hcell;obtain⟨pre,post,rfl⟩:=List.append_of_mem a2;have nd:=C.axd.1;have C₁:cx.CR fx m ((ext++pre)++(c,o)::post) W H s.heap:=by rw[bH];exact C
  have C₂:=CR.updAux C₁ hs ho' (fun⟨_,a,n,e⟩=>by rw[hd']at e;cases e);rw[bH]at C₂;refine hQ h' s.toks m (pre++(c,o')::post) ⟨by rw[List.length_set];exact FL.len,fun y j w hy hw=>?_,fun y j hy=>?_,FL.ap⟩ C₂
  ·refine FL.loc y j w hy (uD (fun e=>?_) hw);subst e;have:=dH hp hy;subst this;rw[hp]at hy;(refine QH hy ?_;clear hy;intro e;cases e;intro e;cases e)
  ·by_cases e:x=y
   ·subst e;rw[hp]at hy;(refine QH hy ?_;clear hy;rintro rfl;intro e;cases e);exact⟨c,o',some u,a1,ax _ ak,hd',fun w hw=>⟨u,rfl,Ct hw▸V1⟩⟩
   ·obtain⟨c',oc,val',b1,b2,b3,b4⟩:=FL.cel y j hy;have hcc:c'≠c:=fun q=>e (FL.ap x y c a1 (q▸b1));refine⟨c',oc,val',b1,?_,b3,fun w hw=>b4 w (uD (fun q=>?_) hw)⟩
    ·rcases NH.mp b2 with b2|b2
     ·exact aT _ b2
     ·rcases uB.mp b2 with b2|b2
      ·induction b2 using QX;exact absurd rfl hcc
      ·exact ax _ (aD _ b2)
    ·subst q;exact e (dH hp hy)
theorem n9{xs:List Str}(h:jg (e::es)=some xs):∃x ys p,e=.Name x p∧jg es=some ys∧xs=x::ys:=by
 (conv at h=>lhs;whnf)
 (refine Rm h ?_;clear h;intro x hx h)
 (refine Re h ?_;clear h;intro ys hy h)
 obtain⟨p,hp⟩:=eQ hx;exact⟨x,ys,p,hp,hy,(av h).symm⟩
theorem lA{vs:List V}(h:fX (i::is) vs ρ=some ρ'):∃v ws,vs=v::ws∧fX is ws (ρ.set i (some v))=some ρ':=by
 induction vs using jL with
 |nil=>exact Rk h
 |cons v ws=>exact⟨v,ws,rfl,h⟩
theorem uQ{vs:List V}(h:fX [] vs ρ=some ρ'):vs=[]∧ρ=ρ':=by
 induction vs using jL with
 |nil=>exact⟨rfl,av h⟩
 |cons v ws=>exact Rk h
theorem qU{β:Type}{a:Option β}{l:List (Option β)}{m:List β}(h:a::l=m.map some):∃y k,m=y::k∧a=some y∧l=k.map some:=by
 induction m using jL with
 |nil=>exact(List.cons_ne_nil _ _ h).elim
 |cons y k=>exact⟨y,k,rfl,List.head_eq_of_cons_eq h,List.tail_eq_of_cons_eq h⟩
theorem pi{M:Model}{A:Around}{env:Env}:∀{es:List Expr} {xs:List Str},jg es=some xs→((assignEach es env).map (·.2)).length=xs.length∧(assignEach es env).findIdx? (·.1)=none∧(assignEach es env).length=es.length∧es.length=xs.length
 |[],xs,h=>by obtain rfl:=av h;exact⟨rfl,rfl,rfl,rfl⟩
 |e::es,xs,h=>by
  obtain⟨x,ys,p,rfl,hys,rfl⟩:=n9 h;obtain⟨a,b,c,d⟩:=pi (M:=M) (A:=A) (env:=env) hys;refine⟨by simp only[ao]at a⊢;show(assignEach es env).length+1=_;rw[a];rfl,?_,by show(assignEach es env).length+1=_;rw[c];rfl,by simp[d]⟩;show List.findIdx? _ ((false,assign (.Name x p) env)::assignEach es env)=none;rw[List.findIdx?_cons,b];rfl
theorem f0{α:Type}:∀{l:List (Option α)} {m:List α},gj l=some m→l=m.map some
 |[],m,h=>by obtain rfl:=av h;rfl
 |none::l,m,h=>Rk h
 |some a::l,m,h=>by
  (conv at h=>lhs;whnf)
  (refine QS h ?_;clear h;intro m' hm h)
  induction h using QT;simp[f0 hm]
theorem zf{J:bJ→Shared→Prop}(sc:Sc)(P:Str→Prop) (hst:∀(x:Str) (i:Nat) (v:V) (u:Value) (ρ:bJ) (s:Shared) (Q:Unit→Shared→Prop),P x→sc.find x=some i→J ρ s→VR cx.K W v u→(∀s',J (ρ.set i (some v)) s'→Q () s')→wpAny cx.mo A (storeName env x u) Q Er s) :∀{es:List Expr} {xs:List Str} {is:List Nat} {vs:List V} {us:List Value} {ρ ρ':bJ} {s:Shared} {Q:Unit→Shared→Prop},jg es=some xs→(∀x∈xs,P x)→xs.map sc.find=is.map some→fX is vs ρ=some ρ'→VRs cx.K W vs us→J ρ s→(∀s',J ρ' s'→Q () s')→wpAny cx.mo A (assignInOrder ((assignEach es env).map (·.2)) us) Q Er s:=by
 intro zz;induction zz with
 |nil=>
  intro xs is vs us ρ ρ' s Q h1 hP h2 h3 h4 h5 h6;obtain rfl:=av h1;obtain rfl:=List.map_eq_nil_iff.mp h2.symm;obtain⟨rfl,rfl⟩:=uQ h3;exact ah (h6 s h5)
 |cons e es ih=>
  intro xs is vs us ρ ρ' s Q h1 hP h2 h3 h4 h5 h6;obtain⟨x,ys,p,he,hys,hx⟩:=n9 h1;obtain⟨i,js,hi,g1,g2⟩:=qU (a:=sc.find x) (l:=ys.map sc.find) (hx▸h2);obtain⟨v,ws,hv,g3⟩:=lA (hi▸h3);obtain⟨u,vs,hu,a,b⟩:=(hv▸h4).inv;rw[hu,he];refine ab (bz (assign_Name ?_));exact hst x i v u ρ s _ (hP x (hx▸ak)) g1 h5 a fun s' hJ=>ih hys (fun y hy=>hP y (hx▸aD _ hy)) g2 g3 b hJ h6
theorem g8{env:Env}{J:bJ→Shared→Prop}{Er:Value→Shared→Prop}{A:Around}(hh:A.handled=none)(sc:Sc)(P:Str→Prop) (htp:∀(l:List V) (u:Value) (ρ:bJ) (s:Shared),J ρ s→VR cx.K W (.tup l) u→∃x vs,u=.ref x∧IsTup s.heap x vs.toArray∧VRs cx.K W l vs) (hex:∀(ρ:bJ) (s:Shared) (h':Heap),J ρ s→(∀b o,s.heap.get? b=some o→h'.get? b=some o)→J ρ {s with heap:=h'}) (hst:∀(x:Str) (i:Nat) (v:V) (u:Value) (ρ:bJ) (s:Shared) (Q:Unit→Shared→Prop),P x→sc.find x=some i→J ρ s→VR cx.K W v u→(∀s',J (ρ.set i (some v)) s'→Q () s')→wpAny cx.mo A (storeName env x u) Q Er s) {t:Expr} {tn:Tn} (hP:∀x∈tw t,P x) (ht:ik sc t=some tn) {v:V} {u:Value} {ρ ρ':bJ} {s:Shared} {Q:Unit→Shared→Prop} (hb:nq tn v ρ=some ρ') (V1:VR cx.K W v u) (hJ:J ρ s) (hQ:∀s',J ρ' s'→Q () s'):wpAny cx.mo A (assign t env u) Q Er s:=by
 (conv at ht=>lhs;whnf)
 unfold tw at hP;induction hn:iR t with
 |some x=>
  rw[hn]at ht hP
  (refine Rg ht ?_;clear ht;intro i hi ht)
  induction ht using QT;obtain⟨p,rfl⟩:=eQ hn;obtain rfl:=av hb;exact assign_Name (hst x i v u ρ s _ (hP x ak) hi hJ V1 hQ)
 |none=>
  rw[hn]at ht hP
  (refine QB ht ?_;clear ht;intro es hes ht)
  (refine Re ht ?_;clear ht;intro xs hxs ht)
  (refine Rf ht ?_;clear ht;intro is his ht)
  induction ht using QT;obtain⟨k,p,rfl⟩:=u9 hes
  (conv at hb=>lhs;whnf)
  obtain⟨l,rfl,hb⟩:=Mf hb;obtain⟨x,vs,rfl,hT,hv⟩:=htp l u ρ s hJ V1;obtain⟨n1,n2,n3,n4⟩:=pi (M:=cx.mo) (A:=A) (env:=env) hxs;have hl:=(nC hb).1;have hl2:=congrArg List.length (f0 his);simp only[ao]at hl2;show wpAny _ _ (do standAt p;unpack (.ref x) (assignEach es env)) _ _ _;refine ab (wpAny_standAt ?_);refine wpAny_unpack_tuple hh hT (by rw[aU,←hv.length,←hl,←hl2,n3,n4]) n2 fun h' he=>?_;have hk:∀b o,s.heap.get? b=some o→h'.get? b=some o:=fun b o e=>he b o (bf (aZ e)) e;have hP':∀y∈xs,P y:=fun y hy=>hP y (by rw[hes];show y∈(jg es).getD [];rw[hxs];exact hy);exact zf sc P hst hxs hP' (f0 his) hb hv (hex ρ s h' hJ hk) hQ
end
set_option tactic.hygienic true
section
variable{cx:Cx}{RD:Nat}{scope:Scope}
theorem HR:sd cx RD scope [] []:=by
 intro fx m ext cells ρ W H s fl ρ' H' r Q Er G FF FL C hE hQ
 (refine QU hE ?_;clear hE;intro e;cases e)
 exact wpAny_execs_nil (hQ W s.heap s.toks m cells .next (.refl W) FL C trivial)
theorem Gd{a:Stmt}{l:List Stmt}{S:St}(ha:jA cx RD scope a S)(hl:sd cx RD scope l B):sd cx RD scope (a::l) (S::B):=by
 intro fx m ext cells ρ W H s fl ρ' H' r Q Er G FF FL C hE hQ
 (conv at hE=>lhs;whnf)
 refine wpAny_execs_cons ?_;refine OK hE ?_ ?_<;>clear hE
 ·intro ρ₁ H₁ h1 hE;refine ha fx m ext cells ρ W H s .next ρ₁ H₁ r _ Er G FF FL C h1 fun W₁ h₁ tk₁ m₁ cells₁ f l₁ FL₁ C₁ hf=>?_;induction f using Flow.casesOn<;>first|(exact hf.elim;done)|skip
  exact hl fx m₁ ext cells₁ ρ₁ W₁ H₁ (sH s h₁ tk₁) fl ρ' H' r Q Er G FF FL₁ C₁ hE fun W₂ h₂ tk₂ m₂ cells₂ f l₂ FL₂ C₂ hf=>hQ W₂ h₂ tk₂ m₂ cells₂ f (l₁.trans l₂) FL₂ C₂ hf
 ·intro hne hE;refine ha fx m ext cells ρ W H s fl ρ' H' r _ Er G FF FL C hE fun W₁ h₁ tk₁ m₁ cells₁ f l₁ FL₁ C₁ hf=>?_;induction fl with
  |next=>exact absurd hE (hne ρ' H')
  |ret v=>
   induction f using Flow.casesOn<;>first|(exact hf.elim;done)|skip
   exact hQ W₁ h₁ tk₁ m₁ cells₁ _ l₁ FL₁ C₁ hf
theorem G4(hsc:eV scope.names=true){E:Ev}(he:aN cx RD (bM scope) e E):jA cx RD scope (.Return (some e) pos) (aF E):=by
 intro fx m ext cells ρ W H s fl ρ' H' r Q Er G FF FL C hE hQ
 (conv at hE=>lhs;whnf)
 (refine Pn hE ?_;clear hE;intro v H₁ h1 hE)
 induction hE using QP;exact wpAny_Return_some (he fx m (ext++cells) ρ W H s v _ r _ Er G (cO G FF hsc) (FL.locOk G FF hsc) C h1 fun W' h' tk u l C' V=>hQ W' h' tk m cells (.ret u) l (FL.mono l) C' V)
theorem Jc:jA cx RD scope (.Return none pos) (aF (ai .none)):=by
 intro fx m ext cells ρ W H s fl ρ' H' r Q Er G FF FL C hE hQ;simp only[aF,ai,Option.some.injEq,Prod.mk.injEq]at hE;obtain⟨rfl,rfl,rfl⟩:=hE;exact wpAny_Return_none (hQ W s.heap s.toks m cells (.ret .none) (.refl W) FL C (show VR cx.K W .none .none from .none))
theorem EC(hsc:eV scope.names=true){E:Ev}(he:aN cx RD (bM scope) e E)(hs:∀env,swapsWith e none pos.line env=pure false):jA cx RD scope (.Expr e pos) (bt E):=by
 intro fx m ext cells ρ W H s fl ρ' H' r Q Er G FF FL C hE hQ
 (conv at hE=>lhs;whnf)
 (refine Pn hE ?_;clear hE;intro v H₁ h1 hE)
 induction hE using QP;refine wpAny_Expr_any (he fx m (ext++cells) ρ W H s v _ r _ Er G (cO G FF hsc) (FL.locOk G FF hsc) C h1 fun W' h' tk u l C' V=>hQ W' h' tk m cells .next l (FL.mono l) C' trivial) ?_ (hs _);unfold interactive;rw[G.hk];rfl
theorem J9(hsc:eV scope.names=true){a b:List Stmt}{T:Tv}{A:List St}(ht:iT cx RD (bM scope) t T)(ha:sd cx RD scope a A)(hb:sd cx RD scope b B):jA cx RD scope (.If t a b pos) (cn T A B):=by
 intro fx m ext cells ρ W H s fl ρ' H' r Q Er G FF FL C hE hQ
 (conv at hE=>lhs;whnf)
 refine Gu hE ?_ ?_<;>clear hE
 ·intro H₁ h1 hE;refine wpAny_If (ht fx m (ext++cells) ρ W H s _ _ r _ Er G (cO G FF hsc) (FL.locOk G FF hsc) C h1 fun W₁ h₁ tk₁ l₁ C₁=>?_);rw[ac rfl];exact ha fx m ext cells ρ W₁ H₁ (sH s h₁ tk₁) fl ρ' H' r Q Er G FF (FL.mono l₁) C₁ hE fun W₂ h₂ tk₂ m₂ cells₂ f l₂ FL₂ C₂ hf=>hQ W₂ h₂ tk₂ m₂ cells₂ f (l₁.trans l₂) FL₂ C₂ hf
 ·intro H₁ h1 hE;refine wpAny_If (ht fx m (ext++cells) ρ W H s _ _ r _ Er G (cO G FF hsc) (FL.locOk G FF hsc) C h1 fun W₁ h₁ tk₁ l₁ C₁=>?_);rw[af be];exact hb fx m ext cells ρ W₁ H₁ (sH s h₁ tk₁) fl ρ' H' r Q Er G FF (FL.mono l₁) C₁ hE fun W₂ h₂ tk₂ m₂ cells₂ f l₂ FL₂ C₂ hf=>hQ W₂ h₂ tk₂ m₂ cells₂ f (l₁.trans l₂) FL₂ C₂ hf
inductive PC(cx:Cx)(fx:Fx)(scope:Scope)(ext:List (Addr×Obj))(s:Shared)(T:Tv)(B:List St)(r:Nat)(R:Fl×bJ×Hp)(W:Wd)(k:Nat):Shared→Prop
 |mk (m:Str→Option Value) (cells:List (Addr×Obj)) (ρ:bJ) (W₁:Wd) (H:Hp) (h:Heap) (tk:Nat):W.le W₁→FLoc cx fx scope m cells ρ W₁→cx.CR fx m (ext++cells) W₁ H h→cE T B k ρ r H=some R→PC cx fx scope ext s T B r R W k (sH s h tk)
theorem C9(hsc:eV scope.names=true){b:List Stmt}{T:Tv}(ht:iT cx RD (bM scope) t T)(hb:sd cx RD scope b B):jA cx RD scope (.While t b [] pos) (gP T B):=by
 intro fx m ext cells ρ W H s fl ρ' H' r Q Er G FF FL C hE hQ
 (conv at hE=>lhs;whnf)
 refine wpAny_While (codeAny_whileLoop (I:=PC cx fx scope ext s T B r (fl,ρ',H') W) ?_ 2000 (.mk m cells ρ W H s.heap s.toks (.refl W) FL C hE));intro k s' zq;induction zq;rename_i m₁ cells₁ ρ₁ W₁ H₁ h₁ tk₁ l₁ FL₁ C₁ hgo;induction k with
 |zero=>exact Rk hgo
 |succ k=>
  (conv at hgo=>lhs;whnf)
  refine Gu hgo ?_ ?_<;>clear hgo
  ·intro H₂ h2 hgo;refine ht fx m₁ (ext++cells₁) ρ₁ W₁ H₁ (sH s h₁ tk₁) _ _ r _ _ G (cO G FF hsc) (FL₁.locOk G FF hsc) C₁ h2 fun W₂ h₂ tk₂ l₂ C₂=>?_;rw[ac rfl];refine OK hgo ?_ ?_<;>clear hgo
   ·intro ρ₃ H₃ h3 hgo;refine hb fx m₁ ext cells₁ ρ₁ W₂ H₂ (sH s h₂ tk₂) .next ρ₃ H₃ r _ _ G FF (FL₁.mono l₂) C₂ h3 fun W₃ h₃ tk₃ m₃ cells₃ f l₃ FL₃ C₃ hf=>?_;induction f using Flow.casesOn<;>first|(exact hf.elim;done)|skip
    exact⟨k,Nat.lt_succ_self _,.mk m₃ cells₃ ρ₃ W₃ H₃ h₃ tk₃ (l₁.trans (l₂.trans l₃)) FL₃ C₃ hgo⟩
   ·intro hne hgo;refine hb fx m₁ ext cells₁ ρ₁ W₂ H₂ (sH s h₂ tk₂) fl ρ' H' r _ _ G FF (FL₁.mono l₂) C₂ hgo fun W₃ h₃ tk₃ m₃ cells₃ f l₃ FL₃ C₃ hf=>?_;induction fl with
    |next=>exact absurd hgo (hne ρ' H')
    |ret v=>
     induction f using Flow.casesOn<;>first|(exact hf.elim;done)|skip
     exact hQ W₃ h₃ tk₃ m₃ cells₃ _ (l₁.trans (l₂.trans l₃)) FL₃ C₃ hf
  ·intro H₂ h2 hgo;induction hgo using QP;refine ht fx m₁ (ext++cells₁) _ W₁ H₁ (sH s h₁ tk₁) _ _ r _ _ G (cO G FF hsc) (FL₁.locOk G FF hsc) C₁ h2 fun W₂ h₂ tk₂ l₂ C₂=>?_;rw[af be];exact wpAny_execs_nil (hQ W₂ h₂ tk₂ m₁ cells₁ .next (l₁.trans l₂) (FL₁.mono l₂) C₂ trivial)
def DY(M:Model)(A:Around)(R:Result→Shared→Prop)(target:Expr)(body:List Stmt)(env:Env)(I:Nat→Shared→Prop)(n:Nat)(Er:Value→Shared→Prop):Option Value→Shared→Prop
 |none,s=>R (.ok .next) s
 |some u,s=>wpAny M A (assign target env u) (fun _ s₂=>wpAny M A (execs body env) (fun f s₃=>match f with
   |.next | .cont=>∃m,m<n∧I m s₃
   |.brk=>R (.ok .next) s₃
   |.ret v=>R (.ok (.ret v)) s₃) Er s₂) Er s
theorem qL{R:Result→Shared→Prop}{target:Expr}(I:Nat→Shared→Prop) (turn:∀n s (Er:Value→Shared→Prop),I n s→wpAny (model prog w) A (pyNext (.ref a)) (fun r s₁=>match r with|none=>DY (model prog w) A R target body env I n Er none s₁|some u=>wpAny (model prog w) A (letOwnedTupleGo target (.ref a) u) (fun _ s₂=>DY (model prog w) A R target body env I n Er (some u) s₂) Er s₁) Er s)
  (n:Nat) (h:I n s):codeAny (model prog w) A (.forLoop target (.ref a) body [] env) R s:=by
 refine codeAny_forLoop_any I (fun n s hI=>?_) n h;refine bj (turn n s _ hI) (fun r s₁ h₁=>?_) fun _ _ x=>x;induction r with
 |none=>exact wpAny_execs_nil h₁
 |some u=>exact h₁
inductive PH(cx:Cx)(fx:Fx)(scope:Scope)(ext:List (Addr×Obj))(s:Shared)(t:Expr)(tn:Tn)(it:It)(a:Addr)(B:List St)(r:Nat)(R:Fl×bJ×Hp)(W:Wd)(k:Nat):Shared→Prop
 |mk (m:Str→Option Value) (cells:List (Addr×Obj)) (ρ:bJ) (W₁:Wd) (H:Hp) (h:Heap) (tk:Nat) (its:List (Addr×Obj)) (j:Nat):W.le W₁→FLoc cx fx scope m cells ρ W₁→ItR cx W₁ t it j a its→cx.CR fx m (its++(ext++cells)) W₁ H h→di tn it B k j ρ r H=some R→PH cx fx scope ext s t tn it a B r R W k (sH s h tk)
inductive PJ(cx:Cx)(fx:Fx)(scope:Scope)(ext:List (Addr×Obj))(s:Shared)(W:Wd)(H:Hp)(ρ:bJ):Shared→Prop
 |mk (m:Str→Option Value) (cells:List (Addr×Obj)) (h:Heap) (tk:Nat):FLoc cx fx scope m cells ρ W→cx.CR fx m (ext++cells) W H h→PJ cx fx scope ext s W H ρ (sH s h tk)
theorem HW(hsc:eV scope.names=true){i:Expr}{b:List Stmt}{I:Iv}(hi:qu cx RD (bM scope) t i I)(ht:ik (bM scope) t=some tn)(hb:sd cx RD scope b B)(hs:∀env x,foldedSetIterable i env x=pure x):jA cx RD scope (.For t i b [] pos) (bG I tn B):=by
 intro fx m ext cells ρ W H s fl ρ' H' r Q Er G FF FL C hE hQ
 (conv at hE=>lhs;whnf)
 (refine QZ hE ?_;clear hE;intro it H₁ h1 hE)
 refine wpAny_For (hi fx m (ext++cells) ρ W H s it H₁ r _ Er G (cO G FF hsc) (FL.locOk G FF hsc) C h1 fun W₁ h₁ tk₁ a its l₁ I₁ C₁=>?_) (hs _);refine qL (PH cx fx scope ext s t tn it a B r (fl,ρ',H') W) ?_ 2000 (.mk m cells ρ W₁ H₁ h₁ tk₁ its 0 l₁ (FL.mono l₁) I₁ C₁ hE);intro k s' Er' zq;induction zq;rename_i m₂ cells₂ ρ₂ W₂ H₂ h₂ tk₂ its₂ j l₂ FL₂ I₂ C₂ hgo;induction k with
 |zero=>exact Rk hgo
 |succ k=>
  (conv at hgo=>lhs;whnf)
  refine Pv hgo ?_ ?_<;>clear hgo
  ·intro hitem hgo;induction hgo using QP;refine kr (s:=(sH s h₂ tk₂)) G I₂ C₂ hitem (fun _ h' tk C'=>?_) (fun v hv=>by exact Rk hv);exact hQ W₂ h' tk m₂ cells₂ .next l₂ FL₂ C' trivial
  ·intro v hitem hgo
   (refine Ri hgo ?_;clear hgo;intro ρ₃ hbind hgo)
   refine kr (s:=(sH s h₂ tk₂)) G I₂ C₂ hitem (fun hv=>by exact QL hv) (fun v' hv W₃ h₃ tk₃ its₃ u l₃ I₃ C₃ V₃=>?_);induction hv using QT;show wpAny _ _ (assign t fx.env u) _ _ _;rw[←bH]at C₃;refine g8 (cx:=cx) (W:=W₃) (J:=PJ cx fx scope (its₃++ext) s W₃ H₂) G.hh (bM scope) (fun _=>True) ?_ ?_ ?_ (fun _ _=>trivial) ht hbind V₃ (.mk m₂ cells₂ h₃ tk₃ (FL₂.mono l₃) C₃) ?_
   ·intro l u ρ s' zq;induction zq;rename_i m' cells' h' tk' FL' C';intro V;exact CR.tuple (s:=(sH s h' tk')) C' G.X V
   ·intro ρ s' h'' zq;induction zq;rename_i m' cells' h' tk' FL' C';intro hk;exact .mk m' cells' h'' tk' FL' (CR.ext C' hk)
   ·intro x i v u ρ s' Q' _ hx zq;induction zq;rename_i m' cells' h' tk' FL' C';intro V hQ';exact bind_fn (s:=(sH s h' tk')) G FF FL' C' hx V fun h'' tk'' m'' cells'' FL'' C''=>hQ' _ (.mk m'' cells'' h'' tk'' FL'' C'')
   ·intro s' zq;induction zq;rename_i m' cells' h' tk' FL' C';refine OK hgo ?_ ?_<;>clear hgo
    ·intro ρ₄ H₄ h4 hgo;refine hb fx m' (its₃++ext) cells' ρ₃ W₃ H₂ (sH s h' tk') .next ρ₄ H₄ r _ _ G FF FL' C' h4 fun W₄ h₄ tk₄ m₄ cells₄ f l₄ FL₄ C₄ hf=>?_;induction f using Flow.casesOn<;>first|(exact hf.elim;done)|skip
     rw[bH]at C₄;exact⟨k,Nat.lt_succ_self _,.mk m₄ cells₄ ρ₄ W₄ H₄ h₄ tk₄ its₃ (j+1) (l₂.trans (l₃.trans l₄)) FL₄ (I₃.mono l₄) C₄ hgo⟩
    ·intro hne hgo;refine hb fx m' (its₃++ext) cells' ρ₃ W₃ H₂ (sH s h' tk') fl ρ' H' r _ _ G FF FL' C' hgo fun W₄ h₄ tk₄ m₄ cells₄ f l₄ FL₄ C₄ hf=>?_;induction fl with
     |next=>exact absurd hgo (hne ρ' H')
     |ret v=>
      induction f using Flow.casesOn<;>first|(exact hf.elim;done)|skip
      rw[bH]at C₄;exact hQ W₄ h₄ tk₄ m₄ cells₄ _ (l₂.trans (l₃.trans l₄)) FL₄ (C₄.subAux (List.sublist_append_right _ _)) hf
end
section
variable{prog:Program}{w:World}{A:Around}{E:Value→Shared→Prop}{R:Result→Shared→Prop}{s:Shared}{K:Frag}{x C:Addr}
theorem Il{ox od od':Obj}{dx:Addr}{name:Str}{tk:Tok}{v:Value}{es:List DictEntry}(X:K.In s.heap) (I:InstAt s.heap x ox C (some od)) (hd:ox.dict=some dx) (D:s.heap.get? dx=some od) (hp:plainOver K C=true) (ht:takerIn K C name=some none) (hh:(clsIn K C).any (·.hasDict)=true) (hl:(lookIn name od).isSome=true) (e:Obj.putName name (PyData.keyHash w.params name) (.str name s.toks) v od=od') (e':od'.data=.dict es.toArray n) (hz:es.length≤1000) (h:∀h',h'.get? dx=some od'→Heap.SameBut dx s.heap h'→R (.ok (.ret .none)) (sH s h' (s.toks+1))) :codeAny (model prog w) A (.call (.builtin "object.__setattr__") ⟨[.ref x,.str name tk,v],[]⟩) R s:=by
 refine osa_open X I hp ht fun b=>?_;obtain⟨cd,hc,hd'⟩:=any_some hh;have D':(s.heap.update dx (Obj.putName name (PyData.keyHash w.params name) (.str name s.toks) v)).get? dx=some od':=e▸Heap.get?_update_self _ D (by rw[e];obtain⟨_,_,dd,_⟩:=od';subst e';rfl);obtain⟨hx,hcl,hn, -⟩:=I;obtain⟨oc,odi,oda,osl⟩:=ox;dsimp only at hcl hd;subst hcl hd;refine ab (ah (ab (ab (wpAny_loadPart hx (ab ((looks_clsIn X hc).here ?_))))));rw[hd'];refine ah (a:=some dx) (ab (ah (ab ?_)));unfold nsSet;refine ab (ab (wpAny_askSetting (ah (ab (wpAny_mkText (ab (wpAny_loadPart D ?_)))))));unfold lookIn at hl
 (split at hl;rotate_left;(first|exact Rk hl|cases hl);rename_i es₀ n₀ q)
 rw[q];dsimp only;have c:(!es₀.any (·.key.isStr name)&&es₀.any (·.refKey))=false:=by
  rw[←Array.any_toList,←Array.any_toList];induction he:es₀.toList.find? (fun e=>e.key.isStr name)with
  |some en=>rw[List.any_eq_true.mpr ⟨en,List.mem_of_find?_eq_some he,List.find?_some he⟩];rfl
  |none=>
   rw[he]at hl;by_cases z:es₀.toList.any (·.refKey)=true
   ·rw[ac z]at hl;exact CS hl
   ·rw[Bool.not_eq_true]at z;rw[z,Bool.and_false]
 rw[aRefKeyMayBeTheName_at,c];refine wpAny_updatePart D ?_;refine ab (wpAny_lookBehind D' (by rw[e'];exact pastItsLine_dict (by rw[aU,sizeLine_eq];exact aO ‹_› (by decide))) ?_);exact ah (h _ D' (Heap.SameBut.update ..))
theorem ww{l:Addr}{k:Int}{t:Tok}{v:Value}{Q:Unit→Shared→Prop}(hl:IsL s.heap l items n) (h0:0≤k) (hfit:k<2 ^ 63) (hn:k<items.size) (hQ:∀h' n',IsL h' l (items.setIfInBounds k.toNat v) n'→Heap.SameBut l s.heap h'→Q () {s with heap:=h'}) :wpAny (model prog w) A (setItem (.ref l) (.int k t) v) Q E s:=by
 have hT:s.TypeIs (.ref l) "list":=⟨_,hl,rfl⟩;unfold setItem;try with_reducible refine bz ?_
 first|refine ab (ah ?_)|skip
 refine ab (wpAny_sequenceKey hT (by decide) ?_);refine ab (wpAny_callSpecial?_slot (name:=Str.ofString "__setitem__") hT slot_list_setitem
  (wpAny_call_entry slot_list_setitem hT entry_list_setitem ?_ (args_list_setitem _ _ _)))
 show wpAny _ _ (Builtin.List.listSubscript? (.int k t)>>=_) _ _ s;refine ab (wpAny_listSubscript_int (fitsIndex_of h0 hfit) ?_);clear hfit;obtain⟨j,rfl⟩:=Int.eq_ofNat_of_zero_le h0;have hj:j<items.size:=by exact Int.ofNat_lt.mp ‹_›
 have hx':items[j]?=some items[j]:=Array.getElem?_eq_getElem hj;show wpAny _ _ ((seqItemAt l j>>=fun r=>pure (r.map (j,·)))>>=_) _ _ s;refine ab (ab (wpAny_seqItemAt hl rfl (ah ?_)));rw[hx'];show wpAny _ _ (setSeqItemAt l j v>>=_) _ _ s;have hfin:IsL (s.heap.update l (Obj.mapSeq (·.setIfInBounds j v))) l (items.setIfInBounds j v) (if(items.setIfInBounds j v).size==items.size then n else n+1):=Heap.get?_update_self _ hl rfl;refine ab (wpAny_setSeqItemAt hl rfl ?_);first
  |exact ab (ah (ah ⟨.none,rfl,ah (hQ _ _ hfin (Heap.SameBut.update ..))⟩))
  |exact ah ⟨.none,rfl,ah (hQ _ _ hfin (Heap.SameBut.update ..))⟩
theorem vK{l b sl:Addr}{news:Array Value}{nb:Nat}{vl vu:Value}{lo hi:Option Int}{Q:Unit→Shared→Prop}(hl:IsL s.heap l items n)(hb:IsL s.heap b news nb)(hlb:l≠b) (hs:s.heap.IsSliceOf sl vl vu .none) (pl:IsPart vl lo) (pu:IsPart vu hi) (hsz:items.size+news.size≤sizeLine) (hsz2:((items.extract 0 (sliceBounds lo hi none items.size).1.toNat++news++items.extract (max (sliceBounds lo hi none items.size).1 (sliceBounds lo hi none items.size).2.1).toNat items.size)).size≤sizeLine) (hQ:∀h' n',IsL h' l (items.extract 0 (sliceBounds lo hi none items.size).1.toNat++news++items.extract (max (sliceBounds lo hi none items.size).1 (sliceBounds lo hi none items.size).2.1).toNat items.size) n'→Heap.SameBut l s.heap h'→Q () {s with heap:=h'}) :wpAny (model prog w) A (setItem (.ref l) (.ref sl) (.ref b)) Q E s:=by
 have hT:s.TypeIs (.ref l) "list":=⟨_,hl,rfl⟩;have hTb:s.TypeIs (.ref b) "list":=⟨_,hb,rfl⟩;obtain⟨os,hos,hcs,hds⟩:=id hs;have hTs:s.TypeIs (.ref sl) "slice":=⟨os,hos,hcs⟩;unfold setItem;try with_reducible refine bz ?_
 first|refine ab (ah ?_)|skip
 refine ab (wpAny_sequenceKey hT (by decide) ?_);refine ab (wpAny_callSpecial?_slot (name:=Str.ofString "__setitem__") hT slot_list_setitem
  (wpAny_call_entry slot_list_setitem hT entry_list_setitem ?_ (args_list_setitem _ _ _)))
 show wpAny _ _ (Builtin.List.listSubscript? (.ref sl)>>=_) _ _ s;refine ab ?_;unfold Builtin.List.listSubscript?;refine ab (wpAny_specialOf hTs slice_no_index ?_);rw[ac rfl];refine ah ?_;show wpAny _ _ (typeOf (.ref sl)>>=_) _ _ s;refine ab (wpAny_typeOf hTs ?_);rw[af (by decide)];rw[listSliceParts_eq];refine ab (ab (wpAny_field hos hds (x:=.none) rfl (ab (wpAny_listPart .none ?_))));rw[af (show¬((rawPart none==rawInt 0)=true)from be)];refine ab (wpAny_field hos hds (x:=vl) rfl (ab (wpAny_listPart pl ?_)));refine ab (wpAny_field hos hds (x:=vu) rfl (ab (wpAny_listPart pu (ah ?_))));have hsame:Builtin.List.listSameRef (.ref l) (.ref b)=false:=by
  show(l==b)=false;exact beq_eq_false_iff_ne.mpr hlb
 dsimp only;rw[hsame,af be];refine ab (m:=Builtin.List.listAllItems (.ref b) "must assign iterable to extended slice") ?_;unfold Builtin.List.listAllItems;refine ab (wpAny_typeOf hTb ?_);rw[ac (by decide)];refine ab (wpAny_seqItems hb rfl (ah ?_));refine ab (listItems_at hl rfl ?_);refine ab (wpAny_of_eq (sliceIndices_raw lo hi none items.size (by simp)) ?_);have hst:(sliceBounds lo hi none items.size).2.2=1:=rfl;generalize hsb:sliceBounds lo hi none items.size=sb at *;obtain⟨st,sp,stp⟩:=sb;dsimp only at hst;subst hst;dsimp only;rw[ac (by decide)];refine ab (wpAny_rule ?_);have htl:Builtin.List.listTooLong (items.size+news.size)=false:=by unfold Builtin.List.listTooLong;exact decide_eq_false (Nat.not_lt.mpr ‹_›)
 rw[htl];rw[af be];refine ab (listUpdate_at hl rfl ?_ (by omega) (by dsimp only at hsz2⊢;exact aO ‹_› (by decide)));refine ab (wpAny_letGo ?_);have hfin:∃n',IsL (s.heap.update l (Obj.mapSeq fun xs=>xs.extract 0 st.toNat++news++xs.extract (max st sp).toNat xs.size)) l (items.extract 0 st.toNat++news++items.extract (max st sp).toNat items.size) n':=⟨_,Heap.get?_update_self _ hl rfl⟩;obtain⟨n',hfin⟩:=hfin;first
  |exact ab (ah (ah ⟨.none,rfl,ah (hQ _ _ hfin (Heap.SameBut.update ..))⟩))
  |exact ah ⟨.none,rfl,ah (hQ _ _ hfin (Heap.SameBut.update ..))⟩
  |exact ab (ah ⟨.none,rfl,ah (hQ _ _ hfin (Heap.SameBut.update ..))⟩)
end
section
variable{cx:Cx}{RD:Nat}{sc:Sc}{fx:Fx}{m:Str→Option Value}{RC its ext cells:List (Addr×Obj)}{W:Wd}{H H':Hp}{s:Shared}{r:Nat}{scope:Scope}{ρ ρ':bJ}
theorem mO(KH:DL cx)(G:Good cx fx RD)(C₀:cx.CR fx m RC W H s.heap){o:V}{uv:Value}{f:Nat}{n:Str}(V1:VR cx.K W o u)(V2:VR cx.K W v uv)(hn:cx.names[f]?=some n)(h:fC cx.okf o f v H=some H'){Q:Unit→Shared→Prop} (hQ:∀(h':Heap) (tk:Nat),cx.CR fx m RC W H' h'→Q () (sH s h' tk)):wpAny cx.mo fx.A (setAttr u n uv) Q Er s:=by
 (conv at h=>lhs;whnf)
 replace h:=PQ h;obtain⟨r1,i1,rfl,h⟩:=h
 (refine QY h ?_;clear h;intro C l hg h)
 (refine PV h ?_;clear h;intro hc h)
 obtain⟨hok,hlen⟩:=M6.mp hc;have hlen:=of_decide_eq_true hlen;induction h using QT;obtain⟨x,d,es,k,rfl,hat,hx,hd,he,hlen',hok',I⟩:=C₀.inst V1 hg;obtain⟨n',hn',hfo⟩:=KH.fld C f hok;rw[hn]at hn';induction hn' using QT;simp only[ol,aY,iu]at hfo;obtain⟨⟨⟨⟨f1,f2⟩,f3⟩,f4⟩,f5⟩:=hfo;have X:=G.X.keeps C₀.fr.keep;have htk:takerIn cx.K C n=some none:=by unfold takerIn;rw[f3];rfl
 have hget:=oE KH.nam hn he;have hl:(getL n es).isSome=true:=by
  revert hget
  induction Ae l f with
  |none=>intro e;dsimp only at e;rw[e];rfl
  |some v=>intro zq;obtain⟨u,e,_⟩:=zq;rw[e];rfl
 clear hget;have hes:=oY he;have hput:=zZ KH.nam hn V2 (PyData.keyHash cx.w.params n) (s.toks+1) he;have hpl:=oY hput;have hfl:=Br f v l;refine set_plain X I f4 ?_;refine Il (s:={s with toks:=s.toks+1}) (od':=dictOf (putL n (PyData.keyHash cx.w.params n) (.str n (s.toks+1)) uv es) (putN n es k)) X I rfl hd f5 htk f2 hl (putName_dict ..) rfl (by omega) fun h' hd' hs'=>?_;exact hQ h' _ (CR.put C₀ hg hat (.inr rfl) hs' ⟨by omega,Ia hok hok',d,_,_,rfl,(hs'.2 x (fun e=>by
  rw[e,hd]at hx;have:=congrArg (fun o:Option Obj=>o.map Obj.cls) hx;simp at this)).trans hx,hd',hput⟩)
theorem ru{o:Expr}{n:Str}{v:Value}{Q:Unit→Shared→Prop}(h:wpAny M A (eval o env) (fun ov s₁=>wpAny M A (setAttr ov n v) Q E s₁) E s):wpAny M A (assign (.Attribute o n pos) env v) Q E s:=by
 rw[assign_Attribute];exact ab (bz (bj h (fun ov s₁ h₁=>ab (wpAny_standAt (ab (bz (bj h₁ (fun _ s₂ h₂=>wpAny_release h₂) fun _ _ x=>x))))) fun _ _ x=>x))
theorem t0{o i:Expr}{v:Value}{Q:Unit→Shared→Prop}(h:wpAny M A (eval o env) (fun ov s₁=>wpAny M A (eval i env) (fun iv s₂=>wpAny M A (setItem ov iv v) Q E s₂) E s₁) E s):wpAny M A (assign (.Subscript o i pos) env v) Q E s:=by
 rw[assign_Subscript];exact ab (bz (bj h (fun ov s₁ h₁=>ab (bz (bj h₁ (fun iv s₂ h₂=>ab (wpAny_standAt (ab (bz (bj h₂ (fun _ s₃ h₃=>wpAny_release h₃) fun _ _ x=>x))))) fun _ _ x=>x))) fun _ _ x=>x))
end
def yK(cx:Cx)(RD:Nat)(scope:Scope)(t:Expr)(T:Tg):Prop:=∀(fx:Fx) (m:Str→Option Value) (ext cells:List (Addr×Obj)) (ρ:bJ) (W:Wd) (H:Hp) (s:Shared) (v:V) (u:Value) (ρ':bJ) (H':Hp) (r:Nat) (Q:Unit→Shared→Prop) (Er:Value→Shared→Prop),Good cx fx RD→hG fx scope→FLoc cx fx scope m cells ρ W→cx.CR fx m (ext++cells) W H s.heap→VR cx.K W v u→rO cx.okf T v ρ r H=some (ρ',H')→ (∀(W':Wd) (h':Heap) (tk:Nat) (m':Str→Option Value) (cells':List (Addr×Obj)),W.le W'→FLoc cx fx scope m' cells' ρ' W'→cx.CR fx m' (ext++cells') W' H' h'→Q () (sH s h' tk))→ wpAny cx.mo fx.A (assign t fx.env u) Q Er s
section
theorem A7(ht:ik (bM scope) t=some tn):yK cx RD scope t (.nm tn):=by
 intro fx m ext cells ρ W H s v u ρ' H' r Q Er G FF FL C V hS hQ
 (conv at hS=>lhs;whnf)
 (refine Ri hS ?_;clear hS;intro ρ₁ hb hS)
 induction hS using QM;refine g8 (cx:=cx) (W:=W) (J:=fun ρ' s'=>∃(m':Str→Option Value) (cells':List (Addr×Obj)) (h':Heap) (tk':Nat),s'=(sH s h' tk')∧FLoc cx fx scope m' cells' ρ' W∧cx.CR fx m' (ext++cells') W H h') G.hh (bM scope) (fun _=>True) ?_ ?_ ?_ (fun _ _=>trivial) ht hb V
  ⟨m,cells,s.heap,s.toks,rfl,FL,C⟩ ?_
 ·intro l u ρ s' zq;obtain⟨m',cells',h',tk',rfl,FL',C'⟩:=zq;intro V;exact CR.tuple (s:=(sH s h' tk')) C' G.X V
 ·intro ρ s' h'' zq;obtain⟨m',cells',h',tk',rfl,FL',C'⟩:=zq;intro hk;exact⟨m',cells',h'',tk',rfl,FL',CR.ext C' hk⟩
 ·intro x i v u ρ s' Q' _ hx zq;obtain⟨m',cells',h',tk',rfl,FL',C'⟩:=zq;intro V hQ';exact bind_fn (s:=(sH s h' tk')) G FF FL' C' hx V fun h'' tk'' m'' cells'' FL'' C''=>hQ' _ ⟨m'',cells'',h'',tk'',rfl,FL'',C''⟩
 ·intro s' zq;obtain⟨m',cells',h',tk',rfl,FL',C'⟩:=zq;exact hQ W h' tk' m' cells' (.refl W) FL' C'
theorem HU(KH:DL cx)(hsc:eV scope.names=true){o:Expr}{n:Str}{f:Nat}{E:Ev}(ho:aN cx RD (bM scope) o E)(hn:cx.names[f]?=some n):yK cx RD scope (.Attribute o n pos) (.at E f):=by
 intro fx m ext cells ρ W H s v u ρ' H' r Q Er G FF FL C V hS hQ
 (conv at hS=>lhs;whnf)
 (refine Pn hS ?_;clear hS;intro x H₁ h1 hS)
 (refine Rq hS ?_;clear hS;intro H₂ h2 hS)
 induction hS using QM;refine ru (ho fx m (ext++cells) ρ W H s x H₁ r _ Er G (cO G FF hsc) (FL.locOk G FF hsc) C h1 fun W₁ h₁ tk₁ u₁ l₁ C₁ V₁=>?_);exact mO (s:=(sH s h₁ tk₁)) KH G C₁ V₁ (V.mono l₁) hn h2 fun h' tk C'=>hQ W₁ h' tk m cells l₁ (FL.mono l₁) C'
theorem Hh(KH:DL cx)(hsc:eV scope.names=true){ext:List (Addr×Obj)}(G:Good cx fx RD)(FF:hG fx scope):∀{es:List Expr} {l:List (Ev×Nat)} {W:Wd} {H H':Hp} {s:Shared} {vs:List V} {us:List Value} {Q:Unit→Shared→Prop},(∀(i:Nat) (e:Expr) (p:Ev×Nat),es[i]?=some e→l[i]?=some p→∃o n pos,e=.Attribute o n pos∧aN cx RD (bM scope) o p.1∧cx.names[p.2]?=some n)→es.length=l.length→FLoc cx fx scope m cells ρ W→cx.CR fx m (ext++cells) W H s.heap→VRs cx.K W vs us→i7 cx.okf l vs ρ r H=some H'→(∀(W':Wd) (h':Heap) (tk:Nat),W.le W'→cx.CR fx m (ext++cells) W' H' h'→Q () (sH s h' tk))→wpAny cx.mo fx.A (assignInOrder ((assignEach es fx.env).map (·.2)) us) Q Er s:=by
 intro zz;induction zz with
 |nil=>
  intro l W H H' s vs us Q h1 h2 FL C V hS hQ;induction l using jL with
  |cons=>simp at h2
  |nil=>
   induction vs using jL with
   |cons=>exact Rk hS
   |nil=>
    obtain rfl:=av hS;induction V using QF;exact ah (hQ W s.heap s.toks (.refl W) C)
 |cons e es ih=>
  intro l W H H' s vs us Q h1 h2 FL C V hS hQ;cases l with
  |nil=>simp at h2
  |cons p l=>
   cases vs with
   |nil=>exact Rk hS
   |cons v vs=>
    induction V using QN;rename_i u us a b;obtain⟨o,n,pos,rfl,ho,hn⟩:=h1 0 e p rfl rfl;obtain⟨E,f⟩:=p;change(match E ρ r H with|some (x,H)=>(match fC cx.okf x f v H with|some H=>i7 cx.okf l vs ρ r H | .none=>.none) | .none=>.none)=some H' at hS
    (refine Pn hS ?_;clear hS;intro x H₁ q1 hS)
    (refine Rq hS ?_;clear hS;intro H₂ q2 hS)
    show wpAny _ _ (do holding us (assign (.Attribute o n pos) fx.env u);assignInOrder ((assignEach es fx.env).map (·.2)) us) _ _ _;refine ab (bz (ru (ho fx m (ext++cells) ρ W H s x H₁ r _ Er G (cO G FF hsc) (FL.locOk G FF hsc) C q1 fun W₁ h₁ tk₁ u₁ l₁ C₁ V₁=>?_)));refine mO (s:=(sH s h₁ tk₁)) KH G C₁ V₁ (a.mono l₁) hn q2 fun h' tk C'=>?_;exact ih (s:=(sH s h' tk)) (fun i e p he hp=>h1 (i+1) e p he hp) (by simpa using h2) (FL.mono l₁) C' (b.mono l₁) hS fun W' h'' tk' l' C''=>hQ W' h'' tk' (l₁.trans l') C''
theorem xr{env:Env}:∀{es:List Expr} {l:List (Ev×Nat)},es.length=l.length→(∀(i:Nat) (e:Expr) (p:Ev×Nat),es[i]?=some e→l[i]?=some p→∃o n pos,e=.Attribute o n pos)→(assignEach es env).findIdx? (·.1)=none∧(assignEach es env).length=es.length
 |[],l,_,_=>⟨rfl,rfl⟩
 |e::es,[],h,_=>by simp at h
 |e::es,p::l,h,h1=>by
  obtain⟨o,n,pos,rfl⟩:=h1 0 e p rfl rfl;obtain⟨a,b⟩:=xr (env:=env) (es:=es) (l:=l) (by simpa using h) fun i e p he hp=>h1 (i+1) e p he hp;refine⟨?_,by show(assignEach es env).length+1=_;rw[b];rfl⟩;show List.findIdx? _ ((false,assign (.Attribute o n pos) env)::assignEach es env)=none;rw[List.findIdx?_cons,a];rfl
theorem Gb(KH:DL cx)(hsc:eV scope.names=true){l:List (Ev×Nat)}(hl:es.length=l.length)(h1:∀(i:Nat) (e:Expr) (p:Ev×Nat),es[i]?=some e→l[i]?=some p→∃o n pos,e=.Attribute o n pos∧aN cx RD (bM scope) o p.1∧cx.names[p.2]?=some n):yK cx RD scope (.Tuple es k pos) (.ats l):=by
 intro fx m ext cells ρ W H s v u ρ' H' r Q Er G FF FL C V hS hQ
 (conv at hS=>lhs;whnf)
 obtain⟨vs,rfl,hS⟩:=Mf hS
 (refine PV hS ?_;clear hS;intro hlen hS)
 (refine Rq hS ?_;clear hS;intro H₂ h2 hS)
 induction hS using QM;obtain⟨x,us,rfl,hT,hv⟩:=C.tuple G.X V;obtain⟨a1,a2⟩:=xr (env:=fx.env) hl fun i e p he hp=>by obtain⟨o,n,pos,e,_⟩:=h1 i e p he hp;exact⟨o,n,pos,e⟩
 show wpAny _ _ (do standAt pos;unpack (.ref x) (assignEach es fx.env)) _ _ _;refine ab (wpAny_standAt ?_);refine wpAny_unpack_tuple G.hh hT (by rw[a2,aU,←hv.length,hl,hlen]) a1 fun h' he=>?_;have hk:∀b o,s.heap.get? b=some o→h'.get? b=some o:=fun b o e=>he b o (bf (aZ e)) e;exact Hh KH hsc G FF (s:={s with heap:=h'}) h1 hl FL (CR.ext C hk) hv h2 fun W' h'' tk l' C'=>hQ W' h'' tk m cells l' (FL.mono l') C'
def M5(x y v:V)(ρ:bJ)(H:Hp):Option (bJ×Hp):=match x with
    |.ref r a=>(match H.get r a with
     |some (.list l)=>(match y with | .int k=>if 0≤k∧k<l.length then some (ρ,H.put r a (.list (l.set k.toNat v)))else .none|_=>.none)
     |some (.dict l)=>if cg y&&aW y l&&decide (l.length<900)then some (ρ,H.put r a (.dict (gM l y v)))else .none
     |_=>.none)
    |_=>.none
theorem zr(G:Good cx fx RD)(C:cx.CR fx m RC W H s.heap){x:V}{ux uy uv:Value}(V1:VR cx.K W x ux)(V2:VR cx.K W y uy)(V3:VR cx.K W v uv) (h:M5 x y v ρ H=some (ρ',H')) {Q:Unit→Shared→Prop} (hQ:ρ'=ρ→∀(h':Heap) (tk:Nat),cx.CR fx m RC W H' h'→Q () (sH s h' tk)):wpAny cx.mo fx.A (setItem ux uy uv) Q Er s:=by
 (conv at h=>lhs;whnf)
 induction x using cW with
 |ref r1 i1=>
  refine NF h ?_ ?_<;>clear h<;>intro l hg h
  ·induction y using cW with
   |int k=>
    dsimp only at h
    (refine PV h ?_;clear h;intro hk h)
    induction h using QM;obtain⟨a,vs,n,rfl,hat,hl,hv,hlen⟩:=C.list V1 hg;induction V2 using Rs;have hsz:vs.toArray.size=l.length:=by rw[aU,hv.length]
    have p63:(2:Int) ^ 63=9223372036854775808:=by decide
    refine ww hl hk.1 (by omega) (by rw[hsz];exact hk.2) fun h' n' hl' hs=>?_;have e:vs.toArray.setIfInBounds k.toNat uv=(vs.set k.toNat uv).toArray:=by simp
    rw[e]at hl';exact hQ rfl h' _ (CR.put_list C hg hat hs hl' (hv.set _ V3) (by rw[List.length_set];exact hlen))
   |_=>exact Rk h
  ·(refine PV h ?_;clear h;intro hc h)
   induction h using QM;simp only[aY,bp]at hc;obtain⟨⟨c1,c2⟩,c3⟩:=hc;obtain⟨a,rfl,hat,hlen,hD⟩:=C.dict V1 hg;have hdl:=AZ y v l;have D:=hD y c1 c2;cases D with
   |int i kvs d1 d2 d3=>
    induction V2 using Rs;have nd:(kvs.map (·.1)).Nodup:=by obtain⟨_,_,_,_,_,_,_,_,nd⟩:=id d1;exact nd
    obtain⟨p1,p2⟩:=eX (enc:=V.int) ia V3 d2 nd d3 (k:=i);have hkl:kvs.length=l.length:=by have:=congrArg List.length d2;simpa using this.symm
    exact wpAny_setItem_pairs (hsz:=ba (by omega)) (ry _ _ _ _) d1 fun h' hd' hs=>hQ rfl h' _ (CR.put C hg hat (.inl rfl) hs ⟨rfl,by exact aO (aO ‹_› ‹_›) (by decide),.inl ⟨_,hd',p1,p2⟩⟩)
   |str i kvs d1 d2 d3=>
    induction V2 using RB;have nd:(kvs.map (·.1)).Nodup:=by obtain⟨_,_,_,_,_,_,_,_,nd⟩:=id d1;exact nd
    obtain⟨p1,p2⟩:=eX (enc:=fun x:Str=>V.str x.cps.toList) jz V3 d2 nd d3 (k:=⟨i.toArray⟩);have hkl:kvs.length=l.length:=by have:=congrArg List.length d2;simpa using this.symm
    have e:(⟨i.toArray⟩:Str).cps.toList=i:=by simp
    rw[e]at p1 p2;exact wpAny_setItem_pairs (hsz:=ba (by omega)) (rj _ _ _ _) d1 fun h' hd' hs=>hQ rfl h' _ (CR.put C hg hat (.inl rfl) hs ⟨rfl,by exact aO (aO ‹_› ‹_›) (by decide),.inr ⟨_,hd',p1,p2⟩⟩)
 |_=>exact Rk h
theorem GT(hsc:eV scope.names=true){o i:Expr}{Ei:Ev}(ho:aN cx RD (bM scope) o Eo)(hi:aN cx RD (bM scope) i Ei):yK cx RD scope (.Subscript o i pos) (.ix Eo Ei):=by
 intro fx m ext cells ρ W H s v u ρ' H' r Q Er G FF FL C V hS hQ
 (conv at hS=>lhs;whnf)
 (refine Pn hS ?_;clear hS;intro x H₁ h1 hS)
 (refine Pn hS ?_;clear hS;intro y H₂ h2 hS)
 refine t0 (kn (Q:=fun u₁ u₂ s₂=>wpAny cx.mo fx.A (setItem u₁ u₂ u) Q Er s₂) ho hi G (cO G FF hsc) (FL.locOk G FF hsc) C h1 h2 fun W' h' tk u₁ u₂ l' C' V₁ V₂=>?_);refine zr (s:=(sH s h' tk)) G C' V₁ V₂ (V.mono l') hS fun e h'' tk' C''=>?_;subst e;exact hQ W' h'' tk' m cells l' (FL.mono l') C''
end
section
variable{cx:Cx}{RD:Nat}{scope:Scope}
theorem EP{i j:Int}(h0:0≤i)(h1:i≤j)(h2:j≤n):sliceBounds (some i) (some j) none n=(i,j,1):=by
 unfold sliceBounds;simp only[Option.getD_none,show((1:Int)>0)=True by simp,if_true];have a:¬i<0:=Int.not_lt.mpr h0;have b:¬j<0:=Int.not_lt.mpr (Int.le_trans h0 h1);rw[af a,af b];congr 1
 ·exact(congrArg (max 0) (Int.min_eq_left (Int.le_trans h1 h2))).trans (Int.max_eq_right h0)
 ·congr 1;exact(congrArg (max 0) (Int.min_eq_left h2)).trans (Int.max_eq_right (Int.le_trans h0 h1))
theorem GI(hsc:eV scope.names=true){o a b:Expr}(ho:aN cx RD (bM scope) o Eo)(ha:aN cx RD (bM scope) a Ea)(hb:aN cx RD (bM scope) b Eb):yK cx RD scope (.Subscript o (.Slice (some a) (some b) none p) pos) (.sl Eo (some Ea) (some Eb)):=by
 intro fx m ext cells ρ W H s v u ρ' H' r Q Er G FF FL C V hS hQ
 (conv at hS=>lhs;whnf)
 (refine Pn hS ?_;clear hS;intro x H₁ h1 hS)
 (refine Pn hS ?_;clear hS;intro y H₂ h2 hS)
 (refine Pn hS ?_;clear hS;intro z H₃ h3 hS)
 have GG:=cO (cx:=cx) (fx:=fx) (m:=m) (RC:=ext++cells) G FF hsc;have LL:=FL.locOk (ext:=ext) G FF hsc;refine t0 (ho fx m (ext++cells) ρ W H s x H₁ r _ Er G GG LL C h1 fun W₁ h₁ tk₁ u₁ l₁ C₁ V₁=>wpAny_Slice ?_);refine ha fx m (ext++cells) ρ W₁ H₁ (sH s h₁ tk₁) y H₂ r _ Er G GG (LL.mono l₁) C₁ h2 fun W₂ h₂ tk₂ u₂ l₂ C₂ V₂=>?_;refine hb fx m (ext++cells) ρ W₂ H₂ (sH s h₂ tk₂) z H₃ r _ Er G GG (LL.mono (l₁.trans l₂)) C₂ h3 fun W₃ h₃ tk₃ u₃ l₃ C₃ V₃=>?_;rw[evalPart_none];refine ah ?_;have VX:=V₁.mono (l₂.trans l₃);have VY:=V₂.mono l₃;have VV:=V.mono (l₁.trans (l₂.trans l₃));have lW:=l₁.trans (l₂.trans l₃);obtain⟨r1,k1,i,j,r2,k2,rfl,rfl,rfl,rfl,hS⟩:=PR hS
 (refine Pb hS ?_;clear hS;intro l ms hg1 hg2 hS)
 (refine PV hS ?_;clear hS;intro hc hS)
 induction hS using QM;obtain⟨c1,c2,c3,c4,c5⟩:=hc;induction VY using Rs;induction V₃ using Rs;rename_i t1 t2;have C₄:=CR.push C₃ {cls:=.type "slice",data:=.fields #[Value.int i t1,Value.int j t2,.none]};obtain⟨x1,vs,n1,rfl,hat1,hl1,hv1,hlen1⟩:=CR.list (s:={s with heap:=h₃.push {cls:=.type "slice",data:=.fields #[Value.int i t1,Value.int j t2,.none]},toks:=tk₃}) C₄ VX hg1;obtain⟨x2,ws,n2,rfl,hat2,hl2,hv2,hlen2⟩:=CR.list (s:={s with heap:=h₃.push {cls:=.type "slice",data:=.fields #[Value.int i t1,Value.int j t2,.none]},toks:=tk₃}) C₄ VV hg2;have hne:x1≠x2:=fun e=>by
  have:=C₄.inj r1 k1 r2 k2 x1 ⟨x1,none,hat1,.inl rfl⟩ ⟨x2,none,hat2,.inl e⟩;rcases c4 with c4|c4
  ·exact c4 this.1
  ·exact c4 this.2
 have hs1:vs.toArray.size=l.length:=by rw[aU,hv1.length]
 have hs2:ws.toArray.size=ms.length:=by rw[aU,hv2.length]
 have hb:sliceBounds (some i) (some j) none vs.toArray.size=(i,j,1):=EP c1 c2 (by rw[hs1];exact c3);have e:vs.toArray.extract 0 i.toNat++ws.toArray++vs.toArray.extract (max i j).toNat vs.toArray.size=(vs.take i.toNat++ws++vs.drop j.toNat).toArray:=by
  have hm:max i j=j:=Int.max_eq_right c2;rw[hm];apply Array.ext';simp only[List.extract_toArray,List.append_toArray,List.toList_toArray,aU,List.extract_eq_take_drop,List.drop_zero,Nat.sub_zero];rw[List.take_of_length_le (l:=vs.drop j.toNat) (by rw[ck];exact aS _)]
 have hvv:=((hv1.take i.toNat).append hv2).append (hv1.drop j.toNat);have hlv:=hvv.length;have hll:(l.take i.toNat++ms++l.drop j.toNat).length≤9000:=by
  rw[bx,bx,bh,ck,Nat.add_right_comm];refine aO (Nat.add_le_add_right ?_ _) c5;have h:j.toNat≤l.length:=Int.toNat_le.mpr c3;exact aO (Nat.add_le_add_right (aO (Nat.min_le_left ..) (Int.toNat_le_toNat c2)) _) (Nat.le_of_eq (Nat.add_sub_of_le h))
 refine vK (s:={s with heap:=h₃.push {cls:=.type "slice",data:=.fields #[Value.int i t1,Value.int j t2,.none]},toks:=tk₃}) hl1 hl2 hne (Heap.IsSliceOf.new ..) (.int i t1) (.int j t2) (ba (by rw[hs1,hs2];exact c5)) ?_ ?_
 ·rw[hb,e,aU];exact ba (by rw[←hlv];exact hll)
 ·rw[hb];intro h' n' hI hs;dsimp only at hI;rw[e]at hI;exact hQ W₃ h' tk₃ m cells lW (FL.mono lW) (CR.put_list (s:={s with heap:=h₃.push {cls:=.type "slice",data:=.fields #[Value.int i t1,Value.int j t2,.none]},toks:=tk₃}) C₄ hg1 hat1 hs hI hvv hll)
theorem EM{y:Str}{T:Addr}{ua ub:Value}{Q:Flow→Shared→Prop}(hh:A.handled=none)(hT:IsTup s.heap T #[ua,ub]) (h:∀h',Heap.ExtBut s.heap.objs.size s.heap h'→wpAny (model prog w) A (storeName env y ub) (fun _ s₂=>wpAny (model prog w) A (storeName env x ua) (fun _=>Q .next) E s₂) E {s with heap:=h'}) :wpAny (model prog w) A (unpackItems (.ref T) [x,y].length none) (fun items s₂=>wpAny (model prog w) A (assignInOrder ([x,y].reverse.map fun n=>bindName env n) items.reverse) (fun _=>Q .next) E s₂) E s:=by
 refine unpackItems_tuple (items:=#[ua,ub]) hh hT fun h' he'=>?_;show wpAny _ _ (do holding [ua] (bindName env y ub);assignInOrder [fun v=>bindName env x v] [ua]) _ _ _;refine ab (bz (bindName_ (bj (h h' he') (fun _ s₂ h₂=>?_) fun _ _ x=>x)));show wpAny _ _ (do holding [] (bindName env x ua);assignInOrder [] []) _ _ _;exact ab (bz (bindName_ (bj h₂ (fun _ s₃ h₃=>ah h₃) fun _ _ x=>x)))
theorem uh(hsc:eV scope.names=true){E:Ev}(he:aN cx RD (bM scope) e E)(ht:yK cx RD scope t T)(hst:aH t=false)(hsw:∀env,swapsWithSole [t] e pos.line env=pure false)(hss:∀env,swappedStores [t] e env=pure none):jA cx RD scope (.Assign [t] e pos) (am cx.okf T E):=by
 intro fx m ext cells ρ W H s fl ρ' H' r Q Er G FF FL C hE hQ
 (conv at hE=>lhs;whnf)
 (refine Pn hE ?_;clear hE;intro v H₁ h1 hE)
 (refine Q6 hE ?_;clear hE;intro ρ₁ H₂ h2 hE)
 induction hE using QP;refine wpAny_Assign_stores (he fx m (ext++cells) ρ W H s v H₁ r _ Er G (cO G FF hsc) (FL.locOk G FF hsc) C h1 fun W₁ h₁ tk₁ u l₁ C₁ V₁=>?_) (hsw _) (hss _);have e1:(assignEach [t] fx.env).map (·.2)=[assign t fx.env]:=by induction t using Expr.casesOn<;>first|rfl|cases hst
 rw[e1];show wpAny _ _ (assign t fx.env u) _ _ _;exact ht fx m ext cells ρ W₁ H₁ (sH s h₁ tk₁) v u _ _ r _ Er G FF (FL.mono l₁) C₁ V₁ h2 fun W' h' tk m' cells' l' FL' C'=>hQ W' h' tk m' cells' .next (l₁.trans l') FL' C' trivial
theorem EO(hsc:eV scope.names=true){y:Str}{px py p₁:Pos}{k':Nat}{vs:List Expr}{p₂:Pos}{E:Ev}(he:aN cx RD (bM scope) (.Tuple vs k' p₂) E)(ht:ik (bM scope) (.Tuple [.Name x px,.Name y py] k p₁)=some tn)(hxy:(x==y)=false) (hss:∀env,swappedStores [.Tuple [.Name x px,.Name y py] k p₁] (.Tuple vs k' p₂) env=pure none∨swappedStores [.Tuple [.Name x px,.Name y py] k p₁] (.Tuple vs k' p₂) env=pure (some [x,y])) :jA cx RD scope (.Assign [.Tuple [.Name x px,.Name y py] k p₁] (.Tuple vs k' p₂) pos) (am cx.okf (.nm tn) E):=by
 intro fx m ext cells ρ W H s fl ρ' H' r Q Er G FF FL C hE hQ
 (conv at hE=>lhs;whnf)
 (refine Pn hE ?_;clear hE;intro v H₁ h1 hE)
 (refine Q6 hE ?_;clear hE;intro ρ₁ H₂ h2 hE)
 induction hE using QP;rcases hss fx.env with hs|hs
 ·refine Assign_Tuple (he fx m (ext++cells) ρ W H s v H₁ r _ Er G (cO G FF hsc) (FL.locOk G FF hsc) C h1 fun W₁ h₁ tk₁ u l₁ C₁ V₁=>?_) rfl hs;exact A7 ht fx m ext cells ρ W₁ H₁ (sH s h₁ tk₁) v u _ _ r _ Er G FF (FL.mono l₁) C₁ V₁ h2 fun W' h' tk m' cells' l' FL' C'=>hQ W' h' tk m' cells' .next (l₁.trans l') FL' C' trivial
 ·refine Assign_Tuple_swapped (he fx m (ext++cells) ρ W H s v H₁ r _ Er G (cO G FF hsc) (FL.locOk G FF hsc) C h1 fun W₁ h₁ tk₁ u l₁ C₁ V₁=>?_) rfl hs
  (conv at h2=>lhs;whnf)
  (refine Ri h2 ?_;clear h2;intro ρ₂ hb h2)
  induction h2 using QM;have ht:(match gj [(bM scope).find x,(bM scope).find y]with|some is=>some (Tn.tp is) | .none=>.none)=some tn:=ht
  (refine Rf ht ?_;clear ht;intro is his ht)
  induction ht using QT;obtain⟨i,is,rfl,hi,g⟩:=qU (f0 his);obtain⟨j,is,rfl,hj,g⟩:=qU g;obtain rfl:=List.map_eq_nil_iff.mp g.symm
  (conv at hb=>lhs;whnf)
  obtain⟨l,rfl,hb⟩:=Mf hb;obtain⟨a,l,rfl,hb⟩:=lA hb;obtain⟨b,l,rfl,hb⟩:=lA hb;obtain⟨rfl,rfl⟩:=uQ hb;obtain⟨T,us,rfl,hT,hv⟩:=CR.tuple (s:=(sH s h₁ tk₁)) C₁ G.X V₁;induction hv using QN;rename_i ua _ va hv;induction hv using QN;rename_i ub _ vb hv;induction hv using QF;have hij:i≠j:=fun e=>by
   subst e;have:x=y:=by
    rcases tj hi with q1|q1<;>rcases tj hj with q2|q2<;>exact dH q1 q2
   rw[this]at hxy;simp at hxy
  refine EM (s:=(sH s h₁ tk₁)) G.hh hT fun h' he'=>?_;have hk:∀b o,h₁.get? b=some o→h'.get? b=some o:=fun b o e=>he' b o (bf (aZ e)) e;refine bind_fn (s:=(sH s h' tk₁)) G FF (FL.mono l₁) (CR.ext C₁ hk) hj vb fun h₂ tk₂ m₂ cells₂ FL₂ C₂=>?_;refine bind_fn (s:=(sH s h₂ tk₂)) G FF FL₂ C₂ hi va fun h₃ tk₃ m₃ cells₃ FL₃ C₃=>?_;refine hQ W₁ h₃ tk₃ m₃ cells₃ .next l₁ ?_ C₃ trivial;rw[←hb,List.set_comm _ _ hij];exact FL₃
end
section
variable{w:World}{K:Frag}{names:List Str}{okf:Addr→Nat→Bool}{fx:Fx}{m:Str→Option Value}{RC:List (Addr×Obj)}{W:Wd}{H:Hp}{h:Heap}
noncomputable def Fx.at(fx:Fx)(e:Env):Fx:={fx with env:=e}
theorem CR.toEnv{e:Env}(C:CR w K names okf fx m RC W H h):CR w K names okf (fx.at e) m RC W H h:=⟨C.fr,C.shape,C.obj,C.tup,C.keep,C.inj,C.ap,C.axd,C.axk⟩
theorem CR.ofEnv{e:Env}(C:CR w K names okf (fx.at e) m RC W H h):CR w K names okf fx m RC W H h:=⟨C.fr,C.shape,C.obj,C.tup,C.keep,C.inj,C.ap,C.axd,C.axk⟩
end
noncomputable def fS(env:Env):List (Str×NameKind)→List (Str×Addr)→List (Str×Addr)
 |[],cs=>cs
 |(n,k)::r,cs=>if k == .free then fS env r ((n,(env.cells.lookup n).getD 0)::cs)else fS env r cs
theorem uo{env:Env}:∀(names:List (Str×NameKind)) (cs:List (Str×Addr)),(∀p∈names,p.2=.free→∃c,env.cells.lookup p.1=some c)→(forIn names cs (fun(x:Str×NameKind) cs=>(match x with|(name,kind)=>if(kind == .free)=true then do let a ←cellOf env name;pure (ForInStep.yield ((name,a)::cs))else pure (ForInStep.yield cs):Sem (ForInStep (List (Str×Addr))))))=(pure (fS env names cs):Sem _)
 |[],cs,h=>rfl
 |(n,k)::r,cs,h=>by
  have ih:=fun cs=>uo (env:=env) r cs fun p hp=>h p (aD _ hp);rw[List.forIn_cons];show _=(pure (if k == .free then fS env r ((n,(env.cells.lookup n).getD 0)::cs)else fS env r cs):Sem _);dsimp only;by_cases hk:(k==NameKind.free)=true
  ·rw[ac hk,ac hk];obtain⟨c,hc⟩:=h (n,k) ak (by simpa using hk);have:cellOf env n=pure c:=by unfold cellOf;rw[hc]
   rw[this,hc];simp only[pure_bind,Option.getD_some];exact ih _
  ·rw[af hk,af hk];simp only[pure_bind];exact ih _
theorem nz(h:∀p∈scope.names,p.2=.free→∃c,env.cells.lookup p.1=some c):closureFor scope env=pure (fS env scope.names []):=by
 have:=uo (env:=env) scope.names [] h;unfold closureFor;simp only[bind_pure];exact this
theorem F0{env:Env}{x:Str}{c:Addr}(hc:env.cells.lookup x=some c):∀{names:List (Str×NameKind)} {cs:List (Str×Addr)},((x,NameKind.free)∈names∨cs.lookup x=some c)→(∀c',cs.lookup x=some c'→c'=c)→(fS env names cs).lookup x=some c:=by
 intro zz;induction zz with
 |nil=>
  intro cs h h2;rcases h with h|h
  ·cases h
  ·exact h
 |cons zq1 zq2 ih=>
  intro cs h h2;obtain⟨n,k⟩:=zq1;show List.lookup x (if k == .free then fS env zq2 ((n,(env.cells.lookup n).getD 0)::cs)else fS env zq2 cs)=_;by_cases hk:(k==NameKind.free)=true
  ·rw[ac hk];by_cases e:n=x
   ·subst e;rw[hc];exact ih (.inr (by simp)) (fun c' h'=>by simp at h';exact h'.symm)
   ·have e':(x==n)=false:=by simp;exact fun q=>e q.symm
    refine ih ?_ (fun c' h'=>h2 c' (by rw[bW,e']at h';exact h'));rcases h with h|h
    ·rcases uB.mp h with h|h
     ·induction h using QX;exact absurd rfl e
     ·exact .inl h
    ·exact .inr (by rw[bW,e'];exact h)
  ·rw[af hk];refine ih ?_ h2;rcases h with h|h
   ·rcases uB.mp h with h|h
    ·induction h using QX;exact absurd rfl hk
    ·exact .inl h
   ·exact .inr h
theorem gT{env:Env}(hk:env.scope.kind=.function){x:Str}(hx:env.kindOf x=some .cell):∀{names:List (Str×NameKind)},names.lookup x=some .free→(names.map fun(n,k)=>if(k==NameKind.free&&env.scope.kind == .function&&env.kindOf n==some .cell)then(n,NameKind.cell)else(n,k)).lookup x=some .cell
 |[],h=>by simp at h
 |(n,k)::r,h=>by
  have ih:=@gT env hk x hx r;show List.lookup x ((if(k==NameKind.free&&env.scope.kind == .function&&env.kindOf n==some .cell)=true then(n,NameKind.cell)else(n,k))::_)=_;induction hq:x==n with
  |true=>
   simp only[bW,hq]at h
   (refine QU h ?_;clear h;rintro rfl)
   have e:x=n:=by simpa using hq
   subst e;have:(NameKind.free==NameKind.free&&env.scope.kind == .function&&env.kindOf x==some .cell)=true:=by rw[hk,hx];rfl
   rw[ac this];simp
  |false=>
   simp only[bW,hq]at h;by_cases hc:(k==NameKind.free&&env.scope.kind == .function&&env.kindOf n==some .cell)=true
   ·rw[ac hc];simp only[bW,hq];exact ih h
   ·rw[af hc];simp only[bW,hq];exact ih h
theorem gJ{env:Env}{x:Str}{k₀:NameKind}(hk₀:k₀≠.free):∀{names:List (Str×NameKind)},names.lookup x=some k₀→(names.map fun(n,k)=>if(k==NameKind.free&&env.scope.kind == .function&&env.kindOf n==some .cell)then(n,NameKind.cell)else(n,k)).lookup x=some k₀
 |[],h=>by simp at h
 |(n,k)::r,h=>by
  have ih:=@gJ env x k₀ hk₀ r;show List.lookup x ((if(k==NameKind.free&&env.scope.kind == .function&&env.kindOf n==some .cell)=true then(n,NameKind.cell)else(n,k))::_)=_;induction hq:x==n with
  |true=>
   simp only[bW,hq]at h;induction h using QT;have:¬(k==NameKind.free&&env.scope.kind == .function&&env.kindOf n==some .cell)=true:=by
    have:(k==NameKind.free)=false:=by simpa using hk₀
    rw[this];simp
   rw[af this,bW,hq]
  |false=>
   simp only[bW,hq]at h;by_cases hc:(k==NameKind.free&&env.scope.kind == .function&&env.kindOf n==some .cell)=true
   ·rw[ac hc];simp only[bW,hq];exact ih h
   ·rw[af hc];simp only[bW,hq];exact ih h
noncomputable def qB(s:Scope)(sc:Sc):Sc:=⟨s.names,sc.kinds.length,some sc.kinds⟩
structure ij(sc:Sc)(s:Scope)(t iter:Expr):Prop where
 out:sc.outer=none
 cell:∀p∈s.names,p.2≠.cell
 ok:eV s.names=true
 kind:s.kind=.function
 set:eT iter=false
 en:EU t iter=true
 loc:Gs (qB s sc) t=true
 off:sc.off=0
 nm:∀p∈s.names,p.2=.local→s.names.lookup p.1=some .local
 free:∀p∈s.names,p.2=.free→∃i,bc p.1 sc.kinds 0=some (i,.cell)
theorem qD{s:Scope}(h:nF sc s t iter=true):ij sc s t iter:=by
 unfold nF at h;simp only[aY,pI]at h;obtain⟨⟨⟨⟨⟨⟨⟨⟨h1,h2⟩,h3⟩,h4⟩,h5⟩,h6⟩,h7⟩,h8⟩,h9⟩:=h;refine⟨Option.isNone_iff_eq_none.mp h1,fun p hp=>by simpa using h2 p hp,h3,by simpa using h4,by simpa using h5,h6,h7,by simpa using h8,fun p hp hl=>?_,fun p hp hf=>?_⟩
 ·have:=(h9 p hp).1;rw[hl]at this;simpa using this
 ·have:=(h9 p hp).2;rw[hf]at this;simp only[bne_self_eq_false,Bool.false_or]at this;exact P0 this
theorem rC{x:Str}{i:Nat}{k:NameKind}:∀{l:List (Str×NameKind)} {n:Nat},bc x l n=some (i,k)→(x,k)∈l:=by
 intro zz;induction zz with
 |nil=>
  intro _ h;exact Rk h
 |cons zq1 zq2 ih=>
  intro n h;obtain⟨y,k'⟩:=zq1;refine tR h (fun e h=>?_) fun _ h=>aD _ (ih h);induction h using QM;rw[iu.mp e];exact ak
theorem C8{k:NameKind}:∀{l:List (Str×NameKind)} {n:Nat},bc x l n=some (i,k)→i<n+l.length:=by
 intro zz;induction zz with
 |nil=>
  intro _ h;exact Rk h
 |cons zq1 zq2 ih=>
  intro n h;obtain⟨y,k'⟩:=zq1;refine tR h (fun _ h=>?_) fun _ h=>?_
  ·induction h using QM;exact Nat.lt_add_of_pos_right (Nat.zero_lt_succ _)
  ·exact Nat.lt_of_lt_of_eq (ih h) (Nat.succ_add_eq_add_succ ..)
structure CLoc(cx:Cx)(s:Scope)(sc:Sc)(Ru:Obj)(ρ₀ ρ:bJ)(W:Wd):Prop where
 len:ρ.length=sc.kinds.length+s.names.length
 old:∀i,i<sc.kinds.length→ρ[i]?=ρ₀[i]?
 loc:∃m₂:Str→Option Value,LCg.NsObj Ru m₂∧∀x i v,bc x s.names sc.kinds.length=some (i,.local)→ρ[i]?=some (some v)→∃u,m₂ x=some u∧VR cx.K W v u
theorem CLoc.mono{s:Scope}{Ru:Obj}{ρ₀:bJ}(h:W.le W')(x:CLoc cx s sc Ru ρ₀ ρ W):CLoc cx s sc Ru ρ₀ ρ W':=by
 obtain⟨m₂,a,b⟩:=x.loc;refine⟨x.len,x.old,m₂,a,fun y i v hy hv=>?_⟩;obtain⟨u,c,d⟩:=b y i v hy hv;exact⟨u,c,d.mono h⟩
section
variable{sco:Scope}{auxC:List (Addr×Obj)}{ρ₀:bJ}{Ru:Obj}
theorem HX(G:Good cx fx RD)(O:ij sc sco t iter):Good cx (fx.at (compEnvC sco (fS fx.env sco.names []) C fx.env)) RD:=
 ⟨G.B,G.hA,G.hf,G.hke,G.hg,G.hb,O.kind,G.X,G.T,G.hh,G.dep,G.un,G.sysm⟩
theorem KJ(G:Good cx fx RD)(O:ij sc sco t iter):GlobOk cx (fx.at (compEnvC sco (fS fx.env sco.names []) C fx.env)) m auxC (qB sco sc):=xw (HX G O) fun x hx=>by
 unfold Sc.isGlob qB at hx;dsimp only at hx
 (refine QV hx ?_;clear hx;intro n hp hx)
 have hl:=(aK hp).1;exact⟨gJ (by decide) hl,mq O.ok hl⟩
theorem xy(O:ij sc sco t iter)(LL:LocOk cx fx m RC sc ρ₀ W):∀p∈sco.names,p.2=.free→∃c,fx.env.cells.lookup p.1=some c:=fun p hp hf=>by
 obtain⟨i,hi⟩:=O.free p hp hf;obtain⟨_,c,o,val,a1,_⟩:=LL.cel O.out p.1 i (by rw[O.off];exact hi);exact⟨c,a1⟩
theorem GN(G:Good cx fx RD)(O:ij sc sco t iter)(LL:LocOk cx fx m RC sc ρ₀ W)(CL:CLoc cx sco sc Ru ρ₀ ρ W)(hs:RC.Sublist auxC)(hC:(C,Ru)∈auxC):LocOk cx (fx.at (compEnvC sco (fS fx.env sco.names []) C fx.env)) m auxC (qB sco sc) ρ W:=by
 refine⟨fun x i v hx hv=>?_,(fun h=>by cases h),(fun h=>by cases h)⟩;have hkd:(compEnvC sco (fS fx.env sco.names []) C fx.env).scope.kind=.function:=O.kind;rcases Af hx with hp|hp|⟨n,l,hp,e,hj⟩
 ·obtain⟨m₂,hN,hl⟩:=CL.loc;obtain⟨u,hu,hV⟩:=hl x _ v hp hv;refine⟨u,hV,fun pos W' H s Q E C' hQ=>?_⟩;have hc:=(C'.keep (C,Ru) (ax _ hC)).1;exact wpAny_Name (wpAny_loadName_local hkd (lookup_relabel_local (aK hp).1) (hN.ns hc) hu hQ) (mq O.ok (aK hp).1)
 ·exact absurd rfl (O.cell _ (rC hp))
 ·obtain rfl:=av e;obtain⟨hk,c,o,val,a1,a2,a3,a4⟩:=LL.cel O.out x _ (by rw[O.off];exact hj);have hlt:=C8 hj;have hv':ρ₀[i]?=some (some v):=by rw[←CL.old i (by omega)];exact hv
  obtain⟨u,rfl,hV⟩:=a4 v hv';refine⟨u,hV,fun pos W' H s Q E C' hQ=>?_⟩;have ho:=(C'.keep (c,o) (ax _ (hs.subset a2))).1;refine wpAny_Name (wpAny_loadName_cell hkd (gT G.hk hk (aK hp).1) (F0 a1 (.inl (rC hp)) (fun c' h'=>by simp at h')) ⟨o,ho,a3⟩ hQ) (mq O.ok (aK hp).1)
theorem ya(G:Good cx fx RD)(O:ij sc sco t iter)(CL:CLoc cx sco sc Ru ρ₀ ρ W){pre post:List (Addr×Obj)}(C₀:cx.CR fx m (pre++(C,Ru)::post) W H s.heap)(hx:bc x sco.names sc.kinds.length=some (i,.local))(V1:VR cx.K W v u){Q:Unit→Shared→Prop} (hQ:∀(h':Heap) (tk:Nat) (oC':Obj),Heap.SameBut C s.heap h'→CLoc cx sco sc oC' ρ₀ (ρ.set i (some v)) W→cx.CR fx m (pre++(C,oC')::post) W H h'→Q () (sH s h' tk)) :wpAny cx.mo fx.A (storeName (compEnvC sco (fS fx.env sco.names []) C fx.env) x u) Q Er s:=by
 obtain⟨m₂,hN,hl⟩:=CL.loc;have hc:=(C₀.keep (C,Ru) (ax _ (ax _ ak))).1;have hge:=(aK hx).2;refine wpAny_storeName_local (lookup_relabel_local (aK hx).1) (hN.ns hc) (fun h' hn hs=>?_) (by
  show(sco.kind == .class||(sco.kind == .module&&_))=false;rw[O.kind];rfl)
 obtain⟨oC',ho',hN'⟩:=LCg.ns_obj hn;refine hQ h' _ oC' hs ⟨by rw[List.length_set];exact CL.len,fun j hj=>?_,_,hN',fun y j w hy hw=>?_⟩ (CR.updAux C₀ hs ho' (fun⟨_,a,n,e⟩=>by
  obtain⟨es,ep,hd,_⟩:=hN';rw[hd]at e;cases e))
 ·rw[List.getElem?_set,af (by omega)];exact CL.old j hj
 ·by_cases e:i=j
  ·subst e;have:=dH hx hy;subst this;rw[Ct hw];exact⟨u,by simp,V1⟩
  ·obtain⟨u',a,b⟩:=hl y j w hy (uD e hw);have hne:¬y=x:=fun q=>by subst q;rw[hx]at hy;(refine QH hy ?_;clear hy;rintro rfl;intro e;cases e);exact e rfl
   exact⟨u',by rw[af hne];exact a,b⟩
end
section
noncomputable def i4(env:Env)(ifs:List Expr)(b:Bool):Sem Bool:=forIn ifs b fun c r=>if r=true then do let ok ←isTrue c env (eval c env);pure (ForInStep.yield ok)else pure (ForInStep.yield r)
theorem k6{Q:Bool→Shared→Prop}(h:Q false s):∀ifs:List Expr,wpAny M A (i4 env ifs false) Q E s
 |[]=>ah h
 |c::ifs=>by
  unfold i4;rw[List.forIn_cons];rw[af be];exact ab (ah (k6 h ifs))
theorem xL{f:Expr→Tv}:∀{ifs:List Expr} (h:∀e∈ifs,iT cx RD sc e (f e)) {ρ:bJ} {W:Wd} {H H':Hp} {s:Shared} {r:Nat} {b:Bool} {Q:Bool→Shared→Prop} {Er:Value→Shared→Prop} (G:Good cx fx RD) (GG:GlobOk cx fx m RC sc) (LL:LocOk cx fx m RC sc ρ W) (C:cx.CR fx m RC W H s.heap) (hE:iU (ifs.map f) ρ r H=some (b,H')) (hQ:∀(W':Wd) (h':Heap) (tk:Nat),W.le W'→cx.CR fx m RC W' H' h'→Q b (sH s h' tk)),wpAny cx.mo fx.A (i4 fx.env ifs true) Q Er s:=by
 intro zz;induction zz with
 |nil=>
  intro h ρ W H H' s r b Q Er G GG LL C hE hQ
  (refine QU hE ?_;clear hE;intro e;cases e)
  exact ah (hQ W s.heap s.toks (.refl W) C)
 |cons c ifs ih=>
  intro h ρ W H H' s r b Q Er G GG LL C hE hQ;unfold i4;rw[List.forIn_cons];rw[ac rfl];refine ab (ab ?_);refine Gu hE ?_ ?_<;>clear hE
  ·intro H₁ h1 hE;refine h c ak fx m RC ρ W H s _ _ r _ Er G GG LL C h1 fun W₁ h₁ tk₁ l₁ C₁=>ah ?_;exact ih (s:=(sH s h₁ tk₁)) (fun e he=>h e (aD _ he)) G GG (LL.mono l₁) C₁ hE fun W₂ h₂ tk₂ l₂ C₂=>hQ W₂ h₂ tk₂ (l₁.trans l₂) C₂
  ·intro H₁ h1 hE;induction hE using QM;refine h c ak fx m RC ρ W H s _ _ r _ Er G GG LL C h1 fun W₁ h₁ tk₁ l₁ C₁=>ah ?_;exact k6 (hQ W₁ h₁ tk₁ l₁ C₁) ifs
end
section
variable{w:World}{K:Frag}{names:List Str}{okf:Addr→Nat→Bool}{fx:Fx}{m:Str→Option Value}{RC aux':List (Addr×Obj)}{W:Wd}{H:Hp}{h:Heap}
theorem CR.perm(C:CR w K names okf fx m RC W H h)(p:RC.Perm aux'):CR w K names okf fx m aux' W H h:=by
 have hm:∀q,q∈fx.frn++aux'→q∈fx.frn++RC:=fun q hq=>by
  rcases NH.mp hq with hq|hq
  ·exact aT _ hq
  ·exact ax _ (p.mem_iff.mpr hq)
 exact⟨C.fr,C.shape,C.obj,C.tup,fun q hq=>C.keep q (hm q hq),C.inj,fun r i a x=>⟨(C.ap r i a x).1,(C.ap r i a x).2.1,fun q hq=>(C.ap r i a x).2.2 q (hm q hq)⟩,
  ⟨(p.map _).nodup_iff.mp C.axd.1,fun q hq=>C.axd.2 q (p.mem_iff.mpr hq)⟩,fun q hq=>C.axk q (p.mem_iff.mpr hq)⟩
end
section
variable{sco:Scope}{its:List (Addr×Obj)}
theorem Ga(I:ItR cx W tgt it j a its)(C:cx.CR fx m (its++RC) W H s.heap)(h:Q (.ref a) s):wpAny cx.mo A (pyIter (.ref a)) Q Er s:=by
 have at0:∀q∈its,s.heap.get? q.1=some q.2:=fun q hq=>(C.keep q (ax _ (aT _ hq))).1;cases I with
 |live r1 i1 _ _ o y hat hit=>exact wpAny_pyIter_listiter (hit _ (at0 (a,o) ak)) h
 |rev r1 i1 n _ _ o y hat hjn hit=>exact wpAny_pyIter_revIter (hit _ (at0 (a,o) ak)) h
 |tup l _ _ o y VT hit=>exact wpAny_pyIter_tupleiter (hit _ (at0 (a,o) ak)) h
 |ascii l _ t _ o hit=>exact wpAny_pyIter_striter_ascii (hit _ (at0 (a,o) ak)) h
 |wide l _ t _ o hit=>exact wpAny_pyIter_striter_wide (hit _ (at0 (a,o) ak)) h
 |range f c n _ _ o hit=>exact wpAny_pyIter_rangeiter (hit _ (at0 (a,o) ak)) h
 |enum l _ t _ o b o' old htp hab hjl hit hit2=>exact wpAny_pyIter_enum (hit _ (at0 (a,o) ak)) h
def Av(M:Model)(A:Around)(R:Result→Shared→Prop)(target:Expr)(ifs:List Expr)(elt:Expr)(D:Addr)(env:Env)(I:Nat→Shared→Prop)(n:Nat)(Er:Value→Shared→Prop):Option Value→Shared→Prop
 |none,s=>R (.ok .next) s
 |some u,s=>wpAny M A (assign target env u) (fun _ s₂=>wpAny M A (i4 env ifs true) (fun ok s₃=>
   if ok=true then wpAny M A (eval elt env) (fun x s₄=>wpAny M A (call (.builtin "list.append") [.ref D,x]) (fun _ s₅=>∃m,m<n∧I m s₅) Er s₄) Er s₃ else∃m,m<n∧I m s₃) Er s₂) Er s
theorem pg{R:Result→Shared→Prop}{target:Expr}(I:Nat→Shared→Prop) (turn:∀n s (Er:Value→Shared→Prop),I n s→wpAny (model prog w) A (pyNext (.ref a)) (fun r s₁=>match r with|none=>Av (model prog w) A R target ifs elt D env I n Er none s₁|some u=>wpAny (model prog w) A (letOwnedTupleGo target (.ref a) u) (fun _ s₂=>Av (model prog w) A R target ifs elt D env I n Er (some u) s₂) Er s₁) Er s)
  (n:Nat) (h:I n s):codeAny (model prog w) A (.compLoop (.ListComp elt [⟨target,iter,ifs,0⟩] scope pos) 0 (.ref a) (.ref D) env) R s:=by
 refine codeAny_loop rfl I (fun n s hI=>?_) n h;show wpAny _ A ((compTurn (.ListComp elt [⟨target,iter,ifs,0⟩] scope pos) 0 (.ref a) (.ref D) env).onRaise (fun x=>do noteFrame x env;theTreesLotGoes x)) _ _ s;refine wpAny_noted ?_;rw[compTurn_list];refine ab (wpAny_standAt (ab (bj (turn n s _ hI) (fun r s₁ h₁=>?_) fun _ _ h'=>h')));induction r with
 |none=>exact ah h₁
 |some v=>
  refine ab (bj h₁ (fun _ s₁' h₁'=>?_) fun _ _ h'=>h');refine ab (bj h₁' (fun _ s₂ h₂=>ab (bj h₂ (fun ok s₃ h₃=>?_) fun _ _ h'=>h')) fun _ _ h'=>h');induction ok with
  |false=>exact ah ⟨rfl,h₃⟩
  |true=>
   exact ab (ab (bj h₃ (fun x s₄ h₄=>ab (bj h₄ (fun _ s₅ h₅=>ah (ah ⟨rfl,h₅⟩)) fun _ _ h'=>h')) fun _ _ h'=>h'))
theorem rT{sc':Sc}(h:Gs sc' t=true):∀x∈tw t,pE sc' x=true:=pI.mp h
theorem ul{sc':Sc}(h:pE sc' x=true)(hf:sc'.find x=some i):bc x sc'.kinds sc'.off=some (i,.local):=by
 rcases Af hf with e|e|⟨n,l,e,_⟩
 ·exact e
 ·(conv at h=>lhs;whnf);rw[e]at h;exact CS h
 ·(conv at h=>lhs;whnf);rw[e]at h;exact CS h
noncomputable abbrev MD(us:List Value)(n:Nat):Obj:={cls:=.type "list",data:=.seq us.toArray n}
inductive PA(cx:Cx)(fx:Fx)(m:Str→Option Value)(RC:List (Addr×Obj))(sc:Sc)(sco:Scope)(ρ:bJ)(s:Shared)(t:Expr)(tn:Tn)(fs:List Tv)(Ee:Ev)(it:It)(a D Ca:Addr)(r:Nat)(R:V×Hp)(W:Wd)(k:Nat):Shared→Prop
 |mk (W₂:Wd) (H₂:Hp) (h₃:Heap) (tk₂:Nat) (its₂:List (Addr×Obj)) (j:Nat) (ys:List V) (us:List Value) (n:Nat) (Ru:Obj) (ρc:bJ):W.le W₂→ItR cx W₂ t it j a its₂→CLoc cx sco sc Ru ρ ρc W₂→cx.CR fx m (its₂++(D,MD us n)::(Ca,Ru)::RC) W₂ H₂ h₃→VRs cx.K W₂ ys us→k+ys.length≤2000→dC tn fs Ee it k j ys ρc r H₂=some R→
  PA cx fx m RC sc sco ρ s t tn fs Ee it a D Ca r R W k (sH s h₃ tk₂)
inductive PN(cx:Cx)(fx:Fx)(m:Str→Option Value)(pre RC:List (Addr×Obj))(sc:Sc)(sco:Scope)(ρ:bJ)(s:Shared)(Ca:Addr)(W:Wd)(H:Hp)(ρ':bJ):Shared→Prop
 |mk (Ru:Obj) (h':Heap) (tk':Nat):CLoc cx sco sc Ru ρ ρ' W→cx.CR fx m (pre++(Ca,Ru)::RC) W H h'→PN cx fx m pre RC sc sco ρ s Ca W H ρ' (sH s h' tk')
theorem xz(O:ij sc sco t iter){I:Iv}{f:Expr→Tv}(hi:qu cx RD sc t iter I)(ht:ik (qB sco sc) t=some tn)(hf:∀e∈ifs,iT cx RD (qB sco sc) e (f e))(he:aN cx RD (qB sco sc) elt Ee) {use:Option (Value→Sem Unit)} {p':Pos} (G:Good cx fx RD) (GG:GlobOk cx fx m RC sc) (LL:LocOk cx fx m RC sc ρ W) (C:cx.CR fx m RC W H s.heap) (hE:bo sco.names.length I tn (ifs.map f) Ee ρ r H=some (v,H')) (hfin:∀(W':Wd) (h':Heap) (tk:Nat) (Ca Da:Addr) (Ru:Obj) (us:List Value) (l:List V) (H₁:Hp) (n:Nat),W.le W'→cx.CR fx m ((Da,{cls:=.type "list",data:=.seq us.toArray n})::(Ca,Ru)::RC) W' H₁ h'→VRs cx.K W' l us→H₁.new r (.list l)=some (v,H')→(∃m₂,LCg.NsObj Ru m₂)→compPost cx.mo fx.A Er use Q (.ref Da) Ca (.ok .next) (sH s h' tk)) :wpAny cx.mo fx.A (comprehension (.ListComp elt [⟨t,iter,ifs,0⟩] sco pos) sco fx.env p' (newList []) false (eval iter fx.env) use) Q Er s:=by
 (conv at hE=>lhs;whnf)
 (refine QZ hE ?_;clear hE;intro it H₁ h1 hE)
 refine wpAny_comprehension_free rfl (fun x=>by
  show foldedSetIterable iter fx.env x=pure x;have:=O.set;induction iter using Expr.casesOn<;>first|rfl|cases this) (nz (xy O LL)) O.kind O.nm ?_
 refine hi fx m RC ρ W H s it H₁ r _ Er G GG LL C h1 fun W₁ h₁ tk₁ a its l₁ I₁ C₁=>?_;refine wpAny_newObj_type (wpAny_newFunctionEnv O.cell (by intro y hy;simp at hy) (fun h₂ hns₂ hsb₂=>?_) O.kind);dsimp only at hns₂ hsb₂⊢;have C₂:=C₁.pushAux {cls:=.type "list",dict:=none,data:=.seq ([]:List Value).toArray} rfl (fun⟨e,_⟩=>by simp at e);generalize hH2:h₁.push {cls:=.type "list",dict:=none,data:=.seq ([]:List Value).toArray}=h₁' at hns₂ hsb₂ C₂⊢;have C₃:=C₂.pushAux {cls:=.type "dict",data:=.dict #[]} rfl (fun⟨e,_⟩=>by simp at e);obtain⟨Ru,hoC,hNC⟩:=LCg.ns_obj hns₂;have C₄:=CR.updAux (pre:=[]) C₃ hsb₂ hoC (fun⟨_,a,n,e⟩=>by obtain⟨es,ep,hd,_⟩:=hNC;rw[hd]at e;cases e);have C₅:cx.CR fx m (its++(h₁.objs.size,{cls:=.type "list",data:=.seq ([]:List Value).toArray 0})::(h₁'.objs.size,Ru)::RC) W₁ H₁ h₂:=by
  refine CR.perm C₄ ?_;show((h₁'.objs.size,Ru)::(h₁.objs.size,({cls:=.type "list",dict:=none,data:=.seq ([]:List Value).toArray}:Obj))::(its++RC)).Perm _;refine(List.Perm.swap _ _ _).trans ?_;have p1:((h₁.objs.size,({cls:=.type "list",dict:=none,data:=.seq ([]:List Value).toArray}:Obj))::(h₁'.objs.size,Ru)::(its++RC))=[(h₁.objs.size,({cls:=.type "list",dict:=none,data:=.seq ([]:List Value).toArray}:Obj)),(h₁'.objs.size,Ru)]++its++RC:=by simp
  have p2:(its++(h₁.objs.size,({cls:=.type "list",data:=.seq ([]:List Value).toArray 0}:Obj))::(h₁'.objs.size,Ru)::RC)=its++[(h₁.objs.size,({cls:=.type "list",dict:=none,data:=.seq ([]:List Value).toArray}:Obj)),(h₁'.objs.size,Ru)]++RC:=by simp
  rw[p1,p2];exact List.Perm.append_right _ List.perm_append_comm
 generalize h₁.objs.size=D at C₅⊢;generalize h₁'.objs.size=Ca at C₅⊢;generalize s.toks=tk0 at *;have CL₀:CLoc cx sco sc Ru ρ (ρ++List.replicate sco.names.length none) W₁:=by
  have hlen:=LL.len O.out;refine⟨by simp[hlen],fun i hi=>by rw[cD (Nat.lt_of_lt_of_eq ‹_› (Eq.symm ‹_›))],_,hNC,fun x i v hx hv=>?_⟩;have hge:=(aK hx).2;rw[bB (by omega),List.getElem?_replicate]at hv;split at hv<;>(first|(refine QU hv ?_;clear hv;intro e;cases e)|exact Rk hv)
 have loop:∀s₃:Shared,(∃tk,s₃=(sH s h₂ tk))→codeAny cx.mo fx.A (.compLoop (.ListComp elt [⟨t,iter,ifs,0⟩] sco pos) 0 (.ref a) (.ref D) (compEnvC sco (fS fx.env sco.names []) Ca fx.env)) (compPost cx.mo fx.A Er use Q (.ref D) Ca) s₃:=by
  intro s₃ zq;obtain⟨tk3,rfl⟩:=zq;refine pg (PA cx fx m RC sc sco ρ s t tn (ifs.map f) Ee it a D Ca r (v,H') W) ?_ 2000 (.mk W₁ H₁ h₂ tk3 its 0 [] [] 0 Ru _ l₁ I₁ CL₀ C₅ .nil (by simp) hE);intro k s' Er' zq;induction zq;rename_i W₂ H₂ h₃ tk₂ its₂ j ys us n oC' ρc l₂ I₂ CL₂ C₆ V₂ hk hgo;induction k with
  |zero=>exact Rk hgo
  |succ k=>
   (conv at hgo=>lhs;whnf)
   refine Pv hgo ?_ ?_<;>clear hgo
   ·intro hitem hgo;refine kr (s:=(sH s h₃ tk₂)) G I₂ C₆ hitem (fun _ h' tk C'=>?_) (fun v hv=>by exact Rk hv);obtain⟨m₂,hm₂,_⟩:=CL₂.loc;exact hfin W₂ h' tk Ca D oC' us ys H₂ n l₂ C' V₂ hgo ⟨m₂,hm₂⟩
   ·intro x hitem hgo
    (refine Ri hgo ?_;clear hgo;intro ρ₃ hbind hgo)
    refine kr (s:=(sH s h₃ tk₂)) G I₂ C₆ hitem (fun hv=>by exact QL hv) (fun v' hv W₃ h₄ tk₃ its₃ u l₃ I₃ C₇ V₃=>?_);induction hv using QT;show wpAny _ _ (assign t (compEnvC sco (fS fx.env sco.names []) Ca fx.env) u) _ _ _;rw[List.append_cons]at C₇;refine g8 (cx:=cx) (W:=W₃) (J:=PN cx fx m (its₃++[(D,MD us n)]) RC sc sco ρ s Ca W₃ H₂) G.hh (qB sco sc) (fun x=>pE (qB sco sc) x=true) ?_ ?_ ?_ (rT O.loc) ht hbind V₃ (.mk oC' h₄ tk₃ (CL₂.mono l₃) C₇) ?_
    ·intro l u ρ s' zq;induction zq;rename_i oC₂ h' tk' CL' C';intro V;exact CR.tuple (s:=(sH s h' tk')) C' G.X V
    ·intro ρ s' h'' zq;induction zq;rename_i oC₂ h' tk' CL' C';intro hk;exact .mk oC₂ h'' tk' CL' (CR.ext C' hk)
    ·intro x i v u ρ' s' Q' hP hx zq;induction zq;rename_i oC₂ h' tk' CL' C';intro V hQ';exact ya (s:=(sH s h' tk')) G O CL' C' (ul hP hx) V fun h'' tk'' oC₃ _ CL'' C''=>hQ' _ (.mk oC₃ h'' tk'' CL'' C'')
    ·intro s' zq;induction zq;rename_i oC₂ h' tk' CL' C';have hsub:RC.Sublist ((its₃++[(D,MD us n)])++(Ca,oC₂)::RC):=(List.sublist_cons_self _ _).trans (List.sublist_append_right _ _);have hmem:(Ca,oC₂)∈(its₃++[(D,MD us n)])++(Ca,oC₂)::RC:=ax _ ak;have Gc:=HX (C:=Ca) G O;have GGc:GlobOk cx (fx.at (compEnvC sco (fS fx.env sco.names []) Ca fx.env)) m ((its₃++[(D,MD us n)])++(Ca,oC₂)::RC) (qB sco sc):=KJ G O;have LLc:=GN (C:=Ca) (auxC:=(its₃++[(D,MD us n)])++(Ca,oC₂)::RC) G O (LL.mono (l₂.trans l₃)) CL' hsub hmem;refine Gu hgo ?_ ?_<;>clear hgo
     ·intro H₄ h4 hgo;refine xL (fx:=fx.at (compEnvC sco (fS fx.env sco.names []) Ca fx.env)) (s:=(sH s h' tk')) hf Gc GGc LLc C'.toEnv h4 fun W₄ h₅ tk₄ l₄ C₈=>?_;rw[ac rfl]
      (refine Pn hgo ?_;clear hgo;intro y H₅ h5 hgo)
      refine he (fx.at (compEnvC sco (fS fx.env sco.names []) Ca fx.env)) m _ ρ₃ W₄ H₄ (sH s h₅ tk₄) y H₅ r _ _ Gc GGc (LLc.mono l₄) C₈ h5 fun W₅ h₆ tk₅ uy l₅ C₉ V₅=>?_;have C₉':=C₉.ofEnv;have hD:=(C₉'.keep (D,_) (ax _ (aT _ (ax _ ak)))).1;refine append_at (s:=(sH s h₆ tk₅)) hD (fun h₇ hs₇ hD₇=>?_) (by rw[aU,←V₂.length];exact ba (by omega));rw[←List.append_cons]at C₉';have C₁₀:=CR.updAux C₉' hs₇ hD₇ (fun⟨e,_⟩=>by simp at e);have e2:us.toArray.push uy=(us++[uy]).toArray:=by simp
      rw[e2]at C₁₀;exact⟨k,Nat.lt_succ_self _,.mk W₅ H₅ h₇ tk₅ its₃ (j+1) (ys++[y]) (us++[uy]) (n+1) oC₂ ρ₃ (l₂.trans (l₃.trans (l₄.trans l₅))) (I₃.mono (l₄.trans l₅)) (CL'.mono (l₄.trans l₅)) C₁₀ ((V₂.mono (l₃.trans (l₄.trans l₅))).append (.one V₅)) (by rw[bx];show k+(ys.length+1)≤2000;omega) hgo⟩
     ·intro H₄ h4 hgo;refine xL (fx:=fx.at (compEnvC sco (fS fx.env sco.names []) Ca fx.env)) (s:=(sH s h' tk')) hf Gc GGc LLc C'.toEnv h4 fun W₄ h₅ tk₄ l₄ C₈=>?_;rw[af be];have C₈':=C₈.ofEnv;rw[←List.append_cons]at C₈';exact⟨k,Nat.lt_succ_self _,.mk W₄ H₄ h₅ tk₄ its₃ (j+1) ys us n oC₂ ρ₃ (l₂.trans (l₃.trans l₄)) (I₃.mono l₄) (CL'.mono l₄) C₈' (V₂.mono (l₃.trans l₄)) (by omega) hgo⟩
 exact codeAny_compStart_list (loop _ ⟨_,rfl⟩) (Ga (RC:=(D,{cls:=.type "list",data:=.seq ([]:List Value).toArray 0})::(Ca,Ru)::RC) I₁ C₅ (loop _ ⟨_,rfl⟩))
end
set_option tactic.hygienic false
section
variable{cx:Cx}{RD:Nat}{sc:Sc}{sco:Scope}{fx:Fx}{m:Str→Option Value}{RC its:List (Addr×Obj)}{W:Wd}{H H':Hp}{s:Shared}{r:Nat}{ρ:bJ}
theorem vc{H₁:Hp}(C:cx.CR fx m ((D,{cls:=.type "list",data:=.seq us.toArray n})::RC) W H₁ h')(V:VRs cx.K W l us)(hn:H₁.new r (.list l)=some (v,H')):∃W',W.le W'∧cx.CR fx m RC W' H' h'∧VR cx.K W' v (.ref D):=by
 have hf:=ie (Hp.get_new hn).choose_spec.2.2.2.1;have hD:=(C.keep (D,_) (ax _ ak)).1;obtain⟨i,hv',hat,C'⟩:=CR.absorb C hn (h':=h') ⟨rfl,fun _ _=>rfl⟩ ⟨rfl,hf,us,n,hD,V.mono Wd.le_new⟩;exact⟨_,Wd.le_new,C',hv'▸.ref _ _ _ _ hat⟩
theorem pA(O:ij sc sco t iter){I:Iv}{f:Expr→Tv}(hi:qu cx RD sc t iter I)(ht:ik (qB sco sc) t=some tn)(hf:∀e∈ifs,iT cx RD (qB sco sc) e (f e))(he:aN cx RD (qB sco sc) elt Ee):aN cx RD sc (.ListComp elt [⟨t,iter,ifs,0⟩] sco pos) (bo sco.names.length I tn (ifs.map f) Ee):=by
 intro fx m RC ρ W H s v H' r Q Er G GG LL C hE hQ;dsimp only;rw[arm_eval_ListComp];refine xz (use:=none) O hi ht hf he G GG LL C hE fun W' h' tk Ca Da Ru us l H₁ n lW C' V hn hNC=>?_;obtain⟨m₂,hm₂⟩:=hNC;have hC:=(C'.keep (Ca,Ru) (ax _ (aD _ ak))).1;refine⟨m₂,hm₂.ns hC,fun h'' hs=>?_⟩;have C₂:=CR.perm C' (List.Perm.swap _ _ _);have C₃:=CR.extBut (its:=[(Ca,Ru)]) C₂ (h':=h'') fun b o hb e=>(hs.2 b (by simpa using hb)).trans e;obtain⟨W₂,l₂,C₄,V₄⟩:=vc C₃ V hn;exact hQ W₂ h'' tk _ (lW.trans l₂) C₄ V₄
end
section
variable{sco:Scope}
theorem Dt(elt:Expr)(gens:List Comprehension)(sco:Scope)(pos:Pos)(t:Expr)(line:Nat)(env:Env):∃b,swapsWithSole [t] (.ListComp elt gens sco pos) line env=pure b:=by
 show∃b,swapsWith (.ListComp elt gens sco pos) (some t) line env=pure b;unfold swapsWith;induction t using Expr.casesOn<;>exact⟨_,rfl⟩
theorem AN(elt:Expr)(gens:List Comprehension)(sco:Scope)(pos:Pos)(t:Expr)(env:Env):swappedStores [t] (.ListComp elt gens sco pos) env=pure none:=by
 unfold swappedStores;induction t using Expr.casesOn<;>rfl
theorem Cr(hsc:eV scope.names=true){t':Expr}{cpos:Pos}(O:ij (bM scope) sco t' iter){I:Iv}{f:Expr→Tv}(hi:qu cx RD (bM scope) t' iter I)(htn:ik (qB sco (bM scope)) t'=some tn)(hf:∀e∈ifs,iT cx RD (qB sco (bM scope)) e (f e))(he:aN cx RD (qB sco (bM scope)) elt Ee) (ht:yK cx RD scope t T) (hst:aH t=false):jA cx RD scope (.Assign [t] (.ListComp elt [⟨t',iter,ifs,0⟩] sco cpos) pos) (am cx.okf T (bo sco.names.length I tn (ifs.map f) Ee)):=by
 intro fx m ext cells ρ W H s fl ρ' H' r Q Er G FF FL C hE hQ;unfold am at hE
 (refine Pn hE ?_;clear hE;intro v H₁ h1 hE)
 (refine Q6 hE ?_;clear hE;intro ρ₁ H₂ h2 hE)
 induction hE using QP;have e1:(assignEach [t] fx.env).map (·.2)=[assign t fx.env]:=by induction t using Expr.casesOn<;>first|rfl|cases hst
 obtain⟨b,hb⟩:=Dt elt [⟨t',iter,ifs,0⟩] sco cpos t pos.line fx.env;dsimp only;rw[exec_Assign,hb];refine ab (wpAny_standAt (ab (ah ?_)));induction b with
 |true=>
  rw[ac rfl];rw[e1];refine ab ?_;show wpAny _ _ (do let _ ←comprehension (.ListComp elt [⟨t',iter,ifs,0⟩] sco cpos) sco fx.env _ (newList []) false (eval iter fx.env) (some (fun v=>assignAll v [assign t fx.env]))) _ _ _;refine ab (bj (xz (use:=some (fun v=>assignAll v [assign t fx.env])) (Q:=fun _ s'=>Q .next s') (Er:=Er) O hi htn hf he G (cO G FF hsc) (FL.locOk (ext:=ext) G FF hsc) C h1 fun W' h' tk Ca Da Ru us l H₃ n lW C' V hn hNC=>?_) (fun _ s' hq=>ah (ah hq)) fun _ _ x=>x);obtain⟨m₂,hm₂⟩:=hNC;obtain⟨W₂,l₂,C₄,V₄⟩:=vc C' V hn;show wpAny _ _ (assign t fx.env (.ref Da)) _ _ _;refine ht fx m ((Ca,Ru)::ext) cells ρ W₂ H₁ (sH s h' tk) v (.ref Da) _ _ r _ _ G FF (FL.mono (lW.trans l₂)) C₄ V₄ h2 fun W₃ h₃ tk₃ m₃ cells₃ l₃ FL₃ C₅=>?_;have hC:=(C₅.keep (Ca,Ru) (ax _ ak)).1;refine⟨m₂,hm₂.ns hC,fun h'' hs=>?_⟩;have C₆:=CR.extBut (its:=[(Ca,Ru)]) C₅ (h':=h'') fun b o hb e=>(hs.2 b (by simpa using hb)).trans e;exact hQ W₃ h'' tk₃ m₃ cells₃ .next (lW.trans (l₂.trans l₃)) FL₃ C₆ trivial
 |false=>
  rw[af be];refine ab (pA O hi htn hf he fx m (ext++cells) ρ W H s v H₁ r _ Er G (cO G FF hsc) (FL.locOk G FF hsc) C h1 fun W₁ h₁ tk₁ u l₁ C₁ V₁=>?_);rw[AN];refine ab (ah ?_);rw[e1];show wpAny _ _ (do assignAll u [assign t fx.env];pure Flow.next) _ _ _;refine ab ?_;show wpAny _ _ (assign t fx.env u) _ _ _;exact ht fx m ext cells ρ W₁ H₁ (sH s h₁ tk₁) v u _ _ r _ Er G FF (FL.mono l₁) C₁ V₁ h2 fun W' h' tk m' cells' l' FL' C'=>ah (hQ W' h' tk m' cells' .next (l₁.trans l') FL' C' trivial)
end
set_option tactic.hygienic true
def mH(cx:Cx)(RD:Nat)(sc:Sc)(e:Expr)(E:Ev):Prop:=∀(fx:Fx) (m:Str→Option Value) (RC:List (Addr×Obj)) (ρ:bJ) (W:Wd) (H:Hp) (s:Shared) (v:V) (H':Hp) (r:Nat) (Q:Value→Shared→Prop) (Er:Value→Shared→Prop),Good cx fx RD→GlobOk cx fx m RC sc→LocOk cx fx m RC sc ρ W→cx.CR fx m RC W H s.heap→E ρ r H=some (v,H')→ (H=H'→∀(tk:Nat) (u:Value),VR cx.K W v u→Q u (sH s s.heap tk))→wpAny cx.mo fx.A (eval e fx.env) Q Er s
def xG(cx:Cx)(RD:Nat)(sc:Sc)(e:Expr)(T:Tv):Prop:=∀(fx:Fx) (m:Str→Option Value) (RC:List (Addr×Obj)) (ρ:bJ) (W:Wd) (H:Hp) (s:Shared) (b:Bool) (H':Hp) (r:Nat) (Q:Bool→Shared→Prop) (Er:Value→Shared→Prop),Good cx fx RD→GlobOk cx fx m RC sc→LocOk cx fx m RC sc ρ W→cx.CR fx m RC W H s.heap→T ρ r H=some (b,H')→ (H=H'→∀(tk:Nat),Q b (sH s s.heap tk))→wpAny cx.mo fx.A (isTrue e fx.env (eval e fx.env)) Q Er s
section
variable{sco:Scope}{its:List (Addr×Obj)}
theorem mr:mH cx RD sc e aw:=fun _ _ _ _ _ _ _ _ _ _ _ _ _ _ _ _ h _=>nomatch h
theorem C4:xG cx RD sc e nU:=fun _ _ _ _ _ _ _ _ _ _ _ _ _ _ _ _ h _=>nomatch h
theorem G9{i:Int}:mH cx RD sc (.Constant (.int i) k pos) (ai (.int i)):=by
 intro fx m RC ρ W H s v' H' r Q Er G GG LL C hE hQ;simp only[ai,Option.some.injEq,Prod.mk.injEq]at hE;obtain⟨rfl,rfl⟩:=hE;exact fun _ _ _=>hQ rfl (s.toks+1) _ (.int i _)
theorem GX(h:sc.find x=some i):mH cx RD sc (.Name x pos) (aa i):=by
 intro fx m RC ρ W H s v' H' r Q Er G GG LL C hE hQ
 (conv at hE=>lhs;whnf)
 (refine Q0 hE ?_;clear hE;intro v hv hE)
 induction hE using QM;obtain⟨u,a,b⟩:=LL.loc x i _ h hv;exact b pos W H s _ _ C (hQ rfl s.toks u a)
theorem Fg(h:sc.isGlob x=true)(hu:nsIn cx.K mainGlobals x=some (some u))(hv:∀W,VR cx.K W v u):mH cx RD sc (.Name x pos) (ai v):=by
 intro fx m RC ρ W H s v' H' r Q Er G GG LL C hE hQ;simp only[ai,Option.some.injEq,Prod.mk.injEq]at hE;obtain⟨rfl,rfl⟩:=hE;exact(GG x h).1 u hu pos W H s _ _ C (hQ rfl s.toks u (hv W))
theorem IR{a b:Expr}(ha:mH cx RD sc a Ea)(hb:mH cx RD sc b Eb):mH cx RD sc (.Subscript a b pos) (aG Ea Eb):=by
 intro fx m RC ρ W H s v H' r Q Er G GG LL C hE hQ
 (conv at hE=>lhs;whnf)
 (refine Pn hE ?_;clear hE;intro x H₁ h1 hE)
 (refine Pn hE ?_;clear hE;intro y H₂ h2 hE)
 (refine Rt hE ?_;clear hE;intro v' h3 hE)
 induction hE using QM;refine Subscript_ (ha fx m RC ρ W H s x H₁ r _ Er G GG LL C h1 fun e1 tk₁ u₁ V₁=>?_);subst e1;refine hb fx m RC ρ W H (sH s s.heap tk₁) y _ r _ Er G GG LL C h2 fun e2 tk₂ u₂ V₂=>?_;subst e2;exact Ck G (s:=(sH s s.heap tk₂)) C V₁ V₂ h3 fun tk u V=>hQ rfl tk u V
theorem EX{o:CmpOp}{a b:Expr}(ha:mH cx RD sc a Ea)(hb:mH cx RD sc b Eb)(hs:∀x k p,b≠.Set x k p):xG cx RD sc (.Compare a [o] [b] pos) (aA (eZ o) Ea Eb):=by
 intro fx m RC ρ W H s t H' r Q Er G GG LL C hE hQ;obtain⟨x,H₁,y,h1,h2,h3⟩:=p8 hE;refine wpAny_isTrue_Compare1 (ha fx m RC ρ W H s x H₁ r _ Er G GG LL C h1 fun e1 tk₁ u₁ V₁=>?_) (tP (E:=Eb) hs o);subst e1;refine hb fx m RC ρ W H (sH s s.heap tk₁) y _ r _ Er G GG LL C h2 fun e2 tk₂ u₂ V₂=>?_;subst e2;exact dL G (s:=(sH s s.heap tk₂)) C V₁ V₂ h3 fun tk'=>wpAny_truthy_bool (hQ rfl tk')
theorem tB{f:Expr→Tv}:∀{ifs:List Expr} (h:∀e∈ifs,xG cx RD sc e (f e)) {H H':Hp} {s:Shared} {b:Bool} {Q:Bool→Shared→Prop} {Er:Value→Shared→Prop} (G:Good cx fx RD) (GG:GlobOk cx fx m RC sc) (LL:LocOk cx fx m RC sc ρ W) (C:cx.CR fx m RC W H s.heap) (hE:iU (ifs.map f) ρ r H=some (b,H')) (hQ:H=H'→∀(tk:Nat),Q b (sH s s.heap tk)),wpAny cx.mo fx.A (i4 fx.env ifs true) Q Er s:=by
 intro zz;induction zz with
 |nil=>
  intro h H H' s b Q Er G GG LL C hE hQ
  (refine QU hE ?_;clear hE;intro e;cases e)
  exact ah (hQ rfl s.toks)
 |cons c ifs ih=>
  intro h H H' s b Q Er G GG LL C hE hQ;unfold i4;rw[List.forIn_cons];rw[ac rfl];refine ab (ab ?_);refine Gu hE ?_ ?_<;>clear hE
  ·intro H₁ h1 hE;refine h c ak fx m RC ρ W H s _ _ r _ Er G GG LL C h1 fun e1 tk₁=>ah ?_;subst e1;exact ih (s:=(sH s s.heap tk₁)) (fun e he=>h e (aD _ he)) G GG LL C hE fun e2 tk₂=>hQ e2 tk₂
  ·intro H₁ h1 hE;induction hE using QM;refine h c ak fx m RC ρ W H s _ _ r _ Er G GG LL C h1 fun e1 tk₁=>ah ?_;exact k6 (hQ e1 tk₁) ifs
def EN(M:Model)(A:Around)(R:Result→Shared→Prop)(target:Expr)(ifs:List Expr)(kx vx:Expr)(D:Addr)(env:Env)(I:Nat→Shared→Prop)(n:Nat)(Er:Value→Shared→Prop):Option Value→Shared→Prop
 |none,s=>R (.ok .next) s
 |some u,s=>wpAny M A (assign target env u) (fun _ s₂=>wpAny M A (i4 env ifs true) (fun ok s₃=>
   if ok=true then wpAny M A (eval kx env) (fun x s₄=>wpAny M A (eval vx env) (fun y s₅=>wpAny M A (dictSet D x y) (fun _ s₆=>∃m,m<n∧I m s₆) Er s₅) Er s₄) Er s₃ else∃m,m<n∧I m s₃) Er s₂) Er s
theorem nY{R:Result→Shared→Prop}{kx vx target:Expr}(I:Nat→Shared→Prop) (turn:∀n s (Er:Value→Shared→Prop),I n s→wpAny (model prog w) A (pyNext (.ref a)) (fun r s₁=>EN (model prog w) A R target ifs kx vx D env I n Er r s₁) Er s) (n:Nat) (h:I n s) (ht:∀v,letOwnedTupleGo target (.ref a) v=pure ()):codeAny (model prog w) A (.compLoop (.DictComp kx vx [⟨target,iter,ifs,0⟩] scope pos) 0 (.ref a) (.ref D) env) R s:=by
 refine codeAny_compLoop_testsD I (fun n s hI=>?_) n h ht;refine bj (turn n s _ hI) (fun r s₁ h₁=>?_) fun _ _ x=>x;induction r with
 |none=>exact h₁
 |some u=>exact h₁
inductive AccR(cx:Cx)(W:Wd)(D:Addr)(oD:Obj)(l:List (V×V)):Prop
 |int (kvs:List (Int×Value)):(∀h:Heap,h.get? D=some oD→h.DictOf (intKind PP cx.w) D kvs)→l.map (·.1)=kvs.map (fun p=>V.int p.1)→VRs cx.K W (l.map (·.2)) (kvs.map (·.2))→AccR cx W D oD l
 |str (kvs:List (Str×Value)):(∀h:Heap,h.get? D=some oD→h.DictOf (PySem.strKind PP cx.w) D kvs)→l.map (·.1)=kvs.map (fun p=>V.str p.1.cps.toList)→VRs cx.K W (l.map (·.2)) (kvs.map (·.2))→AccR cx W D oD l
theorem tQ{KK:Type}[DecidableEq KK]{knd:KeyKind PP cx.w KK}{kvs:List (KK×Value)}(x:h.DictOf knd D kvs):∃o,h.get? D=some o∧notTuple o∧∀h':Heap,h'.get? D=some o→h'.DictOf knd D kvs:=by
 obtain⟨o,es,ep,ho,hc,r⟩:=x;refine⟨o,ho,fun⟨e,_⟩=>?_,fun h' e=>⟨o,es,ep,e,hc,r⟩⟩;rw[hc.1]at e;exact absurd e (by decide)
theorem Kg{oD:Obj}{l:List (V×V)}{k:V}{uk uv:Value}(R:AccR cx W D oD l)(hD:s.heap.get? D=some oD)(hk:(cg k&&aW k l&&decide (l.length<900))=true)(V1:VR cx.K W k uk)(V2:VR cx.K W v uv){Q:Unit→Shared→Prop} (hQ:∀(h':Heap) (tk:Nat) (oD':Obj),Heap.SameBut D s.heap h'→h'.get? D=some oD'→notTuple oD'→AccR cx W D oD' (gM l k v)→Q () (sH s h' tk)):wpAny cx.mo A (dictSet D uk uv) Q Er s:=by
 simp only[aY,bp]at hk;obtain⟨⟨c1,c2⟩,c3⟩:=hk;have goI:∀(i:Int) (kvs:List (Int×Value)),k=.int i→s.heap.DictOf (intKind PP cx.w) D kvs→l.map (·.1)=kvs.map (fun p=>V.int p.1)→VRs cx.K W (l.map (·.2)) (kvs.map (·.2))→wpAny cx.mo A (dictSet D uk uv) Q Er s:=by
  rintro i kvs rfl d1 d2 d3;induction V1 using Rs;have nd:(kvs.map (·.1)).Nodup:=by obtain⟨_,_,_,_,_,_,_,_,nd⟩:=id d1;exact nd
  obtain⟨p1,p2⟩:=eX (enc:=V.int) ia V2 d2 nd d3 (k:=i);have hkl:kvs.length=l.length:=by have:=congrArg List.length d2;simpa using this.symm
  refine wpAny_dictSet_pairs (hsz:=ba (by omega)) (ry _ _ _ _) d1 fun h' hd' hs=>?_;obtain⟨o,ho,hn,hall⟩:=tQ hd';exact hQ h' _ o hs ho hn (.int _ hall p1 p2)
 have goS:∀(i:List Nat) (kvs:List (Str×Value)),k=.str i→s.heap.DictOf (PySem.strKind PP cx.w) D kvs→l.map (·.1)=kvs.map (fun p=>V.str p.1.cps.toList)→VRs cx.K W (l.map (·.2)) (kvs.map (·.2))→wpAny cx.mo A (dictSet D uk uv) Q Er s:=by
  rintro i kvs rfl d1 d2 d3;induction V1 using RB;have nd:(kvs.map (·.1)).Nodup:=by obtain⟨_,_,_,_,_,_,_,_,nd⟩:=id d1;exact nd
  obtain⟨p1,p2⟩:=eX (enc:=fun x:Str=>V.str x.cps.toList) jz V2 d2 nd d3 (k:=⟨i.toArray⟩);have hkl:kvs.length=l.length:=by have:=congrArg List.length d2;simpa using this.symm
  have e:(⟨i.toArray⟩:Str).cps.toList=i:=by simp
  rw[e]at p1 p2;refine wpAny_dictSet_pairs (hsz:=ba (by omega)) (rj _ _ _ _) d1 fun h' hd' hs=>?_;obtain⟨o,ho,hn,hall⟩:=tQ hd';exact hQ h' _ o hs ho hn (.str _ hall p1 p2)
 induction l using jL with
 |nil=>
  cases R with
  |int kvs d1 d2 d3=>
   have:kvs=[]:=by induction kvs using jL with|nil=>rfl|cons=>simp at d2
   subst this;induction k using cW<;>first|((first|exact CS c1|cases c1);done)|skip
   ·exact goI _ [] rfl (d1 _ hD) rfl .nil
   ·exact goS _ [] rfl (fG (cx:=cx) (d1 _ hD)) rfl .nil
  |str kvs d1 d2 d3=>
   have:kvs=[]:=by induction kvs using jL with|nil=>rfl|cons=>simp at d2
   subst this;induction k using cW<;>first|((first|exact CS c1|cases c1);done)|skip
   ·exact goI _ [] rfl (fG (cx:=cx) (d1 _ hD)) rfl .nil
   ·exact goS _ [] rfl (d1 _ hD) rfl .nil
 |cons p l=>
  unfold aW at c2;rw[List.all_cons]at c2;have c2:=(M6.mp c2).1;cases R with
  |int kvs d1 d2 d3=>
   have hk:∃j,p.1=.int j:=by induction kvs using jL with|nil=>simp at d2|cons q kvs=>simp only[List.map_cons,List.cons.injEq]at d2;exact⟨_,d2.1⟩
   obtain⟨j,hj⟩:=hk;rw[hj]at c2;induction k using cW<;>first|((first|exact CS c1|cases c1);done)|skip
   ·exact goI _ kvs rfl (d1 _ hD) d2 d3
   ·exact CS c2
  |str kvs d1 d2 d3=>
   have hk:∃j,p.1=.str j:=by induction kvs using jL with|nil=>simp at d2|cons q kvs=>simp only[List.map_cons,List.cons.injEq]at d2;exact⟨_,d2.1⟩
   obtain⟨j,hj⟩:=hk;rw[hj]at c2;induction k using cW<;>first|((first|exact CS c1|cases c1);done)|skip
   ·exact CS c2
   ·exact goS _ kvs rfl (d1 _ hD) d2 d3
theorem AccR.mono(h:W.le W'){oD:Obj}{l:List (V×V)}(x:AccR cx W D oD l):AccR cx W' D oD l:=by
 cases x with
 |int kvs a b c=>exact .int kvs a b (c.mono h)
 |str kvs a b c=>exact .str kvs a b (c.mono h)
inductive PE(cx:Cx)(fx:Fx)(m:Str→Option Value)(RC:List (Addr×Obj))(sc:Sc)(sco:Scope)(ρ:bJ)(s:Shared)(tn:Tn)(fs:List Tv)(Ek Ev':Ev)(ks:List V)(N ep x a D Ca:Nat)(ox:Obj)(r:Nat)(R:V×Hp)(W:Wd)(H:Hp):Nat→Shared→Prop
 |mk (h₃:Heap) (tk₂ j:Nat) (acc:List (V×V)) (oI oD Ru:Obj) (ρc:bJ):j≤N→(∀h:Heap,h.get? a=some oI→h.IsKeyIter a x j N ep)→h₃.get? x=some ox→CLoc cx sco sc Ru ρ ρc W→cx.CR fx m ((a,oI)::(D,oD)::(Ca,Ru)::RC) W H h₃→AccR cx W D oD acc→tu tn fs Ek Ev' (ks.drop j) acc ρc r H=some R→
  PE cx fx m RC sc sco ρ s tn fs Ek Ev' ks N ep x a D Ca ox r R W H (N+1-j) (sH s h₃ tk₂)
inductive PM(cx:Cx)(fx:Fx)(m:Str→Option Value)(pre RC:List (Addr×Obj))(sc:Sc)(sco:Scope)(ρ:bJ)(s:Shared)(x Ca:Addr)(ox:Obj)(W:Wd)(H:Hp)(ρ':bJ):Shared→Prop
 |mk (Ru:Obj) (h':Heap) (tk':Nat):CLoc cx sco sc Ru ρ ρ' W→cx.CR fx m (pre++(Ca,Ru)::RC) W H h'→h'.get? x=some ox→PM cx fx m pre RC sc sco ρ s x Ca ox W H ρ' (sH s h' tk')
theorem Fz{kx vx:Expr}(O:ij sc sco t iter)(htp:∀(a:Addr) v,letOwnedTupleGo t (.ref a) v=pure ()){Es:Ev}{f:Expr→Tv}{Ek Ev':Ev}(hi:aN cx RD sc iter Es)(ht:ik (qB sco sc) t=some tn)(hf:∀e∈ifs,xG cx RD (qB sco sc) e (f e)) (hk:mH cx RD (qB sco sc) kx Ek) (hv:mH cx RD (qB sco sc) vx Ev') {p':Pos} (G:Good cx fx RD) (GG:GlobOk cx fx m RC sc) (LL:LocOk cx fx m RC sc ρ W) (C:cx.CR fx m RC W H s.heap) (hE:up sco.names.length Es tn (ifs.map f) Ek Ev' ρ r H=some (v,H')) (hfin:∀(W':Wd) (h':Heap) (tk:Nat) (Ca Da:Addr) (Ru oD:Obj) (l:List (V×V)) (H₁:Hp),W.le W'→cx.CR fx m ((Da,oD)::(Ca,Ru)::RC) W' H₁ h'→AccR cx W' Da oD l→H₁.new r (.dict l)=some (v,H')→(∃m₂,LCg.NsObj Ru m₂)→compPost cx.mo fx.A Er none Q (.ref Da) Ca (.ok .next) (sH s h' tk)) :wpAny cx.mo fx.A (comprehension (.DictComp kx vx [⟨t,iter,ifs,0⟩] sco pos) sco fx.env p' newDict false (eval iter fx.env) none) Q Er s:=by
 (conv at hE=>lhs;whnf)
 (refine P6 hE ?_;clear hE;intro r1 i1 H₁ h1 hE)
 (refine QW hE ?_;clear hE;intro l hg hE)
 refine wpAny_comprehension_free rfl (fun x=>by
  show foldedSetIterable iter fx.env x=pure x;have:=O.set;induction iter using Expr.casesOn<;>first|rfl|cases this) (nz (xy O LL)) O.kind O.nm ?_
 refine hi fx m RC ρ W H s _ H₁ r _ Er G GG LL C h1 fun W₁ h₁ tk₁ us l₁ C₁ V₁=>?_;obtain⟨x,rfl,hat,hlen,hD₁⟩:=CR.dict (s:=(sH s h₁ tk₁)) C₁ V₁ hg;have hs:=CR.notSys (s:=(sH s h₁ tk₁)) C₁ G ⟨x,none,hat,.inl rfl⟩;have go:∀{KK:Type} [DecidableEq KK] (knd:KeyKind PP cx.w KK) (enc:KK→V) (kvs:List (KK×Value)),h₁.DictOf knd x kvs→l.map (·.1)=kvs.map (fun p=>enc p.1)→(∀k u,knd.is k u=true→VR cx.K W₁ (enc k) u)→
   wpAny cx.mo fx.A (pyIter (.ref x)) (fun it s₂=>wpAny cx.mo fx.A newDict (fun acc s₃=>wpAny cx.mo fx.A (newFunctionEnv sco fx.env.globals (fS fx.env sco.names []) [] fx.env.qual none .none (some fx.env)) (fun cenv s₄=>
    codeAny cx.mo fx.A (.compStart (.DictComp kx vx [⟨t,iter,ifs,0⟩] sco pos) 0 it acc {cenv with scope:=relabel sco fx.env}) (compPost cx.mo fx.A Er none Q acc cenv.locals) s₄) Er s₃) Er s₂) Er (sH s h₁ tk₁):=by
  intro KK _ knd enc kvs hd hkeys henc;obtain⟨ep,ox,oes,hox,hor⟩:=hd.dictAt;have hDA:∀h:Heap,h.get? x=some ox→h.DictAt knd x kvs ep:=fun h e=>⟨ox,oes,e,hor⟩;have hkl:kvs.length=l.length:=by have:=congrArg List.length hkeys;simpa using this.symm
  refine wpAny_pyIter_dict (s:=(sH s h₁ tk₁)) hs (hDA _ hox) ?_;have C₁':=C₁.pushAux {cls:=.type "dict_keyiterator",data:=.fields #[.ref x,.int 0 0,.int kvs.length 0,.int ep 0]} rfl (bT rfl);have hox':(h₁.push {cls:=.type "dict_keyiterator",data:=.fields #[.ref x,.int 0 0,.int kvs.length 0,.int ep 0]}).get? x=some ox:=bu _ hox;have hlt:x<h₁.objs.size:=aZ hox;generalize hHI:h₁.push {cls:=.type "dict_keyiterator",data:=.fields #[.ref x,.int 0 0,.int kvs.length 0,.int ep 0]}=hI at C₁' hox'⊢;have hitI:∀h:Heap,h.get? h₁.objs.size=some ({cls:=.type "dict_keyiterator",data:=.fields #[.ref x,.int 0 0,.int kvs.length 0,.int ep 0]}:Obj)→h.IsKeyIter h₁.objs.size x 0 kvs.length ep:=fun h e=>⟨_,e,rfl,rfl⟩;generalize hoI:({cls:=.type "dict_keyiterator",data:=.fields #[.ref x,.int 0 0,.int kvs.length 0,.int ep 0]}:Obj)=oI at C₁' hitI;generalize hIa:h₁.objs.size=a at C₁' hitI hlt⊢;refine wpAny_newObj_type (wpAny_newFunctionEnv O.cell (by intro y hy;simp at hy) (fun h₂ hns₂ hsb₂=>?_) O.kind);dsimp only at hns₂ hsb₂⊢;have C₂:=C₁'.pushAux {cls:=.type "dict",dict:=none,data:=.dict #[]} rfl (fun⟨e,_⟩=>by simp at e);have hoxD:(hI.push {cls:=.type "dict",dict:=none,data:=.dict #[]}).get? x=some ox:=bu _ hox';have hacc:∀h:Heap,h.get? hI.objs.size=some ({cls:=.type "dict",dict:=none,data:=.dict #[]}:Obj)→h.DictOf (intKind PP cx.w) hI.objs.size []:=fun h e=>⟨_,_,_,e,⟨rfl,rfl,rfl⟩,rfl,fun e he=>by simp at he,.nil,by simp⟩;generalize hH2:hI.push {cls:=.type "dict",dict:=none,data:=.dict #[]}=h₁' at hns₂ hsb₂ C₂ hoxD⊢;have C₃:=C₂.pushAux {cls:=.type "dict",data:=.dict #[]} rfl (fun⟨e,_⟩=>by simp at e);have hlt':x<h₁'.objs.size:=aZ hoxD;have hox₂:h₂.get? x=some ox:=(hsb₂.2 x (bf hlt')).trans (bu _ hoxD);obtain⟨Ru,hoC,hNC⟩:=LCg.ns_obj hns₂;have C₄:=CR.updAux (pre:=[]) C₃ hsb₂ hoC (fun⟨_,a,n,e⟩=>by obtain⟨es,ep,hd,_⟩:=hNC;rw[hd]at e;cases e);generalize hoD:({cls:=.type "dict",dict:=none,data:=.dict #[]}:Obj)=oD at C₄ hacc;generalize hI.objs.size=D at C₄ hacc⊢;generalize h₁'.objs.size=Ca at C₄⊢;have C₅:cx.CR fx m ((a,oI)::(D,oD)::(Ca,Ru)::RC) W₁ H₁ h₂:=by
   refine CR.perm C₄ ?_;show((Ca,Ru)::(D,oD)::(a,oI)::RC).Perm _;exact(List.Perm.swap _ _ _).trans (((List.Perm.swap _ _ _).cons _).trans ((List.Perm.swap _ _ _).trans (List.Perm.refl _)))
  generalize s.toks=tk0 at *;have CL₀:CLoc cx sco sc Ru ρ (ρ++List.replicate sco.names.length none) W₁:=by
   have hlen:=LL.len O.out;refine⟨by simp[hlen],fun i hi=>by rw[cD (Nat.lt_of_lt_of_eq ‹_› (Eq.symm ‹_›))],_,hNC,fun x i v hx hv=>?_⟩;have hge:=(aK hx).2;rw[bB (by omega),List.getElem?_replicate]at hv;split at hv<;>(first|(refine QU hv ?_;clear hv;intro e;cases e)|exact Rk hv)
  have loop:∀s₃:Shared,(∃tk,s₃=(sH s h₂ tk))→codeAny cx.mo fx.A (.compLoop (.DictComp kx vx [⟨t,iter,ifs,0⟩] sco pos) 0 (.ref a) (.ref D) (compEnvC sco (fS fx.env sco.names []) Ca fx.env)) (compPost cx.mo fx.A Er none Q (.ref D) Ca) s₃:=by
   intro s₃ zq;obtain⟨tk3,rfl⟩:=zq;refine nY (PE cx fx m RC sc sco ρ s tn (ifs.map f) Ek Ev' (l.map (·.1)) kvs.length ep x a D Ca ox r (v,H') W₁ H₁) ?_ (kvs.length+1) (.mk h₂ tk3 0 [] oI oD Ru _ (Nat.zero_le _) hitI hox₂ CL₀ C₅ (.int [] hacc rfl .nil) hE) (htp a);intro k s' Er' zq;induction zq;rename_i h₃ tk₂ j acc oI' oD' oC' ρc hj hit hox₃ CL₂ C₆ R₂ hgo;have hita:=hit h₃ (C₆.keep (a,oI') (ax _ ak)).1;have hxa:x≠a:=fun e=>(C₆.ap r1 i1 x ⟨x,none,hat,.inl rfl⟩).2.2 (a,oI') (ax _ ak) e.symm;have hxD:x≠D:=fun e=>(C₆.ap r1 i1 x ⟨x,none,hat,.inl rfl⟩).2.2 (D,oD') (ax _ (aD _ ak)) e.symm;have hxC:x≠Ca:=fun e=>(C₆.ap r1 i1 x ⟨x,none,hat,.inl rfl⟩).2.2 (Ca,oC') (ax _ (aD _ (aD _ ak))) e.symm;by_cases hlt:j<kvs.length
   ·obtain⟨kk,xx,hkx⟩:∃kk xx,kvs[j]?=some (kk,xx):=⟨kvs[j].1,kvs[j].2,by rw[ay hlt]⟩;have hdrop:(l.map (·.1)).drop j=enc kk::(l.map (·.1)).drop (j+1):=by
     have e:(l.map (·.1))[j]?=some (enc kk):=by rw[hkeys,aB,hkx];rfl
     obtain⟨hlt2,e2⟩:=Ok.mp e;rw[List.drop_eq_getElem_cons hlt2,e2]
    rw[hdrop]at hgo
    (conv at hgo=>lhs;whnf)
    (refine Ri hgo ?_;clear hgo;intro ρ₃ hbind hgo)
    refine wpAny_pyNext_dict_item (s:=(sH s h₃ tk₂)) hita (hDA _ hox₃) hkx fun key h₄ hkey hit' hs₄=>?_;obtain⟨oI₂,hoI₂,hcI,hdI⟩:=id hit';have C₇:=CR.updAux (pre:=[]) C₆ hs₄ hoI₂ (bT hdI);have hox₄:h₄.get? x=some ox:=(hs₄.2 x hxa).trans hox₃;show wpAny _ _ (assign t (compEnvC sco (fS fx.env sco.names []) Ca fx.env) key) _ _ _;refine g8 (cx:=cx) (W:=W₁) (J:=PM cx fx m [(a,oI₂),(D,oD')] RC sc sco ρ s x Ca ox W₁ H₁) G.hh (qB sco sc) (fun x=>pE (qB sco sc) x=true) ?_ ?_ ?_ (rT O.loc) ht hbind (henc _ _ hkey) (.mk oC' h₄ tk₂ CL₂ C₇ hox₄) ?_
    ·intro l u ρ s' zq;induction zq;rename_i oC₂ h' tk' CL' C' hx';intro V;exact CR.tuple (s:=(sH s h' tk')) C' G.X V
    ·intro ρ s' h'' zq;induction zq;rename_i oC₂ h' tk' CL' C' hx';intro hk;exact .mk oC₂ h'' tk' CL' (CR.ext C' hk) (hk _ _ hx')
    ·intro y i v u ρ' s' Q' hP hy zq;induction zq;rename_i oC₂ h' tk' CL' C' hx';intro V hQ';exact ya (s:=(sH s h' tk')) G O CL' C' (ul hP hy) V fun h'' tk'' oC₃ hsC CL'' C''=>hQ' _ (.mk oC₃ h'' tk'' CL'' C'' ((hsC.2 x hxC).trans hx'))
    ·intro s' zq;induction zq;rename_i oC₂ h' tk' CL' C' hx';have hsub:RC.Sublist ([(a,oI₂),(D,oD')]++(Ca,oC₂)::RC):=(List.sublist_cons_self _ _).trans (List.sublist_append_right _ _);have hmem:(Ca,oC₂)∈[(a,oI₂),(D,oD')]++(Ca,oC₂)::RC:=ax _ ak;have Gc:=HX (C:=Ca) G O;have GGc:GlobOk cx (fx.at (compEnvC sco (fS fx.env sco.names []) Ca fx.env)) m ([(a,oI₂),(D,oD')]++(Ca,oC₂)::RC) (qB sco sc):=KJ G O;have LLc:=GN (C:=Ca) (auxC:=[(a,oI₂),(D,oD')]++(Ca,oC₂)::RC) G O (LL.mono l₁) CL' hsub hmem;have hitn:∀h:Heap,h.get? a=some oI₂→h.IsKeyIter a x (j+1) kvs.length ep:=fun h e=>⟨oI₂,e,hcI,hdI⟩;refine Gu hgo ?_ ?_<;>clear hgo
     ·intro H₄ h4 hgo;refine tB (fx:=fx.at (compEnvC sco (fS fx.env sco.names []) Ca fx.env)) (s:=(sH s h' tk')) hf Gc GGc LLc C'.toEnv h4 fun e4 tk₄=>?_;subst e4;rw[ac rfl]
      (refine Pn hgo ?_;clear hgo;intro y H₅ h5 hgo)
      refine hk (fx.at (compEnvC sco (fS fx.env sco.names []) Ca fx.env)) m _ ρ₃ W₁ H₁ (sH s h' tk₄) y H₅ r _ _ Gc GGc LLc C'.toEnv h5 fun e5 tk₅ uy V₅=>?_;subst e5
      (refine Pn hgo ?_;clear hgo;intro z H₆ h6 hgo)
      refine hv (fx.at (compEnvC sco (fS fx.env sco.names []) Ca fx.env)) m _ ρ₃ W₁ H₁ (sH s h' tk₅) z H₆ r _ _ Gc GGc LLc C'.toEnv h6 fun e6 tk₆ uz V₆=>?_;subst e6
      (refine PV hgo ?_;clear hgo;intro hkk hgo)
      have hD:=(C'.keep (D,oD') (ax _ (aT _ (aD _ ak)))).1;refine Kg (s:=(sH s h' tk₆)) R₂ hD hkk V₅ V₆ fun h₇ tk₇ oD₂ hs₇ hD₇ hn₇ R₇=>?_;have C₈:=CR.updAux (pre:=[(a,oI₂)]) C' hs₇ hD₇ hn₇;exact⟨kvs.length+1-(j+1),Nat.sub_lt_sub_left (Nat.lt_succ_of_lt hlt) (Nat.lt_succ_self j),.mk h₇ tk₇ (j+1) _ oI₂ oD₂ oC₂ ρ₃ hlt hitn ((hs₇.2 x hxD).trans hx') CL' C₈ R₇ hgo⟩
     ·intro H₄ h4 hgo;refine tB (fx:=fx.at (compEnvC sco (fS fx.env sco.names []) Ca fx.env)) (s:=(sH s h' tk')) hf Gc GGc LLc C'.toEnv h4 fun e4 tk₄=>?_;subst e4;rw[af be];exact⟨kvs.length+1-(j+1),Nat.sub_lt_sub_left (Nat.lt_succ_of_lt hlt) (Nat.lt_succ_self j),.mk h' tk₄ (j+1) acc oI₂ oD' oC₂ ρ₃ hlt hitn hx' CL' C' R₂ hgo⟩
   ·have hjn:j=kvs.length:=by omega
    have hdrop:(l.map (·.1)).drop j=[]:=by rw[List.drop_eq_nil_iff,ao,hjn,hkl];exact aS _
    rw[hdrop]at hgo
    (conv at hgo=>lhs;whnf)
    refine wpAny_pyNext_dict_end (s:=(sH s h₃ tk₂)) G.hh hita (hDA _ hox₃) (by rw[hjn];simp) fun h' he'=>?_;have C₇:=CR.extBut (its:=[(a,oI')]) C₆ (h':=h') fun b o hb e=>he' b o (by simpa using hb) e;obtain⟨m₂,hm₂,_⟩:=CL₂.loc;exact hfin W₁ h' tk₂ Ca D oC' oD' acc H₁ l₁ C₇ R₂ hgo ⟨m₂,hm₂⟩
  refine codeAny_compStart_dict (loop _ ⟨_,rfl⟩) ?_;exact wpAny_pyIter_keyiter (hitI _ (C₅.keep (a,oI) (ax _ ak)).1) (loop _ ⟨_,rfl⟩)
 obtain⟨x',dx',e1,e2,e3,e4⟩:=C₁.obj r1 i1 _ hg;rw[hat]at e1;induction e1 using QM;rcases e4 with⟨kvs,q,qk,_⟩|⟨kvs,q,qk,_⟩
 ·exact go (intKind PP cx.w) V.int kvs q qk fun k u hu=>by
   induction u using Value.casesOn<;>first|(simp[intKind,Value.isInt]at hu;done)|skip
   simp[intKind,Value.isInt]at hu;subst hu;exact .int _ _
 ·exact go (PySem.strKind PP cx.w) (fun x=>V.str x.cps.toList) kvs q qk fun k u hu=>by
   induction u using Value.casesOn<;>first|(simp[PySem.strKind,Value.isStrOf]at hu;done)|skip
   simp[PySem.strKind,Value.isStrOf]at hu;subst hu;rename_i k t;have:=VR.str (K:=cx.K) (W:=W₁) k.cps.toList t;have e:(⟨k.cps.toList.toArray⟩:Str)=k:=by cases k;simp
   rwa [e]at this
theorem yJ{kx vx:Expr}(O:ij sc sco t iter)(htp:∀(a:Addr) v,letOwnedTupleGo t (.ref a) v=pure ()){Es:Ev}{f:Expr→Tv}{Ek Ev':Ev}(hi:aN cx RD sc iter Es)(ht:ik (qB sco sc) t=some tn)(hf:∀e∈ifs,xG cx RD (qB sco sc) e (f e)) (hk:mH cx RD (qB sco sc) kx Ek) (hv:mH cx RD (qB sco sc) vx Ev'):aN cx RD sc (.DictComp kx vx [⟨t,iter,ifs,0⟩] sco pos) (up sco.names.length Es tn (ifs.map f) Ek Ev'):=by
 intro fx m RC ρ W H s v H' r Q Er G GG LL C hE hQ;dsimp only;rw[arm_eval_DictComp];refine Fz O htp hi ht hf hk hv G GG LL C hE fun W' h' tk Ca Da Ru oD l H₁ lW C' R hn hNC=>?_;obtain⟨m₂,hm₂⟩:=hNC;have hC:=(C'.keep (Ca,Ru) (ax _ (aD _ ak))).1;refine⟨m₂,hm₂.ns hC,fun h'' hs=>?_⟩;have C₂:=CR.perm C' (List.Perm.swap _ _ _);have C₃:=CR.extBut (its:=[(Ca,Ru)]) C₂ (h':=h'') fun b o hb e=>(hs.2 b (by simpa using hb)).trans e;have hD:=(C₃.keep (Da,oD) (ax _ ak)).1;have hf:=qi (Hp.get_new hn).choose_spec.2.2.2.1;have R':=R.mono (W':=W'.new r Da none) Wd.le_new;obtain⟨i,hv',hat,C₄⟩:=CR.absorb C₃ hn (h':=h'') ⟨rfl,fun _ _=>rfl⟩ (by
  cases R' with
  |int kvs a b c=>exact⟨rfl,hf,.inl ⟨kvs,a _ hD,b,c⟩⟩
  |str kvs a b c=>exact⟨rfl,hf,.inr ⟨kvs,a _ hD,b,c⟩⟩)
 exact hQ _ h'' tk _ (lW.trans Wd.le_new) C₄ (hv'▸.ref _ _ _ _ hat)
end
structure gX(cx:Cx)(RD:Nat)(Γ:Jh):Prop where
 kh:DL cx
 fields:Γ.fields=cx.names
 okf:Γ.okf=cx.okf
 vals:∀x v,Γ.vals.lookup x=some v→∃u,nsIn cx.K mainGlobals x=some (some u)∧∀W,VR cx.K W v u
 fns:∀x F,Γ.fns.lookup x=some F→∃a,nsIn cx.K mainGlobals x=some (some (.ref a))∧keepIn cx.K (.ref a)=true∧Callee cx RD a F
 bis:∀x b,Γ.bis.lookup x=some b→b.isSet=false∧nsIn cx.K mainGlobals x=some none∧bootBuiltins x=some (tC b)∧x≠"__name__"
 meths:∀x cands,Γ.meths.lookup x=some cands→IL cx RD x cands
 rng:nsIn cx.K mainGlobals "range" = some none
 rev:nsIn cx.K mainGlobals "reversed" = some none
 enu:nsIn cx.K mainGlobals "enumerate" = some none
 set:∀(sc:Sc) (f g:Str) (a:Expr) (p1 p2 p3 p4:Pos) (E:Ev),Γ.bis.lookup f=some .sorted→sc.isGlob f=true→(g==("set":Str))=true→sc.isGlob g=true→aN cx (RD+1) sc a E→(aH a=true→E=aw)→aN cx (RD+1) sc (.Call (.Name f p1) [.Call (.Name g p2) [a] [] p3] [] p4) (cK .sortedset [E])
section
variable{Γ:Jh}
theorem l7{o:Expr}{t:Sem Value}(h:vB o=true):attributeBase o x env t=t:=by
 rcases Bool.or_eq_true_iff.mp h with h|h
 ·exact Expr.Name.elim (motive_1:=fun o=>attributeBase o x env t=t) o (Nat.eq_of_beq_eq_true h) fun _ _=>rfl
 rcases Bool.or_eq_true_iff.mp h with h|h
 ·exact Expr.Attribute.elim (motive_1:=fun o=>attributeBase o x env t=t) o (Nat.eq_of_beq_eq_true h) fun _ _ _=>rfl
 rcases Bool.or_eq_true_iff.mp h with h|h
 ·exact Expr.Subscript.elim (motive_1:=fun o=>attributeBase o x env t=t) o (Nat.eq_of_beq_eq_true h) fun _ _ _=>rfl
 rcases Bool.or_eq_true_iff.mp h with h|h
 ·exact Expr.Constant.elim (motive_1:=fun o=>attributeBase o x env t=t) o (Nat.eq_of_beq_eq_true h) fun _ _ _=>rfl
 rcases Bool.or_eq_true_iff.mp h with h|h
 ·exact Expr.Dict.elim (motive_1:=fun o=>attributeBase o x env t=t) o (Nat.eq_of_beq_eq_true h) fun _ _ _=>rfl
 induction hc:lq o with
 |none=>rw[hc]at h;exact CS h
 |some q=>
  rw[hc]at h;induction hy:iR q.1 with
  |none=>dsimp only at h;rw[hy]at h;exact CS h
  |some y=>
   dsimp only at h;rw[hy]at h;obtain⟨p,rfl⟩:=qa hc;obtain⟨f,as,ks⟩:=q;obtain⟨p',hf⟩:=eQ hy;dsimp only at hf h⊢;subst hf;induction as using jL with
   |cons=>rfl
   |nil=>
    induction ks using jL with
    |cons=>rfl
    |nil=>
     have e:(y != "super")=true:=(Bool.or_false _).symm.trans h;exact ac (by rw[e];rfl)
theorem dB(h:aH e=true):bU Γ sc n e=aw:=by
 induction e using Expr.casesOn<;>first|((first|exact CS h|cases h);done)|skip
 induction n using jU<;>rfl
theorem Ba(h:eT e=true):bU Γ sc n e=aw:=by
 induction e using Expr.casesOn<;>first|((first|exact CS h|cases h);done)|skip
 induction n using jU<;>rfl
theorem tm(h:eT e=false):∀x k p,e≠.Set x k p:=by
 rintro x k p rfl;cases h
theorem Jz:∀{l:List Str} {n f:Nat},Jv x l n=some f→n≤f∧l[f-n]?=some x:=by
 intro zz;induction zz with
 |nil=>
  intro _ _ h;exact Rk h
 |cons y l ih=>
  intro n f h;unfold Jv at h;refine tR h ?_ ?_<;>clear h
  ·intro e h;induction h using QT;rw[iu.mp e];simp
  ·intro _ h;obtain⟨a,b⟩:=ih h;refine⟨Nat.le_of_succ_le a,?_⟩;have:f-n=(f-(n+1))+1:=by rw[Nat.sub_add_eq];exact(Nat.sub_add_cancel (Nat.sub_pos_of_lt a)).symm
   rw[this,List.getElem?_cons_succ];exact b
theorem ud(GO:gX cx RD Γ){f:Nat}(h:Jv x Γ.fields 0=some f):cx.names[f]?=some x:=by
 have:=(Jz h).2;rw[GO.fields]at this;simpa using this
structure Nq(cx:Cx)(RD:Nat)(Γ:Jh)(n:Nat):Prop where
 e:∀sc e,aN cx (RD+1) sc e (bU Γ sc n e)
 t:∀sc e,iT cx (RD+1) sc e (toT Γ sc n e)
 i:∀sc tgt e,EU tgt e=true→qu cx (RD+1) sc tgt e (toI Γ sc n e)
theorem fh:qu cx RD sc tgt e kU:=fun _ _ _ _ _ _ _ _ _ _ _ _ _ _ _ _ h _=>nomatch h
theorem E0{E:Ev}(h:∀ρ r H,E ρ r H=none):aN cx RD sc e E:=by
 intro fx m RC ρ W H s v H' r Q Er G GG LL C hE hQ;rw[h]at hE;exact Rk hE
theorem EL{E:Tv}(h:∀ρ r H,E ρ r H=none):iT cx RD sc e E:=by
 intro fx m RC ρ W H s v H' r Q Er G GG LL C hE hQ;rw[h]at hE;exact Rk hE
theorem AA{o:COp}:∀ρ r H,aA o Ea aw ρ r H=none:=by
 intro ρ r H;unfold aA aw;split<;>rfl
theorem yL(GO:gX cx RD Γ):∀n,mH cx (RD+1) sc (.Name x p) (bU Γ sc n (.Name x p))
 |0=>mr
 |n+1=>by
  show mH _ _ _ _ (match sc.find x with|some i=>aa i | .none=>if sc.isGlob x then(match Γ.vals.lookup x with|some v=>ai v | .none=>aw)else aw);induction hi:sc.find x with
  |some i=>exact GX hi
  |none=>
   refine pQ (fun hg=>?_) fun _=>mr;induction hv:Γ.vals.lookup x with
   |none=>exact mr
   |some v=>
    obtain⟨u,h1,h2⟩:=GO.vals x v hv;exact Fg hg h1 h2
theorem JR{c:Option Const}(h:Ng c=true):∃i,c=some (.int i):=by
 induction c with
 |none=>exact CS h
 |some c=>cases c<;>first|exact⟨_,rfl⟩|exact CS h
theorem KB{o:List CmpOp}(h:Nm o=true):o=[.NotEq]:=by
 rcases o with _|⟨a,_|⟨b,l⟩⟩
 ·exact CS h
 ·cases a<;>first|rfl|exact CS h
 ·cases a<;>exact CS h
theorem tz(GO:gX cx RD Γ)(h:Mg e=true):∀n,mH cx (RD+1) sc e (bU Γ sc n e)
 |0=>mr
 |n+1=>by
  rcases Bool.or_eq_true_iff.mp h with h|h
  ·obtain⟨x,hx⟩:=Option.isSome_iff_exists.mp h;obtain⟨p,rfl⟩:=eQ hx;exact yL GO _
  rcases Bool.or_eq_true_iff.mp h with h|h
  ·obtain⟨i,hi⟩:=JR h;obtain⟨k,p,rfl⟩:=GS hi;exact G9
  induction hc:BL e with
  |none=>rw[hc]at h;exact CS h
  |some q=>
   rw[hc]at h;obtain⟨h1,h2⟩:=M6.mp h;obtain⟨x,hx⟩:=Option.isSome_iff_exists.mp h1;obtain⟨y,hy⟩:=Option.isSome_iff_exists.mp h2;obtain⟨p,rfl⟩:=B4 hc;obtain⟨p1,h1⟩:=eQ hx;obtain⟨p2,h2⟩:=eQ hy;rw[h1,h2];exact IR (yL GO n) (yL GO n)
theorem J6(GO:gX cx RD Γ)(h:Oi e=true):∀n,xG cx (RD+1) sc e (toT Γ sc n e)
 |0=>C4
 |n+1=>by
  unfold Oi at h;induction hc:GJ e with
  |none=>rw[hc]at h;exact CS h
  |some q=>
   rw[hc]at h;obtain⟨h0,h⟩:=M6.mp h;obtain⟨h1,h⟩:=M6.mp h;induction hb:M9 q.2.2 with
   |none=>rw[hb]at h;exact CS h
   |some b=>
    rw[hb]at h;obtain⟨p,rfl⟩:=Gh hc;rw[KB h0,CB hb];refine EX (o:=.NotEq) (tz GO h1 n) (tz GO h n) fun x k p e=>?_;subst e;exact CS h
theorem Op{b:Bool}(h:¬(!b)=true):b=true:=by induction b using Bool.casesOn;exact absurd rfl h;rfl
theorem Qe{P:Ev→Prop}{x:Option Bi}{f d:Ev}{g:Bi→Ev}(k1:x=some .sorted→P f)(k2:∀b,x=some b→P (g b))(k0:P d):P (match(generalizing:=false) x with|some .sorted=>f|some b=>g b | .none=>d):=by
 rcases x with _|b
 ·exact k0
 ·induction b using Bi.casesOn<;>first|exact k1 rfl|exact k2 _ rfl
theorem DI(h:fk t=false)(hl:∀l p,t≠.List l p)(a:Addr)(v:Value):letOwnedTupleGo t (.ref a) v=pure ():=by
 induction t using Expr.casesOn<;>first|rfl|(cases h;done)|exact absurd rfl (hl _ _)
theorem GF(GO:gX cx RD Γ)(I:Nq cx RD Γ n):∀sc e,aN cx (RD+1) sc e (bU Γ sc (n+1) e):=by
 intro sc e;have hstar:∀es:List Expr,∀e∈es,aH e=true→bU Γ sc n e=aw:=fun es e _ h=>dB h;cases e with
 |Constant c k pos=>
  show aN _ _ _ _ (match Bk c with|some v=>ai v | .none=>aw);induction hv:Bk c with
  |some v=>exact Kl hv
  |none=>exact az
 |Name x pos=>
  show aN _ _ _ _ (match sc.find x with|some i=>aa i | .none=>if sc.isGlob x then(match Γ.vals.lookup x with|some v=>ai v | .none=>aw)else aw);induction hi:sc.find x with
  |some i=>exact JH hi
  |none=>
   refine pQ (fun hg=>?_) fun _=>az;induction hv:Γ.vals.lookup x with
   |none=>exact az
   |some v=>
    obtain⟨u,h1,h2⟩:=GO.vals x v hv;exact HT hg h1 h2
 |BinOp a o b pos=>
  show aN _ _ _ _ (match vi o with|some o=>aI o (bU Γ sc n a) (bU Γ sc n b) | .none=>aw);induction ho:vi o with
  |some o'=>exact J8 ho (I.e sc a) (I.e sc b)
  |none=>exact az
 |UnaryOp o a pos=>
  induction o with
  |USub=>exact JS (I.e sc a)
  |Not=>exact JD (I.e sc a)
  |Invert=>exact az
  |UAdd=>exact az
 |BoolOp o es pos=>
  induction o with
  |And=>exact I1 fun e _=>I.e sc e
  |Or=>exact J3 fun e _=>I.e sc e
 |Compare a ops bs pos=>
  rcases ops with _|⟨o,_|⟨o',_|⟨o'',ops⟩⟩⟩
  ·exact az
  ·rcases bs with _|⟨b,_|⟨b',bs⟩⟩
   ·exact az
   ·show aN _ _ _ _ (bE (aA (eZ o) (bU Γ sc n a) (bU Γ sc n b)));induction hb:eT b with
    |false=>exact JA (I.e sc a) (I.e sc b) (tm hb)
    |true=>
     rw[Ba hb];exact E0 fun ρ r H=>by unfold bE;rw[AA]
   ·exact az
  ·rcases bs with _|⟨b,_|⟨c,_|⟨c',bs⟩⟩⟩
   ·exact az
   ·exact az
   ·show aN _ _ _ _ (if eT c then aw else bE (gy (eZ o) (eZ o') (bU Γ sc n a) (bU Γ sc n b) (bU Γ sc n c)));induction hb:eT c with
    |false=>exact HK (I.e sc a) (I.e sc b) (I.e sc c) (tm hb)
    |true=>exact az
   ·exact az
  ·exact az
 |IfExp t a b pos=>exact Li (I.t sc t) (I.e sc a) (I.e sc b)
 |Tuple es k pos=>exact ER (fun e _=>I.e sc e) (hstar es)
 |List es pos=>exact Fa (fun e _=>I.e sc e) (hstar es)
 |Dict ks vs pos=>
  show aN _ _ _ _ (match gj ks with|some ks=>if ks.length=vs.length∧ks.length≤15 then bN ((ks.zip vs).map fun p=>(bU Γ sc n p.1,bU Γ sc n p.2))else aw | .none=>aw);induction hk:gj ks with
  |some ks'=>
   rw[f0 hk];exact pQ (fun hl=>E9 (fun p _=>⟨I.e sc p.1,I.e sc p.2⟩) hl.1 hl.2) fun _=>az
  |none=>exact az
 |Attribute a x pos=>
  show aN _ _ _ _ (if vB a then(match Jv x Γ.fields 0 with|some f=>ae (bU Γ sc n a) f | .none=>aw)else aw);refine pQ (fun hb=>?_) fun _=>az;induction hf:Jv x Γ.fields 0 with
  |some f=>exact Je GO.kh (I.e sc a) (ud GO hf) fun env t=>l7 hb
  |none=>exact az
 |Subscript a i pos=>
  cases i with
  |Slice lo hi st p=>
   induction st with
   |none=>exact FZ (I.e sc a) (fun e _=>I.e sc e) (fun e _=>I.e sc e)
   |some st=>exact Ez (I.e sc a) (I.e sc _)
  |_=>exact Ez (I.e sc a) (I.e sc _)
 |ListComp elt gens s pos=>
  rcases gens with _|⟨⟨t,iter,ifs,as⟩,_|⟨g,gens⟩⟩
  ·exact az
  ·rcases as with(_|k)|k
   ·show aN _ _ _ _ (if nF sc s t iter then(match ik ⟨s.names,sc.kinds.length,some sc.kinds⟩ t with|some tn=>bo s.names.length (toI Γ sc n iter) tn (ifs.map (toT Γ ⟨s.names,sc.kinds.length,some sc.kinds⟩ n)) (bU Γ ⟨s.names,sc.kinds.length,some sc.kinds⟩ n elt) | .none=>aw)else aw);refine pQ (fun hc=>?_) fun _=>az;induction ht:ik ⟨s.names,sc.kinds.length,some sc.kinds⟩ t with
    |some tn=>
     have O:=qD hc;exact pA O (I.i sc t iter O.en) ht (fun e _=>I.t _ e) (I.e _ elt)
    |none=>exact az
   ·exact az
   ·exact az
  ·rcases as with(_|k)|k<;>exact az
 |DictComp kx vx gens s pos=>
  rcases gens with _|⟨⟨t,iter,ifs,as⟩,_|⟨g,gens⟩⟩
  ·exact az
  ·rcases as with(_|k)|k
   ·show aN _ _ _ _ (if nF sc s t iter && !fk t&&ifs.all Oi&&Mg kx&&Mg vx then(match ik ⟨s.names,sc.kinds.length,some sc.kinds⟩ t with|some tn=>up s.names.length (bU Γ sc n iter) tn (ifs.map (toT Γ ⟨s.names,sc.kinds.length,some sc.kinds⟩ n)) (bU Γ ⟨s.names,sc.kinds.length,some sc.kinds⟩ n kx) (bU Γ ⟨s.names,sc.kinds.length,some sc.kinds⟩ n vx) | .none=>aw)else aw);refine pQ (fun hc=>?_) fun _=>az;obtain⟨hc,c5⟩:=M6.mp hc;obtain⟨hc,c4⟩:=M6.mp hc;obtain⟨hc,c3⟩:=M6.mp hc;obtain⟨c1,c2⟩:=M6.mp hc;induction ht:ik ⟨s.names,sc.kinds.length,some sc.kinds⟩ t with
    |some tn=>
     have O:=qD c1;have c2:fk t=false:=by simpa using c2
     refine yJ O (fun a v=>DI c2 (fun l p e=>?_) a v) (I.e sc iter) ht (fun e he=>J6 GO (pI.mp c3 e he) n) (tz GO c4 n) (tz GO c5 n);subst e;exact Rk ht
    |none=>exact az
   ·exact az
   ·exact az
  ·rcases as with(_|k)|k<;>exact az
 |Call fn args kw pos=>
  induction kw using jL with
  |cons=>induction fn using Expr.casesOn<;>exact az
  |nil=>
   cases fn with
   |Attribute o x apos=>
    show aN _ _ _ _ (if !(vB o&&(apos.endLine==pos.line)&&Nat.ble args.length 29)then aw
     else if x==("append":Str)then(match args with|[a]=>fE (bU Γ sc n o) (bU Γ sc n a)|_=>aw)
     else if x==("get":Str)then(match args with|[a]=>mE (bU Γ sc n o) (bU Γ sc n a) .none|[a,b]=>mE (bU Γ sc n o) (bU Γ sc n a) (some (bU Γ sc n b))|_=>aw)
     else if x==("join":Str)then(match args with|[a]=>qZ (bU Γ sc n o) (bU Γ sc n a)|_=>aw)
     else(match Γ.meths.lookup x with|some cands=>gG cands (bU Γ sc n o) (args.map (bU Γ sc n)) | .none=>aw))
    refine pQ (fun _=>az) fun hc=>?_;obtain⟨c1,c3⟩:=M6.mp (Op hc);obtain⟨c1,c2⟩:=M6.mp c1;refine pQ (fun hx=>?_) fun _=>pQ (fun hx=>?_) fun _=>pQ (fun hx=>?_) fun _=>?_
    ·obtain rfl:=iu.mp hx;rcases args with _|⟨a,_|⟨b,l⟩⟩
     ·exact az
     ·exact Dx (I.e sc o) (I.e sc _) (fun h=>dB h) c2 fun env t=>l7 c1
     ·exact az
    ·obtain rfl:=iu.mp hx;rcases args with _|⟨a,_|⟨b,_|⟨c,l⟩⟩⟩
     ·exact az
     ·exact Ed (d:=none) (I.e sc o) (I.e sc a) (fun d' h=>by exact Rk h) (fun h=>dB h) (fun d' h=>by exact Rk h) c2 fun env t=>l7 c1
     ·exact Ed (d:=some b) (I.e sc o) (I.e sc a) (fun d' h=>I.e sc d') (fun h=>dB h) (fun d' _ h=>dB h) c2 fun env t=>l7 c1
     ·exact az
    ·obtain rfl:=iu.mp hx;rcases args with _|⟨a,_|⟨b,l⟩⟩
     ·exact az
     ·exact Gy (I.e sc o) (I.e sc _) (fun h=>dB h) c2 fun env t=>l7 c1
     ·exact az
    ·induction hm:Γ.meths.lookup x with
     |some cands=>exact Gl (I.e sc o) (fun e _=>I.e sc e) (hstar args) (Nat.lt_succ_of_le (bv c3)) c2 (fun env t=>l7 c1) (GO.meths x cands hm)
     |none=>exact az
   |Name f p=>
    show aN _ _ _ _ (if sc.isGlob f then(match Γ.fns.lookup f with
     |some F=>aj F (args.map (bU Γ sc n))
     |.none=>(match Γ.bis.lookup f with
      |some .sorted=>(match yf sc args with|some a=>cK .sortedset [bU Γ sc n a] | .none=>cK .sorted (args.map (bU Γ sc n)))
      |some b=>cK b (args.map (bU Γ sc n))
      |.none=>aw))else aw)
    refine pQ (fun hg=>?_) fun _=>az;induction hF:Γ.fns.lookup f with
    |some F=>
     obtain⟨a,h1,h2,h3⟩:=GO.fns f F hF;exact zY (fun e _=>I.e sc e) (hstar args) hg h1 h2 h3
    |none=>
     show aN _ _ _ _ (match Γ.bis.lookup f with|some .sorted=>_|some b=>_ | .none=>_);refine Qe (P:=aN _ _ _ _) (fun hb=>?_) (fun b hb=>?_) az
     ·obtain⟨b1,b2,b3,b4⟩:=GO.bis f _ hb;induction ha:yf sc args with
      |some a=>
       obtain⟨g,p2,p3,rfl,s1,s2⟩:=Ff ha;exact GO.set sc f g a _ _ _ _ _ hb hg s1 s2 (I.e sc a) (fun h=>dB h)
      |none=>exact I4 b1 (fun e _=>I.e sc e) (hstar args) hg b2 b3 b4
     ·obtain⟨b1,b2,b3,b4⟩:=GO.bis f b hb;exact I4 b1 (fun e _=>I.e sc e) (hstar args) hg b2 b3 b4
   |_=>exact az
 |_=>exact az
end
section
variable{cx:Cx}{RD:Nat}{Γ:Jh}
theorem EJ(GO:gX cx RD Γ)(I:Nq cx RD Γ n):∀sc e,iT cx (RD+1) sc e (toT Γ sc (n+1) e):=by
 intro sc e;cases e with
 |UnaryOp o a pos=>
  induction o with
  |Not=>exact HC (I.t sc a)
  |USub=>exact kp (I.e sc _) (fun _ _=>rfl)
  |Invert=>exact kp (I.e sc _) (fun _ _=>rfl)
  |UAdd=>exact kp (I.e sc _) (fun _ _=>rfl)
 |BoolOp o es pos=>
  induction o with
  |And=>exact Jf fun e _=>I.t sc e
  |Or=>exact JJ fun e _=>I.t sc e
 |Compare a ops bs pos=>
  rcases ops with _|⟨o,_|⟨o',_|⟨o'',ops⟩⟩⟩
  ·exact du
  ·rcases bs with _|⟨b,_|⟨b',bs⟩⟩
   ·exact du
   ·show iT _ _ _ _ (aA (eZ o) (bU Γ sc n a) (bU Γ sc n b));induction hb:eT b with
    |false=>exact HB (I.e sc a) (I.e sc b) (tm hb)
    |true=>
     rw[Ba hb];exact EL AA
   ·exact du
  ·rcases bs with _|⟨b,_|⟨c,_|⟨c',bs⟩⟩⟩
   ·exact du
   ·exact du
   ·show iT _ _ _ _ (if eT c then nU else gy (eZ o) (eZ o') (bU Γ sc n a) (bU Γ sc n b) (bU Γ sc n c));induction hb:eT c with
    |false=>exact FJ (I.e sc a) (I.e sc b) (I.e sc c) (tm hb)
    |true=>exact du
   ·exact du
  ·exact du
 |IfExp t a b pos=>exact du
 |_=>exact kp (I.e sc _) (fun _ _=>rfl)
theorem Fs(GO:gX cx RD Γ)(I:Nq cx RD Γ n):∀sc tgt e,EU tgt e=true→qu cx (RD+1) sc tgt e (toI Γ sc (n+1) e):=by
 intro sc tgt e hen;show qu _ _ _ _ _ (match lq e with
  |some (g,args,[])=>(match iR g with
   |some f=>
    if f==("range":Str)then(if sc.isGlob f then bk (args.map (bU Γ sc n))else kU)
    else if f==("reversed":Str)then(match args with|[a]=>if sc.isGlob f then C2 (bU Γ sc n a)else kU|_=>kU)
    else if f==("enumerate":Str)then(match args with|[a]=>if sc.isGlob f then rA (bU Γ sc n a)else kU|_=>kU)
    else bn (bU Γ sc n e)
   |.none=>bn (bU Γ sc n e))
  |_=>bn (bU Γ sc n e))
 induction hc:lq e with
 |none=>exact oi (I.e sc _)
 |some q=>
  obtain⟨g,args,kw⟩:=q;induction kw using jL with
  |cons=>exact oi (I.e sc _)
  |nil=>
   obtain⟨pos,rfl⟩:=qa hc;show qu _ _ _ _ _ (match iR g with|some f=>_ | .none=>_);induction hg:iR g with
   |none=>exact oi (I.e sc _)
   |some f=>
    obtain⟨p,rfl⟩:=eQ hg;refine pQ (fun hf=>?_) fun _=>pQ (fun hf=>?_) fun _=>pQ (fun hf=>?_) fun _=>oi (I.e sc _)
    ·obtain rfl:=iu.mp hf;exact pQ (fun hg=>CK (fun e _=>I.e sc e) (fun e _ h=>dB h) hg GO.rng) fun _=>fh
    ·obtain rfl:=iu.mp hf;rcases args with _|⟨a,_|⟨b,l⟩⟩
     ·exact fh
     ·exact pQ (fun hg=>IM (I.e sc _) (fun h=>dB h) hg GO.rev) fun _=>fh
     ·exact fh
    ·obtain rfl:=iu.mp hf;rcases args with _|⟨a,_|⟨b,l⟩⟩
     ·exact fh
     ·exact pQ (fun hg=>FB hen (I.e sc _) (fun h=>dB h) hg GO.enu) fun _=>fh
     ·exact fh
theorem Lr(GO:gX cx RD Γ):∀n,Nq cx RD Γ n
 |0=>⟨fun _ _=>az,fun _ _=>du,fun _ _ _ _=>fh⟩
 |n+1=>⟨GF GO (Lr GO n),EJ GO (Lr GO n),Fs GO (Lr GO n)⟩
theorem DW{q:Ev×Nat}(h:Gw Γ sc n e=some q):∃o x p f,e=.Attribute o x p∧Jv x Γ.fields 0=some f∧q=(bU Γ sc n o,f):=by
 unfold Gw at h;induction ha:IP e with
 |none=>rw[ha]at h;exact Rk h
 |some y=>
  rw[ha]at h;obtain⟨p,rfl⟩:=Ib ha
  (refine Rg h ?_;clear h;intro f hf h)
  exact⟨_,_,p,f,rfl,hf,(av h).symm⟩
theorem Kn(h:ik sc t=some tn):aH t=false∧(fk t=true∨∀e env,swappedStores [t] e env=pure none)∧((iR t).isSome=true∨∀kx vx gens sco pos line env,swapsWith (.DictComp kx vx gens sco pos) (some t) line env=pure false):=by
 unfold ik at h;induction hn:iR t with
 |some x=>obtain⟨p,rfl⟩:=eQ hn;exact⟨rfl,.inr fun _ _=>rfl,.inl rfl⟩
 |none=>
  rw[hn]at h
  (refine QB h ?_;clear h;intro es he h)
  obtain⟨k,p,rfl⟩:=u9 he;exact⟨rfl,.inl rfl,.inr fun _ _ _ _ _ _ _=>rfl⟩
theorem CX(GO:gX cx RD Γ)(hsc:eV scope.names=true)(h:BU Γ (bM scope) n t=some T):yK cx (RD+1) scope t T∧aH t=false∧(fk t=true∨∀e env,swappedStores [t] e env=pure none)∧((iR t).isSome=true∨∀kx vx gens sco pos line env,swapsWith (.DictComp kx vx gens sco pos) (some t) line env=pure false):=by
 have I:=Lr GO n;unfold BU at h;induction hn:ik (bM scope) t with
 |some tn=>
  rw[hn]at h;obtain rfl:=av h;exact⟨A7 hn,Kn hn⟩
 |none=>
  rw[hn]at h;induction ha:Gw Γ (bM scope) n t with
  |some q=>
   rw[ha]at h;obtain⟨o,x,p,f,rfl,hf,rfl⟩:=DW ha;obtain rfl:=av h;exact⟨HU GO.kh hsc (I.e _ o) (ud GO hf),rfl,.inr fun _ _=>rfl,.inr fun _ _ _ _ _ _ _=>rfl⟩
  |none=>
   rw[ha]at h;induction hs:BL t with
   |some q=>
    rw[hs]at h;obtain⟨p,rfl⟩:=B4 hs;refine⟨?_,rfl,.inr fun _ _=>rfl,.inr fun _ _ _ _ _ _ _=>rfl⟩;change Gp Γ n (bM scope) q.1 q.2=some T at h;unfold Gp at h;induction hi:Id q.2 with
    |none=>
     rw[hi]at h;obtain rfl:=av h;exact GT hsc (I.e _ _) (I.e _ _)
    |some w=>
     rw[hi]at h;obtain⟨a,h1,h⟩:=N1.mp h;obtain⟨b,h2,h⟩:=N1.mp h;by_cases c:w.2.2.isNone=true
     ·obtain rfl:=av ((ac c).symm.trans h);obtain⟨p',e⟩:=Hm hi;rw[e,h1,h2,Option.isNone_iff_eq_none.mp c];exact GI hsc (I.e _ _) (I.e _ a) (I.e _ b)
     ·exact Rk ((af c).symm.trans h)
   |none=>
    rw[hs]at h
    (refine QB h ?_;clear h;intro es he h)
    (split at h;rotate_left;(first|exact Rk h|cases h);rename_i l hl)
    obtain rfl:=av h;obtain⟨k,p,rfl⟩:=u9 he;refine⟨?_,rfl,.inl rfl,.inr fun _ _ _ _ _ _ _=>rfl⟩;have hl:=f0 hl;have hlen:=congrArg List.length hl;simp only[ao]at hlen;refine Gb GO.kh hsc hlen fun i e q he hq=>?_;have e1:=congrArg (fun z=>z[i]?) hl;simp only[aB,he,hq,Option.map_some,Option.some.injEq]at e1;obtain⟨o,x,pos,f,rfl,hf,rfl⟩:=DW e1;exact⟨o,x,pos,rfl,I.e _ o,ud GO hf⟩
theorem cV{s:Stmt}:jA cx RD scope s gW:=fun _ _ _ _ _ _ _ _ _ _ _ _ _ _ _ _ _ _ h _=>nomatch h
theorem lh(h:xF e=false)(t:Option Expr)(line:Nat)(env:Env):swapsWith e t line env=pure false:=by
 induction e using Expr.casesOn<;>first|rfl|cases h
theorem CZ{ts:List Expr}(h:fk e=false)(env:Env):swappedStores [.Tuple ts k p] e env=pure none:=by
 induction e using Expr.casesOn<;>first|rfl|cases h
theorem Hb(h:xF e=true):(∃a gs s p,e=.ListComp a gs s p)∨(∃a gs s p,e=.SetComp a gs s p)∨∃k v gs s p,e=.DictComp k v gs s p:=by
 obtain⟨h1,h2⟩:=M6.mp h;have h1:=bv h1;have h2:=bv h2;rcases Nat.eq_or_lt_of_le h1 with h1|h1
 ·exact Expr.ListComp.elim (motive_1:=fun e=>(∃a gs s p,e=.ListComp a gs s p)∨(∃a gs s p,e=.SetComp a gs s p)∨∃k v gs s p,e=.DictComp k v gs s p) e h1.symm fun _ _ _ _=>.inl ⟨_,_,_,_,rfl⟩
 rcases Nat.eq_or_lt_of_le h1 with h1|h1
 ·exact Expr.SetComp.elim (motive_1:=fun e=>(∃a gs s p,e=.ListComp a gs s p)∨(∃a gs s p,e=.SetComp a gs s p)∨∃k v gs s p,e=.DictComp k v gs s p) e h1.symm fun _ _ _ _=>.inr (.inl ⟨_,_,_,_,rfl⟩)
 exact Expr.DictComp.elim (motive_1:=fun e=>(∃a gs s p,e=.ListComp a gs s p)∨(∃a gs s p,e=.SetComp a gs s p)∨∃k v gs s p,e=.DictComp k v gs s p) e (Nat.le_antisymm h2 h1) fun _ _ _ _ _=>.inr (.inr ⟨_,_,_,_,_,rfl⟩)
theorem qy(h:fk e=true):∃l k p,e=.Tuple l k p:=
 Expr.Tuple.elim (motive_1:=fun e=>∃l k p,e=.Tuple l k p) e (Nat.eq_of_beq_eq_true h) fun _ _ _=>⟨_,_,_,rfl⟩
noncomputable def Of(c1 c2:Bool)(n:List Str)(c3 c4 c5:Bool):Sem (Option (List Str)):=do
 if c1 then return none
 if c2 then return none
 if c3 then return none
 if c4 then return none
 if c5 then unsupported "assign.tuple-of-constant-expressions:order-of-the-stores"
 return some n
theorem L8(c1 c2:Bool)(n:List Str)(c3 c4:Bool){c5:Bool}(h:c5=false):Of c1 c2 n c3 c4 c5=pure none∨Of c1 c2 n c3 c4 c5=pure (some n)∧c3=false:=by
 subst h;induction c1 using jT
 ·induction c2 using jT
  ·induction c3 using jT
   ·induction c4 using jT
    ·exact .inr ⟨rfl,rfl⟩
    ·exact .inl rfl
   ·exact .inl rfl
  ·exact .inl rfl
 ·exact .inl rfl
theorem Qo{β:Type}(c d:Bool)(x y:β)(h:([(c,x),(d,y)].filterMap (fun q=>if q.1=true then some q.2 else none)).length=2):[(c,x),(d,y)].filterMap (fun q=>if q.1=true then some q.2 else none)=[x,y]:=by
 induction c using jT<;>induction d using jT<;>first|rfl|exact nomatch h
theorem JN{c1 c2:Bool}{n l:List Str}{c3 c4 c5:Bool}(h5:c5=false)(hn:c3=false→n=l):Of c1 c2 n c3 c4 c5=pure none∨Of c1 c2 n c3 c4 c5=pure (some l):=by
 rcases L8 c1 c2 n c3 c4 h5 with h|⟨h,h3⟩
 ·exact .inl h
 ·exact .inr (hn h3▸h)
theorem CI{y:Str}{px py p₂:Pos}{k':Nat}{vs:List Expr}(hxy:(x==y)=false)(hc:vs.all (constantsAlone 8)=false)(env:Env):swappedStores [.Tuple [.Name x px,.Name y py] k p] (.Tuple vs k' p₂) env=pure none∨swappedStores [.Tuple [.Name x px,.Name y py] k p] (.Tuple vs k' p₂) env=pure (some [x,y]):=
 JN hc fun h=>Qo _ _ x y (bne_eq_false_iff_eq.mp (Bool.or_eq_false_iff.mp h).1)
end
section
variable{cx:Cx}{RD:Nat}{Γ:Jh}
structure Ml(cx:Cx)(RD:Nat)(Γ:Jh)(scope:Scope)(n:Nat):Prop where
 s:∀s,jA cx (RD+1) scope s (toS Γ (bM scope) n s)
 b:∀l,sd cx (RD+1) scope l (toB Γ (bM scope) n l)
theorem gx{E:Ev}(h:∀ρ r H,E ρ r H=none):jA cx RD scope (.Assign [t] e pos) (am okf T E):=by
 intro fx m ext cells ρ W H s fl ρ' H' r Q Er G FF FL C hE hQ;unfold am at hE;rw[h]at hE;exact Rk hE
theorem nb(h:(!b)=true):b=false:=by induction b using jT;rfl;exact CS h
theorem DP(GO:gX cx RD Γ)(hsc:eV scope.names=true){vs:List Expr}{k':Nat}{p₂:Pos}(hsw:zT t (.Tuple vs k' p₂)=true)(hT:BU Γ (bM scope) n t=some T) (hA:yK cx (RD+1) scope t T) (hst:aH t=false) (hss:fk t=true∨∀e env,swappedStores [t] e env=pure none) (I:Nq cx RD Γ n):jA cx (RD+1) scope (.Assign [t] (.Tuple vs k' p₂) pos) (am cx.okf T (bU Γ (bM scope) n (.Tuple vs k' p₂))):=by
 rcases hss with htp|hss
 ·obtain⟨ts,k,p,rfl⟩:=qy htp;have hsw:(match Bv ts with|some (x,y)=>!(x==y) && !(vs.all (constantsAlone 8)) | .none=>false)=true:=hsw;rcases hn:Bv ts with _|⟨x,y⟩
  ·rw[hn]at hsw;exact CS hsw
  rw[hn]at hsw;obtain⟨px,py,rfl⟩:=HS hn;obtain⟨q1,q2⟩:=M6.mp hsw;cases ht:ik (bM scope) (.Tuple [.Name x px,.Name y py] k p)with
  |some tn=>
   unfold BU at hT;rw[ht]at hT;obtain rfl:=av hT;exact EO hsc (I.e _ _) ht (nb q1) (CI (nb q1) (nb q2))
  |none=>
   unfold BU at hT;rw[ht]at hT;exact Rk hT
 ·exact uh hsc (I.e _ _) hA hst (fun env=>lh (e:=.Tuple vs k' p₂) rfl (some t) pos.line env) (hss _)
theorem KE(GO:gX cx RD Γ)(hsc:eV scope.names=true)(hsw:zT t e=true)(hT:BU Γ (bM scope) n t=some T):jA cx (RD+1) scope (.Assign [t] e pos) (am Γ.okf T (bU Γ (bM scope) n e)):=by
 obtain⟨hA,hst,hss,hds⟩:=CX GO hsc hT;have I:=Lr GO n;have stores:fk e=false→∀env,swappedStores [t] e env=pure none:=fun h env=>by
  rcases hss with htp|hss
  ·obtain⟨ts,k,p,rfl⟩:=qy htp;exact CZ h env
  ·exact hss e env
 rw[GO.okf];cases hc:xF e with
 |true=>
  rcases Hb hc with⟨elt,gens,sco,cpos,rfl⟩|⟨elt,gens,sco,cpos,rfl⟩|⟨kx,vx,gens,sco,cpos,rfl⟩
  ·cases n with
   |zero=>exact gx fun _ _ _=>rfl
   |succ n=>
    have I':=Lr GO n;rcases gens with _|⟨⟨t',iter,ifs,as⟩,_|⟨g,gens⟩⟩
    ·exact gx fun _ _ _=>rfl
    ·rcases as with(_|k)|k
     ·show jA _ _ _ _ (am _ _ (if nF (bM scope) sco t' iter then(match ik ⟨sco.names,(bM scope).kinds.length,some (bM scope).kinds⟩ t' with|some tn=>bo sco.names.length (toI Γ (bM scope) n iter) tn (ifs.map (toT Γ ⟨sco.names,(bM scope).kinds.length,some (bM scope).kinds⟩ n)) (bU Γ ⟨sco.names,(bM scope).kinds.length,some (bM scope).kinds⟩ n elt) | .none=>aw)else aw));split
      ·rename_i hc;split
       ·rename_i tn ht;have O:=qD hc;exact Cr hsc O (I'.i (bM scope) t' iter O.en) ht (fun e _=>I'.t _ e) (I'.e _ elt) hA hst
       ·exact gx fun _ _ _=>rfl
      ·exact gx fun _ _ _=>rfl
     ·exact gx fun _ _ _=>rfl
     ·exact gx fun _ _ _=>rfl
    ·rcases as with(_|k)|k<;>exact gx fun _ _ _=>rfl
  ·induction n using jU<;>exact gx fun _ _ _=>rfl
  ·refine uh hsc (I.e _ _) hA hst (hds.resolve_left (fun h=>?_) kx vx gens sco cpos _) (stores rfl);obtain⟨x,hx⟩:=Option.isSome_iff_exists.mp h;obtain⟨p,rfl⟩:=eQ hx;exact CS hsw
 |false=>
  cases htp:fk e with
  |true=>
   obtain⟨vs,k',p₂,rfl⟩:=qy htp;exact DP GO hsc hsw hT hA hst hss I
  |false=>exact uh hsc (I.e _ e) hA hst (fun env=>lh hc _ _ env) (stores htp)
theorem Ak{i:Expr}(h:eT i=false)(env:Env)(x:Value):foldedSetIterable i env x=pure x:=by
 induction i using Expr.casesOn<;>first|rfl|cases h
theorem FQ(GO:gX cx RD Γ)(hsc:eV scope.names=true)(J:Ml cx RD Γ scope n):∀s,jA cx (RD+1) scope s (toS Γ (bM scope) (n+1) s):=by
 intro s;have I:=Lr GO n;cases s with
 |Expr e pos=>
  show jA _ _ _ _ (if Nat.beq e.ctorIdx 19||xF e then gW else bt (bU Γ (bM scope) n e));split
  ·exact cV
  ·rename_i hc;refine EC hsc (I.e _ _) (fun env=>lh ?_ _ _ env);cases h:xF e with
   |false=>rfl
   |true=>rw[h,Bool.or_true]at hc;exact absurd rfl hc
 |Assign ts e pos=>
  rcases ts with _|⟨t,_|⟨t2,ts⟩⟩
  ·exact cV
  ·show jA _ _ _ _ (if zT t e then(match BU Γ (bM scope) n t with|some t=>am Γ.okf t (bU Γ (bM scope) n e) | .none=>gW)else gW);split
   ·rename_i hsw;split
    ·rename_i T hT;exact KE GO hsc hsw hT
    ·exact cV
   ·exact cV
  ·exact cV
 |If t a b pos=>exact J9 hsc (I.t _ t) (J.b a) (J.b b)
 |While t b orelse pos=>
  cases orelse with
  |nil=>exact C9 hsc (I.t _ t) (J.b b)
  |cons=>exact cV
 |For t i b orelse pos=>
  cases orelse with
  |cons=>exact cV
  |nil=>
   show jA _ _ _ _ (if eT i || !EU t i then gW else(match ik (bM scope) t with|some tn=>bG (toI Γ (bM scope) n i) tn (toB Γ (bM scope) n b) | .none=>gW));split
   ·exact cV
   ·rename_i hc;simp only[Bool.or_eq_true,Bool.not_eq_true',not_or,Bool.not_eq_true,Bool.not_eq_false]at hc;split
    ·rename_i tn ht;exact HW hsc (I.i _ t i hc.2) ht (J.b b) (Ak hc.1)
    ·exact cV
 |Return v pos=>
  cases v with
  |none=>exact Jc
  |some e=>exact G4 hsc (I.e _ e)
 |_=>exact cV
theorem FW{l:List Stmt}:sd cx RD scope l [gW]:=by
 intro fx m ext cells ρ W H s fl ρ' H' r Q Er G FF FL C hE hQ;exact Rk hE
theorem Fq(GO:gX cx RD Γ)(hsc:eV scope.names=true)(J:Ml cx RD Γ scope n):∀l,sd cx (RD+1) scope l (toB Γ (bM scope) (n+1) l):=by
 intro l;cases l with
 |nil=>exact HR
 |cons s l=>exact Gd (J.s s) (J.b l)
theorem Kd(GO:gX cx RD Γ)(hsc:eV scope.names=true):∀n,Ml cx RD Γ scope n
 |0=>⟨fun _=>cV,fun _=>FW⟩
 |n+1=>⟨FQ GO hsc (Kd GO hsc n),Fq GO hsc (Kd GO hsc n)⟩
theorem DM(GO:gX cx RD Γ){f:Addr}{params:Arguments}(hsc:eV scope.names=true)(D:Gn cx f params body scope ds):Callee cx (RD+1) f (N2 Γ ds params scope body):=
 Dd D ((Kd GO hsc 60).b body)
theorem Callee.mono{f:Addr}{l l':Nat}(h:Callee cx l f F)(hl:l≤l'):Callee cx l' f F:=by
 intro fx m RC W H s xs us v H' r R G hd hu C V hE hR;exact h fx m RC W H s xs us v H' r R (G.lower hl) (by omega) (by omega) C V hE hR
end
set_option tactic.hygienic false
noncomputable def Wd.grow(W:Wd):Wd:={W with σ:=W.σ++[[]]}
theorem Wd.at_grow:W.grow.at r i=W.at r i:=by
 unfold Wd.grow Wd.at;dsimp only;rw[List.getElem?_append];by_cases h:r<W.σ.length
 ·rw[ac h]
 ·rw[af h];have h1:W.σ[r]?=none:=by rw[gB];exact Nat.le_of_not_lt ‹_›
  rw[h1];induction q:([[]]:List (List (Addr×Option Addr)))[r-W.σ.length]? with
  |none=>rfl
  |some R=>
   have:R=[]:=by
    have:=aP q;simpa using this
   subst this;simp
theorem Wd.le_grow(W:Wd):W.le W.grow:=⟨fun r i p h=>by rw[Wd.at_grow];exact h,fun _ h=>h⟩
theorem Wd.has_grow:W.grow.has r i a↔W.has r i a:=by
 unfold Wd.has;rw[Wd.at_grow]
theorem Hp.get_grow:Hp.get (H++[[]]) r i=H.get r i:=by
 unfold Hp.get;rw[List.getElem?_append];by_cases h:r<H.length
 ·rw[ac h]
 ·rw[af h];have h1:H[r]?=none:=by rw[gB];exact Nat.le_of_not_lt ‹_›
  rw[h1];induction q:([[]]:List (List O))[r-H.length]? with
  |none=>rfl
  |some R=>
   have:R=[]:=by
    have:=aP q;simpa using this
   subst this;simp
theorem CR.grow(C:CR w K names okf fx m RC W H h):CR w K names okf fx m RC W.grow (H++[[]]) h:=by
 refine⟨C.fr,?_,fun r i o ho=>?_,C.tup,C.keep,fun r i r' i' a h1 h2=>C.inj r i r' i' a (Wd.has_grow.mp h1) (Wd.has_grow.mp h2),fun r i a x=>C.ap r i a (Wd.has_grow.mp x),C.axd,C.axk⟩
 ·show(W.σ++[[]]).map List.length=(H++[[]]).map List.length;rw[List.map_append,List.map_append,C.shape];rfl
 ·rw[Hp.get_grow]at ho;obtain⟨x,dx,a,b⟩:=C.obj r i o ho;exact⟨x,dx,by rw[Wd.at_grow];exact a,b.mono W.le_grow⟩
theorem gI{f:Addr}(hF:Callee cx RD f F):Callee cx RD f (f7 F):=by
 intro fx m RC W H s xs us v H' r R G hd hu C V hE hR;exact hF fx m RC W.grow (H++[[]]) s xs us v H' H.length R G hd hu (CR.grow C) (V.mono W.le_grow) hE fun W' h' tk u lW C' VU=>hR W' h' tk u (W.le_grow.trans lW) C' VU
section
open PySem.F
theorem fT:Manifest.owners.lookup (String.ofList ['r','o','t','a','r','e','t','i','_','t','e','s'].reverse)=some Manifest.sig_set_iterator:=by kernel_rfl
theorem my_slot_seti_next:Slot "set_iterator" "__next__" "set_iterator.__next__":=
 .of (owner:="set_iterator") (n:="__next__") (by rw[typeLookup_type,builtinLookup_eq_fast];kernel_rfl) (by decide +kernel) (by decide +kernel) (by decide +kernel)
  (by first|exact .inl (by decide +kernel)|exact .inr (by decide +kernel)) (by rw[isSubtype_type];kernel_rfl)
theorem iP:entryFor table "set_iterator.__next__" = some Builtin.«set_iterator.__next__»:=entryFor_of_tree (by kernel_rfl)
theorem gV(a:Value):argsOk "set_iterator.__next__" ⟨[a],[]⟩:=by
 unfold argsOk;rw[signature?_of (id:="set_iterator.__next__") (n:=['_','_','t','x','e','n','_','_']) (o:=['r','o','t','a','r','e','t','i','_','t','e','s']) (by kernel_rfl) fT];kernel_rfl
theorem ja:Slot "set_iterator" "__iter__" "set_iterator.__iter__":=
 .of (owner:="set_iterator") (n:="__iter__") (by rw[typeLookup_type,builtinLookup_eq_fast];kernel_rfl) (by decide +kernel) (by decide +kernel) (by decide +kernel)
  (by first|exact .inl (by decide +kernel)|exact .inr (by decide +kernel)) (by rw[isSubtype_type];kernel_rfl)
theorem mz(a:Value):argsOk "set_iterator.__iter__" ⟨[a],[]⟩:=by
 unfold argsOk;rw[signature?_of (id:="set_iterator.__iter__") (n:=['_','_','r','e','t','i','_','_']) (o:=['r','o','t','a','r','e','t','i','_','t','e','s']) (by kernel_rfl) fT];kernel_rfl
theorem nQ:entryFor table "set_iterator.__iter__" = some Builtin.«dict_keyiterator.__iter__»:=
 entryFor_alias (id':="dict_keyiterator.__iter__") (by kernel_rfl) (by first|rfl|decide +kernel|(unfold String.splitOn;simp +decide [String.splitOnAux])) (by decide +kernel) (by kernel_rfl)
theorem n8:entryFor table "set.__iter__" = some Builtin.«frozenset.__iter__»:=
 entryFor_alias (id':="frozenset.__iter__") (by kernel_rfl) (by first|rfl|decide +kernel|(unfold String.splitOn;simp +decide [String.splitOnAux])) (by decide +kernel) (by kernel_rfl)
end
noncomputable def GH(led:Bool):SetTable:={mask:=7,place:=#[3],dummies:=#[],finger:=0,led:=led,moves:=0,plain:=true}
noncomputable def mG(led:Bool):Obj:={cls:=.type "set",dict:=none,data:=.set #[] 0 (.fresh 0 0 led)}
def set1(led:Bool)(t:Tok):Obj:={cls:=.type "set",dict:=none,data:=.set #[(11,.int 11 t)] 1 (GH led)}
theorem J7(led:Bool)(x:Value):layNew (.fresh 0 0 led) #[] 11 x=(#[(11,x)],GH led,false,false):=by kernel_rfl
theorem Jx:hashInt 11=11:=by decide +kernel
section
theorem CU{led:Bool}{t:Tok}{Q:Bool→Shared→Prop}(ho:s.heap.get? a=some (mG led))(h:∀h',Heap.SameBut a s.heap h'→h'.get? a=some (set1 led t)→Q true {s with heap:=h'}):wpAny (model prog w) A (setAddHashed a (.int 11 t) 11) Q E s:=by
 unfold setAddHashed setAddHashedIn;refine bz (ab (wpAny_setState_of ho rfl (by kernel_rfl) ?_));dsimp only;rw[show byScan (.int 11 t) (#[]:Array (Int×Value))=true by kernel_rfl];simp only[↓reduceIte];unfold setAddByScan;refine ab ?_;refine ab (wpAny_rule ?_);refine ab (m:=setScan a (.int 11 t) 11 true #[]) (wpAny_of_eq (a:=ScanMet.absent) rfl ?_);dsimp only;rw[J7];dsimp only;refine ab (ah ?_);simp only[GH,if_true];refine ab (m:=hashByValue 8 (.int 11 t)) (wpAny_of_eq (a:=true) rfl ?_);simp only[if_true];refine ab (wpAny_storeSet_of ho rfl ?_ (by show 1≤sizeLine;rw[sizeLine_eq];exact Nat.le_add_left _ _));have hg:(s.heap.update a (Obj.putSet #[(11,.int 11 t)] (GH led))).get? a=some (set1 led t):=Heap.get?_update_self _ ho rfl;refine wpAny_ite_split (fun hab=>absurd hab (by simp +decide [SetTable.tooFull,SetTable.fill])) (fun _=>?_);exact ah (ah (h _ (Heap.SameBut.update ..) hg))
end
noncomputable def ka(w:World):Bool:=w.params.followText "set-order"
section
variable{prog:Program}{w:World}{A:Around}{E:Value→Shared→Prop}{s:Shared}
theorem qQ(a:Value){Q₁:Value→Shared→Prop}(h:Q₁ (.ref s.heap.objs.size) {s with heap:=s.heap.push (mG (!ka w))}):codeAny (model prog w) A (.call (.builtin "set.__new__") ⟨[.type "set",a],[]⟩) (wants Q₁ E) s:=by
 refine codeAny_of_tree ?_;show wpAny _ A.in1 (do checkBuiltinCall "set.__new__" ⟨[.type "set",a],[]⟩;again (.builtin "set.__new__" ⟨[.type "set",a],[]⟩)) _ _ s;refine ab (wpAny_of_eq (F.newCall_set_1 a) (ah ⟨plainId_quiet F.plain_set_new _,codeAny_builtin F.entry_set_new ?_⟩));rw[Around.under_plainId F.plain_set_new _];unfold Builtin.«set.__new__» Builtin.Frozenset.newClass;have hsub:=sub_set_self;obtain⟨hp,g,d,tk,os⟩:=s;dsimp only
 wp_walk
 refine wpAny_askSetting (ah ?_);dsimp only;simp only[newObj];refine ab (wpAny_alloc (ah ?_));exact ah h
set_option maxHeartbeats 3200000 in
theorem yE{l:Addr}{t:Tok}(hh:A.handled=none)(hl:IsL s.heap l #[.int 11 t] n) (h:∀(h':Heap) (tk:Nat),h'.get? s.heap.objs.size=some (set1 (!ka w) t)→(∀b o,s.heap.get? b=some o→h'.get? b=some o)→Q (.ref s.heap.objs.size) (sH s h' tk)) :wpAny (model prog w) A (call (.type "set") [.ref l]) Q E s:=by
 obtain⟨c,tl,hmro⟩:=F.called_set.mro;have hmade:=F.called_set.made;have hsub:=F.called_set.sub;refine wpAny_call (codeAny_of_tree ?_);show wpAny _ _ (callAny (.type "set") _) _ _ _;refine ah ⟨Code.quiet_builtin _ (by decide +kernel),codeAny_builtin F.entry_type_call ?_⟩;rw[Around.under_plain (weight_type_call_type "set" [.ref l] []) rfl];have h1:=F.called_set.notType;have h2:=F.called_set.canCreate;have hct:=F.typeCall_set_1 (.ref l);repeat (any_goals (first|assumption|wp_step))
 refine codeAny_mono (qQ (.ref l) (E:=E) (Q₁:=fun obj s₁=>obj=.ref s.heap.objs.size∧s₁={s with heap:=s.heap.push (mG (!ka w))}) ⟨rfl,rfl⟩) fun r s₁ hr=>?_;induction r with
 |error e=>exact hr
 |ok fl=>
  induction fl with
  |ret obj=>
   obtain⟨rfl,rfl⟩:=hr;have hS:(s.heap.push (mG (!ka w))).get? s.heap.objs.size=some (mG (!ka w)):=cq _ rfl;have hT:Shared.TypeIs {s with heap:=s.heap.push (mG (!ka w))} (.ref s.heap.objs.size) "set":=⟨_,hS,rfl⟩;have hli:=F.called_set.init.lookup;have hbi:=F.called_set.init.bind (.ref s.heap.objs.size);repeat (any_goals (first|assumption|wp_step))
   refine codeAny_mono (codeAny_call_builtin (R:=wants (fun r s₂=>r=.none∧∃h' tk,s₂=(sH s h' tk)∧
     h'.get? s.heap.objs.size=some (set1 (!ka w) t)∧(∀b o,s.heap.get? b=some o→h'.get? b=some o)) E) F.called_set.init.plain F.entry_set_init (check_set_init_1 hT ?_)) fun r₂ s₂ hr₂=>?_
   ·have hl₁:IsL (s.heap.push (mG (!ka w))) l #[.int 11 t] n:=bu _ hl;have hsls:=F.sub_list_set;have hslf:=F.sub_list_frozenset;have hne:(Value.type "list" == Value.type "dict")=false:=by decide
    have hTl:Shared.TypeIs {s with heap:=s.heap.push (mG (!ka w))} (.ref l) "list":=⟨_,hl₁,rfl⟩;have hlt:l<s.heap.objs.size:=aZ hl;unfold Builtin.«set.__init__» noKeywords Builtin.Frozenset.updateFrom;generalize hPI:pyIter=PI
    wp_walk
    subst hPI;refine wpAny_pyIter_list (aQ hl₁) ?_;refine ab (wpAny_runValue ?_);have hI:(s.heap.push (mG (!ka w))).objs.size=s.heap.objs.size+1:=Heap.size_push ..;rw[hI];have hli₂:IsL ((s.heap.push (mG (!ka w))).push {cls:=.type "list_iterator",data:=.fields #[.ref l,.int 0 0]}) l #[.int 11 t] n:=bu _ hl₁;have hS₂:((s.heap.push (mG (!ka w))).push {cls:=.type "list_iterator",data:=.fields #[.ref l,.int 0 0]}).get? s.heap.objs.size=some (mG (!ka w)):=bu _ hS;have hit₂:((s.heap.push (mG (!ka w))).push {cls:=.type "list_iterator",data:=.fields #[.ref l,.int 0 0]}).IsListIter (s.heap.objs.size+1) l 0:=⟨_,hI▸cq _ rfl,rfl,rfl⟩;have old₂:∀b o,s.heap.get? b=some o→((s.heap.push (mG (!ka w))).push {cls:=.type "list_iterator",data:=.fields #[.ref l,.int 0 0]}).get? b=some o:=fun b o e=>bu _ (bu _ e);generalize((s.heap.push (mG (!ka w))).push {cls:=.type "list_iterator",data:=.fields #[.ref l,.int 0 0]})=h₂ at hli₂ hS₂ hit₂ old₂⊢;refine codeAny_builtin F.entry_set_update_loop ?_;rw[Around.under_plainId F.plain_set_update_loop _];show wpAny _ _ (pyNext (.ref (s.heap.objs.size+1))>>=_) _ _ _;refine ab (wpAny_pyNext_list_item (s:={s with heap:=h₂}) hit₂ (aQ hli₂) (x:=.int 11 t) rfl fun h₃ hit₃ hs₃=>?_);show wpAny _ _ (holding [Value.int 11 t] (setAdd s.heap.objs.size (.int 11 t))>>=_) _ _ _;refine ab (bz ?_);unfold setAdd;refine bz (ab (wpAny_pyHash_int ?_));rw[Jx];have hS₃:h₃.get? s.heap.objs.size=some (mG (!ka w)):=(hs₃.2 _ (bf (Nat.lt_succ_self _))).trans hS₂;have hli₃:IsL h₃ l #[.int 11 t] n:=(hs₃.2 l (bf (Nat.lt_succ_of_lt hlt))).trans hli₂;refine CU (s:=(sH s h₃ (s.toks+1))) hS₃ fun h₄ hs₄ hS₄=>?_;refine ah ⟨plainId_quiet F.plain_set_update_loop _,?_⟩;have hit₄:h₄.IsListIter (s.heap.objs.size+1) l 1:=hit₃.at fun o e=>(hs₄.2 _ (Nat.ne_of_gt (Nat.lt_succ_self _))).trans e;have hli₄:IsL h₄ l #[.int 11 t] n:=(hs₄.2 l (bf hlt)).trans hli₃;refine codeAny_builtin F.entry_set_update_loop ?_;rw[Around.under_plainId F.plain_set_update_loop _];show wpAny _ _ (pyNext (.ref (s.heap.objs.size+1))>>=_) _ _ _;refine ab (wpAny_pyNext_list_end (s:=(sH s h₄ (s.toks+1))) (by simp[hh]) hit₄ (aQ hli₄) rfl fun h₅ hs₅=>?_);show wpAny _ _ (ret Value.none) _ _ _;refine ah ?_;show wpAny _ _ _ _ _ _;refine ah ?_;show wpAny _ _ (ret Value.none) _ _ _;refine ah ⟨rfl,h₅,_,rfl,hs₅ _ _ (bf (Nat.lt_succ_self _)) hS₄,fun b o e=>?_⟩;have hb:b<s.heap.objs.size:=aZ e;exact hs₅ _ _ (bf (Nat.lt_succ_of_lt hb)) ((hs₄.2 b (bf hb)).trans ((hs₃.2 b (bf (Nat.lt_succ_of_lt hb))).trans (old₂ b o e)))
   ·induction r₂ with
    |error e=>exact hr₂
    |ok fl₂=>
     induction fl₂ with
     |ret r=>
      obtain⟨rfl,h',tk,rfl,hS',hk'⟩:=hr₂;repeat (any_goals (first|assumption|wp_step))
      exact h _ _ hS' hk'
     |_=>exact hr₂.elim
  |_=>exact hr.elim
end
set_option tactic.hygienic true
section
variable{prog:Program}{w:World}{A:Around}{E:Value→Shared→Prop}{s:Shared}
theorem ET{r i q:Nat}{H:Hp}{w:V×Hp}(h:Dn (.ref r i) q H=some w):∃j,H.get r i=some (.list [.int j])∧j=11∧H.new q (.list [.int j])=some w:=by
 change(match H.get r i with|some (.list [.int j])=>if j=11 then H.new q (.list [.int j])else .none|_=>.none)=_ at h;generalize H.get r i=o at h⊢;rcases o with _|o
 ·exact Rk h
 ·induction o using O.casesOn<;>first|exact Rk h|skip
  rename_i l;rcases l with _|⟨a,_|⟨b,l⟩⟩
  ·exact Rk h
  ·induction a using cW<;>first|exact Rk h|skip
   rename_i j;by_cases c:j=11
   ·change(if j=11 then _ else _)=_ at h;rw[ac c]at h;exact⟨j,rfl,c,h⟩
   ·change(if j=11 then _ else _)=_ at h;rw[af c]at h;exact Rk h
  ·induction a using cW<;>exact Rk h
theorem Hx{r:Addr}{Q:Bool→Shared→Prop}(hT:s.TypeIs (.ref r) "set")(h:Q false s):wpAny (model prog w) A (Builtin.List.listLengthHint (.ref r)) Q E s:=by
 unfold Builtin.List.listLengthHint;refine ab (wpAny_specialOf hT PySem.F.slot_set_len.lookup ?_);generalize hid:("set.__len__":String)=id0
 wp_delta
 rw[show splitId id0=some ("set","__len__")from by subst hid;decide +kernel];subst hid;refine ab (wpAny_isInstance (T:="set") (b:=true) hT (by rw[isSubtype_type];kernel_rfl) ?_);refine wpAny_ite_split (fun hab=>absurd hab (by decide)) (fun _=>?_);refine wpAny_ite_split (fun _=>?_) (fun hab=>absurd (by decide +kernel) hab);refine ab (wpAny_typeOf hT ?_);exact ah h
noncomputable def xv(S:Addr)(slot i:Int):Obj:={cls:=.type "set_iterator",dict:=none,data:=.fields #[rawInt slot,rawInt i,.ref S,rawInt 1,rawInt 1]}
theorem fe{led:Bool}{t:Tok}{Q:(Array (Int×Value)×Nat×SetTable)→Shared→Prop}(hS:s.heap.get? S=some (set1 led t))(h:Q (#[(11,.int 11 t)],1,GH led) s):wpAny (model prog w) A (setState S) Q E s:=
 wpAny_setState_of hS rfl (by kernel_rfl) h
theorem Bb{led:Bool}{t:Tok}(hS:s.heap.get? S=some (set1 led t))(h:Q (.ref s.heap.objs.size) {s with heap:=s.heap.push (xv S 0 0)}):wpAny (model prog w) A (pyIter (.ref S)) Q E s:=by
 have hT:s.TypeIs (.ref S) "set":=⟨_,hS,rfl⟩;refine wpAny_pyIter_slot hT F.slot_set_iter (wpAny_call_entry F.slot_set_iter hT n8 ?_ (F.args_set_iter_1 _));unfold Builtin.«frozenset.__iter__»;refine ab (m:=Builtin.Frozenset.slot0 "__iter__" ⟨[.ref S],[]⟩) (wpAny_of_eq (a:=S) rfl ?_);refine ab (m:=Builtin.Frozenset.sizeOf S) ?_;unfold Builtin.Frozenset.sizeOf setEntries;refine ab (ab (fe hS (ah (ah ?_))));refine ab (m:=setDrawn S) ?_;unfold setDrawn setsByText;refine ab (fe hS ?_);dsimp only;refine ab (ab (wpAny_askSetting (ah (ah ?_))));refine wpAny_ite_split (fun hab=>absurd hab (fun z=>by
  rw[aY]at z;exact be z.2)) (fun _=>?_)
 refine ab (ah ?_);unfold setEpoch;refine ab (ab (fe hS (ah ?_)));refine ab (wpAny_newObj_type ?_);exact ah ⟨_,rfl,"set_iterator",_,⟨_,cq _ rfl,rfl⟩,my_slot_seti_next.lookup,h⟩
theorem q6{o:Obj}{vs:Array Value}{Q:Array Value→Shared→Prop}(ho:s.heap.get? I=some o)(hd:o.data=.fields vs)(h:Q vs s):wpAny (model prog w) A (fieldsOf (.ref I)) Q E s:=by
 unfold fieldsOf;refine ab (wpAny_load ho ?_);rw[hd];exact ah h
theorem ID{α:Type}(f:Nat→Nat)(x:α):pickOrder f #[x]=#[x]:=by
 have key:∀i,i=0→(match[x][i]? with|some y=>pickOrder.go f 0 1 ([x].eraseIdx i) (#[].push y)|none=>#[])=#[x]:=fun i e=>by subst e;rfl
 exact key (f 0 % 1) (Nat.mod_one _)
theorem AQ{t:Tok}{Q:Array (Int×Value)→Shared→Prop}(hb:ka w=true)(hS:s.heap.get? S=some (set1 (!ka w) t))(h:Q #[(11,.int 11 t)] s):wpAny (model prog w) A (setWalk S) Q E s:=by
 unfold setWalk setsByText;refine ab (fe hS ?_);dsimp only;refine ab (ab (wpAny_askSetting (ah ?_)));have hb':w.params.followText "set-order" = true:=hb;show wpAny _ _ (if w.params.followText "set-order" = true then _ else _) _ _ _;rw[ac hb'];refine ab (wpAny_askSetting (ah ?_));rw[ID];exact h
noncomputable def rk(b:Bool):Nat→Int
 |0=>0
 |_=>if b then 0 else 4
theorem G7{t:Tok}{Q:Option (Value×Nat)→Shared→Prop}(hS:s.heap.get? S=some (set1 (!ka w) t))(h:Q (some (.int 11 t,(rk (ka w) 1).toNat)) s):wpAny (model prog w) A (setNext S 0 0 1) Q E s:=by
 unfold setNext setsByText;refine ab (fe hS ?_);dsimp only;refine ab (ab (wpAny_askSetting (ah ?_)));show wpAny _ _ (if w.params.followText "set-order" = true then _ else _) _ _ _;induction hb:w.params.followText "set-order" with
 |true=>
  have hb':ka w=true:=hb;rw[hb']at h;rw[ac rfl];refine wpAny_ite_split (fun hab=>absurd hab (by decide)) (fun _=>?_);refine ab (AQ hb' hS (ah ?_));exact h
 |false=>
  have hb':ka w=false:=hb;rw[hb']at h;rw[af be];refine wpAny_ite_split (fun hab=>absurd hab (fun z=>be z)) (fun _=>?_);rw[hb'];refine ab (wpAny_of_eq (a:=()) rfl ?_);exact ah h
theorem EA{t:Tok}{Q:Option (Value×Nat)→Shared→Prop}(hS:s.heap.get? S=some (set1 (!ka w) t))(h:Q none s):wpAny (model prog w) A (setNext S (rk (ka w) 1).toNat 1 1) Q E s:=by
 unfold setNext setsByText;refine ab (fe hS ?_);dsimp only;refine ab (ab (wpAny_askSetting (ah ?_)));show wpAny _ _ (if w.params.followText "set-order" = true then _ else _) _ _ _;induction hb:w.params.followText "set-order" with
 |true=>
  have hb':ka w=true:=hb;rw[ac rfl];refine wpAny_ite_split (fun hab=>absurd hab (by decide)) (fun _=>?_);refine ab (AQ hb' hS (ah ?_));exact h
 |false=>
  have hb':ka w=false:=hb;rw[hb'];rw[af be];refine wpAny_ite_split (fun hab=>absurd hab (fun z=>be z)) (fun _=>?_);refine ab (wpAny_of_eq (a:=()) rfl ?_);exact ah h
theorem FV{t:Tok}{Q:Option Value→Shared→Prop}(hI:s.heap.get? I=some (xv S 0 0))(hS:s.heap.get? S=some (set1 (!ka w) t))(h:∀h',h'.get? I=some (xv S (rk (ka w) 1) 1)→Heap.SameBut I s.heap h'→Q (some (.int 11 t)) {s with heap:=h'}):wpAny (model prog w) A (pyNext (.ref I)) Q E s:=by
 have hT:s.TypeIs (.ref I) "set_iterator":=⟨_,hI,rfl⟩;unfold pyNext;refine ab (wpAny_attempt (wpAny_callSpecial?_slot (name:=Str.ofString "__next__") hT my_slot_seti_next (wpAny_call_entry my_slot_seti_next hT iP ?_ (gV _))));unfold Builtin.«set_iterator.__next__»;refine ab (wpAny_of_eq (a:=(Value.ref I,[])) rfl ?_);try dsimp only
 refine ab (q6 hI rfl ?_);show wpAny _ _ (do if(((←setEntries S).size:Nat):Int) != 1 then _ else _) _ _ _;unfold setEntries;refine ab (ab (fe hS (ah ?_)));refine wpAny_ite_split (fun hab=>absurd hab (fun z=>be z)) (fun _=>?_);show wpAny _ _ (setNext S 0 0 1>>=_) _ _ _;refine ab (G7 hS ?_);dsimp only;have e0:(((rk (ka w) 1).toNat:Nat):Int)=rk (ka w) 1:=by cases ka w<;>rfl
 refine ab (wpAny_setField_rec hI (by simp) fun h₁ hI₁ hs₁=>?_);refine ab (wpAny_setField_rec (s:={s with heap:=h₁}) hI₁ (by simp) fun h₂ hI₂ hs₂=>?_);refine ah ⟨_,rfl,ah (h h₂ (hI₂.trans ?_) (hs₁.trans hs₂))⟩;unfold xv;rw[e0];simp[rawInt]
theorem Hz{t:Tok}{Q:Option Value→Shared→Prop}(hh:A.handled=none)(hI:s.heap.get? I=some (xv S (rk (ka w) 1) 1))(hS:s.heap.get? S=some (set1 (!ka w) t))(h:∀h',Heap.ExtBut I s.heap h'→Q none {s with heap:=h'}):wpAny (model prog w) A (pyNext (.ref I)) Q E s:=by
 have hT:s.TypeIs (.ref I) "set_iterator":=⟨_,hI,rfl⟩;unfold pyNext;refine ab (wpAny_attempt (wpAny_callSpecial?_slot (name:=Str.ofString "__next__") hT my_slot_seti_next (wpAny_call_entry my_slot_seti_next hT iP ?_ (gV _))));unfold Builtin.«set_iterator.__next__»;refine ab (wpAny_of_eq (a:=(Value.ref I,[])) rfl ?_);try dsimp only
 refine ab (q6 hI rfl ?_);show wpAny _ _ (do if(((←setEntries S).size:Nat):Int) != 1 then _ else _) _ _ _;unfold setEntries;refine ab (ab (fe hS (ah ?_)));refine wpAny_ite_split (fun hab=>absurd hab (fun z=>be z)) (fun _=>?_);show wpAny _ _ (setNext S (rk (ka w) 1).toNat 1 1>>=_) _ _ _;refine ab (EA hS ?_);dsimp only;refine ab (wpAny_setField_rec hI (by simp) fun h₁ hI₁ hs₁=>?_);show wpAny _ _ (newExc (.type "StopIteration") []>>=_) _ _ _;refine ab ?_;simp only[newExc,newTuple];refine ab (wpAny_newObj_type ?_ (by size_fits));refine ab (m:=firstArgMember _ _) (wpAny_of_eq (a:=Value.none) (by first|rfl|(simp only[firstArgMember];rfl)) ?_);refine wpAny_newObj_type ?_ (by size_fits);unfold raiseNew;refine ab (wpAny_handled ?_);first|rw[show A.in1.handled=none from hh]|rw[hh]
 refine ab (ah (wpAny_throw ?_));refine ab (wpAny_isInstance (T:="StopIteration") (b:=true) ⟨_,cq _ rfl,rfl⟩ isSubtype_stop ?_);exact ah (h _ ((hs₁.extBut.push _).push _))
end
theorem Walks.set1(hh:A.handled=none)(I S:Addr)(hne:S≠I)(t:Tok):Walks prog w A I [I,S] [I] 1 (fun _ v=>v=.int 11 t) (fun i h=>h.get? I=some (xv S (rk (ka w) i) i)∧h.get? S=some (Mine.Tactic.set1 (!ka w) t)) where
 sub:=fun b hb=>by simp at hb;simp[hb]
 frame:=fun _ _ _ st hk=>⟨hk I (by simp) _ st.1,hk S (by simp) _ st.2⟩
 item:=fun i s Q E hi st hQ=>by
  have:i=0:=by omega
  subst this;refine FV st.1 st.2 fun h' hI hs=>?_;exact hQ _ h' s.toks rfl ⟨hI,(hs.2 S hne).trans st.2⟩ fun b o hb e=>(hs.2 b (fun q=>hb (by simp[q]))).trans e
 done:=fun s Q E st hQ=>Hz hh st.1 st.2 fun h' he=>hQ h' s.toks fun b o hb e=>he b o (fun q=>hb (by simp[q])) e
 self:=fun i s Q E st hQ=>by
  have hT:s.TypeIs (.ref I) "set_iterator":=⟨_,st.1,rfl⟩;refine wpAny_pyIter_slot hT ja (wpAny_call_entry ja hT nQ ?_ (mz _));show wpAny _ _ (ret (.ref I)) _ _ s;exact ah ⟨_,rfl,"set_iterator",_,hT,my_slot_seti_next.lookup,hQ⟩
theorem Ii(S:Addr)(t:Tok):KdlSrc prog w "set" S S 1 (fun _ v=>v=.int 11 t) (fun h=>h.get? S=some (Mine.Tactic.set1 (!ka w) t)) where
 type:=fun _ hm=>⟨_,hm,rfl⟩
 there:=fun _ hm=>⟨aZ hm,aZ hm⟩
 keep:=fun _ _ hm hk=>hk S (.inl rfl) _ hm
 notList:=by decide
 notTuple:=by decide
 hint:=fun _ _ _ _ hm hq=>Hx ⟨_,hm,rfl⟩ hq
 iter:=fun _ s hh hm=>⟨_,_,(fun _ _ hq=>Bb hm hq),Walks.set1 hh _ S (bf (aZ hm)) t,cq _ rfl,bu _ hm⟩
section
theorem B2(G:Good cx fx RD)(C:cx.CR fx m RC W H s.heap){t:Tok}(hS:s.heap.get? S=some (set1 (!ka cx.w) t))(h:H.new r (.list [.int 11])=some (v,H'))(hQ:Post cx fx m RC W H' s v Q):wpAny cx.mo fx.A (call (.builtin "sorted") [.ref S]) Q Er s:=by
 refine call_function_entry kind_sorted plain_sorted entry_sorted (args_sorted1 _) ?_;unfold Builtin.«sorted»;refine ab (m:=checkCount "sorted" 1 1 _) (ah ?_);refine ab (kdu_collect (A:=fx.A.in1) (Ii (w:=cx.w) S t) G.hh hS (ba (Nat.le_add_left _ _)) fun h' tk acc hk' hacc=>?_);have hlen2:acc.toList.length=1:=by rw[Array.length_toList];exact hacc.1
 have hv:VRs cx.K W [.int 11] acc.toList:=by
  induction hl:acc.toList using jL with
  |nil=>rw[hl]at hlen2;cases hlen2
  |cons a l=>
   induction l using jL with
   |cons=>rw[hl]at hlen2;simp at hlen2
   |nil=>
    have:=hacc.2 0 a (by rw[←Array.getElem?_toList,hl];rfl);rw[this];exact .one (.int 11 t)
 refine ab (wpAny_newList ?_ (by rw[hlen2];exact ba (Nat.le_add_left _ _)));have grow:∀b q,s.heap.get? b=some q→(h'.push {cls:=.type "list",data:=.seq acc.toList.toArray}).get? b=some q:=fun b q e=>bu _ (hk' b q e);have hsz:s.heap.get? h'.objs.size=none:=by
  induction q:s.heap.get? h'.objs.size with
  |none=>rfl
  |some o=>exact absurd (aZ (hk' _ _ q)) (Nat.lt_irrefl _)
 have hsort:xT [V.int 11]=some [.int 11]:=rfl;refine ab (bz (bj (AM (A:=fx.A.in1) (n₀:=0) (n:=0) (Er:=Er) C h hsort hv grow hsz (cq _ rfl) hQ) (fun _ s' x=>?_) fun _ _ e=>e));exact ah ⟨_,rfl,x⟩
theorem wd{f g:Str}{a:Expr}{p1 p2 p3 p4:Pos}{E:Ev}(hf:sc.isGlob f=true)(hfu:nsIn cx.K mainGlobals f=some none)(hfb:bootBuiltins f=some (.builtin "sorted"))(hfn:f≠"__name__")(hg:sc.isGlob g=true)(hgu:nsIn cx.K mainGlobals g=some none)(hgb:bootBuiltins g=some (.type "set"))(hgn:g≠"__name__") (ha:aN cx RD sc a E) (hst:aH a=true→E=aw):aN cx RD sc (.Call (.Name f p1) [.Call (.Name g p2) [a] [] p3] [] p4) (cK .sortedset [E]):=by
 intro fx m RC ρ W H s v H' r Q Er G GG LL C hE hQ;unfold cK at hE
 (refine Qy hE ?_;clear hE;intro xs H₁ h1 hE)
 obtain⟨x,H₂,ys,h2,h3,rfl⟩:=JI h1
 (refine QU h3 ?_;clear h3;intro e;cases e)
 induction x using cW<;>first|(exact Rk hE;done)|skip
 ·rename_i r1 i1;change Dn (.ref r1 i1) _ _=_ at hE;obtain⟨j,hget,hj,hE⟩:=ET hE;subst hj;have hn:aH a=false:=by
   induction q:aH a with
   |false=>rfl
   |true=>rw[hst q]at h2;exact Rk h2
  have hno:∀e'∈[a],aH e'=false:=fun e' he'=>by rw[Oc.mp he'];exact hn
  have hno2:∀e'∈[Expr.Call (.Name g p2) [a] [] p3],aH e'=false:=fun e' he'=>by rw[Oc.mp he'];rfl
  refine Call_ ((GG f hf).2 _ hfu hfb hfn p1 W H s _ _ C ?_);refine gE hno2 ?_;rw[bC (hno2 _ (Oc.mpr rfl)),cb];refine spliced_cons ?_;refine Call_ ((GG g hg).2 _ hgu hgb hgn p2 W H s _ _ C ?_);refine gw hno ?_;rw[bC hn,cb];refine spliced_cons (ha fx m RC ρ W H s _ _ r _ Er G GG LL C h2 fun W₁ h₁ tk₁ u l₁ C₁ V₁=>spliced_nil ?_);obtain⟨l,vs,n,rfl,hat,hl,hv,hlen⟩:=CR.list (s:=(sH s h₁ tk₁)) C₁ V₁ hget;obtain⟨u,rfl,V₂⟩:=eO (xs:=[]) hv;induction V₂ using Rs;rename_i t;refine yE (s:=(sH s h₁ tk₁)) G.hh hl fun h' tk hS hk=>spliced_nil ?_;exact B2 (s:=(sH s h' tk)) G (CR.ext C₁ hk) hS hE fun W' h'' tk' u' l' C' V'=>hQ W' h'' tk' u' (l₁.trans l') C' V'
end
set_option tactic.hygienic false
noncomputable def Wd.cut(W:Wd)(n:Nat):Wd:={W with σ:=W.σ.take n}
theorem Wd.at_cut{p:Addr×Option Addr}:(W.cut n).at r i=some p↔r<n∧W.at r i=some p:=by
 unfold Wd.cut Wd.at;dsimp only;rw[List.getElem?_take];by_cases h:r<n
 ·simp[h]
 ·simp[h]
def Cl(K:Frag)(n:Nat)(v:V):Prop:=∀(W:Wd) (u:Value),VR K W v u→VR K (W.cut n) v u
theorem Cl.list:∀{l:List V} {us:List Value},(∀v∈l,Cl K n v)→VRs K W l us→VRs K (W.cut n) l us:=by
 intro zz;induction zz with
 |nil=>
  intro _ _ h;induction h using QF;exact .nil
 |cons v l ih=>
  intro _ c h;cases h with
  |cons _ u _ us p q=>exact .cons _ _ _ _ (c v (ak ..) W u p) (ih (fun x hx=>c x (aD _ hx)) q)
theorem Cl.int{i:Int}:Cl K n (.int i):=by
 intro W u h;induction h using Rs;exact .int _ _
theorem Cl.tup{l:List V}(h:∀v∈l,Cl K n v):Cl K n (.tup l):=by
 intro W u hu;cases(hu)with
 |tup _ a vs m y=>exact .tup _ _ _ m (Cl.list h y)
 |ktup _ a vs dd k sl e y=>exact .ktup _ _ _ _ _ _ e (Cl.list h y)
theorem Cl.kl{l:List V}(h:∀v∈l,Cl K n v):Cl K n (.kl l):=by
 intro W u hu;cases(hu)with
 |kl _ a vs m k b y=>exact .kl _ _ _ _ k b (Cl.list h y)
theorem VR.cl{K:Frag}{n:Nat}{W0:Wd}(h:W0.σ.length≤n){v:V}{u:Value}(x:VR K W0 v u):Cl K n v:=
 VR.rec (motive_1:=fun v _ _=>Cl K n v) (motive_2:=fun l _ _=>∀v∈l,Cl K n v) (fun W u h=>by induction h using Rx;exact .none) (fun b W u h=>by induction h using Rr;exact .bool _) (fun i t=>Cl.int) (fun s t W u h=>by induction h using RB;exact .str _ _) (fun r i x dx a W u hu=>by
  induction hu using jR with
  |m y dy b=>
   refine .ref _ _ y dy (Wd.at_cut.mpr ⟨?_,b⟩);unfold Wd.at at a;induction e:W0.σ[r]? with
   |none=>rw[e]at a;exact Rk a
   |some R=>exact Nat.lt_of_lt_of_le (Ok.mp e).1 h) (fun l a vs m y ih=>Cl.tup ih) (fun l a vs dd n sl k y ih=>Cl.tup ih) (fun l a vs n k b y ih=>Cl.kl ih) (fun v hv=>nomatch hv) (fun v w l m _ _ p q=>List.forall_mem_cons.mpr ⟨p,q⟩) x
theorem VRs.cl{K:Frag}{n:Nat}{W0:Wd}(h:W0.σ.length≤n){l:List V}{us:List Value}(x:VRs K W0 l us):∀v∈l,Cl K n v:=by
 induction l generalizing us with
 |nil=>intro v hv;cases hv
 |cons v l ih=>obtain⟨w,m,_,p,q⟩:=x.inv;exact List.forall_mem_cons.mpr ⟨VR.cl h p,ih q⟩
def O.Cl(K:Frag)(n:Nat):O→Prop
 |.list l=>∀v∈l,Mine.Tactic.Cl K n v
 |.dict l=>∀v∈l.map (·.2),Mine.Tactic.Cl K n v
 |.inst _ l=>∀p∈l,Mine.Tactic.Cl K n p.2
section
theorem fieldEnt.cut:∀{l:List (Nat×V)} {es:List DictEntry},(∀p∈l,Cl K n p.2)→fieldEnt K names W l es→fieldEnt K names (W.cut n) l es
 |[],[],_,_=>trivial
 |[],_::_,_,h=>h.elim
 |_::_,[],_,h=>h.elim
 |p::_,_::_,c,⟨⟨n,a,b,x⟩,d⟩=>⟨⟨n,a,b,c p (ak ..) _ _ x⟩,fieldEnt.cut (fun q hq=>c q (aD _ hq)) d⟩
theorem fieldEnt.cl{W:Wd}{n:Nat}(hn:W.σ.length≤n):∀{l:List (Nat×V)} {es:List DictEntry},fieldEnt K names W l es→∀p∈l,Cl K n p.2
 |[],_,_=>fun _ h=>nomatch h
 |_::_,[],h=>h.elim
 |_::_,_::_,⟨⟨n,a,b,x⟩,d⟩=>fun q hq=>by
  rcases uB.mp hq with rfl|hq
  ·exact x.cl hn
  ·exact fieldEnt.cl hn d q hq
theorem ObjR.cut{x:Addr}(c:o.Cl K n)(X:ObjR w K names okf W h x dx o):ObjR w K names okf (W.cut n) h x dx o:=by
 induction o with
 |list l=>obtain⟨a,b,vs,n,d,e⟩:=X;exact⟨a,b,vs,n,d,Cl.list c e⟩
 |dict l=>
  obtain⟨a,b,⟨kvs,d,e,f⟩|⟨kvs,d,e,f⟩⟩:=X
  ·exact⟨a,b,.inl ⟨kvs,d,e,Cl.list c f⟩⟩
  ·exact⟨a,b,.inr ⟨kvs,d,e,Cl.list c f⟩⟩
 |inst C l=>obtain⟨a,b,d,es,n,e1,e2,e3,e4⟩:=X;exact⟨a,b,d,es,n,e1,e2,e3,e4.cut c⟩
theorem ObjR.cl{W:Wd}{n:Nat}(hn:W.σ.length≤n){h:Heap}{x:Addr}{dx:Option Addr}{o:O}(X:ObjR w K names okf W h x dx o):o.Cl K n:=by
 induction o with
 |list l=>obtain⟨a,b,vs,n,d,e⟩:=X;exact VRs.cl hn e
 |dict l=>
  obtain⟨a,b,⟨kvs,d,e,f⟩|⟨kvs,d,e,f⟩⟩:=X
  ·exact VRs.cl hn f
  ·exact VRs.cl hn f
 |inst C l=>obtain⟨a,b,d,es,n,e1,e2,e3,e4⟩:=X;exact fieldEnt.cl hn e4
def Tame(H H':Hp):Prop:=∀r i o,H'.get r i=some o→H.get r i=some o∨(∃l j x,H.get r i=some (.list l)∧o=.list (l.set j (.int x)))∨∃l k x,H.get r i=some (.dict l)∧o=.dict (gM l k (.int x))
theorem IH{l:List (V×V)}{k:V}(h:y∈(gM l k v).map (·.2)):y∈l.map (·.2)∨y=v:=by
 induction l with
 |nil=>exact .inr (Oc.mp h)
 |cons p l ih=>
  obtain⟨a,b⟩:=p;by_cases c:fu a k=true
  ·rw[show gM ((a,b)::l) k v=_ from ac c]at h;rcases uB.mp h with h|h
   ·exact .inr h
   ·exact .inl (aD _ h)
  ·rw[show gM ((a,b)::l) k v=_ from af c]at h;rcases uB.mp h with h|h
   ·exact .inl (h▸ak ..)
   ·exact(ih h).imp (aD _) id
theorem Hp.get_take(h:Hp.get (H.take n) r i=some o):r<n∧H.get r i=some o:=by
 unfold Hp.get at h⊢;rw[List.getElem?_take]at h;by_cases c:r<n
 ·rw[ac c]at h;exact⟨c,h⟩
 ·rw[af c]at h;exact Rk h
theorem CR.cut(C:CR w K names okf fx m RC W H h)(C':CR w K names okf fx m RC W' H' h')(le:W.le W') (T:Tame H (H'.take H.length)):W.le (W'.cut H.length)∧CR w K names okf fx m RC (W'.cut H.length) (H'.take H.length) h':=by
 have hn:W.σ.length=H.length:=by have:=congrArg List.length C.shape;simpa using this
 refine⟨⟨fun r i p hp=>Wd.at_cut.mpr ⟨?_,le.at_ r i p hp⟩,le.tup⟩,C'.fr,?_,fun r i o ho=>?_,C'.tup,C'.keep,fun r i r' i' a h1 h2=>?_,fun r i a x=>?_,C'.axd,C'.axk⟩
 ·unfold Wd.at at hp;induction e:W.σ[r]? with
  |none=>rw[e]at hp;exact Rk hp
  |some R=>rw[←hn];exact(Ok.mp e).1
 ·show(W'.σ.take H.length).map List.length=(H'.take H.length).map List.length;rw[List.map_take,List.map_take,C'.shape]
 ·obtain⟨hr,ho'⟩:=Hp.get_take ho;obtain⟨x,dx,a,b⟩:=C'.obj r i o ho';refine⟨x,dx,Wd.at_cut.mpr ⟨hr,a⟩,b.cut ?_⟩;rcases T r i o ho with h0|⟨l,j,y,h0,rfl⟩|⟨l,k,y,h0,rfl⟩
  ·obtain⟨x,dx,_,b⟩:=C.obj r i o h0;exact b.cl (Nat.le_of_eq hn)
  ·obtain⟨x,dx,_,b⟩:=C.obj r i _ h0;have:=b.cl (Nat.le_of_eq hn);intro v hv;rcases List.mem_or_eq_of_mem_set hv with q|rfl
   ·exact this v q
   ·exact Cl.int
  ·obtain⟨x,dx,_,b⟩:=C.obj r i _ h0;have:=b.cl (Nat.le_of_eq hn);intro v hv;rcases IH hv with q|rfl
   ·exact this v q
   ·exact Cl.int
 ·have f:∀{r i:Nat} {a:Addr},(W'.cut H.length).has r i a→W'.has r i a:=fun⟨x,dx,p,q⟩=>⟨x,dx,(Wd.at_cut.mp p).2,q⟩;exact C'.inj r i r' i' a (f h1) (f h2)
 ·obtain⟨x,dx,p,q⟩:=x;exact C'.ap r i a ⟨x,dx,(Wd.at_cut.mp p).2,q⟩
end
theorem lQ{f:Addr}(hF:Callee cx RD f F) (hp:∀xs H v H',F xs H.length (H++[[]])=some (v,H')→(∃i,v=.int i)∧Tame H (H'.take H.length)):Callee cx RD f (drop F):=by
 intro fx m RC W H s xs us v H' r R G hd hu C V hE hR;unfold drop at hE;induction e:F xs H.length (H++[[]])with
 |none=>rw[e]at hE;exact Rk hE
 |some p=>
  obtain⟨v',H''⟩:=p;rw[e]at hE;induction hE using QM;obtain⟨⟨i,rfl⟩,T⟩:=hp _ _ _ _ e;refine hF fx m RC W.grow (H++[[]]) s xs us _ H'' H.length R G hd hu (CR.grow C) (V.mono W.le_grow) e fun W' h' tk u lW C' VU=>?_;have:=CR.cut C C' (W.le_grow.trans lW) T;exact hR _ h' tk u this.1 this.2 (Cl.int _ _ VU)
set_option tactic.hygienic true
theorem Tame.refl(H:Hp):Tame H H:=fun _ _ _ h=>.inl h
def Pu(a:Ev):Prop:=∀ρ q H v H',a ρ q H=some (v,H')→H'=H
def PuI(a:Ev):Prop:=∀ρ q H v H',a ρ q H=some (v,H')→H'=H∧∃i,v=.int i
theorem PuI.pu{a:Ev}(h:PuI a):Pu a:=fun ρ q H v H' e=>(h ρ q H v H' e).1
theorem Pu.loc(i:Nat):Pu (aa i):=by
 intro ρ q H v H' h;unfold aa at h
 (refine Q0 h ?_;clear h;intro _ _ h)
 induction h using QM;rfl
theorem PuI.con(i:Int):PuI (ai (.int i)):=by
 intro ρ q H v H' h
 (refine QU h ?_;clear h;intro e;cases e);exact⟨rfl,_,rfl⟩
theorem Pu.idx{a b:Ev}(ha:Pu a)(hb:Pu b):Pu (aG a b):=by
 intro ρ q H v H' h;unfold aG at h
 (refine Pn h ?_;clear h;intro x H1 e1 h)
 (refine Pn h ?_;clear h;intro y H2 e2 h)
 (refine Rt h ?_;clear h;intro _ _ h)
 induction h using QM;rw[hb _ _ _ _ _ e2,ha _ _ _ _ _ e1]
theorem mw{o:Eu}{x z:V}{b:Int}(h:im o x (.int b) q H=some (z,H')):H'=H∧∃i,z=.int i:=by
 induction x using cW<;>first|(exact Rk h;done)|skip
 refine Rh h fun c _ h=>?_;induction h using QM;exact⟨rfl,_,rfl⟩
theorem PuI.bin{o:Eu}{a b:Ev}(ha:Pu a)(hb:PuI b):PuI (aI o a b):=by
 intro ρ q H v H' h;unfold aI at h
 (refine Pn h ?_;clear h;intro x H1 e1 h)
 (refine Pn h ?_;clear h;intro y H2 e2 h)
 obtain⟨rfl,i,rfl⟩:=hb _ _ _ _ _ e2;have:=mw h;rw[ha _ _ _ _ _ e1]at this;exact this
theorem PuI.len{a:Ev}(ha:Pu a):PuI (cK .len [a]):=by
 intro ρ q H v H' h;unfold cK at h
 (refine Qy h ?_;clear h;intro x H1 e1 h)
 obtain⟨x',H2,ys,e2,e3,rfl⟩:=JI e1
 (refine QU e3 ?_;clear e3;intro e;cases e)
 rw[ha _ _ _ _ _ e2]at h;replace h:tS x' q H=some (v,H'):=h;induction x' using cW<;>first|(exact Rk h;done)|skip
 all_goals (dsimp only[tS]at h;split at h<;>first|((first|induction h using QM|exact Rk h);exact⟨rfl,_,rfl⟩)|(exact Rk h))
noncomputable def sL:List (V×V):=[(.int 1,.int 2),(.int 2,.int 4),(.int 3,.int 8)]
theorem G5{x:V}(h:dG sL x=some v):∃i,v=.int i:=by
 refine tR h (fun _ h=>?_) fun _ h=>tR h (fun _ h=>?_) fun _ h=>PV h fun _ h=>?_;all_goals (induction h using QT;exact⟨_,rfl⟩)
theorem zV:∀xs H v H',cC xs H.length (H++[[]])=some (v,H')→(∃i,v=.int i)∧Tame H (H'.take H.length):=by
 intro xs H v H' h
 match xs with
 |[]=>exact Rk h
 |_::_::_ => 
  rename_i a b l;have:gr (a::b::l) [] 1=none:=by simp[gr]
  unfold cC aq at h;simp only[List.length_cons,List.length_nil,Nat.zero_add,this]at h;exact Rk h
 |[x]=>
  have hn:Hp.new (H++[[]]) H.length (.dict sL)=some (.ref H.length 0,H++[[.dict sL]]):=by
   unfold Hp.new;rw[bB (aS _)];simp[O.fits,sL]
  have hg:Hp.get (H++[[.dict sL]]) H.length 0=some (.dict sL):=by
   unfold Hp.get;rw[bB (aS _)];simp
  have e:cC [x] H.length (H++[[]])=(match(match Hp.new (H++[[]]) H.length (.dict sL)with
   |some (.ref r i,H)=>(match H.get r i with
    |some (.dict _)=>(match H.get r i with|some (.dict l)=>if cg x&&aW x l then(match dG l x with|some v=>some (v,H) | .none=>some (.int 0,H))else .none|_=>.none)
    |_=>.none)
   |_=>.none)with|some (v,H)=>some (v,H)|none=>none):=by
   show(match aC q8 [some x,none,none,none] H.length (H++[[]])with|some (Fl.ret v,_,H)=>some (v,H)|some (Fl.next,_,H)=>some (V.none,H) | .none=>.none)=_;show(match(match aF (mE (bN [((ai (V.int 1)),(ai (V.int 2))),((ai (V.int 2)),(ai (V.int 4))),((ai (V.int 3)),(ai (V.int 8)))]) (aa 0) (some (ai (V.int 0)))) [some x,none,none,none] H.length (H++[[]])with|some (Fl.next,ρ,H)=>some (Fl.next,ρ,H)|r=>r)with|some (Fl.ret v,_,H)=>some (v,H)|some (Fl.next,_,H)=>some (V.none,H) | .none=>.none)=_;unfold aF mE;have:bN [((ai (V.int 1)),(ai (V.int 2))),((ai (V.int 2)),(ai (V.int 4))),((ai (V.int 3)),(ai (V.int 8)))] [some x,none,none,none] H.length (H++[[]])=Hp.new (H++[[]]) H.length (.dict sL):=rfl;rw[this,hn];dsimp only;rw[hg];dsimp only[aa,nJ,ai,List.getElem?_cons_zero];rw[hg];dsimp only;by_cases hk:(cg x&&aW x sL)=true
   ·first|rw[ac hk,ac hk]|rw[ac hk]
    cases dG sL x<;>rfl
   ·first|rw[af hk,af hk]|rw[af hk]
  rw[e,hn]at h;dsimp only at h;rw[hg]at h;dsimp only at h;by_cases hk:(cg x&&aW x sL)=true
  ·rw[ac hk]at h;induction hd:dG sL x with
   |none=>rw[hd]at h;induction h using QM;exact⟨⟨_,rfl⟩,by simpa using Tame.refl H⟩
   |some y=>
    rw[hd]at h;induction h using QM;exact⟨G5 hd,by simpa using Tame.refl H⟩
  ·rw[af hk]at h;exact Rk h
theorem jQ{a:St}{l:List St}{r:Fl×bJ×Hp}(h:aC (a::l) ρ q H=some r):(∃ρ1 H1,a ρ q H=some (.next,ρ1,H1)∧aC l ρ1 q H1=some r)∨∃v ρ1 H1,a ρ q H=some (.ret v,ρ1,H1)∧r=(.ret v,ρ1,H1):=by
 rw[tF]at h;rcases e:a ρ q H with _|⟨fl,ρ1,H1⟩
 ·rw[e]at h;exact Rk h
 ·rw[e]at h;induction fl with
  |next=>exact .inl ⟨_,_,rfl,h⟩
  |ret v=>exact .inr ⟨_,_,_,rfl,(av h).symm⟩
theorem jb{e:Ev}{fl:Fl}(h:am okf (.nm (.nm i)) e ρ q H=some (fl,ρ',H')):fl=.next∧∃v,e ρ q H=some (v,H'):=by
 unfold am at h
 (refine Pn h ?_;clear h;intro v H1 e1 h)
 (refine QU h ?_;clear h;intro e;cases e);exact⟨rfl,_,e1⟩
theorem vh{e:Ev}{fl:Fl}(h:aF e ρ q H=some (fl,ρ',H')):∃v,fl=.ret v∧e ρ q H=some (v,H'):=by
 unfold aF at h
 (refine Pn h ?_;clear h;intro v H1 e1 h)
 induction h using QP;exact⟨_,rfl,e1⟩
theorem Bj{o:COp}{a b:Ev}{t:Bool}(h:aA o a b ρ q H=some (t,H')):∃x y H1,a ρ q H=some (x,H1)∧b ρ q H1=some (y,H'):=by
 unfold aA at h
 (refine Pn h ?_;clear h;intro x H1 e1 h)
 (refine Pn h ?_;clear h;intro y H2 e2 h)
 (refine Q7 h ?_;clear h;intro _ _ h)
 induction h using QM;exact⟨x,y,H1,e1,e2⟩
theorem Eg{t:Tv}{a b:List St}{r:Fl×bJ×Hp}(h:cn t a b ρ q H=some r):∃c H1,t ρ q H=some (c,H1)∧aC (if c then a else b) ρ q H1=some r:=by
 unfold cn at h;refine Gu h ?_ ?_<;>clear h
 ·intro _ _ h;exact⟨true,_,by assumption,by simpa using h⟩
 ·intro _ _ h;exact⟨false,_,by assumption,by simpa using h⟩
theorem Kk{t:Tv}{a b:Ev}{r:V×Hp}(h:t9 t a b ρ q H=some r):∃c H1,t ρ q H=some (c,H1)∧(if c then a else b) ρ q H1=some r:=by
 unfold t9 at h;refine Gu h ?_ ?_<;>clear h
 ·intro _ _ h;exact⟨true,_,by assumption,by simpa using h⟩
 ·intro _ _ h;exact⟨false,_,by assumption,by simpa using h⟩
theorem uZ(h:Hp.get (H++[[]]) r i=some o):H.get r i=some o:=by rwa [Hp.get_grow]at h
theorem B5(h:Hp.get (H++[[]]) r i=some o)(c:(∃l j x,o=.list l∧o'=.list (l.set j (.int x)))∨∃l k x,o=.dict l∧o'=.dict (gM l k (.int x))):Tame H ((Hp.put (H++[[]]) r i o').take H.length):=by
 intro r' i' x hx;have:=(Hp.get_take hx).2;rw[Hp.get_put h]at this;refine tR this ?_ ?_<;>clear this
 ·intro e this;obtain⟨rfl,rfl⟩:=e;induction this using QT;rcases c with⟨l,j,y,rfl,rfl⟩|⟨l,k,y,rfl,rfl⟩
  ·exact .inr (.inl ⟨l,j,y,uZ h,rfl⟩)
  ·exact .inr (.inr ⟨l,k,y,uZ h,rfl⟩)
 ·intro _ this;exact .inl (uZ this)
theorem HD(h:Hp.new H q o=some (v,H')):H'.take q=H.take q:=by
 obtain⟨R,_,_,e,_⟩:=Hp.get_new h;rw[e,List.take_set_of_le (aS _)]
def Pd:Ev:=aG (aa 0) (ai (.int 0))
theorem Pu.pen:Pu Pd:=(Pu.loc 0).idx (PuI.con 0).pu
theorem q0:∀xs H v H',aM xs H.length (H++[[]])=some (v,H')→(∃i,v=.int i)∧Tame H (H'.take H.length):=by
 intro xs H v H' h;unfold aM aq at h;split at h
 case h_2=>exact Rk h
 split at h
 case h_2=>exact Rk h
 rename_i ρ _;have tail:∀(ρ:bJ) (H1:Hp) (r:Fl×bJ×Hp),Tame H (H1.take H.length)→aC (B_law_draw.drop 2) ρ H.length H1=some r→(∃i,r.1=.ret (.int i))∧Tame H (r.2.2.take H.length):=by
  intro ρ H1 r T h;have rt:∀{a:Ev} {ρ:bJ} {H1:Hp} {fl:Fl} {ρ':bJ} {H2:Hp},PuI a→Tame H (H1.take H.length)→aF a ρ H.length H1=some (fl,ρ',H2)→(∃i,fl=.ret (.int i))∧Tame H (H2.take H.length):=by
   intro a ρ H1 fl ρ' H2 P T h;obtain⟨v,rfl,e⟩:=vh h;obtain⟨rfl,i,rfl⟩:=P _ _ _ _ _ e;exact⟨⟨i,rfl⟩,T⟩
  have P:∀{a b:Ev},Pu a→Pu b→PuI (aI .mod a b):=by
   intro a b ha hb ρ q H v H' h;unfold aI at h
   (refine Pn h ?_;clear h;intro x H1 e1 h)
   (refine Pn h ?_;clear h;intro y H2 e2 h)
   have h1:=ha _ _ _ _ _ e1;have h2:=hb _ _ _ _ _ e2;subst h1 h2;induction y using cW with
   |int j=>exact mw h
   |_=>induction x using cW<;>exact Rk h
  have one:∀{a:Ev} {ρ:bJ} {H1:Hp} {r:Fl×bJ×Hp},PuI a→Tame H (H1.take H.length)→aC [aF a] ρ H.length H1=some r→(∃i,r.1=.ret (.int i))∧Tame H (r.2.2.take H.length):=by
   intro a ρ H1 r Pa T h;rcases jQ h with⟨_,_,e,_⟩|⟨_,_,_,e,rfl⟩
   ·obtain⟨_,e,_⟩:=vh e;cases e
   ·exact rt Pa T e
  have iff:∀{ρ:bJ} {c:Bool} {H1 H3:Hp},aA COp.lt (aa 2) (cK Bi.len [aG (aa 0) (ai (V.int 0))]) ρ H.length H1=some (c,H3)→H3=H1:=by
   intro ρ c H1 H3 t;obtain⟨x,y,H4,p1,p2⟩:=Bj t;rw[(PuI.len Pu.pen _ _ _ _ _ p2).1,Pu.loc 2 _ _ _ _ _ p1]
  rcases jQ h with⟨ρ2,H2,e,h2⟩|⟨v,ρ2,H2,e,er⟩
  ·obtain⟨c,H3,t,e2⟩:=Eg e;have q1:=iff t;subst q1;have hc:c=false:=by
    induction c with
    |false=>rfl
    |true=>
     rcases jQ e2 with⟨_,_,e,_⟩|⟨_,_,_,_,e⟩
     ·obtain⟨_,e,_⟩:=vh e;cases e
     ·cases e
   subst hc
   (refine QU e2 ?_;clear e2;intro e;cases e)
   rcases jQ h2 with⟨ρ3,H5,e3,h3⟩|⟨_,_,_,e3,_⟩
   ·obtain⟨_,v3,e4⟩:=jb e3;obtain⟨c,H6,t,e5⟩:=Kk e4;obtain⟨x,y,H7,p1,p2⟩:=Bj t;have q1:=Pu.pen _ _ _ _ _ p1;have q2:Hp.new H7 H.length (.list [])=some (y,H6):=p2;rw[q1]at q2;have q3:=HD q2;have q4:H5=H6:=by
     induction c with
     |true=>exact(PuI.bin ((Pu.pen).idx (P (Pu.loc 2) (PuI.len Pu.pen).pu).pu) (PuI.bin (o:=.pow) (PuI.con 15).pu (fun ρ q H v H' h=>by
       unfold aI at h;split at h
       ·rename_i x H1 e1
        (refine Pn h ?_;clear h;intro y H2 e2 h)
        obtain⟨r1,j,rfl⟩:=PuI.len Pu.pen _ _ _ _ _ e2;have r2:=Pu.loc 2 _ _ _ _ _ e1;subst r1 r2;exact mw h
       ·exact Rk h)) _ _ _ _ _ e5).1
     |false=>exact(PuI.con 0 ρ H.length H6 v3 H5 e5).1
    subst q4;rw[←q3]at T;refine one (P (fun ρ q H v H' h=>?_) (Pu.loc 1)) T h3;have L2:PuI (aI .fdiv (aa 2) (ai (.int 9))):=PuI.bin (Pu.loc 2) (PuI.con 9);have:PuI (aI .add (aI .add (aa 3) (aI .mul (ai (.int 2)) (aa 2))) (aI .fdiv (aa 2) (ai (.int 9)))):=by
     refine PuI.bin (PuI.bin (Pu.loc 3) ?_).pu L2;intro ρ q H v H' h;unfold aI at h;simp only[ai]at h
     (refine Pn h ?_;clear h;intro y H2 e2 h)
     have r2:=Pu.loc 2 _ _ _ _ _ e2;subst r2;induction y using cW with
     |int j=>exact mw h
     |_=>exact Rk h
    exact this.pu ρ q H v H' h
   ·obtain⟨e,_⟩:=jb e3;cases e
  ·obtain⟨c,H3,t,e2⟩:=Eg e;have q1:=iff t;subst q1;induction c with
   |false=>(refine QU e2 ?_;clear e2;intro e;cases e)
   |true=>
    rw[er];exact one (P (Pu.pen.idx (Pu.loc 2)) (Pu.loc 1)) T e2
 induction hs:aC B_law_draw ρ H.length (H++[[]])with
 |none=>rw[hs]at h;exact Rk h
 |some r=>
  have:(∃i,r.1=.ret (.int i))∧Tame H (r.2.2.take H.length):=by
   rcases jQ (a:=am okf (.nm (.nm 2)) (aG (aa 0) (ai (V.int 1)))) hs with⟨ρ1,H1,e,h1⟩|⟨v,ρ1,H1,e,_⟩
   ·obtain⟨_,v1,e1⟩:=jb e;have q1:=(Pu.loc 0).idx (PuI.con 1).pu _ _ _ _ _ e1;subst q1;rcases jQ (a:=am okf (.ix (aa 0) (ai (V.int 1))) (aI .add (aa 2) (ai (V.int 1)))) h1 with⟨ρ2,H2,e2,h2⟩|⟨v,ρ2,H2,e2,_⟩
    ·unfold am at e2
     (refine Pn e2 ?_;clear e2;intro v2 H3 e3 e2)
     obtain⟨q2,j,rfl⟩:=PuI.bin (Pu.loc 2) (PuI.con 1) _ _ _ _ _ e3;subst q2
     (refine Q6 e2 ?_;clear e2;intro ρ4 H4 e4 e2)
     (refine QG e2 ?_;clear e2;intro e;cases e;rintro rfl rfl)
     refine tail _ _ _ ?_ h2
     (conv at e4=>lhs;whnf)
     (refine Pn e4 ?_;clear e4;intro x H5 e5 e4)
     have q3:=Pu.loc 0 _ _ _ _ _ e5;subst q3;dsimp only[ai]at e4;induction x using cW with
     |ref r a=>
      dsimp only at e4;split at e4
      ·rename_i l hl
       (refine PV e4 ?_;clear e4;intro _ e4)
       induction e4 using QM;exact B5 hl (.inl ⟨l,_,j,rfl,rfl⟩)
      ·rename_i l hl
       (refine PV e4 ?_;clear e4;intro _ e4)
       induction e4 using QM;exact B5 hl (.inr ⟨l,_,j,rfl,rfl⟩)
      ·exact Rk e4
     |_=>exact Rk e4
    ·unfold am at e2
     (refine Pn e2 ?_;clear e2;intro _ _ _ e2)
     split at e2<;>(first|(refine QU e2 ?_;clear e2;intro e;cases e)|exact Rk e2)
   ·obtain⟨e,_⟩:=jb e;cases e
  obtain⟨⟨i,hi⟩,T⟩:=this;obtain⟨fl,ρ',H''⟩:=r;dsimp only at hi T;subst hi;rw[hs]at h;induction h using QM;exact⟨⟨i,rfl⟩,T⟩
end
section
open PySem PySem.W PySem.Calls PyProof.Rows PySem.SeqAt
section
noncomputable def vI(i:Int)(u:Value):Bool:=match u with | .int j _=>i==j|_=>false
noncomputable def vS(l:List Nat)(u:Value):Bool:=match u with | .str t _=>l==t.cps.toList|_=>false
noncomputable def vO:Option Obj→Option (List Value)
 |some ⟨c,_,.seq vs _,_⟩=>if c == .type "tuple" then some vs.toList else .none
 |_=>.none
def vT(K:Frag)(u:Value):Option (List Value):=match u with | .ref a=>vO (K.lookup a)|_=>.none
noncomputable def Nu(K:Frag):Nat→V→Value→Bool
 |0,_,_=>false
 |n+1,v,u=>match v with
  |.none=>u == .none
  |.bool a=>u == .bool a
  |.int i=>vI i u
  |.str l=>vS l u
  |.tup l=>(match vT K u with|some vs=>l.length==vs.length&&(l.zip vs).all fun p=>Nu K n p.1 p.2 | .none=>false)
  |_=>false
def MR(K:Frag)(n:Nat)(l:List V)(us:List Value):Bool:=l.length==us.length&&(l.zip us).all fun p=>Nu K n p.1 p.2
theorem HY{K:Frag}{W:Wd}{p:V→Value→Bool}(hp:∀v u,p v u=true→VR K W v u):∀{l:List V} {us:List Value},(l.length==us.length)=true→((l.zip us).all fun q=>p q.1 q.2)=true→VRs K W l us:=by
 intro zz;induction zz with
 |nil=>
  intro zq1;induction zq1 using jL with
  |nil=>
   intro _ _;exact .nil
  |cons zq2 zq3=>
   intro h _;simp at h
 |cons zq4 zq5 ih=>
  intro zq6;induction zq6 using jL with
  |nil=>
   intro h _;simp at h
  |cons u us=>
   intro h h';simp only[List.zip_cons_cons,List.all_cons,aY]at h';exact .cons _ _ _ _ (hp _ _ h'.1) (ih (by simpa using h) h'.2)
theorem NG{K:Frag}{W:Wd}{i:Int}{u:Value}(h:vI i u=true):VR K W (.int i) u:=by
 induction u using Value.casesOn<;>first|exact CS h|(rw[iu.mp h];exact .int _ _)
theorem N7{K:Frag}{W:Wd}{l:List Nat}{u:Value}(h:vS l u=true):VR K W (.str l) u:=by
 induction u using Value.casesOn<;>first|exact CS h|(rw[iu.mp h];exact .str _ _)
theorem KS{K:Frag}{u:Value}{l:List Value}(h:vT K u=some l):∃a dd vs n sl,u=.ref a∧K.lookup a=some ⟨.type "tuple",dd,.seq vs n,sl⟩∧vs.toList=l:=by
 induction u using Value.casesOn<;>first|exact Rk h|skip
 rename_i a;change vO (K.lookup a)=some l at h;induction e:K.lookup a with
 |none=>rw[e]at h;exact Rk h
 |some o=>
  rw[e]at h;obtain⟨c,d,dt,sl⟩:=o;cases dt<;>first|exact Rk h|skip
  rename_i vs m;refine tR h (fun hc h=>?_) (fun _ h=>Rk h);rw[iu.mp hc]at e;exact⟨_,_,_,_,_,rfl,e,av h⟩
theorem IF{K:Frag}{W:Wd}:∀(n:Nat) (v:V) (u:Value),Nu K n v u=true→VR K W v u:=by
 intro n;induction n with
 |zero=>intro v u h;exact CS h
 |succ n ih=>
  intro v u h;induction v using cW with
  |none=>rw[iu.mp (show(u==Value.none)=true from h)];exact .none
  |bool a=>rw[iu.mp (show(u==Value.bool a)=true from h)];exact .bool _
  |int i=>exact NG h
  |str l=>exact N7 h
  |tup l=>
   change(match vT K u with|some vs=>l.length==vs.length&&(l.zip vs).all fun p=>Nu K n p.1 p.2 | .none=>false)=true at h;generalize e:vT K u=z at h;induction z with
   |none=>exact CS h
   |some us=>
    obtain⟨a,dd,vs,m,sl,rfl,hl,e2⟩:=KS e;obtain⟨h1,h2⟩:=M6.mp h;exact .ktup _ _ _ _ _ _ hl (e2▸HY ih h1 h2)
  |ref r i=>exact CS h
  |kl l=>exact CS h
theorem J4{K:Frag}{W:Wd}{n:Nat}{l:List V}{us:List Value}(h:MR K n l us=true):VRs K W l us:=by
 obtain⟨h1,h2⟩:=M6.mp h;exact HY (IF n) h1 h2
structure bR where
 a:Addr
 st:Option Stmt
 q:Str
 dv:Value
 md:Value
noncomputable def HA(q n:Str):Str:=match q.cps with|⟨[]⟩=>n|⟨l⟩=>⟨⟨l++46::n.cps.toList⟩⟩
def JQ(d:bR):Option Obj:=(d.st.bind Ke).map fun q=>⟨.type "function",.none,.func (fnX q.1 (HA d.q q.1) q.2.1 q.2.2.1 q.2.2.2 [] d.dv .none .none d.md .none (.ref (d.a-1)) .none),⟨[]⟩⟩
noncomputable def NS:Option (Nat×NameKind)→Bool
 |some (_,.local)=>true
 |some (_,.cell)=>true
 |_=>false
def Pt(K:Frag)(u:Value)(ds:List V):Bool:=(u == .none&&ds.isEmpty)||(match vT K u with|some us=>MR K 3 ds us | .none=>false)
def Ps(K:Frag)(u:Value)(p:Arguments):Bool:=match gj (p.defaults.map HP)with|some ds=>Pt K u ds&&Nat.ble ds.length p.args.length | .none=>false
def Pz(p:Arguments)(sc:Scope):Bool:=p.posonlyargs.isEmpty&&(p.vararg.isNone&&(p.kwonlyargs.isEmpty&&(p.kwarg.isNone&&(decide ((p.args.map (·.arg)).Nodup) &&
   ((p.args.all fun x=>NS (bc x.arg sc.names 0)) &&
   (decide (((cellsFrom 0 sc.names []).map (·.1)).Nodup)&&(!sc.isCoroutine&&(!sc.isGenerator&&sc.kind == .function))))))))
def O9(K:Frag)(d:bR)(q:O0):Bool:=codeIn K (.ref (d.a-1)) (HA d.q q.1)&&(Ps K d.dv q.2.1&&Pz q.2.1 q.2.2.2)
def Ka(K:Frag)(d:bR):Bool:=match d.st.bind Ke with
 |some q=>O9 K d q
 |.none=>false
theorem N4{a b c:Bool}{G:Prop}(h:(a&&(b&&c))=true)(k:a=true→b=true→c=true→G):G:=by
 induction a using jT<;>first|exact CS h|(induction b using jT<;>first|exact CS h|exact k rfl rfl h)
theorem Kw{o:Option (Nat×NameKind)}(h:NS o=true):∃i,o=some (i,.local)∨o=some (i,.cell):=by
 rcases o with _|⟨i,k⟩
 ·exact CS h
 ·cases k<;>first|exact CS h|exact⟨i,.inl rfl⟩|exact⟨i,.inr rfl⟩
theorem Le{K:Frag}{u:Value}{ds:List V}(h:Pt K u ds=true):∃us,tv K u us∧∀W,VRs K W ds us:=by
 rcases Bool.or_eq_true_iff.mp h with h|h
 ·obtain⟨h1,h2⟩:=M6.mp h;rw[iu.mp h1,List.isEmpty_iff.mp h2];exact⟨[],.none,fun _=>.nil⟩
 ·induction e:vT K u with
  |none=>rw[e]at h;exact CS h
  |some us=>
   rw[e]at h;obtain⟨a,dd,vs,n,sl,rfl,hl,rfl⟩:=KS e;exact⟨_,.some a _ vs n hl rfl,fun W=>J4 h⟩
variable{cx:Cx}
theorem Gz{d:bR}(ho:cx.K.lookup d.a=JQ d)(hb:Ka cx.K d=true){Γ:Jh}{F:Md}(h:d.st.bind (Bu Γ)=some F):∃ds p b sc,Gn cx d.a p b sc ds∧eV sc.names=true∧F=N2 Γ ds p sc b:=by
 obtain⟨st,hst,h⟩:=N1.mp h;obtain⟨q,hq,h⟩:=N1.mp h;have e:d.st.bind Ke=some q:=N1.mpr ⟨st,hst,hq⟩;unfold JQ at ho;unfold Ka at hb;rw[e]at ho hb;refine tR h (fun _ h=>Rk h) (fun hsc h=>?_);obtain⟨ds,hds,h⟩:=N1.mp h;refine N4 (c:=Pz q.2.1 q.2.2.2) hb fun b1 b2 hb=>?_;unfold Ps at b2;rw[hds]at b2;obtain⟨b2,b2'⟩:=M6.mp b2;obtain⟨dsV,k1,k2⟩:=Le b2;refine N4 hb fun b3 b4 hb=>N4 hb fun b5 b6 hb=>N4 hb fun b7 b8 hb=>N4 hb fun b9 b10 hb=>?_;obtain⟨b11,b12⟩:=M6.mp hb;refine⟨ds,q.2.1,q.2.2.1,q.2.2.2,⟨.mk q.1 _ _ _ _ _ _ _ _ _ _ _ dsV ho b1 k1 k2,List.isEmpty_iff.mp b3,Option.isNone_iff_eq_none.mp b4,List.isEmpty_iff.mp b5,Option.isNone_iff_eq_none.mp b6,of_decide_eq_true b7,fun x hx=>?_,bv b2',of_decide_eq_true b9,nb b10,nb b11,iu.mp b12⟩,?_,(av h).symm⟩
 ·obtain⟨y,hy,rfl⟩:=MQ.mp hx;exact Kw (pI.mp b8 y hy)
 ·induction hs:eV q.2.2.2.names with
  |true=>rfl
  |false=>rw[hs]at hsc;exact absurd rfl hsc
end
set_option tactic.hygienic false
section
theorem eY{α β:Type}[BEq α][LawfulBEq α]:∀{l:List (α×β)} {a:α} {o:β},l.lookup a=some o→(a,o)∈l:=by
 intro zz;induction zz with
 |nil=>
  intro _ _ h;exact Rk h
 |cons zq1 zq2 ih=>
  intro a o h;obtain⟨b,x⟩:=zq1;rw[bW]at h;split at h
  ·rename_i e;induction h using QT;rw[iu.mp e];exact ak
  ·exact aD _ (ih h)
structure Mt where
 x:Str
 C:Addr
 f:Addr
def Nx(K:Frag):Bool:=okT.all fun p=>p.2.all fun f=>match fieldNames[f]? with|some n=>ol K p.1 n | .none=>false
def Nd(K:Frag):Bool:=valsT.all fun p=>match nsIn K mainGlobals p.1 with|some (some u)=>Nu K 3 p.2 u|_=>false
def M8(K:Frag):Bool:=bisT.all fun p=>!p.2.isSet&&(nsIn K mainGlobals p.1==some .none&&(bootBuiltins p.1==some (tC p.2) && !(p.1==("__name__":Str))))
noncomputable def Nc(K:Frag):Bool:=nsIn K mainGlobals "range" == some .none&&(nsIn K mainGlobals "reversed" == some .none&&(nsIn K mainGlobals "enumerate" == some .none&&(nsIn K mainGlobals "set" == some .none && (nsIn K mainGlobals "sorted" == some .none&&(bootBuiltins "set" == some (.type "set")&&bootBuiltins "sorted" == some (.builtin "sorted"))))))
noncomputable def MY(K:Frag)(l:List (Str×Addr)):Bool:=l.all fun p=>nsIn K mainGlobals p.1==some (some (.ref p.2))&&keepIn K (.ref p.2)
def Ny(K:Frag)(l:List Mt):Bool:=l.all fun m=>findIn K (.ref m.C) m.x==some (some (.ref m.f))&&(isFn K (.ref m.f)&&(plainGet K m.C m.x&&(keepIn K (.ref m.f)&&((List.range fieldNames.length).all fun i=>!(fieldNames[i]? == some m.x) || !okf m.C i))))
noncomputable def NY(K:Frag)(l:List (Addr×Addr)):Bool:=l.all fun c=>makesIn K c.1&&(findIn K (.ref c.1) "__init__" == some (some (.ref c.2))&&isFn K (.ref c.2))
noncomputable def Kz(l:List Str):Bool:=match l with
 |[]=>true
 |x::l=>l.all (fun y=>!(y==x))&&Kz l
structure Om(cx:Cx)(fnT:List (Str×Addr))(methT:List Mt)(clsT:List (Addr×Addr))(defT:List bR):Prop where
 names:cx.names=fieldNames
 okf:cx.okf=okf
 F:Nx cx.K=true
 V:Nd cx.K=true
 I:M8 cx.K=true
 R:Nc cx.K=true
 G:MY cx.K fnT=true
 M:Ny cx.K methT=true
 C:NY cx.K clsT=true
 N:Kz fieldNames=true
 B:(defT.all (Ka cx.K))=true
 D:∀d∈defT,cx.K.lookup d.a=JQ d
theorem IZ:∀{l:List Str},Kz l=true→∀(i j:Nat) (n:Str),l[i]?=some n→l[j]?=some n→i=j:=by
 intro zz;induction zz with
 |nil=>
  intro _ i j n h _;simp at h
 |cons x l ih=>
  intro hc i j n h h';obtain⟨h1,h2⟩:=M6.mp hc;have no:∀k,l[k]?=some x→False:=fun k hk=>by
   have:=pI.mp h1 x (aP hk);simp at this
  induction i with
  |zero=>induction j with
   |zero=>rfl
   |succ j=>simp at h h';subst h;exact(no j h').elim
  |succ i=>induction j with
   |zero=>simp at h h';subst h';exact(no i h).elim
   |succ j=>simp at h h';rw[ih h2 i j n h h']
def FnsOk(cx:Cx)(RD:Nat)(fnT:List (Str×Addr))(l:List (Str×Md)):Prop:=∀p∈l,∃(k:Nat) (a:Addr),fnT[k]?=some (p.1,a)∧Callee cx RD a p.2
def MethsOk(cx:Cx)(RD:Nat)(methT:List Mt)(l:List (Str×List (Addr×Md))):Prop:=∀p∈l,p.2≠[]∧∀q∈p.2,∃(k:Nat) (f:Addr),methT[k]?=some ⟨p.1,q.1,f⟩∧Callee cx RD f q.2
variable{cx:Cx}{fnT:List (Str×Addr)}{methT:List Mt}{clsT:List (Addr×Addr)}{defT:List bR}{RD:Nat}
theorem FnsOk.nil:FnsOk cx RD fnT []:=fun _ h=>nomatch h
theorem FnsOk.cons{x:Str}{F:Md}{l:List (Str×Md)}(k:Nat){a:Addr}(h:fnT[k]?=some (x,a))(c:Callee cx RD a F)(r:FnsOk cx RD fnT l):FnsOk cx RD fnT ((x,F)::l):=fun p hp=>by
 rcases uB.mp hp with rfl|hp
 ·exact⟨k,a,h,c⟩
 ·exact r p hp
theorem MethsOk.nil:MethsOk cx RD methT []:=fun _ h=>nomatch h
theorem MethsOk.one{x:Str}{C f:Addr}{F:Md}{l:List (Str×List (Addr×Md))}(k:Nat)(h:methT[k]?=some ⟨x,C,f⟩)(c:Callee cx RD f F)(r:MethsOk cx RD methT l):MethsOk cx RD methT ((x,[(C,F)])::l):=fun p hp=>by
 rcases uB.mp hp with rfl|hp
 ·exact⟨List.cons_ne_nil _ _,fun q hq=>by rw[Oc.mp hq];exact⟨k,f,h,c⟩⟩
 ·exact r p hp
theorem PG(S:Om cx fnT methT clsT defT){fns:List (Str×Md)}{meths:List (Str×List (Addr×Md))}(hf:FnsOk cx RD fnT fns)(hm:MethsOk cx RD methT meths):gX cx RD ⟨fns,valsT,bisT,meths,fieldNames,okf⟩:=by
 obtain⟨r1,r2⟩:=M6.mp S.R;obtain⟨r2,r3⟩:=M6.mp r2;obtain⟨r3,r4⟩:=M6.mp r3;obtain⟨r4,r5⟩:=M6.mp r4;obtain⟨r5,r6⟩:=M6.mp r5;obtain⟨r6,r7⟩:=M6.mp r6;refine⟨⟨fun C f h=>?_,fun i j n h h'=>?_⟩,S.names.symm,S.okf.symm,fun x v h=>?_,fun x F h=>?_,fun x b h=>?_,fun x cands h=>?_,iu.mp r1,iu.mp r2,iu.mp r3,?_⟩
 ·rw[S.okf]at h;unfold Mine.Tactic.okf at h
  (split at h;rotate_left;(first|exact Rk h|cases h);rename_i l hl)
  have h1:=pI.mp (pI.mp S.F _ (eY hl)) f (List.contains_iff_mem.mp h);rw[S.names];dsimp only at h1
  (split at h1;rotate_left;(first|exact Rk h1|cases h1);skip)
  exact⟨_,‹_›,h1⟩
 ·rw[S.names]at h h';exact IZ S.N i j n h h'
 ·have h1:=pI.mp S.V _ (eY h);dsimp only at h1
  (split at h1;rotate_left;(first|exact Rk h1|cases h1);skip)
  exact⟨_,‹_›,fun W=>IF 3 _ _ h1⟩
 ·obtain⟨k,a,hk,hc⟩:=hf _ (eY h);have h1:=pI.mp S.G _ (aP hk);obtain⟨h1,h2⟩:=M6.mp h1;exact⟨a,iu.mp h1,h2,hc⟩
 ·have h1:=pI.mp S.I _ (eY h);simp only[aY,Bool.not_eq_true',iu,beq_eq_false_iff_ne]at h1;exact⟨h1.1,h1.2.1,h1.2.2.1,h1.2.2.2⟩
 ·obtain⟨ne,hc⟩:=hm _ (eY h);have one:∀q∈cands,∃f,findIn cx.K (.ref q.1) x=some (some (.ref f))∧isFn cx.K (.ref f)=true∧plainGet cx.K q.1 x=true∧keepIn cx.K (.ref f)=true∧Callee cx RD f q.2∧∀i,cx.names[i]?=some x→cx.okf q.1 i=false:=fun q hq=>by
   obtain⟨k,f,hk,c⟩:=hc q hq;have h1:=pI.mp S.M _ (aP hk);simp only[aY,iu]at h1;rw[S.names,S.okf];refine⟨f,h1.1,h1.2.1,h1.2.2.1,h1.2.2.2.1,c,fun i hi=>?_⟩;have h2:=pI.mp h1.2.2.2.2 i (List.mem_range.mpr (by
    by_cases h:i<fieldNames.length
    ·exact h
    ·rw[List.getElem?_eq_none (Nat.le_of_not_lt ‹_›)]at hi;exact Rk hi))
   rw[hi]at h2;simpa using h2
  refine⟨fun C F hl=>?_,fun C F hl=>?_⟩
  ·obtain⟨_,_,_,_,_,_,e⟩:=one _ (eY hl);exact e
  ·obtain⟨f,a1,a2,a3,a4,a5,_⟩:=one _ (eY hl);exact⟨f,a1,a2,a3,a4,a5⟩
 ·intro sc f g a p1 p2 p3 p4 E hf1 hf2 hg1 hg2 hE hs;have h1:=pI.mp S.I _ (eY hf1);simp only[aY,Bool.not_eq_true',iu,beq_eq_false_iff_ne]at h1;have e:g="set":=iu.mp hg1;subst e;exact wd hf2 h1.2.1 h1.2.2.1 h1.2.2.2 hg2 (iu.mp r4) (iu.mp r6) (by decide) hE hs
theorem ag(S:Om cx fnT methT clsT defT){fns:List (Str×Md)}{meths:List (Str×List (Addr×Md))}{d:bR}(k:Nat)(hk:defT[k]?=some d){F:Md}(h:d.st.bind (Bu ⟨fns,valsT,bisT,meths,fieldNames,Mine.Tactic.okf⟩)=some F) (hf:FnsOk cx RD fnT fns) (hm:MethsOk cx RD methT meths):Callee cx (RD+1) d.a F:=by
 obtain⟨ds,p,b,sc,D,hsc,rfl⟩:=Gz (S.D d (aP hk)) (pI.mp S.B _ (aP hk)) h;exact DM (PG S hf hm) hsc D
theorem cZ(S:Om cx fnT methT clsT defT)(k:Nat){C f:Addr}(hk:clsT[k]?=some (C,f)){F:Md}(h:Callee cx RD f F):Callee cx (RD+1) C (cY C F):=by
 have h1:=pI.mp S.C _ (aP hk);simp only[aY,iu]at h1;exact CA h1.1 h1.2.1 h1.2.2 h
end
set_option tactic.hygienic true
section
section
variable[HasP]
noncomputable abbrev hb(k:Nat):Value:=.builtin (HasP.ss k)
noncomputable abbrev hB(k:Nat):Option Stmt:=HasP.p.main.body[k]?
abbrev hA(k j:Nat):Option Stmt:=K5 (HasP.p.main.body[k]?) j
def rR:bR:=⟨35,hA 2 0,"Info",.none,dj⟩
def q9:bR:=⟨49,hA 2 2,"Info",.none,dj⟩
def nw:bR:=⟨71,hA 3 0,"Buffer",(.ref 64),dj⟩
def gR:bR:=⟨100,hA 3 5,"Buffer",.none,dj⟩
def pF:bR:=⟨118,hB 5,"",.none,dj⟩
def D1:bR:=⟨137,hB 8,"",.none,dj⟩
def Ir:bR:=⟨142,hB 9,"",.none,dj⟩
def mM:bR:=⟨185,hA 21 0,"Lookup",.none,iB⟩
def pO:bR:=⟨212,hA 22 0,"Scene",(.ref 205),iB⟩
def kJ:bR:=⟨226,hB 23,"",.none,iB⟩
def rH:bR:=⟨233,hB 24,"",.none,iB⟩
def gY:bR:=⟨1853,hA 299 1,"ClassDef",.none,lR⟩
def oS:bR:=⟨392,hB 52,"",.none,yW⟩
def nj:bR:=⟨420,hA 57 0,"Anchor",.none,tJ⟩
def o6:bR:=⟨448,hB 59,"",.none,tJ⟩
def kF:bR:=⟨489,hA 67 0,"MarkBase",.none,dD⟩
def oX:bR:=⟨580,hB 78,"",.none,dD⟩
def rF:bR:=⟨587,hB 79,"",.none,dD⟩
def kQ:bR:=⟨594,hB 80,"",.none,dD⟩
def oh:bR:=⟨803,hB 116,"",.none,lv⟩
def kB:bR:=⟨876,hA 133 0,"Multiple",.none,kP⟩
def lV:bR:=⟨958,hB 147,"",.none,fz⟩
def mS:bR:=⟨972,hB 149,"",.none,fz⟩
def pf:bR:=⟨1007,hB 154,"",.none,fz⟩
def il:bR:=⟨1108,hB 175,"",.none,iG⟩
def l5:bR:=⟨1150,hA 183 0,"Metrics",.none,mU⟩
def xI:bR:=⟨1178,hB 184,"",.none,mU⟩
def gA:bR:=⟨1212,hB 191,"",.none,rY⟩
def nv:bR:=⟨1383,hB 224,"",.none,fQ⟩
def kS:bR:=⟨1397,hB 226,"",.none,fQ⟩
def j7:bR:=⟨1404,hB 227,"",.none,fQ⟩
def oq:bR:=⟨1411,hB 228,"",.none,fQ⟩
def ng:bR:=⟨1432,hB 231,"",.none,fQ⟩
def qX:bR:=⟨1464,hA 240 0,"Plan",(.ref 1457),bS⟩
def qW:bR:=⟨1498,hA 242 0,"Want",(.ref 1491),bS⟩
def lB:bR:=⟨1505,hA 242 1,"Want",.none,bS⟩
def xY:bR:=⟨1540,hB 246,"",.none,bS⟩
def rQ:bR:=⟨1590,hB 254,"",.none,bS⟩
def mP:bR:=⟨1697,hA 282 0,"Shaped",.none,cH⟩
def kR:bR:=⟨1723,hB 284,"",.none,cH⟩
def kC:bR:=⟨1813,hA 297 1,"CharMap",.none,nc⟩
def k9:bR:=⟨1806,hA 297 0,"CharMap",(.ref 1801),nc⟩
def kG:bR:=⟨1846,hA 299 0,"ClassDef",.none,lR⟩
def rp:bR:=⟨1893,hA 301 0,"Font",.none,ou⟩
def rm:bR:=⟨1935,hA 307 0,"Gdef",(.ref 1928),k7⟩
def lT:bR:=⟨1982,hA 309 0,"LangSys",.none,dm⟩
def nn:bR:=⟨2010,hA 310 0,"Script",.none,dm⟩
def lD:bR:=⟨2036,hA 311 0,"Feature",.none,dm⟩
def mY:bR:=⟨2064,hA 312 0,"Layout",.none,dm⟩
def vg:bR:=⟨2083,hB 314,"",.none,t4⟩
def rh:bR:=⟨2093,hB 316,"",.none,t4⟩
def lO:bR:=⟨2100,hB 317,"",.none,t4⟩
def kL:bR:=⟨171,hB 14,"",.none,dj⟩
def ir:bR:=⟨1942,hA 307 1,"Gdef",.none,k7⟩
def Bs:bR:=⟨538,hB 72,"",.none,dD⟩
def pd:bR:=⟨601,hB 81,"",.none,dD⟩
def jY:bR:=⟨965,hB 148,"",.none,fz⟩
def jV:bR:=⟨1000,hB 153,"",.none,fz⟩
def nu:bR:=⟨1390,hB 225,"",.none,fQ⟩
def iK:bR:=⟨1418,hB 229,"",.none,fQ⟩
def i9:bR:=⟨1425,hB 230,"",.none,fQ⟩
def pH:bR:=⟨1533,hB 245,"",.none,bS⟩
def oe:bR:=⟨1573,hB 251,"",.none,bS⟩
def ph:bR:=⟨1730,hB 285,"",.none,cH⟩
def j5:bR:=⟨1751,hB 288,"",.none,cH⟩
def nk:bR:=⟨1763,hB 290,"",.none,cH⟩
def mW:bR:=⟨2088,hB 315,"",.none,t4⟩
def vC:bR:=⟨2107,hB 318,"",.none,t4⟩
def nl:bR:=⟨42,hA 2 1,"Info",.none,dj⟩
def rK:bR:=⟨113,hB 4,"",(.ref 108),dj⟩
def pC:bR:=⟨240,hB 25,"",.none,iB⟩
def pN:bR:=⟨510,hB 68,"",.none,dD⟩
def ob:bR:=⟨517,hB 69,"",.none,dD⟩
def Bg:bR:=⟨608,hB 82,"",.none,dD⟩
def la:bR:=⟨979,hB 150,"",.none,fz⟩
def Cc:bR:=⟨1438,hB 232,"",(.ref 1433),fQ⟩
def mQ:bR:=⟨1519,hB 243,"",.none,bS⟩
def mZ:bR:=⟨1554,hB 248,"",.none,bS⟩
def nf:bR:=⟨1561,hB 249,"",.none,bS⟩
def jx:bR:=⟨1578,hB 252,"",.none,bS⟩
def lY:bR:=⟨1744,hB 287,"",.none,cH⟩
def KO:bR:=⟨159,hB 12,"",.none,dj⟩
def BD:bR:=⟨247,hB 26,"",.none,iB⟩
def kN:bR:=⟨524,hB 70,"",.none,dD⟩
def pn:bR:=⟨986,hB 151,"",.none,fz⟩
def rW:bR:=⟨1526,hB 244,"",.none,bS⟩
def uJ:bR:=⟨1568,hB 250,"",.none,bS⟩
def D8:bR:=⟨254,hB 27,"",.none,iB⟩
def rJ:bR:=⟨287,hB 35,"",.none,lZ⟩
def jG:bR:=⟨902,hB 135,"",.none,kP⟩
def Gi:bR:=⟨1021,hB 156,"",.none,fz⟩
def rI:bR:=⟨1583,hB 253,"",.none,bS⟩
def lL:bR:=⟨1718,hB 283,"",.none,cH⟩
def rN:bR:=⟨301,hB 37,"",.none,lZ⟩
def na:bR:=⟨923,hB 139,"",.none,mX⟩
def oT:bR:=⟨531,hB 71,"",.none,dD⟩
def kO:bR:=⟨930,hB 140,"",.none,mX⟩
def o0:bR:=⟨545,hB 73,"",.none,dD⟩
def nr:bR:=⟨937,hB 141,"",.none,mX⟩
def j8:bR:=⟨777,hB 112,"",.none,lv⟩
def iM:bR:=⟨951,hB 143,"",.none,mX⟩
def mJ:bR:=⟨784,hB 113,"",.none,lv⟩
def o8:bR:=⟨1737,hB 286,"",.none,cH⟩
def kZ:bR:=⟨810,hB 117,"",.none,lv⟩
def lG:bR:=⟨1758,hB 289,"",.none,cH⟩
def u4:bR:=⟨1770,hB 291,"",.none,cH⟩
def mN:bR:=⟨1779,hB 292,"",(.ref 1772),cH⟩
def Ex:bR:=⟨1786,hB 293,"",(.ref 1781),cH⟩
def NP:bR:=⟨2112,hB 319,"",.none,t4⟩
def defT:List bR:=[rR,q9,nw,gR,pF,D1,Ir,mM,pO,kJ,rH,gY,oS,nj,o6,kF,oX,rF,kQ,oh,kB,lV,mS,pf,il,l5,xI,gA,nv,kS,j7,oq,ng,qX,qW,lB,xY,rQ,mP,kR,kC,k9,kG,rp,rm,lT,nn,lD,mY,vg,rh,lO,kL,ir,Bs,pd,jY,jV,nu,iK,i9,pH,oe,ph,j5,nk,mW,vC,nl,rK,pC,pN,ob,Bg,la,Cc,mQ,mZ,nf,jx,lY,KO,BD,kN,pn,rW,uJ,D8,rJ,jG,Gi,rI,lL,rN,na,oT,kO,o0,nr,j8,iM,mJ,o8,kZ,lG,u4,mN,Ex,NP]
end
def fnT:List (Str×Addr):=[(sS "Info",52),(sS "Buffer",103),(sS "merge",137),(sS "group_ends",118),(sS "class_bit",233),(sS "attach_wanted",226),(sS "is_ignored",240),(sS "passes",247),(sS "neighbour",287),(sS "Lookup",193),(sS "Scene",215),(sS "is_mark_at",517),(sS "scene_with",510),(sS "before_at",301),(sS "is_later_part",524),(sS "break_ring",392),(sS "difference",448),(sS "hang",142),(sS "base_ahead",531),(sS "set_on",538),(sS "add_place",587),(sS "take_advances",594),(sS "chain_from",580),(sS "settle_one",601),(sS "apply_base",545),(sS "apply_position",777),(sS "beginnings",803),(sS "position_at",784),(sS "put",159),(sS "apply_multiple",902),(sS "apply_table",923),(sS "takes",254),(sS "substitute_at",930),(sS "run_forward",937),(sS "hidden_spans",958),(sS "is_hidden_code",965),(sS "kind_of_code",979),(sS "is_selector",972),(sS "is_to_hide",1007),(sS "second_tags",1383),(sS "feature_at",1411),(sS "required_feature",1418),(sS "add_lookups",1432),(sS "feature_indexes",1425),(sS "Want",1508),(sS "is_joined_script",1108),(sS "first_wants",1519),(sS "choose_langsys",1404),(sS "choose_script",1397),(sS "script_tags",1390),(sS "mask_at",1540),(sS "gather",1438),(sS "all_wants",1526),(sS "language_of",1554),(sS "has_feature",1561),(sS "shared_out",1533),(sS "stage_tags",1573),(sS "required_stage",1578),(sS "gathered",1568),(sS "Plan",1472),(sS "mark_kinds",986),(sS "take_selectors",1000),(sS "run_substitution",951),(sS "advance",1178),(sS "run_position",810),(sS "flatten_hidden",1751),(sS "settle",608),(sS "buffer_of",113),(sS "read_letters",1718),(sS "shape_letters",1723),(sS "set_masks",1590),(sS "map_glyphs",1730),(sS "substitute",1737),(sS "set_advances",1744),(sS "place_glyphs",1758),(sS "hide",1021),(sS "spread_unsafe",171),(sS "Shaped",1707),(sS "shaped_rows",1763),(sS "is_backward_script",1212),(sS "make_plan",1583),(sS "shape_by",1770),(sS "shape_codes",1779),(sS "_law_draw",2083),(sS "_law_is_later",2100),(sS "_law_mapping",2088),(sS "MarkBase",499),(sS "Anchor",430),(sS "Multiple",884),(sS "Layout",2072),(sS "Script",2018),(sS "LangSys",1992),(sS "Feature",2046),(sS "Gdef",1964),(sS "ClassDef",1875),(sS "Font",1909),(sS "CharMap",1828),(sS "Metrics",1167),(sS "_law_split",2093),(sS "_law_base",2107),(sS "shape",1786)]
def methT:List Mt:=[⟨sS "copied",52,42⟩,⟨sS "class_of",1875,1853⟩,⟨sS "glyph_class",1964,1942⟩,⟨sS "next_split",103,100⟩,⟨sS "has_own",1508,1505⟩,⟨sS "glyph",1828,1813⟩,⟨sS "told",52,49⟩]
noncomputable def clsT:List (Addr×Addr):=[(52,35),(103,71),(193,185),(215,212),(430,420),(499,489),(884,876),(1167,1150),(1472,1464),(1508,1498),(1707,1697),(1828,1806),(1875,1846),(1909,1893),(1964,1935),(1992,1982),(2018,2010),(2046,2036),(2072,2064)]
abbrev HG(cx:Cx):Prop:=Om cx fnT methT clsT defT
variable{cx:Cx}(S:HG cx)
include S
theorem BX:Callee cx 1 35 lj:=ag (d:=rR) S 0 rfl Co .nil .nil
theorem AF:Callee cx 1 49 je:=ag (d:=q9) S 1 rfl Ch .nil .nil
theorem wW:Callee cx 1 71 jm:=ag (d:=nw) S 2 rfl w9 .nil .nil
theorem mI:Callee cx 1 100 cN:=ag (d:=gR) S 3 rfl mA .nil .nil
theorem zP:Callee cx 1 118 fR:=ag (d:=pF) S 4 rfl zX .nil .nil
theorem D5:Callee cx 1 137 ky:=ag (d:=D1) S 5 rfl Ju .nil .nil
theorem Lg:Callee cx 1 142 u7:=ag (d:=Ir) S 6 rfl Lh .nil .nil
theorem vJ:Callee cx 1 185 jq:=ag (d:=mM) S 7 rfl xd .nil .nil
theorem yM:Callee cx 1 212 hY:=ag (d:=pO) S 8 rfl zh .nil .nil
theorem sF:Callee cx 1 226 eP:=ag (d:=kJ) S 9 rfl sa .nil .nil
theorem AO:Callee cx 1 233 cC:=ag (d:=rH) S 10 rfl Aw .nil .nil
theorem mC:Callee cx 1 1853 cM:=ag (d:=gY) S 11 rfl mF .nil .nil
theorem zJ:Callee cx 1 392 fj:=ag (d:=oS) S 12 rfl zC .nil .nil
theorem wN:Callee cx 1 420 jv:=ag (d:=nj) S 13 rfl xc .nil .nil
theorem yB:Callee cx 1 448 fB:=ag (d:=o6) S 14 rfl yV .nil .nil
theorem so:Callee cx 1 489 gO:=ag (d:=kF) S 15 rfl rZ .nil .nil
theorem yU:Callee cx 1 580 ed:=ag (d:=oX) S 16 rfl Am .nil .nil
theorem Az:Callee cx 1 587 gL:=ag (d:=rF) S 17 rfl AI .nil .nil
theorem s9:Callee cx 1 594 cz:=ag (d:=kQ) S 18 rfl sU .nil .nil
theorem yn:Callee cx 1 803 fL:=ag (d:=oh) S 19 rfl Aj .nil .nil
theorem sE:Callee cx 1 876 gN:=ag (d:=kB) S 20 rfl sB .nil .nil
theorem tV:Callee cx 1 958 ft:=ag (d:=lV) S 21 rfl vj .nil .nil
theorem wo:Callee cx 1 972 eL:=ag (d:=mS) S 22 rfl xg .nil .nil
theorem pD:Callee cx 1 1007 cG:=ag (d:=pf) S 23 rfl zw .nil .nil
theorem iq:Callee cx 1 1108 bZ:=ag (d:=il) S 24 rfl n7 .nil .nil
theorem tI:Callee cx 1 1150 io:=ag (d:=l5) S 25 rfl tL .nil .nil
theorem FN:Callee cx 1 1178 ig:=ag (d:=xI) S 26 rfl Fp .nil .nil
theorem lI:Callee cx 1 1212 ce:=ag (d:=gA) S 27 rfl lg .nil .nil
theorem vR:Callee cx 1 1383 gh:=ag (d:=nv) S 28 rfl wB .nil .nil
theorem tf:Callee cx 1 1397 eR:=ag (d:=kS) S 29 rfl sC .nil .nil
theorem qH:Callee cx 1 1404 d0:=ag (d:=j7) S 30 rfl qr .nil .nil
theorem pM:Callee cx 1 1411 ee:=ag (d:=oq) S 31 rfl yu .nil .nil
theorem wn:Callee cx 1 1432 eA:=ag (d:=ng) S 32 rfl vQ .nil .nil
theorem Ci:Callee cx 1 1464 lw:=ag (d:=qX) S 33 rfl BW .nil .nil
theorem AS:Callee cx 1 1498 lp:=ag (d:=qW) S 34 rfl Bx .nil .nil
theorem vy:Callee cx 1 1505 iA:=ag (d:=lB) S 35 rfl uS .nil .nil
theorem EF:Callee cx 1 1540 mn:=ag (d:=xY) S 36 rfl FT .nil .nil
theorem Ax:Callee cx 1 1590 gv:=ag (d:=rQ) S 37 rfl BS .nil .nil
theorem wz:Callee cx 1 1697 jp:=ag (d:=mP) S 38 rfl wA .nil .nil
theorem sV:Callee cx 1 1723 db:=ag (d:=kR) S 39 rfl sZ .nil .nil
theorem kE:Callee cx 1 1813 dq:=ag (d:=kC) S 40 rfl sJ .nil .nil
theorem ug:Callee cx 1 1806 iO:=ag (d:=k9) S 41 rfl uG .nil .nil
theorem sj:Callee cx 1 1846 gQ:=ag (d:=kG) S 42 rfl sq .nil .nil
theorem B7:Callee cx 1 1893 lm:=ag (d:=rp) S 43 rfl BI .nil .nil
theorem BM:Callee cx 1 1935 ly:=ag (d:=rm) S 44 rfl AV .nil .nil
theorem uf:Callee cx 1 1982 iJ:=ag (d:=lT) S 45 rfl uA .nil .nil
theorem wm:Callee cx 1 2010 jl:=ag (d:=nn) S 46 rfl wK .nil .nil
theorem vp:Callee cx 1 2036 iL:=ag (d:=lD) S 47 rfl uj .nil .nil
theorem wU:Callee cx 1 2064 ju:=ag (d:=mY) S 48 rfl wu .nil .nil
theorem tE:Callee cx 1 2083 aM:=ag (d:=vg) S 49 rfl DF .nil .nil
theorem BZ:Callee cx 1 2093 gz:=ag (d:=rh) S 50 rfl BJ .nil .nil
theorem u3:Callee cx 1 2100 dQ:=ag (d:=lO) S 51 rfl tA .nil .nil
theorem s7:Callee cx 2 171 dg:=ag (d:=kL) S 52 rfl sR (.cons 3 rfl (zP S) .nil) .nil
theorem eW:Callee cx 2 1942 bF:=ag (d:=ir) S 53 rfl nX .nil (.one 1 rfl (mC S) .nil)
theorem IU:Callee cx 2 538 lM:=ag (d:=Bs) S 54 rfl Hs (.cons 15 rfl (zJ S) (.cons 16 rfl (yB S) (.cons 17 rfl (Lg S) .nil))) .nil
theorem yQ:Callee cx 2 601 fq:=ag (d:=pd) S 55 rfl zk (.cons 20 rfl (Az S) (.cons 21 rfl (s9 S) .nil)) .nil
theorem qd:Callee cx 2 965 eh:=ag (d:=jY) S 56 rfl qe (.cons 34 rfl (tV S) .nil) .nil
theorem qT:Callee cx 2 1000 cU:=ag (d:=jV) S 57 rfl qG (.cons 37 rfl (wo S) (.cons 2 rfl (D5 S) .nil)) .nil
theorem xp:Callee cx 2 1390 gf:=ag (d:=nu) S 58 rfl wy (.cons 39 rfl (vR S) .nil) .nil
theorem iI:Callee cx 2 1418 bY:=ag (d:=iK) S 59 rfl nG (.cons 40 rfl (pM S) .nil) .nil
theorem iX:Callee cx 2 1425 cf:=ag (d:=i9) S 60 rfl ot (.cons 40 rfl (pM S) .nil) .nil
theorem zi:Callee cx 2 1533 hZ:=ag (d:=pH) S 61 rfl zd .nil (.one 4 rfl (vy S) .nil)
theorem zL:Callee cx 2 1573 g5:=ag (d:=oe) S 62 rfl zH (.cons 45 rfl (iq S) .nil) .nil
theorem yR:Callee cx 2 1730 fM:=ag (d:=ph) S 63 rfl zF .nil (.one 5 rfl (kE S) .nil)
theorem ql:Callee cx 2 1751 cP:=ag (d:=j5) S 64 rfl qS (.cons 38 rfl (pD S) .nil) .nil
theorem w3:Callee cx 2 1763 eD:=ag (d:=nk) S 65 rfl wX .nil (.one 6 rfl (AF S) .nil)
theorem wQ:Callee cx 2 2088 bA:=ag (d:=mW) S 66 rfl wc (.cons 83 rfl (lQ (tE S) q0) .nil) .nil
theorem Dq:Callee cx 2 2107 iH:=ag (d:=vC) S 67 rfl Dz (.cons 84 rfl (u3 S) .nil) .nil
theorem Gx:Callee cx 2 52 nM:=cZ S 0 rfl (BX S)
theorem wr:Callee cx 3 42 f9:=ag (d:=nl) S 68 rfl wl (.cons 0 rfl (Gx S) .nil) .nil
theorem I3:Callee cx 2 103 oZ:=cZ S 1 rfl (wW S)
theorem AW:Callee cx 3 113 gq:=ag (d:=rK) S 69 rfl Bc (.cons 1 rfl (I3 S) (.cons 0 rfl (Gx S) .nil)) .nil
theorem zb:Callee cx 3 240 c9:=ag (d:=pC) S 70 rfl zx (.cons 4 rfl (Callee.mono (lQ (AO S) zV) (by decide)) (.cons 5 rfl ((sF S).mono (by decide)) .nil)) (.one 2 rfl (eW S) .nil)
theorem AL:Callee cx 2 193 iF:=cZ S 2 rfl (vJ S)
theorem zS:Callee cx 2 215 g9:=cZ S 3 rfl (yM S)
theorem zK:Callee cx 3 510 fw:=ag (d:=pN) S 71 rfl zE (.cons 9 rfl (AL S) (.cons 10 rfl (zS S) .nil)) .nil
theorem za:Callee cx 3 517 dX:=ag (d:=ob) S 72 rfl yt .nil (.one 2 rfl (eW S) .nil)
theorem Hg:Callee cx 3 608 lF:=ag (d:=Bg) S 73 rfl HQ (.cons 22 rfl ((yU S).mono (by decide)) (.cons 23 rfl (yQ S) .nil)) .nil
theorem vf:Callee cx 3 979 dW:=ag (d:=la) S 74 rfl uV (.cons 35 rfl (qd S) .nil) .nil
theorem IN:Callee cx 3 1438 oU:=ag (d:=Cc) S 75 rfl IY (.cons 41 rfl (iI S) (.cons 42 rfl ((wn S).mono (by decide)) (.cons 43 rfl (iX S) .nil))) .nil
theorem Gv:Callee cx 2 1508 nH:=cZ S 9 rfl (AS S)
theorem w5:Callee cx 3 1519 gm:=ag (d:=mQ) S 76 rfl wC (.cons 44 rfl (Gv S) (.cons 45 rfl ((iq S).mono (by decide)) .nil)) .nil
theorem wq:Callee cx 3 1554 ei:=ag (d:=mZ) S 77 rfl wM (.cons 47 rfl ((qH S).mono (by decide)) (.cons 48 rfl ((tf S).mono (by decide)) (.cons 49 rfl (xp S) .nil))) .nil
theorem wp:Callee cx 3 1561 dw:=ag (d:=nf) S 78 rfl vZ (.cons 43 rfl (iX S) .nil) .nil
theorem pW:Callee cx 3 1578 d9:=ag (d:=jx) S 79 rfl qF (.cons 41 rfl (iI S) .nil) .nil
theorem vn:Callee cx 3 1744 dP:=ag (d:=lY) S 80 rfl uT (.cons 63 rfl ((FN S).mono (by decide)) .nil) (.one 2 rfl (eW S) .nil)
theorem KN:Callee cx 4 159 vH:=ag (d:=KO) S 81 rfl MW (.cons 2 rfl ((D5 S).mono (by decide)) .nil) (.one 0 rfl (wr S) .nil)
theorem ui:Callee cx 4 247 dT:=ag (d:=BD) S 82 rfl HL (.cons 6 rfl (zb S) .nil) .nil
theorem sY:Callee cx 4 524 de:=ag (d:=kN) S 83 rfl sD (.cons 11 rfl (za S) .nil) .nil
theorem Ar:Callee cx 4 986 fF:=ag (d:=pn) S 84 rfl yd (.cons 36 rfl (vf S) .nil) .nil
theorem BC:Callee cx 4 1526 i3:=ag (d:=rW) S 85 rfl AU (.cons 46 rfl (w5 S) (.cons 44 rfl ((Gv S).mono (by decide)) .nil)) .nil
theorem Dm:Callee cx 4 1568 ii:=ag (d:=uJ) S 86 rfl CJ (.cons 50 rfl ((EF S).mono (by decide)) (.cons 51 rfl (IN S) .nil)) .nil
theorem Kc:Callee cx 5 254 oa:=ag (d:=D8) S 87 rfl KF (.cons 7 rfl (ui S) .nil) .nil
theorem AK:Callee cx 5 287 iW:=ag (d:=rJ) S 88 rfl Cn (.cons 7 rfl (ui S) .nil) .nil
theorem qO:Callee cx 5 902 cS:=ag (d:=jG) S 89 rfl pR (.cons 28 rfl (KN S) .nil) (.one 3 rfl ((mI S).mono (by decide)) .nil)
theorem Lu:Callee cx 5 1021 vt:=ag (d:=Gi) S 90 rfl Ls (.cons 38 rfl ((pD S).mono (by decide)) (.cons 28 rfl (KN S) .nil)) .nil
theorem LC:Callee cx 2 1472 Dl:=cZ S 8 rfl (Ci S)
theorem BH:Callee cx 5 1583 dM:=ag (d:=rI) S 91 rfl B8 (.cons 52 rfl (BC S) (.cons 53 rfl ((wq S).mono (by decide)) (.cons 54 rfl ((wp S).mono (by decide)) (.cons 55 rfl ((zi S).mono (by decide)) (.cons 56 rfl ((zL S).mono (by decide)) (.cons 57 rfl ((pW S).mono (by decide)) (.cons 58 rfl (Dm S) (.cons 59 rfl ((LC S).mono (by decide)) .nil)))))))) .nil
theorem tU:Callee cx 5 1718 dK:=ag (d:=lL) S 92 rfl uq (.cons 60 rfl (Ar S) (.cons 61 rfl ((qT S).mono (by decide)) .nil)) .nil
theorem AD:Callee cx 6 301 ff:=ag (d:=rN) S 93 rfl Cf (.cons 8 rfl (AK S) .nil) .nil
theorem wf:Callee cx 6 923 em:=ag (d:=na) S 94 rfl we (.cons 29 rfl (qO S) .nil) .nil
theorem yb:Callee cx 7 531 fO:=ag (d:=oT) S 95 rfl yC (.cons 12 rfl ((zK S).mono (by decide)) (.cons 13 rfl (AD S) (.cons 14 rfl ((sY S).mono (by decide)) .nil))) .nil
theorem sn:Callee cx 7 930 dn:=ag (d:=kO) S 96 rfl sO (.cons 30 rfl (wf S) .nil) .nil
theorem Ab:Callee cx 8 545 fN:=ag (d:=o0) S 97 rfl yA (.cons 18 rfl (yb S) (.cons 19 rfl ((IU S).mono (by decide)) .nil)) .nil
theorem wJ:Callee cx 8 937 eo:=ag (d:=nr) S 98 rfl wv (.cons 31 rfl ((Kc S).mono (by decide)) (.cons 32 rfl (sn S) .nil)) .nil
theorem pS:Callee cx 9 777 cR:=ag (d:=j8) S 99 rfl pX (.cons 24 rfl (Ab S) .nil) .nil
theorem nW:Callee cx 9 951 cw:=ag (d:=iM) S 100 rfl n6 (.cons 10 rfl ((zS S).mono (by decide)) (.cons 33 rfl (wJ S) .nil)) .nil
theorem wx:Callee cx 10 784 eE:=ag (d:=mJ) S 101 rfl v9 (.cons 25 rfl (pS S) .nil) .nil
theorem ye:Callee cx 10 1737 fH:=ag (d:=o8) S 102 rfl zu (.cons 62 rfl (nW S) .nil) .nil
theorem vE:Callee cx 11 810 dR:=ag (d:=kZ) S 103 rfl t6 (.cons 26 rfl ((yn S).mono (by decide)) (.cons 10 rfl ((zS S).mono (by decide)) (.cons 7 rfl ((ui S).mono (by decide)) (.cons 27 rfl (wx S) .nil)))) .nil
theorem tG:Callee cx 12 1758 dN:=ag (d:=lG) S 104 rfl uL (.cons 64 rfl (vE S) (.cons 65 rfl ((ql S).mono (by decide)) (.cons 66 rfl ((Hg S).mono (by decide)) .nil))) .nil
theorem Iw:Callee cx 2 1707 oo:=cZ S 10 rfl (wz S)
theorem CW:Callee cx 13 1770 fW:=ag (d:=u4) S 105 rfl Dw (.cons 67 rfl ((AW S).mono (by decide)) (.cons 68 rfl ((tU S).mono (by decide)) (.cons 69 rfl ((sV S).mono (by decide)) (.cons 70 rfl ((Ax S).mono (by decide)) (.cons 71 rfl ((yR S).mono (by decide)) (.cons 72 rfl ((ye S).mono (by decide)) (.cons 73 rfl ((vn S).mono (by decide)) (.cons 74 rfl (tG S) (.cons 75 rfl ((Lu S).mono (by decide)) (.cons 76 rfl ((s7 S).mono (by decide)) (.cons 77 rfl ((Iw S).mono (by decide)) (.cons 78 rfl ((w3 S).mono (by decide)) .nil)))))))))))) (.one 5 rfl ((kE S).mono (by decide)) .nil)
theorem vX:Callee cx 14 1779 el:=ag (d:=mN) S 106 rfl wg (.cons 79 rfl ((lI S).mono (by decide)) (.cons 80 rfl (Callee.mono (gI (BH S)) (by decide)) (.cons 81 rfl (gI (CW S)) .nil))) .nil
theorem JU:Callee cx 15 1786 i8:=ag (d:=Ex) S 107 rfl Ku (.cons 82 rfl (vX S) .nil) .nil
theorem Do:Callee cx 2 499 nT:=cZ S 5 rfl (so S)
theorem G6:Callee cx 2 430 oR:=cZ S 4 rfl (wN S)
theorem DA:Callee cx 2 884 n5:=cZ S 6 rfl (sE S)
theorem Hv:Callee cx 2 2072 oV:=cZ S 18 rfl (wU S)
theorem GK:Callee cx 2 2018 pj:=cZ S 16 rfl (wm S)
theorem ED:Callee cx 2 1992 mc:=cZ S 15 rfl (uf S)
theorem FO:Callee cx 2 2046 l8:=cZ S 17 rfl (vp S)
theorem Mx:Callee cx 2 1964 Cy:=cZ S 14 rfl (BM S)
theorem CY:Callee cx 2 1875 kq:=cZ S 12 rfl (sj S)
theorem Mk:Callee cx 2 1909 DO:=cZ S 13 rfl (B7 S)
theorem EH:Callee cx 2 1828 pU:=cZ S 11 rfl (ug S)
theorem EB:Callee cx 2 1167 qw:=cZ S 7 rfl (tI S)
end
section
section
variable[HasP]
def Kq(P:Params)(x:Addr)(o:Obj):Frag:=Kp P++[(x,o)]
def Ov(K:Frag):Bool:=Nx K&&(Nd K&&(M8 K&&Nc K))
def OP(K:Frag):Bool:=MY K fnT&&(Ny K methT&&(NY K clsT&&defT.all (Ka K)))
def Px(P:Params):Bool:=((Kp P).lookup sysModules).isSome
end
theorem Pk:Kz fieldNames=true:=by kernel_rfl
theorem Nb:@Px=fun _ _=>true:=by kernel_rfl
theorem LU(P:Params):Px P=true:=congrFun (congrFun Nb iPP) P
theorem Nv:(fun P x o=>Ov (Kq P x o))=fun _ _ _=>true:=by kernel_rfl
theorem MZ:(fun P x o=>OP (Kq P x o))=fun _ _ _=>true:=by kernel_rfl
theorem NE:(fun P x o=>defT.map fun d=>(Kq P x o).lookup d.a)=fun _ _ _=>defT.map JQ:=by kernel_rfl
theorem Gq{α β:Type}{f g:α→β}:∀{l:List α},l.map f=l.map g→∀d∈l,f d=g d
 |[],_,_,h=>nomatch h
 |a::l,e,d,h=>by
  rw[List.map_cons,List.map_cons,List.cons.injEq]at e;rcases uB.mp h with rfl|h
  ·exact e.1
  ·exact Gq e.2 d h
theorem LR(w:World)(x:Addr)(o:Obj)(cx:Cx)(hK:cx.K=Kp w.params++[(x,o)])(hn:cx.names=fieldNames)(ho:cx.okf=okf):HG cx:=by
 have f:Ov (Kq w.params x o)=true:=congrFun (congrFun (congrFun Nv w.params) x) o;have d:=congrFun (congrFun (congrFun NE w.params) x) o;have eK:Kq w.params x o=cx.K:=hK.symm;have g:OP (Kq w.params x o)=true:=congrFun (congrFun (congrFun MZ w.params) x) o;rw[eK]at f g;unfold Ov at f;unfold OP at g;simp only[aY]at f g;exact⟨hn,ho,f.1,f.2.1,f.2.2.1,f.2.2.2,g.1,g.2.1,g.2.2.1,Pk,g.2.2.2,fun q hq=>eK▸Gq d q hq⟩
end
end
section
open PySem PySem.W PySem.Calls PyProof.Rows
set_option tactic.hygienic false
theorem J1:∀{xs:List WData},WShape.hasItems [] xs .int=true→∃is:List Int,xs=is.map .int:=by
 intro zz;induction zz with
 |nil=>
  intro _;exact⟨[],rfl⟩
 |cons d l ih=>
  intro h;have h':(WShape.has [] d .int&&WShape.hasItems [] l .int)=true:=h;rw[aY]at h';obtain⟨is,rfl⟩:=ih h'.2;obtain⟨i,rfl⟩:=hasW_int h'.1;exact⟨i::is,rfl⟩
set_option backward.match.sparseCases true in
theorem JF{ds:List WData}(h:WTm.holds [] RR.pre {args:=[.list ds]}=true):ds.length≤63:=by
 by_cases c:ds.length≤63
 ·exact c
 ·exfalso;have c':(63:Int)<(ds.length:Int):=by omega
  revert h
  show¬(match WTm.value [] RR.pre {args:=[.list ds]}with|some (.bool true)=>true|_=>false)=true;simp[RR,PySem.Challenge.rw_pf0153_01,OpenLaw.row,OpenLaw.pre,WTm.value,less?,Num.less?,c']
theorem Jm{args:List WData}(h:RR.toRowW.claim.pre args=true):∃is:List Int,args=[.list (is.map .int)]∧is.length≤63:=by
 obtain⟨h1,h2⟩:=pre_splitW h;obtain⟨d,r,rfl,hd,hr⟩:=hasAllW_cons h1;have:=hasAllW_nil hr;subst this;obtain⟨xs,rfl,hx⟩:=hasW_list hd;obtain⟨is,rfl⟩:=J1 hx;have:=JF h2;rw[ao]at this;exact⟨is,rfl,this⟩
theorem Fj{P:Params}{h:Heap}:∀{is:List Int} {vs:List Value},WellAll P h vs (is.map .int)→∀(K:Frag) (W:Wd),VRs K W (is.map .int) vs:=by
 intro zz;induction zz with
 |nil=>
  intro vs hw;cases hw;intro K W;exact .nil
 |cons i is ih=>
  intro vs hw;cases hw with
  |cons a b=>
   intro K W;cases a;exact .cons _ _ _ _ (.int _ _) (ih b K W)
theorem IC{P:Params}{h:Heap}{vals:List Value}{is:List Int}(hw:WellAll P h vals [.list (is.map .int)]):∃x vs,vals=[.ref x]∧h.get? x=some ⟨.type "list",none,.seq (List.toArray vs) 0,#[]⟩∧∀(K:Frag) (W:Wd),VRs K W (is.map .int) vs:=by
 cases hw with
 |cons a b=>
  cases b;cases a with
  |list g w=>exact⟨_,_,rfl,g,fun K W=>Fj w K W⟩
end
section
open PySem
set_option tactic.hygienic false
section
variable{H H' H1:Hp}{i r q k j m C p rr r' i' f u:Nat}{o:O}{l xs:List V}{ρ:bJ}{a n g:Int}{d:List (V×V)}{R:List O}{L:List Nat}{v:V}{w:V×Hp}{ps:List Int}{pc:Int→Option (List Int)}
noncomputable def Hp.ins(H:Hp)(q:Nat)(o:O):Hp:=match H[q]? with|some R=>H.set q (R++[o]) | .none=>H
noncomputable def Hp.sz(H:Hp)(q:Nat):Nat:=match H[q]? with|some R=>R.length | .none=>0
theorem Hp.lt_of_get(h:H.get r i=some o):r<H.length:=by
 (conv at h=>lhs;whnf)
 induction e:H[r]? with
 |none=>rw[e]at h;exact absurd h (by simp)
 |some R=>exact(Ok.mp e).1
theorem Hp.lt_sz(h:H.get r i=some o):i<H.sz r:=by
 (conv at h=>lhs;whnf);unfold Hp.sz
 induction e:H[r]? with
 |none=>rw[e]at h;exact absurd h (by simp)
 |some R=>rw[e]at h;exact(Ok.mp h).1
theorem Hp.new_eq(hq:q<H.length)(hf:o.fits=true):H.new q o=some (.ref q (H.sz q),H.ins q o):=by
 unfold Hp.new Hp.sz Hp.ins;rw[ay hq];simp[hf]
theorem Hp.len_ins:(H.ins q o).length=H.length:=by
 unfold Hp.ins;split<;>simp
theorem Hp.len_put:(H.put r i o).length=H.length:=by
 unfold Hp.put;split<;>simp
theorem Hp.get_ins{x:O}(h:H.get r i=some x):(H.ins q o).get r i=some x:=by
 unfold Hp.get at h⊢;unfold Hp.ins;induction e:H[q]? with
 |none=>exact h
 |some R=>
  dsimp only;by_cases hr:q=r
  ·subst hr;have hq:=(Ok.mp e).1;rw[bL hq];rw[e]at h;dsimp only at h⊢;rw[cD (Ok.mp h).1];exact h
  ·rw[List.getElem?_set_ne hr];exact h
theorem Hp.get_ins_self(hq:q<H.length):(H.ins q o).get q (H.sz q)=some o:=by
 unfold Hp.get Hp.ins Hp.sz;rw[ay hq];dsimp only;rw[bL hq];simp
theorem Hp.sz_ins(hq:q<H.length):(H.ins q o).sz q=H.sz q+1:=by
 unfold Hp.ins Hp.sz;rw[ay hq];dsimp only;rw[bL hq];simp
theorem Hp.get_put_self{x:O}(h:H.get r i=some x):(H.put r i o).get r i=some o:=by
 have hr:=Hp.lt_of_get h;unfold Hp.get Hp.put at *;rw[ay hr]at *;dsimp only at *;rw[bL hr];dsimp only;rw[bL (Ok.mp h).1]
theorem Hp.get_put_ne(h:¬(r=r'∧i=i')):(H.put r i o).get r' i'=H.get r' i':=by
 unfold Hp.get Hp.put;induction e:H[r]? with
 |none=>rfl
 |some R=>
  dsimp only;by_cases hr:r=r'
  ·subst hr;have hq:=(Ok.mp e).1;rw[bL hq,e];dsimp only;rw[List.getElem?_set_ne (fun c=>h ⟨rfl,c⟩)]
  ·rw[List.getElem?_set_ne hr]
theorem Hp.put_put{a b:O}:(H.put r i a).put r i b=H.put r i b:=by
 unfold Hp.put;induction e:H[r]? with
 |none=>dsimp only;rw[e]
 |some R=>
  dsimp only;rw[bL (Ok.mp e).1];simp
theorem Hp.put_ins{a b:O}(hq:q<H.length):(H.ins q a).put q (H.sz q) b=H.ins q b:=by
 unfold Hp.put Hp.ins Hp.sz;rw[ay hq];dsimp only;rw[bL hq];dsimp only;simp
theorem Hp.put_id(h:H.get r i=some o):H.put r i o=H:=by
 have hr:=Hp.lt_of_get h
 (conv at h=>lhs;whnf);(conv=>lhs;whnf)
 rw[ay hr]at *;dsimp only at *;have hi:=(Ok.mp h);obtain⟨hi,e⟩:=hi;rw[←e,List.set_getElem_self,List.set_getElem_self]
section
variable{ρ1:bJ}{H2 H3:Hp}{a b c:Ev}{x y z:V}
theorem eB:ai v ρ q H=some (v,H):=rfl
theorem bq(h:ρ[i]?=some (some v)):aa i ρ q H=some (v,H):=by(conv=>lhs;whnf);rw[h]
theorem v6{o:Eu}(h1:a ρ q H=some (x,H1))(h2:b ρ q H1=some (y,H2))(h3:im o x y q H2=some w):aI o a b ρ q H=some w:=by
 (conv=>lhs;whnf);rw[h1];dsimp only;rw[h2];exact h3
theorem La{k:Int}(h1:a ρ q H=some (.int k,H1)):iE a ρ q H=some (.int (-k),H1):=by(conv=>lhs;whnf);rw[h1]
theorem qV{l:List (Nat×V)}(h1:a ρ q H=some (.ref r i,H1))(h2:H1.get r i=some (.inst C l))(h3:Ae l f=some v):ae a f ρ q H=some (v,H1):=by
 (conv=>lhs;whnf);rw[h1];dsimp only;rw[h2];dsimp only;rw[h3]
theorem DB(h1:a ρ q H=some (x,H1))(h2:b ρ q H1=some (y,H2))(h3:idx x y H2=some v):aG a b ρ q H=some (v,H2):=by
 (conv=>lhs;whnf);rw[h1];dsimp only;rw[h2];dsimp only;rw[h3]
theorem da:cs [] ρ q H=some ([],H):=rfl
theorem aX{l:List Ev}(h1:a ρ q H=some (x,H1))(h2:cs l ρ q H1=some (xs,H2)):cs (a::l) ρ q H=some (x::xs,H2):=by
 (conv=>lhs;whnf);rw[h1];dsimp only;rw[h2]
theorem j4{F:Md}{l:List Ev}(h1:cs l ρ q H=some (xs,H1))(h2:F xs q H1=some w):aj F l ρ q H=some w:=by
 (conv=>lhs;whnf);rw[h1];exact h2
theorem Nj{cands:List (Addr×Md)}{F:Md}{l:List Ev}{f:List (Nat×V)}(h1:a ρ q H=some (.ref r i,H1))(h2:H1.get r i=some (.inst C f))(h3:cands.lookup C=some F)(h4:cs l ρ q H1=some (xs,H2))(h5:F (.ref r i::xs) q H2=some w):gG cands a l ρ q H=some w:=by
 (conv=>lhs;whnf);rw[h1];dsimp only;rw[h2];dsimp only;rw[h3];dsimp only;rw[h4];exact h5
theorem LK{k:Bi}{l:List Ev}(h1:cs l ρ q H=some (xs,H1))(h2:bi k xs q H1=some w):cK k l ρ q H=some w:=by
 (conv=>lhs;whnf);rw[h1];exact h2
theorem Bt{l:List Ev}(h1:cs l ρ q H=some (xs,H1))(h2:xs.length≤9000):bP l ρ q H=some (.tup xs,H1):=by
 (conv=>lhs;whnf);rw[h1];dsimp only;rw[ac h2]
theorem kT{l:List Ev}(h1:cs l ρ q H=some (xs,H1))(h2:q<H1.length)(h3:xs.length≤9000):bD l ρ q H=some (.ref q (H1.sz q),H1.ins q (.list xs)):=by
 (conv=>lhs;whnf);rw[h1];exact Hp.new_eq h2 (by simpa[O.fits]using h3)
theorem mv(h1:a ρ q H=some (.ref r i,H1))(h2:b ρ q H1=some (x,H1))(h3:H1.get r i=some (.list l))(h4:l.length<9000):fE a b ρ q H=some (.none,H1.put r i (.list (l++[x]))):=by
 (conv=>lhs;whnf);rw[h1];dsimp only;rw[h3];dsimp only;rw[h2];dsimp only;rw[h3];dsimp only;rw[ac h4]
theorem EE{w:Option Ev}{l:List (V×V)}(h1:a ρ q H=some (.ref r i,H1))(h2:b ρ q H1=some (x,H1))(h4:H1.get r i=some (.dict l))(h3:nJ w ρ q H1=some (y,H1))(h5:(cg x&&aW x l)=true):mE a b w ρ q H=some ((dG l x).getD y,H1):=by
 (conv=>lhs;whnf);rw[h1];dsimp only;rw[h4];dsimp only;rw[h2];dsimp only;rw[h3];dsimp only;rw[h4];dsimp only;rw[ac h5]
 cases dG l x<;>rfl
variable{t t':Tv}{k k':Bool}{w:Bool×Hp}{w':V×Hp}
theorem GC(h1:a ρ q H=some (x,H1))(h2:dY x=some k):aV a ρ q H=some (k,H1):=by(conv=>lhs;whnf);rw[h1];dsimp only;rw[h2]
theorem vo{o:COp}(h1:a ρ q H=some (x,H1))(h2:b ρ q H1=some (y,H2))(h3:bO o x y H2=some k):aA o a b ρ q H=some (k,H2):=by
 (conv=>lhs;whnf);rw[h1];dsimp only;rw[h2];dsimp only;rw[h3]
theorem pJ:iU [] ρ q H=some (true,H):=rfl
theorem OS:Ds [] ρ q H=some (false,H):=rfl
theorem D7(h:t ρ q H=some (k,H1)):bE t ρ q H=some (.bool k,H1):=by(conv=>lhs;whnf);rw[h]
theorem LT(h:a ρ q H=some w'):jZ [a] ρ q H=some w':=h
theorem NK(h:t ρ q H=some (k,H1))(h2:(cond k a b) ρ q H1=some w'):t9 t a b ρ q H=some w':=by(conv=>lhs;whnf);rw[h];induction k using jT<;>exact h2
theorem Hk(h:a ρ q H=some w'):(cond true a b) ρ q H=some w':=h
theorem I2(h:b ρ q H=some w'):(cond false a b) ρ q H=some w':=h
noncomputable def Oe:Tv:=fun _ _ H=>some (false,H)
noncomputable def Lc:Tv:=fun _ _ H=>some (true,H)
theorem PF:Oe ρ q H=some (false,H):=rfl
theorem Pc:Lc ρ q H=some (true,H):=rfl
theorem IW{t t':Tv}(h:t ρ q H=some w):(cond true t t') ρ q H=some w:=h
theorem HI{t t':Tv}(h:t' ρ q H=some w):(cond false t t') ρ q H=some w:=h
theorem N9(h:t ρ q H=some (k,H1))(h2:(cond k Oe Lc) ρ q H1=some w):lK t ρ q H=some w:=by(conv=>lhs;whnf);rw[h];induction k using jT<;>exact h2
theorem DQ{l:List Tv}(h:t ρ q H=some (k,H1))(h2:(cond k (iU l) Oe) ρ q H1=some w):iU (t::l) ρ q H=some w:=by(conv=>lhs;whnf);rw[h];induction k using jT<;>exact h2
theorem Pl{l:List Tv}(h:t ρ q H=some (k,H1))(h2:(cond k Lc (Ds l)) ρ q H1=some w):Ds (t::l) ρ q H=some w:=by(conv=>lhs;whnf);rw[h];induction k using jT<;>exact h2
theorem Mj{l:List Ev}(h:a ρ q H=some (v,H1))(h1:dY v=some k)(h2:(cond k (jZ (b::l)) (ai v)) ρ q H1=some w'):jZ (a::b::l) ρ q H=some w':=by
 (conv=>lhs;whnf);rw[h];dsimp only;rw[h1];induction k using jT<;>exact h2
theorem L5{o o':COp}(h1:a ρ q H=some (x,H1))(h2:b ρ q H1=some (y,H2))(h3:bO o x y H2=some k)(h4:(cond k (aA o' (ai y) c) Oe) ρ q H2=some w):gy o o' a b c ρ q H=some w:=by
 (conv=>lhs;whnf);rw[h1];dsimp only;rw[h2];dsimp only;rw[h3];induction k using jT<;>exact h4
variable{l m:List St}{s:St}{fl:Fl}{u:Fl×bJ×Hp}
theorem kW:aC [] ρ q H=some (.next,ρ,H):=rfl
theorem eI(h:s ρ q H=some (.next,ρ1,H1))(h2:aC l ρ1 q H1=some u):aC (s::l) ρ q H=some u:=by(conv=>lhs;whnf);rw[h];exact h2
theorem ND(h:s ρ q H=some (.ret v,ρ1,H1)):aC (s::l) ρ q H=some (.ret v,ρ1,H1):=by(conv=>lhs;whnf);rw[h]
theorem BP(h:a ρ q H=some (v,H1)):aC (aF a::l) ρ q H=some (.ret v,ρ,H1):=ND (by(conv=>lhs;whnf);rw[h])
theorem Lz(h:a ρ q H=some (v,H1))(h2:aC l ρ q H1=some u):aC (bt a::l) ρ q H=some u:=eI (by(conv=>lhs;whnf);rw[h]) h2
theorem nP(h:a ρ q H=some (v,H1))(h2:aC l (ρ.set i (some v)) q H1=some u):aC (am okf (.nm (.nm i)) a::l) ρ q H=some u:=eI (by(conv=>lhs;whnf);rw[h];rfl) h2
theorem qm{is:List Nat}{vs:List V}(h:a ρ q H=some (.tup vs,H1))(h1:fX is vs ρ=some ρ1)(h2:aC l ρ1 q H1=some u):aC (am okf (.nm (.tp is)) a::l) ρ q H=some u:=
 eI (ρ1:=ρ1) (H1:=H1) (by unfold am rO nq;rw[h];dsimp only;rw[h1]) h2
theorem kj{fs:List (Nat×V)}(h:a ρ q H=some (v,H1))(h0:b ρ q H1=some (.ref r i,H2))(h1:H2.get r i=some (.inst C fs))(hk:(okf C f&&decide (fs.length≤90))=true)(h2:aC l ρ q (H2.put r i (.inst C (iS fs f v)))=some u):aC (am okf (.at b f) a::l) ρ q H=some u:=
 eI (by unfold am rO fC;rw[h];dsimp only;rw[h0];dsimp only;rw[h1];dsimp only;rw[ac hk]) h2
theorem yI{ds:List (V×V)}(h:a ρ q H=some (v,H1))(h0:b ρ q H1=some (.ref r i,H2))(h1:c ρ q H2=some (y,H3))(h3:H3.get r i=some (.dict ds))(hk:(cg y&&aW y ds&&decide (ds.length<900))=true)(h2:aC l ρ q (H3.put r i (.dict (gM ds y v)))=some u):aC (am okf (.ix b c) a::l) ρ q H=some u:=
 eI (by unfold am rO;rw[h];dsimp only;rw[h0];dsimp only;rw[h1];dsimp only;rw[h3];dsimp only;rw[ac hk]) h2
theorem JE{ls:List V}(h:a ρ q H=some (v,H1))(h0:b ρ q H1=some (.ref r i,H2))(h1:c ρ q H2=some (.int n,H3))(h3:H3.get r i=some (.list ls))(hk:0≤n∧n<ls.length)(h2:aC l ρ q (H3.put r i (.list (ls.set n.toNat v)))=some u):aC (am okf (.ix b c) a::l) ρ q H=some u:=
 eI (by unfold am rO;rw[h];dsimp only;rw[h0];dsimp only;rw[h1];dsimp only;rw[h3];dsimp only;rw[ac hk]) h2
theorem fJ{l m:List St}:∀{ρ:bJ} {H:Hp},aC (l++m) ρ q H=match aC l ρ q H with|some (.next,ρ,H)=>aC m ρ q H|r=>r:=by
 induction l with
 |nil=>intro ρ H;rfl
 |cons a l ih=>
  intro ρ H;have e:∀l,aC (a::l) ρ q H=match a ρ q H with|some (.next,ρ,H)=>aC l ρ q H|r=>r:=fun _=>rfl
  rw[List.cons_append,e,e];induction h:a ρ q H with
  |none=>rfl
  |some p=>
   obtain⟨fl,ρ1,H1⟩:=p;induction fl with
   |next=>exact ih
   |ret v=>rfl
theorem JL{A B:List St}(h:t ρ q H=some (k,H1))(h2:aC (cond k A B++l) ρ q H1=some u):aC (cn t A B::l) ρ q H=some u:=by
 rw[fJ]at h2;rw[tF,show cn t A B ρ q H=aC (cond k A B) ρ q H1 by(conv=>lhs;whnf);rw[h];induction k using jT<;>rfl];exact h2
theorem OR{A B:List St}(h2:aC (A++l) ρ q H1=some u):aC (cond true A B++l) ρ q H1=some u:=h2
theorem O6{A B:List St}(h2:aC (B++l) ρ q H1=some u):aC (cond false A B++l) ρ q H1=some u:=h2
theorem No(h2:aC l ρ q H1=some u):aC ([]++l) ρ q H1=some u:=h2
theorem N8(h2:aC (s::(m++l)) ρ q H1=some u):aC ((s::m)++l) ρ q H1=some u:=h2
theorem bQ{ps:List Nat}{ds ys:List V}{n:Nat}{body:List St}(h1:gr xs ds ps.length=some ys)(h2:fX ps ys (List.replicate n .none)=some ρ)(h3:aC body ρ q H=some (.ret v,ρ1,H1)):aq ps ds n body xs q H=some (v,H1):=by
 (conv=>lhs;whnf);rw[h1];dsimp only;rw[h2];dsimp only;rw[h3]
theorem eJ{ps:List Nat}{ds ys:List V}{n:Nat}{body:List St}(h1:gr xs ds ps.length=some ys)(h2:fX ps ys (List.replicate n .none)=some ρ)(h3:aC body ρ q H=some (.next,ρ1,H1)):aq ps ds n body xs q H=some (.none,H1):=by
 (conv=>lhs;whnf);rw[h1];dsimp only;rw[h2];dsimp only;rw[h3]
theorem Qw{o':O}(h:aC l ρ q (H.put r i o')=some u):aC l ρ q ((H.put r i o).put r i o')=some u:=by rw[Hp.put_put];exact h
theorem jd{x:O}(h:i≠j)(h2:H.get r j=some x):(H.put r i o).get r j=some x:=by
 rw[Hp.get_put_ne (by intro zq;obtain⟨_,e⟩:=zq;exact h e)];exact h2
theorem zt{x:O}(h:¬(r=r'∧i=j))(h2:H.get r' j=some x):(H.put r i o).get r' j=some x:=by
 rw[Hp.get_put_ne h];exact h2
variable{B:List St}{n:Nat}{tg:Tn}{it:It}{I:Iv}
theorem Jk(h:aC (cE t B 2000::l) ρ q H=some u):aC (gP t B::l) ρ q H=some u:=h
theorem wT(h:t ρ q H=some (true,H1))(h2:aC (B++cE t B n::l) ρ q H1=some u):aC (cE t B (n+1)::l) ρ q H=some u:=by
 rw[fJ]at h2;rw[tF,show cE t B (n+1) ρ q H=(match aC B ρ q H1 with|some (.next,ρ,H)=>cE t B n ρ q H|r=>r)by(conv=>lhs;whnf);rw[h];try rfl];induction hb:aC B ρ q H1 with
 |none=>rw[hb]at h2;exact Rk h2
 |some p=>
  obtain⟨fl,ρ1,H2⟩:=p;rw[hb]at h2;induction fl with
  |next=>exact h2
  |ret v=>exact h2
theorem wF(h:t ρ q H=some (false,H1))(h2:aC l ρ q H1=some u):aC (cE t B (n+1)::l) ρ q H=some u:=by
 refine eI (ρ1:=ρ) (H1:=H1) ?_ h2
 (conv=>lhs;whnf);rw[h]
theorem iz(h:I ρ q H=some (it,H1))(h2:aC (di tg it B 2000 0::l) ρ q H1=some u):aC (bG I tg B::l) ρ q H=some u:=by
 have e:∀(s:St),aC (s::l) ρ q H=match s ρ q H with|some (.next,ρ,H)=>aC l ρ q H|r=>r:=fun _=>rfl
 have e':∀(s:St),aC (s::l) ρ q H1=match s ρ q H1 with|some (.next,ρ,H)=>aC l ρ q H|r=>r:=fun _=>rfl
 rw[e']at h2;rw[e];have:bG I tg B ρ q H=di tg it B 2000 0 ρ q H1:=by(conv=>lhs;whnf);rw[h]
 rw[this];exact h2
theorem iQ(h:item it j H=some .none)(h2:aC l ρ q H=some u):aC (di tg it B (n+1) j::l) ρ q H=some u:=by
 refine eI (ρ1:=ρ) (H1:=H) ?_ h2
 (conv=>lhs;whnf);rw[h]
theorem dO(h:item it j H=some (some v))(h1:nq tg v ρ=some ρ1)(h2:aC (B++di tg it B n (j+1)::l) ρ1 q H=some u):aC (di tg it B (n+1) j::l) ρ q H=some u:=by
 rw[fJ]at h2;rw[tF,show di tg it B (n+1) j ρ q H=(match aC B ρ1 q H with|some (.next,ρ,H)=>di tg it B n (j+1) ρ q H|r=>r)by(conv=>lhs;whnf);rw[h];dsimp only;rw[h1];try rfl];induction hb:aC B ρ1 q H with
 |none=>rw[hb]at h2;exact Rk h2
 |some p=>
  obtain⟨fl,ρ1,H2⟩:=p;rw[hb]at h2;induction fl with
  |next=>exact h2
  |ret v=>exact h2
variable{ts:List Tv}{acc:List V}
theorem gF{k:Nat}(h:I ρ q H=some (it,H1))(h2:dC tg ts a it 2000 0 [] (ρ++List.replicate k .none) q H1=some w'):bo k I tg ts a ρ q H=some w':=by
 (conv=>lhs;whnf);rw[h];exact h2
theorem rn(h:item it j H=some .none)(h1:q<H.length)(h2:acc.length≤9000):dC tg ts a it (n+1) j acc ρ q H=some (.ref q (H.sz q),H.ins q (.list acc)):=by
 (conv=>lhs;whnf);rw[h];exact Hp.new_eq h1 (by simpa[O.fits]using h2)
theorem rP(h:item it j H=some (some v))(h1:nq tg v ρ=some ρ1)(h3:iU ts ρ1 q H=some (true,H1))(h4:a ρ1 q H1=some (y,H2))(h5:dC tg ts a it n (j+1) (acc++[y]) ρ1 q H2=some w'):dC tg ts a it (n+1) j acc ρ q H=some w':=by
 (conv=>lhs;whnf);rw[h];dsimp only;rw[h1];dsimp only;rw[h3];dsimp only;rw[h4];exact h5
theorem K6(h:item it j H=some (some v))(h1:nq tg v ρ=some ρ1)(h3:iU ts ρ1 q H=some (false,H1))(h5:dC tg ts a it n (j+1) acc ρ1 q H1=some w'):dC tg ts a it (n+1) j acc ρ q H=some w':=by
 (conv=>lhs;whnf);rw[h];dsimp only;rw[h1];dsimp only;rw[h3];exact h5
theorem cT{o:COp}(h:bO o x y H=some true):bO o x y H=some true:=h
theorem cF{o:COp}(h:bO o x y H=some false):bO o x y H=some false:=h
theorem Qu(h:dY x=some true):dY x=some true:=h
theorem P4(h:dY x=some false):dY x=some false:=h
variable{m n:Int}
theorem Jt(h:m<n):bO .lt (.int m) (.int n) H=some true:=congrArg some (decide_eq_true h)
theorem JC(h:¬m<n):bO .lt (.int m) (.int n) H=some false:=congrArg some (decide_eq_false h)
theorem OC(h:m≤n):bO .le (.int m) (.int n) H=some true:=congrArg some (decide_eq_true h)
theorem Oq(h:m>n):bO .gt (.int m) (.int n) H=some true:=congrArg some (decide_eq_true h)
theorem Ow(h:¬m>n):bO .gt (.int m) (.int n) H=some false:=congrArg some (decide_eq_false h)
theorem Oy(h:m≥n):bO .ge (.int m) (.int n) H=some true:=congrArg some (decide_eq_true h)
theorem NQ(h:m=n):bO .eq (.int m) (.int n) H=some true:=congrArg some (decide_eq_true h)
theorem Nk(h:¬m=n):bO .eq (.int m) (.int n) H=some false:=congrArg some (decide_eq_false h)
theorem O1(h:¬m=n):bO .ne (.int m) (.int n) H=some true:=congrArg (fun b=>some (!b)) (decide_eq_false h)
theorem OE(h:m=n):bO .ne (.int m) (.int n) H=some false:=congrArg (fun b=>some (!b)) (decide_eq_true h)
theorem oz{l:List V}{k:Nat}(h:H.get r i=some (.list l))(h2:l[k]?=some v):idx (.ref r i) (.int (k:Int)) H=some v:=by
 have hk:=(Ok.mp h2).1;have:fD (k:Int) l.length=some k:=by unfold fD;rewrite[ac (Int.natCast_nonneg _),ac (Int.ofNat_lt.mpr ‹_›)];rfl
 (conv=>lhs;whnf);dsimp only;rw[h];dsimp only;rw[this]
 exact h2
theorem M4{o:O}{l:List V}{j k:Nat}(h:i≠j)(h2:H.get r j=some (.list l))(h3:l[k]?=some v):idx (.ref r j) (.int (k:Int)) (H.put r i o)=some v:=oz (jd h h2) h3
theorem Qx{n m:Nat}(h:Nat.ble n m=true):n≤m:=bv h
theorem NV{l:List V}{k:Nat}(h1:k<10000)(h2:l[k]?=some v):idx (.tup l) (.int (k:Int)) H=some v:=by
 have hk:=(Ok.mp h2).1;have:fD (k:Int) l.length=some k:=by unfold fD;rewrite[ac (Int.natCast_nonneg _),ac (Int.ofNat_lt.mpr ‹_›)];rfl
 have hs:small (k:Int)=true:=by unfold small;rewrite[aY,bp,bp];omega
 unfold idx;dsimp only;rw[ac hs,this];exact h2
theorem KA{l:List V}(h:H.get r i=some (.list l)):bi .len [.ref r i] q H=some (.int (l.length:Int),H):=by
 show(match H.get r i with|some (.list l)=>some (V.int l.length,H)|some (.dict l)=>some (V.int l.length,H)|_=>.none)=_;rw[h]
theorem vP{l:List V}(h1:a ρ q H=some (.ref r i,H1))(h:H1.get r i=some (.list l)):bn a ρ q H=some (.live r i,H1):=by unfold bn LX;rw[h1];dsimp only;rw[h]
theorem PD{l:List V}(h1:a ρ q H=some (.tup l,H1)):bn a ρ q H=some (.fixed l,H1):=by(conv=>lhs;whnf);rw[h1];rfl
end
end
end
section
open PySem
set_option tactic.hygienic false
structure ti where
 ns0:List V
 ns:List V
 at_:Int
 tx:List V
 d1:List (V×V)
 d2:List (V×V)
 d3:List (V×V)
 w:Nat→Int
 px:Nat→Int
 py:Nat→Int
noncomputable def NN:List (V×V):=[(.int 1,.int 1),(.int 2,.int 1),(.int 3,.int 1),(.int 4,.int 1),(.int 5,.int 1),(.int 6,.int 1),(.int 7,.int 1),(.int 8,.int 1),(.int 9,.int 1),(.int 11,.int 3)]
noncomputable def Jq:List (V×V):=[(.int 97,.int 1),(.int 98,.int 2),(.int 99,.int 3),(.int 109,.int 11)]
noncomputable def wL(D:ti):List V:=[.int (D.w 0),.int (D.w 1),.int (D.w 2),.int (D.w 3),.int (D.w 4),.int (D.w 5),.int (D.w 6),.int (D.w 7),.int (D.w 8),.int (D.w 9),.int (D.w 10),.int (D.w 11)]
noncomputable def pV(D:ti)(i:Nat):V:=.tup [.int (D.px i),.int (D.py i)]
noncomputable def pL(D:ti):List V:=[pV D 0,pV D 1,pV D 2,pV D 3,pV D 4,pV D 5,pV D 6,pV D 7,pV D 8,pV D 9,pV D 10]
noncomputable abbrev qb(x y:Int):O:=.inst 430 [(29,.int x),(30,.int y)]
noncomputable abbrev au(i:Nat):V:=.ref 0 i
noncomputable abbrev mV:V:=.str [68,70,76,84]
def Iy:List (V×V):=[(.int 1,.tup [au 12]),(.int 2,.tup [au 13]),(.int 3,.tup [au 14]),(.int 4,.tup [au 15]),(.int 5,.tup [au 16]),(.int 6,.tup [au 17]),(.int 7,.tup [au 18]),(.int 8,.tup [au 19]),(.int 9,.tup [au 20])]
def Np:List V:=[.tup [.int 1,.tup [au 12]],.tup [.int 2,.tup [au 13]],.tup [.int 3,.tup [au 14]],.tup [.int 4,.tup [au 15]],.tup [.int 5,.tup [au 16]],.tup [.int 6,.tup [au 17]],.tup [.int 7,.tup [au 18]],.tup [.int 8,.tup [au 19]],.tup [.int 9,.tup [au 20]]]
noncomputable def NR:List V:=[.tup [.int 1,.int 1],.tup [.int 2,.int 1],.tup [.int 3,.int 1],.tup [.int 4,.int 1],.tup [.int 5,.int 1],.tup [.int 6,.int 1],.tup [.int 7,.int 1],.tup [.int 8,.int 1],.tup [.int 9,.int 1]]
noncomputable abbrev K3(k:List Nat)(t:V):O:=.inst 193 [(9,.str k),(20,.int 0),(21,.int 0),(22,t)]
noncomputable def u6:List Nat:=[109,117,108,116,105,112,108,101]
noncomputable def xt:List Nat:=[98,97,115,101]
noncomputable def KR(l:V):O:=.inst 1992 [(45,.int (-1)),(44,l)]
def NL(a b:V):O:=.inst 2018 [(46,mV),(42,a),(43,b)]
noncomputable def Nz(a b c:V):O:=.inst 2072 [(41,a),(44,b),(25,c)]
noncomputable def Nl:V:=.str [99,99,109,112]
noncomputable def Od:V:=.str [109,97,114,107]
def R0(D:ti):List O:=[.list D.ns0,.list D.ns,.list [au 1,.int D.at_],.list D.tx,.dict D.d1,.dict D.d2,.dict D.d3,.list [au 4,au 5,au 6],.list (wL D),.list (pL D),qb 4 9,.dict [(.int 11,.tup [.int 0,au 10])],qb (D.px 1) (D.py 1),qb (D.px 2) (D.py 2),qb (D.px 3) (D.py 3),qb (D.px 4) (D.py 4),qb (D.px 5) (D.py 5),qb (D.px 6) (D.py 6),qb (D.px 7) (D.py 7),qb (D.px 8) (D.py 8),qb (D.px 9) (D.py 9),.list Np,.dict Iy,.inst 499 [(31,au 11),(32,au 22)],.inst 884 [(35,au 4)],.list [au 24],K3 u6 (au 25),.inst 884 [(35,au 5)],.list [au 27],K3 u6 (au 28),.inst 884 [(35,au 6)],.list [au 30],K3 u6 (au 31),.list [au 26,au 29,au 32],.list [.int 0],KR (au 36),.list [.int 0],.dict [],NL (au 35) (au 37),.dict [(mV,au 38)],.list [.int 0,.int 1,.int 2],.inst 2046 [(46,Nl),(25,au 42)],.list [.int 0,.int 1,.int 2],.list [au 41],Nz (au 39) (au 43) (au 33),.list [.int 0],KR (au 47),.list [.int 0],.dict [],NL (au 46) (au 48),.dict [(mV,au 49)],.list [.int 0],.inst 2046 [(46,Od),(25,au 53)],.list [.int 0],.list [au 52],.list [au 23],K3 xt (au 55),.list [au 56],Nz (au 50) (au 54) (au 57),.list NR,.list [.tup [.int 11,.int 3]],.list (NR++[.tup [.int 11,.int 3]]),.dict NN,.inst 1875 [(69,au 62)],.dict [],.inst 1875 [(69,au 64)],.list [],.inst 1964 [(69,au 63),(70,au 65),(71,au 66),(72,au 68),(73,au 69)],.dict [],.dict [],.dict Jq,.inst 1828 [(67,au 72),(68,.none)],.dict Jq,.inst 1167 [(36,.int 1000),(37,.int 800),(38,.int (-200)),(39,.tup (wL D)),(40,.tup (wL D))],.dict [],.inst 1909 [(66,au 71),(65,au 73),(24,au 67),(59,au 44),(60,au 58),(61,au 74)]]
abbrev Qk:V:=au 75
abbrev KZ:O:=.inst 1472 [(47,mV),(48,.str [100,102,108,116]),(17,.bool false),(49,.ref 8 91),(50,.int 1),(51,.tup []),(52,.ref 8 102),(53,.ref 8 109),(54,.bool false)]
noncomputable def ri(a b:Int):V:=.tup [.int a,.int b]
structure EnvD(D:ti)(H:Hp):Prop where
 z:∀(i:Nat) (o:O),i<76→(R0 D)[i]?=some o→H.get 0 i=some o
 pl:H.get 8 112=some KZ
 st:H.get 8 102=some (.list [.ref 8 101])
 s1:H.get 8 101=some (.list [ri 0 1,ri 1 1,ri 2 1])
 ps:H.get 8 109=some (.list [ri 0 1])
 nine:9<H.length
structure Inf where
 cd:Int
 g:Int
 c:Int
 ma:Int
 us:Bool
 pt:Int
 sp:Int
 xa:Int
 xo:Int
 yo:Int
 pr:Int
 bd:List Nat
noncomputable abbrev Inf.o(x:Inf):O:=.inst 52 [(0,.int x.cd),(1,.int x.g),(2,.int x.c),(3,.int x.ma),(4,.bool x.us),(5,.int 0),(6,.int x.pt),(7,.int 0),(8,.int x.sp),(9,.str []),(10,.int x.xa),(11,.int 0),(12,.int x.xo),(13,.int x.yo),(14,.int x.pr),(15,.str x.bd)]
noncomputable abbrev FE(rr:Nat)(n:Int):O:=.inst 103 [(16,.ref 9 rr),(17,.bool false),(18,.int 0),(19,.int n)]
noncomputable def O.ib:O→Bool
 |.inst 52 _=>true
 |.inst 103 _=>true
 |_=>false
structure Rw(b rr:Nat)(H:Hp)(L:List Nat)(s:List Inf)(n:Int):Prop where
 buf:H.get 9 b=some (FE rr n)
 row:H.get 9 rr=some (.list (L.map (V.ref 9)))
 len:L.length=s.length
 inf:∀(k i:Nat) (x:Inf),L[k]?=some i→s[k]?=some x→H.get 9 i=some x.o
 nd:L.Nodup
 few:s.length≤500
def Fm(rr:Nat)(H H':Hp):Prop:=H'.length=H.length∧∀(r i:Nat) (o:O),H.get r i=some o→o.ib=false→¬(r=9∧i=rr)→H'.get r i=some o
theorem Fm.refl(rr:Nat)(H:Hp):Fm rr H H:=⟨rfl,fun _ _ _ h _ _=>h⟩
theorem Fm.trans{rr:Nat}{A B C:Hp}(x:Fm rr A B)(y:Fm rr B C):Fm rr A C:=⟨y.1.trans x.1,fun r i o h h1 h2=>y.2 r i o (x.2 r i o h h1 h2) h1 h2⟩
theorem Fm.ins{rr:Nat}{H:Hp}{q:Nat}{o:O}:Fm rr H (H.ins q o):=⟨Hp.len_ins,fun _ _ _ h _ _=>Hp.get_ins h⟩
theorem EnvD.fm{D:ti}{rr:Nat}{H H':Hp}(E:EnvD D H)(f:Fm rr H H'):EnvD D H':=by
 have all:(R0 D).all (fun o=>!o.ib)=true:=rfl;refine⟨fun i o hi h=>f.2 _ _ _ (E.z i o hi h) ?_ (fun h=>absurd h.1 (by decide)),f.2 _ _ _ E.pl rfl (fun h=>absurd h.1 (by decide)),f.2 _ _ _ E.st rfl (fun h=>absurd h.1 (by decide)),f.2 _ _ _ E.s1 rfl (fun h=>absurd h.1 (by decide)),f.2 _ _ _ E.ps rfl (fun h=>absurd h.1 (by decide)),by rw[f.1];exact E.nine⟩;have:=pI.mp all o (aP h);simpa using this
theorem EnvD.g{D:ti}{H:Hp}(E:EnvD D H){i:Nat}{o:O}(hi:i<76)(h:(R0 D)[i]?=some o):H.get 0 i=some o:=E.z i o hi h
local macro_rules | `(tactic| left) => do
 let f (s : String) := (s.splitOn " ").toArray.map fun n => Lean.mkIdent (`Mine.Tactic ++ n.toName)
 let a := f "Qw qV j4 aX Nj v6 La GC vo DB LK Bt kT D7 NK Hk I2 N9 DQ Pl L5 IW HI Mj eOrEG LT eOrE1 nP qm kj BP Lz JL OR O6 N8 No eB da PF Pc pJ OS kW"
 let d := f "Hp.get_put_self jd EnvD.g KA oz M4 Jp idxLi Qu P4 cT cF Jt JC OC Oq Ow Oy cGeF NQ Nk O1 OE Qx"
 `(tactic| first
 | (with_reducible first | exact bq rfl $[| apply $a:ident]* | assumption)
 $[| ((with_reducible apply $d:ident) <;> first | with_reducible assumption | exact rfl | decide | omega)]*
 | exact rfl)
section
variable{D:ti}{H:Hp}{q:Nat}
noncomputable def cls(g:Int):Int:=if g=11 then 3 else 1
abbrev qC(g:Int):Prop:=g=11∨(1≤g∧g≤9)
theorem JP{g:Int}(h:qC g):(dG NN (.int g)).getD (.int 0)=.int (cls g):=by
 have:g=11∨g=1∨g=2∨g=3∨g=4∨g=5∨g=6∨g=7∨g=8∨g=9:=by omega
 rcases this with rfl|rfl|rfl|rfl|rfl|rfl|rfl|rfl|rfl|rfl<;>rfl
theorem Dp(E:EnvD D H){g:Int}(h:qC g):cM [au 63,.int g] q H=some (.int (cls g),H):=by
 rw[←JP h];apply bQ rfl rfl;left;apply EE;repeat left
theorem jo(E:EnvD D H){g:Int}(h:qC g):bF [au 67,.int g] q H=some (.int (cls g),H):=by
 have c1:1≤cls g:=by unfold cls;split<;>decide
 have c2:cls g≤4:=by unfold cls;split<;>decide
 apply bQ rfl rfl;repeat left
 ·exact Dp E h
 repeat left
theorem B1{H:Hp}{R:List O}{o:O}:(Hp.ins (H++[R]) H.length o).take H.length=H:=by
 unfold Hp.ins;rw[bB (aS _)];simp[List.set_append]
theorem jc{n m:Int}(h:(n=1∧m=2)∨(n=3∧m=8)):drop cC [.int n] q H=some (.int m,H):=by
 have hl:H.length<(H++[[]]).length:=by simp
 have e:cC [.int n] H.length (H++[[]])=some (.int m,Hp.ins (H++[[]]) H.length (.dict [(.int 1,.int 2),(.int 2,.int 4),(.int 3,.int 8)])):=by
  apply bQ rfl rfl;left;have hg:=Hp.get_ins_self (o:=.dict [(.int 1,.int 2),(.int 2,.int 4),(.int 3,.int 8)]) hl;have:V.int m=(dG [(.int 1,.int 2),(.int 2,.int 4),(.int 3,.int 8)] (.int n)).getD (.int 0):=by rcases h with⟨rfl,rfl⟩|⟨rfl,rfl⟩<;>rfl
  rw[this];refine EE (show bN _ _ _ _=some _ from(Hp.new_eq hl rfl)) ?_ hg ?_ rfl<;>left
 unfold drop;rw[e];dsimp only;rw[B1]
theorem CN(E:EnvD D H):bF [au 67,.int 11] q H=some (.int 3,H):=jo E (.inl rfl)
theorem Gk(E:EnvD D H){g:Int}(h:qC g)(h2:¬g=11):bF [au 67,.int g] q H=some (.int 1,H):=by
 have:=jo (q:=q) E h;unfold cls at this;rwa [af h2]at this
section
variable{lr li:Nat}{k t:V}{g:Int}
theorem Mo(E:EnvD D H)(hl:H.get lr li=some (.inst 193 [(9,k),(20,.int 0),(21,.int 0),(22,t)]))(h:qC g):c9 [au 67,.ref lr li,.int g] q H=some (.bool false,H):=by
 by_cases h11:g=11
 ·subst h11;apply bQ rfl rfl;repeat left
  ·exact CN E
  repeat left
  ·exact jc (.inr ⟨rfl,rfl⟩)
  repeat left
 ·apply bQ rfl rfl;repeat left
  ·exact Gk E h h11
  repeat left
  ·exact jc (.inl ⟨rfl,rfl⟩)
  repeat left
theorem JM(E:EnvD D H)(hl:H.get lr li=some (.inst 193 [(9,k),(20,.int 8),(21,.int 0),(22,t)])):c9 [au 67,.ref lr li,.int 11] q H=some (.bool true,H):=by
 apply bQ rfl rfl;repeat left
 ·exact CN E
 repeat left
 ·exact jc (.inr ⟨rfl,rfl⟩)
 repeat left
theorem Kv(E:EnvD D H)(hl:H.get lr li=some (.inst 193 [(9,k),(20,.int 8),(21,.int 0),(22,t)]))(h:qC g)(h11:¬g=11):c9 [au 67,.ref lr li,.int g] q H=some (.bool false,H):=by
 apply bQ rfl rfl;repeat left
 ·exact Gk E h h11
 repeat left
 ·exact jc (.inl ⟨rfl,rfl⟩)
 repeat left
end
end
variable{H H' H1:Hp}{i r q k j m C p rr r' i' f u:Nat}{o:O}{l xs:List V}{ρ:bJ}{s b:List Inf}{a n g:Int}{x y:Inf}{d:List (V×V)}{D:ti}{R:List O}{L:List Nat}{v:V}{w:V×Hp}{ps:List Int}{pc:Int→Option (List Int)}
abbrev At(b lr li:Nat)(lks:V)(st:Nat):O:=.inst 215 [(23,.ref 9 b),(24,au 67),(25,lks),(26,.ref lr li),(3,.int 1),(27,.int 0),(28,.ref 9 st)]
noncomputable abbrev I9(k t:V)(f:Int):O:=.inst 193 [(9,k),(20,.int f),(21,.int 0),(22,t)]
theorem Rw.at{b:Nat}(R:Rw b rr H L s n)(h:s[k]?=some x):∃i,L[k]?=some i∧(L.map (V.ref 9))[k]?=some (V.ref 9 i)∧H.get 9 i=some x.o:=by
 have hk:=(Ok.mp h).1;have hl:k<L.length:=by rw[R.len];exact hk
 have e:=ay hl;exact⟨L[k],e,by rw[aB,e];rfl,R.inf k _ x e h⟩
theorem Rw.ln{b:Nat}(R:Rw b rr H L s n):(L.map (V.ref 9)).length=s.length:=by rw[ao,R.len]
section
variable{b sc lr li st:Nat}{kk tt lks:V}
theorem xA(E:EnvD D H)(R:Rw b rr H L s n)(S:H.get 9 sc=some (At b lr li lks st))(K:H.get lr li=some (I9 kk tt 0))(hk:s[k]?=some x)(hg:qC x.g):dT [.ref 9 sc,.int k] q H=some (.bool false,H):=by
 have hb:=R.buf;have hr:=R.row;obtain⟨i,h1,h2,h3⟩:=R.at hk;apply bQ rfl rfl;repeat left
 exact Mo E K hg
theorem Dh(E:EnvD D H)(R:Rw b rr H L s n)(S:H.get 9 sc=some (At b lr li lks st))(K:H.get lr li=some (I9 kk tt 8))(hk:s[k]?=some x)(hg:x.g=11):dT [.ref 9 sc,.int k] q H=some (.bool true,H):=by
 have hb:=R.buf;have hr:=R.row;obtain⟨i,h1,h2,h3⟩:=R.at hk;apply bQ rfl rfl;repeat left
 rw[hg];exact JM E K
theorem CC(E:EnvD D H)(R:Rw b rr H L s n)(S:H.get 9 sc=some (At b lr li lks st))(K:H.get lr li=some (I9 kk tt 8))(hk:s[k]?=some x)(hg:qC x.g)(h11:¬x.g=11):dT [.ref 9 sc,.int k] q H=some (.bool false,H):=by
 have hb:=R.buf;have hr:=R.row;obtain⟨i,h1,h2,h3⟩:=R.at hk;apply bQ rfl rfl;repeat left
 exact Kv E K hg h11
theorem Ki(E:EnvD D H)(R:Rw b rr H L s n)(S:H.get 9 sc=some (At b lr li lks st))(K:H.get lr li=some (I9 kk tt 0))(hk:s[k]?=some x)(hg:qC x.g)(hm:x.ma=1):oa [.ref 9 sc,.int k] q H=some (.bool true,H):=by
 have hb:=R.buf;have hr:=R.row;obtain⟨cd,g,c,ma,us,pt,sp,xa,xo,yo,pr,bd⟩:=x;dsimp only at hm hg;subst hm;obtain⟨i,h1,h2,h3⟩:=R.at hk;dsimp only[Inf.o]at h3;apply bQ rfl rfl;repeat left
 ·exact xA E R S K hk hg
 repeat left
theorem HV(E:EnvD D H)(R:Rw b rr H L s n)(S:H.get 9 sc=some (At b lr li lks st))(hk:s[k]?=some x)(hg:qC x.g):dX [.ref 9 sc,.int k] q H=some (.bool (decide (x.g=11)),H):=by
 have hb:=R.buf;have hr:=R.row;obtain⟨i,h1,h2,h3⟩:=R.at hk;have hc:decide (cls x.g=3)=decide (x.g=11):=by unfold cls;by_cases h:x.g=11<;>simp[h]
 apply bQ rfl rfl;repeat left
 ·exact jo E hg
 left;rw[←hc];exact rfl
noncomputable def iV(m:Nat→Bool):Nat→Int
 |0=>-1
 |k+1=>if m k then iV m k else k
theorem II{m:Nat→Bool}:∀k, -1≤iV m k∧iV m k<k
 |0=>⟨Int.le_refl _,(by decide:(-1:Int)<0)⟩
 |k+1=>by have:=II (m:=m) k;exact pQ (P:=fun z:Int=>-1≤z∧z<_) (fun _=>by omega) fun _=>by omega
structure cL where
 g:Int
 c:Int
 s:Int
 p:Int
noncomputable def Inf.cell(x:Inf):cL:=⟨x.g,x.c,x.sp,x.pt⟩
noncomputable def cJ(s:List cL)(k:Nat):Bool:=match s[k]? with|some x=>decide (x.g=11) | .none=>false
theorem pY(h:s[k]?=some x):cJ (s.map Inf.cell) k=decide (x.g=11):=by
 unfold cJ;rw[aB,h];rfl
theorem BQ(E:EnvD D H)(R:Rw b rr H L s n)(S:H.get 9 sc=some (At b lr li lks st))(K:H.get lr li=some (I9 kk tt 8))(hs:∀x∈s,qC x.g)(hk:k≤s.length):ff [.ref 9 sc,.int k] q H=some (.int (iV (cJ (s.map Inf.cell)) k),H):=by
 have hb:=R.buf;have hr:=R.row;have hn:=R.few;have hl:=R.ln;have key:∀(k N:Nat) (z:Option V),k≤s.length→k<N→∃ρ',aC (cE pv on N::[(aF (iE (ai (V.int 1))))]) [some (.ref 9 sc),z,some (.int (-1)),some (.int ((k:Int)+(-1))),none,none,none] q H=some (.ret (.int (iV (cJ (s.map Inf.cell)) k)),ρ',H):=by
  intro k;induction k with
  |zero=>
   intro N z _ hN;obtain⟨N,rfl⟩:=oQ N ‹_›;apply Exists.intro;apply wF
   ·repeat left
   ·repeat left
  |succ k ih=>
   intro N z hk hN;obtain⟨N,rfl⟩:=oQ N ‹_›;obtain⟨x,hx⟩:∃x,s[k]?=some x:=⟨_,ay (Nat.lt_of_succ_le ‹_›)⟩;have hg:=hs x (aP hx);obtain⟨i,h1,h2,h3⟩:=R.at hx;have e:(((k+1:Nat):Int)+(-1))=(k:Int):=by omega
   rw[e];have hm:=pY hx;by_cases h11:x.g=11
   ·have e2:iV (cJ (s.map Inf.cell)) (k+1)=iV (cJ (s.map Inf.cell)) k:=by show(if cJ (s.map Inf.cell) k then iV (cJ (s.map Inf.cell)) k else(k:Int))=_;rw[hm];simp[h11]
    rw[e2];refine⟨(ih N z (Nat.le_of_succ_le ‹_›) (aL ‹_›)).choose,?_⟩;apply wT
    ·repeat left
    repeat left
    ·exact Dh E R S K hx h11
    repeat left
    exact(ih N z (Nat.le_of_succ_le ‹_›) (aL ‹_›)).choose_spec
   ·have e2:iV (cJ (s.map Inf.cell)) (k+1)=k:=by show(if cJ (s.map Inf.cell) k then iV (cJ (s.map Inf.cell)) k else(k:Int))=_;rw[hm];simp[h11]
    rw[e2];apply Exists.intro;apply wT
    ·repeat left
    ·repeat left
     ·exact CC E R S K hx hg h11
     repeat left
 apply bQ rfl rfl;repeat left
 apply bQ rfl rfl;repeat left
 apply Jk;exact(key k 2000 _ hk (aJ (aO ‹_› ‹_›) (by decide))).choose_spec
end
variable{b:List Inf}{c:List cL}
def Lx(H H':Hp):Prop:=H'.length=H.length∧∀(r i:Nat) (o:O),H.get r i=some o→H'.get r i=some o
theorem Lx.refl(H:Hp):Lx H H:=⟨rfl,fun _ _ _ h=>h⟩
theorem Lx.trans{A B C:Hp}(x:Lx A B)(y:Lx B C):Lx A C:=⟨y.1.trans x.1,fun r i o h=>y.2 r i o (x.2 r i o h)⟩
theorem Lx.ins:Lx H (H.ins q o):=⟨Hp.len_ins,fun _ _ _ h=>Hp.get_ins h⟩
theorem Lx.fm(x:Lx H H'):Fm rr H H':=⟨x.1,fun r i o h _ _=>x.2 r i o h⟩
theorem Hp.get_sz:H.get q (H.sz q)=none:=by
 unfold Hp.get Hp.sz;induction H[q]? with
 |none=>rfl
 |some R=>simp
theorem Lx.put(x:Lx H H')(h:H.get r i=none):Lx H (H'.put r i o):=by
 refine⟨Hp.len_put.trans x.1,fun r' i' o' h'=>?_⟩;rw[Hp.get_put_ne]
 ·exact x.2 _ _ _ h'
 ·intro zq;obtain⟨rfl,rfl⟩:=zq;rw[h]at h';exact Rk h'
theorem Rw.lx{b:Nat}(R:Rw b rr H L s n)(x:Lx H H'):Rw b rr H' L s n:=
 ⟨x.2 _ _ _ R.buf,x.2 _ _ _ R.row,R.len,fun k i y h1 h2=>x.2 _ _ _ (R.inf k i y h1 h2),R.nd,R.few⟩
theorem EnvD.lx(E:EnvD D H)(x:Lx H H'):EnvD D H':=E.fm (rr:=0) x.fm
def stores(fs:List (Nat×Ev)):List St:=fs.map fun p=>am okf (.at (aa 0) p.1) p.2
def lP(k:Nat)(fs:List (Nat×Ev)):List St:=fs.map fun p=>am okf (.at (aa k) p.1) p.2
noncomputable def CV:List (Nat×V)→List (Nat×V)→List (Nat×V)
 |l,[]=>l
 |l,(f,v)::m=>CV (iS l f v) m
theorem FI{l:List (Nat×V)}:(iS l f v).length≤l.length+1:=by
 induction l with
 |nil=>exact aS _
 |cons p l ih=>exact pQ (P:=fun z:List (Nat×V)=>z.length≤_) (fun _=>Nat.le_succ _) fun _=>Nat.succ_le_succ ih
noncomputable def LE(P:Hp→Prop)(ρ:bJ)(q:Nat):List (Nat×Ev)→List V→Prop
 |[],[]=>True
 |p::fs,v::vs=>(∀H,P H→p.2 ρ q H=some (v,H))∧LE P ρ q fs vs
 |_,_=>False
theorem nK{l0:List (Nat×V)}(hr:ρ[k]?=some (some (.ref r i)))(h0:H.get r i=some (.inst C l0)){P:Hp→Prop}(hP:∀l,P (H.put r i (.inst C l))):∀{fs:List (Nat×Ev)} {vs:List V} {l:List (Nat×V)},(fs.all fun p=>okf C p.1)=true→l.length+fs.length≤90→LE P ρ q fs vs→aC (lP k fs) ρ q (H.put r i (.inst C l))=some (.next,ρ,H.put r i (.inst C (CV l ((fs.map (·.1)).zip vs)))):=by
 intro zz;induction zz with
 |nil=>
  intro zq1;induction zq1 using jL with
  |nil=>
   intro l _ _ _;exact rfl
  |cons zq2 zq3=>
   intro l _ _ h;exact h.elim
 |cons zq4 zq5 ih=>
  intro zq6;induction zq6 using jL with
  |nil=>
   intro l _ _ h;exact h.elim
  |cons v vs=>
   intro l hk hb hv;have h1:=hv.1 _ (hP l);have h2:(H.put r i (.inst C l)).get r i=some (.inst C l):=Hp.get_put_self h0;have hlen:=FI (l:=l) (f:=zq4.1) (v:=v);simp only[List.length_cons]at hb;rw[List.all_cons,aY]at hk;refine kj h1 (bq hr) h2 ?_ ?_
   ·rw[hk.1,Bool.true_and,bp];omega
   ·rw[Hp.put_put];exact ih hk.2 (by omega) hv.2
theorem Eh{F:Md}(hq:q<H.length)(h:F (.ref q (H.sz q)::xs) q (H.ins q (.inst C []))=some (.none,H')):cY C F xs q H=some (.ref q (H.sz q),H'):=by
 unfold cY;rw[Hp.new_eq hq rfl];dsimp only;rw[h]
theorem mi{fs:List (Nat×Ev)}{ps:List Nat}{ds ys vs:List V}{n:Nat}(hq:q<H.length) (h1:gr (.ref q (H.sz q)::xs) ds ps.length=some ys) (h2:fX ps ys (List.replicate n .none)=some ρ) (hr:ρ[0]?=some (some (.ref q (H.sz q)))) (hk:(fs.all fun p=>okf C p.1)=true) (hb:fs.length≤90) (hv:LE (fun _=>True) ρ q fs vs):cY C (aq ps ds n (lP 0 fs)) xs q H=some (.ref q (H.sz q),H.ins q (.inst C (CV [] ((fs.map (·.1)).zip vs)))):=by
 refine Eh hq ?_;have e:(H.ins q (.inst C [])).put q (H.sz q) (.inst C [])=H.ins q (.inst C []):=Hp.put_ins hq;have:=nK (k:=0) (q:=q) (H:=H.ins q (.inst C [])) (l:=[]) hr (Hp.get_ins_self hq) (P:=fun _=>True) (fun _=>trivial) hk (by simpa using hb) hv;rw[e,Hp.put_ins hq]at this;exact eJ h1 h2 this
section
variable{b sc lr li st:Nat}{kk tt lks:V}
theorem IA{a c d e:V}(hq:q<H.length):iF [a,c,d,e] q H=some (.ref q (H.sz q),H.ins q (.inst 193 [(9,a),(20,c),(21,d),(22,e)])):=
 mi (fs:=[(9,aa 1),(20,aa 2),(21,aa 3),(22,aa 4)]) (vs:=[a,c,d,e]) hq rfl rfl rfl rfl (by decide) ⟨fun _ _=>rfl,⟨fun _ _=>rfl,⟨fun _ _=>rfl,⟨fun _ _=>rfl,trivial⟩⟩⟩⟩
theorem IB{a c d:V}(hq:q<H.length):nM [a,c,d] q H=some (.ref q (H.sz q),H.ins q (.inst 52 [(0,a),(1,c),(2,d),(3,.int 0),(4,.bool false),(5,.int 0),(6,.int 0),(7,.int 0),(8,.int 0),(9,.str []),(10,.int 0),(11,.int 0),(12,.int 0),(13,.int 0),(14,.int 0),(15,.str [])])):=
 mi (fs:=[(0,aa 1),(1,aa 2),(2,aa 3),(3,ai (.int 0)),(4,ai (.bool false)),(5,ai (.int 0)),(6,ai (.int 0)),(7,ai (.int 0)),(8,ai (.int 0)),(9,ai (.str [])),(10,ai (.int 0)),(11,ai (.int 0)),(12,ai (.int 0)),(13,ai (.int 0)),(14,ai (.int 0)),(15,ai (.str []))])
  (vs:=[a,c,d,.int 0,.bool false,.int 0,.int 0,.int 0,.int 0,.str [],.int 0,.int 0,.int 0,.int 0,.int 0,.str []]) hq rfl rfl rfl rfl (by decide) ⟨fun _ _=>rfl,⟨fun _ _=>rfl,⟨fun _ _=>rfl,⟨fun _ _=>rfl,⟨fun _ _=>rfl,⟨fun _ _=>rfl,⟨fun _ _=>rfl,⟨fun _ _=>rfl,⟨fun _ _=>rfl,⟨fun _ _=>rfl,⟨fun _ _=>rfl,⟨fun _ _=>rfl,⟨fun _ _=>rfl,⟨fun _ _=>rfl,⟨fun _ _=>rfl,⟨fun _ _=>rfl,trivial⟩⟩⟩⟩⟩⟩⟩⟩⟩⟩⟩⟩⟩⟩⟩⟩
theorem Iq{a:V}(hq:q<H.length):oZ [a,.bool false] q H=some (.ref q (H.sz q),H.ins q (.inst 103 [(16,a),(17,.bool false),(18,.int 0),(19,.int 0)])):=
 mi (fs:=[(16,aa 1),(17,aa 2),(18,ai (.int 0)),(19,ai (.int 0))]) (vs:=[a,.bool false,.int 0,.int 0]) hq rfl rfl rfl rfl (by decide) ⟨fun _ _=>rfl,⟨fun _ _=>rfl,⟨fun _ _=>rfl,⟨fun _ _=>rfl,trivial⟩⟩⟩⟩
theorem yq{a c d e f:V}(g:V)(hg:g=.int 0)(hq:q<H.length):∃st H',cY 215 hY [a,c,d,e,f,g] q H=some (.ref q (H.sz q),H')∧Lx H H'∧H'.get q (H.sz q)=some (.inst 215 [(23,a),(24,c),(25,d),(26,e),(3,f),(27,g),(28,.ref q st)]):=by
 have h0:=Hp.get_ins_self (o:=.inst 215 []) hq;have hL:q<(H.ins q (.inst 215 [])).length:=by rw[Hp.len_ins];exact hq
 let l6:List (Nat×V):=[(23,a),(24,c),(25,d),(26,e),(3,f),(27,g)];have hq6:q<(H.ins q (.inst 215 l6)).length:=by rw[Hp.len_ins];exact hq
 have hg6:=Hp.get_ins_self (H:=H) (o:=.inst 215 l6) hq;refine⟨(H.ins q (.inst 215 l6)).sz q,(((H.ins q (.inst 215 l6)).ins q (.list [.int 0])).put q (H.sz q) (.inst 215 (iS l6 28 (.ref q ((H.ins q (.inst 215 l6)).sz q))))),Eh hq (eJ (ρ1:=[some (.ref q (H.sz q)),some a,some c,some d,some e,some f,some g]) rfl rfl ?_),?_,?_⟩
 ·show aC (lP 0 [(23,aa 1),(24,aa 2),(25,aa 3),(26,aa 4),(3,aa 5),(27,aa 6)]++[am okf (.at (aa 0) 28) (bD [(ai (V.int 0))])]) [some (.ref q (H.sz q)),some a,some c,some d,some e,some f,some g] q _=_;rw[fJ];have:=nK (k:=0) (ρ:=[some (.ref q (H.sz q)),some a,some c,some d,some e,some f,some g]) (q:=q) (H:=H.ins q (.inst 215 [])) (l:=[]) (fs:=[(23,aa 1),(24,aa 2),(25,aa 3),(26,aa 4),(3,aa 5),(27,aa 6)]) (vs:=[a,c,d,e,f,g]) rfl h0 (P:=fun _=>True) (fun _=>trivial) rfl (by decide) ⟨fun _ _=>rfl,⟨fun _ _=>rfl,⟨fun _ _=>rfl,⟨fun _ _=>rfl,⟨fun _ _=>rfl,⟨fun _ _=>rfl,trivial⟩⟩⟩⟩⟩⟩;rw[Hp.put_ins hq,Hp.put_ins hq]at this;rw[this];dsimp only;exact kj (kT (aX eB da) hq6 (by decide)) (bq rfl) (Hp.get_ins hg6) rfl kW
 ·exact(Lx.trans Lx.ins Lx.ins).put Hp.get_sz
 ·exact Hp.get_put_self (Hp.get_ins hg6)
end
noncomputable def Inf.st(x:Inf):Inf:={x with us:=false}
def Su(s s':List Inf):Prop:=s'.map Inf.st=s.map Inf.st
theorem Su.refl(s:List Inf):Su s s:=rfl
theorem Su.trans{a b c:List Inf}(x:Su a b)(y:Su b c):Su a c:=_root_.Eq.trans y x
theorem Su.length{a b:List Inf}(x:Su a b):b.length=a.length:=by simpa using congrArg List.length x
theorem Su.get{a b:List Inf}(x:Su a b){k:Nat}{y:Inf}(h:b[k]?=some y):∃z,a[k]?=some z∧y.st=z.st:=by
 have e:=congrArg (fun l=>l[k]?) x;simp only[aB,h,Option.map_some]at e;induction ha:a[k]? with
 |none=>rw[ha]at e;exact QL e
 |some z=>rw[ha]at e;exact⟨z,rfl,by simpa using e⟩
theorem Su.set{a b:List Inf}(x:Su a b){k:Nat}{y z:Inf}(h:b[k]?=some y)(e:z.st=y.st):Su a (b.set k z):=by
 unfold Su at *;rw[←x,List.map_set,e];have hk:=(Ok.mp h);obtain⟨hk,rfl⟩:=hk;have:(b[k]).st=(b.map Inf.st)[k]'(by simpa using hk):=by simp
 rw[this,List.set_getElem_self]
theorem mm{L:List Nat}(h:L.Nodup){k k' i:Nat}(h1:L[k]?=some i)(h2:L[k']?=some i):k=k':=by
 have p:=List.pairwise_iff_getElem.mp h;obtain⟨a1,a2⟩:=Ok.mp h1;obtain⟨b1,b2⟩:=Ok.mp h2;rcases Nat.lt_trichotomy k k' with c|c|c
 ·exact absurd (a2.trans b2.symm) (p _ _ _ _ c)
 ·exact c
 ·exact absurd (b2.trans a2.symm) (p _ _ _ _ c)
section
variable{b:Nat}
theorem Rw.ne(R:Rw b rr H L s n){k i:Nat}{x:Inf}(hi:H.get 9 i=some x.o):i≠b∧i≠rr:=by
 constructor
 ·rintro rfl;rw[R.buf]at hi;(refine QU hi ?_;clear hi;intro e;cases e)
 ·rintro rfl;rw[R.row]at hi;(refine QU hi ?_;clear hi;intro e;cases e)
theorem Rw.put(R:Rw b rr H L s n){k i:Nat}{x y:Inf}(h1:L[k]?=some i)(h2:s[k]?=some x):Rw b rr (H.put 9 i y.o) L (s.set k y) n∧Fm rr H (H.put 9 i y.o):=by
 have hi:=R.inf k i x h1 h2;obtain⟨n1,n2⟩:=R.ne (k:=k) hi;refine⟨⟨?_,?_,by rw[List.length_set];exact R.len,fun k' i' x' h1' h2'=>?_,R.nd,by rw[List.length_set];exact R.few⟩,Hp.len_put,fun r i' o ho hb hr=>?_⟩
 ·rw[Hp.get_put_ne (by intro zq;obtain⟨_,e⟩:=zq;exact n1 e)];exact R.buf
 ·rw[Hp.get_put_ne (by intro zq;obtain⟨_,e⟩:=zq;exact n2 e)];exact R.row
 ·by_cases e:k=k'
  ·subst e;rw[h1]at h1';induction h1' using QT;rw[bL (Ok.mp h2).1]at h2';induction h2' using QT;exact Hp.get_put_self hi
  ·rw[List.getElem?_set_ne e]at h2';rw[Hp.get_put_ne]
   ·exact R.inf k' i' x' h1' h2'
   ·intro zq;obtain⟨_,rfl⟩:=zq;exact e (mm R.nd h1 h1')
 ·rw[Hp.get_put_ne]
  ·exact ho
  ·intro zq;obtain⟨rfl,rfl⟩:=zq;rw[hi]at ho;induction ho using QT;cases hb
theorem Rw.at'(R:Rw b rr H L s n){k i:Nat}(h:L[k]?=some i):∃x,s[k]?=some x∧H.get 9 i=some x.o:=by
 have hk:=(Ok.mp h).1;have e:=ay (show k<s.length by rw[←R.len];exact hk);exact⟨_,e,R.inf k i _ h e⟩
end
section
variable{b:Nat}{v:Nat}{B:List St}
theorem set_set(ρ:bJ)(i:Nat)(a c:Option V):(ρ.set i a).set i c=ρ.set i c:=by simp
theorem aE{H:Hp}{l:List V}{r i:Nat}(h:H.get r i=some (.list l))(j:Nat):item (.live r i) j H=some l[j]?:=by
 show(match H.get r i with|some (.list l)=>some l[j]?|_=>.none)=_;rw[h]
theorem mt{a:Ev}{ρ:bJ}{H:Hp}{s:List Inf}{f:Inf→Inf}(R:Rw b rr H L s n)(ha:a ρ 9 H=some (.ref 9 rr,H))(hv:v<ρ.length) (body:∀(H':Hp) (i:Nat) (x:Inf),Fm rr H H'→(H'.get 9 b=some (FE rr n))→x∈s→H'.get 9 i=some x.o→aC B (ρ.set v (some (.ref 9 i))) 9 H'=some (.next,ρ.set v (some (.ref 9 i)),H'.put 9 i (f x).o)) :∃z H',bG (bn a) (.nm v) B ρ 9 H=some (.next,ρ.set v z,H')∧Rw b rr H' L (s.map f) n∧Fm rr H H':=by
 have key:∀(m j N:Nat) (z:Option V) (H':Hp),j+m=s.length→m<N→Rw b rr H' L ((s.take j).map f++s.drop j) n→Fm rr H H'→∃z' H'',aC [di (.nm v) (.live 9 rr) B N j] (ρ.set v z) 9 H'=some (.next,ρ.set v z',H'')∧Rw b rr H'' L (s.map f) n∧Fm rr H H'':=by
  intro m;induction m with
  |zero=>
   intro j N z H' hj hN R' F;obtain⟨N,rfl⟩:=oQ N ‹_›;have hl:=R'.len;refine⟨z,H',iQ ?_ kW,?_,F⟩
   ·rw[aE R'.row];rw[gB.mpr];rw[ao,R.len];exact Ru ‹_›
   ·have e1:s.take j=s:=List.take_of_length_le (Ru ‹_›);have e2:s.drop j=[]:=List.drop_eq_nil_of_le (Ru ‹_›);rw[e1,e2,List.append_nil]at R';exact R'
  |succ m ih=>
   intro j N z H' hj hN R' F;obtain⟨N,rfl⟩:=oQ N ‹_›;have hjs:j<s.length:=by exact RA ‹_›
   obtain⟨i,hi⟩:∃i,L[j]?=some i:=⟨_,ay (by rw[R.len];exact hjs)⟩;have hx:s[j]?=some s[j]:=ay hjs;have hx':((s.take j).map f++s.drop j)[j]?=some s[j]:=by
    rw[bB (by simp;omega)];simp[Nat.min_eq_left (Nat.le_of_lt hjs)]
   have hg:=R'.inf j i _ hi hx';have P:=R'.put (y:=f s[j]) hi hx';have hb:=body H' i s[j] F R'.buf (List.getElem_mem hjs) hg;have e:((s.take j).map f++s.drop j).set j (f s[j])=(s.take (j+1)).map f++s.drop (j+1):=by
    rw[List.set_append_right _ _ (by simp;omega)];rw[ao,bh,Nat.min_eq_left (Nat.le_of_lt hjs),Nat.sub_self,List.drop_eq_getElem_cons hjs,List.set_cons_zero,List.take_succ_eq_append_getElem hjs,List.map_append,bH];rfl
   rw[e]at P;obtain⟨z',H'',e1,R'',F''⟩:=ih (j+1) N (some (.ref 9 i)) _ (Q8 ‹_›) (aL ‹_›) P.1 (F.trans P.2);refine⟨z',H'',?_,R'',F''⟩;refine dO (v:=.ref 9 i) (ρ1:=ρ.set v (some (.ref 9 i))) ?_ ?_ ?_
   ·rw[aE R'.row,aB,hi];rfl
   ·exact congrArg some (set_set ..)
   ·rw[fJ,hb];exact e1
 have hz:ρ=ρ.set v ρ[v]:=by simp
 obtain⟨z',H'',e1,R'',F''⟩:=key s.length 0 2000 (ρ[v]) H (Nat.zero_add _) (by have:=R.few;exact aJ ‹_› (by decide)) (by simpa using R) (Fm.refl _ _);refine⟨z',H'',?_,R'',F''⟩;rw[←hz]at e1;have:bG (bn a) (.nm v) B ρ 9 H=di (.nm v) (.live 9 rr) B 2000 0 ρ 9 H:=by unfold bG;rw[vP ha R.row]
 rw[this];exact(lH ..).symm.trans e1
theorem G8{a:Ev}{ρ:bJ}{H:Hp}{s:List Inf}{t:Nat}{M:List Nat}(R:Rw b rr H L s n)(ht:H.get 9 t=some (.list (M.map (V.ref 9))))(htr:t≠rr)(hM:∀i∈M,i∈L)(hMl:M.length≤500)(ha:a ρ 9 H=some (.ref 9 t,H))(hv:v<ρ.length) (body:∀(H':Hp) (i:Nat) (x:Inf),Fm rr H H'→H'.get 9 i=some x.o→∃y:Inf,y.st=x.st∧aC B (ρ.set v (some (.ref 9 i))) 9 H'=some (.next,ρ.set v (some (.ref 9 i)),H'.put 9 i y.o)) :∃z H' s',bG (bn a) (.nm v) B ρ 9 H=some (.next,ρ.set v z,H')∧Rw b rr H' L s' n∧Su s s'∧Fm rr H H':=by
 have key:∀(m j N:Nat) (z:Option V) (H':Hp) (s':List Inf),j+m=M.length→m<N→Rw b rr H' L s' n→Su s s'→Fm rr H H'→∃z' H'' s'',aC [di (.nm v) (.live 9 t) B N j] (ρ.set v z) 9 H'=some (.next,ρ.set v z',H'')∧Rw b rr H'' L s'' n∧Su s s''∧Fm rr H H'':=by
  intro m;induction m with
  |zero=>
   intro j N z H' s' hj hN R' S F;obtain⟨N,rfl⟩:=oQ N ‹_›;refine⟨z,H',s',iQ ?_ kW,R',S,F⟩;rw[aE (F.2 _ _ _ ht rfl (fun h=>absurd h.2 ‹_›))];rw[gB.mpr];rw[ao];exact Ru ‹_›
  |succ m ih=>
   intro j N z H' s' hj hN R' S F;obtain⟨N,rfl⟩:=oQ N ‹_›;obtain⟨i,hi⟩:∃i,M[j]?=some i:=⟨_,ay (RA ‹_›)⟩;obtain⟨k,hk⟩:=List.getElem?_of_mem (hM i (aP hi));obtain⟨x,hx,hg⟩:=R'.at' hk;obtain⟨y,hy,hb⟩:=body H' i x F hg;have P:=R'.put (y:=y) hk hx;obtain⟨z',H'',s'',e1,R'',S'',F''⟩:=ih (j+1) N (some (.ref 9 i)) _ _ (Q8 ‹_›) (aL ‹_›) P.1 (S.set hx hy) (F.trans P.2);refine⟨z',H'',s'',?_,R'',S'',F''⟩;refine dO (v:=.ref 9 i) (ρ1:=ρ.set v (some (.ref 9 i))) ?_ ?_ ?_
   ·rw[aE (F.2 _ _ _ ht rfl (fun h=>absurd h.2 ‹_›)),aB,hi];rfl
   ·exact congrArg some (set_set ..)
   ·rw[fJ,hb];exact e1
 have hz:ρ=ρ.set v ρ[v]:=by simp
 obtain⟨z',H'',s'',e1,R'',S'',F''⟩:=key M.length 0 2000 (ρ[v]) H s (Nat.zero_add _) (aJ ‹_› (by decide)) R (Su.refl _) (Fm.refl _ _);refine⟨z',H'',s'',?_,R'',S'',F''⟩;rw[←hz]at e1;have:bG (bn a) (.nm v) B ρ 9 H=di (.nm v) (.live 9 t) B 2000 0 ρ 9 H:=by unfold bG;rw[vP ha ht]
 rw[this];exact(lH ..).symm.trans e1
end
section
variable{v:Nat}{E:Ev}{it:It}{ys:List V}{ts:List Tv}
theorem fV(hi:∀j,item it j H=some l[j]?)(hq:q<H.length)(hl:l.length≤1000)(hy:ys.length=l.length) (elt:∀(j:Nat) (x y:V),l[j]?=some x→ys[j]?=some y→E (ρ.set v (some x)) q H=some (y,H)):∀{z:Option V},dC (.nm v) [] E it 2000 0 [] (ρ.set v z) q H=some (.ref q (H.sz q),H.ins q (.list ys)):=by
 have key:∀(m j N:Nat) (z:Option V) (acc:List V),j+m=l.length→m<N→acc=ys.take j→dC (.nm v) [] E it N j acc (ρ.set v z) q H=some (.ref q (H.sz q),H.ins q (.list ys)):=by
  intro m;induction m with
  |zero=>
   intro j N z acc hj hN ha;obtain⟨N,rfl⟩:=oQ N ‹_›;rw[List.take_of_length_le (Rn ‹_› ‹_›)]at ha;subst ha;exact rn (by rw[hi,gB.mpr (Ru ‹_›)]) hq (by omega)
  |succ m ih=>
   intro j N z acc hj hN ha;obtain⟨N,rfl⟩:=oQ N ‹_›;have h1:l[j]?=some l[j]:=ay (RA ‹_›);have h2:ys[j]?=some ys[j]:=ay (Rl ‹_› ‹_›);refine rP (v:=l[j]) (ρ1:=ρ.set v (some l[j])) (by rw[hi,h1]) (congrArg some (set_set ..)) pJ (elt j _ _ h1 h2) ?_;exact ih (j+1) N _ _ (Q8 ‹_›) (aL ‹_›) (by rw[ha,List.take_succ_eq_append_getElem (Rl ‹_› ‹_›)])
 intro z;exact key l.length 0 2000 z [] (Nat.zero_add _) (aJ ‹_› (by decide)) (by simp)
theorem Au{t:Tv}(Q:V→Prop)(hi:∀j,item it j H=some l[j]?)(hq:q<H.length)(hl:l.length≤1000) (elt:∀(j:Nat) (x:V),l[j]?=some x→∃(k:Bool) (y:V),t (ρ.set v (some x)) q H=some (k,H)∧E (ρ.set v (some x)) q H=some (y,H)∧Q y):∀{z:Option V},∃ys,(ys.length≤l.length∧∀y∈ys,Q y)∧dC (.nm v) [t] E it 2000 0 [] (ρ.set v z) q H=some (.ref q (H.sz q),H.ins q (.list ys)):=by
 have key:∀(m j N:Nat) (z:Option V) (acc:List V),j+m=l.length→m<N→acc.length≤j→(∀y∈acc,Q y)→∃ys,(ys.length≤l.length∧∀y∈ys,Q y)∧dC (.nm v) [t] E it N j acc (ρ.set v z) q H=some (.ref q (H.sz q),H.ins q (.list ys)):=by
  intro m;induction m with
  |zero=>
   intro j N z acc hj hN ha hQ;obtain⟨N,rfl⟩:=oQ N ‹_›;exact⟨acc,⟨by omega,hQ⟩,rn (by rw[hi,gB.mpr (Ru ‹_›)]) hq (by omega)⟩
  |succ m ih=>
   intro j N z acc hj hN ha hQ;obtain⟨N,rfl⟩:=oQ N ‹_›;have h1:l[j]?=some l[j]:=ay (RA ‹_›);obtain⟨k,y,e1,e2,e3⟩:=elt j _ h1;induction k with
   |true=>
    obtain⟨ys,hy,e⟩:=ih (j+1) N (some l[j]) (acc++[y]) (Q8 ‹_›) (aL ‹_›) (by simp;assumption) (fun z hz=>by rcases NH.mp hz with h|h;exact hQ z h;rw[Oc.mp h];exact e3);exact⟨ys,hy,rP (v:=l[j]) (ρ1:=ρ.set v (some l[j])) (by rw[hi,h1]) (congrArg some (set_set ..)) (DQ e1 (IW pJ)) e2 e⟩
   |false=>
    obtain⟨ys,hy,e⟩:=ih (j+1) N (some l[j]) acc (Q8 ‹_›) (aL ‹_›) (by(constructor<;>first|assumption|decide)) hQ;exact⟨ys,hy,K6 (v:=l[j]) (ρ1:=ρ.set v (some l[j])) (by rw[hi,h1]) (congrArg some (set_set ..)) (DQ e1 (HI PF)) e⟩
 intro z;exact key l.length 0 2000 z [] (Nat.zero_add _) (aJ ‹_› (by decide)) (by simp) (by simp)
end
variable{b:List Inf}{v:V}
noncomputable def gp(s:List cL)(a:cL):Nat→Bool
 |0=>false
 |h+1=>match s[h]? with
  |.none=>false
  |some y=>if 0<a.s∧¬y.g=11 then(if y.s=a.s then decide (y.p<a.p)else gp s a h)else false
def g7(s:List cL)(k:Nat):Bool:=match s[k]? with|some x=>gp s x k | .none=>false
noncomputable def bI(s:List cL):Nat→Int
 |0=>-1
 |k+1=>if cJ s k||g7 s k then bI s k else k
theorem A9{e:Nat}(hp:p≤e)(he:e≤l.length):gi l (.int p) (.int e)=some ((l.take e).drop p):=by
 have h1:cu (p:Int) l.length=p:=by unfold cu;rw[ac (Int.natCast_nonneg _)];simp;omega
 have h2:cu (e:Int) l.length=e:=by unfold cu;rw[ac (Int.natCast_nonneg _)];simp;exact Nat.min_eq_left ‹_›
 show(match some (cu (p:Int) l.length),some (cu (e:Int) l.length)with|some i,some j=>some ((l.take j).drop i)|_,_=>.none)=_;rw[h1,h2]
theorem DD{a lo hi:Ev}{e:Nat}(h1:a ρ q H=some (.ref r i,H))(h2:lo ρ q H=some (.int p,H))(h3:hi ρ q H=some (.int e,H))(hg:H.get r i=some (.list l))(hp:p≤e)(he:e≤l.length)(hl:l.length≤9000)(hq:q<H.length):bV a (some lo) (some hi) ρ q H=some (.ref q (H.sz q),H.ins q (.list ((l.take e).drop p))):=by
 unfold bV nJ;rw[h1];dsimp only;rw[h2];dsimp only;rw[h3];dsimp only;rw[hg];dsimp only;rw[A9 hp he];exact Hp.new_eq hq (by simp[O.fits];omega)
theorem Jp{y:V}{l:List (V×V)}(h:H.get r i=some (.dict l))(hk:(cg y&&aW y l)=true)(hv:dG l y=some v):idx (.ref r i) y H=some v:=by
 unfold idx;dsimp only;rw[h];dsimp only;rw[ac hk];exact hv
section
variable{b sc lr li st:Nat}{f:Int}{kk tt lks:V}
theorem J5(E:EnvD D H)(R:Rw b rr H L s n)(S:H.get 9 sc=some (At b lr li lks st))(hs:∀x∈s,qC x.g)(hk:k<s.length):de [.ref 9 sc,.int k] q H=some (.bool (g7 (s.map Inf.cell) k),H):=by
 have hb:=R.buf;have hr:=R.row;have hn:=R.few;obtain⟨x,hx⟩:∃x,s[k]?=some x:=⟨_,ay hk⟩;obtain⟨i,a1,a2,a3⟩:=R.at hx;have e0:g7 (s.map Inf.cell) k=gp (s.map Inf.cell) x.cell k:=by unfold g7;rw[aB,hx];rfl
 rw[e0];have key:∀(h N:Nat),h≤k→h<N→∃ρ',aC (cE jH jy N::[(aF (ai (V.bool false)))]) [some (.ref 9 sc),some (.int k),some (.ref 9 rr),some (.int ((h:Int)-1)),none] q H=some (.ret (.bool (gp (s.map Inf.cell) x.cell h)),ρ',H):=by
  intro h;induction h with
  |zero=>
   intro N _ hN;obtain⟨N,rfl⟩:=oQ N ‹_›;apply Exists.intro;apply wF
   ·repeat left
   ·repeat left
  |succ h ih=>
   intro N hh hN;obtain⟨N,rfl⟩:=oQ N ‹_›;obtain⟨y,hy⟩:∃y,s[h]?=some y:=⟨_,ay (by omega)⟩;have hg:=hs y (aP hy);obtain⟨j,h1,h2,h3⟩:=R.at hy;have e:(((h+1:Nat):Int)-1)=(h:Int):=by omega
   rw[e];have hl:gp (s.map Inf.cell) x.cell (h+1)=if 0<x.sp∧¬y.g=11 then(if y.sp=x.sp then decide (y.pt<x.pt)else gp (s.map Inf.cell) x.cell h)else false:=by
    show(match(s.map Inf.cell)[h]? with | .none=>false|some y=>_)=_;rw[aB,hy];rfl
   rw[hl];by_cases c1:0<x.sp
   ·by_cases c2:y.g=11
    ·rw[af (by simp[c2])];apply Exists.intro;apply wF
     ·repeat left
      ·rw[HV E R S hy hg,c2]
      repeat left
     ·repeat left
    ·rw[ac ⟨c1,c2⟩];have hm:dX [.ref 9 sc,.int h] q H=some (.bool false,H):=by rw[HV E R S hy hg];simp[c2]
     by_cases c3:y.sp=x.sp
     ·rw[ac c3];apply Exists.intro;apply wT
      ·repeat left
      ·repeat left
     ·rw[af c3];refine⟨(ih N (Nat.le_of_succ_le ‹_›) (aL ‹_›)).choose,?_⟩;apply wT
      ·repeat left
      ·repeat left
       exact(ih N (Nat.le_of_succ_le ‹_›) (aL ‹_›)).choose_spec
   ·rw[af (by simp[c1])];apply Exists.intro;apply wF
    ·repeat left
    ·repeat left
 apply bQ rfl rfl;repeat left
 apply Jk;exact(key k 2000 (aS _) (Nat.lt_trans (Nat.lt_of_lt_of_le ‹_› ‹_›) (by decide))).choose_spec
theorem Ap(E:EnvD D H)(S:H.get 9 sc=some (At b lr li lks st))(K:H.get lr li=some (I9 kk tt f)):∃sc' li' st' tt' H',fw [.ref 9 sc,.int 8,.int 0] 9 H=some (.ref 9 sc',H')∧Lx H H'∧H'.get 9 sc'=some (At b 9 li' lks st')∧H'.get 9 li'=some (I9 kk tt' 8):=by
 have hq:=E.nine;have q1:9<(H.ins 9 (.list [])).length:=by rw[Hp.len_ins];exact hq
 let lk:O:=I9 kk (.ref 9 (H.sz 9)) 8;have q2:9<((H.ins 9 (.list [])).ins 9 lk).length:=by rw[Hp.len_ins];exact q1
 have l2:Lx H ((H.ins 9 (.list [])).ins 9 lk):=Lx.ins.trans Lx.ins;obtain⟨st',H',e,X,g⟩:=yq (a:=.ref 9 b) (c:=au 67) (d:=lks) (e:=.ref 9 ((H.ins 9 (.list [])).sz 9)) (f:=.int 1) (.int 0) rfl q2;refine⟨_,(H.ins 9 (.list [])).sz 9,st',.ref 9 (H.sz 9),H',?_,l2.trans X,g,X.2 _ _ _ (Hp.get_ins_self q1)⟩;have S2:=l2.2 _ _ _ S;apply bQ rfl rfl;repeat left
 ·exact IA q1
 repeat left
 exact e
end
variable{f:Nat}{b:List Inf}
section
variable{b sc lr li st:Nat}{f:Int}{kk tt lks:V}
theorem jK{c:List cL}:∀k, -1≤bI c k∧bI c k<k
 |0=>⟨Int.le_refl _,(by decide:(-1:Int)<0)⟩
 |k+1=>by have:=jK (c:=c) k;exact pQ (P:=fun z:Int=>-1≤z∧z<_) (fun _=>by omega) fun _=>by omega
theorem kz:∀{k},bI c k=p→cJ c p=false
 |0,h=>by cases h
 |k+1,h=>by
  refine tR h (fun _ h=>kz h) fun hn h=>?_
  ·have:k=p:=Int.ofNat.inj h;subst this;simp only[Bool.or_eq_true,not_or,Bool.not_eq_true]at hn;exact hn.1
theorem yG(E:EnvD D H)(R:Rw b rr H L s n)(S:H.get 9 sc=some (At b lr li lks st))(K:H.get lr li=some (I9 kk tt f))(hs:∀x∈s,qC x.g)(hk:k≤s.length):∃H',fO [.ref 9 sc,.int k] 9 H=some (.int (bI (s.map Inf.cell) k),H')∧Lx H H':=by
 obtain⟨sc',li',st',tt',H',e,X,S',K'⟩:=Ap E S K;have E':=E.lx X;have R':=R.lx X;have S0:=X.2 _ _ _ S;have hn:=R.few;refine⟨H',?_,X⟩;have key:∀(k N:Nat),k≤s.length→k<N→∀z:V,∃ρ',aC (cE nB ny N::[(aF (aa 3))]) [some (.ref 9 sc),some z,some (.ref 9 sc'),some (.int (iV (cJ (s.map Inf.cell)) k)),none,none,none,none] 9 H'=some (.ret (.int (bI (s.map Inf.cell) k)),ρ',H'):=by
  intro k;induction k with
  |zero=>
   intro N _ hN z;obtain⟨N,rfl⟩:=oQ N ‹_›;apply Exists.intro;apply wF
   ·repeat left
   ·repeat left
  |succ k ih=>
   intro N hk hN z;obtain⟨N,rfl⟩:=oQ N ‹_›;induction hm:cJ (s.map Inf.cell) k with
   |true=>
    have e1:iV (cJ (s.map Inf.cell)) (k+1)=iV (cJ (s.map Inf.cell)) k:=by show(if _ then _ else _)=_;rw[hm];rfl
    have e2:bI (s.map Inf.cell) (k+1)=bI (s.map Inf.cell) k:=by show(if _ then _ else _)=_;rw[hm];rfl
    rw[e1,e2];exact ih (N+1) (Nat.le_of_succ_le ‹_›) (Nat.lt_of_succ_lt ‹_›) z
   |false=>
    have e1:iV (cJ (s.map Inf.cell)) (k+1)=k:=by show(if _ then _ else _)=_;rw[hm];rfl
    rw[e1];have hl:=J5 (q:=9) E' R' S0 hs (show k<s.length by exact Nat.lt_of_succ_le ‹_›);induction hl2:g7 (s.map Inf.cell) k with
    |true=>
     have e2:bI (s.map Inf.cell) (k+1)=bI (s.map Inf.cell) k:=by show(if _ then _ else _)=_;rw[hm,hl2];rfl
     rw[hl2]at hl;rw[e2];refine⟨(ih N (Nat.le_of_succ_le ‹_›) (aL ‹_›) z).choose,?_⟩;apply wT
     ·repeat left
     ·repeat left
      ·exact BQ E' R' S' K' hs (Nat.le_of_succ_le ‹_›)
      repeat left
      exact(ih N (Nat.le_of_succ_le ‹_›) (aL ‹_›) z).choose_spec
    |false=>
     have e2:bI (s.map Inf.cell) (k+1)=k:=by show(if _ then _ else _)=_;rw[hm,hl2];rfl
     rw[hl2]at hl;rw[e2];apply Exists.intro;apply wF
     ·repeat left
     ·repeat left
 apply bQ rfl rfl;repeat left
 ·exact BQ E' R' S' K' hs hk
 repeat left
 apply Jk;exact(key k 2000 hk (aJ (aO ‹_› ‹_›) (by decide)) _).choose_spec
theorem iZ(l:List Int):d7 (l.map .int)=some l:=by
 induction l with
 |nil=>rfl
 |cons a l ih=>show(d7 (l.map .int)).map (a :: ·)=_;rw[ih];rfl
theorem OM{l:List Int}(h:H.get r i=some (.list (l.map .int)))(hl:l≠[]):∃m,bi .min [.ref r i] q H=some (.int m,H):=by
 induction l using jL with
 |nil=>exact absurd rfl hl
 |cons a l=>
  refine⟨l.foldl min a,?_⟩;show(match H.get r i with|some (.list l)=>(match d7 l with|some (x::is)=>some (V.int (is.foldl min x),H)|_=>.none)|_=>.none)=_;rw[h];dsimp only;rw[iZ]
theorem Mb{e:Nat}(E:EnvD D H)(R:Rw b rr H L s n)(hp:p≤e)(he:e≤s.length):∃H' s',u7 [.ref 9 b,.int p,.int e] 9 H=some (.none,H')∧Rw b rr H' L s' n∧Su s s'∧Fm rr H H':=by
 have hb:=R.buf;have hr:=R.row;have hn:=R.few;have hq:=E.nine;have hL:=R.len;obtain⟨M,hM⟩:∃M,M=(L.take e).drop p:=⟨_,rfl⟩;have eM:((L.map (V.ref 9)).take e).drop p=M.map (V.ref 9):=by rw[hM,List.map_drop,List.map_take]
 have hMl:M.length=e-p:=by rw[hM,ck,bh];omega
 let H1:=H.ins 9 (.list (M.map (V.ref 9)));have g1:H1.get 9 (H.sz 9)=some (.list (M.map (V.ref 9))):=Hp.get_ins_self hq;have q1:9<H1.length:=by rw[Hp.len_ins];exact hq
 have X1:Lx H H1:=Lx.ins;have R1:=R.lx X1;have tne:H.sz 9≠rr:=by have:=Hp.lt_sz R.row;exact Nat.ne_of_gt ‹_›
 have sl:∀{ρ:bJ},ρ[0]?=some (some (.ref 9 b))→ρ[1]?=some (some (.int p))→ρ[2]?=some (some (.int e))→bV (ae (aa 0) 16) (some (aa 1)) (some (aa 2)) ρ 9 H=some (.ref 9 (H.sz 9),H1):=by
  intro ρ r0 r1 r2;have:=DD (a:=ae (aa 0) 16) (lo:=aa 1) (hi:=aa 2) (qV (bq r0) hb rfl) (bq r1) (bq r2) hr hp (by rw[R.ln];exact he) (by rw[R.ln];exact aO ‹_› (by decide)) hq;rw[eM]at this;exact this
 by_cases h2:e-p<2
 ·refine⟨H1,s,?_,R1,Su.refl _,X1.fm⟩;apply bQ rfl rfl;left
  ·exact sl rfl rfl rfl
  left
  ·left
   ·repeat left
   ·left
   ·refine Jt ?_;rw[ao,hMl];omega
  repeat left
 ·obtain⟨cl,hcl⟩:∃cl:List Int,cl=((s.take e).drop p).map (·.c):=⟨_,rfl⟩;have hcll:cl.length=e-p:=by rw[hcl,ao,ck,bh];omega
  let H2:=H1.ins 9 (.list (cl.map .int));have g2:H2.get 9 (H1.sz 9)=some (.list (cl.map .int)):=Hp.get_ins_self q1;obtain⟨m,hm⟩:=OM (q:=9) g2 (by intro c;rw[c]at hcll;simp at hcll;omega);have X2:Lx H1 H2:=Lx.ins;have R2:=R1.lx X2;have cp:bo 2 (bn (aa 3)) (.nm 9) [] El [some (.ref 9 b),some (.int p),some (.int e),some (.ref 9 (H.sz 9)),none,none,none,none] 9 H1=some (.ref 9 (H1.sz 9),H2):=by
   refine gF (vP (bq rfl) g1) ?_;refine fV (z:=none) (ρ:=[some (.ref 9 b),some (.int p),some (.int e),some (.ref 9 (H.sz 9)),none,none,none,none,none,none]) (l:=M.map (V.ref 9)) (fun j=>aE g1 j) q1 (by rw[ao];omega) (by rw[ao,ao];omega) ?_;intro j y z hy hz;rw[aB]at hy hz;induction hMj:M[j]? with
   |none=>rw[hMj]at hy;exact Rk hy
   |some i=>
    rw[hMj]at hy;(refine QU hy ?_;clear hy;rintro rfl);have hLi:L[p+j]?=some i:=by
     rw[hM,List.getElem?_drop,List.getElem?_take]at hMj
     (refine PV hMj ?_;clear hMj;intro _ hMj)
     exact hMj
    have hjl:j<e-p:=by have:=(Ok.mp hMj).1;exact Nat.lt_of_lt_of_eq ‹_› ‹_›
    obtain⟨x,hx,hg⟩:=R1.at' hLi;have:cl[j]?=some x.c:=by
     rw[hcl,aB,List.getElem?_drop,List.getElem?_take,ac (by omega),hx];rfl
    rw[this]at hz;(refine QU hz ?_;clear hz;rintro rfl);repeat left
  have F2:∀{z},∃zz H' s',bG (bn (aa 3)) (.nm 4) DU [some (.ref 9 b),some (.int p),some (.int e),some (.ref 9 (H.sz 9)),z,some (.int m),none,none] 9 H2=some (.next,[some (.ref 9 b),some (.int p),some (.int e),some (.ref 9 (H.sz 9)),zz,some (.int m),none,none],H')∧Rw b rr H' L s' n∧Su s s'∧Fm rr H2 H':=by
   intro z;refine G8 (v:=4) (ρ:=[some (.ref 9 b),some (.int p),some (.int e),some (.ref 9 (H.sz 9)),z,some (.int m),none,none]) R2 (X2.2 _ _ _ g1) tne (fun i hi=>?_) (by omega) (bq rfl) (by show 4<8;decide) ?_
   ·rw[hM]at hi;exact List.mem_of_mem_take (List.mem_of_mem_drop hi)
   ·intro H' i x F hx;by_cases hc:x.c=m
    ·refine⟨x,rfl,?_⟩;rw[Hp.put_id hx];repeat left
    ·refine⟨{x with us:=true},rfl,?_⟩;repeat left
  obtain⟨zz,H',s',e1,R',S',F'⟩:=F2 (z:=none);refine⟨H',s',?_,R',S',((X1.trans X2).fm).trans F'⟩;apply eJ rfl rfl;left
  ·exact sl rfl rfl rfl
  left
  ·left
   ·repeat left
   ·left
   ·refine JC ?_;rw[ao,hMl];omega
  repeat left
  ·exact cp
  repeat left
  exact eI e1 kW
end
variable{f:Nat}{b:List Inf}
section
variable{b sc lr li st:Nat}{f:Int}{kk tt lks:V}
theorem cv:∀{m:Nat} {a:Int} {j:Nat},j<m→(bw a m)[j]?=some (.int (a+j))
 |0,_,_,h=>by exact absurd ‹_› (Nat.not_lt_zero _)
 |m+1,a,0,h=>congrArg (fun z=>some (V.int z)) (Int.add_zero a).symm
 |m+1,a,j+1,h=>by
  show(bw (a+1) m)[j]?=_;rw[cv (aL ‹_›)];congr 2;omega
theorem aR:∀{m:Nat} {a:Int},(bw a m).length=m
 |0,_=>rfl
 |m+1,a=>congrArg (· + 1) aR
theorem qE{a:Ev}(h:a ρ q H=some (.int m,H1))(hm:m<100000):bk [a] ρ q H=some (.fixed (bw 0 m),H1):=by
 have e:cs [a] ρ q H=some ([.int m],H1):=by
  show(match a ρ q H with|some (x,H)=>some ([x],H) | .none=>.none)=_;rw[h]
 unfold bk;rw[e];dsimp only;rw[Me (by omega)];rfl
theorem zo(E:EnvD D H)(R:Rw b rr H L s n)(hp:s[p]?=some x)(h0:x.pr=0)(a:V):fj [.ref 9 rr,a,.int p] q H=some (.none,H):=by
 have hr:=R.row;have hn:=R.few;have hl:=R.ln;have hps:=(Ok.mp hp).1;obtain⟨i,a1,a2,a3⟩:=R.at hp;obtain⟨cd,g,c,ma,us,pt,sp,xa,xo,yo,pr,bd⟩:=x;dsimp only at h0;subst h0;dsimp only[Inf.o]at a3;apply bQ rfl rfl;left
 ·left
 apply iz
 ·apply qE (m:=s.length)
  ·left
   ·repeat left
   rw[←hl];left
  ·exact aJ ‹_› (by decide)
 apply dO (v:=.int 0)
 ·show some _=_;rw[cv (by omega)];rfl
 ·exact rfl
 repeat left
theorem u5{g:Nat}(h:1≤g∧g≤9):dG Iy (.int (g:Int))=some (.tup [au (11+g)])∧(R0 D)[11+g]?=some (qb (D.px g) (D.py g)):=by
 have:=nine (g:=g) ‹_›;rcases this with rfl|rfl|rfl|rfl|rfl|rfl|rfl|rfl|rfl<;>exact⟨rfl,rfl⟩
noncomputable def xM(D:ti)(x:Inf)(g k p:Nat):Inf:={x with xo:=D.px g-4,yo:=D.py g-9,pr:=(p:Int)-k,bd:=[109,97,114,107]}
theorem rL{r i C f:Nat}{v:V}{fs:List (Nat×V)}{H:Hp}(hg:H.get r i=some (.inst C fs))(k:(okf C f&&decide (fs.length≤90))=true):fC okf (.ref r i) f v H=some (H.put r i (.inst C (iS fs f v))):=by
 unfold fC;dsimp only;rw[hg];dsimp only;rw[ac k]
theorem uH{o:Ev}{f q:Nat}{l:List (Ev×Nat)}{v x:V}{m:List V}{ρ:bJ}{H H1 H2:Hp}{w:Option Hp}(h1:o ρ q H=some (x,H1))(h2:fC okf x f v H1=some H2)(h3:i7 okf l m ρ q H2=w):i7 okf ((o,f)::l) (v::m) ρ q H=w:=by
 show(match o ρ q H with|some (x,H)=>(match fC okf x f v H with|some H=>i7 okf l m ρ q H | .none=>.none) | .none=>.none)=w;rw[h1];dsimp only;rw[h2];exact h3
theorem Ho{a b1 b2:Ev}{v1 v2:V}{f1 f2:Nat}{fs:List (Nat×V)}{l:List St}{u:Fl×bJ×Hp}(h:a ρ q H=some (.tup [v1,v2],H1))(h1:b1 ρ q H1=some (.ref r i,H1))(hg:H1.get r i=some (.inst C fs))(k1:(okf C f1&&decide (fs.length≤90))=true) (h2:b2 ρ q (H1.put r i (.inst C (iS fs f1 v1)))=some (.ref r i,H1.put r i (.inst C (iS fs f1 v1)))) (k2:(okf C f2&&decide ((iS fs f1 v1).length≤90))=true) (h3:aC l ρ q (H1.put r i (.inst C (iS (iS fs f1 v1) f2 v2)))=some u):aC (am okf (.ats [(b1,f1),(b2,f2)]) a::l) ρ q H=some u:=by
 refine eI (ρ1:=ρ) (H1:=H1.put r i (.inst C (iS (iS fs f1 v1) f2 v2))) ?_ h3;have e:i7 okf [(b1,f1),(b2,f2)] [v1,v2] ρ q H1=some (H1.put r i (.inst C (iS (iS fs f1 v1) f2 v2))):=
  uH h1 (rL hg k1) (uH h2 (rL (Hp.get_put_self hg) k2) (congrArg some Hp.put_put))
 unfold am rO;rw[h];dsimp only;rw[ac rfl,e]
theorem I6{g:Nat}(E:EnvD D H)(R:Rw b rr H L s n)(S:H.get 9 sc=some (At b lr li lks st))(hx:s[k]?=some x)(hx11:x.g=11)(hy:s[p]?=some y)(hy0:y.pr=0)(hpk:p<k)(hg:1≤g∧g≤9):∃H' s',lM [.ref 9 sc,au 11,.tup [au (11+g)],.int k,.int p] 9 H=some (.int ((k:Int)+1),H')∧Rw b rr H' L s' n∧Su (s.set k (xM D x g k p)) s'∧Fm rr H H':=by
 have hb:=R.buf;have hr:=R.row;have hks:=(Ok.mp hx).1;obtain⟨i,a1,a2,a3⟩:=R.at hx;have anc:H.get 0 (11+g)=some (qb (D.px g) (D.py g)):=E.z _ _ (by omega) (u5 hg).2;have an0:H.get 0 10=some (qb 4 9):=E.g (by decide) rfl;have mk:H.get 0 11=some (.dict [(.int 11,.tup [.int 0,au 10])]):=E.g (by decide) rfl;have P:=R.put (y:=xM D x g k p) a1 hx;have E1:=E.fm P.2;have S1:=P.2.2 _ _ _ S rfl (by intro zq;obtain⟨_,rfl⟩:=zq;rw[S]at hr;(refine QU hr ?_;clear hr;intro e;cases e));obtain⟨H',s',e,R',S',F'⟩:=Mb (p:=p) (e:=k+1) E1 P.1 (by omega) (by rw[List.length_set];exact Nat.succ_le_of_lt ‹_›);refine⟨H',s',?_,R',S',P.2.trans F'⟩;have df:fB [au (11+g),au 10] 9 H=some (.tup [.int (D.px g-4),.int (D.py g-9)],H):=by
  apply bQ rfl rfl;repeat left
 obtain⟨cd,gg,c,ma,us,pt,sp,xa,xo,yo,pr,bd⟩:=x;dsimp only at hx11;subst hx11;dsimp only[Inf.o]at a3;apply bQ rfl rfl;left
 ·repeat left
 apply qm (vs:=[.int 0,au 10])
 ·repeat left
 ·exact rfl
 repeat left
 ·exact zo E R hy hy0 _
 apply Ho
 ·repeat left
 ·left
 ·exact a3
 ·exact rfl
 ·left
 ·exact rfl
 apply kj
 ·repeat left
 ·left
 ·exact Hp.get_put_self a3
 ·exact rfl
 rw[Hp.put_put];apply kj
 ·left
 ·left
 ·exact Hp.get_put_self a3
 ·exact rfl
 rw[Hp.put_put];left
 ·left
  ·left
   ·repeat left
    ·exact S1
    left
   left
   ·repeat left
   left
   ·repeat left
   left
  ·exact e
 repeat left
end
variable{f:Nat}{b:List Inf}
noncomputable def d6(c:List cL)(p:Nat):Nat:=match c[p]? with|some y=>y.g.toNat | .none=>0
def iC(D:ti)(c:List cL)(k:Nat)(x:Inf):Inf:=if x.g=11∧0≤bI c k then xM D x (d6 c (bI c k).toNat) k (bI c k).toNat else x
theorem FP:(iC D c k x).cell=x.cell:=by unfold iC;split<;>rfl
theorem OT{y:V}{l:List (V×V)}{k:Bool}(h:H.get r i=some (.dict l))(hk:(cg y&&aW y l)=true)(hv:(dG l y).isSome=k):bO .isin y (.ref r i) H=some k:=by
 show Lw H y (.ref r i)=_;unfold Lw;dsimp only;rw[h];dsimp only;rw[ac hk,hv]
theorem GP{y:V}{l:List (V×V)}{k:Bool}(h:H.get r i=some (.dict l))(hk:(cg y&&aW y l)=true)(hv:(dG l y).isSome = !k):bO .notin y (.ref r i) H=some k:=by
 show(Lw H y (.ref r i)).map (!·)=_;have:=OT (k:=!k) h hk hv;have e:Lw H y (.ref r i)=some (!k):=this;rw[e];simp
section
variable{b sc lr li st:Nat}{f:Int}{kk tt lks:V}
theorem yj(E:EnvD D H)(R:Rw b rr H L s n)(S:H.get 9 sc=some (At b 0 56 lks st))(hs:∀x∈s,qC x.g)(h0:∀x∈s,x.g≠11→x.pr=0)(hx:s[k]?=some x)(h11:x.g=11):∃H' s' v,fN [.ref 9 sc,au 23,.int k] 9 H=some (.int v,H')∧(v = -1∨v=(k:Int)+1)∧Rw b rr H' L s' n∧Su (s.set k (iC D (s.map Inf.cell) k x)) s'∧Fm rr H H':=by
 have hks:=(Ok.mp hx).1;have K:H.get 0 56=some (I9 (.str xt) (au 55) 0):=E.g (by decide) rfl;obtain⟨H1,e1,X1⟩:=yG E R S K hs (Nat.le_of_lt hks);have E1:=E.lx X1;have R1:=R.lx X1;have S1:=X1.2 _ _ _ S;have hb:=R.buf;have hr:=R.row;have hb1:=R1.buf;have hr1:=R1.row;have mk:∀{H},EnvD D H→H.get 0 11=some (.dict [(.int 11,.tup [.int 0,au 10])]):=fun E=>E.g (by decide) rfl;have mb:H.get 0 23=some (.inst 499 [(31,au 11),(32,au 22)]):=E.g (by decide) rfl;obtain⟨i,a1,a2,a3⟩:=R.at hx;have n1:bO .notin (.int 11) (au 11) H=some false:=GP (mk E) rfl rfl;have q1:x.o=(({x with g:=11}:Inf)).o:=by rw[←h11]
 rw[q1]at a3;dsimp only[Inf.o]at a3;by_cases hb0:0≤bI (s.map Inf.cell) k
 ·obtain⟨p,hp⟩:∃p:Nat,bI (s.map Inf.cell) k=p:=⟨(bI (s.map Inf.cell) k).toNat,by omega⟩;have hpk:p<k:=by have:=(jK (c:=s.map Inf.cell) k).2;exact Q9 ‹_› ‹_›
  obtain⟨y,hy⟩:∃y,s[p]?=some y:=⟨_,ay (Nat.lt_trans ‹_› ‹_›)⟩;have hym:=kz hp;rw[pY hy,decide_eq_false_iff_not]at hym;have hyg:1≤y.g∧y.g≤9:=by have:=hs y (aP hy);rcases this with h|h;exact absurd h hym;exact h
  obtain⟨g,hg⟩:∃g:Nat,y.g=g:=⟨y.g.toNat,by exact Rv (And.left ‹_›)⟩;have hgg:1≤g∧g≤9:=by exact Ry ‹_› ‹_›
  have eg:d6 (s.map Inf.cell) p=g:=by
   unfold d6;rw[aB,hy];show y.g.toNat=g;exact QC ‹_›
  have ep:iC D (s.map Inf.cell) k x=xM D x g k p:=by
   unfold iC;rw[ac ⟨h11,hb0⟩,hp,Int.toNat_natCast,eg]
  rw[ep];obtain⟨H',s',e,R',S',F'⟩:=I6 E1 R1 S1 hx h11 hy (h0 y (aP hy) hym) hpk hgg;refine⟨H',s',_,?_,.inr rfl,R',S',X1.fm.trans F'⟩;rw[hp]at e1;obtain⟨j,b1,b2,b3⟩:=R1.at hy;have q2:y.o=(({y with g:=(g:Int)}:Inf)).o:=by rw[←hg]
  rw[q2]at b3;dsimp only[Inf.o]at b3;have bd:H1.get 0 22=some (.dict Iy):=E1.g (by decide) rfl;have mb1:H1.get 0 23=some (.inst 499 [(31,au 11),(32,au 22)]):=E1.g (by decide) rfl;have n2:bO .notin (.int (g:Int)) (au 22) H1=some false:=GP bd rfl (by rw[(u5 (D:=D) hgg).1];rfl);have i2:idx (au 22) (.int (g:Int)) H1=some (.tup [au (11+g)]):=Jp bd rfl (u5 (D:=D) hgg).1;apply bQ rfl rfl;repeat left
 ·have ep:iC D (s.map Inf.cell) k x=x:=by unfold iC;rw[af (by simp[hb0])]
  have es:s.set k x=s:=by
   obtain⟨_,rfl⟩:=Ok.mp hx;exact List.set_getElem_self ..
  rw[ep,es];refine⟨H1,s, -1,?_,.inl rfl,R1,Su.refl _,X1.fm⟩;have mb1:H1.get 0 23=some (.inst 499 [(31,au 11),(32,au 22)]):=E1.g (by decide) rfl;apply bQ rfl rfl;repeat left
theorem vW(E:EnvD D H)(R:Rw b rr H L s n)(S:H.get 9 sc=some (At b 0 56 lks st))(hs:∀x∈s,qC x.g)(h0:∀x∈s,x.g≠11→x.pr=0)(hx:s[k]?=some x)(h11:x.g=11):∃H' s' v,eE [.ref 9 sc,.int k] 9 H=some (.int v,H')∧(v = -1∨v=(k:Int)+1)∧Rw b rr H' L s' n∧Su (s.set k (iC D (s.map Inf.cell) k x)) s'∧Fm rr H H':=by
 obtain⟨H',s',v,e,hv,R',S',F'⟩:=yj E R S hs h0 hx h11;refine⟨H',s',v,?_,hv,R',S',F'⟩;have E':=E.fm F';have K:H.get 0 56=some (K3 xt (au 55)):=E.g (by decide) rfl;have ts:H.get 0 55=some (.list [au 23]):=E.g (by decide) rfl;have ts':H'.get 0 55=some (.list [au 23]):=E'.g (by decide) rfl;have ap:cR [.str xt,.ref 9 sc,au 23,.int k] 9 H=some (.int v,H'):=by
  apply bQ rfl rfl;repeat left
 rcases hv with rfl|rfl
 ·apply bQ rfl rfl;apply iz
  ·apply vP
   ·repeat left
   ·exact ts
  apply dO
  ·exact aE ts 0
  ·exact rfl
  repeat left
  apply iQ
  ·exact aE ts' 1
  repeat left
 ·apply bQ rfl rfl;apply iz
  ·apply vP
   ·repeat left
   ·exact ts
  apply dO
  ·exact aE ts 0
  ·exact rfl
  repeat left
theorem Kr:(iC D c k x).ma=x.ma:=by unfold iC;split<;>rfl
theorem He:(iC D c k x).g=x.g:=by unfold iC;split<;>rfl
theorem zI(h:x.g≠11):iC D c k x=x:=by unfold iC;rw[af (by simp[h])]
def fY(D:ti)(s:List Inf)(j:Nat):List Inf:=s.mapIdx fun k x=>if k<j then iC D (s.map Inf.cell) k x else x
theorem dU:(fY D s j)[k]?=s[k]?.map fun x=>if k<j then iC D (s.map Inf.cell) k x else x:=by unfold fY;rw[List.getElem?_mapIdx]
theorem FC:(fY D s j).map Inf.cell=s.map Inf.cell:=by
 apply ch;intro k;rw[aB,aB,dU];induction s[k]? with
 |none=>rfl
 |some x=>simp only[Option.map_some];split<;>simp[FP]
theorem Cg(hx:s[j]?=some x):(fY D s j).set j (iC D (s.map Inf.cell) j x)=fY D s (j+1):=by
 apply ch;intro k;rw[dU];by_cases h:j=k
 ·subst h;rw[bL (by unfold fY;rw[ca];exact(Ok.mp hx).1),hx];simp
 ·rw[List.getElem?_set_ne h,dU];induction s[k]? with
  |none=>rfl
  |some y=>simp only[Option.map_some];congr 1;by_cases c:k<j<;>simp[c]<;>omega
theorem Su.cell{a c:List Inf}(h:Su a c):c.map Inf.cell=a.map Inf.cell:=by
 have e:Inf.cell=Inf.cell∘Inf.st:=rfl;rw[e,←List.map_map,←List.map_map,h]
theorem vz(E:EnvD D H)(R:Rw b rr H L s n)(hs:∀x∈s,qC x.g)(hm:∀x∈s,x.ma=1)(h0:∀x∈s,x.g≠11→x.pr=0):∃H' s',dR [.ref 9 b,au 67,au 57,.int 0,.int 1] 9 H=some (.none,H')∧Rw b rr H' L s' n∧Su (fY D s s.length) s'∧Fm rr H H':=by
 have hq:=E.nine;have hn:=R.few;let H1:=H.ins 9 (.dict []);let H2:=H1.ins 9 (.list [.int 11]);let H3:=H2.ins 9 (.list [.int 11]);let d:=H.sz 9;let H4:=H3.put 9 d (.dict [(.int 11,.bool true)]);have q1:9<H1.length:=by rw[Hp.len_ins];exact hq
 have q2:9<H2.length:=by rw[Hp.len_ins];exact q1
 have q3:9<H3.length:=by rw[Hp.len_ins];exact q2
 have X1:Lx H H1:=Lx.ins;have X2:Lx H H2:=X1.trans Lx.ins;have X3:Lx H H3:=X2.trans Lx.ins;have X4:Lx H H4:=X3.put Hp.get_sz;have q4:9<H4.length:=by rw[X4.1];exact hq
 have d1:H1.get 9 d=some (.dict []):=Hp.get_ins_self hq;have d3:H3.get 9 d=some (.dict []):=Hp.get_ins (Hp.get_ins d1);have d4:H4.get 9 d=some (.dict [(.int 11,.bool true)]):=Hp.get_put_self d3;have l2:H2.get 9 (H1.sz 9)=some (.list [.int 11]):=Hp.get_ins_self q1;have l3:H3.get 9 (H2.sz 9)=some (.list [.int 11]):=Hp.get_ins_self q2;have z1:H1.sz 9=H.sz 9+1:=Hp.sz_ins hq;have z2:H2.sz 9=H1.sz 9+1:=Hp.sz_ins q1;have l4:H4.get 9 (H2.sz 9)=some (.list [.int 11]):=by
  show(H3.put 9 d _).get 9 (H2.sz 9)=_;rw[Hp.get_put_ne (by intro zq;obtain⟨_,h⟩:=zq;simp only[d]at h;omega)];exact l3
 obtain⟨st,H5,eS,X5,gS⟩:=yq (a:=.ref 9 b) (c:=au 67) (d:=au 57) (e:=au 56) (f:=.int 1) (.int 0) rfl q4;have E1:=E.lx X1;have X:Lx H H5:=X4.trans X5;have E5:=E.lx X;have R5:=R.lx X;have d5:=X5.2 _ _ _ d4;have S5:H5.get 9 (H4.sz 9)=some (At b 0 56 (au 57) st):=gS;have key:∀(m j N:Nat) (z8 z11 z12:Option V) (H':Hp) (s':List Inf),j+m=s.length→m<N→Rw b rr H' L s' n→Su (fY D s j) s'→Fm rr H5 H'→
   ∃H'' s'' ρ',aC [cE kA kD N] [some (.ref 9 b),some (au 67),some (au 57),some (.int 0),some (.int 1),some (au 56),some (.ref 9 d),some (au 23),z8,some (.ref 9 (H4.sz 9)),some (.int j),z11,z12,none,none,none,none,none,none] 9 H'=some (.next,ρ',H'')∧Rw b rr H'' L s'' n∧Su (fY D s s.length) s''∧Fm rr H5 H'':=by
  intro m;induction m with
  |zero=>
   intro j N z8 z11 z12 H' s' hj hN R' S' F;obtain⟨N,rfl⟩:=oQ N ‹_›;have hb:=R'.buf;have hr:=R'.row;have hl:=R'.ln;have hsl:s'.length=s.length:=by rw[S'.length];unfold fY;rw[ca]
   have ej:j=s.length:=by exact Rp ‹_›
   rw[ej]at S';refine⟨H',s',[some (.ref 9 b),some (au 67),some (au 57),some (.int 0),some (.int 1),some (au 56),some (.ref 9 d),some (au 23),z8,some (.ref 9 (H4.sz 9)),some (.int j),z11,z12,none,none,none,none,none,none],?_,R',S',F⟩;apply wF
   ·repeat left
   ·left
  |succ m ih=>
   intro j N z8 z11 z12 H' s' hj hN R' S' F;obtain⟨N,rfl⟩:=oQ N ‹_›;have hb:=R'.buf;have hr:=R'.row;have hl:=R'.ln;have E':=E5.fm F;have dd:=F.2 _ _ _ d5 rfl (by intro zq;obtain⟨_,h⟩:=zq;simp only[d]at h;have:=Hp.lt_sz R.row;omega);have ss:=F.2 _ _ _ S5 rfl (by intro zq;obtain⟨_,h⟩:=zq;have:=Hp.lt_sz (X4.2 _ _ _ R.row);omega);have K:H'.get 0 56=some (I9 (.str xt) (au 55) 0):=E'.g (by decide) rfl;have hsl:s'.length=s.length:=by rw[S'.length];unfold fY;rw[ca]
   obtain⟨x,hx⟩:∃x,s'[j]?=some x:=⟨_,ay (Rl ‹_› ‹_›)⟩;obtain⟨y,hy,hyx⟩:=S'.get hx;have hsj:s[j]?=some y:=by
    rw[dU]at hy;induction hh:s[j]? with
    |none=>rw[hh]at hy;exact Rk hy
    |some w=>rw[hh]at hy;simpa using hy
   have hcell:s'.map Inf.cell=s.map Inf.cell:=S'.cell.trans FC;have hall:∀z∈s',∃w∈s,z.g=w.g∧z.ma=w.ma∧(z.g≠11→z.pr=w.pr):=by
    intro z hz;obtain⟨k,hk⟩:=List.getElem?_of_mem hz;obtain⟨u,hu,hzu⟩:=S'.get hk;rw[dU]at hu;induction hh:s[k]? with
    |none=>rw[hh]at hu;exact Rk hu
    |some w=>
     rw[hh]at hu;simp only[Option.map_some,Option.some.injEq]at hu;have hg:z.g=u.g:=show z.st.g=u.st.g from congrArg Inf.g hzu;have hma:z.ma=u.ma:=show z.st.ma=u.st.ma from congrArg Inf.ma hzu;have hpr:z.pr=u.pr:=show z.st.pr=u.st.pr from congrArg Inf.pr hzu;refine⟨w,aP hh,?_,?_,fun h=>?_⟩
     ·rw[hg,←hu];split;exact He;rfl
     ·rw[hma,←hu];split;exact Kr;rfl
     ·have:w.g≠11:=by
       have e:u.g=w.g:=by rw[←hu];split;exact He;rfl
       rw[←e,←hg];exact h
      rw[hpr,←hu];split;rw[zI this];rfl
   have hs':∀z∈s',qC z.g:=fun z hz=>by obtain⟨w,hw,e,_⟩:=hall z hz;rw[e];exact hs w hw
   have h0':∀z∈s',z.g≠11→z.pr=0:=fun z hz h=>by obtain⟨w,hw,e,_,e2⟩:=hall z hz;rw[e2 h];exact h0 w hw (by rw[←e];exact h)
   have hmx:x.ma=1:=by obtain⟨w,hw,_,e,_⟩:=hall x (aP hx);rw[e];exact hm w hw
   have hgx:=hs' x (aP hx);obtain⟨i,a1,a2,a3⟩:=R'.at hx;have q1:x.o=(({x with ma:=1}:Inf)).o:=by rw[←hmx]
   rw[q1]at a3;dsimp only[Inf.o]at a3;by_cases h11:x.g=11
   ·have ip:bO .isin (.int x.g) (.ref 9 d) H'=some true:=by rw[h11];exact OT dd rfl rfl
    have ps:=xA (q:=9) E' R' ss K hx hgx;obtain⟨H6,s6,v,e6,hv,R6,S6,F6⟩:=vW E' R' ss hs' h0' hx h11;rw[hcell]at S6;have sx:x={y with us:=x.us}:=by
     have:({x.st with us:=x.us}:Inf)={y.st with us:=x.us}:=by rw[hyx]
     exact this
    have S7:Su (fY D s (j+1)) s6:=by
     rw[←Cg hsj];refine Su.trans ?_ S6;unfold Su at S'⊢;rw[List.map_set,List.map_set,S'];congr 1;rw[sx];unfold iC;split<;>rfl
    have mx:bi .max [.int v,.int ((j:Int)+1)] 9 H6=some (.int ((j+1:Nat):Int),H6):=by
     show some (V.int (max v ((j:Int)+1)),H6)=_;congr 3;omega
    obtain⟨H'',s'',ρ',e',R'',S'',F''⟩:=ih (j+1) N z8 (some (.int v)) (some (.ref 9 i)) H6 s6 (Q8 ‹_›) (aL ‹_›) R6 S7 (F.trans F6);refine⟨H'',s'',ρ',?_,R'',S'',F''⟩;apply wT
    ·repeat left
    repeat left
    try exact e'
   ·have ip:bO .isin (.int x.g) (.ref 9 d) H'=some false:=OT dd rfl (by
     show(if decide (11=x.g)then _ else _:Option V).isSome=false;rw[af (by simp only[bp];exact Ne.symm ‹_›)];rfl)
    have S7:Su (fY D s (j+1)) s':=by
     rw[←Cg hsj];have hyg:y.g≠11:=by rw[←show x.g=y.g from(show x.st.g=y.st.g from congrArg Inf.g hyx)];exact h11
     rewrite[zI hyg,show(fY D s j).set j y=fY D s j from ?_]
     ·exact S'
     ·obtain⟨hlt,e⟩:=Ok.mp hy;have:(fY D s j)[j]=y:=by
       have h2:=hy;rw[dU,hsj]at h2;exact e
      rw[←this,List.set_getElem_self]
    have mx:bi .max [.int (-1),.int ((j:Int)+1)] 9 H'=some (.int ((j+1:Nat):Int),H'):=by
     show some (V.int (max (-1) ((j:Int)+1)),H')=_;have:max (-1) ((j:Int)+1)=((j+1:Nat):Int):=by(constructor<;>first|assumption|decide)
     rw[this]
    obtain⟨H'',s'',ρ',e',R'',S'',F''⟩:=ih (j+1) N z8 (some (.int (-1))) (some (.ref 9 i)) H' s' (Q8 ‹_›) (aL ‹_›) R' S7 F;refine⟨H'',s'',ρ',?_,R'',S'',F''⟩;apply wT
    ·repeat left
    repeat left
    try exact e'
 have S0:Su (fY D s 0) s:=by
  have:fY D s 0=s:=by
   apply ch;intro k;rw[dU];cases s[k]? <;> simp
  rw[this];exact Su.refl _
 obtain⟨H'',s'',ρ',e',R'',S'',F''⟩:=key s.length 0 2000 (some (.int 11)) none none H5 s (Nat.zero_add _) (aJ ‹_› (by decide)) R5 S0 (Fm.refl _ _);refine⟨H'',s'',?_,R'',S'',X.fm.trans F''⟩;have lk:H.get 0 57=some (.list [au 56]):=E.g (by decide) rfl;have ts1:H1.get 0 55=some (.list [au 23]):=E1.g (by decide) rfl;have ts4:H4.get 0 55=some (.list [au 23]):=(E.lx X4).g (by decide) rfl;have mk:H1.get 0 11=some (.dict [(.int 11,.tup [.int 0,au 10])]):=E1.g (by decide) rfl;have bl:bi .list [au 11] 9 H1=some (.ref 9 (H1.sz 9),H2):=by
  show(match H1.get 0 11 with|some (.list l)=>H1.new 9 (.list l)|some (.dict l)=>H1.new 9 (.list (l.map fun(p:V×V)=>p.1))|_=>.none)=_;rw[mk];exact Hp.new_eq q1 rfl
 have bs:bi .sortedset [.ref 9 (H1.sz 9)] 9 H2=some (.ref 9 (H2.sz 9),H3):=by
  show(match H2.get 9 (H1.sz 9)with|some (.list [.int j])=>if j=11 then H2.new 9 (.list [.int j])else .none|_=>.none)=_;rw[l2];exact Hp.new_eq q2 rfl
 have bg:fL [.str xt,au 23] 9 H1=some (.ref 9 (H2.sz 9),H3):=by
  apply bQ rfl rfl;repeat left
 have i57:idx (au 57) (.int 0) H=some (au 56):=oz (k:=0) lk rfl;have cd:∀ρ:bJ,bN [] ρ 9 H=some (.ref 9 d,H1):=fun ρ=>Hp.new_eq hq rfl;have eS':g9 [.ref 9 b,au 67,au 57,au 56,.int 1] 9 H4=some (.ref 9 (H4.sz 9),H5):=eS;apply eJ rfl rfl;repeat left
 ·exact cd _
 apply iz
 ·apply vP
  ·repeat left
  ·exact ts1
 apply dO
 ·exact aE ts1 0
 ·exact rfl
 left;apply iz
 ·apply vP
  ·repeat left
  ·exact l3
 apply dO
 ·exact aE l3 0
 ·exact rfl
 left;apply yI
 ·repeat left
 ·left
 ·left
 ·exact d3
 ·exact rfl
 left;apply iQ
 ·exact aE l4 1
 left;apply iQ
 ·exact aE ts4 1
 repeat left
 ·exact eS'
 repeat left
 apply Jk;exact e'
end
variable{f:Nat}{b:List Inf}
noncomputable def kY(l:List Inf)(o:Int):Int:=l.foldl (fun o y=>o-1*y.xa) o
noncomputable def kX(l:List Inf)(o:Int):Int:=l.foldl (fun o _=>o-1*0) o
def lz(s:List Inf)(k:Nat)(x:Inf):Inf:=if x.pr=0 then x else
 {x with pr:=0,xo:=kY ((s.take k).drop ((k:Int)+x.pr).toNat) (x.xo+0),yo:=kX ((s.take k).drop ((k:Int)+x.pr).toNat) (x.yo+0)}
structure MG(s:List Inf)(k:Nat)(x:Inf)(p:Nat)(y:Inf):Prop where
 pr:(k:Int)+x.pr=p
 lt:p<k
 at_:s[p]?=some y
 y0:y.pr=0
 yx:y.xo=0
 yy:y.yo=0
 bd:x.bd=[109,97,114,107]
section
variable{b:Nat}
theorem GV(E:EnvD D H)(R:Rw b rr H L s n)(hx:s[k]?=some x)(h0:x.pr=0):∃H' t,ed [.ref 9 rr,.int k] 9 H=some (.ref 9 t,H')∧H'.get 9 t=some (.list [])∧Lx H H'∧t≠rr:=by
 have hq:=E.nine;let H1:=H.ins 9 (.list []);let H2:=H1.ins 9 (.dict []);have q1:9<H1.length:=by rw[Hp.len_ins];exact hq
 have g1:H1.get 9 (H.sz 9)=some (.list []):=Hp.get_ins_self hq;have X:Lx H H2:=Lx.ins.trans Lx.ins;have R2:=R.lx X;have hr:=R2.row;have hl:=R2.ln;obtain⟨i,a1,a2,a3⟩:=R2.at hx;obtain⟨cd,g,c,ma,us,pt,sp,xa,xo,yo,pr,bd⟩:=x;dsimp only at h0;subst h0;dsimp only[Inf.o]at a3;have cd:∀ρ:bJ,bN [] ρ 9 H1=some (.ref 9 (H1.sz 9),H2):=fun ρ=>Hp.new_eq q1 rfl;refine⟨H2,H.sz 9,?_,Hp.get_ins g1,X,by have:=Hp.lt_sz R.row;exact Nat.ne_of_gt ‹_›⟩;apply bQ rfl rfl;repeat left
 ·exact cd _
 repeat left
 apply Jk;apply wF
 ·repeat left
 repeat left
theorem Hr(E:EnvD D H)(R:Rw b rr H L s n)(hx:s[k]?=some x)(h0:x.pr≠0)(Y:MG s k x p y):∃H' t,ed [.ref 9 rr,.int k] 9 H=some (.ref 9 t,H')∧H'.get 9 t=some (.list [.int k])∧Lx H H'∧t≠rr:=by
 have hq:=E.nine;let H1:=H.ins 9 (.list []);let H2:=H1.ins 9 (.dict []);let t:=H.sz 9;let d:=H1.sz 9;let H3:=H2.put 9 d (.dict [(.int k,.bool true)]);let H4:=H3.put 9 t (.list [.int k]);have q1:9<H1.length:=by rw[Hp.len_ins];exact hq
 have z1:H1.sz 9=H.sz 9+1:=Hp.sz_ins hq;have g1:H1.get 9 t=some (.list []):=Hp.get_ins_self hq;have g2:H2.get 9 t=some (.list []):=Hp.get_ins g1;have d2:H2.get 9 d=some (.dict []):=Hp.get_ins_self q1;have X:Lx H H2:=Lx.ins.trans Lx.ins;have nd:H.get 9 d=none:=by
  induction e:H.get 9 d with
  |none=>rfl
  |some o=>have:=Hp.lt_sz e;simp only[d]at this;omega
 have X3:Lx H H3:=X.put nd;have X4:Lx H H4:=X3.put Hp.get_sz;have g3:H3.get 9 t=some (.list []):=by
  show(H2.put 9 d _).get 9 t=_;rw[Hp.get_put_ne (by intro zq;obtain⟨_,h⟩:=zq;simp only[d,t]at h;omega)];exact g2
 have d3:H3.get 9 d=some (.dict [(.int k,.bool true)]):=Hp.get_put_self d2;have d4:H4.get 9 d=some (.dict [(.int k,.bool true)]):=by
  show(H3.put 9 t _).get 9 d=_;rw[Hp.get_put_ne (by intro zq;obtain⟨_,h⟩:=zq;simp only[d,t]at h;omega)];exact d3
 have R2:=R.lx X;have R3:=R.lx X3;have R4:=R.lx X4;have hr2:=R2.row;have hr3:=R3.row;have hr4:=R4.row;have hl:=R2.ln;have hks:=(Ok.mp hx).1;obtain⟨i,a1,a2,a3⟩:=R2.at hx;have b3:=R3.inf k i x a1 hx;have c3:=R4.inf k i x a1 hx;obtain⟨j,e1,e2,e3⟩:=R4.at Y.at_;obtain⟨ycd,yg,yc,yma,yus,ypt,ysp,yxa,yxo,yyo,ypr,ybd⟩:=y;have y0:=Y.y0;dsimp only at y0;subst y0;dsimp only[Inf.o]at e3;have hpr:=Y.pr;have hlt:=Y.lt;have cd:∀ρ:bJ,bN [] ρ 9 H1=some (.ref 9 d,H2):=fun ρ=>Hp.new_eq q1 rfl;have n2:bO .notin (.int (k:Int)) (.ref 9 d) H2=some true:=GP d2 rfl rfl;refine⟨H4,t,?_,Hp.get_put_self g3,X4,by have:=Hp.lt_sz R.row;simp only[t];exact Nat.ne_of_gt ‹_›⟩;apply bQ rfl rfl;repeat left
 ·exact cd _
 repeat left
 apply Jk;apply wT
 ·repeat left
 left;apply yI
 ·repeat left
 ·left
 ·left
 ·exact d2
 ·exact rfl
 left;left
 ·apply mv
  ·left
  ·left
  ·exact g3
  ·exact Nat.lt_of_lt_of_le (by decide:0<1) (by decide)
 show aC _ _ 9 H4=_;repeat left
 rw[hpr];apply wF
 ·repeat left
 repeat left
theorem Cv{t:Nat}{M:List Nat}(R:Rw b rr H L s n)(ht:H.get 9 t=some (.list (M.map (V.ref 9))))(htr:t≠rr)(hi:L[k]?=some i)(hx:s[k]?=some x) (hM:∀(j a:Nat),M[j]?=some a→L[p+j]?=some a∧p+j<k) (hMl:M.length≤500) (hpk:M.length=k-p) :cz [.ref 9 i,.ref 9 t,.int 1] 9 H=some (.none,H.put 9 i ({x with xo:=kY ((s.take k).drop p) x.xo,yo:=kX ((s.take k).drop p) x.yo}:Inf).o):=by
 have hg:=R.inf k i x hi hx;have hl:=R.len;have hks:=(Ok.mp hx).1;have tne:t≠i:=by rintro rfl;rw[ht]at hg;(refine QU hg ?_;clear hg;intro e;cases e)
 let l:=(s.take k).drop p;have hll:l.length=k-p:=by simp only[l,ck,bh];exact congrArg (· - p) (Nat.min_eq_left (by omega))
 have key:∀(m j N:Nat) (z:Option V),j+m=M.length→m<N→∃ρ',aC [di (.nm 3) (.live 9 t) jJ N j] [some (.ref 9 i),some (.ref 9 t),some (.int 1),z] 9 (H.put 9 i ({x with xo:=kY (l.take j) x.xo,yo:=kX (l.take j) x.yo}:Inf).o)=some (.next,ρ',H.put 9 i ({x with xo:=kY l x.xo,yo:=kX l x.yo}:Inf).o):=by
  intro m;induction m with
  |zero=>
   intro j N z hj hN;obtain⟨N,rfl⟩:=oQ N ‹_›;rw[List.take_of_length_le (show l.length≤j by omega)];refine⟨_,iQ (aE (l:=M.map (V.ref 9)) ?_ j |>.trans ?_) kW⟩
   ·rw[Hp.get_put_ne (by intro zq;obtain⟨_,h⟩:=zq;exact tne h.symm)];exact ht
   ·rw[gB.mpr (by rw[ao];exact Ru ‹_›)]
  |succ m ih=>
   intro j N z hj hN;obtain⟨N,rfl⟩:=oQ N ‹_›;obtain⟨a,ha⟩:∃a,M[j]?=some a:=⟨_,ay (RA ‹_›)⟩;obtain⟨hLa,hlt⟩:=hM j a ha;obtain⟨y,hy,hya⟩:=R.at' hLa;have hlj:l[j]?=some y:=by simp only[l,List.getElem?_drop,List.getElem?_take];rw[ac ‹_›];exact hy
   have hai:a≠i:=by rintro rfl;have:=mm R.nd hi hLa;omega
   obtain⟨hjl,hje⟩:=Ok.mp hlj;have et:l.take (j+1)=l.take j++[y]:=by rw[List.take_succ_eq_append_getElem hjl,hje]
   have ex:kY (l.take (j+1)) x.xo=kY (l.take j) x.xo-1*y.xa:=by unfold kY;rw[et,List.foldl_append];rfl
   have ey:kX (l.take (j+1)) x.yo=kX (l.take j) x.yo-1*0:=by unfold kX;rw[et,List.foldl_append];rfl
   obtain⟨ρ',e⟩:=ih (j+1) N (some (.ref 9 a)) (Q8 ‹_›) (aL ‹_›);rw[ex,ey]at e;refine⟨ρ',?_⟩;generalize kY (l.take j) x.xo=X at e⊢;generalize kX (l.take j) x.yo=Y at e⊢;have g1:(H.put 9 i ({x with xo:=X,yo:=Y}:Inf).o).get 9 i=some ({x with xo:=X,yo:=Y}:Inf).o:=Hp.get_put_self hg;have g2:(H.put 9 i ({x with xo:=X-1*y.xa,yo:=Y}:Inf).o).get 9 i=some ({x with xo:=X-1*y.xa,yo:=Y}:Inf).o:=Hp.get_put_self hg;have r1:(H.put 9 i ({x with xo:=X,yo:=Y}:Inf).o).get 9 a=some y.o:=by rw[Hp.get_put_ne (by intro zq;obtain⟨_,h⟩:=zq;exact hai h.symm)];exact hya
   have r2:(H.put 9 i ({x with xo:=X-1*y.xa,yo:=Y}:Inf).o).get 9 a=some y.o:=by rw[Hp.get_put_ne (by intro zq;obtain⟨_,h⟩:=zq;exact hai h.symm)];exact hya
   apply dO (v:=.ref 9 a)
   ·refine(aE (l:=M.map (V.ref 9)) ?_ j).trans ?_
    ·rw[Hp.get_put_ne (by intro zq;obtain⟨_,h⟩:=zq;exact tne h.symm)];exact ht
    ·rw[aB,ha];rfl
   ·exact rfl
   left;apply kj
   ·repeat left
   ·left
   ·exact g1
   ·exact rfl
   rw[Hp.put_put];left;apply kj
   ·left
    ·left
     ·left
     ·exact g2
     ·left
    ·left
     ·left
     ·left
      ·left
      ·exact r2
      ·left
     ·left
    ·left
   ·left
   ·exact g2
   ·exact rfl
   rw[Hp.put_put];left;exact e
 have hz:H=H.put 9 i ({x with xo:=kY (l.take 0) x.xo,yo:=kX (l.take 0) x.yo}:Inf).o:=by
  rw[show({x with xo:=kY (l.take 0) x.xo,yo:=kX (l.take 0) x.yo}:Inf)=x from rfl,Hp.put_id hg]
 obtain⟨ρ',e⟩:=key M.length 0 2000 none (Nat.zero_add _) (aJ ‹_› (by decide));rw[←hz]at e;apply eJ rfl rfl;apply iz
 ·exact vP (bq rfl) ht
 exact e
theorem HN(l:List Inf)(i:Nat)(a c:Inf):(l.set i a).set i c=l.set i c:=by simp
theorem zc(E:EnvD D H)(R:Rw b rr H L s n)(hx:s[k]?=some x)(h0:x.pr≠0)(Y:MG s k x p y):∃H',fq [.ref 9 b,.int k] 9 H=some (.none,H')∧Rw b rr H' L (s.set k (lz s k x)) n∧Fm rr H H':=by
 have hq:=E.nine;have hL:=R.len;have hn:=R.few;have hlt:=Y.lt;have hbd:=Y.bd;obtain⟨cd,g,c,ma,us,pt,sp,xa,xo,yo,pr,bd⟩:=x;dsimp only at hbd h0;subst hbd;have hks:=(Ok.mp hx).1;obtain⟨i,a1,a2,a3⟩:=R.at hx;obtain⟨j,b1,b2,b3⟩:=R.at Y.at_;have hji:j≠i:=by rintro rfl;have:=mm R.nd a1 b1;omega
 let x1:Inf:=⟨cd,g,c,ma,us,pt,sp,xa,xo,yo,0,[109,97,114,107]⟩;let x2:Inf:=⟨cd,g,c,ma,us,pt,sp,xa,xo+0,yo+0,0,[109,97,114,107]⟩;have P1:=R.put (y:=x1) a1 hx;have P2:=R.put (y:=x2) a1 hx;have g1:(H.put 9 i x1.o).get 9 i=some x1.o:=Hp.get_put_self a3;have g2:(H.put 9 i x2.o).get 9 i=some x2.o:=Hp.get_put_self a3;have r1:(H.put 9 i x1.o).get 9 j=some y.o:=by rw[Hp.get_put_ne (by intro zq;obtain⟨_,h⟩:=zq;exact hji h.symm)];exact b3
 obtain⟨M,hM⟩:∃M,M=(L.take k).drop p:=⟨_,rfl⟩;have eM:((L.map (V.ref 9)).take k).drop p=M.map (V.ref 9):=by rw[hM,List.map_drop,List.map_take]
 have hMl:M.length=k-p:=by rw[hM,ck,bh,Nat.min_eq_left (by omega)]
 have q2:9<(H.put 9 i x2.o).length:=by rw[Hp.len_put];exact hq
 let H2:=(H.put 9 i x2.o).ins 9 (.list (M.map (V.ref 9)));let t:=(H.put 9 i x2.o).sz 9;have gt:H2.get 9 t=some (.list (M.map (V.ref 9))):=Hp.get_ins_self q2;have X2:Lx (H.put 9 i x2.o) H2:=Lx.ins;have R2:=P2.1.lx X2;have tne:t≠rr:=by have:=Hp.lt_sz P2.1.row;simp only[t];exact Nat.ne_of_gt ‹_›
 have hx2:(s.set k x2)[k]?=some x2:=bL hks;have ta:=Cv (p:=p) R2 gt tne a1 hx2 (fun j a hj=>by
  rw[hM,List.getElem?_drop,List.getElem?_take]at hj;split at hj
  ·exact⟨hj,by assumption⟩
  ·exact Rk hj) (by omega) hMl
 rw[List.take_set_of_le (aS k)]at ta;have P3:=R2.put (y:=({x2 with xo:=kY ((s.take k).drop p) x2.xo,yo:=kX ((s.take k).drop p) x2.yo}:Inf)) a1 hx2;have ep:((k:Int)+pr).toNat=p:=by have:=Y.pr;dsimp only at this;exact QC ‹_›
 have e3:lz s k ⟨cd,g,c,ma,us,pt,sp,xa,xo,yo,pr,[109,97,114,107]⟩=({x2 with xo:=kY ((s.take k).drop p) x2.xo,yo:=kX ((s.take k).drop p) x2.yo}:Inf):=by
  unfold lz;rw[af h0];dsimp only;rw[ep]
 have sl:∀{ρ:bJ},ρ[2]?=some (some (.ref 9 rr))→ρ[4]?=some (some (.int ((k:Int)+pr)))→ρ[1]?=some (some (.int k))→bV (aa 2) (some (aa 4)) (some (aa 1)) ρ 9 (H.put 9 i x2.o)=some (.ref 9 t,H2):=by
  intro ρ r0 r1 r2;rw[show(k:Int)+pr=p from Y.pr]at r1;have:=DD (a:=aa 2) (lo:=aa 4) (hi:=aa 1) (bq r0) (bq r1) (bq r2) P2.1.row (Nat.le_of_lt hlt) (by rw[R.ln];exact Nat.le_of_lt ‹_›) (by rw[R.ln];exact aO ‹_› (by decide)) q2;rw[eM]at this;exact this
 refine⟨_,?_,?_,P2.2.trans (X2.fm.trans P3.2)⟩
 rotate_left
 ·rw[e3];have:=P3.1;rw[HN]at this;exact this
 have hb:=R.buf;have hr:=R.row;have hpr:=Y.pr;obtain⟨nib,nir⟩:=R.ne (k:=k) a3;have nij:i≠j:=fun h=>hji h.symm;have add:gL [.ref 9 i,.ref 9 j] 9 (H.put 9 i x1.o)=some (.none,H.put 9 i x2.o):=by
  obtain⟨ycd,yg,yc,yma,yus,ypt,ysp,yxa,yxo,yyo,ypr,ybd⟩:=y;have y1:=Y.yx;have y2:=Y.yy;dsimp only at y1 y2;subst y1 y2;dsimp only[Inf.o,x1]at g1 r1;dsimp only[Inf.o]at b3;apply eJ rfl rfl;repeat left
 apply eJ rfl rfl;repeat left
 rw[hpr];repeat left
 ·exact add
 repeat left
 ·exact sl rfl rfl rfl
 repeat left
end
variable{b:List Inf}
def gC(s:List Inf)(j:Nat):List Inf:=s.mapIdx fun k x=>if k<j then lz s k x else x
theorem Jo:(lz s k x).xa=x.xa:=by unfold lz;split<;>rfl
theorem JZ:(lz s k x).pr=0:=by unfold lz;split;assumption;rfl
theorem zG(h:x.pr=0):lz s k x=x:=by unfold lz;rw[ac h]
theorem gK:(gC s j)[k]?=s[k]?.map fun x=>if k<j then lz s k x else x:=by unfold gC;rw[List.getElem?_mapIdx]
theorem uu:(gC s j).length=s.length:=by unfold gC;rw[ca]
theorem BN(hx:s[j]?=some x):(gC s j).set j (lz s j x)=gC s (j+1):=by
 apply ch;intro k;rw[gK];by_cases h:j=k
 ·subst h;rw[bL (by rw[uu];exact(Ok.mp hx).1),hx];simp
 ·rw[List.getElem?_set_ne h,gK];induction s[k]? with
  |none=>rfl
  |some y=>simp only[Option.map_some];congr 1;by_cases c:k<j<;>simp[c]<;>omega
theorem CG{a c:List Inf}(h:a.map (·.xa)=c.map (·.xa))(o:Int):kY a o=kY c o:=by
 have e:∀l:List Inf,∀o,kY l o=(l.map (·.xa)).foldl (fun o y=>o-1*y) o:=fun l o=>by unfold kY;rw[List.foldl_map]
 rw[e,e,h]
theorem DJ{a c:List Inf}(h:a.length=c.length)(o:Int):kX a o=kX c o:=by
 have e:∀(l:List Inf) (o:Int),kX l o=o:=by
  intro l;induction l with
  |nil=>intro o;rfl
  |cons x l ih=>intro o;show kX l (o-1*0)=o;rw[ih];omega
 rw[e,e]
theorem JY:(gC s j).map (·.xa)=s.map (·.xa):=by
 apply ch;intro k;rw[aB,aB,gK];induction s[k]? with
 |none=>rfl
 |some x=>simp only[Option.map_some];split;rw[Jo];rfl
theorem Fy:lz (gC s j) j x=lz s j x:=by
 unfold lz;split
 ·rfl
 ·have e:∀p,(((gC s j).take j).drop p).map (·.xa)=((s.take j).drop p).map (·.xa):=by
   intro p;rw[List.map_drop,List.map_take,JY,←List.map_take,←List.map_drop]
  have e2:∀p,(((gC s j).take j).drop p).length=((s.take j).drop p).length:=by
   intro p;have:=congrArg List.length (e p);simpa using this
  rw[CG (e _),DJ (e2 _)]
theorem NI{a:Ev}(h:a ρ q H=some (.ref r i,H1))(hg:H1.get r i=some (.list l)):C2 a ρ q H=some (.rev r i l.length,H1):=by
 unfold C2;rw[h];dsimp only;rw[hg]
theorem tD(h:H.get r i=some (.list l)):item (.rev r i l.length) j H=some (if j<l.length then l[l.length-1-j]? else .none):=by
 unfold item;dsimp only;rw[h];dsimp only;rw[ac rfl]
section
variable{b:Nat}
theorem Io(E:EnvD D H)(R:Rw b rr H L s n)(lnk:∀k x,s[k]?=some x→x.pr≠0→∃p y,MG s k x p y):∃H',lF [.ref 9 b] 9 H=some (.none,H')∧Rw b rr H' L (gC s s.length) n∧Fm rr H H':=by
 have hn:=R.few;have key:∀(m j N:Nat) (z1 z2:Option V) (H':Hp),j+m=s.length→m<N→Rw b rr H' L (gC s j) n→Fm rr H H'→
   ∃H'' y1 y2,aC [di (.nm 1) (.fixed (bw 0 s.length)) qs N j] [some (.ref 9 b),z1,z2,none,none,none,none,none,none] 9 H'=some (.next,[some (.ref 9 b),y1,y2,none,none,none,none,none,none],H'')∧Rw b rr H'' L (gC s s.length) n∧Fm rr H H'':=by
  intro m;induction m with
  |zero=>
   intro j N z1 z2 H' hj hN R' F;obtain⟨N,rfl⟩:=oQ N ‹_›;have ej:j=s.length:=by exact Rp ‹_›
   rw[ej]at R';exact⟨H',z1,z2,iQ (by show some _=_;rw[gB.mpr (by rw[aR];exact Ru ‹_›)]) kW,R',F⟩
  |succ m ih=>
   intro j N z1 z2 H' hj hN R' F;obtain⟨N,rfl⟩:=oQ N ‹_›;obtain⟨x,hx⟩:∃x,s[j]?=some x:=⟨_,ay (RA ‹_›)⟩;have hxj:(gC s j)[j]?=some x:=by rw[gK,hx];simp
   have E':=E.fm F;have hb:=R'.buf;have it0:item (.fixed (bw 0 s.length)) j H'=some (some (.int (j:Int))):=by
    show some _=_;rw[cv (RA ‹_›)];congr 3;exact Int.zero_add _
   by_cases h0:x.pr=0
   ·obtain⟨H1,t,e,g,X,tn⟩:=GV E' R' hxj h0;have e2:gC s (j+1)=gC s j:=by
     rw[←BN hx,zG h0];obtain⟨hl,e⟩:=Ok.mp hxj;have:(gC s j)[j]=x:=e;rw[←this,List.set_getElem_self]
    obtain⟨H'',y1,y2,e3,R'',F''⟩:=ih (j+1) N (some (.int j)) z2 H1 (Q8 ‹_›) (aL ‹_›) (by rw[e2];exact R'.lx X) (F.trans X.fm);refine⟨H'',y1,y2,?_,R'',F''⟩;apply dO
    ·exact it0
    ·exact rfl
    left;apply iz
    ·apply NI
     ·repeat left
     ·exact g
    apply iQ
    ·exact tD g
    exact e3
   ·obtain⟨p,y,Y⟩:=lnk j x hx h0;have Y':MG (gC s j) j x p y:=⟨Y.pr,Y.lt,by rw[gK,Y.at_];simp[Y.lt,zG Y.y0],Y.y0,Y.yx,Y.yy,Y.bd⟩;obtain⟨H1,t,e,g,X,tn⟩:=Hr E' R' hxj h0 Y';obtain⟨H2,e2,R2,F2⟩:=zc (E'.lx X) (R'.lx X) hxj h0 Y';rw[Fy,BN hx]at R2;have g2:=F2.2 _ _ _ g rfl (by intro zq;obtain⟨_,h⟩:=zq;exact tn h);obtain⟨H'',y1,y2,e3,R'',F''⟩:=ih (j+1) N (some (.int j)) (some (.int j)) H2 (Q8 ‹_›) (aL ‹_›) R2 ((F.trans X.fm).trans F2);refine⟨H'',y1,y2,?_,R'',F''⟩;apply dO
    ·exact it0
    ·exact rfl
    left;apply iz
    ·apply NI
     ·repeat left
     ·exact g
    apply dO
    ·exact tD g
    ·exact rfl
    repeat left
    apply iQ
    ·exact tD g2
    exact e3
 have S0:gC s 0=s:=by
  apply ch;intro k;rw[gK];cases s[k]? <;> simp
 obtain⟨H1,y1,y2,e1,R1,F1⟩:=key s.length 0 2000 none none H (Nat.zero_add _) (aJ ‹_› (by decide)) (by rw[S0];exact R) (Fm.refl _ _);have hb1:=R1.buf;obtain⟨z,H2,e2,R2,F2⟩:=mt (v:=3) (B:=xD) (a:=ae (aa 0) 16) (ρ:=[some (.ref 9 b),y1,y2,none,none,none,none,none,none]) (f:=fun x=>{x with pr:=0}) R1 (by repeat left) (by show 3<9;decide)
  (fun H' i x F hb _ hx=>by
   repeat left)
 have e3:(gC s s.length).map (fun x=>{x with pr:=0})=gC s s.length:=by
  conv=>rhs;rw[←List.map_id (gC s s.length)]
  apply List.map_congr_left;intro x hx;obtain⟨k,hk⟩:=List.getElem?_of_mem hx;rw[gK]at hk;induction hh:s[k]? with
  |none=>rw[hh]at hk;exact Rk hk
  |some w=>
   have:=(Ok.mp hh).1;rw[hh]at hk;simp only[Option.map_some,this,if_true,Option.some.injEq]at hk;have:x.pr=0:=by rw[←hk];exact JZ
   show({x with pr:=0}:Inf)=x;rw[←this]
 rw[e3]at R2;refine⟨H2,?_,R2,F1.trans F2⟩;have hb:=R.buf;have hr:=R.row;have hl:=R.ln;apply eJ rfl rfl;apply iz
 ·apply qE (m:=s.length)
  ·left
   ·repeat left
   rw[←hl];left
  ·exact aJ ‹_› (by decide)
 rw[show∀(a c:St) (ρ:bJ),aC [a,c] ρ 9 H=aC ([a]++[c]) ρ 9 H from fun _ _ _=>rfl,fJ];have e1':aC [di (.nm 1) (.fixed (bw 0 s.length)) qs 2000 0] ((List.replicate 9 none).set 0 (some (V.ref 9 b))) 9 H=_:=e1;rw[e1'];dsimp only;exact eI e2 kW
end
variable{b:List Inf}
abbrev Let(c:Int):Prop:=c=97∨c=98∨c=99∨c=109
noncomputable def Ey(c:Int):Int:=if c=97 then 1 else if c=98 then 2 else if c=99 then 3 else 11
theorem Let.gok{c:Int}(h:Let c):qC (Ey c):=by rcases h with rfl|rfl|rfl|rfl<;>decide
section
variable{b:Nat}
theorem LO{c:Int}(h:Let c):dW [.int c] q H=some (.str [],H):=by rcases h with rfl|rfl|rfl|rfl<;>rfl
theorem Cu{c:Int}(h:Let c):eL [.int c] q H=some (.bool false,H):=by rcases h with rfl|rfl|rfl|rfl<;>rfl
theorem Ot(E:EnvD D H){c:Int}(h:Let c):dq [au 71,.int c] q H=some (.int (Ey c),H):=by
 have e:(dG Jq (.int c)).getD (.int 0)=.int (Ey c):=by rcases h with rfl|rfl|rfl|rfl<;>rfl
 rw[←e];apply bQ rfl rfl;left;apply EE;repeat left
theorem LA(E:EnvD D H):dq [au 71,.int 32] q H=some (.int 0,H):=by
 show _=some ((dG Jq (.int 32)).getD (.int 0),H);apply bQ rfl rfl;left;apply EE;repeat left
theorem Ai(E:EnvD D H)(R:Rw b rr H L s n)(hc:∀x∈s,Let x.cd):∃H',fF [.ref 9 b] 9 H=some (.none,H')∧Rw b rr H' L s n∧Fm rr H H':=by
 have hb:=R.buf;obtain⟨z,H2,e2,R2,F2⟩:=mt (v:=1) (B:=nA) (a:=ae (aa 0) 16) (ρ:=[some (.ref 9 b),none,none]) (f:=fun x=>x) R (by repeat left) (by show 1<3;decide)
  (fun H' i x F hb hm hx=>by
   have hk:=LO (q:=9) (H:=H') (hc x hm);repeat left)
 rw[List.map_id']at R2;exact⟨H2,eJ rfl rfl (eI e2 kW),R2,F2⟩
theorem p9(E:EnvD D H)(R:Rw b rr H L s n)(hc:∀x∈s,Let x.cd)(a:V):cU [.ref 9 b,a] 9 H=some (.none,H):=by
 have hb:=R.buf;have hr:=R.row;have hl:=R.ln;have hn:=R.few;have key:∀(m j N:Nat) (z:Option V),s.length≤j+m→m<N→∃ρ',aC [cE i5 iY N] [some (.ref 9 b),some a,some (.int j),z,none,none,none,none] 9 H=some (.next,ρ',H):=by
  intro m;induction m with
  |zero=>
   intro j N z hj hN;obtain⟨N,rfl⟩:=oQ N ‹_›;apply Exists.intro;apply wF
   ·repeat left
   left
  |succ m ih=>
   intro j N z hj hN;obtain⟨N,rfl⟩:=oQ N ‹_›;by_cases hjl:j<s.length
   ·obtain⟨x,hx⟩:∃x,s[j]?=some x:=⟨_,ay hjl⟩;obtain⟨i,a1,a2,a3⟩:=R.at hx;have hk:=Cu (q:=9) (H:=H) (hc x (aP hx));refine⟨(ih (j+1) N (some (.int 0)) (by omega) (aL ‹_›)).choose,?_⟩;apply wT
    ·repeat left
    repeat left
    exact(ih (j+1) N (some (.int 0)) (by omega) (aL ‹_›)).choose_spec
   ·apply Exists.intro;apply wF
    ·repeat left
    left
 apply eJ rfl rfl;repeat left
 apply Jk;exact(key s.length 1 2000 none (Nat.le_add_left _ _) (aJ ‹_› (by decide))).choose_spec
theorem um(E:EnvD D H)(R:Rw b rr H L s n)(hc:∀x∈s,Let x.cd)(a:V):∃H',dK [.ref 9 b,a,.none] 9 H=some (.none,H')∧Rw b rr H' L s n∧Fm rr H H':=by
 obtain⟨H1,e1,R1,F1⟩:=Ai E R hc;have e2:=p9 (E.fm F1) R1 hc a;refine⟨H1,?_,R1,F1⟩;apply eJ rfl rfl;repeat left
theorem sW(E:EnvD D H)(a c:V):db [a,c,.ref 8 112] 9 H=some (.none,H):=by
 have pl:=E.pl;apply eJ rfl rfl;repeat left
theorem Bq(E:EnvD D H)(R:Rw b rr H L s n)(hc:∀x∈s,x.ma=0):∃H',gv [.ref 9 b,.ref 8 112,.tup []] 9 H=some (.none,H')∧Rw b rr H' L (s.map fun x=>{x with ma:=1}) n∧Fm rr H H':=by
 have hb:=R.buf;obtain⟨z,H2,e2,R2,F2⟩:=mt (v:=3) (B:=pa) (a:=ae (aa 0) 16) (ρ:=[some (.ref 9 b),some (.ref 8 112),some (.tup []),none,none,none,none,none,none]) (f:=fun x=>{x with ma:=1}) R (by repeat left) (by show 3<9;decide)
  (fun H' i x F hb hm hx=>by
   have pl:=(E.fm F).pl;have q1:x.o=(({x with ma:=0}:Inf)).o:=by rw[←hc x hm]
   rw[q1]at hx;dsimp only[Inf.o]at hx;apply kj
   ·repeat left
   ·left
   ·exact hx
   ·exact rfl
   exact kW)
 refine⟨H2,?_,R2,F2⟩;apply eJ rfl rfl;apply eI e2;apply iz
 ·exact PD (bq rfl)
 apply iQ
 ·exact rfl
 exact kW
theorem yD(E:EnvD D H)(R:Rw b rr H L s n)(hc:∀x∈s,Let x.cd)(h0:∀x∈s,x.g=0):∃H',fM [.ref 9 b,au 71] 9 H=some (.none,H')∧Rw b rr H' L (s.map fun x=>{x with g:=Ey x.cd}) n∧Fm rr H H':=by
 have hb:=R.buf;obtain⟨z,H2,e2,R2,F2⟩:=mt (v:=2) (B:=mK) (a:=ae (aa 0) 16) (ρ:=[some (.ref 9 b),some (au 71),none]) (f:=fun x=>{x with g:=Ey x.cd}) R (by repeat left) (by show 2<3;decide)
  (fun H' i x F hb hm hx=>by
   have E':=E.fm F;have hk:=Ot (q:=9) E' (hc x hm);have q1:x.o=(({x with g:=0}:Inf)).o:=by rw[←h0 x hm]
   rw[q1]at hx;dsimp only[Inf.o]at hx;repeat left)
 exact⟨H2,eJ rfl rfl (eI e2 kW),R2,F2⟩
theorem Ie{g:Nat}(h:1≤g∧g≤9):(wL D)[g]?=some (.int (D.w g)):=by
 have:=nine (g:=g) ‹_›;rcases this with rfl|rfl|rfl|rfl|rfl|rfl|rfl|rfl|rfl<;>rfl
theorem FM(E:EnvD D H){g:Nat}(h:1≤g∧g≤9):ig [au 73,.int g] q H=some (.int (D.w g),H):=by
 have hw:=Ie (D:=D) h;have i1:idx (.tup (wL D)) (.int (g:Int)) H=some (.int (D.w g)):=NV (by omega) hw;have l1:bi .len [.tup (wL D)] q H=some (.int 12,H):=rfl;apply bQ rfl rfl;repeat left
noncomputable def vD(D:ti)(g:Int):Int:=if g=11 then 0 else D.w g.toNat
theorem t3(E:EnvD D H)(R:Rw b rr H L s n)(hg:∀x∈s,qC x.g)(h0:∀x∈s,x.xa=0):∃H',dP [.ref 9 b,au 75] 9 H=some (.none,H')∧Rw b rr H' L (s.map fun x=>{x with xa:=vD D x.g}) n∧Fm rr H H':=by
 have hb:=R.buf;obtain⟨z,H2,e2,R2,F2⟩:=mt (v:=2) (B:=kK) (a:=ae (aa 0) 16) (ρ:=[some (.ref 9 b),some (au 75),none,none,none]) (f:=fun x=>{x with xa:=vD D x.g}) R (by repeat left) (by show 2<5;decide)
  (fun H' i x F hb hm hx=>by
   have E':=E.fm F;by_cases h11:x.g=11
   ·have hw:({x with xa:=vD D x.g}:Inf)=x:=by
     have:vD D x.g=x.xa:=by rw[h0 x hm];unfold vD;rw[ac h11]
     rw[this]
    rw[hw,Hp.put_id hx];have hk:bF [au 67,.int x.g] 9 H'=some (.int 3,H'):=by rw[h11];exact CN E'
    repeat left
   ·have hk:=Gk (q:=9) E' (hg x hm) h11;have h19:1≤x.g∧x.g≤9:=by rcases hg x hm with h|h;exact absurd h h11;exact h
    have ha:ig [au 73,.int x.g] 9 H'=some (.int (vD D x.g),H'):=by
     have:=FM (q:=9) E' (g:=x.g.toNat) (by omega);rw[Int.toNat_of_nonneg (by omega)]at this;unfold vD;rw[af h11];exact this
    repeat left)
 exact⟨H2,eJ rfl rfl (eI e2 kW),R2,F2⟩
theorem xJ(hx:H.get 9 i=some x.o):cG [.ref 9 i] 9 H=some (.bool false,H):=by
 apply bQ rfl rfl;repeat left
theorem FY(E:EnvD D H)(R:Rw b rr H L s n):∃H',cP [.ref 9 b] 9 H=some (.none,H')∧Rw b rr H' L s n∧Fm rr H H':=by
 have hb:=R.buf;obtain⟨z,H2,e2,R2,F2⟩:=mt (v:=1) (B:=jh) (a:=ae (aa 0) 16) (ρ:=[some (.ref 9 b),none,none]) (f:=fun x=>x) R (by repeat left) (by show 1<3;decide)
  (fun H' i x F hb hm hx=>by
   have hk:=xJ hx;rw[Hp.put_id hx];repeat left)
 rw[List.map_id']at R2;exact⟨H2,eJ rfl rfl (eI e2 kW),R2,F2⟩
theorem Ms(E:EnvD D H)(R:Rw b rr H L s n):vt [.ref 9 b,.int 0] 9 H=some (.none,H):=by
 have hb:=R.buf;have hr:=R.row;have hl:=R.ln;have hn:=R.few;have key:∀(m j N:Nat) (z:Option V),s.length≤j+m→m<N→∃ρ',aC [cE En Em N] [some (.ref 9 b),some (.int 0),z,some (.int j),none,none,none,none] 9 H=some (.next,ρ',H):=by
  intro m;induction m with
  |zero=>
   intro j N z hj hN;obtain⟨N,rfl⟩:=oQ N ‹_›;apply Exists.intro;apply wF
   ·repeat left
   left
  |succ m ih=>
   intro j N z hj hN;obtain⟨N,rfl⟩:=oQ N ‹_›;by_cases hjl:j<s.length
   ·obtain⟨x,hx⟩:∃x,s[j]?=some x:=⟨_,ay hjl⟩;obtain⟨i,a1,a2,a3⟩:=R.at hx;have hk:=xJ a3;refine⟨(ih (j+1) N z (by omega) (aL ‹_›)).choose,?_⟩;apply wT
    ·repeat left
    repeat left
    exact(ih (j+1) N z (by omega) (aL ‹_›)).choose_spec
   ·apply Exists.intro;apply wF
    ·repeat left
    left
 apply eJ rfl rfl;repeat left
 apply Jk;exact(key s.length 0 2000 none (Nat.le_add_left _ _) (aJ ‹_› (by decide))).choose_spec
theorem Ks(E:EnvD D H)(R:Rw b rr H L s n)(hs:∀x∈s,qC x.g)(hm:∀x∈s,x.ma=1)(h0:∀x∈s,x.g≠11→x.pr=0)(lnk:∀s',Su (fY D s s.length) s'→∀k x,s'[k]?=some x→x.pr≠0→∃p y,MG s' k x p y):∃H' s',dN [.ref 9 b,au 75,.ref 8 112] 9 H=some (.none,H')∧Su (fY D s s.length) s'∧Rw b rr H' L (gC s' s'.length) n∧Fm rr H H':=by
 obtain⟨H1,s1,e1,R1,S1,F1⟩:=vz E R hs hm h0;have E1:=E.fm F1;obtain⟨H2,e2,R2,F2⟩:=FY E1 R1;have E2:=E1.fm F2;obtain⟨H3,e3,R3,F3⟩:=Io E2 R2 (lnk s1 S1);refine⟨H3,s1,?_,S1,R3,(F1.trans F2).trans F3⟩;have pl:=E.pl;have pl1:=E1.pl;have ps:=E.ps;have ps1:=E1.ps;apply eJ rfl rfl;apply iz
 ·apply vP
  ·repeat left
  ·exact ps
 apply dO
 ·exact aE ps 0
 ·exact rfl
 repeat left
 apply iQ
 ·exact aE ps1 1
 repeat left
end
variable{b:List Inf}
theorem Ik(p e:Int):∃M:List Nat,gi (L.map (V.ref 9)) (.int p) (.int e)=some (M.map (V.ref 9))∧(∀i∈M,i∈L)∧M.length≤L.length:=by
 refine⟨(L.take (cu e (L.map (V.ref 9)).length)).drop (cu p (L.map (V.ref 9)).length),?_,fun i hi=>List.mem_of_mem_take (List.mem_of_mem_drop hi),by rw[ck,bh];exact aO (Nat.sub_le ..) (Nat.min_le_right ..)⟩;rw[List.map_drop,List.map_take];rfl
theorem Jr{a lo hi:Ev}{p e:Int}{m:List V}(h1:a ρ q H=some (.ref r i,H))(h2:lo ρ q H=some (.int p,H))(h3:hi ρ q H=some (.int e,H))(hg:H.get r i=some (.list l))(hs:gi l (.int p) (.int e)=some m)(hm:m.length≤9000)(hq:q<H.length):bV a (some lo) (some hi) ρ q H=some (.ref q (H.sz q),H.ins q (.list m)):=by
 unfold bV nJ;rw[h1];dsimp only;rw[h2];dsimp only;rw[h3];dsimp only;rw[hg];dsimp only;rw[hs];exact Hp.new_eq hq (by simpa[O.fits]using hm)
theorem KT(h1:H.get r i=some (.list l))(h2:H.get r' i'=some (.list [])):bO .ne (.ref r i) (.ref r' i') H=some (!l.isEmpty):=by
 show(match H.get r i,H.get r' i' with|some (.list a),some (.list b)=>if a.length=b.length then gU Ac a b else some false|_,_=>.none).map (!·)=_;rw[h1,h2];induction l using jL<;>rfl
section
variable{b:Nat}
theorem yp(E:EnvD D H)(R:Rw b rr H L s n):∃ys:List Int,ys.length≤500∧fR [.ref 9 b] 9 H=some (.ref 9 (H.sz 9),H.ins 9 (.list (ys.map .int))):=by
 have hb:=R.buf;have hr:=R.row;have hl:=R.ln;have hn:=R.few;obtain⟨ys,⟨h1,h2⟩,e⟩:=Au (v:=5) (E:=mT) (q:=9) (H:=H) (l:=bw 0 s.length) (it:=.fixed (bw 0 s.length)) (ρ:=[some (.ref 9 b),some (.ref 9 rr),none,none,none,none,none,none])
  (t:=Ds [(aA .eq (aI .add (aa 5) (ai (V.int 1))) (cK .len [(aa 1)])),(aA .ne (ae (aG (aa 1) (aI .add (aa 5) (ai (V.int 1)))) 2) (ae (aG (aa 1) (aa 5)) 2))])
  (fun y=>∃i,y=.int i) (fun j=>rfl) E.nine (by rw[aR];exact aO ‹_› (by decide)) (fun j z hz=>by
   have hj:j<s.length:=by have:=(Ok.mp hz).1;rw[aR]at this;exact this
   rw[cv hj]at hz;have hz:z=.int (j:Int):=by induction hz using QT;congr 1;exact Int.zero_add _
   subst hz;by_cases hjl:j+1=s.length
   ·refine⟨true,.int ((j:Int)+1),?_,?_,⟨_,rfl⟩⟩
    ·repeat left
    ·repeat left
   ·obtain⟨x,hx⟩:∃x,s[j]?=some x:=⟨_,ay hj⟩;obtain⟨y,hy⟩:∃y,s[j+1]?=some y:=⟨_,ay (by omega)⟩;obtain⟨i,a1,a2,a3⟩:=R.at hx;obtain⟨i',b1,b2,b3⟩:=R.at hy;have i2:idx (.ref 9 rr) (.int ((j:Int)+1)) H=some (.ref 9 i'):=oz (k:=j+1) hr b2;by_cases hc:y.c=x.c
    ·refine⟨false,.int ((j:Int)+1),?_,?_,⟨_,rfl⟩⟩
     ·repeat left
     ·repeat left
    ·refine⟨true,.int ((j:Int)+1),?_,?_,⟨_,rfl⟩⟩
     ·repeat left
     ·repeat left) (z:=none)
 rw[aR]at h1;obtain⟨is,rfl⟩:∃is:List Int,ys=is.map .int:=by
  clear e h1;induction ys with
  |nil=>exact⟨[],rfl⟩
  |cons a l ih=>
   obtain⟨i,rfl⟩:=h2 a (ak ..);obtain⟨is,rfl⟩:=ih (fun y hy=>h2 y (aD _ hy));exact⟨i::is,rfl⟩
 refine⟨is,by rw[ao]at h1;exact aO ‹_› ‹_›,?_⟩;apply bQ rfl rfl;repeat left
 apply gF
 ·apply qE (m:=s.length)
  ·left
   ·repeat left
   rw[←hl];left
  ·exact aJ ‹_› (by decide)
 exact e
theorem GA(E:EnvD D H)(R:Rw b rr H L s n):∃H' s',dg [.ref 9 b] 9 H=some (.none,H')∧Rw b rr H' L s' n∧Su s s'∧Fm rr H H':=by
 have hn:=R.few;obtain⟨ys,hy,eG⟩:=yp E R;let H1:=H.ins 9 (.list (ys.map .int));let t:=H.sz 9;have g1:H1.get 9 t=some (.list (ys.map .int)):=Hp.get_ins_self E.nine;have tr:t≠rr:=by have:=Hp.lt_sz R.row;simp only[t];exact Nat.ne_of_gt ‹_›
 have X1:Lx H H1:=Lx.ins;have hLn:=R.len;have key:∀(m j N:Nat) (c:Int) (z2 z3 z4:Option V) (H':Hp) (s':List Inf),j+m=ys.length→m<N→Rw b rr H' L s' n→Su s s'→Fm rr H1 H'→
   ∃H'' s'' ρ',aC [di (.nm 2) (.live 9 t) jP N j] [some (.ref 9 b),some (.int c),z2,z3,z4,none] 9 H'=some (.next,ρ',H'')∧Rw b rr H'' L s'' n∧Su s s''∧Fm rr H1 H'':=by
  intro m;induction m with
  |zero=>
   intro j N c z2 z3 z4 H' s' hj hN R' S F;obtain⟨N,rfl⟩:=oQ N ‹_›;exact⟨H',s',_,iQ ((aE (F.2 _ _ _ g1 rfl (fun h=>absurd h.2 ‹_›)) j).trans (by rw[gB.mpr (by rw[ao];exact Ru ‹_›)])) kW,R',S,F⟩
  |succ m ih=>
   intro j N c z2 z3 z4 H' s' hj hN R' S F;obtain⟨N,rfl⟩:=oQ N ‹_›;have E':=(E.lx X1).fm F;have hq:=E'.nine;have hb:=R'.buf;have hr:=R'.row;obtain⟨e,he⟩:∃e,ys[j]?=some e:=⟨_,ay (RA ‹_›)⟩;have it0:item (.live 9 t) j H'=some (some (.int e)):=(aE (F.2 _ _ _ g1 rfl (fun h=>absurd h.2 ‹_›)) j).trans (by rw[aB,he];rfl);obtain⟨M,hM,hML,hMl⟩:=Ik (L:=L) c e;let H2:=H'.ins 9 (.list (M.map (V.ref 9)));let t2:=H'.sz 9;have g2:H2.get 9 t2=some (.list (M.map (V.ref 9))):=Hp.get_ins_self hq;have q2:9<H2.length:=by rw[Hp.len_ins];exact hq
   have X2:Lx H' H2:=Lx.ins;have R2:=R'.lx X2;have t2r:t2≠rr:=by have:=Hp.lt_sz R'.row;simp only[t2];exact Nat.ne_of_gt ‹_›
   have sl:∀{ρ:bJ},ρ[0]?=some (some (.ref 9 b))→ρ[1]?=some (some (.int c))→ρ[2]?=some (some (.int e))→bV (ae (aa 0) 16) (some (aa 1)) (some (aa 2)) ρ 9 H'=some (.ref 9 t2,H2):=by
    intro ρ r0 r1 r2;exact Jr (qV (bq r0) hb rfl) (bq r1) (bq r2) hr hM (by rw[ao];omega) hq
   obtain⟨zs,⟨z1,_⟩,ec⟩:=Au (v:=7) (E:=fZ) (q:=9) (H:=H2) (l:=M.map (V.ref 9)) (it:=.live 9 t2) (ρ:=[some (.ref 9 b),some (.int c),some (.int e),some (.ref 9 t2),z4,none,none,none])
    (t:=aV (ae (aa 7) 4)) (fun _=>True) (fun j=>aE g2 j) q2 (by rw[ao];omega) (fun j z hz=>by
     rw[aB]at hz;induction hMj:M[j]? with
     |none=>rw[hMj]at hz;exact Rk hz
     |some i=>
      rw[hMj]at hz;(refine QU hz ?_;clear hz;rintro rfl);obtain⟨k,hk⟩:=List.getElem?_of_mem (hML i (aP hMj));obtain⟨x,hx,hg⟩:=R2.at' hk;refine⟨x.us,.ref 9 i,?_,?_,trivial⟩
      ·repeat left
      ·repeat left) (z:=none)
   rw[ao]at z1;let H3:=H2.ins 9 (.list zs);let H4:=H3.ins 9 (.list []);have q3:9<H3.length:=by rw[Hp.len_ins];exact q2
   have g3:H3.get 9 (H2.sz 9)=some (.list zs):=Hp.get_ins_self q2;have g4:H4.get 9 (H3.sz 9)=some (.list []):=Hp.get_ins_self q3;have X4:Lx H2 H4:=Lx.ins.trans Lx.ins;have R4:=R2.lx X4;have ne:=KT (H:=H4) (Hp.get_ins g3) g4;have cnd:aA .ne (bo 2 (bn (aa 3)) (.nm 7) [(aV (ae (aa 7) 4))] fZ) (bD []) [some (.ref 9 b),some (.int c),some (.int e),some (.ref 9 t2),z4,none] 9 H2=some (!zs.isEmpty,H4):=by
    apply vo
    ·apply gF
     ·exact vP (bq rfl) g2
     ·exact ec
    ·exact kT da q3 (by decide)
    ·exact ne
   induction hz:zs.isEmpty with
   |true=>
    rw[hz]at cnd;replace cnd:_=some (false,H4):=cnd;obtain⟨H'',s'',ρ',e',R'',S'',F''⟩:=ih (j+1) N e (some (.int e)) (some (.ref 9 t2)) z4 H4 s' (Q8 ‹_›) (aL ‹_›) R4 S ((F.trans X2.fm).trans X4.fm);refine⟨H'',s'',ρ',?_,R'',S'',F''⟩;apply dO
    ·exact it0
    ·exact rfl
    repeat left
    ·exact sl rfl rfl rfl
    apply JL
    ·exact cnd
    repeat left
    try exact e'
   |false=>
    rw[hz]at cnd;replace cnd:_=some (true,H4):=cnd;obtain⟨z,H5,s5,e5,R5,S5,F5⟩:=G8 (v:=4) (B:=jD) (a:=aa 3) (ρ:=[some (.ref 9 b),some (.int c),some (.int e),some (.ref 9 t2),z4,none]) R4 (X4.2 _ _ _ g2) t2r hML (by omega) (bq rfl) (by show 4<6;decide) (fun H' i x F hx=>by
     refine⟨{x with us:=true},rfl,?_⟩;repeat left)
    obtain⟨H'',s'',ρ',e',R'',S'',F''⟩:=ih (j+1) N e (some (.int e)) (some (.ref 9 t2)) z H5 s5 (Q8 ‹_›) (aL ‹_›) R5 (S.trans S5) (((F.trans X2.fm).trans X4.fm).trans F5);refine⟨H'',s'',ρ',?_,R'',S'',F''⟩;apply dO
    ·exact it0
    ·exact rfl
    repeat left
    ·exact sl rfl rfl rfl
    apply JL
    ·exact cnd
    repeat left
    apply eI e5;repeat left
    try exact e'
 obtain⟨H2,s2,ρ',e2,R2,S2,F2⟩:=key ys.length 0 2000 0 none none none H1 s (Nat.zero_add _) (aJ ‹_› (by decide)) (R.lx X1) (Su.refl _) (Fm.refl _ _);refine⟨H2,s2,?_,R2,S2,X1.fm.trans F2⟩;apply eJ rfl rfl;left
 ·left
 apply iz
 ·apply vP
  ·repeat left
  ·exact g1
 exact e2
noncomputable def Inf.row7(x:Inf):V:=.tup [.int x.g,.int x.c,.int x.xa,.int 0,.int x.xo,.int x.yo,.bool x.us]
theorem wt(E:EnvD D H)(R:Rw b rr H L s n):eD [.ref 9 b] 9 H=some (.ref 9 (H.sz 9),H.ins 9 (.list (s.map Inf.row7))):=by
 have hb:=R.buf;have hr:=R.row;have hn:=R.few;have hLn:=R.len;apply bQ rfl rfl;left;apply gF
 ·apply vP
  ·repeat left
  ·exact hr
 refine fV (z:=none) (ρ:=[some (.ref 9 b),none,none]) (fun j=>aE hr j) E.nine (by rw[ao];omega) (by rw[ao,ao];exact Eq.symm ‹_›) ?_;intro j y z hy hz;rw[aB]at hy hz;induction hL:L[j]? with
 |none=>rw[hL]at hy;exact Rk hy
 |some i=>
  rw[hL]at hy;(refine QU hy ?_;clear hy;rintro rfl);obtain⟨x,hx,hg⟩:=R.at' hL;rw[hx]at hz;(refine QU hz ?_;clear hz;rintro rfl);have told:je [.ref 9 i] 9 H=some (.tup [.int x.g,.int x.c,.int x.xa,.int 0,.int x.xo,.int x.yo],H):=by
   apply bQ rfl rfl;repeat left
  repeat left
end
variable{b:List Inf}
theorem LI{e a lo hi:Ev}{w:Nat}{ls ms:List V}{l:List St}{u:Fl×bJ×Hp}(h0:e ρ q H=some (.ref r' i',H))(h1:a ρ q H=some (.ref r i,H))(h2:lo ρ q H=some (.int p,H))(h3:hi ρ q H=some (.int w,H)) (g1:H.get r i=some (.list ls)) (g2:H.get r' i'=some (.list ms)) (hc:p≤w∧w≤ls.length∧i≠i'∧ls.length+ms.length≤9000) (h4:aC l ρ q (H.put r i (.list (ls.take p++ms++ls.drop w)))=some u):aC (am okf (.sl a (some lo) (some hi)) e::l) ρ q H=some u:=by
 refine eI (ρ1:=ρ) (H1:=H.put r i (.list (ls.take p++ms++ls.drop w))) ?_ h4;unfold am;rw[h0];simp only[rO,h1,nJ,h2,h3,g1,g2];rw[ac (by refine⟨by exact Int.natCast_nonneg _,by omega,by omega,.inr hc.2.2.1,hc.2.2.2⟩)];simp only[Int.toNat_natCast]
section
variable{b:Nat}
def Pf:List (Nat×Ev):=[(3,ae (aa 0) 3),(4,ae (aa 0) 4),(5,ae (aa 0) 5),(6,ae (aa 0) 6),(7,ae (aa 0) 7),(8,ae (aa 0) 8),(9,ae (aa 0) 9),(10,ae (aa 0) 10),(11,ae (aa 0) 11),(12,ae (aa 0) 12),(13,ae (aa 0) 13),(14,ae (aa 0) 14),(15,ae (aa 0) 15)]
theorem Iz(hq:9<H.length)(hx:H.get 9 i=some x.o):f9 [.ref 9 i] 9 H=some (.ref 9 (H.sz 9),H.ins 9 x.o):=by
 have hi:H.sz 9≠i:=by have:=Hp.lt_sz hx;exact Nat.ne_of_gt ‹_›
 let o1:List (Nat×V):=[(0,.int x.cd),(1,.int x.g),(2,.int x.c),(3,.int 0),(4,.bool false),(5,.int 0),(6,.int 0),(7,.int 0),(8,.int 0),(9,.str []),(10,.int 0),(11,.int 0),(12,.int 0),(13,.int 0),(14,.int 0),(15,.str [])];have g1:(H.ins 9 (.inst 52 o1)).get 9 (H.sz 9)=some (.inst 52 o1):=Hp.get_ins_self hq;have run:=nK (k:=1) (ρ:=[some (.ref 9 i),some (.ref 9 (H.sz 9)),none]) (q:=9) (r:=9) (i:=H.sz 9) (C:=52) (H:=H.ins 9 (.inst 52 o1)) rfl g1 (P:=fun H'=>H'.get 9 i=some x.o) (fun l=>jd hi (Hp.get_ins hx))
  (fs:=Pf)
  (vs:=[.int x.ma,.bool x.us,.int 0,.int x.pt,.int 0,.int x.sp,.str [],.int x.xa,.int 0,.int x.xo,.int x.yo,.int x.pr,.str x.bd]) (l:=o1) rfl (bv rfl)
  (by
   have e:∀{f:Nat} {v:V},Ae [(0,V.int x.cd),(1,.int x.g),(2,.int x.c),(3,.int x.ma),(4,.bool x.us),(5,.int 0),(6,.int x.pt),(7,.int 0),(8,.int x.sp),(9,.str []),(10,.int x.xa),(11,.int 0),(12,.int x.xo),(13,.int x.yo),(14,.int x.pr),(15,.str x.bd)] f=some v→∀H',H'.get 9 i=some x.o→ae (aa 0) f [some (.ref 9 i),some (.ref 9 (H.sz 9)),none] 9 H'=some (v,H'):=fun h H' hH=>qV (bq rfl) hH h;exact⟨e rfl,e rfl,e rfl,e rfl,e rfl,e rfl,e rfl,e rfl,e rfl,e rfl,e rfl,e rfl,e rfl,trivial⟩)
 rw[Hp.put_ins hq,Hp.put_ins hq]at run;have ki:=IB (a:=.int x.cd) (c:=.int x.g) (d:=.int x.c) hq;apply bQ rfl rfl;show aC (am okf (.nm (.nm 1)) (aj nM [(ae (aa 0) 0),(ae (aa 0) 1),(ae (aa 0) 2)])::(lP 1 Pf++[aF (aa 1)])) _ _ _=_;repeat left
 rw[fJ];have run':aC (lP 1 Pf) (((List.replicate 3 none).set 0 (some (V.ref 9 i))).set 1 (some (V.ref 9 (H.sz 9)))) 9 (H.ins 9 (.inst 52 o1))=_:=run;refine Eq.trans (congrArg (fun z=>match z with|some (Fl.next,ρ,H)=>aC [aF (aa 1)] ρ 9 H|r=>r) run') ?_;exact BP (bq rfl)
structure Cp(H4:Hp)(t:Nat)(x:Inf)(ps:List Int)(Hj:Hp)(N:List Nat):Prop where
 len:Hj.length=H4.length
 ext:∀(r i:Nat) (o:O),H4.get r i=some o→¬(r=9∧i=t)→Hj.get r i=some o
 found:Hj.get 9 t=some (.list (N.map (V.ref 9)))
 inf:∀(m a:Nat) (p:Int),N[m]?=some a→ps[m]?=some p→Hj.get 9 a=some ({x with g:=p}:Inf).o
 fresh:∀a∈N,H4.get 9 a=none
 nd:N.Nodup
theorem JO(a:V):ky [a,.int k,.int ((k:Int)+1)] q H=some (.none,H):=by
 apply bQ rfl rfl;repeat left
theorem Hq{t:Nat}{H4:Hp}{z0 z1 z2 z3:V}(hq:9<H4.length)(hx:H4.get 9 i=some x.o)(ht:H4.get 9 t=some (.list []))(hps:ps.length≤500):∃H' N y5 y7,bG (bn (aa 3)) (.nm 7) zO [some z0,some z1,some z2,some (.tup (ps.map .int)),some (.ref 9 i),none,some (.ref 9 t),none,none,none] 9 H4=some (.next,[some z0,some z1,some z2,some (.tup (ps.map .int)),some (.ref 9 i),y5,some (.ref 9 t),y7,none,none],H')∧Cp H4 t x ps H' N∧N.length=ps.length:=by
 have hit:i≠t:=by rintro rfl;rw[ht]at hx;(refine QU hx ?_;clear hx;intro e;cases e)
 have key:∀(m j K:Nat) (y5 y7:Option V) (H':Hp) (N:List Nat),j+m=ps.length→m<K→N.length=j→Cp H4 t x ps H' N→
   ∃H'' N' y5' y7',aC [di (.nm 7) (.fixed (ps.map .int)) zO K j] [some z0,some z1,some z2,some (.tup (ps.map .int)),some (.ref 9 i),y5,some (.ref 9 t),y7,none,none] 9 H'=some (.next,[some z0,some z1,some z2,some (.tup (ps.map .int)),some (.ref 9 i),y5',some (.ref 9 t),y7',none,none],H'')∧Cp H4 t x ps H'' N'∧N'.length=ps.length:=by
  intro m;induction m with
  |zero=>
   intro j K y5 y7 H' N hj hK hN C;obtain⟨K,rfl⟩:=oQ K ‹_›;exact⟨H',N,y5,y7,iQ (by show some _=_;rw[gB.mpr (by rw[ao];exact Ru ‹_›)]) kW,C,by omega⟩
  |succ m ih=>
   intro j K y5 y7 H' N hj hK hN C;obtain⟨K,rfl⟩:=oQ K ‹_›;obtain⟨p,hp⟩:∃p,ps[j]?=some p:=⟨_,ay (RA ‹_›)⟩;have hq':9<H'.length:=by rw[C.len];exact hq
   have hx':=C.ext _ _ _ hx (by intro zq;obtain⟨_,h⟩:=zq;exact hit h);have ec:=Iz hq' hx';let a:=H'.sz 9;let H1:=H'.ins 9 x.o;let H2:=H'.ins 9 ({x with g:=p}:Inf).o;have ga:H1.get 9 a=some x.o:=Hp.get_ins_self hq';have e2:H1.put 9 a ({x with g:=p}:Inf).o=H2:=Hp.put_ins hq';have gt2:H2.get 9 t=some (.list (N.map (V.ref 9))):=Hp.get_ins C.found;have ga2:H2.get 9 a=some ({x with g:=p}:Inf).o:=Hp.get_ins_self hq';have hta:t≠a:=by have:=Hp.lt_sz C.found;simp only[a];exact bf ‹_›
   let H3:=H2.put 9 t (.list ((N++[a]).map (V.ref 9)));have C3:Cp H4 t x ps H3 (N++[a]):=by
    refine⟨by rw[Hp.len_put,Hp.len_ins];exact C.len,fun r i' o ho hne=>?_,Hp.get_put_self gt2,fun m' a' p' h1 h2=>?_,fun a' ha'=>?_,?_⟩
    ·show(H2.put 9 t _).get r i'=_;rw[Hp.get_put_ne (by intro zq;obtain⟨h1,h2⟩:=zq;exact hne ⟨h1.symm,h2.symm⟩)];exact Hp.get_ins (C.ext _ _ _ ho hne)
    ·have hne:t≠a':=by
      rintro rfl;have:=C.fresh;rcases NH.mp (aP h1)with h|h
      ·have:=C.fresh _ h;rw[ht]at this;exact QL this
      ·exact hta (Oc.mp h)
     refine jd hne ?_;by_cases hm:m'<N.length
     ·rw[cD hm]at h1;exact Hp.get_ins (C.inf m' a' p' h1 h2)
     ·have hm2:m'=N.length:=by
       have:=(Ok.mp h1).1;rw[bx]at this;simp only[List.length_cons,List.length_nil]at this;omega
      subst hm2;rw[bB (aS _),Nat.sub_self]at h1
      (refine QU h1 ?_;clear h1;rintro rfl)
      rw[hN,hp]at h2;induction h2 using QT;exact ga2
    ·rcases NH.mp ha' with h|h
     ·exact C.fresh _ h
     ·rw[Oc.mp h];induction hh:H4.get 9 a with
      |none=>rfl
      |some o=>
       have h1:=C.ext _ _ _ hh (by intro zq;obtain⟨_,h⟩:=zq;exact hta h.symm);have:=Hp.lt_sz h1;simp only[a]at this;exact absurd ‹_› (Nat.lt_irrefl _)
    ·rw[List.nodup_append];refine⟨C.nd,List.nodup_cons.mpr ⟨List.not_mem_nil,List.nodup_nil⟩,?_⟩;intro u hu w hw;rw[Oc.mp hw];rintro rfl;obtain⟨m',hm'⟩:=List.getElem?_of_mem hu;have hlt:=(Ok.mp hm').1;obtain⟨p',hp'⟩:∃p,ps[m']?=some p:=⟨_,ay (by omega)⟩;have:=Hp.lt_sz (C.inf m' _ p' hm' hp');simp only[a]at this;exact absurd ‹_› (Nat.lt_irrefl _)
   obtain⟨H'',N',y5',y7',e3,C',hl'⟩:=ih (j+1) K (some (.ref 9 a)) (some (.int p)) H3 (N++[a]) (Q8 ‹_›) (aL ‹_›) (by simp[hN]) C3;refine⟨H'',N',y5',y7',?_,C',hl'⟩;apply dO (v:=.int p)
   ·show some _=_;rw[aB,hp];rfl
   ·exact rfl
   repeat left
   ·apply mv
    ·left
    ·left
    ·show(H1.put 9 a ({x with g:=p}:Inf).o).get 9 t=_;rw[e2];exact gt2
    ·rw[ao];omega
   repeat left
   show aC _ _ 9 ((H1.put 9 a ({x with g:=p}:Inf).o).put 9 t (.list (N.map (V.ref 9)++[V.ref 9 a])))=_;rw[e2,show N.map (V.ref 9)++[V.ref 9 a]=(N++[a]).map (V.ref 9)by rw[List.map_append];rfl];exact e3
 have C0:Cp H4 t x ps H4 []:=⟨rfl,fun _ _ _ h _=>h,ht,fun m a p h=>(nomatch h),fun a h=>(nomatch h),List.nodup_nil⟩;obtain⟨H'',N',y5',y7',e3,C',hl'⟩:=key ps.length 0 2000 none none H4 [] (Nat.zero_add _) (aJ ‹_› (by decide)) rfl C0;refine⟨H'',N',y5',y7',?_,C',hl'⟩;have e4:aC [bG (bn (aa 3)) (.nm 7) zO] [some z0,some z1,some z2,some (.tup (ps.map .int)),some (.ref 9 i),none,some (.ref 9 t),none,none,none] 9 H4=some (.next,[some z0,some z1,some z2,some (.tup (ps.map .int)),some (.ref 9 i),y5',some (.ref 9 t),y7',none,none],H''):=
  iz (PD (bq rfl)) e3
 exact(lH ..).symm.trans e4
end
variable{b:List Inf}
section
variable{b:Nat}
theorem NU{a:V}(h1:H.get r i=some (.list (a::l)))(h2:H.get r' i'=some (.list [])):bO .eq (.ref r i) (.ref r' i') H=some false:=by
 show(match H.get r i,H.get r' i' with|some (.list a),some (.list b)=>if a.length=b.length then gU Ac a b else some false|_,_=>.none)=_;rw[h1,h2];rfl
theorem ue{α:Type}{l:List α}{a:α}(h:(l.take k)[j]?=some a):j<k∧l[j]?=some a:=by
 rw[List.getElem?_take]at h
 (refine PV h ?_;clear h;intro _ h)
 exact⟨by assumption,h⟩
theorem MP(E:EnvD D H)(R:Rw b rr H L s n)(hx:s[k]?=some x)(hus:x.us=false)(hps:1≤ps.length)(hfew:s.length+ps.length≤500):∃H' N,vH [.ref 9 b,.int k,.int 1,.tup (ps.map .int)] 9 H=some (.none,H')∧N.length=ps.length∧Rw b rr H' (L.take k++N++L.drop (k+1)) (s.take k++ps.map (fun p=>{x with g:=p})++s.drop (k+1)) n∧Fm rr H H':=by
 have hq:=E.nine;have hb:=R.buf;have hr:=R.row;have hl:=R.ln;have hL:=R.len;have hks:=(Ok.mp hx).1;obtain⟨i,a1,a2,a3⟩:=R.at hx;obtain⟨p0,ps',rfl⟩:∃p0 ps',ps=p0::ps':=by induction ps using jL with|nil=>simp at hps|cons a l=>exact⟨a,l,rfl⟩
 let H1:=H.ins 9 (.list [.ref 9 i]);let H2:=H1.ins 9 (.list []);let H3:=H2.ins 9 (.list []);let H4:=H3.ins 9 (.list []);have q1:9<H1.length:=by rw[Hp.len_ins];exact hq
 have q2:9<H2.length:=by rw[Hp.len_ins];exact q1
 have q3:9<H3.length:=by rw[Hp.len_ins];exact q2
 have q4:9<H4.length:=by rw[Hp.len_ins];exact q3
 have X3:Lx H H3:=(Lx.ins.trans Lx.ins).trans Lx.ins;have X4:Lx H H4:=X3.trans Lx.ins;have g1:H1.get 9 (H.sz 9)=some (.list [.ref 9 i]):=Hp.get_ins_self hq;have g2:H2.get 9 (H1.sz 9)=some (.list []):=Hp.get_ins_self q1;have g3:H3.get 9 (H2.sz 9)=some (.list []):=Hp.get_ins_self q2;have gt:H4.get 9 (H3.sz 9)=some (.list []):=Hp.get_ins_self q3;have tr:H3.sz 9≠rr:=by have:=Hp.lt_sz (X3.2 _ _ _ R.row);exact Nat.ne_of_gt ‹_›
 have tb:H3.sz 9≠b:=by have:=Hp.lt_sz (X3.2 _ _ _ R.buf);exact Nat.ne_of_gt ‹_›
 have x3:=X3.2 _ _ _ a3;have x4:=X4.2 _ _ _ a3;have mg:=JO (q:=9) (H:=H) (k:=k) (.ref 9 b);have sl:bV (ae (aa 0) 16) (some (aa 1)) (some (aI .add (aa 1) (aa 2))) [some (.ref 9 b),some (.int k),some (.int 1),some (.tup ((p0::ps').map .int)),some (.ref 9 i),none,none,none,none,none] 9 H=some (.ref 9 (H.sz 9),H1):=by
  have e1:(((L.map (V.ref 9)).take (k+1)).drop k)=[.ref 9 i]:=by
   obtain⟨hk,e⟩:=Ok.mp a2;rw[List.take_succ_eq_append_getElem hk,List.drop_append_of_le_length (by rw[bh];omega),e];rw[List.drop_eq_nil_of_le (by rw[bh];omega)];rfl
  have:=DD (a:=ae (aa 0) 16) (lo:=aa 1) (hi:=aI .add (aa 1) (aa 2)) (ρ:=[some (.ref 9 b),some (.int k),some (.int 1),some (.tup ((p0::ps').map .int)),some (.ref 9 i),none,none,none,none,none]) (q:=9) (H:=H) (p:=k) (e:=k+1)
   (qV (bq rfl) hb rfl) (bq rfl) (v6 (bq rfl) (bq rfl) rfl) hr (Nat.le_succ _) (by rw[hl];exact Nat.succ_le_of_lt ‹_›) (by rw[hl];omega) hq
  rw[e1]at this;exact this
 have cp:bo 2 (bn (bV (ae (aa 0) 16) (some (aa 1)) (some (aI .add (aa 1) (aa 2))))) (.nm 11) [(aV (ae (aa 11) 4))] Hf [some (.ref 9 b),some (.int k),some (.int 1),some (.tup ((p0::ps').map .int)),some (.ref 9 i),none,none,none,none,none] 9 H=some (.ref 9 (H1.sz 9),H2):=by
  have x1:H1.get 9 i=some x.o:=Hp.get_ins a3;have hu:dY (.bool x.us)=some false:=by rw[hus];rfl
  apply gF
  ·exact vP sl g1
  apply K6
  ·exact aE g1 0
  ·exact rfl
  ·apply DQ
   ·exact GC (qV (bq rfl) x1 rfl) hu
   ·left;left
  ·exact rn (aE g1 1) q1 (by decide)
 have ne:bO .ne (.ref 9 (H1.sz 9)) (.ref 9 (H2.sz 9)) H3=some false:=KT (Hp.get_ins g2) g3;have pid:H3.put 9 i x.o=H3:=Hp.put_id x3;have qid:x.o=({x with us:=false}:Inf).o:=by rw[←hus]
 obtain⟨H5,N,y5,y7,e5,C,hN⟩:=Hq (z0:=.ref 9 b) (z1:=.int k) (z2:=.int 1) (z3:=.tup ((p0::ps').map .int)) (ps:=p0::ps') q4 x4 gt (by omega);have q5:9<H5.length:=by rw[C.len];exact q4
 let H6:=H5.ins 9 (.list []);have g6:H6.get 9 (H5.sz 9)=some (.list []):=Hp.get_ins_self q5;have f6:H6.get 9 (H3.sz 9)=some (.list (N.map (V.ref 9))):=Hp.get_ins C.found;obtain⟨n0,N',hN'⟩:∃n0 N',N=n0::N':=by induction N using jL with|nil=>simp at hN|cons a l=>exact⟨a,l,rfl⟩
 have eq0:bO .eq (.ref 9 (H3.sz 9)) (.ref 9 (H5.sz 9)) H6=some false:=NU (a:=.ref 9 n0) (l:=N'.map (V.ref 9)) (by rw[f6,hN'];rfl) g6;have ext6:∀(r i:Nat) (o:O),H.get r i=some o→H6.get r i=some o:=fun r i o h=>Hp.get_ins (C.ext _ _ _ (X4.2 _ _ _ h) (by
  intro zq;obtain⟨rfl,rfl⟩:=zq;have:=Hp.lt_sz (X3.2 _ _ _ h);exact absurd ‹_› (Nat.lt_irrefl _)))
 have b6:=ext6 _ _ _ hb;have r6:=ext6 _ _ _ hr;let H7:=H6.put 9 rr (.list ((L.map (V.ref 9)).take k++N.map (V.ref 9)++(L.map (V.ref 9)).drop (k+1)));have hrb:rr≠b:=by rintro rfl;rw[hb]at hr;(refine QU hr ?_;clear hr;intro e;cases e)
 have nrr:∀{a:Nat} {x:Inf},H6.get 9 a=some x.o→rr≠a:=by rintro a x h rfl;rw[r6]at h;(refine QU h ?_;clear h;intro e;cases e)
 have ef:H4.length=H.length:=X4.1;refine⟨H7,N,?_,hN,⟨jd hrb b6,?_,?_,?_,?_,?_⟩,⟨by rw[Hp.len_put,Hp.len_ins,C.len,ef],fun r i o h h1 h2=>?_⟩⟩
 ·apply eJ rfl rfl;left
  ·repeat left
  left
  ·repeat left
  apply kj
  ·left;apply vo
   ·exact cp
   ·exact kT da q2 (by decide)
   ·exact ne
  ·left
  ·exact x3
  ·exact rfl
  show aC _ _ 9 (H3.put 9 i ({x with us:=false}:Inf).o)=_;rw[←qid,pid];left
  ·exact kT da q3 (by decide)
  apply eI e5;apply JL
  ·apply vo
   ·left
   ·exact kT da q5 (by decide)
   ·exact eq0
  left;left;apply LI (w:=k+1)
  ·left
  ·apply qV
   ·left
   ·exact b6
   ·left
  ·left
  ·exact v6 (bq rfl) (bq rfl) rfl
  ·exact r6
  ·exact f6
  ·refine⟨by exact Nat.le_succ _,by rw[hl];exact Nat.succ_le_of_lt ‹_›,fun h=>tr h.symm,?_⟩;rw[hl,ao,hN];exact aO ‹_› (by decide)
  repeat left
 ·show H7.get 9 rr=_;rw[Hp.get_put_self r6];simp only[List.map_append,List.map_take,List.map_drop]
 ·simp only[bx,bh,ck,ao,hN,hL]
 ·intro j a z h1 h2;have lk:(L.take k).length=k:=by rw[bh];omega
  have sk:(s.take k).length=k:=by rw[bh];exact Nat.min_eq_left (Nat.le_of_lt ‹_›)
  by_cases c1:j<k
  ·rw[bH,cD (Nat.lt_of_lt_of_eq ‹_› (Eq.symm ‹_›))]at h1 h2;have:=ext6 _ _ _ (R.inf j a z (ue h1).2 (ue h2).2);exact jd (nrr this) this
  ·by_cases c2:j<k+(p0::ps').length
   ·rw[bH,bB (by omega),cD (by omega),lk]at h1;rw[bH,bB (by omega),cD (by rw[ao];omega),sk,aB]at h2;induction hp:(p0::ps')[j-k]? with
    |none=>rw[hp]at h2;exact Rk h2
    |some p=>
     rw[hp]at h2;(refine QU h2 ?_;clear h2;rintro rfl);have:=Hp.get_ins (q:=9) (o:=.list []) (C.inf _ _ p h1 hp);exact jd (nrr this) this
   ·have e1:(L.take k++N).length=k+(p0::ps').length:=by rw[bx,lk,hN]
    have e2:(s.take k++(p0::ps').map (fun p=>({x with g:=p}:Inf))).length=k+(p0::ps').length:=by rw[bx,sk,ao]
    rw[bB (by omega),e1,List.getElem?_drop]at h1;rw[bB (by omega),e2,List.getElem?_drop]at h2;have:=ext6 _ _ _ (R.inf _ a z h1 h2);exact jd (nrr this) this
 ·have fr:∀a∈N,∀c∈L,a≠c:=by
   rintro a ha c hc rfl;obtain⟨m,hm⟩:=List.getElem?_of_mem hc;obtain⟨z,_,hz⟩:=R.at' hm;have:=C.fresh a ha;rw[X4.2 _ _ _ hz]at this;exact QL this
  rw[bH,List.nodup_append];refine⟨R.nd.sublist (List.take_sublist _ _),?_,?_⟩
  ·rw[List.nodup_append];refine⟨C.nd,R.nd.sublist (List.drop_sublist _ _),fun a ha c hc=>fr a ha c (List.mem_of_mem_drop hc)⟩
  ·intro a ha c hc;rcases NH.mp hc with h|h
   ·exact fun e=>fr c h a (List.mem_of_mem_take ha) e.symm
   ·rintro rfl;obtain⟨Ro,h1⟩:=List.getElem?_of_mem ha;obtain⟨Ri,h2⟩:=List.getElem?_of_mem h;rw[List.getElem?_drop]at h2;have h1:=ue h1;have:=mm R.nd h1.2 h2;omega
 ·simp only[bx,bh,ck,ao];omega
 ·refine zt ?_ (ext6 _ _ _ h);intro zq;obtain⟨rfl,rfl⟩:=zq;exact h2 ⟨rfl,rfl⟩
end
variable{b:List Inf}
structure Mp(d:List (V×V))(pc:Int→Option (List Int)):Prop where
 kind:∀g:Int,aW (.int g) d=true
 get:∀g:Int,dG d (.int g)=(pc g).map fun ps=>.tup (ps.map .int)
 ok:∀(g:Int) (ps:List Int),pc g=some ps→1≤ps.length∧ps.length≤3∧∀p∈ps,4≤p∧p≤9
noncomputable def bb(pc:Int→Option (List Int))(x:Inf)(n:Int):List Inf×Int:=match pc x.g with
 |.none=>([x],n)
 |some ps=>if ps.length=1 then(ps.map fun p=>{x with g:=p},n)else(ps.mapIdx fun j p=>{x with g:=p,sp:=n+1,pt:=j},n+1)
noncomputable def b0(pc:Int→Option (List Int)):List Inf→Int→List Inf×Int
 |[],n=>([],n)
 |x::l,n=>let r:=bb pc x n;let t:=b0 pc l r.2;(r.1++t.1,t.2)
section
variable{b sc st:Nat}{lks:V}
theorem yP(R:Rw b rr H L s n):cN [.ref 9 b] 9 H=some (.int (n+1),H.put 9 b (FE rr (n+1)))∧Rw b rr (H.put 9 b (FE rr (n+1))) L s (n+1)∧Fm rr H (H.put 9 b (FE rr (n+1))):=by
 have hb:=R.buf;have hbr:b≠rr:=by rintro rfl;have:=R.row;rw[hb]at this;(refine QU this ?_;clear this;intro e;cases e)
 refine⟨?_,⟨Hp.get_put_self hb,jd hbr R.row,R.len,fun k i x h1 h2=>jd ?_ (R.inf k i x h1 h2),R.nd,R.few⟩,Hp.len_put,fun r i o h h1 h2=>zt ?_ h⟩
 ·apply bQ rfl rfl;repeat left
 ·rintro rfl;have:=R.inf _ _ _ h1 h2;rw[hb]at this;(refine QU this ?_;clear this;intro e;cases e)
 ·intro zq;obtain⟨rfl,rfl⟩:=zq;rw[hb]at h;induction h using QT;cases h1
theorem KD{A Z:List Inf}{z0 z1 z3:V}(E:EnvD D H)(R:Rw b rr H L (A++ps.map (fun p=>{x with g:=p})++Z) n)(S:H.get 9 sc=some (At b 0 li lks st))(scr:sc≠rr)(hA:A.length=k)(m:Int):∃H' y7 y8,bG (bk [(cK .len [(aa 4)])]) (.nm 7) dE [some (.ref 9 sc),some z1,some (.int k),some z3,some (.tup (ps.map .int)),some (.bool false),some (.int m),none,none,none,none,none] 9 H=some (.next,[some (.ref 9 sc),some z1,some (.int k),some z3,some (.tup (ps.map .int)),some (.bool false),some (.int m),y7,y8,none,none,none],H')∧Rw b rr H' L (A++ps.mapIdx (fun j p=>{x with g:=p,sp:=m,pt:=j})++Z) n∧Fm rr H H':=by
 have hn:=R.few;have hpl:ps.length≤500:=by rw[bx,bx,ao]at hn;omega
 let ys:List Inf:=ps.mapIdx (fun j p=>{x with g:=p,sp:=m,pt:=j});let xs:List Inf:=ps.map (fun p=>{x with g:=p});have ysl:ys.length=ps.length:=ca;have xsl:xs.length=ps.length:=ao _;have key:∀(w j K:Nat) (y7 y8:Option V) (H':Hp),j+w=ps.length→w<K→Rw b rr H' L (A++(ys.take j++xs.drop j)++Z) n→Fm rr H H'→
   ∃H'' y7' y8',aC [di (.nm 7) (.fixed (bw 0 ps.length)) dE K j] [some (.ref 9 sc),some z1,some (.int k),some z3,some (.tup (ps.map .int)),some (.bool false),some (.int m),y7,y8,none,none,none] 9 H'=some (.next,[some (.ref 9 sc),some z1,some (.int k),some z3,some (.tup (ps.map .int)),some (.bool false),some (.int m),y7',y8',none,none,none],H'')∧Rw b rr H'' L (A++ys++Z) n∧Fm rr H H'':=by
  intro w;induction w with
  |zero=>
   intro j K y7 y8 H' hj hK R' F;obtain⟨K,rfl⟩:=oQ K ‹_›;rw[List.take_of_length_le (Rn ‹_› ‹_›),List.drop_eq_nil_of_le (Rn ‹_› ‹_›),List.append_nil]at R';exact⟨H',y7,y8,iQ (by show some _=_;rw[gB.mpr (by rw[aR];exact Ru ‹_›)]) kW,R',F⟩
  |succ w ih=>
   intro j K y7 y8 H' hj hK R' F;obtain⟨K,rfl⟩:=oQ K ‹_›;obtain⟨p,hp⟩:∃p,ps[j]?=some p:=⟨_,ay (RA ‹_›)⟩;have hxs:xs[j]?=some {x with g:=p}:=by simp only[xs,aB,hp,Option.map_some]
   have hys:ys[j]?=some {x with g:=p,sp:=m,pt:=j}:=by simp only[ys,List.getElem?_mapIdx,hp,Option.map_some]
   have tl:(ys.take j).length=j:=by rw[bh];omega
   have hx:(A++(ys.take j++xs.drop j)++Z)[k+j]?=some {x with g:=p}:=by
    rw[bH,bB (by omega),hA,bH,bB (by omega),tl,cD (by rw[ck];omega),List.getElem?_drop];rw[show j+(k+j-k-j)=j by omega];exact hxs
   have hb:=R'.buf;have hr:=R'.row;have E':=E.fm F;have S':=F.2 _ _ _ S rfl (by intro zq;obtain⟨_,h⟩:=zq;exact scr h);obtain⟨i,a1,a2,a3⟩:=R'.at hx;dsimp only[Inf.o]at a3;have ix:idx (.ref 9 rr) (.int ((k:Int)+(j:Int))) H'=some (.ref 9 i):=oz (k:=k+j) hr a2;have P:=R'.put (y:={x with g:=p,sp:=m,pt:=j}) a1 hx;have es:(A++(ys.take j++xs.drop j)++Z).set (k+j) {x with g:=p,sp:=m,pt:=j}=A++(ys.take (j+1)++xs.drop (j+1))++Z:=by
    rw[bH,List.set_append_right _ _ (by omega),hA,bH,List.set_append_right _ _ (by omega),tl,show k+j-k-j=0 by omega];have hjx:j<xs.length:=by exact Rl ‹_› ‹_›
    have hjy:j<ys.length:=by exact Rl ‹_› ‹_›
    rw[List.drop_eq_getElem_cons hjx,List.cons_append,List.set_cons_zero,List.take_succ_eq_append_getElem hjy];have:ys[j]={x with g:=p,sp:=m,pt:=j}:=by rw[ay hjy]at hys;exact av hys
    rw[this];simp only[bH,List.cons_append,List.nil_append]
   rw[es]at P;obtain⟨H'',y7',y8',e3,R'',F''⟩:=ih (j+1) K (some (.int j)) (some (.ref 9 i)) _ (Q8 ‹_›) (aL ‹_›) P.1 (F.trans P.2);refine⟨H'',y7',y8',?_,R'',F''⟩;apply dO (v:=.int j)
   ·show some _=_;rw[cv (RA ‹_›)];congr 3;exact Int.zero_add _
   ·exact rfl
   repeat left
   try exact e3
 obtain⟨H'',y7',y8',e3,R'',F''⟩:=key ps.length 0 2000 none none H (Nat.zero_add _) (aJ ‹_› (by decide)) (by simpa[xs,ys]using R) (Fm.refl _ _);refine⟨H'',y7',y8',?_,R'',F''⟩;have e4:aC [bG (bk [(cK .len [(aa 4)])]) (.nm 7) dE] [some (.ref 9 sc),some z1,some (.int k),some z3,some (.tup (ps.map .int)),some (.bool false),some (.int m),none,none,none,none,none] 9 H=some (.next,[some (.ref 9 sc),some z1,some (.int k),some z3,some (.tup (ps.map .int)),some (.bool false),some (.int m),y7',y8',none,none,none],H''):=by
  apply iz
  ·apply qE (m:=ps.length)
   ·left
    ·repeat left
    ·show(if(ps.map V.int).length≤9000 then some (V.int (ps.map V.int).length,H)else .none)=_;rw[ac (by rw[ao];exact aO ‹_› (by decide)),ao]
   ·exact aJ ‹_› (by decide)
  ·exact e3
 exact(lH ..).symm.trans e4
theorem qg{tb md:Nat}(E:EnvD D H)(R:Rw b rr H L s n)(S:H.get 9 sc=some (At b 0 li lks st))(scr:sc≠rr)(ht:H.get 0 tb=some (.inst 884 [(35,au md)]))(hd:H.get 0 md=some (.dict d))(M:Mp d pc)(hx:s[k]?=some x)(hus:x.us=false)(hfew:s.length+3≤500):∃H' L' v,cS [.ref 9 sc,au tb,.int k] 9 H=some (.int v,H')∧((v = -1∧(bb pc x n).1.length=1)∨v=(k:Int)+(bb pc x n).1.length)∧Rw b rr H' L' (s.take k++(bb pc x n).1++s.drop (k+1)) (bb pc x n).2∧Fm rr H H':=by
 have hq:=E.nine;have hb:=R.buf;have hr:=R.row;have hks:=(Ok.mp hx).1;obtain⟨i,a1,a2,a3⟩:=R.at hx;have kk:(cg (.int x.g)&&aW (.int x.g) d)=true:=by rw[M.kind];rfl
 have gg:=M.get x.g;have cut:s.take k++[x]++s.drop (k+1)=s:=by
  obtain⟨hk,e⟩:=Ok.mp hx;rw[←e,bH,List.singleton_append,←List.drop_eq_getElem_cons hk,List.take_append_drop]
 induction hp:pc x.g with
 |none=>
  have es:bb pc x n=([x],n):=by unfold bb;rw[hp]
  rw[hp]at gg;have ni:bO .notin (.int x.g) (au md) H=some true:=GP hd kk (by rw[gg];rfl);refine⟨H,L, -1,?_,.inl ⟨rfl,by rw[es];rfl⟩,by rw[es];dsimp only;rw[cut];exact R,Fm.refl _ _⟩;apply bQ rfl rfl;repeat left
 |some ps=>
  obtain⟨o1,o2,o3⟩:=M.ok _ _ hp;rw[hp]at gg;have ni:bO .notin (.int x.g) (au md) H=some false:=GP hd kk (by rw[gg];rfl);have ix:idx (au md) (.int x.g) H=some (.tup (ps.map .int)):=Jp hd kk gg;have ln:∀H,bi .len [.tup (ps.map .int)] 9 H=some (.int (ps.length:Int),H):=by
   intro H;show(if(ps.map V.int).length≤9000 then some (V.int (ps.map V.int).length,H)else .none)=_;rw[ac (by rw[ao];exact aO ‹_› (by decide)),ao]
  by_cases h1:ps.length=1
  ·obtain⟨p,rfl⟩:∃p,ps=[p]:=by
    match ps,h1 with
    |[p],_=>exact⟨p,rfl⟩
   have es:bb pc x n=([{x with g:=p}],n):=by unfold bb;rw[hp];rfl
   have P:=R.put (y:={x with g:=p}) a1 hx;have cut2:s.take k++[({x with g:=p}:Inf)]++s.drop (k+1)=s.set k {x with g:=p}:=by
    rw[List.set_eq_take_append_cons_drop,ac hks,bH];rfl
   have l1:=ln H;have i0:idx (.tup ([p].map .int)) (.int 0) H=some (.int p):=rfl;refine⟨_,L,(k:Int)+1,?_,.inr (by rw[es];rfl),by rw[es];dsimp only;rw[cut2];exact P.1,P.2⟩;apply bQ rfl rfl;repeat left
  ·have es:bb pc x n=(ps.mapIdx fun j p=>{x with g:=p,sp:=n+1,pt:=j},n+1):=by unfold bb;rw[hp];dsimp only;rw[af h1]
   obtain⟨H1,N,e1,hN,R1,F1⟩:=MP (ps:=ps) E R hx hus o1 (by omega);have E1:=E.fm F1;have S1:=F1.2 _ _ _ S rfl (by intro zq;obtain⟨_,h⟩:=zq;exact scr h);obtain⟨e2,R2,F2⟩:=yP R1;have E2:=E1.fm F2;have S2:=F2.2 _ _ _ S1 rfl (by intro zq;obtain⟨_,h⟩:=zq;exact scr h);obtain⟨H3,y7,y8,e3,R3,F3⟩:=KD (k:=k) (z0:=.none) (z1:=au tb) (z3:=.ref 9 i) E2 R2 S2 scr (by rw[bh];exact Nat.min_eq_left (Nat.le_of_lt ‹_›)) (n+1);have b1:=R1.buf;have tr:dY (.tup (ps.map .int))=some true:=by
    unfold dY;dsimp only;rw[ac (by rw[ao];exact aO ‹_› (by decide))];induction ps using jL with
    |nil=>simp at o1
    |cons a l=>rfl
   have l1:=ln H;have l3:=ln H3;refine⟨H3,_,(k:Int)+ps.length,?_,.inr (by rw[es];dsimp only;rw[ca]),by rw[es];exact R3,(F1.trans F2).trans F3⟩;apply bQ rfl rfl;repeat left
   apply eI e3;repeat left
end
variable{b:List Inf}
structure Rd(x:Inf):Prop where
 us:x.us=false
 ma:x.ma=1
 xa:x.xa=0
 xo:x.xo=0
 yo:x.yo=0
 pr:x.pr=0
 bd:x.bd=[]
 g:qC x.g
theorem xW(M:Mp d pc)(h:Rd x):(∀y∈(bb pc x n).1,Rd y)∧(bb pc x n).1.length≤3:=by
 unfold bb;induction hp:pc x.g with
 |none=>exact⟨fun y hy=>by rw[Oc.mp hy];exact h,by show 1≤3;decide⟩
 |some ps=>
  obtain⟨o1,o2,o3⟩:=M.ok _ _ hp;dsimp only;split
  ·refine⟨fun y hy=>?_,by rw[ao];exact o2⟩;obtain⟨p,hp,rfl⟩:=MQ.mp hy;exact⟨h.us,h.ma,h.xa,h.xo,h.yo,h.pr,h.bd,.inr (by have:=o3 p hp;dsimp only;omega)⟩
  ·refine⟨fun y hy=>?_,by rw[ca];exact o2⟩;obtain⟨j,hj,rfl⟩:=List.mem_mapIdx.mp hy;exact⟨h.us,h.ma,h.xa,h.xo,h.yo,h.pr,h.bd,.inr (by have:=o3 _ (List.getElem_mem hj);dsimp only;omega)⟩
theorem ku(M:Mp d pc):∀{s:List Inf} {n:Int},(∀x∈s,Rd x)→(∀y∈(b0 pc s n).1,Rd y)∧(b0 pc s n).1.length≤3*s.length
 |[],_,_=>⟨fun y hy=>(nomatch hy),aS _⟩
 |x::l,n,h=>by
  have h1:=xW (n:=n) M (h x (ak ..));have h2:=ku (n:=(bb pc x n).2) M (fun y hy=>h y (aD x hy));refine⟨fun y hy=>?_,?_⟩
  ·rcases NH.mp hy with h|h
   ·exact h1.1 y h
   ·exact h2.1 y h
  ·show((bb pc x n).1++(b0 pc l (bb pc x n).2).1).length≤_;rw[bx,List.length_cons];omega
section
variable{b sc st li tl tb md:Nat}{lks:V}
theorem sQ(E:EnvD D H)(R:Rw b rr H L s n)(S:H.get 9 sc=some (At b 0 li lks st))(scr:sc≠rr)(li76:li<76∧tl<76∧tb<76∧md<76)(r1:(R0 D)[li]?=some (K3 u6 (au tl)))(r2:(R0 D)[tl]?=some (.list [au tb]))(r3:(R0 D)[tb]?=some (.inst 884 [(35,au md)]))(r4:(R0 D)[md]?=some (.dict d))(M:Mp d pc)(hx:s[k]?=some x)(hus:x.us=false)(hfew:s.length+3≤500):∃H' L' v,dn [.ref 9 sc,.int k] 9 H=some (.int v,H')∧((v = -1∧(bb pc x n).1.length=1)∨v=(k:Int)+(bb pc x n).1.length)∧Rw b rr H' L' (s.take k++(bb pc x n).1++s.drop (k+1)) (bb pc x n).2∧Fm rr H H':=by
 obtain⟨H',L',v,e,hv,R',F⟩:=qg E R S scr (E.z _ _ li76.2.2.1 r3) (E.z _ _ li76.2.2.2 r4) M hx hus hfew;have E':=E.fm F;have g1:=E.z _ _ li76.1 r1;have g2:=E.z _ _ li76.2.1 r2;have g2':=E'.z _ _ li76.2.1 r2;have ap:em [.ref 9 sc,.str u6,au tb,.int k] 9 H=some (.int v,H'):=by
  apply bQ rfl rfl;repeat left
 refine⟨H',L',v,?_,hv,R',F⟩;by_cases hv0:0≤v
 ·apply bQ rfl rfl;apply iz
  ·apply vP
   ·repeat left
   ·exact g2
  apply dO
  ·exact aE g2 0
  ·exact rfl
  repeat left
 ·have:v = -1:=by rcases hv with⟨h,_⟩|h;exact h;omega
  subst this;apply bQ rfl rfl;apply iz
  ·apply vP
   ·repeat left
   ·exact g2
  apply dO
  ·exact aE g2 0
  ·exact rfl
  repeat left
  apply iQ
  ·exact aE g2' 1
  repeat left
theorem wj(E:EnvD D H)(S:H.get 9 sc=some (At b 0 li lks st))(scr:sc≠rr)(li76:li<76∧tl<76∧tb<76∧md<76)(r1:(R0 D)[li]?=some (K3 u6 (au tl)))(r2:(R0 D)[tl]?=some (.list [au tb]))(r3:(R0 D)[tb]?=some (.inst 884 [(35,au md)]))(r4:(R0 D)[md]?=some (.dict d))(M:Mp d pc):∀(rest done:List Inf) (K:Nat) (c n:Int) (y3:Option V) (L:List Nat) (H':Hp),(∀x∈rest,Rd x)→rest.length<K→done.length+3*rest.length≤400→Rw b rr H' L (done++rest) n→Fm rr H H'→∃H'' L' v ρ',aC [cE lC lu K,aF (aa 1)] [some (.ref 9 sc),some (.int c),some (.int done.length),y3,none,none,none] 9 H'=some (.ret v,ρ',H'')∧Rw b rr H'' L' (done++(b0 pc rest n).1) (b0 pc rest n).2∧Fm rr H H'':=by
 intro rest;induction rest with
 |nil=>
  intro done K c n y3 L H' _ hK _ R F;obtain⟨K,rfl⟩:=oQ K (by simp at hK;assumption);have hb:=R.buf;have hr:=R.row;have hl:=R.ln;have S':=F.2 _ _ _ S rfl (by intro zq;obtain⟨_,h⟩:=zq;exact scr h);rw[List.append_nil]at hl;refine⟨H',L,.int c,[some (.ref 9 sc),some (.int c),some (.int done.length),y3,none,none,none],?_,R,F⟩;apply wF
  ·repeat left
  repeat left
 |cons x rest ih=>
  intro done K c n y3 L H' hrd hK hfew R F;obtain⟨K,rfl⟩:=oQ K (by simp at hK;assumption);have hb:=R.buf;have hr:=R.row;have hl:=R.ln;have E':=E.fm F;have S':=F.2 _ _ _ S rfl (by intro zq;obtain⟨_,h⟩:=zq;exact scr h);rw[bx]at hl;simp only[List.length_cons]at hl hfew hK;have hx:(done++x::rest)[done.length]?=some x:=by rw[bB (aS _),Nat.sub_self];rfl
  have rx:=hrd x (ak ..);have tk:=Ki (q:=9) E' R S' (E'.z _ _ li76.1 r1) hx rx.g rx.ma;obtain⟨H2,L2,v,e2,hv,R2,F2⟩:=sQ E' R S' scr li76 r1 r2 r3 r4 M hx rx.us (by rw[bx,List.length_cons];omega);have dr:(done++x::rest).drop (done.length+1)=rest:=by
   rw[List.drop_append,List.drop_eq_nil_of_le (Nat.le_succ _),List.nil_append,show done.length+1-done.length=1 by omega];rfl
  rw[List.take_append_of_le_length (aS _),List.take_length,dr]at R2;have s3:=(xW (n:=n) M rx).2;have al:(done++(bb pc x n).1).length=done.length+(bb pc x n).1.length:=bx;have er:done++(b0 pc (x::rest) n).1=done++(bb pc x n).1++(b0 pc rest (bb pc x n).2).1:=by
   show done++((bb pc x n).1++(b0 pc rest (bb pc x n).2).1)=_;rw[bH]
  have er2:(b0 pc (x::rest) n).2=(b0 pc rest (bb pc x n).2).2:=rfl;rw[er,er2];by_cases hv0:0≤v
  ·have hv':v=((done++(bb pc x n).1).length:Nat):=by rcases hv with⟨h,_⟩|h<;>omega
   subst hv';obtain⟨H3,L3,w,ρ',e3,R3,F3⟩:=ih (done++(bb pc x n).1) K (c+1) (bb pc x n).2 (some (.int ((done++(bb pc x n).1).length:Nat))) L2 H2 (fun y hy=>hrd y (aD _ hy)) (aL ‹_›) (by omega) R2 (F.trans F2);refine⟨H3,L3,w,ρ',?_,R3,F3⟩;apply wT
   ·repeat left
   repeat left
   try exact e3
  ·have hv':v = -1∧(bb pc x n).1.length=1:=by rcases hv with h|h;exact h;omega
   obtain⟨rfl,hl1⟩:=hv';rw[hl1]at al;obtain⟨H3,L3,w,ρ',e3,R3,F3⟩:=ih (done++(bb pc x n).1) K c (bb pc x n).2 (some (.int (-1))) L2 H2 (fun y hy=>hrd y (aD _ hy)) (aL ‹_›) (by omega) R2 (F.trans F2);refine⟨H3,L3,w,ρ',?_,R3,F3⟩;rw[al]at e3;apply wT
   ·repeat left
   repeat left
   try exact e3
theorem qN{num:Nat}(E:EnvD D H)(R:Rw b rr H L s n)(hnum:num<3∧[au 26,au 29,au 32][num]?=some (au li))(li76:li<76∧tl<76∧tb<76∧md<76)(r1:(R0 D)[li]?=some (K3 u6 (au tl)))(r2:(R0 D)[tl]?=some (.list [au tb]))(r3:(R0 D)[tb]?=some (.inst 884 [(35,au md)]))(r4:(R0 D)[md]?=some (.dict d))(M:Mp d pc)(hrd:∀x∈s,Rd x)(hfew:3*s.length≤400):∃H' L' v,cw [.ref 9 b,au 67,au 33,.int num,.int 1] 9 H=some (v,H')∧Rw b rr H' L' (b0 pc s n).1 (b0 pc s n).2∧Fm rr H H':=by
 have hq:=E.nine;obtain⟨st,H1,eS,X,gS⟩:=yq (a:=.ref 9 b) (c:=au 67) (d:=au 33) (e:=au li) (f:=.int 1) (.int 0) rfl hq;have scr:H.sz 9≠rr:=by have:=Hp.lt_sz R.row;exact Nat.ne_of_gt ‹_›
 have E1:=E.lx X;obtain⟨H2,L2,v,ρ',e2,R2,F2⟩:=wj E1 gS scr li76 r1 r2 r3 r4 M s [] 2000 0 n none L H1 hrd (by omega) (by simpa using hfew) (R.lx X) (Fm.refl _ _);refine⟨H2,L2,v,?_,R2,X.fm.trans F2⟩;have l33:H.get 0 33=some (.list [au 26,au 29,au 32]):=E.g (by decide) rfl;have ix:idx (au 33) (.int (num:Int)) H=some (au li):=oz l33 hnum.2;have eS':g9 [.ref 9 b,au 67,au 33,au li,.int 1] 9 H=some (.ref 9 (H.sz 9),H1):=eS;have gl:=E1.z _ _ li76.1 r1;have rf:eo [.ref 9 (H.sz 9)] 9 H1=some (v,H2):=by
  apply bQ rfl rfl;repeat left
  apply Jk;exact e2
 apply bQ rfl rfl;repeat left
end
variable{b:List Inf}
section
variable{b sc st li tl tb md:Nat}{lks:V}{p1 p2 p3:Int→Option (List Int)}
def vL(p1 p2 p3:Int→Option (List Int))(s:List Inf):List Inf×Int:=
 let a:=b0 p1 s 0;let c:=b0 p2 a.1 a.2;b0 p3 c.1 c.2
theorem yh(E:EnvD D H)(R:Rw b rr H L s 0)(M1:Mp D.d1 p1)(M2:Mp D.d2 p2)(M3:Mp D.d3 p3)(hrd:∀x∈s,Rd x)(hfew:s.length≤4):∃H' L',fH [.ref 9 b,au 75,.ref 8 112] 9 H=some (.none,H')∧Rw b rr H' L' (vL p1 p2 p3 s).1 (vL p1 p2 p3 s).2∧Fm rr H H'∧∀x∈(vL p1 p2 p3 s).1,Rd x:=by
 have k1:=ku (n:=0) M1 hrd;have k2:=ku (n:=(b0 p1 s 0).2) M2 k1.1;have k3:=ku (n:=(b0 p2 (b0 p1 s 0).1 (b0 p1 s 0).2).2) M3 k2.1;obtain⟨H1,L1,v1,e1,R1,F1⟩:=qN (num:=0) (li:=26) (tl:=25) (tb:=24) (md:=4) E R ⟨by decide,rfl⟩ (by decide) rfl rfl rfl rfl M1 hrd (by omega);have E1:=E.fm F1;obtain⟨H2,L2,v2,e2,R2,F2⟩:=qN (num:=1) (li:=29) (tl:=28) (tb:=27) (md:=5) E1 R1 ⟨by decide,rfl⟩ (by decide) rfl rfl rfl rfl M2 k1.1 (by omega);have E2:=E1.fm F2;obtain⟨H3,L3,v3,e3,R3,F3⟩:=qN (num:=2) (li:=32) (tl:=31) (tb:=30) (md:=6) E2 R2 ⟨by decide,rfl⟩ (by decide) rfl rfl rfl rfl M3 k2.1 (by omega);have E3:=E2.fm F3;refine⟨H3,L3,?_,R3,(F1.trans F2).trans F3,k3.1⟩;have pl:=E.pl;have st:=E.st;have st3:=E3.st;have s0:=E.s1;have s1:=E1.s1;have s2:=E2.s1;have s3:=E3.s1;apply eJ rfl rfl;apply iz
 ·apply vP
  ·repeat left
  ·exact st
 apply dO
 ·exact aE st 0
 ·exact rfl
 left;apply iz
 ·exact vP (bq rfl) s0
 apply dO
 ·exact aE s0 0
 ·exact rfl
 repeat left
 ·exact e1
 repeat left
 apply dO
 ·exact aE s1 1
 ·exact rfl
 repeat left
 ·exact e2
 repeat left
 apply dO
 ·exact aE s2 2
 ·exact rfl
 repeat left
 ·exact e3
 repeat left
 apply iQ
 ·exact aE s3 3
 left;apply iQ
 ·exact aE st3 1
 left
noncomputable def yi(c:Int)(j:Nat):Inf:=⟨c,0,j,0,false,0,0,0,0,0,0,[]⟩
theorem BG{cs:List Int}{cr ci:Nat}(hq:9<H.length)(hc:H.get cr ci=some (.list (cs.map .int)))(hcl:cs.length≤4):∃H' b rr L,gq [.ref cr ci,.bool false] 9 H=some (.ref 9 b,H')∧Rw b rr H' L (cs.mapIdx fun j c=>yi c j) 0∧Lx H H':=by
 let z:=H.sz 9;have key:∀(m j K:Nat) (w:Option V) (Hj:Hp),j+m=cs.length→m<K→Lx H Hj→Hj.sz 9=z+j→(∀(j':Nat) (c:Int),j'<j→cs[j']?=some c→Hj.get 9 (z+j')=some (yi c j').o)→
   ∃H',dC (.nm 6) [] pK (.fixed (bw 0 cs.length)) K j (((List.range j).map (z + ·)).map (V.ref 9)) [some (.ref cr ci),some (.bool false),none,none,none,none,w,none,none] 9 Hj=some (.ref 9 (z+cs.length),H'.ins 9 (.list (((List.range cs.length).map (z + ·)).map (V.ref 9))))∧Lx H H'∧H'.sz 9=z+cs.length∧(∀(j':Nat) (c:Int),cs[j']?=some c→H'.get 9 (z+j')=some (yi c j').o):=by
  intro m;induction m with
  |zero=>
   intro j K w Hj hj hK X hz hI;obtain⟨K,rfl⟩:=oQ K ‹_›;have ej:j=cs.length:=by exact Rp ‹_›
   subst ej;refine⟨Hj,?_,X,hz,fun j' c h=>hI j' c (Ok.mp h).1 h⟩;rw[←hz];refine rn ?_ (by rw[X.1];exact hq) (by simp;exact aO ‹_› (by decide));show some _=_;rw[gB.mpr (by rw[aR];exact aS _)]
  |succ m ih=>
   intro j K w Hj hj hK X hz hI;obtain⟨K,rfl⟩:=oQ K ‹_›;obtain⟨c,hcj⟩:∃c,cs[j]?=some c:=⟨_,ay (RA ‹_›)⟩;have hqj:9<Hj.length:=by rw[X.1];exact hq
   have ki:=IB (a:=.int c) (c:=.int 0) (d:=.int (j:Int)) hqj;have hcc:=X.2 _ _ _ hc;have ix:idx (.ref cr ci) (.int (j:Int)) Hj=some (.int c):=oz hcc (by rw[aB,hcj];rfl);have gs:=Hp.get_ins_self (H:=Hj) (o:=(yi c j).o) hqj;rw[hz]at gs;obtain⟨H',e,X',hz',hI'⟩:=ih (j+1) K (some (.int j)) (Hj.ins 9 (yi c j).o) (Q8 ‹_›) (aL ‹_›) (X.trans Lx.ins) (by rw[Hp.sz_ins hqj,hz];(constructor<;>first|assumption|decide)) (fun j' c' hj' hc'=>by
    by_cases h:j'=j
    ·subst h;rw[hcj]at hc';induction hc' using QT;exact gs
    ·exact Hp.get_ins (hI j' c' (by omega) hc'))
   refine⟨H',?_,X',hz',hI'⟩;refine rP (v:=.int (j:Int)) (ρ1:=[some (.ref cr ci),some (.bool false),none,none,none,none,some (.int j),none,none]) ?_ rfl pJ (y:=.ref 9 (z+j)) (H2:=Hj.ins 9 (yi c j).o) ?_ ?_
   ·show some _=_;rw[cv (RA ‹_›)];congr 3;exact Int.zero_add _
   ·rw[←hz];repeat left
    exact ki
   ·rw[List.range_succ,List.map_append,List.map_append]at e;exact e
 obtain⟨H1,e1,X1,hz1,hI1⟩:=key cs.length 0 2000 none H (Nat.zero_add _) (aJ ‹_› (by decide)) (Lx.refl _) (by simp[z]) (fun j' c h=>by exact absurd ‹_› (Nat.not_lt_zero _));have q1:9<H1.length:=by rw[X1.1];exact hq
 let L:=(List.range cs.length).map (z + ·);let H2:=H1.ins 9 (.list (L.map (V.ref 9)));have q2:9<H2.length:=by rw[Hp.len_ins];exact q1
 have g2:H2.get 9 (z+cs.length)=some (.list (L.map (V.ref 9))):=by rw[←hz1];exact Hp.get_ins_self q1
 have kb:=Iq (a:=.ref 9 (z+cs.length)) q2;let H3:=H2.ins 9 (FE (z+cs.length) 0);refine⟨H3,H2.sz 9,z+cs.length,L,?_,⟨Hp.get_ins_self q2,Hp.get_ins g2,by simp[L],?_,?_,by simp;exact aO ‹_› (by decide)⟩,(X1.trans Lx.ins).trans Lx.ins⟩
 ·have lc:bi .len [.ref cr ci] 9 H=some (.int (cs.length:Int),H):=by rw[KA hc,ao]
  apply bQ rfl rfl;repeat left
  ·apply gF
   ·apply qE (m:=cs.length)
    ·repeat left
    ·exact aJ ‹_› (by decide)
   ·exact e1
  repeat left
 ·intro k i x h1 h2;have hk:k<cs.length:=by
   have:=(Ok.mp h2).1;rw[ca]at this;exact this
  simp only[L,aB,List.getElem?_range hk,Option.map_some,Option.some.injEq]at h1;rw[List.getElem?_mapIdx]at h2;induction hc':cs[k]? with
  |none=>rw[hc']at h2;exact Rk h2
  |some c=>
   rw[hc']at h2;(refine QU h2 ?_;clear h2;rintro rfl);rw[←h1];exact Hp.get_ins (Hp.get_ins (hI1 k c hc'))
 ·simp only[L];rw[List.nodup_iff_pairwise_ne,List.pairwise_map];exact List.Pairwise.imp (fun h=>by omega) List.pairwise_lt_range
end
variable{b:List Inf}
section
variable{b:Nat}{p1 p2 p3:Int→Option (List Int)}
theorem Ih{a:V}(hq:q<H.length):oo [a,.bool false] q H=some (.ref q (H.sz q),H.ins q (.inst 1707 [(64,a),(17,.bool false)])):=
 mi (fs:=[(64,aa 1),(17,aa 2)]) (vs:=[a,.bool false]) hq rfl rfl rfl rfl (by decide) ⟨fun _ _=>rfl,⟨fun _ _=>rfl,trivial⟩⟩
theorem Ma{s':List Inf}(hg:∀x∈s,qC x.g)(h0:∀x∈s,x.pr=0∧x.xo=0∧x.yo=0)(S:Su (fY D s s.length) s')(hx:s'[k]?=some x)(hp:x.pr≠0):∃p y,MG s' k x p y:=by
 obtain⟨z,hz,ez⟩:=S.get hx;rw[dU]at hz;induction hw:s[k]? with
 |none=>rw[hw]at hz;exact Rk hz
 |some w=>
  rw[hw]at hz;have hk:=(Ok.mp hw).1;simp only[Option.map_some,hk,if_true,Option.some.injEq]at hz;have ezp:x.pr=z.pr:=show x.st.pr=z.st.pr from congrArg Inf.pr ez;have ezb:x.bd=z.bd:=show x.st.bd=z.st.bd from congrArg Inf.bd ez;by_cases c:w.g=11∧0≤bI (s.map Inf.cell) k
  ·have hz':z=xM D w (d6 (s.map Inf.cell) (bI (s.map Inf.cell) k).toNat) k (bI (s.map Inf.cell) k).toNat:=by
    rw[←hz];unfold iC;rw[ac c]
   obtain⟨p,hpb⟩:∃p:Nat,bI (s.map Inf.cell) k=p:=⟨_,(Int.toNat_of_nonneg c.2).symm⟩;rw[hpb,Int.toNat_natCast]at hz';have hlt:=(jK (c:=s.map Inf.cell) k).2;rw[hpb]at hlt;have hlen:s'.length=s.length:=by rw[S.length];unfold fY;rw[ca]
   obtain⟨y,hy⟩:∃y,s'[p]?=some y:=⟨_,ay (by omega)⟩;obtain⟨u,hu,eu⟩:=S.get hy;rw[dU]at hu;obtain⟨v,hv⟩:∃v,s[p]?=some v:=⟨_,ay (by omega)⟩;rw[hv]at hu;have hm:=kz hpb;rw[pY hv,decide_eq_false_iff_not]at hm;simp only[Option.map_some,show p<s.length by omega,if_true,Option.some.injEq,zI hm]at hu;obtain⟨v1,v2,v3⟩:=h0 v (aP hv);subst hu;refine⟨p,y,?_,by exact Int.ofNat_lt.mp ‹_›,hy,?_,?_,?_,?_⟩
   ·rw[ezp,hz'];show(k:Int)+((p:Int)-k)=p;omega
   ·rw[show y.pr=v.pr from(show y.st.pr=v.st.pr from congrArg Inf.pr eu)];exact v1
   ·rw[show y.xo=v.xo from(show y.st.xo=v.st.xo from congrArg Inf.xo eu)];exact v2
   ·rw[show y.yo=v.yo from(show y.st.yo=v.st.yo from congrArg Inf.yo eu)];exact v3
   ·rw[ezb,hz'];rfl
  ·have hz':z=w:=by rw[←hz];unfold iC;rw[af c]
   exact absurd (by rw[ezp,hz'];exact(h0 w (aP hw)).1) hp
def bm(cs:List Int):List Inf:=cs.mapIdx fun j c=>{yi c j with ma:=1,g:=Ey c}
def Fd(D:ti)(s:List Inf):List Inf:=s.map fun x=>{x with xa:=vD D x.g}
theorem Di{cs:List Int}{cr ci:Nat}(E:EnvD D H)(hc:H.get cr ci=some (.list (cs.map .int)))(hcl:cs.length≤4)(hlet:∀c∈cs,Let c)(M1:Mp D.d1 p1)(M2:Mp D.d2 p2)(M3:Mp D.d3 p3):∃H' sh rows s1 s2,fW [au 75,.ref cr ci,.ref 8 112,.tup [],.none] 9 H=some (.ref 9 sh,H')∧H'.get 9 sh=some (.inst 1707 [(64,.ref 9 rows),(17,.bool false)])∧H'.get 9 rows=some (.list (s2.map Inf.row7))∧Su (fY D (Fd D (vL p1 p2 p3 (bm cs)).1) (Fd D (vL p1 p2 p3 (bm cs)).1).length) s1∧Su (gC s1 s1.length) s2∧H'.length=H.length∧∀(r i:Nat) (o:O),H.get r i=some o→r≠9→o.ib=false→H'.get r i=some o:=by
 obtain⟨H1,b,rr,L,e1,R1,X1⟩:=BG E.nine hc hcl;have E1:=E.lx X1;have F1:Fm rr H H1:=X1.fm;let s0:List Inf:=cs.mapIdx fun j c=>yi c j;have Rg:∀x∈s0,∃j c,c∈cs∧x=yi c j:=by
  intro x hx;obtain⟨j,hj,rfl⟩:=List.mem_mapIdx.mp hx;exact⟨j,_,List.getElem_mem hj,rfl⟩
 obtain⟨H2,e2,R2,F2⟩:=um E1 R1 (fun x hx=>by obtain⟨j,c,h,rfl⟩:=Rg x hx;exact hlet c h) (au 71);have E2:=E1.fm F2;have e3:=sW E2 (.ref 9 b) (au 71);obtain⟨H4,e4,R4,F4⟩:=Bq E2 R2 (fun x hx=>by obtain⟨j,c,h,rfl⟩:=Rg x hx;rfl);have E4:=E2.fm F4;obtain⟨H5,e5,R5,F5⟩:=yD E4 R4 (fun x hx=>by obtain⟨y,hy,rfl⟩:=MQ.mp hx;obtain⟨j,c,h,rfl⟩:=Rg y hy;exact hlet c h) (fun x hx=>by obtain⟨y,hy,rfl⟩:=MQ.mp hx;obtain⟨j,c,h,rfl⟩:=Rg y hy;rfl);have E5:=E4.fm F5;have es:((s0.map fun x=>({x with ma:=1}:Inf)).map fun x=>({x with g:=Ey x.cd}:Inf))=bm cs:=by
  apply ch;intro k;simp only[s0,bm,aB,List.getElem?_mapIdx];cases cs[k]? <;> rfl
 rw[es]at R5;have rd0:∀x∈bm cs,Rd x:=by
  intro x hx;obtain⟨j,hj,rfl⟩:=List.mem_mapIdx.mp hx;exact⟨rfl,rfl,rfl,rfl,rfl,rfl,rfl,(hlet _ (List.getElem_mem hj)).gok⟩
 obtain⟨H6,L6,e6,R6,F6,rd⟩:=yh E5 R5 M1 M2 M3 rd0 (by simp only[bm,ca];exact hcl);have E6:=E5.fm F6;obtain⟨H7,e7,R7,F7⟩:=t3 E6 R6 (fun x hx=>(rd x hx).g) (fun x hx=>(rd x hx).xa);have E7:=E6.fm F7;let sA:=Fd D (vL p1 p2 p3 (bm cs)).1;have R7':Rw b rr H7 L6 sA (vL p1 p2 p3 (bm cs)).2:=R7;have ra:∀x∈sA,qC x.g∧x.ma=1∧x.pr=0∧x.xo=0∧x.yo=0:=by
  intro x hx;obtain⟨y,hy,rfl⟩:=MQ.mp hx;have r:=rd y hy;exact⟨r.g,r.ma,r.pr,r.xo,r.yo⟩
 obtain⟨H8,s1,e8,S8,R8,F8⟩:=Ks E7 R7' (fun x hx=>(ra x hx).1) (fun x hx=>(ra x hx).2.1) (fun x hx _=>(ra x hx).2.2.1) (fun s' S k x hx hp=>Ma (fun x hx=>(ra x hx).1) (fun x hx=>(ra x hx).2.2) S hx hp);have E8:=E7.fm F8;have e9:=Ms E8 R8;have e9':=LA (q:=9) E8;obtain⟨H10,s2,e10,R10,S10,F10⟩:=GA E8 R8;have E10:=E8.fm F10;have e11:=wt E10 R10;let H11:=H10.ins 9 (.list (s2.map Inf.row7));have q11:9<H11.length:=by rw[Hp.len_ins];exact E10.nine
 have E11:EnvD D H11:=E10.lx Lx.ins;have g11:H11.get 9 (H10.sz 9)=some (.list (s2.map Inf.row7)):=Hp.get_ins_self E10.nine;have e12:=Ih (a:=.ref 9 (H10.sz 9)) q11;have F:Fm rr H (H11.ins 9 (.inst 1707 [(64,.ref 9 (H10.sz 9)),(17,.bool false)])):=((((((((F1.trans F2).trans F4).trans F5).trans F6).trans F7).trans F8).trans F10).trans Fm.ins).trans Fm.ins;refine⟨_,H11.sz 9,H10.sz 9,s1,s2,?_,Hp.get_ins_self q11,Hp.get_ins g11,S8,S10,F.1,fun r i o h h1 h2=>F.2 r i o h h2 (fun h=>h1 h.1)⟩;have pl:=E.pl;have pl10:=E10.pl;have pl11:=E11.pl;apply bQ rfl rfl;repeat left
end
variable{b:List Inf}
def IG:List V:=[au 75,mV,.str [100,102,108,116],.bool false,.tup []]
noncomputable def D0:ti:=⟨[],[],0,[],[],[],[],fun _=>0,fun _=>0,fun _=>0⟩
def R8:List O:=match dM IG 8 [R0 D0,[],[],[],[],[],[],[],[]]with
 |some (_,[_,_,_,_,_,_,_,_,R])=>R
 |_=>[]
theorem Aa(D:ti)(T a1 a2 a3 a4 a5 a6 a7:List O):dM IG 8 [R0 D++T,a1,a2,a3,a4,a5,a6,a7,[]]=some (.ref 8 112,[R0 D++T,a1,a2,a3,a4,a5,a6,a7,R8]):=by kernel_rfl
theorem LM:R8[112]?=some KZ:=by kernel_rfl
theorem LF:R8[102]?=some (.list [.ref 8 101]):=by kernel_rfl
theorem LB:R8[101]?=some (.list [ri 0 1,ri 1 1,ri 2 1]):=by kernel_rfl
theorem LG:R8[109]?=some (.list [ri 0 1]):=by kernel_rfl
section
variable{p1 p2 p3:Int→Option (List Int)}
theorem J2{cs:List Nat}(T a1 a2 a3 a4 a5 a6:List O)(q:Nat)(hcl:cs.length≤4)(hlet:∀c∈cs,Let (c:Int))(M1:Mp D.d1 p1)(M2:Mp D.d2 p2)(M3:Mp D.d3 p3):∃H' sh rows s1 s2,f7 i8 [au 75,.str cs] q [R0 D++T,a1,a2,a3,a4,a5,a6]=some (.ref 9 sh,H')∧H'.get 9 sh=some (.inst 1707 [(64,.ref 9 rows),(17,.bool false)])∧H'.get 9 rows=some (.list (s2.map Inf.row7))∧Su (fY D (Fd D (vL p1 p2 p3 (bm (cs.map Int.ofNat))).1) (Fd D (vL p1 p2 p3 (bm (cs.map Int.ofNat))).1).length) s1∧Su (gC s1 s1.length) s2∧H'.length=10∧∀(i:Nat) (o:O),(R0 D++T)[i]?=some o→o.ib=false→H'.get 0 i=some o:=by
 let H:Hp:=[R0 D++T,a1,a2,a3,a4,a5,a6,[]];let H7:Hp:=[R0 D++T,a1,a2,a3,a4,a5,a6,[.list ((cs.map Int.ofNat).map .int)]];let H9:Hp:=[R0 D++T,a1,a2,a3,a4,a5,a6,[.list ((cs.map Int.ofNat).map .int)],R8,[]];have E:EnvD D H9:=by
  refine⟨fun i o hi h=>?_,LM,LF,LB,LG,by show 9<10;decide⟩;show(R0 D++T)[i]?=some o;rw[cD (by show i<76;exact hi)];exact h
 obtain⟨H',sh,rows,s1,s2,e,g1,g2,S1,S2,hl,fr⟩:=Di (cs:=cs.map Int.ofNat) (cr:=7) (ci:=0) E rfl (by simpa using hcl) (fun c hc=>by obtain⟨n,hn,rfl⟩:=MQ.mp hc;exact hlet n hn) M1 M2 M3;refine⟨H',sh,rows,s1,s2,?_,g1,g2,S1,S2,hl,fun i o h hb=>fr 0 i o h (by decide) hb⟩;have pl:=Aa D T a1 a2 a3 a4 a5 a6 [.list ((cs.map Int.ofNat).map .int)];have cds:el [au 75,.ref 7 0,mV,.str [100,102,108,116],.tup [],.none,.none] 7 H7=some (.ref 9 sh,H'):=by
  have bs:ce [mV] 7 H7=some (.bool false,H7):=rfl;have pl':f7 dM [au 75,mV,.str [100,102,108,116],.bool false,.tup []] 7 H7=some (.ref 8 112,[R0 D++T,a1,a2,a3,a4,a5,a6,[.list ((cs.map Int.ofNat).map .int)],R8]):=by unfold f7;exact pl
  have sb:f7 fW [au 75,.ref 7 0,.ref 8 112,.tup [],.none] 7 [R0 D++T,a1,a2,a3,a4,a5,a6,[.list ((cs.map Int.ofNat).map .int)],R8]=some (.ref 9 sh,H'):=by unfold f7;exact e
  apply bQ rfl rfl;repeat left
 have cp:bo 3 (bn (aa 1)) (.nm 9) [] Bw [some (au 75),some (.str cs),some mV,some (.str [100,102,108,116]),some (.tup []),some .none,some .none,none] 7 H=some (.ref 7 0,H7):=by
  apply gF
  ·show some (It.fixed (cs.map fun c=>.str [c]),H)=_;exact rfl
  refine fV (z:=none) (ρ:=[some (au 75),some (.str cs),some mV,some (.str [100,102,108,116]),some (.tup []),some .none,some .none,none,none,none,none]) (fun j=>rfl) (by show 7<8;decide) (by rw[ao];exact aO ‹_› (by decide)) (ys:=(cs.map Int.ofNat).map .int) (by simp) ?_;intro j a c ha hc;rw[aB]at ha;rw[aB,aB]at hc;induction hj:cs[j]? with
  |none=>rw[hj]at ha;exact Rk ha
  |some u=>
   rw[hj]at ha hc
   (refine QU ha ?_;clear ha;rintro rfl);(refine QU hc ?_;clear hc;rintro rfl)
   exact rfl
 have sh7:i8 [au 75,.str cs] 7 H=some (.ref 9 sh,H'):=by
  apply bQ rfl rfl;repeat left
  ·exact cp
  repeat left
 unfold f7;exact sh7
end
abbrev dh(a:Int):O:=.list [au 1,.int a]
theorem IE(k:Nat)(hk:k<1000):(((15:Int) ^ k).natAbs).log2<8000:=by
 have e:((15:Int) ^ k).natAbs=15 ^ k:=by rw[Int.natAbs_pow];rfl
 rw[e];have h0:(15 ^ k:Nat)≠0:=Nat.pos_iff_ne_zero.mp (Nat.pow_pos (by decide));rw[Nat.log2_lt h0]
 calc (15:Nat) ^ k≤16 ^ k:=Nat.pow_le_pow_left (by decide) k
  _=2 ^ (4*k):=by rw[show(16:Nat)=2 ^ 4 by rfl,←Nat.pow_mul]
  _<2 ^ 8000:=Nat.pow_lt_pow_right (by decide) (by omega)
theorem zN(h:r<H.length):Hp.put (H++[R]) r i o=H.put r i o++[R]:=by
 unfold Hp.put;rw[cD h,ay h];dsimp only;rw[List.set_append_left _ _ h]
theorem eN(h:H.get r i=some o):Hp.get (H++[R]) r i=some o:=by
 have hl:=Hp.lt_of_get h;unfold Hp.get at h⊢;rw[cD hl];exact h
theorem I7{o:Eu}{b c:Int}(h:Be o a b=some c):im o (.int a) (.int b) q H=some (.int c,H):=by
 dsimp only[im];rw[h]
theorem MT{m:Int}(h:0<m):∃v,0≤v∧v<m∧im .mod (.int a) (.int m) q H=some (.int v,H):=by
 refine⟨Int.fmod a m,Int.fmod_nonneg_of_pos a h,Int.fmod_lt_of_pos a h,?_⟩;exact I7 (ac h)
theorem HM{ns:List Int}{m:Int}(hp:H.get 0 2=some (dh a))(hn:H.get 0 1=some (.list (ns.map .int)))(hns:ns.length≤60)(ha:0≤a∧a≤900)(hm:0<m):∃v,0≤v∧v<m∧drop aM [au 2,.int m] q H=some (.int v,H.put 0 2 (dh (a+1))):=by
 have hl:=Hp.lt_of_get hp;let G:Hp:=H++[[]];let G1:Hp:=G.put 0 2 (dh (a+1));have p0:G.get 0 2=some (dh a):=eN hp;have n0:G.get 0 1=some (.list (ns.map .int)):=eN hn;have p1:G1.get 0 2=some (dh (a+1)):=Hp.get_put_self p0;have n1:G1.get 0 1=some (.list (ns.map .int)):=zt (by decide) n0;have eG1:G1=H.put 0 2 (dh (a+1))++[[]]:=zN hl;have len1:(H.put 0 2 (dh (a+1))).length=H.length:=Hp.len_put;have take1:G1.take H.length=H.put 0 2 (dh (a+1)):=by rw[eG1,←len1];simp
 have q1:H.length<G1.length:=by rw[eG1];simp[len1]
 obtain⟨A,hA⟩:∃A:Nat,a=A:=⟨a.toNat,by omega⟩;have done:∀{v:Int} {G':Hp},0≤v∧v<m→G'.take H.length=H.put 0 2 (dh (a+1))→aM [au 2,.int m] H.length G=some (.int v,G')→∃v,0≤v∧v<m∧drop aM [au 2,.int m] q H=some (.int v,H.put 0 2 (dh (a+1))):=by
  intro v G' hv ht e;refine⟨v,hv.1,hv.2,?_⟩;unfold drop;have e':aM [au 2,.int m] H.length (H++[[]])=some (.int v,G'):=e;rw[e'];dsimp only;rw[ht]
 have i1:idx (au 2) (.int 1) G=some (.int a):=oz (k:=1) p0 rfl;have j0:∀G',G'.get 0 2=some (dh (a+1))→idx (au 2) (.int 0) G'=some (au 1):=fun G' h=>oz (k:=0) h rfl;have j1:=j0 G1 p1;have first:∀{l:List St} {u:Fl×bJ×Hp},aC l [some (au 2),some (.int m),some (.int a),none,none] H.length G1=some u→aC (am okf (.nm (.nm 2)) (aG (aa 0) (ai (V.int 1)))::am okf (.ix (aa 0) (ai (V.int 1))) (aI .add (aa 2) (ai (V.int 1)))::l) [some (au 2),some (.int m),none,none,none] H.length G=some u:=by
  intro l u h;left
  ·repeat left
  apply JE
  ·repeat left
  ·left
  ·left
  ·exact p0
  ·show(0:Int)≤1∧(1:Int)<((2:Nat):Int);decide
  exact h
 by_cases hlt:A<ns.length
 ·obtain⟨x,hx⟩:∃x,ns[A]?=some x:=⟨_,ay hlt⟩;obtain⟨v,v0,v1,ev⟩:=MT (a:=x) (q:=H.length) (H:=G1) hm;have ix:idx (au 1) (.int a) G1=some (.int x):=by rw[hA];exact oz n1 (by rw[aB,hx];rfl)
  refine done ⟨v0,v1⟩ take1 ?_;apply bQ rfl rfl;apply first;left
  ·left
   ·left
   ·repeat left
   ·refine Jt ?_;rw[ao];omega
  repeat left
 ·have tail:∀(w:Int) (G2:Hp),G2.take H.length=H.put 0 2 (dh (a+1))→(t9 (aA .ne (aG (aa 0) (ai (V.int 0))) (bD [])) (aI .fdiv (aG (aG (aa 0) (ai (V.int 0))) (aI .mod (aa 2) (cK .len [(aG (aa 0) (ai (V.int 0)))]))) (aI .pow (ai (V.int 15)) (aI .fdiv (aa 2) (cK .len [(aG (aa 0) (ai (V.int 0)))])))) (ai (V.int 0))) [some (au 2),some (.int m),some (.int a),none,none] H.length G1=some (.int w,G2)→
    ∃v,0≤v∧v<m∧drop aM [au 2,.int m] q H=some (.int v,H.put 0 2 (dh (a+1))):=by
   intro w G2 ht e;obtain⟨v,v0,v1,ev⟩:=MT (a:=w+2*a+Int.fdiv a 9) (q:=H.length) (H:=G2) hm;have fd:im .fdiv (.int a) (.int 9) H.length G2=some (.int (Int.fdiv a 9),G2):=rfl;refine done ⟨v0,v1⟩ ht ?_;apply bQ rfl rfl;apply first;left
   ·left
    ·left
    ·repeat left
    ·refine JC ?_;rw[ao];omega
   left;left;left
   ·exact e
   repeat left
  let G2:Hp:=G1.ins H.length (.list []);have t2:G2.take H.length=H.put 0 2 (dh (a+1)):=by
   have:G2=Hp.ins (H.put 0 2 (dh (a+1))++[[]]) (H.put 0 2 (dh (a+1))).length (.list []):=by
    show G1.ins H.length _=_;rw[eG1,len1]
   rw[this,←len1];exact B1
  have gn:G2.get H.length (G1.sz H.length)=some (.list []):=Hp.get_ins_self q1;have n2:G2.get 0 1=some (.list (ns.map .int)):=Hp.get_ins n1;have p2:G2.get 0 2=some (dh (a+1)):=Hp.get_ins p1;have j2:=j0 G2 p2;have ne:bO .ne (au 1) (.ref H.length (G1.sz H.length)) G2=some (!(ns.map V.int).isEmpty):=by
   show(match G2.get 0 1,G2.get H.length (G1.sz H.length)with|some (.list a),some (.list b)=>if a.length=b.length then gU Ac a b else some false|_,_=>.none).map (!·)=_;rw[n2,gn];induction ns using jL<;>rfl
  induction ns using jL with
  |nil=>
   refine tail 0 G2 t2 ?_;apply NK
   ·apply vo
    ·repeat left
    ·exact kT da q1 (by decide)
    ·exact ne
   repeat left
  |cons z0 zs=>
   let N:=(z0::zs).length;have hN:0<N:=Nat.succ_pos _;obtain⟨x,hx⟩:∃x,(z0::zs)[A % N]?=some x:=⟨_,ay (Nat.mod_lt _ hN)⟩;have md:im .mod (.int a) (.int (N:Int)) H.length G2=some (.int ((A % N:Nat):Int),G2):=by
    refine I7 ?_;show(if(0:Int)<N then some (Int.fmod a N)else .none)=_;rw[ac (by omega),hA,Int.fmod_eq_emod_of_nonneg _ (Int.natCast_nonneg _)];rfl
   have hN60:N≤60:=hns;have fv:im .fdiv (.int a) (.int (N:Int)) H.length G2=some (.int ((A / N:Nat):Int),G2):=by
    refine I7 ?_;show(if decide (0<(N:Int))&&decide ((N:Int).natAbs.log2<8000)then some (Int.fdiv a N)else .none)=_;have l2:((N:Int).natAbs).log2<8000:=by
     rw[Int.natAbs_natCast,Nat.log2_lt (Nat.ne_of_gt ‹_›)];exact Nat.lt_of_lt_of_le (show N<2 ^ 6 by exact aJ ‹_› (by decide)) (Nat.pow_le_pow_right (by decide) (by decide))
    rw[ac (by rw[aY,bp,bp];exact⟨by omega,l2⟩),hA,Int.fdiv_eq_ediv_of_nonneg _ (Int.natCast_nonneg _)];rfl
   have hk:A / N<1000:=aJ (Nat.div_le_self _ _) (by omega);have pw:im .pow (.int 15) (.int ((A / N:Nat):Int)) H.length G2=some (.int ((15:Int) ^ (A / N)),G2):=by
    generalize A / N=K at hk⊢;refine I7 ?_;show(if decide ((0:Int)≤15)&&decide ((15:Int)<100)&&decide (0≤((K:Nat):Int))&&decide (((K:Nat):Int)<1000)then some ((15:Int) ^ ((K:Nat):Int).toNat)else .none)=_;rw[ac (by simp only[aY,bp];omega),Int.toNat_natCast]
   have fx:im .fdiv (.int x) (.int ((15:Int) ^ (A / N))) H.length G2=some (.int (Int.fdiv x (15 ^ (A / N))),G2):=by
    refine I7 ?_;show(if decide (0<(15:Int) ^ (A / N))&&decide (((15:Int) ^ (A / N)).natAbs.log2<8000)then some (Int.fdiv x (15 ^ (A / N)))else .none)=_;rw[ac (by rw[aY,bp,bp];exact⟨Int.pow_pos (by decide),IE _ hk⟩)]
   have lN:bi .len [au 1] H.length G2=some (.int (N:Int),G2):=by rw[KA n2,ao]
   have ix:idx (au 1) (.int ((A % N:Nat):Int)) G2=some (.int x):=oz n2 (by rw[aB,hx];rfl);replace ne:bO .ne (au 1) (.ref H.length (G1.sz H.length)) G2=some true:=ne;refine tail (Int.fdiv x (15 ^ (A / N))) G2 t2 ?_;apply NK
   ·apply vo
    ·repeat left
    ·exact kT da q1 (by decide)
    ·exact ne
   left;left
   ·repeat left
   ·repeat left
   ·exact fx
noncomputable def bK(c:cL):V:=.tup [.int c.g,.int c.c,.int c.s,.int c.p]
noncomputable def cQ(pc:Int→Option (List Int))(x:cL)(n:Int):List cL×Int:=match pc x.g with
 |.none=>([x],n)
 |some ps=>if ps.length=1 then(ps.map fun p=>{x with g:=p},n)else(ps.mapIdx fun j p=>⟨p,x.c,n+1,j⟩,n+1)
noncomputable def jE(pc:Int→Option (List Int)):List cL→Int→List cL×Int
 |[],n=>([],n)
 |x::l,n=>let r:=cQ pc x n;let t:=jE pc l r.2;(r.1++t.1,t.2)
theorem IX(pc:Int→Option (List Int))(x:Inf)(n:Int):(bb pc x n).1.map Inf.cell=(cQ pc x.cell n).1∧(bb pc x n).2=(cQ pc x.cell n).2:=by
 unfold bb cQ;have:x.cell.g=x.g:=rfl;rw[this];induction pc x.g with
 |none=>exact⟨rfl,rfl⟩
 |some ps=>
  dsimp only;split
  ·refine⟨?_,rfl⟩;rw[List.map_map];rfl
  ·refine⟨?_,rfl⟩;apply ch;intro k;simp only[aB,List.getElem?_mapIdx];cases ps[k]? <;> rfl
theorem yH(pc:Int→Option (List Int)):∀(s:List Inf) (n:Int),(b0 pc s n).1.map Inf.cell=(jE pc (s.map Inf.cell) n).1∧(b0 pc s n).2=(jE pc (s.map Inf.cell) n).2
 |[],n=>⟨rfl,rfl⟩
 |x::l,n=>by
  have h:=IX pc x n;have h2:=yH pc l (bb pc x n).2;refine⟨?_,?_⟩
  ·show((bb pc x n).1++(b0 pc l (bb pc x n).2).1).map Inf.cell=(cQ pc x.cell n).1++(jE pc (l.map Inf.cell) (cQ pc x.cell n).2).1;rw[List.map_append,h.1,h2.1,h.2]
  ·show(b0 pc l (bb pc x n).2).2=(jE pc (l.map Inf.cell) (cQ pc x.cell n).2).2;rw[h2.2,h.2]
theorem getL:Hp.get (H++[R]) H.length i=R[i]?:=by
 unfold Hp.get;rw[bB (aS _)];simp
theorem JK:Hp.ins (H++[R]) H.length o=H++[R++[o]]:=by
 unfold Hp.ins;rw[bB (aS _)];simp
theorem Oh:Hp.sz (H++[R]) H.length=R.length:=by
 unfold Hp.sz;rw[bB (aS _)];simp
theorem putL:Hp.put (H++[R]) H.length i o=H++[R.set i o]:=by
 unfold Hp.put;rw[bB (aS _)];simp
section
variable{cs:List cL}
theorem kc(hr:H.get r i=some (.list (cs.map bK))){c:cL}(h:cs[k]?=some c):idx (.ref r i) (.int (k:Int)) H=some (bK c):=oz hr (by rw[aB,h];rfl)
theorem B3:∀{m:Nat} {a:Int} {j:Nat},j<m→(dJ a m)[j]?=some (.int (a-j))
 |0,_,_,h=>by exact absurd ‹_› (Nat.not_lt_zero _)
 |m+1,a,0,h=>congrArg (fun z=>some (V.int z)) (Int.sub_zero a).symm
 |m+1,a,j+1,h=>by
  show(dJ (a-1) m)[j]?=_;rw[B3 (aL ‹_›)];congr 2;omega
theorem Hc:∀{m:Nat} {a:Int},(dJ a m).length=m:=by
 intro zz;induction zz with
 |zero=>
  intro _;exact rfl
 |succ m ih=>
  intro a;exact congrArg (· + 1) ih
theorem A8(hr:H.get r i=some (.list (cs.map bK)))(hs:∀c∈cs,0≤c.s)(hk:k<cs.length)(hl:cs.length≤500):dQ [.ref r i,.int k] q H=some (.bool (g7 cs k),H):=by
 obtain⟨x,hx⟩:∃x,cs[k]?=some x:=⟨_,ay hk⟩;have xs:=hs x (aP hx);have ix:=kc hr hx;have e0:g7 cs k=gp cs x k:=by unfold g7;rw[hx]
 rw[e0];have x2:idx (bK x) (.int 2) H=some (.int x.s):=rfl;have x3:idx (bK x) (.int 3) H=some (.int x.p):=rfl;have key:∀(h j K:Nat) (z:Option V),h+j=k→h<K→∃ρ',aC (di (.nm 2) (.fixed (dJ ((k:Int)-1) k)) kI K j::[(aF (ai (V.bool false)))]) [some (.ref r i),some (.int k),z,none] q H=some (.ret (.bool (gp cs x h)),ρ',H):=by
  intro h;induction h with
  |zero=>
   intro j K z hj hK;obtain⟨K,rfl⟩:=oQ K ‹_›;apply Exists.intro;apply iQ
   ·show some _=_;rw[gB.mpr (by rw[Hc];omega)]
   repeat left
  |succ h ih=>
   intro j K z hj hK;obtain⟨K,rfl⟩:=oQ K ‹_›;obtain⟨y,hy⟩:∃y,cs[h]?=some y:=⟨_,ay (by omega)⟩;have iy:=kc hr hy;have y0:idx (bK y) (.int 0) H=some (.int y.g):=rfl;have y2:idx (bK y) (.int 2) H=some (.int y.s):=rfl;have y3:idx (bK y) (.int 3) H=some (.int y.p):=rfl;have it0:item (.fixed (dJ ((k:Int)-1) k)) j H=some (some (.int (h:Int))):=by
    show some _=_;rw[B3 (by omega)];congr 3;omega
   have e1:gp cs x (h+1)=if 0<x.s∧¬y.g=11 then(if y.s=x.s then decide (y.p<x.p)else gp cs x h)else false:=by
    show(match cs[h]? with | .none=>false|some y=>_)=_;rw[hy]
   rw[e1];by_cases c1:x.s=0
   ·rw[af (by omega)];apply Exists.intro;apply dO
    ·exact it0
    ·exact rfl
    repeat left
   ·by_cases c2:y.g=11
    ·rw[af (by simp[c2])];apply Exists.intro;apply dO
     ·exact it0
     ·exact rfl
     repeat left
    ·rw[ac ⟨by omega,c2⟩];by_cases c3:y.s=x.s
     ·rw[ac c3];apply Exists.intro;apply dO
      ·exact it0
      ·exact rfl
      repeat left
     ·rw[af c3];refine⟨(ih (j+1) K (some (.int h)) (by omega) (aL ‹_›)).choose,?_⟩;apply dO
      ·exact it0
      ·exact rfl
      repeat left
      try exact(ih (j+1) K (some (.int h)) (by omega) (aL ‹_›)).choose_spec
 have rg:∀{ρ:bJ},ρ[1]?=some (some (.int k))→bk [(aI .sub (aa 1) (ai (V.int 1))),(iE (ai (V.int 1))),(iE (ai (V.int 1)))] ρ q H=some (.fixed (dJ ((k:Int)-1) k),H):=by
  intro ρ r1;unfold bk;rw[aX (v6 (bq r1) eB rfl) (aX (La eB) (aX (La eB) da))];show(match(if -100000<(k:Int)-1∧(k:Int)-1<100000∧-100000<(-1:Int)∧(-1:Int)<100000∧(-1:Int) = -1 then some (dJ ((k:Int)-1) ((k:Int)-1-(-1)).toNat)else none)with|some m=>some (It.fixed m,H) | .none=>.none)=_;rw[ac (by omega),show((k:Int)-1-(-1)).toNat=k by omega]
 apply bQ rfl rfl;apply iz
 ·exact rg rfl
 exact(key k 0 2000 none rfl (Nat.lt_trans (Nat.lt_of_lt_of_le ‹_› ‹_›) (by decide))).choose_spec
theorem Cw(hr:H.get r i=some (.list (cs.map bK)))(hs:∀c∈cs,0≤c.s)(hk:k≤cs.length)(hl:cs.length≤500):iH [.ref r i,.int k] q H=some (.int (bI cs k),H):=by
 have key:∀(k K:Nat) (z:V),k≤cs.length→k<K→∃ρ',aC (cE rv qY K::[(aF (aa 2))]) [some (.ref r i),some z,some (.int ((k:Int)-1)),none] q H=some (.ret (.int (bI cs k)),ρ',H):=by
  intro k;induction k with
  |zero=>
   intro K z _ hK;obtain⟨K,rfl⟩:=oQ K ‹_›;apply Exists.intro;apply wF
   ·repeat left
   repeat left
  |succ k ih=>
   intro K z hk hK;obtain⟨K,rfl⟩:=oQ K ‹_›;obtain⟨y,hy⟩:∃y,cs[k]?=some y:=⟨_,ay (Nat.lt_of_succ_le ‹_›)⟩;have iy:=kc hr hy;have y0:idx (bK y) (.int 0) H=some (.int y.g):=rfl;have lt:=A8 (q:=q) hr hs (show k<cs.length by exact Nat.lt_of_succ_le ‹_›) hl;have e:(((k+1:Nat):Int)-1)=(k:Int):=by omega
   rw[e];have hm:cJ cs k=decide (y.g=11):=by unfold cJ;rw[hy]
   by_cases c:y.g=11
   ·have e2:bI cs (k+1)=bI cs k:=by show(if _ then _ else _)=_;rw[hm];simp[c]
    rw[e2];refine⟨(ih K z (Nat.le_of_succ_le ‹_›) (aL ‹_›)).choose,?_⟩;apply wT
    ·repeat left
    repeat left
    try exact(ih K z (Nat.le_of_succ_le ‹_›) (aL ‹_›)).choose_spec
   ·induction hla:g7 cs k with
    |true=>
     have e2:bI cs (k+1)=bI cs k:=by show(if _ then _ else _)=_;rw[hla];simp
     rw[hla]at lt;rw[e2];refine⟨(ih K z (Nat.le_of_succ_le ‹_›) (aL ‹_›)).choose,?_⟩;apply wT
     ·repeat left
     repeat left
     try exact(ih K z (Nat.le_of_succ_le ‹_›) (aL ‹_›)).choose_spec
    |false=>
     have e2:bI cs (k+1)=k:=by show(if _ then _ else _)=_;rw[hla,hm];simp[c]
     rw[hla]at lt;rw[e2];apply Exists.intro;apply wF
     ·repeat left
     repeat left
 apply bQ rfl rfl;repeat left
 apply Jk;exact(key k 2000 _ hk (aJ (aO ‹_› ‹_›) (by decide))).choose_spec
end
theorem NW{a c:List V}(h1:H.get r i=some (.list a))(h2:H.get r' i'=some (.list c))(hq:q<H.length)(hl:(a++c).length≤9000):im .add (.ref r i) (.ref r' i') q H=some (.ref q (H.sz q),H.ins q (.list (a++c))):=by
 show(match H.get r i,H.get r' i' with|some (.list a),some (.list b)=>H.new q (.list (a++b))|_,_=>.none)=_;rw[h1,h2];exact Hp.new_eq hq (by simpa[O.fits]using hl)
theorem Df(M:Mp d pc){x:cL}:(cQ pc x n).1.length≤3:=by
 unfold cQ;induction hp:pc x.g with
 |none=>show 1≤3;decide
 |some ps=>
  have:=(M.ok _ _ hp).2.1;dsimp only;split
  ·rw[ao];exact this
  ·rw[ca];exact this
section
variable{md:Nat}{cs:List cL}
theorem lU(hr:H.get r i=some (.list (cs.map bK)))(hd:H.get 0 md=some (.dict d))(M:Mp d pc)(hl:cs.length≤200):∃R' t',f7 gz [.ref r i,au md,.int n] q H=some (.tup [.ref H.length t',.int (jE pc cs n).2],H++[R'])∧R'[t']?=some (.list ((jE pc cs n).1.map bK)):=by
 have hq:∀R,H.length<(H++[R]).length:=fun R=>by simp
 have key:∀(rest:List cL) (j K:Nat) (n:Int) (z4 z5 z6 z7 z8:Option V) (R:List O) (t:Nat) (out:List cL),cs.drop j=rest→rest.length<K→R[t]?=some (.list (out.map bK))→out.length+3*rest.length≤900→
   ∃R' t' ρ',aC (di (.tp [4,5,6,7]) (.live r i) oW K j::[(aF (bP [(aa 3),(aa 2)]))]) [some (.ref r i),some (au md),some (.int n),some (.ref H.length t),z4,z5,z6,z7,z8,none,none] H.length (H++[R])=some (.ret (.tup [.ref H.length t',.int (jE pc rest n).2]),ρ',H++[R'])∧R'[t']?=some (.list ((out++(jE pc rest n).1).map bK)):=by
  intro rest;induction rest with
  |nil=>
   intro j K n z4 z5 z6 z7 z8 R t out hj hK hR _;obtain⟨K,rfl⟩:=oQ K (by simp at hK;assumption);refine⟨R,t,_,iQ ((aE (eN hr) j).trans (by rw[gB.mpr (by rw[ao];exact List.drop_eq_nil_iff.mp hj)])) (BP (Bt (aX (bq rfl) (aX (bq rfl) da)) (bv rfl))),?_⟩;rw[show(jE pc [] n).1=[]from rfl,List.append_nil];exact hR
  |cons x rest ih=>
   intro j K n z4 z5 z6 z7 z8 R t out hj hK hR hb;obtain⟨K,rfl⟩:=oQ K (by simp at hK;assumption);simp only[List.length_cons]at hK hb;have hx:cs[j]?=some x:=by
    have:=congrArg (fun l=>l[0]?) hj;simpa[List.getElem?_drop]using this
   have hj':cs.drop (j+1)=rest:=by rw[←bX,hj];rfl
   have it0:item (.live r i) j (H++[R])=some (some (bK x)):=(aE (eN hr) j).trans (by rw[aB,hx];rfl);have gt:Hp.get (H++[R]) H.length t=some (.list (out.map bK)):=getL.trans hR;have gd:Hp.get (H++[R]) 0 md=some (.dict d):=eN hd;have kk:(cg (.int x.g)&&aW (.int x.g) d)=true:=by rw[M.kind];rfl
   have ht:t<R.length:=(Ok.mp hR).1;have er:(jE pc (x::rest) n).1=(cQ pc x n).1++(jE pc rest (cQ pc x n).2).1:=rfl;have er2:(jE pc (x::rest) n).2=(jE pc rest (cQ pc x n).2).2:=rfl;have s3:=Df (n:=n) M (x:=x);rw[er,er2,←bH];let R1:List O:=R.set t (.list (out.map bK));by_cases hone:(pc x.g).all (fun ps=>ps.length=1)=true
   ·obtain⟨p,P,hP,hg,hs⟩:∃p P,(dG d (.int x.g)).getD (.tup [.int x.g])=.tup P∧P=[V.int p]∧cQ pc x n=([{x with g:=p}],n):=by
     rw[M.get];unfold cQ;induction hp:pc x.g with
     |none=>exact⟨x.g,_,rfl,rfl,rfl⟩
     |some ps=>
      rw[hp]at hone;simp only[Option.all_some,bp]at hone;obtain⟨p,rfl⟩:∃p,ps=[p]:=by
       match ps,hone with
       |[p],_=>exact⟨p,rfl⟩
      exact⟨p,_,rfl,rfl,rfl⟩
    subst hg;rw[hs]at *;have hR1:(R.set t (.list ((out++[({x with g:=p}:cL)]).map bK)))[t]?=some (.list ((out++[({x with g:=p}:cL)]).map bK)):=bL ht;obtain⟨R',t',ρ',e,hR'⟩:=ih (j+1) K n (some (.int x.g)) (some (.int x.c)) (some (.int x.s)) (some (.int x.p)) (some (.tup [.int p])) _ t (out++[{x with g:=p}]) hj' (aL ‹_›) hR1 (by simp;omega);refine⟨R',t',ρ',?_,hR'⟩;have l1:bi .len [.tup [V.int p]] H.length (H++[R])=some (.int 1,H++[R]):=rfl;have i0:idx (.tup [V.int p]) (.int 0) (H++[R])=some (.int p):=rfl;apply dO
    ·exact it0
    ·exact rfl
    left;left
    ·exact(EE (bq rfl) (bq rfl) gd (w:=some (bP [(aa 4)])) (y:=.tup [.int x.g]) (Bt (aX (bq rfl) da) (bv rfl)) kk).trans (by rw[hP])
    repeat left
    ·apply mv
     ·left
     ·repeat left
     ·exact gt
     ·rw[ao];omega
    rw[putL,show out.map bK++[V.tup [.int p,.int x.c,.int x.s,.int x.p]]=(out++[({x with g:=p}:cL)]).map bK by rw[List.map_append];rfl];repeat left
    try exact e
   ·obtain⟨ps,hp,h1⟩:∃ps,pc x.g=some ps∧ps.length≠1:=by
     induction hp:pc x.g with
     |none=>rw[hp]at hone;exact absurd rfl hone
     |some ps=>rw[hp]at hone;simp only[Option.all_some,bp]at hone;exact⟨ps,rfl,hone⟩
    have o2:=(M.ok _ _ hp).2.1;have hs:cQ pc x n=(ps.mapIdx fun j p=>⟨p,x.c,n+1,j⟩,n+1):=by unfold cQ;rw[hp];dsimp only;rw[af h1]
    have hP:(dG d (.int x.g)).getD (.tup [.int x.g])=.tup (ps.map .int):=by rw[M.get,hp];rfl
    rw[hs]at *;dsimp only at s3⊢;let ys:List V:=(ps.mapIdx fun j p=>(⟨p,x.c,n+1,j⟩:cL)).map bK;have ysl:ys.length=ps.length:=by rw[ao,ca]
    let R1:List O:=R++[.list ys];let R2:List O:=R1++[.list (out.map bK++ys)];have g1:Hp.get (H++[R1]) H.length R.length=some (.list ys):=getL.trans (by simp[R1]);have gt1:Hp.get (H++[R1]) H.length t=some (.list (out.map bK)):=getL.trans (by rw[cD ht];exact hR);have hR2:R2[R1.length]?=some (.list ((out++ps.mapIdx fun j p=>(⟨p,x.c,n+1,j⟩:cL)).map bK)):=by
     simp only[R2,bB (aS _),Nat.sub_self,List.getElem?_cons_zero,List.map_append];rfl
    have l1:bi .len [.tup (ps.map V.int)] H.length (H++[R])=some (.int (ps.length:Int),H++[R]):=by
     show(if(ps.map V.int).length≤9000 then some (V.int (ps.map V.int).length,H++[R])else .none)=_;rw[ac (by rw[ao];exact aO ‹_› (by decide)),ao]
    obtain⟨R',t',ρ',e,hR'⟩:=ih (j+1) K (n+1) (some (.int x.g)) (some (.int x.c)) (some (.int x.s)) (some (.int x.p)) (some (.tup (ps.map .int))) R2 R1.length _ hj' (aL ‹_›) hR2 (by simp;omega);refine⟨R',t',ρ',?_,hR'⟩;have cp:bo 5 (bk [(cK .len [(aa 8)])]) (.nm 12) [] kv [some (.ref r i),some (au md),some (.int (n+1)),some (.ref H.length t),some (.int x.g),some (.int x.c),some (.int x.s),some (.int x.p),some (.tup (ps.map .int)),none,none] H.length (H++[R])=some (.ref H.length R.length,H++[R1]):=by
     apply gF
     ·apply qE (m:=ps.length)
      ·left
       ·repeat left
       exact l1
      ·exact aJ ‹_› (by decide)
     have:=fV (z:=none) (v:=12) (E:=kv) (it:=.fixed (bw 0 ps.length)) (l:=bw 0 ps.length) (ρ:=[some (.ref r i),some (au md),some (.int (n+1)),some (.ref H.length t),some (.int x.g),some (.int x.c),some (.int x.s),some (.int x.p),some (.tup (ps.map .int)),none,none,none,none,none,none,none]) (H:=H++[R]) (q:=H.length) (ys:=ys) (fun j=>rfl) (hq R) (by rw[aR];exact aO ‹_› (by decide)) (by rw[aR];exact ysl) (by
      intro a u w hu hw;have ha:a<ps.length:=by have:=(Ok.mp hu).1;rw[aR]at this;exact this
      rw[cv ha]at hu;have hu:u=.int (a:Int):=by induction hu using QT;congr 1;exact Int.zero_add _
      subst hu;obtain⟨p,hpa⟩:∃p,ps[a]?=some p:=⟨_,ay ha⟩;simp only[ys,aB,List.getElem?_mapIdx,hpa,Option.map_some,Option.some.injEq]at hw;subst hw;have ix:idx (.tup (ps.map .int)) (.int (a:Int)) (H++[R])=some (.int p):=NV (Nat.lt_trans (Nat.lt_of_lt_of_le ‹_› ‹_›) (by decide)) (by rw[aB,hpa];rfl);show _=some (V.tup [.int p,.int x.c,.int (n+1),.int (a:Int)],_);repeat left)
     rw[JK,Oh]at this;exact this
    have ad:im .add (.ref H.length t) (.ref H.length R.length) H.length (H++[R1])=some (.ref H.length R1.length,H++[R2]):=by
     have:=NW gt1 g1 (hq R1) (by rw[bx,ao,ysl];omega);rw[JK,Oh]at this;exact this
    apply dO
    ·exact it0
    ·exact rfl
    left;left
    ·exact(EE (bq rfl) (bq rfl) gd (w:=some (bP [(aa 4)])) (y:=.tup [.int x.g]) (Bt (aX (bq rfl) da) (bv rfl)) kk).trans (by rw[hP])
    repeat left
    ·exact cp
    ·exact ad
    repeat left
    try exact e
 have h0:([.list []]:List O)[0]?=some (.list (([]:List cL).map bK)):=rfl;obtain⟨R',t',ρ',e,hR'⟩:=key cs 0 2000 n none none none none none [.list []] 0 [] rfl (aJ ‹_› (by decide)) h0 (by simp;omega);refine⟨R',t',?_,by simpa using hR'⟩;unfold f7;apply bQ rfl rfl;left
 ·exact kT da (hq []) (by decide)
 rw[JK,Oh];apply iz
 ·exact vP (bq rfl) (eN hr)
 exact e
end
def w6(D:ti)(l:List cL):Int:=(l.map fun c=>vD D c.g).sum
def v7(D:ti)(cs:List cL)(k:Nat)(c:cL):Int:=if c.g=11∧0≤bI cs k then D.px (d6 cs (bI cs k).toNat)-4-w6 D ((cs.take k).drop (bI cs k).toNat)else 0
def w4(D:ti)(cs:List cL)(k:Nat)(c:cL):Int:=if c.g=11∧0≤bI cs k then D.py (d6 cs (bI cs k).toNat)-9 else 0
def wZ(D:ti)(cs:List cL)(k:Nat)(c:cL):V:=.tup [.int c.g,.int c.c,.int (vD D c.g),.int 0,.int (v7 D cs k c),.int (w4 D cs k c)]
def Ld(u:Nat)(H H':Hp):Prop:=H'.length=H.length∧∀(r i:Nat) (o:O),H.get r i=some o→¬(r=0∧i=u)→H'.get r i=some o
theorem Ld.refl(u:Nat)(H:Hp):Ld u H H:=⟨rfl,fun _ _ _ h _=>h⟩
theorem Ld.trans{A B C:Hp}(x:Ld u A B)(y:Ld u B C):Ld u A C:=⟨y.1.trans x.1,fun r i o h h1=>y.2 r i o (x.2 r i o h h1) h1⟩
theorem Lx.ld(x:Lx H H'):Ld u H H':=⟨x.1,fun r i o h _=>x.2 r i o h⟩
theorem Ld.put:Ld u H (H.put 0 u o):=⟨Hp.len_put,fun r i o' h h1=>zt (fun h=>h1 ⟨h.1.symm,h.2.symm⟩) h⟩
theorem Lm{g:Nat}(h:1≤g∧g≤9):(pL D)[g]?=some (pV D g):=by
 have:=nine (g:=g) ‹_›;rcases this with rfl|rfl|rfl|rfl|rfl|rfl|rfl|rfl|rfl<;>rfl
theorem NX{a c:Ev}{x y:Nat}(h1:a ρ q H=some (.int x,H))(h2:c ρ q H=some (.int y,H))(hx:x≤y)(hy:y<1000):bk [a,c] ρ q H=some (.fixed (bw x (y-x)),H):=by
 unfold bk;rw[aX h1 (aX h2 da)];dsimp only;rw[Ly (by omega),show((y:Int)-x).toNat=y-x from congrArg Int.toNat (Int.ofNat_sub hx).symm]
section
variable{t:Nat}{cs:List cL}{z0 z2 z6 z7 z8 z9 z10 z11 z12 z15:Option V}
theorem DX(h:H.get 0 8=some (.list (wL D)))(hg:qC g)(h11:g≠11):idx (au 8) (.int g) H=some (.int (vD D g)):=by
 have h19:1≤g∧g≤9:=by rcases hg with h|h;exact absurd h h11;exact h
 have:=oz (k:=g.toNat) h (Ie (by omega));rw[Int.toNat_of_nonneg (by omega)]at this;rw[this];unfold vD;rw[af h11]
theorem M0(hr:H.get 6 t=some (.list (cs.map bK)))(h8:H.get 0 8=some (.list (wL D)))(hg:∀c∈cs,qC c.g)(hw:∀g, -1000≤D.w g∧D.w g≤1000)(hk:k≤cs.length)(hl:cs.length≤500)(hp:p≤k)(H0:0<H.length)(r4:ρ[4]?=some (some (au 8)))(r14:ρ[14]?=some (some (.ref 6 t)))(r17:ρ[17]?=some (some (.int p)))(r13:ρ[13]?=some (some (.int k)))(rl:ρ.length=42):∃H',cK .sum [(bo 4 (bk [(aa 17),(aa 13)]) (.nm 43) [] yT)] ρ 0 H=some (.int (w6 D ((cs.take k).drop p)),H')∧Lx H H':=by
 let l:=(cs.take k).drop p;have ll:l.length=k-p:=by simp only[l,ck,bh];omega
 let ys:List Int:=l.map fun c=>vD D c.g;have hz:(ρ++List.replicate 4 none)=(ρ++List.replicate 4 none).set 43 none:=by
  have:(ρ++List.replicate 4 none)[43]?=some none:=by rw[bB (by omega),rl];rfl
  obtain⟨h1,h2⟩:=Ok.mp this
  conv=>lhs;rw[←List.set_getElem_self (as:=ρ++List.replicate 4 none) h1,h2]
 have cp:bo 4 (bk [(aa 17),(aa 13)]) (.nm 43) [] yT ρ 0 H=some (.ref 0 (H.sz 0),H.ins 0 (.list (ys.map .int))):=by
  apply gF
  ·exact NX (bq r17) (bq r13) hp (aJ (aO ‹_› ‹_›) (by decide))
  rw[hz];refine fV (z:=none) (v:=43) (fun j=>rfl) H0 (by rw[aR];omega) (by rw[aR,ao,ao,ll]) ?_;intro a x y hx hy;have ha:a<k-p:=by have:=(Ok.mp hx).1;rw[aR]at this;exact this
  rw[cv ha]at hx;have hx:x=.int ((p+a:Nat):Int):=by induction hx using QT;congr 1
  subst hx;obtain⟨c,hc⟩:∃c,cs[p+a]?=some c:=⟨_,ay (by omega)⟩;have hla:l[a]?=some c:=by simp only[l,List.getElem?_drop,List.getElem?_take];rw[ac (by omega)];exact hc
  simp only[ys,aB,hla,Option.map_some,Option.some.injEq]at hy;subst hy;have ic:=kc hr hc;have c0:idx (bK c) (.int 0) H=some (.int c.g):=rfl;have gc:=hg c (aP hc);have s14:((ρ++List.replicate 4 none).set 43 (some (V.int ((p+a:Nat):Int))))[14]?=some (some (.ref 6 t)):=by rw[List.getElem?_set_ne (by decide),cD (by omega)];exact r14
  have s4:((ρ++List.replicate 4 none).set 43 (some (V.int ((p+a:Nat):Int))))[4]?=some (some (au 8)):=by rw[List.getElem?_set_ne (by decide),cD (by omega)];exact r4
  have s43:((ρ++List.replicate 4 none).set 43 (some (V.int ((p+a:Nat):Int))))[43]?=some (some (V.int ((p+a:Nat):Int))):=bL (by simp[rl]);have e0:aG (aG (aa 14) (aa 43)) (ai (V.int 0)) ((ρ++List.replicate 4 none).set 43 (some (V.int ((p+a:Nat):Int)))) 0 H=some (.int c.g,H):=DB (DB (bq s14) (bq s43) ic) eB c0;by_cases h11:c.g=11
  ·have:vD D c.g=0:=by unfold vD;rw[ac h11]
   rw[this];exact NK (vo e0 eB (NQ h11)) (Hk eB)
  ·exact NK (vo e0 eB (Nk h11)) (I2 (DB (bq s4) e0 (DX h8 gc h11)))
 refine⟨H.ins 0 (.list (ys.map .int)),LK (aX cp da) ?_,Lx.ins⟩;show(match(H.ins 0 (.list (ys.map .int))).get 0 (H.sz 0)with|some (.list l)=>(match d7 l with|some is=>if is.all (fun x=>decide (-1000000000000<x)&&decide (x<1000000000000))then some (V.int is.sum,H.ins 0 (.list (ys.map .int)))else .none | .none=>.none)|_=>.none)=_;rw[Hp.get_ins_self H0];dsimp only;rw[iZ];dsimp only;rw[ac]
 ·rfl
 ·rw[pI];intro x hx;obtain⟨c,_,rfl⟩:=MQ.mp hx;have:=hw c.g.toNat;unfold vD;rw[aY,bp,bp];split<;>omega
end
section
variable{D:ti}{t u:Nat}{cs:List cL}{z0 z1 z2 z3 z6 z7 z8 z9 z10 z11 z12 z15:Option V}
def qP(D:ti)(cs:List cL):List V:=cs.mapIdx (wZ D cs)
theorem Nh(hr:H.get 6 t=some (.list (cs.map bK)))(h8:H.get 0 8=some (.list (wL D)))(h9:H.get 0 9=some (.list (pL D)))(hu:u≠8∧u≠9)(hd:H.get 0 u=some (.list []))(hg:∀c∈cs,qC c.g)(hs:∀c∈cs,0≤c.s)(hw:∀g, -1000≤D.w g∧D.w g≤1000)(hl:cs.length≤500):∃H' y13 y17 y18 y19,bG (bk [(cK .len [(aa 14)])]) (.nm 13) oj [z0,z1,z2,z3,some (au 8),some (au 9),z6,z7,z8,z9,z10,z11,z12,none,some (.ref 6 t),z15,some (.ref 0 u),none,none,none,none,none,none,none,none,none,none,none,none,none,none,none,none,none,none,none,none,none,none,none,none,none] 0 H=some (.next,[z0,z1,z2,z3,some (au 8),some (au 9),z6,z7,z8,z9,z10,z11,z12,y13,some (.ref 6 t),z15,some (.ref 0 u),y17,y18,y19,none,none,none,none,none,none,none,none,none,none,none,none,none,none,none,none,none,none,none,none,none,none],H')∧Ld u H H'∧H'.get 0 u=some (.list (qP D cs)):=by
 have dl:(qP D cs).length=cs.length:=ca;have key:∀(m j K:Nat) (y13 y17 y18 y19:Option V) (H':Hp),j+m=cs.length→m<K→Ld u H H'→H'.get 0 u=some (.list ((qP D cs).take j))→
   ∃H'' y13' y17' y18' y19',aC [di (.nm 13) (.fixed (bw 0 cs.length)) oj K j] [z0,z1,z2,z3,some (au 8),some (au 9),z6,z7,z8,z9,z10,z11,z12,y13,some (.ref 6 t),z15,some (.ref 0 u),y17,y18,y19,none,none,none,none,none,none,none,none,none,none,none,none,none,none,none,none,none,none,none,none,none,none] 0 H'=some (.next,[z0,z1,z2,z3,some (au 8),some (au 9),z6,z7,z8,z9,z10,z11,z12,y13',some (.ref 6 t),z15,some (.ref 0 u),y17',y18',y19',none,none,none,none,none,none,none,none,none,none,none,none,none,none,none,none,none,none,none,none,none,none],H'')∧Ld u H H''∧H''.get 0 u=some (.list (qP D cs)):=by
  intro m;induction m with
  |zero=>
   intro j K y13 y17 y18 y19 H' hj hK X hd;obtain⟨K,rfl⟩:=oQ K ‹_›;rw[List.take_of_length_le (Rn ‹_› ‹_›)]at hd;exact⟨H',y13,y17,y18,y19,iQ (by show some _=_;rw[gB.mpr (by rw[aR];exact Ru ‹_›)]) kW,X,hd⟩
  |succ m ih=>
   intro j K y13 y17 y18 y19 H' hj hK X hd;obtain⟨K,rfl⟩:=oQ K ‹_›;obtain⟨c,hc⟩:∃c,cs[j]?=some c:=⟨_,ay (RA ‹_›)⟩;have gc:=hg c (aP hc);have hr':=X.2 _ _ _ hr (fun h=>absurd h.1 (by decide));have h8':=X.2 _ _ _ h8 (by omega);have h9':=X.2 _ _ _ h9 (by omega);have H0:0<H'.length:=Hp.lt_of_get hd;have ic:=kc hr' hc;have c0:∀H,idx (bK c) (.int 0) H=some (.int c.g):=fun _=>rfl;have c1:∀H,idx (bK c) (.int 1) H=some (.int c.c):=fun _=>rfl;have c0':=c0 H';have c1':=c1 H';have it0:item (.fixed (bw 0 cs.length)) j H'=some (some (.int (j:Int))):=by
    show some _=_;rw[cv (RA ‹_›)];congr 3;exact Int.zero_add _
   have tk:(qP D cs).take (j+1)=(qP D cs).take j++[wZ D cs j c]:=by
    rw[List.take_succ_eq_append_getElem (Rl ‹_› ‹_›)];congr 2;have:(qP D cs)[j]?=some (wZ D cs j c):=by unfold qP;rw[List.getElem?_mapIdx,hc];rfl
    rw[ay (Rl ‹_› ‹_›)]at this;exact av this
   have nx:∀(H2:Hp) (b19 b17 b18:Option V),Lx H' H2→∃H'' y13' y17' y18' y19',aC [di (.nm 13) (.fixed (bw 0 cs.length)) oj K (j+1)] [z0,z1,z2,z3,some (au 8),some (au 9),z6,z7,z8,z9,z10,z11,z12,some (.int j),some (.ref 6 t),z15,some (.ref 0 u),b17,b18,b19,none,none,none,none,none,none,none,none,none,none,none,none,none,none,none,none,none,none,none,none,none,none] 0 (H2.put 0 u (.list ((qP D cs).take j++[wZ D cs j c])))=some (.next,[z0,z1,z2,z3,some (au 8),some (au 9),z6,z7,z8,z9,z10,z11,z12,y13',some (.ref 6 t),z15,some (.ref 0 u),y17',y18',y19',none,none,none,none,none,none,none,none,none,none,none,none,none,none,none,none,none,none,none,none,none,none],H'')∧Ld u H H''∧H''.get 0 u=some (.list (qP D cs)):=by
    intro H2 b19 b17 b18 X2;exact ih (j+1) K _ _ _ _ _ (Q8 ‹_›) (aL ‹_›) (X.trans (X2.ld.trans Ld.put)) (by rw[tk];exact Hp.get_put_self (X2.2 _ _ _ hd))
   have lb:=Cw (q:=0) hr' hs (show j≤cs.length by exact Nat.le_of_lt (RA ‹_›)) hl;by_cases h11:c.g=11
   ·have w0:vD D c.g=0:=by unfold vD;rw[ac h11]
    by_cases hb:0≤bI cs j
    ·obtain⟨p,hp⟩:∃p:Nat,bI cs j=p:=⟨_,(Int.toNat_of_nonneg hb).symm⟩;have hpj:p<j:=by have:=(jK (c:=cs) j).2;exact Q9 ‹_› ‹_›
     obtain⟨y,hy⟩:∃y,cs[p]?=some y:=⟨_,ay (by omega)⟩;have hym:¬y.g=11:=by have:=kz hp;unfold cJ at this;rw[hy]at this;exact of_decide_eq_false this
     have h19:1≤y.g∧y.g≤9:=by rcases hg y (aP hy)with h|h;exact absurd h hym;exact h
     obtain⟨g,hgy⟩:∃g:Nat,y.g=g:=⟨y.g.toNat,by exact Rv (And.left ‹_›)⟩;have ga:d6 cs p=g:=by unfold d6;rw[hy];show y.g.toNat=g;exact QC ‹_›
     have hv:wZ D cs j c=.tup ([.int c.g,.int c.c,.int 0,.int 0]++[.int (D.px g-4-w6 D ((cs.take j).drop p)),.int (D.py g-9)]):=by
      unfold wZ v7 w4;rw[ac ⟨h11,hb⟩,ac ⟨h11,hb⟩,hp,Int.toNat_natCast,ga,w0];rfl
     rw[hp]at lb;obtain⟨H2,e2,X2⟩:=M0 (t:=t) (ρ:=[z0,z1,z2,z3,some (au 8),some (au 9),z6,z7,z8,z9,z10,z11,z12,some (.int j),some (.ref 6 t),z15,some (.ref 0 u),some (.int p),some (.tup [.int 0,.int 0]),y19,none,none,none,none,none,none,none,none,none,none,none,none,none,none,none,none,none,none,none,none,none,none]) hr' h8' hg hw (show j≤cs.length by exact Nat.le_of_lt (RA ‹_›)) hl (Nat.le_of_lt hpj) H0 rfl rfl rfl rfl rfl;have hr2:=X2.2 _ _ _ hr';have h92:=X2.2 _ _ _ h9';have hd2:=X2.2 _ _ _ hd;have ic2:=kc hr2 hc;have iy2:=kc hr2 hy;have c02:=c0 H2;have c12:=c1 H2;have y02:idx (bK y) (.int 0) H2=some (.int (g:Int)):=by rw[←hgy];rfl
     have ip:idx (au 9) (.int (g:Int)) H2=some (pV D g):=oz h92 (Lm (Ry hgy h19));have px:idx (pV D g) (.int 0) H2=some (.int (D.px g)):=rfl;have py:idx (pV D g) (.int 1) H2=some (.int (D.py g)):=rfl;obtain⟨H'',y13',y17',y18',y19',e,X'',hd''⟩:=nx H2 (some (.int (w6 D ((cs.take j).drop p)))) (some (.int p)) (some (.tup [.int (D.px g-4-w6 D ((cs.take j).drop p)),.int (D.py g-9)])) X2;refine⟨H'',y13',y17',y18',y19',?_,X'',hd''⟩;apply dO
     ·exact it0
     ·exact rfl
     left;left
     ·repeat left
     ·exact rfl
     left;left
     ·repeat left
     left;left;left
     ·exact e2
     repeat left
     ·apply mv
      ·left
      ·repeat left
      ·exact hd2
      ·rw[bh];omega
     rw[←hv];repeat left
     try exact e
    ·have hb1:bI cs j = -1:=by have:=(jK (c:=cs) j).1;exact Rz ‹_› ‹_›
     rw[hb1]at lb;have hv:wZ D cs j c=.tup ([.int c.g,.int c.c,.int 0,.int 0]++[.int 0,.int 0]):=by
      unfold wZ v7 w4;rw[af (by simp[hb]),af (by simp[hb]),w0];rfl
     obtain⟨H'',y13',y17',y18',y19',e,X'',hd''⟩:=nx H' y19 (some (.int (-1))) (some (.tup [.int 0,.int 0])) (Lx.refl _);refine⟨H'',y13',y17',y18',y19',?_,X'',hd''⟩;apply dO
     ·exact it0
     ·exact rfl
     repeat left
     ·apply mv
      ·left
      ·repeat left
      ·exact hd
      ·rw[bh];exact aJ (Nat.min_le_left _ _) (Nat.lt_trans (RA ‹_›) (aJ ‹_› (by decide)))
     rw[←hv];repeat left
     try exact e
   ·have hv:wZ D cs j c=.tup ([.int c.g,.int c.c,.int (vD D c.g),.int 0]++[.int 0,.int 0]):=by
     unfold wZ v7 w4;rw[af (by simp[h11]),af (by simp[h11])];rfl
    have iw:=DX h8' gc h11;obtain⟨H'',y13',y17',y18',y19',e,X'',hd''⟩:=nx H' y19 (some (.int (-1))) (some (.tup [.int 0,.int 0])) (Lx.refl _);refine⟨H'',y13',y17',y18',y19',?_,X'',hd''⟩;apply dO
    ·exact it0
    ·exact rfl
    repeat left
    ·apply mv
     ·left
     ·repeat left
     ·exact hd
     ·rw[bh];exact aJ (Nat.min_le_left _ _) (Nat.lt_trans (RA ‹_›) (aJ ‹_› (by decide)))
    rw[←hv];repeat left
    try exact e
 obtain⟨H'',y13,y17,y18,y19,e3,X3,hd3⟩:=key cs.length 0 2000 none none none none H (Nat.zero_add _) (aJ ‹_› (by decide)) (Ld.refl _ _) (by simpa using hd);refine⟨H'',y13,y17,y18,y19,?_,X3,hd3⟩;have e4:aC [bG (bk [(cK .len [(aa 14)])]) (.nm 13) oj] [z0,z1,z2,z3,some (au 8),some (au 9),z6,z7,z8,z9,z10,z11,z12,none,some (.ref 6 t),z15,some (.ref 0 u),none,none,none,none,none,none,none,none,none,none,none,none,none,none,none,none,none,none,none,none,none,none,none,none,none] 0 H=some (.next,[z0,z1,z2,z3,some (au 8),some (au 9),z6,z7,z8,z9,z10,z11,z12,y13,some (.ref 6 t),z15,some (.ref 0 u),y17,y18,y19,none,none,none,none,none,none,none,none,none,none,none,none,none,none,none,none,none,none,none,none,none,none],H''):=by
  apply iz
  ·apply qE (m:=cs.length)
   ·left
    ·repeat left
    rw[KA hr,ao]
   ·exact aJ ‹_› (by decide)
  ·exact e3
 exact(lH ..).symm.trans e4
end
noncomputable def Inf.row6(x:Inf):V:=.tup [.int x.g,.int x.c,.int x.xa,.int 0,.int x.xo,.int x.yo]
theorem AY:∀(l:List Inf) (o:Int),kY l o=o-(l.map (·.xa)).sum
 |[],o=>by show o=o-0;omega
 |x::l,o=>by
  show kY l (o-1*x.xa)=_;rw[AY l,List.map_cons,List.sum_cons];omega
theorem JB(l:List Inf)(o:Int):kX l o=o:=by
 induction l generalizing o with
 |nil=>rfl
 |cons x l ih=>show kX l (o-1*0)=o;rw[ih];omega
theorem Ko{sA s1 s2:List Inf}(h0:∀x∈sA,x.pr=0∧x.xo=0∧x.yo=0∧x.xa=vD D x.g)(S1:Su (fY D sA sA.length) s1)(S2:Su (gC s1 s1.length) s2):s2.map Inf.row6=qP D (sA.map Inf.cell):=by
 have l1:s1.length=sA.length:=by rw[S1.length];unfold fY;rw[ca]
 have l2:s2.length=sA.length:=by rw[S2.length,uu,l1]
 have row:∀{x y:Inf},x.st=y.st→x.row6=y.row6:=fun{x y} h=>show x.st.row6=y.st.row6 from congrArg Inf.row6 h;have xa1:s1.map (·.xa)=(sA.map Inf.cell).map fun c=>vD D c.g:=by
  apply ch;intro k;simp only[aB];induction hk:s1[k]? with
  |none=>
   have:sA[k]?=none:=by rw[gB]at hk⊢;omega
   rw[this];rfl
  |some x=>
   obtain⟨z,hz,ez⟩:=S1.get hk;rw[dU]at hz;induction ha:sA[k]? with
   |none=>rw[ha]at hz;exact Rk hz
   |some a=>
    rw[ha]at hz;simp only[Option.map_some,Option.some.injEq]at hz;have e1:x.xa=z.xa:=show x.st.xa=z.st.xa from congrArg Inf.xa ez;have e2:z.xa=a.xa:=by rw[←hz];split;(unfold iC;split<;>rfl);rfl
    simp only[Option.map_some,e1,e2,(h0 a (aP ha)).2.2.2];rfl
 apply ch;intro k;unfold qP;rw[aB,List.getElem?_mapIdx,aB];induction ha:sA[k]? with
 |none=>
  have:s2[k]?=none:=by rw[gB]at ha⊢;omega
  rw[this];rfl
 |some a=>
  have hk:=(Ok.mp ha).1;obtain⟨a1,a2,a3,a4⟩:=h0 a (aP ha);obtain⟨x2,hx2⟩:∃x,s2[k]?=some x:=⟨_,ay (Nat.lt_of_lt_of_eq ‹_› (Eq.symm ‹_›))⟩;obtain⟨w,hw,ew⟩:=S2.get hx2;obtain⟨x1,hx1⟩:∃x,s1[k]?=some x:=⟨_,ay (Nat.lt_of_lt_of_eq ‹_› (Eq.symm ‹_›))⟩;rw[gK,hx1]at hw;simp only[Option.map_some,show k<s1.length by exact Nat.lt_of_lt_of_eq ‹_› (Eq.symm ‹_›),if_true,Option.some.injEq]at hw;obtain⟨z,hz,ez⟩:=S1.get hx1;rw[dU,ha]at hz;simp only[Option.map_some,hk,if_true,Option.some.injEq]at hz;rw[hx2];simp only[Option.map_some,Option.some.injEq];rw[row ew,←hw];have f:∀{α:Type} (p:Inf→α),(p x1.st=p z.st):=fun p=>congrArg p ez;have fg:x1.g=z.g:=f Inf.g;have fc:x1.c=z.c:=f Inf.c;have fa:x1.xa=z.xa:=f Inf.xa;have fx:x1.xo=z.xo:=f Inf.xo;have fy:x1.yo=z.yo:=f Inf.yo;have fp:x1.pr=z.pr:=f Inf.pr;by_cases c:a.g=11∧0≤bI (sA.map Inf.cell) k
  ·have hz':z=xM D a (d6 (sA.map Inf.cell) (bI (sA.map Inf.cell) k).toNat) k (bI (sA.map Inf.cell) k).toNat:=by
    rw[←hz];unfold iC;rw[ac c]
   obtain⟨p,hpb⟩:∃p:Nat,bI (sA.map Inf.cell) k=p:=⟨_,(Int.toNat_of_nonneg c.2).symm⟩;have hlt:=(jK (c:=sA.map Inf.cell) k).2;have hdx:v7 D (sA.map Inf.cell) k a.cell=D.px (d6 (sA.map Inf.cell) p)-4-w6 D (((sA.map Inf.cell).take k).drop p):=by
    unfold v7;rw[ac (show a.cell.g=11∧_ from c),hpb,Int.toNat_natCast]
   have hdy:w4 D (sA.map Inf.cell) k a.cell=D.py (d6 (sA.map Inf.cell) p)-9:=by
    unfold w4;rw[ac (show a.cell.g=11∧_ from c),hpb,Int.toNat_natCast]
   rw[hpb,Int.toNat_natCast]at hz';rw[hpb]at hlt;have fp':x1.pr=(p:Int)-k:=by rw[fp,hz'];rfl
   have hne:x1.pr≠0:=by omega
   have ek:((k:Int)+x1.pr).toNat=p:=by omega
   have esum:((((s1.take k).drop p)).map (·.xa)).sum=w6 D (((sA.map Inf.cell).take k).drop p):=by
    unfold w6;rw[List.map_drop,List.map_take,xa1,←List.map_take,←List.map_drop]
   have es:lz s1 k x1={x1 with pr:=0,xo:=x1.xo+0-w6 D (((sA.map Inf.cell).take k).drop p),yo:=x1.yo+0}:=by
    unfold lz;rw[af hne,ek,AY,JB,esum]
   rw[es];show V.tup [.int x1.g,.int x1.c,.int x1.xa,.int 0,.int (x1.xo+0-w6 D (((sA.map Inf.cell).take k).drop p)),.int (x1.yo+0)]=V.tup [.int a.g,.int a.c,.int (vD D a.g),.int 0,.int (v7 D (sA.map Inf.cell) k a.cell),.int (w4 D (sA.map Inf.cell) k a.cell)];rw[hdx,hdy,fg,fc,fa,fx,fy,hz'];show V.tup [.int a.g,.int a.c,.int a.xa,.int 0,.int (D.px (d6 (sA.map Inf.cell) p)-4+0-_),.int (D.py (d6 (sA.map Inf.cell) p)-9+0)]=_;rw[a4,Int.add_zero,Int.add_zero]
  ·have hz':z=a:=by rw[←hz];unfold iC;rw[af c]
   rw[zG (by rw[fp,hz'];exact a1)];have hdx:v7 D (sA.map Inf.cell) k a.cell=0:=by unfold v7;rw[af (show¬(a.cell.g=11∧_)from c)]
   have hdy:w4 D (sA.map Inf.cell) k a.cell=0:=by unfold w4;rw[af (show¬(a.cell.g=11∧_)from c)]
   show V.tup [.int x1.g,.int x1.c,.int x1.xa,.int 0,.int x1.xo,.int x1.yo]=V.tup [.int a.g,.int a.c,.int (vD D a.g),.int 0,.int (v7 D (sA.map Inf.cell) k a.cell),.int (w4 D (sA.map Inf.cell) k a.cell)];rw[hdx,hdy,fg,fc,fa,fx,fy,hz',a2,a3,a4]
def CP(v:V):Prop:=∃l:List Int,v=.tup (l.map .int)
theorem xV:∀l:List Int,gU Cs (l.map .int) (l.map .int)=some true
 |[]=>rfl
 |x::l=>by
  show(match Cs (.int x) (.int x),gU Cs (l.map .int) (l.map .int)with|some a,some b=>some (a&&b)|_,_=>.none)=_;rw[xV l];show some (decide (x=x)&&true)=some true;rw[decide_eq_true rfl];rfl
theorem rU:∀{l:List V},(∀v∈l,CP v)→gU Ac l l=some true
 |[],_=>rfl
 |v::l,h=>by
  obtain⟨is,rfl⟩:=h v (ak ..);have e:Ac (.tup (is.map .int)) (.tup (is.map .int))=some true:=by
   show(gU Cs (is.map .int) (is.map .int)).map (fun x=>x&&decide _)=_;rw[xV];simp
  show(match Ac (.tup (is.map .int)) (.tup (is.map .int)),gU Ac l l with|some a,some b=>some (a&&b)|_,_=>.none)=_;rw[e,rU fun v hv=>h v (aD _ hv)];rfl
theorem CO(x:Inf):CP x.row6:=⟨[x.g,x.c,x.xa,0,x.xo,x.yo],rfl⟩
theorem GR{x y:O}(h:i≠j):(H.put r i x).put r j y=(H.put r j y).put r i x:=by
 unfold Hp.put;induction e:H[r]? with
 |none=>dsimp only;rw[e]
 |some R=>
  dsimp only;have hr:=(Ok.mp e).1;rw[bL hr,bL hr];dsimp only;rw[List.set_set,List.set_set,List.set_comm _ _ h]
def GE(e:V×V):Prop:=∃(g:Int) (ps:List Int),e=(.int g,.tup (ps.map .int))∧1≤ps.length∧ps.length≤3∧∀p∈ps,4≤p∧p≤9
def GD(d:List (V×V)):Prop:=(∀e∈d,GE e)
theorem GD.put(h:GD d)(h1:1≤ps.length∧ps.length≤3∧∀p∈ps,4≤p∧p≤9):GD (gM d (.int g) (.tup (ps.map .int)))∧(gM d (.int g) (.tup (ps.map .int))).length≤d.length+1:=by
 induction d with
 |nil=>exact⟨fun e he=>by rw[Oc.mp he];exact⟨g,ps,rfl,h1⟩,by show 1≤1;decide⟩
 |cons p l ih=>
  obtain⟨g',ps',rfl,h2⟩:=h p (ak ..);have ih:=ih fun e he=>h e (aD _ he);refine pQ (P:=fun z=>GD z∧z.length≤_) (fun _=>?_) fun _=>?_
  ·exact⟨fun e he=>by
    rcases uB.mp he with rfl|he
    ·exact⟨g',ps,rfl,h1⟩
    ·exact h e (aD _ he),by simp⟩
  ·refine⟨fun e he=>?_,by simp;exact ih.2⟩;rcases uB.mp he with rfl|he
   ·exact⟨g',ps',rfl,h2⟩
   ·exact ih.1 e he
theorem GD.kind(h:GD d)(g:Int):aW (.int g) d=true:=by
 unfold aW;rw[pI];intro e he;obtain⟨g',ps',rfl,_⟩:=h e he;rfl
def yz(d:List (V×V))(g:Int):Option (List Int):=match dG d (.int g)with|some (.tup l)=>d7 l|_=>.none
theorem GD.get(h:GD d)(e:dG d (.int g)=some v):∃ps:List Int,v=.tup (ps.map .int)∧1≤ps.length∧ps.length≤3∧∀p∈ps,4≤p∧p≤9:=by
 induction d with
 |nil=>exact Rk e
 |cons p l ih=>
  obtain⟨g',ps',rfl,h2⟩:=h p (ak ..);refine tR e (fun _ e=>?_) fun _ e=>ih (fun e he=>h e (aD _ he)) e;induction e using QT;exact⟨ps',rfl,h2⟩
theorem GD.mp(h:GD d):Mp d (yz d):=by
 refine⟨h.kind,fun g=>?_,fun g ps e=>?_⟩
 ·unfold yz;induction hd:dG d (.int g)with
  |none=>rfl
  |some v=>
   obtain⟨ps,rfl,_⟩:=h.get hd;dsimp only;rw[iZ];rfl
 ·unfold yz at e;induction hd:dG d (.int g)with
  |none=>rw[hd]at e;exact Rk e
  |some v=>
   obtain⟨ps',rfl,h2⟩:=h.get hd;rw[hd]at e;dsimp only at e;rw[iZ]at e;induction e using QT;exact h2
section
variable{ns:List Int}
abbrev j9(H:Hp)(k:Nat)(a:Int)(d:List (V×V)):Hp:=(H.put 0 2 (dh a)).put 0 k (.dict d)
theorem pB{m b:Int}(hp:H.get 0 2=some (dh b))(hn:H.get 0 1=some (.list (ns.map .int)))(hns:ns.length≤60)(hk:k≠1∧k≠2)(ha:0≤a∧a≤900)(hm:0<m):∃v,0≤v∧v<m∧drop aM [au 2,.int m] q (j9 H k a d++[R])=some (.int v,j9 H k (a+1) d++[R]):=by
 have h0:0<(j9 H k a d).length:=by rw[Hp.len_put,Hp.len_put];exact Hp.lt_of_get hp
 have g2:(j9 H k a d).get 0 2=some (dh a):=jd hk.2 (Hp.get_put_self hp);have g1:(j9 H k a d).get 0 1=some (.list (ns.map .int)):=jd hk.1 (jd (by decide) hn);obtain⟨v,v0,v1,e⟩:=HM (q:=q) (eN (R:=R) g2) (eN g1) hns ha hm;refine⟨v,v0,v1,?_⟩;rw[e,zN h0];congr 3;show((H.put 0 2 (dh a)).put 0 k (.dict d)).put 0 2 (dh (a+1))=(H.put 0 2 (dh (a+1))).put 0 k (.dict d);rw[GR hk.2,Hp.put_put]
theorem jt{b:Int}(hp:H.get 0 2=some (dh b))(hn:H.get 0 1=some (.list (ns.map .int)))(hns:ns.length≤60)(hk:k≠1∧k≠2)(hd:H.get 0 k=some (.dict d))(gd:GD d)(hdl:d.length≤10)(hb:0≤b∧b≤700):∃a' d' R',f7 bA [au 2,au k] q H=some (au k,j9 H k a' d'++[R'])∧b≤a'∧a'≤b+13∧GD d':=by
 have h00:H=j9 H k b d:=by
  show H=(H.put 0 2 (dh b)).put 0 k (.dict d);rw[Hp.put_id hp,Hp.put_id hd]
 have hlen:∀a d,(j9 H k a d).length=H.length:=fun a d=>by rw[Hp.len_put,Hp.len_put]
 have turn:∀(a:Int) (d:List (V×V)) (R:List O) (y3:Option V),0≤a∧a≤800→GD d→d.length≤100→
   ∃a' d' R' y3',a≤a'∧a'≤a+4∧GD d'∧d'.length≤d.length+1∧∀(l:List St) (u:Fl×bJ×Hp) (j:Int),aC l [some (au 2),some (au k),some (.int j),y3',none,none,none] H.length (j9 H k a' d'++[R'])=some u→aC (fK++l) [some (au 2),some (au k),some (.int j),y3,none,none,none] H.length (j9 H k a d++[R])=some u:=by
  intro a d R y3 ha gd hdl;obtain⟨v1,v10,v11,e1⟩:=pB (q:=H.length) (R:=R) (d:=d) (m:=7) hp hn hns hk (show 0≤a∧a≤900 by omega) (by decide);obtain⟨v2,v20,v21,e2⟩:=pB (q:=H.length) (R:=R) (d:=d) (m:=3) hp hn hns hk (show 0≤a+1∧a+1≤900 by omega) (by decide);obtain⟨v3,v30,v31,e3⟩:=pB (q:=H.length) (R:=R) (d:=d) (m:=6) hp hn hns hk (show 0≤a+1+1∧a+1+1≤900 by omega) (by decide);obtain⟨v4,v40,v41,e4⟩:=pB (q:=H.length) (R:=R) (d:=d) (m:=6) hp hn hns hk (show 0≤a+1+1+1∧a+1+1+1≤900 by omega) (by decide);obtain⟨g,hg⟩:∃g:Int,∀H:Hp,idx (.tup [.int 2,.int 3,.int 9,.int 6,.int 7,.int 8,.int 4]) (.int v1) H=some (.int g):=by
   have:v1=0∨v1=1∨v1=2∨v1=3∨v1=4∨v1=5∨v1=6:=by omega
   rcases this with rfl|rfl|rfl|rfl|rfl|rfl|rfl
   ·exact⟨2,fun _=>rfl⟩
   ·exact⟨3,fun _=>rfl⟩
   ·exact⟨9,fun _=>rfl⟩
   ·exact⟨6,fun _=>rfl⟩
   ·exact⟨7,fun _=>rfl⟩
   ·exact⟨8,fun _=>rfl⟩
   ·exact⟨4,fun _=>rfl⟩
  have fin:∀(w:List Int) (a':Int) (R1:List O) (t:Nat),(1≤w.length∧w.length≤3∧∀p∈w,4≤p∧p≤9)→a≤a'→a'≤a+4→R1[t]?=some (.list (w.map .int))→
    (∀j:Int,bo 4 (bk [(aG (bP [(ai (V.int 2)),(ai (V.int 2)),(ai (V.int 1))]) (aj (drop aM) [(aa 0),(ai (V.int 3))]))]) (.nm 8) [] fP [some (au 2),some (au k),some (.int j),some (.int g),none,none,none] H.length (j9 H k (a+1) d++[R])=some (.ref H.length t,j9 H k a' d++[R1]))→
    ∃a' d' R' y3',a≤a'∧a'≤a+4∧GD d'∧d'.length≤d.length+1∧∀(l:List St) (u:Fl×bJ×Hp) (j:Int),aC l [some (au 2),some (au k),some (.int j),y3',none,none,none] H.length (j9 H k a' d'++[R'])=some u→aC (fK++l) [some (au 2),some (au k),some (.int j),y3,none,none,none] H.length (j9 H k a d++[R])=some u:=by
   intro w a' R1 t hw h1 h2 hR cp;have G:=gd.put (g:=g) hw;refine⟨a',_,R1,some (.int g),h1,h2,G.1,G.2,fun l u j hj=>?_⟩;have gl:Hp.get (j9 H k a' d++[R1]) H.length t=some (.list (w.map .int)):=by
    have:=getL (H:=j9 H k a' d) (R:=R1) (i:=t);rw[hlen]at this;rw[this];exact hR
   have tp:bi .tuple [.ref H.length t] H.length (j9 H k a' d++[R1])=some (.tup (w.map .int),j9 H k a' d++[R1]):=by
    show(match Hp.get (j9 H k a' d++[R1]) H.length t with|some (.list l)=>some (V.tup l,j9 H k a' d++[R1])|_=>.none)=_;rw[gl]
   have hg1:=hg (j9 H k (a+1) d++[R]);have dk:Hp.get (j9 H k a' d++[R1]) 0 k=some (.dict d):=eN (Hp.get_put_self (jd (fun h=>hk.2 h.symm) hd));left;left
   ·repeat left
   left;apply yI
   ·left
    ·left
     ·exact cp j
     ·left
    ·exact tp
   ·left
   ·left
   ·exact dk
   ·rw[gd.kind];exact decide_eq_true (show d.length<900 by exact aJ ‹_› (by decide))
   left;rw[zN (by rw[hlen];exact Hp.lt_of_get hp),show(j9 H k a' d).put 0 k (.dict (gM d (.int g) (.tup (w.map .int))))=j9 H k a' (gM d (.int g) (.tup (w.map .int)))from Hp.put_put];exact hj
  have qR:∀a' (R1:List O),H.length<(j9 H k a' d++[R1]).length:=fun a' R1=>by rw[bx,hlen];simp
  have al:∀a' (R1:List O) (o:O),Hp.ins (j9 H k a' d++[R1]) H.length o=j9 H k a' d++[R1++[o]]:=fun a' R1 o=>by
   have:=JK (H:=j9 H k a' d) (R:=R1) (o:=o);rw[hlen]at this;exact this
  have zl:∀a' (R1:List O),Hp.sz (j9 H k a' d++[R1]) H.length=R1.length:=fun a' R1=>by
   have:=Oh (H:=j9 H k a' d) (R:=R1);rw[hlen]at this;exact this
  by_cases hv:v2=2
  ·subst hv;refine fin [4+v3] (a+1+1+1) (R++[.list [.int (4+v3)]]) R.length ⟨bv rfl,bv rfl,fun p hp=>by rw[Oc.mp hp];omega⟩ (by omega) (by omega) (by simp) (fun j=>?_);have i2:∀H:Hp,idx (.tup [.int 2,.int 2,.int 1]) (.int 2) H=some (.int ((1:Nat):Int)):=fun _=>rfl;have i2':=i2 (j9 H k (a+1+1) d++[R]);apply gF
   ·apply qE (m:=1)
    ·repeat left
    ·decide
   apply rP
   ·exact rfl
   ·exact rfl
   ·exact pJ
   ·repeat left
   have:=rn (j:=0+1) (it:=.fixed (bw 0 1)) (H:=j9 H k (a+1+1+1) d++[R]) (q:=H.length) (n:=1998) (acc:=[.int (4+v3)]) (tg:=.nm 8) (ts:=[]) (a:=fP) (ρ:=([some (au 2),some (au k),some (.int j),some (.int g),none,none,none]++List.replicate 4 none).set 8 (some (.int 0))) rfl (qR _ _) (bv rfl);rw[al,zl]at this;exact this
  ·refine fin [4+v3,4+v4] (a+1+1+1+1) (R++[.list [.int (4+v3),.int (4+v4)]]) R.length ⟨bv rfl,bv rfl,fun p hp=>by rcases uB.mp hp with rfl|hp;omega;rw[Oc.mp hp];omega⟩ (by omega) (by omega) (by simp) (fun j=>?_);have i2':idx (.tup [.int 2,.int 2,.int 1]) (.int v2) (j9 H k (a+1+1) d++[R])=some (.int ((2:Nat):Int)):=by
    have:v2=0∨v2=1:=by omega
    rcases this with rfl|rfl<;>rfl
   apply gF
   ·apply qE (m:=2)
    ·repeat left
    ·decide
   apply rP
   ·exact rfl
   ·exact rfl
   ·exact pJ
   ·repeat left
   apply rP
   ·exact rfl
   ·exact rfl
   ·exact pJ
   ·repeat left
   have:=rn (j:=0+1+1) (it:=.fixed (bw 0 2)) (H:=j9 H k (a+1+1+1+1) d++[R]) (q:=H.length) (n:=1997) (acc:=[.int (4+v3),.int (4+v4)]) (tg:=.nm 8) (ts:=[]) (a:=fP) (ρ:=(([some (au 2),some (au k),some (.int j),some (.int g),none,none,none]++List.replicate 4 none).set 8 (some (.int 0))).set 8 (some (.int (0+1)))) rfl (qR _ _) (bv rfl);rw[al,zl]at this;exact this
 obtain⟨n,n0,n1,e0⟩:=pB (q:=H.length) (R:=[]) (d:=d) (m:=4) hp hn hns hk (show 0≤b∧b≤900 by omega) (by decide);obtain⟨N,rfl⟩:∃N:Nat,n=N:=⟨n.toNat,by omega⟩;have key:∀(m j K:Nat) (a:Int) (d:List (V×V)) (R:List O) (y2 y3:Option V),j+m=N→m<K→0≤a∧a≤800-4*m→GD d→d.length+m≤100→
   ∃a' d' R' ρ',aC (di (.nm 2) (.fixed (bw 0 N)) fK K j::[(aF (aa 1))]) [some (au 2),some (au k),y2,y3,none,none,none] H.length (j9 H k a d++[R])=some (.ret (au k),ρ',j9 H k a' d'++[R'])∧a≤a'∧a'≤a+4*m∧GD d':=by
  intro m;induction m with
  |zero=>
   intro j K a d R y2 y3 hj hK ha gd hdl;obtain⟨K,rfl⟩:=oQ K ‹_›;exact⟨a,d,R,_,iQ (by show some _=_;rw[gB.mpr (by rw[aR];exact Ru ‹_›)]) (BP (bq rfl)),by omega,by omega,gd⟩
  |succ m ih=>
   intro j K a d R y2 y3 hj hK ha gd hdl;obtain⟨K,rfl⟩:=oQ K ‹_›;have it0:∀H,item (.fixed (bw 0 N)) j H=some (some (.int (j:Int))):=fun H=>by
    show some _=_;rw[cv (RA ‹_›)];congr 3;exact Int.zero_add _
   obtain⟨a1,d1,R1,y3',h1,h2,h3,h4,h5⟩:=turn a d R y3 (by omega) gd (by omega);obtain⟨a',d',R',ρ',e,g1,g2,g3⟩:=ih (j+1) K a1 d1 R1 (some (.int j)) y3' (Q8 ‹_›) (aL ‹_›) (by omega) h3 (by omega);refine⟨a',d',R',ρ',?_,by exact Int.le_trans ‹_› ‹_›,by omega,g3⟩;apply dO
   ·exact it0 _
   ·exact rfl
   exact h5 _ _ j e
 obtain⟨a',d',R',ρ',e,h1,h2,h3⟩:=key N 0 2000 (b+1) d [] none none (Nat.zero_add _) (by omega) (by omega) gd (by omega);refine⟨a',d',R',?_,by omega,by omega,h3⟩;show bA _ H.length (H++[[]])=_;have h01:H++[([]:List O)]=j9 H k b d++[[]]:=congrArg (· ++ [[]]) h00;rw[h01];have e0':drop aM [au 2,.int 4] H.length (j9 H k b d++[[]])=some (.int (N:Int),j9 H k (b+1) d++[[]]):=e0;apply bQ rfl rfl;apply iz
 ·apply qE (m:=N)
  ·repeat left
  ·omega
 exact e
end
theorem t5{P:Int→Hp}{A:Int}{Q:V→Prop}{v:Nat}{E:Ev}{it:It}(hi:∀(j:Nat) (a:Int),item it j (P a)=some l[j]?)(hq:∀a,q<(P a).length)(hl:l.length≤100) (elt:∀(j:Nat) (x:V) (a:Int),l[j]?=some x→0≤a→a≤A→∃y a',E (ρ.set v (some x)) q (P a)=some (y,P a')∧a≤a'∧a'≤a+2∧Q y) :∀{z:Option V} {a:Int},0≤a→a+2*l.length≤A→∃ys a',ys.length=l.length∧(∀y∈ys,Q y)∧a≤a'∧a'≤a+2*l.length∧dC (.nm v) [] E it 2000 0 [] (ρ.set v z) q (P a)=some (.ref q ((P a').sz q),(P a').ins q (.list ys)):=by
 have key:∀(m j N:Nat) (z:Option V) (acc:List V) (a:Int),j+m=l.length→m<N→acc.length=j→(∀y∈acc,Q y)→0≤a→a+2*m≤A→
   ∃ys a',ys.length=l.length∧(∀y∈ys,Q y)∧a≤a'∧a'≤a+2*m∧dC (.nm v) [] E it N j acc (ρ.set v z) q (P a)=some (.ref q ((P a').sz q),(P a').ins q (.list ys)):=by
  intro m;induction m with
  |zero=>
   intro j N z acc a hj hN ha hQ h0 hA;obtain⟨N,rfl⟩:=oQ N ‹_›;exact⟨acc,a,by omega,hQ,by omega,by omega,rn (by rw[hi,gB.mpr (Ru ‹_›)]) (hq a) (by omega)⟩
  |succ m ih=>
   intro j N z acc a hj hN ha hQ h0 hA;obtain⟨N,rfl⟩:=oQ N ‹_›;have h1:l[j]?=some l[j]:=ay (RA ‹_›);obtain⟨y,a1,e1,g1,g2,q1⟩:=elt j _ a h1 h0 (by omega);obtain⟨ys,a',k1,k2,k3,k4,e⟩:=ih (j+1) N (some l[j]) (acc++[y]) a1 (Q8 ‹_›) (aL ‹_›) (by simp[ha]) (fun u hu=>by rcases NH.mp hu with h|h;exact hQ u h;rw[Oc.mp h];exact q1) (Int.le_trans ‹_› ‹_›) (by omega);exact⟨ys,a',k1,k2,by exact Int.le_trans ‹_› ‹_›,by omega,rP (v:=l[j]) (ρ1:=ρ.set v (some l[j])) (by rw[hi,h1]) (by simp only[nq,set_set]) pJ e1 e⟩
 intro z a h0 hA;exact key l.length 0 2000 z [] a (Nat.zero_add _) (aJ ‹_› (by decide)) rfl (fun y hy=>nomatch hy) h0 hA
noncomputable def jk(is:List Int):List Int:=(is.take 60).map fun i=>2*(i.natAbs:Int)+(if i<0 then 1 else 0)
theorem oO(is:List Int):(jk is).length≤60:=by unfold jk;rw[ao,bh];omega
noncomputable def f8(is:List Int):List V:=(is.take 60).map .int
abbrev JV(is:List Int)(a:Int):Hp:=[[.list (f8 is),.list ((jk is).map .int),dh a]]
theorem OI{is:List Int}{l:List St}{u:Fl×bJ×Hp}(h63:is.length≤63)(h:aC l ([some (.kl (is.map .int)),some (au 2)]++List.replicate 40 none) 0 (JV is 0)=some u):aC (am okf (.nm (.nm 1)) (bD [(bo 4 (bn (bV (aa 0) none (some (ai (V.int 60))))) (.nm 43) [] CT),(ai (V.int 0))])::l) ([some (.kl (is.map .int))]++List.replicate 41 none) 0 [[]]=some u:=by
 have sl:bV (aa 0) none (some (ai (V.int 60))) ([some (.kl (is.map .int))]++List.replicate 41 none) 0 [[]]=some (.ref 0 0,[[.list (f8 is)]]):=by
  have e:gi (is.map .int) .none (.int 60)=some (f8 is):=by
   have c:cu 60 (is.map V.int).length=min 60 is.length:=by unfold cu;rw[ac (by decide),ao];rfl
   show some (((is.map V.int).take (cu 60 (is.map V.int).length)).drop 0)=_;rw[c,List.drop_zero];unfold f8;rw[←List.map_take];congr 2;rcases Nat.le_total 60 is.length with h|h
   ·rw[Nat.min_eq_left h]
   ·rw[Nat.min_eq_right h,List.take_of_length_le (aS _),List.take_of_length_le h]
  show(match gi (is.map .int) .none (.int 60)with|some m=>Hp.new [[]] 0 (.list m) | .none=>.none)=_;rw[e];exact Hp.new_eq (by decide) (by simp only[O.fits,bp];unfold f8;rw[ao,bh];omega)
 have cp:bo 4 (bn (bV (aa 0) none (some (ai (V.int 60))))) (.nm 43) [] CT ([some (.kl (is.map .int))]++List.replicate 41 none) 0 [[]]=some (.ref 0 1,[[.list (f8 is),.list ((jk is).map .int)]]):=by
  apply gF
  ·exact vP sl (show Hp.get [[.list (f8 is)]] 0 0=some (.list (f8 is))from rfl)
  have l1:(f8 is).length=(is.take 60).length:=ao _;refine fV (z:=none) (v:=43) (ρ:=[some (.kl (is.map .int))]++List.replicate 45 none) (l:=f8 is) (ys:=(jk is).map .int) (H:=[[.list (f8 is)]]) (it:=.live 0 0) (fun j=>rfl) (by show 0<1;decide) (by rw[l1,bh];omega) (by rw[l1];unfold jk;rw[ao,ao]) ?_;intro j x y hx hy;unfold f8 at hx;unfold jk at hy;rw[aB]at hx hy;rw[aB]at hy;induction hc:(is.take 60)[j]? with
  |none=>rw[hc]at hx;exact Rk hx
  |some i=>
   rw[hc]at hx hy
   (refine QU hx ?_;clear hx;rintro rfl);(refine QU hy ?_;clear hy;rintro rfl)
   have s43:(([some (V.kl (is.map .int))]++List.replicate 45 none).set 43 (some (V.int i)):bJ)[43]?=some (some (V.int i)):=rfl;have b1:∀H:Hp,bi .int [.int i] 0 H=some (.int i,H):=fun _=>rfl;have b2:∀H:Hp,bi .abs [.int i] 0 H=some (.int i.natAbs,H):=fun _=>rfl;have b3:∀(b:Bool) (H:Hp),bi .int [.bool b] 0 H=some (.int (if b then 1 else 0),H):=fun _ _=>rfl;have r1:aI .mul (ai (V.int 2)) (cK .abs [(cK .int [(aa 43)])]) (([some (V.kl (is.map .int))]++List.replicate 45 none).set 43 (some (V.int i))) 0 [[.list (f8 is)]]=some (.int (2*(i.natAbs:Int)),[[.list (f8 is)]]):=
    v6 eB (LK (aX (LK (aX (bq s43) da) (b1 _)) da) (b2 _)) rfl
   have r2:cK .int [(bE (aA .lt (aa 43) (ai (V.int 0))))] (([some (V.kl (is.map .int))]++List.replicate 45 none).set 43 (some (V.int i))) 0 [[.list (f8 is)]]=some (.int (if i<0 then 1 else 0),[[.list (f8 is)]]):=by
    by_cases c:i<0
    ·rw[ac c];exact LK (aX (D7 (vo (bq s43) eB (Jt c))) da) (b3 true _)
    ·rw[af c];exact LK (aX (D7 (vo (bq s43) eB (JC c))) da) (b3 false _)
   exact v6 r1 r2 rfl
 apply nP
 ·exact kT (aX cp (aX eB da)) (by show 0<1;decide) (bv rfl)
 exact h
theorem IV{P:Int→Hp}{ns:List Int}(hp:∀a,(P a).get 0 2=some (dh a))(hn:∀a,(P a).get 0 1=some (.list (ns.map .int)))(hpp:∀a b,(P a).put 0 2 (dh b)=P b)(hns:ns.length≤60){m:Int}(ha:0≤a∧a≤900)(hm:0<m):∃v,0≤v∧v<m∧drop aM [au 2,.int m] q (P a)=some (.int v,P (a+1)):=by
 obtain⟨v,h1,h2,e⟩:=HM (q:=q) (hp a) (hn a) hns ha hm;exact⟨v,h1,h2,by rw[e,hpp]⟩
abbrev Mn(is:List Int)(tx:List V)(a:Int):Hp:=[[.list (f8 is),.list ((jk is).map .int),dh a,.list tx]]
theorem O3(is:List Int)(z0:Option V):∃(cs:List Nat) (tx:List V) (a:Int),cs.length≤3∧(∀c∈cs,Let (c:Int))∧0≤a∧a≤20∧∀(l:List St) (u:Fl×bJ×Hp),aC l ([z0,some (au 2),some (.str (97::cs))]++List.replicate 39 none) 0 (Mn is tx a)=some u→aC (am okf (.nm (.nm 2)) (aI .add (ai (V.str [97])) (qZ (ai (V.str [])) (bo 4 (bk [(aG (bP [(ai (V.int 1)),(ai (V.int 3)),(ai (V.int 2)),(ai (V.int 2)),(ai (V.int 0))]) (aj (drop aM) [(aa 1),(ai (V.int 5))]))]) (.nm 43) [] y6)))::l) ([z0,some (au 2)]++List.replicate 40 none) 0 (JV is 0)=some u:=by
 have dr:∀{a m:Int} {q:Nat},(0≤a∧a≤900)→0<m→∃v,0≤v∧v<m∧drop aM [au 2,.int m] q (JV is a)=some (.int v,JV is (a+1)):=fun ha hm=>IV (P:=JV is) (fun _=>rfl) (fun _=>rfl) (fun _ _=>rfl) (oO is) ha hm;obtain⟨v,v0,v1,e1⟩:=dr (a:=0) (m:=5) (q:=0) (by decide) (by decide);obtain⟨N,hN,iN⟩:∃N:Nat,N≤3∧∀H:Hp,idx (.tup [.int 1,.int 3,.int 2,.int 2,.int 0]) (.int v) H=some (.int (N:Int)):=by
  have:v=0∨v=1∨v=2∨v=3∨v=4:=by omega
  rcases this with rfl|rfl|rfl|rfl|rfl
  ·exact⟨1,by decide,fun _=>rfl⟩
  ·exact⟨3,by decide,fun _=>rfl⟩
  ·exact⟨2,by decide,fun _=>rfl⟩
  ·exact⟨2,by decide,fun _=>rfl⟩
  ·exact⟨0,by decide,fun _=>rfl⟩
 obtain⟨ys,a',k1,k2,k3,k4,ec⟩:=t5 (P:=JV is) (A:=100) (Q:=fun y=>∃c:Nat,y=.str [c]∧Let (c:Int)) (q:=0) (v:=43) (E:=y6) (it:=.fixed (bw 0 N)) (l:=bw 0 N) (ρ:=[z0,some (au 2)]++List.replicate 44 none) (fun _ _=>rfl) (fun _=>by show 0<1;decide) (by rw[aR];exact aO ‹_› (by decide)) (fun j x a hj h0 hA=>by
   obtain⟨w,w0,w1,e⟩:=dr (a:=a) (m:=5) (q:=0) (by omega) (by decide);have hq:∃c:Nat,(∀H:Hp,idx (.str [98,99,109,97,109]) (.int w) H=some (.str [c]))∧Let (c:Int):=by
    have:w=0∨w=1∨w=2∨w=3∨w=4:=by omega
    rcases this with rfl|rfl|rfl|rfl|rfl
    ·exact⟨98,fun _=>rfl,by decide⟩
    ·exact⟨99,fun _=>rfl,by decide⟩
    ·exact⟨109,fun _=>rfl,by decide⟩
    ·exact⟨97,fun _=>rfl,by decide⟩
    ·exact⟨109,fun _=>rfl,by decide⟩
   obtain⟨c,hc,hl⟩:=hq;refine⟨.str [c],a+1,?_,by omega,by omega,c,rfl,hl⟩;exact DB eB (j4 (aX (bq rfl) (aX eB da)) e) (hc _)) (z:=none) (a:=1) (by decide) (by rw[aR];omega)
 rw[aR]at k1 k4;obtain⟨cs,rfl,hcs⟩:∃cs:List Nat,ys=cs.map (fun c=>V.str [c])∧∀c∈cs,Let (c:Int):=by
  clear ec k1;induction ys with
  |nil=>exact⟨[],rfl,fun c h=>nomatch h⟩
  |cons y l ih=>
   obtain⟨c,rfl,hc⟩:=k2 y (ak ..);obtain⟨cs,rfl,h⟩:=ih fun y hy=>k2 y (aD _ hy);exact⟨c::cs,rfl,fun d hd=>by rcases uB.mp hd with rfl|hd;exact hc;exact h d hd⟩
 rw[ao]at k1;have jn:tT (cs.map fun c=>V.str [c])=some cs:=by
  clear ec k1 k2 hcs;induction cs with
  |nil=>rfl
  |cons c l ih=>show(tT (l.map fun c=>V.str [c])).map ([c] ++ ·)=_;rw[ih];rfl
 refine⟨cs,cs.map fun c=>V.str [c],a',by omega,hcs,by omega,by omega,fun l u h=>?_⟩;have cp:bo 4 (bk [(aG (bP [(ai (V.int 1)),(ai (V.int 3)),(ai (V.int 2)),(ai (V.int 2)),(ai (V.int 0))]) (aj (drop aM) [(aa 1),(ai (V.int 5))]))]) (.nm 43) [] y6 ([z0,some (au 2)]++List.replicate 40 none) 0 (JV is 0)=some (au 3,Mn is (cs.map fun c=>V.str [c]) a'):=by
  apply gF
  ·apply qE (m:=N)
   ·exact DB (Bt (aX eB (aX eB (aX eB (aX eB (aX eB da))))) (bv rfl)) (j4 (aX (bq rfl) (aX eB da)) e1) (iN _)
   ·exact aJ ‹_› (by decide)
  exact ec
 apply nP
 ·apply v6
  ·exact eB
  ·show qZ _ _ _ _ _=some (.str cs,Mn is (cs.map fun c=>V.str [c]) a');unfold qZ;rw[show(ai (V.str [])) ([z0,some (au 2)]++List.replicate 40 none) 0 (JV is 0)=some (.str [],JV is 0)from rfl];dsimp only;rw[cp];show(match tT (cs.map fun c=>V.str [c])with|some s=>if s.length<1000 then some (V.str s,Mn is (cs.map fun c=>V.str [c]) a')else .none | .none=>.none)=_;rw[jn];dsimp only;rw[ac (by omega)]
  ·show(if decide ([97].length+cs.length≤9000)then some (V.str ([97]++cs),Mn is (cs.map fun c=>V.str [c]) a')else .none)=_;rw[ac (decide_eq_true (by show 1+cs.length≤9000;omega))]
 exact h
abbrev MB(is:List Int)(tx:List V)(d1 d2 d3:List (V×V))(R1 R2 R3:List O)(a:Int):Hp:=[[.list (f8 is),.list ((jk is).map .int),dh a,.list tx,.dict d1,.dict d2,.dict d3,.list [au 4,au 5,au 6]],R1,R2,R3]
theorem OO(is:List Int)(tx:List V)(ha:0≤a∧a≤20)(z0 z2:Option V):∃d1 d2 d3 R1 R2 R3 a',GD d1∧GD d2∧GD d3∧0≤a'∧a'≤80∧∀(l:List St) (u:Fl×bJ×Hp),aC l ([z0,some (au 2),z2,some (au 7)]++List.replicate 38 none) 0 (MB is tx d1 d2 d3 R1 R2 R3 a')=some u→aC (am okf (.nm (.nm 3)) (bD [(aj (f7 bA) [(aa 1),(bN [((ai (V.int 1)),(bP [(ai (V.int 4)),(ai (V.int 5)),(ai (V.int 6))]))])]),(aj (f7 bA) [(aa 1),(bN [((ai (V.int 5)),(bP [(ai (V.int 7)),(ai (V.int 8))]))])]),(aj (f7 bA) [(aa 1),(bN [])])])::l) ([z0,some (au 2),z2]++List.replicate 39 none) 0 (Mn is tx a)=some u:=by
 have n60:=oO is;let e1:List (V×V):=[(.int 1,.tup [.int 4,.int 5,.int 6])];let e2:List (V×V):=[(.int 5,.tup [.int 7,.int 8])];have g1:GD e1:=fun e he=>by rw[Oc.mp he];exact⟨1,[4,5,6],rfl,by decide,by decide,by decide⟩
 have g2:GD e2:=fun e he=>by rw[Oc.mp he];exact⟨5,[7,8],rfl,by decide,by decide,by decide⟩
 have g3:GD []:=fun e he=>nomatch he;let H1:Hp:=[[.list (f8 is),.list ((jk is).map .int),dh a,.list tx,.dict e1]];obtain⟨a1,d1,R1,Ro,p1,p2,gd1⟩:=jt (H:=H1) (q:=0) (k:=4) (ns:=jk is) (b:=a) (d:=e1) rfl rfl n60 (by decide) rfl g1 (by decide) (by omega);let H2:Hp:=[[.list (f8 is),.list ((jk is).map .int),dh a1,.list tx,.dict d1,.dict e2],R1];obtain⟨a2,d2,R2,Ri,p3,p4,gd2⟩:=jt (H:=H2) (q:=0) (k:=5) (ns:=jk is) (b:=a1) (d:=e2) rfl rfl n60 (by decide) rfl g2 (by decide) (by omega);let H3:Hp:=[[.list (f8 is),.list ((jk is).map .int),dh a2,.list tx,.dict d1,.dict d2,.dict []],R1,R2];obtain⟨a3,d3,R3,Q7,p5,p6,gd3⟩:=jt (H:=H3) (q:=0) (k:=6) (ns:=jk is) (b:=a2) (d:=[]) rfl rfl n60 (by decide) rfl g3 (by decide) (by omega);refine⟨d1,d2,d3,R1,R2,R3,a3,gd1,gd2,gd3,by omega,by omega,fun l u h=>?_⟩;have c1:∀ρ:bJ,bN [((ai (V.int 1)),(bP [(ai (V.int 4)),(ai (V.int 5)),(ai (V.int 6))]))] ρ 0 (Mn is tx a)=some (au 4,H1):=fun _=>rfl;have c2:∀ρ:bJ,bN [((ai (V.int 5)),(bP [(ai (V.int 7)),(ai (V.int 8))]))] ρ 0 [[.list (f8 is),.list ((jk is).map .int),dh a1,.list tx,.dict d1],R1]=some (au 5,H2):=fun _=>rfl;have c3:∀ρ:bJ,bN [] ρ 0 [[.list (f8 is),.list ((jk is).map .int),dh a2,.list tx,.dict d1,.dict d2],R1,R2]=some (au 6,H3):=fun _=>rfl;apply nP
 ·refine kT (aX (j4 (aX (bq rfl) (aX (c1 _) da)) Ro) (aX (j4 (aX (bq rfl) (aX (c2 _) da)) Ri) (aX (j4 (aX (bq rfl) (aX (c3 _) da)) Q7) da))) (by show 0<4;decide) (bv rfl)
 exact h
abbrev MM(is:List Int)(tx:List V)(d1 d2 d3:List (V×V))(R1 R2 R3:List O)(ws:List V)(a:Int):Hp:=[[.list (f8 is),.list ((jk is).map .int),dh a,.list tx,.dict d1,.dict d2,.dict d3,.list [au 4,au 5,au 6],.list ws],R1,R2,R3]
theorem ON(is:List Int)(tx:List V)(d1 d2 d3:List (V×V))(R1 R2 R3:List O)(ha:0≤a∧a≤80)(z0 z2 z3:Option V):∃(ws:List Int) (a':Int),ws.length=12∧(∀w∈ws, -1000≤w∧w≤1000)∧0≤a'∧a'≤104∧∀(l:List St) (u:Fl×bJ×Hp),aC l ([z0,some (au 2),z2,z3,some (au 8)]++List.replicate 37 none) 0 (MM is tx d1 d2 d3 R1 R2 R3 (ws.map .int) a')=some u→aC (am okf (.nm (.nm 4)) (bo 4 (bk [(ai (V.int 12))]) (.nm 43) [] Dg)::l) ([z0,some (au 2),z2,z3]++List.replicate 38 none) 0 (MB is tx d1 d2 d3 R1 R2 R3 a)=some u:=by
 have dr:∀{a m:Int} {q:Nat},(0≤a∧a≤900)→0<m→∃v,0≤v∧v<m∧drop aM [au 2,.int m] q (MB is tx d1 d2 d3 R1 R2 R3 a)=some (.int v,MB is tx d1 d2 d3 R1 R2 R3 (a+1)):=fun ha hm=>IV (P:=MB is tx d1 d2 d3 R1 R2 R3) (fun _=>rfl) (fun _=>rfl) (fun _ _=>rfl) (oO is) ha hm;obtain⟨ys,a',k1,k2,k3,k4,ec⟩:=t5 (P:=MB is tx d1 d2 d3 R1 R2 R3) (A:=500) (Q:=fun y=>∃w:Int,y=.int w∧-1000≤w∧w≤1000) (q:=0) (v:=43) (E:=Dg) (it:=.fixed (bw 0 12)) (l:=bw 0 12) (ρ:=[z0,some (au 2),z2,z3]++List.replicate 42 none) (fun _ _=>rfl) (fun _=>by show 0<4;decide) (by rw[aR];exact Nat.le_add_left _ _) (fun j x a hj h0 hA=>by
   have hj12:j<12:=by have:=(Ok.mp hj).1;rw[aR]at this;exact this
   rw[cv hj12]at hj;have hx:x=.int (j:Int):=by induction hj using QT;congr 1;exact Int.zero_add _
   subst hx;obtain⟨w,w0,w1,e⟩:=dr (a:=a) (m:=9) (q:=0) (by omega) (by decide);refine⟨.int (20+10*(j:Int)+w),a+1,?_,by omega,by omega,_,rfl,by omega,by omega⟩;exact v6 (v6 eB (v6 eB (bq rfl) rfl) rfl) (j4 (aX (bq rfl) (aX eB da)) e) rfl) (z:=none) (a:=a) ((And.left ‹_›)) (by rw[aR];omega)
 rw[aR]at k1 k4;obtain⟨ws,rfl,hws⟩:∃ws:List Int,ys=ws.map V.int∧∀w∈ws, -1000≤w∧w≤1000:=by
  clear ec k1;induction ys with
  |nil=>exact⟨[],rfl,fun c h=>nomatch h⟩
  |cons y l ih=>
   obtain⟨c,rfl,hc⟩:=k2 y (ak ..);obtain⟨cs,rfl,h⟩:=ih fun y hy=>k2 y (aD _ hy);exact⟨c::cs,rfl,fun d hd=>by rcases uB.mp hd with rfl|hd;exact hc;exact h d hd⟩
 rw[ao]at k1;refine⟨ws,a',k1,hws,by omega,by omega,fun l u h=>?_⟩;apply nP
 ·apply gF
  ·exact qE (m:=12) eB (by decide)
  exact ec
 exact h
theorem OH(is:List Int)(tx:List V)(d1 d2 d3:List (V×V))(R1 R2 R3:List O)(ws:List V)(ha:0≤a∧a≤104)(z0 z2 z3 z4:Option V):∃(ps:List (Int×Int)) (a':Int),ps.length=11∧∀(l:List St) (u:Fl×bJ×Hp),aC l ([z0,some (au 2),z2,z3,z4,some (au 9)]++List.replicate 36 none) 0 [[.list (f8 is),.list ((jk is).map .int),dh a',.list tx,.dict d1,.dict d2,.dict d3,.list [au 4,au 5,au 6],.list ws,.list (ps.map fun p=>.tup [.int p.1,.int p.2])],R1,R2,R3]=some u→aC (am okf (.nm (.nm 5)) (bo 4 (bk [(ai (V.int 11))]) (.nm 43) [] Du)::l) ([z0,some (au 2),z2,z3,z4]++List.replicate 37 none) 0 (MM is tx d1 d2 d3 R1 R2 R3 ws a)=some u:=by
 have dr:∀{a m:Int} {q:Nat},(0≤a∧a≤900)→0<m→∃v,0≤v∧v<m∧drop aM [au 2,.int m] q (MM is tx d1 d2 d3 R1 R2 R3 ws a)=some (.int v,MM is tx d1 d2 d3 R1 R2 R3 ws (a+1)):=fun ha hm=>IV (P:=MM is tx d1 d2 d3 R1 R2 R3 ws) (fun _=>rfl) (fun _=>rfl) (fun _ _=>rfl) (oO is) ha hm;obtain⟨ys,a',k1,k2,k3,k4,ec⟩:=t5 (P:=MM is tx d1 d2 d3 R1 R2 R3 ws) (A:=500) (Q:=fun y=>∃p:Int×Int,y=.tup [.int p.1,.int p.2]) (q:=0) (v:=43) (E:=Du) (it:=.fixed (bw 0 11)) (l:=bw 0 11) (ρ:=[z0,some (au 2),z2,z3,z4]++List.replicate 41 none) (fun _ _=>rfl) (fun _=>by show 0<4;decide) (by rw[aR];exact Nat.le_add_left _ _) (fun j x a hj h0 hA=>by
   obtain⟨w,w0,w1,e⟩:=dr (a:=a) (m:=90) (q:=0) (by omega) (by decide);obtain⟨w',w0',w1',e'⟩:=dr (a:=a+1) (m:=90) (q:=0) (by omega) (by decide);refine⟨.tup [.int w,.int w'],a+1+1,?_,by omega,by omega,(w,w'),rfl⟩;exact Bt (aX (j4 (aX (bq rfl) (aX eB da)) e) (aX (j4 (aX (bq rfl) (aX eB da)) e') da)) (bv rfl)) (z:=none) (a:=a) ((And.left ‹_›)) (by rw[aR];omega)
 rw[aR]at k1;obtain⟨ps,rfl⟩:∃ps:List (Int×Int),ys=ps.map fun p=>V.tup [.int p.1,.int p.2]:=by
  clear ec k1;induction ys with
  |nil=>exact⟨[],rfl⟩
  |cons y l ih=>
   obtain⟨c,rfl⟩:=k2 y (ak ..);obtain⟨cs,rfl⟩:=ih fun y hy=>k2 y (aD _ hy);exact⟨c::cs,rfl⟩
 rw[ao]at k1;refine⟨ps,a',k1,fun l u h=>?_⟩;apply nP
 ·apply gF
  ·exact qE (m:=11) eB (by decide)
  exact ec
 exact h
theorem Jy(D:ti)(R1 R2 R3:List O)(z0 z2:Option V):aC ((B_law.drop 5).take 6) ([z0,some (au 2),z2,some (au 7),some (au 8),some (au 9)]++List.replicate 36 none) 0 [(R0 D).take 10,R1,R2,R3]=some (.next,[z0,some (au 2),z2,some (au 7),some (au 8),some (au 9),some (au 23),none,some (au 33),some (au 44),some (au 58),some (au 67),some (au 75)]++List.replicate 29 none,[R0 D,R1,R2,R3]):=by kernel_rfl
noncomputable def Ep:List (V×V):=[(.str [97],.int 1),(.str [98],.int 2),(.str [99],.int 3),(.str [109],.int 11)]
theorem Kt(rl:ρ.length=42){cs:List Nat}(h2:ρ[2]?=some (some (.str cs)))(hq:0<H.length)(hl:cs.length≤4)(hlet:∀c∈cs,Let (c:Int)):∃H' t,bo 3 (rA (aa 2)) (.tp [43,44]) [] y4 ρ 0 H=some (.ref 0 t,H')∧Lx H H'∧H'.get 0 t=some (.list ((cs.mapIdx fun j (c:Nat)=>(⟨Ey (c:Int),(j:Int),0,0⟩:cL)).map bK)):=by
 let cl:List V:=(cs.mapIdx fun j (c:Nat)=>(⟨Ey (c:Int),(j:Int),0,0⟩:cL)).map bK;have cll:cl.length=cs.length:=by simp[cl]
 have en:∀(l:List Nat) (n j:Nat),(ji n l)[j]?=l[j]?.map fun c=>V.tup [.int ((n+j:Nat):Int),.str [c]]:=by
  intro l;induction l with
  |nil=>intro n j;rfl
  |cons c l ih=>
   intro n j;induction j with
   |zero=>rfl
   |succ j=>
    show(ji (n+1) l)[j]?=_;rw[ih,List.getElem?_cons_succ,show n+1+j=n+(j+1)by omega]
 have key:∀(m j K:Nat) (ρ':bJ) (H':Hp),j+m=cs.length→m<K→ρ'.length=45→Lx H H'→∃H'',dC (.tp [43,44]) [] y4 (.fixed (ji 0 cs)) K j (cl.take j) ρ' 0 H'=some (.ref 0 (H''.sz 0),H''.ins 0 (.list cl))∧Lx H H'':=by
  intro m;induction m with
  |zero=>
   intro j K ρ' H' hj hK hr X;obtain⟨K,rfl⟩:=oQ K ‹_›;rw[List.take_of_length_le (Rn ‹_› ‹_›)];exact⟨H',rn (by show some _=_;rw[en,gB.mpr (Ru ‹_›)];rfl) (by rw[X.1];exact hq) (by omega),X⟩
  |succ m ih=>
   intro j K ρ' H' hj hK hr X;obtain⟨K,rfl⟩:=oQ K ‹_›;obtain⟨c,hc⟩:∃c,cs[j]?=some c:=⟨_,ay (RA ‹_›)⟩;have lc:=hlet c (aP hc);have q':0<H'.length:=by rw[X.1];exact hq
   have hcl:cl[j]?=some (bK ⟨Ey c,j,0,0⟩):=by simp only[cl,aB,List.getElem?_mapIdx,hc,Option.map_some]
   have tk:cl.take (j+1)=cl.take j++[bK ⟨Ey c,j,0,0⟩]:=by
    rw[List.take_succ_eq_append_getElem (Rl ‹_› ‹_›)];congr 2;rw[ay (Rl ‹_› ‹_›)]at hcl;exact av hcl
   let ρ1:bJ:=(ρ'.set 43 (some (.int (j:Int)))).set 44 (some (.str [c]));obtain⟨H'',e,X''⟩:=ih (j+1) K ρ1 (H'.ins 0 (.dict Ep)) (Q8 ‹_›) (aL ‹_›) (by simp[ρ1,hr]) (X.trans Lx.ins);refine⟨H'',?_,X''⟩;have s43:ρ1[43]?=some (some (.int (j:Int))):=by
    simp only[ρ1];rw[List.getElem?_set_ne (by decide),bL (by omega)]
   have s44:ρ1[44]?=some (some (.str [c])):=by
    simp only[ρ1];rw[bL (by rw[List.length_set];omega)]
   have cd:bN [((ai (V.str [97])),(ai (V.int 1))),((ai (V.str [98])),(ai (V.int 2))),((ai (V.str [99])),(ai (V.int 3))),((ai (V.str [109])),(ai (V.int 11)))] ρ1 0 H'=some (.ref 0 (H'.sz 0),H'.ins 0 (.dict Ep)):=Hp.new_eq q' rfl;have ix:idx (.ref 0 (H'.sz 0)) (.str [c]) (H'.ins 0 (.dict Ep))=some (.int (Ey c)):=by
    refine Jp (Hp.get_ins_self q') rfl ?_;have:c=97∨c=98∨c=99∨c=109:=by omega
    rcases this with rfl|rfl|rfl|rfl<;>rfl
   refine rP (v:=.tup [.int (j:Int),.str [c]]) (ρ1:=ρ1) ?_ rfl pJ (y:=bK ⟨Ey c,j,0,0⟩) (H2:=H'.ins 0 (.dict Ep)) ?_ ?_
   ·show some _=_;rw[en,hc,Nat.zero_add];rfl
   ·exact Bt (aX (DB cd (bq s44) ix) (aX (bq s43) (aX eB (aX eB da)))) (bv rfl)
   ·rw[←tk];exact e
 obtain⟨H'',e,X⟩:=key cs.length 0 2000 (ρ++List.replicate 3 none) H (Nat.zero_add _) (aJ ‹_› (by decide)) (by simp[rl]) (Lx.refl _);refine⟨H''.ins 0 (.list cl),H''.sz 0,?_,X.trans Lx.ins,Hp.get_ins_self (by rw[X.1];exact hq)⟩;apply gF
 ·unfold rA;rw[bq h2]
 exact e
theorem zp(pc:Int→Option (List Int)):∀(l:List cL) (n:Int),(∀c∈l,0≤c.s)→0≤n→(∀c∈(jE pc l n).1,0≤c.s)∧0≤(jE pc l n).2
 |[],n,_,hn=>⟨fun c h=>(nomatch h),hn⟩
 |x::l,n,h,hn=>by
  have hx:=h x (ak ..);have h1:(∀c∈(cQ pc x n).1,0≤c.s)∧0≤(cQ pc x n).2:=by
   unfold cQ;induction pc x.g with
   |none=>exact⟨fun c hc=>by rw[Oc.mp hc];exact hx,hn⟩
   |some ps=>
    dsimp only;split
    ·exact⟨fun c hc=>by obtain⟨p,_,rfl⟩:=MQ.mp hc;exact hx,hn⟩
    ·exact⟨fun c hc=>by obtain⟨j,_,rfl⟩:=List.mem_mapIdx.mp hc;show 0≤n+1;omega,by show 0≤n+1;omega⟩
  have h2:=zp pc l (cQ pc x n).2 (fun c hc=>h c (aD _ hc)) h1.2;refine⟨fun c hc=>?_,h2.2⟩;rcases NH.mp hc with h|h
  ·exact h1.1 c h
  ·exact h2.1 c h
theorem ow{α β:Type}(f:α→β)(d:α):∀(l:List α),l.map f=(List.range l.length).map fun i=>f (l.getD i d)
 |[]=>rfl
 |a::l=>by rw[List.map_cons,List.length_cons,List.range_succ_eq_map,List.map_cons,List.map_map,ow f d l];rfl
theorem Lk(hl:H.length=7)(h:∀(i:Nat) (o:O),i<76→(R0 D)[i]?=some o→H.get 0 i=some o):∃T x1 x2 x3 x4 x5 x6,H=[R0 D++T,x1,x2,x3,x4,x5,x6]:=by
 have hm:=ow (fun x:List O=>x) [] H;rw[List.map_id',hl]at hm;refine⟨(H.getD 0 []).drop 76,H.getD 1 [],H.getD 2 [],H.getD 3 [],H.getD 4 [],H.getD 5 [],H.getD 6 [],hm.trans ?_⟩;show H.getD 0 []::_=_;congr 1;have e:(H.getD 0 []).take 76=R0 D:=by
  apply ch;intro i;rw[List.getElem?_take];by_cases hi:i<76
  ·rw[ac hi];have hR:i<(R0 D).length:=hi;rw[ay hR];have:=h i _ hi (ay hR);rw[←this,List.getD_eq_getElem?_getD];unfold Hp.get;rw[ay (show 0<H.length by omega)];rfl
  ·rw[af hi,gB.mpr];show 76≤i;exact Nat.le_of_not_lt ‹_›
 rw[←e,List.take_append_drop]
theorem Ob{rows:Nat}{s2:List Inf}{a:Ev}{H0:Hp}(ha:a ρ 0 H0=some (.ref 9 rows,H))(rl:ρ.length=42)(hr:H.get 9 rows=some (.list (s2.map Inf.row7)))(hq:0<H.length)(hl:s2.length≤500):bo 3 (bn a) (.nm 43) [] yr ρ 0 H0=some (.ref 0 (H.sz 0),H.ins 0 (.list (s2.map Inf.row6))):=by
 have hz:(ρ++List.replicate 3 none)=(ρ++List.replicate 3 none).set 43 none:=by
  have:(ρ++List.replicate 3 none)[43]?=some none:=by rw[bB (by omega),rl];rfl
  obtain⟨h1,h2⟩:=Ok.mp this
  conv=>lhs;rw[←List.set_getElem_self (as:=ρ++List.replicate 3 none) h1,h2]
 apply gF
 ·exact vP ha hr
 rw[hz];refine fV (z:=none) (v:=43) (fun j=>aE hr j) hq (by rw[ao];exact aO ‹_› (by decide)) (by rw[ao,ao]) ?_;intro j x y hx hy;rw[aB]at hx hy;induction hj:s2[j]? with
 |none=>rw[hj]at hx;exact Rk hx
 |some w=>
  rw[hj]at hx hy
  (refine QU hx ?_;clear hx;rintro rfl);(refine QU hy ?_;clear hy;rintro rfl)
  have s43:((ρ++List.replicate 3 none).set 43 (some w.row7))[43]?=some (some w.row7):=bL (by simp[rl]);have sl:bV (aa 43) none (some (ai (V.int 6))) ((ρ++List.replicate 3 none).set 43 (some w.row7)) 0 H=some (w.row6,H):=by
   unfold bV;rw[bq s43];rfl
  exact LK (aX sl da) rfl
theorem L7(h1:H.get 0 i=some (.list l))(h2:H.get 0 u=some (.list l))(hp:∀v∈l,CP v):bO .eq (.ref 0 i) (.ref 0 u) H=some true:=by
 show(match H.get 0 i,H.get 0 u with|some (.list a),some (.list b)=>if a.length=b.length then gU Ac a b else some false|_,_=>.none)=_;rw[h1,h2];dsimp only;rw[ac rfl,rU hp]
theorem Mm{ws:List Int}(h:ws.length=12):ws.map V.int=[.int (ws.getD 0 0),.int (ws.getD 1 0),.int (ws.getD 2 0),.int (ws.getD 3 0),.int (ws.getD 4 0),.int (ws.getD 5 0),.int (ws.getD 6 0),.int (ws.getD 7 0),.int (ws.getD 8 0),.int (ws.getD 9 0),.int (ws.getD 10 0),.int (ws.getD 11 0)]:=by
 rw[ow V.int 0 ws,h];rfl
theorem Mc{ps:List (Int×Int)}(h:ps.length=11)(f:Nat→V)(hf:∀i,f i=.tup [.int (ps.getD i (0,0)).1,.int (ps.getD i (0,0)).2]):(ps.map fun p=>V.tup [.int p.1,.int p.2])=[f 0,f 1,f 2,f 3,f 4,f 5,f 6,f 7,f 8,f 9,f 10]:=by
 have e:(fun i=>V.tup [.int (ps.getD i (0,0)).1,.int (ps.getD i (0,0)).2])=f:=funext fun i=>(hf i).symm;rw[ow _ (0,0) ps,h,e];rfl
theorem HZ(is:List Int)(h63:is.length≤63):∃H',DT [.kl (is.map .int)] 0 [[]]=some (.bool true,H'):=by
 obtain⟨cs,tx,a2,c1,c2,c3,c4,k2⟩:=O3 is (some (.kl (is.map .int)));obtain⟨d1,d2,d3,R1,R2,R3,a3,gd1,gd2,gd3,c5,c6,k3⟩:=OO is tx ⟨c3,c4⟩ (some (.kl (is.map .int))) (some (.str (97::cs)));obtain⟨ws,a4,w12,wb,c7,c8,k4⟩:=ON is tx d1 d2 d3 R1 R2 R3 ⟨c5,c6⟩ (some (.kl (is.map .int))) (some (.str (97::cs))) (some (au 7));obtain⟨ps,a5,p11,k5⟩:=OH is tx d1 d2 d3 R1 R2 R3 (ws.map .int) ⟨c7,c8⟩ (some (.kl (is.map .int))) (some (.str (97::cs))) (some (au 7)) (some (au 8));let D:ti:=⟨f8 is,(jk is).map .int,a5,tx,d1,d2,d3,fun g=>ws.getD g 0,fun g=>(ps.getD g (0,0)).1,fun g=>(ps.getD g (0,0)).2⟩;have e10:([[.list (f8 is),.list ((jk is).map .int),dh a5,.list tx,.dict d1,.dict d2,.dict d3,.list [au 4,au 5,au 6],.list (ws.map .int),.list (ps.map fun p=>.tup [.int p.1,.int p.2])],R1,R2,R3]:Hp)=[(R0 D).take 10,R1,R2,R3]:=by
  rw[Mm w12,Mc p11 (pV D) (fun _=>rfl)];rfl
 have hw:∀g, -1000≤D.w g∧D.w g≤1000:=by
  intro g;show -1000≤ws.getD g 0∧ws.getD g 0≤1000;rw[List.getD_eq_getElem?_getD];induction hg:ws[g]? with
  |none=>decide
  |some w=>exact wb w (aP hg)
 have M1:Mp D.d1 (yz d1):=gd1.mp;have M2:Mp D.d2 (yz d2):=gd2.mp;have M3:Mp D.d3 (yz d3):=gd3.mp;have tl:(97::cs).length≤4:=by rw[List.length_cons];exact aJ ‹_› (by decide)
 have tlet:∀c∈(97::cs:List Nat),Let (c:Int):=fun c hc=>by
  rcases uB.mp hc with rfl|hc
  ·decide
  ·exact c2 c hc
 let H12:Hp:=[R0 D,R1,R2,R3];let ρ12:bJ:=[some (.kl (is.map .int)),some (au 2),some (.str (97::cs)),some (au 7),some (au 8),some (au 9),some (au 23),none,some (au 33),some (au 44),some (au 58),some (au 67),some (au 75)]++List.replicate 29 none;obtain⟨H13,t,ec,X13,g13⟩:=Kt (ρ:=ρ12) (H:=H12) (cs:=97::cs) rfl rfl (by show 0<4;decide) tl tlet;have l13:H13.length=4:=X13.1;let C0:List cL:=(97::cs).mapIdx fun j (c:Nat)=>(⟨Ey (c:Int),(j:Int),0,0⟩:cL);have C0l:C0.length=(97::cs).length:=ca;let p1:=yz d1;let p2:=yz d2;let p3:=yz d3;let r1:=jE p1 C0 0;let r2:=jE p2 r1.1 r1.2;let r3:=jE p3 r2.1 r2.2;let cj:List Int:=(97::cs).map Int.ofNat;have cst:(bm cj).map Inf.cell=C0:=by
  apply ch;intro k;simp only[bm,cj,C0,aB,List.getElem?_mapIdx];cases(97::cs)[k]? <;> rfl
 have q1:=yH p1 (bm cj) 0;rw[cst]at q1;have q2:=yH p2 (b0 p1 (bm cj) 0).1 (b0 p1 (bm cj) 0).2;rw[q1.1,q1.2]at q2;have q3:=yH p3 (b0 p2 (b0 p1 (bm cj) 0).1 (b0 p1 (bm cj) 0).2).1 (b0 p2 (b0 p1 (bm cj) 0).1 (b0 p1 (bm cj) 0).2).2;have q2a:(b0 p2 (b0 p1 (bm cj) 0).1 (b0 p1 (bm cj) 0).2).1.map Inf.cell=r2.1:=by rw[q1.2];exact q2.1
 have q2b:(b0 p2 (b0 p1 (bm cj) 0).1 (b0 p1 (bm cj) 0).2).2=r2.2:=by rw[q1.2];exact q2.2
 rw[q2a,q2b]at q3;have rd0:∀x∈bm cj,Rd x:=by
  intro x hx;obtain⟨j,hj,rfl⟩:=List.mem_mapIdx.mp hx;refine⟨rfl,rfl,rfl,rfl,rfl,rfl,rfl,Let.gok ?_⟩;have:=List.getElem_mem hj;obtain⟨n,hn,e⟩:=MQ.mp this;rw[←e];exact tlet n hn
 have k1':=ku (n:=0) M1 rd0;have k2':=ku (n:=(b0 p1 (bm cj) 0).2) M2 k1'.1;have w1:(b0 p1 (bm cj) 0).1.length≤3*(bm cj).length:=k1'.2;have w2:(b0 p2 (b0 p1 (bm cj) 0).1 (b0 p1 (bm cj) 0).2).1.length≤3*(b0 p1 (bm cj) 0).1.length:=k2'.2;have k3':=ku (n:=(b0 p2 (b0 p1 (bm cj) 0).1 (b0 p1 (bm cj) 0).2).2) M3 k2'.1;have hst:(bm cj).length≤4:=by simp only[bm,cj,ca,ao];exact tl
 let X:=(vL p1 p2 p3 (bm cj)).1;have hX:X.map Inf.cell=r3.1:=by
  show(b0 p3 (b0 p2 (b0 p1 (bm cj) 0).1 (b0 p1 (bm cj) 0).2).1 (b0 p2 (b0 p1 (bm cj) 0).1 (b0 p1 (bm cj) 0).2).2).1.map Inf.cell=_;rw[q2b];exact q3.1
 have rX:∀x∈X,Rd x:=k3'.1;have lX:X.length≤108:=by
  have h1:=k1'.2;have h2:=k2'.2;have h3:X.length≤_:=k3'.2;omega
 have b1:r1.1.length≤12:=by have:=congrArg List.length q1.1;rw[ao]at this;show(jE p1 C0 0).1.length≤12;omega
 have b2:r2.1.length≤36:=by have:=congrArg List.length q2a;rw[ao]at this;omega
 have b3:r3.1.length≤108:=by have:=congrArg List.length hX;rw[ao]at this;omega
 have gk:∀c∈r3.1,qC c.g:=by
  intro c hc;rw[←hX]at hc;obtain⟨x,hx,rfl⟩:=MQ.mp hc;exact(rX x hx).g
 have s0:∀c∈C0,0≤c.s:=fun c hc=>by obtain⟨j,hj,rfl⟩:=List.mem_mapIdx.mp hc;exact Int.le_refl 0
 have s1':=zp p1 C0 0 s0 (Int.le_refl 0);have s2':=zp p2 r1.1 r1.2 s1'.1 s1'.2;have s3':=zp p3 r2.1 r2.2 s2'.1 s2'.2;have z13:∀(i:Nat) (o:O),(R0 D)[i]?=some o→H13.get 0 i=some o:=fun i o h=>X13.2 0 i o h;obtain⟨Ra,ta,ea,ga⟩:=lU (H:=H13) (q:=0) (r:=0) (i:=t) (md:=4) (n:=0) g13 (z13 4 _ rfl) M1 (by rw[C0l];exact aJ ‹_› (by decide));rw[l13]at ea;have l14:(H13++[Ra]).length=5:=by rw[bx,l13];rfl
 have g14:Hp.get (H13++[Ra]) 4 ta=some (.list (r1.1.map bK)):=by have:=getL (H:=H13) (R:=Ra) (i:=ta);rw[l13]at this;rw[this];exact ga
 have z14:∀(i:Nat) (o:O),(R0 D)[i]?=some o→Hp.get (H13++[Ra]) 0 i=some o:=fun i o h=>eN (z13 i o h);obtain⟨Rb,tb,eb,gb⟩:=lU (H:=H13++[Ra]) (q:=0) (r:=4) (i:=ta) (md:=5) (n:=r1.2) g14 (z14 5 _ rfl) M2 (aO ‹_› (by decide));rw[l14]at eb;have l15:(H13++[Ra]++[Rb]).length=6:=by rw[bx,l14];rfl
 have g15:Hp.get (H13++[Ra]++[Rb]) 5 tb=some (.list (r2.1.map bK)):=by have:=getL (H:=H13++[Ra]) (R:=Rb) (i:=tb);rw[l14]at this;rw[this];exact gb
 have z15:∀(i:Nat) (o:O),(R0 D)[i]?=some o→Hp.get (H13++[Ra]++[Rb]) 0 i=some o:=fun i o h=>eN (z14 i o h);obtain⟨Rc,tc,ecc,gc⟩:=lU (H:=H13++[Ra]++[Rb]) (q:=0) (r:=5) (i:=tb) (md:=6) (n:=r2.2) g15 (z15 6 _ rfl) M3 (aO ‹_› (by decide));rw[l15]at ecc;let H16:Hp:=H13++[Ra]++[Rb]++[Rc];have l16:H16.length=7:=by show(H13++[Ra]++[Rb]++[Rc]).length=7;rw[bx,l15];rfl
 have g16:H16.get 6 tc=some (.list (r3.1.map bK)):=by have:=getL (H:=H13++[Ra]++[Rb]) (R:=Rc) (i:=tc);rw[l15]at this;exact this.trans gc
 have z16:∀(i:Nat) (o:O),(R0 D)[i]?=some o→H16.get 0 i=some o:=fun i o h=>eN (z15 i o h);let u:=H16.sz 0;let H17:Hp:=H16.ins 0 (.list []);have q16:0<H16.length:=by rw[l16];decide
 have X17:Lx H16 H17:=Lx.ins;have gu:H17.get 0 u=some (.list []):=Hp.get_ins_self q16;have un:∀(i:Nat) (o:O),(R0 D)[i]?=some o→u≠i:=fun i o h=>by have:=Hp.lt_sz (z16 i o h);simp only[u];exact Nat.ne_of_gt ‹_›
 obtain⟨H18,y13,y17,y18,y19,e18,L18,g18⟩:=Nh (D:=D) (z0:=some (.kl (is.map .int))) (z1:=some (au 2)) (z2:=some (.str (97::cs))) (z3:=some (au 7)) (z6:=some (au 23)) (z7:=some (au 6)) (z8:=some (au 33)) (z9:=some (au 44)) (z10:=some (au 58)) (z11:=some (au 67)) (z12:=some (au 75)) (z15:=some (.int r3.2))
  (X17.2 _ _ _ g16) (X17.2 _ _ _ (z16 8 _ rfl)) (X17.2 _ _ _ (z16 9 _ rfl)) ⟨un 8 _ rfl,un 9 _ rfl⟩ gu gk s3'.1 hw (aO ‹_› (by decide))
 have z18:∀(i:Nat) (o:O),i<76→(R0 D)[i]?=some o→H18.get 0 i=some o:=fun i o _ h=>L18.2 _ _ _ (X17.2 _ _ _ (z16 i o h)) (by intro zq;obtain⟨_,e⟩:=zq;exact un i o h e.symm);have l18:H18.length=7:=by rw[L18.1,X17.1];exact l16
 obtain⟨T,x1,x2,x3,x4,x5,x6,eH⟩:=Lk l18 z18;obtain⟨H19,sh,rows,s1,s2,e19,v1,v2,S1,S2,l19,fr⟩:=J2 (D:=D) (cs:=97::cs) T x1 x2 x3 x4 x5 x6 0 tl tlet M1 M2 M3;rw[←eH]at e19;have gu19:H19.get 0 u=some (.list (qP D r3.1)):=by
  refine fr u _ ?_ rfl;rw[eH]at g18;exact g18
 let sA:=Fd D X;have pe:=Ko (D:=D) (sA:=sA) (fun x hx=>by obtain⟨y,hy,rfl⟩:=MQ.mp hx;have r:=rX y hy;exact⟨r.pr,r.xo,r.yo,rfl⟩) S1 S2;have sc:sA.map Inf.cell=r3.1:=by
  rw[←hX];show(X.map _).map Inf.cell=_;rw[List.map_map];rfl
 rw[sc]at pe;have l2:s2.length≤500:=by
  have e1:=S2.length;rw[uu,S1.length]at e1;have:s2.length=X.length:=by rw[e1];unfold fY;rw[ca];exact ao _
  omega
 have q19:0<H19.length:=by rw[l19];decide
 let ρ18:bJ:=[some (.kl (is.map .int)),some (au 2),some (.str (97::cs)),some (au 7),some (au 8),some (au 9),some (au 23),some (au 6),some (au 33),some (au 44),some (au 58),some (au 67),some (au 75),y13,some (.ref 6 tc),some (.int r3.2),some (.ref 0 u),y17,y18,y19]++List.replicate 22 none;have six:=Ob (ρ:=ρ18) (H0:=H18) (H:=H19) (rows:=rows) (s2:=s2) (a:=ae (aj (f7 i8) [(aa 12),(aa 2)]) 64) (qV (j4 (aX (bq rfl) (aX (bq rfl) da)) e19) v1 rfl) rfl v2 q19 l2;let H20:Hp:=H19.ins 0 (.list (s2.map Inf.row6));have w20:H20.get 0 (H19.sz 0)=some (.list (s2.map Inf.row6)):=Hp.get_ins_self q19;have u20:H20.get 0 u=some (.list (s2.map Inf.row6)):=by rw[pe];exact Hp.get_ins gu19
 have cmp:=L7 w20 u20 (fun v hv=>by obtain⟨x,_,rfl⟩:=MQ.mp hv;exact CO x);have fin:aC [(aF (bE (aA .eq (bo 3 (bn (ae (aj (f7 i8) [(aa 12),(aa 2)]) 64)) (.nm 43) [] yr) (aa 16))))] ρ18 0 H18=some (.ret (.bool true),ρ18,H20):=
  BP (D7 (vo six (bq rfl) cmp))
 have maps:∀(H:Hp),H.get 0 7=some (.list [au 4,au 5,au 6])→True:=fun _ _=>trivial;have rest:∀{l:List St} {u:Fl×bJ×Hp},aC l ([some (.kl (is.map .int)),some (au 2),some (.str (97::cs)),some (au 7),some (au 8),some (au 9),some (au 23),some (au 6),some (au 33),some (au 44),some (au 58),some (au 67),some (au 75),none,some (.ref 6 tc),some (.int r3.2)]++List.replicate 26 none) 0 H16=some u→
   aC (am okf (.nm (.tp [14,15])) (bP [(bo 3 (rA (aa 2)) (.tp [43,44]) [] y4),(ai (V.int 0))])::bG (bn (aa 3)) (.nm 7) Go::l) ρ12 0 H12=some u:=by
  intro l u h;apply qm
  ·exact Bt (aX ec (aX eB da)) (bv rfl)
  ·exact rfl
  apply iz
  ·exact vP (bq rfl) (z13 7 _ rfl)
  apply dO
  ·exact aE (z13 7 _ rfl) 0
  ·exact rfl
  left;apply qm
  ·exact j4 (aX (bq rfl) (aX (bq rfl) (aX (bq rfl) da))) ea
  ·exact rfl
  left;apply dO
  ·exact aE (z14 7 _ rfl) 1
  ·exact rfl
  left;apply qm
  ·exact j4 (aX (bq rfl) (aX (bq rfl) (aX (bq rfl) da))) eb
  ·exact rfl
  left;apply dO
  ·exact aE (z15 7 _ rfl) 2
  ·exact rfl
  left;apply qm
  ·exact j4 (aX (bq rfl) (aX (bq rfl) (aX (bq rfl) da))) ecc
  ·exact rfl
  left;apply iQ
  ·exact aE (z16 7 _ rfl) 3
  exact h
 have tail:aC (B_law.drop 11) ρ12 0 H12=some (.ret (.bool true),ρ18,H20):=by
  show aC (_::_::_::_::_) ρ12 0 H12=_;apply rest;apply nP
  ·exact kT da q16 (by decide)
  apply eI e18;exact fin
 have six2:aC (B_law.drop 5) ([some (.kl (is.map .int)),some (au 2),some (.str (97::cs)),some (au 7),some (au 8),some (au 9)]++List.replicate 36 none) 0 [(R0 D).take 10,R1,R2,R3]=some (.ret (.bool true),ρ18,H20):=by
  have e:B_law.drop 5=(B_law.drop 5).take 6++B_law.drop 11:=rfl;rw[e,fJ,Jy D R1 R2 R3];exact tail
 refine⟨H20,?_⟩;apply bQ rfl rfl;show aC (_::_::_::_::_::B_law.drop 5) _ 0 [[]]=_;apply OI h63;apply k2;apply k3;apply k4;apply k5;rw[e10];exact six2
end
section
open PySem PySem.W PySem.Calls PyProof.Rows PySem.SeqAt
set_option tactic.hygienic false
theorem JT{Γ:Jh}{F:Md}(h:(PP.main.body[319]?).bind (Bu Γ)=some F):eV lawD.scope.names=true∧F=N2 Γ [] lawD.params lawD.scope lawD.body:=by
 have e:(PP.main.body[319]?).bind (Bu Γ)=if !eV lawD.scope.names then none else some (N2 Γ [] lawD.params lawD.scope lawD.body):=by kernel_rfl
 rw[e]at h;by_cases c:eV lawD.scope.names=true
 ·rw[c]at h;(refine QU h ?_;clear h;rintro rfl);exact⟨c,rfl⟩
 ·rw[Bool.not_eq_true]at c;rw[c]at h;exact Rk h
theorem Jl{cx:Cx}(S:HG cx):∃B,DT=aq (k8 lawD.params lawD.scope) [] lawD.scope.names.length B∧sd cx 16 lawD.scope lawD.body B:=by
 have hf:FnsOk cx 15 fnT _:=(.cons 83 rfl (Callee.mono (lQ (tE S) q0) (by decide)) (.cons 85 rfl (Callee.mono (gI (wQ S)) (by decide)) (.cons 86 rfl ((Do S).mono (by decide)) (.cons 87 rfl ((G6 S).mono (by decide)) (.cons 9 rfl ((AL S).mono (by decide)) (.cons 88 rfl ((DA S).mono (by decide)) (.cons 89 rfl ((Hv S).mono (by decide)) (.cons 90 rfl ((GK S).mono (by decide)) (.cons 91 rfl ((ED S).mono (by decide)) (.cons 92 rfl ((FO S).mono (by decide)) (.cons 93 rfl ((Mx S).mono (by decide)) (.cons 94 rfl ((CY S).mono (by decide)) (.cons 95 rfl ((Mk S).mono (by decide)) (.cons 96 rfl ((EH S).mono (by decide)) (.cons 97 rfl ((EB S).mono (by decide)) (.cons 98 rfl (Callee.mono (gI (BZ S)) (by decide)) (.cons 99 rfl ((Dq S).mono (by decide)) (.cons 100 rfl (gI (JU S)) .nil))))))))))))))))));obtain⟨hsc,e⟩:=JT NZ;exact⟨_,e,(Kd (PG S hf .nil) hsc 60).b lawD.body⟩
theorem CE{K:Frag}{x a:Addr}{o o':Obj}(h:(K++[(x,o)]).lookup a=some o'):K.lookup a=some o'∨(a=x∧o'=o):=by
 rw[List.lookup_append]at h;induction hk:K.lookup a with
 |some y=>rw[hk]at h;exact .inl h
 |none=>
  rw[hk]at h;right;simp only[Option.none_or,bW,List.lookup_nil]at h
  (split at h;rotate_left;(first|exact Rk h|cases h);rename_i e)
  induction h using QT;exact⟨iu.mp e,rfl⟩
theorem sT{K:Frag}{x:Addr}{o:Obj}(h:K.lookup x=none):(K++[(x,o)]).lookup x=some o:=by
 rw[List.lookup_append,h];simp
set_option maxHeartbeats 1000000 in
theorem Ht(lt:∀is:List Int,is.length≤63→∃H',DT [.kl (is.map .int)] 0 [[]]=some (.bool true,H')) (sys:∀P:Params,((Kp P).lookup sysModules).isSome=true) (std:∀(w:World) (x:Addr) (o:Obj) (cx:Cx),cx.K=Kp w.params++[(x,o)]→cx.names=fieldNames→cx.okf=okf→HG cx) :WalkO sg l9 (XL sg []) (fun w h=>(Kp w.params).In h) RR.toRowW lawD [] fun f vs=>PySem.call f vs:=by
 intro w s₀ s₁ mg mb G KX fa o pm cd doc dV kV ho hd hcd hD hmg hg args vals as hpre hlay hrd hwl hlo;obtain⟨is,rfl,h63⟩:=Jm hpre;obtain⟨x,vs,rfl,hx,hV⟩:=IC hwl;have T:=G.T;have he:=Dflts.none hD rfl;have hk:kV=.none:=hD.kw.elim (·.2) fun h=>absurd rfl h.1;subst he hk;let K:Frag:=Kp w.params++[(x,⟨.type "list",none,.seq (List.toArray vs) 0,#[]⟩)];have KI:K.In s₁.heap:=fun a o h=>by
  rcases CE h with h|⟨rfl,rfl⟩
  ·exact KX a o h
  ·exact hx
 have Kx:K.lookup x=some ⟨.type "list",none,.seq (List.toArray vs) 0,#[]⟩:=by
  induction h:(Kp w.params).lookup x with
  |none=>exact sT h
  |some o'=>
   have h1:=KX x o' h;rw[hx]at h1;induction h1 using QT;show(Kp w.params++_).lookup x=_;rw[List.lookup_append,h];rfl
 let cx:Cx:=⟨w,K,fieldNames,okf,sg,looseW sg l9,ExcName.means s₀.heap,mg,mb⟩;have S:HG cx:=std w x _ cx rfl rfl rfl;obtain⟨B,eF,hB⟩:=Jl S;obtain⟨H',hF⟩:=lt is h63;rw[eF]at hF;have hl:(V.kl (is.map .int))=V.kl (is.map .int):=rfl;have hnd:((cellsFrom 0 lawD.scope.names []).map (·.1)).Nodup:=by decide +kernel
 refine enter_call ?_;have bnd:bindArgs (Calls.docDef lawD.name lawD.params lawD.body lawD.scope pm cd doc) ⟨[.ref x],[]⟩=pure [((Str.ofString "script"),.ref x)]:=rfl;have hloc:lawD.scope.names.lookup (Str.ofString "script")=some .local:=by decide +kernel
 have hplace:k8 lawD.params lawD.scope=[0]:=by kernel_rfl
 have hlen:lawD.scope.names.length=42:=by kernel_rfl
 have hzero:∀y k,bc y lawD.scope.names 0=some (0,k)→y=(Str.ofString "script"):=by
  have e0:lawD.scope.names=((Str.ofString "script"),NameKind.local)::lawD.scope.names.drop 1:=by kernel_rfl
  intro y k h;rw[e0]at h;refine tR h ?_ ?_<;>clear h
  ·intro e h;exact iu.mp e
  ·intro _ h;have:∀(l:List (Str×NameKind)) (n:Nat),0<n→bc y l n≠some (0,k):=by
    intro l;induction l with
    |nil=>intro n _ h;exact Rk h
    |cons p l ih=>
     intro n hn h;refine tR h ?_ ?_<;>clear h
     ·intro _ h
      (refine QH h ?_;clear h;rintro rfl rfl);exact absurd ‹_› (Nat.lt_irrefl _)
     ·intro _ h;exact ih (n+1) (Nat.zero_lt_succ _) h
   exact absurd h (this _ _ (by decide))
 have hkf:lawD.scope.kind=.function:=by kernel_rfl
 refine call_cellsN (by decide +kernel) ho hd T.nolimit hcd bnd (fun y hy=>?_) hnd (fun h₁ tk cells F N Y=>?_) (by kernel_rfl) (by kernel_rfl) hkf
 ·rw[Oc.mp hy];exact .inl hloc
 let env':Env:=envOfC lawD.name lawD.scope s₁.heap.objs.size fa cd;let fx:Fx:={A₀:=callerA,A:=callerA.deeper env',base:=s₁.heap,outer:=[],fenv:=env',env:=env',h₀:=s₁.heap,L:=s₁.heap.objs.size,frn:=[]};let W:Wd:=⟨[[]],[]⟩;have hpw:=fA lawD.scope.names (s₁.heap.objs.size+1) (s₁.heap.objs.size+1) [] (by simp) (aS _) .nil;obtain⟨cg1,cg2,cg3⟩:=om Y;have hnodup:(cells.map (·.1)).Nodup:=by
  rw[cg1];show((cellsFrom (s₁.heap.objs.size+1) lawD.scope.names []).map (·.2)).Nodup;rw[List.Nodup,List.pairwise_map];exact hpw.2
 have Vx:VR K W (.kl (is.map .int)) (.ref x):=.kl _ _ _ _ Kx (by rw[ao];exact aO ‹_› (by decide)) (hV _ _);have get0:∀r i,Hp.get [[]] r i=none:=fun r i=>by
  unfold Hp.get;induction r with
  |zero=>rfl
  |succ r=>simp
 have at0:∀r i,W.at r i=none:=fun r i=>by
  show(match([[]]:List (List (Addr×Option Addr)))[r]? with|some R=>R[i]?|none=>none)=none;induction r with
  |zero=>rfl
  |succ r=>simp
 have has0:∀r i a,¬W.has r i a:=fun r i a h=>by obtain⟨y,dy,e,_⟩:=h;rw[at0]at e;exact Rk e
 have C:cx.CR fx (bindL env'.kindOf [((Str.ofString "script"),.ref x)] fun _=>none) ([]++cells) W [[]] h₁:=by
  refine⟨F,rfl,fun r i o h=>?_,fun q hq=>(nomatch hq),fun q hq=>?_,fun r i r' i' a h=>(has0 _ _ _ h).elim,fun r i a h=>(has0 _ _ _ h).elim,⟨hnodup,fun q _ p hp=>(nomatch hp)⟩,fun q hq h=>?_⟩
  ·rw[get0]at h;exact Rk h
  ·have hq':q∈cells:=hq;have:=N q hq';exact⟨this.1,this.2.2,this.2.1⟩
  ·obtain⟨v,hv⟩:=cg3 q (by simpa using hq);obtain⟨_,a,n,h2⟩:=h;rw[hv]at h2;cases h2
 have G':Good cx fx 16:=by
  refine⟨below_caller s₁.heap,Around.frames_deeper rfl,rfl,hkf,rfl,rfl,hkf,KI,T,rfl,?_,?_,?_⟩
  ·show callerA.depth+1+10*16+20≤990;decide +kernel
  ·show callerA.units+3+100*16+200≤9000;decide +kernel
  ·obtain⟨o,ho⟩:=Option.isSome_iff_exists.mp (sys w.params);exact⟨o,KX _ _ ho⟩
 have FF:hG fx lawD.scope:=⟨rfl,rfl,rfl⟩;let ρ0:bJ:=some (.kl (is.map .int))::List.replicate 41 none;have at1:∀(i:Nat) (v:V),ρ0[i]?=some (some v)→i=0∧v=.kl (is.map .int):=by
  intro i v h;induction i with
  |zero=>(refine QU h ?_;clear h;intro e;cases e);exact⟨rfl,rfl⟩
  |succ i=>
   have h':(List.replicate 41 (none:Option V))[i]?=some (some v):=h;rw[List.getElem?_replicate]at h';split at h'<;>(first|(refine QU h' ?_;clear h';intro e;cases e)|exact Rk h')
 have FL:FLoc cx fx lawD.scope (bindL env'.kindOf [((Str.ofString "script"),.ref x)] fun _=>none) cells ρ0 W:=by
  refine⟨by rewrite[hlen];rfl,fun y i v hy hv=>?_,fun y i hy=>?_,fun y z c h1 h2=>pG hpw.2 h1 h2⟩
  ·obtain⟨rfl,rfl⟩:=at1 i v hv;obtain rfl:=hzero y _ hy;exact⟨.ref x,qA (show env'.kindOf (Str.ofString "script")=some .local from hloc) (by simp) (Oc.mpr rfl),Vx⟩
  ·have hk:=(aK hy).1;obtain⟨c,hc⟩:=Option.isSome_iff_exists.mp (jr (n:=s₁.heap.objs.size+1) (acc:=[]) hk);obtain⟨o,h1,h2⟩:=cg2 y c hc;refine⟨c,o,_,hc,h1,h2,fun v hv=>?_⟩;obtain⟨rfl,rfl⟩:=at1 i v hv;obtain rfl:=hzero y _ hy;rw[hloc]at hk;(refine QU hk ?_;clear hk;intro e;cases e)
 have hS:∃ρ',aC B ρ0 0 [[]]=some (.ret (.bool true),ρ',H'):=by
  rw[hplace,hlen]at hF;have e:aq [0] [] 42 B [.kl (is.map .int)] 0 [[]]=(match aC B ρ0 0 [[]]with|some (.ret v,_,H)=>some (v,H)|some (.next,_,H)=>some (V.none,H)|none=>none):=rfl;rw[e]at hF;rcases q:aC B ρ0 0 [[]]with _|⟨f,ρ',H2⟩
  ·rw[q]at hF;exact Rk hF
  ·rw[q]at hF;induction f with
   |next=>(refine QU hF ?_;clear hF;intro e;cases e)
   |ret v=>(refine QH hF ?_;clear hF;rintro rfl rfl);exact⟨ρ',rfl⟩
 obtain⟨ρ',hS⟩:=hS;refine hB fx _ [] cells ρ0 W [[]] (sH s₁ h₁ tk) (.ret (.bool true)) ρ' H' 0 _ _ G' FF FL C hS fun W' h' tk' m' cells' f lW FL' C' FR=>?_;induction f with
 |ret u=>
  have hu:VR K W' (.bool true) u:=FR;induction hu using Rr;have F2:Fr s₁.heap s₁.heap.objs.size h' m':=C'.fr;exact(goodW_bool (c:=RR.toRowW.claim) (args:=[.list (is.map .int)]) (b:=true) (s₁:=s₁) (s':=(sH s₁ h' tk')) F2 hg (fun _=>rfl) (by kernel_rfl)).toG
 |_=>exact FR.elim
end
section
open PySem PySem.W PySem.Calls PyProof.Rows PySem.SeqAt
theorem OX(said:RR.wellSaid=true):RR.Holds:=Jn said OW (Ht HZ LU LR)
end
end
end Mine.Tactic
theorem PySem.Challenge.cw_pf0153_01_holds : PySem.Challenge.rw_pf0153_01.Holds :=
  PySem.W.holds_law Mine.Tactic.OZ Mine.Tactic.OX
