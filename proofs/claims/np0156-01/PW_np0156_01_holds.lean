import PyProof.Rows.All
import Wide.All
import OpenK.AllK
import Wide.FinOn
import PySem.Challenge.RW_np0156_01
set_option bootstrap.genMatcherCode false
set_option genInjectivity false
set_option genSizeOf false
set_option genSizeOfSpec false
set_option backward.match.sparseCases false
set_option genCtorIdx false
set_option compiler.extract_closed false
set_option Elab.async false
set_option linter.unusedVariables false
set_option linter.unusedSimpArgs false
section
set_option maxRecDepth 100000
set_option tactic.hygienic false
theorem Mine.Internal.gA{P:Prop}(h:P):P:=h
theorem Mine.Internal.hide{P:Prop}(h:¬¬P):P:=Classical.byContradiction h
theorem Mine.Internal.no1{α:Type _}{x:α}{P:Prop}(h:none=some x):P:=nomatch h
theorem Mine.Internal.no2{α:Type _}{x:α}{P:Prop}(h:some x=none):P:=nomatch h
@[elab_as_elim] theorem Mine.Internal.WL {α:Sort _}{a b:α}{motive:α->Prop}(h:a=b) (m:motive b):motive a:=h▸m
@[elab_as_elim] theorem Mine.Internal.WM {α:Sort _}{a b:α}{motive:α->Prop}(h:b=a) (m:motive b):motive a:=h▸m
namespace Mine.Internal
namespace F0
theorem oB2{A B:Prop}{Z:Prop}(h:A/\B)(f:A->B->Z):Z:=f h.1 h.2
theorem oB3{A B C:Prop}{Z:Prop}(h:A/\B/\C)(f:A->B->C->Z):Z:=f h.1 h.2.1 h.2.2
theorem oB4{A B C D:Prop}{Z:Prop}(h:A/\B/\C/\D)(f:A->B->C->D->Z):Z:=f h.1 h.2.1 h.2.2.1 h.2.2.2
theorem oB5{A B C D E:Prop}{Z:Prop}(h:A/\B/\C/\D/\E)(f:A->B->C->D->E->Z):Z:=f h.1 h.2.1 h.2.2.1 h.2.2.2.1 h.2.2.2.2
theorem oB6{A B C D E F:Prop}{Z:Prop}(h:A/\B/\C/\D/\E/\F)(f:A->B->C->D->E->F->Z):Z:=f h.1 h.2.1 h.2.2.1 h.2.2.2.1 h.2.2.2.2.1 h.2.2.2.2.2
theorem oB7{A B C D E F G:Prop}{Z:Prop}(h:A/\B/\C/\D/\E/\F/\G)(f:A->B->C->D->E->F->G->Z):Z:=f h.1 h.2.1 h.2.2.1 h.2.2.2.1 h.2.2.2.2.1 h.2.2.2.2.2.1 h.2.2.2.2.2.2
theorem oB8{A B C D E F G H:Prop}{Z:Prop}(h:A/\B/\C/\D/\E/\F/\G/\H)(f:A->B->C->D->E->F->G->H->Z):Z:=f h.1 h.2.1 h.2.2.1 h.2.2.2.1 h.2.2.2.2.1 h.2.2.2.2.2.1 h.2.2.2.2.2.2.1 h.2.2.2.2.2.2.2
end F0
namespace F1
theorem oB2{a0:Sort _}{A:a0->Prop}{Z:Prop}(h:∃x0,A x0)(f:∀x0,A x0->Z):Z:=h.elim fun x0 h1=>f x0 h1
theorem oB3{a0:Sort _}{A B:a0->Prop}{Z:Prop}(h:∃x0,A x0/\B x0)(f:∀x0,A x0->B x0->Z):Z:=h.elim fun x0 h1=>f x0 h1.1 h1.2
theorem oB4{a0:Sort _}{A B C:a0->Prop}{Z:Prop}(h:∃x0,A x0/\B x0/\C x0)(f:∀x0,A x0->B x0->C x0->Z):Z:=h.elim fun x0 h1=>f x0 h1.1 h1.2.1 h1.2.2
theorem oB5{a0:Sort _}{A B C D:a0->Prop}{Z:Prop}(h:∃x0,A x0/\B x0/\C x0/\D x0)(f:∀x0,A x0->B x0->C x0->D x0->Z):Z:=h.elim fun x0 h1=>f x0 h1.1 h1.2.1 h1.2.2.1 h1.2.2.2
theorem oB7{a0:Sort _}{A B C D E F:a0->Prop}{Z:Prop}(h:∃x0,A x0/\B x0/\C x0/\D x0/\E x0/\F x0)(f:∀x0,A x0->B x0->C x0->D x0->E x0->F x0->Z):Z:=h.elim fun x0 h1=>f x0 h1.1 h1.2.1 h1.2.2.1 h1.2.2.2.1 h1.2.2.2.2.1 h1.2.2.2.2.2
end F1
namespace F2
theorem oB3{a0:Sort _}{a1:Sort _}{A:a0->a1->Prop}{Z:Prop}(h:∃x0,∃x1,A x0 x1)(f:∀x0 x1,A x0 x1->Z):Z:=h.elim fun x0 h1=>h1.elim fun x1 h2=>f x0 x1 h2
theorem oB4{a0:Sort _}{a1:Sort _}{A B:a0->a1->Prop}{Z:Prop}(h:∃x0,∃x1,A x0 x1/\B x0 x1)(f:∀x0 x1,A x0 x1->B x0 x1->Z):Z:=h.elim fun x0 h1=>h1.elim fun x1 h2=>f x0 x1 h2.1 h2.2
theorem oB5{a0:Sort _}{a1:Sort _}{A B C:a0->a1->Prop}{Z:Prop}(h:∃x0,∃x1,A x0 x1/\B x0 x1/\C x0 x1)(f:∀x0 x1,A x0 x1->B x0 x1->C x0 x1->Z):Z:=h.elim fun x0 h1=>h1.elim fun x1 h2=>f x0 x1 h2.1 h2.2.1 h2.2.2
theorem oB6{a0:Sort _}{a1:Sort _}{A B C D:a0->a1->Prop}{Z:Prop}(h:∃x0,∃x1,A x0 x1/\B x0 x1/\C x0 x1/\D x0 x1)(f:∀x0 x1,A x0 x1->B x0 x1->C x0 x1->D x0 x1->Z):Z:=h.elim fun x0 h1=>h1.elim fun x1 h2=>f x0 x1 h2.1 h2.2.1 h2.2.2.1 h2.2.2.2
theorem oB7{a0:Sort _}{a1:Sort _}{A B C D E:a0->a1->Prop}{Z:Prop}(h:∃x0,∃x1,A x0 x1/\B x0 x1/\C x0 x1/\D x0 x1/\E x0 x1)(f:∀x0 x1,A x0 x1->B x0 x1->C x0 x1->D x0 x1->E x0 x1->Z):Z:=h.elim fun x0 h1=>h1.elim fun x1 h2=>f x0 x1 h2.1 h2.2.1 h2.2.2.1 h2.2.2.2.1 h2.2.2.2.2
theorem oB8{a0:Sort _}{a1:Sort _}{A B C D E F:a0->a1->Prop}{Z:Prop}(h:∃x0,∃x1,A x0 x1/\B x0 x1/\C x0 x1/\D x0 x1/\E x0 x1/\F x0 x1)(f:∀x0 x1,A x0 x1->B x0 x1->C x0 x1->D x0 x1->E x0 x1->F x0 x1->Z):Z:=h.elim fun x0 h1=>h1.elim fun x1 h2=>f x0 x1 h2.1 h2.2.1 h2.2.2.1 h2.2.2.2.1 h2.2.2.2.2.1 h2.2.2.2.2.2
end F2
namespace F3
theorem oB4{a0:Sort _}{a1:Sort _}{a2:Sort _}{A:a0->a1->a2->Prop}{Z:Prop}(h:∃x0,∃x1,∃x2,A x0 x1 x2)(f:∀x0 x1 x2,A x0 x1 x2->Z):Z:=h.elim fun x0 h1=>h1.elim fun x1 h2=>h2.elim fun x2 h3=>f x0 x1 x2 h3
theorem oB5{a0:Sort _}{a1:Sort _}{a2:Sort _}{A B:a0->a1->a2->Prop}{Z:Prop}(h:∃x0,∃x1,∃x2,A x0 x1 x2/\B x0 x1 x2)(f:∀x0 x1 x2,A x0 x1 x2->B x0 x1 x2->Z):Z:=h.elim fun x0 h1=>h1.elim fun x1 h2=>h2.elim fun x2 h3=>f x0 x1 x2 h3.1 h3.2
theorem oB6{a0:Sort _}{a1:Sort _}{a2:Sort _}{A B C:a0->a1->a2->Prop}{Z:Prop}(h:∃x0,∃x1,∃x2,A x0 x1 x2/\B x0 x1 x2/\C x0 x1 x2)(f:∀x0 x1 x2,A x0 x1 x2->B x0 x1 x2->C x0 x1 x2->Z):Z:=h.elim fun x0 h1=>h1.elim fun x1 h2=>h2.elim fun x2 h3=>f x0 x1 x2 h3.1 h3.2.1 h3.2.2
theorem oB7{a0:Sort _}{a1:Sort _}{a2:Sort _}{A B C D:a0->a1->a2->Prop}{Z:Prop}(h:∃x0,∃x1,∃x2,A x0 x1 x2/\B x0 x1 x2/\C x0 x1 x2/\D x0 x1 x2)(f:∀x0 x1 x2,A x0 x1 x2->B x0 x1 x2->C x0 x1 x2->D x0 x1 x2->Z):Z:=h.elim fun x0 h1=>h1.elim fun x1 h2=>h2.elim fun x2 h3=>f x0 x1 x2 h3.1 h3.2.1 h3.2.2.1 h3.2.2.2
theorem oB8{a0:Sort _}{a1:Sort _}{a2:Sort _}{A B C D E:a0->a1->a2->Prop}{Z:Prop}(h:∃x0,∃x1,∃x2,A x0 x1 x2/\B x0 x1 x2/\C x0 x1 x2/\D x0 x1 x2/\E x0 x1 x2)(f:∀x0 x1 x2,A x0 x1 x2->B x0 x1 x2->C x0 x1 x2->D x0 x1 x2->E x0 x1 x2->Z):Z:=h.elim fun x0 h1=>h1.elim fun x1 h2=>h2.elim fun x2 h3=>f x0 x1 x2 h3.1 h3.2.1 h3.2.2.1 h3.2.2.2.1 h3.2.2.2.2
end F3
namespace F4
theorem oB5{a0:Sort _}{a1:Sort _}{a2:Sort _}{a3:Sort _}{A:a0->a1->a2->a3->Prop}{Z:Prop}(h:∃x0,∃x1,∃x2,∃x3,A x0 x1 x2 x3)(f:∀x0 x1 x2 x3,A x0 x1 x2 x3->Z):Z:=h.elim fun x0 h1=>h1.elim fun x1 h2=>h2.elim fun x2 h3=>h3.elim fun x3 h4=>f x0 x1 x2 x3 h4
theorem oB7{a0:Sort _}{a1:Sort _}{a2:Sort _}{a3:Sort _}{A B C:a0->a1->a2->a3->Prop}{Z:Prop}(h:∃x0,∃x1,∃x2,∃x3,A x0 x1 x2 x3/\B x0 x1 x2 x3/\C x0 x1 x2 x3)(f:∀x0 x1 x2 x3,A x0 x1 x2 x3->B x0 x1 x2 x3->C x0 x1 x2 x3->Z):Z:=h.elim fun x0 h1=>h1.elim fun x1 h2=>h2.elim fun x2 h3=>h3.elim fun x3 h4=>f x0 x1 x2 x3 h4.1 h4.2.1 h4.2.2
theorem oB8{a0:Sort _}{a1:Sort _}{a2:Sort _}{a3:Sort _}{A B C D:a0->a1->a2->a3->Prop}{Z:Prop}(h:∃x0,∃x1,∃x2,∃x3,A x0 x1 x2 x3/\B x0 x1 x2 x3/\C x0 x1 x2 x3/\D x0 x1 x2 x3)(f:∀x0 x1 x2 x3,A x0 x1 x2 x3->B x0 x1 x2 x3->C x0 x1 x2 x3->D x0 x1 x2 x3->Z):Z:=h.elim fun x0 h1=>h1.elim fun x1 h2=>h2.elim fun x2 h3=>h3.elim fun x3 h4=>f x0 x1 x2 x3 h4.1 h4.2.1 h4.2.2.1 h4.2.2.2
theorem oB9{a0:Sort _}{a1:Sort _}{a2:Sort _}{a3:Sort _}{A B C D E:a0->a1->a2->a3->Prop}{Z:Prop}(h:∃x0,∃x1,∃x2,∃x3,A x0 x1 x2 x3/\B x0 x1 x2 x3/\C x0 x1 x2 x3/\D x0 x1 x2 x3/\E x0 x1 x2 x3)(f:∀x0 x1 x2 x3,A x0 x1 x2 x3->B x0 x1 x2 x3->C x0 x1 x2 x3->D x0 x1 x2 x3->E x0 x1 x2 x3->Z):Z:=h.elim fun x0 h1=>h1.elim fun x1 h2=>h2.elim fun x2 h3=>h3.elim fun x3 h4=>f x0 x1 x2 x3 h4.1 h4.2.1 h4.2.2.1 h4.2.2.2.1 h4.2.2.2.2
end F4
namespace F5
theorem oB8{a0:Sort _}{a1:Sort _}{a2:Sort _}{a3:Sort _}{a4:Sort _}{A B C:a0->a1->a2->a3->a4->Prop}{Z:Prop}(h:∃x0,∃x1,∃x2,∃x3,∃x4,A x0 x1 x2 x3 x4/\B x0 x1 x2 x3 x4/\C x0 x1 x2 x3 x4)(f:∀x0 x1 x2 x3 x4,A x0 x1 x2 x3 x4->B x0 x1 x2 x3 x4->C x0 x1 x2 x3 x4->Z):Z:=h.elim fun x0 h1=>h1.elim fun x1 h2=>h2.elim fun x2 h3=>h3.elim fun x3 h4=>h4.elim fun x4 h5=>f x0 x1 x2 x3 x4 h5.1 h5.2.1 h5.2.2
end F5
theorem mj:type_of% @List.exists_cons_of_length_eq_add_one:=@List.exists_cons_of_length_eq_add_one
theorem ib:type_of% @List.getElem?_append_right:=@List.getElem?_append_right
theorem u6:type_of% @Array.getElem?_eq_some_iff:=@Array.getElem?_eq_some_iff
theorem cm:type_of% @List.getElem?_eq_some_iff:=@List.getElem?_eq_some_iff
theorem iG:type_of% @List.getElem?_append_left:=@List.getElem?_append_left
theorem oF:type_of% @List.getElem?_eq_getElem:=@List.getElem?_eq_getElem
theorem wh:type_of% @Nat.lt_succ_iff_lt_or_eq:=@Nat.lt_succ_iff_lt_or_eq
theorem eM:type_of% @List.getElem?_cons_zero:=@List.getElem?_cons_zero
theorem iH:type_of% @List.getElem?_cons_succ:=@List.getElem?_cons_succ
theorem wi:type_of% @Nat.add_sub_cancel_left:=@Nat.add_sub_cancel_left
theorem fQ:type_of% @List.getElem?_set_self:=@List.getElem?_set_self
theorem iv:type_of% @PySem.Heap.get?_push_of_some:=@PySem.Heap.get?_push_of_some
theorem kR:type_of% @PySem.Heap.get?_update_other:=@PySem.Heap.get?_update_other
theorem ml:type_of% @Int.fmod_nonneg_of_pos:=@Int.fmod_nonneg_of_pos
theorem bE:type_of% @Nat.le_of_ble_eq_true:=@Nat.le_of_ble_eq_true
theorem jV:type_of% @List.getElem?_eq_none:=@List.getElem?_eq_none
theorem kS:type_of% @PySem.Heap.get?_update_self:=@PySem.Heap.get?_update_self
theorem rM:type_of% @PySem.F.slot_dict_get:=@PySem.F.slot_dict_get
theorem bB:type_of% @List.getElem?_set_ne:=@List.getElem?_set_ne
theorem d8:type_of% @List.mem_of_getElem?:=@List.mem_of_getElem?
theorem eD:type_of% @Nat.pow_le_pow_right:=@Nat.pow_le_pow_right
theorem iw:type_of% @PySem.Heap.get?_none_of_le:=@PySem.Heap.get?_none_of_le
theorem pL:type_of% @PySem.wpAny_typeLookup_exc:=@PySem.wpAny_typeLookup_exc
theorem cZ:type_of% @Nat.mul_le_mul_left:=@Nat.mul_le_mul_left
theorem fR:type_of% @PySem.Heap.get?_push_size:=@PySem.Heap.get?_push_size
theorem gZ:type_of% @beq_eq_false_iff_ne:=@beq_eq_false_iff_ne
theorem mm:type_of% @Nat.add_le_add_left:=@Nat.add_le_add_left
theorem pM:type_of% @List.map_congr_left:=@List.map_congr_left
theorem pN:type_of% @Array.length_toList:=@Array.length_toList
theorem pO:type_of% @PySem.Heap.SameBut.update:=@PySem.Heap.SameBut.update
theorem rN:type_of% @List.replicate_succ:=@List.replicate_succ
theorem bJ:type_of% @List.length_append:=@List.length_append
theorem c8:type_of% @List.mem_singleton:=@List.mem_singleton
theorem cF:type_of% @Nat.lt_of_lt_of_le:=@Nat.lt_of_lt_of_le
theorem gB:type_of% @Nat.lt_of_le_of_lt:=@Nat.lt_of_le_of_lt
theorem jW:type_of% @Int.fmod_lt_of_pos:=@Int.fmod_lt_of_pos
theorem jX:type_of% @Nat.sub_add_cancel:=@Nat.sub_add_cancel
theorem jY:type_of% @Bool.false_ne_true:=@Bool.false_ne_true
theorem mn:type_of% @Int.natCast_nonneg:=@Int.natCast_nonneg
theorem pP:type_of% @Nat.eq_or_lt_of_le:=@Nat.eq_or_lt_of_le
theorem pQ:type_of% @Bool.false_eq_true:=@Bool.false_eq_true
theorem bZ:type_of% @List.append_assoc:=@List.append_assoc
theorem dh:type_of% @decide_eq_true_eq:=@decide_eq_true_eq
theorem dP:type_of% @List.getElem?_map:=@List.getElem?_map
theorem eE:type_of% @List.size_toArray:=@List.size_toArray
theorem hF:type_of% @PySem.wpAny_loadPart_at:=@PySem.wpAny_loadPart_at
theorem ja:type_of% @Bool.not_eq_true':=@Bool.not_eq_true'
theorem pR:type_of% @List.getElem?_inj:=@List.getElem?_inj
theorem pS:type_of% @PySem.wpAny_newObj_type:=@PySem.wpAny_newObj_type
theorem bo:type_of% @List.length_cons:=@List.length_cons
theorem bW:type_of% @Bool.and_eq_true:=@Bool.and_eq_true
theorem eF:type_of% @List.all_eq_true:=@List.all_eq_true
theorem mq:type_of% @Nat.le_of_not_lt:=@Nat.le_of_not_lt
theorem mr:type_of% @List.length_drop:=@List.length_drop
theorem mu:type_of% @Nat.le_add_right:=@Nat.le_add_right
theorem nS:type_of% @List.cons_append:=@List.cons_append
theorem nT:type_of% @beq_self_eq_true:=@beq_self_eq_true
theorem nU:type_of% @Nat.lt_succ_self:=@Nat.lt_succ_self
theorem pT:type_of% @List.lookup_cons:=@List.lookup_cons
theorem pU:type_of% @List.any_eq_true:=@List.any_eq_true
theorem bp:type_of% @List.append_nil:=@List.append_nil
theorem bR:type_of% @List.length_map:=@List.length_map
theorem cz:type_of% @decide_eq_false:=@decide_eq_false
theorem cS:type_of% @List.length_nil:=@List.length_nil
theorem dQ:type_of% @Option.some.inj:=@Option.some.inj
theorem fj:type_of% @Nat.le_antisymm:=@Nat.le_antisymm
theorem fk:type_of% @List.map_append:=@List.map_append
theorem gC:type_of% @Nat.le_add_left:=@Nat.le_add_left
theorem jb:type_of% @List.nil_append:=@List.nil_append
theorem kT:type_of% @List.mem_append:=@List.mem_append
theorem pV:type_of% @Bool.eq_iff_iff:=@Bool.eq_iff_iff
theorem cO:type_of% @decide_eq_true:=@decide_eq_true
theorem jZ:type_of% @List.drop_drop:=@List.drop_drop
theorem pW:type_of% @Nat.add_le_add:=@Nat.add_le_add
theorem bS:type_of% @List.mem_cons:=@List.mem_cons
theorem cT:type_of% @List.map_cons:=@List.map_cons
theorem iy:type_of% @List.all_cons:=@List.all_cons
theorem aN:type_of% @Nat.le_trans:=@Nat.le_trans
theorem aT:type_of% @Nat.le_of_eq:=@Nat.le_of_eq
theorem dZ:type_of% @Nat.ne_of_gt:=@Nat.ne_of_gt
theorem eb:type_of% @List.mem_map:=@List.mem_map
theorem ed:type_of% @Int.ofNat_lt:=@Int.ofNat_lt
theorem fm:type_of% @Nat.succ.inj:=@Nat.succ.inj
theorem fS:type_of% @Int.ofNat_le:=@Int.ofNat_le
theorem hG:type_of% @Nat.ne_of_lt:=@Nat.ne_of_lt
theorem hH:type_of% @List.map_map:=@List.map_map
theorem k7:type_of% @Nat.le_of_lt:=@Nat.le_of_lt
theorem k8:type_of% @Nat.sub_self:=@Nat.sub_self
theorem kU:type_of% @List.map_nil:=@List.map_nil
theorem kW:type_of% @PySem.Heap.lt_size:=@PySem.Heap.lt_size
theorem ao:type_of% @Nat.le_refl:=@Nat.le_refl
theorem d9:type_of% @PySem.sizeLine_eq:=@PySem.sizeLine_eq
theorem eW:type_of% @Nat.zero_le:=@Nat.zero_le
theorem jc:type_of% @Nat.le_succ:=@Nat.le_succ
theorem aQ:type_of% @PySem.wpAny_bind:=@PySem.wpAny_bind
theorem bH:type_of% @PySem.wpAny_pure:=@PySem.wpAny_pure
theorem eG:type_of% @beq_iff_eq:=@beq_iff_eq
theorem jd:type_of% @Int.not_lt:=@Int.not_lt
theorem aY:type_of% @congrArg:=@congrArg
theorem c9:type_of% @if_true:=@if_true
end Mine.Internal
def Mine.Internal.WN(a st:List Lean.Syntax)(w:String):List Lean.Syntax:=
 let q:=w.toList
 let c:=(q.headD 'a').toNat
 let r:=String.ofList q.tail
 let n:=if c<48 then c-35 else c-48
 if c<58 then .node .none (if c<48 then r.toName else .str `Lean.Parser.Tactic r) (List.toArray (st.take n).reverse)::st.drop n else(if c=58 then .atom .none r else if c<91 then Lean.mkIdent r.toName else a.getD (c-97) .missing)::st
def Mine.Internal.stx(s:String)(a:List Lean.Syntax):Lean.Syntax:=((s.splitOn " ").foldl (WN a) []).headD .missing
open Mine.Internal.F0 Mine.Internal.F1 Mine.Internal.F2 Mine.Internal.F3 Mine.Internal.F4 Mine.Internal.F5
local macro_rules
 | `(tactic| obtain $p := $e) => return Mine.Internal.stx ":refine IMine.Internal.hide :fun Ihidden $null #null :=> :? :_ %Lean.Parser.Term.syntheticHole 'Lean.Parser.Term.basicFun %Lean.Parser.Term.fun $null %Lean.Parser.Term.app 2refine :rcases #null b 2elimTarget $null :with a #null 2rcasesPatLo %null 3rcases :<;> :refine Ihidden :? :_ %Lean.Parser.Term.syntheticHole $null %Lean.Parser.Term.app 2refine :clear Ihidden $null 2clear %null 3tactic_<;>_ %null" [p, e]
local macro_rules
 | `(tactic| obtain⟨$ps,*⟩ := $e) => return Mine.Internal.stx ":refine a b :? :_ %Lean.Parser.Term.syntheticHole %null %Lean.Parser.Term.app 2refine :try :clear b $null 2clear 2tacticTry_ :rintro c #null 3rintro &null" [Lean.mkIdent (.mkSimple s!"oB{ps.getElems.size}"), e, .node .none `null (ps.getElems.raw.map fun x => .node .none `Lean.Parser.Tactic.rintroPat.one #[.node .none `Lean.Parser.Tactic.rcasesPat.paren #[.atom .none "(", x, .atom .none ")"]])]
local macro_rules
 | `(tactic| cases $h:ident) => return Mine.Internal.stx ":first :| :exact IMine.Internal.no1 a $null %Lean.Parser.Term.app 2exact %group :| :exact IMine.Internal.no2 a $null %Lean.Parser.Term.app 2exact %group :| :replace a $Lean.Parser.Term.letId #null #null ::= IOption.some.inj a $null %Lean.Parser.Term.app (Lean.Parser.Term.letIdDecl $Lean.Parser.Term.letDecl 2replace :subst a $null 2subst %null %group &null 2first" [h]
local macro_rules
 | `(tactic| rewrite[$rs,*]) => return .node .none `null (rs.getElems.raw.map fun r =>
  let t:=r[1]
  .node .none `null #[Mine.Internal.stx (":first :| :w :refine a b :.. $Lean.Parser.Term.ellipsis $null %Lean.Parser.Term.app :? :_ %Lean.Parser.Term.syntheticHole %null %Lean.Parser.Term.app 2refine 2"++(if t.isIdent then "withReducibleAndInstances" else "focus")++" %group :| :rewrite :+ IoffsetCnstrs 2posConfigItem 1configItem $null 1optConfig :[ c $null :] 3rwRuleSeq #null 4rewriteSeq %group %null 2first") [Lean.mkIdent (if r[0].isNone then `Mine.Internal.WL else `Mine.Internal.WM),t,r]])
local macro_rules
 | `(tactic| trivial) => return Mine.Internal.stx ":intros #null 2intros :first :| :rewrite #null 1optConfig :[ #null ItypeLookup_type 2rwRule :, #null IbuiltinLookup_eq_fast 2rwRule &null :] 3rwRuleSeq #null 4rewriteSeq :kernel_rfl $tacticKernel_rfl %null %group :| :kernel_rfl $tacticKernel_rfl %group :| :decide :+ Ikernel 2posConfigItem 1configItem $null 1optConfig 2decide %group :| :rfl 1tacticRfl %group :| :with_unfolding_all :rfl 1tacticRfl 2withUnfoldingAll %group :| :exact :⟨ :_ $Lean.Parser.Term.hole :, Irfl &null :⟩ &Lean.Parser.Term.anonymousCtor 2exact %group :| :exact ITrue.intro 2exact %group :| :simp :+ Iarith 2posConfigItem 1configItem $null 1optConfig #null :only $null #null #null 6simp %group +null 2first %null" []
local macro_rules
 | `(tactic| rfl') => `(tactic| kernel_rfl)
local macro_rules
 | `(tactic| ac_rfl) => `(tactic| decide +kernel)
set_option maxHeartbeats 4000000
set_option exponentiation.threshold 2000
noncomputable section
namespace Mine.Internal
theorem f0{L R:Nat}(e:L<=R:=by trivial):L<=R:=e
theorem f1{A B L R:Nat}(h:A<=B)(e:L+B<=R+A:=by trivial):L<=R:=Nat.le_of_add_le_add_right (aN (mm h L) e)
theorem f2{A B C D L R:Nat}(h:A<=B)(h2:C<=D)(e:L+(B+D)<=R+(A+C):=by trivial):L<=R:=f1 (pW h h2) e
theorem f3{A B C D E F L R:Nat}(h:A<=B)(h2:C<=D)(h3:E<=F)(e:L+(B+(D+F))<=R+(A+(C+E)):=by trivial):L<=R:=f2 h (pW h2 h3) e
theorem f4{A B C D E F G H L R:Nat}(h:A<=B)(h2:C<=D)(h3:E<=F)(h4:G<=H)(e:L+(B+(D+(F+H)))<=R+(A+(C+(E+G))):=by trivial):L<=R:=f3 h h2 (pW h3 h4) e
theorem UL{a:Nat}(h:a<=16777216):(a:Int)<2^63:=Int.lt_of_le_of_lt (fS.mpr h) (by decide)
theorem R7(h:2<=i/\i<=16):Int.natAbs i<=16:=fS.mp (by rw[Int.natAbs_of_nonneg (Int.le_trans (by decide) h.1)];exact h.2)
theorem JT(h:48<=a)(k:Nat.ble (c+1) 48=true):¬a=c:=dZ (aN (bE k) h)
theorem WO(h:48<=a/\a<=57)(k1:Nat.ble 58 c=true)(k2:Nat.ble 58 d=true):¬(a=c\/a=d):=fun e=>
 e.elim (fun e=>Nat.not_succ_le_self 57 (aN (bE k1) (e▸h.2))) fun e=>Nat.not_succ_le_self 57 (aN (bE k2) (e▸h.2))
theorem UM{q:Int}{m:Nat}(h:0<m):(q.fmod (m:Int)).toNat<m:=(Int.toNat_lt (ml q (ed.mpr h))).mpr (jW q (ed.mpr h))
theorem UN{q:Int}{m r:Nat}(e:q.fmod (m:Int)=(r:Int))(h:0<m):r<m:=ed.mp (e▸jW q (ed.mpr h))
section
variable{a b c d e f g h u v n1 n2 n3 n4:Nat}{i j k l m n:Int}
theorem UO(h1:a+3*b+10<=c):a+3*b+8<=c:=f1 h1
theorem UP(h1:a+n1*b+n3<=c)(k0:Nat.ble (n2+1) n3=true)(k1:Nat.ble (n1+1) n2=true):a+n1*b+n2<=c:=f2 h1 (bE k0)
theorem R8(h1:¬a<b)(h2:a<b+(0+1)):a=b:=fj (f1 h2) (f1 (mq h1))
theorem yo(h1:a<=b)(h2:b=16777216):(a:Int)<2^63:=UL (h2▸h1)
theorem R9(h1:¬b<a):a<=b:=f1 (mq h1)
theorem nE(h1:0<a):a=a-1+1:=(jX h1).symm
theorem KQ(h1:b-a=0):¬a<b:=Nat.not_lt_of_le (Nat.le_of_sub_eq_zero h1)
theorem pX(h1:b+1<a):a=a-1+1:=(jX (Nat.one_le_of_lt h1)).symm
theorem KR(h1:b-a=c+1):a<b:=Nat.lt_of_sub_eq_succ h1
theorem Ra(h1:b<=1000)(h2:a<b):4*a<=6000:=aN (cZ 4 (aN (k7 h2) h1)) (by decide)
theorem Rb(h1:2<=i/\i<=16):Int.natAbs i<2^5:=gB (R7 h1) (by decide)
theorem Rc(h1:2<=i/\i<=16):Int.natAbs i<=16:=R7 h1
theorem JU(h1:2<=j/\j<=16)(h2:¬(i<0\/j<=i)):Int.natAbs i<=15:=fS.mp (by rw[Int.natAbs_of_nonneg (jd.mp fun e=>h2 (.inl e))];exact Int.le_of_lt_add_one (Int.lt_of_lt_of_le (Int.not_le.mp fun e=>h2 (.inr e)) h1.2))
theorem Rd(h1:2<=j/\j<=16)(h2:Int.natAbs i<a)(h3:¬(k<0\/j<=k))(h4:Int.natAbs (i*j)<=Int.natAbs i*16)(h5:Int.natAbs (i*j+k)<=Int.natAbs (i*j)+Int.natAbs k):Int.natAbs (i*j+k)<a*16:=f4 h5 h4 (JU h1 h3) (Nat.mul_le_mul_right 16 h2)
theorem JV(h1:a<b):a<b:=f1 h1
theorem ku(h1:a<=n2)(k0:Nat.ble (n2+1) n1=true):a<n1:=f2 h1 (bE k0)
theorem D5:0<=(a:Int):=mn a
theorem Rf(h1:a<b):(a:Int)<(b:Int):=ed.mpr h1
theorem D6:¬(a:Int)<0:=jd.mpr (mn a)
theorem D7(h1:a<=b):Int.toNat (max 0 (min (a:Int) (b:Int)))=a:=by rw[Int.min_eq_left (fS.mpr h1),Int.max_eq_right (mn a)];rfl
theorem Rg(h1:b=a+0):a=b:=fj (f1 (aT h1.symm)) (f1 (aT h1))
theorem Rh:¬(a:Int)<((a+0:Nat):Int):=Int.lt_irrefl _
theorem JW:(a:Int)<((a+(b+1):Nat):Int):=ed.mpr f0
theorem JX(h1:b=a+(c+1)):a<b:=f1 (aT h1.symm)
theorem Ri(h1:a+3*b+10<=c):a+1+3*b+8<=c:=f1 h1
theorem Rj(h1:a+n1*b+n3<=c)(k0:Nat.ble (n2+1) n3=true)(k1:Nat.ble (n1+1) n2=true):a+1+n1*b+n2<=c:=f2 h1 (bE k0)
theorem Rk(h1:b=c+d)(h2:c=a+(e+1)):(a:Int)<(b:Int):=ed.mpr (f2 (aT h1.symm) (aT h2.symm))
theorem Rl(h1:a=b+(c+1)):a=b+1+c:=fj (f1 (aT h1)) (f1 (aT h1.symm))
theorem jI(h1:a+1<b+1):a<b:=f1 h1
theorem Rm(h1:b<a):a-1<a:=Nat.sub_one_lt_of_lt h1
theorem Rn(h1:b<a):(a:Int)-1=((a-1:Nat):Int):=(Int.ofNat_sub (Nat.one_le_of_lt h1)).symm
theorem Ro(h1:a<b):(a:Int)<((b+0:Nat):Int):=ed.mpr h1
theorem Rp(h1:(a:Int)-1=((a-1:Nat):Int)):a-1<a:=ed.mp (h1▸Int.sub_lt_self _ (by decide))
theorem Rq(h1:a=b):¬(a:Int)<((b+0:Nat):Int):=h1▸Int.lt_irrefl _
theorem Rr:a<=a+1+1:=f0
theorem Rt(h1:a+1<=b):a<b:=f1 h1
theorem Ru:((a+(b+1):Nat):Int)-1=((a+b:Nat):Int):=Int.add_sub_cancel ((a+b:Nat):Int) 1
theorem Ah(h1:a+1<=b):a<=b:=f1 h1
theorem D8:a<=a+b:=f0
theorem Rv(h1:¬(a=n2\/a=n1)):¬a=n1:=fun e=>h1 (.inr e)
theorem Rw(h1:b<=d)(h2:e=a+d)(h3:e<=c):a+b<=c:=f3 h1 (aT h2.symm) h3
theorem Rx(h1:c<=d)(h2:a=b+d):a-(b+c)=d-c:=by rw[h2];exact Nat.add_sub_add_left b d c
theorem Ry(h1:b+a+c<=n1):a<=n1:=f1 h1
theorem Rz(h1:i=0\/2<=i/\i<=16)(h2:0<i):2<=i/\i<=16:=h1.resolve_left (Int.ne_of_gt h2)
theorem lU:a<=a+1:=f0
theorem RA(h1:a<=n1):a-2<=n1:=aN (Nat.sub_le _ _) h1
theorem RB(h1:b<=n2)(h2:c=b)(h3:a<=c+1)(k0:Nat.ble (n2+1) n1=true):a<=n1+1:=f4 h1 (aT h2) h3 (bE k0)
theorem RD:((a+b:Nat):Int)-(a:Int)=(b:Int):=Int.sub_eq_iff_eq_add'.mpr rfl
theorem RE(h1:a<=2):¬2<(a:Int):=jd.mpr (fS.mpr h1)
theorem RF(h1:¬a<=2):2<(a:Int):=ed.mpr (Nat.lt_of_not_le h1)
theorem JY:a+(b+c)=a+b+c:=fj f0 f0
theorem RG:a=0+a:=fj f0 f0
theorem RH(h1:c=a+d+e)(h2:c<b):a<b:=f2 (aT h1.symm) h2
theorem RI(h1:c=d+e+a)(h2:c<b):a<b:=f2 (aT h1.symm) h2
theorem oG(h1:a<n2)(k0:Nat.ble (n2+1) n1=true):a<n1:=f2 h1 (bE k0)
theorem wj(h1:a+(b+1)<=n2)(k0:Nat.ble (n2+1) n1=true):a<n1:=f2 h1 (bE k0)
theorem qC(h1:a+(b+1)<=n1):a+1+b<=n1:=f1 h1
theorem RJ(h1:Int.natAbs i+1<=b)(h2:48<=a)(h3:a<=57):Int.natAbs (10*i+((a:Int)-48))<b*10:=by rw[show((a:Int)-48)=((a-48:Nat):Int) from(Int.ofNat_sub h2).symm];have q:(10*i+((a-48:Nat):Int)).natAbs<=10*i.natAbs+(a-48):=aN (Int.natAbs_add_le _ _) (by rw[Int.natAbs_mul];exact ao _);exact f3 (D:=9) q (Nat.sub_le_sub_right h3 48) (cZ 10 h1)
theorem JZ:Int.toNat (max 0 (min 1 (a:Int)))=min 1 a:=by cases a with|zero=>rfl|succ a=>show(max 0 (min ((1:Nat):Int) ((a+1:Nat):Int))).toNat=_;rw[Int.min_eq_left (fS.mpr (gC 1 a)),Nat.min_eq_left (gC 1 a)];rfl
theorem RK(h1:b<=6000)(h2:c<=6000)(h3:a=134217728):¬(a:Int)<(b:Int)+(c:Int):=jd.mpr (show((b+c:Nat):Int)<=a from fS.mpr (f3 h1 h2 (aT h3.symm)))
theorem RL(h1:a<=n1):a<=n1:=f1 h1
theorem K5(h1:a+1<=n1):a<=n1:=f1 h1
theorem RM(h1:a+1<=n1):a+1<=n1:=f1 h1
theorem RN(h1:0<i/\i<1000):¬i=0:=Int.ne_of_gt h1.1
theorem RO(h1:0<i/\i<1000):Int.natAbs i<1073741824:=ed.mp (by rw[Int.natAbs_of_nonneg (Int.le_of_lt h1.1)];exact Int.lt_trans h1.2 (by decide))
theorem RP(h1:48<=a/\a<=57):¬a=32/\¬a=9/\¬a=10/\¬a=11/\¬a=12/\¬a=13:=⟨JT h1.1 rfl,JT h1.1 rfl,JT h1.1 rfl,JT h1.1 rfl,JT h1.1 rfl,JT h1.1 rfl⟩
theorem RQ(h1:48<=a/\a<=57):¬((a:Int)-48<0\/10<=(a:Int)-48):=fun e=>e.elim (fun e=>jd.mpr (Int.sub_nonneg_of_le (fS.mpr h1.1)) e) fun e=>absurd (Int.add_le_of_le_sub_right e) (Int.not_le.mpr (ed.mpr (Nat.lt_succ_of_le h1.2)))
theorem K6(h1:48<=a/\a<=57):¬(a=43\/a=45):=fun e=>e.elim (JT h1.1 rfl) (JT h1.1 rfl)
theorem K7:¬a+1+1<2:=Nat.not_lt_of_le f0
theorem RT:-i=0-i:=(Int.zero_sub i).symm
theorem cU(h1:a<=n2)(k0:Nat.ble (n2+1) n1=true):a<=n1:=f2 h1 (bE k0)
theorem RU(h1:a<=c)(h2:b<=c):max a b<=c:=Nat.max_le_of_le_of_le h1 h2
theorem u7(h1:a<=b):a+1<=b+1:=f1 h1
theorem K8(h1:a+n2*c+n3<=b)(k0:Nat.ble (n1+1) n3=true)(k1:Nat.ble (n2+1) n1=true):a+n1<b:=f2 h1 (bE k0)
theorem K9(h1:a<=8):a+1<=9:=f1 h1
theorem Ka(h1:a+65<c)(h2:b<=0):a+1+min b 0<c:=f2 h1 (Nat.min_le_right b 0)
theorem Kb:n1<=n1+a%n2:=f0
theorem RV(h1:a%10<10)(h2:a/10=0):48+a%10<=57:=f1 h1
theorem RW(_:a/10=0):10*0+(((48+a%10:Nat):Int)-48)=(a:Int):=by lia
theorem RX(h1:a<b+1)(h2:¬a/10=0):a/10<b:=cF (Nat.div_lt_self (Nat.pos_of_ne_zero fun e=>h2 (by rw[e])) (by decide)) (Nat.le_of_lt_succ h1)
theorem RY(h1:a%10<10):48+a%10<=57:=f1 h1
theorem RZ:10*((a/10:Nat):Int)+(((48+a%10:Nat):Int)-48)=(a:Int):=by lia
theorem S0(h1:i<0):0-((Int.natAbs i:Nat):Int)=i:=by rw[Int.ofNat_natAbs_of_nonpos (Int.le_of_lt h1),Int.zero_sub,Int.neg_neg]
theorem S1(h1:¬i<0):((Int.natAbs i:Nat):Int)=i:=Int.natAbs_of_nonneg (jd.mp h1)
theorem S2:a+(b+1)=a+1+b:=fj f0 f0
theorem S3(h1:n2<=a/\a<=n3)(k0:Nat.ble (n2+1) n3=true)(k1:Nat.ble (n1+1) n2=true):¬a=n1:=dZ (f2 h1.1 (bE k1))
theorem S4(k0:Nat.ble (n1+1) n2=true):¬n1=n2:=hG (f1 (bE k0))
theorem S5(h1:0<=i/\i<(a:Int)):¬i<0:=jd.mpr h1.1
theorem S6(h1:0<=i/\i<(a:Int)):0<=i/\i<(a:Int):=h1
theorem S7(h1:0<=i/\i<(a:Int)):Int.toNat i<a/\-(a:Int)<=i/\i<(a:Int):=⟨(Int.toNat_lt h1.1).mpr h1.2,Int.le_trans (Int.neg_nonpos_of_nonneg (mn a)) h1.1,h1.2⟩
theorem Kc(h1:i<0/\0<=i+(a:Int)):0<=i+(a:Int)/\i+(a:Int)<(a:Int):=⟨h1.2,by have q:=Int.add_lt_add_right h1.1 (a:Int);rw[Int.zero_add]at q;exact q⟩
theorem S8(h1:i<0/\0<=i+(a:Int)):Int.toNat (i+(a:Int))<a/\-(a:Int)<=i/\i<(a:Int):=⟨(Int.toNat_lt h1.2).mpr (Kc h1).2,by lia,Int.lt_of_lt_of_le h1.1 (mn a)⟩
theorem S9(h1:a=16777216)(h2:b<=a)(h3:-(b:Int)<=i):-2^63<=i:=Int.le_trans (Int.neg_le_neg (Int.le_of_lt (yo h2 h1))) h3
theorem S'(h1:a=16777216)(h2:b<=a)(h3:i<(b:Int)):i<2^63:=Int.lt_trans h3 (yo h2 h1)
theorem Sa(h1:0<=i/\i<(b:Int))(h2:b=a):Int.toNat i<a:=h2▸(Int.toNat_lt h1.1).mpr h1.2
theorem Sb(h1:a=16777216)(h2:0<=i/\i<(b:Int))(h3:b<=a):¬i< -2^63/\¬2^63<=i:=⟨jd.mpr (Int.le_trans (by decide) h2.1),Int.not_le.mpr (Int.lt_trans h2.2 (yo h3 h1))⟩
theorem Sd(h1:a=16777216)(h2:0<=i)(h3:b<=a)(h4:Int.toNat i<b):i<2^63:=Int.lt_trans ((Int.toNat_lt h2).mp h4) (yo h3 h1)
theorem Se(h1:c-d=b)(h2:(a:Int)=max 0 (min i (b:Int))):a<=b:=fS.mp (by rw[h2];exact Int.max_le.mpr ⟨mn b,Int.min_le_right i b⟩)
theorem Sf(h1:b-a=c)(h2:b<=c)(h3:¬c=0):a=0:=Nat.eq_zero_of_not_pos fun p=>by cases b with|zero=>exact h3 (h1.symm.trans (Nat.zero_sub a))|succ b=>exact Nat.lt_irrefl _ (cF (Nat.sub_lt (Nat.succ_pos b) p) (h1.symm▸h2))
theorem D9(h1:a<=b):a<=b+1:=f1 h1
theorem yq(h1:a+b<=n2)(k0:Nat.ble (n2+1) n1=true):a+b<=n1:=f2 h1 (bE k0)
theorem KS(h1:b=16777216)(h2:a<=b):¬2^63<=(a:Int):=Int.not_le.mpr (yo h2 h1)
theorem KU(h1:b=16777216)(h2:c<=b)(h3:a=c):(a:Int)<2^63:=h3▸yo h2 h1
theorem KV(h1:¬j<=i):i<=j:=Int.le_of_not_le h1
theorem KW:0-i=-i:=Int.zero_sub i
theorem KY(h1:a<b):a<=b:=f1 h1
theorem KZ:¬a=a+1:=hG f0
theorem L8(h1:a<=b):a-1<=b:=aN (Nat.sub_le _ _) h1
theorem L9(h1:a=min a b):a<=b:=aN (aT h1) (Nat.min_le_right a b)
theorem La:a<=a+b+c:=f0
theorem Lb(h1:b<=d):a+b<=a+c+d:=f1 h1
theorem Ld(h1:c<=16/\d<=1000000/\b<=10000)(h2:a<=d):a+b<=1048576:=f3 h1.2.1 h1.2.2 h2
theorem Le(h1:c<=16/\d<=1000000/\e<=10000)(h2:a<=d)(h3:b=16777216):a<=b:=f3 h1.2.1 h2 (aT h3.symm)
theorem Lg(h1:c+(a+d)<=b):a<=b:=f1 h1
theorem Lh(h1:a+(b+d)<=c):a+b<=c:=f1 h1
theorem Li(h1:a+(b+c)<=d):a+b+c<=d:=f1 h1
theorem Lj(h1:b<=c)(h2:a=0):a+b<=c:=f2 h1 (aT h2)
theorem D':Int.natAbs (0-i)=Int.natAbs i:=by rw[Int.zero_sub,Int.natAbs_neg]
theorem Lk:i-j=0↔i=j:=Int.sub_eq_zero
theorem Ll:i-j<0↔i<j:=⟨Int.lt_of_sub_neg,Int.sub_neg_of_lt⟩
theorem Lm(h1:a<c)(h2:b<c):a+b<c*10:=f2 h1 h2
theorem Ln(h1:0<a):a<a*10:=f1 h1
theorem uP(h1:a+b<=n2)(k0:Nat.ble (n2+1) n1=true):a<=n1:=f2 h1 (bE k0)
theorem pY(h1:b+a<=n2)(k0:Nat.ble (n2+1) n1=true):a<=n1:=f2 h1 (bE k0)
theorem Dc(h1:a<6)(h2:¬a=3)(h3:¬a=4)(h4:¬a=5):a<3:=Nat.lt_of_le_of_ne (Nat.le_of_lt_succ (Nat.lt_of_le_of_ne (Nat.le_of_lt_succ (Nat.lt_of_le_of_ne (Nat.le_of_lt_succ h1) h4)) h3)) h2
theorem Lo(h1:a<=n1)(h2:b=n2)(k0:Nat.ble (n1+1) n2=true):a<=b:=f3 h1 (aT h2.symm) (bE k0)
theorem nV(h1:a-b=0):a<=b:=Nat.le_of_sub_eq_zero h1
theorem Dd(h1:a=c)(h2:c=b):a=b:=fj (f2 (aT h1) (aT h2)) (f2 (aT h1.symm) (aT h2.symm))
theorem Lp(h1:b=c)(h2:c=a):a=b:=fj (f2 (aT h1.symm) (aT h2.symm)) (f2 (aT h1) (aT h2))
theorem Lq(h1:1<=a):1<=(a:Int):=fS.mpr h1
theorem Lr:a<=a+2+1:=f0
theorem De(h1:c<=b)(h2:a=c):a<=b:=f2 h1 (aT h2)
theorem Ls(h1:b<a):0<(a:Int)-(b:Int):=Int.sub_pos_of_lt (ed.mpr h1)
theorem Lu:((a+1:Nat):Int)=(a:Int)+1:=rfl
theorem Lw:(a:Int)-((b+1:Nat):Int)=(a:Int)-(b:Int)-1:=(Int.sub_sub (a:Int) (b:Int) 1).symm
theorem Lx:(a:Int)-((b:Int)+1)=(a:Int)-(b:Int)-1:=(Int.sub_sub (a:Int) (b:Int) 1).symm
theorem Ly(h1:¬b<a):(a:Int)-(b:Int)<=0:=Int.sub_nonpos_of_le (fS.mpr (mq h1))
theorem Lz(h1:0<=i)(h2:i<2^32):-2^63<=i/\i<2^63:=⟨Int.le_trans (by decide) h1,Int.lt_trans h2 (by decide)⟩
theorem Df(h1:a<2^31):(a:Int)<2^32:=Int.lt_trans (ed.mpr h1:(a:Int)<((2^31:Nat):Int)) (by decide)
theorem LA:0<=(a:Int)+(1-1):=(mn a:(0:Int)<=(a:Int))
theorem LB(h1:a<2^31):(a:Int)+(1-1)<2^32:=(Df h1:(a:Int)<2^32)
theorem LC(h1:0<=i/\i<2^31):i=((Int.toNat i:Nat):Int):=(Int.toNat_of_nonneg h1.1).symm
theorem LD(h1:0<=(a:Int)/\(a:Int)<2^31):a<2^31:=ed.mp (h1.2:(a:Int)<((2^31:Nat):Int))
theorem LF(h1:c=a)(h2:c<=b):a<=b:=f2 (aT h1.symm) h2
theorem LG(h1:a<=b+1):a+1<=b+1+1:=f1 h1
theorem uQ(h1:c<=a)(h2:b<c):¬a=b:=dZ (f2 h1 h2)
theorem uR(h1:a+(b+1)<=n1):a<n1:=f1 h1
theorem LH(h1:a+(c*b+b)<=n1):a+b<=n1:=f1 h1
theorem LI(h1:a+(c+1)<=n1)(h2:b<=1):a+b+c<=n1:=f2 h1 h2
theorem LJ(h1:d+(b*c+c)<=n1)(h2:a<=d+c):a+b*c<=n1:=f2 h1 h2
theorem Dg(h1:e<=b+d)(h2:a<=e+c*d):a<=b+(c*d+d):=f2 h1 h2
theorem LK(h1:a<=b+d):a<=b+(c*d+d):=f1 h1
theorem LL(h1:b<=16)(h2:a<=1000)(h3:c<=1016*d):a+b+c<=1016*(d+1):=f3 h1 h2 h3
theorem LM(h1:b<=100)(h2:a<=1016*b):a<=1000000:=aN h2 (aN (cZ 1016 h1) (by decide))
theorem Dh(h1:a<=n2)(k0:Nat.ble (n2+1) n1=true):0+a<=n1:=f2 h1 (bE k0)
theorem LN(h1:a<n1):a+1<=n1:=f1 h1
theorem LO(h1:a+2<=n1):a+1*1<=n1:=f1 h1
theorem LP(h1:b+2<=n1)(h2:a<=b+1*1):a<=n1:=f2 h1 h2
theorem LQ(h1:a<=c/\c<=a+b):a+(b-(a+b-c))=c:=(Nat.add_sub_assoc (Nat.sub_le_of_le_add (f1 h1.1)) a).symm.trans (Nat.sub_sub_self h1.2)
theorem LR(h1:a+3*(c+1)+8<=b):a<b:=f1 h1
theorem Di(h1:c<=b+1*1)(h2:a<=c+1):a<=b+2:=f2 h1 h2
theorem Dj(h1:a<=c)(h2:c=b):a<=b:=f2 h1 (aT h2)
theorem LU(h1:a<=b+1*1):a<=b+2:=f1 h1
theorem LV(h1:a=c)(h2:¬b<a):a<=b:=f1 (mq h2)
theorem LW(h1:c=b)(h2:a<c):a<b:=f2 (aT h1) h2
theorem LX(h1:a+3*(b+1)+8<=c):a+1+3*b+10<=c:=f1 h1
theorem LY(h1:a+20*(b+1)+90<=c):a+3+20*b+100<=c:=f1 h1
theorem Dk(h1:b<=c)(h2:a+c<=n1):a+b<=n1:=f2 h1 h2
theorem Dl(h1:c<=b):a+(b-c)+c=a+b:=by rw[Nat.add_assoc,jX h1]
theorem Dm(h1:d<=c)(h2:a<=b+d):a<=b+c:=f2 h1 h2
theorem LZ(h1:a<=n1):0+a<=n1:=f1 h1
theorem yr(h1:a<=n2)(k0:Nat.ble (n2+1) n1=true):n1-a=n1-a-1+1:=(jX (Nat.sub_pos_of_lt (gB h1 (bE k0)))).symm
theorem UQ(h1:a<=c)(h2:c=d)(h3:e=d+1)(h4:b=e+1):a<=b:=f4 h1 (aT h2) (aT h3.symm) (aT h4.symm)
theorem UR(h1:c=a)(h2:d=a+1)(h3:b=d+1):¬a=b:=hG (f2 (aT h2.symm) (aT h3.symm))
theorem rO(h1:a+c<=n1)(h2:b<=c):a+b<=n1:=f2 h1 h2
theorem yt(h1:a+(b+c)<=n1):a+b<=n1:=f1 h1
theorem Dn:a-(b+1)=a-b-1:=rfl
theorem rP(h1:a+(b+c)<=n1):a+b+c<=n1:=f1 h1
theorem yu(h1:c+(d+b)<=n1)(h2:a<=c+d):a+b<=n1:=f2 h1 h2
theorem M0(h1:6<=b):a+b-6+6=a+b:=jX (aN h1 (gC b a))
theorem nW(h1:e<=b+c)(h2:a<=e+d):a<=b+(c+d):=f2 h1 h2
theorem yw(h1:a<=b+c):a<=b+(c+d):=f1 h1
theorem mw(h1:5<=b):a+b-5+5=a+b:=jX (aN h1 (gC b a))
theorem M1(h1:b<=90)(h2:a+c<=90000):a+b<=100000:=f2 h1 h2
theorem M4(h1:6<=b):a+b=a+b-6+6:=(jX (aN h1 (gC b a))).symm
theorem M5(h1:a+(b+c+d)<=n1):a+b<=n1:=f1 h1
theorem Dp(h1:a<=b+c):a<=b+(c+d+e):=f1 h1
theorem M6(h1:c+(d+b+e)<=n1)(h2:a<=c+d):a+b<=n1:=f2 h1 h2
theorem US(h1:a<=0+1):a<=n1+1:=f1 h1
theorem UT(h1:f<=b+c)(h2:a<=f+d):a<=b+(c+d+e):=f2 h1 h2
theorem M7(h1:c+(d+e+b)<=n1)(h2:a<=c+d):a+b<=n1:=f2 h1 h2
theorem M8(h1:b<=n2)(h2:a<=b+1)(k0:Nat.ble (n2+1) n1=true):a<=n1+1:=f3 h1 h2 (bE k0)
theorem UU(h1:f<=b+c)(h2:a<=f+e):a<=b+(c+d+e):=f2 h1 h2
theorem M9:0<=a:=f0
theorem Dq(h1:a<=n2)(k0:Nat.ble (n2+1) n1=true):1+a<=n1:=f2 h1 (bE k0)
theorem UW(h1:b<a):¬a+1=b:=dZ (f1 h1)
theorem k9(h1:a<3):a=0\/a=1\/a=2:=(wh.mp h1).elim (fun h=>(wh.mp h).elim (fun h=>.inl (Nat.lt_one_iff.mp h)) fun h=>.inr (.inl h)) fun h=>.inr (.inr h)
theorem Dr(h1:a<=n2)(k0:Nat.ble (n2+1) n1=true):a+1<=n1:=f2 h1 (bE k0)
theorem UX(h1:a+(b+c)<=n2)(k0:Nat.ble (n2+1) n1=true):a+b<n1:=f2 h1 (bE k0)
theorem Ma(h1:a+3*(c+2)+8<=b):a+1+3*(0+1)+8<=b:=f1 h1
theorem Mb(h1:a+20*(c+2)+90<=b):a+1+20*(0+1)+90<=b:=f1 h1
theorem uS(h1:0<=i):i=((Int.toNat i:Nat):Int):=(Int.toNat_of_nonneg h1).symm
theorem Mc(h1:a<=c)(h2:c+1=b):a<=b:=f2 h1 (aT h2)
theorem Md(h1:a<=1):a+1+1+1<=16777216:=f1 h1
theorem Me(h1:a<=b):a<=b+1+1:=f1 h1
theorem Mf(h1:a<=1):a+1+1+1+1<=6/\6<=a+1+1+1+1+(0+1+1+1):=⟨f1 h1,f0⟩
theorem pZ(h1:2<=a)(h2:a<=6):a=2\/a=3\/a=4\/a=5\/a=6:=(pP h1).elim (fun h=>.inl h.symm) fun h=>(pP h).elim (fun h=>.inr (.inl h.symm)) fun h=>(pP h).elim (fun h=>.inr (.inr (.inl h.symm))) fun h=>(pP h).elim (fun h=>.inr (.inr (.inr (.inl h.symm)))) fun h=>.inr (.inr (.inr (.inr (fj h2 h))))
theorem Mg(h1:a+2<=n1):a+1<=n1:=f1 h1
theorem Ds(h1:a<=b+1):a<=b+2:=f1 h1
theorem Mh(h1:a<=2):a<=90:=f1 h1
theorem Mi(h1:a<=2):a<=1+b+100:=f1 h1
theorem Mj(h1:a<=2):a*2<=4:=f2 h1 h1
theorem Ml(h1:¬a=0):a=a-1+1:=(jX (Nat.pos_of_ne_zero h1)).symm
theorem Mm:a=0\/a=1\/a=2\/a=3\/4<=a:=(Nat.lt_or_ge a 4).elim (fun h=>(wh.mp h).elim (fun h=>(wh.mp h).elim (fun h=>(wh.mp h).elim (fun h=>.inl (Nat.lt_one_iff.mp h)) fun h=>.inr (.inl h)) fun h=>.inr (.inr (.inl h))) fun h=>.inr (.inr (.inr (.inl h)))) fun h=>.inr (.inr (.inr (.inr h)))
theorem Mn(h1:a<=b)(h2:b<=a+0):a=b:=fj (f1 h1) (f1 h2)
theorem Mo(h1:a<=6)(h2:4<=a):a=4\/a=5\/a=6:=(pP h2).elim (fun h=>.inl h.symm) fun h=>(pP h).elim (fun h=>.inr (.inl h.symm)) fun h=>.inr (.inr (fj h1 h))
theorem Mp(h1:a<=d+e)(h2:b=d)(h3:c=e):a<=b+c:=f3 h1 (aT h2.symm) (aT h3.symm)
theorem Mq(h1:a<=d)(h2:b<=c*d):a+b<=c*d+d:=f2 h1 h2
theorem Mr(h1:a<=c):a<=b*c+c:=f1 h1
theorem Ms(h1:a+n2*(c+1)<=n3)(h2:b<=n2)(k0:Nat.ble (n3+1) n1=true)(k1:Nat.ble (n2+1) n3=true):a+b<=n1:=aN (mm (aN h2 (Nat.le_mul_of_pos_right n2 (Nat.succ_pos c))) a) (aN h1 (k7 (bE k0)))
theorem Mt(h1:a+n1*(c+1)<=n2)(h2:b<=n1):a+b+n1*c<=n2:=f2 (A:=a+(n1*c+n1)) h1 h2
theorem Mu(h1:a<=50):0+1000*a<=100000:=f1 (cZ 1000 h1)
theorem Dt(h1:a<=1000)(h2:b<=1000):a+b<=1000000:=f2 h1 h2
theorem Mv(h1:a=b\/a=c):a=b\/a=c\/a=d:=h1.elim .inl fun h=>.inr (.inl h)
theorem Mw(h1:a=b\/a=d):a=b\/a=c\/a=d:=h1.elim .inl fun h=>.inr (.inr h)
theorem Mx:¬3+(a:Int)<2:=jd.mpr (show(2:Int)<=((3+a:Nat):Int) from fS.mpr f0)
theorem My:¬3+(a:Int)=2:=Int.ne_of_gt (show(2:Int)<((3+a:Nat):Int) from ed.mpr f0)
theorem Mz(h1:a<=50):a*1000<=50*1000:=f1 (cZ 1000 h1)
theorem MA(h1:a<=50*1000):a<=999999:=f1 h1
theorem yx(h1:b<=n2)(h2:a<=b)(k0:Nat.ble (n2+1) n1=true):a<=n1:=f3 h1 h2 (bE k0)
theorem MB(h1:b<=n2)(h2:a<=b)(k0:Nat.ble (n2+1) n1=true):0+a<=n1:=f3 h1 h2 (bE k0)
theorem MC(h1:b<=40):a+149-(9+3*b+1)+(9+3*b+1)=a+149:=jX (f1 (cZ 3 h1))
theorem MD(h1:a<b):¬a=b:=hG (f1 h1)
theorem ME:1<=a+1:=f0
theorem MF:9+3*a+1<=10+3*a:=f0
theorem mx:4*a<=4*a:=f0
theorem MG:6<=10+3*a:=f0
theorem yy(h1:a<=33):10*a<=390:=f1 (cZ 10 h1)
theorem Du:0<=a+1:=f0
theorem MI:10+3*a+1<=9+3*(a+1):=f0
theorem Dv:4*a<=4*(a+1):=f0
theorem MJ(h1:Int.natAbs i<a):Int.natAbs (0-i)<a:=by rw[Int.zero_sub,Int.natAbs_neg];exact h1
theorem Dw:10*a+2<=10*(a+1):=f0
theorem MK:1<=10*(a+1):=f0
theorem Dx(h1:a<=c)(h2:b<=d):a+b<=c+d:=f2 h1 h2
theorem Dy(h1:a<=b):a<=b+c:=f1 h1
theorem ML:6<=12+3*(a+b):=f0
theorem Dz(h1:b+c<=n2)(h2:a<=b)(k0:Nat.ble (n2+1) n1=true):a<=n1:=f3 h1 h2 (bE k0)
theorem MM:9+3*a<=12+3*(a+b):=f0
theorem DA(k0:Nat.ble (n1+1) n2=true):n1+3*a<=n2+3*(b+a):=f1 (bE k0)
theorem DB(h1:a<=b):a+1<=b+c+1:=f1 h1
theorem MN:12+3*(a+b)<=9+3*(a+b+1):=f0
theorem DC:4*a+4*b<=4*(a+b+1):=f0
theorem rQ:1<=10*(a+b+1):=f0
theorem MP:10*a+10*b+1+2<=10*(a+b+1):=f0
theorem MQ:a+b<=a+b+1:=f0
theorem MR:5<=11+3*(a+b):=f0
theorem MS:9+3*a<=11+3*(a+b)+1:=f0
theorem MT(h1:a+b<=33):10*a<=1000:=f1 (cZ 10 h1)
theorem MU(h1:b+a<=33):10*a<=1000:=f1 (cZ 10 h1)
theorem MW:11+3*(a+b)+1<=9+3*(a+b+1):=f0
theorem yz(h1:a<=b):a<=b+c+1:=f1 h1
theorem MX(h1:a<=c)(h2:b<=d):a+b<=c+d+1:=f2 h1 h2
theorem MY:5<=10+3*(a+b+c):=f0
theorem MZ(h1:a+b+c<=n2)(k0:Nat.ble (n2+1) n1=true):a<=n1:=f2 h1 (bE k0)
theorem N1:n1+3*a<=n1+3*(a+b+c):=f0
theorem N2(h1:b+a+c<=n2)(k0:Nat.ble (n2+1) n1=true):a<=n1:=f2 h1 (bE k0)
theorem N3:n1+3*a<=n1+3*(b+a+c):=f0
theorem N4(h1:b+c+a<=n2)(k0:Nat.ble (n2+1) n1=true):a<=n1:=f2 h1 (bE k0)
theorem N5:n1+3*a<=n1+3*(b+c+a):=f0
theorem N6(h1:a+b+c<=33):10*a<=1000:=f1 (cZ 10 h1)
theorem N7:0<=a+b+c+1:=f0
theorem N8:10+3*(a+b+c)+1<=9+3*(a+b+c+1):=f0
theorem N9:4*a+4*b+4*c<=4*(a+b+c+1):=f0
theorem N':n1*a<=n1*(b+a+c+1):=cZ n1 f0
theorem Na:n1*a<=n1*(b+c+a+1):=cZ n1 f0
theorem DD(h1:a<=b):a<=b+c+d+1:=f1 h1
theorem Nb(h1:a<=c)(h2:b<=d):a+b<=c+d+e+1:=f2 h1 h2
theorem Nc(h1:a<=c)(h2:b<=e):a+b<=c+d+e+1:=f2 h1 h2
theorem Nd:4*a+4*b=4*(a+b):=fj f0 f0
theorem Nf(h1:a<=b):n1+3*a<=n1+3*b:=f3 h1 h1 h1
theorem yA(h1:b<=33)(h2:a<=b):10*a<=390:=aN (cZ 10 (aN h2 h1)) (by decide)
theorem Ng:5<=10+3*a:=f0
theorem Nh:10+3*a+2<=9+3*(a+1):=f0
theorem Ni(h1:a<=b):10*a<=10*b:=f1 (cZ 10 h1)
theorem Nj(h1:a<=10*b):a+1<=10*(b+c+1):=f1 h1
theorem Nk(h1:0<=i):((1+Int.toNat i:Nat):Int)=1+i:=by rw[Int.natCast_add,Int.toNat_of_nonneg h1];rfl
theorem DE(h1:b<=n2)(h2:a<=c)(h3:c<=b)(k0:Nat.ble (n2+1) n1=true):a<=n1:=aN h2 (aN h3 (aN h1 (k7 (bE k0))))
theorem Nl(_:0<=i):i=0\/i=1\/i=2\/3<=i:=by lia
theorem Nm(h1:i=0):¬(i=2\/i=3):=by rw[h1];decide
theorem Nn(h1:i=0):i<2:=by rw[h1];decide
theorem Np(h1:i=1):¬(i=2\/i=3):=by rw[h1];decide
theorem Nq(h1:i=1):i<2:=by rw[h1];decide
theorem Nr(h1:i=2):i=2\/i=3:=.inl h1
theorem Nt(h1:3<=i):i=3+((Int.toNat (i-3):Nat):Int):=by rw[Int.toNat_of_nonneg (Int.sub_nonneg_of_le h1),Int.add_comm,Int.sub_add_cancel]
theorem DF(h1:1<=a/\a<=2):a<=50:=f1 h1.2
theorem Nu:a-b<=a-b:=ao _
theorem Nv(h1:i=(b:Int))(h2:i=(a:Int)):a=b:=Int.ofNat.inj (h2.symm.trans h1)
theorem Nw(h1:a<33):Int.natAbs (a:Int)<10^2:=show a<10^2 from Nat.lt_trans h1 (by decide)
theorem DG(h1:b<n2)(h2:a<=b)(k0:Nat.ble (n2+1) n1=true):a<=n1:=f3 h1 h2 (bE k0)
theorem Nx(h1:b<n2)(h2:a<=b)(k0:Nat.ble (n2+1) n1=true):a<n1:=f3 h1 h2 (bE k0)
theorem Ny(h1:a+4*b<=n1+4*c):a+4*(b+1)<=n1+4*(c+1):=f1 h1
theorem Nz(h1:a+1<=b)(h2:b=a):False:=Nat.not_succ_le_self a (h2▸h1)
theorem NA(h1:1<=b)(h2:b<=a):a-(a-b)=b:=Nat.sub_sub_self h2
theorem DH(h1:b<=c)(h2:c<=n1)(h3:a=b):a<=n1:=f3 h1 h2 (aT h3)
theorem NB(h1:0<a/\a<=n2)(k0:Nat.ble (n2+1) n1=true):a<=n1:=f2 h1.2 (bE k0)
theorem NC(h1:0<a/\a<=n2)(k0:Nat.ble (n2+1) n1=true):1+a<=n1:=f2 h1.2 (bE k0)
theorem ND(_:4<=i)(_:i<8):i=4\/i=5\/i=6\/i=7:=by lia
theorem DI:a+(b+0)=a+b:=fj f0 f0
theorem DJ(h1:c<=n1)(h2:c=a+b):a+b<=n1:=f2 h1 (aT h2.symm)
theorem NF:a+(b+(c+0))=a+b+c:=fj f0 f0
theorem NG(h1:d<=n1)(h2:d=a+b+c):a+b+c<=n1:=f2 h1 (aT h2.symm)
theorem NH(h1:b<=a)(h2:1<=b):a-(a-b)=b:=Nat.sub_sub_self h1
theorem NI(h1:b<n1)(h2:c+a=d)(h3:d<=b):a<=n1:=f3 h1 (aT h2) h3
theorem NJ(h1:c<=b)(h2:a=d)(h3:d<c):¬a=b:=hG (f3 h1 (aT h2) h3)
theorem NK(h1:b<c)(h2:c<=a):¬a=b:=dZ (f2 h1 h2)
theorem NL(h1:c<=b)(h2:a<c):¬a=b:=hG (f2 h1 h2)
theorem NM(h1:b<=a)(h2:1<=b)(h3:a<=c):min (a-b) a+1<=c+1:=Nat.succ_le_succ (aN (Nat.min_le_right _ _) h3)
theorem NN(h1:b<n2)(h2:a+1<=b+1)(k0:Nat.ble (n2+1) n1=true):a<n1:=f3 h1 h2 (bE k0)
theorem NO(h1:a+d=e)(h2:e<=c)(h3:b=d+1):a+b<=c+1:=f3 (aT h1) h2 (aT h3)
theorem NP(h1:b+e=f)(h2:a+4*f<=n1+4*d)(h3:c=e+1):a+4*(b+c)<=n1+4*(d+1):=f3 h2 (cZ 4 (aT h1)) (cZ 4 (aT h3))
theorem NQ(h1:b<n2)(h2:c+d=e)(h3:e<=b)(h4:a=d+1)(k0:Nat.ble (n2+1) n1=true):a<=n1:=f4 (aT h4) (aT h2) h3 (aN h1 (k7 (bE k0)))
theorem NR(h1:c<33)(h2:d+e=f)(h3:a+4*f<=20+4*c)(h4:b=e+1):a+4*b<=900:=f4 (cZ 4 h1) (cZ 4 (aT h2)) h3 (cZ 4 (aT h4))
theorem NS(h1:a+c=d)(h2:d<=b):a<=b+1:=f2 (aT h1) h2
theorem NT(h1:a+1<=b+1):a<=b+1:=f1 h1
theorem NU(h1:b+d=e)(h2:f+4*e<=n1+4*c)(h3:g=d+1)(h4:a<=f+4*g):a+4*b<=n1+4*(c+1):=f4 h4 h2 (cZ 4 (aT h1)) (cZ 4 (aT h3))
theorem NV(h1:(a:Int)<(b:Int)):a<b:=ed.mp h1
theorem NW(h1:i<4\/a<b):i<4\/(a:Int)<(b:Int):=h1.elim .inl fun h=>.inr (ed.mpr h)
theorem NX(h1:¬(i<4\/a<b)):¬i<4/\¬(a:Int)<(b:Int):=⟨fun e=>h1 (.inl e),fun e=>h1 (.inr (ed.mp e))⟩
theorem NY(h1:i<8):i<8:=h1
theorem NZ(h1:¬(i<4\/b<a)):a<=b:=mq fun e=>h1 (.inr e)
theorem O0(h1:a+0=n1):a=n1:=fj (f1 (aT h1)) (f1 (aT h1.symm))
theorem O1(h1:a+(b+1)=n1):a<n1:=f1 (aT h1)
theorem O2(h1:a+(b+1)=n1):a+1+b=n1:=fj (f1 (aT h1)) (f1 (aT h1.symm))
theorem DK(h1:b<a):a=a-1+1:=(jX (Nat.one_le_of_lt h1)).symm
theorem O3(h1:a<=b)(h2:b-a=0):a=b:=fj h1 (Nat.le_of_sub_eq_zero h2)
theorem O4(h1:b=a):a<=b:=f1 (aT h1.symm)
theorem O5(h1:a+4*(b+c)<=n1):a+4*b<=n1:=f1 h1
theorem O6(h1:c+4*(d+b)<=n1)(h2:a<=c+4*d):a+4*b<=n1:=f2 h1 h2
theorem O7(h1:b<=n2)(h2:a<b)(k0:Nat.ble (n2+1) n1=true):a<n1:=f3 h1 h2 (bE k0)
theorem O8(h1:b<a):¬a=b:=dZ (f1 h1)
theorem O9(h1:a+4*b<=20+4*33):a+4*b<=900:=f1 h1
theorem O'(k0:Nat.ble (n1+1) n2=true):n1<n2:=f1 (bE k0)
theorem DM(h1:b<=100)(h2:a<=1000):a+b<=1000000:=f2 h1 h2
theorem yB(h1:b<=100)(h2:a<=100):a+b<=1000000:=f2 h1 h2
theorem DN(h1:b<=100)(h2:a<=100)(h3:c<=100):a+b+c<=1000000:=f3 h1 h2 h3
theorem Oa(h1:b=1)(h2:d=1)(h3:c<=100)(h4:a<=100):a+b+c+d<=1000:=f4 (aT h1) (aT h2) h3 h4
theorem Ob(h1:b=1)(h2:a<=n2)(k0:Nat.ble (n2+1) n1=true):a+b<=n1:=f3 (aT h1) h2 (bE k0)
theorem Oc(h1:b=1)(h2:c<=100)(h3:a<=100):a+b+c<=1000000:=f3 (aT h1) h2 h3
theorem Od(h1:b=1)(h2:d=1)(h3:c<=100)(h4:a<=100):a+b+c+d<=1000000:=f4 (aT h1) (aT h2) h3 h4
theorem uT(h1:a<=100)(h2:b<=100):a+b<=1000000:=f2 h1 h2
theorem Oe(h1:a<=100)(h2:b<=100)(h3:c<=100):a+b+c<=1000000:=f3 h1 h2 h3
theorem Of(h1:d<=1000)(h2:a<=100)(h3:b<=100)(h4:c<=100):a+b+c+d<=1000000:=f4 h1 h2 h3 h4
theorem Og(h1:d<=1000)(h2:a<=100)(h3:b<=100)(h4:c<=100)(h5:e<=100):a+b+c+d+e<=1000000:=f4 h1 h2 h3 (pW h4 h5)
theorem Oh(h1:b<=1000)(h2:a<=100):a+b<=1000000:=f2 h1 h2
theorem Oi(h1:b<=1000)(h2:c<=100)(h3:a<=100):a+b+c<=1000000:=f3 h1 h2 h3
theorem Oj(h1:b<=100)(h2:a<=100/\c<=100):a+b<=1000000:=f2 h1 h2.1
theorem Ol(h1:b<=100)(h2:a<=100/\c<=100):a+b+c<=1000000:=f3 h1 h2.1 h2.2
theorem Om(h1:b<=100)(h2:a<=100/\c<=100):a+b+c<=1000:=f3 h1 h2.1 h2.2
theorem Oo(h1:a<=100)(h2:b<=1200):a+b<=1000000:=f2 h1 h2
theorem Oq(h1:a<=100)(h2:c<=100)(h3:b<=1200):a+b+c<=1000000:=f3 h1 h2 h3
theorem Ot(h1:d<=100)(h2:a<=100)(h3:c<=100)(h4:b<=1200):a+b+c+d<=1000000:=f4 h1 h2 h3 h4
theorem Ou(h1:d<=100)(h2:e=1)(h3:a<=100)(h4:c<=100)(h5:b<=1200):a+b+c+d+e<=1000000:=f4 h1 h3 h4 (pW h5 (aT h2))
theorem Ov(h1:a<=n2)(k0:Nat.ble (n2+1) n1=true):a<=n1:=f2 h1 (bE k0)
theorem Ow(h1:b<=1000)(h2:c=1)(h3:a<=100):a+(b+c)<=1200:=f3 h1 (aT h2) h3
theorem Ox(h1:b<=1000)(h2:c=1)(h3:a<=100):a+(b+(c+0))<=1000000:=f3 h1 (aT h2) h3
theorem Oy(h1:d<=100)(h2:e=1)(h3:a<=100)(h4:c<=100)(h5:b<=1200):a+(b+(c+(d+(e+0))))<=1000000:=f4 h1 h3 h4 (pW h5 (aT h2))
theorem Oz{f n m:Nat}(h:f<n):((f:Nat):Int)<((n+(m+1):Nat):Int):=ed.mpr (cF h (mu _ _))
theorem OA{a:Nat}(h:48<=a):((a-48:Nat):Int)=(a:Int)-48:=Int.ofNat_sub h
theorem OB{b n:Nat}(h:b<=n-1)(h0:0<n):b<n:=gB h (Nat.sub_lt h0 Nat.one_pos)
theorem OC{x:Int}(h:x<2):x.toNat<=1:=Int.toNat_le.mpr (Int.le_of_lt_add_one h)
end
end Mine.Internal
end
noncomputable section
open PySem PySem.W PyProof.Rows
namespace Mine.Internal
section
set_option backward.eqns.nonrecursive false
set_option backward.eqns.deepRecursiveSplit false
set_option genCtorIdx true in
inductive MV where
 |none
 |bool (b:Bool)
 |int (i:Int)
 |str (s:Str)
 |tup (xs:List MV)
 |obj (k:Nat)
 |inst (C:Addr) (k:Nat)
 |fn (v:Value)
 deriving Inhabited
set_option genCtorIdx true in
inductive MO where
 |list (xs:List MV)
 |dict (es:List (Str×MV))
 |exc (raised:Bool) (kd:Nat)
 |attrs (fs:List (Str×MV))
 deriving Inhabited
noncomputable abbrev MH:=List MO
set_option genCtorIdx true in
inductive Res(α:Type) where
 |val (a:α) (H:MH)
 |exc (k:Nat) (H:MH)
abbrev g8:=Addr->List MV->MH->Option (Res MV)
noncomputable abbrev Loc:=List (Option MV)
abbrev CE:=g8->Loc->MH->Option (Res MV)
abbrev CL:=g8->Loc->MH->Option (Res (List MV))
abbrev CT:=g8->Loc->MH->Option (Res Bool)
set_option genCtorIdx true in
inductive RS where
 |next (L:Loc) (H:MH)
 |cont (L:Loc) (H:MH)
 |ret (p:MV) (L:Loc) (H:MH)
 |exc (k:Nat) (L:Loc) (H:MH)
abbrev CS:=g8->Loc->MH->Option RS
noncomputable def bindR{α β:Type}(r:Option (Res α))(f:α->MH->Option (Res β)):Option (Res β):=
 match r with
 |some (.val a H)=>f a H
 |some (.exc k H)=>some (.exc k H)
 |none=>none
noncomputable def aW{α:Type}(r:Option (Res α))(L:Loc)(f:α->MH->Option RS):Option RS:=
 match r with
 |some (.val a H)=>f a H
 |some (.exc k H)=>some (.exc k L H)
 |none=>none
noncomputable def put(k:Str)(v:MV):List (Str×MV)->List (Str×MV)
 |[]=> [(k,v)]
 |(k',v')::r=>if k=k' then(k,v)::r else(k',v')::put k v r
noncomputable def cG(k:Str):List (Str×MV)->Option MV
 |[]=>none
 |(k',v')::r=>if k=k' then some v' else cG k r
noncomputable def af(v:MV):CE:=fun _ _ H=>some (.val v H)
noncomputable def ae(i:Nat):CE:=fun _ L H=>match L[i]? with
 |some (some v)=>some (.val v H)
 |_=>none
abbrev P1:=MV->MH->Option (Res MV)
abbrev P2:=MV->MV->MH->Option (Res MV)
def c1(f:P1)(a:CE):CE:=fun o L H=>bindR (a o L H) f
def c2(f:P2)(a b:CE):CE:=fun o L H=>bindR (a o L H) fun x H=>bindR (b o L H) fun y H=>f x y H
noncomputable def ai:CL:=fun _ _ H=>some (.val [] H)
def aa(a:CE)(r:CL):CL:=fun o L H=>bindR (a o L H) fun x H=>bindR (r o L H) fun xs H=>some (.val (x::xs) H)
def aG(as:CL):CE:=fun o L H=>bindR (as o L H) fun xs H=>if xs.length<=sizeLine then some (.val (.tup xs) H) else none
def dy(as:CL):CE:=fun o L H=>bindR (as o L H) fun xs H=>if xs.length<=sizeLine then some (.val (.obj H.length) (H++[.list xs])) else none
def ef(ks:List Str)(as:CL):CE:=fun o L H=>bindR (as o L (H++[.dict []])) fun xs H'=>match H'[H.length]? with
 |some (.dict [])=>if xs.length=ks.length then some (.val (.obj H.length) (H'.set H.length (.dict (ks.zip xs)))) else none
 |_=>none
def ak(f:CE)(as:CL):CE:=fun o L H=>bindR (f o L H) fun p H=>bindR (as o L H) fun xs H=>match p with
 |.fn (.ref a)=>o a xs H
 |_=>none
def cL(C a:Addr)(XQ:Str)(ob:CE)(as:CL):CE:=fun o L H=>bindR (ob o L H) fun p H=>match p with
 |.inst C' k=>if C'=C then(match H[k]? with
   |some (.dict es)=>if(cG XQ es).isNone then bindR (as o L H) fun xs H=>o a (p::xs) H else none
   |_=>none) else none
 |_=>none
def eL(t:CT)(a b:CE):CE:=fun o L H=>bindR (t o L H) fun c H=>if c then a o L H else b o L H
noncomputable def dF(p:MV)(H:MH):Option Bool:=match p with
 |.bool b=>some b
 |.none=>some false
 |.obj k=>(match H[k]? with
   |some (.list xs)=>some (!xs.isEmpty)
   |_=>none)
 |_=>none
def wk(a b:CE):CE:=fun o L H=>bindR (a o L H) fun x H=>match dF x H with
 |some true=>b o L H
 |some false=>some (.val x H)
 |none=>none
def tE(a:CE):CT:=fun o L H=>bindR (a o L H) fun x H=>match dF x H with
 |some c=>some (.val c H)
 |none=>none
def oH(t:CT):CT:=fun o L H=>bindR (t o L H) fun c H=>some (.val (!c) H)
def jC(a b:CT):CT:=fun o L H=>bindR (a o L H) fun c H=>if c then b o L H else some (.val false H)
def nd(a b:CT):CT:=fun o L H=>bindR (a o L H) fun c H=>if c then some (.val true H) else b o L H
def Hv(a:CE):CE:=fun o L H=>bindR (a o L H) fun x H=>match x with
 |.bool b=>some (.val (.bool !b) H)
 |_=>none
noncomputable def Ai(f:Int->Int->Int):P2:=fun p q H=>match p,q with
 |.int a,.int b=>some (.val (.int (f a b)) H)
 |_,_=>none
noncomputable def bb:P2:=fun p q H=>match p,q with
 |.int a,.int b=>some (.val (.int (a+b)) H)
 |.str a,.str b=>if a.length+b.length<=sizeLine then some (.val (.str (a++b)) H) else none
 |.tup a,.tup b=>if(0<a.length/\0<b.length)/\a.length+b.length<=sizeLine then some (.val (.tup (a++b)) H) else none
 |.obj j,.obj k=>(match H[j]?,H[k]? with
   |some (.list a),some (.list b)=>if a.length+b.length<=sizeLine then some (.val (.obj H.length) (H++[.list (a++b)])) else none
   |_,_=>none)
 |_,_=>none
def oJ:P2:=Ai (·+·)
def dT:P2:=Ai (·-·)
noncomputable def kX:P2:=fun p q H=>match p,q with
 |.int a,.int b=>if a.natAbs<2^6000/\b.natAbs<2^6000 then some (.val (.int (a*b)) H) else none
 |_,_=>none
noncomputable def gW:P2:=fun p q H=>match p,q with
 |.int a,.int b=>if b=0 then none else some (.val (.int (a.fmod b)) H)
 |_,_=>none
noncomputable def iz:P2:=fun p q H=>match p,q with
 |.int a,.int b=>if 0<b/\b<1000 then some (.val (.int (a.fdiv b)) H) else none
 |_,_=>none
noncomputable def qX:P1:=fun p H=>match p with
 |.int a=>some (.val (.int (-a)) H)
 |_=>none
noncomputable def rR(f:MV->MV->Option Bool):List MV->List MV->Option Bool
 |[],bs=>(match bs with
   |[]=>some true
   |_::_=>none)
 |a::r,bs=>(match bs with
   |[]=>none
   |b::s=>(match f a b,rR f r s with
     |some x,some y=>some (x&&y)
     |_,_=>none))
noncomputable def UY(t:List MV->List MV->Option Bool)(p q:MV):Option Bool:=match p,q with
 |.bool a,.bool b=>some (a==b)
 |.int a,.int b=>some (a==b)
 |.str a,.str b=>some (a==b)
 |.tup a,.tup b=>t a b
 |_,_=>none
noncomputable def DO:Nat->MV->MV->Option Bool
 |0=>UY fun _ _=>none
 |n+1=>UY (rR (DO n))
def Ut(p q:MV)(H:MH):Option Bool:=match p,q with
 |.obj j,.obj k=>(match H[j]?,H[k]? with
   |some (.list a),some (.list b)=>rR (DO 8) a b
   |_,_=>none)
 |p,q=>DO 9 p q
noncomputable def QX(r:Option Bool)(H:MH):Option (Res MV):=match r with
 |some b=>some (.val (.bool b) H)
 |none=>none
def bQ:P2:=fun p q H=>QX (Ut p q H) H
noncomputable def we:P2:=fun p q H=>match p,q with
 |.bool a,.bool b=>some (.val (.bool (a !=b)) H)
 |.int a,.int b=>some (.val (.bool (a !=b)) H)
 |_,_=>none
noncomputable def strLt(a b:Str):Bool:=decide (a.cps.toList<b.cps.toList)
def kq:P2:=fun p q H=>match p,q with
 |.int a,.int b=>some (.val (.bool (decide (a<b))) H)
 |.str a,.str b=>some (.val (.bool (strLt a b)) H)
 |_,_=>none
noncomputable def wm(f:Int->Int->Bool):P2:=fun p q H=>match p,q with
 |.int a,.int b=>some (.val (.bool (f a b)) H)
 |_,_=>none
def DP:P2:=wm fun a b=>decide (a<=b)
def yl:P2:=wm fun a b=>decide (b<a)
def Kd:P2:=wm fun a b=>decide (b<=a)
noncomputable def noFn:MV->Bool
 |.fn _=>false
 |_=>true
noncomputable def oK:MV->Bool
 |.none=>true
 |_=>false
def bg:P1:=fun p H=>if noFn p then some (.val (.bool (oK p)) H) else none
def eg:P1:=fun p H=>if noFn p then some (.val (.bool (!oK p)) H) else none
noncomputable def kY(x:Str):List MV->Option Bool
 |[]=>some false
 |.str y::r=>(match kY x r with
   |some c=>some (x==y||c)
   |none=>none)
 |_::_=>none
noncomputable def rn(x:Int):List MV->Option Bool
 |[]=>some false
 |.int y::r=>(match rn x r with
   |some c=>some (x==y||c)
   |none=>none)
 |_::_=>none
def Wa(p q:MV)(H:MH):Option Bool:=match p,q with
 |.str x,.tup ys=>kY x ys
 |.int x,.tup ys=>rn x ys
 |.str x,.str y=>if x.length=1 then some (y.cps.toList.any (·==x.cps.getD 0 0)) else none
 |.str x,.obj k=>(match H[k]? with
   |some (.dict es)=>some (cG x es).isSome
   |_=>none)
 |_,_=>none
def nF:P2:=fun p q H=>QX (Wa p q H) H
def eX:P2:=fun p q H=>match p,q with
 |.str x,.obj k=>(match H[k]? with
   |some (.dict es)=>some (.val (.bool !(cG x es).isSome) H)
   |_=>none)
 |_,_=>none
noncomputable def wq(s:Str)(i:Nat):Str:=⟨#[s.cps.getD i 0]⟩
noncomputable def place?(i:Int)(n:Nat):Option Nat:=
 if 0<=i/\i<n then some i.toNat else if i<0/\0<=i+n then some (i+n).toNat else none
def au:P2:=fun p q H=>match p,q with
 |.tup xs,.int i=>(match place? i xs.length with
   |some j=>(match xs[j]? with
     |some x=>some (.val x H)
     |none=>none)
   |none=>none)
 |.str s,.int i=>if 0<=i/\i<s.length then some (.val (.str (wq s i.toNat)) H) else none
 |.obj k,.int i=>(match H[k]? with
   |some (.list xs)=>if 0<=i then(match xs[i.toNat]? with
     |some x=>some (.val x H)
     |none=>none) else none
   |_=>none)
 |.obj k,.str x=>(match H[k]? with
   |some (.dict es)=>(match cG x es with
     |some v=>some (.val v H)
     |none=>none)
   |_=>none)
 |_,_=>none
noncomputable def je{α:Type}(lo hi:Option Int)(xs:List α):List α:=
 (xs.drop (lo.elim 0 (clipAt xs.length))).take (hi.elim xs.length (clipAt xs.length)-lo.elim 0 (clipAt xs.length))
noncomputable def gD(q:MV):Option (Option Int):=match q with
 |.none=>some none
 |.int i=>some (some i)
 |_=>none
def nf(lo hi:MV):P1:=fun p H=>match p with
 |.str s=>(match gD lo,gD hi with
   |some a,some b=>some (.val (.str ⟨(je a b s.cps.toList).toArray⟩) H)
   |_,_=>none)
 |_=>none
def uU(lo hi:MV):P1:=fun p H=>match p with
 |.obj k=>(match H[k]? with
   |some (.list xs)=>(match gD lo,gD hi with
     |some a,some b=>some (.val (.obj H.length) (H++[.list (je a b xs)]))
     |_,_=>none)
   |_=>none)
 |_=>none
def fD(a:CE)(lo hi:CE):CE:=fun o L H=>bindR (a o L H) fun p H=>bindR (lo o L H) fun x H=>bindR (hi o L H) fun y H=>nf x y p H
def dG(a:CE)(lo hi:CE):CE:=fun o L H=>bindR (a o L H) fun p H=>bindR (lo o L H) fun x H=>bindR (hi o L H) fun y H=>uU x y p H
def bA(C:Addr)(XQ:Str):P1:=fun p H=>match p with
 |.inst C' k=>if C'=C then(match H[k]? with
   |some (.dict es)=>(match cG XQ es with
     |some v=>if noFn v then some (.val v H) else none
     |none=>none)
   |_=>none) else none
 |_=>none
def gE(XQ:Str):P1:=fun p H=>match p with
 |.obj k=>(match H[k]? with
   |some (.exc _ kd)=>(match H[kd]? with
     |some (.attrs es)=>(match cG XQ es with
       |some v=>if noFn v then some (.val v H) else none
       |none=>none)
     |_=>none)
   |_=>none)
 |_=>none
noncomputable def eY:P1:=fun p H=>match p with
 |.str s=>some (.val (.int s.length) H)
 |.obj k=>(match H[k]? with
   |some (.list xs)=>some (.val (.int xs.length) H)
   |_=>none)
 |_=>none
noncomputable def Hw:P1:=fun p H=>match p with
 |.str s=>if s.length=1 then some (.val (.int (s.cps.getD 0 0)) H) else none
 |_=>none
noncomputable def iN:P1:=fun p H=>match p with
 |.int i=>if i.natAbs<2^1900 then some (.val (.str (Str.ofString (toString i))) H) else none
 |.str s=>some (.val (.str s) H)
 |_=>none
noncomputable def fX:List MV->Option Int
 |[.int a]=>some a
 |.int a::r=>(match fX r with
   |some b=>some (max a b)
   |none=>none)
 |_=>none
def oM:P1:=fun p H=>match p with
 |.obj k=>(match H[k]? with
   |some (.list xs)=>(match fX xs with
     |some m=>some (.val (.int m) H)
     |none=>none)
   |_=>none)
 |_=>none
noncomputable def gF:List MV->Option Bool
 |[]=>some true
 |.bool b::r=>(match gF r with
   |some c=>some (b&&c)
   |none=>none)
 |_=>none
def qY:P1:=fun p H=>match p with
 |.obj k=>(match H[k]? with
   |some (.list xs)=>(match gF xs with
     |some m=>some (.val (.bool m) H)
     |none=>none)
   |_=>none)
 |_=>none
noncomputable def kc:P1:=fun p H=>match p with
 |.obj k=>(match H[k]? with
   |some (.list xs)=>some (.val (.tup xs) H)
   |_=>none)
 |_=>none
noncomputable def strsOf:List MV->Option (List Str)
 |[]=>some []
 |.str s::r=>(match strsOf r with
   |some l=>some (s::l)
   |none=>none)
 |_=>none
noncomputable def dg(sep:Str):List Str->Str
 |[]=>Str.empty
 |[x]=>x
 |x::r=>x++sep++dg sep r
noncomputable def kf(sep:Str):List Str->Nat
 |[]=>0
 |x::r=>x.length+sep.length+kf sep r
set_option genCtorIdx true in
inductive BT where
 |str|list|dict
noncomputable def jD(b:BT)(p:MV)(H:MH):Bool:=match b,p with
 |.str,.str _=>true
 |.list,.obj k=>(match H[k]? with
   |some (.list _)=>true
   |_=>false)
 |.dict,.obj k=>(match H[k]? with
   |some (.dict _)=>true
   |_=>false)
 |_,_=>false
abbrev PL:=MV->List MV->MH->Option (Res MV)
def cM(b:BT)(f:PL)(ob:CE)(as:CL):CE:=fun o L H=>bindR (ob o L H) fun p H=>if jD b p H then bindR (as o L H) fun xs H=>f p xs H else none
def lV:PL:=fun p qs H=>match p,qs with
 |.str sep,[.obj k]=>(match H[k]? with
   |some (.list xs)=>(match strsOf xs with
     |some l=>if sep.length<=16/\kf sep l<=1000000/\l.length<=10000 then some (.val (.str (dg sep l)) H) else none
     |none=>none)
   |_=>none)
 |_,_=>none
noncomputable def dW:P2:=fun p q H=>match p with
 |.obj k=>(match H[k]? with
   |some (.list xs)=>if xs.length<sizeLine then some (.val .none (H.set k (.list (xs++[q])))) else none
   |_=>none)
 |_=>none
def cg:PL:=fun p qs H=>match qs with
 |[q]=>dW p q H
 |_=>none
noncomputable def Bt:PL:=fun p qs H=>match p,qs with
 |.obj k,[]=>(match H[k]? with
   |some (.list xs)=>(match xs.getLast? with
     |some x=>some (.val x (H.set k (.list xs.dropLast)))
     |none=>none)
   |_=>none)
 |_,_=>none
def nX:PL:=fun p qs H=>match p,qs with
 |.obj k,[.str x]=>(match H[k]? with
   |some (.dict es)=>some (.val ((cG x es).getD .none) H)
   |_=>none)
 |_,_=>none
noncomputable abbrev S(s:String):Str:=Str.ofString s
def lW(f g:P2)(a b c:CE):CE:=fun o L H=>bindR (a o L H) fun x H=>bindR (b o L H) fun y H=>bindR (f x y H) fun r H=>match r with
 |.bool true=>bindR (c o L H) fun z H=>g y z H
 |.bool false=>some (.val (.bool false) H)
 |_=>none
noncomputable def my:List Str->Str
 |[]=>Str.empty
 |x::r=>x++my r
noncomputable def wt:List Str->Nat
 |[]=>0
 |x::r=>x.length+wt r
def mz(as:CL):CE:=fun o L H=>bindR (as o L H) fun xs H=>match strsOf xs with
 |some l=>if wt l<=sizeLine then some (.val (.str (my l)) H) else none
 |none=>none
def uV(_C:Addr)(Wb:Str)(a:Addr)(as:CL):CE:=fun o L H=>bindR (as o L H) fun xs H=>o a xs H
def mkBody(C init:Addr)(o:g8)(H:MH):Option (Res MV):=bindR (o init [.inst C H.length] (H++[.dict []])) fun r H'=>match r with
 |.none=>some (.val (.inst C H.length) H')
 |_=>none
def oO(C init:Addr):CE:=fun o _ H=>mkBody C init o H
def rS(code value ec level:MV):List (Str×MV):=[(S "code",code),(S "value",value),(S "errorcode",ec),(S "level",level)]
def Aj(xs:List MV)(H:MH):Option (Res MV):=match xs with
 |[code,value,ec,level]=>some (.val (.obj (H.length+1)) (H++[.attrs (rS code value ec level),.exc false H.length]))
 |[code,value,ec]=>some (.val (.obj (H.length+1)) (H++[.attrs (rS code value ec (.int 0)),.exc false H.length]))
 |_=>none
noncomputable def mC(c:Nat):Nat:=if 65<=c/\c<=90 then c+32 else c
def rT:PL:=fun p qs H=>match p,qs with
 |.str s,[]=>if s.cps.all (·<128)/\s.length<=1000000 then some (.val (.str ⟨s.cps.map mC⟩) H) else none
 |_,_=>none
noncomputable def oP:PL:=fun p qs H=>match p,qs with
 |.str x,[.str y]=>some (.val (.bool (y.cps.toList.isPrefixOf x.cps.toList)) H)
 |_,_=>none
def uW:PL:=fun p qs H=>match p,qs with
 |.str x,[.str y]=>if x=S "0123456789"/\y.length=1/\48<=y.cps.getD 0 0/\y.cps.getD 0 0<=57 then some (.val (.int ((y.cps.getD 0 0:Nat)-48)) H) else none
 |_,_=>none
def wu:PL:=fun p qs H=>match p,qs with
 |.obj k,[.str x,.none]=>(match H[k]? with
   |some (.dict es)=>if(cG x es).isNone then some (.val .none H) else none
   |_=>none)
 |_,_=>none
noncomputable def ro(_C:Addr):P1:=fun p H=>match p with
 |.str _=>some (.val (.bool false) H)
 |_=>none
noncomputable def da:CS:=fun _ _ _=>none
noncomputable def aq:CS:=fun _ L H=>some (.next L H)
noncomputable def ag(a b:CS):CS:=fun o L H=>match a o L H with
 |some (.next L H)=>b o L H
 |r=>r
def aO(i:Nat)(e:CE):CS:=fun o L H=>aW (e o L H) L fun v H=>some (.next (L.set i (some v)) H)
noncomputable def nY:List Nat->List MV->Loc->Loc
 |i::is,x::xs,L=>nY is xs (L.set i (some x))
 |_,_,L=>L
def di(is:List Nat)(e:CE):CS:=fun o L H=>aW (e o L H) L fun v H=>match v with
 |.tup xs=>if xs.length=is.length then some (.next (nY is xs L) H) else none
 |_=>none
def u9(is:List Nat)(e:CE):CS:=fun o L H=>aW (e o L H) L fun v H=>match v with
 |.tup xs=>if xs.length=is.length then some (.next (nY is.reverse xs.reverse L) H) else none
 |_=>none
def setField(C:Addr)(XQ:Str)(p v:MV)(H:MH):Option MH:=match p with
 |.inst C' k=>if C'=C then(match H[k]? with
   |some (.dict es)=>if es.length<=1000 then some (H.set k (.dict (put XQ v es))) else none
   |_=>none) else none
 |_=>none
def eN(C:Addr)(XQ:Str)(ob e:CE):CS:=fun o L H=>aW (e o L H) L fun v H=>aW (ob o L H) L fun p H=>match setField C XQ p v H with
 |some H=>some (.next L H)
 |none=>none
def eZ(ob ix e:CE):CS:=fun o L H=>aW (e o L H) L fun v H=>aW (ob o L H) L fun p H=>aW (ix o L H) L fun q H=>match p,q with
 |.obj k,.str x=>(match H[k]? with
   |some (.dict es)=>if es.length<=1000 then some (.next L (H.set k (.dict (put x v es)))) else none
   |_=>none)
 |_,_=>none
def yC(i:Nat)(f:P2)(e:CE):CS:=fun o L H=>aW (ae i o L H) L fun x H=>aW (e o L H) L fun v H=>aW (f x v H) L fun y H=>some (.next (L.set i (some y)) H)
def eh(C:Addr)(XQ:Str)(ob:CE)(f:P2)(e:CE):CS:=fun o L H=>aW (ob o L H) L fun p H=>aW (bA C XQ p H) L fun x H=>aW (e o L H) L fun v H=>
 aW (f x v H) L fun y H=>match setField C XQ p y H with
 |some H=>some (.next L H)
 |none=>none
def bN(t:CT)(a b:CS):CS:=fun o L H=>aW (t o L H) L fun c H=>if c then a o L H else b o L H
def aK(e:CE):CS:=fun o L H=>aW (e o L H) L fun v H=>some (.ret v L H)
noncomputable def DQ:CS:=fun _ L H=>some (.ret .none L H)
def bT(e:CE):CS:=fun o L H=>aW (e o L H) L fun _ H=>some (.next L H)
noncomputable def wx:CS:=fun _ L H=>some (.cont L H)
def g'(e:CE):CS:=fun o L H=>aW (e o L H) L fun p H'=>match p with
 |.obj k=>if H.length<=k then(match H'[k]? with
   |some (.exc false kd)=>some (.exc k L (H'.set k (.exc true kd)))
   |_=>none) else none
 |_=>none
noncomputable def jf(k:Nat)(H:MH):Bool:=match H[k]? with
 |some (.exc true _)=>true
 |_=>false
def iO(b f:CS):CS:=fun o L H=>match b o L H with
 |some (.next L H)=>f o L H
 |some (.cont L H)=>(match f o L H with
   |some (.next L H)=>some (.cont L H)
   |_=>none)
 |some (.ret p L H)=>(match f o L H with
   |some (.next L H)=>some (.ret p L H)
   |_=>none)
 |some (.exc k L H)=>(match f o L H with
   |some (.next L H')=>if jf k H' then some (.exc k L H') else none
   |_=>none)
 |none=>none
noncomputable def q0(i:Nat)(b h:CS):CS:=fun o L H=>match b o L H with
 |some (.exc k L H)=>(match h o (L.set i (some (.obj k))) H with
   |some (.next L H)=>if i<L.length then some (.next (L.set i none) H) else none
   |_=>none)
 |r=>r
noncomputable def f5(t:CT)(b:CS):Nat->CS
 |0=>fun _ _ _=>none
 |n+1=>fun o L H=>aW (t o L H) L fun c H=>if c then(match b o L H with
   |some (.next L H)=>f5 t b n o L H
   |some (.cont L H)=>f5 t b n o L H
   |r=>r) else some (.next L H)
noncomputable def many:Nat:=1000000
def mD(t:CT)(b:CS):CS:=f5 t b many
set_option genCtorIdx true in
inductive Src where
 |lst (k i:Nat)
 |tup (xs:List MV) (i:Nat)
 |str (s:Str) (i:Nat)
 |Hr (n i:Nat)
noncomputable def srcOf(p:MV)(H:MH):Option Src:=match p with
 |.obj k=>(match H[k]? with
   |some (.list _)=>some (.lst k 0)
   |_=>none)
 |.tup xs=>some (.tup xs 0)
 |.str s=>some (.str s 0)
 |_=>none
def dM(src:Src)(H:MH):Option (Option (MV×Src)):=match src with
 |.lst k i=>(match H[k]? with
   |some (.list xs)=>(match xs[i]? with
     |some x=>some (some (x,.lst k (i+1)))
     |none=>some none)
   |_=>none)
 |.tup xs i=>(match xs[i]? with
   |some x=>some (some (x,.tup xs (i+1)))
   |none=>some none)
 |.str s i=>if i<s.length then some (some (.str (wq s i),.str s (i+1))) else some none
 |.Hr n i=>if i<n then some (some (.int i,.Hr n (i+1))) else some none
noncomputable def toName(i:Nat):MV->Loc->Option Loc:=fun x L=>some (L.set i (some x))
def iP(is:List Nat):MV->Loc->Option Loc:=fun x L=>match x with
 |.tup xs=>if xs.length=is.length then some (nY is xs L) else none
 |_=>none
noncomputable def ei(j2:MV->Loc->Option Loc)(b:CS):Nat->Src->CS
 |0,_=>fun _ _ _=>none
 |n+1,src=>fun o L H=>match dM src H with
   |none=>none
   |some none=>some (.next L H)
   |some (some (x,src))=>(match j2 x L with
     |none=>none
     |some L=>(match b o L H with
       |some (.next L H)=>ei j2 b n src o L H
       |some (.cont L H)=>ei j2 b n src o L H
       |r=>r))
def ic(j2:MV->Loc->Option Loc)(it:CE)(b:CS):CS:=fun o L H=>aW (it o L H) L fun p H=>match srcOf p H with
 |some src=>ei j2 b many src o L H
 |none=>none
def qD(i:Nat)(e:CE)(b:CS):CS:=fun o L H=>aW (e o L H) L fun p H=>match p with
 |.int n=>if 0<=n/\n<2^31 then ei (toName i) b many (.Hr n.toNat 0) o L H else none
 |_=>none
noncomputable def gG(elt:CE)(fr:Loc)(acc:Nat):Nat->Src->g8->MH->Option (Res Unit)
 |0,_,_,_=>none
 |n+1,src,o,H=>match dM src H with
   |none=>none
   |some none=>some (.val () H)
   |some (some (x,src))=>(match elt o (some x::fr) H with
     |some (.val y H)=>bindR (dW (.obj acc) y H) fun _ H=>gG elt fr acc n src o H
     |_=>none)
def ff(p:MV)(H:MH):Option Src:=match srcOf p H with
 |some (.lst k i)=>some (.lst k i)
 |some (.str x i)=>some (.str x i)
 |_=>none
def cR(free:List Nat)(elt it:CE):CE:=fun o L H=>bindR (it o L H) fun p H=>match ff p H with
 |some src=>bindR (gG elt (free.map fun i=>(L[i]?).join) H.length many src o (H++[.list []])) fun _ H'=>some (.val (.obj H.length) H')
 |none=>none
noncomputable def dj(q9:Nat)(b:CS):g8->List MV->MH->Option (Res MV):=fun o XS H=>
 match b o (XS.map some++List.replicate (q9-XS.length) none) H with
 |some (.next _ H)=>some (.val .none H)
 |some (.ret p _ H)=>some (.val p H)
 |some (.exc k _ H)=>some (.exc k H)
 |_=>none
theorem DR:put k v ((k',v')::r)=if k=k' then(k,v)::r else(k',v')::put k v r:=rfl
theorem Sg:cG k []=none:=rfl
theorem Ak:cG k ((k',v')::r)=if k=k' then some v' else cG k r:=rfl
theorem OD{f:MV->MV->Option Bool}:rR f (a::r) (b::s)=(match f a b,rR f r s with
  |some x,some y=>some (x&&y)
  |_,_=>none):=rfl
theorem Bu:kY x []=some false:=rfl
theorem Bv:kY x (.str y::r)=(match kY x r with
  |some c=>some (x==y||c)
  |none=>none):=rfl
theorem yD:gF (.bool b::r)=(match gF r with
  |some c=>some (b&&c)
  |none=>none):=rfl
theorem yE:my []=Str.empty:=rfl
theorem yF:my (x::r)=x++my r:=rfl
theorem yG:wt []=0:=rfl
theorem yH:wt (x::r)=x.length+wt r:=rfl
theorem OE{j2:MV->Loc->Option Loc}:ei j2 b (n+1) src o L H=(match dM src H with
   |none=>none
   |some none=>some (.next L H)
   |some (some (x,src))=>(match j2 x L with
     |none=>none
     |some L=>(match b o L H with
       |some (.next L H)=>ei j2 b n src o L H
       |some (.cont L H)=>ei j2 b n src o L H
       |r=>r))):=rfl
theorem rv:gG elt fr acc (n+1) src o H=(match dM src H with
   |none=>none
   |some none=>some (.val () H)
   |some (some (x,src))=>(match elt o (some x::fr) H with
     |some (.val y H)=>bindR (dW (.obj acc) y H) fun _ H=>gG elt fr acc n src o H
     |_=>none)):=rfl
structure Def where
 par:Nat
 jJ:List MV
 loc:Nat
 body:CS
end
noncomputable abbrev jK:Nat:=139
noncomputable abbrev nZ:Nat:=174
noncomputable abbrev Al:Nat:=181
noncomputable abbrev fp:Nat:=188
noncomputable abbrev qa:Nat:=195
noncomputable abbrev eH:Nat:=202
noncomputable abbrev ky:Nat:=209
noncomputable abbrev cD:Nat:=216
noncomputable abbrev dN:Nat:=223
noncomputable abbrev iA:Nat:=300
noncomputable abbrev j3:Nat:=307
noncomputable abbrev kZ:Nat:=314
noncomputable abbrev l0:Nat:=356
noncomputable abbrev l7:Nat:=363
noncomputable abbrev rU:Nat:=370
noncomputable abbrev jg:Nat:=377
noncomputable abbrev mE:Nat:=384
noncomputable abbrev fY:Nat:=391
noncomputable abbrev nI:Nat:=398
noncomputable abbrev hK:Nat:=412
noncomputable abbrev eO:Nat:=426
noncomputable abbrev ej:Nat:=454
noncomputable abbrev nJ:Nat:=546
noncomputable abbrev wy:Nat:=553
noncomputable abbrev wz:Nat:=560
noncomputable abbrev Ke:Nat:=574
noncomputable abbrev dm:Nat:=700
noncomputable abbrev cV:Nat:=707
noncomputable abbrev kh:Nat:=714
noncomputable abbrev b0:Nat:=721
noncomputable abbrev o7:Nat:=728
noncomputable abbrev eI:Nat:=735
noncomputable abbrev d7:Nat:=742
noncomputable abbrev cN:Nat:=749
noncomputable abbrev aZ:Nat:=756
noncomputable abbrev eB:Nat:=763
noncomputable abbrev cx:Nat:=768
noncomputable abbrev gj:Nat:=775
noncomputable abbrev jh:Nat:=782
noncomputable abbrev fE:Nat:=789
noncomputable abbrev l8:Nat:=796
noncomputable abbrev hY:Nat:=803
noncomputable abbrev ji:Nat:=810
noncomputable abbrev iQ:Nat:=817
noncomputable abbrev fq:Nat:=824
noncomputable abbrev ft:Nat:=831
noncomputable abbrev fF:Nat:=838
noncomputable abbrev o8:Nat:=843
noncomputable abbrev fu:Nat:=848
noncomputable abbrev o9:Nat:=855
noncomputable abbrev cH:Nat:=862
noncomputable abbrev Wc:Nat:=867
noncomputable abbrev DS:Nat:=476
noncomputable abbrev Bw:Nat:=483
noncomputable abbrev Hx:Nat:=497
noncomputable abbrev wA:Nat:=511
noncomputable abbrev Bx:Nat:=603
noncomputable abbrev uX:Nat:=610
noncomputable abbrev Hs:Nat:=617
noncomputable abbrev wB:Nat:=624
noncomputable abbrev QY:Nat:=631
noncomputable abbrev Uu:Nat:=660
noncomputable abbrev OF:Nat:=667
noncomputable abbrev u':Nat:=688
noncomputable abbrev Sh:Nat:=469
noncomputable abbrev Ht:Nat:=589
noncomputable abbrev Uv:Nat:=440
def Am:CS:=
 (ag (aK (ak (af (.fn (.ref 84))) (aa (af (.int 1)) (aa (ae 0) (aa (ae 1) ai)))))
 aq)
def rV:CS:=
 (ag (aK (c2 nF (ae 0) (aG (aa (af (.str (S " "))) (aa (af (.str (S "\t"))) (aa (af (.str (S "\n"))) (aa (af (.str (S "\x0b"))) (aa (af (.str (S "\x0c"))) (aa (af (.str (S "\r"))) ai)))))))))
 aq)
def rx:CS:=
 (ag (bN (tE (c2 we (c1 eY (ae 0)) (af (.int 1))))
  (ag (aK (c1 qX (af (.int 1))))
  aq)
  aq)
 (ag (aO 1 (c1 Hw (ae 0)))
 (ag (bN (tE (lW DP DP (af (.int 48)) (ae 1) (af (.int 57))))
  (ag (aK (c2 dT (ae 1) (af (.int 48))))
  aq)
  aq)
 (ag (bN (tE (lW DP DP (af (.int 97)) (ae 1) (af (.int 122))))
  (ag (aK (c2 dT (ae 1) (af (.int 87))))
  aq)
  aq)
 (ag (bN (tE (lW DP DP (af (.int 65)) (ae 1) (af (.int 90))))
  (ag (aK (c2 dT (ae 1) (af (.int 55))))
  aq)
  aq)
 (ag (aK (c1 qX (af (.int 1))))
 aq))))))
def fG:CS:=
 (ag (aO 4 (ak (af (.fn (.ref Al))) (aa (ae 3) ai)))
 (ag (bN (nd (tE (c2 kq (ae 4) (af (.int 0)))) (tE (c2 Kd (ae 4) (ae 1))))
  (ag (aK (af .none))
  aq)
  aq)
 (ag (aO 2 (c2 bb (c2 kX (ae 2) (ae 1)) (ae 4)))
 aq)))
def fv:CS:=
 (ag (bN (tE (c2 bQ (ae 0) (af (.str (S "")))))
  (ag (aK (af .none))
  aq)
  aq)
 (ag (aO 2 (af (.int 0)))
 (ag (ic (toName 3) (ae 0) fG)
 (ag (aK (ae 2))
 aq))))
def ng:CS:=
 (ag (bN (tE (c2 nF (ae 0) (aG (aa (af (.str (S "x"))) (aa (af (.str (S "X"))) ai)))))
  (ag (aK (af (.int 16)))
  aq)
  aq)
 (ag (bN (tE (c2 nF (ae 0) (aG (aa (af (.str (S "o"))) (aa (af (.str (S "O"))) ai)))))
  (ag (aK (af (.int 8)))
  aq)
  aq)
 (ag (bN (tE (c2 nF (ae 0) (aG (aa (af (.str (S "b"))) (aa (af (.str (S "B"))) ai)))))
  (ag (aK (af (.int 2)))
  aq)
  aq)
 (ag (bN (tE (c2 nF (ae 0) (aG (aa (af (.str (S "d"))) (aa (af (.str (S "D"))) ai)))))
  (ag (aK (af (.int 10)))
  aq)
  aq)
 (ag (aK (af (.int 0)))
 aq)))))
def iR:CT:=
 (jC (tE (c2 kq (ae 1) (ae 2))) (tE (ak (af (.fn (.ref nZ))) (aa (c2 au (ae 0) (ae 1)) ai))))
def oQ:CS:=
 (ag (yC 1 oJ (af (.int 1)))
 aq)
def iS:CT:=
 (jC (tE (c2 kq (ae 1) (ae 2))) (tE (ak (af (.fn (.ref nZ))) (aa (c2 au (ae 0) (c2 dT (ae 2) (af (.int 1)))) ai))))
def oR:CS:=
 (ag (yC 2 dT (af (.int 1)))
 aq)
def hR:CS:=
 (ag (u9 [1,2] (aG (aa (af (.int 0)) (aa (c1 eY (ae 0)) ai))))
 (ag (mD iR oQ)
 (ag (mD iS oR)
 (ag (aO 3 (af (.bool false)))
 (ag (bN (jC (tE (c2 kq (ae 1) (ae 2))) (tE (c2 nF (c2 au (ae 0) (ae 1)) (aG (aa (af (.str (S "+"))) (aa (af (.str (S "-"))) ai))))))
  (ag (aO 3 (c2 bQ (c2 au (ae 0) (ae 1)) (af (.str (S "-")))))
  (ag (yC 1 oJ (af (.int 1)))
  aq))
  aq)
 (ag (aO 4 (af (.int 0)))
 (ag (bN (jC (tE (c2 yl (c2 dT (ae 2) (ae 1)) (af (.int 2)))) (tE (c2 bQ (c2 au (ae 0) (ae 1)) (af (.str (S "0"))))))
  (ag (aO 4 (ak (af (.fn (.ref qa))) (aa (c2 au (ae 0) (c2 bb (ae 1) (af (.int 1)))) ai)))
  aq)
  aq)
 (ag (bN (tE (c2 yl (ae 4) (af (.int 0))))
  (ag (aO 5 (ak (af (.fn (.ref fp))) (aa (fD (ae 0) (c2 bb (ae 1) (af (.int 2))) (ae 2)) (aa (ae 4) ai))))
  aq)
  (ag (aO 5 (ak (af (.fn (.ref fp))) (aa (fD (ae 0) (ae 1) (ae 2)) (aa (af (.int 10)) ai))))
  aq))
 (ag (bN (tE (c1 bg (ae 5)))
  (ag (aK (af .none))
  aq)
  aq)
 (ag (aK (eL (tE (ae 3)) (c1 qX (ae 5)) (ae 5)))
 aq))))))))))
def wC:CS:=
 (ag (bN (tE (cM .str oP (ae 3) (aa (ae 2) ai)))
  (ag (aK (af (.bool true)))
  aq)
  aq)
 aq)
def wD:CS:=
 (ag (bN (tE (cM .str oP (ae 3) (aa (ae 2) ai)))
  (ag (aK (af (.bool false)))
  aq)
  aq)
 aq)
def j4:CS:=
 (ag (aO 1 (ak (af (.fn (.ref eH))) (aa (ae 0) ai)))
 (ag (bN (tE (c1 eg (ae 1)))
  (ag (aK (c2 we (ae 1) (af (.int 0))))
  aq)
  aq)
 (ag (aO 2 (cM .str rT (ae 0) ai))
 (ag (bN (tE (c2 nF (ae 2) (aG (aa (af (.str (S ""))) (aa (af (.str (S "o"))) ai)))))
  (ag (aK (af .none))
  aq)
  aq)
 (ag (ic (toName 3) (aG (aa (af (.str (S "true"))) (aa (af (.str (S "yes"))) (aa (af (.str (S "on"))) ai)))) wC)
 (ag (ic (toName 3) (aG (aa (af (.str (S "false"))) (aa (af (.str (S "no"))) (aa (af (.str (S "off"))) ai)))) wD)
 (ag (aK (af .none))
 aq)))))))
def gk:CS:=
 (ag (aO 1 (ak (af (.fn (.ref ky))) (aa (ae 0) ai)))
 (ag (bN (tE (c1 bg (ae 1)))
  (ag (g' (ak (af (.fn (.ref jK))) (aa (c2 bb (c2 bb (af (.str (S "expected boolean value but got \""))) (ae 0)) (af (.str (S "\"")))) (aa (aG (aa (af (.str (S "TCL"))) (aa (af (.str (S "VALUE"))) (aa (af (.str (S "BOOLEAN"))) ai)))) ai))))
  aq)
  aq)
 (ag (aK (ae 1))
 aq)))
def jL:CS:=
 (ag (aK (eL (tE (ae 0)) (af (.str (S "1"))) (af (.str (S "0")))))
 aq)
def dI:CS:=
 (ag (u9 [2,3] (aG (aa (af (.str (S "non-numeric string"))) (aa (mz (aa (af (.str (S "non-numeric string \""))) (aa (ae 1) (aa (af (.str (S "\""))) ai)))) ai))))
 (ag (bN (tE (c2 bQ (ae 1) (af (.str (S "")))))
  (ag (di [2,3] (aG (aa (af (.str (S "empty string"))) (aa (af (.str (S "empty string"))) ai))))
  aq)
  aq)
 (ag (aK (ak (af (.fn (.ref jK))) (aa (mz (aa (af (.str (S "can't use "))) (aa (ae 3) (aa (af (.str (S " as operand of \""))) (aa (ae 0) (aa (af (.str (S "\""))) ai)))))) (aa (aG (aa (af (.str (S "ARITH"))) (aa (af (.str (S "DOMAIN"))) (aa (ae 2) ai)))) ai))))
 aq)))
def j5:CS:=
 (ag (aO 2 (ak (af (.fn (.ref eH))) (aa (ae 1) ai)))
 (ag (bN (tE (c1 bg (ae 2)))
  (ag (g' (ak (af (.fn (.ref iA))) (aa (ae 0) (aa (ae 1) ai))))
  aq)
  aq)
 (ag (aK (ae 2))
 aq)))
def hZ:CS:=
 (ag (bN (tE (c2 bQ (ae 0) (af (.str (S "!")))))
  (ag (aO 2 (ak (af (.fn (.ref ky))) (aa (ae 1) ai)))
  (ag (bN (tE (c1 bg (ae 2)))
   (ag (g' (ak (af (.fn (.ref iA))) (aa (ae 0) (aa (ae 1) ai))))
   aq)
   aq)
  (ag (aK (ak (af (.fn (.ref dN))) (aa (Hv (ae 2)) ai)))
  aq)))
  aq)
 (ag (aO 3 (ak (af (.fn (.ref j3))) (aa (ae 0) (aa (ae 1) ai))))
 (ag (bN (tE (c2 bQ (ae 0) (af (.str (S "-")))))
  (ag (aK (c1 iN (c1 qX (ae 3))))
  aq)
  aq)
 (ag (bN (tE (c2 bQ (ae 0) (af (.str (S "~")))))
  da
  aq)
 (ag (bN (tE (c2 bQ (ae 0) (af (.str (S "+")))))
  (ag (aK (c1 iN (ae 3)))
  aq)
  aq)
 da)))))
def iT:CS:=
 (ag (bN (tE (c2 bQ (ae 0) (af (.str (S "+")))))
  (ag (aK (c2 bb (ae 1) (ae 2)))
  aq)
  aq)
 (ag (bN (tE (c2 bQ (ae 0) (af (.str (S "-")))))
  (ag (aK (c2 dT (ae 1) (ae 2)))
  aq)
  aq)
 (ag (bN (tE (c2 bQ (ae 0) (af (.str (S "*")))))
  (ag (aK (c2 kX (ae 1) (ae 2)))
  aq)
  aq)
 (ag (bN (tE (c2 bQ (ae 0) (af (.str (S "/")))))
  da
  aq)
 (ag (bN (tE (c2 bQ (ae 0) (af (.str (S "%")))))
  da
  aq)
 (ag (bN (tE (c2 bQ (ae 0) (af (.str (S "**")))))
  da
  aq)
 (ag (bN (tE (c2 bQ (ae 0) (af (.str (S "<<")))))
  da
  aq)
 (ag (bN (tE (c2 bQ (ae 0) (af (.str (S ">>")))))
  da
  aq)
 (ag (bN (tE (c2 bQ (ae 0) (af (.str (S "&")))))
  da
  aq)
 (ag (bN (tE (c2 bQ (ae 0) (af (.str (S "|")))))
  da
  aq)
 (ag (bN (tE (c2 bQ (ae 0) (af (.str (S "^")))))
  da
  aq)
 da)))))))))))
def iU:CS:=
 (ag (bN (tE (c2 bQ (ae 0) (ae 1)))
  (ag (aK (af (.int 0)))
  aq)
  aq)
 (ag (aK (eL (tE (c2 kq (ae 0) (ae 1))) (c1 qX (af (.int 1))) (af (.int 1))))
 aq))
def l9:CS:=
 (ag (aO 2 (ak (af (.fn (.ref eH))) (aa (ae 0) ai)))
 (ag (aO 3 (ak (af (.fn (.ref eH))) (aa (ae 1) ai)))
 (ag (bN (nd (tE (c1 bg (ae 2))) (tE (c1 bg (ae 3))))
  (ag (aK (ak (af (.fn (.ref l7))) (aa (ae 0) (aa (ae 1) ai))))
  aq)
  aq)
 (ag (aK (c2 dT (ae 2) (ae 3)))
 aq))))
def rW:CS:=
 (ag (bN (nd (tE (c2 bQ (ae 0) (af (.str (S "=="))))) (tE (c2 bQ (ae 0) (af (.str (S "eq"))))))
  (ag (aK (c2 bQ (ae 1) (af (.int 0))))
  aq)
  aq)
 (ag (bN (nd (tE (c2 bQ (ae 0) (af (.str (S "!="))))) (tE (c2 bQ (ae 0) (af (.str (S "ne"))))))
  (ag (aK (c2 we (ae 1) (af (.int 0))))
  aq)
  aq)
 (ag (bN (nd (tE (c2 bQ (ae 0) (af (.str (S "<"))))) (tE (c2 bQ (ae 0) (af (.str (S "lt"))))))
  (ag (aK (c2 kq (ae 1) (af (.int 0))))
  aq)
  aq)
 (ag (bN (nd (tE (c2 bQ (ae 0) (af (.str (S "<="))))) (tE (c2 bQ (ae 0) (af (.str (S "le"))))))
  (ag (aK (c2 DP (ae 1) (af (.int 0))))
  aq)
  aq)
 (ag (bN (nd (tE (c2 bQ (ae 0) (af (.str (S ">"))))) (tE (c2 bQ (ae 0) (af (.str (S "gt"))))))
  (ag (aK (c2 yl (ae 1) (af (.int 0))))
  aq)
  aq)
 (ag (aK (c2 Kd (ae 1) (af (.int 0))))
 aq))))))
def fw:CS:=
 (ag (bN (tE (c2 nF (ae 0) (aG (aa (af (.str (S "=="))) (aa (af (.str (S "!="))) (aa (af (.str (S "<"))) (aa (af (.str (S "<="))) (aa (af (.str (S ">"))) (aa (af (.str (S ">="))) ai)))))))))
  (ag (aK (ak (af (.fn (.ref dN))) (aa (ak (af (.fn (.ref jg))) (aa (ae 0) (aa (ak (af (.fn (.ref rU))) (aa (ae 1) (aa (ae 2) ai))) ai))) ai)))
  aq)
  aq)
 (ag (bN (tE (c2 nF (ae 0) (aG (aa (af (.str (S "eq"))) (aa (af (.str (S "ne"))) (aa (af (.str (S "lt"))) (aa (af (.str (S "le"))) (aa (af (.str (S "gt"))) (aa (af (.str (S "ge"))) ai)))))))))
  (ag (aK (ak (af (.fn (.ref dN))) (aa (ak (af (.fn (.ref jg))) (aa (ae 0) (aa (ak (af (.fn (.ref l7))) (aa (ae 1) (aa (ae 2) ai))) ai))) ai)))
  aq)
  aq)
 (ag (bN (tE (c2 nF (ae 0) (aG (aa (af (.str (S "in"))) (aa (af (.str (S "ni"))) ai)))))
  da
  aq)
 (ag (aO 4 (ak (af (.fn (.ref j3))) (aa (ae 0) (aa (ae 1) ai))))
 (ag (aO 5 (ak (af (.fn (.ref j3))) (aa (ae 0) (aa (ae 2) ai))))
 (ag (aK (c1 iN (ak (af (.fn (.ref l0))) (aa (ae 0) (aa (ae 4) (aa (ae 5) ai))))))
 aq))))))
def dJ:CS:=
 (ag (aK (ef [(S "abs"),(S "bool"),(S "entier"),(S "int"),(S "isqrt"),(S "max"),(S "min"),(S "wide")] (aa (aG (aa (af (.int 1)) (aa (af (.int 1)) ai))) (aa (aG (aa (af (.int 1)) (aa (af (.int 1)) ai))) (aa (aG (aa (af (.int 1)) (aa (af (.int 1)) ai))) (aa (aG (aa (af (.int 1)) (aa (af (.int 1)) ai))) (aa (aG (aa (af (.int 1)) (aa (af (.int 1)) ai))) (aa (aG (aa (af (.int 1)) (aa (c1 qX (af (.int 1))) ai))) (aa (aG (aa (af (.int 1)) (aa (c1 qX (af (.int 1))) ai))) (aa (aG (aa (af (.int 1)) (aa (af (.int 1)) ai))) ai))))))))))
 aq)
def du:CS:=
 (ag (aO 1 (ak (af (.fn (.ref eH))) (aa (ae 0) ai)))
 (ag (bN (tE (c1 bg (ae 1)))
  (ag (g' (ak (af (.fn (.ref jK))) (aa (mz (aa (af (.str (S "expected number but got \""))) (aa (ae 0) (aa (af (.str (S "\""))) ai)))) (aa (aG (aa (af (.str (S "TCL"))) (aa (af (.str (S "VALUE"))) (aa (af (.str (S "NUMBER"))) ai)))) ai))))
  aq)
  aq)
 (ag (aK (ae 1))
 aq)))
def fH:CS:=
 (ag (bN (tE (c2 bQ (ae 0) (af (.str (S "max")))))
  (ag (aK (c1 oM (ae 1)))
  aq)
  aq)
 (ag (bN (tE (c2 bQ (ae 0) (af (.str (S "min")))))
  da
  aq)
 (ag (bN (tE (c2 bQ (ae 0) (af (.str (S "abs")))))
  da
  aq)
 (ag (bN (tE (c2 bQ (ae 0) (af (.str (S "isqrt")))))
  da
  aq)
 (ag (bN (tE (c2 bQ (ae 0) (af (.str (S "wide")))))
  da
  aq)
 (ag (aK (c2 au (ae 1) (af (.int 0))))
 aq))))))
def dO:CS:=
 (ag (bT (cM .list cg (ae 5) (aa (ak (af (.fn (.ref nI))) (aa (ae 6) ai)) ai)))
 aq)
def cy:CS:=
 (ag (aO 2 (cM .dict nX (ak (af (.fn (.ref fY))) ai) (aa (ae 0) ai)))
 (ag (bN (tE (c1 bg (ae 2)))
  (ag (aK (af .none))
  aq)
  aq)
 (ag (di [3,4] (ae 2))
 (ag (bN (tE (c2 kq (c1 eY (ae 1)) (ae 3)))
  da
  aq)
 (ag (bN (jC (tE (c2 Kd (ae 4) (af (.int 0)))) (tE (c2 yl (c1 eY (ae 1)) (ae 4))))
  da
  aq)
 (ag (bN (tE (c2 bQ (ae 0) (af (.str (S "bool")))))
  (ag (aK (ak (af (.fn (.ref dN))) (aa (ak (af (.fn (.ref cD))) (aa (c2 au (ae 1) (af (.int 0))) ai)) ai)))
  aq)
  aq)
 (ag (aO 5 (dy ai))
 (ag (ic (toName 6) (ae 1) dO)
 (ag (aK (c1 iN (ak (af (.fn (.ref hK))) (aa (ae 0) (aa (ae 5) ai)))))
 aq)))))))))
def bV:CS:=
 (ag (bN (tE (c2 bQ (c2 au (ae 3) (af (.int 0))) (af (.str (S "text")))))
  (ag (bT (cM .list cg (ae 2) (aa (c2 au (ae 3) (af (.int 1))) ai)))
  aq)
  (ag (bN (tE (c2 bQ (c2 au (ae 3) (af (.int 0))) (af (.str (S "cmd")))))
   (ag (bT (cM .list cg (ae 2) (aa (cL 691 497 (S "run") (ae 0) (aa (c2 au (ae 3) (af (.int 1))) ai)) ai)))
   aq)
   (ag (bN (tE (c1 bg (c2 au (ae 3) (af (.int 2)))))
    (ag (bT (cM .list cg (ae 2) (aa (cL 691 624 (S "read") (ae 0) (aa (c2 au (ae 3) (af (.int 1))) ai)) ai)))
    aq)
    (ag (aO 4 (ak (af (.fn (.ref ej))) (aa (ae 0) (aa (c2 au (ae 3) (af (.int 2))) ai))))
    (ag (bT (cM .list cg (ae 2) (aa (cL 691 624 (S "read") (ae 0) (aa (c2 bb (c2 bb (c2 bb (c2 au (ae 3) (af (.int 1))) (af (.str (S "(")))) (ae 4)) (af (.str (S ")")))) ai)) ai)))
    aq)))
   aq))
  aq))
 aq)
def ek:CS:=
 (ag (aO 2 (dy ai))
 (ag (ic (toName 3) (ae 1) bV)
 (ag (aK (cM .str lV (af (.str (S ""))) (aa (ae 2) ai)))
 aq)))
def i0:CS:=
 (ag (aO 2 (c2 bb (c2 bb (c2 bb (c2 bb (af (.str (S "can't "))) (ae 0)) (af (.str (S " \"")))) (ae 1)) (af (.str (S "\": no such variable")))))
 (ag (aK (ak (af (.fn (.ref jK))) (aa (ae 2) (aa (aG (aa (af (.str (S "TCL"))) (aa (af (.str (S "LOOKUP"))) (aa (af (.str (S "VARNAME"))) (aa (ae 1) ai))))) ai))))
 aq))
def kz:CS:=
 (ag (bN (tE (c2 eX (ae 1) (ae 0)))
  (ag (eZ (ae 0) (ae 1) (oO 443 440))
  aq)
  aq)
 (ag (aK (c2 au (ae 0) (ae 1)))
 aq))
def qE:CS:=
 (ag (eN 443 (S "kind") (ae 0) (ae 1))
 (ag (eN 443 (S "value") (ae 0) (ae 2))
 (ag (eh 443 (S "writes") (ae 0) oJ (af (.int 1)))
 (ag (aK (ae 2))
 aq))))
def An:CS:=
 (ag (bN (tE (c1 bg (ae 3)))
  (ag (aK (ak (ae 2) (aa (ae 0) (aa (ae 1) ai))))
  aq)
  aq)
 (ag (aK (ak (ae 2) (aa (ae 0) (aa (ae 1) (aa (ae 3) ai)))))
 aq))
def bU:CS:=
 (ag (bT (cM .list cg (ae 3) (aa (ak (af (.fn (.ref b0))) (aa (ae 0) (aa (ae 4) ai))) ai)))
 aq)
def oS:CS:=
 (ag (aO 3 (dy ai))
 (ag (ic (toName 4) (ae 2) bU)
 (ag (aO 5 (ak (af (.fn (.ref eO))) (aa (ae 1) (aa (ae 3) ai))))
 (ag (bN (tE (c1 bg (ae 5)))
  (ag (aK (cL 691 511 (S "call") (ae 0) (aa (c2 bb (dy (aa (c2 bb (af (.str (S "tcl::mathfunc::"))) (ae 1)) ai)) (ae 3)) ai)))
  aq)
  aq)
 (ag (aK (ae 5))
 aq)))))
def bK:CS:=
 (ag (aO 2 (c2 au (ae 1) (af (.int 0))))
 (ag (bN (tE (c2 bQ (ae 2) (af (.str (S "num")))))
  (ag (aK (c1 iN (c2 au (ae 1) (af (.int 1)))))
  aq)
  aq)
 (ag (bN (tE (c2 bQ (ae 2) (af (.str (S "text")))))
  (ag (aK (c2 au (ae 1) (af (.int 1))))
  aq)
  aq)
 (ag (bN (tE (c2 bQ (ae 2) (af (.str (S "parts")))))
  (ag (aK (ak (af (.fn (.ref ej))) (aa (ae 0) (aa (c2 au (ae 1) (af (.int 1))) ai))))
  aq)
  aq)
 (ag (bN (tE (c2 bQ (ae 2) (af (.str (S "un")))))
  (ag (aK (ak (af (.fn (.ref kZ))) (aa (c2 au (ae 1) (af (.int 1))) (aa (ak (af (.fn (.ref b0))) (aa (ae 0) (aa (c2 au (ae 1) (af (.int 2))) ai))) ai))))
  aq)
  aq)
 (ag (bN (tE (c2 bQ (ae 2) (af (.str (S "if")))))
  (ag (bN (tE (ak (af (.fn (.ref cD))) (aa (ak (af (.fn (.ref b0))) (aa (ae 0) (aa (c2 au (ae 1) (af (.int 1))) ai))) ai)))
   (ag (aK (ak (af (.fn (.ref b0))) (aa (ae 0) (aa (c2 au (ae 1) (af (.int 2))) ai))))
   aq)
   aq)
  (ag (aK (ak (af (.fn (.ref b0))) (aa (ae 0) (aa (c2 au (ae 1) (af (.int 3))) ai))))
  aq))
  aq)
 (ag (aK (ak (af (.fn (.ref dm))) (aa (ae 0) (aa (c2 au (ae 1) (af (.int 1))) (aa (c2 au (ae 1) (af (.int 2))) ai)))))
 aq)))))))
def c7:CS:=
 (ag (aO 3 (c2 bQ (c2 au (ae 1) (af (.int 0))) (af (.str (S "or")))))
 (ag (aO 4 (ak (af (.fn (.ref cD))) (aa (ae 2) ai)))
 (ag (bN (tE (c2 we (ae 4) (ae 3)))
  (ag (aO 4 (ak (af (.fn (.ref cD))) (aa (ak (af (.fn (.ref b0))) (aa (ae 0) (aa (c2 au (ae 1) (af (.int 2))) ai))) ai)))
  aq)
  aq)
 (ag (aK (eL (tE (ae 4)) (af (.str (S "1"))) (af (.str (S "0")))))
 aq))))
def gc:CT:=
 (tE (c2 nF (c2 au (ae 1) (af (.int 0))) (aG (aa (af (.str (S "bin"))) (aa (af (.str (S "and"))) (aa (af (.str (S "or"))) ai))))))
def gf:CS:=
 (ag (bT (cM .list cg (ae 2) (aa (ae 1) ai)))
 (ag (aO 1 (eL (tE (c2 bQ (c2 au (ae 1) (af (.int 0))) (af (.str (S "bin"))))) (c2 au (ae 1) (af (.int 2))) (c2 au (ae 1) (af (.int 1)))))
 aq))
def dR:CT:=
 (tE (ae 2))
def dS:CS:=
 (ag (aO 4 (cM .list Bt (ae 2) ai))
 (ag (bN (tE (c2 bQ (c2 au (ae 4) (af (.int 0))) (af (.str (S "bin")))))
  (ag (aO 3 (ak (af (.fn (.ref mE))) (aa (c2 au (ae 4) (af (.int 1))) (aa (ae 3) (aa (ak (af (.fn (.ref b0))) (aa (ae 0) (aa (c2 au (ae 4) (af (.int 3))) ai))) ai)))))
  aq)
  (ag (aO 3 (ak (af (.fn (.ref kh))) (aa (ae 0) (aa (ae 4) (aa (ae 3) ai)))))
  aq))
 aq))
def rX:CS:=
 (ag (aO 2 (dy ai))
 (ag (mD gc gf)
 (ag (aO 3 (ak (af (.fn (.ref cV))) (aa (ae 0) (aa (ae 1) ai))))
 (ag (mD dR dS)
 (ag (aK (ae 3))
 aq)))))
def rY:CS:=
 (ag (aO 0 (dy (aa (af (.int 0)) (aa (af (.int 16)) (aa (af (.int 4)) (aa (af (.int 24)) (aa (af (.int 5)) (aa (af (.int 48)) (aa (af (.int 64)) (aa (af (.int 6)) ai))))))))))
 (ag (aO 0 (c2 bb (ae 0) (dy (aa (af (.int 40)) (aa (af (.int 8)) (aa (af (.int 5)) (aa (af (.int 131)) (aa (af (.int 215)) (aa (af (.int 39)) (aa (af (.int 7)) ai))))))))))
 (ag (aO 0 (c2 bb (ae 0) (dy (aa (af (.int 72)) (aa (af (.int 8)) (aa (af (.int 4)) (aa (af (.int 8)) (aa (af (.int 64)) (aa (af (.int 4)) (aa (af (.int 80)) (aa (af (.int 8)) (aa (af (.int 5)) ai))))))))))))
 (ag (aK (c2 bb (ae 0) (dy (aa (af (.int 139)) (aa (af (.int 64)) (aa (af (.int 99)) (aa (af (.int 6)) (aa (af (.int 16)) (aa (af (.int 47)) (aa (af (.int 32)) (aa (af (.int 56)) (aa (af (.int 31)) ai))))))))))))
 aq))))
def lh:CS:=
 (ag (aK (c2 au (aG (aa (aG (aa (af (.int 0)) (aa (af (.str (S "0"))) ai))) (aa (aG (aa (af (.int 0)) (aa (af (.str (S "1"))) ai))) (aa (aG (aa (af (.int 0)) (aa (af (.str (S "5"))) ai))) (aa (aG (aa (af (.int 0)) (aa (af (.str (S "yes"))) ai))) (aa (aG (aa (af (.int 0)) (aa (af (.str (S "oFF"))) ai))) (aa (aG (aa (af (.int 0)) (aa (af (.str (S " 0x0 "))) ai))) (aa (aG (aa (af (.int 0)) (aa (af (.str (S "-3"))) ai))) (aa (aG (aa (af (.int 0)) (aa (af (.str (S "n"))) ai))) (aa (aG (aa (af (.int 1)) (aa (af (.str (S "bad thing"))) ai))) (aa (aG (aa (af (.int 0)) (aa (af (.str (S "maybe"))) ai))) (aa (aG (aa (af (.int 3)) (aa (af (.str (S ""))) ai))) (aa (aG (aa (af (.int 2)) (aa (af (.str (S "5"))) ai))) (aa (aG (aa (af (.int 0)) (aa (af (.str (S ""))) ai))) (aa (aG (aa (af (.int 0)) (aa (af (.str (S "0"))) ai))) (aa (aG (aa (af (.int 0)) (aa (af (.str (S "1"))) ai))) (aa (aG (aa (af (.int 0)) (aa (af (.str (S "on"))) ai))) (aa (aG (aa (af (.int 0)) (aa (af (.str (S "f"))) ai))) (aa (aG (aa (af (.int 0)) (aa (af (.str (S "+7"))) ai))) (aa (aG (aa (af (.int 7)) (aa (af (.str (S "odd"))) ai))) (aa (aG (aa (af (.int 4)) (aa (af (.str (S "again"))) ai))) ai))))))))))))))))))))) (c2 gW (ae 0) (af (.int 20)))))
 aq)
def gm:CS:=
 (ag (bT (cM .list cg (c2 au (c1 (bA 691 (S "tools")) (ae 0)) (af (.str (S "log")))) (aa (ae 1) ai)))
 (ag (di [2,3] (c2 au (c2 au (c1 (bA 691 (S "tools")) (ae 0)) (af (.str (S "deeds")))) (ae 1)))
 (ag (bN (tE (c2 we (ae 2) (af (.int 0))))
  (ag (g' (ak (af (.fn (.ref 84))) (aa (ae 2) (aa (ae 3) (aa (aG (aa (af (.str (S "LAW"))) (aa (ae 1) ai))) (aa (eL (tE (c2 bQ (ae 2) (af (.int 2)))) (af (.int 1)) (af (.int 0))) ai))))))
  aq)
  aq)
 (ag (aK (ae 3))
 aq))))
def jM:CS:=
 (ag (bT (cM .list cg (c2 au (c1 (bA 691 (S "tools")) (ae 0)) (af (.str (S "log")))) (aa (cM .str lV (af (.str (S " "))) (aa (ae 1) ai)) ai)))
 (ag (aK (c2 bb (c2 au (ae 1) (af (.int 1))) (af (.str (S "1")))))
 aq))
def rZ:CS:=
 (ag (aK (aG (aa (af (.int 0)) (aa (ae 0) (aa (aG ai) (aa (af (.int 0)) ai))))))
 aq)
def qF:CS:=
 (ag (aK (aG (aa (af (.int 1)) (aa (ae 0) (aa (ae 1) (aa (af (.int 0)) ai))))))
 aq)
def gH:CS:=
 (ag (aO 2 (c2 bb (c2 kX (af (.int 10)) (ae 2)) (cM .str uW (af (.str (S "0123456789"))) (aa (ae 3) ai))))
 aq)
def iV:CS:=
 (ag (bN (tE (c2 bQ (ae 0) (af (.str (S " 0x0 ")))))
  (ag (aK (af (.int 0)))
  aq)
  aq)
 (ag (aO 1 (eL (tE (c2 nF (fD (ae 0) (af .none) (af (.int 1))) (aG (aa (af (.str (S "+"))) (aa (af (.str (S "-"))) ai))))) (fD (ae 0) (af (.int 1)) (af .none)) (ae 0)))
 (ag (bN (nd (tE (c2 bQ (ae 1) (af (.str (S ""))))) (oH (tE (c1 qY (cR [] (c2 nF (ae 0) (af (.str (S "0123456789")))) (ae 1))))))
  (ag (aK (af .none))
  aq)
  aq)
 (ag (aO 2 (af (.int 0)))
 (ag (ic (toName 3) (ae 1) gH)
 (ag (aK (eL (tE (c2 bQ (c2 au (ae 0) (af (.int 0))) (af (.str (S "-"))))) (c2 dT (af (.int 0)) (ae 2)) (ae 2)))
 aq))))))
def gn:CS:=
 (ag (aO 1 (ak (af (.fn (.ref cx))) (aa (ae 0) ai)))
 (ag (bN (tE (c1 eg (ae 1)))
  (ag (aK (c2 we (ae 1) (af (.int 0))))
  aq)
  aq)
 (ag (aK (cM .dict nX (ef [(S "yes"),(S "oFF"),(S "n"),(S "on"),(S "f"),(S "no")] (aa (af (.bool true)) (aa (af (.bool false)) (aa (af (.bool false)) (aa (af (.bool true)) (aa (af (.bool false)) (aa (af (.bool false)) ai))))))) (aa (ae 0) ai)))
 aq)))
def gI:CS:=
 (ag (aK (ak (af (.fn (.ref eB))) (aa (c2 bb (c2 bb (af (.str (S "expected boolean value but got \""))) (ae 0)) (af (.str (S "\"")))) (aa (aG (aa (af (.str (S "TCL"))) (aa (af (.str (S "VALUE"))) (aa (af (.str (S "BOOLEAN"))) ai)))) ai))))
 aq)
def fJ:CS:=
 (ag (aO 2 (eL (tE (c2 bQ (ae 1) (af (.str (S ""))))) (af (.str (S "empty string"))) (af (.str (S "non-numeric string")))))
 (ag (aO 3 (eL (tE (c2 bQ (ae 1) (af (.str (S ""))))) (ae 2) (c2 bb (c2 bb (c2 bb (ae 2) (af (.str (S " \"")))) (ae 1)) (af (.str (S "\""))))))
 (ag (aK (ak (af (.fn (.ref eB))) (aa (c2 bb (c2 bb (c2 bb (c2 bb (af (.str (S "can't use "))) (ae 3)) (af (.str (S " as operand of \"")))) (ae 0)) (af (.str (S "\"")))) (aa (aG (aa (af (.str (S "ARITH"))) (aa (af (.str (S "DOMAIN"))) (aa (ae 2) ai)))) ai))))
 aq)))
def fK:CS:=
 (ag (di [2,3] (ae 1))
 (ag (bN (tE (c2 bQ (ae 2) (af (.int 0))))
  (ag (aK (ak (af (.fn (.ref aZ))) (aa (ae 3) ai)))
  aq)
  aq)
 (ag (aK (aG (aa (ae 2) (aa (ae 3) (aa (aG (aa (af (.str (S "LAW"))) (aa (ae 0) ai))) (aa (eL (tE (c2 bQ (ae 2) (af (.int 2)))) (af (.int 1)) (af (.int 0))) ai))))))
 aq)))
def i4:CS:=
 (ag (aK (ak (af (.fn (.ref eB))) (aa (c2 bb (c2 bb (af (.str (S "can't read \""))) (ae 0)) (af (.str (S "\": no such variable")))) (aa (aG (aa (af (.str (S "TCL"))) (aa (af (.str (S "LOOKUP"))) (aa (af (.str (S "VARNAME"))) (aa (ae 0) ai))))) ai))))
 aq)
def bO:CS:=
 (ag (aO 3 (eL (tE (c2 bQ (ae 0) (af (.int 3)))) (c2 gW (ae 1) (af (.int 6))) (af (.int 6))))
 (ag (bN (tE (c2 bQ (ae 3) (af (.int 0))))
  (ag (aK (aG (aa (aG (aa (af (.str (S "num"))) (aa (c2 gW (c2 iz (ae 1) (af (.int 6))) (af (.int 3))) ai))) (aa (dy ai) (aa (ak (af (.fn (.ref aZ))) (aa (c1 iN (c2 gW (c2 iz (ae 1) (af (.int 6))) (af (.int 3)))) ai)) ai)))))
  aq)
  aq)
 (ag (bN (tE (c2 bQ (ae 3) (af (.int 1))))
  (ag (aO 4 (c2 au (aG (aa (af (.str (S "no"))) (aa (af (.str (S "maybe"))) (aa (af (.str (S "4"))) ai)))) (c2 gW (c2 iz (ae 1) (af (.int 6))) (af (.int 3)))))
  (ag (aK (aG (aa (aG (aa (af (.str (S "text"))) (aa (ae 4) ai))) (aa (dy ai) (aa (ak (af (.fn (.ref aZ))) (aa (ae 4) ai)) ai)))))
  aq))
  aq)
 (ag (bN (tE (c2 bQ (ae 3) (af (.int 2))))
  (ag (aK (aG (aa (aG (aa (af (.str (S "parts"))) (aa (aG (aa (aG (aa (af (.str (S "var"))) (aa (af (.str (S "v"))) (aa (af .none) ai)))) ai)) ai))) (aa (dy ai) (aa (ak (af (.fn (.ref aZ))) (aa (af (.str (S "1"))) ai)) ai)))))
  aq)
  aq)
 (ag (bN (tE (c2 bQ (ae 3) (af (.int 3))))
  (ag (aK (aG (aa (aG (aa (af (.str (S "parts"))) (aa (aG (aa (aG (aa (af (.str (S "text"))) (aa (af (.str (S "1"))) ai))) (aa (aG (aa (af (.str (S "var"))) (aa (af (.str (S "w"))) (aa (af .none) ai)))) ai))) ai))) (aa (dy ai) (aa (ak (af (.fn (.ref hY))) (aa (af (.str (S "w"))) ai)) ai)))))
  aq)
  aq)
 (ag (aO 5 (ak (af (.fn (.ref l8))) (aa (ae 2) (aa (ak (af (.fn (.ref eI))) (aa (eL (tE (c2 bQ (ae 0) (af (.int 3)))) (c2 iz (ae 1) (af (.int 6))) (ae 1)) ai)) ai))))
 (ag (bN (tE (c2 bQ (ae 3) (af (.int 4))))
  (ag (bN (tE (c2 bQ (c2 au (ae 5) (af (.int 0))) (af (.int 0))))
   (ag (aO 5 (ak (af (.fn (.ref aZ))) (aa (c2 bb (af (.str (S "1"))) (c2 au (ae 5) (af (.int 1)))) ai)))
   aq)
   aq)
  (ag (aK (aG (aa (aG (aa (af (.str (S "parts"))) (aa (aG (aa (aG (aa (af (.str (S "text"))) (aa (af (.str (S "1"))) ai))) (aa (aG (aa (af (.str (S "cmd"))) (aa (ae 2) ai))) ai))) ai))) (aa (dy (aa (ae 2) ai)) (aa (ae 5) ai)))))
  aq))
  aq)
 (ag (bN (tE (c2 bQ (ae 3) (af (.int 5))))
  (ag (bN (tE (c2 bQ (c2 au (ae 5) (af (.int 0))) (af (.int 0))))
   (ag (aO 6 (cM .dict nX (ef [(S "5"),(S "1")] (aa (af (.str (S "0"))) (aa (af (.str (S "yes"))) ai))) (aa (c2 au (ae 5) (af (.int 1))) ai)))
   (ag (aO 5 (eL (tE (c1 bg (ae 6))) (ak (af (.fn (.ref hY))) (aa (c2 bb (c2 bb (af (.str (S "a("))) (c2 au (ae 5) (af (.int 1)))) (af (.str (S ")")))) ai)) (ak (af (.fn (.ref aZ))) (aa (ae 6) ai))))
   aq))
   aq)
  (ag (aK (aG (aa (aG (aa (af (.str (S "parts"))) (aa (aG (aa (aG (aa (af (.str (S "var"))) (aa (af (.str (S "a"))) (aa (aG (aa (aG (aa (af (.str (S "cmd"))) (aa (ae 2) ai))) ai)) ai)))) ai)) ai))) (aa (dy (aa (ae 2) ai)) (aa (ae 5) ai)))))
  aq))
  aq)
 (ag (aK (aG (aa (aG (aa (af (.str (S "parts"))) (aa (aG (aa (aG (aa (af (.str (S "cmd"))) (aa (ae 2) ai))) ai)) ai))) (aa (dy (aa (ae 2) ai)) (aa (ae 5) ai)))))
 aq)))))))))
def cv:CS:=
 (ag (aO 1 (c2 bb (ae 1) (ae 3)))
 (ag (bN (tE (c2 we (c2 au (ae 4) (af (.int 0))) (af (.int 0))))
  (ag (aK (aG (aa (ae 1) (aa (ae 4) ai))))
  aq)
  aq)
 aq))
def fL:CS:=
 (ag (aO 1 (dy ai))
 (ag (ic (iP [2,3,4]) (ae 0) cv)
 (ag (aK (aG (aa (ae 1) (aa (af .none) ai))))
 aq)))
def gp:CS:=
 (ag (aO 2 (c2 au (c2 au (ae 1) (af (.int 0))) (af (.int 1))))
 (ag (aO 3 (c2 au (c2 au (ae 1) (af (.int 0))) (af (.int 2))))
 (ag (bN (tE (c2 we (c2 au (ae 3) (af (.int 0))) (af (.int 0))))
  (ag (aK (aG (aa (ae 2) (aa (ae 3) ai))))
  aq)
  aq)
 (ag (aO 4 (ak (af (.fn (.ref gj))) (aa (c2 au (ae 3) (af (.int 1))) ai)))
 (ag (bN (tE (c1 bg (ae 4)))
  (ag (aK (aG (aa (ae 2) (aa (ak (af (.fn (.ref jh))) (aa (c2 au (ae 3) (af (.int 1))) ai)) ai))))
  aq)
  aq)
 (ag (bN (tE (c2 bQ (ae 0) (af (.int 6))))
  (ag (aO 5 (eL (tE (ae 4)) (c2 au (ae 1) (af (.int 1))) (c2 au (ae 1) (af (.int 2)))))
  (ag (aK (aG (aa (c2 bb (ae 2) (c2 au (ae 5) (af (.int 1)))) (aa (c2 au (ae 5) (af (.int 2))) ai))))
  aq))
  aq)
 (ag (bN (tE (c2 bQ (ae 4) (c2 bQ (ae 0) (af (.int 5)))))
  (ag (aK (aG (aa (ae 2) (aa (ak (af (.fn (.ref aZ))) (aa (eL (tE (ae 4)) (af (.str (S "1"))) (af (.str (S "0")))) ai)) ai))))
  aq)
  aq)
 (ag (aO 2 (c2 bb (ae 2) (c2 au (c2 au (ae 1) (af (.int 1))) (af (.int 1)))))
 (ag (aO 3 (c2 au (c2 au (ae 1) (af (.int 1))) (af (.int 2))))
 (ag (bN (tE (c2 we (c2 au (ae 3) (af (.int 0))) (af (.int 0))))
  (ag (aK (aG (aa (ae 2) (aa (ae 3) ai))))
  aq)
  aq)
 (ag (aO 6 (ak (af (.fn (.ref gj))) (aa (c2 au (ae 3) (af (.int 1))) ai)))
 (ag (bN (tE (c1 bg (ae 6)))
  (ag (aK (aG (aa (ae 2) (aa (ak (af (.fn (.ref jh))) (aa (c2 au (ae 3) (af (.int 1))) ai)) ai))))
  aq)
  aq)
 (ag (aK (aG (aa (ae 2) (aa (ak (af (.fn (.ref aZ))) (aa (eL (tE (ae 6)) (af (.str (S "1"))) (af (.str (S "0")))) ai)) ai))))
 aq)))))))))))))
def gq:CS:=
 (ag (aO 2 (ak (af (.fn (.ref gj))) (aa (ae 1) ai)))
 (ag (aO 3 (ak (af (.fn (.ref cx))) (aa (ae 1) ai)))
 (ag (bN (jC (tE (c2 bQ (ae 0) (af (.str (S "!"))))) (tE (c1 eg (ae 2))))
  (ag (aK (ak (af (.fn (.ref aZ))) (aa (eL (tE (ae 2)) (af (.str (S "0"))) (af (.str (S "1")))) ai)))
  aq)
  aq)
 (ag (bN (jC (tE (c2 bQ (ae 0) (af (.str (S "-"))))) (tE (c1 eg (ae 3))))
  (ag (aK (ak (af (.fn (.ref aZ))) (aa (c1 iN (c2 dT (af (.int 0)) (ae 3))) ai)))
  aq)
  aq)
 (ag (aK (ak (af (.fn (.ref fE))) (aa (ae 0) (aa (ae 1) ai))))
 aq)))))
def fM:CS:=
 (ag (aO 3 (ak (af (.fn (.ref cx))) (aa (ae 1) ai)))
 (ag (aO 4 (ak (af (.fn (.ref cx))) (aa (ae 2) ai)))
 (ag (bN (tE (c2 bQ (ae 0) (af (.str (S "eq")))))
  (ag (aK (ak (af (.fn (.ref aZ))) (aa (eL (tE (c2 bQ (ae 1) (ae 2))) (af (.str (S "1"))) (af (.str (S "0")))) ai)))
  aq)
  aq)
 (ag (bN (tE (c2 nF (ae 0) (aG (aa (af (.str (S "=="))) (aa (af (.str (S "<"))) ai)))))
  (ag (bN (nd (tE (c1 bg (ae 3))) (tE (c1 bg (ae 4))))
   (ag (aK (ak (af (.fn (.ref aZ))) (aa (eL (tE (eL (tE (c2 bQ (ae 0) (af (.str (S "=="))))) (c2 bQ (ae 1) (ae 2)) (c2 kq (ae 1) (ae 2)))) (af (.str (S "1"))) (af (.str (S "0")))) ai)))
   aq)
   aq)
  (ag (aK (ak (af (.fn (.ref aZ))) (aa (eL (tE (eL (tE (c2 bQ (ae 0) (af (.str (S "=="))))) (c2 bQ (ae 3) (ae 4)) (c2 kq (ae 3) (ae 4)))) (af (.str (S "1"))) (af (.str (S "0")))) ai)))
  aq))
  aq)
 (ag (bN (nd (tE (c1 bg (ae 3))) (tE (c1 bg (ae 4))))
  (ag (aK (ak (af (.fn (.ref fE))) (aa (ae 0) (aa (eL (tE (c1 bg (ae 3))) (ae 1) (ae 2)) ai))))
  aq)
  aq)
 (ag (aK (ak (af (.fn (.ref aZ))) (aa (c1 iN (c2 au (ef [(S "+"),(S "-"),(S "*")] (aa (c2 bb (ae 3) (ae 4)) (aa (c2 dT (ae 3) (ae 4)) (aa (c2 kX (ae 3) (ae 4)) ai)))) (ae 0))) ai)))
 aq))))))
def cI:CS:=
 (ag (bN (tE (c1 bg (ak (af (.fn (.ref cx))) (aa (ae 1) ai))))
  (ag (aK (ak (af (.fn (.ref eB))) (aa (c2 bb (c2 bb (af (.str (S "expected number but got \""))) (ae 1)) (af (.str (S "\"")))) (aa (aG (aa (af (.str (S "TCL"))) (aa (af (.str (S "VALUE"))) (aa (af (.str (S "NUMBER"))) ai)))) ai))))
  aq)
  aq)
 aq)
def fx:CS:=
 (ag (ic (toName 1) (ae 0) cI)
 (ag (aK (ak (af (.fn (.ref aZ))) (aa (c1 iN (c1 oM (cR [] (ak (af (.fn (.ref cx))) (aa (ae 0) ai)) (ae 0)))) ai)))
 aq))
def gr:CS:=
 (ag (aO 2 (c1 kc (cR [] (c2 au (ae 0) (af (.int 0))) (ae 1))))
 (ag (aO 3 (cR [] (c2 au (c2 au (ae 0) (af (.int 2))) (af (.int 1))) (ae 1)))
 (ag (di [4,5] (ak (af (.fn (.ref iQ))) (aa (ae 1) ai)))
 (ag (aO 6 (c2 gW (ae 0) (af (.int 6))))
 (ag (bN (tE (c2 kq (ae 6) (af (.int 2))))
  (ag (aO 7 (c2 au (aG (aa (af (.str (S "!"))) (aa (af (.str (S "-"))) ai))) (ae 6)))
  (ag (aK (aG (aa (aG (aa (af (.str (S "un"))) (aa (ae 7) (aa (c2 au (ae 2) (af (.int 0))) ai)))) (aa (ae 4) (aa (eL (tE (c1 bg (ae 5))) (ak (af (.fn (.ref ft))) (aa (ae 7) (aa (c2 au (ae 3) (af (.int 0))) ai))) (ae 5)) ai)))))
  aq))
  aq)
 (ag (bN (tE (c2 bQ (ae 6) (af (.int 2))))
  (ag (aO 7 (c2 au (aG (aa (af (.str (S "+"))) (aa (af (.str (S "-"))) (aa (af (.str (S "*"))) (aa (af (.str (S "=="))) (aa (af (.str (S "<"))) (aa (af (.str (S "eq"))) ai))))))) (c2 gW (c2 iz (ae 0) (af (.int 6))) (af (.int 6)))))
  (ag (aK (aG (aa (aG (aa (af (.str (S "bin"))) (aa (ae 7) (aa (c2 au (ae 2) (af (.int 0))) (aa (c2 au (ae 2) (af (.int 1))) ai))))) (aa (ae 4) (aa (eL (tE (c1 bg (ae 5))) (ak (af (.fn (.ref fF))) (aa (ae 7) (aa (c2 au (ae 3) (af (.int 0))) (aa (c2 au (ae 3) (af (.int 1))) ai)))) (ae 5)) ai)))))
  aq))
  aq)
 (ag (aO 8 (c2 au (aG (aa (af (.str (S "max"))) (aa (af (.str (S "twice"))) (aa (af (.str (S "nope"))) ai)))) (c2 dT (ae 6) (af (.int 3)))))
 (ag (bN (tE (c1 eg (ae 5)))
  (ag (aK (aG (aa (aG (aa (af (.str (S "call"))) (aa (ae 8) (aa (ae 2) ai)))) (aa (ae 4) (aa (ae 5) ai)))))
  aq)
  aq)
 (ag (aO 9 (c2 bb (af (.str (S "tcl::mathfunc::"))) (ae 8)))
 (ag (bN (tE (c2 bQ (ae 6) (af (.int 3))))
  (ag (aK (aG (aa (aG (aa (af (.str (S "call"))) (aa (ae 8) (aa (ae 2) ai)))) (aa (ae 4) (aa (ak (af (.fn (.ref o8))) (aa (ae 3) ai)) ai)))))
  aq)
  aq)
 (ag (bN (tE (c2 bQ (ae 6) (af (.int 4))))
  (ag (aK (aG (aa (aG (aa (af (.str (S "call"))) (aa (ae 8) (aa (ae 2) ai)))) (aa (c2 bb (ae 4) (dy (aa (cM .str lV (af (.str (S " "))) (aa (c2 bb (dy (aa (ae 9) ai)) (ae 3)) ai)) ai))) (aa (ak (af (.fn (.ref aZ))) (aa (c2 bb (c2 au (ae 3) (af (.int 0))) (af (.str (S "1")))) ai)) ai)))))
  aq)
  aq)
 (ag (aO 10 (ak (af (.fn (.ref eB))) (aa (c2 bb (c2 bb (af (.str (S "invalid command name \""))) (ae 9)) (af (.str (S "\"")))) (aa (aG (aa (af (.str (S "TCL"))) (aa (af (.str (S "LOOKUP"))) (aa (af (.str (S "COMMAND"))) (aa (ae 9) ai))))) ai))))
 (ag (aK (aG (aa (aG (aa (af (.str (S "call"))) (aa (ae 8) (aa (ae 2) ai)))) (aa (ae 4) (aa (ae 10) ai)))))
 aq)))))))))))))
def lj:CS:=
 (ag (bN (tE (c2 kq (ae 0) (af (.int 4))))
  (ag (aK (af (.int 0)))
  aq)
  aq)
 (ag (bN (tE (c2 bQ (ae 0) (af (.int 6))))
  (ag (aK (af (.int 3)))
  aq)
  aq)
 (ag (bN (nd (tE (c2 kq (ae 0) (af (.int 6)))) (tE (c2 nF (c2 gW (ae 1) (af (.int 6))) (aG (aa (af (.int 2)) (aa (af (.int 3)) ai))))))
  (ag (aK (af (.int 2)))
  aq)
  aq)
 (ag (aK (eL (tE (c2 kq (c2 gW (ae 1) (af (.int 6))) (af (.int 2)))) (af (.int 1)) (c2 bb (af (.int 1)) (c2 gW (c2 iz (ae 1) (af (.int 6))) (af (.int 2))))))
 aq))))
def eS:CS:=
 (ag (di [2,3,4] (ae 1))
 (ag (eZ (c1 (bA 691 (S "tools")) (ae 0)) (af (.str (S "log"))) (dy ai))
 (ag (q0 6 (ag (aO 5 (ak (af (.fn (.ref aZ))) (aa (ak (af (.fn (.ref b0))) (aa (ae 0) (aa (ae 2) ai))) ai)))
  aq)
  (ag (aO 5 (aG (aa (c1 (gE (S "code")) (ae 6)) (aa (c1 (gE (S "value")) (ae 6)) (aa (c1 (gE (S "errorcode")) (ae 6)) (aa (c1 (gE (S "level")) (ae 6)) ai))))))
  aq))
 (ag (aK (wk (c2 bQ (ae 5) (ae 4)) (wk (c2 bQ (c2 au (c1 (bA 691 (S "tools")) (ae 0)) (af (.str (S "log")))) (ae 3)) (c2 bQ (c1 (bA 691 (S "depth")) (ae 0)) (af (.int 0))))))
 aq))))
def jN:CS:=
 (ag (aO 5 (c2 bb (c2 au (ae 1) (ae 4)) (eL (tE (c2 kq (ae 4) (c1 eY (ae 0)))) (c2 au (ae 0) (ae 4)) (af (.int 0)))))
 (ag (aO 6 (c2 gW (ae 5) (af (.int 8))))
 (ag (aO 7 (c2 iz (ae 5) (af (.int 8))))
 (ag (aO 8 (ak (af (.fn (.ref o9))) (aa (ae 6) (aa (ae 7) ai))))
 (ag (bN (nd (tE (c2 kq (ae 6) (af (.int 4)))) (tE (c2 yl (ae 8) (c1 eY (ae 3)))))
  (ag (aO 9 (c2 bb (af (.str (S "s"))) (c1 iN (ae 4))))
  (ag (eZ (c2 au (c1 (bA 691 (S "tools")) (ae 2)) (af (.str (S "deeds")))) (ae 9) (ak (af (.fn (.ref eI))) (aa (eL (tE (c2 bQ (ae 6) (af (.int 3)))) (c2 iz (ae 7) (af (.int 6))) (ae 7)) ai)))
  (ag (bT (cM .list cg (ae 3) (aa (aG (aa (ak (af (.fn (.ref ji))) (aa (ae 6) (aa (ae 7) (aa (ae 9) ai)))) (aa (af (.int 0)) ai))) ai)))
  (ag wx
  aq))))
  aq)
 (ag (aO 10 (c2 bb (af (.int 1)) (c1 oM (cR [] (c2 au (ae 0) (af (.int 1))) (dG (ae 3) (c2 dT (c1 eY (ae 3)) (ae 8)) (af .none))))))
 (ag (aO 11 (cR [] (c2 au (ae 0) (af (.int 0))) (dG (ae 3) (c2 dT (c1 eY (ae 3)) (ae 8)) (af .none))))
 (ag (aO 3 (dG (ae 3) (af .none) (c2 dT (c1 eY (ae 3)) (ae 8))))
 (ag (bN (tE (c2 bQ (ae 6) (af (.int 7))))
  (ag (aO 12 (ak (af (.fn (.ref fu))) (aa (ae 7) (aa (ae 11) ai))))
  aq)
  (ag (di [13,14] (ak (af (.fn (.ref fq))) (aa (ae 6) (aa (ae 11) ai))))
  (ag (aO 12 (aG (aa (c2 bb (aG (aa (c2 au (aG (aa (af (.str (S "and"))) (aa (af (.str (S "or"))) (aa (af (.str (S "if"))) ai)))) (c2 dT (ae 6) (af (.int 4)))) ai)) (c1 kc (cR [] (c2 au (ae 0) (af (.int 0))) (ae 11)))) (aa (ae 13) (aa (ae 14) ai)))))
  aq)))
 (ag (bN (jC (tE (c2 kq (ae 10) (af (.int 14)))) (nd (tE (c2 bQ (c2 au (c2 au (ae 12) (af (.int 2))) (af (.int 0))) (af (.int 0)))) (tE (c2 bQ (c2 gW (c2 iz (ae 5) (af (.int 40))) (af (.int 3))) (af (.int 2))))))
  (ag (bT (cM .list cg (ae 3) (aa (aG (aa (ae 12) (aa (ae 10) ai))) ai)))
  aq)
  (ag (bN (oH (tE (ak (af (.fn (.ref cH))) (aa (ae 2) (aa (ae 12) ai)))))
   (ag (aK (af (.bool false)))
   aq)
   aq)
  aq))
 aq))))))))))
def Si:CS:=
 (ag (aO 0 (dG (ae 0) (af .none) (af (.int 63))))
 (ag (aO 1 (ak (af (.fn (.ref o7))) ai))
 (ag (aO 2 (oO 691 589))
 (ag (eZ (c1 (bA 691 (S "tools")) (ae 2)) (af (.str (S "run"))) (af (.fn (.ref d7))))
 (ag (eZ (c1 (bA 691 (S "tools")) (ae 2)) (af (.str (S "deeds"))) (ef [] ai))
 (ag (bT (cL 691 660 (S "put") (ae 2) (aa (af (.str (S "tcl::mathfunc::twice"))) (aa (af (.fn (.ref cN))) ai))))
 (ag (bT (cL 691 631 (S "write") (ae 2) (aa (af (.str (S "v"))) (aa (af (.str (S "1"))) ai))))
 (ag (bT (cL 691 631 (S "write") (ae 2) (aa (af (.str (S "a(5)"))) (aa (af (.str (S "0"))) ai))))
 (ag (bT (cL 691 631 (S "write") (ae 2) (aa (af (.str (S "a(1)"))) (aa (af (.str (S "yes"))) ai))))
 (ag (aO 3 (dy ai))
 (ag (qD 4 (c1 eY (ae 1)) jN)
 (ag (aK (c1 qY (cR [2] (ak (af (.fn (.ref cH))) (aa (ae 1) (aa (c2 au (ae 0) (af (.int 0))) ai))) (ae 3))))
 aq))))))))))))
def oV:CS:=
 (ag (bN (tE (c2 eX (ae 1) (c1 (bA 691 (S "tools")) (ae 0))))
  da
  aq)
 (ag (aK (c2 au (c1 (bA 691 (S "tools")) (ae 0)) (ae 1)))
 aq))
def nh:CS:=
 (ag (eh 691 (S "spent") (ae 0) oJ (af (.int 1)))
 (ag (bN (jC (tE (c1 eg (c1 (bA 691 (S "fuel")) (ae 0)))) (tE (c2 yl (c1 (bA 691 (S "spent")) (ae 0)) (c1 (bA 691 (S "fuel")) (ae 0)))))
  da
  aq)
 aq))
def ll:CS:=
 (ag (bN (tE (c2 Kd (c1 (bA 691 (S "depth")) (ae 0)) (c1 (bA 691 (S "limit")) (ae 0))))
  (ag (g' (ak (af (.fn (.ref jK))) (aa (af (.str (S "too many nested evaluations (infinite loop?)"))) (aa (aG (aa (af (.str (S "TCL"))) (aa (af (.str (S "LIMIT"))) (aa (af (.str (S "STACK"))) ai)))) ai))))
  aq)
  aq)
 (ag (aO 2 (cL 691 476 (S "tool") (ae 0) (aa (af (.str (S "run"))) ai)))
 (ag (eh 691 (S "depth") (ae 0) oJ (af (.int 1)))
 (ag (iO (ag (aK (ak (ae 2) (aa (ae 0) (aa (ae 1) ai))))
  aq)
  (ag (eh 691 (S "depth") (ae 0) dT (af (.int 1)))
  aq))
 aq))))
def ie:CS:=
 (ag (bN (oH (tE (ae 1)))
  (ag (aK (af (.str (S ""))))
  aq)
  aq)
 (ag (aO 2 (cL 691 688 (S "begin") (ae 0) (aa (ae 1) ai)))
 (ag (bN (tE (c1 (ro 105) (ae 2)))
  da
  aq)
 (ag (bN (tE (c1 (ro 126) (ae 2)))
  (ag (g' (ak (af (.fn (.ref jK))) (aa (af (.str (S "cannot yield: C stack busy"))) (aa (aG (aa (af (.str (S "TCL"))) (aa (af (.str (S "COROUTINE"))) (aa (af (.str (S "CANT_YIELD"))) ai)))) ai))))
  aq)
  aq)
 (ag (aK (ae 2))
 aq)))))
def ni:CS:=
 (ag (aK (ak (af (.fn (.ref wy))) (aa (c1 (bA 691 (S "vars")) (ae 0)) (aa (ae 1) ai))))
 aq)
def fN:CS:=
 (ag (bN (tE (c2 bQ (c1 (bA 443 (S "kind")) (ae 1)) (af (.str (S "none")))))
  (ag (g' (ak (af (.fn (.ref nJ))) (aa (af (.str (S "read"))) (aa (ae 2) ai))))
  aq)
  aq)
 (ag (aK (c1 (bA 443 (S "value")) (ae 1)))
 aq))
def nK:CS:=
 (ag (aK (ak (af (.fn (.ref wz))) (aa (ae 1) (aa (af (.str (S "scalar"))) (aa (ae 3) ai)))))
 aq)
def oW:CS:=
 (ag (aK (cL 691 610 (S "read_var") (ae 0) (aa (cL 691 603 (S "place") (ae 0) (aa (ae 1) ai)) (aa (ae 1) ai))))
 aq)
def ua:CS:=
 (ag (aK (cL 691 617 (S "write_var") (ae 0) (aa (cL 691 603 (S "place") (ae 0) (aa (ae 1) ai)) (aa (ae 1) (aa (ae 2) ai)))))
 aq)
def Ao:CS:=
 (ag (bT (cL 691 667 (S "remove") (ae 0) (aa (ae 1) ai)))
 (ag (eZ (c1 (bA 691 (S "commands")) (ae 0)) (ae 1) (aG (aa (ae 2) (aa (ae 3) ai))))
 aq))
def s6:CS:=
 (ag (bT (cM .dict wu (c1 (bA 691 (S "commands")) (ae 0)) (aa (ae 1) (aa (af .none) ai))))
 (ag (bT (cM .dict wu (c1 (bA 691 (S "firsts")) (ae 0)) (aa (ae 1) (aa (af .none) ai))))
 (ag (bN (tE (c2 nF (ae 1) (c1 (bA 691 (S "inline")) (ae 0))))
  (ag (eh 691 (S "epoch") (ae 0) oJ (af (.int 1)))
  aq)
  aq)
 aq)))
def gu:CS:=
 (ag (bN (tE (c2 eX (c2 au (ae 1) (af (.int 0))) (c1 (bA 691 (S "commands")) (ae 0))))
  (ag (g' (ak (af (.fn (.ref jK))) (aa (c2 bb (c2 bb (af (.str (S "invalid command name \""))) (c2 au (ae 1) (af (.int 0)))) (af (.str (S "\"")))) (aa (aG (aa (af (.str (S "TCL"))) (aa (af (.str (S "LOOKUP"))) (aa (af (.str (S "COMMAND"))) (aa (c2 au (ae 1) (af (.int 0))) ai))))) ai))))
  aq)
  aq)
 (ag (bT (cL 691 483 (S "spend") (ae 0) ai))
 (ag (di [2,3] (c2 au (c1 (bA 691 (S "commands")) (ae 0)) (c2 au (ae 1) (af (.int 0)))))
 (ag (aK (ak (af (.fn (.ref Ke))) (aa (ae 0) (aa (ae 1) (aa (ae 2) (aa (ae 3) ai))))))
 aq))))
def oX:CS:=
 (ag (eN 691 (S "tools") (ae 0) (ef [] ai))
 (ag (eN 691 (S "inline") (ae 0) (ef [] ai))
 (ag (eN 691 (S "limit") (ae 0) (ae 1))
 (ag (eN 691 (S "fuel") (ae 0) (ae 2))
 (ag (eN 691 (S "depth") (ae 0) (af (.int 0)))
 (ag (eN 691 (S "spent") (ae 0) (af (.int 0)))
 (ag (eN 691 (S "epoch") (ae 0) (af (.int 0)))
 (ag (eN 691 (S "frame") (ae 0) (af .none))
 (ag (eN 691 (S "coroutine") (ae 0) (af .none))
 aq)))))))))
def i5:CS:=
 (ag (bT (uV 535 (S "__init__") 469 (aa (ae 0) (aa (ae 1) (aa (ae 2) ai)))))
 (ag (eN 691 (S "vars") (ae 0) (ef [] ai))
 (ag (eN 691 (S "commands") (ae 0) (ef [] ai))
 (ag (eN 691 (S "firsts") (ae 0) (ef [] ai))
 aq))))
def rz:CS:=
 (ag (eN 443 (S "kind") (ae 0) (af (.str (S "none"))))
 (ag (eN 443 (S "value") (ae 0) (af (.str (S ""))))
 (ag (eN 443 (S "traces") (ae 0) (dy ai))
 (ag (eN 443 (S "is_busy") (ae 0) (af (.bool false)))
 (ag (eN 443 (S "is_element") (ae 0) (af (.bool false)))
 (ag (eN 443 (S "writes") (ae 0) (af (.int 0)))
 aq))))))
def defs:List (Nat×Def):=[
 (139,⟨2,[.tup [.str (S "NONE")]],2,Am⟩),
 (174,⟨1,[],1,rV⟩),
 (181,⟨1,[],2,rx⟩),
 (188,⟨2,[],5,fv⟩),
 (195,⟨1,[],1,ng⟩),
 (202,⟨1,[],6,hR⟩),
 (209,⟨1,[],4,j4⟩),
 (216,⟨1,[],2,gk⟩),
 (223,⟨1,[],1,jL⟩),
 (300,⟨2,[],4,dI⟩),
 (307,⟨2,[],3,j5⟩),
 (314,⟨2,[],4,hZ⟩),
 (356,⟨3,[],3,iT⟩),
 (363,⟨2,[],2,iU⟩),
 (370,⟨2,[],4,l9⟩),
 (377,⟨2,[],2,rW⟩),
 (384,⟨3,[],6,fw⟩),
 (391,⟨0,[],0,dJ⟩),
 (398,⟨1,[],2,du⟩),
 (412,⟨2,[],2,fH⟩),
 (426,⟨2,[],7,cy⟩),
 (454,⟨2,[],5,ek⟩),
 (546,⟨2,[],3,i0⟩),
 (553,⟨2,[],2,kz⟩),
 (560,⟨3,[],3,qE⟩),
 (574,⟨4,[],4,An⟩),
 (700,⟨3,[],6,oS⟩),
 (707,⟨2,[],3,bK⟩),
 (714,⟨3,[],5,c7⟩),
 (721,⟨2,[],5,rX⟩),
 (728,⟨0,[],1,rY⟩),
 (735,⟨1,[],1,lh⟩),
 (742,⟨2,[],4,gm⟩),
 (749,⟨2,[],2,jM⟩),
 (756,⟨1,[],1,rZ⟩),
 (763,⟨2,[],2,qF⟩),
 (768,⟨1,[],4,iV⟩),
 (775,⟨1,[],2,gn⟩),
 (782,⟨1,[],1,gI⟩),
 (789,⟨2,[],4,fJ⟩),
 (796,⟨2,[],4,fK⟩),
 (803,⟨1,[],1,i4⟩),
 (810,⟨3,[],7,bO⟩),
 (817,⟨1,[],5,fL⟩),
 (824,⟨2,[],7,gp⟩),
 (831,⟨2,[],4,gq⟩),
 (838,⟨3,[],5,fM⟩),
 (843,⟨1,[],2,fx⟩),
 (848,⟨2,[],11,gr⟩),
 (855,⟨2,[],2,lj⟩),
 (862,⟨2,[],7,eS⟩),
 (476,⟨2,[],2,oV⟩),
 (483,⟨1,[],1,nh⟩),
 (497,⟨2,[],3,ll⟩),
 (511,⟨2,[],3,ie⟩),
 (603,⟨2,[],2,ni⟩),
 (610,⟨3,[],3,fN⟩),
 (617,⟨4,[],4,nK⟩),
 (624,⟨2,[],2,oW⟩),
 (631,⟨3,[],3,ua⟩),
 (660,⟨4,[.none],4,Ao⟩),
 (667,⟨2,[],2,s6⟩),
 (688,⟨2,[],4,gu⟩),
 (469,⟨3,[.int 40,.none],3,oX⟩),
 (589,⟨3,[.int 40,.none],3,i5⟩),
 (440,⟨1,[],1,rz⟩)]
noncomputable def ah:Nat->g8
 |0=>fun _ _ _=>none
 |n+1=>fun a XS H=>if a=84 then(if n=0 then none else Aj XS H) else match defs.lookup a with
  |some d=>if XS.length<=d.par/\d.par<=XS.length+d.jJ.length then dj d.loc d.body (ah n) (XS++d.jJ.drop (XS.length+d.jJ.length-d.par)) H else none
  |none=>none
theorem Ap:ah (n+1) a XS H=(if a=84 then(if n=0 then none else Aj XS H) else match defs.lookup a with
  |some d=>if XS.length<=d.par/\d.par<=XS.length+d.jJ.length then dj d.loc d.body (ah n) (XS++d.jJ.drop (XS.length+d.jJ.length-d.par)) H else none
  |none=>none):=rfl
section
variable{a b:CS}{o:g8}{L L1:Loc}{H H1:MH}{p:MV}{k:Nat}{t:CT}
theorem aF(h:a o L H=some (.next L1 H1)):ag a b o L H=b o L1 H1:=by unfold ag;rw[h]
theorem aE(h:a o L H=some (.ret p L1 H1)):ag a b o L H=some (.ret p L1 H1):=by unfold ag;rw[h]
theorem cu(h:a o L H=some (.exc k L1 H1)):ag a b o L H=some (.exc k L1 H1):=by unfold ag;rw[h]
theorem yI(h:a o L H=some (.cont L1 H1)):ag a b o L H=some (.cont L1 H1):=by unfold ag;rw[h]
theorem aB(h:t o L H=some (.val true H1)):bN t a b o L H=a o L H1:=by unfold bN aW;rw[h];rfl
theorem aw(h:t o L H=some (.val false H1)):bN t a b o L H=b o L H1:=by unfold bN aW;rw[h];rfl
theorem Hy(h:a o (XS.map some++List.replicate (q9-XS.length) none) H=some (.ret p L1 H1)):dj q9 a o XS H=some (.val p H1):=by unfold dj;rw[h]
theorem Hz(h:a o (XS.map some++List.replicate (q9-XS.length) none) H=some (.exc k L1 H1)):dj q9 a o XS H=some (.exc k H1):=by unfold dj;rw[h]
theorem HA(h:a o (XS.map some++List.replicate (q9-XS.length) none) H=some (.next L1 H1)):dj q9 a o XS H=some (.val .none H1):=by unfold dj;rw[h]
end
noncomputable def aR(r:Option RS):Res MV->Prop
 |.val p H=>(∃L,r=some (.ret p L H))\/(p=.none/\∃L,r=some (.next L H))
 |.exc k H=>∃L,r=some (.exc k L H)
theorem aP(h:aR (a o (XS.map some++List.replicate (q9-XS.length) none) H) z):dj q9 a o XS H=some z:=by
 cases z with
 |val p H1=>
  rcases h with ⟨L,h⟩|⟨rfl,L,h⟩
  ·exact Hy h
  ·exact HA h
 |exc k H1=>obtain⟨L,h⟩:=h;exact Hz h
section
variable{a b:CS}{o:g8}{L L1:Loc}{H H1:MH}{p:MV}{k:Nat}{t:CT}{z:Res MV}
theorem aj(h:a o L H=some (.next L1 H1))(h2:aR (b o L1 H1) z):aR (ag a b o L H) z:=by rw[aF h];exact h2
theorem aL(h:a o L H=some (.ret p L1 H1)):aR (ag a b o L H) (.val p H1):=.inl ⟨L1,aE h⟩
theorem dA(h:a o L H=some (.exc k L1 H1)):aR (ag a b o L H) (.exc k H1):=⟨L1,cu h⟩
theorem DT:aR (aq o L H) (.val .none H):=.inr ⟨rfl,L,rfl⟩
end
theorem dp(h:e o L H=some (.val (.bool v) H1)):tE e o L H=some (.val v H1):=by unfold tE;rw[h];rfl
theorem ba(ha:a o L H=some (.val x H1))(hb:b o L H1=some (.val y H2)):c2 f a b o L H=f x y H2:=by
 unfold c2;simp only[ha,hb,bindR]
theorem d0(ha:a o L H=some (.val x H1))(hf:f x H1=some (.val y H1)):c1 f a o L H=some (.val y H1):=by
 unfold c1;rw[ha];exact hf
section
variable{a b c d:CE}{o:g8}{L:Loc}{H H1 H2 H3 H4:MH}{x y z u:MV}{f:Addr}
theorem bh(ha:a o L H=some (.val x H1)):ak (af (.fn (.ref f))) (aa a ai) o L H=o f [x] H1:=by
 unfold ak aa ai af;simp only[bindR,ha]
theorem call2(ha:a o L H=some (.val x H1))(hb:b o L H1=some (.val y H2)):ak (af (.fn (.ref f))) (aa a (aa b ai)) o L H=o f [x,y] H2:=by
 unfold ak aa ai af;simp only[bindR,ha,hb]
theorem s7(ha:a o L H=some (.val x H1))(hb:b o L H1=some (.val y H2))(hc:c o L H2=some (.val z H3)):ak (af (.fn (.ref f))) (aa a (aa b (aa c ai))) o L H=o f [x,y,z] H3:=by
 unfold ak aa ai af;simp only[bindR,ha,hb,hc]
theorem jE(ha:a o L H=some (.val x H1))(hb:b o L H1=some (.val y H2)):aG (aa a (aa b ai)) o L H=some (.val (.tup [x,y]) H2):=by
 unfold aG aa ai;simp only[bindR,ha,hb,bo,cS,Nat.reduceAdd,d9,Nat.reduceLeDiff,c9]
theorem mc(ha:a o L H=some (.val x H1))(hb:b o L H1=some (.val y H2))(hc:c o L H2=some (.val z H3)):aG (aa a (aa b (aa c ai))) o L H=some (.val (.tup [x,y,z]) H3):=by
 unfold aG aa ai;simp only[bindR,ha,hb,hc,bo,cS,Nat.reduceAdd,d9,Nat.reduceLeDiff,c9]
theorem yJ(ha:a o L H=some (.val x H1))(hb:b o L H1=some (.val y H2))(hc:c o L H2=some (.val z H3))(hd:d o L H3=some (.val u H4)):aG (aa a (aa b (aa c (aa d ai)))) o L H=some (.val (.tup [x,y,z,u]) H4):=by
 unfold aG aa ai;simp only[bindR,ha,hb,hc,hd,bo,cS,Nat.reduceAdd,d9,Nat.reduceLeDiff,c9]
theorem aI(h:a o L H=some (.val p H1)):aK a o L H=some (.ret p L H1):=by unfold aK;rw[h];rfl
theorem rA(h:a o L H=some (.exc k H1)):aK a o L H=some (.exc k L H1):=by unfold aK;rw[h];rfl
theorem aJ(h:a o L H=some (.val p H1)):aO i a o L H=some (.next (L.set i (some p)) H1):=by unfold aO;rw[h];rfl
theorem fg(h:a o L H=some (.exc k H1)):aO i a o L H=some (.exc k L H1):=by unfold aO;rw[h];rfl
end
section
variable{a b c:CE}{t u:CT}{o:g8}{L:Loc}{H H1:MH}{x y:MV}{v:Bool}{f:P2}{p:MV}
theorem OG(ha:a o L H=some (.val x H))(hb:b o L H=some (.val y H))(h1:f x y H=some (.val (.bool true) H))(hc:c o L H=some (.val z H)):lW f g a b c o L H=g y z H:=by unfold lW;simp only[ha,hb,hc,h1,bindR]
theorem OH(ha:a o L H=some (.val x H))(hb:b o L H=some (.val y H))(h1:f x y H=some (.val (.bool false) H)):lW f g a b c o L H=some (.val (.bool false) H):=by unfold lW;simp only[ha,hb,h1,bindR]
theorem dB(ha:a o L H=some (.val x H))(hb:b o L H=some (.val y H))(h:f x y H=some (.val (.bool v) H)):tE (c2 f a b) o L H=some (.val v H):=dp ((ba ha hb).trans h)
theorem qb(h1:t o L H=some (.val true H))(h2:u o L H=some (.val v H1)):jC t u o L H=some (.val v H1):=by unfold jC;rw[h1];exact h2
theorem uY(h1:t o L H=some (.val false H)):jC t u o L H=some (.val false H):=by unfold jC;rw[h1];rfl
theorem Kf(h1:t o L H=some (.val true H)):nd t u o L H=some (.val true H):=by unfold nd;rw[h1];rfl
theorem DU(h1:t o L H=some (.val false H))(h2:u o L H=some (.val v H1)):nd t u o L H=some (.val v H1):=by unfold nd;rw[h1];exact h2
theorem Uw(ha:a o L H=some (.val p H))(hb:b o L H=some (.val x H))(hc:c o L H=some (.val y H)):fD a b c o L H=nf x y p H:=by unfold fD;simp only[ha,hb,hc,bindR]
end
theorem QZ(hob:ob o L H=some (.val p H))(hb:jD b p H=true)(ha:a o L H=some (.val q H1)):cM b f ob (aa a ai) o L H=f p [q] H1:=by
 unfold cM;rw[hob];simp only[aa,ai,ha,bindR,hb,c9]
theorem fU(h:t o L H=some (.val true H1)):eL t a b o L H=a o L H1:=by unfold eL;rw[h];rfl
theorem eT(h:t o L H=some (.val false H1)):eL t a b o L H=b o L H1:=by unfold eL;rw[h];rfl
theorem UZ(hob:ob o L H=some (.val p H))(hb:jD b p H=true)(ha:a o L H=some (.exc k H1)):cM b f ob (aa a ai) o L H=some (.exc k H1):=by
 unfold cM;rw[hob];simp only[aa,ai,ha,bindR,hb,c9]
theorem OI(hob:ob o L H=some (.val p H1))(hb:jD b p H1=true)(ha:a o L H1=some (.val q H2)):cM b f ob (aa a ai) o L H=f p [q] H2:=by
 unfold cM;rw[hob];simp only[aa,ai,ha,bindR,hb,c9]
theorem Aq(h:e o L H=some (.val p H1)):bT e o L H=some (.next L H1):=by unfold bT;rw[h];rfl
theorem DV(h:e o L H=some (.exc k H1)):bT e o L H=some (.exc k L H1):=by unfold bT;rw[h];rfl
theorem s8{j2:MV->Loc->Option Loc}(h:it o L H=some (.val p H1))(hs:srcOf p H1=some src):ic j2 it b o L H=ei j2 b many src o L H1:=by
 unfold ic;rw[h];show(match srcOf p H1 with
  |some src=>ei j2 b many src o L H1
  |none=>none)=_
 rw[hs]
theorem lq(ha:a o L H=some (.val x H1))(hr:r o L H1=some (.val xs H2)):aa a r o L H=some (.val (x::xs) H2):=by
 unfold aa;rw[ha];show bindR (r o L H1) _=_;rw[hr];rfl
theorem HB(h:t o L H=some (.val v H1)):oH t o L H=some (.val (!v) H1):=by unfold oH;rw[h];rfl
theorem aD(h1:a≠84)(h:defs.lookup a=some d)(hl:XS.length<=d.par/\d.par<=XS.length+d.jJ.length):
  ah (n+1) a XS H=dj d.loc d.body (ah n) (XS++d.jJ.drop (XS.length+d.jJ.length-d.par)) H:=by
 show(if a=84 then _ else _)=_;rw[if_neg h1,h];exact if_pos hl
noncomputable abbrev ch(x:Nat):Str:=⟨#[x]⟩
theorem Ar(x y:Nat):(ch x==ch y)=decide (x=y):=by
 rw[pV,eG,dh];exact⟨fun h=>by injection h with h;simpa using h,fun h=>by rw[h]⟩
theorem nj:S " "=ch 32/\S "\t"=ch 9/\S "\n"=ch 10/\S "\x0b"=ch 11/\S "\x0c"=ch 12/\S "\r"=ch 13/\S "x"=ch 120/\S "X"=ch 88/\S "o"=ch 111/\S "O"=ch 79/\S "b"=ch 98/\S "B"=ch 66/\S "d"=ch 100/\S "D"=ch 68/\S "+"=ch 43/\S "-"=ch 45/\S "0"=ch 48/\S "1"=ch 49:=by ac_rfl
theorem DW(x y z:Nat)(H:MH):nF (.str (ch x)) (.tup [.str (ch y),.str (ch z)]) H=some (.val (.bool (decide (x=y\/x=z))) H):=by
 show some (Res.val (MV.bool (ch x==ch y||(ch x==ch z||false))) H)=_;rw[Ar,Ar,Bool.or_false,Bool.decide_or]
theorem DX(x y:Nat)(H:MH):bQ (.str (ch x)) (.str (ch y)) H=some (.val (.bool (decide (x=y))) H):=by
 show some (Res.val (MV.bool (ch x==ch y)) H)=_;rw[Ar]
noncomputable def gg(x:Nat):Bool:=x==32||(x==9||(x==10||(x==11||(x==12||(x==13||false)))))
theorem qG:ah (n+1) nZ [.str (ch x)] H=some (.val (.bool (gg x)) H):=by
 obtain⟨e1,e2,e3,e4,e5,e6,-⟩:=nj;rw[aD (by decide) rfl ⟨ao _,ao _⟩];show some (Res.val (MV.bool (ch x==S " "||(ch x==S "\t"||(ch x==S "\n"||(ch x==S "\x0b"||(ch x==S "\x0c"||(ch x==S "\r"||false))))))) H)=_;rw[e1,e2,e3,e4,e5,e6];simp only[Ar];rfl
noncomputable def cJ(x:Nat):Int:=if 48<=x/\x<=57 then(x:Int)-48 else if 97<=x/\x<=122 then(x:Int)-87 else if 65<=x/\x<=90 then(x:Int)-55 else -1
theorem between{a b x:Nat}{i:Nat}{o:g8}{L:Loc}{H:MH}(hL:ae i o L H=some (.val (.int x) H)):tE (lW DP DP (af (.int a)) (ae i) (af (.int b))) o L H=some (.val (decide (a<=x/\x<=b)) H):=by
 by_cases h:a<=x
 ·refine dp ((OG rfl hL (aY (fun b=>some (Res.val (MV.bool b) H)) (cO (fS.mpr h))) rfl).trans ?_);exact aY (fun b=>some (Res.val (MV.bool b) H)) (decide_eq_decide.mpr (show(x:Int)<=(b:Int)↔(a<=x/\x<=b) from⟨fun q=>⟨h,fS.mp q⟩,fun q=>fS.mpr q.2⟩))
 ·rw[cz (fun q:a<=x/\x<=b=>h q.1)];exact dp (OH rfl hL (aY (fun b=>some (Res.val (MV.bool b) H)) (cz (fun q=>h (fS.mp q)))))
theorem wF{n:Nat}{x:Nat}{H:MH}:ah (n+1) Al [.str (ch x)] H=some (.val (.int (cJ x)) H):=by
 rw[aD (by decide) rfl ⟨ao _,ao _⟩];refine aP ?_;show aR (rx (ah n) [some (.str (ch x)),none] H) _;unfold rx cJ;refine aj (L1:=_) (H1:=H) rfl (aj (L1:=[some (.str (ch x)),some (.int x)]) (H1:=H) rfl ?_);have b1:=between (a:=48) (b:=57) (x:=x) (i:=1) (o:=ah n) (L:=[some (.str (ch x)),some (.int x)]) (H:=H) rfl;have b2:=between (a:=97) (b:=122) (x:=x) (i:=1) (o:=ah n) (L:=[some (.str (ch x)),some (.int x)]) (H:=H) rfl;have b3:=between (a:=65) (b:=90) (x:=x) (i:=1) (o:=ah n) (L:=[some (.str (ch x)),some (.int x)]) (H:=H) rfl;by_cases h1:48<=x/\x<=57
 ·rw[cO h1]at b1;rw[if_pos h1];exact aL ((aB b1).trans (aE (aI rfl)))
 rw[cz h1]at b1;rw[if_neg h1];refine aj (aw b1) ?_;by_cases h2:97<=x/\x<=122
 ·rw[cO h2]at b2;rw[if_pos h2];exact aL ((aB b2).trans (aE (aI rfl)))
 rw[cz h2]at b2;rw[if_neg h2];refine aj (aw b2) ?_;by_cases h3:65<=x/\x<=90
 ·rw[cO h3]at b3;rw[if_pos h3];exact aL ((aB b3).trans (aE (aI rfl)))
 rw[cz h3]at b3;rw[if_neg h3];exact aj (aw b3) (aL (L1:=_) (aI rfl))
theorem fO{j2:MV->Loc->Option Loc}(h:dM src H=some none):ei j2 b (N+1) src o L H=some (.next L H):=by
 show(match dM src H with|none=>none|some none=>_|some (some (x,src))=>_)=_;rw[h]
theorem dz{j2:MV->Loc->Option Loc}(h:dM src H=some (some (x,gX)))(ht:j2 x L=some L1):ei j2 b (N+1) src o L H=match b o L1 H with
  |some (.next L H)=>ei j2 b N gX o L H
  |some (.cont L H)=>ei j2 b N gX o L H
  |r=>r:=by
 show(match dM src H with|none=>none|some none=>_|some (some (x,src))=>_)=_;rw[h];dsimp only;rw[ht]
 try rfl
theorem fy(h:t o L H=some (.val c H1)):f5 t b (N+1) o L H=if c then(match b o L H1 with
  |some (.next L H)=>f5 t b N o L H
  |some (.cont L H)=>f5 t b N o L H
  |r=>r) else some (.next L H1):=by
 show Mine.Internal.aW (t o L H) L _=_;rw[h];rfl
theorem s9(h:t o L H=some (.val false H1)):f5 t b (N+1) o L H=some (.next L H1):=by rw[fy h];rfl
theorem sb(h:t o L H=some (.val true H))(hb:b o L H=some (.next L1 H1)):f5 t b (N+1) o L H=f5 t b N o L1 H1:=by rw[fy h,hb];rfl
theorem DY{j2:MV->Loc->Option Loc}(h:dM src H=some (some (x,gX)))(ht:j2 x L=some L1)(hb:b o L1 H=some (.next L2 H2)):ei j2 b (N+1) src o L H=ei j2 b N gX o L2 H2:=by rw[dz h ht,hb]
theorem HD{j2:MV->Loc->Option Loc}(h:dM src H=some (some (x,gX)))(ht:j2 x L=some L1)(hb:b o L1 H=some (.exc k L2 H2)):ei j2 b (N+1) src o L H=some (.exc k L2 H2):=by rw[dz h ht,hb]
theorem Ux{j2:MV->Loc->Option Loc}(h:dM src H=some (some (x,gX)))(ht:j2 x L=some L1)(hb:b o L1 H=some (.ret p L2 H2)):ei j2 b (N+1) src o L H=some (.ret p L2 H2):=by rw[dz h ht,hb]
noncomputable abbrev tx(l:List Nat):Str:=⟨l.toArray⟩
theorem hS(l:List Nat):(tx l).length=l.length:=by show(l.toArray).size=_;simp
set_option tactic.hygienic true in
theorem Kg(l:List Nat)(i:Nat):wq (tx l) i=ch (l.getD i 0):=by
 show(⟨#[l.toArray.getD i 0]⟩:Str)=⟨#[l.getD i 0]⟩
 congr 2
 simp[Array.getD,List.getD]
 split<;>rename_i h
 ·rw[oF h];rfl
 ·rw[jV (by exact R9 h)];rfl
theorem kA:dM (.str (tx l) i) H=if i<l.length then some (some (MV.str (ch (l.getD i 0)),Src.str (tx l) (i+1))) else some none:=by
 show(if i<(tx l).length then some (some (MV.str (wq (tx l) i),Src.str (tx l) (i+1))) else some none)=_;rw[hS,Kg]
noncomputable def iW(base:Int):Int->List Nat->Option Int
 |acc,[]=>some acc
 |acc,c::r=>if cJ c<0\/base<=cJ c then none else iW base (acc*base+cJ c) r
theorem HE{n:Nat}{base:Int}{t:MV}{l:List Nat}{H:MH}(hb:2<=base/\base<=16)(hl:l.length<=1000):∀(r:List Nat) (i:Nat) (acc:Int) (c d:Option MV) (N:Nat),l.drop i=r->acc.natAbs<16^i->r.length<N->
  (∃a' c' d',ei (toName 3) fG N (.str (tx l) i) (ah (n+1)) [some t,some (.int base),some (.int acc),c,d] H=match iW base acc r with
   |some v=>some (.next [some t,some (.int base),some (.int v),c',d'] H)
   |none=>some (.ret .none [some t,some (.int base),a',c',d'] H)):=by
 intro r
 induction r with
 |nil=>
  intro i acc c d N hr ha hN;obtain⟨N,rfl⟩:∃M,N=M+1:=⟨N-1,by simp at hN;exact nE hN⟩
  refine⟨none,c,d,?_⟩;rw[fO (by rw[kA,if_neg (by have:=aY List.length hr;simp at this;exact KQ this)])];rfl
 |cons x r ih=>
  intro i acc c d N hr ha hN;obtain⟨N,rfl⟩:∃M,N=M+1:=⟨N-1,by simp at hN;exact pX hN⟩
  have hi:i<l.length:=by have:=aY List.length hr;simp at this;exact KR this
  have hx:l.getD i 0=x:=by
   have:l[i]?=some x:=by have:=aY (·[0]?) hr;simpa using this
   rw[List.getD,this];rfl
  have hr':l.drop (i+1)=r:=by
   rw[<-jZ,hr];rfl
  have m1:acc.natAbs<2^6000:=cF ha (by
   rw[show(16:Nat)=2^4 from rfl,<-Nat.pow_mul];exact eD (by decide) (by exact Ra hl hi))
  have m2:base.natAbs<2^6000:=cF (show base.natAbs<2^5 by exact Rb hb) (eD (by decide) (by decide));rw[dz (L1:=[some t,some (.int base),some (.int acc),some (.str (ch x)),d]) (by rw[kA,if_pos hi,hx]) rfl];have e1:kX (.int acc) (.int base)=fun H=>some (.val (.int (acc*base)) H):=by funext H;unfold kX;dsimp only;rw[if_pos ⟨m1,m2⟩]
  by_cases hc:cJ x<0\/base<=cJ x
  ·refine⟨some (.int acc),some (.str (ch x)),some (.int (cJ x)),?_⟩;have hd:iW base acc (x::r)=none:=if_pos hc;have ht:(nd (tE (c2 kq (ae 4) (af (.int 0)))) (tE (c2 Kd (ae 4) (ae 1)))) (ah (n+1)) [some t,some (.int base),some (.int acc),some (.str (ch x)),some (.int (cJ x))] H=some (.val true H):=by
    by_cases h1:cJ x<0
    ·exact Kf (dB rfl rfl (aY (fun b=>some (Res.val (MV.bool b) H)) (cO h1)))
    ·exact DU (dB rfl rfl (aY (fun b=>some (Res.val (MV.bool b) H)) (cz h1))) (dB rfl rfl (aY (fun b=>some (Res.val (MV.bool b) H)) (cO (hc.resolve_left h1))))
   have hb:fG (ah (n+1)) [some t,some (.int base),some (.int acc),some (.str (ch x)),d] H=some (.ret .none [some t,some (.int base),some (.int acc),some (.str (ch x)),some (.int (cJ x))] H):=
    (aF (L1:=[some t,some (.int base),some (.int acc),some (.str (ch x)),some (.int (cJ x))]) (aJ ((bh rfl).trans wF))).trans (aE ((aB ht).trans (aE (aI rfl))))
   rw[hd,hb]
  ·have h1:¬ cJ x<0:=fun h=>hc (.inl h)
   have h2:¬ base<=cJ x:=fun h=>hc (.inr h)
   have OJ:(acc*base+cJ x).natAbs<16^(i+1):=by
    have a1:acc.natAbs+1<=16^i:=ha;have a2:(acc*base).natAbs<=acc.natAbs*16:=by
     rw[Int.natAbs_mul];exact cZ _ (by exact Rc hb)
    have a3:(cJ x).natAbs<=15:=by exact JU hb hc
    have a4:=Int.natAbs_add_le (acc*base) (cJ x);rw[Nat.pow_succ];exact Rd hb ha hc a2 a4
   obtain⟨a',c',d',h⟩:=ih (i+1) (acc*base+cJ x) (some (.str (ch x))) (some (.int (cJ x))) N hr' OJ (by simp at hN;exact JV hN);refine⟨a',c',d',?_⟩;rw[show iW base acc (x::r)=iW base (acc*base+cJ x) r from if_neg hc,<-h];have ht:(nd (tE (c2 kq (ae 4) (af (.int 0)))) (tE (c2 Kd (ae 4) (ae 1)))) (ah (n+1)) [some t,some (.int base),some (.int acc),some (.str (ch x)),some (.int (cJ x))] H=some (.val false H):=
    DU (dB rfl rfl (aY (fun b=>some (Res.val (MV.bool b) H)) (cz h1))) (dB rfl rfl (aY (fun b=>some (Res.val (MV.bool b) H)) (cz h2)))
   have hb:fG (ah (n+1)) [some t,some (.int base),some (.int acc),some (.str (ch x)),d] H=some (.next [some t,some (.int base),some (.int (acc*base+cJ x)),some (.str (ch x)),some (.int (cJ x))] H):=
    (aF (L1:=[some t,some (.int base),some (.int acc),some (.str (ch x)),some (.int (cJ x))]) (aJ ((bh rfl).trans wF))).trans ((aF ((aw ht).trans rfl)).trans ((aF (aJ ((ba ((ba rfl rfl).trans (congrFun e1 H)) rfl).trans rfl))).trans rfl))
   rw[hb]
def yK(base:Int)(l:List Nat):Option Int:=if l=[] then none else iW base 0 l
noncomputable def hU:Option Int->MV
 |some i=>.int i
 |none=>.none
theorem OK(l:List Nat):(tx l==S "")=decide (l=[]):=by
 have:S ""=tx []:=by ac_rfl
 rw[this,pV,eG,dh];exact⟨fun h=>by injection h with h;simpa using h,fun h=>by rw[h]⟩
theorem lX(hb:2<=base/\base<=16)(hl:l.length<=1000):ah (n+2) fp [.str (tx l),.int base] H=some (.val (hU (yK base l)) H):=by
 rw[aD (by decide) rfl ⟨ao _,ao _⟩];obtain⟨a',c',d',h⟩:=HE (n:=n) (t:=.str (tx l)) (H:=H) hb hl l 0 0 none none many (by simp) (by decide) (by show l.length<1000000;exact ku hl rfl);have e0:bQ (.str (tx l)) (.str (S ""))=fun H=>some (Res.val (MV.bool (decide (l=[]))) H):=by
  funext H;show some (Res.val (MV.bool (tx l==S "")) H)=_;rw[OK]
 unfold yK;by_cases hl0:l=[]
 ·subst hl0;have e1:bQ (.str (tx [])) (.str (S ""))=fun H=>some (Res.val (MV.bool true) H):=e0
  simp only[dj,ag,aq,aK,bN,aW,bindR,c2,ae,af,tE,dF,eM,bo,cS,cT,kU,nS,jb,bp,List.drop_nil,rN,List.replicate_zero,Nat.reduceAdd,Nat.reduceSub,c9,fv,e1,hU]
 ·cases hd:iW base 0 l with
  |none=>rw[hd]at h;simp only[dj,ag,aq,aO,aK,bN,aW,bindR,c2,ae,af,tE,dF,eM,List.set_cons_zero,List.set_cons_succ,bo,cS,cT,kU,nS,jb,bp,List.drop_nil,rN,List.replicate_zero,Nat.reduceAdd,Nat.reduceSub,if_false,pQ,fv,e0,hl0,decide_false,ic,srcOf,h,hU]
  |some v=>rw[hd]at h;simp only[dj,ag,aq,aO,aK,bN,aW,bindR,c2,ae,af,tE,dF,eM,iH,List.set_cons_zero,List.set_cons_succ,bo,cS,cT,kU,nS,jb,bp,List.drop_nil,rN,List.replicate_zero,Nat.reduceAdd,Nat.reduceSub,if_false,pQ,fv,e0,hl0,decide_false,ic,srcOf,h,hU]
noncomputable def jj(x:Nat):Int:=if x=120\/x=88 then 16 else if x=111\/x=79 then 8 else if x=98\/x=66 then 2 else if x=100\/x=68 then 10 else 0
theorem yL:ah (n+1) qa [.str (ch x)] H=some (.val (.int (jj x)) H):=by
 obtain⟨-,-,-,-,-,-,e1,e2,e3,e4,e5,e6,e7,e8,-⟩:=nj;rw[aD (by decide) rfl ⟨ao _,ao _⟩];refine aP ?_;show aR (ng (ah n) [some (.str (ch x))] H) _;unfold ng jj;have two:∀y z,tE (c2 nF (ae 0) (aG (aa (af (.str (ch y))) (aa (af (.str (ch z))) ai)))) (ah n) [some (.str (ch x))] H=some (.val (decide (x=y\/x=z)) H):=fun y z=>dB rfl rfl (DW x y z H)
 rw[e1,e2,e3,e4,e5,e6,e7,e8];by_cases h1:x=120\/x=88
 ·rw[if_pos h1];exact aL ((aB ((two 120 88).trans (by rw[cO h1]))).trans (aE (aI rfl)))
 rw[if_neg h1];refine aj (aw ((two 120 88).trans (by rw[cz h1]))) ?_;by_cases h2:x=111\/x=79
 ·rw[if_pos h2];exact aL ((aB ((two 111 79).trans (by rw[cO h2]))).trans (aE (aI rfl)))
 rw[if_neg h2];refine aj (aw ((two 111 79).trans (by rw[cz h2]))) ?_;by_cases h3:x=98\/x=66
 ·rw[if_pos h3];exact aL ((aB ((two 98 66).trans (by rw[cO h3]))).trans (aE (aI rfl)))
 rw[if_neg h3];refine aj (aw ((two 98 66).trans (by rw[cz h3]))) ?_;by_cases h4:x=100\/x=68
 ·rw[if_pos h4];exact aL ((aB ((two 100 68).trans (by rw[cO h4]))).trans (aE (aI rfl)))
 rw[if_neg h4];exact aj (aw ((two 100 68).trans (by rw[cz h4]))) (aL (L1:=_) (aI rfl))
theorem qc{l:List Nat}{i:Nat}{x:Nat}{H:MH}(h:l[i]?=some x):au (.str (tx l)) (.int i) H=some (.val (.str (ch x)) H):=by
 have hi:i<l.length:=(cm.mp h).1;show(if(0:Int)<=i/\(i:Int)<(tx l).length then some (Res.val (MV.str (wq (tx l) (i:Int).toNat)) H) else none)=_;rw[if_pos ⟨by exact D5,by rw[hS];exact Rf hi⟩,Int.toNat_natCast,Kg,List.getD,h];rfl
theorem OL{l:List Nat}{i j:Nat}{H:MH}(hi:i<=l.length)(hj:j<=l.length):nf (.int i) (.int j) (.str (tx l)) H=some (.val (.str (tx ((l.drop i).take (j-i)))) H):=by
 show some (Res.val (MV.str ⟨(je (some (i:Int)) (some (j:Int)) (tx l).cps.toList).toArray⟩) H)=_;unfold je;have e:(tx l).cps.toList=l:=by simp
 have c1:clipAt l.length (i:Int)=i:=by unfold clipAt;rw[if_neg (by exact D6)];exact D7 hi
 have c2:clipAt l.length (j:Int)=j:=by unfold clipAt;rw[if_neg (by exact D6)];exact D7 hj
 rw[e];show some (Res.val (MV.str (tx _)) H)=_;rw[show(some (i:Int)).elim 0 (clipAt l.length)=i from c1,show(some (j:Int)).elim l.length (clipAt l.length)=j from c2]
noncomputable def HF:List Nat->Int
 |x::r=>if x=48 then(match r with|y::_::_=>jj y|_=>0) else 0
 |[]=>0
def mF(c:List Nat):Option Int:=
 let neg:=match c with|x::_=>x==45| []=>false
 let body:=match c with|x::r=>if x=43\/x=45 then r else c| []=> []
 let bs:=HF body
 let v:=if 0<bs then yK bs (body.drop 2) else yK 10 body
 v.map fun z=>if neg then -z else z
section
variable{n:Nat}{T:Str}{lo hi:Int}{x:Nat}{H:MH}{e:List (Option MV)}
theorem HG{a b:CE}{o:g8}{L:Loc}(ha:a o L H=some (.val (.int lo) H))(hb:b o L H=some (.val (.int hi) H)):tE (c2 kq a b) o L H=some (.val (decide (lo<hi)) H):=dB ha hb rfl
theorem V7(h:¬ lo<hi):iR (ah n) (some (.str T)::some (.int lo)::some (.int hi)::e) H=some (.val false H):=uY ((HG rfl rfl).trans (by rw[cz h]))
theorem Sj(h:lo<hi)(hx:au (.str T) (.int lo) H=some (.val (.str (ch x)) H)):iR (ah (n+1)) (some (.str T)::some (.int lo)::some (.int hi)::e) H=some (.val (gg x) H):=
 qb ((HG rfl rfl).trans (by rw[cO h])) (dp ((bh ((ba rfl rfl).trans hx)).trans qG))
theorem V8(h:¬ lo<hi):iS (ah n) (some (.str T)::some (.int lo)::some (.int hi)::e) H=some (.val false H):=uY ((HG rfl rfl).trans (by rw[cz h]))
theorem Sk(h:lo<hi)(hx:au (.str T) (.int (hi-1)) H=some (.val (.str (ch x)) H)):iS (ah (n+1)) (some (.str T)::some (.int lo)::some (.int hi)::e) H=some (.val (gg x) H):=
 qb ((HG rfl rfl).trans (by rw[cO h])) (dp ((bh ((ba rfl rfl).trans hx)).trans qG))
end
theorem wG{n:Nat}{p r:List Nat}{H:MH}{e:List (Option MV)}{t:MV}(hp:∀x∈p,gg x=true)(hr:∀x,r.head?=some x->gg x=false):∀(m i N:Nat),p.length=i+m->m<N->
  f5 iR oQ N (ah (n+1)) (some (.str (tx (p++r)))::some (.int i)::some (.int (p++r).length)::e) H=some (.next (some (.str (tx (p++r)))::some (.int p.length)::some (.int (p++r).length)::e) H):=by
 have XY:(p++r).length=p.length+r.length:=bJ;intro m
 induction m with
 |zero=>
  intro i N hi hN;obtain⟨N,rfl⟩:∃M,N=M+1:=⟨N-1,by exact nE hN⟩
  have hi:i=p.length:=by exact Rg hi
  subst hi;refine s9 ?_;cases r with
  |nil=>exact V7 (by rw[XY,cS];exact Rh)
  |cons x r=>exact(Sj (x:=x) (by rw[XY,bo];exact JW) (qc (by simp))).trans (by rw[hr x rfl])
 |succ m ih=>
  intro i N hi hN;obtain⟨N,rfl⟩:∃M,N=M+1:=⟨N-1,by exact pX hN⟩
  obtain⟨x,hx⟩:∃x,p[i]?=some x:=⟨p[i],oF (by exact JX hi)⟩
  have hx':(p++r)[i]?=some x:=by rw[iG (by exact JX hi)];exact hx
  exact(sb ((Sj (by exact Rk XY hi) (qc hx')).trans (by rw[hp x (d8 hx)])) rfl).trans (ih (i+1) N (by exact Rl hi) (by exact jI hN))
theorem wH{n:Nat}{c q:List Nat}{f:Nat}{H:MH}{e:List (Option MV)}(hq:∀x∈q,gg x=true)(hf:(f<c.length/\∀x,c.getLast?=some x->gg x=false)\/(f=c.length/\q=[])):∀(m N:Nat),m<=q.length->m<N->
  f5 iS oR N (ah (n+1)) (some (.str (tx (c++q)))::some (.int f)::some (.int ((c.length+m:Nat):Int))::e) H=some (.next (some (.str (tx (c++q)))::some (.int f)::some (.int c.length)::e) H):=by
 intro m
 induction m with
 |zero=>
  intro N hm hN;obtain⟨N,rfl⟩:∃M,N=M+1:=⟨N-1,by exact nE hN⟩
  refine s9 ?_;rcases hf with ⟨hf,hc⟩|⟨hf,_⟩
  ·obtain⟨x,hx⟩:∃x,c[c.length-1]?=some x:=⟨_,oF (Rm hf)⟩
   have e:((c.length:Int)-1)=((c.length-1:Nat):Int):=by exact Rn hf
   exact(Sk (x:=x) (by exact Ro hf) (by
    rw[Nat.add_zero,e];exact qc (by rw[iG (by exact Rp e)];exact hx))).trans (by rw[hc x (by rw[List.getLast?_eq_getElem?];exact hx)])
  ·exact V8 (by exact Rq hf)
 |succ m ih=>
  intro N hm hN;obtain⟨N,rfl⟩:∃M,N=M+1:=⟨N-1,by exact pX hN⟩
  have hq0:q≠ []:=by intro h;rw[h]at hm;simp at hm
  have hf':f<c.length:=by rcases hf with ⟨hf,_⟩|⟨_,hf⟩;exact hf;exact absurd hf hq0
  obtain⟨x,hx⟩:∃x,q[m]?=some x:=⟨q[m],oF (by exact Rt hm)⟩
  have e1:(((c.length+(m+1):Nat):Int)-1)=((c.length+m:Nat):Int):=by exact Ru
  refine(sb ((Sk (x:=x) (by exact Oz hf') ?_).trans (by rw[hq x (d8 hx)])) (L1:=some (.str (tx (c++q)))::some (.int f)::some (.int ((c.length+m:Nat):Int))::e) (H1:=H) ?_).trans (ih N (by exact Ah hm) (by exact jI hN))
  ·rw[e1];exact qc (by rw[ib (by exact D8),wi];exact hx)
  ·rw[<-e1];rfl
def jO(bd:List Nat):Option Int:=
 let bs:=HF bd
 if 0<bs then yK bs (bd.drop 2) else yK 10 bd
theorem wI(x:Nat):jj x=0\/(2<=jj x/\jj x<=16):=by
 by_cases h:x<121
 ·exact(by ac_rfl:∀x,x<121->(jj x=0\/(2<=jj x/\jj x<=16))) x h
 ·obtain⟨m,rfl⟩:=Nat.exists_eq_add_of_le' (mq h);exact .inl rfl
theorem wJ{bd:List Nat}(h:bd.length<=2\/∀r,bd≠48::r):jO bd=yK 10 bd:=by
 have:HF bd=0:=by
  rcases bd with _|⟨x,_|⟨y,_|⟨z,r⟩⟩⟩
  ·rfl
  ·exact ite_self _
  ·exact ite_self _
  ·exact if_neg fun e=>h.elim (fun h=>absurd h (by simp)) fun h=>h _ (by rw[e])
 unfold jO;rw[this];rfl
theorem By(y z:Nat)(r:List Nat):jO (48::y::z::r)=if 0<jj y then yK (jj y) (z::r) else yK 10 (48::y::z::r):=rfl
theorem Bz(c:List Nat):mF c=match c with
  |[]=>none
  |x::r=>if x=43\/x=45 then(jO r).map fun z=>if x==45 then -z else z else jO c:=by
 cases c with
 |nil=>rfl
 |cons x r=>
  unfold mF jO;dsimp only;by_cases h:x=43\/x=45
  ·rw[if_pos h,if_pos h]
  ·rw[if_neg h,if_neg h];have:(x==45)=false:=by simp;exact Rv h
   simp only[this,pQ,if_false];exact Option.map_id'
theorem jP(x:Nat)(r:List Nat):mF (x::r)=if x=43\/x=45 then(jO r).map fun z=>if x==45 then -z else z else jO (x::r):=Bz _
theorem Sl{α:Type}{l:List α}(h:¬ l.length<=2):∃x y z r,l=x::y::z::r:=by
 rcases l with _|⟨x,_|⟨y,_|⟨z,r⟩⟩⟩
 ·exact absurd (eW 2) h
 ·exact absurd (jc 1) h
 ·exact absurd (ao 2) h
 ·exact⟨x,y,z,r,rfl⟩
def Wd:CS:=(ag (bN (tE (c1 bg (ae 5)))
  (ag (aK (af .none))
  aq)
  aq)
 (ag (aK (eL (tE (ae 3)) (c1 qX (ae 5)) (ae 5)))
 aq))
def We:CS:=(ag (bN (tE (c2 yl (ae 4) (af (.int 0))))
  (ag (aO 5 (ak (af (.fn (.ref fp))) (aa (fD (ae 0) (c2 bb (ae 1) (af (.int 2))) (ae 2)) (aa (ae 4) ai))))
  aq)
  (ag (aO 5 (ak (af (.fn (.ref fp))) (aa (fD (ae 0) (ae 1) (ae 2)) (aa (af (.int 10)) ai))))
  aq)) Wd)
def WQ:CS:=(ag (aO 4 (af (.int 0)))
 (ag (bN (jC (tE (c2 yl (c2 dT (ae 2) (ae 1)) (af (.int 2)))) (tE (c2 bQ (c2 au (ae 0) (ae 1)) (af (.str (S "0"))))))
  (ag (aO 4 (ak (af (.fn (.ref qa))) (aa (c2 au (ae 0) (c2 bb (ae 1) (af (.int 1)))) ai)))
  aq)
  aq) We))
def wL(text:List Nat)(lo hi:Nat)(neg:Bool)(bs dv:Option MV):Loc:=[some (.str (tx text)),some (.int lo),some (.int hi),some (.bool neg),bs,dv]
def sgn(neg:Bool)(v:Option Int):MV:=hU (v.map fun z=>if neg then -z else z)
section
variable{n:Nat}{text p' bd q:List Nat}{lo hi:Nat}{neg:Bool}{x:Option MV}{H:MH}{bs:Int}
theorem Sm{v:Option Int}:aR (Wd (ah (n+2)) (wL text lo hi neg x (some (hU v))) H) (.val (sgn neg v) H):=by
 cases v with
 |none=>exact aL (p:=.none) (L1:=_) rfl
 |some v=>
  refine aj (L1:=_) (H1:=H) rfl ?_;cases neg<;>exact aL (p:=.int _) (L1:=_) rfl
theorem Kh(n k:Nat):((n:Int)+(k:Int))=((n+k:Nat):Int):=rfl
theorem DZ(hl:(p'++bd++q).length<=1000)(k:Nat)(hk:k<=bd.length):nf (.int ((p'.length:Int)+(k:Int))) (.int ((p'++bd).length:Nat)) (.str (tx (p'++bd++q))) H=some (.val (.str (tx (bd.drop k))) H):=by
 have hlb:(p'++bd).length=p'.length+bd.length:=bJ;have hle:(p'++bd).length<=(p'++bd++q).length:=by rw[bJ (as:=p'++bd)];exact mu _ _
 rw[Kh,OL (by exact Rw hk hlb hle) hle,bZ,<-jZ,List.drop_left,List.drop_append_of_le_length hk,show(p'++bd).length-(p'.length+k)=(bd.drop k).length by rw[mr];exact Rx hk hlb,List.take_left]
theorem OM(hl:(p'++bd++q).length<=1000)(hbs:bs=0\/(2<=bs/\bs<=16))(hb2:0<bs->2<=bd.length):
  aR (We (ah (n+2)) (wL (p'++bd++q) p'.length (p'++bd).length neg (some (.int bs)) none) H) (.val (sgn neg (if 0<bs then yK bs (bd.drop 2) else yK 10 bd)) H):=by
 have hbl:bd.length<=1000:=by rw[bJ,bJ]at hl;exact Ry hl
 have ht:tE (c2 yl (ae 4) (af (.int 0))) (ah (n+2)) (wL (p'++bd++q) p'.length (p'++bd).length neg (some (.int bs)) none) H=some (.val (decide (0<bs)) H):=rfl;by_cases hb:0<bs
 ·rw[if_pos hb];rw[cO hb]at ht;refine aj (L1:=wL (p'++bd++q) p'.length (p'++bd).length neg (some (.int bs)) (some (hU (yK bs (bd.drop 2))))) (H1:=H) ((aB ht).trans ?_) Sm;exact(aF (aJ ((call2 ((Uw (x:=.int (p'.length+2)) rfl rfl rfl).trans (DZ hl 2 (hb2 hb))) rfl).trans (lX (by exact Rz hbs hb) (by rw[mr];exact RA hbl))))).trans rfl
 ·rw[if_neg hb];rw[cz hb]at ht;refine aj (L1:=wL (p'++bd++q) p'.length (p'++bd).length neg (some (.int bs)) (some (hU (yK 10 bd)))) (H1:=H) ((aw ht).trans ?_) Sm;exact(aF (aJ ((call2 ((Uw (x:=.int (p'.length+0)) rfl (by rw[Int.add_zero];rfl) rfl).trans (DZ hl 0 (eW _))) rfl).trans (lX (by decide) hbl)))).trans rfl
theorem E0(i:Nat){y:Nat}(hy:bd[i]?=some y):au (.str (tx (p'++bd++q))) (.int ((p'.length:Int)+(i:Int))) H=some (.val (.str (ch y)) H):=by
 rw[Kh];have hi:i<bd.length:=(cm.mp hy).1;exact qc (by rw[bZ,ib (mu _ _),wi,iG hi];exact hy)
theorem ON(hl:(p'++bd++q).length<=1000):aR (WQ (ah (n+2)) (wL (p'++bd++q) p'.length (p'++bd).length neg none none) H) (.val (sgn neg (jO bd)) H):=by
 refine aj (L1:=wL (p'++bd++q) p'.length (p'++bd).length neg (some (.int 0)) none) (H1:=H) rfl ?_;have uZ:((p'++bd).length:Int)-(p'.length:Int)=(bd.length:Int):=by rw[bJ];exact RD
 have ht:tE (c2 yl (c2 dT (ae 2) (ae 1)) (af (.int 2))) (ah (n+2)) (wL (p'++bd++q) p'.length (p'++bd).length neg (some (.int 0)) none) H=some (.val (decide ((2:Int)<(bd.length:Int))) H):=by
  rw[<-uZ];rfl
 by_cases hsh:bd.length<=2
 ·rw[wJ (.inl hsh)];rw[cz (by exact RE hsh)]at ht;exact aj (L1:=_) (H1:=H) (aw (uY ht)) (OM hl (.inl rfl) fun h=>absurd h (by decide))
 ·rw[cO (by exact RF hsh)]at ht;obtain⟨x,y,z,r,rfl⟩:=Sl hsh;obtain⟨-,-,-,-,-,-,-,-,-,-,-,-,-,-,-,-,c0,-⟩:=nj;have g0:=E0 (p':=p') (q:=q) (H:=H) (bd:=x::y::z::r) 0 rfl;have g1:=E0 (p':=p') (q:=q) (H:=H) (bd:=x::y::z::r) 1 rfl;have h2:tE (c2 bQ (c2 au (ae 0) (ae 1)) (af (.str (S "0")))) (ah (n+2)) (wL (p'++x::y::z::r++q) p'.length (p'++x::y::z::r).length neg (some (.int 0)) none) H=some (.val (decide (x=48)) H):=by
   rw[c0];exact dB ((ba rfl rfl).trans (by rw[<-g0];rw[show((0:Nat):Int)=0 from rfl,Int.add_zero])) rfl (DX x 48 H)
  by_cases hx:x=48
  ·subst hx;rw[By];refine aj (L1:=wL (p'++48::y::z::r++q) p'.length (p'++48::y::z::r).length neg (some (.int (jj y))) none) (H1:=H) ((aB (qb ht h2)).trans ((aF (aJ ((bh ((ba rfl rfl).trans g1)).trans yL))).trans rfl)) ?_;exact OM hl (wI y) fun _=>gC 2 _
  ·rw[cz hx]at h2;rw[wJ (.inr fun r' h=>hx (by injection h))];exact aj (L1:=_) (H1:=H) (aw (qb ht h2)) (OM hl (.inl rfl) fun h=>absurd h (by decide))
end
theorem qH{n:Nat}{p c q:List Nat}{H:MH}(hp:∀x∈p,gg x=true)(hq:∀x∈q,gg x=true)(h1:∀x,c.head?=some x->gg x=false)(h2:∀x,c.getLast?=some x->gg x=false)(h0:c=[]->q=[])
  (hl:(p++c++q).length<=1000):ah (n+3) eH [.str (tx (p++c++q))] H=some (.val (hU (mF c)) H):=by
 rw[aD (by decide) rfl ⟨ao _,ao _⟩];have XY:(p++c++q).length=p.length+c.length+q.length:=by simp;exact JY
 have hfb:(p++c++q).length<many:=by show _<1000000;exact ku hl rfl
 refine aP ?_;show aR (hR (ah (n+2)) [some (.str (tx (p++c++q))),none,none,none,none,none] H) _;unfold hR;refine aj (L1:=[some (.str (tx (p++c++q))),some (.int 0),some (.int (p++c++q).length),none,none,none]) (H1:=H) (by simp only[u9,aW,bindR,c1,ae,af,aG,aa,ai,eM,bo,cS,Nat.reduceAdd,Nat.reduceLeDiff,c9,d9,eY,hS];rfl) ?_;refine aj (L1:=[some (.str (tx (p++c++q))),some (.int p.length),some (.int (p++c++q).length),none,none,none]) (H1:=H) ?_ ?_
 ·have:=wG (n:=n+1) (p:=p) (r:=c++q) (H:=H) (e:=[none,none,none]) (t:=.none) hp (by
   cases c with
   |nil=>rewrite (config:={}) [h0 rfl];intro x h;cases h
   |cons x r=>exact h1) p.length 0 many (by exact RG) (by exact RH XY hfb)
  rw[<-bZ]at this;exact this
 refine aj (L1:=[some (.str (tx (p++c++q))),some (.int p.length),some (.int (p++c).length),none,none,none]) (H1:=H) ?_ ?_
 ·have:=wH (n:=n+1) (c:=p++c) (q:=q) (f:=p.length) (H:=H) (e:=[none,none,none]) hq (by
   cases c with
   |nil=>exact .inr ⟨by simp,h0 rfl⟩
   |cons y r=>
    refine .inl ⟨by simp,fun x hx=>h2 x ?_⟩;rw[List.getLast?_append]at hx;obtain⟨z,hz⟩:∃z,(y::r).getLast?=some z:=⟨_,List.getLast?_eq_some_getLast (by simp)⟩
    rw[hz]at hx ⊢;exact hx) q.length many (ao _) (by exact RI XY hfb)
  rw[<-bJ]at this;exact this
 refine aj (L1:=wL (p++c++q) p.length (p++c).length false none none) (H1:=H) rfl ?_;clear hp hq h1 h2 h0 XY hfb;cases c with
 |nil=>
  refine aj (L1:=_) (H1:=H) (aw (uY (dB rfl rfl ?_))) (ON hl);show some (Res.val (MV.bool (decide ((p.length:Int)<((p++([]:List Nat)).length:Int)))) H)=_;rw[bp,cz (Int.lt_irrefl _)]
 |cons x r=>
  have hd:tE (c2 kq (ae 1) (ae 2)) (ah (n+2)) (wL (p++x::r++q) p.length (p++x::r).length false none none) H=some (.val true H):=by
   refine dB rfl rfl ?_;show some (Res.val (MV.bool (decide ((p.length:Int)<((p++x::r).length:Int)))) H)=_;rw[cO (by rw[bJ,bo];exact JW)]
  obtain⟨-,-,-,-,-,-,-,-,-,-,-,-,-,-,cP,cM,c0,-⟩:=nj;have g0:(c2 au (ae 0) (ae 1)) (ah (n+2)) (wL (p++x::r++q) p.length (p++x::r).length false none none) H=some (.val (.str (ch x)) H):=by
   have:=E0 (p':=p) (q:=q) (H:=H) (bd:=x::r) 0 rfl;rw[show((0:Nat):Int)=0 from rfl,Int.add_zero]at this;exact(ba rfl rfl).trans this
  have h2:tE (c2 nF (c2 au (ae 0) (ae 1)) (aG (aa (af (.str (S "+"))) (aa (af (.str (S "-"))) ai)))) (ah (n+2)) (wL (p++x::r++q) p.length (p++x::r).length false none none) H=some (.val (decide (x=43\/x=45)) H):=by
   rw[cP,cM];exact dB g0 (jE rfl rfl) (DW x 43 45 H)
  rw[jP];by_cases hs:x=43\/x=45
  ·rw[cO hs]at h2;have ha:p++x::r=(p++[x])++r:=by simp
   rw[if_pos hs];refine aj (L1:=wL (p++x::r++q) (p++[x]).length (p++x::r).length (x==45) none none) (H1:=H) ((aB (qb hd h2)).trans ?_) ?_
   ·rw[cM];refine(aF (L1:=wL (p++x::r++q) p.length (p++x::r).length (x==45) none none) (H1:=H) (aJ ((ba g0 rfl).trans (DX x 45 H)))).trans ?_;rw[bJ (as:=p) (bs:=[x])];rfl
   ·rw[ha]at hl ⊢;exact ON hl
  ·rw[cz hs]at h2;rw[if_neg hs];refine aj (L1:=_) (H1:=H) (aw (qb hd h2)) ?_;have e:sgn false (jO (x::r))=hU (jO (x::r)):=by unfold sgn;cases jO (x::r)<;>rfl
   rw[<-e];exact ON hl
theorem bc{α:Type}(H:List α)(x:α):(H++[x])[H.length]?=some x:=by simp
theorem rB{α:Type}(H:List α)(x y:α):(H++[x]).set H.length y=H++[y]:=by simp
theorem rC(h:as o L (H++[.dict []])=some (.val xs (H++[.dict []])))(hl:xs.length=ks.length):ef ks as o L H=some (.val (.obj H.length) (H++[.dict (ks.zip xs)])):=by
 unfold ef;rw[h];show(match (H++[MO.dict []])[H.length]? with
  |some (.dict [])=>if xs.length=ks.length then some (Res.val (MV.obj H.length) ((H++[MO.dict []]).set H.length (.dict (ks.zip xs)))) else none
  |_=>none)=_
 rw[bc,rB];exact if_pos hl
noncomputable def cj(x:Nat):Bool:=decide (48<=x/\x<=57)
theorem E3:S "0123456789"=tx [48,49,50,51,52,53,54,55,56,57]:=by ac_rfl
theorem E4(x:Nat)(H:MH):nF (.str (ch x)) (.str (S "0123456789")) H=some (.val (.bool (cj x)) H):=by
 rw[E3];show some (Res.val (MV.bool ([48,49,50,51,52,53,54,55,56,57].any (·==x))) H)=_;by_cases h:x<58
 ·exact(show ∀x,x<58->_ by ac_rfl:∀x,x<58->([48,49,50,51,52,53,54,55,56,57].any (·==x))=cj x) x h▸rfl
 ·obtain⟨m,rfl⟩:=Nat.exists_eq_add_of_le' (mq h);rfl
theorem E5(hx:cj x=true)(H:MH):uW (.str (S "0123456789")) [.str (ch x)] H=some (.val (.int ((x:Int)-48)) H):=by
 unfold cj at hx;rw[dh]at hx;show(if S "0123456789"=S "0123456789"/\(ch x).length=1/\48<=(ch x).cps.getD 0 0/\(ch x).cps.getD 0 0<=57 then some (Res.val (MV.int (((ch x).cps.getD 0 0:Nat)-48)) H) else none)=_;rw[if_pos ⟨rfl,rfl,hx.1,hx.2⟩];rfl
theorem yM(hx:cj x=true):cJ x=(x:Int)-48:=by
 unfold cj at hx;rw[dh]at hx;unfold cJ;rw[if_pos hx]
theorem lu(h:dM src H=some none):gG elt fr acc (N+1) src o H=some (.val () H):=by
 show(match dM src H with|none=>none|some none=>_|some (some (x,src))=>_)=_;rw[h]
theorem lA(h:dM src H=some (some (x,gX)))(h1:elt o (some x::fr) H=some (.val y H1))(h2:dW (.obj acc) y H1=some (.val .none H2)):
  gG elt fr acc (N+1) src o H=gG elt fr acc N gX o H2:=by
 show(match dM src H with|none=>none|some none=>_|some (some (x,src))=>_)=_;rw[h];dsimp only;rw[h1];dsimp only;rw[h2];rfl
theorem og(h:xs.length<1000000):dW (.obj H.length) y (H++[.list xs])=some (.val .none (H++[.list (xs++[y])])):=by
 unfold dW;dsimp only;rw[bc];dsimp only;rw[if_pos (by rw[d9];exact oG h rfl),rB]
theorem BA(hl:l.length<=1000):∀(r:List Nat) (i:Nat) (pre:List MV) (N:Nat),l.drop i=r->pre.length+r.length<=1000->r.length<N->
  gG (c2 nF (ae 0) (af (.str (S "0123456789")))) [] H.length N (.str (tx l) i) o (H++[.list pre])=some (.val () (H++[.list (pre++r.map fun x=>.bool (cj x))])):=by
 intro r
 induction r with
 |nil=>
  intro i pre N hr hp hN;obtain⟨N,rfl⟩:∃M,N=M+1:=⟨N-1,by simp at hN;exact nE hN⟩
  rw[lu (by rw[kA,if_neg (by have:=aY List.length hr;simp at this;exact KQ this)])];simp
 |cons x r ih=>
  intro i pre N hr hp hN;obtain⟨N,rfl⟩:∃M,N=M+1:=⟨N-1,by simp at hN;exact pX hN⟩
  have hi:i<l.length:=by have:=aY List.length hr;simp at this;exact KR this
  have hx:l.getD i 0=x:=by
   have:l[i]?=some x:=by have:=aY (·[0]?) hr;simpa using this
   rw[List.getD,this];rfl
  have hr':l.drop (i+1)=r:=by
   rw[<-jZ,hr];rfl
  simp only[bo]at hp hN;rw[lA (by rw[kA,if_pos hi,hx]) (y:=MV.bool (cj x)) (H1:=H++[.list pre]) ((ba rfl rfl).trans (E4 _ _)) (og (by exact wj hp rfl)),ih (i+1) (pre++[MV.bool (cj x)]) N hr' (by simp;exact qC hp) (by exact jI hN)];simp
theorem tw(l:List Nat):gF (l.map fun x=>.bool (cj x))=some (l.all cj):=by
 induction l with
 |nil=>rfl
 |cons x r ih=>simp only[cT,yD,ih,iy]
noncomputable def fT:Int->List Nat->Int
 |acc,[]=>acc
 |acc,c::r=>fT (10*acc+((c:Int)-48)) r
theorem ub{acc:Int}{x X:Nat}(h:acc.natAbs+1<=X)(h1:48<=x)(h2:x<=57):(10*acc+((x:Int)-48)).natAbs<X*10:=by exact RJ h h1 h2
theorem E6{n:Nat}{t b:MV}{l:List Nat}{H:MH}(hl:l.length<=1000)(hd:l.all cj=true):∀(r:List Nat) (i:Nat) (acc:Int) (c:Option MV) (N:Nat),l.drop i=r->acc.natAbs<16^i->r.length<N->
  (∃c',ei (toName 3) gH N (.str (tx l) i) (ah n) [some t,some b,some (.int acc),c] H=some (.next [some t,some b,some (.int (fT acc r)),c'] H)):=by
 intro r
 induction r with
 |nil=>
  intro i acc c N hr ha hN;obtain⟨N,rfl⟩:∃M,N=M+1:=⟨N-1,by simp at hN;exact nE hN⟩
  exact⟨c,by rw[fO (by rw[kA,if_neg (by have:=aY List.length hr;simp at this;exact KQ this)])];rfl⟩
 |cons x r ih=>
  intro i acc c N hr ha hN;obtain⟨N,rfl⟩:∃M,N=M+1:=⟨N-1,by simp at hN;exact pX hN⟩
  have hi:i<l.length:=by have:=aY List.length hr;simp at this;exact KR this
  have hgx:l[i]?=some x:=by have:=aY (·[0]?) hr;simpa using this
  have hx:l.getD i 0=x:=by rw[List.getD,hgx];rfl
  have hdx:cj x=true:=eF.mp hd x (d8 hgx);have hr':l.drop (i+1)=r:=by
   rw[<-jZ,hr];rfl
  have m1:acc.natAbs<2^6000:=cF ha (by
   rw[show(16:Nat)=2^4 from rfl,<-Nat.pow_mul];exact eD (by decide) (by exact Ra hl hi))
  have m2:(10:Int).natAbs<2^6000:=cF (show(10:Int).natAbs<2^5 by decide) (eD (by decide) (by decide));have e1:∀H,kX (.int 10) (.int acc) H=some (.val (.int (10*acc)) H):=fun H=>by unfold kX;dsimp only;rw[if_pos ⟨m2,m1⟩]
  have OJ:(10*acc+((x:Int)-48)).natAbs<16^(i+1):=by
   unfold cj at hdx;rw[dh]at hdx;rw[Nat.pow_succ];exact cF (ub ha hdx.1 hdx.2) (cZ _ (by decide))
  obtain⟨c',h⟩:=ih (i+1) (10*acc+((x:Int)-48)) (some (.str (ch x))) N hr' OJ (by simp at hN;exact JV hN);refine⟨c',?_⟩;have hb:gH (ah n) [some t,some b,some (.int acc),some (.str (ch x))] H=some (.next [some t,some b,some (.int (10*acc+((x:Int)-48))),some (.str (ch x))] H):=
   (aF (aJ ((ba ((ba rfl rfl).trans (e1 H)) ((QZ rfl rfl rfl).trans (E5 hdx H))).trans rfl))).trans rfl
  rw[dz (L1:=[some t,some b,some (.int acc),some (.str (ch x))]) (by rw[kA,if_pos hi,hx]) rfl,hb];exact h
def qd(l:List Nat):Option Int:=
 if l=[32,48,120,48,32] then some 0 else match l with
 |[]=>none
 |x::r=>let body:=if x=43\/x=45 then r else l
  if body=[]\/body.all cj=false then none else some (if x=45 then 0-fT 0 body else fT 0 body)
theorem Sn:S " 0x0 "=tx [32,48,120,48,32]:=by ac_rfl
theorem yN:tx a=tx b↔a=b:=⟨fun h=>by injection h with h;simpa using h,fun h=>by rw[h]⟩
theorem Ki(a b:List Nat)(H:MH):bQ (.str (tx a)) (.str (tx b)) H=some (.val (.bool (decide (a=b))) H):=by
 show some (Res.val (MV.bool (tx a==tx b)) H)=_
 congr 3
 rw[pV,eG,dh];exact yN
theorem Kj:S ""=tx []:=by ac_rfl
theorem eq_nil(ha:a o L H=some (.val (.str (tx l)) H)):tE (c2 bQ a (af (.str (S "")))) o L H=some (.val (decide (l=[])) H):=by
 rw[Kj];exact dB ha rfl (Ki l [] H)
theorem HH(l:List Nat)(H:MH):nf .none (.int 1) (.str (tx l)) H=some (.val (.str (tx (l.take 1))) H):=by
 show some (Res.val (MV.str ⟨(je none (some 1) (tx l).cps.toList).toArray⟩) H)=_;have e:(tx l).cps.toList=l:=by simp
 have c1:clipAt l.length 1=min 1 l.length:=by unfold clipAt;rw[if_neg (by decide)];exact JZ
 unfold je;rw[e];show some (Res.val (MV.str (tx ((l.drop 0).take (clipAt l.length 1-0)))) H)=_;rw[c1,List.drop_zero,Nat.sub_zero];cases l<;>rfl
theorem HI(l:List Nat)(H:MH):nf (.int 1) .none (.str (tx l)) H=some (.val (.str (tx (l.drop 1))) H):=by
 show some (Res.val (MV.str ⟨(je (some 1) none (tx l).cps.toList).toArray⟩) H)=_;have e:(tx l).cps.toList=l:=by simp
 have c1:clipAt l.length 1=min 1 l.length:=by unfold clipAt;rw[if_neg (by decide)];exact JZ
 unfold je;rw[e];show some (Res.val (MV.str (tx ((l.drop (clipAt l.length 1)).take (l.length-clipAt l.length 1)))) H)=_;rw[c1];cases l with
 |nil=>rfl
 |cons x r=>
  rw[show min 1 (x::r).length=1 by simp];simp
theorem E7(hb:b.length<=1000)(hL:L[1]?=some (some (.str (tx b)))):
  (c1 qY (cR [] (c2 nF (ae 0) (af (.str (S "0123456789")))) (ae 1))) (ah n) L H=some (.val (.bool (b.all cj)) (H++[.list (b.map fun x=>.bool (cj x))])):=by
 have hc:=BA (o:=ah n) (H:=H) hb b 0 [] many rfl (by simp;exact RL hb) (by show b.length<1000000;exact ku hb rfl);simp only[jb]at hc;have e:ae 1 (ah n) L H=some (.val (.str (tx b)) H):=by unfold ae;rw[hL]
 unfold c1 cR;rw[e];simp only[bindR,ff,srcOf,kU,hc,qY,bc,tw]
noncomputable def se(l:List Nat):List Nat:=match l with
 |x::r=>if x=43\/x=45 then r else l
 |[]=> []
theorem E8(hl:l.length<=1000):(se l).length<=1000:=by
 cases l with
 |nil=>exact eW _
 |cons x r=>
  rw[bo]at hl;show(if x=43\/x=45 then r else x::r).length<=1000;by_cases h:x=43\/x=45
  ·rw[if_pos h];exact K5 hl
  ·rw[if_neg h,bo];exact RM hl
theorem E9:(aO 1 (eL (tE (c2 nF (fD (ae 0) (af .none) (af (.int 1))) (aG (aa (af (.str (S "+"))) (aa (af (.str (S "-"))) ai))))) (fD (ae 0) (af (.int 1)) (af .none)) (ae 0))) o [some (.str (tx l)),none,none,none] H=some (.next [some (.str (tx l)),some (.str (tx (se l))),none,none] H):=by
 cases l with
 |nil=>rfl
 |cons x r=>
  obtain⟨-,-,-,-,-,-,-,-,-,-,-,-,-,-,cP,cM,-,-⟩:=nj;have ht:tE (c2 nF (fD (ae 0) (af .none) (af (.int 1))) (aG (aa (af (.str (S "+"))) (aa (af (.str (S "-"))) ai)))) o [some (.str (tx (x::r))),none,none,none] H=some (.val (decide (x=43\/x=45)) H):=by
   rw[cP,cM];exact dB ((Uw rfl rfl rfl).trans (HH (x::r) H)) (jE rfl rfl) (DW x 43 45 H)
  refine aJ ?_;show _=some (Res.val (MV.str (tx (if x=43\/x=45 then r else x::r))) H);by_cases hs:x=43\/x=45
  ·rw[cO hs]at ht;rw[if_pos hs];exact(fU ht).trans ((Uw rfl rfl rfl).trans (HI (x::r) H))
  ·rw[cz hs]at ht;rw[if_neg hs];exact(eT ht).trans rfl
theorem Ea(h0:¬ l=[32,48,120,48,32]):qd l=if se l=[]\/(se l).all cj=false then none else some (if l.head?=some 45 then 0-fT 0 (se l) else fT 0 (se l)):=by
 unfold qd;rw[if_neg h0];cases l with
 |nil=>rfl
 |cons x r=>
  show(if se (x::r)=[]\/(se (x::r)).all cj=false then none else some (if x=45 then 0-fT 0 (se (x::r)) else fT 0 (se (x::r))))=_;rw[List.head?_cons];simp only[Option.some.injEq]
def tN:CS:=(ag (bN (nd (tE (c2 bQ (ae 1) (af (.str (S ""))))) (oH (tE (c1 qY (cR [] (c2 nF (ae 0) (af (.str (S "0123456789")))) (ae 1))))))
  (ag (aK (af .none))
  aq)
  aq)
 (ag (aO 2 (af (.int 0)))
 (ag (ic (toName 3) (ae 1) gH)
 (ag (aK (eL (tE (c2 bQ (c2 au (ae 0) (af (.int 0))) (af (.str (S "-"))))) (c2 dT (af (.int 0)) (ae 2)) (ae 2)))
 aq))))
theorem Eb(hbl:b.length<=1000)(hl:b≠ []->l≠ []):∃J,aR (tN (ah n) [some (.str (tx l)),some (.str (tx b)),none,none] H) (.val (hU (if b=[]\/b.all cj=false then none else some (if l.head?=some 45 then 0-fT 0 b else fT 0 b))) (H++J)):=by
 have hn:=eq_nil (l:=b) (a:=ae 1) (o:=ah n) (L:=[some (.str (tx l)),some (.str (tx b)),none,none]) (H:=H) rfl;by_cases hb0:b=[]
 ·rw[if_pos (.inl hb0)];rw[cO hb0]at hn;exact⟨[],by rw[bp];exact aL (p:=.none) ((aB (Kf hn)).trans (aE (aI rfl)))⟩
 rw[cz hb0]at hn;have ha:=DU hn (HB (dp (E7 (n:=n) (L:=[some (.str (tx l)),some (.str (tx b)),none,none]) (H:=H) hbl rfl)));refine⟨[.list (b.map fun x=>.bool (cj x))],?_⟩
 (generalize H++[MO.list (b.map fun x=>.bool (cj x))]=H1 at ha ⊢;revert H1;refine gA ?_;intros)
 by_cases hal:b.all cj=true
 ·rw[hal]at ha;rw[if_neg (fun q=>q.elim hb0 fun q=>by rw[hal]at q;cases q)];obtain⟨c',hlp⟩:=E6 (n:=n) (t:=.str (tx l)) (b:=.str (tx b)) (H:=H1) hbl hal b 0 0 none many rfl (by decide) (by show b.length<1000000;exact ku hbl rfl);refine aj (aw ha) (aj (L1:=[some (.str (tx l)),some (.str (tx b)),some (.int 0),none]) (H1:=H1) rfl (aj (L1:=[some (.str (tx l)),some (.str (tx b)),some (.int (fT 0 b)),c']) (H1:=H1) ((s8 rfl rfl).trans hlp) ?_));cases l with
  |nil=>exact absurd rfl (hl hb0)
  |cons x r=>
   obtain⟨-,-,-,-,-,-,-,-,-,-,-,-,-,-,-,cM,-,-⟩:=nj;have ht:tE (c2 bQ (c2 au (ae 0) (af (.int 0))) (af (.str (S "-")))) (ah n) [some (.str (tx (x::r))),some (.str (tx b)),some (.int (fT 0 b)),c'] H1=some (.val (decide (x=45)) H1):=by
    rw[cM];exact dB ((ba rfl rfl).trans (qc (i:=0) rfl)) rfl (DX x 45 H1)
   by_cases hx:x=45
   ·rw[cO hx]at ht;rw[if_pos (show(x::r).head?=some 45 from aY some hx)];exact aL (p:=.int _) (aI ((fU ht).trans rfl))
   ·rw[cz hx]at ht;rw[if_neg (show ¬ (x::r).head?=some 45 from fun q=>hx (dQ q))];exact aL (p:=.int _) (aI ((eT ht).trans rfl))
 ·have So:b.all cj=false:=by simpa using hal
  rw[So]at ha;rw[if_pos (.inr So)];exact aL (p:=.none) ((aB ha).trans (aE (aI rfl)))
theorem tA(hl:l.length<=1000):∃J,ah (n+1) cx [.str (tx l)] H=some (.val (hU (qd l)) (H++J)):=by
 rw[aD (by decide) rfl ⟨ao _,ao _⟩];have ht:tE (c2 bQ (ae 0) (af (.str (S " 0x0 ")))) (ah n) [some (.str (tx l)),none,none,none] H=some (.val (decide (l=[32,48,120,48,32])) H):=by
  rw[Sn];exact dB rfl rfl (Ki _ _ H)
 by_cases h0:l=[32,48,120,48,32]
 ·rw[cO h0]at ht;refine⟨[],aP ?_⟩;rw[bp,show qd l=some 0 from if_pos h0];exact aL (p:=.int 0) ((aB ht).trans (aE (aI rfl)))
 rw[cz h0]at ht;obtain⟨J,h⟩:=Eb (n:=n) (l:=l) (b:=se l) (H:=H) (E8 hl) fun q e=>q (by rw[e];rfl)
 refine⟨J,aP ?_⟩;rw[Ea h0];exact aj (aw ht) (aj E9 h)
noncomputable def wd:Nat->List Nat
 |0=> [121,101,115]
 |1=> [111,70,70]
 |2=> [32,48,120,48,32]
 |3=> [110]
 |4=> [109,97,121,98,101]
 |5=> []
 |6=> [111,110]
 |7=> [102]
 |8=> [110,111]
 |9=> [49,121,101,115]
 |10=> [49,111,70,70]
 |11=> [49,32,48,120,48,32]
 |12=> [49,45,51]
 |13=> [49,110]
 |14=> [49,109,97,121,98,101]
 |15=> [49,111,110]
 |16=> [49,102]
 |_=> [49,43,55]
noncomputable def R0:Nat->Option Int
 |2=>some 0
 |_=>none
noncomputable def Uy:Nat->Option Bool
 |0=>some true
 |1=>some false
 |2=>some false
 |3=>some false
 |6=>some true
 |7=>some false
 |8=>some false
 |_=>none
noncomputable def Uz:Nat->List Nat
 |0=> []
 |1=> [43]
 |_=> [45]
noncomputable def BB(s:Nat)(z:Int):Int:=if s<2 then z else 0-z
noncomputable def uc:Option Bool->MV
 |some b=>.bool b
 |none=>.none
inductive fV:List Nat->Option Int->Option Bool->Prop
 |num (s:Nat) (ds:List Nat) (h1:ds≠ []) (h2:ds.all cj=true):fV (Uz s++ds) (some (BB s (fT 0 ds))) (some (BB s (fT 0 ds)!=0))
 |word (i:Nat) (hi:i<18):fV (wd i) (R0 i) (Uy i)
 |more (i k:Nat) (hi:i<18) (h5:i≠5):fV (wd i++49::List.replicate k 49) none none
theorem iI{p:Nat->Prop}(h:∀j,j<n->p j)(h2:p n):∀j,j<n+1->p j:=Nat.forall_lt_succ_right.mpr ⟨h,h2⟩
theorem Sp{p:Nat->Prop}:∀j,j<0->p j:=fun j h=>absurd h (Nat.not_lt_zero j)
theorem Ec{p:Nat->Prop}(h0:p 0)(h1:p 1)(h2:p 2)(h3:p 3)(h4:p 4)(h5:p 5)(h6:p 6)(h7:p 7)(h8:p 8)(h9:p 9)(h10:p 10)(h11:p 11)(h12:p 12)(h13:p 13)(h14:p 14)(h15:p 15)(h16:p 16)(h17:p 17):∀j,j<18->p j:=iI (iI (iI (iI (iI (iI (iI (iI (iI (iI (iI (iI (iI (iI (iI (iI (iI (iI Sp h0) h1) h2) h3) h4) h5) h6) h7) h8) h9) h10) h11) h12) h13) h14) h15) h16) h17
theorem fV.append(h:fV l a b):∃a' b',fV (l++[49]) a' b':=by
 cases h with
 |num s ds h1 h2=>exact⟨_,_,by rw[bZ];exact .num s (ds++[49]) (by simp) (by rw[List.all_append,h2];rfl)⟩
 |word i hi=>
  by_cases h5:i=5
  ·subst h5;exact⟨_,_,.num 0 [49] (by simp) rfl⟩
  ·exact⟨_,_,.more i 0 hi h5⟩
 |more i k hi h5=>exact⟨_,_,by
   have:wd i++49::List.replicate k 49++[49]=wd i++49::List.replicate (k+1) 49:=by
    rw[bZ,nS,<-List.replicate_succ']
   rw[this];exact .more i (k+1) hi h5⟩
theorem nL(h:cj x=true):gg x=false:=by
 unfold cj at h;rw[dh]at h;unfold gg;simp;exact RP h
theorem HJ:∀(ds:List Nat) (acc:Int),ds.all cj=true->iW 10 acc ds=some (fT acc ds):=by
 intro ds
 induction ds with
 |nil=>intro acc _;rfl
 |cons x r ih=>
  intro acc h;rw[iy,bW]at h;show(if cJ x<0\/10<=cJ x then none else iW 10 (acc*10+cJ x) r)=some (fT (10*acc+((x:Int)-48)) r);have hd:=h.1;rw[yM hd];unfold cj at hd;rw[dh]at hd;rw[if_neg (by exact RQ hd),ih _ h.2,Int.mul_comm]
theorem yO(h1:ds≠ [])(h2:ds.all cj=true):jO ds=some (fT 0 ds):=by
 have hv:yK 10 ds=some (fT 0 ds):=by unfold yK;rw[if_neg h1,HJ ds 0 h2]
 have:HF ds=0:=by
  rcases ds with _|⟨x,_|⟨y,_|⟨z,r⟩⟩⟩
  ·rfl
  ·exact ite_self _
  ·exact ite_self _
  ·have hy:cj y=true:=eF.mp h2 y (by simp);unfold cj at hy;rw[dh]at hy;show(if x=48 then jj y else 0)=0;rw[show jj y=0 by unfold jj;repeat' (rewrite (config:={}) [if_neg (by exact WO hy rfl rfl)];try(with_reducible rfl)),ite_self]
 unfold jO;rw[this];exact hv
theorem BC(w:List Nat)(k:Nat):(w++49::List.replicate k 49).getLast?=some 49:=by
 rw[List.getLast?_append];have:(49::List.replicate k 49).getLast?=some 49:=by
  rw[<-rN,List.getLast?_replicate];simp
 rw[this];rfl
noncomputable def V9(i:Nat):List Nat:=if i=2 then [32] else []
def R1(i:Nat):List Nat:=if i=2 then [48,120,48,32] else wd i
theorem Ed:∀i,i<18->i≠5->(V9 i).all gg=true/\((R1 i).head?.elim true fun x=>!gg x)=true/\R1 i≠ []/\wd i=V9 i++R1 i:=by ac_rfl
theorem HK:∀i,i<18->i≠5->∀k,mF (R1 i++49::List.replicate k 49)=none:=by
 refine Ec ?_ ?_ ?_ ?_ ?_ ?_ ?_ ?_ ?_ ?_ ?_ ?_ ?_ ?_ ?_ ?_ ?_ ?_<;>intro h k<;>first|rfl|exact absurd rfl h
theorem yP:∀i,i<18->ah (n+3) eH [.str (tx (wd i))] H=some (.val (hU (R0 i)) H):=by
 refine Ec ?_ ?_ ?_ ?_ ?_ ?_ ?_ ?_ ?_ ?_ ?_ ?_ ?_ ?_ ?_ ?_ ?_ ?_<;>rfl'
theorem fV.whole(h:fV l a b)(hl:l.length<=1000):ah (n+3) eH [.str (tx l)] H=some (.val (hU a) H):=by
 cases h with
 |num s ds h1 h2=>
  have hds:∀x,ds.head?=some x->cj x=true:=fun x hx=>eF.mp h2 x (List.mem_of_head? hx)
  have:=qH (n:=n) (p:=[]) (c:=Uz s++ds) (q:=[]) (H:=H) (by simp) (by simp) (fun x hx=>by
   rcases s with _|_|s
   ·exact nL (hds x hx)
   ·cases (show some 43=some x from hx);rfl
   ·cases (show some 45=some x from hx);rfl) (fun x hx=>by
   rw[List.getLast?_append]at hx;obtain⟨z,hz⟩:∃z,ds.getLast?=some z:=by
    cases ds with
    |nil=>exact absurd rfl h1
    |cons x r=>exact⟨_,List.getLast?_eq_some_getLast (by simp)⟩
   rw[hz]at hx;exact nL (eF.mp h2 x (dQ hx▸List.mem_of_getLast? hz))) (fun _=>rfl) (by simpa using hl)
  rw[jb,bp]at this;rw[this]
  congr 3
  have hb:=yO h1 h2;rcases s with _|_|s
  ·show mF ([]++ds)=some (fT 0 ds);obtain⟨x,r,rfl⟩:∃x r,ds=x::r:=by cases ds with|nil=>exact absurd rfl h1|cons x r=>exact⟨x,r,rfl⟩
   have hx:=hds x rfl;unfold cj at hx;rw[dh]at hx;rw[jb,jP,if_neg (by exact K6 hx),hb]
  ·show mF (43::ds)=some (fT 0 ds);rw[jP,if_pos (.inl rfl),hb];rfl
  ·show mF (45::ds)=some (BB (s+1+1) (fT 0 ds));rw[jP,if_pos (.inr rfl),hb];unfold BB;rw[if_neg (by exact K7)];show some (-fT 0 ds)=_
   congr 1
   exact RT
 |word i hi=>exact yP i hi
 |more i k hi h5=>
  obtain⟨h1,h2,h3,h4⟩:=Ed i hi h5;have:=qH (n:=n) (p:=V9 i) (c:=R1 i++49::List.replicate k 49) (q:=[]) (H:=H) (eF.mp h1) (by simp) (fun x hx=>by
   cases hc:R1 i with
   |nil=>exact absurd hc h3
   |cons y r=>
    rw[hc]at h2 hx;cases hx;exact(ja _).mp h2) (fun x hx=>by rw[BC]at hx;cases hx;rfl) (fun _=>rfl) (by rw[h4]at hl;simpa [Nat.add_assoc]using hl)
  rw[bp,<-bZ,<-h4,HK i hi h5 k]at this;exact this
theorem HL:∀{a b:List Nat},a.isPrefixOf b=true->∀x∈a,x∈b:=by
 intro a
 induction a with
 |nil=>intro _ _ x hx;cases hx
 |cons y a ih=>
  intro b h x hx;cases b with
  |nil=>cases h
  |cons z b=>
  simp only[List.isPrefixOf,bW,eG]at h;obtain⟨rfl,h⟩:=h;rcases bS.mp hx with rfl|hx
  ·exact .head _
  ·exact .tail _ (ih h x hx)
theorem As:S "true"=tx [116,114,117,101]/\S "yes"=tx [121,101,115]/\S "on"=tx [111,110]/\S "false"=tx [102,97,108,115,101]/\S "no"=tx [110,111]/\S "off"=tx [111,102,102]/\S "oFF"=tx [111,70,70]/\S "n"=tx [110]/\S "f"=tx [102]/\S "o"=tx [111]:=by ac_rfl
theorem Ee(h:49∈l)(hw:49∉w)(H:MH):oP (.str (tx w)) [.str (tx l)] H=some (.val (.bool false) H):=by
 show some (Res.val (MV.bool ((tx l).cps.toList.isPrefixOf (tx w).cps.toList)) H)=_;have e1:(tx l).cps.toList=l:=by simp
 have e2:(tx w).cps.toList=w:=by simp
 rw[e1,e2];cases q:l.isPrefixOf w with
 |false=>rfl
 |true=>exact absurd (HL q 49 h) hw
theorem Ef(h:l.all (·<128)=true)(hl:l.length<=1000)(H:MH):rT (.str (tx l)) [] H=some (.val (.str (tx (l.map mC))) H):=by
 show(if(tx l).cps.all (·<128)/\(tx l).length<=1000000 then some (Res.val (MV.str ⟨(tx l).cps.map mC⟩) H) else none)=_;rw[if_pos ⟨by rw[<-h];simp,by rw[hS];exact cU hl rfl⟩];simp
theorem bool_none(hw:∀H,ah (n+3) eH [.str (tx l)] H=some (.val .none H))(h1:49∈l)(h2:l.all (·<128)=true)(hl:l.length<=1000):ah (n+4) ky [.str (tx l)] H=some (.val .none H):=by
 obtain⟨w1,w2,w3,w4,w5,w6,-,-,-,w7⟩:=As;rw[aD (by decide) rfl ⟨ao _,ao _⟩];refine aP ?_;show aR (j4 (ah (n+3)) [some (.str (tx l)),none,none,none] H) _;unfold j4;have hm:49∈l.map mC:=eb.mpr ⟨49,h1,rfl⟩;have ne:∀w:List Nat,49∉w->(tx (l.map mC)==tx w)=false:=fun w hw=>by
  rw[gZ];intro q;rw[yN]at q;exact hw (q▸hm)
 have hb:∀H,jD .str (.str (tx l)) H=true:=fun _=>rfl
 have hb2:∀w H,jD .str (.str (tx w)) H=true:=fun _ _=>rfl
 refine aj (L1:=[some (.str (tx l)),some .none,none,none]) (H1:=H) (aJ ((bh rfl).trans (hw H))) ?_;refine aj (L1:=[some (.str (tx l)),some .none,none,none]) (H1:=H) rfl ?_;refine aj (L1:=[some (.str (tx l)),some .none,some (.str (tx (l.map mC))),none]) (H1:=H) (by simp only[bindR,aW,ae,ai,aO,eM,List.set_cons_zero,List.set_cons_succ,c9,cM,hb,Ef h2 hl]) ?_;refine aj (L1:=[some (.str (tx l)),some .none,some (.str (tx (l.map mC))),none]) (H1:=H) (aw (H1:=H) (by simp only[bindR,c2,ae,af,aG,aa,ai,tE,dF,QX,eM,iH,bo,cS,Nat.reduceAdd,Nat.reduceLeDiff,c9,d9,nF,Wa,Bv,Bu,Kj,w7,ne [] (by simp),ne [111] (by simp),Bool.or_false])) ?_;have lp:∀(a b c:List Nat) (body:CS) (c3:Option MV),(∀(w:List Nat),49∉w->body (ah (n+3)) [some (.str (tx l)),some .none,some (.str (tx (l.map mC))),some (.str (tx w))] H=some (.next [some (.str (tx l)),some .none,some (.str (tx (l.map mC))),some (.str (tx w))] H))->49∉a->49∉b->49∉c->
   ei (toName 3) body many (.tup [.str (tx a),.str (tx b),.str (tx c)] 0) (ah (n+3)) [some (.str (tx l)),some .none,some (.str (tx (l.map mC))),c3] H=some (.next [some (.str (tx l)),some .none,some (.str (tx (l.map mC))),some (.str (tx c))] H):=by
  intro a b c body c3 iJ ha hb hc;show ei (toName 3) body (999996+1+1+1+1) _ _ _ _=_;rw[dz (gX:=.tup [.str (tx a),.str (tx b),.str (tx c)] 1) (x:=.str (tx a)) rfl rfl];simp only[List.set_cons_succ,List.set_cons_zero,iJ a ha];rw[dz (gX:=.tup [.str (tx a),.str (tx b),.str (tx c)] 2) (x:=.str (tx b)) rfl rfl];simp only[List.set_cons_succ,List.set_cons_zero,iJ b hb];rw[dz (gX:=.tup [.str (tx a),.str (tx b),.str (tx c)] 3) (x:=.str (tx c)) rfl rfl];simp only[List.set_cons_succ,List.set_cons_zero,iJ c hc];rw[fO rfl]
 refine aj (L1:=[some (.str (tx l)),some .none,some (.str (tx (l.map mC))),some (.str (tx [111,110]))]) (H1:=H) ?_ ?_
 ·simp only[ic,aW,aG,aa,ai,af,bindR,bo,cS,Nat.reduceAdd,d9,Nat.reduceLeDiff,c9,srcOf,w1,w2,w3];exact lp _ _ _ _ none (fun w hw=>(aF (aw (dp ((QZ rfl rfl rfl).trans (Ee hm hw H))))).trans rfl) (by simp) (by simp) (by simp)
 refine aj (L1:=[some (.str (tx l)),some .none,some (.str (tx (l.map mC))),some (.str (tx [111,102,102]))]) (H1:=H) ?_ ?_
 ·simp only[ic,aW,aG,aa,ai,af,bindR,bo,cS,Nat.reduceAdd,d9,Nat.reduceLeDiff,c9,srcOf,w4,w5,w6];exact lp _ _ _ _ _ (fun w hw=>(aF (aw (dp ((QZ rfl rfl rfl).trans (Ee hm hw H))))).trans rfl) (by simp) (by simp) (by simp)
 exact aL (p:=.none) (L1:=_) rfl
theorem BD:∀i,i<18->ah (n+4) ky [.str (tx (wd i))] H=some (.val (uc (Uy i)) H):=by
 refine Ec ?_ ?_ ?_ ?_ ?_ ?_ ?_ ?_ ?_ ?_ ?_ ?_ ?_ ?_ ?_ ?_ ?_ ?_<;>rfl'
theorem Eg:∀i,i<18->((wd i).all (·<128)&&(decide (49<128)))=true:=by ac_rfl
theorem fV.bool(h:fV l a b)(hl:l.length<=1000):ah (n+4) ky [.str (tx l)] H=some (.val (uc b) H):=by
 have hw:=fun H=>h.whole hl (n:=n) (H:=H)
 cases h with
 |num s ds h1 h2=>
  rw[aD (by decide) rfl ⟨ao _,ao _⟩];refine aP ?_;show aR (j4 (ah (n+3)) [some (.str (tx (Uz s++ds))),none,none,none] H) _;unfold j4;refine aj (L1:=[some (.str (tx (Uz s++ds))),some (.int (BB s (fT 0 ds))),none,none]) (H1:=H) (aJ ((bh rfl).trans (hw H))) ?_;exact aL (p:=.bool _) (L1:=_) (aB (H1:=H) rfl |>.trans rfl)
 |word i hi=>exact BD i hi
 |more i k hi h5=>
  refine bool_none hw (by simp) ?_ hl;rw[List.all_append,iy];have:(List.replicate k 49).all (·<128)=true:=by rewrite (config:={}) [eF];intro x hx;rw[(List.mem_replicate.mp hx).2];rfl
  rw[this];rw[Bool.and_true];exact Eg i hi
theorem ud:∀(a:List Nat) (c:Nat) (acc:Int),fT acc (a++[c])=10*fT acc a+((c:Int)-48)
 |[],c,acc=>rfl
 |x::a,c,acc=>ud a c _
theorem yQ:∀m:Nat,m<10->(Nat.digitChar m).toNat=48+m:=by decide
theorem wK(h:48<=x/\x<=57):cj x=true:=by unfold cj;rw[dh];exact h
theorem wM:∀(fuel n:Nat) (ds:List Char),n<fuel->∃d,Nat.toDigitsCore 10 fuel n ds=d++ds/\d≠ []/\(d.map Char.toNat).all cj=true/\fT 0 (d.map Char.toNat)=n:=by
 intro fuel
 induction fuel with
 |zero=>intro n ds h;exact absurd h (Nat.not_lt_zero n)
 |succ fuel ih=>
  intro n ds h;unfold Nat.toDigitsCore;have hm:n%10<10:=Nat.mod_lt _ (by decide);have hc:=yQ (n%10) hm;by_cases h0:n/10=0
  ·refine⟨[Nat.digitChar (n%10)],by simp[h0],by simp,?_,?_⟩
   ·rw[cT,hc];show(cj (48+n%10)&&true)=true;rw[wK ⟨by exact Kb,by exact RV hm h0⟩];rfl
   ·rw[cT,hc];show 10*(0:Int)+(((48+n%10:Nat):Int)-48)=n;exact RW h0
  ·obtain⟨d,e1,e2,e3,e4⟩:=ih (n/10) (Nat.digitChar (n%10)::ds) (by exact RX h h0);refine⟨d++[Nat.digitChar (n%10)],by simp[h0,e1],by simp,?_,?_⟩
   ·rw[fk,List.all_append,e3,cT,hc];show(true&&(cj (48+n%10)&&true))=true;rw[wK ⟨by exact Kb,by exact RY hm⟩];rfl
   ·rw[fk,cT,kU,ud,e4,hc];exact RZ
noncomputable def tB(n:Nat):List Nat:=(Nat.toDigits 10 n).map Char.toNat
theorem HM(n:Nat):tB n≠ []/\(tB n).all cj=true/\fT 0 (tB n)=n:=by
 obtain⟨d,e1,e2,e3,e4⟩:=wM (n+1) n [] (nU n);have:Nat.toDigits 10 n=d:=by unfold Nat.toDigits;rw[e1,bp]
 unfold tB;rw[this];exact⟨by simpa using e2,e3,e4⟩
def jF(z:Int):List Nat:=if z<0 then 45::tB z.natAbs else tB z.natAbs
theorem Sq(z:Int):Str.ofString (toString z)=tx (jF z):=by
 rw[Str.ofString_eq_toList]
 congr 2
 unfold jF tB;cases z with
 |ofNat m=>
  rw[if_neg (show ¬ Int.ofNat m<0 from jd.mpr (mn m))];show(Nat.repr m).toList.map Char.toNat=_;unfold Nat.repr;rw[String.toList_ofList];rfl
 |negSucc m=>
  rw[if_pos (Int.negSucc_lt_zero m)];show("-"++Nat.repr (m+1)).toList.map Char.toNat=_;unfold Nat.repr;simp only[String.toList_append,String.toList_ofList];rfl
theorem fV.int(z:Int):fV (jF z) (some z) (some (z !=0)):=by
 obtain⟨h1,h2,h3⟩:=HM z.natAbs;unfold jF;by_cases hz:z<0
 ·rw[if_pos hz];have:=fV.num 2 (tB z.natAbs) h1 h2;rw[h3]at this;have e:BB 2 (z.natAbs:Int)=z:=by unfold BB;rw[if_neg (by decide)];exact S0 hz
  rw[e]at this;exact this
 ·rw[if_neg hz];have:=fV.num 0 (tB z.natAbs) h1 h2;rw[h3]at this;have e:BB 0 (z.natAbs:Int)=z:=by unfold BB;rw[if_pos (by decide)];exact S1 hz
  rw[e]at this;exact this
theorem Eh(hk:1<=k)(h:z.natAbs<10^k):(jF z).length<=k+1:=by
 have:=digits10_le hk h;unfold jF tB
 split<;>simp<;>first|exact this|exact Nat.le_succ_of_le this
theorem sf:∀(ds:List Nat) (acc:Int) (j:Nat),acc.natAbs<10^j->ds.all cj=true->(fT acc ds).natAbs<10^(j+ds.length)
 |[],acc,j,h,_=>h
 |x::ds,acc,j,h,hd=>by
  rw[iy,bW]at hd;have hx:=hd.1;unfold cj at hx;rw[dh]at hx;have:=sf ds (10*acc+((x:Int)-48)) (j+1) (by
   rw[Nat.pow_succ];exact ub h hx.1 hx.2) hd.2
  rw[show j+(x::ds).length=j+1+ds.length by simp;exact S2];exact this
theorem fV.bound(h:fV l (some z) b):z.natAbs<10^l.length:=by
 (generalize ha:(some z:Option Int)=a at h;revert a;refine gA ?_;intros)
 cases h with
 |num s ds h1 h2=>
  cases ha;have hb:=sf ds 0 0 (by decide) h2;rw[Nat.zero_add]at hb;have:(BB s (fT 0 ds)).natAbs=(fT 0 ds).natAbs:=by unfold BB;split<;>first|rfl|exact D'
  rw[this];exact cF hb (eD (by decide) (by simp))
 |word i hi=>
  have:z=0:=by
   rcases i with _|_|_|i
   ·exact absurd (show some z=none from ha) nofun
   ·exact absurd (show some z=none from ha) nofun
   ·exact dQ (show some z=some 0 from ha)
   ·exact absurd (show some z=none from ha) nofun
  subst this;exact Nat.pow_pos (by decide)
 |more i k hi h5=>cases ha
theorem BE:∀i,i<18->qd (wd i)=R0 i:=by ac_rfl
theorem BF:∀i,i<18->i≠5->∀k,qd (wd i++49::List.replicate k 49)=none:=by
 refine Ec ?_ ?_ ?_ ?_ ?_ ?_ ?_ ?_ ?_ ?_ ?_ ?_ ?_ ?_ ?_ ?_ ?_ ?_<;>intro h k<;>first|rfl|exact absurd rfl h
theorem OO:∀i,i<18->R0 i=none\/(R0 i=some 0/\Uy i=some false):=by ac_rfl
theorem Ei:∀i,i<18->R0 i=none->cG (tx (wd i)) [(S "yes",.bool true),(S "oFF",.bool false),(S "n",.bool false),(S "on",.bool true),(S "f",.bool false),(S "no",.bool false)]=(Uy i).map MV.bool:=by
 refine Ec ?_ ?_ ?_ ?_ ?_ ?_ ?_ ?_ ?_ ?_ ?_ ?_ ?_ ?_ ?_ ?_ ?_ ?_<;>intro h<;>first|exact absurd h (by decide)|rfl'
theorem fV.OP(h:fV l a b):qd l=a:=by
 cases h with
 |num s ds h1 h2=>
  obtain⟨x,r,rfl⟩:∃x r,ds=x::r:=by cases ds with|nil=>exact absurd rfl h1|cons x r=>exact⟨x,r,rfl⟩
  have hx:cj x=true:=by rw[iy,bW]at h2;exact h2.1
  have hxn:=hx;unfold cj at hxn;rw[dh]at hxn;have iJ:¬ ((x::r)=[]\/(x::r).all cj=false):=by rw[h2];simp
  rcases s with _|_|s
  ·show qd (x::r)=some (fT 0 (x::r));unfold qd;rw[if_neg (by intro q;injection q;lia)];dsimp only;rw[if_neg (show ¬ (x=43\/x=45) by exact K6 hxn),if_neg iJ,if_neg (by exact S3 hxn rfl rfl)]
  ·show qd (43::x::r)=some (fT 0 (x::r));unfold qd;rw[if_neg (by intro q;injection q;lia)];dsimp only;rw[if_pos (show(43:Nat)=43\/(43:Nat)=45 from .inl rfl),if_neg iJ,if_neg (by exact S4 rfl)]
  ·show qd (45::x::r)=some (BB (s+1+1) (fT 0 (x::r)));unfold qd;rw[if_neg (by intro q;injection q;lia)];dsimp only;rw[if_pos (show(45:Nat)=43\/(45:Nat)=45 from .inr rfl),if_neg iJ,if_pos rfl];unfold BB;rw[if_neg (by exact K7)]
 |word i hi=>exact BE i hi
 |more i k hi h5=>exact BF i hi h5 k
theorem fV.gh(h:fV l a b)(hl:l.length<=1000):∃J,ah (n+1) cx [.str (tx l)] H=some (.val (hU a) (H++J)):=by
 have:=tA (n:=n) (H:=H) hl;rw[h.OP]at this;exact this
theorem fV.kB(h:fV l a b)(hl:l.length<=1000):∃J,ah (n+2) gj [.str (tx l)] H=some (.val (uc b) (H++J)):=by
 obtain⟨J,hJ⟩:=h.gh hl (n:=n) (H:=H);obtain⟨-,w2,w3,-,w5,-,w7,w8,w9,-⟩:=As;rw[aD (by decide) rfl ⟨ao _,ao _⟩]
 suffices ∃J,aR (gn (ah (n+1)) [some (.str (tx l)),none] H) (.val (uc b) (H++J)) by
  obtain⟨J,h⟩:=this;exact⟨J,aP h⟩
 unfold gn;cases a with
 |some z=>
  refine⟨J,aj (L1:=[some (.str (tx l)),some (.int z)]) (H1:=H++J) (aJ ((bh rfl).trans hJ)) ?_⟩;have hb:b=some (z !=0):=by
   (generalize ha:(some z:Option Int)=a at h;revert a;refine gA ?_;intros)
   cases h with
   |num s ds h1 h2=>cases ha;rfl
   |word i hi=>
    rcases OO i hi with q|⟨q1,q2⟩
    ·rw[q]at ha;cases ha
    ·rw[q1]at ha;cases ha;exact q2
   |more i k hi h5=>cases ha
  rw[hb];exact aL (p:=.bool _) (L1:=_) (aB (H1:=H++J) rfl |>.trans rfl)
 |none=>
  refine⟨J++[.dict [(S "yes",.bool true),(S "oFF",.bool false),(S "n",.bool false),(S "on",.bool true),(S "f",.bool false),(S "no",.bool false)]],aj (L1:=[some (.str (tx l)),some .none]) (H1:=H++J) (aJ ((bh rfl).trans hJ)) ?_⟩;refine aj (L1:=[some (.str (tx l)),some .none]) (H1:=H++J) rfl ?_;rw[<-bZ]
  (generalize H++J=H';revert H';refine gA ?_;intros)
  have hd:cG (tx l) [(S "yes",.bool true),(S "oFF",.bool false),(S "n",.bool false),(S "on",.bool true),(S "f",.bool false),(S "no",.bool false)]=b.map MV.bool:=by
   (generalize ha:(none:Option Int)=a at h;revert a;refine gA ?_;intros)
   cases h with
   |num s ds h1 h2=>cases ha
   |word i hi=>exact Ei i hi ha.symm
   |more i k hi h5=>
    rw[w2,w3,w5,w7,w8,w9];simp only[Ak,Sg,yN];have hm:49∈wd i++49::List.replicate k 49:=by simp
    have ne:∀w:List Nat,49∉w->¬ (wd i++49::List.replicate k 49=w):=fun w hw q=>hw (q▸hm)
    rw[if_neg (ne _ (by simp)),if_neg (ne _ (by simp)),if_neg (ne _ (by simp)),if_neg (ne _ (by simp)),if_neg (ne _ (by simp)),if_neg (ne _ (by simp))];rfl
  have hr:((b.map MV.bool).getD .none)=uc b:=by cases b<;>rfl
  (generalize hes: [(S "yes",MV.bool true),(S "oFF",.bool false),(S "n",.bool false),(S "on",.bool true),(S "f",.bool false),(S "no",.bool false)]=es at hd ⊢;revert es;refine gA ?_;intros)
  have Ej:∀o L,(ef [(S "yes"),(S "oFF"),(S "n"),(S "on"),(S "f"),(S "no")] (aa (af (.bool true)) (aa (af (.bool false)) (aa (af (.bool false)) (aa (af (.bool true)) (aa (af (.bool false)) (aa (af (.bool false)) ai))))))) o L H'=some (.val (.obj H'.length) (H'++[.dict es])):=fun o L=>by
   subst hes;exact rC (xs:=[.bool true,.bool false,.bool false,.bool true,.bool false,.bool false]) rfl rfl
  have hbt:jD .dict (.obj H'.length) (H'++[.dict es])=true:=by unfold jD;dsimp only;rw[bc]
  have OQ:nX (.obj H'.length) [.str (tx l)] (H'++[.dict es])=some (.val (uc b) (H'++[.dict es])):=by
   unfold nX;dsimp only;rw[bc];dsimp only;rw[hd,hr]
  refine aL (p:=uc b) (L1:=[some (.str (tx l)),some .none]) (H1:=H'++[.dict es]) ?_;show aK (cM .dict nX (ef _ _) _) _ _ _=_;unfold aK cM;rw[Ej];simp only[bindR,aW,hbt,c9,aa,ai,ae,eM,OQ]
structure Out where
 code:Int
 val:Str
 ec:MV
 lv:Int
noncomputable def Out.mv(o:Out):MV:=.tup [.int o.code,.str o.val,o.ec,.int o.lv]
noncomputable def good(t:Str):Out:=⟨0,t,.tup [],0⟩
noncomputable def bad(t:Str)(ec:MV):Out:=⟨1,t,ec,0⟩
structure ExcAt(H:MH)(k:Nat)(o:Out):Prop where
 ex:∃kd fs,H[k]?=some (.exc true kd)/\H[kd]?=some (.attrs fs)/\cG (S "code") fs=some (.int o.code)/\cG (S "value") fs=some (.str o.val)/\cG (S "errorcode") fs=some o.ec/\cG (S "level") fs=some (.int o.lv)/\noFn o.ec=true
def iX(H:MH)(o:Out)(r:Bool):MH:=[.attrs (rS (.int o.code) (.str o.val) o.ec (.int o.lv)),.exc r H.length]
theorem lB(H:MH)(o:Out)(h:noFn o.ec=true):ExcAt (H++iX H o true) (H.length+1) o:=by
 refine⟨H.length,rS (.int o.code) (.str o.val) o.ec (.int o.lv),?_,?_,?_,?_,?_,?_,h⟩
 ·unfold iX;rw[ib (by exact lU),wi];rfl
 ·unfold iX;rw[ib (ao _),k8];rfl
 ·rfl'
 ·rfl'
 ·rfl'
 ·rfl'
theorem mG:ah (n+3) jK [.str t,ec] H=some (.val (.obj (H.length+1)) (H++iX H (bad t ec) false)):=by rfl'
theorem hV(hl:H.length<=H1.length)(h:e o L H=some (.val (.obj (H1.length+1)) (H1++iX H1 x false))):g' e o L H=some (.exc (H1.length+1) L (H1++iX H1 x true)):=by
 unfold g' aW;rw[h];dsimp only;have e1:(H1++iX H1 x false)[H1.length+1]?=some (.exc false H1.length):=by unfold iX;rw[ib (by exact lU),wi];rfl
 have e2:(H1++iX H1 x false).set (H1.length+1) (.exc true H1.length)=H1++iX H1 x true:=by
  unfold iX;rw[List.set_append_right _ _ (by exact lU),wi];rfl
 rw[if_pos (by exact D9 hl),e1];dsimp only;rw[e2]
theorem aS(a b:Str):(a++b).length=a.length+b.length:=by
 show(a.cps++b.cps).size=_;rw[Array.size_append];rfl
theorem qe(a b c:Str):a++b++c=a++(b++c):=by
 show(⟨a.cps++b.cps++c.cps⟩:Str)=⟨a.cps++(b.cps++c.cps)⟩;rw[Array.append_assoc]
theorem nk(a:Str):a++Str.empty=a:=by
 show(⟨a.cps++#[]⟩:Str)=a;rw[Array.append_empty]
theorem add_str(h:a.length+b.length<=1000000):bb (.str a) (.str b) H=some (.val (.str (a++b)) H):=by
 unfold bb;dsimp only;rw[if_pos (by rw[d9];exact yq h rfl)]
theorem OR(a b:List Nat):tx a++tx b=tx (a++b):=by
 show(⟨a.toArray++b.toArray⟩:Str)=_;simp
def Sr:MV:=.tup [.str (S "TCL"),.str (S "VALUE"),.str (S "BOOLEAN")]
def lY(t:Str):Out:=bad (S "expected boolean value but got \""++t++S "\"") Sr
theorem yR:(S "expected boolean value but got \"").length<=100/\(S "\"").length=1/\(S "non-numeric string \"").length<=100/\(S "can't use ").length<=100/\(S " as operand of \"").length<=100/\(S "non-numeric string").length<=100/\(S " \"").length<=100/\(S "empty string").length<=100/\(S "expected number but got \"").length<=100:=by ac_rfl
theorem fV.qf(h:fV l a b)(hl:l.length<=1000):ah (n+5) cD [.str (tx l)] H=match b with
  |some c=>some (.val (.bool c) H)
  |none=>some (.exc (H.length+1) (H++iX H (lY (tx l)) true)):=by
 obtain⟨n1,n2,-⟩:=yR;have hb:=fun H=>h.bool hl (n:=n) (H:=H)
 have ht:(tx l).length<=1000:=by rw[hS];exact hl
 rw[aD (by decide) rfl ⟨ao _,ao _⟩];cases b with
 |some c=>
  refine aP ?_;show aR (gk (ah (n+4)) [some (.str (tx l)),none] H) _;unfold gk;refine aj (L1:=[some (.str (tx l)),some (.bool c)]) (H1:=H) (aJ ((bh rfl).trans (hb H))) ?_;refine aj (L1:=[some (.str (tx l)),some (.bool c)]) (H1:=H) rfl ?_;exact aL (L1:=_) rfl
 |none=>
  refine aP ?_;show aR (gk (ah (n+4)) [some (.str (tx l)),none] H) _;unfold gk;refine aj (L1:=[some (.str (tx l)),some .none]) (H1:=H) (aJ ((bh rfl).trans (hb H))) ?_;refine dA (L1:=[some (.str (tx l)),some .none]) ((aB (H1:=H) rfl).trans (cu (hV (H1:=H) (ao _) ?_)));simp only[bindR,c2,ae,af,aG,aa,ai,ak,eM,bo,cS,Nat.reduceAdd,Nat.reduceLeDiff,c9,d9,add_str (show(S "expected boolean value but got \"").length+(tx l).length<=1000000 by lia),add_str (show(S "expected boolean value but got \""++tx l).length+(S "\"").length<=1000000 by rw[aS];lia)];exact mG
theorem lC:ah (n+1) dN [.bool b] H=some (.val (.str (if b then S "1" else S "0")) H):=by cases b<;>rfl'
theorem lD(a b:Str)(H:MH):bQ (.str a) (.str b) H=some (.val (.bool (a==b)) H):=rfl
def dX(l:List Nat):Str:=if l=[] then S "empty string" else S "non-numeric string \""++(tx l++S "\"")
def jk(l:List Nat):Str:=if l=[] then S "empty string" else S "non-numeric string"
def Ek(op:Str)(l:List Nat):Out:=bad (S "can't use "++(dX l++(S " as operand of \""++(op++S "\"")))) (.tup [.str (S "ARITH"),.str (S "DOMAIN"),.str (jk l)])
theorem qI(hl:l.length<=1000):(dX l).length<=1200:=by
 obtain⟨-,n2,n3,-,-,-,-,n8,-⟩:=yR;unfold dX
 split
 ·exact Ov n8 rfl
 ·rw[aS,aS,hS l];exact Ow hl n2 n3
theorem v7(h:c o L H=some (.val xs H))(h1:strsOf xs=some l)(h2:wt l<=1000000):mz c o L H=some (.val (.str (my l)) H):=by
 unfold mz;rw[h];simp only[bindR,h1];rw[if_pos (by rw[d9];exact cU h2 rfl)]
theorem kC(ho:op.length<=100)(hl:l.length<=1000):ah (n+4) iA [.str op,.str (tx l)] H=some (.val (.obj (H.length+1)) (H++iX H (Ek op l) false)):=by
 obtain⟨-,n2,n3,n4,n5,-,-,n8,-⟩:=yR;have hs:=qI hl;rw[aD (by decide) rfl ⟨ao _,ao _⟩];refine aP ?_;show aR (dI (ah (n+3)) [some (.str op),some (.str (tx l)),none,none] H) _;unfold dI;have c1:(mz (aa (af (.str (S "non-numeric string \""))) (aa (ae 1) (aa (af (.str (S "\""))) ai)))) (ah (n+3)) [some (.str op),some (.str (tx l)),none,none] H=some (.val (.str (S "non-numeric string \""++(tx l++S "\""))) H):=by
  refine(v7 (xs:=[.str (S "non-numeric string \""),.str (tx l),.str (S "\"")]) (l:=[S "non-numeric string \"",tx l,S "\""]) rfl rfl (by simp only[yH,yG,hS];exact Ox hl n2 n3)).trans ?_;simp only[yF,yE,nk]
 refine aj (L1:=[some (.str op),some (.str (tx l)),some (.str (S "non-numeric string")),some (.str (S "non-numeric string \""++(tx l++S "\"")))]) (H1:=H) ?_ ?_
 ·unfold u9;rw[jE (H1:=H) rfl c1];rfl
 refine aj (L1:=[some (.str op),some (.str (tx l)),some (.str (jk l)),some (.str (dX l))]) (H1:=H) ?_ ?_
 ·by_cases h0:l=[]
  ·have hd:decide (l=[])=true:=by simpa using h0
   unfold jk dX;rw[if_pos h0,if_pos h0];exact(aB (H1:=H) ((eq_nil rfl).trans (by rw[hd]))).trans rfl
  ·have hd:decide (l=[])=false:=by simpa using h0
   unfold jk dX;rw[if_neg h0,if_neg h0];exact(aw (H1:=H) ((eq_nil rfl).trans (by rw[hd]))).trans rfl
 have c2:(mz (aa (af (.str (S "can't use "))) (aa (ae 3) (aa (af (.str (S " as operand of \""))) (aa (ae 0) (aa (af (.str (S "\""))) ai)))))) (ah (n+3)) [some (.str op),some (.str (tx l)),some (.str (jk l)),some (.str (dX l))] H=some (.val (.str (Ek op l).val) H):=by
  refine(v7 (xs:=[.str (S "can't use "),.str (dX l),.str (S " as operand of \""),.str op,.str (S "\"")]) (l:=[S "can't use ",dX l,S " as operand of \"",op,S "\""]) rfl rfl (by simp only[yH,yG];exact Oy ho n2 n4 n5 hs)).trans ?_;simp only[yF,yE,nk,Ek,bad]
 refine aL (L1:=[some (.str op),some (.str (tx l)),some (.str (jk l)),some (.str (dX l))]) ?_;refine aI ((call2 c2 (mc rfl rfl rfl)).trans ?_);rw[mG];rfl
theorem fV.operand(h:fV l a b)(ho:op.length<=100)(hl:l.length<=1000):ah (n+5) j3 [.str op,.str (tx l)] H=match a with
  |some z=>some (.val (.int z) H)
  |none=>some (.exc (H.length+1) (H++iX H (Ek op l) true)):=by
 have hw:=fun H=>h.whole hl (n:=n+1) (H:=H)
 rw[aD (by decide) rfl ⟨ao _,ao _⟩];cases a with
 |some z=>
  refine aP ?_;show aR (j5 (ah (n+4)) [some (.str op),some (.str (tx l)),none] H) _;unfold j5;refine aj (L1:=[some (.str op),some (.str (tx l)),some (.int z)]) (H1:=H) (aJ ((bh rfl).trans (hw H))) ?_;refine aj (L1:=[some (.str op),some (.str (tx l)),some (.int z)]) (H1:=H) rfl ?_;exact aL (L1:=_) rfl
 |none=>
  refine aP ?_;show aR (j5 (ah (n+4)) [some (.str op),some (.str (tx l)),none] H) _;unfold j5;refine aj (L1:=[some (.str op),some (.str (tx l)),some .none]) (H1:=H) (aJ ((bh rfl).trans (hw H))) ?_;refine dA (L1:=[some (.str op),some (.str (tx l)),some .none]) ((aB (H1:=H) rfl).trans (cu (hV (H1:=H) (ao _) ?_)));refine(call2 rfl rfl).trans ?_;exact kC ho hl
theorem str_int(h:z.natAbs<10^400):iN (.int z) H=some (.val (.str (tx (jF z))) H):=by
 unfold iN;dsimp only;rw[if_pos (cF h (by
  have:(10:Nat)^400<=16^400:=Nat.pow_le_pow_left (by decide) _;refine aN this ?_;rw[show(16:Nat)=2^4 from rfl,<-Nat.pow_mul];exact eD (by decide) (by decide))),Sq]
noncomputable def wN(b:Bool):List Nat:=if b then [49] else [48]
theorem oY(b:Bool):(if b then S "1" else S "0")=tx (wN b):=by cases b<;>ac_rfl
theorem fV.QX(b:Bool):fV (wN b) (some (if b then 1 else 0)) (some b):=by
 cases b
 ·exact .num 0 [48] (by simp) rfl
 ·exact .num 0 [49] (by simp) rfl
def lE(l:List Nat)(b:Option Bool):Out:=match b with
 |some c=>good (tx (wN !c))
 |none=>Ek (S "!") l
def lF(l:List Nat)(a:Option Int):Out:=match a with
 |some z=>good (tx (jF (0-z)))
 |none=>Ek (S "-") l
inductive Gives(r:Option (Res MV))(H:MH)(o:Out):Prop
 |val (J:MH) (c0:o.code=0) (h:r=some (.val (.str o.val) (H++J)))
 |exc (J:MH) (k:Nat) (c0:o.code≠0) (h:r=some (.exc k (H++J))) (x:ExcAt (H++J) k o) (l:H.length<=k)
theorem gi(h:r=some (.val (.str t) (H++J))):Gives r H (good t):=.val J rfl h
theorem kD(hc:noFn ec=true)(h:r=some (.exc (H.length+1) (H++iX H (bad t ec) true))):Gives r H (bad t ec):=.exc _ _ (by show(1:Int)≠0;decide) h (lB _ _ hc) (by exact lU)
theorem UA:(S "!"==S "!")=true/\(S "-"==S "-")=true/\(S "-"==S "!")=false/\(S "!"==S "-")=false/\(S "!").length<=100/\(S "-").length<=100:=by ac_rfl
theorem fV.OS(h:fV l a b)(hl:l.length<=1000):Gives (ah (n+6) kZ [.str (S "!"),.str (tx l)] H) H (lE l b):=by
 have hb:=fun H=>h.bool hl (n:=n+1) (H:=H)
 obtain⟨q1,-,-,-,q5,-⟩:=UA;rw[aD (by decide) rfl ⟨ao _,ao _⟩];cases b with
 |some c=>
  refine gi (J:=[]) ?_;rw[bp,<-oY];refine aP ?_;show aR (hZ (ah (n+5)) [some (.str (S "!")),some (.str (tx l)),none,none] H) _;unfold hZ;refine aL (L1:=[some (.str (S "!")),some (.str (tx l)),some (.bool c),none]) ((aB (H1:=H) (by rfl')).trans ((aF (L1:=[some (.str (S "!")),some (.str (tx l)),some (.bool c),none]) (H1:=H) (aJ ((bh rfl).trans (hb H)))).trans ((aF (L1:=[some (.str (S "!")),some (.str (tx l)),some (.bool c),none]) (H1:=H) rfl).trans (aE (aI ((bh rfl).trans lC))))))
 |none=>
  refine kD rfl ?_;refine aP ?_;show aR (hZ (ah (n+5)) [some (.str (S "!")),some (.str (tx l)),none,none] H) _;unfold hZ;refine dA (L1:=[some (.str (S "!")),some (.str (tx l)),some .none,none]) ((aB (H1:=H) (by rfl')).trans ((aF (L1:=[some (.str (S "!")),some (.str (tx l)),some .none,none]) (H1:=H) (aJ ((bh rfl).trans (hb H)))).trans (cu ((aB (H1:=H) rfl).trans (cu (hV (H1:=H) (ao _) ?_))))));refine(call2 rfl rfl).trans ?_;exact kC (n:=n+1) q5 hl
theorem fV.OT(h:fV l a b)(hl:l.length<=390):Gives (ah (n+6) kZ [.str (S "-"),.str (tx l)] H) H (lF l a):=by
 obtain⟨-,q2,q3,-,-,q6⟩:=UA;have hop:=fun H=>h.operand q6 (by exact cU hl rfl) (n:=n) (H:=H)
 rw[aD (by decide) rfl ⟨ao _,ao _⟩];cases a with
 |some z=>
  have hz:(-z).natAbs<10^400:=by rw[Int.natAbs_neg];exact cF h.bound (eD (by decide) (by exact cU hl rfl))
  refine gi (J:=[]) ?_;rw[bp,show(0-z)=-z by exact KW];refine aP ?_;show aR (hZ (ah (n+5)) [some (.str (S "-")),some (.str (tx l)),none,none] H) _;unfold hZ;refine aj (L1:=[some (.str (S "-")),some (.str (tx l)),none,none]) (H1:=H) ((aw (H1:=H) (by rfl')).trans rfl) ?_;refine aj (L1:=[some (.str (S "-")),some (.str (tx l)),none,some (.int z)]) (H1:=H) (aJ ((call2 rfl rfl).trans (hop H))) ?_;exact aL (L1:=[some (.str (S "-")),some (.str (tx l)),none,some (.int z)]) ((aB (H1:=H) (by rfl')).trans (aE (aI (d0 rfl (str_int hz)))))
 |none=>
  refine kD rfl ?_;refine aP ?_;show aR (hZ (ah (n+5)) [some (.str (S "-")),some (.str (tx l)),none,none] H) _;unfold hZ;refine aj (L1:=[some (.str (S "-")),some (.str (tx l)),none,none]) (H1:=H) ((aw (H1:=H) (by rfl')).trans rfl) ?_;exact dA (L1:=[some (.str (S "-")),some (.str (tx l)),none,none]) (fg ((call2 rfl rfl).trans (hop H)))
theorem cW:ah (n+1) aZ [.str t] H=some (.val (good t).mv H):=by rfl'
theorem kE:ah (n+1) eB [.str t,ec] H=some (.val (bad t ec).mv H):=by rfl'
theorem Va:S "non-numeric string"++S " \""=S "non-numeric string \"":=by ac_rfl
theorem dw(ha:a o L H=some (.val (.str x) H1))(hb:b o L H1=some (.val (.str y) H2))(h:x.length+y.length<=1000000):c2 bb a b o L H=some (.val (.str (x++y)) H2):=by
 unfold c2;rw[ha];simp only[bindR,hb,add_str h]
theorem mH(hl:l.length<=1000):ah (n+2) jh [.str (tx l)] H=some (.val (lY (tx l)).mv H):=by
 obtain⟨n1,n2,-⟩:=yR;have ht:=hS l;rw[aD (by decide) rfl ⟨ao _,ao _⟩];refine aP ?_;show aR (gI (ah (n+1)) [some (.str (tx l))] H) _;unfold gI;refine aL (L1:=[some (.str (tx l))]) (aI ((call2 (dw (dw (H1:=H) rfl (H2:=H) rfl (by lia)) (H2:=H) rfl (by rw[aS];lia)) (mc rfl rfl rfl)).trans ?_));exact kE
theorem i6(ho:op.length<=100)(hl:l.length<=1000):ah (n+2) fE [.str op,.str (tx l)] H=some (.val (Ek op l).mv H):=by
 obtain⟨-,n2,n3,n4,n5,n6,n7,n8,-⟩:=yR;have ht:=hS l;have hs:=qI hl;rw[aD (by decide) rfl ⟨ao _,ao _⟩];refine aP ?_;show aR (fJ (ah (n+1)) [some (.str op),some (.str (tx l)),none,none] H) _;unfold fJ;have fin:aR ((ag (aK (ak (af (.fn (.ref eB))) (aa (c2 bb (c2 bb (c2 bb (c2 bb (af (.str (S "can't use "))) (ae 3)) (af (.str (S " as operand of \"")))) (ae 0)) (af (.str (S "\"")))) (aa (aG (aa (af (.str (S "ARITH"))) (aa (af (.str (S "DOMAIN"))) (aa (ae 2) ai)))) ai))))
 aq) (ah (n+1)) [some (.str op),some (.str (tx l)),some (.str (jk l)),some (.str (dX l))] H) (.val (Ek op l).mv H):=by
  refine aL (L1:=[some (.str op),some (.str (tx l)),some (.str (jk l)),some (.str (dX l))]) (aI ((call2 (dw (dw (dw (dw (H1:=H) rfl (H2:=H) rfl (by exact Oo n4 hs)) (H2:=H) rfl (by rw[aS];exact Oq n4 n5 hs)) (H2:=H) rfl (by rw[aS,aS];exact Ot ho n4 n5 hs)) (H2:=H) rfl (by rw[aS,aS,aS];exact Ou ho n2 n4 n5 hs)) (mc rfl rfl rfl)).trans ?_));rw[kE];simp only[qe];rfl
 by_cases h0:l=[]
 ·have hd:decide (l=[])=true:=by simpa using h0
  refine aj (L1:=[some (.str op),some (.str (tx l)),some (.str (S "empty string")),none]) (H1:=H) (aJ (fU ((eq_nil rfl).trans (by rw[hd])))) ?_;refine aj (L1:=[some (.str op),some (.str (tx l)),some (.str (S "empty string")),some (.str (S "empty string"))]) (H1:=H) (aJ (fU ((eq_nil rfl).trans (by rw[hd])))) ?_;have e1:jk l=S "empty string":=if_pos h0;have e2:dX l=S "empty string":=if_pos h0;rw[e1,e2]at fin;exact fin
 ·have hd:decide (l=[])=false:=by simpa using h0
  have e1:jk l=S "non-numeric string":=if_neg h0;have e2:dX l=S "non-numeric string"++S " \""++tx l++S "\"":=by
   rw[Va];unfold dX;rw[if_neg h0];simp only[qe]
  refine aj (L1:=[some (.str op),some (.str (tx l)),some (.str (S "non-numeric string")),none]) (H1:=H) (aJ (eT ((eq_nil rfl).trans (by rw[hd])))) ?_;refine aj (L1:=[some (.str op),some (.str (tx l)),some (.str (S "non-numeric string")),some (.str (dX l))]) (H1:=H) ?_ ?_
  ·refine aJ ((eT ((eq_nil rfl).trans (by rw[hd]))).trans ?_);rw[e2];exact dw (dw (dw rfl rfl (by exact uT n6 n7)) rfl (by rw[aS];lia)) rfl (by rw[aS,aS];lia)
  ·rw[e1]at fin;exact fin
theorem fV.HN(h:fV l a b)(hl:l.length<=390):∃J,ah (n+3) ft [.str (S "!"),.str (tx l)] H=some (.val (lE l b).mv (H++J)):=by
 obtain⟨q1,q2,q3,q4,q5,q6⟩:=UA;obtain⟨J1,h1⟩:=h.kB (by exact cU hl rfl) (n:=n) (H:=H);obtain⟨J2,h2⟩:=h.gh (by exact cU hl rfl) (n:=n+1) (H:=H++J1);refine⟨J1++J2,?_⟩;rw[<-bZ];rw[aD (by decide) rfl ⟨ao _,ao _⟩];refine aP ?_;show aR (gq (ah (n+2)) [some (.str (S "!")),some (.str (tx l)),none,none] H) _;unfold gq;refine aj (L1:=[some (.str (S "!")),some (.str (tx l)),some (uc b),none]) (H1:=H++J1) (aJ ((bh rfl).trans h1)) ?_;refine aj (L1:=[some (.str (S "!")),some (.str (tx l)),some (uc b),some (hU a)]) (H1:=H++J1++J2) (aJ ((bh rfl).trans h2)) ?_
 (generalize H++J1++J2=H';revert H';refine gA ?_;intros)
 cases b with
 |some c=>
  refine aL (L1:=[some (.str (S "!")),some (.str (tx l)),some (.bool c),some (hU a)]) ((aB (H1:=H') (by rfl')).trans (aE (aI ((bh (H1:=H') (x:=.str (tx (wN !c))) ?_).trans cW))));rw[<-oY];cases c<;>rfl
 |none=>
  refine aj (L1:=[some (.str (S "!")),some (.str (tx l)),some .none,some (hU a)]) (H1:=H') ((aw (H1:=H') (by rfl')).trans rfl) ?_;refine aj (L1:=[some (.str (S "!")),some (.str (tx l)),some .none,some (hU a)]) (H1:=H') ((aw (H1:=H') (by rfl')).trans rfl) ?_;exact aL (L1:=[some (.str (S "!")),some (.str (tx l)),some .none,some (hU a)]) (aI ((call2 rfl rfl).trans (i6 q5 (by exact cU hl rfl))))
theorem fV.HO(h:fV l a b)(hl:l.length<=390):∃J,ah (n+3) ft [.str (S "-"),.str (tx l)] H=some (.val (lF l a).mv (H++J)):=by
 obtain⟨q1,q2,q3,q4,q5,q6⟩:=UA;obtain⟨J1,h1⟩:=h.kB (by exact cU hl rfl) (n:=n) (H:=H);obtain⟨J2,h2⟩:=h.gh (by exact cU hl rfl) (n:=n+1) (H:=H++J1);refine⟨J1++J2,?_⟩;rw[<-bZ];rw[aD (by decide) rfl ⟨ao _,ao _⟩];refine aP ?_;show aR (gq (ah (n+2)) [some (.str (S "-")),some (.str (tx l)),none,none] H) _;unfold gq;refine aj (L1:=[some (.str (S "-")),some (.str (tx l)),some (uc b),none]) (H1:=H++J1) (aJ ((bh rfl).trans h1)) ?_;refine aj (L1:=[some (.str (S "-")),some (.str (tx l)),some (uc b),some (hU a)]) (H1:=H++J1++J2) (aJ ((bh rfl).trans h2)) ?_;have hb:=fun z (e:a=some z)=>(show fV l (some z) b from e▸h).bound
 (generalize H++J1++J2=H';revert H';refine gA ?_;intros)
 refine aj (L1:=[some (.str (S "-")),some (.str (tx l)),some (uc b),some (hU a)]) (H1:=H') ((aw (H1:=H') (by rfl')).trans rfl) ?_;cases a with
 |some z=>
  have hz:(0-z).natAbs<10^400:=by rw[show(0-z).natAbs=z.natAbs by exact D'];exact cF (hb z rfl) (eD (by decide) (by exact cU hl rfl))
  refine aL (L1:=[some (.str (S "-")),some (.str (tx l)),some (uc b),some (.int z)]) ((aB (H1:=H') (by rfl')).trans (aE (aI ((bh (H1:=H') (x:=.str (tx (jF (0-z)))) ?_).trans cW))));exact d0 rfl (str_int hz)
 |none=>
  refine aj (L1:=[some (.str (S "-")),some (.str (tx l)),some (uc b),some .none]) (H1:=H') ((aw (H1:=H') (by rfl')).trans rfl) ?_;exact aL (L1:=[some (.str (S "-")),some (.str (tx l)),some (uc b),some .none]) (aI ((call2 rfl rfl).trans (i6 q6 (by exact cU hl rfl))))
noncomputable def gY:Nat->Str
 |0=>S "+"
 |1=>S "-"
 |2=>S "*"
 |3=>S "=="
 |4=>S "<"
 |_=>S "eq"
noncomputable def Kk:Nat->Int->Int->Int
 |0,m,n=>m+n
 |1,m,n=>m-n
 |_,m,n=>m*n
noncomputable def eqv(a b:Option Int)(x y:Str):Bool:=match a,b with
 |some m,some n=>m==n
 |_,_=>x==y
def Vb(a b:Option Int)(x y:Str):Bool:=match a,b with
 |some m,some n=>decide (m<n)
 |_,_=>strLt x y
def ue(k:Nat)(la lb:List Nat)(a b:Option Int):Out:=match a,b with
 |none,_=>Ek (gY k) la
 |some _,none=>Ek (gY k) lb
 |some m,some n=>good (tx (jF (Kk k m n)))
def el(k:Nat)(la lb:List Nat)(a b:Option Int):Out:=
 if k=5 then good (tx (wN (tx la==tx lb)))
 else if k=3 then good (tx (wN (eqv a b (tx la) (tx lb))))
 else if k=4 then good (tx (wN (Vb a b (tx la) (tx lb))))
 else ue k la lb a b
def yS(x y:Str):Int:=if x==y then 0 else if strLt x y then -1 else 1
def OU(a b:Option Int)(x y:Str):Int:=match a,b with
 |some m,some n=>m-n
 |_,_=>yS x y
theorem ki:ah (n+1) l7 [.str x,.str y] H=some (.val (.int (yS x y)) H):=by
 rw[aD (by decide) rfl ⟨ao _,ao _⟩];refine aP ?_;show aR (iU (ah n) [some (.str x),some (.str y)] H) _;unfold iU yS;cases h:x==y with
 |true=>exact aL (L1:=[some (.str x),some (.str y)]) ((aB (H1:=H) (dB rfl rfl (by rw[lD,h]))).trans rfl)
 |false=>
  refine aj (L1:=[some (.str x),some (.str y)]) (H1:=H) ((aw (H1:=H) (dB rfl rfl (by rw[lD,h]))).trans rfl) ?_;have hlt:∀H,kq (.str x) (.str y) H=some (.val (.bool (strLt x y)) H):=fun _=>rfl
  refine aL (L1:=[some (.str x),some (.str y)]) (aI ?_);cases h2:strLt x y<;>simp only[tE,c2,c1,bindR,ae,af,dF,eM,iH,c9,if_false,pQ,eL,hlt,h2,qX]
theorem wO(h1:fV la a ta)(h2:fV lb b tb)(l1:la.length<=1000)(l2:lb.length<=1000):ah (n+4) rU [.str (tx la),.str (tx lb)] H=some (.val (.int (OU a b (tx la) (tx lb))) H):=by
 have w1:=fun H=>h1.whole l1 (n:=n) (H:=H)
 have w2:=fun H=>h2.whole l2 (n:=n) (H:=H)
 rw[aD (by decide) rfl ⟨ao _,ao _⟩];refine aP ?_;show aR (l9 (ah (n+3)) [some (.str (tx la)),some (.str (tx lb)),none,none] H) _;unfold l9;refine aj (L1:=[some (.str (tx la)),some (.str (tx lb)),some (hU a),none]) (H1:=H) (aJ ((bh rfl).trans (w1 H))) ?_;refine aj (L1:=[some (.str (tx la)),some (.str (tx lb)),some (hU a),some (hU b)]) (H1:=H) (aJ ((bh rfl).trans (w2 H))) ?_;cases a with
 |none=>exact aL (L1:=_) ((aB (H1:=H) rfl).trans (aE (aI ((call2 rfl rfl).trans (ki (n:=n+2))))))
 |some m=>
  cases b with
  |none=>exact aL (L1:=_) ((aB (H1:=H) rfl).trans (aE (aI ((call2 rfl rfl).trans (ki (n:=n+2))))))
  |some k=>
   refine aj (L1:=[some (.str (tx la)),some (.str (tx lb)),some (.int m),some (.int k)]) (H1:=H) rfl ?_;exact aL (L1:=_) rfl
theorem BG:ah (n+1) jg [.str (S "=="),.int z] H=some (.val (.bool (z==0)) H):=by rfl'
theorem BH:ah (n+1) jg [.str (S "<"),.int z] H=some (.val (.bool (decide (z<0))) H):=by rfl'
theorem yT:ah (n+1) jg [.str (S "eq"),.int z] H=some (.val (.bool (z==0)) H):=by rfl'
theorem v8(x y:Str):(yS x y==0)=(x==y):=by
 unfold yS;cases x==y with
 |true=>rfl
 |false=>cases strLt x y<;>rfl
theorem BI(x:Str):strLt x x=false:=by unfold strLt;simp
theorem Au(x y:Str):decide (yS x y<0)=strLt x y:=by
 unfold yS;cases h:x==y with
 |true=>rw[eq_of_beq h,BI];rfl
 |false=>cases strLt x y<;>rfl
theorem HP(a b:Option Int)(x y:Str):(OU a b x y==0)=eqv a b x y:=by
 cases a with
 |none=>exact v8 x y
 |some m=>cases b with
  |none=>exact v8 x y
  |some n=>show(_==_)=(m==n);rw[pV,eG,eG];exact Lk
theorem HQ(a b:Option Int)(x y:Str):decide (OU a b x y<0)=Vb a b x y:=by
 cases a with
 |none=>exact Au x y
 |some m=>cases b with
  |none=>exact Au x y
  |some n=>exact decide_eq_decide.mpr (by exact Ll)
theorem Kl(k:Nat)(hk:k<3):(∀H,(tE (c2 nF (ae 0) (aG (aa (af (.str (S "=="))) (aa (af (.str (S "!="))) (aa (af (.str (S "<"))) (aa (af (.str (S "<="))) (aa (af (.str (S ">"))) (aa (af (.str (S ">="))) ai))))))))) (fun _ _ _=>none) [some (.str (gY k))] H=some (.val false H))/\(gY k).length<=100:=by
 rcases k with _|_|_|k
 ·exact⟨fun H=>by rfl',by ac_rfl⟩
 ·exact⟨fun H=>by rfl',by ac_rfl⟩
 ·exact⟨fun H=>by rfl',by ac_rfl⟩
 ·exact absurd hk (Nat.not_lt_of_le (gC 3 k))
theorem jl(k:Nat):1<=10^k:=Nat.pow_pos (by decide)
theorem El(m n:Int):(m-n).natAbs<=m.natAbs+n.natAbs:=by
 have:=Int.natAbs_add_le m (-n)
 rwa [Int.natAbs_neg]at this
theorem v9(h1:a<X)(h2:b<X):a+b<X*10:=by exact Lm h1 h2
theorem sg(h1:0<X):X<X*10:=by exact Ln h1
theorem wQ(k:Nat)(h1:m.natAbs<10^la)(h2:n.natAbs<10^lb)(h:la+lb<=390):(Kk k m n).natAbs<10^400/\m.natAbs<10^400/\n.natAbs<10^400:=by
 have p1:m.natAbs<10^399:=cF h1 (eD (by decide) (by exact uP h rfl));have p2:n.natAbs<10^399:=cF h2 (eD (by decide) (by exact pY h rfl));have p3:∀x,x<10^399*10->x<(10:Nat)^400:=fun x h=>(Nat.pow_succ ..:(10:Nat)^400=10^399*10)▸h
 have q:∀{x:Nat},x<10^399->x<10^400:=fun h=>p3 _ (Nat.lt_trans h (sg (jl 399)))
 refine⟨?_,q p1,q p2⟩;rcases k with _|_|k
 ·exact p3 _ (gB (Int.natAbs_add_le m n) (v9 p1 p2))
 ·exact p3 _ (gB (El m n) (v9 p1 p2))
 ·refine p3 _ ?_;show(m*n).natAbs<_;rw[Int.natAbs_mul];refine gB (Nat.mul_le_mul (k7 h1) (k7 h2)) ?_;rw[<-Nat.pow_add];exact gB (eD (by decide) (by exact yq h rfl)) (sg (jl 399))
theorem Em{n:Nat}{k:Nat}(hk:k<3){x y:Int}{H:MH}(hx:x.natAbs<10^400)(hy:y.natAbs<10^400):ah (n+1) l0 [.str (gY k),.int x,.int y] H=some (.val (.int (Kk k x y)) H):=by
 have big:(10:Nat)^400<=2^6000:=by
  have:(10:Nat)^400<=16^400:=Nat.pow_le_pow_left (by decide) _;refine aN this ?_;rw[show(16:Nat)=2^4 from rfl,<-Nat.pow_mul];exact eD (by decide) (by decide)
 have e1:∀H,kX (.int x) (.int y) H=some (.val (.int (x*y)) H):=fun H=>by
  unfold kX;dsimp only;rw[if_pos ⟨cF hx big,cF hy big⟩]
 rcases k with _|_|_|k
 ·rfl'
 ·rfl'
 ·have q:(S "*"==S "+")=false/\(S "*"==S "-")=false/\(S "*"==S "*")=true:=by ac_rfl
  rw[aD (by decide) rfl ⟨ao _,ao _⟩];refine aP ?_;show aR (iT (ah n) [some (.str (S "*")),some (.int x),some (.int y)] H) _;unfold iT;refine aj (L1:=_) (H1:=H) ((aw (H1:=H) (dB rfl rfl (by rw[lD,q.1]))).trans rfl) ?_;refine aj (L1:=_) (H1:=H) ((aw (H1:=H) (dB rfl rfl (by rw[lD,q.2.1]))).trans rfl) ?_;exact aL (L1:=[some (.str (S "*")),some (.int x),some (.int y)]) ((aB (H1:=H) (dB rfl rfl (by rw[lD,q.2.2]))).trans (aE (aI (by simp only[c2,bindR,ae,eM,iH,e1];rfl))))
 ·exact absurd hk (Nat.not_lt_of_le (gC 3 k))
theorem BJ(hk:k<6)(h1:fV la a ta)(h2:fV lb b tb)(hl:la.length+lb.length<=390):Gives (ah (n+6) mE [.str (gY k),.str (tx la),.str (tx lb)] H) H (el k la lb a b):=by
 have l1:la.length<=1000:=by exact uP hl rfl
 have l2:lb.length<=1000:=by exact pY hl rfl
 have wo:=fun H=>wO (n:=n+1) (H:=H) h1 h2 l1 l2
 rw[aD (by decide) rfl ⟨ao _,ao _⟩];by_cases h3:k=3
 ·subst h3;refine gi (J:=[]) ?_;rw[bp,<-oY];refine aP ?_;show aR (fw (ah (n+5)) [some (.str (S "==")),some (.str (tx la)),some (.str (tx lb)),none,none,none] H) _;unfold fw;refine aL (L1:=_) ((aB (H1:=H) (by rfl')).trans (aE (aI ((bh (H1:=H) (x:=.bool (eqv a b (tx la) (tx lb))) ((call2 rfl ((call2 rfl rfl).trans (wo H))).trans ?_)).trans lC))));rw[<-HP];exact BG
 by_cases h4:k=4
 ·subst h4;refine gi (J:=[]) ?_;rw[bp,<-oY];refine aP ?_;show aR (fw (ah (n+5)) [some (.str (S "<")),some (.str (tx la)),some (.str (tx lb)),none,none,none] H) _;unfold fw;refine aL (L1:=_) ((aB (H1:=H) (by rfl')).trans (aE (aI ((bh (H1:=H) (x:=.bool (Vb a b (tx la) (tx lb))) ((call2 rfl ((call2 rfl rfl).trans (wo H))).trans ?_)).trans lC))));rw[<-HQ];exact BH
 by_cases h5:k=5
 ·subst h5;refine gi (J:=[]) ?_;rw[bp,<-oY];refine aP ?_;show aR (fw (ah (n+5)) [some (.str (S "eq")),some (.str (tx la)),some (.str (tx lb)),none,none,none] H) _;unfold fw;refine aj (L1:=[some (.str (S "eq")),some (.str (tx la)),some (.str (tx lb)),none,none,none]) (H1:=H) ((aw (H1:=H) (by rfl')).trans rfl) ?_;refine aL (L1:=_) ((aB (H1:=H) (by rfl')).trans (aE (aI ((bh (H1:=H) (x:=.bool (tx la==tx lb)) ((call2 rfl ((call2 rfl rfl).trans (ki (n:=n+4)))).trans ?_)).trans lC))));rw[<-v8];exact yT
 have hk3:k<3:=by exact Dc hk h3 h4 h5
 have hop:=(Kl k hk3).2;have o1:=fun H=>h1.operand hop l1 (n:=n) (H:=H)
 have o2:=fun H=>h2.operand hop l2 (n:=n) (H:=H)
 have aA:el k la lb a b=ue k la lb a b:=by
  unfold el;rw[if_neg h5,if_neg h3,if_neg h4]
 rw[aA];have skip:∀z,aR ((ag (aO 4 (ak (af (.fn (.ref j3))) (aa (ae 0) (aa (ae 1) ai))))
 (ag (aO 5 (ak (af (.fn (.ref j3))) (aa (ae 0) (aa (ae 2) ai))))
 (ag (aK (c1 iN (ak (af (.fn (.ref l0))) (aa (ae 0) (aa (ae 4) (aa (ae 5) ai))))))
 aq))) (ah (n+5)) [some (.str (gY k)),some (.str (tx la)),some (.str (tx lb)),none,none,none] H) z->dj 6 fw (ah (n+5)) [.str (gY k),.str (tx la),.str (tx lb)] H=some z:=by
  intro z hz;refine aP ?_;show aR (fw (ah (n+5)) [some (.str (gY k)),some (.str (tx la)),some (.str (tx lb)),none,none,none] H) _;unfold fw;rcases k with _|_|_|k
  ·refine aj (L1:=_) (H1:=H) ((aw (H1:=H) (by rfl')).trans rfl) ?_;refine aj (L1:=_) (H1:=H) ((aw (H1:=H) (by rfl')).trans rfl) ?_;exact aj (L1:=_) (H1:=H) ((aw (H1:=H) (by rfl')).trans rfl) hz
  ·refine aj (L1:=_) (H1:=H) ((aw (H1:=H) (by rfl')).trans rfl) ?_;refine aj (L1:=_) (H1:=H) ((aw (H1:=H) (by rfl')).trans rfl) ?_;exact aj (L1:=_) (H1:=H) ((aw (H1:=H) (by rfl')).trans rfl) hz
  ·refine aj (L1:=_) (H1:=H) ((aw (H1:=H) (by rfl')).trans rfl) ?_;refine aj (L1:=_) (H1:=H) ((aw (H1:=H) (by rfl')).trans rfl) ?_;exact aj (L1:=_) (H1:=H) ((aw (H1:=H) (by rfl')).trans rfl) hz
  ·exact absurd hk3 (Nat.not_lt_of_le (gC 3 k))
 cases a with
 |none=>
  exact kD rfl (skip _ (dA (L1:=[some (.str (gY k)),some (.str (tx la)),some (.str (tx lb)),none,none,none]) (fg ((call2 rfl rfl).trans (o1 H)))))
 |some x=>
  cases b with
  |none=>
   refine kD rfl (skip _ (aj (L1:=[some (.str (gY k)),some (.str (tx la)),some (.str (tx lb)),none,some (.int x),none]) (H1:=H) (aJ ((call2 rfl rfl).trans (o1 H))) ?_));exact dA (L1:=[some (.str (gY k)),some (.str (tx la)),some (.str (tx lb)),none,some (.int x),none]) (fg ((call2 rfl rfl).trans (o2 H)))
  |some y=>
   obtain⟨s1,s2,s3⟩:=wQ k h1.bound h2.bound hl;refine gi (J:=[]) ?_;rw[bp];refine skip _ (aj (L1:=[some (.str (gY k)),some (.str (tx la)),some (.str (tx lb)),none,some (.int x),none]) (H1:=H) (aJ ((call2 rfl rfl).trans (o1 H))) ?_);refine aj (L1:=[some (.str (gY k)),some (.str (tx la)),some (.str (tx lb)),none,some (.int x),some (.int y)]) (H1:=H) (aJ ((call2 rfl rfl).trans (o2 H))) ?_;refine aL (L1:=[some (.str (gY k)),some (.str (tx la)),some (.str (tx lb)),none,some (.int x),some (.int y)]) (aI ?_);unfold c1;rw[s7 (H1:=H) (H2:=H) (H3:=H) rfl rfl rfl,Em hk3 s2 s3];exact str_int s1
def Vd:CS:=(ag (bN (nd (tE (c1 bg (ae 3))) (tE (c1 bg (ae 4))))
  (ag (aK (ak (af (.fn (.ref fE))) (aa (ae 0) (aa (eL (tE (c1 bg (ae 3))) (ae 1) (ae 2)) ai))))
  aq)
  aq)
 (ag (aK (ak (af (.fn (.ref aZ))) (aa (c1 iN (c2 au (ef [(S "+"),(S "-"),(S "*")] (aa (c2 bb (ae 3) (ae 4)) (aa (c2 dT (ae 3) (ae 4)) (aa (c2 kX (ae 3) (ae 4)) ai)))) (ae 0))) ai)))
 aq))
def Ss:CS:=(ag (bN (tE (c2 bQ (ae 0) (af (.str (S "eq")))))
  (ag (aK (ak (af (.fn (.ref aZ))) (aa (eL (tE (c2 bQ (ae 1) (ae 2))) (af (.str (S "1"))) (af (.str (S "0")))) ai)))
  aq)
  aq)
 (ag (bN (tE (c2 nF (ae 0) (aG (aa (af (.str (S "=="))) (aa (af (.str (S "<"))) ai)))))
  (ag (bN (nd (tE (c1 bg (ae 3))) (tE (c1 bg (ae 4))))
   (ag (aK (ak (af (.fn (.ref aZ))) (aa (eL (tE (eL (tE (c2 bQ (ae 0) (af (.str (S "=="))))) (c2 bQ (ae 1) (ae 2)) (c2 kq (ae 1) (ae 2)))) (af (.str (S "1"))) (af (.str (S "0")))) ai)))
   aq)
   aq)
  (ag (aK (ak (af (.fn (.ref aZ))) (aa (eL (tE (eL (tE (c2 bQ (ae 0) (af (.str (S "=="))))) (c2 bQ (ae 3) (ae 4)) (c2 kq (ae 3) (ae 4)))) (af (.str (S "1"))) (af (.str (S "0")))) ai)))
  aq))
  aq) Vd))
section
variable{n k:Nat}{la lb:List Nat}{a b:Option Int}{ta tb:Option Bool}{H:MH}
theorem OV{b:Bool}{t:CT}{o:g8}{L:Loc}(h:t o L H=some (.val b H)):eL t (af (.str (S "1"))) (af (.str (S "0"))) o L H=some (.val (.str (tx (wN b))) H):=by
 unfold eL;rw[h,<-oY];cases b<;>rfl
theorem R2(c:CE)(h:tE c o L H=some (.val p H))(h1:(if p then x else y) o L H=some (.val r H)):eL (tE c) x y o L H=some (.val r H):=by
 unfold eL;rw[h];cases p<;>exact h1
theorem Ve:aR (Ss (ah (n+2)) [some (.str (gY 3)),some (.str (tx la)),some (.str (tx lb)),some (hU a),some (hU b)] H) (.val (el 3 la lb a b).mv H):=by
 refine aj (L1:=[some (.str (gY 3)),some (.str (tx la)),some (.str (tx lb)),some (hU a),some (hU b)]) (H1:=H) ((aw (H1:=H) (by rfl')).trans rfl) ?_;refine aL (L1:=[some (.str (gY 3)),some (.str (tx la)),some (.str (tx lb)),some (hU a),some (hU b)]) ((aB (H1:=H) (by rfl')).trans ?_);cases a with
 |none=>exact aE ((aB (H1:=H) rfl).trans (aE (aI ((bh (OV (b:=tx la==tx lb) (dp (R2 _ (p:=true) (by rfl') rfl)))).trans cW))))
 |some m=>
  cases b with
  |none=>exact aE ((aB (H1:=H) rfl).trans (aE (aI ((bh (OV (b:=tx la==tx lb) (dp (R2 _ (p:=true) (by rfl') rfl)))).trans cW))))
  |some j=>exact(aF (L1:=[some (.str (gY 3)),some (.str (tx la)),some (.str (tx lb)),some (.int m),some (.int j)]) (H1:=H) rfl).trans (aE (aI ((bh (OV (b:=m==j) (dp (R2 _ (p:=true) (by rfl') rfl)))).trans cW)))
theorem Vf:aR (Ss (ah (n+2)) [some (.str (gY 4)),some (.str (tx la)),some (.str (tx lb)),some (hU a),some (hU b)] H) (.val (el 4 la lb a b).mv H):=by
 refine aj (L1:=[some (.str (gY 4)),some (.str (tx la)),some (.str (tx lb)),some (hU a),some (hU b)]) (H1:=H) ((aw (H1:=H) (by rfl')).trans rfl) ?_;refine aL (L1:=[some (.str (gY 4)),some (.str (tx la)),some (.str (tx lb)),some (hU a),some (hU b)]) ((aB (H1:=H) (by rfl')).trans ?_);cases a with
 |none=>exact aE ((aB (H1:=H) rfl).trans (aE (aI ((bh (OV (b:=strLt (tx la) (tx lb)) (dp (R2 _ (p:=false) (by rfl') rfl)))).trans cW))))
 |some m=>
  cases b with
  |none=>exact aE ((aB (H1:=H) rfl).trans (aE (aI ((bh (OV (b:=strLt (tx la) (tx lb)) (dp (R2 _ (p:=false) (by rfl') rfl)))).trans cW))))
  |some j=>exact(aF (L1:=[some (.str (gY 4)),some (.str (tx la)),some (.str (tx lb)),some (.int m),some (.int j)]) (H1:=H) rfl).trans (aE (aI ((bh (OV (b:=decide (m<j)) (dp (R2 _ (p:=false) (by rfl') rfl)))).trans cW)))
theorem Vg:aR (Ss (ah (n+2)) [some (.str (gY 5)),some (.str (tx la)),some (.str (tx lb)),some (hU a),some (hU b)] H) (.val (el 5 la lb a b).mv H):=
 aL (L1:=[some (.str (gY 5)),some (.str (tx la)),some (.str (tx lb)),some (hU a),some (hU b)]) ((aB (H1:=H) (by rfl')).trans (aE (aI ((bh (OV (b:=tx la==tx lb) (dp rfl))).trans cW))))
theorem Su:∀k,k<3->aR (Vd (ah (n+2)) [some (.str (gY k)),some (.str (tx la)),some (.str (tx lb)),some (hU a),some (hU b)] H) z->aR (Ss (ah (n+2)) [some (.str (gY k)),some (.str (tx la)),some (.str (tx lb)),some (hU a),some (hU b)] H) z:=
 iI (iI (iI Sp fun hz=>aj (L1:=_) (H1:=H) ((aw (H1:=H) (by rfl')).trans rfl) (aj (L1:=_) (H1:=H) ((aw (H1:=H) (by rfl')).trans rfl) hz))
  fun hz=>aj (L1:=_) (H1:=H) ((aw (H1:=H) (by rfl')).trans rfl) (aj (L1:=_) (H1:=H) ((aw (H1:=H) (by rfl')).trans rfl) hz))
  fun hz=>aj (L1:=_) (H1:=H) ((aw (H1:=H) (by rfl')).trans rfl) (aj (L1:=_) (H1:=H) ((aw (H1:=H) (by rfl')).trans rfl) hz)
def R3(m j:Int):List (Str×MV):=[(S "+",.int (m+j)),(S "-",.int (m-j)),(S "*",.int (m*j))]
theorem OW:∀k,k<3->cG (gY k) (R3 m j)=some (MV.int (Kk k m j)):=iI (iI (iI Sp (by rfl')) (by rfl')) (by rfl')
theorem Eo(e1:kX (.int m) (.int j) H=some (.val (.int (m*j)) H)):(ef [(S "+"),(S "-"),(S "*")] (aa (c2 bb (ae 3) (ae 4)) (aa (c2 dT (ae 3) (ae 4)) (aa (c2 kX (ae 3) (ae 4)) ai)))) o [x,y,z,some (.int m),some (.int j)] H=some (.val (.obj H.length) (H++[.dict (R3 m j)])):=by
 have e1:kX (.int m) (.int j) (H++[.dict []])=some (.val (.int (m*j)) (H++[.dict []])):=by
  unfold kX at e1 ⊢;dsimp only at e1 ⊢;by_cases h:m.natAbs<2^6000/\j.natAbs<2^6000
  ·rw[if_pos h]
  ·rw[if_neg h]at e1;cases e1
 exact rC (xs:=[.int (m+j),.int (m-j),.int (m*j)]) (lq rfl (lq rfl (lq ((ba rfl rfl).trans e1) rfl))) rfl
theorem Sv:(10:Nat)^400<=2^6000:=by
 have:(10:Nat)^400<=16^400:=Nat.pow_le_pow_left (by decide) _;refine aN this ?_;rw[show(16:Nat)=2^4 from rfl,<-Nat.pow_mul];exact eD (by decide) (by decide)
theorem HR{m j:Int}{o:g8}{y z:Option MV}(hk:k<3)(s1:(Kk k m j).natAbs<10^400)(s2:m.natAbs<10^400)(s3:j.natAbs<10^400):(c1 iN (c2 au (ef [(S "+"),(S "-"),(S "*")] (aa (c2 bb (ae 3) (ae 4)) (aa (c2 dT (ae 3) (ae 4)) (aa (c2 kX (ae 3) (ae 4)) ai)))) (ae 0))) o [some (.str (gY k)),y,z,some (.int m),some (.int j)] H=some (.val (.str (tx (jF (Kk k m j)))) (H++[.dict (R3 m j)])):=by
 have e1:kX (.int m) (.int j) H=some (.val (.int (m*j)) H):=if_pos ⟨cF s2 Sv,cF s3 Sv⟩;have uZ:au (.obj H.length) (.str (gY k)) (H++[.dict (R3 m j)])=some (.val (.int (Kk k m j)) (H++[.dict (R3 m j)])):=by
  unfold au;dsimp only;rw[bc];dsimp only;rw[OW k hk]
 exact d0 ((ba (Eo e1) rfl).trans uZ) (str_int s1)
theorem Sw(hk:k<3)(h1:fV la a ta)(h2:fV lb b tb)(hl:la.length+lb.length<=390):∃J,aR (Vd (ah (n+2)) [some (.str (gY k)),some (.str (tx la)),some (.str (tx lb)),some (hU a),some (hU b)] H) (.val (ue k la lb a b).mv (H++J)):=by
 have hop:=(Kl k hk).2;have hb:=fun m j (e1:a=some m) (e2:b=some j)=>wQ k (show fV la (some m) ta from e1▸h1).bound (show fV lb (some j) tb from e2▸h2).bound hl
 clear h1 h2;cases a with
 |none=>
  refine⟨[],?_⟩;rw[bp];exact aL (L1:=[some (.str (gY k)),some (.str (tx la)),some (.str (tx lb)),some .none,some (hU b)]) ((aB (H1:=H) rfl).trans (aE (aI ((call2 (H1:=H) (H2:=H) rfl rfl).trans (i6 hop (by exact uP hl rfl))))))
 |some m=>
  cases b with
  |none=>
   refine⟨[],?_⟩;rw[bp];exact aL (L1:=[some (.str (gY k)),some (.str (tx la)),some (.str (tx lb)),some (.int m),some .none]) ((aB (H1:=H) rfl).trans (aE (aI ((call2 (H1:=H) (H2:=H) rfl rfl).trans (i6 hop (by exact pY hl rfl))))))
  |some j=>
   obtain⟨s1,s2,s3⟩:=hb m j rfl rfl;refine⟨[.dict (R3 m j)],aj (L1:=[some (.str (gY k)),some (.str (tx la)),some (.str (tx lb)),some (.int m),some (.int j)]) (H1:=H) rfl ?_⟩;exact aL (L1:=[some (.str (gY k)),some (.str (tx la)),some (.str (tx lb)),some (.int m),some (.int j)]) (aI ((bh (HR hk s1 s2 s3)).trans cW))
theorem yU(hk:k<6)(h1:fV la a ta)(h2:fV lb b tb)(hl:la.length+lb.length<=390):∃J,ah (n+3) fF [.str (gY k),.str (tx la),.str (tx lb)] H=some (.val (el k la lb a b).mv (H++J)):=by
 have main:∀H,∃J,aR (Ss (ah (n+2)) [some (.str (gY k)),some (.str (tx la)),some (.str (tx lb)),some (hU a),some (hU b)] H) (.val (el k la lb a b).mv (H++J)):=fun H=>by
  by_cases h3:k=3
  ·subst h3;exact⟨[],by rw[bp];exact Ve⟩
  by_cases h4:k=4
  ·subst h4;exact⟨[],by rw[bp];exact Vf⟩
  by_cases h5:k=5
  ·subst h5;exact⟨[],by rw[bp];exact Vg⟩
  have hk3:k<3:=by exact Dc hk h3 h4 h5
  obtain⟨J,h⟩:=Sw (n:=n) (H:=H) hk3 h1 h2 hl;have aA:el k la lb a b=ue k la lb a b:=by
   unfold el;rw[if_neg h5,if_neg h3,if_neg h4]
  rw[aA];exact⟨J,Su k hk3 h⟩
 obtain⟨J1,n1⟩:=h1.gh (by exact uP hl rfl) (n:=n+1) (H:=H);obtain⟨J2,n2⟩:=h2.gh (by exact pY hl rfl) (n:=n+1) (H:=H++J1);obtain⟨J,hz⟩:=main (H++J1++J2);have e:H++J1++J2++J=H++(J1++(J2++J)):=by rw[bZ,bZ]
 rw[e]at hz;refine⟨J1++(J2++J),?_⟩;rw[aD (by decide) rfl ⟨ao _,ao _⟩];refine aP ?_;show aR (fM (ah (n+2)) [some (.str (gY k)),some (.str (tx la)),some (.str (tx lb)),none,none] H) _;unfold fM;refine aj (L1:=[some (.str (gY k)),some (.str (tx la)),some (.str (tx lb)),some (hU a),none]) (H1:=H++J1) (aJ ((bh rfl).trans n1)) ?_;refine aj (L1:=[some (.str (gY k)),some (.str (tx la)),some (.str (tx lb)),some (hU a),some (hU b)]) (H1:=H++J1++J2) (aJ ((bh rfl).trans n2)) hz
end
def Vh:MV:=.tup [.str (S "TCL"),.str (S "VALUE"),.str (S "NUMBER")]
def qg(t:Str):Out:=bad (S "expected number but got \""++t++S "\"") Vh
theorem fV.qJ(h:fV l a b)(hl:l.length<=1000):ah (n+4) nI [.str (tx l)] H=match a with
  |some z=>some (.val (.int z) H)
  |none=>some (.exc (H.length+1) (H++iX H (qg (tx l)) true)):=by
 obtain⟨-,n2,-,-,-,-,-,-,n9⟩:=yR;have ht:=hS l;have hw:=fun H=>h.whole hl (n:=n) (H:=H)
 rw[aD (by decide) rfl ⟨ao _,ao _⟩];cases a with
 |some z=>
  refine aP ?_;show aR (du (ah (n+3)) [some (.str (tx l)),none] H) _;unfold du;refine aj (L1:=[some (.str (tx l)),some (.int z)]) (H1:=H) (aJ ((bh rfl).trans (hw H))) ?_;refine aj (L1:=[some (.str (tx l)),some (.int z)]) (H1:=H) rfl ?_;exact aL (L1:=_) rfl
 |none=>
  refine aP ?_;show aR (du (ah (n+3)) [some (.str (tx l)),none] H) _;unfold du;refine aj (L1:=[some (.str (tx l)),some .none]) (H1:=H) (aJ ((bh rfl).trans (hw H))) ?_;refine dA (L1:=[some (.str (tx l)),some .none]) ((aB (H1:=H) rfl).trans (cu (hV (H1:=H) (ao _) ?_)));have c1:(mz (aa (af (.str (S "expected number but got \""))) (aa (ae 0) (aa (af (.str (S "\""))) ai)))) (ah (n+3)) [some (.str (tx l)),some .none] H=some (.val (.str (S "expected number but got \""++tx l++S "\"")) H):=by
   refine(v7 (xs:=[.str (S "expected number but got \""),.str (tx l),.str (S "\"")]) (l:=[S "expected number but got \"",tx l,S "\""]) rfl rfl (by simp only[yH,yG];lia)).trans ?_;simp only[yF,yE,nk,qe]
  exact(call2 c1 (mc rfl rfl rfl)).trans mG
structure Tx where
 l:List Nat
 a:Option Int
 b:Option Bool
noncomputable def Tx.Ok(t:Tx)(m:Nat):Prop:=fV t.l t.a t.b/\t.l.length<=m
def Tx.mv(t:Tx):MV:=.str (tx t.l)
noncomputable def f7:List Tx->List Int->Out
 |[],zs=>good (tx (jF ((fX (zs.map MV.int)).getD 0)))
 |t::r,zs=>match t.a with
  |some z=>f7 r (zs++[z])
  |none=>qg (tx t.l)
theorem eP(h:H[k]?=some (.list xs)):dM (.lst k i) H=match xs[i]? with
  |some x=>some (some (x,.lst k (i+1)))
  |none=>some none:=by
 show(match H[k]? with|some (.list xs)=>_|_=>none)=_;rw[h]
 try rfl
theorem append_at(h:H[k]?=some (.list xs))(hl:xs.length<1000000):dW (.obj k) y H=some (.val .none (H.set k (.list (xs++[y])))):=by
 unfold dW;dsimp only;rw[h];dsimp only;rw[if_pos (by rw[d9];exact oG hl rfl)]
theorem eU(h:H[k]?=some (.list xs)):jD .list (.obj k) H=true:=by
 unfold jD;dsimp only;rw[h]
theorem lG:∀(z:Int) (zs:List Int),∃m,fX ((z::zs).map MV.int)=some m/\(m=z\/m∈zs):=by
 intro z zs
 induction zs generalizing z with
 |nil=>exact⟨z,rfl,.inl rfl⟩
 |cons y r ih=>
  obtain⟨m,h1,h2⟩:=ih y;refine⟨max z m,?_,?_⟩
  ·show(match fX ((y::r).map MV.int)with|some b=>some (max z b)|none=>none)=_;rw[h1]
  ·rcases Int.le_total z m with h|h
   ·rw[Int.max_eq_right h];rcases h2 with rfl|h2
    ·exact .inr (.head _)
    ·exact .inr (.tail _ h2)
   ·rw[Int.max_eq_left h];exact .inl rfl
def bX:MO:=.dict [(S "abs",.tup [.int 1,.int 1]),(S "bool",.tup [.int 1,.int 1]),(S "entier",.tup [.int 1,.int 1]),(S "int",.tup [.int 1,.int 1]),(S "isqrt",.tup [.int 1,.int 1]),(S "max",.tup [.int 1,.int (-1)]),(S "min",.tup [.int 1,.int (-1)]),(S "wide",.tup [.int 1,.int 1])]
theorem Av:ah (n+1) fY [] H=some (.val (.obj H.length) (H++[bX])):=by
 rw[aD (by decide) rfl ⟨ao _,ao _⟩];refine aP ?_;show aR (dJ (ah n) [] H) _;unfold dJ;refine aL (L1:=[]) (aI ?_);exact rC (xs:=[.tup [.int 1,.int 1],.tup [.int 1,.int 1],.tup [.int 1,.int 1],.tup [.int 1,.int 1],.tup [.int 1,.int 1],.tup [.int 1,.int (-1)],.tup [.int 1,.int (-1)],.tup [.int 1,.int 1]]) rfl rfl
inductive HS(L0:Option MV->Loc)(H0:MH)(r:List Tx)(zs:List Int)(X:Option RS):Prop
 |ok (c':Option MV) (h1:∀t∈r,t.a≠none) (h3:f7 r zs=f7 [] (zs++r.filterMap Tx.a)) (h4:X=some (.next (L0 c') (H0++[.list ((zs++r.filterMap Tx.a).map MV.int)])))
 |bad (L:Loc) (J:MO) (t:Str) (h1:f7 r zs=qg t) (h2:X=some (.exc (H0.length+2) L (H0++[J]++iX (H0++[J]) (qg t) true)))
noncomputable def mL(nm:MV)(ka:Nat)(H0:MH)(c:Option MV):Loc:=[some nm,some (.obj ka),some (.tup [.int 1,.int (-1)]),some (.int 1),some (.int (-1)),some (.obj H0.length),c]
theorem HT(h:fV l (some z) b)(hl:l.length<=390)(hz:zs.length<1000):
  dO (ah (n+4)) (mL nm ka H0 (some (.str (tx l)))) (H0++[.list (zs.map MV.int)])=some (.next (mL nm ka H0 (some (.str (tx l)))) (H0++[.list ((zs++[z]).map MV.int)])):=by
 have Ep:dW (.obj H0.length) (.int z) (H0++[.list (zs.map MV.int)])=some (.val .none (H0++[.list ((zs++[z]).map MV.int)])):=by
  rw[og (by rw[bR];exact oG hz rfl),fk];rfl
 exact(aF (Aq ((QZ rfl (eU (bc H0 _)) ((bh rfl).trans (h.qJ (by exact cU hl rfl)))).trans Ep))).trans rfl
theorem Er{n ka:Nat}{nm:MV}{l:List Nat}{b:Option Bool}{zs:List Int}{H0:MH}(h:fV l none b)(hl:l.length<=390):
  dO (ah (n+4)) (mL nm ka H0 (some (.str (tx l)))) (H0++[.list (zs.map MV.int)])=some (.exc (H0.length+2) (mL nm ka H0 (some (.str (tx l)))) (H0++[.list (zs.map MV.int)]++iX (H0++[.list (zs.map MV.int)]) (qg (tx l)) true)):=by
 have nn:=h.qJ (by exact cU hl rfl) (n:=n) (H:=H0++[.list (zs.map MV.int)]);rw[bJ]at nn;exact cu (DV (UZ rfl (eU (bc H0 _)) ((bh rfl).trans nn)))
theorem BK{n ka:Nat}{ts:List Tx}{nm:MV}(ht:∀t∈ts,t.Ok 390)(hn:ts.length<=100):∀(r:List Tx) (i:Nat) (zs:List Int) (H0:MH) (c:Option MV) (N:Nat),ts.drop i=r->zs.length+r.length<=100->r.length<N->H0[ka]?=some (.list (ts.map Tx.mv))->
  HS (mL nm ka H0) H0 r zs (ei (toName 6) dO N (.lst ka i) (ah (n+4)) (mL nm ka H0 c) (H0++[.list (zs.map MV.int)])):=by
 intro r
 induction r with
 |nil=>
  intro i zs H0 c N hr hz hN hk;obtain⟨N,rfl⟩:∃M,N=M+1:=⟨N-1,by simp at hN;exact nE hN⟩
  have hk':(H0++[.list (zs.map MV.int)])[ka]?=some (.list (ts.map Tx.mv)):=by rw[iG (cm.mp hk).1];exact hk
  refine .ok c (fun t h=>nomatch h) (by rw[List.filterMap_nil,bp]) ?_;rw[List.filterMap_nil,bp];exact fO (by rw[eP hk',dP,jV (by have:=aY List.length hr;simp at this;exact nV this)];rfl)
 |cons t r ih=>
  intro i zs H0 c N hr hz hN hk;obtain⟨N,rfl⟩:∃M,N=M+1:=⟨N-1,by simp at hN;exact pX hN⟩
  have hk':(H0++[.list (zs.map MV.int)])[ka]?=some (.list (ts.map Tx.mv)):=by rw[iG (cm.mp hk).1];exact hk
  have hgt:ts[i]?=some t:=by have:=aY (·[0]?) hr;simpa using this
  have hr':ts.drop (i+1)=r:=by rw[<-jZ,hr];rfl
  obtain⟨hok,XY⟩:=ht t (d8 hgt);rw[bo]at hz hN;have hx:dM (.lst ka i) (H0++[.list (zs.map MV.int)])=some (some (.str (tx t.l),.lst ka (i+1))):=by rw[eP hk',dP,hgt];rfl
  clear hgt hr;obtain⟨tl,ta,tb⟩:=t;cases ta with
  |some z=>
   have e:=ih (i+1) (zs++[z]) H0 (some (.str (tx tl))) N hr' (by rw[bJ,List.length_singleton];exact qC hz) (by exact jI hN) hk;rw[DY hx rfl (HT hok XY (by exact wj hz rfl))];have ea:zs++[z]++r.filterMap Tx.a=zs++(Tx.mk tl (some z) tb::r).filterMap Tx.a:=by rw[bZ];rfl
   cases e with
   |ok c' w1 w3 w4=>
    rw[ea]at w3 w4;refine .ok c' (fun t' h=>?_) w3 w4;rcases bS.mp h with rfl|h
    ·intro q;cases q
    ·exact w1 t' h
   |bad L J t' w1 w2=>exact .bad L J t' w1 w2
  |none=>exact .bad _ _ _ rfl (HD hx rfl (Er hok XY))
noncomputable def Pre(H H':MH):Prop:=∃J,H'=H++J
theorem Pre.refl(H:MH):Pre H H:=⟨[],by simp⟩
theorem Pre.trans(x:Pre A B)(y:Pre B C):Pre A C:=by
 obtain⟨J,rfl⟩:=x;obtain⟨K,rfl⟩:=y;exact⟨J++K,by rw[bZ]⟩
theorem Pre.app(H J:MH):Pre H (H++J):=⟨J,rfl⟩
theorem Pre.get{H H':MH}(x:Pre H H'){k:Nat}{o:MO}(h:H[k]?=some o):H'[k]?=some o:=by
 obtain⟨J,rfl⟩:=x;rw[iG (cm.mp h).1];exact h
theorem Pre.set(x:Pre H H')(h:H.length<=k):Pre H (H'.set k o):=by
 obtain⟨J,rfl⟩:=x;exact⟨J.set (k-H.length) o,by rw[List.set_append_right _ _ h]⟩
theorem Pre.len(x:Pre H H'):H.length<=H'.length:=by
 obtain⟨J,rfl⟩:=x;simp
theorem sh:f7 (t::r) zs=(match t.a with
  |some z=>f7 r (zs++[z])
  |none=>qg (tx t.l)):=rfl
theorem lH(zs:List Int):f7 [] zs=good (tx (jF ((fX (zs.map MV.int)).getD 0))):=rfl
theorem si{ts:List Tx}(ht:∀t∈ts,t.Ok 390):∀z∈ts.filterMap Tx.a,z.natAbs<10^400:=by
 intro z hz;obtain⟨t,h1,h2⟩:=List.mem_filterMap.mp hz;obtain⟨hok,hl⟩:=ht t h1;obtain⟨tl,ta,tb⟩:=t;dsimp only at h2;subst h2;exact cF hok.bound (eD (by decide) (by dsimp only at hl ⊢;exact cU hl rfl))
theorem Aw(h0:zs≠ [])(hb:∀z∈zs,z.natAbs<10^400):∃m,fX (zs.map MV.int)=some m/\∀H,iN (.int m) H=some (.val (.str (tx (jF ((fX (zs.map MV.int)).getD 0)))) H):=by
 cases zs with
 |nil=>exact absurd rfl h0
 |cons z r=>
  obtain⟨m,h1,h2⟩:=lG z r;refine⟨m,h1,fun H=>?_⟩;rw[h1];exact str_int (hb m (by rcases h2 with rfl|h2;exact .head _;exact .tail _ h2))
theorem OX{n ka:Nat}{ts:List Tx}{H:MH}(ht:∀t∈ts,t.Ok 390)(hn:ts.length<=100)(h0:ts≠ [])(hk:H[ka]?=some (.list (ts.map Tx.mv))):Gives (ah (n+5) eO [.str (S "max"),.obj ka] H) H (f7 ts []):=by
 have hk1:(H++[bX])[ka]?=some (.list (ts.map Tx.mv)):=(Pre.app H _).get hk;have HU:1<=ts.length:=by cases ts with|nil=>exact absurd rfl h0|cons _ _=>simp
 have e:=BK (n:=n) (nm:=.str (S "max")) ht hn ts 0 [] (H++[bX]) none many rfl (by simpa using hn) (by show ts.length<1000000;exact ku hn rfl) hk1;have hs:srcOf (.obj ka) (H++[bX]++[.list []])=some (.lst ka 0):=by
  unfold srcOf;dsimp only;rw[(Pre.app (H++[bX]) _).get hk1]
 rw[aD (by decide) rfl ⟨ao _,ao _⟩];have pre:∀z,aR ((ag (ic (toName 6) (ae 1) dO)
 (ag (aK (c1 iN (ak (af (.fn (.ref hK))) (aa (ae 0) (aa (ae 5) ai)))))
 aq)) (ah (n+4)) [some (.str (S "max")),some (.obj ka),some (.tup [.int 1,.int (-1)]),some (.int 1),some (.int (-1)),some (.obj (H++[bX]).length),none] (H++[bX]++[.list []])) z->dj 7 cy (ah (n+4)) [.str (S "max"),.obj ka] H=some z:=by
  intro z hz;refine aP ?_;show aR (cy (ah (n+4)) [some (.str (S "max")),some (.obj ka),none,none,none,none,none] H) _;unfold cy;have hb:jD .dict (.obj H.length) (H++[bX])=true:=by unfold jD;dsimp only;rw[bc];rfl
  have hg:nX (.obj H.length) [.str (S "max")] (H++[bX])=some (.val (.tup [.int 1,.int (-1)]) (H++[bX])):=by
   unfold nX;dsimp only;rw[bc];rfl'
  refine aj (L1:=[some (.str (S "max")),some (.obj ka),some (.tup [.int 1,.int (-1)]),none,none,none,none]) (H1:=H++[bX]) (aJ ?_) ?_
  ·have:(ak (af (.fn (.ref fY))) ai) (ah (n+4)) [some (.str (S "max")),some (.obj ka),none,none,none,none,none] H=some (.val (.obj H.length) (H++[bX])):=Av (n:=n+3);exact(OI this hb rfl).trans hg
  refine aj (L1:=[some (.str (S "max")),some (.obj ka),some (.tup [.int 1,.int (-1)]),none,none,none,none]) (H1:=H++[bX]) rfl ?_;refine aj (L1:=[some (.str (S "max")),some (.obj ka),some (.tup [.int 1,.int (-1)]),some (.int 1),some (.int (-1)),none,none]) (H1:=H++[bX]) rfl ?_;have XY:eY (.obj ka) (H++[bX])=some (.val (.int (ts.length:Int)) (H++[bX])):=by
   unfold eY;dsimp only;rw[hk1];simp
  have hd:decide ((ts.length:Int)<1)=false:=by simp;exact Lq HU
  have q:(S "max"==S "bool")=false:=by ac_rfl
  refine aj (L1:=[some (.str (S "max")),some (.obj ka),some (.tup [.int 1,.int (-1)]),some (.int 1),some (.int (-1)),none,none]) (H1:=H++[bX]) ((aw (H1:=H++[bX]) (dB (d0 rfl XY) rfl (aY (fun b=>some (Res.val (MV.bool b) (H++[bX]))) hd))).trans rfl) ?_;refine aj (L1:=[some (.str (S "max")),some (.obj ka),some (.tup [.int 1,.int (-1)]),some (.int 1),some (.int (-1)),none,none]) (H1:=H++[bX]) rfl ?_;refine aj (L1:=[some (.str (S "max")),some (.obj ka),some (.tup [.int 1,.int (-1)]),some (.int 1),some (.int (-1)),none,none]) (H1:=H++[bX]) ((aw (H1:=H++[bX]) (by rfl')).trans rfl) ?_;exact aj (L1:=[some (.str (S "max")),some (.obj ka),some (.tup [.int 1,.int (-1)]),some (.int 1),some (.int (-1)),some (.obj (H++[bX]).length),none]) (H1:=H++[bX]++[.list []]) rfl hz
 rcases e with ⟨c',w1,w3,w4⟩|⟨L,J,t,w1,w2⟩
 ·rw[jb]at w3 w4;obtain⟨ws,w2⟩:∃ws,ws=ts.filterMap Tx.a:=⟨_,rfl⟩
  rw[<-w2]at w3 w4;have hws:ws≠ []:=by
   rw[w2];cases ts with
   |nil=>exact absurd rfl h0
   |cons t r=>
    have:=w1 t (.head _);cases q:t.a with
    |none=>exact absurd q this
    |some z=>rw[List.filterMap_cons,q];simp
  obtain⟨m,m1,m2⟩:=Aw hws (by rw[w2];exact si ht);rw[w3,lH];refine gi (J:=[bX,.list (ws.map MV.int)]) ?_;rw[show H++[bX,MO.list (ws.map MV.int)]=H++[bX]++[.list (ws.map MV.int)] by simp]
  refine pre _ ?_;have hfv:ah (n+4) hK [.str (S "max"),.obj (H++[bX]).length] (H++[bX]++[.list (ws.map MV.int)])=some (.val (.int m) (H++[bX]++[.list (ws.map MV.int)])):=by
   have q:(S "max"==S "max")=true:=by ac_rfl
   rw[aD (by decide) rfl ⟨ao _,ao _⟩];refine aP ?_
   (generalize hX:H++[bX]=X;revert X;refine gA ?_;intros)
   show aR (fH (ah (n+3)) [some (.str (S "max")),some (.obj X.length)] (X++[.list (ws.map MV.int)])) _;unfold fH;refine aL (L1:=[some (.str (S "max")),some (.obj X.length)]) ((aB (H1:=X++[.list (ws.map MV.int)]) (by rfl')).trans (aE (aI ?_)));show oM (.obj X.length) (X++[.list (ws.map MV.int)])=_;unfold oM;dsimp only;rw[bc];dsimp only;rw[m1]
  refine aj (L1:=[some (.str (S "max")),some (.obj ka),some (.tup [.int 1,.int (-1)]),some (.int 1),some (.int (-1)),some (.obj (H++[bX]).length),c']) (H1:=H++[bX]++[.list (ws.map MV.int)]) ?_ ?_
  ·exact(s8 rfl hs).trans w4
  ·refine aL (L1:=[some (.str (S "max")),some (.obj ka),some (.tup [.int 1,.int (-1)]),some (.int 1),some (.int (-1)),some (.obj (H++[bX]).length),c']) (aI ?_);exact d0 ((call2 rfl rfl).trans hfv) (m2 _)
 ·rw[w1];refine .exc ([bX]++[J]++iX (H++[bX]++[J]) (qg t) true) _ (by show(1:Int)≠0;decide) ?_ (by rw[<-bZ,<-bZ];exact lB _ _ rfl) (by simp;exact Lr);rw[<-bZ,<-bZ];refine pre (.exc _ _) ?_;refine dA (L1:=L) ?_;have:(H++[bX]++[J]).length+1=(H++[bX]).length+2:=by simp
  rw[this];exact(s8 rfl hs).trans w2
theorem wR(h:cG nm [(S "abs",.tup [.int 1,.int 1]),(S "bool",.tup [.int 1,.int 1]),(S "entier",.tup [.int 1,.int 1]),(S "int",.tup [.int 1,.int 1]),(S "isqrt",.tup [.int 1,.int 1]),(S "max",.tup [.int 1,.int (-1)]),(S "min",.tup [.int 1,.int (-1)]),(S "wide",.tup [.int 1,.int 1])]=(none:Option MV)):
  ah (n+5) eO [.str nm,x] H=some (.val .none (H++[bX])):=by
 rw[aD (by decide) rfl ⟨ao _,ao _⟩];refine aP ?_;show aR (cy (ah (n+4)) [some (.str nm),some x,none,none,none,none,none] H) _;unfold cy;have hb:jD .dict (.obj H.length) (H++[bX])=true:=by unfold jD;dsimp only;rw[bc];rfl
 have hg:nX (.obj H.length) [.str nm] (H++[bX])=some (.val .none (H++[bX])):=by
  unfold nX;dsimp only;rw[bc];unfold bX;dsimp only;rw[h];rfl
 refine aj (L1:=[some (.str nm),some x,some .none,none,none,none,none]) (H1:=H++[bX]) (aJ ?_) ?_
 ·have:(ak (af (.fn (.ref fY))) ai) (ah (n+4)) [some (.str nm),some x,none,none,none,none,none] H=some (.val (.obj H.length) (H++[bX])):=Av (n:=n+3);exact(OI this hb rfl).trans hg
 exact aL (L1:=[some (.str nm),some x,some .none,none,none,none,none]) ((aB (H1:=H++[bX]) rfl).trans rfl)
theorem wU:cG (S "twice") [(S "abs",.tup [.int 1,.int 1]),(S "bool",.tup [.int 1,.int 1]),(S "entier",.tup [.int 1,.int 1]),(S "int",.tup [.int 1,.int 1]),(S "isqrt",.tup [.int 1,.int 1]),(S "max",.tup [.int 1,.int (-1)]),(S "min",.tup [.int 1,.int (-1)]),(S "wide",.tup [.int 1,.int 1])]=(none:Option MV):=by rfl'
theorem yV:cG (S "nope") [(S "abs",.tup [.int 1,.int 1]),(S "bool",.tup [.int 1,.int 1]),(S "entier",.tup [.int 1,.int 1]),(S "int",.tup [.int 1,.int 1]),(S "isqrt",.tup [.int 1,.int 1]),(S "max",.tup [.int 1,.int (-1)]),(S "min",.tup [.int 1,.int (-1)]),(S "wide",.tup [.int 1,.int 1])]=(none:Option MV):=by rfl'
theorem yW{n kt:Nat}{ts:List Tx}{H0:MH}(ht:∀t∈ts,t.Ok 390)(hk:H0[kt]?=some (.list (ts.map Tx.mv))):∀(r:List Tx) (i:Nat) (H:MH) (c:Option MV) (N:Nat),ts.drop i=r->r.length<N->Pre H0 H->
  ∃H' L,Pre H0 H'/\(((∀t∈r,t.a≠none)/\∃c',L=[some (.obj kt),c']/\ei (toName 1) cI N (.lst kt i) (ah (n+1)) [some (.obj kt),c] H=some (.next L H'))\/
   (∃t,f7 r []=qg t/\(∀zs,f7 r zs=qg t)/\ei (toName 1) cI N (.lst kt i) (ah (n+1)) [some (.obj kt),c] H=some (.ret (qg t).mv L H'))):=by
 intro r
 induction r with
 |nil=>
  intro i H c N hr hN hp;obtain⟨N,rfl⟩:∃M,N=M+1:=⟨N-1,by simp at hN;exact nE hN⟩
  refine⟨H,_,hp,.inl ⟨by simp,c,rfl,?_⟩⟩;rw[fO (by rw[eP (hp.get hk),dP,jV (by have:=aY List.length hr;simp at this;exact nV this)];rfl)]
 |cons t r ih=>
  intro i H c N hr hN hp;obtain⟨N,rfl⟩:∃M,N=M+1:=⟨N-1,by simp at hN;exact pX hN⟩
  have hgt:ts[i]?=some t:=by have:=aY (·[0]?) hr;simpa using this
  have hr':ts.drop (i+1)=r:=by rw[<-jZ,hr];rfl
  obtain⟨hok,XY⟩:=ht t (d8 hgt);obtain⟨tl,ta,tb⟩:=t;dsimp only at hok XY;simp only[bo]at hN;rw[dz (x:=.str (tx tl)) (gX:=.lst kt (i+1)) (by rw[eP (hp.get hk),dP,hgt];rfl) (show toName 1 _ _=some _ from rfl)];obtain⟨J,hJ⟩:=hok.gh (by exact cU XY rfl) (n:=n) (H:=H);have hp':Pre H0 (H++J):=hp.trans (Pre.app _ _);cases ta with
  |some z=>
   have:cI (ah (n+1)) [some (.obj kt),some (.str (tx tl))] H=some (.next [some (.obj kt),some (.str (tx tl))] (H++J)):=by
    unfold cI;refine(aF (L1:=[some (.obj kt),some (.str (tx tl))]) (H1:=H++J) ((aw (H1:=H++J) ?_).trans rfl)).trans rfl;simp only[tE,c1,bh (a:=ae 1) (o:=ah (n+1)) (L:=[some (.obj kt),some (.str (tx tl))]) (H:=H) (x:=.str (tx tl)) (H1:=H) (f:=cx) rfl,hJ,bindR,hU,bg,noFn,oK,c9,dF]
   obtain⟨H',L,q1,q2⟩:=ih (i+1) (H++J) (some (.str (tx tl))) N hr' (by exact jI hN) hp';refine⟨H',L,q1,?_⟩;have Es:cI (ah (n+1)) ([some (.obj kt),c].set 1 (some (.str (tx tl)))) H=some (.next [some (.obj kt),some (.str (tx tl))] (H++J)):=this;rw[Es];rcases q2 with ⟨a1,c',a2,a3⟩|⟨t,a1,a2,a3⟩
   ·refine .inl ⟨fun t h=>?_,c',a2,a3⟩;rcases bS.mp h with rfl|h
    ·simp
    ·exact a1 t h
   ·exact .inr ⟨t,a2 _,fun zs=>a2 _,a3⟩
  |none=>
   obtain⟨-,n2,-,-,-,-,-,-,n9⟩:=yR;have htl:=hS tl;have:cI (ah (n+1)) [some (.obj kt),some (.str (tx tl))] H=some (.ret (qg (tx tl)).mv [some (.obj kt),some (.str (tx tl))] (H++J)):=by
    unfold cI;refine aE ((aB (H1:=H++J) ?_).trans (aE (aI ((call2 (dw (dw (H1:=H++J) rfl (H2:=H++J) rfl (by lia)) (H2:=H++J) rfl (by rw[aS];lia)) (mc rfl rfl rfl)).trans kE))));simp only[tE,c1,bh (a:=ae 1) (o:=ah (n+1)) (L:=[some (.obj kt),some (.str (tx tl))]) (H:=H) (x:=.str (tx tl)) (H1:=H) (f:=cx) rfl,hJ,bindR,hU,bg,noFn,oK,c9,dF]
   refine⟨H++J,[some (.obj kt),some (.str (tx tl))],hp',.inr ⟨tx tl,rfl,fun _=>rfl,?_⟩⟩;have Es:cI (ah (n+1)) ([some (.obj kt),c].set 1 (some (.str (tx tl)))) H=some (.ret (qg (tx tl)).mv [some (.obj kt),some (.str (tx tl))] (H++J)):=this;rw[Es]
theorem yX{n kt ia:Nat}{ts:List Tx}{H0:MH}(ht:∀t∈ts,t.Ok 390/\t.a≠none)(hk:H0[kt]?=some (.list (ts.map Tx.mv)))(hn:ts.length<=100)(hia:H0.length<=ia):∀(r:List Tx) (i:Nat) (zs:List Int) (H:MH) (N:Nat),ts.drop i=r->zs.length+r.length<=100->r.length<N->Pre H0 H->H[ia]?=some (.list (zs.map MV.int))->
  ∃H',Pre H0 H'/\H'[ia]?=some (.list ((zs++r.filterMap Tx.a).map MV.int))/\gG (ak (af (.fn (.ref cx))) (aa (ae 0) ai)) [] ia N (.lst kt i) (ah (n+1)) H=some (.val () H'):=by
 intro r
 induction r with
 |nil=>
  intro i zs H N hr hz hN hp hi;obtain⟨N,rfl⟩:∃M,N=M+1:=⟨N-1,by simp at hN;exact nE hN⟩
  refine⟨H,hp,by simpa using hi,?_⟩;rw[lu (by rw[eP (hp.get hk),dP,jV (by have:=aY List.length hr;simp at this;exact nV this)];rfl)]
 |cons t r ih=>
  intro i zs H N hr hz hN hp hi;obtain⟨N,rfl⟩:∃M,N=M+1:=⟨N-1,by simp at hN;exact pX hN⟩
  have hgt:ts[i]?=some t:=by have:=aY (·[0]?) hr;simpa using this
  have hr':ts.drop (i+1)=r:=by rw[<-jZ,hr];rfl
  obtain⟨⟨hok,XY⟩,hna⟩:=ht t (d8 hgt);obtain⟨tl,ta,tb⟩:=t;dsimp only at hok XY hna;simp only[bo]at hN hz;cases ta with
  |none=>exact absurd rfl hna
  |some z=>
   obtain⟨J,hJ⟩:=hok.gh (by exact cU XY rfl) (n:=n) (H:=H);have hi':(H++J)[ia]?=some (.list (zs.map MV.int)):=(Pre.app _ _).get hi;have hlt:ia<(H++J).length:=(cm.mp hi').1;obtain⟨H',q1,q2,q3⟩:=ih (i+1) (zs++[z]) ((H++J).set ia (.list ((zs++[z]).map MV.int))) N hr' (by simp;exact qC hz) (by exact jI hN) ((hp.trans (Pre.app _ _)).set hia) (by rw[fQ hlt]);refine⟨H',q1,by rw[q2,List.filterMap_cons];simp,?_⟩;rw[lA (x:=.str (tx tl)) (y:=.int z) (H1:=H++J) (gX:=.lst kt (i+1)) (by rw[eP (hp.get hk),dP,hgt];rfl) ((bh (H1:=H) rfl).trans hJ) (append_at hi' (by simp;exact wj hz rfl))];rw[<-q3,fk];rfl
theorem Et{n kt:Nat}{ts:List Tx}{H:MH}(ht:∀t∈ts,t.Ok 390)(hn:ts.length<=100)(h0:ts≠ [])(hk:H[kt]?=some (.list (ts.map Tx.mv))):∃H',Pre H H'/\ah (n+2) o8 [.obj kt] H=some (.val (f7 ts []).mv H'):=by
 rw[aD (by decide) rfl ⟨ao _,ao _⟩];have hs:srcOf (.obj kt) H=some (.lst kt 0):=by unfold srcOf;dsimp only;rw[hk]
 have hf:∀r,ei (toName 1) cI many (.lst kt 0) (ah (n+1)) [some (.obj kt),none] H=r->ic (toName 1) (ae 0) cI (ah (n+1)) [some (.obj kt),none] H=r:=fun r h=>by
  simp only[ic,aW,ae,eM,hs];exact h
 obtain⟨H1,L,p1,⟨a1,c',rfl,a3⟩|⟨t,a1,a2,a3⟩⟩:=yW (n:=n) ht hk ts 0 H none many rfl (by show ts.length<1000000;exact ku hn rfl) (Pre.refl H)
 ·have hs1:ff (.obj kt) H1=some (.lst kt 0):=by unfold ff srcOf;dsimp only;rw[p1.get hk]
  obtain⟨H2,b1,b2,b3⟩:=yX (n:=n) (ia:=H1.length) (H0:=H1) (fun t h=>⟨ht t h,a1 t h⟩) (p1.get hk) hn (ao _) ts 0 [] (H1++[.list []]) many rfl (by simpa using hn) (by show ts.length<1000000;exact ku hn rfl) (Pre.app _ _) (bc _ _);rw[jb]at b2;have hws:ts.filterMap Tx.a≠ []:=by
   cases ts with
   |nil=>exact absurd rfl h0
   |cons t r=>
    have:=a1 t (.head _);cases q:t.a with
    |none=>exact absurd q this
    |some z=>rw[List.filterMap_cons,q];simp
  obtain⟨m,m1,m2⟩:=Aw hws (si ht);have Sx:∀(r:List Tx) zs,(∀t∈r,t.a≠none)->f7 r zs=f7 [] (zs++r.filterMap Tx.a):=by
   intro r
   induction r with
   |nil=>intro zs _;simp
   |cons t r ih=>
    intro zs h;cases q:t.a with
    |none=>exact absurd q (h t (.head _))
    |some z=>
     rw[sh];rw[q];dsimp only;rw[ih _ fun t' h'=>h t' (.tail _ h'),List.filterMap_cons,q];simp[lH]
  refine⟨H2,p1.trans b1,aP ?_⟩;show aR (fx (ah (n+1)) [some (.obj kt),none] H) _;unfold fx;refine aj (hf _ a3) ?_;rw[Sx ts [] a1,jb,lH];refine aL (L1:=[some (.obj kt),c']) (aI ((bh (H1:=H2) (x:=.str (tx (jF ((fX ((ts.filterMap Tx.a).map MV.int)).getD 0)))) ?_).trans cW));have hc:(cR [] (ak (af (.fn (.ref cx))) (aa (ae 0) ai)) (ae 0)) (ah (n+1)) [some (.obj kt),c'] H1=some (.val (.obj H1.length) H2):=by
   unfold cR;show bindR (some (Res.val (MV.obj kt) H1)) _=_;simp only[bindR,hs1,kU,b3]
  have hm:oM (.obj H1.length) H2=some (.val (.int m) H2):=by
   unfold oM;dsimp only;rw[b2];dsimp only;rw[m1]
  show bindR (bindR (cR _ _ _ _ _ _) _) _=_;rw[hc];simp only[bindR,hm];exact m2 H2
 ·refine⟨H1,p1,?_⟩;rw[a1];refine aP ?_;show aR (fx (ah (n+1)) [some (.obj kt),none] H) _;unfold fx;exact aL (hf _ a3)
structure HC where
 hh:Nat
 ht:Nat
 hi:Nat
 hv:Nat
 hc:Nat
 hf:Nat
 hd:Nat
def br(c:HC)(d sp:Int):List (Str×MV):=[(S "tools",.obj c.ht),(S "inline",.obj c.hi),(S "limit",.int 40),(S "fuel",.none),(S "depth",.int d),(S "spent",.int sp),(S "epoch",.int 0),(S "frame",.none),(S "coroutine",.none),(S "vars",.obj c.hv),(S "commands",.obj c.hc),(S "firsts",.obj c.hf)]
def gJ(c:HC)(hl:Nat):List (Str×MV):=[(S "run",.fn (.ref d7)),(S "deeds",.obj c.hd),(S "log",.obj hl)]
def wV:List (Str×MV):=[(S "tcl::mathfunc::twice",.tup [.fn (.ref cN),.none])]
def cA(x:Str):Option Str:=if x=S "v" then some (S "1") else if x=S "a(5)" then some (S "0") else if x=S "a(1)" then some (S "yes") else none
structure bt(c:HC)(hl:Nat)(H:MH)(d sp:Int)(Y2:List Str)(av vs:List (Str×MV)):Prop where
 host:H[c.hh]?=some (.dict (br c d sp))
 er:H[c.ht]?=some (.dict (gJ c hl))
 mI:H[hl]?=some (.list (Y2.map MV.str))
 av:H[c.hd]?=some (.dict av)
 vars:H[c.hv]?=some (.dict vs)
 jm:H[c.hc]?=some (.dict wV)
 vc:∀x p,cG x vs=some p->∃k fs,p=.inst 443 k/\H[k]?=some (.dict fs)/\k≠c.hh/\k≠hl/\k≠c.hv/\((cA x=none/\cG (S "kind") fs=some (.str (S "none")))\/∃y,cA x=some y/\cG (S "kind") fs=some (.str (S "scalar"))/\cG (S "value") fs=some (.str y))
 lI:∀x y,cA x=some y->(cG x vs).isSome=true
 n1:c.hh≠c.ht/\c.hh≠c.hv/\c.hh≠c.hc/\c.hh≠c.hd/\c.hh≠hl
 n2:c.hv≠c.ht/\c.hv≠c.hc/\c.hv≠c.hd/\c.hv≠hl
 n3:hl≠c.ht/\hl≠c.hc/\hl≠c.hd
structure Ext(c:HC)(hl:Nat)(H H':MH):Prop where
 len:H.length<=H'.length
 keep:∀k,k<H.length->k≠c.hh->k≠hl->k≠c.hv->H'[k]?=H[k]?
section
variable{c:HC}{hl:Nat}{H H' Wf:MH}{d sp:Int}{Y2:List Str}{av vs:List (Str×MV)}
theorem Ext.refl:Ext c hl H H:=⟨ao _,fun _ _ _ _ _=>rfl⟩
theorem Ext.trans(x:Ext c hl H H')(y:Ext c hl H' Wf):Ext c hl H Wf:=⟨aN x.len y.len,fun k h1 h2 h3 h4=>(y.keep k (cF h1 x.len) h2 h3 h4).trans (x.keep k h1 h2 h3 h4)⟩
theorem Ext.app(J:MH):Ext c hl H (H++J):=⟨by simp,fun k h _ _ _=>iG h⟩
theorem Ext.pre(x:Pre H H'):Ext c hl H H':=by obtain⟨J,rfl⟩:=x;exact Ext.app J
theorem Ext.oh(o:MO):Ext c hl H (H.set c.hh o):=⟨by simp,fun k _ h _ _=>bB (Ne.symm h)⟩
theorem Ext.wW(o:MO):Ext c hl H (H.set hl o):=⟨by simp,fun k _ _ h _=>bB (Ne.symm h)⟩
theorem Ext.Vi(o:MO):Ext c hl H (H.set c.hv o):=⟨by simp,fun k _ _ _ h=>bB (Ne.symm h)⟩
theorem Ext.get(x:Ext c hl H H')(h:H[k]?=some o)(h1:k≠c.hh)(h2:k≠hl)(h3:k≠c.hv):H'[k]?=some o:=(x.keep k (cm.mp h).1 h1 h2 h3).trans h
theorem bt.pre(K:bt c hl H d sp Y2 av vs)(x:Pre H H'):bt c hl H' d sp Y2 av vs where
 host:=x.get K.host
 er:=x.get K.er
 mI:=x.get K.mI
 av:=x.get K.av
 vars:=x.get K.vars
 jm:=x.get K.jm
 vc:=fun y p h=>(K.vc y p h).elim fun k z=>z.elim fun fs z=>⟨k,fs,z.1,x.get z.2.1,z.2.2⟩
 lI:=K.lI
 n1:=K.n1
 n2:=K.n2
 n3:=K.n3
theorem bt.oh(K:bt c hl H d sp Y2 av vs)(d' i7:Int):bt c hl (H.set c.hh (.dict (br c d' i7))) d' i7 Y2 av vs where
 host:=fQ (cm.mp K.host).1
 er:=(bB K.n1.1).trans K.er
 mI:=(bB K.n1.2.2.2.2).trans K.mI
 av:=(bB K.n1.2.2.2.1).trans K.av
 vars:=(bB K.n1.2.1).trans K.vars
 jm:=(bB K.n1.2.2.1).trans K.jm
 vc:=fun y p h=>(K.vc y p h).elim fun k z=>z.elim fun fs z=>⟨k,fs,z.1,(bB (Ne.symm z.2.2.1)).trans z.2.1,z.2.2⟩
 lI:=K.lI
 n1:=K.n1
 n2:=K.n2
 n3:=K.n3
theorem bt.wW(K:bt c hl H d sp Y2 av vs)(BL:List Str):bt c hl (H.set hl (.list (BL.map MV.str))) d sp BL av vs where
 host:=(bB (Ne.symm K.n1.2.2.2.2)).trans K.host
 er:=(bB K.n3.1).trans K.er
 mI:=fQ (cm.mp K.mI).1
 av:=(bB K.n3.2.2).trans K.av
 vars:=(bB (Ne.symm K.n2.2.2.2)).trans K.vars
 jm:=(bB K.n3.2.1).trans K.jm
 vc:=fun y p h=>(K.vc y p h).elim fun k z=>z.elim fun fs z=>⟨k,fs,z.1,(bB (Ne.symm z.2.2.2.1)).trans z.2.1,z.2.2⟩
 lI:=K.lI
 n1:=K.n1
 n2:=K.n2
 n3:=K.n3
end
noncomputable abbrev az(c:HC):MV:=.inst 691 c.hh
theorem cK(c:HC)(d sp:Int):cG (S "tools") (br c d sp)=some (.obj c.ht)/\cG (S "vars") (br c d sp)=some (.obj c.hv)/\cG (S "commands") (br c d sp)=some (.obj c.hc)/\cG (S "depth") (br c d sp)=some (.int d)/\cG (S "limit") (br c d sp)=some (.int 40)/\cG (S "fuel") (br c d sp)=some .none/\cG (S "spent") (br c d sp)=some (.int sp)/\
  put (S "depth") (.int 1) (br c d sp)=br c 1 sp/\(∀x,put (S "depth") (.int x) (br c d sp)=br c x sp)/\(∀x,put (S "spent") (.int x) (br c d sp)=br c d x):=by
 refine⟨?_,?_,?_,?_,?_,?_,?_,?_,fun x=>?_,fun x=>?_⟩<;>rfl'
theorem gv(c:HC)(d sp:Int):cG (S "run") (br c d sp)=none/\cG (S "tool") (br c d sp)=none/\cG (S "read") (br c d sp)=none/\cG (S "place") (br c d sp)=none/\cG (S "read_var") (br c d sp)=none/\cG (S "call") (br c d sp)=none/\cG (S "begin") (br c d sp)=none/\cG (S "spend") (br c d sp)=none:=by
 refine⟨?_,?_,?_,?_,?_,?_,?_,?_⟩<;>rfl'
theorem jQ(c:HC)(hl:Nat):cG (S "run") (gJ c hl)=some (.fn (.ref d7))/\cG (S "deeds") (gJ c hl)=some (.obj c.hd)/\cG (S "log") (gJ c hl)=some (.obj hl):=by
 refine⟨?_,?_,?_⟩<;>rfl'
theorem eJ(h:H[k]?=some (.dict es))(h1:cG XQ es=some v)(h2:noFn v=true):bA C XQ (.inst C k) H=some (.val v H):=by
 unfold bA;dsimp only;rw[if_pos rfl,h];dsimp only;rw[h1];dsimp only;rw[if_pos h2]
theorem qK(h:H[k]?=some (.dict es))(h2:es.length<=1000):setField C XQ (.inst C k) v H=some (H.set k (.dict (put XQ v es))):=by
 unfold setField;dsimp only;rw[if_pos rfl,h];dsimp only;rw[if_pos h2]
theorem kj(h:H[k]?=some (.dict es))(h1:cG x es=some v):au (.obj k) (.str x) H=some (.val v H):=by
 unfold au;dsimp only;rw[h];dsimp only;rw[h1]
section
variable{ob:CE}{o:g8}{L:Loc}{H H1:MH}{es:List (Str×MV)}{C k:Nat}{a:Addr}{XQ:Str}
theorem oZ(h:ob o L H=some (.val (.inst C k) H1))(h1:H1[k]?=some (.dict es))(h2:cG XQ es=none)(hx:x o L H1=some (.val p H2)):cL C a XQ ob (aa x ai) o L H=o a [.inst C k,p] H2:=by
 unfold cL;rw[h];simp only[bindR,c9,h1,h2,Option.isNone_none,aa,ai,hx]
theorem Sy(h:ob o L H=some (.val (.inst C k) H1))(h1:H1[k]?=some (.dict es))(h2:cG XQ es=none):cL C a XQ ob ai o L H=o a [.inst C k] H1:=by
 unfold cL;rw[h];simp only[bindR,c9,h1,h2,Option.isNone_none,ai]
theorem Sz(h:ob o L H=some (.val (.inst C k) H1))(h1:H1[k]?=some (.dict es))(h2:cG XQ es=none)(hx:x o L H1=some (.val p H2))(hy:y o L H2=some (.val q H3)):cL C a XQ ob (aa x (aa y ai)) o L H=o a [.inst C k,p,q] H3:=by
 unfold cL;rw[h];simp only[bindR,c9,h1,h2,Option.isNone_none,aa,ai,hx,hy]
end
def aH(XQ:Str)(code:Int)(v:Str):Out:=if code=0 then good v else ⟨code,v,.tup [.str (S "LAW"),.str XQ],if code=2 then 1 else 0⟩
inductive wX(r:Option (Res MV))(H H':MH)(o:Out):Prop
 |val (c0:o.code=0) (h:r=some (.val (.str o.val) H'))
 |exc (k:Nat) (c0:o.code≠0) (h:r=some (.exc k H')) (x:ExcAt H' k o) (l:H.length<=k)
section
variable{c:HC}{hl:Nat}{H:MH}{d sp:Int}{Y2:List Str}{av vs:List (Str×MV)}{n:Nat}
theorem Km{a b c d:CE}{o:g8}{L:Loc}{H H1 H2 H3 H4:MH}{x y z u:MV}{f:Addr}(ha:a o L H=some (.val x H1))(hb:b o L H1=some (.val y H2))(hc:c o L H2=some (.val z H3))(hd:d o L H3=some (.val u H4)):ak (af (.fn (.ref f))) (aa a (aa b (aa c (aa d ai)))) o L H=o f [x,y,z,u] H4:=by
 show bindR (aa a (aa b (aa c (aa d ai))) o L H) _=_;rw[lq ha (lq hb (lq hc (lq hd rfl)))];rfl
theorem yY(K:bt c hl H d sp Y2 av vs){XQ v:Str}{code:Int}(hd:cG XQ av=some (.tup [.int code,.str v]))(XY:Y2.length<100000):
  ∃H',wX (ah (n+3) d7 [az c,.str XQ] H) H H' (aH XQ code v)/\bt c hl H' d sp (Y2++[XQ]) av vs/\Ext c hl H H':=by
 obtain⟨g1,-⟩:=cK c d sp;obtain⟨-,g2,g3⟩:=jQ c hl;have K1:=K.wW (Y2++[XQ]);have x1:Ext c hl H (H.set hl (.list ((Y2++[XQ]).map MV.str))):=Ext.wW _
 (generalize hH1:H.set hl (.list ((Y2++[XQ]).map MV.str))=H1 at K1 x1;revert H1;refine gA ?_;intros)
 have Ep:dW (.obj hl) (.str XQ) H=some (.val .none H1):=by
  rw[append_at K.mI (by simp;exact oG XY rfl),<-hH1,fk];rfl
 have s1:(bT (cM .list cg (c2 au (c1 (bA 691 (S "tools")) (ae 0)) (af (.str (S "log")))) (aa (ae 1) ai))) (ah (n+2)) [some (az c),some (.str XQ),none,none] H=some (.next [some (az c),some (.str XQ),none,none] H1):=
  Aq ((QZ ((ba (d0 rfl (eJ K.host g1 rfl)) rfl).trans (kj K.er g3)) (eU K.mI) rfl).trans Ep)
 have s2:(di [2,3] (c2 au (c2 au (c1 (bA 691 (S "tools")) (ae 0)) (af (.str (S "deeds")))) (ae 1))) (ah (n+2)) [some (az c),some (.str XQ),none,none] H1=some (.next [some (az c),some (.str XQ),some (.int code),some (.str v)] H1):=by
  unfold di;rw[(ba ((ba (d0 rfl (eJ K1.host g1 rfl)) rfl).trans (kj K1.er g2)) rfl).trans (kj K1.av hd)];rfl
 have ne:∀H,we (.int code) (.int 0) H=some (.val (.bool (code !=0)) H):=fun _=>rfl
 rw[aD (by decide) rfl ⟨ao _,ao _⟩];by_cases hc:code=0
 ·have hb:(code !=0)=false:=by simpa using hc
  refine⟨H1,.val ?_ ?_,K1,x1⟩
  ·unfold aH;rw[if_pos hc];rfl
  ·have:(aH XQ code v).val=v:=by unfold aH;rw[if_pos hc];rfl
   rw[this];refine aP ?_;show aR (gm (ah (n+2)) [some (az c),some (.str XQ),none,none] H) _;unfold gm;refine aj s1 (aj s2 (aj (L1:=[some (az c),some (.str XQ),some (.int code),some (.str v)]) (H1:=H1) ((aw (H1:=H1) (dB rfl rfl (by rw[ne,hb]))).trans rfl) ?_));exact aL (L1:=_) rfl
 ·have hb:(code !=0)=true:=by simpa using hc
  have ho:aH XQ code v=⟨code,v,.tup [.str (S "LAW"),.str XQ],if code=2 then 1 else 0⟩:=if_neg hc;rw[ho];refine⟨H1++iX H1 _ true,.exc (H1.length+1) hc ?_ (lB H1 _ rfl) (by rw[<-hH1];simp),K1.pre (Pre.app _ _),x1.trans (Ext.app _)⟩;refine aP ?_;show aR (gm (ah (n+2)) [some (az c),some (.str XQ),none,none] H) _;unfold gm;refine aj s1 (aj s2 (dA (L1:=[some (az c),some (.str XQ),some (.int code),some (.str v)]) ((aB (H1:=H1) (dB rfl rfl (by rw[ne,hb]))).trans (cu (hV (H1:=H1) (ao _) ?_)))));have eq2:∀H,bQ (.int code) (.int 2) H=some (.val (.bool (code==2)) H):=fun _=>rfl
  have iK:∀lv:Int,ah (n+2) 84 [.int code,.str v,.tup [.str (S "LAW"),.str XQ],.int lv] H1=some (.val (.obj (H1.length+1)) (H1++iX H1 ⟨code,v,.tup [.str (S "LAW"),.str XQ],lv⟩ false)):=fun lv=>by rfl'
  by_cases h2:code=2
  ·have hb2:(code==2)=true:=by simpa using h2
   rw[if_pos h2,<-iK];exact Km rfl rfl (jE rfl rfl) (fU (dB rfl rfl (by rw[eq2,hb2])))
  ·have hb2:(code==2)=false:=by simpa using h2
   rw[if_neg h2,<-iK];exact Km rfl rfl (jE rfl rfl) (eT (dB rfl rfl (by rw[eq2,hb2])))
theorem ExcAt.set(x:ExcAt H k o)(h:H[j]?=some (.dict es))(ob:MO):ExcAt (H.set j ob) k o:=by
 obtain⟨kd,fs,h1,h2,r⟩:=x.ex;have e1:j≠k:=fun q=>by subst q;rw[h]at h1;cases h1
 have e2:j≠kd:=fun q=>by subst q;rw[h]at h2;cases h2
 exact⟨kd,fs,(bB e1).trans h1,(bB e2).trans h2,r⟩
theorem ExcAt.raised(x:ExcAt H k o):jf k H=true:=by
 obtain⟨kd,fs,h1,r⟩:=x.ex;unfold jf;rw[h1]
theorem HV(h:b o L H=some (.ret p L1 H1))(h2:f o L1 H1=some (.next L1 H2)):iO b f o L H=some (.ret p L1 H2):=by
 unfold iO;rw[h];dsimp only;rw[h2]
theorem HW(h:b o L H=some (.exc k L1 H1))(h2:f o L1 H1=some (.next L1 H2))(h3:jf k H2=true):iO b f o L H=some (.exc k L1 H2):=by
 unfold iO;rw[h];dsimp only;rw[h2];dsimp only;rw[if_pos h3]
theorem oj(h:ob o L H=some (.val (.inst C k) H))(h1:H[k]?=some (.dict es))(h2:cG XQ es=some u)(h3:noFn u=true)(he:e o L H=some (.val v H))(hf:f u v H=some (.val y H))(hl:es.length<=1000):
  eh C XQ ob f e o L H=some (.next L (H.set k (.dict (put XQ y es)))):=by
 unfold eh;rw[h];simp only[aW,eJ h1 h2 h3,he,hf,qK h1 hl]
theorem HX(K:bt c hl H d sp Y2 av vs):ah (n+1) DS [az c,.str (S "run")] H=some (.val (.fn (.ref d7)) H):=by
 obtain⟨g1,-⟩:=cK c d sp;obtain⟨g2,-,-⟩:=jQ c hl;rw[aD (by decide) rfl ⟨ao _,ao _⟩];refine aP ?_;show aR (oV (ah n) [some (az c),some (.str (S "run"))] H) _;unfold oV;have hn:eX (.str (S "run")) (.obj c.ht) H=some (.val (.bool false) H):=by
  unfold eX;dsimp only;rw[K.er];dsimp only;rw[g2];rfl
 refine aj (L1:=[some (az c),some (.str (S "run"))]) (H1:=H) ((aw (H1:=H) (dB rfl (d0 rfl (eJ K.host g1 rfl)) hn)).trans rfl) ?_;exact aL (L1:=[some (az c),some (.str (S "run"))]) (aI ((ba (d0 rfl (eJ K.host g1 rfl)) rfl).trans (kj K.er g2)))
theorem OY(K:bt c hl H 0 sp Y2 av vs){XQ v:Str}{code:Int}(hd:cG XQ av=some (.tup [.int code,.str v]))(XY:Y2.length<100000):
  ∃H',wX (ah (n+4) Hx [az c,.str XQ] H) H H' (aH XQ code v)/\bt c hl H' 0 sp (Y2++[XQ]) av vs/\Ext c hl H H':=by
 obtain⟨g1,-,-,g4,g5,-,-,-,g9,-⟩:=cK c 0 sp;obtain⟨-,g2,-⟩:=gv c 0 sp;have hfl:∀d,(br c d sp).length<=1000:=fun d=>by show 12<=1000;decide
 have K1:=K.oh 1 sp;have x1:Ext c hl H (H.set c.hh (.dict (br c 1 sp))):=Ext.oh _;have s3:(eh 691 (S "depth") (ae 0) oJ (af (.int 1))) (ah (n+3)) [some (az c),some (.str XQ),some (.fn (.ref d7))] H=some (.next [some (az c),some (.str XQ),some (.fn (.ref d7))] (H.set c.hh (.dict (br c 1 sp)))):=by
  rw[oj (u:=.int 0) (v:=.int 1) (y:=.int 1) rfl K.host g4 rfl rfl rfl (hfl 0),g9]
 (generalize hH1:H.set c.hh (.dict (br c 1 sp))=H1 at K1 x1 s3;revert H1;refine gA ?_;intros)
 have hl1:H1.length=H.length:=by rw[<-hH1];simp
 obtain⟨H2,hdo,K2,x2⟩:=yY (n:=n) K1 hd XY;have K3:=K2.oh 0 sp;have x3:Ext c hl H2 (H2.set c.hh (.dict (br c 0 sp))):=Ext.oh _;obtain⟨-,-,-,f4,-,-,-,-,f9,-⟩:=cK c 1 sp;have s4:∀L:Loc,L[0]?=some (some (az c))->(ag (eh 691 (S "depth") (ae 0) dT (af (.int 1))) aq) (ah (n+3)) L H2=some (.next L (H2.set c.hh (.dict (br c 0 sp)))):=fun L hL=>by
  refine(aF (L1:=L) (H1:=H2.set c.hh (.dict (br c 0 sp))) ?_).trans rfl;rw[oj (u:=.int 1) (v:=.int 1) (y:=.int 0) (by unfold ae;rw[hL]) K2.host f4 rfl rfl rfl (hfl 1),f9]
 have dec:decide ((40:Int)<=0)=false:=rfl;rw[aD (by decide) rfl ⟨ao _,ao _⟩];have pre:∀z,aR ((ag (iO (ag (aK (ak (ae 2) (aa (ae 0) (aa (ae 1) ai))))
  aq)
  (ag (eh 691 (S "depth") (ae 0) dT (af (.int 1)))
  aq))
 aq) (ah (n+3)) [some (az c),some (.str XQ),some (.fn (.ref d7))] H1) z->dj 3 ll (ah (n+3)) [az c,.str XQ] H=some z:=by
  intro z hz;refine aP ?_;show aR (ll (ah (n+3)) [some (az c),some (.str XQ),none] H) _;unfold ll;refine aj (L1:=[some (az c),some (.str XQ),none]) (H1:=H) ((aw (H1:=H) (dB (d0 rfl (eJ K.host g4 rfl)) (d0 rfl (eJ K.host g5 rfl)) rfl)).trans rfl) ?_;refine aj (L1:=[some (az c),some (.str XQ),some (.fn (.ref d7))]) (H1:=H) (aJ ((oZ rfl K.host g2 rfl).trans (HX (n:=n+2) K))) ?_;exact aj s3 hz
 have iK:∀r,ah (n+3) d7 [az c,.str XQ] H1=r->(ak (ae 2) (aa (ae 0) (aa (ae 1) ai))) (ah (n+3)) [some (az c),some (.str XQ),some (.fn (.ref d7))] H1=r:=fun r h=>h
 refine⟨H2.set c.hh (.dict (br c 0 sp)),?_,K3,(x1.trans x2).trans x3⟩;cases hdo with
 |val h1 h2=>
  refine .val h1 (pre (.val _ _) ?_);exact aL (HV (aE (aI (iK _ h2))) (s4 _ rfl))
 |exc k h1 h2 h3 h4=>
  refine .exc k h1 (pre (.exc _ _) ?_) (h3.set K2.host _) (by exact LF hl1 h4);exact dA (HW (cu (rA (iK _ h2))) (s4 _ rfl) (h3.set K2.host _).raised)
end
def qL(t:Nat):List (Str×MV):=[(S "kind",.str (S "none")),(S "value",.str (S "")),(S "traces",.obj t),(S "is_busy",.bool false),(S "is_element",.bool false),(S "writes",.int 0)]
theorem mJ{α:Type}(H:List α)(x y:α):(H++[x,y])[H.length]?=some x:=by simp
theorem p7{α:Type}(H:List α)(x y z:α):(H++[x,y]).set H.length z=H++[z,y]:=by simp
theorem kF(he:e o L H=some (.val v H1))(h:ob o L H1=some (.val (.inst C k) H1))(h1:H1[k]?=some (.dict es))(hl:es.length<=1000):
  eN C XQ ob e o L H=some (.next L (H1.set k (.dict (put XQ v es)))):=by
 unfold eN;rw[he];simp only[aW,h,qK h1 hl]
theorem OZ:put (S "kind") (.str (S "none")) []=[(S "kind",.str (S "none"))]/\put (S "value") (.str (S "")) [(S "kind",.str (S "none"))]=[(S "kind",.str (S "none")),(S "value",.str (S ""))]/\
  (∀t,put (S "traces") (.obj t) [(S "kind",.str (S "none")),(S "value",.str (S ""))]=[(S "kind",.str (S "none")),(S "value",.str (S "")),(S "traces",.obj t)])/\
  (∀t,put (S "is_busy") (.bool false) [(S "kind",.str (S "none")),(S "value",.str (S "")),(S "traces",.obj t)]=[(S "kind",.str (S "none")),(S "value",.str (S "")),(S "traces",.obj t),(S "is_busy",.bool false)])/\
  (∀t,put (S "is_element") (.bool false) [(S "kind",.str (S "none")),(S "value",.str (S "")),(S "traces",.obj t),(S "is_busy",.bool false)]=[(S "kind",.str (S "none")),(S "value",.str (S "")),(S "traces",.obj t),(S "is_busy",.bool false),(S "is_element",.bool false)])/\
  (∀t,put (S "writes") (.int 0) [(S "kind",.str (S "none")),(S "value",.str (S "")),(S "traces",.obj t),(S "is_busy",.bool false),(S "is_element",.bool false)]=qL t):=by
 refine⟨?_,?_,fun t=>?_,fun t=>?_,fun t=>?_,fun t=>?_⟩<;>rfl'
theorem yZ:ah (n+1) 440 [.inst 443 H.length] (H++[.dict []])=some (.val .none (H++[.dict (qL (H.length+1)),.list []])):=by
 obtain⟨p1,p2,p3,p4,p5,p6⟩:=OZ;rw[aD (by decide) rfl ⟨ao _,ao _⟩];refine aP ?_;show aR (rz (ah n) [some (.inst 443 H.length)] (H++[.dict []])) _;unfold rz;refine aj (L1:=[some (.inst 443 H.length)]) (H1:=H++[.dict [(S "kind",.str (S "none"))]]) (by rw[kF (v:=.str (S "none")) rfl rfl (bc _ _) (by decide),rB,p1]) ?_;refine aj (L1:=[some (.inst 443 H.length)]) (H1:=H++[.dict [(S "kind",.str (S "none")),(S "value",.str (S ""))]]) (by rw[kF (v:=.str (S "")) rfl rfl (bc _ _) (by decide),rB,p2]) ?_;have hl:(H++[MO.dict [(S "kind",.str (S "none")),(S "value",.str (S ""))]]).length=H.length+1:=by simp
 have ap:∀es:List (Str×MV),H++[MO.dict es]++[MO.list []]=H++[MO.dict es,MO.list []]:=fun es=>by simp
 refine aj (L1:=[some (.inst 443 H.length)]) (H1:=H++[.dict [(S "kind",.str (S "none")),(S "value",.str (S "")),(S "traces",.obj (H.length+1))],.list []]) ?_ ?_
 ·rw[kF (v:=.obj (H.length+1)) (H1:=H++[.dict [(S "kind",.str (S "none")),(S "value",.str (S ""))],.list []]) (k:=H.length) (es:=[(S "kind",.str (S "none")),(S "value",.str (S ""))]) ?_ rfl (mJ _ _ _) (by simp),p7,p3];rw[<-ap,<-hl];rfl
 refine aj (L1:=[some (.inst 443 H.length)]) (H1:=H++[.dict [(S "kind",.str (S "none")),(S "value",.str (S "")),(S "traces",.obj (H.length+1)),(S "is_busy",.bool false)],.list []]) (by rw[kF (v:=.bool false) rfl rfl (mJ _ _ _) (by simp),p7,p4]) ?_;refine aj (L1:=[some (.inst 443 H.length)]) (H1:=H++[.dict [(S "kind",.str (S "none")),(S "value",.str (S "")),(S "traces",.obj (H.length+1)),(S "is_busy",.bool false),(S "is_element",.bool false)],.list []]) (by rw[kF (v:=.bool false) rfl rfl (mJ _ _ _) (by simp),p7,p5]) ?_;refine aj (L1:=[some (.inst 443 H.length)]) (H1:=H++[.dict (qL (H.length+1)),.list []]) (by rw[kF (v:=.int 0) rfl rfl (mJ _ _ _) (by simp),p7,p6]) ?_;exact DT
theorem z5:oO 443 440 (ah (n+1)) L H=some (.val (.inst 443 H.length) (H++[.dict (qL (H.length+1)),.list []])):=by
 unfold oO mkBody;rw[yZ];rfl
theorem uf(t:Nat):cG (S "kind") (qL t)=some (.str (S "none")):=by rfl'
theorem p8:cG x ((k,v)::r)=if x=k then some v else cG x r:=rfl
theorem lJ:∀{es:List (Str×MV)},cG x (put y v es)=if x=y then some v else cG x es:=by
 intro es
 induction es with
 |nil=>rfl
 |cons z r ih=>
  obtain⟨k,u⟩:=z;rw[DR];by_cases h:y=k
  ·subst h;rw[if_pos rfl,p8,p8];by_cases h2:x=y
   ·rw[if_pos h2,if_pos h2]
   ·rw[if_neg h2,if_neg h2,if_neg h2]
  ·rw[if_neg h,p8,p8,ih];by_cases h2:x=k
   ·rw[if_pos h2,if_pos h2,if_neg (by rw[h2];exact Ne.symm h)]
   ·rw[if_neg h2,if_neg h2]
theorem vd:∀{es:List (Str×MV)},(put y v es).length<=es.length+1
 |[]=>ao _
 |(k,u)::r=>by
  rw[DR]
  split
  ·simp
  ·have:=vd (y:=y) (v:=v) (es:=r);simp only[bo];exact LG this
def wY(x:Str):Out:=bad (S "can't read \""++x++S "\": no such variable") (.tup [.str (S "TCL"),.str (S "LOOKUP"),.str (S "VARNAME"),.str x])
def cB(x:Str):Out:=match cA x with
 |some y=>good y
 |none=>wY x
theorem SA:(S "can't ").length<=100/\(S "read").length<=100/\(S " \"").length<=100/\(S "\": no such variable").length<=100/\(S "can't read \"").length<=100/\S "can't "++S "read"++S " \""=S "can't read \"":=by ac_rfl
theorem sj(hx:x.length<=1000):ah (n+4) nJ [.str (S "read"),.str x] H=some (.val (.obj (H.length+1)) (H++iX H (wY x) false)):=by
 obtain⟨l1,l2,l3,l4,l5,l6⟩:=SA;rw[aD (by decide) rfl ⟨ao _,ao _⟩];refine aP ?_;show aR (i0 (ah (n+3)) [some (.str (S "read")),some (.str x),none] H) _;unfold i0;refine aj (L1:=[some (.str (S "read")),some (.str x),some (.str (wY x).val)]) (H1:=H) (aJ ?_) ?_
 ·rw[dw (dw (dw (dw (H1:=H) rfl (H2:=H) rfl (by exact uT l1 l2)) (H2:=H) rfl (by rw[aS];exact Oe l1 l2 l3)) (H2:=H) rfl (by rw[aS,aS];exact Of hx l1 l2 l3)) (H2:=H) rfl (by rw[aS,aS,aS];exact Og hx l1 l2 l3 l4),l6];rfl
 ·exact aL (L1:=_) (aI ((call2 rfl (yJ rfl rfl rfl rfl)).trans mG))
theorem sk(hx:x.length<=1000):ah (n+2) hY [.str x] H=some (.val (wY x).mv H):=by
 obtain⟨l1,l2,l3,l4,l5,l6⟩:=SA;rw[aD (by decide) rfl ⟨ao _,ao _⟩];refine aP ?_;show aR (i4 (ah (n+1)) [some (.str x)] H) _;unfold i4;exact aL (L1:=_) (aI ((call2 (dw (dw (H1:=H) rfl (H2:=H) rfl (by exact Oh hx l5)) (H2:=H) rfl (by rw[aS];exact Oi hx l4 l5)) (yJ rfl rfl rfl rfl)).trans kE))
section
variable{c:HC}{hl:Nat}{H:MH}{d sp:Int}{Y2:List Str}{av vs:List (Str×MV)}{n:Nat}
theorem in_dict(h:H[k]?=some (.dict es)):eX (.str x) (.obj k) H=some (.val (.bool !(cG x es).isSome) H):=by
 unfold eX;dsimp only;rw[h]
set_option tactic.hygienic true in
theorem BM(K:bt c hl H d sp Y2 av vs)(x:Str)(hv:vs.length<=900):∃H' cE k fs,ah (n+2) wy [.obj c.hv,.str x] H=some (.val (.inst 443 k) H')/\bt c hl H' d sp Y2 av cE/\Ext c hl H H'/\cE.length<=vs.length+1/\
  H'[k]?=some (.dict fs)/\((cA x=none/\cG (S "kind") fs=some (.str (S "none")))\/∃y,cA x=some y/\cG (S "kind") fs=some (.str (S "scalar"))/\cG (S "value") fs=some (.str y)):=by
 rw[aD (by decide) rfl ⟨ao _,ao _⟩];cases hx:cG x vs with
 |some p=>
  obtain⟨k,fs,rfl,h2,h3,h4,h5,h6⟩:=K.vc x p hx;refine⟨H,vs,k,fs,?_,K,Ext.refl,by exact lU,h2,h6⟩;refine aP ?_;show aR (kz (ah (n+1)) [some (.obj c.hv),some (.str x)] H) _;unfold kz;refine aj (L1:=[some (.obj c.hv),some (.str x)]) (H1:=H) ((aw (H1:=H) (dB rfl rfl (by rw[in_dict K.vars,hx];rfl))).trans rfl) ?_;exact aL (L1:=_) (aI ((ba rfl rfl).trans (kj K.vars hx)))
 |none=>
  have hvv:cA x=none:=by
   cases q:cA x with
   |none=>rfl
   |some y=>have:=K.lI x y q;rw[hx]at this;cases this
  have lt:=fun {k:Nat}{o:MO}(h:H[k]?=some o)=>(cm.mp h).1
  (generalize hH1:H++[.dict (qL (H.length+1)),.list []]=H1;revert H1;refine gA ?_;set_option tactic.hygienic false in intros)
  have HY:Pre H H1:=⟨_,hH1.symm⟩
  have K1:=K.pre HY;have hk1:H1[H.length]?=some (.dict (qL (H.length+1))):=by rw[<-hH1,mJ]
  have SG:c.hv<H1.length:=(cm.mp K1.vars).1;have hne:H.length≠c.hv:=dZ (lt K.vars);have hk2:(H1.set c.hv (.dict (put x (.inst 443 H.length) vs)))[H.length]?=some (.dict (qL (H.length+1))):=(bB (Ne.symm hne)).trans hk1;have K2:bt c hl (H1.set c.hv (.dict (put x (.inst 443 H.length) vs))) d sp Y2 av (put x (.inst 443 H.length) vs):=by
   refine⟨(bB (Ne.symm K.n1.2.1)).trans K1.host,(bB K.n2.1).trans K1.er,(bB K.n2.2.2.2).trans K1.mI,(bB K.n2.2.2.1).trans K1.av,fQ SG,(bB K.n2.2.1).trans K1.jm,fun y p hy=>?_,fun y z hy=>?_,K.n1,K.n2,K.n3⟩
   ·rw[lJ]at hy
    split at hy
    ·rename_i q;cases hy;subst q;exact⟨H.length,_,rfl,hk2,dZ (lt K.host),dZ (lt K.mI),hne,.inl ⟨hvv,uf _⟩⟩
    ·obtain⟨k,fs,h1,h2,h3,h4,h5,h6⟩:=K1.vc y p hy;exact⟨k,fs,h1,(bB (Ne.symm h5)).trans h2,h3,h4,h5,h6⟩
   ·rw[lJ]
    split
    ·rfl
    ·exact K.lI y z hy
  refine⟨_,_,H.length,_,?_,K2,(Ext.pre HY).trans (Ext.Vi _),vd,hk2,.inl ⟨hvv,uf _⟩⟩;refine aP ?_;show aR (kz (ah (n+1)) [some (.obj c.hv),some (.str x)] H) _;unfold kz;refine aj (L1:=[some (.obj c.hv),some (.str x)]) (H1:=H1.set c.hv (.dict (put x (.inst 443 H.length) vs))) ((aB (H1:=H) (dB rfl rfl (by rw[in_dict K.vars,hx];rfl))).trans ((aF (L1:=[some (.obj c.hv),some (.str x)]) (H1:=H1.set c.hv (.dict (put x (.inst 443 H.length) vs))) ?_).trans rfl)) ?_
  ·unfold eZ;rw[z5,hH1];simp only[aW,ae,eM,iH,K1.vars];rw[if_pos (by exact cU hv rfl)]
  ·exact aL (L1:=_) (aI ((ba rfl rfl).trans (kj (fQ SG) (show cG x (put x (.inst 443 H.length) vs)=some (.inst 443 H.length) by rw[lJ,if_pos rfl]))))
end
inductive Part where
 |text (t:Str)
 |cmd (XQ:Str) (code:Int) (v:Str)
 |var (x:Str)
 |idx (x XQ:Str) (code:Int) (v:Str)
noncomputable def Part.enc:Part->MV
 |.text t=>.tup [.str (S "text"),.str t]
 |.cmd XQ _ _=>.tup [.str (S "cmd"),.str XQ]
 |.var x=>.tup [.str (S "var"),.str x,.none]
 |.idx x XQ _ _=>.tup [.str (S "var"),.str x,.tup [.tup [.str (S "cmd"),.str XQ]]]
def ig(x v:Str):Str:=x++S "("++v++S ")"
noncomputable def Part.lg:Part->List Str
 |.cmd XQ _ _=> [XQ]
 |.idx _ XQ _ _=> [XQ]
 |_=> []
noncomputable def Part.out:Part->Out
 |.text t=>good t
 |.cmd XQ code v=>aH XQ code v
 |.var x=>cB x
 |.idx x XQ code v=>if code=0 then cB (ig x v) else aH XQ code v
noncomputable def Part.ok(av:List (Str×MV)):Part->Prop
 |.text t=>t.length<=1000
 |.cmd XQ code v=>cG XQ av=some (.tup [.int code,.str v])/\v.length<=100
 |.var x=>x.length<=100
 |.idx x XQ code v=>cG XQ av=some (.tup [.int code,.str v])/\v.length<=100/\x.length<=100
noncomputable def Part.one:Part->Bool
 |.idx _ _ _ _=>false
 |_=>true
theorem Kn:(S "text"==S "text")=true/\(S "cmd"==S "text")=false/\(S "cmd"==S "cmd")=true/\(S "var"==S "text")=false/\(S "var"==S "cmd")=false/\(S "(").length=1/\(S ")").length=1:=by ac_rfl
theorem z6(h:cA x=some y):y.length<=1000:=by
 have:(S "1").length<=1000/\(S "0").length<=1000/\(S "yes").length<=1000:=by ac_rfl
 unfold cA at h
 split at h
 ·cases h;exact this.1
 ·split at h
  ·cases h;exact this.2.1
  ·split at h
   ·cases h;exact this.2.2
   ·cases h
theorem sm(h:(cB x).code=0):(cB x).val.length<=1000:=by
 unfold cB at h ⊢;cases q:cA x with
 |some y=>rw[q]at h;exact z6 q
 |none=>rw[q]at h;exact absurd h (by show(1:Int)≠0;decide)
set_option tactic.hygienic true in
theorem mK{XQ v:Str}{code:Int}(hv:v.length<=100)(h:(aH XQ code v).code=0):(aH XQ code v).val.length<=1000:=by
 unfold aH at h ⊢
 split
 ·show v.length<=1000;exact cU hv rfl
 ·rename_i q;rw[if_neg q]at h;exact absurd h q
theorem Part.len{p:Part}{av:List (Str×MV)}(h:p.ok av)(hc:p.out.code=0):p.out.val.length<=1000:=by
 cases p with
 |text t=>exact h
 |cmd XQ code v=>exact mK h.2 hc
 |var x=>exact sm hc
 |idx x XQ code v=>
  show(if code=0 then cB (ig x v) else aH XQ code v).val.length<=1000;have hc:(if code=0 then cB (ig x v) else aH XQ code v).code=0:=hc;by_cases q:code=0
  ·rw[if_pos q]at hc ⊢;exact sm hc
  ·rw[if_neg q]at hc ⊢;exact mK h.2.1 hc
section
variable{ob:CE}{o:g8}{L:Loc}{H:MH}{es:List (Str×MV)}{C k:Nat}{XQ:Str}{v:MV}
theorem qh(h0:ob o L H=some (.val (.inst C k) H))(h:H[k]?=some (.dict es))(h1:cG XQ es=some v)(h2:noFn v=true):c1 (bA C XQ) ob o L H=some (.val v H):=by
 unfold c1;rw[h0];exact eJ h h1 h2
end
inductive Ko(c:HC)(hl:Nat)(H:MH)(d sp:Int)(Y2:List Str)(av vs:List (Str×MV))(o:Out)(r:Option (Res MV)):Prop
 |mk (H':MH) (cE:List (Str×MV)) (h:wX r H H' o) (K:bt c hl H' d sp Y2 av cE) (x:Ext c hl H H') (hv:cE.length<=vs.length+1):Ko c hl H d sp Y2 av vs o r
section
variable{c:HC}{hl:Nat}{H:MH}{d sp:Int}{Y2:List Str}{av vs:List (Str×MV)}{n:Nat}
theorem Ax(K:bt c hl H d sp Y2 av vs)(hx:x.length<=1000)(hv:vs.length<=900):Ko c hl H d sp Y2 av vs (cB x) (ah (n+6) wB [az c,.str x] H):=by
 obtain⟨-,g2,-⟩:=cK c d sp;obtain⟨-,-,-,m4,m5,-⟩:=gv c d sp;obtain⟨H1,fP,k,fs,h1,K1,x1,hv1,hk,Eu⟩:=BM (n:=n+2) K x hv;have P0:ah (n+5) Bx [az c,.str x] H=some (.val (.inst 443 k) H1):=by
  rw[aD (by decide) rfl ⟨ao _,ao _⟩];refine aP ?_;show aR (ni (ah (n+4)) [some (az c),some (.str x)] H) _;unfold ni;exact aL (L1:=[some (az c),some (.str x)]) (aI ((call2 (x:=.obj c.hv) (H1:=H) (qh rfl K.host g2 rfl) rfl).trans h1))
 have e1:∀z,ah (n+5) uX [az c,.inst 443 k,.str x] H1=some z->ah (n+6) wB [az c,.str x] H=some z:=fun z hz=>by
  rw[aD (by decide) rfl ⟨ao _,ao _⟩];refine aP ?_;show aR (oW (ah (n+5)) [some (az c),some (.str x)] H) _;unfold oW;have:(cL 691 610 (S "read_var") (ae 0) (aa (cL 691 603 (S "place") (ae 0) (aa (ae 1) ai)) (aa (ae 1) ai))) (ah (n+5)) [some (az c),some (.str x)] H=some z:=(Sz (H3:=H1) rfl K.host m5 ((oZ rfl K.host m4 rfl).trans P0) rfl).trans hz;cases z with
  |val p H2=>exact aL (L1:=[some (az c),some (.str x)]) (aI this)
  |exc q H2=>exact dA (L1:=[some (az c),some (.str x)]) (rA this)
 have q1:(S "none"==S "none")=true/\(S "scalar"==S "none")=false:=by ac_rfl
 unfold cB;rcases Eu with ⟨hn,hk1⟩|⟨y,hy,hk1,hk2⟩
 ·rw[hn];refine .mk (H1++iX H1 (wY x) true) fP (.exc (H1.length+1) (by show(1:Int)≠0;decide) (e1 _ ?_) (lB H1 _ rfl) (aN x1.len (jc _))) (K1.pre (Pre.app _ _)) (x1.trans (Ext.app _)) hv1;rw[aD (by decide) rfl ⟨ao _,ao _⟩];refine aP ?_;show aR (fN (ah (n+4)) [some (az c),some (.inst 443 k),some (.str x)] H1) _;unfold fN;exact dA (L1:=[some (az c),some (.inst 443 k),some (.str x)]) ((aB (H1:=H1) (dB (d0 rfl (eJ hk hk1 rfl)) rfl (by rw[lD,q1.1]))).trans (cu (hV (H1:=H1) (ao _) ((call2 (H1:=H1) (H2:=H1) rfl rfl).trans (sj hx)))))
 ·rw[hy];refine .mk H1 fP (.val rfl (e1 _ ?_)) K1 x1 hv1;rw[aD (by decide) rfl ⟨ao _,ao _⟩];refine aP ?_;show aR (fN (ah (n+4)) [some (az c),some (.inst 443 k),some (.str x)] H1) _;unfold fN;refine aj (L1:=[some (az c),some (.inst 443 k),some (.str x)]) (H1:=H1) ((aw (H1:=H1) (dB (d0 rfl (eJ hk hk1 rfl)) rfl (by rw[lD,q1.2]))).trans rfl) ?_;exact aL (L1:=[some (az c),some (.inst 443 k),some (.str x)]) (aI (qh rfl hk hk2 rfl))
end
inductive Vj(L:Loc)(H H':MH)(o:Out)(km:Nat)(xs:List MV)(r:Option RS):Prop
 |val (c0:o.code=0) (h:r=some (.next L (H'.set km (.list (xs++[.str o.val])))))
 |exc (k:Nat) (c0:o.code≠0) (h:r=some (.exc k L H')) (x:ExcAt H' k o) (l:H.length<=k)
theorem Ew(h:wX (e o L H) H H' Y3)(hL:L[2]?=some (some (.obj km)))(hk:H[km]?=some (.list xs))(hk':H'[km]?=some (.list xs))(hn:xs.length<1000):
  Vj L H H' Y3 km xs (bT (cM .list cg (ae 2) (aa e ai)) o L H):=by
 cases h with
 |val h1 h2=>
  refine .val h1 ?_;simp only[bT,aW,cM,ae,bindR,hL,eU hk,c9,aa,ai,h2,cg,append_at hk' (show xs.length<1000000 by exact oG hn rfl)]
 |exc k h1 h2 h3 h4=>
  refine .exc k h1 ?_ h3 h4;simp only[bT,aW,cM,ae,bindR,hL,eU hk,c9,aa,ai,h2]
structure TS(c:HC)(hl:Nat)(H0:MH)(sp:Int)(Y2:List Str)(av vs:List (Str×MV))(ms:List Str)(H:MH):Prop where
 K:bt c hl H 0 sp Y2 av vs
 x:Ext c hl H0 H
 m:H[H0.length]?=some (.list (ms.map MV.str))
 b:c.hh<H0.length/\hl<H0.length/\c.hv<H0.length
section
variable{c:HC}{hl:Nat}{H0 H H':MH}{sp:Int}{Y2:List Str}{av vs:List (Str×MV)}{ms:List Str}{n:Nat}
theorem bt.Ex(K:bt c hl H d sp Y2 av vs)(hk:H[km]?=some (.list xs))(hne:km≠hl):bt c hl (H.set km (.list ys)) d sp Y2 av vs:=by
 have ne:∀{k es},H[k]?=some (MO.dict es)->km≠k:=fun {k es} h q=>by subst q;rw[hk]at h;cases h
 exact⟨(bB (ne K.host)).trans K.host,(bB (ne K.er)).trans K.er,(bB hne).trans K.mI,(bB (ne K.av)).trans K.av,(bB (ne K.vars)).trans K.vars,(bB (ne K.jm)).trans K.jm,
  fun y p h=>(K.vc y p h).elim fun k z=>z.elim fun fs z=>⟨k,fs,z.1,(bB (ne z.2.1)).trans z.2.1,z.2.2⟩,K.lI,K.n1,K.n2,K.n3⟩
theorem Ext.Ex(x:Ext c hl H0 H)(hk:H0.length<=km)(o:MO):Ext c hl H0 (H.set km o):=⟨by rw[List.length_set];exact x.len,fun k h h1 h2 h3=>(bB (by exact uQ hk h)).trans (x.keep k h h1 h2 h3)⟩
theorem TS.lt(T:TS c hl H0 sp Y2 av vs ms H):H0.length<H.length:=(cm.mp T.m).1
theorem TS.set(T:TS c hl H0 sp Y2 av vs ms H)(z7:List Str):TS c hl H0 sp Y2 av vs z7 (H.set H0.length (.list (z7.map MV.str))):=
 ⟨T.K.Ex T.m (dZ T.b.2.1),T.x.Ex (ao _) _,fQ T.lt,T.b⟩
theorem TS.go(T:TS c hl H0 sp Y2 av vs ms H)(K:bt c hl H' 0 sp BL av cE)(x:Ext c hl H H'):TS c hl H0 sp BL av cE ms H':=
 ⟨K,T.x.trans x,x.get T.m (dZ T.b.1) (dZ T.b.2.1) (dZ T.b.2.2),T.b⟩
def UB(c:HC)(q:MV)(h:Nat)(p:MV)(e:Option MV):Loc:=[some (az c),some q,some (.obj h),some p,e]
inductive Ay(w:Nat)(c:HC)(hl:Nat)(H0:MH)(sp:Int)(Y2:List Str)(av vs:List (Str×MV))(ms:List Str)(q p:MV)(lg:List Str)(Y3:Out)(r:Option RS):Prop
 |val (H':MH) (cE:List (Str×MV)) (e:Option MV) (hv:cE.length<=vs.length+w) (c0:Y3.code=0) (hr:r=some (.next (UB c q H0.length p e) H')) (T:TS c hl H0 sp (Y2++lg) av cE (ms++[Y3.val]) H'):Ay w c hl H0 sp Y2 av vs ms q p lg Y3 r
 |exc (H':MH) (cE:List (Str×MV)) (k:Nat) (L:Loc) (hv:cE.length<=vs.length+w) (c0:Y3.code≠0) (hr:r=some (.exc k L H')) (hx:ExcAt H' k Y3) (hk:H0.length<=k) (T:TS c hl H0 sp (Y2++lg) av cE ms H'):Ay w c hl H0 sp Y2 av vs ms q p lg Y3 r
noncomputable def TurnOk(w m:Nat)(av:List (Str×MV))(p:Part):Prop:=∀(c:HC) (hl:Nat) (H0:MH) (sp:Int) (Y2:List Str) (vs:List (Str×MV)) (ms:List Str) (H:MH) (q:MV) (e:Option MV),
 TS c hl H0 sp Y2 av vs ms H->ms.length<100->Y2.length<100000->vs.length+w<=900->Ay w c hl H0 sp Y2 av vs ms q p.enc p.lg p.out (bV (ah m) (UB c q H0.length p.enc e) H)
theorem rD(T:TS c hl H0 sp Y2 av vs ms H)(hm:ms.length<100)
  (h:wX (ce o (UB c q H0.length p e) H) H H' Y3) (K:bt c hl H' 0 sp (Y2++lg) av cE) (x:Ext c hl H H') (hv:cE.length<=vs.length+1):
  Ay 1 c hl H0 sp Y2 av vs ms q p lg Y3 ((bT (cM .list cg (ae 2) (aa ce ai))) o (UB c q H0.length p e) H):=by
 have T':=T.go K x;cases Ew h rfl T.m T'.m (by rw[bR];exact oG hm rfl)with
 |val h1 h2=>
  have T2:=T'.set (ms++[Y3.val]);rw[fk]at T2;exact .val _ cE e hv h1 h2 T2
 |exc k h1 h2 h3 h4=>exact .exc _ cE k _ hv h1 h2 h3 (aN T.x.len h4) T'
end
theorem Az(a b:CS)(o:g8)(L:Loc)(H:MH):(∃L1 H1,a o L H=some (.next L1 H1)/\ag a b o L H=b o L1 H1)\/((∀L1 H1,a o L H≠some (.next L1 H1))/\ag a b o L H=a o L H):=by
 unfold ag;cases a o L H with
 |none=>exact .inr ⟨nofun,rfl⟩
 |some r=>cases r with
  |next L1 H1=>exact .inl ⟨_,_,rfl,rfl⟩
  |_=>exact .inr ⟨nofun,rfl⟩
theorem jG(a:CS):ag a aq=a:=by
 funext o L H;rcases Az a aq o L H with ⟨L1,H1,h,e⟩|⟨-,e⟩
 ·rw[e,h];rfl
 ·exact e
theorem wZ(h1:p.one=true)(h2:p.ok av):TurnOk 1 (n+6) av p:=by
 intro c hl H0 sp Y2 vs ms H q e T hm cX hv;obtain⟨q1,q2,q3,q4,q5,-,-⟩:=Kn;obtain⟨m2,-,m3,-⟩:=gv c 0 sp;unfold bV;simp only[jG];cases p with
 |text t=>
  rw[aB (H1:=H) (by rfl)];exact rD T hm (.val rfl rfl) (by rw[show(Part.text t).lg=[] from rfl,bp];exact T.K) Ext.refl (jc _)
 |cmd XQ code v=>
  obtain⟨H',hd,K',x'⟩:=OY (n:=n+2) T.K h2.1 cX;rw[aw (H1:=H) (by rfl),aB (H1:=H) (by rfl)];exact rD T hm (H':=H') (by rw[oZ rfl T.K.host m2 rfl];exact hd) K' x' (jc _)
 |var x=>
  obtain⟨H',cE,hd,K',x',hv'⟩:=Ax (n:=n) T.K (show x.length<=1000 by have:x.length<=100:=h2;exact cU this rfl) (by exact K5 hv);rw[aw (H1:=H) (by rfl),aw (H1:=H) (by rfl),aB (H1:=H) (by rfl)];exact rD T hm (H':=H') (by rw[oZ rfl T.K.host m3 rfl];exact hd) (by rw[show(Part.var x).lg=[] from rfl,bp];exact K') x' hv'
 |idx x XQ code v=>cases h1
theorem P5(x:Part):x.lg.length<=1:=by cases x<;>simp[Part.lg]
noncomputable def bF:List Part->List Str->List Str×Out
 |[],ms=>([],good (dg (S "") ms))
 |p::r,ms=>if p.out.code=0 then(p.lg++(bF r (ms++[p.out.val])).1,(bF r (ms++[p.out.val])).2) else(p.lg,p.out)
theorem jn:bF (p::r) ms=if p.out.code=0 then(p.lg++(bF r (ms++[p.out.val])).1,(bF r (ms++[p.out.val])).2) else(p.lg,p.out):=rfl
inductive z8(c:HC)(hl:Nat)(H0:MH)(sp:Int)(Y2:List Str)(av vs:List (Str×MV))(w:Nat)(q:MV)(r:List Part)(ms:List Str)(z:Option RS):Prop
 |val (H':MH) (cE:List (Str×MV)) (z7:List Str) (p' e':Option MV) (hv:cE.length<=vs.length+r.length*w) (ho:(bF r ms).2=good (dg (S "") z7)) (hm:z7.length<=100) (hl1:∀x∈z7,x.length<=1000) (T:TS c hl H0 sp (Y2++(bF r ms).1) av cE z7 H')
   (hf:z=some (.next [some (az c),some q,some (.obj H0.length),p',e'] H')):z8 c hl H0 sp Y2 av vs w q r ms z
 |exc (H':MH) (cE:List (Str×MV)) (k:Nat) (L:Loc) (z7:List Str) (hv:cE.length<=vs.length+r.length*w) (c0:(bF r ms).2.code≠0) (hf:z=some (.exc k L H')) (hx:ExcAt H' k (bF r ms).2) (hk:H0.length<=k) (T:TS c hl H0 sp (Y2++(bF r ms).1) av cE z7 H'):z8 c hl H0 sp Y2 av vs w q r ms z
theorem z9{w m:Nat}{av:List (Str×MV)}{ps:List Part}(hps:∀p∈ps,TurnOk w m av p/\(p.out.code=0->p.out.val.length<=1000)){c:HC}{hl:Nat}{H0:MH}{sp:Int}{q:MV}:∀(r:List Part) (i:Nat) (Y2:List Str) (vs:List (Str×MV)) (ms:List Str) (H:MH) (p e:Option MV) (N:Nat),
  ps.drop i=r->r.length<N->TS c hl H0 sp Y2 av vs ms H->ms.length+r.length<=100->(∀x∈ms,x.length<=1000)->Y2.length+r.length<=100000->vs.length+r.length*w<=900->
  z8 c hl H0 sp Y2 av vs w q r ms (ei (toName 3) bV N (.tup (ps.map Part.enc) i) (ah m) [some (az c),some q,some (.obj H0.length),p,e] H):=by
 intro r
 induction r with
 |nil=>
  intro i Y2 vs ms H p e N hr hN T h1 h2 h3 h4;obtain⟨N,rfl⟩:∃M,N=M+1:=⟨N-1,by have:0<N:=hN;exact nE this⟩
  have hi:(ps.map Part.enc)[i]?=none:=by
   rw[jV];have:=aY List.length hr;rw[mr,cS]at this;rw[bR];exact nV this
  refine .val H vs ms p e (mu _ _) rfl h1 h2 (by rw[show(bF [] ms).1=[] from rfl,bp];exact T) ?_;rw[fO (by show(match (ps.map Part.enc)[i]? with|some x=>_|none=>_)=_;rw[hi])]
 |cons x r ih=>
  intro i Y2 vs ms H p e N hr hN T h1 h2 h3 h4;obtain⟨N,rfl⟩:∃M,N=M+1:=⟨N-1,by have:0<N:=gB (eW _) hN;exact nE this⟩
  simp only[bo,Nat.succ_mul]at h1 h3 h4 hN;have hx:ps[i]?=some x:=by
   have:=aY List.head? hr;rw[List.head?_drop]at this;exact this
  have hr':ps.drop (i+1)=r:=by
   have:=aY List.tail hr;rw[List.tail_drop]at this;exact this
  have hi:(ps.map Part.enc)[i]?=some x.enc:=by rw[dP,hx];rfl
  obtain⟨hx1,hx2⟩:=hps x (d8 hx);have ht:=hx1 c hl H0 sp Y2 vs ms H q e T (by exact uR h1) (by exact uR h3) (by exact LH h4);have Ey:∀L:Loc,ei (toName 3) bV (N+1) (.tup (ps.map Part.enc) i) (ah m) [some (az c),some q,some (.obj H0.length),p,e] H=_:=fun L=>dz (show dM (.tup (ps.map Part.enc) i) H=some (some (x.enc,.tup (ps.map Part.enc) (i+1))) by show(match (ps.map Part.enc)[i]? with|some x=>_|none=>_)=_;rw[hi]) (show toName 3 x.enc _=some _ from rfl)
  have hst:=Ey [];dsimp only[List.set_cons_succ,List.set_cons_zero]at hst;rw[hst];cases ht with
  |val H1 fP e1 hv1 c0 hb T1=>
   have iB:bF (x::r) ms=(x.lg++(bF r (ms++[x.out.val])).1,(bF r (ms++[x.out.val])).2):=if_pos c0;have Ez:=ih (i+1) (Y2++x.lg) fP (ms++[x.out.val]) H1 (some x.enc) e1 N hr' (by exact jI hN) T1 (by simp;exact qC h1) (fun y hy=>by
    rcases kT.mp hy with hy|hy
    ·exact h2 y hy
    ·cases c8.mp hy;exact hx2 c0) (by rw[bJ];have:=P5 x;exact LI h3 this) (by exact LJ h4 hv1)
   rw[show bV (ah m) [some (az c),some q,some (.obj H0.length),some x.enc,e] H=_ from hb];cases Ez with
   |val H2 gz z7 p' e' hv2 ho hm hl1 T2 hf=>exact .val H2 gz z7 p' e' (by simp only[bo,Nat.succ_mul];exact Dg hv1 hv2) (by rw[iB];exact ho) hm hl1 (by rw[iB,<-bZ];exact T2) hf
   |exc H2 gz k L z7 hv2 c1 hf hx hk T2=>exact .exc H2 gz k L z7 (by simp only[bo,Nat.succ_mul];exact Dg hv1 hv2) (by rw[iB];exact c1) hf (by rw[iB];exact hx) hk (by rw[iB,<-bZ];exact T2)
  |exc H1 fP k L hv1 c0 hb hex hk T1=>
   have iB:bF (x::r) ms=(x.lg,x.out):=if_neg c0;rw[show bV (ah m) [some (az c),some q,some (.obj H0.length),some x.enc,e] H=_ from hb];exact .exc H1 fP k L ms (by simp only[bo,Nat.succ_mul];exact LK hv1) (by rw[iB];exact c0) rfl (by rw[iB];exact hex) hk (by rw[iB];exact T1)
theorem so:∀ms:List Str,strsOf (ms.map MV.str)=some ms
 |[]=>rfl
 |x::r=>by
  show(match strsOf (r.map MV.str)with|some l=>some (x::l)|none=>none)=_;rw[so r]
theorem sumLen_le{sep:Str}(h:sep.length<=16):∀ms:List Str,(∀x∈ms,x.length<=1000)->kf sep ms<=1016*ms.length
 |[],_=>ao _
 |x::r,hx=>by
  have h1:=hx x (List.mem_cons_self ..);have h2:=sumLen_le h r (fun y hy=>hx y (List.mem_cons_of_mem _ hy));show x.length+sep.length+kf sep r<=1016*(r.length+1);exact LL h h1 h2
theorem ve(h:H[k]?=some (.list (ms.map MV.str)))(hs:sep.length<=16)(h1:ms.length<=100)(h2:∀x∈ms,x.length<=1000):lV (.str sep) [.obj k] H=some (.val (.str (dg sep ms)) H):=by
 unfold lV;dsimp only;rw[h];dsimp only;rw[so];dsimp only;rw[if_pos ⟨hs,by have:=sumLen_le hs ms h2;exact LM h1 this,by exact cU h1 rfl⟩]
theorem EA:(S "").length<=16/\(S " ").length<=16:=by ac_rfl
theorem ug{w m:Nat}{av:List (Str×MV)}{ps:List Part}(hps:∀p∈ps,TurnOk w m av p/\(p.out.code=0->p.out.val.length<=1000)){c:HC}{hl:Nat}{H:MH}{sp:Int}{Y2:List Str}{vs:List (Str×MV)}(K:bt c hl H 0 sp Y2 av vs)(h1:ps.length<=90)(h3:Y2.length+ps.length<=100000)(h4:vs.length+ps.length*w<=900):
  ∃H' cE,wX (ah (m+1) ej [az c,.tup (ps.map Part.enc)] H) H H' (bF ps []).2/\bt c hl H' 0 sp (Y2++(bF ps []).1) av cE/\Ext c hl H H'/\cE.length<=vs.length+ps.length*w:=by
 have lt:=fun {k:Nat}{o:MO}(h:H[k]?=some o)=>(cm.mp h).1
 have T:TS c hl H sp Y2 av vs [] (H++[.list []]):=⟨K.pre (Pre.app _ _),Ext.app _,bc _ _,lt K.host,lt K.mI,lt K.vars⟩
 have hr:=z9 hps (q:=.tup (ps.map Part.enc)) ps 0 Y2 vs [] _ none none many rfl (by unfold many;exact ku h1 rfl) T (by rw[cS];exact Dh h1 rfl) (fun _ h=>by cases h) h3 h4;rw[aD (by decide) rfl ⟨ao _,ao _⟩];have hmk:(aO 2 (dy ai)) (ah m) [some (az c),some (.tup (ps.map Part.enc)),none,none,none] H=some (.next [some (az c),some (.tup (ps.map Part.enc)),some (.obj H.length),none,none] (H++[.list []])):=by
  simp only[aO,aW,dy,ai,bindR,cS,d9,eW,c9,List.set_cons_succ,List.set_cons_zero]
 have SH:(ic (toName 3) (ae 1) bV) (ah m) [some (az c),some (.tup (ps.map Part.enc)),some (.obj H.length),none,none] (H++[.list []])=ei (toName 3) bV many (.tup (ps.map Part.enc) 0) (ah m) [some (az c),some (.tup (ps.map Part.enc)),some (.obj H.length),none,none] (H++[.list []]):=rfl;cases hr with
 |val H' cE z7 p' e' hv ho hm1 hm2 T' hf=>
  refine⟨H',cE,.val (by rw[ho];rfl) ?_,T'.K,T'.x,hv⟩;rw[ho];refine aP ?_;show aR (ek (ah m) [some (az c),some (.tup (ps.map Part.enc)),none,none,none] H) _;unfold ek;refine aj hmk (aj (SH.trans hf) (aL (L1:=[some (az c),some (.tup (ps.map Part.enc)),some (.obj H.length),p',e']) (aI ?_)));have hj:=ve (sep:=S "") T'.m EA.1 hm1 hm2;simp only[cM,af,bindR,jD,c9,aa,ai,ae,eM,iH,hj];rfl
 |exc H' cE k L z7 hv c0 hf hex hk T'=>
  refine⟨H',cE,.exc k c0 ?_ hex hk,T'.K,T'.x,hv⟩;refine aP ?_;show aR (ek (ah m) [some (az c),some (.tup (ps.map Part.enc)),none,none,none] H) _;unfold ek;exact aj hmk (dA (SH.trans hf))
theorem EB{n:Nat}{av:List (Str×MV)}{x XQ v:Str}{code:Int}(h2:(Part.idx x XQ code v).ok av):TurnOk 2 (n+7) av (.idx x XQ code v):=by
 intro c hl H0 sp Y2 vs ms H q e T hm cX hv;obtain⟨q1,q2,q3,q4,q5,q6,q7⟩:=Kn;obtain⟨m2,-,m3,-⟩:=gv c 0 sp;obtain⟨hd,hv1,hx1⟩:=h2;unfold bV;simp only[jG];have hok:∀p∈ [Part.cmd XQ code v],TurnOk 1 (n+6) av p/\(p.out.code=0->p.out.val.length<=1000):=fun p hp=>by
  cases c8.mp hp;exact⟨wZ rfl ⟨hd,hv1⟩,fun hc=>mK hv1 hc⟩
 obtain⟨H1,fP,hdo,K1,x1,hvl⟩:=ug hok T.K (by show 1<=90;decide) (by show Y2.length+1<=100000;exact LN cX) (by show vs.length+1*1<=900;exact LO hv);rw[aw (H1:=H) (by rfl),aw (H1:=H) (by rfl),aw (H1:=H) (by rfl)];have hc:(ak (af (.fn (.ref ej))) (aa (ae 0) (aa (c2 au (ae 3) (af (.int 2))) ai))) (ah (n+7)) [some (az c),some q,some (.obj H0.length),some (Part.idx x XQ code v).enc,e] H=ah (n+6+1) ej [az c,.tup ([Part.cmd XQ code v].map Part.enc)] H:=call2 (H1:=H) (H2:=H) rfl rfl;rw[<-hc]at hdo;by_cases h0:code=0
 ·have ho:(Part.idx x XQ code v).out=cB (ig x v):=if_pos h0;have iB:bF [Part.cmd XQ code v] []=([XQ],good v):=by
   rw[jn];have:(Part.cmd XQ code v).out=good v:=if_pos h0;rw[this];rfl
  rw[iB]at hdo K1;rcases hdo with ⟨-,hdo⟩|⟨k,hk,-⟩
  ·have XY:(ig x v).length<=1000:=by unfold ig;rw[aS,aS,aS];exact Oa q6 q7 hv1 hx1
   have hvl:fP.length<=vs.length+1*1:=hvl;have T1:=T.go K1 x1;obtain⟨H2,gz,hr,K2,x2,hv2⟩:=Ax (n:=n+1) K1 XY (by exact LP hv hvl);have HZ:(aO 4 (ak (af (.fn (.ref ej))) (aa (ae 0) (aa (c2 au (ae 3) (af (.int 2))) ai)))) (ah (n+7)) [some (az c),some q,some (.obj H0.length),some (Part.idx x XQ code v).enc,e] H=some (.next [some (az c),some q,some (.obj H0.length),some (Part.idx x XQ code v).enc,some (.str v)] H1):=aJ hdo;have tC:(c2 bb (c2 bb (c2 bb (c2 au (ae 3) (af (.int 1))) (af (.str (S "(")))) (ae 4)) (af (.str (S ")")))) (ah (n+7)) [some (az c),some q,some (.obj H0.length),some (Part.idx x XQ code v).enc,some (.str v)] H1=some (.val (.str (ig x v)) H1):=
    dw (dw (dw (H1:=H1) rfl (H2:=H1) rfl (by exact Ob q6 hx1 rfl)) (H2:=H1) rfl (by rw[aS];exact Oc q6 hv1 hx1)) (H2:=H1) rfl (by rw[aS,aS];exact Od q6 q7 hv1 hx1)
   have hT:=rD (ce:=cL 691 624 (S "read") (ae 0) (aa (c2 bb (c2 bb (c2 bb (c2 au (ae 3) (af (.int 1))) (af (.str (S "(")))) (ae 4)) (af (.str (S ")")))) ai)) (lg:=[]) T1 hm (H':=H2) (by rw[oZ (H2:=H1) rfl K1.host m3 tC];exact hr) (by rw[bp];exact K2) x2 hv2;rw[ho];cases hT with
   |val H3 xc e3 h3 c0 hr T=>exact .val H3 xc e3 (Di hvl h3) c0 ((aF HZ).trans hr) (by rw[bp]at T;exact T)
   |exc H3 xc k L h3 c0 hr hx hk T=>exact .exc H3 xc k L (Di hvl h3) c0 ((aF HZ).trans hr) hx hk (by rw[bp]at T;exact T)
  ·exact absurd rfl hk
 ·have ho:(Part.idx x XQ code v).out=aH XQ code v:=if_neg h0;have iB:bF [Part.cmd XQ code v] []=([XQ],aH XQ code v):=by
   rw[jn];have:(Part.cmd XQ code v).out=aH XQ code v:=rfl;have hcc:(aH XQ code v).code≠0:=by unfold aH;rw[if_neg h0];exact h0
   rw[this,if_neg hcc];rfl
  rw[iB]at hdo K1;have hcc:(aH XQ code v).code≠0:=by unfold aH;rw[if_neg h0];exact h0
  rcases hdo with ⟨hk,-⟩|⟨k,hk,h1,h2,h3⟩
  ·exact absurd hk hcc
  ·exact .exc H1 fP k _ (by have:fP.length<=vs.length+1*1:=hvl;exact LU this) (by rw[ho];exact hk) (cu (fg h1)) (by rw[ho];exact h2) (aN T.x.len h3) (T.go K1 x1)
structure QS(c:HC)(hl:Nat)(H0:MH)(sp:Int)(Y2:List Str)(av vs:List (Str×MV))(xs:List MV)(H:MH):Prop where
 K:bt c hl H 0 sp Y2 av vs
 x:Ext c hl H0 H
 m:H[H0.length]?=some (.list xs)
 b:c.hh<H0.length/\hl<H0.length/\c.hv<H0.length
section
variable{c:HC}{hl:Nat}{H0 H H':MH}{sp i7:Int}{Y2:List Str}{av vs:List (Str×MV)}{xs:List MV}{n:Nat}
theorem QS.lt(T:QS c hl H0 sp Y2 av vs xs H):H0.length<H.length:=(cm.mp T.m).1
theorem QS.set(T:QS c hl H0 sp Y2 av vs xs H)(ys:List MV):QS c hl H0 sp Y2 av vs ys (H.set H0.length (.list ys)):=
 ⟨T.K.Ex T.m (dZ T.b.2.1),T.x.Ex (ao _) _,fQ T.lt,T.b⟩
theorem QS.go(T:QS c hl H0 sp Y2 av vs xs H)(K:bt c hl H' 0 i7 BL av cE)(x:Ext c hl H H'):QS c hl H0 i7 BL av cE xs H':=
 ⟨K,T.x.trans x,x.get T.m (dZ T.b.1) (dZ T.b.2.1) (dZ T.b.2.2),T.b⟩
theorem QS.Wg(K:bt c hl H 0 sp Y2 av vs)(xs:List MV):QS c hl H sp Y2 av vs xs (H++[.list xs]):=
 have lt:=fun {k:Nat}{o:MO}(h:H[k]?=some o)=>(cm.mp h).1
 ⟨K.pre (Pre.app _ _),Ext.app _,bc _ _,lt K.host,lt K.mI,lt K.vars⟩
end
noncomputable def eQ(d d':List (Str×MV)):Prop:=∀x p,cG x d=some p->cG x d'=some p
theorem eQ.refl(d:List (Str×MV)):eQ d d:=fun _ _ h=>h
theorem eQ.trans(h:eQ a b)(g:eQ b c):eQ a c:=fun x p q=>g x p (h x p q)
inductive Run(c:HC)(hl:Nat)(H:MH)(Y2:List Str)(d vs:List (Str×MV))(w:Nat)(o:Out)(r:Option (Res MV)):Prop
 |val (H':MH) (i7:Int) (cE:List (Str×MV)) (c0:o.code=0) (e:r=some (.val (.str o.val) H')) (K:bt c hl H' 0 i7 Y2 d cE) (x:Ext c hl H H') (h:cE.length<=vs.length+w):Run c hl H Y2 d vs w o r
 |exc (H':MH) (i7:Int) (cE:List (Str×MV)) (k:Nat) (c0:o.code≠0) (e:r=some (.exc k H')) (xa:ExcAt H' k o) (l:H.length<=k) (K:bt c hl H' 0 i7 Y2 d cE) (x:Ext c hl H H') (h:cE.length<=vs.length+w):Run c hl H Y2 d vs w o r
theorem Run.to(h:Run c hl H Y2 d vs w o r)(hr:∀z,r=some z->r0=some z)(hx:Ext c hl H0 H)(hv:vs.length+w<=SI.length+w0):Run c hl H0 Y2 d SI w0 o r0:=by
 cases h with
 |val H' i7 cE c0 e K x h=>exact .val H' i7 cE c0 (hr _ e) K (hx.trans x) (aN h hv)
 |exc H' i7 cE k c0 e xa l K x h=>exact .exc H' i7 cE k c0 (hr _ e) xa (aN hx.len l) K (hx.trans x) (aN h hv)
theorem Run.of(h:wX r H H' o)(hr:∀z,r=some z->r0=some z)(K:bt c hl H' 0 i7 Y2 d cE)(x:Ext c hl H H')(hv:cE.length<=vs.length+w):Run c hl H Y2 d vs w o r0:=by
 rcases h with ⟨c0,h1⟩|⟨k,c0,h1,h2,h3⟩
 ·exact .val H' i7 cE c0 (hr _ h1) K x hv
 ·exact .exc H' i7 cE k c0 (hr _ h1) h2 h3 K x hv
theorem Run.ex(h:Run c hl H Y2 d vs w o r):∃H' i7 cE,wX r H H' o/\bt c hl H' 0 i7 Y2 d cE/\Ext c hl H H'/\cE.length<=vs.length+w:=by
 cases h with
 |val H' i7 cE c0 e K x h=>exact⟨H',i7,cE,.val c0 e,K,x,h⟩
 |exc H' i7 cE k c0 e xa l K x h=>exact⟨H',i7,cE,.exc k c0 e xa l,K,x,h⟩
noncomputable def kG(a:Addr)(f w:Nat)(av:List (Str×MV))(t:MV)(lg:List Str)(o:Out):Prop:=∀(n:Nat) (c:HC) (hl:Nat) (H:MH) (sp:Int) (Y2:List Str) (fb vs:List (Str×MV)),
 eQ av fb->bt c hl H 0 sp Y2 fb vs->Y2.length+lg.length<=90000->vs.length+w<=900->Run c hl H (Y2++lg) fb vs w o (ah (n+f) a [az c,t] H)
def w2(N:Nat):CS:=ag (f5 dR dS N) (ag (aK (ae 3)) aq)
def w1(N:Nat):CS:=ag (f5 gc gf N) (ag (aO 3 (ak (af (.fn (.ref cV))) (aa (ae 0) (aa (ae 1) ai)))) (w2 many))
inductive EC(c:HC)(hl:Nat)(H0:MH)(Y2:List Str)(d vs:List (Str×MV))(w m s:Nat)(xs:List MV)(o:Out)(r:Option RS):Prop
 |val (H':MH) (i7:Int) (cE:List (Str×MV)) (p:MV) (e':Option MV) (h:cE.length<=vs.length+w) (c0:o.code=0) (Q:QS c hl H0 i7 Y2 d cE xs H') (hw:r=w2 (many-s) (ah m) [some (az c),some p,some (.obj H0.length),some (.str o.val),e'] H'):EC c hl H0 Y2 d vs w m s xs o r
 |exc (H':MH) (i7:Int) (cE:List (Str×MV)) (k:Nat) (L:Loc) (h:cE.length<=vs.length+w) (c0:o.code≠0) (K:bt c hl H' 0 i7 Y2 d cE) (x:Ext c hl H0 H') (hw:r=some (.exc k L H')) (hex:ExcAt H' k o) (hk:H0.length<=k):EC c hl H0 Y2 d vs w m s xs o r
noncomputable def p9(f w s:Nat)(av:List (Str×MV))(t:MV)(lg:List Str)(o:Out):Prop:=∀(n:Nat) (c:HC) (hl:Nat) (H0 H:MH) (sp:Int) (Y2:List Str) (fb vs:List (Str×MV)) (xs:List MV) (N:Nat) (v e:Option MV),
 eQ av fb->QS c hl H0 sp Y2 fb vs xs H->Y2.length+lg.length<=90000->vs.length+w<=900->xs.length+s<=1000->s<N->
  EC c hl H0 (Y2++lg) fb vs w (n+f) s xs o (w1 N (ah (n+f)) [some (az c),some t,some (.obj H0.length),v,e] H)
theorem kG.mono(h:kG a f w av t lg o)(h1:f<=f')(h2:w<=w')(h3:eQ av fb):kG a f' w' fb t lg o:=by
 intro n c hl H sp Y2 d vs hd K cX hv;have r:=h (n+(f'-f)) c hl H sp Y2 d vs (h3.trans hd) K cX (by exact Dk h2 hv);rw[Dl h1]at r;exact r.to (fun _ q=>q) Ext.refl (mm h2 _)
theorem p9.mono(h:p9 f w s av t lg o)(h1:f<=f')(h2:w<=w')(h3:eQ av fb):p9 f' w' s fb t lg o:=by
 intro n c hl H0 H sp Y2 d vs xs N v e hd K cX hv hx hN;have r:=h (n+(f'-f)) c hl H0 H sp Y2 d vs xs N v e (h3.trans hd) K cX (by exact Dk h2 hv) hx hN;rw[Dl h1]at r;cases r with
 |val H' i7 cE p e' hh c0 Q hw=>exact .val H' i7 cE p e' (Dm h2 hh) c0 Q hw
 |exc H' i7 cE k L hh c0 K x hw hex hk=>exact .exc H' i7 cE k L (Dm h2 hh) c0 K x hw hex hk
theorem p9.tD(h:p9 f w s av t lg o)(hs:s<=1000):kG b0 (f+1) w av t lg o:=by
 intro n c hl H sp Y2 d vs hd K cX hv;have hgo:∀z,aR (w1 many (ah (n+f)) [some (az c),some t,some (.obj H.length),none,none] (H++[.list []])) z->ah (n+(f+1)) b0 [az c,t] H=some z:=fun z hz=>by
  rw[show n+(f+1)=n+f+1 from rfl,aD (by decide) rfl ⟨ao _,ao _⟩];exact(show dj 5 rX (ah (n+f)) [az c,t] H=dj 5 (ag (aO 2 (dy ai)) (w1 many)) (ah (n+f)) [az c,t] H from rfl).trans (aP (aj (L1:=[some (az c),some t,some (.obj H.length),none,none]) (H1:=H++[.list []]) (aJ rfl) hz))
 have hr:=h n c hl H (H++[.list []]) sp Y2 d vs [] many none none hd (QS.Wg K []) cX hv (by show 0+s<=1000;exact LZ hs) (by unfold many;exact ku hs rfl);cases hr with
 |val H' i7 cE p e' hvl c0 Q hw=>
  refine .val H' i7 cE c0 (hgo _ ?_) Q.K Q.x hvl;rw[hw];unfold w2;obtain⟨M,hM⟩:∃M,many-s=M+1:=⟨many-s-1,by unfold many;exact yr hs rfl⟩
  have ht:dR (ah (n+f)) [some (az c),some p,some (.obj H.length),some (.str o.val),e'] H'=some (.val false H'):=by
   simp only[dR,tE,ae,bindR,eM,iH,dF,Q.m,List.isEmpty_nil,Bool.not_true]
  refine aj (L1:=[some (az c),some p,some (.obj H.length),some (.str o.val),e']) (H1:=H') (by rw[hM,fy ht];rfl) ?_;exact aL (L1:=[some (az c),some p,some (.obj H.length),some (.str o.val),e']) rfl
 |exc H' i7 cE k L hvl c0 K' x' hw hex hk=>exact .exc H' i7 cE k c0 (hgo _ ⟨L,hw⟩) hex hk K' x' hvl
def tF(kd:Str):Bool:=kd==S "bin"||(kd==S "and"||(kd==S "or"||false))
theorem ED:gc o (h::some (.tup (.str kd::r))::L) H=some (.val (tF kd) H):=by
 have hs:∀H,au (.tup (.str kd::r)) (.int 0) H=some (.val (.str kd) H):=fun H=>by
  unfold au place?;dsimp only;rw[if_pos ⟨Int.le_refl 0,by simp⟩];rfl
 unfold gc;simp only[tE,c2,ae,af,bindR,eM,iH,hs,aG,aa,ai,bo,cS,Nat.reduceAdd,d9,Nat.reduceLeDiff,c9];rfl
theorem j6(hk:tF kd=false)(h:kG cV f w av (.tup (.str kd::r)) lg o):p9 f w 0 av (.tup (.str kd::r)) lg o:=by
 intro n c hl H0 H sp Y2 d vs xs N v e hd Q cX hv hx hN;have hdo:=h n c hl H sp Y2 d vs hd Q.K cX hv;obtain⟨N,rfl⟩:∃M,N=M+1:=⟨N-1,by exact nE hN⟩
 have hw:∀z,((ag (aO 3 (ak (af (.fn (.ref cV))) (aa (ae 0) (aa (ae 1) ai)))) (w2 many)) (ah (n+f)) [some (az c),some (.tup (.str kd::r)),some (.obj H0.length),v,e] H)=z->w1 (N+1) (ah (n+f)) [some (az c),some (.tup (.str kd::r)),some (.obj H0.length),v,e] H=z:=fun z hz=>by
  unfold w1;rw[aF (L1:=[some (az c),some (.tup (.str kd::r)),some (.obj H0.length),v,e]) (H1:=H)]
  ·exact hz
  ·rw[fy ED,hk];rfl
 cases hdo with
 |val H' i7 cE c0 h1 K' x' hvl=>exact .val H' i7 cE _ _ hvl c0 (Q.go K' x') (hw _ (aF (aJ ((call2 rfl rfl).trans h1))))
 |exc H' i7 cE k c0 h1 h2 h3 K' x' hvl=>exact .exc H' i7 cE k _ hvl c0 K' (Q.x.trans x') (hw _ (cu (fg ((call2 rfl rfl).trans h1)))) h2 (aN Q.x.len h3)
noncomputable def qZ(oa:Out)(la lb:List Str):List Str:=if oa.code=0 then la++lb else la
noncomputable def dU(oa o:Out):Out:=if oa.code=0 then o else oa
section
variable{o:g8}{L L1:Loc}{H H1:MH}{M k:Nat}
theorem AA(ht:dR o L H=some (.val true H))(hb:dS o L H=some (.next L1 H1)):w2 (M+1) o L H=w2 M o L1 H1:=by
 unfold w2;have:f5 dR dS (M+1) o L H=f5 dR dS M o L1 H1:=by rw[fy ht,hb];rfl
 unfold ag;rw[this]
theorem za(ht:dR o L H=some (.val true H))(hb:dS o L H=some (.exc k L1 H1)):w2 (M+1) o L H=some (.exc k L1 H1):=by
 unfold w2;rw[cu];rw[fy ht,hb];rfl
theorem AB(ht:gc o L H=some (.val true H))(hb:gf o L H=some (.next L1 H1)):w1 (M+1) o L H=w1 M o L1 H1:=by
 unfold w1;have:f5 gc gf (M+1) o L H=f5 gc gf M o L1 H1:=by rw[fy ht,hb];rfl
 unfold ag;rw[this]
end
section
variable{c:HC}{hl:Nat}{H0 H H':MH}{sp i7:Int}{Y2:List Str}{av vs:List (Str×MV)}{xs:List MV}{n:Nat}{o:g8}{v e p:Option MV}{val t:MV}
theorem EE(Q:QS c hl H0 sp Y2 av vs xs H)(hx:xs.length<1000)(t:MV):(bT (cM .list cg (ae 2) (aa (ae 1) ai))) o [some (az c),some t,some (.obj H0.length),v,e] H=some (.next [some (az c),some t,some (.obj H0.length),v,e] (H.set H0.length (.list (xs++[t])))):=by
 simp only[bT,aW,cM,ae,bindR,eM,iH,eU Q.m,c9,aa,ai,cg,append_at Q.m (show xs.length<1000000 by exact oG hx rfl)]
theorem Kp(Q:QS c hl H0 sp Y2 av vs (xs++[t]) H):(aO 4 (cM .list Bt (ae 2) ai)) o [some (az c),p,some (.obj H0.length),some val,e] H=some (.next [some (az c),p,some (.obj H0.length),some val,some t] (H.set H0.length (.list xs))):=by
 simp only[aO,aW,cM,ae,bindR,eM,iH,eU Q.m,c9,ai,Bt,Q.m,List.getLast?_append,List.getLast?_singleton,Option.some_or,List.dropLast_concat,List.set_cons_zero,List.set_cons_succ]
theorem sq(Q:QS c hl H0 sp Y2 av vs (xs++[t]) H):dR o [some (az c),p,some (.obj H0.length),some val,e] H=some (.val true H):=by
 have:(xs++[t]).isEmpty=false:=by cases xs<;>rfl
 simp only[dR,tE,ae,bindR,eM,iH,dF,Q.m,this,Bool.not_false]
theorem zb(Q:QS c hl H0 sp Y2 av vs xs H)(hx:xs.length<1000):
  w1 (N+1) o [some (az c),some (.tup [.str (S "bin"),op,ta,tb]),some (.obj H0.length),v,e] H=w1 N o [some (az c),some ta,some (.obj H0.length),v,e] (H.set H0.length (.list (xs++[.tup [.str (S "bin"),op,ta,tb]]))):=by
 refine AB (ED.trans (by rw[show tF (S "bin")=true by ac_rfl])) ?_;unfold gf;rw[aF (EE Q hx _),jG];exact aJ rfl
theorem zc(Q:QS c hl H0 sp Y2 av vs xs H)(hx:xs.length<1000){or:Bool}{ta tb:MV}{N:Nat}:
  w1 (N+1) o [some (az c),some (.tup [.str (if or then S "or" else S "and"),ta,tb]),some (.obj H0.length),v,e] H=w1 N o [some (az c),some ta,some (.obj H0.length),v,e] (H.set H0.length (.list (xs++[.tup [.str (if or then S "or" else S "and"),ta,tb]]))):=by
 refine AB (ED.trans (by rw[show tF (if or then S "or" else S "and")=true by cases or<;>ac_rfl])) ?_;unfold gf;rw[aF (EE Q hx _),jG];cases or<;>exact aJ rfl
end
section
variable{a b c d:CE}{o:g8}{L:Loc}{H H1 H2 H3 H4:MH}{x y z u:MV}{f:Addr}{k:Nat}
theorem zd(ha:a o L H=some (.exc k H1)):ak (af (.fn (.ref f))) (aa a ai) o L H=some (.exc k H1):=by
 unfold ak aa ai af;simp only[bindR,ha]
theorem P6(ha:a o L H=some (.val x H1))(hb:b o L H1=some (.exc k H2)):ak (af (.fn (.ref f))) (aa a (aa b ai)) o L H=some (.exc k H2):=by
 unfold ak aa ai af;simp only[bindR,ha,hb]
theorem P7(ha:a o L H=some (.val x H1))(hb:b o L H1=some (.val y H2))(hc:c o L H2=some (.exc k H3)):ak (af (.fn (.ref f))) (aa a (aa b (aa c ai))) o L H=some (.exc k H3):=by
 unfold ak aa ai af;simp only[bindR,ha,hb,hc]
end
theorem EF{f w w' s k:Nat}{av:List (Str×MV)}{ta tb:MV}{la lb:List Str}{oa ob:Out}{xa xb:Tx}(hk:k<6)(hf:6<=f)(hs:s<=900)(ha:p9 f w s av ta la oa)(hb:kG b0 f w' av tb lb ob)
  (h1:oa.code=0->oa.val=tx xa.l/\fV xa.l xa.a xa.b) (h2:ob.code=0->ob.val=tx xb.l/\fV xb.l xb.a xb.b) (h3:oa.code=0->ob.code=0->xa.l.length+xb.l.length<=390):
  p9 f (w+w') (s+1) av (.tup [.str (S "bin"),.str (gY k),ta,tb]) (qZ oa la lb) (dU oa (dU ob (el k xa.l xb.l xa.a xb.a))):=by
 intro n c hl H0 H sp Y2 d vs xs N v e hd Q cX hv hx hN;obtain⟨N,rfl⟩:∃M,N=M+1:=⟨N-1,by exact pX hN⟩
 have hla:la.length<=(qZ oa la lb).length:=by unfold qZ;split<;>simp
 rw[zb Q (by exact uR hx)];have r:=ha n c hl H0 _ sp Y2 d vs (xs++[.tup [.str (S "bin"),.str (gY k),ta,tb]]) N v e hd (Q.set _) (by exact rO cX hla) (by exact yt hv) (by simp;exact qC hx) (by exact jI hN);cases r with
 |val H1 mf fP p e' hv1 c0 Q1 hw=>
  obtain⟨M,hM,hM'⟩:∃M,many-s=M+1/\many-(s+1)=M:=⟨many-s-1,by unfold many;exact yr hs rfl,by exact Dn⟩
  have Q2:=Q1.set xs;rw[show qZ oa la lb=la++lb from if_pos c0,bJ]at cX;rw[hw,hM,show qZ oa la lb=la++lb from if_pos c0,show dU oa (dU ob (el k xa.l xb.l xa.a xb.a))=dU ob (el k xa.l xb.l xa.a xb.a) from if_pos c0];have hdo:=hb n c hl _ mf (Y2++la) d fP hd Q2.K (by rw[bJ];exact rP cX) (by exact yu hv hv1);rw[bZ]at hdo;have hgo:∀z,(aO 3 (ak (af (.fn (.ref mE))) (aa (c2 au (ae 4) (af (.int 1))) (aa (ae 3) (aa (ak (af (.fn (.ref b0))) (aa (ae 0) (aa (c2 au (ae 4) (af (.int 3))) ai))) ai))))) (ah (n+f)) [some (az c),some p,some (.obj H0.length),some (.str oa.val),some (.tup [.str (S "bin"),.str (gY k),ta,tb])] (H1.set H0.length (.list xs))=z->dS (ah (n+f)) [some (az c),some p,some (.obj H0.length),some (.str oa.val),e'] H1=z:=fun z hz=>by
   unfold dS;rw[aF (Kp Q1),jG,aB (H1:=H1.set H0.length (.list xs)) (by rfl),jG];exact hz
  cases hdo with
  |val H2 tr gz c1 h4 K2 x2 hv2=>
   have Q3:=Q2.go K2 x2;rw[show dU ob (el k xa.l xb.l xa.a xb.a)=el k xa.l xb.l xa.a xb.a from if_pos c1];obtain⟨va,ka⟩:=h1 c0;obtain⟨vb,kb⟩:=h2 c1;have SK:=BJ (n:=n+f-6) (H:=H2) hk ka kb (h3 c0 c1);rw[M0 hf,<-va,<-vb]at SK;have hc3:=fun z (hz:ah (n+f) mE [.str (gY k),.str oa.val,.str ob.val] H2=some z)=>(s7 (f:=mE) (a:=c2 au (ae 4) (af (.int 1))) (b:=ae 3) (c:=ak (af (.fn (.ref b0))) (aa (ae 0) (aa (c2 au (ae 4) (af (.int 3))) ai))) (L:=[some (az c),some p,some (.obj H0.length),some (.str oa.val),some (.tup [.str (S "bin"),.str (gY k),ta,tb])]) (H:=H1.set H0.length (.list xs)) (x:=.str (gY k)) (y:=.str oa.val) (z:=.str ob.val) (H1:=H1.set H0.length (.list xs)) (H2:=H1.set H0.length (.list xs)) rfl rfl ((call2 rfl rfl).trans h4)).trans hz
   rcases SK with ⟨J,c2,h7⟩|⟨J,k2,c2,h7,h8,h9⟩
   ·refine .val (H2++J) tr gz p _ (nW hv1 hv2) c2 (Q3.go (K2.pre (Pre.app _ _)) (Ext.app _)) (by rw[hM'];exact AA (sq Q1) (hgo _ (aJ (hc3 _ h7))))
   ·exact .exc (H2++J) tr gz k2 _ (nW hv1 hv2) c2 (K2.pre (Pre.app _ _)) (Q3.x.trans (Ext.app _)) (za (sq Q1) (hgo _ (fg (hc3 _ h7)))) h8 (aN Q3.x.len h9)
  |exc H2 tr gz k1 c1 h4 h5 h6 K2 x2 hv2=>
   rw[show dU ob (el k xa.l xb.l xa.a xb.a)=ob from if_neg c1];exact .exc H2 tr gz k1 _ (nW hv1 hv2) c1 K2 (Q2.go K2 x2).x (za (sq Q1) (hgo _ (fg (P7 (H1:=H1.set H0.length (.list xs)) (H2:=H1.set H0.length (.list xs)) rfl rfl ((call2 rfl rfl).trans h4))))) h5 (aN Q2.x.len h6)
 |exc H1 mf fP k1 L1 hv1 c0 K1 x1 hw hex hk1=>
  rw[show qZ oa la lb=la from if_neg c0,show dU oa (dU ob (el k xa.l xb.l xa.a xb.a))=oa from if_neg c0];exact .exc H1 mf fP k1 L1 (yw hv1) c0 K1 x1 hw hex hk1
noncomputable def qi(or:Bool)(oa:Out)(xa:Tx)(la lb:List Str):List Str:=if oa.code=0 then(match xa.b with
 |none=>la
 |some c=>if c=or then la else la++lb) else la
def sr(or:Bool)(oa ob:Out)(xa xb:Tx):Out:=dU oa (match xa.b with
 |none=>lY (tx xa.l)
 |some c=>if c=or then good (tx (wN c)) else dU ob (match xb.b with
  |none=>lY (tx xb.l)
  |some d=>good (tx (wN d))))
theorem EG(b:Bool)(hL:L[4]?=some (some (.bool b))):(aK (eL (tE (ae 4)) (af (.str (S "1"))) (af (.str (S "0"))))) o L H=some (.ret (.str (tx (wN b))) L H):=by
 rw[<-oY];cases b<;>simp[aK,aW,eL,tE,ae,af,bindR,hL,dF]
theorem EH{f w':Nat}{av:List (Str×MV)}{ta tb:MV}{la lb:List Str}{oa ob:Out}{xa xb:Tx}{or:Bool}(hf:5<=f)(hb:kG b0 f w' av tb lb ob)
  (c0:oa.code=0) (h1:oa.val=tx xa.l/\fV xa.l xa.a xa.b) (l1:xa.l.length<=1000) (h2:ob.code=0->ob.val=tx xb.l/\fV xb.l xb.a xb.b/\xb.l.length<=1000)
  {n:Nat}{c:HC}{hl:Nat}{H:MH}{sp:Int}{Y2:List Str}{d vs:List (Str×MV)}(hd:eQ av d) (K:bt c hl H 0 sp (Y2++la) d vs) (cX:Y2.length+(qi or oa xa la lb).length<=90000) (hv:vs.length+w'<=900):
  Run c hl H (Y2++qi or oa xa la lb) d vs w' (sr or oa ob xa xb) (ah (n+(f+1)) kh [az c,.tup [.str (if or then S "or" else S "and"),ta,tb],.str oa.val] H):=by
 obtain⟨va,ka⟩:=h1;have hor:(bQ (.str (if or then S "or" else S "and")) (.str (S "or")):MH->_)=fun H=>some (.val (.bool or) H):=by
  funext H;have:(S "or"==S "or")=true/\(S "and"==S "or")=false:=by ac_rfl
  cases or
  ·rw[lD];rw[if_neg (by decide),this.2]
  ·rw[lD];rw[if_pos rfl,this.1]
 have hnb:=fun H=>ka.qf l1 (n:=n+f-5) (H:=H)
 rw[show n+f-5+5=n+f by exact mw hf]at hnb;have s1:∀{L4:Option MV},(aO 3 (c2 bQ (c2 au (ae 1) (af (.int 0))) (af (.str (S "or"))))) (ah (n+f)) [some (az c),some (.tup [.str (if or then S "or" else S "and"),ta,tb]),some (.str oa.val),none,L4] H=some (.next [some (az c),some (.tup [.str (if or then S "or" else S "and"),ta,tb]),some (.str oa.val),some (.bool or),L4] H):=by
  intro L4;refine aJ ?_;show bQ (.str (if or then S "or" else S "and")) (.str (S "or")) H=_;rw[hor]
 have hc1:(ak (af (.fn (.ref cD))) (aa (ae 2) ai)) (ah (n+f)) [some (az c),some (.tup [.str (if or then S "or" else S "and"),ta,tb]),some (.str oa.val),some (.bool or),none] H=ah (n+f) cD [.str (tx xa.l)] H:=by
  rw[bh (x:=.str oa.val) (H1:=H) rfl,va]
 rw[show n+(f+1)=n+f+1 from rfl,aD (by decide) rfl ⟨ao _,ao _⟩];have hoL:qi or oa xa la lb=match xa.b with
  |none=>la
  |some c=>if c=or then la else la++lb:=if_pos c0
 have hoO:sr or oa ob xa xb=match xa.b with
  |none=>lY (tx xa.l)
  |some c=>if c=or then good (tx (wN c)) else dU ob (match xb.b with
   |none=>lY (tx xb.l)
   |some d=>good (tx (wN d))):=if_pos c0
 rw[hoL]at cX;rw[hoL,hoO];obtain⟨lx,ax,bx⟩:=xa;dsimp only at *;cases bx with
 |none=>
  dsimp only at *;refine .exc _ sp vs (H.length+1) (by show(1:Int)≠0;decide) (aP ?_) (lB H _ rfl) (jc _) (K.pre (Pre.app _ _)) (Ext.app _) D8;show aR (c7 (ah (n+f)) [some (az c),some (.tup [.str (if or then S "or" else S "and"),ta,tb]),some (.str oa.val),none,none] H) _;unfold c7;refine aj s1 (dA (fg (hc1.trans (hnb H))))
 |some b1=>
  dsimp only at *;have s2:(aO 4 (ak (af (.fn (.ref cD))) (aa (ae 2) ai))) (ah (n+f)) [some (az c),some (.tup [.str (if or then S "or" else S "and"),ta,tb]),some (.str oa.val),some (.bool or),none] H=some (.next [some (az c),some (.tup [.str (if or then S "or" else S "and"),ta,tb]),some (.str oa.val),some (.bool or),some (.bool b1)] H):=aJ (hc1.trans (hnb H));have ht:(tE (c2 we (ae 4) (ae 3))) (ah (n+f)) [some (az c),some (.tup [.str (if or then S "or" else S "and"),ta,tb]),some (.str oa.val),some (.bool or),some (.bool b1)] H=some (.val (b1 !=or) H):=rfl;by_cases hbo:b1=or
  ·rw[if_pos hbo,if_pos hbo];have:(b1 !=or)=false:=by rw[hbo];simp
   rw[this]at ht;refine .val H sp vs rfl (aP ?_) K Ext.refl D8;show aR (c7 (ah (n+f)) [some (az c),some (.tup [.str (if or then S "or" else S "and"),ta,tb]),some (.str oa.val),none,none] H) _;unfold c7;refine aj s1 (aj s2 (aj ((aw ht).trans rfl) (aL (EG b1 rfl))))
  ·rw[if_neg hbo,if_neg hbo];rw[if_neg hbo,bJ]at cX;have:(b1 !=or)=true:=by simpa using hbo
   rw[this]at ht;have hdo:=hb n c hl H sp (Y2++la) d vs hd K (by rw[bJ];exact rP cX) hv;rw[bZ]at hdo;have iK:(ak (af (.fn (.ref b0))) (aa (ae 0) (aa (c2 au (ae 1) (af (.int 2))) ai))) (ah (n+f)) [some (az c),some (.tup [.str (if or then S "or" else S "and"),ta,tb]),some (.str oa.val),some (.bool or),some (.bool b1)] H=ah (n+f) b0 [az c,tb] H:=call2 rfl rfl;rw[<-iK]at hdo;cases hdo with
   |val H2 tr gz c1 h4 K2 x2 hv2=>
    obtain⟨vb,kb,l2⟩:=h2 c1;have ho2:∀z,dU ob z=z:=fun z=>if_pos c1
    rw[ho2];have P8:=kb.qf l2 (n:=n+f-5) (H:=H2);rw[show n+f-5+5=n+f by exact mw hf]at P8;have hc3:=(bh (f:=cD) h4).trans (by rw[vb]);obtain⟨ly,ay,WR⟩:=xb;dsimp only at *;cases WR with
    |none=>
     dsimp only at *;refine .exc _ tr gz (H2.length+1) (by show(1:Int)≠0;decide) (aP ?_) (lB H2 _ rfl) (aN x2.len (jc _)) (K2.pre (Pre.app _ _)) (x2.trans (Ext.app _)) hv2;show aR (c7 (ah (n+f)) [some (az c),some (.tup [.str (if or then S "or" else S "and"),ta,tb]),some (.str oa.val),none,none] H) _;unfold c7;refine aj s1 (aj s2 (dA ((aB ht).trans (cu (fg (hc3.trans P8))))))
    |some b2=>
     dsimp only at *;refine .val H2 tr gz rfl (aP ?_) K2 x2 hv2;show aR (c7 (ah (n+f)) [some (az c),some (.tup [.str (if or then S "or" else S "and"),ta,tb]),some (.str oa.val),none,none] H) _;unfold c7;refine aj s1 (aj s2 (aj (L1:=[some (az c),some (.tup [.str (if or then S "or" else S "and"),ta,tb]),some (.str oa.val),some (.bool or),some (.bool b2)]) (H1:=H2) ((aB ht).trans ((aF (aJ (hc3.trans P8))).trans rfl)) (aL (EG b2 rfl))))
   |exc H2 tr gz k1 c1 h4 h5 h6 K2 x2 hv2=>
    have ho2:∀z,dU ob z=ob:=fun z=>if_neg c1
    rw[ho2];refine .exc H2 tr gz k1 c1 (aP ?_) h5 h6 K2 x2 hv2;show aR (c7 (ah (n+f)) [some (az c),some (.tup [.str (if or then S "or" else S "and"),ta,tb]),some (.str oa.val),none,none] H) _;unfold c7;refine aj s1 (aj s2 (dA ((aB ht).trans (cu (fg (zd h4))))))
theorem EI{f w w' s:Nat}{av:List (Str×MV)}{ta tb:MV}{la lb:List Str}{oa ob:Out}{xa xb:Tx}{or:Bool}(hf:5<=f)(hs:s<=900)(ha:p9 (f+1) w s av ta la oa)(hb:kG b0 f w' av tb lb ob)
  (h1:oa.code=0->oa.val=tx xa.l/\fV xa.l xa.a xa.b/\xa.l.length<=1000) (h2:ob.code=0->ob.val=tx xb.l/\fV xb.l xb.a xb.b/\xb.l.length<=1000):
  p9 (f+1) (w+w') (s+1) av (.tup [.str (if or then S "or" else S "and"),ta,tb]) (qi or oa xa la lb) (sr or oa ob xa xb):=by
 intro n c hl H0 H sp Y2 d vs xs N v e hd Q cX hv hx hN;obtain⟨N,rfl⟩:∃M,N=M+1:=⟨N-1,by exact pX hN⟩
 rw[zc Q (by exact uR hx)];have hla:la.length<=(qi or oa xa la lb).length:=by
  unfold qi
  split
  ·split
   ·exact ao _
   ·split
    ·exact ao _
    ·simp
  ·exact ao _
 have r:=ha n c hl H0 _ sp Y2 d vs (xs++[.tup [.str (if or then S "or" else S "and"),ta,tb]]) N v e hd (Q.set _) (by exact rO cX hla) (by exact yt hv) (by simp;exact qC hx) (by exact jI hN);cases r with
 |val H1 mf fP p e' hv1 c0 Q1 hw=>
  obtain⟨M,hM,hM'⟩:∃M,many-s=M+1/\many-(s+1)=M:=⟨many-s-1,by unfold many;exact yr hs rfl,by exact Dn⟩
  have Q2:=Q1.set xs;rw[hw,hM];obtain⟨v1,t1,l1⟩:=h1 c0;have hdo:=EH (ta:=ta) (or:=or) (la:=la) hf hb c0 ⟨v1,t1⟩ l1 h2 (n:=n) hd Q2.K cX (by exact yu hv hv1);have hgo:∀z,(aO 3 (ak (af (.fn (.ref kh))) (aa (ae 0) (aa (ae 4) (aa (ae 3) ai))))) (ah (n+(f+1))) [some (az c),some p,some (.obj H0.length),some (.str oa.val),some (.tup [.str (if or then S "or" else S "and"),ta,tb])] (H1.set H0.length (.list xs))=z->dS (ah (n+(f+1))) [some (az c),some p,some (.obj H0.length),some (.str oa.val),e'] H1=z:=fun z hz=>by
   unfold dS;rw[aF (Kp Q1),jG,aw (H1:=H1.set H0.length (.list xs)) (by cases or<;>rfl),jG];exact hz
  cases hdo with
  |val H2 tr gz c1 h4 K2 x2 hv2=>exact .val H2 tr gz p _ (nW hv1 hv2) c1 (Q2.go K2 x2) (by rw[hM'];exact AA (sq Q1) (hgo _ (aJ ((s7 rfl rfl rfl).trans h4))))
  |exc H2 tr gz k2 c1 h4 h5 h6 K2 x2 hv2=>exact .exc H2 tr gz k2 _ (nW hv1 hv2) c1 K2 (Q2.go K2 x2).x (za (sq Q1) (hgo _ (fg ((s7 rfl rfl rfl).trans h4)))) h5 (aN Q2.x.len h6)
 |exc H1 mf fP k1 L1 hv1 c0 K1 x1 hw hex hk1=>
  rw[show qi or oa xa la lb=la from if_neg c0,show sr or oa ob xa xb=oa from if_neg c0];exact .exc H1 mf fP k1 L1 (yw hv1) c0 K1 x1 hw hex hk1
section
variable{o:g8}{h t:MV}{kd x:Str}{H:MH}
theorem AD:(tE (c2 bQ (ae 2) (af (.str x)))) o [some h,some t,some (.str kd)] H=some (.val (kd==x) H):=rfl
theorem kH:(aO 2 (c2 au (ae 1) (af (.int 0)))) o [some h,some (.tup (.str kd::r)),none] H=some (.next [some h,some (.tup (.str kd::r)),some (.str kd)] H):=by
 refine aJ ?_;show au (.tup (.str kd::r)) (.int 0) H=_;unfold au place?;dsimp only;rw[if_pos ⟨Int.le_refl 0,by simp⟩];rfl
theorem jo(hk:(kd==x)=false):bN (tE (c2 bQ (ae 2) (af (.str x)))) A aq o [some h,some t,some (.str kd)] H=some (.next [some h,some t,some (.str kd)] H):=(aw (AD.trans (by rw[hk]))).trans rfl
theorem mM(hk:(kd==x)=true):bN (tE (c2 bQ (ae 2) (af (.str x)))) A aq o [some h,some t,some (.str kd)] H=A o [some h,some t,some (.str kd)] H:=aB (AD.trans (by rw[hk]))
end
theorem Vk:(S "num"==S "num")=true/\(S "text"==S "num")=false/\(S "text"==S "text")=true/\(S "parts"==S "num")=false/\(S "parts"==S "text")=false/\(S "parts"==S "parts")=true:=by ac_rfl
theorem WS:(S "un"==S "num")=false/\(S "un"==S "text")=false/\(S "un"==S "parts")=false/\(S "un"==S "un")=true:=by ac_rfl
theorem WT:(S "if"==S "num")=false/\(S "if"==S "text")=false/\(S "if"==S "parts")=false/\(S "if"==S "un")=false/\(S "if"==S "if")=true:=by ac_rfl
theorem WU:(S "call"==S "num")=false/\(S "call"==S "text")=false/\(S "call"==S "parts")=false/\(S "call"==S "un")=false/\(S "call"==S "if")=false:=by ac_rfl
theorem nq:tF (S "num")=false/\tF (S "text")=false/\tF (S "parts")=false/\tF (S "un")=false/\tF (S "if")=false/\tF (S "call")=false:=by ac_rfl
theorem P9(hz:z.natAbs<10^400):kG cV 1 0 av (.tup [.str (S "num"),.int z]) [] (good (tx (jF z))):=by
 intro n c hl H sp Y2 d vs hd K cX hv;refine .val H sp vs rfl ?_ (by rw[bp];exact K) Ext.refl (ao _);rw[aD (by decide) rfl ⟨ao _,ao _⟩];refine aP ?_;show aR (bK (ah n) [some (az c),some (.tup [.str (S "num"),.int z]),none] H) _;unfold bK;refine aj kH ?_;simp only[jG];refine aL (L1:=[some (az c),some (.tup [.str (S "num"),.int z]),some (.str (S "num"))]) ((mM Vk.1).trans (aI ?_));show iN (.int z) H=_;rw[str_int hz];rfl
theorem I2:kG cV 1 0 av (.tup [.str (S "text"),.str s]) [] (good s):=by
 intro n c hl H sp Y2 d vs hd K cX hv;obtain⟨-,k2,k3,-⟩:=Vk;refine .val H sp vs rfl ?_ (by rw[bp];exact K) Ext.refl (ao _);rw[aD (by decide) rfl ⟨ao _,ao _⟩];refine aP ?_;show aR (bK (ah n) [some (az c),some (.tup [.str (S "text"),.str s]),none] H) _;unfold bK;refine aj kH ?_;simp only[jG];refine aj (jo k2) (aL (L1:=[some (az c),some (.tup [.str (S "text"),.str s]),some (.str (S "text"))]) ((mM k3).trans (aI rfl)))
theorem nu(h:e o L H=some z):aR (aK e o L H) z:=by
 cases z with
 |val p H1=>exact .inl ⟨L,aI h⟩
 |exc k H1=>exact⟨L,rA h⟩
theorem vf(h:aR (a o L H) z)(hn:∀L1 H1,a o L H≠some (.next L1 H1)):aR (ag a b o L H) z:=by
 rcases Az a b o L H with ⟨L1,H1,q,-⟩|⟨-,q⟩
 ·exact absurd q (hn _ _)
 ·rw[q];exact h
theorem jR:aK e o L H≠some (.next L1 H1):=by
 unfold aK;cases e o L H with
 |none=>exact nofun
 |some r=>cases r<;>exact nofun
theorem EJ(hps:∀d,eQ av d->∀n,∀p∈ps,TurnOk w (n+m) d p/\(p.out.code=0->p.out.val.length<=1000))(h1:ps.length<=90)(hl0:ps.length<=1+(bF ps []).1.length+100):kG cV (m+2) (ps.length*w) av (.tup [.str (S "parts"),.tup (ps.map Part.enc)]) (bF ps []).1 (bF ps []).2:=by
 intro n c hl H sp Y2 d vs hd K cX hv;obtain⟨-,-,-,k4,k5,k6⟩:=Vk;obtain⟨H',cE,hdo,K',x',hv'⟩:=ug (hps d hd n) K h1 (by exact M1 h1 cX) hv;refine Run.of hdo (fun z hz=>?_) K' x' hv';rw[show n+(m+2)=n+m+1+1 from rfl,aD (by decide) rfl ⟨ao _,ao _⟩];refine aP ?_;show aR (bK (ah (n+m+1)) [some (az c),some (.tup [.str (S "parts"),.tup (ps.map Part.enc)]),none] H) _;unfold bK;refine aj kH ?_;simp only[jG];refine aj (jo k4) (aj (jo k5) (vf ?_ ?_))
 ·rw[mM k6];exact nu ((call2 rfl rfl).trans hz)
 ·intro L1 H1;rw[mM k6];exact jR
theorem SM{f w:Nat}{av:List (Str×MV)}{ta:MV}{la:List Str}{oa:Out}{xa:Tx}{neg:Bool}(hf:6<=f)(ha:kG b0 f w av ta la oa)(h1:oa.code=0->oa.val=tx xa.l/\fV xa.l xa.a xa.b/\xa.l.length<=390):
  kG cV (f+1) w av (.tup [.str (S "un"),.str (if neg then S "-" else S "!"),ta]) la (dU oa (if neg then lF xa.l xa.a else lE xa.l xa.b)):=by
 intro n c hl H sp Y2 d vs hd K cX hv;obtain⟨k1,k2,k3,k4⟩:=WS;have hdo:=ha n c hl H sp Y2 d vs hd K cX hv;rw[show n+(f+1)=n+f+1 from rfl,aD (by decide) rfl ⟨ao _,ao _⟩];have hgo:∀z,(ak (af (.fn (.ref kZ))) (aa (c2 au (ae 1) (af (.int 1))) (aa (ak (af (.fn (.ref b0))) (aa (ae 0) (aa (c2 au (ae 1) (af (.int 2))) ai))) ai))) (ah (n+f)) [some (az c),some (.tup [.str (S "un"),.str (if neg then S "-" else S "!"),ta]),some (.str (S "un"))] H=some z->dj 3 bK (ah (n+f)) [az c,.tup [.str (S "un"),.str (if neg then S "-" else S "!"),ta]] H=some z:=fun z hz=>by
  refine aP ?_;show aR (bK (ah (n+f)) [some (az c),some (.tup [.str (S "un"),.str (if neg then S "-" else S "!"),ta]),none] H) _;unfold bK;refine aj kH ?_;simp only[jG];refine aj (jo k1) (aj (jo k2) (aj (jo k3) (vf ?_ ?_)))
  ·rw[mM k4];exact nu hz
  ·intro L1 H1;rw[mM k4];exact jR
 cases hdo with
 |val H1 mf fP c0 h4 K1 x1 hv1=>
  obtain⟨va,ka,l1⟩:=h1 c0;rw[show ∀z,dU oa z=z from fun z=>if_pos c0];have hu:Gives (ah (n+f) kZ [.str (if neg then S "-" else S "!"),.str (tx xa.l)] H1) H1 (if neg then lF xa.l xa.a else lE xa.l xa.b):=by
   have e:n+f=n+f-6+6:=by exact M4 hf
   cases neg
   ·rw[e];exact ka.OS (aN l1 (by decide))
   ·rw[e];exact ka.OT l1
  rw[<-va]at hu;have hc:=fun z (hz:ah (n+f) kZ [.str (if neg then S "-" else S "!"),.str oa.val] H1=some z)=>hgo z ((call2 (f:=kZ) (x:=.str (if neg then S "-" else S "!")) (a:=c2 au (ae 1) (af (.int 1))) (H1:=H) rfl ((call2 rfl rfl).trans h4)).trans hz)
  rcases hu with ⟨J,c1,h7⟩|⟨J,k2,c1,h7,h8,h9⟩
  ·exact .val (H1++J) mf fP c1 (hc _ h7) (K1.pre (Pre.app _ _)) (x1.trans (Ext.app _)) hv1
  ·exact .exc (H1++J) mf fP k2 c1 (hc _ h7) h8 (aN x1.len h9) (K1.pre (Pre.app _ _)) (x1.trans (Ext.app _)) hv1
 |exc H1 mf fP k c0 h4 h5 h6 K1 x1 hv1=>
  rw[show ∀z,dU oa z=oa from fun z=>if_neg c0];exact .exc H1 mf fP k c0 (hgo _ (P6 (H1:=H) rfl ((call2 rfl rfl).trans h4))) h5 h6 K1 x1 hv1
section
variable{t:CT}{a b:CS}{e:CE}{o:g8}{L:Loc}{H H1:MH}{k:Nat}{v:Bool}
theorem AE(h:t o L H=some (.exc k H1)):bN t a b o L H=some (.exc k L H1):=by unfold bN aW;rw[h]
theorem EK(h:e o L H=some (.exc k H1)):tE e o L H=some (.exc k H1):=by unfold tE;rw[h];rfl
end
theorem P'{a b w1 w2 w3:Nat}(h:a<=b+w1):a+w2<=b+(w1+w2+w3):=f1 h
theorem Pa{a b w1 w2 w3:Nat}(h:a<=b+w1):a+w3<=b+(w1+w2+w3):=f1 h
noncomputable def su(oa:Out)(xa:Tx)(la lb lc:List Str):List Str:=if oa.code=0 then(match xa.b with
 |none=>la
 |some c=>la++(if c then lb else lc)) else la
def tG(oa ob oc:Out)(xa:Tx):Out:=dU oa (match xa.b with
 |none=>lY (tx xa.l)
 |some c=>if c then ob else oc)
theorem SN{f w w' Wh:Nat}{av:List (Str×MV)}{ta tb tc:MV}{la lb lc:List Str}{oa ob oc:Out}{xa:Tx}(hf:5<=f)(ha:kG b0 f w av ta la oa)(hb:kG b0 f w' av tb lb ob)(hc:kG b0 f Wh av tc lc oc)(h1:oa.code=0->oa.val=tx xa.l/\fV xa.l xa.a xa.b/\xa.l.length<=1000):
  kG cV (f+1) (w+w'+Wh) av (.tup [.str (S "if"),ta,tb,tc]) (su oa xa la lb lc) (tG oa ob oc xa):=by
 intro n c hl H sp Y2 d vs hd K cX hv;obtain⟨k1,k2,k3,k4,k5⟩:=WT;have hla:la.length<=(su oa xa la lb lc).length:=by
  unfold su
  split
  ·split
   ·exact ao _
   ·simp
  ·exact ao _
 have hdo:=ha n c hl H sp Y2 d vs hd K (by exact rO cX hla) (by exact M5 hv);rw[show n+(f+1)=n+f+1 from rfl,aD (by decide) rfl ⟨ao _,ao _⟩];have iK:∀(i:Int) (t:MV) (H:MH),[MV.str (S "if"),ta,tb,tc][i.toNat]?=some t->0<=i/\i<4->(ak (af (.fn (.ref b0))) (aa (ae 0) (aa (c2 au (ae 1) (af (.int i))) ai))) (ah (n+f)) [some (az c),some (.tup [.str (S "if"),ta,tb,tc]),some (.str (S "if"))] H=ah (n+f) b0 [az c,t] H:=fun i t H h hi=>by
  refine call2 (H1:=H) rfl (y:=t) (H2:=H) ?_;show au (.tup [.str (S "if"),ta,tb,tc]) (.int i) H=_;unfold au place?;dsimp only;rw[if_pos ⟨hi.1,by simpa using hi.2⟩];dsimp only;rw[h]
 rw[<-iK 1 ta H rfl (by decide)]at hdo;have hgo:∀z,aR ((ag (bN (tE (ak (af (.fn (.ref cD))) (aa (ak (af (.fn (.ref b0))) (aa (ae 0) (aa (c2 au (ae 1) (af (.int 1))) ai))) ai)))
   (aK (ak (af (.fn (.ref b0))) (aa (ae 0) (aa (c2 au (ae 1) (af (.int 2))) ai))))
   aq)
  (aK (ak (af (.fn (.ref b0))) (aa (ae 0) (aa (c2 au (ae 1) (af (.int 3))) ai))))) (ah (n+f)) [some (az c),some (.tup [.str (S "if"),ta,tb,tc]),some (.str (S "if"))] H) z->dj 3 bK (ah (n+f)) [az c,.tup [.str (S "if"),ta,tb,tc]] H=some z:=fun z hz=>by
  refine aP ?_;show aR (bK (ah (n+f)) [some (az c),some (.tup [.str (S "if"),ta,tb,tc]),none] H) _;unfold bK;refine aj kH ?_;simp only[jG];refine aj (jo k1) (aj (jo k2) (aj (jo k3) (aj (jo k4) (vf ?_ ?_))))
  ·rw[mM k5];exact hz
  ·intro L1 H1;rw[mM k5];intro q;rcases Az _ _ _ _ _ with ⟨L2,H2,-,q2⟩|⟨q1,q2⟩
   ·exact jR (q2.symm.trans q)
   ·exact q1 _ _ (q2.symm.trans q)
 cases hdo with
 |val H1 mf fP c0 h4 K1 x1 hv1=>
  obtain⟨va,ka,l1⟩:=h1 c0;have hL:su oa xa la lb lc=match xa.b with
   |none=>la
   |some c=>la++(if c then lb else lc):=if_pos c0
  have hO:tG oa ob oc xa=match xa.b with
   |none=>lY (tx xa.l)
   |some c=>if c then ob else oc:=if_pos c0
  have hnb:=ka.qf l1 (n:=n+f-5) (H:=H1);rw[show n+f-5+5=n+f by exact mw hf]at hnb;have hc3:=(bh (f:=cD) h4).trans (show ah (n+f) cD [.str oa.val] H1=ah (n+f) cD [.str (tx xa.l)] H1 by rw[va]);rw[hL]at cX;rw[hL,hO];obtain⟨lx,ax,bx⟩:=xa;dsimp only at *;cases bx with
  |none=>
   dsimp only at *;exact .exc _ mf fP (H1.length+1) (by show(1:Int)≠0;decide) (hgo _ (dA (AE (EK (hc3.trans hnb))))) (lB H1 _ rfl) (aN x1.len (jc _)) (K1.pre (Pre.app _ _)) (x1.trans (Ext.app _)) (Dp hv1)
  |some cc=>
   dsimp only at *;have ht:=dp (hc3.trans hnb);rw[bJ]at cX;cases cc with
   |true=>
    rw[if_pos rfl]at cX;rw[if_pos rfl,if_pos rfl];have hdo:=hb n c hl H1 mf (Y2++la) d fP hd K1 (by rw[bJ];exact rP cX) (by exact M6 hv hv1);rw[bZ,<-iK 2 tb H1 rfl (by decide)]at hdo;refine hdo.to (fun z hz=>hgo z (vf ?_ ?_)) x1 (P' hv1)
    ·rw[aB ht];exact nu hz
    ·intro L2 H3;rw[aB ht];exact jR
   |false=>
    rw[if_neg (by decide)]at cX;rw[if_neg (by decide),if_neg (by decide)];have hdo:=hc n c hl H1 mf (Y2++la) d fP hd K1 (by rw[bJ];exact rP cX) (by exact M7 hv hv1);rw[bZ,<-iK 3 tc H1 rfl (by decide)]at hdo;exact hdo.to (fun z hz=>hgo z (aj ((aw ht).trans rfl) (nu hz))) x1 (Pa hv1)
 |exc H1 mf fP k c0 h4 h5 h6 K1 x1 hv1=>
  rw[show su oa xa la lb lc=la from if_neg c0,show tG oa ob oc xa=oa from if_neg c0];exact .exc H1 mf fP k c0 (hgo _ (dA (AE (EK (zd h4))))) h5 h6 K1 x1 (Dp hv1)
def cq(nm:Str):Str:=S "tcl::mathfunc::"++nm
def uh(w:Str):Out:=bad (S "invalid command name \""++w++S "\"") (.tup [.str (S "TCL"),.str (S "LOOKUP"),.str (S "COMMAND"),.str w])
theorem tH:cq (S "twice")=S "tcl::mathfunc::twice"/\cG (cq (S "twice")) wV=some (.tup [.fn (.ref cN),.none])/\(cq (S "twice")).length<=100/\(cq (S "nope")).length<=100/\(S "invalid command name \"").length<=100/\(S "\"").length<=100/\(S "1").length<=100/\(S "tcl::mathfunc::").length<=100/\(S "twice").length<=100/\(S "nope").length<=100:=by
 refine⟨by ac_rfl,by rfl',?_⟩
 ac_rfl
theorem SO:cG (cq (S "nope")) wV=none:=by rfl'
theorem nv{k i:Nat}{xs:List MV}{v:MV}{H:MH}(h:H[k]?=some (.list xs))(h1:xs[i]?=some v):au (.obj k) (.int i) H=some (.val v H):=by
 unfold au;dsimp only;rw[h];dsimp only;rw[if_pos (by exact D5),Int.toNat_natCast,h1]
section
variable{c:HC}{hl:Nat}{H:MH}{d sp:Int}{Y2:List Str}{av vs:List (Str×MV)}{n kw:Nat}{w v1:Str}{r:List Str}
theorem EL(K:bt c hl H d sp Y2 av vs)(hk:H[kw]?=some (.list ((w::v1::r).map MV.str)))(hne:kw≠hl)(h1:(w::v1::r).length<=100)(h2:∀x∈w::v1::r,x.length<=1000)(cX:Y2.length<100000):
  ah (n+1) cN [az c,.obj kw] H=some (.val (.str (v1++S "1")) (H.set hl (.list ((Y2++[dg (S " ") (w::v1::r)]).map MV.str)))):=by
 obtain⟨g1,-⟩:=cK c d sp;obtain⟨-,-,g3⟩:=jQ c hl;have q7:(S "1").length<=100:=tH.2.2.2.2.2.2.1;have hj:=ve (sep:=S " ") hk EA.2 h1 h2
 (generalize hw:dg (S " ") (w::v1::r)=jw at hj ⊢;revert jw;refine gA ?_;intros)
 have Ep:dW (.obj hl) (.str jw) H=some (.val .none (H.set hl (.list ((Y2++[jw]).map MV.str)))):=by
  rw[append_at K.mI (by simp;exact oG cX rfl),fk];rfl
 have hk':(H.set hl (.list ((Y2++[jw]).map MV.str)))[kw]?=some (.list ((w::v1::r).map MV.str)):=(bB (Ne.symm hne)).trans hk;rw[aD (by decide) rfl ⟨ao _,ao _⟩];refine aP ?_;show aR (jM (ah n) [some (az c),some (.obj kw)] H) _;unfold jM;refine aj (L1:=[some (az c),some (.obj kw)]) (H1:=H.set hl (.list ((Y2++[jw]).map MV.str))) ?_ ?_
 ·have hb:jD .str (.str (S " ")) H=true:=rfl;simp only[bT,aW,cM,c2,c1,ae,af,bindR,eM,iH,eJ K.host g1 rfl,kj K.er g3,eU K.mI,hb,c9,aa,ai,hj,cg,Ep]
 ·refine aL (L1:=[some (az c),some (.obj kw)]) (aI ?_);refine dw (H1:=H.set hl (.list ((Y2++[jw]).map MV.str))) (x:=v1) (y:=S "1") ?_ rfl ?_
  ·exact nv (i:=1) hk' rfl
  ·have:=h2 v1 (by simp);exact DM q7 this
theorem EM(K:bt c hl H d sp Y2 av vs):ah (n+1) Bw [az c] H=some (.val .none (H.set c.hh (.dict (br c d (sp+1))))):=by
 obtain⟨-,-,-,-,-,g6,g7,-,-,WV⟩:=cK c d sp;obtain⟨-,-,-,-,-,f6,-⟩:=cK c d (sp+1);have K1:=K.oh d (sp+1);rw[aD (by decide) rfl ⟨ao _,ao _⟩];refine aP ?_;show aR (nh (ah n) [some (az c)] H) _;unfold nh;refine aj (L1:=[some (az c)]) (H1:=H.set c.hh (.dict (br c d (sp+1)))) (by rw[oj (u:=.int sp) (v:=.int 1) (y:=.int (sp+1)) rfl K.host g7 rfl rfl rfl (by show 12<=1000;decide),WV]) ?_;refine aj (L1:=[some (az c)]) (H1:=H.set c.hh (.dict (br c d (sp+1)))) ((aw (H1:=H.set c.hh (.dict (br c d (sp+1)))) ?_).trans rfl) DT;have:∀e:CT,(jC (tE (c1 eg (c1 (bA 691 (S "fuel")) (ae 0)))) e) (ah n) [some (az c)] (H.set c.hh (.dict (br c d (sp+1))))=some (.val false (H.set c.hh (.dict (br c d (sp+1))))):=fun e=>by
  have ha:c1 (bA 691 (S "fuel")) (ae 0) (ah n) [some (az c)] (H.set c.hh (.dict (br c d (sp+1))))=some (.val .none (H.set c.hh (.dict (br c d (sp+1))))):=qh rfl K1.host f6 rfl;unfold jC tE;rw[show c1 eg (c1 (bA 691 (S "fuel")) (ae 0)) (ah n) [some (az c)] (H.set c.hh (.dict (br c d (sp+1))))=some (.val (.bool false) (H.set c.hh (.dict (br c d (sp+1))))) by
   show bindR (c1 (bA 691 (S "fuel")) (ae 0) (ah n) [some (az c)] (H.set c.hh (.dict (br c d (sp+1))))) eg=_;rw[ha];rfl]
  rfl
 exact this _
theorem jq(hk:H[kw]?=some (.list ((w::v1::r).map MV.str))){o:g8}{h:Option MV}{L:Loc}:(c2 au (ae 1) (af (.int 0))) o (h::some (.obj kw)::L) H=some (.val (.str w) H):=nv (i:=0) hk rfl
theorem tI(K:bt c hl H d sp Y2 av vs)(hk:H[kw]?=some (.list ((cq (S "twice")::v1::r).map MV.str)))(hne:kw≠hl)(Vl:kw≠c.hh)(h1:(cq (S "twice")::v1::r).length<=100)(h2:∀x∈cq (S "twice")::v1::r,x.length<=1000)(cX:Y2.length<100000):
  ∃H',ah (n+5) wA [az c,.obj kw] H=some (.val (.str (v1++S "1")) H')/\bt c hl H' d (sp+1) (Y2++[dg (S " ") (cq (S "twice")::v1::r)]) av vs/\Ext c hl H H':=by
 obtain⟨-,q2,-⟩:=tH;obtain⟨-,-,g3,-⟩:=cK c d sp;obtain⟨-,-,f3,-⟩:=cK c d (sp+1);obtain⟨-,-,-,-,-,-,m7,m8⟩:=gv c d sp;have K1:=K.oh d (sp+1);have x1:Ext c hl H (H.set c.hh (.dict (br c d (sp+1)))):=Ext.oh _;have hk1:(H.set c.hh (.dict (br c d (sp+1))))[kw]?=some (.list ((cq (S "twice")::v1::r).map MV.str)):=(bB (Ne.symm Vl)).trans hk;have hsp:=EM (n:=n+2) K
 (generalize H.set c.hh (.dict (br c d (sp+1)))=H1 at K1 x1 hk1 hsp;revert H1;refine gA ?_;intros)
 have ht:=EL (n:=n+1) K1 hk1 hne h1 h2 cX;have K2:=K1.wW (Y2++[dg (S " ") (cq (S "twice")::v1::r)]);have x2:Ext c hl H1 (H1.set hl (.list ((Y2++[dg (S " ") (cq (S "twice")::v1::r)]).map MV.str))):=Ext.wW _
 (generalize H1.set hl (.list ((Y2++[dg (S " ") (cq (S "twice")::v1::r)]).map MV.str))=H2 at K2 x2 ht;revert H2;refine gA ?_;intros)
 have Pb:ah (n+3) Ke [az c,.obj kw,.fn (.ref cN),.none] H1=some (.val (.str (v1++S "1")) H2):=by
  rw[aD (by decide) rfl ⟨ao _,ao _⟩];refine aP ?_;show aR (An (ah (n+2)) [some (az c),some (.obj kw),some (.fn (.ref cN)),some .none] H1) _;unfold An;exact aL (L1:=[some (az c),some (.obj kw),some (.fn (.ref cN)),some .none]) ((aB (H1:=H1) rfl).trans (aE (aI ht)))
 have ze:ah (n+4) u' [az c,.obj kw] H=some (.val (.str (v1++S "1")) H2):=by
  rw[aD (by decide) rfl ⟨ao _,ao _⟩];refine aP ?_;show aR (gu (ah (n+3)) [some (az c),some (.obj kw),none,none] H) _;unfold gu;refine aj (L1:=[some (az c),some (.obj kw),none,none]) (H1:=H) ((aw (H1:=H) ?_).trans rfl) ?_
  ·have ha:c1 (bA 691 (S "commands")) (ae 0) (ah (n+3)) [some (az c),some (.obj kw),none,none] H=some (.val (.obj c.hc) H):=qh rfl K.host g3 rfl;have hin:=in_dict (x:=cq (S "twice")) K.jm;unfold tE;rw[show(c2 eX (c2 au (ae 1) (af (.int 0))) (c1 (bA 691 (S "commands")) (ae 0))) (ah (n+3)) [some (az c),some (.obj kw),none,none] H=some (.val (.bool false) H) by
    show bindR ((c2 au (ae 1) (af (.int 0))) (ah (n+3)) [some (az c),some (.obj kw),none,none] H) (fun x H=>bindR (c1 (bA 691 (S "commands")) (ae 0) (ah (n+3)) [some (az c),some (.obj kw),none,none] H) fun y H=>eX x y H)=_;rw[jq hk];show bindR (c1 (bA 691 (S "commands")) (ae 0) (ah (n+3)) [some (az c),some (.obj kw),none,none] H) (fun y H=>eX (.str (cq (S "twice"))) y H)=_;rw[ha];show eX (.str (cq (S "twice"))) (.obj c.hc) H=_;rw[hin,q2];rfl]
   rfl
  refine aj (L1:=[some (az c),some (.obj kw),none,none]) (H1:=H1) ?_ ?_
  ·unfold bT;rw[Sy rfl K.host m8,hsp];rfl
  refine aj (L1:=[some (az c),some (.obj kw),some (.fn (.ref cN)),some .none]) (H1:=H1) ?_ ?_
  ·have ha:c1 (bA 691 (S "commands")) (ae 0) (ah (n+3)) [some (az c),some (.obj kw),none,none] H1=some (.val (.obj c.hc) H1):=qh rfl K1.host f3 rfl;unfold di;rw[show(c2 au (c1 (bA 691 (S "commands")) (ae 0)) (c2 au (ae 1) (af (.int 0)))) (ah (n+3)) [some (az c),some (.obj kw),none,none] H1=some (.val (.tup [.fn (.ref cN),.none]) H1) by
    show bindR (c1 (bA 691 (S "commands")) (ae 0) (ah (n+3)) [some (az c),some (.obj kw),none,none] H1) (fun x H=>bindR ((c2 au (ae 1) (af (.int 0))) (ah (n+3)) [some (az c),some (.obj kw),none,none] H) fun y H=>au x y H)=_;rw[ha];show bindR ((c2 au (ae 1) (af (.int 0))) (ah (n+3)) [some (az c),some (.obj kw),none,none] H1) (fun y H=>au (.obj c.hc) y H)=_;rw[jq hk1];exact kj K1.jm q2]
   rfl
  ·exact aL (L1:=[some (az c),some (.obj kw),some (.fn (.ref cN)),some .none]) (aI Pb)
 refine⟨H2,?_,K2,x1.trans x2⟩;rw[aD (by decide) rfl ⟨ao _,ao _⟩];refine aP ?_;show aR (ie (ah (n+4)) [some (az c),some (.obj kw),none] H) _;unfold ie;refine aj (L1:=[some (az c),some (.obj kw),none]) (H1:=H) ((aw (H1:=H) ?_).trans rfl) ?_
 ·simp only[oH,tE,ae,bindR,eM,iH,dF,hk,cT,List.isEmpty_cons,Bool.not_false,Bool.not_true]
 refine aj (L1:=[some (az c),some (.obj kw),some (.str (v1++S "1"))]) (H1:=H2) (aJ ((oZ (H2:=H) rfl K.host m7 rfl).trans ze)) ?_;refine aj (L1:=[some (az c),some (.obj kw),some (.str (v1++S "1"))]) (H1:=H2) rfl ?_;refine aj (L1:=[some (az c),some (.obj kw),some (.str (v1++S "1"))]) (H1:=H2) rfl ?_;exact aL (L1:=[some (az c),some (.obj kw),some (.str (v1++S "1"))]) rfl
theorem vg(K:bt c hl H d sp Y2 av vs)(hk:H[kw]?=some (.list ((cq (S "nope")::v1::r).map MV.str))):
  Gives (ah (n+5) wA [az c,.obj kw] H) H (uh (cq (S "nope"))):=by
 obtain⟨-,-,-,q4,q5,q6,-⟩:=tH;obtain⟨-,-,g3,-⟩:=cK c d sp;obtain⟨-,-,-,-,-,-,m7,m8⟩:=gv c d sp;refine kD rfl ?_;have ze:ah (n+4) u' [az c,.obj kw] H=some (.exc (H.length+1) (H++iX H (uh (cq (S "nope"))) true)):=by
  rw[aD (by decide) rfl ⟨ao _,ao _⟩];refine aP ?_;show aR (gu (ah (n+3)) [some (az c),some (.obj kw),none,none] H) _;unfold gu;refine dA (L1:=[some (az c),some (.obj kw),none,none]) ((aB (H1:=H) ?_).trans (cu (hV (H1:=H) (ao _) ?_)))
  ·have ha:c1 (bA 691 (S "commands")) (ae 0) (ah (n+3)) [some (az c),some (.obj kw),none,none] H=some (.val (.obj c.hc) H):=qh rfl K.host g3 rfl;have hin:=in_dict (x:=cq (S "nope")) K.jm;unfold tE;rw[show(c2 eX (c2 au (ae 1) (af (.int 0))) (c1 (bA 691 (S "commands")) (ae 0))) (ah (n+3)) [some (az c),some (.obj kw),none,none] H=some (.val (.bool true) H) by
    show bindR ((c2 au (ae 1) (af (.int 0))) (ah (n+3)) [some (az c),some (.obj kw),none,none] H) (fun x H=>bindR (c1 (bA 691 (S "commands")) (ae 0) (ah (n+3)) [some (az c),some (.obj kw),none,none] H) fun y H=>eX x y H)=_;rw[jq hk];show bindR (c1 (bA 691 (S "commands")) (ae 0) (ah (n+3)) [some (az c),some (.obj kw),none,none] H) (fun y H=>eX (.str (cq (S "nope"))) y H)=_;rw[ha];show eX (.str (cq (S "nope"))) (.obj c.hc) H=_;rw[hin,SO];rfl]
   rfl
  ·refine(call2 (dw (dw (H1:=H) rfl (H2:=H) (jq hk) (by exact yB q4 q5)) (H2:=H) rfl (by rw[aS];exact DN q4 q5 q6)) (yJ (H3:=H) rfl rfl rfl (jq hk))).trans mG
 rw[aD (by decide) rfl ⟨ao _,ao _⟩];refine aP ?_;show aR (ie (ah (n+4)) [some (az c),some (.obj kw),none] H) _;unfold ie;refine aj (L1:=[some (az c),some (.obj kw),none]) (H1:=H) ((aw (H1:=H) ?_).trans rfl) ?_
 ·simp only[oH,tE,ae,bindR,eM,iH,dF,hk,cT,List.isEmpty_cons,Bool.not_false,Bool.not_true]
 exact dA (fg ((oZ (H2:=H) rfl K.host m7 rfl).trans ze))
end
theorem vh(he:e o L H=some (.val v H'))(hL:L[i]?=some (some (.obj km)))(hk:H[km]?=some (.list xs))(hk':H'[km]?=some (.list ys))(hn:ys.length<1000):bT (cM .list cg (ae i) (aa e ai)) o L H=some (.next L (H'.set km (.list (ys++[v])))):=by
 simp only[bT,aW,cM,ae,bindR,hL,eU hk,c9,aa,ai,he,cg,append_at hk' (show ys.length<1000000 by exact oG hn rfl)]
theorem I5(he:e o L H=some (.exc k H'))(hL:L[i]?=some (some (.obj km)))(hk:H[km]?=some (.list xs)):bT (cM .list cg (ae i) (aa e ai)) o L H=some (.exc k L H'):=by
 simp only[bT,aW,cM,ae,bindR,hL,eU hk,c9,aa,ai,he]
structure En where
 t:MV
 lg:List Str
 o:Out
 x:Tx
 w:Nat
 s:Nat
noncomputable def En.R(e:En)(f:Nat)(av:List (Str×MV)):Prop:=kG b0 f e.w av e.t e.lg e.o/\(e.o.code=0->e.o.val=tx e.x.l/\e.x.Ok 390)
noncomputable def lK:List En->Nat
 |[]=>0
 |e::r=>e.w+lK r
noncomputable def strict:List En->List Str×Option Out
 |[]=>([],none)
 |e::r=>if e.o.code=0 then(e.lg++(strict r).1,(strict r).2) else(e.lg,some e.o)
theorem bz(h:e.o.code=0):strict (e::r)=(e.lg++(strict r).1,(strict r).2):=if_pos h
theorem bP(h:e.o.code≠0):strict (e::r)=(e.lg,some e.o):=if_neg h
theorem lL:∀{r:List En}{o:Out},(strict r).2=some o->o.code≠0
 |[],_,h=>by cases h
 |e::r,o,h=>by
  by_cases q:e.o.code=0
  ·rw[bz q]at h;exact lL h
  ·rw[bP q]at h;cases h;exact q
theorem om:∀{r:List En},(strict r).2=none->∀e∈r,e.o.code=0:=by
 intro r
 induction r with
 |nil=>intro _ _ h;cases h
 |cons e r ih=>
  intro h;by_cases q:e.o.code=0
  ·rw[bz q]at h;intro x hx;rcases bS.mp hx with rfl|hx
   ·exact q
   ·exact ih h x hx
  ·rw[bP q]at h;cases h
theorem Pc:lK (e::r)=e.w+lK r:=rfl
inductive EN(c:HC)(hl:Nat)(H0:MH)(Y2:List Str)(d vs:List (Str×MV))(es:List En)(nm:MV)(m:Nat)(r:List En)(ms:List Str)(e:Option MV)(z:Option RS):Prop
 |all (H':MH) (i7:Int) (cE:List (Str×MV)) (p':Option MV) (h:cE.length<=vs.length+lK r) (hs:(strict r).2=none) (Q:QS c hl H0 i7 (Y2++(strict r).1) d cE ((ms++r.map (fun e=>e.o.val)).map MV.str) H') (hf:z=some (.next [some (az c),some nm,some (.tup (es.map En.t)),some (.obj H0.length),p',e] H')):EN c hl H0 Y2 d vs es nm m r ms e z
 |bad (H':MH) (i7:Int) (cE:List (Str×MV)) (k:Nat) (L:Loc) (o:Out) (h:cE.length<=vs.length+lK r) (hs:(strict r).2=some o) (K:bt c hl H' 0 i7 (Y2++(strict r).1) d cE) (x:Ext c hl H0 H') (hf:z=some (.exc k L H')) (he:ExcAt H' k o) (hk:H0.length<=k):EN c hl H0 Y2 d vs es nm m r ms e z
theorem BN(hes:∀e∈es,e.R f av)(hd:eQ av d):∀(r:List En) (i:Nat) (sp:Int) (Y2:List Str) (vs:List (Str×MV)) (ms:List Str) (H:MH) (p e:Option MV) (N:Nat),
  es.drop i=r->r.length<N->QS c hl H0 sp Y2 d vs (ms.map MV.str) H->ms.length+r.length<=100->Y2.length+(strict r).1.length<=90000->vs.length+lK r<=900->
  EN c hl H0 Y2 d vs es nm (n+f) r ms e (ei (toName 4) bU N (.tup (es.map En.t) i) (ah (n+f)) [some (az c),some nm,some (.tup (es.map En.t)),some (.obj H0.length),p,e] H):=by
 intro r
 induction r with
 |nil=>
  intro i sp Y2 vs ms H p e N hr hN Q h1 h2 h3;obtain⟨N,rfl⟩:∃M,N=M+1:=⟨N-1,by have:0<N:=hN;exact nE this⟩
  have hi:(es.map En.t)[i]?=none:=by
   rw[jV];have:=aY List.length hr;rw[mr,cS]at this;rw[bR];exact nV this
  refine .all H sp vs p (mu _ _) rfl (by rw[show(strict []).1=[] from rfl,bp,kU,bp];exact Q) ?_;rw[fO (by show(match (es.map En.t)[i]? with|some x=>_|none=>_)=_;rw[hi])]
 |cons x r ih=>
  intro i sp Y2 vs ms H p e N hr hN Q h1 h2 h3;obtain⟨N,rfl⟩:∃M,N=M+1:=⟨N-1,by have:0<N:=gB (eW _) hN;exact nE this⟩
  simp only[bo,Pc]at h1 h3 hN;have hx:es[i]?=some x:=by
   have:=aY List.head? hr;rw[List.head?_drop]at this;exact this
  have hr':es.drop (i+1)=r:=by
   have:=aY List.tail hr;rw[List.tail_drop]at this;exact this
  have hi:(es.map En.t)[i]?=some x.t:=by rw[dP,hx];rfl
  have Ey:∀L:Loc,ei (toName 4) bU (N+1) (.tup (es.map En.t) i) (ah (n+f)) [some (az c),some nm,some (.tup (es.map En.t)),some (.obj H0.length),p,e] H=_:=fun L=>dz (show dM (.tup (es.map En.t) i) H=some (some (x.t,.tup (es.map En.t) (i+1))) by show(match (es.map En.t)[i]? with|some x=>_|none=>_)=_;rw[hi]) (show toName 4 x.t _=some _ from rfl)
  have hst:=Ey [];dsimp only[List.set_cons_succ,List.set_cons_zero]at hst;obtain⟨hx1,hx2⟩:=hes x (d8 hx);have hlx:x.lg.length<=(strict (x::r)).1.length:=by
   by_cases q:x.o.code=0
   ·rw[bz q];simp
   ·rw[bP q];exact ao _
  have hdo:=hx1 n c hl H sp Y2 d vs hd Q.K (by exact rO h2 hlx) (by exact yt h3);have iK:(ak (af (.fn (.ref b0))) (aa (ae 0) (aa (ae 4) ai))) (ah (n+f)) [some (az c),some nm,some (.tup (es.map En.t)),some (.obj H0.length),some x.t,e] H=ah (n+f) b0 [az c,x.t] H:=call2 rfl rfl;rw[<-iK]at hdo;have hb:bU=bT (cM .list cg (ae 3) (aa (ak (af (.fn (.ref b0))) (aa (ae 0) (aa (ae 4) ai))) ai)):=by unfold bU;rw[jG]
  cases hdo with
  |val H1 mf fP c0 h4 K1 x1 hv1=>
   have Q1:=Q.go K1 x1;have iJ:bU (ah (n+f)) [some (az c),some nm,some (.tup (es.map En.t)),some (.obj H0.length),some x.t,e] H=some (.next [some (az c),some nm,some (.tup (es.map En.t)),some (.obj H0.length),some x.t,e] (H1.set H0.length (.list (ms.map MV.str++[.str x.o.val])))):=by
    rw[hb];exact vh h4 rfl Q.m Q1.m (by rw[bR];exact wj h1 rfl)
   have Q2:=Q1.set (ms.map MV.str++[.str x.o.val]);rw[bz c0]at h2;dsimp only at h2;rw[bJ]at h2;have Ez:=ih (i+1) mf (Y2++x.lg) fP (ms++[x.o.val]) _ (some x.t) e N hr' (by exact jI hN) (by rw[fk];exact Q2) (by simp;exact qC h1) (by rw[bJ];exact rP h2) (by exact yu h3 hv1);rw[hst,iJ];cases Ez with
   |all H2 tr gz p2 hv2 hs2 Q2 hf2=>exact .all H2 tr gz p2 (nW hv1 hv2) (by rw[bz c0];exact hs2) (by rw[bz c0,cT,<-bZ,List.append_cons];exact Q2) hf2
   |bad H2 tr gz k L o hv2 hs2 K2 x2 hf2 he2 hk2=>exact .bad H2 tr gz k L o (nW hv1 hv2) (by rw[bz c0];exact hs2) (by rw[bz c0,<-bZ];exact K2) x2 hf2 he2 hk2
  |exc H1 mf fP k c0 h4 h5 h6 K1 x1 hv1=>
   have Q1:=Q.go K1 x1;have iJ:bU (ah (n+f)) [some (az c),some nm,some (.tup (es.map En.t)),some (.obj H0.length),some x.t,e] H=some (.exc k [some (az c),some nm,some (.tup (es.map En.t)),some (.obj H0.length),some x.t,e] H1):=by
    rw[hb];exact I5 h4 rfl Q.m
   rw[hst,iJ];exact .bad H1 mf fP k _ x.o (yw hv1) (by rw[bP c0]) (by rw[bP c0];exact K1) Q1.x rfl h5 (aN Q.x.len h6)
noncomputable def iC:Nat->Str
 |0=>S "max"
 |1=>S "twice"
 |_=>S "nope"
noncomputable def cC(es:List En):List Str:=es.map fun e=>e.o.val
def gL(k:Nat)(es:List En):List Str:=match (strict es).2 with
 |some _=>(strict es).1
 |none=>if k=1 then(strict es).1++[dg (S " ") (cq (S "twice")::cC es)] else(strict es).1
noncomputable def lZ(es:List En):Nat->Out
 |0=>f7 (es.map En.x) []
 |1=>good ((cC es).headD (S "")++S "1")
 |_=>uh (cq (S "nope"))
def iL(k:Nat)(es:List En):Out:=match (strict es).2 with
 |some o=>o
 |none=>lZ es k
theorem Vm:(S "max").length<=100/\(S "twice").length<=100/\(S "nope").length<=100:=by ac_rfl
theorem I6(hes:∀e∈es,e.R f av)(h:∀e∈es,e.o.code=0):(cC es).map MV.str=(es.map En.x).map Tx.mv:=by
 unfold cC;rw[hH,hH];refine pM fun e he=>?_
 show MV.str e.o.val=MV.str (tx e.x.l);rw[((hes e he).2 (h e he)).1]
theorem Vn(ha:a o L H=some (.val x H1)):dy (aa a ai) o L H=some (.val (.obj H1.length) (H1++[.list [x]])):=by
 unfold dy aa ai;simp only[bindR,ha,bo,cS,Nat.reduceAdd,d9,Nat.reduceLeDiff,c9]
def zf(c:HC)(k:Nat)(es:List En)(h:Nat)(p q:Option MV):Loc:=[some (az c),some (.str (iC k)),some (.tup (es.map En.t)),some (.obj h),p,q]
def Wi:CE:=ak (af (.fn (.ref eO))) (aa (ae 1) (aa (ae 3) ai))
def Wj:CE:=c2 bb (af (.str (S "tcl::mathfunc::"))) (ae 1)
def Wk:CE:=c2 bb (dy (aa Wj ai)) (ae 3)
def WW:CS:=ag (aO 5 Wi) (ag (bN (tE (c1 bg (ae 5))) (ag (aK (cL 691 511 (S "call") (ae 0) (aa Wk ai))) aq) aq) (ag (aK (ae 5)) aq))
section
variable{c:HC}{hl k m h:Nat}{es:List En}{H H1 H2:MH}{p q:Option MV}{sp:Int}{Y2 lg:List Str}{d vs:List (Str×MV)}
theorem vi(hfo:ei (toName 4) bU many (.tup (es.map En.t) 0) (ah m) (zf c k es H.length none none) (H++[.list []])=some (.next (zf c k es H.length p none) H1))
  (hz:aR (WW (ah m) (zf c k es H.length p none) H1) z):ah (m+1) dm [az c,.str (iC k),.tup (es.map En.t)] H=some z:=by
 rw[aD (by decide) rfl ⟨ao _,ao _⟩];refine aP ?_;exact aj (a:=aO 3 (dy ai)) (L1:=zf c k es H.length none none) (aJ rfl) (aj ((s8 rfl rfl).trans hfo) hz)
theorem Pd(hfo:ei (toName 4) bU many (.tup (es.map En.t) 0) (ah m) (zf c k es H.length none none) (H++[.list []])=some (.exc k1 L1 H1)):
  ah (m+1) dm [az c,.str (iC k),.tup (es.map En.t)] H=some (.exc k1 H1):=by
 rw[aD (by decide) rfl ⟨ao _,ao _⟩];refine aP ?_;exact aj (a:=aO 3 (dy ai)) (L1:=zf c k es H.length none none) (aJ rfl) (dA ((s8 rfl rfl).trans hfo))
theorem AF(e:ah m eO [.str (iC k),.obj h] H=z):Wi (ah m) (zf c k es h p q) H=z:=(call2 rfl rfl).trans e
inductive Wl(c:HC)(hl:Nat)(nm:Str)(es:List En)(sp:Int)(Y2:List Str)(d vs:List (Str×MV))(H2:MH)(r:Option (Res MV)):Prop
 |mk (H3:MH) (kw:Nat) (e:r=some (.val (.obj kw) H3)) (K:bt c hl H3 0 sp Y2 d vs) (x:Ext c hl H2 H3) (hk:H3[kw]?=some (.list ((cq nm::cC es).map MV.str))) (n1:kw≠hl) (n2:kw≠c.hh):Wl c hl nm es sp Y2 d vs H2 r
theorem sv:(cC es).length=es.length:=by unfold cC;rw[bR]
theorem EO(hn:es.length<=90)(hnm:iC k=nm)(h1:nm.length<=100)(Q:QS c hl H sp Y2 d vs ((cC es).map MV.str) H2):Wl c hl nm es sp Y2 d vs H2 (Wk (ah m) (zf c k es H.length p q) H2):=by
 have q8:(S "tcl::mathfunc::").length<=100:=tH.2.2.2.2.2.2.2.1;have ha:Wj (ah m) (zf c k es H.length p q) H2=some (.val (.str (cq nm)) H2):=by
  subst hnm;exact dw (H1:=H2) rfl rfl (by exact uT q8 h1)
 have lt:=fun {j:Nat}(h:j<H.length)=>cF h Q.x.len
 refine .mk (H2++[.list [.str (cq nm)]]++[.list ([.str (cq nm)]++(cC es).map MV.str)]) (H2++[MO.list [.str (cq nm)]]).length ?_ ((Q.K.pre (Pre.app _ _)).pre (Pre.app _ _)) ((Ext.app _).trans (Ext.app _)) (bc _ _) ?_ ?_
 ·refine(ba (y:=.obj H.length) (H2:=H2++[.list [.str (cq nm)]]) (Vn ha) rfl).trans ?_;unfold bb;dsimp only;rw[bc,(Pre.app H2 _).get Q.m];dsimp only;rw[if_pos (by rw[d9,bR,sv];simp;exact Dq hn rfl)]
 ·rw[bJ];exact dZ (Nat.lt_succ_of_lt (lt Q.b.2.1))
 ·rw[bJ];exact dZ (Nat.lt_succ_of_lt (lt Q.b.1))
end
section
variable{f k:Nat}{av:List (Str×MV)}{es:List En}{n:Nat}{c:HC}{hl:Nat}{H H1:MH}{sp mf:Int}{Y2:List Str}{d vs fP:List (Str×MV)}{p:Option MV}
theorem Pe(hf:5<=f)(h0:es≠ [])(hn:es.length<=90)(hes:∀e∈es,e.R f av)(qj:∀e∈es,e.o.code=0)(Q:QS c hl H mf Y2 d fP ((cC es).map MV.str) H1)(hv1:fP.length<=vs.length+lK es)
  (hfo:ei (toName 4) bU many (.tup (es.map En.t) 0) (ah (n+f)) (zf c 0 es H.length none none) (H++[.list []])=some (.next (zf c 0 es H.length p none) H1)):
  Run c hl H Y2 d vs (lK es) (lZ es 0) (ah (n+f+1) dm [az c,.str (iC 0),.tup (es.map En.t)] H):=by
 have hm:=OX (n:=n+f-5) (H:=H1) (ka:=H.length) (ts:=es.map En.x) (fun t ht=>by
  obtain⟨e,he,rfl⟩:=eb.mp ht;exact((hes e he).2 (qj e he)).2) (by rw[bR];exact cU hn rfl) (fun q=>h0 (List.map_eq_nil_iff.mp q)) (by rw[Q.m,I6 hes qj])
 rw[mw hf]at hm;rcases hm with ⟨J,c1,h7⟩|⟨J,k2,c1,h7,h8,h9⟩
 ·exact .val (H1++J) mf fP c1 (vi hfo (aj (aJ (AF h7)) (aj ((aw rfl).trans rfl) (aL rfl)))) (Q.K.pre (Pre.app _ _)) (Q.x.trans (Ext.app _)) hv1
 ·exact .exc (H1++J) mf fP k2 c1 (vi hfo (dA (fg (AF h7)))) h8 (aN Q.x.len h9) (Q.K.pre (Pre.app _ _)) (Q.x.trans (Ext.app _)) hv1
theorem ui(h0:es≠ []):∃v1 r,cC es=v1::r:=by
 cases es with
 |nil=>exact absurd rfl h0
 |cons a b=>exact⟨_,_,rfl⟩
theorem EP(hf:5<=f)(h0:es≠ [])(hn:es.length<=90)(hvb:∀x∈cC es,x.length<=1000)(cX:Y2.length<100000)(Q:QS c hl H mf Y2 d fP ((cC es).map MV.str) H1)(hv1:fP.length<=vs.length+lK es)
  (hfo:ei (toName 4) bU many (.tup (es.map En.t) 0) (ah (n+f)) (zf c 1 es H.length none none) (H++[.list []])=some (.next (zf c 1 es H.length p none) H1)):
  Run c hl H (Y2++[dg (S " ") (cq (S "twice")::cC es)]) d vs (lK es) (lZ es 1) (ah (n+f+1) dm [az c,.str (iC 1),.tup (es.map En.t)] H):=by
 have hnf:=wR (n:=n+f-5) (H:=H1) (x:=.obj H.length) wU;rw[mw hf]at hnf;have Q2:=Q.go (Q.K.pre (Pre.app _ [bX])) (Ext.app _);obtain⟨H3,kw,e1,K3,x3,hkw,n1,n2⟩:=EO (m:=n+f) (k:=1) (p:=p) (q:=some .none) hn rfl Vm.2.1 Q2;obtain⟨v1,r,hvr⟩:=ui h0;have hB:lZ es 1=good (v1++S "1"):=by unfold lZ;rw[hvr];rfl
 have hl2:=sv (es:=es);rw[hvr]at hkw hvb hl2;obtain⟨H4,e2,K4,x4⟩:=tI (n:=n+f-5) K3 hkw n1 n2 (by rw[bo,hl2];exact Dr hn rfl) (fun x hx=>by
  rcases bS.mp hx with rfl|hx
  ·exact aN tH.2.2.1 (by decide)
  ·exact hvb x hx) cX
 rw[mw hf]at e2;rw[hB,hvr];exact .val H4 (mf+1) fP rfl (vi hfo (aj (aJ (AF hnf)) (aL ((aB rfl).trans (aE (aI ((oZ rfl Q2.K.host (gv c 0 mf).2.2.2.2.2.1 e1).trans e2))))))) K4 ((Q2.x.trans x3).trans x4) hv1
theorem I7(hf:5<=f)(h0:es≠ [])(hn:es.length<=90)(Q:QS c hl H mf Y2 d fP ((cC es).map MV.str) H1)(hv1:fP.length<=vs.length+lK es)
  (hfo:ei (toName 4) bU many (.tup (es.map En.t) 0) (ah (n+f)) (zf c 2 es H.length none none) (H++[.list []])=some (.next (zf c 2 es H.length p none) H1)):
  Run c hl H Y2 d vs (lK es) (uh (cq (S "nope"))) (ah (n+f+1) dm [az c,.str (iC 2),.tup (es.map En.t)] H):=by
 have hnf:=wR (n:=n+f-5) (H:=H1) (x:=.obj H.length) yV;rw[mw hf]at hnf;have Q2:=Q.go (Q.K.pre (Pre.app _ [bX])) (Ext.app _);obtain⟨H3,kw,e1,K3,x3,hkw,n1,n2⟩:=EO (m:=n+f) (k:=2) (p:=p) (q:=some .none) hn rfl Vm.2.2 Q2;obtain⟨v1,r,hvr⟩:=ui h0;rw[hvr]at hkw;have e2:=vg (n:=n+f-5) K3 hkw;rw[mw hf]at e2;rcases e2 with ⟨J,c1,h7⟩|⟨J,k2,c1,h7,h8,h9⟩
 ·exact absurd c1 (by show(1:Int)≠0;decide)
 ·exact .exc (H3++J) mf fP k2 c1 (vi hfo (aj (aJ (AF hnf)) (dA ((aB rfl).trans (cu (rA ((oZ rfl Q2.K.host (gv c 0 mf).2.2.2.2.2.1 e1).trans h7))))))) h8 (aN (Q2.x.trans x3).len h9) (K3.pre (Pre.app _ _)) ((Q2.x.trans x3).trans (Ext.app _)) hv1
theorem tJ(hf:5<=f)(hk:k<3)(h0:es≠ [])(hn:es.length<=90)(hes:∀e∈es,e.R f av)(hd:eQ av d)(K:bt c hl H 0 sp Y2 d vs)(cX:Y2.length+(gL k es).length<=90000)(hv:vs.length+lK es<=900):
  Run c hl H (Y2++gL k es) d vs (lK es) (iL k es) (ah (n+(f+1)) dm [az c,.str (iC k),.tup (es.map En.t)] H):=by
 have hsl:(strict es).1.length<=(gL k es).length:=by
  unfold gL
  split
  ·exact ao _
  ·split
   ·simp
   ·exact ao _
 have Ez:=BN hes (n:=n) hd (nm:=.str (iC k)) es 0 sp Y2 vs [] (H++[.list []]) none none many rfl (by unfold many;exact ku hn rfl) (QS.Wg K []) (by rw[cS];exact Dh hn rfl) (by exact rO cX hsl) hv;cases Ez with
 |all H1 mf fP p' hv1 hs Q hfo=>
  have qj:=om hs;have SP:(Y2++(strict es).1).length<100000:=by rw[bJ];exact gB (aN (mm hsl _) cX) (by decide)
  have fix:∀{lg:List Str}{o:Out},gL k es=(strict es).1++lg->iL k es=o->Run c hl H (Y2++(strict es).1++lg) d vs (lK es) o (ah (n+f+1) dm [az c,.str (iC k),.tup (es.map En.t)] H)->Run c hl H (Y2++gL k es) d vs (lK es) (iL k es) (ah (n+(f+1)) dm [az c,.str (iC k),.tup (es.map En.t)] H):=fun e1 e2 r=>by
   rw[e1,e2,<-bZ];exact r
  have hO:iL k es=lZ es k:=by unfold iL;rw[hs]
  rcases (by exact k9 hk:k=0\/k=1\/k=2)with hk0|hk0|hk0
  ·subst hk0;exact fix (lg:=[]) (by unfold gL;rw[hs,bp];rfl) hO (by rw[bp];exact Pe hf h0 hn hes qj Q hv1 hfo)
  ·subst hk0;exact fix (by unfold gL;rw[hs];rfl) hO (EP hf h0 hn (fun x hx=>by
    obtain⟨e,he,rfl⟩:=eb.mp hx;obtain⟨h1,h2⟩:=(hes e he).2 (qj e he);rw[h1,hS];exact aN h2.2 (by decide)) SP Q hv1 hfo)
  ·subst hk0;exact fix (lg:=[]) (by unfold gL;rw[hs,bp];rfl) hO (by rw[bp];exact I7 hf h0 hn Q hv1 hfo)
 |bad H1 mf fP k1 L1 o1 hv1 hs K1 x1 hfo hex hk1=>
  have hL:gL k es=(strict es).1:=by unfold gL;rw[hs]
  have hO:iL k es=o1:=by unfold iL;rw[hs]
  rw[hL,hO];exact .exc H1 mf fP k1 (lL hs) (Pd hfo) hex hk1 K1 x1 hv1
end
theorem I8(hf:5<=f)(hk:k<3)(h0:es≠ [])(hn:es.length<=90)(hes:∀e∈es,e.R f av):kG cV (f+2) (lK es) av (.tup [.str (S "call"),.str (iC k),.tup (es.map En.t)]) (gL k es) (iL k es):=by
 intro n c hl H sp Y2 d vs hd K cX hv;obtain⟨k1,k2,k3,k4,k5⟩:=WU;refine(tJ hf hk h0 hn hes (n:=n) hd K cX hv).to (fun z hz=>?_) Ext.refl (ao _);rw[show n+(f+2)=n+(f+1)+1 from rfl,aD (by decide) rfl ⟨ao _,ao _⟩];refine aP ?_;show aR (bK (ah (n+(f+1))) [some (az c),some (.tup [.str (S "call"),.str (iC k),.tup (es.map En.t)]),none] H) _;unfold bK;refine aj kH ?_;simp only[jG];refine aj (jo k1) (aj (jo k2) (aj (jo k3) (aj (jo k4) (aj (jo k5) (nu ((s7 rfl rfl rfl).trans hz))))))
noncomputable def dC:Nat->Int×Str
 |0=>(0,S "0")
 |1=>(0,S "1")
 |2=>(0,S "5")
 |3=>(0,S "yes")
 |4=>(0,S "oFF")
 |5=>(0,S " 0x0 ")
 |6=>(0,S "-3")
 |7=>(0,S "n")
 |8=>(1,S "bad thing")
 |9=>(0,S "maybe")
 |10=>(3,S "")
 |11=>(2,S "5")
 |12=>(0,S "")
 |13=>(0,S "0")
 |14=>(0,S "1")
 |15=>(0,S "on")
 |16=>(0,S "f")
 |17=>(0,S "+7")
 |18=>(7,S "odd")
 |_=>(4,S "again")
def dV(j:Nat):MV:=.tup [.int (dC j).1,.str (dC j).2]
theorem ER{p:Nat->Prop}(h0:p 0)(h1:p 1)(h2:p 2)(h3:p 3)(h4:p 4)(h5:p 5)(h6:p 6)(h7:p 7)(h8:p 8)(h9:p 9)(h10:p 10)(h11:p 11)(h12:p 12)(h13:p 13)(h14:p 14)(h15:p 15)(h16:p 16)(h17:p 17)(h18:p 18)(h19:p 19):∀j,j<20->p j:=iI (iI (iI (iI (iI (iI (iI (iI (iI (iI (iI (iI (iI (iI (iI (iI (iI (iI (iI (iI Sp h0) h1) h2) h3) h4) h5) h6) h7) h8) h9) h10) h11) h12) h13) h14) h15) h16) h17) h18) h19
theorem AG:∃j,j<20/\ah (n+1) eI [.int q] H=some (.val (dV j) H)/\q.fmod 20=(j:Int):=by
 have h1:0<=q.fmod 20:=ml q (by decide);have h2:q.fmod 20<20:=jW q (by decide);obtain⟨j,hj⟩:∃j:Nat,q.fmod 20=j:=⟨(q.fmod 20).toNat,by exact uS h1⟩
 refine⟨j,UN (m:=20) hj (by decide),?_,hj⟩;have hm:(c2 gW (ae 0) (af (.int 20))) (ah n) [some (.int q)] H=some (.val (.int j) H):=by
  rw[<-hj];rfl
 rw[aD (by decide) rfl ⟨ao _,ao _⟩];refine aP ?_;show aR (lh (ah n) [some (.int q)] H) _;unfold lh;refine aL (L1:=[some (.int q)]) (aI ?_);refine(ba (x:=.tup [dV 0,dV 1,dV 2,dV 3,dV 4,dV 5,dV 6,dV 7,dV 8,dV 9,dV 10,dV 11,dV 12,dV 13,dV 14,dV 15,dV 16,dV 17,dV 18,dV 19]) (H1:=H) (by rfl') hm).trans ?_;refine ER (p:=fun j=>au (.tup [dV 0,dV 1,dV 2,dV 3,dV 4,dV 5,dV 6,dV 7,dV 8,dV 9,dV 10,dV 11,dV 12,dV 13,dV 14,dV 15,dV 16,dV 17,dV 18,dV 19]) (.int (j:Int)) H=some (Res.val (dV j) H)) ?_ ?_ ?_ ?_ ?_ ?_ ?_ ?_ ?_ ?_ ?_ ?_ ?_ ?_ ?_ ?_ ?_ ?_ ?_ ?_ j (by lia)<;>rfl'
theorem I9:∀j,j<20->(dC j).1=0->∃t:Tx,(dC j).2=tx t.l/\t.Ok 5:=by
 refine ER ?_ ?_ ?_ ?_ ?_ ?_ ?_ ?_ ?_ ?_ ?_ ?_ ?_ ?_ ?_ ?_ ?_ ?_ ?_ ?_<;>intro h
 ·exact⟨⟨_,_,_⟩,by ac_rfl,.num 0 [48] (by simp) rfl,by decide⟩
 ·exact⟨⟨_,_,_⟩,by ac_rfl,.num 0 [49] (by simp) rfl,by decide⟩
 ·exact⟨⟨_,_,_⟩,by ac_rfl,.num 0 [53] (by simp) rfl,by decide⟩
 ·exact⟨⟨_,_,_⟩,by ac_rfl,.word 0 (by decide),by decide⟩
 ·exact⟨⟨_,_,_⟩,by ac_rfl,.word 1 (by decide),by decide⟩
 ·exact⟨⟨_,_,_⟩,by ac_rfl,.word 2 (by decide),by decide⟩
 ·exact⟨⟨_,_,_⟩,by ac_rfl,.num 2 [51] (by simp) rfl,by decide⟩
 ·exact⟨⟨_,_,_⟩,by ac_rfl,.word 3 (by decide),by decide⟩
 ·exact absurd h (by decide)
 ·exact⟨⟨_,_,_⟩,by ac_rfl,.word 4 (by decide),by decide⟩
 ·exact absurd h (by decide)
 ·exact absurd h (by decide)
 ·exact⟨⟨_,_,_⟩,by ac_rfl,.word 5 (by decide),by decide⟩
 ·exact⟨⟨_,_,_⟩,by ac_rfl,.num 0 [48] (by simp) rfl,by decide⟩
 ·exact⟨⟨_,_,_⟩,by ac_rfl,.num 0 [49] (by simp) rfl,by decide⟩
 ·exact⟨⟨_,_,_⟩,by ac_rfl,.word 6 (by decide),by decide⟩
 ·exact⟨⟨_,_,_⟩,by ac_rfl,.word 7 (by decide),by decide⟩
 ·exact⟨⟨_,_,_⟩,by ac_rfl,.num 1 [55] (by simp) rfl,by decide⟩
 ·exact absurd h (by decide)
 ·exact absurd h (by decide)
theorem ES:∀j,j<20->(dC j).1=0->∃t:Tx,S "1"++(dC j).2=tx t.l/\t.Ok 6:=by
 refine ER ?_ ?_ ?_ ?_ ?_ ?_ ?_ ?_ ?_ ?_ ?_ ?_ ?_ ?_ ?_ ?_ ?_ ?_ ?_ ?_<;>intro h
 ·exact⟨⟨_,_,_⟩,by ac_rfl,.num 0 [49,48] (by simp) rfl,by decide⟩
 ·exact⟨⟨_,_,_⟩,by ac_rfl,.num 0 [49,49] (by simp) rfl,by decide⟩
 ·exact⟨⟨_,_,_⟩,by ac_rfl,.num 0 [49,53] (by simp) rfl,by decide⟩
 ·exact⟨⟨_,_,_⟩,by ac_rfl,.word 9 (by decide),by decide⟩
 ·exact⟨⟨_,_,_⟩,by ac_rfl,.word 10 (by decide),by decide⟩
 ·exact⟨⟨_,_,_⟩,by ac_rfl,.word 11 (by decide),by decide⟩
 ·exact⟨⟨_,_,_⟩,by ac_rfl,.word 12 (by decide),by decide⟩
 ·exact⟨⟨_,_,_⟩,by ac_rfl,.word 13 (by decide),by decide⟩
 ·exact absurd h (by decide)
 ·exact⟨⟨_,_,_⟩,by ac_rfl,.word 14 (by decide),by decide⟩
 ·exact absurd h (by decide)
 ·exact absurd h (by decide)
 ·exact⟨⟨_,_,_⟩,by ac_rfl,.num 0 [49] (by simp) rfl,by decide⟩
 ·exact⟨⟨_,_,_⟩,by ac_rfl,.num 0 [49,48] (by simp) rfl,by decide⟩
 ·exact⟨⟨_,_,_⟩,by ac_rfl,.num 0 [49,49] (by simp) rfl,by decide⟩
 ·exact⟨⟨_,_,_⟩,by ac_rfl,.word 15 (by decide),by decide⟩
 ·exact⟨⟨_,_,_⟩,by ac_rfl,.word 16 (by decide),by decide⟩
 ·exact⟨⟨_,_,_⟩,by ac_rfl,.word 17 (by decide),by decide⟩
 ·exact absurd h (by decide)
 ·exact absurd h (by decide)
theorem zg:∀j,j<20->(dC j).2.length<=100:=by
 refine ER ?_ ?_ ?_ ?_ ?_ ?_ ?_ ?_ ?_ ?_ ?_ ?_ ?_ ?_ ?_ ?_ ?_ ?_ ?_ ?_<;>ac_rfl
theorem BO{n:Nat}{XQ v:Str}{code:Int}{H:MH}:ah (n+2) l8 [.str XQ,.tup [.int code,.str v]] H=some (.val (aH XQ code v).mv H):=by
 rw[aD (by decide) rfl ⟨ao _,ao _⟩];refine aP ?_;show aR (fK (ah (n+1)) [some (.str XQ),some (.tup [.int code,.str v]),none,none] H) _;unfold fK;have heq:∀z:Int,(tE (c2 bQ (ae 2) (af (.int z)))) (ah (n+1)) [some (.str XQ),some (.tup [.int code,.str v]),some (.int code),some (.str v)] H=some (.val (code==z) H):=fun z=>rfl
 refine aj (L1:=[some (.str XQ),some (.tup [.int code,.str v]),some (.int code),some (.str v)]) (H1:=H) rfl ?_;by_cases h0:code=0
 ·have hb:(code==0)=true:=by simpa using h0
  unfold aH;rw[if_pos h0];exact aL (L1:=[some (.str XQ),some (.tup [.int code,.str v]),some (.int code),some (.str v)]) ((aB ((heq 0).trans (by rw[hb]))).trans (aE (aI ((bh rfl).trans cW))))
 ·have hb:(code==0)=false:=by simpa using h0
  unfold aH;rw[if_neg h0];refine aj ((aw ((heq 0).trans (by rw[hb]))).trans rfl) (aL (L1:=[some (.str XQ),some (.tup [.int code,.str v]),some (.int code),some (.str v)]) (aI ?_));refine(yJ (H1:=H) (H2:=H) (H3:=H) (H4:=H) (x:=.int code) (y:=.str v) (z:=.tup [.str (S "LAW"),.str XQ]) (u:=.int (if code=2 then 1 else 0)) rfl rfl (jE rfl rfl) ?_);unfold eL;rw[heq 2];by_cases h2:code=2
  ·have hb2:(code==2)=true:=by simpa using h2
   rw[hb2,if_pos h2];rfl
  ·have hb2:(code==2)=false:=by simpa using h2
   rw[hb2,if_neg h2];rfl
noncomputable def sx(XQ:Str)(j:Nat):Nat->List Part
 |2=> [.var (S "v")]
 |3=> [.text (S "1"),.var (S "w")]
 |4=> [.text (S "1"),.cmd XQ (dC j).1 (dC j).2]
 |5=> [.idx (S "a") XQ (dC j).1 (dC j).2]
 |_=> [.cmd XQ (dC j).1 (dC j).2]
def qk(o:Out):Out:=if o.code=0 then good (S "1"++o.val) else o
def nG(o:Out):Out:=if o.code=0 then cB (ig (S "a") o.val) else o
noncomputable def pe(XQ:Str)(j:Nat):Nat->Out
 |2=>good (S "1")
 |3=>wY (S "w")
 |4=>qk (aH XQ (dC j).1 (dC j).2)
 |5=>nG (aH XQ (dC j).1 (dC j).2)
 |_=>aH XQ (dC j).1 (dC j).2
noncomputable def zh(XQ:Str):Nat->List Str
 |2=> []
 |3=> []
 |_=> [XQ]
theorem SQ(a b:Str):a++S ""++b=a++b:=by
 have:S ""=Str.empty:=by ac_rfl
 rw[this,nk]
set_option tactic.hygienic true in
theorem iY{XQ v:Str}{code:Int}:(aH XQ code v).code=code:=by
 unfold aH
 split
 ·rename_i h;exact h.symm
 ·rfl
theorem xd:cB (S "v")=good (S "1"):=by unfold cB cA;rw[if_pos rfl]
theorem ET:cB (S "w")=wY (S "w"):=by
 unfold cB cA;rw[if_neg (by ac_rfl),if_neg (by ac_rfl),if_neg (by ac_rfl)]
theorem vj(p:Part):bF [p] []=(p.lg,p.out)\/(p.out.code=0/\bF [p] []=(p.lg,good p.out.val)):=by
 rw[jn];by_cases h:p.out.code=0
 ·rw[if_pos h]
  right
  refine⟨h,?_⟩;show(p.lg++[],good (dg (S "") [p.out.val]))=_;rw[bp];rfl
 ·rw[if_neg h];exact .inl rfl
theorem pf{XQ v:Str}{code:Int}(h:(aH XQ code v).code=0):good (aH XQ code v).val=aH XQ code v:=by
 rw[iY]at h;unfold aH;rw[if_pos h];rfl
theorem qM(h:(cB x).code=0):good (cB x).val=cB x:=by
 unfold cB at h ⊢;cases q:cA x with
 |some y=>rfl
 |none=>rw[q]at h;exact absurd h (by show(1:Int)≠0;decide)
theorem EU(XQ:Str)(j w:Nat)(h1:2<=w)(h2:w<=6):bF (sx XQ j w) []=(zh XQ w,pe XQ j w):=by
 have two:∀p:Part,bF [.text (S "1"),p] []=(p.lg,if p.out.code=0 then good (S "1"++p.out.val) else p.out):=fun p=>by
  rw[jn];rw[if_pos (show(Part.text (S "1")).out.code=0 from rfl)];show([]++(bF [p] [S "1"]).1,(bF [p] [S "1"]).2)=_;rw[jn];by_cases h:p.out.code=0
  ·rw[if_pos h,if_pos h];show(p.lg++[],good (S "1"++S ""++p.out.val))=_;rw[bp,SQ]
  ·rw[if_neg h,if_neg h];rfl
 rcases (by exact pZ h1 h2:w=2\/w=3\/w=4\/w=5\/w=6)with h|h|h|h|h<;>subst h
 ·rcases vj (.var (S "v"))with h|⟨c0,h⟩
  ·refine h.trans ?_;show([],cB (S "v"))=_;rw[xd];rfl
  ·refine h.trans ?_;show([],good (cB (S "v")).val)=_;rw[xd];rfl
 ·refine(two _).trans ?_;show([],if(cB (S "w")).code=0 then _ else cB (S "w"))=_;rw[ET,if_neg (by show(1:Int)≠0;decide)];rfl
 ·exact two _
 ·show bF [.idx (S "a") XQ (dC j).1 (dC j).2] []=([XQ],nG (aH XQ (dC j).1 (dC j).2));have ho:(Part.idx (S "a") XQ (dC j).1 (dC j).2).out=nG (aH XQ (dC j).1 (dC j).2):=by
   show(if(dC j).1=0 then cB (ig (S "a") (dC j).2) else aH XQ (dC j).1 (dC j).2)=_;unfold nG;rw[iY];by_cases h:(dC j).1=0
   ·rw[if_pos h,if_pos h];unfold aH;rw[if_pos h];rfl
   ·rw[if_neg h,if_neg h]
  rcases vj (.idx (S "a") XQ (dC j).1 (dC j).2)with h|⟨c0,h⟩
  ·rw[h,ho];rfl
  ·rw[h];rw[ho]at c0 ⊢;show([XQ],_)=_;unfold nG at c0 ⊢;by_cases q:(aH XQ (dC j).1 (dC j).2).code=0
   ·rw[if_pos q]at c0 ⊢;rw[qM c0]
   ·rw[if_neg q]at c0;exact absurd c0 q
 ·rcases vj (.cmd XQ (dC j).1 (dC j).2)with h|⟨c0,h⟩
  ·exact h
  ·refine h.trans ?_;show([XQ],good (aH XQ (dC j).1 (dC j).2).val)=_;rw[pf c0];rfl
noncomputable def jr(ec:MV):Prop:=∃ss:List Str,ec=.tup (ss.map MV.str)
theorem oq(XQ v:Str)(code:Int):jr (aH XQ code v).ec:=by
 unfold aH
 split
 ·exact⟨[],rfl⟩
 ·exact⟨[S "LAW",XQ],rfl⟩
theorem AH(x:Str):jr (wY x).ec:=⟨[S "TCL",S "LOOKUP",S "VARNAME",x],rfl⟩
theorem BP(x:Str):jr (cB x).ec:=by
 unfold cB;cases cA x with
 |some y=>exact⟨[],rfl⟩
 |none=>exact AH x
theorem EV:∃t:Tx,S "1"=tx t.l/\t.Ok 6:=⟨⟨_,_,_⟩,by ac_rfl,.num 0 [49] (by simp) rfl,by decide⟩
theorem Ia:∃t:Tx,S "0"=tx t.l/\t.Ok 6:=⟨⟨_,_,_⟩,by ac_rfl,.num 0 [48] (by simp) rfl,by decide⟩
theorem Pf:∃t:Tx,S "yes"=tx t.l/\t.Ok 6:=⟨⟨_,_,_⟩,by ac_rfl,.word 0 (by decide),by decide⟩
theorem Tx.Ok.le{t:Tx}{a b:Nat}(h:t.Ok a)(hab:a<=b):t.Ok b:=⟨h.1,aN h.2 hab⟩
theorem BQ(h:cA x=some y):∃t:Tx,y=tx t.l/\t.Ok 6:=by
 unfold cA at h
 split at h
 ·cases h;exact EV
 ·split at h
  ·cases h;exact Ia
  ·split at h
   ·cases h;exact Pf
   ·cases h
theorem BR(h:(cB x).code=0):∃t:Tx,(cB x).val=tx t.l/\t.Ok 6:=by
 unfold cB at h ⊢;cases q:cA x with
 |some y=>exact BQ q
 |none=>rw[q]at h;exact absurd h (by show(1:Int)≠0;decide)
theorem jS{XQ v:Str}{code:Int}:(aH XQ code v).val=v:=by
 unfold aH
 split<;>rfl
theorem AI(XQ:Str)(j w:Nat)(hj:j<20)(h1:2<=w)(h2:w<=6):((pe XQ j w).code=0->∃t:Tx,(pe XQ j w).val=tx t.l/\t.Ok 6)/\jr (pe XQ j w).ec:=by
 rcases (by exact pZ h1 h2:w=2\/w=3\/w=4\/w=5\/w=6)with h|h|h|h|h<;>subst h
 ·exact⟨fun _=>EV,⟨[],rfl⟩⟩
 ·exact⟨fun h=>absurd h (by show(1:Int)≠0;decide),AH _⟩
 ·show((qk (aH XQ (dC j).1 (dC j).2)).code=0->_)/\jr (qk (aH XQ (dC j).1 (dC j).2)).ec;show((qk (aH XQ (dC j).1 (dC j).2)).code=0->∃t:Tx,(qk (aH XQ (dC j).1 (dC j).2)).val=tx t.l/\t.Ok 6)/\_;unfold qk;by_cases q:(aH XQ (dC j).1 (dC j).2).code=0
  ·rw[if_pos q];rw[iY]at q;refine⟨fun _=>?_,⟨[],rfl⟩⟩
   show ∃t:Tx,S "1"++(aH XQ (dC j).1 (dC j).2).val=tx t.l/\t.Ok 6;rw[jS];exact ES j hj q
  ·rw[if_neg q];exact⟨fun h=>absurd h q,oq _ _ _⟩
 ·show((nG (aH XQ (dC j).1 (dC j).2)).code=0->∃t:Tx,(nG (aH XQ (dC j).1 (dC j).2)).val=tx t.l/\t.Ok 6)/\jr (nG (aH XQ (dC j).1 (dC j).2)).ec;unfold nG;by_cases q:(aH XQ (dC j).1 (dC j).2).code=0
  ·rw[if_pos q];exact⟨BR,BP _⟩
  ·rw[if_neg q];exact⟨fun h=>absurd h q,oq _ _ _⟩
 ·show((aH XQ (dC j).1 (dC j).2).code=0->∃t:Tx,(aH XQ (dC j).1 (dC j).2).val=tx t.l/\t.Ok 6)/\jr (aH XQ (dC j).1 (dC j).2).ec;refine⟨fun q=>?_,oq _ _ _⟩;rw[iY]at q;rw[jS];obtain⟨t,h1,h2⟩:=I9 j hj q;exact⟨t,h1,h2.le (by decide)⟩
theorem TurnOk.two(h:TurnOk 1 m d p):TurnOk 2 m d p:=by
 intro c hl H0 sp Y2 vs ms H q e T hm cX hv;have r:=h c hl H0 sp Y2 vs ms H q e T hm cX (by exact Mg hv);cases r with
 |val H' cE e hv c0 hr T=>exact .val H' cE e (Ds hv) c0 hr T
 |exc H' cE k L hv c0 hr hx hk T=>exact .exc H' cE k L (Ds hv) c0 hr hx hk T
theorem BS(hj:j<20)(h1:2<=w)(h2:w<=6)(hd:cG XQ d=some (dV j))(n:Nat):∀p∈sx XQ j w,TurnOk 2 (n+7) d p/\(p.out.code=0->p.out.val.length<=1000):=by
 have hv:=zg j hj;have q1:(S "1").length<=1000/\(S "v").length<=100/\(S "w").length<=100/\(S "a").length<=100:=by ac_rfl
 have one:∀p:Part,p.one=true->p.ok d->TurnOk 2 (n+7) d p/\(p.out.code=0->p.out.val.length<=1000):=fun p hp ho=>⟨(wZ (n:=n+1) hp ho).two,fun hc=>p.len ho hc⟩
 intro p hp;rcases (by exact pZ h1 h2:w=2\/w=3\/w=4\/w=5\/w=6)with h|h|h|h|h<;>subst h
 ·cases c8.mp hp;exact one _ rfl q1.2.1
 ·rcases bS.mp hp with rfl|hp
  ·exact one _ rfl q1.1
  ·cases c8.mp hp;exact one _ rfl q1.2.2.1
 ·rcases bS.mp hp with rfl|hp
  ·exact one _ rfl q1.1
  ·cases c8.mp hp;exact one _ rfl ⟨hd,hv⟩
 ·cases c8.mp hp;have ho:(Part.idx (S "a") XQ (dC j).1 (dC j).2).ok d:=⟨hd,hv,q1.2.2.2⟩
  exact⟨EB ho,fun hc=>Part.len ho hc⟩
 ·cases c8.mp hp;exact one _ rfl ⟨hd,hv⟩
def zi(ps:List Part):MV:=.tup [.str (S "parts"),.tup (ps.map Part.enc)]
theorem BU(hj:j<20)(h1:2<=w)(h2:w<=6)(hd:cG XQ d=some (dV j)):p9 9 4 0 d (zi (sx XQ j w)) (zh XQ w) (pe XQ j w):=by
 have hr:=EU XQ j w h1 h2;have XY:(sx XQ j w).length<=2:=by
  rcases (by exact pZ h1 h2:w=2\/w=3\/w=4\/w=5\/w=6)with h|h|h|h|h<;>subst h<;>exact bE rfl
 have h:=EJ (m:=7) (w:=2) (av:=d) (ps:=sx XQ j w) (fun d' hdd n=>BS hj h1 h2 (hdd _ _ hd) n) (by exact Mh XY) (by exact Mi XY);rw[hr]at h;exact j6 nq.2.2.1 (h.mono (ao _) (by exact Mj XY) (eQ.refl _))
theorem pg(h:lst o L H=some (.val xs H1))(hl:xs.length<=100):dy lst o L H=some (.val (.obj H1.length) (H1++[.list xs])):=by
 unfold dy;rw[h];show(if xs.length<=sizeLine then _ else _)=_;rw[if_pos (by rw[d9];exact cU hl rfl)]
noncomputable def Ent(H:MH)(r:Option (Res MV))(t:MV)(lg:List Str)(o:Out):Prop:=∃k H',r=some (.val (.tup [t,.obj k,o.mv]) H')/\Pre H H'/\H.length<=k/\H'[k]?=some (.list (lg.map MV.str))
theorem lM(ha:a o L H=some (.val t H))(hl:lst o L H=some (.val (lg.map MV.str) H))(hn:lg.length<=100)(hc:c o L (H++[.list (lg.map MV.str)])=some (.val Y3.mv H2))(hp:Pre (H++[.list (lg.map MV.str)]) H2):
  Ent H (aG (aa a (aa (dy lst) (aa c ai))) o L H) t lg Y3:=
 ⟨H.length,H2,mc ha (pg hl (by rw[bR];exact hn)) hc,(Pre.app _ _).trans hp,ao _,hp.get (bc _ _)⟩
noncomputable def UC:Nat->Str
 |0=>S "no"
 |1=>S "maybe"
 |_=>S "4"
theorem SR:∀r,r<3->∃t:Tx,UC r=tx t.l/\t.Ok 6:=by
 intro r hr;rcases (by exact k9 hr:r=0\/r=1\/r=2)with h|h|h<;>subst h
 ·exact⟨⟨_,_,_⟩,by ac_rfl,.word 8 (by decide),by decide⟩
 ·exact⟨⟨_,_,_⟩,by ac_rfl,.word 4 (by decide),by decide⟩
 ·exact⟨⟨_,_,_⟩,by ac_rfl,.num 0 [52] (by simp) rfl,by decide⟩
theorem zj:∀r,r<3->(jF ((r:Nat):Int)).length<=6:=by
 intro r hr;rcases (by exact k9 hr:r=0\/r=1\/r=2)with h|h|h<;>subst h<;>ac_rfl
section
variable{o:g8}{Y1 q w:Int}{XQ:Str}{H:MH}{a b c:Option MV}
theorem EW:(tE (c2 bQ (ae 3) (af (.int z)))) o [some (.int Y1),some (.int q),some (.str XQ),some (.int w),a,b,c] H=some (.val (w==z) H):=rfl
theorem cY(h:(w==z)=false):bN (tE (c2 bQ (ae 3) (af (.int z)))) A aq o [some (.int Y1),some (.int q),some (.str XQ),some (.int w),a,b,c] H=some (.next [some (.int Y1),some (.int q),some (.str XQ),some (.int w),a,b,c] H):=(aw (EW.trans (by rw[h]))).trans rfl
theorem kI(h:(w==z)=true):bN (tE (c2 bQ (ae 3) (af (.int z)))) A aq o [some (.int Y1),some (.int q),some (.str XQ),some (.int w),a,b,c] H=A o [some (.int Y1),some (.int q),some (.str XQ),some (.int w),a,b,c] H:=aB (EW.trans (by rw[h]))
theorem zk(hr:(q.fdiv 6).fmod 3=r):(c2 gW (c2 iz (ae 1) (af (.int 6))) (af (.int 3))) o [some (.int Y1),some (.int q),some (.str XQ),some (.int w),a,b,c] H=some (.val (.int r) H):=by
 rw[<-hr];rfl
theorem zl:(aO 3 (eL (tE (c2 bQ (ae 0) (af (.int 3)))) (c2 gW (ae 1) (af (.int 6))) (af (.int 6)))) o [some (.int Y1),some (.int q),some (.str XQ),none,none,none,none] H=some (.next [some (.int Y1),some (.int q),some (.str XQ),some (.int (if Y1=3 then q.fmod 6 else 6)),none,none,none] H):=by
 have ht:(tE (c2 bQ (ae 0) (af (.int 3)))) o [some (.int Y1),some (.int q),some (.str XQ),none,none,none,none] H=some (.val (Y1==3) H):=rfl;refine aJ ?_;unfold eL;rw[ht];by_cases h:Y1=3
 ·have:(Y1==3)=true:=by simpa using h
  rw[this,if_pos h];rfl
 ·have:(Y1==3)=false:=by simpa using h
  rw[this,if_neg h];rfl
end
structure AJ(XQ:Str)(j:Nat)(t:MV)(lg:List Str)(o:Out):Prop where
 D:∀d,cG XQ d=some (dV j)->p9 9 4 0 d t lg o
 T:o.code=0->∃t:Tx,o.val=tx t.l/\t.Ok 6
 ec:jr o.ec
 l:lg.length<=1
 g:o.code=0->o=good o.val
theorem BV(XQ:Str)(j w:Nat)(h1:2<=w)(h2:w<=6):(pe XQ j w).code=0->pe XQ j w=good (pe XQ j w).val:=by
 rcases (by exact pZ h1 h2:w=2\/w=3\/w=4\/w=5\/w=6)with h|h|h|h|h<;>subst h
 ·exact fun _=>rfl
 ·exact fun h=>absurd h (by show(1:Int)≠0;decide)
 ·show(qk (aH XQ (dC j).1 (dC j).2)).code=0->qk (aH XQ (dC j).1 (dC j).2)=good (qk (aH XQ (dC j).1 (dC j).2)).val;unfold qk;by_cases q:(aH XQ (dC j).1 (dC j).2).code=0
  ·rw[if_pos q];exact fun _=>rfl
  ·rw[if_neg q];exact fun h=>absurd h q
 ·show(nG (aH XQ (dC j).1 (dC j).2)).code=0->nG (aH XQ (dC j).1 (dC j).2)=good (nG (aH XQ (dC j).1 (dC j).2)).val;unfold nG;by_cases q:(aH XQ (dC j).1 (dC j).2).code=0
  ·rw[if_pos q];exact fun h=>(qM h).symm
  ·rw[if_neg q];exact fun h=>absurd h q
 ·exact fun h=>(pf h).symm
theorem ij(hj:j<20)(h1:2<=w)(h2:w<=6):AJ XQ j (zi (sx XQ j w)) (zh XQ w) (pe XQ j w):=
 ⟨fun d hd=>BU hj h1 h2 hd,(AI XQ j w hj h1 h2).1,(AI XQ j w hj h1 h2).2,by
  rcases (by exact pZ h1 h2:w=2\/w=3\/w=4\/w=5\/w=6)with h|h|h|h|h<;>subst h<;>exact bE rfl,BV XQ j w h1 h2⟩
theorem BW{XQ:Str}{j r:Nat}(hr:r<3):AJ XQ j (.tup [.str (S "num"),.int r]) [] (good (tx (jF r))):=
 ⟨fun d hd=>j6 nq.1 ((P9 (z:=r) (by
  rcases (by exact k9 hr:r=0\/r=1\/r=2)with h|h|h<;>subst h<;>exact cF (by decide) (eD (by decide) (show 1<=400 by decide)))).mono (by decide) (by decide) (eQ.refl _)),
  fun _=>⟨⟨_,_,_⟩,rfl,fV.int r,zj r hr⟩,⟨[],rfl⟩,by simp,fun _=>rfl⟩
theorem zm(hr:r<3):AJ XQ j (.tup [.str (S "text"),.str (UC r)]) [] (good (UC r)):=
 ⟨fun d hd=>j6 nq.2.1 (I2.mono (by decide) (by decide) (eQ.refl _)),fun _=>SR r hr,⟨[],rfl⟩,by simp,fun _=>rfl⟩
noncomputable def fz(H0:MH)(r:Option RS)(t:MV)(lg:List Str)(o:Out):Prop:=∃k H',aR r (.val (.tup [t,.obj k,o.mv]) H')/\Pre H0 H'/\H0.length<=k/\H'[k]?=some (.list (lg.map MV.str))
theorem lN(iB:ah (n+1) a XS H=dj nl b (ah n) XS H)(h:fz H (b (ah n) (XS.map some++List.replicate (nl-XS.length) none) H) t lg Y3):Ent H (ah (n+1) a XS H) t lg Y3:=by
 obtain⟨k,H',h1,h2⟩:=h;exact⟨k,H',by rw[iB];exact aP h1,h2⟩
theorem bw(h:a o L H=some (.next L1 H))(h2:fz H (b o L1 H) t lg Y3):fz H (ag a b o L H) t lg Y3:=by
 obtain⟨k,H',h1,h3⟩:=h2;exact⟨k,H',aj h h1,h3⟩
theorem mO(hA:A o L H=aK e o L1 H)(h:Ent H (e o L1 H) t lg Y3):fz H (ag A b o L H) t lg Y3:=by
 obtain⟨k,H',h1,h2⟩:=h;exact⟨k,H',aL (hA.trans (aI h1)),h2⟩
theorem Ib:∀j,j<20->cG (dC j).2 [(S "5",MV.str (S "0")),(S "1",MV.str (S "yes"))]=(cA (ig (S "a") (dC j).2)).map MV.str:=by
 refine ER ?_ ?_ ?_ ?_ ?_ ?_ ?_ ?_ ?_ ?_ ?_ ?_ ?_ ?_ ?_ ?_ ?_ ?_ ?_ ?_<;>rfl'
theorem BX(hp:Pre H H1)(hA:A o L H=aK e o L1 H1)(h:Ent H1 (e o L1 H1) t lg Y3):fz H (ag A b o L H) t lg Y3:=by
 obtain⟨k,H',h1,h2,h3,h4⟩:=h;exact⟨k,H',aL (hA.trans (aI h1)),hp.trans h2,aN hp.len h3,h4⟩
noncomputable def BY(Y1 q:Int)(XQ:Str)(w:Nat)(d f:Option MV):Loc:=[some (.int Y1),some (.int q),some (.str XQ),some (.int (w:Int)),none,d,f]
def Vo:CT:=tE (c2 bQ (c2 au (ae 5) (af (.int 0))) (af (.int 0)))
def Vp:CS:=bN Vo (aO 5 (ak (af (.fn (.ref aZ))) (aa (c2 bb (af (.str (S "1"))) (c2 au (ae 5) (af (.int 1)))) ai))) aq
def Wm:CE:=cM .dict nX (ef [(S "5"),(S "1")] (aa (af (.str (S "0"))) (aa (af (.str (S "yes"))) ai))) (aa (c2 au (ae 5) (af (.int 1))) ai)
def Wn:CE:=eL (tE (c1 bg (ae 6))) (ak (af (.fn (.ref hY))) (aa (c2 bb (c2 bb (af (.str (S "a("))) (c2 au (ae 5) (af (.int 1)))) (af (.str (S ")")))) ai)) (ak (af (.fn (.ref aZ))) (aa (ae 6) ai))
def Vq:CS:=bN Vo (ag (aO 6 Wm) (aO 5 Wn)) aq
section
variable{n j w:Nat}{Y1 q:Int}{XQ:Str}{H:MH}{f:Option MV}
theorem Ic{o:Out}{b:Bool}(hb:(o.code==0)=b):Vo (ah (n+3)) (BY Y1 q XQ w (some o.mv) f) H=some (.val b H):=by subst hb;rfl
theorem Pg{o:Out}{v:Str}(hv:o.val=v):(c2 au (ae 5) (af (.int 1))) (ah (n+3)) (BY Y1 q XQ w (some o.mv) f) H=some (.val (.str v) H):=by subst hv;rfl
theorem WX(hj:j<20):Vp (ah (n+3)) (BY Y1 q XQ w (some (aH XQ (dC j).1 (dC j).2).mv) none) H=some (.next (BY Y1 q XQ w (some (qk (aH XQ (dC j).1 (dC j).2)).mv) none) H):=by
 unfold qk;by_cases hc:(aH XQ (dC j).1 (dC j).2).code=0
 ·rw[if_pos hc];refine(aB (Ic (by simpa using hc))).trans (aJ ((bh (x:=.str (S "1"++(aH XQ (dC j).1 (dC j).2).val)) (H1:=H) (dw (H1:=H) rfl (Pg rfl) ?_)).trans cW));rw[jS];exact yB (zg j hj) tH.2.2.2.2.2.2.1
 ·rw[if_neg hc];exact(aw (Ic (by simpa using hc))).trans rfl
def SU(H:MH):MH:=H++[.dict [(S "5",.str (S "0")),(S "1",.str (S "yes"))]]
theorem Ph(hj:j<20)(hv:(aH XQ (dC j).1 (dC j).2).val=(dC j).2):Wm (ah (n+3)) (BY Y1 q XQ w (some (aH XQ (dC j).1 (dC j).2).mv) f) H=some (.val (((cA (ig (S "a") (dC j).2)).map MV.str).getD .none) (SU H)):=by
 refine(OI (H1:=SU H) (rC (xs:=[.str (S "0"),.str (S "yes")]) rfl rfl) (by unfold jD SU;dsimp only;rw[bc]) (Pg hv)).trans ?_;unfold nX SU;dsimp only;rw[bc];dsimp only;rw[Ib j hj]
theorem Pj(hj:j<20){o:Out}(hv:o.val=(dC j).2):Wn (ah (n+3)) (BY Y1 q XQ w (some o.mv) (some (((cA (ig (S "a") (dC j).2)).map MV.str).getD .none))) H=some (.val (cB (ig (S "a") (dC j).2)).mv H):=by
 have XY:=zg j hj;unfold cB;cases hq:cA (ig (S "a") (dC j).2)with
 |none=>
  have q2:(S "a(").length<=100/\(S ")").length<=100:=by ac_rfl
  have q3:ig (S "a") (dC j).2=S "a("++(dC j).2++S ")":=by
   unfold ig;rw[show S "a"++S "("=S "a(" by ac_rfl]
  refine(fU (H1:=H) rfl).trans ?_;rw[q3];exact(bh (dw (dw (H1:=H) rfl (Pg hv) (by exact Oj XY q2)) rfl (by rw[aS];exact Ol XY q2))).trans (sk (n:=n+1) (by rw[aS,aS];exact Om XY q2))
 |some y=>exact(eT (H1:=H) rfl).trans ((bh (x:=.str y) (H1:=H) rfl).trans cW)
theorem WY(hj:j<20):∃H1 f,Pre H H1/\Vq (ah (n+3)) (BY Y1 q XQ w (some (aH XQ (dC j).1 (dC j).2).mv) none) H=some (.next (BY Y1 q XQ w (some (nG (aH XQ (dC j).1 (dC j).2)).mv) f) H1):=by
 unfold nG;by_cases hc:(aH XQ (dC j).1 (dC j).2).code=0
 ·rw[if_pos hc];have hv:(aH XQ (dC j).1 (dC j).2).val=(dC j).2:=jS;refine⟨SU H,some (((cA (ig (S "a") (dC j).2)).map MV.str).getD .none),Pre.app _ _,(aB (Ic (by simpa using hc))).trans ((aF (aJ (Ph hj hv))).trans ?_)⟩;rw[hv];exact aJ (Pj hj hv)
 ·rw[if_neg hc];exact⟨H,none,Pre.refl _,(aw (Ic (by simpa using hc))).trans rfl⟩
end
theorem xe{n j:Nat}{Y1 q:Int}{XQ:Str}{H:MH}(hj:j<20)(hn:XQ.length<=100)(hm:ah (n+3) eI [.int (if Y1=3 then q.fdiv 6 else q)] H=some (.val (dV j) H)):∃t lg o,AJ XQ j t lg o/\Ent H (ah (n+4) ji [.int Y1,.int q,.str XQ] H) t lg o:=by
 obtain⟨r,hr,hr3⟩:∃r:Nat,(q.fdiv 6).fmod 3=r/\r<3:=by
  have h1:=ml (q.fdiv 6) (show(0:Int)<3 by decide);have h2:=jW (q.fdiv 6) (show(0:Int)<3 by decide);exact⟨((q.fdiv 6).fmod 3).toNat,by exact uS h1,UM (m:=3) (by decide)⟩
 obtain⟨w,hw,hw6⟩:∃w:Nat,(if Y1=3 then q.fmod 6 else 6)=(w:Int)/\w<=6:=by
  have h1:=ml q (show(0:Int)<6 by decide);have h2:=jW q (show(0:Int)<6 by decide)
  split
  ·exact⟨(q.fmod 6).toNat,uS h1,k7 (UM (m:=6) (by decide))⟩
  ·exact⟨6,rfl,by decide⟩
 have hwh:=zl (o:=ah (n+3)) (Y1:=Y1) (q:=q) (XQ:=XQ) (H:=H);rw[hw]at hwh;have iB:ah (n+4) ji [.int Y1,.int q,.str XQ] H=dj 7 bO (ah (n+3)) [.int Y1,.int q,.str XQ] H:=by rw[aD (by decide) rfl ⟨ao _,ao _⟩];rfl
 rcases (by exact Mm:w=0\/w=1\/w=2\/w=3\/4<=w)with h|h|h|h|h
 ·subst h;refine⟨_,_,_,BW hr3,lN iB ?_⟩;show fz H (bO (ah (n+3)) [some (.int Y1),some (.int q),some (.str XQ),none,none,none,none] H) _ _ _;unfold bO;simp only[jG];refine bw hwh (mO (kI rfl) (lM (lg:=[]) (jE rfl (zk hr)) rfl (by decide) ((bh (d0 (zk hr) (str_int ?_))).trans cW) (Pre.refl _)));exact cF (show(r:Int).natAbs<10^1 from(Nat.lt_trans (UN (m:=3) hr (by decide)) (by decide):r<10^1)) (eD (by decide) (show 1<=400 by decide))
 ·subst h;refine⟨_,_,_,zm hr3,lN iB ?_⟩;show fz H (bO (ah (n+3)) [some (.int Y1),some (.int q),some (.str XQ),none,none,none,none] H) _ _ _;unfold bO;simp only[jG];have h4:(c2 au (aG (aa (af (.str (S "no"))) (aa (af (.str (S "maybe"))) (aa (af (.str (S "4"))) ai)))) (c2 gW (c2 iz (ae 1) (af (.int 6))) (af (.int 3)))) (ah (n+3)) [some (.int Y1),some (.int q),some (.str XQ),some (.int ((1:Nat):Int)),none,none,none] H=some (.val (.str (UC r)) H):=by
   refine(ba (mc (H1:=H) (H2:=H) (H3:=H) rfl rfl rfl) (zk hr)).trans ?_;rcases (k9 (UN (m:=3) hr (by decide)):r=0\/r=1\/r=2)with h|h|h<;>subst h<;>rfl
  refine bw hwh (bw (cY rfl) (mO ((kI rfl).trans (aF (aJ h4))) (lM (lg:=[]) (jE (H1:=H) rfl rfl) rfl (by decide) ((bh rfl).trans cW) (Pre.refl _))))
 ·subst h;refine⟨_,_,_,ij (w:=2) hj (by decide) (by decide),lN iB ?_⟩;show fz H (bO (ah (n+3)) [some (.int Y1),some (.int q),some (.str XQ),none,none,none,none] H) _ _ _;unfold bO;simp only[jG];refine bw hwh (bw (cY rfl) (bw (cY rfl) (mO (kI rfl) (lM (lg:=[]) (by rfl') rfl (by decide) ((bh rfl).trans cW) (Pre.refl _)))))
 ·subst h;refine⟨_,_,_,ij (w:=3) hj (by decide) (by decide),lN iB ?_⟩;show fz H (bO (ah (n+3)) [some (.int Y1),some (.int q),some (.str XQ),none,none,none,none] H) _ _ _;unfold bO;simp only[jG];refine bw hwh (bw (cY rfl) (bw (cY rfl) (bw (cY rfl) (mO (kI rfl) (lM (lg:=[]) (by rfl') rfl (by decide) ((bh rfl).trans (sk (n:=n+1) (by ac_rfl))) (Pre.refl _))))))
 ·have hif:(eL (tE (c2 bQ (ae 0) (af (.int 3)))) (c2 iz (ae 1) (af (.int 6))) (ae 1)) (ah (n+3)) (BY Y1 q XQ w none none) H=some (.val (.int (if Y1=3 then q.fdiv 6 else q)) H):=by
   have ht:(tE (c2 bQ (ae 0) (af (.int 3)))) (ah (n+3)) (BY Y1 q XQ w none none) H=some (.val (Y1==3) H):=rfl;unfold eL;rw[ht];by_cases h:Y1=3
   ·have:(Y1==3)=true:=by simpa using h
    rw[this,if_pos h];rfl
   ·have:(Y1==3)=false:=by simpa using h
    rw[this,if_neg h];rfl
  have h5:(aO 5 (ak (af (.fn (.ref l8))) (aa (ae 2) (aa (ak (af (.fn (.ref eI))) (aa (eL (tE (c2 bQ (ae 0) (af (.int 3)))) (c2 iz (ae 1) (af (.int 6))) (ae 1)) ai)) ai)))) (ah (n+3)) (BY Y1 q XQ w none none) H=some (.next (BY Y1 q XQ w (some (aH XQ (dC j).1 (dC j).2).mv) none) H):=
   aJ ((call2 (H1:=H) rfl ((bh hif).trans hm)).trans (BO (n:=n+1)))
  have BZ:(aa (ae 2) ai) (ah (n+3)) (BY Y1 q XQ w (some (aH XQ (dC j).1 (dC j).2).mv) none) H=some (.val ([XQ].map MV.str) H):=rfl;rcases (by exact Mo hw6 h:w=4\/w=5\/w=6)with h|h|h
  ·subst h;refine⟨_,_,_,ij (w:=4) hj (by decide) (by decide),lN iB ?_⟩;show fz H (bO (ah (n+3)) [some (.int Y1),some (.int q),some (.str XQ),none,none,none,none] H) _ _ _;unfold bO;simp only[jG];refine bw hwh (bw (cY rfl) (bw (cY rfl) (bw (cY rfl) (bw (cY rfl) (bw h5 (mO ((kI rfl).trans (aF (WX hj))) (lM (lg:=[XQ]) (Y3:=qk (aH XQ (dC j).1 (dC j).2)) (by rfl') rfl (by simp) rfl (Pre.refl _))))))))
  ·subst h;refine⟨_,_,_,ij (w:=5) hj (by decide) (by decide),lN iB ?_⟩;show fz H (bO (ah (n+3)) [some (.int Y1),some (.int q),some (.str XQ),none,none,none,none] H) _ _ _;unfold bO;simp only[jG];obtain⟨H1,f,hp,h6⟩:=WY (n:=n) (w:=5) (Y1:=Y1) (q:=q) (XQ:=XQ) (H:=H) hj;refine bw hwh (bw (cY rfl) (bw (cY rfl) (bw (cY rfl) (bw (cY rfl) (bw h5 (bw (cY rfl) (BX hp ((kI rfl).trans (aF h6)) (lM (lg:=[XQ]) (Y3:=nG (aH XQ (dC j).1 (dC j).2)) (by rfl') rfl (by simp) rfl (Pre.refl _)))))))))
  ·subst h;refine⟨_,_,_,ij (w:=6) hj (by decide) (by decide),lN iB ?_⟩;show fz H (bO (ah (n+3)) [some (.int Y1),some (.int q),some (.str XQ),none,none,none,none] H) _ _ _;unfold bO;simp only[jG];refine bw hwh (bw (cY rfl) (bw (cY rfl) (bw (cY rfl) (bw (cY rfl) (bw h5 (bw (cY rfl) (bw (cY rfl) ?_)))))));obtain⟨k,H',e1,e2⟩:=lM (lg:=[XQ]) (Y3:=aH XQ (dC j).1 (dC j).2) (t:=zi (sx XQ j 6)) (a:=aG (aa (af (.str (S "parts"))) (aa (aG (aa (aG (aa (af (.str (S "cmd"))) (aa (ae 2) ai))) ai)) ai))) (c:=ae 5) (by rfl') BZ (by simp) rfl (Pre.refl _);exact⟨k,H',nu e1,e2⟩
structure It where
 t:MV
 k:Nat
 lg:List Str
 o:Out
 x:Tx
 z:Nat
noncomputable def It.mv(i:It):MV:=.tup [i.t,.obj i.k,i.o.mv]
structure It.ou(i:It)(d:List (Str×MV)):Prop where
 D:∃s,s<=i.z/\p9 (9+3*i.z) (4*i.z) s d i.t i.lg i.o
 T:i.o.code=0->i.o=good (tx i.x.l)/\i.x.Ok (10*i.z)
 ec:jr i.o.ec
 l:i.lg.length<=i.z
noncomputable def It.At(i:It)(H:MH):Prop:=H[i.k]?=some (.list (i.lg.map MV.str))
noncomputable def It.en(i:It):En:=⟨i.t,i.lg,i.o,i.x,4*i.z,0⟩
noncomputable def dH:Option Out->MV
 |none=>.none
 |some o=>o.mv
theorem mP(h1:H[j]?=some (.list a))(h2:H[k]?=some (.list b))(h:a.length+b.length<=1000000):bb (.obj j) (.obj k) H=some (.val (.obj H.length) (H++[.list (a++b)])):=by
 unfold bb;dsimp only;rw[h1,h2];dsimp only;rw[if_pos (by rw[d9];exact yq h rfl)]
theorem zo:∀(r:List En) (m:Nat),(∀e∈r,e.lg.length<=m)->(strict r).1.length<=r.length*m:=by
 intro r m
 induction r with
 |nil=>intro _;exact eW _
 |cons e r ih=>
  intro h;have h1:=h e (.head _);have h2:=ih fun x hx=>h x (.tail _ hx)
  by_cases q:e.o.code=0
  ·rw[bz q,bJ,bo,Nat.succ_mul];exact Mq h1 h2
  ·rw[bP q,bo,Nat.succ_mul];show e.lg.length<=_;exact Mr h1
theorem xf{o:g8}{ke:Nat}{bl:List It}{H0:MH}(hk:H0[ke]?=some (.list (bl.map It.mv)))(ha:∀i∈bl,i.At H0)(hlg:∀i∈bl,i.lg.length<=1000):∀(r:List It) (i:Nat) (H:MH) (kl:Nat) (pre:List Str) (a b c:Option MV) (N:Nat),bl.drop i=r->r.length<N->Pre H0 H->H0.length<=kl->H[kl]?=some (.list (pre.map MV.str))->pre.length+1000*r.length<=100000->
  ∃H' R4,Pre H0 H'/\H0.length<=R4/\H'[R4]?=some (.list ((pre++(strict (r.map It.en)).1).map MV.str))/\
  (match (strict (r.map It.en)).2 with
   |none=>∃a' b' c',ei (iP [2,3,4]) cv N (.lst ke i) o [some (.obj ke),some (.obj kl),a,b,c] H=some (.next [some (.obj ke),some (.obj R4),a',b',c'] H')
   |some f=>∃L,ei (iP [2,3,4]) cv N (.lst ke i) o [some (.obj ke),some (.obj kl),a,b,c] H=some (.ret (.tup [.obj R4,f.mv]) L H')):=by
 intro r
 induction r with
 |nil=>
  intro i H kl pre a b c N hr hN hp hkl hl hb;obtain⟨N,rfl⟩:∃M,N=M+1:=⟨N-1,by simp at hN;exact nE hN⟩
  refine⟨H,kl,hp,hkl,?_,a,b,c,?_⟩
  ·show H[kl]?=some (.list ((pre++[]).map MV.str));rw[bp];exact hl
  ·rw[fO (by rw[eP (hp.get hk),dP,jV (by have:=aY List.length hr;simp at this;exact nV this)];rfl)]
 |cons t r ih=>
  intro i H kl pre a b c N hr hN hp hkl hl hb;obtain⟨N,rfl⟩:∃M,N=M+1:=⟨N-1,by simp at hN;exact pX hN⟩
  have hgt:bl[i]?=some t:=by have:=aY (·[0]?) hr;simpa using this
  have hr':bl.drop (i+1)=r:=by rw[<-jZ,hr];rfl
  have hm:=d8 hgt;have h1:=hlg t hm;simp only[bo]at hN hb;rw[dz (x:=t.mv) (gX:=.lst ke (i+1)) (L1:=[some (.obj ke),some (.obj kl),some t.t,some (.obj t.k),some t.o.mv]) (by rw[eP (hp.get hk),dP,hgt];rfl) rfl];have tC:bb (.obj kl) (.obj t.k) H=some (.val (.obj H.length) (H++[.list ((pre++t.lg).map MV.str)])):=by
   rw[mP hl (hp.get (ha t hm)) (by rw[bR,bR];exact Ms hb h1 rfl rfl),fk]
  have s1:(aO 1 (c2 bb (ae 1) (ae 3))) o [some (.obj ke),some (.obj kl),some t.t,some (.obj t.k),some t.o.mv] H=some (.next [some (.obj ke),some (.obj H.length),some t.t,some (.obj t.k),some t.o.mv] (H++[.list ((pre++t.lg).map MV.str)])):=aJ ((ba rfl rfl).trans tC);have hc:∀H',(tE (c2 we (c2 au (ae 4) (af (.int 0))) (af (.int 0)))) o [some (.obj ke),some (.obj H.length),some t.t,some (.obj t.k),some t.o.mv] H'=some (.val (t.o.code !=0) H'):=fun H'=>rfl
  have hp':Pre H0 (H++[.list ((pre++t.lg).map MV.str)]):=hp.trans (Pre.app _ _);rw[cT];by_cases q:t.o.code=0
  ·have hq:(t.o.code !=0)=false:=by simpa using q
   have hb1:cv o [some (.obj ke),some (.obj kl),some t.t,some (.obj t.k),some t.o.mv] H=some (.next [some (.obj ke),some (.obj H.length),some t.t,some (.obj t.k),some t.o.mv] (H++[.list ((pre++t.lg).map MV.str)])):=by
    unfold cv;rw[aF s1,aF ((aw ((hc _).trans (by rw[hq]))).trans rfl)];rfl
   rw[hb1,bz (e:=t.en) q];obtain⟨H',R4,q1,q2,q3,q4⟩:=ih (i+1) _ H.length (pre++t.lg) (some t.t) (some (.obj t.k)) (some t.o.mv) N hr' (by exact jI hN) hp' hp.len (bc _ _) (by rw[bJ];exact Mt hb h1);refine⟨H',R4,q1,q2,?_,q4⟩;rw[bZ]at q3;exact q3
  ·have hq:(t.o.code !=0)=true:=by simpa using q
   have hb1:cv o [some (.obj ke),some (.obj kl),some t.t,some (.obj t.k),some t.o.mv] H=some (.ret (.tup [.obj H.length,t.o.mv]) [some (.obj ke),some (.obj H.length),some t.t,some (.obj t.k),some t.o.mv] (H++[.list ((pre++t.lg).map MV.str)])):=by
    unfold cv;rw[aF s1];exact aE ((aB ((hc _).trans (by rw[hq]))).trans (aE (aI (jE rfl rfl))))
   rw[hb1,bP (e:=t.en) q];exact⟨_,H.length,hp',hp.len,bc _ _,_,rfl⟩
theorem vk(h:H[k]?=some (.list xs)):srcOf (.obj k) H=some (.lst k 0):=by unfold srcOf;dsimp only;rw[h]
theorem tK{n ke:Nat}{bl:List It}{H:MH}(hk:H[ke]?=some (.list (bl.map It.mv)))(ha:∀i∈bl,i.At H)(hlg:∀i∈bl,i.lg.length<=1000)(hn:bl.length<=50):∃k H',ah (n+1) iQ [.obj ke] H=some (.val (.tup [.obj k,dH (strict (bl.map It.en)).2]) H')/\Pre H H'/\H.length<=k/\H'[k]?=some (.list ((strict (bl.map It.en)).1.map MV.str)):=by
 obtain⟨H',kl,p1,p2,p3,p4⟩:=xf (o:=ah n) hk ha hlg bl 0 (H++[.list []]) H.length [] none none none many rfl (by unfold many;exact ku hn rfl) (Pre.app _ _) (ao _) (bc _ _) (by rw[cS];exact Mu hn);rw[jb]at p3;have s1:(aO 1 (dy ai)) (ah n) [some (.obj ke),none,none,none,none] H=some (.next [some (.obj ke),some (.obj H.length),none,none,none] (H++[.list []])):=aJ (pg (xs:=[]) rfl (by decide));have s2:(ic (iP [2,3,4]) (ae 0) cv) (ah n) [some (.obj ke),some (.obj H.length),none,none,none] (H++[.list []])=ei (iP [2,3,4]) cv many (.lst ke 0) (ah n) [some (.obj ke),some (.obj H.length),none,none,none] (H++[.list []]):=by
  simp only[ic,aW,ae,eM,vk ((Pre.app H [.list []]).get hk)]
 rw[aD (by decide) rfl ⟨ao _,ao _⟩];refine⟨kl,H',aP ?_,p1,p2,p3⟩;show aR (fL (ah n) [some (.obj ke),none,none,none,none] H) _;unfold fL;refine aj s1 ?_;cases hs:(strict (bl.map It.en)).2 with
 |none=>
  rw[hs]at p4;obtain⟨a',b',c',p4⟩:=p4;exact aj (s2.trans p4) (aL (L1:=[some (.obj ke),some (.obj kl),a',b',c']) (aI (jE rfl rfl)))
 |some f=>
  rw[hs]at p4;obtain⟨L,p4⟩:=p4;exact aL (s2.trans p4)
section
variable{o:g8}{L:Loc}{H:MH}{ke i:Nat}{it:It}{xs:List MV}
theorem vl(hL:L[1]?=some (some (.obj ke)))(hk:H[ke]?=some (.list xs))(hi:xs[i]?=some it.mv):(c2 au (ae 1) (af (.int (i:Nat)))) o L H=some (.val it.mv H):=by
 refine(ba (x:=.obj ke) (y:=.int (i:Nat)) (H1:=H) (H2:=H) ?_ rfl).trans (nv hk hi);unfold ae;rw[hL]
theorem zp(hL:L[1]?=some (some (.obj ke)))(hk:H[ke]?=some (.list xs))(hi:xs[i]?=some it.mv):(c2 au (c2 au (ae 1) (af (.int (i:Nat)))) (af (.int 1))) o L H=some (.val (.obj it.k) H):=
 (ba (vl hL hk hi) rfl).trans rfl
theorem vm(hL:L[1]?=some (some (.obj ke)))(hk:H[ke]?=some (.list xs))(hi:xs[i]?=some it.mv):(c2 au (c2 au (ae 1) (af (.int (i:Nat)))) (af (.int 2))) o L H=some (.val it.o.mv H):=
 (ba (vl hL hk hi) rfl).trans rfl
end
noncomputable def EX(H:MH)(r:Option (Res MV))(ks:List Nat)(lg:List Str)(o:Out):Prop:=∃k H',r=some (.val (.tup [.obj k,o.mv]) H')/\Pre H H'/\(k∈ks\/H.length<=k)/\H'[k]?=some (.list (lg.map MV.str))
noncomputable def ql(H:MH)(r:Option RS)(ks:List Nat)(lg:List Str)(o:Out):Prop:=∃k H',aR r (.val (.tup [.obj k,o.mv]) H')/\Pre H H'/\(k∈ks\/H.length<=k)/\H'[k]?=some (.list (lg.map MV.str))
theorem le_next(h:a o L H=some (.next L1 H1))(h2:ql H0 (b o L1 H1) ks lg Y3):ql H0 (ag a b o L H) ks lg Y3:=by
 obtain⟨k,H',h3,h4⟩:=h2;exact⟨k,H',aj h h3,h4⟩
theorem lO(h:a o L H=some (.ret (.tup [.obj k,Y3.mv]) L1 H'))(h1:Pre H0 H')(h2:k∈ks\/H0.length<=k)(h3:H'[k]?=some (.list (lg.map MV.str))):ql H0 (ag a b o L H) ks lg Y3:=
 ⟨k,H',aL h,h1,h2,h3⟩
theorem xg{n ke:Nat}{a:It}{H:MH}{Y1:Int}{x4 x5 x6:Option MV}{J:MH}{l:List Nat}{b:Option Bool}(hv:a.o.val=tx l)(hJ:ah (n+2) gj [.str (tx l)] H=some (.val (uc b) (H++J))):
  (ak (af (.fn (.ref gj))) (aa (c2 au (ae 3) (af (.int 1))) ai)) (ah (n+2)) [some (.int Y1),some (.obj ke),some (.obj a.k),some a.o.mv,x4,x5,x6] H=some (.val (uc b) (H++J)):=by
 rw[<-hv]at hJ;exact(bh (H1:=H) (x:=.str a.o.val) rfl).trans hJ
theorem Wo(or:Bool)(H:MH):bQ (.int (if or then 5 else 4)) (.int 6) H=some (.val (.bool false) H)/\bQ (.int (if or then 5 else 4)) (.int 5) H=some (.val (.bool or) H):=by
 cases or<;>exact⟨rfl,rfl⟩
theorem qN{n ke:Nat}{a b:It}{or:Bool}{H:MH}(hk:H[ke]?=some (.list [a.mv,b.mv]))(ha:a.At H)(hb:b.At H)(h1:a.lg.length<=1000)(h2:b.lg.length<=1000)(ta:a.o.code=0->a.o.val=tx a.x.l/\a.x.Ok 390)(tb:b.o.code=0->b.o.val=tx b.x.l/\b.x.Ok 390):
  EX H (ah (n+3) fq [.int (if or then 5 else 4),.obj ke] H) [a.k,b.k] (qi or a.o a.x a.lg b.lg) (sr or a.o b.o a.x b.x):=by
 rw[aD (by decide) rfl ⟨ao _,ao _⟩]
 suffices hs:ql H (gp (ah (n+2)) [some (.int (if or then 5 else 4)),some (.obj ke),none,none,none,none,none] H) [a.k,b.k] (qi or a.o a.x a.lg b.lg) (sr or a.o b.o a.x b.x) by
  obtain⟨k,H',e1,e2⟩:=hs;exact⟨k,H',aP e1,e2⟩
 unfold gp;refine le_next (aJ (zp (i:=0) (it:=a) rfl hk rfl)) ?_;refine le_next (aJ (vm (i:=0) (it:=a) rfl hk rfl)) ?_;have hc:(tE (c2 we (c2 au (ae 3) (af (.int 0))) (af (.int 0)))) (ah (n+2)) [some (.int (if or then 5 else 4)),some (.obj ke),some (.obj a.k),some a.o.mv,none,none,none] H=some (.val (a.o.code !=0) H):=rfl;by_cases q:a.o.code=0
 ·have hq:(a.o.code !=0)=false:=by simpa using q
  obtain⟨hv,hok,hl⟩:=ta q;refine le_next (L1:=[some (.int (if or then 5 else 4)),some (.obj ke),some (.obj a.k),some a.o.mv,none,none,none]) (H1:=H) ((aw (hc.trans (by rw[hq]))).trans rfl) ?_;obtain⟨J,hJ⟩:=hok.kB (by exact cU hl rfl) (n:=n) (H:=H);refine le_next (L1:=[some (.int (if or then 5 else 4)),some (.obj ke),some (.obj a.k),some a.o.mv,some (uc a.x.b),none,none]) (H1:=H++J) (aJ (xg hv hJ)) ?_;have p1:Pre H (H++J):=Pre.app _ _
  (generalize H++J=H1 at p1;revert H1;refine gA ?_;intros)
  have hlg:qi or a.o a.x a.lg b.lg=(match a.x.b with
   |none=>a.lg
   |some c=>if c=or then a.lg else a.lg++b.lg):=if_pos q
  have hlo:sr or a.o b.o a.x b.x=(match a.x.b with
   |none=>lY (tx a.x.l)
   |some c=>if c=or then good (tx (wN c)) else dU b.o (match b.x.b with
    |none=>lY (tx b.x.l)
    |some d=>good (tx (wN d)))):=if_pos q
  rw[hlg,hlo];have hk1:=p1.get hk;have ha1:H1[a.k]?=_:=p1.get ha;have hb1:H1[b.k]?=_:=p1.get hb;cases hxb:a.x.b with
  |none=>
   refine lO (k:=a.k) (H':=H1) (L1:=[some (.int (if or then 5 else 4)),some (.obj ke),some (.obj a.k),some a.o.mv,some .none,none,none]) ((aB (H1:=H1) rfl).trans (aE (aI (jE (H1:=H1) rfl ?_)))) p1 (.inl (by simp)) ha1;refine(bh (H1:=H1) (x:=.str a.o.val) rfl).trans ?_;rw[hv];exact mH (by exact cU hl rfl)
  |some c=>
   refine le_next (L1:=[some (.int (if or then 5 else 4)),some (.obj ke),some (.obj a.k),some a.o.mv,some (.bool c),none,none]) (H1:=H1) ((aw (H1:=H1) rfl).trans rfl) ?_;refine le_next (L1:=[some (.int (if or then 5 else 4)),some (.obj ke),some (.obj a.k),some a.o.mv,some (.bool c),none,none]) (H1:=H1) ((aw (H1:=H1) ?_).trans rfl) ?_
   ·unfold tE;rw[show(c2 bQ (ae 0) (af (.int 6))) (ah (n+2)) [some (.int (if or then 5 else 4)),some (.obj ke),some (.obj a.k),some a.o.mv,some (.bool c),none,none] H1=some (.val (.bool false) H1) from(ba rfl rfl).trans (Wo or H1).1];rfl
   have hq5:(tE (c2 bQ (ae 4) (c2 bQ (ae 0) (af (.int 5))))) (ah (n+2)) [some (.int (if or then 5 else 4)),some (.obj ke),some (.obj a.k),some a.o.mv,some (.bool c),none,none] H1=some (.val (c==or) H1):=by
    unfold tE;rw[show(c2 bQ (ae 4) (c2 bQ (ae 0) (af (.int 5)))) (ah (n+2)) [some (.int (if or then 5 else 4)),some (.obj ke),some (.obj a.k),some a.o.mv,some (.bool c),none,none] H1=some (.val (.bool (c==or)) H1) from(ba (x:=.bool c) (y:=.bool or) (H1:=H1) rfl ((ba rfl rfl).trans (Wo or H1).2)).trans rfl];rfl
   dsimp only;by_cases hco:c=or
   ·have hb':(c==or)=true:=by simpa using hco
    rw[if_pos hco,if_pos hco];refine lO (k:=a.k) (H':=H1) (L1:=[some (.int (if or then 5 else 4)),some (.obj ke),some (.obj a.k),some a.o.mv,some (.bool c),none,none]) ((aB (hq5.trans (by rw[hb']))).trans (aE (aI (jE (H1:=H1) rfl ?_)))) p1 (.inl (by simp)) ha1;rw[<-oY];cases c<;>exact(bh (H1:=H1) rfl).trans cW
   ·have hb':(c==or)=false:=by simpa using hco
    rw[if_neg hco,if_neg hco];refine le_next (L1:=[some (.int (if or then 5 else 4)),some (.obj ke),some (.obj a.k),some a.o.mv,some (.bool c),none,none]) (H1:=H1) ((aw (hq5.trans (by rw[hb']))).trans rfl) ?_;have tC:bb (.obj a.k) (.obj b.k) H1=some (.val (.obj H1.length) (H1++[.list ((a.lg++b.lg).map MV.str)])):=by
     rw[mP ha1 hb1 (by rw[bR,bR];exact Dt h1 h2),fk]
    refine le_next (L1:=[some (.int (if or then 5 else 4)),some (.obj ke),some (.obj H1.length),some a.o.mv,some (.bool c),none,none]) (H1:=H1++[.list ((a.lg++b.lg).map MV.str)]) (aJ ((ba rfl (zp (i:=1) (it:=b) rfl hk1 rfl)).trans tC)) ?_;have p2:Pre H (H1++[.list ((a.lg++b.lg).map MV.str)]):=p1.trans (Pre.app _ _);have Ie:(H1++[MO.list ((a.lg++b.lg).map MV.str)])[H1.length]?=some (.list ((a.lg++b.lg).map MV.str)):=bc _ _;have XY:=p1.len
    (generalize H1.length=kn at Ie XY;revert kn;refine gA ?_;intros)
    (generalize H1++[MO.list ((a.lg++b.lg).map MV.str)]=H2 at p2 Ie;revert H2;refine gA ?_;intros)
    have hk2:=p2.get hk;refine le_next (L1:=[some (.int (if or then 5 else 4)),some (.obj ke),some (.obj kn),some b.o.mv,some (.bool c),none,none]) (H1:=H2) (aJ (vm (i:=1) (it:=b) rfl hk2 rfl)) ?_;have hc2:(tE (c2 we (c2 au (ae 3) (af (.int 0))) (af (.int 0)))) (ah (n+2)) [some (.int (if or then 5 else 4)),some (.obj ke),some (.obj kn),some b.o.mv,some (.bool c),none,none] H2=some (.val (b.o.code !=0) H2):=rfl;unfold dU;by_cases r:b.o.code=0
    ·have hr:(b.o.code !=0)=false:=by simpa using r
     rw[if_pos r];obtain⟨hv2,Vr,hl2⟩:=tb r;refine le_next (L1:=[some (.int (if or then 5 else 4)),some (.obj ke),some (.obj kn),some b.o.mv,some (.bool c),none,none]) (H1:=H2) ((aw (hc2.trans (by rw[hr]))).trans rfl) ?_;obtain⟨J2,hJ2⟩:=Vr.kB (by exact cU hl2 rfl) (n:=n) (H:=H2);refine le_next (L1:=[some (.int (if or then 5 else 4)),some (.obj ke),some (.obj kn),some b.o.mv,some (.bool c),none,some (uc b.x.b)]) (H1:=H2++J2) (aJ ((bh (H1:=H2) (x:=.str b.o.val) rfl).trans (by rw[hv2];exact hJ2))) ?_;have p3:Pre H (H2++J2):=p2.trans (Pre.app _ _);have hn3:(H2++J2)[kn]?=some (.list ((a.lg++b.lg).map MV.str)):=(Pre.app H2 J2).get Ie
     (generalize H2++J2=H3 at p3 hn3;revert H3;refine gA ?_;intros)
     cases hyb:b.x.b with
     |none=>
      refine lO (k:=kn) (H':=H3) (L1:=[some (.int (if or then 5 else 4)),some (.obj ke),some (.obj kn),some b.o.mv,some (.bool c),none,some .none]) ((aB (H1:=H3) rfl).trans (aE (aI (jE (H1:=H3) rfl ?_)))) p3 (.inr XY) hn3;refine(bh (H1:=H3) (x:=.str b.o.val) rfl).trans ?_;rw[hv2];exact mH (by exact cU hl2 rfl)
     |some d=>
      refine le_next (L1:=[some (.int (if or then 5 else 4)),some (.obj ke),some (.obj kn),some b.o.mv,some (.bool c),none,some (.bool d)]) (H1:=H3) ((aw (H1:=H3) rfl).trans rfl) ?_;refine lO (k:=kn) (H':=H3) (L1:=[some (.int (if or then 5 else 4)),some (.obj ke),some (.obj kn),some b.o.mv,some (.bool c),none,some (.bool d)]) (aI (jE (H1:=H3) rfl ?_)) p3 (.inr XY) hn3;show _=some (Res.val (good (tx (wN d))).mv H3);rw[<-oY];cases d<;>exact(bh (H1:=H3) rfl).trans cW
    ·have hr:(b.o.code !=0)=true:=by simpa using r
     rw[if_neg r];exact lO (k:=kn) (H':=H2) (L1:=[some (.int (if or then 5 else 4)),some (.obj ke),some (.obj kn),some b.o.mv,some (.bool c),none,none]) ((aB (hc2.trans (by rw[hr]))).trans (aE (aI (jE (H1:=H2) rfl rfl)))) p2 (.inr XY) Ie
 ·have hq:(a.o.code !=0)=true:=by simpa using q
  have hlg:qi or a.o a.x a.lg b.lg=a.lg:=if_neg q;have hlo:sr or a.o b.o a.x b.x=a.o:=if_neg q;rw[hlg,hlo];exact lO (k:=a.k) (H':=H) (L1:=[some (.int (if or then 5 else 4)),some (.obj ke),some (.obj a.k),some a.o.mv,none,none,none]) ((aB (hc.trans (by rw[hq]))).trans (aE (aI (jE (H1:=H) rfl rfl)))) (Pre.refl _) (.inl (by simp)) ha
theorem xh{n ke:Nat}{a b c:It}{H:MH}(hk:H[ke]?=some (.list [a.mv,b.mv,c.mv]))(ha:a.At H)(hb:b.At H)(hc:c.At H)(h1:a.lg.length<=1000)(h2:b.lg.length<=1000)(h3:c.lg.length<=1000)(ta:a.o.code=0->a.o.val=tx a.x.l/\a.x.Ok 390):
  EX H (ah (n+3) fq [.int 6,.obj ke] H) [a.k,b.k,c.k] (su a.o a.x a.lg b.lg c.lg) (tG a.o b.o c.o a.x):=by
 rw[aD (by decide) rfl ⟨ao _,ao _⟩]
 suffices hs:ql H (gp (ah (n+2)) [some (.int 6),some (.obj ke),none,none,none,none,none] H) [a.k,b.k,c.k] (su a.o a.x a.lg b.lg c.lg) (tG a.o b.o c.o a.x) by
  obtain⟨k,H',e1,e2⟩:=hs;exact⟨k,H',aP e1,e2⟩
 unfold gp;refine le_next (aJ (zp (i:=0) (it:=a) rfl hk rfl)) ?_;refine le_next (aJ (vm (i:=0) (it:=a) rfl hk rfl)) ?_;have hcd:(tE (c2 we (c2 au (ae 3) (af (.int 0))) (af (.int 0)))) (ah (n+2)) [some (.int 6),some (.obj ke),some (.obj a.k),some a.o.mv,none,none,none] H=some (.val (a.o.code !=0) H):=rfl;by_cases q:a.o.code=0
 ·have hq:(a.o.code !=0)=false:=by simpa using q
  obtain⟨hv,hok,hl⟩:=ta q;refine le_next (L1:=[some (.int 6),some (.obj ke),some (.obj a.k),some a.o.mv,none,none,none]) (H1:=H) ((aw (hcd.trans (by rw[hq]))).trans rfl) ?_;obtain⟨J,hJ⟩:=hok.kB (by exact cU hl rfl) (n:=n) (H:=H);refine le_next (L1:=[some (.int 6),some (.obj ke),some (.obj a.k),some a.o.mv,some (uc a.x.b),none,none]) (H1:=H++J) (aJ (xg hv hJ)) ?_;have p1:Pre H (H++J):=Pre.app _ _
  (generalize H++J=H1 at p1;revert H1;refine gA ?_;intros)
  have hlg:su a.o a.x a.lg b.lg c.lg=(match a.x.b with
   |none=>a.lg
   |some d=>a.lg++(if d then b.lg else c.lg)):=if_pos q
  have hlo:tG a.o b.o c.o a.x=(match a.x.b with
   |none=>lY (tx a.x.l)
   |some d=>if d then b.o else c.o):=if_pos q
  rw[hlg,hlo];have hk1:=p1.get hk;have ha1:H1[a.k]?=_:=p1.get ha;have hb1:H1[b.k]?=_:=p1.get hb;have hc1:H1[c.k]?=_:=p1.get hc;cases hxb:a.x.b with
  |none=>
   refine lO (k:=a.k) (H':=H1) (L1:=[some (.int 6),some (.obj ke),some (.obj a.k),some a.o.mv,some .none,none,none]) ((aB (H1:=H1) rfl).trans (aE (aI (jE (H1:=H1) rfl ?_)))) p1 (.inl (by simp)) ha1;refine(bh (H1:=H1) (x:=.str a.o.val) rfl).trans ?_;rw[hv];exact mH (by exact cU hl rfl)
  |some d=>
   refine le_next (L1:=[some (.int 6),some (.obj ke),some (.obj a.k),some a.o.mv,some (.bool d),none,none]) (H1:=H1) ((aw (H1:=H1) rfl).trans rfl) ?_;dsimp only;have go:∀e:It,e.At H1->e.lg.length<=1000->(eL (tE (ae 4)) (c2 au (ae 1) (af (.int 1))) (c2 au (ae 1) (af (.int 2)))) (ah (n+2)) [some (.int 6),some (.obj ke),some (.obj a.k),some a.o.mv,some (.bool d),none,none] H1=some (.val e.mv H1)->∀b:CS,ql H (ag (bN (tE (c2 bQ (ae 0) (af (.int 6))))
  (ag (aO 5 (eL (tE (ae 4)) (c2 au (ae 1) (af (.int 1))) (c2 au (ae 1) (af (.int 2)))))
  (ag (aK (aG (aa (c2 bb (ae 2) (c2 au (ae 5) (af (.int 1)))) (aa (c2 au (ae 5) (af (.int 2))) ai))))
  aq))
  aq) b (ah (n+2)) [some (.int 6),some (.obj ke),some (.obj a.k),some a.o.mv,some (.bool d),none,none] H1) [a.k,e.k] (a.lg++e.lg) e.o:=fun e he hel hif b=>by
    have tC:bb (.obj a.k) (.obj e.k) H1=some (.val (.obj H1.length) (H1++[.list ((a.lg++e.lg).map MV.str)])):=by
     rw[mP ha1 he (by rw[bR,bR];exact Dt h1 hel),fk]
    exact lO (k:=H1.length) (H':=H1++[.list ((a.lg++e.lg).map MV.str)]) (L1:=[some (.int 6),some (.obj ke),some (.obj a.k),some a.o.mv,some (.bool d),some e.mv,none]) ((aB (H1:=H1) rfl).trans ((aF (aJ hif)).trans (aE (aI (jE (x:=.obj H1.length) (H1:=H1++[.list ((a.lg++e.lg).map MV.str)]) ((ba rfl rfl).trans tC) rfl))))) (p1.trans (Pre.app _ _)) (.inr p1.len) (bc _ _)
   cases d with
   |true=>
    obtain⟨k,H',e1,e2,e3,e4⟩:=go b hb1 h2 ((fU (H1:=H1) rfl).trans (vl (i:=1) (it:=b) rfl hk1 rfl)) _;exact⟨k,H',e1,e2,e3.imp (fun h=>by simp only[bS,List.not_mem_nil,or_false]at h ⊢;exact Mv h) id,e4⟩
   |false=>
    obtain⟨k,H',e1,e2,e3,e4⟩:=go c hc1 h3 ((eT (H1:=H1) rfl).trans (vl (i:=2) (it:=c) rfl hk1 rfl)) _;exact⟨k,H',e1,e2,e3.imp (fun h=>by simp only[bS,List.not_mem_nil,or_false]at h ⊢;exact Mw h) id,e4⟩
 ·have hq:(a.o.code !=0)=true:=by simpa using q
  have hlg:su a.o a.x a.lg b.lg c.lg=a.lg:=if_neg q;have hlo:tG a.o b.o c.o a.x=a.o:=if_neg q;rw[hlg,hlo];exact lO (k:=a.k) (H':=H) (L1:=[some (.int 6),some (.obj ke),some (.obj a.k),some a.o.mv,none,none,none]) ((aB (hcd.trans (by rw[hq]))).trans (aE (aI (jE (H1:=H) rfl rfl)))) (Pre.refl _) (.inl (by simp)) ha
theorem C0{α:Type}{elt:CE}{o:g8}{k:Nat}{H0:MH}{bl:List α}{g f:α->MV}(hk:H0[k]?=some (.list (bl.map g)))(hf:∀i∈bl,∀H,Pre H0 H->elt o [some (g i)] H=some (.val (f i) H)):∀(r:List α) (i:Nat) (pre:List MV) (N:Nat),bl.drop i=r->pre.length+r.length<=1000->r.length<N->
  gG elt [] H0.length N (.lst k i) o (H0++[.list pre])=some (.val () (H0++[.list (pre++r.map f)])):=by
 intro r
 induction r with
 |nil=>
  intro i pre N hr hp hN;obtain⟨N,rfl⟩:∃M,N=M+1:=⟨N-1,by simp at hN;exact nE hN⟩
  rw[lu (by rw[eP ((Pre.app _ _).get hk),dP,jV (by have:=aY List.length hr;simp at this;exact nV this)];rfl)];simp
 |cons x r ih=>
  intro i pre N hr hp hN;obtain⟨N,rfl⟩:∃M,N=M+1:=⟨N-1,by simp at hN;exact pX hN⟩
  have hgt:bl[i]?=some x:=by have:=aY (·[0]?) hr;simpa using this
  have hr':bl.drop (i+1)=r:=by rw[<-jZ,hr];rfl
  simp only[bo]at hN hp;rw[lA (x:=g x) (gX:=.lst k (i+1)) (by rw[eP ((Pre.app _ _).get hk),dP,hgt];rfl) (hf x (d8 hgt) _ (Pre.app _ _)) (og (by exact wj hp rfl)),ih (i+1) (pre++[f x]) N hr' (by simp;exact qC hp) (by exact jI hN)];simp
theorem kJ{α:Type}{elt it:CE}{o:g8}{L:Loc}{k:Nat}{H H1:MH}{bl:List α}{g f:α->MV}(hit:it o L H=some (.val (.obj k) H1))(hk:H1[k]?=some (.list (bl.map g)))(hn:bl.length<=1000)(hf:∀i∈bl,∀H,Pre H1 H->elt o [some (g i)] H=some (.val (f i) H)):cR [] elt it o L H=some (.val (.obj H1.length) (H1++[.list (bl.map f)])):=by
 have hs:ff (.obj k) H1=some (.lst k 0):=by unfold ff;rw[vk hk]
 unfold cR;rw[hit];simp only[bindR,hs,kU];rw[C0 hk hf bl 0 [] many rfl (by simpa using hn) (by unfold many;exact ku hn rfl)];rfl
theorem EY(h:a o L H=some (.val (.obj k) H1))(hk:H1[k]?=some (.list xs)):c1 kc a o L H=some (.val (.tup xs) H1):=by
 refine d0 h ?_;unfold kc;dsimp only;rw[hk]
theorem fh(h:a o L H=some (.next L1 H1))(h2:fz H0 (b o L1 H1) t lg Y3):fz H0 (ag a b o L H) t lg Y3:=by
 obtain⟨k,H',h3,h4⟩:=h2;exact⟨k,H',aj h h3,h4⟩
theorem qm(h:a o L H=some (.ret (.tup [t,.obj k,Y3.mv]) L1 H'))(h1:Pre H0 H')(h2:H0.length<=k)(h3:H'[k]?=some (.list (lg.map MV.str))):fz H0 (ag a b o L H) t lg Y3:=
 ⟨k,H',aL h,h1,h2,h3⟩
def ik:CS:=
 (ag (bN (tE (c2 kq (ae 6) (af (.int 2))))
  (ag (aO 7 (c2 au (aG (aa (af (.str (S "!"))) (aa (af (.str (S "-"))) ai))) (ae 6)))
  (ag (aK (aG (aa (aG (aa (af (.str (S "un"))) (aa (ae 7) (aa (c2 au (ae 2) (af (.int 0))) ai)))) (aa (ae 4) (aa (eL (tE (c1 bg (ae 5))) (ak (af (.fn (.ref ft))) (aa (ae 7) (aa (c2 au (ae 3) (af (.int 0))) ai))) (ae 5)) ai)))))
  aq))
  aq)
 (ag (bN (tE (c2 bQ (ae 6) (af (.int 2))))
  (ag (aO 7 (c2 au (aG (aa (af (.str (S "+"))) (aa (af (.str (S "-"))) (aa (af (.str (S "*"))) (aa (af (.str (S "=="))) (aa (af (.str (S "<"))) (aa (af (.str (S "eq"))) ai))))))) (c2 gW (c2 iz (ae 0) (af (.int 6))) (af (.int 6)))))
  (ag (aK (aG (aa (aG (aa (af (.str (S "bin"))) (aa (ae 7) (aa (c2 au (ae 2) (af (.int 0))) (aa (c2 au (ae 2) (af (.int 1))) ai))))) (aa (ae 4) (aa (eL (tE (c1 bg (ae 5))) (ak (af (.fn (.ref fF))) (aa (ae 7) (aa (c2 au (ae 3) (af (.int 0))) (aa (c2 au (ae 3) (af (.int 1))) ai)))) (ae 5)) ai)))))
  aq))
  aq)
 (ag (aO 8 (c2 au (aG (aa (af (.str (S "max"))) (aa (af (.str (S "twice"))) (aa (af (.str (S "nope"))) ai)))) (c2 dT (ae 6) (af (.int 3)))))
 (ag (bN (tE (c1 eg (ae 5)))
  (ag (aK (aG (aa (aG (aa (af (.str (S "call"))) (aa (ae 8) (aa (ae 2) ai)))) (aa (ae 4) (aa (ae 5) ai)))))
  aq)
  aq)
 (ag (aO 9 (c2 bb (af (.str (S "tcl::mathfunc::"))) (ae 8)))
 (ag (bN (tE (c2 bQ (ae 6) (af (.int 3))))
  (ag (aK (aG (aa (aG (aa (af (.str (S "call"))) (aa (ae 8) (aa (ae 2) ai)))) (aa (ae 4) (aa (ak (af (.fn (.ref o8))) (aa (ae 3) ai)) ai)))))
  aq)
  aq)
 (ag (bN (tE (c2 bQ (ae 6) (af (.int 4))))
  (ag (aK (aG (aa (aG (aa (af (.str (S "call"))) (aa (ae 8) (aa (ae 2) ai)))) (aa (c2 bb (ae 4) (dy (aa (cM .str lV (af (.str (S " "))) (aa (c2 bb (dy (aa (ae 9) ai)) (ae 3)) ai)) ai))) (aa (ak (af (.fn (.ref aZ))) (aa (c2 bb (c2 au (ae 3) (af (.int 0))) (af (.str (S "1")))) ai)) ai)))))
  aq)
  aq)
 (ag (aO 10 (ak (af (.fn (.ref eB))) (aa (c2 bb (c2 bb (af (.str (S "invalid command name \""))) (ae 9)) (af (.str (S "\"")))) (aa (aG (aa (af (.str (S "TCL"))) (aa (af (.str (S "LOOKUP"))) (aa (af (.str (S "COMMAND"))) (aa (ae 9) ai))))) ai))))
 (ag (aK (aG (aa (aG (aa (af (.str (S "call"))) (aa (ae 8) (aa (ae 2) ai)))) (aa (ae 4) (aa (ae 10) ai)))))
 aq)))))))))
def EZ:CS:=ag (aO 2 (c1 kc (cR [] (c2 au (ae 0) (af (.int 0))) (ae 1))))
 (ag (aO 3 (cR [] (c2 au (c2 au (ae 0) (af (.int 2))) (af (.int 1))) (ae 1)))
 (ag (di [4,5] (ak (af (.fn (.ref iQ))) (aa (ae 1) ai)))
 (ag (aO 6 (c2 gW (ae 0) (af (.int 6)))) ik)))
theorem zq:gr=EZ:=rfl
noncomputable abbrev js(q w:Int)(ke kt kl:Nat)(ts:List MV)(f:MV):Loc:=[some (.int q),some (.obj ke),some (.tup ts),some (.obj kt),some (.obj kl),some f,some (.int w),none,none,none,none]
theorem qn{n ke:Nat}{q:Int}{bl:List It}{H:MH}{t:MV}{lg:List Str}{Y3:Out}(hk:H[ke]?=some (.list (bl.map It.mv)))(ha:∀i∈bl,i.At H)(hlg:∀i∈bl,i.lg.length<=1000)(hn:bl.length<=50)
  (hgo:∀kt kl H1,Pre H H1->H.length<=kl->H1[kl]?=some (.list ((strict (bl.map It.en)).1.map MV.str))->H1[kt]?=some (.list ((cC (bl.map It.en)).map MV.str))->fz H (ik (ah (n+3)) (js q (q.fmod 6) ke kt kl (bl.map It.t) (dH (strict (bl.map It.en)).2)) H1) t lg Y3):
  Ent H (ah (n+4) fu [.int q,.obj ke] H) t lg Y3:=by
 rw[aD (by decide) rfl ⟨ao _,ao _⟩]
 suffices hs:fz H (gr (ah (n+3)) [some (.int q),some (.obj ke),none,none,none,none,none,none,none,none,none] H) t lg Y3 by
  obtain⟨k,H',e1,e2⟩:=hs;exact⟨k,H',aP e1,e2⟩
 rw[zq];unfold EZ;have hv:bl.map (fun i:It=>MV.str i.o.val)=(cC (bl.map It.en)).map MV.str:=by
  unfold cC;rw[hH,hH];rfl
 have c1:=kJ (elt:=c2 au (ae 0) (af (.int 0))) (it:=ae 1) (o:=ah (n+3)) (L:=[some (.int q),some (.obj ke),none,none,none,none,none,none,none,none,none]) (H:=H) (H1:=H) (g:=It.mv) (f:=It.t) rfl hk (by exact cU hn rfl) (fun i hi H _=>rfl);refine fh (aJ (EY c1 (bc _ _))) ?_;have p1:Pre H (H++[.list (bl.map It.t)]):=Pre.app _ _
 (generalize H++[MO.list (bl.map It.t)]=H1 at p1;revert H1;refine gA ?_;intros)
 have c2:=kJ (elt:=c2 au (c2 au (ae 0) (af (.int 2))) (af (.int 1))) (it:=ae 1) (o:=ah (n+3)) (L:=[some (.int q),some (.obj ke),some (.tup (bl.map It.t)),none,none,none,none,none,none,none,none]) (H:=H1) (H1:=H1) (g:=It.mv) (f:=fun i=>.str i.o.val) rfl (p1.get hk) (by exact cU hn rfl) (fun i hi H _=>rfl);rw[hv]at c2;refine fh (aJ c2) ?_;have p2:Pre H (H1++[.list ((cC (bl.map It.en)).map MV.str)]):=p1.trans (Pre.app _ _);have ht:(H1++[MO.list ((cC (bl.map It.en)).map MV.str)])[H1.length]?=some (.list ((cC (bl.map It.en)).map MV.str)):=bc _ _
 (generalize H1++[MO.list ((cC (bl.map It.en)).map MV.str)]=H2 at p2 ht;revert H2;refine gA ?_;intros)
 (generalize H1.length=kt at ht;revert kt;refine gA ?_;intros)
 obtain⟨kl,H3,e1,p3,e3,e4⟩:=tK (n:=n+2) (p2.get hk) (fun i hi=>p2.get (ha i hi)) hlg hn;refine fh (L1:=[some (.int q),some (.obj ke),some (.tup (bl.map It.t)),some (.obj kt),some (.obj kl),some (dH (strict (bl.map It.en)).2),none,none,none,none,none]) (H1:=H3) ?_ ?_
 ·have:(ak (af (.fn (.ref iQ))) (aa (ae 1) ai)) (ah (n+3)) [some (.int q),some (.obj ke),some (.tup (bl.map It.t)),some (.obj kt),none,none,none,none,none,none,none] H2=some (.val (.tup [.obj kl,dH (strict (bl.map It.en)).2]) H3):=(bh rfl).trans e1;show(di _ _) (ah (n+3)) [some (.int q),some (.obj ke),some (.tup (bl.map It.t)),some (.obj kt),none,none,none,none,none,none,none] H2=_;unfold di;rw[this];rfl
 refine fh (L1:=js q (q.fmod 6) ke kt kl (bl.map It.t) (dH (strict (bl.map It.en)).2)) (H1:=H3) rfl ?_;exact hgo kt kl H3 (p2.trans p3) (aN p2.len e3) e4 (p3.get ht)
section
variable{o:g8}{q w:Int}{ke kt kl:Nat}{ts:List MV}{f:MV}{H:MH}
theorem F6:(tE (c2 kq (ae 6) (af (.int 2)))) o (js q w ke kt kl ts f) H=some (.val (decide (w<2)) H):=rfl
theorem SV:(tE (c2 bQ (ae 6) (af (.int z)))) o [some (.int q),some (.obj ke),some (.tup ts),some (.obj kt),some (.obj kl),some f,some (.int w),a,b,c,d] H=some (.val (w==z) H):=rfl
theorem mQ:(eL (tE (c1 bg (ae 5))) A B) o [some (.int q),some (.obj ke),some (.tup ts),some (.obj kt),some (.obj kl),some (dH x),some (.int w),a,b,c,d] H=if x.isNone then A o [some (.int q),some (.obj ke),some (.tup ts),some (.obj kt),some (.obj kl),some (dH x),some (.int w),a,b,c,d] H else B o [some (.int q),some (.obj ke),some (.tup ts),some (.obj kt),some (.obj kl),some (dH x),some (.int w),a,b,c,d] H:=by
 cases x<;>rfl
theorem rE{a b c d:Option MV}{i:Nat}{vs:List Str}{v:Str}(hk:H[kt]?=some (.list (vs.map MV.str)))(hi:vs[i]?=some v):(c2 au (ae 3) (af (.int (i:Nat)))) o [some (.int q),some (.obj ke),some (.tup ts),some (.obj kt),some (.obj kl),some f,some (.int w),a,b,c,d] H=some (.val (.str v) H):=
 (ba (x:=.obj kt) (y:=.int (i:Nat)) (H1:=H) (H2:=H) rfl rfl).trans (nv hk (by rw[dP,hi];rfl))
end
def SW:CS:=(bN (tE (c2 kq (ae 6) (af (.int 2))))
  (ag (aO 7 (c2 au (aG (aa (af (.str (S "!"))) (aa (af (.str (S "-"))) ai))) (ae 6)))
  (ag (aK (aG (aa (aG (aa (af (.str (S "un"))) (aa (ae 7) (aa (c2 au (ae 2) (af (.int 0))) ai)))) (aa (ae 4) (aa (eL (tE (c1 bg (ae 5))) (ak (af (.fn (.ref ft))) (aa (ae 7) (aa (c2 au (ae 3) (af (.int 0))) ai))) (ae 5)) ai)))))
  aq))
  aq)
def Kq:CS:=(bN (tE (c2 bQ (ae 6) (af (.int 2))))
  (ag (aO 7 (c2 au (aG (aa (af (.str (S "+"))) (aa (af (.str (S "-"))) (aa (af (.str (S "*"))) (aa (af (.str (S "=="))) (aa (af (.str (S "<"))) (aa (af (.str (S "eq"))) ai))))))) (c2 gW (c2 iz (ae 0) (af (.int 6))) (af (.int 6)))))
  (ag (aK (aG (aa (aG (aa (af (.str (S "bin"))) (aa (ae 7) (aa (c2 au (ae 2) (af (.int 0))) (aa (c2 au (ae 2) (af (.int 1))) ai))))) (aa (ae 4) (aa (eL (tE (c1 bg (ae 5))) (ak (af (.fn (.ref fF))) (aa (ae 7) (aa (c2 au (ae 3) (af (.int 0))) (aa (c2 au (ae 3) (af (.int 1))) ai)))) (ae 5)) ai)))))
  aq))
  aq)
theorem xi{n ke:Nat}{q w:Int}{a:It}{op:Str}{u:Out}{H:MH}(hw:q.fmod 6=w)(hlt:decide (w<2)=true)(hop:∀H,au (.tup [.str (S "!"),.str (S "-")]) (.int w) H=some (.val (.str op) H))(hk:H[ke]?=some (.list [a.mv]))(ha:a.At H)(h1:a.lg.length<=1000)
  (hu:a.o.code=0->∀H1,∃J,ah (n+3) ft [.str op,.str a.o.val] H1=some (.val u.mv (H1++J))):Ent H (ah (n+4) fu [.int q,.obj ke] H) (.tup [.str (S "un"),.str op,a.t]) a.lg (dU a.o u):=by
 refine qn (bl:=[a]) hk (fun i hi=>by cases c8.mp hi;exact ha) (fun i hi=>by cases c8.mp hi;exact h1) (by simp) fun kt kl H1 p1 hkl e1 e2=>?_
 rw[hw];have hs:∃H2 L,SW (ah (n+3)) (js q w ke kt kl ([a].map It.t) (dH (strict ([a].map It.en)).2)) H1=some (.ret (.tup [.tup [.str (S "un"),.str op,a.t],.obj kl,(dU a.o u).mv]) L H2)/\Pre H1 H2:=by
  have vn:∀v H2,(eL (tE (c1 bg (ae 5))) (ak (af (.fn (.ref ft))) (aa (ae 7) (aa (c2 au (ae 3) (af (.int 0))) ai))) (ae 5)) (ah (n+3)) [some (.int q),some (.obj ke),some (.tup ([a].map It.t)),some (.obj kt),some (.obj kl),some (dH (strict ([a].map It.en)).2),some (.int w),some (.str op),none,none,none] H1=some (.val v H2)->SW (ah (n+3)) (js q w ke kt kl ([a].map It.t) (dH (strict ([a].map It.en)).2)) H1=some (.ret (.tup [.tup [.str (S "un"),.str op,a.t],.obj kl,v]) [some (.int q),some (.obj ke),some (.tup ([a].map It.t)),some (.obj kt),some (.obj kl),some (dH (strict ([a].map It.en)).2),some (.int w),some (.str op),none,none,none] H2):=
   fun v H2 h=>(aB (H1:=H1) (F6.trans (by rw[hlt]))).trans ((aF (aJ ((ba (jE (H1:=H1) (H2:=H1) rfl rfl) rfl).trans (hop H1)))).trans (aE (aI (mc (x:=.tup [.str (S "un"),.str op,a.t]) (y:=.obj kl) (H1:=H1) (H2:=H1) (mc (H1:=H1) (H2:=H1) rfl rfl rfl) rfl h))))
  by_cases hc:a.o.code=0
  ·obtain⟨J,hJ⟩:=hu hc H1;have hu:dU a.o u=u:=if_pos hc;have hst:(strict ([a].map It.en)).2=none:=(aY Prod.snd (bz (e:=a.en) (r:=[]) hc)).trans rfl;rw[hu];refine⟨H1++J,_,vn _ _ ?_,Pre.app _ _⟩;rw[mQ,hst];exact(call2 (H1:=H1) (H2:=H1) (x:=.str op) rfl (rE (i:=0) e2 rfl)).trans hJ
  ·have hu:dU a.o u=a.o:=if_neg hc;have hst:(strict ([a].map It.en)).2=some a.o:=aY Prod.snd (bP (e:=a.en) (r:=[]) hc);rw[hu];refine⟨H1,_,vn _ _ ?_,Pre.refl _⟩;rw[mQ,hst];rfl
 obtain⟨H2,L,h2,p2⟩:=hs;have hst:(strict ([a].map It.en)).1=a.lg:=by
  by_cases hc:a.o.code=0
  ·exact(aY Prod.fst (bz (e:=a.en) (r:=[]) hc)).trans (bp _)
  ·exact aY Prod.fst (bP (e:=a.en) (r:=[]) hc)
 rw[hst]at e1;unfold ik;exact qm h2 (p1.trans p2) hkl (p2.get e1)
theorem WZ{p:Nat->Prop}(h0:p 0)(h1:p 1)(h2:p 2)(h3:p 3)(h4:p 4)(h5:p 5):∀j,j<6->p j:=by
 exact iI (iI (iI (iI (iI (iI Sp h0) h1) h2) h3) h4) h5
theorem Pk:∀k,k<6->∀H,au (.tup [.str (S "+"),.str (S "-"),.str (S "*"),.str (S "=="),.str (S "<"),.str (S "eq")]) (.int ((k:Nat):Int)) H=some (.val (.str (gY k)) H):=by
 refine WZ ?_ ?_ ?_ ?_ ?_ ?_<;>exact fun H=>rfl
theorem Vs(ha:a o L H=some (.val x H))(hb:b o L H=some (.val y H))(hc:c o L H=some (.val z H))(hd:d o L H=some (.val u H))(he:e o L H=some (.val v H))(hg:g o L H=some (.val w H)):aG (aa a (aa b (aa c (aa d (aa e (aa g ai)))))) o L H=some (.val (.tup [x,y,z,u,v,w]) H):=by
 unfold aG aa ai;simp only[bindR,ha,hb,hc,hd,he,hg,bo,cS,Nat.reduceAdd,d9,Nat.reduceLeDiff,c9]
theorem C1{n ke k:Nat}{q:Int}{a b:It}{u:Out}{H:MH}(hw:q.fmod 6=2)(hk6:(q.fdiv 6).fmod 6=k)(hk':k<6)(hk:H[ke]?=some (.list [a.mv,b.mv]))(ha:a.At H)(hb:b.At H)(h1:a.lg.length<=1000)(h2:b.lg.length<=1000)
  (hu:a.o.code=0->b.o.code=0->∀H1,∃J,ah (n+3) fF [.str (gY k),.str a.o.val,.str b.o.val] H1=some (.val u.mv (H1++J))):Ent H (ah (n+4) fu [.int q,.obj ke] H) (.tup [.str (S "bin"),.str (gY k),a.t,b.t]) (qZ a.o a.lg b.lg) (dU a.o (dU b.o u)):=by
 refine qn (bl:=[a,b]) hk (fun i hi=>?_) (fun i hi=>?_) (by simp) fun kt kl H1 p1 hkl e1 e2=>?_
 ·rcases bS.mp hi with rfl|hi
  ·exact ha
  ·cases c8.mp hi;exact hb
 ·rcases bS.mp hi with rfl|hi
  ·exact h1
  ·cases c8.mp hi;exact h2
 rw[hw];have hs:∃H2 L,Kq (ah (n+3)) (js q 2 ke kt kl ([a,b].map It.t) (dH (strict ([a,b].map It.en)).2)) H1=some (.ret (.tup [.tup [.str (S "bin"),.str (gY k),a.t,b.t],.obj kl,(dU a.o (dU b.o u)).mv]) L H2)/\Pre H1 H2:=by
  have hop:(c2 au (aG (aa (af (.str (S "+"))) (aa (af (.str (S "-"))) (aa (af (.str (S "*"))) (aa (af (.str (S "=="))) (aa (af (.str (S "<"))) (aa (af (.str (S "eq"))) ai))))))) (c2 gW (c2 iz (ae 0) (af (.int 6))) (af (.int 6)))) (ah (n+3)) (js q 2 ke kt kl ([a,b].map It.t) (dH (strict ([a,b].map It.en)).2)) H1=some (.val (.str (gY k)) H1):=by
   refine(ba (y:=.int k) (H1:=H1) (H2:=H1) (Vs rfl rfl rfl rfl rfl rfl) ?_).trans (Pk k hk' H1);rw[<-hk6];rfl
  have vn:∀v H2,(eL (tE (c1 bg (ae 5))) (ak (af (.fn (.ref fF))) (aa (ae 7) (aa (c2 au (ae 3) (af (.int 0))) (aa (c2 au (ae 3) (af (.int 1))) ai)))) (ae 5)) (ah (n+3)) [some (.int q),some (.obj ke),some (.tup ([a,b].map It.t)),some (.obj kt),some (.obj kl),some (dH (strict ([a,b].map It.en)).2),some (.int 2),some (.str (gY k)),none,none,none] H1=some (.val v H2)->Kq (ah (n+3)) (js q 2 ke kt kl ([a,b].map It.t) (dH (strict ([a,b].map It.en)).2)) H1=some (.ret (.tup [.tup [.str (S "bin"),.str (gY k),a.t,b.t],.obj kl,v]) [some (.int q),some (.obj ke),some (.tup ([a,b].map It.t)),some (.obj kt),some (.obj kl),some (dH (strict ([a,b].map It.en)).2),some (.int 2),some (.str (gY k)),none,none,none] H2):=
   fun v H2 h=>(aB (H1:=H1) rfl).trans ((aF (aJ hop)).trans (aE (aI (mc (x:=.tup [.str (S "bin"),.str (gY k),a.t,b.t]) (y:=.obj kl) (H1:=H1) (H2:=H1) (yJ (H1:=H1) (H2:=H1) (H3:=H1) rfl rfl rfl rfl) rfl h))))
  by_cases hc:a.o.code=0
  ·have hu1:dU a.o (dU b.o u)=dU b.o u:=if_pos hc;have SX:(strict ([a,b].map It.en)).2=(strict [b.en]).2:=(aY Prod.snd (bz (e:=a.en) (r:=[b.en]) hc)).trans rfl;rw[hu1];by_cases hd:b.o.code=0
   ·obtain⟨J,hJ⟩:=hu hc hd H1;have hu:dU b.o u=u:=if_pos hd;have hst:(strict ([a,b].map It.en)).2=none:=SX.trans ((aY Prod.snd (bz (e:=b.en) (r:=[]) hd)).trans rfl);rw[hu];refine⟨H1++J,_,vn _ _ ?_,Pre.app _ _⟩;rw[mQ,hst];exact(s7 (H1:=H1) (H2:=H1) (H3:=H1) (x:=.str (gY k)) rfl (rE (i:=0) e2 rfl) (rE (i:=1) e2 rfl)).trans hJ
   ·have hu:dU b.o u=b.o:=if_neg hd;have hst:(strict ([a,b].map It.en)).2=some b.o:=SX.trans (aY Prod.snd (bP (e:=b.en) (r:=[]) hd));rw[hu];refine⟨H1,_,vn _ _ ?_,Pre.refl _⟩;rw[mQ,hst];rfl
  ·have hu:dU a.o (dU b.o u)=a.o:=if_neg hc;have hst:(strict ([a,b].map It.en)).2=some a.o:=aY Prod.snd (bP (e:=a.en) (r:=[b.en]) hc);rw[hu];refine⟨H1,_,vn _ _ ?_,Pre.refl _⟩;rw[mQ,hst];rfl
 obtain⟨H2,L,h2,p2⟩:=hs;have hst:(strict ([a,b].map It.en)).1=qZ a.o a.lg b.lg:=by
  unfold qZ;by_cases hc:a.o.code=0
  ·rw[if_pos hc];refine(aY Prod.fst (bz (e:=a.en) (r:=[b.en]) hc)).trans ?_;show a.lg++(strict [b.en]).1=_;by_cases hd:b.o.code=0
   ·rw[show(strict [b.en]).1=b.lg from(aY Prod.fst (bz (e:=b.en) (r:=[]) hd)).trans (bp _)]
   ·rw[show(strict [b.en]).1=b.lg from aY Prod.fst (bP (e:=b.en) (r:=[]) hd)]
  ·rw[if_neg hc];exact aY Prod.fst (bP (e:=a.en) (r:=[b.en]) hc)
 rw[hst]at e1;unfold ik;refine fh (L1:=js q 2 ke kt kl ([a,b].map It.t) (dH (strict ([a,b].map It.en)).2)) (H1:=H1) ((aw (F6.trans rfl)).trans rfl) ?_;exact qm h2 (p1.trans p2) hkl (p2.get e1)
theorem Pl(ha:a o L H=some (.val q H1)):aa a ai o L H=some (.val [q] H1):=by
 unfold aa ai;rw[ha];rfl
theorem SY:∀k:Nat,k<3->∀H,au (.tup [.str (S "max"),.str (S "twice"),.str (S "nope")]) (.int ((3+(k:Int))-3)) H=some (.val (.str (iC k)) H):=by
 intro k hk;rcases (by exact k9 hk:k=0\/k=1\/k=2)with h|h|h<;>subst h<;>exact fun H=>rfl
def C2(q:Int)(ke:Nat)(ts:List MV)(kt kl:Nat)(f:MV)(k:Nat)(a b:Option MV):Loc:=[some (.int q),some (.obj ke),some (.tup ts),some (.obj kt),some (.obj kl),some f,some (.int (3+(k:Int))),none,some (.str (iC k)),a,b]
theorem zr{n ke k:Nat}{q:Int}{bl:List It}{H:MH}(hw:q.fmod 6=3+(k:Int))(hk3:k<3)(h0:bl≠ [])(hn:bl.length<=50)(hk:H[ke]?=some (.list (bl.map It.mv)))(ha:∀i∈bl,i.At H)(hlg:∀i∈bl,i.lg.length<=1000)(hT:∀i∈bl,i.o.code=0->i.o.val=tx i.x.l/\i.x.Ok 390):
  Ent H (ah (n+4) fu [.int q,.obj ke] H) (.tup [.str (S "call"),.str (iC k),.tup (bl.map It.t)]) (gL k (bl.map It.en)) (iL k (bl.map It.en)):=by
 obtain⟨u1,u2,u3⟩:=Vm;refine qn hk ha hlg hn fun kt kl H1 p1 hkl e1 e2=>?_
 rw[hw];unfold ik;refine fh (L1:=js q (3+(k:Int)) ke kt kl (bl.map It.t) (dH (strict (bl.map It.en)).2)) (H1:=H1) ((aw (F6.trans (by rw[show decide ((3:Int)+k<2)=false by rw[decide_eq_false_iff_not];exact Mx]))).trans rfl) ?_;refine fh (L1:=js q (3+(k:Int)) ke kt kl (bl.map It.t) (dH (strict (bl.map It.en)).2)) (H1:=H1) ((aw (SV.trans (by rw[show((3:Int)+k==2)=false by rw[gZ];exact My]))).trans rfl) ?_;refine fh (L1:=(C2 q ke (bl.map It.t) kt kl (dH (strict (bl.map It.en)).2) k none none)) (H1:=H1) (aJ ((ba (y:=.int ((3+(k:Int))-3)) (H1:=H1) (H2:=H1) (mc (H1:=H1) (H2:=H1) (H3:=H1) rfl rfl rfl) rfl).trans (SY k hk3 H1))) ?_;have AK:∀{a b:Option MV}{f:MV}{H:MH},(aG (aa (af (.str (S "call"))) (aa (ae 8) (aa (ae 2) ai)))) (ah (n+3)) (C2 q ke (bl.map It.t) kt kl f k a b) H=some (.val (.tup [.str (S "call"),.str (iC k),.tup (bl.map It.t)]) H):=fun {a b f H}=>mc rfl rfl rfl
 have hfn:∀{a b:Option MV},(tE (c1 eg (ae 5))) (ah (n+3)) (C2 q ke (bl.map It.t) kt kl (dH (strict (bl.map It.en)).2) k a b) H1=some (.val (strict (bl.map It.en)).2.isSome H1):=fun {a b}=>by
  cases (strict (bl.map It.en)).2<;>rfl
 cases hs:(strict (bl.map It.en)).2 with
 |some f=>
  rw[hs]at hfn;have hL:gL k (bl.map It.en)=(strict (bl.map It.en)).1:=by unfold gL;rw[hs]
  have hO:iL k (bl.map It.en)=f:=by unfold iL;rw[hs]
  rw[hL,hO];exact qm ((aB hfn).trans (aE (aI (mc (H1:=H1) (H2:=H1) AK rfl rfl)))) p1 hkl e1
 |none=>
  rw[hs]at hfn;have hL:gL k (bl.map It.en)=if k=1 then(strict (bl.map It.en)).1++[dg (S " ") (cq (S "twice")::cC (bl.map It.en))] else(strict (bl.map It.en)).1:=by unfold gL;rw[hs]
  have hO:iL k (bl.map It.en)=lZ (bl.map It.en) k:=by unfold iL;rw[hs]
  have T3:=om hs;have qj:∀i∈bl,i.o.code=0:=fun i hi=>T3 i.en (eb.mpr ⟨i,hi,rfl⟩)
  have hvl:(cC (bl.map It.en)).length=bl.length:=by unfold cC;rw[bR,bR]
  have hvb:∀x∈cC (bl.map It.en),x.length<=1000:=fun x hx=>by
   obtain⟨e,he,rfl⟩:=eb.mp hx;obtain⟨i,hi,rfl⟩:=eb.mp he;obtain⟨h1,h2⟩:=hT i hi (qj i hi);show(i.o.val).length<=1000;rw[h1,hS];exact aN h2.2 (by decide)
  have q8:(S "tcl::mathfunc::").length<=100:=tH.2.2.2.2.2.2.2.1;have hfl:(iC k).length<=100:=by
   rcases (k9 hk3:k=0\/k=1\/k=2)with h|h|h<;>subst h
   ·exact u1
   ·exact u2
   ·exact u3
  refine fh (L1:=(C2 q ke (bl.map It.t) kt kl .none k none none)) (H1:=H1) ((aw hfn).trans rfl) ?_;refine fh (L1:=(C2 q ke (bl.map It.t) kt kl .none k (some (.str (cq (iC k)))) none)) (H1:=H1) (aJ (dw (H1:=H1) rfl rfl (by exact uT q8 hfl))) ?_;rw[hL,hO];rcases (k9 hk3:k=0\/k=1\/k=2)with h|h|h
  ·subst h;rw[if_neg (by decide)];have hvt:(cC (bl.map It.en)).map MV.str=(bl.map It.x).map Tx.mv:=by
    unfold cC;rw[hH,hH,hH];refine pM fun i hi=>?_
    show MV.str i.o.val=MV.str (tx i.x.l);rw[(hT i hi (qj i hi)).1]
   rw[hvt]at e2;obtain⟨H2,p2,e3⟩:=Et (n:=n+1) (ts:=bl.map It.x) (fun t ht=>by
    obtain⟨i,hi,rfl⟩:=eb.mp ht;exact(hT i hi (qj i hi)).2) (by rw[bR];exact cU hn rfl) (by intro q;exact h0 (List.map_eq_nil_iff.mp q)) e2
   have hB:lZ (bl.map It.en) 0=f7 (bl.map It.x) []:=by
    show f7 ((bl.map It.en).map En.x) []=_;rw[hH];rfl
   rw[hB];exact qm ((aB rfl).trans (aE (aI (mc (H1:=H1) (H2:=H1) AK rfl ((bh (H1:=H1) rfl).trans e3))))) (p1.trans p2) hkl (p2.get e1)
  ·subst h;rw[if_pos rfl];refine fh (L1:=(C2 q ke (bl.map It.t) kt kl .none 1 (some (.str (cq (iC 1)))) none)) (H1:=H1) ((aw rfl).trans rfl) ?_;obtain⟨v1,r,hvr⟩:∃v1 r,cC (bl.map It.en)=v1::r:=by
    cases hq:cC (bl.map It.en)with
    |nil=>rw[hq]at hvl;exact absurd (List.length_eq_zero_iff.mp hvl.symm) h0
    |cons a b=>exact⟨a,b,rfl⟩
   have hB:lZ (bl.map It.en) 1=good (v1++S "1"):=by unfold lZ;rw[hvr];rfl
   rw[hB];have hst:(strict (bl.map It.en)).1.length<=50*1000:=aN (zo _ 1000 fun e he=>by
    obtain⟨i,hi,rfl⟩:=eb.mp he;exact hlg i hi) (by rw[bR];exact Mz hn)
   (generalize (strict (bl.map It.en)).1=sl at e1 hst;revert sl;refine gA ?_;intros)
   (generalize hvs:cC (bl.map It.en)=vs at *;revert vs;refine gA ?_;intros)
   have hm1:(dy (aa (ae 9) ai)) (ah (n+3)) (C2 q ke (bl.map It.t) kt kl .none 1 (some (.str (cq (iC 1)))) none) H1=some (.val (.obj H1.length) (H1++[.list [.str (cq (iC 1))]])):=pg rfl (by simp);have pa:Pre H1 (H1++[.list [.str (cq (iC 1))]]):=Pre.app _ _;have ga:(H1++[MO.list [.str (cq (iC 1))]])[H1.length]?=some (.list [.str (cq (iC 1))]):=bc _ _
   (generalize H1++[MO.list [.str (cq (iC 1))]]=Ha at hm1 pa ga;revert Ha;refine gA ?_;intros)
   have tC:bb (.obj H1.length) (.obj kt) Ha=some (.val (.obj Ha.length) (Ha++[.list ((cq (iC 1)::vs).map MV.str)])):=mP ga (pa.get e2) (by rw[bR,hvl];simp;exact Dq hn rfl);have pb:Pre Ha (Ha++[.list ((cq (iC 1)::vs).map MV.str)]):=Pre.app _ _;have gb:(Ha++[MO.list ((cq (iC 1)::vs).map MV.str)])[Ha.length]?=some (.list ((cq (iC 1)::vs).map MV.str)):=bc _ _
   (generalize Ha++[MO.list ((cq (iC 1)::vs).map MV.str)]=Hb at tC pb gb;revert Hb;refine gA ?_;intros)
   have hj:lV (.str (S " ")) [.obj Ha.length] Hb=some (.val (.str (dg (S " ") (cq (iC 1)::vs))) Hb):=ve gb EA.2 (by rw[bo,hvl];exact Dr hn rfl) (fun x hx=>by
    rcases bS.mp hx with rfl|hx
    ·exact aN tH.2.2.1 (by decide)
    ·exact hvb x hx)
   have hjc:(cM .str lV (af (.str (S " "))) (aa (c2 bb (dy (aa (ae 9) ai)) (ae 3)) ai)) (ah (n+3)) (C2 q ke (bl.map It.t) kt kl .none 1 (some (.str (cq (iC 1)))) none) H1=some (.val (.str (dg (S " ") (cq (iC 1)::vs))) Hb):=by
    have:(c2 bb (dy (aa (ae 9) ai)) (ae 3)) (ah (n+3)) (C2 q ke (bl.map It.t) kt kl .none 1 (some (.str (cq (iC 1)))) none) H1=some (.val (.obj Ha.length) Hb):=(ba (y:=.obj kt) (H2:=Ha) hm1 rfl).trans tC;exact(QZ rfl rfl this).trans hj
   have T4:bb (.obj kl) (.obj Hb.length) (Hb++[.list [.str (dg (S " ") (cq (iC 1)::vs))]])=some (.val (.obj (Hb++[MO.list [.str (dg (S " ") (cq (iC 1)::vs))]]).length) (Hb++[.list [.str (dg (S " ") (cq (iC 1)::vs))]]++[.list ((sl++[dg (S " ") (cq (iC 1)::vs)]).map MV.str)])):=by
    rw[mP ((Pre.app _ _).get (pb.get (pa.get e1))) (bc _ _) (by rw[bR];simp;exact MA hst),fk];rfl
   (generalize hHc:Hb++[MO.list [.str (dg (S " ") (cq (iC 1)::vs))]]=Hc at T4;revert Hc;refine gA ?_;intros)
   have pc:Pre Hb Hc:=⟨_,hHc.symm⟩
   have cX:(c2 bb (ae 4) (dy (aa (cM .str lV (af (.str (S " "))) (aa (c2 bb (dy (aa (ae 9) ai)) (ae 3)) ai)) ai))) (ah (n+3)) (C2 q ke (bl.map It.t) kt kl .none 1 (some (.str (cq (iC 1)))) none) H1=_:=(ba (x:=.obj kl) (H1:=H1) rfl ((pg (xs:=[.str (dg (S " ") (cq (iC 1)::vs))]) (H1:=Hb) (Pl hjc) (by simp)).trans (by rw[hHc]))).trans T4;have pd:=Pre.app Hc [.list ((sl++[dg (S " ") (cq (iC 1)::vs)]).map MV.str)];have gd:(Hc++[MO.list ((sl++[dg (S " ") (cq (iC 1)::vs)]).map MV.str)])[Hc.length]?=_:=bc _ _
   (generalize Hc++[MO.list ((sl++[dg (S " ") (cq (iC 1)::vs)]).map MV.str)]=Hd at cX pd gd;revert Hd;refine gA ?_;intros)
   have T5:Pre H Hc:=((p1.trans pa).trans pb).trans pc;have Wq:=pd.get (pc.get (pb.get (pa.get e2)));rw[hvr]at Wq;have q7:(S "1").length<=100:=tH.2.2.2.2.2.2.1;have hv1:v1.length<=1000:=hvb v1 (by rw[hvr];exact .head _);refine qm (k:=Hc.length) ((aB rfl).trans (aE (aI (mc (H1:=H1) (H2:=Hd) (H3:=Hd) AK cX ?_)))) (T5.trans pd) T5.len gd;exact(bh (H1:=Hd) (dw (H1:=Hd) (H2:=Hd) (x:=v1) (rE (i:=0) Wq rfl) rfl (by exact DM q7 hv1))).trans cW
  ·subst h;rw[if_neg (by decide)];obtain⟨-,-,-,q4,q5,q6,-⟩:=tH;refine fh (L1:=(C2 q ke (bl.map It.t) kt kl .none 2 (some (.str (cq (iC 2)))) none)) (H1:=H1) ((aw rfl).trans rfl) ?_;refine fh (L1:=(C2 q ke (bl.map It.t) kt kl .none 2 (some (.str (cq (iC 2)))) none)) (H1:=H1) ((aw rfl).trans rfl) ?_;refine fh (L1:=(C2 q ke (bl.map It.t) kt kl .none 2 (some (.str (cq (iC 2)))) (some (uh (cq (iC 2))).mv))) (H1:=H1) (aJ ((call2 (H1:=H1) (H2:=H1) (dw (H1:=H1) (H2:=H1) (dw (H1:=H1) (H2:=H1) rfl rfl ?_) rfl ?_) (yJ rfl rfl rfl rfl)).trans kE)) ?_
   ·show _+(cq (S "nope")).length<=_;exact yB q4 q5
   ·rw[aS];show _+(cq (S "nope")).length+_<=_;exact DN q4 q5 q6
   ·exact qm (aI (mc (H1:=H1) (H2:=H1) AK rfl rfl)) p1 hkl e1
def jt(c:HC)(r:List (Str×MV)):List (Str×MV):=(S "run",.fn (.ref d7))::(S "deeds",.obj c.hd)::r
structure Base(c:HC)(H:MH)(sp:Int)(av vs:List (Str×MV)):Prop where
 host:H[c.hh]?=some (.dict (br c 0 sp))
 er:∃r,H[c.ht]?=some (.dict (jt c r))/\(r=[]\/∃p,r=[(S "log",p)])
 av:H[c.hd]?=some (.dict av)
 vars:H[c.hv]?=some (.dict vs)
 jm:H[c.hc]?=some (.dict wV)
 vc:∀x p,cG x vs=some p->∃k fs,p=.inst 443 k/\H[k]?=some (.dict fs)/\k≠c.hh/\k≠c.hv/\((cA x=none/\cG (S "kind") fs=some (.str (S "none")))\/∃y,cA x=some y/\cG (S "kind") fs=some (.str (S "scalar"))/\cG (S "value") fs=some (.str y))
 lI:∀x y,cA x=some y->(cG x vs).isSome=true
 n1:c.hh≠c.ht/\c.hh≠c.hv/\c.hh≠c.hc/\c.hh≠c.hd
 n2:c.hv≠c.ht/\c.hv≠c.hc/\c.hv≠c.hd
 n4:c.ht≠c.hd/\c.ht≠c.hc/\c.hd≠c.hc
section
variable{c:HC}{hl:Nat}{H H':MH}{sp:Int}{Y2:List Str}{av vs:List (Str×MV)}
theorem Base.of(K:bt c hl H 0 sp Y2 av vs)(n4:c.ht≠c.hd/\c.ht≠c.hc/\c.hd≠c.hc):Base c H sp av vs where
 host:=K.host
 er:=⟨_,K.er,.inr ⟨_,rfl⟩⟩
 av:=K.av
 vars:=K.vars
 jm:=K.jm
 vc:=fun x p h=>(K.vc x p h).elim fun k y=>y.elim fun fs y=>⟨k,fs,y.1,y.2.1,y.2.2.1,y.2.2.2.2⟩
 lI:=K.lI
 n1:=⟨K.n1.1,K.n1.2.1,K.n1.2.2.1,K.n1.2.2.2.1⟩
 n2:=⟨K.n2.1,K.n2.2.1,K.n2.2.2.1⟩
 n4:=n4
theorem rF(c:HC)(v p:MV):put (S "log") v (jt c [])=jt c [(S "log",v)]/\put (S "log") v (jt c [(S "log",p)])=jt c [(S "log",v)]/\cG (S "kind") (jt c [(S "log",p)])=none/\cG (S "kind") (jt c [])=none:=by
 refine⟨?_,?_,?_,?_⟩<;>rfl'
theorem Base.kind(B:Base c H sp av vs)(h:H[k]?=some (.dict fs))(hq:(cG (S "kind") fs).isSome=true):k≠c.ht:=by
 intro q;subst q;obtain⟨r,h1,h2⟩:=B.er;rw[h]at h1;cases h1;rcases h2 with rfl|⟨p,rfl⟩
 ·rw[(rF c .none .none).2.2.2]at hq;cases hq
 ·rw[(rF c .none p).2.2.1]at hq;cases hq
theorem Base.lay(B:Base c H sp av vs):∃r,H[c.ht]?=some (.dict (jt c r))/\(jt c r).length<=1000/\put (S "log") (.obj H.length) (jt c r)=gJ c H.length/\bt c H.length ((H++[MO.list []]).set c.ht (.dict (gJ c H.length))) 0 sp [] av vs:=by
 obtain⟨r,h1,h2⟩:=B.er;have hp:put (S "log") (.obj H.length) (jt c r)=gJ c H.length:=by
  rcases h2 with rfl|⟨p,rfl⟩
  ·exact(rF c _ .none).1
  ·exact(rF c _ p).2.1
 have XY:(jt c r).length<=1000:=by
  rcases h2 with rfl|⟨p,rfl⟩<;>simp[jt]
 have lt:=fun {k:Nat}{o:MO}(h:H[k]?=some o)=>(cm.mp h).1
 have px:Pre H (H++[MO.list []]):=Pre.app _ _;have nt:=fun {k:Nat}{o:MO}(h:H[k]?=some o)=>(fun q=>absurd (q▸lt h) (Nat.lt_irrefl _):k≠H.length)
 refine⟨r,h1,XY,hp,?_⟩;have hs:∀{k:Nat}{o:MO},H[k]?=some o->k≠c.ht->((H++[MO.list []]).set c.ht (.dict (gJ c H.length)))[k]?=some o:=fun h hne=>(bB (Ne.symm hne)).trans (px.get h)
 have X2:c.ht<(H++[MO.list []]).length:=cF (lt h1) px.len;exact {
  host:=hs B.host B.n1.1
  er:=fQ X2
  mI:=(bB (nt h1)).trans (bc _ _)
  av:=hs B.av (Ne.symm B.n4.1)
  vars:=hs B.vars B.n2.1
  jm:=hs B.jm (Ne.symm B.n4.2.1)
  vc:=fun x p h=>by
   obtain⟨k,fs,q1,q2,q3,q4,q5⟩:=B.vc x p h;refine⟨k,fs,q1,hs q2 (B.kind q2 ?_),q3,nt q2,q4,q5⟩;rcases q5 with ⟨_,q⟩|⟨y,_,q,_⟩<;>rw[q]<;>rfl
  lI:=B.lI
  n1:=⟨B.n1.1,B.n1.2.1,B.n1.2.2.1,B.n1.2.2.2,nt B.host⟩
  n2:=⟨B.n2.1,B.n2.2.1,B.n2.2.2,nt B.vars⟩
  n3:=⟨Ne.symm (nt h1),Ne.symm (nt B.jm),Ne.symm (nt B.av)⟩ }
end
theorem kK{f:MV->MV->Option Bool}(h:f a b=some true)(t:rR f r s=some true):rR f (a::r) (b::s)=some true:=by
 show(match f a b,rR f r s with
  |some x,some y=>some (x&&y)
  |_,_=>none)=_
 rw[h,t];rfl
theorem qo(n:Nat):∀ss:List Str,rR (DO n) (ss.map MV.str) (ss.map MV.str)=some true
 |[]=>rfl
 |s::r=>by
  have h:DO n (.str s) (.str s)=some true:=by
   have:DO n (.str s) (.str s)=some (s==s):=by cases n<;>rfl
   rw[this,nT]
  exact kK h (qo n r)
theorem Pm{o:Out}(h:jr o.ec)(H:MH):bQ o.mv o.mv H=some (.val (.bool true) H):=by
 obtain⟨ss,hs⟩:=h;have e1:∀z:Int,DO 8 (.int z) (.int z)=some true:=fun z=>by
  show some (z==z)=_;rw[nT]
 have e2:DO 8 (.str o.val) (.str o.val)=some true:=by
  show some (o.val==o.val)=_;rw[nT]
 have e3:DO 8 o.ec o.ec=some true:=by
  rw[hs];exact qo 7 ss
 have:Ut o.mv o.mv H=some true:=by
  exact kK (e1 _) (kK e2 (kK e3 (kK (e1 _) rfl)))
 unfold bQ;rw[this];rfl
theorem Ig{H:MH}{j k:Nat}{ss:List Str}(h1:H[j]?=some (MO.list (ss.map MV.str)))(h2:H[k]?=some (MO.list (ss.map MV.str))):bQ (.obj j) (.obj k) H=some (.val (.bool true) H):=by
 have:Ut (.obj j) (.obj k) H=some true:=by
  unfold Ut;dsimp only;rw[h1,h2];exact qo 8 ss
 unfold bQ;rw[this];rfl
theorem AM(x:ExcAt H k o)(hv:∀fs,cG (S "code") fs=some (.int o.code)->cG (S "value") fs=some (.str o.val)->cG (S "errorcode") fs=some o.ec->cG (S "level") fs=some (.int o.lv)->cG XQ fs=some v)(hn:noFn v=true)(he:e bk L H=some (.val (.obj k) H)):c1 (gE XQ) e bk L H=some (.val v H):=by
 obtain⟨kd,fs,h1,h2,h3,h4,h5,h6,h7⟩:=x.ex;refine d0 he ?_;unfold gE;dsimp only;rw[h1];dsimp only;rw[h2];dsimp only;rw[hv fs h3 h4 h5 h6];dsimp only;rw[if_pos hn]
theorem uj(h:a o L H=some (.val (.bool true) H1)):wk a b o L H=b o L H1:=by
 unfold wk;rw[h];rfl
theorem AN{c:HC}{H:MH}{sp:Int}{av vs:List (Str×MV)}(B:Base c H sp av vs){i:It}(hi:i.ou av)(ha:i.At H)(hz:i.z<=40)(hv:vs.length+4*i.z<=900){n:Nat}:∃H' i7 cE,ah (n+150) cH [az c,i.mv] H=some (.val (.bool true) H')/\Base c H' i7 av cE/\cE.length<=vs.length+4*i.z/\∀(k:Nat) (xs:List MV),H[k]?=some (MO.list xs)->H'[k]?=some (MO.list xs):=by
 obtain⟨r,t1,t2,t3,K⟩:=B.lay;obtain⟨s,hs,hD⟩:=hi.D;have hl:=hi.l;obtain⟨H2,tr,gz,hdo,K2,x2,hv2⟩:=Run.ex<|(hD.tD (by exact yx hz hs rfl)) (n+149-(9+3*i.z+1)) c H.length _ sp [] av vs (eQ.refl _) K (by rw[cS];exact MB hz hl rfl) hv;rw[show n+149-(9+3*i.z+1)+(9+3*i.z+1)=n+149 by exact MC hz]at hdo;obtain⟨g1,-,-,g4,-⟩:=cK c 0 sp;obtain⟨f1,-,-,f4,-⟩:=cK c 0 tr;have F8:∀(k:Nat) (xs:List MV),H[k]?=some (MO.list xs)->H2[k]?=some (MO.list xs):=fun k xs h=>by
  have hlt:=(cm.mp h).1;have n1:k≠c.hh:=fun q=>by subst q;rw[B.host]at h;cases h
  have n2:k≠c.hv:=fun q=>by subst q;rw[B.vars]at h;cases h
  have n3:k≠c.ht:=fun q=>by subst q;rw[t1]at h;cases h
  have h1:((H++[MO.list []]).set c.ht (.dict (gJ c H.length)))[k]?=some (MO.list xs):=(bB (Ne.symm n3)).trans ((Pre.app _ _).get h);exact x2.get h1 n1 (by exact MD hlt) n2
 have cX:H2[i.k]?=some (MO.list (i.lg.map MV.str)):=F8 _ _ ha;rw[jb]at K2;refine⟨H2,tr,gz,?_,Base.of K2 B.n4,hv2,F8⟩;rw[show n+150=n+149+1 from rfl,aD (by decide) rfl ⟨ao _,ao _⟩];refine aP ?_;show aR (eS (ah (n+149)) [some (az c),some (.tup [i.t,.obj i.k,i.o.mv]),none,none,none,none,none] H) _;unfold eS;refine aj (L1:=[some (az c),some i.mv,some i.t,some (.obj i.k),some i.o.mv,none,none]) (H1:=H) rfl ?_;refine aj (L1:=[some (az c),some i.mv,some i.t,some (.obj i.k),some i.o.mv,none,none]) (H1:=(H++[MO.list []]).set c.ht (.dict (gJ c H.length))) ?_ ?_
 ·have e1:(dy ai) (ah (n+149)) [some (az c),some i.mv,some i.t,some (.obj i.k),some i.o.mv,none,none] H=some (.val (.obj H.length) (H++[MO.list []])):=pg (xs:=[]) rfl (by decide);have e2:(c1 (bA 691 (S "tools")) (ae 0)) (ah (n+149)) [some (az c),some i.mv,some i.t,some (.obj i.k),some i.o.mv,none,none] (H++[MO.list []])=some (.val (.obj c.ht) (H++[MO.list []])):=d0 rfl (eJ ((Pre.app _ _).get B.host) g1 rfl);unfold eZ;rw[e1];simp only[aW,e2,af,(Pre.app H [MO.list []]).get t1,if_pos t2,t3]
 (generalize hH1:(H++[MO.list []]).set c.ht (.dict (gJ c H.length))=H1 at K x2 hdo;revert H1;refine gA ?_;intros)
 have iK:∀z,ah (n+149) b0 [az c,i.t] H1=z->(ak (af (.fn (.ref b0))) (aa (ae 0) (aa (ae 2) ai))) (ah (n+149)) [some (az c),some i.mv,some i.t,some (.obj i.k),some i.o.mv,none,none] H1=z:=fun z hz=>(call2 rfl rfl).trans hz
 have vn:∀x6:Option MV,aR ((ag (aK (wk (c2 bQ (ae 5) (ae 4)) (wk (c2 bQ (c2 au (c1 (bA 691 (S "tools")) (ae 0)) (af (.str (S "log")))) (ae 3)) (c2 bQ (c1 (bA 691 (S "depth")) (ae 0)) (af (.int 0))))))
 aq) (ah (n+149)) [some (az c),some i.mv,some i.t,some (.obj i.k),some i.o.mv,some i.o.mv,x6] H2) (.val (.bool true) H2):=fun x6=>by
  refine aL (L1:=[some (az c),some i.mv,some i.t,some (.obj i.k),some i.o.mv,some i.o.mv,x6]) (aI ?_);refine(uj (H1:=H2) ((ba rfl rfl).trans (Pm hi.ec H2))).trans ?_;have e1:(c2 au (c1 (bA 691 (S "tools")) (ae 0)) (af (.str (S "log")))) (ah (n+149)) [some (az c),some i.mv,some i.t,some (.obj i.k),some i.o.mv,some i.o.mv,x6] H2=some (.val (.obj H.length) H2):=(ba (d0 rfl (eJ K2.host f1 rfl)) rfl).trans (kj K2.er (jQ c H.length).2.2);refine(uj (H1:=H2) ((ba e1 rfl).trans (Ig K2.mI cX))).trans ?_;exact(ba (H1:=H2) (d0 (H1:=H2) rfl (eJ K2.host f4 rfl)) rfl).trans rfl
 rcases hdo with ⟨c0,h1⟩|⟨k,c0,h1,h2,h3⟩
 ·refine aj (L1:=[some (az c),some i.mv,some i.t,some (.obj i.k),some i.o.mv,some i.o.mv,none]) (H1:=H2) ?_ (vn none);have hg:=(hi.T c0).1;have e1:(aO 5 (ak (af (.fn (.ref aZ))) (aa (ak (af (.fn (.ref b0))) (aa (ae 0) (aa (ae 2) ai))) ai))) (ah (n+149)) [some (az c),some i.mv,some i.t,some (.obj i.k),some i.o.mv,none,none] H1=some (.next [some (az c),some i.mv,some i.t,some (.obj i.k),some i.o.mv,some i.o.mv,none] H2):=by
   refine aJ ((bh (iK _ h1)).trans ?_);have:i.o.mv=(good i.o.val).mv:=by rw[hg];rfl
   rw[this];exact cW
  unfold q0;rw[aF e1];rfl
 ·refine aj (L1:=[some (az c),some i.mv,some i.t,some (.obj i.k),some i.o.mv,some i.o.mv,none]) (H1:=H2) ?_ (vn none);have e1:(aO 5 (ak (af (.fn (.ref aZ))) (aa (ak (af (.fn (.ref b0))) (aa (ae 0) (aa (ae 2) ai))) ai))) (ah (n+149)) [some (az c),some i.mv,some i.t,some (.obj i.k),some i.o.mv,none,none] H1=some (.exc k [some (az c),some i.mv,some i.t,some (.obj i.k),some i.o.mv,none,none] H2):=fg (zd (iK _ h1));have hec:noFn i.o.ec=true:=by obtain⟨ss,h⟩:=hi.ec;rw[h];rfl
  have e2:(aO 5 (aG (aa (c1 (gE (S "code")) (ae 6)) (aa (c1 (gE (S "value")) (ae 6)) (aa (c1 (gE (S "errorcode")) (ae 6)) (aa (c1 (gE (S "level")) (ae 6)) ai)))))) (ah (n+149)) [some (az c),some i.mv,some i.t,some (.obj i.k),some i.o.mv,none,some (.obj k)] H2=some (.next [some (az c),some i.mv,some i.t,some (.obj i.k),some i.o.mv,some i.o.mv,some (.obj k)] H2):=
   aJ (yJ (AM h2 (fun _ a _ _ _=>a) rfl rfl) (AM h2 (fun _ _ a _ _=>a) rfl rfl) (AM h2 (fun _ _ _ a _=>a) hec rfl) (AM h2 (fun _ _ _ _ a=>a) rfl rfl))
  unfold q0;rw[cu e1];show(match (ag _ _) (ah (n+149)) [some (az c),some i.mv,some i.t,some (.obj i.k),some i.o.mv,none,some (.obj k)] H2 with|some (.next L H)=>_|_=>none)=_;rw[aF e2];rfl
noncomputable def C3(o:Out)(m:Nat):Prop:=o.code=0->∃x:Tx,o=good (tx x.l)/\x.Ok m
structure NodeOk(d:List (Str×MV))(t:MV)(lg:List Str)(o:Out)(z:Nat):Prop where
 D:∃s,s<=z/\p9 (9+3*z) (4*z) s d t lg o
 T:C3 o (10*z)
 ec:jr o.ec
 l:lg.length<=z
theorem NodeOk.it(h:NodeOk d t lg o z)(k:Nat):∃x,It.ou ⟨t,k,lg,o,x,z⟩ d:=by
 by_cases q:o.code=0
 ·obtain⟨x,h1,h2⟩:=h.T q;exact⟨x,h.D,fun _=>⟨h1,h2⟩,h.ec,h.l⟩
 ·exact⟨⟨[],none,none⟩,h.D,fun e=>absurd e q,h.ec,h.l⟩
theorem It.ou.Wr{i:It}{d:List (Str×MV)}(h:i.ou d){m:Nat}(hm:10*i.z<=m):C3 i.o m:=fun q=>⟨i.x,(h.T q).1,(h.T q).2.le hm⟩
theorem It.ou.val{i:It}{d:List (Str×MV)}(h:i.ou d)(q:i.o.code=0):i.o.val=tx i.x.l:=by rw[(h.T q).1];rfl
theorem sy(h:fV l a b)(hl:l.length<=m):C3 (good (tx l)) m:=fun _=>⟨⟨l,a,b⟩,rfl,h,hl⟩
theorem iZ:C3 (bad t ec) m:=fun h=>absurd h (by show(1:Int)≠0;decide)
theorem nx(h1:a.code=0->C3 b m):C3 (dU a b) m:=by
 unfold dU;by_cases q:a.code=0
 ·rw[if_pos q];exact h1 q
 ·rw[if_neg q];exact fun h=>absurd h q
theorem qp(h1:jr a.ec)(h2:a.code=0->jr b.ec):jr (dU a b).ec:=by
 unfold dU;by_cases q:a.code=0
 ·rw[if_pos q];exact h2 q
 ·rw[if_neg q];exact h1
theorem i8(t:Str):jr (good t).ec:=⟨[],rfl⟩
theorem sA(t:Str):jr (lY t).ec:=⟨[S "TCL",S "VALUE",S "BOOLEAN"],rfl⟩
theorem Ih(t:Str):jr (qg t).ec:=⟨[S "TCL",S "VALUE",S "NUMBER"],rfl⟩
theorem F9(t:Str):jr (uh t).ec:=⟨[S "TCL",S "LOOKUP",S "COMMAND",t],rfl⟩
theorem vo(op:Str)(l:List Nat):jr (Ek op l).ec:=⟨[S "ARITH",S "DOMAIN",jk l],rfl⟩
theorem uk(b:Bool)(hm:1<=m):C3 (good (tx (wN b))) m:=sy (fV.QX b) (by cases b<;>exact hm)
theorem vp(h:z.natAbs<10^k)(hm:k+2<=m):C3 (good (tx (jF z))) m:=
 sy (fV.int z) (aN (Eh (k:=k+1) (by exact ME) (cF h (eD (by decide) (by exact lU)))) hm)
theorem ph(h:fV l (some z) b)(hl:l.length<=k):z.natAbs<10^k:=cF h.bound (eD (by decide) hl)
theorem Pn(k:Nat)(h1:m.natAbs<10^A)(h2:n.natAbs<10^B):(Kk k m n).natAbs<10^(A+B+1):=by
 have p0:(10:Nat)^(A+B+1)=10^A*10^B*10:=by rw[Nat.pow_succ,Nat.pow_add]
 have p3:m.natAbs<10^A*10^B:=cF h1 (Nat.le_mul_of_pos_right _ (jl B));have p4:n.natAbs<10^A*10^B:=cF h2 (Nat.le_mul_of_pos_left _ (jl A));rw[p0];rcases k with _|_|k
 ·exact gB (Int.natAbs_add_le m n) (v9 p3 p4)
 ·exact gB (El m n) (v9 p3 p4)
 ·show(m*n).natAbs<_;rw[Int.natAbs_mul];exact gB (Nat.mul_le_mul (k7 h1) (k7 h2)) (sg (Nat.mul_pos (jl A) (jl B)))
section
variable{d:List (Str×MV)}{a b c:It}
theorem It.ou.tD(h:a.ou d)(hz:a.z<=900):kG b0 (10+3*a.z) (4*a.z) d a.t a.lg a.o:=by
 obtain⟨s,hs,hD⟩:=h.D;exact(hD.tD (by exact yx hz hs rfl)).mono (by exact MF) (by exact mx) (eQ.refl _)
theorem AO(h:a.ou d)(hz:a.z<=33)(neg:Bool):NodeOk d (.tup [.str (S "un"),.str (if neg then S "-" else S "!"),a.t]) a.lg (dU a.o (if neg then lF a.x.l a.x.a else lE a.x.l a.x.b)) (a.z+1) where
 D:=by
  have hl:=SM (neg:=neg) (xa:=a.x) (by exact MG) (h.tD (by exact cU hz rfl)) (fun q=>⟨h.val q,(h.T q).2.1,aN (h.T q).2.2 (by exact yy hz)⟩);exact⟨0,by exact Du,(j6 nq.2.2.2.1 hl).mono (by exact MI) (by exact Dv) (eQ.refl _)⟩
 T:=by
  refine nx fun q=>?_
  obtain⟨hx,hl⟩:=(h.T q).2;cases neg with
  |true=>
   show C3 (lF a.x.l a.x.a) _;unfold lF;cases hA:a.x.a with
   |none=>exact iZ
   |some z=>
    rw[hA]at hx;have:=ph hx hl;exact vp (z:=0-z) (k:=10*a.z) (by exact MJ this) (by exact Dw)
  |false=>
   show C3 (lE a.x.l a.x.b) _;unfold lE;cases a.x.b with
   |none=>exact iZ
   |some z=>exact uk _ (by exact MK)
 ec:=by
  refine qp h.ec fun q=>?_
  cases neg with
  |true=>
   show jr (lF a.x.l a.x.a).ec;unfold lF;cases a.x.a with
   |none=>exact vo _ _
   |some z=>exact i8 _
  |false=>
   show jr (lE a.x.l a.x.b).ec;unfold lE;cases a.x.b with
   |none=>exact vo _ _
   |some z=>exact i8 _
 l:=aN h.l (by exact lU)
theorem F'(h1:la.length<=m)(h2:lb.length<=n):(qZ x la lb).length<=m+n:=by
 unfold qZ
 split
 ·rw[bJ];exact Dx h1 h2
 ·exact Dy h1
theorem Fb{k:Nat}(hk:k<6)(ha:a.ou d)(hb:b.ou d)(hz:a.z+b.z<=33):NodeOk d (.tup [.str (S "bin"),.str (gY k),a.t,b.t]) (qZ a.o a.lg b.lg) (dU a.o (dU b.o (el k a.x.l b.x.l a.x.a b.x.a))) (a.z+b.z+1) where
 D:=by
  obtain⟨s,hs,hD⟩:=ha.D;have hb':=hb.tD (by exact pY hz rfl);have hl:=EF (f:=12+3*(a.z+b.z)) (xa:=a.x) (xb:=b.x) hk (by exact ML) (by exact Dz hz hs rfl) (hD.mono (w':=4*a.z) (by exact MM) (by exact mx) (eQ.refl _)) (hb'.mono (w':=4*b.z) (by exact DA rfl) (by exact mx) (eQ.refl _)) (fun q=>⟨ha.val q,(ha.T q).2.1⟩) (fun q=>⟨hb.val q,(hb.T q).2.1⟩) (fun q1 q2=>by have:=(ha.T q1).2.2;have:=(hb.T q2).2.2;lia);exact⟨s+1,by exact DB hs,hl.mono (by exact MN) (by exact DC) (eQ.refl _)⟩
 T:=by
  refine nx fun q=>nx fun q'=>?_
  obtain⟨hx,hl⟩:=(ha.T q).2;obtain⟨hx',hl'⟩:=(hb.T q').2;unfold el
  split
  ·exact uk _ (by exact rQ)
  split
  ·exact uk _ (by exact rQ)
  split
  ·exact uk _ (by exact rQ)
  unfold ue;cases hA:a.x.a with
  |none=>exact iZ
  |some z=>
   cases hB:b.x.a with
   |none=>exact iZ
   |some z'=>
    rw[hA]at hx;rw[hB]at hx';exact vp (Pn k (ph hx hl) (ph hx' hl')) (by exact MP)
 ec:=by
  refine qp ha.ec fun q=>qp hb.ec fun q'=>?_
  unfold el
  split
  ·exact i8 _
  split
  ·exact i8 _
  split
  ·exact i8 _
  unfold ue;cases a.x.a with
  |none=>exact vo _ _
  |some z=>
   cases b.x.a with
   |none=>exact vo _ _
   |some z'=>exact i8 _
 l:=aN (F' ha.l hb.l) (by exact MQ)
theorem xj{or:Bool}(ha:a.ou d)(hb:b.ou d)(hz:a.z+b.z<=33):NodeOk d (.tup [.str (if or then S "or" else S "and"),a.t,b.t]) (qi or a.o a.x a.lg b.lg) (sr or a.o b.o a.x b.x) (a.z+b.z+1) where
 D:=by
  obtain⟨s,hs,hD⟩:=ha.D;have hb':=hb.tD (by exact pY hz rfl);have hl:=EI (f:=11+3*(a.z+b.z)) (xa:=a.x) (xb:=b.x) (or:=or) (by exact MR) (by exact Dz hz hs rfl) (hD.mono (w':=4*a.z) (by exact MS) (by exact mx) (eQ.refl _)) (hb'.mono (w':=4*b.z) (by have:=hs;exact DA rfl) (by exact mx) (eQ.refl _)) (fun q=>⟨ha.val q,(ha.T q).2.1,aN (ha.T q).2.2 (by exact MT hz)⟩) (fun q=>⟨hb.val q,(hb.T q).2.1,aN (hb.T q).2.2 (by exact MU hz)⟩);exact⟨s+1,by exact DB hs,hl.mono (by exact MW) (by exact DC) (eQ.refl _)⟩
 T:=by
  unfold sr;refine nx fun q=>?_
  cases a.x.b with
  |none=>exact iZ
  |some c=>
   dsimp only
   split
   ·exact uk _ (by exact rQ)
   ·refine nx fun q'=>?_
    cases b.x.b with
    |none=>exact iZ
    |some c=>exact uk _ (by exact rQ)
 ec:=by
  unfold sr;refine qp ha.ec fun q=>?_
  cases a.x.b with
  |none=>exact sA _
  |some c=>
   dsimp only
   split
   ·exact i8 _
   ·refine qp hb.ec fun q'=>?_
    cases b.x.b with
    |none=>exact sA _
    |some c=>exact i8 _
 l:=by
  have h1:=ha.l;have h2:=hb.l;unfold qi
  split
  ·cases a.x.b with
   |none=>show a.lg.length<=_;exact yz h1
   |some c=>
    dsimp only
    split
    ·exact yz h1
    ·rw[bJ];exact MX h1 h2
  ·exact yz h1
theorem Ii(ha:a.ou d)(hb:b.ou d)(hc:c.ou d)(hz:a.z+b.z+c.z<=33):NodeOk d (.tup [.str (S "if"),a.t,b.t,c.t]) (su a.o a.x a.lg b.lg c.lg) (tG a.o b.o c.o a.x) (a.z+b.z+c.z+1) where
 D:=by
  have hl:=SN (f:=10+3*(a.z+b.z+c.z)) (xa:=a.x) (by exact MY) ((ha.tD (by exact MZ hz rfl)).mono (w':=4*a.z) (by exact N1) (by exact mx) (eQ.refl _)) ((hb.tD (by exact N2 hz rfl)).mono (w':=4*b.z) (by exact N3) (by exact mx) (eQ.refl _)) ((hc.tD (by exact N4 hz rfl)).mono (w':=4*c.z) (by exact N5) (by exact mx) (eQ.refl _)) (fun q=>⟨ha.val q,(ha.T q).2.1,aN (ha.T q).2.2 (by exact N6 hz)⟩);exact⟨0,by exact N7,(j6 nq.2.2.2.2.1 hl).mono (by exact N8) (by exact N9) (eQ.refl _)⟩
 T:=by
  unfold tG;refine nx fun q=>?_
  cases a.x.b with
  |none=>exact iZ
  |some v=>cases v with
   |true=>exact hb.Wr (by exact N')
   |false=>exact hc.Wr (by exact Na)
 ec:=by
  unfold tG;refine qp ha.ec fun q=>?_
  cases a.x.b with
  |none=>exact sA _
  |some v=>cases v with
   |true=>exact hb.ec
   |false=>exact hc.ec
 l:=by
  have h1:=ha.l;have h2:=hb.l;have h3:=hc.l;unfold su
  split
  ·cases a.x.b with
   |none=>show a.lg.length<=_;exact DD h1
   |some v=>cases v with
    |true=>show(a.lg++b.lg).length<=_;rw[bJ];exact Nb h1 h2
    |false=>show(a.lg++c.lg).length<=_;rw[bJ];exact Nc h1 h3
  ·exact DD h1
end
noncomputable def sumZ:List It->Nat
 |[]=>0
 |i::r=>i.z+sumZ r
theorem ju{bl:List It}{i:It}(h:i∈bl):i.z<=sumZ bl:=by
 induction bl with
 |nil=>cases h
 |cons x r ih=>
  rcases bS.mp h with rfl|h
  ·exact mu _ _
  ·exact aN (ih h) (gC _ _)
theorem Ij{α:Type}{l:List α}(h:l.length=2):∃a b,l=[a,b]:=by
 obtain⟨a,t,rfl⟩:=mj h;obtain⟨b,rfl⟩:=List.length_eq_one_iff.mp (fm h);exact⟨a,b,rfl⟩
theorem Vt{α:Type}{l:List α}(h:l.length=3):∃a b c,l=[a,b,c]:=by
 obtain⟨a,t,rfl⟩:=mj h;obtain⟨b,c,rfl⟩:=Ij (fm h);exact⟨a,b,c,rfl⟩
theorem AP:∀bl:List It,lK (bl.map It.en)=4*sumZ bl
 |[]=>rfl
 |i::r=>by
  show 4*i.z+lK (r.map It.en)=4*(i.z+sumZ r);rw[AP r];exact Nd
theorem sC:∀{r:List En}{o:Out},(strict r).2=some o->∃e∈r,e.o=o
 |[],o,h=>by cases h
 |e::r,o,h=>by
  by_cases q:e.o.code=0
  ·rw[bz q]at h;obtain⟨e',h1,h2⟩:=sC h;exact⟨e',.tail _ h1,h2⟩
  ·rw[bP q]at h;cases h;exact⟨e,.head _,rfl⟩
theorem qO{d:List (Str×MV)}:∀bl:List It,(∀i∈bl,i.ou d)->(strict (bl.map It.en)).1.length<=sumZ bl
 |[],_=>ao _
 |i::r,h=>by
  have h1:=(h i (.head _)).l;have h2:=qO r fun j hj=>h j (.tail _ hj)
  show(strict (i.en::r.map It.en)).1.length<=i.z+sumZ r;by_cases q:i.en.o.code=0
  ·rw[bz q];show(i.lg++(strict (r.map It.en)).1).length<=_;rw[bJ];exact Dx h1 h2
  ·rw[bP q];show i.lg.length<=_;exact Dy h1
theorem Fc{K m:Nat}(hm:K+2<=m):∀(ts:List Tx) (zs:List Int),(∀t∈ts,t.Ok K)->(∀z∈zs,z.natAbs<10^K)->C3 (f7 ts zs) m:=by
 intro ts
 induction ts with
 |nil=>
  intro zs _ hz;rw[lH];refine vp (k:=K) ?_ hm;cases zs with
  |nil=>exact cF (by decide) (jl K)
  |cons z r=>
   obtain⟨m',h1,h2⟩:=lG z r;rw[h1];exact hz m' (by rcases h2 with rfl|h2;exact .head _;exact .tail _ h2)
 |cons t r ih=>
  intro zs ht hz;obtain⟨hok,hl⟩:=ht t (.head _);rw[sh];cases hA:t.a with
  |none=>exact iZ
  |some z=>
   rw[hA]at hok;refine ih (zs++[z]) (fun t h=>ht t (.tail _ h)) fun y hy=>?_
   rcases kT.mp hy with h|h
   ·exact hz y h
   ·cases c8.mp h;exact ph hok hl
theorem AQ:∀(ts:List Tx) (zs:List Int),jr (f7 ts zs).ec
 |[],zs=>i8 _
 |t::r,zs=>by
  rw[sh];cases t.a with
  |none=>exact Ih _
  |some z=>exact AQ r _
theorem T6:S "1"=tx [49]:=by ac_rfl
theorem C4{d:List (Str×MV)}{k:Nat}{bl:List It}(hk:k<3)(h0:bl≠ [])(hn:bl.length<=50)(hT:∀i∈bl,i.ou d)(hz:sumZ bl<=33):
  NodeOk d (.tup [.str (S "call"),.str (iC k),.tup (bl.map It.t)]) (gL k (bl.map It.en)) (iL k (bl.map It.en)) (sumZ bl+1) where
 D:=by
  have hes:∀e∈bl.map It.en,e.R (10+3*sumZ bl) d:=fun e he=>by
   obtain⟨i,hi,rfl⟩:=eb.mp he;have hzi:=ju hi;exact⟨((hT i hi).tD (by exact yx hz hzi rfl)).mono (by exact Nf hzi) (ao _) (eQ.refl _),fun q=>⟨(hT i hi).val q,((hT i hi).T q).2.le (by exact yA hz hzi)⟩⟩
  have hl:=I8 (k:=k) (by exact Ng) hk (by simpa using h0) (by rw[bR];exact cU hn rfl) hes;rw[AP,hH]at hl;exact⟨0,by exact Du,(j6 nq.2.2.2.2.2 hl).mono (by exact Nh) (by exact Dv) (eQ.refl _)⟩
 T:=by
  unfold iL;cases hs:(strict (bl.map It.en)).2 with
  |some o=>exact fun q=>absurd q (lL hs)
  |none=>
   have qj:=om hs;have Fd:∀i∈bl,i.o.code=0:=fun i hi=>qj i.en (eb.mpr ⟨i,hi,rfl⟩)
   show C3 (lZ (bl.map It.en) k) _;rcases (by exact k9 hk:k=0\/k=1\/k=2)with h|h|h<;>subst h
   ·refine Fc (K:=10*sumZ bl) (by exact Dw) _ _ (fun t ht=>?_) (fun z h=>by cases h);obtain⟨e,he,rfl⟩:=eb.mp ht;obtain⟨i,hi,rfl⟩:=eb.mp he;exact((hT i hi).T (Fd i hi)).2.le (by have:=ju hi;exact Ni this)
   ·cases bl with
    |nil=>exact absurd rfl h0
    |cons i r=>
     have hv:i.o.val=tx i.x.l:=(hT i (.head _)).val (Fd i (.head _));obtain⟨hok,hl⟩:=((hT i (.head _)).T (Fd i (.head _))).2;obtain⟨a',b',h'⟩:=hok.append;show C3 (good (i.o.val++S "1")) _;rw[hv,T6,OR];exact sy h' (by rw[bJ];show i.x.l.length+1<=10*(i.z+sumZ r+1);exact Nj hl)
   ·exact iZ
 ec:=by
  unfold iL;cases hs:(strict (bl.map It.en)).2 with
  |some o=>
   obtain⟨e,he,rfl⟩:=sC hs;obtain⟨i,hi,rfl⟩:=eb.mp he;exact(hT i hi).ec
  |none=>
   show jr (lZ (bl.map It.en) k).ec;rcases (by exact k9 hk:k=0\/k=1\/k=2)with h|h|h<;>subst h
   ·exact AQ _ _
   ·exact i8 _
   ·exact F9 _
 l:=by
  have h1:=qO bl hT;unfold gL;cases (strict (bl.map It.en)).2 with
  |some o=>show(strict (bl.map It.en)).1.length<=_;exact D9 h1
  |none=>
   dsimp only
   split
   ·rw[bJ];show _+1<=_;exact u7 h1
   ·exact D9 h1
noncomputable def mR(q:Int):Nat:=if q.fmod 6=2\/q.fmod 6=3 then 2 else if q.fmod 6<2 then 1 else 1+((q.fdiv 6).fmod 2).toNat
def il(Y1 q:Int):Nat:=if Y1<4 then 0 else if Y1=6 then 3 else if Y1<6 then 2 else mR q
theorem AR(x:Int):0<=x.fmod 2/\x.fmod 2<2:=⟨ml x (by decide),jW x (by decide)⟩
theorem C5(q:Int):1<=mR q/\mR q<=2:=by
 unfold mR
 split
 ·decide
 ·split
  ·decide
  ·exact⟨mu _ _,mm (OC (AR (q.fdiv 6)).2) 1⟩
theorem xk{n:Nat}{Y1 q:Int}{H:MH}:ah (n+1) o9 [.int Y1,.int q] H=some (.val (.int (il Y1 q)) H):=by
 rw[aD (by decide) rfl ⟨ao _,ao _⟩];refine aP ?_;show aR (lj (ah n) [some (.int Y1),some (.int q)] H) _;unfold lj il;have t1:∀H,(tE (c2 kq (ae 0) (af (.int 4)))) (ah n) [some (.int Y1),some (.int q)] H=some (.val (decide (Y1<4)) H):=fun _=>rfl
 have t2:∀H,(tE (c2 bQ (ae 0) (af (.int 6)))) (ah n) [some (.int Y1),some (.int q)] H=some (.val (Y1==6) H):=fun _=>rfl
 have t3:∀H,(tE (c2 kq (ae 0) (af (.int 6)))) (ah n) [some (.int Y1),some (.int q)] H=some (.val (decide (Y1<6)) H):=fun _=>rfl
 have t4:∀H,(tE (c2 nF (c2 gW (ae 1) (af (.int 6))) (aG (aa (af (.int 2)) (aa (af (.int 3)) ai))))) (ah n) [some (.int Y1),some (.int q)] H=some (.val (q.fmod 6==2||(q.fmod 6==3||false)) H):=fun _=>rfl
 have t5:∀H,(tE (c2 kq (c2 gW (ae 1) (af (.int 6))) (af (.int 2)))) (ah n) [some (.int Y1),some (.int q)] H=some (.val (decide (q.fmod 6<2)) H):=fun _=>rfl
 by_cases h1:Y1<4
 ·rw[if_pos h1];exact aL ((aB ((t1 H).trans (by rw[cO h1]))).trans (aE (aI rfl)))
 rw[if_neg h1];refine aj ((aw ((t1 H).trans (by rw[cz h1]))).trans rfl) ?_;by_cases h2:Y1=6
 ·rw[if_pos h2];exact aL ((aB ((t2 H).trans (by rw[eG.mpr h2]))).trans (aE (aI rfl)))
 rw[if_neg h2];refine aj ((aw ((t2 H).trans (by rw[gZ.mpr h2]))).trans rfl) ?_;have hor:∀b:Bool,(decide (Y1<6)||(q.fmod 6==2||(q.fmod 6==3||false)))=b->(nd (tE (c2 kq (ae 0) (af (.int 6)))) (tE (c2 nF (c2 gW (ae 1) (af (.int 6))) (aG (aa (af (.int 2)) (aa (af (.int 3)) ai)))))) (ah n) [some (.int Y1),some (.int q)] H=some (.val b H):=fun b hb=>by
  unfold nd;rw[t3];rw[<-hb];cases decide (Y1<6)with
  |true=>rfl
  |false=>exact t4 H
 by_cases h3:Y1<6
 ·rw[if_pos h3];exact aL ((aB (hor true (by rw[cO h3];rfl))).trans (aE (aI rfl)))
 rw[if_neg h3];unfold mR;by_cases h4:q.fmod 6=2\/q.fmod 6=3
 ·rw[if_pos h4];refine aL ((aB (hor true ?_)).trans (aE (aI rfl)));rcases h4 with h|h<;>rw[h]<;>simp
 rw[if_neg h4];refine aj ((aw (hor false ?_)).trans rfl) ?_
 ·rw[cz h3,gZ.mpr fun h=>h4 (.inl h),gZ.mpr fun h=>h4 (.inr h)];rfl
 by_cases h5:q.fmod 6<2
 ·rw[if_pos h5];exact aL (aI ((fU ((t5 H).trans (by rw[cO h5]))).trans rfl))
 rw[if_neg h5];refine aL (aI ((eT ((t5 H).trans (by rw[cz h5]))).trans ?_));have e:((1+((q.fdiv 6).fmod 2).toNat:Nat):Int)=1+(q.fdiv 6).fmod 2:=by have:=(AR (q.fdiv 6)).1;exact Nk this
 rw[e];rfl
theorem zt{d:List (Str×MV)}{n ke:Nat}{q:Int}{bl:List It}{H:MH}(hk:H[ke]?=some (.list (bl.map It.mv)))(ha:∀i∈bl,i.At H)(hT:∀i∈bl,i.ou d)(hz:sumZ bl<=33)(hn:bl.length=mR q):
  ∃t lg o,NodeOk d t lg o (sumZ bl+1)/\Ent H (ah (n+4) fu [.int q,.obj ke] H) t lg o:=by
 have hlg:∀i∈bl,i.lg.length<=1000:=fun i hi=>by
  have h1:=(hT i hi).l;have h2:=ju hi;exact DE hz h1 h2 rfl
 have m1:=ml q (show(0:Int)<6 by decide);have m2:=jW q (show(0:Int)<6 by decide);rcases (by exact Nl m1:q.fmod 6=0\/q.fmod 6=1\/q.fmod 6=2\/3<=q.fmod 6)with h|h|h|h
 ·have:bl.length=1:=by rw[hn];unfold mR;rw[if_neg (by exact Nm h),if_pos (by exact Nn h)]
  obtain⟨a,rfl⟩:=List.length_eq_one_iff.mp this;have hTa:=hT a (.head _);have hza:a.z<=33:=hz;refine⟨_,_,_,AO hTa hza false,xi (op:=S "!") h (by decide) (fun H=>rfl) hk (ha a (.head _)) (hlg a (.head _)) fun q H1=>?_⟩;rw[hTa.val q];exact(hTa.T q).2.1.HN (aN (hTa.T q).2.2 (by exact yy hza))
 ·have:bl.length=1:=by rw[hn];unfold mR;rw[if_neg (by exact Np h),if_pos (by exact Nq h)]
  obtain⟨a,rfl⟩:=List.length_eq_one_iff.mp this;have hTa:=hT a (.head _);have hza:a.z<=33:=hz;refine⟨_,_,_,AO hTa hza true,xi (op:=S "-") h (by decide) (fun H=>rfl) hk (ha a (.head _)) (hlg a (.head _)) fun q H1=>?_⟩;rw[hTa.val q];exact(hTa.T q).2.1.HO (aN (hTa.T q).2.2 (by exact yy hza))
 ·have:bl.length=2:=by rw[hn];unfold mR;rw[if_pos (by exact Nr h)]
  obtain⟨a,b,rfl⟩:=Ij this;have hTa:=hT a (.head _);have hTb:=hT b (.tail _ (.head _));have T7:a.z+b.z<=33:=hz;obtain⟨k,hk6,hk'⟩:∃k:Nat,(q.fdiv 6).fmod 6=k/\k<6:=by
   have h1:=ml (q.fdiv 6) (show(0:Int)<6 by decide);have h2:=jW (q.fdiv 6) (show(0:Int)<6 by decide);exact⟨((q.fdiv 6).fmod 6).toNat,by exact uS h1,UM (m:=6) (by decide)⟩
  refine⟨_,_,_,Fb hk' hTa hTb T7,C1 h hk6 hk' hk (ha a (.head _)) (ha b (.tail _ (.head _))) (hlg a (.head _)) (hlg b (.tail _ (.head _))) fun q1 q2 H1=>?_⟩;rw[hTa.val q1,hTb.val q2];exact yU hk' (hTa.T q1).2.1 (hTb.T q2).2.1 (f3 (cZ 10 T7) (hTa.T q1).2.2 (hTb.T q2).2.2)
 ·obtain⟨k,hk3,hkq⟩:∃k:Nat,k<3/\q.fmod 6=3+(k:Int):=⟨(q.fmod 6-3).toNat,(Int.toNat_lt (Int.sub_nonneg_of_le h)).mpr (Int.sub_left_lt_of_lt_add (show q.fmod 6<3+3 from jW q (by decide))),by exact Nt h⟩
  have XY:1<=bl.length/\bl.length<=2:=by
   rw[hn];exact C5 q
  have h0:bl≠ []:=fun e=>by rw[e]at XY;exact absurd XY.1 (by decide)
  exact⟨_,_,_,C4 hk3 h0 (by exact DF XY) hT hz,zr hkq hk3 h0 (by exact DF XY) hk ha hlg fun i hi q=>⟨(hT i hi).val q,((hT i hi).T q).2.le (by have:=ju hi;exact yA hz this)⟩⟩
section
variable{c:HC}{H H':MH}{sp:Int}{av vs:List (Str×MV)}
theorem Base.pre(B:Base c H sp av vs)(x:Pre H H'):Base c H' sp av vs where
 host:=x.get B.host
 er:=B.er.elim fun r z=>⟨r,x.get z.1,z.2⟩
 av:=x.get B.av
 vars:=x.get B.vars
 jm:=x.get B.jm
 vc:=fun y p h=>(B.vc y p h).elim fun k z=>z.elim fun fs z=>⟨k,fs,z.1,x.get z.2.1,z.2.2⟩
 lI:=B.lI
 n1:=B.n1
 n2:=B.n2
 n4:=B.n4
theorem Base.wW(B:Base c H sp av vs)(hk:H[km]?=some (.list xs)):Base c (H.set km (.list ys)) sp av vs:=by
 have ne:∀{k es},H[k]?=some (MO.dict es)->(H.set km (.list ys))[k]?=some (MO.dict es):=fun {k es} h=>(bB (fun q=>by subst q;rw[hk]at h;cases h)).trans h
 exact⟨ne B.host,B.er.elim fun r z=>⟨r,ne z.1,z.2⟩,ne B.av,ne B.vars,ne B.jm,fun y p h=>(B.vc y p h).elim fun k z=>z.elim fun fs z=>⟨k,fs,z.1,ne z.2.1,z.2.2⟩,B.lI,B.n1,B.n2,B.n4⟩
theorem Base.putD(B:Base c H sp av vs)(hq:cG (S "kind") av=none)(d':List (Str×MV)):Base c (H.set c.hd (.dict d')) sp d' vs:=by
 have ne:∀{k o},H[k]?=some o->k≠c.hd->(H.set c.hd (.dict d'))[k]?=some o:=fun h hk=>(bB (Ne.symm hk)).trans h
 have lt:=(cm.mp B.av).1;refine⟨ne B.host B.n1.2.2.2,B.er.elim fun r z=>⟨r,ne z.1 B.n4.1,z.2⟩,fQ lt,ne B.vars B.n2.2.2,ne B.jm (Ne.symm B.n4.2.2),fun y p h=>?_,B.lI,B.n1,B.n2,B.n4⟩
 obtain⟨k,fs,h1,h2,h3,h4,h5⟩:=B.vc y p h;refine⟨k,fs,h1,ne h2 (fun q=>?_),h3,h4,h5⟩;subst q;rw[B.av]at h2;cases h2;rcases h5 with ⟨_,q⟩|⟨y,_,q,_⟩<;>rw[hq]at q<;>cases q
theorem Base.lists(B:Base c H sp av vs)(h:H[k]?=some (.list xs)):k≠c.hd:=fun q=>by subst q;rw[B.av]at h;cases h
end
def tL(p:Nat):Str:=S "s"++tx (jF p)
theorem Ik:∀i,i<33->∀j,j<33->tL i=tL j->i=j:=by ac_rfl
theorem Fe:∀i,i<33->S "kind"≠tL i:=by ac_rfl
theorem Il:∀i,i<33->(tL i).length<=100:=by ac_rfl
noncomputable def m6:List Int:=[0,16,4,24,5,48,64,6,40,8,5,131,215,39,7,72,8,4,8,64,4,80,8,5,139,64,99,6,16,47,32,56,31]
noncomputable def mS(x:It×Int):MV:=.tup [x.1.mv,.int x.2]
structure LS(c:HC)(kr kx:Nat)(xs:List Int)(p:Nat)(H:MH)(sp:Int)(av vs:List (Str×MV))(ks:Nat)(st:List (It×Int)):Prop where
 B:Base c H sp av vs
 rows:H[kr]?=some (.list (m6.map MV.int))
 Im:H[kx]?=some (.list (xs.map MV.int))
 D2:H[ks]?=some (.list (st.map mS))
 nr:ks≠kr/\ks≠kx
 Hu:∀x∈st,x.1.ou av/\x.1.At H/\x.1.k≠ks
 sz:sumZ (st.map Prod.fst)<=p
 len:st.length<=p
 R5:vs.length+4*sumZ (st.map Prod.fst)<=20+4*p
 dn:∀j,p<=j->j<33->cG (tL j) av=none
 dk:cG (S "kind") av=none
 dl:av.length<=p
theorem It.ou.sub{i:It}{d d':List (Str×MV)}(h:i.ou d)(hd:eQ d d'):i.ou d':=⟨h.D.elim fun s z=>⟨s,z.1,z.2.mono (ao _) (ao _) hd⟩,h.T,h.ec,h.l⟩
theorem sD:∀a b:List It,sumZ (a++b)=sumZ a+sumZ b
 |[],b=>(Nat.zero_add _).symm
 |i::r,b=>by
  show i.z+sumZ (r++b)=i.z+sumZ r+sumZ b;rw[sD r b];exact JY
theorem eQ.put{d:List (Str×MV)}{x:Str}{v:MV}(h:cG x d=none):eQ d (Mine.Internal.put x v d):=fun y p hy=>by
 rw[lJ];by_cases q:y=x
 ·subst q;rw[h]at hy;cases hy
 ·rw[if_neg q];exact hy
theorem xl(h:i<=n):clipAt n (i:Int)=i:=by unfold clipAt;rw[if_neg (by exact D6)];exact D7 h
theorem Ff{α:Type}{i:Nat}{xs:List α}(h:i<=xs.length):je (some (i:Int)) none xs=xs.drop i:=by
 unfold je;rw[show(some (i:Int)).elim 0 (clipAt xs.length)=i from xl h];show(xs.drop i).take (xs.length-i)=_;rw[List.take_of_length_le (by rw[mr];exact Nu)]
theorem Po{α:Type}{i:Nat}{xs:List α}(h:i<=xs.length):je none (some (i:Int)) xs=xs.take i:=by
 unfold je;rw[show(some (i:Int)).elim xs.length (clipAt xs.length)=i from xl h];show(xs.drop 0).take (i-0)=_;rw[List.drop_zero,Nat.sub_zero]
section
variable{o:g8}{L:Loc}{H:MH}{ks:Nat}{xs:List MV}{a b:CE}
theorem zu{i:Nat}(hk:H[ks]?=some (.list xs))(hi:i<=xs.length)(ha:a o L H=some (.val (.obj ks) H))(hb:b o L H=some (.val (.int i) H)):dG a b (af .none) o L H=some (.val (.obj H.length) (H++[.list (xs.drop i)])):=by
 unfold dG;simp only[ha,hb,bindR,af,uU,gD,hk,Ff hi]
theorem Fg{i:Nat}(hk:H[ks]?=some (.list xs))(hi:i<=xs.length)(ha:a o L H=some (.val (.obj ks) H))(hb:b o L H=some (.val (.int i) H)):dG a (af .none) b o L H=some (.val (.obj H.length) (H++[.list (xs.take i)])):=by
 unfold dG;simp only[ha,hb,bindR,af,uU,gD,hk,Po hi]
theorem zw(hk:H[ks]?=some (.list xs)):eY (.obj ks) H=some (.val (.int xs.length) H):=by
 unfold eY;dsimp only;rw[hk]
end
theorem Io(q:Int):∃j,j<20/\∀(n:Nat) (H:MH),ah (n+1) eI [.int q] H=some (.val (dV j) H):=by
 obtain⟨j,hj,-,hq⟩:=AG (n:=0) (q:=q) (H:=[]);refine⟨j,hj,fun n H=>?_⟩;obtain⟨j',-,h1,h2⟩:=AG (n:=n) (q:=q) (H:=H);have:j'=j:=by exact Nv hq h2
 rw[<-this];exact h1
def ow:CS:=(ag (aO 9 (c2 bb (af (.str (S "s"))) (c1 iN (ae 4))))
  (ag (eZ (c2 au (c1 (bA 691 (S "tools")) (ae 2)) (af (.str (S "deeds")))) (ae 9) (ak (af (.fn (.ref eI))) (aa (eL (tE (c2 bQ (ae 6) (af (.int 3)))) (c2 iz (ae 7) (af (.int 6))) (ae 7)) ai)))
  (ag (bT (cM .list cg (ae 3) (aa (aG (aa (ak (af (.fn (.ref ji))) (aa (ae 6) (aa (ae 7) (aa (ae 9) ai)))) (aa (af (.int 0)) ai))) ai)))
  (ag wx
  aq))))
abbrev ck(c:HC)(kr kx ks:Nat)(r:List (Option MV)):Loc:=some (.obj kx)::some (.obj kr)::some (az c)::some (.obj ks)::r
noncomputable def pj(c:HC)(kr kx:Nat)(xs:List Int)(p:Nat)(z:Option RS):Prop:=∃H' i7 fb cE nM r8 r',r'.length=11/\(z=some (.next (ck c kr kx nM r') H')\/z=some (.cont (ck c kr kx nM r') H'))/\LS c kr kx xs (p+1) H' i7 fb cE nM r8
theorem gM(h:a o L H=some (.next L1 H1))(h2:pj c kr kx xs p (b o L1 H1)):pj c kr kx xs p (ag a b o L H):=by rw[aF h];exact h2
theorem xm(c:HC)(r:List (Str×MV)):cG (S "deeds") (jt c r)=some (.obj c.hd):=by rfl'
section
variable{c:HC}{kr kx:Nat}{xs:List Int}{p:Nat}{H:MH}{sp:Int}{av vs:List (Str×MV)}{ks:Nat}{st:List (It×Int)}
theorem LS.low(Z:LS c kr kx xs p H sp av vs ks st)(hx:x∈st):x.1.k<H.length:=(cm.mp (Z.Hu x hx).2.1).1
theorem LS.push(B:Base c H sp av vs)(rows:H[kr]?=some (.list (m6.map MV.int)))(Im:H[kx]?=some (.list (xs.map MV.int)))
  (D2:H[ks]?=some (.list (st.map mS))) (nr:ks≠kr/\ks≠kx) (Hu:∀x∈st,x.1.ou av/\x.1.At H/\x.1.k≠ks) (hi:i.ou av/\i.At H/\i.k≠ks)
  (sz:sumZ (st.map Prod.fst)+i.z<=p+1) (len:st.length+1<=p+1) (R5:vs.length+4*(sumZ (st.map Prod.fst)+i.z)<=20+4*(p+1)) (dn:∀j,p+1<=j->j<33->cG (tL j) av=none) (dk:cG (S "kind") av=none) (dl:av.length<=p+1):
  LS c kr kx xs (p+1) (H.set ks (.list (st.map mS++[.tup [i.mv,.int h]]))) sp av vs ks (st++[(i,h)]):=by
 have lt:=(cm.mp D2).1;have ne:∀{k o},H[k]?=some o->ks≠k->(H.set ks (.list (st.map mS++[.tup [i.mv,.int h]])))[k]?=some o:=fun h hk=>(bB hk).trans h
 have Ws:sumZ ((st++[(i,h)]).map Prod.fst)=sumZ (st.map Prod.fst)+i.z:=by
  rw[fk,sD];rfl
 refine⟨B.wW D2,ne rows nr.1,ne Im nr.2,?_,nr,fun x hx=>?_,by rw[Ws];exact sz,by rw[bJ];exact len,by rw[Ws];exact R5,dn,dk,dl⟩
 ·rw[fQ lt,fk];rfl
 ·rcases kT.mp hx with hx|hx
  ·obtain⟨h1,h2,h3⟩:=Hu x hx;exact⟨h1,ne h2 (Ne.symm h3),h3⟩
  ·cases c8.mp hx;exact⟨hi.1,ne hi.2.1 (Ne.symm hi.2.2),hi.2.2⟩
theorem zx(Z:LS c kr kx xs p H sp av vs ks st)(hp:p<33):
  pj c kr kx xs p (ow (ah (n+150)) (ck c kr kx ks [some (.int p),a5,some (.int Y1),some (.int q),a8,a9,mh,r9,rb,rf,rg]) H):=by
 obtain⟨j,hj,Kr⟩:=Io (if Y1=3 then q.fdiv 6 else q);obtain⟨r,t1,t2⟩:=Z.B.er;obtain⟨g1,-⟩:=cK c 0 sp;unfold ow;have hs:(S "s").length<=100:=by ac_rfl
 have hnl:=Il p hp;refine gM (L1:=ck c kr kx ks [some (.int p),a5,some (.int Y1),some (.int q),a8,some (.str (tL p)),mh,r9,rb,rf,rg]) (H1:=H) ?_ ?_
 ·have e1:(c1 iN (ae 4)) (ah (n+150)) (ck c kr kx ks [some (.int p),a5,some (.int Y1),some (.int q),a8,a9,mh,r9,rb,rf,rg]) H=some (.val (.str (tx (jF p))) H):=d0 rfl (str_int (by
   exact cF (show(p:Int).natAbs<10^2 by exact Nw hp) (eD (by decide) (by decide))))
  exact aJ (dw (x:=S "s") rfl e1 (by
   have:(S "s"++tx (jF p)).length<=100:=hnl;rw[aS]at this;exact aN this (by decide)))
 (generalize hH1:H.set c.hd (.dict (put (tL p) (dV j) av))=H1;revert H1;refine gA ?_;intros)
 have hst:(eZ (c2 au (c1 (bA 691 (S "tools")) (ae 2)) (af (.str (S "deeds")))) (ae 9) (ak (af (.fn (.ref eI))) (aa (eL (tE (c2 bQ (ae 6) (af (.int 3)))) (c2 iz (ae 7) (af (.int 6))) (ae 7)) ai))) (ah (n+150)) (ck c kr kx ks [some (.int p),a5,some (.int Y1),some (.int q),a8,some (.str (tL p)),mh,r9,rb,rf,rg]) H=some (.next (ck c kr kx ks [some (.int p),a5,some (.int Y1),some (.int q),a8,some (.str (tL p)),mh,r9,rb,rf,rg]) H1):=by
  have e0:(eL (tE (c2 bQ (ae 6) (af (.int 3)))) (c2 iz (ae 7) (af (.int 6))) (ae 7)) (ah (n+150)) (ck c kr kx ks [some (.int p),a5,some (.int Y1),some (.int q),a8,some (.str (tL p)),mh,r9,rb,rf,rg]) H=some (.val (.int (if Y1=3 then q.fdiv 6 else q)) H):=by
   have et:(tE (c2 bQ (ae 6) (af (.int 3)))) (ah (n+150)) (ck c kr kx ks [some (.int p),a5,some (.int Y1),some (.int q),a8,some (.str (tL p)),mh,r9,rb,rf,rg]) H=some (.val (Y1==3) H):=rfl;by_cases h:Y1=3
   ·rw[if_pos h];exact(fU (et.trans (by rw[eG.mpr h]))).trans rfl
   ·rw[if_neg h];exact(eT (et.trans (by rw[gZ.mpr h]))).trans rfl
  have e1:(ak (af (.fn (.ref eI))) (aa (eL (tE (c2 bQ (ae 6) (af (.int 3)))) (c2 iz (ae 7) (af (.int 6))) (ae 7)) ai)) (ah (n+150)) (ck c kr kx ks [some (.int p),a5,some (.int Y1),some (.int q),a8,some (.str (tL p)),mh,r9,rb,rf,rg]) H=some (.val (dV j) H):=(bh e0).trans (Kr (n+149) H);have e2:(c2 au (c1 (bA 691 (S "tools")) (ae 2)) (af (.str (S "deeds")))) (ah (n+150)) (ck c kr kx ks [some (.int p),a5,some (.int Y1),some (.int q),a8,some (.str (tL p)),mh,r9,rb,rf,rg]) H=some (.val (.obj c.hd) H):=(ba (d0 rfl (eJ Z.B.host g1 rfl)) rfl).trans (kj t1 (xm c r));have e3:(ae 9) (ah (n+150)) (ck c kr kx ks [some (.int p),a5,some (.int Y1),some (.int q),a8,some (.str (tL p)),mh,r9,rb,rf,rg]) H=some (.val (.str (tL p)) H):=rfl;unfold eZ;rw[e1];simp only[aW,e2,e3,Z.B.av,if_pos (show av.length<=1000 by have:=Z.dl;exact DG hp this rfl),hH1]
 refine gM hst ?_;have hdn:=Z.dn p (ao _) hp;have uZ:eQ av (put (tL p) (dV j) av):=eQ.put hdn;have B1:Base c H1 sp (put (tL p) (dV j) av) vs:=by rw[<-hH1];exact Z.B.putD Z.dk _
 have keep:∀{k xs},H[k]?=some (MO.list xs)->H1[k]?=some (MO.list xs):=fun h=>by rw[<-hH1];exact(bB (Ne.symm (Z.B.lists h))).trans h
 obtain⟨t,lg,o,hD,k,H2,h1,p2,h3,h4⟩:=xe (n:=n+146) (Y1:=Y1) (q:=q) (XQ:=tL p) (H:=H1) hj hnl (Kr (n+148) H1);have hit:∃x,It.ou ⟨t,k,lg,o,x,1⟩ (put (tL p) (dV j) av):=by
  refine NodeOk.it (z:=1) ⟨⟨0,eW _,(hD.D _ (by rw[lJ,if_pos rfl])).mono (by decide) (by decide) (eQ.refl _)⟩,fun q=>?_,hD.ec,hD.l⟩ k
  obtain⟨t,e1,e2⟩:=hD.T q;exact⟨t,by rw[hD.g q,e1],e2.le (by decide)⟩
 obtain⟨x,hit⟩:=hit;have e4:(aG (aa (ak (af (.fn (.ref ji))) (aa (ae 6) (aa (ae 7) (aa (ae 9) ai)))) (aa (af (.int 0)) ai))) (ah (n+150)) (ck c kr kx ks [some (.int p),a5,some (.int Y1),some (.int q),a8,some (.str (tL p)),mh,r9,rb,rf,rg]) H1=some (.val (.tup [It.mv ⟨t,k,lg,o,x,1⟩,.int 0]) H2):=jE ((s7 rfl rfl rfl).trans h1) rfl;have hks:=p2.get (keep Z.D2);have hll:=Z.len;refine gM (vh (i:=3) e4 rfl (keep Z.D2) hks (by rw[bR];exact Nx hp hll rfl)) ?_;have hlt:=(cm.mp (keep Z.D2)).1;refine⟨_,_,_,_,ks,st++[(⟨t,k,lg,o,x,1⟩,0)],_,?_,.inr rfl,LS.push (B1.pre p2) (p2.get (keep Z.rows)) (p2.get (keep Z.Im)) hks Z.nr (fun y hy=>?_) ⟨hit,h4,by show k≠ks;exact uQ h3 hlt⟩ ?_ (by exact u7 hll) ?_ (fun j' h1 h2=>?_) ?_ (aN vd (by have:=Z.dl;exact u7 this))⟩
 ·rfl
 ·obtain⟨y1,y2,y3⟩:=Z.Hu y hy;exact⟨y1.sub uZ,p2.get (keep y2),y3⟩
 ·have:=Z.sz;show _+1<=_;exact u7 this
 ·have:=Z.R5;show _+4*(_+1)<=_;exact Ny this
 ·rw[lJ,if_neg (fun e=>by have:=Ik j' h2 p hp e;exact Nz h1 this)];exact Z.dn j' (by exact Ah h1) h2
 ·rw[lJ,if_neg (Fe p hp)];exact Z.dk
end
def ny:CS:=(bN (tE (c2 bQ (ae 6) (af (.int 7))))
  (ag (aO 12 (ak (af (.fn (.ref fu))) (aa (ae 7) (aa (ae 11) ai))))
  aq)
  (ag (di [13,14] (ak (af (.fn (.ref fq))) (aa (ae 6) (aa (ae 11) ai))))
  (ag (aO 12 (aG (aa (c2 bb (aG (aa (c2 au (aG (aa (af (.str (S "and"))) (aa (af (.str (S "or"))) (aa (af (.str (S "if"))) ai)))) (c2 dT (ae 6) (af (.int 4)))) ai)) (c1 kc (cR [] (c2 au (ae 0) (af (.int 0))) (ae 11)))) (aa (ae 13) (aa (ae 14) ai)))))
  aq)))
def zy:CT:=(jC (tE (c2 kq (ae 10) (af (.int 14)))) (nd (tE (c2 bQ (c2 au (c2 au (ae 12) (af (.int 2))) (af (.int 0))) (af (.int 0)))) (tE (c2 bQ (c2 gW (c2 iz (ae 5) (af (.int 40))) (af (.int 3))) (af (.int 2))))))
def Pp:CS:=(bN zy
  (ag (bT (cM .list cg (ae 3) (aa (aG (aa (ae 12) (aa (ae 10) ai))) ai)))
  aq)
  (ag (bN (oH (tE (ak (af (.fn (.ref cH))) (aa (ae 2) (aa (ae 12) ai)))))
   (ag (aK (af (.bool false)))
   aq)
   aq)
  aq))
def vq:CS:=ag ny (ag Pp aq)
def vr:CS:=
 (ag (aO 10 (c2 bb (af (.int 1)) (c1 oM (cR [] (c2 au (ae 0) (af (.int 1))) (dG (ae 3) (c2 dT (c1 eY (ae 3)) (ae 8)) (af .none))))))
 (ag (aO 11 (cR [] (c2 au (ae 0) (af (.int 0))) (dG (ae 3) (c2 dT (c1 eY (ae 3)) (ae 8)) (af .none))))
 (ag (aO 3 (dG (ae 3) (af .none) (c2 dT (c1 eY (ae 3)) (ae 8)))) vq)))
section
variable{c:HC}{kr kx:Nat}{xs:List Int}{p:Nat}{H:MH}{sp:Int}{av vs:List (Str×MV)}{ks:Nat}{st:List (It×Int)}{o:g8}
theorem Fh(hk:H[ks]?=some (.list Vu))(hm:m<=Vu.length):(c2 dT (c1 eY (ae 3)) (ae 8)) o (ck c kr kx ks [some pp,x5,x6,x7,some (.int m),x9,AS,zz,rh,qq,qr]) H=some (.val (.int ((Vu.length-m:Nat):Int)) H):=by
 rw[Int.ofNat_sub hm];exact(ba (d0 rfl (zw hk)) rfl).trans rfl
theorem Fi(hk:H[ks]?=some (.list (st.map mS)))(hm1:1<=m)(hm:m<=st.length)(hn:st.length<=1000):
  ∃(high:Int) (kt nM:Nat) (H1:MH),vr o (ck c kr kx ks [some pp,x5,x6,x7,some (.int m),x9,AS,zz,rh,qq,qr]) H=vq o (ck c kr kx nM [some pp,x5,x6,x7,some (.int m),x9,some (.int high),some (.obj kt),rh,qq,qr]) H1/\
   Pre H H1/\H1[kt]?=some (.list (((st.drop (st.length-m)).map Prod.fst).map It.mv))/\H1[nM]?=some (.list ((st.take (st.length-m)).map mS))/\H.length<=nM:=by
 have XY:(st.map mS).length=st.length:=bR ..;have hdl:(st.drop (st.length-m)).length=m:=by rw[mr];exact NA hm1 hm
 have c0:∀{H':MH}{AS zz:Option MV},Pre H H'->(dG (ae 3) (c2 dT (c1 eY (ae 3)) (ae 8)) (af .none)) o (ck c kr kx ks [some pp,x5,x6,x7,some (.int m),x9,AS,zz,rh,qq,qr]) H'=some (.val (.obj H'.length) (H'++[.list ((st.drop (st.length-m)).map mS)])):=fun {H' AS zz} x=>by
  have:=zu (a:=ae 3) (o:=o) (L:=ck c kr kx ks [some pp,x5,x6,x7,some (.int m),x9,AS,zz,rh,qq,qr]) (x.get hk) (Nat.sub_le _ m) rfl (Fh (x.get hk) (by rw[XY];exact hm));rw[XY,<-List.map_drop]at this;exact this
 have e1:=kJ (elt:=c2 au (ae 0) (af (.int 1))) (bl:=st.drop (st.length-m)) (g:=mS) (f:=fun x=>.int x.2) (c0 (AS:=AS) (zz:=zz) (Pre.refl H)) (bc _ _) (by exact DH hm hn hdl) (fun i _ H _=>rfl)
 (generalize hH1:H++[MO.list ((st.drop (st.length-m)).map mS)]=H1 at e1;revert H1;refine gA ?_;intros)
 have p1:Pre H H1:=by rw[<-hH1];exact Pre.app _ _
 obtain⟨h0,Vv⟩:∃h0,fX ((st.drop (st.length-m)).map fun x=>MV.int x.2)=some h0:=by
  cases hd:st.drop (st.length-m)with
  |nil=>rw[hd]at hdl;simp at hdl;lia
  |cons y r=>
   obtain⟨m',h1,-⟩:=lG y.2 (r.map Prod.snd);refine⟨m',?_⟩;rw[<-h1,cT,cT,hH];rfl
 have p2:Pre H (H1++[.list ((st.drop (st.length-m)).map fun x=>MV.int x.2)]):=p1.trans (Pre.app _ _);have g2:(H1++[MO.list ((st.drop (st.length-m)).map fun x=>MV.int x.2)])[H1.length]?=_:=bc _ _
 (generalize H1++[MO.list ((st.drop (st.length-m)).map fun x=>MV.int x.2)]=H2 at e1 p2 g2;revert H2;refine gA ?_;intros)
 have X3:(c2 bb (af (.int 1)) (c1 oM (cR [] (c2 au (ae 0) (af (.int 1))) (dG (ae 3) (c2 dT (c1 eY (ae 3)) (ae 8)) (af .none))))) o (ck c kr kx ks [some pp,x5,x6,x7,some (.int m),x9,AS,zz,rh,qq,qr]) H=some (.val (.int (1+h0)) H2):=by
  have:(c1 oM (cR [] (c2 au (ae 0) (af (.int 1))) (dG (ae 3) (c2 dT (c1 eY (ae 3)) (ae 8)) (af .none)))) o (ck c kr kx ks [some pp,x5,x6,x7,some (.int m),x9,AS,zz,rh,qq,qr]) H=some (.val (.int h0) H2):=by
   refine d0 e1 ?_;unfold oM;dsimp only;rw[g2];dsimp only;rw[Vv]
  exact(ba (x:=.int 1) (H1:=H) rfl this).trans rfl
 have e2:=kJ (elt:=c2 au (ae 0) (af (.int 0))) (bl:=st.drop (st.length-m)) (g:=mS) (f:=fun x=>x.1.mv) (c0 (AS:=some (.int (1+h0))) (zz:=zz) p2) (bc _ _) (by exact DH hm hn hdl) (fun i _ H _=>rfl)
 (generalize hH3:H2++[MO.list ((st.drop (st.length-m)).map mS)]=H3 at e2;revert H3;refine gA ?_;intros)
 have p3:Pre H H3:=p2.trans (by rw[<-hH3];exact Pre.app _ _);have p4:Pre H (H3++[.list ((st.drop (st.length-m)).map fun x=>x.1.mv)]):=p3.trans (Pre.app _ _);have g4:(H3++[MO.list ((st.drop (st.length-m)).map fun x=>x.1.mv)])[H3.length]?=some (.list (((st.drop (st.length-m)).map Prod.fst).map It.mv)):=by rw[hH];exact bc _ _
 (generalize H3++[MO.list ((st.drop (st.length-m)).map fun x=>x.1.mv)]=H4 at e2 p4 g4;revert H4;refine gA ?_;intros)
 (generalize H3.length=kt at e2 g4;revert kt;refine gA ?_;intros)
 have e3:(dG (ae 3) (af .none) (c2 dT (c1 eY (ae 3)) (ae 8))) o (ck c kr kx ks [some pp,x5,x6,x7,some (.int m),x9,some (.int (1+h0)),some (.obj kt),rh,qq,qr]) H4=some (.val (.obj H4.length) (H4++[.list ((st.take (st.length-m)).map mS)])):=by
  have:=Fg (a:=ae 3) (o:=o) (L:=ck c kr kx ks [some pp,x5,x6,x7,some (.int m),x9,some (.int (1+h0)),some (.obj kt),rh,qq,qr]) (p4.get hk) (Nat.sub_le _ m) rfl (Fh (p4.get hk) (by rw[XY];exact hm));rw[XY,<-List.map_take]at this;exact this
 refine⟨1+h0,kt,H4.length,H4++[.list ((st.take (st.length-m)).map mS)],?_,p4.trans (Pre.app _ _),(Pre.app H4 _).get g4,bc _ _,p4.len⟩;unfold vr;rw[aF (aJ X3)];refine(aF (aJ e2)).trans ?_;exact(aF (aJ e3)).trans rfl
end
section
variable{c:HC}{kr kx ks kt n:Nat}{bl:List It}{H:MH}{av:List (Str×MV)}{Y1 q high:Int}{pp:MV}{x5 x8 x9 rh qq qr:Option MV}
theorem Vw(ha:a o L H=some (.val x H1)):aG (aa a ai) o L H=some (.val (.tup [x]) H1):=by
 unfold aG aa ai;simp only[bindR,ha,bo,cS,Nat.reduceAdd,d9,Nat.reduceLeDiff,c9]
noncomputable def vt(c:HC)(kr kx ks kt:Nat)(bl:List It)(av:List (Str×MV))(Y1 q high:Int)(pp:MV)(x5 x8 x9:Option MV)(H:MH)(z:Option RS):Prop:=∃(i:It) (H':MH) (Ks Kt:Option MV),z=some (.next (ck c kr kx ks [some pp,x5,some (.int Y1),some (.int q),x8,x9,some (.int high),some (.obj kt),some i.mv,Ks,Kt]) H')/\
 Pre H H'/\i.ou av/\i.At H'/\i.z=sumZ bl+1/\((∃j∈bl,i.k=j.k)\/H.length<=i.k)
theorem xn(hk:H[kt]?=some (.list (bl.map It.mv)))(ha:∀i∈bl,i.At H)(hT:∀i∈bl,i.ou av)(hz:sumZ bl<=33)(hn:bl.length=mR q):
  vt c kr kx ks kt bl av 7 q high pp x5 x8 x9 H (ny (ah (n+150)) (ck c kr kx ks [some pp,x5,some (.int 7),some (.int q),x8,x9,some (.int high),some (.obj kt),rh,qq,qr]) H):=by
 obtain⟨t,lg,o,hN,k,H',h1,h2,h3,h4⟩:=zt (n:=n+146) hk ha hT hz hn;obtain⟨x,hi⟩:=hN.it k;refine⟨⟨t,k,lg,o,x,sumZ bl+1⟩,H',qq,qr,?_,h2,hi,h4,rfl,.inr h3⟩;unfold ny;refine(aB (H1:=H) rfl).trans ?_;exact aF (aJ ((call2 rfl rfl).trans h1))
theorem mT{wd:Str}{lg:List Str}{o:Out}{T8:List Nat}(hk7:(Y1==7)=false)(hwd:∀H,au (.tup [.str (S "and"),.str (S "or"),.str (S "if")]) (.int (Y1-4)) H=some (.val (.str wd) H))(hk:H[kt]?=some (.list (bl.map It.mv)))(hn:0<bl.length/\bl.length<=10)
  (hL:EX H (ah (n+150) fq [.int Y1,.obj kt] H) T8 lg o) (hks:∀k∈T8,∃j∈bl,k=j.k) (hN:NodeOk av (.tup (.str wd::bl.map It.t)) lg o (sumZ bl+1)):
  vt c kr kx ks kt bl av Y1 q high pp x5 x8 x9 H (ny (ah (n+150)) (ck c kr kx ks [some pp,x5,some (.int Y1),some (.int q),x8,x9,some (.int high),some (.obj kt),rh,qq,qr]) H):=by
 obtain⟨k,H',h1,h2,h3,h4⟩:=hL;obtain⟨x,hi⟩:=hN.it k;have e1:(ak (af (.fn (.ref fq))) (aa (ae 6) (aa (ae 11) ai))) (ah (n+150)) (ck c kr kx ks [some pp,x5,some (.int Y1),some (.int q),x8,x9,some (.int high),some (.obj kt),rh,qq,qr]) H=some (.val (.tup [.obj k,o.mv]) H'):=(call2 rfl rfl).trans h1;have s1:(di [13,14] (ak (af (.fn (.ref fq))) (aa (ae 6) (aa (ae 11) ai)))) (ah (n+150)) (ck c kr kx ks [some pp,x5,some (.int Y1),some (.int q),x8,x9,some (.int high),some (.obj kt),rh,qq,qr]) H=some (.next (ck c kr kx ks [some pp,x5,some (.int Y1),some (.int q),x8,x9,some (.int high),some (.obj kt),rh,some (.obj k),some o.mv]) H'):=by
  unfold di;rw[e1];rfl
 have e2:=kJ (elt:=c2 au (ae 0) (af (.int 0))) (it:=ae 11) (o:=ah (n+150)) (L:=ck c kr kx ks [some pp,x5,some (.int Y1),some (.int q),x8,x9,some (.int high),some (.obj kt),rh,some (.obj k),some o.mv]) (H:=H') (H1:=H') (bl:=bl) (g:=It.mv) (f:=It.t) rfl (h2.get hk) (by exact NB hn rfl) (fun i _ H _=>rfl);have p2:Pre H' (H'++[.list (bl.map It.t)]):=Pre.app _ _;have e3:=EY e2 (bc _ _)
 (generalize H'++[MO.list (bl.map It.t)]=H2 at e2 e3 p2;revert H2;refine gA ?_;intros)
 have e4:(aG (aa (c2 au (aG (aa (af (.str (S "and"))) (aa (af (.str (S "or"))) (aa (af (.str (S "if"))) ai)))) (c2 dT (ae 6) (af (.int 4)))) ai)) (ah (n+150)) (ck c kr kx ks [some pp,x5,some (.int Y1),some (.int q),x8,x9,some (.int high),some (.obj kt),rh,some (.obj k),some o.mv]) H'=some (.val (.tup [.str wd]) H'):=by
  have:(c2 au (aG (aa (af (.str (S "and"))) (aa (af (.str (S "or"))) (aa (af (.str (S "if"))) ai)))) (c2 dT (ae 6) (af (.int 4)))) (ah (n+150)) (ck c kr kx ks [some pp,x5,some (.int Y1),some (.int q),x8,x9,some (.int high),some (.obj kt),rh,some (.obj k),some o.mv]) H'=some (.val (.str wd) H'):=(ba (mc (H1:=H') (H2:=H') rfl rfl rfl) rfl).trans (hwd H');exact Vw this
 have e5:(c2 bb (aG (aa (c2 au (aG (aa (af (.str (S "and"))) (aa (af (.str (S "or"))) (aa (af (.str (S "if"))) ai)))) (c2 dT (ae 6) (af (.int 4)))) ai)) (c1 kc (cR [] (c2 au (ae 0) (af (.int 0))) (ae 11)))) (ah (n+150)) (ck c kr kx ks [some pp,x5,some (.int Y1),some (.int q),x8,x9,some (.int high),some (.obj kt),rh,some (.obj k),some o.mv]) H'=some (.val (.tup (.str wd::bl.map It.t)) H2):=by
  refine(ba e4 e3).trans ?_;unfold bb;dsimp only;rw[if_pos ⟨⟨Nat.zero_lt_one,by rw[bR];exact hn.1⟩,by rw[d9,bR,List.length_singleton];exact NC hn rfl⟩]
  rfl
 refine⟨⟨.tup (.str wd::bl.map It.t),k,lg,o,x,sumZ bl+1⟩,H2,some (.obj k),some o.mv,?_,h2.trans p2,hi,p2.get h4,rfl,h3.imp (hks k) id⟩;unfold ny;refine(aw (H1:=H) (by show some (Res.val (Y1==7) H)=_;rw[hk7])).trans ?_;rw[aF s1];exact aF (aJ (mc e5 rfl rfl))
theorem Fj(hk:H[kt]?=some (.list (bl.map It.mv)))(ha:∀i∈bl,i.At H)(hT:∀i∈bl,i.ou av)(hz:sumZ bl<=33)(h4:4<=Y1)(h8:Y1<8)(hn:bl.length=il Y1 q):
  vt c kr kx ks kt bl av Y1 q high pp x5 x8 x9 H (ny (ah (n+150)) (ck c kr kx ks [some pp,x5,some (.int Y1),some (.int q),x8,x9,some (.int high),some (.obj kt),rh,qq,qr]) H):=by
 have hlg:∀i∈bl,i.lg.length<=1000:=fun i hi=>by
  have h1:=(hT i hi).l;have h2:=ju hi;exact DE hz h1 h2 rfl
 have hok:∀i∈bl,i.o.code=0->i.o.val=tx i.x.l/\i.x.Ok 390:=fun i hi q=>⟨(hT i hi).val q,((hT i hi).T q).2.le (by have:=ju hi;exact yA hz this)⟩
 rcases (by exact ND h4 h8:Y1=4\/Y1=5\/Y1=6\/Y1=7)with h|h|h|h<;>subst h
 ·have hn:bl.length=2:=hn;obtain⟨a,b,rfl⟩:=Ij hn;have ma:a∈ [a,b]:=.head _;have mb:b∈ [a,b]:=.tail _ (.head _);have hzz:sumZ [a,b]=a.z+b.z:=by show a.z+(b.z+0)=_;exact DI
  refine mT (wd:=S "and") (T8:=[a.k,b.k]) rfl (fun H=>rfl) hk (by simp) (qN (n:=n+147) (or:=false) hk (ha a ma) (ha b mb) (hlg a ma) (hlg b mb) (hok a ma) (hok b mb)) (fun k hk=>?_) ?_
  ·rcases bS.mp hk with rfl|hk
   ·exact⟨a,ma,rfl⟩
   ·cases c8.mp hk;exact⟨b,mb,rfl⟩
  ·rw[hzz];exact xj (or:=false) (hT a ma) (hT b mb) (by exact DJ hz hzz)
 ·have hn:bl.length=2:=hn;obtain⟨a,b,rfl⟩:=Ij hn;have ma:a∈ [a,b]:=.head _;have mb:b∈ [a,b]:=.tail _ (.head _);have hzz:sumZ [a,b]=a.z+b.z:=by show a.z+(b.z+0)=_;exact DI
  refine mT (wd:=S "or") (T8:=[a.k,b.k]) rfl (fun H=>rfl) hk (by simp) (qN (n:=n+147) (or:=true) hk (ha a ma) (ha b mb) (hlg a ma) (hlg b mb) (hok a ma) (hok b mb)) (fun k hk=>?_) ?_
  ·rcases bS.mp hk with rfl|hk
   ·exact⟨a,ma,rfl⟩
   ·cases c8.mp hk;exact⟨b,mb,rfl⟩
  ·rw[hzz];exact xj (or:=true) (hT a ma) (hT b mb) (by exact DJ hz hzz)
 ·have hn:bl.length=3:=hn;obtain⟨a,b,d,rfl⟩:=Vt hn;have ma:a∈ [a,b,d]:=.head _;have mb:b∈ [a,b,d]:=.tail _ (.head _);have md:d∈ [a,b,d]:=.tail _ (.tail _ (.head _));have hzz:sumZ [a,b,d]=a.z+b.z+d.z:=by show a.z+(b.z+(d.z+0))=_;exact NF
  refine mT (wd:=S "if") (T8:=[a.k,b.k,d.k]) rfl (fun H=>rfl) hk (by simp) (xh (n:=n+147) hk (ha a ma) (ha b mb) (ha d md) (hlg a ma) (hlg b mb) (hlg d md) (hok a ma)) (fun k hk=>?_) ?_
  ·rcases bS.mp hk with rfl|hk
   ·exact⟨a,ma,rfl⟩
   ·rcases bS.mp hk with rfl|hk
    ·exact⟨b,mb,rfl⟩
    ·cases c8.mp hk;exact⟨d,md,rfl⟩
  ·rw[hzz];exact Ii (hT a ma) (hT b mb) (hT d md) (by exact NG hz hzz)
 ·exact xn hk ha hT hz hn
end
section
variable{c:HC}{kr kx:Nat}{xs:List Int}{p:Nat}{H:MH}{sp:Int}{av vs:List (Str×MV)}{ks:Nat}{st:List (It×Int)}
theorem C6{o:g8}{kt:Nat}{i:It}{Y1 q high draw:Int}{pp:MV}{x8 x9 qq qr:Option MV}:∃b,zy o (ck c kr kx ks [some pp,some (.int draw),some (.int Y1),some (.int q),x8,x9,some (.int high),some (.obj kt),some i.mv,qq,qr]) H=some (.val b H):=by
 have t1:(tE (c2 kq (ae 10) (af (.int 14)))) o (ck c kr kx ks [some pp,some (.int draw),some (.int Y1),some (.int q),x8,x9,some (.int high),some (.obj kt),some i.mv,qq,qr]) H=some (.val (decide (high<14)) H):=rfl;have t2:(tE (c2 bQ (c2 au (c2 au (ae 12) (af (.int 2))) (af (.int 0))) (af (.int 0)))) o (ck c kr kx ks [some pp,some (.int draw),some (.int Y1),some (.int q),x8,x9,some (.int high),some (.obj kt),some i.mv,qq,qr]) H=some (.val (i.o.code==0) H):=rfl;have t3:(tE (c2 bQ (c2 gW (c2 iz (ae 5) (af (.int 40))) (af (.int 3))) (af (.int 2)))) o (ck c kr kx ks [some pp,some (.int draw),some (.int Y1),some (.int q),x8,x9,some (.int high),some (.obj kt),some i.mv,qq,qr]) H=some (.val ((draw.fdiv 40).fmod 3==2) H):=rfl;unfold zy jC nd;rw[t1];simp only[bindR];cases decide (high<14)with
 |false=>exact⟨_,rfl⟩
 |true=>
  rw[if_pos rfl,t2];dsimp only;cases i.o.code==0 with
  |true=>exact⟨_,rfl⟩
  |false=>exact⟨_,t3⟩
theorem Fl(st:List (It×Int))(m:Nat):sumZ ((st.take m).map Prod.fst)+sumZ ((st.drop m).map Prod.fst)=sumZ (st.map Prod.fst):=by
 rw[<-sD,<-fk,List.take_append_drop]
theorem zA(Z:LS c kr kx xs p H sp av vs ks st)(hp:p<33){n m:Nat}{Y1 q draw:Int}{x9 AS zz rh qq qr:Option MV}(h4:4<=Y1)(h8:Y1<8)(hm:m=il Y1 q)(hms:m<=st.length)(hm1:1<=m):
  pj c kr kx xs p (vr (ah (n+150)) (ck c kr kx ks [some (.int p),some (.int draw),some (.int Y1),some (.int q),some (.int m),x9,AS,zz,rh,qq,qr]) H):=by
 have hll:=Z.len;obtain⟨high,kt,nM,H1,e1,p1,g1,g2,g3⟩:=Fi (o:=ah (n+150)) (c:=c) (kr:=kr) (kx:=kx) (pp:=.int p) (x5:=some (.int draw)) (x6:=some (.int Y1)) (x7:=some (.int q)) (x9:=x9) (AS:=AS) (zz:=zz) (rh:=rh) (qq:=qq) (qr:=qr) Z.D2 hm1 hms (by exact DG hp hll rfl);have uZ:∀i∈(st.drop (st.length-m)).map Prod.fst,∃x∈st,x.1=i:=fun i hi=>by
  obtain⟨x,hx,rfl⟩:=eb.mp hi;exact⟨x,List.mem_of_mem_drop hx,rfl⟩
 have zB:=Fl st (st.length-m);have hsz:=Z.sz;have hvb:=Z.R5;have hdl:((st.drop (st.length-m)).map Prod.fst).length=m:=by rw[bR,mr];exact NH hms hm1
 obtain⟨i,H2,Ks,Kt,e2,p2,hi,hia,hiz,hik⟩:=Fj (n:=n) (c:=c) (kr:=kr) (kx:=kx) (ks:=nM) (Y1:=Y1) (q:=q) (high:=high) (pp:=.int p) (x5:=some (.int draw)) (x8:=some (.int m)) (x9:=x9) (rh:=rh) (qq:=qq) (qr:=qr) g1 (fun i hi=>by
  obtain⟨x,hx,rfl⟩:=uZ i hi;exact p1.get (Z.Hu x hx).2.1) (fun i hi=>by
  obtain⟨x,hx,rfl⟩:=uZ i hi;exact(Z.Hu x hx).1) (by exact NI hp zB hsz) h4 h8 (hdl.trans hm)
 have Pq:=p1.trans p2;have Vx:i.k≠nM:=by
  have hlt:=(cm.mp g2).1;rcases hik with ⟨j,hj,hjk⟩|h
  ·obtain⟨x,hx,rfl⟩:=uZ j hj;have:=Z.low hx;exact NJ g3 hjk this
  ·exact NK hlt h
 have T9:∀x∈st.take (st.length-m),x.1.ou av/\x.1.At H2/\x.1.k≠nM:=fun x hx=>by
  have hx:=List.mem_of_mem_take hx;have:=Z.low hx;obtain⟨h1,h2,h3⟩:=Z.Hu x hx;exact⟨h1,Pq.get h2,by exact NL g3 this⟩
 have lr:=(cm.mp Z.rows).1;have lx:=(cm.mp Z.Im).1;have Wt:nM≠kr/\nM≠kx:=⟨by exact uQ g3 lr,by exact uQ g3 lx⟩
 have htl:(st.take (st.length-m)).length+1<=p+1:=by rw[List.length_take];exact NM hms hm1 hll
 have Ip:=p2.get g2;rw[e1];unfold vq;refine gM e2 ?_;have hb:=C6 (o:=ah (n+150)) (c:=c) (kr:=kr) (kx:=kx) (ks:=nM) (kt:=kt) (H:=H2) (i:=i) (Y1:=Y1) (q:=q) (high:=high) (draw:=draw) (pp:=.int p) (x8:=some (.int m)) (x9:=x9) (qq:=Ks) (qr:=Kt);obtain⟨b,hb⟩:=hb;cases b with
 |true=>
  have e3:(aG (aa (ae 12) (aa (ae 10) ai))) (ah (n+150)) (ck c kr kx nM [some (.int p),some (.int draw),some (.int Y1),some (.int q),some (.int m),x9,some (.int high),some (.obj kt),some i.mv,Ks,Kt]) H2=some (.val (.tup [i.mv,.int high]) H2):=jE rfl rfl;have e4:=vh (i:=3) e3 rfl Ip Ip (by rw[bR];exact NN hp htl rfl);refine gM (L1:=ck c kr kx nM [some (.int p),some (.int draw),some (.int Y1),some (.int q),some (.int m),x9,some (.int high),some (.obj kt),some i.mv,Ks,Kt]) ((aB hb).trans (aF e4)) ?_;refine⟨_,sp,av,vs,nM,_,_,?_,.inl rfl,LS.push (Z.B.pre Pq) (Pq.get Z.rows) (Pq.get Z.Im) Ip Wt T9 ⟨hi,hia,Vx⟩ (by exact NO zB hsz hiz) htl (by exact NP zB hvb hiz) (fun j h1 h2=>Z.dn j (by exact Ah h1) h2) Z.dk (aN Z.dl (by exact lU))⟩;rfl
 |false=>
  obtain⟨H3,X4,xc,e3,B3,v3,k3⟩:=AN (Z.B.pre Pq) hi hia (by exact NQ hp zB hsz hiz rfl) (by exact NR hp zB hvb hiz) (n:=n);have e4:(oH (tE (ak (af (.fn (.ref cH))) (aa (ae 2) (aa (ae 12) ai))))) (ah (n+150)) (ck c kr kx nM [some (.int p),some (.int draw),some (.int Y1),some (.int q),some (.int m),x9,some (.int high),some (.obj kt),some i.mv,Ks,Kt]) H2=some (.val false H3):=by
   have:(ak (af (.fn (.ref cH))) (aa (ae 2) (aa (ae 12) ai))) (ah (n+150)) (ck c kr kx nM [some (.int p),some (.int draw),some (.int Y1),some (.int q),some (.int m),x9,some (.int high),some (.obj kt),some i.mv,Ks,Kt]) H2=some (.val (.bool true) H3):=(call2 rfl rfl).trans e3;unfold oH;rw[dp this];rfl
  refine gM (L1:=ck c kr kx nM [some (.int p),some (.int draw),some (.int Y1),some (.int q),some (.int m),x9,some (.int high),some (.obj kt),some i.mv,Ks,Kt]) (H1:=H3) ((aw hb).trans (aF ((aw e4).trans rfl))) ?_;refine⟨H3,X4,av,xc,nM,st.take (st.length-m),_,?_,.inl rfl,⟨B3,k3 _ _ (Pq.get Z.rows),k3 _ _ (Pq.get Z.Im),k3 _ _ Ip,Wt,fun x hx=>?_,by exact NS zB hsz,by exact NT htl,by exact NU zB hvb hiz v3,fun j h1 h2=>Z.dn j (by exact Ah h1) h2,Z.dk,aN Z.dl (by exact lU)⟩⟩
  ·rfl
  ·obtain⟨h1,h2,h3⟩:=T9 x hx;exact⟨h1,k3 _ _ h2,h3⟩
theorem Iq(Z:LS c kr kx xs p H sp av vs ks st)(hp:p<33):∃draw:Int,(c2 bb (c2 au (ae 1) (ae 4)) (eL (tE (c2 kq (ae 4) (c1 eY (ae 0)))) (c2 au (ae 0) (ae 4)) (af (.int 0)))) o (ck c kr kx ks (some (.int p)::r)) H=some (.val (.int draw) H):=by
 have hl:m6.length=33:=rfl;obtain⟨a,ha⟩:∃a,m6[p]?=some a:=⟨m6[p],oF _⟩
 have e1:(c2 au (ae 1) (ae 4)) o (ck c kr kx ks (some (.int p)::r)) H=some (.val (.int a) H):=(ba (x:=.obj kr) (y:=.int p) (H1:=H) (H2:=H) rfl rfl).trans (nv Z.rows (by rw[dP,ha];rfl));have t1:(tE (c2 kq (ae 4) (c1 eY (ae 0)))) o (ck c kr kx ks (some (.int p)::r)) H=some (.val (decide ((p:Int)<(xs.map MV.int).length)) H):=dp ((ba rfl (d0 rfl (zw Z.Im))).trans rfl);rw[bR]at t1;by_cases h:(p:Int)<xs.length
 ·have hx:p<xs.length:=by exact NV h
  refine⟨a+xs[p],(ba (y:=.int xs[p]) e1 ((fU (t1.trans (by rw[cO h]))).trans ?_)).trans rfl⟩;exact(ba (x:=.obj kx) (y:=.int p) (H1:=H) (H2:=H) rfl rfl).trans (nv Z.Im (by rw[dP,oF hx];rfl))
 ·exact⟨a+0,(ba (y:=.int 0) e1 ((eT (t1.trans (by rw[cz h]))).trans rfl)).trans rfl⟩
theorem Fm:jN=ag (aO 5 (c2 bb (c2 au (ae 1) (ae 4)) (eL (tE (c2 kq (ae 4) (c1 eY (ae 0)))) (c2 au (ae 0) (ae 4)) (af (.int 0)))))
 (ag (aO 6 (c2 gW (ae 5) (af (.int 8))))
 (ag (aO 7 (c2 iz (ae 5) (af (.int 8))))
 (ag (aO 8 (ak (af (.fn (.ref o9))) (aa (ae 6) (aa (ae 7) ai))))
 (ag (bN (nd (tE (c2 kq (ae 6) (af (.int 4)))) (tE (c2 yl (ae 8) (c1 eY (ae 3))))) ow aq) vr)))):=rfl
theorem vu(h:∀L H L1 H1,b o L H≠some (.next L1 H1)):ag a b o L H≠some (.next L1 H1):=by
 intro e;rcases Az a b o L H with ⟨L1,H1,-,q⟩|⟨hn,q⟩
 ·exact h _ _ _ _ (q.symm.trans e)
 ·exact hn _ _ (q.symm.trans e)
theorem vw(L1:Loc)(H1:MH):ow o L H≠some (.next L1 H1):=by
 unfold ow;exact vu fun _ _ _ _=>vu fun _ _ _ _=>vu fun L H L1 H1 e=>by
  have e:some (RS.cont L H)=some (RS.next L1 H1):=e;cases e
theorem Fn(Z:LS c kr kx xs p H sp av vs ks st)(hp:p<33){n:Nat}{r:List (Option MV)}(hr:r.length=10):pj c kr kx xs p (jN (ah (n+150)) (ck c kr kx ks (some (.int p)::r)) H):=by
 obtain⟨a5,a6,a7,a8,a9,mh,r9,rb,rf,rg,rfl⟩:∃a5 a6 a7 a8 a9 mh r9 rb rf rg,r=[a5,a6,a7,a8,a9,mh,r9,rb,rf,rg]:=by
  obtain⟨a5,r,rfl⟩:=mj hr;have hr:=fm hr;obtain⟨a6,r,rfl⟩:=mj hr;have hr:=fm hr;obtain⟨a7,r,rfl⟩:=mj hr;have hr:=fm hr;obtain⟨a8,r,rfl⟩:=mj hr;have hr:=fm hr;obtain⟨a9,r,rfl⟩:=mj hr;have hr:=fm hr;obtain⟨mh,r,rfl⟩:=mj hr;have hr:=fm hr;obtain⟨r9,r,rfl⟩:=mj hr;have hr:=fm hr;obtain⟨rb,r,rfl⟩:=mj hr;have hr:=fm hr;obtain⟨rf,r,rfl⟩:=mj hr;have hr:=fm hr;obtain⟨rg,rfl⟩:=List.length_eq_one_iff.mp hr;exact⟨_,_,_,_,_,_,_,_,_,_,rfl⟩
 obtain⟨draw,hd⟩:=Iq Z hp (o:=ah (n+150)) (r:=[a5,a6,a7,a8,a9,mh,r9,rb,rf,rg]);have k1:=ml draw (show(0:Int)<8 by decide);have k2:=jW draw (show(0:Int)<8 by decide);rw[Fm];refine gM (aJ hd) ?_;refine gM (L1:=ck c kr kx ks [some (.int p),some (.int draw),some (.int (draw.fmod 8)),a7,a8,a9,mh,r9,rb,rf,rg]) (H1:=H) rfl ?_;refine gM (L1:=ck c kr kx ks [some (.int p),some (.int draw),some (.int (draw.fmod 8)),some (.int (draw.fdiv 8)),a8,a9,mh,r9,rb,rf,rg]) (H1:=H) rfl ?_
 (generalize draw.fmod 8=Y1 at k1 k2;revert Y1;refine gA ?_;intros)
 (generalize draw.fdiv 8=q;revert q;refine gA ?_;intros)
 refine gM (L1:=ck c kr kx ks [some (.int p),some (.int draw),some (.int Y1),some (.int q),some (.int (il Y1 q)),a9,mh,r9,rb,rf,rg]) (H1:=H) (aJ ((call2 (H1:=H) (H2:=H) rfl rfl).trans xk)) ?_;have t1:(tE (c2 kq (ae 6) (af (.int 4)))) (ah (n+150)) (ck c kr kx ks [some (.int p),some (.int draw),some (.int Y1),some (.int q),some (.int (il Y1 q)),a9,mh,r9,rb,rf,rg]) H=some (.val (decide (Y1<4)) H):=rfl;have t2:(tE (c2 yl (ae 8) (c1 eY (ae 3)))) (ah (n+150)) (ck c kr kx ks [some (.int p),some (.int draw),some (.int Y1),some (.int q),some (.int (il Y1 q)),a9,mh,r9,rb,rf,rg]) H=some (.val (decide (((st.map mS).length:Int)<il Y1 q)) H):=dp ((ba rfl (d0 rfl (zw Z.D2))).trans rfl);rw[bR]at t2;have hor:∀b:Bool,(decide (Y1<4)||decide ((st.length:Int)<il Y1 q))=b->(nd (tE (c2 kq (ae 6) (af (.int 4)))) (tE (c2 yl (ae 8) (c1 eY (ae 3))))) (ah (n+150)) (ck c kr kx ks [some (.int p),some (.int draw),some (.int Y1),some (.int q),some (.int (il Y1 q)),a9,mh,r9,rb,rf,rg]) H=some (.val b H):=fun b hb=>by
  unfold nd;rw[t1,<-hb];cases decide (Y1<4)with
  |true=>rfl
  |false=>exact t2
 by_cases h:Y1<4\/st.length<il Y1 q
 ·obtain⟨H',i7,d',cE,nM,r8,r',h1,h2,h3⟩:=zx Z hp (n:=n) (Y1:=Y1) (q:=q) (a5:=some (.int draw)) (a8:=some (.int (il Y1 q))) (a9:=a9) (mh:=mh) (r9:=r9) (rb:=rb) (rf:=rf) (rg:=rg);have hb:(decide (Y1<4)||decide ((st.length:Int)<il Y1 q))=true:=by
   rw[Bool.or_eq_true,dh,dh];exact NW h
  have hsI:=aB (a:=ow) (b:=aq) (hor true hb);have hz:bN (nd (tE (c2 kq (ae 6) (af (.int 4)))) (tE (c2 yl (ae 8) (c1 eY (ae 3))))) ow aq (ah (n+150)) (ck c kr kx ks [some (.int p),some (.int draw),some (.int Y1),some (.int q),some (.int (il Y1 q)),a9,mh,r9,rb,rf,rg]) H=some (.cont (ck c kr kx nM r') H'):=by
   rcases h2 with h2|h2
   ·exact absurd h2 (vw _ _)
   ·exact hsI.trans h2
  exact⟨H',i7,d',cE,nM,r8,r',h1,.inr (yI hz),h3⟩
 ·have hb:(decide (Y1<4)||decide ((st.length:Int)<il Y1 q))=false:=by
   rw[Bool.or_eq_false_iff,decide_eq_false_iff_not,decide_eq_false_iff_not];exact NX h
  refine gM (L1:=ck c kr kx ks [some (.int p),some (.int draw),some (.int Y1),some (.int q),some (.int (il Y1 q)),a9,mh,r9,rb,rf,rg]) (H1:=H) ((aw (hor false hb)).trans rfl) ?_;refine zA Z hp (jd.mp fun e=>h (.inl e)) (by exact NY k2) rfl (by exact NZ h) ?_;unfold il;rw[if_neg (by exact fun e=>h (.inl e))]
  split
  ·decide
  ·split
   ·decide
   ·unfold mR
    split
    ·decide
    ·split<;>first|exact ao 1|exact mu 1 _
end
section
variable{c:HC}{kr kx:Nat}{xs:List Int}
theorem C7:∀(m p:Nat) (H:MH) (sp:Int) (av vs:List (Str×MV)) (ks:Nat) (st:List (It×Int)) (r:List (Option MV)) (N:Nat),p+m=33->m<N->r.length=11->LS c kr kx xs p H sp av vs ks st->
  ∃H' i7 fb cE nM r8 r',ei (toName 4) jN N (.Hr 33 p) (ah (n+150)) (ck c kr kx ks r) H=some (.next (ck c kr kx nM r') H')/\LS c kr kx xs 33 H' i7 fb cE nM r8:=by
 intro m
 induction m with
 |zero=>
  intro p H sp av vs ks st r N hp hN hr Z;obtain⟨N,rfl⟩:∃M,N=M+1:=⟨N-1,by exact nE hN⟩
  have:p=33:=by exact O0 hp
  subst this;exact⟨H,sp,av,vs,ks,st,r,fO rfl,Z⟩
 |succ m ih=>
  intro p H sp av vs ks st r N hp hN hr Z;obtain⟨N,rfl⟩:∃M,N=M+1:=⟨N-1,by exact pX hN⟩
  have hp':p<33:=by exact O1 hp
  obtain⟨r0,r',rfl⟩:∃r0 r',r=r0::r':=by
   match r,hr with
   |r0::r',_=>exact⟨r0,r',rfl⟩
  obtain⟨H',i7,fb,cE,nM,r8,r1,h1,h2,h3⟩:=Fn Z hp' (n:=n) (r:=r') (by simpa using hr);obtain⟨H2,tr,d2,v2,X5,eu,r2,e1,e2⟩:=ih (p+1) H' i7 fb cE nM r8 r1 N (by exact O2 hp) (by exact jI hN) h1 h3;refine⟨H2,tr,d2,v2,X5,eu,r2,?_,e2⟩;rw[dz (x:=.int p) (gX:=.Hr 33 (p+1)) (L1:=ck c kr kx ks (some (.int p)::r')) (by show(if p<33 then _ else _)=_;rw[if_pos hp']) rfl];rcases h2 with h2|h2<;>rw[h2]<;>exact e1
theorem allB:∀n,gF (List.replicate n (.bool true))=some true
 |0=>rfl
 |n+1=>by
  rw[rN];show(match gF (List.replicate n (.bool true))with|some c=>some (true&&c)|none=>none)=_;rw[allB n];rfl
theorem C8{n:Nat}{av:List (Str×MV)}{ks acc:Nat}{st:List (It×Int)}(hne:acc≠ks)(hka:∀x∈st,x.1.k≠acc)(hT:∀x∈st,x.1.ou av)(hzz:sumZ (st.map Prod.fst)<=40)(hn:st.length<=100):∀(r:List (It×Int)) (i:Nat) (H:MH) (sp:Int) (vs:List (Str×MV)) (N:Nat),st.drop i=r->r.length<N->i<=st.length->Base c H sp av vs->H[ks]?=some (.list (st.map mS))->(∀x∈st,x.1.At H)->H[acc]?=some (.list (List.replicate i (.bool true)))->vs.length+4*sumZ (r.map Prod.fst)<=900->
  ∃H',gG (ak (af (.fn (.ref cH))) (aa (ae 1) (aa (c2 au (ae 0) (af (.int 0))) ai))) [some (az c)] acc N (.lst ks i) (ah (n+150)) H=some (.val () H')/\H'[acc]?=some (.list (List.replicate st.length (.bool true))):=by
 intro r
 induction r with
 |nil=>
  intro i H sp vs N hr hN hi B hk hA ha hv;obtain⟨N,rfl⟩:∃M,N=M+1:=⟨N-1,by exact DK hN⟩
  have hi':i=st.length:=by have:=aY List.length hr;simp at this;exact O3 hi this
  refine⟨H,?_,by rw[ha,hi']⟩;rw[lu (by rw[eP hk,dP,jV (by exact O4 hi')];rfl)]
 |cons x r ih=>
  intro i H sp vs N hr hN hi B hk hA ha hv;obtain⟨N,rfl⟩:∃M,N=M+1:=⟨N-1,by exact DK hN⟩
  have hgt:st[i]?=some x:=by have:=aY (·[0]?) hr;simpa using this
  have hr':st.drop (i+1)=r:=by rw[<-jZ,hr];rfl
  have hx:=d8 hgt;have hxz:x.1.z<=40:=aN (ju (eb.mpr ⟨x,hx,rfl⟩)) hzz;have hil:i<st.length:=(cm.mp hgt).1;have hv':vs.length+4*(x.1.z+sumZ (r.map Prod.fst))<=900:=hv;obtain⟨H1,mf,fP,e1,B1,v1,k1⟩:=AN B (hT x hx) (hA x hx) hxz (by exact O5 hv') (n:=n);have ha1:=k1 _ _ ha;have hlt:=(cm.mp ha1).1;have ne:∀{k ys},H[k]?=some (MO.list ys)->k≠acc->(H1.set acc (.list (List.replicate i (.bool true)++[.bool true])))[k]?=some (MO.list ys):=fun h hk=>(bB (Ne.symm hk)).trans (k1 _ _ h)
  have hA1:∀y∈st,y.1.At (H1.set acc (.list (List.replicate i (.bool true)++[.bool true]))):=fun y hy=>ne (hA y hy) (hka y hy)
  obtain⟨H2,e2,e3⟩:=ih (i+1) (H1.set acc (.list (List.replicate i (.bool true)++[.bool true]))) mf fP N hr' (by simp only[bo]at hN;exact jI hN) hil (B1.wW ha1) (ne hk (Ne.symm hne)) hA1 (by rw[fQ hlt,<-List.replicate_succ']) (by exact O6 hv' v1);refine⟨H2,?_,e3⟩;rw[lA (x:=mS x) (y:=.bool true) (H1:=H1) (gX:=.lst ks (i+1)) (by rw[eP hk,dP,hgt];rfl) ((call2 rfl rfl).trans e1) (append_at ha1 (by simp;exact O7 hn hil rfl))];exact e2
theorem C9{n:Nat}{H:MH}{sp:Int}{av vs:List (Str×MV)}{ks:Nat}{st:List (It×Int)}{r:List (Option MV)}(Z:LS c kr kx xs 33 H sp av vs ks st):∃H',(aK (c1 qY (cR [2] (ak (af (.fn (.ref cH))) (aa (ae 1) (aa (c2 au (ae 0) (af (.int 0))) ai))) (ae 3)))) (ah (n+150)) (ck c kr kx ks r) H=some (.ret (.bool true) (ck c kr kx ks r) H'):=by
 have hks:=(cm.mp Z.D2).1;have hl:=Z.len;have hsz:=Z.sz;have hvb:=Z.R5;have px:Pre H (H++[MO.list []]):=Pre.app _ _;have hA:∀x∈st,x.1.At (H++[MO.list []]):=fun x hx=>px.get (Z.Hu x hx).2.1
 obtain⟨H',e1,e2⟩:=C8 (n:=n) (c:=c) (av:=av) (ks:=ks) (acc:=H.length) (st:=st) (by exact O8 hks) (fun x hx=>hG (Z.low hx)) (fun x hx=>(Z.Hu x hx).1) (by exact cU hsz rfl) (by exact cU hl rfl) st 0 (H++[.list []]) sp vs many rfl (by unfold many;exact ku hl rfl) (eW _) (Z.B.pre px) (px.get Z.D2) hA (bc _ _) (by exact O9 hvb);refine⟨H',aI (d0 (x:=.obj H.length) (H1:=H') ?_ ?_)⟩
 ·have hs:ff (.obj ks) H=some (.lst ks 0):=by unfold ff;rw[vk Z.D2]
  unfold cR;have h3:(ae 3) (ah (n+150)) (ck c kr kx ks r) H=some (.val (.obj ks) H):=rfl;rw[h3];simp only[bindR,hs];have hf: [2].map (fun i=>((ck c kr kx ks r)[i]?).join)=[some (az c)]:=rfl;rw[hf,e1]
 ·unfold qY;dsimp only;rw[e2];dsimp only;rw[allB]
end
def Fo:CS:=  (ag (aO 1 (ak (af (.fn (.ref o7))) ai))
 (ag (aO 2 (oO 691 589))
 (ag (eZ (c1 (bA 691 (S "tools")) (ae 2)) (af (.str (S "run"))) (af (.fn (.ref d7))))
 (ag (eZ (c1 (bA 691 (S "tools")) (ae 2)) (af (.str (S "deeds"))) (ef [] ai))
 (ag (bT (cL 691 660 (S "put") (ae 2) (aa (af (.str (S "tcl::mathfunc::twice"))) (aa (af (.fn (.ref cN))) ai))))
 (ag (bT (cL 691 631 (S "write") (ae 2) (aa (af (.str (S "v"))) (aa (af (.str (S "1"))) ai))))
 (ag (bT (cL 691 631 (S "write") (ae 2) (aa (af (.str (S "a(5)"))) (aa (af (.str (S "0"))) ai))))
 (ag (bT (cL 691 631 (S "write") (ae 2) (aa (af (.str (S "a(1)"))) (aa (af (.str (S "yes"))) ai))))
 (ag (aO 3 (dy ai))
 aq)))))))))
noncomputable def setC:HC:=⟨8,9,10,11,12,13,14⟩
def xo(v:Str)(k:Nat):List (Str×MV):=[(S "kind",.str (S "scalar")),(S "value",.str v),(S "traces",.obj k),(S "is_busy",.bool false),(S "is_element",.bool false),(S "writes",.int 1)]
def AU:List (Str×MV):=[(S "v",.inst 443 15),(S "a(5)",.inst 443 17),(S "a(1)",.inst 443 19)]
def oh(X:List MV):MH:=[.list X,.list ((m6.take 8).map MV.int),.list (((m6.drop 8).take 7).map MV.int),.list ((m6.take 15).map MV.int),.list (((m6.drop 15).take 9).map MV.int),.list ((m6.take 24).map MV.int),.list ((m6.drop 24).map MV.int),.list (m6.map MV.int),
 .dict (br setC 0 0),.dict (jt setC []),.dict [],.dict AU,.dict wV,.dict [],.dict [],.dict (xo (S "1") 16),.list [],.dict (xo (S "0") 18),.list [],.dict (xo (S "yes") 20),.list [],.list []]
theorem Pr:Fo (ah (n+150)) (some (.obj 0)::List.replicate 14 none) [.list X]=some (.next (ck setC 7 0 21 (List.replicate 11 none)) (oh X)):=by rfl'
set_option tactic.hygienic true in
theorem Fp(h:cG x AU=some p):(x=S "v"/\p=.inst 443 15)\/(x=S "a(5)"/\p=.inst 443 17)\/(x=S "a(1)"/\p=.inst 443 19):=by
 have h:(if x=S "v" then some (MV.inst 443 15) else if x=S "a(5)" then some (MV.inst 443 17) else if x=S "a(1)" then some (MV.inst 443 19) else none)=some p:=h
 split at h
 ·rename_i e;cases h;exact .inl ⟨e,rfl⟩
 split at h
 ·rename_i e;cases h;exact .inr (.inl ⟨e,rfl⟩)
 split at h
 ·rename_i e;cases h;exact .inr (.inr ⟨e,rfl⟩)
 ·cases h
theorem j7(v:Str)(k:Nat):cG (S "kind") (xo v k)=some (.str (S "scalar"))/\cG (S "value") (xo v k)=some (.str v):=by
 refine⟨?_,?_⟩<;>rfl'
theorem sF:cA (S "v")=some (S "1")/\cA (S "a(5)")=some (S "0")/\cA (S "a(1)")=some (S "yes"):=by
 refine⟨?_,?_,?_⟩<;>rfl'
set_option tactic.hygienic true in
theorem Ca(h:cA x=some y):x=S "v"\/x=S "a(5)"\/x=S "a(1)":=by
 unfold cA at h
 split at h
 ·rename_i e;exact .inl e
 split at h
 ·rename_i e;exact .inr (.inl e)
 split at h
 ·rename_i e;exact .inr (.inr e)
 ·cases h
theorem Fq(X:List MV):Base setC (oh X) 0 [] AU where
 host:=rfl
 er:=⟨[],rfl,.inl rfl⟩
 av:=rfl
 vars:=rfl
 jm:=rfl
 vc:=fun x p h=>by
  rcases Fp h with ⟨rfl,rfl⟩|⟨rfl,rfl⟩|⟨rfl,rfl⟩
  ·exact⟨15,_,rfl,rfl,by decide,by decide,.inr ⟨S "1",sF.1,(j7 _ _).1,(j7 _ _).2⟩⟩
  ·exact⟨17,_,rfl,rfl,by decide,by decide,.inr ⟨S "0",sF.2.1,(j7 _ _).1,(j7 _ _).2⟩⟩
  ·exact⟨19,_,rfl,rfl,by decide,by decide,.inr ⟨S "yes",sF.2.2,(j7 _ _).1,(j7 _ _).2⟩⟩
 lI:=fun x y h=>by
  rcases Ca h with rfl|rfl|rfl<;>rfl'
 n1:=by decide
 n2:=by decide
 n4:=by decide
theorem Pt(xs:List Int):LS setC 7 0 xs 0 (oh (xs.map MV.int)) 0 [] AU 21 [] where
 B:=Fq _
 rows:=rfl
 Im:=rfl
 D2:=rfl
 nr:=by decide
 Hu:=fun x h=>by cases h
 sz:=ao _
 len:=ao _
 R5:=by decide
 dn:=fun j _ _=>rfl
 dk:=rfl
 dl:=ao _
def zC:CS:=(ag (qD 4 (c1 eY (ae 1)) jN)
 (ag (aK (c1 qY (cR [2] (ak (af (.fn (.ref cH))) (aa (ae 1) (aa (c2 au (ae 0) (af (.int 0))) ai))) (ae 3))))
 aq))
def ox:CS:=  (ag (aO 1 (ak (af (.fn (.ref o7))) ai))
 (ag (aO 2 (oO 691 589))
 (ag (eZ (c1 (bA 691 (S "tools")) (ae 2)) (af (.str (S "run"))) (af (.fn (.ref d7))))
 (ag (eZ (c1 (bA 691 (S "tools")) (ae 2)) (af (.str (S "deeds"))) (ef [] ai))
 (ag (bT (cL 691 660 (S "put") (ae 2) (aa (af (.str (S "tcl::mathfunc::twice"))) (aa (af (.fn (.ref cN))) ai))))
 (ag (bT (cL 691 631 (S "write") (ae 2) (aa (af (.str (S "v"))) (aa (af (.str (S "1"))) ai))))
 (ag (bT (cL 691 631 (S "write") (ae 2) (aa (af (.str (S "a(5)"))) (aa (af (.str (S "0"))) ai))))
 (ag (bT (cL 691 631 (S "write") (ae 2) (aa (af (.str (S "a(1)"))) (aa (af (.str (S "yes"))) ai))))
 (ag (aO 3 (dy ai))
 (ag (qD 4 (c1 eY (ae 1)) jN)
 (ag (aK (c1 qY (cR [2] (ak (af (.fn (.ref cH))) (aa (ae 1) (aa (c2 au (ae 0) (af (.int 0))) ai))) (ae 3))))
 aq)))))))))))
theorem Ta:Si=ag (aO 0 (dG (ae 0) (af .none) (af (.int 63)))) ox:=rfl
theorem xq(a b c:CS):ag (ag a b) c=ag a (ag b c):=by
 funext o L H;unfold ag;cases a o L H with
 |none=>rfl
 |some r=>cases r<;>rfl
theorem Cb:ox=ag Fo zC:=by
 unfold ox Fo zC;simp only[xq];rfl
theorem Fs{n:Nat}{xs:List Int}:∃L' H',ox (ah (n+150)) (some (.obj 0)::List.replicate 14 none) [.list (xs.map MV.int)]=some (.ret (.bool true) L' H'):=by
 obtain⟨H',i7,fb,cE,nM,r8,r',h1,Z⟩:=C7 (n:=n) 33 0 _ _ _ _ _ _ (List.replicate 11 none) many rfl (by unfold many;exact O' rfl) rfl (Pt xs);obtain⟨H2,h2⟩:=C9 (n:=n) (r:=r') Z;refine⟨ck setC 7 0 nM r',H2,?_⟩;rw[Cb,aF Pr];have h3:(qD 4 (c1 eY (ae 1)) jN) (ah (n+150)) (ck setC 7 0 21 (List.replicate 11 none)) (oh (xs.map MV.int))=some (.next (ck setC 7 0 nM r') H'):=by
  have e1:(c1 eY (ae 1)) (ah (n+150)) (ck setC 7 0 21 (List.replicate 11 none)) (oh (xs.map MV.int))=some (.val (.int 33) (oh (xs.map MV.int))):=rfl;unfold qD;rw[e1];exact h1
 unfold zC;rw[aF h3];exact aE h2
end Mine.Internal
end
noncomputable section
open PySem PySem.W PyProof.Rows PySem.Calls
namespace Mine.Internal
noncomputable section
local macro_rules | `(tactic| o_head $H) => return Mine.Internal.stx ":assumption 1assumption :exact a 2exact %null" [H.raw[1][1][0]]
noncomputable def pick(P:Prop)(K:Params->Frag)(_:P->P):Params->Frag:=K
def KK:Params->Frag:=by
 refine pick PySem.Challenge.rw_np0156_01.row.Holds ?K (fun H=>?g)
 rotate_left
 k_head
end
end Mine.Internal
end
noncomputable section
open PySem PySem.W PyProof.Rows
namespace Mine.Internal
section
noncomputable abbrev ez(s:Shared)(h:Heap)(tk:Nat):Shared:={ s with heap:=h,toks:=tk }
structure eC where
 prog:Program
 w:World
 K:Frag
 B:Heap
 view:Program
 loose:List Str
 mg:Str->Option Value
 mb:Str->Option Value
noncomputable abbrev eC.M(g:eC):=model g.prog g.w
structure eC.Ok(g:eC):Prop where
 sG:g.K.In g.B
 top:TopRead g.view g.loose g.mg g.mb g.B
noncomputable abbrev oE(s:Str):Prop:=s.length<=sizeLine/\s.cps.all (fun c=>decide (c<0x110000))=true
mutual
noncomputable def Rep(h:Heap)(ρ:List Addr):MV->Value->Prop
 |.none,v=>v=.none
 |.bool b,v=>v=.bool b
 |.int i,v=>∃t,v=.int i t
 |.str s,v=>oE s/\∃t,v=.str s t
 |.tup xs,v=>xs.length<=sizeLine/\∃a vs,v=.ref a/\IsTup h a vs.toArray/\aX h ρ xs vs
 |.obj k,v=>∃a,v=.ref a/\ρ[k]?=some a
 |.inst C k,v=>∃x d o,v=.ref x/\ρ[k]?=some d/\h.get? x=some o/\o.cls=.ref C/\o.dict=some d/\o.data=.plain
 |.fn u,v=>v=u
noncomputable def aX(h:Heap)(ρ:List Addr):List MV->List Value->Prop
 |[],vs=>vs=[]
 |x::xs,vs=>∃v r,vs=v::r/\Rep h ρ x v/\aX h ρ xs r
end
noncomputable def jv(h:Heap)(ρ:List Addr):List (Str×MV)->List (Str×Value)->Prop
 |[],ys=>ys=[]
 |x::xs,ys=>∃y r,ys=y::r/\y.1=x.1/\Rep h ρ x.2 y.2/\jv h ρ xs r
noncomputable abbrev RC:Addr:=84
noncomputable def MO.plain:MO->Bool
 |.exc _ _=>false
 |.attrs _=>false
 |_=>true
noncomputable def oy(XZ:Program)(w:World)(h:Heap)(ρ:List Addr)(a:Addr):MO->Prop
 |.list xs=>xs.length<=sizeLine/\∃vs,h.PlainList a vs.toArray/\aX h ρ xs vs
 |.dict es=>∃bD,h.DictOf (strKind XZ w) a bD/\jv h ρ es bD
 |.exc raised kd=>∃o d vs,h.get? a=some o/\o.cls=.ref RC/\o.dict=some d/\o.data=.fields vs/\(raised=false->vs[1]?=some .none)/\ρ[kd]?=some d/\d≠a
 |.attrs fs=>∃mA,(∃o,h.get? a=some o/\o.cls=.type "dict")/\h.Ns1 a mA/\∀x p,cG x fs=some p->∃v,mA x=some v/\Rep h ρ p v
structure Inv(g:eC)(h:Heap)(ρ:List Addr)(H:MH):Prop where
 stays:g.B.StaysIn h
 len:ρ.length=H.length
 nodup:ρ.Nodup
 new:∀a∈ρ,g.B.objs.size<=a
 objs:∀(k:Nat) (o:MO),H[k]?=some o->∃a,ρ[k]?=some a/\oy g.prog g.w h ρ a o
noncomputable def Ft(o o':Obj):Prop:=o'=o\/((∃es n,o.data=.dict es n)/\∃sl,o'={ o with slots:=sl })
structure Step(own:List Addr)(h:Heap)(ρ:List Addr)(h':Heap)(aV:List Addr):Prop where
 pre:∃r,aV=ρ++r/\∀a∈r,h.get? a=none
 kept:∀b o,h.get? b=some o->b∉ρ->b∉own->∃o',h'.get? b=some o'/\Ft o o'
 alive:∀b,h'.get? b=none->h.get? b=none
 exc:∀b o,h.get? b=some o->o.cls=.ref RC->(∃vs,o.data=.fields vs)->h'.get? b=some o
noncomputable def Tc(XR:Env)(h:Heap)(m:Str->Option Value)(x:Str)(v:Value):Prop:=
 (XR.kindOf x=some .local/\m x=some v)\/(∃c,(XR.kindOf x=some .cell\/XR.kindOf x=some .free)/\XR.cells.lookup x=some c/\h.IsCell c (some v))
noncomputable def Frs(B h:Heap)(ρ:List Addr)(l:List Env):Prop:=
 h.FunFrames B l/\∀e∈l,∀L,e.frame=some L->L∉ρ/\∃o es n,h.get? L=some o/\o.data=.dict es n
noncomputable def ownOf(XR:Env):List Addr:=XR.locals::XR.cells.map (·.2)
structure bY(g:eC)(XR:Env)(fr:List Env)(XO:List Str)(h:Heap)(ρ:List Addr)(H:MH)(Y0:Loc):Prop where
 inv:Inv g h ρ H
 mi:Frs g.B h ρ fr
 frame:∃m,Fr g.B XR.locals h m/\∀(i:Nat) (x:Str) (p:MV),XO[i]?=some x->Y0[i]?=some (some p)->∃v,Tc XR h m x v/\Rep h ρ p v
 locs:XR.locals∉ρ
 apart:∀a∈XR.cells.map (·.2),a∉ρ
 cells:∀x c,XR.cells.lookup x=some c->c∉ρ/\∃v,h.IsCell c v
 jH:∀a∈ownOf XR,∃o,h.get? a=some o/\((∃es n,o.data=.dict es n)\/∃v,o.data=.cell v)
 tM:∀a∈XR.cells.map (·.2),g.B.get? a=none
noncomputable def qt(g:eC)(h₀ h:Heap)(ρ:List Addr)(H:MH)(k:Nat)(e:Addr):Prop:=
 ρ[k]?=some e/\(∃kd,H[k]?=some (.exc true kd))/\h₀.get? e=none/\∃oe vs,h.get? e=some oe/\oe.data=.fields vs/\
  (vs[1]?=some .none\/∃T oT ts,vs[1]?=some (.ref T)/\T≠e/\h₀.get? T=none/\g.B.get? T=none/\h.get? T=some oT/\oT.cls=.type "traceback"/\oT.data=.fields ts/\∃x,ts[3]?=some x)
structure Act(A:Around)(fr:List Env)(n:Nat)(hd:Bool):Prop where
 frames:A.frames=some fr
 handled:hd=false->A.handled=none
 depth:A.depth+3*n+10<=recursionLimit
 units:A.units+20*n+100<=cLine
structure sH(A:Around)(fr:List Env)(n:Nat):Prop where
 frames:A.frames=some fr
 handled:A.handled=none
 depth:A.depth+3*n+8<=recursionLimit
 units:A.units+20*n+90<=cLine
theorem Act.call(x:Act A fr n false):sH A fr n:=⟨x.frames,x.handled rfl,by have:=x.depth;exact UO this,by have:=x.units;exact UP this rfl rfl⟩
set_option backward.match.sparseCases true in
noncomputable def AV(Q E:Value->Shared->Prop)(r:Result)(s':Shared):Prop:=match r with
 |.ok (.ret v)=>Q v s'
 |.ok _=>False
 |.error e=>E e s'
structure um(XR:Env)(fr:List Env)(sc:Scope):Prop where
 scope:XR.scope=sc
 kind:sc.kind=.function
 globals:XR.globals=mainGlobals
 builtins:XR.builtins=builtinsNs
 frame:∃L fe outer,fr=fe::outer/\fe.frame=some L/\XR.frame=some L
 cells:∀x,sc.names.lookup x=some .cell->∃c,XR.cells.lookup x=some c
 inj:∀x y c,XR.cells.lookup x=some c->XR.cells.lookup y=some c->x=y
variable(g:eC)
noncomputable def PX{α:Type}(own:List Addr)(XR:Env)(fr:List Env)(XO:List Str)(Y0:Loc)(s:Shared)(ρ:List Addr)(Y3:Res α)(E:Value->Shared->Prop):Prop:=
 match Y3 with
 |.val _ _=>True
 |.exc k H'=>∀e h' aU aV,Step own s.heap ρ h' aV->bY g XR fr XO h' aV H' Y0->qt g s.heap h' aV H' k e->E (.ref e) (ez s h' aU)
noncomputable def mU{α β:Type}(R:Heap->List Addr->α->β->Prop)(own:List Addr)(XR:Env)(fr:List Env)(XO:List Str)(Y0:Loc)(s:Shared)(ρ:List Addr)(Y3:Res α)(Q:β->Shared->Prop)(E:Value->Shared->Prop):Prop:=
 match Y3 with
 |.val p H'=>∀v h' aU aV,Step own s.heap ρ h' aV->bY g XR fr XO h' aV H' Y0->R h' aV p v->Q v (ez s h' aU)
 |.exc k H'=>∀e h' aU aV,Step own s.heap ρ h' aV->bY g XR fr XO h' aV H' Y0->qt g s.heap h' aV H' k e->E (.ref e) (ez s h' aU)
noncomputable def Td(_:Heap)(_:List Addr)(a b:Bool):Prop:=b=a
noncomputable def AW(s:Shared)(ρ:List Addr)(Y3:Res MV)(Q E:Value->Shared->Prop):Prop:=
 match Y3 with
 |.val p H'=>∀v h' aU aV,Step [] s.heap ρ h' aV->Inv g h' aV H'->Rep h' aV p v->Q v (ez s h' aU)
 |.exc k H'=>∀e h' aU aV,Step [] s.heap ρ h' aV->Inv g h' aV H'->qt g s.heap h' aV H' k e->E (.ref e) (ez s h' aU)
structure me(n:Nat)(bk:g8):Prop where
 keep:∀a XS H Y3,bk a XS H=some Y3->keepIn g.K (.ref a)=true
 call:∀a XS H Y3,bk a XS H=some Y3->∀A fr,sH A fr n->∀s ρ vs,Inv g s.heap ρ H->Frs g.B s.heap ρ fr->g.B.objs.size<=s.heap.objs.size->aX s.heap ρ XS vs->
  ∀Q E,AW g s ρ Y3 Q E->codeAny g.M A (.call (.ref a) ⟨vs,[]⟩) (AV Q E) s
structure At(hd:Bool)(sc:Scope)(XO:List Str)(n:Nat)(A:Around)(XR:Env)(fr:List Env)(s:Shared)(ρ:List Addr)(H:MH)(Y0:Loc):Prop where
 act:Act A fr n hd
 d6:um XR fr sc
 live:bY g XR fr XO s.heap ρ H Y0
noncomputable def Wp(XO:List Str)(A:Around)(XR:Env)(fr:List Env)(s:Shared)(ρ:List Addr)(Y0:Loc)(Y3:Res MV)(m:Sem Value):Prop:=
 ∀Q E,mU g Rep (ownOf XR) XR fr XO Y0 s ρ Y3 Q E->wpAny g.M A m Q E s
section
variable(hd:Bool)(sc:Scope)(XO:List Str)
noncomputable def Ku{α β:Type}(R:Heap->List Addr->α->β->Prop)(t:Env->Sem β)(c:g8->Loc->MH->Option (Res α)):Prop:=
 ∀n bk,me g n bk->∀{A XR fr s ρ H Y0},At g hd sc XO n A XR fr s ρ H Y0->
  ∀Y3,c bk Y0 H=some Y3->∀Q E,mU g R (ownOf XR) XR fr XO Y0 s ρ Y3 Q E->wpAny g.M A (t XR) Q E s
noncomputable abbrev SE(t:Env->Sem Value)(c:CE):Prop:=Ku g hd sc XO Rep t c
noncomputable abbrev SL(t:Env->Sem (List Value))(c:CL):Prop:=Ku g hd sc XO aX t c
noncomputable abbrev ST(t:Env->Sem Bool)(c:CT):Prop:=Ku g hd sc XO Td t c
noncomputable def pJ(t:Value->Sem Value)(f:P1):Prop:=
 ∀{n A XR fr s ρ H Y0},At g hd sc XO n A XR fr s ρ H Y0->∀p Y3,f p H=some Y3->∀v,Rep s.heap ρ p v->Wp g XO A XR fr s ρ Y0 Y3 (t v)
noncomputable def kP(t:Value->Value->Sem Value)(f:P2):Prop:=
 ∀{n A XR fr s ρ H Y0},At g hd sc XO n A XR fr s ρ H Y0->∀p q Y3,f p q H=some Y3->∀v,Rep s.heap ρ p v->∀u,Rep s.heap ρ q u->Wp g XO A XR fr s ρ Y0 Y3 (t v u)
end
theorem aX.length:∀{xs:List MV}{vs:List Value},aX h ρ xs vs->vs.length=xs.length:=by
 intro xs
 induction xs with
 |nil=>intro _ e;rw[show _=[] from e];rfl
 |cons y xs ih=>intro _ x;obtain⟨_,_,e,_,r⟩:=x;rw[e,bo,bo,ih r]
theorem aX.get:∀{xs:List MV}{vs:List Value},aX h ρ xs vs->∀{i:Nat}{x:MV},xs[i]?=some x->∃v,vs[i]?=some v/\Rep h ρ x v:=by
 intro xs
 induction xs with
 |nil=>intro _ _ i x e;cases e
 |cons y ys ih=>
  intro _ z i x hx;obtain⟨v,r,e,hv,hr⟩:=z;subst e;cases i with
  |zero=>simp only[eM,Option.some.injEq]at hx;subst hx;exact⟨v,rfl,hv⟩
  |succ i=>simp only[iH]at hx;exact ih hr hx
theorem aX.append:∀{xs ys:List MV}{vs ws:List Value},aX h ρ xs vs->aX h ρ ys ws->aX h ρ (xs++ys) (vs++ws):=by
 intro xs
 induction xs with
 |nil=>intro _ _ _ e h2;rw[show _=[] from e];exact h2
 |cons y xs ih=>intro _ _ _ x h2;obtain⟨v,r,e,hv,hr⟩:=x;subst e;exact⟨v,_,rfl,hv,ih hr h2⟩
section
variable{h:Heap}{ρ:List Addr}{Z:Value->Prop}
theorem Fu(z:Z .none)(v:Value)(r:Rep h ρ .none v):Z v:=Eq.symm (show v=.none from r)▸z
theorem sI(z:Z (.bool b))(v:Value)(r:Rep h ρ (.bool b) v):Z v:=Eq.symm (show v=.bool b from r)▸z
theorem cn(z:∀t,Z (.int i t))(v:Value)(r:Rep h ρ (.int i) v):Z v:=by obtain⟨t,rfl⟩:=r;exact z t
theorem cQ(z:oE x->∀t,Z (.str x t))(v:Value)(r:Rep h ρ (.str x) v):Z v:=by obtain⟨k,t,rfl⟩:=r;exact z k t
theorem pk(z:xs.length<=sizeLine->∀a vs,IsTup h a vs.toArray->aX h ρ xs vs->Z (.ref a))(v:Value)(r:Rep h ρ (.tup xs) v):Z v:=by obtain⟨k,a,vs,rfl,x,y⟩:=r;exact z k a vs x y
theorem ip{Z:List Value->Prop}(z:Z [])(vs:List Value)(r:aX h ρ [] vs):Z vs:=Eq.symm (show vs=[] from r)▸z
theorem hW{Z:List Value->Prop}(z:∀v,Rep h ρ x v->∀vs,aX h ρ xs vs->Z (v::vs))(vs:List Value)(r:aX h ρ (x::xs) vs):Z vs:=by obtain⟨v,vs,rfl,x,y⟩:=r;exact z v x vs y
end
section
variable{α:Type}{x:α}{H:MH}{Z:Prop}
theorem lP{β:Type}{x y:Str}{b c:β}{l:List (Str×β)}(e:List.lookup x ((y,b)::l)=some c)(z1:(x==y)=true->b=c->Z)(z2:List.lookup x l=some c->Z):Z:=by
 rw[pT]at e;cases h:x==y with
 |true=>rw[h]at e;exact z1 h (dQ e)
 |false=>rw[h]at e;exact z2 e
theorem lookup_mem{cl:List (Str×Addr)}{y:Str}{c:Addr}(e:cl.lookup y=some c):c∈cl.map (·.2):=by
 induction cl with
 |nil=>cases e
 |cons p r ih=>exact lP e (fun _ h=>h▸.head _) fun h=>.tail _ (ih h)
theorem bI{c:Prop}[Decidable c](e:(if c then a else none)=some x)(z:c->a=some x->Z):Z:=by
 by_cases h:c
 ·rw[if_pos h]at e;exact z h e
 ·rw[if_neg h]at e;cases e
theorem ew{k:Nat}{f:List MV->Option α}(e:(match H[k]? with
  |some (.list xs)=>f xs
  |_=>none)=some x) (z:∀xs,H[k]?=some (.list xs)->f xs=some x->Z):Z:=by
 cases h:H[k]? with
 |none=>rw[h]at e;cases e
 |some o=>
  rw[h]at e;cases o with
  |list xs=>exact z xs h e
  |_=>cases e
theorem gN{k:Nat}{f:List (Str×MV)->Option α}(e:(match H[k]? with
  |some (.dict es)=>f es
  |_=>none)=some x) (z:∀es,H[k]?=some (.dict es)->f es=some x->Z):Z:=by
 cases h:H[k]? with
 |none=>rw[h]at e;cases e
 |some o=>
  rw[h]at e;cases o with
  |dict es=>exact z es h e
  |_=>cases e
theorem pn{f:Bool->Option α}(e:(match o with
  |some y=>f y
  |none=>none)=some x) (z:∀y,o=some y->f y=some x->Z):Z:=by
 cases h:o with
 |none=>rw[h]at e;cases e
 |some y=>rw[h]at e;exact z y h e
theorem xr{f:Int->Option α}(e:(match o with
  |some y=>f y
  |none=>none)=some x) (z:∀y,o=some y->f y=some x->Z):Z:=by
 cases h:o with
 |none=>rw[h]at e;cases e
 |some y=>rw[h]at e;exact z y h e
theorem uo{j k:Nat}{f:List MV->List MV->Option α}(e:(match H[j]?,H[k]? with
  |some (.list a),some (.list b)=>f a b
  |_,_=>none)=some x) (z:∀a b,H[j]?=some (.list a)->H[k]?=some (.list b)->f a b=some x->Z):Z:=by
 cases h1:H[j]? with
 |none=>rw[h1]at e;cases e
 |some o=>
  rw[h1]at e;cases o with
  |list a=>
   cases h2:H[k]? with
   |none=>rw[h2]at e;cases e
   |some o=>
    rw[h2]at e;cases o with
    |list b=>exact z a b h1 h2 e
    |_=>cases e
  |_=>cases e
theorem nz{f:MV->Option α}(e:(match o with
  |some y=>f y
  |none=>none)=some x) (z:∀y,o=some y->f y=some x->Z):Z:=by
 cases h:o with
 |none=>rw[h]at e;cases e
 |some y=>rw[h]at e;exact z y h e
end
structure fc(h:Heap)(ρ:List Addr)(h':Heap)(aV:List Addr):Prop where
 pre:∀(k:Nat) (a:Addr),ρ[k]?=some a->aV[k]?=some a
 tup:∀a o,h.get? a=some o->((o.cls=.type "tuple"/\∃xs n,o.data=.seq xs n)\/(o.data=.plain/\∃C,o.cls=.ref C))->h'.get? a=some o
mutual
theorem Rep.stays(k:fc h ρ h' aV):∀{p:MV}{v:Value},Rep h ρ p v->Rep h' aV p v
 |.none,_,e=>e
 |.bool _,_,e=>e
 |.int _,_,e=>e
 |.str _,_,e=>e
 |.tup xs,_,hh=>by obtain⟨z,a,vs,e,⟨o,ho,hc,n,hd⟩,r⟩:=hh;exact⟨z,a,vs,e,⟨o,k.tup a o ho (.inl ⟨hc,_,_,hd⟩),hc,n,hd⟩,aX.stays k r⟩
 |.obj _,_,hh=>by obtain⟨a,e,q⟩:=hh;exact⟨a,e,k.pre _ _ q⟩
 |.inst _ _,_,hh=>by obtain⟨x,d,o,e,q,ho,h1,h2,h3⟩:=hh;exact⟨x,d,o,e,k.pre _ _ q,k.tup x o ho (.inr ⟨h3,_,h1⟩),h1,h2,h3⟩
 |.fn _,_,e=>e
theorem aX.stays(k:fc h ρ h' aV):∀{p:List MV}{v:List Value},aX h ρ p v->aX h' aV p v
 |[],_,e=>e
 |_::_,_,hh=>by obtain⟨v,r,e,hv,hr⟩:=hh;exact⟨v,r,e,Rep.stays k hv,aX.stays k hr⟩
end
theorem jv.stays(k:fc h ρ h' aV):∀{p:List (Str×MV)}{v:List (Str×Value)},jv h ρ p v->jv h' aV p v:=by
 intro p
 induction p with
 |nil=>intro _ e;exact e
 |cons x p ih=>intro _ z;obtain⟨y,r,e,hk,hv,hr⟩:=z;exact⟨y,r,e,hk,Rep.stays k hv,ih hr⟩
noncomputable def bL(h h':Heap):Prop:=∀b o,h.get? b=some o->h'.get? b=some o
theorem bL.refl(h:Heap):bL h h:=fun _ _ e=>e
theorem bL.trans(x:bL a b)(y:bL b c):bL a c:=fun b o e=>y b o (x b o e)
theorem bL.bq(k:bL h h'):fc h ρ h' (ρ++r):=
 ⟨fun i a e=>by rw[iG (cm.mp e).1];exact e,fun a o e _=>k a o e⟩
theorem qP{XZ:Program}{w:World}{h h':Heap}{a:Addr}{bD:List (Str×Value)}(e:∀o,h.get? a=some o->h'.get? a=some o)(x:h.DictOf (strKind XZ w) a bD):h'.DictOf (strKind XZ w) a bD:=
 x.elim fun o x=>x.elim fun es x=>x.elim fun ep x=>⟨o,es,ep,e o x.1,x.2⟩
theorem oy.stays{XZ:Program}{w:World}{h h':Heap}{ρ aV:List Addr}{a:Addr}(k2:fc h ρ h' aV)(ha:∀o,h.get? a=some o->h'.get? a=some o):∀{o:MO},oy XZ w h ρ a o->oy XZ w h' aV a o:=by
 intro o e;cases o with
 |list _=>obtain⟨z,vs,ho,r⟩:=e;exact⟨z,vs,ho.elim fun n ho=>⟨n,ha _ ho⟩,aX.stays k2 r⟩
 |dict _=>obtain⟨bD,x,r⟩:=e;exact⟨bD,qP ha x,jv.stays k2 r⟩
 |exc _ _=>obtain⟨ob,d,vs,h1,h2⟩:=e;exact⟨ob,d,vs,ha _ h1,h2.1,h2.2.1,h2.2.2.1,h2.2.2.2.1,k2.pre _ _ h2.2.2.2.2.1,h2.2.2.2.2.2⟩
 |attrs _=>obtain⟨mA,h1,h2,f⟩:=e;exact⟨mA,h1.elim fun o h=>⟨o,ha _ h.1,h.2⟩,h2.elim fun o h=>h.elim fun es h=>h.elim fun ep h=>⟨o,es,ep,ha _ h.1,h.2⟩,fun x p e=>(f x p e).elim fun v h=>⟨v,h.1,Rep.stays k2 h.2⟩⟩
theorem oy.Pu:∀{o:MO},oy XZ w h ρ a o->o.plain=true->∀ob,h.get? a=some ob->ob.cls≠.ref RC
 |.list _,hh,_,ob,e=>by obtain⟨_,vs,⟨n,ho⟩,r⟩:=hh;rw[ho]at e;cases e;intro c;cases c
 |.dict _,hh,_,ob,e=>by obtain⟨bD,⟨o,es,ep,ho,hx,hd,_⟩,r⟩:=hh;rw[ho]at e;cases e;rewrite (config:={}) [hx.1];intro c;cases c
 |.exc _ _,_,e,_,_=>by cases e
 |.attrs _,_,e,_,_=>by cases e
theorem oy.kind:∀{o:MO},oy XZ w h ρ a o->∃ob,h.get? a=some ob/\ob.cls≠.type "tuple"/\ob.data≠.plain/\ob.cls≠.type "frame"/\ob.cls≠.type "cell"/\ob.cls≠.type "traceback"
 |.list _,hh=>by obtain⟨_,vs,⟨n,ho⟩,r⟩:=hh;exact⟨_,ho,(show Value.type "list"≠Value.type "tuple" by decide),(fun e=>by cases e),(show Value.type "list"≠Value.type "frame" by decide),(show Value.type "list"≠Value.type "cell" by decide),(show Value.type "list"≠Value.type "traceback" by decide)⟩
 |.dict _,hh=>by obtain⟨bD,⟨ob,es,ep,ho,hx,hd,_⟩,r⟩:=hh;exact⟨ob,ho,by rw[hx.1];decide,by rewrite (config:={}) [hd];(intro e;cases e),by rw[hx.1];decide,by rw[hx.1];decide,by rw[hx.1];decide⟩
 |.attrs _,hh=>by obtain⟨mA,⟨o,ho,hc⟩,⟨o',es,ep,hn,hd,_⟩,_⟩:=hh;exact⟨o,ho,by rw[hc];decide,by rw[ho]at hn;cases hn;rewrite (config:={}) [hd];(intro e;cases e),by rw[hc];decide,by rw[hc];decide,by rw[hc];decide⟩
 |.exc _ _,hh=>by obtain⟨ob,d,vs,h1,h2,h3,h4,_⟩:=hh;exact⟨ob,h1,by rewrite (config:={}) [h2];(intro e;cases e),by rewrite (config:={}) [h4];(intro e;cases e),by rewrite (config:={}) [h2];(intro e;cases e),by rewrite (config:={}) [h2];(intro e;cases e),by rewrite (config:={}) [h2];(intro e;cases e)⟩
section
variable{g:eC}{h h':Heap}{ρ:List Addr}{H:MH}
theorem Inv.at(I:Inv g h ρ H)(ha:a∈ρ):∃(k:Nat) (o:MO),ρ[k]?=some a/\H[k]?=some o/\oy g.prog g.w h ρ a o:=by
 obtain⟨k,hk,rfl⟩:=List.getElem_of_mem ha;have hk':k<H.length:=I.len▸hk;obtain⟨a,h1,h2⟩:=I.objs k H[k] (oF hk');have:a=ρ[k]:=by rw[oF hk]at h1;exact(dQ h1).symm
 subst this;exact⟨k,H[k],h1,oF hk',h2⟩
theorem Inv.live(I:Inv g h ρ H)(ha:a∈ρ):∃ob,h.get? a=some ob/\ob.cls≠.type "tuple"/\ob.data≠.plain/\ob.cls≠.type "frame"/\ob.cls≠.type "cell"/\ob.cls≠.type "traceback":=
 (I.at ha).elim fun _ z=>z.elim fun _ z=>z.2.2.kind
theorem Inv.grow(I:Inv g h ρ H)(k:bL h h'):Inv g h' ρ H where
 stays:=fun b o e=>k b o (I.stays b o e)
 len:=I.len
 nodup:=I.nodup
 new:=I.new
 objs:=fun i o e=>(I.objs i o e).elim fun a z=>⟨a,z.1,z.2.stays (by have:=k.bq (ρ:=ρ) (r:=[]);rwa [bp]at this) (fun o e=>k _ o e)⟩
theorem Inv.push(I:Inv g h ρ H)(k:bL h h')(hB:g.B.objs.size<=a)(ha:h.get? a=none)(hr:oy g.prog g.w h' (ρ++[a]) a o):Inv g h' (ρ++[a]) (H++[o]) where
 stays:=fun b o e=>k b o (I.stays b o e)
 len:=by simp[I.len]
 nodup:=by
  refine List.nodup_append.mpr ⟨I.nodup,by simp,fun x hx y hy=>?_⟩;rw[c8]at hy;subst hy;intro e;subst e;obtain⟨ob,ho,_⟩:=I.live hx;rw[ha]at ho;cases ho
 new:=fun x hx=>by
  rcases kT.mp hx with hx|hx
  ·exact I.new x hx
  ·rw[c8]at hx;subst hx;exact hB
 objs:=fun i ob e=>by
  by_cases hi:i<H.length
  ·rw[iG hi]at e;obtain⟨b,h1,h2⟩:=I.objs i ob e;have hb:b∈ρ:=d8 h1;exact⟨b,by rw[iG (I.len▸hi)];exact h1,h2.stays k.bq (fun o e=>k _ o e)⟩
  ·have hl:i=H.length:=by
    have:=(cm.mp e).1;simp only[bJ,bo,cS]at this;exact R8 hi this
   subst hl;rw[ib (ao _),k8]at e;simp only[eM,Option.some.injEq]at e;subst e;exact⟨a,by rw[<-I.len,ib (ao _),k8];rfl,hr⟩
theorem Inv.set(I:Inv g h ρ H)(hk:ρ[k]?=some a)(he:Heap.ExtBut a h h')(hr:fc h ρ h' ρ->oy g.prog g.w h' ρ a o):fc h ρ h' ρ/\Inv g h' ρ (H.set k o):=by
 have ha:a∈ρ:=d8 hk;have k2:fc h ρ h' ρ:=⟨fun _ _ e=>e,fun b ob e hh=>he b ob (fun q=>by
  subst q;obtain⟨Xv,h1,h2,h3,_⟩:=I.live ha;rw[e]at h1;cases h1;rcases hh with hh|hh
  ·exact h2 hh.1
  ·exact h3 hh.1) e⟩
 refine⟨k2,⟨fun b ob e=>he b ob (fun q=>by subst q;exact absurd (kW e) (Nat.not_lt.mpr (I.new _ ha))) (I.stays b ob e),by simp[I.len],I.nodup,I.new,fun i ob e=>?_⟩⟩;by_cases hi:i=k
 ·subst hi;have:i<H.length:=by have:=(cm.mp e).1;simpa using this
  rw[fQ this]at e;cases e;exact⟨a,hk,hr k2⟩
 ·rw[bB (Ne.symm hi)]at e;obtain⟨b,h1,h2⟩:=I.objs i ob e;have hb:b≠a:=fun q=>by
   subst q;exact hi ((pR (cm.mp h1).1 I.nodup).mp (h1.trans hk.symm))
  exact⟨b,h1,h2.stays k2 (fun o e=>he b o hb e)⟩
end
theorem Ft.refl(o:Obj):Ft o o:=.inl rfl
theorem Ft.trans(x:Ft a b)(y:Ft b c):Ft a c:=by
 rcases x with rfl|⟨hc,sl,rfl⟩
 ·exact y
 ·rcases y with rfl|⟨_,Vy,rfl⟩
  ·exact .inr ⟨hc,sl,rfl⟩
  ·exact .inr ⟨hc,Vy,rfl⟩
theorem Ft.data(x:Ft a b):b.data=a.data:=by rcases x with rfl|⟨_,_,rfl⟩<;>rfl
theorem Ft.same(x:Ft a b)(h:∀es n,a.data≠.dict es n):b=a:=by rcases x with rfl|⟨⟨es,n,hc⟩,_⟩;rfl;exact absurd hc (h es n)
section
variable{g:eC}{h h' h'':Heap}{ρ aV pq own:List Addr}{H H':MH}{XR:Env}{fr:List Env}{XO:List Str}{Y0:Loc}
theorem Step.refl:Step own h ρ h ρ:=⟨⟨[],by simp,fun _ h=>nomatch h⟩,fun b o e _ _=>⟨o,e,.refl o⟩,fun _ e=>e,fun _ _ e _ _=>e⟩
theorem Step.mem(x:Step own h ρ h' aV)(ha:a∈aV)(hl:(h.get? a).isSome=true):a∈ρ:=by
 obtain⟨r,rfl,hr⟩:=x.pre;rcases kT.mp ha with ha|ha
 ·exact ha
 ·rw[hr a ha]at hl;cases hl
theorem Step.trans(x:Step own h ρ h' aV)(y:Step own h' aV h'' pq):Step own h ρ h'' pq where
 pre:=by
  obtain⟨r,rfl,hr⟩:=x.pre;obtain⟨r',rfl,hr'⟩:=y.pre;exact⟨r++r',by rw[bZ],fun a ha=>(kT.mp ha).elim (hr a) fun q=>x.alive a (hr' a q)⟩
 kept:=fun b o e h1 h2=>by
  obtain⟨o',e',s'⟩:=x.kept b o e h1 h2;obtain⟨X6,X7,Te⟩:=y.kept b o' e' (fun q=>h1 (x.mem q (by rw[e];rfl))) h2;exact⟨X6,X7,s'.trans Te⟩
 alive:=fun b e=>x.alive b (y.alive b e)
 exc:=fun b o e c d=>y.exc b o (x.exc b o e c d) c d
theorem Step.mono(x:Step own h ρ h' aV)(k:∀a∈own,a∈Vz):Step Vz h ρ h' aV:=⟨x.pre,fun b o e h1 h2=>x.kept b o e h1 fun q=>h2 (k b q),x.alive,x.exc⟩
theorem Step.up(x:Step [] h ρ h' aV):Step own h ρ h' aV:=x.mono fun _ q=>nomatch q
theorem bL.alive(k:bL h h'):∀b,h'.get? b=none->h.get? b=none:=fun b e=>by
 cases q:h.get? b with
 |none=>rfl
 |some o=>rw[k b o q]at e;cases e
theorem Step.grow(k:bL h h'):Step own h ρ h' ρ:=⟨⟨[],by simp,fun _ h=>nomatch h⟩,fun b o e _ _=>⟨o,k b o e,.refl o⟩,k.alive,fun b o e _ _=>k b o e⟩
theorem Step.push(k:bL h h')(ha:h.get? a=none):Step own h ρ h' (ρ++[a]):=
 ⟨⟨[a],rfl,fun b hb=>by rw[c8]at hb;rw[hb];exact ha⟩,fun b o e _ _=>⟨o,k b o e,.refl o⟩,k.alive,fun b o e _ _=>k b o e⟩
theorem Step.set(ha:a∈ρ)(k:Heap.ExtBut a h h')(hl:(h'.get? a).isSome=true)(hc:∀o,h.get? a=some o->o.cls≠.ref RC):Step own h ρ h' ρ:=
 ⟨⟨[],by simp,fun _ h=>nomatch h⟩,fun b o e h1 _=>⟨o,k b o (fun q=>h1 (q▸ha)) e,.refl o⟩,fun b e=>(by
  by_cases q:b=a
  ·subst q;rw[e]at hl;cases hl
  ·cases z:h.get? b with
   |none=>rfl
   |some o=>rw[k b o q z]at e;cases e),fun b o e c _=>k b o (fun q=>by subst q;exact hc o e c) e⟩
theorem Step.bq(I:Inv g h ρ H)(x:Step [] h ρ h' aV):fc h ρ h' aV:=by
 obtain⟨r,rfl,hr⟩:=x.pre;refine⟨fun i a e=>by rw[iG (cm.mp e).1];exact e,fun a o e q=>?_⟩;obtain⟨o',e',s'⟩:=x.kept a o e (fun ha=>by
  obtain⟨ob,h1,h2,h3,_⟩:=I.live ha;rw[e]at h1;cases h1;rcases q with q|q
  ·exact h2 q.1
  ·exact h3 q.1) (fun q=>nomatch q)
 rw[e',s'.same (by
  rcases q with ⟨_,xs,n,q⟩|⟨q,_⟩
  ·rewrite (config:={}) [q];intro es n e;cases e
  ·rewrite (config:={}) [q];intro es n e;cases e)]
theorem bY.bq(V:bY g XR fr XO h ρ H Y0)(x:Step (ownOf XR) h ρ h' aV):fc h ρ h' aV:=by
 obtain⟨r,rfl,hr⟩:=x.pre;refine⟨fun i a e=>by rw[iG (cm.mp e).1];exact e,fun a o e q=>?_⟩;obtain⟨o',e',s'⟩:=x.kept a o e (fun ha=>by
  obtain⟨ob,h1,h2,h3,_⟩:=V.inv.live ha;rw[e]at h1;cases h1;rcases q with q|q
  ·exact h2 q.1
  ·exact h3 q.1) (fun ha=>by
  obtain⟨ob,h1,h2⟩:=V.jH a ha;rw[e]at h1;cases h1;rcases q with ⟨_,xs,n,q⟩|⟨q,_⟩
  ·rcases h2 with ⟨es,m,h2⟩|⟨v,h2⟩<;>(rw[q]at h2;cases h2)
  ·rcases h2 with ⟨es,m,h2⟩|⟨v,h2⟩<;>(rw[q]at h2;cases h2))
 rw[e',s'.same (by
  rcases q with ⟨_,xs,n,q⟩|⟨q,_⟩
  ·rewrite (config:={}) [q];intro es n e;cases e
  ·rewrite (config:={}) [q];intro es n e;cases e)]
theorem vx{m:Str->Option Value}(x:h.Ns a m)(k:∀o,h.get? a=some o->∃o',h'.get? a=some o'/\o'.data=o.data):h'.Ns a m:=
 Exists.elim x fun o z=>z.elim fun es z=>z.elim fun ep z=>(k o z.1).elim fun o' w=>⟨o',es,ep,w.1,w.2.trans z.2.1,z.2.2⟩
theorem Frs.step(F:Frs g.B h ρ fr)(x:Step [] h ρ h' aV):Frs g.B h' aV fr:=by
 refine⟨?_,fun e he L hL=>?_⟩
 ·have:∀l:List Env,(∀e∈l,∀L,e.frame=some L->L∉ρ)->h.FunFrames g.B l->h'.FunFrames g.B l:=by
   intro l
   induction l with
   |nil=>intro _ _;trivial
   |cons e r ih=>
    rintro hm ⟨hk,⟨L,o,hf,hn,ho,hd⟩,hr⟩;obtain⟨o',ho',hs⟩:=x.kept L o ho (hm e (.head _) L hf) (fun q=>nomatch q);exact⟨hk,⟨L,o',hf,hn,ho',fun vs=>by rw[hs.data];exact hd vs⟩,ih (fun e he=>hm e (.tail _ he)) hr⟩
  exact this fr (fun e he L hL=>(F.2 e he L hL).1) F.1
 ·obtain⟨h1,o,es,n,ho,hc⟩:=F.2 e he L hL;obtain⟨o',ho',hs⟩:=x.kept L o ho h1 (fun q=>nomatch q);exact⟨fun q=>h1 (x.mem q (by rw[ho];rfl)),o',es,n,ho',hs.data.trans hc⟩
theorem bY.to(V:bY g XR fr XO h ρ H Y0)(x:Step [] h ρ h' aV)(I:Inv g h' aV H'):bY g XR fr XO h' aV H' Y0:=by
 have k2:=x.bq V.inv;obtain⟨m,F,hv⟩:=V.frame;have qQ:∀c v,c∉ρ->h.IsCell c v->h'.IsCell c v:=fun c v hc ⟨o,ho,hd⟩=>by
  obtain⟨o',ho',hs⟩:=x.kept c o ho hc (fun q=>nomatch q);exact⟨o',ho',hs.data.trans hd⟩
 refine⟨I,V.mi.step x,⟨m,⟨vx F.ns fun o ho=>?_,I.stays,F.above⟩,fun i y p h1 h2=>?_⟩,?_,?_,?_,?_,V.tM⟩
 ·obtain⟨o',ho',hs⟩:=x.kept XR.locals o ho V.locs (fun q=>nomatch q);exact⟨o',ho',hs.data⟩
 ·obtain⟨v,hat,hr⟩:=hv i y p h1 h2;refine⟨v,?_,Rep.stays k2 hr⟩;rcases hat with hat|⟨c,e1,e2,e3⟩
  ·exact .inl hat
  ·exact .inr ⟨c,e1,e2,qQ c _ (V.cells y c e2).1 e3⟩
 ·obtain⟨o,_,_,ho,_⟩:=F.ns;exact fun q=>V.locs (x.mem q (by rw[ho];rfl))
 ·intro a ha q;obtain⟨o,ho,_⟩:=V.jH a (.tail _ ha);exact V.apart a ha (x.mem q (by rw[ho];rfl))
 ·intro y c e;obtain⟨h1,v,h2⟩:=V.cells y c e;refine⟨fun q=>h1 (x.mem q ?_),v,qQ c v h1 h2⟩;obtain⟨o,ho,_⟩:=h2;rw[ho];rfl
 ·intro a ha;obtain⟨o,ho,hk⟩:=V.jH a ha;have hn:a∉ρ:=by
   rcases bS.mp ha with rfl|ha
   ·exact V.locs
   ·exact V.apart _ ha
  obtain⟨o',ho',hs⟩:=x.kept a o ho hn (fun q=>nomatch q);exact⟨o',ho',by rw[hs.data];exact hk⟩
end
section
variable{g:eC}{hd:Bool}{sc:Scope}{XO:List Str}{n:Nat}{A:Around}{XR:Env}{fr:List Env}{s:Shared}{ρ:List Addr}{H:MH}{Y0:Loc}{bk:g8}
 {α β γ δ:Type}{R:Heap->List Addr->α->β->Prop}{R':Heap->List Addr->γ->δ->Prop}
theorem At.to(V:At g hd sc XO n A XR fr s ρ H Y0)(L:bY g XR fr XO h' aV H' Y0):At g hd sc XO n A XR fr (ez s h' aU) aV H' Y0:=
 ⟨V.act,V.d6,L⟩
theorem qt.old(x:qt g h₁ h ρ H k e)(al:∀b,h₁.get? b=none->h₀.get? b=none):qt g h₀ h ρ H k e:=by
 obtain⟨a,b,c,oe,vs,d,d',r⟩:=x;refine⟨a,b,al _ c,oe,vs,d,d',?_⟩;rcases r with r|⟨T,oT,ts,r1,r2,r3,r⟩
 ·exact .inl r
 ·exact .inr ⟨T,oT,ts,r1,r2,al _ r3,r⟩
theorem mU.after{Q:β->Shared->Prop}{E:Value->Shared->Prop}(x:mU g R own XR fr XO Y0 s ρ Y3 Q E)(st:Step own s.heap ρ h' aV):
  mU g R own XR fr XO Y0 (ez s h' aU) aV Y3 Q E:=by
 cases Y3 with
 |val p H'=>exact fun v h'' qu pq r8 L r=>x v h'' qu pq (st.trans r8) L r
 |exc k H'=>exact fun e h'' qu pq r8 L r=>x e h'' qu pq (st.trans r8) L (r.old st.alive)
theorem mU.px{Q:β->Shared->Prop}{E:Value->Shared->Prop}(x:mU g R own XR fr XO Y0 s ρ Y3 Q E):PX g own XR fr XO Y0 s ρ Y3 E:=by
 cases Y3 with
 |val p H'=>trivial
 |exc k H'=>exact x
theorem Ku.bind{t:Env->Sem β}{c:g8->Loc->MH->Option (Res α)}(ha:Ku g hd sc XO R t c)(ho:me g n bk)(V:At g hd sc XO n A XR fr s ρ H Y0)
  {k:α->MH->Option (Res γ)}(aA:bindR (c bk Y0 H) k=some Y3) {Q:β->Shared->Prop}{E:Value->Shared->Prop}(hx:PX g (ownOf XR) XR fr XO Y0 s ρ Y3 E)
  (hv:∀p H' v h' aU aV,k p H'=some Y3->Step (ownOf XR) s.heap ρ h' aV->At g hd sc XO n A XR fr (ez s h' aU) aV H' Y0->R h' aV p v->Q v (ez s h' aU)):
  wpAny g.M A (t XR) Q E s:=by
 cases h1:c bk Y0 H with
 |none=>rw[h1]at aA;cases aA
 |some r=>
  rw[h1]at aA;refine ha n bk ho V r h1 Q E ?_;cases r with
  |val p H'=>exact fun v h' aU aV st L r=>hv p H' v h' aU aV aA st (V.to L) r
  |exc k' H'=>
   have e:Y3=.exc k' H':=(dQ aA).symm;subst e;exact hx
theorem mU.ret{Q:β->Shared->Prop}{E:Value->Shared->Prop}(x:mU g R own XR fr XO Y0 s ρ (.val p H) Q E)(L:bY g XR fr XO s.heap ρ H Y0)(r:R s.heap ρ p v)(tk:Nat):Q v { s with toks:=tk }:=
 x v s.heap tk ρ .refl L r
end
end
end Mine.Internal
end
noncomputable section
open PySem PySem.W PyProof.Rows PySem.Calls
namespace Mine.Internal
section
variable{g:eC}{hd:Bool}{sc:Scope}{XO:List Str}{n:Nat}{A:Around}{XR:Env}{fr:List Env}{s:Shared}{ρ:List Addr}{H:MH}{Y0:Loc}{bk:g8}
theorem At.kind(V:At g hd sc XO n A XR fr s ρ H Y0):XR.scope.kind=.function:=by rw[V.d6.scope];exact V.d6.kind
theorem At.kindOf(V:At g hd sc XO n A XR fr s ρ H Y0)(x:Str):XR.kindOf x=sc.names.lookup x:=by show XR.scope.names.lookup x=_;rw[V.d6.scope]
theorem Ir{k pos}:SE g hd sc XO (eval (.Constant .none k pos)) (af .none):=by
 intro n bk ho A XR fr s ρ H Y0 V Y3 aA Q E hq;cases aA;exact bH (hq.ret V.live rfl _)
theorem Iu{b k pos}:SE g hd sc XO (eval (.Constant (.bool b) k pos)) (af (.bool b)):=by
 intro n bk ho A XR fr s ρ H Y0 V Y3 aA Q E hq;cases aA;exact bH (hq.ret V.live rfl _)
theorem Fv{i k pos}:SE g hd sc XO (eval (.Constant (.int i) k pos)) (af (.int i)):=by
 intro n bk ho A XR fr s ρ H Y0 V Y3 aA Q E hq;cases aA;exact wpAny_Constant_int (hq.ret V.live ⟨_,rfl⟩ _)
theorem Pw{x k pos}(hx:oE x:=by trivial):SE g hd sc XO (eval (.Constant (.str x) k pos)) (af (.str x)):=by
 intro n bk ho A XR fr s ρ H Y0 V Y3 aA Q E hq;cases aA;exact wpAny_mkText (hq.ret V.live ⟨hx,_,rfl⟩ _)
theorem rG{Z:Prop}(e:ae i o L H=some Y3)(z:∀v,L[i]?=some (some v)->Y3=.val v H->Z):Z:=by
 unfold ae at e;cases h:L[i]? with
 |none=>rw[h]at e;cases e
 |some w=>
  rw[h]at e;cases w with
  |none=>cases e
  |some v=>exact z v h (dQ e).symm
theorem zD{i:Nat}{x:Str}(V:At g hd sc XO n A XR fr s ρ H Y0)(hi:XO[i]?=some x)(hx:(x==("__classdict__":Str))=false){p:MV}(hv:Y0[i]?=some (some p)){Q E:Value->Shared->Prop}
  (hq:∀u,Rep s.heap ρ p u->Q u s):wpAny g.M A (loadName XR x) Q E s:=by
 obtain⟨m,F,hm⟩:=V.live.frame;obtain⟨u,hat,hr⟩:=hm i x p hi hv;rcases hat with ⟨h1,h2⟩|⟨c,h1,h2,h3⟩
 ·exact wpAny_loadName_local V.kind h1 F.ns h2 (hq u hr)
 ·rcases h1 with h1|h1
  ·exact wpAny_loadName_cell V.kind h1 h2 h3 (hq u hr)
  ·exact wpAny_loadName_free V.kind h1 h2 h3 (hq u hr) hx
theorem Px{i x pos}(hi:XO[i]?=some x)(hx:(x==("__debug__":Str))=false/\(x==("__classdict__":Str))=false:=by trivial):SE g hd sc XO (eval (.Name x pos)) (ae i):=by
 intro n bk ho A XR fr s ρ H Y0 V Y3 aA Q E hq;refine rG aA fun v hv e=>?_
 subst e;exact wpAny_Name (zD V hi hx.2 hv fun u hr=>hq.ret V.live hr _) hx.1
theorem Iv(G:g.Ok){x pos v}(e:nsIn g.K mainGlobals x=some (some v))(hl:sc.names.lookup x=some .globalImplicit)(hx:(x==("__debug__":Str))=false:=by trivial):
  SE g hd sc XO (eval (.Name x pos)) (af (.fn v)):=by
 intro n bk ho A XR fr s ρ H Y0 V Y3 aA Q E hq;cases aA;have X:g.K.In s.heap:=G.sG.keeps V.live.inv.stays;exact Name_function_global V.kind ((V.kindOf x).trans hl) (loadGlobal_global (by rw[V.d6.globals];exact G.top.g.keeps V.live.inv.stays) (mg_of G.sG G.top.g e) (hq.ret V.live rfl _)) hx
theorem AX{t:Env->Sem Value}{u:Value->Sem Value}(ha:SE g hd sc XO (eval a) ca)(hf:pJ g hd sc XO u f)
  (ht:∀A XR s Q E,wpAny g.M A (eval a XR) (fun v j0=>wpAny g.M A (u v) Q E j0) E s->wpAny g.M A (t XR) Q E s):SE g hd sc XO t (c1 f ca):=by
 intro n bk ho A XR fr s ρ H Y0 V Y3 aA Q E hq;refine ht _ _ _ _ _ (ha.bind ho V aA hq.px fun p H' v h' aU aV e st V' r=>?_);exact hf V' p Y3 e v r Q E (hq.after st)
theorem Fw{t:Env->Sem Value}{u:Value->Value->Sem Value}(ha:SE g hd sc XO (eval a) ca)(hb:SE g hd sc XO (eval b) cb)(hf:kP g hd sc XO u f)
  (ht:∀A XR s Q E,wpAny g.M A (eval a XR) (fun v j0=>wpAny g.M A (eval b XR) (fun w zE=>wpAny g.M A (u v w) Q E zE) E j0) E s->wpAny g.M A (t XR) Q E s):
  SE g hd sc XO t (c2 f ca cb):=by
 intro n bk ho A XR fr s ρ H Y0 V Y3 aA Q E hq;refine ht _ _ _ _ _ (ha.bind ho V aA hq.px fun p H' v h' aU aV e st V' r=>?_);refine hb.bind ho V' e (hq.after st).px fun p2 H2 v2 h2 i9 pK e2 eu V2 r2=>?_
 exact hf V2 p p2 Y3 e2 v (Rep.stays (V'.live.bq eu) r) v2 r2 Q E ((hq.after st).after eu)
theorem Py(ha:SE g hd sc XO (eval a) ca)(hb:SE g hd sc XO (eval b) cb)(hf:kP g hd sc XO (binaryOp op) f):
  SE g hd sc XO (eval (.BinOp a op b pos)) (c2 f ca cb):=Fw ha hb hf fun _ _ _ _ _ h=>wpAny_BinOp h
theorem Pz(ha:SE g hd sc XO (eval a) ca)(hb:SE g hd sc XO (eval b) cb)(hf:kP g hd sc XO (compareOp op) f)
  (hm:behindInMarks op b=false:=by trivial):
  SE g hd sc XO (eval (.Compare a [op] [b] pos)) (c2 f ca cb):=Fw ha hb hf fun _ _ _ _ _ h=>wpAny_Compare1 h hm
theorem Kv(ha:SE g hd sc XO (eval a) ca)(hf:pJ g hd sc XO (unaryOp op) f):
  SE g hd sc XO (eval (.UnaryOp op a pos)) (c1 f ca):=AX ha hf fun _ _ _ _ _ h=>wpAny_UnaryOp h
theorem Cc(ha:SE g hd sc XO (eval a) ca)(hf:pJ g hd sc XO (fun v=>compareOp op v .none) f)
  (hm:behindInMarks op (.Constant .none k p1)=false:=by trivial):
  SE g hd sc XO (eval (.Compare a [op] [.Constant .none k p1] pos)) (c1 f ca):=
 AX ha hf fun _ _ _ _ _ h=>wpAny_Compare1 (wpAny_mono h (fun _ _ z=>bH z) fun _ _ z=>z) hm
theorem Tf(ht:ST g hd sc XO (fun XR=>isTrue t XR (eval t XR)) ct)(ha:SE g hd sc XO (eval a) ca)(hb:SE g hd sc XO (eval b) cb):
  SE g hd sc XO (eval (.IfExp t a b pos)) (eL ct ca cb):=by
 intro n bk ho A XR fr s ρ H Y0 V Y3 aA Q E hq;refine wpAny_IfExp (ht.bind ho V aA hq.px fun p H' v h' aU aV e st V' r=>?_);obtain rfl:v=p:=r;cases v with
 |true=>exact ha n bk ho V' Y3 e Q E (hq.after st)
 |false=>exact hb n bk ho V' Y3 e Q E (hq.after st)
noncomputable def PA(g:eC)(v:Value)(p:MV)(s:Shared)(H:MH):Prop:=
 ∀c,dF p H=some c->∀(A:Around) (Q:Bool->Shared->Prop) (E:Value->Shared->Prop),(∀tk,Q c { s with toks:=tk })->wpAny g.M A (truthy v) Q E s
theorem xt(V:At g hd sc XO n A XR fr s ρ H Y0)(r:Rep s.heap ρ p v):PA g v p s H:=by
 intro c hc A Q E hq;cases p with
 |bool b=>cases (show v=.bool b from r);cases hc;exact wpAny_truthy_bool (hq s.toks)
 |none=>cases (show v=.none from r);cases hc;exact bH (hq s.toks)
 |obj k=>
  obtain⟨a,rfl,hk⟩:=r;refine ew hc fun xs hx hc=>?_
  cases hc;obtain⟨b,h1,z,vs,h2,h3⟩:=V.live.inv.objs k _ hx;rw[hk]at h1;cases h1;have hl:=aX.length h3;refine wpAny_truthy_list h2.isList (by rw[eE,hl];have:sizeLine=16777216:=rfl;exact yo z this) ?_;have e:(!vs.toArray.isEmpty)=!xs.isEmpty:=by
   rw[List.isEmpty_toArray];cases vs<;>cases xs<;>first|rfl|cases hl
  rw[e];exact hq _
 |_=>cases hc
theorem fA{α β γ:Type}(r:Option (Res α))(f:α->MH->Option (Res β))(k:β->MH->Option (Res γ)):bindR (bindR r f) k=bindR r fun a H=>bindR (f a H) k:=by
 cases r with
 |none=>rfl
 |some r=>cases r<;>rfl
theorem pJ.bind{u:Value->Sem Value}{f:P1}(hf:pJ g hd sc XO u f)(V:At g hd sc XO n A XR fr s ρ H Y0){p:MV}{v:Value}(r:Rep s.heap ρ p v){γ:Type}{k:MV->MH->Option (Res γ)}{Y3:Res γ}
  (aA:bindR (f p H) k=some Y3) {Q:Value->Shared->Prop}{E:Value->Shared->Prop}(hx:PX g (ownOf XR) XR fr XO Y0 s ρ Y3 E)
  (hv:∀p H' v h' aU aV,k p H'=some Y3->Step (ownOf XR) s.heap ρ h' aV->At g hd sc XO n A XR fr (ez s h' aU) aV H' Y0->Rep h' aV p v->Q v (ez s h' aU)):
  wpAny g.M A (u v) Q E s:=by
 cases h1:f p H with
 |none=>rw[h1]at aA;cases aA
 |some r1=>
  rw[h1]at aA;refine hf V p r1 h1 v r Q E ?_;cases r1 with
  |val p H'=>exact fun v h' aU aV st L r=>hv p H' v h' aU aV aA st (V.to L) r
  |exc k' H'=>
   have e:Y3=.exc k' H':=(dQ aA).symm;subst e;exact hx
theorem kP.bind{u:Value->Value->Sem Value}{f:P2}(hf:kP g hd sc XO u f)(V:At g hd sc XO n A XR fr s ρ H Y0){p q:MV}{v w:Value}(r:Rep s.heap ρ p v)(r2:Rep s.heap ρ q w){γ:Type}{k:MV->MH->Option (Res γ)}{Y3:Res γ}
  (aA:bindR (f p q H) k=some Y3) {Q:Value->Shared->Prop}{E:Value->Shared->Prop}(hx:PX g (ownOf XR) XR fr XO Y0 s ρ Y3 E)
  (hv:∀p H' v h' aU aV,k p H'=some Y3->Step (ownOf XR) s.heap ρ h' aV->At g hd sc XO n A XR fr (ez s h' aU) aV H' Y0->Rep h' aV p v->Q v (ez s h' aU)):
  wpAny g.M A (u v w) Q E s:=by
 cases h1:f p q H with
 |none=>rw[h1]at aA;cases aA
 |some r1=>
  rw[h1]at aA;refine hf V p q r1 h1 v r w r2 Q E ?_;cases r1 with
  |val p H'=>exact fun v h' aU aV st L r=>hv p H' v h' aU aV aA st (V.to L) r
  |exc k' H'=>
   have e:Y3=.exc k' H':=(dQ aA).symm;subst e;exact hx
theorem pv(V:At g hd sc XO n A XR fr s ρ H Y0)(r:Rep s.heap ρ p v)
  (e:(match dF p H with|some c=>some (Res.val c H)|none=>none)=some Y3) {Q:Bool->Shared->Prop}{E:Value->Shared->Prop}
  (hq:mU g Td (ownOf XR) XR fr XO Y0 s ρ Y3 Q E):wpAny g.M A (truthy v) Q E s:=by
 cases hc:dF p H with
 |none=>rw[hc]at e;cases e
 |some c=>
  rw[hc]at e;cases e;exact xt V r c hc _ _ _ fun tk=>hq.ret V.live rfl tk
theorem PB(ha:SE g hd sc XO (eval e) c)
  (he:∀XR whole,isTrue e XR whole=(do let v<-whole;standAt e.pos;holding [v] (truthy v)):=by trivial):ST g hd sc XO (fun XR=>isTrue e XR (eval e XR)) (tE c):=by
 intro n bk ho A XR fr s ρ H Y0 V Y3 aA Q E hq;refine wpAny_isTrue_value ?_ (he _ _);refine ha.bind ho V aA hq.px fun p H' v h' aU aV e st V' r=>?_
 exact pv V' r e (hq.after st)
theorem PC{op:CmpOp}{f:P2}{a b:Expr}{pos:Pos}{ca cb:CE}(ha:SE g hd sc XO (eval a) ca)(hb:SE g hd sc XO (eval b) cb)(hf:kP g hd sc XO (compareOp op) f)
  (hm:behindInMarks op b=false:=by trivial):
  ST g hd sc XO (fun XR=>isTrue (.Compare a [op] [b] pos) XR (eval (.Compare a [op] [b] pos) XR)) (tE (c2 f ca cb)):=by
 intro n bk ho A XR fr s ρ H Y0 V Y3 aA Q E hq;unfold tE c2 at aA;simp only[fA]at aA;refine wpAny_isTrue_Compare1 (ha.bind ho V aA hq.px fun p H' v h' aU aV e st V' r=>?_) hm;refine hb.bind ho V' e (hq.after st).px fun p2 H2 v2 h2 i9 pK e2 eu V2 r2=>?_
 refine hf.bind V2 (Rep.stays (V'.live.bq eu) r) r2 e2 ((hq.after st).after eu).px fun p3 H3 v3 h3 nH tu e3 jx V3 r3=>?_
 exact pv V3 r3 e3 (((hq.after st).after eu).after jx)
theorem Cd{op:CmpOp}{f:P1}{a:Expr}{k:Nat}{p1 pos:Pos}{ca:CE}(ha:SE g hd sc XO (eval a) ca)(hf:pJ g hd sc XO (fun v=>compareOp op v .none) f)
  (hm:behindInMarks op (.Constant .none k p1)=false:=by trivial):
  ST g hd sc XO (fun XR=>isTrue (.Compare a [op] [.Constant .none k p1] pos) XR (eval (.Compare a [op] [.Constant .none k p1] pos) XR)) (tE (c1 f ca)):=by
 intro n bk ho A XR fr s ρ H Y0 V Y3 aA Q E hq;unfold tE c1 at aA;simp only[fA]at aA;refine wpAny_isTrue_Compare1 (ha.bind ho V aA hq.px fun p H' v h' aU aV e st V' r=>?_) hm;refine bH ?_;refine hf.bind V' r e (hq.after st).px fun p3 H3 v3 h3 nH tu e3 jx V3 r3=>?_
 exact pv V3 r3 e3 ((hq.after st).after jx)
theorem PD(ha:ST g hd sc XO (fun XR=>isTrue e XR (eval e XR)) c):
  ST g hd sc XO (fun XR=>isTrue (.UnaryOp .Not e pos) XR (eval (.UnaryOp .Not e pos) XR)) (oH c):=by
 intro n bk ho A XR fr s ρ H Y0 V Y3 aA Q E hq;refine wpAny_isTrue_Not (ha.bind ho V aA hq.px fun p H' v h' aU aV e st V' r=>?_);obtain rfl:v=p:=r;cases e;exact(hq.after st).ret V'.live rfl _
set_option backward.match.sparseCases true in
theorem PE(hb:ST g hd sc XO (fun XR=>isTrue b XR (eval b XR)) c):ST g hd sc XO (fun XR=>allTrue op [b] XR) c:=by
 intro n bk ho A XR fr s ρ H Y0 V Y3 aA Q E hq;have fin:∀(b:Bool) (j0:Shared),Q b j0->wpAny g.M A (match op,b with|.And,false=>pure false|.Or,true=>pure true|_,_=>allTrue op [] XR) Q E j0:=by
  intro b j0 h;cases op<;>cases b<;>exact bH h
 refine aQ (wpAny_mono (hb n bk ho V Y3 aA Q E hq) (fun b j0 h=>fin b j0 h) fun _ _ z=>z)
theorem PF(ha:ST g hd sc XO (fun XR=>isTrue a XR (eval a XR)) ca)(hb:ST g hd sc XO (fun XR=>allTrue .And (r::rs) XR) cb):
  ST g hd sc XO (fun XR=>allTrue .And (a::r::rs) XR) (jC ca cb):=by
 intro n bk ho A XR fr s ρ H Y0 V Y3 aA Q E hq;refine wpAny_allTrue_And_cons (ha.bind ho V aA hq.px fun p H' v h' aU aV e st V' r=>?_);obtain rfl:v=p:=r;cases v with
 |true=>exact hb n bk ho V' Y3 e Q E (hq.after st)
 |false=>cases e;exact(hq.after st).ret V'.live rfl _
theorem Tg(ha:ST g hd sc XO (fun XR=>isTrue a XR (eval a XR)) ca)(hb:ST g hd sc XO (fun XR=>allTrue .Or (r::rs) XR) cb):
  ST g hd sc XO (fun XR=>allTrue .Or (a::r::rs) XR) (nd ca cb):=by
 intro n bk ho A XR fr s ρ H Y0 V Y3 aA Q E hq;refine wpAny_allTrue_Or_cons (ha.bind ho V aA hq.px fun p H' v h' aU aV e st V' r=>?_);obtain rfl:v=p:=r;cases v with
 |false=>exact hb n bk ho V' Y3 e Q E (hq.after st)
 |true=>cases e;exact(hq.after st).ret V'.live rfl _
theorem PG(h:ST g hd sc XO (fun XR=>allTrue op es XR) c):
  ST g hd sc XO (fun XR=>isTrue (.BoolOp op es pos) XR (eval (.BoolOp op es pos) XR)) c:=by
 intro n bk ho A XR fr s ρ H Y0 V Y3 aA Q E hq;exact wpAny_isTrue_BoolOp (h n bk ho V Y3 aA Q E hq)
theorem bY.size(V:bY g XR fr XO h ρ H Y0):g.B.objs.size<=h.objs.size:=by
 obtain⟨m,F,_⟩:=V.frame;exact k7 (gB F.above F.ns.lt)
theorem bY.grow(V:bY g XR fr XO h ρ H Y0)(k:bL h h'):bY g XR fr XO h' ρ H Y0:=V.to (.grow k) (V.inv.grow k)
theorem bY.push(V:bY g XR fr XO h ρ H Y0)(k:bL h h')(hs:h.objs.size<=a)(hr:oy g.prog g.w h' (ρ++[a]) a o):bY g XR fr XO h' (ρ++[a]) (H++[o]) Y0:=
 V.to (.push k (iw hs)) (V.inv.push k (aN V.size hs) (iw hs) hr)
theorem bL.push(h:Heap)(o:Obj):bL h (h.push o):=fun _ _ e=>iv _ e
theorem eV(h:Heap):h.get? h.objs.size=none:=iw (ao _)
theorem mU.grow{Q E:Value->Shared->Prop}(x:mU g Rep own XR fr XO Y0 s ρ (.val p H) Q E)(L:bY g XR fr XO s.heap ρ H Y0)(k:bL s.heap h')(r:Rep h' ρ p v)(tk:Nat):
  Q v (ez s h' tk):=x v h' tk ρ (.grow k) (L.grow k) r
theorem mU.made{Q E:Value->Shared->Prop}(x:mU g Rep own XR fr XO Y0 s ρ (.val (.obj H.length) (H++[o])) Q E)(L:bY g XR fr XO s.heap ρ H Y0)(k:bL s.heap h')
  (hs:s.heap.objs.size<=a) (hr:oy g.prog g.w h' (ρ++[a]) a o) (tk:Nat):Q (.ref a) (ez s h' tk):=
 x (.ref a) h' tk (ρ++[a]) (.push k (iw hs)) (L.push k hs hr) ⟨a,rfl,by rw[<-L.inv.len,ib (ao _),k8];rfl⟩
theorem Fx:SL g hd sc XO (fun XR=>spliced (backTo pos (starEach [] XR))) ai:=by
 intro n bk ho A XR fr s ρ H Y0 V Y3 aA Q E hq;cases aA;exact bH (hq.ret V.live rfl _)
theorem Iw(he:SE g hd sc XO (eval e) c)(hes:SL g hd sc XO (fun XR=>spliced (backTo pos (starEach es XR))) cs)
  (hs:∀XR,starEach (e::es) XR=(false,eval e XR)::starEach es XR:=by trivial):SL g hd sc XO (fun XR=>spliced (backTo pos (starEach (e::es) XR))) (aa c cs):=by
 intro n bk ho A XR fr s ρ H Y0 V Y3 aA Q E hq;show wpAny _ _ (spliced (backTo pos (starEach (e::es) XR))) _ _ _;rw[hs XR];refine spliced_cons (he.bind ho V aA hq.px fun p H' v h' aU aV e st V' r=>?_);refine hes.bind ho V' e (hq.after st).px fun p2 H2 v2 h2 i9 pK e2 eu V2 r2=>?_
 cases e2;exact((hq.after st).after eu).ret V2.live ⟨v,v2,rfl,Rep.stays (V'.live.bq eu) r,r2⟩ i9
set_option tactic.hygienic true in
theorem PH(hes:SL g hd sc XO (fun XR=>spliced (backTo pos (starEach es XR))) cs):SE g hd sc XO (eval (.Tuple es k pos)) (aG cs):=by
 intro n bk ho A XR fr s ρ H Y0 V Y3 aA Q E hq;refine Tuple_ (hes.bind ho V aA hq.px fun p H' v h' aU aV e st V' r=>?_)
 split at e
 ·rename_i hz;cases e;have hl:=r.length;refine pS ?_ (by show v.toArray.size<=sizeLine;rw[eE,hl];exact hz);have k:=bL.push h' { cls:=.type "tuple",dict:=none,data:=.seq v.toArray };exact(hq.after st).grow V'.live k ⟨hz,_,v,rfl,⟨_,fR _ rfl,rfl,0,rfl⟩,aX.stays (Step.bq V'.live.inv (.grow k)) r⟩ aU
 ·cases e
set_option tactic.hygienic true in
theorem Iy(hes:SL g hd sc XO (fun XR=>spliced (backTo pos (starEach es XR))) cs):SE g hd sc XO (eval (.List es pos)) (dy cs):=by
 intro n bk ho A XR fr s ρ H Y0 V Y3 aA Q E hq;refine List_ (hes.bind ho V aA hq.px fun p H' v h' aU aV e st V' r=>?_)
 split at e
 ·rename_i hz;cases e;have hl:=r.length;refine pS ?_ (by show v.toArray.size<=sizeLine;rw[eE,hl];exact hz);have k:=bL.push h' { cls:=.type "list",dict:=none,data:=.seq v.toArray };exact(hq.after st).made V'.live k (ao _) ⟨hz,v,⟨0,fR _ rfl⟩,aX.stays (Step.bq V'.live.inv (.push k (eV h'))) r⟩ aU
 ·cases e
end
section
variable{g:eC}{hd:Bool}{sc:Scope}{XO:List Str}{n:Nat}{A:Around}{XR:Env}{fr:List Env}{s:Shared}{ρ:List Addr}{H:MH}{Y0:Loc}{bk:g8}
theorem At.sG(V:At g hd sc XO n A XR fr s ρ H Y0)(G:g.Ok):g.K.In s.heap:=G.sG.keeps V.live.inv.stays
theorem mU.vy{Q E:Value->Shared->Prop}(x:mU g Rep (ownOf XR) XR fr XO Y0 s ρ Y3 Q E)(L:bY g XR fr XO s.heap ρ H Y0):AW g s ρ Y3 Q E:=by
 cases Y3 with
 |val p H'=>exact fun v h' aU aV st I r=>x v h' aU aV st.up (L.to st I) r
 |exc k H'=>exact fun e h' aU aV st I r=>x e h' aU aV st.up (L.to st I) r
noncomputable def oz:List (Bool×Sem Value)->Prop
 |[]=>True
 |(b,_)::_=>b=false
theorem AY{E:Value->Shared->Prop}{Q:Args->Shared->Prop}
  (h:wpAny M A (spliced trees) (fun vs s'=>Q ⟨vs,[]⟩ s') E s) (hst:oz trees):wpAny M A (evalArgs f true trees []) Q E s:=by
 cases trees with
 |nil=>
  unfold evalArgs;show wpAny M A (spliced [] >>= _) Q E s;refine aQ (wpAny_mono h (fun vs s' h'=>aQ (bH ?_)) fun _ _ x=>x);refine wpAny_holding ?_;exact aQ (bH (aQ (bH (bH h'))))
 |cons y r=>
  obtain⟨b,x⟩:=y;cases b with
  |false=>exact evalArgs_plain h
  |true=>cases hst
theorem rH(G:g.Ok){f:Value}{first:List Value}{XS:List Expr}{pos:Pos}{cs:CL}(ha:SL g hd sc XO (fun XR=>spliced (backTo pos (starEach XS XR))) cs)(ho:me g n bk)
  (hst:oz (backTo pos (starEach XS XR))) (hpl:(backTo pos (starEach XS XR)).any (·.1)=false) {γ:Type}{k:List MV->MH->Option (Res γ)}{Y3:Res γ}
  (V:At g hd sc XO n A XR fr s ρ H Y0) (aA:bindR (cs bk Y0 H) k=some Y3) {Q E:Value->Shared->Prop}(hx:PX g (ownOf XR) XR fr XO Y0 s ρ Y3 E)
  (hv:∀p H' v h' aU aV,k p H'=some Y3->Step (ownOf XR) s.heap ρ h' aV->At g hd sc XO n A XR fr (ez s h' aU) aV H' Y0->aX h' aV p v->
   keepIn g.K f=true/\wpAny g.M A (call f (first++v)) Q E (ez s h' aU)):
  wpAny g.M A (callWith pos f first (backTo pos (starEach XS XR)) []) Q E s:=by
 refine callWith_of (P:=fun h=>g.K.In h/\keepIn g.K f=true) (by rw[hpl];rfl) (fun h x=>keeps_K x.2 h x.1) (AY ?_ hst);refine ha.bind ho V aA hx fun p H' v h' aU aV e st V' r=>?_
 obtain⟨h1,h2⟩:=hv p H' v h' aU aV e st V' r;exact⟨⟨V'.sG G,h1⟩,h2⟩
theorem Iz{α:Type}{p:MV}{f:Addr->Option α}{r:α}(e:(match p with|.fn (.ref a)=>f a|_=>none)=some r):∃a,p=.fn (.ref a)/\f a=some r:=by
 cases p with
 |fn w=>cases w with
  |ref a=>exact⟨a,rfl,e⟩
  |_=>cases e
 |_=>cases e
theorem IA(G:g.Ok){f:Expr}{XS:List Expr}{pos:Pos}{cf:CE}{cs:CL}(hf:SE g false sc XO (eval f) cf)(ha:SL g false sc XO (fun XR=>spliced (backTo pos (starEach XS XR))) cs)
  (he:∀XR,eval (.Call f XS [] pos) XR=(do callWith pos (<-eval f XR) [] (backTo pos (starEach XS XR)) []):=by trivial)
  (hst:∀XR,oz (backTo pos (starEach XS XR)):=by trivial)
  (hpl:∀XR,(backTo pos (starEach XS XR)).any (·.1)=false:=by trivial):SE g false sc XO (eval (.Call f XS [] pos)) (ak cf cs):=by
 intro n bk ho A XR fr s ρ H Y0 V Y3 aA Q E hq;rw[he XR];refine aQ (hf.bind ho V aA hq.px fun p H' v h' aU aV e st V' r=>?_);refine rH G ha ho (hst _) (hpl _) V' e (hq.after st).px fun p2 H2 v2 h2 i9 pK e2 eu V2 r2=>?_
 obtain⟨a,rfl,e2⟩:=Iz e2
 ·have:v=.ref a:=r;subst this;exact⟨ho.keep _ _ _ _ e2,wpAny_call (ho.call _ _ _ _ e2 _ _ V2.act.call _ _ _ V2.live.inv V2.live.mi V2.live.size r2 _ _ (((hq.after st).after eu).vy V2.live))⟩
theorem xu{XZ:Program}{w:World}{h:Heap}{d:Addr}{bD:List (Str×Value)}(x:h.DictOf (strKind XZ w) d bD):∃es ep,h.get? d=some (dictOf es ep)/\∀XQ,getL XQ es=some (valueAt bD XQ):=by
 obtain⟨o,es,ep,ho,hx,hd,hk,hp,hn⟩:=x;obtain⟨oc,od,UD,xw⟩:=o;obtain⟨h1,h2,h3⟩:=hx;dsimp only at h1 h2 h3 hd;subst h1 h2 h3 hd;refine⟨es.toList,ep,by rw[ho],fun XQ=>?_⟩;have hf:=hp.find XQ;unfold PySem.W.getL;have e1:(es.toList.find? fun e=>e.key.isStr XQ)=es.toList.find? fun e=>(strKind XZ w).is XQ e.key:=by
  congr 1;funext e;exact isStr_of XQ e.key
 rw[e1];cases hq:es.toList.find? (fun e=>(strKind XZ w).is XQ e.key)with
 |some e=>rw[hq]at hf;dsimp only;rw[<-hf];rfl
 |none=>
  rw[hq]at hf;dsimp only;have:es.toList.any (·.refKey)=false:=by
   rw[List.any_eq_false];intro e he;obtain⟨k,h1,_⟩:=hk e (Array.mem_toList_iff.mp he);obtain⟨t,ht⟩:=Value.isStrOf_shape h1;unfold DictEntry.refKey;rw[ht];simp
  rw[this];rw[<-hf];rfl
theorem jv.at:∀{es:List (Str×MV)}{bD:List (Str×Value)},jv h ρ es bD->∀x,match cG x es with
  |some p=>∃v,valueAt bD x=some v/\Rep h ρ p v
  |none=>valueAt bD x=none:=by
 intro es
 induction es with
 |nil=>intro bD e x;cases (show _=[] from e);rfl
 |cons y es ih=>
  rintro bD ⟨⟨k',v⟩,r,e,hk,hv,hr⟩ x;subst e;obtain⟨k,p⟩:=y;dsimp only at hk hv;subst hk;replace ih:=ih hr x;unfold valueAt;rw[Ak];by_cases q:x=k'
  ·subst q;rw[if_pos rfl];exact⟨v,by simp,hv⟩
  ·rw[if_neg q];have:((k',v)::r).find? (fun kv=>decide (kv.1=x))=r.find? fun kv=>decide (kv.1=x):=by
    rw[List.find?_cons_of_neg]
    simpa using Ne.symm q
   rw[this];exact ih
inductive AZ(h:Heap)(ρ:List Addr)(C:Addr)(k:Nat)(es:List (Str×MV)):Value->Prop
 |mk (x d:Addr) (o:Obj) (ds:List DictEntry) (ep:Nat) (h1:ρ[k]?=some d) (h2:o.dict=some d) (h3:o.data=.plain) (h4:InstAt h x o C (some (dictOf ds ep))) (h5:h.get? d=some (dictOf ds ep)) (h6:∀XQ,match cG XQ es with
   |some p=>∃u,getL XQ ds=some (some u)/\Rep h ρ p u
   |none=>getL XQ ds=some none):AZ h ρ C k es (.ref x)
theorem vz(V:At g hd sc XO n A XR fr s ρ H Y0){C:Addr}{k:Nat}{v:Value}(r:Rep s.heap ρ (.inst C k) v){es:List (Str×MV)}(hk:H[k]?=some (.dict es)):AZ s.heap ρ C k es v:=by
 obtain⟨x,d,o,rfl,hd,ho,hc,hdi,xx⟩:=r;obtain⟨d',h1,bD,h2,h3⟩:=V.live.inv.objs k _ hk;rw[hd]at h1;cases h1;obtain⟨ds,ep,h4,h5⟩:=xu h2;refine .mk x d o ds ep hd hdi xx ⟨ho,hc,?_,?_⟩ h4 fun XQ=>?_
 ·obtain⟨c1,c2,c3,c4⟩:=o;dsimp only at xx;subst xx;rfl
 ·rw[hdi];exact h4
 ·have:=h3.at XQ;rw[h5];cases h:cG XQ es with
  |some p=>rw[h]at this;obtain⟨u,h6,h7⟩:=this;exact⟨u,by rw[h6],h7⟩
  |none=>rw[h]at this;rw[this]
noncomputable def pw(K:Frag)(C:Addr):Bool:=plainGet K C Str.empty&&hasDictIn K C&&(clsIn K C).isSome
def gw(K:Frag)(C:Addr)(XQ:Str):Bool:=pw K C&&findIn K (.ref C) XQ==some none
def j8(K:Frag)(C a:Addr)(XQ:Str):Bool:=pw K C&&findIn K (.ref C) XQ==some (some (.ref a))&&isFn K (.ref a)
theorem uq(r:Rep h ρ p v)(hn:noFn p=true):handedIn v=true:=by
 cases p with
 |none=>cases (show v=.none from r);rfl
 |bool b=>cases (show v=.bool b from r);rfl
 |int i=>obtain⟨t,rfl⟩:=r;rfl
 |str x=>obtain⟨_,t,rfl⟩:=r;rfl
 |tup xs=>obtain⟨_,a,vs,rfl,_⟩:=r;rfl
 |obj k=>obtain⟨a,rfl,_⟩:=r;rfl
 |inst C k=>obtain⟨x,d,o,rfl,_⟩:=r;rfl
 |fn u=>cases hn
theorem Fy{Z:MV->Res MV->Prop}(z:∀k es u,H[k]?=some (.dict es)->cG XQ es=some u->noFn u=true->Z (.inst C k) (.val u H)):∀p Y3,bA C XQ p H=some Y3->Z p Y3:=by
 intro p Y3 e;cases p with
 |inst C' k=>
  obtain rfl:C'=C:=Decidable.byContradiction fun hC=>by cases (if_neg hC).symm.trans e
  refine gN ((if_pos rfl).symm.trans e) fun es hes e=>nz e fun u hu e=>bI e fun hn e=>?_
  cases e;exact z k es u hes hu hn
 |_=>cases e
theorem B2(G:g.Ok)(hf:gw g.K C XQ=true):pJ g hd sc XO (fun v=>getAttr v XQ expr) (bA C XQ):=by
 intro n A XR fr s ρ H Y0 V;refine Fy fun k es u hes hu hn v r Q E hq=>?_
 obtain⟨x,d,o,ds,ep,h1,h2,h3,I,h4,h5⟩:=vz V r hes;have h6:=h5 XQ;rw[hu]at h6;obtain⟨w,h7,h8⟩:=h6;unfold gw pw at hf;simp only[bW,eG]at hf;obtain⟨⟨⟨a1,a2⟩,a3⟩,a4⟩:=hf;exact get_value (V.sG G) I (plainGet_of a1).1 (findObj_own a2 a4 rfl (by rw[lookIn_dict];exact h7)) (uq h8 hn) (hq.ret V.live h8 _)
theorem IB(G:g.Ok)(ha:SE g hd sc XO (eval a) ca)(hf:gw g.K C XQ=true)
  (he:∀XR,eval (.Attribute a XQ pos) XR=(do
   let o<-eval a XR
   standAt pos.atName
   let r<-holding [o] (getAttr o XQ true)
   letTemporaryGo a o r
   pure r):=by trivial):SE g hd sc XO (eval (.Attribute a XQ pos)) (c1 (bA C XQ) ca):=
 AX ha (B2 G hf) fun _ _ _ _ _ h=>Attribute_any_ h (he _)
theorem IC(G:g.Ok){C a:Addr}{XQ:Str}{o:Expr}{XS:List Expr}{apos pos:Pos}{co:CE}{cs:CL}(hf:j8 g.K C a XQ=true)(hob:SE g false sc XO (eval o) co)
  (ha:SL g false sc XO (fun XR=>spliced (backTo pos (starEach XS XR))) cs)
  (he:∀XR,∃pl,eval (.Call (.Attribute o XQ apos) XS [] pos) XR=(do
   let ov<-eval o XR
   standAt apos.atName
   let (f,first)<-holding [ov] (getMethod ov XQ pl)
   callWith pos f first (backTo pos (starEach XS XR)) (backToKw pos (keywordEach [] XR))):=by trivial)
  (hst:∀XR,oz (backTo pos (starEach XS XR)):=by trivial)
  (hpl:∀XR,(backTo pos (starEach XS XR)).any (·.1)=false:=by trivial):SE g false sc XO (eval (.Call (.Attribute o XQ apos) XS [] pos)) (cL C a XQ co cs):=by
 intro n bk ho A XR fr s ρ H Y0 V Y3 aA Q E hq;obtain⟨pl,he⟩:=he XR;refine methodCall_KW (pl:=pl) (hob.bind ho V aA hq.px fun p H' v h' aU aV e st V' r=>?_) he;cases p with
 |inst C' k=>
  refine bI e fun hC e1=>?_
  ·subst hC;refine gN e1 fun es hes e1=>bI e1 fun hn e1=>?_
   ··obtain⟨x,d,ob,ds,ep,h1,h2,h3,I,h4,h5⟩:=vz V' r hes;have h6:=h5 XQ;rw[Option.isNone_iff_eq_none.mp hn]at h6;dsimp only at h6;unfold j8 pw at hf;simp only[bW,eG]at hf;obtain⟨⟨⟨⟨a1,a2⟩,a3⟩,a4⟩,a5⟩:=hf;refine method_fn (V'.sG G) I (plainGet_of a1).1 (plainGet_of a1).2 a4 (eG.mp a5) (by show(lookIn XQ (dictOf ds ep)).map _=_;rw[lookIn_dict,h6];rfl) ?_;refine rH G ha ho (hst _) (hpl _) V' e1 (hq.after st).px fun p2 H2 v2 h2' i9 pK e2 eu V2 r2=>?_
     exact⟨ho.keep _ _ _ _ e2,wpAny_call (ho.call _ _ _ _ e2 _ _ V2.act.call _ _ _ V2.live.inv V2.live.mi V2.live.size ⟨_,_,rfl,Rep.stays (V'.live.bq eu) r,r2⟩ _ _ (((hq.after st).after eu).vy V2.live))⟩
 |_=>cases e
end
section
variable{g:eC}{hd:Bool}{sc:Scope}{XO:List Str}{n:Nat}{A:Around}{XR:Env}{fr:List Env}{s:Shared}{ρ:List Addr}{H:MH}{Y0:Loc}{bk:g8}
theorem sH.under(x:Act A fr n false):sH (A.under (.builtin "type.__call__" ⟨.ref C::rest,[]⟩)) fr n:=by
 have hw:(Code.builtin "type.__call__" ⟨.ref C::rest,[]⟩).weight=1:=by rfl
 have hu:(Code.builtin "type.__call__" ⟨.ref C::rest,[]⟩).cUnits=1:=by rfl
 refine⟨?_,x.handled rfl,?_,?_⟩
 ·exact x.frames
 ·have:=x.depth;show A.depth+_+_+_<=_;rw[hw];exact Ri this
 ·have:=x.units;show A.units+_+_+_<=_;rw[hu];exact Rj this rfl rfl
noncomputable def kL(K:Frag)(C i:Addr):Bool:=makesIn K C&&findIn K (.ref C) "__init__"==some (some (.ref i))&&typeIn K (.ref i)==some (.type "function")&&keepIn K (.ref C)
theorem Rep.data(k:bL h h')(r:Rep h ρ p v):Rep h' ρ p v:=by
 have:=k.bq (ρ:=ρ) (r:=[]);rw[bp]at this;exact Rep.stays this r
theorem ID(G:g.Ok)(hf:SE g false sc XO (eval f) (af (.fn (.ref C))))(hm:kL g.K C i=true)
  (he:∀XR,eval (.Call f [] [] pos) XR=(do callWith pos (<-eval f XR) [] (backTo pos (starEach [] XR)) []):=by trivial):SE g false sc XO (eval (.Call f [] [] pos)) (oO C i):=by
 intro n bk ho A XR fr s ρ H Y0 V Y3 aA Q E hq;unfold kL at hm;simp only[bW,eG]at hm;obtain⟨⟨⟨m1,m2⟩,m3⟩,m4⟩:=hm;rw[he XR];refine aQ (hf n bk ho V (.val (.fn (.ref C)) H) rfl _ _ ?_);intro v h₁ gx Kw st L r;have:v=.ref C:=r;subst this;have IE:=V.to (aU:=gx) L;refine rH G (cs:=ai) (k:=fun xs H=>match xs with| []=>mkBody C i bk H|_=>none) Fx ho True.intro rfl IE aA (hq.after st).px fun p2 H2 v2 h2 i9 pK e2 eu V2 r2=>⟨m4,?_⟩
 have hq2:=(hq.after (aU:=gx) st).after (aU:=i9) eu;cases p2 with
 |cons _ _=>cases e2
 |nil=>
  obtain rfl:v2=[]:=r2;refine wpAny_call (make_core (makes_of (V2.sG G) m1) (looks_findIn (V2.sG G) m2) (fun self=>bind_fn (V2.sG G) self m3) (.inl rfl) ?_);have k:bL h2 ((h2.push emptyDict).push (instObj C h2.objs.size)):=(bL.push h2 _).trans (bL.push _ _);have jx:Step [] h2 pK ((h2.push emptyDict).push (instObj C h2.objs.size)) (pK++[h2.objs.size]):=.push k (eV h2);have I3:=V2.live.inv.push (o:=.dict []) k V2.live.size (eV h2) ⟨[],(Heap.DictOf.new h2).push _,rfl⟩;have hx:((h2.push emptyDict).push (instObj C h2.objs.size)).get? (h2.objs.size+1)=some (instObj C h2.objs.size):=by
   have:=fR (h2.push emptyDict) (o:=instObj C h2.objs.size) rfl
   rwa [Heap.size_push]at this
  have r3:Rep ((h2.push emptyDict).push (instObj C h2.objs.size)) (pK++[h2.objs.size]) (.inst C H2.length) (.ref (h2.objs.size+1)):=
   ⟨_,h2.objs.size,_,rfl,by rw[<-V2.live.inv.len,ib (ao _),k8];rfl,hx,rfl,rfl,rfl⟩
  unfold mkBody at e2;cases e3:bk i [.inst C H2.length] (H2++[.dict []])with
  |none=>rw[e3]at e2;cases e2
  |some o3=>
   rw[e3]at e2;have hc:=ho.call i _ _ o3 e3 _ fr (sH.under (C:=C) (rest:=[]++[]) V2.act) ⟨_,s.gens,s.drawn,i9,s.os⟩ (pK++[h2.objs.size]) [.ref (h2.objs.size+1)] I3 (V2.live.mi.step jx)
    (aN V2.live.size (by show h2.objs.size<=((h2.objs.push emptyDict).push (instObj C h2.objs.size)).size;simp only[Array.size_push];exact Rr)) ⟨_,_,rfl,r3,rfl⟩ (fun v s'=>v=.none/\Q (.ref (h2.objs.size+1)) s') E ?_
   ·refine codeAny_mono hc fun r s' z=>?_
    rcases r with e|(v|_|_|_)<;>exact z
   ·cases o3 with
    |val p H3=>
     dsimp only[bindR]at e2;cases p<;>first|(cases e2;done)|skip
     ·cases e2;intro v h' aU aV ur I4 r4;refine⟨r4,?_⟩;have B4:=jx.trans ur;exact hq2 _ h' aU aV B4.up (V2.live.to B4 I4) (Rep.stays (ur.bq I3) r3)
    |exc k' H3=>
     cases e2;intro e' h' aU aV ur I4 f4;have B4:=jx.trans ur;exact hq2 _ h' aU aV B4.up (V2.live.to B4 I4) (f4.old jx.alive)
noncomputable def jy(K:Frag)(C a:Addr)(XQ:Str):Bool:=readsIn K C (.type "type")&&(match findCls K (.ref C) (.type "type") XQ with|some (.val (.ref b))=>b==a|_=>false)&&
 specialIn K (.ref C) "__getattribute__"==some (some (.builtin "type.__getattribute__"))
theorem PI{o:Option CFound}{a:Addr}(h:(match o with|some (.val (.ref b))=>b==a|_=>false)=true):o=some (.val (.ref a)):=by
 rcases o with _|v|_
 ·exact absurd h jY
 ·cases v with
  |ref b=>rw[eq_of_beq h]
  |_=>exact absurd h jY
 ·exact absurd h jY
theorem Fz(G:g.Ok){C a:Addr}{XQ:Str}{o:Expr}{XS:List Expr}{apos pos:Pos}{cs:CL}(hf:jy g.K C a XQ=true)(hob:SE g false sc XO (eval o) (af (.fn (.ref C))))
  (ha:SL g false sc XO (fun XR=>spliced (backTo pos (starEach XS XR))) cs)
  (he:∀XR,∃pl,eval (.Call (.Attribute o XQ apos) XS [] pos) XR=(do
   let ov<-eval o XR
   standAt apos.atName
   let (f,first)<-holding [ov] (getMethod ov XQ pl)
   callWith pos f first (backTo pos (starEach XS XR)) (backToKw pos (keywordEach [] XR))):=by trivial)
  (hst:∀XR,oz (backTo pos (starEach XS XR)):=by trivial)
  (hpl:∀XR,(backTo pos (starEach XS XR)).any (·.1)=false:=by trivial):SE g false sc XO (eval (.Call (.Attribute o XQ apos) XS [] pos)) (uV C XQ a cs):=by
 intro n bk ho A XR fr s ρ H Y0 V Y3 aA Q E hq;obtain⟨pl,he⟩:=he XR;unfold jy at hf;rw[bW,bW]at hf;obtain⟨⟨f1,f2⟩,f3⟩:=hf;have f4:findCls g.K (.ref C) (.type "type") XQ=some (.val (.ref a)):=PI f2;refine methodCall_KW (pl:=pl) (hob n bk ho V (.val (.fn (.ref C)) H) rfl _ _ ?_) he;intro v h₁ gx Kw st L r;have:v=.ref C:=r;subst this;have IE:=V.to (aU:=gx) L;refine method_cls (IE.sG G) (eG.mp f3) (cls_value (IE.sG G) f1 f4 rfl ?_);have VA:At g false sc XO n A XR fr (ez s h₁ (gx+1)) Kw H Y0:=V.to L;refine rH G ha ho (hst _) (hpl _) VA aA (hq.after (aU:=gx+1) st).px fun p2 H2 v2 h2' i9 pK e2 eu V2 r2=>?_
 exact⟨ho.keep _ _ _ _ e2,wpAny_call (ho.call _ _ _ _ e2 _ _ V2.act.call _ _ _ V2.live.inv V2.live.mi V2.live.size r2 _ _ (((hq.after (aU:=gx+1) st).after (aU:=i9) eu).vy V2.live))⟩
theorem zF:∀{es:List DictEntry}{bD:List (Str×Value)},Pairs (strKind XZ w) es bD->(bD.map (·.1)).Nodup->
  Pairs (strKind XZ w) (putL XQ (PyData.keyHash w.params XQ) (.str XQ t) v es) (stored bD XQ v):=by
 intro es bD hp
 induction hp with
 |nil=>
  intro _;unfold putL stored;exact .cons (kv:=(XQ,v)) (by simp[PySem.strKind,Value.isStrOf]) rfl .nil
 | @cons e kv es bD h1 h2 h3 ih=>
  intro hn;replace ih:=ih (by simp only[cT,List.nodup_cons]at hn;exact hn.2);unfold putL;by_cases q:kv.1=XQ
  ·have:e.key.isStr XQ=true:=by rw[isStr_of];rw[<-q];exact h1
   rw[if_pos this];have hn':∀x∈bD,x.1≠XQ:=fun x hx z=>by
    simp only[cT,List.nodup_cons]at hn;exact hn.1 (by rw[q,<-z];exact List.mem_map_of_mem hx)
   have e2:stored (kv::bD) XQ v=(kv.1,v)::bD:=by
    unfold stored;rw[if_pos (by simp[q])];rw[cT,if_pos q]
    congr 1
    exact(pM fun x hx=>by rw[if_neg (hn' x hx)];rfl).trans (List.map_id _)
   rw[e2];exact .cons h1 rfl h3
  ·have:e.key.isStr XQ=false:=by
    cases z:e.key.isStr XQ with
    |false=>rfl
    |true=>rw[isStr_of]at z;exact absurd ((PySem.strKind XZ w).inj _ _ _ h1 z) q
   rw[this];have e2:stored (kv::bD) XQ v=kv::stored bD XQ v:=by
    unfold stored;simp only[List.any_cons,dh,q,decide_false,Bool.false_or,cT,if_false,nS]
    split<;>rfl
   rw[e2];exact .cons h1 h2 ih
set_option tactic.hygienic true in
theorem qR{Q:Unit->Shared->Prop}{E:Value->Shared->Prop}(hd:s.heap.DictOf (strKind XZ w) d bD)
  (hQ:∀h',h'.DictOf (strKind XZ w) d (stored bD XQ v)->Heap.SameBut d s.heap h'->Q () (ez s h' (s.toks+1))):wpAny (model XZ w) A (nsSet d XQ v) Q E s:=by
 obtain⟨o,es,ep,ho,hx,xx,hk,hp,hn⟩:=hd;obtain⟨oc,od,UD,xw⟩:=o;obtain⟨h1,h2,h3⟩:=hx;dsimp only at h1 h2 h3 xx;subst h1 h2 h3 xx;unfold nsSet;refine aQ (aQ (wpAny_askSetting (bH (aQ (wpAny_mkText (aQ (wpAny_loadPart ho ?_)))))));dsimp only;have c:aRefKeyMayBeTheName XQ es=false:=by
  rw[aRefKeyMayBeTheName_at];have:es.any (·.refKey)=false:=by
   rw[Array.any_eq_false'];intro e he;obtain⟨k,e1,_⟩:=hk e he;obtain⟨t,ht⟩:=Value.isStrOf_shape e1;unfold DictEntry.refKey;rw[ht];simp
  rw[this,Bool.and_false]
 rw[if_neg (by rw[c];exact jY)];have e2:Obj.putName XQ (PyData.keyHash w.params XQ) (.str XQ s.toks) v ⟨.type "dict",none,.dict es ep,#[]⟩=dictOf (putL XQ (PyData.keyHash w.params XQ) (.str XQ s.toks) v es.toList) (putN XQ es.toList ep):=
  putName_dict XQ (PyData.keyHash w.params XQ) (.str XQ s.toks) v es.toList ep
 have hu:=kS (Obj.putName XQ (PyData.keyHash w.params XQ) (.str XQ s.toks) v) ho (by rw[e2];rfl);rw[e2]at hu;refine wpAny_updatePart ho (hQ _ ⟨_,_,_,hu,⟨rfl,rfl,rfl⟩,rfl,?_,?_,?_⟩ (pO ..))
 ·intro e he;have he':e∈putL XQ (PyData.keyHash w.params XQ) (.str XQ s.toks) v es.toList:=by simpa using he
  have:∀(l:List DictEntry),(∀e∈l,∃k,(PySem.strKind XZ w).is k e.key=true/\e.hash=(PySem.strKind XZ w).hash k)->∀e∈putL XQ (PyData.keyHash w.params XQ) (.str XQ s.toks) v l,
    ∃k,(PySem.strKind XZ w).is k e.key=true/\e.hash=(PySem.strKind XZ w).hash k:=by
   intro l
   induction l with
   |nil=>
    intro _ e he;rcases c8.mp he with rfl
    exact⟨XQ,by simp[PySem.strKind,Value.isStrOf],rfl⟩
   |cons a r ih=>
    intro hl e he;unfold putL at he
    split at he
    ·rcases bS.mp he with rfl|he
     ·exact hl a (.head _)
     ·exact hl e (.tail _ he)
    ·rcases bS.mp he with rfl|he
     ·exact hl _ (.head _)
     ·exact ih (fun e he=>hl e (.tail _ he)) e he
  exact this es.toList (fun e he=>hk e (Array.mem_toList_iff.mp he)) e he'
 ·exact zF hp hn
 ·have:∀(l:List (Str×Value)),(l.map (·.1)).Nodup->((stored l XQ v).map (·.1)).Nodup:=by
   intro l hl;unfold stored
   split
   ·rw[hH];have:(l.map ((fun kv=>kv.1) ∘ fun kv=>if kv.1=XQ then(kv.1,v) else kv))=l.map (·.1):=pM fun x _=>by
     dsimp only[Function.comp];split<;>rfl
    rw[this];exact hl
   ·rename_i hq;rw[fk];refine List.nodup_append.mpr ⟨hl,by simp,fun a ha b hb=>?_⟩;simp only[cT,kU,c8]at hb;subst hb;intro z;subst z;obtain⟨x,hx,rfl⟩:=eb.mp ha;exact hq (pU.mpr ⟨x,hx,by simp⟩)
  exact this bD hn
theorem jv.put(ru:Rep h ρ q u):∀{es:List (Str×MV)}{bD:List (Str×Value)},jv h ρ es bD->(bD.map (·.1)).Nodup->jv h ρ (Mine.Internal.put XQ q es) (stored bD XQ u):=by
 intro es
 induction es with
 |nil=>intro bD e _;cases (show _=[] from e);exact⟨(XQ,u),[],rfl,rfl,ru,rfl⟩
 |cons x es ih=>
  rintro bD ⟨⟨k',v⟩,r,e,hk,hv,hr⟩ hn;subst e;obtain⟨k,p⟩:=x;dsimp only at hk hv;subst hk;replace ih:=ih hr (by simp only[cT,List.nodup_cons]at hn;exact hn.2);rw[DR];by_cases z:XQ=k'
  ·subst z;rw[if_pos rfl];have hn':∀x∈r,x.1≠XQ:=fun x hx z=>by
    simp only[cT,List.nodup_cons]at hn;exact hn.1 (by rw[<-z];exact List.mem_map_of_mem hx)
   have e2:stored ((XQ,v)::r) XQ u=(XQ,u)::r:=by
    unfold stored;rw[if_pos (by simp),cT,if_pos rfl]
    congr 1
    exact(pM fun x hx=>by rw[if_neg (hn' x hx)];rfl).trans (List.map_id _)
   rw[e2];exact⟨(XQ,u),r,rfl,rfl,ru,hr⟩
  ·rw[if_neg z];have e2:stored ((k',v)::r) XQ u=(k',v)::stored r XQ u:=by
    unfold stored;have z':¬ k'=XQ:=Ne.symm z;simp only[List.any_cons,z',decide_false,Bool.false_or,cT,if_false,nS]
    split<;>rfl
   rw[e2];exact⟨(k',v),_,rfl,rfl,hv,ih⟩
noncomputable def eK(K:Frag)(C:Addr)(XQ:Str):Bool:=findIn K (.ref C) "__setattr__"==some (some (.builtin "object.__setattr__"))&&plainOver K C&&takerIn K C XQ==some none&&hasDictIn K C
theorem jv.length:∀{es:List (Str×MV)}{bD:List (Str×Value)},jv h ρ es bD->bD.length=es.length:=by
 intro es
 induction es with
 |nil=>intro _ e;cases (show _=[] from e);rfl
 |cons y es ih=>intro _ x;obtain⟨_,_,e,_,_,r⟩:=x;rw[e,bo,bo,ih r]
theorem bY.set(V:bY g XR fr XO h ρ H Y0)(h0:H[k]?=some VB)(hp:VB.plain=true)(hk:ρ[k]?=some a)(he:Heap.ExtBut a h h')(hl:(h'.get? a).isSome=true)(hr:fc h ρ h' ρ->oy g.prog g.w h' ρ a o):
  Step [] h ρ h' ρ/\bY g XR fr XO h' ρ (H.set k o) Y0:=by
 have st:Step [] h ρ h' ρ:=.set (d8 hk) he hl (by
  obtain⟨b,h1,h2⟩:=V.inv.objs k _ h0;rw[hk]at h1;cases h1;exact h2.Pu hp)
 exact⟨st,V.to st (V.inv.set hk he hr).2⟩
theorem zG(G:g.Ok)(V:At g hd sc XO n A XR fr s ρ H Y0)(hf:eK g.K C XQ=true)(r:Rep s.heap ρ (.inst C k) v)(ru:Rep s.heap ρ q u)
  (hes:H[k]?=some (.dict es)) (hz:es.length<=1000) {Q:Unit->Shared->Prop}{E:Value->Shared->Prop}
  (hq:∀h' aU,Step [] s.heap ρ h' ρ->bY g XR fr XO h' ρ (H.set k (.dict (Mine.Internal.put XQ q es))) Y0->Q () (ez s h' aU)):wpAny g.M A (setAttr v XQ u) Q E s:=by
 unfold eK at hf;simp only[bW,eG]at hf;obtain⟨⟨⟨f1,f2⟩,f3⟩,f4⟩:=hf;have r0:=r;obtain⟨x,d,o,ds,ep,h1,h2,h3,I,h4,h5⟩:=vz V r hes;obtain⟨d',h6,bD,h7,h8⟩:=V.live.inv.objs k _ hes;rw[h1]at h6;cases h6;have X:=V.sG G;refine set_plain X I f1 (osa_open (s:={ s with toks:=s.toks+1 }) X I f2 f3 fun b=>?_);obtain⟨cd,hc,hd'⟩:=any_some f4;obtain⟨hx,hcl,-,-⟩:=I;obtain⟨oc,Xw,UD,xw⟩:=o;dsimp only at hcl h2;subst hcl h2;refine aQ (bH (aQ (aQ (wpAny_loadPart hx (aQ (looks_clsIn X hc _ _ _ _ (fun _ _ e=>e) ?_))))));rw[hd'];refine bH (a:=some d) (aQ (bH (aQ (qR (s:={ s with toks:=s.toks+1 }) h7 fun h' hm hs=>?_))));have hm':=hm;obtain⟨o',tv,VC,e1,e2,e3,e4,e5,e6⟩:=hm';refine aQ (wpAny_lookBehind e1 (by
  rw[e3];refine pastItsLine_dict ?_;have:=e5.length;rw[pN]at this;rw[this];have h9:=h8.length;have:(stored bD XQ u).length<=bD.length+1:=by
   unfold stored
   split
   ·rw[bR];exact lU
   ·rw[bJ];exact ao _
  rw[d9];exact RB hz h9 this rfl) ?_)
 refine bH ?_;obtain⟨oo,ee,Xx,g1,g2,g3,g4,g5,g6⟩:=h7;obtain⟨st,L⟩:=V.live.set (o:=.dict (Mine.Internal.put XQ q es)) hes rfl h1 hs.extBut (by rw[e1];rfl) fun k2=>⟨stored bD XQ u,hm,jv.put (Rep.stays k2 ru) (jv.stays k2 h8) g6⟩
 exact hq h' _ st L
end
section
variable{g:eC}{hd:Bool}{sc:Scope}{XO:List Str}{n:Nat}{A:Around}{XR:Env}{fr:List Env}{s:Shared}{ρ:List Addr}{H:MH}{Y0:Loc}{bk:g8}
theorem oE.app(x:oE a)(y:oE b)(h:a.length+b.length<=sizeLine):oE (a++b):=by
 refine⟨by rw[strLen_append];exact h,?_⟩;show(a.cps++b.cps).all _=true;rw[Array.all_append,x.2,y.2];rfl
theorem sJ{f:Int->Int->Int}{Z:MV->MV->Res MV->Prop}(z:∀a b,Z (.int a) (.int b) (.val (.int (f a b)) H)):∀p q Y3,Ai f p q H=some Y3->Z p q Y3:=by
 intro p q Y3 e;cases p with
 |int a=>cases q with
  |int b=>cases e;exact z a b
  |_=>cases e
 |_=>cases e
theorem nA{α:Type}{f:Int->Int->Option α}{Z:MV->MV->α->Prop}(z:∀a b x,f a b=some x->Z (.int a) (.int b) x):∀p q Y3,(match p,q with
  |.int a,.int b=>f a b
  |_,_=>none)=some Y3->Z p q Y3:=by
 intro p q Y3 e;cases p with
 |int a=>cases q with
  |int b=>exact z a b Y3 e
  |_=>cases e
 |_=>cases e
theorem IF{f:Int->Int->Int}(hf:∀(A:Around) (a b:Int) (t u:Tok) (s:Shared) (Q E:Value->Shared->Prop),Q (.int (f a b) s.toks) { s with toks:=s.toks+1 }->wpAny g.M A (binaryOp op (.int a t) (.int b u)) Q E s):
  kP g hd sc XO (binaryOp op) (Ai f):=fun V=>sJ fun a b=>cn fun t=>cn fun u Q E hq=>hf _ _ _ _ _ _ _ _ (hq.ret V.live ⟨_,rfl⟩ _)
theorem PJ:kP g hd sc XO (binaryOp .Sub) dT:=IF fun _ _ _ _ _ _ _ _ h=>PyProof.Rows.sub_int h
theorem PK:kP g hd sc XO (binaryOp .Mod) gW:=fun V=>nA fun a b x e=>by
 by_cases hb:b=0
 ·rw[if_pos hb]at e;cases e
 ·rw[if_neg hb]at e;cases e;exact cn fun t=>cn fun u Q E hq=>PyProof.Rows.mod_int' hb (hq.ret V.live ⟨_,rfl⟩ _)
theorem IG{Z:MV->Res MV->Prop}(z:∀a,Z (.int a) (.val (.int (-a)) H)):∀p Y3,qX p H=some Y3->Z p Y3:=by
 intro p Y3 e;cases p with
 |int a=>cases e;exact z a
 |_=>cases e
theorem PM:pJ g hd sc XO (unaryOp .USub) qX:=fun V=>IG fun a=>cn fun t Q E hq=>PyProof.Rows.neg_int (hq.ret V.live ⟨_,rfl⟩ _)
set_option tactic.hygienic true in
theorem intBits_le(hx:x.natAbs<2^6000):Builtin.Int.intBits x<=6000:=by
 unfold Builtin.Int.intBits
 split
 ·exact eW _
 ·rename_i h0;have h1:x.natAbs≠0:=fun z=>h0 (by rw[Int.natAbs_eq_zero.mp z];rfl)
  exact(Nat.log2_lt h1).mpr hx
theorem Th(ha:a.natAbs<2^6000)(hb:b.natAbs<2^6000):IntMulOk a b:=by
 have h1:=intBits_le ha;have h2:=intBits_le hb;clear ha hb;unfold IntMulOk
 (generalize Builtin.Int.intBits a=x at *;revert x;refine gA ?_;intros)
 (generalize Builtin.Int.intBits b=y at *;revert y;refine gA ?_;intros)
 have:Builtin.Int.intTooBig (x+y)=false:=cz (p:=((x:Int)+(y:Int)>((bitsLine:Nat):Int))) (by
  have:bitsLine=134217728:=rfl;exact RK h1 h2 this)
 rw[this,Bool.and_false];exact jY
theorem PN:kP g hd sc XO (binaryOp .Mult) kX:=fun V=>nA fun a b x e=>bI e fun hb e=>by
 cases e;exact cn fun t=>cn fun u Q E hq=>PyProof.Rows.mul_int (hq.ret V.live ⟨_,rfl⟩ _) (Th hb.1 hb.2)
theorem PO:kP g hd sc XO (binaryOp .FloorDiv) iz:=fun V=>nA fun a b x e=>bI e fun hb e=>by
 cases e;exact cn fun t=>cn fun u Q E hq=>PyProof.Rows.floordiv_int (by exact RN hb) (hq.ret V.live ⟨_,rfl⟩ _) (.inl (PyProof.noPylong_small (by exact RO hb)))
inductive B5(h:Heap)(ρ:List Addr)(k:Nat)(xs:List MV):Value->Prop
 |mk (a:Addr) (vs:List Value) (h1:ρ[k]?=some a) (h2:xs.length<=sizeLine) (h3:h.IsList a vs.toArray) (h4:aX h ρ xs vs):B5 h ρ k xs (.ref a)
theorem xy(V:At g hd sc XO n A XR fr s ρ H Y0)(r:Rep s.heap ρ (.obj k) v)(hk:H[k]?=some (.list xs)):B5 s.heap ρ k xs v:=by
 obtain⟨a,rfl,h1⟩:=r;obtain⟨b,h2,h3,vs,h4,h5⟩:=V.live.inv.objs k _ hk;rw[h1]at h2;cases h2;exact .mk a vs h1 h3 h4.isList h5
theorem sL(V:At g hd sc XO n A XR fr s ρ H Y0)(r:Rep s.heap ρ (.obj k) v)(hk:H[k]?=some (.list xs)):
  ∃a vs,v=.ref a/\ρ[k]?=some a/\xs.length<=sizeLine/\s.heap.PlainList a vs.toArray/\aX s.heap ρ xs vs:=by
 obtain⟨a,rfl,h1⟩:=r;obtain⟨b,h2,h3,vs,h4,h5⟩:=V.live.inv.objs k _ hk;rw[h1]at h2;cases h2;exact⟨a,vs,rfl,h1,h3,h4,h5⟩
theorem eR(V:At g hd sc XO n A XR fr s ρ H Y0)(hk:H[k]?=some (.list xs)){Z:Value->Prop}(z:∀a vs,ρ[k]?=some a->xs.length<=sizeLine->s.heap.PlainList a vs.toArray->aX s.heap ρ xs vs->Z (.ref a))(v:Value)(r:Rep s.heap ρ (.obj k) v):Z v:=by
 obtain⟨a,vs,rfl,h1,h3,h4,h5⟩:=sL V r hk;exact z a vs h1 h3 h4 h5
theorem aX.grow(k:bL h h')(x:aX h ρ xs vs):aX h' (ρ++r) xs vs:=aX.stays k.bq x
theorem aX.uu(k:bL h h')(x:aX h ρ xs vs):aX h' ρ xs vs:=by
 have:=aX.grow (r:=[]) k x;rwa [bp]at this
theorem IH{Z:MV->MV->Res MV->Prop}(z1:∀a b,Z (.int a) (.int b) (.val (.int (a+b)) H))(z2:∀a b:Str,a.length+b.length<=sizeLine->Z (.str a) (.str b) (.val (.str (a++b)) H))
  (z3:∀a b:List MV,0<a.length/\0<b.length->a.length+b.length<=sizeLine->Z (.tup a) (.tup b) (.val (.tup (a++b)) H))
  (z4:∀j k a b,H[j]?=some (.list a)->H[k]?=some (.list b)->a.length+b.length<=sizeLine->Z (.obj j) (.obj k) (.val (.obj H.length) (H++[.list (a++b)]))):∀p q Y3,bb p q H=some Y3->Z p q Y3:=by
 intro p q Y3 e;cases p with
 |int a=>cases q with
  |int b=>cases e;exact z1 a b
  |_=>cases e
 |str a=>cases q with
  |str b=>refine bI e fun h e=>?_;cases e;exact z2 a b h
  |_=>cases e
 |tup a=>cases q with
  |tup b=>refine bI e fun h e=>?_;cases e;exact z3 a b h.1 h.2
  |_=>cases e
 |obj j=>cases q with
  |obj k=>refine uo e fun a b h1 h2 e=>bI e fun h e=>?_;cases e;exact z4 j k a b h1 h2 h
  |_=>cases e
 |_=>cases e
theorem vA{h:Heap}{a:Addr}{T:String}{xs:Array Value}(x:∃o,h.get? a=some o/\o.cls=.type T/\∃n,o.data=.seq xs n):∃dd sl n,h.get? a=some ⟨.type T,dd,.seq xs n,sl⟩:=by
 obtain⟨⟨c,d,e,f⟩,ho,hc,n,hd⟩:=x;dsimp only at hc hd;subst hc hd;exact⟨d,f,n,ho⟩
theorem uv(l1:aX h ρ xs vs)(l2:aX h ρ ys ws)(hz:xs.length+ys.length<=sizeLine):vs.toArray.size+ws.toArray.size<=sizeLine/\(xs++ys).length<=sizeLine/\vs.toArray++ws.toArray=(vs++ws).toArray:=by
 rw[eE,eE,l1.length,l2.length,bJ];exact⟨hz,hz,by simp⟩
theorem aX.ne(l:aX h ρ xs vs)(hx:0<xs.length):¬ vs.toArray.isEmpty=true:=by
 rw[List.isEmpty_toArray];cases vs with
 |nil=>rw[<-l.length]at hx;cases hx
 |cons _ _=>intro e;cases e
theorem zH:kP g hd sc XO (binaryOp .Add) bb:=by
 intro n A XR fr s ρ H Y0 V;refine IH (fun a b=>cn fun t=>cn fun u Q E hq=>PyProof.Rows.add_int (hq.ret V.live ⟨_,rfl⟩ _)) (fun a b hz=>cQ fun k1 t=>cQ fun k2 u Q E hq=>PyProof.Rows.add_str (fun t' tk=>hq.ret V.live ⟨k1.app k2 hz,_,rfl⟩ _) hz) (fun xs ys h0 hz=>?_) (fun j k xs ys h1 h2 hz=>?_)
 ·refine pk fun _ a vs ht l1=>pk fun _ b ws hb l2 Q E hq=>?_
  obtain⟨hz',lz,e⟩:=uv l1 l2 hz;obtain⟨dd,sl,n,ho⟩:=vA ht;obtain⟨VD,VE,n2,ho2⟩:=vA hb;refine concat_meets ⟨_,ho,rfl⟩ ⟨_,ho2,rfl⟩ noFill_tuple_add seq_tuple_add PySem.F.slot_tuple_add PySem.F.entry_tuple_add (PySem.F.args_tuple_add_2 _ _)
   (tuple_addW2 a b vs.toArray ws.toArray n n2 dd VD sl VE (l1.ne h0.1) (l2.ne h0.2) hz') ⟨ho,ho2,?_⟩
  rw[e];exact hq.grow V.live (bL.push _ _) ⟨lz,_,vs++ws,rfl,⟨_,fR _ rfl,rfl,0,rfl⟩,aX.append (l1.uu (bL.push _ _)) (l2.uu (bL.push _ _))⟩ s.toks
 ·refine eR V h1 fun a vs _ _ ht l1=>eR V h2 fun b ws _ _ hb l2 Q E hq=>?_
  obtain⟨hz',lz,e⟩:=uv l1 l2 hz;obtain⟨dd,sl,n,ho⟩:=vA ht.isList;obtain⟨VD,VE,n2,ho2⟩:=vA hb.isList;refine concat_meets ⟨_,ho,rfl⟩ ⟨_,ho2,rfl⟩ noFill_list_add seq_list_add PySem.F.slot_list_add PySem.F.entry_list_add (PySem.F.args_list_add_2 _ _) (list_addW a b vs.toArray ws.toArray n n2 dd VD sl VE hz') ⟨ho,ho2,?_⟩;rw[e];exact hq.made V.live (bL.push _ _) (ao _) ⟨lz,vs++ws,⟨0,fR _ rfl⟩,aX.append (l1.grow (bL.push _ _)) (l2.grow (bL.push _ _))⟩ s.toks
theorem FA{f:Int->Int->Bool}{Z:MV->MV->Res MV->Prop}(z:∀a b,Z (.int a) (.int b) (.val (.bool (f a b)) H)):∀p q Y3,wm f p q H=some Y3->Z p q Y3:=nA fun a b x e=>by cases e;exact z a b
theorem vB{f:Int->Int->Bool}(hf:∀(A:Around) (a b:Int) (t u:Tok) (s:Shared) (Q E:Value->Shared->Prop),Q (.bool (f a b)) s->wpAny g.M A (compareOp op (.int a t) (.int b u)) Q E s):
  kP g hd sc XO (compareOp op) (wm f):=fun {_ _ _ _ s _ _ _} V=>FA fun a b=>cn fun t=>cn fun u Q E hq=>hf _ _ _ _ _ _ _ _ (hq.ret V.live rfl s.toks)
theorem Ti:kP g hd sc XO (compareOp .LtE) DP:=vB fun _ _ _ _ _ _ _ _ h=>PyProof.Rows.le_int h
theorem Tj:kP g hd sc XO (compareOp .Gt) yl:=vB fun _ _ _ _ _ _ _ _ h=>PyProof.Rows.gt_int h
theorem Tn:kP g hd sc XO (compareOp .GtE) Kd:=vB fun _ _ _ _ _ _ _ _ h=>PyProof.Rows.ge_int h
theorem PQ{Z:MV->MV->Res MV->Prop}(z1:∀a b,Z (.int a) (.int b) (.val (.bool (decide (a<b))) H))(z2:∀a b,Z (.str a) (.str b) (.val (.bool (strLt a b)) H)):∀p q Y3,kq p q H=some Y3->Z p q Y3:=by
 intro p q Y3 e;cases p with
 |int a=>cases q with
  |int b=>cases e;exact z1 a b
  |_=>cases e
 |str a=>cases q with
  |str b=>cases e;exact z2 a b
  |_=>cases e
 |_=>cases e
theorem To:kP g hd sc XO (compareOp .Lt) kq:=fun {_ _ _ _ s _ _ _} V=>PQ (fun a b=>cn fun t=>cn fun u Q E hq=>PyProof.Rows.lt_int (hq.ret V.live rfl s.toks)) fun a b=>cQ fun _ t=>cQ fun _ u Q E hq=>PyProof.Rows.lt_str (hq.ret V.live rfl s.toks)
theorem PR{Z:MV->MV->Res MV->Prop}(z0:∀a b,Z (.bool a) (.bool b) (.val (.bool (a !=b)) H))(z1:∀a b,Z (.int a) (.int b) (.val (.bool (a !=b)) H)):∀p q Y3,we p q H=some Y3->Z p q Y3:=by
 intro p q Y3 e;cases p with
 |bool a=>cases q with
  |bool b=>cases e;exact z0 a b
  |_=>cases e
 |int a=>cases q with
  |int b=>cases e;exact z1 a b
  |_=>cases e
 |_=>cases e
theorem Tp:kP g hd sc XO (compareOp .NotEq) we:=fun {_ _ _ _ s _ _ _} V=>PR (fun a b=>sI (sI fun Q E hq=>PyProof.Rows.ne_bool (hq.ret V.live rfl s.toks))) fun a b=>cn fun t=>cn fun u Q E hq=>PyProof.Rows.ne_int (hq.ret V.live rfl s.toks)
open PySem.Spec in
noncomputable def Plain(h:Heap)(n:Nat)(v:Value)(d:PyData):Prop:=(∃as,Reads h v d as)/\d.canLay0=true/\d.depth<=n
open PySem.Spec in
noncomputable def PlainL(h:Heap)(n:Nat)(v:List Value)(d:List PyData):Prop:=(∃as,ReadsAll h v d as)/\PyData.canLayAll0 d=true/\PyData.depthAll d<=n
open PySem.Spec in
theorem PlainL.nil:PlainL h n [] []:=⟨⟨[],.nil⟩,by simp[PyData.canLayAll0],by simp[PyData.depthAll]⟩
open PySem.Spec in
theorem PlainL.cons(x:Plain h n v d)(y:PlainL h n vs ds):PlainL h n (v::vs) (d::ds):=by
 obtain⟨⟨as,h1⟩,h2,h3⟩:=x;obtain⟨⟨bs,h4⟩,h5,h6⟩:=y;exact⟨⟨_,.cons h1 h4⟩,by simp[PyData.canLayAll0,h2,h5],by simp only[PyData.depthAll];exact RU h3 h6⟩
noncomputable def VF(h:Heap)(ρ:List Addr)(n:Nat)(f:MV->MV->Option Bool):Prop:=∀p q r v w,f p q=some r->Rep h ρ p v->Rep h ρ q w->∃a b,Plain h n v a/\Plain h n w b/\PyData.eqv a b=r
theorem sM{f:MV->MV->Option Bool}(hf:VF h ρ n f):∀(xs ys:List MV) (r:Bool) (vs ws:List Value),rR f xs ys=some r->aX h ρ xs vs->aX h ρ ys ws->
  ∃a b,PlainL h n vs a/\PlainL h n ws b/\PyData.eqvAll a b=r:=by
 intro xs
 induction xs with
 |nil=>
  intro ys r _ ws e h1 h2;cases ys with
  |nil=>cases e;cases (show _=[] from h1);cases (show _=[] from h2);exact⟨[],[],.nil,.nil,by simp[PyData.eqvAll]⟩
  |cons y ys=>cases e
 |cons x xs ih=>
  intro ys r cE Wu e h1 h2;cases ys with
  |nil=>cases e
  |cons y ys=>
   obtain⟨v,vs,rfl,h1,h2'⟩:=h1;obtain⟨w,ws,rfl,h3,h4⟩:=h2;rw[OD]at e;cases q1:f x y with
   |none=>rw[q1]at e;cases e
   |some c=>cases q2:rR f xs ys with
    |none=>rw[q1,q2]at e;cases e
    |some d=>
    rw[q1,q2]at e;cases e;obtain⟨a,b,p1,p2,p3⟩:=hf _ _ _ _ _ q1 h1 h3;obtain⟨as,bs,p4,p5,p6⟩:=ih ys _ _ _ q2 h2' h4;exact⟨a::as,b::bs,.cons p1 p4,.cons p2 p5,by simp only[PyData.eqvAll,p3,p6]⟩
theorem Plain.str(k:oE x):Plain h n (.str x t) (.str x):=⟨⟨_,.str _ _⟩,by simp only[PyData.canLay0];exact k.2,by simp[PyData.depth]⟩
theorem xA{t:List MV->List MV->Option Bool}(ht:∀xs ys r vs ws,t xs ys=some r->aX h ρ xs vs->aX h ρ ys ws->∃m a b,n=m+1/\PlainL h m vs a/\PlainL h m ws b/\PyData.eqvAll a b=r):VF h ρ n (UY t):=by
 intro p q r v w e h1 h2;cases p with
 |bool b=>cases q with
  |bool c=>
   cases e;cases (show v=.bool _ from h1);cases (show w=.bool _ from h2);exact⟨.bool _,.bool _,⟨⟨_,.bool _⟩,rfl,eW _⟩,⟨⟨_,.bool _⟩,rfl,eW _⟩,rfl⟩
  |_=>cases e
 |int b=>cases q with
  |int c=>
   cases e;obtain⟨t,rfl⟩:=h1;obtain⟨u,rfl⟩:=h2;exact⟨.int _,.int _,⟨⟨_,.int _ _⟩,rfl,eW _⟩,⟨⟨_,.int _ _⟩,rfl,eW _⟩,rfl⟩
  |_=>cases e
 |str b=>cases q with
  |str c=>
   cases e;obtain⟨k1,t,rfl⟩:=h1;obtain⟨k2,u,rfl⟩:=h2;exact⟨.str _,.str _,.str k1,.str k2,rfl⟩
  |_=>cases e
 |tup xs=>cases q with
  |tup ys=>
   obtain⟨_,a,vs,rfl,⟨o,ho,hc,m,hd⟩,l1⟩:=h1;obtain⟨_,b,ws,rfl,⟨o',ho',hc',m',hd'⟩,l2⟩:=h2;obtain⟨m,as,bs,rfl,⟨⟨c1,q1⟩,q2,q3⟩,⟨⟨c2,q4⟩,q5,q6⟩,q7⟩:=ht xs ys r vs ws e l1 l2;exact⟨.tuple as,.tuple bs,⟨⟨_,.tuple ho hc hd q1⟩,by simp only[PyData.canLay0];exact q2,by simp only[PyData.depth];exact u7 q3⟩,⟨⟨_,.tuple ho' hc' hd' q4⟩,by simp only[PyData.canLay0];exact q5,by simp only[PyData.depth];exact u7 q6⟩,by simp only[PyData.eqv];exact q7⟩
  |_=>cases e
 |_=>cases e
theorem uw(n:Nat):VF h ρ n (DO n):=by
 induction n with
 |zero=>exact xA fun _ _ _ _ _ e=>nomatch e
 |succ n ih=>exact xA fun xs ys r vs ws e h1 h2=>(sM ih xs ys r vs ws e h1 h2).elim fun a x=>x.elim fun b x=>⟨n,a,b,rfl,x⟩
theorem xB{Q E:Value->Shared->Prop}(hn:n<=64)(h1:Plain s.heap n v a)(h2:Plain s.heap n w b)(hu:A.units+64<cLine)(hq:Q (.bool (PyData.eqv a b)) s):
  wpAny g.M A (compareOp .Eq v w) Q E s:=by
 obtain⟨⟨as,q1⟩,q2,q3⟩:=h1;obtain⟨⟨bs,q4⟩,q5,q6⟩:=h2;exact eq_dataH q1 q4 (by unfold PySem.SeqAt.shaped;rw[q2,cO (aN q3 hn)];rfl) (by unfold PySem.SeqAt.shaped;rw[q5,cO (aN q6 hn)];rfl) hu hq
theorem B6{Z:Prop}(e:QX r H=some Y3)(z:∀b,r=some b->Y3=.val (.bool b) H->Z):Z:=by
 cases r with
 |none=>cases e
 |some b=>exact z b rfl (dQ e).symm
theorem Tq:kP g hd sc XO (compareOp .Eq) bQ:=by
 intro n A XR fr s ρ H Y0 V p q Y3 e;refine B6 e fun b hb ho=>?_
 clear e;subst ho;have hu:A.units+64<cLine:=by have:=V.act.units;exact K8 this rfl rfl
 have key:DO 9 p q=some b->∀v,Rep s.heap ρ p v->∀w,Rep s.heap ρ q w->Wp g XO A XR fr s ρ Y0 (.val (.bool b) H) (compareOp .Eq v w):=fun hb v r1 w r2 Q E hq=>by
  obtain⟨a,b',q1,q2,q3⟩:=uw 9 _ _ _ _ _ hb r1 r2;refine xB (n:=9) (by decide) q1 q2 hu ?_;rw[q3];exact hq.ret V.live rfl s.toks
 cases p with
 |obj j=>cases q with
  |obj k=>
   refine uo hb fun xs ys h1 h2 hb=>eR V h1 fun a vs _ _ x l1=>eR V h2 fun b' ws _ _ x' l2 Q E hq=>?_
   obtain⟨o,ho,hc,m,hd⟩:=x.isList;obtain⟨o',ho',hc',m',hd'⟩:=x'.isList;obtain⟨as,bs,⟨⟨c1,q1⟩,q2,q3⟩,⟨⟨c2,q4⟩,q5,q6⟩,q7⟩:=sM (uw 8) xs ys b vs ws hb l1 l2;refine xB (n:=9) (a:=.list as) (b:=.list bs) (by decide) ⟨⟨_,.list ho hc hd q1⟩,by simp only[PyData.canLay0];exact q2,by simp only[PyData.depth];exact K9 q3⟩ ⟨⟨_,.list ho' hc' hd' q4⟩,by simp only[PyData.canLay0];exact q5,by simp only[PyData.depth];exact K9 q6⟩ hu ?_
   have:PyData.eqv (.list as) (.list bs)=b:=by simp only[PyData.eqv];exact q7
   rw[this];exact hq.ret V.live rfl s.toks
  |_=>exact key hb
 |_=>exact key hb
end
section
variable{g:eC}{hd:Bool}{sc:Scope}{XO:List Str}{n:Nat}{A:Around}{XR:Env}{fr:List Env}{s:Shared}{ρ:List Addr}{H:MH}{Y0:Loc}{bk:g8}
inductive B7(g:eC)(h:Heap)(ρ:List Addr)(k:Nat)(es:List (Str×MV)):Value->Prop
 |mk (a:Addr) (bD:List (Str×Value)) (h1:ρ[k]?=some a) (h2:a≠sysModules) (h3:h.DictOf (strKind g.prog g.w) a bD) (h4:jv h ρ es bD):B7 g h ρ k es (.ref a)
theorem sN(G:g.Ok)(V:At g hd sc XO n A XR fr s ρ H Y0)(r:Rep s.heap ρ (.obj k) v)(hk:H[k]?=some (.dict es)):B7 g s.heap ρ k es v:=by
 obtain⟨a,rfl,h1⟩:=r;obtain⟨b,h2,bD,h3,h4⟩:=V.live.inv.objs k _ hk;rw[h1]at h2;cases h2;refine .mk a bD h1 (fun z=>?_) h3 h4;have h5:=V.live.inv.new a (d8 h1);have h6:(3:Nat)<g.B.objs.size:=G.top.g.lt;have h7:@Eq Nat a 1:=z;exact absurd (h7▸h5:g.B.objs.size<=1) (by lia)
theorem mV(G:g.Ok)(V:At g hd sc XO n A XR fr s ρ H Y0)(hk:H[k]?=some (.dict es)){Z:Value->Prop}(z:∀a bD,ρ[k]?=some a->a≠sysModules->s.heap.DictOf (strKind g.prog g.w) a bD->jv s.heap ρ es bD->Z (.ref a))(v:Value)(r:Rep s.heap ρ (.obj k) v):Z v:=by
 obtain⟨a,bD,h1,h2,h3,h4⟩:=sN G V r hk;exact z a bD h1 h2 h3 h4
theorem jv.isSome(h4:jv h ρ es bD)(x:Str):(valueAt bD x).isSome=(cG x es).isSome:=by
 have:=h4.at x;cases hp:cG x es with
 |some p=>rw[hp]at this;obtain⟨u,h5,_⟩:=this;rw[h5];rfl
 |none=>rw[hp]at this;rw[this];rfl
theorem tO(hdx:dx=.str x):∀(ys:List MV) (r:Bool) (ws:List Value),kY x ys=some r->aX h ρ ys ws->∃b,PlainL h 0 ws b/\(b.any fun y=>PyData.eqv y dx)=r:=by
 intro ys
 induction ys with
 |nil=>intro r _ e h1;cases (show _=[] from h1);cases e;exact⟨[],.nil,rfl⟩
 |cons y ys ih=>
  intro r _ e hh;obtain⟨w,ws,rfl,h3,h4⟩:=hh;cases y with
  |str y=>
   refine pn e fun c q e=>?_
   cases e;obtain⟨b,p1,p2⟩:=ih _ _ q h4;obtain⟨k,t,rfl⟩:=h3;refine⟨.str y::b,.cons (.str k) p1,?_⟩;rw[List.any_cons,p2,hdx];simp only[PyData.eqv];rw[show(y==x)=(x==y) from Bool.beq_comm ..]
  |_=>cases e
theorem tP(hdx:dx=.int x):∀(ys:List MV) (r:Bool) (ws:List Value),rn x ys=some r->aX h ρ ys ws->∃b,PlainL h 0 ws b/\(b.any fun y=>PyData.eqv y dx)=r:=by
 intro ys
 induction ys with
 |nil=>intro r _ e h1;cases (show _=[] from h1);cases e;exact⟨[],.nil,rfl⟩
 |cons y ys ih=>
  intro r _ e hh;obtain⟨w,ws,rfl,h3,h4⟩:=hh;cases y with
  |int y=>
   refine pn e fun c q e=>?_
   cases e;obtain⟨b,p1,p2⟩:=ih _ _ q h4;obtain⟨t,rfl⟩:=h3;refine⟨.int y::b,.cons ⟨⟨_,.int _ _⟩,rfl,eW _⟩ p1,?_⟩;rw[List.any_cons,p2,hdx];simp only[PyData.eqv];rw[show(y==x)=(x==y) from Bool.beq_comm ..]
  |_=>cases e
theorem Ce{x:Str}(h1:x.length=1):x=⟨#[x.cps.getD 0 0]⟩:=by
 obtain⟨⟨l⟩⟩:=x;cases l with
 |nil=>cases h1
 |cons c r=>cases r with
  |nil=>rfl
  |cons _ _=>cases h1
theorem PS{x y:Str}(h1:x.length=1):(!(Builtin.Str.occurrences y x 0 y.length 1).isEmpty)=y.cps.toList.any fun c=>c==x.cps.getD 0 0:=by
 conv=>lhs;rw[Ce h1]
 rw[show(Builtin.Str.occurrences y ⟨#[x.cps.getD 0 0]⟩ 0 y.length 1)=(Builtin.Str.occurrences y ⟨#[x.cps.getD 0 0]⟩ 0 y.length 1) from rfl,StrLaws.found_one];rw[pV,dh,pU];exact⟨fun h=>⟨_,h,nT _⟩,fun ⟨c,h,e⟩=>(eG.mp e)▸h⟩
theorem PT{Z:MV->MV->Res MV->Prop}(z1:∀x ys b,kY x ys=some b->Z (.str x) (.tup ys) (.val (.bool b) H))(z2:∀x ys b,rn x ys=some b->Z (.int x) (.tup ys) (.val (.bool b) H))
  (z3:∀x y:Str,x.length=1->Z (.str x) (.str y) (.val (.bool (y.cps.toList.any (·==x.cps.getD 0 0))) H)) (z4:∀x k es,H[k]?=some (.dict es)->Z (.str x) (.obj k) (.val (.bool (cG x es).isSome) H)):∀p q Y3,nF p q H=some Y3->Z p q Y3:=by
 intro p q Y3 e;refine B6 e fun b hb ho=>?_
 clear e;subst ho;cases p with
 |str x=>cases q with
  |tup ys=>exact z1 x ys b hb
  |str y=>refine bI hb fun h e=>?_;cases e;exact z3 x y h
  |obj k=>refine gN hb fun es h e=>?_;cases e;exact z4 x k es h
  |_=>cases hb
 |int x=>cases q with
  |tup ys=>exact z2 x ys b hb
  |_=>cases hb
 |_=>cases hb
theorem Kx(G:g.Ok):kP g hd sc XO (compareOp .In) nF:=by
 intro n A XR fr s ρ H Y0 V;have hu:A.units+65<cLine:=by have:=V.act.units;exact K8 this rfl rfl
 refine PT (fun x ys b hb=>cQ fun k1 t=>pk fun _ a ws ⟨o,ho,hc,m,hdt⟩ l2 Q E hq=>?_) (fun x ys b hb=>cn fun t=>pk fun _ a ws ⟨o,ho,hc,m,hdt⟩ l2 Q E hq=>?_) (fun x y h1=>cQ fun _ t=>cQ fun _ u Q E hq=>PyProof.Rows.in_str ?_)
  (fun x k es hes=>cQ fun _ t=>mV G V hes fun a bD h1 h2 h3 h4 Q E hq=>wpAny_in_of (strKind_is _ _ _ t) (gZ.mpr h2) h3.mapOf ?_)
 ·obtain⟨bs,⟨⟨c2,q4⟩,q5,q6⟩,q7⟩:=tO rfl _ _ _ hb l2;refine PySem.SeqAt.in_tuple_reads (.tuple ho hc hdt q4) (.str _ t) q5 (by simp only[PyData.canLay0];exact k1.2) (by simp only[PyData.depth];exact Ka hu q6) ?_;rw[q7];exact hq.ret V.live rfl s.toks
 ·obtain⟨bs,⟨⟨c2,q4⟩,q5,q6⟩,q7⟩:=tP rfl _ _ _ hb l2;refine PySem.SeqAt.in_tuple_reads (.tuple ho hc hdt q4) (.int _ t) q5 rfl (by simp only[PyData.depth];exact Ka hu q6) ?_;rw[q7];exact hq.ret V.live rfl s.toks
 ·rw[PS h1];exact hq.ret V.live rfl s.toks
 ·rw[h4.isSome x];exact hq.ret V.live rfl _
theorem Cf{Z:MV->MV->Res MV->Prop}(z:∀x k es,H[k]?=some (.dict es)->Z (.str x) (.obj k) (.val (.bool !(cG x es).isSome) H)):∀p q Y3,eX p q H=some Y3->Z p q Y3:=by
 intro p q Y3 e;cases p with
 |str x=>cases q with
  |obj k=>refine gN e fun es h e=>?_;cases e;exact z x k es h
  |_=>cases e
 |_=>cases e
theorem FC(G:g.Ok):kP g hd sc XO (compareOp .NotIn) eX:=by
 intro n A XR fr s ρ H Y0 V;refine Cf fun x k es hes=>cQ fun _ t=>mV G V hes fun a bD h1 h2 h3 h4 Q E hq=>wpAny_notIn_of (strKind_is _ _ _ t) (gZ.mpr h2) h3.mapOf ?_
 rw[h4.isSome x];exact hq.ret V.live rfl _
theorem ux(r:Rep h ρ p v)(hn:noFn p=true):(v==.none)=oK p:=by
 cases p with
 |none=>cases (show v=.none from r);rfl
 |bool b=>cases (show v=.bool b from r);rfl
 |int i=>obtain⟨t,rfl⟩:=r;rfl
 |str x=>obtain⟨_,t,rfl⟩:=r;rfl
 |tup xs=>obtain⟨_,a,vs,rfl,_⟩:=r;rfl
 |obj k=>obtain⟨a,rfl,_⟩:=r;rfl
 |inst C k=>obtain⟨x,d,o,rfl,_⟩:=r;rfl
 |fn u=>cases hn
theorem Cg:pJ g hd sc XO (fun v=>compareOp .Is v .none) bg:=by
 intro n A XR fr s ρ H Y0 V p Y3 e;refine bI e fun hn e v r Q E hq=>is_none ?_
 cases e;rw[ux r hn];exact hq.ret V.live rfl s.toks
theorem zI:pJ g hd sc XO (fun v=>compareOp .IsNot v .none) eg:=by
 intro n A XR fr s ρ H Y0 V p Y3 e;refine bI e fun hn e v r Q E hq=>isNot_none ?_
 cases e;rw[ux r hn];exact hq.ret V.live rfl s.toks
end
section
variable{g:eC}{hd:Bool}{sc:Scope}{XO:List Str}{n:Nat}{A:Around}{XR:Env}{fr:List Env}{s:Shared}{ρ:List Addr}{H:MH}{Y0:Loc}{bk:g8}
theorem Ci{Z:Prop}(h:place? i n=some j)(z1:0<=i/\i<n->j=i.toNat->Z)(z2:i<0/\0<=i+n->j=(i+n).toNat->Z):Z:=by
 unfold place? at h;by_cases c:0<=i/\i<n
 ·rw[if_pos c]at h;exact z1 c (dQ h).symm
 ·rw[if_neg c]at h;exact bI h fun c h=>z2 c (dQ h).symm
theorem seqIndex_of(h:place? i n=some j):seqIndex? i n=some j/\j<n/\-(n:Int)<=i/\i<n:=by
 unfold seqIndex?;refine Ci h (fun c e=>?_) (fun c e=>?_)
 ·rw[e,if_neg (by exact S5 c:¬ i<0),if_pos (by simp only[bW,dh];exact S6 c)];exact⟨rfl,by exact S7 c⟩
 ·rw[e,if_pos c.1,if_pos (by simp only[bW,dh];exact Kc c)];exact⟨rfl,by exact S8 c⟩
theorem FD{Z:MV->MV->Res MV->Prop}(z1:∀xs i j x,place? i xs.length=some j->xs[j]?=some x->Z (.tup xs) (.int i) (.val x H))(z2:∀(s:Str) (i:Int),0<=i/\i<s.length->Z (.str s) (.int i) (.val (.str (wq s i.toNat)) H))
  (z3:∀k xs i x,H[k]?=some (.list xs)->0<=i->xs[i.toNat]?=some x->Z (.obj k) (.int i) (.val x H)) (z4:∀k es x v,H[k]?=some (.dict es)->cG x es=some v->Z (.obj k) (.str x) (.val v H)):∀p q Y3,au p q H=some Y3->Z p q Y3:=by
 intro p q Y3 e;cases p with
 |tup xs=>cases q with
  |int i=>
   cases h1:place? i xs.length with
   |none=>unfold au at e;dsimp only at e;rw[h1]at e;cases e
   |some j=>
    unfold au at e;dsimp only at e;rw[h1]at e;refine nz e fun x h2 e=>?_
    cases e;exact z1 xs i j x h1 h2
  |_=>cases e
 |str s=>cases q with
  |int i=>refine bI e fun h e=>?_;cases e;exact z2 s i h
  |_=>cases e
 |obj k=>cases q with
  |int i=>refine ew e fun xs h1 e=>bI e fun h2 e=>nz e fun x h3 e=>?_;cases e;exact z3 k xs i x h1 h2 h3
  |str x=>refine gN e fun es h1 e=>nz e fun v h2 e=>?_;cases e;exact z4 k es x v h1 h2
  |_=>cases e
 |_=>cases e
theorem II{x:Str}{i:Int}(k:oE x)(hj:i.toNat<x.cps.size):oE (wq x i.toNat):=by
 refine⟨?_,?_⟩
 ·show 1<=sizeLine;decide
 ·have:=k.2;rw[Array.all_eq_true]at this;have:=this i.toNat hj;show(#[x.cps.getD i.toNat 0]:Array Nat).all _=true;simp[Array.getD,hj]
  simpa using this
theorem IJ(G:g.Ok){value slice:Expr}(hs:∀o i,subscripted slice false o i=operate [o,i] (getItem o i)):kP g hd sc XO (fun o i=>subscriptTail value slice o i) au:=by
 intro n A XR fr s ρ H Y0 V;have hz:sizeLine=16777216:=rfl;refine FD (fun xs i j x hj hx=>pk fun hl a vs ht l1=>cn fun t Q E hq=>?_) (fun x i hi=>cQ fun k t=>cn fun u Q E hq=>?_) (fun k xs i x hxs h0 hx=>eR V hxs fun a vs _ hl ht l1=>cn fun t Q E hq=>?_) (fun k es x y hes hy=>mV G V hes fun a bD h1 h2 h3 h4=>cQ fun _ t Q E hq=>?_)
 ·obtain⟨u,hu,hr⟩:=l1.get hx;obtain⟨h1,h2,h3,h4⟩:=seqIndex_of hj;exact item_tupleT (l:=vs) (u:=t) (j:=j) (x:=u) ht (by exact S9 hz hl h3) (by exact S' hz hl h4) (by rw[l1.length];exact h1) hu (hq.ret V.live hr s.toks) (hs _ _)
 ·have hj2:x.length=x.cps.size:=rfl;have hj:i.toNat<x.cps.size:=by exact Sa hi hj2
  have hk:=k.1;refine tail_any (typeIs_str s x t) PySem.F.slot_str_getitem.lookup (PySem.P.getItem_str (c:=x.cps.getD i.toNat 0) ?_ ?_ (hq.ret V.live ⟨II k hj,_,rfl⟩ _)) (hs _ _)
  ·simp only[Bool.or_eq_false_iff,decide_eq_false_iff_not];exact Sb hz hi hk
  ·have:seqIndex? i x.length=some i.toNat:=(seqIndex_of (i:=i) (n:=x.length) (if_pos hi)).1;rw[this,Option.bind_some];simp[Array.getD,hj]
 ·obtain⟨u,hu,hr⟩:=l1.get hx;have hlt:=(cm.mp hx).1;exact tail_any ht.isList.typeIs PySem.F.slot_list_getitem.lookup (wpAny_getItem_list ht.isList h0 (by exact Sd hz h0 hl hlt) (by simpa using hu) (hq.ret V.live hr s.toks)) (hs _ _)
 ·have:=h4.at x;rw[hy]at this;obtain⟨u,h5,h6⟩:=this;exact tail_any h3.typeIs PySem.F.slot_dict_getitem.lookup (wpAny_getItem_of (strKind_is _ _ _ t) h3.mapOf h5 (hq.ret V.live h6 _)) (hs _ _)
theorem PU(G:g.Ok)(ha:SE g hd sc XO (eval a) ca)(hb:SE g hd sc XO (eval b) cb)
  (hs:∀o i,subscripted b false o i=operate [o,i] (getItem o i):=by trivial):
  SE g hd sc XO (eval (.Subscript a b pos)) (c2 au ca cb):=Fw ha hb (IJ G (value:=a) (slice:=b) hs) fun _ _ _ _ _ h=>Subscript_ h
theorem aX.drop:∀(n:Nat) {xs:List MV}{vs:List Value},aX h ρ xs vs->aX h ρ (xs.drop n) (vs.drop n):=by
 intro n
 induction n with
 |zero=>intro _ _ e;exact e
 |succ n ih=>
  intro xs _ e;cases xs with
  |nil=>cases (show _=[] from e);exact(rfl:([]:List Value)=[])
  |cons y xs=>obtain⟨v,r,e,hv,hr⟩:=e;subst e;exact ih hr
theorem aX.take:∀(n:Nat) {xs:List MV}{vs:List Value},aX h ρ xs vs->aX h ρ (xs.take n) (vs.take n):=by
 intro n
 induction n with
 |zero=>intro _ _ e;exact rfl
 |succ n ih=>
  intro xs _ e;cases xs with
  |nil=>cases (show _=[] from e);exact(rfl:([]:List Value)=[])
  |cons y xs=>obtain⟨v,r,e,hv,hr⟩:=e;subst e;exact⟨v,_,rfl,hv,ih hr⟩
theorem nN(lo hi:Option Int)(n:Nat):Builtin.Str.strSliceIndices lo hi 1 n=(List.range (hi.elim n (clipAt n)-lo.elim 0 (clipAt n))).map (lo.elim 0 (clipAt n)+·):=by
 rw[<-sliceRange_one];unfold Builtin.Str.strSliceIndices;cases lo<;>cases hi<;>simp[clipAt_cast]
theorem FE(lo hi:Option Int)(xs:List Nat)(h:(hi.elim xs.length (clipAt xs.length)-lo.elim 0 (clipAt xs.length))=xs.length):je lo hi xs=xs:=by
 have hc:∀i,clipAt xs.length i<=xs.length:=fun i=>by have:=clipAt_cast xs.length i;exact Se h this
 have h1:hi.elim xs.length (clipAt xs.length)<=xs.length:=by cases hi with
  |none=>exact ao _
  |some i=>exact hc i
 unfold je;by_cases hz:xs.length=0
 ·rw[List.length_eq_zero_iff.mp hz];simp
 ·have h2:lo.elim 0 (clipAt xs.length)=0:=by exact Sf h h1 hz
  rw[h,h2];simp
set_option tactic.hygienic true in
theorem ri(x:Str)(t:Tok)(l u:Option (Int×Tok)){Q:Value->Shared->Prop}(hk:(⟨(je (l.map (·.1)) (u.map (·.1)) x.cps.toList).toArray⟩:Str).length<=sizeLine)
  (h:∀t',Q (.str ⟨(je (l.map (·.1)) (u.map (·.1)) x.cps.toList).toArray⟩ t') { s with toks:=s.toks+1 }/\Q (.str ⟨(je (l.map (·.1)) (u.map (·.1)) x.cps.toList).toArray⟩ t') s):
  (sliceMade x t l u none).post Q s:=by
 have hn:x.length=x.cps.toList.length:=by rw[pN];rfl
 have e:(slicePicked x l u none).filterMap (x.cps[·]?)=je (l.map (·.1)) (u.map (·.1)) x.cps.toList:=by
  unfold slicePicked;rw[hn];show(Builtin.Str.strSliceIndices _ _ 1 _).filterMap _=_;rw[nN,pick_run];rfl
 unfold sliceMade
 split
 ·rename_i c;simp only[bW,eG]at c;have c2:=c.2;unfold slicePicked at c2;rw[hn]at c2;have c3:(Builtin.Str.strSliceIndices (l.map (·.1)) (u.map (·.1)) 1 x.cps.toList.length).length=x.cps.toList.length:=c2;rw[nN,bR,List.length_range]at c3;have:=(h t).2;rw[FE _ _ _ c3]at this;exact this
 ·rw[e];exact⟨hk,(h _).1⟩
theorem part_of(hb:gD q=some i)(r:Rep h ρ q v):∃l,v=partValue l/\l.map (·.1)=i:=by
 cases q with
 |none=>cases hb;cases (show v=.none from r);exact⟨none,rfl,rfl⟩
 |int z=>cases hb;obtain⟨t,rfl⟩:=r;exact⟨some (_,t),rfl,rfl⟩
 |_=>cases hb
theorem sO{α:Type}{x y:MV}{f:Option Int->Option Int->Option α}{Y3:α}{Z:Prop}(e:(match gD x,gD y with
  |some a,some b=>f a b
  |_,_=>none)=some Y3) (z:∀a b,gD x=some a->gD y=some b->f a b=some Y3->Z):Z:=by
 cases h1:gD x with
 |none=>rw[h1]at e;cases e
 |some a=>
  cases h2:gD y with
  |none=>rw[h1,h2]at e;cases e
  |some b=>rw[h1,h2]at e;exact z a b h1 h2 e
theorem oE.cut(k:oE x)(lo hi:Option Int):oE ⟨(je lo hi x.cps.toList).toArray⟩:=by
 have hs:(je lo hi x.cps.toList).Sublist x.cps.toList:=(List.take_sublist _ _).trans (List.drop_sublist _ _);refine⟨?_,?_⟩
 ·have:=hs.length_le;have h2:=k.1;rw[pN]at this;show(je lo hi x.cps.toList).toArray.size<=_;rw[eE];exact aN this h2
 ·have:=k.2;rw[<-Array.all_toList]at this;rw[<-Array.all_toList];rw[eF]at *;exact fun c hc=>this c (hs.subset (by simpa using hc))
theorem uy:SE g hd sc XO (evalPart none) (af .none):=by
 intro n bk ho A XR fr s ρ H Y0 V Y3 aA Q E hq;cases aA;exact bH (hq.ret V.live rfl _)
theorem Cj{a:Expr}{lo hi:Option Expr}{p pos:Pos}{ca cl ch:CE}(ha:SE g hd sc XO (eval a) ca)(hl:SE g hd sc XO (evalPart lo) cl)(hh:SE g hd sc XO (evalPart hi) ch)
  (htm:∀o r,letTemporaryGo a o r=pure ():=by trivial):
  SE g hd sc XO (eval (.Subscript a (.Slice lo hi none p) pos)) (fD ca cl ch):=by
 intro n bk ho A XR fr s ρ H Y0 V Y3 aA Q E hq;refine wpAny_Subscript_str_slice (ht:=htm) (ha.bind ho V aA hq.px fun p1 H1 v1 h1 uz FF e1 kQ V1 r1=>?_);refine hl.bind ho V1 e1 (hq.after kQ).px fun p2 H2 v2 h2 i9 pK e2 eu V2 r2=>?_
 refine hh.bind ho V2 e2 ((hq.after kQ).after eu).px fun p3 H3 v3 h3 nH tu e3 jx V3 r3=>?_
 have hq3:=((hq.after (aU:=uz) kQ).after (aU:=i9) eu).after (aU:=nH) jx;have VG:=Rep.stays (V2.live.bq jx) (Rep.stays (V1.live.bq eu) r1);have Tr:=Rep.stays (V2.live.bq jx) r2;cases p1 with
 |str x=>
  refine sO e3 fun i j hi hj e3=>?_
  cases e3;obtain⟨k,t,rfl⟩:=VG;obtain⟨l,rfl,rfl⟩:=part_of hi Tr;obtain⟨u,rfl,rfl⟩:=part_of hj r3;exact⟨_,t,l,u,rfl,rfl,rfl,ri _ _ _ _ (k.cut _ _).1 fun t'=>⟨hq3.grow V3.live (bL.push _ _) ⟨k.cut _ _,t',rfl⟩ _,hq3.grow V3.live (bL.push _ _) ⟨k.cut _ _,t',rfl⟩ _⟩⟩
 |_=>cases e3
noncomputable def tQ(lo hi:Option Int)(xs:List Value):List Value:=(xs.drop (lo.elim 0 (clipAt xs.length))).take (hi.elim xs.length (clipAt xs.length)-lo.elim 0 (clipAt xs.length))
theorem aX.cut(l1:aX h ρ xs vs)(i j:Option Int):aX h ρ (je i j xs) (tQ i j vs):=by
 unfold tQ je;rw[l1.length];exact aX.take _ (aX.drop _ l1)
theorem FG(hb:gD q=some i)(r:Rep h ρ q v):IsPart v i:=by
 obtain⟨l,rfl,rfl⟩:=part_of hb r;cases l with
 |none=>exact .none
 |some x=>exact .int _ _
theorem Ck{a:Expr}{lo hi:Option Expr}{p pos:Pos}{ca cl ch:CE}(ha:SE g hd sc XO (eval a) ca)(hl:SE g hd sc XO (evalPart lo) cl)(hh:SE g hd sc XO (evalPart hi) ch)
  (htm:∀o r,letTemporaryGo a o r=pure ():=by trivial):
  SE g hd sc XO (eval (.Subscript a (.Slice lo hi none p) pos)) (dG ca cl ch):=by
 intro n bk ho A XR fr s ρ H Y0 V Y3 aA Q E hq;refine wpAny_Subscript_list_slice (ht:=htm) (ha.bind ho V aA hq.px fun p1 H1 v1 h1 uz FF e1 kQ V1 r1=>?_);refine hl.bind ho V1 e1 (hq.after kQ).px fun p2 H2 v2 h2 i9 pK e2 eu V2 r2=>?_
 refine hh.bind ho V2 e2 ((hq.after kQ).after eu).px fun p3 H3 v3 h3 nH tu e3 jx V3 r3=>?_
 have hq3:=((hq.after (aU:=uz) kQ).after (aU:=i9) eu).after (aU:=nH) jx;have VG:=Rep.stays (V2.live.bq jx) (Rep.stays (V1.live.bq eu) r1);have Tr:=Rep.stays (V2.live.bq jx) r2;cases p1 with
 |obj k=>
  refine ew e3 fun xs hxs e3=>sO e3 fun i j hi hj e3=>?_
  cases e3;obtain⟨b,vs,_,hz,ht,l1⟩:=xy V3 VG hxs;refine⟨b,vs.toArray,i,j,rfl,ht,by rw[eE,l1.length];exact hz,FG hi Tr,FG hj r3,?_⟩;have e4:slicePick vs.toArray i j none=(tQ i j vs).toArray:=by rw[slicePick_plain];rfl
  rw[e4];have k:bL h3 ((h3.push { cls:=.type "slice",data:=.fields #[v2,v3,.none] }).push { cls:=.type "list",data:=.seq (tQ i j vs).toArray }):=(bL.push h3 _).trans (bL.push _ _);have hx:=fR (h3.push { cls:=.type "slice",data:=.fields #[v2,v3,.none] }) (o:={ cls:=.type "list",data:=.seq (tQ i j vs).toArray }) rfl;rw[Heap.size_push]at hx;exact hq3.made V3.live k (jc _) ⟨aN ((List.take_sublist _ _).trans (List.drop_sublist _ _)).length_le hz,_,⟨0,hx⟩,(aX.grow k l1).cut i j⟩ _
 |_=>cases e3
end
section
variable{g:eC}{hd:Bool}{sc:Scope}{XO:List Str}{n:Nat}{A:Around}{XR:Env}{fr:List Env}{s:Shared}{ρ:List Addr}{H:MH}{Y0:Loc}{bk:g8}
theorem nB(G:g.Ok)(hb:bootBuiltins x=some b)(hn:nsIn g.K mainGlobals x=some none)(hl:sc.names.lookup x=some .globalImplicit)(hx:x≠"__name__"/\(x==("__debug__":Str))=false)
  (V:At g hd sc XO n A XR fr s ρ H Y0) {Q E:Value->Shared->Prop}(h:Q b s):wpAny g.M A (eval (.Name x pos) XR) Q E s:=by
 refine Name_function_global V.kind ((V.kindOf x).trans hl) ?_ hx.2;refine loadGlobal_builtin (by rw[V.d6.globals];exact G.top.g.keeps V.live.inv.stays) (mg_none_of G.sG G.top.g hn) (by rw[V.d6.builtins];exact G.top.b.keeps V.live.inv.stays) ?_ h;rw[G.top.builtins x hx.1];exact hb
theorem FH(G:g.Ok)(hop:pJ g hd sc XO (fun v=>call b [v]) f)(hn:nsIn g.K mainGlobals x=some none)(hl:sc.names.lookup x=some .globalImplicit)(he:SE g hd sc XO (eval e) c)
  (hb:bootBuiltins x=some b:=by trivial) (hx:x≠"__name__"/\(x==("__debug__":Str))=false:=by trivial) (hk:keeperOf b=pure .machine:=by trivial)
  (hc:∀XR,eval (.Call (.Name x p) [e] [] pos) XR=(do callWith pos (<-eval (.Name x p) XR) [] (backTo pos (starEach [e] XR)) []):=by trivial)
  (hs:∀XR,backTo pos (starEach [e] XR)=[(false,eval e XR)]:=by trivial):SE g hd sc XO (eval (.Call (.Name x p) [e] [] pos)) (c1 f c):=by
 intro n bk ho A XR fr s ρ H Y0 V Y3 aA Q E hq;rw[hc XR,hs XR];refine aQ (nB G hb hn hl hx V ?_);refine callWith_of (P:=fun _=>True) rfl (fun h _=>⟨_,.inr (.inl rfl),Looks.of_pure hk⟩) (evalArgs_plain (spliced_cons (he.bind ho V aA hq.px fun p H' v h' aU aV e st V' r=>?_)));refine spliced_nil ⟨trivial,?_⟩;exact hop V' p Y3 e v r Q E (hq.after st)
theorem IK{Z:MV->Res MV->Prop}(z1:∀x:Str,Z (.str x) (.val (.int x.length) H))(z2:∀k xs,H[k]?=some (.list xs)->Z (.obj k) (.val (.int xs.length) H)):∀p Y3,eY p H=some Y3->Z p Y3:=by
 intro p Y3 e;cases p with
 |str x=>cases e;exact z1 x
 |obj k=>refine ew e fun xs h e=>?_;cases e;exact z2 k xs h
 |_=>cases e
theorem PV:pJ g hd sc XO (fun v=>call (.builtin "len") [v]) eY:=by
 intro n A XR fr s ρ H Y0 V;have hz:sizeLine=16777216:=rfl;refine IK (fun x=>cQ fun k t Q E hq=>?_) (fun k xs hxs=>eR V hxs fun a vs _ h1 h2 h3 Q E hq=>?_)
 ·have:=k.1;exact PyProof.Rows.len_str (by exact KS hz this) (hq.ret V.live ⟨_,rfl⟩ _)
 ·have h4:=h3.length;refine PyProof.Rows.len_list h2.isList (by rw[eE];exact KU hz h1 h4) ?_;rw[eE,h4];exact hq.ret V.live ⟨_,rfl⟩ _
theorem IL{Z:MV->Res MV->Prop}(z:∀x:Str,x.length=1->Z (.str x) (.val (.int (x.cps.getD 0 0)) H)):∀p Y3,Hw p H=some Y3->Z p Y3:=by
 intro p Y3 e;cases p with
 |str x=>refine bI e fun h e=>?_;cases e;exact z x h
 |_=>cases e
theorem PW:pJ g hd sc XO (fun v=>call (.builtin "ord") [v]) Hw:=fun V=>IL fun x h1=>cQ fun k t Q E hq=>ord_of_one h1 (hq.ret V.live ⟨_,rfl⟩ _)
theorem FI{i:Int}(h:i.natAbs<2^1900):i.natAbs.log2<1920:=by
 by_cases h0:i.natAbs=0
 ·rw[h0];decide
 ·exact Nat.lt_trans ((Nat.log2_lt h0).mpr h) (by decide)
theorem xC(i:Int)(h:i.natAbs<2^1900):oE (Str.ofString (toString i)):=by
 refine⟨int_text_fits (FI h),?_⟩;rw[Str.ofString_eq_toList,<-Array.all_toList,eF];intro c hc;obtain⟨x,_,rfl⟩:=eb.mp (by simpa using hc:c∈(toString i).toList.map Char.toNat);rw[dh];have:=x.valid;show x.val.toNat<0x110000;rcases this with h1|⟨_,h1⟩
 ·exact Nat.lt_trans h1 (by decide)
 ·exact h1
theorem str_inv{Z:MV->Res MV->Prop}(z1:∀i:Int,i.natAbs<2^1900->Z (.int i) (.val (.str (Str.ofString (toString i))) H))(z2:∀x,Z (.str x) (.val (.str x) H)):∀p Y3,iN p H=some Y3->Z p Y3:=by
 intro p Y3 e;cases p with
 |int i=>unfold iN at e;dsimp only at e;refine bI e fun h e=>?_;cases e;exact z1 i h
 |str x=>cases e;exact z2 x
 |_=>cases e
theorem zJ:pJ g hd sc XO (fun v=>call (.type "str") [v]) iN:=by
 intro n A XR fr s ρ H Y0 V;exact str_inv (fun i h1=>cn fun t Q E hq=>P.str_of_int (FI h1) (hq.ret V.live ⟨xC i h1,_,rfl⟩ _)) fun x=>cQ fun k t Q E hq=>P.str_of_str (hq.ret V.live ⟨k,_,rfl⟩ s.toks)
theorem kept_iter(hk:∀b x,b∉ [h.objs.size]->(h.push o).get? b=some x->h'.get? b=some x):bL h h':=
 fun b x e=>hk b x (fun hm=>by rw[c8.mp hm]at e;exact Nat.lt_irrefl _ (kW e)) (iv _ e)
theorem sP:∀{xs:List MV}{vs:List Value}{c:Bool},gF xs=some c->aX h ρ xs vs->∃bs:List Bool,PyProof.Rows.LSm.BoolsAre vs bs/\bs.all id=c:=by
 intro xs
 induction xs with
 |nil=>intro _ _ e r;cases (show _=[] from r);cases e;exact⟨[],.nil,rfl⟩
 |cons x xs ih=>
  intro _ _ e hh;obtain⟨v,vs,rfl,h1,h2⟩:=hh;cases x with
  |bool b=>
   cases (show v=.bool b from h1);refine pn e fun c q e=>?_
   cases e;obtain⟨bs,p1,p2⟩:=ih q h2;exact⟨b::bs,.cons b p1,by rw[iy,p2];rfl⟩
  |_=>cases e
theorem IM{Z:MV->Res MV->Prop}(z:∀k xs b,H[k]?=some (.list xs)->gF xs=some b->Z (.obj k) (.val (.bool b) H)):∀p Y3,qY p H=some Y3->Z p Y3:=by
 intro p Y3 e;cases p with
 |obj k=>refine ew e fun xs h e=>pn e fun b q e=>?_;cases e;exact z k xs b h q
 |_=>cases e
theorem zK:pJ g false sc XO (fun v=>call (.builtin "all") [v]) qY:=by
 intro n A XR fr s ρ H Y0 V;refine IM fun k xs b hxs hm=>eR V hxs fun a vs _ h1 hp h3 Q E hq=>?_
 have hl:=hp.isList;obtain⟨bs,hb,rfl⟩:=sP hm h3;have hlt:a<s.heap.objs.size:=by obtain⟨_,e⟩:=hp;exact kW e
 refine call_all_walk (wpAny_pyIter_list hl ?_);refine⟨s.heap.objs.size,[s.heap.objs.size,a],[s.heap.objs.size],vs.toArray.size,_,_,fun i=>(bs[i]?).getD true,rfl,Walks.list (A:=A.in1) (V.act.handled rfl) _ a (hG hlt) vs.toArray,
  ⟨⟨_,fR _ rfl,rfl,rfl⟩,hl.push _⟩,fun i v s' Q' E' hP hQ=>?_,fun h' tk hk=>?_⟩
 ·obtain⟨b,e,rfl⟩:=hb.get i v (by simpa using hP);simp only[e,Option.getD_some]at hQ;exact wpAny_truthy_bool hQ
 ·have e:((List.range vs.toArray.size).all fun i=>(bs[i]?).getD true)=bs.all id:=by
   rw[eE,hb.length];exact PyProof.Rows.LSm.range_all bs
  rw[e];exact hq.grow V.live (kept_iter hk) rfl tk
theorem Cm{Z:MV->Res MV->Prop}(z:∀k xs,H[k]?=some (.list xs)->Z (.obj k) (.val (.tup xs) H)):∀p Y3,kc p H=some Y3->Z p Y3:=by
 intro p Y3 e;cases p with
 |obj k=>refine ew e fun xs h e=>?_;cases e;exact z k xs h
 |_=>cases e
theorem sQ:pJ g hd sc XO (fun v=>call (.type "tuple") [v]) kc:=by
 intro n A XR fr s ρ H Y0 V;refine Cm fun k xs hxs=>eR V hxs fun a vs _ h1 hl h3 Q E hq=>call_tuple_list hl.isList (fun h' hk=>?_) (by rw[eE,h3.length];exact h1)
 have k:bL s.heap (h'.push { cls:=.type "tuple",data:=.seq vs.toArray }):=bL.trans hk (bL.push _ _);exact hq.grow V.live k ⟨h1,_,vs,rfl,⟨_,fR _ rfl,rfl,0,rfl⟩,h3.uu k⟩ s.toks
noncomputable def Ts(vs:List Value)(c:Int):Prop:=∃is:List (Int×Tok),vs=is.map (fun p=>.int p.1 p.2)/\0<is.length/\(∃t,(c,t)∈is)/\∀p∈is,p.1<=c
theorem tR:∀{xs:List MV}{vs:List Value}{c:Int},fX xs=some c->aX h ρ xs vs->Ts vs c:=by
 intro xs
 induction xs with
 |nil=>intro vs c e;cases e
 |cons x r ih=>
  intro vs c e hh;obtain⟨v,vs,rfl,h1,h2⟩:=hh;cases x with
  |int i=>
   obtain⟨t,rfl⟩:=h1;cases r with
   |nil=>
    cases (show vs=[] from h2);cases (show some i=some _ from e);exact⟨[(_,t)],rfl,Nat.zero_lt_one,⟨t,.head _⟩,fun p hp=>by cases c8.mp hp;exact Int.le_refl _⟩
   |cons y xs=>
    refine xr e fun d q e=>?_
    cases e;obtain⟨is,p1,p2,⟨u,p3⟩,p4⟩:=ih q h2;clear ih h2 q;refine⟨(i,t)::is,by rw[p1];rfl,Nat.succ_pos _,?_,fun p hp=>?_⟩
    ·by_cases hh:i<=d
     ·rw[Int.max_eq_right hh];exact⟨u,.tail _ p3⟩
     ·rw[Int.max_eq_left (by exact KV hh)];exact⟨t,.head _⟩
    ·rcases bS.mp hp with rfl|hp
     ·exact Int.le_max_left ..
     ·exact Int.le_trans (p4 p hp) (Int.le_max_right ..)
  |_=>cases r<;>cases e
theorem IP{Z:MV->Res MV->Prop}(z:∀k xs m,H[k]?=some (.list xs)->fX xs=some m->Z (.obj k) (.val (.int m) H)):∀p Y3,oM p H=some Y3->Z p Y3:=by
 intro p Y3 e;cases p with
 |obj k=>refine ew e fun xs h e=>xr e fun b q e=>?_;cases e;exact z k xs b h q
 |_=>cases e
theorem zL:pJ g false sc XO (fun v=>call (.builtin "max") [v]) oM:=by
 intro n A XR fr s ρ H Y0 V;refine IP fun k xs m hxs hm=>eR V hxs fun a vs _ h1 hp h3 Q E hq=>?_
 have hl:=hp.isList;obtain⟨is,rfl,h0,⟨t,h4⟩,h5⟩:=tR hm h3;have e:(is.map (fun p=>Value.int p.1 p.2)).toArray=intItems is.toArray:=by unfold intItems;simp
 rw[e]at hl;refine max_intList (V.act.handled rfl) hl (by simpa using h0) fun v h' tk hv hk=>?_
 obtain⟨b1,b2⟩:=argBest_gt (numAt is.toArray) (is.toArray.size-1);have hlt:argBest (fun i j=>decide (numAt is.toArray i>numAt is.toArray j)) (is.toArray.size-1)<is.length:=by
  exact OB b1 h0
 obtain⟨j,hj,e2⟩:=List.getElem_of_mem h4
 (generalize argBest (fun i j=>decide (numAt is.toArray i>numAt is.toArray j)) (is.toArray.size-1)=b at *;revert b;refine gA ?_;intros)
 have Tu:∀i (hi:i<is.length),numAt is.toArray i=(is[i]).1:=fun i hi=>by simp[numAt,hi]
 have h6:=b2 j (by exact Nat.le_sub_one_of_lt hj);rw[Tu j hj,Tu b hlt,e2]at h6;have h7:=h5 _ (List.getElem_mem hlt);have h8:(is[b]).1=m:=Int.le_antisymm h7 h6;have hv':v=.int m (is[b]).2:=by
  unfold intItems at hv;simp[hlt]at hv;rw[<-hv,h8]
 rw[hv'];exact hq.grow V.live hk ⟨_,rfl⟩ tk
theorem Cn(G:g.Ok){x:Str}(hC:isNotIn g.K "str" C=true)(hn:nsIn g.K mainGlobals (Str.ofString "isinstance")=some none)(hl:sc.names.lookup (Str.ofString "isinstance")=some .globalImplicit)(he:SE g hd sc XO (eval e) c)
  (hf:SE g hd sc XO (eval f) (af (.fn (.ref C))))
  (hc:∀XR,eval (.Call (.Name "isinstance" p) [e,f] [] pos) XR=(do callWith pos (<-eval (.Name "isinstance" p) XR) [] (backTo pos (starEach [e,f] XR)) []):=by trivial)
  (hs:∀XR,backTo pos (starEach [e,f] XR)=[(false,eval e XR),(false,eval f XR)]:=by trivial):SE g hd sc XO (eval (.Call (.Name "isinstance" p) [e,f] [] pos)) (c1 (ro C) c):=by
 intro n bk ho A XR fr s ρ H Y0 V Y3 aA Q E hq;rw[hc XR,hs XR];refine aQ (nB G (b:=.builtin "isinstance") (by ac_rfl) hn hl (by ac_rfl) V ?_);refine callWith_of (P:=fun _=>True) rfl (fun h _=>⟨_,.inr (.inl rfl),Looks.of_pure rfl⟩) (evalArgs_plain (spliced_cons (he.bind ho V aA hq.px fun p H' v h' aU aV e st V' r=>?_)));refine spliced_cons (hf n bk ho V' (.val (.fn (.ref C)) H') rfl _ _ ?_);intro u h2 i9 pK eu L2 r2;have:u=.ref C:=r2;subst this;refine spliced_nil ⟨trivial,?_⟩;cases p with
 |str x=>
  cases e;obtain⟨k,t,rfl⟩:=r;have V2:=V'.to (aU:=i9) L2;exact isn_call (P:=fun _=>True) (V2.sG G) (fun M=>Looks.of_pure rfl) hC (by intro e;cases e) trivial str_cls (((hq.after (aU:=aU) st).after (aU:=i9) eu).ret L2 rfl _)
 |_=>cases e
end
section
variable{g:eC}{hd:Bool}{sc:Scope}{XO:List Str}{n:Nat}{A:Around}{XR:Env}{fr:List Env}{s:Shared}{ρ:List Addr}{H:MH}{Y0:Loc}{bk:g8}
noncomputable def BT.name:BT->String
 |.str=>"str"
 |.list=>"list"
 |.dict=>"dict"
theorem tS:∀b:BT,PlainAttrs b.name
 |.str=>PySem.F.plainAttrs_str
 |.list=>PySem.F.plainAttrs_list
 |.dict=>PySem.F.plainAttrs_dict
noncomputable def D3(g:eC)(hd:Bool)(sc:Scope)(XO:List Str)(id:String)(f:PL):Prop:=
 ∀{n A XR fr s ρ H Y0},At g hd sc XO n A XR fr s ρ H Y0->∀p qs Y3,f p qs H=some Y3->∀v,Rep s.heap ρ p v->∀ws,aX s.heap ρ qs ws->Wp g XO A XR fr s ρ Y0 Y3 (call (.builtin id) (v::ws))
theorem IQ(G:g.Ok)(V:At g hd sc XO n A XR fr s ρ H Y0)(r:Rep s.heap ρ p v)(hb:jD b p H=true):s.TypeIs v b.name/\∀a,v=.ref a->∃ob,s.heap.get? a=some ob/\ob.dict=none:=by
 cases b with
 |str=>cases p with
  |str x=>
   obtain⟨_,t,rfl⟩:=r;exact⟨typeIs_str _ _ _,fun a e=>nomatch e⟩
  |_=>cases hb
 |list=>cases p with
  |obj k=>
   have:∃xs,H[k]?=some (.list xs):=by
    cases h:H[k]? with
    |none=>unfold jD at hb;dsimp only at hb;rw[h]at hb;cases hb
    |some o=>
     unfold jD at hb;dsimp only at hb;rw[h]at hb;cases o with
     |list xs=>exact⟨xs,rfl⟩
     |_=>cases hb
   obtain⟨xs,hxs⟩:=this;obtain⟨a,vs,rfl,_,_,⟨m,e1⟩,_⟩:=sL V r hxs;exact⟨⟨_,e1,rfl⟩,fun b e=>by cases e;exact⟨_,e1,rfl⟩⟩
  |_=>cases hb
 |dict=>cases p with
  |obj k=>
   have:∃es,H[k]?=some (.dict es):=by
    cases h:H[k]? with
    |none=>unfold jD at hb;dsimp only at hb;rw[h]at hb;cases hb
    |some o=>
     unfold jD at hb;dsimp only at hb;rw[h]at hb;cases o with
     |dict xs=>exact⟨xs,rfl⟩
     |_=>cases hb
   obtain⟨es,hes⟩:=this;obtain⟨a,bD,_,_,hl,_⟩:=sN G V r hes;refine⟨hl.typeIs,fun b e=>?_⟩;cases e;obtain⟨ob,e1,e2,e3,e4,_⟩:=hl;exact⟨ob,e3,e4.2.1⟩
  |_=>cases hb
theorem Tv(G:g.Ok){b:BT}{id:String}{f:PL}{o:Expr}{XQ:Str}{XS:List Expr}{apos pos:Pos}{co:CE}{cs:CL}(hop:D3 g hd sc XO id f)(slot:Slot b.name XQ id)(hty:typeOf (.builtin id)=pure (.type "method_descriptor"))
  (hob:SE g hd sc XO (eval o) co) (ha:SL g hd sc XO (fun XR=>spliced (backTo pos (starEach XS XR))) cs)
  (xD:∀XR,attributeBase o XQ XR (eval o XR)=eval o XR:=by trivial)
  (VH:∀XR,((backTo pos (starEach XS XR)).all (fun x=>!x.1)&&(backToKw pos (keywordEach [] XR)).all (fun x=>x.1.isSome)
   &&decide (XS.length+([]:List Keyword).length+(if([]:List Keyword).isEmpty then 0 else 1)<30))=true:=by trivial)
  (sR:(apos.endLine==pos.line)=true:=by trivial)
  (hst:∀XR,oz (backTo pos (starEach XS XR)):=by trivial)
  (hpl:∀XR,(backTo pos (starEach XS XR)).any (·.1)=false:=by trivial):SE g hd sc XO (eval (.Call (.Attribute o XQ apos) XS [] pos)) (cM b f co cs):=by
 intro n bk ho A XR fr s ρ H Y0 V Y3 aA Q E hq;refine wpAny_Call_method (xD XR) (VH XR) sR (tS b) slot hty (hob.bind ho V aA hq.px fun p H' v h' aU aV e st V' r=>?_);refine bI e fun hb e=>?_
 have hT:=IQ G V' r hb;refine⟨hT.1,hT.2,?_⟩;refine callWith_of (P:=fun _=>True) (by rw[hpl XR];rfl) (fun h _=>⟨_,.inr (.inl rfl),Looks.of_pure rfl⟩) (AY ?_ (hst XR));refine ha.bind ho V' e (hq.after st).px fun p2 H2 v2 h2 i9 pK e2 eu V2 r2=>⟨trivial,?_⟩
 exact hop V2 p p2 Y3 e2 v (Rep.stays (V'.live.bq eu) r) v2 r2 Q E ((hq.after st).after eu)
theorem zM{Z:MV->List MV->Res MV->Prop}(z:∀k q xs,H[k]?=some (.list xs)->xs.length<sizeLine->Z (.obj k) [q] (.val .none (H.set k (.list (xs++[q]))))):∀p qs Y3,cg p qs H=some Y3->Z p qs Y3:=by
 intro p qs Y3 e;cases qs with
 |nil=>cases e
 |cons q r=>cases r with
  |nil=>cases p with
   |obj k=>refine ew e fun xs h e=>bI e fun hz e=>?_;cases e;exact z k q xs h hz
   |_=>cases e
  |cons _ _=>cases e
theorem uA:D3 g hd sc XO "list.append" cg:=by
 intro n A XR fr s ρ H Y0 V;refine zM fun k q xs hxs hz=>eR V hxs fun a vs hk _ hl l1=>hW fun u hu=>ip fun Q E hq=>?_
 have XY:=l1.length;refine wpAny_list_append_plain hl (fun h' hl' hs=>?_) (by rw[eE,XY];exact KY hz);obtain⟨m,e1⟩:=hl';obtain⟨st,L⟩:=V.live.set (o:=.list (xs++[q])) hxs rfl hk hs.extBut (by rw[e1];rfl) fun k2=>⟨by simp;lia,vs++[u],⟨m,by rw[e1];simp⟩,aX.append (aX.stays k2 l1) ⟨u,[],rfl,Rep.stays k2 hu,rfl⟩⟩
 exact hq .none h' s.toks ρ st.up L rfl
theorem aX.last(l:aX h ρ xs vs)(hx:xs.getLast?=some x):∃v,vs=vs.dropLast++[v]/\Rep h ρ x v/\aX h ρ xs.dropLast vs.dropLast:=by
 have XY:=l.length;have e:=List.getLast?_eq_getElem? (l:=xs);rw[hx]at e;obtain⟨v,hv,hr⟩:=l.get e.symm;have hne:vs≠ []:=by rintro rfl;simp at hv
 refine⟨v,?_,hr,?_⟩
 ·have h1:=List.dropLast_concat_getLast hne;have h2:vs.getLast hne=v:=by
   rw[List.getLast_eq_getElem];have:=(cm.mp hv).2
   simpa [XY]using this
  rw[h2]at h1;exact h1.symm
 ·rw[List.dropLast_eq_take,List.dropLast_eq_take,XY];exact aX.take _ l
theorem IS{Z:MV->List MV->Res MV->Prop}(z:∀k xs x,H[k]?=some (.list xs)->xs.getLast?=some x->Z (.obj k) [] (.val x (H.set k (.list xs.dropLast)))):∀p qs Y3,Bt p qs H=some Y3->Z p qs Y3:=by
 intro p qs Y3 e;cases p with
 |obj k=>cases qs with
  |nil=>refine ew e fun xs h e=>nz e fun x hx e=>?_;cases e;exact z k xs x h hx
  |cons _ _=>cases e
 |_=>cases e
theorem IT(vs:List Value)(u:Value):(vs++[u]).toArray[(vs++[u]).toArray.size-1]?=some u/\(vs++[u]).toArray.eraseIdxIfInBounds ((vs++[u]).toArray.size-1)=vs.toArray:=by
 have hsz:(vs++[u]).toArray.size-1=vs.length:=by rw[eE,bJ,List.length_singleton,Nat.add_sub_cancel]
 rw[hsz];have:=kl_erase vs [] u;rw[bp]at this;exact⟨by simp,this⟩
theorem PY:D3 g hd sc XO "list.pop" Bt:=by
 intro n A XR fr s ρ H Y0 V;refine IS fun k xs x hxs hx=>eR V hxs fun a vs hk hz hl l1=>ip fun Q E hq=>?_
 obtain⟨m,e1⟩:=hl;have XY:=l1.length;obtain⟨u,e2,hu,l2⟩:=l1.last hx
 (generalize vs.dropLast=ws at *;revert ws;refine gA ?_;intros)
 subst e2;obtain⟨hy,he⟩:=IT ws u;refine call_meets PySem.F.slot_list_pop ⟨_,e1,rfl⟩ PySem.F.entry_list_pop (PySem.F.args_list_pop_1 _) (PySem.MeetsSeq.list_pop_last a (ws++[u]).toArray m u hy (by rw[eE,XY];exact hz)) ⟨e1,?_⟩;have e3:(s.heap.update a (Obj.mapSeq fun xs=>xs.eraseIdxIfInBounds ((ws++[u]).toArray.size-1))).get? a=some { cls:=.type "list",data:=.seq ws.toArray (m+1) }:=by
  have q:=PySem.IsL.update e1 (fun xs=>xs.eraseIdxIfInBounds ((ws++[u]).toArray.size-1));rw[he,if_neg (by
   rw[eE,eE,bJ,List.length_singleton];simp only[eG];exact KZ)]at q
  exact q
 obtain⟨st,L⟩:=V.live.set (o:=.list xs.dropLast) hxs rfl hk (pO ..).extBut (by rw[e3];rfl) fun k2=>⟨by rw[List.length_dropLast];exact L8 hz,ws,⟨m+1,e3⟩,aX.stays k2 l2⟩
 exact hq u _ s.toks ρ st.up L (Rep.stays (Step.bq V.live.inv st) hu)
theorem IU{Z:MV->List MV->Res MV->Prop}(z:∀k x es,H[k]?=some (.dict es)->Z (.obj k) [.str x] (.val ((cG x es).getD .none) H)):∀p qs Y3,nX p qs H=some Y3->Z p qs Y3:=by
 intro p qs Y3 e;cases p with
 |obj k=>cases qs with
  |nil=>cases e
  |cons q r=>cases q with
   |str x=>cases r with
    |nil=>refine gN e fun es h e=>?_;cases e;exact z k x es h
    |cons _ _=>cases e
   |_=>cases e
 |_=>cases e
theorem vC(G:g.Ok):D3 g hd sc XO "dict.get" nX:=by
 intro n A XR fr s ρ H Y0 V;refine IU fun k x es hes=>mV G V hes fun a bD h1 h2 h3 h4=>hW (cQ fun _ t=>ip fun Q E hq=>?_)
 refine call_meetsIn rM h3.typeIs PySem.F.entry_dict_get (PySem.F.args_dict_get_2 _ _) (meets_dict_get (strKind g.prog g.w) a (strKind_is _ _ x t) (gZ.mpr h2)) ⟨valueAt bD,h3.mapOf,?_⟩;have:=h4.at x;refine hq.ret V.live ?_ _;cases hp:cG x es with
 |some p=>rw[hp]at this;obtain⟨u,h5,h6⟩:=this;rw[h5];exact h6
 |none=>rw[hp]at this;rw[show valueAt bD x=none from this];exact rfl
theorem FJ{Z:MV->List MV->Res MV->Prop}(z:∀k x es,H[k]?=some (.dict es)->(cG x es).isNone=true->Z (.obj k) [.str x,.none] (.val .none H)):∀p qs Y3,wu p qs H=some Y3->Z p qs Y3:=by
 intro p qs Y3 e;cases p with
 |obj k=>cases qs with
  |nil=>cases e
  |cons q r=>cases q with
   |str x=>cases r with
    |nil=>cases e
    |cons q r=>cases q with
     |none=>cases r with
      |nil=>refine gN e fun es h e=>bI e fun hx e=>?_;cases e;exact z k x es h hx
      |cons _ _=>cases e
     |_=>cases e
   |_=>cases e
 |_=>cases e
theorem IV(G:g.Ok):D3 g hd sc XO "dict.pop" wu:=by
 intro n A XR fr s ρ H Y0 V;refine FJ fun k x es hes hx=>mV G V hes fun a bD h1 h2 h3 h4=>hW (cQ fun _ t=>hW (Fu (ip fun Q E hq=>?_)))
 have:=h4.at x;rw[Option.isNone_iff_eq_none.mp hx]at this;exact call_meetsIn PySem.F.slot_dict_pop h3.typeIs PySem.F.entry_dict_pop (PySem.F.args_dict_pop_3 _ _ _) (meets_dict_pop_default (strKind g.prog g.w) a (strKind_is _ _ x t) (gZ.mpr h2) rfl .none) ⟨bD,h3,this,hq.ret V.live rfl _⟩
theorem Co{Z:MV->List MV->Res MV->Prop}(z:∀s:Str,s.cps.all (·<128)=true/\s.length<=1000000->Z (.str s) [] (.val (.str ⟨s.cps.map mC⟩) H)):∀p qs Y3,rT p qs H=some Y3->Z p qs Y3:=by
 intro p qs Y3 e;cases p with
 |str s=>cases qs with
  |nil=>refine bI e fun h e=>?_;cases e;exact z s h
  |cons _ _=>cases e
 |_=>cases e
theorem FK:D3 g hd sc XO "str.lower" rT:=by
 intro n A XR fr s ρ H Y0 V;refine Co fun x hx=>cQ fun k t=>ip fun Q E hq=>?_
 have hA:∀c∈x.cps.toList,c<128:=by
  have:=hx.1;rw[<-Array.all_toList,eF]at this;exact fun c hc=>by simpa using this c hc
 refine SCL.lower (by have:=hx.2;lia) fun hl=>?_
 rw[lower_ascii hA];have e:(⟨x.cps.map lo1⟩:Str)=⟨x.cps.map mC⟩:=rfl;rw[e];refine hq.ret V.live ⟨⟨?_,?_⟩,_,rfl⟩ _
 ·show(x.cps.map mC).size<=_;rw[Array.size_map];exact k.1
 ·rw[<-Array.all_toList,eF];intro c hc;simp only[Array.toList_map,eb]at hc;obtain⟨d,hd,rfl⟩:=hc;have:=hA d hd;unfold mC;rw[dh]
  split<;>lia
theorem xE{α:Type}{f:Str->Str->Option α}{Z:MV->List MV->α->Prop}(z:∀x y Y3,f x y=some Y3->Z (.str x) [.str y] Y3):∀p qs Y3,(match p,qs with
  |.str x,[.str y]=>f x y
  |_,_=>none)=some Y3->Z p qs Y3:=by
 intro p qs Y3 e;cases p with
 |str x=>cases qs with
  |nil=>cases e
  |cons q r=>cases q with
   |str y=>cases r with
    |nil=>exact z x y Y3 e
    |cons _ _=>cases e
   |_=>cases e
 |_=>cases e
theorem Cp:D3 g hd sc XO "str.startswith" oP:=by
 intro n A XR fr s ρ H Y0 V;refine xE fun x y Y3 e=>cQ fun k t=>hW (cQ fun _ t'=>ip fun Q E hq=>SC.startswith ?_)
 cases e;have e:Txt.startswith x y=y.cps.toList.isPrefixOf x.cps.toList:=by
  unfold Txt.startswith
  rw[StrLaws.subAt_eq,List.drop_zero,pV,List.isPrefixOf_iff_prefix,List.prefix_iff_eq_take];simp only[Nat.zero_add,bW,dh,eG];have e1:y.length=y.cps.toList.length:=by rw[pN];rfl
  have e2:x.length=x.cps.toList.length:=by rw[pN];rfl
  constructor
  ·rintro ⟨_,h⟩;rw[<-e1];exact h.symm
  ·intro h;rw[e1,e2];refine⟨?_,h.symm⟩;have:=aY List.length h;rw[List.length_take]at this;exact L9 this
 rw[e];exact hq.ret V.live rfl s.toks
theorem FL:D3 g false sc XO "str.index" uW:=by
 intro n A XR fr s ρ H Y0 V;refine xE fun x y Y3 e=>bI e fun hx e=>cQ fun k t=>hW (cQ fun _ t'=>ip fun Q E hq=>?_)
 obtain⟨h1,h2,h3,h4⟩:=hx;cases e;have ho:∀c,c<58->48<=c->Builtin.Str.occurrences (S "0123456789") ⟨#[c]⟩ 0 10 1=[c-48]:=by ac_rfl
 have ho':=ho (y.cps.getD 0 0) (by exact Nat.lt_succ_of_le h4) h3;rw[one_sign h2,h1];refine SC.index (i:=y.cps.getD 0 0-48) (rest:=[]) ho' ?_;have e:(((y.cps.getD 0 0-48:Nat)):Int)=((y.cps.getD 0 0:Nat):Int)-48:=by exact OA h3
 rw[e];exact hq.ret V.live ⟨_,rfl⟩ _
theorem pz{α:Type}{x:α}{o:Option (List Str)}{f:List Str->Option α}{Z:Prop}(e:(match o with
  |some l=>f l
  |none=>none)=some x) (z:∀l,o=some l->f l=some x->Z):Z:=by
 cases h:o with
 |none=>rw[h]at e;cases e
 |some y=>rw[h]at e;exact z y h e
theorem vD{h:Heap}{ρ:List Addr}:∀{xs:List MV}{vs:List Value}{l:List Str},strsOf xs=some l->aX h ρ xs vs->StrsAre vs l/\∀y∈l,oE y:=by
 intro xs
 induction xs with
 |nil=>intro _ _ e r;cases (show _=[] from r);cases e;exact⟨.nil,fun _ h=>nomatch h⟩
 |cons x xs ih=>
  intro _ _ e hh;obtain⟨v,vs,rfl,h1,h2⟩:=hh;cases x with
  |str y=>
   obtain⟨k,t,rfl⟩:=h1;refine pz e fun l q e=>?_
   cases e;obtain⟨p1,p2⟩:=ih q h2;exact⟨.cons y t p1,fun z hz=>by rcases bS.mp hz with rfl|hz;exact k;exact p2 z hz⟩
  |_=>cases e
theorem join_eq(sep:Str):∀l:List Str,Txt.join sep l=dg sep l:=by
 intro l;unfold Txt.join;rw[StrLaws.glued_eq_join]
 induction l with
 |nil=>rfl
 |cons x r ih=>
  cases r with
  |nil=>rfl
  |cons y r=>show x++sep++Str.join sep (y::r)=x++sep++dg sep (y::r);rw[ih]
theorem xF(hs:oE sep):∀l:List Str,(∀y∈l,oE y)->(dg sep l).cps.all (fun c=>decide (c<0x110000))=true
 |[],_=>by show Str.empty.cps.all (fun c=>decide (c<0x110000))=true;ac_rfl
 |[x],h=>(h x (.head _)).2
 |x::y::r,h=>by
  have:=xF hs (y::r) fun z hz=>h z (.tail _ hz)
  show(Array.all (x.cps++sep.cps++(dg sep (y::r)).cps) _)=true;rw[Array.all_append,Array.all_append,(h x (.head _)).2,hs.2,this];rfl
theorem uB:∀l:List Str,(dg sep l).length<=kf sep l
 |[]=>eW _
 |[x]=>by show x.length<=x.length+sep.length+kf sep [];exact La
 |x::y::r=>by
  have:=uB (sep:=sep) (y::r);show(x.cps++sep.cps++(dg sep (y::r)).cps).size<=x.length+sep.length+kf sep (y::r);rw[Array.size_append,Array.size_append];exact mm this _
theorem sS:∀l:List Str,(l.map (·.length)).sum<=kf sep l
 |[]=>ao _
 |x::r=>by
  have:=sS (sep:=sep) r;show x.length+(r.map (·.length)).sum<=x.length+sep.length+kf sep r;exact Lb this
theorem FN{H:MH}{Z:MV->List MV->Res MV->Prop}(z:∀sep k xs l,H[k]?=some (.list xs)->strsOf xs=some l->sep.length<=16/\kf sep l<=1000000/\l.length<=10000->Z (.str sep) [.obj k] (.val (.str (dg sep l)) H)):∀p qs Y3,lV p qs H=some Y3->Z p qs Y3:=by
 intro p qs Y3 e;cases p with
 |str sep=>cases qs with
  |nil=>cases e
  |cons q r=>cases q with
   |obj k=>cases r with
    |nil=>refine ew e fun xs h e=>pz e fun l hl e=>bI e fun hz e=>?_;cases e;exact z sep k xs l h hl hz
    |cons _ _=>cases e
   |_=>cases e
 |_=>cases e
theorem IW:D3 g hd sc XO "str.join" lV:=by
 intro n A XR fr s ρ H Y0 V;refine FN fun sep k xs l hxs hl hz=>cQ fun kk t=>hW (eR V hxs fun a vs _ _ h1 l1=>ip fun Q E hq=>?_)
 obtain⟨h2,h3⟩:=vD hl l1;refine join_listW h1.isList (by exact h2) hz.1 (by have:=sS (sep:=sep) l;exact Ld hz this) fun t' tk=>?_
 rw[join_eq];refine hq.ret V.live ⟨⟨?_,xF kk l h3⟩,_,rfl⟩ _;have:=uB (sep:=sep) l;have hs:sizeLine=16777216:=rfl;exact Le hz this hs
end
section
variable{g:eC}{hd:Bool}{sc:Scope}{XO:List Str}{n:Nat}{A:Around}{XR:Env}{fr:List Env}{s:Shared}{ρ:List Addr}{H:MH}{Y0:Loc}{bk:g8}
theorem IX{o1 o2:CmpOp}{f1 f2:P2}{a b c:Expr}{pos:Pos}{ca cb cc:CE}(ha:SE g hd sc XO (eval a) ca)(hb:SE g hd sc XO (eval b) cb)(hc:SE g hd sc XO (eval c) cc)
  (hf1:kP g hd sc XO (compareOp o1) f1) (hf2:kP g hd sc XO (compareOp o2) f2) (hm:lastMarks [o1,o2] [b,c]=false:=by trivial):
  ST g hd sc XO (fun XR=>isTrue (.Compare a [o1,o2] [b,c] pos) XR (eval (.Compare a [o1,o2] [b,c] pos) XR)) (tE (lW f1 f2 ca cb cc)):=by
 intro n bk ho A XR fr s ρ H Y0 V Y3 aA Q E hq;unfold tE lW at aA;rw[fA]at aA;refine isTrue_chain (ha.bind ho V aA hq.px fun p H' v h' aU aV e st V' r=>?_) hm;rw[fA]at e;refine test_link (hb.bind ho V' e (hq.after st).px fun p2 H2 v2 h2 i9 pK e2 eu V2 r2=>?_);rw[fA]at e2;refine hf1.bind V2 (Rep.stays (V'.live.bq eu) r) r2 e2 ((hq.after st).after eu).px fun p3 H3 v3 h3 nH tu e3 jx V3 r3=>?_
 have hq3:=((hq.after (aU:=aU) st).after (aU:=i9) eu).after (aU:=nH) jx;cases p3 with
 |bool b=>
  cases (show v3=.bool b from r3);refine wpAny_truthy_bool ?_;cases b with
  |true=>
   rw[if_pos rfl];refine test_last ?_;rw[fA]at e3;refine hc.bind ho V3 e3 hq3.px fun p4 H4 v4 h4 IY Wv e4 ur V4 r4=>?_
   refine hf2.bind V4 (Rep.stays (V3.live.bq ur) (Rep.stays (V2.live.bq jx) r2)) r4 e4 (hq3.after ur).px fun p5 H5 v5 h5 R6 Xy e5 B4 V5 r5=>?_
   exact pv V5 r5 e5 ((hq3.after ur).after B4)
  |false=>
   rw[if_neg jY];cases e3;exact hq3.ret V3.live rfl _
 |_=>cases e3
noncomputable def Tw:P1:=fun x H=>match x with
 |.bool b=>some (.val (.bool !b) H)
 |_=>none
theorem IZ{Z:MV->Res MV->Prop}(z:∀b,Z (.bool b) (.val (.bool !b) H)):∀p Y3,Tw p H=some Y3->Z p Y3:=by
 intro p Y3 e;cases p with
 |bool b=>cases e;exact z b
 |_=>cases e
theorem PZ:pJ g hd sc XO (unaryOp .Not) Tw:=by
 intro n A XR fr s ρ H Y0 V;exact IZ fun b=>sI fun Q E hq=>not_value (wpAny_truthy_bool (hq.ret V.live rfl s.toks))
theorem Q0(ha:SE g hd sc XO (eval a) ca):SE g hd sc XO (eval (.UnaryOp .Not a pos)) (Hv ca):=Kv ha PZ
noncomputable def FP(c:CE):Prop:=∀o L H Y3,c o L H=some Y3->∃p,Y3=.val p H
theorem FQ:FP (af v):=fun _ _ H Y3 e=>by cases e;exact⟨v,rfl⟩
theorem FR:FP (ae i):=fun _ L H Y3 e=>by
 exact rG e fun v _ e=>⟨v,e⟩
noncomputable def SJ(g:eC)(hd:Bool)(sc:Scope)(XO:List Str)(es:List Expr)(cs:CL):Prop:=
 ∀n bk,me g n bk->∀{A XR fr s ρ H Y0},At g hd sc XO n A XR fr s ρ H Y0->∀Y3,cs bk Y0 H=some Y3->∃xs,Y3=.val xs H/\∀l,strsOf xs=some l->∀(acc:Str) (Q:Str->Shared->Prop) E,
  oE acc->acc.length+wt l<=sizeLine->(∀h' aU,bL s.heap h'->oE (acc++my l)->Q (acc++my l) (ez s h' aU))->Joins g.M A E (evalEach es XR) acc Q s
theorem Str.append_empty(a:Str):a++my []=a:=by
 show Str.append a Str.empty=a;cases a;simp[Str.append,Str.empty]
theorem Str.append_assoc(a b:Str)(l:List Str):a++my (b::l)=a++b++my l:=by
 show(⟨a.cps++(b.cps++(my l).cps)⟩:Str)=⟨a.cps++b.cps++(my l).cps⟩;rw[Array.append_assoc]
theorem Q4:SJ g hd sc XO [] ai:=by
 intro n bk ho A XR fr s ρ H Y0 V Y3 aA;cases aA;refine⟨[],rfl,fun l hl acc Q E ha hz hq=>?_⟩;cases hl;have:=hq s.heap s.toks (.refl _);rw[Str.append_empty]at this;exact this ha
theorem B8(hp:FP c)
  (he:∀n bk,me g n bk->∀{A XR fr s ρ H Y0},At g hd sc XO n A XR fr s ρ H Y0->∀y,c bk Y0 H=some (.val (.str y) H)->y.length<=sizeLine->∀(Q:Value->Shared->Prop) E,(∀t tk h',bL s.heap h'->oE y->Q (.str y t) (ez s h' tk))->wpAny g.M A (eval e XR) Q E s)
  (hes:SJ g hd sc XO es cs):SJ g hd sc XO (e::es) (aa c cs):=by
 intro n bk ho A XR fr s ρ H Y0 V Y3 aA;unfold aa bindR at aA;cases h1:c bk Y0 H with
 |none=>rw[h1]at aA;cases aA
 |some r1=>
  obtain⟨p,rfl⟩:=hp _ _ _ _ h1;rw[h1]at aA;dsimp only at aA;cases h2:cs bk Y0 H with
  |none=>rw[h2]at aA;cases aA
  |some r2=>
   obtain⟨xs,rfl,_⟩:=hes n bk ho V r2 h2;rw[h2]at aA;cases aA;refine⟨p::xs,rfl,fun l hl acc Q E ha hz hq=>?_⟩;cases p with
   |str y=>
    refine pz hl fun l' q hl=>?_
    cases hl;have hz':acc.length+(y.length+wt l')<=sizeLine:=hz;refine he n bk ho V y h1 (by exact Lg hz') _ _ fun t tk h' k hy=>?_
    have ha':oE (acc++y):=ha.app hy (by exact Lh hz');refine⟨y,t,rfl,ha'.1,?_⟩;have V':=V.to (aU:=tk) (V.live.grow k);obtain⟨Vu,e1,h3⟩:=hes n bk ho V' _ h2;cases e1;refine h3 l' q (acc++y) Q E ha' (by rw[strLen_append];exact Li hz') fun h'' qu k' hk=>?_
    rw[<-Str.append_assoc]at hk ⊢;exact hq h'' qu (k.trans k') hk
   |_=>cases hl
theorem Q5{k pos}(hx:oE x:=by trivial):∀n bk,me g n bk->∀{A XR fr s ρ H Y0},At g hd sc XO n A XR fr s ρ H Y0->∀y,af (.str x) bk Y0 H=some (.val (.str y) H)->y.length<=sizeLine->∀(Q:Value->Shared->Prop) E,(∀t tk h',bL s.heap h'->oE y->Q (.str y t) (ez s h' tk))->
  wpAny g.M A (eval (.Constant (.str x) k pos) XR) Q E s:=by
 intro n bk ho A XR fr s ρ H Y0 V y e hz Q E hq;cases e;exact wpAny_mkText (hq _ _ _ (.refl _) hx)
theorem pA{i:Nat}{x:Str}{pos:Pos}(V:At g hd sc XO n A XR fr s ρ H Y0)(hi:XO[i]?=some x)(hx:(x==("__debug__":Str))=false/\(x==("__classdict__":Str))=false){p:MV}(hv:Y0[i]?=some (some p)){Q E:Value->Shared->Prop}
  (hq:∀u,Rep s.heap ρ p u->Q u s):wpAny g.M A (eval (.Name x pos) XR) Q E s:=wpAny_Name (zD V hi hx.2 hv hq) hx.1
theorem Q6{i:Nat}{x:Str}{pos Tz:Pos}(hi:XO[i]?=some x)(hx:(x==("__debug__":Str))=false/\(x==("__classdict__":Str))=false:=by trivial):∀n bk,me g n bk->∀{A XR fr s ρ H Y0},At g hd sc XO n A XR fr s ρ H Y0->∀y,ae i bk Y0 H=some (.val (.str y) H)->y.length<=sizeLine->∀(Q:Value->Shared->Prop) E,(∀t tk h',bL s.heap h'->oE y->Q (.str y t) (ez s h' tk))->
  wpAny g.M A (eval (.FormattedValue (.Name x pos) (-1) none Tz) XR) Q E s:=by
 intro n bk ho A XR fr s ρ H Y0 V y e hz Q E hq;refine rG e fun v hv e=>?_
 cases e;refine wpAny_FormattedValue_plain (pA V hi hx hv fun u hu=>?_);obtain⟨k,t,rfl⟩:=hu;exact formatField_str (fun t' tk=>hq t' tk s.heap (.refl _) k) k.1
theorem J0(hj:SJ g hd sc XO (v1::v2::r) cs):SE g hd sc XO (eval (.JoinedStr (v1::v2::r) pos)) (mz cs):=by
 intro n bk ho A XR fr s ρ H Y0 V Y3 aA Q E hq;unfold mz at aA;cases h1:cs bk Y0 H with
 |none=>rw[h1]at aA;cases aA
 |some r1=>
  rw[h1]at aA;obtain⟨xs,rfl,h2⟩:=hj n bk ho V r1 h1;refine pz aA fun l hl aA=>bI aA fun hz aA=>?_
  cases aA;refine wpAny_JoinedStr (h2 l hl Str.empty _ E (by ac_rfl) (by have:Str.empty.length=0:=rfl;exact Lj hz this) fun h' aU k hk=>?_);have e:Str.empty++my l=my l:=by
   show Str.append Str.empty (my l)=my l;simp[Str.append,Str.empty]
  rw[e]at hk ⊢;exact⟨hk.1,hq.grow V.live k ⟨hk,_,rfl⟩ _⟩
noncomputable def pairsOf(pos:Pos)(bD:List (Expr×Expr))(XR:Env):List (Sem Value×Sem Value):=bD.map fun p=>(eval p.1 XR,do let x<-eval p.2 XR;standAt pos;pure x)
noncomputable def KeysAre:List Str->List Value->Prop
 |[],vs=>vs=[]
 |x::xs,vs=>∃t r,vs=.str x t::r/\KeysAre xs r
noncomputable def Q7(ks:List Str)(h:Heap)(ρ:List Addr)(xs:List MV)(vs:List (Value×Value)):Prop:=KeysAre ks (vs.map (·.1))/\aX h ρ xs (vs.map (·.2))
noncomputable abbrev SD(g:eC)(hd:Bool)(sc:Scope)(XO:List Str)(pos:Pos)(bD:List (Expr×Expr))(ks:List Str)(cs:CL):Prop:=Ku g hd sc XO (Q7 ks) (fun XR=>evalPairs (pairsOf pos bD XR)) cs
theorem Q8:SD g hd sc XO pos [] [] ai:=by
 intro n bk ho A XR fr s ρ H Y0 V Y3 aA Q E hq;cases aA;exact bH (hq.ret V.live (v:=[]) ⟨(rfl:KeysAre [] []),(rfl:aX _ _ [] [])⟩ _)
theorem J3{k p1}(hv:SE g hd sc XO (eval v) c)(hr:SD g hd sc XO pos bD ks cs):
  SD g hd sc XO pos ((.Constant (.str x) k p1,v)::bD) (x::ks) (aa c cs):=by
 intro n bk ho A XR fr s ρ H Y0 V Y3 aA Q E hq;show wpAny _ _ (do
  let kv<-eval (.Constant (.str x) k p1) XR
  let vv<-holding [kv] (do let x<-eval v XR;standAt pos;pure x)
  return (kv,vv)::(<-holding [kv,vv] (evalPairs (pairsOf pos bD XR)))) Q E s
 refine aQ (wpAny_mkText (aQ (wpAny_holding (aQ ?_))));have V0:At g hd sc XO n A XR fr { s with toks:=s.toks+1 } ρ H Y0:=V.to (aU:=s.toks+1) V.live
 have hq0:mU g (Q7 (x::ks)) (ownOf XR) XR fr XO Y0 { s with toks:=s.toks+1 } ρ Y3 Q E:=hq.after (aU:=s.toks+1) .refl
 refine hv.bind ho V0 aA hq0.px fun p H' v h' aU aV e st V' r=>?_
 refine aQ (wpAny_standAt (bH (aQ (wpAny_holding ?_))));refine hr.bind ho V' e (hq0.after st).px fun p2 H2 v2 h2 i9 pK e2 eu V2 r2=>?_
 cases e2;exact bH (((hq0.after st).after eu).ret V2.live ⟨⟨_,_,rfl,r2.1⟩,v,_,rfl,Rep.stays (V'.live.bq eu) r,r2.2⟩ i9)
theorem zN:∀{ks:List Str}{xs:List MV}{vs:List (Value×Value)},Q7 ks h ρ xs vs->∃bD:List (Str×Value),Carries (strKind g.prog g.w) vs bD/\bD.map (·.1)=ks/\jv h ρ (ks.zip xs) bD/\xs.length=ks.length:=by
 intro ks
 induction ks with
 |nil=>
  intro xs vs r;cases vs with
  |nil=>
   cases xs with
   |nil=>exact⟨[],trivial,rfl,(rfl:([]:List (Str×Value))=[]),rfl⟩
   |cons x xs=>obtain⟨_,_,e,_⟩:=r.2;cases e
  |cons _ _=>cases r.1
 |cons k ks ih=>
  intro xs vs r;cases vs with
  |nil=>obtain⟨_,_,e,_⟩:=r.1;cases e
  |cons y vs=>
  cases xs with
  |nil=>cases r.2
  |cons x xs=>
  obtain⟨⟨t,r',e,hk⟩,⟨v,Xz,e',hv,hr⟩⟩:=r;obtain⟨a,b⟩:=y;simp only[cT,List.cons.injEq]at e e';obtain⟨rfl,rfl⟩:=e;obtain⟨rfl,rfl⟩:=e';obtain⟨bD,h1,h2,h3,h4⟩:=ih (vs:=vs) ⟨hk,hr⟩;exact⟨(k,b)::bD,⟨strKind_is _ _ _ _,rfl,h1⟩,by simp[h2],⟨(k,b),bD,rfl,rfl,hv,h3⟩,by simp[h4]⟩
theorem vE{bD:List (Str×Value)}(hn:(bD.map (·.1)).Nodup):PySem.merged [] bD=bD:=by
 have:∀(bD acc:List (Str×Value)),((acc++bD).map (·.1)).Nodup->PySem.merged acc bD=acc++bD:=by
  intro bD
  induction bD with
  |nil=>intro acc _;simp[PySem.merged]
  |cons kv r ih=>
   intro acc h;have e:stored acc kv.1 kv.2=acc++[kv]:=by
    unfold stored;rw[if_neg];intro hc;obtain⟨x,hx,e⟩:=pU.mp hc;rw[dh]at e;rw[fk,List.nodup_append]at h;exact h.2.2 x.1 (List.mem_map_of_mem hx) kv.1 (by simp) e
   show PySem.merged (stored acc kv.1 kv.2) r=_;rw[e,ih _ (by rw[bZ];exact h),bZ];rfl
 exact this bD [] hn
theorem Cq{α:Type}{x:α}{k:Nat}{a:Option α}{Z:Prop}(e:(match H[k]? with
  |some (.dict [])=>a
  |_=>none)=some x) (z:H[k]?=some (.dict [])->a=some x->Z):Z:=by
 cases h:H[k]? with
 |none=>rw[h]at e;cases e
 |some o=>
  rw[h]at e;cases o with
  |dict es=>cases es with
   |nil=>exact z h e
   |cons _ _=>cases e
  |_=>cases e
theorem J4(G:g.Ok){keys:List (Option Expr)}{values:List Expr}{bD:List (Expr×Expr)}{pos:Pos}{ks:List Str}{cs:CL}(hd':SD g hd sc XO pos bD ks cs)(hn:ks.Nodup)
  (Q9:∀XR,(evalEachOpt keys XR).zip ((evalEach values XR).map fun v=>do let x<-v;standAt pos;pure x)=(pairsOf pos bD XR).map fun p=>(some p.1,p.2):=by trivial)
  (h0:bD≠ []:=by simp) (XY:bD.length<=15:=by trivial):SE g hd sc XO (eval (.Dict keys values pos)) (ef ks cs):=by
 intro n bk ho A XR fr s ρ H Y0 V Y3 aA Q E hq;have k0:=bL.push s.heap { cls:=.type "dict",data:=.dict #[] };have L0:bY g XR fr XO (s.heap.push { cls:=.type "dict",data:=.dict #[] }) (ρ++[s.heap.objs.size]) (H++[.dict []]) Y0:=V.live.push k0 (ao _) ⟨[],Heap.DictOf.new _,rfl⟩;have TA:Step (ownOf XR) s.heap ρ (s.heap.push { cls:=.type "dict",data:=.dict #[] }) (ρ++[s.heap.objs.size]):=.push k0 (eV _);refine wpAny_Dict_pairs (knd:=strKind g.prog g.w) (Q9 XR) (by simpa [pairsOf]using h0) (by simpa [pairsOf]using XY) ?_;have V0:=V.to (aU:=s.toks) L0;have hq0:=hq.after (aU:=s.toks) TA;refine hd'.bind ho V0 aA hq0.px fun p H' v h' aU aV e st V' r=>?_
 obtain⟨kv,c1,c2,c3,c4⟩:=zN (g:=g) r;have Qa:aV[H.length]?=some s.heap.objs.size:=by
  obtain⟨q,rfl,_⟩:=st.pre;rw[<-V.live.inv.len,bZ,ib (ao _),k8];rfl
 refine Cq e fun he e=>bI e fun hpk e=>?_
 cases e;obtain⟨a,e1,Qb,e2,e3⟩:=V'.live.inv.objs H.length _ he;rw[Qa]at e1;cases e1;cases (show Qb=[] from e3);refine⟨kv,c1,e2,fun h2 hm hs=>?_⟩;rw[vE (by rw[c2];exact hn)]at hm;have hl:(h2.get? s.heap.objs.size).isSome=true:=by obtain⟨o,_,_,e,_⟩:=hm;rw[e];rfl
 obtain⟨eu,L2⟩:=V'.live.set (o:=.dict (ks.zip p)) he rfl Qa hs.extBut hl fun k2=>⟨kv,hm,jv.stays k2 c3⟩
 exact(hq0.after (aU:=aU) st) _ h2 _ aV eu.up L2 ⟨_,rfl,Qa⟩
theorem FT:SE g hd sc XO (eval (.Dict [] [] pos)) (ef [] ai):=by
 intro n bk ho A XR fr s ρ H Y0 V Y3 aA Q E hq;have e:ef [] ai bk Y0 H=some (.val (.obj H.length) (H++[.dict []])):=by
  simp[ef,ai,bindR]
 rw[e]at aA;cases aA;exact wpAny_Dict_empty (hq.made V.live (bL.push _ _) (ao _) ⟨[],Heap.DictOf.new _,rfl⟩ s.toks)
end
noncomputable def Qc(h:Heap)(e T:Addr):Prop:=∃oe vs,h.get? e=some oe/\oe.data=.fields vs/\vs[1]?=some (.ref T)
inductive uC(h h':Heap)(e:Addr):Prop
 |mk (oe:Obj) (vs cE:Array Value) (T:Addr) (oT:Obj) (ts:Array Value) (a1:h.get? e=some oe) (a2:oe.data=.fields vs) (a3:h'.get? e=some { oe with data:=.fields cE }) (a4:cE[1]?=some (.ref T)) (a5:T≠e) (a6:h.get? T=none\/vs[1]?=some (.ref T))
  (a7:h'.get? T=some oT) (a8:oT.cls=.type "traceback") (a9:oT.data=.fields ts) (mh:∃x,ts[3]?=some x):uC h h' e
structure Passed(fr:List Env)(e:Addr)(h h':Heap):Prop where
 exc:uC h h' e
 kept:∀b o,h.get? b=some o->b≠e->¬ Qc h e b->h'.get? b=some o\/((∃XR∈fr,XR.frame=some b)/\∃sl,h'.get? b=some { o with slots:=sl })
 alive:∀b,h'.get? b=none->h.get? b=none
theorem Passed.trans(x:Passed fr e h h1)(y:Passed fr e h1 h2):Passed fr e h h2:=by
 obtain⟨oe,vs,cE,T,oT,ts,a1,a2,a3,a4,a5,a6,a7,a8,a9,mh⟩:=x.exc;obtain⟨X8,ws,Wu,U,oU,us,b1,b2,b3,b4,b5,b6,b7,b8,b9,X9⟩:=y.exc;rw[a3]at b1;cases b1;cases b2;refine⟨⟨oe,vs,Wu,U,oU,us,a1,a2,b3,b4,b5,?_,b7,b8,b9,X9⟩,fun b o ho hb hT=>?_,fun b hb=>x.alive b (y.alive b hb)⟩
 ·rcases b6 with b6|b6
  ·exact .inl (x.alive _ b6)
  ·rw[a4]at b6;cases b6;exact a6
 ·have hn:¬ Qc h1 e b:=by
   rintro ⟨o1,w1,c1,c2,c3⟩;rw[a3]at c1;cases c1;cases c2;rw[a4]at c3;cases c3;rcases a6 with a6|a6
   ·rw[a6]at ho;cases ho
   ·exact hT ⟨oe,vs,a1,a2,a6⟩
  rcases x.kept b o ho hb hT with c|⟨c1,sl,c2⟩
  ·exact y.kept b o c hb hn
  ·rcases y.kept b _ c2 hb hn with d|⟨d1,Vy,d2⟩
   ·exact .inr ⟨c1,sl,d⟩
   ·exact .inr ⟨c1,Vy,d2⟩
theorem gO{o:Obj}{vs:Array Value}(hd:o.data=.fields vs)(f:Array Value->Array Value):o.mapFields f={ o with data:=.fields (f vs) }:=by
 obtain⟨c,d,dt,sl⟩:=o;dsimp only at hd;subst hd;rfl
theorem zO{l:List Env}{b:Addr}(h:b∈l.filterMap (·.frame)):∃e∈l,e.frame=some b:=by
 obtain⟨e,h1,h2⟩:=List.mem_filterMap.mp h;exact⟨e,h1,h2⟩
section
variable{M:Model}{A:Around}{E:Value->Shared->Prop}{s:Shared}{B:Heap}{XR:Env}{outer:List Env}{L e:Addr}{oe:Obj}{vs:Array Value}
theorem xG{head:Value}{J5:Bool}{Q:Unit->Shared->Prop}(hfr:A.frames=some (XR::outer))(hl:s.heap.FunFrames B (XR::outer))(hf:XR.frame=some L)(he:s.heap.get? e=some oe)(hd:oe.data=.fields vs)(hsz:1<vs.size)
  (h:∀h',(∃cE T oT ts,h'.get? e=some { oe with data:=.fields cE }/\cE[1]?=some (.ref T)/\T≠e/\s.heap.get? T=none/\h'.get? T=some oT/\oT.cls=.type "traceback"/\oT.data=.fields ts/\∃x,ts[3]?=some x)->
   (∀b o,s.heap.get? b=some o->b≠e->h'.get? b=some o\/((∃VI∈XR::outer,VI.frame=some b)/\∃sl,h'.get? b=some { o with slots:=sl }))->(∀b,h'.get? b=none->s.heap.get? b=none)->Q () { s with heap:=h' }):
  wpAny M A (do PySem.setField (.ref e) 1 (<-EntryCells.newEntry head (<-frameOf XR) .none (rawInt L) .none (<-entryPlaceOf L J5))) Q E s:=by
 have VJ:e∉(XR::outer).filterMap (·.frame):=fun hm=>by
  obtain⟨_,o,ho,hnf⟩:=hl.mem hm;rw[he]at ho;cases ho;exact hnf vs hd
 refine aQ (wpAny_frameOf_fun hfr hl hf fun h₁ hs₁=>?_);refine aQ (wpAny_entryPlaceOf fun pl hpl=>?_);unfold EntryCells.newEntry newFields;refine aQ (pS ?_ (hpl.sizeOk5 _ _ _ _ _));have he₁:h₁.get? e=some oe:=(hs₁.2.1 e VJ).trans he
 (generalize hts:([head,Value.ref L,Value.none,rawInt L,Value.none]++(if pl.isEmpty then List.replicate 6 Value.none else pl)).toArray=ts;revert ts;refine gA ?_;intros)
 have VK:ts[3]?=some (rawInt L):=by rw[<-hts];simp
 have he₂:=iv (h:=h₁) { cls:=.type "traceback",dict:=none,data:=.fields ts } he₁;refine wpAny_setField he₂ hd hsz (h _ ?_ ?_ ?_)
 ·have hlt:=kW he₁;have hu:=kS (Obj.mapFields (·.setIfInBounds 1 (Value.ref h₁.objs.size))) he₂ (by rw[gO hd];rfl);rw[gO hd]at hu;refine⟨_,h₁.objs.size,{ cls:=.type "traceback",dict:=none,data:=.fields ts },ts,hu,?_,dZ hlt,?_,?_,rfl,rfl,_,VK⟩
  ·simp[hsz]
  ·exact iw (by rw[hs₁.1];exact ao _)
  ·rw[kR _ _ (hG hlt)];exact fR _ rfl
 ·intro b o ho hb;by_cases hm:b∈(XR::outer).filterMap (·.frame)
  ·obtain⟨sl,hsl⟩:=hs₁.2.2 b o ho;refine .inr ⟨zO hm,sl,?_⟩;rw[kR _ _ (Ne.symm hb)];exact iv _ hsl
  ·refine .inl ?_;rw[kR _ _ (Ne.symm hb)];exact iv _ ((hs₁.2.1 b hm).trans ho)
 ·intro b hb;cases q:s.heap.get? b with
  |none=>rfl
  |some o=>
   obtain⟨sl,hsl⟩:=hs₁.2.2 b o q;by_cases hbe:b=e
   ·subst hbe;have hu:=kS (Obj.mapFields (·.setIfInBounds 1 (Value.ref h₁.objs.size))) he₂ (by rw[gO hd];rfl);rw[hu]at hb;cases hb
   ·rw[kR _ _ (Ne.symm hbe),iv _ hsl]at hb;cases hb
noncomputable def Qd(h:Heap)(e:Addr)(vs:Array Value):Prop:=vs[1]?=some .none\/∃T oT ts,vs[1]?=some (.ref T)/\T≠e/\h.get? T=some oT/\oT.cls=.type "traceback"/\oT.data=.fields ts/\∃x,ts[3]?=some x
theorem pB{fr:List Env}{h:Heap}{T:Addr}{oT:Obj}{ts:Array Value}{x x0:Value}(he:h.get? e=some oe)(hd:oe.data=.fields vs)(h1:vs[1]?=some (.ref T))(hT:T≠e)(ho:h.get? T=some oT)(hc:oT.cls=.type "traceback")(ht:oT.data=.fields ts)(h3:ts[3]?=some x0):
  Passed fr e h (h.update T (Obj.mapFields (·.setIfInBounds 3 x))):=by
 have hu:=kS (Obj.mapFields (·.setIfInBounds 3 x)) ho (by rw[gO ht];rfl);rw[gO ht]at hu;have hlt:=(u6.mp h3).1;refine⟨⟨oe,vs,vs,T,_,_,he,hd,?_,h1,hT,.inr h1,hu,hc,rfl,x,by simp[hlt]⟩,fun b o hb hbe hn=>.inl ?_,fun b hb=>?_⟩
 ·rw[kR _ _ hT,he];obtain⟨c,d,dt,sl⟩:=oe;dsimp only at hd;subst hd;rfl
 ·rw[kR _ _ (fun q=>hn (by subst q;exact⟨oe,vs,he,hd,h1⟩))];exact hb
 ·by_cases q:b=T
  ·subst q;rw[hu]at hb;cases hb
  ·rw[kR _ _ (Ne.symm q)]at hb;exact hb
theorem rI{Q:Unit->Shared->Prop}(hfr:A.frames=some (XR::outer))(hl:s.heap.FunFrames B (XR::outer))(hf:XR.frame=some L)(he:s.heap.get? e=some oe)(hd:oe.data=.fields vs)(htb:Qd s.heap e vs)
  (h:∀h',Passed (XR::outer) e s.heap h'->Q () { s with heap:=h' }):wpAny M A (noteFrame (.ref e) XR) Q E s:=by
 unfold noteFrame;simp only[hf];rcases htb with h1|⟨T,oT,ts,h1,hTe,hT,hc,ht,x,h3⟩
 ·refine aQ (wpAny_field he hd h1 ?_);rw[if_neg (by decide)];refine xG hfr hl hf he hd (u6.mp h1).1 fun h' hx hk ha=>h h' ⟨?_,fun b o hb hbe _=>hk b o hb hbe,ha⟩
  obtain⟨cE,T,oT,ts,c1,c2,c3,c4,c⟩:=hx;exact⟨oe,vs,cE,T,oT,ts,he,hd,c1,c2,c3,.inl c4,c.1,c.2.1,c.2.2.1,c.2.2.2⟩
 ·refine aQ (wpAny_field he hd h1 ?_);rw[if_pos (show(Value.ref T !=Value.none)=true by rfl)];refine aQ (wpAny_field hT ht h3 ?_);by_cases hx:(x==rawInt L)=true
  ·rw[if_pos hx];refine bH (h s.heap ⟨⟨oe,vs,vs,T,oT,ts,he,hd,?_,h1,hTe,.inr h1,hT,hc,ht,x,h3⟩,fun b o hb _ _=>.inl hb,fun b hb=>hb⟩);rw[he];obtain⟨c,d,dt,sl⟩:=oe;dsimp only at hd;subst hd;rfl
  ·rw[if_neg hx];have hlt:=(u6.mp h3).1;refine aQ (wpAny_setField hT ht hlt ?_);have P1:Passed (XR::outer) e s.heap _:=pB (x:=.none) he hd h1 hTe hT hc ht h3;have he1:(s.heap.update T (Obj.mapFields (·.setIfInBounds 3 Value.none))).get? e=some oe:=by rw[kR _ _ hTe];exact he
   have hl1:(s.heap.update T (Obj.mapFields (·.setIfInBounds 3 Value.none))).FunFrames B (XR::outer):=hl.of_keeps fun b o hb hn=>⟨o,by
    rw[kR _ _ (fun q=>by subst q;rw[hT]at hb;cases hb;exact hn ts ht)];exact hb,rfl⟩
   refine xG (s:={ s with heap:=s.heap.update T (Obj.mapFields (·.setIfInBounds 3 Value.none)) }) hfr hl1 hf he1 hd (u6.mp h1).1 fun h' hx hk ha=>h h' (P1.trans ⟨?_,fun b o hb hbe _=>hk b o hb hbe,ha⟩)
   obtain⟨cE,T',X',Xa,c1,c2,c3,c4,c⟩:=hx;exact⟨oe,vs,cE,T',X',Xa,he1,hd,c1,c2,c3,.inl c4,c.1,c.2.1,c.2.2.1,c.2.2.2⟩
theorem kM{Q:Unit->Shared->Prop}(he:s.heap.get? e=some oe)(hd:oe.data=.fields vs)(h1:vs[1]?=some (.ref T))(hTe:T≠e)(hT:s.heap.get? T=some oT)(hc:oT.cls=.type "traceback")(ht:oT.data=.fields ts)(h3:ts[3]?=some x0)
  (h:∀h',Passed fr e s.heap h'->Q () { s with heap:=h' }):wpAny M A (setFlight (.ref e) x) Q E s:=by
 unfold setFlight;refine aQ (wpAny_field he hd h1 ?_);rw[if_pos (show(Value.ref T !=Value.none)=true by rfl)];exact wpAny_setField hT ht (u6.mp h3).1 (h _ (pB he hd h1 hTe hT hc ht h3))
theorem zP{Q:Unit->Shared->Prop}(hfr:A.frames=some (XR::outer))(hl:s.heap.FunFrames B (XR::outer))(hf:XR.frame=some L)(he:s.heap.get? e=some oe)(hd:oe.data=.fields vs)(htb:Qd s.heap e vs)
  (h:∀h',Passed (XR::outer) e s.heap h'->Q () { s with heap:=h' }):wpAny M A (leaving XR (.ref e)) Q E s:=by
 unfold leaving;refine aQ (rI hfr hl hf he hd htb fun h1 P1=>?_);obtain⟨Ww,ws,cE,T,oT,ts,a1,a2,a3,a4,a5,a6,a7,a8,a9,⟨x,mh⟩⟩:=P1.exc;exact kM (fr:=XR::outer) a3 rfl a4 a5 a7 a8 a9 mh fun h2 P2=>h h2 (P1.trans P2)
end
section
variable{g:eC}{XO:List Str}{XR:Env}{fr:List Env}{h h' h₀:Heap}{ρ gP own:List Addr}{H:MH}{Y0:Loc}{k:Nat}{e:Addr}
theorem qt.tb(f:qt g h₀ h ρ H k e):∃oe vs,h.get? e=some oe/\oe.data=.fields vs/\Qd h e vs:=by
 obtain⟨_,_,_,oe,vs,h1,h2,h3⟩:=f;refine⟨oe,vs,h1,h2,?_⟩;rcases h3 with h3|⟨T,oT,ts,a1,a2,a3,a4,a5⟩
 ·exact .inl h3
 ·exact .inr ⟨T,oT,ts,a1,a2,a5⟩
theorem qt.zQ(f:qt g h₀ h ρ H k e)(x:Qc h e T):h₀.get? T=none/\g.B.get? T=none/\∃o,h.get? T=some o/\o.cls=.type "traceback"/\∃ts,o.data=.fields ts:=by
 obtain⟨_,_,_,oe,vs,h1,h2,h3⟩:=f;obtain⟨X8,cE,b1,b2,b3⟩:=x;rw[h1]at b1;cases b1;rw[h2]at b2;cases b2;rcases h3 with h3|⟨T',oT,ts,a1,a2,a3,a4,a5,a6,a7,_⟩
 ·rw[h3]at b3;cases b3
 ·rw[a1]at b3;cases b3;exact⟨a3,a4,oT,a5,a6,ts,a7⟩
theorem Passed.Qe(P:Passed fr e h h')(f:qt g h₀ h ρ H k e)(I:Inv g h ρ H)(al:∀b,h.get? b=none->h₀.get? b=none):qt g h₀ h' ρ H k e:=by
 obtain⟨oe,vs,cE,T,oT,ts,a1,a2,a3,a4,a5,a6,a7,a8,a9,mh⟩:=P.exc;refine⟨f.1,f.2.1,f.2.2.1,_,cE,a3,rfl,.inr ⟨T,oT,ts,a4,a5,?_,?_,a7,a8,a9,mh⟩⟩
 ·rcases a6 with a6|a6
  ·exact al _ a6
  ·exact(f.zQ ⟨oe,vs,a1,a2,a6⟩).1
 ·rcases a6 with a6|a6
  ·cases q:g.B.get? T with
   |none=>rfl
   |some o=>rw[I.stays _ _ q]at a6;cases a6
  ·exact(f.zQ ⟨oe,vs,a1,a2,a6⟩).2.1
theorem Passed.same(P:Passed fr e h h')(f:qt g h₀ h ρ H k e)(F:Frs g.B h ρ fr)(hb:h.get? b=some o)(hbe:b≠e)(hc:o.cls≠.type "traceback")(hf:b∈ρ\/∀es n,o.data≠.dict es n):h'.get? b=some o:=by
 rcases P.kept b o hb hbe (fun x=>by
  obtain⟨_,_,o',h1,h2,_⟩:=f.zQ x;rw[hb]at h1;cases h1;exact hc h2)with r|⟨⟨XR,he,hL⟩,_⟩
 ·exact r
 ·obtain⟨h0,o',es,n,h1,h2⟩:=F.2 XR he b hL;rw[hb]at h1;cases h1;rcases hf with hf|hf
  ·exact absurd hf h0
  ·exact absurd h2 (hf es n)
theorem Passed.bq(P:Passed fr e h h')(f:qt g h₀ h ρ H k e)(I:Inv g h ρ H)(F:Frs g.B h ρ fr):fc h ρ h' ρ:=by
 refine⟨fun _ _ x=>x,fun a o ho hc=>P.same f F ho (fun q=>?_) ?_ ?_⟩
 ·subst q;obtain⟨ob,h1,h2,h3,_⟩:=I.live (d8 f.1);rw[ho]at h1;cases h1;rcases hc with hc|⟨hc,_⟩
  ·exact h2 hc.1
  ·exact h3 hc
 ·rcases hc with ⟨hc,_⟩|⟨_,C,hc⟩
  ·rw[hc];decide
  ·rewrite (config:={}) [hc];intro q;cases q
 ·rcases hc with ⟨_,xs,n,hc⟩|⟨hc,_⟩
  ·exact .inr fun es n q=>by rw[hc]at q;cases q
  ·exact .inr fun es n q=>by rw[hc]at q;cases q
theorem Passed.inv(P:Passed fr e h h')(f:qt g h₀ h ρ H k e)(I:Inv g h ρ H)(F:Frs g.B h ρ fr):Inv g h' ρ H:=by
 have k2:=P.bq f I F;have Cr:=d8 f.1;refine⟨fun b o hb=>?_,I.len,I.nodup,I.new,fun i o hi=>?_⟩
 ·have hbe:b≠e:=fun q=>by subst q;exact absurd (kW hb) (Nat.not_lt.mpr (I.new _ Cr))
  rcases P.kept b o (I.stays b o hb) hbe (fun x=>by rw[(f.zQ x).2.1]at hb;cases hb)with r|⟨⟨XR,he,hL⟩,_⟩
  ·exact r
  ·obtain⟨h1,_⟩:=F.1.mem (List.mem_filterMap.mpr ⟨XR,he,hL⟩);rw[hb]at h1;cases h1
 ·obtain⟨a,h1,h2⟩:=I.objs i o hi;by_cases hae:a=e
  ·subst hae;have:i=k:=(pR (cm.mp h1).1 I.nodup).mp (h1.trans f.1.symm);subst this;obtain⟨fs,h3⟩:=f.2.1;rw[hi]at h3;cases h3;obtain⟨ob,d,vs,b1,b2,b3,b4,b5,b6⟩:=h2;obtain⟨oe,ws,cE,T,oT,ts,a1,a2,a3,a4⟩:=P.exc;rw[b1]at a1;cases a1;exact⟨_,f.1,_,d,cE,a3,b2,b3,rfl,(fun z=>by cases z),b6⟩
  ·refine⟨a,h1,h2.stays k2 (fun o ho=>?_)⟩;obtain⟨ob,q1,q2,q3,q4,q5,q6⟩:=h2.kind;rw[ho]at q1;cases q1;exact P.same f F ho hae q6 (.inl (d8 h1))
theorem Passed.mi(P:Passed fr e h h')(f:qt g h₀ h ρ H k e)(F:Frs g.B h ρ Wx)(hr:e∈ρ):Frs g.B h' ρ Wx:=by
 have key:∀b o,h.get? b=some o->(∃es n,o.data=.dict es n)->b∉ρ->∃o',h'.get? b=some o'/\o'.data=o.data/\o'.cls=o.cls:=fun b o ho hc hb=>by
  rcases P.kept b o ho (fun q=>by subst q;exact hb hr) (fun x=>by
   obtain⟨_,_,o',h1,_,ts,h2⟩:=f.zQ x;obtain⟨es,n,hc⟩:=hc;rw[ho]at h1;cases h1;rw[hc]at h2;cases h2)with r|⟨_,sl,r⟩
  ·exact⟨o,r,rfl,rfl⟩
  ·exact⟨_,r,rfl,rfl⟩
 refine⟨?_,fun XR he L hL=>?_⟩
 ·have:∀l:List Env,(∀e∈l,∀L,e.frame=some L->L∉ρ/\∃o es n,h.get? L=some o/\o.data=.dict es n)->h.FunFrames g.B l->h'.FunFrames g.B l:=by
   intro l
   induction l with
   |nil=>intro _ _;trivial
   |cons XR r ih=>
    rintro hm ⟨hk,⟨L,o,hf,hn,ho,hd⟩,hrr⟩;obtain⟨c1,o1,es,n,c2,c3⟩:=hm XR (.head _) L hf;rw[ho]at c2;cases c2;obtain⟨o',ho',hs,_⟩:=key L o ho ⟨es,n,c3⟩ c1;exact⟨hk,⟨L,o',hf,hn,ho',fun vs=>by rw[hs];exact hd vs⟩,ih (fun e he=>hm e (.tail _ he)) hrr⟩
  exact this Wx F.2 F.1
 ·obtain⟨h1,o,es,n,ho,hc⟩:=F.2 XR he L hL;obtain⟨o',ho',hs,_⟩:=key L o ho ⟨es,n,hc⟩ h1;exact⟨h1,o',es,n,ho',hs.trans hc⟩
theorem Passed.step(P:Passed fr e h h')(f:qt g h₀ h ρ H k e)(F:Frs g.B h ρ fr)(st:Step own h₀ gP h ρ):Step own h₀ gP h' ρ where
 pre:=st.pre
 kept:=fun b o ho h1 h2=>by
  obtain⟨o1,a1,a2⟩:=st.kept b o ho h1 h2;rcases P.kept b o1 a1 (fun q=>by subst q;rw[f.2.2.1]at ho;cases ho) (fun x=>by rw[(f.zQ x).1]at ho;cases ho)with r|⟨⟨XR,he,hL⟩,sl,r⟩
  ·exact⟨o1,r,a2⟩
  ·obtain⟨_,o2,es,n,b1,b2⟩:=F.2 XR he b hL;rw[a1]at b1;cases b1;exact⟨_,r,a2.trans (.inr ⟨⟨es,n,b2⟩,sl,rfl⟩)⟩
 alive:=fun b hb=>st.alive b (P.alive b hb)
 exc:=fun b o ho hc hd=>by
  have a1:=st.exc b o ho hc hd;refine P.same f F a1 (fun q=>by subst q;rw[f.2.2.1]at ho;cases ho) (by rewrite (config:={}) [hc];intro q;cases q) (.inr fun es n q=>by obtain⟨vs,hd⟩:=hd;rw[hd]at q;cases q)
theorem Passed.live(P:Passed fr e h h')(f:qt g h₀ h ρ H k e)(V:bY g XR fr XO h ρ H Y0):bY g XR fr XO h' ρ H Y0:=by
 have Cr:=d8 f.1;have I':=P.inv f V.inv V.mi;have k2:=P.bq f V.inv V.mi;have key:∀b o,h.get? b=some o->b∉ρ->(∀vs,o.data≠.fields vs)->∃o',h'.get? b=some o'/\o'.data=o.data/\o'.cls=o.cls:=fun b o ho hb hc=>by
  rcases P.kept b o ho (fun q=>by subst q;exact hb Cr) (fun x=>by
   obtain⟨_,_,o',h1,_,ts,h2⟩:=f.zQ x;rw[ho]at h1;cases h1;exact hc ts h2)with r|⟨_,sl,r⟩
  ·exact⟨o,r,rfl,rfl⟩
  ·exact⟨_,r,rfl,rfl⟩
 have Qf:∀a∈ownOf XR,∀o,h.get? a=some o->∀vs,o.data≠.fields vs:=fun a ha o ho vs q=>by
  obtain⟨o',h1,h2⟩:=V.jH a ha;rw[ho]at h1;cases h1;rcases h2 with ⟨es,n,h2⟩|⟨v,h2⟩<;>(rw[q]at h2;cases h2)
 obtain⟨m,F,hv⟩:=V.frame;have TB:∀{y c},XR.cells.lookup y=some c->c∈ownOf XR:=fun {y c} hy=>by
  exact .tail _ (lookup_mem hy)
 have qQ:∀y c v,XR.cells.lookup y=some c->h.IsCell c v->h'.IsCell c v:=fun y c v hy ⟨o,ho,hd⟩=>by
  obtain⟨o',ho',hs,_⟩:=key c o ho (V.cells y c hy).1 (Qf c (TB hy) o ho);exact⟨o',ho',hs.trans hd⟩
 refine⟨I',P.mi f V.mi Cr,⟨m,⟨vx F.ns fun o ho=>?_,I'.stays,F.above⟩,fun i y p h1 h2=>?_⟩,V.locs,V.apart,fun y c hy=>?_,fun a ha=>?_,V.tM⟩
 ·obtain⟨o',ho',hs,_⟩:=key XR.locals o ho V.locs (Qf _ (.head _) o ho);exact⟨o',ho',hs⟩
 ·obtain⟨v,hat,hr⟩:=hv i y p h1 h2;refine⟨v,?_,Rep.stays k2 hr⟩;rcases hat with hat|⟨c,e1,e2,e3⟩
  ·exact .inl hat
  ·exact .inr ⟨c,e1,e2,qQ y c _ e2 e3⟩
 ·obtain⟨h1,v,h2⟩:=V.cells y c hy;exact⟨h1,v,qQ y c v hy h2⟩
 ·obtain⟨o,ho,hk⟩:=V.jH a ha;have hn:a∉ρ:=by
   rcases bS.mp ha with rfl|ha'
   ·exact V.locs
   ·exact V.apart _ ha'
  obtain⟨o',ho',hs,hc⟩:=key a o ho hn (Qf a ha o ho);exact⟨o',ho',by rw[hs];exact hk⟩
end
theorem Cs(XQ:Str)(hsh:Int)(t:Tok)(v:Value)(x:Str):∀es:List DictEntry,(∀e∈es,∃n t,e.key=.str n t)->
  ((putL XQ hsh (.str XQ t) v es).find? fun e=>e.key.isStr x).map (·.val)=if x=XQ then some v else(es.find? fun e=>e.key.isStr x).map (·.val):=by
 intro es
 induction es with
 |nil=>
  intro _;unfold putL;by_cases q:x=XQ
  ·subst q;simp[List.find?,Value.isStr]
  ·have:(XQ==x)=false:=gZ.mpr (Ne.symm q);simp[List.find?,Value.isStr,this,q]
 |cons e r ih=>
  intro hk;replace ih:=ih fun e he=>hk e (.tail _ he)
  obtain⟨n,u,hn⟩:=hk e (.head _);unfold putL;by_cases q:n=XQ
  ·subst q;have c:e.key.isStr n=true:=by rw[hn];simp[Value.isStr]
   rw[if_pos c];by_cases z:x=n
   ·subst z;simp[List.find?,c]
   ·have c2:e.key.isStr x=false:=by rw[hn];simp[Value.isStr,Ne.symm z]
    simp[List.find?,c2,z]
  ·have c:e.key.isStr XQ=false:=by rw[hn];simp[Value.isStr,q]
   rw[c];simp only[pQ,if_false];by_cases z:e.key.isStr x=true
   ·have:x≠XQ:=fun y=>by subst y;rw[c]at z;cases z
    simp[List.find?,z,this]
   ·have z':e.key.isStr x=false:=by simpa using z
    simp only[List.find?_cons,z'];exact ih
theorem Ct(XQ:Str)(hsh:Int)(t:Tok)(v:Value):∀es:List DictEntry,(∀e∈es,∃n t,e.key=.str n t)->∀e∈putL XQ hsh (.str XQ t) v es,∃n t,e.key=.str n t:=by
 intro es
 induction es with
 |nil=>intro _ e he;cases c8.mp he;exact⟨XQ,t,rfl⟩
 |cons a r ih=>
  intro hk e he;unfold putL at he
  split at he
  ·rcases bS.mp he with rfl|he
   ·obtain⟨n,u,hn⟩:=hk a (.head _);exact⟨n,u,hn⟩
   ·exact hk e (.tail _ he)
  ·rcases bS.mp he with rfl|he
   ·exact hk _ (.head _)
   ·exact ih (fun e he=>hk e (.tail _ he)) e he
theorem Qg{m:Str->Option Value}{Q:Unit->Shared->Prop}{E:Value->Shared->Prop}(hn:s.heap.Ns a m)
  (h:∀h',h'.Ns a (fun x=>if x=XQ then some v else m x)->Heap.SameBut a s.heap h'->(∀o,s.heap.get? a=some o->∃o',h'.get? a=some o'/\o'.cls=o.cls/\∃es n,o'.data=.dict es n)->Q () (ez s h' (s.toks+1))):
  wpAny (model XZ w) A (nsSet a XQ v) Q E s:=by
 obtain⟨⟨c,d,dt,sl⟩,es,ep,ho,hd,hk,hm⟩:=hn;dsimp only at hd;subst hd;unfold nsSet;refine aQ (aQ (wpAny_askSetting (bH (aQ (wpAny_mkText (aQ (wpAny_loadPart ho ?_)))))));dsimp only;have cc:aRefKeyMayBeTheName XQ es=false:=by
  rw[aRefKeyMayBeTheName_at];have:es.any (·.refKey)=false:=by
   rw[Array.any_eq_false'];intro e he;obtain⟨n,t,h⟩:=hk e he;unfold DictEntry.refKey;rw[h];simp
  rw[this,Bool.and_false]
 rw[if_neg (by rw[cc];exact jY)];have e2:Obj.putName XQ (PyData.keyHash w.params XQ) (.str XQ s.toks) v ⟨c,d,.dict es ep,sl⟩=⟨c,d,.dict (putL XQ (PyData.keyHash w.params XQ) (.str XQ s.toks) v es.toList).toArray (putN XQ es.toList ep),sl⟩:=by
  obtain⟨l⟩:=es;simp only[Obj.putName_eq,Obj.putNameByArray];have hf:l.toArray.findIdx? (·.key.isStr XQ)=l.findIdx? (fun x=>x.key.isStr XQ):=by simp
  rw[hf,<-putL_find];unfold putN;cases hi:l.findIdx? (fun x=>x.key.isStr XQ)with
  |none=>
   have:l.any (·.key.isStr XQ)=false:=by simpa [List.findIdx?_eq_none_iff]using hi
   simp[this]
  |some i=>
   have:l.any (·.key.isStr XQ)=true:=by
    obtain⟨hlt,hp,_⟩:=List.findIdx?_eq_some_iff_getElem.1 hi;exact pU.2 ⟨l[i],List.getElem_mem hlt,hp⟩
   simp[this]
 have hu:=kS (Obj.putName XQ (PyData.keyHash w.params XQ) (.str XQ s.toks) v) ho (by rw[e2];rfl);rw[e2]at hu;have hk':∀e∈es.toList,∃n t,e.key=.str n t:=fun e he=>hk e (Array.mem_toList_iff.mp he)
 refine wpAny_updatePart ho (h _ ⟨_,_,_,hu,rfl,?_,fun x=>?_⟩ (pO ..) fun o e=>?_)
 ·intro e he;exact Ct _ _ _ _ _ hk' e (by simpa using he)
 ·have:=Cs XQ (PyData.keyHash w.params XQ) s.toks v x es.toList hk';show _=if x=XQ then some v else m x
  rw[<-hm x];show(Array.find? _ _).map _=if x=XQ then some v else(es.find? _).map _
  rw[<-Array.find?_toList,<-Array.find?_toList];exact this
 ·rw[ho]at e;cases e;exact⟨_,hu,rfl,_,_,rfl⟩
section
variable{g:eC}{hd:Bool}{sc:Scope}{XO:List Str}{n:Nat}{A:Around}{XR:Env}{fr:List Env}{s:Shared}{ρ:List Addr}{H:MH}{Y0:Loc}{bk:g8}{h h':Heap}
theorem Inv.own(I:Inv g h ρ H)(ha:a∉ρ)(he:Heap.ExtBut a h h')(hB:g.B.get? a=none)(hk:∀o,h.get? a=some o->(∀xs n,o.data≠.seq xs n)/\o.data≠.plain):fc h ρ h' ρ/\Inv g h' ρ H:=by
 have k2:fc h ρ h' ρ:=⟨fun _ _ e=>e,fun b ob e hh=>he b ob (fun q=>by
  subst q;obtain⟨h2,h3⟩:=hk _ e;rcases hh with ⟨_,xs,n,hh⟩|hh
  ·exact h2 xs n hh
  ·exact h3 hh.1) e⟩
 refine⟨k2,⟨fun b ob e=>he b ob (fun q=>by subst q;rw[hB]at e;cases e) (I.stays b ob e),I.len,I.nodup,I.new,fun i ob e=>?_⟩⟩;obtain⟨b,h1,h2⟩:=I.objs i ob e;exact⟨b,h1,h2.stays k2 fun o ho=>he b o (fun q=>by subst q;exact ha (d8 h1)) ho⟩
theorem Step.own{own:List Addr}{a:Addr}(ha:a∈own)(k:Heap.ExtBut a h h')(hl:(h'.get? a).isSome=true)(hc:∀o,h.get? a=some o->∀vs,o.data≠.fields vs):Step own h ρ h' ρ:=
 ⟨⟨[],by simp,fun _ h=>nomatch h⟩,fun b o e _ h2=>⟨o,k b o (fun q=>h2 (q▸ha)) e,.refl o⟩,fun b e=>(by
  by_cases q:b=a
  ·subst q;rw[e]at hl;cases hl
  ·cases z:h.get? b with
   |none=>rfl
   |some o=>rw[k b o q z]at e;cases e),fun b o e c ⟨vs,d⟩=>k b o (fun q=>by subst q;exact hc o e vs d) e⟩
theorem mW{o:Obj}(hk:(∃es n,o.data=.dict es n)\/∃v,o.data=.cell v):((∀xs n,o.data≠.seq xs n)/\o.data≠.plain)/\∀vs,o.data≠.fields vs:=by
 rcases hk with ⟨es,n,hk⟩|⟨v,hk⟩<;>(rw[hk];exact⟨⟨fun _ _ q=>(by cases q),fun q=>(by cases q)⟩,fun _ q=>(by cases q)⟩)
theorem Frs.own(F:Frs B h ρ fr)(k:Heap.ExtBut a h h')(hk:∀o,h.get? a=some o->(∃es n,o.data=.dict es n)->∃o',h'.get? a=some o'/\∃es n,o'.data=.dict es n):Frs B h' ρ fr:=by
 have key:∀b o,h.get? b=some o->(∃es n,o.data=.dict es n)->∃o',h'.get? b=some o'/\∃es n,o'.data=.dict es n:=fun b o ho hd=>by
  by_cases q:b=a
  ·subst q;exact hk o ho hd
  ·exact⟨o,k b o q ho,hd⟩
 have all:∀l:List Env,(∀e∈l,∀L,e.frame=some L->L∉ρ/\∃o es n,h.get? L=some o/\o.data=.dict es n)->h.FunFrames B l->h'.FunFrames B l/\∀e∈l,∀L,e.frame=some L->L∉ρ/\∃o es n,h'.get? L=some o/\o.data=.dict es n:=by
  intro l
  induction l with
  |nil=>intro _ _;exact⟨trivial,fun _ h=>nomatch h⟩
  |cons e r ih=>
   rintro hm ⟨hk',⟨L,o,hf,hn,ho,hd⟩,hr⟩;obtain⟨c1,o2,Xb,n2,c2,c3⟩:=hm e (.head _) L hf;rw[ho]at c2;cases c2;obtain⟨o',h1,es,n,h3⟩:=key L o ho ⟨Xb,n2,c3⟩;obtain⟨r1,r2⟩:=ih (fun e he=>hm e (.tail _ he)) hr;refine⟨⟨hk',⟨L,o',hf,hn,h1,fun vs q=>by rw[h3]at q;cases q⟩,r1⟩,fun e' he' L' hL'=>?_⟩
   rcases bS.mp he' with rfl|he'
   ·rw[hf]at hL';cases hL';exact⟨c1,o',es,n,h1,h3⟩
   ·exact r2 e' he' L' hL'
 obtain⟨r1,r2⟩:=all fr F.2 F.1;exact⟨r1,r2⟩
theorem Ns.j9{m:Str->Option Value}(x:h.Ns a m)(y:h.IsCell c v):c≠a:=by
 rintro rfl;obtain⟨o,es,ep,ho,hd,_⟩:=x;obtain⟨o',ho',hd'⟩:=y;rw[ho]at ho';cases ho';rw[hd]at hd';cases hd'
theorem getElem?_set'{α:Type}{l:List α}{i j:Nat}{x y:α}(h:(l.set i x)[j]?=some y):(j=i/\y=x)\/(j≠i/\l[j]?=some y):=by
 by_cases q:j=i
 ·subst q;by_cases z:j<l.length
  ·rw[fQ z]at h;cases h;exact .inl ⟨rfl,rfl⟩
  ·rw[jV (by rw[List.length_set];exact R9 z)]at h;cases h
 ·rw[bB (Ne.symm q)]at h;exact .inr ⟨q,h⟩
noncomputable def jz(sc:Scope)(x:Str):Prop:=sc.names.lookup x=some .local\/sc.names.lookup x=some .cell
theorem gQ(V:At g hd sc XO n A XR fr s ρ H Y0){i:Nat}{x:Str}{q:MV}{u:Value}(hi:XO[i]?=some x)(XX:XO.Nodup)(hk:jz sc x)(hu:Rep s.heap ρ q u){Q:Unit->Shared->Prop}{E:Value->Shared->Prop}
  (hq:∀h' aU,Step (ownOf XR) s.heap ρ h' ρ->bY g XR fr XO h' ρ H (Y0.set i (some q))->Q () (ez s h' aU)):wpAny g.M A (storeName XR x u) Q E s:=by
 obtain⟨m,F,hv⟩:=V.live.frame;have L:=V.live;have uniq:∀{j:Nat}{y:Str},XO[j]?=some y->j≠i->y≠x:=fun {j y} hj hji q=>by
  subst q;exact hji ((pR (cm.mp hj).1 XX).mp (hj.trans hi.symm))
 rcases hk with hk|hk
 ·have hkl:XR.kindOf x=some .local:=(V.kindOf x).trans hk;rw[storeName_local hkl (by rw[V.d6.scope];have:=V.d6.kind;rw[this];rfl)];refine Qg F.ns fun h' hn hs hc=>?_
  obtain⟨ol,hol,Qh⟩:=L.jH XR.locals (.head _);obtain⟨h2,h3⟩:=mW Qh;have xx:∃es n,ol.data=.dict es n:=by obtain⟨o,es,ep,ho,hd,_⟩:=F.ns;rw[hol]at ho;cases ho;exact⟨es,ep,hd⟩
  have hB:g.B.get? XR.locals=none:=iw F.above;obtain⟨k2,I'⟩:=L.inv.own L.locs hs.extBut hB fun o ho=>by
   rw[hol]at ho;cases ho;exact h2
  obtain⟨o',ho',hc',tv,n',hd'⟩:=hc ol hol;have st:Step (ownOf XR) s.heap ρ h' ρ:=Step.own (.head _) hs.extBut (by rw[ho'];rfl) fun o ho=>by rw[hol]at ho;cases ho;exact h3
  refine hq h' _ st ⟨I',L.mi.own hs.extBut fun o ho=>?_,⟨_,⟨hn,I'.stays,F.above⟩,fun j y p hj hp=>?_⟩,L.locs,L.apart,fun y c hy=>?_,fun a ha=>?_,L.tM⟩
  ·rw[hol]at ho;cases ho;exact fun _=>⟨o',ho',tv,n',hd'⟩
  ·rcases getElem?_set' hp with ⟨rfl,e⟩|⟨hji,hp⟩
   ·cases e;rw[hi]at hj;cases hj;exact⟨u,.inl ⟨hkl,if_pos rfl⟩,Rep.stays k2 hu⟩
   ·obtain⟨v,hat,hr⟩:=hv j y p hj hp;refine⟨v,?_,Rep.stays k2 hr⟩;rcases hat with ⟨c1,c2⟩|⟨c,c1,c2,c3⟩
    ·exact .inl ⟨c1,(if_neg (uniq hj hji)).trans c2⟩
    ·refine .inr ⟨c,c1,c2,?_⟩;obtain⟨oc,hoc,hdc⟩:=c3;exact⟨oc,hs.extBut c oc (Ns.j9 F.ns ⟨oc,hoc,hdc⟩) hoc,hdc⟩
  ·obtain⟨c1,v,oc,hoc,hdc⟩:=L.cells y c hy;exact⟨c1,v,oc,hs.extBut c oc (Ns.j9 F.ns ⟨oc,hoc,hdc⟩) hoc,hdc⟩
  ·by_cases z:a=XR.locals
   ·subst z;exact⟨o',ho',.inl ⟨tv,n',hd'⟩⟩
   ·obtain⟨o,ho,hk⟩:=L.jH a ha;exact⟨o,hs.extBut a o z ho,hk⟩
 ·have hkc:XR.kindOf x=some .cell:=(V.kindOf x).trans hk;obtain⟨c,hc⟩:=V.d6.cells x hk;obtain⟨hcρ,v0,oc,hoc,hdc⟩:=L.cells x c hc;have hcn:c≠XR.locals:=Ns.j9 F.ns ⟨oc,hoc,hdc⟩;unfold storeName;rw[hkc,V.kind];dsimp only;refine aQ (wpAny_cellOf hc ?_);unfold cellSet;refine aQ (wpAny_load hoc ?_);rw[hdc];have hu2:=kS (fun o:Obj=>{ o with data:=.cell (some u) }) hoc rfl;have hs:Heap.SameBut c s.heap (s.heap.update c fun o=>{ o with data:=.cell (some u) }):=pO ..;refine wpAny_update hoc ?_;have hcm:c∈XR.cells.map (·.2):=by
   exact lookup_mem hc
  have hco:c∈ownOf XR:=.tail _ hcm;have hB:g.B.get? c=none:=L.tM c hcm;obtain⟨o1,ho1,hkk⟩:=L.jH c hco;rw[hoc]at ho1;cases ho1;obtain⟨h2,h3⟩:=mW hkk;obtain⟨k2,I'⟩:=L.inv.own hcρ hs.extBut hB fun o ho=>by
   rw[hoc]at ho;cases ho;exact h2
  have st:Step (ownOf XR) s.heap ρ _ ρ:=Step.own hco hs.extBut (by rw[hu2];rfl) fun o ho=>by rw[hoc]at ho;cases ho;exact h3
  have hns:(s.heap.update c fun o=>{ o with data:=.cell (some u) }).Ns XR.locals m:=F.ns.sameBut hs hcn.symm;refine hq _ s.toks st ⟨I',L.mi.own hs.extBut fun o ho=>?_,⟨m,⟨hns,I'.stays,F.above⟩,fun j y p hj hp=>?_⟩,L.locs,L.apart,fun y c' hy=>?_,fun a ha=>?_,L.tM⟩
  ·rw[hoc]at ho;cases ho;exact fun ⟨es,n,q⟩=>by rw[hdc]at q;cases q
  ·rcases getElem?_set' hp with ⟨rfl,e⟩|⟨hji,hp⟩
   ·cases e;rw[hi]at hj;cases hj;exact⟨u,.inr ⟨c,.inl hkc,hc,_,hu2,rfl⟩,Rep.stays k2 hu⟩
   ·obtain⟨v,hat,hr⟩:=hv j y p hj hp;refine⟨v,?_,Rep.stays k2 hr⟩;rcases hat with ⟨c1,c2⟩|⟨c',c1,c2,c3⟩
    ·exact .inl ⟨c1,c2⟩
    ·refine .inr ⟨c',c1,c2,?_⟩;obtain⟨TC,Qi,Qj⟩:=c3;exact⟨TC,hs.extBut c' TC (fun z=>by subst z;exact uniq hj hji (V.d6.inj _ _ _ c2 hc)) Qi,Qj⟩
  ·obtain⟨c1,v,TC,Qi,Qj⟩:=L.cells y c' hy;refine⟨c1,?_⟩;by_cases z:c'=c
   ·subst z;exact⟨_,_,hu2,rfl⟩
   ·exact⟨v,TC,hs.extBut c' TC z Qi,Qj⟩
  ·by_cases z:a=c
   ·subst z;exact⟨_,hu2,.inr ⟨_,rfl⟩⟩
   ·obtain⟨o,ho,hk⟩:=L.jH a ha;exact⟨o,hs.extBut a o z ho,hk⟩
end
section
variable{g:eC}{hd:Bool}{sc:Scope}{XO:List Str}{n:Nat}{A:Around}{XR:Env}{fr:List Env}{s:Shared}{ρ:List Addr}{H:MH}{Y0:Loc}{bk:g8}{h h':Heap}
noncomputable def sU(g:eC)(own:List Addr)(XR:Env)(fr:List Env)(XO:List Str)(s:Shared)(ρ:List Addr)(Y3:RS)(Q:Flow->Shared->Prop)(E:Value->Shared->Prop):Prop:=
 match Y3 with
 |.next L H'=>∀h' aU aV,Step own s.heap ρ h' aV->bY g XR fr XO h' aV H' L->Q .next (ez s h' aU)
 |.cont L H'=>∀h' aU aV,Step own s.heap ρ h' aV->bY g XR fr XO h' aV H' L->Q .cont (ez s h' aU)
 |.ret p L H'=>∀v h' aU aV,Step own s.heap ρ h' aV->bY g XR fr XO h' aV H' L->Rep h' aV p v->Q (.ret v) (ez s h' aU)
 |.exc k L H'=>∀e h' aU aV,Step own s.heap ρ h' aV->bY g XR fr XO h' aV H' L->qt g s.heap h' aV H' k e->E (.ref e) (ez s h' aU)
noncomputable def Qk(g:eC)(own:List Addr)(XR:Env)(fr:List Env)(XO:List Str)(s:Shared)(ρ:List Addr)(Y3:RS)(E:Value->Shared->Prop):Prop:=
 match Y3 with
 |.exc k L H'=>∀e h' aU aV,Step own s.heap ρ h' aV->bY g XR fr XO h' aV H' L->qt g s.heap h' aV H' k e->E (.ref e) (ez s h' aU)
 |_=>True
theorem sU.px{Q:Flow->Shared->Prop}{E:Value->Shared->Prop}(x:sU g own XR fr XO s ρ Y3 Q E):Qk g own XR fr XO s ρ Y3 E:=by
 cases Y3 with
 |exc k L H'=>exact x
 |next _ _=>trivial
 |cont _ _=>trivial
 |ret _ _ _=>trivial
theorem sU.after{Q:Flow->Shared->Prop}{E:Value->Shared->Prop}(x:sU g own XR fr XO s ρ Y3 Q E)(st:Step own s.heap ρ h' aV):
  sU g own XR fr XO (ez s h' aU) aV Y3 Q E:=by
 cases Y3 with
 |next L H'=>exact fun h'' qu pq r8 V=>x h'' qu pq (st.trans r8) V
 |cont L H'=>exact fun h'' qu pq r8 V=>x h'' qu pq (st.trans r8) V
 |ret p L H'=>exact fun v h'' qu pq r8 V r=>x v h'' qu pq (st.trans r8) V r
 |exc k L H'=>exact fun e h'' qu pq r8 V r=>x e h'' qu pq (st.trans r8) V (r.old st.alive)
noncomputable def SS(g:eC)(hd:Bool)(sc:Scope)(XO:List Str)(t:Env->Sem Flow)(c:CS):Prop:=
 ∀n bk,me g n bk->∀{A XR fr s ρ H Y0},At g hd sc XO n A XR fr s ρ H Y0->∀Y3,c bk Y0 H=some Y3->∀Q E,sU g (ownOf XR) XR fr XO s ρ Y3 Q E->wpAny g.M A (t XR) Q E s
theorem At.wg(V:At g hd sc XO n A XR fr s ρ H Y0)(L:bY g XR fr XO h' aV H' J6):At g hd sc XO n A XR fr (ez s h' aU) aV H' J6:=
 ⟨V.act,V.d6,L⟩
theorem Ku.aW{α β:Type}{R:Heap->List Addr->α->β->Prop}{t:Env->Sem β}{c:g8->Loc->MH->Option (Res α)}(ha:Ku g hd sc XO R t c)(ho:me g n bk)(V:At g hd sc XO n A XR fr s ρ H Y0)
  {k:α->MH->Option RS}(aA:Mine.Internal.aW (c bk Y0 H) Y0 k=some Y3) {Q:β->Shared->Prop}{E:Value->Shared->Prop}(hx:Qk g (ownOf XR) XR fr XO s ρ Y3 E)
  (hv:∀p H' v h' aU aV,k p H'=some Y3->Step (ownOf XR) s.heap ρ h' aV->At g hd sc XO n A XR fr (ez s h' aU) aV H' Y0->R h' aV p v->Q v (ez s h' aU)):
  wpAny g.M A (t XR) Q E s:=by
 cases h1:c bk Y0 H with
 |none=>rw[h1]at aA;cases aA
 |some r=>
  rw[h1]at aA;refine ha n bk ho V r h1 Q E ?_;cases r with
  |val p H'=>exact fun v h' aU aV st L r=>hv p H' v h' aU aV aA st (V.to L) r
  |exc k' H'=>
   have e:Y3=.exc k' Y0 H':=(dQ aA).symm;subst e;exact hx
theorem kP.aW{u:Value->Value->Sem Value}(hf:kP g hd sc XO u f)(V:At g hd sc XO n A XR fr s ρ H Y0)(r:Rep s.heap ρ p v)(r2:Rep s.heap ρ q w){k:MV->MH->Option RS}
  (aA:Mine.Internal.aW (f p q H) Y0 k=some Y3) {Q:Value->Shared->Prop}{E:Value->Shared->Prop}(hx:Qk g (ownOf XR) XR fr XO s ρ Y3 E)
  (hv:∀p H' v h' aU aV,k p H'=some Y3->Step (ownOf XR) s.heap ρ h' aV->At g hd sc XO n A XR fr (ez s h' aU) aV H' Y0->Rep h' aV p v->Q v (ez s h' aU)):
  wpAny g.M A (u v w) Q E s:=by
 cases h1:f p q H with
 |none=>rw[h1]at aA;cases aA
 |some r1=>
  rw[h1]at aA;refine hf V p q r1 h1 v r w r2 Q E ?_;cases r1 with
  |val p H'=>exact fun v h' aU aV st L r=>hv p H' v h' aU aV aA st (V.to L) r
  |exc k' H'=>
   have e:Y3=.exc k' Y0 H':=(dQ aA).symm;subst e;exact hx
theorem pJ.aW{u:Value->Sem Value}(hf:pJ g hd sc XO u f)(V:At g hd sc XO n A XR fr s ρ H Y0)(r:Rep s.heap ρ p v){k:MV->MH->Option RS}
  (aA:Mine.Internal.aW (f p H) Y0 k=some Y3) {Q:Value->Shared->Prop}{E:Value->Shared->Prop}(hx:Qk g (ownOf XR) XR fr XO s ρ Y3 E)
  (hv:∀p H' v h' aU aV,k p H'=some Y3->Step (ownOf XR) s.heap ρ h' aV->At g hd sc XO n A XR fr (ez s h' aU) aV H' Y0->Rep h' aV p v->Q v (ez s h' aU)):
  wpAny g.M A (u v) Q E s:=by
 cases h1:f p H with
 |none=>rw[h1]at aA;cases aA
 |some r1=>
  rw[h1]at aA;refine hf V p r1 h1 v r Q E ?_;cases r1 with
  |val p H'=>exact fun v h' aU aV st L r=>hv p H' v h' aU aV aA st (V.to L) r
  |exc k' H'=>
   have e:Y3=.exc k' Y0 H':=(dQ aA).symm;subst e;exact hx
theorem FU{t:Env->Sem Flow}:SS g hd sc XO t da:=fun _ _ _ _ _ _ _ _ _ _ _ _ e=>by cases e
theorem Ql:SS g hd sc XO (execs []) aq:=by
 intro n bk ho A XR fr s ρ H Y0 V Y3 aA Q E hq;cases aA;exact wpAny_execs_nil (hq s.heap s.toks ρ .refl V.live)
theorem J7{st:Stmt}{rest:List Stmt}{a b:CS}(ha:SS g hd sc XO (exec st) a)(hb:SS g hd sc XO (execs rest) b):SS g hd sc XO (execs (st::rest)) (ag a b):=by
 intro n bk ho A XR fr s ρ H Y0 V Y3 aA Q E hq;refine wpAny_execs_cons ?_;unfold ag at aA;cases h1:a bk Y0 H with
 |none=>rw[h1]at aA;cases aA
 |some r=>
  rw[h1]at aA;refine ha n bk ho V r h1 _ _ ?_;cases r with
  |next L H'=>exact fun h' aU aV r8 L'=>hb n bk ho (V.wg L') Y3 aA Q E (hq.after r8)
  |cont L H'=>cases aA;exact hq
  |ret p L H'=>cases aA;exact hq
  |exc k L H'=>cases aA;exact hq
theorem J8(he:SE g hd sc XO (eval e) c)(hs:∀XR,swapsWith e none pos.line XR=pure false:=by trivial):
  SS g hd sc XO (exec (.Expr e pos)) (bT c):=by
 intro n bk ho A XR fr s ρ H Y0 V Y3 aA Q E hq;refine wpAny_Expr_any (he.aW ho V aA hq.px fun p H' v h' aU aV e st V' r=>?_) (by unfold interactive;rw[V.kind];rfl) (hs XR);cases e;exact hq h' aU aV st V'.live
theorem Qm(hi:XO[i]?=some x)(hk:jz sc x)(he:SE g hd sc XO (eval e) c)(XX:XO.Nodup)
  (hs:∀XR,swapsWith e (some (.Name x xp)) pos.line XR=pure false:=by trivial):SS g hd sc XO (exec (.Assign [.Name x xp] e pos)) (aO i c):=by
 intro n bk ho A XR fr s ρ H Y0 V Y3 aA Q E hq;refine wpAny_Assign_Name (he.aW ho V aA hq.px fun p H' v h' aU aV e st V' r=>?_) (hs XR);cases e;exact gQ V' hi XX hk r fun h2 i9 eu L2=>hq h2 i9 aV (st.trans eu) L2
theorem TF(ht:ST g hd sc XO (fun XR=>isTrue t XR (eval t XR)) ct)(ha:SS g hd sc XO (execs body) a)(hb:SS g hd sc XO (execs orelse) b):
  SS g hd sc XO (exec (.If t body orelse pos)) (bN ct a b):=by
 intro n bk ho A XR fr s ρ H Y0 V Y3 aA Q E hq;refine wpAny_If (ht.aW ho V aA hq.px fun p H' v h' aU aV e st V' r=>?_);obtain rfl:v=p:=r;cases v with
 |true=>exact ha n bk ho V' Y3 e Q E (hq.after st)
 |false=>exact hb n bk ho V' Y3 e Q E (hq.after st)
theorem Qo(he:SE g hd sc XO (eval e) c):SS g hd sc XO (exec (.Return (some e) pos)) (aK c):=by
 intro n bk ho A XR fr s ρ H Y0 V Y3 aA Q E hq;refine wpAny_Return_some (he.aW ho V aA hq.px fun p H' v h' aU aV e st V' r=>?_);cases e;exact hq v h' aU aV st V'.live r
theorem J9:SS g hd sc XO (exec (.Return none pos)) DQ:=by
 intro n bk ho A XR fr s ρ H Y0 V Y3 aA Q E hq;cases aA;exact wpAny_Return_none (hq .none s.heap s.toks ρ .refl V.live rfl)
theorem J':SS g hd sc XO (exec (.Continue pos)) wx:=by
 intro n bk ho A XR fr s ρ H Y0 V Y3 aA Q E hq;cases aA;exact wpAny_Continue (hq s.heap s.toks ρ .refl V.live)
theorem Ja:kP g hd sc XO (inplaceOp .Add) oJ:=fun V=>sJ fun a b=>cn fun t=>cn fun u Q E hq=>PyProof.Rows.iadd_int (hq.ret V.live ⟨_,rfl⟩ _)
theorem B9:kP g hd sc XO (inplaceOp .Sub) dT:=fun V=>sJ fun a b=>cn fun t=>cn fun u Q E hq=>PyProof.Rows.isub_int (hq.ret V.live ⟨_,rfl⟩ _)
theorem Qp(hi:XO[i]?=some x)(hk:jz sc x)(hf:kP g hd sc XO (inplaceOp op) f)(he:SE g hd sc XO (eval e) c)(XX:XO.Nodup)
  (hx:(x==("__debug__":Str))=false/\(x==("__classdict__":Str))=false:=by trivial):SS g hd sc XO (exec (.AugAssign (.Name x xp) op e pos)) (yC i f c):=by
 intro n bk ho A XR fr s ρ H Y0 V Y3 aA Q E hq;unfold yC at aA;refine wpAny_AugAssign_Name ?_;cases hp':ae i bk Y0 H with
 |none=>rw[hp']at aA;cases aA
 |some r=>
  rw[hp']at aA;refine rG hp' fun p hp e=>?_
  subst e;refine zD V hi hx.2 hp fun u hu=>?_
  refine he.aW ho V aA hq.px fun p2 H2 v2 h2 i9 pK e2 eu V2 r2=>?_
  refine hf.aW V2 (Rep.stays (V.live.bq eu) hu) r2 e2 (hq.after eu).px fun p3 H3 v3 h3 nH tu e3 jx V3 r3=>?_
  cases e3;exact gQ V3 hi XX hk r3 fun h4 IY ur L4=>((hq.after (aU:=i9) eu).after (aU:=nH) jx) h4 IY tu ur L4
theorem qS(G:g.Ok)(V:At g hd sc XO n A XR fr s ρ H Y0)(hf:eK g.K C XQ=true)(r:Rep s.heap ρ p v)(ru:Rep s.heap ρ q u)
  (e:setField C XQ p q H=some H') {Q:Unit->Shared->Prop}{E:Value->Shared->Prop}
  (hq:∀h' aU,Step [] s.heap ρ h' ρ->bY g XR fr XO h' ρ H' Y0->Q () (ez s h' aU)):wpAny g.M A (setAttr v XQ u) Q E s:=by
 cases p with
 |inst C' k=>
  refine bI e fun hC e2=>?_
  clear e;subst hC;refine gN e2 fun es hes e=>bI e fun hz e=>?_
  cases e;exact zG G V hf r ru hes hz hq
 |_=>cases e
theorem xH{α:Type}{x:α}{o:Option MH}{f:MH->Option α}{Z:Prop}(e:(match o with
  |some y=>f y
  |none=>none)=some x) (z:∀y,o=some y->f y=some x->Z):Z:=by
 cases h:o with
 |none=>rw[h]at e;cases e
 |some y=>rw[h]at e;exact z y h e
theorem Jb(G:g.Ok){C:Addr}{XQ:Str}{o e:Expr}{ap pos:Pos}{co ce:CE}(hf:eK g.K C XQ=true)(ho':SE g hd sc XO (eval o) co)(he:SE g hd sc XO (eval e) ce)
  (hs:∀XR,swapsWith e (some (.Attribute o XQ ap)) pos.line XR=pure false:=by trivial):SS g hd sc XO (exec (.Assign [.Attribute o XQ ap] e pos)) (eN C XQ co ce):=by
 intro n bk ho A XR fr s ρ H Y0 V Y3 aA Q E hq;refine plainObj_wpAny_Assign_Attribute (he.aW ho V aA hq.px fun p H' v h' aU aV e st V' r=>?_) (hs XR);refine ho'.aW ho V' e (hq.after st).px fun p2 H2 v2 h2 i9 pK e2 eu V2 r2=>?_
 refine xH e2 fun H3 e3 e2=>?_
 cases e2;exact qS G V2 hf r2 (Rep.stays (V'.live.bq eu) r) e3 fun h4 IY ur L4=>((hq.after (aU:=aU) st).after (aU:=i9) eu) h4 IY pK ur.up L4
theorem zR(G:g.Ok){C:Addr}{XQ:Str}{o e:Expr}{op:Operator}{f:P2}{ap pos:Pos}{co ce:CE}(hg:gw g.K C XQ=true)(hf:eK g.K C XQ=true)(hop:kP g hd sc XO (inplaceOp op) f)
  (ho':SE g hd sc XO (eval o) co) (he:SE g hd sc XO (eval e) ce):SS g hd sc XO (exec (.AugAssign (.Attribute o XQ ap) op e pos)) (eh C XQ co f ce):=by
 intro n bk ho A XR fr s ρ H Y0 V Y3 aA Q E hq;refine wpAny_AugAssign_AttributeAny (ho'.aW ho V aA hq.px fun p H' v h' aU aV e st V' r=>?_);have hq1:=hq.after (aU:=aU) st;refine pJ.aW (B2 G (expr:=true) hg) V' r e hq1.px fun p2 H2 v2 h2 i9 pK e2 eu V2 r2=>?_
 have hq2:=hq1.after (aU:=i9) eu;refine he.aW ho V2 e2 hq2.px fun p3 H3 v3 h3 nH tu e3 jx V3 r3=>?_
 have hq3:=hq2.after (aU:=nH) jx;refine hop.aW V3 (Rep.stays (V2.live.bq jx) r2) r3 e3 hq3.px fun p4 H4 v4 h4 IY Wv e4 ur V4 r4=>?_
 have hq4:=hq3.after (aU:=IY) ur;refine xH e4 fun H5 e5 e4=>?_
 cases e4;exact qS G V4 hf (Rep.stays (V3.live.bq ur) (Rep.stays (V2.live.bq jx) (Rep.stays (V'.live.bq eu) r))) r4 e5 fun h6 FV Cu L6=>hq4 h6 FV Wv Cu.up L6
theorem FW(G:g.Ok)(ho':SE g hd sc XO (eval o) co)(hi:SE g hd sc XO (eval i) ci)(he:SE g hd sc XO (eval e) ce)
  (hs:∀XR,swapsWith e (some (.Subscript o i sp)) pos.line XR=pure false:=by trivial):SS g hd sc XO (exec (.Assign [.Subscript o i sp] e pos)) (eZ co ci ce):=by
 intro n bk ho A XR fr s ρ H Y0 V Y3 aA Q E hq;refine wpAny_Assign_Subscript (he.aW ho V aA hq.px fun p H' v h' aU aV e st V' r=>?_) (hs XR);have hq1:=hq.after (aU:=aU) st;refine ho'.aW ho V' e hq1.px fun p2 H2 v2 h2 i9 pK e2 eu V2 r2=>?_
 have hq2:=hq1.after (aU:=i9) eu;refine hi.aW ho V2 e2 hq2.px fun p3 H3 v3 h3 nH tu e3 jx V3 r3=>?_
 have hq3:=hq2.after (aU:=nH) jx;have r':=Rep.stays (V2.live.bq jx) (Rep.stays (V'.live.bq eu) r);have Tr:=Rep.stays (V2.live.bq jx) r2;cases p2 with
 |obj k=>cases p3 with
  |str x=>
   refine gN e3 fun es hes e3=>bI e3 fun hz e3=>?_
   cases e3;obtain⟨a,bD,h1,h2',h3',h4⟩:=sN G V3 Tr hes;obtain⟨_,t,rfl⟩:=r3;have XY:=h4.length;have h3c:=h3';obtain⟨oo,ee,ep,_,_,_,_,_,hn⟩:=h3c;refine wpAny_setItem_pairs (knd:=strKind g.prog g.w) (strKind_is _ _ _ t) h3' (fun h5 hm hsb=>?_) (by rw[XY];have:sizeLine=16777216:=rfl;exact Lo hz this rfl);have hl:(h5.get? a).isSome=true:=by obtain⟨o,_,_,e,_⟩:=hm;rw[e];rfl
   obtain⟨B4,L5⟩:=V3.live.set (o:=.dict (Mine.Internal.put x p es)) hes rfl h1 hsb.extBut hl fun k2=>⟨stored bD x v,hm,jv.put (Rep.stays k2 r') (jv.stays k2 h4) hn⟩
   exact hq3 h5 _ tu B4.up L5
  |_=>cases e3
 |_=>cases e3
end
section
variable{g:eC}{hd:Bool}{sc:Scope}{XO:List Str}{n:Nat}{A:Around}{XR:Env}{fr:List Env}{s:Shared}{ρ:List Addr}{H:MH}{Y0:Loc}{bk:g8}{h h' h₀:Heap}
noncomputable def qT(sc:Scope)(XO:List Str):List Str->List Nat->Prop
 |[],is=>is=[]
 |x::xs,is=>∃i r,is=i::r/\XO[i]?=some x/\jz sc x/\qT sc XO xs r
theorem uD(XX:XO.Nodup):∀(xs:List Str) (is:List Nat),qT sc XO xs is->∀(ts:List (Value->Sem Unit)),
  ∀{s:Shared}{Y0:Loc},At g hd sc XO n A XR fr s ρ H Y0->∀(ps:List MV) (vs:List Value),ps.length=xs.length->aX s.heap ρ ps vs->
  (∀(i:Nat) (x:Str),xs[i]?=some x->∃t:Value->Sem Unit,ts[i]?=some t/\∀(v:Value) (s:Shared) (Q:Unit->Shared->Prop) (E:Value->Shared->Prop),wpAny g.M A (storeName XR x v) Q E s->wpAny g.M A (t v) Q E s)->ts.length=xs.length->
  ∀{Q:Unit->Shared->Prop}{E:Value->Shared->Prop},(∀h' aU,Step (ownOf XR) s.heap ρ h' ρ->bY g XR fr XO h' ρ H (nY is ps Y0)->Q () (ez s h' aU))->wpAny g.M A (assignInOrder ts vs) Q E s:=by
 intro xs
 induction xs with
 |nil=>
  intro is htg ts s Y0 V ps vs hl r ht XY Q E hq;cases (show is=[] from htg);cases ts with
  |cons _ _=>cases XY
  |nil=>
   show wpAny _ _ (pure ()) _ _ s;refine bH ?_;have:nY [] ps Y0=Y0:=rfl;have hq':=hq s.heap s.toks .refl;rw[this]at hq';exact hq' V.live
 |cons x xs ih=>
  rintro is ⟨i,ir,e,hi,hk,htg⟩ ts s Y0 V ps vs hl r ht XY Q E hq;subst e;cases ts with
  |nil=>cases XY
  |cons t ts=>
   cases ps with
   |nil=>cases hl
   |cons p ps=>
    obtain⟨v,cE,rfl,rp,rr⟩:=r;obtain⟨t',e1,ht0⟩:=ht 0 x rfl;cases e1;show wpAny _ _ (do holding cE (t v);assignInOrder ts cE) _ _ s;refine aQ (wpAny_holding (ht0 _ _ _ _ (gQ V hi XX hk rp fun h1 uz kQ L1=>?_)));refine ih ir htg ts (V.wg L1) ps cE (fm hl) (aX.stays (V.live.bq kQ) rr) (fun i y hy=>ht (i+1) y hy) (fm XY) fun h2 i9 eu L2=>?_
    exact hq h2 i9 (kQ.trans eu) L2
theorem bindTo(x:Str)(v:Value)(s:Shared)(Q:Unit->Shared->Prop)(E:Value->Shared->Prop)(z:wpAny g.M A (storeName XR x v) Q E s):wpAny g.M A (bindName XR x v) Q E s:=wpAny_bindName z
theorem FX(x:Str)(p:Pos)(v:Value)(s:Shared)(Q:Unit->Shared->Prop)(E:Value->Shared->Prop)(z:wpAny g.M A (storeName XR x v) Q E s):wpAny g.M A (assign (.Name x p) XR v) Q E s:=assign_Name z
theorem aX.rev:∀{xs:List MV}{vs:List Value},aX h ρ xs vs->aX h ρ xs.reverse vs.reverse:=by
 intro xs
 induction xs with
 |nil=>intro _ e;cases (show _=[] from e);exact(rfl:([]:List Value)=[])
 |cons x xs ih=>
  intro _ z;obtain⟨v,vs,e,hv,hr⟩:=z;subst e;rw[List.reverse_cons,List.reverse_cons];exact aX.append (ih hr) ⟨v,[],rfl,hv,rfl⟩
noncomputable def TG(g:eC)(sc:Scope)(XO:List Str)(target:Expr)(j2:MV->Loc->Option Loc):Prop:=
 ∀{n A XR fr s ρ H Y0},At g false sc XO n A XR fr s ρ H Y0->∀x v L',Rep s.heap ρ x v->j2 x Y0=some L'->∀{Q:Unit->Shared->Prop}{E:Value->Shared->Prop},
  (∀h' aU,Step (ownOf XR) s.heap ρ h' ρ->bY g XR fr XO h' ρ H L'->Q () (ez s h' aU))->wpAny g.M A (assign target XR v) Q E s
theorem Jc(hi:XO[i]?=some x)(hk:jz sc x)(XX:XO.Nodup):TG g sc XO (.Name x p) (toName i):=by
 intro n A XR fr s ρ H Y0 V q v L' r e Q E hq;cases e;exact assign_Name (gQ V hi XX hk r hq)
theorem Cv:assign (.Tuple elts k pos) XR v=(do standAt pos;unpack v (assignEach elts XR)):=arm_assign_Tuple ..
theorem FY(htg:qT sc XO xs is)(XX:XO.Nodup)
  (hel:∀XR,∃ts:List (Value->Sem Unit),assignEach elts XR=ts.map (fun t=>(false,t))/\ts.length=xs.length/\∀(i:Nat) (x:Str),xs[i]?=some x->∃p:Pos,ts[i]?=some (assign (.Name x p) XR)):TG g sc XO (.Tuple elts k pos) (iP is):=by
 intro n A XR fr s ρ H Y0 V q v L' r e Q E hq;cases q with
 |tup ps=>
  refine bI e fun XY e=>?_
  cases e;obtain⟨hz,a,vs,rfl,ht,l⟩:=r;obtain⟨ts,e1,e2,e3⟩:=hel XR;have hll:is.length=xs.length:=by
   have:∀(xs:List Str) (is:List Nat),qT sc XO xs is->is.length=xs.length:=by
    intro xs
    induction xs with
    |nil=>intro is h;cases (show is=[] from h);rfl
    |cons x xs ih=>rintro is ⟨i,r,rfl,_,_,h⟩;rw[bo,bo,ih r h]
   exact this xs is htg
  rw[Cv,e1];refine aQ (wpAny_standAt (unpack_tuple (V.act.handled rfl) ht ?_ ?_ fun h1 he1=>?_))
  ·rw[bR,eE,l.length];lia
  ·rw[List.findIdx?_eq_none_iff];intro x hx;obtain⟨t,_,rfl⟩:=eb.mp hx;rfl
  ·have k1:bL s.heap h1:=fun b o hb=>he1 b o (hG (kW hb)) hb
   have V1:=V.to (aU:=s.toks) (V.live.grow k1);have kQ:Step (ownOf XR) s.heap ρ h1 ρ:=.grow k1;have e4:(ts.map (fun t=>(false,t))).map (·.2)=ts:=by rw[hH];exact(pM fun _ _=>rfl).trans (List.map_id _)
   rw[e4];refine uD XX xs is htg ts V1 ps vs (by exact Dd XY hll) (l.uu k1) (fun i x hx=>?_) e2 fun h2 i9 eu L2=>hq h2 i9 (kQ.trans eu) L2
   obtain⟨p,hp⟩:=e3 i x hx;exact⟨_,hp,FX x p⟩
 |_=>cases e
theorem Cw{xs:List Str}(he:SE g false sc XO (eval e) c)(ht:TG g sc XO (.Tuple elts k qv) (iP is))
  (hs:∀XR,swapsWithSole [.Tuple elts k qv] e pos.line XR=pure false:=by trivial) (hw:∀XR:Env,XR.scope=sc->swappedStores [.Tuple elts k qv] e XR=pure none):
  SS g false sc XO (exec (.Assign [.Tuple elts k qv] e pos)) (di is c):=by
 intro n bk ho A XR fr s ρ H Y0 V Y3 aA Q E hq;refine Assign_Tuple (he.aW ho V aA hq.px fun p H' v h' aU aV e1 st V' r=>?_) (hs XR) (hw XR V.d6.scope);cases p with
 |tup ps=>
  refine bI e1 fun hl e1=>?_
  cases e1;refine ht V' (.tup ps) v (nY is ps Y0) r (if_pos hl) fun h2 i9 eu L2=>hq h2 i9 aV (st.trans eu) L2
 |_=>cases e1
theorem Jd(htg:qT sc XO xs.reverse is.reverse)(XX:XO.Nodup)(he:SE g false sc XO (eval e) c)
  (hs:∀XR,swapsWithSole [.Tuple elts k qv] e pos.line XR=pure false:=by trivial) (hw:∀XR:Env,XR.scope=sc->swappedStores [.Tuple elts k qv] e XR=pure (some xs)):
  SS g false sc XO (exec (.Assign [.Tuple elts k qv] e pos)) (u9 is c):=by
 intro n bk ho A XR fr s ρ H Y0 V Y3 aA Q E hq;refine Assign_Tuple_swapped (he.aW ho V aA hq.px fun p H' v h' aU aV e1 st V' r=>?_) (hs XR) (hw XR V.d6.scope);cases p with
 |tup ps=>
  refine bI e1 fun hl e1=>?_
  cases e1;obtain⟨hz,a,vs,rfl,ht,l⟩:=r;have hll:is.length=xs.length:=by
   have:∀(xs:List Str) (is:List Nat),qT sc XO xs is->is.length=xs.length:=by
    intro xs
    induction xs with
    |nil=>intro is h;cases (show is=[] from h);rfl
    |cons x xs ih=>rintro is ⟨i,r,rfl,_,_,h⟩;rw[bo,bo,ih r h]
   have:=this _ _ htg
   rwa [List.length_reverse,List.length_reverse]at this
  have hsz:xs.length=vs.toArray.size:=by rw[eE,l.length];exact Lp hl hll
  rw[hsz];refine unpackItems_tuple (V'.act.handled rfl) ht fun h1 he1=>?_
  have k1:bL h' h1:=fun b o hb=>he1 b o (hG (kW hb)) hb
  have V1:=V'.to (aU:=aU) (V'.live.grow k1);have kQ:Step (ownOf XR) h' aV h1 aV:=.grow k1;refine uD XX xs.reverse is.reverse htg (xs.reverse.map fun n=>bindName XR n) V1 ps.reverse vs.reverse (by simp;exact Dd hl hll) (aX.rev (l.uu k1)) (fun i x hx=>?_) (by simp) fun h2 i9 eu L2=>hq h2 i9 aV (st.trans (kQ.trans eu)) L2
  exact⟨_,by rw[dP,hx];rfl,bindTo x⟩
 |_=>cases e1
end
section
variable{g:eC}{hd:Bool}{sc:Scope}{XO:List Str}{n:Nat}{A:Around}{XR:Env}{fr:List Env}{s:Shared}{ρ gP own:List Addr}{H:MH}{Y0:Loc}{bk:g8}{h h' h₀:Heap}
theorem tT(e:a.frame=b.frame):PySem.frameOf a=PySem.frameOf b:=by unfold PySem.frameOf;rw[e]
theorem iD(e:a.frame=b.frame):noteFrame x a=noteFrame x b:=by unfold noteFrame;rw[e,tT e]
theorem FZ(hfr:A.frames=some fr)(eo:um XR fr sc)(L:bY g XR fr XO h ρ H Y0)(f:qt g h₀ h ρ H k e)(st:Step own h₀ gP h ρ){E:Value->Shared->Prop}
  (hE:∀h',Step own h₀ gP h' ρ->bY g XR fr XO h' ρ H Y0->qt g h₀ h' ρ H k e->E (.ref e) (ez s h' tk)):notedBy g.M A XR (cameBackBy g.M A XR E) (.ref e) (ez s h tk):=by
 obtain⟨Lf,fe,outer,rfl,h1,h2⟩:=eo.frame;obtain⟨oe,vs,he,hd,htb⟩:=f.tb;unfold notedBy;rw[iD (show XR.frame=fe.frame by rw[h1,h2])];refine rI (B:=g.B) hfr L.mi.1 h1 he hd htb fun h1' P1=>?_
 have f1:=P1.Qe f L.inv st.alive;have L1:=P1.live f L;have kQ:=P1.step f L.mi st;obtain⟨Ww,ws,cE,T,oT,ts,a1,a2,a3,a4,a5,a6,a7,a8,a9,⟨x,mh⟩⟩:=P1.exc;unfold cameBackBy;refine aQ (wpAny_field a3 rfl a4 ?_);rw[if_neg (show ¬ ((Value.ref T==Value.none)=true) from jY)];refine kM (fr:=fe::outer) a3 rfl a4 a5 a7 a8 a9 mh fun h2' P2=>?_
 exact hE h2' (P2.step f1 L1.mi kQ) (P2.live f1 L1) (P2.Qe f1 L1.inv kQ.alive)
theorem Qk.B'{E:Value->Shared->Prop}(V:At g hd sc XO n A XR fr s ρ H Y0)(x:Qk g (ownOf XR) XR fr XO s ρ Y3 E):Qk g (ownOf XR) XR fr XO s ρ Y3 (notedBy g.M A XR (cameBackBy g.M A XR E)):=by
 cases Y3 with
 |exc k L H'=>exact fun e h' aU aV st Lv f=>FZ V.act.frames V.d6 Lv f st fun h2 eu L2 f2=>x e h2 aU aV eu L2 f2
 |next _ _=>trivial
 |cont _ _=>trivial
 |ret _ _ _=>trivial
inductive Ky(g:eC)(XR:Env)(fr:List Env)(XO:List Str)(s:Shared)(ρ:List Addr)(Y3:RS)(rest:Nat->Loc->MH->Option RS):Nat->Shared->Prop
 |mk {m:Nat}(h':Heap) (aU:Nat) (aV:List Addr) (H':MH) (L':Loc) (st:Step (ownOf XR) s.heap ρ h' aV) (lv:bY g XR fr XO h' aV H' L') (e:rest m L' H'=some Y3):Ky g XR fr XO s ρ Y3 rest m (ez s h' aU)
theorem G0(ht:ST g hd sc XO (fun XR=>isTrue t XR (eval t XR)) ct)(hb:SS g hd sc XO (execs body) b):SS g hd sc XO (exec (.While t body [] pos)) (mD ct b):=by
 intro n bk ho A XR fr s ρ H Y0 V Y3 aA Q E hq;unfold mD at aA
 (generalize many=N at aA;revert N;refine gA ?_;intros)
 refine wpAny_While (codeAny_whileLoop (Ky g XR fr XO s ρ Y3 (fun m L H=>f5 ct b m bk L H)) ?_ N (.mk s.heap s.toks ρ H Y0 .refl V.live aA));rintro m j0 ⟨h1,uz,FF,H1,L1,kQ,Qq,e1⟩;have V1:=V.wg (aU:=uz) Qq;have hq1:=hq.after (aU:=uz) kQ;cases m with
 |zero=>cases e1
 |succ m=>
  refine ht.aW ho V1 e1 (hq1.px.B' V1) fun p H2 v h2 i9 pK e2 eu V2 r=>?_
  obtain rfl:v=p:=r;have hq2:=hq1.after (aU:=i9) eu;cases v with
  |false=>
   rw[if_neg (by simp)]at e2;cases e2;rw[if_neg (by simp)];exact wpAny_execs_nil (hq2 h2 i9 pK .refl V2.live)
  |true=>
   rw[if_pos rfl]at e2;rw[if_pos rfl];cases e3:b bk L1 H2 with
   |none=>rw[e3]at e2;cases e2
   |some r3=>
    rw[e3]at e2;refine hb n bk ho V2 r3 e3 _ _ ?_;cases r3 with
    |next L3 H3=>exact fun h3 nH tu jx D4=>⟨m,nU _,.mk h3 nH tu H3 L3 ((kQ.trans eu).trans jx) D4 e2⟩
    |cont L3 H3=>exact fun h3 nH tu jx D4=>⟨m,nU _,.mk h3 nH tu H3 L3 ((kQ.trans eu).trans jx) D4 e2⟩
    |ret p L3 H3=>cases e2;exact hq2
    |exc k L3 H3=>cases e2;exact hq2.px.B' V2
noncomputable def ey:List String:=["list_iterator","tuple_iterator","str_ascii_iterator","str_iterator","range_iterator"]
noncomputable def oA(h:Heap)(ρ:List Addr)(I:Addr):Src->Prop
 |.lst k i=>∃a,ρ[k]?=some a/\h.IsListIter I a i
 |.tup xs i=>∃t vs,IsTupIter h I t i/\IsTup h t vs.toArray/\aX h ρ xs vs
 |.str x i=>oE x/\∃t,h.IsStrIter I (strIterType x) x t i
 |.Hr n i=>IsRangeIter h I i ((n:Int)-i) 1
theorem rj(x:Str):strIterType x∈ey:=by unfold strIterType ey;split<;>simp
theorem oA.obj:∀{src:Src},oA h ρ I src->∃o,h.get? I=some o/\(∃fs,o.data=.fields fs)/\∃T∈ey,o.cls=.type T
 |.lst k i,hh=>by obtain⟨a,_,o,ho,hc,hd⟩:=hh;exact⟨o,ho,⟨_,hd⟩,_,by simp[ey],hc⟩
 |.tup xs i,hh=>by obtain⟨t,vs,⟨o,ho,hc,hd⟩,_⟩:=hh;exact⟨o,ho,⟨_,hd⟩,_,by simp[ey],hc⟩
 |.str x i,hh=>by obtain⟨_,t,o,ho,hc,hd⟩:=hh;exact⟨o,ho,⟨_,hd⟩,_,rj x,hc⟩
 |.Hr n i,e=>⟨_,e,⟨_,rfl⟩,_,by simp[ey],rfl⟩
theorem Je(h:T∈ey):("tuple"≠T)/\("frame"≠T)/\("cell"≠T)/\("dict"≠T)/\("list"≠T)/\("traceback"≠T):=by
 simp only[ey,bS,List.not_mem_nil,or_false]at h;rcases h with rfl|rfl|rfl|rfl|rfl<;>decide
theorem G1{I:Addr}{o:Obj}{T:String}(hT:T∈ey)(hc:o.cls=.type T):o.cls≠.type "tuple"/\o.cls≠.type "frame"/\o.cls≠.type "cell"/\o.cls≠.type "dict"/\o.cls≠.type "list"/\o.cls≠.ref RC:=by
 obtain⟨a,b,c,d,e,f⟩:=Je hT;rw[hc];exact⟨fun q=>a (by cases q;rfl),fun q=>b (by cases q;rfl),fun q=>c (by cases q;rfl),fun q=>d (by cases q;rfl),fun q=>e (by cases q;rfl),fun q=>by cases q⟩
structure lQ(g:eC)(XR:Env)(fr:List Env)(h:Heap)(ρ:List Addr)(I:Addr):Prop where
 UE:I∉ρ
 own:I∉ownOf XR
 mi:∀e∈fr,e.frame≠some I
 Xd:g.B.get? I=none
theorem oA.iq{I:Addr}{src:Src}(x:oA h ρ I src)(L:bY g XR fr XO h ρ H Y0)(hB:g.B.get? I=none):lQ g XR fr h ρ I:=by
 obtain⟨o,ho,⟨fs,hfs⟩,T,hT,hc⟩:=x.obj;obtain⟨c1,c2,c3,c4,c5,c6⟩:=G1 (I:=I) hT hc;refine⟨fun hm=>?_,fun hm=>?_,fun e he hf=>?_,hB⟩
 ·obtain⟨k,ob,h1,h2,h3⟩:=L.inv.at hm;cases ob with
  |list xs=>obtain⟨_,vs,⟨m,ho'⟩,_⟩:=h3;rw[ho]at ho';cases ho';exact c5 rfl
  |dict es=>obtain⟨bD,⟨o',tv,ep,ho',hx,_⟩,_⟩:=h3;rw[ho]at ho';cases ho';exact c4 hx.1
  |exc r kd=>obtain⟨o',d,vs,ho',hx,_⟩:=h3;rw[ho]at ho';cases ho';exact c6 hx
  |attrs fs=>obtain⟨mA,⟨o',ho',hx⟩,_⟩:=h3;rw[ho]at ho';cases ho';exact c4 hx
 ·obtain⟨o',ho',hk⟩:=L.jH I hm;rw[ho]at ho';cases ho';rcases hk with ⟨es,n,hk⟩|⟨v,hk⟩<;>(rw[hfs]at hk;cases hk)
 ·obtain⟨_,o',es,n,ho',hk⟩:=L.mi.2 e he I hf;rw[ho]at ho';cases ho';rw[hfs]at hk;cases hk
theorem bY.iq(L:bY g XR fr XO h ρ H Y0)(a:lQ g XR fr h ρ I)(k:Heap.ExtBut I h h')(hk:∀o,h.get? I=some o->(∀xs n,o.data≠.seq xs n)/\o.data≠.plain):bY g XR fr XO h' ρ H Y0:=by
 obtain⟨k2,I'⟩:=L.inv.own a.UE k a.Xd hk;obtain⟨m,F,hv⟩:=L.frame;have mem:∀y c,XR.cells.lookup y=some c->c∈ownOf XR:=fun y c hy=>by
  exact .tail _ (lookup_mem hy)
 have hne:∀b∈ownOf XR,b≠I:=fun b hb q=>a.own (q▸hb)
 refine⟨I',?_,⟨m,⟨vx F.ns fun o ho=>⟨o,k _ o (hne _ (.head _)) ho,rfl⟩,I'.stays,F.above⟩,fun i y p h1 h2=>?_⟩,L.locs,L.apart,fun y c hy=>?_,fun b hb=>?_,L.tM⟩
 ·refine⟨?_,fun e he Lf hL=>?_⟩
  ·have:∀l:List Env,(∀e∈l,e.frame≠some I)->h.FunFrames g.B l->h'.FunFrames g.B l:=by
    intro l
    induction l with
    |nil=>intro _ _;trivial
    |cons e r ih=>
     rintro hm ⟨hk',⟨Lf,o,hf,hn,ho,hd⟩,hr⟩;exact⟨hk',⟨Lf,o,hf,hn,k Lf o (fun q=>hm e (.head _) (q▸hf)) ho,hd⟩,ih (fun e he=>hm e (.tail _ he)) hr⟩
   exact this fr a.mi L.mi.1
  ·obtain⟨h1,o,es,n,ho,hc⟩:=L.mi.2 e he Lf hL;exact⟨h1,o,es,n,k Lf o (fun q=>a.mi e he (q▸hL)) ho,hc⟩
 ·obtain⟨v,hat,hr⟩:=hv i y p h1 h2;refine⟨v,?_,Rep.stays k2 hr⟩;rcases hat with hat|⟨c,e1,e2,oc,hoc,hdc⟩
  ·exact .inl hat
  ·exact .inr ⟨c,e1,e2,oc,k c oc (hne c (mem y c e2)) hoc,hdc⟩
 ·obtain⟨h1,v,oc,hoc,hdc⟩:=L.cells y c hy;exact⟨h1,v,oc,k c oc (hne c (mem y c hy)) hoc,hdc⟩
 ·obtain⟨o,ho,hk⟩:=L.jH b hb;exact⟨o,k b o (hne b hb) ho,hk⟩
theorem Step.iq(st:Step own h₀ gP h ρ)(k:Heap.ExtBut I h h')(hI:h₀.get? I=none):Step own h₀ gP h' ρ where
 pre:=st.pre
 kept:=fun b o ho h1 h2=>by
  obtain⟨o1,a1,a2⟩:=st.kept b o ho h1 h2;exact⟨o1,k b o1 (fun q=>by subst q;rw[hI]at ho;cases ho) a1,a2⟩
 alive:=fun b hb=>by
  by_cases q:b=I
  ·subst q;exact hI
  ·refine st.alive b ?_;cases z:h.get? b with
   |none=>rfl
   |some o=>rw[k b o q z]at hb;cases hb
 exc:=fun b o ho hc hd=>k b o (fun q=>by subst q;rw[hI]at ho;cases ho) (st.exc b o ho hc hd)
theorem oA.step(x:oA h ρ I src)(L:bY g XR fr XO h ρ H Y0)(hB:g.B.get? I=none)(st:Step (ownOf XR) h ρ h' aV):oA h' aV I src:=by
 obtain⟨o,ho,⟨fs,hfs⟩,T,hT,hc⟩:=x.obj;have a:=x.iq L hB;obtain⟨o',ho',hs⟩:=st.kept I o ho a.UE a.own;have e:o'=o:=hs.same fun es n q=>by rw[hfs]at q;cases q
 subst e;have k2:=L.bq st;cases src with
 |lst k i=>obtain⟨b,h1,o1,h2,r⟩:=x;rw[ho]at h2;cases h2;exact⟨b,k2.pre _ _ h1,_,ho',r⟩
 |tup xs i=>
  obtain⟨t,vs,⟨o1,h2,r⟩,⟨o3,h3,hc3,r3⟩,l⟩:=x;rw[ho]at h2;cases h2;exact⟨t,vs,⟨_,ho',r⟩,⟨o3,k2.tup t o3 h3 (.inl ⟨hc3,_,r3⟩),hc3,r3⟩,aX.stays k2 l⟩
 |str y i=>obtain⟨k,t,o1,h2,r⟩:=x;rw[ho]at h2;cases h2;exact⟨k,t,_,ho',r⟩
 |Hr n i=>exact(show _ from by have:=x;rw[show h.get? I=_ from x]at ho;cases ho;exact ho')
theorem aX.none{xs:List MV}{vs:List Value}(l:aX h ρ xs vs){i:Nat}(e:xs[i]?=none):vs[i]?=none:=by
 have:=l.length;rw[List.getElem?_eq_none_iff]at e ⊢;exact De e this
set_option tactic.hygienic true in
theorem Ba{I:Addr}{src:Src}(V:At g false sc XO n A XR fr s ρ H Y0)(x:oA s.heap ρ I src)(hB:g.B.get? I=none){r:Option (MV×Src)}(e:dM src H=some r){Q:Option Value->Shared->Prop}{E:Value->Shared->Prop}
  (h0:r=none->∀h',Heap.ExtBut I s.heap h'->bY g XR fr XO h' ρ H Y0->Q none { s with heap:=h' })
  (h1:∀p gX,r=some (p,gX)->∀v h' aU,Heap.ExtBut I s.heap h'->bY g XR fr XO h' ρ H Y0->oA h' ρ I gX->Rep h' ρ p v->Q (some v) (ez s h' aU)):wpAny g.M A (pyNext (.ref I)) Q E s:=by
 have a:=x.iq V.live hB;obtain⟨oI,hoI,⟨XD,hfI⟩,T,hT,hcI⟩:=x.obj;have hkI:∀o,s.heap.get? I=some o->(∀xs n,o.data≠.seq xs n)/\o.data≠.plain:=fun o ho=>by
  rw[hoI]at ho;cases ho;rw[hfI];exact⟨fun _ _ q=>(by cases q),fun q=>(by cases q)⟩
 have live:∀{h'},Heap.ExtBut I s.heap h'->bY g XR fr XO h' ρ H Y0:=fun k=>V.live.iq a k hkI
 have k2:∀{h'},Heap.ExtBut I s.heap h'->fc s.heap ρ h' ρ:=fun k=>(V.live.inv.own a.UE k hB hkI).1
 have hh:=V.act.handled rfl;cases src with
 |lst k i=>
  obtain⟨b,hb,hit⟩:=x;unfold dM at e;dsimp only at e;refine ew e fun xs hxs e=>?_
  ·obtain⟨b',hb',hz,vs,hl,l⟩:=V.live.inv.objs k _ hxs;rw[hb]at hb';cases hb';cases hp:xs[i]? with
   |some p=>
    rw[hp]at e;cases e;obtain⟨v,hv,hr⟩:=l.get hp;exact wpAny_pyNext_list_item hit hl.isList (by simpa using hv) fun h' vF hs=>h1 _ _ rfl v h' s.toks hs.extBut (live hs.extBut) ⟨b,hb,vF⟩ (Rep.stays (k2 hs.extBut) hr)
   |none=>
    rw[hp]at e;cases e;exact wpAny_pyNext_list_end hh hit hl.isList (by simpa using l.none hp) fun h' he=>h0 rfl h' he (live he)
 |tup xs i=>
  obtain⟨t,vs,hit,ht,l⟩:=x;unfold dM at e;dsimp only at e;cases hp:xs[i]? with
  |some p=>
   rw[hp]at e;cases e;obtain⟨v,hv,hr⟩:=l.get hp;refine next_tuple_item hit ht (by simpa using hv) fun h' vF hs=>?_
   obtain⟨ot,hot,hct,rt⟩:=ht;exact h1 _ _ rfl v h' s.toks hs.extBut (live hs.extBut) ⟨t,vs,vF,⟨ot,(k2 hs.extBut).tup t ot hot (.inl ⟨hct,_,rt⟩),hct,rt⟩,aX.stays (k2 hs.extBut) l⟩ (Rep.stays (k2 hs.extBut) hr)
  |none=>
   rw[hp]at e;cases e;exact next_tuple_end hh hit ht (by simpa using l.none hp) fun h' he=>h0 rfl h' he (live he)
 |str y i=>
  obtain⟨kk,t,hit⟩:=x;unfold dM at e;dsimp only at e
  split at e
  ·rename_i hi;cases e;have hi':i<y.cps.size:=hi;have hc:y.cps[i]?=some (y.cps.getD i 0):=by simp[Array.getD,hi']
   have hok:oE (wq y i):=⟨by show 1<=sizeLine;decide,by
    have:=kk.2;rw[Array.all_eq_true]at this;have:=this i hi';show(#[y.cps.getD i 0]:Array Nat).all _=true;simp[Array.getD,hi']
    simpa using this⟩
   by_cases ha:y.cps.all (·<128)=true
   ·have hT':strIterType y="str_ascii_iterator":=by simp[strIterType,ha]
    rw[hT']at hit;exact wpAny_pyNext_ascii_item hit hc fun h' vF hs=>h1 _ _ rfl _ h' _ hs.extBut (live hs.extBut) ⟨kk,t,by rw[hT'];exact vF⟩ ⟨hok,_,rfl⟩
   ·have hT':strIterType y="str_iterator":=by simp[strIterType,ha]
    rw[hT']at hit;exact wpAny_pyNext_wide_item hit hc fun h' vF hs=>h1 _ _ rfl _ h' _ hs.extBut (live hs.extBut) ⟨kk,t,by rw[hT'];exact vF⟩ ⟨hok,_,rfl⟩
  ·rename_i hi;cases e;have hc:y.cps[i]?=none:=Array.getElem?_eq_none (mq hi);by_cases ha:y.cps.all (·<128)=true
   ·have hT':strIterType y="str_ascii_iterator":=by simp[strIterType,ha]
    rw[hT']at hit;exact wpAny_pyNext_ascii_end hh hit hc fun h' he=>h0 rfl h' he (live he)
   ·have hT':strIterType y="str_iterator":=by simp[strIterType,ha]
    rw[hT']at hit;exact wpAny_pyNext_wide_end hh hit hc fun h' he=>h0 rfl h' he (live he)
 |Hr m i=>
  unfold dM at e;dsimp only at e
  split at e
  ·rename_i hi;cases e;refine wpAny_pyNext_range_item x (by exact Ls hi) fun h' vF hs=>h1 _ _ rfl _ h' _ hs.extBut (live hs.extBut) ?_ ⟨_,rfl⟩
   show IsRangeIter h' I ((i+1:Nat):Int) ((m:Int)-(i+1:Nat)) 1;have e1:(((i+1:Nat)):Int)=(i:Int)+1:=by exact Lu
   have e2:(m:Int)-((i+1:Nat):Int)=(m:Int)-i-1:=by exact Lw
   rw[e1]at *;rw[show(m:Int)-((i:Int)+1)=(m:Int)-i-1 by exact Lx];exact vF
  ·rename_i hi;cases e;exact wpAny_pyNext_range_end hh x (by exact Ly hi) fun h' he=>h0 rfl h' he (live he)
end
section
variable{g:eC}{hd:Bool}{sc:Scope}{XO:List Str}{n:Nat}{A:Around}{XR:Env}{fr:List Env}{s:Shared}{ρ gP own:List Addr}{H:MH}{Y0:Loc}{bk:g8}{h h' h₀:Heap}
theorem Bb(V:At g hd sc XO n A XR fr s ρ H Y0)(r:Rep s.heap ρ p v)(e:srcOf p H=some src){Q E:Value->Shared->Prop}
  (hq:∀o,oA (s.heap.push o) ρ s.heap.objs.size src->Q (.ref s.heap.objs.size) { s with heap:=s.heap.push o }):wpAny g.M A (pyIter v) Q E s:=by
 cases p with
 |obj k=>
  refine ew e fun xs hxs e=>?_
  cases e;obtain⟨a,vs,hk,_,hl,_⟩:=xy V r hxs;exact wpAny_pyIter_list hl (hq _ ⟨a,hk,_,fR _ rfl,rfl,rfl⟩)
 |tup xs=>
  cases e;obtain⟨hz,a,vs,rfl,ht,l⟩:=r;exact iter_tuple ht (hq _ ⟨a,vs,⟨_,fR _ rfl,rfl,rfl⟩,ht.push _,l.uu (bL.push _ _)⟩)
 |str x=>
  cases e;obtain⟨k,t,rfl⟩:=r;exact wpAny_pyIter_strU (hq _ ⟨k,t,_,fR _ rfl,rfl,rfl⟩)
 |_=>cases e
set_option backward.match.sparseCases true in
theorem G2{Q:Unit->Shared->Prop}{E:Value->Shared->Prop}(ho:s.heap.get? I=some o)(hT:T∈ey)(hc:o.cls=.type T)(hq:Q () s):wpAny M A (letOwnedTupleGo target (.ref I) v) Q E s:=by
 have hn:(["enumerate","zip","dict_itemiterator","dict_reverseitemiterator","odict_iterator","itertools.zip_longest","itertools.pairwise"].contains T)=false:=by
  simp only[ey,bS,List.not_mem_nil,or_false]at hT;rcases hT with rfl|rfl|rfl|rfl|rfl<;>decide
 have key:wpAny M A (do
   let (.ref r,.ref a):=((Value.ref I),v)|return
   let o<-load r
   match o.cls,o.data with
   |.type n,.fields vs=>
    if ["enumerate","zip","dict_itemiterator","dict_reverseitemiterator","odict_iterator","itertools.zip_longest","itertools.pairwise"].contains n&&vs[0]?==some (rawInt a) then
     rule "for.unpacks-the-owned-tuple"
     updateField r 0 .none
   |_,_=>pure ():Sem Unit) Q E s:=by
  cases v with
  |ref a=>
   refine aQ (wpAny_load ho ?_);obtain⟨oc,od,UD,xw⟩:=o;dsimp only at hc ⊢;subst hc;cases UD with
   |fields vs=>
    dsimp only;rw[hn,Bool.false_and,if_neg jY];exact bH hq
   |_=>exact bH hq
  |_=>exact bH hq
 cases target with
 |Tuple _ _ _=>exact key
 |List _ _=>exact key
 |_=>exact bH hq
inductive G3(g:eC)(XR:Env)(fr:List Env)(XO:List Str)(s:Shared)(ρ:List Addr)(I:Addr)(P:Nat->Src->Loc->MH->Prop):Nat->Shared->Prop
 |mk {m:Nat}(h':Heap) (aU:Nat) (aV:List Addr) (H':MH) (L':Loc) (gX:Src) (st:Step (ownOf XR) s.heap ρ h' aV) (lv:bY g XR fr XO h' aV H' L') (it:oA h' aV I gX) (e:P m gX L' H'):G3 g XR fr XO s ρ I P m (ez s h' aU)
theorem uE{j2:MV->Loc->Option Loc}(ht:TG g sc XO target j2)(hb:SS g false sc XO (execs body) b)(ho:me g n bk)
  (V:At g false sc XO n A XR fr s ρ H Y0) (aA:ei j2 b N src bk Y0 H=some Y3) (hit:oA (s.heap.push o) ρ s.heap.objs.size src)
  {Q:Flow->Shared->Prop}{E:Value->Shared->Prop}(hq:sU g (ownOf XR) XR fr XO s ρ Y3 Q E):
  codeAny g.M A (.forLoop target (.ref s.heap.objs.size) body [] XR) (fun r s'=>match r with|.ok f=>Q f s'|.error e=>cameBackBy g.M A XR E e s') { s with heap:=s.heap.push o }:=by
 have hB:g.B.get? s.heap.objs.size=none:=by
  cases q:g.B.get? s.heap.objs.size with
  |none=>rfl
  |some o'=>exact absurd (kW (V.live.inv.stays _ _ q)) (Nat.lt_irrefl _)
 have hI0:s.heap.get? s.heap.objs.size=none:=eV _
 (generalize hI:s.heap.objs.size=I at hB hI0 hit ⊢;revert I;refine gA ?_;intros)
 refine codeAny_forLoop_any (G3 g XR fr XO s ρ I fun m gX L' H'=>ei j2 b m gX bk L' H'=some Y3) ?_ N
  (.mk (s.heap.push o) s.toks ρ H Y0 src (.grow (bL.push _ _)) (V.live.grow (bL.push _ _)) hit aA)
 rintro m j0 ⟨h1,uz,FF,H1,L1,TH,kQ,Qq,VL,e1⟩;have V1:=V.wg (aU:=uz) Qq;cases m with
 |zero=>cases e1
 |succ m=>
  rw[OE]at e1;cases hn:dM TH H1 with
  |none=>rw[hn]at e1;cases e1
  |some r=>
   rw[hn]at e1;refine Ba V1 VL hB hn (fun hr h2 he L2=>?_) fun p G4 hr v h2 i9 he L2 UG rp=>?_
   ·subst hr;cases e1;exact wpAny_execs_nil (hq h2 uz FF (kQ.iq he hI0) L2)
   ·subst hr;dsimp only at e1;have eu:=kQ.iq he hI0;cases h3:j2 p L1 with
    |none=>rw[h3]at e1;cases e1
    |some L3=>
     rw[h3]at e1;obtain⟨oi,hoi,_,T,hT,hcT⟩:=UG.obj;refine G2 hoi hT hcT ?_;refine ht (V.wg (aU:=i9) L2) p v L3 rp h3 fun h4 IY ur TJ=>?_
     have Wy:=UG.step L2 hB ur;have V4:=V.wg (aU:=IY) TJ;have Qr:=eu.trans ur;dsimp only at e1;cases h5:b bk L3 H1 with
     |none=>rw[h5]at e1;cases e1
     |some r5=>
      rw[h5]at e1;have hq4:=hq.after (aU:=IY) Qr;refine hb n bk ho V4 r5 h5 _ _ ?_;cases r5 with
      |next L6 H6=>exact fun h6 FV Kz Cu TK=>⟨m,nU _,.mk h6 FV Kz H6 L6 G4 (Qr.trans Cu) TK (Wy.step TJ hB Cu) e1⟩
      |cont L6 H6=>exact fun h6 FV Kz Cu TK=>⟨m,nU _,.mk h6 FV Kz H6 L6 G4 (Qr.trans Cu) TK (Wy.step TJ hB Cu) e1⟩
      |ret p L6 H6=>cases e1;exact hq4
      |exc k L6 H6=>cases e1;exact hq4.px.B' V4
theorem Qs{j2:MV->Loc->Option Loc}(ht:TG g sc XO target j2)(hi:SE g false sc XO (eval iter) ci)(hb:SS g false sc XO (execs body) b)
  (hs:∀XR x,foldedSetIterable iter XR x=pure x:=by trivial):SS g false sc XO (exec (.For target iter body [] pos)) (ic j2 ci b):=by
 intro n bk ho A XR fr s ρ H Y0 V Y3 aA Q E hq;unfold ic at aA
 (generalize many=N at aA;revert N;refine gA ?_;intros)
 refine wpAny_For (hi.aW ho V aA hq.px fun p H' v h' aU aV e st V' r=>?_) (hs XR);cases qw:srcOf p H' with
 |none=>rw[qw]at e;cases e
 |some src=>
  rw[qw]at e;exact Bb V' r qw fun o hit=>uE ht hb ho V' e hit (hq.after st)
theorem G5{m:Nat}(h:m<2^31):Builtin.Range.small 0 (m:Int) 1=true/\Builtin.Range.rangeSize 0 (m:Int) 1=m:=by
 have e:Builtin.Range.rangeSize 0 (m:Int) 1=m:=by
  unfold Builtin.Range.rangeSize;simp
  try lia
 refine⟨?_,e⟩;unfold Builtin.Range.small;rw[e];have h1:∀x:Int,0<=x->x<2^32->Builtin.Range.rangeFitsLong x=true:=fun x h0 h1=>by
  unfold Builtin.Range.rangeFitsLong;simp only[bW,dh];exact Lz h0 h1
 have a1:=h1 0 (by decide) (by decide);have a2:=h1 m (by exact D5) (by exact Df h);have a3:=h1 1 (by decide) (by decide);have a4:=h1 ((m:Int)+(1-1)) (by exact LA) (by exact LB h);simp[a1,a2,a3]
theorem Jf(G:g.Ok){target e:Expr}{p zS pos:Pos}{body:List Stmt}{i:Nat}{ce:CE}{b:CS}(ht:TG g sc XO target (toName i))(he:SE g false sc XO (eval e) ce)(hb:SS g false sc XO (execs body) b)
  (hn:nsIn g.K mainGlobals (Str.ofString "range")=some none) (hl:sc.names.lookup (Str.ofString "range")=some .globalImplicit)
  (hc:∀XR,eval (.Call (.Name "range" p) [e] [] zS) XR=(do callWith zS (<-eval (.Name "range" p) XR) [] (backTo zS (starEach [e] XR)) []):=by trivial)
  (hst:∀XR,backTo zS (starEach [e] XR)=[(false,eval e XR)]:=by trivial)
  (hs:∀XR x,foldedSetIterable (.Call (.Name "range" p) [e] [] zS) XR x=pure x:=by trivial):
  SS g false sc XO (exec (.For target (.Call (.Name "range" p) [e] [] zS) body [] pos)) (qD i ce b):=by
 intro n bk ho A XR fr s ρ H Y0 V Y3 aA Q E hq;unfold qD at aA
 (generalize many=N at aA;revert N;refine gA ?_;intros)
 refine wpAny_For ?_ (hs XR);rw[hc XR,hst XR];refine aQ (nB G (b:=.type "range") boot_range hn hl (by ac_rfl) V ?_);refine callWith_of (P:=fun _=>True) rfl (fun h _=>⟨_,.inr (.inl rfl),Looks.of_pure rfl⟩) (evalArgs_plain (spliced_cons (he.aW ho V aA hq.px fun p H' v h' aU aV e st V' r=>?_)));refine spliced_nil ⟨trivial,?_⟩;cases p with
 |int m=>
  refine bI e fun hm e=>?_
  obtain⟨t,rfl⟩:=r;obtain⟨k,hk⟩:∃k:Nat,m=k:=⟨m.toNat,by exact LC hm⟩
  subst hk;obtain⟨s1,s2⟩:=G5 (m:=k) (by exact LD hm);refine call_range_1 ?_;refine wpAny_pyIter_range (fR _ rfl) s1 ?_;have k1:=bL.push h' { cls:=.type "range",data:=.fields #[.int 0 aU,.int k t,.int 1 (aU+1)] };have kQ:Step (ownOf XR) h' aV _ aV:=.grow k1;have V1:=V'.to (aU:=aU+1+1) (V'.live.grow k1);refine uE ht hb ho V1 e ?_ ((hq.after st).after kQ);show Heap.get? _ _=_;rw[fR _ rfl];rw[s2];simp[rawInt]
 |_=>cases e
theorem qt.keep{J6:Loc}(f:qt g h₀ h ρ H k e)(L:bY g XR fr XO h ρ H Y0)(st:Step (ownOf XR) h ρ h' aV)(hr:jf k H'=true):qt g h₀ h' aV H' k e:=by
 obtain⟨a,⟨kd,hk⟩,c,oe,vs,d1,d2,d3⟩:=f;obtain⟨e',h1,o',d',cE,h2,h3,_⟩:=L.inv.objs k _ hk;rw[a]at h1;cases h1;rw[d1]at h2;cases h2;have k2:=L.bq st;refine⟨k2.pre _ _ a,?_,c,oe,vs,st.exc _ _ d1 h3 ⟨_,d2⟩,d2,?_⟩
 ·unfold jf at hr;cases hk':H'[k]? with
  |none=>rw[hk']at hr;cases hr
  |some o=>
   rw[hk']at hr;cases o with
   |exc r Xe=>cases r with
    |true=>exact⟨Xe,rfl⟩
    |false=>cases hr
   |_=>cases hr
 ·rcases d3 with d3|⟨T,oT,ts,t1,t2,t3,t4,t5,t6,t7⟩
  ·exact .inl d3
  ·refine .inr ⟨T,oT,ts,t1,t2,t3,t4,?_,t6,t7⟩;obtain⟨o2,q1,q2⟩:=st.kept T oT t5 (fun hm=>by
    obtain⟨ob,z1,_,_,_,_,z2⟩:=L.inv.live hm;rw[t5]at z1;cases z1;exact z2 t6) (fun hm=>by
    obtain⟨ob,z1,z2⟩:=L.jH T hm;rw[t5]at z1;cases z1;rcases z2 with ⟨es,n,z2⟩|⟨v,z2⟩<;>(rw[t7.1]at z2;cases z2))
   rw[q1,q2.same (by rewrite (config:={}) [t7.1];intro es n q;cases q)]
theorem rJ(x:Act A fr n hd)(e:Value):Act (A.mark (some e)) fr n true:=⟨x.frames,fun z=>(by cases z),x.depth,x.units⟩
theorem uF(hfr:A.frames=some fr)(eo:um XR fr sc)(L:bY g XR fr XO h ρ H Y0)(f:qt g h₀ h ρ H k e)(st:Step own h₀ gP h ρ){Q:Unit->Shared->Prop}{E1 E2:Value->Shared->Prop}
  (hE:∀h',Step own h₀ gP h' ρ->bY g XR fr XO h' ρ H Y0->qt g h₀ h' ρ H k e->(∃oe vs T,h'.get? e=some oe/\oe.data=.fields vs/\vs[1]?=some (.ref T))->Q () (ez s h' tk)):
  wpAny g.M A (noteFrame (.ref e) XR) (fun _ zE=>wpAny g.M A (setFlight (.ref e) fl) Q E1 zE) E2 (ez s h tk):=by
 obtain⟨Lf,fe,outer,rfl,h1,h2⟩:=eo.frame;obtain⟨oe,vs,he,hd,htb⟩:=f.tb;rw[iD (show XR.frame=fe.frame by rw[h1,h2])];refine rI (B:=g.B) hfr L.mi.1 h1 he hd htb fun h1' P1=>?_
 have f1:=P1.Qe f L.inv st.alive;have L1:=P1.live f L;have kQ:=P1.step f L.mi st;obtain⟨Ww,ws,cE,T,oT,ts,a1,a2,a3,a4,a5,a6,a7,a8,a9,⟨x,mh⟩⟩:=P1.exc;refine kM (fr:=fe::outer) a3 rfl a4 a5 a7 a8 a9 mh fun h2' P2=>?_
 obtain⟨UH,XF,gz,T2,XH,XI,b1,b2,b3,b4,_⟩:=P2.exc;exact hE h2' (P2.step f1 L1.mi kQ) (P2.live f1 L1) (P2.Qe f1 L1.inv kQ.alive) ⟨_,gz,T2,b3,rfl,b4⟩
set_option tactic.hygienic true in
theorem Cx(hb:SS g false sc XO (execs body) b)(hf:∀hd,SS g hd sc XO (execs (Qt::fs)) f):SS g false sc XO (exec (.Try body [] [] (Qt::fs) pos)) (iO b f):=by
 intro n bk ho A XR fr s ρ H Y0 V Y3 aA Q E hq;unfold iO at aA;refine wpAny_Try_finally ?_;cases h1:b bk Y0 H with
 |none=>rw[h1]at aA;cases aA
 |some r1=>
  rw[h1]at aA;refine hb n bk ho V r1 h1 _ _ ?_;cases r1 with
  |next L1 H1=>
   intro h' aU aV st Lv;refine wpAny_execs_nil ?_;have V1:=V.wg (aU:=aU) Lv;have hq1:=hq.after (aU:=aU) st;refine hf false n bk ho V1 Y3 aA _ _ ?_;cases Y3 with
   |next L2 H2=>exact hq1
   |cont L2 H2=>exact hq1
   |ret p L2 H2=>exact hq1
   |exc k L2 H2=>exact hq1.px.B' V1
  |cont L1 H1=>
   intro h' aU aV st Lv;have V1:=V.wg (aU:=aU) Lv;have hq1:=hq.after (aU:=aU) st;dsimp only at aA;cases h2:f bk L1 H1 with
   |none=>rw[h2]at aA;cases aA
   |some r2=>
    rw[h2]at aA;refine hf false n bk ho V1 r2 h2 _ _ ?_;cases r2 with
    |next L2 H2=>cases aA;exact hq1
    |cont _ _=>cases aA
    |ret _ _ _=>cases aA
    |exc _ _ _=>cases aA
  |ret p L1 H1=>
   intro v h' aU aV st Lv r;have V1:=V.wg (aU:=aU) Lv;have hq1:=hq.after (aU:=aU) st;dsimp only at aA;cases h2:f bk L1 H1 with
   |none=>rw[h2]at aA;cases aA
   |some r2=>
    rw[h2]at aA;refine hf false n bk ho V1 r2 h2 _ _ ?_;cases r2 with
    |next L2 H2=>cases aA;exact fun h2 i9 pK eu Jg=>hq1 v h2 i9 pK eu Jg (Rep.stays (Lv.bq eu) r)
    |cont _ _=>cases aA
    |ret _ _ _=>cases aA
    |exc _ _ _=>cases aA
  |exc k L1 H1=>
   intro e h' aU aV st Lv fl;dsimp only at aA;cases h2:f bk L1 H1 with
   |none=>rw[h2]at aA;cases aA
   |some r2=>
    rw[h2]at aA;cases r2 with
    |cont _ _=>cases aA
    |ret _ _ _=>cases aA
    |exc _ _ _=>cases aA
    |next L2 H2=>
     dsimp only at aA
     split at aA
     ·rename_i hr;cases aA;obtain⟨Lf,fe,outer,hfe,g1,g2⟩:=V.d6.frame;have Xf:=hfe;obtain⟨oe,vs,he,hdd,htb⟩:=fl.tb;rw[iD (show XR.frame=fe.frame by rw[g1,g2])];refine rI (B:=g.B) (by rw[V.act.frames,hfe]) (by rw[<-hfe];exact Lv.mi.1) g1 he hdd htb fun h1' P1=>?_
      rw[<-hfe]at P1;have f1:=P1.Qe fl Lv.inv st.alive;have Qq:=P1.live fl Lv;have kQ:=P1.step fl Lv.mi st;refine⟨fun z=>(by cases z),?_⟩;refine uF (s:=s) V.act.frames V.d6 Qq f1 kQ fun h2' eu Jg f2 hT=>?_
      have V2:At g true sc XO n (A.mark (some (.ref e))) XR fr (ez s h2' aU) aV H1 L1:=⟨rJ V.act _,V.d6,Jg⟩
      refine hf true n bk ho V2 _ h2 _ _ ?_;intro h3 nH tu jx D4;have f3:=f2.keep (H':=H2) (J6:=L2) Jg jx hr;have Jh:=eu.trans jx;unfold PySem.passOn;obtain⟨XM,xc,he3,hd3,VM⟩:=f3.tb;obtain⟨UH,gz,T2,q1,q2,q3⟩:=hT;have hk2:h3.get? e=some UH:=by
       obtain⟨kd,hk⟩:=f2.2.1;obtain⟨e',z1,o',d',cE,z2,z3,_⟩:=Jg.inv.objs k _ hk;rw[f2.1]at z1;cases z1;rw[q1]at z2;cases z2;exact jx.exc _ _ q1 z3 ⟨_,q2⟩
      rw[he3]at hk2;cases hk2;rw[hd3]at q2;cases q2;rcases VM with z|⟨T,oT,ts,t1,t2,t5,t6,t7,x,t8⟩
      ·rw[z]at q3;cases q3
      ·refine aQ (wpAny_field he3 hd3 t1 ?_);rw[if_neg (show ¬ ((Value.ref T==Value.none)=true) from jY)];refine aQ (kM (fr:=fr) he3 hd3 t1 t2 t5 t6 t7 t8 fun h4 P4=>wpAny_throw ?_);exact hq e h4 nH tu (P4.step f3 D4.mi Jh) (P4.live f3 D4) (P4.Qe f3 D4.inv Jh.alive)
     ·cases aA
end
noncomputable abbrev ym:List Value:=[.type "Exception",.type "BaseException",.type "object"]
noncomputable def mX:List Str:=["__getattribute__","__getattr__","__setattr__","code","value","errorcode","level","ret","info","is_noted","line","extra"]
inductive bM(K:Frag):Prop
 |mk (nm q:Str) (N:Addr) (bs:List Value) (sn:List Str) (sub:List Value) (ab:Bool) (col:Option Bool) (dd:Option Addr) (k0 k1 k2 k3 k5:Option Value) (oN:Obj) (es:Array DictEntry) (ep:Nat) (h1:K.lookup RC=some (excClassObj nm q RC N bs ym true sn sub ab col dd k0 k1 k2 k3 k5 "Exception.__new__"))
  (h2:K.lookup N=some oN) (h3:oN.data=.dict es ep) (h4:(es.all fun e=>match e.key with|.str _ _=>true|_=>false)=true) (h5:(mX.all fun x=>(nsFind es x).isNone)=true) (h6:nsFind es "__init__"=some (.ref 81)):bM K
inductive G6(h:Heap):Prop
 |mk (nm q:Str) (N:Addr) (bs:List Value) (sn:List Str) (sub:List Value) (ab:Bool) (col:Option Bool) (dd:Option Addr) (k0 k1 k2 k3 k5:Option Value) (mN:Str->Option Value) (h1:h.get? RC=some (excClassObj nm q RC N bs ym true sn sub ab col dd k0 k1 k2 k3 k5 "Exception.__new__")) (h2:h.Ns N mN) (h3:∀x∈mX,mN x=none) (h4:mN "__init__"=some (.ref 81)):G6 h
set_option tactic.hygienic true in
theorem bM.cls{K:Frag}{h:Heap}(x:bM K)(X:K.In h):G6 h:=by
 obtain⟨nm,q,N,bs,sn,sub,ab,col,dd,k0,k1,k2,k3,k5,oN,es,ep,h1,h2,h3,h4,h5,h6⟩:=x;refine⟨nm,q,N,bs,sn,sub,ab,col,dd,k0,k1,k2,k3,k5,nsFind es,X _ _ h1,⟨oN,es,ep,X _ _ h2,h3,fun e he=>?_,fun _=>rfl⟩,fun y hy=>?_,h6⟩
 ·have:=Array.all_eq_true'.mp h4 e he
  split at this
  ·rename_i n t hk;exact⟨n,t,hk⟩
  ·cases this
 ·have:=eF.mp h5 y hy;exact Option.isNone_iff_eq_none.mp this
section
variable{XZ:Program}{w:World}{A:Around}{E:Value->Shared->Prop}{h:Heap}{g:Array GenState}{d:Drawn}{t:Nat}{os:OsState}{a:Addr}
 {nm q:Str}{C N x:Addr}{bs:List Value}{sn:List Str}{sub:List Value}{ab:Bool}{col:Option Bool}{dd:Option Addr}{k0 k1 k2 k3 k5:Option Value}{newId:String}{mN mA:Str->Option Value}{XQ:Str}{v:Value}
set_option backward.match.sparseCases true in
theorem notCls{α:Type}{M:Model}{Q:α->Shared->Prop}{s:Shared}{o:Obj}(h:∀c,o.data≠.cls c){f:ClassData->Sem α}{y:Sem α}(z:wpAny M A y Q E s):wpAny M A (match o.data with|.cls c=>f c|_=>y) Q E s:=by
 (generalize o.data=d at h ⊢;revert d;refine gA ?_;intros)
 cases d<;>first|exact z|exact absurd rfl (h _)
theorem xI{tk:Tok}{Q:Fin->Shared->Prop}(hC:h.get? C=some (excClassObj nm q C N bs ym true sn sub ab col dd k0 k1 k2 k3 k5 newId))(hn:h.Ns N mN)(hna:mN XQ=none)
  (hB:typeLookup (.type "Exception") XQ=pure none) (I:h.Inst x C mA) (hv:mA XQ=some v) (hq:Q (.done (.ret v)) ⟨h,g,d,t,os⟩):
  wpAny (model XZ w) A (Builtin.«object.__getattribute__» ⟨[.ref x,.str XQ tk],[]⟩) Q E ⟨h,g,d,t,os⟩:=by
 obtain⟨o,hx,hc,hnc,hd⟩:=I;rcases hd with ⟨_,hmA⟩|⟨dx,hdx,hne,hns⟩
 ·rw[hmA XQ]at hv;cases hv
 unfold Builtin.«object.__getattribute__»
 repeat(first|(with_reducible refine hF hx ?_;(rewrite (config:={}) [hc];try(with_reducible rfl)))|(with_reducible refine pL hC hn PySem.F.attrBase_Exception.mro hB ?_;(rewrite (config:={}) [hna];try(with_reducible rfl)))|wp_step)
 refine notCls hnc ?_;unfold instanceDict
 repeat(first|(with_reducible refine hF hx ?_;(rewrite (config:={}) [hc];try(with_reducible rfl)))|with_reducible refine hF hC ?_|wp_step)
 rw[hdx]
 repeat(first|(with_reducible refine wpAny_nsGet hns.ns ?_;(rewrite (config:={}) [hv];try(with_reducible rfl)))|wp_step)
 exact hq
theorem Cy{Q:Unit->Shared->Prop}(hC:h.get? C=some (excClassObj nm q C N bs ym true sn sub ab col dd k0 k1 k2 k3 k5 newId))(hx:h.get? x=some o)(hc:o.cls=.ref C)(hq:Q () ⟨h,g,d,t,os⟩):
  wpAny M A (checkBuiltinCall "BaseException.__getattribute__" ⟨[.ref x,TL],[]⟩) Q E ⟨h,g,d,t,os⟩:=by
 have hk:builtinKind "BaseException.__getattribute__"=some .slot:=by ac_rfl
 have Qu:splitId "BaseException.__getattribute__"=some ("BaseException","__getattribute__"):=by ac_rfl
 have hcB:(Value.ref C::ym).contains (.type "BaseException")=true:=by simp[ym]
 have ha:=PySem.F.args_bexc_ga (.ref x) TL;unfold checkBuiltinCall;rw[hk,Qu];dsimp only;refine aQ ?_
 ·unfold isInstance
  repeat(first|(with_reducible refine hF hx ?_;(rewrite (config:={}) [hc];try(with_reducible rfl)))|(with_reducible refine wpAny_isSubtype_exc hC ?_;(rewrite (config:={}) [hcB];try(with_reducible rfl)))|wp_step)
  exact hq
theorem zT{Q:Value->Shared->Prop}(hC:h.get? C=some (excClassObj nm q C N bs ym true sn sub ab col dd k0 k1 k2 k3 k5 newId))(hn:h.Ns N mN)(hng:mN "__getattribute__"=none)(hnh:mN "__getattr__"=none)(hna:mN XQ=none)
  (hB:typeLookup (.type "Exception") XQ=pure none) (I:h.Inst x C mA) (hv:mA XQ=some v) (hh:handedOut v=pure v) (hq:Q v ⟨h,g,d,t+1,os⟩):
  wpAny (model XZ w) A (getAttr (.ref x) XQ expr) Q E ⟨h,g,d,t,os⟩:=by
 obtain⟨o,hx,hc,_⟩:=id I;have FB:=PySem.F.attrBase_Exception;have f3:=FB.ga.bind (.ref x);have hx0:(expr&&onTheHeap (Value.builtin "BaseException.__getattribute__"))=false:=by cases expr<;>rfl
 have hx2:(Value.builtin "BaseException.__getattribute__"==Value.builtin "object.__getattribute__")=false:=by ac_rfl
 have hx1:(onTheHeap (Value.ref C)&&Value.builtin "BaseException.__getattribute__"==Value.builtin "object.__getattribute__")=false:=by rw[hx2];rfl
 unfold getAttr getAttrBy
 repeat(any_goals (first|assumption|(with_reducible refine hF hx ?_;(rewrite (config:={}) [hc];try(with_reducible rfl)))|(with_reducible refine pL hC hn FB.mro FB.ga.lookup ?_;(rewrite (config:={}) [hng];try(with_reducible rfl)))|(with_reducible refine pL hC hn FB.mro FB.noGetattr ?_;(rewrite (config:={}) [hnh];try(with_reducible rfl)))|wp_step))
 refine codeAny_call_builtin FB.ga.plain PySem.F.entry_bexc_ga (Cy hC hx hc (xI hC hn hna hB I hv ?_));show wpAny _ _ (handedOut v) _ _ _;rw[hh];exact bH hq
end
section
variable{g:eC}{hd:Bool}{sc:Scope}{XO:List Str}{n:Nat}{A:Around}{XR:Env}{fr:List Env}{s:Shared}{ρ gP own:List Addr}{H:MH}{Y0:Loc}{bk:g8}{h h' h₀:Heap}
theorem Ji(V:At g hd sc XO n A XR fr s ρ H Y0)(r:Rep s.heap ρ (.obj k) v)(hk:H[k]?=some (.exc rs kd))(hkd:H[kd]?=some (.attrs es)):
  ∃a mA,v=.ref a/\s.heap.Inst a RC mA/\∀x p,cG x es=some p->∃u,mA x=some u/\Rep s.heap ρ p u:=by
 obtain⟨a,rfl,h1⟩:=r;obtain⟨b,h2,o,d,vs,h3,h4,h5,h6,_,h7,h8⟩:=V.live.inv.objs k _ hk;rw[h1]at h2;cases h2;obtain⟨d',h9,mA,_,h10,h11⟩:=V.live.inv.objs kd _ hkd;rw[h7]at h9;cases h9;exact⟨a,mA,rfl,⟨o,h3,h4,(fun c q=>by rw[h6]at q;cases q),.inr ⟨d,h5,h8,h10⟩⟩,h11⟩
theorem Jj{α:Type}{x:α}{k:Nat}{f:Nat->Option α}{Z:Prop}(e:(match H[k]? with
  |some (.exc _ kd)=>f kd
  |_=>none)=some x) (z:∀rs kd,H[k]?=some (.exc rs kd)->f kd=some x->Z):Z:=by
 cases h:H[k]? with
 |none=>rw[h]at e;cases e
 |some o=>
  rw[h]at e;cases o with
  |exc rs kd=>exact z rs kd h e
  |_=>cases e
theorem Cz{α:Type}{x:α}{k:Nat}{f:List (Str×MV)->Option α}{Z:Prop}(e:(match H[k]? with
  |some (.attrs es)=>f es
  |_=>none)=some x) (z:∀es,H[k]?=some (.attrs es)->f es=some x->Z):Z:=by
 cases h:H[k]? with
 |none=>rw[h]at e;cases e
 |some o=>
  rw[h]at e;cases o with
  |attrs es=>exact z es h e
  |_=>cases e
theorem CA{XQ:Str}{Z:MV->Res MV->Prop}(z:∀k rs kd es u,H[k]?=some (.exc rs kd)->H[kd]?=some (.attrs es)->cG XQ es=some u->noFn u=true->Z (.obj k) (.val u H)):∀p Y3,gE XQ p H=some Y3->Z p Y3:=by
 intro p Y3 e;cases p with
 |obj k=>refine Jj e fun rs kd hk e=>Cz e fun es hkd e=>nz e fun u hu e=>bI e fun hn e=>?_;cases e;exact z k rs kd es u hk hkd hu hn
 |_=>cases e
theorem G7(G:g.Ok)(X:bM g.K){XQ:Str}{expr:Bool}(hl:XQ∈mX)(hB:typeLookup (.type "Exception") XQ=pure none):pJ g hd sc XO (fun v=>getAttr v XQ expr) (gE XQ):=by
 intro n A XR fr s ρ H Y0 V;refine CA fun k rs kd es u hk hkd hu hn v r Q E hq=>?_
 obtain⟨a,mA,rfl,I,h1⟩:=Ji V r hk hkd;obtain⟨w,h2,h3⟩:=h1 _ _ hu;obtain⟨nm,q,N,bs,sn,sub,ab,col,dd,k0,k1,k2,k3,k5,mN,hC,hN,hm,hi⟩:=X.cls (V.sG G);obtain⟨hp,gs,dr,tk,os⟩:=s;exact zT hC hN (hm _ (by ac_rfl)) (hm _ (by ac_rfl)) (hm _ hl) hB I h2 (handedOut_of (uq h3 hn)) (hq.ret V.live h3 _)
theorem G8(G:g.Ok)(X:bM g.K)(ha:SE g hd sc XO (eval a) ca)(hl:XQ∈mX:=by trivial)
  (hB:typeLookup (.type "Exception") XQ=pure none:=by trivial)
  (he:∀XR,eval (.Attribute a XQ pos) XR=(do
   let o<-eval a XR
   standAt pos.atName
   let r<-holding [o] (getAttr o XQ true)
   letTemporaryGo a o r
   pure r):=by trivial):SE g hd sc XO (eval (.Attribute a XQ pos)) (c1 (gE XQ) ca):=
 AX ha (G7 G X hl hB) fun _ _ _ _ _ h=>Attribute_any_ h (he _)
theorem find_erase{P:DictEntry->Bool}:∀(l:List DictEntry) (i:Nat),(∀e,l[i]?=some e->P e=false)->(l.eraseIdx i).find? P=l.find? P
 |[],_,_=>by simp
 |e::r,0,h=>by
  have:=h e rfl;simp[List.find?,this]
 |e::r,i+1,h=>by
  have:=find_erase r i fun e he=>h e he
  simp only[List.eraseIdx_cons_succ,List.find?_cons,this]
theorem Qv{m:Str->Option Value}{Q:Bool->Shared->Prop}{E:Value->Shared->Prop}(hn:s.heap.Ns a m)(hm:(m XQ).isSome=true)
  (h:∀h' m',h'.Ns a m'->(∀y,y≠XQ->m' y=m y)->Heap.SameBut a s.heap h'->(∀o,s.heap.get? a=some o->∃o',h'.get? a=some o'/\o'.cls=o.cls/\∃es n,o'.data=.dict es n)->Q true { s with heap:=h' }):wpAny M A (nsDel a XQ) Q E s:=by
 obtain⟨⟨c,d,dt,sl⟩,es,ep,ho,hd,hk,hmm⟩:=hn;dsimp only at hd;subst hd;have Xg:es.any (·.refKey)=false:=by
  rewrite (config:={}) [Array.any_eq_false'];intro e he;obtain⟨n,t,h⟩:=hk e he;simp[DictEntry.refKey,h]
 have KA:es.any (·.key.isStr XQ)=true:=by
  rw[<-hmm XQ]at hm;simp only[nsFind,findBy,Option.isSome_map]at hm;cases hf:es.find? (fun e=>e.key.isStr XQ)with
  |none=>rw[hf]at hm;cases hm
  |some e=>
   have h1:=Array.find?_some hf;exact Array.any_eq_true'.mpr ⟨e,Array.mem_of_find?_eq_some hf,h1⟩
 have VN:nsHas XQ ⟨c,d,.dict es ep,sl⟩=pure true:=by
  rw[nsHas_eq];unfold nsHasByArray;show(if(es.any fun x=>x.key.isStr XQ)=true then _ else _)=_;rw[if_pos KA]
 unfold nsDel;refine aQ (wpAny_loadPart ho ?_);rw[VN];refine aQ (bH ?_);rw[if_pos rfl];refine aQ (wpAny_updatePart ho (bH ?_));cases hi:es.findIdx? (·.key.isStr XQ)with
 |none=>
  exfalso
  rw[Array.findIdx?_eq_none_iff]at hi;obtain⟨i,hi2,hp⟩:=Array.any_eq_true.mp KA;rw[hi _ (Array.getElem_mem hi2)]at hp;cases hp
 |some i=>
  have e2:Obj.dropName XQ ⟨c,d,.dict es ep,sl⟩=⟨c,d,.dict (es.eraseIdxIfInBounds i) (ep+1),sl⟩:=by simp only[Obj.dropName_eq,Obj.dropNameByArray,hi]
  have hu:=kS (Obj.dropName XQ) ho (by rw[e2];rfl);rw[e2]at hu;refine h _ (nsFind (es.eraseIdxIfInBounds i)) ⟨_,_,_,hu,rfl,hk.erase i,fun _=>rfl⟩ (fun y hy=>?_) (pO ..) fun o e=>?_
  ·rw[<-hmm y];show(Array.find? _ _).map _=(Array.find? _ _).map _;rw[<-Array.find?_toList,<-Array.find?_toList];have hlt:i<es.size:=by
    obtain⟨hlt,_⟩:=Array.findIdx?_eq_some_iff_getElem.mp hi;exact hlt
   have e3:(es.eraseIdxIfInBounds i).toList=es.toList.eraseIdx i:=by
    unfold Array.eraseIdxIfInBounds;rw[dif_pos hlt,Array.toList_eraseIdx]
   rw[e3,find_erase];intro e he;have he':es[i]=e:=by
    rw[Array.getElem?_toList,Array.getElem?_eq_getElem hlt]at he;exact dQ he
   obtain⟨Xh,hp,_⟩:=Array.findIdx?_eq_some_iff_getElem.mp hi;have hp':e.key.isStr XQ=true:=by rw[<-he'];exact hp
   obtain⟨n2,t2,h2⟩:=hk e (he'▸Array.getElem_mem hlt);rw[h2]at hp' ⊢;simp only[Value.isStr,eG]at hp';simp only[Value.isStr,gZ];intro z;exact hy (by rw[<-hp',z])
  ·rw[ho]at e;cases e;exact⟨_,hu,rfl,_,_,rfl⟩
theorem CB(V:At g hd sc XO n A XR fr s ρ H Y0)(hi:XO[i]?=some x)(XX:XO.Nodup)(hk:sc.names.lookup x=some .local){Q:Unit->Shared->Prop}{E:Value->Shared->Prop}
  (hlt:i<Y0.length)
  (hq:∀h' aU,Step (ownOf XR) s.heap ρ h' ρ->bY g XR fr XO h' ρ H (Y0.set i none)->Q () (ez s h' aU)):wpAny g.M A (do bindName XR x .none;unbindBehindTheSuite XR x pos) Q E s:=by
 refine aQ (wpAny_bindName (gQ V hi XX (.inl hk) (q:=.none) rfl fun h1 uz kQ L1=>?_));have V1:=V.wg (aU:=uz) L1;have hkl:XR.kindOf x=some .local:=(V.kindOf x).trans hk;obtain⟨m,F,hv⟩:=L1.frame;have HZ:(Y0.set i (some MV.none))[i]?=some (some .none):=fQ hlt;obtain⟨u,hat,hu⟩:=hv i x .none hi HZ;have hm:(m x).isSome=true:=by
  rcases hat with ⟨_,c2⟩|⟨c,c1,_⟩
  ·rw[c2];rfl
  ·rw[hkl]at c1;rcases c1 with c1|c1<;>cases c1
 unfold unbindBehindTheSuite unbindName;refine wpAny_onRaise (aQ (wpAny_point (aQ ?_)));unfold deleteName;have hp:(XR.scope.kind==.class||(XR.scope.kind==.module&&XR.locals !=XR.globals))=false:=by
  have:=V.kind;rw[this];rfl
 simp only[hkl,hp];rw[if_neg (by decide)];refine aQ (Qv F.ns hm fun h' m' hn TM hs hc=>?_);simp only[c9,Bool.not_true,pQ,if_false];refine bH (wpAny_point ?_);obtain⟨ol,hol,Qh⟩:=L1.jH XR.locals (.head _);obtain⟨h2,h3⟩:=mW Qh;have xx:∃es n,ol.data=.dict es n:=by obtain⟨o,es,ep,ho,hd,_⟩:=F.ns;rw[hol]at ho;cases ho;exact⟨es,ep,hd⟩
 have hB:g.B.get? XR.locals=none:=iw F.above;obtain⟨k2,I'⟩:=L1.inv.own L1.locs hs.extBut hB fun o ho=>by
  rw[hol]at ho;cases ho;exact h2
 obtain⟨o',ho',hc',tv,n',hd'⟩:=hc ol hol;have st:Step (ownOf XR) h1 ρ h' ρ:=Step.own (.head _) hs.extBut (by rw[ho'];rfl) fun o ho=>by rw[hol]at ho;cases ho;exact h3
 refine hq h' _ (kQ.trans st) ⟨I',L1.mi.own hs.extBut fun o ho=>?_,⟨_,⟨hn,I'.stays,F.above⟩,fun j y p hj hpj=>?_⟩,L1.locs,L1.apart,fun y c hy=>?_,fun a ha=>?_,L1.tM⟩
 ·rw[hol]at ho;cases ho;exact fun _=>⟨o',ho',tv,n',hd'⟩
 ·rcases getElem?_set' hpj with ⟨rfl,e⟩|⟨hji,hpj⟩
  ·cases e
  ·have hyx:y≠x:=fun q=>by
    subst q;exact hji ((pR (cm.mp hj).1 XX).mp (hj.trans hi.symm))
   obtain⟨v,hat,hr⟩:=hv j y p hj (by rw[bB (Ne.symm hji)];exact hpj);refine⟨v,?_,Rep.stays k2 hr⟩;rcases hat with ⟨c1,c2⟩|⟨c,c1,c2,oc,hoc,hdc⟩
   ·exact .inl ⟨c1,(TM y hyx).trans c2⟩
   ·exact .inr ⟨c,c1,c2,oc,hs.extBut c oc (Ns.j9 F.ns ⟨oc,hoc,hdc⟩) hoc,hdc⟩
 ·obtain⟨c1,v,oc,hoc,hdc⟩:=L1.cells y c hy;exact⟨c1,v,oc,hs.extBut c oc (Ns.j9 F.ns ⟨oc,hoc,hdc⟩) hoc,hdc⟩
 ·by_cases z:a=XR.locals
  ·subst z;exact⟨o',ho',.inl ⟨tv,n',hd'⟩⟩
  ·obtain⟨o,ho,hk⟩:=L1.jH a ha;exact⟨o,hs.extBut a o z ho,hk⟩
theorem G9(G:g.Ok)(X:bM g.K){body:List Stmt}{Jk:Stmt}{Bc:List Stmt}{t:Expr}{x:Str}{HU pos:Pos}{i:Nat}{b f:CS}(hb:SS g false sc XO (execs body) b)(hf:SS g true sc XO (execs (Jk::Bc)) f)
  (ht:SE g true sc XO (eval t) (af (.fn (.ref RC)))) (hi:XO[i]?=some x) (XX:XO.Nodup) (hk:sc.names.lookup x=some .local):
  SS g false sc XO (exec (.Try body [.ExceptHandler (some t) (some x) (Jk::Bc) HU] [] [] pos)) (q0 i b f):=by
 intro n bk ho A XR fr s ρ H Y0 V Y3 aA Q E hq;unfold q0 at aA;refine wpAny_Try_except ?_;cases h1:b bk Y0 H with
 |none=>rw[h1]at aA;cases aA
 |some r1=>
  rw[h1]at aA;refine hb n bk ho V r1 h1 _ _ ?_;cases r1 with
  |next L1 H1=>cases aA;exact fun h' aU aV st Lv=>wpAny_execs_nil (hq h' aU aV st Lv)
  |cont L1 H1=>cases aA;exact hq
  |ret p L1 H1=>cases aA;exact hq
  |exc k L1 H1=>
   intro e h' aU aV st Lv fl;dsimp only at aA;cases h2:f bk (L1.set i (some (.obj k))) H1 with
   |none=>rw[h2]at aA;cases aA
   |some r2=>
    rw[h2]at aA;cases r2 with
    |cont _ _=>cases aA
    |ret _ _ _=>cases aA
    |exc _ _ _=>cases aA
    |next L2 H2=>
     dsimp only at aA;by_cases hlt:i<L2.length
     case neg=>rw[if_neg hlt]at aA;cases aA
     rw[if_pos hlt]at aA;cases aA;refine uF (s:=s) V.act.frames V.d6 Lv fl st fun h2' eu Jg f2 hT=>?_
     have V2:At g true sc XO n (A.mark (some (.ref e))) XR fr (ez s h2' aU) aV H1 L1:=⟨rJ V.act _,V.d6,Jg⟩
     refine wpAny_handleBy_cons (codeAny_handlers_test ?_) (fun q=>by cases q);refine ht n bk ho V2 (.val (.fn (.ref RC)) H1) rfl _ _ ?_;intro u h3 nH tu jx D4 r3;have hu:u=.ref RC:=r3;subst hu;have V3:=V2.to (aU:=nH) D4;obtain⟨kd,hk1⟩:=f2.2.1;have f3:=f2.keep (H':=H1) (J6:=L1) Jg jx (by unfold jf;rw[hk1]);have Jh:=eu.trans jx;obtain⟨nm,q,N,bs,sn,sub,ab,col,dd,k0,k1,k2,k3,k5,mN,hC,hN,hm,hi'⟩:=X.cls (V3.sG G);obtain⟨oe,vs,he,hdd,htb⟩:=f3.tb;have Qw:oe.cls=.ref RC:=by
      obtain⟨e',z1,o',d',cE,z2,z3,_⟩:=D4.inv.objs k _ hk1;rw[f3.1]at z1;cases z1;rw[he]at z2;cases z2;exact z3
     refine wpAny_excMatches_sub_self hC he Qw (by decide) ?_;have hT2:∃T,vs[1]?=some (.ref T):=by
      obtain⟨UH,gz,T2,q1,q2,q3⟩:=hT;have TN:UH.cls=.ref RC:=by
       obtain⟨e',z1,o',d',cE,z2,z3,_⟩:=Jg.inv.objs k _ hk1;rw[f2.1]at z1;cases z1;rw[q1]at z2;cases z2;exact z3
      have:=jx.exc _ _ q1 TN ⟨_,q2⟩;rw[he]at this;cases this;rw[hdd]at q2;cases q2;exact⟨T2,q3⟩
     obtain⟨T2,hT2⟩:=hT2;rcases htb with z|⟨T,oT,ts,t1,t2,t5,t6,t7,y,t8⟩
     ·rw[z]at hT2;cases hT2
     ·refine codeAny_handlers_suite_as (kM (fr:=fr) he hdd t1 t2 t5 t6 t7 t8 fun h4 P4=>?_);have ur:=P4.step f3 D4.mi Jh;have TJ:=P4.live f3 D4;have V4:At g true sc XO n (A.mark (some (.ref e))) XR fr (ez s h4 nH) tu H1 L1:=⟨rJ V.act _,V.d6,TJ⟩
      refine gQ V4 hi XX (.inl hk) (q:=.obj k) ⟨e,rfl,f3.1⟩ fun h5 R6 B4 Xi=>?_
      have V5:At g true sc XO n (A.mark (some (.ref e))) XR fr (ez s h5 R6) tu H1 (L1.set i (some (.obj k))):=⟨rJ V.act _,V.d6,Xi⟩
      refine hf n bk ho V5 _ h2 _ _ ?_;intro h6 FV Kz Cu TK;have V6:At g false sc XO n A XR fr (ez s h6 FV) Kz H2 L2:=⟨V.act,V.d6,TK⟩
      refine CB V6 hi XX hk hlt fun h7 VO UI Xj=>?_
      exact hq h7 VO Kz (((ur.trans B4).trans Cu).trans UI) Xj
end
section
variable{M:Model}{A:Around}{E:Value->Shared->Prop}{XR:Env}
theorem G'{Q:Flow->Shared->Prop}(hh:A.handled=none)
  (h:wpAny M A x (fun v j0=>∃e oe vs,v=.ref e/\G6 j0.heap/\j0.heap.get? e=some oe/\oe.cls=.ref RC/\oe.data=.fields vs/\vs[1]?=some .none/\E (.ref e) j0) E s):
  wpAny M A (raiseStmt XR (some x) none) Q E s:=by
 have hcB:(Value.ref RC::ym).contains (.type "BaseException")=true:=by decide
 unfold raiseStmt;refine aQ (wpAny_mono h (fun v j0 h₁=>?_) fun _ _ x=>x);obtain⟨e,oe,vs,rfl,⟨nm,q,N,bs,sn,sub,ab,col,dd,k0,k1,k2,k3,k5,mN,hC,_⟩,he,Qw,hd,h1,hE⟩:=h₁;obtain⟨hp,g,d,tk,os⟩:=j0
 repeat(first|(with_reducible refine hF he ?_;(rewrite (config:={}) [Qw];try(with_reducible rfl)))|with_reducible refine hF hC ?_|(with_reducible refine wpAny_isSubtype_exc hC ?_;(rewrite (config:={}) [hcB];try(with_reducible rfl)))|with_reducible refine wpAny_field he hd h1 ?_|wp_step)
 exact wpAny_raiseNew_none hh hE
end
section
variable{g:eC}{hd:Bool}{sc:Scope}{XO:List Str}{n:Nat}{A:Around}{XR:Env}{fr:List Env}{s:Shared}{ρ gP own:List Addr}{H:MH}{Y0:Loc}{bk:g8}{h h' h₀:Heap}
theorem Inv.raised(I:Inv g h ρ H)(hk:H[k]?=some (.exc false kd)):Inv g h ρ (H.set k (.exc true kd)):=by
 refine⟨I.stays,by simp[I.len],I.nodup,I.new,fun i o e=>?_⟩;by_cases hi:i=k
 ·subst hi;have:i<H.length:=by have:=(cm.mp e).1;simpa using this
  rw[fQ this]at e;cases e;obtain⟨a,h1,o,d,vs,h2,h3,h4,h5,_,h6⟩:=I.objs i _ hk;exact⟨a,h1,o,d,vs,h2,h3,h4,h5,(fun z=>by cases z),h6⟩
 ·rw[bB (Ne.symm hi)]at e;exact I.objs i o e
theorem Ga{α:Type}{x:α}{k:Nat}{f:Nat->Option α}{Z:Prop}(e:(match H[k]? with
  |some (.exc false kd)=>f kd
  |_=>none)=some x) (z:∀kd,H[k]?=some (.exc false kd)->f kd=some x->Z):Z:=by
 cases h:H[k]? with
 |none=>rw[h]at e;cases e
 |some o=>
  rw[h]at e;cases o with
  |exc rs kd=>cases rs with
   |false=>exact z kd h e
   |true=>cases e
  |_=>cases e
theorem Gb(G:g.Ok)(X:bM g.K){e:Expr}{pos:Pos}{c:CE}(he:SE g false sc XO (eval e) c):SS g false sc XO (exec (.Raise (some e) none pos)) (g' c):=by
 intro n bk ho A XR fr s ρ H Y0 V Y3 aA Q E hq;unfold g' at aA;rw[arm_exec_Raise];refine aQ (wpAny_standAt ?_);show wpAny _ _ (raiseStmt XR (some (do let v<-eval e XR;standAt pos;pure v)) none) _ _ _;refine G' (V.act.handled rfl) (aQ ?_);refine he.aW ho V aA hq.px fun p H' v h' aU aV e1 st V' r=>?_
 refine aQ (wpAny_standAt (bH ?_));cases p with
 |obj k=>
  refine bI e1 fun XY e1=>Ga e1 fun kd hk e1=>?_
  cases e1;obtain⟨a,rfl,hka⟩:=r;obtain⟨b,h1,o,d,vs,h2,h3,h4,h5,h6,h7⟩:=V'.live.inv.objs k _ hk;rw[hka]at h1;cases h1;refine⟨_,o,vs,rfl,X.cls (V'.sG G),h2,h3,h5,h6 rfl,?_⟩;have I':=V'.live.inv.raised hk;have Lv:bY g XR fr XO h' aV (H'.set k (.exc true kd)) Y0:=by
   have L:=V'.live;exact⟨I',L.mi,L.frame,L.locs,L.apart,L.cells,L.jH,L.tM⟩
  refine hq a h' aU aV st Lv ⟨hka,⟨kd,?_⟩,?_,o,vs,h2,h5,.inl (h6 rfl)⟩
  ·have:k<H'.length:=(cm.mp hk).1;rw[fQ this]
  ·obtain⟨r,rfl,hr⟩:=st.pre;rw[ib (by rw[V.live.inv.len];exact XY)]at hka;exact hr a (d8 hka)
 |_=>cases e1
end
section
variable{g:eC}{hd:Bool}{sc:Scope}{XO:List Str}{n:Nat}{A:Around}{XR:Env}{fr:List Env}{s:Shared}{ρ gP aV own:List Addr}{H:MH}{Y0:Loc}{bk:g8}{h h' h₀:Heap}
theorem Step.drop(st:Step own h ρ h' aV)(k:∀a∈own,h.get? a=none):Step [] h ρ h' aV:=
 ⟨st.pre,fun b o e h1 _=>st.kept b o e h1 fun q=>(by rw[k b q]at e;cases e),st.alive,st.exc⟩
theorem sV:∀{xs:List Str}{vs:List Value}{i:Nat}{x:Str}{v:Value},xs.Nodup->xs[i]?=some x->vs[i]?=some v->(xs.zip vs).reverse.lookup x=some v:=by
 intro xs vs i x v XX hx hv;have Cr:(x,v)∈(xs.zip vs).reverse:=by
  rw[List.mem_reverse];refine d8 (i:=i) ?_;rw[List.getElem?_zip_eq_some];exact⟨hx,hv⟩
 have TO:∀w,(x,w)∈(xs.zip vs).reverse->w=v:=by
  intro w hw;rw[List.mem_reverse]at hw;obtain⟨j,hj⟩:=List.mem_iff_getElem?.mp hw;rw[List.getElem?_zip_eq_some]at hj;have:j=i:=(pR (cm.mp hj.1).1 XX).mp (hj.1.trans hx.symm);subst this;rw[hv]at hj;exact(dQ hj.2).symm
 have:∀(l:List (Str×Value)),(x,v)∈l->(∀w,(x,w)∈l->w=v)->l.lookup x=some v:=by
  intro l
  induction l with
  |nil=>intro h;cases h
  |cons p r ih=>
   intro hm hu;obtain⟨y,u⟩:=p;rw[pT];by_cases q:x=y
   ·subst q;simp only[nT];rw[hu u (.head _)]
   ·have hq:(x==y)=false:=gZ.mpr q;rw[hq];rcases bS.mp hm with hm|hm
    ·cases hm;exact absurd rfl q
    ·exact ih hm fun w hw=>hu w (.tail _ hw)
 exact this _ Cr TO
structure Bd(g:eC)(a:Addr)(par:Nat)(jJ:List MV)(fd:FuncData)(body:List Stmt)(XO:List Str):Prop where
 obj:∃(oc:Value) (od:Option Addr) (xw:Array (Option Value)),g.K.lookup a=some ⟨oc,od,.func fd,xw⟩
 keep:keepIn g.K (.ref a)=true
 stmts:fd.body=.stmts body
 code:codeIn g.K fd.code fd.qualname=true
 globals:fd.globals=mainGlobals
 builtins:fd.builtins=builtinsNs
 closure:fd.closure=[]
 Gd:∀x∈fd.scope.names,x.2≠.cell
 Xk:fd.scope.isCoroutine=false
 Wz:fd.scope.isGenerator=false
 kind:fd.scope.kind=.function
 nodup:XO.Nodup
 Xl:(XO.take par).length=par
 VP:∀x∈XO.take par,fd.scope.names.lookup x=some .local
 binds:∀(s:Shared) (ρ:List Addr) (XS:List MV) (vs:List Value),g.K.In s.heap->aX s.heap ρ XS vs->XS.length<=par->par<=XS.length+jJ.length->
  ∃ws,BindsTo s fd ⟨vs,[]⟩ ((XO.take par).zip ws)/\aX s.heap ρ (XS++jJ.drop (XS.length+jJ.length-par)) ws
set_option backward.match.sparseCases true in
theorem uG(G:g.Ok)(D:Bd g a par jJ fd body XO)(XY:XS.length<=par/\par<=XS.length+jJ.length)(X:sH A fr (n+1))(I:Inv g s.heap ρ H)(F:Frs g.B s.heap ρ fr)(hsz:g.B.objs.size<=s.heap.objs.size)(r:aX s.heap ρ XS vs){R:Result->Shared->Prop}
  (iJ:∀L h₀ aU,s.heap.get? L=none->bL s.heap h₀->(∀b∈ownOf (callEnv fd L a),s.heap.get? b=none)->
   At g false fd.scope XO n (A.deeper (callEnv fd L a)) (callEnv fd L a) (callEnv fd L a::fr) (ez s h₀ aU) ρ H
    ((XS++jJ.drop (XS.length+jJ.length-par)).map some++List.replicate (q9-(XS++jJ.drop (XS.length+jJ.length-par)).length) none)->
   wpAny g.M (A.deeper (callEnv fd L a)) (execs body (callEnv fd L a)) (fun f s'=>R (.ok (.ret (match f with|.ret v=>v|_=>.none))) s')
    (fun e s'=>wpAny g.M (A.deeper (callEnv fd L a)) (leaving (callEnv fd L a) e) (fun _ Te=>R (.error e) Te) (fun e' Te=>R (.error e') Te) s') (ez s h₀ aU)):
  codeAny g.M A (.call (.ref a) ⟨vs,[]⟩) R s:=by
 obtain⟨⟨oc,od,xw,h1⟩,F8,h2,h3,h4,h5,h6,h7,h8,h9,h10,h11,h13,h14,sW⟩:=D;have XK:g.K.In s.heap:=G.sG.keeps I.stays;obtain⟨ws,hb,WA⟩:=sW s ρ XS vs XK r XY.1 XY.2
 (generalize TP:XS++jJ.drop (XS.length+jJ.length-par)=nO at iJ WA;revert nO;refine gA ?_;intros)
 have hal:nO.length=par:=by rw[<-TP,bJ,mr];exact LQ XY
 (generalize hps:XO.take par=params at h13 h14 hb;revert params;refine gA ?_;intros)
 have hpn:params.Nodup:=by rw[<-hps];exact h11.sublist (List.take_sublist _ _)
 refine codeAny_call_def (fd:=fd) (body:=body) (binds:=params.zip ws) ?_ (XK _ _ h1) rfl (G.top.nolimit.keeps I.stays) (codeRec_of XK h3) h2 hb h7 (fun x hx=>h14 _ (List.of_mem_zip hx).1) (fun h₀ hns hk=>?_) h8 h9 h10
 ·have:=X.depth;exact LR this
 have hL0:s.heap.get? s.heap.objs.size=none:=eV _
 (generalize hLe:s.heap.objs.size=L at hns hL0 ⊢;revert L;refine gA ?_;intros)
 have k0:bL s.heap h₀:=hk;have I0:=I.grow k0;have hLρ:L∉ρ:=fun q=>by obtain⟨ob,z,_⟩:=I.live q;rw[hL0]at z;cases z
 have hBL:g.B.get? L=none:=iw (by exact Dj hsz hLe);obtain⟨oL,es,ep,hoL,hdL,Qx,hmL⟩:=hns;have hns:h₀.Ns L (fun x=>(params.zip ws).reverse.lookup x):=⟨oL,es,ep,hoL,hdL,Qx,hmL⟩
 have TQ:∀x,(callEnv fd L a).kindOf x=fd.scope.names.lookup x:=fun x=>rfl
 have CC:(callEnv fd L a).frame=some L:=rfl;have F0:Frs g.B h₀ ρ (callEnv fd L a::fr):=by
  have F1:=F.step (aV:=ρ) (.grow k0);refine⟨⟨by show fd.scope.kind≠_;rw[h10];decide,⟨L,oL,CC,hBL,hoL,fun vs q=>by rw[hdL]at q;cases q⟩,F1.1⟩,fun e he L' hL'=>?_⟩
  rcases bS.mp he with rfl|he
  ·rw[CC]at hL';cases hL';exact⟨hLρ,oL,es,ep,hoL,hdL⟩
  ·exact F1.2 e he L' hL'
 have gR:(callEnv fd L a).cells=[]:=h6;have Lv:bY g (callEnv fd L a) (callEnv fd L a::fr) XO h₀ ρ H (nO.map some++List.replicate (q9-nO.length) none):=by
  refine⟨I0,F0,⟨_,⟨hns,I0.stays,by show g.B.objs.size<=L;exact Dj hsz hLe⟩,fun i x p hx hp=>?_⟩,hLρ,?_,?_,fun b hb'=>?_,?_⟩
  ·have hi:i<nO.length:=by
    by_cases z:i<nO.length
    ·exact z
    ·rw[ib (by rw[bR];exact LV hal z)]at hp;have:=d8 hp;rw[List.mem_replicate]at this;cases this.2
   rw[iG (by rw[bR];exact hi),dP]at hp;obtain⟨p',hp',e⟩:=Option.map_eq_some_iff.mp hp;cases e;obtain⟨v,hv,hr⟩:=WA.get hp';have hx':params[i]?=some x:=by rw[<-hps,List.getElem?_take_of_lt (by exact LW hal hi)];exact hx
   exact⟨v,.inl ⟨(TQ x).trans (h14 x (d8 hx')),sV hpn hx' hv⟩,by have:=k0.bq (ρ:=ρ) (r:=[]);rw[bp]at this;exact Rep.stays this hr⟩
  ·rewrite (config:={}) [gR];intro b hb';cases hb'
  ·intro y c hy;rw[gR]at hy;cases hy
  ·have:b=L:=by
    unfold ownOf at hb';rw[gR]at hb';exact c8.mp hb'
   subst this;exact⟨oL,hoL,.inl ⟨es,ep,hdL⟩⟩
  ·rewrite (config:={}) [gR];intro b hb';cases hb'
 have Pb:Act (A.deeper (callEnv fd L a)) (callEnv fd L a::fr) n false:=by
  refine⟨Around.frames_deeper X.frames,fun _=>X.handled,?_,?_⟩
  ·have:=X.depth;show A.depth+1+3*n+10<=recursionLimit;exact LX this
  ·have:=X.units;show A.units+3+20*n+100<=cLine;exact LY this
 have heo:um (callEnv fd L a) (callEnv fd L a::fr) fd.scope:=by
  refine⟨rfl,h10,h4,h5,⟨L,_,fr,rfl,CC,CC⟩,fun x hx=>?_,fun x y c hx=>by rw[gR]at hx;cases hx⟩
  exact absurd rfl (h7 (x,.cell) (mem_of_lookup hx))
 have xJ:∀b∈ownOf (callEnv fd L a),s.heap.get? b=none:=fun b hb'=>by
  have:b=L:=by
   unfold ownOf at hb';rw[gR]at hb';exact c8.mp hb'
  rw[this];exact hL0
 exact iJ L h₀ _ hL0 k0 xJ ⟨Pb,heo,Lv⟩
structure bf(g:eC)(a:Addr)(d:Def):Prop where
 ex:∃fd body XO,Bd g a d.par d.jJ fd body XO/\SS g false fd.scope XO (execs body) d.body
theorem Ge(G:g.Ok)(D:bf g a d)(ho:me g n bk)(XY:XS.length<=d.par/\d.par<=XS.length+d.jJ.length)
  (aA:dj d.loc d.body bk (XS++d.jJ.drop (XS.length+d.jJ.length-d.par)) H=some Y3) (X:sH A fr (n+1)) (I:Inv g s.heap ρ H) (F:Frs g.B s.heap ρ fr) (hsz:g.B.objs.size<=s.heap.objs.size) (r:aX s.heap ρ XS vs)
  {Q E:Value->Shared->Prop}(hq:AW g s ρ Y3 Q E):codeAny g.M A (.call (.ref a) ⟨vs,[]⟩) (AV Q E) s:=by
 obtain⟨fd,body,XO,FO,iJ⟩:=D.ex;refine uG (q9:=d.loc) G FO XY X I F hsz r fun L h₀ aU hL0 k0 xJ V=>?_
 have CC:(callEnv fd L a).frame=some L:=rfl;have TA:∀{h' aV},Step (ownOf (callEnv fd L a)) h₀ ρ h' aV->Step [] s.heap ρ h' aV:=fun st=>((Step.grow k0).trans st).drop xJ
 unfold dj at aA
 (generalize XS++d.jJ.drop (XS.length+d.jJ.length-d.par)=nO at aA V;revert nO;refine gA ?_;intros)
 cases hr:d.body bk (nO.map some++List.replicate (d.loc-nO.length) none) H with
 |none=>rw[hr]at aA;cases aA
 |some r1=>
  rw[hr]at aA;refine iJ n bk ho V r1 hr _ _ ?_;cases r1 with
  |cont _ _=>cases aA
  |next L1 H1=>
   cases aA;exact fun h' aU aV st CD=>hq .none h' aU aV (TA st) CD.inv rfl
  |ret p L1 H1=>
   cases aA;exact fun v h' aU aV st CD r'=>hq v h' aU aV (TA st) CD.inv r'
  |exc k L1 H1=>
   cases aA;intro e h' aU aV st CD fl;obtain⟨oe,cE,he,hdd,htb⟩:=fl.tb;refine zP (B:=g.B) (Around.frames_deeper X.frames) CD.mi.1 CC he hdd htb fun h2 P=>?_
   have VQ:=fl.old k0.alive;have r8:=TA st;exact hq e h2 aU aV (P.step VQ CD.mi r8) (P.inv VQ CD.inv CD.mi) (P.Qe VQ CD.inv r8.alive)
end
section
variable{g:eC}{hd:Bool}{sc:Scope}{XO:List Str}{n:Nat}{A:Around}{XR:Env}{fr:List Env}{s:Shared}{ρ gP aV own:List Addr}{H H':MH}{Y0:Loc}{bk:g8}{h h' h₀:Heap}
structure lR(XR:Env)(sc dK:Scope)(XO:List Str)(x:Str)(fs:List Nat)(ys:List Str)(cl:List (Str×Addr)):Prop where
 TR:closureFor dK XR=pure cl
 kind:dK.kind=.function
 Gd:∀y∈dK.names,y.2≠.cell
 locals:∀y∈dK.names,y.2=.local->dK.names.lookup y.1=some .local
 j2:dK.names.lookup x=some .local
 sub:∀y c,cl.lookup y=some c->XR.cells.lookup y=some c
 xK:∀c∈cl.map (·.2),∃y,cl.lookup y=some c
 WB:∀(j:Nat) (y:Str),ys[j]?=some y->∃i:Nat,fs[j]?=some i/\XO[i]?=some y/\(∃c,cl.lookup y=some c)/\(relabel dK XR).names.lookup y=some .cell
 Xm:∀y c,cl.lookup y=some c->∃j:Nat,ys[j]?=some y
 Xn:∀(j:Nat) (y:Str),ys[j]?=some y->XR.kindOf y=some .cell
 Jl:∀y,(relabel dK XR).names.lookup y=some .cell->∃c,cl.lookup y=some c
 len:ys.length=fs.length
variable{dK:Scope}{x:Str}{fs:List Nat}{ys:List Str}{cl:List (Str×Addr)}{C:Addr}
noncomputable abbrev Qy(x:Option MV)(fs:List Nat)(Y0:Loc):Loc:=x::fs.map fun i=>(Y0[i]?).join
theorem bY.inner(L:bY g XR fr XO h ρ H Y0)(ci:lR XR sc dK XO x fs ys cl){m:Str->Option Value}(hns:h.Ns C m)(hρ:C∉ρ)(hB:g.B.objs.size<=C):bY g (compEnvC dK cl C XR) fr (x::ys) h ρ H (Qy none fs Y0):=by
 obtain⟨m',F,hv⟩:=L.frame;refine⟨L.inv,L.mi,⟨m,⟨hns,L.inv.stays,hB⟩,fun i y p hy hp=>?_⟩,hρ,fun a ha=>?_,fun y c hc=>L.cells y c (ci.sub y c hc),fun a ha=>?_,fun a ha=>?_⟩
 ·cases i with
  |zero=>simp at hp
  |succ j=>
   simp only[iH]at hy hp;obtain⟨i,hi,hni,⟨c,hc⟩,hk⟩:=ci.WB j y hy;rw[dP,hi]at hp;simp only[Option.map_some,Option.some.injEq]at hp;have hp':Y0[i]?=some (some p):=by
    cases q:Y0[i]? with
    |none=>rw[q]at hp;cases hp
    |some z=>rw[q]at hp;simp only[Option.join_some]at hp;rw[hp]
   obtain⟨v,hat,hr⟩:=hv i y p hni hp';refine⟨v,.inr ⟨c,.inl hk,hc,?_⟩,hr⟩;rcases hat with ⟨hl,_⟩|⟨c',_,hc',xM⟩
   ·rw[ci.Xn j y hy]at hl;cases hl
   ·rw[ci.sub y c hc]at hc';cases hc';exact xM
 ·obtain⟨y,hy⟩:=ci.xK a ha;exact L.apart a (lookup_mem (ci.sub y a hy))
 ·rcases bS.mp ha with rfl|ha
  ·obtain⟨o,es,ep,ho,hd,_⟩:=hns;exact⟨o,ho,.inl ⟨es,ep,hd⟩⟩
  ·obtain⟨y,hy⟩:=ci.xK a ha;exact L.jH a (.tail _ (lookup_mem (ci.sub y a hy)))
 ·obtain⟨y,hy⟩:=ci.xK a ha;exact L.tM a (lookup_mem (ci.sub y a hy))
theorem bY.uH(e:XR.cells.lookup y=some c):c∈ownOf XR:=.tail _ (lookup_mem e)
theorem bY.outer(L:bY g XR fr XO h ρ H Y0)(ci:lR XR sc dK XO x fs ys cl)(inj:∀y z c,XR.cells.lookup y=some c->XR.cells.lookup z=some c->y=z)(XX:XO.Nodup)
  (hns:∃m,h.Ns C m) (hCe:C∉ownOf XR) (st:Step (ownOf (compEnvC dK cl C XR)) h ρ h' aV) (L2:bY g (compEnvC dK cl C XR) fr (x::ys) h' aV H' (Qy xv fs Y0)):bY g XR fr XO h' aV H' Y0:=by
 obtain⟨m,F,hv⟩:=L.frame;have BZ:∀a,a∈ownOf (compEnvC dK cl C XR)->a=C\/a∈cl.map (·.2):=fun a ha=>bS.mp ha
 have hL:XR.locals∉ownOf (compEnvC dK cl C XR):=fun ha=>by
  rcases BZ _ ha with e|e
  ·exact hCe (e▸.head _)
  ·obtain⟨y,hy⟩:=ci.xK _ e;obtain⟨_,v,hc⟩:=L.cells y _ (ci.sub y _ hy);exact Ns.j9 F.ns hc rfl
 have k2:fc h ρ h' aV:=by
  obtain⟨r,rfl,hr⟩:=st.pre;refine⟨fun i a e=>by rw[iG (cm.mp e).1];exact e,fun a o e q=>?_⟩;obtain⟨o',e',s'⟩:=st.kept a o e (fun ha=>by
   obtain⟨ob,h1,h2,h3,_⟩:=L.inv.live ha;rw[e]at h1;cases h1;rcases q with q|q
   ·exact h2 q.1
   ·exact h3 q.1) (fun ha=>by
   have hd:(∃es n,o.data=.dict es n)\/∃v,o.data=.cell v:=by
    rcases BZ a ha with rfl|ha
    ·obtain⟨m,o2,es,ep,ho2,hd2,_⟩:=hns;rw[e]at ho2;cases ho2;exact .inl ⟨es,ep,hd2⟩
    ·obtain⟨y,hy⟩:=ci.xK a ha;obtain⟨o2,ho2,hk2⟩:=L.jH a (.tail _ (lookup_mem (ci.sub y a hy)));rw[e]at ho2;cases ho2;exact hk2
   rcases q with ⟨_,xs,n,q⟩|⟨q,_⟩
   ·rcases hd with ⟨es,m,h2⟩|⟨v,h2⟩<;>(rw[q]at h2;cases h2)
   ·rcases hd with ⟨es,m,h2⟩|⟨v,h2⟩<;>(rw[q]at h2;cases h2))
  rw[e',s'.same (by
   rcases q with ⟨_,xs,n,q⟩|⟨q,_⟩
   ·rewrite (config:={}) [q];intro es n e;cases e
   ·rewrite (config:={}) [q];intro es n e;cases e)]
 have hcC:∀y c,XR.cells.lookup y=some c->c∉cl.map (·.2)->c∉ownOf (compEnvC dK cl C XR):=fun y c hy hn q=>by
  rcases BZ c q with rfl|q
  ·exact hCe (bY.uH hy)
  ·exact hn q
 have qQ:∀c v,c∉ρ->c∉ownOf (compEnvC dK cl C XR)->h.IsCell c v->h'.IsCell c v:=fun c v hc hn ⟨o,ho,hd⟩=>by
  obtain⟨o',ho',hs⟩:=st.kept c o ho hc hn;exact⟨o',ho',hs.data.trans hd⟩
 obtain⟨oL,WC,WD,hoL,hdL,hkL,hfL⟩:=F.ns;obtain⟨WE,TU,hsL⟩:=st.kept XR.locals oL hoL L.locs hL;refine⟨L2.inv,L2.mi,⟨m,⟨⟨WE,WC,WD,TU,hsL.data.trans hdL,hkL,hfL⟩,L2.inv.stays,F.above⟩,fun i y p hy hp=>?_⟩,?_,?_,?_,?_,L.tM⟩
 ·obtain⟨v,hat,hr⟩:=hv i y p hy hp;rcases hat with hat|⟨c,c1,c2,c3⟩
  ·exact⟨v,.inl hat,Rep.stays k2 hr⟩
  ·by_cases hc:c∈cl.map (·.2)
   ·obtain⟨y',hy'⟩:=ci.xK c hc;obtain rfl:y'=y:=inj _ _ c (ci.sub y' c hy') c2;obtain⟨j,hj⟩:=ci.Xm y' c hy';obtain⟨i',hi',TV,_,hk'⟩:=ci.WB j y' hj;obtain rfl:i'=i:=(pR (cm.mp TV).1 XX).mp (TV.trans hy.symm);obtain⟨m2,F2,hv2⟩:=L2.frame;obtain⟨v2,VR,hr2⟩:=hv2 (j+1) y' p (by simpa using hj) (by
     show(fs.map fun i=>(Y0[i]?).join)[j]?=_;rw[dP,hi'];simp[hp])
    rcases VR with ⟨z1,_⟩|⟨c',z1,z2,z3⟩
    ·have:(compEnvC dK cl C XR).kindOf y'=some .cell:=hk';rw[this]at z1;cases z1
    ·have WG:cl.lookup y'=some c':=z2;rw[hy']at WG;cases WG;exact⟨v2,.inr ⟨c,c1,c2,z3⟩,hr2⟩
   ·exact⟨v,.inr ⟨c,c1,c2,qQ c _ (L.cells y c c2).1 (hcC y c c2 hc) c3⟩,Rep.stays k2 hr⟩
 ·exact fun q=>L.locs (st.mem q (by rw[hoL];rfl))
 ·intro a ha q;obtain⟨o,ho,_⟩:=L.jH a (.tail _ ha);exact L.apart a ha (st.mem q (by rw[ho];rfl))
 ·intro y c hy;by_cases hc:c∈cl.map (·.2)
  ·obtain⟨y',hy'⟩:=ci.xK c hc;exact L2.cells y' c hy'
  ·obtain⟨h1,v,h2⟩:=L.cells y c hy;refine⟨fun q=>h1 (st.mem q ?_),v,qQ c v h1 (hcC y c hy hc) h2⟩;obtain⟨o,ho,_⟩:=h2;rw[ho];rfl
 ·intro a ha;rcases bS.mp ha with rfl|ha'
  ·exact⟨WE,TU,.inl ⟨WC,WD,hsL.data.trans hdL⟩⟩
  ·by_cases hc:a∈cl.map (·.2)
   ·exact L2.jH a (.tail _ hc)
   ·obtain⟨o,ho,hk⟩:=L.jH a ha;have hn:a∉ownOf (compEnvC dK cl C XR):=fun q=>by
     rcases BZ a q with rfl|q
     ·exact hCe ha
     ·exact hc q
    obtain⟨o',ho',hs⟩:=st.kept a o ho (L.apart a ha') hn;exact⟨o',ho',by rw[hs.data];exact hk⟩
end
section
variable{g:eC}{hd:Bool}{sc:Scope}{XO:List Str}{n:Nat}{A:Around}{XR:Env}{fr:List Env}{s:Shared}{ρ gP aV own:List Addr}{H H':MH}{Y0:Loc}{bk:g8}{h h' h₀:Heap}
variable{dK:Scope}{x:Str}{fs:List Nat}{ys:List Str}{cl:List (Str×Addr)}{C:Addr}
theorem Step.TX(st:Step (a::own) h ρ h' aV)(k:h.get? a=none):Step own h ρ h' aV:=
 ⟨st.pre,fun b o e h1 h2=>st.kept b o e h1 fun q=>(by rcases bS.mp q with rfl|q;rw[k]at e;cases e;exact h2 q),st.alive,st.exc⟩
noncomputable def Gf:Src->Prop
 |.lst _ _=>True
 |.str _ _=>True
 |_=>False
theorem CF(it:oA s.heap ρ I src)(hs:Gf src){Q E:Value->Shared->Prop}(h:Q (.ref I) s):wpAny g.M A (pyIter (.ref I)) Q E s:=by
 cases src with
 |lst k i=>obtain⟨a,_,hit⟩:=it;exact wpAny_pyIter_listiter hit h
 |str y i=>
  obtain⟨_,t,hit⟩:=it;by_cases ha:y.cps.all (·<128)=true
  ·have hT':strIterType y="str_ascii_iterator":=by simp[strIterType,ha]
   rw[hT']at hit;exact wpAny_pyIter_striter_ascii hit h
  ·have hT':strIterType y="str_iterator":=by simp[strIterType,ha]
   rw[hT']at hit;exact wpAny_pyIter_striter_wide hit h
 |tup _ _=>cases hs
 |Hr _ _=>cases hs
theorem vG(e:ff p H=some src):srcOf p H=some src/\Gf src:=by
 unfold ff at e;cases h:srcOf p H with
 |none=>rw[h]at e;cases e
 |some r=>
  rw[h]at e;cases r<;>cases e<;>exact⟨rfl,trivial⟩
inductive rK(g:eC)(XR:Env)(fr:List Env)(XO:List Str)(s:Shared)(ρ:List Addr)(n:Nat)(Y0:Loc)(I C D:Addr)(P:Nat->Src->MH->Prop):Nat->Shared->Prop
 |mk {m:Nat}(h':Heap) (aU:Nat) (aV:List Addr) (H1:MH) (gX:Src) (st:Step (ownOf XR) s.heap ρ h' aV) (lv:bY g XR fr XO h' aV H1 Y0) (it:oA h' aV I gX) (ns:∃m,h'.Ns C m) (hc:C∉aV) (hr:aV[n]?=some D) (e:P m gX H1):
  rK g XR fr XO s ρ n Y0 I C D P m (ez s h' aU)
section
variable{elt iter:Expr}{px pos:Pos}{eA:CE}{I D:Addr}{acc:Nat}
theorem Gg(ci:lR XR sc dK XO x fs ys cl)(st:Step (ownOf (compEnvC dK cl C XR)) h1 FF h2 pK):Step (C::ownOf XR) h1 FF h2 pK:=st.mono fun b hb=>by
 rcases bS.mp hb with rfl|hb
 ·exact .head _
 ·obtain⟨w,hw⟩:=ci.xK b hb;exact .tail _ (bY.uH (ci.sub w b hw))
noncomputable def Turn(eA:CE)(fl:Loc)(acc m:Nat)(bk:g8)(H H':MH):Option (MV×Src)->Prop
 |none=>H=H'
 |some q=>∃y H6 z H7,eA bk (some q.1::fl) H=some (.val y H6)/\dW (.obj acc) y H6=some (.val z H7)/\gG eA fl acc m q.2 bk H7=some (.val () H')
noncomputable def CN(eA:CE)(fl:Loc)(acc:Nat)(bk:g8)(H':MH)(m:Nat)(src:Src)(H1:MH):Prop:=gG eA fl acc m src bk H1=some (.val () H')
theorem CG(e:(match eA bk (some q.1::fl) H with
  |some (.val y H)=>bindR (dW (.obj acc) y H) fun _ H=>gG eA fl acc m q.2 bk H
  |_=>none)=some (.val () H')) (hid:¬Turn eA fl acc m bk H H' (some q)):False:=by
 cases e5:eA bk (some q.1::fl) H with
 |none=>rw[e5]at e;cases e
 |some r5=>
  rw[e5]at e;cases r5 with
  |exc _ _=>cases e
  |val y H6=>
   dsimp only at e;cases e7:dW (.obj acc) y H6 with
   |none=>rw[e7]at e;cases e
   |some r7=>
    rw[e7]at e;cases r7 with
    |exc _ _=>cases e
    |val z H7=>exact hid ⟨y,H6,z,H7,e5,e7,e⟩
theorem zU(e:CN eA fl acc bk H' N src H):∃m rr,N=m+1/\dM src H=some rr/\Turn eA fl acc m bk H H' rr:=by
 refine Mine.Internal.hide fun hid=>?_
 unfold CN at e;cases N with
 |zero=>cases e
 |succ m=>
  cases hn:dM src H with
  |none=>rw[rv]at e;rw[hn]at e;cases e
  |some rr=>
   cases rr with
   |none=>rw[rv]at e;rw[hn]at e;cases e;exact hid ⟨m,none,rfl,hn,rfl⟩
   |some qs=>exact CG (by rw[rv]at e;rw[hn]at e;exact e) fun T=>hid ⟨m,some qs,rfl,hn,T⟩
theorem zV(V:At g false sc XO n A XR fr s ρ H Y0)(ho:me g n bk)(ci:lR XR sc dK XO x fs ys cl)(XX:XO.Nodup)(vH:(x::ys).Nodup)(he:SE g false (relabel dK XR) (x::ys) (eval elt) eA)
  (hI0:s.heap.get? I=none) (hBI:g.B.get? I=none) (hIC:I≠C) (hBC:g.B.objs.size<=C) (hC0:s.heap.get? C=none) (Gh:C∉ownOf XR) {Qn:Shared->Prop}
  (hQ:∀h' aU aV,C∉aV->(∃m,h'.Ns C m)->Step (ownOf XR) s.heap ρ h' aV->bY g XR fr XO h' aV H' Y0->aV[acc]?=some D->Qn (ez s h' aU)) {E:Value->Shared->Prop}{J:Shared->Prop}
  (inv:rK g XR fr XO s ρ acc Y0 I C D (CN eA (fs.map fun i=>(Y0[i]?).join) acc bk H') m j0) (hJ:∀zW m',m'<m->rK g XR fr XO s ρ acc Y0 I C D (CN eA (fs.map fun i=>(Y0[i]?).join) acc bk H') m' zW->J zW):
  wpAny g.M A (pyNext (.ref I)) (fun r j0=>match r with
   |none=>Qn j0
   |some v=>wpAny g.M A (assign (.Name x px) (compEnvC dK cl C XR) v) (fun _ zE=>wpAny g.M A (eval elt (compEnvC dK cl C XR)) (fun y Qz=>
     wpAny g.M A (call (.builtin "list.append") [.ref D,y]) (fun _ zW=>J zW) E Qz) E zE) E j0) E j0:=by
 obtain⟨h1,uz,FF,H1,TH,kQ,Qq,VL,⟨m1,VS⟩,hC1,hr1,e1⟩:=inv;obtain⟨m,rr,rfl,hn,T⟩:=zU e1;obtain⟨oc,ec,nc,hoc,rc⟩:=VS;refine Ba (V.wg (aU:=uz) Qq) VL hBI hn (fun hr h2 he L4=>?_) fun q G4 hr v2 h2 i9 hx L4 UG rq=>?_
 ·exact hQ h2 uz FF hC1 ⟨m1,oc,ec,nc,he C oc (Ne.symm hIC) hoc,rc⟩ (kQ.iq he hI0) ((show H1=H' by subst hr;exact T)▸L4) hr1
 ·obtain⟨y,H6,z,H7,e5,e7,e8⟩:=(show Turn eA _ acc m bk H1 H' (some (q,G4)) from hr▸T)
  have WH:h2.Ns C m1:=⟨oc,ec,nc,hx C oc (Ne.symm hIC) hoc,rc⟩
  have Lc:=L4.inner ci WH hC1 hBC;have Vc:At g false (relabel dK XR) (x::ys) n A (compEnvC dK cl C XR) fr (ez s h2 i9) FF H1 (Qy none fs Y0):=
   ⟨V.act,⟨rfl,ci.kind,V.d6.globals,V.d6.builtins,V.d6.frame,ci.Jl,fun y z c hy hz=>V.d6.inj y z c (ci.sub y c hy) (ci.sub z c hz)⟩,Lc⟩
  refine assign_Name (gQ Vc (i:=0) rfl vH (.inl (lookup_relabel_local ci.j2)) rq fun h5 R6 B4 L5=>?_);have V5:=Vc.wg (aU:=R6) L5;refine he n bk ho V5 _ e5 _ _ fun yv h6 FV Kz Cu L6 ry=>?_
  have hr6:=(L5.bq Cu).pre _ _ hr1;refine uA (V5.wg (aU:=FV) L6) (.obj acc) [y] _ e7 (.ref D) ⟨D,rfl,hr6⟩ [yv] ⟨yv,[],rfl,ry,rfl⟩ _ _ fun zv h7 VO Xo UI L7 _=>?_
  have VT:=(B4.trans Cu).trans UI;obtain⟨m7,F7,_⟩:=L7.frame;exact hJ _ m (nU _) (.mk h7 VO Xo H7 G4 (Step.TX (a:=C) (((kQ.iq hx hI0).mono fun b hb=>.tail _ hb).trans (Gg ci VT)) hC0) (L4.outer ci V.d6.inj XX ⟨m1,WH⟩ Gh VT L7) (UG.step Lc hBI VT) ⟨m7,F7.ns⟩ L7.locs ((L6.bq UI).pre _ _ hr6) e8)
theorem Jm(V:At g false sc XO n A XR fr s ρ H Y0)(ho:me g n bk)(ci:lR XR sc dK XO x fs ys cl)(XX:XO.Nodup)(vH:(x::ys).Nodup)(Gi:Gf src)
  (he:SE g false (relabel dK XR) (x::ys) (eval elt) eA) (hN:CN eA (fs.map fun i=>(Y0[i]?).join) H.length bk H' N src (H++[.list []]))
  {RR:Value->Addr->Result->Shared->Prop}
  (hRR:∀D C h' aU aV,s.heap.get? C=none->C∉aV->(∃m,h'.Ns C m)->Step (ownOf XR) s.heap ρ h' aV->bY g XR fr XO h' aV H' Y0->aV[H.length]?=some D->RR (.ref D) C (.ok .next) (ez s h' aU)) {m0:Str->Option Value}(hH1:s.heap.push o=H1) (hH2:H1.push { cls:=.type "list",dict:=none,data:=.seq ([]:List Value).toArray }=H2) (hIe:s.heap.objs.size=I) (hD:H1.objs.size=D) (hCe:H2.objs.size=C)
  (hit:oA H1 ρ I src) (hns:h3.Ns C m0) (hsb:Heap.SameBut C (H2.push { cls:=.type dc,data:=.dict #[] }) h3):
  codeAny g.M A (.compStart (.ListComp elt [⟨.Name x px,iter,[],0⟩] dK pos) 0 (.ref I) (.ref D) (compEnvC dK cl C XR)) (RR (.ref D) C) (ez s h3 nH):=by
 have hBs:=V.live.size;have k1:bL s.heap H1:=hH1▸bL.push _ _;have L1:=V.live.grow k1;have hDe:D=I+1:=by rw[<-hD,<-hH1,Heap.size_push];exact aY (·+1) hIe
 have hDC:C=D+1:=by rw[<-hCe,<-hH2,Heap.size_push,hD]
 have k2:bL H1 H2:=hH2▸bL.push _ _;have hDn:H1.get? D=none:=by rw[<-hD];exact eV _
 have L2:=L1.push (a:=D) (o:=.list []) k2 (aT hD) ⟨eW _,[],⟨0,by rw[<-hD,<-hH2];exact fR _ rfl⟩,rfl⟩;have hCn:H2.get? C=none:=by rw[<-hCe];exact eV _
 have k3:bL H2 h3:=fun b ob e=>hsb.extBut b ob (fun q=>by rw[q,hCn]at e;cases e) (iv _ e)
 have jx:=(Step.grow (own:=ownOf XR) (ρ:=ρ) k1).trans ((Step.push k2 hDn).trans (.grow k3));have hI0:s.heap.get? I=none:=by rw[<-hIe];exact eV _
 have hC0:s.heap.get? C=none:=k1.alive _ (k2.alive _ hCn);have hBI:g.B.get? I=none:=iw (by rw[<-hIe];exact hBs);have TY:=hit.step L1 hBI ((Step.push k2 hDn).trans (.grow k3));have Gh:C∉ownOf XR:=fun q=>by
  obtain⟨ob,z,_⟩:=V.live.jH C q;rw[hC0]at z;cases z
 have loop:codeAny g.M A (.compLoop (.ListComp elt [⟨.Name x px,iter,[],0⟩] dK pos) 0 (.ref I) (.ref D) (compEnvC dK cl C XR)) (RR (.ref D) C) (ez s h3 nH):=
  codeAny_compLoop_list (rK g XR fr XO s ρ H.length Y0 I C D (CN eA (fs.map fun i=>(Y0[i]?).join) H.length bk H'))
   (fun m j0 inv=>zV V ho ci XX vH he hI0 hBI (by rw[hDC,hDe];exact hG (Nat.lt_succ_of_lt (nU I))) (by rw[hDC,hDe,<-hIe];exact aN hBs (aN (jc _) (jc _))) hC0 Gh
    (fun h' aU aV h1 h2 h3 h4 h5=>hRR D C h' aU aV hC0 h1 h2 h3 h4 h5) inv fun zW m' h1 h2=>⟨m',h1,h2⟩) N
   (.mk h3 _ (ρ++[D]) (H++[.list []]) src jx (L2.grow k3) TY ⟨_,hns⟩ (fun q=>by
    obtain⟨ob,z,_⟩:=L2.inv.live q;rw[hCn]at z;cases z) (by rw[<-V.live.inv.len,ib (ao _),k8];rfl) hN)
 exact codeAny_compStart_list loop (CF (ρ:=ρ++[D]) TY Gi loop)
theorem xN(V:At g false sc XO n A XR fr s ρ H Y0)(ho:me g n bk)(ci:lR XR sc dK XO x fs ys cl)(XX:XO.Nodup)(vH:(x::ys).Nodup)(r:Rep s.heap ρ p v)(qw:ff p H=some src)
  (he:SE g false (relabel dK XR) (x::ys) (eval elt) eA) (hN:gG eA (fs.map fun i=>(Y0[i]?).join) H.length N src bk (H++[.list []])=some (.val () H'))
  {E:Value->Shared->Prop}{RR:Value->Addr->Result->Shared->Prop}
  (hRR:∀D C h' aU aV,s.heap.get? C=none->C∉aV->(∃m,h'.Ns C m)->Step (ownOf XR) s.heap ρ h' aV->bY g XR fr XO h' aV H' Y0->aV[H.length]?=some D->RR (.ref D) C (.ok .next) (ez s h' aU)):
  wpAny g.M A (pyIter v) (fun it zE=>wpAny g.M A (newList []) (fun acc Qz=>wpAny g.M A (newFunctionEnv dK XR.globals cl [] XR.qual none .none (some XR)) (fun TZ zW=>
   codeAny g.M A (.compStart (.ListComp elt [⟨.Name x px,iter,[],0⟩] dK pos) 0 it acc { TZ with scope:=relabel dK XR }) (RR acc TZ.locals) zW) E Qz) E zE) E s:=by
 obtain⟨U0,Gi⟩:=vG qw;refine Bb V r U0 fun o hit=>pS (wpAny_newFunctionEnv ci.Gd (by intro y hy;simp at hy) (fun h3 hns hsb=>?_) ci.kind)
 exact Jm V ho ci XX vH Gi he hN hRR rfl rfl rfl rfl rfl hit hns hsb
end
end
section
variable{g:eC}{hd:Bool}{sc:Scope}{XO:List Str}{n:Nat}{A:Around}{XR:Env}{fr:List Env}{s:Shared}{ρ gP aV own:List Addr}{H H':MH}{Y0:Loc}{bk:g8}{h h' h₀:Heap}
variable{dK:Scope}{x:Str}{fs:List Nat}{ys:List Str}{cl:List (Str×Addr)}{C:Addr}
theorem vI(V:bY g XR fr XO s.heap ρ H Y0)(hC0:s.heap.get? C=none)(hC:C∉aV):lQ g XR fr h aV C:=by
 refine⟨hC,fun q=>?_,fun e he hf=>?_,?_⟩
 ·obtain⟨o,z,_⟩:=V.jH C q;rw[hC0]at z;cases z
 ·obtain⟨_,o,es,m,z,_⟩:=V.mi.2 e he C hf;rw[hC0]at z;cases z
 ·cases q:g.B.get? C with
  |none=>rfl
  |some o=>rw[V.inv.stays _ _ q]at hC0;cases hC0
theorem xO(e:dW p q H=some Y3):∃z H',Y3=.val z H':=by
 cases p with
 |obj k=>refine ew e fun xs h e=>bI e fun hz e=>?_;cases e;exact⟨_,_,rfl⟩
 |_=>cases e
theorem uI:∀{N:Nat}{src:Src}{H:MH}{Y3:Res Unit},gG eA Xp acc N src bk H=some Y3->∃H',Y3=.val () H':=by
 intro N
 induction N with
 |zero=>intro _ _ _ e;cases e
 |succ N ih=>
  intro src H Y3 e;rw[rv]at e;cases h0:dM src H with
  |none=>rw[h0]at e;cases e
  |some t=>cases t with
   |none=>rw[h0]at e;cases e;exact⟨_,rfl⟩
   |some t=>
    rw[h0]at e;dsimp only at e;cases h1:eA bk (some t.1::Xp) H with
    |none=>rw[h1]at e;cases e
    |some t1=>cases t1 with
     |exc _ _=>rw[h1]at e;cases e
     |val y H1=>
      rw[h1]at e;dsimp only at e;cases h:dW (.obj acc) y H1 with
      |none=>rw[h]at e;cases e
      |some r=>
       obtain⟨z,H2,rfl⟩:=xO h;rw[h]at e;exact ih e
theorem Be(hit:SE g false sc XO (eval iter) ci)(hci:∀XR fr,um XR fr sc->∃cl,lR XR sc dK XO x fs ys cl)(XX:XO.Nodup)(vH:(x::ys).Nodup)
  (he:∀XR:Env,XR.scope=sc->SE g false (relabel dK XR) (x::ys) (eval elt) eA) (hs:∀XR v,foldedSetIterable iter XR v=pure v:=by trivial):
  SE g false sc XO (eval (.ListComp elt [⟨.Name x px,iter,[],0⟩] dK pos)) (cR fs eA ci):=by
 intro n bk ho A XR fr s ρ H Y0 V Y3 aA Q E hq;obtain⟨cl,cin⟩:=hci XR fr V.d6;unfold cR at aA
 (generalize many=N at aA;revert N;refine gA ?_;intros)
 rw[eval_ListComp];refine wpAny_comprehension_free (use:=none) rfl (hs XR) cin.TR cin.kind cin.locals ?_;show wpAny _ _ (eval iter XR) _ _ _;refine hit.bind ho V aA hq.px fun p H1 v h1 uz FF e1 kQ V1 r=>?_
 cases qw:ff p H1 with
 |some src=>
  rw[qw]at e1;dsimp only at e1;cases e2:gG eA (fs.map fun i=>(Y0[i]?).join) H1.length N src bk (H1++[.list []])with
  |none=>rw[e2]at e1;cases e1
  |some r2=>
   rw[e2]at e1;cases r2 with
   |exc _ _=>obtain⟨H9,e9⟩:=uI e2;cases e9
   |val u H2=>
    cases e1;refine xN V1 ho cin XX vH r qw (he XR V.d6.scope) (H':=H2) e2 fun D C h' aU aV hC0 hCρ hns st Lv hD=>?_
    obtain⟨m,hm⟩:=hns;refine⟨m,hm,fun h'' Gj=>?_⟩;have a:=vI (h:=h') V1.live hC0 hCρ;have CD:=Lv.iq a Gj.extBut fun o ho2=>by
     obtain⟨oc,ec,nc,hoc,hdc,_⟩:=hm;rw[hoc]at ho2;cases ho2;rw[hdc];exact⟨fun _ _ q=>(by cases q),fun q=>(by cases q)⟩
    exact(hq.after (aU:=uz) kQ) (.ref D) h'' aU aV (st.iq Gj.extBut hC0) CD ⟨D,rfl,hD⟩
 |none=>rw[qw]at e1;cases e1
theorem zX(hit:SE g false sc XO (eval iter) ci)(hci:∀XR fr,um XR fr sc->∃cl,lR XR sc dK XO x fs ys cl)(XX:XO.Nodup)(vH:(x::ys).Nodup)
  (he:∀XR:Env,XR.scope=sc->SE g false (relabel dK XR) (x::ys) (eval elt) eA) (hi:XO[i]?=some y) (hk:jz sc y)
  (hsw:∀XR:Env,XR.scope=sc->swapsWith (.ListComp elt [⟨.Name x px,iter,[],0⟩] dK pos) (some (.Name y yp)) CH.line XR=pure true) (hs:∀XR v,foldedSetIterable iter XR v=pure v:=by trivial):
  SS g false sc XO (exec (.Assign [.Name y yp] (.ListComp elt [⟨.Name x px,iter,[],0⟩] dK pos) CH)) (aO i (cR fs eA ci)):=by
 intro n bk ho A XR fr s ρ H Y0 V Y3 aA Q E hq;obtain⟨cl,cin⟩:=hci XR fr V.d6;rw[exec_Assign_Name_used y yp _ CH (hsw XR V.d6.scope)];refine aQ (wpAny_standAt (aQ ?_));unfold aO cR at aA
 (generalize many=N at aA;revert N;refine gA ?_;intros)
 show wpAny _ _ (do let _<-comprehension (.ListComp elt [⟨.Name x px,iter,[],0⟩] dK pos) dK XR (firstIterPos [⟨.Name x px,iter,[],0⟩] pos) (newList []) false (eval iter XR) (some (assign (.Name y yp) XR))) _ _ _;refine aQ (wpAny_comprehension_free (use:=some (assign (.Name y yp) XR)) rfl (hs XR) cin.TR cin.kind cin.locals ?_);have U1:Mine.Internal.aW (ci bk Y0 H) Y0 (fun p H1=>Mine.Internal.aW (match ff p H1 with|some src=>bindR (gG eA (fs.map fun i=>(Y0[i]?).join) H1.length N src bk (H1++[.list []])) fun _ H'=>some (.val (.obj H1.length) H')|none=>none) Y0 fun v H=>some (.next (Y0.set i (some v)) H))=some Y3:=by
  rw[<-aA];cases ci bk Y0 H with
  |none=>rfl
  |some r=>cases r<;>rfl
 refine hit.aW ho V U1 hq.px fun p H1 v h1 uz FF e1 kQ V1 r=>?_
 cases qw:ff p H1 with
 |none=>rw[qw]at e1;cases e1
 |some src=>
  rw[qw]at e1;dsimp only at e1;cases e2:gG eA (fs.map fun i=>(Y0[i]?).join) H1.length N src bk (H1++[.list []])with
  |none=>rw[e2]at e1;cases e1
  |some r2=>
   obtain⟨H2,rfl⟩:=uI e2;rw[e2]at e1;cases e1;refine xN V1 ho cin XX vH r qw (he XR V.d6.scope) (H':=H2) e2 fun D C h' aU aV hC0 hCρ hns st Lv hD=>?_
   have V2:=V1.wg (aU:=aU) Lv;refine assign_Name (gQ V2 hi XX hk (q:=.obj H1.length) ⟨D,rfl,hD⟩ fun h3 nH jx L3=>?_);have VU:∃m,h3.Ns C m:=by
    obtain⟨m,oc,ec,nc,hoc,hdc,rc⟩:=hns;have a:=vI (h:=h') V1.live hC0 hCρ;obtain⟨o',ho',hs'⟩:=jx.kept C oc hoc hCρ a.own;exact⟨m,o',ec,nc,ho',hs'.data.trans hdc,rc⟩
   obtain⟨m,hm⟩:=VU;refine⟨m,hm,fun h'' Gj=>?_⟩;have U2:C∉aV:=hCρ;have a:=vI (h:=h3) V1.live hC0 U2;have CD:=L3.iq a Gj.extBut fun o ho2=>by
    obtain⟨oc,ec,nc,hoc,hdc,_⟩:=hm;rw[hoc]at ho2;cases ho2;rw[hdc];exact⟨fun _ _ q=>(by cases q),fun q=>(by cases q)⟩
   refine bH (bH ?_);exact(hq.after (aU:=uz) kQ) h'' nH aV ((st.trans jx).iq Gj.extBut hC0) CD
end
section
variable{XZ:Program}{w:World}{A:Around}{E:Value->Shared->Prop}{h:Heap}{g:Array GenState}{d:Drawn}{t:Nat}{os:OsState}{e:Addr}
theorem xP{Q:Unit->Shared->Prop}(X:G6 h)(he:h.get? e=some o)(hc:o.cls=.ref RC)(hq:Q () ⟨h,g,d,t,os⟩):
  wpAny M A (checkBuiltinCall "Exception.__init__" ⟨.ref e::rest,[]⟩) Q E ⟨h,g,d,t,os⟩:=by
 obtain⟨nm,q,N,bs,sn,sub,ab,col,dd,k0,k1,k2,k3,k5,mN,hC,hN,hm,hi⟩:=X;have F:=PySem.F.excBase_Exception;have hcB:(Value.ref RC::ym).contains (.type "Exception")=true:=by decide
 simp only[checkBuiltinCall,F.initKind,F.initSplit,F.initRow];refine aQ ?_
 ·unfold isInstance
  repeat(first|(with_reducible refine hF he ?_;(rewrite (config:={}) [hc];try(with_reducible rfl)))|(with_reducible refine wpAny_isSubtype_exc hC ?_;(rewrite (config:={}) [hcB];try(with_reducible rfl)))|wp_step)
  refine wpAny_onRaise ?_;show wpAny M A (Bind.check ⟨.positional,"*","Exception",.self,[⟨"args",.varPos,false⟩]⟩ _ _ _ []) Q _ _;rw[check_star_args];exact bH hq
theorem zY{Q:Value->Shared->Prop}(X:G6 h)(he:h.get? e=some o)(hc:o.cls=.ref RC)(hd:o.data=.fields vs)(h0:vs[0]?=some (.ref t0))
  (hq:Q .none ⟨(h.push { cls:=.type "tuple",data:=.seq #[v] }).update e (Obj.mapFields (·.setIfInBounds 0 (.ref h.objs.size))),g,d,t,os⟩):
  wpAny (model XZ w) A (call (.builtin "Exception.__init__") [.ref e,v]) Q E ⟨h,g,d,t,os⟩:=by
 have F:=PySem.F.excBase_Exception;refine wpAny_call (codeAny_call_builtin F.init.plain F.initEntry (xP X he hc ?_));unfold Builtin.«BaseException.__init__»;dsimp only;rw[if_neg (by simp)];unfold newTuple Builtin.BaseException.bexcPut;have hsz:0<vs.size:=(u6.mp h0).1;have he₁:=iv (h:=h) { cls:=.type "tuple",data:=.seq #[v] } he;refine aQ (pS (aQ (aQ (wpAny_field he₁ hd h0 (aQ (wpAny_setField he₁ hd hsz ?_))))) (by show 1<=sizeLine;decide));exact wpAny_letGo (bH hq)
end
section
variable{g:eC}{XO:List Str}{XR:Env}{fr:List Env}{ρ gP own:List Addr}{H:MH}{Y0:Loc}{h h' h₀:Heap}{S:Addr->Prop}
end
end Mine.Internal
end
noncomputable section
open PySem PySem.W PyProof.Rows PySem.Calls
open Builtin Builtin.ObjectAttr
namespace Mine.Internal
section
variable{XZ:Program}{w:World}{A:Around}{E:Value->Shared->Prop}{h:Heap}{g:Array GenState}{d:Drawn}{t:Nat}{os:OsState}{e:Addr}
theorem zZ(x:h.DictOf (strKind XZ w) a bD):h.Ns1 a (valueAt bD):=by
 obtain⟨o,es,ep,ho,hx,hd,hk,hp,hn⟩:=x;refine⟨o,es,ep,ho,hd,fun e he=>?_,?_,fun XQ=>?_⟩
 ·obtain⟨k,h1,_⟩:=hk e he;obtain⟨t,ht⟩:=Value.isStrOf_shape h1;exact⟨k,t,ht⟩
 ·have:∀(es:List DictEntry) (bD:List (Str×Value)),Pairs (strKind XZ w) es bD->(bD.map (·.1)).Nodup->es.Pairwise fun a b=>∀n,a.key.isStr n=true->b.key.isStr n=true->False:=by
   intro es bD h
   induction h with
   |nil=>intro _;exact .nil
   | @cons e kv es bD h1 h2 h3 ih=>
    intro hn;rw[cT,List.nodup_cons]at hn;refine .cons (fun b hb n p q=>?_) (ih hn.2);have e1:n=kv.1:=(PySem.strKind XZ w).inj _ _ _ (by rw[isStr_of]at p;exact p) h1;have:∀(es:List DictEntry) (bD:List (Str×Value)),Pairs (strKind XZ w) es bD->b∈es->n∈bD.map (·.1):=by
     intro es bD h
     induction h with
     |nil=>intro h;cases h
     | @cons e kv es bD h1 h2 h3 ih=>
      intro hb;rcases bS.mp hb with rfl|hb
      ·have:n=kv.1:=(PySem.strKind XZ w).inj _ _ _ (by rw[isStr_of]at q;exact q) h1;rw[this];exact .head _
      ·exact .tail _ (ih hb)
    exact hn.1 (e1▸this _ _ h3 hb)
  exact this _ _ hp hn
 ·rw[<-hp.find XQ];show(Array.find? _ _).map _=_;rw[<-Array.find?_toList]
  congr 1
  congr 1
  funext e;exact isStr_of XQ e.key
variable{nm q:Str}{C N x:Addr}{bs:List Value}{sn:List Str}{sub:List Value}{ab:Bool}{col:Option Bool}{dd:Option Addr}{k0 k1 k2 k3 k5:Option Value}{newId:String}{mN:Str->Option Value}{XQ:Str}{v:Value}
theorem nP(bD:List (Str×Value)):(stored bD XQ v).length<=bD.length+1:=by
 unfold stored
 split
 ·rw[bR];exact lU
 ·rw[bJ];exact ao _
noncomputable def VV(XZ:Program)(w:World)(h:Heap)(x:Addr)(o:Obj)(bD:List (Str×Value))(P:Heap->Nat->Prop):Prop:=
 ∀h' aU dx,(o.dict=some dx\/(o.dict=none/\dx=h.objs.size))->dx≠x->h'.get? x=some { o with dict:=some dx }->h'.DictOf (strKind XZ w) dx bD->
  (∀b ob,b≠x->b≠dx->h.get? b=some ob->h'.get? b=some ob)->P h' aU
theorem A0{o:Obj}{d:Option Addr}(k:o.isFreed=false):({ cls:=o.cls,dict:=d,data:=o.data,slots:=o.slots }:Obj).isFreed=false:=by
 obtain⟨oc,od,WI,xw⟩:=o;cases WI<;>first|rfl|exact k
theorem CI{o:Obj}{d:Option Addr}(e:o.dict=d):o={ o with dict:=d }:=by
 obtain⟨oc,od,WI,xw⟩:=o;dsimp only at e;rw[e]
theorem uJ{Q:Fin->Shared->Prop}(hD:h.DictOf (strKind XZ w) dx bD)(hz:bD.length<=1000)
  (hq:∀h' aU,h'.DictOf (strKind XZ w) dx (stored bD XQ v)->Heap.SameBut dx h h'->Q (.done (.ret .none)) ⟨h',g,d,aU,os⟩):
  wpAny (model XZ w) A (storeInDict dx (.str XQ tk) XQ v) Q E ⟨h,g,d,t,os⟩:=by
 unfold storeInDict newKeyGuard;refine aQ (bH (aQ (qR hD fun h' hm hs=>?_)));obtain⟨o',tv,VC,e1,e2,e3,e4,e5,e6⟩:=id hm;refine aQ (wpAny_lookBehind e1 (by
  rw[e3];refine pastItsLine_dict ?_;have:=e5.length;rw[pN]at this;rw[this];have:=nP (XQ:=XQ) (v:=v) bD;rw[d9];exact M8 hz this rfl) ?_)
 wp_walk
 exact hq h' _ hm hs
theorem vJ{tk:Tok}{o:Obj}{vs:Array Value}{bD:List (Str×Value)}{Q:Fin->Shared->Prop}
  (hC:h.get? C=some (excClassObj nm q C N bs ym true sn sub ab col dd k0 k1 k2 k3 k5 newId)) (hn:h.Ns N mN) (hna:mN XQ=none) (hB:typeLookup (.type "Exception") XQ=pure none)
  (hx:h.get? x=some o) (hc:o.cls=.ref C) (hdt:o.data=.fields vs) (hd:(o.dict=none/\bD=[])\/∃dx,o.dict=some dx/\dx≠x/\h.DictOf (strKind XZ w) dx bD) (hz:bD.length<=1000)
  (hq:VV XZ w h x o (stored bD XQ v) fun h' aU=>Q (.done (.ret .none)) ⟨h',g,d,aU,os⟩):
  wpAny (model XZ w) A (Builtin.«object.__setattr__» ⟨[.ref x,.str XQ tk,v],[]⟩) Q E ⟨h,g,d,t,os⟩:=by
 have SF:=PySem.F.store_Exception;have U3:=SF.passes (.ref x);have hnc:∀c,o.data≠.cls c:=fun c q=>by rw[hdt]at q;cases q
 unfold Builtin.«object.__setattr__»
 repeat(first|(rewrite (config:={}) [refuse_eq];try(with_reducible rfl))|((rewrite (config:={}) [refuseLoop_ref,U3];try(with_reducible rfl)))|(with_reducible refine hF hx ?_;(rewrite (config:={}) [hc];try(with_reducible rfl)))|with_reducible refine wpAny_mroOf_exc hC ?_|(with_reducible refine pL hC hn SF.mro hB ?_;(rewrite (config:={}) [hna];try(with_reducible rfl)))|wp_step)
 rcases hd with ⟨hdn,hk⟩|⟨dx,hdx,hne,hns⟩
 ·subst hk;rw[hdn,if_neg (by simp[typeHasDict])];dsimp only;rw[hdt];dsimp only;have hx₁:(h.push { cls:=.type "dict",data:=.dict #[] }).get? x=some o:=iv _ hx;have hxs:x≠h.objs.size:=hG (kW hx);have hu:((h.push { cls:=.type "dict",data:=.dict #[] }).update x fun o=>{ cls:=o.cls,dict:=some h.objs.size,data:=o.data,slots:=o.slots }).get? x=some { o with dict:=some h.objs.size }:=
   kS _ hx₁ (A0 (Heap.get?_some_iff.mp hx).2)
  have hD:=(Heap.DictOf.new (knd:=PySem.strKind XZ w) h).sameBut (pO (a:=x) (f:=fun o=>{ cls:=o.cls,dict:=some h.objs.size,data:=o.data,slots:=o.slots }) ..) (Ne.symm hxs);exact aQ (wpAny_alloc' (aQ (wpAny_update' hx₁ (bH (uJ hD (eW _) fun h' aU hm hs=>
   hq h' _ h.objs.size (.inr ⟨hdn,rfl⟩) hxs.symm ((hs.2 x hxs).trans hu) hm fun b ob hbx hbd hb=>(hs.2 b hbd).trans ((Heap.get?_update_ne _ _ _ _ hbx).trans (iv _ hb)))))))
 ·rw[hdx];exact bH (uJ hns hz fun h' aU hm hs=>hq h' _ dx (.inl hdx) hne ((hs.2 x (Ne.symm hne)).trans (hx.trans (aY some (CI hdx)))) hm fun b ob _ hbd hb=>(hs.2 b hbd).trans hb)
theorem xQ(SF:StoreFacts "Exception" ym sa owner){R:Result->Shared->Prop}
  (hC:h.get? C=some (excClassObj nm q C N bs ym true sn sub ab col dd k0 k1 k2 k3 k5 newId)) (hn:h.Ns N mN) (hna:mN XQ=none) (hB:typeLookup (.type "Exception") XQ=pure none)
  (hx:h.get? x=some o) (hc:o.cls=.ref C) (hdt:o.data=.fields vs) (hd:(o.dict=none/\bD=[])\/∃dx,o.dict=some dx/\dx≠x/\h.DictOf (strKind XZ w) dx bD) (hz:bD.length<=1000)
  (hq:VV XZ w h x o (stored bD XQ v) fun h' aU=>R (.ok (.ret .none)) ⟨h',g,d,aU,os⟩):
  codeAny (model XZ w) A (.call (.builtin sa) ⟨[.ref x,.str XQ tk,v],[]⟩) R ⟨h,g,d,t,os⟩:=by
 refine codeAny_call_builtin SF.slot.plain SF.entry (wpAny_check_sa SF hC hx hc ?_);refine vJ hC hn hna hB hx hc hdt hd hz ?_;exact hq
theorem xR{Q:Unit->Shared->Prop}
  (hC:h.get? C=some (excClassObj nm q C N bs ym true sn sub ab col dd k0 k1 k2 k3 k5 newId)) (hn:h.Ns N mN) (hns:mN "__setattr__"=none) (hna:mN XQ=none) (hB:typeLookup (.type "Exception") XQ=pure none)
  (hx:h.get? x=some o) (hc:o.cls=.ref C) (hdt:o.data=.fields vs) (hd:(o.dict=none/\bD=[])\/∃dx,o.dict=some dx/\dx≠x/\h.DictOf (strKind XZ w) dx bD) (hz:bD.length<=1000)
  (hq:VV XZ w h x o (stored bD XQ v) fun h' aU=>Q () ⟨h',g,d,aU,os⟩):
  wpAny (model XZ w) A (setAttr (.ref x) XQ v) Q E ⟨h,g,d,t,os⟩:=by
 have SF:=PySem.F.store_Exception;have f3:=SF.slot.bind (.ref x);unfold setAttr callSpecial? specialOf
 repeat(any_goals (first|assumption|(with_reducible refine hF hx ?_;(rewrite (config:={}) [hc];try(with_reducible rfl)))|(with_reducible refine pL hC hn SF.mro SF.slot.lookup ?_;(rewrite (config:={}) [hns];try(with_reducible rfl)))|wp_step))
 refine xQ SF hC hn hna hB hx hc hdt hd hz fun h' aU dx h1 h2 h3 h4 h5=>?_
 repeat(any_goals (first|assumption|wp_step))
 exact hq h' aU dx h1 h2 h3 h4 h5
end
end Mine.Internal
end
noncomputable section
open PySem PySem.W PyProof.Rows PySem.Calls
namespace Mine.Internal
section
variable{XZ:Program}{w:World}{A:Around}{E:Value->Shared->Prop}{h:Heap}{g:Array GenState}{d:Drawn}{t:Nat}{os:OsState}{e:Addr}
 {nm q:Str}{C N:Addr}{bs:List Value}{sn:List Str}{sub:List Value}{ab:Bool}{col:Option Bool}{dd:Option Addr}{k0 k1 k2 k3 k5:Option Value}{mN:Str->Option Value}
noncomputable def dY(h:Heap)(C:Addr)(rest:List Value):Heap:=
 (h.push { cls:=.type "tuple",data:=.seq rest.toArray }).push { cls:=.ref C,data:=.fields #[.ref h.objs.size,.none,.none,.none,.bool false,.none] }
theorem pC(h:Heap)(C:Addr)(rest:List Value):bL h (dY h C rest):=(bL.push h _).trans (bL.push _ _)
theorem qU(h:Heap)(C:Addr)(rest:List Value):(dY h C rest).get? (h.objs.size+1)=some { cls:=.ref C,data:=.fields #[.ref h.objs.size,.none,.none,.none,.bool false,.none] }:=by
 unfold dY;heap_get
theorem A1(hC:h.get? C=some (excClassObj nm q C N bs ym true sn sub ab col dd k0 k1 k2 k3 k5 "Exception.__new__"))(hn:h.Ns N mN)(hi:mN "__init__"=some (.ref fI))
  (hfI:h.get? fI=some oI) (hfc:oI.cls=.type "function") {Q:Fin->Shared->Prop}(Gk:rest.length<=sizeLine)
  (hq:wpAny (model XZ w) A (call (.ref fI) (.ref (h.objs.size+1)::rest)) (fun r s'=>r=.none/\Q (.done (.ret (.ref (h.objs.size+1)))) s') E ⟨dY h C rest,g,d,t,os⟩):
  wpAny (model XZ w) A (Builtin.«type.__call__» ⟨.ref C::rest,[]⟩) Q E ⟨h,g,d,t,os⟩:=by
 have F:=PySem.F.excBase_Exception
 repeat(first|with_reducible refine hF hC ?_|with_reducible refine wpAny_madeBy_exc hC ?_|wp_step)
 refine codeAny_call_builtin_code (Code.quiet_builtin _ F.quiet) (wpAny_check_new_sub F hC ?_);refine codeAny_exc_new_sub F hC ?_ Gk;show wpAny _ _ _ _ _ (⟨dY h C rest,g,d,t,os⟩:Shared);have k:=pC h C rest;have hC₁:=k _ _ hC;have OQ:=qU h C rest;have hn₁:(dY h C rest).Ns N mN:=Exists.elim hn fun o z=>z.elim fun es z=>z.elim fun ep z=>⟨o,es,ep,k _ _ z.1,z.2⟩
 have hcC:(Value.ref C::ym).contains (.ref C)=true:=by simp
 unfold isInstance
 repeat(first|with_reducible refine hF OQ ?_|(with_reducible refine wpAny_isSubtype_exc hC₁ ?_;(rewrite (config:={}) [hcC];try(with_reducible rfl)))|wp_step)
 show wpAny _ _ (typeLookup (.ref C) _) _ _ _;refine pL hC₁ hn₁ F.mroIs F.init.lookup ?_;rw[hi];refine wpAny_holding (aQ ?_);unfold bindSpecial;refine aQ (wpAny_typeOf (T:="function") ⟨_,k _ _ hfI,hfc⟩ ?_);rw[if_pos (by decide)];refine bH (aQ (wpAny_mono hq (fun r s' hr=>?_) fun _ _ x=>x));obtain⟨rfl,hQ⟩:=hr
 wp_walk
 exact hQ
theorem U4(hC:h.get? C=some (excClassObj nm q C N bs ym true sn sub ab col dd k0 k1 k2 k3 k5 "Exception.__new__"))(hn:h.Ns N mN)(hi:mN "__init__"=some (.ref fI))
  (hfI:h.get? fI=some oI) (hfc:oI.cls=.type "function") {Q:Value->Shared->Prop}(Gk:rest.length<=sizeLine)
  (hq:wpAny (model XZ w) (A.under (.builtin "type.__call__" ⟨.ref C::rest,[]⟩)) (call (.ref fI) (.ref (h.objs.size+1)::rest)) (fun r s'=>r=.none/\Q (.ref (h.objs.size+1)) s') E ⟨dY h C rest,g,d,t,os⟩):
  codeAny (model XZ w) A (.call (.ref C) ⟨rest,[]⟩) (AV Q E) ⟨h,g,d,t,os⟩:=by
 have f1:=tc_lookup;have f2:=tc_bind (.ref C);have hT:(⟨h,g,d,t,os⟩:Shared).TypeIs (.ref C) "type":=⟨_,hC,rfl⟩
 refine codeAny_of_tree ?_;show wpAny _ _ (callAny (.ref C) _) _ _ _
 repeat(any_goals (first|assumption|with_reducible refine hF hC ?_|wp_step))
 refine⟨rfl,?_⟩;exact codeAny_call_builtin_at (Code.quiet_builtin _ (by ac_rfl)) entry_typeCall (wpAny_check_type_call_sub hC (A1 hC hn hi hfI hfc Gk hq))
end
section
variable{g:eC}{hd:Bool}{sc:Scope}{XO:List Str}{n:Nat}{A:Around}{XR:Env}{fr:List Env}{s:Shared}{ρ gP own:List Addr}{H:MH}{Y0:Loc}{h h' h₀ h₁:Heap}{e:Addr}
inductive KC(g:eC)(h₁ h:Heap)(e:Addr)(bD:List (Str×Value)):Prop
 |mk (o:Obj) (vs:Array Value) (t0:Addr) (o1:h.get? e=some o) (o2:o.cls=.ref RC) (o3:o.data=.fields vs) (o4:vs[0]?=some (.ref t0)) (o5:vs[1]?=some .none)
  (o6:(o.dict=none/\bD=[])\/∃d,o.dict=some d/\d≠e/\(h₁.get? d=none/\g.B.objs.size<=d)/\h.DictOf (strKind g.prog g.w) d bD):KC g h₁ h e bD
structure Mk(g:eC)(h₁ h:Heap)(ρ:List Addr)(e:Addr)(bD:List (Str×Value))(es:List (Str×MV))(m:Nat):Prop where
 but:Heap.ExtBut e h₁ h
 obj:KC g h₁ h e bD
 attrs:∀x p,cG x es=some p->∃v,valueAt bD x=some v/\Rep h ρ p v
 VW:bD.length<=m
set_option tactic.hygienic true in
theorem sX{XQ x:Str}{v:Value}{bD:List (Str×Value)}:valueAt (stored bD XQ v) x=if x=XQ then some v else valueAt bD x:=by
 unfold stored valueAt
 split
 ·rename_i hq
  induction bD with
  |nil=>simp at hq
  |cons kv r ih=>
   simp only[cT,List.find?_cons];by_cases h1:kv.1=XQ
   ·rw[if_pos h1];by_cases h2:x=XQ
    ·subst h2;simp[h1]
    ·rw[if_neg h2];have h3:¬ XQ=x:=Ne.symm h2;simp only[h1,cz h3];by_cases hr:r.any (fun kv=>decide (kv.1=XQ))=true
     ·have:=ih hr;rw[if_neg h2]at this;exact this
     ·have:r.map (fun kv=>if kv.1=XQ then(kv.1,v) else kv)=r:=map_store_of_not_mem r XQ v fun hm=>hr (by
       obtain⟨y,hy,e⟩:=eb.mp hm;exact pU.mpr ⟨y,hy,by simp[e]⟩)
      rw[this]
   ·rw[if_neg h1];by_cases h2:kv.1=x
    ·have:¬ x=XQ:=fun z=>h1 (h2.trans z)
     simp[h2,this]
    ·simp only[cz h2];simp only[List.any_cons,cz h1,Bool.false_or]at hq;exact ih hq
 ·rename_i hq;rw[List.find?_append];by_cases h2:x=XQ
  ·subst h2;rw[if_pos rfl];have:bD.find? (fun kv=>decide (kv.1=x))=none:=by
    rw[List.find?_eq_none];intro y hy z;exact hq (pU.mpr ⟨y,hy,z⟩)
   rw[this];simp
  ·rw[if_neg h2];have h3:¬ XQ=x:=Ne.symm h2;cases bD.find? (fun kv=>decide (kv.1=x))with
   |some y=>rfl
   |none=>simp[h3]
theorem Mk.stays(M:Mk g h₁ h ρ e bD es m)(hd:h.get? dx=none\/∃o es n,h.get? dx=some o/\o.data=.dict es n)(k:∀b ob,b≠e->b≠dx->h.get? b=some ob->h'.get? b=some ob):fc h ρ h' ρ:=by
 refine⟨fun _ _ q=>q,fun a o ho q=>k a o (fun z=>?_) (fun z=>?_) ho⟩
 ·subst z;obtain⟨o',vs,t0,h1,h2,h3,_⟩:=M.obj;rw[ho]at h1;cases h1;rcases q with ⟨_,xs,n,q⟩|⟨q,_⟩<;>(rw[q]at h3;cases h3)
 ·subst z;rcases hd with hd|⟨o',es,n,h1,h2⟩
  ·rw[ho]at hd;cases hd
  ·rw[ho]at h1;cases h1;rcases q with ⟨_,xs,n,q⟩|⟨q,_⟩<;>(rw[q]at h2;cases h2)
theorem Mk.live(M:Mk g h₁ h ρ e bD es m)(V:At g hd sc XO n A XR fr (ez s h₁ gx) ρ H Y0)(a:lQ g XR fr h₁ ρ e)(hf:∀o,h₁.get? e=some o->∃vs,o.data=.fields vs):
  At g hd sc XO n A XR fr (ez s h tk) ρ H Y0:=by
 refine⟨V.act,V.d6,V.live.iq a M.but fun o ho=>?_⟩;obtain⟨vs,hv⟩:=hf o ho;exact⟨(fun xs n q=>by rw[hv]at q;cases q),(fun q=>by rw[hv]at q;cases q)⟩
noncomputable def QA(g:eC)(hd:Bool)(sc:Scope)(XO:List Str)(Y0:Loc)(t:Env->Sem Value)(P:Heap->List Addr->Value->Prop):Prop:=
 ∀{n A XR fr s ρ H},At g hd sc XO n A XR fr s ρ H Y0->∀(Q:Value->Shared->Prop) E,(∀v h' aU,bL s.heap h'->P h' ρ v->Q v (ez s h' aU))->wpAny g.M A (t XR) Q E s
theorem Bf{i:Nat}{x:Str}{pos:Pos}{p:MV}(hv:Y0[i]?=some (some p))(hi:XO[i]?=some x)(hx:(x==("__debug__":Str))=false/\(x==("__classdict__":Str))=false:=by trivial):
  QA g hd sc XO Y0 (eval (.Name x pos)) (fun h ρ v=>Rep h ρ p v):=by
 intro n A XR fr s ρ H V Q E hq;exact pA V hi hx hv fun u hu=>hq u s.heap s.toks (bL.refl _) hu
theorem Gl{b k pos}:QA g hd sc XO Y0 (eval (.Constant (.bool b) k pos)) (fun _ _ _=>True):=by
 intro n A XR fr s ρ H V Q E hq;exact bH (hq _ s.heap s.toks (bL.refl _) trivial)
theorem Jn{i k pos}:QA g hd sc XO Y0 (eval (.Constant (.int i) k pos)) (fun _ _ _=>True):=by
 intro n A XR fr s ρ H V Q E hq;exact wpAny_Constant_int (hq _ s.heap _ (bL.refl _) trivial)
theorem Jo{x k pos}:QA g hd sc XO Y0 (eval (.Constant (.str x) k pos)) (fun _ _ _=>True):=by
 intro n A XR fr s ρ H V Q E hq;exact wpAny_mkText (hq _ s.heap _ (bL.refl _) trivial)
theorem Gm{pos}:QA g hd sc XO Y0 (eval (.List [] pos)) (fun _ _ _=>True):=by
 intro n A XR fr s ρ H V Q E hq;refine List_ (bH (pS ?_ (by show 0<=sizeLine;exact M9)));exact hq _ _ _ (bL.push _ _) trivial
theorem Bg(G:g.Ok)(X:bM g.K){gx tk:Nat}{bD:List (Str×Value)}{es tv:List (Str×MV)}{m:Nat}{self XQ:Str}{rhs:Expr}{px ap pos:Pos}{P:Heap->List Addr->Value->Prop}
  (V:At g hd sc XO n A XR fr (ez s h₁ gx) ρ H Y0) (a:lQ g XR fr h₁ ρ e) (hf:∀o,h₁.get? e=some o->∃vs,o.data=.fields vs)
  (QB:QA g hd sc XO Y0 (eval rhs) P) (sY:Y0[0]?=some (some (.fn (.ref e)))) (hi:XO[0]?=some self) (M:Mk g h₁ h ρ e bD es m) (hm:m<=100)
  (hes:∀x p,cG x tv=some p->(x=XQ/\∀h v,P h ρ v->Rep h ρ p v)\/(x≠XQ/\cG x es=some p)) {Q:Flow->Shared->Prop}{E:Value->Shared->Prop}
  (hq:∀v h' aU,Mk g h₁ h' ρ e (stored bD XQ v) tv (m+1)->Q .next (ez s h' aU))
  (hl:XQ∈mX:=by trivial) (hx:(self==("__debug__":Str))=false/\(self==("__classdict__":Str))=false:=by trivial)
  (hB:typeLookup (.type "Exception") XQ=pure none:=by trivial)
  (hs:∀XR,swapsWith rhs (some (.Attribute (.Name self px) XQ ap)) pos.line XR=pure false:=by trivial):
  wpAny g.M A (exec (.Assign [.Attribute (.Name self px) XQ ap] rhs pos) XR) Q E (ez s h tk):=by
 have VX:At g hd sc XO n A XR fr (ez s h tk) ρ H Y0:=M.live V a hf;refine plainObj_wpAny_Assign_Attribute (QB VX _ _ fun v h2 i9 k2 hP=>?_) (hs XR);have Xq:bL h h2:=k2;have M2:Mk g h₁ h2 ρ e bD es m:=by
  obtain⟨o,vs,t0,o1,o2,o3,o4,o5,o6⟩:=M.obj;refine⟨fun b ob hb ho=>k2 _ _ (M.but b ob hb ho),⟨o,vs,t0,k2 _ _ o1,o2,o3,o4,o5,?_⟩,fun x p q=>?_,M.VW⟩
  ·rcases o6 with o6|⟨d,d1,d2,d3,d4⟩
   ·exact .inl o6
   ·exact .inr ⟨d,d1,d2,d3,qP (fun o q=>k2 _ _ q) d4⟩
  ·obtain⟨v,v1,v2⟩:=M.attrs x p q;exact⟨v,v1,v2.data Xq⟩
 have V2:At g hd sc XO n A XR fr (ez s h2 i9) ρ H Y0:=M2.live V a hf;refine pA V2 hi hx sY fun u hu=>?_
 obtain rfl:u=.ref e:=hu;obtain⟨nm,q,N,bs,sn,sub,ab,col,dd,k0,k1,k2,k3,k5,mN,hC,hN,hmm,hi'⟩:=X.cls (V2.sG G);obtain⟨o,vs,t0,o1,o2,o3,o4,o5,o6⟩:=M2.obj;refine xR (bD:=bD) hC hN (hmm _ (by ac_rfl)) (hmm _ hl) hB o1 o2 o3 ?_ (aN M2.VW (by exact cU hm rfl)) fun h3 nH dx d1 d2 d3 d4 d5=>?_
 ·rcases o6 with o6|⟨d,d1,d2,d3,d4⟩
  ·exact .inl o6
  ·exact .inr ⟨d,d1,d2,d4⟩
 have hdx:(h₁.get? dx=none/\g.B.objs.size<=dx)/\(h2.get? dx=none\/∃o es n,h2.get? dx=some o/\o.data=.dict es n):=by
  rcases o6 with ⟨o6,-⟩|⟨d,q1,q2,q3,q4⟩
  ·rcases d1 with d1|⟨-,d1⟩
   ·rw[o6]at d1;cases d1
   ·have hn:h2.get? dx=none:=by rw[d1];exact eV h2
    refine⟨⟨?_,by rw[d1];exact V2.live.size⟩,.inl hn⟩;cases z:h₁.get? dx with
    |none=>rfl
    |some ob=>rw[M2.but dx ob d2 z]at hn;cases hn
  ·rcases d1 with d1|⟨d1,-⟩
   ·rw[q1]at d1;cases d1;obtain⟨o',tv,VC,w1,_,w2,_⟩:=q4;exact⟨q3,.inr ⟨o',tv,VC,w1,w2⟩⟩
   ·rw[q1]at d1;cases d1
 refine hq v h3 nH ⟨fun b ob hb ho=>d5 b ob hb (fun z=>?_) (M2.but b ob hb ho),⟨_,vs,t0,d3,o2,o3,o4,o5,.inr ⟨dx,rfl,d2,hdx.1,d4⟩⟩,fun x p w=>?_,aN (nP bD) (Nat.succ_le_succ M2.VW)⟩
 ·subst z;rw[hdx.1.1]at ho;cases ho
 ·have st:=M2.stays (ρ:=ρ) hdx.2 d5;rw[sX];rcases hes x p w with ⟨rfl,w2⟩|⟨w1,w2⟩
  ·rw[if_pos rfl];exact⟨v,rfl,Rep.stays st (w2 _ _ hP)⟩
  ·rw[if_neg w1];obtain⟨v',w3,w4⟩:=M2.attrs x p w2;exact⟨v',w3,Rep.stays st w4⟩
end
section
variable{g:eC}{hd:Bool}{sc:Scope}{XO:List Str}{n:Nat}{A:Around}{XR:Env}{fr:List Env}{s:Shared}{ρ gP own:List Addr}{H:MH}{Y0:Loc}{h h' h₀ h₁:Heap}{e:Addr}
theorem Gn:∀{es:List (Str×MV)},cG x (es++[(k,v)])=match cG x es with|some p=>some p|none=>if x=k then some v else none:=by
 intro es
 induction es with
 |nil=>rfl
 |cons y r ih=>
  obtain⟨k',v'⟩:=y;rw[nS,Ak,Ak];by_cases q:x=k'
  ·rw[if_pos q,if_pos q]
  ·rw[if_neg q,if_neg q];exact ih
noncomputable def uK(g:eC)(sc:Scope)(XO:List Str)(Y0:Loc)(e:Addr)(body:List Stmt)(es tv:List (Str×MV))(m m':Nat):Prop:=
 ∀{n A XR fr}{s:Shared}{ρ H h₁ h bD gx tk},At g false sc XO n A XR fr (ez s h₁ gx) ρ H Y0->lQ g XR fr h₁ ρ e->(∀o,h₁.get? e=some o->∃vs,o.data=.fields vs)->
  Mk g h₁ h ρ e bD es m->∀(Q:Flow->Shared->Prop) E,(∀Qb h' aU,Mk g h₁ h' ρ e Qb tv m'->Q .next (ez s h' aU))->wpAny g.M A (execs body XR) Q E (ez s h tk)
theorem QC:uK g sc XO Y0 e [] es es m m:=by
 intro n A XR fr s ρ H h₁ h bD gx tk V a hf M Q E hq;exact wpAny_execs_nil (hq bD h tk M)
set_option tactic.hygienic true in
theorem vK(G:g.Ok)(X:bM g.K){es tv:List (Str×MV)}{m m' i:Nat}{self XQ x:Str}{px ap pos rp:Pos}{p:MV}{rest:List Stmt}(sY:Y0[0]?=some (some (.fn (.ref e))))(hi:XO[0]?=some self)
  (hx:XO[i]?=some x) (hp:Y0[i]?=some (some p)) (hm:m<=100) (hno:cG XQ es=none) (hr:uK g sc XO Y0 e rest (es++[(XQ,p)]) tv (m+1) m')
  (hl:XQ∈mX:=by trivial) (hs1:(self==("__debug__":Str))=false/\(self==("__classdict__":Str))=false:=by trivial)
  (hs2:(x==("__debug__":Str))=false/\(x==("__classdict__":Str))=false:=by trivial)
  (hB:typeLookup (.type "Exception") XQ=pure none:=by trivial)
  (hs:∀XR,swapsWith (.Name x rp) (some (.Attribute (.Name self px) XQ ap)) pos.line XR=pure false:=by trivial):
  uK g sc XO Y0 e (.Assign [.Attribute (.Name self px) XQ ap] (.Name x rp) pos::rest) es tv m m':=by
 intro n A XR fr s ρ H h₁ h bD gx tk V a hf M Q E hq;refine wpAny_execs_cons (Bg G X V a hf (Bf hp hx hs2) sY hi M hm (tv:=es++[(XQ,p)]) (fun y q z=>?_) (fun v h' aU M'=>?_) hl hs1 hB hs)
 ·rw[Gn]at z
  split at z
  ·rename_i p' hp';cases z;refine .inr ⟨fun w=>?_,hp'⟩;rw[w,hno]at hp';cases hp'
  ·split at z
   ·rename_i w;cases z;exact .inl ⟨w,fun h v r=>r⟩
   ·cases z
 ·exact hr V a hf M' Q E hq
theorem pD(G:g.Ok)(X:bM g.K){P:Heap->List Addr->Value->Prop}(sY:Y0[0]?=some (some (.fn (.ref e))))(hi:XO[0]?=some self)
  (QB:QA g false sc XO Y0 (eval rhs) P) (hm:m<=100) (hno:cG XQ es=none) (hr:uK g sc XO Y0 e rest es tv (m+1) m')
  (hl:XQ∈mX:=by trivial) (hs1:(self==("__debug__":Str))=false/\(self==("__classdict__":Str))=false:=by trivial)
  (hB:typeLookup (.type "Exception") XQ=pure none:=by trivial)
  (hs:∀XR,swapsWith rhs (some (.Attribute (.Name self px) XQ ap)) pos.line XR=pure false:=by trivial):
  uK g sc XO Y0 e (.Assign [.Attribute (.Name self px) XQ ap] rhs pos::rest) es tv m m':=by
 intro n A XR fr s ρ H h₁ h bD gx tk V a hf M Q E hq;refine wpAny_execs_cons (Bg G X V a hf QB sY hi M hm (tv:=es) (fun y q z=>?_) (fun v h' aU M'=>?_) hl hs1 hB hs)
 ·refine .inr ⟨fun w=>?_,z⟩;rw[w,hno]at z;cases z
 ·exact hr V a hf M' Q E hq
theorem Jp(G:g.Ok)(X:bM g.K){gx:Nat}{i:Nat}{self x:Str}{p1 p2 p3 p4 p5 pos:Pos}{p:MV}{t0:Addr}{rest:List Value}
  (V:At g false sc XO n A XR fr (ez s h₁ gx) ρ H Y0)
  (he:h₁.get? e=some { cls:=.ref RC,data:=.fields #[.ref t0,.none,.none,.none,.bool false,.none] })
  (sY:Y0[0]?=some (some (.fn (.ref e)))) (hi:XO[0]?=some self) (hx:XO[i]?=some x) (hp:Y0[i]?=some (some p))
  (hn:nsIn g.K mainGlobals "Exception"=some none) (hl:sc.names.lookup ("Exception":Str)=some .globalImplicit) (hc:findCls g.K (.type "Exception") (.type "type") "__init__"=some (.val (.builtin "Exception.__init__")))
  {Q:Flow->Shared->Prop}{E:Value->Shared->Prop}(hq:∀h' aU,Mk g h₁ h' ρ e [] [] 0->Q .next (ez s h' aU))
  (hs1:(self==("__debug__":Str))=false/\(self==("__classdict__":Str))=false:=by trivial) (hs2:(x==("__debug__":Str))=false/\(x==("__classdict__":Str))=false:=by trivial)
  (hev:∀XR,∃pl,eval (.Call (.Attribute (.Name "Exception" p1) "__init__" p2) [.Name self p3,.Name x p4] [] p5) XR=(do
   let ov<-eval (.Name "Exception" p1) XR
   standAt p2.atName
   let (f,first)<-holding [ov] (getMethod ov "__init__" pl)
   callWith p5 f first (backTo p5 (starEach [.Name self p3,.Name x p4] XR)) (backToKw p5 (keywordEach [] XR))):=by trivial)
  (hsw:∀XR,swapsWith (.Call (.Attribute (.Name "Exception" p1) "__init__" p2) [.Name self p3,.Name x p4] [] p5) none pos.line XR=pure false:=by trivial):
  wpAny g.M A (exec (.Expr (.Call (.Attribute (.Name "Exception" p1) "__init__" p2) [.Name self p3,.Name x p4] [] p5) pos) XR) Q E (ez s h₁ gx):=by
 refine wpAny_Expr_any ?_ (by unfold interactive;rw[V.kind];rfl) (hsw XR);obtain⟨pl,he'⟩:=hev XR;refine methodCall_KW (he:=he') (nB G (b:=.type "Exception") (by ac_rfl) hn hl (by ac_rfl) V ?_);obtain⟨m,F,hm⟩:=V.live.frame;refine method_type F G.sG (by rfl') (by ac_rfl) hc (by rfl) ?_;have V1:At g false sc XO n A XR fr (ez s h₁ (gx+1)) ρ H Y0:=⟨V.act,V.d6,V.live⟩
 refine callWith_of (P:=fun _=>True) rfl (fun h _=>⟨_,.inr (.inl rfl),Looks.of_pure (by rfl)⟩) (evalArgs_plain (spliced_cons (pA V1 hi hs1 sY fun u hu=>?_)));obtain rfl:u=.ref e:=hu;refine spliced_cons (pA V1 hx hs2 hp fun v hv=>spliced_nil ⟨trivial,?_⟩);show wpAny _ _ (call (.builtin "Exception.__init__") [.ref e,v]) _ _ _;refine zY (X.cls (V1.sG G)) he rfl rfl (by rfl) ?_;have hp1:=iv (h:=h₁) { cls:=.type "tuple",data:=.seq #[v] } he;refine hq _ _ ⟨fun b ob hb ho=>?_,⟨_,#[.ref h₁.objs.size,.none,.none,.none,.bool false,.none],h₁.objs.size,kS _ hp1 (by rfl),rfl,rfl,rfl,rfl,.inl ⟨rfl,rfl⟩⟩,(fun x p q=>by cases q),ao _⟩
 exact(Heap.get?_update_ne _ _ _ _ hb).trans (iv _ ho)
structure A2(g:eC):Prop where
 ex:∃fd st rest,Bd g 81 6 [.tup [.str (S "NONE")],.int 0,.int 0] fd (st::rest) ["self","code","value","errorcode","level","ret"]/\(∃p1 p2 p3 p4 p5 pos,st=.Expr (.Call (.Attribute (.Name "Exception" p1) "__init__" p2) [.Name "self" p3,.Name "value" p4] [] p5) pos/\
   (∀XR,∃pl,eval (.Call (.Attribute (.Name "Exception" p1) "__init__" p2) [.Name "self" p3,.Name "value" p4] [] p5) XR=(do
    let ov<-eval (.Name "Exception" p1) XR
    standAt p2.atName
    let (f,first)<-holding [ov] (getMethod ov "__init__" pl)
    callWith p5 f first (backTo p5 (starEach [.Name "self" p3,.Name "value" p4] XR)) (backToKw p5 (keywordEach [] XR))))/\
   (∀XR,swapsWith (.Call (.Attribute (.Name "Exception" p1) "__init__" p2) [.Name "self" p3,.Name "value" p4] [] p5) none pos.line XR=pure false))/\
  fd.scope.names.lookup ("Exception":Str)=some .globalImplicit/\(∃o,g.K.lookup 81=some o/\o.cls=.type "function")/\
  ∀e a b c d r,uK g fd.scope ["self","code","value","errorcode","level","ret"] [some (.fn (.ref e)),some a,some b,some c,some d,some r] e rest [] (rS a b c d) 0 9
 name:nsIn g.K mainGlobals "Exception"=some none
 find:findCls g.K (.type "Exception") (.type "type") "__init__"=some (.val (.builtin "Exception.__init__"))
theorem Inv.put(I:Inv g h ρ H)(hB:g.B.objs.size<=a)(ha:a∉ρ)(hr:oy g.prog g.w h (ρ++[a]) a o):Inv g h (ρ++[a]) (H++[o]) where
 stays:=I.stays
 len:=by simp[I.len]
 nodup:=by
  refine List.nodup_append.mpr ⟨I.nodup,by simp,fun x hx y hy=>?_⟩;rw[c8]at hy;subst hy;intro e;subst e;exact ha hx
 new:=fun x hx=>by
  rcases kT.mp hx with hx|hx
  ·exact I.new x hx
  ·rw[c8]at hx;subst hx;exact hB
 objs:=fun i ob q=>by
  by_cases hi:i<H.length
  ·rw[iG hi]at q;obtain⟨b,h1,h2⟩:=I.objs i ob q;exact⟨b,by rw[iG (I.len▸hi)];exact h1,h2.stays (bL.bq (bL.refl h)) (fun o q=>q)⟩
  ·have hl:i=H.length:=by
    have:=(cm.mp q).1;simp only[bJ,bo,cS]at this;exact R8 hi this
   subst hl;rw[ib (ao _),k8]at q;simp only[eM,Option.some.injEq]at q;subst q;exact⟨a,by rw[<-I.len,ib (ao _),k8];rfl,hr⟩
theorem sH.init(x:sH A fr (n+2)):sH (A.under (.builtin "type.__call__" ⟨.ref C::rest,[]⟩)) fr (0+1):=by
 have hw:(Code.builtin "type.__call__" ⟨.ref C::rest,[]⟩).weight=1:=by rfl
 have hu:(Code.builtin "type.__call__" ⟨.ref C::rest,[]⟩).cUnits=1:=by rfl
 refine⟨x.frames,x.handled,?_,?_⟩
 ·have:=x.depth;show A.depth+_+_+_<=_;rw[hw];exact Ma this
 ·have:=x.units;show A.units+_+_+_<=_;rw[hu];exact Mb this
theorem xS(e:Aj xs H=some Y3):∃a b c d l,xs=a::b::c::l/\(l=[d]\/(l=[]/\d=.int 0))/\Y3=.val (.obj (H.length+1)) (H++[.attrs (rS a b c d),.exc false H.length]):=by
 cases xs with
 |nil=>cases e
 |cons a r=>cases r with
  |nil=>cases e
  |cons b r=>cases r with
   |nil=>cases e
   |cons c r=>cases r with
    |nil=>cases e;exact⟨_,_,_,.int 0,_,rfl,.inr ⟨rfl,rfl⟩,rfl⟩
    |cons d r=>cases r with
     |nil=>cases e;exact⟨_,_,_,_,_,rfl,.inl rfl,rfl⟩
     |cons _ _=>cases e
theorem Gp(G:g.Ok)(X:bM g.K)(W:A2 g){xs:List MV}{Y3:Res MV}(aA:Aj xs H=some Y3){vs:List Value}(Xc:sH A fr (n+2))(I:Inv g s.heap ρ H)(F:Frs g.B s.heap ρ fr)(hsz:g.B.objs.size<=s.heap.objs.size)
  (r:aX s.heap ρ xs vs) {Q E:Value->Shared->Prop}(hq:AW g s ρ Y3 Q E):codeAny g.M A (.call (.ref RC) ⟨vs,[]⟩) (AV Q E) s:=by
 obtain⟨fd,st,rest,FO,⟨p1,p2,p3,p4,p5,pos,rfl,hev,hsw⟩,hl,⟨oI,hI,hIc⟩,iB⟩:=W.ex;obtain⟨ca,cb,cc,cd,l,rfl,hsh,rfl⟩:=xS aA;have XK:g.K.In s.heap:=G.sG.keeps I.stays;obtain⟨nm,q,N,bs,sn,sub,ab,col,dd,k0,k1,k2,k3,k5,mN,hC,hN,hmm,hi'⟩:=X.cls XK;have hvl:=r.length;have hll:l.length<=1:=by rcases hsh with rfl|⟨rfl,_⟩<;>simp
 (generalize he:s.heap.objs.size+1=e;revert e;refine gA ?_;intros)
 have U5:=pC s.heap RC vs;have hge:=qU s.heap RC vs;rw[he]at hge;have hen:s.heap.get? e=none:=by rw[<-he];exact iw (by exact lU)
 have heB:g.B.objs.size<=e:=by exact Mc hsz he
 refine U4 hC hN hi' (XK _ _ hI) hIc (by rw[hvl,d9];simp only[bo];exact Md hll) (wpAny_call ?_);rw[he];have I1:=I.grow U5;have F1:=F.step (aV:=ρ) (.grow U5);have VY:g.B.objs.size<=(dY s.heap RC vs).objs.size:=by
  unfold dY;simp only[Heap.size_push];exact Me hsz
 have r1:aX (dY s.heap RC vs) ρ (.fn (.ref e)::ca::cb::cc::l) (.ref e::vs):=⟨_,_,rfl,rfl,by have:=U5.bq (ρ:=ρ) (r:=[]);rw[bp]at this;exact aX.stays this r⟩
 refine uG (s:={ s with heap:=dY s.heap RC vs }) (q9:=6) G FO (by simp only[bo,cS];exact Mf hll) Xc.init I1 F1 VY r1 fun L h₁ gx hL0 k0 xJ V=>?_
 have Jq:((MV.fn (.ref e)::ca::cb::cc::l)++List.drop ((MV.fn (.ref e)::ca::cb::cc::l).length+ [MV.tup [.str (S "NONE")],.int 0,.int 0].length-6) [MV.tup [.str (S "NONE")],.int 0,.int 0])=[.fn (.ref e),ca,cb,cc,cd,.int 0]:=by
  rcases hsh with rfl|⟨rfl,rfl⟩<;>rfl
 rw[Jq]at V;have V:At g false fd.scope ["self","code","value","errorcode","level","ret"] 0 _ _ _ _ ρ H [some (.fn (.ref e)),some ca,some cb,some cc,some cd,some (.int 0)]:=V;have VZ:bL (dY s.heap RC vs) h₁:=k0;have he1:=VZ _ _ hge;have U6:(dY s.heap RC vs).get? L=none:=hL0;have iq:lQ g (callEnv fd L 81) (callEnv fd L 81::fr) h₁ ρ e:=by
  refine⟨fun w=>?_,fun w=>?_,fun e' he' w=>?_,?_⟩
  ·obtain⟨ob,z,_⟩:=I.live w;rw[hen]at z;cases z
  ·have:=xJ e w;rw[show(_:Shared).heap=dY s.heap RC vs from rfl,hge]at this;cases this
  ·rcases bS.mp he' with rfl|he'
   ·have:(callEnv fd L 81).frame=some L:=rfl;rw[this]at w;cases w;rw[hge]at U6;cases U6
   ·obtain⟨_,o,es,nn,z,_⟩:=F.2 e' he' e w;rw[hen]at z;cases z
  ·exact iw heB
 refine wpAny_execs_cons (Jp (s:={ s with heap:=dY s.heap RC vs }) (h₁:=h₁) (i:=2) (rest:=vs) G X V he1 rfl rfl rfl rfl W.name hl W.find (fun h2 i9 M2=>?_) (by ac_rfl) (by ac_rfl) hev hsw);refine iB e ca cb cc cd (.int 0) (s:={ s with heap:=dY s.heap RC vs }) V iq (fun o ho=>by rw[he1]at ho;cases ho;exact⟨_,rfl⟩) M2 _ _ fun bD h3 nH M3=>?_
 obtain⟨o,fs,t0,o1,o2,o3,o4,o5,o6⟩:=M3.obj;refine⟨rfl,?_⟩;rcases o6 with ⟨-,o6⟩|⟨d,d1,d2,⟨d3,d4⟩,d5⟩
 ·subst o6;obtain⟨v,hv,_⟩:=M3.attrs (S "code") ca (if_pos rfl);cases hv
 have kk:bL s.heap h3:=fun b ob hb=>M3.but b ob (fun z=>by subst z;rw[hen]at hb;cases hb) (VZ _ _ (U5 _ _ hb))
 have hdn:s.heap.get? d=none:=by
  cases z:s.heap.get? d with
  |none=>rfl
  |some ob=>rw[VZ _ _ (U5 _ _ z)]at d3;cases d3
 have hdρ:d∉ρ:=fun w=>by obtain⟨ob,z,_⟩:=I.live w;rw[hdn]at z;cases z
 have heρ:e∉ρ:=iq.UE;have eu:fc h3 ρ h3 ((ρ++[d])):=bL.bq (bL.refl h3);have I3:=(I.grow kk).put (a:=d) (o:=.attrs (rS ca cb cc cd)) d4 hdρ (by
  obtain⟨od,_,_,w1,w2,_⟩:=id d5;refine⟨valueAt bD,⟨od,w1,w2.1⟩,zZ d5,fun x p w=>?_⟩
  obtain⟨v,v1,v2⟩:=M3.attrs x p w;exact⟨v,v1,Rep.stays eu v2⟩)
 have I4:=I3.put (a:=e) (o:=.exc false H.length) heB (fun w=>by
  rcases kT.mp w with w|w
  ·exact heρ w
  ·rw[c8]at w;exact d2 w.symm) (by
  refine⟨o,d,fs,o1,o2,d1,o3,fun _=>o5,?_,d2⟩;rw[bZ,ib (by rw[I.len];exact ao _),I.len,k8];rfl)
 rw[bZ,bZ]at I4;refine hq (.ref e) h3 nH (ρ++([d]++[e])) ⟨⟨_,rfl,fun a ha=>?_⟩,fun b ob hb _ _=>⟨ob,kk _ _ hb,.refl _⟩,kk.alive,fun b ob hb _ _=>kk _ _ hb⟩ I4 ⟨e,rfl,?_⟩
 ·rcases kT.mp ha with ha|ha<;>(rw[c8]at ha;subst ha;assumption)
 ·rw[<-bZ,ib (by simp[I.len])];simp[I.len]
end
section
variable{g:eC}{n:Nat}
structure vL(g:eC):Prop where
 G:g.Ok
 X:bM g.K
 W:A2 g
 keep:keepIn g.K (.ref RC)=true
 D:∀a d,defs.lookup a=some d->bf g a d
theorem CJ:me g 0 (ah 0):=⟨fun _ _ _ _ e=>(by cases e),fun _ _ _ _ e=>(by cases e)⟩
set_option tactic.hygienic true in
theorem CK(P:vL g)(ih:me g n (ah n)):me g (n+1) (ah (n+1)):=by
 refine⟨fun a XS H Y3 e=>?_,fun a XS H Y3 e A fr X s ρ vs I F hsz r Q E hq=>?_⟩
 ·rw[Ap]at e
  split at e
  ·rename_i ha;subst ha;exact P.keep
  ·split at e
   ·rename_i d hd;obtain⟨fd,body,XO,FO,_⟩:=(P.D a d hd).ex;exact FO.keep
   ·cases e
 ·rw[Ap]at e
  split at e
  ·rename_i ha;subst ha
   split at e
   ·cases e
   ·rename_i hn;obtain⟨m,rfl⟩:∃m,n=m+1:=⟨n-1,by exact Ml hn⟩
    exact Gp P.G P.X P.W e X I F hsz r hq
  ·split at e
   ·rename_i d hd
    split at e
    ·rename_i hl;exact Ge P.G (P.D a d hd) ih hl e X I F hsz r hq
    ·cases e
   ·cases e
theorem xT(P:vL g):∀n,me g n (ah n)
 |0=>CJ
 |n+1=>CK P (xT P n)
end
section
variable{g:eC}{hd:Bool}{sc:Scope}{XO:List Str}{n:Nat}{A:Around}{XR:Env}{fr:List Env}{s:Shared}{ρ:List Addr}{H:MH}{Y0:Loc}{bk:g8}
noncomputable abbrev Gq(g:eC)(hd:Bool)(sc:Scope)(XO:List Str)(pos:Pos)(es:List Expr)(c:CE):Prop:=SE g hd sc XO (fun XR=>boolOp pos .And (evalEach es XR)) c
theorem Gr(hb:SE g hd sc XO (eval b) c):Gq g hd sc XO pos [b] c:=hb
set_option backward.match.sparseCases true in
theorem CM(ha:SE g hd sc XO (eval a) ca)(hb:Gq g hd sc XO pos (b::r) cb):Gq g hd sc XO pos (a::b::r) (wk ca cb):=by
 intro n bk ho A XR fr s ρ H Y0 V Y3 aA Q E hq;show wpAny _ _ (do
  let v<-eval a XR
  standAt pos
  let t<-holding [v] (truthy v)
  match BoolOp.And,t with
  |.And,false|.Or,true=>pure v
  |_,_=>boolOp pos .And (evalEach (b::r) XR)) _ _ _
 refine aQ (ha.bind ho V aA hq.px fun p H' v h' aU aV e st V' r=>?_);refine aQ (wpAny_standAt (aQ (wpAny_holding ?_)));cases hc:dF p H' with
 |none=>rw[hc]at e;cases e
 |some c=>
  refine xt V' r c hc _ _ _ fun tk=>?_
  rw[hc]at e;cases c with
  |true=>exact hb n bk ho (V'.to (s:=(ez s h' aU)) V'.live) Y3 e Q E ((hq.after st).after .refl)
  |false=>cases e;exact bH ((hq.after st).ret V'.live r _)
theorem Jr(h:Gq g hd sc XO pos es c):SE g hd sc XO (eval (.BoolOp .And es pos)) c:=h
noncomputable def notStar:Expr->Bool
 |.Starred ..=>false
 |_=>true
theorem dD(h:notStar e=true)(es:List Expr)(XR:Env):starEach (e::es) XR=(false,eval e XR)::starEach es XR:=by
 cases e<;>first|rfl|cases h
theorem gS:∀{es:List Expr}{XR:Env}{pos:Pos},es.all notStar=true->(backTo pos (starEach es XR)).any (·.1)=false
 |[],_,_,_=>rfl
 |e::es,XR,pos,h=>by
  rw[iy,bW]at h;rw[dD h.1];have ih:=@gS es XR pos h.2;show(false||_)=false;rw[Bool.false_or];exact ih
theorem jT(h:es.all notStar=true):oz (backTo pos (starEach es XR)):=by
 cases es with
 |nil=>exact True.intro
 |cons e es=>
  rw[iy,bW]at h;rw[dD h.1];exact rfl
structure AL(g:eC)(hd:Bool)(sc:Scope)(XO:List Str)(pos:Pos)(es:List Expr)(cs:CL):Prop where
 sl:SL g hd sc XO (fun XR=>spliced (backTo pos (starEach es XR))) cs
theorem gT:AL g hd sc XO pos [] ai:=⟨Fx⟩
theorem Js(he:SE g hd sc XO (eval e) c)(hes:AL g hd sc XO pos es cs)(h:notStar e=true:=by trivial):AL g hd sc XO pos (e::es) (aa c cs):=⟨Iw he hes.sl fun XR=>dD h es XR⟩
theorem Jt(h:AL g hd sc XO pos es cs):SE g hd sc XO (eval (.Tuple es k pos)) (aG cs):=PH h.sl
theorem Gs(h:AL g hd sc XO pos es cs):SE g hd sc XO (eval (.List es pos)) (dy cs):=Iy h.sl
theorem kN:eval (.Call (.Name x p) XS [] pos) XR=(do callWith pos (<-eval (.Name x p) XR) [] (backTo pos (starEach XS XR)) []):=by rfl
theorem Gu(G:g.Ok)(hf:SE g false sc XO (eval (.Name x p)) cf)(ha:AL g false sc XO pos XS cs)(h:XS.all notStar=true:=by trivial):
  SE g false sc XO (eval (.Call (.Name x p) XS [] pos)) (ak cf cs):=
 IA G hf ha.sl (fun XR=>kN) (fun XR=>jT h) (fun XR=>gS h)
theorem Gv(G:g.Ok)(hf:j8 g.K C a XQ=true)(hob:SE g false sc XO (eval o) co)(ha:AL g false sc XO pos XS cs)
  (h:XS.all notStar=true:=by trivial)
  (he:∀XR,∃pl,eval (.Call (.Attribute o XQ apos) XS [] pos) XR=(do
   let ov<-eval o XR
   standAt apos.atName
   let (f,first)<-holding [ov] (getMethod ov XQ pl)
   callWith pos f first (backTo pos (starEach XS XR)) (backToKw pos (keywordEach [] XR))):=by trivial):
  SE g false sc XO (eval (.Call (.Attribute o XQ apos) XS [] pos)) (cL C a XQ co cs):=
 IC G hf hob ha.sl he (fun XR=>jT h) (fun XR=>gS h)
theorem CO(G:g.Ok)(hf:jy g.K C a XQ=true)(hob:SE g false sc XO (eval o) (af (.fn (.ref C))))(ha:AL g false sc XO pos XS cs)
  (h:XS.all notStar=true:=by trivial)
  (he:∀XR,∃pl,eval (.Call (.Attribute o XQ apos) XS [] pos) XR=(do
   let ov<-eval o XR
   standAt apos.atName
   let (f,first)<-holding [ov] (getMethod ov XQ pl)
   callWith pos f first (backTo pos (starEach XS XR)) (backToKw pos (keywordEach [] XR))):=by trivial):
  SE g false sc XO (eval (.Call (.Attribute o XQ apos) XS [] pos)) (uV C XQ a cs):=
 Fz G hf hob ha.sl he (fun XR=>jT h) (fun XR=>gS h)
theorem lS:∀{es:List Expr}{XR:Env}{pos:Pos},es.all notStar=true->(backTo pos (starEach es XR)).all (fun x=>!x.1)=true
 |[],_,_,_=>rfl
 |e::es,XR,pos,h=>by
  rw[iy,bW]at h;rw[dD h.1];have ih:=@lS es XR pos h.2;show(true&&_)=true;rw[Bool.true_and];exact ih
theorem QD(G:g.Ok){b:BT}{id:String}{f:PL}{o:Expr}{XQ:Str}{XS:List Expr}{apos pos:Pos}{co:CE}{cs:CL}(hop:D3 g hd sc XO id f)(slot:Slot b.name XQ id)(hty:typeOf (.builtin id)=pure (.type "method_descriptor"))
  (hob:SE g hd sc XO (eval o) co) (ha:AL g hd sc XO pos XS cs) (h:XS.all notStar=true:=by trivial) (hl:decide (XS.length<20)=true:=by trivial)
  (xD:∀XR,attributeBase o XQ XR (eval o XR)=eval o XR:=by trivial)
  (sR:(apos.endLine==pos.line)=true:=by trivial):SE g hd sc XO (eval (.Call (.Attribute o XQ apos) XS [] pos)) (cM b f co cs):=
 Tv G hop slot hty hob ha.sl xD (fun XR=>by
  rw[lS h];have:=of_decide_eq_true hl;show(true&&_&&decide (XS.length+0+0<30))=true;rw[cO (by lia)];rfl) sR (fun XR=>jT h) (fun XR=>gS h)
structure DL(g:eC)(hd:Bool)(sc:Scope)(XO:List Str)(pos:Pos)(bD:List (Expr×Expr))(ks:List Str)(cs:CL):Prop where
 sd:SD g hd sc XO pos bD ks cs
theorem vM:DL g hd sc XO pos [] [] ai:=⟨Q8⟩
theorem Ju{k p1}(hv:SE g hd sc XO (eval v) c)(hr:DL g hd sc XO pos bD ks cs):
  DL g hd sc XO pos ((.Constant (.str x) k p1,v)::bD) (x::ks) (aa c cs):=⟨J3 hv hr.sd⟩
noncomputable def sZ:List (Option Expr)->List Expr->Option (List (Expr×Expr))
 |[],[]=>some []
 |some k::ks,v::vs=>(sZ ks vs).map ((k,v)::·)
 |_,_=>none
theorem pE:∀{keys:List (Option Expr)}{values:List Expr}{bD:List (Expr×Expr)},sZ keys values=some bD->
  (evalEachOpt keys XR).zip ((evalEach values XR).map fun v=>do let x<-v;standAt pos;pure x)=(pairsOf pos bD XR).map fun p=>(some p.1,p.2)
 |[],[],_,h=>by cases h;rfl
 |[],_::_,_,h=>by cases h
 |none::_,_,_,h=>by cases h
 |some _::_,[],_,h=>by cases h
 |some k::ks,v::vs,bD,h=>by
  replace h:(sZ ks vs).map ((k,v)::·)=some bD:=h;obtain⟨r,h1,rfl⟩:=Option.map_eq_some_iff.mp h;have ih:=pE (pos:=pos) h1;show(some (eval k XR),_)::List.zip (evalEachOpt ks XR) ((evalEach vs XR).map _)=_;rw[ih];rfl
theorem Gw(G:g.Ok)(h:sZ keys values=some bD)(hd':DL g hd sc XO pos bD ks cs)(hn:ks.Nodup)
  (h0:bD.isEmpty=false) (XY:decide (bD.length<=15)=true):SE g hd sc XO (eval (.Dict keys values pos)) (ef ks cs):=
 J4 G hd'.sd hn (fun XR=>pE h) (fun q=>by rw[q]at h0;cases h0) (of_decide_eq_true XY)
theorem U7(ht:ST g hd sc XO (fun XR=>isTrue t XR (eval t XR)) ct)(ha:ST g hd sc XO (fun XR=>isTrue a XR (eval a XR)) (tE ca))(hb:ST g hd sc XO (fun XR=>isTrue b XR (eval b XR)) (tE cb)):
  ST g hd sc XO (fun XR=>isTrue (.IfExp t a b pos) XR (eval (.IfExp t a b pos) XR)) (tE (eL ct ca cb)):=by
 intro n bk ho A XR fr s ρ H Y0 V Y3 aA Q E hq;show wpAny _ _ (do
  if<-isTrue t XR (eval t XR) then isTrue a XR (eval a XR) else isTrue b XR (eval b XR)) _ _ _
 unfold tE eL at aA;rw[fA]at aA;refine aQ (ht.bind ho V aA hq.px fun p H' v h' aU aV e st V' r=>?_);obtain rfl:v=p:=r;cases v with
 |true=>exact ha n bk ho V' Y3 e Q E (hq.after st)
 |false=>exact hb n bk ho V' Y3 e Q E (hq.after st)
theorem qV(h:SE g hd sc XO (eval e) c):SE g hd sc XO (evalPart (some e)) c:=h
noncomputable def iu(dK:Scope)(x:Str):Bool:=(dK.names.all fun y=>!(y.2==.free)&&!(y.2==.cell))&&dK.kind==.function&&(dK.names.all fun y=>!(y.2==.local)||dK.names.lookup y.1==some .local)&&dK.names.lookup x==some .local
theorem jA(h:(dK.names.all fun y=>!(y.2==.free)&&!(y.2==.cell))=true):relabel dK XR=dK:=by
 obtain⟨k,nm,r⟩:=dK;unfold relabel
 congr 1
 dsimp only at h ⊢
 induction nm with
 |nil=>rfl
 |cons y l ih=>
  rw[iy,bW]at h;rw[cT,ih h.2]
  congr 1
  obtain⟨a,b⟩:=y;simp only[bW,ja]at h;rw[h.1.1];simp
theorem xU(h:(dK.names.all fun y=>!(y.2==.free)&&!(y.2==.cell))=true):closureFor dK XR=pure []:=by
 unfold closureFor;have:∀(l:List (Str×NameKind)) (cs:List (Str×Addr)),(l.all fun y=>!(y.2==.free)&&!(y.2==.cell))=true->(forIn l cs fun(x:Str×NameKind) r=>(match x with
   |(XQ,Y1)=>if(Y1==NameKind.free)=true then do let y<-cellOf XR XQ;pure (ForInStep.yield ((XQ,y)::r)) else pure (ForInStep.yield r):Sem (ForInStep (List (Str×Addr)))))=pure cs:=by
  intro l
  induction l with
  |nil=>intro cs _;rfl
  |cons y l ih=>
   intro cs h;rw[iy,bW]at h;obtain⟨a,b⟩:=y;simp only[bW,ja]at h;rw[List.forIn_cons];dsimp only;rw[h.1.1];exact ih cs h.2
 exact(aY (fun(m:Sem (List (Str×Addr)))=>m >>= fun s=>(pure s:Sem (List (Str×Addr)))) (this dK.names [] h)).trans rfl
theorem nQ(h:iu dK x=true):lR XR sc dK XO x [] [] []:=by
 unfold iu at h;simp only[bW]at h;obtain⟨⟨⟨h1,h2⟩,h3⟩,h4⟩:=h;have e:=jA (XR:=XR) h1;refine⟨xU h1,eq_of_beq h2,fun y hy q=>?_,fun y hy q=>?_,eq_of_beq h4,fun _ _ q=>(by cases q),fun _ q=>(by cases q),fun _ _ q=>(by simp at q),fun _ _ q=>(by cases q),fun _ _ q=>(by simp at q),fun y q=>?_,rfl⟩
 ·have:=eF.mp h1 y hy;rw[q]at this;simp at this
 ·have:=eF.mp h3 y hy;rw[q]at this;simp only[Bool.or_eq_true,ja]at this;rcases this with this|this
  ·cases this
  ·exact eq_of_beq this
 ·rw[e]at q;have:=eF.mp h1 (y,.cell) (mem_of_lookup q);cases this
theorem Gx(hit:SE g false sc XO (eval iter) ci)(hci:iu dK x=true)(XX:XO.Nodup)
  (he:SE g false dK [x] (eval elt) eA) (hs:∀XR v,foldedSetIterable iter XR v=pure v:=by trivial):
  SE g false sc XO (eval (.ListComp elt [⟨.Name x px,iter,[],0⟩] dK pos)) (cR [] eA ci):=by
 refine Be (ys:=[]) hit (fun XR fr _=>⟨[],nQ hci⟩) XX (by simp) (fun XR _=>?_) hs;have h:=hci;unfold iu at h;simp only[bW]at h;rw[jA h.1.1.1];exact he
theorem xV(hit:SE g false sc XO (eval iter) ci)(hci:iu dK x=true)(XX:XO.Nodup)
  (he:SE g false dK [x] (eval elt) eA) (hi:XO[i]?=some y) (hk:jz sc y)
  (hsw:∀XR:Env,XR.scope=sc->swapsWith (.ListComp elt [⟨.Name x px,iter,[],0⟩] dK pos) (some (.Name y yp)) CH.line XR=pure true) (hs:∀XR v,foldedSetIterable iter XR v=pure v:=by trivial):
  SS g false sc XO (exec (.Assign [.Name y yp] (.ListComp elt [⟨.Name x px,iter,[],0⟩] dK pos) CH)) (aO i (cR [] eA ci)):=by
 refine zX (ys:=[]) hit (fun XR fr _=>⟨[],nQ hci⟩) XX (by simp) (fun XR _=>?_) hi hk hsw hs;have h:=hci;unfold iu at h;simp only[bW]at h;rw[jA h.1.1.1];exact he
noncomputable def pF(K:Frag)(a:Addr)(fd:FuncData)(par:Nat)(XO:List Str):Bool:=
 keepIn K (.ref a)&&codeIn K fd.code fd.qualname&&fd.globals==mainGlobals&&fd.builtins==builtinsNs&&fd.closure.isEmpty&&(fd.scope.names.all fun x=>!(x.2==.cell))&&!fd.scope.isCoroutine&&!fd.scope.isGenerator&&fd.scope.kind==.function&&
  (XO.take par).length==par&&((XO.take par).all fun x=>fd.scope.names.lookup x==some .local)
theorem fi(h:pF g.K a fd par XO=true)(ho:g.K.lookup a=some ⟨oc,od,.func fd,xw⟩)(hb:fd.body=.stmts body)(XX:XO.Nodup)
  (sW:∀(s:Shared) (ρ:List Addr) (XS:List MV) (vs:List Value),g.K.In s.heap->aX s.heap ρ XS vs->XS.length<=par->par<=XS.length+jJ.length->
   ∃ws,BindsTo s fd ⟨vs,[]⟩ ((XO.take par).zip ws)/\aX s.heap ρ (XS++jJ.drop (XS.length+jJ.length-par)) ws):Bd g a par jJ fd body XO:=by
 unfold pF at h;simp only[bW,ja,List.isEmpty_iff]at h;obtain⟨⟨⟨⟨⟨⟨⟨⟨⟨⟨h1,h2⟩,h3⟩,h4⟩,h5⟩,h6⟩,h7⟩,h8⟩,h9⟩,h10⟩,h11⟩:=h;refine⟨⟨oc,od,xw,ho⟩,h1,hb,h2,eq_of_beq h3,eq_of_beq h4,h5,fun x hx q=>?_,h7,h8,eq_of_beq h9,XX,eq_of_beq h10,fun x hx=>?_,sW⟩
 ·have:=eF.mp h6 x hx;rw[q]at this;cases this
 ·exact eq_of_beq (eF.mp h11 x hx)
theorem bG(hb:∀vs:List Value,vs.length=par->bindArgs fd ⟨vs,[]⟩=pure ((XO.take par).zip vs))(s:Shared)(ρ:List Addr)(XS:List MV)(vs:List Value)(_:g.K.In s.heap)(r:aX s.heap ρ XS vs)(h1:XS.length<=par)
  (h2:par<=XS.length+([]:List MV).length):∃ws,BindsTo s fd ⟨vs,[]⟩ ((XO.take par).zip ws)/\aX s.heap ρ (XS++([]:List MV).drop (XS.length+([]:List MV).length-par)) ws:=by
 refine⟨vs,BindsTo.of_eq (hb vs (by rw[r.length];simp only[cS]at h2;exact Mn h1 h2)),?_⟩;rw[List.drop_nil,bp];exact r
theorem jB{po ar va ko kd ka de}(hP:fd.params=⟨po,ar,va,ko,kd,ka,de⟩)(hd:fd.defaults=.ref a)(hT:g.K.lookup a=some ⟨oc,od,.seq items.toArray n,xw⟩)(Jv:∀(s:Shared) ρ,g.K.In s.heap->aX s.heap ρ jJ items)
  (hb:∀(nm q:Str) (body:FuncBody) (sc:Scope) (gl:Addr) (cl:List (Str×Addr)) (df kw dc pm:Value) (an:Option Addr) (cd ct:Value) (bu:Addr),∀vs:List Value,vs.length<=par->par<=vs.length+items.length->
   ∃k,bindArgs ⟨nm,q,⟨po,ar,va,ko,kd,ka,de⟩,body,sc,gl,cl,df,kw,dc,pm,an,cd,ct,bu⟩ ⟨vs,[]⟩=seqItems? df >>= k/\k (some items.toArray)=pure ((XO.take par).zip (vs++items.drop (vs.length+items.length-par))))
  (s:Shared) (ρ:List Addr) (XS:List MV) (vs:List Value) (X:g.K.In s.heap) (r:aX s.heap ρ XS vs) (h1:XS.length<=par) (h2:par<=XS.length+jJ.length):
  ∃ws,BindsTo s fd ⟨vs,[]⟩ ((XO.take par).zip ws)/\aX s.heap ρ (XS++jJ.drop (XS.length+jJ.length-par)) ws:=by
 have hb':=hb fd.name fd.qualname fd.body fd.scope fd.globals fd.closure fd.defaults fd.kwdefaults fd.doc fd.pyModule fd.annotations fd.code fd.closureTuple fd.builtins;rw[<-hP]at hb';have rd:=Jv s ρ X;have l1:=r.length;have l2:=rd.length;obtain⟨k,k1,k2⟩:=hb' vs (by exact De h1 l1) (by exact Mp h2 l1 l2);refine⟨_,BindsTo.of_defaults hd (X _ _ hT) rfl k1 k2,aX.append r ?_⟩;rw[l1,l2]
 (generalize XS.length+jJ.length-par=i;revert i;refine gA ?_;intros)
 clear hb hb' k1 k2 Jv hT h2 l2
 induction i generalizing jJ items with
 |zero=>exact rd
 |succ i ih=>
  cases jJ with
  |nil=>cases (show items=[] from rd);exact(rfl:([]:List Value)=[])
  |cons p jJ=>obtain⟨v,vs,rfl,_,rr⟩:=rd;exact ih rr
end
section
variable{g:eC}{hd:Bool}{sc:Scope}{XO:List Str}
structure XE(g:eC)(hd:Bool)(sc:Scope)(XO:List Str)(e:Expr)(c:CE):Prop where
 h:SE g hd sc XO (eval e) c
structure XT(g:eC)(hd:Bool)(sc:Scope)(XO:List Str)(t:Expr)(c:CT):Prop where
 h:ST g hd sc XO (fun XR=>isTrue t XR (eval t XR)) c
structure XA(g:eC)(hd:Bool)(sc:Scope)(XO:List Str)(op:BoolOp)(es:List Expr)(c:CT):Prop where
 h:ST g hd sc XO (fun XR=>allTrue op es XR) c
structure XN(g:eC)(hd:Bool)(sc:Scope)(XO:List Str)(pos:Pos)(es:List Expr)(c:CE):Prop where
 h:Gq g hd sc XO pos es c
structure XP(g:eC)(hd:Bool)(sc:Scope)(XO:List Str)(e:Option Expr)(c:CE):Prop where
 h:SE g hd sc XO (evalPart e) c
structure XJ(g:eC)(hd:Bool)(sc:Scope)(XO:List Str)(es:List Expr)(cs:CL):Prop where
 h:SJ g hd sc XO es cs
structure XG(g:eC)(sc:Scope)(XO:List Str)(target:Expr)(j2:MV->Loc->Option Loc):Prop where
 h:TG g sc XO target j2
structure X1(g:eC)(hd:Bool)(sc:Scope)(XO:List Str)(st:Stmt)(c:CS):Prop where
 h:SS g hd sc XO (exec st) c
structure XB(g:eC)(hd:Bool)(sc:Scope)(XO:List Str)(body:List Stmt)(c:CS):Prop where
 h:SS g hd sc XO (execs body) c
noncomputable abbrev Gy(x:Str):Prop:=(x==("__debug__":Str))=false/\(x==("__classdict__":Str))=false
theorem Jw{k pos}:XE g hd sc XO (.Constant .none k pos) (af .none):=⟨Ir⟩
theorem Jx{b k pos}:XE g hd sc XO (.Constant (.bool b) k pos) (af (.bool b)):=⟨Iu⟩
theorem Gz{i k pos}:XE g hd sc XO (.Constant (.int i) k pos) (af (.int i)):=⟨Fv⟩
theorem QE{x k pos}(hx:oE x):XE g hd sc XO (.Constant (.str x) k pos) (af (.str x)):=⟨Pw hx⟩
theorem qx{i x pos}(hi:XO[i]?=some x)(hx:Gy x):XE g hd sc XO (.Name x pos) (ae i):=⟨Px hi hx⟩
theorem fZ(G:g.Ok){x pos v}(e:nsIn g.K mainGlobals x=some (some v))(hl:sc.names.lookup x=some .globalImplicit)(hx:Gy x):XE g hd sc XO (.Name x pos) (af (.fn v)):=⟨Iv G e hl hx.1⟩
theorem A3(ha:XE g hd sc XO a ca)(hb:XE g hd sc XO b cb)(hf:kP g hd sc XO (binaryOp op) f):XE g hd sc XO (.BinOp a op b pos) (c2 f ca cb):=⟨Py ha.h hb.h hf⟩
theorem U8(ha:XE g hd sc XO a ca)(hf:pJ g hd sc XO (unaryOp op) f):XE g hd sc XO (.UnaryOp op a pos) (c1 f ca):=⟨Kv ha.h hf⟩
theorem QF(ha:XE g hd sc XO a ca):XE g hd sc XO (.UnaryOp .Not a pos) (Hv ca):=⟨Q0 ha.h⟩
theorem QG(ha:XE g hd sc XO a ca)(hb:XE g hd sc XO b cb)(hf:kP g hd sc XO (compareOp op) f)(hm:behindInMarks op b=false):XE g hd sc XO (.Compare a [op] [b] pos) (c2 f ca cb):=⟨Pz ha.h hb.h hf hm⟩
theorem CP(ha:XE g hd sc XO a ca)(hf:pJ g hd sc XO (fun v=>compareOp op v .none) f)(hm:behindInMarks op (.Constant .none k p1)=false):
  XE g hd sc XO (.Compare a [op] [.Constant .none k p1] pos) (c1 f ca):=⟨Cc ha.h hf hm⟩
theorem KD(ht:XT g hd sc XO t ct)(ha:XE g hd sc XO a ca)(hb:XE g hd sc XO b cb):XE g hd sc XO (.IfExp t a b pos) (eL ct ca cb):=⟨Tf ht.h ha.h hb.h⟩
theorem QH(hb:XE g hd sc XO b c):XN g hd sc XO pos [b] c:=⟨Gr hb.h⟩
theorem Bh(ha:XE g hd sc XO a ca)(hb:XN g hd sc XO pos (b::r) cb):XN g hd sc XO pos (a::b::r) (wk ca cb):=⟨CM ha.h hb.h⟩
theorem Jy(h:XN g hd sc XO pos es c):XE g hd sc XO (.BoolOp .And es pos) c:=⟨Jr h.h⟩
theorem cp(he:XE g hd sc XO e c)(hes:AL g hd sc XO pos es cs)(h:notStar e=true):AL g hd sc XO pos (e::es) (aa c cs):=Js he.h hes h
theorem vN(h:AL g hd sc XO pos es cs):XE g hd sc XO (.Tuple es k pos) (aG cs):=⟨Jt h⟩
theorem Jz(h:AL g hd sc XO pos es cs):XE g hd sc XO (.List es pos) (dy cs):=⟨Gs h⟩
theorem kO:XE g hd sc XO (.Dict [] [] pos) (ef [] ai):=⟨FT⟩
theorem dq{k p1}(hv:XE g hd sc XO v c)(hr:DL g hd sc XO pos bD ks cs):
  DL g hd sc XO pos ((.Constant (.str x) k p1,v)::bD) (x::ks) (aa c cs):=Ju hv.h hr
theorem rL(G:g.Ok)(h:sZ keys values=some bD)(hd':DL g hd sc XO pos bD ks cs)(hn:ks.Nodup)
  (h0:bD.isEmpty=false) (XY:decide (bD.length<=15)=true):XE g hd sc XO (.Dict keys values pos) (ef ks cs):=⟨Gw G h hd' hn h0 XY⟩
theorem A4:XJ g hd sc XO [] ai:=⟨Q4⟩
theorem oB{k pos}(hx:oE x)(hes:XJ g hd sc XO es cs):XJ g hd sc XO (.Constant (.str x) k pos::es) (aa (af (.str x)) cs):=⟨B8 FQ (Q5 hx) hes.h⟩
theorem vO(hi:XO[i]?=some x)(hx:Gy x)(hes:XJ g hd sc XO es cs):XJ g hd sc XO (.FormattedValue (.Name x pos) (-1) none Tz::es) (aa (ae i) cs):=⟨B8 FR (Q6 hi hx) hes.h⟩
theorem vP(hj:XJ g hd sc XO (v1::v2::r) cs):XE g hd sc XO (.JoinedStr (v1::v2::r) pos) (mz cs):=⟨J0 hj.h⟩
theorem xW(XR:Env):eval (.Attribute (.Name x p) XQ pos) XR=(do
   let o<-eval (.Name x p) XR
   standAt pos.atName
   let r<-holding [o] (getAttr o XQ true)
   letTemporaryGo (.Name x p) o r
   pure r):=by with_unfolding_all rfl
theorem JA(G:g.Ok)(ha:XE g hd sc XO (.Name x p) ca)(hf:gw g.K C XQ=true):XE g hd sc XO (.Attribute (.Name x p) XQ pos) (c1 (bA C XQ) ca):=⟨IB G ha.h hf xW⟩
theorem pG(G:g.Ok)(X:bM g.K)(ha:XE g hd sc XO (.Name x p) ca)(hl:XQ∈mX)(hB:typeLookup (.type "Exception") XQ=pure none):XE g hd sc XO (.Attribute (.Name x p) XQ pos) (c1 (gE XQ) ca):=
 ⟨G8 G X ha.h hl hB xW⟩
theorem j1(h:XE g hd sc XO e c):XP g hd sc XO (some e) c:=⟨qV h.h⟩
theorem xX:XP g hd sc XO none (af .none):=⟨uy⟩
theorem nC{a:Expr}{lo hi:Option Expr}{p pos:Pos}{ca cl ch:CE}(ha:XE g hd sc XO a ca)(hl:XP g hd sc XO lo cl)(hh:XP g hd sc XO hi ch)(htm:∀o r,letTemporaryGo a o r=pure ()):
  XE g hd sc XO (.Subscript a (.Slice lo hi none p) pos) (fD ca cl ch):=⟨Cj ha.h hl.h hh.h htm⟩
theorem qy{a:Expr}{lo hi:Option Expr}{p pos:Pos}{ca cl ch:CE}(ha:XE g hd sc XO a ca)(hl:XP g hd sc XO lo cl)(hh:XP g hd sc XO hi ch)(htm:∀o r,letTemporaryGo a o r=pure ()):
  XE g hd sc XO (.Subscript a (.Slice lo hi none p) pos) (dG ca cl ch):=⟨Ck ha.h hl.h hh.h htm⟩
theorem GA(G:g.Ok)(ha:XE g hd sc XO a ca)(hb:XE g hd sc XO b cb)(hs:∀o i,subscripted b false o i=operate [o,i] (getItem o i)):XE g hd sc XO (.Subscript a b pos) (c2 au ca cb):=⟨PU G ha.h hb.h hs⟩
theorem mY(hit:XE g false sc XO iter ci)(hci:iu dK x=true)(XX:XO.Nodup)(he:XE g false dK [x] elt eA)(hs:∀XR v,foldedSetIterable iter XR v=pure v):
  XE g false sc XO (.ListComp elt [⟨.Name x px,iter,[],0⟩] dK pos) (cR [] eA ci):=⟨Gx hit.h hci XX he.h hs⟩
theorem GB(G:g.Ok)(hf:jy g.K C a XQ=true)(hob:XE g false sc XO o (af (.fn (.ref C))))(ha:AL g false sc XO pos XS cs)(h:XS.all notStar=true)
  (he:∀XR,∃pl,eval (.Call (.Attribute o XQ apos) XS [] pos) XR=(do
   let ov<-eval o XR
   standAt apos.atName
   let (f,first)<-holding [ov] (getMethod ov XQ pl)
   callWith pos f first (backTo pos (starEach XS XR)) (backToKw pos (keywordEach [] XR)))):
  XE g false sc XO (.Call (.Attribute o XQ apos) XS [] pos) (uV C XQ a cs):=⟨CO G hf hob.h ha h he⟩
theorem JB(G:g.Ok)(hf:j8 g.K C a XQ=true)(hob:XE g false sc XO o co)(ha:AL g false sc XO pos XS cs)(h:XS.all notStar=true)
  (he:∀XR,∃pl,eval (.Call (.Attribute o XQ apos) XS [] pos) XR=(do
   let ov<-eval o XR
   standAt apos.atName
   let (f,first)<-holding [ov] (getMethod ov XQ pl)
   callWith pos f first (backTo pos (starEach XS XR)) (backToKw pos (keywordEach [] XR)))):
  XE g false sc XO (.Call (.Attribute o XQ apos) XS [] pos) (cL C a XQ co cs):=⟨Gv G hf hob.h ha h he⟩
theorem Bi(G:g.Ok){b:BT}{id:String}{f:PL}{o:Expr}{XQ:Str}{XS:List Expr}{apos pos:Pos}{co:CE}{cs:CL}(hop:D3 g hd sc XO id f)(slot:Slot b.name XQ id)(hty:typeOf (.builtin id)=pure (.type "method_descriptor"))
  (hob:XE g hd sc XO o co) (ha:AL g hd sc XO pos XS cs) (h:XS.all notStar=true) (hl:decide (XS.length<20)=true) (xD:∀XR w,attributeBase o XQ XR w=w) (sR:(apos.endLine==pos.line)=true):
  XE g hd sc XO (.Call (.Attribute o XQ apos) XS [] pos) (cM b f co cs):=⟨QD G hop slot hty hob.h ha h hl (fun XR=>xD XR _) sR⟩
theorem gU(G:g.Ok)(hop:pJ g hd sc XO (fun v=>call b [v]) f)(hn:nsIn g.K mainGlobals x=some none)(hl:sc.names.lookup x=some .globalImplicit)(he:XE g hd sc XO e c)
  (hb:bootBuiltins x=some b) (hx:x≠"__name__"/\(x==("__debug__":Str))=false) (hk:keeperOf b=pure .machine) (h:notStar e=true):XE g hd sc XO (.Call (.Name x p) [e] [] pos) (c1 f c):=
 ⟨FH G hop hn hl he.h hb hx hk (fun XR=>kN) fun XR=>by rw[dD h];rfl⟩
theorem uL(G:g.Ok)(hC:isNotIn g.K "str" C=true)(hn:nsIn g.K mainGlobals (Str.ofString "isinstance")=some none)(hl:sc.names.lookup (Str.ofString "isinstance")=some .globalImplicit)(he:XE g hd sc XO e c)
  (hf:XE g hd sc XO (.Name y p2) (af (.fn (.ref C)))) (h:notStar e=true):XE g hd sc XO (.Call (.Name "isinstance" p) [e,.Name y p2] [] pos) (c1 (ro C) c):=
 ⟨Cn (x:="") G hC hn hl he.h hf.h (fun XR=>kN) fun XR=>by rw[dD h];rfl⟩
theorem JC(G:g.Ok)(hf:XE g false sc XO (.Name x p) (af (.fn (.ref C))))(hm:kL g.K C i=true):XE g false sc XO (.Call (.Name x p) [] [] pos) (oO C i):=⟨ID G hf.h hm fun XR=>kN⟩
theorem lT(G:g.Ok)(hf:XE g false sc XO (.Name x p) cf)(ha:AL g false sc XO pos XS cs)(h:XS.all notStar=true):XE g false sc XO (.Call (.Name x p) XS [] pos) (ak cf cs):=⟨Gu G hf.h ha h⟩
theorem JD{o1 o2:CmpOp}{f1 f2:P2}{a b c:Expr}{pos:Pos}{ca cb cc:CE}(ha:XE g hd sc XO a ca)(hb:XE g hd sc XO b cb)(hc:XE g hd sc XO c cc)(hf1:kP g hd sc XO (compareOp o1) f1)(hf2:kP g hd sc XO (compareOp o2) f2)
  (hm:lastMarks [o1,o2] [b,c]=false):XT g hd sc XO (.Compare a [o1,o2] [b,c] pos) (tE (lW f1 f2 ca cb cc)):=⟨IX ha.h hb.h hc.h hf1 hf2 hm⟩
theorem GC(ha:XE g hd sc XO a ca)(hb:XE g hd sc XO b cb)(hf:kP g hd sc XO (compareOp op) f)(hm:behindInMarks op b=false):XT g hd sc XO (.Compare a [op] [b] pos) (tE (c2 f ca cb)):=⟨PC ha.h hb.h hf hm⟩
theorem CQ(ha:XE g hd sc XO a ca)(hf:pJ g hd sc XO (fun v=>compareOp op v .none) f)(hm:behindInMarks op (.Constant .none k p1)=false):
  XT g hd sc XO (.Compare a [op] [.Constant .none k p1] pos) (tE (c1 f ca)):=⟨Cd ha.h hf hm⟩
theorem GD(ha:XT g hd sc XO e c):XT g hd sc XO (.UnaryOp .Not e pos) (oH c):=⟨PD ha.h⟩
theorem GF(hb:XT g hd sc XO b c):XA g hd sc XO op [b] c:=⟨PE hb.h⟩
theorem QI(ha:XT g hd sc XO a ca)(hb:XA g hd sc XO .And (r::rs) cb):XA g hd sc XO .And (a::r::rs) (jC ca cb):=⟨PF ha.h hb.h⟩
theorem KG(ha:XT g hd sc XO a ca)(hb:XA g hd sc XO .Or (r::rs) cb):XA g hd sc XO .Or (a::r::rs) (nd ca cb):=⟨Tg ha.h hb.h⟩
theorem GG(h:XA g hd sc XO op es c):XT g hd sc XO (.BoolOp op es pos) c:=⟨PG h.h⟩
theorem U9(ht:XT g hd sc XO t ct)(ha:XT g hd sc XO a (tE ca))(hb:XT g hd sc XO b (tE cb)):XT g hd sc XO (.IfExp t a b pos) (tE (eL ct ca cb)):=⟨U7 ht.h ha.h hb.h⟩
theorem t9(ha:XE g hd sc XO e c)(he:∀XR whole,isTrue e XR whole=(do let v<-whole;standAt e.pos;holding [v] (truthy v))):XT g hd sc XO e (tE c):=⟨PB ha.h he⟩
theorem Bj(hi:XO[i]?=some x)(hk:jz sc x)(XX:XO.Nodup):XG g sc XO (.Name x p) (toName i):=⟨Jc hi hk XX⟩
theorem gV(htg:qT sc XO xs is)(XX:XO.Nodup)
  (hel:∀XR,∃ts:List (Value->Sem Unit),assignEach elts XR=ts.map (fun t=>(false,t))/\ts.length=xs.length/\∀(i:Nat) (x:Str),xs[i]?=some x->∃p:Pos,ts[i]?=some (assign (.Name x p) XR)):XG g sc XO (.Tuple elts k pos) (iP is):=⟨FY htg XX hel⟩
theorem fC:XB g hd sc XO [] aq:=⟨Ql⟩
theorem GH:XB g hd sc XO body da:=⟨FU⟩
theorem aC{st:Stmt}{rest:List Stmt}{a b:CS}(ha:X1 g hd sc XO st a)(hb:XB g hd sc XO rest b):XB g hd sc XO (st::rest) (ag a b):=⟨J7 ha.h hb.h⟩
theorem qW(hit:XE g false sc XO iter ci)(hci:iu dK x=true)(XX:XO.Nodup)(he:XE g false dK [x] elt eA)(hs:∀XR v,foldedSetIterable iter XR v=pure v)
  (hi:XO[i]?=some y) (hk:jz sc y) (hsw:∀XR:Env,XR.scope=sc->swapsWith (.ListComp elt [⟨.Name x px,iter,[],0⟩] dK pos) (some (.Name y yp)) CH.line XR=pure true):
  X1 g false sc XO (.Assign [.Name y yp] (.ListComp elt [⟨.Name x px,iter,[],0⟩] dK pos) CH) (aO i (cR [] eA ci)):=⟨xV hit.h hci XX he.h hi hk hsw hs⟩
theorem iE(hi:XO[i]?=some x)(hk:jz sc x)(he:XE g hd sc XO e c)(XX:XO.Nodup)(hs:∀XR,swapsWith e (some (.Name x xp)) pos.line XR=pure false):
  X1 g hd sc XO (.Assign [.Name x xp] e pos) (aO i c):=⟨Qm hi hk he.h XX hs⟩
theorem nD(G:g.Ok)(hf:eK g.K C XQ=true)(ho':XE g hd sc XO o co)(he:XE g hd sc XO e ce)(hs:∀XR,swapsWith e (some (.Attribute o XQ ap)) pos.line XR=pure false):
  X1 g hd sc XO (.Assign [.Attribute o XQ ap] e pos) (eN C XQ co ce):=⟨Jb G hf ho'.h he.h hs⟩
theorem xY(G:g.Ok)(ho':XE g hd sc XO o co)(hi:XE g hd sc XO i ci)(he:XE g hd sc XO e ce)(hs:∀XR,swapsWith e (some (.Subscript o i sp)) pos.line XR=pure false):
  X1 g hd sc XO (.Assign [.Subscript o i sp] e pos) (eZ co ci ce):=⟨FW G ho'.h hi.h he.h hs⟩
theorem Bk(htg:qT sc XO xs.reverse is.reverse)(XX:XO.Nodup)(he:XE g false sc XO e c)(hs:∀XR,swapsWithSole [.Tuple elts k qv] e pos.line XR=pure false)
  (hw:∀XR:Env,XR.scope=sc->swappedStores [.Tuple elts k qv] e XR=pure (some xs)):X1 g false sc XO (.Assign [.Tuple elts k qv] e pos) (u9 is c):=⟨Jd htg XX he.h hs hw⟩
theorem gy(he:XE g false sc XO e c)(ht:XG g sc XO (.Tuple elts k qv) (iP is))(hs:∀XR,swapsWithSole [.Tuple elts k qv] e pos.line XR=pure false)
  (hw:∀XR:Env,XR.scope=sc->swappedStores [.Tuple elts k qv] e XR=pure none):X1 g false sc XO (.Assign [.Tuple elts k qv] e pos) (di is c):=⟨Cw (xs:=[]) he.h ht.h hs hw⟩
theorem QJ(hi:XO[i]?=some x)(hk:jz sc x)(hf:kP g hd sc XO (inplaceOp op) f)(he:XE g hd sc XO e c)(XX:XO.Nodup)(hx:Gy x):
  X1 g hd sc XO (.AugAssign (.Name x xp) op e pos) (yC i f c):=⟨Qp hi hk hf he.h XX hx⟩
theorem td(G:g.Ok)(hg:gw g.K C XQ=true)(hf:eK g.K C XQ=true)(hop:kP g hd sc XO (inplaceOp op) f)(ho':XE g hd sc XO o co)(he:XE g hd sc XO e ce):
  X1 g hd sc XO (.AugAssign (.Attribute o XQ ap) op e pos) (eh C XQ co f ce):=⟨zR G hg hf hop ho'.h he.h⟩
theorem nR(ht:XT g hd sc XO t ct)(ha:XB g hd sc XO body a)(hb:XB g hd sc XO orelse b):X1 g hd sc XO (.If t body orelse pos) (bN ct a b):=⟨TF ht.h ha.h hb.h⟩
theorem GI(ht:XT g hd sc XO t ct)(hb:XB g hd sc XO body b):X1 g hd sc XO (.While t body [] pos) (mD ct b):=⟨G0 ht.h hb.h⟩
theorem GJ{j2:MV->Loc->Option Loc}(ht:XG g sc XO target j2)(hi:XE g false sc XO iter ci)(hb:XB g false sc XO body b)
  (hs:∀XR x,foldedSetIterable iter XR x=pure x):X1 g false sc XO (.For target iter body [] pos) (ic j2 ci b):=⟨Qs ht.h hi.h hb.h hs⟩
theorem JE(G:g.Ok)(ht:XG g sc XO target (toName i))(he:XE g false sc XO e ce)(hb:XB g false sc XO body b)
  (hn:nsIn g.K mainGlobals (Str.ofString "range")=some none) (hl:sc.names.lookup (Str.ofString "range")=some .globalImplicit) (h:notStar e=true):
  X1 g false sc XO (.For target (.Call (.Name "range" p) [e] [] zS) body [] pos) (qD i ce b):=⟨Jf G ht.h he.h hb.h hn hl (fun XR=>kN) (fun XR=>by rw[dD h];rfl)⟩
theorem mZ(he:XE g hd sc XO e c):X1 g hd sc XO (.Return (some e) pos) (aK c):=⟨Qo he.h⟩
theorem JF:X1 g hd sc XO (.Return none pos) DQ:=⟨J9⟩
theorem Bl(he:XE g hd sc XO e c)(hs:∀XR,swapsWith e none pos.line XR=pure false):X1 g hd sc XO (.Expr e pos) (bT c):=⟨J8 he.h hs⟩
theorem xZ(G:g.Ok)(X:bM g.K)(he:XE g false sc XO e c):X1 g false sc XO (.Raise (some e) none pos) (g' c):=⟨Gb G X he.h⟩
theorem JG:X1 g hd sc XO (.Continue pos) wx:=⟨J'⟩
theorem CR(hb:XB g false sc XO body b)(hf:∀hd,XB g hd sc XO (Qt::fs) f):X1 g false sc XO (.Try body [] [] (Qt::fs) pos) (iO b f):=⟨Cx hb.h fun hd=>(hf hd).h⟩
theorem GK(G:g.Ok)(X:bM g.K)(hb:XB g false sc XO body b)(hf:XB g true sc XO (Jk::Bc) f)(ht:XE g true sc XO t (af (.fn (.ref RC))))
  (hi:XO[i]?=some x) (XX:XO.Nodup) (hk:sc.names.lookup x=some .local):X1 g false sc XO (.Try body [.ExceptHandler (some t) (some x) (Jk::Bc) HU] [] [] pos) (q0 i b f):=⟨G9 G X hb.h hf.h ht.h hi XX hk⟩
end
noncomputable section
noncomputable def ob{α β:Type}(x:Option α)(f:α->Option β):Option β:=match x with
 |some a=>f a
 |none=>none
noncomputable def gd{α:Type}(c:Bool)(x:Option α):Option α:=match c with
 |true=>x
 |false=>none
theorem kn{α:Type}{x:α}{P:Prop}(h:none=some x):P:=nomatch h
theorem bj{α β:Type}{x:Option α}{f:α->Option β}{v:β}{P:Prop}(h:ob x f=some v)(k:∀a,x=some a->f a=some v->P):P:=by
 cases x with
 |none=>cases h
 |some a=>exact k a rfl h
theorem fW{α:Type}{c:Bool}{x:Option α}{v:α}{P:Prop}(h:gd c x=some v)(k:c=true->x=some v->P):P:=by
 cases c with
 |false=>cases h
 |true=>exact k rfl h
structure Tb where
 y0:List (Str×Addr)
 UJ:List Str
 attrs:List (Addr×Str)
 stores:List (Addr×Str)
 meths:List (Str×Addr×Addr)
 makes:List (Str×Addr×Addr)
 cls:List (Str×Addr)
structure iM(g:eC)(T:Tb):Prop where
 glob:∀x a,T.y0.lookup x=some a->nsIn g.K mainGlobals x=some (some (.ref a))
 bi:∀x,T.UJ.contains x=true->nsIn g.K mainGlobals x=some none
 attr:∀C x,T.attrs.contains (C,x)=true->gw g.K C x=true
 store:∀C x,T.stores.contains (C,x)=true->eK g.K C x=true
 U':∀x C a,T.meths.lookup x=some (C,a)->j8 g.K C a x=true
 make:∀x C i,T.makes.lookup x=some (C,i)->kL g.K C i=true
noncomputable def ix(x:Str):List Str->Option Nat
 |[]=>none
 |y::r=>if y=x then some 0 else ob (ix x r) fun i=>some (i+1)
set_option tactic.hygienic true in
theorem y4{x:Str}:∀{l:List Str}{i:Nat},ix x l=some i->l[i]?=some x
 |[],_,h=>by cases h
 |y::r,i,h=>by
  replace h:(if y=x then some 0 else ob (ix x r) fun i=>some (i+1))=some i:=h
  split at h
  ·rename_i e;cases h;exact aY some e
  ·refine bj (h) fun j h1 h2=>?_
   cases h2;exact(show r[j]?=some x from y4 h1)
noncomputable def Ua(x:Str):Bool:=!(x==("__debug__":Str))&&!(x==("__classdict__":Str))
theorem dE{x:Str}(h:Ua x=true):Gy x:=by
 unfold Ua at h;rw[bW,ja,ja]at h;exact h
noncomputable def o2:Operator->Option P2
 |.Add=>some bb
 |.Sub=>some dT
 |.Mult=>some kX
 |.Mod=>some gW
 |.FloorDiv=>some iz
 |_=>none
noncomputable def i2:Operator->Option P2
 |.Add=>some oJ
 |.Sub=>some dT
 |_=>none
noncomputable def q2:CmpOp->Option P2
 |.Eq=>some bQ
 |.NotEq=>some we
 |.Lt=>some kq
 |.LtE=>some DP
 |.Gt=>some yl
 |.GtE=>some Kd
 |.In=>some nF
 |.NotIn=>some eX
 |_=>none
def q1(op:CmpOp)(b:Expr):Option P1:=match b with
 |.Constant v _ _=>(match v with
  |.none=>(match op with
   |.Is=>some bg
   |.IsNot=>some eg
   |_=>none)
  |_=>none)
 |_=>none
def fB(x:Str):Option P1:=if x="len" then some eY else if x="str" then some iN else if x="ord" then some Hw else if x="max" then some oM else if x="all" then some qY else if x="tuple" then some kc else none
def mB(x:Str)(n:Nat):Option (BT×PL):=if x="append" then some (.list,cg) else if x="join" then some (.str,lV) else if x="get" then some (.dict,nX) else if x="startswith" then some (.str,oP) else if x="lower" then some (.str,rT) else if x="index" then some (.str,uW) else if x="pop" then(if n=0 then some (.list,Bt) else some (.dict,wu)) else none
noncomputable def subB(b:Expr):Bool:=match b with
 |.Slice ..=>false
 |_=>true
noncomputable def UK(b:Expr):Bool:=match b with
 |.ListComp ..=>false
 |.SetComp ..=>false
 |.DictComp ..=>false
 |_=>true
noncomputable def setB(b:Expr):Bool:=match b with
 |.Set ..=>false
 |_=>true
noncomputable def Bm(b:Expr):Bool:=match b with
 |.Call ..=>false
 |_=>true
noncomputable def GN(b:Expr):Bool:=match b with
 |.Name ..=>true
 |.Call ..=>true
 |.Attribute ..=>true
 |.Subscript ..=>true
 |_=>false
noncomputable def uM(T:Tb)(o:Expr):Option Addr:=match o with
 |.Name y _=>T.cls.lookup y
 |_=>none
section
variable(T:Tb)(sc:Scope)(XO:List Str)(E:Expr->Option CE)(Tt:Expr->Option CT)
def y5(x:Str):Option CE:=gd (Ua x) (match ix x XO with
 |some i=>some (ae i)
 |none=>ob (T.y0.lookup x) fun a=>gd (sc.names.lookup x==some .globalImplicit) (some (af (.fn (.ref a)))))
noncomputable def lx:List Expr->Option CL
 |[]=>some ai
 |e::r=>gd (notStar e) (ob (E e) fun c=>ob (lx r) fun cs=>some (aa c cs))
def GO(a:Expr)(op:CmpOp)(b:Expr):Option CE:=match q1 op b with
 |some f=>ob (E a) fun c=>some (c1 f c)
 |none=>gd (!behindInMarks op b) (ob (q2 op) fun f=>ob (E a) fun ca=>ob (E b) fun cb=>some (c2 f ca cb))
def GP(a:Expr)(ops:List CmpOp)(bs:List Expr):Option CE:=match ops with
 |[op]=>(match bs with
  |[b]=>GO E a op b
  |_=>none)
 |_=>none
def W0(x:Str)(XS:List Expr):Option CE:=match ix x XO with
 |some _=>ob (y5 T sc XO x) fun cf=>ob (lx E XS) fun cs=>some (ak cf cs)
 |none=>(match fB x with
  |some f=>(match XS with
   |[e]=>gd (T.UJ.contains x&&notStar e&&(sc.names.lookup x==some .globalImplicit)) (ob (E e) fun c=>some (c1 f c))
   |_=>none)
  |none=>(match T.makes.lookup x with
   |some (C,i)=>(match XS with
    |[]=>gd (Ua x&&(T.y0.lookup x==some C)&&(sc.names.lookup x==some .globalImplicit)) (some (oO C i))
    |_=>none)
   |none=>ob (y5 T sc XO x) fun cf=>ob (lx E XS) fun cs=>some (ak cf cs)))
def GQ(o:Expr)(XQ:Str)(XS:List Expr)(same:Bool):Option CE:=match uM T o with
 |some C=>ob (T.meths.lookup XQ) fun m=>gd (m.1==C&&(same&&decide (XS.length<20))) (ob (E o) fun co=>ob (lx E XS) fun cs=>some (cL C m.2 XQ co cs))
 |none=>ob (mB XQ XS.length) fun m=>gd (same&&Bm o&&decide (XS.length<20)) (ob (E o) fun co=>ob (lx E XS) fun cs=>some (cM m.1 m.2 co cs))
def KH(e:Expr):Option CE:=match e with
 |.Constant v _ _=>(match v with
  |.none=>some (af .none)
  |.bool b=>some (af (.bool b))
  |.int i=>some (af (.int i))
  |.str x=>gd (decide (oE x)) (some (af (.str x)))
  |_=>none)
 |.Name x _=>y5 T sc XO x
 |.BinOp a op b _=>ob (o2 op) fun f=>ob (E a) fun ca=>ob (E b) fun cb=>some (c2 f ca cb)
 |.UnaryOp op a _=>(match op with
  |.USub=>ob (E a) fun c=>some (c1 qX c)
  |.Not=>ob (E a) fun c=>some (Hv c)
  |_=>none)
 |.Compare a ops bs _=>GP E a ops bs
 |.IfExp t a b _=>ob (Tt t) fun ct=>ob (E a) fun ca=>ob (E b) fun cb=>some (eL ct ca cb)
 |.Tuple es _ _=>ob (lx E es) fun cs=>some (aG cs)
 |.List es _=>ob (lx E es) fun cs=>some (dy cs)
 |.Subscript a b _=>gd (subB b) (ob (E a) fun ca=>ob (E b) fun cb=>some (c2 au ca cb))
 |.Attribute o XQ _=>ob (uM T o) fun C=>gd (T.attrs.contains (C,XQ)) (ob (E o) fun c=>some (c1 (bA C XQ) c))
 |.Call f XS W2 pos=>(match W2 with
  |[]=>(match f with
   |.Name x _=>W0 T sc XO E x XS
   |.Attribute o XQ apos=>GQ T E o XQ XS (apos.endLine==pos.line)
   |_=>none)
  |_=>none)
 |_=>none
def GR(e:Expr):Option CE:=match e with
 |.Compare a ops bs _=>GP E a ops bs
 |e=>gd (GN e) (E e)
noncomputable def Bn(op:BoolOp):List Expr->Option CT
 |[]=>none
 |b::r=>(match r with
  |[]=>Tt b
  |_::_=>ob (Tt b) fun ca=>ob (Bn op r) fun cb=>(match op with
   |.And=>some (jC ca cb)
   |.Or=>some (nd ca cb)))
def KI(e:Expr):Option CT:=match e with
 |.UnaryOp op a _=>(match op with
  |.Not=>ob (Tt a) fun c=>some (oH c)
  |_=>none)
 |.BoolOp op es _=>Bn Tt op es
 |.IfExp t a b _=>ob (Tt t) fun ct=>ob (GR E a) fun ca=>ob (GR E b) fun cb=>some (tE (eL ct ca cb))
 |.Compare a ops bs _=>(match ops with
  |[o1,o2]=>(match bs with
   |[b,c]=>gd (!lastMarks [o1,o2] [b,c]) (ob (q2 o1) fun f1=>ob (q2 o2) fun f2=>ob (E a) fun ca=>ob (E b) fun cb=>ob (E c) fun cc=>some (tE (lW f1 f2 ca cb cc)))
   |_=>none)
  |_=>ob (GP E a ops bs) fun c=>some (tE c))
 |e=>gd (GN e) (ob (E e) fun c=>some (tE c))
noncomputable def xs:Nat->(Expr->Option CE)×(Expr->Option CT)
 |0=>(fun _=>none,fun _=>none)
 |n+1=>(KH T sc XO (xs n).1 (xs n).2,KI (xs n).1 (xs n).2)
noncomputable def QK(x:Str):Bool:=sc.names.lookup x==some .local
def Ub(t:Expr)(c:CE):Option CS:=match t with
 |.Name x _=>gd (QK sc x) (ob (ix x XO) fun i=>some (aO i c))
 |.Attribute o XQ _=>ob (uM T o) fun C=>gd (T.stores.contains (C,XQ)) (ob (E o) fun co=>some (eN C XQ co c))
 |.Subscript o i _=>ob (E o) fun co=>ob (E i) fun ci=>some (eZ co ci c)
 |_=>none
def Uc(f:P2)(t:Expr)(c:CE):Option CS:=match t with
 |.Name x _=>gd (QK sc x&&Ua x) (ob (ix x XO) fun i=>some (yC i f c))
 |.Attribute o XQ _=>ob (uM T o) fun C=>gd (T.stores.contains (C,XQ)&&T.attrs.contains (C,XQ)) (ob (E o) fun co=>some (eh C XQ co f c))
 |_=>none
def x1(B:List Stmt->Option CS)(st:Stmt):Option CS:=match st with
 |.Return v _=>(match v with
  |none=>some DQ
  |some e=>ob (E e) fun c=>some (aK c))
 |.Expr e _=>gd (UK e) (ob (E e) fun c=>some (bT c))
 |.Assign ts e _=>(match ts with
  |[t]=>gd (UK e) (ob (E e) fun c=>Ub T sc XO E t c)
  |_=>none)
 |.AugAssign t op e _=>ob (i2 op) fun f=>ob (E e) fun c=>Uc T sc XO E f t c
 |.If t body orelse _=>ob (Tt t) fun ct=>ob (B body) fun a=>ob (B orelse) fun b=>some (bN ct a b)
 |.While t body orelse _=>(match orelse with
  |[]=>ob (Tt t) fun ct=>ob (B body) fun b=>some (mD ct b)
  |_=>none)
 |.For t iter body orelse _=>(match orelse with
  |[]=>(match t with
   |.Name x _=>gd (setB iter&&QK sc x) (ob (ix x XO) fun i=>ob (E iter) fun c=>ob (B body) fun b=>some (ic (toName i) c b))
   |_=>none)
  |_=>none)
 |.Raise e c _=>(match c with
  |none=>ob e fun e=>ob (E e) fun c=>some (g' c)
  |_=>none)
 |.Continue _=>some wx
 |_=>none
noncomputable def xb:Nat->List Stmt->Option CS
 |0,_=>none
 |n+1,[]=>some aq
 |n+1,st::r=>(match x1 T sc XO E Tt (xb n) st with
  |some a=>ob (xb n r) fun b=>some (ag a b)
  |none=>some da)
end
variable{g:eC}{sc:Scope}{XO:List Str}{T:Tb}{E:Expr->Option CE}{Tt:Expr->Option CT}
theorem s1{st:Stmt}{a c:CS}(h:some a=some c)(k:X1 g false sc XO st a):X1 g false sc XO st c:=dQ h▸k
theorem sE{e:Expr}{a c:CE}(h:some a=some c)(k:XE g false sc XO e a):XE g false sc XO e c:=dQ h▸k
theorem sT{e:Expr}{a c:CT}(h:some a=some c)(k:XT g false sc XO e a):XT g false sc XO e c:=dQ h▸k
theorem iF{x k:Str}{α:Type}{a:α}{r:Option α}{m:α}{P:Prop}(h:(if x=k then some a else r)=some m)(h1:x=k->a=m->P)(h2:r=some m->P):P:=by
 by_cases e:x=k
 ·rw[if_pos e]at h;exact h1 e (dQ h)
 ·rw[if_neg e]at h;exact h2 h
noncomputable def yn(g:eC)(sc:Scope)(XO:List Str)(E:Expr->Option CE):Prop:=∀e c,E e=some c->XE g false sc XO e c
noncomputable def A5(g:eC)(sc:Scope)(XO:List Str)(Tt:Expr->Option CT):Prop:=∀e c,Tt e=some c->XT g false sc XO e c
theorem Ud{op:Operator}{f:P2}(h:o2 op=some f):kP g false sc XO (binaryOp op) f:=by
 cases op<;>first|(cases h;done)|(cases h;exact @zH _ _ _ _)|(cases h;exact @PJ _ _ _ _)|(cases h;exact @PN _ _ _ _)|(cases h;exact @PK _ _ _ _)|(cases h;exact @PO _ _ _ _)
theorem KJ{op:Operator}{f:P2}(h:i2 op=some f):kP g false sc XO (inplaceOp op) f:=by
 cases op<;>first|(cases h;done)|(cases h;exact @Ja _ _ _ _)|(cases h;exact @B9 _ _ _ _)
theorem Bo(G:g.Ok){op:CmpOp}{f:P2}(h:q2 op=some f):kP g false sc XO (compareOp op) f:=by
 cases op<;>first|(cases h;done)|(cases h;exact @Tq _ _ _ _)|(cases h;exact @Tp _ _ _ _)|(cases h;exact @To _ _ _ _)|(cases h;exact @Ti _ _ _ _)|(cases h;exact @Tj _ _ _ _)|(cases h;exact @Tn _ _ _ _)|(cases h;exact @Kx _ _ _ _ G)|(cases h;exact @FC _ _ _ _ G)
set_option tactic.hygienic true in
theorem Ue{op:CmpOp}{b:Expr}{f:P1}(h:q1 op b=some f):(∃k p,b=.Constant .none k p)/\pJ g false sc XO (fun v=>compareOp op v .none) f:=by
 cases b<;>first|exact kn h|skip
 case Constant v k p=>
  cases v<;>first|exact kn h|skip
  cases op<;>first|exact kn h|skip
  ·cases h;exact⟨⟨_,_,rfl⟩,Cg⟩
  ·cases h;exact⟨⟨_,_,rfl⟩,zI⟩
theorem Ug{c:Bool}{P:Prop}(h:c=true)(h2:c=false):P:=absurd (h.symm.trans h2) (by decide)
theorem JH{b:Expr}(h:subB b=true)(o i:Value):subscripted b false o i=operate [o,i] (getItem o i):=by
 cases b<;>first|rfl|exact Ug h rfl
theorem vQ{e:Expr}(h:UK e=true)(t:Option Expr)(l:Nat)(XR:Env):swapsWith e t l XR=pure false:=by
 cases e<;>first|rfl|exact Ug h rfl
theorem JI{e:Expr}(h:setB e=true)(XR:Env)(v:Value):foldedSetIterable e XR v=pure v:=by
 cases e<;>first|rfl|exact Ug h rfl
noncomputable def Uh(e:Expr):Prop:=∀(XR:Env) (whole:Sem Value),isTrue e XR whole=(do let v<-whole;standAt e.pos;holding [v] (truthy v))
theorem Bp{e:Expr}(h:GN e=true):Uh e:=by
 cases e<;>first|exact Ug h rfl|exact fun _ _=>by with_unfolding_all rfl
theorem A6{o:Expr}(h:Bm o=true)(XQ:Str)(XR:Env)(w:Sem Value):attributeBase o XQ XR w=w:=by
 cases o<;>first|rfl|exact Ug h rfl
noncomputable def isName(o:Expr):Prop:=∃y p,o=.Name y p
theorem y6{o:Expr}{C:Addr}(h:uM T o=some C):isName o:=by
 cases o<;>first|exact kn h|exact⟨_,_,rfl⟩
theorem y7(G:g.Ok)(H:iM g T){x:Str}{pos:Pos}{c:CE}(h:y5 T sc XO x=some c):XE g false sc XO (.Name x pos) c:=by
 refine fW (h) fun h1 h2=>?_
 cases hi:ix x XO with
 |some i=>
  rw[hi]at h2;exact sE h2 (qx (y4 hi) (dE h1))
 |none=>
  rw[hi]at h2;refine bj (h2) fun a h3 h4=>?_
  refine fW (h4) fun h5 h6=>?_
  exact sE h6 (fZ G (H.glob _ _ h3) (eq_of_beq h5) (dE h1))
theorem uN(hE:yn g sc XO E){pos:Pos}:∀{es:List Expr}{cs:CL},lx E es=some cs->AL g false sc XO pos es cs/\es.all notStar=true
 |[],_,h=>by cases h;exact⟨gT,rfl⟩
 |e::r,cs,h=>by
  refine fW (h) fun h1 h2=>?_
  refine bj (h2) fun c h3 h4=>?_
  refine bj (h4) fun d h5 h6=>?_
  cases h6;obtain⟨h7,h8⟩:=uN hE (pos:=pos) h5;exact⟨cp (hE _ _ h3) h7 h1,by rw[iy,h1,h8];rfl⟩
theorem vR(G:g.Ok)(hE:yn g sc XO E){a:Expr}{ops:List CmpOp}{bs:List Expr}{pos:Pos}{c:CE}(h:GP E a ops bs=some c):XE g false sc XO (.Compare a ops bs pos) c/\XT g false sc XO (.Compare a ops bs pos) (tE c):=by
 rcases ops with _|⟨op,_|⟨_,_⟩⟩
 ·exact kn h
 ·rcases bs with _|⟨b,_|⟨_,_⟩⟩
  ·exact kn h
  ·replace h:GO E a op b=some c:=h;unfold GO at h;cases hq:q1 op b with
   |some f=>
    refine bj ((show ob (E a) (fun c=>some (c1 f c))=some c by rw[hq]at h;exact h)) fun ca h1 h2=>?_
    cases h2;obtain⟨⟨k,p,rfl⟩,ho⟩:=Ue (g:=g) (sc:=sc) (XO:=XO) hq;exact⟨CP (hE _ _ h1) ho rfl,CQ (hE _ _ h1) ho rfl⟩
   |none=>
    refine fW ((show gd (!behindInMarks op b) (ob (q2 op) fun f=>ob (E a) fun ca=>ob (E b) fun cb=>some (c2 f ca cb))=some c by rw[hq]at h;exact h)) fun h1 h2=>?_
    refine bj (h2) fun f h3 h4=>?_
    refine bj (h4) fun ca h5 h6=>?_
    refine bj (h6) fun cb h7 h8=>?_
    cases h8;rw[ja]at h1;exact⟨QG (hE _ _ h5) (hE _ _ h7) (Bo G h3) h1,GC (hE _ _ h5) (hE _ _ h7) (Bo G h3) h1⟩
  ·exact kn h
 ·exact kn h
noncomputable def Xr(g:eC)(sc:Scope)(XO:List Str)(x:Str)(f:P1):Prop:=∃b,pJ g false sc XO (fun v=>call b [v]) f/\bootBuiltins x=some b/\(x≠"__name__"/\(x==("__debug__":Str))=false)/\keeperOf b=pure .machine
noncomputable def Xs(g:eC)(sc:Scope)(XO:List Str)(x:Str)(m:BT×PL):Prop:=∃id,D3 g false sc XO id m.2/\Slot m.1.name x id/\typeOf (.builtin id)=pure (.type "method_descriptor")
theorem Ui{x:Str}{f:P1}(h:fB x=some f):Xr g sc XO x f:=by
 unfold fB at h;refine iF h (fun e q=>?_) fun h1=>?_
 ·clear h;subst e q;exact⟨_,PV,by ac_rfl,by ac_rfl,rfl⟩
 refine iF h1 (fun e q=>?_) fun h2=>?_
 ·  clear h h1;subst e q;exact⟨_,zJ,by ac_rfl,by ac_rfl,rfl⟩
 refine iF h2 (fun e q=>?_) fun h3=>?_
 ·  clear h h1 h2;subst e q;exact⟨_,PW,by ac_rfl,by ac_rfl,rfl⟩
 refine iF h3 (fun e q=>?_) fun h4=>?_
 ·  clear h h1 h2 h3;subst e q;exact⟨_,zL,by ac_rfl,by ac_rfl,rfl⟩
 refine iF h4 (fun e q=>?_) fun h5=>?_
 ·  clear h h1 h2 h3 h4;subst e q;exact⟨_,zK,by ac_rfl,by ac_rfl,rfl⟩
 refine iF h5 (fun e q=>?_) fun h6=>?_
 ·  clear h h1 h2 h3 h4 h5;subst e q;exact⟨_,sQ,by ac_rfl,by ac_rfl,rfl⟩
 exact kn h6
theorem Uj(G:g.Ok){x:Str}{n:Nat}{m:BT×PL}(h:mB x n=some m):Xs g sc XO x m:=by
 unfold mB at h;refine iF h (fun e q=>?_) fun h1=>?_
 ·clear h;subst e q;exact⟨_,uA,PySem.F.slot_list_append,rfl⟩
 refine iF h1 (fun e q=>?_) fun h2=>?_
 ·  clear h h1;subst e q;exact⟨_,IW,PySem.F.slot_str_join,rfl⟩
 refine iF h2 (fun e q=>?_) fun h3=>?_
 ·  clear h h1 h2;subst e q;exact⟨_,vC G,rM,rfl⟩
 refine iF h3 (fun e q=>?_) fun h4=>?_
 ·  clear h h1 h2 h3;subst e q;exact⟨_,Cp,PySem.F.slot_str_startswith,rfl⟩
 refine iF h4 (fun e q=>?_) fun h5=>?_
 ·  clear h h1 h2 h3 h4;subst e q;exact⟨_,FK,PySem.F.slot_str_lower,rfl⟩
 refine iF h5 (fun e q=>?_) fun h6=>?_
 ·  clear h h1 h2 h3 h4 h5;subst e q;exact⟨_,FL,PySem.F.slot_str_index,rfl⟩
 by_cases e:x="pop"
 ·rw[if_pos e]at h6;clear h h1 h2 h3 h4 h5;subst e;by_cases e:n=0
  ·rw[if_pos e]at h6;cases h6;exact⟨_,PY,PySem.F.slot_list_pop,rfl⟩
  ·rw[if_neg e]at h6;cases h6;exact⟨_,IV G,PySem.F.slot_dict_pop,rfl⟩
 ·rw[if_neg e]at h6;exact kn h6
theorem QL(G:g.Ok)(H:iM g T)(hE:yn g sc XO E){x:Str}{XS:List Expr}{p pos:Pos}{c:CE}(h:W0 T sc XO E x XS=some c):XE g false sc XO (.Call (.Name x p) XS [] pos) c:=by
 have fn:∀c,(ob (y5 T sc XO x) fun cf=>ob (lx E XS) fun cs=>some (ak cf cs))=some c->XE g false sc XO (.Call (.Name x p) XS [] pos) c:=fun c h=>by
  refine bj (h) fun cf h1 h2=>?_
  refine bj (h2) fun cs h3 h4=>?_
  cases h4;obtain⟨h5,h6⟩:=uN hE (pos:=pos) h3;exact lT G (y7 G H h1) h5 h6
 unfold W0 at h;cases hi:ix x XO with
 |some i=>rw[hi]at h;exact fn _ h
 |none=>
 rw[hi]at h;cases hf:fB x with
 |some f=>
  rw[hf]at h;rcases XS with _|⟨e,_|⟨e2,r⟩⟩
  ·exact kn h
  ·refine fW (h) fun h1 h2=>?_
   refine bj (h2) fun c h3 h4=>?_
   cases h4;rw[bW,bW]at h1;obtain⟨b,b1,b2,b3,b4⟩:=Ui (g:=g) (sc:=sc) (XO:=XO) hf;exact gU G b1 (H.bi _ h1.1.1) (eq_of_beq h1.2) (hE _ _ h3) b2 b3 b4 h1.1.2
  ·exact kn h
 |none=>
 rw[hf]at h;cases hm:T.makes.lookup x with
 |some q=>
  obtain⟨C,i⟩:=q;rw[hm]at h;rcases XS with _|⟨e2,r⟩
  ·refine fW (h) fun h1 h2=>?_
   cases h2;rw[bW,bW]at h1;exact JC G (fZ G (H.glob _ _ (eq_of_beq h1.1.2)) (eq_of_beq h1.2) (dE h1.1.1)) (H.make _ _ _ hm)
  ·exact kn h
 |none=>rw[hm]at h;exact fn _ h
theorem GS{y XQ:Str}{p apos pos:Pos}{XS:List Expr}(h:XS.all notStar=true)(hl:XS.length<20)(sR:(apos.endLine==pos.line)=true)(XR:Env):∃pl,eval (.Call (.Attribute (.Name y p) XQ apos) XS [] pos) XR=(do
   let ov<-eval (.Name y p) XR
   standAt apos.atName
   let (f,first)<-holding [ov] (getMethod ov XQ pl)
   callWith pos f first (backTo pos (starEach XS XR)) (backToKw pos (keywordEach [] XR))):=by
 have hf:methodCallForm (XS.length+([]:List Keyword).length) (backTo pos (starEach XS XR)) (backToKw pos (keywordEach [] XR))=true:=by
  unfold methodCallForm;rw[lS h];show(true&&_&&decide (XS.length+0+0<30))=true;rw[cO (by lia)];rfl
 have e1:methodCallPos true (.Name y p) XR apos pos=pure pos:=by unfold methodCallPos;rw[sR];rfl
 refine⟨(do return (<-importBound (.Name y p) XR).getD true),?_⟩;show(do
   let ov<-eval (.Name y p) XR
   standAt apos.atName
   (do
    let (f,first)<-holding [ov] (calleeOf (methodCallForm (XS.length+([]:List Keyword).length) (backTo pos (starEach XS XR)) (backToKw pos (keywordEach [] XR))) (.Name y p) XR ov XQ)
    let JJ<-methodCallPos (methodCallForm (XS.length+([]:List Keyword).length) (backTo pos (starEach XS XR)) (backToKw pos (keywordEach [] XR))) (.Name y p) XR apos pos
    callWith JJ f first (backTo pos (starEach XS XR)) (backToKw pos (keywordEach [] XR))))=_
 rw[hf,e1];rfl
theorem GU(G:g.Ok)(H:iM g T)(hE:yn g sc XO E){o:Expr}{XQ:Str}{XS:List Expr}{apos pos:Pos}{c:CE}(h:GQ T E o XQ XS (apos.endLine==pos.line)=some c):XE g false sc XO (.Call (.Attribute o XQ apos) XS [] pos) c:=by
 unfold GQ at h;cases hC:uM T o with
 |some C=>
  rw[hC]at h;refine bj (h) fun m h1 h2=>?_
  refine fW (h2) fun h3 h4=>?_
  refine bj (h4) fun co h5 h6=>?_
  refine bj (h6) fun cs h7 h8=>?_
  cases h8;obtain⟨y,p,rfl⟩:=y6 hC;obtain⟨m1,m2⟩:=m;rw[bW,bW]at h3;have h3':m1=C:=eq_of_beq h3.1;subst h3';obtain⟨h9,h10⟩:=uN hE (pos:=pos) h7;exact JB G (H.U' _ _ _ h1) (hE _ _ h5) h9 h10 (GS h10 (of_decide_eq_true h3.2.2) h3.2.1)
 |none=>
  rw[hC]at h;refine bj (h) fun m h1 h2=>?_
  refine fW (h2) fun h3 h4=>?_
  refine bj (h4) fun co h5 h6=>?_
  refine bj (h6) fun cs h7 h8=>?_
  cases h8;rw[bW,bW]at h3;obtain⟨id,i1,i2,i3⟩:=Uj (sc:=sc) (XO:=XO) G h1;obtain⟨h9,h10⟩:=uN hE (pos:=pos) h7;exact Bi G i1 i2 i3 (hE _ _ h5) h9 h10 h3.2 (A6 h3.1.2 XQ) h3.1.1
set_option tactic.hygienic true in
theorem GV(G:g.Ok)(H:iM g T)(hE:yn g sc XO E)(hT:A5 g sc XO Tt):yn g sc XO (KH T sc XO E Tt):=fun e c h=>by
 cases e<;>first|exact kn h|skip
 case BinOp a op b _=>
  refine bj (h) fun f h1 h2=>?_
  refine bj (h2) fun ca h3 h4=>?_
  refine bj (h4) fun cb h5 h6=>?_
  exact sE h6 (A3 (hE _ _ h3) (hE _ _ h5) (Ud h1))
 case UnaryOp op a _=>
  cases op<;>first|exact kn h|skip
  ·refine bj (h) fun ca h3 h4=>?_
   exact sE h4 (QF (hE _ _ h3))
  ·refine bj (h) fun ca h3 h4=>?_
   exact sE h4 (U8 (hE _ _ h3) PM)
 case IfExp t a b _=>
  refine bj (h) fun ct h1 h2=>?_
  refine bj (h2) fun ca h3 h4=>?_
  refine bj (h4) fun cb h5 h6=>?_
  exact sE h6 (KD (hT _ _ h1) (hE _ _ h3) (hE _ _ h5))
 case Compare a ops bs _=>exact(vR G hE h).1
 case Call f XS W2 pos=>
  cases W2 with
  |cons _ _=>exact kn h
  |nil=>
   cases f<;>first|exact kn h|skip
   ·exact GU G H hE h
   ·exact QL G H hE h
 case Constant v _ _=>
  cases v<;>first|exact kn h|skip
  ·exact sE h (Jw)
  ·exact sE h (Jx)
  ·exact sE h (Gz)
  ·refine fW (h) fun h1 h2=>?_
   exact sE h2 (QE (of_decide_eq_true h1))
 case Attribute o XQ _=>
  refine bj (h) fun C h1 h2=>?_
  refine fW (h2) fun h3 h4=>?_
  refine bj (h4) fun ca h5 h6=>?_
  cases h6;obtain⟨y,p,rfl⟩:=y6 h1;exact JA G (hE _ _ h5) (H.attr _ _ h3)
 case Subscript a b _=>
  refine fW (h) fun h1 h2=>?_
  refine bj (h2) fun ca h3 h4=>?_
  refine bj (h4) fun cb h5 h6=>?_
  exact sE h6 (GA G (hE _ _ h3) (hE _ _ h5) (JH h1))
 case Name x _=>exact y7 G H h
 case List es _=>
  refine bj (h) fun cs h1 h2=>?_
  exact sE h2 (Jz (uN hE h1).1)
 case Tuple es _ _=>
  refine bj (h) fun cs h1 h2=>?_
  exact sE h2 (vN (uN hE h1).1)
theorem QM(hE:yn g sc XO E){e:Expr}{c:CE}(h:gd (GN e) (E e)=some c):XT g false sc XO e (tE c):=by
 refine fW (h) fun h1 h2=>?_
 exact t9 (hE _ _ h2) (Bp h1)
theorem y8(G:g.Ok)(hE:yn g sc XO E){e:Expr}{c:CE}(h:GR E e=some c):XT g false sc XO e (tE c):=by
 cases e<;>first|exact(vR G hE h).2|exact QM hE h
theorem te(hT:A5 g sc XO Tt){op:BoolOp}:∀{es:List Expr}{c:CT},Bn Tt op es=some c->XA g false sc XO op es c
 |[],_,h=>by cases h
 |[b],_,h=>GF (hT _ _ h)
 |b::b2::r,c,h=>by
  have h:(ob (Tt b) fun ca=>ob (Bn Tt op (b2::r)) fun cb=>(match op with
   |.And=>some (jC ca cb)
   |.Or=>some (nd ca cb)))=some c:=h
  refine bj h fun ca h1 h2=>?_
  refine bj h2 fun cb h3 h4=>?_
  cases op with
  |And=>cases h4;exact QI (hT _ _ h1) (te hT h3)
  |Or=>cases h4;exact KG (hT _ _ h1) (te hT h3)
theorem JK(hE:yn g sc XO E){e:Expr}{c:CT}(h:gd (GN e) (ob (E e) fun c=>some (tE c))=some c):XT g false sc XO e c:=by
 refine fW (h) fun h1 h2=>?_
 refine bj (h2) fun ca h3 h4=>?_
 exact sT h4 (t9 (hE _ _ h3) (Bp h1))
theorem JL(G:g.Ok)(hE:yn g sc XO E){a:Expr}{ops:List CmpOp}{bs:List Expr}{pos:Pos}{c:CT}(h:(ob (GP E a ops bs) fun c=>some (tE c))=some c):XT g false sc XO (.Compare a ops bs pos) c:=by
 refine bj (h) fun ca h3 h4=>?_
 cases h4;exact(vR G hE h3).2
set_option tactic.hygienic true in
theorem GW(G:g.Ok)(hE:yn g sc XO E)(hT:A5 g sc XO Tt):A5 g sc XO (KI E Tt):=fun e c h=>by
 cases e<;>first|exact JK hE h|skip
 case BoolOp op es _=>exact GG (te hT h)
 case UnaryOp op a _=>
  cases op<;>first|exact kn h|skip
  refine bj (h) fun ca h3 h4=>?_
  exact sT h4 (GD (hT _ _ h3))
 case IfExp t a b _=>
  refine bj (h) fun ct h1 h2=>?_
  refine bj (h2) fun ca h3 h4=>?_
  refine bj (h4) fun cb h5 h6=>?_
  exact sT h6 (U9 (hT _ _ h1) (y8 G hE h3) (y8 G hE h5))
 case Compare a ops bs _=>
  rcases ops with _|⟨o1,_|⟨o2,_|⟨_,_⟩⟩⟩<;>first|exact JL G hE h|skip
  rcases bs with _|⟨b,_|⟨b2,_|⟨_,_⟩⟩⟩<;>first|exact kn h|skip
  refine fW (h) fun h1 h2=>?_
  refine bj (h2) fun f1 k1 h2=>?_
  refine bj (h2) fun f2 k2 h2=>?_
  refine bj (h2) fun ca h3 h4=>?_
  refine bj (h4) fun cb h5 h6=>?_
  refine bj (h6) fun cc h7 h8=>?_
  cases h8;rw[ja]at h1;exact JD (hE _ _ h3) (hE _ _ h5) (hE _ _ h7) (Bo G k1) (Bo G k2) h1
theorem m9(G:g.Ok)(H:iM g T):∀n,yn g sc XO (xs T sc XO n).1/\A5 g sc XO (xs T sc XO n).2
 |0=>⟨fun _ _ h=>(by cases h),fun _ _ h=>(by cases h)⟩
 |n+1=>⟨GV G H (m9 G H n).1 (m9 G H n).2,GW G (m9 G H n).1 (m9 G H n).2⟩
theorem JM(G:g.Ok)(H:iM g T)(XX:XO.Nodup)(hE:yn g sc XO E){t e:Expr}{pos:Pos}{ca:CE}{c:CS}(h1:UK e=true)(h3:XE g false sc XO e ca)(h:Ub T sc XO E t ca=some c):X1 g false sc XO (.Assign [t] e pos) c:=by
 cases t<;>first|exact kn h|skip
 ·refine bj h fun C h5 h6=>fW h6 fun h7 h8=>bj h8 fun co h9 h10=>?_
  exact s1 h10 (nD G (H.store _ _ h7) (hE _ _ h9) h3 (vQ h1 _ _))
 ·refine bj h fun co h5 h6=>bj h6 fun ci h7 h8=>?_
  exact s1 h8 (xY G (hE _ _ h5) (hE _ _ h7) h3 (vQ h1 _ _))
 ·refine fW h fun h5 h6=>bj h6 fun i h7 h8=>?_
  exact s1 h8 (iE (y4 h7) (.inl (eq_of_beq h5)) h3 XX (vQ h1 _ _))
theorem JN(G:g.Ok)(H:iM g T)(XX:XO.Nodup)(hE:yn g sc XO E){op:Operator}{f:P2}{t e:Expr}{pos:Pos}{ca:CE}{c:CS}(h1:i2 op=some f)(h3:XE g false sc XO e ca)(h:Uc T sc XO E f t ca=some c):X1 g false sc XO (.AugAssign t op e pos) c:=by
 cases t<;>first|exact kn h|skip
 ·refine bj h fun C h5 h6=>fW h6 fun h7 h8=>bj h8 fun co h9 h10=>?_
  exact s1 h10 (td G (H.attr _ _ (Bool.and_eq_true_iff.mp h7).2) (H.store _ _ (Bool.and_eq_true_iff.mp h7).1) (KJ h1) (hE _ _ h9) h3)
 ·refine fW h fun h5 h6=>bj h6 fun i h7 h8=>?_
  exact s1 h8 (QJ (y4 h7) (.inl (eq_of_beq (Bool.and_eq_true_iff.mp h5).1)) (KJ h1) h3 XX (dE (Bool.and_eq_true_iff.mp h5).2))
set_option tactic.hygienic true in
theorem KL(G:g.Ok)(X:bM g.K)(H:iM g T)(XX:XO.Nodup)(hE:yn g sc XO E)(hT:A5 g sc XO Tt){B:List Stmt->Option CS}(hB:∀b c,B b=some c->XB g false sc XO b c){st:Stmt}{c:CS}(h:x1 T sc XO E Tt B st=some c):X1 g false sc XO st c:=by
 cases st<;>first|exact kn h|skip
 case Return v _=>
  cases v with
  |none=>exact s1 h (JF)
  |some e=>
   refine bj (h) fun ca h3 h4=>?_
   exact s1 h4 (mZ (hE _ _ h3))
 case Assign ts e _=>
  rcases ts with _|⟨t,_|⟨_,_⟩⟩<;>first|exact kn h|skip
  exact fW h fun h1 h2=>bj h2 fun ca h3 h4=>JM G H XX hE h1 (hE _ _ h3) h4
 case AugAssign t op e _=>exact bj h fun f h1 h2=>bj h2 fun ca h3 h4=>JN G H XX hE h1 (hE _ _ h3) h4
 case For t iter body orelse _=>
  cases orelse with
  |cons _ _=>exact kn h
  |nil=>
   cases t<;>first|exact kn h|skip
   refine fW (h) fun h1 h2=>?_
   refine bj (h2) fun i h3 h4=>?_
   refine bj (h4) fun ci h5 h6=>?_
   refine bj (h6) fun b h7 h8=>?_
   cases h8;rw[bW]at h1;exact GJ (Bj (y4 h3) (.inl (eq_of_beq h1.2)) XX) (hE _ _ h5) (hB _ _ h7) (JI h1.1)
 case While t body orelse _=>
  cases orelse with
  |cons _ _=>exact kn h
  |nil=>
   refine bj (h) fun ct h1 h2=>?_
   refine bj (h2) fun a h3 h4=>?_
   exact s1 h4 (GI (hT _ _ h1) (hB _ _ h3))
 case If t body orelse _=>
  refine bj (h) fun ct h1 h2=>?_
  refine bj (h2) fun a h3 h4=>?_
  refine bj (h4) fun b h5 h6=>?_
  exact s1 h6 (nR (hT _ _ h1) (hB _ _ h3) (hB _ _ h5))
 case Raise e c _=>
  cases c with
  |some _=>exact kn h
  |none=>
   refine bj (h) fun e h1 h2=>?_
   refine bj (h2) fun ca h3 h4=>?_
   subst h1;exact s1 h4 (xZ G X (hE _ _ h3))
 case Expr e _=>
  refine fW (h) fun h1 h2=>?_
  refine bj (h2) fun ca h3 h4=>?_
  exact s1 h4 (Bl (hE _ _ h3) (vQ h1 _ _))
 case Continue=>exact s1 h (JG)
theorem Bq(G:g.Ok)(X:bM g.K)(H:iM g T)(XX:XO.Nodup)(hE:yn g sc XO E)(hT:A5 g sc XO Tt):∀(n:Nat) (b:List Stmt) (c:CS),xb T sc XO E Tt n b=some c->XB g false sc XO b c
 |0,_,_,h=>by cases h
 |n+1,[],_,h=>by cases h;exact fC
 |n+1,st::r,c,h=>by
  replace h:(match x1 T sc XO E Tt (xb T sc XO E Tt n) st with
   |some a=>ob (xb T sc XO E Tt n r) fun b=>some (ag a b)
   |none=>some da)=some c:=h
  cases ha:x1 T sc XO E Tt (xb T sc XO E Tt n) st with
  |some a=>
   rw[ha]at h;refine bj (h) fun b h1 h2=>?_
   cases h2;exact aC (KL G X H XX hE hT (Bq G X H XX hE hT n) ha) (Bq G X H XX hE hT n _ _ h1)
  |none=>rw[ha]at h;cases h;exact GH
theorem cw(G:g.Ok)(X:bM g.K)(H:iM g T)(XX:XO.Nodup){b:List Stmt}{c:CS}(h:xb T sc XO (xs T sc XO 30).1 (xs T sc XO 30).2 30 b=some c):XB g false sc XO b c:=
 Bq G X H XX (m9 G H 30).1 (m9 G H 30).2 30 b c h
theorem aM(G:g.Ok)(H:iM g T){e:Expr}{c:CE}(h:(xs T sc XO 30).1 e=some c):XE g false sc XO e c:=(m9 G H 30).1 e c h
theorem oC(G:g.Ok)(H:iM g T){e:Expr}{c:CT}(h:(xs T sc XO 30).2 e=some c):XT g false sc XO e c:=(m9 G H 30).2 e c h
theorem bC(G:g.Ok)(X:bM g.K)(H:iM g T)(XX:XO.Nodup){st:Stmt}{c:CS}(h:x1 T sc XO (xs T sc XO 30).1 (xs T sc XO 30).2 (xb T sc XO (xs T sc XO 30).1 (xs T sc XO 30).2 30) st=some c):X1 g false sc XO st c:=
 KL G X H XX (m9 G H 30).1 (m9 G H 30).2 (Bq G X H XX (m9 G H 30).1 (m9 G H 30).2 30) h
noncomputable def bodyOf(fd:FuncData):List Stmt:=match fd.body with
 |.stmts b=>b
 |_=> []
theorem SI{P:List Value->Prop}(h:P [])(vs:List Value)(e:vs.length=0):P vs:=by
 cases vs with
 |nil=>exact h
 |cons _ _=>cases e
theorem fP{P:List Value->Prop}(h:∀a,P [a])(vs:List Value)(e:vs.length=1):P vs:=by
 cases vs with
 |nil=>cases e
 |cons v r=>exact SI (P:=fun r=>P (v::r)) (h v) r (fm e)
theorem gz{P:List Value->Prop}(h:∀a b,P [a,b])(vs:List Value)(e:vs.length=2):P vs:=by
 cases vs with
 |nil=>cases e
 |cons v r=>exact fP (P:=fun r=>P (v::r)) (h v) r (fm e)
theorem xc{P:List Value->Prop}(h:∀a b c,P [a,b,c])(vs:List Value)(e:vs.length=3):P vs:=by
 cases vs with
 |nil=>cases e
 |cons v r=>exact gz (P:=fun r=>P (v::r)) (h v) r (fm e)
theorem WJ{P:List Value->Prop}(h:∀a b c d,P [a,b,c,d])(vs:List Value)(e:vs.length=4):P vs:=by
 cases vs with
 |nil=>cases e
 |cons v r=>exact xc (P:=fun r=>P (v::r)) (h v) r (fm e)
theorem KN(G:g.Ok)(X:bM g.K)(H:iM g T){a par n:Nat}{fd:FuncData}{XO:List Str}{c:CS}(hf:pF g.K a fd par XO=true)(ho:g.K.lookup a=some ⟨.type "function",none,.func fd,#[]⟩)(hb:fd.body=.stmts (bodyOf fd))(XX:XO.Nodup)
  (sW:∀vs:List Value,vs.length=par->bindArgs fd ⟨vs,[]⟩=pure ((XO.take par).zip vs)) (hc:xb T fd.scope XO (xs T fd.scope XO 30).1 (xs T fd.scope XO 30).2 30 (bodyOf fd)=some c):bf g a ⟨par,[],n,c⟩:=
 ⟨fd,bodyOf fd,XO,fi hf ho hb XX (bG sW),XB.h (cw G X H XX hc)⟩
theorem jU{α β:Type}{f h:α->β}{l:List α}(e:l.map f=l.map h){x:α}(hx:x∈l):f x=h x:=List.map_inj_left.mp e x hx
theorem tf{β:Type}{x:Str}{b:β}:∀{l:List (Str×β)},l.lookup x=some b->(x,b)∈l:=by
 intro l
 induction l with
 |nil=>intro h;cases h
 |cons y r ih=>
  intro h;obtain⟨y,c⟩:=y;exact lP h (fun q e=>by rw[eq_of_beq q,e];exact .head _) fun h=>.tail _ (ih h)
end
noncomputable section
noncomputable abbrev gK(XZ:Program)(w:World)(B:Heap)(XW:Program)(XU:List Str)(mg mb:Str->Option Value):eC:=⟨XZ,w,KK.heap_1 w.params,B,XW,XU,mg,mb⟩
noncomputable def fdOf(a:Addr)(p:Params):FuncData:=match List.lookup a (KK.heap_1 p)with|some ⟨_,_,.func fd,_⟩=>fd|_=>default
noncomputable def JO:List Addr:=[139,174,181,188,195,202,209,216,223,300,307,314,356,363,370,377,384,391,398,412,426,454,546,553,560,574,700,707,714,721,728,735,742,749,756,763,768,775,782,789,796,803,810,817,824,831,838,843,848,855,862,867,476,483,497,511,603,610,617,624,631,660,667,688,469,589,440]
theorem QN(p:Params):(JO.map fun a=>List.lookup a (KK.heap_1 p))=JO.map fun a=>some ⟨.type "function",none,.func (fdOf a p),#[]⟩:=by rfl'
theorem fo(p:Params)(a:Addr)(h:a∈JO):List.lookup a (KK.heap_1 p)=some ⟨.type "function",none,.func (fdOf a p),#[]⟩:=jU (QN p) h
noncomputable def A7:List (Str×Addr):=[("self",691),("host",691),("var",443)]
noncomputable def W3:List (Str×Addr):=[("self",443)]
noncomputable def T0(cls:List (Str×Addr)):Tb:=⟨[(("Host":Str),(535:Addr)),(("Nest":Str),(105:Addr)),(("Pause":Str),(126:Addr)),(("Raised":Str),(84:Addr)),(("SmallHost":Str),(691:Addr)),(("Var":Str),(443:Addr)),(("_law_binary":Str),(838:Addr)),(("_law_deed":Str),(735:Addr)),(("_law_error":Str),(763:Addr)),(("_law_good":Str),(756:Addr)),(("_law_is_told":Str),(862:Addr)),(("_law_leaf":Str),(810:Addr)),(("_law_logic":Str),(824:Addr)),(("_law_many":Str),(855:Addr)),(("_law_missing":Str),(803:Addr)),(("_law_most":Str),(843:Addr)),(("_law_no_operand":Str),(789:Addr)),(("_law_no_truth":Str),(782:Addr)),(("_law_number":Str),(768:Addr)),(("_law_other":Str),(848:Addr)),(("_law_rows":Str),(728:Addr)),(("_law_run":Str),(742:Addr)),(("_law_script":Str),(796:Addr)),(("_law_strict":Str),(817:Addr)),(("_law_truth":Str),(775:Addr)),(("_law_twice":Str),(749:Addr)),(("_law_unary":Str),(831:Addr)),(("act":Str),(574:Addr)),(("arithmetic":Str),(356:Addr)),(("base_of":Str),(195:Addr)),(("binary":Str),(384:Addr)),(("bool_of":Str),(209:Addr)),(("call_function":Str),(426:Addr)),(("call_value":Str),(700:Addr)),(("digit":Str),(181:Addr)),(("digits_value":Str),(188:Addr)),(("error":Str),(139:Addr)),(("function_rows":Str),(391:Addr)),(("function_value":Str),(412:Addr)),(("is_blank":Str),(174:Addr)),(("leaf_value":Str),(707:Addr)),(("logic_value":Str),(714:Addr)),(("need_bool":Str),(216:Addr)),(("need_number":Str),(398:Addr)),(("no_variable":Str),(546:Addr)),(("operand":Str),(307:Addr)),(("operand_fault":Str),(300:Addr)),(("order_of":Str),(370:Addr)),(("put_value":Str),(560:Addr)),(("reckon":Str),(721:Addr)),(("relation":Str),(377:Addr)),(("text_of_host":Str),(454:Addr)),(("text_of_numbers":Str),(223:Addr)),(("text_order":Str),(363:Addr)),(("unary":Str),(314:Addr)),(("var_in":Str),(553:Addr)),(("whole_of":Str),(202:Addr))],["Exception","all","isinstance","len","max","ord","range","str","tuple"],[(443,"kind"),(443,"value"),(443,"writes"),(691,"commands"),(691,"depth"),(691,"epoch"),(691,"firsts"),(691,"fuel"),(691,"inline"),(691,"limit"),(691,"spent"),(691,"tools"),(691,"vars")],[(443,"is_busy"),(443,"is_element"),(443,"kind"),(443,"traces"),(443,"value"),(443,"writes"),(691,"commands"),(691,"coroutine"),(691,"depth"),(691,"epoch"),(691,"firsts"),(691,"frame"),(691,"fuel"),(691,"inline"),(691,"limit"),(691,"spent"),(691,"tools"),(691,"vars")],[("tool",691,476),("spend",691,483),("run",691,497),("call",691,511),("place",691,603),("read_var",691,610),("write_var",691,617),("read",691,624),("write",691,631),("put",691,660),("remove",691,667),("begin",691,688)],[("Var",443,440),("SmallHost",691,589)],cls⟩
theorem Uk(p:Params):((T0 []).y0.map fun x=>nsIn (KK.heap_1 p) mainGlobals x.1)=(T0 []).y0.map fun x=>some (some (.ref x.2)):=by rfl'
theorem KO(p:Params):((T0 []).UJ.map fun x=>nsIn (KK.heap_1 p) mainGlobals x)=(T0 []).UJ.map fun _=>some none:=by rfl'
theorem Ul(p:Params):((T0 []).attrs.map fun x=>gw (KK.heap_1 p) x.1 x.2)=(T0 []).attrs.map fun _=>true:=by rfl'
theorem Um(p:Params):((T0 []).stores.map fun x=>eK (KK.heap_1 p) x.1 x.2)=(T0 []).stores.map fun _=>true:=by rfl'
theorem Un(p:Params):((T0 []).meths.map fun x=>j8 (KK.heap_1 p) x.2.1 x.2.2 x.1)=(T0 []).meths.map fun _=>true:=by rfl'
theorem Uo(p:Params):((T0 []).makes.map fun x=>kL (KK.heap_1 p) x.2.1 x.2.2)=(T0 []).makes.map fun _=>true:=by rfl'
variable{XZ:Program}{w:World}{B:Heap}{XW:Program}{XU:List Str}{mg mb:Str->Option Value}
theorem vS(cls:List (Str×Addr)):iM (gK XZ w B XW XU mg mb) (T0 cls) where
 glob x a h:=jU (Uk w.params) (tf h)
 bi x h:=jU (KO w.params) (List.contains_iff_mem.mp h)
 attr C x h:=jU (Ul w.params) (List.contains_iff_mem.mp h)
 store C x h:=jU (Um w.params) (List.contains_iff_mem.mp h)
 U' x C a h:=jU (Un w.params) (tf h)
 make x C i h:=jU (Uo w.params) (tf h)
theorem QO(p:Params):jy (KK.heap_1 p) 535 469 "__init__"=true:=by rfl'
theorem QP(p:Params):isNotIn (KK.heap_1 p) "str" 105=true:=by rfl'
theorem QQ(p:Params):isNotIn (KK.heap_1 p) "str" 126=true:=by rfl'
theorem JP:typeLookup (.type "Exception") "code"=pure none:=by rw[typeLookup_type,builtinLookup_eq_fast];rfl'
theorem vT:typeLookup (.type "Exception") "errorcode"=pure none:=by rw[typeLookup_type,builtinLookup_eq_fast];rfl'
theorem GX:typeLookup (.type "Exception") "level"=pure none:=by rw[typeLookup_type,builtinLookup_eq_fast];rfl'
theorem GY:typeLookup (.type "Exception") "value"=pure none:=by rw[typeLookup_type,builtinLookup_eq_fast];rfl'
theorem vU(p:Params):nsIn (KK.heap_1 p) mainGlobals "Exception"=some none:=jU (KO p) (by ac_rfl)
theorem Br:oE (S "NONE"):=by ac_rfl
theorem Up(p:Params):List.lookup 131 (KK.heap_1 p)=some ⟨.type "tuple",none,.seq #[.str "NONE" 368] 0,#[]⟩:=by rfl'
theorem W4(p:Params):List.lookup 73 (KK.heap_1 p)=some ⟨.type "tuple",none,.seq #[.str "NONE" 269] 0,#[]⟩:=by rfl'
theorem A8(XR:Env):∃ts:List (Value->Sem Unit),assignEach [.Name x p,.Name y q] XR=ts.map (fun t=>(false,t))/\ts.length=[x,y].length/\∀(i:Nat) (z:Str),[x,y][i]?=some z->∃p:Pos,ts[i]?=some (assign (.Name z p) XR):=by
 refine⟨[assign (.Name x p) XR,assign (.Name y q) XR],rfl,rfl,fun i z h=>?_⟩;rcases i with _|_|i
 ·cases h;exact⟨p,rfl⟩
 ·cases h;exact⟨q,rfl⟩
 ·simp at h
theorem Uq(XR:Env):∃ts:List (Value->Sem Unit),assignEach [.Name x p,.Name y q,.Name u r] XR=ts.map (fun t=>(false,t))/\ts.length=[x,y,u].length/\∀(i:Nat) (z:Str),[x,y,u][i]?=some z->∃p:Pos,ts[i]?=some (assign (.Name z p) XR):=by
 refine⟨[assign (.Name x p) XR,assign (.Name y q) XR,assign (.Name u r) XR],rfl,rfl,fun i z h=>?_⟩;rcases i with _|_|_|i
 ·cases h;exact⟨p,rfl⟩
 ·cases h;exact⟨q,rfl⟩
 ·cases h;exact⟨r,rfl⟩
 ·simp at h
theorem W5{P:List Value->Prop}(h1:∀a,P [a])(h2:∀a b,P [a,b]):∀vs:List Value,vs.length<=2->2<=vs.length+1->P vs:=fun vs l u=>by
 rcases vs with _|⟨a,_|⟨b,_|⟨c,r⟩⟩⟩
 ·exact absurd u (show ¬ 2<=1 by decide)
 ·exact h1 a
 ·exact h2 a b
 ·exact absurd l (Nat.not_le_of_lt (gC 3 r.length))
theorem W6{P:List Value->Prop}(h3:∀a b c,P [a,b,c])(h4:∀a b c d,P [a,b,c,d]):∀vs:List Value,vs.length<=4->4<=vs.length+1->P vs:=fun vs l u=>by
 rcases vs with _|⟨a,_|⟨b,_|⟨c,_|⟨d,_|⟨e,r⟩⟩⟩⟩⟩
 ·exact absurd u (show ¬ 4<=1 by decide)
 ·exact absurd u (show ¬ 4<=2 by decide)
 ·exact absurd u (show ¬ 4<=3 by decide)
 ·exact h3 a b c
 ·exact h4 a b c d
 ·exact absurd l (Nat.not_le_of_lt (gC 5 r.length))
theorem Ur{P:List Value->Prop}(h1:∀a,P [a])(h2:∀a b,P [a,b])(h3:∀a b c,P [a,b,c]):∀vs:List Value,vs.length<=3->3<=vs.length+2->P vs:=fun vs l u=>by
 rcases vs with _|⟨a,_|⟨b,_|⟨c,_|⟨d,r⟩⟩⟩⟩
 ·exact absurd u (show ¬ 3<=2 by decide)
 ·exact h1 a
 ·exact h2 a b
 ·exact h3 a b c
 ·exact absurd l (Nat.not_le_of_lt (gC 4 r.length))
theorem W7{P:List Value->Prop}(h3:∀a b c,P [a,b,c])(h4:∀a b c d,P [a,b,c,d])(h5:∀a b c d e,P [a,b,c,d,e])(h6:∀a b c d e f,P [a,b,c,d,e,f]):∀vs:List Value,vs.length<=6->6<=vs.length+3->P vs:=fun vs l u=>by
 rcases vs with _|⟨a,_|⟨b,_|⟨c,_|⟨d,_|⟨e,_|⟨f,_|⟨g,r⟩⟩⟩⟩⟩⟩⟩
 ·exact absurd u (show ¬ 6<=3 by decide)
 ·exact absurd u (show ¬ 6<=4 by decide)
 ·exact absurd u (show ¬ 6<=5 by decide)
 ·exact h3 a b c
 ·exact h4 a b c d
 ·exact h5 a b c d e
 ·exact h6 a b c d e f
 ·exact absurd l (Nat.not_le_of_lt (gC 7 r.length))
theorem GZ(s:Shared)(ρ:List Addr)(XS:List MV)(vs:List Value)(X:(gK XZ w B XW XU mg mb).K.In s.heap)(r:aX s.heap ρ XS vs)(h1:XS.length<=2)(h2:2<=XS.length+([.tup [.str (S "NONE")]]:List MV).length):
  ∃ws,BindsTo s (fdOf 139 w.params) ⟨vs,[]⟩ ((List.take 2 (["text","errorcode"]:List Str)).zip ws)/\aX s.heap ρ (XS++([.tup [.str (S "NONE")]]:List MV).drop (XS.length+([.tup [.str (S "NONE")]]:List MV).length-2)) ws:=by
 exact jB (g:=gK XZ w B XW XU mg mb) (jJ:=[.tup [.str (S "NONE")]]) (items:=[.ref 131]) (a:=132) rfl (by rfl') (oc:=.type "tuple") (od:=none) (n:=0) (xw:=#[]) (by rfl') (fun s ρ X=>⟨_,_,rfl,⟨by ac_rfl,131,_,rfl,⟨_,X _ _ (Up w.params),rfl,0,rfl⟩,⟨_,_,rfl,⟨Br,_,rfl⟩,rfl⟩⟩,rfl⟩) (fun _ _ _ _ _ _ _ _ _ _ _ _ _ _=>W5 (fun _=>⟨_,rfl,rfl⟩) (fun _ _=>⟨_,rfl,rfl⟩)) s ρ XS vs X r h1 h2
theorem y9(s:Shared)(ρ:List Addr)(XS:List MV)(vs:List Value)(X:(gK XZ w B XW XU mg mb).K.In s.heap)(r:aX s.heap ρ XS vs)(h1:XS.length<=6)(h2:6<=XS.length+([.tup [.str (S "NONE")],.int 0,.int 0]:List MV).length):
  ∃ws,BindsTo s (fdOf 81 w.params) ⟨vs,[]⟩ ((List.take 6 (["self","code","value","errorcode","level","ret"]:List Str)).zip ws)/\aX s.heap ρ (XS++([.tup [.str (S "NONE")],.int 0,.int 0]:List MV).drop (XS.length+([.tup [.str (S "NONE")],.int 0,.int 0]:List MV).length-6)) ws:=by
 exact jB (g:=gK XZ w B XW XU mg mb) (jJ:=[.tup [.str (S "NONE")],.int 0,.int 0]) (items:=[.ref 73,.int 0 270,.int 0 271]) (a:=74) rfl (by rfl') (oc:=.type "tuple") (od:=none) (n:=0) (xw:=#[]) (by rfl') (fun s ρ X=>⟨_,_,rfl,⟨by ac_rfl,73,_,rfl,⟨_,X _ _ (W4 w.params),rfl,0,rfl⟩,⟨_,_,rfl,⟨Br,_,rfl⟩,rfl⟩⟩,⟨_,_,rfl,⟨_,rfl⟩,⟨_,_,rfl,⟨_,rfl⟩,rfl⟩⟩⟩) (fun _ _ _ _ _ _ _ _ _ _ _ _ _ _=>W7 (fun _ _ _=>⟨_,rfl,rfl⟩) (fun _ _ _ _=>⟨_,rfl,rfl⟩) (fun _ _ _ _ _=>⟨_,rfl,rfl⟩) (fun _ _ _ _ _ _=>⟨_,rfl,rfl⟩)) s ρ XS vs X r h1 h2
theorem H8(s:Shared)(ρ:List Addr)(XS:List MV)(vs:List Value)(X:(gK XZ w B XW XU mg mb).K.In s.heap)(r:aX s.heap ρ XS vs)(h1:XS.length<=4)(h2:4<=XS.length+([.none]:List MV).length):
  ∃ws,BindsTo s (fdOf 660 w.params) ⟨vs,[]⟩ ((List.take 4 (["self","name","action","data"]:List Str)).zip ws)/\aX s.heap ρ (XS++([.none]:List MV).drop (XS.length+([.none]:List MV).length-4)) ws:=by
 exact jB (g:=gK XZ w B XW XU mg mb) (jJ:=[.none]) (items:=[.none]) (a:=653) rfl (by rfl') (oc:=.type "tuple") (od:=none) (n:=0) (xw:=#[]) (by rfl') (fun s ρ X=>⟨_,_,rfl,rfl,rfl⟩) (fun _ _ _ _ _ _ _ _ _ _ _ _ _ _=>W6 (fun _ _ _=>⟨_,rfl,rfl⟩) (fun _ _ _ _=>⟨_,rfl,rfl⟩)) s ρ XS vs X r h1 h2
theorem CU(s:Shared)(ρ:List Addr)(XS:List MV)(vs:List Value)(X:(gK XZ w B XW XU mg mb).K.In s.heap)(r:aX s.heap ρ XS vs)(h1:XS.length<=3)(h2:3<=XS.length+([.int 40,.none]:List MV).length):
  ∃ws,BindsTo s (fdOf 469 w.params) ⟨vs,[]⟩ ((List.take 3 (["self","limit","fuel"]:List Str)).zip ws)/\aX s.heap ρ (XS++([.int 40,.none]:List MV).drop (XS.length+([.int 40,.none]:List MV).length-3)) ws:=by
 exact jB (g:=gK XZ w B XW XU mg mb) (jJ:=[.int 40,.none]) (items:=[.int 40 819,.none]) (a:=462) rfl (by rfl') (oc:=.type "tuple") (od:=none) (n:=0) (xw:=#[]) (by rfl') (fun s ρ X=>⟨_,_,rfl,⟨_,rfl⟩,⟨_,_,rfl,rfl,rfl⟩⟩) (fun _ _ _ _ _ _ _ _ _ _ _ _ _ _=>Ur (fun _=>⟨_,rfl,rfl⟩) (fun _ _=>⟨_,rfl,rfl⟩) (fun _ _ _=>⟨_,rfl,rfl⟩)) s ρ XS vs X r h1 h2
theorem tg(s:Shared)(ρ:List Addr)(XS:List MV)(vs:List Value)(X:(gK XZ w B XW XU mg mb).K.In s.heap)(r:aX s.heap ρ XS vs)(h1:XS.length<=3)(h2:3<=XS.length+([.int 40,.none]:List MV).length):
  ∃ws,BindsTo s (fdOf 589 w.params) ⟨vs,[]⟩ ((List.take 3 (["self","limit","fuel"]:List Str)).zip ws)/\aX s.heap ρ (XS++([.int 40,.none]:List MV).drop (XS.length+([.int 40,.none]:List MV).length-3)) ws:=by
 exact jB (g:=gK XZ w B XW XU mg mb) (jJ:=[.int 40,.none]) (items:=[.int 40 977,.none]) (a:=582) rfl (by rfl') (oc:=.type "tuple") (od:=none) (n:=0) (xw:=#[]) (by rfl') (fun s ρ X=>⟨_,_,rfl,⟨_,rfl⟩,⟨_,_,rfl,rfl,rfl⟩⟩) (fun _ _ _ _ _ _ _ _ _ _ _ _ _ _=>Ur (fun _=>⟨_,rfl,rfl⟩) (fun _ _=>⟨_,rfl,rfl⟩) (fun _ _ _=>⟨_,rfl,rfl⟩)) s ρ XS vs X r h1 h2
end
noncomputable section
variable{XZ:Program}{w:World}{B:Heap}{XW:Program}{XU:List Str}{mg mb:Str->Option Value}
variable(G:(gK XZ w B XW XU mg mb).Ok)(X:bM (gK XZ w B XW XU mg mb).K)
include G X
theorem tb:iM (gK XZ w B XW XU mg mb) (T0 A7):=vS A7
theorem kp{a par n:Nat}{c:CS}(XO:List Str)(sW:∀vs:List Value,vs.length=par->bindArgs (fdOf a w.params) ⟨vs,[]⟩=pure ((XO.take par).zip vs))(hf:pF (gK XZ w B XW XU mg mb).K a (fdOf a w.params) par XO=true:=by trivial)(ho:a∈JO:=by trivial)(hb:(fdOf a w.params).body=.stmts (bodyOf (fdOf a w.params)):=by trivial)(XX:XO.Nodup:=by trivial)
  (hc:xb (T0 A7) (fdOf a w.params).scope XO (xs (T0 A7) (fdOf a w.params).scope XO 30).1 (xs (T0 A7) (fdOf a w.params).scope XO 30).2 30 (bodyOf (fdOf a w.params))=some c:=by trivial):bf (gK XZ w B XW XU mg mb) a ⟨par,[],n,c⟩:=
 KN G X (vS A7) hf (fo w.params a ho) hb XX sW hc
theorem He:bf (gK XZ w B XW XU mg mb) 139 ⟨2,[.tup [.str (S "NONE")]],2,Am⟩:=by
 have H:=tb G X;have XX:(["text","errorcode"]:List Str).Nodup:=by ac_rfl
 exact⟨fdOf 139 w.params,bodyOf (fdOf 139 w.params),["text","errorcode"],fi (by rfl') (fo w.params 139 (by ac_rfl)) (by rfl') XX GZ,XB.h (cw G X H XX (by rfl'))⟩
theorem ya:bf (gK XZ w B XW XU mg mb) 174 ⟨1,[],1,rV⟩:=kp G X ["c"] (fP fun _=>by rfl')
theorem Hf:bf (gK XZ w B XW XU mg mb) 181 ⟨1,[],2,rx⟩:=kp G X ["c","n"] (fP fun _=>by rfl')
theorem rk:bf (gK XZ w B XW XU mg mb) 188 ⟨2,[],5,fv⟩:=kp G X ["text","base","value","c","n"] (gz fun _ _=>by rfl')
theorem A9:bf (gK XZ w B XW XU mg mb) 195 ⟨1,[],1,ng⟩:=kp G X ["mark"] (fP fun _=>by rfl')
theorem yb:bf (gK XZ w B XW XU mg mb) 202 ⟨1,[],6,hR⟩:=by
 have H:=tb G X;have XX:(["text","first","behind","is_minus","base","value"]:List Str).Nodup:=by ac_rfl
 refine⟨fdOf 202 w.params,_,["text","first","behind","is_minus","base","value"],fi (by rfl') (fo w.params 202 (by ac_rfl)) rfl XX (bG (fP fun _=>by rfl')),?_⟩;refine XB.h (c:=hR) ?_;unfold hR;refine aC (Bk (xs:=["first","behind"]) ⟨_,_,rfl,rfl,(.inl (by rfl')),⟨_,_,rfl,rfl,(.inl (by rfl')),rfl⟩⟩ XX (aM G H (by rfl')) (fun _=>rfl) (fun XR he=>by cases XR;dsimp only at he;subst he;rfl')) ?_;refine aC (bC G X H XX (by rfl')) ?_;refine aC (bC G X H XX (by rfl')) ?_;refine aC (bC G X H XX (by rfl')) ?_;refine aC (bC G X H XX (by rfl')) ?_;refine aC (bC G X H XX (by rfl')) ?_;refine aC (bC G X H XX (by rfl')) ?_;refine aC (nR (oC G H (by rfl')) ?_ ?_) ?_
 ·refine aC (iE rfl (.inl (by rfl')) (lT G (fZ G (H.glob _ _ (by rfl')) (by rfl') (dE (by rfl'))) (cp (nC (aM G H (by rfl')) (j1 (aM G H (by rfl'))) (j1 (aM G H (by rfl'))) (fun _ _=>rfl)) (cp (aM G H (by rfl')) gT rfl) rfl) rfl) XX (fun _=>rfl)) ?_;exact fC
 ·refine aC (iE rfl (.inl (by rfl')) (lT G (fZ G (H.glob _ _ (by rfl')) (by rfl') (dE (by rfl'))) (cp (nC (aM G H (by rfl')) (j1 (aM G H (by rfl'))) (j1 (aM G H (by rfl'))) (fun _ _=>rfl)) (cp (aM G H (by rfl')) gT rfl) rfl) rfl) XX (fun _=>rfl)) ?_;exact fC
 exact cw G X H XX (by rfl')
theorem A':bf (gK XZ w B XW XU mg mb) 209 ⟨1,[],4,j4⟩:=kp G X ["text","value","low","word"] (fP fun _=>by rfl')
theorem vV:bf (gK XZ w B XW XU mg mb) 216 ⟨1,[],2,gk⟩:=kp G X ["text","value"] (fP fun _=>by rfl')
theorem oD:bf (gK XZ w B XW XU mg mb) 223 ⟨1,[],1,jL⟩:=kp G X ["is_so"] (fP fun _=>by rfl')
theorem qz:bf (gK XZ w B XW XU mg mb) 300 ⟨2,[],4,dI⟩:=by
 have H:=tb G X;have XX:(["op","text","what","shown"]:List Str).Nodup:=by ac_rfl
 refine⟨fdOf 300 w.params,_,["op","text","what","shown"],fi (by rfl') (fo w.params 300 (by ac_rfl)) rfl XX (bG (gz fun _ _=>by rfl')),?_⟩;refine XB.h (c:=dI) ?_;unfold dI;refine aC (Bk (xs:=["what","shown"]) ⟨_,_,rfl,rfl,(.inl (by rfl')),⟨_,_,rfl,rfl,(.inl (by rfl')),rfl⟩⟩ XX (vN (cp (aM G H (by rfl')) (cp (vP (oB (by ac_rfl) (vO rfl (dE (by rfl')) (oB (by ac_rfl) A4)))) gT rfl) rfl)) (fun _=>rfl) (fun XR he=>by cases XR;dsimp only at he;subst he;rfl')) ?_;refine aC (nR (oC G H (by rfl')) ?_ ?_) ?_
 ·refine aC (gy (aM G H (by rfl')) (gV (xs:=["what","shown"]) ⟨_,_,rfl,rfl,(.inl (by rfl')),⟨_,_,rfl,rfl,(.inl (by rfl')),rfl⟩⟩ XX A8) (fun _=>rfl) (fun XR he=>by cases XR;dsimp only at he;subst he;rfl')) ?_;exact fC
 ·exact cw G X H XX (by rfl')
 refine aC (mZ (lT G (fZ G (H.glob _ _ (by rfl')) (by rfl') (dE (by rfl'))) (cp (vP (oB (by ac_rfl) (vO rfl (dE (by rfl')) (oB (by ac_rfl) (vO rfl (dE (by rfl')) (oB (by ac_rfl) A4)))))) (cp (aM G H (by rfl')) gT rfl) rfl) rfl)) ?_;exact fC
theorem Aa:bf (gK XZ w B XW XU mg mb) 307 ⟨2,[],3,j5⟩:=kp G X ["op","text","number"] (gz fun _ _=>by rfl')
theorem Hg:bf (gK XZ w B XW XU mg mb) 314 ⟨2,[],4,hZ⟩:=kp G X ["op","a","is_so","number"] (gz fun _ _=>by rfl')
theorem tU:bf (gK XZ w B XW XU mg mb) 356 ⟨3,[],3,iT⟩:=kp G X ["op","left","right"] (xc fun _ _ _=>by rfl')
theorem tV:bf (gK XZ w B XW XU mg mb) 363 ⟨2,[],2,iU⟩:=kp G X ["a","b"] (gz fun _ _=>by rfl')
theorem yc:bf (gK XZ w B XW XU mg mb) 370 ⟨2,[],4,l9⟩:=kp G X ["a","b","left","right"] (gz fun _ _=>by rfl')
theorem yd:bf (gK XZ w B XW XU mg mb) 377 ⟨2,[],2,rW⟩:=kp G X ["op","order"] (gz fun _ _=>by rfl')
theorem CV:bf (gK XZ w B XW XU mg mb) 384 ⟨3,[],6,fw⟩:=kp G X ["op","a","b","is_in","left","right"] (xc fun _ _ _=>by rfl')
theorem qA:bf (gK XZ w B XW XU mg mb) 391 ⟨0,[],0,dJ⟩:=by
 have H:=tb G X;have XX:([]:List Str).Nodup:=by ac_rfl
 refine⟨fdOf 391 w.params,_,[],fi (by rfl') (fo w.params 391 (by ac_rfl)) rfl XX (bG (SI (by rfl'))),?_⟩;refine XB.h (c:=dJ) ?_;unfold dJ;refine aC (mZ (rL G rfl (dq (aM G H (by rfl')) (dq (aM G H (by rfl')) (dq (aM G H (by rfl')) (dq (aM G H (by rfl')) (dq (aM G H (by rfl')) (dq (aM G H (by rfl')) (dq (aM G H (by rfl')) (dq (aM G H (by rfl')) vM)))))))) (by ac_rfl) rfl rfl)) ?_;exact fC
theorem th:bf (gK XZ w B XW XU mg mb) 398 ⟨1,[],2,du⟩:=by
 have H:=tb G X;have XX:(["text","number"]:List Str).Nodup:=by ac_rfl
 refine⟨fdOf 398 w.params,_,["text","number"],fi (by rfl') (fo w.params 398 (by ac_rfl)) rfl XX (bG (fP fun _=>by rfl')),?_⟩;refine XB.h (c:=du) ?_;unfold du;refine aC (bC G X H XX (by rfl')) ?_;refine aC (nR (oC G H (by rfl')) ?_ ?_) ?_
 ·refine aC (xZ G X (lT G (fZ G (H.glob _ _ (by rfl')) (by rfl') (dE (by rfl'))) (cp (vP (oB (by ac_rfl) (vO rfl (dE (by rfl')) (oB (by ac_rfl) A4)))) (cp (aM G H (by rfl')) gT rfl) rfl) rfl)) ?_;exact fC
 ·exact cw G X H XX (by rfl')
 exact cw G X H XX (by rfl')
theorem pH:bf (gK XZ w B XW XU mg mb) 412 ⟨2,[],2,fH⟩:=kp G X ["name","values"] (gz fun _ _=>by rfl')
theorem qB:bf (gK XZ w B XW XU mg mb) 426 ⟨2,[],7,cy⟩:=by
 have H:=tb G X;have XX:(["name","args","row","least","most","values","arg"]:List Str).Nodup:=by ac_rfl
 refine⟨fdOf 426 w.params,_,["name","args","row","least","most","values","arg"],fi (by rfl') (fo w.params 426 (by ac_rfl)) rfl XX (bG (gz fun _ _=>by rfl')),?_⟩;refine XB.h (c:=cy) ?_;unfold cy;refine aC (iE rfl (.inl (by rfl')) (Bi G (vC G) rM rfl (aM G H (by rfl')) (cp (aM G H (by rfl')) gT rfl) rfl rfl (fun _ _=>rfl) (by ac_rfl)) XX (fun _=>rfl)) ?_;refine aC (bC G X H XX (by rfl')) ?_;refine aC (gy (aM G H (by rfl')) (gV (xs:=["least","most"]) ⟨_,_,rfl,rfl,(.inl (by rfl')),⟨_,_,rfl,rfl,(.inl (by rfl')),rfl⟩⟩ XX A8) (fun _=>rfl) (fun XR he=>by cases XR;dsimp only at he;subst he;rfl')) ?_;exact cw G X H XX (by rfl')
theorem rl:bf (gK XZ w B XW XU mg mb) 454 ⟨2,[],5,ek⟩:=kp G X ["host","parts","made","part","index"] (gz fun _ _=>by rfl')
theorem ti:bf (gK XZ w B XW XU mg mb) 546 ⟨2,[],3,i0⟩:=kp G X ["verb","name","why"] (gz fun _ _=>by rfl')
theorem CW:bf (gK XZ w B XW XU mg mb) 553 ⟨2,[],2,kz⟩:=kp G X ["book","name"] (gz fun _ _=>by rfl')
theorem vW:bf (gK XZ w B XW XU mg mb) 560 ⟨3,[],3,qE⟩:=kp G X ["var","kind","value"] (xc fun _ _ _=>by rfl')
theorem QR:bf (gK XZ w B XW XU mg mb) 574 ⟨4,[],4,An⟩:=kp G X ["host","words","action","data"] (WJ fun _ _ _ _=>by rfl')
theorem tW:bf (gK XZ w B XW XU mg mb) 700 ⟨3,[],6,oS⟩:=kp G X ["host","name","trees","args","tree","value"] (xc fun _ _ _=>by rfl')
theorem tX:bf (gK XZ w B XW XU mg mb) 707 ⟨2,[],3,bK⟩:=kp G X ["host","tree","kind"] (gz fun _ _=>by rfl')
theorem tj:bf (gK XZ w B XW XU mg mb) 714 ⟨3,[],5,c7⟩:=kp G X ["host","tree","value","is_or","is_so"] (xc fun _ _ _=>by rfl')
theorem CX:bf (gK XZ w B XW XU mg mb) 721 ⟨2,[],5,rX⟩:=kp G X ["host","tree","spine","value","above"] (gz fun _ _=>by rfl')
theorem ye:bf (gK XZ w B XW XU mg mb) 728 ⟨0,[],1,rY⟩:=kp G X ["rows"] (SI (by rfl'))
theorem yf:bf (gK XZ w B XW XU mg mb) 735 ⟨1,[],1,lh⟩:=kp G X ["q"] (fP fun _=>by rfl')
theorem Ab:bf (gK XZ w B XW XU mg mb) 742 ⟨2,[],4,gm⟩:=by
 have H:=tb G X;have XX:(["host","script","code","value"]:List Str).Nodup:=by ac_rfl
 refine⟨fdOf 742 w.params,_,["host","script","code","value"],fi (by rfl') (fo w.params 742 (by ac_rfl)) rfl XX (bG (gz fun _ _=>by rfl')),?_⟩;refine XB.h (c:=gm) ?_;unfold gm;refine aC (bC G X H XX (by rfl')) ?_;refine aC (gy (aM G H (by rfl')) (gV (xs:=["code","value"]) ⟨_,_,rfl,rfl,(.inl (by rfl')),⟨_,_,rfl,rfl,(.inl (by rfl')),rfl⟩⟩ XX A8) (fun _=>rfl) (fun XR he=>by cases XR;dsimp only at he;subst he;rfl')) ?_;exact cw G X H XX (by rfl')
theorem vX:bf (gK XZ w B XW XU mg mb) 749 ⟨2,[],2,jM⟩:=kp G X ["host","words"] (gz fun _ _=>by rfl')
theorem yg:bf (gK XZ w B XW XU mg mb) 756 ⟨1,[],1,rZ⟩:=kp G X ["text"] (fP fun _=>by rfl')
theorem vY:bf (gK XZ w B XW XU mg mb) 763 ⟨2,[],2,qF⟩:=kp G X ["text","code"] (gz fun _ _=>by rfl')
theorem tY:bf (gK XZ w B XW XU mg mb) 768 ⟨1,[],4,iV⟩:=by
 have H:=tb G X;have XX:(["text","body","number","c"]:List Str).Nodup:=by ac_rfl
 refine⟨fdOf 768 w.params,_,["text","body","number","c"],fi (by rfl') (fo w.params 768 (by ac_rfl)) rfl XX (bG (fP fun _=>by rfl')),?_⟩;refine XB.h (c:=iV) ?_;unfold iV;refine aC (bC G X H XX (by rfl')) ?_;refine aC (iE rfl (.inl (by rfl')) (KD (GC (nC (aM G H (by rfl')) xX (j1 (aM G H (by rfl'))) (fun _ _=>rfl)) (aM G H (by rfl')) (Kx G) (by with_unfolding_all rfl)) (nC (aM G H (by rfl')) (j1 (aM G H (by rfl'))) xX (fun _ _=>rfl)) (aM G H (by rfl'))) XX (fun _=>rfl)) ?_;refine aC (nR (GG (KG (oC G H (by rfl')) (GF (GD (t9 (gU G zK (H.bi _ (by rfl')) (by rfl') (mY (aM G H (by rfl')) (by rfl') XX (aM G H (by rfl')) (fun _ _=>rfl)) (by ac_rfl) (by ac_rfl) rfl rfl) (fun _ _=>rfl)))))) ?_ ?_) ?_
 ·exact cw G X H XX (by rfl')
 ·exact cw G X H XX (by rfl')
 exact cw G X H XX (by rfl')
theorem vZ:bf (gK XZ w B XW XU mg mb) 775 ⟨1,[],2,gn⟩:=by
 have H:=tb G X;have XX:(["text","number"]:List Str).Nodup:=by ac_rfl
 refine⟨fdOf 775 w.params,_,["text","number"],fi (by rfl') (fo w.params 775 (by ac_rfl)) rfl XX (bG (fP fun _=>by rfl')),?_⟩;refine XB.h (c:=gn) ?_;unfold gn;refine aC (bC G X H XX (by rfl')) ?_;refine aC (bC G X H XX (by rfl')) ?_;refine aC (mZ (Bi G (vC G) rM rfl (rL G rfl (dq (aM G H (by rfl')) (dq (aM G H (by rfl')) (dq (aM G H (by rfl')) (dq (aM G H (by rfl')) (dq (aM G H (by rfl')) (dq (aM G H (by rfl')) vM)))))) (by ac_rfl) rfl rfl) (cp (aM G H (by rfl')) gT rfl) rfl rfl (fun _ _=>rfl) (by ac_rfl))) ?_;exact fC
theorem rm:bf (gK XZ w B XW XU mg mb) 782 ⟨1,[],1,gI⟩:=kp G X ["text"] (fP fun _=>by rfl')
theorem pI:bf (gK XZ w B XW XU mg mb) 789 ⟨2,[],4,fJ⟩:=kp G X ["op","text","sort","shown"] (gz fun _ _=>by rfl')
theorem tZ:bf (gK XZ w B XW XU mg mb) 796 ⟨2,[],4,fK⟩:=by
 have H:=tb G X;have XX:(["name","deed","code","value"]:List Str).Nodup:=by ac_rfl
 refine⟨fdOf 796 w.params,_,["name","deed","code","value"],fi (by rfl') (fo w.params 796 (by ac_rfl)) rfl XX (bG (gz fun _ _=>by rfl')),?_⟩;refine XB.h (c:=fK) ?_;unfold fK;refine aC (gy (aM G H (by rfl')) (gV (xs:=["code","value"]) ⟨_,_,rfl,rfl,(.inl (by rfl')),⟨_,_,rfl,rfl,(.inl (by rfl')),rfl⟩⟩ XX A8) (fun _=>rfl) (fun XR he=>by cases XR;dsimp only at he;subst he;rfl')) ?_;exact cw G X H XX (by rfl')
theorem tm:bf (gK XZ w B XW XU mg mb) 803 ⟨1,[],1,i4⟩:=kp G X ["name"] (fP fun _=>by rfl')
theorem yh:bf (gK XZ w B XW XU mg mb) 810 ⟨3,[],7,bO⟩:=by
 have H:=tb G X;have XX:(["kind","q","name","which","text","due","found"]:List Str).Nodup:=by ac_rfl
 refine⟨fdOf 810 w.params,_,["kind","q","name","which","text","due","found"],fi (by rfl') (fo w.params 810 (by ac_rfl)) rfl XX (bG (xc fun _ _ _=>by rfl')),?_⟩;refine XB.h (c:=bO) ?_;unfold bO;refine aC (bC G X H XX (by rfl')) ?_;refine aC (bC G X H XX (by rfl')) ?_;refine aC (bC G X H XX (by rfl')) ?_;refine aC (bC G X H XX (by rfl')) ?_;refine aC (bC G X H XX (by rfl')) ?_;refine aC (bC G X H XX (by rfl')) ?_;refine aC (bC G X H XX (by rfl')) ?_;refine aC (nR (oC G H (by rfl')) ?_ ?_) ?_
 ·refine aC (nR (oC G H (by rfl')) ?_ ?_) ?_
  ·refine aC (iE rfl (.inl (by rfl')) (Bi G (vC G) rM rfl (rL G rfl (dq (aM G H (by rfl')) (dq (aM G H (by rfl')) vM)) (by ac_rfl) rfl rfl) (cp (aM G H (by rfl')) gT rfl) rfl rfl (fun _ _=>rfl) (by ac_rfl)) XX (fun _=>rfl)) ?_;exact cw G X H XX (by rfl')
  ·exact cw G X H XX (by rfl')
  exact cw G X H XX (by rfl')
 ·exact cw G X H XX (by rfl')
 exact cw G X H XX (by rfl')
theorem u0:bf (gK XZ w B XW XU mg mb) 817 ⟨1,[],5,fL⟩:=by
 have H:=tb G X;have XX:(["entries","log","tree","own","due"]:List Str).Nodup:=by ac_rfl
 refine⟨fdOf 817 w.params,_,["entries","log","tree","own","due"],fi (by rfl') (fo w.params 817 (by ac_rfl)) rfl XX (bG (fP fun _=>by rfl')),?_⟩;refine XB.h (c:=fL) ?_;unfold fL;refine aC (bC G X H XX (by rfl')) ?_;refine aC (GJ (gV (xs:=["tree","own","due"]) ⟨_,_,rfl,rfl,(.inl (by rfl')),⟨_,_,rfl,rfl,(.inl (by rfl')),⟨_,_,rfl,rfl,(.inl (by rfl')),rfl⟩⟩⟩ XX Uq) (aM G H (by rfl')) ?_ (fun _ _=>rfl)) ?_
 ·unfold cv;exact cw G X H XX (by rfl')
 exact cw G X H XX (by rfl')
theorem wa:bf (gK XZ w B XW XU mg mb) 824 ⟨2,[],7,gp⟩:=kp G X ["kind","entries","log","due","first","chosen","second"] (gz fun _ _=>by rfl')
theorem wb:bf (gK XZ w B XW XU mg mb) 831 ⟨2,[],4,gq⟩:=kp G X ["op","text","is_so","number"] (gz fun _ _=>by rfl')
theorem u4:bf (gK XZ w B XW XU mg mb) 838 ⟨3,[],5,fM⟩:=by
 have H:=tb G X;have XX:(["op","a","b","m","n"]:List Str).Nodup:=by ac_rfl
 refine⟨fdOf 838 w.params,_,["op","a","b","m","n"],fi (by rfl') (fo w.params 838 (by ac_rfl)) rfl XX (bG (xc fun _ _ _=>by rfl')),?_⟩;refine XB.h (c:=fM) ?_;unfold fM;refine aC (bC G X H XX (by rfl')) ?_;refine aC (bC G X H XX (by rfl')) ?_;refine aC (bC G X H XX (by rfl')) ?_;refine aC (bC G X H XX (by rfl')) ?_;refine aC (bC G X H XX (by rfl')) ?_;refine aC (mZ (lT G (fZ G (H.glob _ _ (by rfl')) (by rfl') (dE (by rfl'))) (cp (gU G zJ (H.bi _ (by rfl')) (by rfl') (GA G (rL G rfl (dq (aM G H (by rfl')) (dq (aM G H (by rfl')) (dq (aM G H (by rfl')) vM))) (by ac_rfl) rfl rfl) (aM G H (by rfl')) (by intro _ _;with_unfolding_all rfl)) (by ac_rfl) (by ac_rfl) rfl rfl) gT rfl) rfl)) ?_;exact fC
theorem yi:bf (gK XZ w B XW XU mg mb) 843 ⟨1,[],2,fx⟩:=by
 have H:=tb G X;have XX:(["texts","text"]:List Str).Nodup:=by ac_rfl
 refine⟨fdOf 843 w.params,_,["texts","text"],fi (by rfl') (fo w.params 843 (by ac_rfl)) rfl XX (bG (fP fun _=>by rfl')),?_⟩;refine XB.h (c:=fx) ?_;unfold fx;refine aC (bC G X H XX (by rfl')) ?_;refine aC (mZ (lT G (fZ G (H.glob _ _ (by rfl')) (by rfl') (dE (by rfl'))) (cp (gU G zJ (H.bi _ (by rfl')) (by rfl') (gU G zL (H.bi _ (by rfl')) (by rfl') (mY (aM G H (by rfl')) (by rfl') XX (aM G H (by rfl')) (fun _ _=>rfl)) (by ac_rfl) (by ac_rfl) rfl rfl) (by ac_rfl) (by ac_rfl) rfl rfl) gT rfl) rfl)) ?_;exact fC
theorem wc:bf (gK XZ w B XW XU mg mb) 848 ⟨2,[],11,gr⟩:=by
 have H:=tb G X;have XX:(["q","entries","trees","texts","log","fault","which","op","name","whole","due"]:List Str).Nodup:=by ac_rfl
 refine⟨fdOf 848 w.params,_,["q","entries","trees","texts","log","fault","which","op","name","whole","due"],fi (by rfl') (fo w.params 848 (by ac_rfl)) rfl XX (bG (gz fun _ _=>by rfl')),?_⟩;refine XB.h (c:=gr) ?_;unfold gr;refine aC (iE rfl (.inl (by rfl')) (gU G sQ (H.bi _ (by rfl')) (by rfl') (mY (aM G H (by rfl')) (by rfl') XX (aM G H (by rfl')) (fun _ _=>rfl)) (by ac_rfl) (by ac_rfl) rfl rfl) XX (fun _=>rfl)) ?_;refine aC (qW (aM G H (by rfl')) (by rfl') XX (aM G H (by rfl')) (fun _ _=>rfl) rfl (.inl (by rfl')) (fun XR he=>by cases XR;dsimp only at he;subst he;rfl')) ?_;refine aC (gy (aM G H (by rfl')) (gV (xs:=["log","fault"]) ⟨_,_,rfl,rfl,(.inl (by rfl')),⟨_,_,rfl,rfl,(.inl (by rfl')),rfl⟩⟩ XX A8) (fun _=>rfl) (fun XR he=>by cases XR;dsimp only at he;subst he;rfl')) ?_;exact cw G X H XX (by rfl')
theorem yj:bf (gK XZ w B XW XU mg mb) 855 ⟨2,[],2,lj⟩:=kp G X ["kind","q"] (gz fun _ _=>by rfl')
theorem tn:bf (gK XZ w B XW XU mg mb) 862 ⟨2,[],7,eS⟩:=by
 have H:=tb G X;have XX:(["host","entry","tree","log","due","told","fault"]:List Str).Nodup:=by ac_rfl
 refine⟨fdOf 862 w.params,_,["host","entry","tree","log","due","told","fault"],fi (by rfl') (fo w.params 862 (by ac_rfl)) rfl XX (bG (gz fun _ _=>by rfl')),?_⟩;refine XB.h (c:=eS) ?_;unfold eS;refine aC (gy (aM G H (by rfl')) (gV (xs:=["tree","log","due"]) ⟨_,_,rfl,rfl,(.inl (by rfl')),⟨_,_,rfl,rfl,(.inl (by rfl')),⟨_,_,rfl,rfl,(.inl (by rfl')),rfl⟩⟩⟩ XX Uq) (fun _=>rfl) (fun XR he=>by cases XR;dsimp only at he;subst he;rfl')) ?_;refine aC (bC G X H XX (by rfl')) ?_;refine aC (GK G X ?_ ?_ (fZ G (H.glob _ _ (by rfl')) (by rfl') (dE (by rfl'))) rfl XX (by rfl')) ?_
 ·exact cw G X H XX (by rfl')
 ·refine aC (iE rfl (.inl (by rfl')) (vN (cp (pG G X (qx rfl (dE (by rfl'))) (by ac_rfl) JP) (cp (pG G X (qx rfl (dE (by rfl'))) (by ac_rfl) GY) (cp (pG G X (qx rfl (dE (by rfl'))) (by ac_rfl) vT) (cp (pG G X (qx rfl (dE (by rfl'))) (by ac_rfl) GX) gT rfl) rfl) rfl) rfl)) XX (fun _=>rfl)) ?_;exact fC
 refine aC (mZ (Jy (Bh (aM G H (by rfl')) (Bh (aM G H (by rfl')) (QH (aM G H (by rfl'))))))) ?_;exact fC
theorem CY:bf (gK XZ w B XW XU mg mb) 476 ⟨2,[],2,oV⟩:=kp G X ["self","name"] (gz fun _ _=>by rfl')
theorem Ac:bf (gK XZ w B XW XU mg mb) 483 ⟨1,[],1,nh⟩:=kp G X ["self"] (fP fun _=>by rfl')
theorem Hh:bf (gK XZ w B XW XU mg mb) 497 ⟨2,[],3,ll⟩:=by
 have H:=tb G X;have XX:(["self","script","runner"]:List Str).Nodup:=by ac_rfl
 refine⟨fdOf 497 w.params,_,["self","script","runner"],fi (by rfl') (fo w.params 497 (by ac_rfl)) rfl XX (bG (gz fun _ _=>by rfl')),?_⟩;refine XB.h (c:=ll) ?_;unfold ll;refine aC (bC G X H XX (by rfl')) ?_;refine aC (bC G X H XX (by rfl')) ?_;refine aC (bC G X H XX (by rfl')) ?_;refine aC (CR ?_ fun hd=>?_) ?_
 ·exact cw G X H XX (by rfl')
 ·refine aC (td G (H.attr _ _ (by rfl')) (H.store _ _ (by rfl')) B9 (qx rfl (dE (by rfl'))) Gz) ?_;exact fC
 exact fC
theorem CZ:bf (gK XZ w B XW XU mg mb) 511 ⟨2,[],3,ie⟩:=by
 have H:=tb G X;have XX:(["self","words","got"]:List Str).Nodup:=by ac_rfl
 refine⟨fdOf 511 w.params,_,["self","words","got"],fi (by rfl') (fo w.params 511 (by ac_rfl)) rfl XX (bG (gz fun _ _=>by rfl')),?_⟩;refine XB.h (c:=ie) ?_;unfold ie;refine aC (bC G X H XX (by rfl')) ?_;refine aC (bC G X H XX (by rfl')) ?_;refine aC (nR (t9 (uL G (QP w.params) (H.bi _ (by rfl')) (by rfl') (aM G H (by rfl')) (fZ G (H.glob _ _ (by rfl')) (by rfl') (dE (by rfl'))) rfl) (fun _ _=>rfl)) ?_ ?_) ?_
 ·exact cw G X H XX (by rfl')
 ·exact cw G X H XX (by rfl')
 refine aC (nR (t9 (uL G (QQ w.params) (H.bi _ (by rfl')) (by rfl') (aM G H (by rfl')) (fZ G (H.glob _ _ (by rfl')) (by rfl') (dE (by rfl'))) rfl) (fun _ _=>rfl)) ?_ ?_) ?_
 ·exact cw G X H XX (by rfl')
 ·exact cw G X H XX (by rfl')
 exact cw G X H XX (by rfl')
theorem Ad:bf (gK XZ w B XW XU mg mb) 603 ⟨2,[],2,ni⟩:=kp G X ["self","name"] (gz fun _ _=>by rfl')
theorem u5:bf (gK XZ w B XW XU mg mb) 610 ⟨3,[],3,fN⟩:=kp G X ["self","var","name"] (xc fun _ _ _=>by rfl')
theorem tp:bf (gK XZ w B XW XU mg mb) 617 ⟨4,[],4,nK⟩:=kp G X ["self","var","name","value"] (WJ fun _ _ _ _=>by rfl')
theorem D0:bf (gK XZ w B XW XU mg mb) 624 ⟨2,[],2,oW⟩:=kp G X ["self","name"] (gz fun _ _=>by rfl')
theorem Ae:bf (gK XZ w B XW XU mg mb) 631 ⟨3,[],3,ua⟩:=kp G X ["self","name","value"] (xc fun _ _ _=>by rfl')
theorem Hi:bf (gK XZ w B XW XU mg mb) 660 ⟨4,[.none],4,Ao⟩:=by
 have H:=tb G X;have XX:(["self","name","action","data"]:List Str).Nodup:=by ac_rfl
 exact⟨fdOf 660 w.params,bodyOf (fdOf 660 w.params),["self","name","action","data"],fi (by rfl') (fo w.params 660 (by ac_rfl)) (by rfl') XX H8,XB.h (cw G X H XX (by rfl'))⟩
theorem yk:bf (gK XZ w B XW XU mg mb) 667 ⟨2,[],2,s6⟩:=kp G X ["self","name"] (gz fun _ _=>by rfl')
theorem Af:bf (gK XZ w B XW XU mg mb) 688 ⟨2,[],4,gu⟩:=by
 have H:=tb G X;have XX:(["self","words","action","data"]:List Str).Nodup:=by ac_rfl
 refine⟨fdOf 688 w.params,_,["self","words","action","data"],fi (by rfl') (fo w.params 688 (by ac_rfl)) rfl XX (bG (gz fun _ _=>by rfl')),?_⟩;refine XB.h (c:=gu) ?_;unfold gu;refine aC (bC G X H XX (by rfl')) ?_;refine aC (bC G X H XX (by rfl')) ?_;refine aC (gy (aM G H (by rfl')) (gV (xs:=["action","data"]) ⟨_,_,rfl,rfl,(.inl (by rfl')),⟨_,_,rfl,rfl,(.inl (by rfl')),rfl⟩⟩ XX A8) (fun _=>rfl) (fun XR he=>by cases XR;dsimp only at he;subst he;rfl')) ?_;exact cw G X H XX (by rfl')
theorem D1:bf (gK XZ w B XW XU mg mb) 469 ⟨3,[.int 40,.none],3,oX⟩:=by
 have H:=tb G X;have XX:(["self","limit","fuel"]:List Str).Nodup:=by ac_rfl
 refine⟨fdOf 469 w.params,_,["self","limit","fuel"],fi (by rfl') (fo w.params 469 (by ac_rfl)) rfl XX CU,?_⟩;refine XB.h (c:=oX) ?_;unfold oX;refine aC (nD G (H.store _ _ (by rfl')) (aM G H (by rfl')) kO (fun _=>rfl)) ?_;refine aC (nD G (H.store _ _ (by rfl')) (aM G H (by rfl')) kO (fun _=>rfl)) ?_;exact cw G X H XX (by rfl')
theorem tq:bf (gK XZ w B XW XU mg mb) 589 ⟨3,[.int 40,.none],3,i5⟩:=by
 have H:=tb G X;have XX:(["self","limit","fuel"]:List Str).Nodup:=by ac_rfl
 refine⟨fdOf 589 w.params,_,["self","limit","fuel"],fi (by rfl') (fo w.params 589 (by ac_rfl)) rfl XX tg,?_⟩;refine XB.h (c:=i5) ?_;unfold i5;refine aC (Bl (GB G (QO w.params) (fZ G (H.glob _ _ (by rfl')) (by rfl') (dE (by rfl'))) (cp (aM G H (by rfl')) (cp (aM G H (by rfl')) (cp (aM G H (by rfl')) gT rfl) rfl) rfl) rfl (fun _=>⟨_,rfl⟩)) (fun _=>rfl)) ?_;refine aC (nD G (H.store _ _ (by rfl')) (aM G H (by rfl')) kO (fun _=>rfl)) ?_;refine aC (nD G (H.store _ _ (by rfl')) (aM G H (by rfl')) kO (fun _=>rfl)) ?_;refine aC (nD G (H.store _ _ (by rfl')) (aM G H (by rfl')) kO (fun _=>rfl)) ?_;exact fC
theorem Hj:bf (gK XZ w B XW XU mg mb) 440 ⟨1,[],1,rz⟩:=KN (XO:=["self"]) G X (vS W3) (by rfl') (fo w.params 440 (by ac_rfl)) (by rfl') (by ac_rfl) (fP fun _=>by rfl') (by rfl')
end
noncomputable section
variable{XZ:Program}{w:World}{B:Heap}{XW:Program}{XU:List Str}{mg mb:Str->Option Value}
theorem uO(p:Params):bM (KK.heap_1 p):=⟨_,_,_,_,_,_,_,_,_,_,_,_,_,_,_,_,_,rfl,rfl,rfl,by rfl',by rfl',by rfl'⟩
theorem JQ(G:(gK XZ w B XW XU mg mb).Ok):A2 (gK XZ w B XW XU mg mb):=by
 have X:bM (gK XZ w B XW XU mg mb).K:=uO w.params;refine⟨⟨fdOf 81 w.params,_,_,fi (by rfl') (oc:=.type "function") (od:=none) (xw:=#[]) (by rfl') rfl (by ac_rfl) y9,⟨_,_,_,_,_,_,rfl,fun _=>⟨_,rfl⟩,fun _=>rfl⟩,by rfl',⟨_,rfl,rfl⟩,fun e a b c d r=>?_⟩,vU w.params,by rfl'⟩
 refine vK (i:=1) (p:=a) G X rfl rfl rfl rfl (by decide) rfl ?_;refine vK (i:=2) (p:=b) G X rfl rfl rfl rfl (by decide) rfl ?_;refine vK (i:=3) (p:=c) G X rfl rfl rfl rfl (by decide) rfl ?_;refine vK (i:=4) (p:=d) G X rfl rfl rfl rfl (by decide) rfl ?_;refine pD G X rfl rfl (Bf (i:=5) (p:=r) rfl rfl) (by decide) rfl ?_;refine pD G X rfl rfl Jo (by decide) rfl ?_;refine pD G X rfl rfl Gl (by decide) rfl ?_;refine pD G X rfl rfl Jn (by decide) rfl ?_;refine pD G X rfl rfl Gm (by decide) rfl ?_;exact QC
noncomputable def Hk(P:Addr->Def->Prop):List (Addr×Def)->Prop
 |[]=>True
 |x::l=>P x.1 x.2/\Hk P l
set_option tactic.hygienic true in
theorem Hk.look{P:Addr->Def->Prop}{a:Addr}{d:Def}:∀{l:List (Addr×Def)},Hk P l->l.lookup a=some d->P a d
 |[],_,e=>by cases e
 |(b,d')::l,h,e=>by
  rw[pT]at e
  split at e
  ·rename_i q;cases e;rw[eq_of_beq q];exact h.1
  ·exact Hk.look h.2 e
theorem JR(G:(gK XZ w B XW XU mg mb).Ok):vL (gK XZ w B XW XU mg mb):=by
 have X:bM (gK XZ w B XW XU mg mb).K:=uO w.params;refine⟨G,X,JQ G,by rfl',fun a d e=>Hk.look (l:=defs) ?_ e⟩;exact⟨He G X,ya G X,Hf G X,rk G X,A9 G X,yb G X,A' G X,vV G X,oD G X,qz G X,Aa G X,Hg G X,tU G X,tV G X,yc G X,yd G X,CV G X,qA G X,th G X,pH G X,qB G X,rl G X,ti G X,CW G X,vW G X,QR G X,tW G X,tX G X,tj G X,CX G X,ye G X,yf G X,Ab G X,vX G X,yg G X,vY G X,tY G X,vZ G X,rm G X,pI G X,tZ G X,tm G X,yh G X,u0 G X,wa G X,wb G X,u4 G X,yi G X,wc G X,yj G X,tn G X,CY G X,Ac G X,Hh G X,CZ G X,Ad G X,u5 G X,tp G X,D0 G X,Ae G X,Hi G X,yk G X,Af G X,D1 G X,tq G X,Hj G X,True.intro⟩
end
section
variable{g:eC}{sc:Scope}{XO:List Str}
noncomputable def Hl(dK:Scope)(x:Str):Bool:=(dK.names.all fun y=>!(y.2==.cell))&&dK.kind==.function&&(dK.names.all fun y=>!(y.2==.local)||dK.names.lookup y.1==some .local)&&dK.names.lookup x==some .local
theorem Hm{elt iter:Expr}{x:Str}{px pos:Pos}{dK Hn:Scope}{i:Nat}{y:Str}{ci eA:CE}(hit:XE g false sc XO iter ci)(h:Hl dK x=true)(hxy: [x,y].Nodup)(hi:XO[i]?=some y)(XX:XO.Nodup)(hy:sc.names.lookup y=some .cell)
  (he:XE g false Hn [x,y] elt eA) (QT:∀XR:Env,XR.scope=sc->relabel dK XR=Hn) (Us:∀(XR:Env) (c:Addr),XR.cells.lookup y=some c->closureFor dK XR=pure [(y,c)]) (gR:∀z,Hn.names.lookup z=some .cell->z=y)
  (hy2:Hn.names.lookup y=some .cell) (hs:∀XR v,foldedSetIterable iter XR v=pure v):XE g false sc XO (.ListComp elt [⟨.Name x px,iter,[],0⟩] dK pos) (cR [i] eA ci):=by
 refine⟨Be (fs:=[i]) (ys:=[y]) hit.h (fun XR fr eo=>?_) XX hxy (fun XR e=>by rw[QT XR e];exact he.h) hs⟩;obtain⟨c,hc⟩:=eo.cells y hy;have Eu:XR.kindOf y=some .cell:=by
  show XR.scope.names.lookup y=_;rw[eo.scope];exact hy
 have hl:∀z c',List.lookup z [(y,c)]=some c'->z=y/\c'=c:=fun z c' e=>by
  exact lP e (fun q h=>⟨eq_of_beq q,h.symm⟩) nofun
 have hl2:List.lookup y [(y,c)]=some c:=by rw[pT,nT]
 unfold Hl at h;simp only[bW]at h;obtain⟨⟨⟨h1,h2⟩,h3⟩,h4⟩:=h;refine⟨[(y,c)],Us XR c hc,eq_of_beq h2,fun z hz q=>?_,fun z hz q=>?_,eq_of_beq h4,fun z c' e=>?_,fun c' e=>⟨y,?_⟩,fun j z e=>?_,fun z c' e=>⟨0,?_⟩,fun j z e=>?_,fun z e=>?_,rfl⟩
 ·have:=eF.mp h1 z hz;rw[q]at this;cases this
 ·have:=eF.mp h3 z hz;rw[q]at this;simp only[Bool.or_eq_true,ja]at this;rcases this with this|this
  ·cases this
  ·exact eq_of_beq this
 ·obtain⟨rfl,rfl⟩:=hl z c' e;exact hc
 ·have:c'=c:=c8.mp e;rw[this];exact hl2
 ·rcases j with _|j
  ·cases e;exact⟨i,rfl,hi,⟨c,hl2⟩,by rw[QT XR eo.scope];exact hy2⟩
  ·simp at e
 ·rw[(hl z c' e).1];rfl
 ·rcases j with _|j
  ·cases e;exact Eu
  ·simp at e
 ·rw[QT XR eo.scope]at e;rw[gR z e];exact⟨c,hl2⟩
end
noncomputable def Bs:Scope:={ kind:=.function,names:=[(Str.ofString ".0",.local),(Str.ofString "one",.local),(Str.ofString "_law_is_told",.globalImplicit),(Str.ofString "host",.free)],isGenerator:=false,isCoroutine:=false,more:=[] }
noncomputable def Ag:Scope:={ kind:=.function,names:=[(Str.ofString ".0",.local),(Str.ofString "one",.local),(Str.ofString "_law_is_told",.globalImplicit),(Str.ofString "host",.cell)],isGenerator:=false,isCoroutine:=false,more:=[] }
theorem Ho(XR:Env)(c:Addr)(h:XR.cells.lookup (Str.ofString "host")=some c):closureFor Bs XR=pure [((Str.ofString "host"),c)]:=by
 have hc:cellOf XR (Str.ofString "host")=pure c:=by
  unfold cellOf;rw[h]
 unfold closureFor Bs;simp only[List.forIn_cons,List.forIn_nil];rw[hc];rfl
set_option tactic.hygienic true in
theorem Hp(z:Str)(h:Ag.names.lookup z=some .cell):z="host":=by
 unfold Ag at h;simp only[pT,List.lookup_nil]at h
 repeat' split at h
 all_goals first|(cases h;done)|(rename_i q;exact eq_of_beq q)
noncomputable def KP(st:Stmt):Prop:=∃p1 p2 k p3 p4 p5 p6,st=.Assign [.Name "script" p1] (.Subscript (.Name "script" p2) (.Slice none (some (.Constant (.int 63) k p3)) none p4) p5) p6
noncomputable section
theorem W8(p:Params):List.lookup 867 (KK.heap_1 p)=some ⟨.type "function",none,.func (fdOf 867 p),#[]⟩:=fo p 867 (by ac_rfl)
noncomputable def n0:List Str:=["script","rows","host","stack","place","draw","kind","q","many","name","high","taken","entry","log","due"]
variable{XZ:Program}{w:World}{B:Heap}{XW:Program}{XU:List Str}{mg mb:Str->Option Value}
theorem QU(G:(gK XZ w B XW XU mg mb).Ok)(X:bM (gK XZ w B XW XU mg mb).K):∃st rest,(fdOf 867 w.params).body=.stmts (st::rest)/\KP st/\XB (gK XZ w B XW XU mg mb) false (fdOf 867 w.params).scope n0 rest ox:=by
 have H:=vS (XZ:=XZ) (w:=w) (B:=B) (XW:=XW) (XU:=XU) (mg:=mg) (mb:=mb) A7;have XX:(["script","rows","host","stack","place","draw","kind","q","many","name","high","taken","entry","log","due"]:List Str).Nodup:=by ac_rfl
 refine⟨_,_,rfl,⟨_,_,_,_,_,_,_,rfl⟩,?_⟩;unfold n0 ox;refine aC (bC G X H XX (by rfl')) ?_;refine aC (iE rfl (.inr (by rfl')) (aM G H (by rfl')) XX (fun _=>rfl)) ?_;refine aC (bC G X H XX (by rfl')) ?_;refine aC (xY G (aM G H (by rfl')) (aM G H (by rfl')) kO (fun _=>rfl)) ?_;refine aC (bC G X H XX (by rfl')) ?_;refine aC (bC G X H XX (by rfl')) ?_;refine aC (bC G X H XX (by rfl')) ?_;refine aC (bC G X H XX (by rfl')) ?_;refine aC (bC G X H XX (by rfl')) ?_;refine aC (JE G (Bj rfl (.inl (by rfl')) XX) (aM G H (by rfl')) ?_ (H.bi _ (by rfl')) (by rfl') rfl) ?_
 ·unfold jN;refine aC (bC G X H XX (by rfl')) ?_;refine aC (bC G X H XX (by rfl')) ?_;refine aC (bC G X H XX (by rfl')) ?_;refine aC (bC G X H XX (by rfl')) ?_;refine aC (bC G X H XX (by rfl')) ?_;refine aC (iE rfl (.inl (by rfl')) (A3 (aM G H (by rfl')) (gU G zL (H.bi _ (by rfl')) (by rfl') (mY (qy (aM G H (by rfl')) (j1 (aM G H (by rfl'))) xX (fun _ _=>rfl)) (by rfl') XX (aM G H (by rfl')) (fun _ _=>rfl)) (by ac_rfl) (by ac_rfl) rfl rfl) zH) XX (fun _=>rfl)) ?_;refine aC (qW (qy (aM G H (by rfl')) (j1 (aM G H (by rfl'))) xX (fun _ _=>rfl)) (by rfl') XX (aM G H (by rfl')) (fun _ _=>rfl) rfl (.inl (by rfl')) (fun XR he=>by cases XR;dsimp only at he;subst he;rfl')) ?_;refine aC (iE rfl (.inl (by rfl')) (qy (aM G H (by rfl')) xX (j1 (aM G H (by rfl'))) (fun _ _=>rfl)) XX (fun _=>rfl)) ?_;refine aC (nR (oC G H (by rfl')) ?_ ?_) ?_
  ·exact cw G X H XX (by rfl')
  ·refine aC (gy (aM G H (by rfl')) (gV (xs:=["log","due"]) ⟨_,_,rfl,rfl,(.inl (by rfl')),⟨_,_,rfl,rfl,(.inl (by rfl')),rfl⟩⟩ XX A8) (fun _=>rfl) (fun XR he=>by cases XR;dsimp only at he;subst he;rfl')) ?_;refine aC (iE rfl (.inl (by rfl')) (vN (cp (A3 (aM G H (by rfl')) (gU G sQ (H.bi _ (by rfl')) (by rfl') (mY (aM G H (by rfl')) (by rfl') XX (aM G H (by rfl')) (fun _ _=>rfl)) (by ac_rfl) (by ac_rfl) rfl rfl) zH) (cp (aM G H (by rfl')) (cp (aM G H (by rfl')) gT rfl) rfl) rfl)) XX (fun _=>rfl)) ?_;exact fC
  exact cw G X H XX (by rfl')
 refine aC (mZ (gU G zK (H.bi _ (by rfl')) (by rfl') (Hm (i:=2) (y:="host") (aM G H (by rfl')) (Hn:=Ag) (by rfl') (by ac_rfl) rfl XX (by rfl') (aM G H (by rfl')) (fun XR he=>by cases XR;dsimp only at he;subst he;rfl') Ho Hp (by rfl') (fun _ _=>rfl)) (by ac_rfl) (by ac_rfl) rfl rfl)) ?_;exact fC
end
section
variable{g:eC}{sc:Scope}{L fa:Addr}{cd:Value}{nm:Str}{s:Shared}{m:Str->Option Value}{oc:Obj}{v0:Option Value}
theorem ints_rep{h:Heap}{ρ:List Addr}{vs:List Value}{xs:List Int}(q:IntsAre vs xs):aX h ρ (xs.map MV.int) vs:=by
 induction q with
 |nil=>rfl
 |cons n t r ih=>exact⟨_,_,rfl,⟨t,rfl⟩,ih⟩
theorem QV{n:Nat}(hn:n<=150)(hk:sc.kind=.function)(hcf:cellsFrom (L+1) sc.names []=[(Str.ofString "host",L+1)])(xM:∀x,sc.names.lookup x=some .cell->x=Str.ofString "host"){XO:List Str}
  (F:Fr g.B L s.heap m) (N:News g.B L s.heap [(L+1,oc)]) (hoc:oc.data=.cell v0):
  At g false sc XO n (callerA.deeper (envOfC nm sc L fa cd)) (envOfC nm sc L fa cd) [envOfC nm sc L fa cd] s [] [] (List.replicate 15 none):=by
 have gR:(envOfC nm sc L fa cd).cells=[(Str.ofString "host",L+1)]:=hcf;have hl:∀x c,List.lookup x [(Str.ofString "host",L+1)]=some c->x=Str.ofString "host"/\c=L+1:=fun x c e=>by
  exact lP e (fun q h=>⟨eq_of_beq q,h.symm⟩) nofun
 have hB:g.B.get? L=none:=iw F.above;have hN:=N (L+1,oc) (.head _);obtain⟨oL,es,ep,hoL,hdL,Qx,hmL⟩:=F.ns;have Ej:∃es n,oL.data=.dict es n:=⟨_,_,hdL⟩
 refine⟨⟨Around.frames_deeper rfl,fun _=>rfl,?_,?_⟩,⟨rfl,hk,rfl,rfl,⟨L,_,_,rfl,rfl,rfl⟩,fun x hx=>?_,fun x y c hx hy=>?_⟩,?_⟩
 ·show 1+claimMargin+1+3*n+10<=recursionLimit;exact aN (Nat.add_le_add_right (mm (cZ 3 hn) _) 10) (show 1+claimMargin+1+3*150+10<=recursionLimit by ac_rfl)
 ·show 4+3+20*n+100<=cLine;exact aN (Nat.add_le_add_right (mm (cZ 20 hn) _) 100) (show 4+3+20*150+100<=cLine by ac_rfl)
 ·rw[gR,xM x hx];exact⟨L+1,by rw[pT,nT]⟩
 ·rw[gR]at hx hy;rw[(hl x c hx).1,(hl y c hy).1]
 ·refine⟨⟨F.keep,rfl,.nil,fun a ha=>(by cases ha),fun k o e=>by simp at e⟩,⟨⟨by show sc.kind≠_;rw[hk];decide,⟨L,oL,rfl,hB,hoL,fun vs q=>by rw[hdL]at q;cases q⟩,trivial⟩,fun e he L' hL'=>?_⟩,⟨m,⟨⟨oL,es,ep,hoL,hdL,Qx,hmL⟩,F.keep,F.above⟩,fun i x p hx hp=>?_⟩,by simp,?_,fun x c hx=>?_,fun a ha=>?_,?_⟩
  ·rw[c8.mp he]at hL';cases hL';exact⟨by simp,oL,es,ep,hoL,hdL⟩
  ·have:=d8 hp;rw[List.mem_replicate]at this;cases this.2
  ·intro a _ q;cases q
  ·rw[gR]at hx;rw[(hl x c hx).2];exact⟨by simp,v0,oc,hN.1,hoc⟩
  ·unfold ownOf at ha;rw[gR]at ha;rcases bS.mp ha with rfl|ha
   ·exact⟨oL,hoL,.inl Ej⟩
   ·have:a=L+1:=c8.mp ha;rw[this];exact⟨oc,hN.1,.inr ⟨v0,hoc⟩⟩
  ·rw[gR];intro a ha;have:a=L+1:=c8.mp ha;rw[this];exact hN.2.2
theorem QW(G:g.Ok)(P:vL g){st:Stmt}{rest:List Stmt}(hk:sc.kind=.function)(hcf:cellsFrom (L+1) sc.names []=[(Str.ofString "host",L+1)])(xM:∀x,sc.names.lookup x=some .cell->x=Str.ofString "host")
  (Jq:sc.names.lookup (Str.ofString "script")=some .local) (hst:KP st) (hss:XB g false sc n0 rest ox)
  (F:Fr g.B L s.heap m) (N:News g.B L s.heap [(L+1,oc)]) (hoc:oc.data=.cell v0) {a:Addr}{items:List Value}{xs:List Int}(hm:m (Str.ofString "script")=some (.ref a)) (hl:g.B.IsList a items.toArray) (hI:IntsAre items xs) (hsz:items.length<=sizeLine)
  {Q:Flow->Shared->Prop}{E:Value->Shared->Prop}(hQ:∀h' aU,(∀b o,g.B.get? b=some o->h'.get? b=some o)->Q (.ret (.bool true)) (ez s h' aU)):
  wpAny g.M (callerA.deeper (envOfC nm sc L fa cd)) (execs (st::rest) (envOfC nm sc L fa cd)) Q E s:=by
 have V:=QV (n:=150) (nm:=nm) (fa:=fa) (cd:=cd) (XO:=n0) (ao _) hk hcf xM F N hoc;have ho:=xT P 150;have XX:n0.Nodup:=by ac_rfl
 obtain⟨p1,p2,k,p3,p4,p5,p6,rfl⟩:=hst;refine wpAny_execs_cons (wpAny_Assign_Name (wpAny_Subscript_list_slice ?_ (fun _ _=>rfl)) rfl);refine wpAny_Name (wpAny_loadName_local hk Jq F.ns hm ?_) (by ac_rfl);refine uy 150 _ ho V _ rfl _ _ (fun v2 h2 i9 pK eu L2 r2=>?_);have V2:=V.wg (aU:=i9) L2;refine qV Fv 150 _ ho V2 _ rfl _ _ (fun v3 h3 nH tu jx L3 r3=>?_);have V3:=V2.wg (aU:=nH) L3;have hv2:v2=.none:=r2;obtain⟨t3,hv3⟩:∃t,v3=.int 63 t:=r3;subst hv2 hv3;have hl3:h3.IsList a items.toArray:=by
  obtain⟨o,h1,h4⟩:=hl;exact⟨o,L3.inv.stays _ _ h1,h4⟩
 refine⟨a,items.toArray,none,some 63,rfl,hl3,by rw[eE];exact hsz,.none,.int _ _,?_⟩;have e4:slicePick items.toArray none (some 63) none=(tQ none (some 63) items).toArray:=by rw[slicePick_plain];rfl
 rw[e4];have kg:bL h3 ((h3.push { cls:=.type "slice",data:=.fields #[.none,.int 63 t3,.none] }).push { cls:=.type "list",data:=.seq (tQ none (some 63) items).toArray }):=(bL.push h3 _).trans (bL.push _ _);have hx:=fR (h3.push { cls:=.type "slice",data:=.fields #[.none,.int 63 t3,.none] }) (o:={ cls:=.type "list",data:=.seq (tQ none (some 63) items).toArray }) rfl;rw[Heap.size_push]at hx
 (generalize (h3.push { cls:=.type "slice",data:=.fields #[.none,.int 63 t3,.none] }).push { cls:=.type "list",data:=.seq (tQ none (some 63) items).toArray }=h4 at kg hx;revert h4;refine gA ?_;intros)
 (generalize hys:xs.take (clipAt items.length 63)=ys;revert ys;refine gA ?_;intros)
 have Jv:aX h4 (tu++[h3.objs.size+1]) (ys.map MV.int) (tQ none (some 63) items):=by
  have:=aX.take (clipAt items.length 63) (ints_rep (h:=h4) (ρ:=tu++[h3.objs.size+1]) hI);rw[<-List.map_take,hys]at this;exact this
 have hle:(ys.map MV.int).length<=sizeLine:=by
  rw[bR,<-hys,List.length_take];have:=(ints_rep (h:=h4) (ρ:=[]) hI).length;rw[bR]at this;exact aN (Nat.min_le_right _ _) (this▸hsz)
 have hρ3:tu=[]:=by
  have:=L3.inv.len;exact List.eq_nil_of_length_eq_zero this
 have L4:=L3.push (a:=h3.objs.size+1) (o:=.list (ys.map MV.int)) kg (jc _) ⟨hle,_,⟨0,hx⟩,Jv⟩;subst hρ3;have V4:=V3.wg (aU:=nH) L4;refine gQ V4 (i:=0) (x:="script") (q:=.obj 0) (u:=.ref (h3.objs.size+1)) rfl XX (.inl Jq) ⟨_,rfl,rfl⟩ (fun h5 R6 B4 L5=>?_);have V5:=V4.wg (aU:=R6) L5;obtain⟨L',H',hr⟩:=Fs (n:=0) (xs:=ys);refine hss.h 150 _ ho V5 _ hr _ _ (fun v h6 FV Kz Cu L6 r6=>?_);have hv:v=.bool true:=r6;subst hv;exact hQ h6 FV L6.inv.stays
end
section
variable{XZ:Program}{w:World}{B:Heap}{XW:Program}{XU:List Str}{mg mb:Str->Option Value}
theorem Hq{vs:List Value}{xs:List Int}(q:IntsAre vs xs):vs.length=xs.length:=by
 induction q with
 |nil=>rfl
 |cons n t r ih=>exact aY (·+1) ih
theorem JS(G:(gK XZ w B XW XU mg mb).Ok){body:List Stmt}{sc:Scope}{L fa:Addr}{cd:Value}{nm:Str}{s:Shared}{m:Str->Option Value}{oc:Obj}{v0:Option Value}
  (hb:(fdOf 867 w.params).body=.stmts body) (hsc:(fdOf 867 w.params).scope=sc)
  (F:Fr B L s.heap m) (N:News B L s.heap [(L+1,oc)]) (hoc:oc.data=.cell v0) {a:Addr}{items:List Value}{xs:List Int}(hm:m (Str.ofString "script")=some (.ref a)) (hl:B.IsList a items.toArray) (hI:IntsAre items xs) (hx:xs.length<=63)
  {Q:Flow->Shared->Prop}{E:Value->Shared->Prop}(hQ:∀h' aU,(∀b o,B.get? b=some o->h'.get? b=some o)->Q (.ret (.bool true)) (ez s h' aU)):
  wpAny (model XZ w) (callerA.deeper (envOfC nm sc L fa cd)) (execs body (envOfC nm sc L fa cd)) Q E s:=by
 subst hsc;have P:=JR G;obtain⟨st,rest,hb',hst,hss⟩:=QU G P.X;have e:body=st::rest:=by
  have:FuncBody.stmts body=FuncBody.stmts (st::rest):=hb.symm.trans hb';injection this
 subst e;have qj:((fdOf 867 w.params).scope.names.all fun y=>!(y.2==.cell)||y.1==Str.ofString "host")=true:=by rfl'
 refine QW (g:=gK XZ w B XW XU mg mb) G P (by rfl') (by rfl') (fun x hx=>?_) (by rfl') hst hss F N hoc hm hl hI ?_ hQ
 ·have:=eF.mp qj (x,.cell) (mem_of_lookup hx);simp only[Bool.or_eq_true,ja]at this;rcases this with this|this
  ·cases this
  ·exact eq_of_beq this
 ·rw[Hq hI];exact aN hx (by rw[d9];decide)
theorem Xt{W9:ExcName->Option Value}(KX:(KK.heap_1 w.params).In B)(T:Top XW XU W9 mg mb B):(gK XZ w B XW XU mg mb).Ok:=⟨KX,topRead_of T⟩
end
end Mine.Internal
end
end
open PySem PySem.W PyProof.Rows PySem.Calls
namespace Mine.Internal.hd
local macro_rules
 | `(universe $xs*) => return .node .none `null (xs.raw.map fun x => Mine.Internal.stx "#null #null #null #null #null #null #null *Lean.Parser.Command.declModifiers :theorem a #null %Lean.Parser.Command.declId #null :: ITrue %Lean.Parser.Term.typeSpec %Lean.Parser.Command.declSig ::= Itrivial #null #null %Lean.Parser.Termination.suffix #null 'Lean.Parser.Command.declValSimple 'Lean.Parser.Command.theorem %Lean.Parser.Command.declaration" [Lean.mkIdent (.mkSimple s!"tw{x.getId.toString.toList.foldl (fun n c => n * 52 + if c.toNat < 91 then c.toNat - 65 else c.toNat - 71) 0}")])
universe YnyGcdbxR DGGtOKXqif JrcPrdHSWk UzaesiIgir ZHSPcCmKLz aexuCLEcvQ csRHkrEQwO raWoNnJAZm sODuPJTINd ysfTBWnIYB BIpIAmmMGrZ BPbXjTXEIzY BSWaxKlBpih BaxbfRQfybJ BfRkptRNRcg BtJbFyVjDwX BzeMoOcGeZD CZHPozhdYMm CcRAgFZgBKp CgRBmetsmHR CvGXcteYIYn CyHEKwnmlQY DIBlsyGpKxU DPsNUzPCnvt DndEGejBVwr DwOwEzjDmoz DxNEbOYXAXd EDijekasMPp EGvRtUiUfeu EJGhPAqQCYa ESKgHyQNsRL EVxZLSSBTvL EjAklvezoNG EobvkQAbvvn FEeANlgPfXZ FExrzyfJebf FFnOgcjRqWR FGVHPQKnmNP FULiANPwmfV FYsvLrBbhKa FcyLyKsgRFc FeuwBgJNCIQ FjCvEgkzgXG FzNKvaaWaaH GErQaQCmpZf GJYLVEDlHSQ GKXfxZrPcyo GwkvAvaDUEt GyCoIhDIYzc HJIywFjKcDi HTdpnXJAJKj HVKIOCOPJkJ HYpLsnzIVuu HawTejrDuSL HcxVwlKkmXr HjNCBmZMGfS HjpUoRbfGNY IBUaaetTGjP IGAOuMUYEhl ITAAefPJlFo IgFKAQZctsv IhOCNStgxao IseuYPWgbHB IwyYoEAvDfm IxtRVyIIAzj JDvtQBbhOzG JZNfOKKwuOJ JfFJDIqQJAi JsqPTHhViLg JvzTgAPDmNm KMJvtqUYZdq KMROKHzbuUT KMTgsTQwtYR KMfEhHrneKm KPGvUpAzlcs KYVPeLPmSah KbwlPjFwfkz KcFDBZqPDDo KdfMnDRZntg KfVtbpQswrC KiVJAXfAEir KkNRQTZKRbV KnbZsMhUHxC KusmRZHgTng LFoscuIdYyy LNNOYKagnWx LcZHXpVNlqr LdqRqsxkskA LmmwODZoflF LxjEKGmQBWH MAfepIdcJqd MHsOtWWJSrH MIGlBuclUFG MJXbRTVnQqx MKgSZGlLRSE MYOICIcNjSt MlJQxtuDsMP MncLxekuFqI MoejqwAaMdK MyJVFkZRzTD
universe NBsxqhPNeLO NCYlFovYJjB NOooQTwbQrS NWrxUZqdQvu NYtZkeaWjsD NiwUMOOyrvP NlqsbAGJBdw NolOJYQVJZe NpnZEZpGzQH OYiuxDnIcVi OgoQKpxfiKt OmPnvKsuPOz OvRkNNmMQJr PDYdGApCPsy PMBdguHrdCd PReUipZzrAk PXwKqMURdIL PaKodlxzjKx PbjDbxLDENU PeZPvAnncmV PjjyuMsdcaN PnKVpUiTzxc PzFuXQQyTAv QQhhBJzVpQT QShvpuJxjxo QTKicuJbaxL QYtcFBoUDMO QaQRNNmSOMs QbVRLKbmjdf QdiqpJzAxcI QlmgURBmQtl QwYLaSZMege RKGifFgNVtd RKsrpoPimZp RLPpezsjhCD RjtwkGuojhj RlLwUMcwpNA RtGVbtAkaRq RzrpuLaGQbh SGnoOiWZkcF STOapKdCjBx THMNJlEABGD TLDXYZCogwQ TMzueIYUWZz TRpuzUItdCW TnnsBAxKFSD TtbUwszlffi UMnBBSKyMig URHAqDKqpvY USbfdNinPOP UoQcilEHcHa UuYNFdohyoE VIQNDxrIQTp VIzOPrplSge VJjGUGGAiqX VOfvNxKxgnA VSVwjpgijDL VgMpSLYEutL WOEoQjtAoyb WREVaJdQCco WVyxoWZbKtP WXLaLMUyJib WdQJVnFYUNY WjZziTjmHaZ WlYKzIxwgCc WvhHHoClQsr XNQSmtItnKz XgalmVSlYXX XhAeOgSPxqr XicAktyyREU XnZucEkcFJI XnaQqpPuRbk YAqwOiVixer YCwZRKVOFLJ YHeNPRgzmEw YMMjQPsvgyt YRIGLBAGPKS YhhaOKYXnGX YiEdOOInhoJ YnpuVANTOBt YnuIiVwqhZd YyYRxCArLcp YynDZXWpYnd YzxtyTuoTzN ZKENAgUCzsI ZPDQDLpOZAq ZachBUwAOVX ZcMtliLydOH ZjwhKpDCZWc ZqTiUBhSoFV ZqjZKgTuBfd ZxerKMDtTSk aHUyFGgoUFG aICIPHbDYws agHrdKfgltA anDblTKVwVp axhTzYOQSBl bgLrQYrJHkV bnGFSLwJKuz bsqUgEVTZDc
universe cYdMJZGFNDu cnwNMDALoYE csMrFKznANe cxVjBUKzJuC dGmsFvWXqnU dJDhTwNgylf dNRxyOoaTuh dQuNRBijPkg dUSTUipkvQI dekdCgyoTuO diQeuxVtsXj djzDQykqFPS dkaCMIkSwsM dtbYzvOHsyy dvljvzzJLuO dxSxxCHufXJ ebhTSzxAXsE egsLbapQEsM enNWqraHCLy epIOyktziff eqevkHdjrrL eriTCTdutxz fBGDoNnBqcr fJWQEQbLAeZ fTiFVxSKOzp fWrOLJywrVn ffPqmaXMhZT fgjSOQOtSpb gEBmNaLCGcg gIqAihFwtsk gPhGhuNrrSW gnlAIijXxdx hIgaOXiJBJG hKmhHmuulMl hPIBIHjGEpt hXJRJALrqBx hZYQFMWFphT hdxWgTuqeae heMLAVrdCFe hlFkwdnWWBD iDqPVnEyXZC iGbyiNpQIip iMeVFSOzcYj iMseIinGFbH iUXFqTfLXqj ibugPgZhrLt idOqxhZcLJm isXZejcaQiO iwEiCqiZFPP izrXXXngiKS jHINulodVgv jSFPbfnPmHm jZDNLdBUsBn jieHbIsPIat jmOrYbRalUx jxejdMwjIeL kEebmmIohqR kGSgeyoSEBg kPXclcKaRve kWneIAYxPjl kXvyErUgwcb kdIUXoKzlWN ktSEikeBlpv lpHESFFgnan lrZevkGjRDX lvIJiUiUMlJ lxgbkBkowZJ lxzMYFbHAmi mBsRdBvDAsP mCStjWNYywp mEGVdcKRMGM mGCzXBLEbIF mGHXOepfLQg mXaUkKKFGhr mhNjOOJkWBn miMShPetfXf mkTNDTxjyPR mnzNmFaxZMc mxWvBCdBqxQ mzaqntAedqm nGDyHmLTdRx nUjdghQuMDJ nfUhyBZQWbp nfhRjYUbBIG nruCnTNLtOa ntpOUWHTRgu nuYJMrAJQKy oAucYKijRHn oDasxkfagdy oLVSIbUetkG oXseNbfRwHR oheiZAxUMpy ouQTcszZpQN ovistqsNgnl pBQUOysoJVo pCEYbqJnszh pNCqwClZHDK pmkLKaUZQie pxZwlSCcTKp qClulvcBqOm
universe qFqhmhvNBez qKMmsfyHGvo qKQxhMiUhqk qLaYGzRxBbu qOLUITnlKSu qUhWJgfjrnj qemfVRIMlIx qmlAWTPmUgc qtKBakETyFu qyUcLhkybBT rBYReRCMYlD rFchcVqKQdJ rHDobKfpMzo rHNXdbVZEBi rNpoCmNVHTE rTKcEMzNdoE rVcNvfcztdw rVtTrYuGeJR rlhbTVJCsTp rnFpaKOmwFZ rtRhqKTaMmu rwsntJBoPNy rwyBBgQUwIB ryCvNYdOJqZ sAlrQgzkBFq sILoPoUoPgo sIaipiqEnMG sUsSfRhjJyt smWsxJRMmcD svsGphSYYyQ swwoztEaguE tQeHLDHwTqT tWVbGvOiOlf tcoJHSRTHeT tdAxGHlqMwq teReWeWrgYI thXQFOUFJKe tocMutzgWHf tyhPBHoKHzw uKhElUytfTk uWaSABPTzJx uXWdKhrxWSm uYIKOhINHgP uecsPNUhtxd uhPFWrAlKtf uhvxmLtEEPw unylfJkYpJa uqPMGhmcynz urSWKpRfFEH uuSSKBQkvya vFWOGpLETgc vHeIBLQazPU vIFxqJHcoaS vLVCkwQIuXt vLYnDaJwxcQ vMFxfKMqkkW vhpSbYQnYId vlBHKukOlWU waPRDCDYZrL wmnBdumWUdL wxPIKBjDeIb wxXdzoACYdn xEQGjyqMifA xNFtIasUELI xZxIJLWnPTt xiUeiSoDyek xjlKwlddacE yDaArpfwWhY yEAGBkEfmSY yIzWVJTspBx yLDNFEqkwhQ yavkYqZcoYk ycXyNAqmXXf ymAPPfOpQOF yoIFzvOkIoI ypdSLzgRRRP yrhkBMqotHl ysIsarPOHnl ysrWlOLAoTd zPzPSTNzraB zVEfkEQjfpo zfUwiihdnTp zoBmJomvPNu ztcxeazkTdS zvToEvKFQsp BACvNJHHwyLo BAEVWFWbRSiT BATCpvIbsKgl BAZOOFLUkCij BBDGcFmseVlf BBFglqipslSn BBIeoNlRDWqk BBKTeTAoEjOe BBYvNQmSGofl BBegXPikNbKu BBjRjgxQuGsQ BBvdapcZWMhv BCAtmqeUZXsQ BCHynOXKbevB BCMGJyuUZtQd
universe BCUofumojbuF BCbgHRGwFFSi BCxXNcKxkpqB BDBsiuWNCwbW BDFsngCBiYfO BDVepONXmBeL BDYrjMyWIPHF BDfbyPKQBpeR BEBkwQsYGfEJ BEGopjPsoZoD BEPdAxxrwjue BETZhHaFYrfX BEUFoPQCsRhi BEYIkgDthETi BEgRhDNaYRed BFTTrNFyzuUQ BFsbvzytAALr BFxPePFxTffc BGBAHRvDgHqI BGCOigustBtf BGGgfVSnCfZy BGMYLkfByOBn BGSJmFXyWrMp BGZhyNhObCxi BGpflExwIZWL BHQUzOOCiJoy BHSgSEdKikYC BHTXlwOiIdor BHTdjSsPzYsO BHXaLzueXXBh BHhHXmSIUXGV BHhIAFJSZAdd BHhZOtcqIuLQ BHlAmrgsvBFb BHoVPnJjyemN BIAGloMudHhm BIAIaAmYlSeD BIPQIAvVwptD BIRsUoOdonZq BIcwfXytFglW BIdFofgWkpLM BIwnLxUVdYVD BIzaQawcnTzn BJDVwjCmYciU BJRlnCMFuwFb BJWqOPJClkeX BJXIbWNKWHUS BJYnLuEatykW BJaKzIZmIDWj BKEOAzEszLah BKFVtAECwduw BKFhVqomLXbp BKGRkEFWeglu BKLWyoVeKfPz BKNFDniDXpCA BKOiLideiuZj BKSVZILdXYwk BKXeawdubRUn BKaMfoIQKjgW BKfAAqNufILw BKfGrVfrGmCO BKjqQyXJbLUH BLBpIlECZOFI BLVjXhGwdAsK BLaUmpCdkPPM BLekMcatuidb BLfPbiijIVVY BLjfGSaxUNZB BLpNFAQYQXDK BLvvbvMQvjOT BMCIxLlhFciR BMCyKuyCJail BMIwQXiBCWHz BMMDODphoeic BMUriTbkrOWE BMpGTKVqFRtn BMpZjEUVGHTD BMqEHxVjchiP BMrVWmNyRHMv BNHbvORQefaT BNNhaLgaaDNF BNUWQVMuVHot BNYxLhaYNejg BNmqaxUgSpzQ BNtUekyMMXyI BOMxyRwlKELP BOrRnCPgGZdH BOtMoUORluVI BOtRQQBnoBDs BPCHlihgeAjk BPPtenhxNGQg BPSORsWABptY BPWaKSadaUVD BPlZlrTUhYOE BPtKaYgGZEKH BPtpkuNfYUtx BPxDXPXhsujR BQFSXnqXfuZk BQOjbGiVcOCl BQRVGyLyaIGY
universe BQucvkNpVQlj BQwPxYoFnXuw BRNILSjeRmfs BRdbcTKnYWnY BRspvHWXIoKY BSSAilxjOKfE BSSFXDZxbuAY BSaksCiFbsJU BSdKxChEiWYO BSdUzSjJBtee BSlcTcvASGKr BSqjhiWOVxYb BSyBDiJtWwLQ BSyLXhFCZYOL BTIoyMGFnDGR BTJhyVPknZeU BTPCxwFxUzDr BTQxLLCUHPKM BTkeRsAlPINW BTuTdePzebDd BUgYAFeWOHkh BUjhoSTuXLHH BVAeYadFlodU BVLhkIsLrdtS BVOZQHxGjKAy BVVAdCWlyiHm BVZpNyjVCRzL BVjzKteQjwgP BVnlBnVQobeo BVqncxfjMXzD BWEGqIzUglja BWNhdbGbYFlk BWUpIBtKocmn BWYAolKnFGjg BWcxdhwdoOWQ BWiTgDAPmTTC BWjhJBAcWKms BWkJSyfECXVD BWpSJxLgvXVk BXDIapJssmyJ BXUZKjHSWVkI BXZtvuhlKZlB BXggYIUovrly BXhCDiHKgeDh BXhtlozwvkqs BXkUzbtkMSef BXoJuovbxDgR BXomiVShqaEs BXweGQNFQXRe BXyLejWmqSJt BXyaYqsZCRBP BYOSgPbPOfAP BYUhOePRrHcX BYZIjVbIbLMx BYasLoGWoitU BYhyZjQYHpay BYieJFyaJUCn BYxILaHlfiKm BYzyMoYNijmY BZFJnMviwOoj BZIsSkRTmUYH BZOULVfRPmpV BZZzwpmmceGP BZlWajNmohof BZnPegyBlbAB BZoZjMDYggfU BaLVvWsQaEfS BaTIuIeMUrlx BaebQXGuWvAm BbBNlUnwovrt BbEaSpBhabdv BbUOzwFsBnvG BcDlyQdzYkdG BcHkAmKXFcxC BcpoSlZcGfCU BdNLCMxMkwuK BdNnAweUvbBD BddJkUuvuIsB BdfSIMVnAiId BdgLFBSykzSe BdkkXIpDqOEs BdlVuSEpMouz BdtXBKnRfhcR BeDMBiFnbqWU BeHxyrQMSfjg BeVGeZhBIFHl BedEAtiCRmsL BerOmoaupmEJ BeteRqWxbnyG BexGERxDsYRX BfEgOQOkHgJn BfIyNgckMPWB BfXhkVXAXicr BfaVbARRYQsP BfenTQcpzLvJ BfiTCeZxZNHZ BgCbbfLPNbVk BgVqNvONzbZG BgxkUQgpvlgr BgyunYxDYngP
universe BhiPcfCsbnZp BhjmLwpabhiG BhlsuypTMukm BhpeWNglurbs BiNcTYvEgydd BimVPBjHPEch BjVDxMPzFMkA BjbRmKrtgUii BjebqqmVplNQ BkHCfrgWdwhQ BkLYNiRIocpQ BkXSHuqQyJmz BkcraTIxvFuk BkeKJUIMYjNo BkkcMXDkoBQf BkuOzAgaDBzF BlHsRvFjdIEu BlMWDpxZYDNq BlNyrxPtUHUh BlOPUQlJEJqf BlSrHLdHyvpq BlZLnxUSBMAY BlonIsCCwHYm BmCNMStrMvaz BmGssQEkOINS BmIufnVeHRWG BmMIbCjqPkZT BmPMRXnkbOrt BmQeHHPNiKht BmSEZUazHrej BmYdqaQNFrSz BmaFGhoboWYd BnLBtBPVYDmF BneThaNjoYOv BnjgSxeTZChy BnlLRNBaBxfV BnxNNCjfaeBf BnxpOfmiFMVU BoDQaMyKZZLE BoDmPnIDVnTH BoLmXuHxTnYx BoQqOxAOKnWw BojQsOPzRDPG BolEZigoeXQQ BooYuBvAlmUi BopeMrxDuksq BoslWZpJsPMJ BoxcLczOqAuP BpqqHeLicJvs BpruKVpJCUAQ BpsIEzTzyjId BqBryyiuHMZL BqIBPYTuCZka BqTAGZkRMhpK BqenvNoQwgKj BqfcdhEVhAkf BqfxrDUsmJiN BqmRygqvuejE BqmfkElMEjbR BqpPEbhgnKLb BqpuMfExPpNL BqwBfPuEQifs BrSjARakOBml BrVPWUKGUEqA BrdaqvqxUBTw BrfNbyqnBcWS BrjdLVylflZf BrumANOiNHBv BrzYbHOxtdTR BsGMWxpzLrTv BsbcQzwjThEv BtBrbksaVEak BtQKlzMsTehZ BtTbhcrtFPoF BtWgnGhkPiIo BtiaODDCzsPt BuBbCUbxohyR BuKOHssATvaw BuNeMQZpGkuF BuWYaveXczjk BuevGZEYBUVP BuhruOIpsaBU BuivlpzymRhw BumSRFDsaQwu BuueWOWcgTQA BuxkWcVoUOlQ BvDtLepukvcs BvEfiUnSRFVV BvHIWtmomjbK BvuAkMgyLYJy BwIpRBYZHbQO BwLYpyHdjQTo BwOioMjsjojZ BwouZVvaGFJG BwugLpweSDwS BxWaDjginPfd BxuAfjnibOoe BxyMDaxiNoZP ByHvjFBnlIZF ByOQbpIYkKti
universe ByQrSlxDXxZC ByXvFdodCksz ByYEqtmACwOi ByjgXPEeGLtK BykgVzHHcqLM BymaOexlLJcN ByupyOWwtsCv ByycLaqerSpj BzSvuXwptzFZ BzUcmfiBvnTo BzqxDaRGGAIf BztYLzLowqmB BzxtQLEJXVuZ CAMSpwDlkKYy CAQuMfJQytFu CARTPqImZyhP CAYXlAcgpltb CAhnybZGuRlE CApjaWhOKozm CAtunueiUtme CAxEGUZhwSns CBCJUTdoWdPC CBKyVBqKPsmK CBLeBcdGItqF CBTfyTcZxHYZ CBVTYqSwLJka CBfKrVdnWqMN CBwmyOxhzIcQ CCNSefUWxyxy CCOEitoHOsDs CCSNRrdLKvOX CCUDTrsAIily CCafYBwXXbLH CCimWxiesmSJ CCxQHDCuubHW CDASOomggxAH CDCSqCfZIWnB CDFcoSUoOUCh CDRYHjBEVbIk CDRifkVMHrSG CDmmGxPIoHfM CDzgqjqyuthC CEBEvoGGIqCk CEjDWuwidjqH CEnibyDODFlQ CEooNdDpUZMH CFEmQdcEFzUH CFGyQngAWzwW CFSktfAJmRam CFaxsQDIDZuO CFcFJwKInMLy CFkbkNwzPbIE CFpptOobtEuT CGNVXOaNRTkA CGWMSUrRjmUw CGZbaeNcwFPP CGZrcTZTQLgR CGaQQwjiUhhN CGgHPrrKDAKg CGmwpcUNFMbS CGtpSWyjgKcd CGzzjqwvywTp CHBbQJNtqqEi CHGgDCwHaViD CHRNaEXERnVA CHiDyjHXrKCH CHkylPkXzzQb CHpCxiNHNrwS CIAmtLNpxZXY CIEorwCEGArs CIHQGyDXFPUE CILpVvnXtMtU CIamHKjKphHA CIcDhMPJQynB CInfOpsMxRDt CIyieqqwwXLI CJcSUgoIrdGM CKEKVKTjSeQl CKSvGgSKNeaK CKbTxPUxoxMw CKcboacXBjRF CKdVJamqIPPe CKgASRSHpvkI CKihekSYVPUQ CKuLlrEagDoY CKuPMOXJezlV CKvhBXmLmrBI CLCBMfXwbEEy CLDVVjYJAifC CLHQweAvjoHV CLLcodrkihBK CLQVskaKAiQc CLRGNgxYZFWu CLakgVLlQKLO CLpRWzuZpqCW CLxlcUQTlzmU CMOdxLOznqem CMTLqxaQhlWE CMkYVAKiKYGq CMmGJDbTgRgU
universe CMmGcgRPtVOK CMmqQOtqvQSy CMutcxvYcbCC CMztbtdCwNJs CNOeOPgnxbJg CNVhqOZOsUXO CNaiuAKaSRtU CNktFZPnglCw COAlGbFQhLHy COHdNurRShIz COKGHMDOBuye COMBlQqDZUJK COgqwBZMXZnV COjmaoEwsbTC CPAsmjcHEWed CPEAYtSDmyXI CPMvvtGXRnyd CPUoepWELuGp CPelZeBWBEOB CPhlcigDXUHS CPmmEcYktQeX CPtKbonNKfUA CQOTpguUXTgj CQYBSYfBiVku CQaLMQGfvBJT CQhEtxMpMIes CQwLmVpxAXRO CRGujbWRosPj CRHBKzgLPUUr CRKOdqmcnvjv CRLiRwyvkkKt CRUcllhOExaX CRZknnECryWP CRiifwFceQNp CRxytBpbtRVx CRydTvqagMVC CSQhrAysWvxa CSWicKeranip CScIkrZVQdEW CSjgOvrKODuK CSnTyBQSfoYg CSyRVcGkvilW CSysZIVHLwJK CTESumqVQQWY CTEVFfkdQWCs CTEnWEOLbUWf CTOtaXAzYfrr CTYbrdtXUmfU CThVeBKOkLww CTiyFYFgfoOh CTpyzUTxjhHI CUYWxPAzGCtw CUbyDTcspirm CUrNoAPyOCgr CUrWxeccsNDy CUwcbgFMqpeD CUyqHPbGMfwD CVTSIfwPVlTJ CVdKVxNLNjth CVeElUNWubuO CVluXHsRJSud CVzUhsJZDWuU CWDzlrGkDjiv CWNTOcvgdFSr CWPnBNpuOXWz CWQiGIpJfxkn CWVDJrymdcBn CWXrxzztSZFc CWfMGXXBKtvz CWjyrzOvyWVk CWkkPGKjISkt CWuUZsHtPJzJ CWupqOlwcrNE CWxvgZWDZAMZ CXQPxLHYRdct CXUkwtWACcnr
end Mine.Internal.hd
set_option Elab.async true in
set_option maxRecDepth 100000 in
set_option maxHeartbeats 8000000 in
set_option pp.maxSteps 5000 in
set_option pp.deepTerms false in
set_option pp.deepTerms.threshold 8 in
theorem Mine.Internal.hd:PySem.Challenge.rw_np0156_01.Holds:=by
 w_on;o_law;k_head;(case hw=>w_witness2)
 intro w Xu j0 mg mb G Y fa o pm cd doc dV kV ho hd hcd hD hmg hg XS vals as HY W' hrd hwl hlo;have KX:=kIn_of Y
 k_behind G ho hd hcd hD hmg HY W' hrd hwl hlo cd
 clear hcd hD;rename_i X0 V0 GL T B0 TE TW mh a9 M a8 a7 xs hs WK hL1 hr hl2 a5 a4 a3 items a1 hL ra w1 r0 hI hr2 hc1 hc2 K0 h1 uz F oc right N0 XC;refine Mine.Internal.JS (Mine.Internal.Xt KX T) (by kernel_rfl) (by kernel_rfl) F N0 right ?_ hL hI (by omega) fun h' aU hk=>?_
 ·kernel_rfl
 ·refine⟨.inl ⟨.bool true,.bool true,[],rfl,fun _=>?_,.bool true,?_,fun _=>⟨.nil,fun _ h=>nomatch h⟩⟩,hk,rfl,hg⟩
  ·kernel_rfl
  ·kernel_rfl
theorem PySem.Challenge.cw_np0156_01_holds : PySem.Challenge.rw_np0156_01.Holds :=
 Mine.Internal.hd
