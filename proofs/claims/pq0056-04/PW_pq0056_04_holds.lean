import PyProof.Rows.All
import Wide.All
import OpenK.AllK
import Wide.FinOn
import PySem.Challenge.RW_pq0056_04
open PySem PySem.W PyProof.Rows
set_option Elab.async false
set_option autoImplicit false
set_option linter.unusedVariables false
set_option linter.unusedSectionVars false
set_option linter.unusedSimpArgs false
set_option maxRecDepth 100000
set_option tactic.hygienic false
set_option genInjectivity false
set_option genSizeOf false
noncomputable section
namespace Mine
def ac:=@wpAny_bind
def a8:=@Nat.le_of_eq
def a9:=@wpAny_pure
def b8:=@Nat.le_trans
def b9:=@List.mem_map
def c9:=@Option.some.inj
def d5:=@Heap.get?_push_of_some
def d6:=@List.mem_cons_self
def d7:=@List.mem_cons_of_mem
def d8:=@wpAny_mono
def d9:=@Nat.lt_of_le_of_lt
def f6:=@Nat.le_antisymm
def f7:=@Nat.le_refl
def f8:=@of_decide_eq_true
def f9:=@List.getElem?_eq_some_iff
def g7:=@Nat.le_of_not_lt
def g8:=@Heap.get?_push_size
def g9:=@List.mem_of_getElem?
def i6:=@List.not_mem_nil
def i7:=@Nat.sub_eq_zero_of_le
def i8:=@List.mem_cons
def i9:=@Heap.get?_none_of_le
def j0:=@Nat.le_total
def j5:=@List.mem_singleton
def j6:=@congrArg
def j7:=@Nat.le_of_lt
def j8:=@List.length_map
def j9:=@List.mem_range
def k8:=@Heap.get?_update_self
def k9:=@List.mem_iff_getElem?
def l8:=@wpAny_holding
def l9:=@List.mem_append
def m4:=@Nat.lt_trans
def m5:=@Option.map_eq_some_iff
def m6:=@Nat.zero_le
def m7:=@Heap.SameBut.update
def m8:=@List.mem_append_left
def m9:=@Nat.le_add_right
def n6:=@wpAny_call_entry
def n7:=@Bool.false_ne_true
def n8:=@List.mem_append_right
def n9:=@Nat.ne_of_lt
def o6:=@Nat.lt_of_lt_of_le
def o7:=@List.map_congr_left
def o8:=@Heap.lt_size
def o9:=@List.cons_ne_nil
def p0:=@wpAny_ite_split
def p5:=@Nat.le_of_lt_succ
def p6:=@wpAny_callSpecial?_slot
def p7:=@List.filter_congr
def p8:=@List.length_filter_le
def p9:=@Bool.and_eq_true
def q5:=@List.all_eq_true
def q6:=@List.mem_flatMap
def q7:=@decide_eq_false
def q8:=@Nat.lt_or_gt_of_ne
def q9:=@Int.ofNat_lt
def r5:=@Array.getElem?_eq_some_iff
def r7:=@List.Perm.refl
def r8:=@decide_eq_true
def r9:=@wpAny_newObj_type
def s0:=@wpAny_setState_of
def s7:=@Heap.get?_update_other
def s8:=@Obj.data_mapFields
def s9:=@List.nodup_nil
def t0:=@Nat.mul_le_mul_right
def t6:=@wpAny_seqItems
def t7:=@wpAny_standAt
def t8:=@Nat.succ_le_succ
def t9:=@wpAny_truthy_bool
def u0:=@Nat.add_le_add
def u1:=@List.mem_filter
def u2:=@Nat.min_le_left
def u3:=@Nat.not_lt_zero
def u4:=@PySem.F.slot_dict_keyiterator_next
def u5:=@eq_of_beq
def u6:=@List.ext_getElem?
def u7:=@Nat.succ_pos
def u8:=@Obj.isFreed_of_fields
def u9:=@Int.natCast_nonneg
def w1:=@List.getElem?_eq_getElem
def w2:=@Nat.succ.inj
def w3:=@Option.isSome_iff_exists
def w4:=@Array.mem_toList_iff
def w6:=@wpAny_field
def w7:=@wpAny_setField
def w8:=@wpAny_typeNameOfWhole_keyiter
def w9:=@Nat.le_mul_of_pos_right
def y0:=@List.nodup_cons
def y3:=@wpAny_rule
def y4:=@Nat.mul_le_mul_left
def y5:=@Nat.lt_succ_self
def y6:=@Calls.spliced_cons
def y7:=@F.slot_tuple_iterator_next
def y8:=@Int.lt_of_le_of_lt
def y9:=@List.perm_ext_iff_of_nodup
def z0:=@Nat.lt_or_eq_of_le
def z5:=@beq_iff_eq
def z6:=@wpAny_setField_rec
def z7:=@List.findIdx?_eq_some_iff_getElem
def z8:=@wpAny_specialOf
def z9:=@getMethod_builtin
def A6:=@wpAny_dictEntries
def A7:=@Nat.sub_le
def A8:=@Nat.add_le_add_left
def A9:=@Nat.add_sub_cancel'
def B0:=@List.isEmpty_iff
def B6:=@List.length_eq_zero_iff
def B7:=@Nat.lt_of_not_le
def B8:=@Nat.min_le_right
def B9:=@Option.bind_eq_some_iff
def C0:=@wpAny_isInstance
def C1:=@Nat.le_max_left
def C2:=@Nat.max_eq_left
def C3:=@Nat.one_ne_zero
def C4:=@codeAny_builtin
def C5:=@wpAny_ite_false
def C6:=@Int.ofNat.inj
def C7:=@wpAny_notOrdered_dict
def C8:=@Nat.lt_succ_of_le
def C9:=@Nat.lt_trichotomy
def D8:=@PyProof.Rows.callWith_type1
def D9:=@List.mem_of_mem_drop
def E0:=@Nat.add_le_add_right
def E1:=@Nat.le_max_right
def E2:=@Nat.min_eq_right
def E3:=@Nat.ne_of_gt
def E4:=@codeAny_mono
def E5:=@Option.isNone_iff_eq_none
def E6:=@PyProof.Rows.F.plain_set_update_loop
def E7:=@List.Pairwise.imp_of_mem
def E8:=@plainId_quiet
def E9:=@reads_list_at
def F8:=@wpAny_attempt
def F9:=@Nat.le_add_left
def G0:=@Nat.two_pow_pos
def G3:=@Nat.le_succ
def G4:=@PySem.F.plainAttrs_dict
def G8:=@PySem.F.plainAttrs_list
def G9:=@Bool.eq_false_iff
def I1:=@Calls.callWith_builtin
def I2:=@Calls.spliced_nil
def I3:=@List.pairwise_lt_range
def I4:=@Nat.le_mul_of_pos_left
def I5:=@Nat.le_of_succ_le_succ
def I6:=@Nat.lt_succ_of_lt
def I7:=@Nat.le_of_ble_eq_true
def I8:=@Int.not_lt
def I9:=@Nat.max_eq_right
def J0:=@wpAny_askSetting
def J1:=@List.cons.inj
def J2:=@Int.neg_le_of_neg_le
def J3:=@List.drop_eq_nil_iff
def J4:=@List.forall_mem_cons
def J5:=@Nat.le_sub_one_of_lt
def J6:=@sizeLine_eq
def J7:=@wpAny_updateDictKeys
def J8:=@wpAny_updateSeq_pair
def J9:=@F.slot_zip_next
def K0:=@Int.natCast_pos
def K1:=@Nat.min_eq_left
def K2:=@beq_eq_false_iff_ne
def K3:=@wpAny_setEntries_of
def K4:=@Ne.symm
def K5:=@List.getElem?_drop
def K6:=@List.length_append
def K7:=@Nat.mod_lt
def K8:=@wpAny_fieldsOf
def K9:=@wpAny_isTrue_value
def L0:=@wpAny_pyIter_tuple
def L3:=@wpAny_tupleItemsOf
def L4:=@List.Pairwise.imp
def L5:=@List.Pairwise.map
def L6:=@List.pairwise_map
def L7:=@wpAny_of_eq
def L8:=@wpAny_pyIter_slot
def L9:=@Int.le_natAbs
def M1:=@Nat.lt_irrefl
def M2:=@wpAny_newList
def M3:=@wpAny_onRaise
def M4:=@List.any_eq_true
def M5:=@List.mem_reverse
def M6:=@List.nodup_range
def M7:=@List.perm_middle
def M8:=@Prod.ext
def M9:=@Array.getElem?_eq_none
def N0:=@Int.le_trans
def N4:=@Int.ofNat_le
def N5:=@List.of_mem_zip
def N6:=@codeAny_of_tree
def N7:=@wpAny_dictEpoch
def N8:=@wpAny_execs_nil
def N9:=@Heap.size_push
def O6:=@Nat.pow_pos
def O7:=@isSubtype_stop
def O8:=@wpAny_letGo
def O9:=@wpAny_newTuple
def P0:=@Array.length_toList
def P1:=@Int.toNat_of_nonneg
def P2:=@wpAny_handled
def P3:=@wpAny_release
def P6:=@wpAny_load
def P7:=@Classical.em
def P8:=@Int.le_of_lt
def P9:=@Int.lt_trans
def Q0:=@Nat.add_zero
def Q1:=@Nat.zero_add
def Q3:=@wpAny_typeOf
def Q4:=@Nat.le_zero
def Q5:=@plainGet_of
def Q6:=@wpAny_throw
section
variable{p q s:Prop}
theorem ns.{u}{α:Type u}{a:α}{P:Prop}(h:none=some a):P:=nomatch h
theorem sn.{u}{α:Type u}{a:α}{P:Prop}(h:some a=none):P:=nomatch h
theorem FE{P:Prop}(h:true=false):P:=nomatch h
@[elab_as_elim] theorem rl.{u} {α:Sort u} {a b:α} {P:α->Prop} (h:a=b) (x:P b):P a:=h.symm▸x
universe u v w u₁ u₂
variable{α:Sort u}{β:Sort v}{γ:Sort w}{δ:Sort u₁}{ε:Sort u₂}{R:Prop}
theorem bQ(h:p/\q)(k:p->q->R):R:=k  h.1 h.2
theorem jg{r:Prop}(h:p/\q/\r)(k:p->q->r->R):R:=k  h.1 h.2.1 h.2.2
theorem rT{r:Prop}(h:p/\q/\r/\s)(k:p->q->r->s->R):R:=k  h.1 h.2.1 h.2.2.1 h.2.2.2
theorem ET{r t:Prop}(h:p/\q/\r/\s/\t)(k:p->q->r->s->t->R):R:=k  h.1 h.2.1 h.2.2.1 h.2.2.2.1 h.2.2.2.2
theorem bR{p:α->Prop}(h:∃a,p a)(k:∀a,p a->R):R:=h.elim λa h=>k a h
theorem af{p q:α->Prop}(h:∃a,p a/\q a)(k:∀a,p a->q a->R):R:=h.elim λa h=>k a h.1 h.2
theorem cL{p q r:α->Prop}(h:∃a,p a/\q a/\r a)(k:∀a,p a->q a->r a->R):R:=h.elim λa h=>k a h.1 h.2.1 h.2.2
theorem xG{p q r s:α->Prop}(h:∃a,p a/\q a/\r a/\s a)(k:∀a,p a->q a->r a->s a->R):R:=h.elim λa h=>k a h.1 h.2.1 h.2.2.1 h.2.2.2
theorem RN{p q r s t:α->Prop}(h:∃a,p a/\q a/\r a/\s a/\t a)(k:∀a,p a->q a->r a->s a->t a->R):R:=h.elim λa h=>k a h.1 h.2.1 h.2.2.1 h.2.2.2.1 h.2.2.2.2
theorem rY{p:α->β->Prop}(h:∃a b,p a b)(k:∀a b,p a b->R):R:=h.elim λa h=>h.elim λb h=>k a b h
theorem cb{p q:α->β->Prop}(h:∃a b,p a b/\q a b)(k:∀a b,p a b->q a b->R):R:=h.elim λa h=>h.elim λb h=>k a b h.1 h.2
theorem bw{p q r:α->β->Prop}(h:∃a b,p a b/\q a b/\r a b)(k:∀a b,p a b->q a b->r a b->R):R:=h.elim λa h=>h.elim λb h=>k a b h.1 h.2.1 h.2.2
theorem ph{p q r s:α->β->Prop}(h:∃a b,p a b/\q a b/\r a b/\s a b)(k:∀a b,p a b->q a b->r a b->s a b->R):R:=h.elim λa h=>h.elim λb h=>k a b h.1 h.2.1 h.2.2.1 h.2.2.2
theorem rU{p q r s t:α->β->Prop}(h:∃a b,p a b/\q a b/\r a b/\s a b/\t a b)(k:∀a b,p a b->q a b->r a b->s a b->t a b->R):R:=h.elim λa h=>h.elim λb h=>k a b h.1 h.2.1 h.2.2.1 h.2.2.2.1 h.2.2.2.2
theorem Pp{p q r s t u:α->β->Prop}(h:∃a b,p a b/\q a b/\r a b/\s a b/\t a b/\u a b)(k:∀a b,p a b->q a b->r a b->s a b->t a b->u a b->R):R:=h.elim λa h=>h.elim λb h=>k a b h.1 h.2.1 h.2.2.1 h.2.2.2.1 h.2.2.2.2.1 h.2.2.2.2.2
theorem Rp{p q r s t u v w:α->β->Prop}(h:∃a b,p a b/\q a b/\r a b/\s a b/\t a b/\u a b/\v a b/\w a b)(k:∀a b,p a b->q a b->r a b->s a b->t a b->u a b->v a b->w a b->R):R:=h.elim λa h=>h.elim λb h=>k a b h.1 h.2.1 h.2.2.1 h.2.2.2.1 h.2.2.2.2.1 h.2.2.2.2.2.1 h.2.2.2.2.2.2.1 h.2.2.2.2.2.2.2
theorem RO{p:α->β->γ->Prop}(h:∃a b c,p a b c)(k:∀a b c,p a b c->R):R:=h.elim λa h=>h.elim λb h=>h.elim λc h=>k a b c h
theorem pj{p q:α->β->γ->Prop}(h:∃a b c,p a b c/\q a b c)(k:∀a b c,p a b c->q a b c->R):R:=h.elim λa h=>h.elim λb h=>h.elim λc h=>k a b c h.1 h.2
theorem GN{p q r:α->β->γ->Prop}(h:∃a b c,p a b c/\q a b c/\r a b c)(k:∀a b c,p a b c->q a b c->r a b c->R):R:=h.elim λa h=>h.elim λb h=>h.elim λc h=>k a b c h.1 h.2.1 h.2.2
theorem rV{p q r s:α->β->γ->Prop}(h:∃a b c,p a b c/\q a b c/\r a b c/\s a b c)(k:∀a b c,p a b c->q a b c->r a b c->s a b c->R):R:=h.elim λa h=>h.elim λb h=>h.elim λc h=>k a b c h.1 h.2.1 h.2.2.1 h.2.2.2
theorem Pq{p q r s t:α->β->γ->Prop}(h:∃a b c,p a b c/\q a b c/\r a b c/\s a b c/\t a b c)(k:∀a b c,p a b c->q a b c->r a b c->s a b c->t a b c->R):R:=h.elim λa h=>h.elim λb h=>h.elim λc h=>k a b c h.1 h.2.1 h.2.2.1 h.2.2.2.1 h.2.2.2.2
theorem Pu{p q r s t u:α->β->γ->Prop}(h:∃a b c,p a b c/\q a b c/\r a b c/\s a b c/\t a b c/\u a b c)(k:∀a b c,p a b c->q a b c->r a b c->s a b c->t a b c->u a b c->R):R:=h.elim λa h=>h.elim λb h=>h.elim λc h=>k a b c h.1 h.2.1 h.2.2.1 h.2.2.2.1 h.2.2.2.2.1 h.2.2.2.2.2
theorem RP{p q r s t u v:α->β->γ->Prop}(h:∃a b c,p a b c/\q a b c/\r a b c/\s a b c/\t a b c/\u a b c/\v a b c)(k:∀a b c,p a b c->q a b c->r a b c->s a b c->t a b c->u a b c->v a b c->R):R:=h.elim λa h=>h.elim λb h=>h.elim λc h=>k a b c h.1 h.2.1 h.2.2.1 h.2.2.2.1 h.2.2.2.2.1 h.2.2.2.2.2.1 h.2.2.2.2.2.2
theorem Pw{p:α->β->γ->δ->Prop}(h:∃a b c d,p a b c d)(k:∀a b c d,p a b c d->R):R:=h.elim λa h=>h.elim λb h=>h.elim λc h=>h.elim λd h=>k a b c d h
theorem Px{p q r:α->β->γ->δ->Prop}(h:∃a b c d,p a b c d/\q a b c d/\r a b c d)(k:∀a b c d,p a b c d->q a b c d->r a b c d->R):R:=h.elim λa h=>h.elim λb h=>h.elim λc h=>h.elim λd h=>k a b c d h.1 h.2.1 h.2.2
theorem Rq{p q r s t u:α->β->γ->δ->Prop}(h:∃a b c d,p a b c d/\q a b c d/\r a b c d/\s a b c d/\t a b c d/\u a b c d)(k:∀a b c d,p a b c d->q a b c d->r a b c d->s a b c d->t a b c d->u a b c d->R):R:=h.elim λa h=>h.elim λb h=>h.elim λc h=>h.elim λd h=>k a b c d h.1 h.2.1 h.2.2.1 h.2.2.2.1 h.2.2.2.2.1 h.2.2.2.2.2
theorem RQ{p q r s t u v:α->β->γ->δ->Prop}(h:∃a b c d,p a b c d/\q a b c d/\r a b c d/\s a b c d/\t a b c d/\u a b c d/\v a b c d)(k:∀a b c d,p a b c d->q a b c d->r a b c d->s a b c d->t a b c d->u a b c d->v a b c d->R):R:=h.elim λa h=>h.elim λb h=>h.elim λc h=>h.elim λd h=>k a b c d h.1 h.2.1 h.2.2.1 h.2.2.2.1 h.2.2.2.2.1 h.2.2.2.2.2.1 h.2.2.2.2.2.2
theorem RR{p q r s t u:α->β->γ->δ->ε->Prop}(h:∃a b c d e,p a b c d e/\q a b c d e/\r a b c d e/\s a b c d e/\t a b c d e/\u a b c d e)(k:∀a b c d e,p a b c d e->q a b c d e->r a b c d e->s a b c d e->t a b c d e->u a b c d e->R):R:=h.elim λa h=>h.elim λb h=>h.elim λc h=>h.elim λd h=>h.elim λe h=>k a b c d e h.1 h.2.1 h.2.2.1 h.2.2.2.1 h.2.2.2.2.1 h.2.2.2.2.2
theorem da{r:Prop}(B:p)(F:q)(G:r):p/\q/\r:=⟨B,F,G⟩
theorem mu{r:Prop}(B:p)(F:q)(G:r)(J:s):p/\q/\r/\s:=⟨B,F,G,J⟩
theorem GJ{r t:Prop}(B:p)(F:q)(G:r)(J:s)(O:t):p/\q/\r/\s/\t:=⟨B,F,G,J,O⟩
theorem mw{p:α->Prop}(a:α)(B:p a):∃a,p a:=⟨a,B⟩
theorem aa{p q:α->Prop}(a:α)(B:p a)(F:q a):∃a,p a/\q a:=⟨a,B,F⟩
theorem bb{p q r:α->Prop}(a:α)(B:p a)(F:q a)(G:r a):∃a,p a/\q a/\r a:=⟨a,B,F,G⟩
theorem iN{p q r s:α->Prop}(a:α)(B:p a)(F:q a)(G:r a)(J:s a):∃a,p a/\q a/\r a/\s a:=⟨a,B,F,G,J⟩
theorem Rr{p q r s t:α->Prop}(a:α)(B:p a)(F:q a)(G:r a)(J:s a)(O:t a):∃a,p a/\q a/\r a/\s a/\t a:=⟨a,B,F,G,J,O⟩
theorem RS{p q r s t u:α->Prop}(a:α)(B:p a)(F:q a)(G:r a)(J:s a)(O:t a)(P:u a):∃a,p a/\q a/\r a/\s a/\t a/\u a:=⟨a,B,F,G,J,O,P⟩
theorem vU{p:α->β->Prop}(a:α)(b:β)(B:p a b):∃a b,p a b:=⟨a,b,B⟩
theorem fA{p q:α->β->Prop}(a:α)(b:β)(B:p a b)(F:q a b):∃a b,p a b/\q a b:=⟨a,b,B,F⟩
theorem bc{p q r:α->β->Prop}(a:α)(b:β)(B:p a b)(F:q a b)(G:r a b):∃a b,p a b/\q a b/\r a b:=⟨a,b,B,F,G⟩
theorem jh{p q r s:α->β->Prop}(a:α)(b:β)(B:p a b)(F:q a b)(G:r a b)(J:s a b):∃a b,p a b/\q a b/\r a b/\s a b:=⟨a,b,B,F,G,J⟩
theorem mN{p q r s t:α->β->Prop}(a:α)(b:β)(B:p a b)(F:q a b)(G:r a b)(J:s a b)(O:t a b):∃a b,p a b/\q a b/\r a b/\s a b/\t a b:=⟨a,b,B,F,G,J,O⟩
theorem Py{p q r s t u:α->β->Prop}(a:α)(b:β)(B:p a b)(F:q a b)(G:r a b)(J:s a b)(O:t a b)(P:u a b):∃a b,p a b/\q a b/\r a b/\s a b/\t a b/\u a b:=⟨a,b,B,F,G,J,O,P⟩
theorem RT{p:α->β->γ->Prop}(a:α)(b:β)(c:γ)(B:p a b c):∃a b c,p a b c:=⟨a,b,c,B⟩
theorem yX{p q:α->β->γ->Prop}(a:α)(b:β)(c:γ)(B:p a b c)(F:q a b c):∃a b c,p a b c/\q a b c:=⟨a,b,c,B,F⟩
theorem RU{p q r:α->β->γ->Prop}(a:α)(b:β)(c:γ)(B:p a b c)(F:q a b c)(G:r a b c):∃a b c,p a b c/\q a b c/\r a b c:=⟨a,b,c,B,F,G⟩
theorem md{p q r s:α->β->γ->Prop}(a:α)(b:β)(c:γ)(B:p a b c)(F:q a b c)(G:r a b c)(J:s a b c):∃a b c,p a b c/\q a b c/\r a b c/\s a b c:=⟨a,b,c,B,F,G,J⟩
theorem EU{p q r s t:α->β->γ->Prop}(a:α)(b:β)(c:γ)(B:p a b c)(F:q a b c)(G:r a b c)(J:s a b c)(O:t a b c):∃a b c,p a b c/\q a b c/\r a b c/\s a b c/\t a b c:=⟨a,b,c,B,F,G,J,O⟩
theorem Rd{p q r s t u:α->β->γ->Prop}(a:α)(b:β)(c:γ)(B:p a b c)(F:q a b c)(G:r a b c)(J:s a b c)(O:t a b c)(P:u a b c):∃a b c,p a b c/\q a b c/\r a b c/\s a b c/\t a b c/\u a b c:=⟨a,b,c,B,F,G,J,O,P⟩
theorem Rs{p q r s t u v:α->β->γ->Prop}(a:α)(b:β)(c:γ)(B:p a b c)(F:q a b c)(G:r a b c)(J:s a b c)(O:t a b c)(P:u a b c)(Q:v a b c):∃a b c,p a b c/\q a b c/\r a b c/\s a b c/\t a b c/\u a b c/\v a b c:=⟨a,b,c,B,F,G,J,O,P,Q⟩
theorem Re{p:α->β->γ->δ->Prop}(a:α)(b:β)(c:γ)(d:δ)(B:p a b c d):∃a b c d,p a b c d:=⟨a,b,c,d,B⟩
theorem Rt{p q r s:α->β->γ->δ->Prop}(a:α)(b:β)(c:γ)(d:δ)(B:p a b c d)(F:q a b c d)(G:r a b c d)(J:s a b c d):∃a b c d,p a b c d/\q a b c d/\r a b c d/\s a b c d:=⟨a,b,c,d,B,F,G,J⟩
theorem Ru{p q r s t u:α->β->γ->δ->Prop}(a:α)(b:β)(c:γ)(d:δ)(B:p a b c d)(F:q a b c d)(G:r a b c d)(J:s a b c d)(O:t a b c d)(P:u a b c d):∃a b c d,p a b c d/\q a b c d/\r a b c d/\s a b c d/\t a b c d/\u a b c d:=⟨a,b,c,d,B,F,G,J,O,P⟩
theorem Rw{p q r s t u v:α->β->γ->δ->Prop}(a:α)(b:β)(c:γ)(d:δ)(B:p a b c d)(F:q a b c d)(G:r a b c d)(J:s a b c d)(O:t a b c d)(P:u a b c d)(Q:v a b c d):∃a b c d,p a b c d/\q a b c d/\r a b c d/\s a b c d/\t a b c d/\u a b c d/\v a b c d:=⟨a,b,c,d,B,F,G,J,O,P,Q⟩
end
section
variable{a c i j k l:Nat}
set_option genCtorIdx false
inductive LE where|V (i:Nat)|N (k:Nat)|A (x y:LE)|M (k:Nat) (x:LE)|R (x:LE) (k:Nat)
noncomputable def PN:List Nat->Nat->Nat
 | [],_=>0
 |x::_,0=>x
 |_::r,i+1=>PN r i
noncomputable def LE.d(c:List Nat):LE->Nat
 | .V i=>PN c i
 | .N k=>k
 | .A x y=>x.d c+y.d c
 | .M k x=>k*x.d c
 | .R x k=>x.d c*k
noncomputable def Hs:List Nat->List Nat->List Nat
 | [],y=>y
 |x::xs,[]=>x::xs
 |x::xs,y::ys=>(x+y)::Hs xs ys
noncomputable def Fu(k:Nat):List Nat->List Nat
 | []=>[]
 |x::xs=>(k*x)::Fu k xs
noncomputable def Ps:Nat->List Nat
 |0=>[1]
 |i+1=>0::Ps i
noncomputable def pE:List Nat->List Nat->Nat
 | [],_=>0
 |_::_,[]=>0
 |x::xs,y::ys=>x*y+pE xs ys
noncomputable def LE.f:LE->Nat×List Nat
 | .V i=>(0,Ps i)
 | .N k=>(k,[])
 | .A x y=>(x.f.1+y.f.1,Hs x.f.2 y.f.2)
 | .M k x=>(k*x.f.1,Fu k x.f.2)
 | .R x k=>(k*x.f.1,Fu k x.f.2)
theorem wC:∀(x y c:List Nat),pE (Hs x y) c=pE x c+pE y c
 | [],y,c=>(Q1 _).symm
 |x::xs,[],c=>rfl
 |x::xs,y::ys,[]=>rfl
 |x::xs,y::ys,c::cs=>by show(x+y)*c+pE (Hs xs ys) cs=(x*c+pE xs cs)+(y*c+pE ys cs);rw[wC,Nat.add_mul,Nat.add_add_add_comm]
theorem qX(k:Nat):∀(x c:List Nat),pE (Fu k x) c=k*pE x c
 | [],c=>rfl
 |x::xs,[]=>rfl
 |x::xs,c::cs=>by show k*x*c+pE (Fu k xs) cs=k*(x*c+pE xs cs);rw[qX,Nat.mul_add,Nat.mul_assoc]
theorem wD:∀(i:Nat)(c:List Nat),pE (Ps i) c=PN c i
 |0,[]=>rfl
 |0,x::xs=>Nat.one_mul _
 |i+1,[]=>rfl
 |i+1,x::xs=>by show 0*x+pE (Ps i) xs=_;rw[Nat.zero_mul,Nat.zero_add,wD];rfl
theorem LE.d_eq(c:List Nat):∀x:LE,x.d c=x.f.1+pE x.f.2 c
 | .V i=>(wD i c).symm.trans (Q1 _).symm
 | .N _=>rfl
 | .A x y=>by show x.d c+y.d c=x.f.1+y.f.1+pE (Hs x.f.2 y.f.2) c;rw[wC,LE.d_eq c x,LE.d_eq c y,Nat.add_add_add_comm]
 | .M k x=>by show k*x.d c=k*x.f.1+pE (Fu k x.f.2) c;rw[qX,LE.d_eq c x,Nat.mul_add]
 | .R x k=>by show x.d c*k=k*x.f.1+pE (Fu k x.f.2) c;rw[qX,LE.d_eq c x,Nat.mul_comm,Nat.mul_add]
noncomputable def Hx:List Nat->List Nat->Bool
 | [],_=>true
 |x::xs,[]=>Nat.beq x 0&&Hx xs []
 |x::xs,y::ys=>Nat.ble x y&&Hx xs ys
theorem wI:∀{x:List Nat}(c:List Nat),Hx x []=true->pE x c=0
 | [],c,_=>rfl
 |x::xs,[],_=>rfl
 |x::xs,c::cs,h=>by have h:=(p9 _ _).mp h;show x*c+pE xs cs=0;rw[Nat.eq_of_beq_eq_true h.1,wI cs h.2,Nat.zero_mul]
theorem Aa:∀{x y:List Nat}(c:List Nat),Hx x y=true->pE x c<=pE y c
 | [],y,c,_=>m6 _
 |x::xs,[],c,h=>a8 (wI c h)
 |x::xs,y::ys,[],_=>f7 _
 |x::xs,y::ys,c::cs,h=>by have h:=(p9 _ _).mp h;exact u0 (t0 _ (I7 h.1)) (Aa cs h.2)
noncomputable def DL(l r:LE):Bool:=Nat.blt r.f.1 l.f.1&&Hx r.f.2 l.f.2
theorem jU{l r:LE}(c:List Nat)(h:DL l r=true):¬l.d c<=r.d c:=by have h:=(p9 _ _).mp h;rw[LE.d_eq,LE.d_eq];exact Nat.not_le_of_lt (Nat.add_lt_add_of_lt_of_le (I7 h.1) (Aa c h.2))
theorem cP(c:List Nat)(l r:LE)(k:DL l r=true)(h:l.d c<=r.d c):False:=jU c k h
theorem be(c:List Nat)(l r l' r':LE)(k:DL (.A l l') (.A r r')=true)(h:l.d c<=r.d c)(h':l'.d c<=r'.d c):False:=jU c k (u0 h h')
theorem eJ(c:List Nat)(l r l' r' l2 B:LE)(k:DL (.A (.A l l') l2) (.A (.A r r') B)=true)(h:l.d c<=r.d c)(h':l'.d c<=r'.d c)(F:l2.d c<=B.d c):False:=jU c k (u0 (u0 h h') F)
theorem bY(c:List Nat)(k:Nat)(l r:LE)(h:l.d c<=r.d c):(LE.M k l).d c<=(LE.M k r).d c:=y4 k h
theorem dB(c:List Nat)(l r l' r':LE)(h:l.d c<=r.d c)(h':l'.d c<=r'.d c):(LE.A l l').d c<=(LE.A r r').d c:=u0 h h'
theorem cj(c:List Nat)(x y:LE)(k:DL (.A y (.N 1)) x=true):x.d c<=y.d c:=g7 (jU c k)
theorem ae(c:List Nat)(x y l r:LE)(k:DL (.A (.A y (.N 1)) l) (.A x r)=true)(h:l.d c<=r.d c):x.d c<=y.d c:=g7 λq=>jU c k (u0 q h)
theorem ah(c:List Nat)(x y l r l' r':LE)(k:DL (.A (.A y (.N 1)) (.A l l')) (.A x (.A r r'))=true)(h:l.d c<=r.d c)(h':l'.d c<=r'.d c):x.d c<=y.d c:=ae c x y _ _ k (dB c l r l' r' h h')
theorem aG(c:List Nat)(x y l r l' r' l2 B:LE)(k:DL (.A (.A y (.N 1)) (.A (.A l l') l2)) (.A x (.A (.A r r') B))=true)(h:l.d c<=r.d c)(h':l'.d c<=r'.d c)(F:l2.d c<=B.d c):x.d c<=y.d c:=ae c x y _ _ k (dB c _ _ l2 B (dB c l r l' r' h h') F)
theorem aH(x y:Nat):x<=x-y+y:=Nat.le_add_of_sub_le (f7 _)
theorem aU{x y:Nat}(h:y<=x):x-y+y=x:=Nat.sub_add_cancel h
theorem uY(x:Nat):2*(x/2)<=x:=Nat.mul_div_le x 2
theorem uZ(x:Nat):x<=2*(x/2)+1:=p5 (Nat.lt_mul_div_succ (b:=2) x (by decide))
open LE
noncomputable abbrev v0:=V 0
noncomputable abbrev v1:=V 1
noncomputable abbrev v2:=V 2
noncomputable abbrev v3:=V 3
noncomputable abbrev v4:=V 4
noncomputable abbrev v5:=V 5
noncomputable abbrev v6:=V 6
noncomputable abbrev v7:=V 7
noncomputable abbrev v8:=V 8
noncomputable abbrev v9:=V 9
noncomputable abbrev Rc:=V 10
noncomputable abbrev Pk:=V 11
noncomputable abbrev LE.S(x:LE):LE:=A x (N 1)
theorem RC:a<55296\/57343<a/\a<1114112->a<1114112:=λh=>h.elim (λz=>m4 z (by decide)) λz=>z.2
theorem Rj{b:Nat}:a<=b->a+1<=b+1:=ae [a,b] (S v0) (S v1) v0 v1 rfl
theorem RD{b d:Nat}:a<=c->b<=d->max a b<=max c d:=λF G=>(j0 a b).elim (λB=>aG [a,b,c,d,(max a b),(max c d)] v4 v5 v1 v3 v3 v5 v4 v1 rfl G (E1 c d) (a8 (I9 B))) (λB=>aG [a,b,c,d,(max a b),(max c d)] v4 v5 v0 v2 v2 v5 v4 v0 rfl F (C1 c d) (a8 (C2 B)))
theorem Rk{b:Nat}:a+(c+1)<b->a<b:=ae [a,b,c] (S v0) v1 (S (A v0 (S v2))) v1 rfl
theorem RE{b:Nat}:a+(b+1)<c->a+1+b<c:=ae [a,b,c] (S (A (S v0) v1)) v2 (S (A v0 (S v1))) v2 rfl
theorem RF{b d:Nat}:a+max b d<c->a+b<c:=λB=>ah [a,b,c,d,(max b d)] (S (A v0 v1)) v2 (S (A v0 v4)) v2 v1 v4 rfl B (C1 b d)
theorem RG{b d:Nat}:a+max d b<c->a+b<c:=λB=>ah [a,b,c,d,(max d b)] (S (A v0 v1)) v2 (S (A v0 v4)) v2 v1 v4 rfl B (E1 d b)
theorem RH{b d e:Nat}:a+min e i<d->b<=e->c<=i->a+min b c<d:=λF G J=>(j0 e i).elim (λB=>aG [a,b,c,d,e,i,(min e i),(min b c)] (S (A v0 v7)) v3 (S (A v0 v6)) v3 v1 v4 (A v7 v4) (A v1 v6) rfl F G (dB [a,b,c,d,e,i,(min e i),(min b c)] v7 v1 v4 v6 (u2 b c) (a8 (K1 B).symm))) (λB=>aG [a,b,c,d,e,i,(min e i),(min b c)] (S (A v0 v7)) v3 (S (A v0 v6)) v3 v2 v5 (A v7 v5) (A v2 v6) rfl F J (dB [a,b,c,d,e,i,(min e i),(min b c)] v7 v2 v5 v6 (B8 b c) (a8 (E2 B).symm)))
theorem Rl:a+1<=0->False:=cP [a] (S v0) (N 0) rfl
theorem HC{b:Nat}:a+1<=b+1->a<=b:=ae [a,b] v0 v1 (S v0) (S v1) rfl
theorem FI{b:Nat}:max a c<=b->a<=b:=λB=>ah [a,b,c,(max a c)] v0 v1 v3 v1 v0 v3 rfl B (C1 a c)
theorem CI{b:Nat}:max c a<=b->a<=b:=λB=>ah [a,b,c,(max c a)] v0 v1 v3 v1 v0 v3 rfl B (E1 c a)
theorem HX{b:Nat}:b<=8->a+8<c->a+b<c:=ah [a,b,c] (S (A v0 v1)) v2 v1 (N 8) (S (A v0 (N 8))) v2 rfl
theorem PS{b d:Nat}:c<=8->a+8<d->a+min b c<d:=λB F=>aG [a,b,c,d,(min b c)] (S (A v0 v4)) v3 v2 (N 8) (S (A v0 (N 8))) v3 v4 v2 rfl B F (B8 b c)
theorem PT{b:Nat}:b<=c->a+2*c<990->a+2*b<990:=λB F=>ah [a,b,c] (S (A v0 (M 2 v1))) (N 990) (M 2 v1) (M 2 v2) (S (A v0 (M 2 v2))) (N 990) rfl (bY [a,b,c] 2 v1 v2 B) F
theorem PU{b:Nat}:b<=c->a+10*c<9700->a+10*b<9700:=λB F=>ah [a,b,c] (S (A v0 (M 10 v1))) (N 9700) (M 10 v1) (M 10 v2) (S (A v0 (M 10 v2))) (N 9700) rfl (bY [a,b,c] 10 v1 v2 B) F
theorem IQ{a:Int}:a.natAbs<(2:Nat)^60->-(2:Int)^64<a:=λh=>Int.neg_lt_of_neg_lt (y8 (Int.natAbs_neg a▸L9) (q9.mpr (m4 h (by decide:2^60<2^64))))
theorem IY{a:Int}:a.natAbs<(2:Nat)^60->a<(2:Int)^64:=λh=>y8 L9 (q9.mpr (m4 h (by decide:2^60<2^64)))
theorem PV{a:Int}:(0:Int)<a->a≠(0:Int):=λh=>(Int.ne_of_lt h).symm
theorem PW{a:Int}:(0:Int)<a->(0:Int)<=a:=P8
theorem JD{b d:Nat}:c+d<=1000->a=c->b=d->a+b<=16777216:=λB F G=>aG [a,b,c,d] (A v0 v1) (N 16777216) (A v2 v3) (N 1000) v0 v2 v1 v3 rfl B (a8 F) (a8 G)
theorem PX{b d:Nat}:c+d<=2^20->a=c->b=d->a+b<=16777216:=λB F G=>aG [a,b,c,d] (A v0 v1) (N 16777216) (A v2 v3) (N 1048576) v0 v2 v1 v3 rfl B (a8 F) (a8 G)
theorem CJ{b:Nat}:a+10*c<9700->b=9900->a+64<b:=λB F=>ah [a,b,c] (S (A v0 (N 64))) v1 (S (A v0 (M 10 v2))) (N 9700) (N 9900) v1 rfl B (a8 F.symm)
theorem CL{b:Nat}:a<=b->b<=8->a+1<=64:=ah [a,b] (S v0) (N 64) v0 v1 v1 (N 8) rfl
theorem CM{b:Nat}:a<=b->b<=8->a<=64:=ah [a,b] v0 (N 64) v0 v1 v1 (N 8) rfl
theorem PY{b:Int}:(0:Int)<=b->-(↑a:Int)<=b:=λh=>N0 (Int.neg_nonpos_of_nonneg (u9 a)) h
theorem PZ{a:Int}{b:Nat}:a.toNat<b->a<(↑b:Int):=λh=>y8 (Int.self_le_toNat a) (q9.mpr h)
theorem Qa{a:Int}:(0:Int)<=a->¬a<(0:Int):=I8.mpr
theorem Qc{a:Int}{b:Nat}:a.toNat<b->¬a<(0:Int)->(0:Int)<=a/\a<(↑b:Int):=λh q=>⟨I8.mp q,y8 (Int.self_le_toNat a) (q9.mpr h)⟩
theorem Qd{b:Int}:-b<=(↑a:Int)->-(↑a:Int)<=b:=λh=>J2 h
theorem Qe{a:Int}{b:Nat}:((↑b:Int)+a).toNat<b->a<(↑b:Int):=by omega
theorem Qf{a:Int}{b:Nat}:((↑b:Int)+a).toNat<b->a<(0:Int):=λh=>Int.not_le.mp λk=>absurd (q9.mpr h) (by rw[Int.toNat_of_nonneg (Int.add_nonneg (Int.natCast_nonneg b) k)];exact I8.mpr (Int.le_add_of_nonneg_right k))
theorem Qg{a:Int}{b:Nat}:-a<=(↑b:Int)->a<(0:Int)->(0:Int)<=a+(↑b:Int)/\a+(↑b:Int)<(↑b:Int):=by omega
theorem Qh{b:Nat}:a+10*c<9700->b<=200->a+b<9900:=ah [a,b,c] (S (A v0 v1)) (N 9900) (S (A v0 (M 10 v2))) (N 9700) v1 (N 200) rfl
theorem Qi :10<=200:=by decide
theorem Ls{b d e:Nat}:c<=e->e<=8->a+10<d->a+1+min b c<d:=λB F G=>aG [a,b,c,d,e,(min b c)] (S (A (S v0) v5)) v3 v2 v4 v4 (N 8) (A (S (A v0 (N 10))) v5) (A v3 v2) rfl B F (dB [a,b,c,d,e,(min b c)] (S (A v0 (N 10))) v3 v5 v2 G (B8 b c))
theorem vg :9<=200:=by decide
theorem LO{a:Int}:a.natAbs<(2:Nat)^60->-(2:Int)^63<=a:=λh=>J2 (N0 (Int.natAbs_neg a▸L9) (P8 (q9.mpr (m4 h (by decide:2^60<2^63)))))
theorem LT{a:Int}:a.natAbs<(2:Nat)^60->a<(2:Int)^63:=λh=>y8 L9 (q9.mpr (m4 h (by decide:2^60<2^63)))
theorem CN:¬(↑a:Int)<(0:Int):=I8.mpr (u9 a)
theorem Qj{a:Int}:a<(3:Int)->a.toNat<(3:Nat):=λh=>(Int.toNat_lt' (by decide)).mpr h
theorem Qk{a:Int}:(0:Int)<=a->(↑a.toNat:Int)=a:=P1
theorem Ql{a:Int}:(0:Int)<=a->a<(3:Int)->(-9223372036854775808:Int)<=a/\a<(9223372036854775808:Int):=λh k=>⟨N0 (by decide) h,P9 k (by decide)⟩
theorem Qm{a:Int}:¬(0:Int)<=a->a<(0:Int):=Int.not_le.mp
theorem Qn{b:Int}:a=c->-b<=(↑c:Int)->-(↑a:Int)<=b:=λh k=>h▸J2 k
theorem Qo{b:Nat}:b=c->a<=b+1->c<=500->a<=1000:=λB F G=>aG [a,b,c] v0 (N 1000) v1 v2 v0 (S v1) v2 (N 500) rfl (a8 B) F G
theorem Qq :1≠0:=by decide
theorem MY :1<=1:=by decide
theorem Qr{b:Nat}:a=b->1<=b->1<=a:=λB F=>ah [a,b] (N 1) v0 v1 v0 (N 1) v1 rfl (a8 B.symm) F
theorem Nw{b:Nat}:a=b->b<=1000->a<=16777216:=λB F=>ah [a,b] v0 (N 16777216) v0 v1 v1 (N 1000) rfl (a8 B) F
theorem Qt :1<=16777216:=by decide
theorem Qu{a:Int}{b:Nat}:a<(↑b:Int)->b<(2:Nat)^60->a<(2:Int)^63:=λh k=>P9 h (q9.mpr (m4 k (by decide:2^60<2^63)))
theorem Qv{a:Int}{b:Nat}:b=c->a<(↑c:Int)->a<(↑b:Int):=λh k=>h▸k
theorem Ol:a<2^20->a<=16777216:=ae [a] v0 (N 16777216) (S v0) (N 1048576) rfl
theorem Qw{b:Nat}:a=c->c<2^20->b=16777216->a<=b:=λB F G=>aG [a,b,c] v0 v1 v0 v2 (S v2) (N 1048576) (N 16777216) v1 rfl (a8 B) F (a8 G.symm)
theorem Qx{b d:Nat}:c+d<=2^20->a=c->b=16777216->a<=b:=λB F G=>aG [a,b,c,d] v0 v1 (A v2 v3) (N 1048576) v0 v2 (N 16777216) v1 rfl B (a8 F) (a8 G.symm)
theorem Qy{b d e:Nat}:d+e<=2^20->a=d->b=e->c=16777216->a+b<=c+1:=λB F G J=>aG [a,b,c,d,e] (A v0 v1) (S v2) (A v3 v4) (N 1048576) v0 v3 (A v1 (N 16777216)) (A v4 v2) rfl B (a8 F) (dB [a,b,c,d,e] v1 v4 (N 16777216) v2 (a8 G) (a8 J.symm))
theorem Qz{b d e:Nat}:d+e<=2^20->a=d->b=e->c=16777216->a+b<=c:=λB F G J=>aG [a,b,c,d,e] (A v0 v1) v2 (A v3 v4) (N 1048576) v0 v3 (A v1 (N 16777216)) (A v4 v2) rfl B (a8 F) (dB [a,b,c,d,e] v1 v4 (N 16777216) v2 (a8 G) (a8 J.symm))
theorem QA{b:Nat}:a=c->c<=2^20->b=16777216->a<=b:=λB F G=>aG [a,b,c] v0 v1 v0 v2 v2 (N 1048576) (N 16777216) v1 rfl (a8 B) F (a8 G.symm)
theorem QB{b:Nat}:a=b+1->a<=b+1:=λB=>ae [a,b] v0 (S v1) v0 (S v1) rfl (a8 B)
theorem CO{b:Nat}:b=c->a<c->a<b:=λB F=>ah [a,b,c] (S v0) v1 v2 v1 (S v0) v2 rfl (a8 B.symm) F
theorem FJ{b:Nat}:a<c->c<b->a<b:=ah [a,b,c] (S v0) v1 (S v0) v2 (S v2) v1 rfl
theorem FK{b:Nat}:c=b->a<c->a<b:=λB F=>ah [a,b,c] (S v0) v1 v2 v1 (S v0) v2 rfl (a8 B) F
theorem OJ{b:Nat}:b=16777216->a<2^20->a<=b:=λB F=>ah [a,b] v0 v1 (N 16777216) v1 (S v0) (N 1048576) rfl (a8 B.symm) F
theorem QC{b:Nat}:a=b->b<=(2:Nat)^20->(↑a:Int)<(2:Int)^63:=λh k=>q9.mpr (d9 (h▸k) (by decide:2^20<2^63))
theorem QD{b:Nat}:a=b->b<=(2:Nat)^21->(↑a:Int)<(2:Int)^63:=λh k=>q9.mpr (d9 (h▸k) (by decide:2^21<2^63))
theorem QE{a:Int}:a<(0:Int)->-a=(↑a.natAbs:Int):=λh=>(Int.ofNat_natAbs_of_nonpos (P8 h)).symm
theorem QF{a:Int}:¬a<(0:Int)->a=(↑a.natAbs:Int):=λh=>(Int.natAbs_of_nonneg (I8.mp h)).symm
theorem QG{a:Int}:(0:Int)<=a->a<(10:Int)->a.natAbs<(10:Nat):=λh k=>(Int.natAbs_lt_natAbs_of_nonneg_of_lt h k)
theorem QH{b:Nat}:a=b->b<=16384->a<=16384:=λB F=>ah [a,b] v0 (N 16384) v0 v1 v1 (N 16384) rfl (a8 B) F
theorem QI{a:Int}:(0:Int)<=a->a-(0:Int)=(↑a.toNat:Int):=λh=>by rw[Int.sub_zero,Int.toNat_of_nonneg h]
theorem QJ{a:Int}:¬(0:Int)<a->(0:Int)=(↑a.toNat:Int):=λh=>j6 Int.ofNat (Int.toNat_of_nonpos (I8.mp h)).symm
theorem QK{a:Int}:(0:Int)<=a->a<=(1000:Int)->(((-9223372036854775808:Int)<=a/\a<(9223372036854775808:Int))/\(-9223372036854775808:Int)<=max a (0:Int)/\max a (0:Int)<(9223372036854775808:Int))/\(max a (0:Int)=(0:Int)\/(-9223372036854775808:Int)<=a/\a<(9223372036854775808:Int)):=λh k=>have b:=And.intro (N0 (by decide) h) (y8 k (by decide));(Int.max_eq_left h).symm▸⟨⟨b,b⟩,.inr b⟩
theorem QL:(0:Int)+(↑a:Int)*(1:Int)=(↑a:Int):=by rw[Int.zero_add,Int.mul_one]
theorem QM:a+1≠a:=λq0=>cP [a] (S v0) v0 rfl (a8 q0)
theorem QN{b:Nat}:b=1->a+2*(c+1)<990->a+b+2*c<990:=λB F=>ah [a,b,c] (S (A (A v0 v1) (M 2 v2))) (N 990) v1 (N 1) (S (A v0 (M 2 (S v2)))) (N 990) rfl (a8 B) F
theorem QO{b:Nat}:b=1->a+10*(c+1)<9700->a+b+10*c<9700:=λB F=>ah [a,b,c] (S (A (A v0 v1) (M 10 v2))) (N 9700) v1 (N 1) (S (A v0 (M 10 (S v2)))) (N 9700) rfl (a8 B) F
theorem OK{b:Nat}:a<=b->b<=a->a=b:=λB F=>f6 (ae [a,b] v0 v1 v0 v1 rfl B) (ae [a,b] v1 v0 v1 v0 rfl F)
theorem OL{b:Nat}:b<a->a-(b+1)<a-b:=λF=>(j0 (b+1) a).elim (λB=>ah [a,b,(a-(b+1)),(a-b)] (S v2) v3 v0 (A v3 v1) (A v2 (S v1)) v0 rfl (aH a b) (a8 (aU B))) (λB=>aG [a,b,(a-(b+1)),(a-b)] (S v2) v3 (S v1) v0 v0 (A v3 v1) v2 (N 0) rfl F (aH a b) (a8 (i7 B)))
theorem FL{b:Nat}:a<b->a+1<=b:=ae [a,b] (S v0) v1 (S v0) v1 rfl
theorem QP :8<=200:=by decide
theorem QQ:¬(¬a=2/\¬a=3)->a=2\/a=3:=λh=>(Decidable.em (a=2)).imp_right λq=>Decidable.byContradiction λz=>h ⟨q,z⟩
theorem OM{b:Nat}:a+2*(b+1)<990->a<1000:=ae [a,b] (S v0) (N 1000) (S (A v0 (M 2 (S v1)))) (N 990) rfl
theorem ON{b:Nat}:a+2*(b+1)<990->a+1+2*b<990:=ae [a,b] (S (A (S v0) (M 2 v1))) (N 990) (S (A v0 (M 2 (S v1)))) (N 990) rfl
theorem OO{b:Nat}:a+10*(b+1)<9700->a+3+10*b<9700:=ae [a,b] (S (A (A v0 (N 3)) (M 10 v1))) (N 9700) (S (A v0 (M 10 (S v1)))) (N 9700) rfl
theorem QR:a+2≠a+4:=λq0=>cP [a] (A v0 (N 4)) (A v0 (N 2)) rfl (a8 q0.symm)
theorem QS:a+3≠a+4:=λq0=>cP [a] (A v0 (N 4)) (A v0 (N 3)) rfl (a8 q0.symm)
theorem QT:a≠a+4:=λq0=>cP [a] (A v0 (N 4)) v0 rfl (a8 q0.symm)
theorem QU:a+1≠a+4:=λq0=>cP [a] (A v0 (N 4)) (S v0) rfl (a8 q0.symm)
theorem OP:a+2≠a+3:=λq0=>cP [a] (A v0 (N 3)) (A v0 (N 2)) rfl (a8 q0.symm)
theorem HE:a+2≠a:=λq0=>cP [a] (A v0 (N 2)) v0 rfl (a8 q0)
theorem HF:a+2≠a+1:=λq0=>cP [a] (A v0 (N 2)) (S v0) rfl (a8 q0)
theorem HG:a+3≠a:=λq0=>cP [a] (A v0 (N 3)) v0 rfl (a8 q0)
theorem HH:a+3≠a+1:=λq0=>cP [a] (A v0 (N 3)) (S v0) rfl (a8 q0)
theorem HI:a≠a+1:=λq0=>cP [a] (S v0) v0 rfl (a8 q0.symm)
theorem DP{b:Nat}:a<b->a≠b+4:=λB=>λq0=>be [a,b] (S v0) v1 (A v1 (N 4)) v0 rfl B (a8 q0.symm)
theorem DQ{b:Nat}:a<b->a≠b+3:=λB=>λq0=>be [a,b] (S v0) v1 (A v1 (N 3)) v0 rfl B (a8 q0.symm)
theorem Am{b:Nat}:a<b->a≠b:=λB=>λq0=>be [a,b] (S v0) v1 v1 v0 rfl B (a8 q0.symm)
theorem DR{b:Nat}:a<b->a≠b+1:=λB=>λq0=>be [a,b] (S v0) v1 (S v1) v0 rfl B (a8 q0.symm)
theorem HJ{b:Nat}:a<b->a≠b+c:=λB=>λq0=>be [a,b,c] (S v0) v1 (A v1 v2) v0 rfl B (a8 q0.symm)
theorem An:a<=a+3:=cj [a] v0 (A v0 (N 3))  rfl
theorem DS:a<=a+4:=cj [a] v0 (A v0 (N 4))  rfl
theorem DT:a<=a:=cj [a] v0 v0  rfl
theorem Ao:a<=a+1:=cj [a] v0 (S v0)  rfl
theorem HK:a+4≠a+3:=λq0=>cP [a] (A v0 (N 4)) (A v0 (N 3)) rfl (a8 q0)
theorem HL:a<=a+2:=cj [a] v0 (A v0 (N 2))  rfl
theorem HM:a≠a+3:=λq0=>cP [a] (A v0 (N 3)) v0 rfl (a8 q0.symm)
theorem HN:a+1≠a+3:=λq0=>cP [a] (A v0 (N 3)) (S v0) rfl (a8 q0.symm)
theorem HO{b:Nat}:c<b->a<=a+b-1-c:=λB=>aG [a,b,c,((a+b)-1),(((a+b)-1)-c)] v0 v4 (S v2) v1 (A v0 v1) (S v3) v3 (A v4 v2) rfl B (aH (a+b) 1) (aH ((a+b)-1) c)
theorem HP{b:Nat}:a<=c->c<b->a+b-1-c<b:=by omega
theorem HQ{b:Nat}:¬a≥b->a<=(a+b)/2/\(a+b)/2<b:=λB=>⟨g7 λq0=>eJ [a,b,((a+b)/2)] (S v0) v1 (A v0 v1) (S (M 2 v2)) (M 2 (S v2)) (M 2 v0) rfl (B7 B) (uZ (a+b)) (bY [a,b,((a+b)/2)] 2 (S v2) v0 q0),g7 λq0=>eJ [a,b,((a+b)/2)] (S v0) v1 (M 2 v2) (A v0 v1) (M 2 (S v1)) (M 2 (S v2)) rfl (B7 B) (uY (a+b)) (bY [a,b,((a+b)/2)] 2 (S v1) (S v2) q0)⟩
theorem HR{b:Nat}:a<b->a<b+c:=ae [a,b,c] (S v0) (A v1 v2) (S v0) v1 rfl
theorem Ap{b:Nat}:a<=b->a<b+1:=ae [a,b] (S v0) (S v1) v0 v1 rfl
theorem HS{b:Nat}:a<b->a<=b:=ae [a,b] v0 v1 (S v0) v1 rfl
theorem DU{b d e:Nat}:max b e<=i->a+i<d->a+min b c<d:=λB F=>aG [a,b,c,d,e,i,(max b e),(min b c)] (S (A v0 v7)) v3 v6 v5 (S (A v0 v5)) v3 (A v1 v7) (A v6 v1) rfl B F (dB [a,b,c,d,e,i,(max b e),(min b c)] v1 v6 v7 v1 (C1 b e) (u2 b c))
theorem DV{b d:Nat}:a=d+1->d+(b+1)<c->a+b<c:=λB F=>ah [a,b,c,d] (S (A v0 v1)) v2 v0 (S v3) (S (A v3 (S v1))) v2 rfl (a8 B) F
theorem HT{b d e:Nat}:max b d<=e->a+e<c->a+b<c:=λB F=>aG [a,b,c,d,e,(max b d)] (S (A v0 v1)) v2 v5 v4 (S (A v0 v4)) v2 v1 v5 rfl B F (C1 b d)
theorem HU:2<=a->a<2->False:=be [a] (N 2) v0 (S v0) (N 2) rfl
theorem HV:2<=a->0<a:=ae [a] (S (N 0)) v0 (N 2) v0 rfl
theorem HW{b:Nat}:b=c->a=b->0<c->0<a:=λB F G=>aG [a,b,c] (S (N 0)) v0 v2 v1 v1 v0 (S (N 0)) v2 rfl (a8 B.symm) (a8 F.symm) G
theorem HY{b:Nat}:a+9<b->a+8<b:=ae [a,b] (S (A v0 (N 8))) v1 (S (A v0 (N 9))) v1 rfl
theorem HZ:a+1<=8->a<=8:=ae [a] v0 (N 8) (S v0) (N 8) rfl
theorem Id{b:Nat}:a=b->2<=b->2<=a:=λB F=>ah [a,b] (N 2) v0 v1 v0 (N 2) v1 rfl (a8 B.symm) F
theorem Ih{b:Nat}:b<=8->a+9<c->a+b<c:=ah [a,b,c] (S (A v0 v1)) v2 v1 (N 8) (S (A v0 (N 9))) v2 rfl
theorem Aq :100<=16777216:=by decide
theorem DW{b:Nat}:100<=b->a<2->a<=b:=ah [a,b] v0 v1 (N 100) v1 (S v0) (N 2) rfl
theorem Ij{b:Nat}:a<2->a<=b+1:=ae [a,b] v0 (S v1) (S v0) (N 2) rfl
theorem Il{b:Nat}:a=c->c<64->100<=b->a<=b:=λB F G=>aG [a,b,c] v0 v1 v0 v2 (S v2) (N 64) (N 100) v1 rfl (a8 B) F G
theorem Ip{b:Nat}:b=a->b<2->a<2:=λB F=>ah [a,b] (S v0) (N 2) v0 v1 (S v1) (N 2) rfl (a8 B.symm) F
theorem Iq:¬a<2->2<=a:=λB=>ae [a] (N 2) v0 (N 2) v0 rfl (g7 B)
theorem Iu{b:Nat}:a=b->b<64->a<64:=λB F=>ah [a,b] (S v0) (N 64) v0 v1 (S v1) (N 64) rfl (a8 B) F
theorem Iw{b:Nat}:b=a->¬b<2->2<=a:=λB F=>ah [a,b] (N 2) v0 v1 v0 (N 2) v1 rfl (a8 B) (g7 F)
theorem Ix{b:Nat}:a+20<b->a+1+9<b:=ae [a,b] (S (A (S v0) (N 9))) v1 (S (A v0 (N 20))) v1 rfl
theorem Iy{b:Nat}:b=a->¬b<2->1<=a:=λB F=>ah [a,b] (N 1) v0 v1 v0 (N 2) v1 rfl (a8 B) (g7 F)
theorem DX{b:Nat}:a<b+1->a≠b->a<b:=λF G=>(q8 G).elim (λB=>ae [a,b] (S v0) v1 (S v0) v1 rfl B) (λB=>ah [a,b] (S v0) v1 (M 2 (S v0)) (M 2 (S v1)) (S v1) v0 rfl (bY [a,b] 2 (S v0) (S v1) F) B)
theorem Iz{b:Nat}:a-1<=b->a<=b+1:=λB=>ah [a,b,(a-1)] v0 (S v1) v2 v1 v0 (S v2) rfl B (aH a 1)
theorem Ar{b:Nat}:a<=b->a<=b+1:=ae [a,b] v0 (S v1) v0 v1 rfl
theorem wP{b:Nat}:a<=c->c<=b->a<=b:=ah [a,b,c] v0 v1 v0 v2 v2 v1 rfl
theorem IA{b:Nat}:a-c<=0->c<=b->a<=b:=λB F=>aG [a,b,c,(a-c)] v0 v1 v3 (N 0) v2 v1 v0 (A v3 v2) rfl B F (aH a c)
theorem IB{b:Nat}:b<=c->a<b->(a+b)/2<c:=λB F=>g7 λq0=>eJ [a,b,c,((a+b)/2)] (M 2 v1) (M 2 v2) (S v0) v1 (A (M 2 v3) (M 2 (S v2))) (A (A v0 v1) (M 2 (S v3))) rfl (bY [a,b,c,((a+b)/2)] 2 v1 v2 B) F (dB [a,b,c,((a+b)/2)] (M 2 v3) (A v0 v1) (M 2 (S v2)) (M 2 (S v3)) (uY (a+b)) (bY [a,b,c,((a+b)/2)] 2 (S v2) (S v3) q0))
theorem IC{b:Nat}:a<b->(a+b)/2+1<=b:=λB=>g7 λq0=>eJ [a,b,((a+b)/2)] (S v0) v1 (M 2 v2) (A v0 v1) (M 2 (S v1)) (M 2 (S v2)) rfl B (uY (a+b)) (bY [a,b,((a+b)/2)] 2 (S v1) (S v2) q0)
theorem ID{b:Nat}:a-b<=c+1->a-((b+a)/2+1)<=c:=λF=>(j0 (((b+a)/2)+1) a).elim (λB=>aG [a,b,c,(a-b),((b+a)/2),(a-(((b+a)/2)+1))] v5 v2 v3 (S v2) v0 (A v3 v1) (A (A v1 v0) (A (S v4) (A v5 (S v4)))) (A (S (M 2 v4)) (A v0 v0)) rfl F (aH a b) (dB [a,b,c,(a-b),((b+a)/2),(a-(((b+a)/2)+1))] (A v1 v0) (S (M 2 v4)) (A (S v4) (A v5 (S v4))) (A v0 v0) (uZ (b+a)) (dB [a,b,c,(a-b),((b+a)/2),(a-(((b+a)/2)+1))] (S v4) v0 (A v5 (S v4)) v0 B (a8 (aU B))))) (λB=>ae [a,b,c,(a-b),((b+a)/2),(a-(((b+a)/2)+1))] v5 v2 v5 (N 0) rfl (a8 (i7 B)))
theorem IE{b:Nat}:a<(b+c)/2+1->¬a=(b+c)/2->a<(b+c)/2:=λF G=>(q8 G).elim (λB=>ae [a,b,c,((b+c)/2)] (S v0) v3 (S v0) v3 rfl B) (λB=>ah [a,b,c,((b+c)/2)] (S v0) v3 (M 2 (S v0)) (M 2 (S v3)) (S v3) v0 rfl (bY [a,b,c,((b+c)/2)] 2 (S v0) (S v3) F) B)
theorem IF{b:Nat}:a<b->a<=(a+b)/2:=λB=>g7 λq0=>eJ [a,b,((a+b)/2)] (S v0) v1 (A v0 v1) (S (M 2 v2)) (M 2 (S v2)) (M 2 v0) rfl B (uZ (a+b)) (bY [a,b,((a+b)/2)] 2 (S v2) v0 q0)
theorem IG{b:Nat}:(a+b)/2<c->(a+b)/2<=c:=ae [a,b,c,((a+b)/2)] v3 v2 (S v3) v2 rfl
theorem II{b:Nat}:b-a<=c+1->(a+b)/2-a<=c:=by omega
theorem tv{b:Nat}:¬b<a->a<=b:=λB=>ae [a,b] v0 v1 v0 v1 rfl (g7 B)
theorem IJ{b:Nat}:(a+b)/2<=c->¬c=(a+b)/2->(a+b)/2<c:=λF G=>(q8 G).elim (λB=>ah [a,b,c,((a+b)/2)] (S v3) v2 (M 2 v3) (M 2 v2) (S v2) v3 rfl (bY [a,b,c,((a+b)/2)] 2 v3 v2 F) B) (λB=>ae [a,b,c,((a+b)/2)] (S v3) v2 (S v3) v2 rfl B)
theorem IK{b:Nat}:c<b->¬c<a->a<=b:=λB F=>ah [a,b,c] v0 v1 (S v2) v1 v0 v2 rfl B (g7 F)
theorem IL{b:Nat}:c<=b->¬c<a->a<=b:=λB F=>ah [a,b,c] v0 v1 v2 v1 v0 v2 rfl B (g7 F)
theorem IM:a-0<=a:=ae [a,(a-0)] v1 v0 v1 v0 rfl (A7 a 0)
theorem IN{b:Nat}:a<=b->b<a->False:=be [a,b] v0 v1 (S v1) v0 rfl
theorem As:a<a->False:=cP [a] (S v0) v0 rfl
theorem wQ{b:Nat}:a<b+1->a<=b:=ae [a,b] v0 v1 (S v0) (S v1) rfl
theorem IO:a+1<=a->False:=cP [a] (S v0) v0 rfl
theorem DY:a<a+1:=cj [a] (S v0) (S v0)  rfl
theorem IP{b:Nat}:a<b+1->b<a->False:=be [a,b] (S v0) (S v1) (S v1) v0 rfl
theorem DZ:a<0->False:=cP [a] (S v0) (N 0) rfl
theorem IR{b:Nat}:a<=b->a≠b->a<b:=λF G=>(q8 G).elim (λB=>ae [a,b] (S v0) v1 (S v0) v1 rfl B) (λB=>ah [a,b] (S v0) v1 (M 2 v0) (M 2 v1) (S v1) v0 rfl (bY [a,b] 2 v0 v1 F) B)
theorem Au{b:Nat}:a+1+b=a+b+1:=f6 (cj [a,b] (A (S v0) v1) (S (A v0 v1))  rfl ) (cj [a,b] (S (A v0 v1)) (A (S v0) v1)  rfl )
theorem IS{b:Nat}:b+1<=a->a>0:=ae [a,b] (S (N 0)) v0 (S v1) v0 rfl
theorem IT{b:Nat}:a+1<=b->a<=b-1:=λB=>ah [a,b,(b-1)] v0 v2 (S v0) v1 v1 (S v2) rfl B (aH b 1)
theorem Ea{b:Nat}:a+1+b=a+(b+1):=f6 (cj [a,b] (A (S v0) v1) (A v0 (S v1))  rfl ) (cj [a,b] (A v0 (S v1)) (A (S v0) v1)  rfl )
theorem IU{b:Nat}:a-1-b=a-(b+1):=by rw[Nat.sub_sub,Nat.add_comm]
theorem IV{b:Nat}:¬a-b-(a-b)>0:=(j0 b a).elim (λF=>(j0 (a-b) (a-b)).elim (λB=>λq0=>be [a,b,(a-b),((a-b)-(a-b))] (A v3 v2) v2 (S (N 0)) v3 rfl (a8 (aU B)) q0) (λB=>λq0=>be [a,b,(a-b),((a-b)-(a-b))] v3 (N 0) (S (N 0)) v3 rfl (a8 (i7 B)) q0)) (λF=>λq0=>eJ [a,b,(a-b),((a-b)-(a-b))] v3 v2 v2 (N 0) (S (N 0)) v3 rfl (A7 (a-b) (a-b)) (a8 (i7 F)) q0)
theorem IW{b:Nat}:a+9<=b->a+9-a<=9/\(a<=b->a+9<=b)/\a<=a+9:=λh=>⟨by rw[Nat.add_sub_cancel_left];decide,λ_=>h,m9 a 9⟩
theorem IX{b:Nat}:a-a<=9/\(a<=b->a<=b)/\a<=a:=⟨by rw[Nat.sub_self];decide,id,f7 a⟩
theorem IZ{b d:Nat}:a-b<=9->c<=10*d->a-b+1+c<=10*(d+1):=ah [a,b,c,d,(a-b)] (A (S v4) v2) (M 10 (S v3)) v4 (N 9) v2 (M 10 v3) rfl
theorem Ja{b:Nat}:a<=c->a-b<=c:=λB=>ah [a,b,c,(a-b)] v3 v2 v0 v2 v3 v0 rfl B (A7 a b)
theorem Jb{b:Nat}:a<=b->a+(b-a)=b:=λF=>(j0 a b).elim (λB=>f6 (ae [a,b,(b-a)] (A v0 v2) v1 (A v2 v0) v1 rfl (a8 (aU B))) (ae [a,b,(b-a)] v1 (A v0 v2) v1 (A v2 v0) rfl (aH b a))) (λB=>f6 (ah [a,b,(b-a)] (A v0 v2) v1 v0 v1 v2 (N 0) rfl F (a8 (i7 B))) (ae [a,b,(b-a)] v1 (A v0 v2) v1 v0 rfl B))
theorem Jc{b:Nat}:¬c<=b->a+1+b-c<=a:=λF=>(j0 c ((a+1)+b)).elim (λB=>ah [a,b,c,(((a+1)+b)-c)] v3 v0 (S v1) v2 (A v3 v2) (A (S v0) v1) rfl (B7 F) (a8 (aU B))) (λB=>ae [a,b,c,(((a+1)+b)-c)] v3 v0 v3 (N 0) rfl (a8 (i7 B)))
theorem Jd{b:Nat}:a<=b->a+(b+1+c-a)=b+1+c:=λF=>(j0 a ((b+1)+c)).elim (λB=>f6 (ae [a,b,c,(((b+1)+c)-a)] (A v0 v3) (A (S v1) v2) (A v3 v0) (A (S v1) v2) rfl (a8 (aU B))) (ae [a,b,c,(((b+1)+c)-a)] (A (S v1) v2) (A v0 v3) (A (S v1) v2) (A v3 v0) rfl (aH ((b+1)+c) a))) (λB=>f6 (ah [a,b,c,(((b+1)+c)-a)] (A v0 v3) (A (S v1) v2) v0 v1 v3 (N 0) rfl F (a8 (i7 B))) (ae [a,b,c,(((b+1)+c)-a)] (A (S v1) v2) (A v0 v3) (A (S v1) v2) v0 rfl B))
theorem Je{a:Int}:a<(2:Int)^64->a.toNat<(2:Nat)^64:=λh=>(Int.toNat_lt' (by decide)).mpr h
theorem Jf{b:Nat}:a<=b->13+a<=13+b:=ae [a,b] (A (N 13) v0) (A (N 13) v1) v0 v1 rfl
theorem Jg{b:Nat}:a<=10*c->c<=13+b->a<10*(b+15):=λB F=>ah [a,b,c] (S v0) (M 10 (A v1 (N 15))) v0 (M 10 v2) (M 10 v2) (M 10 (A (N 13) v1)) rfl B (bY [a,b,c] 10 v2 (A (N 13) v1) F)
theorem Jh{b:Nat}:a+1<=b+1->a<=b+1:=ae [a,b] v0 (S v1) (S v0) (S v1) rfl
theorem tw{b:Nat}:a<b->a<b+1:=ae [a,b] (S v0) (S v1) (S v0) v1 rfl
theorem Ji{b:Nat}:a<=b-1->0<b->a+1<=b:=λF G=>(j0 1 b).elim (λB=>ah [a,b,(b-1)] (S v0) v1 v0 v2 (S v2) v1 rfl F (a8 (aU B))) (λB=>aG [a,b,(b-1)] (S v0) v1 v0 v2 (S (N 0)) v1 v2 (N 0) rfl F G (a8 (i7 B)))
theorem Eb{b:Nat}:a+1<=b->b<=a->False:=be [a,b] (S v0) v1 v1 v0 rfl
theorem Jj:0<a+1:=cj [a] (S (N 0)) (S v0)  rfl
theorem Av{b:Nat}:a+1<b+1->a<b:=ae [a,b] (S v0) v1 (S (S v0)) (S v1) rfl
theorem Jk{b:Nat}:a<b->a+1<b+1:=ae [a,b] (S (S v0)) (S v1) (S v0) v1 rfl
theorem Jl{b:Nat}:a<=b->min a b=a:=λF=>(j0 a b).elim (λB=>f6 (ae [a,b,(min a b)] v2 v0 v2 v0 rfl (u2 a b)) (ae [a,b,(min a b)] v0 v2 v0 v2 rfl (a8 (K1 B).symm))) (λB=>f6 (ae [a,b,(min a b)] v2 v0 v2 v0 rfl (u2 a b)) (ah [a,b,(min a b)] v0 v2 v0 v1 v1 v2 rfl F (a8 (E2 B).symm)))
theorem Jm{b:Nat}:¬a=b->¬a<b->¬a-b=0:=λF G=>(q8 F).elim (λB=>λq0=>be [a,b,(a-b)] v1 v0 (S v0) v1 rfl (g7 G) B) (λB=>λq0=>eJ [a,b,(a-b)] v0 (A v2 v1) (S v1) v0 v2 (N 0) rfl (aH a b) B (a8 q0))
theorem Jn{b:Nat}:¬b=a->¬b<a->a+(b-a-1)=b-1:=λB F=>by obtain⟨k,rfl⟩:=Nat.exists_eq_add_of_lt (Nat.lt_of_le_of_ne (g7 F) (K4 B));rw[Nat.add_assoc,Nat.add_sub_cancel_left,Nat.add_sub_cancel,<- Nat.add_assoc,Nat.add_sub_cancel]
theorem Jo{b:Nat}:min a b+(b-a+1)=b+1:=(j0 a b).elim (λF=>(j0 a b).elim (λB=>f6 (ah [a,b,(min a b),(b-a)] (A v2 (S v3)) (S v1) v2 v0 (A v3 v0) v1 rfl (u2 a b) (a8 (aU B))) (ah [a,b,(min a b),(b-a)] (S v1) (A v2 (S v3)) v1 (A v3 v0) v0 v2 rfl (aH b a) (a8 (K1 F).symm))) (λB=>f6 (ah [a,b,(min a b),(b-a)] (A v2 (S v3)) (S v1) v2 v1 v3 (N 0) rfl (B8 a b) (a8 (i7 B))) (ah [a,b,(min a b),(b-a)] (S v1) (A v2 (S v3)) v0 v2 v1 v0 rfl (a8 (K1 F).symm) B))) (λF=>(j0 a b).elim (λB=>f6 (ah [a,b,(min a b),(b-a)] (A v2 (S v3)) (S v1) v2 v0 (A v3 v0) v1 rfl (u2 a b) (a8 (aU B))) (ae [a,b,(min a b),(b-a)] (S v1) (A v2 (S v3)) v1 v2 rfl (a8 (E2 F).symm))) (λB=>f6 (ah [a,b,(min a b),(b-a)] (A v2 (S v3)) (S v1) v2 v1 v3 (N 0) rfl (B8 a b) (a8 (i7 B))) (ae [a,b,(min a b),(b-a)] (S v1) (A v2 (S v3)) v1 v2 rfl (a8 (E2 F).symm))))
theorem Jp:a*5<7*3->a<7:=λB=>g7 λq0=>be [a] (S (R v0 5)) (N 21) (M 3 (S (N 7))) (M 3 (S v0)) rfl B (bY [a] 3 (S (N 7)) (S v0) q0)
theorem Jq:a*5<31*3->a<31:=λB=>g7 λq0=>be [a] (S (R v0 5)) (N 93) (M 3 (S (N 31))) (M 3 (S v0)) rfl B (bY [a] 3 (S (N 31)) (S v0) q0)
theorem Jr:a*5<127*3->a<127:=λB=>g7 λq0=>be [a] (S (R v0 5)) (N 381) (M 3 (S (N 127))) (M 3 (S v0)) rfl B (bY [a] 3 (S (N 127)) (S v0) q0)
theorem Js{b:Nat}:b>0->a+b<=c->a+1+(b-1)<=c:=λG F=>(j0 1 b).elim (λB=>ah [a,b,c,(b-1)] (A (S v0) v3) v2 (A v0 v1) v2 (S v3) v1 rfl F (a8 (aU B))) (λB=>aG [a,b,c,(b-1)] (A (S v0) v3) v2 (S (N 0)) v1 (A v0 v1) v2 v3 (N 0) rfl G F (a8 (i7 B)))
theorem Ec{b:Nat}:(a<=c->b<=c)->a<=c->a+(b-a)<=c:=λh q=>(j0 a b).elim (λz=>by rw[Nat.add_sub_cancel' z];exact h q) (λz=>by rw[Nat.sub_eq_zero_of_le z];exact q)
theorem Ed{b d:Nat}:d<=c->b<d+1-a->a+b<c+1:=λG F=>(j0 a (d+1)).elim (λB=>aG [a,b,c,d,((d+1)-a)] (S (A v0 v1)) (S v2) v3 v2 (S v1) v4 (A v4 v0) (S v3) rfl G F (a8 (aU B))) (λB=>g7 λq0=>be [a,b,c,d,((d+1)-a)] (S v1) v4 v4 (N 0) rfl F (a8 (i7 B)))
theorem Ee{b:Nat}:a<b+1-c->a<=b-c:=λF=>(j0 c (b+1)).elim (λB=>aG [a,b,c,((b+1)-c),(b-c)] v0 v4 (S v0) v3 v1 (A v4 v2) (A v3 v2) (S v1) rfl F (aH b c) (a8 (aU B))) (λB=>ah [a,b,c,((b+1)-c),(b-c)] v0 v4 (S v0) v3 v3 (N 0) rfl F (a8 (i7 B)))
theorem Jt{b d:Nat}:d<=c->b<d+1-a->a+b<=c:=λG F=>(j0 a (d+1)).elim (λB=>aG [a,b,c,d,((d+1)-a)] (A v0 v1) v2 v3 v2 (S v1) v4 (A v4 v0) (S v3) rfl G F (a8 (aU B))) (λB=>g7 λq0=>be [a,b,c,d,((d+1)-a)] (S v1) v4 v4 (N 0) rfl F (a8 (i7 B)))
theorem Ju{b d:Nat}:a<d->d<b+1-c->a<b+1-c:=ah [a,b,c,d,((b+1)-c)] (S v0) v4 (S v0) v3 (S v3) v4 rfl
theorem Ef{b:Nat}:b<=a->0<a+1-b:=λB=>ah [a,b,((a+1)-b)] (S (N 0)) v2 v1 v0 (S v0) (A v2 v1) rfl B (aH (a+1) b)
theorem Eg{b:Nat}:c<=b->a<b-c+1->a<b+1-c:=λG F=>(j0 c b).elim (λB=>aG [a,b,c,(b-c),((b+1)-c)] (S v0) v4 (S v0) (S v3) (S v1) (A v4 v2) (A v3 v2) v1 rfl F (aH (b+1) c) (a8 (aU B))) (λB=>aG [a,b,c,(b-c),((b+1)-c)] (S v0) v4 v2 v1 (S v0) (S v3) (A (S v1) v3) (A (A v4 v2) (N 0)) rfl G F (dB [a,b,c,(b-c),((b+1)-c)] (S v1) (A v4 v2) v3 (N 0) (aH (b+1) c) (a8 (i7 B))))
theorem Jv{b:Nat}:¬a<b-c+1->a=b-c+1+(a-(b-c+1)):=λF=>(j0 c b).elim (λG=>(j0 ((b-c)+1) a).elim (λB=>f6 (ae [a,b,c,(b-c),(a-((b-c)+1))] v0 (A (S v3) v4) v0 (A v4 (S v3)) rfl (aH a ((b-c)+1))) (ae [a,b,c,(b-c),(a-((b-c)+1))] (A (S v3) v4) v0 (A v4 (S v3)) v0 rfl (a8 (aU B)))) (λB=>f6 (ae [a,b,c,(b-c),(a-((b-c)+1))] v0 (A (S v3) v4) v0 (S v3) rfl B) (ah [a,b,c,(b-c),(a-((b-c)+1))] (A (S v3) v4) v0 (S v3) v0 v4 (N 0) rfl (g7 F) (a8 (i7 B))))) (λG=>(j0 ((b-c)+1) a).elim (λB=>f6 (ae [a,b,c,(b-c),(a-((b-c)+1))] v0 (A (S v3) v4) v0 (A v4 (S v3)) rfl (aH a ((b-c)+1))) (ae [a,b,c,(b-c),(a-((b-c)+1))] (A (S v3) v4) v0 (A v4 (S v3)) v0 rfl (a8 (aU B)))) (λB=>f6 (ae [a,b,c,(b-c),(a-((b-c)+1))] v0 (A (S v3) v4) v0 (S v3) rfl B) (ah [a,b,c,(b-c),(a-((b-c)+1))] (A (S v3) v4) v0 (S v3) v0 v4 (N 0) rfl (g7 F) (a8 (i7 B)))))
theorem Jw{b d:Nat}:a=b-c+1+(a-(b-c+1))->a<b-c+1+d->a-(b-c+1)<d:=λB F=>ah [a,b,c,d,(b-c),(a-((b-c)+1))] (S v5) v3 (A (S v4) v5) v0 (S v0) (A (S v4) v3) rfl (a8 B.symm) F
theorem Jx{b:Nat}:c<=b->a<c->a<=b:=ah [a,b,c] v0 v1 v2 v1 (S v0) v2 rfl
theorem Jy{b:Nat}:a<=13+b->a<b+15:=ae [a,b] (S v0) (A v1 (N 15)) v0 (A (N 13) v1) rfl
theorem wR{b:Nat}:a<b+1->¬a=b->a<b:=λF G=>(q8 G).elim (λB=>ae [a,b] (S v0) v1 (S v0) v1 rfl B) (λB=>ah [a,b] (S v0) v1 (M 2 (S v0)) (M 2 (S v1)) (S v1) v0 rfl (bY [a,b] 2 (S v0) (S v1) F) B)
theorem Jz{b:Nat}:c=a->c=b->a=b:=λB F=>f6 (ah [a,b,c] v0 v1 v0 v2 v2 v1 rfl (a8 B.symm) (a8 F)) (ah [a,b,c] v1 v0 v2 v0 v1 v2 rfl (a8 B) (a8 F.symm))
theorem JA{b:Nat}:a=c->¬b<c->a<=b:=λB F=>ah [a,b,c] v0 v1 v0 v2 v2 v1 rfl (a8 B) (g7 F)
theorem tx{b:Nat}:a=b->a<b->False:=λB F=>be [a,b] v1 v0 (S v0) v1 rfl (a8 B.symm) F
theorem JB:a<=64->¬a>50000:=λB=>λq0=>be [a] v0 (N 64) (S (N 50000)) v0 rfl B q0
theorem JC:a*5≥7*3->(a-1)*5<7*3->a=5:=λB F=>f6 (g7 λq0=>eJ [a,(a-1)] (S (R v1 5)) (N 21) (M 5 v0) (M 5 (S v1)) (M 5 (S (N 5))) (M 5 v0) rfl F (bY [a,(a-1)] 5 v0 (S v1) (aH a 1)) (bY [a,(a-1)] 5 (S (N 5)) v0 q0)) (g7 λq0=>be [a,(a-1)] (N 21) (R v0 5) (M 5 (S v0)) (M 5 (N 5)) rfl B (bY [a,(a-1)] 5 (S v0) (N 5) q0))
theorem JE :5*5<31*3:=by decide
theorem JF:a*5≥31*3->(a-1)*5<31*3->a=19:=λB F=>f6 (g7 λq0=>eJ [a,(a-1)] (S (R v1 5)) (N 93) (M 5 v0) (M 5 (S v1)) (M 5 (S (N 19))) (M 5 v0) rfl F (bY [a,(a-1)] 5 v0 (S v1) (aH a 1)) (bY [a,(a-1)] 5 (S (N 19)) v0 q0)) (g7 λq0=>be [a,(a-1)] (N 93) (R v0 5) (M 5 (S v0)) (M 5 (N 19)) rfl B (bY [a,(a-1)] 5 (S v0) (N 19) q0))
theorem JG :19*5<127*3:=by decide
theorem JH:a*5≥127*3->a<=64->False:=λB F=>be [a] (N 381) (R v0 5) (M 5 v0) (M 5 (N 64)) rfl B (bY [a] 5 v0 (N 64) F)
theorem JI{b:Nat}:a*5≥b*3->a*5<7*3->b=7\/b=31\/b=127->False:=λh k z=>absurd (d9 h k) (by rcases z with rfl|rfl|rfl <;> decide)
theorem JJ:a*5<31*3->a<=31:=λB=>g7 λq0=>be [a] (S (R v0 5)) (N 93) (M 3 (S (N 31))) (M 3 v0) rfl B (bY [a] 3 (S (N 31)) v0 q0)
theorem JK:a*5<127*3->a<=127:=λB=>g7 λq0=>be [a] (S (R v0 5)) (N 381) (M 3 (S (N 127))) (M 3 v0) rfl B (bY [a] 3 (S (N 127)) v0 q0)
theorem JL:a<=128->a<=16777216:=ae [a] v0 (N 16777216) v0 (N 128) rfl
theorem JM{b d:Nat}:b<=8->a+9<d->a+min b c<d:=λB F=>aG [a,b,c,d,(min b c)] (S (A v0 v4)) v3 v1 (N 8) (S (A v0 (N 9))) v3 v4 v1 rfl B F (u2 b c)
theorem JN{b:Nat}:b<a->a-b-1<a:=λG=>(j0 b a).elim (λB=>(j0 1 (a-b)).elim (λF=>ah [a,b,(a-b),((a-b)-1)] (S v3) v0 (A v2 v1) v0 (S v3) v2 rfl (a8 (aU B)) (a8 (aU F))) (λF=>ah [a,b,(a-b),((a-b)-1)] (S v3) v0 (S v1) v0 v3 (N 0) rfl G (a8 (i7 F)))) (λB=>aG [a,b,(a-b),((a-b)-1)] (S v3) v0 (S v1) v0 v3 v2 v2 (N 0) rfl G (A7 (a-b) 1) (a8 (i7 B)))
theorem JO{b:Nat}:a<10*c->a-b-1<10*c:=λB=>aG [a,b,c,(a-b),((a-b)-1)] (S v4) (M 10 v2) (S v0) (M 10 v2) v3 v0 v4 v3 rfl B (A7 a b) (A7 (a-b) 1)
theorem JP{b:Nat}:a<c+1->b<a->a-b-1<c:=λF G=>(j0 1 (a-b)).elim (λB=>aG [a,b,c,(a-b),((a-b)-1)] (S v4) v2 (S v0) (S v2) v3 v0 (S v4) v3 rfl F (A7 a b) (a8 (aU B))) (λB=>aG [a,b,c,(a-b),((a-b)-1)] (S v4) v2 (S v0) (S v2) (S v1) v0 v4 (N 0) rfl F G (a8 (i7 B)))
theorem JQ{b:Nat}:a<b->a+1+(b-a-1)=b:=λG=>(j0 a b).elim (λB=>(j0 1 (b-a)).elim (λF=>f6 (ah [a,b,(b-a),((b-a)-1)] (A (S v0) v3) v1 (A v2 v0) v1 (S v3) v2 rfl (a8 (aU B)) (a8 (aU F))) (ah [a,b,(b-a),((b-a)-1)] v1 (A (S v0) v3) v1 (A v2 v0) v2 (S v3) rfl (aH b a) (aH (b-a) 1))) (λF=>f6 (ah [a,b,(b-a),((b-a)-1)] (A (S v0) v3) v1 (S v0) v1 v3 (N 0) rfl G (a8 (i7 F))) (ah [a,b,(b-a),((b-a)-1)] v1 (A (S v0) v3) v1 (A v2 v0) v2 (N 1) rfl (aH b a) F))) (λB=>f6 (aG [a,b,(b-a),((b-a)-1)] (A (S v0) v3) v1 (S v0) v1 v3 v2 v2 (N 0) rfl G (A7 (b-a) 1) (a8 (i7 B))) (ae [a,b,(b-a),((b-a)-1)] v1 (A (S v0) v3) v1 v0 rfl B))
theorem JR{b:Nat}:b<=c-a-1->a<c->a+1+b<=c:=λh k=>by rw[Nat.sub_sub]at h;exact Nat.add_le_of_le_sub' k h
theorem JS{b:Nat}:a<b+1+c->¬a=b->¬a<b->a-(b+1)<c:=λG J O=>(q8 J).elim (λB=>g7 λq0=>be [a,b,c,(a-(b+1))] v1 v0 (S v0) v1 rfl (g7 O) B) (λB=>(j0 (b+1) a).elim (λF=>ah [a,b,c,(a-(b+1))] (S v3) v2 (S v0) (A (S v1) v2) (A v3 (S v1)) v0 rfl G (a8 (aU F))) (λF=>aG [a,b,c,(a-(b+1))] (S v3) v2 (S v0) (A (S v1) v2) (S v1) v0 v3 (N 0) rfl G B (a8 (i7 F))))
theorem JT{b:Nat}:¬b=a->¬b<a->a+1+(b-(a+1))=b:=λG J=>(q8 G).elim (λB=>f6 (g7 λq0=>be [a,b,(b-(a+1))] v0 v1 (S v1) v0 rfl (g7 J) B) (ae [a,b,(b-(a+1))] v1 (A (S v0) v2) (S v1) v0 rfl B)) (λB=>(j0 (a+1) b).elim (λF=>f6 (ae [a,b,(b-(a+1))] (A (S v0) v2) v1 (A v2 (S v0)) v1 rfl (a8 (aU F))) (ae [a,b,(b-(a+1))] v1 (A (S v0) v2) v1 (A v2 (S v0)) rfl (aH b (a+1)))) (λF=>f6 (ah [a,b,(b-(a+1))] (A (S v0) v2) v1 (S v0) v1 v2 (N 0) rfl B (a8 (i7 F))) (ae [a,b,(b-(a+1))] v1 (A (S v0) v2) v1 (S v0) rfl F)))
theorem JU:a<=100->a<=16777216:=ae [a] v0 (N 16777216) v0 (N 100) rfl
theorem JV{b:Nat}:a<=b->¬a>b:=λB=>λq0=>be [a,b] v0 v1 (S v1) v0 rfl B q0
theorem JW:a<=64->a<=100:=ae [a] v0 (N 100) v0 (N 64) rfl
theorem JX{b:Nat}:10*b<=100000->a<10*b->a<100000:=ah [a,b] (S v0) (N 100000) (M 10 v1) (N 100000) (S v0) (M 10 v1) rfl
theorem Aw{b:Nat}:a=b+1->b<64->a<=100:=λB F=>ah [a,b] v0 (N 100) v0 (S v1) (S v1) (N 64) rfl (a8 B) F
theorem Eh{b:Nat}:a=b+1->b<64->a<=64:=λB F=>ah [a,b] v0 (N 64) v0 (S v1) (S v1) (N 64) rfl (a8 B) F
theorem JY{b:Nat}:a=c+1->(c+1)*5≥b*3->a*5≥b*3:=λB F=>ah [a,b,c] (R v1 3) (R v0 5) (M 5 (S v2)) (M 5 v0) (R v1 3) (R (S v2) 5) rfl (bY [a,b,c] 5 (S v2) v0 (a8 B.symm)) F
theorem Ei{b d e:Nat}:c=d->e<d->a=e+1->b=c->a<=b:=λB F G J=>aG [a,b,c,d,e] v0 v1 v3 v2 (S v4) v3 (A v0 v2) (A (S v4) v1) rfl (a8 B.symm) F (dB [a,b,c,d,e] v0 (S v4) v2 v1 (a8 G) (a8 J.symm))
theorem JZ{b:Nat}:¬(a+1)*5≥b*3->(a+1)*5<b*3:=λB=>ae [a,b] (S (R (S v0) 5)) (R v1 3) (S (R (S v0) 5)) (R v1 3) rfl (B7 B)
theorem Ka{a:Int}:a+(1:Int)=a->False:=λh=>Int.ne_of_gt (Int.lt_add_one_of_le (Int.le_refl a)) h
theorem Kb{b:Nat}:¬a*5≥b*3->a*5<b*3:=λB=>ae [a,b] (S (R v0 5)) (R v1 3) (S (R v0 5)) (R v1 3) rfl (B7 B)
theorem Kc{b:Nat}:b-a=0->a<=b->a=b:=λB F=>f6 (ae [a,b,(b-a)] v0 v1 v0 v1 rfl F) (ah [a,b,(b-a)] v1 v0 v2 (N 0) v1 (A v2 v0) rfl (a8 B) (aH b a))
theorem Kd{b:Nat}:b-a=c+1->a<b:=λF=>(j0 a b).elim (λB=>ah [a,b,c,(b-a)] (S v0) v1 (S v2) v3 (A v3 v0) v1 rfl (a8 F.symm) (a8 (aU B))) (λB=>g7 λq0=>be [a,b,c,(b-a)] (S v2) v3 v3 (N 0) rfl (a8 F.symm) (a8 (i7 B)))
theorem Ke{b d:Nat}:a=d+1->d+10<c->b<=8->a+b<c:=λB F G=>aG [a,b,c,d] (S (A v0 v1)) v2 v0 (S v3) (S (A v3 (N 10))) v2 v1 (N 8) rfl (a8 B) F G
theorem Kf{b d:Nat}:b=c->d<b->a<=d->c<64->a<64:=λB F G J=>aG [a,b,c,d] (S v0) (N 64) v1 v2 (S v3) v1 (A v0 (S v2)) (A v3 (N 64)) rfl (a8 B) F (dB [a,b,c,d] v0 v3 (S v2) (N 64) G J)
theorem Ej{b:Nat}:a-b=c+1->a-(b+1)=c:=λh=>by rw[<- Nat.sub_sub,h];rfl
theorem Kg{b:Nat}:a+30<b->a+1+1+10<b:=ae [a,b] (S (A (S (S v0)) (N 10))) v1 (S (A v0 (N 30))) v1 rfl
theorem Kh{b:Nat}:c=b->a<=c->a<=b:=λB F=>ah [a,b,c] v0 v1 v2 v1 v0 v2 rfl (a8 B) F
theorem Ki{b:Nat}:b+1=a->0<a:=λB=>ae [a,b] (S (N 0)) v0 (S v1) v0 rfl (a8 B)
theorem Ek{b:Nat}:a+1=b->a=b-1:=λF=>(j0 1 b).elim (λB=>f6 (ah [a,b,(b-1)] v0 v2 (S v0) v1 v1 (S v2) rfl (a8 F) (aH b 1)) (ah [a,b,(b-1)] v2 v0 v1 (S v0) (S v2) v1 rfl (a8 F.symm) (a8 (aU B)))) (λB=>f6 (ah [a,b,(b-1)] v0 v2 (S v0) v1 v1 (N 1) rfl (a8 F) B) (ae [a,b,(b-1)] v2 v0 v2 (N 0) rfl (a8 (i7 B))))
theorem Kj{b:Nat}:a+1<=b->a<b:=ae [a,b] (S v0) v1 (S v0) v1 rfl
theorem El{b:Nat}:a=b->a<=b:=λB=>ae [a,b] v0 v1 v0 v1 rfl (a8 B)
theorem En{b:Nat}:100<=b->a<=100->a<=b:=ah [a,b] v0 v1 (N 100) v1 v0 (N 100) rfl
theorem Eo{b:Nat}:a=c->c<=b->a<=b:=λB F=>ah [a,b,c] v0 v1 v0 v2 v2 v1 rfl (a8 B) F
theorem Ep{b:Nat}:a<=c->c<=b->a+1<=b+1:=ah [a,b,c] (S v0) (S v1) v0 v2 v2 v1 rfl
theorem Kk{b:Nat}:a+10*b<9700->a+1+20<9900:=ae [a,b] (S (A (S v0) (N 20))) (N 9900) (S (A v0 (M 10 v1))) (N 9700) rfl
theorem Kl{b:Nat}:a<=b->b<64->a<=100:=ah [a,b] v0 (N 100) v0 v1 (S v1) (N 64) rfl
theorem Km{b:Nat}:a+10*b<9700->a+30<9900:=ae [a,b] (S (A v0 (N 30))) (N 9900) (S (A v0 (M 10 v1))) (N 9700) rfl
theorem Ax:(0:Int)<=(↑a:Int):=u9 a
theorem ty :0<=8:=by decide
theorem Kn{b:Nat}:a+b<=c->c<=60->a<2^20:=ah [a,b,c] (S v0) (N 1048576) (A v0 v1) v2 v2 (N 60) rfl
theorem Ko{b:Nat}:a+(b+c)<2^20->a+b<2^20:=ae [a,b,c] (S (A v0 v1)) (N 1048576) (S (A v0 (A v1 v2))) (N 1048576) rfl
theorem Kp{b:Nat}:a+(b+c)<2^20->a+b+c<2^20:=ae [a,b,c] (S (A (A v0 v1) v2)) (N 1048576) (S (A v0 (A v1 v2))) (N 1048576) rfl
theorem Er:a<=60->a<=2097152:=ae [a] v0 (N 2097152) v0 (N 60) rfl
theorem Kq:a<=2->a<=1048576:=ae [a] v0 (N 1048576) v0 (N 2) rfl
theorem Kr :2<=2:=by decide
theorem wS:a+1<1048576->a<2^20:=ae [a] (S v0) (N 1048576) (S (S v0)) (N 1048576) rfl
theorem Ks{b:Nat}:b<=a->¬(↑a:Int)<(↑b:Int):=λh=>I8.mpr (N4.mpr h)
theorem Kt{b d:Nat}:a=b->b=c->a<=d->d<c->False:=λB F G J=>eJ [a,b,c,d] v1 v0 v2 v1 (A v0 (S v3)) (A v3 v2) rfl (a8 B.symm) (a8 F.symm) (dB [a,b,c,d] v0 v3 (S v3) v2 G J)
theorem tz{b:Nat}:a<=b->b<=60->a<=1048576:=ah [a,b] v0 (N 1048576) v0 v1 v1 (N 60) rfl
theorem Es{b:Nat}:a<=b->b<=60->a<64:=ah [a,b] (S v0) (N 64) v0 v1 v1 (N 60) rfl
theorem Et{b d:Nat}:a<=d->b<=c->a+b<=c+d:=ah [a,b,c,d] (A v0 v1) (A v2 v3) v0 v3 v1 v2 rfl
theorem Ku{b:Nat}:b=1+c->a+1<=a+b:=λB=>ae [a,b,c] (S v0) (A v0 v1) (A (N 1) v2) v1 rfl (a8 B.symm)
theorem Kv{b:Nat}:c=1+b->a+b<=a+c:=λB=>ae [a,b,c] (A v0 v1) (A v0 v2) (A (N 1) v1) v2 rfl (a8 B.symm)
theorem Kw{b d:Nat}:d=b+c->a+b+c<=a+d:=λB=>ae [a,b,c,d] (A (A v0 v1) v2) (A v0 v3) (A v1 v2) v3 rfl (a8 B.symm)
theorem Kx{b:Nat}:b<=c->a<=b->c<=60->a<=60:=aG [a,b,c] v0 (N 60) v1 v2 v0 v1 v2 (N 60) rfl
theorem Eu{b:Nat}:a=b->b<=2^18->a<=1048576:=λB F=>ah [a,b] v0 (N 1048576) v0 v1 v1 (N 262144) rfl (a8 B) F
theorem Ky{b d e:Nat}:c+(d+e)=i->b+(j+1)=k->k=d->a=c->i<=2^18->a+b<1048576:=λB F G J O=>aG [a,b,c,d,e,i,j,k] (S (A v0 v1)) (N 1048576) (A v2 (A v3 v4)) v5 (A v1 (S v6)) v7 (A v7 (A v0 v5)) (A v3 (A v2 (N 262144))) rfl (a8 B) (a8 F) (dB [a,b,c,d,e,i,j,k] v7 v3 (A v0 v5) (A v2 (N 262144)) (a8 G) (dB [a,b,c,d,e,i,j,k] v0 v2 v5 (N 262144) (a8 J) O))
theorem Ew:a<=60->a<=2^20:=ae [a] v0 (N 1048576) v0 (N 60) rfl
theorem iY{b:Nat}:¬a=b->¬(↑a:Int)=(↑b:Int):=λh e=>h (C6 e)
theorem Kz{b:Nat}:a+(b+1)<2^20->a<2^20:=ae [a,b] (S v0) (N 1048576) (S (A v0 (S v1))) (N 1048576) rfl
theorem KA{b:Nat}:a+(b+1)<2^20->a+1+b<1048576:=ae [a,b] (S (A (S v0) v1)) (N 1048576) (S (A v0 (S v1))) (N 1048576) rfl
theorem KB{b:Nat}:a<=c->b<=c->max a b<=c:=λF G=>(j0 a b).elim (λB=>ah [a,b,c,(max a b)] v3 v2 v1 v2 v3 v1 rfl G (a8 (I9 B))) (λB=>ah [a,b,c,(max a b)] v3 v2 v0 v2 v3 v0 rfl F (a8 (C2 B)))
theorem KC:a<=1->a+1<=2:=ae [a] (S v0) (N 2) v0 (N 1) rfl
theorem KD:a<=2->a<=8:=ae [a] v0 (N 8) v0 (N 2) rfl
theorem KE:4+a+1<=5+a:=cj [a] (S (A (N 4) v0)) (A (N 5) v0)  rfl
theorem KF:2<=4+a:=cj [a] (N 2) (A (N 4) v0)  rfl
theorem KG:a<60->0+a<=500:=ae [a] (A (N 0) v0) (N 500) (S v0) (N 60) rfl
theorem KH:a<60->0+a<=60:=ae [a] (A (N 0) v0) (N 60) (S v0) (N 60) rfl
theorem KJ{b:Nat}:b<=c->a=b->c<=2^18->a<=1048576:=λB F G=>aG [a,b,c] v0 (N 1048576) v1 v2 v0 v1 v2 (N 262144) rfl B (a8 F) G
theorem KK:a<64->a<=16384:=ae [a] v0 (N 16384) (S v0) (N 64) rfl
theorem KL{b d:Nat}:d+(b+1)<=c->a<=d+1->a+b<=c:=ah [a,b,c,d] (A v0 v1) v2 (A v3 (S v1)) v2 v0 (S v3) rfl
theorem KM:5+a+1<=6+a:=cj [a] (S (A (N 5) v0)) (A (N 6) v0)  rfl
theorem KN:2<=5+a:=cj [a] (N 2) (A (N 5) v0)  rfl
theorem KP{b:Nat}:a<=b->b<=60->a<=60:=ah [a,b] v0 (N 60) v0 v1 v1 (N 60) rfl
theorem KQ:a<=60*64->a<1048576:=ae [a] (S v0) (N 1048576) v0 (N 3840) rfl
theorem KR:a<=64->a<=2^20:=ae [a] v0 (N 1048576) v0 (N 64) rfl
theorem KS:18<=18+a:=cj [a] (N 18) (A (N 18) v0)  rfl
theorem KT{b:Nat}:18<=a->b<18->a≠b:=λB F=>λq0=>eJ [a,b] (N 18) v0 (S v1) (N 18) v0 v1 rfl B F (a8 q0)
theorem KU{b:Nat}:(↑a:Int)=(↑b:Int)->a=b:=C6
theorem KV{b d:Nat}:max c d=b->min c d=a->¬c=d->a<b:=λF G J=>(q8 J).elim (λB=>aG [a,b,c,d,(max c d),(min c d)] (S v0) v1 v4 v1 v0 v5 (A v3 (A v5 (S v2))) (A v4 (A v2 v3)) rfl (a8 F) (a8 G.symm) (dB [a,b,c,d,(max c d),(min c d)] v3 v4 (A v5 (S v2)) (A v2 v3) (E1 c d) (dB [a,b,c,d,(max c d),(min c d)] v5 v2 (S v2) v3 (u2 c d) B))) (λB=>aG [a,b,c,d,(max c d),(min c d)] (S v0) v1 v4 v1 v0 v5 (A v2 (A v5 (S v3))) (A v4 (A v3 v2)) rfl (a8 F) (a8 G.symm) (dB [a,b,c,d,(max c d),(min c d)] v2 v4 (A v5 (S v3)) (A v3 v2) (C1 c d) (dB [a,b,c,d,(max c d),(min c d)] v5 v3 (S v3) v2 (B8 c d) B)))
theorem KW{b d:Nat}:max c d=a->c<b->d<b->a<b:=λF G J=>(j0 c d).elim (λB=>aG [a,b,c,d,(max c d)] (S v0) v1 v0 v4 (S v3) v1 v4 v3 rfl (a8 F.symm) J (a8 (I9 B))) (λB=>aG [a,b,c,d,(max c d)] (S v0) v1 v0 v4 (S v2) v1 v4 v2 rfl (a8 F.symm) G (a8 (C2 B)))
theorem KY{b:Nat}:a≠b->¬(↑a:Int)=(↑b:Int):=λh e=>h (C6 e)
theorem KZ{b d:Nat}:¬a=b->(↑a:Int)=(↑b:Int)->c=d:=λh q=>absurd (C6 q) h
theorem La{b:Nat}:a=b->a<=b+c:=λB=>ae [a,b,c] v0 (A v1 v2) v0 v1 rfl (a8 B)
theorem Lb{b:Nat}:a<=c->a<=b+c:=ae [a,b,c] v0 (A v1 v2) v0 v2 rfl
theorem Lc{b d:Nat}:b+a+200*c<=d+200*d->d<=60->a<2^19:=λB F=>ah [a,b,c,d] (S v0) (N 524288) (A (A v1 v0) (M 200 v2)) (A v3 (M 200 v3)) (M 201 v3) (M 201 (N 60)) rfl B (bY [a,b,c,d] 201 v3 (N 60) F)
theorem Ld{b:Nat}:17≠18+a+b:=λq0=>cP [a,b] (A (A (N 18) v0) v1) (N 17) rfl (a8 q0.symm)
theorem Ey{b:Nat}:16≠18+a+b:=λq0=>cP [a,b] (A (A (N 18) v0) v1) (N 16) rfl (a8 q0.symm)
theorem lL{b:Nat}:a<b->¬a=b:=λB=>λq0=>be [a,b] (S v0) v1 v1 v0 rfl B (a8 q0.symm)
theorem Le:0<a->a-1+1=a:=λF=>(j0 1 a).elim (λB=>f6 (ae [a,(a-1)] (S v1) v0 (S v1) v0 rfl (a8 (aU B))) (ae [a,(a-1)] v0 (S v1) v0 (S v1) rfl (aH a 1))) (λB=>f6 (ah [a,(a-1)] (S v1) v0 (S (N 0)) v0 v1 (N 0) rfl F (a8 (i7 B))) (ae [a,(a-1)] v0 (S v1) v0 (N 1) rfl B))
theorem Lf{b:Nat}:a+b=b+a:=f6 (cj [a,b] (A v0 v1) (A v1 v0)  rfl ) (cj [a,b] (A v1 v0) (A v0 v1)  rfl )
theorem Lg{b d:Nat}:b+c=d->a+b+c=a+d:=λB=>f6 (ae [a,b,c,d] (A (A v0 v1) v2) (A v0 v3) (A v1 v2) v3 rfl (a8 B)) (ae [a,b,c,d] (A v0 v3) (A (A v0 v1) v2) v3 (A v1 v2) rfl (a8 B.symm))
theorem Lh{b:Nat}:a+b+c=c+b+a:=f6 (cj [a,b,c] (A (A v0 v1) v2) (A (A v2 v1) v0)  rfl ) (cj [a,b,c] (A (A v2 v1) v0) (A (A v0 v1) v2)  rfl )
theorem Li{b d e:Nat}:b+c=d+e->a+b+c=a+d+e:=λB=>f6 (ae [a,b,c,d,e] (A (A v0 v1) v2) (A (A v0 v3) v4) (A v1 v2) (A v3 v4) rfl (a8 B)) (ae [a,b,c,d,e] (A (A v0 v3) v4) (A (A v0 v1) v2) (A v3 v4) (A v1 v2) rfl (a8 B.symm))
theorem Lj{b d:Nat}:c=d->c<=b->a<d->a<=b:=λB F G=>aG [a,b,c,d] v0 v1 v3 v2 v2 v1 (S v0) v3 rfl (a8 B.symm) F G
theorem Lk{b:Nat}:a=c->c<b->¬a=b:=λB F=>λq0=>eJ [a,b,c] v0 v2 (S v2) v1 v1 v0 rfl (a8 B) F (a8 q0.symm)
theorem Ll{b d e:Nat}:a+c=d+(c+e)->d+e=i->i<=2*b->a<=2*b:=λB F G=>aG [a,b,c,d,e,i] v0 (M 2 v1) (A v0 v2) (A v3 (A v2 v4)) (A v3 v4) v5 v5 (M 2 v1) rfl (a8 B) (a8 F) G
theorem Lm{b d e:Nat}:d+1=i->a+b+200*i<=e+200*e->c<=2*e->e<=60->a+(b+c)+200*d<=e+200*e:=λB F G J=>aG [a,b,c,d,e,i] (A (A v0 (A v1 v2)) (M 200 v3)) (A v4 (M 200 v4)) (M 200 (S v3)) (M 200 v5) (A (A v0 v1) (M 200 v5)) (A v4 (M 200 v4)) (A v2 (M 2 v4)) (A (M 2 v4) (M 2 (N 60))) rfl (bY [a,b,c,d,e,i] 200 (S v3) v5 (a8 B)) F (dB [a,b,c,d,e,i] v2 (M 2 v4) (M 2 v4) (M 2 (N 60)) G (bY [a,b,c,d,e,i] 2 v4 (N 60) J))
theorem Ln{b d e:Nat}:b+1=e->a+e<=c+d->a+1+b<=c+d:=λB F=>ah [a,b,c,d,e] (A (S v0) v1) (A v2 v3) (S v1) v4 (A v0 v4) (A v2 v3) rfl (a8 B) F
theorem Ez{b d:Nat}:b+1=d->a+d<=c->a+1+b<=c:=λB F=>ah [a,b,c,d] (A (S v0) v1) v2 (S v1) v3 (A v0 v3) v2 rfl (a8 B) F
theorem Lq{b d e:Nat}:e<=2*i->b=d+e->i<=60->a+1=c->a*1000+b<c*1000+d:=λB F G J=>by subst F J;rw[Nat.add_mul,Nat.add_assoc,Nat.one_mul,Nat.add_comm 1000 d];exact Nat.add_lt_add_left (Nat.add_lt_add_left (d9 (b8 B (y4 2 G)) (by decide)) d) _
theorem Lr{b d:Nat}:a+b+1+200*c<=d+200*d->a+1+b+200*c<=d+200*d:=ae [a,b,c,d] (A (A (S v0) v1) (M 200 v2)) (A v3 (M 200 v3)) (A (S (A v0 v1)) (M 200 v2)) (A v3 (M 200 v3)) rfl
theorem Lu{b d:Nat}:a+b+1+200*c<=d+200*d->d<=60->a<2^20:=λB F=>ah [a,b,c,d] (S v0) (N 1048576) (A (S (A v0 v1)) (M 200 v2)) (A v3 (M 200 v3)) (M 201 v3) (M 201 (N 60)) rfl B (bY [a,b,c,d] 201 v3 (N 60) F)
theorem Ay :2<=3:=by decide
theorem Lv{b d e:Nat}:e=b+1->a+e+200*c<=d+200*d->a+b+200*c<=d+200*d:=λB F=>ah [a,b,c,d,e] (A (A v0 v1) (M 200 v2)) (A v3 (M 200 v3)) (S v1) v4 (A (A v0 v4) (M 200 v2)) (A v3 (M 200 v3)) rfl (a8 B.symm) F
theorem Lw{b:Nat}:c=b+1->a*1000+b+1=a*1000+c:=λB=>f6 (ae [a,b,c] (S (A (R v0 1000) v1)) (A (R v0 1000) v2) (S v1) v2 rfl (a8 B.symm)) (ae [a,b,c] (A (R v0 1000) v2) (S (A (R v0 1000) v1)) v2 (S v1) rfl (a8 B))
theorem Ly{b d e:Nat}:e=b+1->a+e+200*c<=d+200*d->a+b+1+200*c<=d+200*d:=λB F=>ah [a,b,c,d,e] (A (S (A v0 v1)) (M 200 v2)) (A v3 (M 200 v3)) (S v1) v4 (A (A v0 v4) (M 200 v2)) (A v3 (M 200 v3)) rfl (a8 B.symm) F
theorem Lz{b d e:Nat}:a<c\/a=c/\d=e->c+1=b->a<b:=λh e=>e▸h.elim (λz=>I6 z) λz=>z.1▸y5 _
theorem LA{b d:Nat}:a+b<=c+d->a+b<=c+(d+1):=ae [a,b,c,d] (A v0 v1) (A v2 (S v3)) (A v0 v1) (A v2 v3) rfl
theorem LB{b d:Nat}:a+b<=c+d->a+1+b<=c+(d+1):=ae [a,b,c,d] (A (S v0) v1) (A v2 (S v3)) (A v0 v1) (A v2 v3) rfl
theorem LC{b:Nat}:¬a=b->¬a<b->1<=a-b:=λF G=>(q8 F).elim (λB=>ah [a,b,(a-b)] (N 1) v2 v1 v0 (S v0) v1 rfl (g7 G) B) (λB=>ah [a,b,(a-b)] (N 1) v2 v0 (A v2 v1) (S v1) v0 rfl (aH a b) B)
theorem LD{b:Nat}:¬b=a->¬a=b:=λF=>(q8 F).elim (λB=>λq0=>be [a,b] (S v1) v0 v0 v1 rfl B (a8 q0)) (λB=>λq0=>be [a,b] (S v0) v1 v1 v0 rfl B (a8 q0.symm))
theorem LF:a<60->a+1<=60:=ae [a] (S v0) (N 60) (S v0) (N 60) rfl
theorem LG{b:Nat}:a<c->¬b<c->a<b:=λB F=>ah [a,b,c] (S v0) v1 (S v0) v2 v2 v1 rfl B (g7 F)
theorem LH{b:Nat}:b=a->a<=b:=λB=>ae [a,b] v0 v1 v0 v1 rfl (a8 B.symm)
theorem LJ{b:Nat}:a<c->c<b+1->¬a=b:=λB F=>λq0=>eJ [a,b,c] (S v0) v2 (S v2) (S v1) v1 v0 rfl B F (a8 q0.symm)
theorem LK{b:Nat}:a-c=0->c=b->¬a<b->a=b:=λB F G=>f6 (aG [a,b,c,(a-c)] v0 v1 v3 (N 0) v2 v1 v0 (A v3 v2) rfl (a8 B) (a8 F) (aH a c)) (ae [a,b,c,(a-c)] v1 v0 v1 v0 rfl (g7 G))
theorem LL{b:Nat}:a<c->¬b<c->¬a=b:=λB F=>λq0=>eJ [a,b,c] (S v0) v2 v2 v1 v1 v0 rfl B (g7 F) (a8 q0.symm)
theorem LM{b:Nat}:b=c->a<c->a≠b:=λB F=>λq0=>eJ [a,b,c] v2 v1 (S v0) v2 v1 v0 rfl (a8 B.symm) F (a8 q0.symm)
theorem LN{b:Nat}:a<=2*b->a<=2*(b+1):=ae [a,b] v0 (M 2 (S v1)) v0 (M 2 v1) rfl
theorem LP{b d:Nat}:a+b+200*c<=d+200*d->a+b+200*(c+1)<=d+1+200*(d+1):=ae [a,b,c,d] (A (A v0 v1) (M 200 (S v2))) (A (S v3) (M 200 (S v3))) (A (A v0 v1) (M 200 v2)) (A v3 (M 200 v3)) rfl
theorem LQ{b d:Nat}:a+b<=c+d->a+(b+1)<=c+1+d:=ae [a,b,c,d] (A v0 (S v1)) (A (S v2) v3) (A v0 v1) (A v2 v3) rfl
theorem Az{b:Nat}:a+b<=c->a+(b+1)<=c+1:=ae [a,b,c] (A v0 (S v1)) (S v2) (A v0 v1) v2 rfl
theorem LR{b:Nat}:a+(b+1)=a+b+1:=f6 (cj [a,b] (A v0 (S v1)) (S (A v0 v1))  rfl ) (cj [a,b] (S (A v0 v1)) (A v0 (S v1))  rfl )
theorem LS{b:Nat}:a<b->(↑a:Int)<(↑b:Int):=q9.mpr
theorem LU{b d:Nat}:a+b+200*c<=d+200*d->a+b+1+200*(c+1)<=d+1+200*(d+1):=ae [a,b,c,d] (A (S (A v0 v1)) (M 200 (S v2))) (A (S v3) (M 200 (S v3))) (A (A v0 v1) (M 200 v2)) (A v3 (M 200 v3)) rfl
theorem LV:a<=a/\a<=a+1:=⟨cj [a] v0 v0  rfl ,cj [a] v0 (S v0)  rfl ⟩
theorem LW{b d e:Nat}:b<=e+1->c<=e->e<=c+d->e<=b->a<b->a<b/\c<=b/\b<=c+(d+1):=λB F G J O=>⟨ae [a,b,c,d,e] (S v0) v1 (S v0) v1 rfl O,ah [a,b,c,d,e] v2 v1 v2 v4 v4 v1 rfl F J,ah [a,b,c,d,e] v1 (A v2 (S v3)) v1 (S v4) v4 (A v2 v3) rfl B G⟩
theorem LX{b d e:Nat}:i<=j+e->j<=i->b<=i+1->c<=j->j<=c+d->i<=b->a<b->a<b/\c<=b/\b<=c+(d+e+1):=λB F G J O P Q=>⟨ae [a,b,c,d,e,i,j] (S v0) v1 (S v0) v1 rfl Q,aG [a,b,c,d,e,i,j] v2 v1 v6 v5 v2 v6 v5 v1 rfl F J P,aG [a,b,c,d,e,i,j] v1 (A v2 (S (A v3 v4))) v5 (A v6 v4) v1 (S v5) v6 (A v2 v3) rfl B G O⟩
theorem LY{b:Nat}:b=1->a+b<=60->a<60:=λB F=>ah [a,b] (S v0) (N 60) (N 1) v1 (A v0 v1) (N 60) rfl (a8 B.symm) F
theorem LZ:5+1<=6+a:=cj [a] (S (N 5)) (A (N 6) v0)  rfl
theorem EA:6+a+1<=6+(a+1):=cj [a] (S (A (N 6) v0)) (A (N 6) (S v0))  rfl
theorem Ma{b:Nat}:c=b+1->a+c<=60->a+b<=60:=λB F=>ah [a,b,c] (A v0 v1) (N 60) (S v1) v2 (A v0 v2) (N 60) rfl (a8 B.symm) F
theorem Mb{b:Nat}:b+(c+1)<=60->a<=b+c->a<60:=ah [a,b,c] (S v0) (N 60) (A v1 (S v2)) (N 60) v0 (A v1 v2) rfl
theorem EB:5<=6+a:=cj [a] (N 5) (A (N 6) v0)  rfl
theorem Mc{b:Nat}:a+(b+c+1)<=60->a+b<=60:=ae [a,b,c] (A v0 v1) (N 60) (A v0 (S (A v1 v2))) (N 60) rfl
theorem Md{b d:Nat}:c+(d+b+1)<=60->a<=c+d->a+b<=60:=ah [a,b,c,d] (A v0 v1) (N 60) (A v2 (S (A v3 v1))) (N 60) v0 (A v2 v3) rfl
theorem Me{b d e:Nat}:b+(c+d+1)<=60->e<=b+c->a<=e+d->a<60:=aG [a,b,c,d,e] (S v0) (N 60) (A v1 (S (A v2 v3))) (N 60) v4 (A v1 v2) v0 (A v4 v3) rfl
theorem wT{b:Nat}:c<=b->a<c->a<b:=ah [a,b,c] (S v0) v1 v2 v1 (S v0) v2 rfl
theorem AA{b:Nat}:a<b->a<b:=ae [a,b] (S v0) v1 (S v0) v1 rfl
theorem EC{b:Nat}:a<b->b=0->False:=λB F=>be [a,b] (S v0) v1 v1 (N 0) rfl B (a8 F)
theorem Mf:(0:Nat)<a->(↑a:Int)≠(0:Int):=λh e=>E3 h (C6 e)
theorem ED:(0:Nat)<a->(0:Int)<(↑a:Int):=K0.mpr
theorem Mg{a:Int}{b:Nat}:(0:Int)<=a->a<(↑b:Int)->a.toNat<b:=λh q=>q9.mp (by rw[Int.toNat_of_nonneg h];exact q)
theorem Mh{a:Int}:(0:Int)<=a->a=(↑a.toNat:Int):=λh=>(P1 h).symm
theorem Mi{b:Nat}:b<a->(0:Int)<(↑a:Int):=λh=>K0.mpr (d9 (m6 _) h)
theorem Mj:a<(10000:Nat)->((5:Int)*(↑a:Int)).natAbs<(2:Nat)^60:=λh=>d9 (y4 5 (j7 h)) (show 5*10000<2^60 by decide)
theorem Ml{b:Nat}:((5:Int)*(↑b:Int)).natAbs<(2:Nat)^60->¬b<a->a<(2:Nat)^60:=λh q=>d9 (g7 q) (d9 (I4 b (show 0<5 by decide)) h)
theorem EE:a<(3:Nat)->(↑a:Int)<(3:Int):=λh=>q9.mpr h
theorem EF{b:Nat}:a+b<10000->a<10000:=ae [a,b] (S v0) (N 10000) (S (A v0 v1)) (N 10000) rfl
theorem Mm:a*2=a+a:=f6 (cj [a] (R v0 2) (A v0 v0)  rfl ) (cj [a] (A v0 v0) (R v0 2)  rfl )
theorem Mn:0<a->2<=a*2:=λB=>ae [a] (N 2) (R v0 2) (M 2 (S (N 0))) (M 2 v0) rfl (bY [a] 2 (S (N 0)) v0 B)
theorem Mo:(0:Int)<(↑(a+(1:Nat)):Int):=K0.mpr (u7 _)
theorem EG:1<=2+a:=cj [a] (N 1) (A (N 2) v0)  rfl
theorem Mp{b:Nat}:b=c+c->2<=c->a+b<10000->a+1<10000:=λB F G=>aG [a,b,c] (S (S v0)) (N 10000) (A v2 v2) v1 (N 2) v2 (S (A v0 v1)) (N 10000) rfl (a8 B.symm) F G
theorem Mq{b:Nat}:b=c+c->2<=c->a+1+1+1<=a+b:=λB F=>ah [a,b,c] (S (S (S v0))) (A v0 v1) (A v2 v2) v1 (M 2 (N 2)) (M 2 v2) rfl (a8 B.symm) (bY [a,b,c] 2 (N 2) v2 F)
theorem Mr:¬a=(0:Nat)->¬(↑a:Int)=(0:Int):=λh e=>h (C6 e)
theorem EH{b:Nat}:c=b+b->a+c<10000->2<=b->a+1+b<10000:=λB F G=>aG [a,b,c] (S (A (S v0) v1)) (N 10000) (A v1 v1) v2 (S (A v0 v2)) (N 10000) (N 2) v1 rfl (a8 B.symm) F G
theorem Ms{b d:Nat}:c=d+d->a+1<=b+1+d->2<=d->a+1<=b+c:=λB F G=>aG [a,b,c,d] (S v0) (A v1 v2) (A v3 v3) v2 (S v0) (A (S v1) v3) (N 2) v3 rfl (a8 B.symm) F G
theorem Mt:¬a<(3:Nat)->¬(↑a:Int)<(3:Int):=λh k=>h (q9.mp k)
theorem Mu{b d:Nat}:c+d<10000->d=b+b->a+1<=c+1+b->a+b<10000:=λB F G=>aG [a,b,c,d] (S (A v0 v1)) (N 10000) (S (A v2 v3)) (N 10000) (A v1 v1) v3 (S v0) (A (S v2) v1) rfl B (a8 F.symm) G
theorem Mw{b d e:Nat}:a+1<=d+e->d+1<=b+1+e->c=e+e->a+1<=b+c:=λB F G=>aG [a,b,c,d,e] (S v0) (A v1 v2) (S v0) (A v3 v4) (S v3) (A (S v1) v4) (A v4 v4) v2 rfl B F (a8 G.symm)
theorem AB{b:Nat}:a<=b->b<=60->a<2^20:=ah [a,b] (S v0) (N 1048576) v0 v1 v1 (N 60) rfl
theorem Mx{b:Nat}:b<=c->a=b->c<=60->a<=60:=λB F G=>aG [a,b,c] v0 (N 60) v1 v2 v0 v1 v2 (N 60) rfl B (a8 F) G
theorem My:a<=200->a<1048576:=ae [a] (S v0) (N 1048576) v0 (N 200) rfl
theorem MA{b:Nat}:¬a<b->¬(↑a:Int)<(↑b:Int):=λh k=>h (q9.mp k)
theorem MB{b:Nat}:b<a->¬a=b:=λB=>λq0=>be [a,b] (S v1) v0 v0 v1 rfl B (a8 q0)
theorem MC{b:Nat}:b<a->¬a<b:=λB=>λq0=>be [a,b] (S v1) v0 (S v0) v1 rfl B q0
theorem MD{b:Nat}:c=b->c<=a->a<=b->a=b:=λB F G=>f6 (ae [a,b,c] v0 v1 v0 v1 rfl G) (ah [a,b,c] v1 v0 v1 v2 v2 v0 rfl (a8 B.symm) F)
theorem EI:a<=60->a<=1048576:=ae [a] v0 (N 1048576) v0 (N 60) rfl
theorem MF{b:Nat}:b=a+c->b<=60->a<=60:=λB F=>ah [a,b,c] v0 (N 60) (A v0 v2) v1 v1 (N 60) rfl (a8 B.symm) F
theorem MG{b:Nat}:a<=0+b->b<60->a<=60:=ah [a,b] v0 (N 60) v0 (A (N 0) v1) (S v1) (N 60) rfl
theorem MH:a<=1->max 0 (max (a+1) 0)+1<=3:=λG=>(j0 (a+1) 0).elim (λB=>g7 λq0=>cP [a,(max (a+1) 0),(max 0 (max (a+1) 0))] (S v0) (N 0) rfl B) (λB=>(j0 0 (max (a+1) 0)).elim (λF=>aG [a,(max (a+1) 0),(max 0 (max (a+1) 0))] (S v2) (N 3) v0 (N 1) v1 (S v0) v2 v1 rfl G (a8 (C2 B)) (a8 (I9 F))) (λF=>ae [a,(max (a+1) 0),(max 0 (max (a+1) 0))] (S v2) (N 3) v2 (N 0) rfl (a8 (C2 F))))
theorem AC:a<2^19->a<=2^20:=ae [a] v0 (N 1048576) (S v0) (N 524288) rfl
theorem MI:a<2^19->a<1048576:=ae [a] (S v0) (N 1048576) (S v0) (N 524288) rfl
theorem MJ:a<=60->a<1048576:=ae [a] (S v0) (N 1048576) v0 (N 60) rfl
theorem MK:a<=60->a<=16384:=ae [a] v0 (N 16384) v0 (N 60) rfl
theorem ML:4<=a->2<=a:=ae [a] (N 2) v0 (N 4) v0 rfl
theorem MM{b d:Nat}:b=a+c->b<=d->d<=60->a<=60:=λB F G=>aG [a,b,c,d] v0 (N 60) (A v0 v2) v1 v1 v3 v3 (N 60) rfl (a8 B.symm) F G
theorem MN:a<=60->a<2^20:=ae [a] (S v0) (N 1048576) v0 (N 60) rfl
theorem MO{b:Nat}:a<=b->b<2^19->a<2^20:=ah [a,b] (S v0) (N 1048576) v0 v1 (S v1) (N 524288) rfl
theorem MP{b:Nat}:a=b->(↑a:Int)=(↑b:Int):=j6 _
theorem MQ:2<=a->1<=a:=ae [a] (N 1) v0 (N 2) v0 rfl
theorem MR{b:Nat}:a<=b->b<=60->0+a<2^20:=ah [a,b] (S (A (N 0) v0)) (N 1048576) v0 v1 v1 (N 60) rfl
theorem MT:a=(1:Nat)->(↑a:Int)=(1:Int):=j6 _
theorem MU:¬a=(1:Nat)->¬(↑a:Int)=(1:Int):=λh e=>h (C6 e)
theorem MV:a<=3->a<=8:=ae [a] v0 (N 8) v0 (N 3) rfl
theorem wU:a<64->a<2^19:=ae [a] (S v0) (N 524288) (S v0) (N 64) rfl
theorem MW{b d:Nat}:c<d->a=c->d<b->a<b:=λB F G=>aG [a,b,c,d] (S v0) v1 (S v2) v3 v0 v2 (S v3) v1 rfl B (a8 F) G
theorem MX{b d e:Nat}:c<d->e<d->a=e\/a=c->d<b->a<b:=λF G J B=>J.elim (λq=>q▸m4 G B) (λq=>q▸m4 F B)
theorem MZ{b:Nat}:a+b=c->a+(b+1)=c+1:=λB=>f6 (ae [a,b,c] (A v0 (S v1)) (S v2) (A v0 v1) v2 rfl (a8 B)) (ae [a,b,c] (S v2) (A v0 (S v1)) v2 (A v0 v1) rfl (a8 B.symm))
theorem Na{b:Nat}:a+b=c->a+1+b=c+1:=λB=>f6 (ae [a,b,c] (A (S v0) v1) (S v2) (A v0 v1) v2 rfl (a8 B)) (ae [a,b,c] (S v2) (A (S v0) v1) v2 (A v0 v1) rfl (a8 B.symm))
theorem Nb{b:Nat}:a=c->c<b->a<b:=λB F=>ah [a,b,c] (S v0) v1 v0 v2 (S v2) v1 rfl (a8 B) F
theorem Nc{b d:Nat}:a=c\/a=d->c<b->d<b->a<b:=λh B F=>h.elim (λq=>q▸B) (λq=>q▸F)
theorem Nf{b:Nat}:a-b=0->¬a<b->a=b:=λB F=>f6 (ah [a,b,(a-b)] v0 v1 v2 (N 0) v0 (A v2 v1) rfl (a8 B) (aH a b)) (ae [a,b,(a-b)] v1 v0 v1 v0 rfl (g7 F))
theorem Ng{b d e:Nat}:a<=c->b<=d->e<=i->a+b<=c+d+1/\e<=i:=λB F G=>⟨ah [a,b,c,d,e,i] (A v0 v1) (S (A v2 v3)) v0 v2 v1 v3 rfl B F,ae [a,b,c,d,e,i] v4 v5 v4 v5 rfl G⟩
theorem Nh{b d e:Nat}:a<=j+1->b<=k+0->e<=l+0->j<=c->k<=d->l<=i->a+b<=c+d+1/\e<=i:=λB F G J O P=>⟨aG [a,b,c,d,e,i,j,k,l] (A v0 v1) (S (A v2 v3)) v0 (S v6) v1 (A v7 (N 0)) (A v6 v7) (A v2 v3) rfl B F (dB [a,b,c,d,e,i,j,k,l] v6 v2 v7 v3 J O),ah [a,b,c,d,e,i,j,k,l] v4 v5 v4 (A v8 (N 0)) v8 v5 rfl G P⟩
theorem Ni{b d e m n p:Nat}:j<=k->l<=m->n<=p->a<=n+0->b<=j+1->e<=l+0->p<=c->k<=d->m<=i->a+b<=c+d+1/\e<=i:=λB F G J O P Q Y Z=>⟨aG [a,b,c,d,e,i,j,k,l,m,n,p] (A v0 v1) (S (A v2 v3)) v6 v7 Rc Pk (A v0 (A v1 (A Pk v7))) (A (A Rc (N 0)) (A (S v6) (A v2 v3))) rfl B G (dB [a,b,c,d,e,i,j,k,l,m,n,p] v0 (A Rc (N 0)) (A v1 (A Pk v7)) (A (S v6) (A v2 v3)) J (dB [a,b,c,d,e,i,j,k,l,m,n,p] v1 (S v6) (A Pk v7) (A v2 v3) O (dB [a,b,c,d,e,i,j,k,l,m,n,p] Pk v2 v7 v3 Q Y))),aG [a,b,c,d,e,i,j,k,l,m,n,p] v4 v5 v8 v9 v4 (A v8 (N 0)) v9 v5 rfl F P Z⟩
theorem Nj{b d e:Nat}:a<=b->c<=e->d<=i->a<=b/\c+d<=e+i+3\/a<=b+1/\c+d<=e+i+1:=λB F G=>.inl ⟨B,b8 (u0 F G) (m9 _ 3)⟩
theorem Nk{b d e:Nat}:a<=j+0->c<=k+1->d<=l+0->j<=b->k<=e->l<=i->a<=b+1/\c+d<=e+i+1:=λB F G J O P=>⟨ah [a,b,c,d,e,i,j,k,l] v0 (S v1) v0 (A v6 (N 0)) v6 v1 rfl B J,aG [a,b,c,d,e,i,j,k,l] (A v2 v3) (S (A v4 v5)) v2 (S v7) v3 (A v8 (N 0)) (A v7 v8) (A v4 v5) rfl F G (dB [a,b,c,d,e,i,j,k,l] v7 v4 v8 v5 O P)⟩
theorem Nl{b d e:Nat}:j+k<=e+i+1->a<=l+1->c<=j+0->d<=k+0->l<=b->a<=b+1/\c+d<=e+i+1:=λB F G J O=>⟨ah [a,b,c,d,e,i,j,k,l] v0 (S v1) v0 (S v8) v8 v1 rfl F O,aG [a,b,c,d,e,i,j,k,l] (A v2 v3) (S (A v4 v5)) (A v6 v7) (S (A v4 v5)) v2 (A v6 (N 0)) v3 (A v7 (N 0)) rfl B G J⟩
theorem Nm{b:Nat}:a=1->0<b->a+1<=b*2:=λB F=>ah [a,b] (S v0) (R v1 2) v0 (N 1) (M 2 (S (N 0))) (M 2 v1) rfl (a8 B) (bY [a,b] 2 (S (N 0)) v1 F)
theorem Nn{b:Nat}:a=c+1->c+1<=b->a+1<=b*2:=λB F=>ah [a,b,c] (S v0) (R v1 2) v0 (S v2) (M 2 (S v2)) (M 2 v1) rfl (a8 B) (bY [a,b,c] 2 (S v2) v1 F)
theorem Np{b d:Nat}:a=c+d+1->c+1<=b->d+1<=b->a+1<=b*2:=λB F G=>aG [a,b,c,d] (S v0) (R v1 2) v0 (S (A v2 v3)) (S v2) v1 (S v3) v1 rfl (a8 B) F G
theorem Nq{b:Nat}:a+b<=c->a+1+b<=c+1:=ae [a,b,c] (A (S v0) v1) (S v2) (A v0 v1) v2 rfl
theorem Nr{b d e:Nat}:a+b<=e+i+3->e+i<=3*c+d->a+b<=3*(c+1)+d:=ah [a,b,c,d,e,i] (A v0 v1) (A (M 3 (S v2)) v3) (A v0 v1) (A (A v4 v5) (N 3)) (A v4 v5) (A (M 3 v2) v3) rfl
theorem Nt{b:Nat}:a<=c+1->c<=b->a<=b+1:=ah [a,b,c] v0 (S v1) v0 (S v2) v2 v1 rfl
theorem Nu{b d e:Nat}:a+b<=e+i+1->e+i<=3*c+d->a+b<=3*c+(d+1):=ah [a,b,c,d,e,i] (A v0 v1) (A (M 3 v2) (S v3)) (A v0 v1) (S (A v4 v5)) (A v4 v5) (A (M 3 v2) v3) rfl
theorem Nv{b:Nat}:a+b<=c->c<=6->a<7:=ah [a,b,c] (S v0) (N 7) (A v0 v1) v2 v2 (N 6) rfl
theorem Nx{b:Nat}:b+a<=c->c<=6->a<7:=ah [a,b,c] (S v0) (N 7) (A v1 v0) v2 v2 (N 6) rfl
theorem Ny:a<=3->a<4:=ae [a] (S v0) (N 4) v0 (N 3) rfl
theorem Nz{b:Nat}:a+b<=c->c<=6->a+b<=6:=ah [a,b,c] (A v0 v1) (N 6) (A v0 v1) v2 v2 (N 6) rfl
theorem NA{b d:Nat}:b+d=a->d<=c->a<=b+c:=λB F=>ah [a,b,c,d] v0 (A v1 v2) v0 (A v1 v3) v3 v2 rfl (a8 B.symm) F
theorem NB{b d:Nat}:d+a<=3*b+c->a<=3*b+c-d:=λB=>ah [a,b,c,d,(((3*b)+c)-d)] v0 v4 (A v3 v0) (A (M 3 v1) v2) (A (M 3 v1) v2) (A v4 v3) rfl B (aH ((3*b)+c) d)
theorem NC{b d:Nat}:a+b+(c+d)=a+c+(b+d):=f6 (cj [a,b,c,d] (A (A v0 v1) (A v2 v3)) (A (A v0 v2) (A v1 v3))  rfl ) (cj [a,b,c,d] (A (A v0 v2) (A v1 v3)) (A (A v0 v1) (A v2 v3))  rfl )
theorem ND:a<=1->0+a<=1:=ae [a] (A (N 0) v0) (N 1) v0 (N 1) rfl
theorem NE:a+1=1+a:=f6 (cj [a] (S v0) (A (N 1) v0)  rfl ) (cj [a] (A (N 1) v0) (S v0)  rfl )
theorem NF{b:Nat}:a<=1->b<=c->a+b<=c+1:=ah [a,b,c] (A v0 v1) (S v2) v0 (N 1) v1 v2 rfl
theorem NG{b d:Nat}:a<=c->b<=d->a+b<=c+d:=ah [a,b,c,d] (A v0 v1) (A v2 v3) v0 v2 v1 v3 rfl
theorem NH{b:Nat}:a<=b->0+a<=b+c:=ae [a,b,c] (A (N 0) v0) (A v1 v2) v0 v1 rfl
theorem NI{b:Nat}:a+b=b+1*a:=f6 (cj [a,b] (A v0 v1) (A v1 (M 1 v0))  rfl ) (cj [a,b] (A v1 (M 1 v0)) (A v0 v1)  rfl )
theorem EJ{b:Nat}:b<=c->a<=b*1->c<64->a<64:=aG [a,b,c] (S v0) (N 64) v1 v2 v0 (R v1 1) (S v2) (N 64) rfl
theorem AD{b:Nat}:a<=b->b<64->a<64:=ah [a,b] (S v0) (N 64) v0 v1 (S v1) (N 64) rfl
theorem NJ{b:Nat}:b<=c->a<=b->c<64->a<64:=aG [a,b,c] (S v0) (N 64) v1 v2 v0 v1 (S v2) (N 64) rfl
theorem NK:a<=60->0+a<2^20:=ae [a] (S (A (N 0) v0)) (N 1048576) v0 (N 60) rfl
theorem NL:a+1<2^20->a<2^20:=ae [a] (S v0) (N 1048576) (S (S v0)) (N 1048576) rfl
theorem NM:4<=a->a=a-1+1:=λF=>(j0 1 a).elim (λB=>f6 (ae [a,(a-1)] v0 (S v1) v0 (S v1) rfl (aH a 1)) (ae [a,(a-1)] (S v1) v0 (S v1) v0 rfl (a8 (aU B)))) (λB=>f6 (ae [a,(a-1)] v0 (S v1) v0 (N 1) rfl B) (ah [a,(a-1)] (S v1) v0 (N 4) v0 v1 (N 0) rfl F (a8 (i7 B))))
theorem NO:4<=a->3<=a-1:=λB=>ah [a,(a-1)] (N 3) v1 (N 4) v0 v0 (S v1) rfl B (aH a 1)
theorem NP:a<=2->a<10000:=ae [a] (S v0) (N 10000) v0 (N 2) rfl
theorem NQ:8<=a->1<=a:=ae [a] (N 1) v0 (N 8) v0 rfl
theorem NR:(0:Int)<=(4:Int)+(↑a:Int):=u9 (4+a)
theorem NS:a<(3:Nat)->(4:Int)+(↑a:Int)<=(1000:Int):=λh=>N4.mpr (b8 (A8 (j7 h) 4) (by decide):4+a<=1000)
theorem NT:((4:Int)+(↑a:Int)).toNat=(4:Nat)+a:=rfl
theorem NU:a<=2->a+1<=10+8*0:=ae [a] (S v0) (A (N 10) (N 0)) v0 (N 2) rfl
theorem NV:8<=a->2+2<=a:=ae [a] (A (N 2) (N 2)) v0 (N 8) v0 rfl
theorem NW{b:Nat}:b+1+a=4+c->c<3->a<=5:=λB F=>ah [a,b,c] v0 (N 5) (A (S v1) v0) (A (N 4) v2) (S v2) (N 3) rfl (a8 B) F
theorem NX{b:Nat}:a+1+b=4+c->a+(b+1)=4+c:=λB=>f6 (ae [a,b,c] (A v0 (S v1)) (A (N 4) v2) (A (S v0) v1) (A (N 4) v2) rfl (a8 B)) (ae [a,b,c] (A (N 4) v2) (A v0 (S v1)) (A (N 4) v2) (A (S v0) v1) rfl (a8 B.symm))
theorem NY{b:Nat}:b<a->0<a:=ae [a,b] (S (N 0)) v0 (S v1) v0 rfl
theorem NZ{b:Nat}:a+1<=c+2^3->c<=10+8*b->a<=10+8*(b+1):=ah [a,b,c] v0 (A (N 10) (M 8 (S v1))) (S v0) (A v2 (N 8)) v2 (A (N 10) (M 8 v1)) rfl
theorem Oa{b:Nat}:a=4+b->4<=a:=λB=>ae [a,b] (N 4) v0 (A (N 4) v1) v0 rfl (a8 B.symm)
theorem Oc{b:Nat}:a=4+b->b<3->a<=6:=λB F=>ah [a,b] v0 (N 6) v0 (A (N 4) v1) (S v1) (N 3) rfl (a8 B) F
theorem Od:2<=a->a=a-1+1:=λF=>(j0 1 a).elim (λB=>f6 (ae [a,(a-1)] v0 (S v1) v0 (S v1) rfl (aH a 1)) (ae [a,(a-1)] (S v1) v0 (S v1) v0 rfl (a8 (aU B)))) (λB=>f6 (ae [a,(a-1)] v0 (S v1) v0 (N 1) rfl B) (ah [a,(a-1)] (S v1) v0 (N 2) v0 v1 (N 0) rfl F (a8 (i7 B))))
theorem Oe:2<=a->1<=a-1:=λB=>ah [a,(a-1)] (N 1) v1 (N 2) v0 v0 (S v1) rfl B (aH a 1)
theorem Of:a<10->a=0\/a=1\/a=2\/a=3\/a=4\/a=5\/a=6\/a=7\/a=8\/a=9:=λh=>(by decide:∀a,a<10->a=0\/a=1\/a=2\/a=3\/a=4\/a=5\/a=6\/a=7\/a=8\/a=9) a h
theorem Og:a<=68->a<10000:=ae [a] (S v0) (N 10000) v0 (N 68) rfl
theorem EK:9<=a->1<=a:=ae [a] (N 1) v0 (N 9) v0 rfl
theorem Oh:(0:Int)<=(1:Int)+(↑a:Int):=u9 (1+a)
theorem Oi:a<(3:Nat)->(1:Int)+(↑a:Int)<=(1000:Int):=λh=>N4.mpr (b8 (A8 (j7 h) 1) (by decide):1+a<=1000)
theorem Oj:((1:Int)+(↑a:Int)).toNat=(1:Nat)+a:=rfl
theorem Om :0<=3:=by decide
theorem On:a<=68->a+1<=70+2*0:=ae [a] (S v0) (A (N 70) (N 0)) v0 (N 68) rfl
theorem Oo{b:Nat}:a<1+b->b<3->a<10:=ah [a,b] (S v0) (N 10) (S v0) (A (N 1) v1) (S v1) (N 3) rfl
theorem wV:a<=60->a<64:=ae [a] (S v0) (N 64) v0 (N 60) rfl
theorem EL:9<=a->4<=a:=ae [a] (N 4) v0 (N 9) v0 rfl
theorem Op{b:Nat}:a<=70+2*b->b<=3->a<10000:=λB F=>ah [a,b] (S v0) (N 10000) v0 (A (N 70) (M 2 v1)) (M 2 v1) (M 2 (N 3)) rfl B (bY [a,b] 2 v1 (N 3) F)
theorem Oq:9<=a->2<=a:=ae [a] (N 2) v0 (N 9) v0 rfl
theorem Os{b:Nat}:a<=70+2*b->b<=3->a+1<10000:=λB F=>ah [a,b] (S (S v0)) (N 10000) v0 (A (N 70) (M 2 v1)) (M 2 v1) (M 2 (N 3)) rfl B (bY [a,b] 2 v1 (N 3) F)
theorem Ot:a<(10:Nat)->(↑a:Int)<(10:Int):=λh=>q9.mpr h
theorem Ou{b:Nat}:a=1->b<=10->a+b<=1000:=λB F=>ah [a,b] (A v0 v1) (N 1000) v0 (N 1) v1 (N 10) rfl (a8 B) F
theorem Ov{b:Nat}:a<=b->b<=3->a<100:=ah [a,b] (S v0) (N 100) v0 v1 v1 (N 3) rfl
theorem EM:9<=a->5<=a:=ae [a] (N 5) v0 (N 9) v0 rfl
theorem Ow{b:Nat}:b+1+a=1+c->c<3->a+1<=3:=λB F=>ah [a,b,c] (S v0) (N 3) (A (S v1) v0) (A (N 1) v2) (S v2) (N 3) rfl (a8 B) F
theorem Ox{b:Nat}:a<=70+2*b->a+1+1<=70+2*(b+1):=ae [a,b] (S (S v0)) (A (N 70) (M 2 (S v1))) v0 (A (N 70) (M 2 v1)) rfl
theorem Oy{b:Nat}:a+1+b=1+c->a+(b+1)=1+c:=λB=>f6 (ae [a,b,c] (A v0 (S v1)) (A (N 1) v2) (A (S v0) v1) (A (N 1) v2) rfl (a8 B)) (ae [a,b,c] (A (N 1) v2) (A v0 (S v1)) (A (N 1) v2) (A (S v0) v1) rfl (a8 B.symm))
theorem Oz{b:Nat}:a=c+1->c<=b->a<=b+1:=λB F=>ah [a,b,c] v0 (S v1) v0 (S v2) v2 v1 rfl (a8 B) F
theorem OA :0<10000:=by decide
theorem OB :1<=9:=by decide
theorem OC{b:Nat}:b=7->a<7->a<b:=λB F=>ah [a,b] (S v0) v1 (N 7) v1 (S v0) (N 7) rfl (a8 B.symm) F
theorem OD :0+1<=2:=by decide
theorem OE :5<=9:=by decide
theorem OF:4<=a->0<a:=ae [a] (S (N 0)) v0 (N 4) v0 rfl
theorem OG{b:Nat}:a<=10+8*b->b<=6->a<=70+2*0:=λB F=>ah [a,b] v0 (A (N 70) (N 0)) v0 (A (N 10) (M 8 v1)) (M 8 v1) (M 8 (N 6)) rfl B (bY [a,b] 8 v1 (N 6) F)
theorem OH{b:Nat}:a<=10+8*b->b<=6->a<=68:=λB F=>ah [a,b] v0 (N 68) v0 (A (N 10) (M 8 v1)) (M 8 v1) (M 8 (N 6)) rfl B (bY [a,b] 8 v1 (N 6) F)
theorem OI{b:Nat}:b=c->a=b->c=0->a<=0:=λB F G=>aG [a,b,c] v0 (N 0) v1 v2 v0 v1 v2 (N 0) rfl (a8 B) (a8 F) (a8 G)
end
variable{a c i k m j ep:Nat}{s s' s₀:Shared}{h h':Heap}{env:Env}{α β:Type}{E P:Value->Shared->Prop}{w:World}{prog:Program}{cv ck:Value}{es:Array (Int×Value)}{t:SetTable}{p xs:Array Nat}{pos ip:Pos}{tgt:Expr}{X':Addr->Prop}{o:Obj}{I ca dx it wk wd:Addr}{sc:Scope}{cs:List Int}{gens:List Comprehension}{as:List Nat}{cvs:List Value}{id:Str}{M:Model}
set_option compiler.extract_closed false in
local macro_rules
 | `(tactic| rewrite [$e:term,$r,*])=>`(tactic| (rewrite [$e:term]; rewrite [$r,*]))
 | `(tactic| rewrite [$e:term])=>`(tactic| first | with_reducible_and_instances refine Mine.rl ($e ..) ?_ | fail)
section
set_option genInjectivity true
theorem jD{a:α}{p:Prop}(h:none=some a):p:=ns h
inductive V where
 |none|scr|bool (b:Bool)|int (i:Int)|str (s:String)|tup (vs:List V)|ref (a:Addr)
end
variable{vs us ps:List V}{kvs:List (V×V)}{x:V}
section
set_option genCtorIdx false
set_option genCtorIdx true in
inductive BOp where|add|sub|mul|mod
set_option genCtorIdx true in
inductive COp where|eq|ne|lt|le|gt|is|isin|notin
set_option genCtorIdx true in
inductive Prim where|len|sum|max|abs|str|tuple|dict|sorted|sortedItems|sortedSet|sortedSetVals
mutual
inductive Tgt where
 |nm (x:String)
 |tp (ts:Tgts)
inductive Tgts where
 |nil
 |cons (t:Tgt) (ts:Tgts)
end
noncomputable abbrev Tgt.tp2(a b:Tgt):Tgt:=.tp (.cons a (.cons b .nil))
mutual
inductive ME where
 |cst (v:V)
 |var (x:String)
 |gvar (x:String)
 |tup (es:MEs)
 |lst (es:MEs)
 |dct (ks vs:MEs)
 |bin (op:BOp) (a b:ME)
 |cmp1 (op:COp) (a b:ME)
 |cmp2 (a:ME) (op1:COp) (b:ME) (op2:COp) (c:ME)
 |and2 (a b:ME)
 |or2 (a b:ME)
 |not1 (a:ME)
 |ite (c a b:ME)
 |idx (a i:ME)
 |slc (a:ME) (lo hi:Option Nat)
 |attr (a:ME) (f:String)
 |comp (elt:ME) (g:Gens)
 |dcomp (k v:ME) (g:Gens)
 |call (f:String) (args:MEs)
 |new (c:String) (args:MEs)
 |meth (o:ME) (m:String) (args:MEs)
 |prim (p:Prim) (a:ME)
inductive MEs where
 |nil
 |cons (e:ME) (r:MEs)
inductive Gens where
 |one (t:Tgt) (it:MIt) (c:Option ME)
 |more (t:Tgt) (it:MIt) (r:Gens)
inductive MIt where
 |exp (e:ME)
 |rng (e:ME)
 |zip (a b:ME)
end
inductive ATgt where
 |tg (t:Tgt)
 |at(o:ME) (f:String)
 |ix (o i:ME)
inductive MS where
 |expr (e:ME)
 |asg (t:ATgt) (e:ME)
 |ret (e:ME)
 |if1 (c:ME) (a b:List MS)
 |whl (c:ME) (b:List MS)
 |for1 (t:Tgt) (it:MIt) (b:List MS)
 |rais
structure MFun where
 params:List String
 body:List MS
end
variable{rest:List MS}{g:Gens}{args:MEs}
section
set_option genCtorIdx false
mutual
noncomputable def cZ:Tgt->List String
 | .nm x=>[x]
 | .tp ts=>rN ts
noncomputable def rN:Tgts->List String
 | .nil=>[]
 | .cons t ts=>cZ t++rN ts
end
noncomputable def dG:Gens->List String
 | .one t _ _=>cZ t
 | .more t _ r=>cZ t++dG r
end
section
set_option tactic.hygienic true
noncomputable def bL:List (String×Value):=[("len",.builtin "len"),("sum",.builtin "sum"),("max",.builtin "max"),("abs",.builtin "abs"),("int",.type "int"),("str",.type "str"),("tuple",.type "tuple"),("list",.type "list"),
 ("dict",.type "dict"),("sorted",.builtin "sorted"),("range",.type "range"),("set",.type "set"),("zip",.type "zip"),("enumerate",.type "enumerate")]
noncomputable def Rh:BOp->Operator
 | .add=>.Add | .sub=>.Sub | .mul=>.Mult | .mod=>.Mod
noncomputable def Hg:COp->CmpOp
 | .eq=>.Eq | .ne=>.NotEq | .lt=>.Lt | .le=>.LtE | .gt=>.Gt | .is=>.Is | .isin=>.In | .notin=>.NotIn
end
noncomputable abbrev aY:=List (Str×NameKind)
noncomputable def Pr(nm:aY)(x:String):Bool:=match nm.lookup (Str.ofString x)with
 |some .local=>true
 |some .cell=>true
 |some .free=>true
 |_=>false
noncomputable def Ho(nm:aY)(x:Str):Bool:=nm.lookup x==some .globalImplicit
noncomputable def ie(x:Str):Bool:=!(x==("__debug__":Str))&&!(x==("__classdict__":Str))
section
variable{A:Around}{d:Nat}
noncomputable def Hp(c:Bool)(nm:aY)(x:String):Bool:=nm.lookup (Str.ofString x)==some .local||(c&&nm.lookup (Str.ofString x)==some .cell)
end
variable{nm:aY}
noncomputable def dJ(e:Expr)(k:Str->Bool):Bool:=if h:e.ctorIdx=23 then Expr.Name.elim (motive_1:=λ_=>Bool) e h λid _=>k id else false
noncomputable def iE(e:Expr)(k:(List Expr)->Bool):Bool:=if h:e.ctorIdx=25 then Expr.Tuple.elim (motive_1:=λ_=>Bool) e h λes _ _=>k es else false
noncomputable def jp(e:Expr)(k:Const->Bool):Bool:=if h:e.ctorIdx=19 then Expr.Constant.elim (motive_1:=λ_=>Bool) e h λc _ _=>k c else false
noncomputable def qf(e:Expr)(k:UnaryOp->Expr->Bool):Bool:=if h:e.ctorIdx=3 then Expr.UnaryOp.elim (motive_1:=λ_=>Bool) e h λo x _=>k o x else false
noncomputable def AG(e:Expr)(k:(List Expr)->Bool):Bool:=if h:e.ctorIdx=24 then Expr.List.elim (motive_1:=λ_=>Bool) e h λes _=>k es else false
noncomputable def AF(e:Expr)(k:(List (Option Expr))->(List Expr)->Bool):Bool:=if h:e.ctorIdx=6 then Expr.Dict.elim (motive_1:=λ_=>Bool) e h λks vs _=>k ks vs else false
noncomputable def wW(e:Expr)(k:Expr->Operator->Expr->Bool):Bool:=if h:e.ctorIdx=2 then Expr.BinOp.elim (motive_1:=λ_=>Bool) e h λl o r _=>k l o r else false
noncomputable def kI(e:Expr)(k:Expr->(List CmpOp)->(List Expr)->Bool):Bool:=if h:e.ctorIdx=15 then Expr.Compare.elim (motive_1:=λ_=>Bool) e h λl os rs _=>k l os rs else false
noncomputable def oi(e:Expr)(k:BoolOp->(List Expr)->Bool):Bool:=if h:e.ctorIdx=0 then Expr.BoolOp.elim (motive_1:=λ_=>Bool) e h λo xs _=>k o xs else false
noncomputable def wX(e:Expr)(k:Expr->Expr->Expr->Bool):Bool:=if h:e.ctorIdx=5 then Expr.IfExp.elim (motive_1:=λ_=>Bool) e h λt x y _=>k t x y else false
noncomputable def fe(e:Expr)(k:Expr->Expr->Bool):Bool:=if h:e.ctorIdx=21 then Expr.Subscript.elim (motive_1:=λ_=>Bool) e h λo i _=>k o i else false
noncomputable def wZ(e:Expr)(k:(Option Expr)->(Option Expr)->(Option Expr)->Bool):Bool:=if h:e.ctorIdx=26 then Expr.Slice.elim (motive_1:=λ_=>Bool) e h λl u st _=>k l u st else false
noncomputable def fc(e:Expr)(k:Expr->Str->Pos->Bool):Bool:=if h:e.ctorIdx=20 then Expr.Attribute.elim (motive_1:=λ_=>Bool) e h λo n p=>k o n p else false
noncomputable def om(e:Expr)(k:Expr->(List Comprehension)->Scope->Bool):Bool:=if h:e.ctorIdx=8 then Expr.ListComp.elim (motive_1:=λ_=>Bool) e h λx gs sc _=>k x gs sc else false
noncomputable def oj(e:Expr)(k:Expr->Expr->(List Comprehension)->Scope->Bool):Bool:=if h:e.ctorIdx=10 then Expr.DictComp.elim (motive_1:=λ_=>Bool) e h λB v gs sc _=>k B v gs sc else false
noncomputable def jo(e:Expr)(k:Expr->(List Expr)->(List Keyword)->Pos->Bool):Bool:=if h:e.ctorIdx=16 then Expr.Call.elim (motive_1:=λ_=>Bool) e h λf as ks p=>k f as ks p else false
noncomputable def wY(e:Stmt)(k:Expr->Bool):Bool:=if h:e.ctorIdx=24 then Stmt.Expr.elim (motive_2:=λ_=>Bool) e h λe _=>k e else false
noncomputable def iD(e:Stmt)(k:(List Expr)->Expr->Bool):Bool:=if h:e.ctorIdx=5 then Stmt.Assign.elim (motive_2:=λ_=>Bool) e h λts e _=>k ts e else false
noncomputable def qe(e:Stmt)(k:(Option Expr)->Bool):Bool:=if h:e.ctorIdx=3 then Stmt.Return.elim (motive_2:=λ_=>Bool) e h λe _=>k e else false
noncomputable def EO(e:Stmt)(k:Expr->(List Stmt)->(List Stmt)->Bool):Bool:=if h:e.ctorIdx=12 then Stmt.If.elim (motive_2:=λ_=>Bool) e h λt a b _=>k t a b else false
noncomputable def tA(e:Stmt)(k:Expr->(List Stmt)->(List Stmt)->Bool):Bool:=if h:e.ctorIdx=11 then Stmt.While.elim (motive_2:=λ_=>Bool) e h λt a b _=>k t a b else false
noncomputable def AI(e:Stmt)(k:Expr->Expr->(List Stmt)->(List Stmt)->Bool):Bool:=if h:e.ctorIdx=9 then Stmt.For.elim (motive_2:=λ_=>Bool) e h λt i a b _=>k t i a b else false
noncomputable def AE(l:List α)(k:α->Bool):Bool:=match l with | [a]=>k a|_=>false
noncomputable def FM(l:List α)(k:α->α->Bool):Bool:=match l with | []=>false|a::l=>AE l (k a)
mutual
noncomputable def eO(cl:Bool)(nm:aY):Tgt->Expr->Bool
 | .nm x,e=>dJ e λid=>id==Str.ofString x&&Hp cl nm x
 | .tp ts,e=>iE e λes=>nc cl nm ts es
noncomputable def nc(cl:Bool)(nm:aY):Tgts->List Expr->Bool
 | .nil,es=>es.isEmpty
 | .cons t ts,es=>match es with | []=>false|e::es=>eO cl nm t e&&nc cl nm ts es
end
noncomputable def PG:V->Const->Bool
 | .none,.none=>true
 | .bool b,.bool c=>b==c
 | .int i,.int j=>i==j
 | .str s,.str t=>Str.ofString s==t
 |_,_=>false
noncomputable def tD:Prim->String
 | .len=>"len" | .sum=>"sum" | .max=>"max" | .abs=>"abs" | .str=>"str" | .tuple=>"tuple" | .dict=>"dict" | .sorted=>"sorted" | .sortedItems=>"sorted" | .sortedSet=>"sorted" | .sortedSetVals=>"sorted"
noncomputable def dD(nm:aY)(x:String)(id:Str):Bool:=id==Str.ofString x&&Ho nm id&&ie id
noncomputable def Hd(nm:aY)(x:String)(id:Str):Bool:=id==Str.ofString x&&Pr nm x&&ie id
noncomputable def cg(e:Expr):Bool:=!(jo e λg as ks _=>dJ g λ_=>as.isEmpty&&ks.isEmpty)
noncomputable def lJ(e:Expr):Bool:=e.ctorIdx != 7
noncomputable def Ff(n:Option Nat)(e:Option Expr):Bool:=match n,e with
 |none,none=>true
 |some n,some e=>jp e λc=>match c with | .int i=>i==(n:Int)|_=>false
 |_,_=>false
noncomputable def gV(nm:aY)(f:String)(e:Expr):Option Expr:=if h:e.ctorIdx=16 then Expr.Call.elim (motive_1:=λ_=>Option Expr) e h λg as ks _=>match as,dJ g (λid=>ks.isEmpty&&dD nm f id)with | [x],true=>some x|_,_=>none else none
noncomputable def uP(m:String)(e:Expr):Option Expr:=if h:e.ctorIdx=16 then Expr.Call.elim (motive_1:=λ_=>Option Expr) e h λg as ks p=>match as,ks with
 | [],[]=>if h:g.ctorIdx=20 then Expr.Attribute.elim (motive_1:=λ_=>Option Expr) g h λo n ap=>if(n==Str.ofString m&&(cg o&&(ap.endLine==p.line)))=true then some o else none else none
 |_,_=>none else none
noncomputable def rz(nm:aY):Prim->Expr->Option Expr
 | .sortedItems,x=>uP "items" x
 | .sortedSet,x=>gV nm "set" x
 | .sortedSetVals,x=>(gV nm "set" x).bind (uP "values")
 |_,x=>some x
noncomputable def cA(names outer:aY):aY:=names.map λ(n,k)=>if(k==.free&&outer.lookup n==some .cell)then(n,.cell)else(n,k)
noncomputable def kg(outer:aY)(sc:Scope)(xs:List String):Bool :=
 sc.names.all (λp=>p.2 != .local||(".0"::xs).any λx=>Str.ofString x==p.1) &&
 sc.kind==.function&&sc.names.all (λp=>p.2 != .cell)&&decide ((sc.names.map (·.1)).Nodup)&&sc.names.all (λp=>p.2 != .free||outer.lookup p.1==some .cell||outer.lookup p.1==some .free)
noncomputable def xm:ME->Bool
 | .cst (.str _)=>true
 | .var _=>true
 |_=>false
noncomputable def ir:MEs->Bool
 | .nil=>true
 | .cons e r=>xm e&&ir r
mutual
noncomputable def aM(nm:aY):ME->Expr->Bool
 | .cst v,e=>jp e λc=>PG v c
 | .var x,e=>dJ e λid=>Hd nm x id
 | .gvar x,e=>dJ e λid=>dD nm x id
 | .tup es,e=>iE e λxs=>dc nm es xs&&decide (xs.length<=1000)
 | .lst es,e=>AG e λxs=>dc nm es xs&&decide (xs.length<=1000)
 | .dct ks vs,e=>AF e λkeys B=>ir ks&&(we nm ks keys&&(dc nm vs B&&(decide (keys.length=B.length)&&decide (keys.length<=15))))
 | .bin op a b,e=>wW e λl o r=>decide (o=Rh op)&&(aM nm a l&&aM nm b r)
 | .cmp1 op a b,e=>kI e λl os rs=>AE os λo=>AE rs λr=>decide (o=Hg op)&&(aM nm a l&&aM nm b r)
 | .cmp2 a o1 b o2 c,e=>kI e λl os rs=>FM os λF G=>FM rs λJ O=>decide (F=Hg o1)&&(decide (G=Hg o2)&&(aM nm a l&&(aM nm b J&&aM nm c O)))
 | .and2 a b,e=>oi e λo xs=>FM xs λx y=>decide (o=.And)&&(aM nm a x&&aM nm b y)
 | .or2 a b,e=>oi e λo xs=>FM xs λx y=>decide (o=.Or)&&(aM nm a x&&aM nm b y)
 | .not1 a,e=>qf e λo x=>decide (o=.Not)&&aM nm a x
 | .ite c a b,e=>wX e λt x y=>aM nm c t&&(aM nm a x&&aM nm b y)
 | .idx a i,e=>fe e λo x=>aM nm a o&&aM nm i x
 | .slc a lo hi,e=>fe e λo x=>wZ x λl u st=>st.isNone&&(aM nm a o&&(Ff lo l&&Ff hi u))
 | .attr a f,e=>fc e λo n _=>n==Str.ofString f&&(cg o&&aM nm a o)
 | .comp elt g,e=>om e λx gens sc=>kg nm sc (dG g)&&(aM (cA sc.names nm) elt x&&(iO nm (cA sc.names nm) true g gens&&decide (dG g).Nodup))
 | .dcomp k v g,e=>oj e λx y gens sc=>kg nm sc (dG g)&&(aM (cA sc.names nm) k x&&(aM (cA sc.names nm) v y&&(iO nm (cA sc.names nm) true g gens&&decide (dG g).Nodup)))
 | .call f args,e=>jo e λg as ks _=>dJ g λid=>ks.isEmpty&&(dD nm f id&&dc nm args as)
 | .new c args,e=>jo e λg as ks _=>dJ g λid=>ks.isEmpty&&(dD nm c id&&dc nm args as)
 | .meth o m args,e=>jo e λg as ks p=>fc g λx n ap=>ks.isEmpty&&(n==Str.ofString m&&(cg x&&(aM nm o x&&(dc nm args as&&(decide (as.length<30)&&(ap.endLine==p.line))))))
 | .prim p a,e=>jo e λg as ks _=>dJ g λid=>AE as λx=>ks.isEmpty&&(dD nm (tD p) id&&(match rz nm p x with|some y=>aM nm a y|none=>false))
noncomputable def dc(nm:aY):MEs->List Expr->Bool
 | .nil,xs=>xs.isEmpty
 | .cons e r,xs=>match xs with | []=>false|x::xs=>aM nm e x&&dc nm r xs
noncomputable def we(nm:aY):MEs->List (Option Expr)->Bool
 | .nil,xs=>xs.isEmpty
 | .cons e r,xs=>match xs with|some x::xs=>aM nm e x&&we nm r xs|_=>false
noncomputable def iO(outer nm:aY)(first:Bool):Gens->List Comprehension->Bool
 | .one t it c,gs=>AE gs λg=>eO false nm t g.target&&(kX (if first then outer else nm) it g.iter&&(Fg nm c g.ifs&&decide (g.is_async=0)))
 | .more t it r,gs=>match gs with | []=>false|g::gs=>eO false nm t g.target&&(kX (if first then outer else nm) it g.iter&&(g.ifs.isEmpty&&(decide (g.is_async=0)&&iO outer nm false r gs)))
noncomputable def Fg(nm:aY):Option ME->List Expr->Bool
 |none,xs=>xs.isEmpty
 |some c,xs=>AE xs λx=>aM nm c x
noncomputable def kX(nm:aY):MIt->Expr->Bool
 | .exp e,x=>lJ x&&aM nm e x
 | .rng e,x=>match gV nm "range" x with|some y=>aM nm e y|none=>false
 |_,_=>false
end
noncomputable def Bt(a b:Expr):Bool:=!(iE a λ_=>iE b λes=>es.all (constantsAlone 8))
noncomputable def GZ(nm:aY)(o:ME)(f:String)(e:Expr):Bool:=fc e λy n _=>n==Str.ofString f&&aM nm o y
noncomputable def Hb(nm:aY)(o i:ME)(e:Expr):Bool:=fe e λy z=>aM nm o y&&aM nm i z
noncomputable def nA(it:MIt)(e:Expr):Bool:=match it with | .zip _ _=>iE e λ_=>true|_=>true
noncomputable def nZ(e:Expr):Bool:=e.ctorIdx != 8&&(e.ctorIdx != 9&&e.ctorIdx != 10)
noncomputable def zz(nm:aY):MIt->Expr->Bool
 | .zip a b,e=>jo e λg as ks _=>dJ g λid=>FM as λx y=>ks.isEmpty&&(dD nm "zip" id&&(aM nm a x&&aM nm b y))
 |it,x=>kX nm it x
mutual
noncomputable def He(nm:aY):MS->Stmt->Bool
 | .expr e,y=>wY y λx=>aM nm e x&&nZ x
 | .asg (.tg t) e,y=>iD y λts x=>AE ts λy=>eO true nm t y&&(aM nm e x&&Bt y x)
 | .asg (.at o f) e,y=>iD y λts x=>AE ts λy=>GZ nm o f y&&aM nm e x
 | .asg (.ix o i) e,y=>iD y λts x=>AE ts λy=>Hb nm o i y&&aM nm e x
 | .ret e,y=>qe y λx=>match x with|some x=>aM nm e x|none=>false
 | .if1 c a b,y=>EO y λt ys B=>aM nm c t&&(iP nm a ys&&iP nm b B)
 | .whl c b,y=>tA y λt ys B=>B.isEmpty&&(aM nm c t&&iP nm b ys)
 | .for1 t it b,y=>AI y λz x ys B=>B.isEmpty&&(eO true nm t z&&(zz nm it x&&(lJ x&&(nA it z&&iP nm b ys))))
 | .rais,y=>y.ctorIdx==16
noncomputable def iP(nm:aY):List MS->List Stmt->Bool
 | [],ys=>ys.isEmpty
 |x::xs,ys=>match ys with | []=>false|y::ys=>He nm x y&&iP nm xs ys
end
noncomputable def wK:MFun:=⟨["text"],[.ret (.and2 (.cmp1 .ne (.var "text") (.cst (.str ""))) (.cmp1 .eq (.comp (.var "sign") (.one (.nm "sign") (.exp (.var "text")) (some (.or2 (.meth (.var "sign") "isspace" .nil) (.cmp1 .isin (.var "sign") (.cst (.str "()[]{},:"))))))) (.lst .nil)))]⟩
noncomputable def iX:MFun:=⟨["t"],[.ret (.and2 (.cmp1 .eq (.prim .len (.var "t")) (.cst (.int 1))) (.cmp1 .eq (.slc (.idx (.var "t") (.cst (.int 0))) none (some 1)) (.cst (.str "?"))))]⟩
noncomputable def lv:MFun:=⟨["self"],[.asg (.at (.var "self") "nodes") (.lst .nil),.asg (.at (.var "self") "numbers") (.dct .nil .nil),.asg (.at (.var "self") "weights") (.lst .nil),.asg (.at (.var "self") "depths") (.lst .nil)]⟩
noncomputable def ly:MFun:=⟨["self"],[.ret (.prim .len (.attr (.var "self") "nodes"))]⟩
noncomputable def lz:MFun:=⟨["self","op","kids"],[.asg (.tg (.nm "node")) (.bin .add (.tup (.cons (.var "op") .nil)) (.prim .tuple (.var "kids"))),.if1 (.cmp1 .isin (.var "node") (.attr (.var "self") "numbers")) [.ret (.idx (.attr (.var "self") "numbers") (.var "node"))] [],.expr (.meth (.var "self") "require" (.cons (.var "op") .nil)),.for1 (.nm "kid") (.exp (.slc (.var "node") (some 1) none)) [.if1 (.not1 (.cmp2 (.cst (.int 0)) .le (.var "kid") .lt (.prim .len (.attr (.var "self") "nodes")))) [.rais] []],.asg (.ix (.attr (.var "self") "numbers") (.var "node")) (.prim .len (.attr (.var "self") "nodes")),.expr (.meth (.attr (.var "self") "nodes") "append" (.cons (.var "node") .nil)),.expr (.meth (.attr (.var "self") "weights") "append" (.cons (.bin .add (.cst (.int 1)) (.prim .sum (.comp (.idx (.attr (.var "self") "weights") (.var "kid")) (.one (.nm "kid") (.exp (.slc (.var "node") (some 1) none)) none)))) .nil)),.expr (.meth (.attr (.var "self") "depths") "append" (.cons (.bin .add (.cst (.int 1)) (.prim .max (.bin .add (.comp (.idx (.attr (.var "self") "depths") (.var "kid")) (.one (.nm "kid") (.exp (.slc (.var "node") (some 1) none)) none)) (.lst (.cons (.cst (.int 0)) .nil))))) .nil)),.ret (.bin .sub (.prim .len (.attr (.var "self") "nodes")) (.cst (.int 1)))]⟩
noncomputable def hJ:MFun:=⟨["self","op"],[.if1 (.or2 (.not1 (.call "is_op" (.cons (.var "op") .nil))) (.cmp1 .eq (.idx (.var "op") (.cst (.int 0))) (.cst (.str "?")))) [.rais] []]⟩
noncomputable def qc:MFun:=⟨["self","n"],[.ret (.idx (.idx (.attr (.var "self") "nodes") (.var "n")) (.cst (.int 0)))]⟩
noncomputable def lx:MFun:=⟨["self","n"],[.ret (.slc (.idx (.attr (.var "self") "nodes") (.var "n")) (some 1) none)]⟩
noncomputable def iW:MFun:=⟨["self","heap"],[.asg (.at (.var "self") "heap") (.var "heap")]⟩
noncomputable def eV:MFun:=⟨["self","table","c","pattern"],[.asg (.tg (.nm "op")) (.idx (.var "pattern") (.cst (.int 0))),.if1 (.call "is_variable" (.cons (.var "pattern") .nil)) [.asg (.tg (.nm "late")) (.prim .dict (.var "table")),.asg (.ix (.var "late") (.var "op")) (.var "c"),.ret (.ite (.cmp1 .eq (.meth (.var "table") "get" (.cons (.var "op") (.cons (.var "c") .nil))) (.var "c")) (.lst (.cons (.var "late") .nil)) (.lst .nil))] [],.asg (.tg (.nm "found")) (.lst .nil),.for1 (.nm "node") (.exp (.meth (.attr (.var "self") "heap") "nodes_of" (.cons (.var "c") .nil))) [.if1 (.and2 (.cmp1 .eq (.idx (.var "node") (.cst (.int 0))) (.var "op")) (.cmp1 .eq (.prim .len (.var "node")) (.prim .len (.var "pattern")))) [.asg (.tg (.nm "tables")) (.lst (.cons (.var "table") .nil)),.for1 (.tp2 (.nm "kid") (.nm "part")) (.zip (.slc (.var "node") (some 1) none) (.slc (.var "pattern") (some 1) none)) [.asg (.tg (.nm "tables")) (.comp (.var "late") (.more (.nm "one") (.exp (.var "tables")) (.one (.nm "late") (.exp (.meth (.var "self") "extended" (.cons (.var "one") (.cons (.var "kid") (.cons (.var "part") .nil))))) none)))],.expr (.meth (.var "found") "extend" (.cons (.var "tables") .nil))] []],.ret (.var "found")]⟩
noncomputable def eW:MFun:=⟨["self","c","pattern"],[.asg (.tg (.nm "substs")) (.dct .nil .nil),.for1 (.nm "table") (.exp (.meth (.var "self") "extended" (.cons (.dct .nil .nil) (.cons (.meth (.attr (.var "self") "heap") "find" (.cons (.var "c") .nil)) (.cons (.var "pattern") .nil))))) [.asg (.ix (.var "substs") (.prim .tuple (.prim .sortedItems (.var "table")))) (.cst (.bool true))],.ret (.prim .sorted (.var "substs"))]⟩
noncomputable def ib:MFun:=⟨["self","pattern"],[.ret (.comp (.tup (.cons (.var "c") (.cons (.var "subst") .nil))) (.more (.nm "c") (.exp (.meth (.attr (.var "self") "heap") "classes" .nil)) (.one (.nm "subst") (.exp (.meth (.var "self") "found_in" (.cons (.var "c") (.cons (.var "pattern") .nil)))) none)))]⟩
noncomputable def iT:MFun:=⟨["self"],[.asg (.at (.var "self") "above") (.lst .nil),.asg (.at (.var "self") "lots") (.lst .nil),.asg (.at (.var "self") "merged") (.lst .nil)]⟩
noncomputable def iU:MFun:=⟨["self"],[.expr (.meth (.attr (.var "self") "above") "append" (.cons (.prim .len (.attr (.var "self") "above")) .nil)),.expr (.meth (.attr (.var "self") "lots") "append" (.cons (.lst (.cons (.prim .len (.attr (.var "self") "lots")) .nil)) .nil)),.ret (.bin .sub (.prim .len (.attr (.var "self") "above")) (.cst (.int 1)))]⟩
noncomputable def iV:MFun:=⟨["self"],[.ret (.prim .len (.attr (.var "self") "above"))]⟩
noncomputable def iS:MFun:=⟨["self","a"],[.whl (.cmp1 .ne (.idx (.attr (.var "self") "above") (.var "a")) (.var "a")) [.asg (.tg (.nm "a")) (.idx (.attr (.var "self") "above") (.var "a"))],.ret (.var "a")]⟩
noncomputable def hZ:MFun:=⟨["self","a","b"],[.asg (.tg (.tp2 (.nm "kept") (.nm "gone"))) (.prim .sorted (.lst (.cons (.meth (.var "self") "find" (.cons (.var "a") .nil)) (.cons (.meth (.var "self") "find" (.cons (.var "b") .nil)) .nil)))),.if1 (.cmp1 .eq (.var "kept") (.var "gone")) [.ret (.cst .none)] [],.asg (.ix (.attr (.var "self") "above") (.var "gone")) (.var "kept"),.expr (.meth (.idx (.attr (.var "self") "lots") (.var "kept")) "extend" (.cons (.idx (.attr (.var "self") "lots") (.var "gone")) .nil)),.expr (.meth (.attr (.var "self") "merged") "append" (.cons (.tup (.cons (.var "kept") (.cons (.var "gone") .nil))) .nil)),.ret (.tup (.cons (.var "kept") (.cons (.var "gone") .nil)))]⟩
noncomputable def fM:MFun:=⟨["self","a"],[.ret (.prim .sorted (.idx (.attr (.var "self") "lots") (.meth (.var "self") "find" (.cons (.var "a") .nil))))]⟩
noncomputable def fL:MFun:=⟨["self"],[.ret (.comp (.var "a") (.one (.nm "a") (.rng (.prim .len (.attr (.var "self") "above"))) (some (.cmp1 .eq (.idx (.attr (.var "self") "above") (.var "a")) (.var "a")))))]⟩
noncomputable def lC:MFun:=⟨["self"],[.asg (.at (.var "self") "bank") (.new "Bank" .nil),.asg (.at (.var "self") "unions") (.new "Unions" .nil),.asg (.at (.var "self") "edges") (.lst .nil),.asg (.at (.var "self") "forest") (.lst .nil),.asg (.at (.var "self") "known") (.dct .nil .nil),.asg (.at (.var "self") "above") (.dct .nil .nil),.asg (.at (.var "self") "waiting") (.lst .nil)]⟩
noncomputable def lF:MFun:=⟨["self"],[.ret (.meth (.attr (.var "self") "bank") "size" .nil)]⟩
noncomputable def lE:MFun:=⟨["self","n"],[.ret (.bin .add (.tup (.cons (.meth (.attr (.var "self") "bank") "op" (.cons (.var "n") .nil)) .nil)) (.prim .tuple (.comp (.meth (.var "self") "find" (.cons (.var "kid") .nil)) (.one (.nm "kid") (.exp (.meth (.attr (.var "self") "bank") "kids" (.cons (.var "n") .nil))) none))))]⟩
noncomputable def nP:MFun:=⟨["self","op","numbers"],[.asg (.tg (.nm "n")) (.meth (.attr (.var "self") "bank") "take" (.cons (.var "op") (.cons (.var "numbers") .nil))),.if1 (.cmp1 .lt (.var "n") (.meth (.attr (.var "self") "unions") "size" .nil)) [.ret (.var "n")] [],.expr (.meth (.attr (.var "self") "unions") "make" .nil),.asg (.ix (.attr (.var "self") "above") (.var "n")) (.lst .nil),.for1 (.nm "c") (.exp (.prim .sortedSet (.comp (.meth (.var "self") "find" (.cons (.var "kid") .nil)) (.one (.nm "kid") (.exp (.var "numbers")) none)))) [.expr (.meth (.idx (.attr (.var "self") "above") (.var "c")) "append" (.cons (.var "n") .nil))],.expr (.meth (.var "self") "look_at" (.cons (.var "n") .nil)),.ret (.var "n")]⟩
noncomputable def nQ:MFun:=⟨["self","term"],[.ret (.meth (.var "self") "add" (.cons (.idx (.var "term") (.cst (.int 0))) (.cons (.prim .tuple (.comp (.meth (.var "self") "put" (.cons (.var "part") .nil)) (.one (.nm "part") (.exp (.slc (.var "term") (some 1) none)) none))) .nil)))]⟩
noncomputable def hV:MFun:=⟨["self","n"],[.asg (.tg (.nm "other")) (.meth (.attr (.var "self") "known") "setdefault" (.cons (.meth (.var "self") "node" (.cons (.var "n") .nil)) (.cons (.var "n") .nil))),.if1 (.cmp1 .ne (.meth (.var "self") "find" (.cons (.var "other") .nil)) (.meth (.var "self") "find" (.cons (.var "n") .nil))) [.expr (.meth (.var "self") "join" (.cons (.var "other") (.cons (.var "n") (.cons (.tup (.cons (.cst (.str "like")) .nil)) .nil))))] []]⟩
noncomputable def lA:MFun:=⟨["self","n"],[.ret (.meth (.attr (.var "self") "unions") "find" (.cons (.var "n") .nil))]⟩
noncomputable def jV:MFun:=⟨["self","a","b","reason"],[.ret (.meth (.var "self") "join" (.cons (.var "a") (.cons (.var "b") (.cons (.var "reason") .nil))))]⟩
noncomputable def lD:MFun:=⟨["self","a","b","reason"],[.expr (.meth (.attr (.var "self") "edges") "append" (.cons (.tup (.cons (.var "a") (.cons (.var "b") (.cons (.var "reason") .nil)))) .nil)),.asg (.tg (.nm "merged")) (.meth (.attr (.var "self") "unions") "merge" (.cons (.var "a") (.cons (.var "b") .nil))),.if1 (.cmp1 .is (.var "merged") (.cst .none)) [.ret (.cst (.bool false))] [],.asg (.tg (.tp2 (.nm "kept") (.nm "gone"))) (.var "merged"),.expr (.meth (.attr (.var "self") "forest") "append" (.cons (.bin .sub (.prim .len (.attr (.var "self") "edges")) (.cst (.int 1))) .nil)),.expr (.meth (.attr (.var "self") "waiting") "extend" (.cons (.idx (.attr (.var "self") "above") (.var "gone")) .nil)),.asg (.ix (.attr (.var "self") "above") (.var "kept")) (.bin .add (.idx (.attr (.var "self") "above") (.var "kept")) (.meth (.attr (.var "self") "above") "pop" (.cons (.var "gone") .nil))),.ret (.cst (.bool true))]⟩
noncomputable def iR:MFun:=⟨["self"],[.whl (.cmp1 .gt (.prim .len (.attr (.var "self") "waiting")) (.cst (.int 0))) [.expr (.meth (.var "self") "look_at" (.cons (.meth (.attr (.var "self") "waiting") "pop" .nil) .nil))]]⟩
noncomputable def hU:MFun:=⟨["self"],[.ret (.meth (.attr (.var "self") "unions") "classes" .nil)]⟩
noncomputable def hY:MFun:=⟨["self","c"],[.ret (.meth (.attr (.var "self") "unions") "members" (.cons (.var "c") .nil))]⟩
noncomputable def gB:MFun:=⟨["self","c"],[.ret (.prim .sortedSet (.comp (.meth (.var "self") "node" (.cons (.var "n") .nil)) (.one (.nm "n") (.exp (.meth (.var "self") "members" (.cons (.var "c") .nil))) none)))]⟩
noncomputable def nS:MFun:=⟨["feed","many"],[.asg (.tg (.nm "spot")) (.idx (.var "feed") (.cst (.str "spot"))),.asg (.ix (.var "feed") (.cst (.str "spot"))) (.bin .add (.var "spot") (.cst (.int 1))),.if1 (.cmp1 .lt (.var "spot") (.prim .len (.idx (.var "feed") (.cst (.str "cells"))))) [.ret (.bin .mod (.idx (.idx (.var "feed") (.cst (.str "cells"))) (.var "spot")) (.var "many"))] [],.ret (.bin .mod (.bin .mod (.bin .add (.bin .add (.bin .add (.bin .mul (.bin .mul (.cst (.int 5)) (.var "spot")) (.var "spot")) (.bin .mul (.cst (.int 3)) (.var "spot"))) (.cst (.int 2))) (.bin .mul (.cst (.int 7)) (.prim .len (.idx (.var "feed") (.cst (.str "cells")))))) (.cst (.int 89))) (.var "many"))]⟩
noncomputable def nT:MFun:=⟨["feed","high"],[.asg (.tg (.nm "way")) (.ite (.cmp1 .gt (.var "high") (.cst (.int 0))) (.call "_law_pick" (.cons (.var "feed") (.cons (.cst (.int 4)) .nil))) (.cst (.int 0))),.if1 (.cmp1 .eq (.var "way") (.cst (.int 0))) [.ret (.tup (.cons (.idx (.cst (.str "abc")) (.call "_law_pick" (.cons (.var "feed") (.cons (.cst (.int 3)) .nil)))) .nil))] [],.if1 (.cmp1 .lt (.var "way") (.cst (.int 3))) [.ret (.tup (.cons (.cst (.str "f")) (.cons (.call "_law_tree" (.cons (.var "feed") (.cons (.bin .sub (.var "high") (.cst (.int 1))) .nil))) .nil)))] [],.ret (.tup (.cons (.cst (.str "g")) (.cons (.call "_law_tree" (.cons (.var "feed") (.cons (.bin .sub (.var "high") (.cst (.int 1))) .nil))) (.cons (.call "_law_tree" (.cons (.var "feed") (.cons (.bin .sub (.var "high") (.cst (.int 1))) .nil))) .nil))))]⟩
noncomputable def nR:MFun:=⟨["heap"],[.asg (.tg (.nm "home")) (.dct .nil .nil),.for1 (.nm "c") (.exp (.meth (.var "heap") "classes" .nil)) [.for1 (.nm "n") (.exp (.meth (.var "heap") "members" (.cons (.var "c") .nil))) [.asg (.ix (.var "home") (.var "n")) (.var "c")]],.ret (.var "home")]⟩
noncomputable def lG:MFun:=⟨["nodes","c"],[.asg (.tg (.tp2 (.nm "met") (.nm "left"))) (.tup (.cons (.dct (.cons (.var "c") .nil) (.cons (.cst (.bool true)) .nil)) (.cons (.lst (.cons (.var "c") .nil)) .nil))),.whl (.cmp1 .ne (.var "left") (.lst .nil)) [.for1 (.nm "node") (.exp (.idx (.var "nodes") (.meth (.var "left") "pop" .nil))) [.for1 (.nm "kid") (.exp (.slc (.var "node") (some 1) none)) [.if1 (.cmp1 .notin (.var "kid") (.var "met")) [.asg (.ix (.var "met") (.var "kid")) (.cst (.bool true)),.expr (.meth (.var "left") "append" (.cons (.var "kid") .nil))] []]]],.ret (.prim .sorted (.var "met"))]⟩
noncomputable def fw:MFun:=⟨["heap","pattern","before","elder","found"],[.asg (.tg (.nm "home")) (.call "_law_lots" (.cons (.var "heap") .nil)),.asg (.tg (.nm "many")) (.dct .nil .nil),.for1 (.nm "c") (.exp (.prim .sortedSetVals (.var "elder"))) [.asg (.ix (.var "many") (.idx (.var "home") (.var "c"))) (.bin .add (.meth (.var "many") "get" (.cons (.idx (.var "home") (.var "c")) (.cons (.cst (.int 0)) .nil))) (.cst (.int 1)))],.asg (.tg (.nm "images")) (.comp (.tup (.cons (.idx (.var "home") (.var "c")) (.cons (.prim .tuple (.comp (.tup (.cons (.var "name") (.cons (.idx (.var "home") (.var "kid")) .nil))) (.one (.tp2 (.nm "name") (.nm "kid")) (.exp (.var "subst")) none))) .nil))) (.one (.tp2 (.nm "c") (.nm "subst")) (.exp (.var "before")) none)),.if1 (.or2 (.cmp1 .ne (.comp (.var "one") (.one (.nm "one") (.exp (.var "images")) (some (.cmp1 .notin (.var "one") (.var "found"))))) (.lst .nil)) (.cmp1 .ne (.var "found") (.prim .sortedSet (.var "found")))) [.ret (.cst (.bool false))] [],.asg (.tg (.nm "nodes")) (.dcomp (.var "c") (.meth (.var "heap") "nodes_of" (.cons (.var "c") .nil)) (.one (.nm "c") (.exp (.meth (.var "heap") "classes" .nil)) none)),.for1 (.nm "c") (.exp (.meth (.var "heap") "classes" .nil)) [.if1 (.cmp1 .eq (.comp (.var "kid") (.one (.nm "kid") (.exp (.call "_law_below" (.cons (.var "nodes") (.cons (.var "c") .nil)))) (some (.cmp1 .ne (.meth (.var "many") "get" (.cons (.var "kid") (.cons (.cst (.int 0)) .nil))) (.cst (.int 1)))))) (.lst .nil)) [.if1 (.cmp1 .ne (.comp (.var "one") (.one (.nm "one") (.exp (.var "found")) (some (.cmp1 .eq (.idx (.var "one") (.cst (.int 0))) (.var "c"))))) (.comp (.var "one") (.one (.nm "one") (.exp (.var "images")) (some (.cmp1 .eq (.idx (.var "one") (.cst (.int 0))) (.var "c")))))) [.ret (.cst (.bool false))] []] []],.ret (.cst (.bool true))]⟩
noncomputable def m_law:MFun:=⟨["script"],[.asg (.tg (.nm "feed")) (.dct (.cons (.cst (.str "cells")) (.cons (.cst (.str "spot")) .nil)) (.cons (.comp (.bin .mod (.prim .abs (.var "cell")) (.cst (.int 1000003))) (.one (.nm "cell") (.exp (.slc (.var "script") none (some 60))) none)) (.cons (.cst (.int 0)) .nil))),.asg (.tg (.nm "heap")) (.new "Heap" .nil),.asg (.tg (.nm "pattern")) (.idx (.gvar "_law_patterns") (.call "_law_pick" (.cons (.var "feed") (.cons (.cst (.int 7)) .nil)))),.for1 (.nm "lap") (.rng (.bin .add (.cst (.int 4)) (.call "_law_pick" (.cons (.var "feed") (.cons (.cst (.int 3)) .nil))))) [.expr (.meth (.var "heap") "put" (.cons (.call "_law_tree" (.cons (.var "feed") (.cons (.cst (.int 2)) .nil))) .nil))],.expr (.meth (.var "heap") "settle" .nil),.asg (.tg (.nm "walker")) (.new "Walker" (.cons (.var "heap") .nil)),.for1 (.nm "lap") (.rng (.bin .add (.cst (.int 1)) (.call "_law_pick" (.cons (.var "feed") (.cons (.cst (.int 3)) .nil))))) [.asg (.tg (.tp2 (.nm "before") (.nm "elder"))) (.tup (.cons (.meth (.var "walker") "found" (.cons (.var "pattern") .nil)) (.cons (.call "_law_lots" (.cons (.var "heap") .nil)) .nil))),.expr (.meth (.var "heap") "merge" (.cons (.call "_law_pick" (.cons (.var "feed") (.cons (.meth (.var "heap") "size" .nil) .nil))) (.cons (.call "_law_pick" (.cons (.var "feed") (.cons (.meth (.var "heap") "size" .nil) .nil))) (.cons (.tup (.cons (.cst (.str "told")) (.cons (.bin .add (.cst (.str "m")) (.prim .str (.var "lap"))) .nil))) .nil)))),.expr (.meth (.var "heap") "settle" .nil),.if1 (.not1 (.call "_law_is_kept" (.cons (.var "heap") (.cons (.var "pattern") (.cons (.var "before") (.cons (.var "elder") (.cons (.meth (.var "walker") "found" (.cons (.var "pattern") .nil)) .nil))))))) [.ret (.cst (.bool false))] []],.ret (.cst (.bool true))]⟩
section
variable{N:Nat->List V}
noncomputable abbrev vx:V:=.tup [.str "?x"]
noncomputable abbrev vy:V:=.tup [.str "?y"]
noncomputable def pf(q:V):V:=.tup [.str "f",q]
noncomputable def pg(q r:V):V:=.tup [.str "g",q,r]
noncomputable def pats:List V:=[pf vx,pg vx vy,pg vx vx,pg (pf vx) vy,pf (pg vx vy),pg (pf vx) (pf vx),vx]
end
noncomputable def Hl:Data->Option FuncData
 | .func fd=>some fd
 |_=>none
noncomputable def Pe:Data->Option (Array Value)
 | .seq vs _=>some vs
 |_=>none
noncomputable def Hk:Data->Option (Array Value)
 | .fields vs=>some vs
 |_=>none
noncomputable def Gv:Value->Option Str
 | .str s _=>some s
 |_=>none
noncomputable def AR:Value->Option Addr
 | .ref a=>some a
 |_=>none
noncomputable def Ci(K:Frag)(a:Addr):Option FuncData:=(K.lookup a).bind λo=>Hl o.data
noncomputable def zl(fd:FuncData)(m:MFun):FuncBody->Bool
 | .stmts ys=>iP fd.scope.names m.body ys
 | .expr _=>false
noncomputable def Cs(b:Bool):Option NameKind->Bool
 |some .local=>true
 |some .cell=>true
 |some .free=>false
 |some _=>b
 |none=>b
noncomputable def GY(K:Frag)(v:Value):Option Str:=(AR v).bind λc=>(K.lookup c).bind λo=>(Hk o.data).bind λvs=>(vs[1]?).bind Gv
noncomputable def ES:Value->Bool
 | .none=>true
 |_=>false
noncomputable def zK(K:Frag)(fd:FuncData)(m:MFun):Bool :=
 zl fd m fd.body&&(fd.closure.isEmpty&&(fd.globals==mainGlobals&&(fd.builtins==builtinsNs&&(!fd.scope.isCoroutine&&(!fd.scope.isGenerator &&
 (decide (fd.scope.kind=.function)&&(fd.params.posonlyargs.isEmpty&&(decide (fd.params.args.map Arg.arg=m.params.map Str.ofString)&&(fd.params.vararg.isNone&&(fd.params.kwonlyargs.isEmpty&&(fd.params.kwarg.isNone &&
 (ES fd.defaults&&(decide m.params.Nodup&&(m.params.all (λp=>Cs false (fd.scope.names.lookup (Str.ofString p))) &&
 (fd.scope.names.all (λx=>Cs true (some x.2))&&decide (GY K fd.code=some fd.qualname))))))))))))))))
noncomputable def Ck(K:Frag)(a:Addr)(m:MFun):Bool:=match Ci K a with|some fd=>zK K fd m|none=>false
noncomputable def xx(K:Frag)(a:Addr):Option (Array Value):=(K.lookup a).bind λo=>if o.cls=.type "tuple" then Pe o.data else none
mutual
noncomputable def Dt(K:Frag):V->Value->Bool
 | .str s,c=>decide (Gv c=some (Str.ofString s))
 | .tup vs,c=>(match(AR c).bind (xx K)with|some cvs=>xA K vs cvs.toList|none=>false)
 |_,_=>false
noncomputable def xA(K:Frag):List V->List Value->Bool
 | [],cs=>cs.isEmpty
 |v::vs,cs=>(match cs with|c::cs=>Dt K v c&&xA K vs cs | []=>false)
end
section
variable{K:Frag}{base:Heap}{sad:Addr}{X:Addr->Prop}
noncomputable def GU(x:Option (Option Value))(f:Option Value->Bool):Bool:=match x with|some a=>f a|none=>false
noncomputable def DF(K:Frag)(C:Addr)(n:Str):Bool:=plainGet K C n&&(hasDictIn K C&&(GU (findIn K (.ref C) n) (noGet K) &&
 (decide (findIn K (.ref C) "__setattr__"=some (some (.builtin "object.__setattr__")))&&(plainOver K C&&decide (takerIn K C n=some none)))))
noncomputable def lP(v:Option (Option Value))(f:Addr):Bool:=decide (v=some (some (.ref f)))
noncomputable def Cl(K:Frag)(f:Addr):Bool:=decide (typeIn K (.ref f)=some (.type "function"))
noncomputable def DN(K:Frag)(C:Addr)(n:Str)(f:Addr):Bool:=plainGet K C n&&(lP (findIn K (.ref C) n) f&&(Cl K f&&keepIn K (.ref f)))
noncomputable def Hy(K:Frag)(C f:Addr):Bool:=makesIn K C&&(lP (findIn K (.ref C) "__init__") f&&(Cl K f&&keepIn K (.ref C)))
structure Tbl where
 fn:List (String×Addr)
 cls:List (String×Addr)
 meth:List ((String×String)×Addr)
 flds:List (String×List String)
noncomputable def Aj(v:Option (Option Value)):Bool:=decide (v=some none)
noncomputable def DG(K:Frag)(t:Tbl):Bool:=t.fn.all λp=>lP (nsIn K mainGlobals (Str.ofString p.1)) p.2&&keepIn K (.ref p.2)
noncomputable def DC(K:Frag)(t:Tbl):Bool:=t.cls.all λp=>lP (nsIn K mainGlobals (Str.ofString p.1)) p.2
noncomputable def QV(x:Option Addr)(f:Addr->Bool):Bool:=match x with|some a=>f a|none=>true
noncomputable def Ae(K:Frag)(t:Tbl):Bool:=t.meth.all λp=>QV (t.cls.lookup p.1.1) λC=>DN K C (Str.ofString p.1.2) p.2&&(!decide (p.1.2="__init__")||Hy K C p.2)
noncomputable def zJ(K:Frag)(t:Tbl):Bool:=t.flds.all λp=>QV (t.cls.lookup p.1) λC=>p.2.all λf=>DF K C (Str.ofString f)
noncomputable def DB(K:Frag):Bool:=bL.all λp=>Aj (nsIn K mainGlobals (Str.ofString p.1))
theorem fN[BEq α][LawfulBEq α]{l:List (α×β)}{a:α}{b:β}(h:l.lookup a=some b):(a,b)∈l:=by
 induction l with
 |nil=>exact jD h
 |cons p l B =>
  rw[List.lookup_cons]at h;cases e:a==p.1 with
  |true=>rw[e]at h;obtain rfl:=c9 h;rw[eq_of_beq e];exact d6
  |false=>rw[e]at h;exact d7 _ (B h)
end
noncomputable abbrev vn:Program:=PySem.Challenge.pw_pq0056_04
noncomputable def q0:Pos:=⟨0,0,0,0⟩
noncomputable def Fm:Env:={ scope:=vn.main.scope,locals:=mainNs,globals:=mainNs,cells:=[],code:=.ref 13,frame:=some 14 }
noncomputable def zk:List Stmt:=behindTheImports vn
noncomputable def BO:Code:=.body zk Fm
noncomputable def Ry:Obj:={ cls:=.type "tuple",data:=.seq #[] }
noncomputable def Rz:Obj:={ cls:=.none,data:=.fields #[] }
noncomputable def RA:Obj:={ cls:=.type "code",data:=.fields #[.str (Str.ofString "<module>") 182,.str (Str.ofString "<module>") 183,.str (Str.ofString "/claim/cut.py") 184,.int 1 0,.int 0 0,.int 0 0,.int 0 0,.int 0 0,.ref 11,.bool false,.int 181 0,.ref 12,.none,.none,.none,.none,.int 185 0,.int 1 0,.str (Str.ofString "/claim/cut.py") 186] }
noncomputable def RB:Obj:={ cls:=.type "frame",slots:=#[some (.ref 13),some (.ref 3),some (.ref 3),none,some (.str (Str.ofString "__main__") 164),none,some (.ref 0)] }
noncomputable def RL(P:Params):BT:=(.node (boot_o_0 P) (.node (boot_o_1 P) (.node (boot_o_3 P) (.node (boot_o_7 P) .nil .nil) (.node Ry .nil .nil)) (.node (boot_o_5 P) (.node (boot_o_9 P) .nil .nil) (.node RA .nil .nil))) (.node (boot_o_2 P) (.node (boot_o_4 P) (.node (boot_o_8 P) .nil .nil) (.node Rz .nil .nil)) (.node (boot_o_6 P) (.node (boot_o_10 P) .nil .nil) (.node RB .nil .nil))))
noncomputable def Sa(w:World)(os:OsState):SharedT:=⟨RL w.params,15,(boot_heap w.params).life,#[],boot_drawn,187,os⟩
noncomputable def qL:Pos:=⟨293,0,307,15⟩
noncomputable def PJ(w:World)(os:OsState):Option (Flow×SharedT×Code×Pos):=segRunT treeTable vn w 11 (some (.ref 6)) 1 3140 (Sa w os) (piecesOf zk Fm BO q0 [topFrame q0])
noncomputable def vc(p q:Program)(loose:List Str)(Xt Yf:Shared->Bool)(B:Heap)(r:Shared) :=((staticsOk (importedModules p.main.body) B r.heap&&namesBound p r.heap&&gensDone r&&laidKept B r.heap),openSeen q loose (importedModules p.main.body) Xt true r,Yf r)
noncomputable def q4:Program:={ vn with main:={ vn.main with body:=[0,2,3,5,6,7,8,10,12,14,16,17,18,19,20,21,22].filterMap λi=>vn.main.body[i]? } }
section
set_option tactic.hygienic true
noncomputable def t04:Tbl:=⟨[("is_op",67),("is_variable",74),("_law_pick",465),("_law_tree",472),("_law_lots",479),("_law_below",486),("_law_is_kept",491)],[("Bank",181),("Walker",219),("Unions",301),("Heap",431)],[(("Bank","__init__"),93),(("Bank","size"),100),(("Bank","take"),105),(("Bank","require"),112),(("Bank","op"),138),(("Bank","kids"),145),(("Walker","__init__"),199),(("Walker","extended"),204),(("Walker","found_in"),211),(("Walker","found"),216),(("Unions","__init__"),237),(("Unions","make"),244),(("Unions","size"),251),(("Unions","find"),258),(("Unions","merge"),265),(("Unions","members"),272),(("Unions","classes"),277),(("Heap","__init__"),319),(("Heap","size"),326),(("Heap","node"),331),(("Heap","add"),336),(("Heap","put"),341),(("Heap","look_at"),348),(("Heap","find"),355),(("Heap","merge"),369),(("Heap","join"),376),(("Heap","settle"),383),(("Heap","classes"),397),(("Heap","members"),404),(("Heap","nodes_of"),409)],[("Heap",["bank","unions","edges","forest","known","above","waiting"]),("Bank",["nodes","numbers","weights","depths"]),("Unions",["above","lots","merged"]),("Walker",["heap"])]⟩
noncomputable def sO:List (Addr×MFun):=[(67,wK),(74,iX),(465,nS),(472,nT),(479,nR),(486,lG),(491,fw),(93,lv),(100,ly),(105,lz),(112,hJ),(138,qc),(145,lx),(199,iW),(204,eV),(211,eW),(216,ib),(237,iT),(244,iU),(251,iV),(258,iS),(265,hZ),(272,fM),(277,fL),(319,lC),(326,lF),(331,lE),(336,nP),(341,nQ),(348,hV),(355,lA),(369,jV),(376,lD),(383,iR),(397,hU),(404,hY),(409,gB),(496,m_law)]
noncomputable def GV:List Addr:=[2,3,15,17,18,20,21,22,25,30,31,33,34,36,37,38,40,41,43,44,45,46,47,48,51,58,59,60,63,66,67,68,70,71,73,74,75,78,79,87,89,90,92,93,94,96,97,99,100,101,104,105,106,108,109,111,112,113,115,116,118,119,120,123,124,125,127,128,130,131,132,134,135,137,138,139,141,142,144,145,146,148,149,151,152,153,156,157,158,160,161,163,164,165,167,168,170,171,172,174,175,177,178,179,180,181,182,183,193,195,196,198,199,200,203,204,205,207,208,210,211,212,215,216,217,218,219,220,221,231,233,234,236,237,238,240,241,243,244,245,247,248,250,251,252,254,255,257,258,259,261,262,264,265,266,268,269,271,272,273,276,277,278,280,281,283,284,285,287,288,290,291,292,294,295,297,298,299,300,301,302,303,313,315,316,318,319,320,322,323,325,326,327,330,331,332,335,336,337,340,341,342,344,345,347,348,349,351,352,354,355,356,358,359,361,362,363,365,366,368,369,370,372,373,375,376,377,379,380,382,383,384,386,387,389,390,391,393,394,396,397,398,400,401,403,404,405,408,409,410,412,413,415,416,417,420,421,422,424,425,427,428,429,430,431,432,433,436,437,438,439,440,441,442,443,444,445,446,447,448,449,450,451,452,453,454,455,456,457,458,459,461,462,464,465,466,468,469,471,472,473,475,476,478,479,480,482,483,485,486,487,490,491,492,495,496]
noncomputable def Hf(K:Frag):Bool:=(sO.all λx=>Ck K x.1 x.2)&&(DG K t04&&(DC K t04&&(Ae K t04&&(zJ K t04&&(DB K &&
 (lP (nsIn K mainGlobals (Str.ofString "_law_patterns")) 458&&(Dt K (.tup pats) (.ref 458)&&lP (nsIn K mainGlobals (Str.ofString "law")) 496)))))))
noncomputable def zL(as:List Addr)(h:Heap):Frag:=as.filterMap λa=>(h.get? a).map λo=>(a,o)
theorem yb(as:List Addr)(h:Heap):(zL as h).In h:=λa o e=>by obtain⟨b,_,G⟩:=List.mem_filterMap.mp (fN e);obtain⟨o',B,F⟩:=m5.mp G;cases F;exact B
noncomputable def H4:Hook:=⟨Bool,λs=>Hf (zL GV s.heap),λ_=>true,λ_ h=>∃K:Frag,K.In h/\Hf K=true,λ_ s e=>⟨_,yb GV s.heap,e⟩,λ_ _ _ x k=>x.elim λK x=>⟨K,x.1.keeps k,x.2⟩⟩
noncomputable def X4(s:Shared):Bool:=xlAt q4 [] s&&recOk (RowW.records (OpenRow.toRowW PySem.Challenge.rw_pq0056_04.row)) s
theorem Fv(w:World)(os:OsState):(PJ w os).map (λx=>(x.1,x.2.2,vc vn q4 [] X4 H4.obs (boot_heap w.params) x.2.1.abs))=some (.next,(BO,qL),(true,openGood q4 [],true)):=by unfold PJ vc;rw[Fast.te10110043849684766642,Fast.te14364793385576792824,Fast.te5923862056798008813,Fast.te4187177175401517315];kernel_rfl
end
section
variable{c:Value}{cs:List Value}{a:Addr}
set_option genInjectivity true
theorem ag{p:Prop}(h:false=true):p:=nomatch h
theorem and_t{a b:Bool}(h:(a&&b)=true):a=true/\b=true:=by cases a;exact ag h;exact⟨rfl,h⟩
theorem nn{x:Option α}{a:α}{p:Prop}(h:x=none)(h':x=some a):p:=jD (h.symm.trans h')
theorem HB{x:Option α}{a:α}(h:x=some a):x≠none:=λe=>nn e h
theorem sm{x:Option α}{a b:α}(h:x=some a)(h':x=some b):a=b:=c9 (h.symm.trans h')
theorem Pt{x y:Option α}(h:x≠none)(k:∀o,x=some o->y=some o):y≠none:=by
 rcases x with _|o
 ·exact absurd rfl h
 ·exact HB (k o rfl)
inductive AO where
 |list (vs:List V)
 |dict (kvs:List (V×V))
 |inst (c:String) (dx:Addr)
@[reducible] noncomputable def vdec:DecidableEq V:=λa b=>Classical.propDecidable (a=b)
noncomputable def cM(a b:V):Bool:=@decide (a=b) (vdec a b)
theorem bt(a b:V):cM a b=true↔a=b:=by exact @decide_eq_true_iff (a=b) (vdec a b)
theorem cR(a:V):cM a a=true:=(bt a a).mpr rfl
theorem aN{a b:V}:cM a b=false↔a≠b:=by rw[<- Bool.not_eq_true,bt]
noncomputable abbrev AH:=Addr->Option AO
noncomputable def AH.set(H:AH)(a:Addr)(o:AO):AH:=λb=>if b=a then some o else H b
@[simp] theorem AH.set_self (H:AH) (a:Addr) (o:AO):H.set a o a=some o:=by simp[AH.set]
theorem AH.set_ne(H:AH){b:Addr}(o:AO)(h:b≠a):H.set a o b=H b:=by simp[AH.set,h]
structure SX where
 a:Addr
 X:Addr->Prop
mutual
noncomputable def VR(sa:SX)(h:Heap):V->Value->Prop
 | .none,v=>v=.none
 | .scr,v=>v=.ref sa.a
 | .bool b,v=>v=.bool b
 | .int i,v=>∃t,v=.int i t
 | .str s,v=>∃t,v=.str (Str.ofString s) t
 | .ref a,v=>v=.ref a
 | .tup vs,v=>∃a cvs n,v=.ref a/\¬sa.X a/\(∃o,h.get? a=some o/\o.cls=.type "tuple"/\o.data=.seq cvs n)/\VRs sa h vs cvs.toList
noncomputable def VRs(sa:SX)(h:Heap):List V->List Value->Prop
 | [],l=>l=[]
 |v::vs,l=>∃c cs,l=c::cs/\VR sa h v c/\VRs sa h vs cs
end
def TupKeep(sa:SX)(h h':Heap):Prop:=∀b o,¬sa.X b->h.get? b=some o->o.cls=.type "tuple"->(∃xs n,o.data=.seq xs n)->h'.get? b=some o
theorem TupKeep.refl(sa:SX)(h:Heap):TupKeep sa h h:=λ_ _ _ e _ _=>e
theorem TupKeep.trans{sa:SX}{B:Heap}(a:TupKeep sa h h')(b:TupKeep sa h' B):TupKeep sa h B:=λx o n e c d=>b x o n (a x o n e c d) c d
theorem TupKeep.of_keep{sa:SX}(k:∀b o,h.get? b=some o->h'.get? b=some o):TupKeep sa h h':=λb o _ e _ _=>k b o e
section
variable{sa:SX}
mutual
theorem VR.keep(k:TupKeep sa h h'):∀{v:V}{c:Value},VR sa h v c->VR sa h' v c
 | .none,_,x=>by unfold VR at *;exact x
 | .scr,_,x=>by unfold VR at *;exact x
 | .bool _,_,x=>by unfold VR at *;exact x
 | .int _,_,x=>by unfold VR at *;exact x
 | .str _,_,x=>by unfold VR at *;exact x
 | .ref _,_,x=>by unfold VR at *;exact x
 | .tup vs,_,x=>by unfold VR at *;refine rV x λa cvs n e nx aP r=>?_;obtain⟨o,B,hc,hd⟩:=aP;exact(md a cvs n e nx (⟨o,k a o nx B hc ⟨_,_,hd⟩,hc,hd⟩) (VRs.keep k r))
theorem VRs.keep(k:TupKeep sa h h'):∀{vs:List V}{cs:List Value},VRs sa h vs cs->VRs sa h' vs cs
 | [],_,x=>by unfold VRs at *;exact x
 |v::vs,_,x=>by unfold VRs at *;refine bw x λc cs e a b=>?_;exact(bc c cs e (VR.keep k a) (VRs.keep k b))
end
theorem VRs.nil:VRs sa h [] []:=by rfl
theorem VRs.cons{v:V}(a:VR sa h v c)(b:VRs sa h vs cs):VRs sa h (v::vs) (c::cs):=by unfold VRs;exact(bc c cs rfl a b)
theorem VRs.nil_inv(x:VRs sa h [] cs):cs=[]:=x
theorem VRs.cons_inv{v:V}(x:VRs sa h (v::vs) cs):∃c r,cs=c::r/\VR sa h v c/\VRs sa h vs r:=x
theorem VRs.length:∀{vs:List V}{cs:List Value},VRs sa h vs cs->cs.length=vs.length
 | [],_,x=>by rw[x.nil_inv];rfl
 |_::_,_,x=>by refine bw x.cons_inv λc r bx _ b=>?_;subst bx;simp[b.length]
theorem VRs.append:∀{vs ws:List V}{cs ds:List Value},VRs sa h vs cs->VRs sa h ws ds->VRs sa h (vs++ws) (cs++ds)
 | [],_,_,_,x,y=>by rw[x.nil_inv];exact y
 |_::_,_,_,_,x,y=>by refine bw x.cons_inv λc r bK a b=>?_;subst bK;exact .cons a (b.append y)
theorem VRs.one{v:V}(x:VR sa h v c):VRs sa h [v] [c]:=.cons x .nil
theorem VRs.get:∀{vs:List V}{cs:List Value},VRs sa h vs cs->∀{i:Nat}{v:V},vs[i]?=some v->∃c,cs[i]?=some c/\VR sa h v c
 | [],_,_,i,v,e=>by simp at e
 |B::vs,_,x,i,v,e=>by
  refine bw x.cons_inv λc r cC a b=>?_;subst cC;rcases i with _|i
  ·simp at e;subst e;exact(aa c rfl a)
  ·simp at e;refine af (b.get e) λd F G=>?_;exact(aa d F G)
theorem VRs.get':∀{vs:List V}{cs:List Value},VRs sa h vs cs->∀{i:Nat}{c:Value},cs[i]?=some c->∃v,vs[i]?=some v/\VR sa h v c
 | [],_,x,i,v,e=>by rw[x.nil_inv]at e;simp at e
 |B::vs,_,x,i,c,e=>by
  refine bw x.cons_inv λJ r dj a b=>?_;subst dj;rcases i with _|i
  ·simp at e;subst e;exact(aa B rfl a)
  ·simp at e;refine af (b.get' e) λd F G=>?_;exact(aa d F G)
theorem VRs.drop:∀{vs:List V}{cs:List Value}(n:Nat),VRs sa h vs cs->VRs sa h (vs.drop n) (cs.drop n)
 |vs,cs,0,x=>by exact x
 | [],_,n+1,x=>by rw[x.nil_inv];exact VRs.nil
 |_::_,_,n+1,x=>by refine bw x.cons_inv λc r B a b=>?_;subst B;exact b.drop n
theorem VRs.take:∀{vs:List V}{cs:List Value}(n:Nat),VRs sa h vs cs->VRs sa h (vs.take n) (cs.take n)
 |vs,cs,0,x=>by exact VRs.nil
 | [],_,n+1,x=>by rw[x.nil_inv];exact VRs.nil
 |_::_,_,n+1,x=>by refine bw x.cons_inv λc r B a b=>?_;subst B;exact VRs.cons a (b.take n)
theorem VRs.dropLast:∀{vs:List V}{cs:List Value},VRs sa h vs cs->VRs sa h vs.dropLast cs.dropLast
 | [],_,x=>by rw[x.nil_inv];exact VRs.nil
 | [v],_,x=>by refine bw x.cons_inv λc r G a b=>?_;subst G;rw[b.nil_inv];exact VRs.nil
 |v::w::vs,_,x=>by refine bw x.cons_inv λc r J a b=>?_;subst J;refine bw b.cons_inv λO r' F a' b'=>?_;subst F;obtain B:=(VRs.cons a' b').dropLast;exact VRs.cons a B
theorem VR.none':VR sa h .none .none:=by rfl
theorem VR.bool'(b:Bool):VR sa h (.bool b) (.bool b):=by rfl
theorem VR.int'(i:Int)(t:Tok):VR sa h (.int i) (.int i t):=by exact⟨t,rfl⟩
theorem VR.str'(s:String)(t:Tok):VR sa h (.str s) (.str (Str.ofString s) t):=by exact⟨t,rfl⟩
theorem VR.ref'(a:Addr):VR sa h (.ref a) (.ref a):=by rfl
theorem VR.none_inv(x:VR sa h .none c):c=.none:=x
theorem VR.scr_inv(x:VR sa h .scr c):c=.ref sa.a:=x
theorem VR.bool_inv{b:Bool}(x:VR sa h (.bool b) c):c=.bool b:=x
theorem VR.int_inv{i:Int}(x:VR sa h (.int i) c):∃t,c=.int i t:=x
theorem VR.str_inv{s:String}(x:VR sa h (.str s) c):∃t,c=.str (Str.ofString s) t:=x
theorem VR.ref_inv(x:VR sa h (.ref a) c):c=.ref a:=x
theorem VR.tup_inv(x:VR sa h (.tup vs) c):∃a cvs,c=.ref a/\IsTup h a cvs/\VRs sa h vs cvs.toList:=by refine rV x λa cvs n e _ B r=>?_;obtain⟨o,F,hc,hd⟩:=B;exact(bc a cvs e (bb o F hc (mw n hd)) r)
section
variable{c:Value}{P:Value->Prop}
theorem VR.none_el(x:VR sa h .none c)(k:P .none):P c:=by rw[x.none_inv];exact k
theorem VR.ref_el(x:VR sa h (.ref a) c)(k:P (.ref a)):P c:=by rw[x.ref_inv];exact k
theorem VR.int_el{i:Int}(x:VR sa h (.int i) c)(k:∀t,P (.int i t)):P c:=by refine bR x.int_inv λt B=>?_;subst B;exact k t
theorem VR.str_el{i:String}(x:VR sa h (.str i) c)(k:∀t,P (.str (Str.ofString i) t)):P c:=by refine bR x.str_inv λt B=>?_;subst B;exact k t
theorem VR.tup_el(x:VR sa h (.tup vs) c)(k:∀a cvs,IsTup h a cvs->VRs sa h vs cvs.toList->P (.ref a)):P c:=by refine bw x.tup_inv λa cvs B b d=>?_;subst B;exact k a cvs b d
end
theorem VRs.nil_el{P:List Value->Prop}(x:VRs sa h [] cs)(k:P []):P cs:=by rw[x.nil_inv];exact k
theorem VRs.one_el{v:V}{P:List Value->Prop}(x:VRs sa h [v] cs)(k:∀c,VR sa h v c->P [c]):P cs:=by refine bw x.cons_inv λc r B a b=>?_;subst B;rw[b.nil_inv];exact k c a
theorem VRs.two_el{v w:V}{P:List Value->Prop}(x:VRs sa h [v,w] cs)(k:∀c d,VR sa h v c->VR sa h w d->P [c,d]):P cs:=by refine bw x.cons_inv λc r B a b=>?_;subst B;apply b.one_el;intro d e;exact k c d a e
theorem VR.tup'{cvs:Array Value}(nx:¬sa.X a)(t:IsTup h a cvs)(r:VRs sa h vs cvs.toList):VR sa h (.tup vs) (.ref a):=by refine cL t λo F hc B=>?_;refine bR B λn hd=>?_;exact(md a cvs n rfl nx (bb o F hc hd) r)
end
section
variable{sa:SX}
mutual
theorem VR.more{T:Addr}(hT:h.get? T=none):∀{v:V}{c:Value},VR sa h v c->VR ⟨sa.a,λb=>sa.X b\/b=T⟩ h v c
 | .none,_,x=>by unfold VR at *;exact x
 | .scr,_,x=>by unfold VR at *;exact x
 | .bool _,_,x=>by unfold VR at *;exact x
 | .int _,_,x=>by unfold VR at *;exact x
 | .str _,_,x=>by unfold VR at *;exact x
 | .ref _,_,x=>by unfold VR at *;exact x
 | .tup vs,_,x=>by unfold VR at *;refine rV x λa cvs n e nx B r=>?_;obtain⟨o,F,hc,hd⟩:=B;exact(md a cvs n e (λz=>by rcases z with z|z;exact nx z;rw[z,hT]at F;exact ns F) (bb o F hc hd) (VRs.more hT r))
theorem VRs.more{T:Addr}(hT:h.get? T=none):∀{vs:List V}{cs:List Value},VRs sa h vs cs->VRs ⟨sa.a,λb=>sa.X b\/b=T⟩ h vs cs
 | [],_,x=>by unfold VRs at *;exact x
 |v::vs,_,x=>by unfold VRs at *;refine bw x λc cs e a b=>?_;exact(bc c cs e (VR.more hT a) (VRs.more hT b))
end
mutual
theorem VR.less(hX:∀b,X' b->sa.X b):∀{v:V}{c:Value},VR sa h v c->VR ⟨sa.a,X'⟩ h v c
 | .none,_,x=>by unfold VR at *;exact x
 | .scr,_,x=>by unfold VR at *;exact x
 | .bool _,_,x=>by unfold VR at *;exact x
 | .int _,_,x=>by unfold VR at *;exact x
 | .str _,_,x=>by unfold VR at *;exact x
 | .ref _,_,x=>by unfold VR at *;exact x
 | .tup vs,_,x=>by unfold VR at *;refine rV x λa cvs n e nx B r=>?_;obtain⟨o,F,hc,hd⟩:=B;exact(md a cvs n e (λz=>nx (hX _ z)) ⟨o,F,hc,hd⟩ (VRs.less hX r))
theorem VRs.less(hX:∀b,X' b->sa.X b):∀{vs:List V}{cs:List Value},VRs sa h vs cs->VRs ⟨sa.a,X'⟩ h vs cs
 | [],_,x=>by unfold VRs at *;exact x
 |v::vs,_,x=>by unfold VRs at *;refine bw x λc cs e a b=>?_;exact(bc c cs e (VR.less hX a) (VRs.less hX b))
end
end
mutual
noncomputable def cz:V->Bool
 | .none=>true
 | .int _=>true
 | .str _=>true
 | .tup vs=>bu vs
 |_=>false
noncomputable def bu:List V->Bool
 | []=>true
 |v::vs=>cz v&&bu vs
end
mutual
noncomputable def az:V->Nat
 | .tup vs=>br vs+1
 |_=>0
noncomputable def br:List V->Nat
 | []=>0
 |v::vs=>max (az v) (br vs)
end
mutual
noncomputable def xu:V->PyData
 | .none=>.none
 | .bool b=>.bool b
 | .int i=>.int i
 | .str s=>.str (Str.ofString s)
 | .tup vs=>.tuple (dC vs)
 |_=>.none
noncomputable def dC:List V->List PyData
 | []=>[]
 |v::vs=>xu v::dC vs
end
theorem aZ{s t:String}(h:Str.ofString s=Str.ofString t):s=t:=by
 rw[Str.ofString_eq_toList,Str.ofString_eq_toList]at h;obtain B:=j6 (λx:Str=>x.cps.toList) h;simp only at B
 have:∀(l m:List Char),l.map (λc=>c.toNat)=m.map (λc=>c.toNat)->l=m:=by
  intro l;induction l with
  |nil=>intro m e;cases m with|nil=>rfl|cons _ _=>simp at e
  |cons c l G =>
   intro m e;rcases m with _|⟨d,m⟩
   ·simp at e
   ·simp only[List.map_cons,List.cons.injEq]at e;rw[G m e.2];obtain this:=Char.toNat_inj.mp e.1;rw[this]
 obtain F:=this s.toList t.toList (by simpa using B);exact String.toList_inj.mp F
theorem tu(s:String):PyData.strOk (Str.ofString s)=true:=by rw[Str.ofString_eq_toList];unfold PyData.strOk;simp only[List.all_toArray,List.all_map,List.all_eq_true];intro c _;simp only[Function.comp,decide_eq_true_eq];obtain B:=c.valid;unfold UInt32.isValidChar Nat.isValidChar at B;exact RC B
end
variable{H' H0:AH}
section
variable{c:Value}
section
variable{sa:SX}
theorem vi{P:V->Prop}{Q:List V->Prop}(none:P .none)(int:∀i,P (.int i))(str:∀s,P (.str s))(tup:∀vs,bu vs=true->Q vs->P (.tup vs))(nil:Q [])(cons:∀v vs,cz v=true->bu vs=true->P v->Q vs->Q (v::vs)):(∀v,cz v=true->P v)/\∀vs,bu vs=true->Q vs :=
 have c:∀v vs,(cz v=true->P v)->(bu vs=true->Q vs)->bu (v::vs)=true->Q (v::vs):=λv vs a b p=>have p:=(p9 _ _).mp p;cons v vs p.1 p.2 (a p.1) (b p.2)
 have h:∀v,cz v=true->P v:=λv=>V.rec (motive_1:=λv=>cz v=true->P v) (motive_2:=λvs=>bu vs=true->Q vs) (λ_=>none) ag (λ_=>ag) (λi _=>int i) (λs _=>str s) (λvs b p=>tup vs p (b p)) (λ_=>ag) (λ_=>nil) c v
 ⟨h,λvs=>List.rec (λ_=>nil) (λv vs B=>c v vs (h v) B) vs⟩
theorem qj:(∀v,cz v=true->∀{c:Value},VR sa h v c->∃as,Reads h c (xu v) as)/\∀vs,bu vs=true->∀{cs:List Value},VRs sa h vs cs->∃as,ReadsAll h cs (dC vs) as :=
 vi (λx=>x.none_inv▸⟨_,.none⟩) (λ_ _ x=>x.int_el (P:=λc=>∃as,Reads h c _ as) λ_=>⟨_,.int _ _⟩) (λ_ _ x=>x.str_el (P:=λc=>∃as,Reads h c _ as) λ_=>⟨_,.str _ _⟩)
  (λvs _ J c x=>x.tup_el (P:=λc=>∃as,Reads h c _ as) λa cvs G r=>cL G λo F hc B=>bR B λn hd=>bR (J r) λas q=>⟨as,reads_tuple_at F hc hd q⟩)
  (λx=>x.nil_inv▸⟨_,.nil⟩)
  (λv vs _ _ a b cs x=>bw x.cons_inv λc r e i j=>bR (a i) λas q=>bR (b j) λQ O=>e▸⟨_,.cons q O⟩)
theorem VR.reads{v:V}(x:VR sa h v c)(p:cz v=true):∃as,Reads h c (xu v) as:=qj.1 v p x
theorem VRs.reads{cs:List Value}(x:VRs sa h vs cs)(p:bu vs=true):∃as,ReadsAll h cs (dC vs) as:=qj.2 vs p x
end
theorem wA:(∀v,cz v=true->(xu v).canLay0=true/\(xu v).depth<=az v)/\∀vs,bu vs=true->PyData.canLayAll0 (dC vs)=true/\PyData.depthAll (dC vs)<=br vs :=
 vi ⟨rfl,f7 _⟩ (λ_=>⟨rfl,f7 _⟩) (λ_=>⟨tu _,f7 _⟩) (λ_ _ h=>⟨h.1,Rj h.2⟩) ⟨rfl,f7 _⟩
  (λ_ _ _ _ a b=>⟨(p9 _ _).mpr ⟨a.1,b.1⟩,RD a.2 b.2⟩)
theorem gy(v:V)(p:cz v=true):(xu v).canLay0=true/\(xu v).depth<=az v:=wA.1 v p
theorem im(vs:List V)(p:bu vs=true):PyData.canLayAll0 (dC vs)=true/\PyData.depthAll (dC vs)<=br vs:=wA.2 vs p
theorem wl:(∀v,cz v=true->∀w,cz w=true->(PyData.eqv (xu v) (xu w)=true↔v=w))/\∀vs,bu vs=true->∀ws,bu ws=true->(PyData.eqvAll (dC vs) (dC ws)=true↔vs=ws):=by
 have B:∀{a b:V},(a=b->False)->(false=true↔a=b):=λf=>⟨ag,λe=>(f e).elim⟩;refine vi (λw q=>?_) (λi w q=>?_) (λs w q=>?_) (λvs p F w q=>?_) (λws q=>?_) (λv vs _ _ a b ws q=>?_)
 ·cases w with
  |none=>exact⟨λ_=>rfl,λ_=>rfl⟩
  |tup _=>exact B V.noConfusion
  |int _=>exact B V.noConfusion
  |str _=>exact B V.noConfusion
  |_=>exact ag q
 ·cases w with
  |int j=>exact⟨λh=>j6 V.int (u5 h),λe=>z5.mpr (V.int.inj e)⟩
  |none=>exact B V.noConfusion
  |tup _=>exact B V.noConfusion
  |str _=>exact B V.noConfusion
  |_=>exact ag q
 ·cases w with
  |str t=>exact⟨λh=>j6 V.str (aZ (u5 h)),λe=>z5.mpr (j6 _ (V.str.inj e))⟩
  |none=>exact B V.noConfusion
  |tup _=>exact B V.noConfusion
  |int _=>exact B V.noConfusion
  |_=>exact ag q
 ·cases w with
  |tup ws=>exact(F ws q).trans ⟨j6 V.tup,V.tup.inj⟩
  |none=>exact B V.noConfusion
  |str _=>exact B V.noConfusion
  |int _=>exact B V.noConfusion
  |_=>exact ag q
 ·cases ws with
  |nil=>exact⟨λ_=>rfl,λ_=>rfl⟩
  |cons _ _=>exact⟨ag,λe=>(o9 _ _ e.symm).elim⟩
 ·cases ws with
  |nil=>exact⟨ag,λe=>(o9 _ _ e).elim⟩
  |cons w ws =>have q:=(p9 _ _).mp q;exact(by rw[List.cons.injEq,<- a w q.1,<- b ws q.2];exact Iff.of_eq (p9 _ _))
theorem iM{v w:V}(p:cz v=true)(q:cz w=true):PyData.eqv (xu v) (xu w)=cM v w:=by
 cases h:cM v w with
 |true=>exact(wl.1 v p w q).mpr ((bt _ _).mp h)
 |false=>exact G9.mpr λx=>aN.mp h ((wl.1 v p w q).mp x)
mutual
noncomputable def aO:V->Bool
 | .int _=>true
 | .str _=>true
 | .tup vs=>bG vs
 |_=>false
noncomputable def bG:List V->Bool
 | []=>true
 |v::vs=>aO v&&bG vs
end
theorem wy{P:V->Prop}{Q:List V->Prop}(int:∀i,P (.int i))(str:∀s,P (.str s))(tup:∀vs,bG vs=true->Q vs->P (.tup vs))(nil:Q [])(cons:∀v vs,aO v=true->bG vs=true->P v->Q vs->Q (v::vs))(v:V):aO v=true->P v :=V.rec (motive_1:=λv=>aO v=true->P v) (motive_2:=λvs=>bG vs=true->Q vs) ag ag (λ_=>ag) (λi _=>int i) (λs _=>str s) (λvs b p=>tup vs p (b p)) (λ_=>ag) (λ_=>nil) (λv vs a b p=>have p:=(p9 _ _).mp p;cons v vs p.1 p.2 (a p.1) (b p.2)) v
theorem bD:∀(v:V),aO v=true->cz v=true :=wy (Q:=λvs=>bu vs=true) (λ_=>rfl) (λ_=>rfl) (λ_ _ h=>h) rfl (λ_ _ _ _ a b=>(p9 _ _).mpr ⟨a,b⟩)
mutual
noncomputable def aF(w:World):V->Int
 | .int i=>hashInt i
 | .str s=>hashStr w (Str.ofString s)
 | .tup vs=>reduceHash (Builtin.Tuple.tupleHashOf (cT w vs))
 |_=>0
noncomputable def cT(w:World):List V->List Int
 | []=>[]
 |v::vs=>aF w v::cT w vs
end
mutual
noncomputable def oV:V->Nat
 | .int _=>1
 | .str _=>1
 | .tup vs=>mK vs+1
 |_=>0
noncomputable def mK:List V->Nat
 | []=>0
 |v::vs=>oV v+mK vs
end
section
variable{sa:SX}
theorem qW{P:V->Value->Prop}{Q:List V->List Value->Prop}(int:∀i t,P (.int i) (.int i t))(str:∀s t,P (.str s) (.str (Str.ofString s) t))(tup:∀vs a cvs,bG vs=true->IsTup h a cvs->VRs sa h vs cvs.toList->Q vs cvs.toList->P (.tup vs) (.ref a))(nil:Q [] [])(cons:∀v vs c cs,aO v=true->bG vs=true->VR sa h v c->VRs sa h vs cs->P v c->Q vs cs->Q (v::vs) (c::cs)){v:V}(p:aO v=true)(r:VR sa h v c):P v c :=
 wy (P:=λv=>∀c,VR sa h v c->P v c) (Q:=λvs=>∀cs,VRs sa h vs cs->Q vs cs) (λi c r=>r.int_el (int i)) (λs c r=>r.str_el (str s)) (λvs p F c r=>r.tup_el λa cvs B r=>tup vs a cvs p B r (F _ r)) (λcs r=>r.nil_el nil)
  (λv vs p ps a b cs r=>bw r.cons_inv λc r e i j=>e▸cons v vs c r p ps i j (a c i) (b r j)) v p c r
theorem VR.inj{y:V}(p:aO x=true)(q:aO y=true)(a:VR sa h x c)(b:VR sa h y c):x=y:=by
 refine qW (P:=λx c=>∀y,aO y=true->VR sa h y c->x=y) (Q:=λxs cs=>∀ys,bG ys=true->VRs sa h ys cs->xs=ys) (λi t y q b=>?_) (λs t y q b=>?_) (λvs a cvs p ht r ih y q b=>?_) (λys q b=>?_) (λx xs c cs p ps r rs a b ys q r'=>?_) p a y q b
 ·cases y with
  |int j=>exact bR b.int_inv λu e=>Value.noConfusion e λe _=>e▸rfl
  |str s=>exact bR b.str_inv λu e=>Value.noConfusion e
  |tup vs=>exact bw b.tup_inv λ_ _ e _ _=>Value.noConfusion e
  |_=>exact ag q
 ·cases y with
  |int j=>exact bR b.int_inv λu e=>Value.noConfusion e
  |str s=>exact bR b.str_inv λu e=>Value.noConfusion e λe _=>aZ e▸rfl
  |tup vs=>exact bw b.tup_inv λ_ _ e _ _=>Value.noConfusion e
  |_=>exact ag q
 ·cases y with
  |int j=>exact bR b.int_inv λu e=>Value.noConfusion e
  |str s=>exact bR b.str_inv λu e=>Value.noConfusion e
  |tup ws =>refine bw b.tup_inv λY O e J r'=>?_;obtain rfl:=Value.ref.inj e;refine cL ht λo ho _ Z=>bR Z λn hd=>cL J λo' G _ F=>bR F λn' B=>?_;obtain rfl:=c9 (ho.symm.trans G);obtain⟨rfl,_⟩:=Data.seq.inj (hd.symm.trans B);exact j6 V.tup (ih ws q r')
  |_=>exact ag q
 ·cases ys with
  |nil=>rfl
  |cons _ _=>exact cb b.cons_inv λ_ _ e _=>(o9 _ _ e.symm).elim
 ·cases ys with
  |nil=>exact(o9 _ _ r'.nil_inv).elim
  |cons y ys =>have q:=(p9 _ _).mp q;refine bw r'.cons_inv λc' r' e b1 b2=>?_;obtain⟨rfl,rfl⟩:=J1 e;rw[a y q.1 b1,b ys q.2 b2]
theorem VR.pyHash{A:Around}{Q:Int->Shared->Prop}(p:aO x=true)(u:A.units+az x<cLine)(r:VR sa s.heap x c)(h:Q (aF w x) { s with toks:=s.toks+oV x }):wpAny (model prog w) A (PySem.pyHash c) Q E s:=by
 refine qW (P:=λx c=>∀(A:Around)(n:Nat)(Q:Int->Shared->Prop),A.units+az x<cLine->Q (aF w x) { s with toks:=n+oV x }->wpAny (model prog w) A (PySem.pyHash c) Q E { s with toks:=n })
  (Q:=λxs cs=>∀(A:Around)(n:Nat)(Q:Array Int->Shared->Prop)(b:Array Int),A.units+br xs<cLine->Q (b++(cT w xs).toArray) { s with toks:=n+mK xs }->wpAny (model prog w) A (forIn cs b λx b=>(do let h <- PySem.pyHash x;pure (ForInStep.yield (b.push h)))) Q E { s with toks:=n })
  (λi t A n Q _ h=>wpAny_pyHash_int h) (λ_ t A n Q _ h=>wpAny_pyHash_str h) (λvs a cvs p J r Y A n Q u h=>?_) (λA n Q b _ h=>a9 h) (λx xs c cs p ps r rs a b' A n Q b u h=>?_) p r A s.toks Q u h
 ·obtain hT:=J.typeIs (s:={ s with toks:=n });refine cL J λo O _ B=>?_;refine bR B λk hd=>?_;refine ac (wpAny_cRoomFor_or (.inr (Rk u)) ?_);refine ac (z8 hT F.slot_tuple_hash.lookup ?_);rw[if_neg (by rw[beq_builtin_none];exact n7)];refine ac (z8 hT F.slot_tuple_hash.lookup ?_);refine ac (wpAny_callSpecialIfBoundUnlessNone?_slot hT F.slot_tuple_hash (n6 F.slot_tuple_hash hT F.entry_tuple_hash ?_ (F.args_tuple_hash_1 _)));show wpAny _ _ (Builtin.Tuple.tupleItemsOf (.ref a) >>= _) _ _ _;refine ac (L3 O hd ?_);refine ac ?_;rw[<- Array.forIn_toList];refine Y _ _ _ #[] (RE u) ?_;show wpAny _ _ (retInt (Builtin.Tuple.tupleHashOf _)) _ _ _;rw[(by simp:(#[]++(cT w vs).toArray:Array Int).toList=cT w vs)];refine wpAny_ret_mkInt ?_;have h:Q (reduceHash (Builtin.Tuple.tupleHashOf (cT w vs))) { s with toks:=n+mK vs+1 }:=h;unfold reduceHash at h;show wpAny _ _ (if(decide (-(2:Int)^63<=Builtin.Tuple.tupleHashOf (cT w vs))&&decide (Builtin.Tuple.tupleHashOf (cT w vs)<2^63))=true then _ else _) Q E _;by_cases G:(decide (-(2:Int)^63<=Builtin.Tuple.tupleHashOf (cT w vs))&&decide (Builtin.Tuple.tupleHashOf (cT w vs)<2^63))=true
  ·rw[if_pos G]at h ⊢;exact a9 h
  ·rw[if_neg G]at h ⊢;exact ac (y3 (a9 h))
 ·rw[List.forIn_cons];refine ac (ac (a _ n _ (RF u) (a9 (b' _ _ _ _ (RG u) ?_))));rw[(by apply Array.toList_inj.mp;simp:(b.push (aF w x)++(cT w xs).toArray)=b++(aF w x::cT w xs).toArray),Nat.add_assoc];exact h
end
end
section
variable{sa:SX}
theorem VR.eqBool{A:Around}{y:V}{c d:Value}{Q:Bool->Shared->Prop}(B:cz x=true)(F:cz y=true)(J:A.units+min (az x) (az y)<cLine)(Y:VR sa s.heap x c)(Z:VR sa s.heap y d)(h:Q (cM x y) s):wpAny (model prog w) A (PySem.eqBool c d) Q E s:=by refine bR (Y.reads B) λas O=>?_;refine bR (Z.reads F) λG P=>?_;obtain la:=gy x B;obtain lb:=gy y F;refine SeqAt.eqAt_reads _ _ A s c d as G O P la.1 lb.1 (RH J la.2 lb.2) prog w E Q ?_;rw[iM B F];exact h
theorem fq{A:Around}{cs:List Value}{f:Value->Option Bool×PUnit->Sem (ForInStep (Option Bool×PUnit))}{Q:Option Bool×PUnit->Shared->Prop}(B:∀c∈cs,∀(R:ForInStep (Option Bool×PUnit)->Shared->Prop),R (.yield (none,.unit)) s->wpAny (model prog w) A (f c (none,.unit)) R E s)(h:Q (none,.unit) s):wpAny (model prog w) A (forIn cs (none,.unit) f) Q E s:=by
 induction cs with
 |nil=>exact a9 h
 |cons c cs F =>rw[List.forIn_cons];exact ac (B c d6 _ (F λc hc=>B c (d7 _ hc)))
theorem zV{P:Nat->Value->Prop}(int:∀n i t,P n (.int i t))(str:∀n s t,P n (.str s t))(tup:∀n a cvs,IsTup s.heap a cvs->(∀c∈cvs.toList,P n c)->P (n+1) (.ref a)){c:Value}{n:Nat}(p:aO x=true)(u:az x<=n)(r:VR sa s.heap x c):P n c :=
 qW (P:=λx c=>∀n,az x<=n->P n c) (Q:=λxs cs=>∀n,br xs<=n->∀c∈cs,P n c) (λi t n _=>int n i t) (λ_ t n _=>str n _ t)
  (λvs a cvs _ B _ F n u=>by
   rcases n with _|n
   ·exact(Rl u).elim
   ·exact tup n a cvs B (F n (HC u)))
  (λ_ _ _ h=>absurd h i6)
  (λ_ _ _ _ _ _ _ _ a b n u=>J4.mpr ⟨a n (FI u),b n (CI u)⟩) p r n u
theorem VR.quiet{A:Around}{c:Value}{n:Nat}{Q:Bool->Shared->Prop}(p:aO x=true)(u:az x<=n)(r:VR sa s.heap x c)(h:Q true s):wpAny (model prog w) A (eqIsQuiet n c) Q E s:=by
 refine zV (P:=λn c=>∀Q:Bool->Shared->Prop,Q true s->wpAny (model prog w) A (eqIsQuiet n c) Q E s) (λn i t Q h=>?_) (λn x t Q h=>?_) (λn a cvs B J Q h=>?_) p u r Q h
 ·rw[eqIsQuiet_byValue _ rfl];exact a9 h
 ·rw[eqIsQuiet_byValue _ rfl];exact a9 h
 ·obtain hT:=B.typeIs (s:=s);refine cL B λo G _ cC=>?_;refine bR cC λk hd=>?_;unfold eqIsQuiet;refine ac (z8 hT F.slot_tuple_eq.lookup ?_);refine ac (C0 hT isSubtype_tuple_tuple ?_);refine ac (t6 G hd ?_);refine ac ?_;rw[<- Array.forIn_toList];exact fq (λc hc R h=>ac (J c hc _ (a9 h))) (a9 h)
noncomputable def Bu(sa:SX)(prog:Program)(w:World):@HeapKind prog w V vdec :=
 @HeapKind.mk prog w V vdec
  (λh x a=>(∃vs,x=.tup vs)/\aO x=true/\az x<=8/\VR sa h x (.ref a))
  (aF w) oV (λA=>A.units+8<cLine)
  (λJ O=>VR.inj J.2.1 O.2.1 J.2.2.2 O.2.2.2)
  (λ{h h' k a d o es ep} x P hd hs=>by
   refine(mu x.1 x.2.1 x.2.2.1 (x.2.2.2.keep λb ob _ e hc ⟨xs,n,hq⟩=>?_));by_cases G:b=d
   ·subst G;obtain rfl:ob=o:=c9 (e.symm.trans P);rw[hd]at hq;cases hq
   ·exact(hs.2 b G).trans e)
  (λF x h=>VR.pyHash x.2.1 (by obtain B:=x.2.2.1;exact HX x.2.2.1 F) x.2.2.2 h)
  (λF x y h=>VR.eqBool (bD _ x.2.1) (bD _ y.2.1) (by obtain B:=x.2.2.1;exact PS y.2.2.1 F) x.2.2.2 y.2.2.2 h)
  (λx h=>VR.quiet x.2.1 x.2.2.1 x.2.2.2 h)
noncomputable def oJ:V->Value->Bool
 | .int i,v=>Value.isInt i v
 | .str s,v=>Value.isStrOf (Str.ofString s) v
 |_,_=>false
noncomputable def qU:V->Bool
 | .int _=>true
 | .str _=>true
 |_=>false
theorem bg{k:V}{v:Value}(h:oJ k v=true):(∃i t,k=.int i/\v=.int i t)\/(∃s t,k=.str s/\v=.str (Str.ofString s) t):=by
 cases k with
 |int i=>refine bR (Value.isInt_shape h) λt e=>?_;exact .inl (fA i t rfl e)
 |str s=>refine bR (Value.isStrOf_shape h) λt e=>?_;exact .inr (fA s t rfl e)
 |_=>exact ag h
theorem cF{k:V}{v:Value}(hk:qU k=true)(r:VR sa h k v):oJ k v=true:=by
 cases k with
 |int i=>apply r.int_el;intro t;simp[oJ,Value.isInt]
 |str s=>apply r.str_el;intro t;simp[oJ,Value.isStrOf]
 |_=>exact ag hk
theorem mR{k:V}{v:Value}(hk:oJ k v=true):VR sa h k v:=by
 rcases bg hk with⟨i,t,rfl,rfl⟩|⟨s,t,rfl,rfl⟩
 ·exact VR.int' _ _
 ·exact VR.str' _ _
noncomputable def bH(prog:Program)(w:World):@KeyKind prog w V vdec :=
 @KeyKind.mk prog w V vdec oJ (aF w)
  (λv a b G J=>by
   rcases bg G with⟨i,t,rfl,rfl⟩|⟨s,t,rfl,rfl⟩ <;> rcases bg J with⟨j,u,rfl,e⟩|⟨s',u,rfl,e⟩
   ·injection e with e;rw[e]
   ·exact Value.noConfusion e
   ·exact Value.noConfusion e
   ·injection e with e;rw[aZ e])
  (λk v h=>by rcases bg h with⟨i,t,rfl,rfl⟩|⟨s,t,rfl,rfl⟩ <;> rfl)
  (λ{A E s k v Q} hv h=>by
   rcases bg hv with⟨i,t,rfl,rfl⟩|⟨x,t,rfl,rfl⟩
   ·exact wpAny_pyHash_int h
   ·exact wpAny_pyHash_str h)
  (λ{A E s a b u v Q} O hv h=>by
   rcases bg O with⟨i,t,rfl,rfl⟩|⟨x,t,rfl,rfl⟩
   ·rcases bg hv with⟨j,t',rfl,rfl⟩|⟨y,t',rfl,rfl⟩
    ·refine wpAny_eqBool_int ?_;have e:(i==j)=@decide (V.int i=V.int j) (vdec _ _):=by
      by_cases q:i=j
      ·subst q;simp
      ·obtain B:V.int i≠V.int j:=λz=>q (by injection z);simp[q]
     rw[e];exact h
    ·refine SeqAt.EqAt.int_str (A:=A) (s:=s) i t (Str.ofString y) t' prog w E Q ?_;rw[show @decide (V.int i=V.str y) (vdec _ _)=false from @decide_eq_false _ (vdec _ _) (λz=>V.noConfusion z)]at h;exact h
   ·rcases bg hv with⟨j,t',rfl,rfl⟩|⟨y,t',rfl,rfl⟩
    ·refine SeqAt.EqAt.str_int (A:=A) (s:=s) (Str.ofString x) t j t' prog w E Q ?_;rw[show @decide (V.str x=V.int j) (vdec _ _)=false from @decide_eq_false _ (vdec _ _) (λz=>V.noConfusion z)]at h;exact h
    ·refine wpAny_eqBool_str ?_;have e:decide (Str.ofString x=Str.ofString y)=@decide (V.str x=V.str y) (vdec _ _):=by
      by_cases q:x=y
      ·subst q;simp
      ·obtain P:V.str x≠V.str y:=λz=>q (by injection z);obtain F:Str.ofString x≠Str.ofString y:=λz=>q (aZ z);simp[q];exact F
     rw[e];exact h)
  (λk x t v h=>by
   rcases bg h with⟨i,t',rfl,e⟩|⟨s,t',rfl,e⟩
   ·exact Value.noConfusion e
   ·injection e with e;subst e;cases v <;> rfl)
end
section
variable{x:AO}
structure Sx where
 prog:Program
 w:World
 K:Frag
 base:Heap
 sad:Addr
 svs:List Int
 fn:String->Option Addr
 meth:String->String->Option Addr
 cls:String->Option Addr
 gv:String->Option V
 flds:String->List String
structure Cx extends Sx where
 X:Addr->Prop
 hX:∀b,X b->base.get? b=none
noncomputable abbrev Cx.sa(Γ:Cx):SX:=⟨Γ.sad,Γ.X⟩
noncomputable def ER(Γ:Cx)(h:Heap):List (V×V)->List DictEntry->Prop
 | [],l=>l=[]
 |(k,v)::r,l=>∃e es,l=e::es/\VR Γ.sa h k e.key/\e.hash=aF Γ.w k/\VR Γ.sa h v e.val/\ER Γ h r es
noncomputable def cW:V->Nat
 | .int _=>1
 | .str _=>1
 | .tup vs=>if aO (.tup vs)&&decide (az (.tup vs)<=8)then 2 else 0
 |_=>0
def dictOK(kvs:List (V×V)):Prop:=(kvs.map (·.1)).Nodup/\∃c,c≠0/\∀p∈kvs,cW p.1=c
noncomputable abbrev dq(cvs:Array Value)(n:Nat):Obj:={ cls:=.type "list",data:=.seq cvs n }
noncomputable abbrev aV(es:Array DictEntry)(n:Nat):Obj:={ cls:=.type "dict",data:=.dict es n }
def ORel(Γ:Cx)(h:Heap)(o:Obj):AO->Prop
 | .list vs=>∃cvs n,o=dq cvs n/\VRs Γ.sa h vs cvs.toList
 | .dict kvs=>∃es n,o=aV es n/\ER Γ h kvs es.toList/\dictOK kvs
 | .inst c dx=>∃C,Γ.cls c=some C/\o=instObj C dx
theorem ER.keep{Γ:Cx}(k:TupKeep Γ.sa h h'):∀{kvs:List (V×V)}{es:List DictEntry},ER Γ h kvs es->ER Γ h' kvs es
 | [],_,x=>x
 |(_,_)::_,_,x=>by refine rU x λe es aP a b c d=>?_;subst aP;exact(mN e es rfl (a.keep k) b (c.keep k) (ER.keep k d))
theorem ORel.keep{Γ:Cx}(k:TupKeep Γ.sa h h')(r:ORel Γ h o x):ORel Γ h' o x:=by
 rcases x with vs|kvs|⟨c,dx⟩
 ·refine cb r λc n e r=>?_;exact(fA c n e (r.keep k))
 ·refine bw r λc n e r d=>?_;exact(bc c n e (r.keep k) d)
 ·exact r
theorem ORel.notTup{Γ:Cx}(r:ORel Γ h o x):o.cls=.type "tuple"->(∃xs n,o.data=.seq xs n)->False:=by
 intro hc ⟨xs,n,hd⟩;rcases x with vs|kvs|⟨c,dx⟩
 ·refine cb r λc n bx r=>?_;subst bx;simp at hc
 ·refine cb r λc n bK r=>?_;subst bK;simp at hc
 ·refine af r λC _ cC=>?_;subst cC;simp at hc
theorem ORel.notFreed{Γ:Cx}(r:ORel Γ h o x):o.isFreed=false:=by
 rcases x with vs|kvs|⟨c,dx⟩
 ·refine cb r λc n dj r=>?_;subst dj;rfl
 ·refine cb r λc n B r=>?_;subst B;rfl
 ·refine af r λC _ F=>?_;subst F;rfl
structure Rel(Γ:Cx)(H:AH)(h:Heap):Prop where
 base:∀b o,Γ.base.get? b=some o->h.get? b=some o
 fresh:∀b o,H b=some o->Γ.base.get? b=none
 obj:∀a o,H a=some o->∃ob,h.get? a=some ob/\ORel Γ h ob o
 ex:∀b,Γ.X b->h.get? b≠none
theorem Rel.nx{Γ:Cx}{H:AH}(R:Rel Γ H h){b:Addr}(e:h.get? b=none):¬Γ.X b:=λz=>R.ex b z e
structure Step(Γ:Cx)(own:Addr->Prop)(H H':AH)(s s':Shared):Prop where
 gens:s'.gens=s.gens
 os:s'.os=s.os
 keep:∀b o,s.heap.get? b=some o->H b=none->¬own b->s'.heap.get? b=some o
 dom:∀b o,H' b=some o->H b≠none\/s.heap.get? b=none
 mono:∀b,H b≠none->H' b≠none
 live:∀b,s.heap.get? b≠none->s'.heap.get? b≠none
 tup:TupKeep Γ.sa s.heap s'.heap
 rel:Rel Γ H' s'.heap
abbrev dZ:Addr->Prop:=λ_=>False
theorem Rel.tup_none{Γ:Cx}{H:AH}(R:Rel Γ H h){b:Addr}(e:h.get? b=some o)(hc:o.cls=.type "tuple")(hd:∃xs n,o.data=.seq xs n):H b=none:=by
 rcases B:H b with _|x
 ·rfl
 ·refine af (R.obj b x B) λob e' r=>?_;obtain rfl:o=ob:=c9 (e.symm.trans e');exact(r.notTup hc hd).elim
namespace Step
variable{Γ:Cx}{own own':Addr->Prop}{H H'':AH}{s'':Shared}
theorem refl(R:Rel Γ H s.heap):Step Γ own H H s s :=⟨rfl,rfl,(λ_ _ e _ _=>e),(λb o e=>.inl (by simp[e])),(λ_ h=>h),(λ_ h=>h),TupKeep.refl _ _,R⟩
theorem dom_none(a:Step Γ own H H' s s'){b:Addr}(e:s.heap.get? b=some o)(h:H b=none):H' b=none:=by
 rcases B:H' b with _|y
 ·rfl
 ·rcases a.dom b y B with z|z <;> simp_all
theorem trans(a:Step Γ own H H' s s')(b:Step Γ own H' H'' s' s''):Step Γ own H H'' s s'':=by
 refine⟨b.gens.trans a.gens,b.os.trans a.os,λx o e G F=>b.keep x o (a.keep x o e G F) (a.dom_none e G) F,λx o e=>?_,
  λx h=>b.mono x (a.mono x h),λx h=>b.live x (a.live x h),a.tup.trans b.tup,b.rel⟩
 rcases b.dom x o e with z|z
 ·rcases B:H' x with _|y
  ·exact absurd B z
  ·exact a.dom x y B
 ·rcases hs:s.heap.get? x with _|o'
  ·exact .inr rfl
  ·exact absurd z (a.live x (by simp[hs]))
theorem weaken(a:Step Γ own H H' s s')(h:∀b,own b->own' b):Step Γ own' H H' s s' :=⟨a.gens,a.os,λx o e F B=>a.keep x o e F λz=>B (h x z),a.dom,a.mono,a.live,a.tup,a.rel⟩
theorem ofNo(a:Step Γ dZ H H' s s'):Step Γ own H H' s s':=a.weaken λ_ z=>z.elim
end Step
section
variable{Γ:Cx}{own:Addr->Prop}{H:AH}
theorem Step.grow(R:Rel Γ H s.heap)(J:s'.gens=s.gens)(O:s'.os=s.os)(k:∀b o,s.heap.get? b=some o->s'.heap.get? b=some o):Step Γ own H H s s':=by
 refine⟨J,O,λb o e _ _=>k b o e,λb o e=>.inl (by simp[e]),λ_ h=>h,λb h=>?_,TupKeep.of_keep k,?_⟩
 ·rcases e:s.heap.get? b with _|o
  ·exact absurd e h
  ·rw[k b o e];simp
 ·exact⟨λb o e=>k b o (R.base b o e),R.fresh,λa o e=>by refine af (R.obj a o e) λob B F=>?_;exact(aa ob (k a ob B) (F.keep (TupKeep.of_keep k))),λb G=>by
   rcases e:s.heap.get? b with _|o
   ·exact absurd e (R.ex b G)
   ·rw[k b o e];simp⟩
theorem Step.change(R:Rel Γ H s.heap){a:Addr}{x':AO}{ob':Obj}(Y:s'.gens=s.gens)(Z:s'.os=s.os)(G:H a=some x)(k:∀b o,b≠a->s.heap.get? b=some o->s'.heap.get? b=some o)(O:s'.heap.get? a=some ob')(r:ORel Γ s.heap ob' x'):Step Γ own H (H.set a x') s s':=by
 refine af (R.obj a x G) λob h1 h2=>?_;have tk:TupKeep Γ.sa s.heap s'.heap:=λb o _ e hc hd=>by
  by_cases B:b=a
  ·subst B;rw[R.tup_none e hc hd]at G;exact ns G
  ·exact k b o B e
 refine⟨Y,Z,λb o e B _=>k b o (λz=>by rw[z,G]at B;exact sn B) e,λb o e=>?_,λb h=>?_,λb h=>?_,tk,⟨λb o e=>?_,λb o e=>?_,λb o e=>?_,λb B=>?_⟩⟩
 ·by_cases B:b=a
  ·subst B;exact .inl (by simp[G])
  ·rw[AH.set_ne _ _ B]at e;exact .inl (by simp[e])
 ·by_cases B:b=a
  ·subst B;simp
  ·rw[AH.set_ne _ _ B];exact h
 ·by_cases B:b=a
  ·subst B;rw[O];simp
  ·cases e:s.heap.get? b with
   |none=>exact absurd e h
   |some o=>rw[k b o B e];simp
 ·by_cases B:b=a
  ·subst B;have:=R.fresh _ _ G;rw[e]at this;exact sn this
  ·exact k b o B (R.base b o e)
 ·by_cases B:b=a
  ·subst B;exact R.fresh _ _ G
  ·rw[AH.set_ne _ _ B]at e;exact R.fresh _ _ e
 ·by_cases B:b=a
  ·subst B;rw[AH.set_self]at e;obtain rfl:=c9 e;exact(aa ob' O (r.keep tk))
  ·rw[AH.set_ne _ _ B]at e;refine af (R.obj b o e) λF P Q=>?_;exact(aa F (k b F B P) (Q.keep tk))
 ·by_cases J:b=a
  ·subst J;rw[O];simp
  ·cases e:s.heap.get? b with
   |none=>exact absurd e (R.ex b B)
   |some o=>rw[k b o J e];simp
theorem Step.alloc(R:Rel Γ H s.heap){a:Addr}{ob:Obj}(hg:s'.gens=s.gens)(ho:s'.os=s.os)(G:s.heap.get? a=none)(k:∀b o,s.heap.get? b=some o->s'.heap.get? b=some o)(Z:s'.heap.get? a=some ob)(r:ORel Γ s'.heap ob x):Step Γ own H (H.set a x) s s'/\H a=none:=by
 have Y:H a=none:=by
  rcases e:H a with _|y
  ·rfl
  ·refine af (R.obj a y e) λob' O _=>?_;rw[G]at O;exact ns O
 have J:Γ.base.get? a=none:=by
  rcases e:Γ.base.get? a with _|y
  ·rfl
  ·rw[R.base a y e]at G;exact sn G
 refine⟨⟨hg,ho,λb o e _ _=>k b o e,λb o e=>?_,λb h=>?_,λb h=>?_,TupKeep.of_keep k,⟨λb o e=>k b o (R.base b o e),λb o e=>?_,λb o e=>?_,λb B=>?_⟩⟩,Y⟩
 ·by_cases B:b=a
  ·subst B;exact .inr G
  ·rw[AH.set_ne _ _ B]at e;exact .inl (by simp[e])
 ·by_cases B:b=a
  ·subst B;simp
  ·rw[AH.set_ne _ _ B];exact h
 ·rcases e:s.heap.get? b with _|o
  ·exact absurd e h
  ·rw[k b o e];simp
 ·by_cases B:b=a
  ·subst B;exact J
  ·rw[AH.set_ne _ _ B]at e;exact R.fresh _ _ e
 ·by_cases B:b=a
  ·subst B;rw[AH.set_self]at e;obtain rfl:=c9 e;exact(aa ob Z r)
  ·rw[AH.set_ne _ _ B]at e;refine af (R.obj b o e) λF P Q=>?_;exact(aa F (k b F P) (Q.keep (TupKeep.of_keep k)))
 ·rcases e:s.heap.get? b with _|o
  ·exact absurd e (R.ex b B)
  ·rw[k b o e];simp
end
end
variable{Γ:Cx}{σ:Sx}
section
set_option genCtorIdx false
noncomputable abbrev Loc:=String->Option V
noncomputable def Loc.put(l:Loc)(x:String)(v:V):Loc:=λy=>if y=x then some v else l y
@[simp] theorem Loc.put_self (l:Loc) (x:String) (v:V):l.put x v x=some v:=by simp[Loc.put]
theorem Loc.put_ne(l:Loc){x y:String}(v:V)(h:y≠x):l.put x v y=l y:=by simp[Loc.put,h]
structure Frame(Γ:Cx)(env:Env)(loc:Loc)(H:AH)(h:Heap):Prop where
 kind:env.scope.kind=.function
 glob:env.globals=mainGlobals
 blt:env.builtins=builtinsNs
 ns:∃m,h.Ns env.locals m/\∀x v,loc x=some v->env.kindOf (Str.ofString x)=some .local->∃cv,m (Str.ofString x)=some cv/\VR Γ.sa h v cv
 lH:H env.locals=none
 lB:Γ.base.get? env.locals=none
 above:Γ.base.objs.size<=env.locals
 cell:∀n c,env.cells.lookup n=some c->H c=none/\Γ.base.get? c=none/\∃cv,h.IsCell c cv
 cellv:∀x v,loc x=some v->(env.kindOf (Str.ofString x)=some .cell\/env.kindOf (Str.ofString x)=some .free) ->
  ∃c cv,env.cells.lookup (Str.ofString x)=some c/\h.IsCell c (some cv)/\VR Γ.sa h v cv
 hasCell:∀n,(env.kindOf n=some .cell\/env.kindOf n=some .free)->∃c,env.cells.lookup n=some c
 apart:env.cells.Pairwise λx y=>x.2≠y.2
def dw(env:Env):Addr->Prop:=λb=>b=env.locals\/∃n,env.cells.lookup n=some b
section
variable{loc:Loc}{H:AH}{own:Addr->Prop}
theorem Frame.step(F:Frame Γ env loc H s.heap)(S:Step Γ own H H' s s')(hl:∀m,s.heap.Ns env.locals m->s'.heap.Ns env.locals m)(hc:∀n c,env.cells.lookup n=some c->¬own c):Frame Γ env loc H' s'.heap:=by
 refine af F.ns λm P hm=>?_;obtain Q:s.heap.get? env.locals≠none:=by refine pj P λo _ _ e _=>?_;rw[e];simp
 refine⟨F.kind,F.glob,F.blt,(aa m (hl m P) (λx v e k=>?_)),?_,F.lB,F.above,λn c e=>?_,λx v e k=>?_,F.hasCell,F.apart⟩
 ·refine af (hm x v e k) λcv B G=>?_;exact(aa cv B (G.keep S.tup))
 ·refine pj P λo _ _ e _=>?_;exact S.dom_none e F.lH
 ·refine jg (F.cell n c e) λB G aP=>?_;refine cb aP λcv o J O=>?_;exact(da (S.dom_none J B) G (fA cv o (S.keep _ _ J B (hc n c e)) O))
 ·refine bw (F.cellv x v e k) λc cv B bx O=>?_;obtain⟨o,G,J⟩:=bx;exact(bc c cv B (aa o (S.keep _ _ G (F.cell _ _ B).1 (hc _ _ B)) J) (O.keep S.tup))
structure EStep(Γ:Cx)(env:Env)(H H':AH)(s s':Shared):Prop where
 st:Step Γ (λb=>b=env.locals) H H' s s'
 ns:∀m,s.heap.Ns env.locals m->s'.heap.Ns env.locals m
theorem EStep.refl(R:Rel Γ H s.heap):EStep Γ env H H s s:=⟨Step.refl R,λ_ h=>h⟩
theorem EStep.trans{H'':AH}{s'':Shared}(a:EStep Γ env H H' s s')(b:EStep Γ env H' H'' s' s''):EStep Γ env H H'' s s'':=⟨a.st.trans b.st,λm h=>b.ns m (a.ns m h)⟩
theorem Step.toE(S:Step Γ dZ H H' s s')(B:H env.locals=none):EStep Γ env H H' s s' :=⟨S.ofNo,λm ⟨o,es,ep,e,r⟩=>(yX o es ep (S.keep _ _ e B (λz=>z)) r)⟩
theorem Frame.cell_ne(F:Frame Γ env loc H s.heap){n:Str}{c:Addr}(e:env.cells.lookup n=some c):c≠env.locals:=by rintro rfl;refine af F.ns λ_ bK _=>?_;obtain⟨o,_,_,J,O,_⟩:=bK;refine jg (F.cell _ _ e) λ_ _ cC=>?_;refine cb cC λ_ o' B G=>?_;rw[J]at B;obtain rfl:=c9 B;rw[O]at G;cases G
theorem Frame.top(F:Frame Γ env loc H s.heap):∃b,Γ.base.objs.size<=b/\s.heap.get? b≠none :=⟨env.locals,F.above,by refine af F.ns λm dj _=>?_;obtain⟨o,_,_,e,_⟩:=dj;rw[e];simp⟩
theorem Frame.estep(F:Frame Γ env loc H s.heap)(S:EStep Γ env H H' s s'):Frame Γ env loc H' s'.heap:=F.step S.st S.ns λ_ _ e=>F.cell_ne e
theorem Frame.stepNo(F:Frame Γ env loc H s.heap)(S:Step Γ dZ H H' s s'):Frame Γ env loc H' s'.heap:=F.estep (S.toE F.lH)
abbrev GQ(Γ:Cx)(H:AH)(s:Shared)(Q:V->AH->Prop)(cv:Value)(s':Shared):Prop :=∃v H',Q v H'/\VR Γ.sa s'.heap v cv/\Step Γ dZ H H' s s'
abbrev EPost(Γ:Cx)(env:Env)(H:AH)(s:Shared)(Q:V->AH->Prop)(cv:Value)(s':Shared):Prop :=∃v H',Q v H'/\VR Γ.sa s'.heap v cv/\EStep Γ env H H' s s'
abbrev EPosts(Γ:Cx)(env:Env)(H:AH)(s:Shared)(Q:List V->AH->Prop)(cvs:List Value)(s':Shared):Prop :=∃vs H',Q vs H'/\VRs Γ.sa s'.heap vs cvs/\EStep Γ env H H' s s'
abbrev aD:Value->Shared->Prop:=λ_ _=>False
def Room(A:Around)(d:Nat):Prop:=A.handled=none/\A.depth+2*d<990/\A.units+10*d<9700
def CRes(Γ:Cx)(H:AH)(s:Shared)(Q:V->AH->Prop)(r:Result)(s':Shared):Prop:=match r with
 | .ok (.ret v)=>GQ Γ H s Q v s'
 |_=>False
def CallS(σ:Sx)(d:Nat)(f:Addr)(vs:List V)(H:AH)(Q:V->AH->Prop):Prop :=∀(X:Addr->Prop)(hX:∀b,X b->σ.base.get? b=none)(A:Around)(s:Shared)(cvs:List Value),Room A d->Rel ⟨σ,X,hX⟩ H s.heap->(∃b,σ.base.objs.size<=b/\s.heap.get? b≠none)->VRs ⟨σ.sad,X⟩ s.heap vs cvs->codeAny (model σ.prog σ.w) A (.call (.ref f) ⟨cvs,[]⟩) (CRes ⟨σ,X,hX⟩ H s Q) s
theorem CallS.mono{d:Nat}{f:Addr}{Q F:V->AH->Prop}(h:CallS σ d f vs H Q)(q:∀v H',Q v H'->F v H'):CallS σ d f vs H F :=
 λX hX A s cvs r R L V=>E4 (h X hX A s cvs r R L V) λr s' B=>by
  unfold CRes at *;split at B
  ·refine bw B λv H' a b c=>?_;exact(bc v H' (q v H' a) b c)
  ·exact B.elim
theorem Room.mono{A:Around}{d d':Nat}(r:Room A d)(h:d'<=d):Room A d':=(da r.1 (by obtain B:=r.2.1;exact PT h B) (by obtain B:=r.2.2;exact PU h B))
theorem CallS.room{d d':Nat}{f:Addr}{Q:V->AH->Prop}(h:CallS σ d f vs H Q)(q:d<=d'):CallS σ d' f vs H Q :=λX hX A s cvs r R L V=>h X hX A s cvs (r.mono q) R L V
theorem EPost.mono{Q B:V->AH->Prop}(h:EPost Γ env H s Q cv s')(q:∀v H',Q v H'->B v H'):EPost Γ env H s B cv s':=let⟨v,H',a,b,c⟩:=h;(bc v H' (q v H' a) b c)
theorem EPost.after{H₀:AH}{Q:V->AH->Prop}(S:EStep Γ env H₀ H s₀ s)(h:EPost Γ env H s Q cv s'):EPost Γ env H₀ s₀ Q cv s':=let⟨v,H',a,b,c⟩:=h;(bc v H' a b (S.trans c))
theorem EPosts.after{H₀:AH}{Q:List V->AH->Prop}{cv:List Value}(S:EStep Γ env H₀ H s₀ s)(h:EPosts Γ env H s Q cv s'):EPosts Γ env H₀ s₀ Q cv s':=let⟨v,H',a,b,c⟩:=h;(bc v H' a b (S.trans c))
end
noncomputable abbrev Tgt.tp3(a b c:Tgt):Tgt:=.tp (.cons a (.cons b (.cons c .nil)))
end
variable{l:Loc}
section
set_option genCtorIdx false
noncomputable def aA(kvs:List (V×V))(k:V):Option V:=(kvs.find? λp=>cM p.1 k).map (·.2)
noncomputable def dput(kvs:List (V×V))(k v:V):List (V×V) :=if kvs.any (λp=>cM p.1 k)then kvs.map (λp=>if cM p.1 k then(p.1,v)else p)else kvs++[(k,v)]
noncomputable def ddel(kvs:List (V×V))(k:V):List (V×V):=kvs.filter λp=>!cM p.1 k
def keyFits(kvs:List (V×V))(k:V):Prop:=cW k≠0/\∀p∈kvs,cW p.1=cW k
noncomputable def FF(vs:List V)(n:Int):Option V:=if 0<=n then vs[n.toNat]? else if -n<=vs.length then vs[(vs.length+n).toNat]? else none
mutual
noncomputable def dP:V->V->Bool
 | .int i,.int j=>decide (i<j)
 | .str s,.str t=>decide (s<t)
 | .tup xs,.tup ys=>eQ xs ys
 |_,_=>false
noncomputable def eQ:List V->List V->Bool
 | [],_::_=>true
 |_,[]=>false
 |x::xs,y::ys=>if cM x y then eQ xs ys else dP x y
end
mutual
noncomputable def bS:V->V->Bool
 | .int _,.int _=>true
 | .str _,.str _=>true
 | .tup xs,.tup ys=>eT xs ys
 |_,_=>false
noncomputable def eT:List V->List V->Bool
 |x::xs,y::ys=>bS x y&&eT xs ys
 |_,_=>true
end
noncomputable def ub(x:V):List V->List V
 | []=>[x]
 |y::ys=>if dP y x=true then y::ub x ys else x::y::ys
noncomputable def aJ:List V->List V
 | []=>[]
 |x::xs=>ub x (aJ xs)
noncomputable def aI:List V->List V
 | []=>[]
 |v::vs=>v::(aI vs).filter λw=>!cM w v
noncomputable def fx:V->Bool
 | .tup []=>false
 |_=>true
def sortable(vs:List V):Prop:=vs.length<64/\(∀x∈vs,aO x=true/\az x<=8)/\(vs.length<2\/∀x∈vs,fx x=true)/\∀x∈vs,∀y∈vs,bS x y=true
def jt(vs:List V):Prop:=bu vs=true/\br vs<=8
def kK(v:V):Prop:=cz v=true/\az v<=8
noncomputable def oX(v:V)(vs:List V):Bool:=vs.any λy=>cM y v
noncomputable abbrev aR:List String:=["a","b","c","f","g","h"]
noncomputable abbrev mc:List String:=["a","b","c","f","g","h","?x","?y","abc"]
noncomputable def jw(n:Nat):List V:=(List.range n).map λ(i:Nat)=>V.int (i:Int)
section
variable(H:AH)(Q:V->AH->Prop)
def EN:V->(Int->Prop)->Prop
 | .int i,P=>P i
 |_,_=>False
def OR:V->(String->Prop)->Prop
 | .str i,P=>P i
 |_,_=>False
def OS:V->(List V->Prop)->Prop
 | .tup i,P=>P i
 |_,_=>False
def OQ:V->(Addr->Prop)->Prop
 | .ref i,P=>P i
 |_,_=>False
def fresh(o:AO):Prop:=∀c,H c=none->Q (.ref c) (H.set c o)
def xM:BOp->V->V->Prop
 | .add,v,w=>match v with
  | .int i=>EN w λj=>Q (.int (i+j)) H
  | .str s=>OR w λt=>s.length+t.length<=1000/\Q (.str (s++t)) H
  | .tup x=>OS w λy=>x.length+y.length<=1000/\Q (.tup (x++y)) H
  | .ref a=>OQ w λb=>∃x y,H a=some (.list x)/\H b=some (.list y)/\x.length+y.length<=2^20/\fresh H Q (.list (x++y))
  |_=>False
 | .sub,v,w=>EN v λi=>EN w λj=>Q (.int (i-j)) H
 | .mul,v,w=>EN v λi=>EN w λj=>i.natAbs<2^60/\j.natAbs<2^60/\Q (.int (i*j)) H
 | .mod,v,w=>EN v λi=>EN w λj=>0<j/\Q (.int (i%j)) H
noncomputable def Hj(v w:V)(Q:Bool->Prop):Prop :=
 match v,w with
 | .ref a,.ref b=>∃x y,H a=some (.list x)/\H b=some (.list y)/\jt x/\jt y/\Q (cM (.tup x) (.tup y))
 |v,w=>kK v/\kK w/\Q (cM v w)
def PL(v w:V)(Q:Bool->Prop):Prop :=
 match w with
 | .ref a=>(∃vs,H a=some (.list vs)/\kK v/\jt vs/\Q (oX v vs))\/(∃kvs,H a=some (.dict kvs)/\keyFits kvs v/\Q (aA kvs v).isSome)
 | .str t=>t="()[]{},:"/\(∃x,v=.str x/\x∈aR)/\Q false
 |_=>False
noncomputable def eP(op:COp)(v w:V)(Q:Bool->Prop):Prop :=
 match op with
 | .eq=>Hj H v w Q
 | .ne=>Hj H v w λb=>Q (!b)
 | .lt=>∃i j,v=.int i/\w=.int j/\Q (decide (i<j))
 | .le=>∃i j,v=.int i/\w=.int j/\Q (decide (i<=j))
 | .gt=>∃i j,v=.int i/\w=.int j/\Q (decide (j<i))
 | .is=>w=.none/\Q (cM v .none)
 | .isin=>PL H v w Q
 | .notin=>PL H v w λb=>Q (!b)
def sU(v i:V):Prop :=
 match v with
 | .tup vs=>∃n x,i=.int n/\n.natAbs<2^60/\FF vs n=some x/\Q x H
 | .str s=>s∈mc/\∃n c,i=.int n/\0<=n/\n<3/\s.toList[n.toNat]?=some c/\Q (.str (String.ofList [c])) H
 | .ref a=>(∃vs n x,H a=some (.list vs)/\i=.int n/\n.natAbs<2^60/\FF vs n=some x/\Q x H)\/(∃kvs x,H a=some (.dict kvs)/\keyFits kvs i/\aA kvs i=some x/\Q x H)
 |_=>False
def Go(Γ:Sx)(v:V)(lo hi:Option Nat):Prop :=
 match v with
 | .tup vs=>vs.length<=1000/\1<=vs.length/\lo=some 1/\hi=none/\Q (.tup (vs.drop 1)) H
 | .str s=>s∈mc/\lo=none/\hi=some 1/\Q (.str (String.ofList (s.toList.take 1))) H
 | .scr=>lo=none/\∃n,hi=some n/\n<=1000/\fresh H Q (.list ((Γ.svs.take n).map .int))
 |_=>False
def zi(Γ:Sx)(v:V)(f:String):Prop :=∃a c dx kvs x,v=.ref a/\H a=some (.inst c dx)/\f∈Γ.flds c/\H dx=some (.dict kvs)/\aA kvs (.str f)=some x/\Q x H
inductive RK where|inst (c:String)|list|dict|str
def qk(Γ:Sx)(v:V)(m:String):RK->Prop
 | .inst c=>∃a dx kvs,v=.ref a/\H a=some (.inst c dx)/\H dx=some (.dict kvs)/\(∀p∈kvs,cW p.1=1)/\aA kvs (.str m)=none/\(Γ.meth c m).isSome
 | .list=>m∈["append","extend","pop"]/\∃a vs,v=.ref a/\H a=some (.list vs)
 | .dict=>m∈["get","setdefault","pop"]/\∃a kvs,v=.ref a/\H a=some (.dict kvs)
 | .str=>m="isspace"/\∃s,v=.str s
def wH(v:V)(m:String)(args:List V):Prop :=
 ∃a vs,v=.ref a/\H a=some (.list vs) /\
  ((m="append"/\∃x,args=[x]/\vs.length<2^20/\Q .none (H.set a (.list (vs++[x])))) \/
   (m="extend"/\∃b ws,args=[.ref b]/\a≠b/\H b=some (.list ws)/\vs.length+ws.length<=2^20/\Q .none (H.set a (.list (vs++ws)))) \/
   (m="pop"/\∃ws x,args=[]/\vs=ws++[x]/\vs.length<=2^20/\Q x (H.set a (.list ws))))
def DD(v:V)(m:String)(args:List V):Prop :=
 ∃a kvs,v=.ref a/\H a=some (.dict kvs) /\
  ((m="get"/\∃k dv,args=[k,dv]/\keyFits kvs k/\Q ((aA kvs k).getD dv) H) \/
   (m="setdefault"/\∃k dv,args=[k,dv]/\keyFits kvs k/\kvs.length<2^20/\Q ((aA kvs k).getD dv) (match aA kvs k with|some _=>H|none=>H.set a (.dict (kvs++[(k,dv)])))) \/
   (m="pop"/\∃k x,args=[k]/\cW k=1/\kvs.length<2^20/\aA kvs k=some x/\Q x (H.set a (.dict (ddel kvs k)))))
def tf(Γ:Sx)(d:Nat)(k:RK)(v:V)(m:String)(args:List V):Prop :=
 match k with
 | .inst c=>∃f,Γ.meth c m=some f/\CallS Γ d f (v::args) H Q
 | .list=>wH H Q v m args
 | .dict=>DD H Q v m args
 | .str=>m="isspace"/\args=[]/\(∃s,v=.str s/\s∈aR)/\Q (.bool false) H
noncomputable def bq(kvs:List (V×V)):List V:=kvs.map λp=>.tup [p.1,p.2]
def bJ(kvs:List (V×V)):Prop:=∀p∈kvs,cW p.1=1
def iZ:Prim->V->Prop
 | .len,.tup vs=>vs.length<=2^20/\Q (.int vs.length) H
 | .len,.ref a=>∃vs,H a=some (.list vs)/\vs.length<=2^21/\Q (.int vs.length) H
 | .sum,.ref a=>∃ns:List Int,H a=some (.list (ns.map .int))/\Q (.int ns.sum) H
 | .max,.ref a=>∃(i:Int)(ns:List Int),H a=some (.list ((i::ns).map .int))/\∀M,M∈i::ns->(∀x∈i::ns,x<=M)->Q (.int M) H
 | .abs,.int i=>Q (.int i.natAbs) H
 | .str,.int i=>0<=i/\i<10/\Q (.str (toString i)) H
 | .tuple,.tup vs=>Q (.tup vs) H
 | .tuple,.ref a=>∃vs,H a=some (.list vs)/\vs.length<=16384/\Q (.tup vs) H
 | .dict,.ref a=>∃kvs,H a=some (.dict kvs)/\bJ kvs/\kvs.length<=1000/\fresh H Q (.dict kvs)
 | .sorted,.ref a=>(∃vs,H a=some (.list vs)/\sortable vs/\fresh H Q (.list (aJ vs)))\/∃kvs,H a=some (.dict kvs)/\sortable (kvs.map (·.1))/\fresh H Q (.list (aJ (kvs.map (·.1))))
 | .sortedItems,.ref a=>∃kvs,H a=some (.dict kvs)/\bJ kvs/\sortable (bq kvs)/\fresh H Q (.list (aJ (bq kvs)))
 | .sortedSet,.ref a=>∃vs,H a=some (.list vs)/\sortable vs/\fresh H Q (.list (aJ (aI vs)))
 | .sortedSetVals,.ref a=>∃kvs,H a=some (.dict kvs)/\bJ kvs/\sortable (kvs.map (·.2))/\fresh H Q (.list (aJ (aI (kvs.map (·.2)))))
 |_,_=>False
end
mutual
noncomputable def bm:Tgt->V->Loc->Option Loc
 | .nm x,v,l=>some (l.put x v)
 | .tp ts,v,l=>match v with | .tup vs=>eD ts vs l|_=>none
noncomputable def eD:Tgts->List V->Loc->Option Loc
 | .nil,vs,l=>match vs with | []=>some l|_::_=>none
 | .cons t ts,vs,l=>match vs with | []=>none|v::vs=>(bm t v l).bind λl=>eD ts vs l
end
noncomputable def Loc.drop(l:Loc)(xs:List String):Loc:=λy=>if y∈".0"::xs then none else l y
noncomputable abbrev rX:=Option (Addr×List V)
def di(s:rX)(H:AH):Prop:=match s with|none=>True|some (a,vs)=>H a=some (.list vs)
noncomputable def fu(src:rX)(step:V->AH->(AH->Prop)->Prop):List V->AH->(AH->Prop)->Prop
 | [],H,K=>di src H/\K H
 |x::xs,H,K=>di src H/\step x H λH'=>fu src step xs H' K
inductive Fl where|next|ret (v:V)
noncomputable def mh(src:rX)(step:V->Loc->AH->(Fl->Loc->AH->Prop)->Prop):List V->Loc->AH->(Fl->Loc->AH->Prop)->Prop
 | [],l,H,K=>di src H/\K .next l H
 |x::xs,l,H,K=>di src H/\step x l H λfl l' H'=>match fl with | .next=>mh src step xs l' H' K | .ret v=>K (.ret v) l' H'
def jl(v:V)(H:AH)(K:rX->List V->AH->Prop):Prop :=
 match v with
 | .tup vs=>vs.length<=2^20/\K none vs H
 | .str s=>s∈aR/\K none [.str s] H
 | .ref a=>∃vs,H a=some (.list vs)/\vs.length<=2^20/\K (some (a,vs)) vs H
 |_=>False
noncomputable def gC(vs ws:List V):List V:=(vs.zip ws).map λp=>.tup [p.1,p.2]
mutual
noncomputable def aS(Γ:Sx)(d:Nat):ME->Loc->AH->(V->AH->Prop)->Prop
 | .cst v,_,H,Q=>Q v H
 | .var x,l,H,Q=>∃v,l x=some v/\Q v H
 | .gvar x,_,H,Q=>∃v,Γ.gv x=some v/\Q v H
 | .tup es,l,H,Q=>dW Γ d es l H λvs H'=>Q (.tup vs) H'
 | .lst es,l,H,Q=>dW Γ d es l H λvs H'=>fresh H' Q (.list vs)
 | .dct ks vs,l,H,Q=>dW Γ d ks l H λkk _=>dW Γ d vs l H λB H'=>dictOK (kk.zip B)/\bJ (kk.zip B)/\kk.length=B.length/\kk.length<=15/\fresh H' Q (.dict (kk.zip B))
 | .bin op a b,l,H,Q=>aS Γ d a l H λv H1=>aS Γ d b l H1 λw H2=>xM H2 Q op v w
 | .cmp1 op a b,l,H,Q=>aS Γ d a l H λv H1=>aS Γ d b l H1 λw H2=>eP H2 op v w λt=>Q (.bool t) H2
 | .cmp2 a o1 b o2 c,l,H,Q=>aS Γ d a l H λv H1=>aS Γ d b l H1 λw H2=>eP H2 o1 v w λt =>
   if t=true then aS Γ d c l H2 λu H3=>eP H3 o2 w u λt'=>Q (.bool t') H3 else Q (.bool false) H2
 | .and2 a b,l,H,Q=>aS Γ d a l H λv H1=>∃t,v=.bool t/\if t=true then aS Γ d b l H1 Q else Q (.bool false) H1
 | .or2 a b,l,H,Q=>aS Γ d a l H λv H1=>∃t,v=.bool t/\if t=true then Q (.bool true) H1 else aS Γ d b l H1 Q
 | .not1 a,l,H,Q=>aS Γ d a l H λv H1=>∃t,v=.bool t/\Q (.bool (!t)) H1
 | .ite c a b,l,H,Q=>yW Γ d c l H λt H1=>if t=true then aS Γ d a l H1 Q else aS Γ d b l H1 Q
 | .idx a i,l,H,Q=>aS Γ d a l H λv H1=>aS Γ d i l H1 λj H2=>sU H2 Q v j
 | .slc a lo hi,l,H,Q=>aS Γ d a l H λv H1=>Go H1 Q Γ v lo hi
 | .attr a f,l,H,Q=>aS Γ d a l H λv H1=>zi H1 Q Γ v f
 | .comp elt g,l,H,Q=>Du Γ d g l H (λH1 K=>fresh H1 (λv H2=>∃c,v=.ref c/\K c H2) (.list []))
   (λc l' H' K=>aS Γ d elt l' H' λv H''=>∃vs,H'' c=some (.list vs)/\vs.length<2^20/\K (H''.set c (.list (vs++[v])))) λc H'=>Q (.ref c) H'
 | .dcomp k v g,l,H,Q=>Du Γ d g l H (λH1 K=>fresh H1 (λv H2=>∃c,v=.ref c/\K c H2) (.dict []))
   (λc l' H' K=>aS Γ d k l' H' λkk H1=>aS Γ d v l' H1 λB H2=>∃kvs,H2 c=some (.dict kvs)/\keyFits kvs kk/\kvs.length<2^20/\K (H2.set c (.dict (dput kvs kk B)))) λc H'=>Q (.ref c) H'
 | .call f args,l,H,Q=>∃a,Γ.fn f=some a/\dW Γ d args l H λvs H1=>CallS Γ d a vs H1 Q
 | .new c args,l,H,Q=>∃C f d',d=d'+1/\Γ.cls c=some C/\Γ.meth c "__init__"=some f/\dW Γ d args l H λvs H1=>∀x dx,H1 x=none->H1 dx=none->x≠dx ->
   CallS Γ d' f (.ref x::vs) ((H1.set dx (.dict [])).set x (.inst c dx)) λr H2=>r=.none/\Q (.ref x) H2
 | .meth o m args,l,H,Q=>aS Γ d o l H λv H1=>∃k,qk H1 Γ v m k/\dW Γ d args l H1 λvs H2=>tf H2 Q Γ d k v m vs
 | .prim p a,l,H,Q=>aS Γ d a l H λv H1=>iZ H1 Q p v
noncomputable def dW(Γ:Sx)(d:Nat):MEs->Loc->AH->(List V->AH->Prop)->Prop
 | .nil,_,H,Q=>Q [] H
 | .cons e r,l,H,Q=>aS Γ d e l H λv H1=>dW Γ d r l H1 λvs H2=>Q (v::vs) H2
noncomputable def yW(Γ:Sx)(d:Nat):ME->Loc->AH->(Bool->AH->Prop)->Prop
 | .not1 a,l,H,Q=>yW Γ d a l H λt H1=>Q (!t) H1
 | .and2 a b,l,H,Q=>yW Γ d a l H λt H1=>if t=true then yW Γ d b l H1 Q else Q false H1
 | .or2 a b,l,H,Q=>yW Γ d a l H λt H1=>if t=true then Q true H1 else yW Γ d b l H1 Q
 | .cmp1 op a b,l,H,Q=>aS Γ d a l H λv H1=>aS Γ d b l H1 λw H2=>eP H2 op v w λt=>Q t H2
 | .cmp2 a o1 b o2 c,l,H,Q=>aS Γ d a l H λv H1=>aS Γ d b l H1 λw H2=>eP H2 o1 v w λt =>
   if t=true then aS Γ d c l H2 λu H3=>eP H3 o2 w u λt'=>Q t' H3 else Q false H2
 | .var x,l,H,Q=>∃t,l x=some (.bool t)/\Q t H
 | .call f args,l,H,Q=>∃a,Γ.fn f=some a/\dW Γ d args l H λvs H1=>CallS Γ d a vs H1 λv H2=>∃t,v=.bool t/\Q t H2
 | .meth o m args,l,H,Q=>aS Γ d o l H λv H1=>∃k,qk H1 Γ v m k/\dW Γ d args l H1 λvs H2=>tf H2 (λv H2=>∃t,v=.bool t/\Q t H2) Γ d k v m vs
 |_,_,_,_=>False
noncomputable def Du(Γ:Sx)(d:Nat):Gens->Loc->AH->(AH->(Addr->AH->Prop)->Prop)->(Addr->Loc->AH->(AH->Prop)->Prop)->(Addr->AH->Prop)->Prop
 | .one t it c,l,H,mk,emit,K=>mr Γ d it l H λsrc vs H1=>mk H1 λa H2=>fu src (λx H' k=>∃l',bm t x (l.drop (cZ t))=some l'/\yV Γ d c l' H' λok H''=>if ok=true then emit a l' H'' k else k H'') vs H2 λH3=>K a H3
 | .more t it r,l,H,mk,emit,K=>mr Γ d it l H λsrc vs H1=>mk H1 λa H2=>fu src (λx H' k=>∃l',bm t x (l.drop (cZ t++dG r))=some l'/\Po Γ d r l' H' (emit a) k) vs H2 λH3=>K a H3
noncomputable def Po(Γ:Sx)(d:Nat):Gens->Loc->AH->(Loc->AH->(AH->Prop)->Prop)->(AH->Prop)->Prop
 | .one t it c,l,H,emit,K=>mr Γ d it l H λsrc vs H1=>fu src (λx H' k=>∃l',bm t x (l.drop (cZ t))=some l'/\yV Γ d c l' H' λok H''=>if ok=true then emit l' H'' k else k H'') vs H1 K
 | .more t it r,l,H,emit,K=>mr Γ d it l H λsrc vs H1=>fu src (λx H' k=>∃l',bm t x (l.drop (cZ t++dG r))=some l'/\Po Γ d r l' H' emit k) vs H1 K
noncomputable def yV(Γ:Sx)(d:Nat):Option ME->Loc->AH->(Bool->AH->Prop)->Prop
 |none,_,H,Q=>Q true H
 |some c,l,H,Q=>yW Γ d c l H Q
noncomputable def mr(Γ:Sx)(d:Nat):MIt->Loc->AH->(rX->List V->AH->Prop)->Prop
 | .exp e,l,H,K=>aS Γ d e l H λv H1=>jl v H1 K
 | .rng e,l,H,K=>aS Γ d e l H λv H1=>∃n,v=.int n/\0<=n/\n<=1000/\K none (jw n.toNat) H1
 | .zip a b,l,H,K=>aS Γ d a l H λv H1=>aS Γ d b l H1 λw H2=>∃vs ws,v=.tup vs/\w=.tup ws/\vs.length<=1000/\ws.length<=1000/\K none (gC vs ws) H2
end
end
variable{K:Fl->Loc->AH->Prop}{src:rX}
section
variable{m:Str->Option Value}{news':List (Addr×Obj)}
noncomputable def cU(base:Heap)(L:Addr)(h:Heap):List (Addr×Obj) :=(List.range h.objs.size).filterMap λb=>if b=L\/(base.get? b).isSome=true then none else(h.get? b).map λo=>(b,o)
theorem gi{base:Heap}{L b:Addr}:(b,o)∈cU base L h↔h.get? b=some o/\b≠L/\base.get? b=none:=by
 unfold cU;rw[List.mem_filterMap];constructor
 ·rintro⟨c,_,e⟩;split at e
  ·exact ns e
  ·rename_i G;refine af (m5.mp e) λo' B F=>?_;cases F;exact(da B (λz=>G (.inl z)) (by cases q:base.get? b with|none=>rfl|some _=>exact absurd (.inr (by simp[q])) G))
 ·rintro⟨B,F,J⟩;refine(aa b (j9.mpr (o8 B)) ?_);rw[if_neg (by simp[F,J]),B];rfl
theorem bB{base:Heap}{L:Addr}:News base L h (cU base L h):=λp hp=>by obtain⟨a,o⟩:=p;exact gi.mp hp
theorem qE(base h:Heap)(L:Addr):((cU base L h).map (·.1)).Nodup:=by
 refine L5 _ (R:=λp q=>p.1≠q.1) (λ_ _ h=>h) ?_;refine List.Pairwise.filterMap _ (S:=λp q:Addr×Obj=>p.1≠q.1) ?_ M6;intro a a' F b G b' B;have key:∀{x:Addr}{p:Addr×Obj},(if x=L\/(base.get? x).isSome=true then none else(h.get? x).map λo=>(x,o))=some p->p.1=x:=by
  intro x p hp;split at hp
  ·exact ns hp
  ·refine af (m5.mp hp) λo _ e=>?_;rw[<- e]
 rw[key G,key B];exact F
section
variable{loc:Loc}{H:AH}
theorem Frame.fr(F:Frame Γ env loc H s.heap)(R:Rel Γ H s.heap):∃m,s.heap.Ns env.locals m/\Fr Γ.base env.locals s.heap m:=by refine af F.ns λm B _=>?_;exact(aa m B ⟨B,R.base,F.above⟩)
theorem Ns.uniq{a:Addr}{F:Str->Option Value}(x:h.Ns a m)(y:h.Ns a F):m=F:=by refine rV x λo es ep O P _ Q=>?_;refine rV y λo' J G B k2 _ Y=>?_;rw[O]at B;obtain rfl:=c9 B;rw[P]at k2;injection k2 with k2;subst k2;funext n;rw[<- Q n,<- Y n]
theorem ww{B:Addr}(R:Rel Γ H h)(F:Fr Γ.base B h' m)(N':News Γ.base B h' news')(P:Addr->Prop)(hs:∀p∈cU Γ.base B h,¬P p.1->p∈news')(b:Addr)(o:Obj)(e:h.get? b=some o)(G:b≠B)(hp:¬P b):h'.get? b=some o:=by
 cases q:Γ.base.get? b with
 |some o' =>
  have:=R.base b o' q
  rw[e]at this;obtain rfl:=c9 this;exact F.keep b o q
 |none=>exact(N' _ (hs _ (gi.mpr (da e G q)) hp)).1
theorem EStep.ofNews(F:Frame Γ env loc H s.heap)(R:Rel Γ H s.heap)(hm:s.heap.Ns env.locals m){tk:Nat}(B:Fr Γ.base env.locals h' m)(N':News Γ.base env.locals h' news')(hs:∀p∈cU Γ.base env.locals s.heap,p∈news'):EStep Γ env H H s { s with heap:=h',toks:=tk }:=by
 have k:=ww R B N' (λ_=>False) (λp hp _=>hs p hp);have G:TupKeep Γ.sa s.heap h':=λb o _ e hc hd=>by refine k b o e ?_ (λz=>z);rintro rfl;refine GN hm λo' es ep J P _=>?_;rw[e]at J;obtain rfl:=c9 J;refine rY hd λ_ _ hd=>?_;rw[P]at hd;cases hd
 refine⟨⟨rfl,rfl,λb o e _ Z=>k b o e Z (λz=>z),λb o e=>.inl (by simp[e]),λ_ h=>h,λb h=>?_,G,⟨B.keep,R.fresh,λa o e=>?_,λb O=>?_⟩⟩,λm' Q=>?_⟩
 ·by_cases O:b=env.locals
  ·subst O;obtain⟨o,_,_,e,_⟩:=B.ns;rw[e];simp
  ·cases e:s.heap.get? b with
   |none=>exact absurd e h
   |some o =>rw[k b o e O (λz=>z)];simp
 ·refine af (R.obj a o e) λob J P=>?_;exact(aa ob (k a ob J (λz=>by rw[z,F.lH]at e;cases e) (λz=>z)) (P.keep G))
 ·by_cases Y:b=env.locals
  ·subst Y;obtain⟨o,_,_,e,_⟩:=B.ns;rw[e];simp
  ·cases e:s.heap.get? b with
   |none=>exact absurd e (R.ex b O)
   |some o=>rw[k b o e Y (λz=>z)];simp
 ·rw[Ns.uniq Q hm];exact B.ns
theorem EStep.newNews(F:Frame Γ env loc H s.heap)(R:Rel Γ H s.heap)(hm:s.heap.Ns env.locals m){tk:Nat}{D:Addr}{ob:Obj}{x:AO}(O:Fr Γ.base env.locals h' m)(N':News Γ.base env.locals h' news')(hs:∀p∈cU Γ.base env.locals s.heap,p∈news')(P:(D,ob)∈news')(J:s.heap.get? D=none)(r:ORel Γ h' ob x):EStep Γ env H (H.set D x) s { s with heap:=h',toks:=tk }/\H D=none:=by
 have S:=EStep.ofNews F R hm (tk:=tk) O N' hs;have Q:H D=none:=by
  rcases e:H D with _|y
  ·rfl
  ·refine af (R.obj D y e) λob' G _=>?_;rw[J]at G;cases G
 obtain nd:=N' _ P;refine⟨⟨⟨rfl,rfl,S.st.keep,λb o e=>?_,λb h=>?_,S.st.live,S.st.tup,⟨S.st.rel.base,λb o e=>?_,λb o e=>?_,S.st.rel.ex⟩⟩,S.ns⟩,Q⟩
 ·by_cases B:b=D
  ·subst B;exact .inr J
  ·rw[AH.set_ne _ _ B]at e;exact .inl (by simp[e])
 ·by_cases B:b=D
  ·subst B;simp
  ·rw[AH.set_ne _ _ B];exact h
 ·by_cases B:b=D
  ·subst B;exact nd.2.2
  ·rw[AH.set_ne _ _ B]at e;exact R.fresh _ _ e
 ·by_cases B:b=D
  ·subst B;rw[AH.set_self]at e;obtain rfl:=c9 e;exact(aa ob nd.1 r)
  ·rw[AH.set_ne _ _ B]at e;exact S.st.rel.obj b o e
theorem ln{F:Addr}{D:Addr}(R:Rel Γ H h)(G:D≠F)(J:Γ.base.get? D=none)(B:∀p∈cU Γ.base F h,p.1<D):h.get? D=none:=by
 rcases e:h.get? D with _|o
 ·rfl
 ·exact absurd (B _ (gi.mpr (da e G J))) (M1 _)
theorem vS{base:Heap}{L d:Addr}{o':Obj}(hd:(d,o)∈cU base L h):∃news',Upd d o o' (cU base L h) news'/\(d,o')∈news'/\∀p∈cU base L h,p.1≠d->p∈news':=by
 obtain nd:=qE base h L;revert nd hd;generalize cU base L h=l;intro hd nd;induction l with
 |nil=>exact absurd hd i6
 |cons p r O =>
  rw[List.map_cons,List.nodup_cons]at nd;by_cases hp:p.1=d
  ·have e:p=(d,o):=by
    rcases i8.mp hd with e|e
    ·exact e.symm
    ·exact absurd (b9.mpr ⟨_,e,hp.symm⟩) nd.1
   subst e;refine(bb ((d,o')::r) (.head λq hq z=>nd.1 (b9.mpr (aa q hq z))) (.head _) (λq hq B=>?_));rcases i8.mp hq with rfl|hq
   ·exact absurd rfl B
   ·exact .tail _ hq
  ·rcases i8.mp hd with e|e
   ·exact absurd (by rw[<- e]) hp
   ·refine cL (O e nd.2) λn' F G J=>?_;refine(bb (p::n') (.tail hp F) (.tail _ G) (λq hq B=>?_));rcases i8.mp hq with rfl|hq
    ·exact .head _
    ·exact .tail _ (J q hq B)
theorem EStep.updNews(F:Frame Γ env loc H s.heap)(R:Rel Γ H s.heap)(hm:s.heap.Ns env.locals m){tk:Nat}{d:Addr}{ob':Obj}{x x':AO}(Q:Fr Γ.base env.locals h' m)(N':News Γ.base env.locals h' news')(hs:∀p∈cU Γ.base env.locals s.heap,p.1≠d->p∈news')(hD:(d,ob')∈news')(O:H d=some x)(r:ORel Γ s.heap ob' x'):EStep Γ env H (H.set d x') s { s with heap:=h',toks:=tk }:=by
 have k:=ww R Q N' (λb=>b=d) hs;have hLd:env.locals≠d:=λz=>by rw[<- z,F.lH]at O;cases O
 have P:TupKeep Γ.sa s.heap h':=λb o _ e hc hd=>by
  refine k b o e ?_ ?_
  ·rintro rfl;refine GN hm λo' es ep Z h2 _=>?_;rw[e]at Z;obtain rfl:=c9 Z;refine rY hd λ_ _ hd=>?_;rw[h2]at hd;cases hd
  ·rintro rfl;rw[R.tup_none e hc hd]at O;cases O
 have nd:=N' _ hD;refine⟨⟨rfl,rfl,λb o e B ho=>k b o e ho (λz=>by rw[z,O]at B;exact sn B),λb o e=>?_,λb h=>?_,λb h=>?_,P,⟨Q.keep,λb o e=>?_,λb o e=>?_,λb B=>?_⟩⟩,λm' Y=>?_⟩
 ·by_cases B:b=d
  ·subst B;exact .inl (by simp[O])
  ·rw[AH.set_ne _ _ B]at e;exact .inl (by simp[e])
 ·by_cases B:b=d
  ·subst B;simp
  ·rw[AH.set_ne _ _ B];exact h
 ·show h'.get? _≠none;by_cases B:b=env.locals
  ·subst B;refine pj Q.ns λo _ _ e _=>?_;rw[e];simp
  ·by_cases G:b=d
   ·rw[G,nd.1];simp
   ·rcases e:s.heap.get? b with _|o
    ·exact absurd e h
    ·rw[k b o e B G];simp
 ·by_cases B:b=d
  ·subst B;exact R.fresh _ _ O
  ·rw[AH.set_ne _ _ B]at e;exact R.fresh _ _ e
 ·by_cases B:b=d
  ·subst B;rw[AH.set_self]at e;obtain rfl:=c9 e;exact(aa ob' nd.1 (r.keep P))
  ·rw[AH.set_ne _ _ B]at e;refine af (R.obj b o e) λJ h3 h4=>?_;exact(aa J (k b J h3 (λz=>by rw[z,F.lH]at e;cases e) B) (h4.keep P))
 ·by_cases hL:b=env.locals
  ·subst hL;refine pj Q.ns λo _ _ e _=>?_;rw[e];simp
  ·by_cases G:b=d
   ·rw[G,nd.1];simp
   ·rcases e:s.heap.get? b with _|o
    ·exact absurd e (R.ex b B)
    ·rw[k b o e hL G];simp
 ·rw[Ns.uniq Y hm];exact Q.ns
end
end
section
variable{cw:Value}{w:V}
set_option tactic.hygienic true
structure FldOK(K:Frag)(C:Addr)(name:Str):Prop where
 g:plainGet K C name=true
 hd:hasDictIn K C=true
 nf:∃attr,findIn K (.ref C) name=some attr/\noGet K attr=true
 st:findIn K (.ref C) "__setattr__"=some (some (.builtin "object.__setattr__"))
 po:plainOver K C=true
 tk:takerIn K C name=some none
structure MthOK(K:Frag)(C:Addr)(name:Str)(f:Addr):Prop where
 g:plainGet K C name=true
 nf:findIn K (.ref C) name=some (some (.ref f))
 fn:isFn K (.ref f)=true
 kp:keepIn K (.ref f)=true
structure MkOK(K:Frag)(C:Addr)(f:Addr):Prop where
 mks:makesIn K C=true
 nf:findIn K (.ref C) "__init__"=some (some (.ref f))
 fn:typeIn K (.ref f)=some (.type "function")
 kp:keepIn K (.ref C)=true
structure CxOK(Γ:Sx):Prop where
 kin:Γ.K.In Γ.base
 fld:∀c C f,Γ.cls c=some C->f∈Γ.flds c->FldOK Γ.K C (Str.ofString f)
 mth:∀c C m a,Γ.cls c=some C->Γ.meth c m=some a->MthOK Γ.K C (Str.ofString m) a
 mks:∀c C f,Γ.cls c=some C->Γ.meth c "__init__"=some f->MkOK Γ.K C f
 nolim:Γ.base.NoLimit
 ns:∃mg mb,Γ.base.Ns mainGlobals mg/\Γ.base.Ns builtinsNs mb/\(∀f a,Γ.fn f=some a->mg (Str.ofString f)=some (.ref a)/\keepIn Γ.K (.ref a)=true)/\(∀c C,Γ.cls c=some C->mg (Str.ofString c)=some (.ref C)) /\
  (∀x v,Γ.gv x=some v->∃cv,mg (Str.ofString x)=some cv/\∀X:Addr->Prop,(∀b,X b->Γ.base.get? b=none)->VR ⟨Γ.sad,X⟩ Γ.base v cv)/\∀p∈bL,mg (Str.ofString p.1)=none/\mb (Str.ofString p.1)=some p.2
 sysm:∃o,Γ.base.get? sysModules=some o
 scr:∃cvs,Γ.base.IsList Γ.sad cvs/\IntsAre cvs.toList Γ.svs
 scrz:∀cvs,Γ.base.IsList Γ.sad cvs->cvs.size<=sizeLine
theorem mm(x y:String):Str.ofString (x++y)=Str.ofString x++Str.ofString y:=by rw[Str.ofString_eq_toList,Str.ofString_eq_toList,Str.ofString_eq_toList];apply Str.ext';rw[Str.cps_append];simp
section
variable{loc:Loc}{H:AH}{A:Around}{d:Nat}{Q:V->AH->Prop}
theorem EStep.toks(R:Rel Γ H s.heap)(t:Nat):EStep Γ env H H s { s with toks:=t } :=⟨Step.grow (s':={ s with toks:=t }) R rfl rfl λ_ _ e=>e,λ_ h=>h⟩
theorem EPost.int(R:Rel Γ H s.heap){i:Int}{t:Tok}(q:Q (.int i) H):EPost Γ env H s Q (.int i t) { s with toks:=k }:=(bc _ _ q (VR.int' _ _) (EStep.toks R k))
theorem EPost.same(R:Rel Γ H s.heap){v:V}(q:Q v H)(r:VR Γ.sa s.heap v cv):EPost Γ env H s Q cv { s with toks:=k }:=(bc _ _ q r (EStep.toks R k))
theorem EPost.same'(R:Rel Γ H s.heap){v:V}(q:Q v H)(r:VR Γ.sa s.heap v cv):EPost Γ env H s Q cv s:=(bc _ _ q r (EStep.refl R))
theorem EPost.push(F:Frame Γ env loc H s.heap)(R:Rel Γ H s.heap){x:AO}{ob:Obj}(q:fresh H Q x)(r:ORel Γ s.heap ob x) : EPost Γ env H s Q (.ref s.heap.objs.size) { s with heap:=s.heap.push ob,toks:=k }:=by obtain J:s.heap.get? s.heap.objs.size=none:=i9 (f7 _);obtain B:∀b o,s.heap.get? b=some o->(s.heap.push ob).get? b=some o:=λb o e=>d5 _ e;refine bQ (Step.alloc (own:=dZ) (s':={ s with heap:=s.heap.push ob,toks:=k }) R rfl rfl J B (g8 _ r.notFreed) (r.keep (TupKeep.of_keep B))) λS G=>?_;exact(bc _ _ (q _ G) (VR.ref' _) (S.toE F.lH))
theorem EPost.tuple(F:Frame Γ env loc H s.heap)(R:Rel Γ H s.heap)(q:Q (.tup vs) H)(r:VRs Γ.sa s.heap vs cvs) : EPost Γ env H s Q (.ref s.heap.objs.size) { s with heap:=s.heap.push { cls:=.type "tuple",data:=.seq cvs.toArray },toks:=k }:=by obtain B:∀b o,s.heap.get? b=some o->(s.heap.push { cls:=.type "tuple",data:=.seq cvs.toArray }).get? b=some o:=λb o e=>d5 _ e;exact(bc _ _ q (VR.tup' (R.nx (i9 (f7 _))) (bb _ (g8 _ rfl) rfl (mw 0 rfl)) (by simpa using r.keep (TupKeep.of_keep B))) ((Step.grow (s':={ s with heap:=s.heap.push { cls:=.type "tuple",data:=.seq cvs.toArray },toks:=k }) R rfl rfl B).toE F.lH))
theorem au{a:Addr}(R:Rel Γ H h)(e:H a=some (.list vs)):∃cvs n,h.get? a=some (dq cvs n)/\VRs Γ.sa h vs cvs.toList:=by refine af (R.obj a _ e) λob B aP=>?_;refine cb aP λcvs n bx r=>?_;subst bx;exact(fA cvs n B r)
theorem bV{a:Addr}(R:Rel Γ H h)(e:H a=some (.dict kvs)):∃es n,h.get? a=some (aV es n)/\ER Γ h kvs es.toList/\dictOK kvs:=by refine af (R.obj a _ e) λob B bK=>?_;refine cb bK λes n cC r=>?_;subst cC;exact(fA es n B r)
theorem jq{v:V}{c:Value}{P:Int->Prop}{R:Value->Prop}(h:EN v P)(r:VR Γ.sa s.heap v c)(k:∀i t,P i->R (.int i t)):R c:=by
 cases v with
 |int i=>exact r.int_el λt=>k i t h
 |_=>exact h.elim
theorem BM(F:Frame Γ env loc H s.heap)(R:Rel Γ H s.heap){ws:List V}(hl:vs.length+ws.length<=1000)(q:Q (.tup (vs++ws)) H)(Z:VR Γ.sa s.heap (.tup vs) cv)(B:VR Γ.sa s.heap (.tup ws) cw) : wpAny (model Γ.prog Γ.w) A (binaryOp .Add cv cw) (EPost Γ env H s Q) aD s:=by
 refine bw Z.tup_inv λa cvs dj ha J=>?_;subst dj;refine bw B.tup_inv λb dvs P hb O=>?_;subst P;refine af (F.fr R) λm hm G=>?_;have Y:∀{us:List V}{xs:Array Value},xs.toList=[]->VRs Γ.sa s.heap us xs.toList->us=[]:=λz q=>by rw[z]at q;exact B6.mp q.length.symm
 refine add_tuples G bB (by rw[Array.toArray_toList];exact ha) (by rw[Array.toArray_toList];exact hb) (λz=>?_) (λ_ z=>?_) (λ_ _ h' F' N'=>?_) (by rw[sizeLine_eq];exact JD hl J.length O.length)
 ·rw[Y z J,List.nil_append]at q;exact EPost.same' R q B
 ·rw[Y z O,List.append_nil]at q;exact EPost.same' R q Z
 ·obtain S:=EStep.ofNews F R hm (tk:=s.toks) F' N' λp hp=>.tail _ hp;exact(bc _ _ q (VR.tup' (R.nx (i9 (f7 _))) (bb _ ((N' _ (.head _)).1) rfl (mw 0 rfl)) ((J.append O).keep S.st.tup)) S)
theorem BL(F:Frame Γ env loc H s.heap)(R:Rel Γ H s.heap){a b:Addr}{x y:List V}(Z:H a=some (.list x))(h2:H b=some (.list y))(hl:x.length+y.length<=2^20)(q:fresh H Q (.list (x++y))) : wpAny (model Γ.prog Γ.w) A (binaryOp .Add (.ref a) (.ref b)) (EPost Γ env H s Q) aD s:=by refine cb (au R Z) λcvs n ho O=>?_;refine cb (au R h2) λY n' G P=>?_;refine af (F.fr R) λm hm B=>?_;refine kmk_add_lit B bB (bb _ ho rfl (mw _ rfl)) (bb _ G rfl (mw _ rfl)) rfl (λD h' J N' lt=>?_) (by rw[sizeLine_eq];exact PX hl O.length P.length);obtain nd:=N' _ (.head _);refine bQ (EStep.newNews F R hm (tk:=s.toks) J N' (λp hp=>.tail _ hp) (.head _) (ln R nd.2.1 nd.2.2 lt) (x:=.list (x++y)) (fA _ 0 rfl ((O.append P).keep (EStep.ofNews F R hm (tk:=s.toks) J N' λp hp=>.tail _ hp).st.tup))) λS hH=>?_;exact(bc _ _ (q _ hH) (VR.ref' _) S)
theorem OV(F:Frame Γ env loc H s.heap)(R:Rel Γ H s.heap)(op:BOp){v:V}(h:xM H Q op v w)(G:VR Γ.sa s.heap v cv)(B:VR Γ.sa s.heap w cw) : wpAny (model Γ.prog Γ.w) A (binaryOp (Rh op) cv cw) (EPost Γ env H s Q) aD s:=by
 cases op with
 |sub =>apply jq h G;intro i t h;apply jq h B;intro j u h;exact sub_int (EPost.int R h)
 |mul =>apply jq h G;intro i t h;apply jq h B;intro j u h;exact mul_int (EPost.int R h.2.2) (IntMulOk.of_left (intBits_le_64 (by first|exact IQ h.1|exact IY h.1) (by first|exact IQ h.1|exact IY h.1)))
 |mod =>apply jq h G;intro i t h;apply jq h B;intro j u h;exact mod_int (PV h.1) (by rw[Int.fmod_eq_emod_of_nonneg _ (PW h.1)];exact EPost.int R h.2)
 |add =>
  cases v with
  |int i =>apply G.int_el;intro t;apply jq (P:=λj=>Q (.int (i+j)) H) h B;intro j u h;exact wpAny_add_int (EPost.int R h)
  |str x =>
   cases w with
   |str y =>apply G.str_el;intro t;apply B.str_el;intro u;exact PySem.SB.add (λt' k=>by rw[<- mm];exact EPost.same R h.2 (VR.str' _ _)) (by rw[sizeLine_eq];exact JD h.1 (PySem.ofString_length x) (PySem.ofString_length y))
   |_=>exact h.elim
  |tup vs =>
   cases w with
   |tup ws=>exact BM F R h.1 h.2 G B
   |_=>exact h.elim
  |ref a =>
   cases w with
   |ref b =>refine ph h λx y J O Y Z=>?_;apply G.ref_el;apply B.ref_el;exact BL F R J O Y Z
   |_=>exact h.elim
  |_=>exact h.elim
theorem zE{v:V}{P:Bool->Prop}(h:Hj H v w P):(∃a b,v=.ref a/\w=.ref b/\∃x y,H a=some (.list x)/\H b=some (.list y)/\jt x/\jt y/\P (cM (.tup x) (.tup y)))\/kK v/\kK w/\P (cM v w):=by
 cases v with
 |ref a=>cases w with
  |ref b=>exact .inl (bc a b rfl rfl h)
  |_=>exact .inr h
 |_=>exact .inr h
theorem Ra(R:Rel Γ H s.heap)(hr:Room A d){v:V}{Qb:Bool->Prop}(h:Hj H v w Qb)(rv:VR Γ.sa s.heap v cv)(G:VR Γ.sa s.heap w cw)(hP:∀b,Qb b->P (.bool b) s):wpAny (model Γ.prog Γ.w) A (compareOp .Eq cv cw) P aD s:=by
 have hu:=hr.2.2;have hc:cLine=9900:=rfl;rcases zE h with⟨a,b,rfl,rfl,x,y,h1,h2,B,F,q⟩|⟨B,F,q⟩
 ·apply rv.ref_el;apply G.ref_el;refine cb (au R h1) λcvs n ho ra=>?_;refine cb (au R h2) λdvs n' Q rb=>?_;obtain⟨as,Y⟩:=ra.reads B.1;obtain⟨bs,Z⟩:=rb.reads F.1;obtain la:=im x B.1;obtain lb:=im y F.1;obtain J:=B.2;obtain O:=F.2;refine eq_dataH (E9 ho rfl rfl Y) (E9 Q rfl rfl Z) ?_ ?_ (CJ hu hc) ?_
  ·unfold SeqAt.shaped;rw[show(PyData.list (dC x)).canLay0=true from la.1,show(PyData.list (dC x)).depth=PyData.depthAll (dC x)+1 from rfl,Bool.true_and,decide_eq_true_eq];exact CL la.2 J
  ·unfold SeqAt.shaped;rw[show(PyData.list (dC y)).canLay0=true from lb.1,show(PyData.list (dC y)).depth=PyData.depthAll (dC y)+1 from rfl,Bool.true_and,decide_eq_true_eq];exact CL lb.2 O
  ·have e:PyData.eqv (.list (dC x)) (.list (dC y))=cM (.tup x) (.tup y):=by rw[<- iM (v:=.tup x) (w:=.tup y) B.1 F.1];simp[xu,PyData.eqv]
   rw[e];exact hP _ q
 ·obtain⟨as,Y⟩:=rv.reads B.1;obtain⟨bs,Z⟩:=G.reads F.1;obtain la:=gy v B.1;obtain lb:=gy w F.1;obtain J:=B.2;obtain O:=F.2;refine eq_dataH Y Z ?_ ?_ (CJ hu hc) ?_
  ·unfold SeqAt.shaped;simp only[la.1,Bool.true_and,decide_eq_true_eq];exact CM la.2 J
  ·unfold SeqAt.shaped;simp only[lb.1,Bool.true_and,decide_eq_true_eq];exact CM lb.2 O
  ·rw[iM B.1 F.1];exact hP _ q
theorem Rb(R:Rel Γ H s.heap)(hr:Room A d){v:V}{Qb:Bool->Prop}(h:Hj H v w λb=>Qb (!b))(rv:VR Γ.sa s.heap v cv)(G:VR Γ.sa s.heap w cw)(hP:∀b,Qb b->P (.bool b) s):wpAny (model Γ.prog Γ.w) A (compareOp .NotEq cv cw) P aD s:=by
 have hu:=hr.2.2;have hc:cLine=9900:=rfl;rcases zE h with⟨a,b,rfl,rfl,x,y,h1,h2,B,F,q⟩|⟨B,F,q⟩
 ·apply rv.ref_el;apply G.ref_el;refine cb (au R h1) λcvs n ho ra=>?_;refine cb (au R h2) λdvs n' Q rb=>?_;refine bR (ra.reads B.1) λas Y=>?_;refine bR (rb.reads F.1) λbs Z=>?_;have la:=im x B.1;obtain lb:=im y F.1;obtain J:=B.2;have O:=F.2;refine ne_dataH (E9 ho rfl rfl Y) (E9 Q rfl rfl Z) ?_ ?_ (CJ hu hc) ?_
  ·unfold SeqAt.shaped;rw[show(PyData.list (dC x)).canLay0=true from la.1,show(PyData.list (dC x)).depth=PyData.depthAll (dC x)+1 from rfl,Bool.true_and,decide_eq_true_eq];exact CL la.2 J
  ·unfold SeqAt.shaped;rw[show(PyData.list (dC y)).canLay0=true from lb.1,show(PyData.list (dC y)).depth=PyData.depthAll (dC y)+1 from rfl,Bool.true_and,decide_eq_true_eq];exact CL lb.2 O
  ·have e:PyData.eqv (.list (dC x)) (.list (dC y))=cM (.tup x) (.tup y):=by rw[<- iM (v:=.tup x) (w:=.tup y) (by unfold cz;exact B.1) (by unfold cz;exact F.1)];simp[xu,PyData.eqv]
   rw[e];exact hP _ q
 ·obtain⟨as,Y⟩:=rv.reads B.1;obtain⟨bs,Z⟩:=G.reads F.1;obtain la:=gy v B.1;obtain lb:=gy w F.1;obtain J:=B.2;obtain O:=F.2;refine ne_dataH Y Z ?_ ?_ (CJ hu hc) ?_
  ·unfold SeqAt.shaped;simp only[la.1,Bool.true_and,decide_eq_true_eq];exact CM la.2 J
  ·unfold SeqAt.shaped;simp only[lb.1,Bool.true_and,decide_eq_true_eq];exact CM lb.2 O
  ·rw[iM B.1 F.1];exact hP _ q
end
end
section
variable{k:V}
noncomputable def fJ(kvs:List (V×V))(k:V):Option Nat:=kvs.findIdx? λp=>cM p.1 k
theorem iz(h:fJ kvs k=none):∀p∈kvs,p.1≠k:=by intro p hp e;obtain B:=List.findIdx?_eq_none_iff.mp h p hp;rw[aN]at B;exact B e
theorem dH(h:fJ kvs k=some i):∃v,kvs[i]?=some (k,v)/\∀j,j<i->∀p,kvs[j]?=some p->p.1≠k:=by refine af (z7.mp h) λhi F G=>?_;obtain e:=(bt _ _).mp F;refine(aa ((kvs[i]).2) (by rw[List.getElem?_eq_getElem hi,<- e]) (λj J p hp=>?_));obtain⟨O,e'⟩:=f9.mp hp;obtain B:=G j J;rw[e']at B;intro z;exact B ((bt _ _).mpr z)
theorem iy(h:fJ kvs k=none):aA kvs k=none:=by unfold aA;rw[List.find?_eq_none.mpr,Option.map_none];intro p hp z;exact iz h p hp ((bt _ _).mp z)
theorem fC{v:V}(h:fJ kvs k=some i)(hv:kvs[i]?=some (k,v)):aA kvs k=some v:=by
 unfold aA
 have:kvs.find? (λp=>cM p.1 k)=some (k,v):=by refine af (z7.mp h) λhi G B=>?_;rw[List.find?_eq_some_iff_getElem];refine⟨cR k,i,hi,(f9.mp hv).2,λj F=>?_⟩;obtain this:=B j F;simpa using this
 rw[this];rfl
theorem et{v:V}(h:aA kvs k=some v):∃i,fJ kvs k=some i/\kvs[i]?=some (k,v):=by
 rcases e:fJ kvs k with _|i
 ·rw[iy e]at h;exact ns h
 ·refine af (dH e) λu B _=>?_;rw[fC e B]at h;obtain rfl:=c9 h;exact(aa i rfl B)
theorem eU(h:aA kvs k=none):fJ kvs k=none:=by
 rcases e:fJ kvs k with _|i
 ·rfl
 ·refine af (dH e) λu B _=>?_;rw[fC e B]at h;exact sn h
theorem bz{v:V}(h:aA kvs k=none):dput kvs k v=kvs++[(k,v)]:=by obtain h':=iz (eU h);unfold dput;rw[if_neg];intro z;refine af (M4.mp z) λp hp e=>?_;exact h' p hp ((bt _ _).mp e)
theorem sr{u:V}(h:aA kvs k=some u):kvs.any (λp=>cM p.1 k)=true:=by refine af (et h) λi _ B=>?_;exact M4.mpr (aa _ (g9 B) (cR k))
theorem iQ(nd:(kvs.map (·.1)).Nodup){v u:V}(hi:kvs[i]?=some (k,v))(G:kvs[j]?=some (k,u)):i=j:=by
 obtain B:(kvs.map (·.1))[i]?=some k:=by rw[List.getElem?_map,hi];rfl
 obtain F:(kvs.map (·.1))[j]?=some k:=by rw[List.getElem?_map,G];rfl
 exact(List.getElem?_inj (f9.mp B).1 nd).mp (B.trans F.symm)
theorem kB(nd:(kvs.map (·.1)).Nodup){v u:V}(h:fJ kvs k=some i)(G:kvs[i]?=some (k,u)):dput kvs k v=kvs.set i (k,v):=by
 unfold dput;rw[if_pos (sr (fC h G))];apply u6;intro j;rw[List.getElem?_map,List.getElem?_set];by_cases B:i=j
 ·subst B;rw[if_pos rfl,if_pos (List.getElem?_eq_some_iff.mp G).1,G];simp[cR]
 ·rw[if_neg B];rcases e:kvs[j]? with _|p
  ·rfl
  ·obtain F:cM p.1 k=false:=aN.mpr λz=>by obtain⟨a,b⟩:=p;simp only at z;subst z;exact B (iQ nd G e)
   simp[F]
theorem xU(nd:(kvs.map (·.1)).Nodup):∀{i:Nat}{k u:V},kvs[i]?=some (k,u)->ddel kvs k=kvs.eraseIdx i:=by
 unfold ddel;induction kvs with
 |nil=>intro i k u h;simp at h
 |cons p r B =>
  intro i k u h;rw[List.map_cons,List.nodup_cons]at nd;rcases i with _|i
  ·simp at h;subst h
   have:r.filter (λp=>!cM p.1 k)=r:=by rw[List.filter_eq_self];intro q hq;rw[aN.mpr];rfl;intro z;exact nd.1 (b9.mpr (aa q hq z))
   simp[cR,this]
  ·simp at h;obtain hm:k∈r.map (·.1):=b9.mpr (aa _ (g9 h) rfl)
   have:cM p.1 k=false:=aN.mpr λz=>nd.1 (z▸hm)
   simp[this,B nd.2 h]
theorem keyFits.of{v:V}(d:dictOK kvs)(h:aA kvs k=some v):keyFits kvs k:=by refine af (et h) λi _ G=>?_;refine bQ d λ_ aP=>?_;refine af aP λc hc F=>?_;obtain B:=F _ (g9 G);exact⟨by rw[B];exact hc,λp hp=>by rw[F p hp,B]⟩
theorem dictOK.dput(d:dictOK kvs)(f:keyFits kvs k)(v:V):dictOK (dput kvs k v):=by
 rcases e:aA kvs k with _|u
 ·rw[bz e];refine⟨?_,cW k,f.1,λp hp=>?_⟩
  ·rw[List.map_append,List.nodup_append];refine⟨d.1,by simp,?_⟩;intro a O b G;simp at G;subst G;refine af (b9.mp O) λp hp bx=>?_;subst bx;exact iz (eU e) p hp
  ·rcases l9.mp hp with hp|hp
   ·exact f.2 p hp
   ·simp at hp;subst hp;rfl
 ·refine af (et e) λi J F=>?_;rw[kB d.1 J F];have e1:(kvs.set i (k,v)).map (·.1)=kvs.map (·.1):=by
   rw[List.map_set];refine u6 λj=>?_;rw[List.getElem?_set];split
   ·rename_i P;subst P;rw[List.getElem?_map,F];simp[(List.getElem?_eq_some_iff.mp F).1]
   ·rfl
  refine⟨by rw[e1];exact d.1,(aa (cW k) f.1 (λp hp=>?_))⟩;obtain B:p.1∈(kvs.set i (k,v)).map (·.1):=b9.mpr (aa p hp rfl);rw[e1]at B;refine af (b9.mp B) λq hq z=>?_;rw[<- z];exact f.2 q hq
theorem dictOK.ddel(d:dictOK kvs)(k:V):dictOK (ddel kvs k) :=⟨(d.1.sublist (List.Sublist.map _ List.filter_sublist)),let⟨c,B,F⟩:=d.2;⟨c,B,λp hp=>F p (u1.mp hp).1⟩⟩
theorem dictOK.nil:dictOK []:=⟨by simp,(aa 1 (by decide) (λ_ h=>absurd h i6))⟩
theorem ER.length:∀{kvs:List (V×V)}{es:List DictEntry},ER Γ h kvs es->es.length=kvs.length
 | [],_,x=>by simp[ER]at x;simp[x]
 |(_,_)::_,_,x=>by refine rU x λe es bK _ _ _ d=>?_;subst bK;simp[d.length]
theorem ER.get:∀{kvs:List (V×V)}{es:List DictEntry},ER Γ h kvs es->∀{i:Nat}{k v:V},kvs[i]?=some (k,v)->∃e,es[i]?=some e/\VR Γ.sa h k e.key/\e.hash=aF Γ.w k/\VR Γ.sa h v e.val
 | [],_,_,i,k,v,e=>by simp at e
 |(_,_)::_,_,x,i,k,v,e=>by
  refine rU x λe' es cC a b c d=>?_;subst cC;rcases i with _|i
  ·simp at e;obtain⟨rfl,rfl⟩:=e;exact(iN e' rfl a b c)
  ·simp at e;refine af (d.get e) λe1 B F=>?_;exact(aa e1 B F)
theorem ER.get':∀{kvs:List (V×V)}{es:List DictEntry},ER Γ h kvs es->∀{i:Nat}{e:DictEntry},es[i]?=some e->∃k v,kvs[i]?=some (k,v)/\VR Γ.sa h k e.key/\e.hash=aF Γ.w k/\VR Γ.sa h v e.val
 | [],_,x,i,e,q=>by simp[ER]at x;simp[x]at q
 |(B,F)::_,_,x,i,e,q=>by
  refine rU x λe' es G a b c d=>?_;subst G;rcases i with _|i
  ·simp at q;subst q;exact(jh B F rfl a b c)
  ·simp at q;refine cb (d.get' q) λP v1 J O=>?_;exact(fA P v1 J O)
theorem ER.push:∀{kvs:List (V×V)}{es:List DictEntry},ER Γ h kvs es->∀{k v:V}{e:DictEntry},VR Γ.sa h k e.key->e.hash=aF Γ.w k->VR Γ.sa h v e.val->ER Γ h (kvs++[(k,v)]) (es++[e])
 | [],_,x,k,v,e,a,b,c=>by simp[ER]at x;subst x;exact(mN e ([]) rfl a b c rfl)
 |(_,_)::_,_,x,k,v,e,a,b,c=>by refine rU x λe' es B a' b' F d=>?_;subst B;exact(mN e' _ rfl a' b' F (d.push a b c))
theorem ER.set:∀{kvs:List (V×V)}{es:List DictEntry},ER Γ h kvs es->∀{i:Nat}{k u v:V}{c:Value},kvs[i]?=some (k,u)->VR Γ.sa h v c->ER Γ h (kvs.set i (k,v)) (es.modify i λe=>{ e with val:=c })
 | [],_,_,i,k,u,v,c,e,_=>by simp at e
 |(_,_)::_,_,x,i,k,u,v,c,e,r=>by
  refine rU x λe' es B a' b' F d=>?_;subst B;rcases i with _|i
  ·simp at e;obtain⟨rfl,rfl⟩:=e;exact(mN _ _ rfl a' b' r d)
  ·simp at e;exact(mN e' _ (by rfl) a' b' F (d.set e r))
theorem ER.erase:∀{kvs:List (V×V)}{es:List DictEntry},ER Γ h kvs es->∀(i:Nat),ER Γ h (kvs.eraseIdx i) (es.eraseIdx i)
 | [],_,x,i=>by simp[ER]at x;subst x;simp[ER]
 |(_,_)::_,_,x,0=>by refine rU x λe' es B a' b' G d=>?_;subst B;exact d
 |(_,_)::_,_,x,i+1=>by refine rU x λe' es F a' b' G d=>?_;subst F;exact(mN e' _ (by rfl) a' b' G (d.erase i))
theorem gY(vs:List V):cW (.tup vs)=if(aO (.tup vs)&&decide (az (.tup vs)<=8))=true then 2 else 0:=rfl
theorem dn(h:cW k=1):qU k=true:=by
 cases k with
 |tup vs=>rw[gY]at h;split at h <;> omega
 |int _=>rfl
 |str _=>rfl
 |_=>exact Nat.noConfusion h
theorem nK(h:cW k=2):(∃vs,k=.tup vs)/\aO k=true/\az k<=8:=by
 cases k with
 |tup vs =>
  rw[gY]at h;split at h
  ·rename_i q;simp at q;exact⟨⟨vs,rfl⟩,q.1,q.2⟩
  ·omega
 |int _=>cases h
 |str _=>cases h
 |_=>exact Nat.noConfusion h
theorem nJ(h:cW k≠0):cW k=1\/cW k=2:=by
 cases k with
 |tup vs=>rw[gY]at *;split <;> simp_all
 |int _=>exact .inl rfl
 |str _=>exact .inl rfl
 |_=>exact absurd rfl h
theorem sV(h:cW k≠0):aO k=true/\az k<=8:=by
 rcases nJ h with e|e
 ·obtain B:=dn e;cases k with
  |int _=>exact⟨by simp[aO],by simp[az]⟩
  |str _=>exact⟨by simp[aO],by simp[az]⟩
  |_=>exact ag B
 ·exact(nK e).2
section
variable{A:Around}
theorem rE{Q:Int->Shared->Prop}(F:A.units+8<cLine)(hk:cW k≠0)(rk:VR Γ.sa s.heap k ck)(h:∀t,Q (aF Γ.w k) { s with toks:=t }) : wpAny (model Γ.prog Γ.w) A (pyHash ck) Q E s :=VR.pyHash (sV hk).1 (by obtain B:=(sV hk).2;exact HX B F) rk (h _)
theorem rD{d:Addr}{es:Array DictEntry}{n:Nat}{Q:Option Nat->Shared->Prop}(hu:A.units+8<cLine)(ho:s.heap.get? d=some (aV es n))(er:ER Γ s.heap kvs es.toList)(dk:dictOK kvs)(kf:keyFits kvs k)(rk:VR Γ.sa s.heap k ck)(h:Q (fJ kvs k) s) : wpAny (model Γ.prog Γ.w) A (dictFind d ck (aF Γ.w k)) Q E s:=by
 rcases nJ kf.1 with hk|hk
 ·obtain hsc:=dn hk;have J:=cF hsc rk;refine @wpAny_dictFind_of Γ.prog Γ.w V vdec (bH Γ.prog Γ.w) A E s d _ es n k ck Q J ho rfl ?_ ?_
  ·intro e he;obtain⟨i,hi⟩:=k9.mp (w4.mpr he);refine ph (er.get' hi) λF v' h1 h2 h3 _=>?_;exact(aa F (cF (dn ((kf.2 _ (g9 h1)).trans hk)) h2) h3)
  ·have:(es.findIdx? λe=>@KeyKind.is _ _ V vdec (bH Γ.prog Γ.w) k e.key)=fJ kvs k:=by
    rw[show es=es.toList.toArray by rfl,List.findIdx?_toArray];have key:∀(kvs:List (V×V))(l:List DictEntry),(∀p∈kvs,cW p.1=cW k)->ER Γ s.heap kvs l->l.findIdx? (λe=>oJ k e.key)=kvs.findIdx? λp=>cM p.1 k:=by
     intro kvs;induction kvs with
     |nil=>intro l _ x;simp[ER]at x;subst x;rfl
     |cons p r ih =>
      intro l hp x;obtain⟨F,v'⟩:=p;refine rU x λe es P a b c d=>?_;subst P;obtain G:qU F=true:=dn ((hp _ d6).trans hk);have e1:oJ k e.key=cM F k:=by
       cases q:cM F k with
       |true =>obtain this:=(bt _ _).mp q;subst this;exact cF G a
       |false =>
        rcases q':oJ k e.key with _|_
        ·rfl
        ·exact absurd (@KeyKind.inj _ _ V vdec (bH Γ.prog Γ.w) _ _ _ (cF G a) q') (aN.mp q)
      rw[List.findIdx?_cons,List.findIdx?_cons,e1,ih es (λp B=>hp p (List.mem_cons_of_mem _ B)) d]
    exact key kvs es.toList kf.2 er
   rw[this];exact h
 ·refine jg (nK hk) λY h1 h2=>?_;obtain⟨vs,rfl⟩:=Y;refine bw rk.tup_inv λa cvs Z _ _=>?_;subst Z;have key:∀(kvs:List (V×V))(l:List DictEntry),(∀p∈kvs,cW p.1=2)->ER Γ s.heap kvs l->∃xs:List (V×Addr×Value),xs.map (λx=>(x.1))=kvs.map (·.1) /\
    l=xs.map (@entryOfKey Γ.prog Γ.w V vdec (Bu Γ.sa Γ.prog Γ.w))/\∀x∈xs,@HeapKind.is _ _ V vdec (Bu Γ.sa Γ.prog Γ.w) s.heap x.1 x.2.1:=by
   intro kvs;induction kvs with
   |nil=>intro l _ x;simp[ER]at x;subst x;exact(bb ([]) rfl rfl (λ_ h=>absurd h i6))
   |cons p r ih =>
    intro l hp x;obtain⟨F,v'⟩:=p;refine rU x λe es ad a b c d=>?_;subst ad;refine cL (ih es (λp B=>hp p (d7 _ B)) d) λxs x1 x2 x3=>?_;refine jg (nK (hp _ d6)) λan k1 k2=>?_;obtain⟨O,rfl⟩:=an;refine bw (id a.tup_inv) λa' _ ea _ _=>?_;refine(bb ((.tup O,a',e.val)::xs) (by simp[x1]) ?_ ?_)
    ·rw[x2,List.map_cons];congr 1;obtain⟨eh,ek,ev⟩:=e;simp only at ea b;subst ea b;rfl
    ·intro x hx;rcases i8.mp hx with rfl|hx
     ·exact(mu ⟨O,rfl⟩ k1 k2 (ea▸a))
     ·exact x3 x hx
  refine cL (key kvs es.toList (λp hp=>(kf.2 p hp).trans hk) er) λxs x1 x2 x3=>?_;have rel:∀(j:Nat)(u:V),(∃p,xs[j]?=some (u,p))↔∃v,kvs[j]?=some (u,v):=by
   intro j u;obtain this:(xs.map (λx=>x.1))[j]?=(kvs.map (·.1))[j]?:=by rw[x1]
   rw[List.getElem?_map,List.getElem?_map]at this;constructor
   ·rintro⟨p,hp⟩;rw[hp]at this;refine af (m5.mp this.symm) λq hq z=>?_;exact⟨q.2,by rw[hq];obtain⟨q1,q2⟩:=q;simp only at z;rw[z]⟩
   ·rintro⟨p,hp⟩;rw[hp]at this;refine af (m5.mp this) λq hq z=>?_;exact⟨q.2,by rw[hq];obtain⟨q1,q2⟩:=q;simp only at z;rw[z]⟩
  refine @wpAny_dictFind_heap Γ.prog Γ.w V vdec (Bu Γ.sa Γ.prog Γ.w) A E s d a _ es n xs (.tup vs) Q hu (mu ⟨vs,rfl⟩ h1 h2 rk) ho rfl x2 x3 (by rw[x1];exact dk.1) ?_ ?_
  ·intro hno
   have:fJ kvs (.tup vs)=none:=by
    rcases e:fJ kvs (.tup vs)with _|i
    ·rfl
    ·refine af (dH e) λv hv _=>?_;obtain⟨p,hp⟩:=(rel i _).mpr ⟨v,hv⟩;exact absurd hp (hno i p)
   rw[this]at h;exact h
  ·intro j p hj;obtain⟨v,hv⟩:=(rel j _).mp ⟨p,hj⟩
   have:fJ kvs (.tup vs)=some j:=by
    rcases e:fJ kvs (.tup vs)with _|i
    ·exact absurd rfl (iz e _ (g9 hv))
    ·refine af (dH e) λv' hv' _=>?_;rw[iQ dk.1 hv' hv]
   rw[this]at h;exact h
end
end
section
variable{k:V}
section
variable{A:Around}
def Rg(sa:SX)(h:Heap):Option V->Option Value->Prop
 |none,none=>True
 |some v,some c=>VR sa h v c
 |_,_=>False
def DAt(Γ:Cx)(h:Heap)(d:Addr)(kvs:List (V×V)):Prop:=∃es n,h.get? d=some (aV es n)/\ER Γ h kvs es.toList/\dictOK kvs
theorem Rel.dat{H:AH}(R:Rel Γ H h){d:Addr}(e:H d=some (.dict kvs)):DAt Γ h d kvs:=bV R e
theorem Rel.nosys(C:CxOK Γ.toSx){H:AH}(R:Rel Γ H h){d:Addr}{x:AO}(e:H d=some x):(d==sysModules)=false:=by
 rw[beq_eq_false_iff_ne];rintro rfl;refine bR C.sysm λo B=>?_
 have:=R.fresh _ _ e
 rw[B]at this;exact sn this
theorem DAt.typeIs{d:Addr}(x:DAt Γ s.heap d kvs):s.TypeIs (.ref d) "dict":=let⟨_,_,B,_⟩:=x;(aa _ B rfl)
theorem ER.toksize{es:Array DictEntry}(x:ER Γ h kvs es.toList):es.size=kvs.length:=x.length
theorem vu{d:Addr}{Q:Option Value->Shared->Prop}(O:A.units+8<cLine)(D:DAt Γ s.heap d kvs)(P:keyFits kvs k)(rk:VR Γ.sa s.heap k ck)(h:∀t Y,Rg Γ.sa s.heap (aA kvs k) Y->Q Y { s with toks:=t }):wpAny (model Γ.prog Γ.w) A (dictGet d ck) Q E s:=by
 refine bw D λes n J G Z=>?_;unfold dictGet
 try with_reducible refine l8 ?_
 refine ac (rE O P.1 rk λt=>ac (rD (s:={ s with toks:=t }) O J G Z P rk ?_));rcases e:fJ kvs k with _|i
 ·exact a9 (h t none (by rw[iy e];trivial))
 ·refine af (dH e) λv hv _=>?_;refine xG (G.get hv) λF h1 h2 h3 h4=>?_;refine ac (A6 (s:={ s with toks:=t }) J rfl (a9 ?_));obtain B:es[i]?=some F:=by rw[<- h1,Array.getElem?_toList]
  rw[B];exact h t (some F.val) (by rw[fC e hv];exact h4)
theorem AU{d:Addr}{v:V}{Q:Unit->Shared->Prop}(Y:A.units+8<cLine)(D:DAt Γ s.heap d kvs)(Z:keyFits kvs k)(rk:VR Γ.sa s.heap k ck)(rv:VR Γ.sa s.heap v cv)(hz:kvs.length<=sizeLine)(h:∀t h' B n',h'.get? d=some (aV B n')->ER Γ s.heap (dput kvs k v) B.toList->Heap.SameBut d s.heap h'->Q () { s with heap:=h',toks:=t }) : wpAny (model Γ.prog Γ.w) A (dictSet d ck cv) Q E s:=by
 refine bw D λes n F J P=>?_;have O:es.size<=sizeLine:=by rw[J.toksize];exact hz
 unfold dictSet
 try with_reducible refine l8 ?_
 refine ac (rE Y Z.1 rk λt=>?_);unfold dictSetHashed
 try with_reducible refine l8 ?_
 refine ac (rD (s:={ s with toks:=t }) Y F J P Z rk ?_);rcases e:fJ kvs k with _|i
 ·refine ac (y3 (J7 (hz:=O) (s:={ s with toks:=t }) F rfl (h t _ _ _ (k8 _ F rfl) ?_ (m7 ..))));rw[bz (iy e),Array.toList_push];exact J.push rk rfl rv
 ·refine af (dH e) λu hv _=>?_;refine ac (y3 (ac (wpAny_updateDict (s:={ s with toks:=t }) F rfl (wpAny_point (h t _ _ _ (k8 _ F rfl) ?_ (m7 ..))))));rw[kB P.1 e hv];obtain G:=J.set hv rv;obtain⟨l⟩:=es;simpa using G
theorem yB{d:Addr}{v:V}{Q:Value->Shared->Prop}(O:A.units+8<cLine)(D:DAt Γ s.heap d kvs)(P:keyFits kvs k)(rk:VR Γ.sa s.heap k ck)(rv:VR Γ.sa s.heap v cv)(hz:kvs.length<=sizeLine)(h1:∀t u c,aA kvs k=some u->VR Γ.sa s.heap u c->Q c { s with toks:=t })(h2:∀t h' B n',aA kvs k=none->h'.get? d=some (aV B n')->ER Γ s.heap (kvs++[(k,v)]) B.toList->Heap.SameBut d s.heap h'->Q cv { s with heap:=h',toks:=t }) : wpAny (model Γ.prog Γ.w) A (dictSetDefault d ck cv) Q E s:=by
 refine bw D λes n G F Y=>?_;obtain J:es.size<=sizeLine:=by rw[F.toksize];exact hz
 unfold dictSetDefault
 try with_reducible refine l8 ?_
 refine ac (rE O P.1 rk λt=>ac (rD (s:={ s with toks:=t }) O G F Y P rk ?_));rcases e:fJ kvs k with _|i
 ·refine ac (y3 (ac (J7 (hz:=J) (s:={ s with toks:=t }) G rfl (a9 (h2 t _ _ _ (iy e) (k8 _ G rfl) ?_ (m7 ..))))));rw[Array.toList_push];exact F.push rk rfl rv
 ·refine af (dH e) λu hv _=>?_;refine xG (F.get hv) λZ k1 k2 k3 k4=>?_;refine ac (A6 (s:={ s with toks:=t }) G rfl ?_)
  have:es[i]?=some Z:=by rw[<- k1,Array.getElem?_toList]
  rw[this];exact ac (y3 (a9 (h1 t u _ (fC e hv) k4)))
theorem CU{d:Addr}{v:V}{Q:Option DictEntry->Shared->Prop}(Y:A.units+8<cLine)(D:DAt Γ s.heap d kvs)(rk:VR Γ.sa s.heap k ck)(hv:aA kvs k=some v)(hz:kvs.length<=sizeLine)(h:∀t h' B n' e,VR Γ.sa s.heap v e.val->h'.get? d=some (aV B n')->ER Γ s.heap (ddel kvs k) B.toList->Heap.SameBut d s.heap h'->Q (some e) { s with heap:=h',toks:=t }) : wpAny (model Γ.prog Γ.w) A (Builtin.Dict.takeOut d ck) Q E s:=by
 refine bw D λes n G F J=>?_;obtain Z:=keyFits.of J hv;have O:es.size<=sizeLine:=by rw[F.toksize];exact hz
 refine af (et hv) λi e1 e2=>?_;unfold Builtin.Dict.takeOut
 try with_reducible refine l8 ?_
 refine ac (rE Y Z.1 rk λt=>ac (rD (s:={ s with toks:=t }) Y G F J Z rk ?_));rw[e1];refine xG (F.get e2) λP k1 k2 k3 k4=>?_;refine ac (A6 (s:={ s with toks:=t }) G rfl ?_)
 have:es[i]?=some P:=by rw[<- k1,Array.getElem?_toList]
 rw[this];refine ac (J7 (hz:=O) (s:={ s with toks:=t }) G rfl (a9 (h t _ _ _ P k4 (k8 _ G rfl) ?_ (m7 ..))));rw[xU J.1 e2];obtain this:=F.erase i;obtain⟨l⟩:=es;simpa using this
theorem oB{d:Addr}{Q:Bool->Shared->Prop}(J:A.units+9<cLine)(D:DAt Γ s.heap d kvs)(hd:(d==sysModules)=false)(G:keyFits kvs k)(rk:VR Γ.sa s.heap k ck)(h:∀t,Q (aA kvs k).isSome { s with toks:=t }):wpAny (model Γ.prog Γ.w) A (contains (.ref d) ck) Q E s:=by
 obtain hT:=D.typeIs;unfold contains
 try with_reducible refine l8 ?_
 refine ac (z8 hT slot_dict_contains.lookup ?_);rw[if_neg (by rw[beq_builtin_none];exact n7)];refine ac (wpAny_callSpecialUnlessNone?_slot (name:=Str.ofString "__contains__") hT slot_dict_contains
  (n6 slot_dict_contains hT entry_dict_contains ?_ (args_dict_contains _ _)))
 show wpAny _ _ (dictGet d ck >>= _) _ _ s;refine ac (vu (A:=A.in1) (by assumption) D G rk λt F r=>?_);obtain h':=h t;cases B:aA kvs k with
 |some v =>
  rw[B]at r h';rcases F with _|c
  ·exact r.elim
  ·exact a9 (aa _ rfl (t9 h'))
 |none =>
  rw[B]at r h';cases F with
  |some c=>exact r.elim
  |none =>exact ac (wpAny_pendingKey_other hd (a9 (aa _ rfl (t9 h'))))
theorem yD{d:Addr}{Q:Value->Shared->Prop}(B:A.units+9<cLine)(D:DAt Γ s.heap d kvs)(hd:(d==sysModules)=false)(F:keyFits kvs k)(rk:VR Γ.sa s.heap k ck)(h:∀t,Q (.bool (aA kvs k).isSome) { s with toks:=t }):wpAny (model Γ.prog Γ.w) A (compareOp .In ck (.ref d)) Q E s:=by exact ac (oB B D hd F rk λt=>a9 (h t))
theorem rG{d:Addr}{Q:Value->Shared->Prop}(B:A.units+9<cLine)(D:DAt Γ s.heap d kvs)(hd:(d==sysModules)=false)(F:keyFits kvs k)(rk:VR Γ.sa s.heap k ck)(h:∀t,Q (.bool (!(aA kvs k).isSome)) { s with toks:=t }):wpAny (model Γ.prog Γ.w) A (compareOp .NotIn ck (.ref d)) Q E s:=by exact ac (oB B D hd F rk λt=>a9 (h t))
theorem oC{d:Addr}{v:V}{Q:Value->Shared->Prop}(G:A.units+9<cLine)(D:DAt Γ s.heap d kvs)(rk:VR Γ.sa s.heap k ck)(hv:aA kvs k=some v)(h:∀t c,VR Γ.sa s.heap v c->Q c { s with toks:=t }):wpAny (model Γ.prog Γ.w) A (getItem (.ref d) ck) Q E s:=by
 have hT:=D.typeIs;have B:=keyFits.of D.choose_spec.choose_spec.2.2 hv;unfold getItem
 try with_reducible refine l8 ?_
 refine ac (wpAny_sequenceKey hT (by decide) ?_);refine ac (p6 (name:=Str.ofString "__getitem__") hT slot_dict_getitem
  (n6 slot_dict_getitem hT entry_dict_getitem ?_ (args_dict_getitem _ _)))
 show wpAny _ _ (dictGet d ck >>= _) _ _ s;refine ac (vu (A:=A.in1) (by assumption) D B rk λt F r=>?_);rw[hv]at r;rcases F with _|c
 ·exact r.elim
 ·exact a9 (aa c rfl (a9 (h t c r)))
theorem oE{d:Addr}{v:V}{Q:Unit->Shared->Prop}(J:A.units+9<cLine)(D:DAt Γ s.heap d kvs)(F:keyFits kvs k)(rk:VR Γ.sa s.heap k ck)(G:VR Γ.sa s.heap v cv)(hz:kvs.length<=sizeLine)(h:∀t h' B n',h'.get? d=some (aV B n')->ER Γ s.heap (dput kvs k v) B.toList->Heap.SameBut d s.heap h'->Q () { s with heap:=h',toks:=t }) : wpAny (model Γ.prog Γ.w) A (setItem (.ref d) ck cv) Q E s:=by
 obtain hT:=D.typeIs;unfold setItem
 try with_reducible refine l8 ?_
 refine ac (wpAny_sequenceKey hT (by decide) ?_);refine ac (p6 (name:=Str.ofString "__setitem__") hT slot_dict_setitem
  (n6 slot_dict_setitem hT entry_dict_setitem ?_ (args_dict_setitem _ _ _)))
 refine ac (C7 hT ?_);show wpAny _ _ (dictSet d ck cv >>= _) _ _ s;exact ac (AU (A:=A.in1) (by assumption) D F rk G hz λt h' B n' a b c=>a9 (aa .none rfl (a9 (h t h' B n' a b c))))
theorem vr{d:Addr}{dv:V}{cd:Value}{Q:Value->Shared->Prop}(P:A.units+9<cLine)(D:DAt Γ s.heap d kvs)(hd:(d==sysModules)=false)(J:keyFits kvs k)(rk:VR Γ.sa s.heap k ck)(O:VR Γ.sa s.heap dv cd)(h:∀t c,VR Γ.sa s.heap ((aA kvs k).getD dv) c->Q c { s with toks:=t }):wpAny (model Γ.prog Γ.w) A (call (.builtin "dict.get") [.ref d,ck,cd]) Q E s:=by
 refine n6 F.slot_dict_get D.typeIs F.entry_dict_get ?_ (F.args_dict_get_3 _ _ _);show wpAny _ _ (dictGet d ck >>= _) _ _ s;refine ac (vu (A:=A.in1) (by show A.units+1+8<cLine;assumption) D J rk λt G r=>?_);obtain h':=h t;cases B:aA kvs k with
 |some v =>
  rw[B]at r h';rcases G with _|c
  ·exact r.elim
  ·exact a9 (aa c rfl (h' c r))
 |none =>
  rw[B]at r h';cases G with
  |some c=>exact r.elim
  |none =>show wpAny _ _ (Builtin.Dict.missed d ck >>= _) _ _ _;exact ac (wpAny_missed_other hd (a9 (aa cd rfl (h' cd O))))
theorem pG{d:Addr}{v:V}{Q:Value->Shared->Prop}(Y:A.units+9<cLine)(D:DAt Γ s.heap d kvs)(hd:(d==sysModules)=false)(O:keyFits kvs k)(rk:VR Γ.sa s.heap k ck)(P:VR Γ.sa s.heap v cv)(hz:kvs.length<=sizeLine)(G:∀t u c,aA kvs k=some u->VR Γ.sa s.heap u c->Q c { s with toks:=t })(J:∀t h' B n',aA kvs k=none->h'.get? d=some (aV B n')->ER Γ s.heap (kvs++[(k,v)]) B.toList->Heap.SameBut d s.heap h'->Q cv { s with heap:=h',toks:=t }) : wpAny (model Γ.prog Γ.w) A (call (.builtin "dict.setdefault") [.ref d,ck,cv]) Q E s:=by refine n6 F.slot_dict_setdefault D.typeIs F.entry_dict_setdefault ?_ (F.args_dict_setdefault_3 _ _ _);refine ac ?_;refine ac (C7 D.typeIs ?_);refine a9 ?_;show wpAny _ _ (if(d==sysModules)=true then _ else(dictSetDefault d ck cv >>= _)) _ _ s;rw[if_neg (by rw[hd];exact n7)];exact ac (yB (A:=A.in1) (by assumption) D O rk P hz (λt u c a b=>a9 (aa c rfl (G t u c a b))) λt h' B n' a b c d=>a9 (aa cv rfl (J t h' B n' a b c d)))
theorem vt{d:Addr}{v:V}{Q:Value->Shared->Prop}(P:A.units+9<cLine)(D:DAt Γ s.heap d kvs)(O:cW k=1)(rk:VR Γ.sa s.heap k ck)(hv:aA kvs k=some v)(hz:kvs.length<=sizeLine)(h:∀t h' B n' c,VR Γ.sa s.heap v c->h'.get? d=some (aV B n')->ER Γ s.heap (ddel kvs k) B.toList->Heap.SameBut d s.heap h'->Q c { s with heap:=h',toks:=t }) : wpAny (model Γ.prog Γ.w) A (call (.builtin "dict.pop") [.ref d,ck]) Q E s:=by
 have G:(keyPart ck).isSome=true:=by obtain J:=cF (dn O) rk;rcases bg J with⟨_,_,_,rfl⟩|⟨_,_,_,rfl⟩ <;> rfl
 refine n6 F.slot_dict_pop D.typeIs F.entry_dict_pop ?_ (F.args_dict_pop_2 _ _);refine ac ?_;refine ac (C7 D.typeIs ?_);refine a9 ?_;simp only[G,if_true];refine ac (a9 ?_);refine ac (CU (A:=A.in1) (by assumption) D rk hv hz λt h' B n' e a b c d=>?_);exact ac (O8 (a9 (aa e.val rfl (h t h' B n' e.val a b c d))))
end
end
section
set_option tactic.hygienic true
theorem rp{n:Int}(h:FF vs n=some x):∃j,seqIndex? n vs.length=some j/\vs[j]?=some x/\-(vs.length:Int)<=n/\n<vs.length:=by
 unfold FF at h;unfold seqIndex?;split at h
 ·rename_i F;obtain⟨B,_⟩:=f9.mp h;refine⟨n.toNat,?_,h,by exact PY F,by exact PZ B⟩;have e1:¬n<0:=by exact Qa F
  simp only[e1,if_false];rw[if_pos (by simp;exact Qc B e1)]
 ·split at h
  ·rename_i F G;obtain⟨B,_⟩:=f9.mp h;refine⟨(vs.length+n).toNat,?_,h,by exact Qd G,by exact Qe B⟩;obtain e1:n<0:=by exact Qf B
   simp only[e1,if_true];rw[if_pos (by simp;exact Qg G e1),Int.add_comm]
  ·exact ns h
theorem qF(v:V)(F:cz v=true):∀(vs:List V),bu vs=true->((dC vs).any λy=>PyData.eqv y (xu v))=oX v vs
 | [],_=>rfl
 |w::vs,p=>by have p:=(p9 _ _).mp p;obtain B:=qF v F vs p.2;unfold oX at *;simp only[dC,List.any_cons,iM p.1 F,B]
section
variable{loc:Loc}{H:AH}{A:Around}{d:Nat}{Q:V->AH->Prop}
theorem dt(F:Room A d)(hk:k<=200):A.units+k<cLine:=by obtain B:=F.2.2;exact Qh B hk
theorem EStep.same(F:Frame Γ env loc H s.heap)(R:Rel Γ H s.heap){d:Addr}{x x':AO}{t:Nat}{ob':Obj}(J:H d=some x)(G:h'.get? d=some ob')(sb:Heap.SameBut d s.heap h')(r:ORel Γ s.heap ob' x'):EStep Γ env H (H.set d x') s { s with heap:=h',toks:=t } :=(Step.change (s':={ s with heap:=h',toks:=t }) R rfl rfl J (λb o B e=>(sb.2 b B).trans e) G r).toE F.lH
theorem OX(C:CxOK Γ.toSx)(R:Rel Γ H s.heap)(Y:Room A d){v w:V}{cw:Value}{Qb:Bool->Prop}(h:PL H v w Qb)(Q:VR Γ.sa s.heap v cv)(G:VR Γ.sa s.heap w cw)(B:∀b t,Qb b->P (.bool b) { s with toks:=t }):wpAny (model Γ.prog Γ.w) A (compareOp .In cv cw) P aD s/\wpAny (model Γ.prog Γ.w) A (compareOp .NotIn cv cw) (λc s'=>∃b,c=.bool (!b)/\P (.bool b) s') aD s:=by
 cases w with
 |ref b =>
  apply G.ref_el;rcases h with⟨vs,J,F,O,q⟩|⟨kvs,J,kf,q⟩
  ·refine cb (au R J) λcvs n ho ra=>?_;refine bR (Q.reads F.1) λas qa=>?_;obtain⟨bs,qb⟩:=ra.reads O.1;obtain la:=gy v F.1;obtain lb:=im vs O.1;obtain Z:=F.2;obtain hu:=dt Y (k:=10) Qi;exact⟨SeqAt.in_list_reads (E9 ho rfl rfl qb) qa lb.1 la.1 (Ls la.2 Z hu) (by rw[qF v F.1 vs O.1];exact B _ s.toks q),
    SeqAt.notIn_list_reads (E9 ho rfl rfl qb) qa lb.1 la.1 (Ls la.2 Z hu) (by rw[qF v F.1 vs O.1];exact(aa _ rfl (B _ s.toks q)))⟩
  ·obtain D:=R.dat J;obtain hs:=R.nosys C J;exact⟨yD (dt Y vg) D hs kf Q λt=>B _ t q,rG (dt Y vg) D hs kf Q λt=>(aa _ rfl (B _ t q))⟩
 |str t =>
  apply G.str_el;intro t;refine jg h λaP bx q=>?_;subst aP;obtain⟨x,rfl,hx⟩:=bx;apply Q.str_el;intro u;obtain e:∀x∈aR,(Builtin.Str.occurrences (Str.ofString "()[]{},:") (Str.ofString x) 0 (Str.ofString "()[]{},:").length 1).isEmpty=true:=by decide +kernel
  refine⟨PyProof.Rows.in_str ?_,PyProof.Rows.notIn_str ?_⟩
  ·rw[e x hx];exact B false s.toks q
  ·rw[e x hx];exact(aa false rfl (B false s.toks q))
 |_=>exact h.elim
theorem Cr{v:V}(B:VR Γ.sa s.heap v cv):plainIs cv .none=true/\(cv==.none)=cM v .none:=by
 obtain ne:∀{v:V},v≠.none->false=cM v .none:=λh=>(aN.mpr h).symm;cases v with
 |none=>apply B.none_el;exact⟨rfl,by rw[cR];rfl⟩
 |scr=>rw[B.scr_inv];exact⟨rfl,ne (V.noConfusion)⟩
 |bool b=>rw[B.bool_inv];exact⟨rfl,ne (V.noConfusion)⟩
 |int i=>apply B.int_el;intro t;exact⟨rfl,ne (V.noConfusion)⟩
 |str i=>apply B.str_el;intro t;exact⟨rfl,ne (V.noConfusion)⟩
 |ref i=>rw[B.ref_inv];exact⟨rfl,ne (V.noConfusion)⟩
 |tup i=>apply B.tup_el;intro _ _ _ _;exact⟨rfl,ne (V.noConfusion)⟩
theorem tH(C:CxOK Γ.toSx)(F:Frame Γ env loc H s.heap)(R:Rel Γ H s.heap)(O:Room A d)(op:COp){v w:V}{cw:Value}{Qb:Bool->Prop}(h:eP H op v w Qb)(J:VR Γ.sa s.heap v cv)(B:VR Γ.sa s.heap w cw)(G:∀b t,Qb b->P (.bool b) { s with toks:=t }):wpAny (model Γ.prog Γ.w) A (compareOp (Hg op) cv cw) P aD s:=by
 rcases op with _|_|_|_|_|_|_|_
 ·exact Ra R O h J B λb q=>G b s.toks q
 ·exact Rb R O h J B λb q=>G b s.toks q
 ·refine bw h λi j bK cC q=>?_;subst bK;subst cC;apply J.int_el;intro t;apply B.int_el;intro u;exact wpAny_lt_int (G _ s.toks q)
 ·refine bw h λi j dj Q q=>?_;subst dj;subst Q;apply J.int_el;intro t;apply B.int_el;intro u;exact le_int (G _ s.toks q)
 ·refine bw h λi j Y Z q=>?_;subst Y;subst Z;apply J.int_el;intro t;apply B.int_el;intro u;exact gt_int (G _ s.toks q)
 ·obtain⟨rfl,q⟩:=h;rw[B.none_inv];obtain hp:=Cr J;exact wpAny_is_plain hp.1 (by rw[hp.2];exact G _ s.toks q)
 ·exact(OX C R O h J B G).1
 ·refine d8 (OX C R O (Qb:=λb=>Qb (!b)) (P:=λc s'=>∀b,c=.bool b->P (.bool (!b)) s') h J B (λb t q b' e=>by injection e with e;subst e;exact G _ t q)).2 ?_ λ_ _ e=>e;rintro _ s' ⟨b,rfl,q⟩;exact q b rfl
theorem OW(C:CxOK Γ.toSx)(F:Frame Γ env loc H s.heap)(R:Rel Γ H s.heap)(hr:Room A d){v i:V}{ci:Value}(h:sU H Q v i)(rv:VR Γ.sa s.heap v cv)(ri:VR Γ.sa s.heap i ci) : wpAny (model Γ.prog Γ.w) A (getItem cv ci) (EPost Γ env H s Q) aD s:=by
 cases v with
 |tup vs =>obtain⟨n,x,rfl,Z,B,q⟩:=h;apply rv.tup_el;intro a cvs ht J;apply ri.int_el;intro t;refine xG (rp B) λj O h2 h3 h4=>?_;obtain⟨c,P,Y⟩:=J.get h2;have hl:cvs.size=vs.length:=J.length;exact PyProof.Rows.getItem_tuple ht (LO Z) (LT Z) (by rw[hl];exact O) (by rw[<- P];simp) (EPost.same' R q Y)
 |str x =>
  refine bQ h λhx ad=>?_;refine rU ad λn c an G h3 hc q=>?_;subst an;apply rv.str_el;intro t;apply ri.int_el;intro u;have key:∀x∈mc,∀k:Nat,k<3->∀c:Char,x.toList[k]?=some c->(seqIndex? (k:Int) (Str.ofString x).length).bind ((Str.ofString x).cps[·]?)=some c.toNat:=by
   intro x hx k hk c hc;rw[Str.ofString_eq_toList];obtain⟨hl,_⟩:=f9.mp hc;unfold seqIndex?;obtain e1:¬((k:Int)<0):=by exact CN
   simp only[e1,if_false];rw[if_pos (by simp[Str.length];assumption)];simp[hc]
  obtain hk:=key x hx n.toNat (Qj h3) c hc;rw[show((n.toNat:Nat):Int)=n by exact Qk G]at hk;refine PyProof.Rows.getItem_str (by simp;exact Ql G h3) hk ?_;refine EPost.same R q ?_;rw[show(⟨#[c.toNat]⟩:Str)=Str.ofString (String.ofList [c]) by rw[Str.ofString_eq_toList];simp];exact VR.str' _ _
 |ref a =>
  apply rv.ref_el;rcases h with⟨vs,n,x,O,rfl,Z,B,q⟩|⟨kvs,x,O,kf,hx,q⟩
  ·refine cb (au R O) λcvs k ho J=>?_;apply ri.int_el;intro t;obtain hl:cvs.size=vs.length:=J.length;unfold FF at B;split at B
   ·rename_i G;refine af (J.get B) λc P Y=>?_;exact wpAny_getItem_list (bb _ ho rfl (mw _ rfl)) G (LT Z) (by rw[<- P];simp) (EPost.same' R q Y)
   ·split at B
    ·rename_i G h2;refine af (J.get B) λc P Y=>?_;exact wpAny_getItem_list_neg (bb _ ho rfl (mw _ rfl)) (Qm G) (Qn hl h2) (LO Z) (by rw[hl,Int.add_comm,<- P];simp) (EPost.same' R q Y)
    ·exact ns B
  ·exact oC (dt hr vg) (R.dat O) ri hx λt c r=>EPost.same R q r
 |_=>exact h.elim
theorem sS(w:World)(x:Str):PyData.keyHash w.params x=hashStr w x:=rfl
theorem ye{v:V}{c:Value}(r:VR Γ.sa h v c):handedIn c=true:=by
 cases v with
 |none=>rw[r.none_inv];rfl
 |scr=>rw[r.scr_inv];rfl
 |bool b=>rw[r.bool_inv];rfl
 |int i=>apply r.int_el;intro t;rfl
 |str i=>apply r.str_el;intro t;rfl
 |ref i=>rw[r.ref_inv];rfl
 |tup i=>apply r.tup_el;intro _ _ _ _;rfl
theorem ER.isStr{k v:V}{e:DictEntry}(hk:cW k=1)(r:VR Γ.sa h k e.key)(f:String):e.key.isStr (Str.ofString f)=cM k (.str f):=by
 obtain B:=cF (dn hk) r;rcases bg B with⟨i,t,rfl,e'⟩|⟨x,t,rfl,e'⟩
 ·rw[e',aN.mpr (V.noConfusion)];rfl
 ·rw[e'];show(Str.ofString x==Str.ofString f)=_;by_cases q:x=f
  ·subst q;rw[cR];simp
  ·rw[aN.mpr (by intro z;injection z with z;subst z;exact q rfl),beq_eq_false_iff_ne]
   exactλz=>q (aZ z)
theorem ER.getL(f:String):∀{kvs:List (V×V)}{es:List DictEntry},ER Γ h kvs es->(∀p∈kvs,cW p.1=1)->∃G,PySem.W.getL (Str.ofString f) es=some G/\Rg Γ.sa h (aA kvs (.str f)) G
 | [],_,x,_=>by simp[ER]at x;subst x;exact(aa none rfl trivial)
 |(k,v)::r,_,x,hk=>by
  refine rU x λe es F a b c d=>?_;subst F;obtain e1:=ER.isStr (v:=v) (hk _ d6) a f;refine af (ER.getL f d λp hp=>hk p (d7 _ hp)) λG J O=>?_;unfold PySem.W.getL at J ⊢;unfold aA at O ⊢;rw[List.find?_cons,List.find?_cons,e1];cases q:cM k (.str f)with
  |true=>exact(aa (some e.val) rfl c)
  |false =>
   simp only;have e2:e.refKey=false:=by obtain B:=cF (dn (hk _ d6)) a;unfold DictEntry.refKey;rcases bg B with⟨i,t,_,e'⟩|⟨x,t,_,e'⟩ <;> rw[e']
   rw[List.any_cons,e2,Bool.false_or];exact(aa G J O)
theorem ER.putL(f:String){v:V}(F:VR Γ.sa h v cv)(t:Tok):∀{kvs:List (V×V)}{es:List DictEntry},ER Γ h kvs es->(∀p∈kvs,cW p.1=1)->(kvs.map (·.1)).Nodup -> ER Γ h (dput kvs (.str f) v) (PySem.W.putL (Str.ofString f) (hashStr Γ.w (Str.ofString f)) (.str (Str.ofString f) t) cv es)
 | [],_,x,_,_=>by simp[ER]at x;subst x;rw[bz rfl];exact(mN _ ([]) rfl (VR.str' _ _) (by simp[aF]) F rfl)
 |(k,u)::r,_,x,hk,nd=>by
  refine rU x λe es B a b c d=>?_;subst B;obtain e1:=ER.isStr (v:=u) (hk _ d6) a f;rw[List.map_cons,List.nodup_cons]at nd;unfold PySem.W.putL;rw[e1];cases q:cM k (.str f)with
  |true =>
   obtain this:=(bt _ _).mp q;subst this;obtain G:fJ ((.str f,u)::r) (.str f)=some 0:=by unfold fJ;rw[List.findIdx?_cons];simp[cR]
   rw[kB (by rw[List.map_cons,List.nodup_cons];exact nd) G rfl];exact(mN _ es rfl a b F d)
  |false =>
   obtain J:=ER.putL f F t d (λp hp=>hk p (d7 _ hp)) nd.2
   have:dput ((k,u)::r) (.str f) v=(k,u)::dput r (.str f) v:=by
    unfold dput;rw[List.any_cons,q,Bool.false_or];split
    ·rw[List.map_cons,q];rfl
    ·rfl
   rw[this];exact(mN e _ rfl a b c J)
theorem tE(n:Str)(hs:Int)(k v:Value)(es:List DictEntry):(PySem.W.putL n hs k v es).length<=es.length+1:=by
 induction es with
 |nil=>simp[PySem.W.putL]
 |cons e r B=>unfold PySem.W.putL;split <;> simp <;> assumption
theorem kA{a:Addr}(R:Rel Γ H h)(e:H a=some (.dict kvs)):∃es n,h.get? a=some (dictOf es n)/\ER Γ h kvs es/\dictOK kvs:=by refine bw (bV R e) λes n B F G=>?_;exact(bc es.toList n (by simpa using B) F G)
theorem nF{a:Addr}(R:Rel Γ H h){c:String}(e:H a=some (.inst c dx)):∃C,Γ.cls c=some C/\h.get? a=some (instObj C dx):=by refine af (R.obj a _ e) λob G B=>?_;refine af B λC J F=>?_;subst F;exact(aa C J G)
theorem Rel.kin(C:CxOK Γ.toSx)(R:Rel Γ H h):Γ.K.In h:=C.kin.keeps R.base
theorem dictOK.str(d:dictOK kvs){f:String}{v:V}(h:aA kvs (.str f)=some v):∀p∈kvs,cW p.1=1:=λp hp=>(keyFits.of d h).2 p hp
theorem FW(C:CxOK Γ.toSx)(F:Frame Γ env loc H s.heap)(R:Rel Γ H s.heap){v:V}{f:String}{b:Bool}(h:zi H Q Γ.toSx v f)(rv:VR Γ.sa s.heap v cv) : wpAny (model Γ.prog Γ.w) A (getAttr cv (Str.ofString f) b) (EPost Γ env H s Q) aD s:=by
 refine RR h λa c dx kvs x B P Y Z G q=>?_;subst B;apply rv.ref_el;refine af (nF R P) λD hD ho=>?_;refine bw (kA R Z) λes n hd O J=>?_;obtain K:=C.fld c D f hD Y;refine af (ER.getL f O (J.str G)) λoc l1 l2=>?_;rw[G]at l2;rcases oc with _|cx
 ·exact l2.elim
 ·refine af K.nf λattr n1 n2=>?_;exact get_value (Rel.kin C R) ⟨ho,rfl,rfl,hd⟩ (Q5 K.g).1 (findObj_own (od:=dictOf es n) K.hd n1 n2 ((lookIn_dict _ es n).trans l1)) (ye l2) (EPost.same R q l2)
theorem yF(C:CxOK Γ.toSx)(F:Frame Γ env loc H s.heap)(R:Rel Γ H s.heap){a:Addr}{c f:String}{v:V}{P:Unit->Shared->Prop}(h1:H a=some (.inst c dx))(h2:f∈Γ.flds c)(B:H dx=some (.dict kvs))(hk:∀p∈kvs,cW p.1=1)(hz:kvs.length<=500)(rv:VR Γ.sa s.heap v cv)(hP:∀s',EStep Γ env H (H.set dx (.dict (dput kvs (.str f) v))) s s'->P () s') : wpAny (model Γ.prog Γ.w) A (setAttr (.ref a) (Str.ofString f) cv) P aD s:=by
 refine af (nF R h1) λD hD ho=>?_;refine bw (kA R B) λes n hd Q Y=>?_;obtain K:=C.fld c D f hD h2;refine af (ER.getL f Q hk) λoc l1 l2=>?_;refine af (F.fr R) λm hm O=>?_;obtain G:(dx,(dictOf es n:Obj))∈cU Γ.base env.locals s.heap:=gi.mpr ⟨hd,(λz=>by rw[z,F.lH]at B;exact ns B),R.fresh _ _ B⟩;refine cL (vS (o':=dictOf (PySem.W.putL (Str.ofString f) (PyData.keyHash Γ.w.params (Str.ofString f)) (.str (Str.ofString f) (s.toks+1)) cv es) (putN (Str.ofString f) es n)) G) λnews' U m1 m2=>?_;obtain hl:=Q.length;refine W.set_dict O C.kin bB ⟨ho,rfl,rfl,hd⟩ rfl K.st K.po K.tk K.hd (by rw[l1];rfl) rfl U ?_ λh' Z N'=>hP _ ?_
 ·obtain J:=tE (Str.ofString f) (PyData.keyHash Γ.w.params (Str.ofString f)) (.str (Str.ofString f) (s.toks+1)) cv es;exact Qo hl J hz
 ·refine EStep.updNews F R hm Z N' m2 m1 B (bc _ _ rfl ?_ (Y.dput (k:=.str f) ⟨by show(1:Nat)≠0;exact Qq,λp hp=>hk p hp⟩ v));rw[List.toList_toArray,sS];exact ER.putL f rv _ Q hk Y.1
end
end
section
variable{a:Addr}
set_option tactic.hygienic true
section
variable{loc:Loc}{H:AH}{A:Around}{d:Nat}{Q:V->AH->Prop}
theorem sg:∀{cvs:List Value}{ns:List Int},IntsAre cvs ns->VRs Γ.sa h (ns.map .int) cvs
 |_,_,.nil=>.nil
 |_,_,.cons n t r=>.cons (VR.int' n t) (sg r)
theorem nG:∀{cvs:List Value}{ns:List Int},VRs Γ.sa h (ns.map .int) cvs->IntsAre cvs ns
 |cvs,[],x=>x.nil_inv▸.nil
 |cvs,n::ns,x=>by refine bw (VRs.cons_inv x) λc r aP a b=>?_;subst aP;apply a.int_el;intro t;exact .cons n t (nG b)
theorem VRs.set:∀{vs:List V}{cs:List Value},VRs Γ.sa h vs cs->∀(i:Nat){v:V}{c:Value},VR Γ.sa h v c->VRs Γ.sa h (vs.set i v) (cs.set i c)
 | [],_,x,i,_,_,_=>by rw[x.nil_inv];simpa using VRs.nil
 |_::_,_,x,0,_,_,r=>by refine bw x.cons_inv λc cs bx a b=>?_;subst bx;exact .cons r b
 |_::_,_,x,i+1,_,_,r=>by refine bw x.cons_inv λc cs bK a b=>?_;subst bK;exact .cons a (VRs.set b i r)
def BR:Option Nat->Value->Prop
 |none,c=>c=.none
 |some n,c=>∃t,c=.int n t
theorem BR.part{o:Option Nat}{c:Value}(h:BR o c):IsPart c (o.map λ(n:Nat)=>(n:Int)):=by
 rcases o with _|n
 ·subst h;exact .none
 ·obtain⟨t,rfl⟩:=h;exact .int _ _
theorem Pb(C:CxOK Γ.toSx)(F:Frame Γ env loc H s.heap)(R:Rel Γ H s.heap){v:V}{Z hc:Value}{lo hi:Option Nat}{sl:Addr}(h:Go H Q Γ.toSx v lo hi)(rv:VR Γ.sa s.heap v cv)(hs:s.heap.IsSliceOf sl Z hc .none)(bl:BR lo Z)(P:BR hi hc) : wpAny (model Γ.prog Γ.w) A (getItem cv (.ref sl)) (EPost Γ env H s Q) aD s:=by
 cases v with
 |tup vs =>refine ET h λJ O dj zq6 q=>?_;subst dj;subst zq6;apply rv.tup_el;intro a cvs ht ra;obtain⟨t,rfl⟩:=bl;obtain rfl:hc=.none:=P;obtain hl:cvs.size=vs.length:=ra.length;refine getItem_tuple_from ht hs MY (Qr hl O) ?_ (by rw[sizeLine_eq];exact Nw hl J);exact EPost.tuple F R (k:=s.toks) q (ra.drop 1)
 |str x =>
  refine rT h λhx zq8 zq9 q=>?_;subst zq8;subst zq9;apply rv.str_el;intro t;obtain rfl:Z=.none:=bl;obtain⟨u,rfl⟩:=P;refine wpAny_getItem_str_slice (l:=none) (u:=some (((1:Nat):Int),u)) (st:=none) hs rfl ?_;obtain key:∀x∈mc,(Builtin.Str.strSliceIndices none (some ((1:Nat):Int)) 1 (Str.ofString x).length=[0])/\(if(1==(Str.ofString x).length)=true then Str.ofString x else⟨([0].filterMap ((Str.ofString x).cps[·]?)).toArray⟩)=Str.ofString (String.ofList (x.toList.take 1)) /\
    (⟨([0].filterMap ((Str.ofString x).cps[·]?)).toArray⟩:Str).length<=1:=by decide +kernel
  refine jg (key x hx) λk1 k2 k3=>?_;unfold sliceMade;have e:slicePicked (Str.ofString x) none (some (((1:Nat):Int),u)) none=[0]:=k1;rw[e];show(if((1:Int)==1&&([0]:List Nat).length==(Str.ofString x).length)=true then _ else _:Made).post _ _;rw[beq_self_eq_true,Bool.true_and,List.length_singleton];split
  ·rename_i B;rw[if_pos B]at k2;rw[k2];exact EPost.same' R q (VR.str' _ _)
  ·rename_i B;rw[if_neg B]at k2;rw[k2];refine⟨by rw[<- k2];exact b8 k3 (by rw[sizeLine_eq];exact Qt),EPost.same R q (VR.str' _ _)⟩
 |scr =>
  obtain⟨rfl,n,rfl,hn,q⟩:=h;rw[rv.scr_inv];refine af C.scr λcvs hl hi=>?_;refine cL hl λo J O G=>?_;refine bR G λk h3=>?_;obtain Y:s.heap.IsList Γ.sad cvs:=(bb o (R.base _ _ J) O (mw k h3));refine wpAny_getItem_list_slice Y hs bl.part P.part .none (by decide) ?_ ?_
  ·rw[kms_pick_eq];refine EPost.push F R (k:=s.toks) (x:=.list ((Γ.svs.take n).map .int)) q (fA _ 0 rfl ?_);rw[List.toList_toArray,List.map_take]
   have:kms_pick cvs.toList (none.map λ(n:Nat)=>(n:Int)) ((some n).map λ(n:Nat)=>(n:Int))=cvs.toList.take n:=by
    unfold kms_pick;simp only[Option.map_none,Option.map_some];unfold kms_lo kms_hi;obtain e1:¬(((n:Nat):Int)<0):=by exact CN
    simp only[e1,if_false,Int.toNat_natCast,List.drop_zero,Nat.sub_zero];rcases j0 n cvs.toList.length with B|B
    ·rw[Nat.min_eq_left B]
    ·rw[Nat.min_eq_right B,List.take_of_length_le (Nat.le_refl _),List.take_of_length_le B]
   rw[this];exact(sg hi).take n
  ·exact C.scrz cvs (bb o J O (mw k h3))
 |_=>exact h.elim
theorem oH(F:Frame Γ env loc H s.heap)(R:Rel Γ H s.heap){i:Int}{v:V}{B:Value}{P:Unit->Shared->Prop}(G:H a=some (.list vs))(Q:0<=i)(J:i<vs.length)(Z:vs.length<2^60)(ri:VR Γ.sa s.heap (.int i) B)(rv:VR Γ.sa s.heap v cv)(Y:∀s',EStep Γ env H (H.set a (.list (vs.set i.toNat v))) s s'->P () s'):wpAny (model Γ.prog Γ.w) A (setItem (.ref a) B cv) P aD s:=by refine cb (au R G) λcvs n O rs=>?_;apply ri.int_el;intro t;obtain hl:cvs.size=vs.length:=rs.length;refine ki_setAt O Q (Qu J Z) (Qv hl J) (Y _ (EStep.same F R (t:=s.toks) G (k8 _ O rfl) (m7 ..) (fA _ _ rfl ?_)));rw[Array.toList_setIfInBounds];exact rs.set _ rv
theorem oF(C:CxOK Γ.toSx)(F:Frame Γ env loc H s.heap)(R:Rel Γ H s.heap)(Q:Room A d){k v:V}{P:Unit->Shared->Prop}(B:H a=some (.dict kvs))(G:keyFits kvs k)(hz:kvs.length<2^20)(rk:VR Γ.sa s.heap k ck)(Y:VR Γ.sa s.heap v cv)(O:∀s',EStep Γ env H (H.set a (.dict (dput kvs k v))) s s'->P () s'):wpAny (model Γ.prog Γ.w) A (setItem (.ref a) ck cv) P aD s:=by have D:=R.dat B;exact oE (dt Q vg) D G rk Y (by rw[sizeLine_eq];exact Ol hz) λt h' J n' x y z=>O _ (EStep.same F R B x z (bc _ _ rfl y ((D.choose_spec.choose_spec.2.2).dput G v)))
theorem yp(F:Frame Γ env loc H s.heap)(R:Rel Γ H s.heap){c:Value}(G:H a=some (.list vs))(hz:vs.length<2^20)(q:Q .none (H.set a (.list (vs++[x]))))(J:VR Γ.sa s.heap x c) : wpAny (model Γ.prog Γ.w) A (call (.builtin "list.append") [.ref a,c]) (EPost Γ env H s Q) aD s:=by refine cb (au R G) λcvs n B rs=>?_;exact call_meets PySem.F.slot_list_append (aa _ B rfl) PySem.F.entry_list_append (PySem.F.args_list_append_2 _ _) (PySem.AutoListH.list_append_list_val_0 a cvs n c (Qw rs.length hz J6)) ⟨B,(bc _ _ q VR.none' (EStep.same F R G (k8 _ B rfl) (m7 ..) (fA _ _ rfl (by rw[Array.toList_push];exact rs.append (VRs.one J)))))⟩
theorem yq(F:Frame Γ env loc H s.heap)(R:Rel Γ H s.heap){b:Addr}{ws:List V}(Y:H a=some (.list vs))(Z:H b=some (.list ws))(hz:vs.length+ws.length<=2^20)(q:Q .none (H.set a (.list (vs++ws)))) : wpAny (model Γ.prog Γ.w) A (call (.builtin "list.extend") [.ref a,.ref b]) (EPost Γ env H s Q) aD s:=by
 refine cb (au R Y) λcvs n O rs=>?_;refine cb (au R Z) λB n' P J=>?_;have hl:cvs.size=vs.length:=rs.length;have G:B.size=ws.length:=J.length;exact call_meets PySem.F.slot_list_extend (aa _ O rfl) PySem.F.entry_list_extend (PySem.F.args_list_extend_2 _ _) (PySem.AutoSeq1.list_extend_list_list_0 a cvs n b B n' (by rw[show Builtin.List.listTooLong (cvs.size+B.size)=false from decide_eq_false (Nat.not_lt.mpr (Qz hz hl G sizeLine_eq))];simp) (Qx hz hl J6) (Qy hz hl G J6))
  (da O P (bc _ _ q VR.none' (EStep.same F R Y (k8 _ O rfl) (m7 ..) (fA _ _ rfl (by rw[Array.toList_append];exact rs.append J)))))
theorem Ft(F:Frame Γ env loc H s.heap)(R:Rel Γ H s.heap){ws:List V}(J:H a=some (.list (ws++[x])))(hz:(ws++[x]).length<=2^20)(q:Q x (H.set a (.list ws))) : wpAny (model Γ.prog Γ.w) A (call (.builtin "list.pop") [.ref a]) (EPost Γ env H s Q) aD s:=by
 refine cb (au R J) λcvs n G rs=>?_;obtain hl:cvs.size=ws.length+1:=rs.length.trans K6;refine af (rs.get (i:=ws.length) (v:=x) List.getElem?_concat_length) λc e1 P=>?_;have O:(cvs.eraseIdxIfInBounds (cvs.size-1)).toList=cvs.toList.take ws.length:=by rw[hl];obtain⟨l⟩:=cvs;have B:l.length=ws.length+1:=hl;simp;rw[List.eraseIdx_eq_take_drop_succ,List.drop_of_length_le (QB B)];simp
 obtain S:EStep Γ env H (H.set a (.list ws)) s { s with heap:=s.heap.update a (Obj.mapSeq λxs=>xs.eraseIdxIfInBounds (cvs.size-1)),toks:=s.toks }:=EStep.same F R (t:=s.toks) J (k8 _ G rfl) (m7 ..) (fA _ _ rfl (by rw[O];simpa using rs.take ws.length));exact call_meets PySem.F.slot_list_pop (aa _ G rfl) PySem.F.entry_list_pop (PySem.F.args_list_pop_1 _) (PySem.MeetsSeq.list_pop_last a cvs n c (by rw[hl,<- e1];simp) (QA rs.length hz J6)) ⟨G,(bc _ _ q (P.keep S.st.tup) S)⟩
theorem xf(C:CxOK Γ.toSx)(F:Frame Γ env loc H s.heap)(R:Rel Γ H s.heap)(hr:Room A d){v:V}{m:String}{args:List V}{B:List Value}(h:wH H Q v m args)(Z:VR Γ.sa s.heap v cv)(J:VRs Γ.sa s.heap args B) : wpAny (model Γ.prog Γ.w) A (call (.builtin ("list."++m)) (cv::B)) (EPost Γ env H s Q) aD s:=by
 obtain⟨a,vs,rfl,G,h⟩:=h;apply Z.ref_el;rcases h with⟨rfl,x,rfl,hz,q⟩|⟨rfl,b,ws,rfl,Y,P,hz,q⟩|⟨rfl,ws,x,rfl,rfl,hz,q⟩
 ·apply J.one_el;intro c O;exact yp F R G hz q O
 ·apply J.one_el;intro c O;apply O.ref_el;exact yq F R G P hz q
 ·apply J.nil_el;exact Ft F R G hz q
theorem xV(C:CxOK Γ.toSx)(F:Frame Γ env loc H s.heap)(R:Rel Γ H s.heap)(hr:Room A d){k dv:V}{J O:Value}(G:H a=some (.dict kvs))(P:keyFits kvs k)(hz:kvs.length<2^20)(q:Q ((aA kvs k).getD dv) (match aA kvs k with|some _=>H|none=>H.set a (.dict (kvs++[(k,dv)]))))(r1:VR Γ.sa s.heap k J)(Y:VR Γ.sa s.heap dv O) : wpAny (model Γ.prog Γ.w) A (call (.builtin "dict.setdefault") [.ref a,J,O]) (EPost Γ env H s Q) aD s:=by
 obtain D:=R.dat G;refine pG (dt hr vg) D (R.nosys C G) P r1 Y (OJ J6 hz) (λt u c B r=>?_) λt h' Z n' B x y z=>?_
 ·rw[B]at q;exact EPost.same R q r
 ·rw[B]at q;have S:=EStep.same (x':=.dict (kvs++[(k,dv)])) (t:=t) F R G x z (bc _ _ rfl y (by rw[<- bz B];exact D.choose_spec.choose_spec.2.2.dput P dv));exact(bc _ _ q (Y.keep S.st.tup) S)
theorem Fk(C:CxOK Γ.toSx)(F:Frame Γ env loc H s.heap)(R:Rel Γ H s.heap)(O:Room A d){k:V}{B:Value}(G:H a=some (.dict kvs))(Y:cW k=1)(hz:kvs.length<2^20)(P:aA kvs k=some x)(q:Q x (H.set a (.dict (ddel kvs k))))(Z:VR Γ.sa s.heap k B):wpAny (model Γ.prog Γ.w) A (call (.builtin "dict.pop") [.ref a,B]) (EPost Γ env H s Q) aD s:=by have D:=R.dat G;refine vt (dt O vg) D Y Z P (OJ J6 hz) λt h' J n' c rc x y z=>?_;obtain S:=EStep.same (x':=.dict (ddel kvs k)) (t:=t) F R G x z (bc _ _ rfl y (D.choose_spec.choose_spec.2.2.ddel k));exact(bc _ _ q (rc.keep S.st.tup) S)
theorem CT(C:CxOK Γ.toSx)(F:Frame Γ env loc H s.heap)(R:Rel Γ H s.heap)(O:Room A d){v:V}{m:String}{args:List V}{B:List Value}(h:DD H Q v m args)(rv:VR Γ.sa s.heap v cv)(Z:VRs Γ.sa s.heap args B) : wpAny (model Γ.prog Γ.w) A (call (.builtin ("dict."++m)) (cv::B)) (EPost Γ env H s Q) aD s:=by
 obtain⟨a,kvs,rfl,J,h⟩:=h;apply rv.ref_el;rcases h with⟨rfl,k,dv,rfl,P,q⟩|⟨rfl,k,dv,rfl,P,hz,q⟩|⟨rfl,k,x,rfl,k1,hz,hx,q⟩
 ·apply Z.two_el;intro c1 c2 G Y;exact vr (dt O vg) (R.dat J) (R.nosys C J) P G Y λt c r=>EPost.same R q r
 ·apply Z.two_el;intro c1 c2 G Y;exact xV C F R O J P hz q G Y
 ·apply Z.one_el;intro c1 G;exact Fk C F R O J k1 hz hx q G
theorem yE(R:Rel Γ H s.heap){v:V}(h:∃x,v=.str x/\x∈aR)(q:Q (.bool false) H)(G:VR Γ.sa s.heap v cv):wpAny (model Γ.prog Γ.w) A (call (.builtin "str.isspace") [cv]) (EPost Γ env H s Q) aD s:=by
 refine af h λx B F=>?_;subst B;apply G.str_el;intro t;obtain key:∀x∈aR,Txt.isspace (Str.ofString x)=false:=by decide +kernel
 exact SC.isspace (by rw[key x F];exact EPost.same' R q (VR.bool' _))
end
end
section
variable{a:Addr}
section
variable{loc:Loc}{H:AH}{A:Around}{d:Nat}{Q:V->AH->Prop}
theorem tM:∀{kvs:List (V×V)}{es:List DictEntry},ER Γ h kvs es->bJ kvs->∃B:List (V×Value),B.map (·.1)=kvs.map (·.1)/\VRs Γ.sa h (kvs.map (·.2)) (B.map (·.2)) /\ @Pairs Γ.prog Γ.w V vdec (bH Γ.prog Γ.w) es B/\∀e∈es,∃k,oJ k e.key=true/\e.hash=aF Γ.w k
 | [],_,x,_=>by simp[ER]at x;subst x;exact(iN ([]) rfl .nil (@Pairs.nil Γ.prog Γ.w V vdec _) (λ_ h=>absurd h i6))
 |(k,v)::r,_,x,hk=>by
  refine rU x λe es aP a b c d=>?_;subst aP;refine xG (tM d λp hp=>hk p (d7 _ hp)) λB G J O P=>?_;have hs:=cF (dn (hk _ d6)) a;refine(iN ((k,e.val)::B) (by simp[G]) (VRs.cons c J) (@Pairs.cons Γ.prog Γ.w V vdec _ e (k,e.val) es B hs rfl O) (λe' F=>?_));rcases i8.mp F with rfl|F
  ·exact(aa k hs b)
  ·exact P e' F
theorem xj{F:Addr}{es:Array DictEntry}{n:Nat}(ho:h.get? F=some (aV es n))(O:ER Γ h kvs es.toList)(J:dictOK kvs)(sk:bJ kvs) : ∃B:List (V×Value),B.map (·.1)=kvs.map (·.1)/\VRs Γ.sa h (kvs.map (·.2)) (B.map (·.2))/\@Heap.DictAt Γ.prog Γ.w V vdec (bH Γ.prog Γ.w) h F B n:=by refine xG (tM O sk) λB G P Q Y=>?_;exact(bb B G P (Py _ es ho (da rfl rfl rfl) rfl (λe Z=>Y e (w4.mpr Z)) Q (by rw[G];exact J.1)))
theorem xi{F:List (V×Value)}{es:List DictEntry}(P:@Pairs Γ.prog Γ.w V vdec (bH Γ.prog Γ.w) es F)(hk:∀e∈es,∃k,oJ k e.key=true/\e.hash=aF Γ.w k) : ∀{kvs:List (V×V)},F.map (·.1)=kvs.map (·.1)->VRs Γ.sa h (kvs.map (·.2)) (F.map (·.2))->ER Γ h kvs es:=by
 induction P with
 |nil=>intro kvs e1 _;cases kvs with|nil=>rfl|cons _ _=>simp at e1
 |@cons e kv es O hi hv P Z =>
  intro kvs e1 Y;rcases kvs with _|⟨p,r⟩
  ·simp at e1
  ·obtain⟨k,v⟩:=p;simp only[List.map_cons,List.cons.injEq]at e1;refine bw (VRs.cons_inv Y) λc cs e2 r1 r2=>?_;simp only[List.map_cons,List.cons.injEq]at e2;refine af (hk e d6) λk' G J=>?_;obtain B:kv.1=k':=@KeyKind.inj _ _ V vdec (bH Γ.prog Γ.w) _ _ _ hi G;refine(mN e es rfl ?_ (by rw[J,<- B,e1.1]) (by rw[hv,e2.1];exact r1) (Z (λe Q=>hk e (d7 _ Q)) e1.2 (by rw[e2.2];exact r2)));obtain B:=mR (sa:=Γ.sa) (h:=h) hi;rw[e1.1]at B;exact B
theorem FT{H:AH}{Q:V->AH->Prop}{v:V}(h:iZ H Q .len v):(∃a,v=.tup a)\/∃a,v=.ref a:=by
 cases v with
 |tup a=>exact .inl ⟨a,rfl⟩
 |ref a=>exact .inr ⟨a,rfl⟩
 |_=>exact False.elim h
theorem OY(F:Frame Γ env loc H s.heap)(R:Rel Γ H s.heap){v:V}(h:iZ H Q .len v)(G:VR Γ.sa s.heap v cv):wpAny (model Γ.prog Γ.w) A (call (.builtin "len") [cv]) (EPost Γ env H s Q) aD s:=by
 rcases FT h with⟨vs,rfl⟩|⟨a,rfl⟩
 ·have h:vs.length<=2^20/\Q (.int vs.length) H:=h;apply G.tup_el;intro a cvs Y B;obtain hl:cvs.size=vs.length:=B.length;exact PyProof.Rows.len_tuple Y (QC hl h.1) (by rw[hl];exact EPost.int R h.2)
 ·apply G.ref_el;refine cL h λvs J O q=>?_;refine cb (au R J) λcvs n P B=>?_;have hl:cvs.size=vs.length:=B.length;exact PySem.Calls.call_len_list (bb _ P rfl (mw _ rfl)) (QD hl O) (by rw[hl];exact EPost.int R q)
theorem Pd(F:Frame Γ env loc H s.heap)(R:Rel Γ H s.heap)(O:Room A d){ns:List Int}(h:H a=some (.list (ns.map .int)))(q:Q (.int ns.sum) H) : wpAny (model Γ.prog Γ.w) A (call (.builtin "sum") [.ref a]) (EPost Γ env H s Q) aD s:=by refine cb (au R h) λcvs n J P=>?_;refine af (F.fr R) λm hm B=>?_;refine PyProof.Rows.LSm.sum_ints (vs:=cvs.toList) B bB O.1 (bb _ J rfl (mw n (by rfl))) (nG P) λh' tk t' G N'=>?_;exact(bc _ _ q (VR.int' _ _) (EStep.ofNews F R hm G N' λp hp=>hp))
theorem OZ(F:Frame Γ env loc H s.heap)(R:Rel Γ H s.heap)(Y:Room A d){i:Int}{ns:List Int}(h:H a=some (.list ((i::ns).map .int)))(q:∀M,M∈i::ns->(∀x∈i::ns,x<=M)->Q (.int M) H) : wpAny (model Γ.prog Γ.w) A (call (.builtin "max") [.ref a]) (EPost Γ env H s Q) aD s:=by refine cb (au R h) λcvs n P Z=>?_;refine af (F.fr R) λm hm G=>?_;refine kso_max (vs:=cvs.toList) G bB ⟨_,P,rfl,n,by simp⟩ (nG Z) (by simp) Y.1 λh' M t tk J N' O B=>?_;exact(bc _ _ (q M O B) (VR.int' _ _) (EStep.ofNews F R hm J N' λp hp=>hp))
theorem OU(R:Rel Γ H s.heap){i:Int}{c:Value}(B:VR Γ.sa s.heap (.int i) c)(q:Q (.int i.natAbs) H):wpAny (model Γ.prog Γ.w) A (call (.builtin "abs") [c]) (EPost Γ env H s Q) aD s:=by apply B.int_el;intro t;refine call_abs_int λu tk=>?_;rw[show(if i<0 then -i else i)=(i.natAbs:Int) by split <;>(first|exact QE (by assumption)|exact QF (by assumption))];exact EPost.int R q
theorem Pc(R:Rel Γ H s.heap){i:Int}{c:Value}(G:VR Γ.sa s.heap (.int i) c)(B:0<=i)(F:i<10)(q:Q (.str (toString i)) H):wpAny (model Γ.prog Γ.w) A (call (.type "str") [c]) (EPost Γ env H s Q) aD s:=by
 apply G.int_el;intro t;refine PySem.P.str_of_int ?_ (EPost.same R q (VR.str' _ _));obtain key:∀k<10,k.log2<1920:=by decide
 exact key _ (QG B F)
theorem tK(R:Rel Γ H s.heap){c:Value}(B:VR Γ.sa s.heap (.tup vs) c)(q:Q (.tup vs) H):wpAny (model Γ.prog Γ.w) A (call (.type "tuple") [c]) (EPost Γ env H s Q) aD s:=by refine bw B.tup_inv λa cvs dj F G=>?_;subst dj;exact call_tuple_tup F (EPost.same' R q B)
theorem rI(F:Frame Γ env loc H s.heap)(R:Rel Γ H s.heap)(h:H a=some (.list vs))(hz:vs.length<=16384)(q:Q (.tup vs) H) : wpAny (model Γ.prog Γ.w) A (call (.type "tuple") [.ref a]) (EPost Γ env H s Q) aD s:=by refine cb (au R h) λcvs n O G=>?_;obtain hl:cvs.size=vs.length:=G.length;refine af (F.fr R) λm hm B=>?_;refine kde_tupleOf B bB (bb _ O rfl (mw n rfl)) (QH hl hz) rfl λD h' J N' lt=>?_;obtain S:=EStep.ofNews F R hm (tk:=s.toks) J N' λp hp=>.tail _ hp;exact(bc _ _ q (VR.tup' (R.nx (ln R (N' _ (.head _)).2.1 (N' _ (.head _)).2.2 lt)) (bb _ ((N' _ (.head _)).1) rfl (mw 0 rfl)) (G.keep S.st.tup)) S)
theorem FX(C:CxOK Γ.toSx)(F:Frame Γ env loc H s.heap)(R:Rel Γ H s.heap)(h:H a=some (.dict kvs))(sk:bJ kvs)(hz:kvs.length<=1000)(q:fresh H Q (.dict kvs)) : wpAny (model Γ.prog Γ.w) A (call (.type "dict") [.ref a]) (EPost Γ env H s Q) aD s:=by
 letI:DecidableEq V:=vdec
 refine bw (bV R h) λes n ho er Y=>?_;refine cL (xj ho er Y sk) λP Z h2 h3=>?_;obtain hl:P.length=kvs.length:=by obtain G:=j6 List.length Z;simpa using G
 refine kt_call_dict (R.nosys C h) h3.dictOf (by rw[sizeLine_eq];exact Nw hl hz) λh' hd sb=>?_;refine Pu hd λo J ep O hx B hk hp hnd=>?_;obtain hn:s.heap.get? s.heap.objs.size=none:=i9 (f7 _);obtain k:∀b o,s.heap.get? b=some o->h'.get? b=some o:=λb o e=>(sb.2 b (n9 (o8 e))).trans (d5 _ e);have ob:o=aV J ep:=by obtain⟨c1,c2,c3,c4⟩:=o;obtain⟨x1,x2,x3⟩:=hx;simp only at x1 x2 x3 B;subst x1 x2 x3 B;rfl
 obtain⟨S,hH⟩:=Step.alloc (own:=dZ) (s':={ s with heap:=h',toks:=s.toks }) R rfl rfl hn k O (x:=.dict kvs)
  (bc _ _ ob (xi hp (λe he=>hk e (w4.mp he)) Z (h2.keep (TupKeep.of_keep k))) Y)
 exact(bc _ _ (q _ hH) (VR.ref' _) (S.toE F.lH))
end
end
section
variable{loc:Loc}{H:AH}{A:Around}{d:Nat}{Q:V->AH->Prop}
theorem yf{x:String}(h:Pr nm x=true):nm.lookup (Str.ofString x)=some .local\/nm.lookup (Str.ofString x)=some .cell\/nm.lookup (Str.ofString x)=some .free:=by unfold Pr at h;split at h <;> simp_all
theorem AW(F:Frame Γ env loc H s.heap){x:String}{p:Pos}{v:V}(hl:Pr env.scope.names x=true)(J:ie (Str.ofString x)=true)(hv:loc x=some v)(Q:∀c,VR Γ.sa s.heap v c->P c s) : wpAny (model Γ.prog Γ.w) A (eval (.Name (Str.ofString x) p) env) P E s:=by
 unfold ie at J;simp only[Bool.and_eq_true,Bool.not_eq_true']at J;refine wpAny_Name ?_ J.1;rcases yf hl with k|k|k
 ·refine af F.ns λm Y hm=>?_;refine af (hm x v hv k) λcv B G=>?_;exact wpAny_loadName_local F.kind k Y B (Q cv G)
 ·obtain⟨c,cv,B,G,O⟩:=F.cellv x v hv (.inl k);exact wpAny_loadName_cell F.kind k B G (Q cv O)
 ·obtain⟨c,cv,B,G,O⟩:=F.cellv x v hv (.inr k);exact wpAny_loadName_free F.kind k B G (Q cv O) J.2
theorem oD{mg:Str->Option Value}(F:Frame Γ env loc H s.heap)(R:Rel Γ H s.heap)(G:Γ.base.Ns mainGlobals mg){x:Str}{p:Pos}{c:Value}(hl:Ho env.scope.names x=true)(B:ie x=true)(hv:mg x=some c)(O:P c s) : wpAny (model Γ.prog Γ.w) A (eval (.Name x p) env) P E s:=by
 unfold ie at B;simp only[Bool.and_eq_true,Bool.not_eq_true']at B;obtain hk:env.kindOf x=some .globalImplicit:=by unfold Ho at hl;exact z5.mp hl
 obtain J:s.heap.Ns env.globals mg:=by rw[F.glob];exact G.keeps R.base
 exact Calls.Name_function_global F.kind hk (Calls.loadGlobal_global J hv O) B.1
theorem iI{mg mb:Str->Option Value}(F:Frame Γ env loc H s.heap)(R:Rel Γ H s.heap)(G:Γ.base.Ns mainGlobals mg)(B:Γ.base.Ns builtinsNs mb){x:Str}{p:Pos}{c:Value}(hl:Ho env.scope.names x=true)(J:ie x=true)(hm:mg x=none)(hv:mb x=some c){P:Value->Shared->Prop}(Y:P c s):wpAny (model Γ.prog Γ.w) A (eval (.Name x p) env) P E s:=by
 unfold ie at J;simp only[Bool.and_eq_true,Bool.not_eq_true']at J;obtain hk:env.kindOf x=some .globalImplicit:=by unfold Ho at hl;exact z5.mp hl
 obtain Q:s.heap.Ns env.globals mg:=by rw[F.glob];exact G.keeps R.base
 obtain O:s.heap.Ns env.builtins mb:=by rw[F.blt];exact B.keeps R.base
 exact Calls.Name_function_global F.kind hk (Calls.loadGlobal_builtin Q hm O hv Y) J.1
theorem gg:∀{cells:List (Str×Addr)},(cells.Pairwise λx y=>x.2≠y.2)->∀{n n':Str}{c:Addr},cells.lookup n=some c->cells.lookup n'=some c->n=n'
 | [],_,_,_,_,h,_=>by simp at h
 |(k,a)::r,P,n,n',c,h,h'=>by
  rw[List.pairwise_cons]at P;have mem:∀{n:Str}{c:Addr},r.lookup n=some c->(∃B,(B,c)∈r):=by
   intro n c e;have gen:∀(r:List (Str×Addr)),r.lookup n=some c->∃B,(B,c)∈r:=by
    intro r;induction r with
    |nil=>intro e;simp at e
    |cons p r O =>
     intro e;obtain⟨B,a'⟩:=p;rw[List.lookup_cons]at e;split at e
     ·obtain rfl:=c9 e;exact⟨B,d6⟩
     ·obtain⟨J,hk⟩:=O e;exact⟨J,d7 _ hk⟩
   exact gen r e
  rw[List.lookup_cons]at h h';by_cases F:(n==k)=true <;> by_cases G:(n'==k)=true
  ·rw[beq_iff_eq.mp F,beq_iff_eq.mp G]
  ·rw[F]at h;rw[Bool.eq_false_iff.mpr G]at h';simp only at h h';obtain rfl:=c9 h;obtain⟨B,hk⟩:=mem h';exact(P.1 _ hk rfl).elim
  ·rw[G]at h';rw[Bool.eq_false_iff.mpr F]at h;simp only at h h';obtain rfl:=c9 h';obtain⟨B,hk⟩:=mem h;exact(P.1 _ hk rfl).elim
  ·rw[Bool.eq_false_iff.mpr F]at h;rw[Bool.eq_false_iff.mpr G]at h';exact gg P.2 h h'
theorem Step.other{own:Addr->Prop}(R:Rel Γ H s.heap){L:Addr}{o':Obj}{t:Nat}(Z:H L=none)(Y:Γ.base.get? L=none)(F:own L)(ho:s.heap.get? L=some o)(O:h'.get? L=some o')(J:∀xs n,o.data≠.seq xs n)(sb:Heap.SameBut L s.heap h'):Step Γ own H H s { s with heap:=h',toks:=t }:=by
 have tk:TupKeep Γ.sa s.heap h':=λb ob _ e hc ⟨xs,n,hd⟩=>by
  by_cases B:b=L
  ·subst B;rw[ho]at e;obtain rfl:=c9 e;exact absurd hd (J xs n)
  ·exact(sb.2 b B).trans e
 have live:∀b,s.heap.get? b≠none->h'.get? b≠none:=λb h=>by
  by_cases B:b=L
  ·subst B;rw[O];simp
  ·rw[sb.2 b B];exact h
 refine⟨rfl,rfl,λb ob e _ hn=>(sb.2 b λz=>hn (z▸F)).trans e,λb ob e=>.inl (by simp[e]),λ_ h=>h,live,tk,⟨λb ob e=>?_,R.fresh,λa ob e=>?_,λb B=>live b (R.ex b B)⟩⟩
 ·exact(sb.2 b λz=>by rw[z,Y]at e;exact ns e).trans (R.base b ob e)
 ·refine af (R.obj a ob e) λG P Q=>?_;exact(aa G ((sb.2 a λz=>by rw[z,Z]at e;exact ns e).trans P) (Q.keep tk))
def oo(c:Bool)(env:Env):Addr->Prop:=λb=>b=env.locals\/(c=true/\∃n,env.cells.lookup n=some b)
theorem mF{c:Bool}{b:Addr}(h:oo c env b):dw env b:=h.imp id λh=>h.2
theorem xh(F:Frame Γ env loc H s.heap)(R:Rel Γ H s.heap){x:String}{v:V}{c:Value}{J:Bool}(hl:Hp J env.scope.names x=true)(rv:VR Γ.sa s.heap v c){P:Unit->Shared->Prop}(hP:∀s',Frame Γ env (loc.put x v) H s'.heap->Step Γ (oo J env) H H s s'->P () s'):wpAny (model Γ.prog Γ.w) A (storeName env (Str.ofString x) c) P E s:=by
 unfold Hp at hl;rw[Bool.or_eq_true]at hl;rcases hl with k|k
 ·have k:env.kindOf (Str.ofString x)=some .local:=z5.mp k;refine af F.ns λm hn hm=>?_;refine wpAny_storeName_local k hn (λh' hn' sb=>?_) (by rw[F.kind];rfl);refine GN (id hn) λo es ep ho hd _=>?_;obtain⟨o',es',ep',Y,hd',_⟩:=id hn';have S:Step Γ (oo J env) H H s { s with heap:=h',toks:=s.toks+1 }:=Step.other R F.lH F.lB (.inl rfl) ho Y (λxs n z=>by rw[hd]at z;cases z) sb;refine hP _ ⟨F.kind,F.glob,F.blt,(aa _ hn' (λy u e Z=>?_)),F.lH,F.lB,F.above,λn c e=>?_,λy u e Z=>?_,F.hasCell,F.apart⟩ S
  ·by_cases B:y=x
   ·subst B;rw[Loc.put_self]at e;obtain rfl:=c9 e;exact(aa c (by simp) (rv.keep S.tup))
   ·rw[Loc.put_ne _ _ B]at e;refine af (hm y u e Z) λcv O Q=>?_;exact(aa cv (by rw[if_neg λz=>B (aZ z)];exact O) (Q.keep S.tup))
  ·refine jg (F.cell n c e) λO Q aP=>?_;refine cb aP λcv G h3 h4=>?_;exact(da O Q (fA cv G ((sb.2 c (F.cell_ne e)).trans h3) h4))
  ·have B:y≠x:=by rintro rfl;rw[k]at Z;simp at Z
   rw[Loc.put_ne _ _ B]at e;refine bw (F.cellv y u e Z) λc cv O bx h4=>?_;obtain⟨G,Q,h3⟩:=bx;exact(bc c cv O (aa G ((sb.2 c (F.cell_ne O)).trans Q) h3) (h4.keep S.tup))
 ·rw[Bool.and_eq_true]at k;have k':=k;obtain⟨_,k⟩:=k;have k:env.kindOf (Str.ofString x)=some .cell:=z5.mp k;refine bR (F.hasCell _ (.inl k)) λcc hc=>?_;obtain⟨c1,c2,cv0,o0,c3,c4⟩:=F.cell _ _ hc;refine wpAny_storeName_cell F.kind k hc (aa o0 c3 c4) λh' ⟨o',Y,hd'⟩ sb=>?_;have S:Step Γ (oo J env) H H s { s with heap:=h',toks:=s.toks }:=Step.other R c1 c2 (.inr ⟨k'.1,_,hc⟩) c3 Y (λxs n z=>by rw[c4]at z;cases z) sb;have hLc:env.locals≠cc:=λz=>F.cell_ne hc z.symm;refine hP _ ⟨F.kind,F.glob,F.blt,?_,F.lH,F.lB,F.above,λn c e=>?_,λy u e Z=>?_,F.hasCell,F.apart⟩ S
  ·refine af F.ns λm cC hm=>?_;obtain⟨o,es,ep,ho,r⟩:=cC;refine(aa m (yX o es ep ((sb.2 _ hLc).trans ho) r) (λy u e Z=>?_));obtain B:y≠x:=by rintro rfl;rw[k]at Z;simp at Z
   rw[Loc.put_ne _ _ B]at e;refine af (hm y u e Z) λcv O Q=>?_;exact(aa cv O (Q.keep S.tup))
  ·by_cases hcc:c=cc
   ·subst hcc;exact(da c1 c2 (fA _ o' Y hd'))
   ·refine jg (F.cell n c e) λO Q dj=>?_;refine cb dj λcv G h3 h4=>?_;exact(da O Q (fA cv G ((sb.2 c hcc).trans h3) h4))
  ·by_cases B:y=x
   ·subst B;rw[Loc.put_self]at e;obtain rfl:=c9 e;exact(bc cc _ hc (aa o' Y hd') (rv.keep S.tup))
   ·rw[Loc.put_ne _ _ B]at e;refine bw (F.cellv y u e Z) λc' cv O zq6 h4=>?_;obtain⟨G,Q,h3⟩:=zq6;obtain this:c'≠cc:=by rintro rfl;exact B (aZ (gg F.apart O hc))
    exact(bc c' cv O (aa G ((sb.2 c' this).trans Q) h3) (h4.keep S.tup))
end
theorem aQ{c:Prop}{d:Decidable c}{f:c->Bool}(h:@dite Bool c d f (λ_=>false)=true):∃x:c,f x=true:=by
 cases d with
 |isTrue x=>exact⟨x,h⟩
 |isFalse _=>exact ag h
@[elab_as_elim] theorem onName_inv {e:Expr} {k:Str->Bool} {P:Expr->Prop} (h:dJ e k=true) (q:∀id p,k id=true->P (.Name id p)):P e:=by obtain⟨i,h⟩:=aQ h;exact Expr.Name.elim (motive_1:=λe=>∀i:e.ctorIdx=23,Expr.Name.elim (motive_1:=λ_=>Bool) e i (λid _=>k id)=true->P e) e i (λid p _ h=>q id p h) i h
@[elab_as_elim] theorem onTuple_inv {e:Expr} {k:(List Expr)->Bool} {P:Expr->Prop} (h:iE e k=true) (q:∀es n p,k es=true->P (.Tuple es n p)):P e:=by obtain⟨i,h⟩:=aQ h;exact Expr.Tuple.elim (motive_1:=λe=>∀i:e.ctorIdx=25,Expr.Tuple.elim (motive_1:=λ_=>Bool) e i (λes _ _=>k es)=true->P e) e i (λes n p _ h=>q es n p h) i h
@[elab_as_elim] theorem onConstant_inv {e:Expr} {k:Const->Bool} {P:Expr->Prop} (h:jp e k=true) (q:∀c n p,k c=true->P (.Constant c n p)):P e:=by obtain⟨i,h⟩:=aQ h;exact Expr.Constant.elim (motive_1:=λe=>∀i:e.ctorIdx=19,Expr.Constant.elim (motive_1:=λ_=>Bool) e i (λc _ _=>k c)=true->P e) e i (λc n p _ h=>q c n p h) i h
@[elab_as_elim] theorem onUnaryOp_inv {e:Expr} {k:UnaryOp->Expr->Bool} {P:Expr->Prop} (h:qf e k=true) (q:∀o x p,k o x=true->P (.UnaryOp o x p)):P e:=by obtain⟨i,h⟩:=aQ h;exact Expr.UnaryOp.elim (motive_1:=λe=>∀i:e.ctorIdx=3,Expr.UnaryOp.elim (motive_1:=λ_=>Bool) e i (λo x _=>k o x)=true->P e) e i (λo x p _ h=>q o x p h) i h
@[elab_as_elim] theorem onList_inv {e:Expr} {k:(List Expr)->Bool} {P:Expr->Prop} (h:AG e k=true) (q:∀es p,k es=true->P (.List es p)):P e:=by obtain⟨i,h⟩:=aQ h;exact Expr.List.elim (motive_1:=λe=>∀i:e.ctorIdx=24,Expr.List.elim (motive_1:=λ_=>Bool) e i (λes _=>k es)=true->P e) e i (λes p _ h=>q es p h) i h
@[elab_as_elim] theorem onDict_inv {e:Expr} {k:(List (Option Expr))->(List Expr)->Bool} {P:Expr->Prop} (h:AF e k=true) (q:∀ks vs p,k ks vs=true->P (.Dict ks vs p)):P e:=by obtain⟨i,h⟩:=aQ h;exact Expr.Dict.elim (motive_1:=λe=>∀i:e.ctorIdx=6,Expr.Dict.elim (motive_1:=λ_=>Bool) e i (λks vs _=>k ks vs)=true->P e) e i (λks vs p _ h=>q ks vs p h) i h
@[elab_as_elim] theorem onBinOp_inv {e:Expr} {k:Expr->Operator->Expr->Bool} {P:Expr->Prop} (h:wW e k=true) (q:∀l o r p,k l o r=true->P (.BinOp l o r p)):P e:=by obtain⟨i,h⟩:=aQ h;exact Expr.BinOp.elim (motive_1:=λe=>∀i:e.ctorIdx=2,Expr.BinOp.elim (motive_1:=λ_=>Bool) e i (λl o r _=>k l o r)=true->P e) e i (λl o r p _ h=>q l o r p h) i h
@[elab_as_elim] theorem onCompare_inv {e:Expr} {k:Expr->(List CmpOp)->(List Expr)->Bool} {P:Expr->Prop} (h:kI e k=true) (q:∀l os rs p,k l os rs=true->P (.Compare l os rs p)):P e:=by obtain⟨i,h⟩:=aQ h;exact Expr.Compare.elim (motive_1:=λe=>∀i:e.ctorIdx=15,Expr.Compare.elim (motive_1:=λ_=>Bool) e i (λl os rs _=>k l os rs)=true->P e) e i (λl os rs p _ h=>q l os rs p h) i h
@[elab_as_elim] theorem onBoolOp_inv {e:Expr} {k:BoolOp->(List Expr)->Bool} {P:Expr->Prop} (h:oi e k=true) (q:∀o xs p,k o xs=true->P (.BoolOp o xs p)):P e:=by obtain⟨i,h⟩:=aQ h;exact Expr.BoolOp.elim (motive_1:=λe=>∀i:e.ctorIdx=0,Expr.BoolOp.elim (motive_1:=λ_=>Bool) e i (λo xs _=>k o xs)=true->P e) e i (λo xs p _ h=>q o xs p h) i h
@[elab_as_elim] theorem onIfExp_inv {e:Expr} {k:Expr->Expr->Expr->Bool} {P:Expr->Prop} (h:wX e k=true) (q:∀t x y p,k t x y=true->P (.IfExp t x y p)):P e:=by obtain⟨i,h⟩:=aQ h;exact Expr.IfExp.elim (motive_1:=λe=>∀i:e.ctorIdx=5,Expr.IfExp.elim (motive_1:=λ_=>Bool) e i (λt x y _=>k t x y)=true->P e) e i (λt x y p _ h=>q t x y p h) i h
@[elab_as_elim] theorem onSubscript_inv {e:Expr} {k:Expr->Expr->Bool} {P:Expr->Prop} (h:fe e k=true) (q:∀o i p,k o i=true->P (.Subscript o i p)):P e:=by obtain⟨i,h⟩:=aQ h;exact Expr.Subscript.elim (motive_1:=λe=>∀i:e.ctorIdx=21,Expr.Subscript.elim (motive_1:=λ_=>Bool) e i (λo i _=>k o i)=true->P e) e i (λo i p _ h=>q o i p h) i h
@[elab_as_elim] theorem onSlice_inv {e:Expr} {k:(Option Expr)->(Option Expr)->(Option Expr)->Bool} {P:Expr->Prop} (h:wZ e k=true) (q:∀l u st p,k l u st=true->P (.Slice l u st p)):P e:=by obtain⟨i,h⟩:=aQ h;exact Expr.Slice.elim (motive_1:=λe=>∀i:e.ctorIdx=26,Expr.Slice.elim (motive_1:=λ_=>Bool) e i (λl u st _=>k l u st)=true->P e) e i (λl u st p _ h=>q l u st p h) i h
@[elab_as_elim] theorem onAttribute_inv {e:Expr} {k:Expr->Str->Pos->Bool} {P:Expr->Prop} (h:fc e k=true) (q:∀o n p,k o n p=true->P (.Attribute o n p)):P e:=by obtain⟨i,h⟩:=aQ h;exact Expr.Attribute.elim (motive_1:=λe=>∀i:e.ctorIdx=20,Expr.Attribute.elim (motive_1:=λ_=>Bool) e i (λo n p=>k o n p)=true->P e) e i (λo n p _ h=>q o n p h) i h
@[elab_as_elim] theorem onListComp_inv {e:Expr} {k:Expr->(List Comprehension)->Scope->Bool} {P:Expr->Prop} (h:om e k=true) (q:∀x gs sc p,k x gs sc=true->P (.ListComp x gs sc p)):P e:=by obtain⟨i,h⟩:=aQ h;exact Expr.ListComp.elim (motive_1:=λe=>∀i:e.ctorIdx=8,Expr.ListComp.elim (motive_1:=λ_=>Bool) e i (λx gs sc _=>k x gs sc)=true->P e) e i (λx gs sc p _ h=>q x gs sc p h) i h
@[elab_as_elim] theorem onDictComp_inv {e:Expr} {k:Expr->Expr->(List Comprehension)->Scope->Bool} {P:Expr->Prop} (h:oj e k=true) (q:∀kx v gs sc p,k kx v gs sc=true->P (.DictComp kx v gs sc p)):P e:=by obtain⟨i,h⟩:=aQ h;exact Expr.DictComp.elim (motive_1:=λe=>∀i:e.ctorIdx=10,Expr.DictComp.elim (motive_1:=λ_=>Bool) e i (λkx v gs sc _=>k kx v gs sc)=true->P e) e i (λkx v gs sc p _ h=>q kx v gs sc p h) i h
@[elab_as_elim] theorem onCall_inv {e:Expr} {k:Expr->(List Expr)->(List Keyword)->Pos->Bool} {P:Expr->Prop} (h:jo e k=true) (q:∀f as ks p,k f as ks p=true->P (.Call f as ks p)):P e:=by obtain⟨i,h⟩:=aQ h;exact Expr.Call.elim (motive_1:=λe=>∀i:e.ctorIdx=16,Expr.Call.elim (motive_1:=λ_=>Bool) e i (λf as ks p=>k f as ks p)=true->P e) e i (λf as ks p _ h=>q f as ks p h) i h
@[elab_as_elim] theorem onSExpr_inv {e:Stmt} {k:Expr->Bool} {P:Stmt->Prop} (h:wY e k=true) (q:∀e p,k e=true->P (.Expr e p)):P e:=by obtain⟨i,h⟩:=aQ h;exact Stmt.Expr.elim (motive_2:=λe=>∀i:e.ctorIdx=24,Stmt.Expr.elim (motive_2:=λ_=>Bool) e i (λe _=>k e)=true->P e) e i (λe p _ h=>q e p h) i h
@[elab_as_elim] theorem onSAssign_inv {e:Stmt} {k:(List Expr)->Expr->Bool} {P:Stmt->Prop} (h:iD e k=true) (q:∀ts e p,k ts e=true->P (.Assign ts e p)):P e:=by obtain⟨i,h⟩:=aQ h;exact Stmt.Assign.elim (motive_2:=λe=>∀i:e.ctorIdx=5,Stmt.Assign.elim (motive_2:=λ_=>Bool) e i (λts e _=>k ts e)=true->P e) e i (λts e p _ h=>q ts e p h) i h
@[elab_as_elim] theorem onSReturn_inv {e:Stmt} {k:(Option Expr)->Bool} {P:Stmt->Prop} (h:qe e k=true) (q:∀e p,k e=true->P (.Return e p)):P e:=by obtain⟨i,h⟩:=aQ h;exact Stmt.Return.elim (motive_2:=λe=>∀i:e.ctorIdx=3,Stmt.Return.elim (motive_2:=λ_=>Bool) e i (λe _=>k e)=true->P e) e i (λe p _ h=>q e p h) i h
@[elab_as_elim] theorem onSIf_inv {e:Stmt} {k:Expr->(List Stmt)->(List Stmt)->Bool} {P:Stmt->Prop} (h:EO e k=true) (q:∀t a b p,k t a b=true->P (.If t a b p)):P e:=by obtain⟨i,h⟩:=aQ h;exact Stmt.If.elim (motive_2:=λe=>∀i:e.ctorIdx=12,Stmt.If.elim (motive_2:=λ_=>Bool) e i (λt a b _=>k t a b)=true->P e) e i (λt a b p _ h=>q t a b p h) i h
@[elab_as_elim] theorem onSWhile_inv {e:Stmt} {k:Expr->(List Stmt)->(List Stmt)->Bool} {P:Stmt->Prop} (h:tA e k=true) (q:∀t a b p,k t a b=true->P (.While t a b p)):P e:=by obtain⟨i,h⟩:=aQ h;exact Stmt.While.elim (motive_2:=λe=>∀i:e.ctorIdx=11,Stmt.While.elim (motive_2:=λ_=>Bool) e i (λt a b _=>k t a b)=true->P e) e i (λt a b p _ h=>q t a b p h) i h
@[elab_as_elim] theorem onSFor_inv {e:Stmt} {k:Expr->Expr->(List Stmt)->(List Stmt)->Bool} {P:Stmt->Prop} (h:AI e k=true) (q:∀t i a b p,k t i a b=true->P (.For t i a b p)):P e:=by obtain⟨i,h⟩:=aQ h;exact Stmt.For.elim (motive_2:=λe=>∀i:e.ctorIdx=9,Stmt.For.elim (motive_2:=λ_=>Bool) e i (λt i a b _=>k t i a b)=true->P e) e i (λt i a b p _ h=>q t i a b p h) i h
theorem mE{l:List α}{k:α->Bool}(h:AE l k=true):∃a,l=[a]/\k a=true:=by
 rcases l with _|⟨a,l⟩
 ·exact ag h
 ·rcases l with _|⟨_,_⟩
  ·exact(aa a rfl h)
  ·exact ag h
@[elab_as_elim] theorem on1_el {α:Type} {l:List α} {k:α->Bool} {P:List α->Prop} (h:AE l k=true) (q:∀a,k a=true->P [a]):P l:=by obtain⟨a,rfl,h⟩:=mE h;exact q a h
theorem CP{l:List α}{k:α->α->Bool}(h:FM l k=true):∃a b,l=[a,b]/\k a b=true:=by
 rcases l with _|⟨a,l⟩
 ·exact ag h
 ·refine af (mE h) λb bx h=>?_;subst bx;exact(fA a b rfl h)
@[elab_as_elim] theorem on2_el {α:Type} {l:List α} {k:α->α->Bool} {P:List α->Prop} (h:FM l k=true) (q:∀a b,k a b=true->P [a,b]):P l:=by refine cb (CP h) λa b bK h=>?_;subst bK;exact q a b h
@[elab_as_elim] theorem chkT_kind {cl:Bool} {nm:aY} {t:Tgt} {x:Expr} {P:Expr->Prop} (h:eO cl nm t x=true) (hn:∀id p,P (.Name id p)) (ht:∀es k p,P (.Tuple es k p)):P x:=by
 cases t with
 |nm y=>exact onName_inv h λid p _=>hn id p
 |tp ts=>exact onTuple_inv h λes k p _=>ht es k p
theorem jj{cl:Bool}:∀{ts:Tgts}{es:List Expr},nc cl nm ts es=true->assignEach es env=es.map λe=>(false,assign e env)
 | .nil,es,h=>by
  rcases es with _|⟨_,_⟩
  ·rfl
  ·exact ag h
 | .cons t ts,es,h=>by
  rcases es with _|⟨e,es⟩
  ·exact ag h
  ·obtain h:=and_t h;exact(chkT_kind (P:=λe=>assignEach (e::es) env=(false,assign e env)::assignEach es env) h.1 (λ_ _=>rfl) λ_ _ _=>rfl).trans (j6 _ (jj h.2))
theorem ji{cl:Bool}:∀{ts:Tgts}{es:List Expr}{vs:List V}{l l':Loc},nc cl nm ts es=true->eD ts vs l=some l'->vs.length=es.length
 | .nil,es,vs,l,l',h,B=>by
  cases es with
  |cons _ _=>exact ag h
  |nil=>cases vs with
   |nil=>rfl
   |cons _ _=>exact jD B
 | .cons t ts,es,vs,l,l',h,B=>by
  rcases es with _|⟨e,es⟩
  ·exact ag h
  ·rcases vs with _|⟨v,vs⟩
   ·exact jD B
   ·refine af (B9.mp B) λl1 _ F=>?_;exact j6 (· + 1) (ji (and_t h).2 F)
theorem sK{es:List Expr}(h:assignEach es env=es.map λe=>(false,assign e env)):(assignEach es env).map (·.2)=es.map (λe=>assign e env)/\(assignEach es env).length=es.length/\(assignEach es env).findIdx? (·.1)=none:=by rw[h,List.map_map,List.length_map];exact⟨rfl,rfl,List.findIdx?_eq_none_iff.mpr λx B=>by refine af (b9.mp B) λe _ cC=>?_;subst cC;rfl⟩
section
variable{loc:Loc}{H:AH}{A:Around}{d:Nat}{Q:V->AH->Prop}
theorem Step.extAt{own:Addr->Prop}(R:Rel Γ H s.heap){t:Nat}(e:Heap.ExtBut s.heap.objs.size s.heap h'):Step Γ own H H s { s with heap:=h',toks:=t } :=Step.grow (s':={ s with heap:=h',toks:=t }) R rfl rfl λb o q=>e b o (n9 (o8 q)) q
theorem Frame.ext(F:Frame Γ env loc H s.heap)(R:Rel Γ H s.heap)(e:Heap.ExtBut s.heap.objs.size s.heap h'):Frame Γ env loc H h' :=F.stepNo (s':={ s with heap:=h',toks:=s.toks }) (Step.extAt R e)
abbrev pJ(Γ:Cx)(cl:Bool)(env:Env)(loc':Loc)(H:AH)(s:Shared)(P:Unit->Shared->Prop):Prop:=∀s',Frame Γ env loc' H s'.heap->Step Γ (oo cl env) H H s s'->P () s'
def BH(Γ:Cx)(env:Env)(A:Around)(E:Value->Shared->Prop)(cl:Bool)(t:Tgt):Prop:=∀(x:Expr),eO cl env.scope.names t x=true->∀{loc loc':Loc}{v:V}{c:Value}{H:AH}{s:Shared}{P:Unit->Shared->Prop},Frame Γ env loc H s.heap->Rel Γ H s.heap->bm t v loc=some loc'->VR Γ.sa s.heap v c ->
  pJ Γ cl env loc' H s P->wpAny (model Γ.prog Γ.w) A (assign x env c) P E s
def se(Γ:Cx)(env:Env)(A:Around)(E:Value->Shared->Prop)(cl:Bool)(ts:Tgts):Prop:=∀(es:List Expr),nc cl env.scope.names ts es=true->∀{loc loc':Loc}{vs:List V}{cs:List Value}{H:AH}{s:Shared}{P:Unit->Shared->Prop},Frame Γ env loc H s.heap->Rel Γ H s.heap->eD ts vs loc=some loc'->VRs Γ.sa s.heap vs cs ->
  pJ Γ cl env loc' H s P->wpAny (model Γ.prog Γ.w) A (assignInOrder (es.map λe=>assign e env) cs) P E s
theorem AX{cl:Bool}{x:String}:BH Γ env A E cl (.nm x):=λe hc _ _ _ _ _ _ _ F R G J B=>by
 revert hc;obtain rfl:=c9 G
 refineλhc=>onName_inv hc λid p hk=>?_
 obtain hk:=and_t hk;rw[eq_of_beq hk.1];exact wpAny_assign_Name (xh F R hk.2 J B)
theorem vC{cl:Bool}:se Γ env A E cl .nil:=λes hc _ _ vs cs H s P F R B J G=>by
 cases vs with
 |cons _ _=>exact jD B
 |nil =>
  obtain rfl:=c9 B;cases es with
  |cons _ _=>exact ag hc
  |nil=>exact a9 (G s F (Step.refl R))
theorem tJ{cl:Bool}{t:Tgt}{ts:Tgts}(ht:BH Γ env A E cl t)(G:se Γ env A E cl ts):se Γ env A E cl (.cons t ts):=λes hc _ _ vs cs H s P F R J rv hP=>by
 rcases es with _|⟨e,es⟩
 ·exact ag hc
 ·rcases vs with _|⟨v,vs⟩
  ·exact jD J
  ·obtain hc:=and_t hc;refine af (B9.mp J) λl1 Z h2=>?_;refine bw rv.cons_inv λc r dj r1 rr=>?_;subst dj;exact ac (l8 (ht e hc.1 F R Z r1 λs1 O B=>G es hc.2 O B.rel h2 (rr.keep B.tup) λs2 Q Y=>hP s2 Q (B.trans Y)))
theorem AY{cl:Bool}(Z:A.handled=none){ts:Tgts}(G:se Γ env A E cl ts):BH Γ env A E cl (.tp ts):=λe hc loc loc' v _ H s P F R B rv hP=>by
 refine onTuple_inv hc λes n p hk=>?_;cases v with
 |tup vs =>apply rv.tup_el;intro ad cvs ht O;obtain m:=sK (env:=env) (jj hk);obtain hl:es.length=cvs.size:=(ji hk B).symm.trans (O.length.symm.trans P0);refine assign_Tuple_tuple Z ht (m.2.1.trans hl) m.2.2 λh' J=>?_;rw[m.1];obtain S0:Step Γ (oo cl env) H H s { s with heap:=h' }:=Step.extAt (t:=s.toks) R J;exact G es hk (s:={ s with heap:=h' }) (F.ext R J) S0.rel B (O.keep S0.tup) λs' Q Y=>hP s' Q (S0.trans Y)
 |_=>exact jD B
mutual
theorem tI{cl:Bool}(B:A.handled=none):∀(t:Tgt),BH Γ env A E cl t
 | .nm x=>AX
 | .tp ts=>AY B (vB B ts)
theorem vB{cl:Bool}(B:A.handled=none):∀(ts:Tgts),se Γ env A E cl ts
 | .nil=>vC
 | .cons t ts=>tJ (tI B t) (vB B ts)
end
end
def Mv(W:Addr->Prop)(s s':Shared):Prop:=∃h' tk,s'={ s with heap:=h',toks:=tk }/\∀b o,¬W b->s.heap.get? b=some o->h'.get? b=some o
structure Iter(Γ:Cx)(A:Around)(I:Addr)(W:Addr->Prop)(tgt:Expr)(src:rX)(vs:List V)(St:Nat->Heap->Prop):Prop where
 frame:∀i h h',St i h->(∀b o,W b->h.get? b=some o->h'.get? b=some o)->TupKeep Γ.sa h h'->St i h'
 wt:∀i h,St i h->∀b o,W b->h.get? b=some o->o.cls=.type "tuple"->Γ.X b
 lw:∀i h,St i h->∀b,W b->h.get? b≠none
 item:∀i v H s,vs[i]?=some v->Rel Γ H s.heap->di src H->St i s.heap ->
  wpAny (model Γ.prog Γ.w) A (pyNext (.ref I)) (λr s₁=>∃c,r=some c/\wpAny (model Γ.prog Γ.w) A (letOwnedTupleGo tgt (.ref I) c) (λ_ s'=>VR Γ.sa s'.heap v c/\St (i+1) s'.heap/\Mv W s s') aD s₁) aD s
 done:∀H s,Rel Γ H s.heap->di src H->St vs.length s.heap->wpAny (model Γ.prog Γ.w) A (pyNext (.ref I)) (λr s'=>r=none/\Mv W s s'/\∀b,Γ.X b->s'.heap.get? b≠none) aD s
 self:∀i s,St i s.heap->wpAny (model Γ.prog Γ.w) A (pyIter (.ref I)) (λc s'=>c=.ref I/\s'=s) aD s
noncomputable def cf:Expr->Bool
 | .Name ..=>true
 | .Tuple ..=>true
 |_=>false
section
variable{loc:Loc}{H:AH}{A:Around}{d:Nat}{Q:V->AH->Prop}
theorem gZ(J:cf tgt=true){c:Value}{n:String}(G:s.heap.get? I=some o)(hc:o.cls=.type n)(F:["enumerate","zip","dict_itemiterator","dict_reverseitemiterator","odict_iterator","itertools.zip_longest","itertools.pairwise"].contains n=false){P:Unit->Shared->Prop}(h:P () s):wpAny (model Γ.prog Γ.w) A (letOwnedTupleGo tgt (.ref I) c) P E s:=by
 cases tgt with
 |Name id p=>exact a9 h
 |Tuple B k p =>
  cases c with
  |ref a =>
   refine ac (P6 G ?_);rw[hc];cases hd:o.data with
   |fields vs =>simp only[F,Bool.false_and,Bool.false_eq_true,if_false];exact a9 h
   |_=>exact a9 h
  |_=>exact a9 h
 |_=>exact ag J
theorem re{X:Addr->Prop}(ex:∀b,X b->h.get? b≠none)(k:∀b o,h.get? b=some o->X b->h'.get? b=some o):∀b,X b->h'.get? b≠none:=λb B=>by
 rcases e:h.get? b with _|o
 ·exact absurd e (ex b B)
 ·rw[k b o e B];simp
theorem yh(P:cf tgt=true)(hh:A.handled=none){a:Addr}(Q:¬Γ.X I)(vs:List V) : Iter Γ A I (λb=>b=I) tgt (some (a,vs)) vs (λi h=>h.IsListIter I a i) where
 frame:=λi h h' ⟨o,B,r⟩ k _=>(aa o (k I o rfl B) r)
 wt:=λi h ⟨o,B,hc,_⟩ b o' F G P=>by subst F;rw[B]at G;obtain rfl:=c9 G;rw[hc]at P;simp at P
 lw:=λi h ⟨o,B,_⟩ b F=>by subst F;rw[B];simp
 item:=λi v H s hv R hs st=>by refine cb (au R hs) λcvs n B ra=>?_;refine af (ra.get hv) λc h5 h6=>?_;refine wpAny_pyNext_list_item st (bb _ B rfl (mw n rfl)) (x:=c) (by rw[<- h5];simp) λh' O sb=>⟨c,rfl,?_⟩;refine cL (id O) λo Q hc hd=>?_;refine cL (id st) λo0 Y Z hd0=>?_;refine gZ P Q hc (by decide) (da (h6.keep ?_) O (fA h' s.toks rfl (λb o F e=>(sb.2 b F).trans e)));intro b o _ e J hdt;refine(sb.2 b ?_).trans e;rintro rfl;rw[Y]at e;obtain rfl:=c9 e;rw[Z]at J;simp at J
 done:=λH s R hs st=>by refine cb (au R hs) λcvs n B ra=>?_;obtain hl:cvs.size=vs.length:=ra.length;exact wpAny_pyNext_list_end hh st (bb _ B rfl (mw n rfl)) (by simp[hl]) λh' he=>(da rfl (fA h' s.toks rfl (λb o F e=>he b o F e)) (re R.ex λb o e hX=>he b o (λz=>Q (z▸hX)) e))
 self:=λi s st=>wpAny_pyIter_listiter st ⟨rfl,rfl⟩
theorem Iter.ofWalks(G:cf tgt=true)(hI:¬Γ.X I){fp:List Addr}{n:Nat}{Pv:Nat->Value->Prop}{St:Nat->Heap->Prop}(W:Walks Γ.prog Γ.w A I fp [I] n Pv St)(hn:vs.length=n)(hc:∀i h,St i h->∃o nm,h.get? I=some o/\o.cls=.type nm/\nm≠"tuple"/\["enumerate","zip","dict_itemiterator","dict_reverseitemiterator","odict_iterator","itertools.zip_longest","itertools.pairwise"].contains nm=false)(ar:∀i h h',St i h->(∀b o,b=I->h.get? b=some o->h'.get? b=some o)->TupKeep Γ.sa h h'->∀b∈fp,∀o,h.get? b=some o->h'.get? b=some o)(hv:∀i v c h,vs[i]?=some v->Pv i c->St i h->VR Γ.sa h v c):Iter Γ A I (λb=>b=I) tgt none vs St where
 frame:=λi h h' st k t=>W.frame i h h' st (ar i h h' st k t)
 wt:=λi h st b o B e G=>by subst B;refine ph (hc i h st) λo' nm J Z h3 _=>?_;rw[J]at e;obtain rfl:=c9 e;rw[Z]at G;injection G with G;exact absurd G h3
 lw:=λi h st b B=>by subst B;refine cb (hc i h st) λo' nm J _=>?_;rw[J];simp
 item:=λi v H s O R hs st=>by
  obtain hi:i<n:=by rw[<- hn];exact(f9.mp O).1
  refine W.item i s _ _ hi st λc h' tk p P k=>⟨c,rfl,?_⟩;refine ph (hc _ _ P) λo nm J Z h3 h4=>?_;refine ph (hc _ _ st) λo0 nm0 Y ad an h40=>?_;refine gZ (s:={ s with heap:=h',toks:=tk }) G J Z h4 (da ((hv i v c s.heap O p st).keep ?_) P (fA h' tk rfl (λb o B e=>k b o (by simpa using B) e)));intro b o _ e F hdt;refine k b o ?_ e;intro B;obtain Q:b=I:=by simpa using B
  subst Q;rw[Y]at e;obtain rfl:=c9 e;rw[ad]at F;injection F with F;exact an F
 done:=λH s R hs st=>W.done s _ _ (by rw[<- hn];exact st) λh' tk k=>(da rfl (fA h' tk rfl (λb o B e=>k b o (by simpa using B) e)) (re R.ex λb o e hX=>k b o (λz=>hI (j5.mp z▸hX)) e))
 self:=λi s st=>W.self i s _ _ st ⟨rfl,rfl⟩
theorem uT(Q:cf tgt=true)(hh:A.handled=none){t:Addr}(hI:¬Γ.X I){cvs:Array Value}(Z:t≠I)(ad:¬Γ.X t){h₀:Heap}(r:VRs Γ.sa h₀ vs cvs.toList) : Iter Γ A I (λb=>b=I) tgt none vs (λi h=>(h.IsTupleIter I t i/\h.IsTuple t cvs)/\VRs Γ.sa h vs cvs.toList):=by
 obtain W:=Walks.tuple (prog:=Γ.prog) (w:=Γ.w) (A:=A) hh I t Z cvs;obtain hl:vs.length=cvs.size:=r.length.symm;have an:∀(i:Nat)(h h':Heap),h.IsTupleIter I t i->(∀b o,b∉[I]->h.get? b=some o->h'.get? b=some o)->TupKeep Γ.sa h h':=λi h h' ⟨o,ho,hc,_⟩ k b ob _ e G _=>k b ob (by
  intro B;obtain this:b=I:=by simpa using B
  subst this;rw[ho]at e;obtain rfl:=c9 e;rw[hc]at G;simp at G) e
 refine{ frame:=λi h h' st k tk=>⟨W.frame i h h' st.1 λb B o e=>?_,st.2.keep tk⟩,wt:=?_,lw:=λi h st b B=>by subst B;refine af st.1.1 λo' F _=>?_;rw[F];simp,item:=?_,done:=?_,self:=λi s st=>W.self i s _ _ st.1 ⟨rfl,rfl⟩ }
 ·rcases i8.mp B with rfl|B
  ·exact k b o rfl e
  ·obtain this:b=t:=by simpa using B
   subst this;refine cL st.1.2 λo' e' hc aP=>?_;refine bR aP λn hd=>?_;rw[e']at e;obtain rfl:=c9 e;exact tk b _ ad e' hc (vU _ _ hd)
 ·intro i h st b o B e Q;subst B;refine cL st.1.1 λo' F Y _=>?_;rw[F]at e;obtain rfl:=c9 e;rw[Y]at Q;simp at Q
 ·intro i v H s J R hs st;obtain hi:i<cvs.size:=by rw[<- hl];exact(f9.mp J).1
  refine W.item i s _ _ hi st.1 λc h' tk p O k=>(aa c rfl ?_);obtain P:=an i s.heap h' st.1.1 k;refine cL (id O.1) λo F Y h3=>?_;refine af (st.2.get J) λc' e1 e2=>?_
  have:c'=c:=by rw[Array.getElem?_toList]at e1;rw[e1]at p;obtain rfl:=c9 p;rfl
  subst this;exact gZ (s:={ s with heap:=h',toks:=tk }) Q F Y (by decide) (da (e2.keep P) ⟨O,st.2.keep P⟩ (fA h' tk rfl (λb o B e=>k b o (by simpa using B) e)))
 ·intro H s R hs st;exact W.done s _ _ (by rw[<- hl];exact st.1) λh' tk k=>(da rfl (fA h' tk rfl (λb o B e=>k b o (by simpa using B) e)) (re R.ex λb o e hX=>k b o (λz=>hI (j5.mp z▸hX)) e))
theorem uS(P:cf tgt=true)(G:A.handled=none)(B:¬Γ.X I)(n:Nat) : Iter Γ A I (λb=>b=I) tgt none (jw n) (λi h=>IsRangeIter h I (0+(i:Nat)*1) ((n:Int)-(i:Nat)) 1) :=
 Iter.ofWalks P B (Walks.range G I 0 1 n) (by simp[jw]) (λi h st=>(jh _ _ st rfl (by decide) (by decide))) (λi h h' st k _ b F o e=>by
  obtain this:b=I:=by simpa using F
  exact k b o this e) λi v c h hv p st=>by
  obtain⟨t,rfl⟩:=p;unfold jw at hv;rw[List.getElem?_map]at hv;refine af (m5.mp hv) λj J bK=>?_;subst bK
  have:j=i:=by refine bR (f9.mp J) λO e=>?_;simpa using e.symm
  subst this;obtain e:(0:Int)+(j:Int)*1=j:=by exact QL
  rw[e];exact VR.int' _ _
theorem zR(Z:cf tgt=true)(Q:A.handled=none)(O:¬Γ.X I){x:String}(F:x∈aR)(t:Tok) : Iter Γ A I (λb=>b=I) tgt none [.str x] (λi h=>h.IsStrIter I "str_ascii_iterator" (Str.ofString x) t i):=by
 have key:∀x∈aR,(Str.ofString x).cps.size=1/\∀c,(Str.ofString x).cps[0]?=some c->(⟨#[c]⟩:Str)=Str.ofString x:=by
  intro x F;obtain J:∀x∈aR,(Str.ofString x).cps.size=1/\(Str.ofString x).cps.toList.map (λc=>(⟨#[c]⟩:Str))=[Str.ofString x]:=by decide +kernel
  refine bQ (J x F) λa b=>?_;refine⟨a,λc hc=>?_⟩;rw[<- Array.getElem?_toList]at hc;rcases e:(Str.ofString x).cps.toList with _|⟨d,r⟩
  ·rw[e]at hc;simp at hc
  ·rw[e]at hc b;simp at hc b;rw[<- hc];exact b.1
 refine bQ (key x F) λk1 k2=>?_;refine Iter.ofWalks Z O (Walks.strAscii Q I (Str.ofString x) t) (by simp[k1]) (λi h ⟨o,Y,hc,_⟩=>(jh o _ Y hc (by decide) (by decide))) (λi h h' st k _ b P o e=>by
  obtain B:b=I:=by simpa using P
  exact k b o B e) λi v c h hv p st=>?_
 refine cb p λG u hc cC=>?_;subst cC;rcases i with _|i
 ·simp at hv;subst hv;rw[k2 G hc];exact VR.str' _ _
 ·simp at hv
end
section
variable{loc:Loc}{H:AH}{A:Around}{d:Nat}{Q:V->AH->Prop}{own own':Addr->Prop}
theorem Step.fresh(S:Step Γ own' H H' s s')(h:∀b,own' b->own b\/s.heap.get? b=none):Step Γ own H H' s s' :=⟨S.gens,S.os,(λb o e B F=>S.keep b o e B λz=>(h b z).elim F λq=>by rw[e]at q;exact sn q),S.dom,S.mono,S.live,S.tup,S.rel⟩
theorem Mv.step{W:Addr->Prop}(R:Rel Γ H s.heap)(M:Mv W s s')(G:∀b,W b->H b=none)(J:∀b,W b->Γ.base.get? b=none)(wt:∀b o,W b->s.heap.get? b=some o->o.cls=.type "tuple"->Γ.X b)(ex:∀b,Γ.X b->s'.heap.get? b≠none)(lw:∀b,W b->s.heap.get? b≠none->s'.heap.get? b≠none):Step Γ W H H s s':=by
 refine cb M λh' tk aP k=>?_;subst aP;obtain F:TupKeep Γ.sa s.heap h':=λb o nx e hc _=>k b o (λB=>nx (wt b o B e hc)) e;exact⟨rfl,rfl,λb o e _ Q=>k b o Q e,λb o e=>.inl (HB e),λ_ h=>h,λb h=>(P7 (W b)).elim (λB=>lw b B h) λB=>Pt h λo e=>k b o B e,F,
  ⟨λb o e=>k b o (λB=>nn (J b B) e) (R.base b o e),R.fresh,λa o e=>by refine af (R.obj a o e) λob O P=>?_;exact(aa ob (k a ob (λB=>nn (G a B) e) O) (P.keep F)),ex⟩⟩
structure WOK(Γ:Cx)(env:Env)(H:AH)(W:Addr->Prop):Prop where
 h:∀b,W b->H b=none
 b:∀b,W b->Γ.base.get? b=none
 l:¬W env.locals
 c:∀n c,env.cells.lookup n=some c->¬W c
theorem lV{cl:Bool}{t:Tgt}{x:Expr}(h:eO cl nm t x=true):cf x=true:=chkT_kind h (λ_ _=>rfl) λ_ _ _=>rfl
theorem wr{cl:Bool}(hA:A.handled=none){W:Addr->Prop}{St:Nat->Heap->Prop}(Q:Iter Γ A I W tgt src vs St)(F:Frame Γ env loc H s.heap)(R:Rel Γ H s.heap)(J:WOK Γ env H W)(hs:di src H){i:Nat}(st:St i s.heap){v:V}(hv:vs[i]?=some v){t:Tgt}(hc:eO cl env.scope.names t tgt=true){loc':Loc}(B:bm t v loc=some loc'){P:Shared->Prop}(hP:∀s',Frame Γ env loc' H s'.heap->Step Γ (λb=>oo cl env b\/W b) H H s s'->St (i+1) s'.heap->P s') : wpAny (model Γ.prog Γ.w) A (pyNext (.ref I)) (λr s₁=>∃c,r=some c/\wpAny (model Γ.prog Γ.w) A (letOwnedTupleGo tgt (.ref I) c) (λ_ s₂=>wpAny (model Γ.prog Γ.w) A (assign tgt env c) (λ_ G=>P G) aD s₂) aD s₁) aD s:=by
 refine d8 (Q.item i v H s hv R hs st) (λr s₁ h₁=>?_) λ_ _ e=>e;obtain⟨c,rfl,h₁⟩:=h₁;refine(aa c rfl (d8 h₁ (λ_ s₂ Y=>?_) λ_ _ e=>e));refine jg Y λrv O M=>?_;have Z:Step Γ W H H s s₂:=M.step R J.h J.b (λb o B e hct=>Q.wt i _ st b o B e hct) (λb hX=>(P7 (W b)).elim (λB=>Q.lw _ _ O b B) λB=>by refine cb M λh' tk e' k=>?_;exact e'▸Pt (R.ex b hX) λo e=>k b o B e) λb B _=>Q.lw _ _ O b B;obtain F1:Frame Γ env loc H s₂.heap:=F.step Z (λm hm=>by refine pj hm λo es ep e r=>?_;exact(yX o es ep (Z.keep _ _ e F.lH J.l) r)) J.c
 refine tI hA t tgt hc F1 Z.rel B rv λG F3 S3=>hP G F3 ((Z.weaken λ_ h=>.inr h).trans (S3.weaken λ_ h=>.inl h)) ?_;refine Q.frame _ _ _ O (λb o B e=>S3.keep b o e (J.h b B) λz=>?_) S3.tup;rcases mF z with rfl|⟨n,hn⟩
 ·exact J.l B
 ·exact J.c n b hn B
theorem wq{W:Addr->Prop}{St:Nat->Heap->Prop}(It:Iter Γ A I W tgt src vs St)(F:Frame Γ env loc H s.heap)(R:Rel Γ H s.heap)(Q:WOK Γ env H W)(Y:∀b,W b->s₀.heap.get? b=none)(S0:Step Γ own H' H s₀ s)(hs:di src H)(st:St vs.length s.heap){P:Shared->Prop}(hP:∀s',Frame Γ env loc H s'.heap->Step Γ own H' H s₀ s'->(∀b o,¬W b->s.heap.get? b=some o->s'.heap.get? b=some o)->P s') : wpAny (model Γ.prog Γ.w) A (pyNext (.ref I)) (λr s'=>r=none/\P s') aD s:=by
 refine d8 (It.done H s R hs st) (λr s' h=>⟨h.1,?_⟩) λ_ _ e=>e;obtain⟨⟨h',tk,rfl,k⟩,ex⟩:=h.2;have O:TupKeep Γ.sa s.heap h':=λb o nx e hc _=>k b o (λJ=>nx (It.wt _ _ st b o J e hc)) e;obtain rel:Rel Γ H h':=⟨λb o e=>k b o (λJ=>nn (Q.b b J) e) (R.base b o e),R.fresh,λa o e=>by refine af (R.obj a o e) λob B G=>?_;exact(aa ob (k a ob (λJ=>nn (Q.h a J) e) B) (G.keep O)),ex⟩;obtain k0:∀b o,s₀.heap.get? b=some o->∀o',s.heap.get? b=some o'->h'.get? b=some o':=λb o e o' e'=>k b o' (λhw=>nn (Y b hw) e) e';refine hP _ ⟨F.kind,F.glob,F.blt,?_,F.lH,F.lB,F.above,λn c e=>?_,λx v e q=>?_,F.hasCell,F.apart⟩ ⟨S0.gens,S0.os,λb o e J hn=>k0 b o e _ (S0.keep b o e J hn),S0.dom,S0.mono,λb h=>Pt (S0.live b h) λo e=>k b o (λhw=>h (Y b hw)) e,λb o nx e hc hd=>k0 b o e _ (S0.tup b o nx e hc hd),rel⟩ k
 ·exact by refine af F.ns λm cC hm=>?_;obtain⟨o,es,ep,e,r⟩:=cC;exact(aa m (yX o es ep (k _ _ Q.l e) r) (λx v e q=>by refine af (hm x v e q) λcv B G=>?_;exact(aa cv B (G.keep O))))
 ·exact by refine jg (F.cell n c e) λB G dj=>?_;refine cb dj λcv o Z h4=>?_;exact(da B G (fA cv o (k _ _ (Q.c _ _ e) Z) h4))
 ·exact by refine bw (F.cellv x v e q) λc cv B zq6 h4=>?_;obtain⟨o,G,Z⟩:=zq6;exact(bc c cv B (aa o (k _ _ (Q.c _ _ B) G) Z) (h4.keep O))
theorem Frame.mono{B:Loc}(F:Frame Γ env loc H s.heap)(h:∀x v,B x=some v->loc x=some v):Frame Γ env B H s.heap :=⟨F.kind,F.glob,F.blt,(by refine af F.ns λm G hm=>?_;exact(aa m G (λx v e k=>hm x v (h x v e) k))),F.lH,F.lB,F.above,F.cell,λx v e k=>F.cellv x v (h x v e) k,F.hasCell,F.apart⟩
mutual
theorem kU:∀{t:Tgt}{v:V}{l l':Loc},bm t v l=some l'->∀x,x∉cZ t->l' x=l x
 | .nm y,v,l,l',h,x,B=>by obtain rfl:=c9 h;exact Loc.put_ne _ _ λe=>B (e▸d6)
 | .tp ts,v,l,l',h,x,B=>by
  cases v with
  |tup vs=>exact jI (ts:=ts) h x B
  |_=>exact jD h
theorem jI:∀{ts:Tgts}{vs:List V}{l l':Loc},eD ts vs l=some l'->∀x,x∉rN ts->l' x=l x
 | .nil,vs,l,l',h,x,B=>by
  rcases vs with _|⟨_,_⟩
  ·obtain rfl:=c9 h;rfl
  ·exact jD h
 | .cons t ts,vs,l,l',h,x,B=>by
  rcases vs with _|⟨v,vs⟩
  ·exact jD h
  ·refine af (B9.mp h) λl1 F G=>?_;exact(jI G x λz=>B (n8 _ z)).trans (kU F x λz=>B (m8 _ z))
end
theorem pQ{t:Tgt}{v:V}{l':Loc}{xs:List String}(h:bm t v (l.drop xs)=some l')(B:∀x∈cZ t,x∈xs):∀x u,(l.drop xs) x=some u->l' x=some u:=by
 exactλx u e=>(kU h x λz=>nn (if_pos (d7 _ (B x z))) e).trans e
end
theorem nk{c:Prop}{d:Decidable c}{f:c->Option α}{a:α}(h:@dite (Option α) c d f (λ_=>none)=some a):∃x:c,f x=some a:=by
 cases d with
 |isTrue x=>exact⟨x,h⟩
 |isFalse _=>exact jD h
theorem gf{f:String}{x y:Expr}(h:gV nm f x=some y):∃id ip pos,x=.Call (.Name id ip) [y] [] pos/\dD nm f id=true:=by
 refine bR (nk h) λi h=>?_;revert h;refine Expr.Call.elim (motive_1:=λe=>∀i:e.ctorIdx=16,Expr.Call.elim (motive_1:=λ_=>Option Expr) e i (λg as ks _=>match as,dJ g (λid=>ks.isEmpty&&dD nm f id)with | [x],true=>some x|_,_=>none)=some y->∃id ip pos,e=.Call (.Name id ip) [y] [] pos/\dD nm f id=true) x i (λg as ks p _ h=>?_) i;obtain h:(match(generalizing:=false) as,dJ g (λid=>ks.isEmpty&&dD nm f id)with | [x],true=>some x|_,_=>none)=some y:=h;rcases as with _|⟨a,as⟩
 ·exact jD h
 ·cases as with
  |cons _ _=>exact jD h
  |nil =>
   rcases q:dJ g (λid=>ks.isEmpty&&dD nm f id)with _|_
   ·rw[q]at h;exact jD h
   ·rw[q]at h;obtain rfl:=c9 h;refine onName_inv q λid ip q=>?_;obtain q:=and_t q;rw[List.isEmpty_iff.mp q.1];exact(yX id ip p rfl q.2)
theorem nE{m:String}{x y:Expr}(h:uP m x=some y):∃ap pos,x=.Call (.Attribute y (Str.ofString m) ap) [] [] pos/\cg y=true/\(ap.endLine==pos.line)=true:=by
 refine bR (nk h) λi h=>?_;revert h;refine Expr.Call.elim (motive_1:=λe=>∀i:e.ctorIdx=16,Expr.Call.elim (motive_1:=λ_=>Option Expr) e i (λg as ks p=>match as,ks with
  | [],[]=>if h:g.ctorIdx=20 then Expr.Attribute.elim (motive_1:=λ_=>Option Expr) g h λo n ap=>if(n==Str.ofString m&&(cg o&&(ap.endLine==p.line)))=true then some o else none else none
  |_,_=>none)=some y->∃ap pos,e=.Call (.Attribute y (Str.ofString m) ap) [] [] pos/\cg y=true/\(ap.endLine==pos.line)=true) x i (λg as ks p _ h=>?_) i
 cases as with
 |cons _ _=>exact jD h
 |nil=>cases ks with
  |cons _ _=>exact jD h
  |nil =>
   refine bR (nk h) λj h=>?_;revert h;refine Expr.Attribute.elim (motive_1:=λg=>∀j:g.ctorIdx=20,Expr.Attribute.elim (motive_1:=λ_=>Option Expr) g j (λo n ap=>if(n==Str.ofString m&&(cg o&&(ap.endLine==p.line)))=true then some o else none)=some y->∃ap pos,Expr.Call g [] [] p=.Call (.Attribute y (Str.ofString m) ap) [] [] pos/\cg y=true/\(ap.endLine==pos.line)=true) g j (λo n ap _ h=>?_) j;replace h:(if(n==Str.ofString m&&(cg o&&(ap.endLine==p.line)))=true then some o else none)=some y:=h;by_cases c:(n==Str.ofString m&&(cg o&&(ap.endLine==p.line)))=true
   ·rw[if_pos c]at h;obtain rfl:=c9 h;obtain c:=and_t c;rw[eq_of_beq c.1];exact(fA ap p rfl (and_t c.2))
   ·rw[if_neg c]at h;exact jD h
def rq(v:V):Prop:=match v with | .none=>True | .int _=>True | .bool _=>True | .str _=>True|_=>False
noncomputable def gN(H:AH)(t:Tgt)(v:V)(l:Loc):Option Loc:=match t,v with
 | .nm x,v=>some (l.put x v)
 |t,.ref a=>match H a with|some (.list vs)=>bm t (.tup vs) l|_=>none
 |t,v=>bm t v l
mutual
noncomputable def Ro(Γ:Sx)(d:Nat):MS->Loc->AH->(Fl->Loc->AH->Prop)->Prop
 | .expr e,l,H,K=>aS Γ d e l H λv H1=>rq v/\K .next l H1
 | .asg (.tg t) e,l,H,K=>aS Γ d e l H λv H1=>∃l',gN H1 t v l=some l'/\K .next l' H1
 | .asg (.at o f) e,l,H,K=>aS Γ d e l H λv H1=>aS Γ d o l H1 λov H2=>∃a c dx kvs,ov=.ref a/\H2 a=some (.inst c dx)/\f∈Γ.flds c/\H2 dx=some (.dict kvs)/\bJ kvs/\kvs.length<=500/\K .next l (H2.set dx (.dict (dput kvs (.str f) v)))
 | .asg (.ix o i) e,l,H,K=>aS Γ d e l H λv H1=>aS Γ d o l H1 λov H2=>aS Γ d i l H2 λiv H3=>∃a,ov=.ref a /\
   ((∃vs n,H3 a=some (.list vs)/\iv=.int n/\0<=n/\n<vs.length/\vs.length<2^60/\K .next l (H3.set a (.list (vs.set n.toNat v))))\/(∃kvs,H3 a=some (.dict kvs)/\keyFits kvs iv/\kvs.length<2^20/\K .next l (H3.set a (.dict (dput kvs iv v)))))
 | .ret e,l,H,K=>aS Γ d e l H λv H1=>K (.ret v) l H1
 | .if1 c a b,l,H,K=>yW Γ d c l H λt H1=>if t=true then aq Γ d a l H1 K else aq Γ d b l H1 K
 | .whl c b,l,H,K=>∃I:Nat->Loc->AH->Prop,(∃n,I n l H)/\∀n l H,I n l H->yW Γ d c l H λt H1=>if t=true then aq Γ d b l H1 (λfl l' H'=>match fl with | .next=>∃m,m<n/\I m l' H' | .ret v=>K (.ret v) l' H')else K .next l H1
 | .for1 t it b,l,H,K=>mr Γ d it l H λsrc vs H1=>mh src (λx l H' k=>∃l',bm t x l=some l'/\aq Γ d b l' H' k) vs l H1 K
 | .rais,_,_,_=>False
noncomputable def aq(Γ:Sx)(d:Nat):List MS->Loc->AH->(Fl->Loc->AH->Prop)->Prop
 | [],l,H,K=>K .next l H
 |x::xs,l,H,K=>Ro Γ d x l H λfl l' H'=>match fl with | .next=>aq Γ d xs l' H' K | .ret v=>K (.ret v) l' H'
end
section
variable{x:Expr}
section
variable{loc:Loc}{H:AH}{s₂:Shared}{A:Around}{d:Nat}{Q:V->AH->Prop}
theorem EStep.adopt(S:EStep Γ env H H' s s₂)(hs:∀m,s.heap.Ns env.locals m->s.heap.get? env.locals≠none){G:Str->Option Value}(hm:s.heap.Ns env.locals G){D:Addr}(Q:s.heap.get? D=none){F:Obj}(O:s₂.heap.get? D=some F)(Y:F.cls≠.type "tuple")(hH:H' D=none)(Z:Γ.base.get? D=none){h':Heap}{t:Nat}{ob:Obj}{x:AO}(J:h'.get? D=some ob)(sb:Heap.SameBut D s₂.heap h')(r:ORel Γ s₂.heap ob x):EStep Γ env H (H'.set D x) s { s₂ with heap:=h',toks:=t }:=by
 have tk:TupKeep Γ.sa s₂.heap h':=λb o _ e hc _=>(sb.2 b λz=>by subst z;rw[O]at e;obtain rfl:=c9 e;exact Y hc).trans e;obtain live:∀b,s₂.heap.get? b≠none->h'.get? b≠none:=λb h=>by
  by_cases B:b=D
  ·subst B;rw[J];simp
  ·rw[sb.2 b B];exact h
 have hL:env.locals≠D:=λz=>hs G hm (z▸Q);refine⟨⟨S.st.gens,S.st.os,λb o e B hn=>(sb.2 b λz=>by rw[z,Q]at e;cases e).trans (S.st.keep b o e B hn),λb o e=>?_,λb h=>?_,λb h=>live b (S.st.live b h),S.st.tup.trans tk,⟨λb o e=>?_,λb o e=>?_,λb o e=>?_,λb h=>live b (S.st.rel.ex b h)⟩⟩,λm hm=>?_⟩
 ·by_cases B:b=D
  ·subst B;exact .inr Q
  ·rw[AH.set_ne _ _ B]at e;exact S.st.dom b o e
 ·by_cases B:b=D
  ·subst B;simp
  ·rw[AH.set_ne _ _ B];exact S.st.mono b h
 ·exact(sb.2 b λz=>by rw[z,Z]at e;cases e).trans (S.st.rel.base b o e)
 ·by_cases B:b=D
  ·subst B;exact Z
  ·rw[AH.set_ne _ _ B]at e;exact S.st.rel.fresh b o e
 ·by_cases B:b=D
  ·subst B;rw[AH.set_self]at e;obtain rfl:=c9 e;exact(aa ob J (r.keep tk))
  ·rw[AH.set_ne _ _ B]at e;refine af (S.st.rel.obj b o e) λP h1 h2=>?_;exact(aa P ((sb.2 b B).trans h1) (h2.keep tk))
 ·refine pj (S.ns m hm) λo es ep e r=>?_;exact(yX o es ep ((sb.2 _ hL).trans e) r)
theorem Rel.free(R:Rel Γ H s.heap){D:Addr}(B:s.heap.get? D=none):H D=none/\Γ.base.get? D=none:=by
 constructor
 ·rcases e:H D with _|x
  ·rfl
  ·refine af (R.obj D x e) λob F _=>?_;rw[B]at F;exact ns F
 ·rcases e:Γ.base.get? D with _|o
  ·rfl
  ·rw[R.base D o e]at B;exact sn B
theorem yK(B:Expr)(o i:Value):subscripted B false o i=operate [i,o] (getItem o i)\/subscripted B false o i=operate [o,i] (getItem o i):=by
 cases B with
 |Slice _ _ st _=>cases st with
  |none=>exact .inl rfl
  |some _=>exact .inr rfl
 |_=>exact .inr rfl
theorem dK{F B:Expr}{o i:Value}{T id:String}(hT:s.TypeIs o T)(hl:typeLookup (.type T) "__getitem__"=pure (some (.builtin id)))(h:wpAny (model Γ.prog Γ.w) A (getItem o i) P E s) : wpAny (model Γ.prog Γ.w) A (subscriptTail F B o i) P E s:=by refine ac ?_;rw[getitemInPython_of_ne hT.not_modules];refine ac (z8 hT hl ?_);refine a9 (ac ?_);rcases yK B o i with e|e <;>(rw[e];exact wpAny_operating (d8 h (λr J G=>ac (wpAny_letTemporaryGo (a9 G))) λ_ _ x=>x))
theorem vz(C:CxOK Γ.toSx)(F:Frame Γ env loc H s.heap)(R:Rel Γ H s.heap)(Z:Room A d){G B:Expr}{v i:V}{Y:Value}(h:sU H Q v i)(J:VR Γ.sa s.heap v cv)(ri:VR Γ.sa s.heap i Y) : wpAny (model Γ.prog Γ.w) A (subscriptTail G B cv Y) (EPost Γ env H s Q) aD s:=by
 have g:=OW C F R Z h J ri;cases v with
 |tup vs =>refine bw J.tup_inv λa cvs aP ht _=>?_;subst aP;exact dK ht.typeIs PySem.F.slot_tuple_getitem.lookup g
 |str x =>obtain⟨t,rfl⟩:=J.str_inv;exact dK (typeIs_str _ _ _) PySem.F.slot_str_getitem.lookup g
 |ref a =>
  obtain rfl:=J.ref_inv;rcases h with⟨vs,_,_,O,_⟩|⟨kvs,_,O,_⟩
  ·refine cb (au R O) λcvs n P _=>?_;exact dK (T:="list") (aa _ P rfl) PySem.F.slot_list_getitem.lookup g
  ·refine cb (bV R O) λes n P _=>?_;exact dK (T:="dict") (aa _ P rfl) PySem.F.slot_dict_getitem.lookup g
 |_=>exact(h:False).elim
theorem vA(C:CxOK Γ.toSx)(F:Frame Γ env loc H s.heap)(R:Rel Γ H s.heap){G B:Expr}{v:V}{O hc:Value}{lo hi:Option Nat}{P:Addr}(h:Go H Q Γ.toSx v lo hi)(J:VR Γ.sa s.heap v cv)(hs:s.heap.IsSliceOf P O hc .none)(bl:BR lo O)(Y:BR hi hc) : wpAny (model Γ.prog Γ.w) A (subscriptTail G B cv (.ref P)) (EPost Γ env H s Q) aD s:=by
 have g:=Pb C F R h J hs bl Y (A:=A);cases v with
 |tup vs =>refine bw J.tup_inv λa cvs bK ht _=>?_;subst bK;exact dK ht.typeIs PySem.F.slot_tuple_getitem.lookup g
 |str x =>obtain⟨t,rfl⟩:=J.str_inv;exact dK (typeIs_str _ _ _) PySem.F.slot_str_getitem.lookup g
 |scr =>obtain rfl:=J.scr_inv;refine af C.scr λcvs dj _=>?_;obtain⟨o,Z,h2,_⟩:=dj;exact dK (T:="list") (aa o (R.base _ _ Z) h2) PySem.F.slot_list_getitem.lookup g
 |_=>exact(h:False).elim
theorem Gc(F:Frame Γ env loc H s.heap)(R:Rel Γ H s.heap)(r:VRs Γ.sa s.heap vs cvs)(q:Q (.tup vs) H):EPost Γ env H s Q (.ref s.heap.objs.size) { s with heap:=s.heap.push { cls:=.type "tuple",data:=.seq cvs.toArray } } :=EPost.tuple F R (k:=s.toks) q r
theorem FZ(F:Frame Γ env loc H s.heap)(R:Rel Γ H s.heap)(r:VRs Γ.sa s.heap vs cvs)(q:fresh H Q (.list vs)):EPost Γ env H s Q (.ref s.heap.objs.size) { s with heap:=s.heap.push { cls:=.type "list",data:=.seq cvs.toArray } } :=EPost.push F R (k:=s.toks) q (fA _ 0 rfl r)
noncomputable def zW:ME->Nat
 | .cst _=>19 | .var _=>23 | .gvar _=>23 | .tup _=>25 | .lst _=>24 | .dct _ _=>6 | .bin _ _ _=>2 | .cmp1 _ _ _=>15 | .cmp2 _ _ _ _ _=>15 | .and2 _ _=>0 | .or2 _ _=>0 | .not1 _=>3 | .ite _ _ _=>5
 | .idx _ _=>21 | .slc _ _ _=>21 | .attr _ _=>20 | .comp _ _=>8 | .dcomp _ _ _=>10 | .call _ _=>16 | .new _ _=>16 | .meth _ _ _=>16 | .prim _ _=>16
theorem Hi{c:Prop}{d:Decidable c}{f:c->Bool}(h:@dite Bool c d f (λ_=>false)=true):c:=(aQ h).1
theorem iw{e:ME}(h:aM nm e x=true):x.ctorIdx=zW e:=by cases e <;> exact Hi h
theorem wz(e:ME):(zW e != 7&&zW e != 22)=true:=by cases e <;> rfl
theorem fX{e:ME}(h:aM nm e x=true):lJ x=true:=by show(x.ctorIdx != 7)=true;rw[iw h];exact(and_t (wz e)).1
theorem eX{op:CmpOp}(h:lJ x=true):behindInMarks op x=false:=by cases x <;> first|rfl|exact ag h
theorem gj(h:lJ x=true)(env:Env)(v:Value):foldedSetIterable x env v=pure v:=by cases x <;> first|rfl|exact ag h
theorem db{e:ME}(h:aM nm e x=true)(rest:List Expr)(env:Env):starEach (x::rest) env=(false,eval x env)::starEach rest env:=by
 have h:(x.ctorIdx != 22)=true:=by rw[iw h];exact(and_t (wz e)).2
 cases x <;> first|rfl|exact ag h
theorem ey{o:Expr}(h:cg o=true)(f:Str)(env:Env)(t:Sem Value):attributeBase o f env t=t:=by
 cases o with
 |Call g as ks p=>cases g with
  |Name id q=>cases as with
   |nil=>cases ks with
    |nil=>exact ag h
    |cons _ _=>rfl
   |cons _ _=>rfl
  |_=>rfl
 |_=>rfl
end
end
section
variable{loc:Loc}{H:AH}{s₂:Shared}{A:Around}{d:Nat}{Q:V->AH->Prop}
theorem de:∀{es:MEs}{xs:List Expr},dc nm es xs=true->∀(pos:Pos)(env:Env),(backTo pos (starEach xs env)).any (·.1)=false/\(backTo pos (starEach xs env)).all (!·.1)=true/\(starEach xs env).all (!·.1)=true
 | .nil,[],_,pos,env=>⟨rfl,rfl,rfl⟩
 | .nil,_::_,h,_,_=>by exact ag h
 | .cons _ _,[],h,_,_=>by exact ag h
 | .cons e r,x::xs,h,pos,env=>by simp only[dc,Bool.and_eq_true]at h;refine jg (de h.2 pos env) λa b c=>?_;rw[db h.1];unfold backTo at *;rw[List.map_cons];exact⟨a,b,c⟩
theorem dQ{e:ME}{x:Expr}(h:aM nm e x=true)(xs:List Expr)(pos:Pos)(env:Env):backTo pos (starEach (x::xs) env)=(false,eval x env)::backTo pos (starEach xs env):=by rw[db h];rfl
theorem vw{es:MEs}{xs:List Expr}(hc:dc nm es xs=true){f:Value}{P:Args->Shared->Prop}(B:es=.nil->P ⟨[],[]⟩ s)(h:wpAny (model Γ.prog Γ.w) A (spliced (backTo pos (starEach xs env))) (λvs s₁=>P ⟨vs,[]⟩ s₁) E s):wpAny (model Γ.prog Γ.w) A (evalArgs f true (backTo pos (starEach xs env)) []) P E s:=by
 rcases xs with _|⟨x,xs⟩
 ·rcases es with _|⟨e,r⟩
  ·exact evalArgs_nil3 (B rfl)
  ·exact ag hc
 ·rcases es with _|⟨e,r⟩
  ·exact ag hc
  ·simp only[dc,Bool.and_eq_true]at hc;rw[dQ hc.1]at h ⊢;exact Calls.evalArgs_plain h
theorem kM{es:MEs}{xs:List Expr}(hc:dc nm es xs=true){f:Addr}{first:List Value}(hk:keepIn Γ.K (.ref f)=true)(h:wpAny (model Γ.prog Γ.w) A (evalArgs (.ref f) true (backTo pos (starEach xs env)) []) (λa s₁=>Γ.K.In s₁.heap/\wpAny (model Γ.prog Γ.w) A (call (.ref f) (first++a.pos) a.kw) P E s₁) E s) : wpAny (model Γ.prog Γ.w) A (callWith pos (.ref f) first (backTo pos (starEach xs env)) []) P E s:=by obtain hp:=(de hc pos env).1;exact callWith_of (P:=λh=>Γ.K.In h) (by rw[hp];rfl) (keeps_K hk) h
theorem qm{f:Addr}(h:CallS Γ.toSx d f vs H Q)(F:Frame Γ env loc H s.heap)(R:Rel Γ H s.heap)(G:Room A d)(J:VRs Γ.sa s.heap vs cvs):wpAny (model Γ.prog Γ.w) A (call (.ref f) cvs) (EPost Γ env H s Q) aD s:=by
 refine wpAny_call (E4 (h Γ.X Γ.hX A s cvs G R F.top J) λr s' B=>?_);unfold CRes at B;split at B
 ·refine bw B λv H' a b c=>?_;exact(bc v H' a b (c.toE F.lH))
 ·exact B.elim
theorem Pa(C:CxOK Γ.toSx){c:String}{D f:Addr}(F:Frame Γ env loc H s.heap)(R:Rel Γ H s.heap)(hD:Γ.cls c=some D)(hf:Γ.meth c "__init__"=some f)(rv:VRs Γ.sa s.heap vs cvs)(G:Room A (d+1))(h:∀x dx,H x=none->H dx=none->x≠dx->CallS Γ.toSx d f (.ref x::vs) ((H.set dx (.dict [])).set x (.inst c dx)) λr H2=>r=.none/\Q (.ref x) H2) : wpAny (model Γ.prog Γ.w) A (call (.ref D) cvs) (EPost Γ env H s Q) aD s:=by
 have M:=C.mks c D f hD hf;obtain X:Γ.K.In s.heap:=Rel.kin C R;refine wpAny_call ?_;obtain⟨B,g,J,t,os⟩:=s;refine make_core (makes_of X M.mks) (looks_findIn X M.nf) (λself=>bind_fn X self M.fn) (.inl rfl) ?_;obtain n1:B.get? B.objs.size=none:=i9 (f7 _);obtain⟨Z,H1⟩:=Step.alloc (own:=dZ) (s:=⟨B,g,J,t,os⟩) (s':=⟨B.push emptyDict,g,J,t,os⟩) (ob:=emptyDict) (x:=.dict []) R rfl rfl n1 (λb o e=>d5 _ e) (g8 _ rfl) (bc (#[]) 0 rfl rfl dictOK.nil);obtain n2:(B.push emptyDict).get? (B.push emptyDict).objs.size=none:=i9 (f7 _);obtain⟨S2,H2⟩:=Step.alloc (own:=dZ) (s:=⟨B.push emptyDict,g,J,t,os⟩) (s':=⟨(B.push emptyDict).push (instObj D B.objs.size),g,J,t,os⟩) (ob:=instObj D B.objs.size) (x:=.inst c B.objs.size) Z.rel rfl rfl n2
  (λb o e=>d5 _ e) (g8 _ rfl) (aa D hD rfl)
 rw[Heap.size_push]at S2 H2;obtain O:B.objs.size+1≠B.objs.size:=by exact QM
 have S:=Z.trans S2;obtain P:H (B.objs.size+1)=none:=by rw[AH.set_ne _ _ O]at H2;exact H2
 have Y:Room (A.under (.builtin "type.__call__" ⟨.ref D::cvs,[]⟩)) d:=by
  refine(da G.1 ?_ ?_)
  ·have:=G.2.1
   have w:(Code.builtin "type.__call__" ⟨.ref D::cvs,[]⟩).weight=1:=rfl;exact QN w this
  ·have:=G.2.2
   have w:(Code.builtin "type.__call__" ⟨.ref D::cvs,[]⟩).cUnits=1:=rfl;exact QO w this
 refine E4 (h _ _ P H1 O Γ.X Γ.hX _ ⟨(B.push emptyDict).push (instObj D B.objs.size),g,J,t,os⟩ (.ref (B.objs.size+1)::cvs) Y S.rel (by obtain⟨b,h1,h2⟩:=F.top;exact(aa b h1 (S.live b h2))) (VRs.cons (VR.ref' _) (rv.keep S.tup))) λr s' G=>?_;unfold CRes at G;split at G
 ·refine bw G λv H' aP b cS=>?_;obtain⟨a1,a2⟩:=aP;subst a1;exact⟨b.none_inv,(bc _ _ a2 (VR.ref' _) ((S.trans cS).toE F.lH))⟩
 ·exact G.elim
end
def aL(Γ:Cx)(p:Prim):Prop:=∀{env:Env}{loc:Loc}{H:AH}{s:Shared}{A:Around}{d:Nat}{Q:V->AH->Prop}{id:Str}{x y:Expr}{pos ip:Pos},Frame Γ env loc H s.heap->Rel Γ H s.heap->Room A d->dD env.scope.names (tD p) id=true ->
 rz env.scope.names p x=some y->(∀rest,starEach (y::rest) env=(false,eval y env)::starEach rest env) ->
 wpAny (model Γ.prog Γ.w) A (eval y env) (EPost Γ env H s λv H1=>iZ H1 Q p v) aD s->wpAny (model Γ.prog Γ.w) A (eval (.Call (.Name id ip) [x] [] pos) env) (EPost Γ env H s Q) aD s
section
variable{loc:Loc}{H:AH}{A:Around}{d:Nat}
theorem aX{t:Sem Value}{R:V->AH->Prop}(h:wpAny (model Γ.prog Γ.w) A t (EPost Γ env H s R) aD s)(k:∀v H1 c B,R v H1->VR Γ.sa B.heap v c->EStep Γ env H H1 s B->P c B):wpAny (model Γ.prog Γ.w) A t P aD s :=d8 h (λc B ⟨v,H1,a,b,S⟩=>k v H1 c B a b S) λ_ _ e=>e
abbrev GP(Γ:Cx)(env:Env)(H:AH)(s:Shared)(Q:Bool->AH->Prop)(b:Bool)(s':Shared):Prop:=∃H',Q b H'/\EStep Γ env H H' s s'
theorem rH{Q:V->AH->Prop}{t:Sem Value}{Qb:Bool->AH->Prop}(h:wpAny (model Γ.prog Γ.w) A t (EPost Γ env H s Q) aD s)(q:∀v H',Q v H'->∃b,v=.bool b/\Qb b H'){P:Bool->Shared->Prop}(B:∀b H' s',Qb b H'->EStep Γ env H H' s s'->P b s') : wpAny (model Γ.prog Γ.w) A t (λc s₁=>wpAny (model Γ.prog Γ.w) A (truthy c) P aD s₁) aD s :=aX h λv H1 c G a r S=>by refine af (q v H1 a) λb aP F=>?_;subst aP;rw[r.bool_inv];exact t9 (B b H1 G F S)
end
section
variable{K:rX->List V->AH->Prop}
set_option tactic.hygienic true
def ItPost(Γ:Cx)(env:Env)(A:Around)(tgt:Expr)(H:AH)(s:Shared)(K:rX->List V->AH->Prop)(c:Value)(s':Shared):Prop :=∃I W vs src St H',K src vs H'/\c=.ref I/\St 0 s'.heap/\Iter Γ A I W tgt src vs St/\WOK Γ env H' W/\(∀b,W b->s.heap.get? b=none)/\di src H'/\EStep Γ env H H' s s'
section
variable{loc:Loc}{H:AH}{A:Around}{d:Nat}
theorem ItPost.after{H₀:AH}{c:Value}(S:EStep Γ env H₀ H s₀ s)(h:ItPost Γ env A tgt H s K c s'):ItPost Γ env A tgt H₀ s₀ K c s':=by
 obtain⟨I,W,vs,src,St,H',a,b,G,B,J,O,hs,F⟩:=h;exact⟨I,W,vs,src,St,H',a,b,G,B,J,λx P=>by
  rcases e:s₀.heap.get? x with _|o
  ·rfl
  ·exact absurd (O x P) (S.st.live x (by simp[e])),hs,S.trans F⟩
theorem ItPost.mono{B:rX->List V->AH->Prop}{c:Value}(h:ItPost Γ env A tgt H s K c s')(q:∀src vs H',K src vs H'->B src vs H'):ItPost Γ env A tgt H s B c s':=by obtain⟨I,W,vs,src,St,H',a,r⟩:=h;exact⟨I,W,vs,src,St,H',q _ _ _ a,r⟩
theorem ItPost.pushed(F:Frame Γ env loc H s.heap)(R:Rel Γ H s.heap){ob:Obj}{St:Nat->Heap->Prop}{t:Nat}(q:K src vs H)(hs:di src H)(st:St 0 (s.heap.push ob))(J:¬Γ.X s.heap.objs.size->Iter Γ A s.heap.objs.size (λb=>b=s.heap.objs.size) tgt src vs St):ItPost Γ env A tgt H s K (.ref s.heap.objs.size) { s with heap:=s.heap.push ob,toks:=t }:=by
 have G:s.heap.get? s.heap.objs.size=none:=i9 (f7 _);obtain S:EStep Γ env H H s { s with heap:=s.heap.push ob,toks:=t }:=(Step.grow (s':={ s with heap:=s.heap.push ob,toks:=t }) R rfl rfl λb o e=>d5 _ e).toE F.lH;refine bQ (R.free G) λf1 f2=>?_;refine⟨_,_,vs,src,St,H,q,rfl,st,J (R.nx G),⟨λb B=>B▸f1,λb B=>B▸f2,λB=>?_,λn c e B=>?_⟩,λb B=>B▸G,hs,S⟩
 ·refine af F.ns λm aP _=>?_;obtain⟨o,_,_,e,_⟩:=aP;rw[B,G]at e;exact ns e
 ·refine jg (F.cell n c e) λ_ _ bx=>?_;refine cb bx λ_ o e' _=>?_;rw[B,G]at e';exact ns e'
theorem FY(J:A.handled=none)(F:Frame Γ env loc H s.heap)(R:Rel Γ H s.heap)(P:cf tgt=true){v:V}(h:jl v H K)(Q:VR Γ.sa s.heap v cv) : wpAny (model Γ.prog Γ.w) A (pyIter cv) (ItPost Γ env A tgt H s K) aD s:=by
 unfold jl at h;split at h
 ·rename_i vs;obtain⟨hz,q⟩:=h;refine rV Q λa cvs n bK nx cC r=>?_;subst bK;obtain⟨o,G,hc,hd⟩:=cC;obtain hT:s.heap.IsTuple a cvs:=⟨o,G,hc,n,hd⟩;obtain O:a≠s.heap.objs.size:=n9 (o8 G);refine L0 hT (ItPost.pushed (t:=s.toks) F R (St:=λi h=>(h.IsTupleIter s.heap.objs.size a i/\h.IsTuple a cvs)/\VRs Γ.sa h vs cvs.toList) q trivial ?_ λB=>uT P J B O nx r);exact⟨⟨(bb _ (g8 _ rfl) rfl rfl),⟨o,d5 _ G,hc,n,hd⟩⟩,r.keep (TupKeep.of_keep λb o e=>d5 _ e)⟩
 ·rename_i x;refine bQ h λZ q=>?_;apply Q.str_el;intro t;obtain key:∀x∈aR,strIterType (Str.ofString x)="str_ascii_iterator":=by decide +kernel
  refine wpAny_pyIter_strU ?_;rw[key x Z];exact ItPost.pushed (t:=s.toks) F R (St:=λi h=>h.IsStrIter s.heap.objs.size "str_ascii_iterator" (Str.ofString x) t i) q trivial (bb _ (g8 _ rfl) rfl rfl) λB=>zR P J B Z t
 ·rename_i a;apply Q.ref_el;refine cL h λvs Y hz q=>?_;refine cb (au R Y) λcvs n G ra=>?_;refine wpAny_pyIter_list (bb _ G rfl (mw n rfl)) (ItPost.pushed (t:=s.toks) F R (St:=λi h=>h.IsListIter s.heap.objs.size a i) q Y (bb _ (g8 _ rfl) rfl rfl) λB=>yh P J B vs)
 ·exact h.elim
theorem rF(P:A.handled=none)(F:Frame Γ env loc H s.heap)(R:Rel Γ H s.heap)(Y:cf tgt=true){r:Addr}{n:Int}{t u w:Tok}(G:PySem.IsRange s.heap r 0 n 1 t u w)(O:0<=n)(Q:n<=1000)(h:K none (jw n.toNat) H) : wpAny (model Γ.prog Γ.w) A (pyIter (.ref r)) (ItPost Γ env A tgt H s K) aD s:=by
 have B:Builtin.Range.rangeSize 0 n 1=((n.toNat:Nat):Int):=by rw[rangeSize_one];split <;>(first|exact QI O|exact QJ (by assumption))
 have J:Builtin.Range.small 0 n 1=true:=by unfold Builtin.Range.small;rw[B];unfold Builtin.Range.rangeFitsLong;simp;exact QK O Q
 refine wpAny_pyIter_range G J (ItPost.pushed (t:=s.toks) F R (St:=λi h=>IsRangeIter h s.heap.objs.size (0+(i:Nat)*1) (((n.toNat:Nat):Int)-(i:Nat)) 1) h trivial ?_ λG=>uS Y P G n.toNat);rw[B];exact g8 _ rfl
end
end
section
set_option genCtorIdx false
inductive CK where
 |list (elt:Expr)
 |dict (k v:Expr)
noncomputable def CK.ex(gens:List Comprehension)(sc:Scope)(pos:Pos):CK->Expr
 | .list elt=>.ListComp elt gens sc pos
 | .dict k v=>.DictComp k v gens sc pos
theorem CK.cl(ck:CK)(gens:List Comprehension)(sc:Scope)(pos:Pos):clausesOf (ck.ex gens sc pos)=gens:=by cases ck <;> rfl
theorem CK.qt(ck:CK){depth:Nat}{it acc:Value}:(Code.compLoop (ck.ex gens sc pos) depth it acc env).quiet=true:=by cases ck <;> rfl
def sd(M:Model)(A:Around)(env:Env)(c:Addr)(E:Value->Shared->Prop):CK->(Shared->Prop)->Shared->Prop
 | .list elt,P,s=>wpAny M A (eval elt env) (λx s₁=>wpAny M A (call (.builtin "list.append") [.ref c,x]) (λ_ s₂=>P s₂) E s₁) E s
 | .dict k v,P,s=>wpAny M A (eval k env) (λkv s₁=>wpAny M A (eval v env) (λF s₂=>wpAny M A (dictSet c kv F) (λ_ B=>P B) E s₂) E s₁) E s
section
variable{A:Around}
theorem Hm{F:List Expr}(hi:F.length<=1){k:Bool->Sem Fin}{P:Fin->Shared->Prop}{J O:Shared->Prop}(h:match(generalizing:=false) F with | []=>J s|x::_=>wpAny M A (isTrue x env (eval x env)) (λok B=>if ok=true then J B else O B) E s)(Q:∀s,J s->wpAny M A (k true) P E s)(Y:∀s,O s->wpAny M A (k false) P E s):wpAny M A ((forIn F true λc r=>if r=true then do let ok <- isTrue c env (eval c env);pure (ForInStep.yield ok)else pure (ForInStep.yield r)) >>= k) P E s:=by
 rcases F with _|⟨x,r⟩
 ·exact ac (a9 (Q s h))
 ·cases r with
  |cons _ _=>exact absurd hi (by simp)
  |nil =>
   rw[List.forIn_cons];refine ac (ac (ac (d8 h (λok B G=>a9 (a9 ?_)) λ_ _ e=>e)));rcases ok with _|_
   ·exact Y B G
   ·exact Q B G
theorem yP(ck:CK){depth:Nat}{it:Value}{c:Addr}{g:Comprehension}(hg:gens[depth]?=some g)(ad:gens[depth+1]?=none)(ha:g.is_async=0)(hi:g.ifs.length<=1){P:Fin->Shared->Prop}(h:wpAny M A (pyNext it) (λr s₁=>match r with
   |none=>P (.done .next) s₁
   |some v=>wpAny M A (letOwnedTupleGo g.target it v) (λ_ s₂=>wpAny M A (assign g.target env v) (λ_ J=>match g.ifs with
     | []=>sd M A env c E ck (λs'=>P (.again (.compLoop (ck.ex gens sc pos) depth it (.ref c) env)) s') J
     |x::_=>wpAny M A (isTrue x env (eval x env)) (λok B=>if ok=true then sd M A env c E ck (λs'=>P (.again (.compLoop (ck.ex gens sc pos) depth it (.ref c) env)) s') B
       else P (.again (.compLoop (ck.ex gens sc pos) depth it (.ref c) env)) B) E J) E s₂) E s₁) E s) :
  wpAny M A (compTurn (ck.ex gens sc pos) depth it (.ref c) env) P E s:=by
 obtain⟨target,an,ifs,as⟩:=g;cases(ha:as=0);rcases ck with elt|⟨k,v⟩
 all_goals
  unfold compTurn;dsimp only[CK.ex];rw[hg];refine ac (t7 (ac (d8 h (λr s₁ h₁=>?_) λ_ _ e=>e)));rcases r with _|v
  ·exact a9 h₁
  ·refine ac (d8 h₁ (λ_ s₂ Q=>ac (d8 Q (λ_ J O=>?_) λ_ _ e=>e)) λ_ _ e=>e);rw[ad]
   first|exact Hm hi O (λs h=>ac (ac (d8 h (λx B F=>ac (d8 F (λ_ Z G=>a9 (a9 G)) λ_ _ e=>e)) λ_ _ e=>e))) λs h=>a9 h|exact Hm hi O (λs h=>ac (ac (d8 h (λx B F=>ac (l8 (d8 F (λ_ Z G=>ac (t7 (l8 (d8 G (λ_ ar Y=>a9 Y) λ_ _ e=>e)))) λ_ _ e=>e))) λ_ _ e=>e))) λs h=>a9 h
theorem yQ(ck:CK){depth:Nat}{it:Value}{c:Addr}{g O:Comprehension}(hg:gens[depth]?=some g)(a1:gens[depth+1]?=some O)(ha:g.is_async=0)(a0:O.is_async=0)(hi:g.ifs=[])(hs:lJ O.iter=true){P:Fin->Shared->Prop}(h:wpAny M A (pyNext it) (λr s₁=>match r with
   |none=>P (.done .next) s₁
   |some v=>wpAny M A (letOwnedTupleGo g.target it v) (λ_ s₂=>wpAny M A (assign g.target env v) (λ_ B=>wpAny M A (eval O.iter env) (λx F=>wpAny M A (pyIter x) (λar G =>
     wpAny M A (runOwn (.compStart (ck.ex gens sc pos) (depth+1) ar (.ref c) env) env) (λ_ J=>P (.again (.compLoop (ck.ex gens sc pos) depth it (.ref c) env)) J) E G) E F) E B) E s₂) E s₁) E s) :
  wpAny M A (compTurn (ck.ex gens sc pos) depth it (.ref c) env) P E s:=by
 obtain⟨target,iter,ifs,as⟩:=g;obtain⟨av,a2,a3,ax⟩:=O;cases(ha:as=0);cases(a0:ax=0);cases(hi:ifs=[]);rcases ck with elt|⟨k,v⟩
 all_goals
  unfold compTurn;dsimp only[CK.ex];rw[hg];refine ac (t7 (ac (d8 h (λr s₁ h₁=>?_) λ_ _ e=>e)));rcases r with _|v
  ·exact a9 h₁
  ·refine ac (d8 h₁ (λ_ s₂ Q=>ac (d8 Q (λ_ B Y=>?_) λ_ _ e=>e)) λ_ _ e=>e);rw[a1];refine ac (a9 ?_);refine ac (d8 Y (λx F Z=>ac (t7 ?_)) λ_ _ e=>e);exact ac (L7 (gj hs env x) (ac (l8 (d8 Z (λar G ad=>ac (d8 ad (λ_ J an=>a9 an) λ_ _ e=>e)) λ_ _ e=>e))))
end
end
section
variable{loc:Loc}{H:AH}{A:Around}{d:Nat}{R:Result->Shared->Prop}
theorem lS(ck:CK){depth:Nat}{c:Addr}{g:Comprehension}(O:gens[depth]?=some g)(J:g.is_async=0)(self:wpAny (model Γ.prog Γ.w) A (pyIter (.ref I)) (λc s'=>c=.ref I/\s'=s) aD s)(G:codeAny (model Γ.prog Γ.w) A (.compLoop (ck.ex gens sc pos) depth (.ref I) (.ref c) env) R s) : codeAny (model Γ.prog Γ.w) A (.compStart (ck.ex gens sc pos) depth (.ref I) (.ref c) env) R s:=by
 have B:wpAny (model Γ.prog Γ.w) A (compStart (ck.ex gens sc pos) depth (.ref I) (.ref c) env) (λB s'=>match B with | .done f=>R (.ok f) s' | .again F=>F.quiet=true/\codeAny (model Γ.prog Γ.w) A F R s') aD s:=by unfold compStart;rw[ck.cl,O];simp only[Option.elim,J];refine p0 (λh=>by simp at h) λ_=>?_;refine ac (J0 ?_);refine p0 (λ_=>a9 ⟨ck.qt,G⟩) λ_=>?_;refine ac (y3 ?_);refine ac (t7 ?_);refine ac (d8 self (λF s' h'=>?_) λ_ _ e=>e);obtain⟨rfl,rfl⟩:=h';exact a9 ⟨ck.qt,G⟩
 refine N6 ?_;rcases ck with elt|⟨k,v⟩
 ·show wpAny _ _ ((compStart (CK.ex gens sc pos (.list elt)) depth (.ref I) (.ref c) env).onRaise (λx=>do noteFrame x env;standAt theWindowsPlace)) _ _ s;exact wpAny_notedAt (d8 B (λ_ _ h=>h) λ_ _ e=>e.elim)
 ·show wpAny _ _ ((compStart (CK.ex gens sc pos (.dict k v)) depth (.ref I) (.ref c) env).onRaise (λx=>do noteFrame x env;standAt theWindowsPlace)) _ _ s;exact wpAny_notedAt (d8 B (λ_ _ h=>h) λ_ _ e=>e.elim)
theorem WOK.step{own:Addr->Prop}{W:Addr->Prop}(B:WOK Γ env H W)(S:Step Γ own H H' s s')(lw:∀b,W b->s.heap.get? b≠none):WOK Γ env H' W :=
 ⟨λb F=>by
  rcases e:s.heap.get? b with _|o
  ·exact absurd e (lw b F)
  ·exact S.dom_none e (B.h b F),B.b,B.l,B.c⟩
theorem jr{b:Addr}(h:oo false env b):b=env.locals:=by
 rcases h with h|⟨h,_⟩
 ·exact h
 ·exact ag h
theorem AV(ck:CK){depth:Nat}{c:Addr}{W:Addr->Prop}{St:Nat->Heap->Prop}(Q:(Shared->Prop)->Shared->Prop)(hA:A.handled=none)(hturn:∀{P:Fin->Shared->Prop}{s:Shared},wpAny (model Γ.prog Γ.w) A (pyNext (.ref I)) (λr s₁=>match r with
    |none=>P (.done .next) s₁
    |some v=>wpAny (model Γ.prog Γ.w) A (letOwnedTupleGo tgt (.ref I) v) (λ_ s₂=>wpAny (model Γ.prog Γ.w) A (assign tgt env v) (λ_ G=>Q (λs'=>P (.again (.compLoop (ck.ex gens sc pos) depth (.ref I) (.ref c) env)) s') G) aD s₂) aD s₁) aD s ->
   wpAny (model Γ.prog Γ.w) A (compTurn (ck.ex gens sc pos) depth (.ref I) (.ref c) env) P aD s)
  (It:Iter Γ A I W tgt src vs St) {t:Tgt} (hct:eO false env.scope.names t tgt=true) {lb:Loc} {stepW:Loc->AH->(AH->Prop)->Prop}
  (hbody:∀{x:V}{l':Loc}{H1:AH}{s1:Shared}{k:AH->Prop}{Pst:Shared->Prop},bm t x lb=some l'->Frame Γ env l' H1 s1.heap->Rel Γ H1 s1.heap->stepW l' H1 k ->
   (∀s' H2,k H2->Frame Γ env lb H2 s'.heap->Step Γ (λb=>b=env.locals) H1 H2 s1 s'->Pst s')->Q Pst s1)
  {H₀:AH} {s₀:Shared} {own₀:Addr->Prop} (hown:own₀ env.locals) {Lo:Addr} {Z:Obj} (Y:s.heap.get? Lo=some Z) (O:H Lo=none) (hLn:Lo≠env.locals) (hLW:¬W Lo)
  (F:Frame Γ env lb H s.heap) (hW:WOK Γ env H W) (hW0:∀b,W b->s₀.heap.get? b=none) (S0:Step Γ own₀ H₀ H s₀ s) (st:St 0 s.heap) {K:AH->Prop}
  (h:fu src (λx H' k=>∃l',bm t x lb=some l'/\stepW l' H' k) vs H K)
  (hR:∀s' H',K H'->Frame Γ env lb H' s'.heap->Step Γ own₀ H₀ H' s₀ s'->s'.heap.get? Lo=some Z->R (.ok .next) s') :
  codeAny (model Γ.prog Γ.w) A (.compLoop (ck.ex gens sc pos) depth (.ref I) (.ref c) env) R s:=by
 let Inv:Nat->Shared->Prop:=λn s=>∃i H,n=vs.length-i/\i<=vs.length/\fu src (λx H' k=>∃l',bm t x lb=some l'/\stepW l' H' k) (vs.drop i) H K/\Frame Γ env lb H s.heap/\WOK Γ env H W/\Step Γ own₀ H₀ H s₀ s/\St i s.heap/\s.heap.get? Lo=some Z/\H Lo=none
 have tree:∀n s,Inv n s->wpAny (model Γ.prog Γ.w) A (compTurn (ck.ex gens sc pos) depth (.ref I) (.ref c) env) (λfin s'=>match fin with | .done f=>R (.ok f) s' | .again c'=>c'=(.compLoop (ck.ex gens sc pos) depth (.ref I) (.ref c) env)/\∃m,m<n/\Inv m s') aD s:=by
  rintro n s ⟨i,H,rfl,hi,hf,F,hW,S0,st,Y,O⟩;refine hturn ?_;rcases e:vs.drop i with _|⟨x,rest⟩
  ·rw[e]at hf;obtain hil:i=vs.length:=by obtain an:=J3.mp e;exact OK hi an
   subst hil;refine d8 (wq It F S0.rel hW hW0 S0 hf.1 st (P:=λs'=>Frame Γ env lb H s'.heap/\Step Γ own₀ H₀ H s₀ s'/\s'.heap.get? Lo=some Z) λs' F' S' k=>(da F' S' (k Lo Z hLW Y))) (λr s' h'=>?_) λ_ _ e=>e;refine rT h' λbK F' S' hL'=>?_;subst bK;exact hR s' H hf.2 F' S' hL'
  ·rw[e]at hf;refine bQ hf λhs cC=>?_;refine af cC λl' J hst=>?_;have hx:vs[i]?=some x:=by
    obtain an:(vs.drop i)[0]?=some x:=by rw[e];rfl
    rwa [K5,Q0]at an
   obtain hlt:i<vs.length:=(f9.mp hx).1;obtain hrest:vs.drop (i+1)=rest:=by rw[<- List.tail_drop,e];rfl
   refine d8 (wr (cl:=false) hA It F S0.rel hW hs st hx hct J (P:=λG=>Q (λs'=>(.compLoop (ck.ex gens sc pos) depth (.ref I) (.ref c) env:Code)=(.compLoop (ck.ex gens sc pos) depth (.ref I) (.ref c) env)/\∃m,m<vs.length-i/\Inv m s') G) λG F₃ B ad=>?_) (λr s₁ h₁=>?_) λ_ _ e=>e
   ·refine hbody J F₃ B.rel hst λs' H2 hk F' S'=>⟨rfl,vs.length-(i+1),by exact OL hlt,i+1,H2,rfl,by exact FL hlt,by rw[hrest];exact hk,F',?_,?_,?_,?_,?_⟩
    ·exact(hW.step B λb J=>It.lw _ _ st b J).step S' λb J=>It.lw _ _ ad b J
    ·obtain a1:Step Γ (λb=>own₀ b\/W b) H₀ H s₀ s:=S0.weaken λb J=>.inl J;obtain a2:Step Γ (λb=>own₀ b\/W b) H H s G:=B.weaken λb J=>J.imp (λz=>by rw[jr z];exact hown) id;obtain a3:Step Γ (λb=>own₀ b\/W b) H H2 G s':=S'.weaken λb J=>.inl (by subst J;exact hown);exact((a1.trans a2).trans a3).fresh λb J=>J.imp id (hW0 b)
    ·exact It.frame _ _ _ ad (λb o J e=>S'.keep b o e ((hW.step B λb J=>It.lw _ _ st b J).h b J) λz=>hW.l (z▸J)) S'.tup
    ·exact S'.keep _ _ (B.keep _ _ Y O λz=>z.elim (λz=>hLn (jr z)) hLW) O hLn
    ·exact S'.dom_none (B.keep _ _ Y O λz=>z.elim (λz=>hLn (jr z)) hLW) O
   ·obtain⟨c',rfl,h₁⟩:=h₁;exact h₁
 refine codeAny_loop ck.qt Inv (λn s hI=>?_) vs.length ⟨0,H,by rfl,m6 _,by simpa using h,F,hW,S0,st,Y,O⟩;rcases ck with elt|⟨k,v⟩
 ·show wpAny _ A ((compTurn (CK.ex gens sc pos (.list elt)) depth (.ref I) (.ref c) env).onRaise (λx=>do noteFrame x env;theTreesLotGoes x)) _ _ s;exact wpAny_noted (d8 (tree n s hI) (λ_ _ h=>h) λ_ _ e=>e.elim)
 ·show wpAny _ A ((compTurn (CK.ex gens sc pos (.dict k v)) depth (.ref I) (.ref c) env).onRaise (λx=>do noteFrame x env;theTreesLotGoes x)) _ _ s;exact wpAny_noted (d8 (tree n s hI) (λ_ _ h=>h) λ_ _ e=>e.elim)
end
section
variable{loc:Loc}{H:AH}{A:Around}{d:Nat}
noncomputable def ky(env:Env)(names:aY):List (Str×Addr):=names.filterMap λp=>if p.2==.free then some (p.1,(env.cells.lookup p.1).getD 0)else none
theorem pu(h:∀p∈sc.names,p.2=.free->∃c,env.cells.lookup p.1=some c):closureFor sc env=pure (ky env sc.names).reverse:=by
 unfold closureFor;obtain gen:∀(names:aY)(cs:List (Str×Addr)),(∀p∈names,p.2=.free->∃c,env.cells.lookup p.1=some c) ->
   forIn names cs (λ(x:Str×NameKind)(r:List (Str×Addr))=>(if(x.2==.free)=true then do let a <- cellOf env x.1;pure (ForInStep.yield ((x.1,a)::r))else pure (ForInStep.yield r):Sem _))=pure ((ky env names).reverse++cs):=by
  intro names;induction names with
  |nil=>intro cs _;rfl
  |cons p r J =>
   intro cs hp;obtain⟨n,k⟩:=p;rw[List.forIn_cons];by_cases hk:k=.free
   ·subst hk;refine bR (hp _ d6 rfl) λc hc=>?_;obtain B:cellOf env n=pure c:=by unfold cellOf;rw[hc]
    simp only[beq_self_eq_true,if_true,B,pure_bind];rw[J _ λp F=>hp p (List.mem_cons_of_mem _ F)];simp[ky,hc]
   ·have G:(k==NameKind.free)=false:=K2.mpr hk;simp only[G,Bool.false_eq_true,if_false,pure_bind];rw[J _ λp F=>hp p (List.mem_cons_of_mem _ F)];obtain B:ky env ((n,k)::r)=ky env r:=by unfold ky;rw[List.filterMap_cons];simp[hk]
    rw[B]
 obtain B:=gen sc.names [] h;rw[List.append_nil]at B;dsimp only[bind_pure_comp,map_pure]
 first|(rw[B];rfl)|(erw [B];rfl)|(simp only[B];rfl)
theorem gh:∀{l:List (Str×β)}{n:Str}{v:β},l.lookup n=some v->(n,v)∈l
 | [],_,_,h=>by simp at h
 |(k,a)::r,n,v,h=>by
  rw[List.lookup_cons]at h;by_cases e:(n==k)=true
  ·rw[e]at h;obtain rfl:=c9 h;rw[beq_iff_eq.mp e];exact d6
  ·rw[Bool.eq_false_iff.mpr e]at h;exact d7 _ (gh h)
theorem jT{f:Str->β}:∀{l:List (Str×β)}{n:Str},(∀p∈l,p.2=f p.1)->(∃v,(n,v)∈l)->l.lookup n=some (f n)
 | [],_,_,⟨_,h⟩=>by exact absurd h i6
 |(k,a)::r,n,F,⟨v,h⟩=>by
  rw[List.lookup_cons];by_cases e:(n==k)=true
  ·rw[e];obtain B:=F _ d6;simp only at B;rw[B,beq_iff_eq.mp e]
  ·rw[Bool.eq_false_iff.mpr e];refine jT (λp hp=>F p (d7 _ hp)) ⟨v,?_⟩;rcases i8.mp h with h|h
   ·injection h with h;subst h;simp at e
   ·exact h
theorem jW{names:aY}{p:Str×Addr}:p∈ky env names↔(p.1,NameKind.free)∈names/\p.2=(env.cells.lookup p.1).getD 0:=by
 unfold ky;rw[List.mem_filterMap];constructor
 ·rintro⟨⟨n,k⟩,F,B⟩;split at B
  ·rename_i hk;obtain rfl:=c9 B;obtain hk:k=.free:=z5.mp hk;subst hk;exact⟨F,rfl⟩
  ·exact ns B
 ·rintro⟨F,B⟩;exact(aa _ F (by simp[<- B]))
noncomputable abbrev BZ(env:Env)(sc:Scope)(L:Addr)(b:Addr):Env:={ newEnv sc L env.globals (ky env sc.names).reverse env.qual none .none (some env) b with scope:=relabel sc env }
structure ScopeFacts(outer:aY)(sc:Scope)(xs:List String):Prop where
 loc:∀p∈sc.names,p.2=.local->∃x∈".0"::xs,Str.ofString x=p.1
 kind:sc.kind=.function
 noCell:∀p∈sc.names,p.2≠.cell
 nodup:(sc.names.map (·.1)).Nodup
 outer:∀p∈sc.names,p.2=.free->outer.lookup p.1=some .cell\/outer.lookup p.1=some .free
theorem vD{outer:aY}{xs:List String}(h:kg outer sc xs=true):ScopeFacts outer sc xs:=by
 unfold kg at h;simp only[Bool.and_eq_true,List.all_eq_true,Bool.or_eq_true,bne_iff_ne,beq_iff_eq,List.any_eq_true,decide_eq_true_eq]at h;refine bQ h λaP O=>?_;obtain⟨⟨⟨B,F⟩,G⟩,J⟩:=aP;refine⟨λp hp e=>?_,F,G,J,λp hp e=>?_⟩
 ·rcases B p hp with q|⟨x,P,e'⟩
  ·exact absurd e q
  ·exact(aa x P e')
 ·rcases O p hp with(q|q)|q
  ·exact absurd e q
  ·exact .inl q
  ·exact .inr q
theorem rn{names:aY}(nd:(names.map (·.1)).Nodup):∀p∈names,names.lookup p.1=some p.2:=by
 induction names with
 |nil=>intro p h;exact absurd h i6
 |cons q r F =>
  intro p hp;rw[List.map_cons,List.nodup_cons]at nd;obtain⟨n,k⟩:=q;rw[List.lookup_cons];rcases i8.mp hp with rfl|hp
  ·simp
  ·obtain B:(p.1==n)=false:=K2.mpr λe=>nd.1 (e▸b9.mpr (aa p hp rfl));rw[B];exact F nd.2 p hp
theorem dN(F:Frame Γ env loc H s.heap)(sc:Scope):(relabel sc env).names=cA sc.names env.scope.names:=by apply o7;intro p _;rw[F.kind];simp[Env.kindOf]
theorem ii{names outer:aY}{n:Str}{k:NameKind}(h:(cA names outer).lookup n=some k):(∃B,(n,B)∈names/\(k=B\/(B=.free/\k=.cell))):=by
 obtain G:=gh h;refine af (b9.mp G) λbx O P=>?_;obtain⟨n',J⟩:=bx;have F:(if(J==NameKind.free&&outer.lookup n'==some NameKind.cell)=true then(n',NameKind.cell)else(n',J))=(n,k):=P;by_cases hc:(J==NameKind.free&&outer.lookup n'==some NameKind.cell)=true
 ·rw[if_pos hc]at F;cases F;simp only[Bool.and_eq_true,beq_iff_eq]at hc;exact(aa _ O (.inr ⟨hc.1,rfl⟩))
 ·rw[if_neg hc]at F;cases F;exact(aa _ O (.inl rfl))
theorem xT(F:Frame Γ env loc H s.heap)(R:Rel Γ H s.heap){xs:List String}(hs:ScopeFacts env.scope.names sc xs){ob:Obj}{t:Nat}{b:Addr}(hob:ob.cls≠.type "tuple")(hn:h'.Ns s.heap.objs.size λx=>([]:List (Str×Value)).reverse.lookup x)(sb:Heap.SameBut s.heap.objs.size (s.heap.push ob) h') : Frame Γ (BZ env sc s.heap.objs.size b) (loc.drop xs) H h'/\EStep Γ env H H s { s with heap:=h',toks:=t }/\s.heap.get? s.heap.objs.size=none:=by
 obtain hL:s.heap.get? s.heap.objs.size=none:=i9 (f7 _);have k:∀b o,s.heap.get? b=some o->h'.get? b=some o:=λb o e=>(sb.2 b (n9 (o8 e))).trans (d5 _ e);have S:EStep Γ env H H s { s with heap:=h',toks:=t }:=(Step.grow (s':={ s with heap:=h',toks:=t }) R rfl rfl k).toE F.lH;obtain⟨f1,f2⟩:=R.free hL;have J:∀n c,(ky env sc.names).reverse.lookup n=some c->(n,NameKind.free)∈sc.names/\env.cells.lookup n=some c:=by intro n c e;obtain m:=jW.mp (M5.mp (gh e));refine⟨m.1,?_⟩;obtain⟨c',Q⟩:=F.hasCell n (hs.outer _ m.1 rfl);obtain this:=m.2;simp only at this;rw[Q]at this;rw[Q,this];rfl
 have G:∀n,(n,NameKind.free)∈sc.names->(ky env sc.names).reverse.lookup n=env.cells.lookup n:=by intro n hm;obtain⟨c',Q⟩:=F.hasCell n (hs.outer _ hm rfl);rw[jT (f:=λn=>(env.cells.lookup n).getD 0) (λp hp=>(jW.mp (List.mem_reverse.mp hp)).2) ⟨_,List.mem_reverse.mpr ((jW (p:=(n,(env.cells.lookup n).getD 0))).mpr ⟨hm,rfl⟩)⟩,Q];rfl
 have P:∀n,((relabel sc env).names.lookup n=some .cell\/(relabel sc env).names.lookup n=some .free)->(n,NameKind.free)∈sc.names:=by
  intro n hk;rw[dN F]at hk;rcases hk with hk|hk
  ·obtain⟨Y,O,B|⟨B,_⟩⟩:=ii hk
   ·subst B;exact absurd rfl (hs.noCell _ O)
   ·subst B;exact O
  ·obtain⟨Y,O,B|⟨_,B⟩⟩:=ii hk
   ·subst B;exact O
   ·cases B
 have Z:∀n,(relabel sc env).names.lookup n=some .local->∃x∈".0"::xs,Str.ofString x=n:=by
  intro n hk;rw[dN F]at hk;refine af (ii hk) λY O dj=>?_;obtain B|⟨_,B⟩:=dj
  ·subst B;exact hs.loc _ O rfl
  ·cases B
 refine⟨⟨hs.kind,F.glob,F.blt,(aa _ hn (λx v e hk=>?_)),f1,f2,p5 ?_,λn c e=>?_,λx v e hk=>?_,λn hk=>?_,?_⟩,S,hL⟩
 ·refine af (Z _ hk) λy hy e'=>?_;obtain this:=aZ e';subst this;unfold Loc.drop at e;rw[if_pos hy]at e;exact ns e
 ·obtain O:env.locals<s.heap.objs.size:=by refine af F.ns λm zq6 _=>?_;obtain⟨o,_,_,e,_⟩:=zq6;exact o8 e
  obtain B:=F.above;exact I6 (d9 B O)
 ·refine bQ (J n c e) λO B=>?_;refine jg (F.cell n c B) λa1 a2 zq7=>?_;refine cb zq7 λcv o a3 a4=>?_;exact(da a1 a2 (fA cv o (k _ _ a3) a4))
 ·obtain hm:=P _ hk;have e':loc x=some v:=by
   unfold Loc.drop at e;split at e
   ·exact ns e
   ·exact e
  refine bw (F.cellv x v e' (hs.outer _ hm rfl)) λc cv O zq8 h4=>?_;obtain⟨o,B,h3⟩:=zq8;exact(bc c cv ((G _ hm).trans O) (aa o (k _ _ B) h3) (h4.keep S.st.tup))
 ·obtain hm:=P n hk;refine bR (F.hasCell n (hs.outer _ hm rfl)) λc hc=>?_;exact⟨c,(G n hm).trans hc⟩
 ·show List.Pairwise _ (ky env sc.names).reverse;rw[List.pairwise_reverse];obtain nd:=hs.nodup;obtain hO:∀p∈sc.names,p.2=.free->env.scope.names.lookup p.1=some .cell\/env.scope.names.lookup p.1=some .free:=hs.outer;refine List.Pairwise.filterMap (R:=λp q:Str×NameKind=>p.1≠q.1/\p∈sc.names/\q∈sc.names) _ ?_ ?_
  ·rintro⟨n,k1⟩ ⟨n',k2⟩ ⟨ad,m1,m2⟩ p hp q hq e;simp only at hp hq;split at hp <;> split at hq
   ·rename_i q1 q2;obtain rfl:=c9 hp;obtain rfl:=c9 hq;obtain q1:k1=.free:=z5.mp q1;obtain q2:k2=.free:=z5.mp q2;subst q1 q2;refine bR (F.hasCell n (hO _ m1 rfl)) λc1 e1=>?_;refine bR (F.hasCell n' (hO _ m2 rfl)) λc2 e2=>?_;rw[e1,e2]at e;simp only[Option.getD_some]at e;subst e;exact ad (gg F.apart e1 e2)
   ·exact ns hq
   ·exact ns hp
   ·exact ns hp
  ·have:sc.names.Pairwise λp q=>p.1≠q.1:=L6.mp nd
   exact E7 (λm1 m2 h=>(da h m1 m2)) this
end
section
variable{p:Pos}{as:List Expr}{x:Expr}{m:String}
section
variable{loc:Loc}{H:AH}{A:Around}{d:Nat}
noncomputable def zN:Gens->MIt
 | .one _ it _=>it
 | .more _ it _=>it
noncomputable def xn(σ:Sx)(d:Nat)(l:Loc)(emit:Loc->AH->(AH->Prop)->Prop):Gens->V->AH->(AH->Prop)->Prop
 | .one t it c=>λx H' k=>∃l',bm t x (l.drop (cZ t))=some l'/\yV σ d c l' H' λok H''=>if ok=true then emit l' H'' k else k H''
 | .more t it r=>λx H' k=>∃l',bm t x (l.drop (cZ t++dG r))=some l'/\Po σ d r l' H' emit k
theorem GI{emit:Loc->AH->(AH->Prop)->Prop}{K:AH->Prop}(h:Po σ d g l H emit K):mr σ d (zN g) l H λsrc vs H1=>fu src (xn σ d l emit g) vs H1 K:=by cases g <;> exact h
theorem Dv{mk:AH->(Addr->AH->Prop)->Prop}{emit:Addr->Loc->AH->(AH->Prop)->Prop}{K:Addr->AH->Prop}(h:Du σ d g l H mk emit K) : mr σ d (zN g) l H λsrc vs H1=>mk H1 λa H2=>fu src (xn σ d l (emit a) g) vs H2 λH3=>K a H3:=by cases g <;> exact h
theorem Hr(F:Frame Γ env loc H s.heap){e:ME}(hs:xm e=true)(hc:aM env.scope.names e x=true){Q:V->AH->Prop}(h:aS Γ.toSx d e loc H Q):∃v,Q v H/\∀{H':AH}{s':Shared}{P:Value->Shared->Prop},Frame Γ env loc H' s'.heap ->(∀c t,VR Γ.sa s'.heap v c->P c { s' with toks:=t })->wpAny (model Γ.prog Γ.w) A (eval x env) P aD s':=by
 cases e with
 |cst v=>cases v with
  |str t =>
   refine(aa _ h (λ{H' s' P} G B=>onConstant_inv hc λc k p hk=>?_));cases c with
   |str u =>rw[<- eq_of_beq hk];exact wpAny_mkText (B _ _ (VR.str' _ _))
   |_=>exact ag hk
  |_=>exact ag hs
 |var y =>refine af h λv hv q=>?_;refine(aa v q (λ{H' s' P} G B=>onName_inv hc λid p hk=>?_));obtain k:=and_t hk;rw[eq_of_beq (and_t k.1).1];exact AW G (and_t k.1).2 (by rw[<- eq_of_beq (and_t k.1).1];exact k.2) hv λc r=>B c s'.toks r
 |_=>exact ag hs
theorem xd{lo:Option Nat}{x:Option Expr}(hc:Ff lo x=true)(h:∀c t,BR lo c->P c { s with toks:=t }):wpAny (model Γ.prog Γ.w) A (evalPart x env) P aD s:=by
 rcases lo with _|n
 ·rcases x with _|_
  ·exact a9 (h .none s.toks rfl)
  ·exact ag hc
 ·rcases x with _|e
  ·exact ag hc
  ·rw[evalPart_some];refine onConstant_inv hc λc k p hk=>?_;cases c with
   |int i =>rw[eq_of_beq hk];exact wpAny_mkInt (h _ _ (mw _ rfl))
   |_=>exact ag hk
abbrev ut(Γ:Cx)(A:Around)(env:Env)(c:Addr)(ck:CK)(emit:Loc->AH->(AH->Prop)->Prop):Prop:=∀{l':Loc}{H1:AH}{F:Shared}{k:AH->Prop}{B:Shared->Prop},Frame Γ env l' H1 F.heap->Rel Γ H1 F.heap->emit l' H1 k ->
  (∀s' H2,k H2->EStep Γ env H1 H2 F s'->B s')->sd (model Γ.prog Γ.w) A env c aD ck B F
theorem kC{depth:Nat}{g:Comprehension}{gs:List Comprehension}(h:gens.drop depth=g::gs):gens[depth]?=some g/\gens.drop (depth+1)=gs:=by
 constructor
 ·obtain B:(gens.drop depth)[0]?=some g:=by rw[h];rfl
  rwa [K5,Q0]at B
 ·rw[<- List.tail_drop,h];rfl
theorem pw{xs ys:List String}{l':Loc}(h:∀x u,(l.drop (xs++ys)) x=some u->l' x=some u):∀x u,(l.drop (xs++ys)) x=some u->(l'.drop ys) x=some u:=λx u e=>by
 obtain e':=h x u e;unfold Loc.drop at e ⊢;split at e
 ·exact ns e
 ·rename_i B;rw[if_neg λz=>B ((List.mem_cons.mp z).elim (λq=>by rw[q];exact d6) λz=>d7 _ (l9.mpr (.inr z)))];exact e'
theorem EStep.leave{H2:AH}{B:Shared}{L:Addr}(R:Rel Γ H s.heap)(Q:Step Γ (λb=>b=env.locals\/b=L) H H2 s B)(P:∀m,s.heap.Ns env.locals m->B.heap.Ns env.locals m)(J:s.heap.get? L=none)(nL:env.locals≠L)(hH:H2 L=none){m:Str->Option Value}(hn:B.heap.Ns L m){h':Heap}(sb:Heap.SameBut L B.heap h'):EStep Γ env H H2 s { B with heap:=h' }:=by
 have S:Step Γ (λb=>b=env.locals) H H2 s B:=Q.fresh λb F=>F.imp id (by rintro rfl;exact J);have tk:TupKeep Γ.sa B.heap h':=λb o _ e hc ⟨xs,n,hd⟩=>(sb.2 b λz=>by subst z;refine GN hn λo' _ _ e' G _=>?_;rw[e]at e';obtain rfl:=c9 e';rw[hd]at G;cases G).trans e
 obtain live:∀b,b≠L->B.heap.get? b≠none->h'.get? b≠none:=λb F h=>by rw[sb.2 b F];exact h
 have ne:∀b,s.heap.get? b≠none->b≠L:=λb h z=>h (z▸J);refine⟨⟨S.gens,S.os,λb o e F ho=>(sb.2 b (ne b (by simp[e]))).trans (S.keep b o e F ho),S.dom,S.mono,λb h=>live b (ne b h) (S.live b h),S.tup.trans tk,⟨λb o e=>?_,S.rel.fresh,λa o e=>?_,λb F=>live b (by rintro rfl;exact R.nx J F) (S.rel.ex b F)⟩⟩,λm' O=>?_⟩
 ·exact(sb.2 b (ne b (by rw[R.base b o e];simp))).trans (S.rel.base b o e)
 ·refine af (S.rel.obj a o e) λob Y Z=>?_;exact(aa ob ((sb.2 a λz=>by rw[z,hH]at e;cases e).trans Y) (Z.keep tk))
 ·refine pj (P m' O) λo es ep e r=>?_;exact(yX o es ep ((sb.2 _ nL).trans e) r)
theorem kW{outer:aY}{f:Bool}(h:iO outer nm f g gens=true):∃g₁ gs,gens=g₁::gs/\g₁.is_async=0/\(∃t,eO false nm t g₁.target=true)/\kX (if f then outer else nm) (zN g) g₁.iter=true:=by
 rcases g with⟨t,it,c⟩|⟨t,it,r⟩
 ·refine af (mE h) λg₁ aP h=>?_;subst aP;obtain h:=and_t h;have B:=and_t h.2;exact(jh g₁ ([]) rfl (f8 (and_t B.2).2) ⟨_,h.1⟩ B.1)
 ·cases gens with
  |nil=>exact ag h
  |cons g₁ gs =>have h:=and_t h;obtain B:=and_t h.2;exact(jh g₁ gs rfl (f8 (and_t (and_t B.2).2).1) ⟨_,h.1⟩ B.1)
theorem kY{it:MIt}(h:kX nm it x=true):lJ x=true:=by
 cases it with
 |exp e=>exact(and_t h).1
 |rng e =>
  rcases q:gV nm "range" x with _|y
  ·replace h:(match gV nm "range" x with|some y=>aM nm e y|none=>false)=true:=h;rw[q]at h;exact ag h
  ·refine pj (gf q) λ_ _ _ bx _=>?_;subst bx;rfl
 |_=>exact ag h
def SG(Γ:Cx)(d:Nat)(g:Gens):Prop:=∀{outer:aY}{fst:Bool}{env:Env}{ck:CK}{gens:List Comprehension}{sc:Scope}{pos:Pos}{depth:Nat}{c I:Addr}{A:Around}{emit:Loc->AH->(AH->Prop)->Prop}{W:Addr->Prop}{src:rX}{vs:List V}{St:Nat->Heap->Prop}{g₀:Comprehension}
  {l:Loc} {H H₀:AH} {s s₀:Shared} {K:AH->Prop} {R:Result->Shared->Prop} {own₀:Addr->Prop} {Lo:Addr} {B:Obj},own₀ env.locals->s.heap.get? Lo=some B->H Lo=none->Lo≠env.locals->¬W Lo->iO outer env.scope.names fst g (gens.drop depth)=true->gens[depth]?=some g₀->Room A d->ut Γ A env c ck emit->Iter Γ A I W g₀.target src vs St ->
  Frame Γ env (l.drop (dG g)) H s.heap->WOK Γ env H W->(∀b,W b->s₀.heap.get? b=none)->Step Γ own₀ H₀ H s₀ s->St 0 s.heap->fu src (xn Γ.toSx d l emit g) vs H K ->
  (∀s' H',K H'->Frame Γ env (l.drop (dG g)) H' s'.heap->Step Γ own₀ H₀ H' s₀ s'->s'.heap.get? Lo=some B->R (.ok .next) s') ->
  codeAny (model Γ.prog Γ.w) A (.compLoop (ck.ex gens sc pos) depth (.ref I) (.ref c) env) R s
theorem zB{ck:CK}{g₁:Comprehension}{gs:List Comprehension}{pos p:Pos}(J:ScopeFacts env.scope.names sc (dG g))(a5:nm=cA sc.names env.scope.names)(ha:g₁.is_async=0)(hns:lJ g₁.iter=true)(hr:Room A d)(F:Frame Γ env loc H s.heap)(R:Rel Γ H s.heap){O:Sem Value}{ob:Obj}{x₀:AO}(hob:ob.cls≠.type "tuple")(hfr:ob.isFreed=false)(a7:∀h,ORel Γ h ob x₀)(a1:∀{s:Shared}{P:Value->Shared->Prop},P (.ref s.heap.objs.size) { s with heap:=s.heap.push ob }->wpAny (model Γ.prog Γ.w) A O P aD s){emit:Addr->Loc->AH->(AH->Prop)->Prop}{K:Addr->AH->Prop}(a3:wpAny (model Γ.prog Γ.w) A (eval g₁.iter env) (λxv s₁=>wpAny (model Γ.prog Γ.w) A (pyIter xv) (ItPost Γ env A g₁.target H s λsrc vs H1=>∀D,H1 D=none->fu src (xn Γ.toSx d loc (emit D) g) vs (H1.set D x₀) λH3=>K D H3) aD s₁) aD s)(av:SG Γ d g)(hgs:iO env.scope.names nm true g (g₁::gs)=true)(hem:∀{ad:Env}{D:Addr},ad.scope.names=nm->ut Γ A ad D ck (emit D)){bh:Option (Value->Sem Unit)}{P:Value->Shared->Prop}(hP:∀D L H3 Q,K D H3->Step Γ (λb=>b=env.locals\/b=L) H H3 s Q->(∀m,s.heap.Ns env.locals m->Q.heap.Ns env.locals m)->s.heap.get? L=none->env.locals≠L->H3 L=none->(∃m,Q.heap.Ns L m)->compPost (model Γ.prog Γ.w) A aD bh P (.ref D) L (.ok .next) Q) : wpAny (model Γ.prog Γ.w) A (comprehension (ck.ex (g₁::gs) sc pos) sc env p O false (eval g₁.iter env) bh) P aD s:=by
 refine wpAny_comprehension_free (cl:=(ky env sc.names).reverse) (ck.cl _ _ _) (λx=>gj hns env x) (pu λp hp e=>F.hasCell p.1 (J.outer p hp e)) J.kind
  (λx hx e=>by rw[rn J.nodup x hx,e]) ?_
 refine d8 a3 (λxv s1 h1=>d8 h1 (λit B h2=>?_) λ_ _ e=>e) λ_ _ e=>e;obtain⟨I,W,vs,src,St,H1,q,rfl,st,It,hW,hn,hs,S⟩:=h2;obtain F2:=F.estep S;obtain R2:=S.st.rel;refine a1 ?_;obtain n2:B.heap.get? B.heap.objs.size=none:=i9 (f7 _);obtain⟨S3,hD⟩:=Step.alloc (own:=dZ) (s':={ B with heap:=B.heap.push ob }) (x:=x₀) R2 rfl rfl n2 (λb o e=>d5 _ e) (g8 _ hfr) (a7 _);obtain ar:EStep Γ env H1 (H1.set B.heap.objs.size x₀) B { B with heap:=B.heap.push ob }:=S3.toE F2.lH;obtain F3:=F2.estep ar;obtain R3:Rel Γ (H1.set B.heap.objs.size x₀) (B.heap.push ob):=S3.rel;refine wpAny_newFunctionEnv (s:={ B with heap:=B.heap.push ob }) J.noCell (by intro x hx;exact absurd hx i6) (λh' a4 sb=>?_) J.kind;refine jg (xT (s:={ B with heap:=B.heap.push ob }) (t:=B.toks+0) (b:=0) F3 R3 J (by simp) a4 sb) λFC S4 Y=>?_;have hLs:s.heap.get? (B.heap.push ob).objs.size=none:=by
  rcases e:s.heap.get? (B.heap.push ob).objs.size with _|o
  ·rfl
  ·exact absurd Y ((S.trans ar).st.live _ (by rw[e];simp))
 obtain lw:∀b,W b->B.heap.get? b≠none:=λb Z=>It.lw 0 _ st b Z;obtain W3:WOK Γ env (H1.set B.heap.objs.size x₀) W:=hW.step S3 lw;obtain lw3:∀b,W b->(B.heap.push ob).get? b≠none:=λb Z=>S3.live b (lw b Z);obtain⟨f1,f2⟩:=R3.free Y;have a0:EStep Γ env H (H1.set B.heap.objs.size x₀) s { B with heap:=h',toks:=B.toks+0 }:=(S.trans ar).trans S4;have hk:∀b o,B.heap.get? b=some o->h'.get? b=some o:=λb o e=>(sb.2 b (n9 (o8 (d5 ob e)))).trans (d5 _ (d5 _ e));have ba:St 0 h':=It.frame 0 _ _ st (λb o _ e=>hk b o e) (TupKeep.of_keep hk);obtain hLlive:h'.get? (B.heap.push ob).objs.size≠none:=by refine pj a4 λo _ _ e _=>?_;rw[e];simp
 refine lS ck (sc:=sc) (pos:=pos) (gens:=g₁::gs) (depth:=0) (g:=g₁) rfl ha (It.self 0 _ ba) ?_;refine af ((F3.estep S4).ns) λm₀ bK _=>?_;refine pj bK λoL es₀ ep₀ a6 ax=>?_;have an:env.locals≠(B.heap.push ob).objs.size:=λz=>by refine af F3.ns λ_ cC _=>?_;refine pj cC λ_ _ _ e _=>?_;rw[z,Y]at e;exact ns e
 refine av (gens:=g₁::gs) (g₀:=g₁) (s:={ B with heap:=h',toks:=B.toks+0 }) (s₀:=s) (H₀:=H) (own₀:=λb=>b=env.locals\/b=(B.heap.push ob).objs.size) (Lo:=env.locals) (K:=λH3=>K B.heap.objs.size H3) (.inr rfl) a6 (F3.estep S4).lH an hW.l (outer:=env.scope.names) (fst:=true) ?_ rfl hr (hem ?_) It FC
  ⟨W3.h,hW.b,?_,?_⟩ hn (a0.st.weaken λb Z=>.inl Z) ba (q _ hD) λs5 H3 hK F5 S5 hL5=>?_
 ·obtain e:=(dN F sc).trans a5.symm;exact e▸hgs
 ·exact(dN F sc).trans a5.symm
 ·intro Z;exact lw3 _ Z Y
 ·intro n c e Z;have m:=jW.mp (M5.mp (gh e));obtain⟨c',a2⟩:=F.hasCell n (J.outer _ m.1 rfl);obtain G:=m.2;simp only at G;rw[a2]at G;simp only[Option.getD_some]at G;subst G;exact hW.c n c a2 Z
 ·refine hP _ _ H3 s5 hK S5 (λm hm=>?_) hLs an F5.lH (by refine af F5.ns λm hm _=>?_;exact⟨m,hm⟩)
  ·refine pj (a0.ns m hm) λo es ep e r=>?_;obtain G:o=oL:=c9 (e.symm.trans a6);subst G;exact(yX o es ep hL5 r)
noncomputable def mP(Γ:Cx)(env:Env)(loc:Loc)(A:Around):List (Option Expr)->List V->Prop
 | [],[]=>True
 |some x::xs,v::vs=>(∀{H':AH}{s':Shared}{P:Value->Shared->Prop},Frame Γ env loc H' s'.heap->(∀c t,VR Γ.sa s'.heap v c->P c { s' with toks:=t })->wpAny (model Γ.prog Γ.w) A (eval x env) P aD s')/\mP Γ env loc A xs vs
 |_,_=>False
theorem pY(F:Frame Γ env loc H s.heap):∀{ks:MEs}{keys:List (Option Expr)},ir ks=true->we env.scope.names ks keys=true->∀{Q:List V->AH->Prop},dW Γ.toSx d ks loc H Q->∃kk,Q kk H/\mP Γ env loc A keys kk
 | .nil,keys,_,hc,Q,h=>by
  rcases keys with _|⟨_,_⟩
  ·exact(aa ([]) h trivial)
  ·exact ag hc
 | .cons e r,keys,B,hc,Q,h=>by
  rcases keys with _|⟨o,keys⟩
  ·exact ag hc
  ·rcases o with _|x
   ·exact ag hc
   ·refine af (Hr (A:=A) F (and_t B).1 (and_t hc).1 h) λv hv G=>?_;refine af (pY F (and_t B).2 (and_t hc).2 hv) λkk hk J=>?_;exact(aa (v::kk) hk ⟨G,J⟩)
theorem lu:∀{keys:List (Option Expr)}{kk:List V},mP Γ env loc A keys kk->keys.all (·.isSome)=true/\keys.length=kk.length
 | [],[],_=>⟨rfl,rfl⟩
 |some _::_,_::_,h=>(lu h.2).imp id (j6 (· + 1))
 |none::_,_,h=>h.elim
 |some _::_,[],h=>h.elim
 | [],_::_,h=>h.elim
theorem mZ:∀{kk:List V}{ps:List (Value×Value)},VRs Γ.sa h kk (ps.map (·.1))->(∀k∈kk,cW k=1)->∃B:List (V×Value),@Carries Γ.prog Γ.w V vdec (bH Γ.prog Γ.w) ps B/\B.map (·.1)=kk/\B.map (·.2)=ps.map (·.2)
 | [],[],_,_=>(bb ([]) trivial rfl rfl)
 |_::_,[],r,_=>by refine cb (VRs.cons_inv r) λ_ _ e _=>?_;exact(o9 _ _ e.symm).elim
 | [],_::_,r,_=>nomatch VRs.nil_inv r
 |k::kk,p::ps,r,hk=>by refine bw (VRs.cons_inv r) λc cs e P Q=>?_;cases e;refine cL (mZ Q λk F=>hk k (d7 _ F)) λB G J O=>?_;exact(bb ((k,p.2)::B) (da (cF (dn (hk k d6)) P) rfl G) (j6 (k::·) J) (j6 (p.2::·) O))
theorem xH:∀{kk B:List V},kk.length=B.length->(kk.zip B).map (·.1)=kk/\(kk.zip B).map (·.2)=B
 | [],[],_=>⟨rfl,rfl⟩
 |k::_,v::_,h=>(xH (w2 h)).imp (j6 (k::·)) (j6 (v::·))
 | [],_::_,h=>Nat.noConfusion h
 |_::_,[],h=>Nat.noConfusion h
theorem BX{ks vs:MEs}{keys:List (Option Expr)}{B:List Expr}(ha:ir ks=true)(hk:we env.scope.names ks keys=true)(hv:dc env.scope.names vs B=true)(hl:keys.length=B.length)(ar:keys.length<=15)(F:Frame Γ env loc H s.heap)(R:Rel Γ H s.heap)(hr:Room A d){Q:V->AH->Prop}(h:dW Γ.toSx d ks loc H λkk _=>dW Γ.toSx d vs loc H λJ H'=>dictOK (kk.zip J)/\bJ (kk.zip J)/\kk.length=J.length/\kk.length<=15/\fresh H' Q (.dict (kk.zip J)))(IH:∀{H:AH}{s:Shared}{kk:List V}{Q:List V->AH->Prop},Frame Γ env loc H s.heap->Rel Γ H s.heap->mP Γ env loc A keys kk->dW Γ.toSx d vs loc H Q ->
   wpAny (model Γ.prog Γ.w) A (evalPairs (pairTrees keys B env p)) (λps s'=>∃J H',Q J H'/\VRs Γ.sa s'.heap kk (ps.map (·.1))/\VRs Γ.sa s'.heap J (ps.map (·.2))/\EStep Γ env H H' s s') aD s) :
  wpAny (model Γ.prog Γ.w) A (eval (.Dict keys B p) env) (EPost Γ env H s Q) aD s:=by
 letI:DecidableEq V:=vdec
 refine af (pY (A:=A) F ha hk h) λkk h KO=>?_;refine bQ (lu KO) λk1 k2=>?_;have n0:s.heap.get? s.heap.objs.size=none:=i9 (f7 _);have S0:EStep Γ env H H s { s with heap:=s.heap.push { cls:=.type "dict",data:=.dict #[] } } :=(Step.grow (s':={ s with heap:=s.heap.push { cls:=.type "dict",data:=.dict #[] } }) R rfl rfl λb o e=>d5 _ e).toE F.lH
 refine bQ (R.free n0) λf1 f2=>?_;obtain F0:=F.estep S0;refine af F.ns λm₀ G _=>?_;obtain av:∀m,s.heap.Ns env.locals m->s.heap.get? env.locals≠none:=λm ⟨o,_,_,e,_⟩=>by rw[e];simp
 rcases keys with _|⟨k₀,keys⟩
 ·cases B with
  |cons _ _=>exact Nat.noConfusion hl
  |nil =>
   cases kk with
   |cons _ _=>exact Nat.noConfusion k2
   |nil =>
    cases vs with
    |cons _ _=>exact ag hv
    |nil =>exact wpAny_Dict_empty (EPost.push F R (k:=s.toks) (ob:=aV #[] 0) h.2.2.2.2 (bc (#[]) 0 rfl rfl h.1))
 ·refine wpAny_Dict_walk (knd:=bH Γ.prog Γ.w) k1 hl (by simp) ar (d8 (IH F0 S0.st.rel KO h) (λps s1 h1=>?_) λ_ _ e=>e);refine ph h1 λJ H' dj r1 r2 S1=>?_;refine ET dj λhd hsk hkl hk15 q=>?_;refine bQ (xH hkl) λz1 z2=>?_;refine cL (mZ r1 λk hk=>by rw[<- z1]at hk;refine af (b9.mp hk) λp hp zq6=>?_;subst zq6;exact hsk p hp) λP c1 c2 c3=>?_;obtain Y:({ s with heap:=s.heap.push { cls:=.type "dict",data:=.dict #[] } }:Shared).heap.get? s.heap.objs.size=some (aV #[] 0):=g8 _ rfl;obtain hne:s.heap.objs.size≠env.locals:=λz=>by refine pj G λo _ _ e _=>?_;rw[<- z,n0]at e;exact ns e
  have Z:s1.heap.get? s.heap.objs.size=some (aV #[] 0):=S1.st.keep _ _ Y f1 hne;refine(bb P c1 ((Rd _ (#[]) 0 Z (da rfl rfl rfl) rfl (λe he=>by simp at he) (@Pairs.nil _ _ V vdec _) (by decide))) (λh' an sb=>?_));obtain nd:(P.map (·.1)).Nodup:=by rw[c2,<- z1];exact hd.1
  rw[merged_nil_of_nodup P nd]at an;refine Pu an λo es' ep ho' hx O hk' hp _=>?_;have ob:o=aV es' ep:=by obtain⟨d1,d2,d3,d4⟩:=o;obtain⟨x1,x2,x3⟩:=hx;simp only at x1 x2 x3 O;subst x1 x2 x3 O;rfl
  obtain ad:H' s.heap.objs.size=none:=S1.st.dom_none Y f1;obtain S:=EStep.adopt (t:=s1.toks+ps.length) (S0.trans S1) av G n0 Z (by simp) ad f2 ho' sb (x:=.dict (kk.zip J)) (bc _ _ ob (xi (kvs:=kk.zip J) hp (λe he=>hk' e (w4.mp he)) (by rw[c2,z1]) (by rw[z2,c3];exact r2)) hd);exact(bc _ _ (q _ ad) (VR.ref' _) S)
def ur(Γ:Cx)(d:Nat)(args:MEs):Prop:=∀{env:Env}{as:List Expr}{pos:Pos}{loc:Loc}{H:AH}{s:Shared}{A:Around}{Q:List V->AH->Prop},dc env.scope.names args as=true->Frame Γ env loc H s.heap->Rel Γ H s.heap->Room A d->dW Γ.toSx d args loc H Q ->
  wpAny (model Γ.prog Γ.w) A (spliced (backTo pos (starEach as env))) (λcvs s'=>EPosts Γ env H s Q cvs s'/\cvs.length=as.length) aD s
def SE(Γ:Cx)(d:Nat)(e:ME):Prop:=∀{env:Env}{x:Expr}{loc:Loc}{H:AH}{s:Shared}{A:Around}{Q:V->AH->Prop},aM env.scope.names e x=true->Frame Γ env loc H s.heap->Rel Γ H s.heap->Room A d->aS Γ.toSx d e loc H Q->wpAny (model Γ.prog Γ.w) A (eval x env) (EPost Γ env H s Q) aD s
def ST(Γ:Cx)(d:Nat)(e:ME):Prop:=∀{env:Env}{x:Expr}{loc:Loc}{H:AH}{s:Shared}{A:Around}{Q:Bool->AH->Prop},aM env.scope.names e x=true->Frame Γ env loc H s.heap->Rel Γ H s.heap->Room A d->yW Γ.toSx d e loc H Q->wpAny (model Γ.prog Γ.w) A (isTrue x env (eval x env)) (GP Γ env H s Q) aD s
def mQ(Γ:Cx)(d:Nat)(vs:MEs):Prop:=∀{env:Env}{keys:List (Option Expr)}{B:List Expr}{p:Pos}{loc:Loc}{H:AH}{s:Shared}{A:Around}{kk:List V}{Q:List V->AH->Prop},dc env.scope.names vs B=true->keys.length=B.length->Frame Γ env loc H s.heap->Rel Γ H s.heap->Room A d->mP Γ env loc A keys kk->dW Γ.toSx d vs loc H Q ->
  wpAny (model Γ.prog Γ.w) A (evalPairs (pairTrees keys B env p)) (λps s'=>∃F H',Q F H'/\VRs Γ.sa s'.heap kk (ps.map (·.1))/\VRs Γ.sa s'.heap F (ps.map (·.2))/\EStep Γ env H H' s s') aD s
def BD(Γ:Cx)(d:Nat)(it:MIt):Prop:=∀{env:Env}{x tgt:Expr}{loc:Loc}{H:AH}{s:Shared}{A:Around}{K:rX->List V->AH->Prop},kX env.scope.names it x=true->cf tgt=true->Frame Γ env loc H s.heap->Rel Γ H s.heap->Room A d->mr Γ.toSx d it loc H K ->
  wpAny (model Γ.prog Γ.w) A (eval x env) (λB s₁=>wpAny (model Γ.prog Γ.w) A (pyIter B) (ItPost Γ env A tgt H s K) aD s₁) aD s
end
theorem fT{d:Nat}{loc:Loc}{H:AH}{A:Around}{J:List V->AH->Prop}{f:Value}(Q:ur Γ d args)(O:dc env.scope.names args as=true)(F:Frame Γ env loc H s.heap)(R:Rel Γ H s.heap)(Z:Room A d)(h:dW Γ.toSx d args loc H J){P:Args->Shared->Prop}(k:∀vs H1 cvs B,J vs H1->VRs Γ.sa B.heap vs cvs->EStep Γ env H H1 s B->P ⟨cvs,[]⟩ B):wpAny (model Γ.prog Γ.w) A (evalArgs f true (backTo p (starEach as env)) []) P aD s:=by
 refine vw O (λe=>?_) (d8 (Q (pos:=p) O F R Z h) (λcvs B Y=>?_) λ_ _ e=>e)
 ·subst e;exact k [] H [] s h .nil (EStep.refl R)
 ·refine bQ Y λG _=>?_;refine bw G λvs H1 q r S=>?_;exact k vs H1 cvs B q r S
section
variable{d:Nat}(C:CxOK Γ.toSx)(PO:∀p,aL Γ p)
section
variable{loc:Loc}{H:AH}{A:Around}
include C
theorem zv{f:String}(J:dD env.scope.names f id=true)(Y:dc env.scope.names args as=true)(IH:ur Γ d args){Q:V->AH->Prop}(F:Frame Γ env loc H s.heap)(R:Rel Γ H s.heap)(Z:Room A d)(h:∃a,Γ.fn f=some a/\dW Γ.toSx d args loc H λvs H1=>CallS Γ.toSx d a vs H1 Q):wpAny (model Γ.prog Γ.w) A (eval (.Call (.Name id ip) as [] p) env) (EPost Γ env H s Q) aD s:=by obtain J:=and_t J;refine af h λa P h=>?_;refine ph C.ns λmg mb G B hf _=>?_;refine bQ (hf f a P) λhm hk=>?_;refine Call_ (oD F R G (and_t J.1).2 J.2 (u5 (and_t J.1).1▸hm) ?_);exact kM Y hk (fT IH Y F R Z h λvs H1 cvs s1 O r S=>⟨Rel.kin C S.st.rel,d8 (qm O (F.estep S) S.st.rel Z r) (λ_ _ h=>EPost.after S h) λ_ _ e=>e⟩)
theorem BY{c:String}(J:dD env.scope.names c id=true)(ha:dc env.scope.names args as=true)(IH:ur Γ d args){Q:V->AH->Prop}(F:Frame Γ env loc H s.heap)(R:Rel Γ H s.heap)(hr:Room A d)(h:aS Γ.toSx d (.new c args) loc H Q):wpAny (model Γ.prog Γ.w) A (eval (.Call (.Name id ip) as [] p) env) (EPost Γ env H s Q) aD s:=by obtain J:=and_t J;refine rV h λD f d' Z O hf h=>?_;subst Z;refine rU C.ns λmg mb G B _ P _=>?_;refine Call_ (oD F R G (and_t J.1).2 J.2 (u5 (and_t J.1).1▸P c D O) ?_);exact kM ha (C.mks c D f O hf).kp (fT IH ha F R hr h λvs H1 cvs s1 Y r S=>⟨Rel.kin C S.st.rel,d8 (Pa C (F.estep S) S.st.rel O hf r hr Y) (λ_ _ h=>EPost.after S h) λ_ _ e=>e⟩)
omit C in
theorem Cp{a:Addr}(G:s.heap.get? a=some o)(hc:o.cls=.type "list")(hd:o.dict=none)(hm:m∈["append","extend","pop"]){pl:Sem Bool}{P:Value×List Value->Shared->Prop}(B:P (.builtin ("list."++m),[.ref a]) s):wpAny (model Γ.prog Γ.w) A (getMethod (.ref a) (Str.ofString m) pl) P aD s:=by
 have nd:∀b,Value.ref a=.ref b->∃o,s.heap.get? b=some o/\o.dict=none:=λb e=>by injection e with e;subst e;exact⟨_,G,hd⟩
 have hT:s.TypeIs (.ref a) "list":=⟨_,G,hc⟩;rcases i8.mp hm with rfl|hm
 ·exact z9 hT G8 PySem.F.slot_list_append PySem.F.type_list_append nd B
 rcases i8.mp hm with rfl|hm
 ·exact z9 hT G8 PySem.F.slot_list_extend PySem.F.type_list_extend nd B
 obtain rfl:=j5.mp hm;exact z9 hT G8 PySem.F.slot_list_pop PySem.F.type_list_pop nd B
omit C in
theorem Co{a:Addr}(G:s.heap.get? a=some o)(hc:o.cls=.type "dict")(hd:o.dict=none)(hm:m∈["get","setdefault","pop"]){pl:Sem Bool}{P:Value×List Value->Shared->Prop}(B:P (.builtin ("dict."++m),[.ref a]) s):wpAny (model Γ.prog Γ.w) A (getMethod (.ref a) (Str.ofString m) pl) P aD s:=by
 have nd:∀b,Value.ref a=.ref b->∃o,s.heap.get? b=some o/\o.dict=none:=λb e=>by injection e with e;subst e;exact(aa _ G hd)
 obtain hT:s.TypeIs (.ref a) "dict":=(aa _ G hc);rcases i8.mp hm with rfl|hm
 ·exact z9 hT G4 PySem.F.slot_dict_get PySem.F.type_dict_get nd B
 rcases i8.mp hm with rfl|hm
 ·exact z9 hT G4 PySem.F.slot_dict_setdefault PySem.F.type_dict_setdefault nd B
 obtain rfl:=j5.mp hm;exact z9 hT G4 PySem.F.slot_dict_pop PySem.F.type_dict_pop nd B
theorem Cz{x:Expr}(O:dc env.scope.names args as=true)(IH:ur Γ d args){Q:V->AH->Prop}(F:Frame Γ env loc H s.heap)(R:Rel Γ H s.heap)(P:Room A d){k:RK}{v:V}(rv:VR Γ.sa s.heap v cv)(J:qk H Γ.toSx v m k)(h:dW Γ.toSx d args loc H λvs H2=>tf H2 Q Γ.toSx d k v m vs){pl:Sem Bool}:wpAny (model Γ.prog Γ.w) A (getMethod cv (Str.ofString m) pl) (λfm s₁=>wpAny (model Γ.prog Γ.w) A (callWith p fm.1 fm.2 (backTo p (starEach as env)) []) (EPost Γ env H s Q) aD s₁) aD s:=by
 rcases k with c|_|_|_
 ·refine Pu J λa dx kvs zq9 i1 i2 i3 i4 i5=>?_;subst zq9;apply rv.ref_el;refine af (nF R i1) λD hD Y=>?_;refine bw (kA R i2) λes n hd er dk=>?_;obtain⟨f,hf⟩:=w3.mp i5;obtain K:=C.mth c D m f hD hf;refine af (ER.getL m er i3) λoc l1 l2=>?_;rw[i4]at l2;cases oc with
  |some _=>exact l2.elim
  |none =>refine method_fn (od:=some (dictOf es n)) (Rel.kin C R) ⟨Y,rfl,rfl,hd⟩ (Q5 K.g).1 (Q5 K.g).2 K.nf (z5.mp K.fn) (by show(lookIn (Str.ofString m) (dictOf es n)).map _=_;rw[lookIn_dict,l1];rfl) ?_;refine kM O K.kp (fT IH O F R P h λvs H2 cvs s2 h2 r B=>?_);refine af h2 λf' hf' G=>?_;obtain rfl:=c9 (hf.symm.trans hf');exact⟨Rel.kin C B.st.rel,d8 (qm G (F.estep B) B.st.rel P (.cons (VR.ref' _) r)) (λ_ _ h=>EPost.after B h) λ_ _ e=>e⟩
 ·obtain⟨hm,a,vs,rfl,i1⟩:=J;obtain rfl:=rv.ref_inv;obtain⟨cvs,n,Y,_⟩:=au R i1;exact Cp Y rfl rfl hm (I1 (de O p env).1 (fT IH O F R P h λvs H2 cvs s2 G r B =>
   d8 (xf C (F.estep B) B.st.rel P G (VR.ref' _) r) (λ_ _ h=>EPost.after B h) λ_ _ e=>e))
 ·obtain⟨hm,a,vs,rfl,i1⟩:=J;obtain rfl:=rv.ref_inv;obtain⟨es,n,Y,_⟩:=bV R i1;exact Co Y rfl rfl hm (I1 (de O p env).1 (fT IH O F R P h λvs H2 cvs s2 G r B =>
   d8 (CT C (F.estep B) B.st.rel P G (VR.ref' _) r) (λ_ _ h=>EPost.after B h) λ_ _ e=>e))
 ·obtain⟨rfl,y,rfl⟩:=J;apply rv.str_el;intro t;refine GM.isspace ?_;show wpAny _ _ (callWith p (.builtin "str.isspace") [.str (Str.ofString y) t] (backTo p (starEach as env)) []) _ _ _;refine I1 (de O p env).1 (fT IH O F R P h λvs H2 cvs s2 h2 r B=>?_);refine rT h2 λ_ Z ad q=>?_;subst Z;refine af ad λy' e1 e2=>?_;injection e1 with e1;subst e1;rw[r.nil_inv];exact d8 (yE B.st.rel (aa y rfl e2) q (VR.str' y t)) (λ_ _ h=>EPost.after B h) λ_ _ e=>e
theorem zw{o:ME}{ap:Pos}(hb:cg x=true)(Z:dc env.scope.names args as=true)(hl:as.length<30)(G:(ap.endLine==p.line)=true)(ho:aM env.scope.names o x=true)(J:SE Γ d o)(IH:ur Γ d args){Q:V->AH->Prop}(F:Frame Γ env loc H s.heap)(R:Rel Γ H s.heap)(hr:Room A d)(h:aS Γ.toSx d o loc H λv H1=>∃k,qk H1 Γ.toSx v m k/\dW Γ.toSx d args loc H1 λvs H2=>tf H2 Q Γ.toSx d k v m vs):wpAny (model Γ.prog Γ.w) A (eval (.Call (.Attribute x (Str.ofString m) ap) as [] p) env) (EPost Γ env H s Q) aD s:=by
 have B:methodCallForm (as.length+0) (backTo p (starEach as env)) (backToKw p (keywordEach [] env))=true:=by unfold methodCallForm;rw[(de Z p env).2.1];exact r8 hl
 refine MethodCall_ (pl:=do return(<- importBound x env).getD true) (aX (J ho F R hr h) λv H1 cv s1 P r1 O=>?_) ?_
 ·refine af P λk Y P=>?_;exact d8 (Cz C (x:=x) Z IH (F.estep O) O.st.rel hr r1 Y P) (λ_ _ h=>d8 h (λ_ _ h=>EPost.after O h) λ_ _ e=>e) λ_ _ e=>e
 ·show(do let ov <- attributeBase x (Str.ofString m) env (eval x env);standAt ap.atName;methodCall x (Str.ofString m) ap p env ov (as.length+0) (backTo p (starEach as env)) (backToKw p (keywordEach [] env)):Sem Value)=_;rw[ey hb];unfold methodCall;rw[B];unfold calleeOf methodCallPos;rw[G];rfl
end
end
end
section
variable{a:ME}
variable{d:Nat}
theorem Ge{v:V}:SE Γ d (.cst v):=by
 intro env x loc H s A Q hc F R B h;refine onConstant_inv hc λc k p hk=>?_;cases v with
 |none=>cases c with
  |none=>exact a9 (EPost.same' R h VR.none')
  |_=>exact ag hk
 |bool b=>cases c with
  |bool b'=>obtain rfl:=u5 hk;exact a9 (EPost.same' R h (VR.bool' _))
  |_=>exact ag hk
 |int i=>cases c with
  |int j=>obtain rfl:=u5 hk;exact wpAny_mkInt (EPost.int R h)
  |_=>exact ag hk
 |str i=>cases c with
  |str j=>obtain rfl:=u5 hk;exact wpAny_mkText (EPost.same R h (VR.str' _ _))
  |_=>exact ag hk
 |_=>exact ag hk
theorem Bc{y:String}:SE Γ d (.var y):=by intro env x loc H s A Q hc F R G h;refine onName_inv hc λid p hk=>?_;obtain k:=and_t hk;have B:=and_t k.1;obtain rfl:=u5 B.1;refine af h λv hv q=>?_;exact AW F B.2 k.2 hv λc r=>EPost.same' R q r
theorem Dc(C:CxOK Γ.toSx){y:String}:SE Γ d (.gvar y):=by intro env x loc H s A Q hc F R P h;refine onName_inv hc λid p hk=>?_;obtain k:=and_t hk;have J:=and_t k.1;obtain rfl:=u5 J.1;refine af h λv hv q=>?_;refine Pp C.ns λmg mb G B _ _ O _=>?_;refine af (O y v hv) λcv hm r=>?_;exact oD F R G J.2 k.2 hm (EPost.same' R q ((r Γ.X Γ.hX).keep (TupKeep.of_keep R.base)))
theorem wF{n:Nat}(h:n=m)(B:decide (m<=1000)=true):n<=sizeLine:=by rw[sizeLine_eq,h];exact b8 (f8 B) (by decide)
theorem Gm{es:MEs}(I:ur Γ d es):SE Γ d (.tup es):=by intro env x loc H s A Q hc F R G h;refine onTuple_inv hc λxs n p hk=>?_;have hk:=and_t hk;refine wpAny_Tuple_spliced (d8 (I (pos:=p) hk.1 F R G h) (λcvs J B=>?_) λ_ _ e=>e);obtain⟨⟨vs,H1,q,r,S⟩,hl⟩:=B;exact⟨wF hl hk.2,EPost.after S (Gc (F.estep S) S.st.rel r q)⟩
theorem Gi{es:MEs}(I:ur Γ d es):SE Γ d (.lst es):=by intro env x loc H s A Q hc F R G h;refine onList_inv hc λxs p hk=>?_;obtain hk:=and_t hk;show wpAny _ _ (do standAt p;newList (<- spliced (backTo p (starEach xs env)))) _ _ _;refine ac (t7 (ac (d8 (I (pos:=p) hk.1 F R G h) (λcvs J B=>?_) λ_ _ e=>e)));refine bQ B λbx hl=>?_;obtain⟨vs,H1,q,r,S⟩:=bx;exact M2 (EPost.after S (FZ (F.estep S) S.st.rel r q)) (wF hl hk.2)
theorem Gf{ks vs:MEs}(I:mQ Γ d vs):SE Γ d (.dct ks vs):=by intro env x loc H s A Q hc F R Y h;refine onDict_inv hc λkeys B p hk=>?_;obtain O:=and_t hk;obtain P:=and_t O.2;have G:=and_t P.2;obtain J:=and_t G.2;exact BX O.1 P.1 G.1 (f8 J.1) (f8 J.2) F R Y h λF R Z h=>I G.1 (f8 J.1) F R Y Z h
theorem Gd{op:BOp}{b:ME}(P:SE Γ d a)(Y:SE Γ d b):SE Γ d (.bin op a b):=by intro env x loc H s A Q hc F R O h;refine onBinOp_inv hc λl o r p hk=>?_;obtain hk:=and_t hk;have J:=and_t hk.2;obtain rfl:=f8 hk.1;refine wpAny_BinOp (aX (P J.1 F R O h) λv H1 c s1 Z r1 B=>?_);refine aX (Y J.2 (F.estep B) B.st.rel O Z) λu H2 c2 s2 J r2 G=>?_;exact d8 (OV ((F.estep B).estep G) G.st.rel op J (r1.keep G.st.tup) r2) (λ_ _ h=>EPost.after (B.trans G) h) λ_ _ e=>e
theorem zA(C:CxOK Γ.toSx){op:COp}{b:ME}(Z:SE Γ d a)(Ib:SE Γ d b){l r:Expr}{loc:Loc}{H:AH}{A:Around}(ha:aM env.scope.names a l=true)(hb:aM env.scope.names b r=true)(F:Frame Γ env loc H s.heap)(R:Rel Γ H s.heap)(O:Room A d){Q:Bool->AH->Prop}(h:aS Γ.toSx d a loc H λv H1=>aS Γ.toSx d b loc H1 λw H2=>eP H2 op v w λt=>Q t H2){P:Value->Shared->Prop}(k:∀t H2 G,Q t H2->EStep Γ env H H2 s G->P (.bool t) G) : wpAny (model Γ.prog Γ.w) A (eval l env) (λx Y=>wpAny (model Γ.prog Γ.w) A (eval r env) (λy G=>wpAny (model Γ.prog Γ.w) A (compareOp (Hg op) x y) P aD G) aD Y) aD s :=
 aX (Z ha F R O h) λv H1 c Y h1 r1 J=>aX (Ib hb (F.estep J) J.st.rel O h1) λu H2 c2 G h2 r2 B =>
  tH C ((F.estep J).estep B) B.st.rel O op h2 (r1.keep B.st.tup) r2 λt j q=>k t H2 _ q ((J.trans B).trans (EStep.toks B.st.rel j))
theorem CZ(C:CxOK Γ.toSx){op:COp}{b:ME}(G:SE Γ d a)(J:SE Γ d b):SE Γ d (.cmp1 op a b):=by intro env x loc H s A Q hc F R O h;refine onCompare_inv hc λl os rs p hk=>?_;refine on1_el hk λo hk=>on1_el hk λr hk=>?_;obtain hk:=and_t hk;obtain B:=and_t hk.2;obtain rfl:=f8 hk.1;exact wpAny_Compare1 (zA C G J B.1 B.2 F R O h λt H2 P q S=>(bc _ H2 q (VR.bool' _) S)) (eX (fX B.2))
theorem Do(C:CxOK Γ.toSx){op:COp}{b:ME}(G:SE Γ d a)(J:SE Γ d b):ST Γ d (.cmp1 op a b):=by intro env x loc H s A Q hc F R O h;refine onCompare_inv hc λl os rs p hk=>?_;refine on1_el hk λo hk=>on1_el hk λr hk=>?_;obtain hk:=and_t hk;obtain B:=and_t hk.2;obtain rfl:=f8 hk.1;exact wpAny_isTrue_Compare1 (zA C G J B.1 B.2 F R O h λt H2 P q S=>t9 (aa H2 q S)) (eX (fX B.2))
theorem Da(C:CxOK Γ.toSx){o1 o2:COp}{b c:ME}(Ia:SE Γ d a)(Ib:SE Γ d b)(Ic:SE Γ d c):SE Γ d (.cmp2 a o1 b o2 c):=by
 intro env x loc H s A Q hc F R P h;refine onCompare_inv hc λl os rs p hk=>on2_el hk λp1 p2 hk=>on2_el hk λr1 r2 hk=>?_;have k1:=and_t hk;have k2:=and_t k1.2;have k3:=and_t k2.2;have k4:=and_t k3.2;obtain rfl:=f8 k1.1;obtain rfl:=f8 k2.1;refine Compare_chain (aX (Ia k3.1 F R P h) λv H1 c1 s1 h1 q1 Y=>?_) (eX (fX k4.2));refine chain_link (aX (Ib k4.1 (F.estep Y) Y.st.rel P h1) λu H2 c2 s2 h2 q2 B=>?_);have Z:=(F.estep Y).estep B;refine tH C Z B.st.rel P o1 h2 (q1.keep B.st.tup) q2 λt k q=>t9 ?_;have J:EStep Γ env H2 H2 s2 { s2 with toks:=k }:=EStep.toks B.st.rel k;have G:=(Y.trans B).trans J;rcases t with _|_
 ·exact EPost.after G (EPost.same' J.st.rel q (VR.bool' _))
 ·exact chain_last (aX (Ic k4.2 (Z.estep J) J.st.rel P q) λw H4 c4 s4 h4 q4 O =>
   tH C ((Z.estep J).estep O) O.st.rel P o2 h4 (q2.keep O.st.tup) q4 λt k q=>EPost.after (G.trans O) (EPost.same O.st.rel q (VR.bool' _)))
theorem Dp(C:CxOK Γ.toSx){o1 o2:COp}{b c:ME}(Ia:SE Γ d a)(Ib:SE Γ d b)(Ic:SE Γ d c):ST Γ d (.cmp2 a o1 b o2 c):=by
 intro env x loc H s A Q hc F R O h;refine onCompare_inv hc λl os rs p hk=>on2_el hk λp1 p2 hk=>on2_el hk λr1 r2 hk=>?_;obtain k1:=and_t hk;have k2:=and_t k1.2;have k3:=and_t k2.2;have k4:=and_t k3.2;obtain rfl:=f8 k1.1;obtain rfl:=f8 k2.1;refine isTrue_chain (aX (Ia k3.1 F R O h) λv H1 c1 s1 h1 q1 P=>?_) (eX (fX k4.2));refine test_link (aX (Ib k4.1 (F.estep P) P.st.rel O h1) λu H2 c2 s2 h2 q2 B=>?_);have Z:=(F.estep P).estep B;refine tH C Z B.st.rel O o1 h2 (q1.keep B.st.tup) q2 λt k q=>t9 ?_;have Y:EStep Γ env H2 H2 s2 { s2 with toks:=k }:=EStep.toks B.st.rel k;have G:=(P.trans B).trans Y;rcases t with _|_
 ·exact(aa H2 q G)
 ·exact test_last (aX (Ic k4.2 (Z.estep Y) Y.st.rel O q) λw H4 c4 s4 h4 q4 J =>
   tH C ((Z.estep Y).estep J) J.st.rel O o2 h4 (q2.keep J.st.tup) q4 λt k q=>t9 (aa H4 q ((G.trans J).trans (EStep.toks J.st.rel k))))
theorem qy(J:SE Γ d a){x:Expr}{loc:Loc}{H:AH}{A:Around}(hc:aM env.scope.names a x=true)(F:Frame Γ env loc H s.heap)(R:Rel Γ H s.heap)(Y:Room A d){Q:Bool->AH->Prop}(h:aS Γ.toSx d a loc H λv H1=>∃t,v=.bool t/\Q t H1){P:Value->Bool->Shared->Prop}(k:∀t H1 B,Q t H1->EStep Γ env H H1 s B->P (.bool t) t B):wpAny (model Γ.prog Γ.w) A (eval x env) (λc B=>wpAny (model Γ.prog Γ.w) A (truthy c) (P c) aD B) aD s :=aX (J hc F R Y h) λv H1 c B G Z O=>by obtain⟨t,rfl,G⟩:=G;rw[Z.bool_inv];exact t9 (k t H1 B G O)
theorem CX{b:ME}(P:SE Γ d a)(Y:SE Γ d b):SE Γ d (.and2 a b):=by
 intro env x loc H s A Q hc F R O h;refine onBoolOp_inv hc λo xs p hk=>on2_el hk λy z hk=>?_;have hk:=and_t hk;have J:=and_t hk.2;obtain rfl:=f8 hk.1;refine wpAny_And2 (qy P J.1 F R O (Q:=λt H1=>if t=true then aS Γ.toSx d b loc H1 Q else Q (.bool false) H1) h λt H1 Z G B=>?_);rcases t with _|_
 ·exact EPost.after B (EPost.same' B.st.rel G (VR.bool' _))
 ·exact d8 (Y J.2 (F.estep B) B.st.rel O G) (λ_ _ h=>EPost.after B h) λ_ _ e=>e
theorem Gk{b:ME}(P:SE Γ d a)(Y:SE Γ d b):SE Γ d (.or2 a b):=by
 intro env x loc H s A Q hc F R O h;refine onBoolOp_inv hc λo xs p hk=>on2_el hk λy z hk=>?_;obtain hk:=and_t hk;have J:=and_t hk.2;obtain rfl:=f8 hk.1;refine wpAny_Or2 (qy P J.1 F R O (Q:=λt H1=>if t=true then Q (.bool true) H1 else aS Γ.toSx d b loc H1 Q) h λt H1 Z G B=>?_);cases t with
 |true=>exact EPost.after B (EPost.same' B.st.rel G (VR.bool' _))
 |false=>exact d8 (Y J.2 (F.estep B) B.st.rel O G) (λ_ _ h=>EPost.after B h) λ_ _ e=>e
theorem Dm{b:ME}(Y:ST Γ d a)(Z:ST Γ d b):ST Γ d (.and2 a b):=by
 intro env x loc H s A Q hc F R P h;refine onBoolOp_inv hc λo xs p hk=>on2_el hk λy z hk=>?_;obtain hk:=and_t hk;have B:=and_t hk.2;obtain rfl:=f8 hk.1;refine wpAny_isTrue_BoolOp (wpAny_allTrue_And_cons (d8 (Y B.1 F R P h) (λt s1 J=>?_) λ_ _ e=>e));obtain⟨H1,J,G⟩:=J;rcases t with _|_
 ·exact(aa H1 J G)
 ·refine wpAny_allTrue_And_cons (d8 (Z B.2 (F.estep G) G.st.rel P J) (λt s2 B=>?_) λ_ _ e=>e);obtain⟨H2,B,O⟩:=B;rcases t with _|_
  ·exact(aa H2 B (G.trans O))
  ·exact wpAny_allTrue_And_nil (aa H2 B (G.trans O))
theorem Gs{b:ME}(Y:ST Γ d a)(Z:ST Γ d b):ST Γ d (.or2 a b):=by
 intro env x loc H s A Q hc F R P h;refine onBoolOp_inv hc λo xs p hk=>on2_el hk λy z hk=>?_;obtain hk:=and_t hk;have B:=and_t hk.2;obtain rfl:=f8 hk.1;refine wpAny_isTrue_BoolOp (wpAny_allTrue_Or_cons (d8 (Y B.1 F R P h) (λt s1 J=>?_) λ_ _ e=>e));obtain⟨H1,J,G⟩:=J;cases t with
 |true=>exact(aa H1 J G)
 |false =>
  refine wpAny_allTrue_Or_cons (d8 (Z B.2 (F.estep G) G.st.rel P J) (λt s2 B=>?_) λ_ _ e=>e);obtain⟨H2,B,O⟩:=B;cases t with
  |true=>exact⟨H2,B,G.trans O⟩
  |false=>exact wpAny_allTrue_Or_nil ⟨H2,B,G.trans O⟩
theorem Dd(J:SE Γ d a):SE Γ d (.not1 a):=by intro env x loc H s A Q hc F R O h;refine onUnaryOp_inv hc λo y p hk=>?_;have hk:=and_t hk;obtain rfl:=f8 hk.1;refine wpAny_UnaryOp (aX (J hk.2 F R O h) λv H1 c Y B P G=>?_);obtain⟨t,rfl,B⟩:=B;rw[P.bool_inv];exact not_value (t9 (EPost.after G (EPost.same' G.st.rel B (VR.bool' _))))
theorem Dr(B:ST Γ d a):ST Γ d (.not1 a):=by intro env x loc H s A Q hc F R G h;refine onUnaryOp_inv hc λo y p hk=>?_;obtain hk:=and_t hk;obtain rfl:=f8 hk.1;exact wpAny_isTrue_Not (B hk.2 F R G h)
theorem Gh{c b:ME}(Z:ST Γ d c)(P:SE Γ d a)(Y:SE Γ d b):SE Γ d (.ite c a b):=by
 intro env x loc H s A Q hc F R J h;refine onIfExp_inv hc λt y z p hk=>?_;obtain hk:=and_t hk;have O:=and_t hk.2;refine wpAny_IfExp (d8 (Z hk.1 F R J h) (λt s1 G=>?_) λ_ _ e=>e);refine af G λH1 G B=>?_;cases t with
 |true=>exact d8 (P O.1 (F.estep B) B.st.rel J G) (λ_ _ h=>EPost.after B h) λ_ _ e=>e
 |false=>exact d8 (Y O.2 (F.estep B) B.st.rel J G) (λ_ _ h=>EPost.after B h) λ_ _ e=>e
theorem Gg(C:CxOK Γ.toSx){i:ME}(O:SE Γ d a)(P:SE Γ d i):SE Γ d (.idx a i):=by
 intro env x loc H s A Q hc F R J h;refine onSubscript_inv hc λo y p hk=>?_;have hk:=and_t hk;exact Subscript_ (aX (O hk.1 F R J h) λv H1 c s1 Y r1 B=>aX (P hk.2 (F.estep B) B.st.rel J Y) λu H2 c2 s2 Z r2 G =>
  d8 (vz C ((F.estep B).estep G) G.st.rel J Z (r1.keep G.st.tup) r2) (λ_ _ h=>EPost.after (B.trans G) h) λ_ _ e=>e)
theorem EStep.pushed{loc:Loc}{H:AH}(F:Frame Γ env loc H s.heap)(R:Rel Γ H s.heap)(ob:Obj)(t:Nat):EStep Γ env H H s { s with heap:=s.heap.push ob,toks:=t } :=(Step.grow (s':={ s with heap:=s.heap.push ob,toks:=t }) R rfl rfl λb o e=>d5 _ e).toE F.lH
theorem Gl(C:CxOK Γ.toSx){lo hi:Option Nat}(Ia:SE Γ d a):SE Γ d (.slc a lo hi):=by intro env x loc H s A Q hc F R hr h;refine onSubscript_inv hc λo y p hk=>onSlice_inv hk λlw up st q hk=>?_;obtain hk:=and_t hk;have Y:=and_t hk.2;have Z:=and_t Y.2;obtain rfl:=E5.mp hk.1;refine Subscript_ (aX (Ia Y.1 F R hr h) λv H1 c O h1 r1 G=>wpAny_Slice (xd Z.1 λlc t1 bl=>xd Z.2 λJ t2 bh=>?_));rw[evalPart_none];obtain P:=F.estep G;obtain B:EStep Γ env H1 H1 O { O with heap:=O.heap.push { cls:=.type "slice",data:=.fields #[lc,J,.none] },toks:=t2 }:=EStep.pushed P G.st.rel _ _;exact a9 (d8 (vA C (P.estep B) B.st.rel h1 (r1.keep B.st.tup) (Heap.IsSliceOf.new _ _ _ _) bl bh) (λ_ _ h=>EPost.after (G.trans B) h) λ_ _ e=>e)
theorem CY(C:CxOK Γ.toSx){f:String}(J:SE Γ d a):SE Γ d (.attr a f):=by
 intro env x loc H s A Q hc F R P h;refine onAttribute_inv hc λo n p hk=>?_;obtain hk:=and_t hk;obtain B:=and_t hk.2;obtain rfl:=u5 hk.1;show wpAny _ _ (do let o' <- attributeBase o (Str.ofString f) env (eval o env);standAt p.atName;let r <- holding [o'] (getAttr o' (Str.ofString f) true);letTemporaryGo o o' r;pure r) _ _ _;rw[ey B.1];exact ac (aX (J B.2 F R P h) λv H1 c Z O Y G =>
  ac (t7 (ac (l8 (d8 (FW C (F.estep G) G.st.rel O Y) (λr s2 B=>ac (wpAny_letTemporaryGo (a9 (EPost.after G B)))) λ_ _ e=>e)))))
theorem xk(C:CxOK Γ.toSx){f:String}(I:ur Γ d args):SE Γ d (.call f args):=by intro env x loc H s A Q hc F R G h;refine onCall_inv hc λg as ks p hk=>onName_inv hk λid ip hk=>?_;obtain hk:=and_t hk;obtain B:=and_t hk.2;rw[List.isEmpty_iff.mp hk.1];exact zv C B.1 B.2 I F R G h
theorem Gj(C:CxOK Γ.toSx){c:String}(I:ur Γ d args):SE Γ d (.new c args):=by intro env x loc H s A Q hc F R G h;refine onCall_inv hc λg as ks p hk=>onName_inv hk λid ip hk=>?_;obtain hk:=and_t hk;obtain B:=and_t hk.2;rw[List.isEmpty_iff.mp hk.1];exact BY C B.1 B.2 I F R G h
theorem xl(C:CxOK Γ.toSx){o:ME}{m:String}(Y:SE Γ d o)(I:ur Γ d args):SE Γ d (.meth o m args):=by intro env x loc H s A Q hc F R Z h;refine onCall_inv hc λg as ks p hk=>onAttribute_inv hk λy n ap hk=>?_;obtain hk:=and_t hk;obtain B:=and_t hk.2;obtain G:=and_t B.2;obtain J:=and_t G.2;obtain O:=and_t J.2;obtain P:=and_t O.2;rw[List.isEmpty_iff.mp hk.1,eq_of_beq B.1];exact zw C G.1 O.1 (f8 P.1) P.2 J.1 Y I F R Z h
theorem Dn(C:CxOK Γ.toSx){f:String}(I:ur Γ d args):ST Γ d (.call f args):=by intro env x loc H s A Q hc F R B h;have hc2:=hc;revert hc2;refine onCall_inv hc λg as ks p hk hc=>?_;exact K9 (rH (xk C I hc F R B h) (λv H' q=>q) λb H' s' q S=>(aa H' q S))
theorem Dq(C:CxOK Γ.toSx){o:ME}{m:String}(B:SE Γ d o)(I:ur Γ d args):ST Γ d (.meth o m args):=by intro env x loc H s A Q hc F R G h;have hc2:=hc;revert hc2;refine onCall_inv hc λg as ks p hk hc=>?_;exact K9 (rH (xl C B I hc F R G h) (λv H' q=>q) λb H' s' q S=>(aa H' q S))
theorem De(PO:∀p,aL Γ p){p:Prim}(O:SE Γ d a):SE Γ d (.prim p a):=by
 intro env x loc H s A Q hc F R J h;refine onCall_inv hc λg as ks pos hk=>onName_inv hk λid ip hk=>on1_el hk λy hk=>?_;obtain hk:=and_t hk;obtain G:=and_t hk.2;rw[List.isEmpty_iff.mp hk.1];have B:=G.2;rcases e:rz env.scope.names p y with _|z
 ·rw[e]at B;exact ag B
 ·rw[e]at B;exact PO p F R J G.1 e (λrest=>db B rest env) (O B F R J h)
theorem Dg:ur Γ d .nil:=by
 intro env as pos loc H s A Q hc F R B h;cases as with
 |cons _ _=>exact ag hc
 |nil=>exact a9 ⟨(bc ([]) H h .nil (EStep.refl R)),rfl⟩
theorem Bk{e:ME}{r:MEs}(O:SE Γ d e)(P:ur Γ d r):ur Γ d (.cons e r):=by
 intro env as pos loc H s A Q hc F R J h;rcases as with _|⟨x,xs⟩
 ·exact ag hc
 ·obtain hc:=and_t hc;rw[dQ hc.1];refine y6 (aX (O hc.1 F R J h) λv H1 c s1 Y r1 B=>d8 (P (pos:=pos) hc.2 (F.estep B) B.st.rel J Y) (λcvs s2 Z=>?_) λ_ _ e=>e);refine bQ Z λdj hl=>?_;obtain⟨vs,H2,q,r2,G⟩:=dj;exact⟨(bc (v::vs) H2 q (.cons (r1.keep G.st.tup) r2) (B.trans G)),j6 (· + 1) hl⟩
theorem Gp:mQ Γ d .nil:=by
 intro env keys B p loc H s A kk Q hc hl F R J G h;cases B with
 |cons _ _=>exact ag hc
 |nil=>cases keys with
  |cons _ _=>exact Nat.noConfusion hl
  |nil=>cases kk with
   |cons _ _=>exact G.elim
   |nil=>exact evalPairs_nil (jh ([]) H h .nil .nil (EStep.refl R))
theorem Di{e:ME}{r:MEs}(Y:SE Γ d e)(Z:mQ Γ d r):mQ Γ d (.cons e r):=by
 intro env keys B p loc H s A kk Q hc hl F R P G h;rcases B with _|⟨x,B⟩
 ·exact ag hc
 ·rcases keys with _|⟨o,keys⟩
  ·exact Nat.noConfusion hl
  ·rcases kk with _|⟨k,kk⟩
   ·cases o <;> exact G.elim
   ·rcases o with _|y
    ·exact G.elim
    ·obtain hc:=and_t hc;refine pairTrees_cons_walk (G.1 F λc t rk=>?_);obtain S0:EStep Γ env H H s { s with toks:=t }:=EStep.toks R t;refine aX (Y hc.1 (F.estep S0) S0.st.rel P h) λv H1 c1 s1 h1 r1 J=>d8 (Z (p:=p) hc.2 (w2 hl) ((F.estep S0).estep J) J.st.rel P G.2 h1) (λps s2 h2=>?_) λ_ _ e=>e;refine ph h2 λvv H2 q r2 r3 O=>?_;exact(jh (v::vv) H2 q (.cons ((rk.keep J.st.tup).keep O.st.tup) r2) (.cons (r1.keep O.st.tup) r3) ((S0.trans J).trans O))
theorem Gu{y:String}:ST Γ d (.var y):=by intro env x loc H s A Q hc F R B h;have hc2:=hc;revert hc2;refine onName_inv hc λid p hk hc=>?_;refine af h λt hv q=>?_;exact K9 (rH (Bc (Q:=λv H2=>∃t,v=.bool t/\Q t H2) hc F R B (aa _ hv (aa t rfl q))) (λv H' q=>q) λb H' s' q S=>(aa H' q S))
end
section
variable{t:Tgt}{it:MIt}
variable{d:Nat}
theorem pe{loc:Loc}{H:AH}{K:rX->List V->AH->Prop}{x:Expr}{A:Around}(I:BD Γ d (zN g)){cl:Bool}(G:eO cl nm t tgt=true)(B:kX env.scope.names (zN g) x=true)(F:Frame Γ env loc H s.heap)(R:Rel Γ H s.heap)(J:Room A d)(h:mr Γ.toSx d (zN g) loc H K) : wpAny (model Γ.prog Γ.w) A (eval x env) (λO s₁=>wpAny (model Γ.prog Γ.w) A (pyIter O) (ItPost Γ env A tgt H s K) aD s₁) aD s:=I B (lV G) F R J h
noncomputable def CK.acc:CK->Sem Value
 | .list _=>newList []
 | .dict _ _=>newDict
abbrev mx(Γ:Cx)(env:Env)(A:Around)(H:AH)(s:Shared)(Q:V->AH->Prop)(F:Option (Value->Sem Unit))(P:Value->Shared->Prop):Prop:=∀D L H3 B,Q (.ref D) H3->Step Γ (λb=>b=env.locals\/b=L) H H3 s B->(∀m,s.heap.Ns env.locals m->B.heap.Ns env.locals m)->s.heap.get? L=none->env.locals≠L->H3 L=none->(∃m,B.heap.Ns L m)->compPost (model Γ.prog Γ.w) A aD F P (.ref D) L (.ok .next) B
def SU(Γ:Cx)(d:Nat)(e:ME):Prop:=∀{env:Env}{ck:CK}{gens:List Comprehension}{sc:Scope}{p:Pos}{loc:Loc}{H:AH}{s:Shared}{A:Around}{Q:V->AH->Prop}{B:Option (Value->Sem Unit)}{P:Value->Shared->Prop},aM env.scope.names e (ck.ex gens sc p)=true->Frame Γ env loc H s.heap->Rel Γ H s.heap->Room A d->aS Γ.toSx d e loc H Q->mx Γ env A H s Q B P ->
  wpAny (model Γ.prog Γ.w) A (comprehension (ck.ex gens sc p) sc env (firstIterPos gens p) ck.acc (firstAsync gens) (firstIter gens env) B) P aD s
theorem wf{ck:CK}{p:Pos}{loc:Loc}{H:AH}{A:Around}{x₀:AO}{ob:Obj}{Q:V->AH->Prop}{Y:Option (Value->Sem Unit)}{emit:Addr->Loc->AH->(AH->Prop)->Prop}(Ig:SG Γ d g)(Ii:BD Γ d (zN g))(ax:kg env.scope.names sc (dG g)=true)(hg:iO env.scope.names (cA sc.names env.scope.names) true g gens=true)(F:Frame Γ env loc H s.heap)(R:Rel Γ H s.heap)(hr:Room A d)(av:ob.cls≠.type "tuple")(ar:ob.isFreed=false)(O:∀h,ORel Γ h ob x₀)(G:∀{s:Shared}{P:Value->Shared->Prop},P (.ref s.heap.objs.size) { s with heap:=s.heap.push ob }->wpAny (model Γ.prog Γ.w) A ck.acc P aD s)(h:Du Γ.toSx d g loc H (λH1 K=>fresh H1 (λv H2=>∃c,v=.ref c/\K c H2) x₀) emit λc H'=>Q (.ref c) H')(an:∀{B:Env}{D:Addr},B.scope.names=cA sc.names env.scope.names->ut Γ A B D ck (emit D))(hP:mx Γ env A H s Q Y P) : wpAny (model Γ.prog Γ.w) A (comprehension (ck.ex gens sc p) sc env (firstIterPos gens p) ck.acc (firstAsync gens) (firstIter gens env) Y) P aD s:=by obtain h:=Dv h;refine ph (kW hg) λg₁ gs aP ha bx J=>?_;subst aP;obtain⟨t,ad⟩:=bx;obtain⟨tg,a1,a0,as⟩:=g₁;cases(ha:as=0);refine zB (x₀:=x₀) (ob:=ob) (nm:=cA sc.names env.scope.names) (g:=g) (g₁:=⟨tg,a1,a0,0⟩) (gs:=gs) (vD ax) rfl rfl (kY J) hr F R av ar O G (emit:=emit) (K:=λD H3=>Q (.ref D) H3) ?_ Ig hg an hP;refine d8 (pe Ii ad J F R hr h) (λxv s1 h1=>d8 h1 (λc s2 h2=>h2.mono λsrc vs H1 hk D hD=>?_) λ_ _ e=>e) λ_ _ e=>e;refine af (hk D hD) λc' Z hk=>?_;injection Z with Z;subst Z;exact hk
theorem xo(C:CxOK Γ.toSx){elt:ME}(Ie:SE Γ d elt)(Ig:SG Γ d g)(Ii:BD Γ d (zN g)):SU Γ d (.comp elt g):=by
 intro env ck gens sc p loc H s A Q use P hc F R hr h B;cases ck with
 |dict _ _=>exact ag hc
 |list y =>obtain h1:=and_t hc;obtain G:=and_t h1.2;obtain O:=and_t G.2;refine wf (x₀:=.list []) (ob:=dq #[] 0) Ig Ii h1.1 O.1 F R hr (λe=>nomatch e) rfl (λh=>(fA (#[]) 0 rfl .nil)) (λB=>M2 B) h (λ{cenv D} Z=>?_) B;intro l' H1 s1 k Pst F1 R1 Y B;refine aX (Ie (Z▸G.1) F1 R1 hr Y) λv H2 cv s2 G r2 J=>?_;refine cL G λvs hD hz hk=>?_;refine d8 (xf C (F1.estep J) J.st.rel hr (Q:=λr H3=>r=.none/\k H3) (m:="append") (args:=[v]) (bc D vs rfl hD (.inl ⟨rfl,(iN v rfl hz rfl hk)⟩)) (VR.ref' _) (VRs.one r2)) (λc s3 O=>?_) λ_ _ e=>e;refine bw O λ_ H3 hk _ S3=>?_;exact B s3 H3 hk.2 (J.trans S3)
theorem tW(C:CxOK Γ.toSx){kx v:ME}(Ik:SE Γ d kx)(Iv:SE Γ d v)(Ig:SG Γ d g)(Ii:BD Γ d (zN g)):SU Γ d (.dcomp kx v g):=by
 intro env ck gens sc p loc H s A Q use P hc F R hr h G;rcases ck with _|⟨y,z⟩
 ·exact ag hc
 ·obtain h1:=and_t hc;have Y:=and_t h1.2;have Z:=and_t Y.2;have h4:=and_t Z.2;refine wf (x₀:=.dict []) (ob:=aV #[] 0) Ig Ii h1.1 h4.1 F R hr (λe=>nomatch e) rfl (λh=>(bc (#[]) 0 rfl rfl dictOK.nil)) (λG=>r9 G) h (λ{cenv D} J=>?_) G;intro l' H1 s1 k' Pst F1 R1 hem G;refine aX (Ik (J▸Y.1) F1 R1 hr hem) λkk H2 ck s2 Y r2 O=>aX (Iv (J▸Z.1) (F1.estep O) O.st.rel hr Y) λvv H3 cv s3 Z r3 B=>?_;refine xG Z λkvs hD kf hz hk=>?_;have D3:=B.st.rel.dat hD;refine AU (dt hr (QP)) D3 kf (r2.keep B.st.tup) r3 (by rw[sizeLine_eq];exact Ol hz) λt h' es' n' x1 y1 z1=>?_;exact G _ _ hk ((O.trans B).trans (EStep.same ((F1.estep O).estep B) B.st.rel hD x1 z1 (bc _ _ rfl y1 ((D3.choose_spec.choose_spec.2.2).dput kf vv))))
theorem tZ{H:AH}{A:Around}{Q:V->AH->Prop}(R:Rel Γ H s.heap):mx Γ env A H s Q none (EPost Γ env H s Q):=by intro D L H3 Z O G B P Y J hm;obtain⟨m,F⟩:=hm;exact(aa m F (λh' sb=>(bc (.ref D) H3 O (VR.ref' _) (EStep.leave R G B P Y J F sb))))
theorem Db{elt:ME}(U:SU Γ d (.comp elt g)):SE Γ d (.comp elt g):=by intro env x loc H s A Q hc F R B h;have hc2:=hc;revert hc2;exact onListComp_inv hc λy gens sc p hk hc=>U (ck:=.list y) hc F R B h (tZ R)
theorem Bb{B v:ME}(U:SU Γ d (.dcomp B v g)):SE Γ d (.dcomp B v g):=by intro env x loc H s A Q hc F R G h;have hc2:=hc;revert hc2;exact onDictComp_inv hc λy z gens sc p hk hc=>U (ck:=.dict y z) hc F R G h (tZ R)
theorem Bl{e:ME}(I:SE Γ d e):BD Γ d (.exp e):=by intro env x tgt loc H s A K hc O F R G h;exact aX (I (and_t hc).2 F R G h) λv H1 c Q J P B=>d8 (FY G.1 (F.estep B) B.st.rel O J P) (λ_ _ h=>ItPost.after B h) λ_ _ e=>e
theorem Bm(C:CxOK Γ.toSx){e:ME}(I:SE Γ d e):BD Γ d (.rng e):=by
 intro env x tgt loc H s A K hc ht F R hr h;replace hc:(match gV env.scope.names "range" x with|some y=>aM env.scope.names e y|none=>false)=true:=hc;rcases q:gV env.scope.names "range" x with _|y
 ·rw[q]at hc;exact ag hc
 ·rw[q]at hc;refine pj (gf q) λid ip p bK O=>?_;subst bK;have O:=and_t O;have Z:=and_t O.1;obtain rfl:=u5 Z.1;refine Pp C.ns λmg mb G B _ _ _ hb=>?_;obtain⟨hm,hv⟩:=hb ("range",.type "range") (g9 (i:=10) rfl);refine Call_ (iI F R G B Z.2 O.2 hm hv ?_);refine D8 (e:=y) (rest:=[]) ?_ (db hc [] env);rw[dQ hc];refine y6 (aX (I hc F R hr h) λv H1 c J h1 r1 P=>I2 ?_);refine xG h1 λn cC h0 hn q=>?_;subst cC;apply r1.int_el;intro t;refine call_range_1 ?_;have Y:=F.estep P;obtain Q:EStep Γ env H1 H1 J { J with heap:=J.heap.push { cls:=.type "range",data:=.fields #[.int 0 J.toks,.int n t,.int 1 (J.toks+1)] },toks:=J.toks+1+1 }:=EStep.pushed Y P.st.rel _ _;exact d8 (rF hr.1 (Y.estep Q) Q.st.rel ht (IsRange.new _ _ _ _ _ _ _) h0 hn q) (λ_ _ h=>ItPost.after (P.trans Q) h) λ_ _ e=>e
def SO(Γ:Cx)(d:Nat)(c:Option ME):Prop:=match c with|none=>True|some e=>ST Γ d e
theorem CQ{outer:aY}{f:Bool}{B:Option ME}{depth:Nat}{g₀:Comprehension}(hc:iO outer nm f (.one t it B) (gens.drop depth)=true)(G:gens[depth]?=some g₀):eO false nm t g₀.target=true/\Fg nm B g₀.ifs=true/\g₀.is_async=0/\gens[depth+1]?=none:=by refine af (mE hc) λg₁ e h=>?_;obtain⟨e1,e2⟩:=kC e;obtain rfl:=sm G e1;obtain h:=and_t h;obtain F:=and_t (and_t h.2).2;exact(mu h.1 F.1 (f8 F.2) (List.getElem?_eq_none (J3.mp e2)))
theorem Ag{outer:aY}{f:Bool}{r:Gens}{depth:Nat}{g₀:Comprehension}(hc:iO outer nm f (.more t it r) (gens.drop depth)=true)(G:gens[depth]?=some g₀):eO false nm t g₀.target=true/\g₀.ifs=[]/\g₀.is_async=0/\iO outer nm false r (gens.drop (depth+1))=true:=by
 rcases e:gens.drop depth with _|⟨g₁,gs⟩
 ·rw[e]at hc;exact ag hc
 ·rw[e]at hc;obtain⟨e1,e2⟩:=kC e;obtain rfl:=sm G e1;have h:=and_t hc;have B:=and_t (and_t h.2).2;have F:=and_t B.2;exact(mu h.1 (B0.mp B.1) (f8 F.1) (e2▸F.2))
theorem Fp{B:Option ME}{l:List Expr}(h:Fg nm B l=true):l.length<=1:=by
 rcases B with _|c
 ·rw[List.isEmpty_iff.mp h];exact m6 _
 ·refine on1_el (k:=λx=>aM nm c x) h λx _=>f7 _
theorem Gn{B:Option ME}(Io:SO Γ d B):SG Γ d (.one t it B):=by
 intro outer fst env ck gens sc pos depth c I A emit W src vs St g₀ l H H₀ s s₀ K R own₀ Lo oLo ad hLo hLH hLn hLW hc hg hr Z It F hW hW0 S0 st h hR;refine rT (CQ hc hg) λhct G ha hg'=>?_;refine AV ck (λJ O=>match g₀.ifs with
   | []=>sd (model Γ.prog Γ.w) A env c aD ck J O
   |x::_=>wpAny (model Γ.prog Γ.w) A (isTrue x env (eval x env)) (λok P=>if ok=true then sd (model Γ.prog Γ.w) A env c aD ck J P else J P) aD O) hr.1 (λh=>yP ck hg hg' ha (Fp G) h) It hct
  (lb:=l.drop (cZ t)) (stepW:=λl' H' k=>yV Γ.toSx d B l' H' λok H''=>if ok=true then emit l' H'' k else k H'') ?_ ad hLo hLH hLn hLW F hW hW0 S0 st h hR
 intro x l' H1 s1 k J hb F1 R1 an hP;have Q:∀(s':Shared)(H2:AH),k H2->EStep Γ env H1 H2 s1 s'->J s':=λs' H2 hk S=>hP s' H2 hk ((F1.estep S).mono (pQ hb λ_ h=>h)) S.st;revert G;rcases B with _|Y
 ·intro G;rw[List.isEmpty_iff.mp G];exact Z F1 R1 an Q
 ·intro G;refine on1_el (k:=λx=>aM env.scope.names Y x) G λy hy=>?_;refine d8 (Io hy F1 R1 hr an) (λok s2 h2=>?_) λ_ _ e=>e;refine af h2 λH2 h2 S2=>?_;cases ok with
  |true=>exact Z (F1.estep S2) S2.st.rel h2 λs' H3 hk S=>Q s' H3 hk (S2.trans S)
  |false=>exact Q s2 H2 h2 S2
theorem Dh(C:CxOK Γ.toSx){r:Gens}(Ir:SG Γ d r)(Ii:BD Γ d (zN r)):SG Γ d (.more t it r):=by
 intro outer fst env ck gens sc pos depth c I A emit W src vs St g₀ l H H₀ s s₀ K R own₀ Lo oLo av hLo hLH hLn hLW hc hg hr hem It F hW hW0 S0 st h hR;refine rT (Ag hc hg) λhct ar ha B=>?_;refine ph (kW B) λg' gs' eg ad zq6 J=>?_;obtain⟨t',an⟩:=zq6;have O:=(kC eg).1;refine AV ck (λQ a0=>wpAny (model Γ.prog Γ.w) A (eval g'.iter env) (λx a1=>wpAny (model Γ.prog Γ.w) A (pyIter x) (λit' a2 =>
   wpAny (model Γ.prog Γ.w) A (runOwn (.compStart (ck.ex gens sc pos) (depth+1) it' (.ref c) env) env) (λ_ a3=>Q a3) aD a2) aD a1) aD a0) hr.1 (λh=>yQ ck hg O ha ad ar (kY J) h) It hct
  (lb:=l.drop (cZ t++dG r)) (stepW:=λl' H' k=>Po Γ.toSx d r l' H' emit k) ?_ av hLo hLH hLn hLW F hW hW0 S0 st h hR
 intro x l' H1 s1 k Q hb F1 R1 hst hP;refine cb C.ns λ_ _ zq7 _=>?_;obtain⟨oG,_,_,G,_⟩:=zq7;refine d8 (pe Ii an J F1 R1 hr (GI hst)) (λxv s4 h4=>d8 h4 (λc' s5 h5=>?_) λ_ _ e=>e) λ_ _ e=>e;obtain⟨I',W',vs',src',St',H2,q,rfl,ax,P,Z,hn',hs',S⟩:=h5;refine wpAny_runOwn (lS ck O ad (P.self 0 s5 ax) ?_);have Y:H2 mainGlobals=none:=by
  rcases q:H2 mainGlobals with _|y
  ·rfl
  ·exact nn (S.st.rel.fresh _ _ q) G
 exact Ir (l:=l') (own₀:=λb=>b=env.locals) rfl (S.st.rel.base _ _ G) Y (λz=>nn F1.lB (z▸G)) (λz=>nn (Z.b _ z) G) B O hr hem P ((F1.estep S).mono λx u e=>by unfold Loc.drop at e;split at e;exact ns e;exact e) Z hn' S.st ax q λs' H' hk F' S' _ =>
  hP s' H' hk (F'.mono (pw (pQ hb λx hx=>l9.mpr (.inl hx)))) S'
noncomputable def GK:ME->Bool | .comp _ _=>true | .dcomp _ _ _=>true|_=>false
structure SB(Γ:Cx)(d:Nat)(e:ME):Prop where
 E:SE Γ d e
 T:ST Γ d e
 U:GK e=true->SU Γ d e
theorem jX{e:ME}(h:∀{loc:Loc}{H:AH}{Q:Bool->AH->Prop},yW Γ.toSx d e loc H Q->False):ST Γ d e:=by intro env x loc H s A Q hc F R B hw;exact(h hw).elim
theorem FU(C:CxOK Γ.toSx)(PO:∀p,aL Γ p)(e:ME):SB Γ d e :=
 ME.rec (motive_1:=SB Γ d) (motive_2:=λes=>ur Γ d es/\mQ Γ d es) (motive_3:=λg=>SG Γ d g/\BD Γ d (zN g)) (motive_4:=BD Γ d) (motive_5:=SO Γ d)
  (λ_=>⟨Ge,jX id,ag⟩) (λ_=>⟨Bc,Gu,ag⟩) (λ_=>⟨Dc C,jX id,ag⟩) (λ_ I=>⟨Gm I.1,jX id,ag⟩) (λ_ I=>⟨Gi I.1,jX id,ag⟩) (λ_ _ _ I=>⟨Gf I.2,jX id,ag⟩)
  (λ_ _ _ a b=>⟨Gd a.E b.E,jX id,ag⟩) (λ_ _ _ a b=>⟨CZ C a.E b.E,Do C a.E b.E,ag⟩) (λ_ _ _ _ _ a b c=>⟨Da C a.E b.E c.E,Dp C a.E b.E c.E,ag⟩) (λ_ _ a b=>⟨CX a.E b.E,Dm a.T b.T,ag⟩) (λ_ _ a b=>⟨Gk a.E b.E,Gs a.T b.T,ag⟩)
  (λ_ a=>⟨Dd a.E,Dr a.T,ag⟩) (λ_ _ _ c a b=>⟨Gh c.T a.E b.E,jX id,ag⟩) (λ_ _ a i=>⟨Gg C a.E i.E,jX id,ag⟩) (λ_ _ _ a=>⟨Gl C a.E,jX id,ag⟩) (λ_ _ a=>⟨CY C a.E,jX id,ag⟩) (λ_ _ e g=>⟨Db (xo C e.E g.1 g.2),jX id,λ_=>xo C e.E g.1 g.2⟩)
  (λ_ _ _ k v g=>⟨Bb (tW C k.E v.E g.1 g.2),jX id,λ_=>tW C k.E v.E g.1 g.2⟩) (λ_ _ I=>⟨xk C I.1,Dn C I.1,ag⟩) (λ_ _ I=>⟨Gj C I.1,jX id,ag⟩) (λ_ _ _ o I=>⟨xl C o.E I.1,Dq C o.E I.1,ag⟩) (λ_ _ a=>⟨De PO a.E,jX id,ag⟩)
  ⟨Dg,Gp⟩ (λ_ _ e r=>⟨Bk e.E r.1,Di e.E r.2⟩) (λ_ _ _ i c=>⟨Gn c,i⟩) (λ_ _ _ i r=>⟨Dh C r.1 r.2,i⟩)
  (λ_ e=>Bl e.E) (λ_ e=>Bm C e.E) (λ_ _ _ _=>λhc=>ag hc) trivial (λ_ e=>e.T) e
theorem sE(C:CxOK Γ.toSx)(PO:∀p,aL Γ p)(e:ME):SE Γ d e:=(FU C PO e).E
theorem sT(C:CxOK Γ.toSx)(PO:∀p,aL Γ p)(e:ME):ST Γ d e:=(FU C PO e).T
theorem RJ(C:CxOK Γ.toSx)(PO:∀p,aL Γ p)(it:MIt):BD Γ d it:=by
 cases it with
 |exp e=>exact Bl (sE C PO e)
 |rng e=>exact Bm C (sE C PO e)
 |_=>exactλhc=>ag hc
end
section
variable{loc':Loc}{line:Nat}
def Rx(sa:SX)(h:Heap):Flow->Fl->Prop
 | .next,.next=>True
 | .ret c,.ret v=>VR sa h v c
 |_,_=>False
abbrev SPost(Γ:Cx)(env:Env)(H:AH)(s:Shared)(K:Fl->Loc->AH->Prop)(f:Flow)(s':Shared):Prop :=∃fl loc' H',K fl loc' H'/\Rx Γ.sa s'.heap f fl/\Frame Γ env loc' H' s'.heap/\Step Γ (dw env) H H' s s'
section
variable{loc:Loc}{H:AH}{A:Around}{d:Nat}
theorem EStep.own(S:EStep Γ env H H' s s'):Step Γ (dw env) H H' s s':=S.st.weaken λb h=>.inl h
theorem SPost.after{H₀:AH}{f:Flow}(S:Step Γ (dw env) H₀ H s₀ s)(h:SPost Γ env H s K f s'):SPost Γ env H₀ s₀ K f s' :=
 let⟨fl,l,H',a,b,c,e⟩:=h;(md fl l H' a b c (S.trans e))
theorem SPost.next(q:K .next loc' H')(F:Frame Γ env loc' H' s'.heap)(S:Step Γ (dw env) H H' s s'):SPost Γ env H s K .next s':=(md .next loc' H' q trivial F S)
theorem il{t B:Expr}(h:nZ B=true):swapsWithSole [t] B line env=pure false:=by cases B <;> first|rfl|exact ag h
theorem gO{e:ME}{x:Expr}(h:aM nm e x=true)(hc:GK e=false):nZ x=true:=by unfold nZ;rw[iw h];cases e <;> first|rfl|exact ag hc.symm
theorem vQ{ck:CK}{p:Pos}:∃b,swapsWithSole [.Name id ip] (ck.ex gens sc p) line env=pure b:=by cases ck <;> exact⟨_,rfl⟩
theorem tT{ts:List Expr}{p:Pos}{B:Expr}(h:B.ctorIdx≠25):swappedStores [.Tuple ts k p] B env=pure none:=by cases B <;> first|rfl|exact absurd rfl h
theorem pH(ts es:List Expr)(k J:Nat)(p O:Pos)(env:Env)(G:es.all (constantsAlone 8)=false) : swappedStores [.Tuple ts k p] (.Tuple es J O) env=pure none\/∃line names,(ts.length=2\/ts.length=3)/\swappedStores [.Tuple ts k p] (.Tuple es J O) env=pure (some names) /\ names=ts.filterMap (λ| .Name id pos=>if env.kindOf id==some .local&&pos.line==line then some id else none|_=>none)/\names.length=ts.length/\names.eraseDups.length=names.length:=by
 unfold swappedStores;dsimp only;split
 ·exact .inl rfl
 ·rename_i B;split
  ·exact .inl rfl
  ·split
   ·exact .inl rfl
   ·rename_i F;split
    ·exact .inl rfl
    ·rw[if_neg (by rw[G];simp)];simp only[Bool.or_eq_true,bne_iff_ne,ne_eq,not_or,Decidable.not_not,Bool.not_eq_true',Bool.or_eq_false_iff,beq_eq_false_iff_ne]at B F;refine .inr (mN _ _ ?_ rfl rfl F.1 F.2);obtain P:=B.1.1;exact QQ B.1.1
theorem tB{c:Bool}(S:Step Γ (oo c env) H H' s s'):Step Γ (dw env) H H' s s':=S.weaken λb h=>mF h
theorem Gb(B:A.handled=none){ts:Tgts}{x:Expr}(hc:eO true env.scope.names (.tp ts) x=true){a:Addr}(F:Frame Γ env loc H s.heap)(R:Rel Γ H s.heap)(hl:H a=some (.list vs))(G:eD ts vs loc=some loc'){P:Unit->Shared->Prop}(Z:pJ Γ true env loc' H s P):wpAny (model Γ.prog Γ.w) A (assign x env (.ref a)) P aD s:=by refine onTuple_inv hc λes n p hk=>?_;refine cb (au R hl) λcvs n ho O=>?_;obtain m:=sK (env:=env) (jj hk);obtain hl:es.length=cvs.size:=(ji hk G).symm.trans (O.length.symm.trans P0);rw[assign_Tuple];refine ac (t7 ?_);unfold unpack;rw[m.1,m.2.1,m.2.2,hl];refine ac (l8 (kun_itemsOf B (bb _ ho rfl (mw n rfl)) λh' J=>?_));obtain S0:Step Γ (oo true env) H H s { s with heap:=h' }:=Step.extAt (t:=s.toks) R J;exact vB B ts es hk (s:={ s with heap:=h' }) (F.ext R J) S0.rel G (O.keep S0.tup) λs' Q Y=>Z s' Q (S0.trans Y)
theorem Ga(G:A.handled=none){t:Tgt}{x:Expr}(hc:eO true env.scope.names t x=true){v:V}{c:Value}(F:Frame Γ env loc H s.heap)(R:Rel Γ H s.heap)(B:gN H t v loc=some loc')(O:VR Γ.sa s.heap v c){P:Unit->Shared->Prop}(J:pJ Γ true env loc' H s P):wpAny (model Γ.prog Γ.w) A (assign x env c) P aD s:=by
 rcases t with y|ts
 ·exact tI G (.nm y) x hc F R B O J
 ·cases v with
  |ref a =>
   apply O.ref_el;replace B:(match H a with|some (.list vs)=>eD ts vs loc|_=>none)=some loc':=B;rcases e:H a with _|o
   ·rw[e]at B;exact jD B
   ·cases o with
    |list vs=>rw[e]at B;exact Gb G hc F R e B J
    |_=>rw[e]at B;exact jD B
  |tup vs=>exact tI G (.tp ts) x hc F R (v:=.tup vs) B O J
  |_=>exact jD B
theorem AM(l:Loc){x y:String}(u v:V)(h:x≠y):(l.put x u).put y v=(l.put y v).put x u:=by
 funext z;unfold Loc.put;by_cases B:z=y
 ·rw[if_pos B,if_pos B,if_neg λe=>h (e.symm.trans B)]
 ·rw[if_neg B,if_neg B]
noncomputable def eK:List String->List V->Loc->Loc
 |x::xs,v::vs,l=>eK xs vs (l.put x v)
 |_,_,l=>l
theorem ow{x:String}{v:V}:∀{xs:List String}{vs:List V}{l:Loc},x∉xs->eK xs vs (l.put x v)=(eK xs vs l).put x v
 | [],_,_,_=>rfl
 |_::_,[],_,_=>rfl
 |y::ys,w::ws,l,h=>by show eK ys ws ((l.put x v).put y w)=(eK ys ws (l.put y w)).put x v;rw[AM l v w λe:x=y=>h (e▸List.mem_cons_self)];exact ow λz=>h (d7 _ z)
theorem lO{x:String}{v:V}:∀{xs:List String}{vs:List V}{l:Loc},vs.length=xs.length->eK (xs++[x]) (vs++[v]) l=(eK xs vs l).put x v
 | [],[],_,_=>rfl
 |_::_,[],_,h=>Nat.noConfusion h
 | [],_::_,_,h=>Nat.noConfusion h
 |_::ys,_::ws,l,h=>lO (xs:=ys) (vs:=ws) (w2 h)
theorem ox:∀{xs:List String}{vs:List V}{l:Loc},xs.Nodup->vs.length=xs.length->eK xs.reverse vs.reverse l=eK xs vs l
 | [],[],_,_,_=>rfl
 |_::_,[],_,_,h=>nomatch h
 | [],_::_,_,_,h=>nomatch h
 |x::xs,v::vs,l,nd,h=>by obtain nd:=y0.mp nd;obtain h:=w2 h;rw[List.reverse_cons,List.reverse_cons,lO (by rw[List.length_reverse,List.length_reverse];exact h),ox nd.2 h];exact(ow nd.1).symm
theorem VRs.snoc{sa:SX}{cs:List Value}{v:V}{c:Value}(r:VRs sa h vs cs)(q:VR sa h v c):VRs sa h (vs++[v]) (cs++[c]):=r.append (VRs.one q)
theorem VRs.reverse{sa:SX}:∀{vs:List V}{cs:List Value},VRs sa h vs cs->VRs sa h vs.reverse cs.reverse
 | [],cs,r=>by rw[r.nil_inv];exact .nil
 |v::vs,cs,r=>by refine bw r.cons_inv λc r' aP a b=>?_;subst aP;rw[List.reverse_cons,List.reverse_cons];exact b.reverse.snoc a
theorem xg(Y:A.handled=none):∀{xs:List String}{vs:List V}{cs:List Value}{loc:Loc}{s:Shared}{P:Unit->Shared->Prop},(∀x∈xs,Hp true env.scope.names x=true)->VRs Γ.sa s.heap vs cs->vs.length=xs.length->Frame Γ env loc H s.heap->Rel Γ H s.heap->pJ Γ true env (eK xs vs loc) H s P -> wpAny (model Γ.prog Γ.w) A (assignInOrder (xs.map λx=>bindName env (Str.ofString x)) cs) P aD s
 | [],[],cs,loc,s,P,_,r,_,F,R,G=>by rw[r.nil_inv];exact a9 (G s F (Step.refl R))
 |_::_,[],_,_,_,_,_,_,h,_,_,_=>nomatch h
 | [],_::_,_,_,_,_,_,_,h,_,_,_=>nomatch h
 |x::xs,v::vs,cs,loc,s,P,hs,r,h,F,R,G=>by refine bw r.cons_inv λc r' bx a b=>?_;subst bx;exact ac (l8 (wpAny_bindName (xh F R (hs x d6) a λs1 J B=>xg Y (λy Z=>hs y (d7 _ Z)) (b.keep B.tup) (w2 h) J B.rel λs2 O Q=>G s2 O (B.trans Q))))
noncomputable def iB(env:Env)(line:Nat):Expr->Option Str | .Name id pos=>if env.kindOf id==some .local&&pos.line==line then some id else none|_=>none
theorem th:∀{ts:Tgts}{es:List Expr},nc true env.scope.names ts es=true->(es.filterMap (iB env line)).length=es.length -> ∃xs:List String,es.filterMap (iB env line)=xs.map Str.ofString/\(∀x∈xs,Hp true env.scope.names x=true)/\∀{vs:List V}{l l':Loc},eD ts vs l=some l'->l'=eK xs vs l/\vs.length=xs.length
 | .nil,es,hc,hl=>by
  cases es with
  |cons _ _=>exact ag hc
  |nil =>
   refine(bb ([]) rfl (λ_ h=>absurd h i6) (λ{vs l l'} B=>?_));rcases vs with _|⟨_,_⟩
   ·exact⟨(c9 B).symm,rfl⟩
   ·exact jD B
 | .cons t ts,es,hc,hl=>by
  rcases es with _|⟨e,es⟩
  ·exact ag hc
  ·obtain hc:=and_t hc;rw[List.filterMap_cons]at hl ⊢;obtain F:=List.length_filterMap_le (iB env line) es;cases t with
   |tp O =>revert hl;refine onTuple_inv hc.1 λxs k p _ hl=>?_;exact absurd hl (n9 (C8 F))
   |nm x =>
    revert hl;refine onName_inv hc.1 λid p hk hl=>?_;obtain hk:=and_t hk;obtain rfl:=u5 hk.1;rcases q:(env.kindOf (Str.ofString x)==some .local&&p.line==line)with _|_
    ·replace q:iB env line (.Name (Str.ofString x) p)=none:=if_neg (by rw[q];exact n7);rw[q]at hl;exact absurd hl (n9 (C8 F))
    ·obtain q:iB env line (.Name (Str.ofString x) p)=some (Str.ofString x):=if_pos q;rw[q]at hl ⊢;refine cL (th hc.2 (w2 hl)) λxs e1 e2 G=>?_;refine(bb (x::xs) (j6 (Str.ofString x::·) e1) (λy J=>(i8.mp J).elim (λe=>e▸hk.2) (e2 y)) (λ{vs l l'} B=>?_));rcases vs with _|⟨v,vs⟩
     ·exact jD B
     ·exact(G (show eD ts vs (l.put x v)=some l' from B)).imp id (j6 (· + 1))
theorem DE:∀(n:Nat){l:List Str},l.length<=n->l.eraseDups.length<=l.length
 |_,[],_=>f7 _
 |n+1,a::l,h=>by rw[List.eraseDups_cons];have B:=p8 (λb=>!b==a) l;exact t8 (b8 (DE n (b8 B (I5 h))) B)
theorem tm:∀{l:List Str},l.eraseDups.length=l.length->l.Nodup
 | [],_=>s9
 |a::l,h=>by rw[List.eraseDups_cons]at h;have h:=w2 h;obtain G:=p8 (λb=>!b==a) l;obtain J:=DE _ (f7 (l.filter λb=>!b==a).length);obtain O:(l.filter λb=>!b==a).length=l.length:=f6 G (h▸J);have F:=List.length_filter_eq_length_iff.mp O;rw[List.filter_eq_self.mpr F]at h;exact y0.mpr ⟨λhm=>by obtain B:=F a hm;rw[beq_self_eq_true]at B;exact ag B,tm h⟩
theorem yG(G:A.handled=none){ts:Tgts}{es:List Expr}(hc:nc true env.scope.names ts es=true){c:Value}(F:Frame Γ env loc H s.heap)(R:Rel Γ H s.heap)(hb:eD ts vs loc=some loc')(rv:VR Γ.sa s.heap (.tup vs) c){names:List Str}(hn:names=es.filterMap (iB env line))(hl:names.length=es.length)(hd:names.Nodup){P:Unit->Shared->Prop}(hP:pJ Γ true env loc' H s P) : wpAny (model Γ.prog Γ.w) A (do let items <- unpackItems c names.length none;assignInOrder (names.reverse.map λn=>bindName env n) items.reverse) P aD s:=by
 subst hn;refine cL (th hc hl) λxs e1 e2 Z=>?_;obtain⟨rfl,hv⟩:=Z hb;apply rv.tup_el;intro ad cvs ht O;rw[e1]at hd ⊢;rw[List.length_map,<- hv,<- O.length,Array.length_toList];refine ac (wpAny_unpackItems_tuple G ht λh' J=>?_);obtain S0:Step Γ (oo true env) H H s { s with heap:=h' }:=Step.extAt (t:=s.toks) R J;rw[<- List.map_reverse,List.map_map];have B:xs.Nodup:=by unfold List.Nodup at hd ⊢;rw[List.pairwise_map]at hd;exact hd.imp λh e=>h (j6 Str.ofString e)
 exact xg G (s:={ s with heap:=h' }) (λx hx=>e2 x (M5.mp hx)) (O.keep S0.tup).reverse (by rw[List.length_reverse,List.length_reverse,hv]) (F.ext R J) S0.rel λs' Q Y=>hP s' (ox B hv▸Q) (S0.trans Y)
end
end
section
variable{loc:Loc}{H:AH}{A:Around}{d:Nat}
theorem Fs{H2:AH}{B:Shared}{L:Addr}{loc':Loc}(R:Rel Γ H s.heap)(S5:Step Γ (λb=>dw env b\/b=L) H H2 s B)(F:Frame Γ env loc' H2 B.heap)(hL:s.heap.get? L=none)(nL:env.locals≠L)(P:∀n c,env.cells.lookup n=some c->c≠L)(hH:H2 L=none){m:Str->Option Value}(hn:B.heap.Ns L m){h':Heap}(sb:Heap.SameBut L B.heap h'):Frame Γ env loc' H2 h'/\Step Γ (dw env) H H2 s { B with heap:=h' }:=by
 have S:Step Γ (dw env) H H2 s B:=S5.fresh λb O=>O.imp id (by rintro rfl;exact hL);have tk:TupKeep Γ.sa B.heap h':=λb o _ e hc hd=>(sb.2 b λz=>by subst z;refine rY hd λxs n hd=>?_;refine GN hn λo' _ _ e' Q _=>?_;obtain rfl:=sm e e';rw[hd]at Q;cases Q).trans e
 have ne:∀b,s.heap.get? b≠none->b≠L:=λb h z=>h (z▸hL);have live:∀b,s.heap.get? b≠none->h'.get? b≠none:=λb h=>sb.2 b (ne b h)▸S.live b h;refine⟨⟨F.kind,F.glob,F.blt,?_,F.lH,F.lB,F.above,λn c e=>?_,λx v e q=>?_,F.hasCell,F.apart⟩,
  ⟨S.gens,S.os,λb o e O ho=>(sb.2 b (ne b (HB e))).trans (S.keep b o e O ho),S.dom,S.mono,live,S.tup.trans tk,⟨λb o e=>(sb.2 b (ne b (HB (R.base b o e)))).trans (S.rel.base b o e),S.rel.fresh,λa o e=>?_,λb O=>live b (R.ex b O)⟩⟩⟩
 ·refine af F.ns λm' aP hm=>?_;obtain⟨o,es,ep,e,r⟩:=aP;refine⟨m',(yX o es ep ((sb.2 _ nL).trans e) r),λx v e q=>?_⟩;obtain⟨cv,G,J⟩:=hm x v e q;exact(aa cv G (J.keep tk))
 ·refine jg (F.cell n c e) λG J bx=>?_;refine cb bx λcv o Y Z=>?_;exact(da G J (fA cv o ((sb.2 _ (P n c e)).trans Y) Z))
 ·refine bw (F.cellv x v e q) λc cv G bK Z=>?_;obtain⟨o,J,Y⟩:=bK;exact(bc c cv G (aa o ((sb.2 _ (P _ _ G)).trans J) Y) (Z.keep tk))
 ·refine af (S.rel.obj a o e) λob G J=>?_;exact(aa ob ((sb.2 a λz=>nn hH (z▸e)).trans G) (J.keep tk))
theorem Ds(hA:A.handled=none){x:String}(hy:eO true env.scope.names (.nm x) (.Name id ip)=true)(F:Frame Γ env loc H s.heap)(R:Rel Γ H s.heap){Q:V->AH->Prop}(q:∀v H1,Q v H1->∃l',gN H1 (.nm x) v loc=some l'/\K .next l' H1){P:Value->Shared->Prop}(hP:∀c s',SPost Γ env H s K .next s'->P c s'):mx Γ env A H s Q (some λv=>assignAll v ((assignEach [.Name id ip] env).map (·.2))) P:=by
 intro D L H3 O hq Y Z hL nL hH hm;obtain⟨m,hm⟩:=hm;refine af (q _ _ hq) λl' J hk=>?_;have B:∀n c,env.cells.lookup n=some c->c≠L:=λn c e z=>by refine jg (F.cell n c e) λ_ _ cC=>?_;refine cb cC λ_ o e' _=>?_;exact nn hL (z▸e')
 obtain F5:Frame Γ env loc H3 O.heap:=F.step Y Z λn c e z=>z.elim (λz=>F.cell_ne e z) λz=>B n c e z;refine tI hA (.nm x) _ hy F5 Y.rel J (VR.ref' _) λs6 F6 S6=>?_;have G:s6.heap.Ns L m:=by refine pj hm λo es ep e r=>?_;refine(yX o es ep (S6.keep L o e hH λz=>z.elim (λz=>nL z.symm) λz=>?_) r);refine bQ z λ_ dj=>?_;refine bR dj λn hn=>?_;exact B n L hn rfl
 refine(aa m G (λh' sb=>?_));refine bQ (Fs (loc':=l') R ((Y.weaken λb J=>J.imp Or.inl λz=>z).trans (S6.weaken λb J=>.inl (mF J))) F6 hL nL B hH G sb) λF7 S7=>?_;exact hP _ _ (SPost.next hk F7 S7)
theorem gM{e:ME}{y x:Expr}(I:SE Γ d e)(Y:aM env.scope.names e x=true)(F:Frame Γ env loc H s.heap)(R:Rel Γ H s.heap)(P:Room A d)(hw:swapsWithSole [y] x pos.line env=pure false)(hs:swappedStores [y] x env=pure none)(O:∀v,assignAll v ((assignEach [y] env).map (·.2))=assign y env v){Q:V->AH->Prop}(h:aS Γ.toSx d e loc H Q)(k:∀v H1 c B,Q v H1->VR Γ.sa B.heap v c->EStep Γ env H H1 s B->wpAny (model Γ.prog Γ.w) A (assign y env c) (λ_ G=>SPost Γ env H s K .next G) aD B):wpAny (model Γ.prog Γ.w) A (exec (.Assign [y] x pos) env) (SPost Γ env H s K) aD s:=by rw[exec_Assign_arm];refine ac (t7 ?_);rw[hw];refine ac (a9 ?_);rw[if_neg (by decide)];refine ac (aX (I Y F R P h) λv H1 c B q Z J=>?_);rw[hs];refine ac (a9 ?_);show wpAny _ _ (do assignAll c ((assignEach [y] env).map (·.2));pure Flow.next) _ _ _;rw[O];exact ac (d8 (k v H1 c B q Z J) (λ_ G h=>a9 h) λ_ _ e=>e)
theorem uA(Q:A.handled=none){t:Tgt}{y:Expr}(Z:eO true env.scope.names t y=true)(F:Frame Γ env loc H s.heap)(v:V)(H1:AH)(c:Value)(G:Shared)(q:∃l',gN H1 t v loc=some l'/\K .next l' H1)(r1:VR Γ.sa G.heap v c)(B:EStep Γ env H H1 s G) : wpAny (model Γ.prog Γ.w) A (assign y env c) (λ_ J=>SPost Γ env H s K .next J) aD G:=by refine af q λl' Y hk=>?_;exact Ga Q Z (F.estep B) B.st.rel Y r1 λJ O P=>SPost.next hk O (B.own.trans (tB P))
theorem mU{p:Pos}(v:Value):assignAll v ((assignEach [.Name id p] env).map (·.2))=assign (.Name id p) env v:=rfl
theorem qK{e:ME}{x:Expr}(h:aM nm e x=true)(hc:GK e=true):∃ck gens sc p,x=CK.ex gens sc p ck:=by
 cases e with
 |comp a g=>exact onListComp_inv h λy gens sc p _=>(Re (.list y) gens sc p rfl)
 |dcomp a b g=>exact onDictComp_inv h λy z gens sc p _=>(Re (.dict y z) gens sc p rfl)
 |_=>exact ag hc
theorem BK(B:∀e,SB Γ d e){x:String}{e:ME}{v:Expr}(O:eO true env.scope.names (.nm x) (.Name id ip)=true)(J:aM env.scope.names e v=true)(F:Frame Γ env loc H s.heap)(R:Rel Γ H s.heap)(G:Room A d)(h:aS Γ.toSx d e loc H λv H1=>∃l',gN H1 (.nm x) v loc=some l'/\K .next l' H1):wpAny (model Γ.prog Γ.w) A (exec (.Assign [.Name id ip] v pos) env) (SPost Γ env H s K) aD s:=by
 rcases hc:GK e with _|_
 ·exact gM (B e).E J F R G (il (gO J hc)) rfl mU h (uA G.1 O F)
 ·refine Pw (qK J hc) λck gens sc p Q=>?_;subst Q;obtain⟨b,Y⟩:=vQ (env:=env) (id:=id) (ip:=ip) (ck:=ck) (gens:=gens) (sc:=sc) (p:=p) (line:=pos.line);rcases b with _|_
  ·exact gM (B e).E J F R G Y rfl mU h (uA G.1 O F)
  ·rw[exec_Assign_arm];refine ac (t7 ?_);rw[Y];refine ac (a9 ?_);rw[if_pos rfl];refine ac ?_;have U:=(B e).U hc J F R G h (Ds G.1 O F R (P:=λc s'=>wpAny (model Γ.prog Γ.w) A (pure ()) (λ_ s'=>wpAny (model Γ.prog Γ.w) A (pure Flow.next) (SPost Γ env H s K) aD s') aD s') (λv H1 q=>q) λc s' h'=>a9 (a9 h'));rcases ck with y|⟨y,z⟩
   ·exact ac U
   ·exact ac U
theorem EW(B:∀e,SB Γ d e){ts:Tgts}{e:ME}{es:List Expr}{v:Expr}(hy:eO true env.scope.names (.tp ts) (.Tuple es k ip)=true)(J:aM env.scope.names e v=true)(G:Bt (.Tuple es k ip) v=true)(F:Frame Γ env loc H s.heap)(R:Rel Γ H s.heap)(Z:Room A d)(h:aS Γ.toSx d e loc H λv H1=>∃l',gN H1 (.tp ts) v loc=some l'/\K .next l' H1):wpAny (model Γ.prog Γ.w) A (exec (.Assign [.Tuple es k ip] v pos) env) (SPost Γ env H s K) aD s:=by
 have hw:swapsWithSole [.Tuple es k ip] v pos.line env=pure false:=by
  rcases hc:GK e with _|_
  ·exact il (gO J hc)
  ·refine Pw (qK J hc) λck gens sc p zq7=>?_;subst zq7;cases ck <;> rfl
 have plain:swappedStores [.Tuple es k ip] v env=pure none->wpAny (model Γ.prog Γ.w) A (exec (.Assign [.Tuple es k ip] v pos) env) (SPost Γ env H s K) aD s:=λhs=>gM (B e).E J F R Z hw hs (λ_=>rfl) h (uA Z.1 hy F);by_cases O:v.ctorIdx=25
 ·cases e with
  |tup mes =>
   revert G hw plain;have hx2:=J;revert hx2;refine onTuple_inv J λxs k' p' _ J G hw plain=>?_;have hns:xs.all (constantsAlone 8)=false:=by
    have G:(!xs.all (constantsAlone 8))=true:=G;rcases q:xs.all (constantsAlone 8)with _|_
    ·rfl
    ·rw[q]at G;exact ag G
   rcases pH es xs k k' ip p' env hns with hs|⟨line,names,hl,hs,hn,Q,hd⟩
   ·exact plain hs
   ·rw[exec_Assign_arm];refine ac (t7 ?_);rw[hw];refine ac (a9 ?_);rw[if_neg (by decide)];refine ac (aX (R:=λv H1=>match v with | .tup vs=>∃l',eD ts vs loc=some l'/\K .next l' H1|_=>False) ((B (.tup mes)).E J F R Z h) λv H1 c s1 h1 r1 S1=>?_);obtain⟨vs,rfl⟩:∃vs,v=.tup vs:=by cases v <;> first|exact⟨_,rfl⟩|exact h1.elim
    refine af h1 λl' hb hk=>?_;rw[hs];refine ac (a9 ?_);show wpAny _ _ (do rule "assign.swapped-stores";let items <- unpackItems c names.length none;assignInOrder (names.reverse.map λn=>bindName env n) items.reverse;pure Flow.next) _ _ _;refine ac (y3 ?_);obtain Y:=yG Z.1 hy (F.estep S1) S1.st.rel hb r1 hn Q (tm hd) (P:=λ_ s'=>SPost Γ env H s K .next s') λs2 F2 S2=>SPost.next hk F2 (S1.own.trans (tB S2));obtain hre:(do let items <- unpackItems c names.length none;assignInOrder (names.reverse.map λn=>bindName env n) items.reverse;pure .next:Sem Flow)=(do(do let items <- unpackItems c names.length none;assignInOrder (names.reverse.map λn=>bindName env n) items.reverse);pure .next):=by simp only[bind_assoc]
    rw[hre];exact ac (d8 Y (λ_ s2 h2=>a9 h2) λ_ _ e=>e)
  |_=>exact ag (z5.mpr ((iw J).symm.trans O))
 ·exact plain (tT O)
theorem QZ(B:∀e,SB Γ d e){t:Tgt}{e:ME}{y x:Expr}(J:eO true env.scope.names t y=true)(Q:aM env.scope.names e x=true)(G:Bt y x=true)(F:Frame Γ env loc H s.heap)(R:Rel Γ H s.heap)(P:Room A d)(h:aS Γ.toSx d e loc H λv H1=>∃l',gN H1 t v loc=some l'/\K .next l' H1):wpAny (model Γ.prog Γ.w) A (exec (.Assign [y] x pos) env) (SPost Γ env H s K) aD s:=by
 have O:=J;revert O G;rcases t with z|ts
 ·exact onName_inv J λid p _ _ J=>BK B J Q F R P h
 ·exact onTuple_inv J λes k p _ G J=>EW B J Q G F R P h
end
section
variable{loc:Loc}{H:AH}{A:Around}{d:Nat}
noncomputable def Cx.wide(Γ:Cx)(X':Addr->Prop)(B:∀b,X' b->Γ.base.get? b=none):Cx:=⟨Γ.toSx,X',B⟩
mutual
theorem VR.wide{sa:SX}(hX:∀b,X' b->sa.X b\/h.get? b=none):∀{v:V}{c:Value},VR sa h v c->VR ⟨sa.a,X'⟩ h v c
 | .none,_,x=>by unfold VR at *;exact x
 | .scr,_,x=>by unfold VR at *;exact x
 | .bool _,_,x=>by unfold VR at *;exact x
 | .int _,_,x=>by unfold VR at *;exact x
 | .str _,_,x=>by unfold VR at *;exact x
 | .ref _,_,x=>by unfold VR at *;exact x
 | .tup vs,_,x=>by unfold VR at *;refine rV x λa cvs n e nx aP F=>?_;obtain⟨o,B,r⟩:=aP;exact(md a cvs n e (λz=>(hX _ z).elim nx λq=>by rw[B]at q;exact sn q) (aa o B r) (VRs.wide hX F))
theorem VRs.wide{sa:SX}(hX:∀b,X' b->sa.X b\/h.get? b=none):∀{vs:List V}{cs:List Value},VRs sa h vs cs->VRs ⟨sa.a,X'⟩ h vs cs
 | [],_,x=>by unfold VRs at *;exact x
 |v::vs,_,x=>by unfold VRs at *;refine bw x λc cs e a b=>?_;exact(bc c cs e (VR.wide hX a) (VRs.wide hX b))
end
def ForPost(Γ:Cx)(env:Env)(loc:Loc)(A:Around)(tgt:Expr)(H:AH)(s:Shared)(K:rX->List V->AH->Prop)(c:Value)(s':Shared):Prop :=
 ∃(X':Addr->Prop)(B:∀b,X' b->Γ.base.get? b=none),(∀b,Γ.X b->X' b)/\(∀b,X' b->Γ.X b\/s.heap.get? b=none) /\
 ∃I W vs src St H',K src vs H'/\c=.ref I/\St 0 s'.heap/\Iter ⟨Γ.toSx,X',B⟩ A I W tgt src vs St/\WOK ⟨Γ.toSx,X',B⟩ env H' W/\(∀b,W b->s.heap.get? b=none)/\di src H'/\EStep Γ env H H' s s'/\Rel ⟨Γ.toSx,X',B⟩ H' s'.heap/\Frame ⟨Γ.toSx,X',B⟩ env loc H' s'.heap
theorem ForPost.of{K:rX->List V->AH->Prop}{c:Value}(F:Frame Γ env loc H s.heap)(h:ItPost Γ env A tgt H s K c s'):ForPost Γ env loc A tgt H s K c s':=by obtain⟨I,W,vs,src,St,H',a,b,G,B,J,O,hs,S⟩:=h;exact⟨Γ.X,Γ.hX,λ_ h=>h,λ_ h=>.inl h,I,W,vs,src,St,H',a,b,G,B,J,O,hs,S,S.st.rel,F.estep S⟩
theorem Frame.less{J:∀b,X' b->Γ.base.get? b=none}(hX:∀b,Γ.X b->X' b)(F:Frame ⟨Γ.toSx,X',J⟩ env loc H h):Frame Γ env loc H h:=by
 refine⟨F.kind,F.glob,F.blt,?_,F.lH,F.lB,F.above,F.cell,λx v e k=>?_,F.hasCell,F.apart⟩
 ·refine af F.ns λm P hm=>?_;exact(aa m P (λx v e k=>by refine af (hm x v e k) λcv B G=>?_;exact(aa cv B (VR.less (sa:=⟨Γ.sad,X'⟩) hX G))))
 ·refine bw (F.cellv x v e k) λc cv B G O=>?_;exact(bc c cv B G (VR.less (sa:=⟨Γ.sad,X'⟩) hX O))
theorem ER.less{B:∀b,X' b->Γ.base.get? b=none}(hX:∀b,Γ.X b->X' b):∀{kvs:List (V×V)}{es:List DictEntry},ER ⟨Γ.toSx,X',B⟩ h kvs es->ER Γ h kvs es
 | [],_,x=>x
 |(_,_)::_,_,x=>by refine rU x λe es bx a b c d=>?_;subst bx;exact(mN e es rfl (VR.less (sa:=⟨Γ.sad,X'⟩) hX a) b (VR.less (sa:=⟨Γ.sad,X'⟩) hX c) (ER.less hX d))
theorem ORel.less{B:∀b,X' b->Γ.base.get? b=none}(hX:∀b,Γ.X b->X' b){ob:Obj}{x:AO}(r:ORel ⟨Γ.toSx,X',B⟩ h ob x):ORel Γ h ob x:=by
 unfold ORel at *;rcases x with vs|kvs|⟨c,dx⟩
 ·refine cb r λcvs n e r=>?_;exact(fA cvs n e (VRs.less (sa:=⟨Γ.sad,X'⟩) hX r))
 ·refine bw r λes n e r q=>?_;exact(bc es n e (ER.less hX r) q)
 ·exact r
theorem Rel.less{B:∀b,X' b->Γ.base.get? b=none}(hX:∀b,Γ.X b->X' b)(R:Rel ⟨Γ.toSx,X',B⟩ H h):Rel Γ H h :=⟨R.base,R.fresh,λa o e=>by refine af (R.obj a o e) λob F G=>?_;exact(aa ob F (ORel.less hX G)),λb J=>R.ex b (hX b J)⟩
theorem Frame.wide{J:∀b,X' b->Γ.base.get? b=none}(hX:∀b,X' b->Γ.X b\/h.get? b=none)(F:Frame Γ env loc H h):Frame ⟨Γ.toSx,X',J⟩ env loc H h:=by
 refine⟨F.kind,F.glob,F.blt,?_,F.lH,F.lB,F.above,F.cell,λx v e k=>?_,F.hasCell,F.apart⟩
 ·refine af F.ns λm P hm=>?_;exact(aa m P (λx v e k=>by refine af (hm x v e k) λcv B G=>?_;exact(aa cv B (VR.wide (sa:=Γ.sa) hX G))))
 ·refine bw (F.cellv x v e k) λc cv B G O=>?_;exact(bc c cv B G (VR.wide (sa:=Γ.sa) hX O))
theorem ER.wide{B:∀b,X' b->Γ.base.get? b=none}(hX:∀b,X' b->Γ.X b\/h.get? b=none):∀{kvs:List (V×V)}{es:List DictEntry},ER Γ h kvs es->ER ⟨Γ.toSx,X',B⟩ h kvs es
 | [],_,x=>x
 |(_,_)::_,_,x=>by refine rU x λe es bK a b c d=>?_;subst bK;exact(mN e es rfl (VR.wide (sa:=Γ.sa) hX a) b (VR.wide (sa:=Γ.sa) hX c) (ER.wide hX d))
theorem ORel.wide{B:∀b,X' b->Γ.base.get? b=none}(hX:∀b,X' b->Γ.X b\/h.get? b=none){ob:Obj}{x:AO}(r:ORel Γ h ob x):ORel ⟨Γ.toSx,X',B⟩ h ob x:=by
 unfold ORel at *;rcases x with vs|kvs|⟨c,dx⟩
 ·obtain⟨cvs,n,e,r⟩:=r;exact(fA cvs n e (VRs.wide (sa:=Γ.sa) hX r))
 ·refine bw r λes n e r q=>?_;exact(bc es n e (ER.wide hX r) q)
 ·exact r
theorem yC(hA:A.handled=none){W:Addr->Prop}{St:Nat->Heap->Prop}(It:Iter Γ A I W tgt src vs St){t:Tgt}(hct:eO true env.scope.names t tgt=true){body:List Stmt}{stepW:Loc->AH->(Fl->Loc->AH->Prop)->Prop}(ad:∀{l':Loc}{H1:AH}{s1:Shared}{k:Fl->Loc->AH->Prop},Frame Γ env l' H1 s1.heap->Rel Γ H1 s1.heap->stepW l' H1 k->wpAny (model Γ.prog Γ.w) A (execs body env) (SPost Γ env H1 s1 k) aD s1){H₀:AH}(F:Frame Γ env loc H s.heap)(Z:WOK Γ env H W)(hW0:∀b,W b->s₀.heap.get? b=none)(S0:Step Γ (dw env) H₀ H s₀ s)(st:St 0 s.heap){K:Fl->Loc->AH->Prop}(h:mh src (λx l H' k=>∃l',bm t x l=some l'/\stepW l' H' k) vs loc H K){R:Result->Shared->Prop}(hR:∀f s',SPost Γ env H₀ s₀ K f s'->R (.ok f) s') : codeAny (model Γ.prog Γ.w) A (.forLoop tgt (.ref I) body [] env) R s:=by
 let Inv:Nat->Shared->Prop:=λn s=>∃i l H,n=vs.length-i/\i<=vs.length/\mh src (λx l H' k=>∃l',bm t x l=some l'/\stepW l' H' k) (vs.drop i) l H K/\Frame Γ env l H s.heap/\WOK Γ env H W/\Step Γ (dw env) H₀ H s₀ s/\St i s.heap
 refine codeAny_forLoop_any Inv (λn s hI=>?_) vs.length (Rs 0 loc H (by rfl) (m6 _) h F Z S0 st);refine RP hI λi l H cC hi hf F Z S0 st=>?_;subst cC;rcases e:vs.drop i with _|⟨x,rest⟩
 ·rw[e]at hf;have hil:i=vs.length:=by obtain Y:=J3.mp e;exact OK hi Y
  subst hil;refine d8 (wq It F S0.rel Z hW0 S0 hf.1 st (P:=λs'=>Frame Γ env l H s'.heap/\Step Γ (dw env) H₀ H s₀ s') λs' F' S' k=>⟨F',S'⟩) (λr s' h'=>?_) λ_ _ e=>e.elim;refine jg h' λdj F' S'=>?_;subst dj;exact N8 (hR _ _ (SPost.next hf.2 F' S'))
 ·rw[e]at hf;obtain⟨hs,l',G,hst⟩:=hf;have hx:vs[i]?=some x:=by
   obtain Y:(vs.drop i)[0]?=some x:=by rw[e];rfl
   rwa [K5,Q0]at Y
  have hlt:i<vs.length:=(f9.mp hx).1;have an:vs.drop (i+1)=rest:=by rw[<- List.tail_drop,e];rfl
  refine d8 (wr (cl:=true) hA It F S0.rel Z hs st hx hct G (P:=λB=>wpAny (model Γ.prog Γ.w) A (execs body env) (λf B=>match f with
      | .next | .cont=>∃m,m<vs.length-i/\Inv m B
      | .brk=>R (.ok .next) B
      | .ret v=>R (.ok (.ret v)) B) aD B) λB F₃ O Q=>?_) (λr s₁ h₁=>?_) λ_ _ e=>e.elim
  ·refine d8 (ad F₃ O.rel hst) (λf s4 h4=>?_) λ_ _ e=>e;refine rV h4 λfl l4 H4 hk J F4 S4=>?_;obtain W4:WOK Γ env H4 W:=(Z.step O λb G=>It.lw _ _ st b G).step S4 λb G=>It.lw _ _ Q b G;have S04:Step Γ (dw env) H₀ H4 s₀ s4:=by obtain a1:Step Γ (λb=>dw env b\/W b) H₀ H s₀ s:=S0.weaken λb G=>.inl G;obtain a2:Step Γ (λb=>dw env b\/W b) H H s B:=O.weaken λb G=>G.imp mF id;obtain a3:Step Γ (λb=>dw env b\/W b) H H4 B s4:=S4.weaken λb G=>.inl G;exact((a1.trans a2).trans a3).fresh λb G=>G.imp id (hW0 b)
   rcases fl with _|v
   ·cases f with
    |next =>refine(aa (vs.length-(i+1)) (OL hlt) (Rs (i+1) l4 H4 rfl (FL hlt) (by rw[an];exact hk) F4 W4 S04 ?_));exact It.frame _ _ _ Q (λb o G e=>S4.keep b o e ((Z.step O λb G=>It.lw _ _ st b G).h b G) λz=>z.elim (λz=>Z.l (z▸G)) λ⟨n,hn⟩=>Z.c n b hn G) S4.tup
    |ret _=>exact J.elim
    |brk=>exact J.elim
    |cont=>exact J.elim
   ·cases f with
    |ret c=>exact hR _ _ (md (.ret v) l4 H4 hk J F4 S04)
    |next=>exact J.elim
    |brk=>exact J.elim
    |cont=>exact J.elim
  ·obtain⟨c',rfl,h₁⟩:=h₁;exact d8 h₁ (λ_ s2 h2=>d8 h2 (λ_ s3 h3=>d8 h3 (λ_ _ h=>h) λ_ _ e=>e.elim) λ_ _ e=>e.elim) λ_ _ e=>e.elim
end
def GS(Γ:Cx):Prop:=∀(it:MIt){env:Env}{x tgt:Expr}{loc:Loc}{H:AH}{s:Shared}{A:Around}{d:Nat}{K:rX->List V->AH->Prop},zz env.scope.names it x=true->cf tgt=true->nA it tgt=true->Frame Γ env loc H s.heap->Rel Γ H s.heap->Room A d->mr Γ.toSx d it loc H K ->
  wpAny (model Γ.prog Γ.w) A (eval x env) (λB s₁=>wpAny (model Γ.prog Γ.w) A (pyIter B) (ForPost Γ env loc A tgt H s K) aD s₁) aD s
abbrev vW:Prop:=∀(Γ:Cx),CxOK Γ.toSx->∀p,aL Γ p
abbrev BF:Prop:=∀(Γ:Cx),CxOK Γ.toSx->GS Γ
section
variable{loc:Loc}{H:AH}{A:Around}{d:Nat}
theorem Step.wide{own:Addr->Prop}{B:∀b,X' b->Γ.base.get? b=none}(hX:∀b,Γ.X b->X' b)(S:Step Γ own H H' s s')(R:Rel ⟨Γ.toSx,X',B⟩ H' s'.heap):Step ⟨Γ.toSx,X',B⟩ own H H' s s' :=⟨S.gens,S.os,S.keep,S.dom,S.mono,S.live,(λb o nx e=>S.tup b o (λz=>nx (hX b z)) e),R⟩
theorem Step.less{own:Addr->Prop}{F:∀b,X' b->Γ.base.get? b=none}(hX:∀b,Γ.X b->X' b)(B:∀b,X' b->Γ.X b\/s.heap.get? b=none)(S:Step ⟨Γ.toSx,X',F⟩ own H H' s s'):Step Γ own H H' s s' :=⟨S.gens,S.os,S.keep,S.dom,S.mono,S.live,(λb o nx e=>S.tup b o (λz=>(B b z).elim nx λq=>by rw[e]at q;exact sn q) e),S.rel.less hX⟩
theorem SPost.less{f:Flow}{G:∀b,X' b->Γ.base.get? b=none}(hX:∀b,Γ.X b->X' b)(B:∀b,X' b->Γ.X b\/s.heap.get? b=none)(h:SPost ⟨Γ.toSx,X',G⟩ env H s K f s'):SPost Γ env H s K f s':=by refine rV h λfl l H' a b F S=>?_;refine(md fl l H' a ?_ (F.less hX) (S.less hX B));cases f <;> cases fl <;> first|exact b|exact VR.less (sa:=⟨Γ.sad,X'⟩) hX b
variable(PA:vW)(FA:BF)
def SS(d:Nat)(m:MS):Prop:=∀{Γ:Cx}(_:CxOK Γ.toSx){env:Env}{y:Stmt}{loc:Loc}{H:AH}{s:Shared}{A:Around}{K:Fl->Loc->AH->Prop},He env.scope.names m y=true->Frame Γ env loc H s.heap->Rel Γ H s.heap->Room A d->Ro Γ.toSx d m loc H K ->
  wpAny (model Γ.prog Γ.w) A (exec y env) (SPost Γ env H s K) aD s
def BG(d:Nat)(ms:List MS):Prop:=∀{Γ:Cx}(_:CxOK Γ.toSx){env:Env}{ys:List Stmt}{loc:Loc}{H:AH}{s:Shared}{A:Around}{K:Fl->Loc->AH->Prop},iP env.scope.names ms ys=true->Frame Γ env loc H s.heap->Rel Γ H s.heap->Room A d->aq Γ.toSx d ms loc H K ->
  wpAny (model Γ.prog Γ.w) A (execs ys env) (SPost Γ env H s K) aD s
theorem xX{x:Expr}(h:nZ x=true)(hk:interactive env=false){Q:Flow->Shared->Prop}(B:wpAny (model Γ.prog Γ.w) A (eval x env) (λv s'=>match v with | .ref _=>False|_=>Q .next s') aD s):wpAny (model Γ.prog Γ.w) A (exec (.Expr x pos) env) Q aD s :=wpAny_Expr B hk (by cases x <;> first|rfl|exact ag h)
theorem yx{v:V}{sa:SX}{c:Value}{P:Prop}(hp:rq v)(r:VR sa h v c)(q:P):match(generalizing:=false) c with | .ref _=>False|_=>P:=by
 cases v with
 |none=>obtain rfl:=r.none_inv;exact q
 |int i=>apply r.int_el;intro t;exact q
 |bool b=>obtain rfl:=r.bool_inv;exact q
 |str x=>apply r.str_el;intro t;exact q
 |_=>exact hp.elim
include PA in
theorem Dj(e:ME):SS d (.expr e):=by intro Γ C env y loc H s A K hc F R J h;refine onSExpr_inv hc λx pos hk=>?_;obtain hk:=and_t hk;exact xX hk.2 (by unfold interactive;rw[F.kind];rfl) (aX (sE C (PA Γ C) e hk.1 F R J h) λv H1 c P G O B=>yx G.1 O (SPost.next G.2 (F.estep B) B.own))
include PA in
theorem Pj(t:Tgt)(e:ME):SS d (.asg (.tg t) e):=by intro Γ C env y loc H s A K hc F R G h;refine onSAssign_inv hc λts x pos hk=>on1_el hk λy hk=>?_;obtain hk:=and_t hk;obtain B:=and_t hk.2;exact QZ (λe=>FU C (PA Γ C) e) hk.1 B.1 B.2 F R G h
theorem oR{e:ME}{y x:Expr}{line:Nat}(B:aM env.scope.names e x=true)(F:∀ck gens sc p,swapsWithSole [y] (CK.ex gens sc p ck) line env=pure false):swapsWithSole [y] x line env=pure false:=by
 rcases hc:GK e with _|_
 ·exact il (gO B hc)
 ·refine Pw (qK B hc) λck gens sc p bK=>?_;subst bK;exact F ck gens sc p
include PA in
theorem Pg(o:ME)(f:String)(e:ME):SS d (.asg (.at o f) e):=by intro Γ C env y loc H s A K hc F R P h;refine onSAssign_inv hc λts x pos hk=>on1_el hk λy hk=>?_;obtain hk:=and_t hk;refine onAttribute_inv hk.1 λz n p hz=>?_;obtain hz:=and_t hz;obtain rfl:=u5 hz.1;refine gM (sE C (PA Γ C) e) hk.2 F R P (oR hk.2 λck gens sc p=>by cases ck <;> rfl) rfl (λ_=>rfl) h λv H1 c s1 Q r1 B=>?_;show wpAny _ _ (do let ov <- holding [c] (eval z env);standAt p.atName;holding [c,ov] (setAttr ov (Str.ofString f) c);release [c,ov] []) _ _ _;refine ac (l8 (aX (sE C (PA Γ C) o hz.2 (F.estep B) B.st.rel P Q) λov H2 oc s2 Y r2 G=>?_));refine RQ Y λa cc dx kvs cC i1 i2 Z i4 i5 hk=>?_;subst cC;apply r2.ref_el;obtain J:=(F.estep B).estep G;exact ac (t7 (ac (l8 (yF C J G.st.rel i1 i2 Z i4 i5 (r1.keep G.st.tup) λs3 O=>P3 (SPost.next hk (J.estep O) (((B.trans G).trans O).own))))))
include PA in
theorem Pi(o i:ME)(e:ME):SS d (.asg (.ix o i) e):=by
 intro Γ C env y loc H s A K hc F R Y h;refine onSAssign_inv hc λts x pos hk=>on1_el hk λy hk=>?_;have hk:=and_t hk;refine onSubscript_inv hk.1 λz q p hz=>?_;have hz:=and_t hz;refine gM (sE C (PA Γ C) e) hk.2 F R Y (oR hk.2 λck gens sc p=>by cases ck <;> rfl) rfl (λ_=>rfl) h λv H1 c s1 h1 Z P=>?_;rw[assign_Subscript];refine ac (l8 (aX (sE C (PA Γ C) o hz.1 (F.estep P) P.st.rel Y h1) λov H2 oc s2 h2 r2 Q=>?_));have F2:=(F.estep P).estep Q;refine ac (l8 (aX (sE C (PA Γ C) i hz.2 F2 Q.st.rel Y h2) λiv H3 ic s3 h3 r3 G=>?_));obtain⟨a,rfl,h3⟩:=h3;apply r2.ref_el;have O:=F2.estep G;have B:=(P.trans Q).trans G;have Z:=(Z.keep Q.st.tup).keep G.st.tup;refine ac (t7 (ac (l8 ?_)));rcases h3 with⟨vs,n,j1,rfl,j2,j3,j4,hk⟩|⟨kvs,j1,j2,j3,hk⟩
 ·exact oH O G.st.rel j1 j2 j3 j4 r3 Z λs4 J=>P3 (SPost.next hk (O.estep J) (B.trans J).own)
 ·exact oF C O G.st.rel Y j1 j2 j3 r3 Z λs4 J=>P3 (SPost.next hk (O.estep J) (B.trans J).own)
include PA in
theorem Gr(e:ME):SS d (.ret e):=by
 intro Γ C env y loc H s A K hc F R J h;refine onSReturn_inv hc λx pos hk=>?_;rcases x with _|x
 ·exact ag hk
 ·exact wpAny_Return_some (aX (sE C (PA Γ C) e hk F R J h) λv H1 c P G O B=>(md (.ret v) loc H1 G O (F.estep B) B.own))
theorem Dk:SS d .rais:=by intro Γ C env y loc H s A K hc F R B h;exact h.elim
theorem SPost.follow{f:Flow}{s₁:Shared}{B:AH}(S:EStep Γ env H B s s₁)(h:SPost Γ env B s₁ K f s'):SPost Γ env H s K f s':=SPost.after S.own h
include PA in
theorem Ph{c:ME}{a b:List MS}(P:BG d a)(Q:BG d b):SS d (.if1 c a b):=by
 intro Γ C env y loc H s A K hc F R J h;refine onSIf_inv hc λx ys Z pos hk=>?_;obtain hk:=and_t hk;obtain O:=and_t hk.2;refine wpAny_If (d8 (sT C (PA Γ C) c hk.1 F R J h) (λt Y G=>?_) λ_ _ e=>e);refine af G λH1 G B=>?_;cases t with
 |true=>exact d8 (P C O.1 (F.estep B) B.st.rel J G) (λ_ _ h=>SPost.follow B h) λ_ _ e=>e
 |false=>exact d8 (Q C O.2 (F.estep B) B.st.rel J G) (λ_ _ h=>SPost.follow B h) λ_ _ e=>e
include PA in
theorem Bn{c:ME}{b:List MS}(Ib:BG d b):SS d (.whl c b):=by
 intro Γ C env y loc H s A K hc F R hr h;refine onSWhile_inv hc λx ys zs pos hk=>?_;obtain hk:=and_t hk;have Q:=and_t hk.2;rw[List.isEmpty_iff.mp hk.1];obtain⟨I,h0,hI⟩:=h;obtain⟨O,h0⟩:=h0;refine wpAny_While (codeAny_whileLoop (λn s'=>∃l H',I n l H'/\Frame Γ env l H' s'.heap/\Step Γ (dw env) H H' s s') (λn s' hs=>?_) O ⟨loc,H,h0,F,Step.refl R⟩);refine bw hs λl H' hn Y Z=>?_;refine d8 (sT C (PA Γ C) c Q.1 Y Z.rel hr (hI n l H' hn)) (λt s1 P=>?_) λ_ _ e=>e.elim;refine af P λH1 P G=>?_;cases t with
 |true =>
  refine d8 (Ib C Q.2 (Y.estep G) G.st.rel hr P) (λf s2 Q=>?_) λ_ _ e=>e.elim;refine rV Q λfl l2 H2 hk B F2 S2=>?_;obtain J:=(Z.trans G.own).trans S2;rcases fl with _|v
  ·cases f with
   |next=>refine af hk λm hm hk=>?_;exact⟨m,hm,l2,H2,hk,F2,J⟩
   |_=>exact B.elim
  ·cases f with
   |ret c=>exact(md (.ret v) l2 H2 hk B F2 J)
   |_=>exact B.elim
 |false=>exact N8 (SPost.next P (Y.estep G) (Z.trans G.own))
include FA in
theorem Gq{t:Tgt}{it:MIt}{b:List MS}(Ib:BG d b):SS d (.for1 t it b):=by intro Γ C env y loc H s A K hc F R P h;refine onSFor_inv hc λz x ys zs pos hk=>?_;have Q:=and_t hk;have k2:=and_t Q.2;have Y:=and_t k2.2;have Z:=and_t Y.2;have k5:=and_t Z.2;rw[List.isEmpty_iff.mp Q.1];refine wpAny_For (d8 (FA Γ C it Y.1 (lV k2.1) k5.1 F R P h) (λxv s1 h1=>d8 h1 (λcc s2 h2=>?_) λ_ _ e=>e) λ_ _ e=>e) (λx=>gj Z.1 env x);obtain⟨X',O,hX,B,I,W,vs,src,St,H1,q,rfl,st,It,hW,hn,hs,S,R',F'⟩:=h2;exact yC (Γ:=⟨Γ.toSx,X',O⟩) (s₀:=s) (H₀:=H) (stepW:=λl' H' k=>aq Γ.toSx d b l' H' k) P.1 It k2.1 (λG J hw=>Ib (Γ:=⟨Γ.toSx,X',O⟩) C k5.2 G J P hw) F' hW hn (S.own.wide hX R') st q λf s' hP=>SPost.less hX B hP
theorem Dl:BG d []:=by
 intro Γ C env ys loc H s A K hc F R B h;rcases ys with _|⟨_,_⟩
 ·exact N8 (SPost.next h F (Step.refl R))
 ·exact ag hc
theorem Bp{m:MS}{ms:List MS}(Q:SS d m)(G:BG d ms):BG d (m::ms):=by
 intro Γ C env ys loc H s A K hc F R P h;rcases ys with _|⟨y,r⟩
 ·exact ag hc
 ·obtain hc:=and_t hc;refine wpAny_execs_cons (d8 (Q C hc.1 F R P h) (λf Z Y=>?_) λ_ _ e=>e);refine rV Y λfl l1 H1 hk B O J=>?_;rcases fl with _|v
  ·cases f with
   |next=>exact d8 (G C hc.2 O J.rel P hk) (λ_ _ h=>SPost.after J h) λ_ _ e=>e
   |_=>exact B.elim
  ·cases f with
   |ret c=>exact(md (.ret v) l1 H1 hk B O J)
   |_=>exact B.elim
include PA FA in
theorem FV(ms:List MS):BG d ms :=MS.rec_1 (motive_1:=SS d) (motive_2:=BG d) (Dj PA) (λt e=>match t with | .tg t=>Pj PA t e | .at o f=>Pg PA o f e | .ix o i=>Pi PA o i e) (Gr PA) (λ_ _ _ a b=>Ph PA a b) (λ_ _ b=>Bn PA b) (λ_ _ _ b=>Gq FA b) Dk Dl (λ_ _ a b=>Bp a b) ms
include PA FA in
theorem Rm(ms:List MS)(C:CxOK Γ.toSx){ys:List Stmt}{loc:Loc}{H:AH}{A:Around}(hc:iP env.scope.names ms ys=true)(F:Frame Γ env loc H s.heap)(R:Rel Γ H s.heap)(B:Room A d)(h:aq Γ.toSx d ms loc H K) : wpAny (model Γ.prog Γ.w) A (execs ys env) (SPost Γ env H s K) aD s:=FV PA FA ms C hc F R B h
end
noncomputable def bf(ps:List String)(vs:List V):Loc:=λx=>(ps.zip vs).lookup x
structure FnAt(σ:Sx)(f:Addr)(fd:FuncData)(ps:List String)(ms:List MS):Prop where
 obj:∃o,σ.base.get? f=some o/\o.data=.func fd
 cd:σ.base.CodeRec fd.code fd.qualname
 body:∃ys,fd.body=.stmts ys/\iP fd.scope.names ms ys=true
 clo:fd.closure=[]
 glob:fd.globals=mainGlobals
 blt:fd.builtins=builtinsNs
 co:fd.scope.isCoroutine=false
 gen:fd.scope.isGenerator=false
 kind:fd.scope.kind=.function
 bind:∀vals:List Value,vals.length=ps.length->bindArgs fd ⟨vals,[]⟩=pure ((ps.map Str.ofString).zip vals)
 nodup:ps.Nodup
 kp:∀p∈ps,fd.scope.names.lookup (Str.ofString p)=some .local\/fd.scope.names.lookup (Str.ofString p)=some .cell
 nofree:∀x∈fd.scope.names,x.2≠.free
theorem eE:∀(names:List (Str×NameKind))(n:Nat)(acc:List (Str×Addr))(x:Str),(acc.lookup x).isSome=true->((cellsFrom n names acc).lookup x).isSome=true
 | [],_,_,_,h=>h
 |(name,kind)::r,n,acc,x,h=>by
  unfold cellsFrom;split
  ·refine eE r _ _ x ?_;rw[List.lookup_cons];cases B:x==name with
   |true=>rfl
   |false=>exact h
  ·exact eE r _ _ x h
theorem dL:∀(names:List (Str×NameKind))(n:Nat)(acc:List (Str×Addr))(x:Str),(x,NameKind.cell)∈names->((cellsFrom n names acc).lookup x).isSome=true
 |(name,kind)::r,n,acc,x,h=>by
  unfold cellsFrom;rcases i8.mp h with e|h
  ·refine bQ (Prod.mk.inj e) λaP bx=>?_;subst aP;subst bx;exact eE r _ _ _ (by simp)
  ·split
   ·exact dL r _ _ x h
   ·exact dL r _ _ x h
theorem kT{kindOf:Str->Option NameKind}{y:Str}:∀{binds:List (Str×Value)}{m:Str->Option Value},y∉binds.map (·.1)->bindL kindOf binds m y=m y
 | [],m,_=>rfl
 |(n,v)::r,m,h=>by
  simp only[List.map_cons,List.mem_cons,not_or]at h;unfold bindL;rw[kT h.2];split
  ·exact if_neg h.1
  ·rfl
theorem kS{kindOf:Str->Option NameKind}{y:Str}:∀{binds:List (Str×Value)}{m:Str->Option Value},y∉binds.map (·.1)->bindC kindOf binds m y=m y
 | [],m,_=>rfl
 |(n,v)::r,m,h=>by
  simp only[List.map_cons,List.mem_cons,not_or]at h;unfold bindC;rw[kS h.2];split
  ·rfl
  ·exact if_neg h.1
theorem yY{ps:List String}:∀y,y∈((ps.map Str.ofString).zip cvs).map (·.1)->y∈ps.map Str.ofString:=λy h=>by refine af (b9.mp h) λp hp bK=>?_;subst bK;exact(N5 hp).1
theorem jJ{kindOf:Str->Option NameKind}{sa:SX}:∀{ps:List String}{vs:List V}{cvs:List Value},ps.Nodup->VRs sa h vs cvs->∀{x:String}{v:V},bf ps vs x=some v -> ∃cv,VR sa h v cv/\(kindOf (Str.ofString x)=some .local->∀m,bindL kindOf ((ps.map Str.ofString).zip cvs) m (Str.ofString x)=some cv)/\(kindOf (Str.ofString x)≠some .local->∀m,bindC kindOf ((ps.map Str.ofString).zip cvs) m (Str.ofString x)=some cv)
 | [],vs,cvs,_,_,x,v,e=>by simp[bf]at e
 |p::ps,[],cvs,_,_,x,v,e=>by simp[bf]at e
 |p::ps,u::vs,cvs,nd,r,x,v,e=>by
  refine bw (VRs.cons_inv r) λc cs cC P Q=>?_;subst cC;rw[List.nodup_cons]at nd;unfold bf at e;rw[List.zip_cons_cons,List.lookup_cons]at e;by_cases F:x=p
  ·subst F;simp only[beq_self_eq_true,Option.some.injEq]at e;subst e;have B:Str.ofString x∉((ps.map Str.ofString).zip cs).map (·.1):=λz=>by refine af (b9.mp (yY _ z)) λq hq e=>?_;exact nd.1 (aZ e▸hq)
   refine(bb c P (λhk m=>?_) (λhk m=>?_))
   ·rw[List.map_cons,List.zip_cons_cons];unfold bindL;rw[kT B,if_pos hk,if_pos rfl]
   ·rw[List.map_cons,List.zip_cons_cons];unfold bindC;rw[kS B,if_neg hk,if_pos rfl]
  ·rw[beq_false_of_ne F]at e;refine cL (jJ (kindOf:=kindOf) nd.2 Q (x:=x) (v:=v) e) λcv G J O=>?_;exact(bb cv G (λhk m=>by rw[List.map_cons,List.zip_cons_cons];exact J hk _) (λhk m=>by rw[List.map_cons,List.zip_cons_cons];exact O hk _))
theorem zu(PA:vW)(FA:BF)(C:CxOK σ){f:Addr}{fd:FuncData}{ps:List String}{ms:List MS}(X:FnAt σ f fd ps ms){H:AH}{Q:V->AH->Prop}{d:Nat}(hl:vs.length=ps.length)(h:aq σ d ms (bf ps vs) H (λfl _ H'=>match fl with | .ret v=>Q v H' | .next=>Q .none H')){P:Addr->Prop}{hX:∀b,P b->σ.base.get? b=none}{A:Around}{s:Shared}{cvs:List Value}(hr:Room A (d+1))(R:Rel ⟨σ,P,hX⟩ H s.heap)(J:σ.base.objs.size<=s.heap.objs.size)(V:VRs ⟨σ.sad,P⟩ s.heap vs cvs):codeAny (model σ.prog σ.w) A (.call (.ref f) ⟨cvs,[]⟩) (CRes ⟨σ,P,hX⟩ H s Q) s:=by
 let Γ:Cx:=⟨σ,P,hX⟩
 refine af X.obj λo ho hd=>?_;refine af X.body λys Z ad=>?_;obtain an:cvs.length=ps.length:=by rw[<- hl];exact VRs.length V
 obtain ar:∀b,s.heap.objs.size<=b->s.heap.get? b=none:=λb Z=>i9 Z;have F:∀x,(fd.scope.names.lookup x=some .cell)->∀n,((cellsFrom n fd.scope.names []).lookup x).isSome=true:=λx hx n=>dL _ _ _ _ (mem_of_lookup hx);refine codeAny_call_cells (binds:=(ps.map Str.ofString).zip cvs) (by obtain B:=hr.2.1;exact OM B) (R.base _ _ ho) hd (C.nolim.keeps R.base) (X.cd.keeps R.base) Z (X.bind cvs an) X.clo (λx hx=>?_) (λs₁ I=>?_) X.co X.gen X.kind
 ·obtain hm:=(N5 hx).1;refine af (b9.mp hm) λp hp e=>?_;rcases X.kp p hp with k|k
  ·exact .inl (by rw[<- e];exact k)
  ·exact .inr ⟨by rw[<- e];exact k,by rw[<- e];exact F _ k _⟩
 ·refine rY I.toInCall.same λh₁ tk e1=>?_;have S1:Step Γ dZ H H s s₁:=Step.grow R (by rw[e1]) (by rw[e1]) I.toInCall.keep;have above:∀n c,(callEnvC fd s.heap.objs.size f).cells.lookup n=some c->s.heap.get? c=none:=λn c e=>ar c (j7 (d9 I.toInCall.fresh (I.above n c (mem_of_lookup e))));have G:s.heap.get? (callEnvC fd s.heap.objs.size f).locals=none:=ar _ I.toInCall.fresh;have J:Γ.base.objs.size<=s.heap.objs.size:=J;have F1:Frame Γ (callEnvC fd s.heap.objs.size f) (bf ps vs) H s₁.heap:=by
   refine⟨X.kind,X.glob,X.blt,(aa _ I.toInCall.ns (λx v e k=>?_)),(R.free G).1,(R.free G).2,b8 J I.toInCall.fresh,λn c e=>⟨(R.free (above n c e)).1,(R.free (above n c e)).2,_,I.cell n c e⟩,λx v e k=>?_,λn k=>?_,I.apart⟩
   ·refine cL (jJ (kindOf:=(callEnvC fd s.heap.objs.size f).kindOf) X.nodup V e) λcv h1 Y _=>?_;exact(aa cv (Y k _) (h1.keep S1.tup))
   ·refine cL (jJ (kindOf:=(callEnvC fd s.heap.objs.size f).kindOf) X.nodup V e) λcv h1 _ Y=>?_;rcases k with k|k
    ·refine bR (w3.mp (F _ k (s.heap.objs.size+1))) λc hc=>?_;refine(bc c cv hc ?_ (h1.keep S1.tup));obtain B:=I.cell _ c hc;rwa [Y (by rw[k];simp)]at B
    ·exact absurd rfl (X.nofree _ (mem_of_lookup k))
   ·rcases k with k|k
    ·exact w3.mp (F _ k _)
    ·exact absurd rfl (X.nofree _ (mem_of_lookup k))
  obtain hr':Room (A.deeper (callEnvC fd s.heap.objs.size f)) d:=(da hr.1 (by obtain B:=hr.2.1;exact ON B) (by obtain B:=hr.2.2;exact OO B));refine d8 (Rm PA FA ms (Γ:=Γ) C ad F1 S1.rel hr' h) (λfl s2 Y=>?_) λ_ _ e=>e.elim;refine rV Y λfl' l2 H2 hk O F2 S2=>?_;have S:Step Γ dZ H H2 s s2:=((S1.weaken (own':=dw (callEnvC fd s.heap.objs.size f)) λb h=>h.elim).trans S2).fresh λb Z=>.inr (Z.elim (λe=>e▸G) λ⟨n,e⟩=>above n b e);rcases fl' with _|v
  ·cases fl with
   |next=>exact(bc .none H2 hk VR.none' S)
   |_=>exact O.elim
  ·cases fl with
   |ret c=>exact(bc v H2 hk O S)
   |_=>exact O.elim
theorem sB(PA:vW)(FA:BF)(C:CxOK σ){f:Addr}{fd:FuncData}{ps:List String}{ms:List MS}(X:FnAt σ f fd ps ms){H:AH}{Q:V->AH->Prop}{d:Nat}(hl:vs.length=ps.length)(h:aq σ d ms (bf ps vs) H (λfl _ H'=>match fl with | .ret v=>Q v H' | .next=>Q .none H')):CallS σ (d+1) f vs H Q:=by intro J hX A s cvs G R top V;refine af top λb B F=>?_;exact zu PA FA C X hl h G R (b8 B (g7 λz=>F (i9 (j7 z)))) V
section
variable{x:Expr}{nm:String}
section
variable{loc:Loc}{H:AH}{A:Around}{d:Nat}
theorem Br(B:∀rest,starEach (x::rest) env=(false,eval x env)::starEach rest env)(pos:Pos):backTo pos (starEach [x] env)=[(false,eval x env)]:=by rw[B];rfl
theorem rA(C:CxOK Γ.toSx)(F:Frame Γ env loc H s.heap)(R:Rel Γ H s.heap){b:String}(hb:(nm,Value.builtin b)∈bL)(J:dD env.scope.names nm id=true)(Y:∀rest,starEach (x::rest) env=(false,eval x env)::starEach rest env){P:Value->Shared->Prop}(h:wpAny (model Γ.prog Γ.w) A (eval x env) (λc s₁=>wpAny (model Γ.prog Γ.w) A (call (.builtin b) [c]) P aD s₁) aD s):wpAny (model Γ.prog Γ.w) A (eval (.Call (.Name id ip) [x] [] pos) env) P aD s:=by have J:=and_t J;have Q:=and_t J.1;obtain rfl:=u5 Q.1;refine Pp C.ns λmg mb G B _ _ _ O=>?_;refine bQ (O (nm,.builtin b) hb) λhm hv=>?_;refine Call_ (iI F R G B Q.2 J.2 hm hv (PyProof.Rows.callWith_builtin1 (e:=x) (rest:=[]) ?_ (Y [])));rw[Br Y];exact y6 (d8 h (λc s1 Z=>I2 Z) λ_ _ e=>e)
theorem vj(C:CxOK Γ.toSx)(F:Frame Γ env loc H s.heap)(R:Rel Γ H s.heap){b:String}(hb:(nm,Value.type b)∈bL)(J:dD env.scope.names nm id=true)(Y:∀rest,starEach (x::rest) env=(false,eval x env)::starEach rest env){P:Value->Shared->Prop}(h:wpAny (model Γ.prog Γ.w) A (eval x env) (λc s₁=>wpAny (model Γ.prog Γ.w) A (call (.type b) [c]) P aD s₁) aD s):wpAny (model Γ.prog Γ.w) A (eval (.Call (.Name id ip) [x] [] pos) env) P aD s:=by have J:=and_t J;have Q:=and_t J.1;obtain rfl:=u5 Q.1;refine Pp C.ns λmg mb G B _ _ _ O=>?_;obtain⟨hm,hv⟩:=O (nm,.type b) hb;refine Call_ (iI F R G B Q.2 J.2 hm hv (D8 (e:=x) (rest:=[]) ?_ (Y [])));rw[Br Y];exact y6 (d8 h (λc s1 Z=>I2 Z) λ_ _ e=>e)
abbrev rZ(Γ:Cx)(env:Env)(loc:Loc)(A:Around)(F:V->AH->Prop)(Q:V->AH->Prop)(f:Value):Prop:=∀{v:V}{H1:AH}{c:Value}{B:Shared},F v H1->VR Γ.sa B.heap v c->Frame Γ env loc H1 B.heap->Rel Γ H1 B.heap->wpAny (model Γ.prog Γ.w) A (call f [c]) (EPost Γ env H1 B Q) aD B
theorem kb(C:CxOK Γ.toSx)(F:Frame Γ env loc H s.heap)(R:Rel Γ H s.heap){b:String}(P:(nm,Value.builtin b)∈bL)(J:dD env.scope.names nm id=true)(Y:∀rest,starEach (x::rest) env=(false,eval x env)::starEach rest env){G Q:V->AH->Prop}(h:wpAny (model Γ.prog Γ.w) A (eval x env) (EPost Γ env H s G) aD s)(k:rZ Γ env loc A G Q (.builtin b)):wpAny (model Γ.prog Γ.w) A (eval (.Call (.Name id ip) [x] [] pos) env) (EPost Γ env H s Q) aD s :=rA C F R P J Y (aX h λv H1 c s1 O Z B=>d8 (k O Z (F.estep B) B.st.rel) (λ_ _ h=>EPost.after B h) λ_ _ e=>e)
theorem rB(C:CxOK Γ.toSx)(F:Frame Γ env loc H s.heap)(R:Rel Γ H s.heap){b:String}(P:(nm,Value.type b)∈bL)(J:dD env.scope.names nm id=true)(Y:∀rest,starEach (x::rest) env=(false,eval x env)::starEach rest env){G Q:V->AH->Prop}(h:wpAny (model Γ.prog Γ.w) A (eval x env) (EPost Γ env H s G) aD s)(k:rZ Γ env loc A G Q (.type b)):wpAny (model Γ.prog Γ.w) A (eval (.Call (.Name id ip) [x] [] pos) env) (EPost Γ env H s Q) aD s :=vj C F R P J Y (aX h λv H1 c s1 O Z B=>d8 (k O Z (F.estep B) B.st.rel) (λ_ _ h=>EPost.after B h) λ_ _ e=>e)
theorem bi{p:String×Value}(h:bL[i]?=some p):p∈bL:=g9 h
theorem iu{f:Expr}{as:List Expr}{k:List Keyword}{p:Pos}(rest:List Expr):starEach (.Call f as k p::rest) env=(false,eval (.Call f as k p) env)::starEach rest env:=rfl
theorem xy(C:CxOK Γ.toSx)(R:Rel Γ H s.heap){a:Addr}(hd:H a=some (.dict kvs))(P:bJ kvs):(∃B,@Heap.DictOf Γ.prog Γ.w V vdec (bH Γ.prog Γ.w) s.heap a B)/\(a==sysModules)=false:=by
 letI:DecidableEq V:=vdec
 refine bw (bV R hd) λes n F J G=>?_;refine cL (xj F J G P) λB _ _ O=>?_;refine⟨⟨B,O.dictOf⟩,K2.mpr λe=>?_⟩;obtain⟨o,F⟩:=C.sysm;exact nn (R.fresh _ _ hd) (e▸F)
theorem CV(C:CxOK Γ.toSx){y:Expr}{ap:Pos}(Z:cg y=true)(hp:(ap.endLine==pos.line)=true){O:V->AH->Prop}(h:wpAny (model Γ.prog Γ.w) A (eval y env) (EPost Γ env H s O) aD s)(Y:∀v H1 cv B,O v H1->VR Γ.sa B.heap v cv->EStep Γ env H H1 s B->∃a kvs,cv=.ref a/\H1 a=some (.dict kvs)/\bJ kvs/\P (.ref B.heap.objs.size) { B with heap:=B.heap.push { cls:=.type "dict_items",data:=.fields #[.ref a] } }) : wpAny (model Γ.prog Γ.w) A (eval (.Call (.Attribute y (Str.ofString "items") ap) [] [] pos) env) P aD s:=by
 letI:DecidableEq V:=vdec
 refine wpAny_Call_method (T:="dict") (id:="dict.items") (ey Z _ _ _) rfl hp F.plainAttrs_dict F.slot_dict_items F.type_dict_items (d8 h (λcv B Q=>?_) λ_ _ e=>e);refine bw Q λv H1 hv r S=>?_;refine ph (Y v H1 cv B hv r S) λa kvs aP hd sk hp=>?_;subst aP;obtain⟨⟨J,hm⟩,G⟩:=xy C S.st.rel hd sk;exact⟨hm.typeIs,hm.mapOf.noDict,method_meetsIn F.slot_dict_items F.entry_dict_items rfl (PySem.evalArgs_none (mu rfl hm.typeIs (F.args_dict_items_1 _) (aa _ (meets_dict_items (bH Γ.prog Γ.w) a G) ⟨⟨J,hm⟩,hp⟩)))⟩
theorem AZ(C:CxOK Γ.toSx){y:Expr}{ap:Pos}(Z:cg y=true)(hp:(ap.endLine==pos.line)=true){O:V->AH->Prop}(h:wpAny (model Γ.prog Γ.w) A (eval y env) (EPost Γ env H s O) aD s)(Y:∀v H1 cv B,O v H1->VR Γ.sa B.heap v cv->EStep Γ env H H1 s B->∃a kvs,cv=.ref a/\H1 a=some (.dict kvs)/\bJ kvs/\P (.ref B.heap.objs.size) { B with heap:=B.heap.push { cls:=.type "dict_values",data:=.fields #[.ref a] } }) : wpAny (model Γ.prog Γ.w) A (eval (.Call (.Attribute y (Str.ofString "values") ap) [] [] pos) env) P aD s:=by
 letI:DecidableEq V:=vdec
 refine wpAny_Call_method (T:="dict") (id:="dict.values") (ey Z _ _ _) rfl hp F.plainAttrs_dict F.slot_dict_values F.type_dict_values (d8 h (λcv B Q=>?_) λ_ _ e=>e);refine bw Q λv H1 hv r S=>?_;refine ph (Y v H1 cv B hv r S) λa kvs bK hd sk hp=>?_;subst bK;refine bQ (xy C S.st.rel hd sk) λcC G=>?_;obtain⟨J,hm⟩:=cC;exact(da hm.typeIs hm.mapOf.noDict (method_meetsIn F.slot_dict_values F.entry_dict_values rfl (PySem.evalArgs_none (mu rfl hm.typeIs (F.args_dict_values_1 _) (aa _ (meets_dict_values (bH Γ.prog Γ.w) a G) ⟨⟨J,hm⟩,hp⟩)))))
noncomputable def QY:Prim->Bool
 | .sum | .max | .dict | .sorted | .sortedItems | .sortedSet | .sortedSetVals=>true
 |_=>false
noncomputable def PM:Prim->Bool
 | .abs | .str=>true
 |_=>false
theorem jv{H:AH}{Q:V->AH->Prop}{p:Prim}{v:V}(hp:QY p=true)(h:iZ H Q p v):∃a,v=.ref a:=by
 cases v with
 |ref a=>exact⟨a,rfl⟩
 |_=>cases p <;> first|exact ag hp|exact False.elim h
theorem AP{H:AH}{Q:V->AH->Prop}{p:Prim}{v:V}(hp:PM p=true)(h:iZ H Q p v):∃i,v=.int i:=by
 cases v with
 |int a=>exact⟨a,rfl⟩
 |_=>cases p <;> first|exact ag hp|exact False.elim h
theorem AQ{H:AH}{Q:V->AH->Prop}{v:V}(h:iZ H Q .tuple v):(∃a,v=.tup a)\/∃a,v=.ref a:=by
 cases v with
 |tup a=>exact .inl ⟨a,rfl⟩
 |ref a=>exact .inr ⟨a,rfl⟩
 |_=>exact False.elim h
theorem FP(C:CxOK Γ.toSx):aL Γ .len:=by intro env loc H s A d Q id x y pos ip F R P G O B h;obtain rfl:=c9 O;exact kb C F R (bi (i:=0) rfl) G B h λJ r F R=>OY F R J r
theorem FS(C:CxOK Γ.toSx):aL Γ .sum:=by intro env loc H s A d Q id x y pos ip F R O J P B h;obtain rfl:=c9 P;refine kb C F R (bi (i:=1) rfl) J B h λG r F R=>?_;obtain⟨a,rfl⟩:=jv rfl G;refine af G λns e q=>?_;rw[r.ref_inv];exact Pd F R O e q
theorem FQ(C:CxOK Γ.toSx):aL Γ .max:=by intro env loc H s A d Q id x y pos ip F R O J P B h;obtain rfl:=c9 P;refine kb C F R (bi (i:=2) rfl) J B h λG r F R=>?_;obtain⟨a,rfl⟩:=jv rfl G;refine cb G λi ns e q=>?_;rw[r.ref_inv];exact OZ F R O e q
theorem FO(C:CxOK Γ.toSx):aL Γ .abs:=by intro env loc H s A d Q id x y pos ip F R Y O P B h;obtain rfl:=c9 P;refine kb C F R (bi (i:=3) rfl) O B h λJ r F R=>?_;refine bR (AP rfl J) λa G=>?_;subst G;exact OU R r J
theorem FR(C:CxOK Γ.toSx):aL Γ .str:=by intro env loc H s A d Q id x y pos ip F R Y O P G h;obtain rfl:=c9 P;refine rB C F R (bi (i:=5) rfl) O G h λB r F R=>?_;refine bR (AP rfl B) λa J=>?_;subst J;exact Pc R r B.1 B.2.1 B.2.2
theorem AK(C:CxOK Γ.toSx):aL Γ .tuple:=by
 intro env loc H s A d Q id x y pos ip F R P J O G h;obtain rfl:=c9 O;refine rB C F R (bi (i:=6) rfl) J G h λB r F R=>?_;rcases AQ B with⟨a,rfl⟩|⟨a,rfl⟩
 ·exact tK R r B
 ·refine cL B λvs e hz q=>?_;rw[r.ref_inv];exact rI F R e hz q
end
end
section
variable{t:Addr}
section
variable{A:Around}
theorem rW{items:Array Value}{x:Value}{Q:Value->Shared->Prop}(B:s.heap.IsTupleIter it t i)(Y:s.heap.IsTuple t items)(Z:items[i]?=some x)(P:∀h',h'.IsTupleIter it t (i+1)->Heap.SameBut it s.heap h'->Q x { s with heap:=h' }):wpAny (model prog w) A (Builtin.SmallTypes.nextOf (.ref it)) Q E s:=by
 refine cL (id B) λo G hc hd=>?_;refine cL Y λol O _ aP=>?_;refine bR aP λnl J=>?_;refine ac (p6 (name:=Str.ofString "__next__") B.typeIs y7
  (n6 y7 B.typeIs F.entry_tuple_iterator_next ?_ (F.args_tuple_iterator_next_1 _)))
 show wpAny _ _ (field (.ref it) 0 >>= _) _ _ s;refine ac (w6 G hd (x:=.ref t) rfl ?_);rw[if_neg (show ¬((Value.ref t==Value.none)=true)from Bool.false_ne_true)];refine ac (w6 G hd (x:=.int i 0) rfl ?_);refine ac (t6 O J ?_);dsimp only;rw[Int.toNat_natCast,Z];refine ac (w7 G hd (by simp) (a9 (aa x rfl (a9 (P _ ?_ (m7 ..))))));exact(bb _ (k8 _ G (u8 (s8 hd _))) ((Obj.cls_mapFields ..).trans hc) (by rw[Obj.data_mapFields hd];simp[rawInt]))
theorem BC{items:Array Value}{Q:Value->Shared->Prop}(P:A.handled=none)(B:s.heap.IsTupleIter it t i)(Z:s.heap.IsTuple t items)(hx:items[i]?=none)(Y:∀h' e,Heap.ExtBut it s.heap h'->(∃o,h'.get? e=some o/\o.cls=.type "StopIteration")->E (.ref e) { s with heap:=h' }):wpAny (model prog w) A (Builtin.SmallTypes.nextOf (.ref it)) Q E s:=by
 refine cL (id B) λo J hc hd=>?_;refine cL Z λol O _ bx=>?_;refine bR bx λnl G=>?_;refine ac (p6 (name:=Str.ofString "__next__") B.typeIs y7
  (n6 y7 B.typeIs F.entry_tuple_iterator_next ?_ (F.args_tuple_iterator_next_1 _)))
 show wpAny _ _ (field (.ref it) 0 >>= _) _ _ s;refine ac (w6 J hd (x:=.ref t) rfl ?_);rw[if_neg (show ¬((Value.ref t==Value.none)=true)from Bool.false_ne_true)];refine ac (w6 J hd (x:=.int i 0) rfl ?_);refine ac (t6 O G ?_);dsimp only;rw[Int.toNat_natCast,hx];refine ac (y3 (ac (w7 J hd (by simp) ?_)));refine ac ?_;refine ac (r9 ?_ (by size_fits));refine ac (m:=firstArgMember _ _) (L7 (a:=Value.none) (by first|rfl|(simp only[firstArgMember];rfl)) ?_);refine r9 ?_ (by size_fits);refine ac (P2 ?_)
 first|rw[show A.in1.handled=none from P]|rw[P]
 refine ac (a9 (Q6 ?_));exact Y _ _ (((m7 ..).extBut.push _).push _) (aa _ (g8 _ rfl) rfl)
theorem IsTupleIter.ext{b:Addr}(x:h.IsTupleIter it t i)(hs:Heap.ExtBut b h h')(B:it≠b):h'.IsTupleIter it t i:=by refine af x λo F r=>?_;exact(aa o (hs it o B F) r)
theorem IsTuple.ext{b:Addr}{xs:Array Value}(x:h.IsTuple t xs)(hs:Heap.ExtBut b h h')(B:t≠b):h'.IsTuple t xs:=by refine af x λo F r=>?_;exact(aa o (hs t o B F) r)
theorem mA{a:α}{as:List α}{b:β}{f:α->β->Sem (ForInStep β)}{Q:β->Shared->Prop}(h:wpAny M A (f a b) (λr s'=>wpAny M A (match r with | .done b'=>pure b' | .yield b'=>forIn as b' f) Q E s') E s):wpAny M A (forIn (a::as) b f) Q E s:=by rw[List.forIn_cons];exact ac h
theorem Cm{b:β}{f:α->β->Sem (ForInStep β)}{Q:β->Shared->Prop}(h:Q b s):wpAny M A (forIn ([]:List α) b f) Q E s:=by rw[List.forIn_nil];exact a9 h
theorem Dy{z TI TO i1 i2 l1 l2:Addr}{k1 k2:Nat}{xs ys:Array Value}{x y a b:Value}{Q:Option Value->Shared->Prop}(D:ZipApart z TI TO i1 i2 l1 l2)(hz:IsZip s.heap z TI TO .none)(hTI:IsPair s.heap TI (.ref i1) (.ref i2))(hTO:IsPair s.heap TO a b)(h1:s.heap.IsTupleIter i1 l1 k1)(h2:s.heap.IsTupleIter i2 l2 k2)(hl1:s.heap.IsTuple l1 xs)(hl2:s.heap.IsTuple l2 ys)(hx:xs[k1]?=some x)(hy:ys[k2]?=some y)(hQ:∀h',IsZip h' z TI TO (rawInt s.heap.objs.size)->IsPair h' TO x y->h'.IsTupleIter i1 l1 (k1+1)->h'.IsTupleIter i2 l2 (k2+1)->IsPair h' s.heap.objs.size x y ->(∀c o,c≠z->c≠TO->c≠i1->c≠i2->s.heap.get? c=some o->h'.get? c=some o)->Q (some (.ref s.heap.objs.size)) { s with heap:=h' }):wpAny (model prog w) A (pyNext (.ref z)) Q E s:=by
 obtain hT:s.TypeIs (.ref z) "zip":=(aa _ hz rfl);refine ac (F8 (p6 (name:=Str.ofString "__next__") hT J9 (n6 J9 hT F.entry_zip_next ?_ (F.args_zip_next_1 _))));show wpAny _ _ (field (.ref z) 2 >>= _) _ _ _;refine ac (w6 hz rfl (x:=.bool false) rfl ?_);refine ac (w6 hz rfl (x:=.ref TI) rfl ?_);refine ac (t6 hTI rfl ?_);refine ac ?_;refine ac (w6 hz rfl (x:=.none) rfl (a9 ?_));rw[if_pos rfl];refine ac (y3 ?_);refine ac (w6 hz rfl (x:=.ref TO) rfl ?_);refine ac (z6 hz (by simp) λh₁ ar G=>?_);replace ar:IsZip h₁ z TI TO .ellipsis:=ar;refine ac ?_;refine mA (ac (M3 ?_));refine ac (rW (IsTupleIter.ext h1 G.extBut D.i1z) (IsTuple.ext hl1 G.extBut D.l1z) hx λh₂ h1₂ J=>a9 ?_);obtain ax:IsPair h₂ TO a b:=J.extBut _ _ D.TOi1 (G.extBut _ _ D.TOz hTO);refine ac (t6 ax rfl ?_);refine ac (J8 ax λh₃ ad O=>?_);replace ad:IsPair h₃ TO x b:=ad;refine ac (O8 (a9 ?_));refine mA (ac (M3 ?_));refine ac (rW (IsTupleIter.ext (IsTupleIter.ext (IsTupleIter.ext h2 G.extBut D.i2z) J.extBut D.i12.symm) O.extBut D.TOi2.symm)
  (IsTuple.ext (IsTuple.ext (IsTuple.ext hl2 G.extBut D.l2z) J.extBut D.l2i1) O.extBut D.l2TO) hy λh₄ h2₄ Y=>a9 ?_)
 obtain a0:IsPair h₄ TO x b:=Y.extBut _ _ D.TOi2 ad;refine ac (t6 a0 rfl ?_);refine ac (J8 a0 λB P Z=>?_);replace P:IsPair B TO x y:=P;refine ac (O8 (a9 ?_));refine Cm ?_;refine ac (t6 P rfl ?_);refine ac (O9 ?_);have hsz:B.objs.size=s.heap.objs.size:=by rw[Z.1,Y.1,O.1,J.1,G.1]
 have a5:IsZip B z TI TO .ellipsis:=Z.extBut _ _ D.TOz.symm (Y.extBut _ _ D.i2z.symm (O.extBut _ _ D.TOz.symm (J.extBut _ _ D.i1z.symm ar)));obtain hk₅:∀c o,c≠z->c≠TO->c≠i1->c≠i2->s.heap.get? c=some o->B.get? c=some o:=λc o c1 c2 c3 c4 e =>
  Z.extBut _ _ c2 (Y.extBut _ _ c4 (O.extBut _ _ c2 (J.extBut _ _ c3 (G.extBut _ _ c1 e))))
 obtain h1₅:B.IsTupleIter i1 l1 (k1+1):=IsTupleIter.ext (IsTupleIter.ext (IsTupleIter.ext h1₂ O.extBut D.TOi1.symm) Y.extBut D.i12) Z.extBut D.TOi1.symm;have h2₅:B.IsTupleIter i2 l2 (k2+1):=IsTupleIter.ext h2₄ Z.extBut D.TOi2.symm;have a6:z<B.objs.size:=o8 a5;refine ac ?_;unfold Builtin.SmallTypes.ownedTupleHandOut;have hz₆:IsZip (B.push { cls:=.type "tuple",data:=.seq #[x,y] }) z TI TO .ellipsis:=d5 _ a5;refine ac (z6 hz₆ (by simp) λh₇ av a3=>?_);replace av:IsZip h₇ z TI TO (rawInt B.objs.size):=av;refine z6 av (by simp) λa1 an a4=>?_;replace an:IsZip a1 z TI TO (rawInt B.objs.size):=an;have up:∀c o,c≠z->B.get? c=some o->a1.get? c=some o:=λc o c1 e=>a4.extBut _ _ c1 (a3.extBut _ _ c1 (d5 _ e));obtain a2:IsPair a1 B.objs.size x y:=a4.extBut _ _ (E3 a6) (a3.extBut _ _ (E3 a6) (g8 _ rfl));obtain hsz':s.heap.objs.size=B.objs.size:=hsz.symm;refine a9 (aa (.ref B.objs.size) rfl (a9 ?_));show Q (some (.ref B.objs.size)) _;rw[hsz]at an a2 ⊢;exact hQ a1 an (up _ _ D.TOz P) (by refine af h1₅ λo ho r=>?_;exact(aa o (up _ o D.i1z ho) r)) (by refine af h2₅ λo ho r=>?_;exact(aa o (up _ o D.i2z ho) r)) a2 λc o c1 c2 c3 c4 e=>up c o c1 (hk₅ c o c1 c2 c3 c4 e)
theorem Dx{z TI TO i1 i2 l1 l2:Addr}{k1 k2:Nat}{xs ys:Array Value}{a b:Value}{Q:Option Value->Shared->Prop}(hh:A.handled=none)(D:ZipApart z TI TO i1 i2 l1 l2)(hz:IsZip s.heap z TI TO .none)(hTI:IsPair s.heap TI (.ref i1) (.ref i2))(hTO:IsPair s.heap TO a b)(h1:s.heap.IsTupleIter i1 l1 k1)(h2:s.heap.IsTupleIter i2 l2 k2)(hl1:s.heap.IsTuple l1 xs)(hl2:s.heap.IsTuple l2 ys)(hend:xs[k1]?=none\/ys[k2]?=none)(hQ:∀h',h'.get? TO≠none->(∀c o,c≠z->c≠TO->c≠i1->c≠i2->s.heap.get? c=some o->h'.get? c=some o)->Q none { s with heap:=h' }):wpAny (model prog w) A (pyNext (.ref z)) Q E s:=by
 have hT:s.TypeIs (.ref z) "zip":=(aa _ hz rfl);refine ac (F8 (p6 (name:=Str.ofString "__next__") hT J9 (n6 J9 hT F.entry_zip_next ?_ (F.args_zip_next_1 _))));have fin:∀h' e,h'.get? TO≠none->(∀c o,c≠z->c≠TO->c≠i1->c≠i2->s.heap.get? c=some o->h'.get? c=some o)->(∃o,h'.get? e=some o/\o.cls=.type "StopIteration") ->
   wpAny (model prog w) A (do if <- isInstance (.ref e) (.type "StopIteration")then pure none else throw (.ref e):Sem (Option Value)) Q E { s with heap:=h' }:=λh' e ht hk ⟨o,ho,hc⟩=>by
  refine ac (C0 (T:="StopIteration") (b:=true) (aa o ho hc) O7 ?_);exact a9 (hQ _ ht hk)
 show wpAny _ _ (field (.ref z) 2 >>= _) _ _ _;refine ac (w6 hz rfl (x:=.bool false) rfl ?_);refine ac (w6 hz rfl (x:=.ref TI) rfl ?_);refine ac (t6 hTI rfl ?_);refine ac ?_;refine ac (w6 hz rfl (x:=.none) rfl (a9 ?_));rw[if_pos rfl];refine ac (y3 ?_);refine ac (w6 hz rfl (x:=.ref TO) rfl ?_);refine ac (z6 hz (by simp) λh₁ O B=>?_);replace O:IsZip h₁ z TI TO .ellipsis:=O;refine ac ?_;refine mA (ac (M3 ?_));rcases hx:xs[k1]? with _|x
 ·refine ac (BC hh (IsTupleIter.ext h1 B.extBut D.i1z) (IsTuple.ext hl1 B.extBut D.l1z) hx λax e G he=>?_);obtain⟨oe,P,an⟩:=he;have ar:IsZip ax z TI TO .ellipsis:=G _ _ D.i1z.symm O;have a2:e≠z:=λx=>by subst x;rw[ar]at P;obtain rfl:=c9 P;simp at an
  refine z6 ar (by simp) λa1 _ J=>fin a1 e ?_ (λc o c1 _ c3 _ x=>J.extBut _ _ c1 (G _ _ c3 (B.extBut _ _ c1 x))) ⟨oe,J.extBut _ _ a2 P,an⟩;rw[J.extBut _ _ D.TOz (G _ _ D.TOi1 (B.extBut _ _ D.TOz hTO))];simp
 ·obtain hy:ys[k2]?=none:=by rcases hend with h|h;rw[hx]at h;exact sn h;exact h
  refine ac (rW (IsTupleIter.ext h1 B.extBut D.i1z) (IsTuple.ext hl1 B.extBut D.l1z) hx λax h1₂ G=>a9 ?_);obtain ad:IsPair ax TO a b:=G.extBut _ _ D.TOi1 (B.extBut _ _ D.TOz hTO);refine ac (t6 ad rfl ?_);refine ac (J8 ad λa1 a0 J=>?_);refine ac (O8 (a9 ?_));refine mA (ac (M3 ?_));refine ac (BC hh (IsTupleIter.ext (IsTupleIter.ext (IsTupleIter.ext h2 B.extBut D.i2z) G.extBut D.i12.symm) J.extBut D.TOi2.symm)
   (IsTuple.ext (IsTuple.ext (IsTuple.ext hl2 B.extBut D.l2z) G.extBut D.l2i1) J.extBut D.l2TO) hy λh₄ e Y he=>?_)
  obtain⟨oe,P,an⟩:=he;have av:IsZip h₄ z TI TO .ellipsis:=Y _ _ D.i2z.symm (J.extBut _ _ D.TOz.symm (G.extBut _ _ D.i1z.symm O));have a2:e≠z:=λx=>by subst x;rw[av]at P;obtain rfl:=c9 P;simp at an
  refine z6 av (by simp) λh₅ _ Z=>fin h₅ e ?_ (λc o c1 c2 c3 c4 x=>Z.extBut _ _ c1 (Y _ _ c4 (J.extBut _ _ c2 (G.extBut _ _ c3 (B.extBut _ _ c1 x))))) ⟨oe,Z.extBut _ _ a2 P,an⟩;rw[Z.extBut _ _ D.TOz (Y _ _ D.TOi2 a0)];simp
end
end
section
variable{xs:Array Value}
noncomputable abbrev aP(h:Heap)(l1:Addr):Heap:=h.push { cls:=.type "tuple_iterator",data:=.fields #[.ref l1,.int 0 0] }
noncomputable abbrev bx(h:Heap)(l1 l2:Addr):Heap:=(aP h l1).push { cls:=.type "tuple_iterator",data:=.fields #[.ref l2,.int 0 0] }
noncomputable abbrev bK(h:Heap)(l1 l2:Addr):Heap:=(bx h l1 l2).push { cls:=.type "tuple",data:=.seq #[.ref h.objs.size,.ref (aP h l1).objs.size] }
noncomputable abbrev cC(h:Heap)(l1 l2:Addr):Heap:=(bK h l1 l2).push { cls:=.type "tuple",data:=.seq #[.none,.none] }
noncomputable abbrev dj(h:Heap)(l1 l2:Addr):Heap:=(cC h l1 l2).push { cls:=.type "zip",data:=.fields #[.none,.bool false,.bool false,.ref (bx h l1 l2).objs.size,.ref (bK h l1 l2).objs.size] }
theorem Ab(l1 l2:Addr)(xs ys:Array Value) : Meets (Builtin.«zip.__new__» ⟨[.type "zip",.ref l1,.ref l2],[]⟩) (λ_ R s=>s.heap.IsTuple l1 xs/\s.heap.IsTuple l2 ys /\
   R (.ok (.ret (.ref (cC s.heap l1 l2).objs.size))) { s with heap:=dj s.heap l1 l2 }) :=
 .of_wp λprog w A R s h=>by
  obtain⟨hp,g,d,tk,os⟩:=s;refine jg h λG J h=>?_;have O:=sub_zip;have B:Heap.IsTuple (Shared.heap ⟨hp,g,d,tk,os⟩) l1 xs:=G;obtain F:Heap.IsTuple (Shared.heap ⟨hp.push { cls:=.type "tuple_iterator",data:=.fields #[.ref l1,.int 0 0] },g,d,tk,os⟩) l2 ys:=by refine af J λo P r=>?_;exact(aa o (d5 _ P) r)
  wp_walk using L0 B,L0 F
  exact(aa _ rfl h)
section
variable{A:Around}
theorem BV{l1 l2:Addr}{ys:Array Value}{Q:Value->Shared->Prop}(G:s.heap.IsTuple l1 xs)(J:s.heap.IsTuple l2 ys)(h:∀h',IsZip h' (s.heap.objs.size+4) (s.heap.objs.size+2) (s.heap.objs.size+3) .none->IsPair h' (s.heap.objs.size+2) (.ref s.heap.objs.size) (.ref (s.heap.objs.size+1)) ->
   IsPair h' (s.heap.objs.size+3) .none .none->h'.IsTupleIter s.heap.objs.size l1 0->h'.IsTupleIter (s.heap.objs.size+1) l2 0 ->
   (∀c o,s.heap.get? c=some o->h'.get? c=some o)->Q (.ref (s.heap.objs.size+4)) { s with heap:=h' }) :
  wpAny (model prog w) A (call (.type "zip") [.ref l1,.ref l2]) Q E s:=by
 refine callType_new F.called_zip (by decide) (F.typeCall_zip_2 _ _) (F.newCall_zip_2 _ _) (λobj=>F.args_object_init_3 obj _ _) F.entry_zip_new (Ab l1 l2 xs ys) (da G J ?_);obtain O:(aP s.heap l1).objs.size=s.heap.objs.size+1:=N9 ..;have P:(bx s.heap l1 l2).objs.size=s.heap.objs.size+2:=by rw[Heap.size_push,O]
 obtain Y:(bK s.heap l1 l2).objs.size=s.heap.objs.size+3:=by rw[Heap.size_push,P]
 obtain z4:(cC s.heap l1 l2).objs.size=s.heap.objs.size+4:=by rw[Heap.size_push,Y]
 obtain B:(dj s.heap l1 l2).get? (cC s.heap l1 l2).objs.size=some _:=g8 _ rfl;obtain g4:(dj s.heap l1 l2).get? (bK s.heap l1 l2).objs.size=some _:=d5 _ (g8 _ rfl);obtain g3:(dj s.heap l1 l2).get? (bx s.heap l1 l2).objs.size=some _:=d5 _ (d5 _ (g8 _ rfl));obtain Z:(dj s.heap l1 l2).get? (aP s.heap l1).objs.size=some _:=d5 _ (d5 _ (d5 _ (g8 _ rfl)));obtain g1:(dj s.heap l1 l2).get? s.heap.objs.size=some _:=d5 _ (d5 _ (d5 _ (d5 _ (g8 _ rfl))));rw[P,Y,z4]at B;rw[O,P]at g3;rw[Y]at g4;rw[O]at Z;rw[z4];exact⟨(aa _ B rfl),h _ B g3 g4 (bb _ g1 rfl rfl) (bb _ Z rfl rfl) λc o x =>
  d5 _ (d5 _ (d5 _ (d5 _ (d5 _ x))))⟩
end
section
variable{loc:Loc}{H:AH}{A:Around}{d:Nat}
theorem yw{ws:List V}{v:V}(h:(gC vs ws)[i]?=some v):∃a b,vs[i]?=some a/\ws[i]?=some b/\v=.tup [a,b]:=by unfold gC at h;rw[List.getElem?_map]at h;refine af (m5.mp h) λp hp aP=>?_;subst aP;rw[List.getElem?_zip_eq_some]at hp;exact(bc p.1 p.2 hp.1 hp.2 rfl)
def Pz(z TO i1 i2:Addr):Addr->Prop:=λb=>b=z\/b=TO\/b=i1\/b=i2
structure ZSt(sa:SX)(z TI TO i1 i2 l1 l2:Addr)(xs ys:Array Value)(vs ws:List V)(i:Nat)(h:Heap):Prop where
 z:IsZip h z TI TO .none
 p:IsPair h TI (.ref i1) (.ref i2)
 o:∃a b,IsPair h TO a b
 f:h.IsTupleIter i1 l1 i
 g:h.IsTupleIter i2 l2 i
 t:h.IsTuple l1 xs
 u:h.IsTuple l2 ys
 x:VRs sa h vs xs.toList
 y:VRs sa h ws ys.toList
theorem ki{sa:SX}{l:Addr}(tk:TupKeep sa h h')(m:¬sa.X l)(t:h.IsTuple l xs):h'.IsTuple l xs :=t.elim λo e=>(aa o (tk _ _ m e.1 e.2.1 (mw _ e.2.2)) e.2)
theorem nt:¬Value.type "zip"=Value.type "tuple":=by decide
theorem ZSt.wt{sa:SX}{z TI TO i1 i2 l1 l2:Addr}{ys:Array Value}{ws:List V}(q:ZSt sa z TI TO i1 i2 l1 l2 xs ys vs ws i h)(hX:sa.X TO){c:Addr}(F:Pz z TO i1 i2 c)(e:h.get? c=some o)(B:o.cls=.type "tuple"):sa.X c:=by
 rcases F with rfl|rfl|rfl|rfl
 ·obtain rfl:=c9 (q.z.symm.trans e);exact absurd B nt
 ·exact hX
 ·exact q.f.elim λo' a=>by obtain rfl:=c9 (a.1.symm.trans e);rw[a.2.1]at B;exact absurd B (by decide)
 ·exact q.g.elim λo' a=>by obtain rfl:=c9 (a.1.symm.trans e);rw[a.2.1]at B;exact absurd B (by decide)
theorem zS{F:List Expr}{kk:Nat}(hh:A.handled=none){z TI TO i1 i2 l1 l2:Addr}(D:ZipApart z TI TO i1 i2 l1 l2)(hX:Γ.X TO)(nz:¬Γ.X z)(P:¬Γ.X TI)(n1:¬Γ.X i1)(n2:¬Γ.X i2)(m1:¬Γ.X l1)(m2:¬Γ.X l2){ys:Array Value}{ws:List V} : Iter Γ A z (Pz z TO i1 i2) (.Tuple F kk pos) none (gC vs ws) (ZSt Γ.sa z TI TO i1 i2 l1 l2 xs ys vs ws) where
 frame:=λi h h' q k tk=>⟨k _ _ (.inl rfl) q.z,tk _ _ P q.p rfl (vU _ _ rfl),q.o.elim λa e=>e.elim λb e=>(vU a b (k _ _ (.inr (.inl rfl)) e)),q.f.elim λo e=>(aa o (k _ _ (.inr (.inr (.inl rfl))) e.1) e.2),q.g.elim λo e=>(aa o (k _ _ (.inr (.inr (.inr rfl))) e.1) e.2),ki tk m1 q.t,ki tk m2 q.u,q.x.keep tk,q.y.keep tk⟩
 wt:=λi h q b o Y e ht=>q.wt hX Y e ht
 lw:=λi h q c hc=>by
  rcases hc with rfl|rfl|rfl|rfl
  ·rw[q.z];exact sn
  ·exact q.o.elim λa e=>e.elim λb e=>by rw[e];exact sn
  ·exact q.f.elim λo e=>by rw[e.1];exact sn
  ·exact q.g.elim λo e=>by rw[e.1];exact sn
 item:=λi v H s hv R hs q=>by refine bw (yw hv) λp r e1 e2 bx=>?_;subst bx;refine af (q.x.get e1) λx x1 x2=>?_;refine af (q.y.get e2) λy y1 y2=>?_;refine rY q.o λa b Q=>?_;refine Dy D q.z q.p Q q.f q.g q.t q.u (x:=x) (y:=y) (Array.getElem?_toList.symm.trans x1) (Array.getElem?_toList.symm.trans y1) λh' b1 b2 b3 b4 b5 k=>(aa _ rfl ?_);refine wpAny_letOwnedTupleGo_zip b1 λB c1 sb=>?_;have k2:∀c o,¬Pz z TO i1 i2 c->s.heap.get? c=some o->B.get? c=some o:=λc o hc e=>sb.extBut _ _ (λq=>hc (.inl q)) (k c o (λq=>hc (.inl q)) (λq=>hc (.inr (.inl q))) (λq=>hc (.inr (.inr (.inl q)))) (λq=>hc (.inr (.inr (.inr q)))) e);obtain tk:TupKeep Γ.sa s.heap B:=λc o nx e hc _=>k2 c o (λY=>nx (q.wt hX Y e hc)) e;exact(da (VR.tup' (R.nx (i9 (f7 _))) (bb _ (sb.extBut _ _ (E3 (o8 q.z)) b5) rfl (mw 0 rfl)) (.cons (x2.keep tk) (.one (y2.keep tk)))) (⟨c1,tk _ _ P q.p rfl (vU _ _ rfl),(vU _ _ (sb.extBut _ _ D.TOz b2)),IsTupleIter.ext b3 sb.extBut D.i1z,IsTupleIter.ext b4 sb.extBut D.i2z,ki tk m1 q.t,ki tk m2 q.u,q.x.keep tk,q.y.keep tk⟩) (fA B s.toks rfl k2))
 done:=λH s R hs q=>by
  obtain Z:xs.size=vs.length:=q.x.length;have ad:ys.size=ws.length:=q.y.length;have O:(gC vs ws).length=min vs.length ws.length:=by simp[gC]
  have J:xs[(gC vs ws).length]?=none\/ys[(gC vs ws).length]?=none:=by
   rw[O];rcases j0 vs.length ws.length with h|h
   ·exact .inl (M9 (by rw[Z,Nat.min_eq_left h];exact f7 _))
   ·exact .inr (M9 (by rw[ad,Nat.min_eq_right h];exact f7 _))
  refine rY q.o λa b Q=>?_;refine Dx hh D q.z q.p Q q.f q.g q.t q.u J λh' ht k=>(da rfl (fA h' s.toks rfl (λc o hc e=>k c o (λq=>hc (.inl q)) (λq=>hc (.inr (.inl q))) (λq=>hc (.inr (.inr (.inl q)))) (λq=>hc (.inr (.inr (.inr q)))) e)) (λc hc=>?_));by_cases G:c=TO
  ·rw[G];exact ht
  ·rcases e:s.heap.get? c with _|o
   ·exact absurd e (R.ex c hc)
   ·rw[k c o (λq=>nz (q▸hc)) G (λq=>n1 (q▸hc)) (λq=>n2 (q▸hc)) e];exact sn
 self:=λi s st=>wpAny_pyIter_zip st.1 ⟨rfl,rfl⟩
end
end
section
variable{K:rX->List V->AH->Prop}
section
variable{loc:Loc}{H:AH}{A:Around}{d:Nat}
theorem ForPost.after{H₀:AH}{c:Value}(S:EStep Γ env H₀ H s₀ s)(h:ForPost Γ env loc A tgt H s K c s'):ForPost Γ env loc A tgt H₀ s₀ K c s':=by obtain⟨X',F,Q,Y,I,W,vs,src,St,H',a,b,Z,J,hW,hn,hs,P,O,G⟩:=h;have nn:∀x,s.heap.get? x=none->s₀.heap.get? x=none:=λx B=>Decidable.byContradiction λz=>S.st.live x z B;exact⟨X',F,Q,λx B=>(Y x B).imp id (nn x),I,W,vs,src,St,H',a,b,Z,J,hW,λx B=>nn x (hn x B),hs,S.trans P,O,G⟩
theorem Rel.wide{B:∀b,X' b->Γ.base.get? b=none}(R:Rel Γ H h)(hX:∀b,X' b->Γ.X b\/h.get? b=none)(k:∀b o,h.get? b=some o->h'.get? b=some o)(ex:∀b,X' b->h'.get? b≠none):Rel ⟨Γ.toSx,X',B⟩ H h' :=⟨λb o e=>k b o (R.base b o e),R.fresh,λa o e=>by refine af (R.obj a o e) λob F G=>?_;exact(aa ob (k _ _ F) ((ORel.wide hX G).keep (TupKeep.of_keep k))),ex⟩
theorem RV(n l1 l2:Nat)(B:l1<n)(F:l2<n):ZipApart (n+4) (n+2) (n+3) n (n+1) l1 l2:=by constructor <;> exact(show(_:Nat)≠_ from by(first|exact QR|exact QS|exact QT|exact QU|exact OP|exact HE|exact HF|exact HG|exact HH|exact HI|exact DP B|exact DQ B|exact Am B|exact DR B|exact DP F|exact DQ F|exact Am F|exact DR F))
theorem Ri{n b:Nat}(h:b<n):b≠n+k:=by exact HJ h
theorem Dw(hh:A.handled=none)(F:Frame Γ env loc H s.heap)(R:Rel Γ H s.heap){Y:List Expr}{kk:Nat}{ws:List V}{cw:Value}(rv:VR Γ.sa s.heap (.tup vs) cv)(a5:VR Γ.sa s.heap (.tup ws) cw)(q:K none (gC vs ws) H) : wpAny (model Γ.prog Γ.w) A (call (.type "zip") [cv,cw]) (λxv s₁=>wpAny (model Γ.prog Γ.w) A (pyIter xv) (ForPost Γ env loc A (.Tuple Y kk pos) H s K) aD s₁) aD s:=by
 refine rV rv λl1 xs n1 bx a3 bK r1=>?_;subst bx;obtain⟨o1,ho1,ad,an⟩:=bK;refine rV a5 λl2 ys n2 cC a4 dj r2=>?_;subst cC;obtain⟨o2,Q,hc2,ar⟩:=dj;obtain t1:s.heap.IsTuple l1 xs:=⟨o1,ho1,ad,n1,an⟩;obtain t2:s.heap.IsTuple l2 ys:=(bb o2 Q hc2 (mw n2 ar));refine BV t1 t2 λh' hz a0 Z a1 a2 k=>?_;refine wpAny_pyIter_zip hz ?_;have fr:∀b,s.heap.objs.size<=b->s.heap.get? b=none:=λb B=>i9 B;obtain nX:∀b,s.heap.objs.size<=b->¬Γ.X b:=λb B=>R.nx (fr b B);obtain av:=o8 ho1;obtain ax:=o8 Q
 let X':Addr->Prop:=λb=>Γ.X b\/b=s.heap.objs.size+3
 have O:∀b,X' b->Γ.base.get? b=none:=λb B=>B.elim (Γ.hX b) λe=>by rw[e];exact(R.free (fr _ (by exact An))).2
 have J:∀b,X' b->Γ.X b\/s.heap.get? b=none:=λb B=>B.imp id λe=>by rw[e];exact fr _ An
 obtain ex:∀b,X' b->h'.get? b≠none:=λb B=>B.elim (λB=>Pt (R.ex b B) λo e=>k b o e) λe=>e▸HB Z;obtain S:Step Γ dZ H H s { s with heap:=h' }:=Step.grow R rfl rfl k;have R':Rel ⟨Γ.toSx,X',O⟩ H h':=R.wide J k ex;obtain F':Frame ⟨Γ.toSx,X',O⟩ env loc H h':=(F.wide J).stepNo (s':={ s with heap:=h' }) (S.wide (λ_ h=>.inl h) R');obtain D:ZipApart (s.heap.objs.size+4) (s.heap.objs.size+2) (s.heap.objs.size+3) s.heap.objs.size (s.heap.objs.size+1) l1 l2:=RV _ _ _ av ax;obtain P:∀b,s.heap.objs.size<=b->b≠s.heap.objs.size+3->¬X' b:=λb B hn z=>z.elim (nX b B) hn;have G:∀b,Pz (s.heap.objs.size+4) (s.heap.objs.size+3) s.heap.objs.size (s.heap.objs.size+1) b->s.heap.get? b=none:=λb B=>fr b (by rcases B with rfl|rfl|rfl|rfl <;>(first|exact DS|exact An|exact DT|exact Ao));have tk:TupKeep Γ.sa s.heap h':=TupKeep.of_keep k;refine⟨X',O,λ_ h=>.inl h,J,_,_,gC vs ws,none,_,H,q,rfl,?_,zS (Γ:=⟨Γ.toSx,X',O⟩) hh D (.inr rfl) (P _ DS HK) (P _ HL OP) (P _ DT HM) (P _ Ao HN) (λz=>z.elim a3 λe=>Ri av e) (λz=>z.elim a4 λe=>Ri ax e) (xs:=xs) (ys:=ys) (vs:=vs) (ws:=ws),⟨λb B=>(R.free (G b B)).1,λb B=>(R.free (G b B)).2,λB=>?_,λn c e B=>?_⟩,G,trivial,S.toE F.lH,R',F'⟩
 ·exact⟨hz,a0,(vU _ _ Z),a1,a2,(bb o1 (k _ _ ho1) ad (mw n1 an)),(bb o2 (k _ _ Q) hc2 (mw n2 ar)),(VRs.wide (sa:=Γ.sa) J r1).keep (TupKeep.of_keep k),(VRs.wide (sa:=Γ.sa) J r2).keep (TupKeep.of_keep k)⟩
 ·refine af F.ns λm a6 _=>?_;obtain⟨o,_,_,e,_⟩:=a6;exact nn (G _ B) e
 ·refine jg (F.cell n c e) λ_ _ a7=>?_;refine cb a7 λ_ o e' _=>?_;exact nn (G _ B) e'
theorem Cn(C:CxOK Γ.toSx)(PO:∀p,aL Γ p){a b:ME}{x:Expr}(hc:zz env.scope.names (.zip a b) x=true)(ht:nA (.zip a b) tgt=true)(F:Frame Γ env loc H s.heap)(R:Rel Γ H s.heap)(Y:Room A d)(h:mr Γ.toSx d (.zip a b) loc H K) : wpAny (model Γ.prog Γ.w) A (eval x env) (λxv s₁=>wpAny (model Γ.prog Γ.w) A (pyIter xv) (ForPost Γ env loc A tgt H s K) aD s₁) aD s:=by refine onCall_inv hc λg as ks p hk=>onName_inv hk λid ip hk=>on2_el hk λy z hk=>onTuple_inv ht λan kk pos _=>?_;obtain k1:=and_t hk;have k2:=and_t k1.2;have J:=and_t k2.2;obtain g0:=and_t k2.1;have g1:=and_t g0.1;obtain rfl:=u5 g1.1;rw[List.isEmpty_iff.mp k1.1];refine Pp C.ns λmg mb G B _ _ _ Q=>?_;obtain⟨hm,hv⟩:=Q ("zip",.type "zip") (bi (i:=12) rfl);refine Call_ (iI F R G B g1.2 g0.2 hm hv (D8 (e:=y) (rest:=[z]) ?_ (db J.1 [z] env) (by rw[Br (λrest=>db J.2 rest env)];rfl)));rw[dQ J.1,dQ J.2];refine y6 (aX (sE C PO a J.1 F R Y h) λv H1 c s1 h1 r1 O=>y6 (aX (sE C PO b J.2 (F.estep O) O.st.rel Y h1) λu H2 c2 s2 h2 r2 P=>I2 ?_));refine rU h2 λvs ws Z ad _ _ q=>?_;subst Z;subst ad;exact d8 (Dw Y.1 ((F.estep O).estep P) P.st.rel (r1.keep P.st.tup) r2 q) (λxv s3 h3=>d8 h3 (λ_ _ h=>ForPost.after (O.trans P) h) λ_ _ e=>e) λ_ _ e=>e
theorem pU(C:CxOK Γ.toSx)(PO:∀p,aL Γ p){it:MIt}{x:Expr}(hc:kX env.scope.names it x=true)(O:cf tgt=true)(F:Frame Γ env loc H s.heap)(R:Rel Γ H s.heap)(J:Room A d)(h:mr Γ.toSx d it loc H K) : wpAny (model Γ.prog Γ.w) A (eval x env) (λP s₁=>wpAny (model Γ.prog Γ.w) A (pyIter P) (ForPost Γ env loc A tgt H s K) aD s₁) aD s :=d8 (RJ C PO it hc O F R J h) (λ_ _ B=>d8 B (λ_ _ G=>ForPost.of F G) λ_ _ e=>e) λ_ _ e=>e
end
end
noncomputable def Ask(r:Nat->Nat)(n:Nat):KasT α->(α->Prop)->Prop
 | .ret a,G=>G a
 | .ask i j k,G=>i<n/\j<n/\Ask r n (k (decide (r i<r j))) G
section
variable{r:Nat->Nat}{n:Nat}
theorem Ask.bind{f:α->KasT β}{G:β->Prop}:∀{t:KasT α},Ask r n t (λa=>Ask r n (f a) G)->Ask r n (t.bind f) G
 | .ret a,h=>h
 | .ask i j k,h=>(da h.1 h.2.1 (Ask.bind h.2.2))
theorem Ask.mono{G B:α->Prop}(q:∀a,G a->B a):∀{t:KasT α},Ask r n t G->Ask r n t B
 | .ret a,h=>q a h
 | .ask i j k,h=>(da h.1 h.2.1 (Ask.mono q h.2.2))
theorem Ask.wp{G:α->Prop}{cmp:Nat->Nat->(Bool->Shared->Prop)->Shared->Prop}{I:Shared->Prop}(hc:∀i j (C:Bool->Shared->Prop) s,i<n->j<n->I s->(∀s',I s'->C (decide (r i<r j)) s')->cmp i j C s) : ∀{t:KasT α}{s:Shared}{Q:α->Shared->Prop},Ask r n t G->I s->(∀a s',G a->I s'->Q a s')->t.kasWp cmp Q s
 | .ret a,s,Q,h,B,q=>q a s h B
 | .ask i j k,s,Q,h,B,q=>hc i j _ s h.1 h.2.1 B λs' F=>Ask.wp hc h.2.2 F q
noncomputable def rk(r:Nat->Nat)(p:Array Nat)(i:Nat):Nat:=r (p.getD i 0)
theorem Ask.two{k:Bool->KasT α}{G:α->Prop}(hi:p.getD i 0<n)(F:p.getD j 0<n)(B:rk r p i<rk r p j->Ask r n (k true) G)(J:rk r p j<=rk r p i->Ask r n (k false) G):Ask r n (.ask (p.getD i 0) (p.getD j 0) k) G:=by
 refine(da hi F ?_);by_cases h:rk r p i<rk r p j
 ·rw[show decide (r (p.getD i 0)<r (p.getD j 0))=true from decide_eq_true h];exact B h
 ·rw[show decide (r (p.getD i 0)<r (p.getD j 0))=false from decide_eq_false h];exact J (g7 h)
structure PP(n:Nat)(p:Array Nat):Prop where
 size:p.size=n
 perm:p.toList.Perm (List.range n)
theorem PP.lt(h:PP n p)(hi:i<n):p.getD i 0<n:=by
 obtain B:i<p.size:=by rw[h.size];exact hi
 have:p.getD i 0∈p.toList:=by rw[Array.getD,dif_pos B];exact w4.mpr (Array.getElem_mem B)
 exact j9.mp (h.perm.mem_iff.mp this)
theorem ij{q:Array Nat}(h:p[i]?=q[j]?):rk r p i=rk r q j:=by unfold rk;rw[Array.getD_eq_getD_getElem?,Array.getD_eq_getD_getElem?,h]
theorem PP.rev(h:PP n p)(i j:Nat):PP n (kas_rev p i j) :=⟨by rw[<- h.size];exact mirror_size _ _ _ _,(Array.perm_iff_toList_perm.mp (mirror_perm p i j _)).trans h.perm⟩
theorem PP.bubble(h:PP n p)(k d:Nat):PP n (bubble p k d) :=⟨by rw[<- h.size];exact bubble_size _ _ _,(Array.perm_iff_toList_perm.mp (bubble_perm p k d)).trans h.perm⟩
theorem vq(B:j<=p.size)(k:Nat):rk r (kas_rev p i j) k=if i<=k/\k<j then rk r p (i+j-1-k)else rk r p k:=by
 obtain e:=getElem?_mirror_all (xs:=p) (i:=i) B k;by_cases h:i<=k/\k<j
 ·rw[if_pos h]at e ⊢;exact ij e
 ·rw[if_neg h]at e ⊢;exact ij e
theorem yA{l:Nat}(hs:k<p.size)(hl:l<=k):(∀i,i<l->rk r (bubble p k (k-l)) i=rk r p i)/\rk r (bubble p k (k-l)) l=rk r p k/\∀i,l<=i->i<k->rk r (bubble p k (k-l)) (i+1)=rk r p i:=by
 obtain e:=getElem?_bubble hs (k-l) (A7 k l);rw[Nat.sub_sub_self hl]at e;refine⟨λi hi=>ij ?_,ij ?_,λi B F=>ij ?_⟩
 ·obtain e:=e i;rwa [if_neg (n9 hi),if_neg λz=>Nat.lt_asymm hi z.1]at e
 ·obtain e:=e l;rwa [if_pos rfl]at e
 ·obtain e:=e (i+1);rwa [if_neg (E3 (C8 B)),if_pos ⟨C8 B,F⟩]at e
def Up(r:Nat->Nat)(p:Array Nat)(k:Nat):Prop:=∀i j,i<=j->j<k->rk r p i<=rk r p j
def Down(r:Nat->Nat)(p:Array Nat)(k:Nat):Prop:=∀i j,i<=j->j<k->rk r p j<=rk r p i
theorem eB{f n:Nat}(h:m+(f+1)<=n):m<n:=o6 (Nat.lt_add_of_pos_right (u7 f)) h
theorem iq{f n:Nat}(h:m+(f+1)<=n):m+1+f<=n:=by rw[Nat.add_right_comm];exact h
theorem mH{n:Nat}(h:m<n):m-1<n:=d9 (A7 m 1) h
theorem ka(h:1<=m):m-1<m:=Nat.sub_lt h Nat.one_pos
theorem Up.one:Up r p 1:=λi j B F=>by obtain rfl:=Nat.lt_one_iff.mp F;obtain rfl:=Q4.mp B;exact f7 _
theorem Up.succ(J:Up r p m)(O:1<=m)(h:rk r p (m-1)<=rk r p m):Up r p (m+1):=λi j B P=>by
 rcases z0 (p5 P)with G|rfl
 ·exact J i j B G
 ·rcases z0 B with F|rfl
  ·exact b8 (J i (j-1) (J5 F) (ka O)) h
  ·exact f7 _
theorem Down.succ(J:Down r p m)(O:1<=m)(h:rk r p m<=rk r p (m-1)):Down r p (m+1):=λi j B P=>by
 rcases z0 (p5 P)with G|rfl
 ·exact J i j B G
 ·rcases z0 B with F|rfl
  ·exact b8 h (J i (j-1) (J5 F) (ka O))
  ·exact f7 _
theorem qG(hp:PP n p){G:Nat->Prop}:∀(f m:Nat),m+f<=n->1<=m->Up r p m->(∀B,1<=B->B<=n->Up r p B->(B=m+f\/(B<n/\rk r p B<rk r p (B-1)))->G B)->Ask r n (kas_asc p f m) G
 |0,m,F,J,P,O=>O m J F P (.inl rfl)
 |f+1,m,F,J,P,O=>Ask.two (hp.lt (eB F)) (hp.lt (mH (eB F))) (λh=>O m J (j7 (eB F)) P (.inr ⟨eB F,h⟩))
   λh=>qG hp f (m+1) (iq F) (u7 m) (P.succ J h) λB a b c d=>O B a b c (d.imp (λe=>e.trans (Nat.add_right_comm m 1 f)) id)
theorem ql(F:j<=p.size)(B:∀k,i<=k->k<j->rk r p k=rk r p (j-1))(k:Nat):rk r (kas_rev p i j) k=rk r p k:=by
 rw[vq F];by_cases h:i<=k/\k<j
 ·rw[if_pos h,B k h.1 h.2,B _ (HO h.2) (HP h.1 h.2)]
 ·rw[if_neg h]
structure Fall(r:Nat->Nat)(n:Nat)(p:Array Nat)(m q:Nat):Prop where
 pp:PP n p
 le:m<=n
 hq:q+1<=m
 down:Down r p m
 eq:∀k,m-(q+1)<=k->k<m->rk r p k=rk r p (m-1)
theorem Fall.turn{q:Nat}(F:Fall r n p m q)(k:Nat):rk r (kas_rev p (m-(q+1)) m) k=rk r p k:=ql (by rw[F.pp.size];exact F.le) F.eq k
theorem Down.congr{B:Array Nat}(h:Down r p m)(e:∀k,rk r B k=rk r p k):Down r B m:=λi j a b=>by rw[e,e];exact h i j a b
theorem Fall.next{B:Array Nat}{q:Nat}(F:Fall r n p m q)(hm:m<n)(h:rk r p m<=rk r p (m-1))(hp:PP n B)(e:∀k,rk r B k=rk r p k):Fall r n B (m+1) 0 :=⟨hp,hm,t8 (m6 m),(F.down.succ (b8 (u7 q) F.hq) h).congr e,λk G J=>by rw[Nat.le_antisymm (Nat.le_of_lt_succ J) G];rfl⟩
theorem Fall.same{q:Nat}(F:Fall r n p m q)(hm:m<n)(h:rk r p m<=rk r p (m-1))(h':rk r p m<=rk r p (m-1)/\rk r p (m-1)<=rk r p m):Fall r n p (m+1) (q+1) :=
 ⟨F.pp,hm,t8 F.hq,F.down.succ (b8 (u7 q) F.hq) h,λk B G=>by
  rcases z0 (p5 G)with hk|rfl
  ·rw[F.eq k (by rwa [Nat.succ_sub_succ]at B) hk];exact f6 h'.2 h'.1
  ·rfl⟩
theorem jE{G:Array Nat×Nat×Nat->Prop}:∀(f:Nat)(p:Array Nat)(m q:Nat),m+f<=n->Fall r n p m q->(∀P O Q,Fall r n P O Q->G (P,O,Q))->Ask r n (kas_desc f p m q) G
 |0,p,m,q,_,F,B=>B p m q F
 |f+1,p,m,q,J,F,B=>by
  obtain hm:=eB J;refine Ask.two (F.pp.lt hm) (F.pp.lt (mH hm)) (λh=>?_) λh=>Ask.two (F.pp.lt (mH hm)) (F.pp.lt hm) (λh'=>B p m q F) λh'=>jE f p (m+1) (q+1) (iq J) (F.same hm h' ⟨h',h⟩) B;show Ask r n (if q>0 then _ else _) G;by_cases hq:q>0
  ·rw[if_pos hq];exact jE f _ (m+1) 0 (iq J) (F.next hm (j7 h) (F.pp.rev _ _) F.turn) B
  ·rw[if_neg hq];exact jE f _ (m+1) 0 (iq J) (F.next hm (j7 h) F.pp λ_=>rfl) B
theorem Up.rev(hm:m<=p.size)(h:Down r p m):Up r (kas_rev p 0 m) m:=by intro i j B F;obtain hi:=d9 B F;rw[vq hm,vq hm,if_pos ⟨Nat.zero_le i,hi⟩,if_pos ⟨Nat.zero_le j,F⟩,Nat.zero_add];exact h _ _ (Nat.sub_le_sub_left B _) (d9 (A7 _ i) (ka (d9 (m6 i) hi)))
abbrev PB(r:Nat->Nat)(n:Nat)(x:Nat×Array Nat):Prop:=PP n x.2/\1<=x.1/\x.1<=n/\Up r x.2 x.1
theorem pL(hp:PP n p)(B:1<=m)(hm:m<=n)(hd:Down r p m):Ask r n (kas_tail3 m n p) (PB r n) :=Ask.bind (qG (hp.rev 0 m) (n-m) m (a8 (A9 hm)) B (Up.rev (by rw[hp.size];exact hm) hd) λF a b c _=>(mu (hp.rev 0 m) a b c))
theorem jF(hp:PP n p)(B:1<=m)(hm:m<n)(hd:Down r p m)(hl:rk r p m<rk r p (m-1)):Ask r n (kas_descPart m n p) (PB r n):=by
 refine Ask.bind (jE (n-(m+1)) p (m+1) 0 (a8 (A9 hm)) ⟨hp,hm,t8 (m6 m),hd.succ B (j7 hl),λk B J=>by rw[Nat.le_antisymm (Nat.le_of_lt_succ J) B];rfl⟩ λP O G F=>?_);obtain B:=b8 (u7 G) F.hq;by_cases hq:G>0
 ·rw[if_pos hq];exact pL (F.pp.rev _ _) B F.le (F.down.congr F.turn)
 ·rw[if_neg hq];exact pL F.pp B F.le F.down
theorem Down.one(h:¬m>1):Down r p m:=λi j B F=>by obtain F:=Nat.lt_one_iff.mp (o6 F (g7 h));subst F;obtain rfl:=Q4.mp B;exact f7 _
theorem xJ(hp:PP n p)(J:1<=n):Ask r n (kas_count n p) (PB r n):=by
 refine Ask.bind (qG hp (n-1) 1 (a8 (A9 J)) (f7 _) Up.one λm a b c d=>?_);by_cases G:m=n
 ·rw[if_pos (beq_iff_eq.mpr G)];exact(mu hp a b c)
 ·rw[if_neg (mt beq_iff_eq.mp G)];refine bQ (show m<n/\rk r p m<rk r p (m-1)from d.elim (λe=>absurd (e.trans (A9 J)) G) id) λhm hl=>?_;by_cases F:m>1
  ·rw[if_pos F];refine Ask.two (hp.lt J) (hp.lt (mH hm)) (λh=>(mu hp a b c)) λh=>?_;have B:∀k,0<=k->k<m->rk r p k=rk r p (m-1):=λk _ hk=>f6 (c k (m-1) (J5 hk) (ka a)) (b8 h (c 0 k (m6 _) hk));have hk:=ql (r:=r) (p:=p) (i:=0) (j:=m) (by rw[hp.size];exact b) B;exact jF (hp.rev 0 m) a hm (λi j O P=>by rw[hk,hk,B i (Nat.zero_le _) (Nat.lt_of_le_of_lt O P),B j (Nat.zero_le _) P];exact f7 _) (by rw[hk,hk];exact hl)
  ·rw[if_neg F];exact jF hp a hm (Down.one F) hl
theorem PK{l u:Nat}(h:¬l≥u):l<=(l+u)/2/\(l+u)/2<u:=by exact HQ h
theorem kq(hp:PP n p)(hk:k<n)(Z:Up r p k){G:Nat->Prop}(Y:∀l,l<=k->(∀i,i<l->rk r p i<=rk r p k)->(∀i,l<=i->i<k->rk r p k<rk r p i)->G l) : ∀(f l u:Nat),l<=u->u<=k->u-l<=f->(∀i,i<l->rk r p i<=rk r p k)->(∀i,u<=i->i<k->rk r p k<rk r p i)->Ask r n (kas_place p k f l u) G
 |0,l,u,h1,J,O,P,Q=>by have e:l=u:=f6 h1 (Nat.sub_eq_zero_iff_le.mp (Q4.mp O));subst e;exact Y l J P Q
 |f+1,l,u,h1,J,O,P,Q=>by
  show Ask r n (if l≥u then _ else _) G;by_cases B:l≥u
  ·rw[if_pos B];obtain rfl:=f6 h1 B;exact Y l J P Q
  ·rw[if_neg B];refine bQ (PK B) λha hb=>?_;have F:=o6 hb J;exact Ask.two (hp.lt hk) (hp.lt (m4 F hk)) (λh=>kq hp hk Z Y f l _ ha (j7 F) (p5 (o6 (Nat.sub_lt_sub_right ha hb) O)) P λi a b=>o6 h (Z _ i a b))
    λh=>kq hp hk Z Y f _ u hb J (p5 (o6 (Nat.sub_lt_sub_left (B7 B) (C8 ha)) O)) (λi a=>b8 (Z i _ (p5 a) F) h) Q
abbrev qB(r:Nat->Nat)(n:Nat)(p:Array Nat):Prop:=PP n p/\Up r p n
theorem Up.put{l:Nat}(hs:k<p.size)(hl:l<=k)(J:Up r p k)(P:∀i,i<l->rk r p i<=rk r p k)(Q:∀i,l<=i->i<k->rk r p k<rk r p i):Up r (bubble p k (k-l)) (k+1):=by
 refine jg (yA (r:=r) hs hl) λb1 b2 O=>?_;intro i j B Y;rcases C9 j l with h|rfl|h
 ·rw[b1 j h,b1 i (Nat.lt_of_le_of_lt B h)];exact J i j B (o6 h hl)
 ·rw[b2];rcases z0 B with h|rfl
  ·rw[b1 i h];exact P i h
  ·rw[b2];exact f7 _
 ·rcases j with _|j
  ·exact absurd h (u3 l)
  ·have G:=p5 h;have F:=Nat.lt_of_succ_lt_succ Y;rw[O j G F];rcases C9 i l with h|rfl|h
   ·rw[b1 i h];exact J i j (b8 (j7 h) G) F
   ·rw[b2];exact j7 (Q j G F)
   ·rcases i with _|i
    ·exact absurd h (u3 l)
    ·rw[O i (Nat.le_of_lt_succ h) (Nat.lt_of_lt_of_le (Nat.lt_succ_self i) (Nat.le_trans B F))];exact J i j (I5 B) F
theorem vZ:∀(f:Nat)(p:Array Nat)(k:Nat),PP n p->k+f=n->Up r p k->Ask r n (kas_bin f p k) (qB r n)
 |0,p,k,hp,hk,F=>⟨hp,(show k=n from hk)▸F⟩
 |f+1,p,k,hp,hk,F =>
  have B:=eB (a8 hk)
  Ask.bind (kq hp B F (λl hl G J=>vZ f _ (k+1) (hp.bubble _ _) ((Nat.add_right_comm k 1 f).trans hk) (Up.put (by rw[hp.size];exact B) hl F G J)) k 0 k (m6 _) (f7 _) (f7 _) (λi hi=>absurd hi (u3 _)) λi a b=>absurd b (Nat.not_lt.mpr a))
end
theorem zh{r:Nat->Nat}{n:Nat}(B:1<=n):Ask r n (kas_sort n) (qB r n):=by
 obtain hp:PP n (List.toArray (List.range n)):=⟨List.length_range,r7 _⟩;refine Ask.bind (Ask.mono (λx F=>?_) (xJ hp B));refine rT F λa b c d=>?_;show Ask r n (if x.1<n then _ else _) _;rw[Nat.max_eq_left b];by_cases h:x.1<n
 ·rw[if_pos h];exact vZ _ _ _ a (A9 c) d
 ·rw[if_neg h];exact⟨a,f6 c (g7 h)▸d⟩
mutual
theorem jA:∀(v:V),dP v v=false
 | .int i=>q7 (Int.lt_irrefl i)
 | .str s=>q7 (String.lt_irrefl s)
 | .tup xs=>lY xs
 | .none=>rfl
 | .bool _=>rfl
 | .ref _=>rfl
 | .scr=>rfl
theorem lY:∀(xs:List V),eQ xs xs=false
 | []=>rfl
 |x::xs=>by show(if cM x x=true then eQ xs xs else dP x x)=false;rw[if_pos (cR x)];exact lY xs
end
theorem bo(v:V):cM v v=true:=cR v
theorem fR{y:V}{xs ys:List V}:eQ (x::xs) (y::ys)=if cM x y then eQ xs ys else dP x y:=rfl
theorem mM{xs ys:List V}:eQ (x::xs) (x::ys)=eQ xs ys:=if_pos (cR x)
theorem gz{y:V}{xs ys:List V}(h:x≠y):eQ (x::xs) (y::ys)=dP x y:=if_neg λe=>h ((bt _ _).mp e)
mutual
theorem mL:∀(v w:V),bS v w=true->dP v w=true\/v=w\/dP w v=true
 | .int i,w,h=>by
  cases w with
  |int j=>exact(Int.lt_trichotomy i j).imp r8 (Or.imp (j6 V.int) r8)
  |_=>exact ag h
 | .str s,w,h=>by
  cases w with
  |str t =>
   by_cases h:s<t
   ·exact .inl (r8 h)
   ·by_cases h':t<s
    ·exact .inr (.inr (r8 h'))
    ·exact .inr (.inl (j6 V.str (String.le_antisymm (String.not_lt.mp h') (String.not_lt.mp h))))
  |_=>exact ag h
 | .tup xs,w,h=>by
  cases w with
  |tup ys=>exact(uf xs ys h).imp id (Or.imp (j6 V.tup) id)
  |_=>exact ag h
 | .none,w,h=>ag h
 | .bool _,w,h=>ag h
 | .ref _,w,h=>ag h
 | .scr,w,h=>ag h
theorem uf:∀(xs ys:List V),eT xs ys=true->eQ xs ys=true\/xs=ys\/eQ ys xs=true
 | [],[],_=>.inr (.inl rfl)
 | [],y::ys,_=>.inl rfl
 |x::xs,[],_=>.inr (.inr rfl)
 |x::xs,y::ys,h=>by
  obtain h:=and_t h;by_cases e:x=y
  ·subst e;rw[mM,mM];exact(uf xs ys h.2).imp id (Or.imp (j6 (x::·)) id)
  ·rw[gz e,gz (Ne.symm e)];exact(mL x y h.1).imp id (Or.imp (λz=>absurd z e) id)
end
mutual
theorem fQ:∀(u v w:V),bS u v=true->bS v w=true->dP u v=true->dP v w=true->dP u w=true
 | .int i,v,w,c,d,a,b=>by
  cases v with
  |int j=>cases w with
   |int k=>exact r8 (P9 (f8 a) (f8 b))
   |_=>exact ag d
  |_=>exact ag c
 | .str s,v,w,c,d,a,b=>by
  cases v with
  |str t=>cases w with
   |str u=>exact r8 (String.lt_trans (f8 a) (f8 b))
   |_=>exact ag d
  |_=>exact ag c
 | .tup xs,v,w,c,d,a,b=>by
  cases v with
  |tup ys=>cases w with
   |tup B=>exact oW xs ys B c d a b
   |_=>exact ag d
  |_=>exact ag c
 | .none,_,_,h,_,_,_=>ag h
 | .bool _,_,_,h,_,_,_=>ag h
 | .ref _,_,_,h,_,_,_=>ag h
 | .scr,_,_,h,_,_,_=>ag h
theorem oW:∀(us vs ws:List V),eT us vs=true->eT vs ws=true->eQ us vs=true->eQ vs ws=true->eQ us ws=true
 | [],vs,[],_,_,a,b=>by
  rcases vs with _|⟨_,_⟩
  ·exact ag a
  ·exact ag b
 |u::us,vs,[],_,_,a,b=>by
  rcases vs with _|⟨_,_⟩
  ·exact ag a
  ·exact ag b
 | [],_,_::_,_,_,_,_=>rfl
 |u::us,vs,w::ws,c,d,a,b=>by
  rcases vs with _|⟨v,vs⟩
  ·exact ag a
  ·obtain c:=and_t c;obtain d:=and_t d;by_cases e1:u=v
   ·subst e1;rw[mM]at a;by_cases e2:u=w
    ·subst e2;rw[mM]at b ⊢;exact oW us vs ws c.2 d.2 a b
    ·rw[gz e2]at b ⊢;exact b
   ·rw[gz e1]at a;by_cases e2:v=w
    ·subst e2;rw[gz e1];exact a
    ·rw[gz e2]at b;have t:=fQ u v w c.1 d.1 a b;rw[gz λB=>by subst B;rw[jA]at t;exact ag t];exact t
end
theorem dO:∀{xs ys:List V},xs.Perm ys->(∀x∈xs,∀y∈xs,bS x y=true)->xs.Pairwise (λa b=>dP b a=false)->ys.Pairwise (λa b=>dP b a=false)->xs=ys
 | [],ys,p,_,_,_=>(List.nil_perm.mp p).symm
 |x::xs,[],p,_,_,_=>by obtain B:=p.length_eq;simp at B
 |x::xs,y::ys,p,hc,G,J=>by
  rw[List.pairwise_cons]at G J;have e:x=y:=by
   obtain O:x∈y::ys:=p.mem_iff.mp d6;obtain F:y∈x::xs:=p.mem_iff.mpr d6;rcases i8.mp O with e|O
   ·exact e
   ·rcases i8.mp F with e|F
    ·exact e.symm
    ·have a:=J.1 x O;have b:=G.1 y F;rcases mL x y (hc x d6 y (d7 _ F))with t|t|t
     ·rw[a]at t;exact ag t
     ·exact t
     ·rw[b]at t;exact ag t
  subst e;rw[dO (p.cons_inv) (λa P b Q=>hc a (List.mem_cons_of_mem _ P) b (List.mem_cons_of_mem _ Q)) G.2 J.2]
theorem yn{a b c:V}(B:bS a b=true)(G:bS b c=true)(J:bS a c=true)(x:dP b a=false)(y:dP c b=false)(O:bS b a=true)(P:bS c b=true)(F:bS c a=true):dP c a=false:=by
 rcases e:dP c a with _|_
 ·rfl
 ·rcases mL a b B with t|t|t
  ·have:=fQ c a b F B e t
   rw[y]at this;exact ag this
  ·subst t;rw[y]at e;exact ag e
  ·rw[x]at t;exact ag t
theorem kQ(x:V):∀ys:List V,(ub x ys).Perm (x::ys)
 | []=>r7 _
 |y::ys=>by
  unfold ub;split
  ·exact((kQ x ys).cons y).trans (List.Perm.swap x y ys)
  ·exact r7 _
theorem ai:∀vs:List V,(aJ vs).Perm vs
 | []=>r7 _
 |x::xs=>(kQ x _).trans ((ai xs).cons x)
theorem lX(x:V):∀ys:List V,(∀a∈x::ys,∀b∈x::ys,bS a b=true)->ys.Pairwise (λa b=>dP b a=false)->(ub x ys).Pairwise (λa b=>dP b a=false)
 | [],_,_=>by simp[ub]
 |y::ys,hc,h=>by
  rw[List.pairwise_cons]at h;unfold ub;split
  ·rename_i B;rw[List.pairwise_cons];refine⟨λa F=>?_,lX x ys (λa F b P=>hc a (by simp at F ⊢;exact F.imp id .inr) b (by simp at P ⊢;exact P.imp id .inr)) h.2⟩;rcases i8.mp ((kQ x ys).mem_iff.mp F)with e|F
   ·subst e;rcases q:dP a y with _|_
    ·rfl
    ·have:=fQ y a y (hc _ (by simp) _ (by simp)) (hc _ (by simp) _ (by simp)) B q
     rw[jA]at this;exact ag this
   ·exact h.1 a F
  ·rename_i B;obtain B:dP y x=false:=G9.mpr B;rw[List.pairwise_cons];refine⟨λa F=>?_,List.pairwise_cons.mpr h⟩;rcases i8.mp F with e|F
   ·subst e;exact B
   ·obtain G:x∈x::y::ys:=d6;have J:y∈x::y::ys:=by simp
    obtain O:a∈x::y::ys:=by simp[F]
    exact yn (hc _ G _ J) (hc _ J _ O) (hc _ G _ O) B (h.1 a F) (hc _ J _ G) (hc _ O _ J) (hc _ O _ G)
theorem bZ:∀vs:List V,(∀a∈vs,∀b∈vs,bS a b=true)->(aJ vs).Pairwise (λa b=>dP b a=false)
 | [],_=>by simp[aJ]
 |x::xs,hc=>by
  refine lX x _ (λa B b F=>hc a ?_ b ?_) (bZ xs λa B b F=>hc a (d7 _ B) b (d7 _ F))
  ·exact((ai xs).cons x).mem_iff.mp B
  ·exact((ai xs).cons x).mem_iff.mp F
theorem pO{p q:α->Bool}:∀{l:List α},(∀x∈l,p x=true->q x=true)->(∃x∈l,q x=true/\p x=false)->l.countP p<l.countP q
 | [],_,h=>by refine af h λx B _=>?_;exact absurd B i6
 |a::l,hm,h=>by
  obtain F:l.countP p<=l.countP q:=List.countP_mono_left λx B hp=>hm x (d7 _ B) hp;by_cases O:∃x∈l,q x=true/\p x=false
  ·obtain P:=pO (λx B=>hm x (d7 _ B)) O;rw[List.countP_cons,List.countP_cons];cases e:p a with
   |true=>simp[hm a List.mem_cons_self e];exact P
   |false=>simp;exact HR P
  ·refine cL h λx B G J=>?_;rcases i8.mp B with rfl|B
   ·rw[List.countP_cons,List.countP_cons];simp[G,J];exact Ap F
   ·exact absurd (bb x B G J) O
noncomputable def oZ(vs:List V)(i:Nat):Nat:=(List.range vs.length).countP λj=>dP (vs.getD j .none) (vs.getD i .none)
theorem bC(h:i<vs.length):vs.getD i .none∈vs:=by rw[List.getD_eq_getElem?_getD,List.getElem?_eq_getElem h];exact List.getElem_mem h
theorem ui(hc:∀a∈vs,∀b∈vs,bS a b=true)(hi:i<vs.length)(F:j<vs.length):decide (oZ vs i<oZ vs j)=dP (vs.getD i .none) (vs.getD j .none):=by
 obtain G:=bC hi;obtain J:=bC F;have mono:∀{i j:Nat},i<vs.length->j<vs.length->(dP (vs.getD i .none) (vs.getD j .none)=true\/vs.getD i .none=vs.getD j .none)->oZ vs i<=oZ vs j:=by
  intro i j hi F h;refine List.countP_mono_left λx B hp=>?_;obtain B:=bC (j9.mp B);rcases h with h|h
  ·exact fQ _ _ _ (hc _ B _ (bC hi)) (hc _ (bC hi) _ (bC F)) hp h
  ·rw[<- h];exact hp
 cases e:dP (vs.getD i .none) (vs.getD j .none)with
 |true =>refine r8 (pO (λx B hp=>?_) (bb i (j9.mpr hi) e (jA _)));exact fQ _ _ _ (hc _ (bC (j9.mp B)) _ G) (hc _ G _ J) hp e
 |false =>
  refine q7 (Nat.not_lt.mpr (mono F hi ?_));rcases mL _ _ (hc _ G _ J)with t|t|t
  ·rw[e]at t;exact ag t
  ·exact .inr t.symm
  ·exact .inl t
theorem tR(hc:∀a∈vs,∀b∈vs,bS a b=true)(h:qB (oZ vs) vs.length p):(p.toList.map λi=>vs.getD i .none)=aJ vs:=by
 refine bQ h λhp Q=>?_;have B:(p.toList.map λi=>vs.getD i .none).Perm vs:=by
  refine(hp.perm.map _).trans ?_
  have:(List.range vs.length).map (λi=>vs.getD i .none)=vs:=by refine List.ext_getElem (by simp) λi F P=>?_;simp[List.getD_eq_getElem?_getD,P]
  rw[this]
 refine dO (B.trans (ai vs).symm) (λx Y y Z=>hc x (B.mem_iff.mp Y) y (B.mem_iff.mp Z)) ?_ (bZ vs hc);rw[List.pairwise_iff_getElem];intro i j hi G J;simp only[List.length_map,Array.length_toList]at hi G;obtain O:=hp.size;simp only[List.getElem_map,Array.getElem_toList];obtain F:=Q i j (HS J) (FK O G);have e1:p.getD i 0=p[i]:=by simp[Array.getD,hi]
 have e2:p.getD j 0=p[j]:=by simp[Array.getD,G]
 unfold rk at F;rw[e1,e2]at F;obtain l1:p[i]<vs.length:=e1▸hp.lt (FK O hi);obtain l2:p[j]<vs.length:=e2▸hp.lt (FK O G);rw[<- ui hc l2 l1];exact q7 (Nat.not_lt.mpr F)
theorem nO:∀(l m:List Char),(l.map (λc=>c.toNat)<m.map (λc=>c.toNat))↔l<m
 |_,[]=>by simp
 | [],_::_=>by simp
 |a::l,b::m=>by simp only[List.map_cons,List.cons_lt_cons_iff,nO l m,Char.toNat_inj];exact Iff.rfl
theorem lK(s t:String):((Str.ofString s).cps.toList<(Str.ofString t).cps.toList)↔s<t:=by rw[Str.ofString_eq_toList,Str.ofString_eq_toList];rw[nO];exact Iff.rfl
section
variable{sa:SX}
theorem VRs.lexLoop{A:Around}{n m:Nat}{f:Value×Value->Option Fin×PUnit->Sem (ForInStep (Option Fin×PUnit))}{Q:Bool->Prop}(G:∀{x y:V}{c d:Value}{P:Value->Shared->Prop},bS x y=true->aO x=true->aO y=true->az x<=n->VR sa s.heap x c->VR sa s.heap y d->P (.bool (dP x y)) s->wpAny (model prog w) A (richCompare .Lt c d) P E s)(hu:A.units+n<cLine)(hf:f=λp _=>(do let e <- PySem.eqBool p.1 p.2;if(!e)=true then(do rule "tuple.compare.by-the-first-pair-that-differs";let v <- richCompare .Lt p.1 p.2;let r <- ret v;pure (ForInStep.done (some r,PUnit.unit)))else pure (ForInStep.yield (none,PUnit.unit)))) : ∀{xs ys:List V}{cs ds:List Value}{R:Option Fin×PUnit->Shared->Prop},eT xs ys=true->bG xs=true->bG ys=true->br xs<=n->VRs sa s.heap xs cs->VRs sa s.heap ys ds ->(∀b,eQ xs ys=b->R (some (.done (.ret (.bool b))),PUnit.unit) s)->(eQ xs ys=decide (xs.length<ys.length)->R (none,PUnit.unit) s)->wpAny (model prog w) A (forIn (cs.zip ds) (none,PUnit.unit) f) R E s
 | [],ys,_,_,R,_,_,_,_,O,Y,_,B=>by rw[O.nil_inv,List.zip_nil_left,List.forIn_nil];refine a9 (B ?_);cases ys <;> simp[eQ]
 |x::xs,[],_,_,R,_,_,_,_,O,Y,_,B=>by rw[Y.nil_inv,List.zip_nil_right,List.forIn_nil];exact a9 (B (by simp[eQ]))
 |x::xs,y::ys,_,_,R,hc,J,k2,hd,O,Y,F,B=>by
  refine bw O.cons_inv λc cs aP Z a2=>?_;subst aP;refine bw Y.cons_inv λd ds bx b1 b2=>?_;subst bx;unfold eT at hc;unfold bG at J k2;rw[Bool.and_eq_true]at hc J k2;rw[List.zip_cons_cons,List.forIn_cons,hf];refine ac (ac (VR.eqBool (bD _ J.1) (bD _ k2.1) (DU hd hu) Z b1 ?_));rw[fR]at F B;cases e:cM x y with
  |true =>simp only[e,if_true]at F B;refine a9 ?_;exact VRs.lexLoop (n:=n) (m:=m) (Q:=Q) G hu rfl hc.2 J.2 k2.2 (CI hd) a2 b2 F (λq=>B (by rw[q];simp))
  |false =>simp only[e,Bool.false_eq_true,if_false]at F B;refine ac (ac (y3 (a9 (ac (G hc.1 J.1 k2.1 (FI hd) Z b1 ?_)))));exact ac (a9 (a9 (a9 (F _ rfl))))
theorem VR.lt:∀(n:Nat){A:Around}{E:Value->Shared->Prop}{s:Shared}{x y:V}{c d:Value}{Q:Value->Shared->Prop},bS x y=true->aO x=true->aO y=true->az x<=n->A.units+n<cLine->VR sa s.heap x c->VR sa s.heap y d->Q (.bool (dP x y)) s -> wpAny (model prog w) A (richCompare .Lt c d) Q E s
 |n,A,E,s,.int i,y,c,d,Q,hc,_,_,_,_,B,G,h=>by cases y <;> simp[bS]at hc;apply B.int_el;intro t;apply G.int_el;intro u;refine lt_int ?_;simpa[dP]using h
 |n,A,E,s,.str x,y,c,d,Q,hc,_,_,_,_,B,G,h=>by cases y <;> simp[bS]at hc;apply B.str_el;intro t;apply G.str_el;intro u;refine PySem.P.lt_str ?_;rw[show dP (.str x) (.str _)=_ from rfl]at h;simp only[dP]at h;simpa only[lK]using h
 |0,A,E,s,.tup xs,y,c,d,Q,hc,_,_,hd,_,B,G,h=>by exact(Rl hd).elim
 |n+1,A,E,s,.tup xs,y,c,d,Q,hc,k1,k2,hd,hu,B,G,h=>by
  cases y with
  |tup ys =>
   apply B.tup_el;intro a cvs ha ra;apply G.tup_el;intro b dvs hb rb;obtain hT:=ha.typeIs (s:=s);obtain J:=hb.typeIs (s:=s);refine cL ha λo ho _ zq9=>?_;refine bR zq9 λk Y=>?_;refine cL hb λo' ad _ O=>?_;refine bR O λk' Z=>?_;refine wpAny_richCompare_same_room hT J F.slot_tuple_lt (n6 F.slot_tuple_lt hT F.entry_tuple_lt ?_ (F.args_tuple_lt_2 _ _)) (Rk hu);show wpAny _ _ (isInstance (.ref b) (.type "tuple") >>= _) _ _ s;refine ac (C0 J isSubtype_tuple_tuple ?_);refine ac (L3 ho Y ?_);refine ac (L3 ad Z ?_);refine ac ?_;have hA:A.in1.units=A.units+1:=rfl;refine VRs.lexLoop (n:=n) (m:=0) (Q:=λ_=>True) (λ{x y c d P} a1 a2 a3 a4 a5 a6 a7=>VR.lt n a1 a2 a3 a4 (DV hA hu) a5 a6 a7) (DV hA hu) ?_ hc k1 k2 (HC hd) ra rb (λb e=>?_) (λe=>?_)
   ·rfl
   ·subst e;refine a9 (bb _ rfl Value.noConfusion ?_);simpa[dP]using h
   ·refine a9 (bb _ rfl (by simp[Builtin.Tuple.tupleCompareSizes]) ?_);obtain e1:=ra.length;obtain e2:=rb.length;rw[Array.length_toList]at e1 e2;rw[show dP (.tup xs) (.tup ys)=eQ xs ys from by simp[dP],e]at h;simpa[Builtin.Tuple.tupleCompareSizes,e1,e2]using h
  |_=>simp[bS]at hc
 |_,_,_,_,.none,y,_,_,_,hc,_,_,_,_,_,_,_=>by cases y <;> simp[bS]at hc
 |_,_,_,_,.bool _,y,_,_,_,hc,_,_,_,_,_,_,_=>by cases y <;> simp[bS]at hc
 |_,_,_,_,.ref _,y,_,_,_,hc,_,_,_,_,_,_,_=>by cases y <;> simp[bS]at hc
 |_,_,_,_,.scr,y,_,_,_,hc,_,_,_,_,_,_,_=>by cases y <;> simp[bS]at hc
end
section
variable{sa:SX}
theorem AJ{A:Around}{y:V}{c d:Value}{P:Bool->Shared->Prop}(b:Bool)(G:b=true->qU x=true)(hc:bS x y=true)(Q:aO x=true)(k2:aO y=true)(J:A.units+az x<cLine)(B:VR sa s.heap x c)(F:VR sa s.heap y d)(h:P (dP x y) s):wpAny (model prog w) A (oneLt' b c d) P E s:=by
 rcases b with _|_
 ·exact kat_one _ _ (VR.lt _ hc Q k2 (f7 _) J B F h)
 ·obtain O:=G rfl;cases x with
  |int i =>cases y <;> simp[bS]at hc;apply B.int_el;intro t;apply F.int_el;intro u;exact oneLt_int (by simpa[dP]using h)
  |str x =>cases y <;> simp[bS]at hc;apply B.str_el;intro t;apply F.str_el;intro u;refine PyProof.Rows.oneLt_str ?_;simp only[dP]at h;simpa only[lK]using h
  |_=>exact ag O
theorem wu{A:Around}{b B:Bool}{Q:Bool->Shared->Prop}{n:Nat}(P:A.units+n<cLine):∀{xs ys:List V}{cs ds:List Value}(i:Nat),eT xs ys=true->bG xs=true->bG ys=true->br xs<=n->VRs sa s.heap xs cs->VRs sa s.heap ys ds ->((b&&i==0)=true->∀x,xs.head?=some x->qU x=true)->B=decide (xs.length<ys.length)->Q (eQ xs ys) s->KatLex prog w A b B Q (cs.zip ds) i s
 | [],ys,_,_,i,_,_,_,_,J,O,_,F,h=>by rw[J.nil_inv,List.zip_nil_left];refine kat_nil ?_;rw[F];cases ys <;> simpa[eQ]using h
 |x::xs,[],_,_,i,_,_,_,_,J,O,_,F,h=>by rw[O.nil_inv,List.zip_nil_right];refine kat_nil ?_;rw[F];simpa[eQ]using h
 |x::xs,y::ys,_,_,i,hc,G,k2,hd,J,O,hb,F,h=>by
  refine bw J.cons_inv λc cs dj Z a2=>?_;subst dj;refine bw O.cons_inv λd ds Y b1 b2=>?_;subst Y;unfold eT at hc;unfold bG at G k2;rw[Bool.and_eq_true]at hc G k2;rw[List.zip_cons_cons];refine kat_cons (VR.eqBool (bD _ G.1) (bD _ k2.1) (DU hd P) Z b1 ?_);rw[fR]at h;cases e:cM x y with
  |true =>simp only[e,if_true]at h;exact kat_yes (wu P (i+1) hc.2 G.2 k2.2 (CI hd) a2 b2 (λq=>by simp at q) (by rw[F];simp) h)
  |false =>simp only[e,Bool.false_eq_true,if_false]at h;exact kat_no (AJ _ (λq=>hb q x rfl) hc.1 G.1 k2.1 (HT hd P) Z b1 h)
theorem VRs.getD(r:VRs sa h vs cvs)(hi:i<vs.length):VR sa h (vs.getD i .none) (cvs.getD i .none):=by
 obtain e:vs[i]?=some (vs.getD i .none):=by rw[List.getD_eq_getElem?_getD,List.getElem?_eq_getElem hi];rfl
 refine af (r.get e) λc F G=>?_;obtain B:cvs.getD i .none=c:=by rw[List.getD_eq_getElem?_getD,F];rfl
 rw[B];exact G
theorem yr{i:Int}{t:Tok}:Looks M h (typeOf (.int i t)) (.type "int"):=.now
theorem yt{x:Str}{t:Tok}:Looks M h (typeOf (.str x t)) (.type "str"):=.now
theorem yu{v:V}{c:Value}{xs:List V}(e:v=.tup xs)(r:VR sa h v c):Looks M h (typeOf c) (.type "tuple"):=by subst e;apply r.tup_el;intro a cvs B _;obtain⟨o,F,hc,_⟩:=B;exact show Looks M h (typeOf (.ref a)) (.type "tuple")from hc▸(Looks.ld F).andThen .now
noncomputable def vk:V->Nat
 | .int _=>1
 | .str _=>2
 | .tup _=>3
 |_=>0
theorem rP{y:V}(h:bS x y=true):vk x=vk y/\vk x≠0:=by cases x <;> cases y <;> simp_all [bS,vk]
noncomputable def Gz:Nat->Value
 |1=>.type "int"
 |2=>.type "str"
 |_=>.type "tuple"
theorem tc{v:V}{c:Value}(r:VR sa h v c)(hk:vk v≠0):Looks M h (typeOf c) (Gz (vk v)):=by
 cases v with
 |int i=>apply r.int_el;intro t;exact yr
 |str i=>apply r.str_el;intro t;exact yt
 |tup xs=>exact yu rfl r
 |_=>exact absurd rfl hk
theorem uc(k:Nat):(Gz k==Gz k)=true:=by unfold Gz;split <;> decide
theorem pT:∀{vs:List V}{cvs:List Value},VRs sa h vs cvs->(∀x∈vs,vk x=3/\fx x=true)->∃ws G,ws.length=vs.length/\VRs sa h ws G/\KatTups h cvs G/\∀(i:Nat)(x:V),vs[i]?=some x->∃w r,ws[i]?=some w/\x=.tup (w::r)
 | [],_,r,_=>by rw[r.nil_inv];exact(jh ([]) ([]) rfl .nil .nil (λi x e=>by simp at e))
 |v::vs,_,r,hk=>by
  refine bw r.cons_inv λc cs B r1 r2=>?_;subst B;refine ph (pT r2 λx hx=>hk x (d7 _ hx)) λws G P Q Y Z=>?_;refine bQ (hk v d6) λk1 k2=>?_;cases v with
  |tup xs =>
   rcases xs with _|⟨x,xs⟩
   ·simp[fx]at k2
   ·apply r1.tup_el;intro a cvs F ra;obtain⟨o,ho,hc,n,hd⟩:=F;refine bw ra.cons_inv λf rest e f1 f2=>?_;refine(jh (x::ws) (f::G) (by simp[P]) (.cons f1 Q) (KatTups.cons ho hc hd (by rw[<- Array.getElem?_toList,e];rfl) Y) (λi y e=>?_));rcases i with _|i
    ·simp at e;subst e;exact(fA x xs rfl rfl)
    ·simp at e;refine cb (Z i y e) λw r J O=>?_;exact(fA w r J O)
  |_=>simp[vk]at k1
theorem yJ{A:Around}(so:sortable vs)(h2:2<=vs.length)(hu:A.units+9<cLine)(r:VRs sa s.heap vs cvs){Q:SortKind->Shared->Prop}(h:∀κ,(∀(i j:Nat)(C:Bool->Shared->Prop)(s':Shared),i<vs.length->j<vs.length->VRs sa s'.heap vs cvs->C (dP (vs.getD i .none) (vs.getD j .none)) s'->kas_ask prog w A κ cvs i j C s')->Q κ s) : wpAny (model prog w) A (keyKind' cvs.toArray) Q (λ_ _=>False) s:=by
 refine rT so λs1 s2 s3 s4=>?_;obtain s3:∀x∈vs,fx x=true:=s3.elim (λe=>by exact(HU h2 e).elim) id;have hl:=r.length;have h0:0<vs.length:=by exact HV h2
 have m0:=bC h0;have G:∀x∈vs,vk x=vk (vs.getD 0 .none)/\vk x≠0:=λx O=>rP (s4 x O _ m0);have B:∀i j,i<vs.length->j<vs.length->bS (vs.getD i .none) (vs.getD j .none)=true/\aO (vs.getD i .none)=true/\aO (vs.getD j .none)=true/\az (vs.getD i .none)<=8:=λi j hi F =>
  ⟨s4 _ (bC hi) _ (bC F),(s2 _ (bC hi)).1,(s2 _ (bC F)).1,(s2 _ (bC hi)).2⟩
 by_cases hk:vk (vs.getD 0 .none)=3
 ·refine ph (pT r λx O=>⟨(G x O).1.trans hk,s3 x O⟩) λws fs e1 e2 e3 e4=>?_;have key:∀i,i<vs.length->∃w r,ws[i]?=some w/\vs.getD i .none=.tup (w::r):=λi hi=>e4 i _ (by rw[List.getD_eq_getElem?_getD,List.getElem?_eq_getElem hi];rfl);refine cb (key 0 h0) λw0 r0 a0 b0=>?_;have hw:∀i w,ws[i]?=some w->vk w=vk w0/\vk w≠0:=λi w e=>by
   have hi:i<vs.length:=by rw[<- e1];exact(f9.mp e).1
   refine cb (key i hi) λw' r' a1 b1=>?_;rw[e]at a1;obtain rfl:=c9 a1;obtain this:=(B i 0 hi h0).1;rw[b1,b0]at this;have this:=(p9 _ _).mp this;exact rP this.1
  have P:=e2.length;refine kat_kind (T:=Gz (vk w0)) e3 (HW e1 P h0) (λv hv=>?_) (uc _) (h _ λi j C s' hi F r' hC=>?_)
  ·refine bR (k9.mp hv) λi hi=>?_;refine af (e2.get' hi) λw hw1 hw2=>?_;obtain this:=hw i w hw1;rw[<- this.1];exact tc hw2 this.2
  ·unfold kas_ask;refine rT (B i j hi F) λY q2 q3 q4=>?_;refine cb (key i hi) λwi ri i1 i2=>?_;refine cb (key j F) λwj rj j1 j2=>?_;have Z:=r'.getD hi;obtain ad:=r'.getD F;have J:=hC;rw[i2]at Y q2 q4 Z J;rw[j2]at Y q3 ad J;refine bw Z.tup_inv λa xs ea an ra=>?_;obtain⟨o,ho,hc,n,hd⟩:=an;refine bw ad.tup_inv λb ys eb ar rb=>?_;obtain⟨o',ho',hc',n',hd'⟩:=ar;rw[ea,eb];obtain la:=ra.length;obtain lb:=rb.length;rw[Array.length_toList]at la lb;refine kat_lt ho hd ho' hd' (wu (n:=8) (HY hu) 0 Y q2 q3 (HZ q4) ra rb (λhb x O=>?_) (by rw[la,lb]) (by simpa[dP]using J));simp at O;subst O;obtain this:=hw i _ i1;simp only[beq_self_eq_true,Bool.and_true]at hb;cases wi with
   |int _=>rfl
   |str _=>rfl
   |tup _ =>obtain t:vk w0=3:=this.1.symm;rw[t]at hb;simp[Gz]at hb
   |_=>exact absurd rfl this.2
 ·refine kas_kind (T:=Gz (vk (vs.getD 0 .none))) (Id hl h2) (λv hv=>?_) ?_ (uc _) (h _ λi j C s' hi F r' hC=>?_)
  ·obtain⟨i,hi⟩:=k9.mp hv;refine af (r.get' hi) λx hx1 hx2=>?_;obtain this:=G x (g9 hx1);rw[<- this.1];exact tc hx2 this.2
  ·have h1:=(G _ m0).2
   have:vk (vs.getD 0 .none)=1\/vk (vs.getD 0 .none)=2:=by generalize vs.getD 0 .none=z at *;cases z <;> simp_all [vk]
   rcases this with e|e
   ·rw[e];decide
   ·rw[e];decide
  ·unfold kas_ask;refine rT (B i j hi F) λY q2 q3 q4=>?_;rw[keyLt'_oneType];refine AJ true (λ_=>?_) Y q2 q3 (Ih q4 hu) (r'.getD hi) (r'.getD F) hC;obtain this:=G _ (bC hi);cases e:vs.getD i .none with
   |int _=>rfl
   |str _=>rfl
   |tup _=>rw[e]at this;exact absurd this.1.symm hk
   |_=>rw[e]at this;exact absurd rfl this.2
end
section
variable{loc:Loc}{H:AH}{A:Around}{d:Nat}{Q:V->AH->Prop}
theorem vI{P:PySem.Fin->Shared->Prop}{E:Value->Shared->Prop}{M:Model}{a:Addr}{n:Nat}(O:s.heap.get? a=some (dq cvs.toArray n))(F:cvs.length<2)(h:∀h' c,(∀b o,b≠a->s.heap.get? b=some o->h'.get? b=some o)->h'.get? a=some (dq cvs.toArray c)->P (.done (.ret .none)) { s with heap:=h' }) : wpAny M A (Builtin.«list.sort» ⟨[.ref a],[]⟩) P E s:=by
 obtain Z:a<s.heap.objs.size:=o8 O;obtain J:(100:Nat)<=sizeLine:=by rw[sizeLine_eq];exact Aq
 rw[list_sort_plain];refine ac (listItems_at O rfl ?_);refine ac (listUpdate_at O rfl ?_ (by rw[List.size_toArray];exact DW J F) (m6 _));obtain⟨e1,ho1⟩:∃e1,(s.heap.update a (Obj.mapSeq λ_=>(#[]:Array Value))).get? a=some (seqObj "list" #[] e1):=⟨_,get?_update_seq O λ_=>#[]⟩;refine ac (seqEpoch_at ho1 rfl ?_);refine ac (O9 ?_ (DW J F));refine ac (M2 ?_ (m6 _));refine l8 ?_;obtain B:(((s.heap.update a (Obj.mapSeq λ_=>(#[]:Array Value))).push (seqObj "tuple" cvs.toArray 0)).push (seqObj "list" #[] 0)).get? a=some (seqObj "list" #[] e1):=d5 _ (d5 _ ho1);show wpAny M A _ P E { s with heap:=((s.heap.update a (Obj.mapSeq λ_=>(#[]:Array Value))).push (seqObj "tuple" cvs.toArray 0)).push (seqObj "list" #[] 0) };dsimp only;obtain G:cvs.toArray.size<2:=by rw[List.size_toArray];exact F
 rw[if_pos G,if_pos G];refine ac (a9 ?_);rw[StateT.run_pure];refine ac (a9 ?_);dsimp only;have hm:(arrOf (SortSt.mk' general' (cvs.toArray.zip cvs.toArray) #[] 7 none)).map (·.2)=cvs.toArray:=by
  show(cvs.toArray.zip cvs.toArray).map (·.2)=cvs.toArray
  match cvs,F with
  | [],_=>simp
  | [c],_=>simp
  |_::_::_,h=>exact absurd h (by simp)
 rw[hm];refine ac (seqEpoch_at B rfl ?_);obtain⟨Q,hc2⟩:∃Q,(((((s.heap.update a (Obj.mapSeq λ_=>(#[]:Array Value))).push (seqObj "tuple" cvs.toArray 0)).push (seqObj "list" #[] 0)).update a (Obj.mapSeq λ_=>cvs.toArray)).get? a=some (seqObj "list" cvs.toArray Q)):=⟨_,get?_update_seq B λ_=>cvs.toArray⟩;refine ac (listUpdate_at B rfl ?_ (m6 _) (by rw[List.size_toArray];exact Ij F));simp only[bne_self_eq_false,Bool.false_eq_true,if_false];refine a9 (h _ Q (λb o Y e=>?_) hc2);exact(s7 _ _ (K4 Y)).trans (d5 _ (d5 _ ((s7 _ _ (K4 Y)).trans e)))
theorem uj(h:vs.length<2):aJ vs=vs:=by
 match vs,h with
 | [],_=>rfl
 | [v],_=>simp[aJ,ub]
 |_::_::_,h=>exact absurd h (by simp)
theorem tO(F:Frame Γ env loc H s.heap)(R:Rel Γ H s.heap)(hu:A.units+20<cLine)(r:VRs Γ.sa s.heap vs cvs)(so:sortable vs)(q:fresh H Q (.list (aJ vs))){P:PySem.Fin->Shared->Prop}(hP:∀v s',EPost Γ env H s Q v s'->P (.done (.ret v)) s') : wpAny (model Γ.prog Γ.w) A (do let l <- newList cvs;let _ <- holding [l] (call (.builtin "list.sort") [l]);ret l) P aD s:=by
 have hl:=r.length;have J:=so.1;obtain hsl:(100:Nat)<=sizeLine:=by rw[sizeLine_eq];exact Aq
 refine ac (M2 ?_ (Il hl J hsl));obtain B:(s.heap.push (dq cvs.toArray 0)).get? s.heap.objs.size=some (dq cvs.toArray 0):=g8 _ rfl;obtain hn:s.heap.get? s.heap.objs.size=none:=i9 (f7 _);refine bQ (R.free hn) λfH fb=>?_;refine af (F.fr R) λm hm Fr'=>?_;obtain O:env.locals<s.heap.objs.size:=by refine pj hm λo _ _ e _=>?_;exact o8 e
 have k0:∀b o,s.heap.get? b=some o->(s.heap.push (dq cvs.toArray 0)).get? b=some o:=λb o e=>d5 _ e;refine ac (l8 ?_);by_cases G:cvs.length<2
 ·refine n6 slot_list_sort (aa _ B rfl) entry_list_sort (vI (s:={ s with heap:=s.heap.push (dq cvs.toArray 0) }) B G λh' c k ho'=>?_) (args_list_sort _);obtain kk:∀b o,s.heap.get? b=some o->h'.get? b=some o:=λb o e=>k b o (n9 (o8 e)) (k0 b o e);refine(aa _ rfl (a9 (hP _ _ ?_)));refine bQ (Step.alloc (own:=dZ) (s':={ s with heap:=h' }) R rfl rfl hn kk ho' (x:=.list (aJ vs)) (fA _ c rfl (by rw[uj (Ip hl G)];exact r.keep (TupKeep.of_keep kk)))) λS hH=>?_;exact(bc _ _ (q _ hH) (VR.ref' _) (S.toE F.lH))
 ·obtain N2:News Γ.base env.locals (s.heap.push (dq cvs.toArray 0)) ((s.heap.objs.size,listOf cvs.toArray 0)::cU Γ.base env.locals s.heap):=λp hp=>by
   rcases i8.mp hp with rfl|hp
   ·exact(da B (E3 O) fb)
   ·exact(bB.grown k0) p hp
  refine kat_lsort (s:={ s with heap:=s.heap.push (dq cvs.toArray 0) }) (vs:=cvs) (Fr'.kept k0) N2 (.head λp hp=>n9 (o8 (bB p hp).1)) (by rfl) (Iq G) (Iu hl J) λe1 h' F' N'=>?_;obtain S1:=EStep.ofNews F R hm (tk:=s.toks) F' N' λp hp=>.tail _ hp;have r':=r.keep S1.st.tup;refine yJ (s:={ s with heap:=h' }) so (Iw hl G) (Ix hu) r' λκ Y=>?_;rw[hl];refine Ask.wp (r:=oZ vs) (n:=vs.length) (I:=λs'=>s'={ s with heap:=h' }) (λi j C s' hi Z hI hC=>?_) (zh (r:=oZ vs) (n:=vs.length) (Iy hl G)) rfl (λp s' hp hI=>?_)
  ·subst hI;refine Y i j C _ hi Z r' ?_;rw[<- ui so.2.2.2 hi Z];exact hC _ rfl
  ·subst hI;refine KasFin.intro F' N' (.head λp hp=>n9 (o8 (bB p hp).1)) λh3 c F3 N3=>?_;refine a9 (hP _ _ ?_);have hsv:=tR so.2.2.2 hp;obtain S3:=EStep.ofNews F R hm (tk:=s.toks) F3 N3 λp hp=>.tail _ hp;have r3:VRs Γ.sa h3 (aJ vs) (p.toList.map λi=>cvs.getD i .none):=by
    rw[<- hsv];have r3:=r.keep S3.st.tup
    have:∀(l:List Nat),(∀i∈l,i<vs.length)->VRs Γ.sa h3 (l.map λi=>vs.getD i .none) (l.map λi=>cvs.getD i .none):=by
     intro l;induction l with
     |nil=>intro _;exact .nil
     |cons i l ih=>intro h;exact .cons (r3.getD (h i d6)) (ih λj Z=>h j (d7 _ Z))
    refine this _ λi hi=>?_;exact j9.mp (hp.1.perm.mem_iff.mp hi)
   refine bQ (EStep.newNews F R hm (tk:=s.toks) F3 N3 (λp hp=>.tail _ hp) (.head _) hn (x:=.list (aJ vs)) (fA _ c rfl r3)) λS hH=>?_;exact(bc _ _ (q _ hH) (VR.ref' _) S)
end
section
variable{es:Array DictEntry}
structure Ex(s s':Shared):Prop where
 gens:s'.gens=s.gens
 os:s'.os=s.os
 heap:∀b o,s.heap.get? b=some o->s'.heap.get? b=some o
theorem Ex.refl(s:Shared):Ex s s:=⟨rfl,rfl,λ_ _ e=>e⟩
theorem Ex.trans{s'':Shared}(a:Ex s s')(b:Ex s' s''):Ex s s'':=⟨b.gens.trans a.gens,b.os.trans a.os,λx o e=>b.heap x o (a.heap x o e)⟩
theorem Ex.push(s:Shared)(o:Obj)(t:Nat):Ex s { s with heap:=s.heap.push o,toks:=t }:=⟨rfl,rfl,λb o e=>d5 _ e⟩
section
variable{A:Around}
theorem kZ{T:String}{r:Addr}{n:Nat}{G:(Nat->Value->Prop)->Prop}{R:List Value->Shared->Prop}(hr:r<s.heap.objs.size)(hT:s.TypeIs (.ref r) T)(nl:(Value.type T==Value.type "list")=false)(nt:(Value.type T==Value.type "tuple")=false)(hint:∀(E:Value->Shared->Prop)(s':Shared)(Q:Bool->Shared->Prop),s'.TypeIs (.ref r) T->Q false s'->wpAny (model prog w) A.in1 (Builtin.List.listLengthHint (.ref r)) Q E s')(hn:n<=sizeLine)(iter:∀(E:Value->Shared->Prop)(s₁:Shared)(Q:Value->Shared->Prop),Ex s s₁->(∀I fp St s₂ P,G P->Walks prog w A.in1 I fp [I] n P St->St 0 s₂.heap->s₁.heap.get? I=none->(∀b∈fp,b=I\/s.heap.get? b≠none\/s₁.heap.get? b=none)->Ex s₁ s₂->Q (.ref I) s₂)->wpAny (model prog w) A.in1 (pyIter (.ref r)) Q E s₁)(h:∀s' acc P,G P->Ex s s'->ItemsOf P acc n->R acc.toList s'):wpAny (model prog w) A (collect (.ref r)) R E s:=by
 refine ac (wpAny_runValue (C4 PySem.F.entry_proto_collect ?_));rw[Around.under_plainId PySem.F.plain_proto_collect _];refine ac (r9 ?_);refine a9 ⟨E8 PySem.F.plain_list_iadd _,C4 PySem.F.entry_list_iadd ?_⟩;rw[Around.under_plainId PySem.F.plain_list_iadd _];obtain Z:(s.heap.push { cls:=.type "list",data:=.seq ([]:List Value).toArray }).get? s.heap.objs.size=some { cls:=.type "list",data:=.seq #[] }:=g8 _ rfl;obtain x1:Ex s { s with heap:=s.heap.push { cls:=.type "list",data:=.seq ([]:List Value).toArray } }:=Ex.push s _ s.toks;show wpAny _ A.in1 (Builtin.List.listExtendWith (.ref s.heap.objs.size) (.ref r) (.ref s.heap.objs.size)) _ _ _;refine ac (Q3 (T:=T) (by refine af hT λo ho hc=>?_;exact(aa o (x1.heap _ _ ho) hc)) ?_);obtain h1:Builtin.List.listSameRef (.ref s.heap.objs.size) (.ref r)=false:=by simp[Builtin.List.listSameRef,Nat.ne_of_gt hr]
 simp only[h1,nl,nt,Bool.or_false,Bool.false_eq_true,if_false];refine ac (iter _ _ _ x1 λI fp St s₂ P hG W st hI hfp x2=>?_);obtain ad:=x2.heap _ _ Z;obtain hSI:s.heap.objs.size≠I:=λe=>by rw[<- e]at hI;rw[Z]at hI;exact sn hI
 have hSf:s.heap.objs.size∉fp:=λhm=>by
  rcases hfp _ hm with e|e|e
  ·exact hSI e
  ·exact e (i9 (f7 _))
  ·rw[Z]at e;exact sn e
 refine ac (l8 (hint _ _ _ (by refine af hT λo ho hc=>?_;exact(aa o (x2.heap _ _ (x1.heap _ _ ho)) hc)) ?_));obtain key:∀(J:Shared)(an:Nat),J.gens=s₂.gens->J.os=s₂.os->St 0 J.heap->(∀b o,b≠s.heap.objs.size->s₂.heap.get? b=some o->J.heap.get? b=some o)->J.heap.get? s.heap.objs.size=some { cls:=.type "list",data:=.seq #[] an } ->
   codeAny (model prog w) A (.builtin "list.extend.loop" ⟨[.ref s.heap.objs.size,.ref I,.ref s.heap.objs.size],[]⟩) (λq s'=>∃acc c',q=.ok (.ret (.ref s.heap.objs.size))/\Ex s s'/\s'.heap.get? s.heap.objs.size=some { cls:=.type "list",data:=.seq acc c' }/\ItemsOf P acc n) J:=by
  intro J an eg eo hst hk O;refine codeAny_extend_loopS W.toS hn s.heap.objs.size hSf _ n 0 _ #[] an rfl (m6 _) hst O (ItemsOf.nil _) λs' acc' c' hm Y B=>?_;refine(jh acc' c' rfl ⟨?_,?_,λb o e=>?_⟩ Y B)
  ·rw[hm.gens,eg,x2.gens]
  ·rw[hm.os,eo,x2.os]
  ·have hb:b≠s.heap.objs.size:=n9 (o8 e);refine hm.heap b o (λar=>?_) (hk b o hb (x2.heap _ _ (x1.heap _ _ e)));rcases i8.mp ar with e'|ar
   ·exact hb e'
   ·obtain e2:=x1.heap _ _ e;rw[List.mem_singleton.mp ar,hI]at e2;exact ns e2
 obtain fin:∀{q:Result}{s':Shared},(∃acc c',q=.ok (.ret (.ref s.heap.objs.size))/\Ex s s'/\s'.heap.get? s.heap.objs.size=some { cls:=.type "list",data:=.seq acc c' }/\ItemsOf P acc n)->match q with
   | .ok (.ret v)=>wpAny (model prog w) A (match v with | .ref a=>(do match(<- load a).data with | .seq xs _=>pure xs.toList|_=>unsupported "internal:collect")|_=>unsupported "internal:collect") R E s'
   |_=>False:=by
  rintro q s' ⟨acc,c',rfl,x,Y,B⟩;show wpAny _ A (load s.heap.objs.size >>= _) _ _ s';refine ac (P6 Y ?_);exact a9 (h s' acc P hG x B)
 refine p0 (λ_=>?_) (λ_=>a9 ⟨E8 PySem.F.plain_extend_loop _,E4 (key _ _ rfl rfl st (λb o _ e=>e) ad) λq s' y=>?_⟩)
 ·refine ac (y3 ?_);refine ac ?_;refine ac (wpAny_updateSeq ad rfl ?_);obtain O:=k8 (Obj.mapSeq (·.push Value.none)) ad rfl;refine wpAny_updateSeq (hz:=by seq_fits) O rfl ?_;obtain hS₄:=k8 (Obj.mapSeq (·.pop)) O rfl;refine a9 ⟨E8 PySem.F.plain_extend_loop _,E4 (key _ _ ?_ ?_ ?_ (λb o hb e=>?_) hS₄) λq s' y=>?_⟩
  ·rfl
  ·rfl
  ·refine W.frame 0 _ _ st λb hb o e=>?_;obtain hbS:b≠s.heap.objs.size:=λh=>hSf (h▸hb);exact(s7 _ _ (K4 hbS)).trans ((s7 _ _ (K4 hbS)).trans e)
  ·exact(s7 _ _ (K4 hb)).trans ((s7 _ _ (K4 hb)).trans e)
  ·refine ph y λacc c' aP x Y B=>?_;subst aP;show wpAny _ A (load s.heap.objs.size >>= _) _ _ s';refine ac (P6 Y ?_);exact a9 (h s' acc P hG x B)
 ·refine ph y λacc c' bx x Y B=>?_;subst bx;show wpAny _ A (load s.heap.objs.size >>= _) _ _ s';refine ac (P6 Y ?_);exact a9 (h s' acc P hG x B)
theorem vo{d:Addr}{Q:Value->Shared->Prop}(hd:(d==sysModules)=false)(B:s.heap.get? d=some (aV es ep))(G:Q (.ref s.heap.objs.size) { s with heap:=s.heap.push { cls:=.type "dict_keyiterator",data:=.fields #[.ref d,.int 0 0,.int es.size 0,.int ep 0] } }) : wpAny (model prog w) A (pyIter (.ref d)) Q E s:=by obtain hT:s.TypeIs (.ref d) "dict":=(aa _ B rfl);refine L8 hT PySem.F.slot_dict_iter (n6 PySem.F.slot_dict_iter hT PySem.F.entry_dict_iter ?_ (PySem.F.args_dict_iter_1 _));refine ac ?_;refine ac (C7 hT ?_);show wpAny _ _ (pure (Value.ref d)) _ _ s;refine a9 ?_;show wpAny _ _ (Builtin.Dict.showsAll d >>= _) _ _ s;unfold Builtin.Dict.showsAll;rw[if_neg (by rw[hd];exact n7)];refine ac (a9 ?_);refine ac (A6 B rfl ?_);refine ac (N7 B rfl ?_);refine ac (r9 (a9 (aa _ rfl (bc ("dict_keyiterator") _ (aa _ (g8 _ rfl) rfl) PySem.F.slot_dict_keyiterator_next.lookup ?_))));simpa[rawInt]using G
theorem mo{d:Addr}{e:DictEntry}{Q:Option Value->Shared->Prop}(B:s.heap.IsKeyIter it d i es.size ep)(J:s.heap.get? d=some (aV es ep))(Z:es[i]?=some e)(Y:∀h',h'.IsKeyIter it d (i+1) es.size ep->Heap.SameBut it s.heap h'->Q (some e.key) { s with heap:=h' }) : wpAny (model prog w) A (pyNext (.ref it)) Q E s:=by
 refine cL (id B) λo P hc hd=>?_;refine ac (F8 (p6 (name:=Str.ofString "__next__") B.typeIs u4
  (n6 u4 B.typeIs PySem.F.entry_dict_keyiterator_next ?_ (PySem.F.args_dict_keyiterator_next_1 _))))
 refine ac (a9 ?_);refine ac ?_;refine ac ?_;refine ac (w8 B.typeIs (a9 ?_));refine ac (K8 P hd ?_);obtain O:Builtin.Dict_items.ownsTuple "dict_keyiterator"=false:=by decide
 rw[if_neg (by rw[O];exact n7)];show wpAny _ _ (if(Value.ref d==Value.none)=true then _ else _) _ _ s;rw[if_neg (show ¬((Value.ref d==Value.none)=true)from Bool.false_ne_true)];refine ac (a9 ?_);refine ac (A6 J rfl ?_);rw[if_neg (by simp)];refine ac (a9 ?_);refine ac (N7 J rfl ?_);rw[if_neg (by simp)];refine a9 ?_;dsimp only;rw[if_neg (show ¬((i:Int)<0)from by exact CN),Int.toNat_natCast,Z];refine ac ?_;refine ac (w8 B.typeIs (a9 ?_));refine ac (wpAny_isOneOf_keyiter B.typeIs ?_);show wpAny _ _ (setField (.ref it) 1 (rawInt ((i:Int)+1)) >>= _) _ _ s;refine ac (w7 P hd (by simp) ?_);obtain G:(s.heap.update it (Obj.mapFields (·.setIfInBounds 1 (rawInt ((i:Int)+1))))).IsKeyIter it d (i+1) es.size ep :=(bb _ (k8 _ P (u8 (s8 hd _))) ((Obj.cls_mapFields ..).trans hc) (by rw[Obj.data_mapFields hd];simp[rawInt]))
 refine ac (l8 ?_);refine ac (wpAny_isOneOf_keyiter (s:={ s with heap:=s.heap.update it (Obj.mapFields (·.setIfInBounds 1 (rawInt ((i:Int)+1)))) }) G.typeIs ?_);exact a9 (a9 (aa _ rfl (a9 (Y _ G (m7 ..)))))
theorem oA{d:Addr}{Q:Option Value->Shared->Prop}(Y:A.handled=none)(B:s.heap.IsKeyIter it d i es.size ep)(G:s.heap.get? d=some (aV es ep))(Z:es[i]?=none)(P:∀h',Heap.ExtBut it s.heap h'->Q none { s with heap:=h' }):wpAny (model prog w) A (pyNext (.ref it)) Q E s:=by
 refine cL (id B) λo O hc hd=>?_;refine ac (F8 (p6 (name:=Str.ofString "__next__") B.typeIs u4
  (n6 u4 B.typeIs PySem.F.entry_dict_keyiterator_next ?_ (PySem.F.args_dict_keyiterator_next_1 _))))
 refine ac (a9 ?_);refine ac ?_;refine ac ?_;refine ac (w8 B.typeIs (a9 ?_));refine ac (K8 O hd ?_);obtain J:Builtin.Dict_items.ownsTuple "dict_keyiterator"=false:=by decide
 rw[if_neg (by rw[J];exact n7)];show wpAny _ _ (if(Value.ref d==Value.none)=true then _ else _) _ _ s;rw[if_neg (show ¬((Value.ref d==Value.none)=true)from Bool.false_ne_true)];refine ac (a9 ?_);refine ac (A6 G rfl ?_);rw[if_neg (by simp)];refine ac (a9 ?_);refine ac (N7 G rfl ?_);rw[if_neg (by simp)];refine a9 ?_;dsimp only;rw[if_neg (show ¬((i:Int)<0)from by exact CN),Int.toNat_natCast,Z];refine ac ?_;refine ac (w8 B.typeIs (a9 ?_));show wpAny _ _ (setField (.ref it) 0 .none >>= _) _ _ s;refine ac (w7 O hd (by simp) ?_);show wpAny _ _ (newExc (.type "StopIteration") [] >>= _) _ _ _;refine ac ?_;refine ac (r9 ?_ (by size_fits));refine ac (m:=firstArgMember _ _) (L7 (a:=Value.none) (by first|rfl|(simp only[firstArgMember];rfl)) ?_);refine r9 ?_ (by size_fits);dsimp only[raiseNew];refine ac (P2 ?_);rw[show A.in1.handled=none from Y];refine ac (a9 (Q6 ?_));refine ac (C0 (T:="StopIteration") (b:=true) (aa _ (g8 _ rfl) rfl) O7 ?_);exact a9 (P _ (((m7 ..).extBut.push _).push _))
theorem yU(Z:A.handled=none)(I d:Addr)(P:d≠I)(es:Array DictEntry)(ep:Nat) : Walks prog w A I [I,d] [I] es.size (λi v=>∃e,es[i]?=some e/\v=e.key) (λi h=>h.IsKeyIter I d i es.size ep/\h.get? d=some (aV es ep)) where
 sub:=λb B=>by simp at B;simp[B]
 frame:=λ_ _ _ st hk=>⟨st.1.at λo e=>hk I (d6) o e,hk d (by simp) _ st.2⟩
 item:=λi s Q E hi st F=>by
  have Y:es[i]?=some es[i]:=by simp[hi]
  refine mo st.1 st.2 Y λh' G J=>?_;exact F _ h' s.toks (aa _ Y rfl) ⟨G,(J.2 d P).trans st.2⟩ λb o B e=>J.extBut b o (λh=>B (by simp[h])) e
 done:=λs Q E st F=>oA Z st.1 st.2 (by simp) λh' O=>F h' s.toks λb o B e=>O b o (λh=>B (by simp[h])) e
 self:=λ_ _ _ _ st F=>wpAny_pyIter_keyiter st.1 F
theorem sD{d:Addr}{R:List Value->Shared->Prop}(Z:A.handled=none)(hd:(d==sysModules)=false)(F:s.heap.get? d=some (aV es ep))(hn:es.size<=sizeLine)(h:∀s',Ex s s'->R (es.toList.map (·.key)) s') : wpAny (model prog w) A (collect (.ref d)) R E s:=by
 refine kZ (T:="dict") (n:=es.size) (G:=λP=>P=λi v=>∃e,es[i]?=some e/\v=e.key) (o8 F) (aa _ F rfl) (by decide) (by decide) (λ_ _ _ hT q=>kdl_hint_dict hT q) hn (λE s₁ Q x1 Y=>?_) λs' acc P O x B=>?_
 ·have ho1:=x1.heap _ _ F;refine vo hd ho1 (Y _ [s₁.heap.objs.size,d] _ _ _ rfl (yU (A:=A.in1) Z _ d (n9 (o8 ho1)) es ep) ⟨(bb _ (g8 _ rfl) rfl rfl),d5 _ ho1⟩ (i9 (f7 _)) (λb J=>?_) (Ex.push _ _ _));rcases i8.mp J with e|J
  ·exact .inl e
  ·rw[List.mem_singleton.mp J];exact .inr (.inl (by rw[F];simp))
 ·subst O
  have:acc.toList=es.toList.map (·.key):=by
   apply u6;intro j;rw[List.getElem?_map,Array.getElem?_toList,Array.getElem?_toList];rcases e:acc[j]? with _|v
   ·obtain this:es.size<=j:=by rw[<- B.1];simpa using e
    simp[this]
   ·refine af (B.2 j v e) λen e1 bK=>?_;subst bK;rw[e1];rfl
  rw[this];exact h s' x
end
end
theorem bU:∀(k:Nat)(l:List Nat),l.Nodup->(∀x∈l,x<k)->l.length<=k
 |0,l,_,h=>by
  rcases l with _|⟨x,l⟩
  ·exact f7 _
  ·exact absurd (h x d6) (u3 _)
 |k+1,l,nd,h=>by
  by_cases hk:k∈l
  ·obtain this:=bU k (l.erase k) (nd.erase k) λx F=>by have B:=(List.Nodup.mem_erase_iff nd).mp F;obtain this:=h x B.2;obtain this:=B.1;exact DX (by assumption) B.1
   rw[List.length_erase_of_mem hk]at this;exact Iz this
  ·obtain this:=bU k l nd λx F=>by
    obtain this:=h x F
    have:x≠k:=λe=>hk (e▸F)
    exact DX (by assumption) this
   exact Ar this
abbrev Rise(xs:Array Nat):Prop:=xs.toList.Pairwise (· < ·)
theorem Rise.lt(r:Rise xs){x y:Nat}(hi:xs[i]?=some x)(F:xs[j]?=some y)(h:i<j):x<y:=by rw[<- Array.getElem?_toList]at hi F;obtain⟨a,G⟩:=f9.mp hi;obtain⟨b,J⟩:=f9.mp F;obtain B:=List.pairwise_iff_getElem.mp r i j a b h;rw[G,J]at B;exact B
theorem mW(r:Rise xs)(j:Nat):∀(f lo hi:Nat),lo<=hi->hi<=xs.size->hi-lo<=f->(∀i x,i<lo->xs[i]?=some x->x<j)->(∀i x,hi<=i->xs[i]?=some x->j<=x) -> SetTable.below.go xs j f lo hi<=xs.size/\(∀i x,i<SetTable.below.go xs j f lo hi->xs[i]?=some x->x<j)/\(∀i x,SetTable.below.go xs j f lo hi<=i->xs[i]?=some x->j<=x)
 |0,lo,hi,Z,J,O,P,Q=>by delta SetTable.below.go;exact⟨by exact wP Z J,P,λi x h=>Q i x (IA O h)⟩
 |f+1,lo,hi,Z,J,O,P,Q=>by
  unfold SetTable.below.go;by_cases B:lo<hi
  ·rw[if_pos B];have hm:(lo+hi)/2<xs.size:=by exact IB J B
   have Y:xs[(lo+hi)/2]?=some xs[(lo+hi)/2]:=by simp[hm]
   have hd:xs.getD ((lo+hi)/2) j=xs[(lo+hi)/2]:=by simp[Array.getD,hm]
   simp only[hd];split
   ·rename_i hc;refine mW r j f _ hi (IC B) J (ID O) (λi x F G=>?_) Q;by_cases e:i=(lo+hi)/2
    ·subst e;rw[Y]at G;obtain rfl:=c9 G;exact hc
    ·exact m4 (r.lt G Y (IE F e)) hc
   ·rename_i hc;refine mW r j f lo _ (IF B) (IG hm) (II O) P λi x F G=>?_;by_cases e:i=(lo+hi)/2
    ·subst e;rw[Y]at G;obtain rfl:=c9 G;exact tv hc
    ·have:=r.lt Y G (IJ F e);exact IK this hc
  ·rw[if_neg B];exact⟨by exact wP Z J,P,λi x h=>Q i x (IL h B)⟩
theorem cV(r:Rise xs)(j:Nat):SetTable.below xs j<=xs.size/\(∀i x,i<SetTable.below xs j->xs[i]?=some x->x<j)/\(∀i x,SetTable.below xs j<=i->xs[i]?=some x->j<=x) :=
 mW r j xs.size 0 xs.size (m6 _) (f7 _) IM (λi x h=>absurd h (u3 _)) λi x h e=>by
  have:xs.size<=i:=h
  simp[Array.getElem?_eq_none this]at e
theorem mV(r:Rise xs)(h:xs[i]?=some j):SetTable.below xs j=i:=by
 refine jg (cV r j) λb1 b2 G=>?_;rcases C9 (SetTable.below xs j) i with q|q|q
 ·have J:SetTable.below xs j<xs.size:=by obtain B:=(r5.mp h).1;exact FJ q B
  have F:xs[SetTable.below xs j]?=some xs[SetTable.below xs j]:=by simp[J]
  obtain B:=r.lt F h q;obtain B:=G _ _ (f7 _) F;exact(IN B (by assumption)).elim
 ·exact q
 ·obtain B:=b2 i j q h;exact(As B).elim
theorem uC(r:Rise xs)(h:xs[i]?=some j):SetTable.below xs (j+1)=i+1:=by
 refine jg (cV r (j+1)) λb1 b2 G=>?_;have hi:=(r5.mp h).1;rcases C9 (SetTable.below xs (j+1)) (i+1)with q|q|q
 ·obtain B:=G i j (wQ q) h;exact(IO B).elim
 ·exact q
 ·obtain F:xs[i+1]?=some xs[i+1]:=by simp
  obtain J:=r.lt h F DY;obtain O:=b2 _ _ q F;exact(IP O J).elim
theorem uD(r:Rise xs):SetTable.below xs 0=0:=by
 refine jg (cV r 0) λb1 b2 G=>?_;rcases Nat.eq_zero_or_pos (SetTable.below xs 0)with q|q
 ·exact q
 ·obtain F:xs[0]?=some xs[0]:=by simp
  obtain B:=b2 0 _ q F;exact(DZ B).elim
abbrev kR(xs:Array Nat)(j:Nat):Prop:=j∈xs.toList
theorem qq(r:Rise t.place)(h:t.place[i]?=some j):t.slot j=.live i:=by unfold SetTable.slot;simp only[mV r h,h,beq_self_eq_true,if_true]
theorem vH(r:Rise t.place)(hd:t.dummies=#[])(h:¬kR t.place j):t.slot j=.empty:=by
 unfold SetTable.slot
 have:(t.place[SetTable.below t.place j]?==some j)=false:=by rw[beq_eq_false_iff_ne];intro e;rw[<- Array.getElem?_toList]at e;exact h (g9 e)
 simp only[this,Bool.false_eq_true,if_false,hd];simp[SetTable.has]
theorem FH(h:kR xs j):∃i:Nat,xs[i]?=some j:=by refine bR (k9.mp h) λi hi=>?_;exact⟨i,by rw[<- Array.getElem?_toList];exact hi⟩
theorem ce(xs:Array α)(p:Nat)(x:α):(SetTable.insertAt xs p x).toList=xs.toList.take p++x::xs.toList.drop p:=by
 unfold SetTable.insertAt;obtain B:xs.toList.length-p<=(xs.toList.drop p).length:=by simp
 simp only[Array.toList_append,Array.toList_push,Array.toList_extract,List.extract_eq_take_drop,Nat.sub_zero,List.drop_zero,List.append_assoc,List.singleton_append];rw[List.take_of_length_le (l:=xs.toList.drop p) (by simp)]
theorem tG(r:Rise xs)(h:¬kR xs j):Rise (SetTable.insertAt xs (SetTable.below xs j) j):=by
 refine jg (cV r j) λb1 b2 P=>?_;unfold Rise;rw[ce,List.pairwise_append];have F:∀a∈xs.toList.take (SetTable.below xs j),a<j:=λa B=>by
  obtain⟨i,hi⟩:=k9.mp B;rw[List.getElem?_take]at hi;split at hi
  ·rename_i O;exact b2 i a O (by rw[<- Array.getElem?_toList];exact hi)
  ·exact ns hi
 have G:∀a∈xs.toList.drop (SetTable.below xs j),j<a:=λa B=>by
  have hm:kR xs a:=D9 B;obtain⟨i,hi⟩:=k9.mp B;rw[List.getElem?_drop]at hi
  have:=P _ a (m9 _ i) (by rw[<- Array.getElem?_toList];exact hi)
  obtain this:j≠a:=λe=>h (e▸hm);exact IR (by assumption) this
 refine⟨r.sublist (List.take_sublist _ _),List.pairwise_cons.mpr ⟨λa B=>G a B,r.sublist (List.drop_sublist _ _)⟩,λa B b J=>?_⟩;rcases i8.mp J with e|J
 ·rw[e];exact F a B
 ·exact m4 (F a B) (G b J)
theorem oh{p:Nat}:kR (SetTable.insertAt xs p j) k↔k=j\/kR xs k:=by
 unfold kR;rw[ce];constructor
 ·intro h;rcases l9.mp h with h|h
  ·exact .inr (List.mem_of_mem_take h)
  ·rcases i8.mp h with h|h
   ·exact .inl h
   ·exact .inr (D9 h)
 ·intro h;rcases h with h|h
  ·subst h;simp
  ·rw[<- List.take_append_drop p xs.toList]at h;rcases l9.mp h with h|h
   ·exact m8 _ h
   ·exact n8 _ (d7 _ h)
noncomputable def vY(m:Nat)(p:SetTable.Probe):SetTable.Probe :=
 if p.more>0 then{ p with j:=p.j+1,more:=p.more-1 }else
 let(i,perturb):=SetTable.leap m p.i p.perturb
 { p with j:=i,more:=SetTable.runEnd m i-i,i,perturb }
noncomputable def jc(m:Nat):Nat->SetTable.Probe->SetTable.Probe
 |0,p=>p
 |n+1,p=>jc m n (vY m p)
theorem fh(m:Nat):∀(a b:Nat)(p:SetTable.Probe),jc m (a+b) p=jc m b (jc m a p)
 |0,b,p=>by rw[Nat.zero_add];rfl
 |a+1,b,p=>by rw[show a+1+b=(a+b)+1 by exact Au];exact fh m a b (vY m p)
theorem pK(m:Nat)(p:SetTable.Probe):(vY m p).dummy=p.dummy:=by unfold vY;split <;> rfl
theorem qs(m:Nat):∀(n:Nat)(p:SetTable.Probe),(jc m n p).dummy=p.dummy
 |0,_=>rfl
 |n+1,p=>(qs m n (vY m p)).trans (pK m p)
noncomputable def dA(m i B:Nat):SetTable.Probe:={ j:=i,more:=SetTable.runEnd m i-i,i,perturb:=B,dummy:=none }
theorem ja(t:SetTable)(h:Int):t.probeStart h=dA t.mask (SetTable.bits h%(t.mask+1)) (SetTable.bits h):=rfl
noncomputable abbrev cG(m:Nat)(h:Int):SetTable.Probe:=dA m (SetTable.bits h%(m+1)) (SetTable.bits h)
theorem mI(m:Nat):∀(k:Nat)(p:SetTable.Probe),k<=p.more->jc m k p={ p with j:=p.j+k,more:=p.more-k }
 |0,p,_=>rfl
 |k+1,p,h=>by
  show jc m k (vY m p)=_;obtain e:vY m p={ p with j:=p.j+1,more:=p.more-1 }:=by unfold vY;rw[if_pos (IS h)]
  rw[e,mI m k _ (IT h)];congr 1
  ·exact Ea
  ·exact IU
theorem oO(m i B:Nat):jc m (SetTable.runEnd m i-i+1) (dA m i B)=dA m (SetTable.leap m i B).1 (SetTable.leap m i B).2:=by rw[fh m _ 1,mI m (SetTable.runEnd m i-i) (dA m i B) (Nat.le_refl _)];show vY m _=_;unfold vY;rw[if_neg (by show ¬(SetTable.runEnd m i-i-(SetTable.runEnd m i-i)>0);exact IV)];rfl
theorem iH(m i:Nat):SetTable.runEnd m i-i<=9/\(i<=m->SetTable.runEnd m i<=m)/\i<=SetTable.runEnd m i:=by unfold SetTable.runEnd;split <;>(first|exact IW (by assumption)|exact IX)
noncomputable def bP(m:Nat):Nat->Nat×Nat->Nat×Nat
 |0,x=>x
 |n+1,x=>bP m n (SetTable.leap m x.1 x.2)
theorem fK(m:Nat):∀(a b:Nat)(p:Nat×Nat),bP m (a+b) p=bP m b (bP m a p)
 |0,b,p=>by rw[Nat.zero_add];rfl
 |a+1,b,p=>by rw[show a+1+b=(a+b)+1 by exact Au];exact fK m a b _
theorem qu(m:Nat):∀(L i B:Nat),∃n,n<=10*L/\jc m n (dA m i B)=dA m (bP m L (i,B)).1 (bP m L (i,B)).2
 |0,i,B=>⟨0,f7 _,rfl⟩
 |L+1,i,B=>by
  refine af (qu m L (SetTable.leap m i B).1 (SetTable.leap m i B).2) λn G J=>?_;refine(aa (SetTable.runEnd m i-i+1+n) ?_ ?_)
  ·obtain F:=(iH m i).1;exact IZ F G
  ·rw[fh,oO,J];rfl
theorem fv(m:Nat):∀(L:Nat)(x:Nat×Nat),(bP m L x).2=x.2/32^L
 |0,x=>by simp[bP]
 |L+1,x=>by show(bP m L _).2=_;rw[fv m L];show x.2/32/32^L=_;rw[Nat.div_div_eq_div_mul,Nat.pow_succ,Nat.mul_comm]
theorem nM(m:Nat):∀(L i:Nat),bP m L (i,0)=((bP m L (i,0)).1,0):=λL i=>by obtain B:=fv m L (i,0);simp only[Nat.zero_div]at B;exact M8 rfl B
theorem qY(m:Nat)(x:Nat×Nat):(SetTable.leap m x.1 x.2).1<=m:=by exact p5 (K7 _ (u7 m))
theorem sZ(m:Nat):∀(L:Nat)(x:Nat×Nat),x.1<=m->(bP m L x).1<=m
 |0,x,h=>h
 |L+1,x,h=>sZ m L _ (qY m x)
theorem Fi(m:Nat)(hm:m=7\/m=31\/m=127):(bP m (m+1) (0,0)).1=0/\∀e,e<=m->∃k,k<=m/\(bP m k (0,0)).1=e:=by
 have key:∀m,((bP m (m+1) (0,0)).1==0&&(List.range (m+1)).all λe=>(List.range (m+1)).any λk=>(bP m k (0,0)).1==e)=true->(bP m (m+1) (0,0)).1=0/\∀e,e<=m->∃k,k<=m/\(bP m k (0,0)).1=e:=by intro m h;rw[Bool.and_eq_true,beq_iff_eq,List.all_eq_true]at h;refine⟨h.1,λe F=>?_⟩;obtain B:=h.2 e (j9.mpr (Ap F));rw[List.any_eq_true]at B;refine af B λk hk F=>?_;exact⟨k,by obtain B:=j9.mp hk;exact wQ B,z5.mp F⟩
 rcases hm with rfl|rfl|rfl
 ·exact key 7 (by decide +kernel)
 ·exact key 31 (by decide +kernel)
 ·exact key 127 (by decide +kernel)
theorem Hh(m:Nat)(hm:m=7\/m=31\/m=127){e:Nat}(hi:i<=m)(he:e<=m):∃k,k<=m/\(bP m k (i,0)).1=e:=by
 obtain⟨O,G⟩:=Fi m hm;refine af (G i hi) λa Y P=>?_;refine af (G e he) λb Z J=>?_;obtain F:bP m a (0,0)=(i,0):=by rw[nM,P]
 obtain Q:bP m (m+1) (0,0)=(0,0):=by rw[nM,O]
 by_cases B:a<=b
 ·refine⟨b-a,by exact Ja Z,?_⟩;rw[<- F,<- fK,show a+(b-a)=b by exact Jb B,J]
 ·refine⟨m+1+b-a,by exact Jc B,?_⟩;rw[<- F,<- fK,show a+(m+1+b-a)=m+1+b by exact Jd Y,fK,Q,J]
theorem BN(h:Int):SetTable.bits h<2^64:=by obtain B:=Int.emod_lt_of_pos h (show(0:Int)<2^64 by decide);obtain B:=Int.emod_nonneg h (show(2^64:Int)≠0 by decide);exact Je (by assumption)
theorem DM(m:Nat)(hm:m=7\/m=31\/m=127)(h:Int){e:Nat}(O:e<=m):∃L,L<=13+m/\(bP m L (SetTable.bits h%(m+1),SetTable.bits h)).1=e:=by
 have G:(bP m 13 (SetTable.bits h%(m+1),SetTable.bits h)).2=0:=by rw[fv];refine Nat.div_eq_of_lt (o6 (BN h) ?_);decide
 obtain J:(bP m 13 (SetTable.bits h%(m+1),SetTable.bits h)).1<=m:=sZ m _ _ (p5 (K7 _ (u7 m)));refine af (Hh m hm J O) λk hk F=>?_;refine⟨13+k,by exact Jf hk,?_⟩;rw[fK];obtain B:bP m 13 (SetTable.bits h%(m+1),SetTable.bits h)=((bP m 13 (SetTable.bits h%(m+1),SetTable.bits h)).1,0):=by rw[<- G]
 rw[B];exact F
theorem Fh(m:Nat)(hm:m=7\/m=31\/m=127)(h:Int){e:Nat}(J:e<=m):∃n,n<10*SetTable.turns m/\(jc m n (cG m h)).j=e:=by refine af (DM m hm h J) λL G B=>?_;refine af (qu m L (SetTable.bits h%(m+1)) (SetTable.bits h)) λn O F=>?_;refine⟨n,by exact Jg O G,?_⟩;rw[F];exact B
def Reach(m:Nat)(B:Nat->Prop)(p:SetTable.Probe)(j:Nat):Prop:=∃n,(jc m n p).j=j/\∀i,i<n->B (jc m i p).j
theorem Reach.mono{F B:Nat->Prop}{p:SetTable.Probe}(r:Reach m F p j)(h:∀k,F k->B k):Reach m B p j :=
 let⟨n,a,b⟩:=r;(aa n a (λi hi=>h _ (b i hi)))
theorem yc(nd:Rise xs)(hz:xs.size<=m):∃e,e<=m/\¬kR xs e:=by
 by_cases hc:∃e,e<=m/\¬kR xs e
 ·exact hc
 ·obtain hc:∀e,e<=m->kR xs e:=λe B=>Classical.byContradiction λz=>hc ⟨e,B,z⟩;exfalso;have key:∀k,k<=m+1->∀(l:List Nat),l.Nodup->(∀e,e<k->e∈l)->k<=l.length:=by
   intro k;induction k with
   |zero=>intro _ l _ _;exact m6 _
   |succ k G =>
    intro hk l nd hl;have hm:=hl k (y5 k);obtain this:=G (Jh hk) (l.erase k) (nd.erase k) λe B=>(List.Nodup.mem_erase_iff nd).mpr ⟨by exact Am B,hl e (tw B)⟩;rw[List.length_erase_of_mem hm]at this
    have:0<l.length:=List.length_pos_of_mem hm
    exact Ji (by assumption) this
  obtain F:=key (m+1) (f7 _) xs.toList (L4 (λh=>n9 h) nd) λe B=>hc e (wQ B);rw[Array.length_toList]at F;exact Eb F hz
theorem qQ(hd:t.dummies=#[])(r:Rise t.place){hashAt:Nat->Int}{h:Int}:∀(f n:Nat)(p:SetTable.Probe),p.dummy=none->n<f->¬kR t.place (jc t.mask n p).j -> ∃k,k<=n/\(∀i,i<k->∃q:Nat,t.place[q]?=some (jc t.mask i p).j/\hashAt q≠h) /\ ((¬kR t.place (jc t.mask k p).j/\SetTable.probe.go t hashAt h f p=some (.empty (jc t.mask k p).j none)) \/
    ∃q:Nat,k<n/\t.place[q]?=some (jc t.mask k p).j/\hashAt q=h/\SetTable.probe.go t hashAt h f p=some (.candidate (jc t.mask k p).j q (jc t.mask (k+1) p)))
 |0,n,p,_,J,_=>absurd J (u3 _)
 |f+1,n,p,hp,J,O=>by
  by_cases F:kR t.place p.j
  ·refine bR (FH F) λq hq=>?_;obtain hs:=qq r hq;rcases n with _|n
   ·exact absurd F O
   ·by_cases B:hashAt q=h
    ·refine(bb 0 (m6 _) (λi hi=>absurd hi (u3 _)) (.inr (iN q (Jj) hq B ?_)));unfold SetTable.probe.go;rw[hs];simp only[B,beq_self_eq_true,if_true];rfl
    ·obtain⟨k,hk,P,G⟩:=qQ hd r f n (vY t.mask p) ((pK _ _).trans hp) (Av J) O;have e:SetTable.probe.go t hashAt h (f+1) p=SetTable.probe.go t hashAt h f (vY t.mask p):=by
      conv=>lhs;unfold SetTable.probe.go
      rw[hs];simp only[beq_eq_false_iff_ne.mpr B,Bool.false_eq_true,if_false];rfl
     refine(bb (k+1) (Rj hk) (λi hi=>?_) ?_)
     ·rcases i with _|i
      ·exact(aa q hq B)
      ·exact P i (Av hi)
     ·rw[e];rcases G with G|⟨Q,a,b,c,d⟩
      ·exact .inl G
      ·exact .inr (iN Q (Jk a) b c d)
  ·refine(bb 0 (m6 _) (λi hi=>absurd hi (u3 _)) (.inl ⟨F,?_⟩));unfold SetTable.probe.go;rw[vH r hd F];simp only[hp];rfl
theorem ej{xs:Array α}{p:Nat}(hp:p<=xs.size)(x:α)(i:Nat):(SetTable.insertAt xs p x)[i]?=if i<p then xs[i]? else if i=p then some x else xs[i-1]?:=by
 rw[<- Array.getElem?_toList,ce,List.getElem?_append];obtain hl:(xs.toList.take p).length=p:=by simp;exact Jl hp
 rw[hl];split
 ·rename_i h;rw[List.getElem?_take,if_pos h,Array.getElem?_toList]
 ·rename_i h;split
  ·rename_i e;subst e;simp
  ·rename_i e;rw[List.getElem?_cons];rw[if_neg (Jm e h),List.getElem?_drop,Array.getElem?_toList];congr 1;exact Jn e h
theorem bF(xs:Array α)(p:Nat)(x:α):(SetTable.insertAt xs p x).size=xs.size+1:=by rw[<- Array.length_toList,ce];simp;exact Jo
structure TOK0(t:SetTable)(es:Array (Int×Value)):Prop where
 dm:t.dummies=#[]
 msk:t.mask=7\/t.mask=31\/t.mask=127
 size:t.place.size=es.size
 rise:Rise t.place
 le:∀j,kR t.place j->j<=t.mask
 reach:∀(i j:Nat)(e:Int×Value),t.place[i]?=some j->es[i]?=some e->Reach t.mask (kR t.place) (cG t.mask e.1) j
structure TOK(t:SetTable)(es:Array (Int×Value)):Prop extends TOK0 t es where
 few:es.size*5<t.mask*3
theorem Fits.of(T:TOK0 t es)(h:es.size<=t.mask):t.fits es.size=true:=by unfold SetTable.fits SetTable.fill;simp[T.size,T.dm,h]
theorem TOK.le'(T:TOK t es):es.size<t.mask:=by obtain B:=T.few;rcases T.msk with h|h|h <;> rw[h]at B ⊢ <;>(first|exact Jp B|exact Jq B|exact Jr B)
def xI(m:Nat)(p:SetTable.Probe):Prop:=p.j+p.more<=m
theorem zd{p:SetTable.Probe}(h:xI m p):xI m (vY m p):=by
 unfold vY;split
 ·show p.j+1+(p.more-1)<=m
  have:p.j+p.more<=m:=h
  exact Js (by assumption) this
 ·show(SetTable.leap m p.i p.perturb).1+(SetTable.runEnd m (SetTable.leap m p.i p.perturb).1-(SetTable.leap m p.i p.perturb).1)<=m;obtain F:=qY m (p.i,p.perturb);obtain B:=iH m (SetTable.leap m p.i p.perturb).1;obtain this:=B.2.1 F;obtain this:=B.2.2;exact Ec B.2.1 F
theorem vL(m:Nat)(h:Int):xI m (cG m h):=by have G:SetTable.bits h%(m+1)<=m:=p5 (K7 _ (u7 m));obtain F:=iH m (SetTable.bits h%(m+1));obtain B:=F.2.1 G;obtain B:=F.2.2;exact Ec F.2.1 G
theorem tU:∀(n:Nat){p:SetTable.Probe},xI m p->xI m (jc m n p)
 |0,_,h=>h
 |n+1,_,h=>tU n (zd h)
theorem tS(m:Nat)(h:Int)(n:Nat):(jc m n (cG m h)).j<=m:=by obtain B:xI m _:=tU n (vL m h);exact b8 (m9 _ _) B
theorem ny(T:TOK0 t es)(hz:es.size<=t.mask)(h:Int):∃n,n<10*SetTable.turns t.mask/\¬kR t.place (jc t.mask n (cG t.mask h)).j:=by refine af (yc T.rise (by rw[T.size];exact hz)) λe G J=>?_;refine af (Fh t.mask T.msk h G) λn B F=>?_;exact(aa n B (by rw[F];exact J))
theorem vm(hd:t.dummies=#[])(j:Nat):t.put j=({ t with place:=SetTable.insertAt t.place (SetTable.below t.place j) j },SetTable.below t.place j):=by
 unfold SetTable.put;obtain B:SetTable.has t.dummies j=false:=by rw[hd];simp[SetTable.has]
 simp only[B,Bool.false_eq_true,if_false]
theorem TOK0.put(T:TOK0 t es){e:Int×Value}(O:j<=t.mask)(P:¬kR t.place j)(Q:Reach t.mask (kR t.place) (cG t.mask e.1) j) : TOK0 (t.put j).1 (SetTable.insertAt es (t.put j).2 e):=by
 rw[vm T.dm];refine jg (cV T.rise j) λb1 _ _=>?_;refine⟨T.dm,T.msk,?_,tG T.rise P,λk hk=>?_,λi k e' F B=>?_⟩
 ·show(SetTable.insertAt _ _ _).size=_;rw[bF,bF,T.size]
 ·rcases oh.mp hk with hk|hk
  ·rw[hk];exact O
  ·exact T.le k hk
 ·have mono:∀{p:SetTable.Probe}{k:Nat},Reach t.mask (kR t.place) p k->Reach t.mask (kR (SetTable.insertAt t.place (SetTable.below t.place j) j)) p k:=λr=>r.mono λq hq=>oh.mpr (.inr hq);simp only at F B;rw[ej b1]at F;rw[ej (by rw[<- T.size];exact b1)]at B;split at F
  ·rename_i G;rw[if_pos G]at B;exact mono (T.reach i k e' F B)
  ·rename_i G;rw[if_neg G]at B;split at F
   ·rename_i J;rw[if_pos J]at B;obtain rfl:=c9 F;obtain rfl:=c9 B;exact mono Q
   ·rename_i J;rw[if_neg J]at B;exact mono (T.reach _ k e' F B)
abbrev uv(owner:Array (Option Nat))(j:Nat):Prop:=∃q:Nat,owner[j]?=some (some q)
structure LInv(m:Nat)(al:List Int)(owner:Array (Option Nat))(k:Nat):Prop where
 size:owner.size=m+1
 at_:∀(j q:Nat),owner[j]?=some (some q)->q<k/\∃hq,al[q]?=some hq/\Reach m (uv owner) (cG m hq) j
 has:∀q,q<k->∃j:Nat,owner[j]?=some (some q)
 one:∀(j j' q:Nat),owner[j]?=some (some q)->owner[j']?=some (some q)->j=j'
theorem LInv.empty{al:List Int}{owner:Array (Option Nat)}(I:LInv m al owner k)(hk:k<=m):∃e,e<=m/\owner[e]?=some none:=by
 by_cases hc:∃e,e<=m/\owner[e]?=some none
 ·exact hc
 ·exfalso;have B:∀e,e<m+1->∃q:Nat,owner[e]?=some (some q):=λe P=>by
   have F:e<owner.size:=by rw[I.size];exact P
   rcases h:owner[e]with _|q
   ·exact absurd (aa e (by exact wQ P) (by rw[Array.getElem?_eq_getElem F,h])) hc
   ·exact⟨q,by rw[Array.getElem?_eq_getElem F,h]⟩
  have Z:=bU k ((List.range (m+1)).map λe=>((owner[e]?).getD none).getD 0) ?_ ?_
  ·simp at Z;exact Eb Z hk
  ·refine L5 _ (R:=λx y=>x<m+1/\y<m+1/\x≠y) ?_ ?_
   ·rintro x y ⟨J,Y,Q⟩ e;refine bR (B x J) λq hq=>?_;refine bR (B y Y) λq' G=>?_;rw[hq,G]at e;simp only[Option.getD_some]at e;subst e;exact Q (I.one _ _ _ hq G)
   ·obtain O:(List.range (m+1)).Pairwise (·≠·):=M6;exact E7 (λJ Y h=>⟨j9.mp J,j9.mp Y,h⟩) O
  ·intro x J;refine af (b9.mp J) λe P aP=>?_;subst aP;refine bR (B e (j9.mp P)) λq hq=>?_;rw[hq];exact(I.at_ e q hq).1
theorem uM{n:Nat}{p:Nat->Bool}:(∃k,k<n/\(List.range n).find? p=some k/\p k=true/\∀i,i<k->p i=false)\/((List.range n).find? p=none/\∀i,i<n->p i=false):=by
 rcases h:(List.range n).find? p with _|k
 ·rw[List.find?_eq_none]at h;exact .inr ⟨rfl,λi hi=>G9.mpr (h i (j9.mpr hi))⟩
 ·rw[List.find?_range_eq_some]at h;exact .inl (iN k (j9.mp h.2.1) rfl h.1 (λi hi=>by obtain B:=h.2.2 i hi;simpa using B))
theorem pW{owner:Array (Option Nat)}(hs:owner.size=m+1):∀(L f i F:Nat),L<f->i<=m->(∃x:Nat,(bP m L (i,F)).1=x/\owner[x]?=some none) -> ∃j,SetTable.layClean.free m owner f i F=some j/\j<=m/\owner[j]?=some none/\Reach m (uv owner) (dA m i F) j
 |L,0,i,F,h,_,_=>absurd h (u3 _)
 |L,f+1,i,F,hf,hi,he=>by
  unfold SetTable.layClean.free;obtain O:=iH m i;have G:=O.2.1 hi;have Q:∀k,k<SetTable.runEnd m i+1-i->((owner.getD (i+k) (some 0)).isNone=true↔owner[i+k]?=some none):=λk hk=>by
   have B:i+k<owner.size:=by rw[hs];exact Ed G hk
   obtain e1:owner.getD (i+k) (some 0)=owner[i+k]:=by simp[Array.getD,B]
   rw[e1,Array.getElem?_eq_getElem B];cases owner[i+k] <;> simp
  have Y:∀k,k<SetTable.runEnd m i+1-i->(owner.getD (i+k) (some 0)).isNone=false->uv owner (jc m k (dA m i F)).j:=λk hk P=>by
   rw[mI m k _ (by show k<=SetTable.runEnd m i-i;exact Ee hk)];have B:i+k<owner.size:=by rw[hs];exact Ed G hk
   have e1:owner.getD (i+k) (some 0)=owner[i+k]:=by simp[Array.getD,B]
   rw[e1]at P;show uv owner (i+k);rcases h:owner[i+k]with _|q
   ·rw[h]at P;exact FE P
   ·exact⟨q,by rw[Array.getElem?_eq_getElem B,h]⟩
  rcases uM (n:=SetTable.runEnd m i+1-i) (p:=λk=>(owner.getD (i+k) (some 0)).isNone)with⟨k,hk,h1,Z,J⟩|⟨h1,Z⟩
  ·rw[h1];refine(iN (i+k) rfl (Jt G hk) ((Q k hk).mp Z) (aa k ?_ (λa ha=>Y a (Ju ha hk) (J a ha))));rw[mI m k _ (by show k<=SetTable.runEnd m i-i;exact Ee hk)];rfl
  ·rw[h1];rcases L with _|L
   ·obtain⟨x,hx,P⟩:=he
    have:=Z 0 (Ef O.2.2)
    have J:=(Q 0 (Ef O.2.2)).mpr (by rw[Nat.add_zero];rw[show i=x from hx];exact P);simp only[Nat.add_zero]at this J;rw[this]at J;exact ag J
   ·refine xG (pW hs L f (SetTable.leap m i F).1 (SetTable.leap m i F).2 (Av hf) (qY m (i,F)) he) λj e1 e2 e3 bx=>?_;refine af bx λn e4 e5=>?_;refine(iN j e1 e2 e3 (aa (SetTable.runEnd m i-i+1+n) (by rw[fh,oO];exact e4) (λa ha=>?_)));by_cases hc:a<SetTable.runEnd m i-i+1
    ·exact Y a (Eg O.2.2 hc) (Z a (Eg O.2.2 hc))
    ·obtain this:a=SetTable.runEnd m i-i+1+(a-(SetTable.runEnd m i-i+1)):=by exact Jv hc
     rw[this,fh,oO];exact e5 _ (Jw this ha)
noncomputable def mC(m:Nat)(acc:Option (Array (Option Nat)×Nat))(h:Int):Option (Array (Option Nat)×Nat):=do
  let(owner,k) <- acc
  let j <- SetTable.layClean.free m owner (SetTable.turns m) (SetTable.bits h%(m+1)) (SetTable.bits h)
  pure (owner.setIfInBounds j (some k),k+1)
theorem sW(m:Nat)(hashes:Array Int):SetTable.layClean m hashes=(hashes.toList.foldl (mC m) (some (Array.replicate (m+1) none,0))).map (·.1):=by unfold SetTable.layClean;rw[<- Array.foldl_toList];rfl
theorem sY(hm:m=7\/m=31\/m=127){al:List Int}(hl:al.length<=m):∀(rest B:List Int)(owner:Array (Option Nat)),al=B++rest->LInv m al owner B.length -> ∃F,rest.foldl (mC m) (some (owner,B.length))=some (F,al.length)/\LInv m al F al.length
 | [],B,owner,e,I=>by rw[List.append_nil]at e;subst e;exact(aa owner rfl I)
 |h::rest,B,owner,e,I=>by
  obtain hk:B.length<al.length:=by rw[e];simp
  refine af (I.empty (Jx hl hk)) λx hx hn=>?_;refine af (DM m hm h hx) λL hL eL=>?_;refine xG (pW I.size L (SetTable.turns m) _ _ (Jy hL) (p5 (K7 _ (u7 m))) (aa x eL hn)) λj e1 e2 e3 e4=>?_;obtain Q:j<owner.size:=by rw[I.size];exact Ap e2
  have G:∀i:Nat,(owner.setIfInBounds j (some B.length))[i]?=if j=i then some (some B.length)else owner[i]?:=λi=>by rw[Array.getElem?_setIfInBounds];simp[Q]
  obtain ad:al[B.length]?=some h:=by rw[e];simp
  have mono:∀k,uv owner k->uv (owner.setIfInBounds j (some B.length)) k:=λk ⟨q,hq⟩=>by
   by_cases P:j=k
   ·subst P;rw[e3]at hq;cases hq
   ·exact⟨q,by rw[G,if_neg P];exact hq⟩
  have I':LInv m al (owner.setIfInBounds j (some B.length)) (B++[h]).length:=by
   obtain Y:(B++[h]).length=B.length+1:=by rw[List.length_append];rfl
   rw[Y];refine⟨by simp[I.size],λi q hq=>?_,λq hq=>?_,λi i' q J O=>?_⟩
   ·rw[G]at hq;split at hq
    ·rename_i an;subst an;cases hq;exact⟨by exact DY,h,ad,e4.mono mono⟩
    ·refine bQ (I.at_ i q hq) λa bK=>?_;refine af bK λar b c=>?_;exact⟨by exact tw a,(aa ar b (c.mono mono))⟩
   ·by_cases Z:q=B.length
    ·subst Z;exact⟨j,by rw[G,if_pos rfl]⟩
    ·obtain⟨i,hi⟩:=I.has q (wR hq Z);refine⟨i,?_⟩;rw[G,if_neg]
     ·exact hi
     ·intro z;subst z;rw[e3]at hi;cases hi
   ·rw[G]at J O;split at J <;> split at O
    ·exact Jz (by assumption) (by assumption)
    ·rename_i z1 z2;cases J
     have:=(I.at_ i' _ O).1
     exact(As this).elim
    ·rename_i z1 z2;cases O
     have:=(I.at_ i _ J).1
     exact(As this).elim
    ·exact I.one _ _ _ J O
  refine af (sY hm hl rest (B++[h]) _ (by rw[e];simp) I') λF f1 f2=>?_;refine(aa F ?_ f2);rw[List.foldl_cons];have av:mC m (some (owner,B.length)) h=some (owner.setIfInBounds j (some B.length),(B++[h]).length):=by unfold mC;simp only[Option.bind_eq_bind,Option.bind_some,e1,Option.pure_def,List.length_append,List.length_singleton]
  rw[av];exact f1
theorem pD(hm:m=7\/m=31\/m=127){hashes:Array Int}(hl:hashes.size<=m):∃owner,SetTable.layClean m hashes=some owner/\LInv m hashes.toList owner hashes.size:=by
 have F:LInv m hashes.toList (Array.replicate (m+1) none) ([]:List Int).length:=by
  refine⟨by simp,λj q h=>?_,λq h=>absurd h (u3 _),λj j' q h=>?_⟩
  ·rw[Array.getElem?_replicate]at h;split at h <;> cases h
  ·rw[Array.getElem?_replicate]at h;split at h <;> cases h
 refine af (sY hm (al:=hashes.toList) hl hashes.toList [] _ rfl F) λowner B G=>?_;refine(aa owner ?_ (by simpa using G));rw[sW];simp only[List.length_nil]at B;rw[B];rfl
theorem bE(es:Array α):∀(l:List Nat),(∀q∈l,q<es.size)->(l.filterMap (es[·]?)).length=l.length/\∀(i q:Nat),l[i]?=some q->(l.filterMap (es[·]?))[i]?=es[q]?
 | [],_=>⟨rfl,λi q h=>by simp at h⟩
 |a::l,h=>by
  obtain⟨G,J⟩:=bE es l λq hq=>h q (d7 _ hq);have B:=h a d6;obtain F:es[a]?=some es[a]:=by simp[B]
  have e:(a::l).filterMap (es[·]?)=es[a]::l.filterMap (es[·]?):=by rw[List.filterMap_cons,F]
  rw[e];refine⟨by simp[G],λi q hi=>?_⟩;rcases i with _|i
  ·simp at hi;subst hi;exact F.symm
  ·simp at hi;exact J i q hi
theorem dX(es:Array α):(List.range es.size).filterMap (es[·]?)=es.toList:=by
 refine bQ (bE es (List.range es.size) λq hq=>j9.mp hq) λB F=>?_;apply u6;intro i;rw[List.length_range]at B;by_cases hi:i<es.size
 ·rw[F i i (by simp[hi]),Array.getElem?_toList]
 ·rw[List.getElem?_eq_none (JA B hi),List.getElem?_eq_none (by simpa using hi)]
theorem yj{fi mv:Nat}{led plain:Bool}(hm:m=7\/m=31\/m=127)(hl:es.size<=m) : ∃t F,SetTable.laid m fi mv led plain (es.map (·.1))=some (t,F)/\t.mask=m/\t.finger=fi/\t.led=led/\t.plain=plain/\F.toList.Perm (List.range es.size)/\TOK0 t (F.filterMap (es[·]?))/\(F.filterMap (es[·]?)).size=es.size/\(F.filterMap (es[·]?)).toList.Perm es.toList:=by
 refine af (pD hm (hashes:=es.map (·.1)) (by simpa using hl)) λowner h1 I=>?_;rw[Array.size_map]at I;obtain an:∃live:List (Nat×Nat),live=(List.range (m+1)).filterMap (λj=>(owner.getD j none).map (j,·)):=⟨_,rfl⟩;obtain⟨live,O⟩:=an;have B:∀j q,(j,q)∈live↔owner[j]?=some (some q):=λj q=>by
  rw[O,List.mem_filterMap];constructor
  ·rintro⟨a,ha,e⟩;refine af (m5.mp e) λb Q e'=>?_;cases e';obtain G:j<owner.size:=by rw[I.size];exact j9.mp ha
   simp[Array.getD,G]at Q;rw[Array.getElem?_eq_getElem G,Q]
  ·intro e;refine bR (r5.mp e) λG e'=>?_;refine(aa j (j9.mpr (by rw[<- I.size];exact G)) ?_);simp[Array.getD,G,e']
 have P:live.Pairwise λa b=>a.1<b.1:=by rw[O,List.pairwise_filterMap];refine L4 (R:=λx y=>x<y) ?_ I3;intro a a' h b Q b' hb';refine af (m5.mp Q) λ_ _ aP=>?_;subst aP;refine af (m5.mp hb') λ_ _ bx=>?_;subst bx;exact h
 have hnd:(live.map (·.2)).Nodup:=by refine L5 _ (R:=λa b:Nat×Nat=>a∈live/\b∈live/\a.1<b.1) ?_ (E7 (λha Q h=>(da ha Q h)) P);rintro⟨a,q⟩ ⟨b,q'⟩ ⟨ha,Q,G⟩ e;simp only at e G;subst e;obtain this:=I.one _ _ _ ((B _ _).mp ha) ((B _ _).mp Q);exact tx this G
 have J:(live.map (·.2)).Perm (List.range es.size):=by
  refine(y9 hnd M6).mpr λq=>?_;rw[List.mem_map,List.mem_range];constructor
  ·rintro⟨⟨j,q'⟩,h,rfl⟩;exact(I.at_ j q' ((B _ _).mp h)).1
  ·intro hq;refine bR (I.has q hq) λj hj=>?_;exact(aa (j,q) ((B _ _).mpr hj) rfl)
 obtain G:∀q∈live.map (·.2),q<es.size:=λq hq=>j9.mp (J.mem_iff.mp hq);have Y:live.length=es.size:=by obtain this:=J.length_eq;simpa using this
 refine bQ (bE es _ G) λg1 g2=>?_;have ad:((live.map (·.2)).toArray.filterMap (es[·]?)).toList=(live.map (·.2)).filterMap (es[·]?):=by simp
 have hsz:((live.map (·.2)).toArray.filterMap (es[·]?)).size=es.size:=by rw[<- Array.length_toList,ad,g1,List.length_map,Y]
 have Z:∀j,kR (live.map (·.1)).toArray j↔uv owner j:=λj=>by
  show j∈(live.map (·.1)).toArray.toList↔_;simp only[List.mem_map];constructor
  ·rintro⟨⟨a,q⟩,h,rfl⟩;exact⟨q,(B _ _).mp h⟩
  ·rintro⟨q,h⟩;exact(aa (j,q) ((B _ _).mpr h) rfl)
 refine⟨{ mask:=m,place:=(live.map (·.1)).toArray,dummies:=#[],finger:=fi,led,moves:=mv,plain },(live.map (·.2)).toArray,?_,rfl,rfl,rfl,rfl,by exact J,⟨rfl,hm,?_,?_,?_,?_⟩,hsz,?_⟩
 ·unfold SetTable.laid;rw[h1];dsimp only[Option.bind_eq_bind,Option.bind_some,Option.pure_def];rw[<- O]
 ·show(live.map (·.1)).toArray.size=_;rw[hsz];simp[Y]
 ·show Rise (live.map (·.1)).toArray;unfold Rise;simp only[List.pairwise_map];exact P
 ·intro j hj;obtain⟨q,hq⟩:=(Z j).mp hj
  have:=(r5.mp hq).1
  rw[I.size]at this;exact p5 this
 ·intro i j e h1 h2;simp only at h1;rw[<- Array.getElem?_toList]at h1 h2;rw[ad]at h2;simp only[List.getElem?_map]at h1;refine af (m5.mp h1) λbK hp cC=>?_;obtain⟨j',q⟩:=bK;subst cC;rw[g2 i q (by rw[List.getElem?_map,hp];rfl)]at h2;refine bQ (I.at_ _ _ ((B _ _).mp (g9 hp))) λ_ dj=>?_;refine af dj λhq a1 a2=>?_;rw[Array.getElem?_toList,Array.getElem?_map,h2]at a1;obtain rfl:=c9 a1;exact a2.mono λk hk=>(Z k).mpr hk
 ·rw[ad];obtain this:=J.filterMap (es[·]?);rw[dX]at this;exact this
theorem lQ(hm:t.mask=7\/t.mask=31\/t.mask=127)(hl:es.size<=64)(O:es.size*5≥t.mask*3)(hsz:es.size<=t.mask)(Y:(es.size-1)*5<t.mask*3) : ∃t' B,t.relaid (es.map (·.1)) (SetTable.grown es.size)=some (t',B)/\t'.led=t.led/\t'.plain=t.plain/\B.toList.Perm (List.range es.size)/\TOK t' (B.filterMap (es[·]?))/\(B.filterMap (es[·]?)).size=es.size/\(B.filterMap (es[·]?)).toList.Perm es.toList/\SetTable.sizeAbove (SetTable.grown es.size)<=sizeLine:=by
 obtain hg:SetTable.grown es.size=es.size*4:=by unfold SetTable.grown;rw[if_neg (JB hl)]
 have key:∃J,SetTable.sizeAbove (SetTable.grown es.size)-1=J/\(J=7\/J=31\/J=127)/\es.size*5<J*3/\SetTable.sizeAbove (SetTable.grown es.size)<=128:=by
  rw[hg];rcases hm with h|h|h
  ·rw[h]at O Y;obtain G:es.size=5:=by exact JC O Y
   rw[G];exact(iN 31 (by decide) (.inr (.inl rfl)) JE (by decide))
  ·rw[h]at O Y;obtain G:es.size=19:=by exact JF O Y
   rw[G];exact(iN 127 (by decide) (.inr (.inr rfl)) JG (by decide))
  ·rw[h]at O;exact(JH O hl).elim
 refine xG key λJ e Q F P=>?_;obtain Z:es.size<=J:=by rcases Q with h|h|h <;> rw[h]at F ⊢ <;>(first|exact(JI O F hm).elim|exact JJ F|exact JK F)
 obtain⟨t',B,h1,h2,_,h3,h4,h5,h6,h7,h8⟩:=yj (m:=J) (fi:=t.finger) (mv:=t.movedTo J) (led:=t.led) (plain:=t.plain) Q Z;refine⟨t',B,?_,h3,h4,h5,⟨h6,?_⟩,h7,h8,?_⟩
 ·unfold SetTable.relaid;rw[e];exact h1
 ·rw[h7,h2];exact F
 ·rw[sizeLine_eq];exact JL P
noncomputable def cq(w:World):Bool:=w.params.followText "set-order"
noncomputable abbrev bj(es:Array (Int×Value))(ep:Nat)(t:SetTable):Obj:={ cls:=.type "set",data:=.set es ep t }
section
variable{A:Around}{sa:SX}
theorem cJ{Q:Bool->Shared->Prop}(h:Q (cq w) s):wpAny (model prog w) A setsByText Q E s:=by unfold setsByText;exact ac (J0 (a9 h))
theorem rS{src:Source}{n:Nat}{Q:Nat->Shared->Prop}(B:0<n)(h:∀i d,i<n->Q i { s with drawn:=d }):wpAny (model prog w) A (choose src n) Q E s :=λ_ _ _=>⟨Nat.pos_iff_ne_zero.mp B,h _ _ (K7 _ B)⟩
theorem VR.plainCls{c:Value}{n:Nat}{Q:Bool->Shared->Prop}(p:aO x=true)(u:az x<=n)(r:VR sa s.heap x c)(h:Q false s):wpAny (model prog w) A (ofAClassStatement n c) Q E s:=by
 refine zV (P:=λn c=>∀Q:Bool->Shared->Prop,Q false s->wpAny (model prog w) A (ofAClassStatement n c) Q E s) (λn i t Q h=>?_) (λn x t Q h=>?_) (λn a cvs B G Q h=>?_) p u r Q h
 ·cases n <;> exact a9 h
 ·cases n <;> exact a9 h
 ·obtain hT:=B.typeIs (s:=s);refine cL B λo F _ cC=>?_;refine bR cC λk hd=>?_;unfold ofAClassStatement;refine ac (Q3 hT ?_);refine ac (a9 ?_);refine ac (t6 F hd ?_);refine ac ?_;rw[<- Array.forIn_toList];exact fq (λc hc R h=>ac (G c hc _ (a9 h))) (a9 h)
theorem VR.byValue{c:Value}{n:Nat}{Q:Bool->Shared->Prop}(p:aO x=true)(r:VR sa s.heap x c)(h:∀b,Q b s):wpAny (model prog w) A (hashByValue n c) Q E s:=by
 refine qW (P:=λ_ c=>∀n (Q:Bool->Shared->Prop),(∀b,Q b s)->wpAny (model prog w) A (hashByValue n c) Q E s) (Q:=λ_ cs=>∀c∈cs,∀n (Q:Bool->Shared->Prop),(∀b,Q b s)->wpAny (model prog w) A (hashByValue n c) Q E s)
  (λi t n Q h=>by unfold hashByValue;exact a9 (h _)) (λi t n Q h=>by unfold hashByValue;exact a9 (h _)) (λvs a cvs _ O _ G n Q h=>?_) (λ_ h=>absurd h i6) (λ_ _ _ _ _ _ _ _ a b=>J4.mpr ⟨a,b⟩) p r n Q h
 rcases n with _|n
 ·unfold hashByValue;exact a9 (h _)
 ·obtain hT:=O.typeIs (s:=s);refine cL O λo Y _ B=>?_;refine bR B λk hd=>?_;refine ac (z8 hT PySem.F.slot_tuple_hash.lookup ?_);refine ac (t6 Y hd ?_);refine ac ?_;rw[<- Array.forIn_toList];show wpAny _ _ (forIn cvs.toList _ _) _ _ _;generalize cvs.toList=cs at G ⊢;induction cs with
  |nil=>exact a9 (a9 (h _))
  |cons c cs J =>
   rw[List.forIn_cons];refine ac (ac (G c d6 n _ λb=>?_));rcases b with _|_
   ·exact a9 (a9 (a9 (h _)))
   ·exact a9 (J λc hc=>G c (d7 _ hc))
abbrev gK(x:V):Prop:=aO x=true/\az x<=8
theorem Ak{c:Value}(G:gK x)(Z:VR sa s.heap x c):∀{cs:List Value}{Q:Bool->Shared->Prop},(∀y∈cs,∃u,gK u/\VR sa s.heap u y)->Q false s->wpAny (model prog w) A (searchCouldBeSeen c cs) Q E s:=by
 intro cs Q hc h;refine ac ?_;obtain B:∀(cs:List Value){R:Option Bool×PUnit->Shared->Prop}{f:Value->Option Bool×PUnit->Sem (ForInStep (Option Bool×PUnit))},(∀y∈cs,∃u,gK u/\VR sa s.heap u y)->R (none,PUnit.unit) s ->
   (∀y J,(∃u,gK u/\VR sa s.heap u y)->J (ForInStep.yield (none,PUnit.unit)) s->wpAny (model prog w) A (f y (none,PUnit.unit)) J E s)->wpAny (model prog w) A (forIn cs (none,PUnit.unit) f) R E s:=by
  intro cs;induction cs with
  |nil=>intro R f _ h _;rw[List.forIn_nil];exact a9 h
  |cons y cs ih =>intro R f hc h P;rw[List.forIn_cons];refine ac (P y _ (hc y d6) ?_);exact ih (λz hz=>hc z (d7 _ hz)) h P
 refine B cs hc (a9 h) λy J ⟨u,F,Y⟩ O=>?_;dsimp only;split
 all_goals
  refine p0 (λ_=>a9 O) (λ_=>?_);refine ac (VR.quiet G.1 G.2 Z ?_);refine ac (VR.quiet F.1 F.2 Y ?_);refine ac (VR.plainCls G.1 G.2 Z ?_);refine ac (VR.plainCls F.1 F.2 Y ?_);exact a9 O
end
section
set_option tactic.hygienic true
structure ESR(sa:SX)(w:World)(h:Heap)(us:List V)(es:Array (Int×Value)):Prop where
 len:us.length=es.size
 at_:∀(i:Nat)(u:V)(e:Int×Value),us[i]?=some u->es[i]?=some e->e.1=aF w u/\VR sa h u e.2
theorem ESR.get{sa:SX}(r:ESR sa w h us es){u:V}(F:us[i]?=some u):∃e,es[i]?=some e/\e.1=aF w u/\VR sa h u e.2:=by
 obtain hi:=(f9.mp F).1;obtain B:i<es.size:=by rw[<- r.len];exact hi
 exact(aa (es[i]) (by simp[B]) (r.at_ i u _ F (by simp[B])))
theorem ESR.get'{sa:SX}(r:ESR sa w h us es){e:Int×Value}(F:es[i]?=some e):∃u,us[i]?=some u/\e.1=aF w u/\VR sa h u e.2:=by
 obtain hi:=(r5.mp F).1;obtain B:i<us.length:=by rw[r.len];exact hi
 exact(aa (us[i]) (by simp[B]) (r.at_ i _ e (by simp[B]) F))
theorem ESR.keep{sa:SX}(k:TupKeep sa h h')(r:ESR sa w h us es):ESR sa w h' us es :=⟨r.len,λi u e a b=>⟨(r.at_ i u e a b).1,(r.at_ i u e a b).2.keep k⟩⟩
structure SetR(sa:SX)(w:World)(h:Heap)(a:Addr)(κ:Nat)(us:List V):Prop where
 obj:∃es ep t,h.get? a=some (bj es ep t)/\TOK t es/\t.led=!cq w/\ESR sa w h us es
 kind:∀u∈us,vk u=κ/\gK u
 nd:us.Nodup
section
variable{A:Around}{sa:SX}
theorem vM{q:Nat}{e:Int×Value}(h:es[q]?=some e):(es[q]?.map (·.1)).getD 0=e.1:=by rw[h];rfl
theorem TOK.ent(T:TOK t es){q:Nat}(h:t.place[q]?=some j):∃e,es[q]?=some e:=by
 obtain hq:q<es.size:=by rw[<- T.size];exact(r5.mp h).1
 exact⟨_,Array.getElem?_eq_getElem hq⟩
theorem pd{c:Prop}[Decidable c]{a b:Sem α}{Q:α->Shared->Prop}{P:Prop}(k:P)(B:c->P->wpAny M A a Q E s)(F:¬c->P->wpAny M A b Q E s):wpAny M A (if c then a else b) Q E s :=p0 (λh=>B h k) λh=>F h k
theorem RM{u:V}(h:vk u=3):∃xs,u=.tup xs:=by cases u <;> first|exact⟨_,rfl⟩|exact absurd h (by decide:¬(0:Nat)=3)|exact absurd h (by decide:¬(1:Nat)=3)|exact absurd h (by decide:¬(2:Nat)=3)
theorem vN{g:Int}(r:ESR sa w s.heap us es)(hk:∀u∈us,vk u=3/\gK u):∀y∈((es.filter λz=>z.1==g).toList.map λz=>z.2),∃u,gK u/\VR sa s.heap u y:=λy O=>by refine af (b9.mp O) λe B aP=>?_;subst aP;obtain⟨i,hi⟩:=Array.mem_iff_getElem?.mp (Array.mem_filter.mp (w4.mp B)).1;refine cL (r.get' hi) λF G P J=>?_;exact(aa F ((hk F (g9 G)).2) J)
theorem yH{a:Addr}(ho:s.heap.get? a=some (bj es ep t))(T:TOK t es)(r:ESR sa w s.heap us es)(hk:∀u∈us,vk u=3/\gK u){c:Value}(kx:gK x)(rx:VR sa s.heap x c)(hu:A.units+9<cLine){Q:SetFound->Shared->Prop}(P:x∈us->Q (.there none) s):∀(n B:Nat)(p:SetTable.Probe)(F:Option SetTable.Probe),F.getD (t.probeStart (aF w x))=p->p.dummy=none->n<10*SetTable.turns t.mask->n<B->¬kR t.place (jc t.mask n p).j ->(∀k,k<=n->¬kR t.place (jc t.mask k p).j->(∀i,i<k->∃(q:Nat)(u:V),t.place[q]?=some (jc t.mask i p).j/\us[q]?=some u/\u≠x)->Q (.free (jc t.mask k p).j false) s) -> wpAny (model prog w) A (setSearchFrom a c (aF w x) true B F) Q E s:=by
 intro n;induction n using Nat.strongRecOn with
 |_ n ih =>
  intro B p F hp hpd hn hf he J;rcases B with _|B
  ·exact(DZ hf).elim
  ·obtain Y:t.fits es.size=true:=Fits.of T.toTOK0 (j7 T.le');have hgw:t.gaveWay=false:=by unfold SetTable.gaveWay;rcases T.msk with h|h|h <;> rw[h] <;> rfl
   obtain⟨k,hk1,hk2,hk3⟩:=qQ (hashAt:=_) T.dm T.rise (h:=aF w x) (10*SetTable.turns t.mask) n p hpd hn he;have G:∀i,i<k->∃(q:Nat)(u:V),t.place[q]?=some (jc t.mask i p).j/\us[q]?=some u/\u≠x:=λi hi=>by refine af (hk2 i hi) λq q1 q2=>?_;refine bR (TOK.ent T q1) λe he=>?_;refine cL (r.get' he) λu e1 e2 e3=>?_;exact(bc q u q1 e1 (λz=>q2 ((vM he).trans (e2.trans (by rw[z])))))
   refine ac (s0 ho rfl Y ?_);refine C5 (q7 (by rw[hgw];exact n7)) ?_;rw[hp];generalize hpr:t.probe _ (aF w x) p=met;rcases hk3 with⟨h1,h2⟩|⟨q,h1,h2,h3,h4⟩
   ·rw[hpr.symm.trans h2];exact a9 (J k hk1 h1 G)
   ·rw[hpr.symm.trans h4];refine bR (TOK.ent T h2) λbx Z=>?_;obtain⟨h',y⟩:=bx;refine cL (r.get' Z) λu e1 e2 e3=>?_;obtain ku:=hk u (g9 e1);obtain⟨b,rfl⟩:∃b,y=Value.ref b:=by refine bR (RM ku.1) λxs cC=>?_;subst cC;refine cb e3.tup_inv λb _ eb _=>?_;exact⟨b,eb⟩
    refine pd ?_ (λ_ h=>ac (Ak kx rx (vN r hk) (C5 rfl h))) (λ_ h=>h);rw[Z];refine ac (l8 (VR.eqBool (bD _ ku.2.1) (bD _ kx.1) (JM ku.2.2 hu) e3 rx ?_));refine ac (s0 ho rfl Y ?_);cases hv:cM u x with
    |true=>exact wpAny_ite_true rfl (a9 (P ((bt _ _).mp hv▸g9 e1)))
    |false =>
     refine C5 rfl ?_;rw[show t.sameMemory t.moves t.mask=some true by unfold SetTable.sameMemory;simp,qq T.rise h2];dsimp only;rw[if_pos rfl];dsimp only;rw[Z];refine ac (wpAny_isSame_ref_self ?_);rw[if_pos rfl];refine ac (a9 ?_);refine C5 rfl ?_;refine ih (n-k-1) (JN h1) B (jc t.mask (k+1) p) _ rfl ((qs _ _ _).trans hpd) (JO hn) (JP hf h1) (by rw[<- fh,show k+1+(n-k-1)=n by exact JQ h1];exact he) λk' hk' hn' hb'=>?_;rw[<- fh]at hn' ⊢;refine J (k+1+k') (JR hk' h1) hn' λi hi=>?_;by_cases ad:i<k
     ·exact G i ad
     ·by_cases O:i=k
      ·rw[O];exact(bc q u h2 e1 (aN.mp hv))
      ·obtain f:=hb' (i-(k+1)) (JS hi O ad);rw[<- fh,show k+1+(i-(k+1))=i by exact JT O ad]at f;exact f
end
end
section
variable{a:Addr}
theorem TOK0.plain(T:TOK0 t es)(b:Bool):TOK0 { t with plain:=b } es:=⟨T.dm,T.msk,T.size,T.rise,T.le,T.reach⟩
theorem TOK0.plainI(T:TOK0 t es)(c:Bool):TOK0 (if c=true then t else{ t with plain:=false }) es:=by
 cases c with
 |true=>exact T
 |false=>exact T.plain false
theorem Hu(t:SetTable)(c:Bool):(if c=true then t else{ t with plain:=false }).led=t.led/\(if c=true then t else{ t with plain:=false }).mask=t.mask:=by cases c <;> exact⟨rfl,rfl⟩
section
variable{sa:SX}
theorem ESR.insert(r:ESR sa w h us es){p:Nat}(hp:p<=es.size){c:Value}(G:VR sa h x c):ESR sa w h (SetTable.insertAt us.toArray p x).toList (SetTable.insertAt es p (aF w x,c)):=by
 refine⟨by rw[Array.length_toList,bF,bF,List.size_toArray,r.len],λi u e a b=>?_⟩;rw[Array.getElem?_toList,ej (by rw[List.size_toArray,r.len];exact hp)]at a;rw[ej hp]at b;split at a
 ·rename_i B;rw[if_pos B]at b;exact r.at_ i u e (by simpa using a) b
 ·rename_i B;rw[if_neg B]at b;split at a
  ·rename_i F;rw[if_pos F]at b;obtain rfl:=c9 a;obtain rfl:=c9 b;exact⟨rfl,G⟩
  ·rename_i F;rw[if_neg F]at b;exact r.at_ _ u e (by simpa using a) b
theorem lq(us:List V)(p:Nat)(x:V):(SetTable.insertAt us.toArray p x).toList.Perm (x::us):=by rw[ce];refine(M7).trans ?_;rw[List.take_append_drop]
theorem ESR.relay(r:ESR sa w h us es){B:Array Nat}(Q:B.toList.Perm (List.range es.size)):ESR sa w h (B.toList.filterMap (us.toArray[·]?)) (B.filterMap (es[·]?))/\(B.toList.filterMap (us.toArray[·]?)).Perm us:=by
 have J:∀q∈B.toList,q<es.size:=λq hq=>j9.mp (Q.mem_iff.mp hq);have O:us.toArray.size=es.size:=by rw[List.size_toArray,r.len]
 obtain⟨P,Y⟩:=bE us.toArray B.toList (by rw[O];exact J);obtain⟨b1,b2⟩:=bE es B.toList J;have G:(B.filterMap (es[·]?)).toList=B.toList.filterMap (es[·]?):=by simp
 refine⟨⟨by rw[P,<- b1,<- G,Array.length_toList],λi u e x y=>?_⟩,?_⟩
 ·rw[<- Array.getElem?_toList,G]at y;obtain hi:i<B.toList.length:=by rw[<- P];exact(f9.mp x).1
  rw[Y i _ (List.getElem?_eq_getElem hi)]at x;rw[b2 i _ (List.getElem?_eq_getElem hi)]at y;exact r.at_ _ u e (by simpa using x) y
 ·obtain F:=Q.filterMap (us.toArray[·]?);rw[<- O,dX]at F;exact F
end
theorem dM{sa:SX}(F:h.get? a=some (bj es ep t))(sb:Heap.SameBut a h h'):TupKeep sa h h':=λb o _ e hc _=>by
 by_cases B:b=a
 ·subst B;rw[F]at e;obtain rfl:=c9 e;simp at hc
 ·exact(sb.2 b B).trans e
section
variable{A:Around}{sa:SX}
theorem fj(T:TOK0 t es):t.tooFull=true↔es.size*5≥t.mask*3:=by unfold SetTable.tooFull SetTable.fill;simp[T.size,T.dm]
theorem iJ{B:Array (Int×Value)}{t':SetTable}{Q:Unit->Shared->Prop}(G:s.heap.get? a=some (bj es ep t))(hz:B.size<=100)(h:∀h',Heap.SameBut a s.heap h'->h'.get? a=some (bj B (ep+1) t')->Q () { s with heap:=h' }):wpAny (model prog w) A (storeSet a B t') Q E s:=by refine wpAny_storeSet_of G rfl (h _ (m7 _ _ _) ?_) (by rw[sizeLine_eq];exact JU hz);obtain F:=k8 (Obj.putSet B t') G (by rw[putSet_of B t' rfl];rfl);rw[putSet_of B t' rfl]at F;exact F
theorem AS(O:s.heap.get? a=some (bj es ep t))(T:TOK0 t es)(r:ESR sa w s.heap us es)(hl:es.size<=64)(hf:es.size*5≥t.mask*3)(F:es.size<=t.mask)(hb:(es.size-1)*5<t.mask*3){Q:Unit->Shared->Prop}(h:∀h' B J t' G,Heap.SameBut a s.heap h'->h'.get? a=some (bj B J t')->TOK t' B->t'.led=t.led->ESR sa w h' G B->G.Perm us->Q () { s with heap:=h' }) : wpAny (model prog w) A (setRelay a (SetTable.grown es.size)) Q E s:=by
 refine Rp (lQ T.msk hl hf F hb) λt' Y e1 e2 _ e4 e5 Z e7 e8=>?_;refine ac (s0 O rfl (Fits.of T F) ?_);dsimp only;rw[if_neg (JV e8),e1];refine ac ?_;refine p0 (λhc=>?_) (λ_=>a9 ?_)
 ·rw[Z]at hc;simp at hc
 dsimp only;refine bQ (r.relay e4) λr' p'=>?_;refine iJ O (by rw[Z];exact JW hl) λh' sb P=>?_;exact h h' _ _ _ _ sb P e5 e2 (r'.keep (dM O sb)) p'
theorem uz{c:Value}(S:SetR sa w s.heap a 3 us)(hx:vk x=3)(kx:gK x)(rx:VR sa s.heap x c)(hu:A.units+9<cLine)(hroom:us.length<64){Q:Bool->Shared->Prop}(h1:x∈us->Q false s)(hnew:∀h' O,Heap.SameBut a s.heap h'->SetR sa w h' a 3 O->O.Perm (x::us)->Q true { s with heap:=h' }) : wpAny (model prog w) A (setAddHashed a c (aF w x)) Q E s:=by
 obtain⟨⟨es,ep,t,ho,T,hled,r⟩,Z,hnd⟩:=S;obtain hfit:t.fits es.size=true:=Fits.of T.toTOK0 (j7 T.le');obtain⟨b,eb⟩:∃b,c=Value.ref b:=by
  cases x with
  |tup xs=>refine cb rx.tup_inv λb _ eb _=>?_;exact⟨b,eb⟩
  |_=>simp[vk]at hx
 refine l8 (ac (s0 ho rfl hfit ?_));dsimp only;obtain hbs:byScan c es=false:=by rw[eb];rfl
 simp only[hbs,Bool.false_eq_true,if_false];refine af (ny T.toTOK0 (j7 T.le') (aF w x)) λn hn he=>?_;have hturn:10*SetTable.turns t.mask<=100000:=by rcases T.msk with h|h|h <;> rw[h] <;> decide
 refine ac ?_;refine yH ho T r Z kx rx hu (λhm=>?_) n 100000 (t.probeStart (aF w x)) none rfl rfl hn (JX hturn hn) he λk hk F P=>?_
 ·exact a9 (h1 hm)
 rw[ja]at F P ⊢;have hnot:x∉us:=λhm=>by
  obtain⟨q,hq⟩:=k9.mp hm;refine cL (r.get hq) λe e1 e2 e3=>?_;have hqp:q<t.place.size:=by rw[T.size];exact(r5.mp e1).1
  have hpl:t.place[q]?=some t.place[q]:=by simp[hqp]
  refine af (T.reach q _ e hpl e1) λm m1 m2=>?_;rw[e2]at m1 m2;rcases C9 m k with h|h|h
  ·refine bw (P m h) λq' u' f1 f2 f3=>?_;rw[m1]at f1;obtain this:=mV T.rise f1;rw[mV T.rise hpl]at this;subst this;rw[hq]at f2;obtain rfl:=c9 f2;exact f3 rfl
  ·subst h;refine F ?_;rw[m1];exact g9 (by rw[Array.getElem?_toList];exact hpl)
  ·exact F (m2 k h)
 obtain ad:Reach t.mask (kR t.place) (cG t.mask (aF w x)) (jc t.mask k (cG t.mask (aF w x))).j:=(aa k rfl (λi hi=>by refine bw (P i hi) λq u f1 _ _=>?_;exact g9 (by rw[Array.getElem?_toList];exact f1)));obtain T':=T.toTOK0.put (e:=(aF w x,c)) (tS t.mask (aF w x) k) F ad;refine ac (s0 ho rfl hfit ?_);generalize hj:(jc t.mask k (cG t.mask (aF w x))).j=j at *;have hpe:=vm T.dm j;have hp2:(t.put j).2<=es.size:=by rw[hpe,<- T.size];exact(cV T.rise j).1
 have hm':(t.put j).1.mask=t.mask:=by rw[hpe]
 have hl':(t.put j).1.led=t.led:=by rw[hpe]
 have B:(SetTable.insertAt es (t.put j).2 (aF w x,c)).size=es.size+1:=bF _ _ _;have r':=r.insert hp2 rx;have hes:es.size<64:=by rw[<- r.len];exact hroom
 have J:=lq us (t.put j).2 x;have G:∀{O:List V},O.Perm (x::us)->(∀u∈O,vk u=3/\gK u)/\O.Nodup:=λp=>⟨λu hu=>by
  rcases i8.mp (p.mem_iff.mp hu)with e|hu
  ·rw[e];exact⟨hx,kx⟩
  ·exact Z u hu,p.nodup_iff.mpr (y0.mpr ⟨hnot,hnd⟩)⟩
 have go:∀(bv:Bool),wpAny (model prog w) A (do
   storeSet a (SetTable.insertAt es (t.put j).2 (aF w x,c)) (if bv=true then(t.put j).1 else{ (t.put j).1 with plain:=false })
   if(!false&&(if bv=true then(t.put j).1 else{ (t.put j).1 with plain:=false }).tooFull)=true then do
    setRelay a (SetTable.grown (es.size+1))
    pure true
   else pure true) Q E s:=by
  intro bv;have Tb:=T'.plainI bv;refine bQ (Hu (t.put j).1 bv) λlb mb=>?_;generalize (if bv=true then(t.put j).1 else{ (t.put j).1 with plain:=false })=tb at *;refine ac (iJ ho (Aw B hes) λh' sb ho'=>?_);obtain rb:=r'.keep (dM ho sb);refine p0 (λhc=>?_) (λhc=>?_)
  ·have hfull:(es.size+1)*5≥tb.mask*3:=by
    simp only[Bool.not_false,Bool.true_and]at hc;rw[fj Tb,B]at hc
    assumption
   obtain Y:=T.few;obtain hlt:=T.le';rw[<- B];refine ac (AS (s:={ s with heap:=h' }) ho' Tb rb (Eh B hes) (JY B hfull) (Ei hm' hlt B mb) (by rw[B,mb,hm'];exact Y) λh2 es2 ep2 t2 us2 sb2 ho2 T2 l2 r2 p2=>a9 ?_);obtain pp:=p2.trans J;exact hnew h2 us2 (sb.trans sb2) ⟨(md es2 ep2 t2 ho2 T2 (by rw[l2,lb,hl',hled]) r2),(G pp).1,(G pp).2⟩ pp
  ·have Y:(es.size+1)*5<tb.mask*3:=by simp only[Bool.not_false,Bool.true_and]at hc;rw[fj Tb,B]at hc;exact JZ hc
   refine a9 ?_;exact hnew h' _ sb ⟨(md _ _ tb ho' ⟨Tb,by rw[B];exact Y⟩ (by rw[lb,hl',hled]) rb),(G J).1,(G J).2⟩ J
 refine p0 (λ_=>ac (VR.byValue kx.1 rx λbv=>?_)) (λ_=>ac (a9 ?_))
 ·exact go bv
 ·exact go true
end
end
theorem pB(T:TOK0 t es)(hz:es.size<=t.mask)(h:Int):∃j,t.freeSlot h=some (j,false)/\j<=t.mask/\¬kR t.place j/\Reach t.mask (kR t.place) (cG t.mask h) j:=by
 refine af (ny T hz h) λn Y P=>?_;refine cL (qQ (hashAt:=λ_=>h+1) T.dm T.rise (h:=h) (10*SetTable.turns t.mask) n (cG t.mask h) rfl Y P) λk Q B F=>?_;rcases F with⟨G,J⟩|⟨q,G,J,O,Z⟩
 ·refine(iN ((jc t.mask k (cG t.mask h)).j) ?_ (tS _ _ _) G (aa k rfl (λi hi=>?_)))
  ·unfold SetTable.freeSlot SetTable.probe;rw[ja,J];rfl
  ·refine af (B i hi) λq f1 _=>?_;exact g9 (by rw[Array.getElem?_toList];exact f1)
 ·exact(Ka O).elim
theorem sX(T:TOK0 t es)(hz:es.size<t.mask)(h:Int)(c:Value):∃j p t',layNew t es h c=(SetTable.insertAt es p (h,c),t',false,false)/\p<=es.size/\TOK0 t' (SetTable.insertAt es p (h,c))/\t'.mask=t.mask/\t'.led=t.led/\j=p:=by
 refine xG (pB T (j7 hz) h) λj Q Y Z h4=>?_;obtain P:=T.put (e:=(h,c)) Y Z h4;obtain B:=vm T.dm j;obtain G:(t.put j).1.mask=t.mask:=by rw[B]
 obtain J:(t.put j).1.led=t.led:=by rw[B]
 obtain O:(t.put j).2<=es.size:=by rw[B,<- T.size];exact(cV T.rise j).1
 obtain F:=Fits.of P (by rw[bF,G];exact FL hz);refine(Rd _ ((t.put j).2) ((t.put j).1) ?_ O P G J rfl);unfold layNew;rw[Q];simp only[SetTable.orStandIn,F,if_true,Bool.not_true]
theorem pF(T:TOK0 t es)(hl:es.size<=64)(Q:es.size*5≥t.mask*3)(J:es.size<=t.mask)(P:(es.size-1)*5<t.mask*3) : ∃(t':SetTable)(B:Array Nat),relayAll t es (SetTable.grown es.size)=(B.filterMap (es[·]?),t',false)/\t'.led=t.led/\B.toList.Perm (List.range es.size)/\TOK t' (B.filterMap (es[·]?)):=by refine Rp (lQ T.msk hl Q J P) λt' B e1 e2 _ O G Y Z e8=>?_;refine(jh t' B ?_ e2 O G);unfold relayAll;rw[e1];obtain hc:coversAll B es.size=true:=List.isPerm_iff.mpr O;obtain F:=Fits.of G.toTOK0 (j7 G.le');simp only[hc,F,Bool.and_self,if_true]
section
variable{A:Around}{sa:SX}
theorem tL(h:vk x≠3)(B:vk x≠0):qU x=true:=by cases x <;> first|rfl|simp[vk]at h B
theorem kc{c:Value}(B:qU x=true)(r:VR sa h x c):c.scannable=true:=by
 cases x with
 |int i=>apply r.int_el;intro t;rfl
 |str i=>apply r.str_el;intro t;rfl
 |_=>exact ag B
theorem zb{a:Addr}{κ:Nat}{c:Value}(S:SetR sa w s.heap a κ us)(hκ:κ≠3)(hκ0:κ≠0)(hx:vk x=κ)(kx:gK x)(rx:VR sa s.heap x c)(Z:us.length<64){Q:Bool->Shared->Prop}(h1:x∈us->Q false s)(hnew:∀h' O,Heap.SameBut a s.heap h'->SetR sa w h' a κ O->O.Perm (x::us)->Q true { s with heap:=h' }) : wpAny (model prog w) A (setAddHashed a c (aF w x)) Q E s:=by
 letI:DecidableEq V:=vdec
 obtain⟨⟨es,ep,t,ho,T,hled,r⟩,G,hnd⟩:=S;obtain hfit:t.fits es.size=true:=Fits.of T.toTOK0 (j7 T.le');have hes:es.size<64:=by rw[<- r.len];exact Z
 have scx:qU x=true:=tL (by rw[hx];exact hκ) (by rw[hx];exact hκ0);obtain hkey:(bH prog w).is x c=true:=cF scx rx;have scu:∀u∈us,qU u=true:=λu P=>tL (by rw[(G u P).1];exact hκ) (by rw[(G u P).1];exact hκ0);obtain hel:ElemsOf (bH prog w) es.toList:=λe he=>by obtain⟨i,hi⟩:=k9.mp he;rw[Array.getElem?_toList]at hi;refine cL (r.get' hi) λu e1 e2 e3=>?_;obtain P:=scu u (g9 e1);exact⟨(aa u (cF P e3) e2),kc P e3⟩
 obtain hsc:=kc scx rx;obtain hb:es.size<scanBound:=o6 hes (by decide);refine l8 (ac (s0 ho rfl hfit ?_));dsimp only;rw[byScan_of hsc hb hel];rw[if_pos rfl];refine ac ?_;refine ac (y3 ?_);refine ac (wpAny_setScan_of (knd:=bH prog w) (k:=x) hkey ho rfl hfit hel ?_);cases hr:List.findIdx? (λe=>(bH prog w).is x e.2) es.toList with
 |some j =>
  refine af (z7.mp hr) λhj hpj _=>?_;refine a9 (a9 (h1 ?_));obtain hgj:es[j]?=some es.toList[j]:=by rw[<- Array.getElem?_toList];exact w1 hj
  refine cL (r.get' hgj) λu e1 e2 e3=>?_;obtain P:=g9 e1;obtain this:=(bH prog w).inj _ _ _ (cF (scu u P) e3) hpj;rw[<- this];exact P
 |none =>
  have hnot:x∉us:=λhm=>by
   obtain⟨q,hq⟩:=k9.mp hm;refine cL (r.get hq) λe e1 e2 e3=>?_
   have:=List.findIdx?_eq_none_iff.mp hr e (g9 (by rw[Array.getElem?_toList];exact e1))
   rw[show(bH prog w).is x e.2=true from cF scx e3]at this;exact FE this
  refine Pu (sX T.toTOK0 T.le' (aF w x) c) λ_ p t' Y hp T' hm' hl' _=>?_;obtain J:(SetTable.insertAt es p (aF w x,c)).size=es.size+1:=bF _ _ _;obtain r':=r.insert hp rx;obtain B:=lq us p x;have F:∀{O:List V},O.Perm (x::us)->(∀u∈O,vk u=κ/\gK u)/\O.Nodup:=λp=>⟨λu P=>by
   rcases i8.mp (p.mem_iff.mp P)with e|P
   ·rw[e];exact⟨hx,kx⟩
   ·exact G u P,p.nodup_iff.mpr (y0.mpr ⟨hnot,hnd⟩)⟩
  have hlay':layNew t es ((bH prog w).hash x) c=(SetTable.insertAt es p (aF w x,c),t',false,false):=Y;have hlay'':=Y;rw[Y];refine ac (a9 ?_);have go:∀(bv:Bool),∀(tb:SetTable),tb=(if bv=true then t' else{ t' with plain:=false })->∀{g:Bool->Sem Unit},(∀{s₁:Shared}{Q':Unit->Shared->Prop},Q' () s₁->wpAny (model prog w) A (g false) Q' E s₁)->wpAny (model prog w) A (do
    storeSet a (SetTable.insertAt es p (aF w x,c)) tb
    if(!false&&tb.tooFull)=true then do
     g (relayAll tb (SetTable.insertAt es p (aF w x,c)) (SetTable.grown (SetTable.insertAt es p (aF w x,c)).size)).2.2
     storeSet a (relayAll tb (SetTable.insertAt es p (aF w x,c)) (SetTable.grown (SetTable.insertAt es p (aF w x,c)).size)).1 (relayAll tb (SetTable.insertAt es p (aF w x,c)) (SetTable.grown (SetTable.insertAt es p (aF w x,c)).size)).2.1
     pure (some true)
    else pure (some true)) (λo s'=>o=some true/\Q true s') E s:=by
   intro bv tb etb g hg;obtain Tb:=T'.plainI bv;refine bQ (Hu t' bv) λlb mb=>?_;rw[<- etb]at Tb lb mb;refine ac (iJ ho (Aw J hes) λh' sb ho'=>?_);obtain rb:=r'.keep (dM ho sb);refine p0 (λhc=>?_) (λhc=>?_)
   ·simp only[Bool.not_false,Bool.true_and]at hc;rw[fj Tb]at hc;obtain hfew:=T.few;obtain hlt:=T.le';refine ph (pF Tb (Eh J hes) hc (Ei hm' hlt J mb) (by rw[J,mb,hm'];exact hfew)) λt2 ad e1 e2 e3 e4=>?_;rw[e1];refine bQ (rb.relay e3) λr2 p2=>?_;have hs2:(ad.filterMap ((SetTable.insertAt es p (aF w x,c))[·]?)).size=us.length+1:=by rw[<- r2.len,p2.length_eq,B.length_eq];rfl
    refine ac (hg ?_);refine ac (iJ (s:={ s with heap:=h' }) ho' (by show(ad.filterMap ((SetTable.insertAt es p (aF w x,c))[·]?)).size<=100;exact Aw hs2 Z) λh2 sb2 ho2=>a9 ⟨rfl,?_⟩);obtain pp:=p2.trans B;exact hnew h2 _ (sb.trans sb2) ⟨(md _ _ t2 ho2 e4 (by rw[e2,lb,hl',hled]) (r2.keep (dM ho' sb2))),(F pp).1,(F pp).2⟩ pp
   ·simp only[Bool.not_false,Bool.true_and]at hc;rw[fj Tb]at hc;refine a9 ⟨rfl,?_⟩;exact hnew h' _ sb ⟨(md _ _ tb ho' ⟨Tb,by exact Kb hc⟩ (by rw[lb,hl',hled]) rb),(F B).1,(F B).2⟩ B
  have fin:∀{o:Option Bool}{s':Shared},(o=some true/\Q true s')->wpAny (model prog w) A (match o with|some added=>pure added|none=>setAddHashedIn a c (aF w x) 99999) Q E s':=by rintro o s' ⟨rfl,hq⟩;exact a9 hq
  obtain hgw:∀{s₁:Shared}{Q':Unit->Shared->Prop},Q' () s₁->wpAny (model prog w) A (pure ():Sem Unit) Q' E s₁:=λq=>a9 q;refine p0 (λ_=>ac (VR.byValue kx.1 rx λbv=>?_)) (λ_=>ac (a9 ?_))
  ·exact d8 (go bv _ rfl hgw) (λo s' hq=>fin hq) λ_ _ e=>e
  ·exact d8 (go true _ rfl hgw) (λo s' hq=>fin hq) λ_ _ e=>e
end
section
variable{A:Around}{sa:SX}
theorem BJ{a:Addr}{κ:Nat}{c:Value}(S:SetR sa w s.heap a κ us)(P:κ≠0)(hx:vk x=κ)(kx:gK x)(rx:VR sa s.heap x c)(hu:A.units+9<cLine)(F:us.length<64){Q:Bool->Shared->Prop}(Z:x∈us->Q false s)(G:x∉us->∀h' B,Heap.SameBut a s.heap h'->SetR sa w h' a κ B->B.Perm (x::us)->Q true { s with heap:=h' }) : wpAny (model prog w) A (setAddHashed a c (aF w x)) Q E s:=by
 have hn:∀{h':Heap}{B:List V},SetR sa w h' a κ B->B.Perm (x::us)->x∉us:=λJ p hm=>by obtain Y:=p.nodup_iff.mp J.nd;exact(y0.mp Y).1 hm
 by_cases O:κ=3
 ·subst O;exact uz S hx kx rx hu F Z λh' B sb J p=>G (hn J p) h' B sb J p
 ·exact zb S O P hx kx rx F Z λh' B sb J p=>G (hn J p) h' B sb J p
theorem jd{v:V}(h:vs[i]?=some v)(x:V):x∈vs.take (i+1)↔x=v\/x∈vs.take i:=by rw[List.take_succ,h];simp only[Option.toList_some,List.mem_append,List.mem_singleton];exact or_comm
theorem SetR.keep{a:Addr}{κ:Nat}(S:SetR sa w h a κ us)(k:TupKeep sa h h')(B:∀o,h.get? a=some o->h'.get? a=some o):SetR sa w h' a κ us :=
 let⟨es,ep,t,F,T,hl,r⟩:=S.obj
 ⟨(md es ep t (B _ F) T hl (r.keep k)),S.kind,S.nd⟩
theorem vG{R:Result->Shared->Prop}{S:Addr}{fp:List Addr}{n:Nat}{P:Nat->Value->Prop}{St:Nat->Heap->Prop}(W:Walks prog w A.in1 I fp [I] n P St)(hSf:S∉fp)(ax:∀i h o,St i h->h.get? I=some o->o.cls≠.type "tuple"){h₀:Heap}(hS0:h₀.get? S=none)(hI0:h₀.get? I=none){vs:List V}(hP:∀i v,P i v->∃u,vs[i]?=some u/\VR sa h₀ u v){κ:Nat}(hκ0:κ≠0)(hvs:∀u∈vs,vk u=κ/\gK u)(hn:n=vs.length)(hz:vs.length<64)(hu:A.units+10<cLine)(av:I≠S) : ∀(k i:Nat)(s:Shared)(us:List V),n-i=k->i<=n->St i s.heap->SetR sa w s.heap S κ us->us.length<=i->(∀x,x∈us↔x∈vs.take i)->(∀b o,h₀.get? b=some o->s.heap.get? b=some o) ->(∀s' us,s'.gens=s.gens->s'.os=s.os->SetR sa w s'.heap S κ us->us.length<=n->(∀x,x∈us↔x∈vs)->(∀b o,h₀.get? b=some o->s'.heap.get? b=some o)->R (.ok (.ret .none)) s') -> codeAny (model prog w) A (.builtin "set.update.loop" ⟨[.ref S,.ref I],[]⟩) R s:=by
 obtain oldS:∀{b:Addr}{o:Obj},h₀.get? b=some o->b≠S:=λ{b o} e z=>by rw[z,hS0]at e;exact ns e
 have Q:∀{b:Addr}{o:Obj},h₀.get? b=some o->b≠I:=λ{b o} e z=>by rw[z,hI0]at e;exact ns e
 intro k;induction k with
 |zero =>
  intro i s us hk hi G hS hl B h0 hR;have hin:i=n:=by exact Kc hk hi
  subst hin;refine C4 PyProof.Rows.F.entry_set_update_loop ?_;rw[Around.under_plainId PyProof.Rows.F.plain_set_update_loop _];refine ac (W.done s _ _ G λh' tk Z=>?_);have kp:∀b o,b≠I->s.heap.get? b=some o->h'.get? b=some o:=λb o hb e=>Z b o (λz=>hb (j5.mp z)) e;have ar:TupKeep sa s.heap h':=λb o _ e hc _=>kp b o (λz=>ax _ _ _ G (z▸e) hc) e;exact a9 (hR _ us rfl rfl (hS.keep ar λo e=>kp _ o av.symm e) hl (λx=>by rw[B x,hn,List.take_length]) λb o e=>kp b o (Q e) (h0 b o e))
 |succ k ih =>
  intro i s us hk hi G hS hl B h0 hR;have J:i<n:=by exact Kd hk
  refine C4 PyProof.Rows.F.entry_set_update_loop ?_;rw[Around.under_plainId PyProof.Rows.F.plain_set_update_loop _];refine ac (W.item i s _ _ J G λv h' tk hPv O Z=>?_);have kp:∀b o,b≠I->s.heap.get? b=some o->h'.get? b=some o:=λb o hb e=>Z b o (λz=>hb (j5.mp z)) e;have ar:TupKeep sa s.heap h':=λb o _ e hc _=>kp b o (λz=>ax _ _ _ G (z▸e) hc) e;have a0:=hS.keep ar λo e=>kp _ o av.symm e;have Y:∀b o,h₀.get? b=some o->h'.get? b=some o:=λb o e=>kp b o (Q e) (h0 b o e);refine af (hP i v hPv) λu ad hu2=>?_;have hu3:VR sa h' u v:=hu2.keep (TupKeep.of_keep Y);obtain⟨ku1,an⟩:=hvs u (g9 ad);refine ac (l8 ?_);refine l8 ?_;have hA:A.in1.units=A.units+1:=rfl;refine ac (VR.pyHash (sa:=sa) (s:={ s with heap:=h',toks:=tk }) an.1 (by obtain this:=an.2;exact Ke hA hu this) hu3 ?_);refine BJ (sa:=sa) (us:=us) (x:=u) (s:={ s with heap:=h',toks:=tk+oV u }) a0 hκ0 ku1 an hu3 (by assumption) (Kf hn J hl hz) (λhm=>?_) λhnm h2 us2 sb S2 p=>?_
  ·refine a9 ⟨E8 E6 _,ih (i+1) _ us (Ej hk) J O a0 (Ar hl) (λx=>?_) Y hR⟩;rw[jd ad,B x];constructor
   ·exact .inr
   ·rintro(e|e)
    ·rw[e];exact(B u).mp hm
    ·exact e
  ·have hx:∀b,b∈fp->∀o,h'.get? b=some o->h2.get? b=some o:=λb hb o e=>(sb.2 b (λz=>hSf (z▸hb))).trans e;refine a9 ⟨E8 E6 _,ih (i+1) _ us2 (Ej hk) J (W.frame _ _ _ O hx) S2 (by rw[p.length_eq];simp;assumption) (λx=>?_) (λb o e=>(sb.2 b (oldS e)).trans (Y b o e)) hR⟩;rw[jd ad,p.mem_iff,List.mem_cons,B x]
end
section
variable{A:Around}{sa:SX}
theorem qJ(a:Value){Q₁:Value->Shared->Prop}(h:Q₁ (.ref s.heap.objs.size) { s with heap:=s.heap.push (bj #[] 0 (.fresh 0 0 (!cq w))) }) : codeAny (model prog w) A (.call (.builtin "set.__new__") ⟨[.type "set",a],[]⟩) (wants Q₁ E) s:=by
 refine N6 ?_;show wpAny _ A.in1 (do checkBuiltinCall "set.__new__" ⟨[.type "set",a],[]⟩;again (.builtin "set.__new__" ⟨[.type "set",a],[]⟩)) _ _ s;refine ac (L7 (PySem.F.newCall_set_1 a) (a9 ⟨E8 PySem.F.plain_set_new _,C4 PySem.F.entry_set_new ?_⟩));rw[Around.under_plainId PySem.F.plain_set_new _];have B:=sub_set_self;obtain⟨hp,g,d,tk,os⟩:=s
 wp_walk
 refine J0 (a9 ?_);refine ac (wpAny_alloc (a9 ?_));exact a9 h
def uu(prog:Program)(w:World)(s:Shared)(x:Addr)(n:Nat)(P:Nat->Value->Prop):Prop :=
 ∀(A A':Around)(E:Value->Shared->Prop)(s₁:Shared)(Q:Value->Shared->Prop),A.handled=none->A'.handled=none->(∀b o,s.heap.get? b=some o->s₁.heap.get? b=some o) ->
  (∀fp St B,Walks prog w A' s₁.heap.objs.size fp [s₁.heap.objs.size] n P St->(∀b∈fp,b=s₁.heap.objs.size\/s.heap.get? b≠none)->St 0 (s₁.heap.push B)->(∀i h o,St i h->h.get? s₁.heap.objs.size=some o->o.cls≠.type "tuple") ->
   Q (.ref s₁.heap.objs.size) { s₁ with heap:=s₁.heap.push B })->wpAny (model prog w) A (pyIter (.ref x)) Q E s₁
theorem yd{led:Bool}:TOK (SetTable.fresh 0 0 led) #[]:=by
 refine⟨⟨rfl,.inl rfl,rfl,List.Pairwise.nil,λj h=>?_,λi j e h=>?_⟩,show(0:Nat)*5<7*3 by decide⟩
 ·exact absurd h i6
 ·simp[SetTable.fresh]at h
set_option maxHeartbeats 3200000 in
theorem sC{x:Addr}{T:String}{n:Nat}{P:Nat->Value->Prop}{κ:Nat}{Q:Value->Shared->Prop}(hT:s.TypeIs (.ref x) T)(hs1:isSubtype (.type T) (.type "set")=pure false)(hs2:isSubtype (.type T) (.type "frozenset")=pure false)(hne:(Value.type T==Value.type "dict")=false)(hh:A.handled=none)(hu:A.units+30<cLine)(O:uu prog w s x n P)(hP:∀i v,P i v->∃u,vs[i]?=some u/\VR sa s.heap u v)(Y:κ≠0)(hvs:∀u∈vs,vk u=κ/\gK u)(hn:n=vs.length)(hz:vs.length<64)(h:∀s' us,Ex s s'->SetR sa w s'.heap s.heap.objs.size κ us->us.length<=vs.length->(∀x,x∈us↔x∈vs)->Q (.ref s.heap.objs.size) s') : wpAny (model prog w) A (call (.type "set") [.ref x]) Q E s:=by
 obtain⟨c,tl,hmro⟩:=PySem.F.called_set.mro;have a4:=PySem.F.called_set.made;have hsub:=PySem.F.called_set.sub;refine wpAny_call (N6 ?_);show wpAny _ _ (callAny (.type "set") _) _ _ _;refine a9 ⟨Code.quiet_builtin _ (by decide +kernel),C4 PySem.F.entry_type_call ?_⟩;rw[Around.under_plain (weight_type_call_type "set" [.ref x] []) rfl];have h1:=PySem.F.called_set.notType;have h2:=PySem.F.called_set.canCreate;have hct:=PySem.F.typeCall_set_1 (.ref x)
 repeat (any_goals (first|assumption|wp_step))
 refine E4 (qJ (.ref x) (E:=E) (Q₁:=λobj s₁=>obj=.ref s.heap.objs.size/\s₁={ s with heap:=s.heap.push (bj #[] 0 (.fresh 0 0 (!cq w))) }) ⟨rfl,rfl⟩) λr s₁ hr=>?_;cases r with
 |error e=>exact hr
 |ok fl =>
  cases fl with
  |ret obj =>
   obtain⟨rfl,rfl⟩:=hr;have hS:(s.heap.push (bj #[] 0 (.fresh 0 0 (!cq w)))).get? s.heap.objs.size=some (bj #[] 0 (.fresh 0 0 (!cq w))):=g8 _ rfl;have ax:Shared.TypeIs { s with heap:=s.heap.push (bj #[] 0 (.fresh 0 0 (!cq w))) } (.ref s.heap.objs.size) "set":=(aa _ hS rfl);have hli:=PySem.F.called_set.init.lookup;have hbi:=PySem.F.called_set.init.bind (.ref s.heap.objs.size)
   repeat (any_goals (first|assumption|wp_step))
   refine E4 (codeAny_call_builtin (R:=wants (λr s₂=>r=.none/\∃us,Ex s s₂/\SetR sa w s₂.heap s.heap.objs.size κ us/\us.length<=vs.length/\∀x,x∈us↔x∈vs) E) PySem.F.called_set.init.plain PySem.F.entry_set_init (check_set_init_1 ax ?_)) λZ s₂ B=>?_
   ·have hTx:Shared.TypeIs { s with heap:=s.heap.push (bj #[] 0 (.fresh 0 0 (!cq w))) } (.ref x) T:=by obtain⟨o,ho,hc⟩:=hT;exact(aa o (d5 _ ho) hc)
    have hx:x<s.heap.objs.size:=by obtain⟨o,ho,hc⟩:=hT;exact o8 ho
    unfold Builtin.«set.__init__» noKeywords Builtin.Frozenset.updateFrom;generalize an:pyIter=PI
    wp_walk
    subst an;refine O _ A.in1.in1.in1 _ _ _ hh (by simpa using hh) (λb o e=>d5 _ e) λfp St oI W a0 st ad=>?_;refine ac (wpAny_runValue ?_);have ar:SetR sa w ((s.heap.push (bj #[] 0 (.fresh 0 0 (!cq w)))).push oI) s.heap.objs.size κ [] :=⟨(md (#[]) 0 _ (d5 _ hS) yd rfl ⟨rfl,λi u e a=>by simp at a⟩),(λu hu=>absurd hu i6),s9⟩
    have G:(s.heap.push (bj #[] 0 (.fresh 0 0 (!cq w)))).objs.size=s.heap.objs.size+1:=N9 _ _;have n0:∀b,s.heap.objs.size<=b->s.heap.get? b=none:=λb hb=>i9 hb;refine vG (sa:=sa) (h₀:=s.heap) W (λhm=>?_) ad (n0 _ (f7 _)) (n0 _ (by rw[G];exact Ao)) hP Y hvs hn hz ?_ (by rw[G];exact Nat.succ_ne_self _) n 0 { s with heap:=(s.heap.push (bj #[] 0 (.fresh 0 0 (!cq w)))).push oI } [] rfl (m6 _) st ar (f7 _) (λx=>by rfl) (λb o e=>?_) λs' us eg eo av a2 a3 a1=>?_
    ·rcases a0 _ hm with e|e
     ·rw[G]at e;exact absurd e (n9 (y5 _))
     ·exact e (n0 _ (f7 _))
    ·show A.units+1+1+10<cLine;exact Kg hu
    ·exact d5 _ (d5 _ e)
    ·show wpAny _ _ _ _ _ _;refine a9 ?_;show wpAny _ _ (ret Value.none) _ _ _;exact a9 ⟨rfl,(iN us ⟨eg,eo,a1⟩ av (Kh hn a2) a3)⟩
   ·cases Z with
    |error e=>exact B
    |ok J =>
     cases J with
     |ret r =>
      obtain⟨rfl,us,x1,x2,x3,x4⟩:=B
      repeat (any_goals (first|assumption|wp_step))
      exact h _ us x1 x2 x3 x4
     |_=>exact B.elim
  |_=>exact hr.elim
end
section
variable{a:Addr}
theorem nr:entryFor table "set.__iter__"=some Builtin.«frozenset.__iter__» :=entryFor_alias (id':="frozenset.__iter__") (by kernel_rfl) rfl (by decide +kernel) (by kernel_rfl)
theorem lM:Manifest.owners.lookup (String.ofList ['r','o','t','a','r','e','t','i','_','t','e','s'].reverse)=some Manifest.sig_set_iterator:=by kernel_rfl
theorem bk:Slot "set_iterator" "__next__" "set_iterator.__next__" :=
 .of (owner:="set_iterator") (n:="__next__") (by rw[typeLookup_type,builtinLookup_eq_fast];kernel_rfl) (by decide +kernel) (by decide +kernel) (by decide +kernel)
  (by first|exact .inl (by decide +kernel)|exact .inr (by decide +kernel)) (by rw[isSubtype_type];kernel_rfl)
theorem fD:entryFor table "set_iterator.__next__"=some Builtin.«set_iterator.__next__»:=entryFor_of_tree (by kernel_rfl)
theorem gA(a:Value):argsOk "set_iterator.__next__" ⟨[a],[]⟩:=by unfold argsOk;rw[signature?_of (id:="set_iterator.__next__") (n:=['_','_','t','x','e','n','_','_']) (o:=['r','o','t','a','r','e','t','i','_','t','e','s']) (by kernel_rfl) lM];kernel_rfl
theorem gE:Slot "set_iterator" "__iter__" "set_iterator.__iter__" :=
 .of (owner:="set_iterator") (n:="__iter__") (by rw[typeLookup_type,builtinLookup_eq_fast];kernel_rfl) (by decide +kernel) (by decide +kernel) (by decide +kernel)
  (by first|exact .inl (by decide +kernel)|exact .inr (by decide +kernel)) (by rw[isSubtype_type];kernel_rfl)
theorem kD:entryFor table "set_iterator.__iter__"=some Builtin.«dict_keyiterator.__iter__» :=entryFor_alias (id':="dict_keyiterator.__iter__") (by kernel_rfl) rfl (by decide +kernel) (by kernel_rfl)
theorem me(a:Value):argsOk "set_iterator.__iter__" ⟨[a],[]⟩:=by unfold argsOk;rw[signature?_of (id:="set_iterator.__iter__") (n:=['_','_','r','e','t','i','_','_']) (o:=['r','o','t','a','r','e','t','i','_','t','e','s']) (by kernel_rfl) lM];kernel_rfl
theorem jk:∀{l:List α}{i:Nat}(h:i<l.length),(l[i]::l.eraseIdx i).Perm l
 |x::l,0,_=>r7 _
 |x::l,i+1,h=>by exact(List.Perm.swap _ _ _).trans ((jk (Nat.lt_of_succ_lt_succ h)).cons x)
theorem lN(next:Nat->Nat):∀(f k:Nat)(left:List α)(out:Array α),f=left.length->(pickOrder.go next f k left out).toList.Perm (out.toList++left)
 |0,k,left,out,h=>by obtain F:left=[]:=B6.mp h.symm;subst F;unfold pickOrder.go;simp
 |f+1,k,left,out,h=>by unfold pickOrder.go;obtain B:next k%left.length<left.length:=K7 _ (Ki h);rw[List.getElem?_eq_getElem B];refine(lN next f (k+1) _ _ (by rw[List.length_eraseIdx_of_lt B];exact Ek h)).trans ?_;rw[Array.toList_push,List.append_assoc,List.singleton_append];refine List.Perm.append_left _ ?_;exact jk B
theorem dz(next:Nat->Nat)(xs:Array α):(pickOrder next xs).toList.Perm xs.toList:=by unfold pickOrder;obtain B:=lN next xs.size 0 xs.toList #[] (by simp);simpa using B
section
variable{A:Around}{sa:SX}
theorem gG:∀(n:Nat)(xs:List α){s:Shared}{Q:List α->Shared->Prop},n=xs.length->(∀ys d,ys.Perm xs->Q ys { s with drawn:=d })->wpAny (model prog w) A (drawOrder n xs) Q E s
 |0,xs,s,Q,h,q=>by obtain B:xs=[]:=B6.mp h.symm;subst B;exact a9 (q [] s.drawn (r7 _))
 |n+1,[],s,Q,h,q=>by simp at h
 |n+1,x::xs,s,Q,h,q=>by refine ac (rS (by simp) λi d hi=>?_);rw[List.getElem?_eq_getElem hi];refine ac (gG n _ (by rw[List.length_eraseIdx_of_lt hi];exact Ek h) λys d' p=>a9 (q _ d' ?_));exact(p.cons _).trans (jk hi)
def IsSetIter(h:Heap)(it a:Addr)(first:Value)(i n ep:Nat):Prop:=∃o,h.get? it=some o/\o.cls=.type "set_iterator"/\o.data=.fields #[first,.int i 0,.ref a,.int n 0,.int ep 0]
theorem IsSetIter.typeIs{first:Value}{n:Nat}(x:IsSetIter s.heap it a first i n ep):s.TypeIs (.ref it) "set_iterator":=by refine cL x λo B hc _=>?_;exact⟨o,B,hc⟩
theorem qo{Q:Option Value->Shared->Prop}{vs:Array Value}(G:A.handled=none)(O:s.heap.get? it=some o)(hd:o.data=.fields vs)(J:j<vs.size)(F:∀h',Heap.ExtBut it s.heap h'->Q none { s with heap:=h' }) : wpAny (model prog w) A.in1 (do setField (.ref it) j .none;raiseNew (<- newExc (.type "StopIteration") []):Sem Fin) (λB s'=>∃v,B=.done (.ret v)/\False) (λe s'=>wpAny (model prog w) A (do if <- isInstance e (.type "StopIteration")then pure none else throw e) Q E s') s:=by refine ac (w7 O hd J ?_);refine ac ?_;refine ac (r9 ?_ (by size_fits));refine ac (m:=firstArgMember _ _) (L7 (a:=Value.none) (by first|rfl|(simp only[firstArgMember];rfl)) ?_);refine r9 ?_ (by size_fits);refine ac (P2 ?_);rw[show A.in1.handled=none from G];refine ac (a9 (Q6 ?_));refine ac (C0 (T:="StopIteration") (b:=true) ⟨_,g8 _ rfl,rfl⟩ O7 ?_);exact a9 (F _ (((m7 ..).extBut.push _).push _))
theorem oK(n:Nat):((n:Int) !=(n:Int))=false:=by simp
theorem gr(r:Option (Value×Nat)){Q:Option Value->Shared->Prop}(hh:A.handled=none)(G:IsSetIter s.heap it a (.int k 0) i es.size ep)(ho:s.heap.get? a=some (bj es ep t))(hf:t.fits es.size=true)(hn:∀{A':Around}{Z:Value->Shared->Prop}{R:Option (Value×Nat)->Shared->Prop},R r s->wpAny (model prog w) A' (setNext a k i ep) R Z s)(P:∀h',match r with|some x=>IsSetIter h' it a (.int x.2 0) (i+1) es.size ep->Heap.SameBut it s.heap h'->Q (some x.1) { s with heap:=h' } |none=>Heap.ExtBut it s.heap h'->Q none { s with heap:=h' }):wpAny (model prog w) A (pyNext (.ref it)) Q E s:=by
 refine cL (id G) λo B hc hd=>?_;refine ac (F8 (p6 (name:=Str.ofString "__next__") G.typeIs bk
  (n6 bk G.typeIs fD ?_ (gA _))))
 refine ac (a9 ?_);refine ac (K8 B hd ?_);refine ac (K3 ho rfl hf ?_);refine p0 (λhc=>absurd hc (by rw[oK];exact n7)) λ_=>?_;refine ac (hn ?_);rcases r with _|⟨x,Y⟩
 ·exact d8 (qo (j:=2) hh B hd (by decide:2<5) P) (λ_ _ h=>af h λ_ _ f=>f.elim) λ_ _ e=>e
 ·refine ac (w7 B hd (by decide:0<5) ?_);obtain ho1:=k8 (Obj.mapFields (·.setIfInBounds 0 (rawInt (Y:Int)))) B (u8 (s8 hd _));obtain F:=s8 hd (·.setIfInBounds 0 (rawInt (Y:Int)));refine ac (w7 ho1 F (by decide:1<5) ?_);obtain O:=k8 (Obj.mapFields (·.setIfInBounds 1 (rawInt ((i:Int)+1)))) ho1 (u8 (s8 F _));obtain J:=s8 F (·.setIfInBounds 1 (rawInt ((i:Int)+1)));refine a9 (aa _ rfl (a9 (P _ (bb _ O ?_ J) ((m7 ..).trans (m7 ..)))));rw[Obj.cls_mapFields,Obj.cls_mapFields];exact hc
theorem qd(B:cq w=true)(G:s.heap.get? a=some (bj es ep t))(F:t.fits es.size=true){R:Option (Value×Nat)->Shared->Prop}(h:R (((pickOrder (w.params.setOrder a ep) es)[i]?).map λe=>(e.2,k)) s):wpAny (model prog w) A (setNext a k i ep) R E s:=by refine ac (s0 G rfl F ?_);refine ac (cJ ?_);rw[B,if_pos rfl];refine C5 (q7 (by rw[bne_self_eq_false];exact n7)) ?_;refine ac ?_;refine ac (s0 G rfl F ?_);refine ac (cJ ?_);rw[B,if_pos rfl];refine ac (J0 (a9 ?_));exact a9 h
theorem nY(B:cq w=false)(hp:(!t.plain&&decide (es.size>1))=false)(hl:t.led=true)(G:s.heap.get? a=some (bj es ep t))(F:t.fits es.size=true){R:Option (Value×Nat)->Shared->Prop}(h:R (match es[SetTable.below t.place k]?,t.place[SetTable.below t.place k]? with|some (_,x),some j=>some (x,j+1)|_,_=>none) s):wpAny (model prog w) A (setNext a k i ep) R E s:=by refine ac (s0 G rfl F ?_);dsimp only;refine ac (cJ ?_);rw[B,if_neg Bool.false_ne_true];refine p0 (λhc=>Bool.noConfusion (hp.symm.trans (hc:(!t.plain&&decide (es.size>1))=true))) λ_=>?_;refine ac ?_;refine p0 (λhc=>?_) λ_=>a9 (a9 h);rw[hl]at hc;simp at hc
end
end
section
variable{A:Around}{sa:SX}
noncomputable abbrev dh(ps:List Nat):Obj:={ cls:=.type "tuple",data:=.seq (ps.map λ(i:Nat)=>rawInt (i:Int)).toArray 0 }
theorem pR{a p:Addr}{ps:List Nat}(r:Option Value){Q:Option Value->Shared->Prop}(hh:A.handled=none)(F:IsSetIter s.heap it a (.ref p) i es.size ep)(ho:s.heap.get? a=some (bj es ep t))(hf:t.fits es.size=true)(hp:s.heap.get? p=some (dh ps))(hj:match r with|some x=>∃j e,ps[i]?=some j/\es[j]?=some e/\x=e.2|none=>ps[i]?=none)(Y:∀h',match r with|some x=>IsSetIter h' it a (.ref p) (i+1) es.size ep->Heap.SameBut it s.heap h'->Q (some x) { s with heap:=h' } |none=>Heap.ExtBut it s.heap h'->Q none { s with heap:=h' }):wpAny (model prog w) A (pyNext (.ref it)) Q E s:=by
 refine cL (id F) λo B hc hd=>?_;refine ac (F8 (p6 (name:=Str.ofString "__next__") F.typeIs bk
  (n6 bk F.typeIs fD ?_ (gA _))))
 refine ac (a9 ?_);refine ac (K8 B hd ?_);refine ac (K3 ho rfl hf ?_);refine p0 (λhc=>absurd hc (by rw[oK];exact n7)) λ_=>?_;refine ac (t6 hp rfl ?_);have P:(ps.map λ(i:Nat)=>rawInt (i:Int)).toArray[i]?=(ps[i]?).map λ(i:Nat)=>rawInt (i:Int):=by rw[List.getElem?_toArray,List.getElem?_map]
 dsimp only;rw[Int.toNat_natCast,P];rcases r with _|x
 ·rw[(hj:ps[i]?=none)];refine ac (w7 B hd (by decide:0<5) ?_);obtain ho1:=k8 (Obj.mapFields (·.setIfInBounds 0 (rawInt 0))) B (u8 (s8 hd _));obtain G:=s8 hd (·.setIfInBounds 0 (rawInt 0));refine d8 (qo (s:={ s with heap:=_ }) (j:=2) hh ho1 G (by decide:2<5) λh' x=>Y h' ?_) (λ_ _ h=>af h λ_ _ f=>f.elim) λ_ _ e=>e
  exactλb o Z e=>x b o Z ((s7 _ _ (K4 Z)).trans e)
 ·refine bw hj λj e J he zx=>?_;subst zx;rw[J];refine ac ?_;refine ac (s0 ho rfl hf ?_);refine C5 (q7 (by rw[Int.toNat_natCast,bne_self_eq_false];exact n7)) ?_;rw[Int.toNat_natCast,he];refine a9 ?_;refine ac (w7 B hd (by decide:1<5) ?_);obtain O:=k8 (Obj.mapFields (·.setIfInBounds 1 (rawInt ((i:Int)+1)))) B (u8 (s8 hd _));refine a9 (aa _ rfl (a9 (Y _ (bb _ O ?_ (s8 hd (·.setIfInBounds 1 (rawInt ((i:Int)+1))))) (m7 ..))));rw[Obj.cls_mapFields];exact hc
theorem gq{a:Addr}{first:Value}{n:Nat}{Q:Value->Shared->Prop}(B:IsSetIter s.heap it a first i n ep)(h:Q (.ref it) s):wpAny (model prog w) A (pyIter (.ref it)) Q E s:=by refine L8 B.typeIs gE (n6 gE B.typeIs kD ?_ (me _));exact a9 (aa _ rfl (bc ("set_iterator") _ B.typeIs bk.lookup h))
theorem IsSetIter.at_{a:Addr}{first:Value}{n:Nat}(x:IsSetIter h it a first i n ep)(e:∀o,h.get? it=some o->h'.get? it=some o):IsSetIter h' it a first i n ep:=by refine af x λo B r=>?_;exact(aa o (e _ B) r)
noncomputable def kN(t:SetTable):Nat->Nat
 |0=>0
 |i+1=>(t.place.getD i 0)+1
theorem lT(h:t.place[i]?=some j):kN t (i+1)=j+1:=by show t.place.getD i 0+1=j+1;rw[Array.getD_eq_getD_getElem?,h];rfl
theorem jH(T:TOK t es):∀i,i<=es.size->SetTable.below t.place (kN t i)=i
 |0,_=>uD T.rise
 |i+1,hi=>by
  have B:i<t.place.size:=by rw[T.size];exact Kj hi
  obtain F:t.place[i]?=some t.place[i]:=by simp[B]
  rw[lT F];exact uC T.rise F
theorem vT(G:cq w=true)(hh:A.handled=none)(I a:Addr)(an:a≠I)(es:Array (Int×Value))(ep:Nat)(t:SetTable)(Y:t.fits es.size=true) : Walks prog w A I [I,a] [I] es.size (λi v=>((pickOrder (w.params.setOrder a ep) es).toList.map (·.2))[i]?=some v) (λi h=>IsSetIter h I a (.int 0 0) i es.size ep/\h.get? a=some (bj es ep t)) where
 sub:=λb G=>by simp at G;simp[G]
 frame:=λ_ _ _ st hk=>⟨st.1.at_ λo e=>hk I (d6) o e,hk a (by simp) _ st.2⟩
 item:=λi s Q E hi st J=>by
  have B:(pickOrder (w.params.setOrder a ep) es).size=es.size:=by obtain F:=(dz (w.params.setOrder a ep) es).length_eq;simpa using F
  have hx:(pickOrder (w.params.setOrder a ep) es)[i]?=some ((pickOrder (w.params.setOrder a ep) es)[i]'(CO B hi)):=by simp[B,hi]
  refine gr (k:=0) (some (_,0)) hh st.1 st.2 Y (λ{A' E' R} Z=>qd G st.2 Y (by rw[hx];exact Z)) λh' O P=>?_;exact J _ h' s.toks (by rw[List.getElem?_map,Array.getElem?_toList,hx];rfl) ⟨O,(P.2 a an).trans st.2⟩ λb o G e=>P.extBut b o (λh=>G (by simp[h])) e
 done:=λs Q E st J=>by
  have B:(pickOrder (w.params.setOrder a ep) es).size=es.size:=by obtain F:=(dz (w.params.setOrder a ep) es).length_eq;simpa using F
  refine gr (k:=0) none hh st.1 st.2 Y (λ{A' E' R} Z=>qd G st.2 Y (by rw[Array.getElem?_eq_none (El B)];exact Z)) λh' ad=>J h' s.toks λb o G e=>ad b o (λh=>G (by simp[h])) e
 self:=λ_ _ _ _ st J=>gq st.1 J
theorem um(F:cq w=false)(hh:A.handled=none)(I a:Addr)(ar:a≠I)(es:Array (Int×Value))(ep:Nat)(t:SetTable)(T:TOK t es)(hp:(!t.plain&&decide (es.size>1))=false)(hl:t.led=true) : Walks prog w A I [I,a] [I] es.size (λi v=>(es.toList.map (·.2))[i]?=some v) (λi h=>IsSetIter h I a (.int (kN t i) 0) i es.size ep/\h.get? a=some (bj es ep t)) where
 sub:=λb F=>by simp at F;simp[F]
 frame:=λ_ _ _ st hk=>⟨st.1.at_ λo e=>hk I (d6) o e,hk a (by simp) _ st.2⟩
 item:=λi s Q E hi st G=>by
  have J:t.fits es.size=true:=Fits.of T.toTOK0 (j7 T.le');obtain B:=jH T;have an:i<t.place.size:=by rw[T.size];exact hi
  have hg:t.place[i]?=some t.place[i]:=by simp[an]
  have O:es[i]?=some (es[i].1,es[i].2):=by simp[hi]
  obtain av:=lT hg;refine gr (k:=kN t i) (some (_,kN t (i+1))) hh st.1 st.2 J (λ{A' E' R} Z=>nY F hp hl st.2 J (by rw[B i (Nat.le_of_lt hi),O,hg];rw[av]at Z;exact Z)) λh' P Y=>?_;exact G _ h' s.toks (by rw[List.getElem?_map,Array.getElem?_toList,O];rfl) ⟨P,(Y.2 a ar).trans st.2⟩ λb o F e=>Y.extBut b o (λh=>F (by simp[h])) e
 done:=λs Q E st G=>by have J:t.fits es.size=true:=Fits.of T.toTOK0 (j7 T.le');have B:=jH T es.size (f7 _);refine gr (k:=kN t es.size) none hh st.1 st.2 J (λ{A' E' R} Z=>nY F hp hl st.2 J (by rw[B];simp;exact Z)) λh' ad=>G h' s.toks λb o F e=>ad b o (λh=>F (by simp[h])) e
 self:=λ_ _ _ _ st G=>gq st.1 G
theorem ul(hh:A.handled=none)(I a p:Addr)(hne:a≠I)(hpI:p≠I)(es:Array (Int×Value))(ep:Nat)(t:SetTable)(hf:t.fits es.size=true)(ps:List Nat)(F:ps.Perm (List.range es.size)) : Walks prog w A I [I,a,p] [I] es.size (λi v=>((ps.filterMap (es[·]?)).map (·.2))[i]?=some v) (λi h=>IsSetIter h I a (.ref p) i es.size ep/\h.get? a=some (bj es ep t)/\h.get? p=some (dh ps)) where
 sub:=λb J=>by simp at J;simp[J]
 frame:=λ_ _ _ st hk=>(da (st.1.at_ λo e=>hk I (d6) o e) (hk a (by simp) _ st.2.1) (hk p (by simp) _ st.2.2))
 item:=λi s Q E hi st O=>by
  have B:ps.length=es.size:=by simpa using F.length_eq
  have Y:∀q∈ps,q<es.size:=λq hq=>j9.mp (F.mem_iff.mp hq);have hj:ps[i]?=some (ps[i]'(CO B hi)):=by simp[B,hi]
  have hq:=Y _ (g9 hj);have he:es[ps[i]'(CO B hi)]?=some (es[ps[i]'(CO B hi)]'hq):=by simp[hq]
  refine pR (some _) hh st.1 st.2.1 hf st.2.2 (bc _ _ hj he rfl) λh' P G=>?_;exact O _ h' s.toks (by rw[List.getElem?_map,(bE es ps Y).2 i _ hj,he];rfl) (da P ((G.2 a hne).trans st.2.1) ((G.2 p hpI).trans st.2.2)) λb o J e=>G.extBut b o (λh=>J (by simp[h])) e
 done:=λs Q E st O=>by
  have B:ps.length=es.size:=by simpa using F.length_eq
  exact pR none hh st.1 st.2.1 hf st.2.2 (by simp;exact El B) λh' Z=>O h' s.toks λb o J e=>Z b o (λh=>J (by simp[h])) e
 self:=λ_ _ _ _ st O=>gq st.1 O
end
section
variable{A:Around}{sa:SX}
theorem VRs.perm{cs G:List Value}(p:G.Perm cs):∀{us:List V},VRs sa h us cs->∃B,B.Perm us/\VRs sa h B G:=by
 obtain q:=p.symm;clear p;induction q with
 |nil=>intro us r;exact(aa us (r7 _) r)
 |cons c p Y =>
  intro us r;rcases us with _|⟨u,us⟩
  ·have:=r.nil_inv;exact(o9 _ _ this).elim
  ·refine bw r.cons_inv λc' cs e J F=>?_;cases e;refine af (Y F) λB Z r'=>?_;exact(aa (u::B) (Z.cons u) (.cons J r'))
 |swap c d l =>
  intro us r;rcases us with _|⟨u,us⟩
  ·have:=r.nil_inv;exact(o9 _ _ this).elim
  ·refine bw r.cons_inv λ_ _ e J F=>?_;cases e;rcases us with _|⟨u',us⟩
   ·have:=F.nil_inv;exact(o9 _ _ this).elim
   ·refine bw F.cons_inv λ_ _ e r3 r4=>?_;cases e;exact(aa (u'::u::us) (List.Perm.swap _ _ _) (.cons r3 (.cons J r4)))
 |trans p q O P =>intro us r;refine af (O r) λus1 p1 J=>?_;refine af (P J) λQ p2 F=>?_;exact(aa Q (p2.trans p1) F)
theorem ESR.vrs(r:ESR sa w h us es):VRs sa h us (es.toList.map (·.2)):=by
 have gen:∀(us:List V)(es:List (Int×Value)),us.length=es.length->(∀(i:Nat)(u:V)(e:Int×Value),us[i]?=some u->es[i]?=some e->VR sa h u e.2)->VRs sa h us (es.map (·.2)):=by
  intro us;induction us with
  |nil =>intro es hl _;rw[List.length_eq_zero_iff.mp hl.symm];exact .nil
  |cons u us B =>
   intro es hl hk;rcases es with _|⟨e,es⟩
   ·simp at hl
   ·exact .cons (hk 0 u e rfl rfl) (B es (by simpa using hl) λi F e' a b=>hk (i+1) F e' (by simpa using a) (by simpa using b))
 exact gen us es.toList r.len λi u e a b=>(r.at_ i u e a (by rw[<- Array.getElem?_toList];exact b)).2
theorem zQ{r:Addr}{Q:Bool->Shared->Prop}(hT:s.TypeIs (.ref r) "set")(h:Q false s):wpAny (model prog w) A (Builtin.List.listLengthHint (.ref r)) Q E s:=by refine ac (z8 hT PySem.F.slot_set_len.lookup ?_);generalize G:("set.__len__":String)=id0;wp_delta;rw[show splitId id0=some ("set","__len__")from by subst G;decide +kernel];subst G;refine ac (C0 (T:="set") (b:=true) hT (by rw[isSubtype_type];kernel_rfl) ?_);refine p0 (λB=>absurd B (by decide)) (λ_=>?_);refine p0 (λ_=>?_) (λB=>absurd (by decide +kernel) B);refine ac (Q3 hT ?_);exact a9 h
theorem tN{a:Addr}{Q:Bool->Shared->Prop}(F:s.heap.get? a=some (bj es ep t))(B:t.fits es.size=true)(h:Q (!cq w&&(!t.plain&&decide (es.size>1))) s):wpAny (model prog w) A (setDrawn a) Q E s:=by refine ac (s0 F rfl B ?_);exact ac (cJ (a9 h))
theorem sH{a:Addr}{κ:Nat}{R:List Value->Shared->Prop}(hh:A.handled=none)(S:SetR sa w s.heap a κ us)(hz:us.length<=100)(h:∀s' cvs B,Ex s s'->B.Perm us->VRs sa s.heap B cvs->R cvs s'):wpAny (model prog w) A (collect (.ref a)) R E s:=by
 obtain⟨⟨es,ep,t,ho,T,ad,r⟩,hkind,hnd⟩:=S;have hf:t.fits es.size=true:=Fits.of T.toTOK0 (j7 T.le');obtain hsl:(100:Nat)<=sizeLine:=by rw[sizeLine_eq];exact Aq
 have Z:es.size<=100:=by rw[<- r.len];exact hz
 refine kZ (T:="set") (n:=es.size) (G:=λP=>∃ws:List Value,(∃B,B.Perm us/\VRs sa s.heap B ws)/\ws.length=es.size/\P=λi v=>ws[i]?=some v) (o8 ho) (aa _ ho rfl) (by decide) (by decide) (λ_ _ _ hT q=>zQ hT q) (En hsl Z) (λE s₁ Q x1 hQ=>?_) λs' acc P hG x Y=>?_
 ·have ho1:=x1.heap _ _ ho;have an:a<s₁.heap.objs.size:=o8 ho1;have hTs:s₁.TypeIs (.ref a) "set":=(aa _ ho1 rfl);have vrs:=r.vrs;have mk:∀{L:List (Int×Value)},L.Perm es.toList->∃B,B.Perm us/\VRs sa s.heap B (L.map (·.2)):=λp=>VRs.perm (p.map _) vrs;refine L8 hTs PySem.F.slot_set_iter (n6 PySem.F.slot_set_iter hTs nr ?_ (PySem.F.args_set_iter_1 _));unfold Builtin.«frozenset.__iter__» Builtin.Frozenset.slot0 slotArgs;simp only[List.isEmpty_nil,Bool.not_true,Bool.false_eq_true,if_false,bind_assoc,List.length_nil,bne_self_eq_false];refine ac (a9 ?_)
  try dsimp only
  refine ac (a9 ?_);refine ac (ac (K3 ho1 rfl hf (a9 ?_)));refine ac (tN ho1 hf ?_);refine p0 (λhc=>?_) (λhc=>?_)
  ·refine ac (gG _ _ (by simp) λps d O=>?_);refine ac (O9 ?_ (by show(ps.map _).length<=_;rw[List.length_map,O.length_eq,List.length_range];exact En hsl Z));obtain hpo:(s₁.heap.push (dh ps)).get? s₁.heap.objs.size=some (dh ps):=g8 _ rfl;obtain ho2:(s₁.heap.push (dh ps)).get? a=some (bj es ep t):=d5 _ ho1;refine ac (wpAny_setEpoch_of (s:={ s₁ with heap:=s₁.heap.push (dh ps),drawn:=d }) ho2 rfl hf ?_);refine ac (r9 (a9 (aa _ rfl (bc ("set_iterator") _ (aa _ (g8 _ rfl) rfl) bk.lookup ?_))));obtain ar:(s₁.heap.push (dh ps)).objs.size=s₁.heap.objs.size+1:=N9 _ _;obtain W:=ul (prog:=prog) (w:=w) (A:=A.in1) hh (s₁.heap.push (dh ps)).objs.size a s₁.heap.objs.size (by rw[ar];exact n9 (I6 an)) (by rw[ar];exact n9 (y5 _)) es ep t hf ps O;refine hQ _ _ _ _ _ (bb _ (mk ((O.filterMap (es[·]?)).trans (by rw[dX]))) ?_ rfl) W (da (bb _ (g8 _ rfl) rfl rfl) (d5 _ ho2) (d5 _ hpo)) (i9 (by rw[ar];exact G3 _)) (λb J=>?_) ⟨rfl,rfl,λb o e=>d5 _ (d5 _ e)⟩
   ·obtain hlt:∀q∈ps,q<es.size:=λq hq=>j9.mp (O.mem_iff.mp hq);rw[List.length_map,(bE es ps hlt).1,O.length_eq,List.length_range]
   ·rcases i8.mp J with e|J
    ·exact .inl e
    ·rcases i8.mp J with e|J
     ·rw[e];exact .inr (.inl (by rw[ho];simp))
     ·rw[List.mem_singleton.mp J];exact .inr (.inr (i9 (f7 _)))
  ·refine ac (a9 ?_);refine ac (wpAny_setEpoch_of ho1 rfl hf ?_);refine ac (r9 (a9 (aa _ rfl (bc ("set_iterator") _ (aa _ (g8 _ rfl) rfl) bk.lookup ?_))));have hfp:∀b∈[s₁.heap.objs.size,a],b=s₁.heap.objs.size\/s.heap.get? b≠none\/s₁.heap.get? b=none:=λb J=>by
    rcases i8.mp J with e|J
    ·exact .inl e
    ·rw[List.mem_singleton.mp J];exact .inr (.inl (by rw[ho];simp))
   cases J:cq w with
   |true =>
    have hlen:((pickOrder (w.params.setOrder a ep) es).toList.map (·.2)).length=es.size:=by rw[List.length_map,(dz (w.params.setOrder a ep) es).length_eq];simp
    exact hQ _ _ _ _ _ (bb _ (mk (dz (w.params.setOrder a ep) es)) hlen rfl) (vT (A:=A.in1) J hh _ a (n9 an) es ep t hf) ⟨(bb _ (g8 _ rfl) rfl rfl),d5 _ ho1⟩ (i9 (f7 _)) hfp (Ex.push _ _ _)
   |false =>rw[J]at hc;rw[J]at ad;exact hQ _ _ _ _ _ (bb _ (mk (r7 _)) (j8 _) rfl) (um (A:=A.in1) J hh _ a (n9 an) es ep t T (G9.mpr hc) ad) ⟨(bb _ (g8 _ rfl) rfl rfl),d5 _ ho1⟩ (i9 (f7 _)) hfp (Ex.push _ _ _)
 ·refine cL hG λws aP hwl bx=>?_;obtain⟨B,p,rr⟩:=aP;subst bx
  have:acc.toList=ws:=by
   apply u6;intro j;rcases e:acc[j]? with _|v
   ·obtain h1:es.size<=j:=by rw[<- Y.1];simpa using e
    rw[Array.getElem?_toList,e,List.getElem?_eq_none (Eo hwl h1)]
   ·rw[Array.getElem?_toList,e];exact(Y.2 j v e).symm
  rw[this];exact h s' ws B x p rr
end
theorem sortable.perm{ws:List V}(F:sortable vs)(p:ws.Perm vs):sortable ws :=(mu (by rw[p.length_eq];exact F.1) (λx B=>F.2.1 x (p.mem_iff.mp B)) (F.2.2.1.imp (λh=>by rw[p.length_eq];exact h) λh x B=>h x (p.mem_iff.mp B)) (λx B y G=>F.2.2.2 x (p.mem_iff.mp B) y (p.mem_iff.mp G)))
theorem jf{ws:List V}(hc:∀x∈vs,∀y∈vs,bS x y=true)(p:ws.Perm vs):aJ ws=aJ vs:=by have B:∀x∈ws,∀y∈ws,bS x y=true:=λx F y G=>hc x (p.mem_iff.mp F) y (p.mem_iff.mp G);refine dO ((ai ws).trans (p.trans (ai vs).symm)) (λx F y G=>B x ((ai ws).mem_iff.mp F) y ((ai ws).mem_iff.mp G)) (bZ ws B) (bZ vs hc)
theorem aK:∀{vs:List V}{x:V},x∈aI vs↔x∈vs
 | [],x=>by simp[aI]
 |v::vs,x=>by
  unfold aI;rw[List.mem_cons,List.mem_cons,List.mem_filter,aK];constructor
  ·rintro(e|⟨h,_⟩)
   ·exact .inl e
   ·exact .inr h
  ·rintro(e|h)
   ·exact .inl e
   ·by_cases e:x=v
    ·exact .inl e
    ·exact .inr ⟨h,by rw[aN.mpr e];rfl⟩
theorem cH:∀(vs:List V),(aI vs).Nodup
 | []=>by simp[aI]
 |v::vs=>by
  refine y0.mpr ⟨λh=>?_,(cH vs).filter _⟩
  have:=(u1.mp h).2
  rw[bo]at this;exact ag this
theorem bI:∀(vs:List V),(aI vs).length<=vs.length
 | []=>by simp[aI]
 |v::vs=>by obtain B:=bI vs;obtain F:=p8 (λw=>!cM w v) (aI vs);exact Ep F B
theorem sortable.dedup(F:sortable vs):sortable (aI vs) :=(mu (d9 (bI vs) F.1) (λx B=>F.2.1 x (aK.mp B)) (F.2.2.1.imp (λh=>d9 (bI vs) h) λh x B=>h x (aK.mp B)) (λx B y G=>F.2.2.2 x (aK.mp B) y (aK.mp G)))
theorem sortable.kind(B:sortable vs):∃κ,κ≠0/\∀u∈vs,vk u=κ/\gK u:=by
 rcases vs with _|⟨v,vs⟩
 ·exact(aa 1 (by decide) (λu h=>absurd h i6))
 ·refine(aa (vk v) ((rP (B.2.2.2 v d6 v d6)).2) (λu F=>⟨(rP (B.2.2.2 u F v d6)).1,B.2.1 u F⟩))
section
variable{loc:Loc}{H:AH}{A:Around}{d:Nat}{Q:V->AH->Prop}
theorem Ex.step(x:Ex s s')(R:Rel Γ H s.heap):Step Γ dZ H H s s':=Step.grow R x.gens x.os x.heap
theorem eR{x:Value}{B:List V}(F:Frame Γ env loc H s.heap)(R:Rel Γ H s.heap)(Y:Room A d)(P:sortable B)(q:fresh H Q (.list (aJ B)))(G:wpAny (model Γ.prog Γ.w) A.in1 (collect x) (λcvs s'=>∃vs,VRs Γ.sa s'.heap vs cvs/\vs.Perm B/\Ex s s') aD s):wpAny (model Γ.prog Γ.w) A (call (.builtin "sorted") [x]) (EPost Γ env H s Q) aD s:=by
 refine Calls.call_function_entry kind_sorted plain_sorted entry_sorted (args_sorted1 _) ?_;refine ac (m:=checkCount "sorted" 1 1 _) (a9 ?_);refine ac (d8 G (λcvs s' ⟨vs,r,p,x⟩=>?_) λ_ _ e=>e);have O:=(x.step R).toE (env:=env) F.lH;have Z:A.in1.units+20<cLine:=by obtain J:=Y.2.2;exact Kk J
 exact tO (F.estep O) O.st.rel Z r (P.perm p) (by rw[jf P.2.2.2 p];exact q) λv s2 h=>(aa _ rfl (EPost.after O h))
theorem ER.keys:∀{kvs:List (V×V)}{es:List DictEntry},ER Γ h kvs es->VRs Γ.sa h (kvs.map (·.1)) (es.map (·.key))
 | [],_,x=>by subst x;exact .nil
 |(k,v)::r,_,x=>by refine rU x λe es aP a b c d=>?_;subst aP;exact .cons a d.keys
theorem yg{B:List (V×Value)}{as:List Addr}{lo:Addr}(Z:B.map (·.1)=kvs.map (·.1))(h2:VRs Γ.sa h' (kvs.map (·.2)) (B.map (·.2)))(hX:∀a,lo<a->¬Γ.X a)(F:as.length=B.length)(G:@KdxG Γ.prog Γ.w V vdec (bH Γ.prog Γ.w) B lo h' as):VRs Γ.sa h' (bq kvs) (as.map Value.ref):=by
 letI:DecidableEq V:=vdec
 have key:∀(j:Nat)(a:Addr),as[j]?=some a->∃p,kvs[j]?=some p/\VR Γ.sa h' (.tup [p.1,p.2]) (.ref a):=by
  intro j a ha;refine GN (G.pairs j a ha) λck J x e1 e2 e3=>?_;obtain Q:(B.map (·.1))[j]?=some J:=by rw[List.getElem?_map,e1];rfl
  rw[Z,List.getElem?_map]at Q;refine af (m5.mp Q) λp hp z=>?_;refine af (h2.get (i:=j) (v:=p.2) (by rw[List.getElem?_map,hp];rfl)) λc Y e6=>?_;rw[List.getElem?_map,e1]at Y;obtain rfl:=c9 Y;refine(aa p hp (VR.tup' (hX a (G.above a (g9 ha))) (bb _ e3 rfl (mw 0 rfl)) ?_));obtain e7:VR Γ.sa h' J ck:=mR e2;rw[z];exact VRs.cons e7 (VRs.one e6)
 obtain O:as.length=kvs.length:=F.trans (by obtain P:=j6 List.length Z;simpa using P);clear F G;have gen:∀(kvs:List (V×V))(as:List Addr),as.length=kvs.length->(∀(j:Nat)(a:Addr),as[j]?=some a->∃p,kvs[j]?=some p/\VR Γ.sa h' (.tup [p.1,p.2]) (.ref a))->VRs Γ.sa h' (kvs.map λp=>.tup [p.1,p.2]) (as.map Value.ref):=by
  intro kvs;induction kvs with
  |nil=>intro as hl _;rw[List.length_eq_zero_iff.mp hl];exact .nil
  |cons p r ih =>
   intro as hl hk;rcases as with _|⟨a,as⟩
   ·simp at hl
   ·refine af (hk 0 a rfl) λp' e1 e2=>?_;simp at e1;subst e1;exact .cons e2 (ih as (by simpa using hl) λj a' hj=>by simpa using hk (j+1) a' (by simpa using hj))
 exact gen kvs as O key
theorem jb{a:Addr}{κ:Nat}(F:Frame Γ env loc H s.heap)(R:Rel Γ H s.heap)(J:Room A d)(O:sortable vs)(S:SetR Γ.sa Γ.w s.heap a κ us)(hm:∀x,x∈us↔x∈vs)(hl:us.length<=vs.length)(q:fresh H Q (.list (aJ (aI vs)))) : wpAny (model Γ.prog Γ.w) A (call (.builtin "sorted") [.ref a]) (EPost Γ env H s Q) aD s:=by
 obtain B:=O.1;have p:us.Perm (aI vs):=(y9 S.nd (cH vs)).mpr λx=>by rw[hm,aK]
 refine eR F R J O.dedup q (sH (sa:=Γ.sa) J.1 S (Kl hl B) λs' cvs G x P r=>(bb G (r.keep (TupKeep.of_keep x.heap)) (P.trans p) x))
theorem xZ{l:Addr}{items:Array Value}(hl:s.heap.IsList l items):uu Γ.prog Γ.w s l items.size (λi v=>items[i]?=some v):=by
 intro A A' E s₁ Q hh P hk Z;have B:s₁.heap.IsList l items:=by refine af hl λo G r=>?_;exact(aa o (hk _ _ G) r)
 have Y:l<s₁.heap.objs.size:=by refine af B λo G r=>?_;exact o8 G
 refine wpAny_pyIter_list B (Z _ _ _ (Walks.list P _ l (n9 Y) items) (λb O=>?_) ⟨(bb _ (g8 _ rfl) rfl rfl),B.push _⟩ λi h o st e hc=>?_)
 ·rcases i8.mp O with e|O
  ·exact .inl e
  ·rw[List.mem_singleton.mp O];refine af hl λo G _=>?_;exact .inr (by rw[G];simp)
 ·refine bQ st λbx _=>?_;obtain⟨o',J,F,_⟩:=bx;rw[e]at J;obtain rfl:=c9 J;rw[hc]at F;exact absurd F (by decide)
theorem sN{v G:Addr}{B:List (V×Value)}(hv:s.heap.IsValuesView v G)(hm:@Heap.DictAt Γ.prog Γ.w V vdec (bH Γ.prog Γ.w) s.heap G B ep):uu Γ.prog Γ.w s v B.length (λi x=>∃k,B[i]?=some (k,x)):=by
 letI:DecidableEq V:=vdec
 intro A A' E s₁ Q hh Y hk hQ;have F:=hm.keep hk;have hv1:s₁.heap.IsValuesView v G:=by refine af hv λo ho r=>?_;exact(aa o (hk _ _ ho) r)
 obtain Z:G<s₁.heap.objs.size:=F.lt_size;refine wpAny_pyIter_values hv1 F (hQ _ _ _ (Walks.dictValues Y _ G (n9 Z) B ep) (λb P=>?_) ⟨(bb _ (g8 _ rfl) rfl rfl),F.push _⟩ λi h o st e hc=>?_)
 ·rcases i8.mp P with e|P
  ·exact .inl e
  ·rw[List.mem_singleton.mp P];refine cb hm λo es ho _=>?_;exact .inr (by rw[ho];simp)
 ·refine bQ st λbK _=>?_;obtain⟨o',O,J,_⟩:=bK;rw[e]at O;obtain rfl:=c9 O;rw[hc]at J;exact absurd J (by decide)
theorem AT{d:Nat}(F:Room A d):A.units+30<cLine:=by obtain B:=F.2.2;exact Km B
theorem CR(C:CxOK Γ.toSx):aL Γ .dict:=by intro env loc H s A d Q id x y pos ip F R Y J O B h;obtain rfl:=c9 O;refine rB C F R (bi (i:=8) rfl) J B h λG r F R=>?_;obtain⟨a,rfl⟩:=jv rfl G;refine xG G λkvs e P hz q=>?_;rw[r.ref_inv];exact FX C F R e P hz q
theorem tQ(F:Frame Γ env loc H s.heap)(R:Rel Γ H s.heap)(O:Room A d){a:Addr}(e:H a=some (.list vs))(G:sortable vs)(q:fresh H Q (.list (aJ vs))):wpAny (model Γ.prog Γ.w) A (call (.builtin "sorted") [.ref a]) (EPost Γ env H s Q) aD s:=by refine cb (au R e) λcvs n J B=>?_;obtain k:∀{ob:Obj}{f:Obj->Obj},∀b o,s.heap.get? b=some o->((s.heap.push ob).update s.heap.objs.size f).get? b=some o:=λb o e=>(s7 _ _ (E3 (o8 e))).trans (d5 _ e);exact eR F R O G q (collect_list (vs:=cvs.toList) (bb _ J rfl (mw n rfl)) (bb vs (B.keep (TupKeep.of_keep k)) (r7 _) ⟨rfl,rfl,k⟩) (by rw[B.length,sizeLine_eq];exact b8 (j7 G.1) (by decide)))
theorem tP(C:CxOK Γ.toSx)(F:Frame Γ env loc H s.heap)(R:Rel Γ H s.heap)(G:Room A d){a:Addr}(e:H a=some (.dict kvs))(J:sortable (kvs.map (·.1)))(q:fresh H Q (.list (aJ (kvs.map (·.1))))):wpAny (model Γ.prog Γ.w) A (call (.builtin "sorted") [.ref a]) (EPost Γ env H s Q) aD s:=by refine bw (bV R e) λes n O B P=>?_;obtain hz:=J.1;rw[List.length_map,<- B.length,Array.length_toList]at hz;exact eR F R G J q (sD G.1 (R.nosys C e) O (by rw[sizeLine_eq];exact b8 (j7 hz) (by decide)) λs' x=>(bb (kvs.map (·.1)) (B.keys.keep (TupKeep.of_keep x.heap)) (r7 _) x))
theorem yy(C:CxOK Γ.toSx):aL Γ .sorted:=by
 intro env loc H s A d Q id x y pos ip F R O P Y B h;obtain rfl:=c9 Y;refine kb C F R (bi (i:=9) rfl) P B h λJ r F R=>?_;refine bR (jv rfl J) λa dj=>?_;subst dj;rw[r.ref_inv];rcases J with⟨vs,e,G,q⟩|⟨kvs,e,G,q⟩
 ·exact tQ F R O e G q
 ·exact tP C F R O e G q
theorem wL{γ:Type}{f:α->γ}{g:β->γ}{l:List α}{m:List β}(h:l.map f=m.map g):l.length=m.length:=by obtain B:=j6 List.length h;rwa [j8,j8]at B
theorem ou(C:CxOK Γ.toSx):aL Γ .sortedItems:=by
 letI:DecidableEq V:=vdec
 intro env loc H s A d Q id x y pos ip F R hr g0 pa hst h;refine bw (nE pa) λap pos' an hb hp=>?_;subst an;refine rA C F R (nm:="sorted") (b:="sorted") (bi (i:=9) rfl) g0 iu (CV C hb hp h λv H1 c s1 B r1 Y=>?_);obtain⟨a,rfl⟩:=jv rfl B;refine xG B λkvs e sk so q=>?_;obtain rfl:=r1.ref_inv;refine(jh a kvs rfl e sk ?_);obtain F1:=F.estep Y;have Z:=EStep.pushed F1 Y.st.rel { cls:=.type "dict_items",data:=.fields #[.ref a] } s1.toks;obtain F2:=F1.estep Z;have P:=Z.st.rel;refine bw (bV P e) λes n ho er dk=>?_;refine cL (xj ho er dk sk) λad B h2 h3=>?_;have hl:ad.length=kvs.length:=wL B;have hz:kvs.length<64:=by obtain O:=so.1;rwa [bq,j8]at O
 refine d8 (eR F2 P hr so q (kdx_collect hr.1 (bb _ (g8 _ rfl) rfl rfl) h3 (by rw[sizeLine_eq,hl];exact b8 (j7 hz) (by decide)) λh' tk as k J G=>(bb (bq kvs) ?_ (r7 _) ⟨rfl,rfl,k⟩))) (λ_ _ h=>EPost.after (Y.trans Z) h) λ_ _ e=>e;exact yg B (h2.keep (TupKeep.of_keep k)) (λa ha=>P.nx (i9 (j7 ha))) J G
theorem rC(C:CxOK Γ.toSx):aL Γ .sortedSet:=by intro env loc H s A d Q id x y pos ip F R Y g0 pa Z h;refine pj (gf pa) λid' ip' pos' zq8 g1=>?_;subst zq8;refine rA C F R (nm:="sorted") (b:="sorted") (bi (i:=9) rfl) g0 iu (vj C F R (nm:="set") (b:="set") (bi (i:=11) rfl) g1 Z (aX h λv H1 c s1 h1 r1 J=>?_));refine bR (jv rfl h1) λa zq9=>?_;subst zq9;refine cL h1 λvs e so q=>?_;obtain rfl:=r1.ref_inv;obtain F1:=F.estep J;have R1:=J.st.rel;refine cb (au R1 e) λcvs n ho ra=>?_;refine af so.kind λκ G ad=>?_;obtain hl:s1.heap.IsList a cvs:=⟨_,ho,rfl,n,rfl⟩;refine sC (sa:=Γ.sa) ⟨_,ho,rfl⟩ PySem.F.sub_list_set PySem.F.sub_list_frozenset (by decide) Y.1 (AT Y) (xZ (Γ:=Γ) hl) (λi v hv=>ra.get' (by rw[Array.getElem?_toList];exact hv)) G ad (by rw[<- ra.length,Array.length_toList]) so.1 λs2 us x S2 O P=>?_;have B:=(x.step R1).toE (env:=env) F1.lH;exact d8 (jb (F1.estep B) B.st.rel Y so S2 P O q) (λ_ _ h=>EPost.after (J.trans B) h) λ_ _ e=>e
theorem kL(C:CxOK Γ.toSx):aL Γ .sortedSetVals:=by
 letI:DecidableEq V:=vdec
 intro env loc H s A d Q id x y pos ip F R hr g0 pa hst h;obtain⟨z,pa1,pa2⟩:=B9.mp pa;refine pj (gf pa1) λid' ip' pos' J g1=>?_;subst J;obtain⟨ap,pos2,rfl,hb,hp⟩:=nE pa2;refine rA C F R (nm:="sorted") (b:="sorted") (bi (i:=9) rfl) g0 iu (vj C F R (nm:="set") (b:="set") (bi (i:=11) rfl) g1 iu (AZ C hb hp h λv H1 c s1 O r1 P=>?_));obtain⟨a,rfl⟩:=jv rfl O;obtain⟨kvs,e,sk,so,q⟩:=O;obtain rfl:=r1.ref_inv;refine(jh a kvs rfl e sk ?_);have F1:=F.estep P;have Y:=EStep.pushed F1 P.st.rel { cls:=.type "dict_values",data:=.fields #[.ref a] } s1.toks;have F2:=F1.estep Y;have R2:=Y.st.rel;obtain⟨es,n,ho,er,dk⟩:=bV R2 e;obtain⟨kv',O,h2,h3⟩:=xj ho er dk sk;have hl:kv'.length=kvs.length:=wL O;obtain⟨κ,G,hκ⟩:=so.kind;refine sC (sa:=Γ.sa) (vs:=kvs.map (·.2)) (s:={ s1 with heap:=s1.heap.push { cls:=.type "dict_values",data:=.fields #[.ref a] } }) (aa _ (g8 _ rfl) rfl) (by rw[isSubtype_type];kernel_rfl) (by rw[isSubtype_type];kernel_rfl) (by decide) hr.1 (AT hr) (sN (Γ:=Γ) (bb _ (g8 _ rfl) rfl rfl) h3) (λi v hv=>by obtain⟨k,hv⟩:=hv;exact h2.get' (by rw[List.getElem?_map,hv];rfl)) G hκ (by rw[hl,List.length_map]) so.1 λs2 us x S3 Z ad=>?_;have B:=(x.step R2).toE (env:=env) F2.lH;exact d8 (jb (F2.estep B) B.st.rel hr so S3 ad Z q) (λ_ _ h=>EPost.after ((P.trans Y).trans B) h) λ_ _ e=>e
theorem iG(C:CxOK Γ.toSx):∀p,aL Γ p
 | .len=>FP C | .sum=>FS C | .max=>FQ C | .abs=>FO C | .str=>FR C | .tuple=>AK C
 | .dict=>CR C | .sorted=>yy C | .sortedItems=>ou C | .sortedSet=>rC C | .sortedSetVals=>kL C
end
theorem ot:vW:=λΓ C p=>iG C p
theorem qO:BF:=λΓ C=>by
 intro it env x tgt loc H s A d K hc G hs F R B h;cases it with
 |zip a b=>exact Cn C (iG C) hc hs F R B h
 |exp e=>exact pU C (iG C) hc G F R B h
 |rng e=>exact pU C (iG C) hc G F R B h
section
variable{c m:String}{a:Addr}
theorem cI(i j:Int):cM (.int i) (.int j)=decide (i=j):=by
 cases h:cM (.int i) (.int j)with
 |true=>have:=(bt _ _).mp h;injection this with e;subst e;simp
 |false=>have:=aN.mp h;obtain e:i≠j:=λz=>this (by rw[z]);simp[e]
theorem kj(i j:String):cM (.str i) (.str j)=decide (i=j):=by
 cases h:cM (.str i) (.str j)with
 |true=>have:=(bt _ _).mp h;injection this with e;subst e;simp
 |false=>have:=aN.mp h;obtain e:i≠j:=λz=>this (by rw[z]);simp[e]
noncomputable def fl(ps:List (String×V)):List (V×V):=ps.map λp=>(V.str p.1,p.2)
theorem bM(k v:V)(r:List (V×V))(B:V):aA ((k,v)::r) B=if cM k B=true then some v else aA r B:=by unfold aA;rw[List.find?_cons];simp only;cases cM k B <;> simp
theorem fY(ps:List (String×V))(m:String):aA (fl ps) (.str m)=ps.lookup m:=by
 induction ps with
 |nil=>rfl
 |cons p r F =>
  obtain⟨k,v⟩:=p;show aA ((V.str k,v)::fl r) (.str m)=_;rw[bM,List.lookup_cons,F,kj];by_cases h:k=m
  ·subst h;simp
  ·obtain B:(m==k)=false:=beq_false_of_ne λz=>h z.symm;simp[h,B]
theorem qV(ps:List (String×V)):∀p∈fl ps,cW p.1=1:=λp hp=>by refine af (b9.mp hp) λq _ aP=>?_;subst aP;rfl
theorem oP(ps:List (String×V)):bJ (fl ps):=qV ps
structure IsObj(H:AH)(a:Addr)(c:String)(dx:Addr)(ps:List (String×V)):Prop where
 o:H a=some (.inst c dx)
 d:H dx=some (.dict (fl ps))
def Ext(H H':AH):Prop:=∀a o,H a=some o->H' a=some o
theorem Ext.refl'(H:AH):Ext H H:=λ_ _ e=>e
theorem Ext.trans'{H H'':AH}(x:Ext H H')(y:Ext H' H''):Ext H H'':=λa o e=>y a o (x a o e)
theorem Ext.set{H:AH}(o:AO)(h:H a=none):Ext H (H.set a o):=λb x e=>by
 rw[AH.set_ne]
 ·exact e
 ·rintro rfl;rw[h]at e;exact ns e
theorem IsObj.ext{H:AH}(x:Ext H H'){ps:List (String×V)}(i:IsObj H a c dx ps):IsObj H' a c dx ps:=⟨x _ _ i.o,x _ _ i.d⟩
section
variable{H:AH}{Q:V->AH->Prop}
theorem jG{f:String}{ps:List (String×V)}(i:IsObj H a c dx ps)(B:f∈σ.flds c)(F:ps.lookup f=some x)(q:Q x H):zi H Q σ (.ref a) f :=⟨a,c,dx,fl ps,x,rfl,i.o,B,i.d,by rw[fY];exact F,q⟩
theorem aE{ps:List (String×V)}(i:IsObj H a c dx ps)(B:ps.lookup m=none)(hm:(σ.meth c m).isSome=true):qk H σ (.ref a) m (.inst c) :=(Rd a dx (fl ps) rfl i.o i.d (qV ps) (by rw[fY];exact B) hm)
def MCall(σ:Sx)(d:Nat)(c m:String)(vs:List V)(H:AH)(Q:V->AH->Prop):Prop:=∃f,σ.meth c m=some f/\CallS σ d f vs H Q
def FCall(σ:Sx)(d:Nat)(n:String)(vs:List V)(H:AH)(Q:V->AH->Prop):Prop:=∃f,σ.fn n=some f/\CallS σ d f vs H Q
def HasM(σ:Sx)(c m:String)(x:MFun):Prop:=∃f fd,σ.meth c m=some f/\FnAt σ f fd x.params x.body
def qA(σ:Sx)(n:String)(x:MFun):Prop:=∃f fd,σ.fn n=some f/\FnAt σ f fd x.params x.body
theorem HasM.some{x:MFun}(h:HasM σ c m x):(σ.meth c m).isSome=true:=by refine cb h λf _ e _=>?_;rw[e];rfl
theorem MCall.mono{d:Nat}{B:V->AH->Prop}(h:MCall σ d c m vs H Q)(q:∀v H',Q v H'->B v H'):MCall σ d c m vs H B:=let⟨f,e,x⟩:=h;⟨f,e,x.mono q⟩
theorem FCall.mono{d:Nat}{n:String}{B:V->AH->Prop}(h:FCall σ d n vs H Q)(q:∀v H',Q v H'->B v H'):FCall σ d n vs H B:=let⟨f,e,x⟩:=h;(aa f e (x.mono q))
theorem MCall.room{d d':Nat}(h:MCall σ d c m vs H Q)(q:d<=d'):MCall σ d' c m vs H Q:=let⟨f,e,x⟩:=h;(aa f e (x.room q))
theorem FCall.room{d d':Nat}{n:String}(h:FCall σ d n vs H Q)(q:d<=d'):FCall σ d' n vs H Q:=let⟨f,e,x⟩:=h;(aa f e (x.room q))
abbrev mO(Q:V->AH->Prop):Fl->Loc->AH->Prop:=λfl _ H'=>match fl with | .ret v=>Q v H' | .next=>Q .none H'
theorem aw(C:CxOK σ){x:MFun}{d:Nat}(h:HasM σ c m x)(hl:vs.length=x.params.length)(w:aq σ d x.body (bf x.params vs) H (mO Q)):MCall σ (d+1) c m vs H Q :=
 let⟨f,fd,e,X⟩:=h;(aa f e (sB ot qO C X hl w))
theorem dR(C:CxOK σ){n:String}{x:MFun}{d:Nat}(h:qA σ n x)(hl:vs.length=x.params.length)(w:aq σ d x.body (bf x.params vs) H (mO Q)):FCall σ (d+1) n vs H Q :=
 let⟨f,fd,e,X⟩:=h;(aa f e (sB ot qO C X hl w))
end
theorem ju(l:Loc)(x:String)(v:V)(y:String):(l.put x v) y=if y=x then some v else l y:=rfl
theorem Cd(l:Loc)(xs:List String)(y:String):(l.drop xs) y=if y∈".0"::xs then none else l y:=rfl
theorem fI{c:Bool}{A B:Prop}(h:c=true)(x:A):if c=true then A else B:=by rw[if_pos h];exact x
theorem fG{c:Bool}{A B:Prop}(h:c=false)(x:B):if c=true then A else B:=by rw[if_neg (by rw[h];decide)];exact x
theorem PR{p:Prop}[Decidable p](h:¬p):(!decide p)=true:=by rw[decide_eq_false h];rfl
theorem yT{H:AH}{Q:Bool->AH->Prop}{d:Nat}(h:Q true H):yV σ d none l H Q:=h
def Sq(σ:Sx)(d:Nat)(rest:List MS)(K:Fl->Loc->AH->Prop):Fl->Loc->AH->Prop:=λfl l H=>match fl with | .next=>aq σ d rest l H K | .ret v=>K (.ret v) l H
theorem lZ{H:AH}{d:Nat}{t:Tgt}{e:ME}(h:aS σ d e l H λv H1=>∃l',gN H1 t v l=some l'/\aq σ d rest l' H1 K):aq σ d (.asg (.tg t) e::rest) l H K:=h
theorem xC{H:AH}{d:Nat}{op:COp}{a b:ME}{x y:List MS}(h:aS σ d a l H λv H1=>aS σ d b l H1 λw H2=>eP H2 op v w λt=>if t=true then aq σ d x l H2 (Sq σ d rest K)else aq σ d y l H2 (Sq σ d rest K)):aq σ d (.if1 (.cmp1 op a b) x y::rest) l H K:=h
theorem Pl{H:AH}{Q:V->AH->Prop}{v:V}{d:Nat}(h:Q v H):aS σ d (.cst v) l H Q:=h
end
structure Txt(σ:Sx):Prop where
 ok:CxOK σ
 fHeap:σ.flds "Heap"=["bank","unions","edges","forest","known","above","waiting"]
 fBank:σ.flds "Bank"=["nodes","numbers","weights","depths"]
 fUnions:σ.flds "Unions"=["above","lots","merged"]
 fWalker:σ.flds "Walker"=["heap"]
 is_op:qA σ "is_op" wK
 is_variable:qA σ "is_variable" iX
 Bank_init:HasM σ "Bank" "__init__" lv
 Bank_size:HasM σ "Bank" "size" ly
 Bank_take:HasM σ "Bank" "take" lz
 Bank_require:HasM σ "Bank" "require" hJ
 Bank_op:HasM σ "Bank" "op" qc
 Bank_kids:HasM σ "Bank" "kids" lx
 Walker_init:HasM σ "Walker" "__init__" iW
 Walker_extended:HasM σ "Walker" "extended" eV
 Walker_found_in:HasM σ "Walker" "found_in" eW
 Walker_found:HasM σ "Walker" "found" ib
 Unions_init:HasM σ "Unions" "__init__" iT
 Unions_make:HasM σ "Unions" "make" iU
 Unions_size:HasM σ "Unions" "size" iV
 Unions_find:HasM σ "Unions" "find" iS
 Unions_merge:HasM σ "Unions" "merge" hZ
 Unions_members:HasM σ "Unions" "members" fM
 Unions_classes:HasM σ "Unions" "classes" fL
 Heap_init:HasM σ "Heap" "__init__" lC
 Heap_size:HasM σ "Heap" "size" lF
 Heap_node:HasM σ "Heap" "node" lE
 Heap_add:HasM σ "Heap" "add" nP
 Heap_put:HasM σ "Heap" "put" nQ
 Heap_look_at:HasM σ "Heap" "look_at" hV
 Heap_find:HasM σ "Heap" "find" lA
 Heap_merge:HasM σ "Heap" "merge" jV
 Heap_join:HasM σ "Heap" "join" lD
 Heap_settle:HasM σ "Heap" "settle" iR
 Heap_classes:HasM σ "Heap" "classes" hU
 Heap_members:HasM σ "Heap" "members" hY
 Heap_nodes_of:HasM σ "Heap" "nodes_of" gB
 law_pick:qA σ "_law_pick" nS
 law_tree:qA σ "_law_tree" nT
 law_lots:qA σ "_law_lots" nR
 law_below:qA σ "_law_below" lG
 law_is_kept:qA σ "_law_is_kept" fw
 cBank:∃C,σ.cls "Bank"=some C
 cUnions:∃C,σ.cls "Unions"=some C
 cHeap:∃C,σ.cls "Heap"=some C
 cWalker:∃C,σ.cls "Walker"=some C
section
variable{x:String}{i:ME}{a:Addr}
noncomputable abbrev iv(n:Nat):V:=.int (n:Int)
def Ev(σ:Sx)(l:Loc)(H:AH)(e:ME)(v:V):Prop:=∀(d:Nat)(Q:V->AH->Prop),Q v H->aS σ d e l H Q
def Evs(σ:Sx)(l:Loc)(H:AH)(e:MEs)(vs:List V):Prop:=∀(d:Nat)(Q:List V->AH->Prop),Q vs H->dW σ d e l H Q
def EvT(σ:Sx)(l:Loc)(H:AH)(e:ME)(b:Bool):Prop:=∀(d:Nat)(Q:Bool->AH->Prop),Q b H->yW σ d e l H Q
section
variable{H:AH}{e e1 e2:ME}{es:MEs}{v w:V}{b:Bool}{d:Nat}{Q:V->AH->Prop}
theorem Ev.var(h:l x=some v):Ev σ l H (.var x) v:=λ_ _ q=>(aa v h q)
theorem Ev.cst:Ev σ l H (.cst v) v:=λ_ _ q=>q
theorem Ev.attr{c f:String}{ps:List (String×V)}(B:Ev σ l H e (.ref a))(i:IsObj H a c dx ps)(F:f∈σ.flds c)(G:ps.lookup f=some v):Ev σ l H (.attr e f) v :=λd _ q=>B d _ (jG i F G q)
theorem Ev.idx(B:Ev σ l H e v)(hi:Ev σ l H i w){u:V}(h:∀Q,Q u H->sU H Q v w):Ev σ l H (.idx e i) u:=λd _ q=>B d _ (hi d _ (h _ q))
theorem Ev.len(B:Ev σ l H e v)(h:∀Q,Q w H->iZ H Q .len v):Ev σ l H (.prim .len e) w:=λd _ q=>B d _ (h _ q)
theorem Ev.bin{op:BOp}{u:V}(B:Ev σ l H e v)(hi:Ev σ l H e2 w)(h:∀Q,Q u H->xM H Q op v w):Ev σ l H (.bin op e e2) u:=λd _ q=>B d _ (hi d _ (h _ q))
theorem Evs.nil:Evs σ l H .nil []:=λ_ _ q=>q
theorem Evs.cons(B:Ev σ l H e v)(hs:Evs σ l H es vs):Evs σ l H (.cons e es) (v::vs):=λd _ q=>B d _ (hs d _ q)
theorem Ev.tup(hs:Evs σ l H es vs):Ev σ l H (.tup es) (.tup vs):=λd _ q=>hs d _ q
theorem EvT.cmp{op:COp}(B:Ev σ l H e v)(hi:Ev σ l H e2 w)(h:∀Q:Bool->Prop,Q b->eP H op v w Q):EvT σ l H (.cmp1 op e e2) b:=λd _ q=>B d _ (hi d _ (h _ q))
theorem Ev.cmpT{op:COp}(B:Ev σ l H e v)(hi:Ev σ l H e2 w)(h:∀Q:Bool->Prop,Q b->eP H op v w Q):EvT σ l H (.cmp1 op e e2) b:=EvT.cmp B hi h
theorem Ev.cmp{op:COp}(B:Ev σ l H e v)(hi:Ev σ l H e2 w)(h:∀Q:Bool->Prop,Q b->eP H op v w Q):Ev σ l H (.cmp1 op e e2) (.bool b):=λd _ q=>B d _ (hi d _ (h _ q))
theorem EvT.not(h:EvT σ l H e b):EvT σ l H (.not1 e) (!b):=λd _ q=>h d _ q
theorem Sq.nil{fl:Fl}{H:AH}(h:K fl l H):Sq σ d [] K fl l H:=by cases fl <;> exact h
theorem vJ(h:Ev σ l H e v)(k:aq σ d rest (l.put x v) H K):aq σ d (.asg (.tg (.nm x)) e::rest) l H K:=h d _ (aa _ rfl k)
theorem cX(h:Ev σ l H e v)(k:K (.ret v) l H):aq σ d (.ret e::rest) l H K:=h d _ k
theorem jx{a b:List MS}(h:EvT σ l H e true)(k:aq σ d a l H (Sq σ d rest K)):aq σ d (.if1 e a b::rest) l H K:=h d _ (by rw[if_pos rfl];exact k)
theorem gu{a b:List MS}(h:EvT σ l H e false)(k:aq σ d b l H (Sq σ d rest K)):aq σ d (.if1 e a b::rest) l H K:=h d _ (by rw[if_neg Bool.false_ne_true];exact k)
theorem Bo{c:ME}{b:List MS}(I:Nat->Loc->AH->Prop)(n:Nat)(O:I n l H)(h:∀n l H,I n l H->(EvT σ l H c true/\∀B,(∀m l' H',m<n->I m l' H'->B .next l' H')->(∀v l' H',K (.ret v) l' H'->B (.ret v) l' H')->aq σ d b l H B)\/(EvT σ l H c false/\aq σ d rest l H K)) : aq σ d (.whl c b::rest) l H K:=(aa I ⟨n,O⟩ (λn l H J=>by
 rcases h n l H J with⟨F,G⟩|⟨F,G⟩
 ·refine F d _ ?_;rw[if_pos rfl];exact G _ (λm l' H' hm J=>(aa m hm J)) λv l' H' k=>k
 ·refine F d _ ?_;rw[if_neg Bool.false_ne_true];exact G))
variable{op:BOp}{p:Prim}{o:ME}{m f:String}{a:Addr}{c:String}{ps:List (String×V)}
theorem Ev.prim(B:Ev σ l H e v)(h:∀Q,Q w H->iZ H Q p v):Ev σ l H (.prim p e) w:=λd _ q=>B d _ (h _ q)
theorem cB(B:Ev σ l H e v)(k:Q v H):aS σ d e l H Q:=B d Q k
theorem Bz(h:aS σ d e l H λv H1=>aS σ d i l H1 λj H2=>sU H2 Q v j):aS σ d (.idx e i) l H Q:=h
theorem jC(h:dW σ d es l H λvs H1=>fresh H1 Q (.list vs)):aS σ d (.lst es) l H Q:=h
theorem fS{Q:List V->AH->Prop}(h:aS σ d e l H λv H1=>dW σ d es l H1 λvs H2=>Q (v::vs) H2):dW σ d (.cons e es) l H Q:=h
theorem xF{Q:List V->AH->Prop}(h:Q [] H):dW σ d .nil l H Q:=h
theorem Pn(h:aS σ d e l H λv H1=>aS σ d o l H1 λov H2=>aS σ d i l H2 λiv H3=>∃a,ov=.ref a /\ ((∃vs n,H3 a=some (.list vs)/\iv=.int n/\0<=n/\n<vs.length/\vs.length<2^60/\aq σ d rest l (H3.set a (.list (vs.set n.toNat v))) K)\/(∃kvs,H3 a=some (.dict kvs)/\keyFits kvs iv/\kvs.length<2^20/\aq σ d rest l (H3.set a (.dict (dput kvs iv v))) K))):aq σ d (.asg (.ix o i) e::rest) l H K:=h
theorem tr{H:AH}{x:Addr}{o o':AO}(h:H a=some o)(B:(H.set a o') x=none):H x=none:=by
 by_cases z:x=a
 ·rw[z,AH.set_self]at B;exact sn B
 ·rwa [AH.set_ne _ _ z]at B
theorem xB{t:Tgt}{b:List MS}(h:aS σ d e l H λv H1=>jl v H1 λsrc vs H1=>mh src (λv l H k=>∃l',bm t v l=some l'/\aq σ d b l' H k) vs l H1 (Sq σ d rest K)):aq σ d (.for1 t (.exp e) b::rest) l H K:=h
theorem GB{t:Tgt}{b:List MS}{x y:List V}(G:Ev σ l H e (.tup x))(hi:Ev σ l H e2 (.tup y))(B:x.length<=1000)(F:y.length<=1000)(h:mh none (λv l H k=>∃l',bm t v l=some l'/\aq σ d b l' H k) (gC x y) l H (Sq σ d rest K)):aq σ d (.for1 t (.zip e e2) b::rest) l H K :=G d _ (hi d _ (mN x y rfl rfl B F h))
theorem Pm{x y:List MS}(hs:Evs σ l H es vs)(h:FCall σ d m vs H λv H2=>∃t,v=.bool t/\if t=true then aq σ d x l H2 (Sq σ d rest K)else aq σ d y l H2 (Sq σ d rest K)):aq σ d (.if1 (.call m es) x y::rest) l H K:=h.elim λa e=>(aa a e.1 (hs d _ e.2))
theorem GF{op:COp}{a b x y:ME}(h:aS σ d a l H λv H1=>aS σ d b l H1 λw H2=>eP H2 op v w λt=>if t=true then aS σ d x l H2 Q else aS σ d y l H2 Q):aS σ d (.ite (.cmp1 op a b) x y) l H Q:=h
theorem Bx(h:aS σ d e l H λv H1=>∃t,v=.bool t/\if t=true then aS σ d e2 l H1 Q else Q (.bool false) H1):aS σ d (.and2 e e2) l H Q:=h
theorem GE{op:COp}(h:aS σ d e l H λv H1=>aS σ d e2 l H1 λw H2=>eP H2 op v w λt=>Q (.bool t) H2):aS σ d (.cmp1 op e e2) l H Q:=h
theorem EvT.cmp2{o1 o2:COp}{B:ME}{u:V}(F:Ev σ l H e v)(hi:Ev σ l H e2 w)(G:Ev σ l H B u)(h:∀Q:Bool->Prop,Q true->eP H o1 v w Q)(h':∀Q:Bool->Prop,Q b->eP H o2 w u Q):EvT σ l H (.cmp2 e o1 e2 o2 B) b:=λd _ q=>F d _ (hi d _ (h _ (fI rfl (G d _ (h' _ q)))))
theorem eA(h:aS σ d e l H λv H1=>iZ H1 Q p v):aS σ d (.prim p e) l H Q:=h
theorem rQ(h:aS σ d e l H λv H1=>aS σ d e2 l H1 λw H2=>xM H2 Q op v w):aS σ d (.bin op e e2) l H Q:=h
theorem kl{k:RK}(B:Ev σ l H o v)(r:qk H σ v m k)(hs:Evs σ l H es vs)(h:tf H Q σ d k v m vs):aS σ d (.meth o m es) l H Q:=B d _ (aa k r (hs d _ h))
theorem aW(F:Ev σ l H o (.ref a))(i:IsObj H a c dx ps)(B:ps.lookup m=none)(hm:(σ.meth c m).isSome=true)(hs:Evs σ l H es vs)(h:MCall σ d c m (.ref a::vs) H Q):aS σ d (.meth o m es) l H Q :=kl F (aE i B hm) hs h
theorem un(F:Ev σ l H o (.ref a))(i:IsObj H a c dx ps)(B:ps.lookup m=none)(hm:(σ.meth c m).isSome=true)(hs:dW σ d es l H λvs H2=>MCall σ d c m (.ref a::vs) H2 Q):aS σ d (.meth o m es) l H Q :=F d _ (aa _ (aE i B hm) hs)
theorem xD(hs:Evs σ l H es vs)(h:FCall σ d m vs H Q):aS σ d (.call m es) l H Q:=h.elim λa e=>(aa a e.1 (hs d _ e.2))
theorem iK(h:aS σ d e l H λv H1=>rq v/\aq σ d rest l H1 K):aq σ d (.expr e::rest) l H K:=h
theorem cY(h:aS σ d e l H λv H1=>K (.ret v) l H1):aq σ d (.ret e::rest) l H K:=h
theorem rf{Q:V->AH->Prop}(B:H a=some (.list vs))(hz:vs.length<2^20)(k:Q .none (H.set a (.list (vs++[v])))):wH H Q (.ref a) "append" [v]:=(bc a _ rfl B (.inl ⟨rfl,(bb v rfl hz k)⟩))
theorem mJ(G:Ev σ l H o (.ref a))(B:H a=some (.list vs))(F:aS σ d e l H λv H1=>wH H1 (λr H2=>rq r/\aq σ d rest l H2 K) (.ref a) "append" [v]):aq σ d (.expr (.meth o "append" (.cons e .nil))::rest) l H K :=G d _ (aa .list ⟨by decide,(fA a _ rfl B)⟩ F)
theorem jy(G:Ev σ l H o (.ref a))(B:H a=some (.list vs))(F:Ev σ l H e v)(hz:vs.length<2^20)(k:aq σ d rest l (H.set a (.list (vs++[v]))) K):aq σ d (.expr (.meth o "append" (.cons e .nil))::rest) l H K :=mJ G B (F d _ (rf B hz ⟨trivial,k⟩))
theorem vO(O:Ev σ l H o (.ref a))(F:H a=some (.list vs)){b:Addr}{ws:List V}(J:Ev σ l H e (.ref b))(G:H b=some (.list ws))(B:a≠b)(hz:vs.length+ws.length<=2^20)(k:aq σ d rest l (H.set a (.list (vs++ws))) K):aq σ d (.expr (.meth o "extend" (.cons e .nil))::rest) l H K :=O d _ (aa .list ⟨by decide,a,vs,rfl,F⟩ (J d _ (bc a _ rfl F (.inr (.inl ⟨rfl,(Py b ws rfl B G hz trivial k)⟩)))))
theorem vP(F:Ev σ l H e v)(J:Ev σ l H o (.ref a))(hi:Ev σ l H i w)(B:H a=some (.dict kvs))(G:keyFits kvs w)(hz:kvs.length<2^20)(k:aq σ d rest l (H.set a (.dict (dput kvs w v))) K):aq σ d (.asg (.ix o i) e::rest) l H K :=F d _ (J d _ (hi d _ (aa a rfl (.inr (iN kvs B G hz k)))))
theorem Gx(J:Ev σ l H e v)(O:Ev σ l H o (.ref a)){n:Int}(hi:Ev σ l H i (.int n))(G:H a=some (.list vs))(B:0<=n)(F:n<vs.length)(hz:vs.length<2^60)(k:aq σ d rest l (H.set a (.list (vs.set n.toNat v))) K):aq σ d (.asg (.ix o i) e::rest) l H K :=J d _ (O d _ (hi d _ (aa a rfl (.inl (Py vs n G rfl B F hz k)))))
theorem BA{x:V}(F:Ev σ l H o (.ref a))(B:H a=some (.list (vs++[x])))(hz:vs.length<2^20)(k:Q x (H.set a (.list vs))):aS σ d (.meth o "pop" .nil) l H Q :=kl (k:=.list) F ⟨by decide,a,_,rfl,B⟩ .nil (bc a _ rfl B (.inr (.inr ⟨rfl,(jh vs x rfl rfl (by rw[List.length_append];exact hz) k)⟩)))
theorem te(f:α->β)(l:List α)(x:α):l.map f++[f x]=(l++[x]).map f:=by rw[List.map_append];rfl
def Keep(l:Loc)(x:String)(l':Loc):Prop:=∀y,y≠x->l' y=l y
theorem Keep.refl:Keep l x l:=λ_ _=>rfl
theorem Keep.put{l':Loc}(h:Keep l x l'):Keep l x (l'.put x v):=λy B=>(if_neg B).trans (h y B)
theorem sP{b:List MS}:∀{xs:List V}{l':Loc},(∀v∈xs,∀(l':Loc)(F:Fl->Loc->AH->Prop),Keep l x l'->(∀B,Keep l x B->F .next B H)->aq σ d b (l'.put x v) H F)->di src H->Keep l x l'->{K:Fl->Loc->AH->Prop}->(∀l',Keep l x l'->K .next l' H) -> mh src (λv l H k=>∃l',bm (.nm x) v l=some l'/\aq σ d b l' H k) xs l' H K
 | [],_,_,hs,h,_,k=>⟨hs,k _ h⟩
 |_::_,_,G,hs,h,_,k=>⟨hs,(aa _ rfl (G _ d6 _ _ h λ_ h=>sP (λv hv=>G v (d7 _ hv)) hs h k))⟩
theorem Gw{it:ME}{b:List MS}(hi:Ev σ l H it (.tup vs))(hz:vs.length<=2^20)(G:∀v∈vs,∀(l':Loc)(F:Fl->Loc->AH->Prop),Keep l x l'->(∀B,Keep l x B->F .next B H)->aq σ d b (l'.put x v) H F)(k:∀l',Keep l x l'->aq σ d rest l' H K):aq σ d (.for1 (.nm x) (.exp it) b::rest) l H K :=hi d _ ⟨hz,sP (src:=none) G trivial Keep.refl k⟩
end
end
section
variable{a:Addr}
noncomputable abbrev Nd:=String×List Nat
noncomputable def ak(nd:Nd):V:=.tup (.str nd.1::nd.2.map iv)
noncomputable def og(l:List Nd):List (V×V):=l.zipIdx.map λp=>(ak p.1,iv p.2)
structure HD where
 hp:Addr
 hd:Addr
 bp:Addr
 bd:Addr
 up:Addr
 ud:Addr
 ep:Addr
 fp:Addr
 kp:Addr
 ap:Addr
 wp:Addr
 np:Addr
 mp:Addr
 qp:Addr
 dp:Addr
 ua:Addr
 lp:Addr
 gp:Addr
 nodes:List Nd
 nums:List (V×V)
 ws:List Int
 ds:List Int
 par:List Nat
 lots:List (Addr×List Nat)
 mrg:List V
 edg:List V
 frs:List V
 known:List (Nd×Nat)
 ab:List (Nat×Addr×List Nat)
 wait:List Nat
 rep:List Nat
 M:Nat
namespace HD
variable(D:HD)
noncomputable abbrev sNodes(k:List Nd):HD:={ D with nodes:=k }
noncomputable abbrev sNums(k:List (V×V)):HD:={ D with nums:=k }
noncomputable abbrev sWs(k:List Int):HD:={ D with ws:=k }
noncomputable abbrev sDs(k:List Int):HD:={ D with ds:=k }
noncomputable abbrev sPar(k:List Nat):HD:={ D with par:=k }
noncomputable abbrev sLots(k:List (Addr×List Nat)):HD:={ D with lots:=k }
noncomputable abbrev sMrg(k:List V):HD:={ D with mrg:=k }
noncomputable abbrev sEdg(k:List V):HD:={ D with edg:=k }
noncomputable abbrev sFrs(k:List V):HD:={ D with frs:=k }
noncomputable abbrev sKnown(k:List (Nd×Nat)):HD:={ D with known:=k }
noncomputable abbrev sAb(k:List (Nat×Addr×List Nat)):HD:={ D with ab:=k }
noncomputable abbrev sWait(k:List Nat):HD:={ D with wait:=k }
noncomputable abbrev sRep(k:List Nat):HD:={ D with rep:=k }
noncomputable abbrev sM(k:Nat):HD:={ D with M:=k }
noncomputable abbrev n:Nat:=D.nodes.length
noncomputable def r(i:Nat):Nat:=D.rep.getD i 0
noncomputable def pr(i:Nat):Nat:=D.par.getD i 0
noncomputable def roots:List Nat:=(List.range D.n).filter λi=>D.r i=i
noncomputable def mem(c:Nat):List Nat:=(List.range D.n).filter λi=>D.r i=c
noncomputable def op(i:Nat):String:=(D.nodes.getD i ("",[])).1
noncomputable def kids(i:Nat):List Nat:=(D.nodes.getD i ("",[])).2
noncomputable def canon(i:Nat):Nd:=(D.op i,(D.kids i).map D.r)
noncomputable def kv:List (V×V):=D.known.map λp=>(ak p.1,iv p.2)
noncomputable def abv:List (V×V):=D.ab.map λp=>(iv p.1,.ref p.2.1)
noncomputable def tot:Nat:=(D.ab.map λp=>p.2.2.length).sum
noncomputable abbrev fo:Addr×List Nat->Addr×AO:=λp=>(p.1,.list (p.2.map iv))
noncomputable abbrev fa:Nat×Addr×List Nat->Addr×AO:=λp=>(p.2.1,.list (p.2.2.map iv))
noncomputable def hhL(F:List V)(B:List (V×V)):List (Addr×AO) :=
 [(D.hp,.inst "Heap" D.hd),(D.hd,.dict (fl [("bank",.ref D.bp),("unions",.ref D.up),("edges",.ref D.ep),("forest",.ref D.fp),("known",.ref D.kp),("above",.ref D.ap),("waiting",.ref D.wp)])),
  (D.bp,.inst "Bank" D.bd),(D.bd,.dict (fl [("nodes",.ref D.np),("numbers",.ref D.mp),("weights",.ref D.qp),("depths",.ref D.dp)])),
  (D.up,.inst "Unions" D.ud),(D.ud,.dict (fl [("above",.ref D.ua),("lots",.ref D.lp),("merged",.ref D.gp)])),
  (D.np,.list (D.nodes.map ak)),(D.mp,.dict D.nums),(D.qp,.list (D.ws.map .int)),(D.dp,.list (D.ds.map .int)),
  (D.ua,.list (D.par.map iv)),(D.lp,.list F),(D.gp,.list D.mrg),(D.ep,.list D.edg),(D.fp,.list D.frs),
  (D.kp,.dict D.kv),(D.ap,.dict B),(D.wp,.list (D.wait.map iv))]
noncomputable def objs:List (Addr×AO):=D.hhL (D.lots.map λp=>.ref p.1) D.abv++(D.lots.map fo++D.ab.map fa)
noncomputable def adr:List Addr:=D.objs.map (·.1)
structure At(H:AH):Prop where
 all:∀p∈D.objs,H p.1=some p.2
 nd:D.adr.Nodup
structure UOk:Prop where
 nz:D.n<=60
 lpar:D.par.length=D.n
 llots:D.lots.length=D.n
 rle:∀i,i<D.n->D.r i<=i/\D.r (D.r i)=D.r i
 pr:∀i,i<D.n->(D.pr i=i->D.r i=i)/\(D.pr i≠i->D.pr i<i/\D.r (D.pr i)=D.r i)
 lots:∀(i:Nat)(p:Addr×List Nat),D.lots[i]?=some p->D.r i=i->p.2.Perm (D.mem i)
 mrgz:D.mrg.length<2^20
structure Ok:Prop where
 nz:D.n<=60
 lws:D.ws.length=D.n
 lds:D.ds.length=D.n
 lpar:D.par.length=D.n
 llots:D.lots.length=D.n
 lrep:D.rep.length=D.n
 kids:∀(i:Nat)(nd:Nd),D.nodes[i]?=some nd->(∀k∈nd.2,k<i)/\nd.1∈aR/\nd.2.length<=2
 ndn:D.nodes.Nodup
 nums:D.nums=og D.nodes
 rle:∀i,i<D.n->D.r i<=i/\D.r (D.r i)=D.r i
 pr:∀i,i<D.n->(D.pr i=i->D.r i=i)/\(D.pr i≠i->D.pr i<i/\D.r (D.pr i)=D.r i)
 lots:∀(i:Nat)(p:Addr×List Nat),D.lots[i]?=some p->D.r i=i->p.2.Perm (D.mem i)
 known:∀p∈D.known,p.2<D.n
 abk:(D.ab.map (·.1)).Nodup/\∀i,i∈D.ab.map (·.1)↔i∈D.roots
 abm:∀p∈D.ab,∀x∈p.2.2,x<D.n
 tot:D.tot<=2*D.n
 wait:∀x∈D.wait,x<D.n
 cnt:D.known.length+D.wait.length+200*D.roots.length<=D.n+200*D.n
 edg:D.edg.length+D.roots.length<=D.n+D.M/\D.frs.length+D.roots.length<=D.n/\D.mrg.length+D.roots.length<=D.n
 Mz:D.M<=100
variable{D}
theorem At.at_{H:AH}(A:D.At H)(i:Nat){o:AO}(h:D.objs[i]?=some (a,o)):H a=some o:=A.all (a,o) (g9 h)
section
variable{H:AH}(A:D.At H)
include A
theorem At.heap:IsObj H D.hp "Heap" D.hd [("bank",.ref D.bp),("unions",.ref D.up),("edges",.ref D.ep),("forest",.ref D.fp),("known",.ref D.kp),("above",.ref D.ap),("waiting",.ref D.wp)]:=⟨A.at_ 0 rfl,A.at_ 1 rfl⟩
theorem At.bank:IsObj H D.bp "Bank" D.bd [("nodes",.ref D.np),("numbers",.ref D.mp),("weights",.ref D.qp),("depths",.ref D.dp)]:=⟨A.at_ 2 rfl,A.at_ 3 rfl⟩
theorem At.uni:IsObj H D.up "Unions" D.ud [("above",.ref D.ua),("lots",.ref D.lp),("merged",.ref D.gp)]:=⟨A.at_ 4 rfl,A.at_ 5 rfl⟩
theorem At.nodes:H D.np=some (.list (D.nodes.map ak)):=A.at_ 6 rfl
theorem At.nums:H D.mp=some (.dict D.nums):=A.at_ 7 rfl
theorem At.ws:H D.qp=some (.list (D.ws.map .int)):=A.at_ 8 rfl
theorem At.ds:H D.dp=some (.list (D.ds.map .int)):=A.at_ 9 rfl
theorem At.par:H D.ua=some (.list (D.par.map iv)):=A.at_ 10 rfl
theorem At.lots:H D.lp=some (.list (D.lots.map λp=>.ref p.1)):=A.at_ 11 rfl
theorem At.mrg:H D.gp=some (.list D.mrg):=A.at_ 12 rfl
theorem At.edg:H D.ep=some (.list D.edg):=A.at_ 13 rfl
theorem At.frs:H D.fp=some (.list D.frs):=A.at_ 14 rfl
theorem At.known:H D.kp=some (.dict D.kv):=A.at_ 15 rfl
theorem At.ab:H D.ap=some (.dict D.abv):=A.at_ 16 rfl
theorem At.wait:H D.wp=some (.list (D.wait.map iv)):=A.at_ 17 rfl
theorem At.lot:∀p∈D.lots,H p.1=some (.list (p.2.map iv)):=λp hp=>A.all (_,_) (n8 _ (m8 _ (b9.mpr (aa p hp rfl))))
theorem At.abl:∀p∈D.ab,H p.2.1=some (.list (p.2.2.map iv)):=λp hp=>A.all (_,_) (n8 _ (n8 _ (b9.mpr (aa p hp rfl))))
theorem At.ext(x:Ext H H'):D.At H':=⟨λp hp=>x _ _ (A.all p hp),A.nd⟩
end
end HD
theorem ro(f:α->V)(l:List α){x:α}(h:l[i]?=some x):FF (l.map f) ((i:Nat):Int)=some (f x):=by unfold FF;rw[if_pos Ax];simp[h]
theorem dT{H:AH}{Q:V->AH->Prop}{f:α->V}{l:List α}{x:α}(h:H a=some (.list (l.map f)))(hi:l[i]?=some x)(B:i<1000)(q:Q (f x) H):sU H Q (.ref a) (iv i) :=.inl (EU _ (i:Int) (f x) h rfl (by rw[Int.natAbs_natCast];exact o6 B (by decide)) (ro f l hi) q)
theorem gU{H:AH}{Q:V->AH->Prop}{w:V}(h:H a=some (.dict kvs))(B:keyFits kvs w)(F:aA kvs w=some x)(q:Q x H):sU H Q (.ref a) w:=.inr (jh kvs x h B F q)
theorem gc{l:List α}(d:α)(h:i<l.length):l[i]?=some (l.getD i d):=by rw[List.getD_eq_getElem?_getD,List.getElem?_eq_getElem h];rfl
theorem rh(H:AH)(i j:Int)(Q:Bool->Prop)(q:Q (!decide (i=j))):eP H .ne (.int i) (.int j) Q :=⟨⟨rfl,by show 0<=8;exact ty⟩,⟨rfl,by show 0<=8;exact ty⟩,by rw[cI];exact q⟩
theorem kE(H:AH)(i j:Int)(Q:Bool->Prop)(q:Q (decide (i=j))):eP H .eq (.int i) (.int j) Q :=(da ⟨rfl,by show 0<=8;exact ty⟩ ⟨rfl,by show 0<=8;exact ty⟩ (by rw[cI];exact q))
theorem uK{H:AH}{Q:Bool->Prop}(q:Q (decide (i=j))):eP H .eq (iv i) (iv j) Q:=kE _ _ _ _ (by rw[show decide ((i:Int)=(j:Int))=decide (i=j)from decide_eq_decide.mpr ⟨Int.ofNat.inj,congrArg _⟩];exact q)
section
variable{H:AH}{Q:V->AH->Prop}{D:HD}
theorem HD.Ok.u(O:D.Ok):D.UOk:=⟨O.nz,O.lpar,O.llots,O.rle,O.pr,O.lots,by have:=O.edg.2.2;obtain this:=O.nz;exact Kn (by assumption) this⟩
theorem EP(O:D.UOk)(h:i<D.n):D.r i<D.n:=d9 (O.rle i h).1 h
theorem wJ(O:D.UOk)(h:i<D.n):∃p,D.lots[i]?=some p:=by
 obtain B:i<D.lots.length:=by rw[O.llots];exact h
 exact⟨_,w1 B⟩
theorem gJ(O:D.Ok)(h:i<D.n):D.r i<D.n:=d9 (O.rle i h).1 h
theorem td{n:Nat}(h:i<n)(B:n<=60):i<1000:=o6 h (b8 B (by decide))
theorem FB{a b:Nat}(h:a≠b):(!decide ((a:Int)=(b:Int)))=true:=by rw[decide_eq_false (show ¬((a:Int)=b) fromλe=>h (Int.ofNat.inj e))];rfl
theorem Fz{a b:Nat}(h:a=b):(!decide ((a:Int)=(b:Int)))=false:=by rw[decide_eq_true (show((a:Int)=b)from congrArg Int.ofNat h)];rfl
theorem fU(T:Txt σ){f:String}(h:f∈["above","lots","merged"]):f∈σ.flds "Unions":=by rw[T.fUnions];exact h
theorem fH(T:Txt σ){f:String}(h:f∈["bank","unions","edges","forest","known","above","waiting"]):f∈σ.flds "Heap":=by rw[T.fHeap];exact h
theorem fB(T:Txt σ){f:String}(h:f∈["nodes","numbers","weights","depths"]):f∈σ.flds "Bank":=by rw[T.fBank];exact h
section
variable{e:ME}{f:String}{v:V}
theorem kG(T:Txt σ)(A:D.At H)(B:Ev σ l H e (.ref D.up))(F:f∈["above","lots","merged"])(h:[("above",V.ref D.ua),("lots",.ref D.lp),("merged",.ref D.gp)].lookup f=some v):Ev σ l H (.attr e f) v:=B.attr A.uni (fU T F) h
theorem mf(T:Txt σ)(A:D.At H)(B:Ev σ l H e (.ref D.bp))(F:f∈["nodes","numbers","weights","depths"])(h:[("nodes",V.ref D.np),("numbers",.ref D.mp),("weights",.ref D.qp),("depths",.ref D.dp)].lookup f=some v):Ev σ l H (.attr e f) v:=B.attr A.bank (fB T F) h
theorem gH(T:Txt σ)(A:D.At H)(B:Ev σ l H e (.ref D.hp))(F:f∈["bank","unions","edges","forest","known","above","waiting"])(h:[("bank",V.ref D.bp),("unions",.ref D.up),("edges",.ref D.ep),("forest",.ref D.fp),("known",.ref D.kp),("above",.ref D.ap),("waiting",.ref D.wp)].lookup f=some v):Ev σ l H (.attr e f) v:=B.attr A.heap (fH T F) h
theorem kF(B:Ev σ l H e (.tup (v::vs)))(hz:vs.length<1000):Ev σ l H (.slc e (some 1) none) (.tup vs):=λd _ q=>B d _ (GJ hz (u7 _) rfl rfl q)
theorem eG{n:Nat}(F:Ev σ l H e (.ref a))(B:H a=some (.list vs))(hl:vs.length=n)(hz:n<=2^21):Ev σ l H (.prim .len e) (iv n):=by subst hl;exact F.prim λ_ q=>(bb vs B hz q)
end
theorem Fn(O:D.UOk)(T:Txt σ)(A:D.At H){x:Nat}(B:x<D.n)(F:l "self"=some (.ref D.up))(G:l "a"=some (iv x)):Ev σ l H (.idx (.attr (.var "self") "above") (.var "a")) (iv (D.pr x)) :=(kG T A (.var F) (by decide) rfl).idx (.var G) λ_ q=>dT A.par (gc 0 (by rw[O.lpar];exact B)) (td B O.nz) q
theorem qH(T:Txt σ)(A:D.At H)(O:D.UOk){a:Nat}(Y:a<D.n)(q:Q (iv (D.r a)) H):MCall σ 1 "Unions" "find" [.ref D.up,iv a] H Q:=by
 refine aw T.ok T.Unions_find rfl (Bo (λm l H'=>H'=H/\l "self"=some (.ref D.up)/\∃x,x<=m/\x<D.n/\D.r x=D.r a/\l "a"=some (iv x)) a (da rfl rfl (iN a (f7 _) Y rfl rfl)) ?_);rintro m l _ ⟨rfl,J,x,Z,B,P,G⟩;obtain p:=O.pr x B;obtain e:=Fn O T A B J G;by_cases F:D.pr x=x
 ·exact .inr ⟨e.cmpT (.var G) λ_ q=>rh _ _ _ _ (by rw[Fz F];exact q),cX (.var G) (by rw[<- P,p.1 F]at q;exact q)⟩
 ·exact .inl ⟨e.cmpT (.var G) λ_ q=>rh _ _ _ _ (by rw[FB F];exact q),λK' k _=>vJ e (k _ _ _ (o6 (p.2 F).1 Z) (da rfl J (iN _ (f7 _) (m4 (p.2 F).1 B) ((p.2 F).2.trans P) rfl)))⟩
end
end
variable{D':HD}{N:List Nd}{nd:Nd}
section
variable{x:String}{it:ME}
theorem Ext.setc{H:AH}{c:Addr}(hc:H0 c=none)(x:Ext H0 H)(o:AO):Ext H0 (H.set c o):=λa y e=>by
 rw[AH.set_ne]
 ·exact x a y e
 ·rintro rfl;rw[hc]at e;exact ns e
theorem dg{step:V->AH->(AH->Prop)->Prop}{c:Addr}(hsrc:di src H0)(g:V->List V):∀(vs ws:List V)(H:AH){K:AH->Prop},Ext H0 H->H c=some (.list ws)->ws.length+(vs.flatMap g).length<2^20 ->(∀x∈vs,∀(H':AH)(ws':List V)(k:AH->Prop),Ext H0 H'->H' c=some (.list ws')->ws'.length+(g x).length<2^20->(∀H'',Ext H0 H''->H'' c=some (.list (ws'++g x))->k H'')->step x H' k) ->(∀H',Ext H0 H'->H' c=some (.list (ws++vs.flatMap g))->K H')->fu src step vs H K
 | [],ws,H,K,x,hc,hl,hs,G=>⟨by cases src with
   |none=>trivial
   |some p=>exact x _ _ hsrc,G H x (by simpa using hc)⟩
 |v::vs,ws,H,K,x,hc,hl,hs,G=>by
  have F:ws.length+((g v).length+(vs.flatMap g).length)<2^20:=by simpa[List.flatMap_cons]using hl
  refine⟨by cases src with
   |none=>trivial
   |some p=>exact x _ _ hsrc,hs v d6 H ws _ x hc (Ko F) λH'' O B=>?_⟩
  refine dg hsrc g vs (ws++g v) H'' O B (by rw[List.length_append];exact Kp F) (λy P=>hs y (d7 _ P)) λH' x' J=>G H' x' ?_;rw[J,List.flatMap_cons,List.append_assoc]
theorem dS(f:α->β)(l:List α):l.flatMap (λx=>[f x])=l.map f:=by
 induction l with
 |nil=>rfl
 |cons a l B=>simp[B]
theorem qr{H:AH}(x:Ext H H')(h:di src H):di src H':=by
 rcases src with _|p
 ·trivial
 ·exact x _ _ h
section
variable{H:AH}{d:Nat}{Q:V->AH->Prop}
theorem kz{K:Addr->AH->Prop}{e:ME}{Q:Option ME}(xs:List α)(f g:α->V)(p:α->Bool)(hs:di src H)(hz:xs.length<2^20)(hp:∀v∈xs,∀(H':AH)(G:Bool->AH->Prop),Ext H H'->G (p v) H'->yV σ d Q ((l.drop [x]).put x (f v)) H' G)(he:∀v∈xs,p v=true->∀(H':AH)(G:V->AH->Prop),Ext H H'->(∀H'',Ext H' H''->G (g v) H'')->aS σ d e ((l.drop [x]).put x (f v)) H' G)(q:∀c H',Ext H H'->H c=none->H' c=some (.list ((xs.filter p).map g))->K c H') : fresh H (λv H2=>∃c,v=.ref c/\fu src (λv H' k=>∃l',bm (.nm x) v (l.drop [x])=some l'/\yV σ d Q l' H' λok H''=>if ok=true then aS σ d e l' H'' λv H3=>∃vs,H3 c=some (.list vs)/\vs.length<2^20/\k (H3.set c (.list (vs++[v])))else k H'') (xs.map f) H2 λH3=>K c H3) (.list []):=by
 intro c hc;refine(aa c rfl ?_);obtain key:∀(ys:List α)(B:List V)(H2:AH),(∀y∈ys,y∈xs)->Ext H H2->H2 c=some (.list B)->B.length+ys.length<2^20->(∀H3,Ext H H3->H3 c=some (.list (B++(ys.filter p).map g))->K c H3) ->
   fu src (λv H' k=>∃l',bm (.nm x) v (l.drop [x])=some l'/\yV σ d Q l' H' λok H''=>if ok=true then aS σ d e l' H'' λv H3=>∃vs,H3 c=some (.list vs)/\vs.length<2^20/\k (H3.set c (.list (vs++[v])))else k H'') (ys.map f) H2 λH3=>K c H3:=by
  intro ys;induction ys with
  |nil=>exactλB H2 _ x2 O _ k=>⟨qr x2 hs,k H2 x2 (by rw[O];exact j6 (λl=>some (AO.list l)) (List.append_nil B).symm)⟩
  |cons y ys ih =>
   intro B H2 hm x2 O hz k;obtain hy:=hm y d6;have J:∀z∈ys,z∈xs:=λz h=>hm z (d7 _ h);have Z:B.length<2^20:=d9 (m9 _ _) hz;refine⟨qr x2 hs,(aa _ rfl (hp y hy H2 _ x2 ?_))⟩;cases F:p y with
   |true =>
    refine fI rfl (he y hy F H2 _ x2 λH3 P=>(bb B (P _ _ O) Z (ih (B++[g y]) _ J ((x2.trans' P).setc hc _) (AH.set_self _ _ _) ?_ λH4 x4 Y=>k H4 x4 ?_)))
    ·rw[List.length_append,Nat.add_assoc,Nat.add_comm [g y].length];exact hz
    ·rw[Y,List.append_assoc,List.filter_cons_of_pos F];rfl
   |false =>refine fG rfl (ih B H2 J x2 O (Nat.lt_of_succ_lt hz) λH4 x4 Y=>k H4 x4 ?_);rw[Y,List.filter_cons_of_neg (by rw[F];decide)]
 exact key xs [] _ (λ_ h=>h) (Ext.set _ hc) (AH.set_self _ _ _) (by rw[List.length_nil,Nat.zero_add];exact hz) λH3 P h3=>q c H3 P hc h3
theorem ya(l:List α):l.filter (λ_=>true)=l:=List.filter_eq_self.mpr λ_ _=>rfl
theorem ni{K:Addr->AH->Prop}{e:ME}(xs:List α)(f g:α->V)(hs:di src H)(hz:xs.length<2^20)(G:∀v∈xs,∀(H':AH)(B:V->AH->Prop),Ext H H'->(∀H'',Ext H' H''->B (g v) H'')->aS σ d e ((l.drop [x]).put x (f v)) H' B)(q:∀c H',Ext H H'->H c=none->H' c=some (.list (xs.map g))->K c H') : fresh H (λv H2=>∃c,v=.ref c/\fu src (λv H' k=>∃l',bm (.nm x) v (l.drop [x])=some l'/\yV σ d none l' H' λok H''=>if ok=true then aS σ d e l' H'' λv H3=>∃vs,H3 c=some (.list vs)/\vs.length<2^20/\k (H3.set c (.list (vs++[v])))else k H'') (xs.map f) H2 λH3=>K c H3) (.list []) :=kz xs f g (λ_=>true) hs hz (λ_ _ _ _ _ k=>k) (λv hv _=>G v hv) λc H' x F h=>q c H' x F (by rw[ya]at h;exact h)
theorem rR{e:ME}(xs:List α)(f g:α->V)(hi:Ev σ l H it (.tup (xs.map f)))(hz:xs.length<2^20)(F:∀v∈xs,∀(H':AH)(B:V->AH->Prop),Ext H H'->(∀H'',Ext H' H''->B (g v) H'')->aS σ d e ((l.drop [x]).put x (f v)) H' B)(q:∀c H',Ext H H'->H c=none->H' c=some (.list (xs.map g))->Q (.ref c) H'):aS σ d (.comp e (.one (.nm x) (.exp it) none)) l H Q :=hi d _ ⟨b8 (a8 (j8 f)) (j7 hz),ni (src:=none) xs f g trivial hz F q⟩
theorem By{e:ME}{B:Option ME}(h:aS σ d it l H λv H1=>∃n,v=.int n/\0<=n/\n<=1000/\fresh H1 (λv H2=>∃c,v=.ref c/\fu none (λv H' k=>∃l',bm (.nm x) v (l.drop [x])=some l'/\yV σ d B l' H' λok H''=>if ok=true then aS σ d e l' H'' λv H3=>∃vs,H3 c=some (.list vs)/\vs.length<2^20/\k (H3.set c (.list (vs++[v])))else k H'') (jw n.toNat) H2 λH3=>Q (.ref c) H3) (.list [])):aS σ d (.comp e (.one (.nm x) (.rng it) B)) l H Q:=h
theorem uo{e:ME}{B:Option ME}(h:aS σ d it l H λv H1=>jl v H1 λsrc vs H1=>fresh H1 (λv H2=>∃c,v=.ref c/\fu src (λv H' k=>∃l',bm (.nm x) v (l.drop [x])=some l'/\yV σ d B l' H' λok H''=>if ok=true then aS σ d e l' H'' λv H3=>∃vs,H3 c=some (.list vs)/\vs.length<2^20/\k (H3.set c (.list (vs++[v])))else k H'') vs H2 λH3=>Q (.ref c) H3) (.list [])):aS σ d (.comp e (.one (.nm x) (.exp it) B)) l H Q:=h
theorem uq{e:ME}(h:aS σ d it l H λv H1=>jl v H1 λsrc vs H1=>fresh H1 (λv H2=>∃c,v=.ref c/\fu src (λv H' k=>∃l',bm (.nm x) v (l.drop [x])=some l'/\yV σ d none l' H' λok H''=>if ok=true then aS σ d e l' H'' λv H3=>∃vs,H3 c=some (.list vs)/\vs.length<2^20/\k (H3.set c (.list (vs++[v])))else k H'') vs H2 λH3=>Q (.ref c) H3) (.list [])):aS σ d (.comp e (.one (.nm x) (.exp it) none)) l H Q:=h
end
theorem iF(s:String):kK (.str s):=⟨rfl,by exact ty⟩
theorem io(l:List Nat):br (l.map iv)=0:=by
 induction l with
 |nil=>rfl
 |cons a l B=>show max 0 (br (l.map iv))=0;rw[B];rfl
theorem oq(l:List Nat):bu (l.map iv)=true:=by
 induction l with
 |nil=>rfl
 |cons a l B=>show(true&&bu (l.map iv))=true;rw[B];rfl
theorem uW(l:List Nat):bG (l.map iv)=true:=by
 induction l with
 |nil=>rfl
 |cons a l B=>show(true&&bG (l.map iv))=true;rw[B];rfl
theorem fO(nd:Nd):aO (ak nd)=true/\az (ak nd)=1/\cW (ak nd)=2:=by
 obtain B:aO (ak nd)=true:=by show(true&&bG (nd.2.map iv))=true;rw[uW];rfl
 obtain F:az (ak nd)=1:=by show max 0 (br (nd.2.map iv))+1=1;rw[io];rfl
 refine(da B F ?_);unfold ak at *;rw[gY,B,F];rfl
section
variable{H:AH}{Q:V->AH->Prop}{D:HD}
theorem mD(O:D.Ok)(h:i<D.n):D.nodes[i]?=some (D.op i,D.kids i):=gc ("",[]) h
theorem Cv{n:Nat}(h:n<=60):n<=2^21:=b8 h (by decide)
theorem PF(T:Txt σ)(A:D.At H)(O:D.Ok)(B:a<D.n)(q:Q (.str (D.op a)) H):MCall σ 1 "Bank" "op" [.ref D.bp,iv a] H Q :=aw T.ok T.Bank_op rfl (cX (((mf T A (.var rfl) (by decide) rfl).idx (.var rfl) λ_ q=>dT A.nodes (mD O B) (td B O.nz) q).idx (w:=iv 0) .cst λ_ q=>(jh 0 _ rfl (by decide) rfl q)) q)
theorem jS(O:D.Ok)(h:i<D.n):∀k∈D.kids i,k<i:=(O.kids i _ (mD O h)).1
theorem jR(O:D.Ok)(h:i<D.n):(D.kids i).length<=2:=(O.kids i _ (mD O h)).2.2
theorem Fx{f:α->V}{l:List α}(h:l.length<=2):(l.map f).length<1000:=by rw[List.length_map];exact d9 h (by decide)
theorem Fb(T:Txt σ)(A:D.At H)(O:D.Ok)(B:a<D.n)(q:Q (.tup ((D.kids a).map iv)) H):MCall σ 1 "Bank" "kids" [.ref D.bp,iv a] H Q :=aw T.ok T.Bank_kids rfl (cX (kF ((mf T A (.var rfl) (by decide) rfl).idx (.var rfl) λ_ q=>dT A.nodes (mD O B) (td B O.nz) q) (Fx (jR O B))) q)
theorem BQ(T:Txt σ)(A:D.At H)(O:D.Ok)(q:Q (iv D.n) H):MCall σ 1 "Bank" "size" [.ref D.bp] H Q :=aw T.ok T.Bank_size rfl (cX (eG (mf T A (.var rfl) (by decide) rfl) A.nodes (j8 _) (Cv O.nz)) q)
theorem wc(T:Txt σ)(A:D.At H)(hl:D.par.length=k)(hk:k<=1000)(q:Q (iv k) H):MCall σ 1 "Unions" "size" [.ref D.up] H Q :=aw T.ok T.Unions_size rfl (cX (eG (kG T A (.var rfl) (by decide) rfl) A.par ((j8 _).trans hl) (b8 hk (by decide))) q)
theorem BS(T:Txt σ)(A:D.At H)(O:D.Ok)(q:Q (iv D.n) H):MCall σ 2 "Heap" "size" [.ref D.hp] H Q :=aw T.ok T.Heap_size rfl (cY (aW (gH T A (.var rfl) (by decide) rfl) A.bank rfl T.Bank_size.some .nil (BQ T A O q)))
theorem jL(T:Txt σ)(A:D.At H)(O:D.Ok)(B:a<D.n)(q:Q (iv (D.r a)) H):MCall σ 2 "Heap" "find" [.ref D.hp,iv a] H Q :=aw T.ok T.Heap_find rfl (cY (aW (gH T A (.var rfl) (by decide) rfl) A.uni rfl T.Unions_find.some (.cons (.var rfl) .nil) (qH T A O.u B q)))
theorem zr(T:Txt σ)(A:D.At H)(O:D.Ok)(G:a<D.n)(q:∀H',Ext H H'->Q (ak (D.canon a)) H'):MCall σ 3 "Heap" "node" [.ref D.hp,iv a] H Q:=by obtain F:=jR O G;obtain P:Ev σ (bf ["self","n"] [.ref D.hp,iv a]) H (.attr (.var "self") "bank") (.ref D.bp):=gH T A (.var rfl) (by decide) rfl;obtain hl:((D.kids a).map (λi=>iv (D.r i))).length<=2:=b8 (a8 (j8 _)) F;refine aw T.ok T.Heap_node rfl (cY (aW P A.bank rfl T.Bank_op.some (.cons (.var rfl) .nil) ((PF T A O G ?_).room (G3 1))));refine eA (uq (aW P A.bank rfl T.Bank_kids.some (.cons (.var rfl) .nil) ((Fb T A O G ?_).room (G3 1))));refine⟨b8 (a8 (j8 _)) (b8 F (by decide)),ni (src:=none) (D.kids a) iv (λi=>iv (D.r i)) trivial (d9 F (by decide)) (λi hi H' Z Y k=>aW (.var rfl) (A.ext Y).heap rfl T.Heap_find.some (.cons (.var rfl) .nil) (jL T (A.ext Y) O (m4 (jS O G i hi) G) (k H' (Ext.refl' _)))) λc H' x' _ J=>?_⟩;refine(iN _ J (b8 hl (by decide)) (b8 (A8 hl 1) (by decide)) ?_);obtain B:=q H' x';unfold ak HD.canon at B;rw[List.map_map]at B;exact B
end
end
theorem ng:∀(l m:List Nat),eT (l.map iv) (m.map iv)=true
 | [],m=>by cases m <;> rfl
 |_::_,[]=>rfl
 |a::l,b::m=>by show(true&&eT (l.map iv) (m.map iv))=true;rw[ng l m];rfl
theorem cQ{l:List Nat}(h:l.length<64):sortable (l.map iv):=by
 refine(mu (by simpa using h) (λx B=>?_) (.inr λx B=>?_) (λx B y F=>?_))
 ·obtain⟨i,_,rfl⟩:=b9.mp B;exact⟨rfl,m6 _⟩
 ·obtain⟨i,_,rfl⟩:=b9.mp B;rfl
 ·obtain⟨i,_,rfl⟩:=b9.mp B;obtain⟨j,_,rfl⟩:=b9.mp F;rfl
theorem pc{ws:List V}(p:vs.Perm ws)(hc:∀x∈vs,∀y∈vs,bS x y=true)(hs:ws.Pairwise λa b=>dP b a=false):aJ vs=ws :=dO ((ai vs).trans p) (λx B y F=>hc x ((ai vs).mem_iff.mp B) y ((ai vs).mem_iff.mp F)) (bZ vs hc) hs
theorem jB{l m:List Nat}(p:l.Perm m)(hs:m.Pairwise (·<=·)):aJ (l.map iv)=m.map iv:=by
 refine pc (p.map iv) (λx F y G=>?_) ?_
 ·refine af (b9.mp F) λi _ dj=>?_;subst dj;refine af (b9.mp G) λj _ B=>?_;subst B;rfl
 ·rw[List.pairwise_map];refine hs.imp λ{a b} h=>?_;simp only[dP,decide_eq_false_iff_not];exact Ks h
theorem oN{l:List Nd}(h:l.length<64):sortable (l.map ak):=by
 refine(mu (by simpa using h) (λx F=>?_) (.inr λx F=>?_) (λx F y Q=>?_))
 ·refine af (b9.mp F) λi _ J=>?_;subst J;obtain B:=fO i;exact⟨B.1,by rw[B.2.1];decide⟩
 ·refine af (b9.mp F) λi _ O=>?_;subst O;rfl
 ·refine af (b9.mp F) λi _ P=>?_;subst P;refine af (b9.mp Q) λj _ G=>?_;subst G;show(true&&eT (i.2.map iv) (j.2.map iv))=true;rw[ng];rfl
noncomputable def Ai(f:Nat->List V):V->List V:=λv=>match v with | .int i=>f i.toNat|_=>[]
theorem wO(f:Nat->List V)(i:Nat):Ai f (iv i)=f i:=rfl
theorem nW(f:Nat->List V)(l:List Nat):(l.map iv).flatMap (Ai f)=l.flatMap f:=by rw[List.flatMap_map];rfl
theorem gS{p:Nat->Prop}[DecidablePred p](f:Nat->β):∀(l:List Nat),l.flatMap (λa=>if p a then[f a]else[])=(l.filter λa=>decide (p a)).map f
 | []=>rfl
 |a::l=>by rw[List.flatMap_cons,gS f l,List.filter_cons];by_cases h:p a <;> simp[h]
def Lst(H:AH)(Q:V->AH->Prop)(vs:List V):Prop:=∀H' c,Ext H H'->H c=none->H' c=some (.list vs)->Q (.ref c) H'
theorem Lst.fresh{H:AH}{Q:V->AH->Prop}(h:Lst H Q vs):fresh H Q (.list vs):=λc hc=>h _ c (Ext.set _ hc) hc (AH.set_self _ _ _)
namespace HD
variable{D:HD}
theorem mem_len(c:Nat):(D.mem c).length<=D.n:=by obtain B:=p8 (λi=>decide (D.r i=c)) (List.range D.n);simpa[HD.mem]using B
theorem mem_lt(h:i∈D.mem c):i<D.n/\D.r i=c:=by unfold HD.mem at h;rw[List.mem_filter,List.mem_range]at h;exact⟨h.1,by simpa using h.2⟩
theorem mem_rise(c:Nat):(D.mem c).Pairwise (· < ·):=List.Pairwise.filter _ I3
theorem roots_rise:D.roots.Pairwise (· < ·):=List.Pairwise.filter _ I3
theorem roots_len:D.roots.length<=D.n:=by obtain B:=p8 (λi=>decide (D.r i=i)) (List.range D.n);simpa[HD.roots]using B
theorem mem_roots:i∈D.roots↔i<D.n/\D.r i=i:=by unfold HD.roots;rw[List.mem_filter,List.mem_range];simp
noncomputable def NN(D:HD)(c:Nat):List V:=aJ (aI ((D.mem c).map λi=>ak (D.canon i)))
end HD
section
variable{H:AH}{Q:V->AH->Prop}{D:HD}
theorem FN(O:D.Ok)(h:i<D.n):D.pr i=i↔D.r i=i:=by
 refine bQ (O.pr i h) λG J=>?_;refine⟨G,λe=>?_⟩;by_cases hp:D.pr i=i
 ·exact hp
 ·refine bQ (J hp) λF P=>?_;obtain B:=(O.rle (D.pr i) (FJ F h)).1;exact(Kt P e B F).elim
theorem Fw(O:D.Ok)(h:i<D.n):∃p,D.lots[i]?=some p:=by
 obtain B:i<D.lots.length:=by rw[O.llots];exact h
 exact⟨_,w1 B⟩
theorem jY{H:AH}(x:Ext H H'){c:Addr}(h:H' c=none):H c=none:=by
 rcases z:H c with _|o
 ·rfl
 ·exact nn h (x _ _ z)
theorem Fj{Q:Bool->AH->Prop}{H:AH}(k:Q (decide (i=j)) H):Q (decide ((i:Int)=(j:Int))) H:=by rw[show decide ((i:Int)=(j:Int))=decide (i=j)from decide_eq_decide.mpr ⟨Int.ofNat.inj,congrArg _⟩];exact k
theorem qR{K:rX->List V->AH->Prop}{a:Addr}(h:H a=some (.list vs))(hz:vs.length<=2^20)(k:K (some (a,vs)) vs H):jl (.ref a) H K:=(bb vs h hz k)
theorem PQ{f:α->V}{l:List α}{n:Nat}(h:l.length<=n)(B:n<=60):(l.map f).length<64:=by rw[List.length_map];exact d9 (b8 h B) (by decide)
theorem xR(T:Txt σ)(A:D.At H)(O:D.Ok)(B:a<D.n)(q:Lst H Q ((D.mem (D.r a)).map iv)):MCall σ 2 "Unions" "members" [.ref D.up,iv a] H Q:=by
 have F:=gJ O B;refine bR (Fw O F) λp hp=>?_;have P:=O.lots _ p hp (O.rle a B).2;refine aw T.ok T.Unions_members rfl (cY (eA (Bz (cB (kG T A (.var rfl) (by decide) rfl) (aW (.var rfl) A.uni rfl T.Unions_find.some (.cons (.var rfl) .nil) (qH T A O.u B (dT A.lots hp (td F O.nz) (.inl (bb _ (A.lot p (g9 hp)) ?_ ?_)))))))))
 ·exact cQ (d9 (b8 (b8 (a8 P.length_eq) (D.mem_len _)) O.nz) (by decide))
 ·rw[jB P ((D.mem_rise _).imp Nat.le_of_lt)];exact q.fresh
theorem mX(T:Txt σ)(A:D.At H)(O:D.Ok)(B:a<D.n)(q:Lst H Q ((D.mem (D.r a)).map iv)):MCall σ 3 "Heap" "members" [.ref D.hp,iv a] H Q :=aw T.ok T.Heap_members rfl (cY (aW (gH T A (.var rfl) (by decide) rfl) A.uni rfl T.Unions_members.some (.cons (.var rfl) .nil) (xR T A O B q)))
theorem qi(n:Nat):jw n=(List.range n).map iv:=rfl
theorem xP(T:Txt σ)(A:D.At H)(O:D.Ok)(q:Lst H Q (D.roots.map iv)):MCall σ 1 "Unions" "classes" [.ref D.up] H Q:=by
 refine aw T.ok T.Unions_classes rfl (cY (By (cB (eG (kG T A (.var rfl) (by decide) rfl) A.par ((j8 _).trans O.lpar) (Cv O.nz)) (iN (D.n:Int) rfl (u9 _) (N4.mpr (b8 O.nz (by decide))) ?_))));refine kz (src:=none) (List.range D.n) iv iv (λi=>decide (D.pr i=i)) trivial (by rw[List.length_range];exact d9 O.nz (by decide)) (λi hi H' F x k=>?_) (λi hi _ H' F x k=>(aa _ rfl (k H' (Ext.refl' _)))) λc H' x G h=>q H' c x G ?_
 ·have B:=j9.mp hi;exact EvT.cmp (((kG (f:="above") T (A.ext x) (.var rfl) (by decide) rfl).idx (.var rfl) λ_ q=>dT (A.ext x).par (gc 0 (by rw[O.lpar];exact B)) (td B O.nz) q)) (.var rfl) (λ_ q=>kE _ _ _ _ q) _ F (Fj k)
 ·rw[h];exact j6 (λl=>some (AO.list (l.map iv))) (p7 λi hi=>decide_eq_decide.mpr (FN O (j9.mp hi)))
theorem fW(T:Txt σ)(A:D.At H)(O:D.Ok)(q:Lst H Q (D.roots.map iv)):MCall σ 2 "Heap" "classes" [.ref D.hp] H Q :=aw T.ok T.Heap_classes rfl (cY (aW (gH T A (.var rfl) (by decide) rfl) A.uni rfl T.Unions_classes.some .nil (xP T A O q)))
theorem Lst.ext(q:Lst H Q vs)(x:Ext H H'):Lst H' Q vs:=λH2 c x2 B h=>q H2 c (x.trans' x2) (jY x B) h
theorem mY(T:Txt σ)(A:D.At H)(O:D.Ok)(P:a<D.n)(q:Lst H Q (D.NN (D.r a))):MCall σ 4 "Heap" "nodes_of" [.ref D.hp,iv a] H Q:=by
 obtain B:=D.mem_len (D.r a);refine aw T.ok T.Heap_nodes_of rfl (cY (eA (uq (aW (.var rfl) A.heap rfl T.Heap_members.some (.cons (.var rfl) .nil) (mX T A O P λH1 l J Y hl=>qR hl (j7 (m4 (PQ B O.nz) (by decide))) ?_)))));obtain G:=A.ext J;refine ni (D.mem (D.r a)) iv (λi=>ak (D.canon i)) hl (d9 (b8 B O.nz) (by decide)) (λi hi H' Q' x2 k=>aW (.var rfl) (G.ext x2).heap rfl T.Heap_node.some (.cons (.var rfl) .nil) (zr T (G.ext x2) O (HD.mem_lt hi).1 λH2 Z=>k H2 Z)) λc H' x' _ F=>?_;obtain e:(D.mem (D.r a)).map (λi=>ak (D.canon i))=((D.mem (D.r a)).map D.canon).map ak:=by rw[List.map_map];rfl
 refine(bb _ F (by rw[e];exact oN (d9 (b8 (a8 (j8 _)) (b8 B O.nz)) (by decide))) ((q.ext (J.trans' x')).fresh))
end
theorem dl{step:V->Loc->AH->(Fl->Loc->AH->Prop)->Prop}(I:List V->Loc->AH->Prop)(hs:∀xs l H,I xs l H->di src H)(B:∀x xs l H k,I (x::xs) l H->(∀l' H',I xs l' H'->k .next l' H')->step x l H k)(F:∀l H,I [] l H->K .next l H):∀xs l H,I xs l H->mh src step xs l H K
 | [],l,H,h=>⟨hs _ _ _ h,F l H h⟩
 |x::xs,l,H,h=>⟨hs _ _ _ h,B x xs l H _ h λl' H' h'=>dl I hs B F xs l' H' h'⟩
theorem jP{step:V->AH->(AH->Prop)->Prop}{K:AH->Prop}(I:List V->AH->Prop)(hs:∀xs H,I xs H->di src H)(B:∀x xs H k,I (x::xs) H->(∀H',I xs H'->k H')->step x H k)(F:∀H,I [] H->K H):∀xs H,I xs H->fu src step xs H K
 | [],H,h=>⟨hs _ _ h,F H h⟩
 |x::xs,H,h=>⟨hs _ _ h,B x xs H _ h λH' h'=>jP I hs B F xs H' h'⟩
noncomputable abbrev cD:=List (V×V)
noncomputable def Tabs(H:AH):List Addr->List cD->Prop
 | [],[]=>True
 |r::rs,t::ts=>H r=some (.dict t)/\Tabs H rs ts
 |_,_=>False
theorem Tabs.length{H:AH}:∀{rs:List Addr}{ts:List cD},Tabs H rs ts->rs.length=ts.length
 | [],[],_=>rfl
 |_::_,_::_,h=>by simp[Tabs.length h.2]
 | [],_::_,h=>h.elim
 |_::_,[],h=>h.elim
theorem Tabs.append{H:AH}:∀{rs B:List Addr}{ts F:List cD},Tabs H rs ts->Tabs H B F->Tabs H (rs++B) (ts++F)
 | [],_,[],_,_,h'=>h'
 |_::_,_,_::_,_,h,h'=>⟨h.1,h.2.append h'⟩
 | [],_,_::_,_,h,_=>h.elim
 |_::_,_,[],_,h,_=>h.elim
theorem Tabs.keep{H:AH}(k:∀a t,H a=some (.dict t)->H' a=some (.dict t)):∀{rs:List Addr}{ts:List cD},Tabs H rs ts->Tabs H' rs ts
 | [],[],_=>trivial
 |_::_,_::_,h=>⟨k _ _ h.1,Tabs.keep k h.2⟩
 | [],_::_,h=>h.elim
 |_::_,[],h=>h.elim
theorem Tabs.ext{H:AH}(x:Ext H H'){rs:List Addr}{ts:List cD}(h:Tabs H rs ts):Tabs H' rs ts:=h.keep λ_ _ e=>x _ _ e
theorem Tabs.setl{H:AH}{c:Addr}{ws:List V}(hc:H c=some (.list vs)){rs:List Addr}{ts:List cD}(h:Tabs H rs ts):Tabs (H.set c (.list ws)) rs ts:=h.keep λa t e=>by
 rw[AH.set_ne]
 ·exact e
 ·rintro rfl;rw[hc]at e;exact AO.noConfusion (c9 e)
noncomputable def nH(s:String):Bool:=s=="?x"||s=="?y"
noncomputable def dY(p:V):Bool:=match p with | .tup [.str s]=>nH s|_=>false
mutual
noncomputable def gD:V->Bool
 | .tup (.str op::ps)=>((nH op&&ps.isEmpty)||aR.contains op)&&decide (ps.length<=2)&&gk ps
 |_=>false
noncomputable def gk:List V->Bool
 | []=>true
 |p::ps=>gD p&&gk ps
end
mutual
noncomputable def nv:V->Nat
 | .tup (.str op::ps)=>if dY (.tup (.str op::ps))then 0 else 1+tt ps
 |_=>0
noncomputable def tt:List V->Nat
 | []=>0
 |p::ps=>nv p+tt ps
end
mutual
noncomputable def vl:V->Nat
 | .tup (.str op::ps)=>1+mn ps
 |_=>0
noncomputable def mn:List V->Nat
 | []=>0
 |p::ps=>vl p+mn ps
end
mutual
noncomputable def aC(N:Nat->List V):V->Nat->cD->List cD
 | .tup (.str op::ps),c,tb =>
  if dY (.tup (.str op::ps))then(if cM ((aA tb (.str op)).getD (iv c)) (iv c)then[dput tb (.str op) (iv c)]else[])
  else(N c).flatMap λnd=>match nd with
   | .tup (.str op'::ks)=>if op'=op/\ks.length=ps.length then bT N ps ks [tb]else[]
   |_=>[]
 |_,_,_=>[]
noncomputable def bT(N:Nat->List V):List V->List V->List cD->List cD
 |p::ps,.int k::ks,tbs=>bT N ps ks (tbs.flatMap λtb=>aC N p k.toNat tb)
 |_,_,tbs=>tbs
end
noncomputable def gI(N:Nat->List V)(op:String)(ps:List V)(tb:cD)(nd:V):List cD:=match nd with
 | .tup (.str op'::ks)=>if op'=op/\ks.length=ps.length then bT N ps ks [tb]else[]
 |_=>[]
theorem cr(N:Nat->List V){op:String}(h:dY (.tup (.str op::ps))=true)(c:Nat)(tb:cD):aC N (.tup (.str op::ps)) c tb=if cM ((aA tb (.str op)).getD (iv c)) (iv c)then[dput tb (.str op) (iv c)]else[]:=by unfold aC;rw[if_pos h]
theorem bA(N:Nat->List V){op:String}(h:dY (.tup (.str op::ps))=false)(c:Nat)(tb:cD):aC N (.tup (.str op::ps)) c tb=(N c).flatMap (gI N op ps tb):=by unfold aC;rw[if_neg (by rw[h];exact n7)];rfl
theorem bW(N:Nat->List V)(p:V)(ps:List V)(k:Nat)(ks:List V)(tbs:List cD):bT N (p::ps) (iv k::ks) tbs=bT N ps ks (tbs.flatMap λtb=>aC N p k tb):=by
 conv=>lhs;unfold bT
 rfl
theorem cE(N:Nat->List V)(ks:List V)(tbs:List cD):bT N [] ks tbs=tbs:=by rfl
theorem cu(f:α->List β)(m:Nat):∀(l:List α),(∀x∈l,(f x).length<=m)->(l.flatMap f).length<=l.length*m
 | [],_=>by simp
 |a::l,h=>by rw[List.flatMap_cons,List.length_append,List.length_cons,Nat.add_mul,Nat.one_mul];obtain B:=h a d6;obtain B:=cu f m l λx F=>h x (d7 _ F);exact Et (by assumption) B
theorem jZ{P:V->Prop}{Q:List V->Prop}(B:∀p,(∀op ps,p≠.tup (.str op::ps))->P p)(tup:∀op ps,Q ps->P (.tup (.str op::ps)))(nil:Q [])(cons:∀p ps,P p->Q ps->Q (p::ps))(p:V):P p :=
 V.rec (motive_1:=P) (motive_2:=λps=>Q ps/\Q ps.tail) (B _ λ_ _=>V.noConfusion) (B _ λ_ _=>V.noConfusion) (λ_=>B _ λ_ _=>V.noConfusion) (λ_=>B _ λ_ _=>V.noConfusion) (λ_=>B _ λ_ _=>V.noConfusion) (λvs h=>by
  rcases P7 (∃op ps,vs=.str op::ps)with⟨op,ps,e⟩|z
  ·rw[e]at h ⊢;exact tup op ps h.2
  ·exact B _ λop ps e=>z ⟨op,ps,V.tup.inj e⟩) (λ_=>B _ λ_ _=>V.noConfusion) ⟨nil,nil⟩ (λp ps a b=>⟨cons p ps a b.1,b.1⟩) p
theorem fE{N:Nat->List V}{p:V}(h:∀op ps,p≠.tup (.str op::ps))(c:Nat)(tb:cD):aC N p c tb=[]:=by
 unfold aC;split
 ·exact absurd rfl (h _ _)
 ·rfl
theorem dF(N:Nat->List V)(p:V)(ps:List V)(tbs:List cD):bT N (p::ps) [] tbs=tbs:=by rfl
theorem sL(N:Nat->List V)(p:V)(ps ks:List V)(tbs:List cD):(∃k B,bT N (p::ps) ks tbs=bT N ps B (tbs.flatMap λtb=>aC N p k tb))\/bT N (p::ps) ks tbs=tbs:=by
 rcases ks with _|⟨k,ks⟩
 ·exact .inr (dF N p ps tbs)
 ·cases k with
  |int i=>exact .inl ⟨i.toNat,ks,rfl⟩
  |_=>exact .inr rfl
theorem wn(N:Nat->List V)(op:String)(ps:List V)(tb:cD)(nd:V):(∃ks,gI N op ps tb nd=bT N ps ks [tb])\/gI N op ps tb nd=[]:=by
 unfold gI;split
 ·split
  ·exact .inl ⟨_,rfl⟩
  ·exact .inr rfl
 ·exact .inr rfl
theorem fF{N:Nat->List V}(hN:∀c,(N c).length<=60):∀(p:V)(c:Nat)(tb:cD),(aC N p c tb).length<=60^nv p :=
 have z (n:Nat):0<60^n:=O6 (by decide)
 jZ (Q:=λps=>∀(ks:List V)(tbs:List cD),(bT N ps ks tbs).length<=tbs.length*60^tt ps)
  (λp h c tb=>by rw[fE h];exact m6 _)
  (λop ps B c tb=>by
   rcases h:dY (.tup (.str op::ps))with _|_
   ·rw[bA N h,(by unfold nv;rw[if_neg (by rw[h];exact n7)]:nv (.tup (.str op::ps))=1+tt ps),Nat.pow_add];refine b8 (cu _ (60^tt ps) _ λnd _=>?_) (t0 _ (hN c));rcases wn N op ps tb nd with⟨ks,e⟩|e
    ·rw[e];exact b8 (B ks [tb]) (a8 (Nat.one_mul _))
    ·rw[e];exact m6 _
   ·rw[cr N h];refine b8 ?_ (z _);split <;> simp)
  (λks tbs=>by rw[cE];exact w9 _ (z _))
  (λp ps hp B ks tbs=>by
   rcases sL N p ps ks tbs with⟨k,F,e⟩|e
   ·rw[e,(by conv=>lhs;unfold tt:tt (p::ps)=nv p+tt ps),Nat.pow_add,<- Nat.mul_assoc];exact b8 (B F _) (t0 _ (cu _ _ tbs λx _=>hp k x))
   ·rw[e];exact w9 _ (z _))
variable{tb:cD}
structure TabI(k:Nat)(tb:cD):Prop where
 ent:∀p∈tb,(∃s,p.1=.str s)/\∃i:Nat,p.2=iv i
 len:tb.length<=k
theorem TabI.str(h:TabI k tb):bJ tb:=λp hp=>by refine bQ (h.ent p hp) λaP _=>?_;obtain⟨s,e⟩:=aP;rw[e];rfl
theorem TabI.fits(h:TabI k tb)(s:String):keyFits tb (.str s):=⟨C3,λp hp=>h.str p hp⟩
theorem nq{kvs:cD}{k v:V}{p:V×V}(h:p∈dput kvs k v):p∈kvs\/p=(k,v)\/∃q∈kvs,q.1=p.1/\p.2=v:=by
 unfold dput at h;split at h
 ·refine af (b9.mp h) λq hq e=>?_;by_cases hv:cM q.1 k=true
  ·rw[if_pos hv]at e;rw[<- e];exact .inr (.inr (bb q hq rfl rfl))
  ·rw[if_neg hv]at e;rw[<- e];exact .inl hq
 ·rcases l9.mp h with h|h
  ·exact .inl h
  ·exact .inr (.inl (j5.mp h))
theorem zD{kvs:cD}{k v:V}:(dput kvs k v).length<=kvs.length+1:=by unfold dput;split <;> simp
theorem TabI.put(h:TabI k tb)(s:String)(i:Nat):TabI (k+1) (dput tb (.str s) (iv i)):=by
 refine⟨λp hp=>?_,b8 zD (E0 h.len 1)⟩;rcases nq hp with h'|h'|⟨q,hq,e1,e2⟩
 ·exact h.ent p h'
 ·rw[h'];exact⟨⟨s,rfl⟩,i,rfl⟩
 ·exact⟨by rw[<- e1];exact(h.ent q hq).1,i,e2⟩
theorem TabI.mono{B:Nat}(h:TabI k tb)(q:k<=B):TabI B tb:=⟨h.ent,b8 h.len q⟩
theorem nu{N:Nat->List V}:∀(p:V)(c:Nat){k:Nat}{tb:cD},TabI k tb->∀t∈aC N p c tb,TabI (k+vl p) t :=
 jZ (Q:=λps=>∀(ks:List V){k:Nat}{tbs:List cD},(∀t∈tbs,TabI k t)->∀t∈bT N ps ks tbs,TabI (k+mn ps) t)
  (λp h c _ _ _ t B=>by rw[fE h]at B;exact absurd B i6)
  (λop ps J c k tb h t B=>by
   have hz:vl (.tup (.str op::ps))=1+mn ps:=by rfl
   rcases hv:dY (.tup (.str op::ps))with _|_
   ·rw[bA N hv]at B;refine af (q6.mp B) λnd _ B=>?_;rcases wn N op ps tb nd with⟨ks,e⟩|e
    ·rw[e]at B;exact(J ks (λu F=>j5.mp F▸h) t B).mono (Kv hz)
    ·rw[e]at B;exact absurd B i6
   ·rw[cr N hv]at B;split at B
    ·rw[List.mem_singleton.mp B];exact(h.put op c).mono (Ku hz)
    ·exact absurd B i6)
  (λks k tbs h t B=>by rw[cE]at B;exact(h t B).mono (m9 _ _))
  (λp ps hp J ks k tbs h t B=>by
   rcases sL N p ps ks tbs with⟨i,O,e⟩|e
   ·rw[e]at B;exact(J O (λu F=>af (q6.mp F) λtb G F=>hp i (h tb G) u F) t B).mono (Kw (by conv=>lhs;unfold mn))
   ·rw[e]at B;exact(h t B).mono (m9 _ _))
section
variable{H:AH}{Q:V->AH->Prop}{D:HD}
theorem uL(H:AH)(i j:String)(Q:Bool->Prop)(q:Q (decide (i=j))):eP H .eq (.str i) (.str j) Q:=(da (iF _) (iF _) (by rw[kj];exact q))
theorem BB{op:String}(h:gD (.tup (.str op::ps))=true):(nH op=true/\ps=[])\/op∈aR :=((Bool.or_eq_true _ _).mp (and_t (and_t h).1).1).imp (λa=>⟨(and_t a).1,B0.mp (and_t a).2⟩) λa=>List.contains_iff_mem.mp a
theorem qh{op:String}(h:gD (.tup (.str op::ps))=true):ps.length<=2/\gk ps=true:=⟨f8 (and_t (and_t h).1).2,(and_t h).2⟩
noncomputable def Rn(s:String):Bool:=decide (s∈mc)&&decide (decide (String.ofList (s.toList.take 1)="?")=nH s)
theorem Gy{op:String}(h:gD (.tup (.str op::ps))=true):Rn op=true:=by
 obtain k:∀s∈"?x"::"?y"::aR,Rn s=true:=q5.mp (by decide);rcases BB h with⟨a,_⟩|a
 ·rcases(Bool.or_eq_true _ _).mp a with a|a
  ·rw[eq_of_beq a];exact k _ d6
  ·rw[eq_of_beq a];exact k _ (d7 _ d6)
 ·exact k op (d7 _ (d7 _ a))
theorem pq(T:Txt σ){op:String}(h:gD (.tup (.str op::ps))=true)(q:Q (.bool (dY (.tup (.str op::ps)))) H):FCall σ 1 "is_variable" [.tup (.str op::ps)] H Q:=by
 obtain v:=and_t (Gy h);have hl:=(qh h).1;have B:=Ev.cmp (σ:=σ) (l:=bf ["t"] [.tup (.str op::ps)]) (H:=H) (op:=.eq) (e:=.prim .len (.var "t")) (e2:=.cst (iv 1)) ((Ev.var (v:=.tup (.str op::ps)) rfl).prim (p:=.len) (w:=iv (ps.length+1)) λ_ q=>⟨b8 (t8 hl) (by decide),q⟩) .cst λQ q=>uK q;refine dR T.ok T.is_variable rfl (cY (Bx (cB B (aa _ rfl ?_))));cases ps with
 |nil =>have F:Ev σ (bf ["t"] [.tup [.str op]]) H (.slc (.idx (.var "t") (.cst (iv 0))) none (some 1)) (.str (String.ofList (op.toList.take 1))):=λd Q q=>Ev.idx (v:=.tup [.str op]) (w:=iv 0) (u:=.str op) (.var rfl) .cst (λ_ q=>(jh 0 _ rfl (by decide) rfl q)) d _ (mu (f8 v.1) rfl rfl q);exact fI rfl (Ev.cmp (b:=nH op) (op:=.eq) (v:=.str (String.ofList (op.toList.take 1))) (w:=.str "?") F .cst (λQ q=>uL _ _ _ _ (by rw[of_decide_eq_true v.2];exact q)) _ _ q)
 |cons p ps=>exact fG (q7 (λz=>nomatch w2 z)) q
end
structure LI(l:Loc)(wk t fl:Addr)(pat:V)(op:String):Prop where
 self:l "self"=some (.ref wk)
 table:l "table"=some (.ref t)
 pattern:l "pattern"=some pat
 op:l "op"=some (.str op)
 found:l "found"=some (.ref fl)
theorem LI.put{t fl:Addr}{pat:V}{op:String}(h:LI l wk t fl pat op)(x:String)(v:V)(B:x∉["self","table","pattern","op","found"]):LI (l.put x v) wk t fl pat op:=by simp only[List.mem_cons,List.not_mem_nil,or_false,not_or]at B;refine ET B λa b c d e=>?_;exact⟨by rw[ju,if_neg (Ne.symm a)];exact h.self,by rw[ju,if_neg (Ne.symm b)];exact h.table,by rw[ju,if_neg (Ne.symm c)];exact h.pattern,by rw[ju,if_neg (Ne.symm d)];exact h.op,by rw[ju,if_neg (Ne.symm e)];exact h.found⟩
theorem ao(l:Loc)(x:String)(v:V):(l.put x v) x=some v:=by rw[ju,if_pos rfl]
theorem aj(l:Loc){x y:String}(v:V)(h:y≠x):(l.put x v) y=l y:=by rw[ju,if_neg h]
theorem bN(l:Loc){xs:List String}{y:String}(h:y∉".0"::xs):(l.drop xs) y=l y:=by rw[Cd,if_neg h]
theorem am{H:AH}{a b:Addr}{x:AO}(F:H a=some x)(B:H b=none):a≠b:=by rintro rfl;rw[F]at B;exact sn B
theorem tC{p:V}(h:gk (p::ps)=true):gD p=true/\gk ps=true:=by unfold gk at h;rw[Bool.and_eq_true]at h;exact h
theorem lW:∀{ps:List V}{m:Nat},br ps<=m->∀p∈ps,az p<=m
 | [],_,_,p,h=>nomatch h
 |q::ps,m,hm,p,h=>by
  rcases i8.mp h with e|h
  ·rw[e];exact FI hm
  ·exact lW (CI hm) p h
theorem zC{kvs:cD}{k v:V}(h:aA kvs k=some v):∃p∈kvs,p.2=v:=by unfold aA at h;refine af (m5.mp h) λp hp e=>?_;exact(aa p (List.mem_of_find?_eq_some hp) e)
theorem TabI.get(h:TabI k tb)(s:String)(c:Nat):∃i:Nat,(aA tb (.str s)).getD (iv c)=iv i:=by
 rcases e:aA tb (.str s)with _|v
 ·exact⟨c,rfl⟩
 ·refine af (zC e) λp hp e2=>?_;refine bQ (h.ent p hp) λ_ aP=>?_;refine bR aP λi hi=>?_;exact⟨i,by rw[<- hi,e2];rfl⟩
section
variable{D:HD}
theorem nV(h:x∈D.NN c):∃i,i∈D.mem c/\x=ak (D.canon i):=by unfold HD.NN at h;obtain B:=aK.mp ((ai _).mem_iff.mp h);refine af (b9.mp B) λi hi bx=>?_;subst bx;exact(aa i hi rfl)
theorem gL(O:D.Ok)(c:Nat):(D.NN c).length<=60:=by unfold HD.NN;rw[(ai _).length_eq];obtain B:=bI ((D.mem c).map λi=>ak (D.canon i));obtain F:=D.mem_len c;obtain G:D.n<=60:=O.nz;simp at B;exact Kx F B G
def GR(σ:Sx)(D:HD)(m:Nat)(p:V):Prop:=∀(H:AH)(Q:V->AH->Prop)(wk wd t:Addr)(tb:cD)(c k:Nat),D.At H->IsObj H wk "Walker" wd [("heap",.ref D.hp)]->gD p=true->H t=some (.dict tb)->TabI k tb->k+vl p<=500->60^nv p<=2^18 ->
  c<D.n->D.r c=c->(∀H' l rs,Ext H H'->H l=none->H' l=some (.list (rs.map V.ref))->Tabs H' rs (aC D.NN p c tb)->Q (.ref l) H')->MCall σ (4+m) "Walker" "extended" [.ref wk,.ref t,iv c,p] H Q
theorem Fa(T:Txt σ)(O:D.Ok){G:V}{tl:Addr}{kk k2:Nat}{rs2:List Addr}{tbs:List cD}{l':Loc}{Hc:AH}{Q:V->AH->Prop}(ih:GR σ D m G)(A:D.At Hc)(W:IsObj Hc wk "Walker" wd [("heap",.ref D.hp)])(hpat:gD G=true)(hself:l' "self"=some (.ref wk))(htab:l' "tables"=some (.ref tl))(hkid:l' "kid"=some (iv kk))(hpart:l' "part"=some G)(htl:Hc tl=some (.list (rs2.map V.ref)))(hT:Tabs Hc rs2 tbs)(hI:∀tb∈tbs,TabI k2 tb)(hk:k2+vl G<=500)(hb:tbs.length*60^nv G<=2^18)(hb2:60^nv G<=2^18)(hkn:kk<D.n)(hkr:D.r kk=kk)(q:∀H' c rs,Ext Hc H'->Hc c=none->H' c=some (.list (rs.map V.ref))->Tabs H' rs (tbs.flatMap λtb=>aC D.NN G kk tb)->Q (.ref c) H') : aS σ (4+m) (.comp (.var "late") (.more (.nm "one") (.exp (.var "tables")) (.one (.nm "late") (.exp (.meth (.var "self") "extended" (.cons (.var "one") (.cons (.var "kid") (.cons (.var "part") .nil))))) none))) l' Hc Q:=by
 obtain hl2:=hT.length;obtain hbl:tbs.length<=2^18:=b8 (w9 _ (O6 (by decide))) hb;refine(aa _ htab ⟨_,htl,by simp;exact Eu hl2 hbl,λc hc=>(aa c rfl ?_)⟩);obtain tot:(tbs.flatMap λtb=>aC D.NN G kk tb).length<=2^18:=b8 (cu _ (60^nv G) tbs λtb _=>fF (gL O) G kk tb) hb;refine jP (src:=some (tl,rs2.map V.ref)) (λzs H'=>Ext Hc H'/\∃rem trem rs done,zs=rem.map V.ref/\Tabs H' rem trem/\(∀tb∈trem,TabI k2 tb)/\H' c=some (.list (rs.map V.ref))/\Tabs H' rs done/\done++trem.flatMap (λtb=>aC D.NN G kk tb)=tbs.flatMap λtb=>aC D.NN G kk tb)
  (λzs H' h=>h.1 _ _ htl) (λx xs H' k h hk'=>?_) (λH' h=>?_) _ _ ⟨Ext.set _ hc,(Ru rs2 tbs ([]) ([]) rfl (hT.ext (Ext.set _ hc)) hI (AH.set_self _ _ _) trivial rfl)⟩
 ·refine bQ h λxe bK=>?_;refine Rq bK λrem trem rs done ez P hIr an ad Y=>?_;rcases rem with _|⟨r1,rem⟩
  ·simp at ez
  ·rcases trem with _|⟨ar,trem⟩
   ·exact P.elim
   ·simp only[List.map_cons,List.cons.injEq]at ez;obtain⟨rfl,rfl⟩:=ez;refine(aa _ rfl (aa _ ?_ (aa _ (aE (W.ext xe) rfl T.Walker_extended.some) (aa _ ?_ (aa _ ?_ (aa _ ?_ (ih _ _ _ _ _ _ _ _ (A.ext xe) (W.ext xe) hpat P.1 (hIr ar d6) hk hb2 hkn hkr λH3 l3 rs5 x3 hl3 e3 t5=>?_)))))))
    ·rw[aj _ _ (by decide),bN _ (by decide)];exact hself
    ·rw[ao]
    ·rw[aj _ _ (by decide),bN _ (by decide)];exact hkid
    ·rw[aj _ _ (by decide),bN _ (by decide)];exact hpart
    have Z:=t5.length;obtain hl5:(aC D.NN G kk ar).length<=2^18:=b8 (fF (gL O) G kk ar) hb2;obtain hd:=j6 List.length Y;simp only[List.length_append,List.flatMap_cons]at hd;have hrs:=ad.length;refine(bb _ e3 (by simp;exact Eu Z hl5) ?_);have hc3:=x3 _ _ an;refine jP (src:=some (l3,rs5.map V.ref)) (λws H4=>(∀a o,a≠c->H3 a=some o->H4 a=some o)/\∃B J,ws=B.map V.ref/\H4 c=some (.list ((rs++J).map V.ref))/\J++B=rs5)
     (λws H4 h=>h.1 _ _ (λz=>by rw[z,an]at hl3;exact sn hl3) e3) (λy ys H4 k4 h hk4=>?_) (λH4 h=>?_) _ _ ⟨λ_ _ _ e=>e,(bc rs5 ([]) rfl (by simpa using hc3) rfl)⟩
    ·obtain⟨xb,B,J,e6,hc6,F⟩:=h;rcases B with _|⟨r6,B⟩
     ·simp at e6
     ·simp only[List.map_cons,List.cons.injEq]at e6;obtain⟨rfl,rfl⟩:=e6;have hl6:=j6 List.length F;simp only[List.length_append,List.length_cons]at hl6;refine(aa _ rfl ?_);refine yT (fI rfl ?_);refine(aa _ (ao _ _ _) (bb _ hc6 (by simp;exact Ky hd hl6 Z hrs tot) (hk4 _ ⟨λa o ha e=>by rw[AH.set_ne _ _ ha];exact xb a o ha e,(bc B (J++[r6]) rfl ?_ (by simpa using F))⟩)));rw[AH.set_self];simp
    ·obtain⟨xb,B,J,e6,hc6,F⟩:=h
     have:B=[]:=by cases B with
      |nil=>rfl
      |cons _ _=>simp at e6
     subst this;rw[List.append_nil]at F;subst F;obtain kp:∀a t,H3 a=some (.dict t)->H4 a=some (.dict t):=λa t e=>xb a _ (λz=>by rw[z,hc3]at e;cases e) e;refine hk' _ ⟨λa o e=>xb a o (am e hc) ((xe.trans' x3) a o e),(Ru rem trem (rs++J) (done++aC D.NN G kk ar) rfl (((P.2).ext x3).keep kp) (λtb htb=>hIr tb (d7 _ htb)) hc6 ((ad.ext x3 |>.keep kp).append (t5.keep kp)) ?_)⟩;rw[List.append_assoc,<- List.flatMap_cons];exact Y
 ·refine bQ h λxe zq10=>?_;refine Rq zq10 λrem trem rs done ez P hIr an ad Y=>?_;obtain this:rem=[]:=by cases rem with
   |nil=>rfl
   |cons _ _=>simp at ez
  subst this;cases trem with
  |cons _ _=>exact P.elim
  |nil =>simp only[List.flatMap_nil,List.append_nil]at Y;subst Y;exact q H' c rs xe hc an ad
end
section
variable{t:Addr}
section
variable{D:HD}
theorem CH{op:String}(h:dY (.tup (.str op::ps))=false):nv (.tup (.str op::ps))=1+tt ps:=by unfold nv;rw[if_neg (by rw[h];exact n7)]
theorem AL(op:String)(ps:List V):vl (.tup (.str op::ps))=1+mn ps:=by rfl
theorem Al(p:V)(ps:List V):tt (p::ps)=nv p+tt ps:=by conv=>lhs;unfold tt
theorem yz(p:V)(ps:List V):mn (p::ps)=vl p+mn ps:=by conv=>lhs;unfold mn
theorem pS(N:Nat->List V)(op:String)(ps:List V)(tb:cD)(nd:Nd):gI N op ps tb (ak nd)=if nd.1=op/\nd.2.length=ps.length then bT N ps (nd.2.map iv) [tb]else[]:=by unfold gI ak;simp only[List.length_map]
structure KI(D:HD)(m:Nat)(wk t fl:Addr)(pat:V)(op:String)(goal:List cD)(H0 H:AH)(l:Loc)(ks:List Nat)(ps:List V)(tl:Addr)(rs:List Addr)(tbs:List cD)(k:Nat):Prop where
 li:LI l wk t fl pat op
 x:Ext H0 H
 len:ks.length=ps.length
 tab:l "tables"=some (.ref tl)
 htl:H tl=some (.list (rs.map .ref))
 T:Tabs H rs tbs
 ne:fl≠tl
 eq:bT D.NN ps (ks.map iv) tbs=goal
 b1:tbs.length*60^tt ps<=2^18
 b2:60^tt ps<=2^18
 I:∀tb∈tbs,TabI k tb
 hk:k+mn ps<=500
 ok:gk ps=true
 dep:∀p∈ps,az p<=m
 rt:∀k∈ks,k<D.n/\D.r k=k
def vV(σ:Sx)(D:HD)(m:Nat):Prop:=∀(p:V),az p<=m->GR σ D m p
theorem ym{op:String}(h:az (.tup (.str op::ps))<=m+1):br ps<=m:=b8 (E1 _ _) (I5 h)
noncomputable abbrev DK:List MS:=[.asg (.tg (.nm "tables")) (.comp (.var "late") (.more (.nm "one") (.exp (.var "tables")) (.one (.nm "late") (.exp (.meth (.var "self") "extended" (.cons (.var "one") (.cons (.var "kid") (.cons (.var "part") .nil))))) none)))]
theorem zG(T:Txt σ)(O:D.Ok)(ih:vV σ D m){fl:Addr}{pat:V}{op:String}{goal:List cD}(A:D.At H0)(W:IsObj H0 wk "Walker" wd [("heap",.ref D.hp)]){o:AO}(hf:H0 fl=some o)(q:∀l H tl rs,LI l wk t fl pat op->Ext H0 H->l "tables"=some (.ref tl)->H tl=some (.list (rs.map .ref))->fl≠tl->Tabs H rs goal->K .next l H) : ∀(ps:List V)(ks:List Nat)(l:Loc)(H:AH)(tl:Addr)(rs:List Addr)(tbs:List cD)(k:Nat),KI D m wk t fl pat op goal H0 H l ks ps tl rs tbs k->mh none (λv l H k=>∃l',bm (.tp2 (.nm "kid") (.nm "part")) v l=some l'/\aq σ (4+m) DK l' H k) (gC (ks.map iv) ps) l H K:=by
 intro ps;induction ps with
 |nil =>
  intro ks l H tl rs tbs k I;cases ks with
  |cons _ _=>exact Nat.noConfusion I.len
  |nil=>exact⟨trivial,q l H tl rs I.li I.x I.tab I.htl I.ne (by rw[<- I.eq,List.map_nil,cE];exact I.T)⟩
 |cons p ps P =>
  intro ks l H tl rs tbs k I;rcases ks with _|⟨G,ks⟩
  ·exact Nat.noConfusion I.len
  ·have b1:=I.b1;have b2:=I.b2;rw[Al,Nat.pow_add]at b1 b2;have hk:=I.hk;rw[yz,<- Nat.add_assoc]at hk;have B:0<60^tt ps:=O6 (by decide);have F:0<60^nv p:=O6 (by decide);have pp:=tC I.ok;obtain Z:=I.rt G d6;refine⟨trivial,(aa _ rfl (lZ (Fa T O (m:=m) (kk:=G) (k2:=k) (rs2:=rs) (tbs:=tbs) (l':=(l.put "kid" (iv G)).put "part" p) (ih p (I.dep p d6)) (A.ext I.x) (W.ext I.x) pp.1 I.li.self I.tab rfl rfl I.htl I.T I.I (b8 (m9 _ _) hk) ?_ (b8 (w9 _ B) b2) Z.1 Z.2 λH4 c4 Q x4 J e4 t4=>(aa _ rfl (P ks _ H4 c4 Q _ (k+vl p) ⟨((I.li.put "kid" _ (by decide)).put "part" _ (by decide)).put "tables" _ (by decide),I.x.trans' x4,w2 I.len,rfl,e4,t4,am (I.x _ _ hf) J,?_,?_,b8 (I4 _ F) b2,λtb h=>?_,hk,pp.2,λp h=>I.dep p (d7 _ h),λk h=>I.rt k (d7 _ h)⟩)))))⟩
   ·refine b8 ?_ b1;rw[<- Nat.mul_assoc];exact w9 _ B
   ·rw[<- I.eq];exact(bW D.NN p ps G (ks.map iv) tbs).symm
   ·refine b8 (t0 _ (cu _ (60^nv p) tbs λtb _=>fF (gL O) p G tb)) ?_;rw[Nat.mul_assoc];exact b1
   ·refine af (q6.mp h) λY h0 h1=>?_;exact nu p G (I.I Y h0) tb h1
theorem EvT.and{H:AH}{a b:ME}{x y:Bool}(B:EvT σ l H a x)(F:EvT σ l H b y):EvT σ l H (.and2 a b) (x&&y):=λd _ q=>B d _ (by cases x;exact fG rfl q;exact fI rfl (F d _ q))
theorem wm{H:AH}{e:ME}(B:Ev σ l H e (.tup vs))(hz:vs.length<=3):Ev σ l H (.prim .len e) (iv vs.length):=B.prim λ_ q=>⟨b8 hz (by decide),q⟩
noncomputable abbrev DO:List MS:=[.if1 (.and2 (.cmp1 .eq (.idx (.var "node") (.cst (.int 0))) (.var "op")) (.cmp1 .eq (.prim .len (.var "node")) (.prim .len (.var "pattern")))) [.asg (.tg (.nm "tables")) (.lst (.cons (.var "table") .nil)),.for1 (.tp2 (.nm "kid") (.nm "part")) (.zip (.slc (.var "node") (some 1) none) (.slc (.var "pattern") (some 1) none)) DK,.expr (.meth (.var "found") "extend" (.cons (.var "tables") .nil))] []]
theorem Cg(T:Txt σ)(O:D.Ok)(ih:vV σ D m){fl:Addr}{op:String}{H:AH}{rs:List Addr}{done:List cD}(A:D.At H)(W:IsObj H wk "Walker" wd [("heap",.ref D.hp)])(Z:i<D.n)(li:LI l wk t fl (.tup (.str op::ps)) op)(ht:H t=some (.dict tb))(hI:TabI k tb)(hk:k+mn ps<=500)(hb:60^tt ps<=2^18)(an:ps.length<=2)(hps:gk ps=true)(hd:br ps<=m)(hf:H fl=some (.list (rs.map V.ref)))(hT:Tabs H rs done)(hz:done.length+(gI D.NN op ps tb (ak (D.canon i))).length<=2^18)(q:∀l' H' rs',LI l' wk t fl (.tup (.str op::ps)) op->(∀a o,a≠fl->H a=some o->H' a=some o)->H' fl=some (.list (rs'.map V.ref))->Tabs H' rs' (done++gI D.NN op ps tb (ak (D.canon i)))->K .next l' H') : aq σ (4+m) DO (l.put "node" (ak (D.canon i))) H K:=by
 obtain ad:=jR O Z;have G:=li.put "node" (ak (D.canon i)) (by decide);obtain node:∀{H:AH},Ev σ (l.put "node" (ak (D.canon i))) H (.var "node") (ak (D.canon i)):=.var (ao _ _ _);have F:((D.canon i).2.map iv).length=(D.kids i).length:=(j8 _).trans (j8 _);have cm:EvT σ (l.put "node" (ak (D.canon i))) H (.and2 (.cmp1 .eq (.idx (.var "node") (.cst (.int 0))) (.var "op")) (.cmp1 .eq (.prim .len (.var "node")) (.prim .len (.var "pattern")))) _ :=EvT.and (EvT.cmp (node.idx (w:=iv 0) .cst λ_ q=>(jh 0 (.str (D.op i)) rfl (by decide) rfl q)) (.var G.op) λQ q=>uL _ _ _ Q q) (EvT.cmp (wm (vs:=.str (D.canon i).1::(D.canon i).2.map iv) node (t8 (by rw[F];exact ad))) (wm (.var G.pattern) (t8 an)) λQ q=>uK q)
 have P:(op=(D.canon i).1->¬(D.canon i).2.length=ps.length)->K .next (l.put "node" (ak (D.canon i))) H:=λh=>by
  obtain e:gI D.NN op ps tb (ak (D.canon i))=[]:=by rw[pS,if_neg λz=>h z.1.symm z.2]
  exact q _ H rs G (λ_ _ _ e=>e) hf (by rw[e,List.append_nil];exact hT)
 by_cases J:D.op i=op
 ·by_cases B:(D.kids i).length=ps.length
  ·have hx:gI D.NN op ps tb (ak (D.canon i))=bT D.NN ps (((D.kids i).map D.r).map iv) [tb]:=by rw[pS];rw(config:={}) [if_pos ⟨J,(j8 _).trans B⟩];rfl
   rw[decide_eq_true J,decide_eq_true (show(V.str (D.canon i).1::(D.canon i).2.map iv).length=(V.str op::ps).length from congrArg (· + 1) (F.trans B))]at cm;refine jx cm (lZ (jC (fS (cB (.var G.table) λtl htl=>(aa _ rfl ?_)))));have x0:Ext H (H.set tl (.list [.ref t])):=Ext.set _ htl;obtain hfl:fl≠tl:=am hf htl;obtain nd2:Ev σ ((l.put "node" (ak (D.canon i))).put "tables" (.ref tl)) (H.set tl (.list [.ref t])) (.var "node") (ak (D.canon i)):=.var rfl;obtain li2:=G.put "tables" (.ref tl) (by decide);refine GB (kF nd2 (by rw[F];exact d9 ad (by decide))) (kF (.var li2.pattern) (d9 an (by decide))) (by rw[F];exact b8 ad (by decide)) (b8 an (by decide)) ?_;refine zG T O ih (goal:=gI D.NN op ps tb (ak (D.canon i))) (A.ext x0) (W.ext x0) (x0 _ _ hf) (λl2 H2 tl2 rs2 li3 x2 htb htl2 hne T2=>?_) ps ((D.kids i).map D.r) _ _ tl [t] [tb] k ⟨li2,Ext.refl' _,(j8 _).trans B,rfl,AH.set_self _ _ _,⟨x0 _ _ ht,trivial⟩,hfl,hx.symm,by rw[List.length_singleton,Nat.one_mul];exact hb,hb,λtb' h'=>by rw[List.mem_singleton.mp h'];exact hI,hk,hps,lW hd,λk hk=>?_⟩
   ·obtain hf2:=x2 _ _ (x0 _ _ hf);obtain h1:=hT.length;obtain h2:=T2.length;refine vO (.var li3.found) hf2 (.var htb) htl2 hne ?_ (q _ _ (rs++rs2) li3 (λa o ha e=>(AH.set_ne _ _ ha).trans (x2 _ _ (x0 _ _ e))) ((AH.set_self _ _ _).trans (by rw[List.map_append])) ((((hT.ext x0).ext x2).append T2).setl hf2));rw[List.length_map,List.length_map,h1,h2];exact b8 hz (by decide)
   ·refine af (b9.mp hk) λk0 hk0 aP=>?_;subst aP;obtain Y:=m4 (jS O Z k0 hk0) Z;exact⟨gJ O Y,(O.rle k0 Y).2⟩
  ·rw[decide_eq_false (show ¬(V.str (D.canon i).1::(D.canon i).2.map iv).length=(V.str op::ps).length fromλz=>B (F.symm.trans (Nat.succ.inj z))),Bool.and_false]at cm;exact gu cm (P λ_ z=>B ((j8 _).symm.trans z))
 ·rw[decide_eq_false J,Bool.false_and]at cm;exact gu cm (P λz=>absurd z.symm J)
theorem Ch(T:Txt σ){d:Nat}{op:String}{H:AH}{Q:V->AH->Prop}(ho:l "op"=some (.str op))(hc:l "c"=some (iv c))(G:l "table"=some (.ref t))(Z:H t=some (.dict tb))(P:TabI k tb)(hk:k<=500)(q:∀H' l rs,Ext H H'->H l=none->H' l=some (.list (rs.map V.ref))->Tabs H' rs (if cM ((aA tb (.str op)).getD (iv c)) (iv c)then[dput tb (.str op) (iv c)]else[])->Q (.ref l) H') : aq σ d [.asg (.tg (.nm "late")) (.prim .dict (.var "table")),.asg (.ix (.var "late") (.var "op")) (.var "c"),.ret (.ite (.cmp1 .eq (.meth (.var "table") "get" (.cons (.var "op") (.cons (.var "c") .nil))) (.var "c")) (.lst (.cons (.var "late") .nil)) (.lst .nil))] l H (mO Q):=by
 have B:tb.length<=500:=b8 P.len hk;refine lZ (eA (cB (.var G) (iN _ Z P.str (b8 B (by decide)) (λlt J=>(aa _ rfl ?_)))));obtain hne:t≠lt:=am Z J;refine vP (.var ((aj _ _ (by decide)).trans hc)) (.var (ao _ _ _)) (.var ((aj _ _ (by decide)).trans ho)) (AH.set_self _ _ _) (P.fits op) (d9 B (by decide)) ?_;obtain Y:Ext H ((H.set lt (.dict tb)).set lt (.dict (dput tb (.str op) (iv c)))):=(Ext.set _ J).setc J _;obtain ad:((H.set lt (.dict tb)).set lt (.dict (dput tb (.str op) (iv c)))) lt=some (.dict (dput tb (.str op) (iv c))):=AH.set_self _ _ _;generalize (H.set lt (.dict tb)).set lt (.dict (dput tb (.str op) (iv c)))=H1 at *;obtain⟨i,hi⟩:=P.get op c;rw[hi,cI]at q;obtain O:∀r,H1 r=none->H r=none:=λr F=>jY Y F;refine cY (GF (kl (k:=.dict) (.var ((aj _ _ (by decide)).trans G)) ⟨by decide,t,tb,rfl,Y _ _ Z⟩ (.cons (.var ((aj _ _ (by decide)).trans ho)) (.cons (.var ((aj _ _ (by decide)).trans hc)) .nil)) (bc t tb rfl (Y _ _ Z) (.inl ⟨rfl,(bc _ _ rfl (P.fits op) ?_)⟩))));rw[hi];refine cB (.var ((aj _ _ (by decide)).trans hc)) (kE _ _ _ _ ?_);cases hd:decide ((i:Int)=(c:Int))with
 |true =>rw[hd,if_pos rfl]at q;exact fI rfl (jC (fS (cB (.var (ao _ _ _)) λr F=>q _ r [lt] (Y.trans' (Ext.set _ F)) (O r F) (AH.set_self _ _ _) ⟨(Ext.set _ F) _ _ ad,trivial⟩)))
 |false =>rw[hd,if_neg Bool.false_ne_true]at q;exact fG rfl (jC (xF λr F=>q _ r [] (Y.trans' (Ext.set _ F)) (O r F) (AH.set_self _ _ _) trivial))
theorem xY(T:Txt σ)(O:D.Ok)(ih:vV σ D m){fl s:Addr}{op:String}(A:D.At H0)(W:IsObj H0 wk "Walker" wd [("heap",.ref D.hp)])(ht:H0 t=some (.dict tb))(hI:TabI k tb)(hk:k+mn ps<=500)(hb:60^tt ps<=2^18)(Z:ps.length<=2)(ad:gk ps=true)(hd:br ps<=m)(Q:H0 fl=none)(hs:fl≠s)(hz:((D.NN c).flatMap (gI D.NN op ps tb)).length<=2^18)(q:∀l H rs,LI l wk t fl (.tup (.str op::ps)) op->Ext H0 H->H fl=some (.list (rs.map .ref))->Tabs H rs ((D.NN c).flatMap (gI D.NN op ps tb))->K .next l H) : ∀(xs:List V)(l:Loc)(H:AH)(rs:List Addr)(done:List cD),(∀x∈xs,x∈D.NN c)->LI l wk t fl (.tup (.str op::ps)) op->Ext H0 H->H s=some (.list (D.NN c))->H fl=some (.list (rs.map .ref))->Tabs H rs done->done++xs.flatMap (gI D.NN op ps tb)=(D.NN c).flatMap (gI D.NN op ps tb) -> mh (some (s,D.NN c)) (λv l H k=>∃l',bm (.nm "node") v l=some l'/\aq σ (4+m) DO l' H k) xs l H K:=by
 intro xs;induction xs with
 |nil=>exactλl H rs done _ li x F J hT e=>⟨F,q l H rs li x J (by rw[<- e,List.flatMap_nil,List.append_nil];exact hT)⟩
 |cons v xs an =>intro l H rs done hm li x F J hT e;refine af (nV (hm v d6)) λi Y bx=>?_;subst bx;rw[List.flatMap_cons,<- List.append_assoc]at e;refine⟨F,(aa _ rfl (Cg T O ih (A.ext x) (W.ext x) (HD.mem_lt Y).1 li (x _ _ ht) hI hk hb Z ad hd J hT ?_ λl' H' av ar fr P G=>an l' H' av _ (λz h=>hm z (d7 _ h)) ar (λa o e=>fr a o (λz=>nn Q (z▸e)) (x _ _ e)) (fr _ _ hs.symm F) P G e))⟩;obtain B:=j6 List.length e;rw[List.length_append,List.length_append]at B;exact b8 (b8 (m9 _ _) (a8 B)) hz
theorem xc{p:V}(h:gD p=true):∃op ps,p=.tup (.str op::ps):=by
 cases p with
 |tup vs =>
  rcases vs with _|⟨v,vs⟩
  ·exact ag h
  ·cases v <;> first|exact(vU _ _ rfl)|exact ag h
 |_=>exact ag h
theorem uG(T:Txt σ)(O:D.Ok):∀(m:Nat),vV σ D m:=by
 intro m;induction m with
 |zero =>intro p hp H Q wk wd t tb c k A W B;refine rY (xc B) λop ps bK=>?_;subst bK;exact absurd hp (Nat.not_succ_le_zero _)
 |succ m ih =>
  intro p hp H Q wk wd t tb c k A W B ht Z hk P hc hr q;refine rY (xc B) λop ps cC=>?_;subst cC;obtain pp:=qh B;have Y:k<=500:=b8 (m9 _ _) hk;have pat:∀{H:AH},Ev σ (bf ["self","table","c","pattern"] [.ref wk,.ref t,iv c,.tup (.str op::ps)]) H (.var "pattern") (.tup (.str op::ps)):=.var rfl;refine aw (d:=4+m) T.ok T.Walker_extended rfl (vJ (pat.idx (w:=iv 0) .cst λ_ q=>(jh 0 (.str op) rfl (by decide) rfl q)) (Pm (.cons (.var rfl) .nil) ((pq T B ⟨_,rfl,?_⟩).room (b8 (by decide) (m9 4 m)))));cases hv:dY (.tup (.str op::ps))with
  |true=>exact fI rfl (Ch T rfl rfl rfl ht Z Y (by rw[<- cr D.NN hv];exact q))
  |false =>
   obtain G:=CH hv;rw[G,Nat.pow_add]at P;rw[AL,<- Nat.add_assoc]at hk;obtain tgt:aC D.NN (.tup (.str op::ps)) c tb=(D.NN c).flatMap (gI D.NN op ps tb):=bA D.NN hv c tb;refine fG rfl (lZ (jC (xF λfl F=>(aa _ rfl ?_))));obtain J:Ext H (H.set fl (.list [])):=Ext.set _ F;refine xB (aW ((Ev.var rfl).attr (W.ext J) (by rw[T.fWalker];exact j5.mpr rfl) rfl) (A.ext J).heap rfl T.Heap_nodes_of.some (.cons (.var rfl) .nil) ((mY T (A.ext J) O hc λH2 s x2 hs e2=>?_).room (m9 4 m)));rw[hr]at e2;refine qR e2 (b8 (gL O c) (by decide)) (xY T O ih A W ht Z (b8 (E0 (G3 k) _) hk) (b8 (I4 _ (by decide)) P) pp.1 pp.2 (ym hp) F (am (AH.set_self _ _ _) hs) ?_ (λl H' rs li x hf hT=>?_) (D.NN c) _ H2 [] [] (λ_ h=>h) ⟨rfl,rfl,rfl,rfl,rfl⟩ (J.trans' x2) e2 (x2 _ _ (AH.set_self _ _ _)) trivial rfl)
   ·rw[<- tgt];exact b8 (fF (gL O) _ _ _) (by rw[G,Nat.pow_add];exact P)
   ·exact cX (.var li.found) (q H' fl rs x F hf (by rw[tgt];exact hT))
end
end
section
variable{ks:List V}
def ExtB(c:Addr)(H H':AH):Prop:=∀a o,a≠c->H a=some o->H' a=some o
theorem ExtB.set{c:Addr}{H:AH}(x:ExtB c H H')(o:AO):ExtB c H (H'.set c o):=λa y B e=>by rw[AH.set_ne _ _ B];exact x a y B e
theorem ss{step:V->AH->(AH->Prop)->Prop}{c:Addr}(f:V->V){H3:AH}(hsrc:∀H,ExtB c H3 H->di src H):∀(xs ws:List V)(H:AH){K:AH->Prop},ExtB c H3 H->H c=some (.list ws)->ws.length+xs.length<2^20 ->(∀x∈xs,∀(H':AH)(ws':List V)(k:AH->Prop),ExtB c H3 H'->H' c=some (.list ws')->ws'.length<2^20->k (H'.set c (.list (ws'++[f x])))->step x H' k) ->(∀H',ExtB c H3 H'->H' c=some (.list (ws++xs.map f))->K H')->fu src step xs H K
 | [],ws,H,K,x,hc,hl,hs,B=>⟨hsrc H x,B H x (by simpa using hc)⟩
 |v::vs,ws,H,K,x,hc,hl,hs,B=>by simp only[List.length_cons]at hl;refine⟨hsrc H x,hs v d6 H ws _ x hc (Kz hl) ?_⟩;refine ss f hsrc vs (ws++[f v]) _ (x.set _) (AH.set_self _ _ _) (by simp;exact KA hl) (λy G=>hs y (d7 _ G)) λH' x' F=>B H' x' ?_;rw[F];simp
noncomputable def aT(tb:cD):V:=.tup (aJ (bq tb))
def itemOK(v:V):Prop:=∃(s:String)(i:Nat),v=.tup [.str s,iv i]
theorem itemOK.cmp{y:V}(B:itemOK x)(F:itemOK y):bS x y=true:=by refine rY B λs i aP=>?_;subst aP;refine rY F λt j bx=>?_;subst bx;rfl
theorem itemOK.key(B:itemOK x):aO x=true/\az x=1/\fx x=true:=by refine rY B λs i bK=>?_;subst bK;exact(da rfl rfl rfl)
theorem TabI.items(h:TabI k tb):∀x∈bq tb,itemOK x:=λx B=>by refine af (b9.mp B) λp hp cC=>?_;subst cC;obtain⟨⟨s,e1⟩,i,e2⟩:=h.ent p hp;exact(vU s i (by rw[e1,e2]))
theorem TabI.sort(h:TabI k tb)(hk:k<64):sortable (bq tb) :=(mu (by unfold bq;rw[List.length_map];exact d9 h.len hk) (λx B=>⟨(h.items x B).key.1,by rw[(h.items x B).key.2.1];decide⟩) (.inr λx B=>(h.items x B).key.2.2) (λx B y F=>(h.items x B).cmp (h.items y F)))
theorem jm:∀{l:List V},(∀x∈l,aO x=true)->bG l=true
 | [],_=>rfl
 |x::l,h=>by unfold bG;rw[h x List.mem_cons_self,jm λy B=>h y (List.mem_cons_of_mem _ B)];rfl
theorem ft{n:Nat}:∀{l:List V},(∀x∈l,az x<=n)->br l<=n
 | [],_=>m6 _
 |x::l,h=>by obtain B:=h x d6;obtain B:=ft (n:=n) λy F=>h y (d7 _ F);exact KB (by assumption) B
theorem pN:∀{l m:List V},(∀x∈l,itemOK x)->(∀x∈m,itemOK x)->eT l m=true
 | [],m,_,_=>by cases m <;> rfl
 |_::_,[],_,_=>rfl
 |x::l,y::m,B,F=>by unfold eT;rw[(B x List.mem_cons_self).cmp (F y List.mem_cons_self),pN (λz hz=>B z (List.mem_cons_of_mem _ hz)) λz hz=>F z (List.mem_cons_of_mem _ hz)];rfl
def substOK(v:V):Prop:=∃l,v=.tup l/\∀x∈l,itemOK x
theorem TabI.subst(h:TabI k tb):substOK (aT tb):=(aa _ rfl (λx B=>h.items x ((ai _).mem_iff.mp B)))
theorem substOK.key{v:V}(h:substOK v):aO v=true/\az v<=2/\cW v=2:=by
 refine af h λl G hl=>?_;subst G;obtain J:aO (.tup l)=true:=by unfold aO;exact jm λx F=>(hl x F).key.1
 have O:az (.tup l)<=2:=by unfold az;obtain B:=ft (n:=1) λx F=>a8 (hl x F).key.2.1;exact KC B
 exact(da J O (by rw[gY,J,decide_eq_true (KD O:az (.tup l)<=8)];rfl))
theorem substOK.cmp{v w:V}(h:substOK v)(g:substOK w):bS v w=true:=by refine af h λl B hl=>?_;subst B;refine af g λm F hm=>?_;subst F;unfold bS;exact pN hl hm
noncomputable def fV(ks:List V)(k:V):List V:=if oX k ks then ks else ks++[k]
theorem oY{k:V}:oX k ks=true↔k∈ks:=by
 delta oX;rw[List.any_eq_true];constructor
 ·rintro⟨x,B,e⟩;rw[bt]at e;subst e;exact B
 ·intro h;exact(aa k h (bo k))
theorem xW(ks:List V)(k u:V):dput (ks.map λk=>(k,u)) k u=(fV ks k).map λk=>(k,u):=by
 unfold dput fV;have e:(ks.map λk=>(k,u)).any (λp=>cM p.1 k)=oX k ks:=by unfold oX;rw[List.any_map];rfl
 rw[e];cases oX k ks with
 |true =>simp only[if_true,List.map_map];apply o7;intro x _;show(if cM x k=true then(x,u)else(x,u))=(x,u);split <;> rfl
 |false=>simp
theorem mT{k:V}:x∈fV ks k↔x∈ks\/x=k:=by
 unfold fV;cases h:oX k ks with
 |true =>
  have:=oY.mp h
  exact⟨.inl,λz=>z.elim id λe=>e▸this⟩
 |false=>simp
theorem qD(h:ks.Nodup)(k:V):(fV ks k).Nodup:=by
 unfold fV;cases e:oX k ks with
 |true=>exact h
 |false =>rw[if_neg Bool.false_ne_true];rw[List.nodup_append];refine(da h (by simp) (λx B y F=>?_));rw[List.mem_singleton.mp F];rintro rfl;rw[oY.mpr B]at e;exact FE e
theorem ux(ks:List V)(k:V):(fV ks k).length<=ks.length+1:=by unfold fV;split <;> simp
noncomputable def bX(D:HD)(p:V)(c:Nat):List V:=aJ (aI ((aC D.NN p c []).map aT))
section
variable{D:HD}
structure FIn(sp:Addr)(H2:AH)(ts:List cD)(l:Loc)(H:AH)(rem:List Addr)(trem:List cD)(ks:List V):Prop where
 hs:l "substs"=some (.ref sp)
 xb:ExtB sp H2 H
 hT:Tabs H2 rem trem
 hm:∀tb∈trem,tb∈ts
 hd:H sp=some (.dict (ks.map λk=>(k,V.bool true)))
 hnd:ks.Nodup
 hok:∀k∈ks,substOK k
 hl:ks.length+trem.length<=ts.length
 iff:∀x,(x∈ks\/x∈trem.map aT)↔x∈ts.map aT
theorem Fo{H:AH}{sp r:Addr}{H2:AH}{ts:List cD}{rem:List Addr}{trem:List cD}{d:Nat}(h:FIn sp H2 ts l H (r::rem) (tb::trem) ks)(Y:H2 sp=some (.dict []))(hI:∀tb∈ts,TabI 60 tb)(P:∀tb∈ts,fx (aT tb)=true)(hz:ts.length<=2^18)(hk:∀l' H' ks',FIn sp H2 ts l' H' rem trem ks'->aq σ d rest l' H' K):aq σ d (.asg (.ix (.var "substs") (.prim .tuple (.prim .sortedItems (.var "table")))) (.cst (.bool true))::rest) (l.put "table" (.ref r)) H K:=by
 have B:=hI tb (h.hm tb d6);obtain ad:H r=some (.dict tb):=by
  by_cases z:r=sp
  ·have:=h.hT.1
   rw[z,Y]at this;have e2:[]=tb:=AO.dict.inj (c9 this)
   have:=P tb (h.hm tb d6)
   rw[<- e2]at this;exact absurd this (by decide)
  ·exact h.xb _ _ z h.hT.1
 refine(aa _ ((aj _ _ (by decide)).trans h.hs) (aa _ (ao _ _ _) ⟨tb,ad,B.str,B.sort (by decide),λs1 J=>?_⟩));obtain Q:sp≠s1:=λz=>by rw[<- z,h.hd]at J;exact sn J
 have O:(aJ (bq tb)).length<=16384:=by rw[(ai _).length_eq];exact KK (B.sort (by decide)).1
 have G:=B.subst;have Z:keyFits (ks.map λk=>(k,V.bool true)) (aT tb):=⟨by rw[G.key.2.2];decide,λq hq=>af (b9.mp hq) λk' F zq=>by subst zq;rw[G.key.2.2];exact(h.hok k' F).key.2.2⟩
 have hl:=h.hl;rw[List.length_cons]at hl;refine(bb _ (AH.set_self _ _ _) O (aa sp rfl (.inr (iN _ ((AH.set_ne _ _ Q).trans h.hd) Z (by rw[List.length_map];exact o6 (o6 (d9 (m9 _ _) (y5 _)) hl) (b8 hz (by decide))) (hk _ _ (fV ks (aT tb)) ⟨(aj _ _ (by decide)).trans h.hs,λa o ha e=>?_,h.hT.2,λtb' h'=>h.hm tb' (d7 _ h'),?_,qD h.hnd _,λk' F=>?_,?_,λx=>?_⟩)))))
 ·rw[AH.set_ne _ _ ha];exact(Ext.set _ J) _ _ (h.xb a o ha e)
 ·rw[AH.set_self,xW];rfl
 ·exact(mT.mp F).elim (h.hok k') λh=>h▸G
 ·exact KL hl (ux ks (aT tb))
 ·rw[<- h.iff x,mT,List.map_cons,List.mem_cons,or_assoc]
theorem uH(T:Txt σ)(O:D.Ok){p:V}(hp:az p<=m){H:AH}{Q:V->AH->Prop}(A:D.At H)(W:IsObj H wk "Walker" wd [("heap",.ref D.hp)])(hpat:gD p=true)(hz:vl p<60)(hb:60^nv p<=2^18)(hc:c<D.n)(hcnt:(aI ((aC D.NN p (D.r c) []).map aT)).length<64)(Y:∀tb∈aC D.NN p (D.r c) [],fx (aT tb)=true)(q:Lst H Q (bX D p (D.r c))):MCall σ (5+m) "Walker" "found_in" [.ref wk,iv c,p] H Q:=by
 refine(aw (d:=4+m) T.ok T.Walker_found_in rfl ?_).room KE;have J:∀{P:V×V->Prop},∀p∈([]:List (V×V)),P p:=λ_ h=>absurd h i6;refine⟨dictOK.nil,J,rfl,by decide,λsp G=>⟨_,rfl,_,rfl,_,aE (W.ext (Ext.set _ G)) rfl T.Walker_extended.some,dictOK.nil,J,rfl,by decide,λtp htp=>?_⟩⟩;obtain x1:Ext H ((H.set sp (.dict [])).set tp (.dict [])):=(Ext.set _ G).trans' (Ext.set _ htp);have hst:tp≠sp:=λz=>by rw[z,AH.set_self]at htp;exact sn htp
 refine(aa _ rfl (jG (W.ext x1) (by rw[T.fWalker];simp) rfl (aa _ (aE (A.ext x1).heap rfl T.Heap_find.some) (aa _ rfl ((jL T (A.ext x1) O hc ⟨_,rfl,?_⟩).room KF)))));refine uG T O m p hp _ _ _ _ _ _ _ 0 (A.ext x1) (W.ext x1) hpat (AH.set_self _ _ _) ⟨J,f7 _⟩ (KG hz) hb (gJ O hc) (O.rle c hc).2 λH2 l rs x2 hl el tl=>?_;have hlen:=tl.length;have hts:(aC D.NN p (D.r c) []).length<=2^18:=b8 (fF (gL O) p (D.r c) []) hb;have hI:∀tb∈aC D.NN p (D.r c) [],TabI 60 tb:=λtb htb=>(nu p (D.r c) (k:=0) (tb:=[]) ⟨J,f7 _⟩ tb htb).mono (KH hz);refine(bb _ el (by rw[List.length_map];exact KJ (fF (gL O) p (D.r c) []) hlen hb) ?_);obtain Z:H2 sp=some (.dict []):=x2 _ _ (by rw[AH.set_ne _ _ hst.symm,AH.set_self]);have hls:l≠sp:=λz=>by rw[z,AH.set_ne _ _ hst.symm,AH.set_self]at hl;exact sn hl
 refine dl (src:=some (l,rs.map V.ref)) (λxs l' H'=>∃rem trem ks,xs=rem.map V.ref/\FIn sp H2 (aC D.NN p (D.r c) []) l' H' rem trem ks)
  (λxs l' H' h=>pj h λ_ _ _ _ h=>h.xb _ _ hls el) (λx xs l' H' k h hk=>pj h λrem trem ks ex g=>?_) (λl' H' h=>pj h λrem trem ks ex h=>?_) _ _ _ (yX rs _ [] rfl ⟨rfl,λ_ _ _ e=>e,tl,λ_ h=>h,Z,s9,λ_ h=>absurd h i6,a8 (Q1 _),λx=>⟨λz=>z.elim (λz=>absurd z i6) id,.inr⟩⟩)
 ·rcases rem with _|⟨r1,rem⟩
  ·exact(o9 _ _ ex).elim
  rcases trem with _|⟨tb,trem⟩
  ·exact g.hT.elim
  obtain⟨rfl,rfl⟩:=J1 ex;exact(aa _ rfl (Fo (rest:=[]) g Z hI Y hts λl3 H3 ks3 h3=>hk _ _ (yX rem trem ks3 rfl h3)))
 ·rcases rem with _|⟨r1,rem⟩
  ·rcases trem with _|⟨tb,trem⟩
   ·have F:ks.Perm (aI ((aC D.NN p (D.r c) []).map aT)):=(y9 h.hnd (cH _)).mpr λx=>by rw[aK,<- h.iff x];exact⟨.inl,λz=>z.elim id λz=>absurd z i6⟩
    have hso:sortable ks:=(mu (by rw[F.length_eq];exact hcnt) (λx hx=>⟨(h.hok x hx).key.1,b8 (h.hok x hx).key.2.1 (by decide)⟩) (.inr λx hx=>af (b9.mp (aK.mp (F.mem_iff.mp hx))) λtb htb zq=>zq▸Y tb htb) (λx hx y hy=>(h.hok x hx).cmp (h.hok y hy)));have B:(ks.map λk=>(k,V.bool true)).map (·.1)=ks:=by rw[List.map_map];exact(o7 λx _=>rfl).trans (List.map_id ks)
    refine(aa _ h.hs (.inr (bb _ h.hd (by rw[B];exact hso) ?_)));rw[B];rw(config:={}) [jf (λx hx y hy=>hso.2.2.2 x (F.mem_iff.mpr hx) y (F.mem_iff.mpr hy)) F];refine Lst.fresh λH3 c3 x3 h3 e3=>q H3 c3 (Ext.trans' (λa o e=>h.xb a o (am e G) ((x1.trans' x2) a o e)) x3) ?_ e3;rcases z:H c3 with _|o
    ·rfl
    ·have:=h.xb c3 o (am z G) ((x1.trans' x2) c3 o z)
     rw[h3]at this;exact ns this
   ·exact h.hT.elim
  ·exact(o9 _ _ ex.symm).elim
end
end
noncomputable def ay(D:HD)(p:V):List V:=D.roots.flatMap λc=>(bX D p c).map λs=>.tup [iv c,s]
structure Askable(D:HD)(p:V):Prop where
 pat:gD p=true
 sz:vl p<60
 big:60^nv p<=2^18
 cnt:∀c∈D.roots,(aI ((aC D.NN p c []).map aT)).length<64
 nil:∀c∈D.roots,∀tb∈aC D.NN p c [],fx (aT tb)=true
theorem lj(D:HD)(p:V)(c:Nat):(bX D p c).length=(aI ((aC D.NN p c []).map aT)).length:=(ai _).length_eq
theorem eY{H:AH}(x:Ext H H'){a:Addr}(h:H' a=none):H a=none:=by
 rcases z:H a with _|o
 ·rfl
 ·have:=x _ _ z;rw[h]at this;exact ns this
section
variable{D:HD}
theorem wb(T:Txt σ)(O:D.Ok){p:V}(hp:az p<=m){H:AH}{Q:V->AH->Prop}(A:D.At H)(W:IsObj H wk "Walker" wd [("heap",.ref D.hp)])(K:Askable D p)(q:Lst H Q (ay D p)):MCall σ (6+m) "Walker" "found" [.ref wk,p] H Q:=by
 refine(aw (d:=5+m) T.ok T.Walker_found rfl ?_).room KM;obtain hn:D.n<=60:=O.nz;obtain ad:=D.roots_len;refine(aa _ rfl (jG W (by rw[T.fWalker];simp) rfl (aa _ (aE A.heap rfl T.Heap_classes.some) ((fW T A O λH1 l1 x1 hl1 e1=>⟨_,e1,by rw[List.length_map];exact tz ad hn,λc hc=>(aa c rfl ?_)⟩).room KN))));obtain A1:=A.ext x1;obtain W1:=W.ext x1;have P:∀c∈D.roots,((bX D p c).map λs=>V.tup [iv c,s]).length<=64:=λc hc=>by rw[List.length_map,lj];exact j7 (K.cnt c hc)
 obtain tot:(ay D p).length<=60*64:=b8 (cu _ 64 D.roots P) (t0 _ (KP ad hn));have e:(D.roots.map iv).flatMap (Ai λc=>(bX D p c).map λs=>.tup [iv c,s])=ay D p:=by rw[nW];rfl
 refine dg (src:=some (l1,_)) (H0:=H1) (hsrc:=e1) (Ai λc=>(bX D p c).map λs=>.tup [iv c,s]) _ [] _ (Ext.set _ hc) (AH.set_self _ _ _) ?_ (λx hx H' ws' k x2 B Y hk=>?_) λH' x' B=>?_
 ·rw[e];simp;exact KQ tot
 ·refine af (b9.mp hx) λi hi aP=>?_;subst aP;rw[wO]at Y hk;obtain⟨hin,J⟩:=HD.mem_roots.mp hi;refine(aa _ rfl (aa _ ?_ (aa _ (aE (W1.ext x2) rfl T.Walker_found_in.some) (aa _ (ao _ _ _) (aa _ ?_ (uH T O hp (A1.ext x2) (W1.ext x2) K.pat K.sz K.big hin (by rw[J];exact K.cnt i hi) (by rw[J];exact K.nil i hi) λH3 l3 x3 Z e3=>?_))))))
  ·rw[aj _ _ (by decide),bN _ (by decide)];rfl
  ·rw[aj _ _ (by decide),bN _ (by decide)];rfl
  rw[J]at e3;obtain F:=P i hi;rw[List.length_map]at F Y;refine(bb _ e3 (KR F) ?_);have hc3:=x3 _ _ B;have hne:l3≠c:=λz=>by rw[z,B]at Z;exact sn Z
  refine ss (src:=some (l3,_)) (c:=c) (λs=>.tup [iv i,s]) (H3:=H3) (λH4 xb=>xb _ _ hne e3) _ ws' H3 (λ_ _ _ e=>e) hc3 (by assumption) (λy hy H4 ws4 k4 xb G hl4 hk4=>?_) λH4 xb G=>?_
  ·refine(aa _ rfl ?_);refine yT (fI rfl ?_);refine(aa _ ?_ (aa _ (ao _ _ _) (bb _ G hl4 hk4)));rw[aj _ _ (by decide),bN _ (by decide)];exact ao _ _ _
  ·exact hk H4 (λa o e=>xb a o (am e hc) ((x2.trans' x3) a o e)) G
 ·rw[e,List.nil_append]at B;exact q H' c (x1.trans' x') (eY x1 hc) B
end
structure Frm(H H':AH)(A A':List Addr):Prop where
 out:∀x o,H x=some o->x∉A->H' x=some o
 new:∀x∈A',x∈A\/H x=none
theorem Frm.refl{H:AH}{A:List Addr}:Frm H H A A:=⟨λ_ _ e _=>e,λ_ h=>.inl h⟩
theorem Ext.frm{H:AH}{A:List Addr}(x:Ext H H'):Frm H H' A A:=⟨λ_ _ e _=>x _ _ e,λ_ h=>.inl h⟩
theorem Frm.trans{H H'':AH}{A A' B:List Addr}(x:Frm H H' A A')(y:Frm H' H'' A' B):Frm H H'' A B:=by
 refine⟨λa o e G=>y.out a o (x.out a o e G) λh'=>?_,λa h=>?_⟩
 ·rcases x.new a h' with h|h
  ·exact G h
  ·rw[e]at h;exact sn h
 ·rcases y.new a h with h|h
  ·exact x.new a h
  ·by_cases F:a∈A
   ·exact .inl F
   ·right;rcases z:H a with _|o
    ·rfl
    ·have:=x.out a o z F;rw[h]at this;exact ns this
theorem eu{f:α->β}{l:List α}{p B:α}(h:l[k]?=some p)(F:f B=f p):(l.set k B).map f=l.map f:=by
 rw[List.map_set,F];refine u6 λj=>?_;rw[List.getElem?_set];split
 ·rename_i e;subst e;obtain hl:=(f9.mp h).1;rw[List.getElem?_map,h];simp[hl]
 ·rfl
namespace HD
variable{D:HD}{H:AH}
theorem At.ne(A:D.At H){p q:Addr×AO}(hi:D.objs[i]?=some p)(J:D.objs[j]?=some q)(h:i≠j):p.1≠q.1:=by obtain nd:=A.nd;unfold HD.adr at nd;intro e;obtain⟨a,F⟩:=f9.mp hi;obtain⟨b,G⟩:=f9.mp J;obtain B:=(List.getElem_inj (h₀:=by simpa using a) (h₁:=by simpa using b) nd).mp (by simp[F,G,e]);exact h B
theorem At.set(A:D.At H)(i:Nat){a:Addr}{o o':AO}(e:D.objs[i]?=some (a,o))(e':D'.objs=D.objs.set i (a,o')):D'.At (H.set a o')/\D'.adr=D.adr:=by
 have B:D'.adr=D.adr:=by
  unfold HD.adr;rw[e',List.map_set];refine u6 λj=>?_;rw[List.getElem?_set];split
  ·rename_i h;subst h;obtain⟨hl,J⟩:=f9.mp e;rw[List.getElem?_map,e];simp[hl]
  ·rfl
 refine⟨⟨λp hp=>?_,B▸A.nd⟩,B⟩;rw[e']at hp;obtain⟨j,F⟩:=k9.mp hp;rw[List.getElem?_set]at F;split at F
 ·split at F
  ·obtain rfl:=c9 F;exact AH.set_self _ _ _
  ·exact ns F
 ·rename_i h;obtain G:=A.ne F e (K4 h);rw[AH.set_ne _ _ G];exact A.all p (g9 F)
theorem At.mem(A:D.At H){a:Addr}{o:AO}(e:D.objs[i]?=some (a,o)):a∈D.adr:=b9.mpr (aa _ (g9 e) rfl)
theorem At.setF(A:D.At H)(i:Nat){a:Addr}{o o':AO}(e:D.objs[i]?=some (a,o))(e':D'.objs=D.objs.set i (a,o')):D'.At (H.set a o')/\Frm H (H.set a o') D.adr D'.adr:=by
 refine bQ (A.set i e e') λA' F=>?_;refine⟨A',λx o B G=>?_,λx B=>.inl (F▸B)⟩;rw[AH.set_ne]
 ·exact B
 ·rintro rfl;exact G (A.mem e)
theorem At.known'(A:D.At H)(k:List (Nd×Nat)):(D.sKnown k).At (H.set D.kp (.dict (k.map λp=>(ak p.1,iv p.2))))/\Frm H (H.set D.kp (.dict (k.map λp=>(ak p.1,iv p.2)))) D.adr (D.sKnown k).adr:=A.setF 15 rfl rfl
theorem At.wait'(A:D.At H)(k:List Nat):(D.sWait k).At (H.set D.wp (.list (k.map iv)))/\Frm H (H.set D.wp (.list (k.map iv))) D.adr (D.sWait k).adr:=A.setF 17 rfl rfl
theorem At.edg'(A:D.At H)(k:List V):(D.sEdg k).At (H.set D.ep (.list k))/\Frm H (H.set D.ep (.list k)) D.adr (D.sEdg k).adr:=A.setF 13 rfl rfl
theorem At.frs'(A:D.At H)(k:List V):(D.sFrs k).At (H.set D.fp (.list k))/\Frm H (H.set D.fp (.list k)) D.adr (D.sFrs k).adr:=A.setF 14 rfl rfl
theorem At.mrg'(A:D.At H)(k:List V):(D.sMrg k).At (H.set D.gp (.list k))/\Frm H (H.set D.gp (.list k)) D.adr (D.sMrg k).adr:=A.setF 12 rfl rfl
theorem At.par'(A:D.At H)(k:List Nat):(D.sPar k).At (H.set D.ua (.list (k.map iv)))/\Frm H (H.set D.ua (.list (k.map iv))) D.adr (D.sPar k).adr:=A.setF 10 rfl rfl
theorem At.nums'(A:D.At H)(k:List (V×V)):(D.sNums k).At (H.set D.mp (.dict k))/\Frm H (H.set D.mp (.dict k)) D.adr (D.sNums k).adr:=A.setF 7 rfl rfl
theorem At.nodes'(A:D.At H)(k:List Nd):(D.sNodes k).At (H.set D.np (.list (k.map ak)))/\Frm H (H.set D.np (.list (k.map ak))) D.adr (D.sNodes k).adr:=A.setF 6 rfl rfl
theorem At.ws'(A:D.At H)(k:List Int):(D.sWs k).At (H.set D.qp (.list (k.map .int)))/\Frm H (H.set D.qp (.list (k.map .int))) D.adr (D.sWs k).adr:=A.setF 8 rfl rfl
theorem At.ds'(A:D.At H)(k:List Int):(D.sDs k).At (H.set D.dp (.list (k.map .int)))/\Frm H (H.set D.dp (.list (k.map .int))) D.adr (D.sDs k).adr:=A.setF 9 rfl rfl
theorem ga{l m:List α}{n:Nat}(h:l.length=n):(l++m)[n+k]?=m[k]?:=by rw[List.getElem?_append_right (h▸Nat.le_add_right ..),h,Nat.add_sub_cancel_left]
theorem gl{l m:List α}{x:α}(h:l[k]?=some x):(l++m)[k]?=some x:=by rw[List.getElem?_append_left (List.getElem?_eq_some_iff.mp h).1];exact h
theorem gm{l:List α}{x:α}(f:α->β)(h:l[k]?=some x):(l.map f)[k]?=some (f x):=by rw[List.getElem?_map,h];rfl
theorem gs{l m:List α}{n:Nat}{x:α}(h:l.length=n):(l++m).set (n+k) x=l++m.set k x:=by rw[List.set_append_right _ _ (h▸Nat.le_add_right ..),h,Nat.add_sub_cancel_left]
theorem gt{l m:List α}{x y:α}(h:l[k]?=some y):(l++m).set k x=l.set k x++m:=List.set_append_left _ _ (f9.mp h).1
theorem objs_lot{p:Addr×List Nat}(h:D.lots[k]?=some p):D.objs[18+k]?=some (p.1,.list (p.2.map iv)):=(ga rfl).trans (gl (gm fo h))
theorem objs_ab{p:Nat×Addr×List Nat}(h:D.ab[k]?=some p):D.objs[18+D.lots.length+k]?=some (p.2.1,.list (p.2.2.map iv)) :=(j6 (D.objs[·]?) (Nat.add_assoc ..)).trans ((ga rfl).trans ((ga (j8 _)).trans (gm fa h)))
theorem At.lot'(A:D.At H){x:Addr}{ns:List Nat}(h:D.lots[k]?=some (x,ns))(ms:List Nat) :(D.sLots (D.lots.set k (x,ms))).At (H.set x (.list (ms.map iv)))/\Frm H (H.set x (.list (ms.map iv))) D.adr (D.sLots (D.lots.set k (x,ms))).adr:=by refine A.setF (18+k) (objs_lot h) ?_;show D.hhL ((D.lots.set k (x,ms)).map λp=>V.ref p.1) D.abv++((D.lots.set k (x,ms)).map fo++D.ab.map fa)=(D.hhL (D.lots.map λp=>V.ref p.1) D.abv++(D.lots.map fo++D.ab.map fa)).set (18+k) _;have e:(D.lots.set k (x,ms)).map (λp=>V.ref p.1)=D.lots.map λp=>V.ref p.1:=eu h rfl;rw[e,List.map_set,gs (n:=18) (l:=D.hhL _ _) rfl,gt (gm fo h)]
theorem At.abl'(A:D.At H){x:Addr}{ns:List Nat}(h:D.ab[k]?=some (i,x,ns))(ms:List Nat) :(D.sAb (D.ab.set k (i,x,ms))).At (H.set x (.list (ms.map iv)))/\Frm H (H.set x (.list (ms.map iv))) D.adr (D.sAb (D.ab.set k (i,x,ms))).adr:=by refine A.setF (18+D.lots.length+k) (objs_ab h) ?_;show D.hhL _ ((D.ab.set k (i,x,ms)).map λp=>(iv p.1,V.ref p.2.1))++(D.lots.map fo++(D.ab.set k (i,x,ms)).map fa)=(D.hhL _ (D.ab.map λp=>(iv p.1,V.ref p.2.1))++(D.lots.map fo++D.ab.map fa)).set (18+D.lots.length+k) _;have e:(D.ab.set k (i,x,ms)).map (λp=>(iv p.1,V.ref p.2.1))=D.ab.map λp=>(iv p.1,V.ref p.2.1):=eu h rfl;rw[e,List.map_set,Nat.add_assoc,gs (n:=18) (l:=D.hhL _ _) rfl,gs (List.length_map _)]
end HD
section
variable{x:Addr}
namespace HD
variable{D:HD}{H:AH}
theorem qM(D:HD):D.objs.drop 18=D.lots.map fo++D.ab.map fa:=rfl
theorem At.addL(A:D.At H){a:Addr}{o ob ob':AO}(Y:H x=none)(e:D.objs[i]?=some (a,ob))(hi:i<18)(e1:D'.objs.take 18=(D.objs.take 18).set i (a,ob'))(e2:∀p∈D'.objs.drop 18,p=(x,o)\/p∈D.objs.drop 18)(e3:((D'.objs.drop 18).map (·.1)).Nodup)(h1:H' x=some o)(h2:H' a=some ob')(O:∀b y,b≠a->H b=some y->H' b=some y):D'.At H'/\Frm H H' D.adr D'.adr:=by
 obtain nd:=A.nd;have P:∀p∈D.objs,p.1≠x:=λp hp z=>by have:=A.all p hp;rw[z,Y]at this;exact ns this
 have tk:∀p∈D'.objs.take 18,p=(a,ob')\/∃j,j≠i/\j<18/\D.objs[j]?=some p:=λp hp=>by
  rw[e1]at hp;refine bR (k9.mp hp) λj B=>?_;rw[List.getElem?_set]at B;split at B
  ·split at B
   ·obtain rfl:=c9 B;exact .inl rfl
   ·exact ns B
  ·rename_i h;rw[List.getElem?_take]at B;split at B
   ·rename_i G;exact .inr ⟨j,K4 h,G,B⟩
   ·exact ns B
 obtain Z:∀p∈D.objs.drop 18,∃j,18<=j/\D.objs[j]?=some p:=λp hp=>by refine bR (k9.mp hp) λj B=>?_;rw[List.getElem?_drop]at B;exact⟨18+j,by exact KS,B⟩
 have J:(D'.objs.take 18).map (·.1)=(D.objs.take 18).map (·.1):=by rw[e1];exact eu (p:=(a,ob)) (by rw[List.getElem?_take,if_pos hi];exact e) rfl
 have e':D'.adr=(D.objs.take 18).map (·.1)++(D'.objs.drop 18).map (·.1):=by rw[<- J,<- List.map_append,List.take_append_drop];rfl
 have Q:D.adr=(D.objs.take 18).map (·.1)++(D.objs.drop 18).map (·.1):=by rw[<- List.map_append,List.take_append_drop];rfl
 refine⟨⟨λp hp=>?_,?_⟩,⟨λb y F hn=>O b y ?_ F,λb F=>?_⟩⟩
 ·rw[<- List.take_append_drop 18 D'.objs]at hp;rcases l9.mp hp with hp|hp
  ·rcases tk p hp with rfl|⟨j,B,G,hp⟩
   ·exact h2
   ·exact O _ _ (A.ne hp e B) (A.all p (g9 hp))
  ·rcases e2 p hp with rfl|hp
   ·exact h1
   ·refine af (Z p hp) λj B hp=>?_;exact O _ _ (A.ne hp e (KT B hi)) (A.all p (g9 hp))
 ·rw[Q,List.nodup_append]at nd;rw[e',List.nodup_append];refine⟨nd.1,e3,λb F c hc=>?_⟩;obtain⟨p,hp,rfl⟩:=b9.mp hc;rcases e2 p hp with rfl|hp
  ·refine af (b9.mp F) λq hq bx=>?_;subst bx;exact P q (List.mem_of_mem_take hq)
  ·exact nd.2.2 b F _ (b9.mpr ⟨p,hp,rfl⟩)
 ·rintro rfl;exact hn (A.mem e)
 ·rw[e']at F;rcases l9.mp F with F|F
  ·exact .inl (by rw[Q];exact m8 _ F)
  ·refine af (b9.mp F) λp hp bK=>?_;subst bK;rcases e2 p hp with rfl|hp
   ·exact .inr Y
   ·exact .inl (b9.mpr ⟨p,D9 hp,rfl⟩)
theorem At.nd18(A:D.At H):((D.objs.drop 18).map (·.1)).Nodup:=by
 obtain nd:=A.nd;have B:D.adr=(D.objs.take 18).map (·.1)++(D.objs.drop 18).map (·.1):=by rw[<- List.map_append,List.take_append_drop];rfl
 rw[B,List.nodup_append]at nd;exact nd.2.1
theorem At.fresh(A:D.At H)(B:H x=none):x∉(D.objs.drop 18).map (·.1):=λhm=>af (b9.mp hm) λp hp e=>by
 have:=A.all p (D9 hp)
 rw[e,B]at this;exact ns this
theorem tj{y:AO}{l m:List (Addr×AO)}(h:x∉(l++m).map (·.1))(nd:((l++m).map (·.1)).Nodup):((l++[(x,y)]++m).map (·.1)).Nodup:=by rw[List.append_assoc];exact((M7 (a:=(x,y))).map (·.1)).nodup_iff.mpr (y0.mpr ⟨h,nd⟩)
theorem At.addLot(A:D.At H)(ns:List Nat)(B:H x=none)(F:H' x=some (.list (ns.map iv)))(G:H' D.lp=some (.list ((D.lots.map λp=>V.ref p.1)++[.ref x])))(J:∀b y,b≠D.lp->H b=some y->H' b=some y) :(D.sLots (D.lots++[(x,ns)])).At H'/\Frm H H' D.adr (D.sLots (D.lots++[(x,ns)])).adr:=by
 have e:(D.sLots (D.lots++[(x,ns)])).objs.drop 18=D.lots.map fo++[fo (x,ns)]++D.ab.map fa:=j6 (·++D.ab.map fa) List.map_append;refine A.addL (i:=11) (o:=.list (ns.map iv)) (ob':=.list ((D.lots.map λp=>V.ref p.1)++[.ref x])) B rfl (by decide) ?_ (λp hp=>?_) (e▸tj (A.fresh B) A.nd18) F G J
 ·show D.hhL ((D.lots++[(x,ns)]).map λp=>V.ref p.1) D.abv=D.hhL (_++[.ref x]) D.abv;rw[List.map_append];rfl
 ·rw[e]at hp;show p=_\/p∈D.lots.map fo++D.ab.map fa;rcases l9.mp hp with hp|hp
  ·exact(l9.mp hp).symm.imp j5.mp (m8 _)
  ·exact .inr (n8 _ hp)
theorem At.addAb(A:D.At H)(k:Nat)(ns:List Nat)(B:H x=none)(F:H' x=some (.list (ns.map iv)))(G:H' D.ap=some (.dict (D.abv++[(iv k,.ref x)])))(J:∀b y,b≠D.ap->H b=some y->H' b=some y) :(D.sAb (D.ab++[(k,x,ns)])).At H'/\Frm H H' D.adr (D.sAb (D.ab++[(k,x,ns)])).adr:=by
 have e:(D.sAb (D.ab++[(k,x,ns)])).objs.drop 18=(D.objs.drop 18)++[fa (k,x,ns)]:=(j6 (D.lots.map fo++·) List.map_append).trans (List.append_assoc ..).symm;refine A.addL (i:=16) (o:=.list (ns.map iv)) (ob':=.dict (D.abv++[(iv k,.ref x)])) B rfl (by decide) ?_ (λp hp=>?_) ?_ F G J
 ·show D.hhL _ ((D.ab++[(k,x,ns)]).map λp=>(iv p.1,V.ref p.2.1))=D.hhL _ (_++[(iv k,.ref x)]);rw[List.map_append];rfl
 ·rw[e]at hp;exact(l9.mp hp).symm.imp_left j5.mp
 ·have n:=tj (x:=x) (y:=.list (ns.map iv)) (l:=D.objs.drop 18) (m:=[]);rw[List.append_nil,List.append_nil]at n;rw[e];exact n (A.fresh B) A.nd18
noncomputable def abJoin(ab:List (Nat×Addr×List Nat))(B F:Nat)(x:Addr)(ns:List Nat):List (Nat×Addr×List Nat):=(ab.filter λp=>p.1≠F).map λp=>if p.1=B then(B,x,ns)else p
theorem At.joinAb(A:D.At H)(B F:Nat)(ns:List Nat)(hk:(D.ab.map (·.1)).Nodup)(hx:H x=none)(h1:H' x=some (.list (ns.map iv)))(h2:H' D.ap=some (.dict ((abJoin D.ab B F x ns).map λp=>(iv p.1,.ref p.2.1))))(h3:∀b y,b≠D.ap->H b=some y->H' b=some y) :(D.sAb (abJoin D.ab B F x ns)).At H'/\Frm H H' D.adr (D.sAb (abJoin D.ab B F x ns)).adr:=by
 obtain nd:=A.nd18;obtain O:=A.fresh hx;refine A.addL (D':=(D.sAb (abJoin D.ab B F x ns))) (i:=16) (o:=.list (ns.map iv)) (ob':=.dict ((abJoin D.ab B F x ns).map λp=>(iv p.1,.ref p.2.1))) hx rfl (by decide) rfl (λp hp=>?_) ?_ h1 h2 h3
 ·rw[qM]at hp ⊢;rcases l9.mp hp with hp|hp
  ·exact .inr (m8 _ hp)
  ·refine af (b9.mp hp) λq hq cC=>?_;subst cC;refine af (b9.mp hq) λr Y dj=>?_;subst dj;by_cases J:r.1=B
   ·rw[if_pos J];exact .inl rfl
   ·rw[if_neg J];exact .inr (n8 _ (b9.mpr ⟨r,(u1.mp Y).1,rfl⟩))
 ·rw[qM,List.map_append,List.nodup_append]at nd;rw[qM,List.map_append,List.mem_append]at O;rw[qM,List.map_append,List.nodup_append];have P:∀y∈(abJoin D.ab B F x ns).map λp=>p.2.1,y=x\/y∈D.ab.map λp=>p.2.1:=λy hy=>by
   obtain⟨q,hq,rfl⟩:=b9.mp hy;refine af (b9.mp hq) λr Y ad=>?_;subst ad;by_cases J:r.1=B
   ·rw[if_pos J];exact .inl rfl
   ·rw[if_neg J];exact .inr (b9.mpr ⟨r,(u1.mp Y).1,rfl⟩)
  obtain m1:∀(l:List (Nat×Addr×List Nat)),(l.map λp=>(p.2.1,AO.list (p.2.2.map iv))).map (·.1)=l.map λp=>p.2.1:=λl=>by rw[List.map_map];rfl
  rw[m1]at nd ⊢;rw[m1]at O;refine⟨nd.1,?_,λb hb c hc=>?_⟩
  ·unfold abJoin;rw[List.map_map];have key:∀(l:List (Nat×Addr×List Nat)),(l.map (·.1)).Nodup->(l.map λp=>p.2.1).Nodup->x∉(l.map λp=>p.2.1)->(l.map ((λp=>p.2.1)∘λp=>if p.1=B then(B,x,ns)else p)).Nodup:=by
    intro l;induction l with
    |nil=>intro _ _ _;exact s9
    |cons p l ih =>
     intro Z k2 Q;rw[List.map_cons,List.nodup_cons]at Z k2;rw[List.map_cons,List.mem_cons,not_or]at Q;rw[List.map_cons,List.nodup_cons];refine⟨λhm=>?_,ih Z.2 k2.2 Q.2⟩;refine af (b9.mp hm) λq hq e=>?_;simp only[Function.comp]at e;by_cases hp:p.1=B
     ·rw[if_pos hp]at e;by_cases G:q.1=B
      ·exact Z.1 (b9.mpr ⟨q,hq,by rw[G,hp]⟩)
      ·rw[if_neg G]at e;exact Q.2 (b9.mpr ⟨q,hq,e⟩)
     ·rw[if_neg hp]at e;by_cases G:q.1=B
      ·rw[if_pos G]at e;exact Q.1 e
      ·rw[if_neg G]at e;exact k2.1 (b9.mpr ⟨q,hq,e⟩)
   obtain sub:(D.ab.filter λp=>decide (p.1≠F)).Sublist D.ab:=List.filter_sublist;exact key _ ((sub.map _).nodup hk) ((sub.map _).nodup nd.2.1) λhm=>O (.inr ((sub.map _).subset hm))
  ·rcases P c hc with rfl|hc
   ·rintro rfl;exact O (.inl hb)
   ·exact nd.2.2 b hb c hc
end HD
end
theorem gW{b:Nat}(h:iv a=iv b):a=b:=by injection h with h;exact KU h
theorem nU:∀{l m:List Nat},l.map iv=m.map iv->l=m
 | [],[],_=>rfl
 | [],_::_,h=>by simp at h
 |_::_,[],h=>by simp at h
 |a::l,b::m,h=>by simp only[List.map_cons,List.cons.injEq]at h;rw[gW h.1,nU h.2]
theorem iC{a b:Nd}(h:ak a=ak b):a=b:=by unfold ak at h;injection h with h;simp only[List.cons.injEq]at h;refine bQ h λB F=>?_;injection B with B;exact M8 B (nU F)
theorem fZ{kvs:cD}{k:V}(h:∀p∈kvs,p.1≠k):aA kvs k=none:=by
 induction kvs with
 |nil=>rfl
 |cons p r B =>obtain⟨a,b⟩:=p;rw[bM,if_neg (by rw[bt];exact h (a,b) d6)];exact B λp hp=>h p (d7 _ hp)
theorem pP:∀(l:List Nd)(k:Nat)(nd:Nd),(∃i,l[i]?=some nd/\aA ((l.zipIdx k).map λp=>(ak p.1,iv p.2)) (ak nd)=some (iv (k+i)))\/(nd∉l/\aA ((l.zipIdx k).map λp=>(ak p.1,iv p.2)) (ak nd)=none)
 | [],k,nd=>.inr ⟨by simp,rfl⟩
 |a::l,k,nd=>by
  rw[List.zipIdx_cons,List.map_cons,bM];by_cases h:a=nd
  ·subst h;exact .inl ⟨0,rfl,by rw[if_pos (bo _)];rfl⟩
  ·rw[if_neg (by rw[bt];exactλz=>h (iC z))];rcases pP l (k+1) nd with⟨i,B,F⟩|⟨B,F⟩
   ·exact .inl ⟨i+1,by exact B,by rw[F];congr 2;exact Ea⟩
   ·exact .inr ⟨by simp;exact⟨λz=>h z.symm,B⟩,F⟩
theorem ma(f:α->β)(l:List α)(x:α):l.map f++[f x]=(l++[x]).map f:=by rw[List.map_append];rfl
theorem Hw{p:String->Bool}(h:aR.all p=true){op:String}(B:op∈aR):p op=true:=q5.mp h op B
noncomputable def HD.take(D:HD)(nd:Nd)(w d:Int):HD:=((((D.sNums (D.nums++[(ak nd,iv D.n)])).sNodes (D.nodes++[nd])).sWs (D.ws++[w])).sDs (D.ds++[d]))
section
variable{H:AH}{Q:V->AH->Prop}{D:HD}
theorem BU(T:Txt σ){op:String}(B:op∈aR)(q:∀H',Ext H H'->Q (.bool true) H'):FCall σ 1 "is_op" [.str op] H Q:=by
 have F:cM (.str op) (.str "")=false:=by rw[kj];exact q7 (f8 (Hw (p:=λs=>decide (s≠"")) (by decide) B))
 refine dR T.ok T.is_op rfl (cY (Bx (Ev.cmp (op:=.ne) (v:=.str op) (w:=.str "") (b:=true) (.var rfl) .cst (λQ q=>⟨iF _,iF _,by rw[F];exact q⟩) _ _ (aa true rfl (fI rfl ?_)))));refine GE (uo (aa _ rfl ⟨B,?_⟩));refine kz (src:=none) (K:=λc H1=>aS σ 0 (.lst .nil) (bf ["text"] [.str op]) H1 λw H2=>eP H2 .eq (.ref c) w λt=>mO Q (.ret (.bool t)) (bf ["text"] [.str op]) H2) [op] V.str V.str (λ_=>false) trivial (show 1<2^20 by decide) (λs hs H' G x k=>?_) (λ_ _ h=>ag h) λc H' x O hc J hc2=>?_
 ·obtain rfl:=j5.mp hs;exact kl (k:=.str) (.var rfl) ⟨rfl,s,rfl⟩ .nil (mu rfl rfl ⟨s,rfl,B⟩ (aa false rfl (fG rfl (iN _ rfl rfl ⟨s,rfl,B⟩ k))))
 ·have e2:=(Ext.set (.list []) hc2) _ _ hc;exact(mN ([]) ([]) e2 (AH.set_self _ _ _) ⟨rfl,m6 _⟩ ⟨rfl,m6 _⟩ (by rw[bo];exact q _ (x.trans' (Ext.set _ hc2))))
theorem DA{n:Nat}(q:Q (iv n) H):xM H Q .sub (iv (n+1)) (iv 1):=by show Q (.int (((n+1:Nat):Int)-((1:Nat):Int))) H;rw[show(((n+1:Nat):Int)-((1:Nat):Int))=n from Int.add_sub_cancel (n:Int) ((1:Nat):Int)];exact q
theorem GW{i j:Int}(q:Q (.int (i+j)) H):xM H Q .add (.int i) (.int j):=q
noncomputable def RI(s:String):Bool:=decide (s∈mc)&&(match s.toList[0]? with|some c=>decide (String.ofList [c]≠"?")|none=>false)
theorem CS{s:String}(h:RI s=true):s∈mc/\∃c,s.toList[0]?=some c/\String.ofList [c]≠"?":=by
 obtain h:=and_t h;refine⟨f8 h.1,?_⟩;have h:=h.2;rcases e:s.toList[0]? with _|c
 ·rw[e]at h;exact ag h
 ·rw[e]at h;exact(aa c rfl (f8 h))
theorem xS(T:Txt σ){b:Addr}{op:String}(B:op∈aR)(q:∀H',Ext H H'->Q .none H'):MCall σ 2 "Bank" "require" [.ref b,.str op] H Q:=by
 refine bQ (CS (Hw (by decide) B)) λhw aP=>?_;refine af aP λF e1 e2=>?_;refine af (BU (H:=H) (Q:=λv H2=>∃t,v=.bool t/\(if(!t)=true then(λt H1=>if t=true then aq σ 1 [.rais] (bf ["self","op"] [.ref b,.str op]) H1 (Sq σ 1 [] (mO Q))else aq σ 1 [] (bf ["self","op"] [.ref b,.str op]) H1 (Sq σ 1 [] (mO Q))) true H2 else yW σ 1 (.cmp1 .eq (.idx (.var "op") (.cst (.int 0))) (.cst (.str "?"))) (bf ["self","op"] [.ref b,.str op]) H2 λt H1=>if t=true then aq σ 1 [.rais] (bf ["self","op"] [.ref b,.str op]) H1 (Sq σ 1 [] (mO Q))else aq σ 1 [] (bf ["self","op"] [.ref b,.str op]) H1 (Sq σ 1 [] (mO Q)))) T B λH' x =>
  (aa true rfl (fG rfl (EvT.cmp (b:=false) ((Ev.var rfl).idx (v:=.str op) (w:=iv 0) .cst λ_ q=>⟨hw,(mN 0 F rfl (by decide) (by decide) e1 q)⟩) .cst (λQ q=>uL _ _ _ _ (by rw[decide_eq_false e2];exact q)) _ _ (fG rfl (q H' x)))))) λf e c=>?_
 exact aw T.ok T.Bank_require rfl (aa f e (aa _ rfl c))
theorem Fd(T:Txt σ)(A:D.At H)(O:D.Ok){op:String}{ks:List Nat}(ho:op∈aR)(hk:ks.length<=2)(J:∀k∈ks,k<D.n)(hn:D.n<60)(q1:∀i,D.nodes[i]?=some (op,ks)->Q (iv i) H)(q2:(op,ks)∉D.nodes->∀H' w d,(D.take (op,ks) w d).At H'->Frm H H' D.adr (D.take (op,ks) w d).adr->Q (iv D.n) H') : MCall σ 3 "Bank" "take" [.ref D.bp,.str op,.tup (ks.map iv)] H Q:=by
 obtain key:=fO (op,ks);have F:keyFits D.nums (ak (op,ks)):=by refine⟨by rw[key.2.2];decide,λp hp=>?_⟩;rw[O.nums]at hp;refine af (b9.mp hp) λx _ bx=>?_;subst bx;rw[key.2.2];exact(fO _).2.2
 have G:∀{α:Type}(f:Nat->α),(ks.map f).length<=2:=λf=>b8 (a8 (j8 f)) hk;obtain Y:ks.length<2^20:=d9 hk (by decide);refine aw T.ok T.Bank_take rfl (vJ (v:=ak (op,ks)) ((Ev.tup (.cons (.var rfl) .nil)).bin (Ev.prim (.var rfl) λ_ q=>q) λ_ q=>⟨b8 (A8 (G iv) 1) (by decide),q⟩) ?_);have nums:∀{l:Loc}{H:AH},D.At H->l "self"=some (.ref D.bp)->Ev σ l H (.attr (.var "self") "numbers") (.ref D.mp):=λA h=>mf T A (.var h) (by decide) rfl;have cm:EvT σ ((bf ["self","op","kids"] [.ref D.bp,.str op,.tup (ks.map iv)]).put "node" (ak (op,ks))) H (.cmp1 .isin (.var "node") (.attr (.var "self") "numbers")) (aA D.nums (ak (op,ks))).isSome:=EvT.cmp (.var rfl) (nums A rfl) λQ q=>.inr (bb _ A.nums F q);rcases pP D.nodes 0 (op,ks)with⟨i,h1,h2⟩|⟨h1,h2⟩
 ·have B:aA D.nums (ak (op,ks))=some (iv i):=by rw[O.nums];rw[Nat.zero_add]at h2;exact h2
  rw[B]at cm;exact jx cm (cX ((nums A rfl).idx (.var rfl) λ_ q=>gU A.nums F B q) (q1 i h1))
 have B:aA D.nums (ak (op,ks))=none:=by rw[O.nums];exact h2
 rw[B]at cm;refine gu cm (iK (aW (.var rfl) A.bank rfl T.Bank_require.some (.cons (.var rfl) .nil) (xS T ho λH1 x1=>⟨trivial,?_⟩)));obtain Z:=A.ext x1;refine Gw (kF (.var rfl) (d9 (G iv) (by decide))) (b8 (G iv) (by decide)) (λv hv l' K' kp k=>?_) λl kp=>?_
 ·refine af (b9.mp hv) λr hr bK=>?_;subst bK;obtain hs:(l'.put "kid" (iv r)) "self"=some (.ref D.bp):=(kp.put _ (by decide)).trans rfl;exact gu (EvT.not (b:=true) (EvT.cmp2 (.cst (v:=iv 0)) (.var rfl) (eG (mf T Z (.var hs) (by decide) rfl) Z.nodes (j8 _) (Cv O.nz)) (λ_ q=>(bc 0 r rfl rfl (by rw[decide_eq_true (Int.natCast_nonneg r)];exact q))) λ_ q=>(bc r _ rfl rfl (by rw[decide_eq_true (Int.ofNat_lt.mpr (J r hr))];exact q)))) (k _ kp.put)
 have hs:l "self"=some (.ref D.bp):=(kp _ (by decide)).trans rfl;have ad:Ev σ l H1 (.var "node") (ak (op,ks)):=.var ((kp _ (by decide)).trans rfl);obtain hnl:(D.nodes.map ak).length<2^20:=by rw[List.length_map];exact m4 hn (by decide)
 obtain P:D.nums.length<2^20:=by rw[O.nums];unfold og;rw[List.length_map,List.length_zipIdx];exact m4 hn (by decide)
 refine vP (eG (mf T Z (.var hs) (by decide) rfl) Z.nodes (j8 _) (Cv O.nz)) (nums Z hs) ad Z.nums F P ?_;rw[bz B];refine bQ (Z.nums' (D.nums++[(ak (op,ks),iv D.n)])) λB1 f1=>?_;refine jy (mf T B1 (.var hs) (by decide) rfl) B1.nodes (.var ((kp _ (by decide)).trans rfl)) hnl ?_;refine bQ (B1.nodes' (D.nodes++[(op,ks)])) λB2 f2=>?_;rw[show D.nodes.map ak++[ak (op,ks)]=(D.nodes++[(op,ks)]).map ak from ma ..];obtain hwl:D.ws.length=D.n:=O.lws;obtain hdl:D.ds.length=D.n:=O.lds;have tup:∀{H:AH},Ev σ l H (.slc (.var "node") (some 1) none) (.tup (ks.map iv)):=kF (.var ((kp _ (by decide)).trans rfl)) (d9 (G iv) (by decide));refine mJ (mf T B2 (.var hs) (by decide) rfl) B2.ws (rQ (cB .cst (eA (rR ks iv (λi=>.int (D.ws.getD i 0)) tup Y (λi hi H' Q' x k=>cB ((mf T (B2.ext x) (.var ?_) (by decide) rfl).idx (.var rfl) λ_ q=>dT (B2.ext x).ws (gc 0 (by rw[hwl];exact J i hi)) (td (J i hi) O.nz) q) (k H' (Ext.refl' _))) λc3 H3 x3 _ h3=>(aa (ks.map λi=>D.ws.getD i 0) (by rw[h3,List.map_map];rfl) ?_)))))
 ·exact hs
 have B3':=B2.ext x3;refine GW (rf B3'.ws (by rw[List.length_map,hwl];exact m4 hn (by decide)) ⟨trivial,?_⟩);generalize (1+(ks.map λi=>D.ws.getD i 0).sum:Int)=wv;refine bQ (B3'.ws' (D.ws++[wv])) λB3 f3=>?_;rw[show D.ws.map V.int++[V.int wv]=(D.ws++[wv]).map V.int from ma ..];refine mJ (mf T B3 (.var hs) (by decide) rfl) B3.ds (rQ (cB .cst (eA (rQ (rR ks iv (λi=>.int (D.ds.getD i 0)) tup Y (λi hi H' Q' x k=>cB ((mf T (B3.ext x) (.var ?_) (by decide) rfl).idx (.var rfl) λ_ q=>dT (B3.ext x).ds (gc 0 (by rw[hdl];exact J i hi)) (td (J i hi) O.nz) q) (k H' (Ext.refl' _))) λc4 H4 x4 _ h4=>?_)))))
 ·exact hs
 intro c5 hc5;refine(jh _ _ ((Ext.set _ hc5) _ _ h4) (AH.set_self _ _ _) (b8 (E0 (G _) 1) (by decide)) (λc6 hc6=>?_));have x6:=x4.trans' ((Ext.set (.list [.int 0]) hc5).trans' (Ext.set (.list (ks.map (λi=>V.int (D.ds.getD i 0))++[.int 0])) hc6));have hmax:∃(i:Int)(ns:List Int),ks.map (λi=>V.int (D.ds.getD i 0))++[.int 0]=(i::ns).map V.int:=by
  rcases ks with _|⟨k,ks⟩
  ·exact(vU 0 ([]) rfl)
  ·exact(vU (D.ds.getD k 0) (ks.map (λi=>D.ds.getD i 0)++[0]) (by rw[List.map_cons,List.map_cons,List.map_append,List.map_map];rfl))
 refine rY hmax λi0 ns0 emax=>?_;refine(fA i0 ns0 (by rw[<- emax];exact AH.set_self _ _ _) (λM _ _=>?_));obtain B4':=B3.ext x6;refine GW (rf B4'.ds (by rw[List.length_map,hdl];exact m4 hn (by decide)) ⟨trivial,?_⟩);generalize (1+M:Int)=dv;refine bQ (B4'.ds' (D.ds++[dv])) λB4 f4=>?_;rw[show D.ds.map V.int++[V.int dv]=(D.ds++[dv]).map V.int from ma ..];refine cX ((eG (n:=D.n+1) (mf T B4 (.var hs) (by decide) rfl) B4.nodes (by rw[List.length_map];exact K6) (b8 (t8 O.nz) (by decide))).bin (w:=iv 1) (u:=iv D.n) .cst λ_ q=>DA q) ?_;exact q2 h1 _ wv dv ⟨B4.all,B4.nd⟩ (((((x1.frm.trans f1).trans f2).trans (x3.frm.trans f3)).trans (x6.frm.trans f4)))
end
theorem GA(a b:Nat):aJ [iv a,iv b]=[iv (min a b),iv (max a b)]:=by
 have:[iv a,iv b]=[a,b].map iv:=rfl
 rw[this];rcases j0 a b with h|h
 ·rw[jB (List.Perm.refl _) (by simpa using h),Nat.min_eq_left h,Nat.max_eq_right h];rfl
 ·rw[jB (List.Perm.swap b a []) (by simpa using h),E2 h,C2 h];rfl
section
variable{H:AH}{Q:V->AH->Prop}{D:HD}
theorem tq{D:HD}{H:AH}(A:D'.At H')(f:Frm H H' D.adr D'.adr)(F:∀x∈D.adr,x∈D'.adr){x:Addr}(B:H' x=none):H x=none:=by
 rcases z:H x with _|o
 ·rfl
 ·by_cases hm:x∈D.adr
  ·refine af (b9.mp (F x hm)) λp hp e=>?_;exact nn B (e▸A.all p hp)
  ·exact nn B (f.out _ _ z hm)
theorem Fc(T:Txt σ)(A:D.At H)(Y:D.par.length=k)(h2:D.lots.length=k)(hk:k<1000)(q:∀H' x,H x=none->((D.sPar (D.par++[k])).sLots (D.lots++[(x,[k])])).At H'->Frm H H' D.adr ((D.sPar (D.par++[k])).sLots (D.lots++[(x,[k])])).adr->Q (iv k) H') : MCall σ 1 "Unions" "make" [.ref D.up] H Q:=by obtain F:k<2^20:=m4 hk (by decide);obtain G:k<=2^21:=b8 (j7 hk) (by decide);obtain lp:(D.par.map iv).length=k:=(j8 _).trans Y;obtain Z:(D.lots.map λp=>V.ref p.1).length=k:=(j8 _).trans h2;refine aw T.ok T.Unions_make rfl (jy (kG T A (.var rfl) (by decide) rfl) A.par (eG (kG T A (.var rfl) (by decide) rfl) A.par lp G) (by rw[lp];exact F) ?_);rw[ma iv D.par k];obtain⟨B,f1⟩:=A.par' (D.par++[k]);refine mJ (kG T B (.var rfl) (by decide) rfl) B.lots (jC (fS (cB (eG (kG T B (.var rfl) (by decide) rfl) B.lots Z G) λx O=>?_)));obtain J:D.lp≠x:=am B.lots O;refine rf ((AH.set_ne _ _ J).trans B.lots) (by rw[Z];exact F) ⟨trivial,?_⟩;refine bQ (B.addLot (x:=x) (H':=((H.set D.ua (.list ((D.par++[k]).map iv))).set x (.list [iv k])).set D.lp (.list ((D.lots.map λp=>V.ref p.1)++[.ref x]))) [k] O ((AH.set_ne _ _ J.symm).trans (AH.set_self _ _ _)) (AH.set_self _ _ _) (λb y hb e=>by rw[AH.set_ne _ _ hb];exact(Ext.set _ O) _ _ e)) λP f2=>?_;exact cX ((eG (n:=k+1) (kG T P (.var rfl) (by decide) rfl) P.par (by rw[List.length_map];exact List.length_append.trans (j6 (· + 1) Y)) (b8 hk (by decide))).bin (w:=iv 1) .cst λ_ q=>DA q) (q _ x (tq B f1 (λ_ h=>h) O) P (f1.trans f2))
theorem xN{a:Addr}{x y:String}{v w:V}(h:H a=some (.list [v,w])):gN H (.tp2 (.nm x) (.nm y)) (.ref a) l=some ((l.put x v).put y w):=by unfold gN;simp only[h];rfl
theorem wN(O:D.UOk){b:Nat}(G:a<D.n)(J:b<D.n):D.r (min (D.r a) (D.r b))=min (D.r a) (D.r b)/\D.r (max (D.r a) (D.r b))=max (D.r a) (D.r b):=by
 obtain B:=(O.rle a G).2;obtain F:=(O.rle b J).2;rcases j0 (D.r a) (D.r b)with h|h
 ·rw[Nat.min_eq_left h,Nat.max_eq_right h];exact⟨B,F⟩
 ·rw[Nat.min_eq_right h,Nat.max_eq_left h];exact⟨F,B⟩
theorem wE(O:D.UOk){p:Addr×List Nat}(hp:D.lots[k]?=some p)(B:D.r k=k):p.2.length<=60:=b8 (a8 (O.lots k p hp B).length_eq) (b8 (D.mem_len k) O.nz)
theorem zt(T:Txt σ)(A:D.At H)(O:D.UOk){b:Nat}(ha:a<D.n)(hb:b<D.n)(q1:D.r a=D.r b->∀H',Ext H H'->Q .none H')(q2:∀k g pk pg,k<g->g<D.n->k=min (D.r a) (D.r b)->g=max (D.r a) (D.r b)->D.lots[k]?=some pk->D.lots[g]?=some pg->∀H',(((D.sPar (D.par.set g k)).sLots (D.lots.set k (pk.1,pk.2++pg.2))).sMrg (D.mrg++[.tup [iv k,iv g]])).At H' ->
   Frm H H' D.adr (((D.sPar (D.par.set g k)).sLots (D.lots.set k (pk.1,pk.2++pg.2))).sMrg (D.mrg++[.tup [iv k,iv g]])).adr->Q (.tup [iv k,iv g]) H') :
  MCall σ 2 "Unions" "merge" [.ref D.up,iv a,iv b] H Q:=by
 refine aw T.ok T.Unions_merge rfl (lZ (eA (jC (fS (aW (.var rfl) A.uni rfl T.Unions_find.some (.cons (.var rfl) .nil) (qH T A O ha (fS (aW (.var rfl) A.uni rfl T.Unions_find.some (.cons (.var rfl) .nil) (qH T A O hb λc hc=>.inl (bb _ (AH.set_self _ _ _) (cQ (l:=[D.r a,D.r b]) (show 2<64 by decide)) (λc2 hc2=>?_)))))))))));have x2:Ext H ((H.set c (.list [iv (D.r a),iv (D.r b)])).set c2 (.list (aJ [iv (D.r a),iv (D.r b)]))):=(Ext.set _ hc).trans' (Ext.set _ hc2);rw[GA]at x2 ⊢;have hm:=wN O ha hb;have B:¬D.r a=D.r b->min (D.r a) (D.r b)<max (D.r a) (D.r b):=λP=>KV rfl rfl P;have hke:D.r a=D.r b->min (D.r a) (D.r b)=max (D.r a) (D.r b):=λP=>by rw[P,Nat.min_self,Nat.max_self]
 have G:max (D.r a) (D.r b)<D.n:=KW rfl (EP O ha) (EP O hb);generalize hk:min (D.r a) (D.r b)=k at *;generalize hg:max (D.r a) (D.r b)=g at *;have A1:=A.ext x2;obtain f0:=x2.frm (A:=D.adr);refine(aa _ (xN (AH.set_self _ _ _)) ?_);generalize (H.set c (.list [iv (D.r a),iv (D.r b)])).set c2 (.list [iv k,iv g])=H1 at *;obtain cm:=EvT.cmp (σ:=σ) (l:=((bf ["self","a","b"] [.ref D.up,iv a,iv b]).put "kept" (iv k)).put "gone" (iv g)) (H:=H1) (op:=.eq) (e:=.var "kept") (e2:=.var "gone") (.var rfl) (.var rfl) (λQ q=>uK q);by_cases P:D.r a=D.r b
 ·rw[decide_eq_true (hke P)]at cm;exact jx cm (cX .cst (q1 P _ x2))
 ·obtain B:=B P;obtain Z:k<D.n:=m4 B G;rw[decide_eq_false (Nat.ne_of_lt B)]at cm;obtain⟨pk,F⟩:=wJ O Z;obtain⟨pg,J⟩:=wJ O G;have self:∀{H:AH},Ev σ (((bf ["self","a","b"] [.ref D.up,iv a,iv b]).put "kept" (iv k)).put "gone" (iv g)) H (.var "self") (.ref D.up):=.var rfl;obtain ad:(D.par.map iv).length=D.n:=(j8 _).trans O.lpar;refine gu cm (Gx (n:=g) (.var rfl) (kG T A1 self (by decide) rfl) (.var rfl) A1.par (u9 g) (by rw[ad];exact q9.mpr G) (by rw[ad];exact d9 O.nz (by decide)) ?_);rw[show(D.par.map iv).set ((g:Int).toNat) (iv k)=(D.par.set g k).map iv by rw[List.map_set];rfl];refine bQ (A1.par' (D.par.set g k)) λY f1=>?_;obtain hlk:=Y.lot pk (g9 F);obtain hlg:=Y.lot pg (g9 J);obtain hne:pk.1≠pg.1:=Y.ne (HD.objs_lot F) (HD.objs_lot J) (λz=>n9 B (Nat.add_left_cancel z));obtain lot:∀{i:Nat}{p:Addr×List Nat}{x:String},D.lots[i]?=some p->i<D.n->Ev σ (((bf ["self","a","b"] [.ref D.up,iv a,iv b]).put "kept" (iv k)).put "gone" (iv g)) _ (.var x) (iv i)->Ev σ _ _ (.idx (.attr (.var "self") "lots") (.var x)) (.ref p.1):=λh hi hv=>(kG T Y self (by decide) rfl).idx hv λ_ q=>dT Y.lots h (td hi O.nz) q;refine vO (lot F Z (.var rfl)) hlk (lot J G (.var rfl)) hlg hne ?_ ?_
  ·rw[List.length_map,List.length_map];exact b8 (u0 (wE O F hm.1) (wE O J hm.2)) (by decide)
  rw[<- List.map_append];refine bQ (Y.lot' (k:=k) (x:=pk.1) (ns:=pk.2) F (pk.2++pg.2)) λB2 f2=>?_;refine jy (kG T B2 self (by decide) rfl) B2.mrg (.tup (.cons (.var rfl) (.cons (.var rfl) .nil))) O.mrgz ?_;obtain⟨B3,f3⟩:=B2.mrg' (D.mrg++[.tup [iv k,iv g]]);exact cX (.tup (.cons (.var rfl) (.cons (.var rfl) .nil))) (q2 k g pk pg B G rfl rfl F J _ B3 ((f0.trans f1).trans (f2.trans f3)))
end
noncomputable def cN(D:HD)(a b:Nat)(rs:V)(k g:Nat)(pk pg:Addr×List Nat)(uk ug:Addr×List Nat)(x:Addr):HD :=((((((((D.sEdg (D.edg++[.tup [iv a,iv b,rs]])).sPar (D.par.set g k)).sLots (D.lots.set k (pk.1,pk.2++pg.2))).sMrg (D.mrg++[.tup [iv k,iv g]])).sFrs (D.frs++[.int (((D.edg++[V.tup [iv a,iv b,rs]]).length:Int)-1)])).sWait (D.wait++ug.2)).sAb (abJoin' D.ab k g x (uk.2++ug.2))).sRep (D.rep.map λy=>if y=g then k else y))
where abJoin' (ab:List (Nat×Addr×List Nat)) (kept gone:Nat) (x:Addr) (ns:List Nat):=HD.abJoin ab kept gone x ns
structure JoinOK(D:HD)(a b k g:Nat)(pk pg:Addr×List Nat)(uk ug:Addr×List Nat):Prop where
 lt:k<g
 gn:g<D.n
 ke:k=min (D.r a) (D.r b)
 ge:g=max (D.r a) (D.r b)
 rk:D.r k=k
 rg:D.r g=g
 pk:D.lots[k]?=some pk
 pg:D.lots[g]?=some pg
 uk:(k,uk)∈D.ab
 ug:(g,ug)∈D.ab
section
variable{D:HD}
theorem jM:∀{ab:List (Nat×Addr×List Nat)},(ab.map (·.1)).Nodup->∀{k:Nat}{u:Addr×List Nat},(k,u)∈ab->aA (ab.map λp=>(iv p.1,V.ref p.2.1)) (iv k)=some (.ref u.1)
 | [],_,k,u,h=>absurd h i6
 |p::ab,nd,k,u,h=>by
  rw[List.map_cons,List.nodup_cons]at nd;rw[List.map_cons,bM,cI];rcases i8.mp h with e|h
  ·subst e;simp
  ·obtain B:p.1≠k:=λe=>nd.1 (b9.mpr (aa (k,u) h e.symm));rw[decide_eq_false (KY B)];exact jM nd.2 h
theorem Ca(ab:List (Nat×Addr×List Nat))(g:Nat):ddel (ab.map λp=>(iv p.1,V.ref p.2.1)) (iv g)=(ab.filter λp=>p.1≠g).map λp=>(iv p.1,V.ref p.2.1):=by
 unfold ddel;rw[List.filter_map];congr 1;apply p7;intro p _;simp only[Function.comp,cI];by_cases h:p.1=g
 ·simp[h]
 ·simp[h];exact iY h
theorem Cb{ab:List (Nat×Addr×List Nat)}(hk:k∈ab.map (·.1))(x:Addr)(ns:List Nat):dput (ab.map λp=>(iv p.1,V.ref p.2.1)) (iv k) (.ref x)=(ab.map λp=>if p.1=k then(k,x,ns)else p).map λp=>(iv p.1,V.ref p.2.1):=by
 unfold dput
 have:(ab.map λp=>(iv p.1,V.ref p.2.1)).any (λp=>cM p.1 (iv k))=true:=by rw[List.any_eq_true];refine af (b9.mp hk) λp hp e=>?_;exact⟨_,b9.mpr ⟨p,hp,rfl⟩,by simp[cI,e]⟩
 rw[if_pos this,List.map_map,List.map_map];apply o7;intro p _;simp only[Function.comp,cI];by_cases h:p.1=k <;> simp[h];exact KZ h
theorem fz:∀{l:List Nat}{x:Nat},x∈l->x<=l.sum
 |a::l,x,h=>by
  rw[List.sum_cons];rcases i8.mp h with e|h
  ·exact La e
  ·obtain B:=fz h;exact Lb B
theorem fP(O:D.Ok){u:Addr×List Nat}(h:(k,u)∈D.ab):u.2.length<=2*D.n :=b8 (fz (b9.mpr (aa (k,u) h rfl))) O.tot
theorem yZ(O:D.Ok):D.ab.length<=D.n:=by obtain B:=bU D.n (D.ab.map (·.1)) O.abk.1 λx F=>(HD.mem_roots.mp ((O.abk.2 x).mp F)).1;simpa using B
theorem jN{ab:List (Nat×Addr×List Nat)}(k:Nat):keyFits (ab.map λp=>(iv p.1,V.ref p.2.1)) (iv k):=⟨C3,λp hp=>by refine af (b9.mp hp) λq _ aP=>?_;subst aP;rfl⟩
theorem rO(O:D.Ok)(hk:k<D.n)(F:D.r k=k):∃u,(k,u)∈D.ab:=by obtain B:=(O.abk.2 k).mpr (HD.mem_roots.mpr ⟨hk,F⟩);refine af (b9.mp B) λp hp e=>?_;exact⟨p.2,by rw[<- e];exact hp⟩
variable{H:AH}{Q:V->AH->Prop}
theorem zo(T:Txt σ)(A:D.At H)(O:D.Ok){b:Nat}{rs:V}(ha:a<D.n)(hb:b<D.n)(q1:D.r a=D.r b->∀H',(D.sEdg (D.edg++[.tup [iv a,iv b,rs]])).At H'->Frm H H' D.adr (D.sEdg (D.edg++[.tup [iv a,iv b,rs]])).adr->Q (.bool false) H')(q2:∀k g pk pg uk ug x H',JoinOK D a b k g pk pg uk ug->(cN D a b rs k g pk pg uk ug x).At H'->Frm H H' D.adr (cN D a b rs k g pk pg uk ug x).adr->Q (.bool true) H') : MCall σ 3 "Heap" "join" [.ref D.hp,iv a,iv b,rs] H Q:=by
 have hn:D.n<=60:=O.nz;obtain hM:=O.Mz;obtain Y:=O.edg;have hel:D.edg.length<=160:=b8 (b8 (m9 _ _) Y.1) (u0 hn hM);obtain hfl:D.frs.length<=60:=b8 (b8 (m9 _ _) Y.2.1) hn;obtain hwl:D.wait.length<2^19:=Lc O.cnt hn;refine aw T.ok T.Heap_join rfl (jy (gH T A (.var rfl) (by decide) rfl) A.edg (.tup (.cons (.var rfl) (.cons (.var rfl) (.cons (.var rfl) .nil)))) (d9 hel (by decide)) ?_);refine bQ (A.edg' (D.edg++[.tup [iv a,iv b,rs]])) λB1 f1=>?_;generalize (H.set D.ep (.list (D.edg++[.tup [iv a,iv b,rs]])))=Ha at *;obtain U1:(D.sEdg (D.edg++[.tup [iv a,iv b,rs]])).UOk:=⟨O.nz,O.lpar,O.llots,O.rle,O.pr,O.lots,O.u.mrgz⟩;refine lZ (aW (gH T B1 (.var rfl) (by decide) rfl) B1.uni rfl T.Unions_merge.some (.cons (.var rfl) (.cons (.var rfl) .nil)) (zt T B1 U1 ha hb (λhe H2 x2=>(aa _ rfl ?_)) λk g pk pg hkg J hke hge hpk hpg H2 B2 f2=>(aa _ rfl ?_)))
 ·exact jx (EvT.cmp (op:=.is) (v:=.none) (.var rfl) .cst λ_ q=>⟨rfl,by rw[bo];exact q⟩) (cX .cst (q1 he H2 (B1.ext x2) (f1.trans x2.frm)))
 obtain hm:=wN O.u ha hb;rw[<- show k=min (D.r a) (D.r b)from hke,<- show g=max (D.r a) (D.r b)from hge]at hm;have J:g<D.n:=J;obtain hkn:k<D.n:=m4 hkg J;obtain⟨uk,G⟩:=rO O hkn hm.1;obtain⟨ug,F⟩:=rO O J hm.2;obtain lk:uk.2.length<=120:=b8 (fP O G) (y4 2 hn);obtain lg:ug.2.length<=120:=b8 (fP O F) (y4 2 hn);obtain hab:D.ab.length<=60:=b8 (yZ O) hn;obtain⟨ik,hik⟩:=k9.mp G;obtain⟨ig,hig⟩:=k9.mp F;refine gu (EvT.cmp (op:=.is) (v:=.tup [iv k,iv g]) (.var rfl) .cst λ_ q=>⟨rfl,by rw[show cM (V.tup [iv k,iv g]) .none=false from aN.mpr V.noConfusion];exact q⟩) ?_;refine lZ (cB (.var rfl) (aa _ rfl ?_));have self:∀{H:AH},Ev σ ((((bf ["self","a","b","reason"] [V.ref D.hp,iv a,iv b,rs]).put "merged" (.tup [iv k,iv g])).put "kept" (iv k)).put "gone" (iv g)) H (.var "self") (.ref D.hp):=.var rfl;have Z:∀{H:AH},Ev σ ((((bf ["self","a","b","reason"] [V.ref D.hp,iv a,iv b,rs]).put "merged" (.tup [iv k,iv g])).put "kept" (iv k)).put "gone" (iv g)) H (.var "kept") (iv k):=.var rfl;have P:∀{H:AH},Ev σ ((((bf ["self","a","b","reason"] [V.ref D.hp,iv a,iv b,rs]).put "merged" (.tup [iv k,iv g])).put "kept" (iv k)).put "gone" (iv g)) H (.var "gone") (iv g):=.var rfl;refine jy (gH T B2 self (by decide) rfl) B2.frs ((eG (gH T B2 self (by decide) rfl) B2.edg rfl (by rw[List.length_append];exact b8 (t8 hel) (by decide))).bin (w:=iv 1) .cst λ_ q=>q) (d9 hfl (by decide)) ?_;refine bQ (B2.frs' (D.frs++[.int (((D.edg++[V.tup [iv a,iv b,rs]]).length:Int)-1)])) λB3 f3=>?_;generalize (H2.set D.fp (.list (D.frs++[.int (((D.edg++[V.tup [iv a,iv b,rs]]).length:Int)-1)])))=H3 at *;obtain e3g:=B3.abl (g,ug) F;obtain hnew:D.wp≠ug.1:=B3.ne (i:=17) rfl (HD.objs_ab hig) (λz=>Ld z);refine vO (gH T B3 self (by decide) rfl) B3.wait ((gH T B3 self (by decide) rfl).idx P λ_ q=>gU B3.ab (jN g) (jM O.abk.1 F) q) e3g hnew (by rw[List.length_map,List.length_map];exact b8 (u0 (j7 hwl) lg) (by decide)) ?_;rw[<- List.map_append];refine bQ (B3.wait' (D.wait++ug.2)) λB f4=>?_;generalize (H3.set D.wp (.list ((D.wait++ug.2).map iv)))=H4 at *;obtain e4k:=B.abl (k,uk) G;obtain e4g:=B.abl (g,ug) F;obtain abk:D.ap≠uk.1:=B.ne (i:=16) rfl (HD.objs_ab hik) (λz=>Ey z);obtain abg:D.ap≠ug.1:=B.ne (i:=16) rfl (HD.objs_ab hig) (λz=>Ey z);obtain hal:(D.ab.map λp=>(iv p.1,V.ref p.2.1)).length<2^20:=by rw[List.length_map];exact d9 hab (by decide)
 refine Pn (rQ (cB ((gH T B self (by decide) rfl).idx Z λ_ q=>gU B.ab (jN k) (jM O.abk.1 G) q) (kl (k:=.dict) (gH T B self (by decide) rfl) ⟨by decide,D.ap,_,rfl,B.ab⟩ (.cons P .nil) (bc D.ap _ rfl B.ab (.inr (.inr ⟨rfl,(mN _ _ rfl rfl hal (jM O.abk.1 F) ⟨_,_,(AH.set_ne _ _ abk.symm).trans e4k,(AH.set_ne _ _ abg.symm).trans e4g,?_,λx hx=>?_⟩)⟩))))))
 ·rw[List.length_map,List.length_map];exact b8 (u0 lk lg) (by decide)
 rw[<- List.map_append];obtain hxn:=tr B.ab hx;obtain hxa:D.ap≠x:=am B.ab hxn;obtain hkm:k∈(D.ab.filter λp=>p.1≠g).map (·.1):=b9.mpr (aa (k,uk) (u1.mpr ⟨G,r8 (n9 hkg)⟩) rfl);have x5:∀b y,b≠D.ap->H4 b=some y->((AH.set H4 D.ap (.dict (ddel (D.ab.map λp=>(iv p.1,V.ref p.2.1)) (iv g)))).set x (.list ((uk.2++ug.2).map iv))) b=some y:=λb y hb e=>(AH.set_ne _ _ (am e hxn)).trans ((AH.set_ne _ _ hb).trans e);have hd5:((AH.set H4 D.ap (.dict (ddel (D.ab.map λp=>(iv p.1,V.ref p.2.1)) (iv g)))).set x (.list ((uk.2++ug.2).map iv))) D.ap=some (.dict ((D.ab.filter λp=>p.1≠g).map λp=>(iv p.1,V.ref p.2.1))):=by rw[AH.set_ne _ _ hxa,AH.set_self,Ca]
 obtain n0:D.hp≠D.ap:=B.ne (i:=0) (j:=16) rfl rfl (by decide);obtain n1:D.hd≠D.ap:=B.ne (i:=1) (j:=16) rfl rfl (by decide);obtain hs:IsObj ((AH.set H4 D.ap (.dict (ddel (D.ab.map λp=>(iv p.1,V.ref p.2.1)) (iv g)))).set x (.list ((uk.2++ug.2).map iv))) D.hp "Heap" D.hd [("bank",.ref D.bp),("unions",.ref D.up),("edges",.ref D.ep),("forest",.ref D.fp),("known",.ref D.kp),("above",.ref D.ap),("waiting",.ref D.wp)]:=⟨x5 _ _ n0 B.heap.o,x5 _ _ n1 B.heap.d⟩;refine cB (self.attr hs (fH T (by decide)) rfl) (cB Z (aa D.ap rfl (.inr (iN _ hd5 (jN k) ?_ ?_))))
 ·rw[List.length_map];exact d9 (b8 (p8 _ _) hab) (by decide)
 rw[Cb hkm x (uk.2++ug.2)];refine bQ (B.joinAb (x:=x) (H':=AH.set ((AH.set H4 D.ap (.dict (ddel (D.ab.map λp=>(iv p.1,V.ref p.2.1)) (iv g)))).set x (.list ((uk.2++ug.2).map iv))) D.ap (.dict (((D.ab.filter λp=>p.1≠g).map λp=>if p.1=k then(k,x,uk.2++ug.2)else p).map λp=>(iv p.1,V.ref p.2.1)))) k g (uk.2++ug.2) O.abk.1 hxn ((AH.set_ne _ _ hxa.symm).trans (AH.set_self _ _ _)) (AH.set_self _ _ _) (λb y hb e=>(AH.set_ne _ _ hb).trans (x5 b y hb e))) λB5 f5=>?_;exact cX .cst (q2 k g pk pg uk ug x _ ⟨hkg,J,hke,hge,hm.1,hm.2,hpk,hpg,G,F⟩ ⟨B5.all,B5.nd⟩ ((f1.trans f2).trans (f3.trans (f4.trans f5))))
theorem zO(f:α->β)(l:List α)(i:Nat)(d:α)(e:β)(h:i<l.length):(l.map f).getD i e=f (l.getD i d):=by rw[List.getD_eq_getElem?_getD,List.getD_eq_getElem?_getD,List.getElem?_map,List.getElem?_eq_getElem h];rfl
theorem zP(l:List Nat)(i j v d:Nat)(h:i<l.length):(l.set i v).getD j d=if i=j then v else l.getD j d:=by
 rw[List.getD_eq_getElem?_getD,List.getD_eq_getElem?_getD,List.getElem?_set];by_cases e:i=j
 ·subst e;simp[h]
 ·simp[e]
theorem gQ{p q:α->Bool}:∀(l:List α),(∀x∈l,p x=true->q x=false)->(l.filter p++l.filter q).Perm (l.filter λx=>p x||q x)
 | [],_=>r7 _
 |a::l,h=>by
  obtain B:=gQ l λx G=>h x (d7 _ G);obtain F:=h a d6;rw[List.filter_cons,List.filter_cons,List.filter_cons];cases hp:p a with
  |true =>rw[F hp];exact B.cons a
  |false =>
   cases hq:q a with
   |true =>exact(M7).trans (B.cons a)
   |false=>exact B
section
variable{b g:Nat}{pk pg uk ug:Addr×List Nat}{rs:V}{x:Addr}
theorem jQ(O:D.Ok)(J:JoinOK D a b k g pk pg uk ug)(hi:i<D.n):(cN D a b rs k g pk pg uk ug x).r i=if D.r i=g then k else D.r i:=by show(D.rep.map λy=>if y=g then k else y).getD i 0=_;rw[zO _ _ _ 0 _ (by rw[O.lrep];exact hi)];rfl
theorem gX(O:D.Ok)(J:JoinOK D a b k g pk pg uk ug):(cN D a b rs k g pk pg uk ug x).roots=D.roots.filter λi=>decide (i≠g):=by
 unfold HD.roots;rw[List.filter_filter];apply p7;intro i hi;obtain hi:i<D.n:=j9.mp hi;have F:=J.lt;rw[jQ (rs:=rs) (x:=x) O J hi];by_cases h:D.r i=g
 ·rw[if_pos h];obtain B:¬k=i:=λe=>by subst e;rw[J.rk]at h;exact tx h F
  obtain G:¬(D.r i=i/\i≠g):=λz=>z.2 (by rw[<- z.1,h]);simp only[decide_eq_false B];symm;by_cases e:i=g
  ·simp[e]
  ·simp[e];exactλz=>G ⟨z,e⟩
 ·rw[if_neg h];by_cases e:i=g
  ·subst e;exact absurd J.rg h
  ·simp[e]
theorem lR(O:D.Ok)(J:JoinOK D a b k g pk pg uk ug):(D.roots.filter λi=>decide (i≠g)).length+1=D.roots.length:=by
 obtain B:g∈D.roots:=HD.mem_roots.mpr ⟨J.gn,J.rg⟩;obtain nd:D.roots.Nodup:=D.roots_rise.imp λh=>n9 h
 have:D.roots.filter (λi=>decide (i≠g))=D.roots.erase g:=by rw[List.Nodup.erase_eq_filter nd];apply p7;intro y _;simp[bne_iff_ne];by_cases h:y=g <;> simp[h]
 rw[this,List.length_erase_of_mem B];obtain this:=List.length_pos_of_mem B;exact Le this
theorem yi(O:D.Ok)(J:JoinOK D a b k g pk pg uk ug)(i:Nat):(cN D a b rs k g pk pg uk ug x).mem i=(List.range D.n).filter λj=>decide ((if D.r j=g then k else D.r j)=i):=by apply p7;intro j B;rw[jQ (rs:=rs) (x:=x) O J (List.mem_range.mp B)]
end
end
section
noncomputable abbrev GO:=List (Nat×Addr×List Nat)
noncomputable def rM(l:GO):Nat:=(l.map λp=>p.2.2.length).sum
theorem iL(p:Nat×Addr×List Nat)(l:GO):rM (p::l)=p.2.2.length+rM l:=by unfold rM;rw[List.map_cons,List.sum_cons]
theorem qw:∀{l:GO}{g:Nat}{u:Addr×List Nat},(l.map (·.1)).Nodup->(g,u)∈l->rM (l.filter λp=>p.1≠g)+u.2.length=rM l
 | [],_,_,_,h=>absurd h i6
 |p::l,g,u,nd,h=>by
  rw[List.map_cons,List.nodup_cons]at nd;rw[List.filter_cons,iL];rcases i8.mp h with e|h
  ·subst e
   have:l.filter (λp=>decide (p.1≠g))=l:=by rw[List.filter_eq_self];intro q hq;obtain this:q.1≠g:=λe=>nd.1 (b9.mpr ⟨q,hq,e⟩);simp[this]
   rw[this];simp;exact Lf
  ·obtain B:p.1≠g:=λe=>nd.1 (b9.mpr (aa (g,u) h e.symm));obtain F:=qw nd.2 h;simp only[B,ne_eq,not_false_eq_true,decide_true,if_true,iL];simp only[ne_eq]at F;exact Lg F
theorem xt:∀{l:GO}{k:Nat}{u:Addr×List Nat}(x:Addr)(ns:List Nat),(l.map (·.1)).Nodup->(k,u)∈l->rM (l.map λp=>if p.1=k then(k,x,ns)else p)+u.2.length=rM l+ns.length
 | [],_,_,_,_,_,h=>absurd h i6
 |p::l,k,u,x,ns,nd,h=>by
  rw[List.map_cons,List.nodup_cons]at nd;rw[List.map_cons,iL,iL];rcases i8.mp h with e|h
  ·subst e
   have:(l.map λp=>if p.1=k then(k,x,ns)else p)=l:=by refine(o7 λq hq=>?_).trans (List.map_id l);obtain this:q.1≠k:=λe=>nd.1 (b9.mpr (aa q hq e));rw[if_neg this];rfl
   rw[this];simp;exact Lh
  ·have B:p.1≠k:=λe=>nd.1 (b9.mpr (aa (k,u) h e.symm));have F:=xt x ns nd.2 h;rw[if_neg B];exact Li F
theorem pZ(ab:GO)(k g:Nat)(x:Addr)(ns:List Nat):(HD.abJoin ab k g x ns).map (·.1)=(ab.filter λp=>p.1≠g).map (·.1):=by
 unfold HD.abJoin;rw[List.map_map];apply o7;intro p _;show(if p.1=k then(k,x,ns)else p).1=p.1;split
 ·rename_i h;exact h.symm
 ·rfl
variable{D:HD}{b g:Nat}{pk pg uk ug:Addr×List Nat}{rs:V}{x:Addr}
theorem zU(O:D.Ok)(J:JoinOK D a b k g pk pg uk ug):(cN D a b rs k g pk pg uk ug x).Ok:=by
 obtain hn:D.n<=60:=O.nz;have ad:k<D.n:=m4 J.lt J.gn;have Y:=λ(i:Nat)(hi:i<D.n)=>jQ (rs:=rs) (x:=x) O J hi;have P:=J.lt;obtain F:(cN D a b rs k g pk pg uk ug x).roots.length+1=D.roots.length:=by rw[gX O J];exact lR O J
 obtain lug:=fP O J.ug;obtain hkf:(k,uk)∈D.ab.filter λp=>decide (p.1≠g):=u1.mpr ⟨J.uk,by simp;exact lL P⟩;obtain ndf:((D.ab.filter λp=>decide (p.1≠g)).map (·.1)).Nodup:=(List.filter_sublist.map _).nodup O.abk.1;refine⟨O.nz,O.lws,O.lds,?_,?_,?_,O.kids,O.ndn,O.nums,λi hi=>?_,λi hi=>?_,λi p hp hr=>?_,O.known,⟨?_,λi=>?_⟩,λp hp y B=>?_,?_,λy B=>?_,?_,(da ?_ ?_ ?_),O.Mz⟩
 ·show(D.par.set g k).length=D.n;rw[List.length_set];exact O.lpar
 ·show(D.lots.set k _).length=D.n;rw[List.length_set];exact O.llots
 ·show(D.rep.map _).length=D.n;rw[List.length_map];exact O.lrep
 ·rw[Y i hi];refine bQ (O.rle i hi) λr1 r2=>?_;by_cases h:D.r i=g
  ·rw[if_pos h,Y k ad,J.rk,if_neg (lL P)];exact⟨by exact Lj h r1 P,rfl⟩
  ·rw[if_neg h,Y _ (gJ O hi),r2,if_neg h];exact⟨r1,rfl⟩
 ·have hp:(cN D a b rs k g pk pg uk ug x).pr i=if g=i then k else D.pr i:=zP _ _ _ _ _ (by rw[O.lpar];exact J.gn)
  refine bQ (O.pr i hi) λp1 p2=>?_;rw[hp,Y i hi];by_cases h:g=i
  ·subst h;rw[if_pos rfl,if_pos J.rg];refine⟨λe=>e,λ_=>⟨P,?_⟩⟩;rw[Y k ad,J.rk,if_neg (by assumption)]
  ·rw[if_neg h];refine⟨λe=>?_,λe=>?_⟩
   ·rw[p1 e,if_neg (λz=>h z.symm)]
   ·refine bQ (p2 e) λp3 p4=>?_;have hi':i<D.n:=hi;exact⟨p3,by rw[Y _ (Nat.lt_trans p3 hi'),p4]⟩
 ·have hi:i<D.n:=by
   have:=(f9.mp hp).1
   obtain Q:(cN D a b rs k g pk pg uk ug x).lots.length=D.n:=by show(D.lots.set k _).length=D.n;rw[List.length_set];exact O.llots
   rw[Q]at this;exact this
  have G:(D.lots.set k (pk.1,pk.2++pg.2))[i]?=some p:=hp;rw[Y i hi]at hr;rw[yi O J];rw[List.getElem?_set]at G;split at G
  ·rename_i e;subst e;split at G
   ·obtain rfl:=c9 G;refine((O.lots k pk J.pk J.rk).append (O.lots g pg J.pg J.rg)).trans ?_;refine(gQ _ λy _ h=>?_).trans (List.Perm.of_eq ?_)
    ·simp only[decide_eq_true_eq]at h;simp;exact Lk h P
    ·apply p7;intro y _;by_cases h:D.r y=g
     ·simp[h]
     ·simp[h]
   ·exact ns G
  ·rename_i e;obtain hrg:D.r i≠g:=λz=>by rw[if_pos z]at hr;exact e hr
   rw[if_neg hrg]at hr;refine(O.lots i p G hr).trans (List.Perm.of_eq ?_);apply p7;intro y _;by_cases h:D.r y=g
   ·obtain this:¬g=i:=λz=>hrg (by rw[<- z];exact J.rg);simp[h,this,e]
   ·simp[h]
 ·show((HD.abJoin D.ab k g x (uk.2++ug.2)).map (·.1)).Nodup;rw[pZ];exact ndf
 ·show i∈(HD.abJoin D.ab k g x (uk.2++ug.2)).map (·.1)↔_;rw[pZ,gX O J,List.mem_filter,<- O.abk.2 i];simp only[List.mem_map,List.mem_filter,decide_eq_true_eq];constructor
  ·rintro⟨p,⟨Z,Q⟩,rfl⟩;exact⟨⟨p,Z,rfl⟩,Q⟩
  ·rintro⟨⟨p,Z,rfl⟩,Q⟩;exact(aa p ⟨Z,Q⟩ rfl)
 ·have hp:p∈HD.abJoin D.ab k g x (uk.2++ug.2):=hp;refine af (b9.mp hp) λq hq aP=>?_;subst aP;by_cases h:q.1=k
  ·rw[if_pos h]at B;rcases l9.mp B with B|B
   ·exact O.abm _ J.uk y B
   ·exact O.abm _ J.ug y B
  ·rw[if_neg h]at B;exact O.abm q (u1.mp hq).1 y B
 ·show rM (HD.abJoin D.ab k g x (uk.2++ug.2))<=2*D.n;obtain Z:=qw O.abk.1 J.ug;obtain Q:=xt x (uk.2++ug.2) ndf hkf;obtain h3:rM D.ab<=2*D.n:=O.tot;simp only[List.length_append]at Q;exact Ll Q Z h3
 ·have B:y∈D.wait++ug.2:=B;rcases l9.mp B with B|B
  ·exact O.wait y B
  ·exact O.abm _ J.ug y B
 ·have:=O.cnt
  show D.known.length+(D.wait++ug.2).length+200*(cN D a b rs k g pk pg uk ug x).roots.length<=D.n+200*D.n;rw[List.length_append];exact Lm F this lug hn
 ·have:=O.edg.1
  show(D.edg++[V.tup [iv a,iv b,rs]]).length+(cN D a b rs k g pk pg uk ug x).roots.length<=D.n+D.M;rw[List.length_append,List.length_singleton];exact Ln F this
 ·have:=O.edg.2.1
  show(D.frs++[_]).length+(cN D a b rs k g pk pg uk ug x).roots.length<=D.n;rw[List.length_append,List.length_singleton];exact Ez F this
 ·have:=O.edg.2.2
  show(D.mrg++[_]).length+(cN D a b rs k g pk pg uk ug x).roots.length<=D.n;rw[List.length_append,List.length_singleton];exact Ez F this
end
structure Grow(D D':HD)(H H':AH):Prop where
 ok:D'.Ok
 at_:D'.At H'
 frm:Frm H H' D.adr D'.adr
 hp:D'.hp=D.hp
 nodes:D'.nodes=D.nodes
 M:D'.M=D.M
 le:∀i j,i<D.n->j<D.n->D.r i=D.r j->D'.r i=D'.r j
theorem Grow.n{D:HD}{H:AH}(g:Grow D D' H H'):D'.n=D.n:=j6 List.length g.nodes
theorem Grow.refl{D:HD}{H:AH}(O:D.Ok)(A:D.At H)(x:Ext H H'):Grow D D H H':=⟨O,A.ext x,x.frm,rfl,rfl,rfl,λ_ _ _ _ e=>e⟩
theorem Grow.trans{D F:HD}{H H'':AH}(g:Grow D D' H H')(B:Grow D' F H' H''):Grow D F H H'' :=⟨B.ok,B.at_,g.frm.trans B.frm,B.hp.trans g.hp,B.nodes.trans g.nodes,B.M.trans g.M,λi j hi G e=>B.le i j (by rw[g.n];exact hi) (by rw[g.n];exact G) (g.le i j hi G e)⟩
section
variable{D:HD}{b g:Nat}{pk pg uk ug:Addr×List Nat}{rs:V}{x:Addr}
theorem zT(O:D.Ok)(J:JoinOK D a b k g pk pg uk ug)(i j:Nat)(hi:i<D.n)(B:j<D.n)(e:D.r i=D.r j):(cN D a b rs k g pk pg uk ug x).r i=(cN D a b rs k g pk pg uk ug x).r j:=by rw[jQ O J hi,jQ O J B,e]
theorem nI(O:D.Ok)(J:JoinOK D a b k g pk pg uk ug){H:AH}(A:(cN D a b rs k g pk pg uk ug x).At H')(f:Frm H H' D.adr (cN D a b rs k g pk pg uk ug x).adr):Grow D (cN D a b rs k g pk pg uk ug x) H H' :=⟨zU O J,A,f,rfl,rfl,rfl,zT O J⟩
theorem uU(O:D.Ok)(J:JoinOK D a b k g pk pg uk ug):(cN D a b rs k g pk pg uk ug x).roots.length+1=D.roots.length:=by rw[gX O J];exact lR O J
noncomputable def HD.work(D:HD):Nat:=D.roots.length*1000+D.wait.length
theorem uV(O:D.Ok)(J:JoinOK D a b k g pk pg uk ug):(cN D a b rs k g pk pg uk ug x).work<D.work:=by
 obtain B:=uU (rs:=rs) (x:=x) O J;obtain F:=fP O J.ug;obtain G:=O.nz;have P:(cN D a b rs k g pk pg uk ug x).wait.length=D.wait.length+ug.2.length:=by show(D.wait++ug.2).length=_;simp
 exact Lq F P G B
end
section
variable{H:AH}{Q:V->AH->Prop}{D:HD}
theorem nj:∀(l:List (Nd×Nat))(nd:Nd),(∃i,(nd,i)∈l/\aA (l.map λp=>(ak p.1,iv p.2)) (ak nd)=some (iv i))\/aA (l.map λp=>(ak p.1,iv p.2)) (ak nd)=none
 | [],nd=>.inr rfl
 |p::l,nd=>by
  rw[List.map_cons,bM];by_cases h:p.1=nd
  ·subst h;exact .inl ⟨p.2,d6,by rw[if_pos (bo _)]⟩
  ·rw[if_neg (by rw[bt];exactλz=>h (iC z))];rcases nj l nd with⟨i,F,B⟩|B
   ·exact .inl ⟨i,d7 _ F,B⟩
   ·exact .inr B
theorem HD.Ok.addKnown(O:D.Ok)(B:a<D.n)(F:D.known.length+D.wait.length+1+200*D.roots.length<=D.n+200*D.n)(nd:Nd):(D.sKnown (D.known++[(nd,a)])).Ok:=by
 refine⟨O.nz,O.lws,O.lds,O.lpar,O.llots,O.lrep,O.kids,O.ndn,O.nums,O.rle,O.pr,O.lots,λp hp=>?_,O.abk,O.abm,O.tot,O.wait,?_,O.edg,O.Mz⟩
 ·rcases l9.mp hp with h|h
  ·exact O.known p h
  ·rw[List.mem_singleton.mp h];exact B
 ·show(D.known++[(nd,a)]).length+D.wait.length+200*D.roots.length<=D.n+200*D.n;rw[List.length_append];exact Lr F
theorem pC(D:HD)(nd:Nd):keyFits D.kv (ak nd):=by obtain key:=fO nd;refine⟨by rw[key.2.2];decide,λp hp=>?_⟩;refine af (b9.mp hp) λx _ aP=>?_;subst aP;rw[key.2.2];exact(fO _).2.2
theorem pM(T:Txt σ)(A:D.At H)(O:D.Ok)(ha:a<D.n)(sl:D.known.length+D.wait.length+1+200*D.roots.length<=D.n+200*D.n)(q:∀H' D',Grow D D' H H'->(D'.work<D.work\/D'.work=D.work/\D'.wait.length=D.wait.length)->Q .none H'):MCall σ 4 "Heap" "look_at" [.ref D.hp,iv a] H Q:=by
 refine aw T.ok T.Heap_look_at rfl ?_;obtain hn:D.n<=60:=O.nz;obtain hroots:=D.roots_len;refine(aa _ rfl (jG A.heap (fH T (by decide)) rfl (aa .dict ⟨by decide,(fA D.kp _ rfl A.known)⟩ (aa _ rfl (aa _ (aE A.heap rfl T.Heap_node.some) (aa _ rfl (zr T A O ha λH1 x1=>(aa _ rfl ?_))))))));have A1:=A.ext x1;obtain hkl:D.kv.length<2^20:=by unfold HD.kv;rw[List.length_map];exact Lu sl hn
 have go:∀(G:HD)(H2:AH)(o:Nat),Grow D G H H2->o<D.n->G.roots=D.roots->G.wait=D.wait->G.hp=D.hp ->
   ∃l':Loc,gN H2 (.nm "other") (iv o) (bf ["self","n"] [.ref D.hp,iv a])=some l'/\aq σ 3 [.if1 (.cmp1 .ne (.meth (.var "self") "find" (.cons (.var "other") .nil)) (.meth (.var "self") "find" (.cons (.var "n") .nil))) [.expr (.meth (.var "self") "join" (.cons (.var "other") (.cons (.var "n") (.cons (.tup (.cons (.cst (.str "like")) .nil)) .nil))))] []] l' H2 (mO Q):=by
  intro G H2 o Y ho er ew ehp;refine(aa _ rfl ?_);obtain ad:G.n=D.n:=Y.n;have hw:G.work=D.work:=by unfold HD.work;rw[er,ew]
  have ho1:o<G.n:=by rw[ad];exact ho
  have Z:a<G.n:=by rw[ad];exact ha
  obtain B:=Y.at_;obtain P:=Y.ok;obtain F:((bf ["self","n"] [V.ref D.hp,iv a]).put "other" (iv o)) "self"=some (.ref G.hp):=by rw[ehp];rfl
  refine(aa _ F (aa _ (aE B.heap rfl T.Heap_find.some) (aa _ rfl ((jL T B P ho1 ?_).room Ay))));refine(aa _ F (aa _ (aE B.heap rfl T.Heap_find.some) (aa _ rfl ((jL T B P Z (rh _ _ _ _ ?_)).room Ay))));by_cases he:G.r o=G.r a
  ·rw[he,decide_eq_true rfl];refine fG rfl ?_;exact q H2 G Y (.inr ⟨hw,by rw[ew]⟩)
  ·refine fI (PR (iY he)) ?_;refine(aa _ F (aa _ (aE B.heap rfl T.Heap_join.some) (aa _ rfl (aa _ rfl (zo T B P ho1 Z (λz=>absurd z he) λk g pk pg uk ug x H3 J B3 f3=>⟨trivial,?_⟩)))));exact q H3 _ (Y.trans (nI P J B3 f3)) (.inl (by rw[<- hw];exact uV P J))
 refine(bc D.kp _ rfl A1.known (.inr (.inl ⟨rfl,(jh _ _ rfl (pC D _) hkl ?_)⟩)));rcases nj D.known (D.canon a)with⟨i,hi,e⟩|e
 ·have e':aA D.kv (ak (D.canon a))=some (iv i):=e;rw[e'];exact go D H1 i (Grow.refl O A x1) (O.known _ hi) rfl rfl rfl
 ·have e':aA D.kv (ak (D.canon a))=none:=e;rw[e'];refine bQ (A1.known' (D.known++[(D.canon a,a)])) λB1 f1=>?_;obtain ekv:(D.known++[(D.canon a,a)]).map (λp=>(ak p.1,iv p.2))=D.kv++[(ak (D.canon a),iv a)]:=by unfold HD.kv;simp
  rw[ekv]at B1 f1;exact go (D.sKnown (D.known++[(D.canon a,a)])) _ a ⟨O.addKnown ha sl _,B1,x1.frm.trans f1,rfl,rfl,rfl,λ_ _ _ _ e=>e⟩ ha rfl rfl rfl
end
section
variable{H:AH}{Q:V->AH->Prop}{D:HD}
theorem HD.Ok.pop(O:D.Ok){ws:List Nat}{x:Nat}(e:D.wait=ws++[x]):(D.sWait ws).Ok:=by
 obtain hc:=O.cnt;obtain hl:D.wait.length=ws.length+1:=by rw[e];simp
 refine⟨O.nz,O.lws,O.lds,O.lpar,O.llots,O.lrep,O.kids,O.ndn,O.nums,O.rle,O.pr,O.lots,O.known,O.abk,O.abm,O.tot,λy B=>?_,?_,O.edg,O.Mz⟩
 ·exact O.wait y (by rw[e];exact m8 _ B)
 ·show D.known.length+ws.length+200*D.roots.length<=D.n+200*D.n;exact Lv hl hc
theorem GD{b d:Nat}:b+a+200*c<=d+200*d->d<=60->a<2^20:=by omega
theorem sA(T:Txt σ)(A:D.At H)(O:D.Ok)(q:∀H' D',Grow D D' H H'->D'.wait=[]->Q .none H'):MCall σ 5 "Heap" "settle" [.ref D.hp] H Q:=by
 refine aw T.ok T.Heap_settle rfl (Bo (λm l H'=>l "self"=some (.ref D.hp)/\∃D',Grow D D' H H'/\m=D'.work) _ ⟨rfl,(aa D (Grow.refl O A (Ext.refl' _)) rfl)⟩ ?_);rintro m l H1 ⟨hs,F,Y,rfl⟩;obtain P:=Y.at_;have J:=Y.ok;have hz:F.wait.length<2^20:=GD J.cnt J.nz;have Z:l "self"=some (.ref F.hp):=by rw[Y.hp];exact hs
 obtain ew:=gH (f:="waiting") T P (.var Z) (by decide) rfl;have hc:EvT σ l H1 (.cmp1 .gt (.prim .len (.attr (.var "self") "waiting")) (.cst (.int 0))) (decide ((0:Int)<F.wait.length)):=.cmp (eG ew P.wait (j8 _) (b8 (j7 hz) (by decide))) .cst λ_ q=>(bc _ _ rfl rfl q);rcases List.eq_nil_or_concat F.wait with e|⟨ws,x,e⟩
 ·rw[decide_eq_false (by rw[e];decide)]at hc;exact .inr ⟨hc,q H1 F Y e⟩
 ·rw[List.concat_eq_append]at e;have G:F.wait.length=ws.length+1:=by rw[e,List.length_append];rfl
  rw[decide_eq_true (by rw[G];exact K0.mpr (u7 _))]at hc;refine .inl ⟨hc,λK' k _=>iK (un (.var Z) P.heap rfl T.Heap_look_at.some (fS (BA ew (by rw[P.wait,e,List.map_append];rfl) (by rw[List.length_map];exact m4 (by rw[G];exact y5 _) hz) ?_)))⟩;refine bQ (P.wait' ws) λB f=>?_;obtain ad:(F.sWait ws).work+1=F.work:=Lw G;refine(pM (D:=F.sWait ws) T B (J.pop e) (J.wait x (by rw[e];exact n8 _ (.head _))) (Ly G J.cnt) λH2 D2 g2 hw=>⟨trivial,k D2.work _ _ (Lz hw ad) ⟨hs,(aa D2 (Y.trans (Grow.trans ⟨J.pop e,B,f,rfl,rfl,rfl,λ_ _ _ _ e=>e⟩ g2)) rfl)⟩⟩)
theorem HD.Ok.up(O:D.Ok)(h:D.M<100):(D.sM (D.M+1)).Ok:=by obtain B:=O.edg;refine⟨O.nz,O.lws,O.lds,O.lpar,O.llots,O.lrep,O.kids,O.ndn,O.nums,O.rle,O.pr,O.lots,O.known,O.abk,O.abm,O.tot,O.wait,O.cnt,⟨?_,O.edg.2⟩,h⟩;exact LA B.1
theorem zn(T:Txt σ)(A:D.At H)(O:D.Ok){b:Nat}{rs:V}(Z:a<D.n)(hb:b<D.n)(G:D.M<100)(q:∀H' D' v,Grow (D.sM (D.M+1)) D' H H'->v=.bool true\/v=.bool false->Q v H'):MCall σ 4 "Heap" "merge" [.ref D.hp,iv a,iv b,rs] H Q:=by
 refine aw T.ok T.Heap_merge rfl ?_;obtain Y:(D.sM (D.M+1)).At H:=⟨A.all,A.nd⟩;obtain F:=O.up G;refine(aa _ rfl (aa _ (aE A.heap rfl T.Heap_join.some) (aa _ rfl (aa _ rfl (aa _ rfl (zo T Y F Z hb (λP H1 B f1=>?_) λk g pk pg uk ug x H1 J B f1=>?_))))))
 ·refine q H1 _ _ ⟨?_,B,f1,rfl,rfl,rfl,λ_ _ _ _ e=>e⟩ (.inr rfl);refine⟨O.nz,O.lws,O.lds,O.lpar,O.llots,O.lrep,O.kids,O.ndn,O.nums,O.rle,O.pr,O.lots,O.known,O.abk,O.abm,O.tot,O.wait,O.cnt,⟨?_,O.edg.2⟩,G⟩;obtain P:=O.edg;show(D.edg++[_]).length+D.roots.length<=D.n+(D.M+1);rw[List.length_append];exact LB P.1
 ·exact q H1 _ _ (nI F J B f1) (.inl rfl)
end
noncomputable def km(D:HD)(nd:Nd)(w d:Int)(x y:Addr):HD :=((((((((D.sNums (D.nums++[(ak nd,iv D.n)])).sNodes (D.nodes++[nd])).sWs (D.ws++[w])).sDs (D.ds++[d])).sPar (D.par++[D.n])).sLots (D.lots++[(x,[D.n])])).sAb (D.ab++[(D.n,y,[])])).sRep (D.rep++[D.n]))
theorem sR(l:List Nat)(v i d:Nat):(l++[v]).getD i d=if i=l.length then v else l.getD i d:=by
 rw[List.getD_eq_getElem?_getD,List.getD_eq_getElem?_getD,List.getElem?_append];by_cases h:i<l.length
 ·rw[if_pos h,if_neg (lL h)]
 ·rw[if_neg h];by_cases e:i=l.length
  ·subst e;simp
  ·rw[if_neg e,List.getElem?_eq_none (by simp;exact LC e h),List.getElem?_eq_none (tv h)]
section
variable{D:HD}{w d:Int}{x y:Addr}
theorem qC:(km D nd w d x y).n=D.n+1:=by show(D.nodes++[nd]).length=_;simp
theorem kn(O:D.Ok)(i:Nat):(km D nd w d x y).r i=if i=D.n then D.n else D.r i:=by show(D.rep++[D.n]).getD i 0=_;rw[sR,O.lrep];rfl
theorem mS(O:D.Ok):(km D nd w d x y).roots=D.roots++[D.n]:=by
 unfold HD.roots;rw[qC,List.range_succ,List.filter_append];congr 1
 ·apply p7;intro i hi;obtain B:=j9.mp hi;rw[kn O,if_neg (lL B)]
 ·simp[kn O]
theorem za(O:D.Ok)(c:Nat):(km D nd w d x y).mem c=D.mem c++if c=D.n then[D.n]else[]:=by
 unfold HD.mem;rw[qC,List.range_succ,List.filter_append];congr 1
 ·apply p7;intro i hi
  have:=j9.mp hi
  rw[kn O,if_neg (lL this)]
 ·by_cases h:c=D.n
  ·simp[kn O,h]
  ·rw[if_neg h];simp[kn O];exact LD h
theorem sj:(km D nd w d x y).tot=D.tot:=by show((D.ab++([(D.n,y,[])]:List (Nat×Addr×List Nat))).map λp=>p.2.2.length).sum=_;simp[HD.tot]
theorem BI(O:D.Ok)(hn:D.n<60)(ho:nd.1∈aR)(hk:nd.2.length<=2)(hks:∀k∈nd.2,k<D.n)(J:nd∉D.nodes):(km D nd w d x y).Ok:=by
 have er:=mS (nd:=nd) (w:=w) (d:=d) (x:=x) (y:=y) O;have F:=qC (D:=D) (nd:=nd) (w:=w) (d:=d) (x:=x) (y:=y);have R:=λi=>kn (nd:=nd) (w:=w) (d:=d) (x:=x) (y:=y) O i;have O1:=O.lws;have O2:=O.lds;have O3:=O.lpar;have Q:=O.llots;have O5:=O.lrep;obtain hc:=O.cnt;obtain he:=O.edg;have rl:(km D nd w d x y).roots.length=D.roots.length+1:=by rw[er];simp
 refine⟨by rw[F];exact LF hn,?_,?_,?_,?_,?_,λi P h=>?_,?_,?_,λi hi=>?_,λi hi=>?_,λi p hp hr=>?_,λp hp=>?_,⟨?_,λi=>?_⟩,λp hp z hz=>?_,?_,λz hz=>?_,?_,⟨?_,?_,?_⟩,O.Mz⟩
 ·rw[F];show(D.ws++[w]).length=_;simp[O1]
 ·rw[F];show(D.ds++[d]).length=_;simp[O2]
 ·rw[F];show(D.par++[D.n]).length=_;simp[O3]
 ·rw[F];show(D.lots++[(x,[D.n])]).length=_;simp[Q]
 ·rw[F];show(D.rep++[D.n]).length=_;simp[O5]
 ·have h:(D.nodes++[nd])[i]?=some P:=h;rw[List.getElem?_append]at h;split at h
  ·exact O.kids i P h
  ·rename_i hi;have G:¬i<D.n:=hi;rw[List.getElem?_singleton]at h;split at h
   ·obtain rfl:=c9 h;exact⟨λk hk=>by obtain B:=hks k hk;exact LG B hi,ho,hk⟩
   ·exact ns h
 ·show(D.nodes++[nd]).Nodup;rw[List.nodup_append];refine⟨O.ndn,by simp,λa Y b Z=>?_⟩;rw[List.mem_singleton.mp Z];rintro rfl;exact J Y
 ·show D.nums++[(ak nd,iv D.n)]=og (D.nodes++[nd]);unfold og;rw[List.zipIdx_append,List.map_append,O.nums];simp[og]
 ·rw[F]at hi;rw[R i];by_cases h:i=D.n
  ·rw[if_pos h,R,if_pos rfl];exact⟨by exact LH h,rfl⟩
  ·rw[if_neg h,R,if_neg (by obtain B:=gJ O (i:=i) (wR hi h);exact lL B)];exact O.rle i (wR hi h)
 ·rw[F]at hi;have hp:(km D nd w d x y).pr i=if i=D.n then D.n else D.pr i:=by show(D.par++[D.n]).getD i 0=_;rw[sR,O3];rfl
  rw[hp,R];by_cases h:i=D.n
  ·subst h;rw[if_pos rfl,if_pos rfl];exact⟨λ_=>rfl,λz=>absurd rfl z⟩
  ·rw[if_neg h,if_neg h];obtain B:=O.pr i (wR hi h);refine⟨B.1,λz=>?_⟩;obtain z2:=B.2 z;rw[R,if_neg (LJ z2.1 hi)];exact z2
 ·have hp:(D.lots++[(x,[D.n])])[i]?=some p:=hp;rw[za O];rw[List.getElem?_append]at hp;split at hp
  ·rename_i hi;obtain G:i<D.n:=by rw[<- Q];exact hi
   rw[R,if_neg (lL G)]at hr;rw[if_neg (lL G),List.append_nil];exact O.lots i p hp hr
  ·rename_i hi;have G:¬i<D.n:=by rw[<- Q];exact hi
   rw[List.getElem?_singleton]at hp;split at hp
   ·obtain rfl:=c9 hp;obtain B:i=D.n:=by exact LK (by assumption) Q G
    rw[if_pos B];have e0:D.mem i=[]:=by unfold HD.mem;rw[List.filter_eq_nil_iff];intro j hj;obtain hj:=j9.mp hj;obtain B:=gJ O hj;simp;exact LL B G
    rw[e0];exact r7 _
   ·exact ns hp
 ·rw[F];obtain B:=O.known p hp;exact tw B
 ·show((D.ab++([(D.n,y,[])]:List (Nat×Addr×List Nat))).map (·.1)).Nodup;rw[List.map_append,List.nodup_append];refine⟨O.abk.1,by simp,λa Y b Z=>?_⟩;obtain h1:=(HD.mem_roots.mp ((O.abk.2 a).mp Y)).1;obtain h2:b=D.n:=by simpa using Z
  exact LM h2 h1
 ·rw[er];show i∈(D.ab++([(D.n,y,[])]:List (Nat×Addr×List Nat))).map (·.1)↔_;rw[List.map_append,List.mem_append,List.mem_append,O.abk.2 i];rfl
 ·have hp:p∈D.ab++[(D.n,y,[])]:=hp;rw[F];rcases l9.mp hp with h|h
  ·obtain B:=O.abm p h z hz;exact tw B
  ·rw[List.mem_singleton.mp h]at hz;exact absurd hz i6
 ·rw[sj,F];obtain B:=O.tot;exact LN B
 ·rw[F];obtain B:=O.wait z hz;exact tw B
 ·rw[rl,F];exact LP hc
 ·rw[rl,F];exact LQ he.1
 ·rw[rl,F];exact Az he.2.1
 ·rw[rl,F];exact Az he.2.2
theorem HD.Ok.setAb(O:D.Ok){ab:List (Nat×Addr×List Nat)}(B:ab.map (·.1)=D.ab.map (·.1))(F:∀p∈ab,∀z∈p.2.2,z<D.n)(G:(ab.map λp=>p.2.2.length).sum<=2*D.n):(D.sAb ab).Ok :=⟨O.nz,O.lws,O.lds,O.lpar,O.llots,O.lrep,O.kids,O.ndn,O.nums,O.rle,O.pr,O.lots,O.known,by show(ab.map (·.1)).Nodup/\∀i,i∈ab.map (·.1)↔i∈D.roots;rw[B];exact O.abk,F,G,O.wait,O.cnt,O.edg,O.Mz⟩
end
theorem qT{l:List Nat}(h:∀v∈vs,v∈l.map iv):∃cs:List Nat,vs=cs.map iv/\∀c∈cs,c∈l:=by
 induction vs with
 |nil=>exact⟨[],rfl,λ_ h=>absurd h i6⟩
 |cons v vs F =>
  refine af (F λv hv=>h v (d7 _ hv)) λcs e hc=>?_;refine af (b9.mp (h v d6)) λc B aP=>?_;subst aP;exact⟨c::cs,by rw[e];rfl,λG h'=>by
   rcases i8.mp h' with rfl|h'
   ·exact B
   ·exact hc _ h'⟩
theorem mq(l:List Nat):∃cs:List Nat,aJ (aI (l.map iv))=cs.map iv/\(∀c∈cs,c∈l)/\cs.length<=l.length:=by refine af (qT (vs:=aJ (aI (l.map iv))) (l:=l) λv hv=>aK.mp ((ai _).mem_iff.mp hv)) λcs e hc=>?_;refine(bb cs e hc ?_);obtain B:=(ai (aI (l.map iv))).length_eq;obtain F:=bI (l.map iv);rw[e]at B;simp only[List.length_map]at B F;exact Eo B F
theorem xq(f:α->Nat):∀(l:List α)(k:Nat)(p q:α),l[k]?=some p->f q=f p+1->((l.set k q).map f).sum=(l.map f).sum+1
 | [],k,p,q,h,_=>by simp at h
 |a::l,0,p,q,h,e=>by simp only[List.getElem?_cons_zero,Option.some.injEq]at h;subst h;simp[e];exact Au
 |a::l,k+1,p,q,h,e=>by simp only[List.getElem?_cons_succ]at h;obtain B:=xq f l k p q h e;simp only[List.set_cons_succ,List.map_cons,List.sum_cons,B];exact LR
structure Wide(D D':HD)(H H':AH):Prop where
 ok:D'.Ok
 at_:D'.At H'
 frm:Frm H H' D.adr D'.adr
 hp:D'.hp=D.hp
 M:D'.M=D.M
theorem Wide.trans{D B:HD}{H H'':AH}(g:Wide D D' H H')(F:Wide D' B H' H''):Wide D B H H'':=⟨F.ok,F.at_,g.frm.trans F.frm,F.hp.trans g.hp,F.M.trans g.M⟩
section
variable{H:AH}{Q:V->AH->Prop}{D:HD}
theorem eZ(A:D.At H){x:Addr}(h:H x=none):x∉D.adr:=λhm=>by refine af (b9.mp hm) λp hp e=>?_;obtain B:=A.all p hp;rw[e,h]at B;exact ns B
theorem zc(T:Txt σ){ks:List Nat}(A:D.At H)(O:D.Ok)(hm:m<D.n)(hk:ks.length<=2)(Q:∀k∈ks,k<D.n)(ht:D.tot+2<=2*D.n)(sl:D.known.length+D.wait.length+1+200*D.roots.length<=D.n+200*D.n)(hs:l "self"=some (.ref D.hp))(hn:l "n"=some (iv m))(Y:l "numbers"=some (.tup (ks.map iv)))(q:∀l' H' (D':HD),D'.Ok->D'.At H'->Frm H H' D.adr D'.adr->D'.hp=D.hp->D'.nodes=D.nodes->D'.M=D.M->K (.ret (iv m)) l' H') : aq σ 4 [.for1 (.nm "c") (.exp (.prim .sortedSet (.comp (.meth (.var "self") "find" (.cons (.var "kid") .nil)) (.one (.nm "kid") (.exp (.var "numbers")) none)))) [.expr (.meth (.idx (.attr (.var "self") "above") (.var "c")) "append" (.cons (.var "n") .nil))],.expr (.meth (.var "self") "look_at" (.cons (.var "n") .nil)),.ret (.var "n")] l H K:=by
 obtain hk20:ks.length<2^20:=d9 hk (by decide);refine xB (eA (rR ks iv (λi=>iv (D.r i)) (.var Y) hk20 (λi hi H' Q' x k=>aW (.var ?_) (A.ext x).heap rfl T.Heap_find.some (.cons (.var rfl) .nil) ((jL T (A.ext x) O (Q i hi) (k H' (Ext.refl' _))).room (F9 2 2))) λc H4 x4 _ hc4=>?_))
 ·exact hs
 obtain ec:ks.map (λi=>iv (D.r i))=(ks.map D.r).map iv:=by rw[List.map_map];rfl
 rw[ec]at hc4;refine cL (mq (ks.map D.r)) λcs ecs hcs hcl=>?_;refine(bb _ hc4 (cQ (by rw[List.length_map];exact d9 hk (by decide))) (λs hs4=>?_));rw[ecs];obtain x5:Ext H (H4.set s (.list (cs.map iv))):=x4.trans' (Ext.set _ hs4);obtain A5:=A.ext x5;obtain e5:(H4.set s (.list (cs.map iv))) s=some (.list (cs.map iv)):=AH.set_self _ _ _;generalize H4.set s (.list (cs.map iv))=H5 at *;obtain hcr:∀c∈cs,c<D.n/\D.r c=c:=λc hc=>by refine af (b9.mp (hcs c hc)) λk hk aP=>?_;subst aP;exact⟨gJ O (Q k hk),(O.rle k (Q k hk)).2⟩
 obtain hsna:s∉D.adr:=eZ A (eY x4 hs4);rw[List.length_map]at hcl;obtain J:=b8 hcl hk;refine qR e5 (by rw[List.length_map];exact b8 J (by decide)) (dl (src:=some (s,cs.map iv)) (λxs l' H'=>Keep l "c" l'/\H' s=some (.list (cs.map iv))/\∃G:List Nat,xs=G.map iv/\(∀c∈G,c<D.n/\D.r c=c) /\
   ∃F,(D.sAb F).At H'/\Frm H5 H' D.adr (D.sAb F).adr/\F.map (·.1)=D.ab.map (·.1)/\(∀p∈F,∀z∈p.2.2,z<D.n)/\(F.map λp=>p.2.2.length).sum+G.length<=2*D.n) (λ_ _ _ h=>h.2.1) (λv xs l' H' k h hk'=>?_) (λl' H' h=>?_) _ _ _ (da Keep.refl e5 (bb cs rfl hcr (Rr D.ab A5 Frm.refl rfl O.abm (b8 (A8 J _) ht)))))
 ·obtain⟨kp,he',G,ex,P,F,B,f,k1,k2,k3⟩:=h;rcases G with _|⟨c,G⟩
  ·exact(o9 _ _ ex).elim
  ·obtain⟨rfl,rfl⟩:=J1 ex;obtain hc:=P c d6;have Ob:(D.sAb F).Ok:=O.setAb k1 k2 (b8 (m9 _ _) k3);refine bR (rO Ob hc.1 hc.2) λu Y=>?_;obtain⟨j,hj⟩:=k9.mp Y;obtain hul:u.2.length<=120:=b8 (fP Ob Y) (y4 2 O.nz);obtain sf:(l'.put "c" (iv c)) "self"=some (.ref D.hp):=(kp.put _ (by decide)).trans hs;refine(aa _ rfl (jy ((gH (f:="above") T B (.var sf) (by decide) rfl).idx (.var rfl) λ_ q=>gU B.ab (jN c) (jM Ob.abk.1 Y) q) (B.abl _ Y) (.var ((kp.put _ (by decide)).trans hn)) (by rw[List.length_map];exact d9 hul (by decide)) ?_));rw[ma iv u.2 m];refine bQ (B.abl' (i:=c) (x:=u.1) (ns:=u.2) hj (u.2++[m])) λB2 f2=>?_;obtain hsB:s∉(D.sAb F).adr:=λhm=>(f.new s hm).elim hsna λz=>nn z e5;refine hk' _ _ (da kp.put (f2.out _ _ he' hsB) (bb G rfl (λc' h=>P c' (d7 _ h)) (Rr _ B2 (f.trans f2) ?_ (λp hp z hz=>?_) ?_)))
   ·rw[<- k1];exact eu (p:=(c,u.1,u.2)) hj rfl
   ·rcases List.mem_or_eq_of_mem_set hp with h|h
    ·exact k2 p h z hz
    ·subst h;rcases l9.mp hz with h|h
     ·exact k2 _ Y z h
     ·rw[List.mem_singleton.mp h];exact hm
   ·obtain this:=xq (λp:Nat×Addr×List Nat=>p.2.2.length) F j (c,u.1,u.2) (c,u.1,u.2++[m]) hj K6;show((F.set j (c,u.1,u.2++[m])).map λp=>p.2.2.length).sum+_<=_;rw[this,Nat.add_assoc,Nat.add_comm 1];exact k3
 ·refine jg h λkp _ zq6=>?_;refine cL zq6 λ_ _ _ zq7=>?_;refine RN zq7 λF B f k1 k2 k3=>?_;have Ob:(D.sAb F).Ok:=O.setAb k1 k2 (b8 (m9 _ _) k3);exact iK (aW (.var ((kp _ (by decide)).trans hs)) B.heap rfl T.Heap_look_at.some (.cons (.var ((kp _ (by decide)).trans hn)) .nil) (pM (D:=D.sAb F) T B Ob hm sl λH6 D6 Z _=>⟨trivial,cX (.var ((kp _ (by decide)).trans hn)) (q _ H6 D6 Z.ok Z.at_ (x5.frm.trans (f.trans Z.frm)) Z.hp Z.nodes Z.M)⟩))
theorem zm(T:Txt σ)(A:D.At H)(O:D.Ok){op:String}{ks:List Nat}(ho:op∈aR)(hk:ks.length<=2)(J:∀k∈ks,k<D.n)(hn:D.n<60)(q:∀H' D' i,Wide D D' H H'->D'.nodes[i]?=some (op,ks)->(D'.nodes=D.nodes\/D'.nodes=D.nodes++[(op,ks)]/\(op,ks)∉D.nodes)->Q (iv i) H') : MCall σ 5 "Heap" "add" [.ref D.hp,.str op,.tup (ks.map iv)] H Q:=by
 have B:D.n<=1000:=b8 (j7 hn) (by decide);obtain bank:∀{l:Loc}{H:AH}{D':HD},D'.At H->l "self"=some (.ref D'.hp)->Ev σ l H (.attr (.var "self") "bank") (.ref D'.bp):=λA h=>gH T A (.var h) (by decide) rfl;have uni:∀{l:Loc}{H:AH}{D':HD},D'.At H->l "self"=some (.ref D'.hp)->Ev σ l H (.attr (.var "self") "unions") (.ref D'.up):=λA h=>gH T A (.var h) (by decide) rfl;have lt:∀{i:Nat}{H:AH}{X Y:Prop},(if decide (i<D.n)=true then X else Y)->(if decide ((i:Int)<(D.n:Int))=true then X else Y):=λ{i}{_}{X Y} h=>by rw[show decide ((i:Int)<(D.n:Int))=decide (i<D.n)from decide_eq_decide.mpr Int.ofNat_lt];exact h
 refine aw T.ok T.Heap_add rfl (lZ (aW (bank A rfl) A.bank rfl T.Bank_take.some (.cons (.var rfl) (.cons (.var rfl) .nil)) ((Fd T A O ho hk J hn (λi hi=>⟨_,rfl,?_⟩) λG H1 w d Z f1=>⟨_,rfl,?_⟩).room (G3 3))))
 ·exact xC (cB (.var rfl) (aW (uni A rfl) A.uni rfl T.Unions_size.some .nil ((wc T A O.lpar B ⟨_,_,rfl,rfl,lt (H:=H) (fI (r8 (f9.mp hi).1) (cX (.var rfl) (q H D i ⟨O,A,Frm.refl,rfl,rfl⟩ hi (.inl rfl))))⟩).room (F9 1 3))))
 refine xC (cB (.var rfl) (aW (uni Z rfl) Z.uni rfl T.Unions_size.some .nil ((wc T Z O.lpar B ⟨_,_,rfl,rfl,lt (H:=H1) (fG (q7 (M1 _)) ?_)⟩).room (F9 1 3))));refine iK (aW (uni Z rfl) Z.uni rfl T.Unions_make.some .nil ((Fc T Z O.lpar O.llots (o6 hn (by decide)) λH2 x hx A2 f2=>⟨trivial,?_⟩).room (F9 1 3)));refine Pn (jC λy hy=>?_);obtain hya:D.ap≠y:=am A2.ab hy;obtain P:aA D.abv (iv D.n)=none:=fZ λp hp=>by
  unfold HD.abv at hp;refine af (b9.mp hp) λe he zq8=>?_;subst zq8
  exactλz=>n9 (HD.mem_roots.mp ((O.abk.2 _).mp (b9.mpr ⟨e,he,rfl⟩))).1 (gW z)
 obtain x3:Ext H2 (H2.set y (.list [])):=Ext.set _ hy;obtain ad:(D.ab.map λp=>(iv p.1,V.ref p.2.1)).length<2^20:=by rw[List.length_map];exact d9 (b8 (yZ O) (j7 hn)) (by decide)
 refine cB (gH (D:=(D.take (op,ks) w d).sPar _ |>.sLots _) T (A2.ext x3) (.var rfl) (by decide) rfl) (cB (.var rfl) (aa D.ap rfl (.inr (iN _ ((A2.ext x3).ab) (jN D.n) ad ?_))));rw[bz (kvs:=(((D.take (op,ks) w d).sPar ((D.take (op,ks) w d).par++[D.n])).sLots ((D.take (op,ks) w d).lots++[(x,[D.n])])).abv) P];refine bQ (A2.addAb (x:=y) (H':=(H2.set y (.list [])).set D.ap (.dict ((D.ab.map λp=>(iv p.1,V.ref p.2.1))++[(iv D.n,.ref y)]))) D.n [] hy ((AH.set_ne _ _ hya.symm).trans (AH.set_self _ _ _)) (AH.set_self _ _ _) (λb z hb e=>(AH.set_ne _ _ hb).trans (x3 _ _ e))) λA3 f3=>?_;have n3:(km D (op,ks) w d x y).n=D.n+1:=qC;obtain O3:(km D (op,ks) w d x y).Ok:=BI O hn ho hk J G;have t3:(km D (op,ks) w d x y).tot=D.tot:=sj;obtain r3:(km D (op,ks) w d x y).roots.length=D.roots.length+1:=by rw[mS O,List.length_append];rfl
 refine zc (D:=km D (op,ks) w d x y) T ⟨A3.all,A3.nd⟩ O3 (by rw[n3];exact y5 _) hk (λk h=>by rw[n3];exact I6 (J k h)) (by rw[t3,n3,Nat.mul_add];exact E0 O.tot 2) ?_ rfl rfl rfl λl' H' D' o a f hp nod hM=>?_
 ·rw[r3,n3];exact LU O.cnt
 ·have F:D'.nodes=D.nodes++[(op,ks)]:=nod;refine q H' D' D.n ⟨o,a,((f1.trans f2).trans f3).trans f,hp,hM⟩ ?_ (.inr ⟨F,G⟩);rw[F,List.getElem?_append_right (Nat.le_refl _),Nat.sub_self];rfl
end
section
variable{c:Addr}
set_option genCtorIdx false
inductive Tr where
 |leaf (s:String)
 |f (t:Tr)
 |g (t u:Tr)
noncomputable def Tr.v:Tr->V
 | .leaf s=>.tup [.str s]
 | .f t=>.tup [.str "f",t.v]
 | .g t u=>.tup [.str "g",t.v,u.v]
noncomputable def Tr.ok:Nat->Tr->Prop
 |_,.leaf s=>s∈["a","b","c"]
 |h+1,.f t=>t.ok h
 |h+1,.g t u=>t.ok h/\u.ok h
 |0,_=>False
noncomputable def Tr.sz:Tr->Nat
 | .leaf _=>1
 | .f t=>t.sz+1
 | .g t u=>t.sz+u.sz+1
def Added(N:List Nd)(nd:Nd)(N':List Nd)(i:Nat):Prop:=N'[i]?=some nd/\(N'=N\/N'=N++[nd]/\nd∉N)
noncomputable def Built:List Nd->Tr->List Nd->Nat->Prop
 |N,.leaf s,N',i=>Added N (s,[]) N' i
 |N,.f t,N',i=>∃B j,Built N t B j/\Added B ("f",[j]) N' i
 |N,.g t u,N',i=>∃B j F k,Built N t B j/\Built B u F k/\Added F ("g",[j,k]) N' i
theorem Added.len{N':List Nd}(h:Added N nd N' i):i<N'.length/\N.length<=N'.length/\N'.length<=N.length+1:=by
 obtain⟨B,F⟩:=h;refine⟨(f9.mp B).1,?_⟩;rcases F with rfl|⟨rfl,_⟩
 ·exact LV
 ·simp
theorem Built.len{t:Tr}:∀{N N':List Nd}{i:Nat},Built N t N' i->i<N'.length/\N.length<=N'.length/\N'.length<=N.length+t.sz:=by
 induction t with
 |leaf s=>exactλh=>Added.len h
 |f t a=>exactλh=>cb h λ_ _ F B=>LW B.len.2.2 (a F).2.1 (a F).2.2 B.len.2.1 B.len.1
 |g t u a b=>exactλh=>Px h λ_ _ _ _ F B G=>LX (b B).2.2 (b B).2.1 G.len.2.2 (a F).2.1 (a F).2.2 G.len.2.1 G.len.1
theorem HD.At.setOut{D:HD}{H:AH}(A:D.At H)(o:AO)(h:c∉D.adr):D.At (H.set c o):=⟨λp hp=>by
 rw[AH.set_ne]
 ·exact A.all p hp
 ·rintro rfl;exact h (b9.mpr (aa p hp rfl)),A.nd⟩
theorem Wide.setc{D:HD}{H:AH}(g:Wide D D' H H')(o:AO)(h:c∉D'.adr)(hc:H c=none):Wide D D' H (H'.set c o) :=⟨g.ok,g.at_.setOut o h,⟨λx y e B=>by rw[AH.set_ne _ _ (am e hc)];exact g.frm.out x y e B,g.frm.new⟩,g.hp,g.M⟩
theorem Wide.notin{D:HD}{H:AH}(g:Wide D D' H H'){o:AO}(h:c∉D.adr)(hc:H c=some o):c∉D'.adr:=λhm=>by
 rcases g.frm.new c hm with h'|h'
 ·exact h h'
 ·rw[hc]at h';exact sn h'
theorem Wide.ext{D:HD}{H H1:AH}(x:Ext H H1)(g:Wide D D' H1 H'):Wide D D' H H':=⟨g.ok,g.at_,x.frm.trans g.frm,g.hp,g.M⟩
def Ht(σ:Sx)(d:Nat)(l:Loc)(c:Addr)(v:V)(H:AH)(k:AH->Prop):Prop:=∃l',bm (.nm "part") v (l.drop ["part"])=some l'/\yV σ d none l' H λok H2=>if ok=true then aS σ d (.meth (.var "self") "put" (.cons (.var "part") .nil)) l' H2 λv H3=>∃ws,H3 c=some (.list ws)/\ws.length<2^20/\k (H3.set c (.list (ws++[v])))else k H2
theorem oy{D:HD}{H:AH}{Q:V->AH->Prop}(T:Txt σ){d:Nat}{op:String}(A:D.At H)(hz:vs.length<=2)(k:∀c,H c=none->fu none (Ht σ d (bf ["self","term"] [.ref D.hp,.tup (.str op::vs)]) c) vs (H.set c (.list [])) λH'=>∃ws,H' c=some (.list ws)/\ws.length<=16384/\MCall σ d "Heap" "add" [.ref D.hp,.str op,.tup ws] H' Q):MCall σ (d+1) "Heap" "put" [.ref D.hp,.tup (.str op::vs)] H Q:=by refine aw T.ok T.Heap_put rfl (aa _ rfl (aa _ (aE A.heap rfl T.Heap_add.some) (aa _ rfl ⟨0,_,rfl,by decide,rfl,_,rfl,b8 (t8 hz) (by decide),F9 1 _,rfl,rfl,b8 hz (by decide),λc hc=>(aa c rfl (k c hc))⟩)))
theorem oz{D:HD}{H:AH}(T:Txt σ){d:Nat}{t:Tr}{J:HD}{ws:List V}{K:AH->Prop}(hs:l "self"=some (.ref D.hp))(W:Wide J D H0 H)(G:H0 c=none)(hc:H c=some (.list ws))(B:c∉D.adr)(hz:ws.length<2^20)(P:∀Q,(∀H' D' i,Wide D D' H H'->Built D.nodes t D'.nodes i->Q (iv i) H')->MCall σ d "Heap" "put" [.ref D.hp,t.v] H Q)(k:∀H' D' i,Wide J D' H0 H'->H' c=some (.list (ws++[iv i]))->c∉D'.adr->D'.hp=D.hp->Built D.nodes t D'.nodes i->K H'):Ht σ d l c t.v H K :=
 (aa _ rfl (yT (fI rfl (aa _ ((aj _ _ (by decide)).trans ((bN _ (by decide)).trans hs)) (aa _ (aE W.at_.heap rfl T.Heap_put.some) (aa _ (ao _ _ _) (P _ λH2 O i F hi =>
  bb _ (F.frm.out _ _ hc B) hz (k _ O i ((W.trans F).setc _ (F.notin B hc) G) (AH.set_self _ _ _) (F.notin B hc) F.hp hi))))))))
theorem GX(T:Txt σ)(t:Tr):∀{h:Nat}{D:HD}{H:AH}{Q:V->AH->Prop},D.At H->D.Ok->t.ok h->D.n+t.sz<=60 ->(∀H' D' i,Wide D D' H H'->Built D.nodes t D'.nodes i->Q (iv i) H')->MCall σ (6+h) "Heap" "put" [.ref D.hp,t.v] H Q:=by
 have Y:∀{D:HD}{H:AH}{c:Addr}{o:AO},D.At H->D.Ok->H c=none->Wide D D H (H.set c o):=λA O hc=>⟨O,A.ext (Ext.set _ hc),(Ext.set _ hc).frm,rfl,rfl⟩;induction t with
 |leaf s =>intro h D H Q A O B hs q;have an:s∈aR:=(by decide:∀s∈["a","b","c"],s∈aR) s (by cases h <;> exact B);refine(oy (vs:=[]) T A (by decide) λc hc=>⟨trivial,bb _ (AH.set_self _ _ _) (by decide) ?_⟩).room LZ;exact zm T (A.ext (Ext.set _ hc)) O (ks:=[]) an (by decide) (λ_ h=>absurd h i6) (LY rfl hs) λH' D' i W hi hN=>q H' D' i (W.ext (Ext.set _ hc)) ⟨hi,hN⟩
 |f t ih =>
  intro h;rcases h with _|h
  ·exactλ_ _ B=>B.elim
  intro D H Q A O B hs q;refine(oy (vs:=[t.v]) T A (G3 1) λc hc=>⟨trivial,oz T rfl (Y A O hc) hc (AH.set_self _ _ _) (eZ A hc) (G0 20) (λQ q=>ih (Y A O hc).at_ O B (Ma rfl hs) q) λH2 D2 i G e2 n2 F hi=>⟨trivial,bb _ e2 (by show 1<=16384;decide) ?_⟩⟩).room EA;rw[<- F];exact(zm T G.at_ G.ok (ks:=[i]) (by decide) (G3 1) (λk hk=>j5.mp hk▸hi.len.1) (Mb hs hi.len.2.2) λH' D' i' W J hN=>q H' D' i' (G.trans W) (bc _ _ hi J hN)).room EB
 |g t u ih ih2 =>
  intro h;rcases h with _|h
  ·exactλ_ _ B=>B.elim
  intro D H Q A O B hs q;refine(oy (vs:=[t.v,u.v]) T A (f7 2) λc hc=>⟨trivial,oz T rfl (Y A O hc) hc (AH.set_self _ _ _) (eZ A hc) (G0 20) (λQ q=>ih (Y A O hc).at_ O B.1 (Mc hs) q) λH2 D2 i G e2 n2 F hi =>
   ⟨trivial,oz T (j6 (some∘V.ref) F.symm) G hc e2 n2 (by show 1<2^20;decide) (λQ q=>ih2 G.at_ G.ok B.2 (Md hs hi.len.2.2) q) λH4 D4 j Z e4 n4 ad P=>⟨trivial,bb _ e4 (by show 2<=16384;decide) ?_⟩⟩⟩).room EA
  rw[<- F,<- ad];exact(zm T Z.at_ Z.ok (ks:=[i,j]) (by decide) (f7 2) (J4.mpr ⟨wT P.len.2.1 hi.len.1,λk hk=>j5.mp hk▸P.len.1⟩) (Me hs hi.len.2.2 P.len.2.2) λH' D' i' W J hN=>q H' D' i' (Z.trans W) (Rt _ _ _ _ hi P J hN)).room EB
end
section
variable{L:List (Addr×AO)}
structure Hold(H0 H:AH)(L:List (Addr×AO)):Prop where
 ext:Ext H0 H
 all:∀p∈L,H p.1=some p.2/\H0 p.1=none
 nd:(L.map (·.1)).Nodup
theorem Hold.nil{H:AH}:Hold H H []:=⟨Ext.refl' H,(λ_ h=>nomatch h),s9⟩
theorem Hold.new{H:AH}{L1 L2:List (Addr×AO)}(h:Hold H0 H (L1++L2)){c:Addr}(o:AO)(hc:H c=none):Hold H0 (H.set c o) (L1++(L2++[(c,o)])):=by
 rw[<- List.append_assoc];refine⟨h.ext.trans' (Ext.set _ hc),λp hp=>?_,?_⟩
 ·rcases l9.mp hp with hp|hp
  ·obtain B:=h.all p hp;exact⟨(Ext.set _ hc) _ _ B.1,B.2⟩
  ·rw[List.mem_singleton.mp hp];exact⟨AH.set_self _ _ _,eY h.ext hc⟩
 ·rw[List.map_append,List.nodup_append];refine⟨h.nd,by simp,λa G b F=>?_⟩;refine af (b9.mp G) λp hp aP=>?_;subst aP;obtain F:b=c:=by simpa using F
  rw[F];exact am (h.all p hp).1 hc
theorem Hold.upd{H:AH}{L1 L2:List (Addr×AO)}{a:Addr}{o:AO}(h:Hold H0 H (L1++(a,o)::L2))(o':AO):Hold H0 (H.set a o') (L1++(a,o')::L2):=by
 have G:=h.all (a,o) (by simp);obtain nd:=h.nd;rw[List.map_append,List.map_cons]at nd;obtain B:=List.perm_middle.nodup_iff.mp nd;rw[List.nodup_cons]at B;refine⟨h.ext.setc G.2 o',λp hp=>?_,?_⟩
 ·have key:p∈L1++L2->(H.set a o') p.1=some p.2/\H0 p.1=none:=λhm=>by
   obtain F:p.1≠a:=λe=>B.1 (by rw[<- List.map_append];exact b9.mpr (aa p hm e));rw[AH.set_ne _ _ F];refine h.all p ?_;rcases l9.mp hm with hm|hm
   ·exact m8 _ hm
   ·exact n8 _ (d7 _ hm)
  rcases l9.mp hp with hp|hp
  ·exact key (m8 _ hp)
  ·rcases i8.mp hp with rfl|hp
   ·exact⟨AH.set_self _ _ _,G.2⟩
   ·exact key (n8 _ hp)
 ·rw[List.map_append,List.map_cons];exact nd
theorem wh{ps:List (String×V)}{f:String}(h:ps.lookup f=none)(v:V):dput (fl ps) (.str f) v=fl (ps++[(f,v)]):=by rw[bz (by rw[fY];exact h)];unfold fl;simp
theorem Hold.perm{H:AH}{M:List (Addr×AO)}(h:Hold H0 H L)(P:L.Perm M):Hold H0 H M:=⟨h.ext,λp hp=>h.all p (P.mem_iff.mpr hp),(P.map _).nodup_iff.mp h.nd⟩
def Mk(H0 H:AH)(x:Addr)(c:String)(dx:Addr)(ps:List (String×V))(L:List (Addr×AO)):Prop:=Hold H0 H ((dx,.dict (fl ps))::(x,.inst c dx)::L)
section
variable{H:AH}{Q:V->AH->Prop}{x:Addr}{c:String}{ps:List (String×V)}{L:List (Addr×AO)}
theorem Mk.put(h:Mk H0 H x c dx ps L){f:String}(B:ps.lookup f=none)(v:V):Mk H0 (H.set dx (.dict (dput (fl ps) (.str f) v))) x c dx (ps++[(f,v)]) L:=by rw[wh B];exact Hold.upd (L1:=[]) h _
theorem Mk.new(h:Mk H0 H x c dx ps L){a:Addr}(o:AO)(B:H a=none):Mk H0 (H.set a o) x c dx ps (L++[(a,o)]):=Hold.new (L1:=[(dx,.dict (fl ps)),(x,.inst c dx)]) h o B
theorem Mk.back{y F:Addr}{G:String}{B:List (String×V)}{R:List (Addr×AO)}(h:Mk H0 H y G F B (((dx,.dict (fl ps))::(x,.inst c dx)::L)++R)):Mk H0 H x c dx ps ((F,.dict (fl B))::(y,.inst G F)::(L++R)) :=Hold.perm h (List.perm_append_comm_assoc [_,_] [_,_] _)
section
variable{d:Nat}{f:String}
theorem Mk.at_(h:Mk H0 H x c dx ps L)(hs:l "self"=some (.ref x))(B:f∈σ.flds c)(F:ps.lookup f=none)(hz:Nat.ble ps.length 500=true){v:V}(k:∀H',Mk H0 H' x c dx (ps++[(f,v)]) L->aq σ d rest l H' K) : aS σ d (.var "self") l H λov H2=>∃a c dx kvs,ov=.ref a/\H2 a=some (.inst c dx)/\f∈σ.flds c/\H2 dx=some (.dict kvs)/\bJ kvs/\kvs.length<=500/\aq σ d rest l (H2.set dx (.dict (dput kvs (.str f) v))) K :=(aa _ hs (Rw x c dx (fl ps) rfl ((h.all _ (d7 _ d6)).1) B ((h.all _ d6).1) (oP _) (b8 (a8 (j8 _)) (I7 hz)) (k _ (h.put F v))))
theorem gw(h:Mk H0 H x c dx ps L)(hs:l "self"=some (.ref x))(F:f∈σ.flds c)(G:ps.lookup f=none)(hz:Nat.ble ps.length 500=true)(k:∀a H',Mk H0 H' x c dx (ps++[(f,.ref a)]) (L++[(a,.list [])])->aq σ d rest l H' K):aq σ d (.asg (.at (.var "self") f) (.lst .nil)::rest) l H K :=λa B=>(h.new (.list []) B).at_ hs F G hz (k a)
theorem vK(h:Mk H0 H x c dx ps L)(hs:l "self"=some (.ref x))(F:f∈σ.flds c)(G:ps.lookup f=none)(hz:Nat.ble ps.length 500=true)(k:∀a H',Mk H0 H' x c dx (ps++[(f,.ref a)]) (L++[(a,.dict [])])->aq σ d rest l H' K):aq σ d (.asg (.at (.var "self") f) (.dct .nil .nil)::rest) l H K :=(GJ ⟨s9,(aa 1 (by decide) (λ_ h=>nomatch h))⟩ (λ_ h=>nomatch h) rfl (by decide) (λa B=>(h.new (.dict []) B).at_ hs F G hz (k a)))
end
theorem rm{y B:Addr}(h:Hold H0 H L)(F:String)(J:H y=none)(G:H B=none)(ne:y≠B):Hold H0 ((H.set B (.dict [])).set y (.inst F B)) (L++[(B,.dict (fl [])),(y,.inst F B)]) :=Hold.new (L1:=L) (L2:=[(B,AO.dict (fl []))]) (Hold.new (L1:=L) (L2:=[]) (by rw[List.append_nil];exact h) (.dict (fl [])) G) (.inst F B) (by rw[AH.set_ne _ _ ne];exact J)
theorem Mk.obj(h:Mk H0 H x c dx ps L){y B:Addr}(F:String)(J:H y=none)(G:H B=none)(ne:y≠B):Mk H0 ((H.set B (.dict [])).set y (.inst F B)) y F B [] ((dx,.dict (fl ps))::(x,.inst c dx)::L) :=Hold.perm (rm h F J G ne) List.perm_append_comm
theorem MCall.call{d:Nat}{c m:String}{f:Addr}(h:MCall σ d c m vs H Q)(e:σ.meth c m=some f):CallS σ d f vs H Q:=by refine af h λf' e' k=>?_;rw[e]at e';obtain rfl:=c9 e';exact k
theorem Bq{d:Nat}{f:String}{F:String}{m:MFun}(h:Mk H0 H x c dx ps L)(hs:l "self"=some (.ref x))(hf:f∈σ.flds c)(hn:ps.lookup f=none)(hz:Nat.ble ps.length 500=true)(hc:∃C,σ.cls F=some C)(hm:HasM σ F "__init__" m){P:Addr->Addr->AH->Prop}(I:∀H y B,Mk H0 H y F B [] ((dx,.dict (fl ps))::(x,.inst c dx)::L)->MCall σ d F "__init__" [.ref y] H λr H'=>r=.none/\P y B H')(k:∀y B H',P y B H'->∃J,Mk H0 H' x c dx ps J/\∀H'',Mk H0 H'' x c dx (ps++[(f,.ref y)]) J->aq σ (d+1) rest l H'' K):aq σ (d+1) (.asg (.at (.var "self") f) (.new F .nil)::rest) l H K:=by refine bR hc λC hC=>?_;refine cb hm λO _ G _=>?_;refine(md C O d rfl hC G (λy B Q Y Z=>((I _ y B (h.obj F Q Y Z)).mono λr H' q=>⟨q.1,?_⟩).call G));refine af (k y B H' q.2) λJ g k=>?_;exact g.at_ hs hf hn hz k
theorem sw(T:Txt σ)(h:Mk H0 H x "Bank" dx [] L)(q:∀H' n m w d,Mk H0 H' x "Bank" dx [("nodes",.ref n),("numbers",.ref m),("weights",.ref w),("depths",.ref d)] (L++[(n,.list [])]++[(m,.dict [])]++[(w,.list [])]++[(d,.list [])])->Q .none H'):MCall σ 1 "Bank" "__init__" [.ref x] H Q :=aw T.ok T.Bank_init rfl (gw h rfl (fB T (by decide)) rfl rfl λn _ h=>vK h rfl (fB T (by decide)) rfl rfl λm _ h=>gw h rfl (fB T (by decide)) rfl rfl λw _ h=>gw h rfl (fB T (by decide)) rfl rfl λd _ h=>q _ n m w d h)
theorem uI(T:Txt σ)(h:Mk H0 H x "Unions" dx [] L)(q:∀H' n m w,Mk H0 H' x "Unions" dx [("above",.ref n),("lots",.ref m),("merged",.ref w)] (L++[(n,.list [])]++[(m,.list [])]++[(w,.list [])])->Q .none H'):MCall σ 1 "Unions" "__init__" [.ref x] H Q :=aw T.ok T.Unions_init rfl (gw h rfl (fU T (by decide)) rfl rfl λn _ h=>gw h rfl (fU T (by decide)) rfl rfl λm _ h=>gw h rfl (fU T (by decide)) rfl rfl λw _ h=>q _ n m w h)
noncomputable def ti(hp hd bp bd up ud ep fp kp ap wp np mp qp dp ua lp gp:Addr):HD:=⟨hp,hd,bp,bd,up,ud,ep,fp,kp,ap,wp,np,mp,qp,dp,ua,lp,gp,[],[],[],[],[],[],[],[],[],[],[],[],[],0⟩
theorem CD(hp hd bp bd up ud ep fp kp ap wp np mp qp dp ua lp gp:Addr):(ti hp hd bp bd up ud ep fp kp ap wp np mp qp dp ua lp gp).Ok:=by
 have B:(ti hp hd bp bd up ud ep fp kp ap wp np mp qp dp ua lp gp).n=0:=rfl;refine⟨m6 _,rfl,rfl,rfl,rfl,rfl,?_,s9,rfl,?_,?_,?_,?_,⟨s9,?_⟩,?_,f7 _,?_,f7 _,(da (f7 _) (f7 _) (f7 _)),?_⟩
 ·intro i nd h;simp[ti]at h
 ·intro i hi;exact(EC hi B).elim
 ·intro i hi;exact(EC hi B).elim
 ·intro i p h;simp[ti]at h
 ·intro p h;simp[ti]at h
 ·intro i;exact Iff.rfl
 ·intro p h;simp[ti]at h
 ·intro x h;simp[ti]at h
 ·show 0<=100;decide
theorem sx(T:Txt σ)(h:Mk H0 H x "Heap" dx [] [])(q:∀H' (D:HD),Ext H0 H'->D.At H'->D.Ok->D.nodes=[]->D.M=0->D.hp=x->(∀a∈D.adr,H0 a=none)->Q .none H'):MCall σ 3 "Heap" "__init__" [.ref x] H Q:=by refine aw T.ok T.Heap_init rfl (Bq (P:=λy B H'=>∃n m w d,Mk H0 H' y "Bank" B [("nodes",.ref n),("numbers",.ref m),("weights",.ref w),("depths",.ref d)] ([(dx,.dict (fl [])),(x,.inst "Heap" dx)]++[(n,.list [])]++[(m,.dict [])]++[(w,.list [])]++[(d,.list [])])) h rfl (fH T (by decide)) rfl rfl T.cBank T.Bank_init (λH y B h=>sw T h λH' n m w d h=>⟨rfl,(Re n m w d h)⟩) λbp bd H' g=>?_);refine Pw g λnp mp qp dp h=>?_;refine(aa _ (Mk.back (L:=[]) (R:=[(np,.list []),(mp,.dict []),(qp,.list []),(dp,.list [])]) h) (λH' h=>Bq (P:=λy B H'=>∃n m w,Mk H0 H' y "Unions" B [("above",.ref n),("lots",.ref m),("merged",.ref w)] (_++[(n,.list [])]++[(m,.list [])]++[(w,.list [])])) h rfl (fH T (by decide)) rfl rfl T.cUnions T.Unions_init (λH y B h=>uI T h λH' n m w h=>⟨rfl,(RT n m w h)⟩) λup ud H' g=>?_));refine RO g λua lp gp h=>?_;refine(aa _ (Mk.back (L:=[(bd,_),(bp,_),(np,.list []),(mp,.dict []),(qp,.list []),(dp,.list [])]) (R:=[(ua,.list []),(lp,.list []),(gp,.list [])]) h) (λH' h=>gw h rfl (fH T (by decide)) rfl rfl λep _ h=>gw h rfl (fH T (by decide)) rfl rfl λfp _ h=>vK h rfl (fH T (by decide)) rfl rfl λkp _ h=>vK h rfl (fH T (by decide)) rfl rfl λap _ h=>gw h rfl (fH T (by decide)) rfl rfl λwp H' h=>?_));have h:Hold H0 H' (ti x dx bp bd up ud ep fp kp ap wp np mp qp dp ua lp gp).objs:=Hold.perm h ((List.Perm.swap _ _ _).trans (List.Perm.cons _ (List.Perm.cons _ ((List.perm_append_comm_assoc [_,_] [_,_] _).trans ((List.Perm.swap _ _ _).trans (List.Perm.cons _ (List.Perm.cons _ (List.Perm.swap _ _ _))))))));exact q _ _ h.ext ⟨λp hp=>(h.all p hp).1,h.nd⟩ (CD ..) rfl rfl rfl λa F=>(b9.mp F).elim λp e=>e.2▸(h.all p e.1).2
end
end
section
variable{s:Nat}
structure Feed(H:AH)(fa ca:Addr)(cs:List Int)(s:Nat):Prop where
 f:H fa=some (.dict (fl [("cells",.ref ca),("spot",iv s)]))
 c:H ca=some (.list (cs.map .int))
 len:cs.length<=60
 ne:fa≠ca
def Only(fa:Addr)(H H':AH):Prop:=∀a,a≠fa->H' a=H a
theorem Only.refl'{fa:Addr}{H:AH}:Only fa H H:=λ_ _=>rfl
theorem Only.trans'{fa:Addr}{H H'':AH}(x:Only fa H H')(y:Only fa H' H''):Only fa H H'':=λa h=>(y a h).trans (x a h)
theorem jO(ps:List (String×V))(s:String):keyFits (fl ps) (.str s):=⟨C3,λp hp=>qV ps p hp⟩
theorem Af{x:Int}(h:0<m):∃k:Nat,k<m/\V.int (x%(m:Int))=iv k:=by obtain B:0<=x%(m:Int):=Int.emod_nonneg _ (Mf h);obtain F:x%(m:Int)<m:=Int.emod_lt_of_pos _ (ED h);exact(aa ((x%(m:Int)).toNat) (Mg B F) (by congr 1;exact Mh B))
section
variable{H:AH}{Q:V->AH->Prop}
theorem AN(ca:Addr)(s t:Nat):dput (fl [("cells",.ref ca),("spot",iv s)]) (.str "spot") (iv t)=fl [("cells",.ref ca),("spot",iv t)]:=by unfold dput fl;simp[kj]
theorem kr(T:Txt σ){fa:Addr}(F:Feed H fa ca cs s)(hs:s<10000)(hm:0<m)(q:∀H' k,k<m->Only fa H H'->Feed H' fa ca cs (s+1)->Q (iv k) H'):FCall σ 1 "_law_pick" [.ref fa,iv m] H Q:=by
 refine dR T.ok T.law_pick rfl ?_;obtain J:=F.len;refine(aa _ rfl (.inr (jh _ (iv s) F.f (jO _ _) (by rw[fY];rfl) (aa _ rfl (aa _ (ao _ _ _) ⟨_,rfl,fa,rfl,.inr (iN _ F.f (jO _ _) (by simp[fl]) ?_)⟩)))));have e1:V.int ((s:Int)+1)=iv (s+1):=by simp
 rw[e1,AN];obtain O:Only fa H (H.set fa (.dict (fl [("cells",.ref ca),("spot",iv (s+1))]))):=λa h=>AH.set_ne _ _ h;have B:Feed (H.set fa (.dict (fl [("cells",.ref ca),("spot",iv (s+1))]))) fa ca cs (s+1):=⟨AH.set_self _ _ _,by rw[AH.set_ne _ _ F.ne.symm];exact F.c,F.len,F.ne⟩;generalize (H.set fa (.dict (fl [("cells",.ref ca),("spot",iv (s+1))])))=H1 at *;refine(aa _ (ao _ _ _) (aa _ rfl (.inr (jh _ (.ref ca) B.f (jO _ _) (by rw[fY];rfl) ⟨_,B.c,by simp;exact Er J,_,_,rfl,rfl,?_⟩))));by_cases h:s<cs.length
 ·refine fI (r8 (by simp;exact h)) ?_;refine(aa _ rfl (.inr (jh _ (.ref ca) B.f (jO _ _) (by rw[fY];rfl) (aa _ (ao _ _ _) (.inl (EU _ s (.int (cs.getD s 0)) B.c rfl ?_ (ro _ _ (gc 0 h)) (aa _ rfl ?_)))))))
  ·rw[Int.natAbs_natCast];exact m4 hs (by decide)
  ·refine af (Af (x:=cs.getD s 0) hm) λk hk e=>?_;refine⟨by exact Mi hk,?_⟩;rw[e];exact q H1 k hk O B
 ·refine fG (q7 (by simp;exact tv h)) ?_;obtain G:((s:Int)).natAbs<2^60:=by rw[Int.natAbs_natCast];exact m4 hs (by decide)
  obtain P:(5*(s:Int)).natAbs<2^60:=by exact Mj hs
  refine(aa _ (ao _ _ _) ((da (by decide) G (aa _ (ao _ _ _) ((da P G (aa _ (ao _ _ _) ⟨by decide,G,_,rfl,.inr (jh _ (.ref ca) B.f (jO _ _) (by rw[fY];rfl) ⟨_,B.c,by simp;exact Er J,by decide,by rw[Int.natAbs_natCast,List.length_map];exact Ml P h,by decide,_,rfl,?_⟩)⟩)))))));refine⟨by exact ED hm,?_⟩;refine af (Af (x:=(5*(s:Int)*s+3*s+2+7*((cs.map V.int).length:Int))%89) hm) λk hk e=>?_;rw[e];exact q H1 k hk O B
def uw(σ:Sx)(fa ca:Addr)(cs:List Int)(h:Nat):Prop:=∀{s:Nat}{H:AH}{Q:V->AH->Prop},Feed H fa ca cs s->s+2^(h+1)<10000->h<=2 ->
  (∀H' (t:Tr) s',t.ok h->s'+1<=s+2^(h+1)->Only fa H H'->Feed H' fa ca cs s'->Q t.v H')->FCall σ (2+h) "_law_tree" [.ref fa,iv h] H Q
noncomputable abbrev EQ:MS:=.if1 (.cmp1 .eq (.var "way") (.cst (.int 0))) [.ret (.tup (.cons (.idx (.cst (.str "abc")) (.call "_law_pick" (.cons (.var "feed") (.cons (.cst (.int 3)) .nil)))) .nil))] []
noncomputable abbrev xw:ME:=.call "_law_tree" (.cons (.var "feed") (.cons (.bin .sub (.var "high") (.cst (.int 1))) .nil))
theorem mB(op:COp){b:Bool}{H:AH}(h:∀Q:Bool->Prop,Q b->eP H op (iv i) (iv j) Q){x:String}(e:l x=some (iv i)):EvT σ l H (.cmp1 op (.var x) (.cst (iv j))) b:=.cmp (.var e) .cst h
theorem qx(T:Txt σ){fa:Addr}{d:Nat}{H:AH}(F:Feed H fa ca cs s)(hs:s<10000)(O:l "feed"=some (.ref fa))(hw:l "way"=some (iv 0))(hd:1<=d)(k:∀H' (t:Tr),t.ok 0->Only fa H H'->Feed H' fa ca cs (s+1)->K (.ret t.v) l H'):aq σ d (EQ::rest) l H K:=by refine jx (mB .eq (λQ q=>kE _ _ _ _ q) hw) (cY ?_);refine xD (.cons (.var O) (.cons .cst .nil)) ((kr T F hs (m:=3) (by decide) λH' j G o J=>?_).room hd);refine af ((by decide:∀j<3,∃B,"abc".toList[j]?=some B/\String.ofList [B]∈["a","b","c"]) j G) λB e1 e2=>?_;exact⟨(by decide:"abc"∈mc),(mN j B rfl Ax (EE G) e1 (k H' (.leaf (String.ofList [B])) e2 o J))⟩
theorem oT{fa:Addr}{h:Nat}{H:AH}{Q:V->AH->Prop}(J:uw σ fa ca cs h)(B:l "feed"=some (.ref fa))(G:l "high"=some (iv (h+1)))(F:Feed H fa ca cs s)(hs:s+2^(h+1)<10000)(hz:h+1<=2)(q:∀H' (t:Tr) s',t.ok h->s'+1<=s+2^(h+1)->Only fa H H'->Feed H' fa ca cs s'->Q t.v H'):aS σ (2+h) xw l H Q :=xD (.cons (.var B) (.cons (.bin (u:=iv h) (.var G) .cst λQ q=>by show Q (V.int (((h:Int)+1)-1)) H;rw[Int.add_sub_cancel];exact q) .nil)) (J F hs (Nat.le_of_succ_le hz) q)
theorem yN(T:Txt σ){fa:Addr}{h:Nat}{H:AH}{Q:V->AH->Prop}(ih:uw σ fa ca cs h)(Y:l "feed"=some (.ref fa))(hh:l "high"=some (iv (h+1)))(hw:l "way"=some (iv j))(F:Feed H fa ca cs (s+1))(hs:s+2^(h+1+1)<10000)(hz:h+1<=2)(q:∀H' (t:Tr) s',t.ok (h+1)->s'+1<=s+2^(h+1+1)->Only fa H H'->Feed H' fa ca cs s'->Q t.v H') : aq σ (2+h) [EQ,.if1 (.cmp1 .lt (.var "way") (.cst (.int 3))) [.ret (.tup (.cons (.cst (.str "f")) (.cons xw .nil)))] [],.ret (.tup (.cons (.cst (.str "g")) (.cons xw (.cons xw .nil))))] l H (mO Q):=by
 have e2:2^(h+1+1)=2^(h+1)+2^(h+1):=by rw[Nat.pow_succ];exact Mm
 have P:2<=2^(h+1):=by rw[Nat.pow_succ];exact Mn (G0 h)
 by_cases J:j=0
 ·rw[J]at hw;exact qx T F (Mp e2 P hs) Y hw EG λH' t G o f=>q H' t _ (by cases t <;> first|exact G|exact G.elim) (Mq e2 P) o f
 refine gu (mB .eq (λQ q=>kE _ _ _ _ (q7 (Mr J)▸q)) hw) ?_;by_cases O:j<3
 ·refine jx (mB .lt (λQ q=>bc _ _ rfl rfl (r8 (EE O)▸q)) hw) (cY ?_);exact oT ih Y hh F (EH e2 hs P) hz λH2 t s' G B o2 Z=>q H2 (.f t) s' G (Ms e2 B P) o2 Z
 ·refine gu (mB .lt (λQ q=>bc _ _ rfl rfl (q7 (Mt O)▸q)) hw) (cY (rest:=[]) ?_);exact oT ih Y hh F (EH e2 hs P) hz λH2 t s' G B o2 Z=>oT ih Y hh Z (Mu hs e2 B) hz λH3 u s2 hu hs2 o3 F3=>q H3 (.g t u) s2 ⟨G,hu⟩ (Mw hs2 B e2) (o2.trans' o3) F3
theorem Fe(T:Txt σ){fa:Addr}(h:Nat):uw σ fa ca cs h:=by
 induction h with
 |zero =>intro s H Q F hs _ q;refine(dR (d:=1) T.ok T.law_tree rfl (aa _ rfl (bc _ _ rfl rfl (fG (q7 (by decide)) (aa _ rfl ?_)))));exact qx T F (EF hs) rfl rfl MY λH' t J o f=>q H' t _ J (f7 _) o f
 |succ h O =>intro s H Q F hs G q;refine(dR (d:=2+h) T.ok T.law_tree rfl (aa _ rfl (bc _ _ rfl rfl (fI (r8 Mo) ?_))));refine xD (.cons (.var rfl) (.cons .cst .nil)) ((kr T F (EF hs) (m:=4) (by decide) λH1 j P o1 B=>⟨_,rfl,?_⟩).room EG);exact yN T O rfl rfl rfl B hs G λH' t s' a b o f=>q H' t s' a b (o1.trans' o) f
end
end
section
variable{c:Addr}
theorem ExtB.refl{H:AH}:ExtB c H H:=λ_ _ _ e=>e
theorem ExtB.trans{H H'':AH}(x:ExtB c H H')(y:ExtB c H' H''):ExtB c H H'':=λa o h e=>y a o h (x a o h e)
theorem Ext.b{H:AH}(x:Ext H H'):ExtB c H H':=λa o _ e=>x a o e
theorem HD.At.extB{D:HD}{H:AH}(A:D.At H)(x:ExtB c H H')(h:c∉D.adr):D.At H':=⟨λp hp=>x _ _ (λe=>h (b9.mpr (aa p hp e))) (A.all p hp),A.nd⟩
noncomputable def bn(f:Nat->Nat)(as:List Nat):List (V×V):=as.map λn=>(iv n,iv (f n))
theorem kO{f:Nat->Nat}:∀{as:List Nat}{n:Nat},n∈as->aA (bn f as) (iv n)=some (iv (f n))
 |a::as,n,h=>by
  show aA ((iv a,iv (f a))::bn f as) (iv n)=_;rw[bM,cI];by_cases e:a=n
  ·subst e;simp
  ·rw[decide_eq_false (iY e)];simp only[Bool.false_eq_true,if_false];rcases i8.mp h with e'|h
   ·exact absurd e'.symm e
   ·exact kO h
theorem jz{f:Nat->Nat}{n:Nat}(h:n∉as):aA (bn f as) (iv n)=none:=fZ λp hp e=>by refine af (b9.mp hp) λa F aP=>?_;subst aP;obtain B:=gW e;exact h (B▸F)
noncomputable def pn(as:List Nat)(n:Nat):List Nat:=if n∈as then as else as++[n]
theorem sq{n x:Nat}:x∈pn as n↔x∈as\/x=n:=by
 unfold pn;by_cases h:n∈as
 ·rw[if_pos h];exact⟨.inl,λz=>z.elim id λe=>e▸h⟩
 ·rw[if_neg h];simp
theorem uy(h:as.Nodup)(n:Nat):(pn as n).Nodup:=by
 unfold pn;by_cases e:n∈as
 ·rw[if_pos e];exact h
 ·rw[if_neg e,List.nodup_append];refine⟨h,by simp,λx B y F=>?_⟩;rw[List.mem_singleton.mp F];rintro rfl;exact e B
theorem yL(f:Nat->Nat)(as:List Nat)(n:Nat):dput (bn f as) (iv n) (iv (f n))=bn f (pn as n):=by
 unfold pn;by_cases h:n∈as
 ·rw[if_pos h];unfold dput
  have:(bn f as).any (λp=>cM p.1 (iv n))=true:=by rw[List.any_eq_true];exact(aa _ (b9.mpr (aa n h rfl)) (bo _))
  rw[if_pos this];unfold bn;rw[List.map_map];apply o7;intro x _;simp only[Function.comp,cI];by_cases e:x=n
  ·subst e;simp
  ·rw[decide_eq_false (iY e)];simp
 ·rw[if_neg h,bz (jz h)];unfold bn;simp
theorem eN(f:Nat->Nat)(as:List Nat)(n:Nat):keyFits (bn f as) (iv n):=⟨C3,λp hp=>by refine af (b9.mp hp) λq _ bx=>?_;subst bx;rfl⟩
theorem yM(f:Nat->Nat)(as:List Nat):bJ (bn f as):=λp hp=>by refine af (b9.mp hp) λq _ bK=>?_;subst bK;rfl
structure Home(D:HD)(H:AH)(a:Addr)(as:List Nat):Prop where
 o:H a=some (.dict (bn D.r as))
 nd:as.Nodup
 mem:∀i,i∈as↔i<D.n
theorem Home.ext{D:HD}{H:AH}{a:Addr}(x:Ext H H')(h:Home D H a as):Home D H' a as:=⟨x _ _ h.o,h.nd,h.mem⟩
theorem Home.len{D:HD}{H:AH}{a:Addr}(h:Home D H a as):as.length<=D.n:=bU D.n as h.nd λx B=>(h.mem x).mp B
theorem Home.idx{D:HD}{H:AH}{Q:V->AH->Prop}{a:Addr}(h:Home D H a as){n:Nat}(B:n<D.n)(q:Q (iv (D.r n)) H):sU H Q (.ref a) (iv n) :=.inr (jh _ _ h.o (eN _ _ _) (kO ((h.mem n).mpr B)) q)
section
variable{H:AH}{Q:V->AH->Prop}{D:HD}
theorem zp(T:Txt σ)(A:D.At H)(O:D.Ok)(q:∀H' a as,Ext H H'->H a=none->Home D H' a as->Q (.ref a) H'):FCall σ 4 "_law_lots" [.ref D.hp] H Q:=by
 refine dR T.ok T.law_lots rfl ?_;obtain hn:D.n<=60:=O.nz;obtain hrl:=D.roots_len;refine(GJ dictOK.nil (λ_ h=>nomatch h) rfl (by decide) (λhm P=>(aa _ rfl (aa _ rfl (aa _ (aE (A.ext (Ext.set _ P)).heap rfl T.Heap_classes.some) ((fW T (A.ext (Ext.set _ P)) O λH1 l1 x1 hl1 e1=>⟨_,e1,by simp;exact tz hrl hn,?_⟩).room Ay))))));obtain hme:H1 hm=some (.dict []):=x1 _ _ (AH.set_self _ _ _);obtain x0:Ext H H1:=(Ext.set _ P).trans' x1;obtain A1:=A.ext x0;have hmA:hm∉D.adr:=eZ A P;have hne1:l1≠hm:=by rintro rfl;rw[AH.set_self]at hl1;exact sn hl1
 refine dl (src:=some (l1,D.roots.map iv)) (λxs l H'=>l "heap"=some (.ref D.hp)/\l "home"=some (.ref hm)/\ExtB hm H1 H'/\∃rem Y as:List Nat,xs=rem.map iv/\D.roots=Y++rem/\H' hm=some (.dict (bn D.r as))/\as.Nodup/\∀i,i∈as↔i<D.n/\D.r i∈Y) (λ_ _ _ h=>h.2.2.1 _ _ hne1 e1) (λv xs l H' k h hk=>?_) (λl H' h=>?_) _ _ _ (mu rfl (ao _ _ _) ExtB.refl (EU D.roots ([]) ([]) rfl rfl hme s9 (λi=>by simp)))
 ·obtain⟨h1,h2,x2,rem,Y,as,ex,er,e2,nd,Z⟩:=h;rcases rem with _|⟨c,rem⟩
  ·simp at ex
  ·simp only[List.map_cons,List.cons.injEq]at ex;obtain⟨rfl,rfl⟩:=ex;have hc:=HD.mem_roots.mp (show c∈D.roots by rw[er];simp);obtain A2:=A1.extB x2 hmA;refine(aa _ rfl (aa _ ((aj _ _ (by decide)).trans h1) (aa _ (aE A2.heap rfl T.Heap_members.some) (aa _ (ao _ _ _) (mX T A2 O hc.1 λH3 l3 x3 hl3 e3=>?_)))));have hml:=D.mem_len c;have hne3:l3≠hm:=by rintro rfl;rw[hl3]at e2;exact ns e2
   rw[hc.2]at e3;refine(bb _ e3 (by simp;exact tz hml hn) ?_);refine dl (src:=some (l3,(D.mem c).map iv)) (λxs l H'=>l "heap"=some (.ref D.hp)/\l "home"=some (.ref hm)/\l "c"=some (iv c)/\ExtB hm H3 H'/\∃B G F:List Nat,xs=B.map iv/\D.mem c=G++B/\H' hm=some (.dict (bn D.r F))/\F.Nodup/\∀i,i∈F↔i∈as\/i∈G) (λ_ _ _ h=>h.2.2.2.1 _ _ hne3 e3) (λv xs l H' k h hk=>?_) (λl H' h=>?_) _ _ _ (GJ ((aj _ _ (by decide)).trans h1) ((aj _ _ (by decide)).trans h2) (ao _ _ _) ExtB.refl (EU (D.mem c) ([]) as rfl rfl (x3 _ _ e2) nd (λi=>by simp)))
   ·refine ET h λh1 h2 h3 x4 zq7=>?_;refine Pq zq7 λB G F ex J e4 an ad=>?_;rcases B with _|⟨i,B⟩
    ·simp at ex
    ·simp only[List.map_cons,List.cons.injEq]at ex;obtain⟨rfl,rfl⟩:=ex;obtain⟨hin,hir⟩:=HD.mem_lt (show i∈D.mem c by rw[J];simp);obtain hlen:F.length<=D.n:=bU D.n F an λx hx=>by
      rcases(ad x).mp hx with h|h
      ·exact((Z x).mp h).1
      ·exact(HD.mem_lt (show x∈D.mem c by rw[J];exact m8 _ h)).1
     refine(aa _ rfl (aa _ ((aj _ _ (by decide)).trans h3) (aa _ ((aj _ _ (by decide)).trans h2) (aa _ (ao _ _ _) (aa hm rfl (.inr (iN _ e4 (eN _ _ _) (by unfold bn;rw[List.length_map];exact AB hlen hn) ?_)))))));obtain hp:=yL D.r F i;rw[hir]at hp;rw[hp];refine hk _ _ (GJ ((aj _ _ (by decide)).trans h1) ((aj _ _ (by decide)).trans h2) ((aj _ _ (by decide)).trans h3) (x4.set _) (EU B (G++[i]) (pn F i) rfl (by rw[J];simp) (AH.set_self _ _ _) (uy an i) (λj=>?_)));rw[sq,ad j];simp[or_assoc]
   ·refine ET h λh1 h2 h3 x4 zq10=>?_;refine Pq zq10 λB G F ex J e4 an ad=>?_
    have:B=[]:=by simpa using ex.symm
    subst this;rw[List.append_nil]at J;refine hk _ _ (mu h1 h2 ((x2.trans x3.b).trans x4) (EU rem (Y++[c]) F rfl (by rw[er];simp) e4 an (λj=>?_)));rw[ad j,Z j,<- J];simp only[List.mem_append,List.mem_singleton];constructor
    ·rintro(⟨a,b⟩|h)
     ·exact⟨a,.inl b⟩
     ·obtain this:=HD.mem_lt h;exact⟨this.1,.inr this.2⟩
    ·rintro⟨a,b|b⟩
     ·exact .inl ⟨a,b⟩
     ·right;unfold HD.mem;rw[List.mem_filter,List.mem_range];exact⟨a,by simpa using b⟩
 ·refine rT h λh1 h2 x2 zq11=>?_;refine Pq zq11 λrem Y as ex er e2 nd Z=>?_
  have:rem=[]:=by simpa using ex.symm
  subst this;rw[List.append_nil]at er;refine(aa _ h2 (q H' hm as (λa o e=>x2 a o (am e P) (x0 a o e)) P ⟨e2,nd,λi=>?_⟩));rw[Z i,<- er,HD.mem_roots];constructor
  ·exactλh=>h.1
  ·exactλh=>⟨h,gJ O h,(O.rle i h).2⟩
end
end
section
variable{ms ls:List Nat}{na la:Addr}{x:Nat}
def Clo(D:HD)(ms:List Nat)(k:Nat):Prop:=∀nd:Nd,ak nd∈D.NN k->∀j∈nd.2,j∈ms
theorem Clo.mono{D:HD}{B:List Nat}(h:Clo D ms k)(s:∀x∈ms,x∈B):Clo D B k:=λnd G j F=>s j (h nd G j F)
noncomputable def gF(ms:List Nat):List (V×V):=ms.map λk=>(iv k,.bool true)
theorem oU(ms:List Nat)(n:Nat):keyFits (gF ms) (iv n):=⟨C3,λp hp=>by refine af (b9.mp hp) λq _ aP=>?_;subst aP;rfl⟩
theorem kP:∀(ms:List Nat)(n:Nat),aA (gF ms) (iv n)=if n∈ms then some (.bool true)else none
 | [],n=>rfl
 |a::as,n=>by
  show aA ((iv a,.bool true)::gF as) (iv n)=_;rw[bM,cI,kP as n];by_cases e:a=n
  ·subst e;simp
  ·rw[decide_eq_false (iY e)];obtain B:n∈a::as↔n∈as:=by simp;exactλz=>absurd z.symm e
   simp only[Bool.false_eq_true,if_false,B]
structure BW(D:HD)(H0:AH)(na ma la:Addr)(c x m:Nat)(l:Loc)(H:AH)(ms ls:List Nat):Prop where
 v:l "nodes"=some (.ref na)/\l "met"=some (.ref ma)/\l "left"=some (.ref la)
 x2:∀y o,y≠ma->y≠la->H0 y=some o->H y=some o
 hm:H ma=some (.dict (gF ms))
 hl:H la=some (.list (ls.map iv))
 nd:ms.Nodup
 rt:∀y∈ms,y∈D.roots
 hc:c∈ms
 sub:∀y∈ls,y∈ms
 clo:∀k∈ms,k∈ls\/k=x\/Clo D ms k
 b:120+ls.length<=m+2*ms.length
 bl:ls.length<=200
 mz:m<=150
section
variable{D:HD}{na ma la:Addr}{x:Nat}{H:AH}{ms ls:List Nat}
theorem BW.len(h:BW D H0 na ma la c x m l H ms ls):ms.length<=D.n:=bU D.n ms h.nd λy B=>(HD.mem_roots.mp (h.rt y B)).1
theorem BW.loc{l':Loc}(h:BW D H0 na ma la c x m l H ms ls)(k:∀y∈["nodes","met","left"],l' y=l y):BW D H0 na ma la c x m l' H ms ls :={ h with v:=(da ((k _ (by decide)).trans h.v.1) ((k _ (by decide)).trans h.v.2.1) ((k _ (by decide)).trans h.v.2.2)) }
theorem PC{b n:Nat}(h:120+a<=m+2*b):120+(a+1)<=m+2*(b+1):=by omega
theorem PD{b n:Nat}(h:120+a<=m+2*b)(hm:m<=150)(B:b<=n)(F:n<=60):a+1<=200:=by omega
theorem PE{b n:Nat}(h:120+(a+1)<=m+2*b)(B:b<=n)(F:n<=60):120+a<=m-1+2*b/\m-1<m:=by omega
theorem vd{l:List Nat}(h:l.Nodup)(hk:k∉l):(l++[k]).Nodup:=List.nodup_append.mpr (da h (List.pairwise_singleton _ k) (λy B z hz=>by rw[List.mem_singleton.mp hz];exactλe=>hk (e▸B)))
theorem rJ{l:List Nat}{P:Nat->Prop}(h:∀y∈l,P y)(hk:P k):∀y∈l++[k],P y:=λy B=>(l9.mp B).elim (h y) λz=>by rw[List.mem_singleton.mp z];exact hk
theorem BW.add(h:BW D H0 na ma la c x m l H ms ls)(G:D.n<=60)(hk:k∈D.roots)(hm:k∉ms)(B:ma≠la):BW D H0 na ma la c x m l ((H.set ma (.dict (gF (ms++[k])))).set la (.list ((ls++[k]).map iv))) (ms++[k]) (ls++[k]) where
 v:=h.v
 x2 y o a b e:=by rw[AH.set_ne _ _ b,AH.set_ne _ _ a];exact h.x2 y o a b e
 hm:=by rw[AH.set_ne _ _ B];exact AH.set_self _ _ _
 hl:=AH.set_self _ _ _
 nd:=vd h.nd hm
 rt:=rJ h.rt hk
 hc:=m8 _ h.hc
 sub:=rJ (λy F=>m8 _ (h.sub y F)) (n8 _ (j5.mpr rfl))
 clo:=rJ (λy F=>(h.clo y F).imp (m8 _) (Or.imp_right λz=>z.mono λ_ q=>m8 _ q)) (.inl (n8 _ (j5.mpr rfl)))
 b:=by rw[List.length_append,List.length_append];exact PC (n:=0) h.b
 bl:=by rw[List.length_append];exact PD h.b h.mz h.len G
 mz:=h.mz
end
structure NodesT(D:HD)(H:AH)(na:Addr)(kvs:List (V×V)):Prop where
 o:H na=some (.dict kvs)
 fits:∀k:Nat,keyFits kvs (iv k)
 get:∀c∈D.roots,∃a,aA kvs (iv c)=some (.ref a)/\H a=some (.list (D.NN c))
theorem NodesT.ext{D:HD}{H:AH}(x:Ext H H')(h:NodesT D H na kvs):NodesT D H' na kvs:=⟨x _ _ h.o,h.fits,λc hc=>let⟨a,e1,e2⟩:=h.get c hc;(aa a e1 (x _ _ e2))⟩
section
variable{H:AH}{Q:V->AH->Prop}{D:HD}
theorem oa(O:D.Ok)(h:ak nd∈D.NN k):(∀j∈nd.2,j∈D.roots)/\nd.2.length<=2:=by refine af (nV h) λi hi e=>?_;obtain e:=iC e;obtain⟨B,_⟩:=HD.mem_lt hi;rw[e];refine⟨λj G=>?_,by unfold HD.canon;simp;exact jR O B⟩;refine af (b9.mp G) λy J bx=>?_;subst bx;obtain F:y<D.n:=m4 (jS O B y J) B;exact HD.mem_roots.mpr ⟨gJ O F,(O.rle y F).2⟩
section
variable{na ma la:Addr}{x d:Nat}
abbrev Rf(D:HD)(H0:AH)(na ma la:Addr)(c x m:Nat)(ms:List Nat)(P:Nat->Prop)(l:Loc)(H:AH):Prop:=∃B F,BW D H0 na ma la c x m l H B F/\(∀j∈ms,j∈B)/\∀j,P j->j∈B
theorem vf{H:AH}{e o:ME}(F:Ev σ l H e (iv j))(G:Ev σ l H o (.ref ma))(h:H ma=some (.dict (gF ms))):EvT σ l H (.cmp1 .notin e o) (!decide (j∈ms)) :=
 .cmp F G λQ q=>.inr (bb _ h (oU _ _) (by
  rw[kP];by_cases B:j∈ms
  ·rw[if_pos B];rw[decide_eq_true B]at q;exact q
  ·rw[if_neg B];rw[decide_eq_false B]at q;exact q))
theorem xK{H:AH}(O:D.n<=60)(F:ma≠la)(h:BW D H0 na ma la c x m l H ms ls)(P:j∈D.roots)(G:l "kid"=some (iv j))(k:∀H' B J,BW D H0 na ma la c x m l H' B J->(∀i∈ms,i∈B)->j∈B->K .next l H') : aq σ d [.if1 (.cmp1 .notin (.var "kid") (.var "met")) [.asg (.ix (.var "met") (.var "kid")) (.cst (.bool true)),.expr (.meth (.var "left") "append" (.cons (.var "kid") .nil))] []] l H K:=by
 obtain hc:=vf (σ:=σ) (.var G) (.var h.v.2.1) h.hm;by_cases hm:j∈ms
 ·rw[decide_eq_true hm]at hc;exact gu hc (k _ _ _ h (λ_ z=>z) hm)
 ·rw[decide_eq_false hm]at hc;refine jx hc (vP .cst (.var h.v.2.1) (.var G) h.hm (oU _ _) (by unfold gF;rw[List.length_map];exact AB h.len O) ?_);rw[bz (by rw[kP,if_neg hm]),show gF ms++[(iv j,V.bool true)]=gF (ms++[j]) by unfold gF;rw[List.map_append];rfl];refine jy (.var h.v.2.2) ((AH.set_ne _ _ F.symm).trans h.hl) (.var G) (by rw[List.length_map];exact My h.bl) ?_;rw[te];exact k _ _ _ (h.add O P hm F) (λ_ z=>m8 _ z) (n8 _ (j5.mpr rfl))
theorem uB(O:D.n<=60)(B:ma≠la)(ks:List Nat):∀{l:Loc}{H:AH}{ms ls:List Nat},BW D H0 na ma la c x m l H ms ls->(∀j∈ks,j∈D.roots)->(∀l' H',Rf D H0 na ma la c x m ms (·∈ks) l' H'->K .next l' H') -> mh none (λv l H k=>∃l',bm (.nm "kid") v l=some l'/\aq σ d [.if1 (.cmp1 .notin (.var "kid") (.var "met")) [.asg (.ix (.var "met") (.var "kid")) (.cst (.bool true)),.expr (.meth (.var "left") "append" (.cons (.var "kid") .nil))] []] l' H k) (ks.map iv) l H K:=by
 induction ks with
 |nil=>exactλh _ k=>⟨trivial,k _ _ (bc _ _ h (λ_ z=>z) (λ_ h=>absurd h i6))⟩
 |cons j ks Q =>
  intro l H ms ls h F k;refine⟨trivial,(aa _ rfl (xK O B (h.loc λy P=>if_neg ((by decide:∀y∈["nodes","met","left"],¬y="kid") y P)) (F _ d6) (ao _ _ _) λH' ad Y h' s e=>?_))⟩;refine Q h' (λi hi=>F i (d7 _ hi)) λl2 H2 ⟨Z,l2',J,G,e2⟩=>k _ _ (bc Z l2' J (λi hi=>G i (s i hi)) (λi hi=>?_));rcases i8.mp hi with rfl|hi
  ·exact G _ e
  ·exact e2 i hi
noncomputable abbrev zj:List MS:=[.for1 (.nm "kid") (.exp (.slc (.var "node") (some 1) none)) [.if1 (.cmp1 .notin (.var "kid") (.var "met")) [.asg (.ix (.var "met") (.var "kid")) (.cst (.bool true)),.expr (.meth (.var "left") "append" (.cons (.var "kid") .nil))] []]]
theorem su(O:D.Ok)(J:ma≠la){G:Addr}(B:G≠ma/\G≠la)(Q:H0 G=some (.list (D.NN x)))(xs:List V):∀{l:Loc}{H:AH}{ms ls:List Nat},BW D H0 na ma la c x m l H ms ls->(∀v∈xs,v∈D.NN x)->(∀l' H',Rf D H0 na ma la c x m ms (λj=>∃nd:Nd,ak nd∈xs/\j∈nd.2) l' H'->K .next l' H') -> mh (some (G,D.NN x)) (λv l H k=>∃l',bm (.nm "node") v l=some l'/\aq σ d zj l' H k) xs l H K:=by
 induction xs with
 |nil=>exactλh _ k=>⟨h.x2 _ _ B.1 B.2 Q,k _ _ (bc _ _ h (λ_ z=>z) (λ_ ⟨_,z,_⟩=>absurd z i6))⟩
 |cons v xs ih =>
  intro l H ms ls h hv k;refine af (nV (hv _ d6)) λi hi Y=>?_;generalize hnd:D.canon i=nd at Y;subst Y;obtain P:=oa O (hv _ d6);refine⟨h.x2 _ _ B.1 B.2 Q,(aa _ rfl (xB (cB (kF (.var (ao _ _ _)) (by rw[List.length_map];exact d9 P.2 (by decide))) ⟨by rw[List.length_map];exact Kq P.2,?_⟩)))⟩;refine uB O.nz J nd.2 (h.loc λy hy=>if_neg ((by decide:∀y∈["nodes","met","left"],¬y="node") y hy)) P.1 λl1 H1 ⟨m1,l1',h1,s1,e1⟩=>?_;refine ih h1 (λw hw=>hv w (d7 _ hw)) λl2 H2 ⟨m2,l2',h2,s2,e2⟩=>k _ _ (bc m2 l2' h2 (λi hi=>s2 i (s1 i hi)) (λj ⟨n2,F,Z⟩=>?_));rcases i8.mp F with F|F
  ·exact s2 _ (e1 _ (iC F▸Z))
  ·exact e2 j (aa n2 F Z)
theorem xL(O:D.Ok)(Q:ma≠la)(N:NodesT D H0 na kvs)(B:na≠ma/\na≠la)(F:∀Y o,H0 Y=some o->Y≠ma/\Y≠la){H:AH}(h:BW D H0 na ma la c D.n m l H ms (ls++[x]))(k:∀m' l' H' J G,m'<m->BW D H0 na ma la c D.n m' l' H' J G->K .next l' H') : aq σ d [.for1 (.nm "node") (.exp (.idx (.var "nodes") (.meth (.var "left") "pop" .nil))) zj] l H K:=by
 obtain Z:x∈ms:=h.sub x (n8 _ (j5.mpr rfl));refine af (N.get x (h.rt x Z)) λY eg P=>?_;obtain hb:=h.b;have hl:=h.bl
 rw[List.length_append]at hb hl;have hm:=PE hb h.len O.nz;obtain B3:BW D H0 na ma la c x (m-1) l (H.set la (.list (ls.map iv))) ms ls :=
  { h with
   x2:=λy o a b e=>(AH.set_ne _ _ b).trans (h.x2 y o a b e)
   hm:=(AH.set_ne _ _ Q).trans h.hm
   hl:=AH.set_self _ _ _
   sub:=λy hy=>h.sub y (m8 _ hy)
   clo:=λk hk=>by
    rcases h.clo k hk with z|z|z
    ·exact(l9.mp z).imp_right λz=>.inl (j5.mp z)
    ·exact(tx z (HD.mem_roots.mp (h.rt k hk)).1).elim
    ·exact .inr (.inr z)
   b:=hm.1
   bl:=Nat.le_of_succ_le hl
   mz:=b8 (j7 hm.2) h.mz }
 refine xB (Bz (cB (.var h.v.1) (BA (.var h.v.2.2) (by rw[h.hl,te]) (by rw[List.length_map];exact o6 (Nat.lt_of_succ_le hl) (by decide)) (gU ((AH.set_ne _ _ B.2).trans (h.x2 _ _ B.1 B.2 N.o)) (N.fits _) eg ?_))));refine(bb _ (B3.x2 _ _ (F _ _ P).1 (F _ _ P).2 P) (Ew (gL O x)) (su O Q (F _ _ P) P _ B3 (λ_ z=>z) λl' H' ⟨J,G,h',s,e⟩=>?_));exact k (m-1) _ _ J G hm.2 { h' with clo:=λk hk=>(h'.clo k hk).imp_right λz=>.inr (z.elim (λz nd hnd j hj=>by rw[z]at hnd;exact e j (aa nd hnd hj)) id) }
end
abbrev Lp(I:Nat->Loc->AH->Prop)(n:Nat)(K:Fl->Loc->AH->Prop):Fl->Loc->AH->Prop:=λfl l H=>match fl with | .next=>∃m,m<n/\I m l H | .ret v=>K (.ret v) l H
theorem GC{d n:Nat}{x:String}{a:Addr}{b:List MS}(I:Nat->Loc->AH->Prop)(B:I n l H)(h:∀n l H,I n l H->∃ls:List Nat,l x=some (.ref a)/\H a=some (.list (ls.map iv))/\∀c,H c=none->if ls=[]then aq σ d rest l (H.set c (.list [])) K else aq σ d b l (H.set c (.list [])) (Lp I n K)) : aq σ d (.whl (.cmp1 .ne (.var x) (.lst .nil)) b::rest) l H K :=
 (aa I ⟨n,B⟩ (λn l H F=>by
  refine cL (h n l H F) λls e1 e2 k=>?_;refine(aa _ e1 (λc hc=>(mN _ _ (Ext.set _ hc _ _ e2) (AH.set_self _ _ _) ⟨oq _,by rw[io];decide⟩ ⟨rfl,m6 _⟩ ?_)));obtain k:=k c hc;rcases ls with _|⟨y,ys⟩
  ·rw[(bo _:cM (V.tup (List.map iv [])) (.tup [])=true)];exact fG rfl ((if_pos rfl).mp k)
  ·rw(config:={}) [(aN.mpr nofun:cM (V.tup (List.map iv (y::ys))) (.tup [])=false)];exact fI rfl ((if_neg (nofun:¬y::ys=[])).mp k)))
theorem BP(T:Txt σ)(O:D.Ok)(N:NodesT D H na kvs)(hc:c∈D.roots)(q:∀H' a (ms ks:List Nat),Ext H H'->H a=none->H' a=some (.list (ks.map iv))->(∀i,i∈ks↔i∈ms)->c∈ms->(∀y∈ms,y∈D.roots)->(∀k∈ms,Clo D ms k)->ks.length<=60->Q (.ref a) H'):FCall σ 1 "_law_below" [.ref na,iv c] H Q:=by
 refine dR T.ok T.law_below rfl ?_;refine(RS _ rfl ⟨(by simp),(aa 1 (by decide) (λp hp=>j5.mp hp▸rfl))⟩ (λp hp=>j5.mp hp▸rfl) rfl (by decide:1<=15) (λma an=>(aa _ rfl (λla F=>(aa _ rfl ?_)))));have ad:H la=none:=by
  by_cases z:la=ma
  ·rw[z];exact an
  ·rw[AH.set_ne _ _ z]at F;exact F
 have ar:ma≠la:=λz=>by rw[<- z,AH.set_self]at F;exact sn F
 obtain h2:∀a o,H a=some o->a≠ma/\a≠la:=λa o e=>⟨am e an,am e ad⟩;refine GC (n:=121) (a:=la) (λm l H'=>∃ms ls,BW D H na ma la c D.n m l H' ms ls) (vU ([c]) ([c]) ⟨(da rfl rfl rfl),λx o a b e=>by rw[AH.set_ne _ _ b,AH.set_ne _ _ a];exact e,(AH.set_ne _ _ ar).trans (AH.set_self _ _ _),AH.set_self _ _ _,List.pairwise_singleton _ c,λy hy=>by rw[List.mem_singleton.mp hy];exact hc,j5.mpr rfl,λ_ z=>z,λ_ z=>.inl z,(by decide:120+1<=121+2*1),(by decide:1<=200),by decide⟩) ?_;rintro m l H1 ⟨ms,ls,B⟩;refine(bb ls B.v.2.2 B.hl (λca Y=>?_));have B:BW D H na ma la c D.n m l (H1.set ca (.list [])) ms ls:={ B with x2:=λy o a b e=>Ext.set _ Y _ _ (B.x2 y o a b e),hm:=Ext.set _ Y _ _ B.hm,hl:=Ext.set _ Y _ _ B.hl };generalize H1.set ca (.list [])=H2 at B;by_cases e:ls=[]
 ·rw[if_pos e];refine cY (eA (cB (.var B.v.2.1) (.inr (aa _ B.hm ?_))));rw[show(gF ms).map (·.1)=ms.map iv by unfold gF;rw[List.map_map];rfl];refine⟨cQ (Es B.len O.nz),λsa Z=>?_⟩;refine af (qT (vs:=aJ (ms.map iv)) (l:=ms) λv hv=>(ai _).mem_iff.mp hv) λks P hks=>?_;obtain hl:=(ai (ms.map iv)).length_eq;rw[P,List.length_map,List.length_map]at hl;have G:H sa=none:=by
   rcases z:H sa with _|o
   ·rfl
   ·exact(am (B.x2 sa o (am B.hm Z).symm (am B.hl Z).symm z) Z rfl).elim
  refine q _ sa ms ks (λa o e=>(AH.set_ne _ _ (am e G)).trans (B.x2 a o (h2 _ _ e).1 (h2 _ _ e).2 e)) G (by rw[AH.set_self,P]) (λi=>⟨hks i,λhi=>?_⟩) B.hc B.rt (λk hk=>?_) (hl▸b8 B.len O.nz)
  ·obtain J:iv i∈aJ (ms.map iv):=(ai _).mem_iff.mpr (b9.mpr (aa i hi rfl));rw[P]at J;refine af (b9.mp J) λj hj e=>?_;rw[<- gW e];exact hj
  ·rcases B.clo k hk with z|z|z
   ·rw[e]at z;exact absurd z i6
   ·exact(tx z (HD.mem_roots.mp (B.rt k hk)).1).elim
   ·exact z
 ·rw[if_neg e];refine rY (show ∃l0 x,ls=l0++[x]from by
   rcases List.eq_nil_or_concat ls with z|⟨l0,x,z⟩
   ·exact absurd z e
   ·exact(vU l0 x (z.trans List.concat_eq_append))) λls0 x bK=>?_;subst bK
  exact xL O ar N (h2 _ _ N.o) h2 B λm' l' H' ms' ls' hm h'=>(aa m' hm (vU ms' ls' h'))
end
end
section
set_option tactic.hygienic true
noncomputable def hv(h:Nat->Nat):V->V
 | .int i=>iv (h i.toNat)
 |v=>v
theorem DH(h:Nat->Nat)(i:Nat):hv h (iv i)=iv (h i):=rfl
noncomputable def cy(h:Nat->Nat)(tb:cD):cD:=tb.map λp=>(p.1,hv h p.2)
theorem lf(h:Nat->Nat)(k:V):∀tb:cD,aA (cy h tb) k=(aA tb k).map (hv h)
 | []=>rfl
 |(a,b)::tb=>by show aA ((a,hv h b)::cy h tb) k=_;rw[bM,bM,lf h k tb];split <;> rfl
theorem sJ(h:Nat->Nat)(tb:cD)(k v:V):dput (cy h tb) k (hv h v)=cy h (dput tb k v):=by
 unfold dput;obtain e:(cy h tb).any (λp=>cM p.1 k)=tb.any λp=>cM p.1 k:=by unfold cy;rw[List.any_map];rfl
 rw[e];split
 ·unfold cy;rw[List.map_map,List.map_map];apply o7;intro p _;dsimp only[Function.comp];by_cases z:cM p.1 k=true
  ·rw[if_pos z,if_pos z]
  ·rw[if_neg z,if_neg z]
 ·unfold cy;simp
theorem sI(nd:(tb.map (·.1)).Nodup)(k v:V):((dput tb k v).map (·.1)).Nodup:=by
 unfold dput;split
 ·rw[List.map_map]
  have:((λp:V×V=>p.1)∘λp:V×V=>if cM p.1 k=true then(p.1,v)else p)=λp=>p.1:=by funext p;simp only[Function.comp];split <;> rfl
  rw[this];exact nd
 ·rename_i G;rw[List.map_append,List.nodup_append];refine⟨nd,by simp,λa F b B=>?_⟩;refine af (b9.mp F) λp hp aP=>?_;subst aP;obtain B:b=k:=by simpa using B
  rintro e;exact G (M4.mpr (aa p hp (by rw[e,B];exact bo _)))
theorem ei(N:Nat->List V)(op:String)(ps:List V)(tb:cD)(x:Nd):gI N op ps tb (ak x)=if x.1=op/\(x.2.map iv).length=ps.length then bT N ps (x.2.map iv) [tb]else[]:=rfl
theorem Ce{N N':Nat->List V}{h:Nat->Nat}(hN:∀c nd,nd∈N c->∃x:Nd,nd=ak x/\ak (x.1,x.2.map h)∈N' (h c)):∀(p:V)(c:Nat)(tb t:cD),t∈aC N p c tb->cy h t∈aC N' p (h c) (cy h tb) :=
 jZ (Q:=λps=>∀(ks:List Nat)(tbs F:List cD)(t:cD),(∀tb∈tbs,cy h tb∈F)->t∈bT N ps (ks.map iv) tbs->cy h t∈bT N' ps ((ks.map h).map iv) F)
  (λp Y c tb t B=>by rw[fE Y]at B;exact absurd B i6)
  (λop ps P c tb t B=>by
   rcases G:dY (.tup (.str op::ps))with _|_
   ·rw[bA N G]at B;rw[bA N' G];refine af (q6.mp B) λnd hnd B=>?_;refine af (hN c nd hnd) λx bx Z=>?_;subst bx;refine q6.mpr (aa _ Z ?_);rw[ei]at B ⊢;split at B
    ·rename_i g;rw[if_pos ⟨g.1,by simpa using g.2⟩];exact P x.2 [tb] _ t (λu J=>j5.mp J▸List.mem_singleton_self _) B
    ·exact absurd B i6
   ·rw[cr N G]at B;rw[cr N' G,lf];split at B
    ·rename_i e;have e:=(bt _ _).mp e;have e2:((aA tb (.str op)).map (hv h)).getD (iv (h c))=iv (h c):=by
      rcases z:aA tb (.str op)with _|v
      ·rfl
      ·rw[z]at e;exact j6 (hv h) e
     rw[e2,if_pos (bo _),List.mem_singleton,List.mem_singleton.mp B,<- DH h c,sJ]
    ·exact absurd B i6)
  (λks tbs F t hs B=>by rw[cE]at B ⊢;exact hs t B)
  (λp ps hp P ks tbs F t hs B=>by
   rcases ks with _|⟨k,ks⟩
   ·rw[List.map_nil,dF]at B;rw[List.map_nil,List.map_nil,dF];exact hs t B
   ·rw[List.map_cons,bW]at B;rw[List.map_cons,List.map_cons,bW];exact P ks _ _ t (λu J=>af (q6.mp J) λtb O J=>q6.mpr (aa _ (hs tb O) (hp k tb u J))) B)
theorem gR{f g:α->List β}{l:List α}(h:∀x∈l,f x=g x):l.flatMap f=l.flatMap g:=by
 induction l with
 |nil=>rfl
 |cons a l F=>rw[List.flatMap_cons,List.flatMap_cons,h a List.mem_cons_self,F λx B=>h x (List.mem_cons_of_mem _ B)]
theorem Cf{N N':Nat->List V}{S:Nat->Prop}(G:∀c,S c->N' c=N c/\∀nd∈N c,∃x:Nd,nd=ak x/\∀j∈x.2,S j):∀(p:V)(c:Nat)(tb:cD),S c->aC N' p c tb=aC N p c tb :=
 jZ (Q:=λps=>∀(ks:List Nat)(tbs:List cD),(∀k∈ks,S k)->bT N' ps (ks.map iv) tbs=bT N ps (ks.map iv) tbs)
  (λp h c tb _=>(fE h c tb).trans (fE h c tb).symm)
  (λop ps F c tb hc=>by
   rcases B:dY (.tup (.str op::ps))with _|_
   ·rw[bA N B,bA N' B,(G c hc).1];refine gR λnd hnd=>?_;refine af ((G c hc).2 nd hnd) λx bK O=>?_;subst bK;rw[ei,ei,F x.2 [tb] O]
   ·rw[cr N B,cr N' B])
  (λks tbs _=>(cE _ _ _).trans (cE _ _ _).symm)
  (λp ps hp F ks tbs hk=>by
   rcases ks with _|⟨k,ks⟩
   ·rw[List.map_nil,dF,dF]
   ·rw[List.map_cons,bW,bW,F ks _ λj J=>hk j (List.mem_cons_of_mem _ J),gR λtb _=>hp k tb (hk k List.mem_cons_self)])
theorem my{N:Nat->List V}{S:Nat->Prop}{P:cD->Prop}(hS:∀c,S c->∀nd∈N c,∃x:Nd,nd=ak x/\∀j∈x.2,S j)(Z:∀tb op i,P tb->S i->P (dput tb (.str op) (iv i))):∀(p:V)(c:Nat)(tb:cD),S c->P tb->∀t∈aC N p c tb,P t :=
 jZ (Q:=λps=>∀(ks:List Nat)(tbs:List cD),(∀k∈ks,S k)->(∀tb∈tbs,P tb)->∀t∈bT N ps (ks.map iv) tbs,P t)
  (λp h c tb _ _ t B=>by rw[fE h]at B;exact absurd B i6)
  (λop ps O c tb hc hp t B=>by
   rcases G:dY (.tup (.str op::ps))with _|_
   ·rw[bA N G]at B;refine af (q6.mp B) λnd hnd B=>?_;refine af (hS c hc nd hnd) λx cC hx=>?_;subst cC;rw[ei]at B;split at B
    ·exact O x.2 [tb] hx (λu F=>j5.mp F▸hp) t B
    ·exact absurd B i6
   ·rw[cr N G]at B;split at B
    ·rw[List.mem_singleton.mp B];exact Z tb op c hp hc
    ·exact absurd B i6)
  (λks tbs hk hp t B=>by rw[cE]at B;exact hp t B)
  (λp ps Y O ks tbs hk hp t B=>by
   rcases ks with _|⟨k,ks⟩
   ·rw[List.map_nil,dF]at B;exact hp t B
   ·rw[List.map_cons,bW]at B;exact O ks _ (λj hj=>hk j (d7 _ hj)) (λu F=>af (q6.mp F) λtb J F=>Y k tb (hk k d6) (hp tb J) u F) t B)
end
noncomputable def GL(h:Nat->Nat):V->V
 | .tup [s,v]=>.tup [s,hv h v]
 |v=>v
noncomputable def uO(h:Nat->Nat):V->V
 | .tup [.int c,.tup l]=>.tup [iv (h c.toNat),.tup (l.map (GL h))]
 |v=>v
noncomputable def wx:V->V
 | .tup (k::_)=>k
 |v=>v
structure TabN(tb:cD):Prop where
 nd:(tb.map (·.1)).Nodup
 ent:∀p∈tb,(∃s,p.1=.str s)/\∃i:Nat,p.2=iv i
theorem TabN.tabI(h:TabN tb):TabI tb.length tb:=⟨h.ent,f7 _⟩
theorem TabN.nil:TabN []:=⟨s9,λ_ h=>nomatch h⟩
theorem TabN.put(h:TabN tb)(op:String)(i:Nat):TabN (dput tb (.str op) (iv i)):=⟨sI h.nd _ _,((h.tabI.put op i).ent)⟩
theorem yR{s t:String}(B:s≠t)(v w F G:V):dP (.tup [.str s,v]) (.tup [.str t,w])=dP (.tup [.str s,F]) (.tup [.str t,G]):=by
 obtain hv:cM (.str s) (.str t)=false:=by rw[kj];simp[B]
 obtain key:∀v w,dP (.tup [.str s,v]) (.tup [.str t,w])=dP (.str s) (.str t):=λv w=>by
  conv=>lhs;unfold dP
  rw[fR,hv];simp
 rw[key,key]
theorem uR(h:Nat->Nat)(tb:cD):bq (cy h tb)=(bq tb).map (GL h):=by unfold bq cy;rw[List.map_map,List.map_map];rfl
theorem uX(h:Nat->Nat)(n:TabN tb):aT (cy h tb)=.tup ((aJ (bq tb)).map (GL h)):=by
 unfold aT;congr 1;have B:=n.tabI.items;obtain F:∀x,itemOK x->itemOK (GL h x):=λx ⟨s,i,e⟩=>(vU s (h i) (by rw[e];rfl));rw[uR];refine pc ((ai _).symm.map _) (λx hx y hy=>?_) ?_
 ·refine af (b9.mp hx) λx' P aP=>?_;subst aP;refine af (b9.mp hy) λy' Q bx=>?_;subst bx;exact(F _ (B _ P)).cmp (F _ (B _ Q))
 ·rw[List.pairwise_map];have Y:=bZ (bq tb) λa G b J=>(B a G).cmp (B b J);have Z:(aJ (bq tb)).Pairwise λa b=>wx a≠wx b:=by
   have:((aJ (bq tb)).map wx).Nodup:=by refine((ai (bq tb)).map wx).nodup_iff.mpr ?_;unfold bq;rw[List.map_map];exact n.nd
   exact L6.mp this
  obtain h3:=Y.and Z;refine h3.imp_of_mem λ{a b} G J z=>?_;refine rY (B a ((ai _).mem_iff.mp G)) λs i bK=>?_;subst bK;refine rY (B b ((ai _).mem_iff.mp J)) λt j cC=>?_;subst cC;have O:t≠s:=λe=>z.2 (by rw[e];rfl);exact(yR O _ _ _ _).trans z.1
theorem qS(h:Nat->Nat)(c:Nat)(n:TabN tb):uO h (.tup [iv c,aT tb])=.tup [iv (h c),aT (cy h tb)]:=by rw[uX h n];rfl
section
variable{D:HD}
theorem ed(h:x∈D.NN k):∃nd:Nd,x=ak nd:=by refine af (nV h) λi _ e=>?_;exact⟨_,e⟩
theorem wM(h:i∈D.mem k):ak (D.canon i)∈D.NN k:=by unfold HD.NN;exact(ai _).mem_iff.mpr (aK.mpr (b9.mpr (aa i h rfl)))
theorem gP{N:Nat->List V}(hN:∀c,∀nd∈N c,∃x:Nd,nd=ak x)(p:V)(c:Nat):∀t∈aC N p c [],TabN t :=my (S:=λ_=>True) (P:=TabN) (λc _ nd h=>let⟨x,e⟩:=hN c nd h;(aa x e (λ_ _=>trivial))) (λtb op i h _=>h.put op i) p c [] trivial TabN.nil
theorem lI{p:V}{s:V}:s∈bX D p c↔∃t∈aC D.NN p c [],s=aT t:=by unfold bX;rw[(ai _).mem_iff,aK,List.mem_map];exact⟨λ⟨t,h,e⟩=>(aa t h e.symm),λ⟨t,h,e⟩=>(aa t h e.symm)⟩
theorem dI{p:V}:x∈ay D p↔∃c∈D.roots,∃t∈aC D.NN p c [],x=.tup [iv c,aT t]:=by
 unfold ay;simp only[List.mem_flatMap,List.mem_map,lI];constructor
 ·rintro⟨c,hc,s,⟨t,B,rfl⟩,rfl⟩;exact(aa c hc (aa t B rfl))
 ·rintro⟨c,hc,t,B,rfl⟩;exact(aa c hc (aa _ (aa t B rfl) rfl))
structure Coarse(D D':HD):Prop where
 o:D.Ok
 o':D'.Ok
 nodes:D'.nodes=D.nodes
 le:∀i j,i<D.n->j<D.n->D.r i=D.r j->D'.r i=D'.r j
theorem Coarse.n(C:Coarse D D'):D'.n=D.n:=j6 List.length C.nodes
theorem Coarse.rr(C:Coarse D D')(h:i<D.n):D'.r (D.r i)=D'.r i:=C.le _ _ (gJ C.o h) h (C.o.rle i h).2
theorem Coarse.kids(C:Coarse D D')(i:Nat):D'.kids i=D.kids i:=by unfold HD.kids;rw[C.nodes]
theorem Coarse.op(C:Coarse D D')(i:Nat):D'.op i=D.op i:=by unfold HD.op;rw[C.nodes]
theorem Coarse.canon(C:Coarse D D')(h:i<D.n):D'.canon i=((D.canon i).1,(D.canon i).2.map D'.r):=by unfold HD.canon;rw[C.kids,C.op];refine M8 rfl ?_;rw[List.map_map];apply o7;intro k hk;exact(C.rr (m4 (jS C.o h k hk) h)).symm
theorem Coarse.hN(C:Coarse D D'):∀c nd,nd∈D.NN c->∃x:Nd,nd=ak x/\ak (x.1,x.2.map D'.r)∈D'.NN (D'.r c):=λc nd h=>by refine af (nV h) λi hi e=>?_;refine bQ (HD.mem_lt hi) λB F=>?_;refine(aa _ e ?_);rw[<- C.canon B];refine wM ?_;unfold HD.mem;rw[List.mem_filter,List.mem_range,C.n];exact⟨B,by rw[<- F,C.rr B];simp⟩
theorem sQ(C:Coarse D D')(p:V):∀x∈ay D p,uO D'.r x∈ay D' p:=λx O=>by
 refine af (dI.mp O) λc hc dj=>?_;refine af dj λt J G=>?_;subst G;rw[qS _ _ (gP (λc nd h=>ed h) p c t J)];obtain F:=(HD.mem_roots.mp hc).1;obtain B:c<D'.n:=by rw[C.n];exact F
 exact dI.mpr (aa _ (HD.mem_roots.mpr ⟨gJ C.o' B,(C.o'.rle c B).2⟩) (aa _ (Ce C.hN p c [] t J) rfl))
theorem nB(p:V)(c:Nat):(bX D p c).Pairwise λa b=>dP b a=false:=by unfold bX;refine bZ _ λa J b O=>?_;refine af (b9.mp (aK.mp J)) λs hs B=>?_;subst B;refine af (b9.mp (aK.mp O)) λt P F=>?_;subst F;obtain G:=gP (N:=D.NN) (λc nd h=>ed h) p c;exact((G s hs).tabI.subst).cmp ((G t P).tabI.subst)
theorem pz(p:V)(c:Nat):(bX D p c).Nodup:=(ai _).nodup_iff.mpr (cH _)
noncomputable def cK(c:Nat)(s:V):V:=.tup [iv c,s]
theorem qg{d:Nat}{s t:V}(h:cK c s=cK d t):c=d/\s=t:=by unfold cK at h;injection h with h;simp only[List.cons.injEq]at h;exact⟨gW h.1,h.2.1⟩
theorem ue(c d:Nat)(s t:V):dP (cK c s) (cK d t)=if c=d then(if cM s t then false else dP s t)else decide (c<d):=by
 unfold cK
 conv=>lhs;unfold dP
 rw[fR,cI];by_cases h:c=d
 ·subst h;rw[decide_eq_true rfl,if_pos rfl,if_pos rfl,fR];rfl
 ·rw[decide_eq_false (iY h),if_neg h];simp only[Bool.false_eq_true,if_false]
  conv=>lhs;unfold dP
  by_cases B:c<d
  ·rw[decide_eq_true B,decide_eq_true (LS B)]
  ·rw[decide_eq_false B,decide_eq_false (MA B)]
theorem jK{g:Nat->List V}(Y:∀c,(g c).Pairwise λa b=>dP b a=false)(Z:∀c,(g c).Nodup):∀{l:List Nat},l.Pairwise (· < ·)->(l.flatMap λc=>(g c).map (cK c)).Pairwise (λa b=>dP b a=false)/\(l.flatMap λc=>(g c).map (cK c)).Nodup
 | [],_=>⟨List.Pairwise.nil,s9⟩
 |c::l,h=>by
  rw[List.pairwise_cons]at h;refine bQ (jK Y Z h.2) λi1 i2=>?_;rw[List.flatMap_cons];obtain F:∀a∈(g c).map (cK c),∀b∈l.flatMap (λc=>(g c).map (cK c)),∃d s t,c<d/\a=cK c s/\b=cK d t:=λa O b J=>by refine af (b9.mp O) λs _ Q=>?_;subst Q;refine af (q6.mp J) λd hd J=>?_;refine af (b9.mp J) λt _ P=>?_;subst P;exact(RU d s t (h.1 d hd) rfl rfl)
  constructor
  ·rw[List.pairwise_append];refine⟨?_,i1,λa O b J=>?_⟩
   ·rw[List.pairwise_map];refine(Y c).imp λ{a b} z=>?_;rw[ue,if_pos rfl];split
    ·rfl
    ·exact z
   ·obtain⟨d,s,t,G,rfl,rfl⟩:=F a O b J;rw[ue,if_neg (MB G),decide_eq_false (MC G)]
  ·rw[List.nodup_append];refine⟨?_,i2,λa O b J=>?_⟩
   ·obtain B:=Z c;unfold List.Nodup at B ⊢;rw[List.pairwise_map];exact B.imp λ{a b} z e=>z (qg e).2
   ·obtain⟨d,s,t,G,rfl,rfl⟩:=F a O b J;intro e;obtain B:=(qg e).1;exact tx B G
theorem pV(p:V):ay D p=D.roots.flatMap λc=>(bX D p c).map (cK c):=rfl
theorem pA(p:V):(ay D p).Pairwise (λa b=>dP b a=false)/\(ay D p).Nodup:=jK (nB p) (pz p) D.roots_rise
theorem qz:∀{l:List V},l.Nodup->aI l=l
 | [],_=>rfl
 |a::l,h=>by rw[List.nodup_cons]at h;unfold aI;rw[qz h.2];congr 1;rw[List.filter_eq_self];intro b B;rw[Bool.not_eq_true',aN];rintro rfl;exact h.1 B
theorem nC(p:V):∀x∈ay D p,∀y∈ay D p,bS x y=true:=λx Q y Y=>by
 refine af (dI.mp Q) λc _ B=>?_;refine af B λs hs F=>?_;subst F;refine af (dI.mp Y) λd _ G=>?_;refine af G λt P J=>?_;subst J;obtain O:=λc=>gP (N:=D.NN) (λc nd h=>ed h) p c
 have:=((O c s hs).tabI.subst).cmp ((O d t P).tabI.subst)
 show(bS (iv c) (iv d)&&(bS (aT s) (aT t)&&true))=true;rw[this];rfl
theorem qP(p:V):aJ (aI (ay D p))=ay D p:=by refine bQ (pA (D:=D) p) λB F=>?_;rw[qz F];exact pc (r7 _) (nC p) B
end
noncomputable def pX(c:Nat):V->Bool
 | .tup (.int i::_)=>decide (i=(c:Int))
 |_=>false
theorem gT(c d:Nat)(s:V):pX c (cK d s)=decide (d=c):=by
 unfold pX cK;by_cases h:d=c
 ·subst h;simp
 ·simp[h];exact iY h
theorem gb{g:Nat->List V}:∀{l:List Nat},l.Nodup->(l.flatMap λk=>(g k).map (cK k)).filter (pX c)=if c∈l then(g c).map (cK c)else[]
 | [],_=>rfl
 |k::l,h=>by
  rw[List.nodup_cons]at h;rw[List.flatMap_cons,List.filter_append,gb h.2];have e:((g k).map (cK k)).filter (pX c)=if k=c then(g k).map (cK k)else[]:=by
   by_cases hk:k=c
   ·rw[if_pos hk,List.filter_eq_self];intro x F;obtain⟨s,_,rfl⟩:=b9.mp F;rw[gT,decide_eq_true hk]
   ·rw[if_neg hk,List.filter_eq_nil_iff];intro x F;obtain⟨s,_,rfl⟩:=b9.mp F;rw[gT,decide_eq_false hk];exact n7
  rw[e];by_cases hk:k=c
  ·subst hk;rw[if_pos rfl,if_neg h.1,if_pos List.mem_cons_self,List.append_nil]
  ·rw[if_neg hk,List.nil_append];obtain B:c∈k::l↔c∈l:=by simp;exactλz=>absurd z.symm hk
   simp only[B]
section
variable{D:HD}
theorem dU(D:HD):D.roots.Nodup:=D.roots_rise.imp λh=>n9 h
noncomputable def bO(D D':HD)(k:Nat):Nat:=(D.roots.filter λe=>decide (D'.r e=k)).length
theorem kJ(C:Coarse D D')(hk:k∈D'.roots)(h1:bO D D' k=1):D.r k=k/\∀e∈D.roots,D'.r e=k->e=k:=by
 refine bQ (HD.mem_roots.mp hk) λG Y=>?_;have B:k<D.n:=by rw[<- C.n];exact G
 unfold bO at h1;refine bR (List.length_eq_one_iff.mp h1) λe0 Q=>?_;have uni:∀e∈D.roots,D'.r e=k->e=e0:=λe P Z=>by obtain F:e∈D.roots.filter λe=>decide (D'.r e=k):=u1.mpr ⟨P,by simpa using Z⟩;rw[Q]at F;exact j5.mp F
 obtain ad:D.r k∈D.roots:=HD.mem_roots.mpr ⟨gJ C.o B,(C.o.rle k B).2⟩;have e1:D'.r (D.r k)=k:=by rw[C.rr B,Y]
 obtain J:=(C.o.rle k B).1;obtain O:=(C.o'.rle (D.r k) (by rw[C.n];exact gJ C.o B)).1;have e2:D.r k=k:=by exact MD e1 O J
 obtain e3:k=e0:=by rw[<- e2] ;exact uni _ ad e1
 exact⟨e2,λe P Z=>by rw[e3];exact uni e P Z⟩
theorem Ba(C:Coarse D D')(hk:k∈D'.roots)(G:bO D D' k=1):D'.mem k=D.mem k:=by
 obtain⟨e2,uni⟩:=kJ C hk G;obtain⟨B,F⟩:=HD.mem_roots.mp hk;obtain J:k<D.n:=by rw[<- C.n];exact B
 unfold HD.mem;rw[C.n];apply p7;intro i hi;obtain hi:=j9.mp hi
 have:D'.r i=k↔D.r i=k:=by
  constructor
  ·intro h;exact uni _ (HD.mem_roots.mpr ⟨gJ C.o hi,(C.o.rle i hi).2⟩) (by rw[C.rr hi,h])
  ·intro h;obtain this:=C.rr hi;rw[h,F]at this;exact this.symm
 by_cases h:D'.r i=k
 ·rw[decide_eq_true h,decide_eq_true (this.mp h)]
 ·rw[decide_eq_false h,decide_eq_false (λz=>h (this.mpr z))]
theorem CW(C:Coarse D D'){ms:List Nat}(G:∀k∈ms,k∈D'.roots)(clo:∀k∈ms,Clo D' ms k)(O:∀k∈ms,bO D D' k=1)(hk:k∈ms):D'.NN k=D.NN k:=by
 obtain hm:=Ba C (G k hk) (O k hk);unfold HD.NN;rw[hm];congr 2;apply o7;intro i hi;refine bQ (HD.mem_lt hi) λF _=>?_;congr 1;obtain J:=clo k hk (D'.canon i) (wM (by rw[hm];exact hi));unfold HD.canon;rw[C.op,C.kids];refine M8 rfl ?_;apply o7;intro y Q;obtain B:y<D.n:=m4 (jS C.o F y Q) F;obtain P:D'.r y∈ms:=J _ (by unfold HD.canon;rw[C.kids];exact b9.mpr (aa y Q rfl))
 have:=(kJ C (G _ P) (O _ P)).2 (D.r y) (HD.mem_roots.mpr ⟨gJ C.o B,(C.o.rle y B).2⟩) (C.rr B)
 exact this.symm
theorem uN(C:Coarse D D')(p:V){ms:List Nat}(B:∀k∈ms,k∈D'.roots)(clo:∀k∈ms,Clo D' ms k)(h1:∀k∈ms,bO D D' k=1)(hc:c∈ms) :(ay D' p).filter (pX c)=((ay D p).map (uO D'.r)).filter (pX c):=by
 have hS:∀k,k∈ms->D'.NN k=D.NN k/\∀nd∈D.NN k,∃x:Nd,nd=ak x/\∀j∈x.2,j∈ms:=λk hk=>by obtain e:=CW C B clo h1 hk;refine⟨e,λnd hnd=>?_⟩;refine bR (ed hnd) λx bK=>?_;subst bK;exact(aa x rfl (clo k hk x (by rw[e];exact hnd)))
 obtain eS:aC D'.NN p c []=aC D.NN p c []:=Cf hS p c [] hc;have eF:bX D' p c=bX D p c:=by unfold bX;rw[eS]
 obtain⟨e2,uni⟩:=kJ C (B c hc) (h1 c hc);obtain⟨G,J⟩:=HD.mem_roots.mp (B c hc);have Z:c<D.n:=by rw[<- C.n];exact G
 have O:c∈D.roots:=HD.mem_roots.mpr ⟨Z,e2⟩;rw[pV,gb (dU D'),if_pos (B c hc),eF];obtain Y:∀x∈ay D p,pX c (uO D'.r x)=pX c x:=λx hx=>by
  refine af (dI.mp hx) λe he cC=>?_;refine af cC λt Q dj=>?_;subst dj;rw[qS _ _ (gP (λc nd h=>ed h) p e t Q)];show pX c (cK _ _)=pX c (cK _ _);rw[gT,gT];by_cases h:e=c
  ·subst h;rw[J]
  ·rw[decide_eq_false h,decide_eq_false λz=>h (uni e he z)]
 rw[List.filter_map];obtain this:(ay D p).filter (pX c∘uO D'.r)=(ay D p).filter (pX c):=p7 Y;rw[this,pV,gb (dU D),if_pos O,List.map_map];apply o7;intro s hs;refine af (lI.mp hs) λt Q ad=>?_;subst ad;show cK c (aT t)=uO D'.r (.tup [iv c,aT t]);rw[qS _ _ (gP (λc nd h=>ed h) p c t Q),J];obtain F:∀q∈t,∃i,q.2=iv i/\i∈ms:=my (S:=λk=>k∈ms) (P:=λtb=>∀q∈tb,∃i,q.2=iv i/\i∈ms) (λk hk nd hnd=>(hS k hk).2 nd hnd) (λtb op i h hi q hq=>by
  rcases nq hq with h'|h'|⟨q',hq',e1,e2⟩
  ·exact h q h'
  ·rw[h'];exact(aa i rfl hi)
  ·exact(aa i e2 hi)) p c [] hc (λ_ h=>absurd h i6) t Q
 have:cy D'.r t=t:=by
  conv=>rhs;rw[<- List.map_id t]
  apply o7;intro q hq;refine af (F q hq) λi e hi=>?_;refine M8 rfl ?_;show hv D'.r q.2=q.2;rw[e,DH,(HD.mem_roots.mp (B i hi)).2]
 rw[this];rfl
end
theorem vR{f f':Nat->Nat}(B:∀x,x≠k->f' x=f x)(as:List Nat):dput (bn f as) (iv k) (iv (f' k))=bn f' (pn as k):=by
 have hc:∀l:List Nat,k∉l->bn f l=bn f' l:=λl hl=>by unfold bn;apply o7;intro x F;rw[B x λe=>hl (e▸F)]
 unfold pn;by_cases h:k∈as
 ·rw[if_pos h];unfold dput
  have:(bn f as).any (λp=>cM p.1 (iv k))=true:=by rw[List.any_eq_true];exact(aa _ (b9.mpr (aa k h rfl)) (bo _))
  rw[if_pos this];unfold bn;rw[List.map_map];apply o7;intro x _;simp only[Function.comp,cI];by_cases e:x=k
  ·subst e;simp
  ·rw[decide_eq_false (iY e),B x e];simp
 ·rw[if_neg h,bz (jz h)];obtain e:=hc as h;unfold bn at e ⊢;rw[List.map_append,e];rfl
theorem oS{f:Nat->Nat}(B:∀k,k∉as->f k=0)(k:Nat):(aA (bn f as) (iv k)).getD (iv 0)=iv (f k):=by
 by_cases h:k∈as
 ·rw[kO h];rfl
 ·rw[jz h,B k h];rfl
noncomputable def qI(r:Nat->Nat)(done:List Nat)(k:Nat):Nat:=(done.filter λe=>decide (r e=k)).length
theorem nh(r:Nat->Nat)(done:List Nat)(e k:Nat):qI r (done++[e]) k=qI r done k+if r e=k then 1 else 0:=by unfold qI;rw[List.filter_append,List.length_append];congr 1;by_cases h:r e=k <;> simp[h]
theorem uJ{D:HD}(O:D.Ok){H:AH}{a:Addr}(E:Home D H a as):∃cs:List Nat,aJ (aI ((bn D.r as).map (·.2)))=cs.map iv/\cs.Perm D.roots/\(bn D.r as).map (·.2)=(as.map D.r).map iv:=by
 obtain Q:(bn D.r as).map (·.2)=(as.map D.r).map iv:=by unfold bn;rw[List.map_map,List.map_map];rfl
 rw[Q];refine af (qT (vs:=aJ (aI ((as.map D.r).map iv))) (l:=as.map D.r) λv hv=>aK.mp ((ai _).mem_iff.mp hv)) λcs e hc=>?_;refine(bb cs e ?_ rfl);have nd:cs.Nodup:=by
  obtain B:(cs.map iv).Nodup:=by rw[<- e];exact(ai _).nodup_iff.mpr (cH _)
  unfold List.Nodup at B ⊢;rw[List.pairwise_map]at B;exact B.imp λ{a b} h z=>h (by rw[z])
 refine(y9 nd (dU D)).mpr λi=>?_;constructor
 ·intro hi;refine af (b9.mp (hc i hi)) λj P aP=>?_;subst aP;obtain F:=(E.mem j).mp P;exact HD.mem_roots.mpr ⟨gJ O F,(O.rle j F).2⟩
 ·intro hi;obtain⟨G,J⟩:=HD.mem_roots.mp hi;obtain B:iv i∈aJ (aI ((as.map D.r).map iv)):=(ai _).mem_iff.mpr (aK.mpr (b9.mpr ⟨i,b9.mpr ⟨i,(E.mem i).mpr G,J⟩,rfl⟩));rw[e]at B;refine af (b9.mp B) λj P e=>?_;rw[<- gW e];exact P
section
variable{D:HD}{H:AH}
theorem Bi(C:Coarse D D'){d:Nat}{Y ea:Addr}{has eas:List Nat}(hm:Home D' H Y has)(E:Home D H ea eas)(l1:l "home"=some (.ref Y))(l2:l "elder"=some (.ref ea))(k:∀l' H' ma as,Ext H H'->H ma=none->H' ma=some (.dict (bn (bO D D') as))->(∀k,k∉as->bO D D' k=0)->l' "many"=some (.ref ma)->(∀y,y∉["many","c"]->l' y=l y)->aq σ d rest l' H' K) : aq σ d (.asg (.tg (.nm "many")) (.dct .nil .nil)::.for1 (.nm "c") (.exp (.prim .sortedSetVals (.var "elder"))) [.asg (.ix (.var "many") (.idx (.var "home") (.var "c"))) (.bin .add (.meth (.var "many") "get" (.cons (.idx (.var "home") (.var "c")) (.cons (.cst (.int 0)) .nil))) (.cst (.int 1)))]::rest) l H K:=by
 refine(GJ dictOK.nil (λ_ h=>nomatch h) rfl (by decide) (λma G=>(aa _ rfl ?_)));obtain hn:D.n<=60:=C.o.nz;obtain hel:=E.len;refine cL (uJ C.o E) λcs ecs O e0=>?_;obtain x0:Ext H (H.set ma (.dict [])):=Ext.set _ G;obtain ar:(H.set ma (.dict [])) ma=some (.dict []):=AH.set_self _ _ _;rw[show(([]:List V).zip ([]:List V))=[]from rfl];generalize H.set ma (.dict [])=H1 at *;refine(aa _ ((aj _ _ (by decide)).trans l2) ⟨_,x0 _ _ E.o,yM _ _,by rw[e0];exact cQ (by simp;exact Es hel hn),λsa a0=>?_⟩);rw[ecs];have Z:cs.length<=60:=by obtain F:=O.length_eq;obtain F:=D.roots_len;exact Mx F (by assumption) hn
 obtain a1:sa≠ma:=(am ar a0).symm;obtain x1:Ext H (H1.set sa (.list (cs.map iv))):=x0.trans' (Ext.set _ a0);obtain hm1:(H1.set sa (.list (cs.map iv))) ma=some (.dict []):=by rw[AH.set_ne _ _ a1.symm];exact ar
 have ax:(H1.set sa (.list (cs.map iv))) sa=some (.list (cs.map iv)):=AH.set_self _ _ _;generalize H1.set sa (.list (cs.map iv))=H2 at *;refine(bb _ ax (by simp;exact EI Z) ?_);have an:Y≠ma:=am hm.o G;refine dl (src:=some (sa,cs.map iv)) (λxs l' H'=>l' "many"=some (.ref ma)/\(∀y,y∉["many","c"]->l' y=l y)/\ExtB ma H2 H'/\∃rem B as:List Nat,xs=rem.map iv/\cs=B++rem/\H' ma=some (.dict (bn (qI D'.r B) as))/\as.length<=B.length/\∀k,k∉as->qI D'.r B k=0)
  (λ_ _ _ h=>h.2.2.1 _ _ a1 ax) (λv xs l' H' k' h hk=>?_) (λl' H' h=>?_) _ _ _ (mu (ao _ _ _) (λy hy=>aj _ _ (λe=>hy (by simp[e]))) ExtB.refl (EU cs ([]) ([]) rfl rfl hm1 (f7 _) (λ_ _=>rfl)))
 ·refine rT h λh1 h2 x2 bx=>?_;refine Pq bx λrem B as ex P e2 J Q=>?_;cases rem with
  |nil=>simp at ex
  |cons c rem =>
   simp only[List.map_cons,List.cons.injEq]at ex;obtain⟨rfl,rfl⟩:=ex;obtain hcr:=(HD.mem_roots.mp (O.mem_iff.mp (show c∈cs by rw[P];simp))).1;obtain ad:c<D'.n:=by rw[C.n];exact hcr
   obtain av:Home D' H' Y has:=⟨x2 _ _ an (x1 _ _ hm.o),hm.nd,hm.mem⟩;obtain lh:(l'.put "c" (iv c)) "home"=some (.ref Y):=by rw[aj _ _ (by decide),h2 _ (by decide)];exact l1
   obtain lm:(l'.put "c" (iv c)) "many"=some (.ref ma):=(aj _ _ (by decide)).trans h1;obtain lc:(l'.put "c" (iv c)) "c"=some (iv c):=ao _ _ _;have hpl:B.length<=60:=by
    obtain F:cs.length=B.length+(c::rem).length:=by rw[P,List.length_append]
    exact MF F Z
   refine(aa _ rfl ?_);refine(aa _ lm (aa .dict ⟨by simp,ma,_,rfl,e2⟩ (aa _ lh (aa _ lc (av.idx ad (bc ma _ rfl e2 (.inl ⟨rfl,(bc _ _ rfl (eN _ _ _) ?_)⟩)))))));rw[show(V.int 0)=iv 0 from rfl,oS Q];refine(aa _ lm (aa _ lh (aa _ lc (av.idx ad (aa ma rfl (.inr (iN _ e2 (eN _ _ _) (by unfold bn;rw[List.length_map];exact AB J hpl) ?_)))))));obtain ev:V.int ((qI D'.r B (D'.r c):Int)+1)=iv (qI D'.r (B++[c]) (D'.r c)):=by rw[nh,if_pos rfl];simp
   rw[ev,vR (f':=qI D'.r (B++[c])) (λx hx=>by rw[nh,if_neg (Ne.symm hx)];rfl)];refine hk _ _ (mu lm (λy hy=>(aj _ _ (λe=>hy (by simp[e]))).trans (h2 y hy)) (x2.set _) (EU rem (B++[c]) _ rfl (by rw[P];simp) (AH.set_self _ _ _) ?_ (λk hk=>?_)))
   ·unfold pn;split
    ·simp;exact Ar J
    ·simp;assumption
   ·rw[sq,not_or]at hk;rw[nh,Q k hk.1,if_neg (λz=>hk.2 z.symm)]
 ·refine rT h λh1 h2 x2 dj=>?_;refine Pq dj λrem B as ex P e2 J Q=>?_;obtain F:rem=[]:=by simpa using ex.symm
  subst F;rw[List.append_nil]at P;subst P;obtain ee:qI D'.r cs=bO D D':=by funext k;exact(O.filter _).length_eq
  rw[ee]at e2 Q;exact k l' H' ma as (λa o e=>x2 a o (am e G) (x1 a o e)) G e2 Q h1 h2
end
def Hq(n:Nat)(x:V):Prop:=∃(s:String)(i:Nat),x=.tup [.str s,iv i]/\i<n
def foundR(n:Nat)(x:V):Prop:=∃(c:Nat)(items:List V),x=.tup [iv c,.tup items]/\c<n/\(∀y∈items,Hq n y)/\items.length<=60
theorem eI{D:HD}(O:D.Ok){p:V}(hz:vl p<60):∀x∈ay D p,foundR D.n x:=λx Y=>by
 refine af (dI.mp Y) λc hc aP=>?_;refine af aP λt J bx=>?_;subst bx;obtain hT:=nu (N:=D.NN) p c (k:=0) (tb:=[]) ⟨(λ_ h=>nomatch h),f7 _⟩ t J;obtain B:∀q∈t,∃i,q.2=iv i/\i∈D.roots:=my (S:=λk=>k∈D.roots) (P:=λtb=>∀q∈tb,∃i,q.2=iv i/\i∈D.roots) (λk hk nd hnd=>by
  obtain⟨x,rfl⟩:=ed hnd;exact(aa x rfl ((oa O hnd).1))) (λtb op i h hi q hq=>by
  rcases nq hq with h'|h'|⟨Z,Q,e1,e2⟩
  ·exact h q h'
  ·rw[h'];exact(aa i rfl hi)
  ·exact(aa i e2 hi)) p c [] hc (λ_ h=>nomatch h) t J
 refine(jh c (aJ (bq t)) rfl ((HD.mem_roots.mp hc).1) (λy G=>?_) ?_)
 ·have G:=(ai _).mem_iff.mp G;refine af (b9.mp G) λq hq cC=>?_;subst cC;refine bQ (hT.ent q hq) λdj _=>?_;obtain⟨s,e1⟩:=dj;refine af (B q hq) λi e2 hi=>?_;exact(fA s i (by rw[e1,e2]) ((HD.mem_roots.mp hi).1))
 ·rw[(ai _).length_eq];unfold bq;rw[List.length_map];obtain F:=hT.len;exact MG F hz
theorem js:∀{l:List V},(∀x∈l,cz x=true)->bu l=true
 | [],_=>rfl
 |x::l,h=>by unfold bu;rw[h x List.mem_cons_self,js λy B=>h y (List.mem_cons_of_mem _ B)];rfl
theorem foundR.plain{n:Nat}(h:foundR n x):cz x=true/\az x<=3:=by
 refine ph h λc items F _ hi _=>?_;subst F;obtain O:bu items=true:=js λy B=>by refine cb (hi y B) λs i G _=>?_;subst G;rfl
 obtain P:br items<=1:=ft λy B=>by refine cb (hi y B) λs i J _=>?_;subst J;exact f7 1
 constructor
 ·show(true&&(bu items&&true))=true;rw[O];rfl
 ·show max 0 (max (br items+1) 0)+1<=3;exact MH P
theorem ff{n:Nat}{l:List V}(h:∀x∈l,foundR n x):jt l:=⟨js λx B=>(h x B).plain.1,b8 (ft (n:=3) λx B=>(h x B).plain.2) (by decide)⟩
theorem DI{n:Nat}{h:Nat->Nat}(J:∀i,i<n->h i<n)(r:foundR n x):foundR n (uO h x):=by refine ph r λc items G hc hi hl=>?_;subst G;refine(jh (h c) (items.map (GL h)) rfl (J c hc) (λy O=>?_) (by rw[List.length_map];exact hl));refine af (b9.mp O) λz hz B=>?_;subst B;refine cb (hi z hz) λs i F hi=>?_;subst F;exact(fA s (h i) rfl (J i hi))
section
variable{D:HD}{H:AH}{d:Nat}
theorem vE{ha ba:Addr}{has:List Nat}{J:List V}(hm:Home D' H ha has)(l1:l "home"=some (.ref ha))(l2:l "before"=some (.ref ba))(hb:H ba=some (.list J))(hR:∀x∈J,foundR D'.n x)(O:J.length<2^19)(k:∀H' ia,Ext H H'->H' ia=some (.list (J.map (uO D'.r)))->aq σ d rest (l.put "images" (.ref ia)) H' K) : aq σ d (.asg (.tg (.nm "images")) (.comp (.tup (.cons (.idx (.var "home") (.var "c")) (.cons (.prim .tuple (.comp (.tup (.cons (.var "name") (.cons (.idx (.var "home") (.var "kid")) .nil))) (.one (.tp2 (.nm "name") (.nm "kid")) (.exp (.var "subst")) none))) .nil))) (.one (.tp2 (.nm "c") (.nm "subst")) (.exp (.var "before")) none))::rest) l H K:=by
 refine(aa _ l2 ⟨_,hb,by exact AC O,λc hc=>(aa c rfl ?_)⟩);refine dg (src:=some (ba,J)) (H0:=H) (hsrc:=hb) (λx=>[uO D'.r x]) _ [] _ (Ext.set _ hc) (AH.set_self _ _ _) (by rw[dS];simp;exact MI O) (λx hx H' ws' k' x1 F P hk'=>?_) λH' x1 F=>?_
 ·refine ph (hR x hx) λcc items Z hcn hi G=>?_;subst Z;refine(aa _ rfl ?_);refine yT (fI rfl ?_);obtain Y:=hm.ext x1;obtain lh:(((l.drop (cZ (.tp2 (.nm "c") (.nm "subst")))).put "c" (iv cc)).put "subst" (.tup items)) "home"=some (.ref ha):=(aj _ _ (by decide)).trans ((aj _ _ (by decide)).trans ((bN _ (by decide)).trans l1));refine(aa _ lh (aa _ ((aj _ _ (by decide)).trans (ao _ _ _)) (Y.idx hcn (aa _ (ao _ _ _) ⟨by exact Ew G,λc2 hc2=>(aa c2 rfl ?_)⟩))));refine dg (src:=none) (H0:=H') (hsrc:=trivial) (λy=>[GL D'.r y]) _ [] _ (Ext.set _ hc2) (AH.set_self _ _ _) (by rw[dS];simp;exact MJ G) (λy hy H2 ws2 k2 x2 B Q hk2=>?_) λH2 x2 B=>?_
  ·refine cb (hi y hy) λs i ad hin=>?_;subst ad;refine(aa _ rfl ?_);refine(aa _ ((aj _ _ (by decide)).trans (ao _ _ _)) (aa _ ?_ (aa _ (ao _ _ _) ((Y.ext x2).idx hin (bb _ B (by simp at Q;exact wS Q) (hk2 _ (x2.setc hc2 _) (AH.set_self _ _ _)))))));exact(aj _ _ (by decide)).trans ((aj _ _ (by decide)).trans ((bN _ (by decide)).trans lh))
  ·rw[dS,List.nil_append]at B;refine(bb _ B (by rw[List.length_map];exact MK G) (bb _ (x2 _ _ F) (by simp at P;exact wS P) (hk' _ ((x1.trans' x2).setc hc _) (AH.set_self _ _ _))))
 ·rw[dS,List.nil_append]at F;exact(aa _ rfl (k H' c x1 F))
theorem Bd{ia fa:Addr}{is J:List V}{n:Nat}(l1:l "images"=some (.ref ia))(l2:l "found"=some (.ref fa))(hi:H ia=some (.list is))(hf:H fa=some (.list J))(Q:∀x∈is,foundR n x)(F:∀x∈J,foundR n x)(hil:is.length<2^19)(Y:∀x∈is,x∈J)(G:sortable J)(P:aJ (aI J)=J)(k:∀H',Ext H H'->aq σ d rest l H' K) : aq σ d (.if1 (.or2 (.cmp1 .ne (.comp (.var "one") (.one (.nm "one") (.exp (.var "images")) (some (.cmp1 .notin (.var "one") (.var "found"))))) (.lst .nil)) (.cmp1 .ne (.var "found") (.prim .sortedSet (.var "found")))) [.ret (.cst (.bool false))] []::rest) l H K:=by
 refine(aa _ l1 ⟨_,hi,by exact AC hil,λc hc=>(aa c rfl ?_)⟩);refine dg (src:=some (ia,is)) (H0:=H) (hsrc:=hi) (λx=>[]) _ [] _ (Ext.set _ hc) (AH.set_self _ _ _) (by rw[show is.flatMap (λx=>([]:List V))=[]from List.flatMap_eq_nil_iff.mpr λ_ _=>rfl];decide) (λx hx H' ws' k' Z B hl' hk'=>?_) λH' Z B=>?_
 ·refine(aa _ rfl (aa _ (ao _ _ _) (aa _ ((aj _ _ (by decide)).trans ((bN _ (by decide)).trans l2)) (.inl (iN _ (Z _ _ hf) ⟨(Q x hx).plain.1,b8 (Q x hx).plain.2 (by decide)⟩ (ff F) ?_)))));rw[oY.mpr (Y x hx)];refine fG rfl ?_;exact hk' _ Z (by simpa using B)
 ·have e0:([]:List V)++is.flatMap (λx=>([]:List V))=[]:=by simp
  rw[e0]at B;intro c2 hc2;refine(mN _ _ ((Ext.set _ hc2) _ _ B) (AH.set_self _ _ _) ⟨rfl,m6 _⟩ ⟨rfl,m6 _⟩ ?_);rw[bo];refine fG rfl ?_;have x2:Ext H (H'.set c2 (.list [])):=Z.trans' (Ext.set _ hc2);generalize H'.set c2 (.list [])=H2 at *;refine(aa _ l2 (aa _ l2 ⟨_,x2 _ _ hf,G,?_⟩));rw[P];intro c3 O;refine(mN _ _ ((Ext.set _ O) _ _ (x2 _ _ hf)) (AH.set_self _ _ _) (ff F) (ff F) ?_);rw[bo];refine fG rfl ?_;exact k _ (x2.trans' (Ext.set _ O))
noncomputable def BE(as:List (Nat×Addr)):List (V×V):=as.map λp=>(iv p.1,V.ref p.2)
theorem si(as:List (Nat×Addr))(n:Nat):keyFits (BE as) (iv n):=⟨C3,λp hp=>by refine af (b9.mp hp) λq _ B=>?_;subst B;rfl⟩
theorem vX:∀{as:List (Nat×Addr)}{n:Nat},n∈as.map (·.1)->∃a,(n,a)∈as/\aA (BE as) (iv n)=some (.ref a)
 |p::as,n,h=>by
  show ∃a,_/\aA ((iv p.1,.ref p.2)::BE as) (iv n)=_;rw[bM,cI];by_cases e:p.1=n
  ·subst e;exact(aa p.2 d6 (by simp))
  ·rw[decide_eq_false (iY e)];have h':n∈as.map (·.1):=by
    rcases i8.mp h with e'|h
    ·exact absurd e'.symm e
    ·exact h
   refine af (vX h') λa B F=>?_;exact(aa a (d7 _ B) (by simpa using F))
theorem yI(T:Txt σ)(A:D'.At H)(O:D'.Ok)(l1:l "heap"=some (.ref D'.hp))(hd:4<=d)(k:∀H' na kvs,Ext H H'->NodesT D' H' na kvs->aq σ d rest (l.put "nodes" (.ref na)) H' K) : aq σ d (.asg (.tg (.nm "nodes")) (.dcomp (.var "c") (.meth (.var "heap") "nodes_of" (.cons (.var "c") .nil)) (.one (.nm "c") (.exp (.meth (.var "heap") "classes" .nil)) none))::rest) l H K:=by
 obtain hn:D'.n<=60:=O.nz;obtain ad:=D'.roots_len;refine(aa _ l1 (aa _ (aE A.heap rfl T.Heap_classes.some) ((fW T A O λH1 s1 x1 hs1 e1=>⟨_,e1,by simp;exact tz ad hn,λc hc=>(aa c rfl ?_)⟩).room (ML hd))));obtain A1:=A.ext x1;refine jP (src:=some (s1,D'.roots.map iv)) (λxs H'=>Ext H1 H'/\∃(rem:List Nat)(as:List (Nat×Addr)),xs=rem.map iv/\D'.roots=as.map (·.1)++rem/\H' c=some (.dict (BE as))/\∀p∈as,H' p.2=some (.list (D'.NN p.1))) (λ_ _ h=>h.1 _ _ e1) (λv xs H' k' h hk=>?_) (λH' h=>?_) _ _ ⟨Ext.set _ hc,(jh D'.roots ([]) rfl rfl (AH.set_self _ _ _) (λ_ h=>absurd h i6))⟩
 ·obtain⟨x2,rem,as,ex,J,e2,F⟩:=h;rcases rem with _|⟨i,rem⟩
  ·simp at ex
  ·simp only[List.map_cons,List.cons.injEq]at ex;obtain⟨rfl,rfl⟩:=ex;obtain hir:i∈D'.roots:=by rw[J];simp
   obtain⟨hin,hrr⟩:=HD.mem_roots.mp hir;obtain A2:=A1.ext x2;have Y:as.length<=60:=by
    obtain B:D'.roots.length=(as.map (·.1)).length+(i::rem).length:=by rw[J,List.length_append]
    rw[List.length_map]at B;exact MM B ad hn
   refine(aa _ rfl ?_);refine yT (fI rfl ?_);refine(aa _ (ao _ _ _) (aa _ ((aj _ _ (by decide)).trans ((bN _ (by decide)).trans l1)) (aa _ (aE A2.heap rfl T.Heap_nodes_of.some) (aa _ (ao _ _ _) ((mY T A2 O hin λH3 a3 x3 Q e3=>?_).room hd)))));rw[hrr]at e3;refine(iN _ (x3 _ _ e2) (si _ _) (by unfold BE;rw[List.length_map];exact MN Y) ?_);obtain G:i∉as.map (·.1):=λhm=>by obtain nd:=dU D';rw[J,List.nodup_append]at nd;exact nd.2.2 i hm i d6 rfl
   obtain P:aA (BE as) (iv i)=none:=fZ λp hp e=>by obtain⟨q,hq,rfl⟩:=b9.mp hp;exact G (b9.mpr ⟨q,hq,gW e⟩)
   rw[bz P,show BE as++[(iv i,V.ref a3)]=BE (as++[(i,a3)]) by unfold BE;simp];obtain Z:a3≠c:=by rintro rfl;rw[e2]at Q;exact sn Q
   refine hk _ ⟨(x2.trans' x3).setc hc _,(jh rem (as++[(i,a3)]) rfl (by rw[J];simp) (AH.set_self _ _ _) (λp hp=>?_))⟩;have hne:p.2≠c:=by
    rcases l9.mp hp with h|h
    ·rintro e;obtain B:=F p h;rw[e,e2]at B;exact AO.noConfusion (c9 B)
    ·rw[List.mem_singleton.mp h];exact Z
   rw[AH.set_ne _ _ hne];rcases l9.mp hp with h|h
   ·exact x3 _ _ (F p h)
   ·rw[List.mem_singleton.mp h];exact e3
 ·refine bQ h λx2 an=>?_;refine ph an λrem as ex J e2 F=>?_;obtain B:rem=[]:=by simpa using ex.symm
  subst B;rw[List.append_nil]at J;refine(aa _ rfl (k H' c (BE as) (x1.trans' x2) ⟨e2,si as,λi hi=>?_⟩));rw[J]at hi;refine af (vX hi) λa ha hg=>?_;exact(aa a hg (F _ ha))
end
theorem Hn{n:Nat}(h:foundR n x)(c:Nat):∃(i:Nat)(w:V),x=.tup [iv i,w]/\pX c x=decide (i=c):=by refine cb h λi items aP _=>?_;subst aP;exact(fA i _ rfl (gT c i _))
theorem eH(c:Nat):∀l:List V,l.flatMap (λx=>if pX c x then[x]else[])=l.filter (pX c)
 | []=>rfl
 |a::l=>by rw[List.flatMap_cons,List.filter_cons,eH c l];split <;> simp
section
variable{D:HD}{H:AH}{d:Nat}
theorem wg{src:String}{Q:V->AH->Prop}{a:Addr}{xs:List V}{n:Nat}(l1:l src=some (.ref a))(l2:l "c"=some (iv c))(hs:src≠"one")(hs0:src≠".0")(h:H a=some (.list xs))(hR:∀x∈xs,foundR n x)(hl:xs.length<2^19)(q:∀H' b,Ext H H'->H b=none->H' b=some (.list (xs.filter (pX c)))->Q (.ref b) H'):aS σ d (.comp (.var "one") (.one (.nm "one") (.exp (.var src)) (some (.cmp1 .eq (.idx (.var "one") (.cst (.int 0))) (.var "c"))))) l H Q:=by
 have Y:(xs.flatMap λx=>if pX c x then[x]else[]).length<2^20:=by rw[eH];obtain J:=p8 (pX c) xs;exact MO J hl
 refine(aa _ l1 ⟨_,h,by exact AC hl,λb P=>(aa b rfl ?_)⟩);refine dg (src:=some (a,xs)) (H0:=H) (hsrc:=h) (λx=>if pX c x then[x]else[]) _ [] _ (Ext.set _ P) (AH.set_self _ _ _) (by simpa using Y) (λx hx H' ws' k' O F G B=>?_) λH' O F=>?_
 ·refine cb (Hn (hR x hx) c) λi w bx Z=>?_;subst bx;rw[Z]at G B;refine(aa _ rfl (aa _ (ao _ _ _) ⟨0,_,rfl,by decide,rfl,_,(aj _ _ (by decide)).trans ((bN _ (by simp[cZ])).trans l2),kE _ _ _ _ ?_⟩));by_cases e:i=c
  ·rw[decide_eq_true (MP e)];rw[decide_eq_true e]at G B;simp only[if_true]at G B ⊢;exact(aa _ (ao _ _ _) (bb _ F (by simp at G;exact wS G) (B _ (O.setc P _) (AH.set_self _ _ _))))
  ·rw[decide_eq_false (iY e)];rw[decide_eq_false e]at B;simp only[Bool.false_eq_true,if_false]at B ⊢;exact B _ O (by simpa using F)
 ·rw[eH,List.nil_append]at F;exact q H' b O P F
theorem zg{Q:V->AH->Prop}(T:Txt σ)(C:Coarse D D'){na ma:Addr}(hd:2<=d)(N:NodesT D' H na kvs)(Y:c∈D'.roots)(Z:H ma=some (.dict (bn (bO D D') as)))(h0:∀k,k∉as->bO D D' k=0)(l2:l "many"=some (.ref ma))(l5:l "nodes"=some (.ref na))(lc:l "c"=some (iv c))(q:∀H' b (ms ks:List Nat),Ext H H'->H' b=some (.list ((ks.filter λk=>decide (bO D D' k≠1)).map iv))->(∀i,i∈ks↔i∈ms)->c∈ms->(∀y∈ms,y∈D'.roots)->(∀k∈ms,Clo D' ms k)->Q (.ref b) H') : aS σ d (.comp (.var "kid") (.one (.nm "kid") (.exp (.call "_law_below" (.cons (.var "nodes") (.cons (.var "c") .nil)))) (some (.cmp1 .ne (.meth (.var "many") "get" (.cons (.var "kid") (.cons (.cst (.int 0)) .nil))) (.cst (.int 1)))))) l H Q:=by
 refine uo (xD (.cons (.var l5) (.cons (.var lc) .nil)) ((BP T C.o' N Y λH3 a ms ks x3 _ e3 a1 a2 a3 a4 a5=>?_).room (MQ hd)));refine(bb _ e3 (by rw[List.length_map];exact EI a5) (λc2 hc2=>(aa c2 rfl ?_)));refine dg (src:=some (a,ks.map iv)) (H0:=H3) (hsrc:=e3) (Ai λk=>if bO D D' k≠1 then[iv k]else[]) _ [] _ (Ext.set _ hc2) (AH.set_self _ _ _) ?_ (λx hx H4 ws' k2 P B G F=>?_) λH4 P B=>?_
 ·rw[nW,gS];obtain O:=p8 (λk=>decide (bO D D' k≠1)) ks;rw[List.length_nil,List.length_map];exact MR O a5
 ·refine af (b9.mp hx) λi hi zq=>?_;subst zq;rw[wO]at G F;have J:=(x3.trans' P) _ _ Z;refine(aa _ rfl (aa _ ((aj _ _ (by decide)).trans ((bN _ (by decide)).trans l2)) (aa .dict ⟨.head _,ma,_,rfl,J⟩ (aa _ (ao _ _ _) ⟨ma,_,rfl,J,.inl ⟨rfl,(bc _ _ rfl (eN _ _ _) ?_)⟩⟩))));rw[show(V.int 0)=iv 0 from rfl,oS h0];refine Pl (rh _ _ _ _ ?_);by_cases e:bO D D' i=1
  ·rw[decide_eq_true (MT e)];rw[if_neg (λz=>z e)]at F;refine fG rfl (F _ P ?_);rw[List.append_nil];exact B
  ·rw[decide_eq_false (MU e)];rw[if_pos e]at G F;exact fI rfl (aa _ (ao _ _ _) (bb _ B (wS G) (F _ (P.setc hc2 _) (AH.set_self _ _ _))))
 ·rw[nW,gS,List.nil_append]at B;exact q H4 c2 ms ks (x3.trans' P) B a1 a2 a3 a4
theorem zf(T:Txt σ)(C:Coarse D D'){p:V}{na ma fa ia:Addr}(hd:2<=d)(N:NodesT D' H na kvs)(Q:c∈D'.roots)(an:H ma=some (.dict (bn (bO D D') as)))(h0:∀k,k∉as->bO D D' k=0)(hf:H fa=some (.list (ay D' p)))(hi:H ia=some (.list ((ay D p).map (uO D'.r))))(B:∀x∈ay D' p,foundR D'.n x)(F:∀x∈(ay D p).map (uO D'.r),foundR D'.n x)(Y:(ay D' p).length<2^19)(Z:(ay D p).length<2^19)(l2:l "many"=some (.ref ma))(l3:l "found"=some (.ref fa))(l4:l "images"=some (.ref ia))(l5:l "nodes"=some (.ref na))(lc:l "c"=some (iv c))(k:∀H',Ext H H'->K .next l H') : aq σ d [.if1 (.cmp1 .eq (.comp (.var "kid") (.one (.nm "kid") (.exp (.call "_law_below" (.cons (.var "nodes") (.cons (.var "c") .nil)))) (some (.cmp1 .ne (.meth (.var "many") "get" (.cons (.var "kid") (.cons (.cst (.int 0)) .nil))) (.cst (.int 1)))))) (.lst .nil)) [.if1 (.cmp1 .ne (.comp (.var "one") (.one (.nm "one") (.exp (.var "found")) (some (.cmp1 .eq (.idx (.var "one") (.cst (.int 0))) (.var "c"))))) (.comp (.var "one") (.one (.nm "one") (.exp (.var "images")) (some (.cmp1 .eq (.idx (.var "one") (.cst (.int 0))) (.var "c")))))) [.ret (.cst (.bool false))] []] []] l H K:=by
 refine xC (zg T C hd N Q an h0 l2 l5 lc λH4 b ms ks x4 e4 a1 a2 a3 a4=>λc3 G=>?_);refine(mN _ _ ((Ext.set _ G) _ _ e4) (AH.set_self _ _ _) ⟨oq _,by rw[io];decide⟩ ⟨rfl,m6 _⟩ ?_);have P:=x4.trans' (Ext.set (.list []) G);rcases ad:ks.filter λk=>decide (bO D D' k≠1)with _|⟨a0,l0⟩
 ·refine fI (bo _) ?_;have J:∀k∈ms,bO D D' k=1:=λk hk=>Decidable.not_not.mp λz=>List.filter_eq_nil_iff.mp ad k ((a1 k).mpr hk) (r8 z);refine xC (wg (src:="found") (xs:=ay D' p) l3 lc (by decide) (by decide) (P _ _ hf) B Y λH6 b6 x6 _ e6=>?_);refine wg (src:="images") (xs:=(ay D p).map (uO D'.r)) l4 lc (by decide) (by decide) (x6 _ _ (P _ _ hi)) F (by rw[List.length_map];exact Z) λH7 b7 x7 _ e7=>?_;obtain O:∀(xs:List V),(∀x∈xs,foundR D'.n x)->jt (xs.filter (pX c)):=λxs h=>ff λx hx=>h x (u1.mp hx).1;refine(mN _ _ (x7 _ _ e6) e7 (O _ B) (O _ F) ?_);rw[uN C p a3 a4 J a2,bo];exact fG rfl (k _ (P.trans' (x6.trans' x7)))
 ·exact fG (aN.mpr λz=>o9 _ _ (V.tup.inj z)) (k _ P)
theorem Df(T:Txt σ)(A:D'.At H)(C:Coarse D D'){p:V}{na ma fa ia:Addr}(hd:2<=d)(N:NodesT D' H na kvs)(hz:vl p<60)(Z:H ma=some (.dict (bn (bO D D') as)))(h0:∀k,k∉as->bO D D' k=0)(hf:H fa=some (.list (ay D' p)))(hi:H ia=some (.list ((ay D p).map (uO D'.r))))(Q:(ay D' p).length<2^19)(Y:(ay D p).length<2^19)(l1:l "heap"=some (.ref D'.hp))(l2:l "many"=some (.ref ma))(l3:l "found"=some (.ref fa))(l4:l "images"=some (.ref ia))(l5:l "nodes"=some (.ref na))(k:∀l' H',Ext H H'->aq σ d rest l' H' K) : aq σ d (.for1 (.nm "c") (.exp (.meth (.var "heap") "classes" .nil)) [.if1 (.cmp1 .eq (.comp (.var "kid") (.one (.nm "kid") (.exp (.call "_law_below" (.cons (.var "nodes") (.cons (.var "c") .nil)))) (some (.cmp1 .ne (.meth (.var "many") "get" (.cons (.var "kid") (.cons (.cst (.int 0)) .nil))) (.cst (.int 1)))))) (.lst .nil)) [.if1 (.cmp1 .ne (.comp (.var "one") (.one (.nm "one") (.exp (.var "found")) (some (.cmp1 .eq (.idx (.var "one") (.cst (.int 0))) (.var "c"))))) (.comp (.var "one") (.one (.nm "one") (.exp (.var "images")) (some (.cmp1 .eq (.idx (.var "one") (.cst (.int 0))) (.var "c")))))) [.ret (.cst (.bool false))] []] []]::rest) l H K:=by
 obtain hn:D'.n<=60:=C.o'.nz;obtain an:=D'.roots_len;obtain ad:D.n=D'.n:=C.n.symm;have P:∀x∈(ay D p).map (uO D'.r),foundR D'.n x:=λx hx=>by refine af (b9.mp hx) λy O bK=>?_;subst bK;obtain F:=eI C.o hz y O;rw[ad]at F;exact DI (λi hi=>gJ C.o' hi) F
 refine(aa _ l1 (aa _ (aE A.heap rfl T.Heap_classes.some) ((fW T A C.o' λH1 s1 x1 hs1 e1=>⟨_,e1,by rw[List.length_map];exact tz an hn,?_⟩).room hd)));refine dl (src:=some (s1,D'.roots.map iv)) (λxs l' H'=>Ext H1 H'/\(∀y,y∉["c"]->l' y=l y)/\∃rem:List Nat,xs=rem.map iv/\∀c∈rem,c∈D'.roots) (λ_ _ _ h=>h.1 _ _ e1) (λv xs l' H' k' h hk=>?_) (λl' H' h=>k l' H' (x1.trans' h.1)) _ _ _ ⟨Ext.refl' _,λ_ _=>rfl,D'.roots,rfl,λ_ h=>h⟩;refine jg h λx2 G h3=>af h3 λrem ex B=>?_;rcases rem with _|⟨c,rem⟩
 ·exact(o9 _ _ ex).elim
 obtain⟨rfl,rfl⟩:=J1 ex;have bQ:Ext H H':=x1.trans' x2;have J:∀y,y∉["c"]->(l'.put "c" (iv c)) y=l y:=λy O=>(aj _ _ λe=>O (by rw[e];exact .head _)).trans (G y O);exact⟨_,rfl,zf T C hd (N.ext bQ) (B c d6) (bQ _ _ Z) h0 (bQ _ _ hf) (bQ _ _ hi) (eI C.o' hz) P Q Y ((J _ (by decide)).trans l2) ((J _ (by decide)).trans l3) ((J _ (by decide)).trans l4) ((J _ (by decide)).trans l5) (ao _ _ _) λH5 x5=>hk _ _ (da (x2.trans' x5) J (aa rem rfl (λc h=>B c (d7 _ h))))⟩
end
theorem foundR.keyok{n:Nat}(h:foundR n x):aO x=true/\az x<=8/\fx x=true:=by
 obtain F:=h.plain.2;refine ph h λc items aP _ hi _=>?_;subst aP;obtain B:bG items=true:=jm λy G=>by refine cb (hi y G) λs i bx _=>?_;subst bx;rfl
 refine(da ?_ (MV F) rfl);show(true&&(bG items&&true))=true;rw[B];rfl
theorem oM{D:HD}(O:D.Ok){p:V}(hz:vl p<60)(hl:(ay D p).length<64):sortable (ay D p) :=(mu hl (λx B=>⟨(eI O hz x B).keyok.1,(eI O hz x B).keyok.2.1⟩) (.inr λx B=>(eI O hz x B).keyok.2.2) (nC p))
section
variable{D:HD}{H:AH}{Q:V->AH->Prop}
theorem xQ(T:Txt σ)(A:D'.At H)(C:Coarse D D'){p:V}{ba ea fa:Addr}{eas:List Nat}(hz:vl p<60)(E:Home D H ea eas)(hb:H ba=some (.list (ay D p)))(hf:H fa=some (.list (ay D' p)))(hl:(ay D p).length<64)(Y:(ay D' p).length<64)(q:∀H',Ext H H'->Q (.bool true) H'):FCall σ 5 "_law_is_kept" [.ref D'.hp,p,.ref ba,.ref ea,.ref fa] H Q:=by
 refine dR T.ok T.law_is_kept rfl ?_;simp only[fw];generalize B:bf ["heap","pattern","before","elder","found"] [.ref D'.hp,p,.ref ba,.ref ea,.ref fa]=l0;have g1:l0 "heap"=some (.ref D'.hp):=by rw[<- B];rfl
 obtain g3:l0 "before"=some (.ref ba):=by rw[<- B];rfl
 obtain g4:l0 "elder"=some (.ref ea):=by rw[<- B];rfl
 have g5:l0 "found"=some (.ref fa):=by rw[<- B];rfl
 refine af (zp (Q:=λv H1=>∃ha has,v=.ref ha/\Ext H H1/\Home D' H1 ha has) T A C.o' λH1 a as x _ h=>(bc a as rfl x h)) λf ef cc=>?_;refine(aa f ef (aa _ g1 (cc.mono ?_)));rintro _ H1 ⟨ha,has,rfl,x1,hm⟩;refine(aa _ rfl ?_);obtain hnn:D.n=D'.n:=C.n.symm;have J:∀x∈ay D p,foundR D'.n x:=λx Z=>by obtain G:=eI C.o hz x Z;rw[hnn]at G;exact G
 obtain hRf:=eI C.o' hz;obtain hRi:∀x∈(ay D p).map (uO D'.r),foundR D'.n x:=λx Z=>by refine af (b9.mp Z) λy F bK=>?_;subst bK;exact DI (λi hi=>gJ C.o' hi) (J y F)
 refine Bi C hm ⟨x1 _ _ E.o,E.nd,E.mem⟩ (ao _ _ _) ((aj _ _ (by decide)).trans g4) λl2 H2 ma as x2 _ hma h0 lm keep=>?_;have k1:∀y,y∉["many","c","home"]->l2 y=l0 y:=λy F=>by simp only[List.mem_cons,List.not_mem_nil,or_false,not_or]at F;rw[keep y (by simp;exact⟨F.1,F.2.1⟩)];exact aj _ _ F.2.2
 obtain lh:l2 "home"=some (.ref ha):=(keep _ (by decide)).trans (ao _ _ _);refine vE (hm.ext x2) lh ((k1 _ (by decide)).trans g3) (x2 _ _ (x1 _ _ hb)) J (wU hl) λH3 ia x3 P=>?_;obtain O:=x3 _ _ (x2 _ _ (x1 _ _ hf));refine Bd (n:=D'.n) (ao _ _ _) ((aj _ _ (by decide)).trans ((k1 _ (by decide)).trans g5)) P O hRi hRf (by rw[List.length_map];exact wU hl) (λx Z=>?_) (oM C.o' hz Y) (qP p) λH4 x4=>?_
 ·refine af (b9.mp Z) λy F cC=>?_;subst cC;exact sQ C p y F
 have rT:Ext H H4:=x1.trans' (x2.trans' (x3.trans' x4));refine yI T (A.ext rT) C.o' ((aj _ _ (by decide)).trans ((k1 _ (by decide)).trans g1)) (f7 _) λH5 na kvs x5 N=>?_;obtain ET:=rT.trans' x5;refine Df T (A.ext ET) C (p:=p) (by decide) N hz ((x3.trans' (x4.trans' x5)) _ _ hma) h0 ((x4.trans' x5) _ _ O) ((x4.trans' x5) _ _ P) (wU Y) (wU hl)
  ((aj _ _ (by decide)).trans ((aj _ _ (by decide)).trans ((k1 _ (by decide)).trans g1))) ((aj _ _ (by decide)).trans ((aj _ _ (by decide)).trans lm)) ((aj _ _ (by decide)).trans ((aj _ _ (by decide)).trans ((k1 _ (by decide)).trans g5))) ((aj _ _ (by decide)).trans (ao _ _ _)) (ao _ _ _) λl6 H6 x6=>?_
 exact q H6 (ET.trans' x6)
end
section
variable{N':List Nd}{t:Tr}
noncomputable def cO(N:List Nd)(nd:Nd):Bool:=nd.2.all λk=>(N.getD k ("",[])).2.isEmpty
noncomputable def kH(N:List Nd):Nat:=(N.filter λnd=>nd.1=="f"&&cO N nd).length
noncomputable def ml(N:List Nd):Nat:=(N.filter λnd=>nd.1=="f"&&!cO N nd).length
noncomputable def du(op:String)(N:List Nd):Nat:=(N.filter λnd=>nd.1==op).length
structure GoodN(N:List Nd):Prop where
 nd:N.Nodup
 sh:∀(i:Nat)(nd:Nd),N[i]?=some nd->(nd.1∈["a","b","c"]/\nd.2=[])\/(nd.1="f"/\∃k,k<i/\nd.2=[k])\/(nd.1="g"/\∃j k,j<i/\k<i/\nd.2=[j,k])
theorem GoodN.kids(G:GoodN N)(h:nd∈N):∀k∈nd.2,k<N.length:=λk hk=>by
 obtain⟨i,hi⟩:=k9.mp h;have hl:=(f9.mp hi).1;rcases G.sh i nd hi with⟨_,e⟩|⟨_,j,B,e⟩|⟨_,j,j',B,F,e⟩
 ·rw[e]at hk;exact absurd hk i6
 ·rw[e]at hk;simp at hk;exact MW B hk hl
 ·rw[e]at hk;simp at hk;exact MX F B hk hl
theorem iA{M:List Nd}(h:∀k∈nd.2,k<N.length):cO (N++M) nd=cO N nd:=by
 unfold cO;rw[Bool.eq_iff_iff,List.all_eq_true,List.all_eq_true];obtain e:∀k∈nd.2,(N++M).getD k ("",[])=N.getD k ("",[]):=λk hk=>by rw[List.getD_eq_getElem?_getD,List.getD_eq_getElem?_getD,List.getElem?_append_left (h k hk)]
 exact⟨λz k hk=>by rw[<- e k hk];exact z k hk,λz k hk=>by rw[e k hk];exact z k hk⟩
theorem CE(G:GoodN N)(h:∀k∈nd.2,k<N.length):kH (N++[nd])=kH N+if nd.1=="f"&&cO N nd then 1 else 0:=by
 unfold kH;rw[List.filter_append,List.length_append];congr 1
 ·congr 1;exact p7 λx B=>by rw[iA (G.kids B)]
 ·simp only[List.filter_cons,iA h,List.filter_nil];split <;> rfl
theorem CF(G:GoodN N)(h:∀k∈nd.2,k<N.length):ml (N++[nd])=ml N+if nd.1=="f"&&!cO N nd then 1 else 0:=by
 unfold ml;rw[List.filter_append,List.length_append];congr 1
 ·congr 1;exact p7 λx B=>by rw[iA (G.kids B)]
 ·simp only[List.filter_cons,iA h,List.filter_nil];split <;> rfl
theorem CG{op:String}:du op (N++[nd])=du op N+if nd.1==op then 1 else 0:=by unfold du;rw[List.filter_append,List.length_append];congr 1;simp only[List.filter_cons,List.filter_nil];split <;> rfl
theorem HA:∀N M:List Nd,(N.filter λnd=>nd.1=="f"&&cO M nd).length+(N.filter λnd=>nd.1=="f"&&!cO M nd).length=du "f" N
 | [],_=>rfl
 |nd::N,M=>by obtain B:=HA N M;unfold du at B ⊢;cases F:nd.1=="f" <;> cases G:cO M nd <;> simp[F,G]at B ⊢ <;>(first|assumption|exact MZ B|exact Na B)
def Val(N:List Nd)(nd:Nd):Prop:=(nd.1∈["a","b","c"]/\nd.2=[])\/(nd.1="f"/\∃k,k<N.length/\nd.2=[k])\/(nd.1="g"/\∃j k,j<N.length/\k<N.length/\nd.2=[j,k])
theorem Val.kids(h:Val N nd):∀k∈nd.2,k<N.length:=λk hk=>by
 rcases h with⟨_,e⟩|⟨_,j,B,e⟩|⟨_,j,j',B,F,e⟩
 ·rw[e]at hk;exact absurd hk i6
 ·rw[e]at hk;simp at hk;exact Nb hk B
 ·rw[e]at hk;simp at hk;exact Nc hk B F
theorem Added.good(h:Added N nd N' i)(G:GoodN N)(v:Val N nd):GoodN N':=by
 rcases h.2 with rfl|⟨rfl,P⟩
 ·exact G
 ·refine⟨?_,λi x B=>?_⟩
  ·rw[List.nodup_append];refine(da G.nd (by simp) (λa J b O=>?_));rw[List.mem_singleton.mp O];rintro rfl;exact P J
  ·rw[List.getElem?_append]at B;split at B
   ·exact G.sh i x B
   ·rename_i hi;rw[List.getElem?_singleton]at B;split at B
    ·obtain rfl:=c9 B;obtain F:i=N.length:=by exact Nf (by assumption) hi
     rw[F];exact v
    ·exact ns B
theorem Added.cnt(h:Added N nd N' i)(G:GoodN N)(v:Val N nd) : kH N'<=kH N+(if nd.1=="f"&&cO N nd then 1 else 0)/\ml N'<=ml N+(if nd.1=="f"&&!cO N nd then 1 else 0)/\du "g" N'<=du "g" N+(if nd.1=="g" then 1 else 0):=by
 rcases h.2 with rfl|⟨rfl,B⟩
 ·exact(da (m9 _ _) (m9 _ _) (m9 _ _))
 ·rw[CE G v.kids,CF G v.kids,CG];exact(da (f7 _) (f7 _) (f7 _))
theorem Built.good:∀{h:Nat},t.ok h->∀{N N':List Nd}{i:Nat},Built N t N' i->GoodN N->GoodN N':=by
 induction t with
 |leaf s=>exactλ{h} B _ _ _ b G=>Added.good b G (.inl ⟨by cases h <;> exact B,rfl⟩)
 |f t x =>
  intro h;rcases h with _|h
  ·exact False.elim
  ·exactλB _ _ _ b G=>cb b λ_ j b a=>a.good (x B b G) (.inr (.inl ⟨rfl,j,b.len.1,rfl⟩))
 |g t u x y =>
  intro h;rcases h with _|h
  ·exact False.elim
  ·exactλB _ _ _ b G=>Px b λ_ j _ k b c a=>a.good (y B.2 c (x B.1 b G)) (.inr (.inr ⟨rfl,(bc j k (wT c.len.2.1 b.len.1) (AA c.len.1) rfl)⟩))
theorem dE{s:String}(hs:s∈["a","b","c"])(b:Built N (.leaf s) N' i)(G:GoodN N):kH N'<=kH N/\ml N'<=ml N/\du "g" N'<=du "g" N/\N'[i]?=some (s,[]):=by
 have h:=Added.cnt b G (.inl ⟨hs,rfl⟩);have e1:(s=="f")=false:=by simp at hs;rcases hs with rfl|rfl|rfl <;> decide
 have e2:(s=="g")=false:=by simp at hs;rcases hs with rfl|rfl|rfl <;> decide
 simp only[e1,e2,Bool.false_and,Bool.false_eq_true,if_false,Nat.add_zero]at h;exact(mu h.1 h.2.1 h.2.2 b.1)
theorem zZ{s:String}(h:N[j]?=some (s,[]))(op:String):cO N (op,[j])=true:=by unfold cO;simp[List.getD_eq_getElem?_getD,h]
theorem uF(B:t.ok 1)(b:Built N t N' i)(G:GoodN N):kH N'+du "g" N'<=kH N+du "g" N+1/\ml N'<=ml N:=by
 rcases t with s|t|⟨t,u⟩
 ·have:=dE B b G;exact Ng this.1 this.2.2.1 this.2.1
 ·rcases t with s|t|⟨t,u⟩
  ·refine cb b λJ j b1 a=>?_;refine rT (dE B b1 G) λP Q Y Z=>?_;obtain F:=Built.good (t:=.leaf s) (h:=0) B b1 G;obtain h:=a.cnt F (.inr (.inl ⟨rfl,j,b1.len.1,rfl⟩));rw[zZ Z]at h;obtain h:=(show kH N'<=kH J+1/\ml N'<=ml J+0/\du "g" N'<=du "g" J+0 from h);exact Nh h.1 h.2.2 h.2.1 P Y Q
  ·exact B.elim
  ·exact B.elim
 ·refine Px b λJ j O k b1 b2 a=>?_;rcases t with s|t|⟨t,w⟩
  ·rcases u with s'|u|⟨u,w⟩
   ·refine rT (dE B.1 b1 G) λP Q Y Z=>?_;have F:=Built.good (t:=.leaf s) (h:=0) B.1 b1 G;refine rT (dE B.2 b2 F) λk1 k2 k3 k4=>?_;obtain G2:=Built.good (t:=.leaf s') (h:=0) B.2 b2 F;obtain l1:=b1.len;obtain l2:=b2.len;obtain h:=a.cnt G2 (.inr (.inr ⟨rfl,(bc j k (wT l2.2.1 l1.1) (AA l2.1) rfl)⟩));obtain h:=(show kH N'<=kH O+0/\ml N'<=ml O+0/\du "g" N'<=du "g" O+1 from h);exact Ni k3 k2 k1 h.1 h.2.2 h.2.1 P Y Q
   ·exact B.2.elim
   ·exact B.2.elim
  ·exact B.1.elim
  ·exact B.1.elim
theorem EZ(P:t.ok 2)(b:Built N t N' i)(G:GoodN N):(ml N'<=ml N/\kH N'+du "g" N'<=kH N+du "g" N+3)\/(ml N'<=ml N+1/\kH N'+du "g" N'<=kH N+du "g" N+1):=by
 rcases t with s|t|⟨t,u⟩
 ·have:=dE P b G;exact Nj this.2.1 this.1 this.2.2.1
 ·right;refine cb b λF j b1 a=>?_;have B:t.ok 1:=P;have O:=Built.good B b1 G;obtain h:=a.cnt O (.inr (.inl ⟨rfl,j,b1.len.1,rfl⟩));have e3:(if(("f",[j]):Nd).1=="g" then 1 else 0)=0:=rfl;rw[e3]at h;cases hl:cO F ("f",[j])with
  |true =>
   rw[hl]at h;have h:=(show kH N'<=kH F+1/\ml N'<=ml F+0/\du "g" N'<=du "g" F+0 from h);rcases t with s|u|⟨u,w⟩
   ·have:=dE B b1 G;exact Nk h.2.1 h.1 h.2.2 this.2.1 this.1 this.2.2.1
   ·exfalso;refine cb b1 λ_ _ _ Y=>?_;unfold cO at hl;simp[List.getD_eq_getElem?_getD,Y.1]at hl
   ·exfalso;obtain⟨_,_,_,_,_,_,Y⟩:=b1;unfold cO at hl;simp[List.getD_eq_getElem?_getD,Y.1]at hl
  |false =>
   rw[hl]at h;have h:=(show kH N'<=kH F+0/\ml N'<=ml F+1/\du "g" N'<=du "g" F+0 from h)
   have:=uF B b1 G
   exact Nl this.1 h.2.1 h.1 h.2.2 this.2
 ·left;refine Px b λF j Q k b1 b2 a=>?_;have B:t.ok 1:=P.1;have J:u.ok 1:=P.2;have O:=Built.good B b1 G;have Z:=Built.good J b2 O;have l1:=b1.len;have l2:=b2.len;obtain h:=a.cnt Z (.inr (.inr ⟨rfl,j,k,by exact wT l2.2.1 l1.1,by exact AA l2.1,rfl⟩));have h:=(show kH N'<=kH Q+0/\ml N'<=ml Q+0/\du "g" N'<=du "g" Q+1 from h);obtain this:=uF B b1 G;obtain this:=uF J b2 O;omega
def Lap(N:List Nd)(i:Nat):Prop:=GoodN N/\N.length<=7*i/\∃p q,p+q<=i/\ml N<=q/\kH N+du "g" N<=3*p+q
theorem Lap.zero:Lap [] 0:=(da ⟨s9,λi nd h=>by simp at h⟩ (f7 _) (bc 0 0 (f7 _) (f7 _) (f7 _)))
theorem tX:∀{t:Tr}{h:Nat},t.ok h->t.sz+1<=2^(h+1)
 | .leaf s,h,_=>by
  have:(Tr.leaf s).sz=1:=rfl
  obtain this:=G0 h;rw[Nat.pow_succ];exact Nm (by assumption) this
 | .f t,h+1,B=>by
  obtain a:=tX (t:=t) (h:=h) B
  have:(Tr.f t).sz=t.sz+1:=rfl
  rw[Nat.pow_succ];obtain this:=G0 (h+1);exact Nn (by assumption) a
 | .g t u,h+1,B=>by
  obtain a:=tX (t:=t) (h:=h) B.1;obtain b:=tX (t:=u) (h:=h) B.2
  have:(Tr.g t u).sz=t.sz+u.sz+1:=rfl
  rw[Nat.pow_succ];exact Np this a b
theorem Lap.next(L:Lap N i)(J:t.ok 2)(b:Built N t N' j):Lap N' (i+1):=by
 refine jg L λG hl aP=>?_;refine bw aP λp q O P Q=>?_;have hs:=tX J;have Y:=b.len;refine(da (b.good J G) (by omega) ?_);rcases EZ J b G with⟨B,F⟩|⟨B,F⟩
 ·exact(bc (p+1) q (Nq O) (wP B P) (Nr F Q))
 ·exact(bc p (q+1) (Az O) (Nt B P) (Nu F Q))
noncomputable def wB(s:String):Nat:=if s="a" then 0 else if s="b" then 1 else 2
theorem yl{s t:String}(hs:s∈["a","b","c"])(B:t∈["a","b","c"])(h:wB s=wB t):s=t:=by simp at hs B;rcases hs with rfl|rfl|rfl <;> rcases B with rfl|rfl|rfl <;> first|rfl|(exfalso;revert h;decide)
theorem FD(G:GoodN N):kH N<=3:=by
 have key:∀nd∈N.filter (λnd=>nd.1=="f"&&cO N nd),∃k s,nd=("f",[k])/\N[k]?=some (s,[])/\s∈["a","b","c"]:=λnd hnd=>by
  refine bQ (u1.mp hnd) λhm hp=>?_;simp only[Bool.and_eq_true,beq_iff_eq]at hp;obtain⟨i,hi⟩:=k9.mp hm;have P:=(f9.mp hi).1;rcases G.sh i nd hi with⟨e1,_⟩|⟨e1,k,hk,e2⟩|⟨e1,_⟩
  ·rw[hp.1]at e1;simp at e1
  ·obtain Y:k<N.length:=by exact FJ hk P
   obtain⟨x,J⟩:∃x,N[k]?=some x:=⟨_,w1 Y⟩;have F:=hp.2;unfold cO at F;rw[e2]at F;simp[List.getD_eq_getElem?_getD,J]at F;refine(bc k x.1 (M8 e1 e2) (by rw[J,<- F]) ?_);rcases G.sh k x J with⟨a,_⟩|⟨_,_,_,b⟩|⟨_,_,_,_,_,b⟩
   ·exact a
   ·rw[b]at F;exact(o9 _ _ F).elim
   ·rw[b]at F;exact(o9 _ _ F).elim
  ·rw[hp.1]at e1;simp at e1
 have nd:((N.filter λnd=>nd.1=="f"&&cO N nd).map λnd=>wB (N.getD (nd.2.headD 0) ("",[])).1).Nodup:=by have h0:(N.filter λnd=>nd.1=="f"&&cO N nd).Nodup:=List.filter_sublist.nodup G.nd;unfold List.Nodup at h0 ⊢;rw[List.pairwise_map];refine h0.imp_of_mem λ{x y} J hy Z e=>Z ?_;refine bw (key x J) λk s bx ek hs=>?_;subst bx;refine bw (key y hy) λk' s' bK O ad=>?_;subst bK;simp[List.getD_eq_getElem?_getD,ek,O]at e;obtain B:=yl hs ad e;subst B;obtain hk:=(f9.mp ek);obtain Q:=(f9.mp O);obtain⟨a,b⟩:=hk;refine bR Q λa' b'=>?_;obtain B:k=k':=(List.getElem_inj (h₀:=a) (h₁:=a') G.nd).mp (b.trans b'.symm);rw[B]
 obtain B:=bU 3 _ nd λx J=>by
  refine af (b9.mp J) λy _ cC=>?_;subst cC;unfold wB;split
  ·decide
  ·split <;> decide
 rw[List.length_map]at B;exact B
theorem EV:∀p,p<7->∀q,q<7->∀a,a<4->p+q<=6->(a+q)*(3*p+q-a)<64:=by decide
theorem Lap.FG(L:Lap N i)(hi:i<=6):du "f" N*du "g" N<64:=by
 refine jg L λG hl dj=>?_;refine bw dj λp q F J O=>?_;obtain Q:=HA N N;obtain P:=FD G;have e:kH N+ml N=du "f" N:=Q;obtain B:=EV p (Nv F hi) q (Nx F hi) (kH N) (Ny P) (Nz F hi);refine d9 (Nat.mul_le_mul ?_ ?_) B
 ·exact NA e J
 ·exact NB O
end
section
variable{t:cD}{q:V}
noncomputable def DJ(op:String):V->Bool
 | .tup (.str o::_)=>o==op
 |_=>false
theorem uQ(op:String)(nd:Nd):DJ op (ak nd)=(nd.1==op):=rfl
noncomputable def Bv(op:String)(l:List V):Nat:=(l.filter (DJ op)).length
theorem je(p:V->Bool):∀l:List V,((aI l).filter p).length<=(l.filter p).length
 | []=>f7 _
 |v::l=>by
  obtain B:=je p l;unfold aI;obtain h:(((aI l).filter λw=>!cM w v).filter p).length<=((aI l).filter p).length:=(List.filter_sublist.filter p).length_le;rw[List.filter_cons,List.filter_cons];split
  ·rw[List.length_cons,List.length_cons];exact Ep h B
  ·exact wP h B
section
variable{D:HD}
theorem Dz(op:String)(c:Nat):Bv op (D.NN c)<=((D.mem c).filter λi=>D.op i==op).length:=by unfold Bv HD.NN;rw[((ai _).filter _).length_eq];refine b8 (je _ _) ?_;rw[List.filter_map,List.length_map];exact f7 _
theorem lU(f g:α->Nat):∀l:List α,(l.map λa=>f a+g a).sum=(l.map f).sum+(l.map g).sum
 | []=>rfl
 |a::l=>by simp only[List.map_cons,List.sum_cons,lU f g l];exact NC
theorem xp(x:Nat):∀l:List Nat,l.Nodup->(l.map λc=>if x=c then 1 else 0).sum<=1
 | [],_=>m6 _
 |c::l,h=>by
  rw[List.nodup_cons]at h;simp only[List.map_cons,List.sum_cons];obtain B:=xp x l h.2;by_cases e:x=c
  ·subst e
   have:(l.map λc=>if x=c then 1 else 0).sum=0:=by
    have:∀m:List Nat,x∉m->(m.map λc=>if x=c then 1 else 0).sum=0:=by
     intro m;induction m with
     |nil=>intro _;rfl
     |cons a m B =>intro hm;rw[List.mem_cons,not_or]at hm;simp only[List.map_cons,List.sum_cons,B hm.2,if_neg hm.1]
    exact this l h.1
   rw[this,if_pos rfl];exact f7 _
  ·rw[if_neg e];exact ND B
theorem oQ(r:Nat->Nat)(P:Nat->Bool)(l:List Nat)(hl:l.Nodup):∀L:List Nat,(l.map λc=>((L.filter λi=>decide (r i=c)).filter P).length).sum<=(L.filter P).length
 | []=>by
  have:∀m:List Nat,(m.map λc=>((([]:List Nat).filter λi=>decide (r i=c)).filter P).length).sum=0:=by
   intro m;induction m with
   |nil=>rfl
   |cons a m B=>simp only[List.map_cons,List.sum_cons,B];rfl
  rw[this l];exact m6 _
 |i::L=>by
  obtain B:=oQ r P l hl L;have e:(λc=>(((i::L).filter λi=>decide (r i=c)).filter P).length)=λc=>(if P i then(if r i=c then 1 else 0)else 0)+((L.filter λi=>decide (r i=c)).filter P).length:=by
   funext c;rw[List.filter_cons];by_cases h:r i=c
   ·rw[if_pos (by simpa using h),List.filter_cons];cases F:P i <;> simp[h];exact NE
   ·rw[if_neg (by simpa using h)];cases F:P i <;> simp[h]
  rw[e,lU,List.filter_cons];cases F:P i with
  |true =>
   have:=xp (r i) l hl
   simp only[if_true,List.length_cons]at this ⊢;exact NF this B
  |false =>
   have z:(l.map λc=>if false=true then(if r i=c then 1 else 0)else 0).sum=0:=by
    have:∀m:List Nat,(m.map λc=>if false=true then(if r i=c then 1 else 0)else 0).sum=0:=by
     intro m;induction m with
     |nil=>rfl
     |cons a m B=>simp only[List.map_cons,List.sum_cons,B];rfl
    exact this l
   rw[z];simpa using B
theorem vp(d:α)(l:List α):(List.range l.length).map (λi=>l.getD i d)=l:=by
 refine u6 λi=>?_;rw[List.getElem?_map];by_cases h:i<l.length
 ·rw[List.getElem?_range h,Option.map_some,gc d h]
 ·rw[List.getElem?_eq_none (by simp;exact tv h),List.getElem?_eq_none (tv h)];rfl
theorem xa(op:String):((List.range D.n).filter λi=>D.op i==op).length=du op D.nodes:=by
 unfold du
 conv=>rhs;rw[<- vp ("",[]) D.nodes]
 rw[List.filter_map,List.length_map];rfl
theorem fy{f g:α->Nat}:∀{l:List α},(∀x∈l,f x<=g x)->(l.map f).sum<=(l.map g).sum
 | [],_=>f7 _
 |a::l,h=>by simp only[List.map_cons,List.sum_cons];obtain B:=h a d6;obtain B:=fy (f:=f) (g:=g) λx (F:x∈l)=>h x (d7 _ F);exact NG (by assumption) B
theorem xr(op:String):(D.roots.map λc=>Bv op (D.NN c)).sum<=du op D.nodes:=by rw[<- xa];exact b8 (fy λc _=>Dz op c) (oQ D.r _ D.roots (dU D) _)
theorem Bw(op:String)(c:Nat):Bv op (D.NN c)<=du op D.nodes:=by rw[<- xa];refine b8 (Dz op c) ?_;unfold HD.mem;exact(List.filter_sublist.filter _).length_le
theorem rL(f:α->Nat)(B:Nat):∀l:List α,(l.map λa=>f a*B).sum=(l.map f).sum*B
 | []=>by simp
 |a::l=>by simp only[List.map_cons,List.sum_cons,rL f B l,Nat.add_mul]
variable{N:Nat->List V}
theorem qZ{op:String}(h:dY (.tup (.str op::ps))=true)(c:Nat)(tb:cD):(aC N (.tup (.str op::ps)) c tb).length<=1:=by rw[cr N h];split <;> simp
theorem ta{op:String}(h:dY (.tup (.str op::ps))=false)(hN:∀c,∀nd∈N c,∃x:Nd,nd=ak x)(c:Nat)(tb:cD)(B:Nat)(G:∀ks:List Nat,ks.length=ps.length->(bT N ps (ks.map iv) [tb]).length<=B) :(aC N (.tup (.str op::ps)) c tb).length<=Bv op (N c)*B:=by
 rw[bA N h]
 have:∀l:List V,(∀nd∈l,∃x:Nd,nd=ak x)->(l.flatMap (gI N op ps tb)).length<=Bv op l*B:=by
  intro l;induction l with
  |nil=>intro _;simp
  |cons a l F =>
   intro hl;obtain F:=F λnd hnd=>hl nd (d7 _ hnd);refine bR (hl a d6) λx aP=>?_;subst aP;rw[List.flatMap_cons,List.length_append];unfold Bv at F ⊢;rw[List.filter_cons,uQ,ei];by_cases e:x.1=op
   ·rw[if_pos (show(x.1==op)=true by simpa using e),List.length_cons,Nat.add_mul,Nat.one_mul];by_cases e2:(x.2.map iv).length=ps.length
    ·rw[if_pos ⟨e,e2⟩];obtain this:=G x.2 (by simpa using e2);exact Et this F
    ·rw[if_neg (λz=>e2 z.2)];simp only[List.length_nil];exact NH F
   ·rw[if_neg (show ¬(x.1==op)=true by simpa using e),if_neg (λz=>e z.1)];simpa using F
 exact this _ (hN c)
theorem Cy{k:Nat}:∀{ks:List Nat},ks.length=1->∃a,ks=[a]
 | [a],_=>⟨a,rfl⟩
theorem Hv:∀{ks:List Nat},ks.length=2->∃a b,ks=[a,b]
 | [a,b],_=>(vU a b rfl)
theorem qN(q:V)(a:Nat)(tb:cD):bT N [q] ([a].map iv) [tb]=aC N q a tb:=by rw[List.map_cons,List.map_nil,bW,cE];simp
theorem zF(q r:V)(a b:Nat)(tb:cD):bT N [q,r] ([a,b].map iv) [tb]=(aC N q a tb).flatMap λt=>aC N r b t:=by rw[List.map_cons,List.map_cons,List.map_nil,bW,bW,cE];simp
theorem vb(hN:∀c,∀nd∈N c,∃x:Nd,nd=ak x)(c:Nat)(tb:cD)(B:Nat)(h:∀k,(aC N q k tb).length<=B):(aC N (pf q) c tb).length<=Bv "f" (N c)*B :=ta rfl hN c tb B λks hk=>by refine bR (Cy (k:=0) hk) λa bx=>?_;subst bx;rw[qN];exact h a
theorem nN(hN:∀c,∀nd∈N c,∃x:Nd,nd=ak x){r:V}(c:Nat)(tb:cD)(F B:Nat)(h:∀k,(aC N q k tb).length<=F)(G:∀j k,∀t∈aC N q j tb,(aC N r k t).length<=B):(aC N (pg q r) c tb).length<=Bv "g" (N c)*(F*B) :=ta rfl hN c tb _ λks hk=>by refine rY (Hv hk) λa b bK=>?_;subst bK;rw[zF];exact b8 (cu _ B _ λt J=>G a b t J) (t0 _ (h a))
theorem wG{f:V->List cD}{a:V}:∀{l:List V},l.Nodup->(∀x∈l,x≠a->f x=[])->(∀x∈l,(f x).length<=1)->(l.flatMap f).length<=1
 | [],_,_,_=>by simp
 |b::l,h,G,J=>by
  rw[List.nodup_cons]at h;rw[List.flatMap_cons,List.length_append];obtain O:=wG (f:=f) (a:=a) h.2 (λx F=>G x (d7 _ F)) (λx F=>J x (d7 _ F));by_cases e:b=a
  ·subst e;obtain B:l.flatMap f=[]:=List.flatMap_eq_nil_iff.mpr λx F=>G x (d7 _ F) λz=>h.1 (z▸F);rw[B];obtain B:=J b d6;simpa using B
  ·rw[G b List.mem_cons_self e];simpa using O
theorem Ac(hN:∀c,∀nd∈N c,∃x:Nd,nd=ak x)(h:t∈aC N (pf q) c tb):∃k,t∈aC N q k tb:=by
 unfold pf at h;rw[bA N rfl]at h;refine af (q6.mp h) λnd hnd h=>?_;obtain⟨x,rfl⟩:=hN c nd hnd;rw[ei]at h;split at h
 ·rename_i g;refine bR (Cy (k:=0) (ks:=x.2) (by simpa using g.2)) λa e=>?_;rw[e,qN]at h;exact⟨a,h⟩
 ·cases h
theorem Fy(hN:∀c,∀nd∈N c,∃x:Nd,nd=ak x){r:V}(h:t∈aC N (pg q r) c tb):∃j k,∃u∈aC N q j tb,t∈aC N r k u:=by
 unfold pg at h;rw[bA N rfl]at h;refine af (q6.mp h) λnd hnd h=>?_;obtain⟨x,rfl⟩:=hN c nd hnd;rw[ei]at h;split at h
 ·rename_i g;refine rY (Hv (ks:=x.2) (by simpa using g.2)) λa b e=>?_;rw[e,zF]at h;refine af (q6.mp h) λu B h=>?_;exact(yX a b u B h)
 ·cases h
theorem Ad{op:String}(hv:dY (.tup [.str op])=true)(h:t∈aC N (.tup [.str op]) c []):t=[(.str op,iv c)]:=by
 rw[cr N hv]at h;split at h
 ·rw[List.mem_singleton.mp h,bz rfl];rfl
 ·cases h
theorem yo(hN:∀c,∀nd∈N c,∃x:Nd,nd=ak x)(hnd:∀c,(N c).Nodup)(h:t∈aC N (pf vx) j []):(aC N (pf vx) k t).length<=1:=by
 refine bR (Ac hN h) λm hm=>?_;obtain e:=Ad rfl hm;subst e;unfold pf;rw[bA N rfl];refine wG (a:=ak ("f",[m])) (hnd k) (λnd F G=>?_) (λnd F=>?_)
 ·refine bR (hN k nd F) λx J=>?_;subst J;rw[ei];split
  ·rename_i g;refine bR (Cy (k:=0) (ks:=x.2) (by simpa using g.2)) λa e=>?_;rw[e,qN,cr N rfl,if_neg];intro z;obtain z:=(bt _ _).mp z;rw[bM,if_pos (bo _)]at z;obtain B:m=a:=gW z;exact G (by rw[show x=("f",[m])from M8 g.1 (by rw[e,B])])
  ·rfl
 ·obtain⟨x,rfl⟩:=hN k nd F;rw[ei];split
  ·rename_i g;refine bR (Cy (k:=0) (ks:=x.2) (by simpa using g.2)) λa e=>?_;rw[e,qN];exact qZ rfl _ _
  ·exact m6 _
theorem GT(D:HD)(c:Nat):(D.NN c).Nodup:=(ai _).nodup_iff.mpr (cH _)
noncomputable def Bs(D:HD)(p:V):Nat:=(D.roots.map λc=>(aC D.NN p c []).length).sum
theorem qv(B:Nat):∀l:List Nat,(l.map λ_=>B).sum=l.length*B
 | []=>by simp
 |a::l=>by simp only[List.map_cons,List.sum_cons,qv B l,List.length_cons,Nat.add_mul];exact NI
theorem rK(O:du "f" D.nodes*du "g" D.nodes<64)(Q:D.n<64):∀p∈pats,Bs D p<64:=by
 have hN:∀c,∀nd∈D.NN c,∃x:Nd,nd=ak x:=λc nd h=>ed h;obtain hF:du "f" D.nodes<=D.n:=p8 _ _;obtain hG:du "g" D.nodes<=D.n:=p8 _ _;have F:∀k tb,(aC D.NN vx k tb).length<=1:=λk tb=>qZ rfl k tb;have J:∀k tb,(aC D.NN vy k tb).length<=1:=λk tb=>qZ rfl k tb;have Y:∀B,(D.roots.map λc=>Bv "f" (D.NN c)*B).sum<=du "f" D.nodes*B:=λB=>by rw[rL];exact t0 _ (xr "f")
 have G:∀B,(D.roots.map λc=>Bv "g" (D.NN c)*B).sum<=du "g" D.nodes*B:=λB=>by rw[rL];exact t0 _ (xr "g")
 have P:∀k tb,(aC D.NN (pf vx) k tb).length<=du "f" D.nodes:=λk tb=>b8 (vb hN k tb 1 λj=>F j tb) (by rw[Nat.mul_one];exact Bw "f" k);obtain Z:∀k tb,(aC D.NN (pg vx vy) k tb).length<=du "g" D.nodes:=λk tb=>b8 (nN hN k tb 1 1 (λj=>F j tb) λ_ j t _=>J j t) (by simpa using Bw "g" k);intro p hp;simp only[pats,List.mem_cons,List.not_mem_nil,or_false]at hp;unfold Bs;rcases hp with rfl|rfl|rfl|rfl|rfl|rfl|rfl
 ·obtain this:=b8 (fy λc _=>vb hN c [] 1 λj=>F j []) (Y 1);exact EJ hF this Q
 ·obtain this:=b8 (fy λc _=>nN hN c [] 1 1 (λj=>F j []) λ_ j t _=>J j t) (G (1*1));omega
 ·have:=b8 (fy λc _=>nN hN c [] 1 1 (λj=>F j []) λ_ j t _=>F j t) (G (1*1));omega
 ·obtain this:=b8 (fy λc _=>nN hN c [] (du "f" D.nodes) 1 (λj=>P j []) λ_ j t _=>J j t) (G (du "f" D.nodes*1));rw[Nat.mul_one,Nat.mul_comm (du "g" D.nodes)]at this;exact AD this O
 ·obtain this:=b8 (fy λc _=>vb hN c [] (du "g" D.nodes) λj=>Z j []) (Y (du "g" D.nodes));exact AD this O
 ·obtain this:=b8 (fy λc _=>nN hN c [] (du "f" D.nodes) 1 (λj=>P j []) λj k t ht=>yo hN (GT D) ht) (G (du "f" D.nodes*1));rw[Nat.mul_one,Nat.mul_comm (du "g" D.nodes)]at this;exact AD this O
 ·obtain a:=fy (l:=D.roots) λc _=>F c [];rw[qv]at a;obtain this:=D.roots_len;exact EJ this a Q
theorem nD(p:V):(ay D p).length<=Bs D p:=by unfold ay Bs;rw[List.length_flatMap];refine fy λc _=>?_;rw[List.length_map,lj];obtain B:=bI ((aC D.NN p c []).map aT);rw[List.length_map]at B;exact B
theorem Cc(tb:cD)(k v:V):dput tb k v≠[]:=by
 unfold dput;split
 ·rename_i h;intro e;rw[List.map_eq_nil_iff]at e;rw[e]at h;exact ag h
 ·simp
theorem Hz{op:String}(hv:dY (.tup [.str op])=true)(h:t∈aC N (.tup [.str op]) c []):t≠[]:=by rw[Ad hv h];simp
theorem CC(hN:∀c,∀nd∈N c,∃x:Nd,nd=ak x){u:cD}(B:u≠[])(h:t∈aC N q c u):t≠[] :=my (S:=λ_=>True) (P:=λt=>t≠[]) (λc _ nd h=>let⟨x,e⟩:=hN c nd h;(aa x e (λ_ _=>trivial))) (λtb op i _ _=>Cc _ _ _) q c u trivial B t h
theorem CB:∀p∈pats,∀c,∀t∈aC D.NN p c [],t≠[]:=by
 have hN:∀c,∀nd∈D.NN c,∃x:Nd,nd=ak x:=λc nd h=>ed h;have X:∀c,∀t∈aC D.NN vx c [],t≠[]:=λc t h=>Hz rfl h;have F:∀q,(∀c,∀t∈aC D.NN q c [],t≠[])->∀c,∀t∈aC D.NN (pf q) c [],t≠[]:=λq hq c t h=>by refine bR (Ac hN h) λk h=>?_;exact hq k t h
 have G:∀q r,(∀c,∀t∈aC D.NN q c [],t≠[])->∀c,∀t∈aC D.NN (pg q r) c [],t≠[]:=λq r hq c t h=>by refine pj (Fy hN h) λj k u B h=>?_;exact CC hN (hq j u B) h
 intro p hp;simp only[pats,List.mem_cons,List.not_mem_nil,or_false]at hp;rcases hp with rfl|rfl|rfl|rfl|rfl|rfl|rfl
 ·exact F _ X
 ·exact G _ _ X
 ·exact G _ _ X
 ·exact G _ _ (F _ X)
 ·exact F _ (G _ _ X)
 ·exact G _ _ (F _ X)
 ·exact X
theorem ve(h:t≠[]):fx (aT t)=true:=by
 unfold aT;obtain hl:(aJ (bq t)).length=t.length:=by rw[(ai _).length_eq];unfold bq;rw[List.length_map]
 rcases hv:aJ (bq t)with _|⟨a,l⟩
 ·rw[hv]at hl;exact absurd (B6.mp hl.symm) h
 ·rfl
theorem mG:∀p∈pats,gD p=true/\vl p<60/\60^nv p<=2^18/\az p<=3:=by intro p hp;simp only[pats,List.mem_cons,List.not_mem_nil,or_false]at hp;rcases hp with rfl|rfl|rfl|rfl|rfl|rfl|rfl <;> exact(mu (by decide) (by decide) (by decide) (by decide))
theorem wa(G:du "f" D.nodes*du "g" D.nodes<64)(J:D.n<64):∀p∈pats,Askable D p:=λp hp=>by refine rT (mG p hp) λa b c _=>?_;refine⟨a,b,c,λk hk=>?_,λk _ t O=>ve (CB p hp k t O)⟩;obtain h:=rK G J p hp;obtain B:(aC D.NN p k []).length<=Bs D p:=fz (b9.mpr ⟨k,hk,rfl⟩);obtain F:=bI ((aC D.NN p k []).map aT);rw[List.length_map]at F;exact NJ B F h
end
end
theorem HD.At.only{D:HD}{H:AH}(A:D.At H){fa:Addr}(o:Only fa H H')(h:fa∉D.adr):D.At H':=⟨λp hp=>by rw[o p.1 λe=>h (List.mem_map.mpr (aa p hp e))];exact A.all p hp,A.nd⟩
theorem Frm.keep{H:AH}{A A':List Addr}(f:Frm H H' A A'){x:Addr}{o:AO}(h:H x=some o)(B:x∉A):H' x=some o/\x∉A':=by
 refine⟨f.out x o h B,λhm=>?_⟩;rcases f.new x hm with h'|h'
 ·exact B h'
 ·rw[h]at h';exact sn h'
theorem Feed.frm{H:AH}{A A':List Addr}(f:Frm H H' A A'){fa:Addr}{s:Nat}(F:Feed H fa ca cs s)(B:fa∉A)(G:ca∉A):Feed H' fa ca cs s/\fa∉A'/\ca∉A' :=(da ⟨(f.keep F.f B).1,(f.keep F.c G).1,F.len,F.ne⟩ ((f.keep F.f B).2) ((f.keep F.c G).2))
theorem Feed.ext{H:AH}(x:Ext H H'){fa:Addr}{s:Nat}(F:Feed H fa ca cs s):Feed H' fa ca cs s:=⟨x _ _ F.f,x _ _ F.c,F.len,F.ne⟩
section
variable{H:AH}{d:Nat}
theorem Be(l1:l "script"=some .scr)(k:∀H' fa ca cs,Ext H H'->Feed H' fa ca cs 0->aq σ d rest (l.put "feed" (.ref fa)) H' K) : aq σ d (.asg (.tg (.nm "feed")) (.dct (.cons (.cst (.str "cells")) (.cons (.cst (.str "spot")) .nil)) (.cons (.comp (.bin .mod (.prim .abs (.var "cell")) (.cst (.int 1000003))) (.one (.nm "cell") (.exp (.slc (.var "script") none (some 60))) none)) (.cons (.cst (.int 0)) .nil)))::rest) l H K:=by
 refine(aa _ l1 ⟨rfl,60,rfl,by decide,λsa Q=>(bb _ (AH.set_self _ _ _) ?_ (λc hc=>(aa c rfl ?_)))⟩)
 ·rw[List.length_map,List.length_take];exact b8 (u2 _ _) (by decide)
 obtain x0:Ext H (H.set sa (.list ((σ.svs.take 60).map .int))):=Ext.set _ Q;have e0:(H.set sa (.list ((σ.svs.take 60).map .int))) sa=some (.list ((σ.svs.take 60).map .int)):=AH.set_self _ _ _;generalize H.set sa (.list ((σ.svs.take 60).map .int))=H1 at *;have F:(σ.svs.take 60).length<=60:=by rw[List.length_take];exact u2 _ _
 let g:V->List V:=λv=>match v with | .int i=>[.int ((i.natAbs:Int)%1000003)]|_=>[]
 have Z:((σ.svs.take 60).map V.int).flatMap g=((σ.svs.take 60).map λi=>(i.natAbs:Int)%1000003).map V.int:=by rw[List.flatMap_map,List.map_map];exact dS _ _
 refine dg (src:=some (sa,(σ.svs.take 60).map .int)) (H0:=H1) (hsrc:=e0) g _ [] _ (Ext.set _ hc) (AH.set_self _ _ _) (by rw[Z,List.length_nil,List.length_map,List.length_map];exact NK F) (λx hx H' ws' k' Y B O J=>?_) λH' Y B=>?_
 ·refine af (b9.mp hx) λi hi aP=>?_;subst aP;refine(aa _ rfl ?_);refine yT (fI rfl ?_);have P:ws'.length+1<2^20:=O;exact(aa _ (ao _ _ _) ⟨by decide,_,B,by exact NL P,J _ (Y.setc hc _) (AH.set_self _ _ _)⟩)
 ·rw[Z,List.nil_append]at B;refine(GJ ⟨by simp,1,by decide,?_⟩ ?_ rfl (by decide) (λfa G=>(aa _ rfl ?_)))
  ·intro p hp;simp at hp;rcases hp with rfl|rfl <;> rfl
  ·intro p hp;simp at hp;rcases hp with rfl|rfl <;> rfl
  ·exact k _ fa c _ (x0.trans' (Y.trans' (Ext.set _ G))) ⟨AH.set_self _ _ _,(Ext.set _ G) _ _ B,by rw[List.length_map];exact F,(am B G).symm⟩
theorem Bg(T:Txt σ)(hd:4<=d)(k:∀H' (D:HD),Ext H H'->D.At H'->D.Ok->D.nodes=[]->D.M=0->(∀a∈D.adr,H a=none)->aq σ d rest (l.put "heap" (.ref D.hp)) H' K) : aq σ d (.asg (.tg (.nm "heap")) (.new "Heap" .nil)::rest) l H K:=by refine bR T.cHeap λC J=>?_;refine cb T.Heap_init λf _ G _=>?_;refine(md C f (d-1) (NM hd) J G (λx dx P Q Y=>?_));refine(((sx T (H0:=H) (rm Hold.nil "Heap" P Q Y) λH' D x1 A O hn Z F B=>?_).call G).room (NO hd));refine⟨rfl,(aa _ rfl ?_)⟩;rw[<- F];exact k H' D x1 A O hn Z B
structure St(H:AH)(fa ca:Addr)(cs:List Int)(s:Nat)(D:HD)(i:Nat):Prop where
 at_:D.At H
 ok:D.Ok
 lap:Lap D.nodes i
 pos:0<i->0<D.n
 feed:Feed H fa ca cs s
 sb:s<=10+8*i
 f1:fa∉D.adr
 f2:ca∉D.adr
theorem Bf(T:Txt σ){fa:Addr}{s:Nat}{D:HD}(hd:8<=d)(A:D.At H)(O:D.Ok)(hN:D.nodes=[])(F:Feed H fa ca cs s)(hs:s<=2)(h1:fa∉D.adr)(h2:ca∉D.adr)(l1:l "feed"=some (.ref fa))(l2:l "heap"=some (.ref D.hp))(k:∀l' H' D' s' i,St H' fa ca cs s' D' i->4<=i->i<=6->D'.hp=D.hp->D'.M=D.M->(∀y,y∉["lap"]->l' y=l y)->aq σ d rest l' H' K) : aq σ d (.for1 (.nm "lap") (.rng (.bin .add (.cst (.int 4)) (.call "_law_pick" (.cons (.var "feed") (.cons (.cst (.int 3)) .nil))))) [.expr (.meth (.var "heap") "put" (.cons (.call "_law_tree" (.cons (.var "feed") (.cons (.cst (.int 2)) .nil))) .nil))]::rest) l H K:=by
 refine af ((kr (Q:=λv H'=>∃j,v=iv j/\j<3/\Only fa H H'/\Feed H' fa ca cs (s+1)) T F (NP hs) (m:=3) (by decide) λH' j Z o f=>(iN j rfl Z o f)).room (d':=d) (NQ hd)) λf e c=>?_;refine(aa f e (aa _ l1 (c.mono ?_)));rintro _ H1 ⟨j,rfl,Z,o1,F1⟩;refine(iN (4+(j:Int)) rfl NR (NS Z) ?_);rw[show(4+(j:Int)).toNat=4+j by exact NT,qi];refine dl (src:=none) (λxs l' H'=>(∀y,y∉["lap"]->l' y=l y)/\∃D' s' i,xs.length+i=4+j/\St H' fa ca cs s' D' i/\D'.hp=D.hp/\D'.M=D.M) (λ_ _ _ _=>trivial) (λv xs l' H' k' h hk=>?_) (λl' H' h=>?_) _ _ _ ⟨λ_ _=>rfl,(md D (s+1) 0 (by simp) ⟨A.only o1 h1,O,by rw[hN];exact Lap.zero,λz=>absurd z (M1 0),F1,by exact NU hs,h1,h2⟩ rfl rfl)⟩
 ·obtain⟨keep,D',s',i,G,S,B,eM⟩:=h;rw[List.length_cons]at G;have lk:∀y,y≠"lap"->(l'.put "lap" v) y=l y:=λy hy=>(aj _ _ hy).trans (keep y (by simpa using hy));obtain J:∀y,y∉["lap"]->(l'.put "lap" v) y=l y:=λy hy=>lk y (by simpa using hy);refine(aa _ rfl ?_);generalize l'.put "lap" v=l2' at *;obtain hsb:=S.sb;refine af ((Fe T 2 (Q:=λv H2=>∃(t:Tr)(P:Nat),v=t.v/\t.ok 2/\P+1<=s'+2^3/\Only fa H' H2/\Feed H2 fa ca cs P) S.feed (by omega) Kr λH2 t P a b c d=>(mN t P rfl a b c d)).room (d':=d) (NV hd)) λf e c=>?_;refine(aa _ ((lk _ (by decide)).trans l2) (aa _ (aE (c:="Heap") (by rw[<- B];exact S.at_.heap) rfl T.Heap_put.some) (aa f e (aa _ ((lk _ (by decide)).trans l1) (c.mono ?_)))));rintro _ H2 ⟨t,P,rfl,ht,hs2,o2,F2⟩;obtain A2:=S.at_.only o2 S.f1;obtain hsz:=tX ht;have hl:=S.lap.2.1;have hi6:i<=5:=by exact NW G Z
  have Y:D'.n+t.sz<=60:=by
   have:D'.n<=7*i:=hl
   omega
  rw[<- B];refine(GX T t (h:=2) A2 S.ok ht Y λH3 D3 n3 W hb=>⟨trivial,?_⟩).room (by assumption);refine jg (F2.frm W.frm S.f1 S.f2) λF3 g1 g2=>?_;exact hk _ _ ⟨J,(md D3 P (i+1) (NX G) ⟨W.at_,W.ok,S.lap.next ht hb,λ_=>by obtain this:=hb.len.1;exact NY this,F3,by exact NZ hs2 hsb,g1,g2⟩ (W.hp.trans B) (W.M.trans eM))⟩
 ·refine bQ h λkeep bK=>?_;refine rV bK λD' s' i G S B eM=>?_;obtain G:i=4+j:=by simpa using G
  exact k l' H' D' s' i S (Oa G) (Oc G Z) B eM keep
end
section
variable{s:Nat}{p:V}
section
variable{H:AH}{Q:V->AH->Prop}{d:Nat}
theorem pt(T:Txt σ){x:Addr}{v:V}(h:Hold H0 H [(dx,.dict (fl [])),(x,.inst "Walker" dx)])(q:∀H',Hold H0 H' [(dx,.dict (fl [("heap",v)])),(x,.inst "Walker" dx)]->Q .none H'):MCall σ 1 "Walker" "__init__" [.ref x,v] H Q:=by refine aw T.ok T.Walker_init rfl ?_;refine(aa _ rfl (aa _ rfl (Rw x ("Walker") dx (fl []) rfl ((h.all (x,.inst "Walker" dx) (by simp)).1) (by rw[T.fWalker];simp) ((h.all (dx,.dict (fl [])) (by simp)).1) (oP _) (by simp[fl]) ?_)));rw[wh (by rfl)];exact q _ (h.upd (L1:=[]) (.dict (fl [("heap",v)])))
theorem vF(T:Txt σ)(hd:2<=d){v:V}(l1:l "heap"=some v)(k:∀H' wk wd,Ext H H'->IsObj H' wk "Walker" wd [("heap",v)]->H wk=none->H wd=none->aq σ d rest (l.put "walker" (.ref wk)) H' K) : aq σ d (.asg (.tg (.nm "walker")) (.new "Walker" (.cons (.var "heap") .nil))::rest) l H K:=by refine bR T.cWalker λC F=>?_;refine cb T.Walker_init λf _ B _=>?_;refine(md C f (d-1) (Od hd) F B (aa _ l1 (λx dx G J O=>?_)));refine(((pt T (H0:=H) (v:=v) (rm Hold.nil "Walker" G J O) λH' h=>?_).call B).room (Oe hd));refine⟨rfl,(aa _ rfl ?_)⟩;exact k H' x dx h.ext ⟨(h.all (x,.inst "Walker" dx) (by simp)).1,(h.all (dx,.dict (fl [("heap",v)])) (by simp)).1⟩ (h.all (x,.inst "Walker" dx) (by simp)).2 (h.all (dx,.dict (fl [("heap",v)])) (by simp)).2
structure Mid(H:AH)(fa ca wk wd:Addr)(cs:List Int)(s:Nat)(D:HD)(i:Nat):Prop where
 at_:D.At H
 ok:D.Ok
 fg:du "f" D.nodes*du "g" D.nodes<64
 pos:0<D.n
 feed:Feed H fa ca cs s
 sb:s<=70+2*i
 M:D.M<=i
 w:IsObj H wk "Walker" wd [("heap",.ref D.hp)]
 f1:fa∉D.adr
 f2:ca∉D.adr
 f3:wk∉D.adr
 f4:wd∉D.adr
 n1:fa≠wk
 n2:fa≠wd
theorem tY(i:Nat)(h:i<10):(toString (i:Int)).length<=10:=by
 obtain B:i=0\/i=1\/i=2\/i=3\/i=4\/i=5\/i=6\/i=7\/i=8\/i=9:=by exact Of h
 rcases B with rfl|rfl|rfl|rfl|rfl|rfl|rfl|rfl|rfl|rfl <;> decide
theorem xE(T:Txt σ)(hd:9<=d){fa:Addr}{D:HD}(A:D.At H)(O:D.Ok)(F:Feed H fa ca cs s)(hs:s<10000)(hp:0<D.n)(l1:l "feed"=some (.ref fa))(l2:l "heap"=some (.ref D.hp))(q:∀H' k,k<D.n->Only fa H H'->Feed H' fa ca cs (s+1)->Q (iv k) H') : aS σ d (.call "_law_pick" (.cons (.var "feed") (.cons (.meth (.var "heap") "size" .nil) .nil))) l H Q:=by refine cb T.law_pick λf _ B _=>?_;refine af ((kr (Q:=Q) T F hs (m:=D.n) hp q).room (EK hd)) λf' e' G=>?_;obtain rfl:=c9 (B.symm.trans e');exact aa f B (aa _ l1 (aa _ l2 (aa _ (aE A.heap rfl T.Heap_size.some) ((BS T A O G).room (Oq hd)))))
theorem yk(T:Txt σ)(hd:9<=d){fa:Addr}{y:Nat}{D:HD}(A:D.At H)(O:D.Ok)(F:Feed H fa ca cs s)(hs:s<=70+2*i)(hi:i<=3)(hp:0<D.n)(hM:D.M<=i)(Q:y<10)(f1:fa∉D.adr)(l1:l "feed"=some (.ref fa))(l2:l "heap"=some (.ref D.hp))(l3:l "lap"=some (iv y))(k:∀H5 B G,Only fa H H5->Feed H5 fa ca cs (s+1+1)->Grow (D.sM (D.M+1)) G H5 B->aq σ d rest l B K):aq σ d (.expr (.meth (.var "heap") "merge" (.cons (.call "_law_pick" (.cons (.var "feed") (.cons (.meth (.var "heap") "size" .nil) .nil))) (.cons (.call "_law_pick" (.cons (.var "feed") (.cons (.meth (.var "heap") "size" .nil) .nil))) (.cons (.tup (.cons (.cst (.str "told")) (.cons (.bin .add (.cst (.str "m")) (.prim .str (.var "lap"))) .nil))) .nil))))::rest) l H K:=by refine iK (un (.var l2) A.heap rfl T.Heap_merge.some ?_);refine xE T hd A O F (Op hs hi) hp l1 l2 λH4 a ha Y F4=>?_;have P:=A.only Y f1;refine xE T hd P O F4 (Os hs hi) hp l1 l2 λH5 b hb Z F5=>?_;refine aa _ l3 ⟨Ax,Ot Q,Ou rfl (tY y Q),?_⟩;exact(zn T (P.only Z f1) O ha hb (Ov hM hi) λB G v6 G6 J=>⟨by rcases J with rfl|rfl <;> trivial,k H5 B G (Y.trans' Z) F5 G6⟩).room (EL hd)
theorem zY(T:Txt σ)(hd:9<=d){D:HD}{ba ea:Addr}{Y:List Nat}(hp:p∈pats)(A:D'.At H)(C:Coarse D D')(W:IsObj H wk "Walker" wd [("heap",.ref D'.hp)])(fg:du "f" D.nodes*du "g" D.nodes<64)(E:Home D H ea Y)(hb:H ba=some (.list (ay D p)))(l1:l "heap"=some (.ref D'.hp))(l2:l "pattern"=some p)(l3:l "before"=some (.ref ba))(l4:l "elder"=some (.ref ea))(l5:l "walker"=some (.ref wk))(k:∀H',Ext H H'->aq σ d rest l H' K) : aq σ d (.if1 (.not1 (.call "_law_is_kept" (.cons (.var "heap") (.cons (.var "pattern") (.cons (.var "before") (.cons (.var "elder") (.cons (.meth (.var "walker") "found" (.cons (.var "pattern") .nil)) .nil))))))) [.ret (.cst (.bool false))] []::rest) l H K:=by
 have hn:=C.o.nz;have J:=C.o'.nz;have G:du "f" D'.nodes*du "g" D'.nodes<64:=by rw[C.nodes];exact fg
 refine cb T.law_is_kept λfk _ B _=>?_;refine(aa fk B (aa _ l1 (aa _ l2 (aa _ l3 (aa _ l4 (aa _ l5 (aa _ (aE W rfl T.Walker_found.some) (aa _ l2 ((wb T C.o' (m:=3) (mG p hp).2.2.2 A W (wa G (wV J) p hp) λH8 fd P _ Z=>?_).room hd)))))))));refine af ((xQ (Q:=λv O=>v=.bool true/\Ext H8 O) T (A.ext P) C (mG p hp).2.1 ⟨P _ _ E.o,E.nd,E.mem⟩ (P _ _ hb) Z (d9 (nD p) (rK fg (wV hn) p hp)) (d9 (nD p) (rK G (wV J) p hp)) λO x9=>⟨rfl,x9⟩).room (EM hd)) λfk' F ck=>?_;obtain rfl:=c9 (B.symm.trans F);refine ck.mono λv O h=>?_;rw[h.1];exact aa true rfl (fG rfl (k O (P.trans' h.2)))
theorem Cu(T:Txt σ)(hd:9<=d){D:HD}(hp:p∈pats)(A:D.At H)(O:D.Ok)(W:IsObj H wk "Walker" wd [("heap",.ref D.hp)])(fg:du "f" D.nodes*du "g" D.nodes<64)(l1:l "heap"=some (.ref D.hp))(l2:l "pattern"=some p)(l3:l "walker"=some (.ref wk))(k:∀l' H' G F B,(∀z,z∉["before","elder"]->l' z=l z)->l' "before"=some (.ref G)->l' "elder"=some (.ref F)->Ext H H'->H G=none->H' G=some (.list (ay D p))->H F=none->Home D H' F B->aq σ d rest l' H' K):aq σ d (.asg (.tg (.tp2 (.nm "before") (.nm "elder"))) (.tup (.cons (.meth (.var "walker") "found" (.cons (.var "pattern") .nil)) (.cons (.call "_law_lots" (.cons (.var "heap") .nil)) .nil)))::rest) l H K:=by refine(aa _ l3 (aa _ (aE W rfl T.Walker_found.some) (aa _ l2 ((wb T O (m:=3) (mG p hp).2.2.2 A W (wa fg (wV O.nz) p hp) λH2 G x2 J Z=>?_).room hd))));refine af ((zp (Q:=λv H3=>∃F B,v=.ref F/\Ext H2 H3/\H2 F=none/\Home D H3 F B) T (A.ext x2) O λH3 a as x h0 h=>(jh a as rfl x h0 h)).room (EL hd)) λf e c=>?_;refine(aa f e (aa _ l1 (c.mono λv H3 h=>ph h λF B ev Y P hE=>?_)));rw[ev];refine(aa _ rfl (k _ _ G F B (λz hz=>(aj _ _ λe=>hz (by rw[e];decide)).trans (aj _ _ λe=>hz (by rw[e];decide))) ((aj _ _ (by decide)).trans (ao _ _ _)) (ao _ _ _) (x2.trans' Y) J (Y _ _ Z) (eY x2 P) hE))
theorem zX(T:Txt σ)(hd:9<=d){fa:Addr}{y:Nat}{D:HD}(hp:p∈pats)(S:Mid H fa ca wk wd cs s D i)(hi:i<=3)(hy:y<10)(l1:l "feed"=some (.ref fa))(l2:l "heap"=some (.ref D.hp))(l3:l "walker"=some (.ref wk))(l4:l "pattern"=some p)(ll:l "lap"=some (iv y))(k:∀l' H' D',(∀z,z∉["before","elder"]->l' z=l z)->Mid H' fa ca wk wd cs (s+1+1) D' (i+1)->D'.hp=D.hp->aq σ d rest l' H' K) : aq σ d (.asg (.tg (.tp2 (.nm "before") (.nm "elder"))) (.tup (.cons (.meth (.var "walker") "found" (.cons (.var "pattern") .nil)) (.cons (.call "_law_lots" (.cons (.var "heap") .nil)) .nil)))::.expr (.meth (.var "heap") "merge" (.cons (.call "_law_pick" (.cons (.var "feed") (.cons (.meth (.var "heap") "size" .nil) .nil))) (.cons (.call "_law_pick" (.cons (.var "feed") (.cons (.meth (.var "heap") "size" .nil) .nil))) (.cons (.tup (.cons (.cst (.str "told")) (.cons (.bin .add (.cst (.str "m")) (.prim .str (.var "lap"))) .nil))) .nil))))::.expr (.meth (.var "heap") "settle" .nil)::.if1 (.not1 (.call "_law_is_kept" (.cons (.var "heap") (.cons (.var "pattern") (.cons (.var "before") (.cons (.var "elder") (.cons (.meth (.var "walker") "found" (.cons (.var "pattern") .nil)) .nil))))))) [.ret (.cst (.bool false))] []::rest) l H K:=by
 refine Cu T hd hp S.at_ S.ok S.w S.fg l2 l4 l3 λl3' H3 ba ea eas kk an ar cL Y ax Z hE=>?_;have B:=(kk "heap" (by decide)).trans l2;refine yk T hd (S.at_.ext cL) S.ok (S.feed.ext cL) S.sb hi S.pos S.M hy S.f1 ((kk _ (by decide)).trans l1) B ((kk _ (by decide)).trans ll) λH5 H6 D6 J F5 Q=>?_;obtain ad:D6.hp=D.hp:=Q.hp;refine iK (aW (.var (by rw[ad];exact B)) Q.at_.heap rfl T.Heap_settle.some .nil ((sA T Q.at_ Q.ok λH7 P G7 _=>⟨trivial,?_⟩).room (EM hd)));have F:=Q.trans G7;have fr:Frm H5 H7 D.adr P.adr:=F.frm;refine jg (F5.frm fr S.f1 S.f2) λF7 g1 g2=>?_;have w5:H5 wk=some (.inst "Walker" wd):=by rw[J _ S.n1.symm];exact cL _ _ S.w.o
 have av:H5 wd=some (.dict (fl [("heap",.ref D.hp)])):=by rw[J _ S.n2.symm];exact cL _ _ S.w.d
 have G:P.hp=D.hp:=F.hp;have W7:IsObj H7 wk "Walker" wd [("heap",.ref P.hp)]:=⟨(fr.keep w5 S.f3).1,by rw[G];exact(fr.keep av S.f4).1⟩;refine zY T hd hp F.at_ ⟨S.ok,F.ok,F.nodes,F.le⟩ W7 S.fg ⟨(fr.keep (by rw[J _ (am S.feed.f Z).symm];exact hE.o) (eZ S.at_ Z)).1,hE.nd,hE.mem⟩ (fr.keep (by rw[J _ (am S.feed.f Y).symm];exact ax) (eZ S.at_ Y)).1 (by rw[G];exact B) ((kk _ (by decide)).trans l4) an ar ((kk _ (by decide)).trans l3) λH9 O=>?_;exact k _ _ P kk ⟨F.at_.ext O,F.ok,by rw[(F.nodes:P.nodes=D.nodes)];exact S.fg,Nat.lt_of_lt_of_eq S.pos (j6 List.length F.nodes).symm,F7.ext O,Ox S.sb,Oz F.M S.M,W7.ext O,g1,g2,(fr.keep w5 S.f3).2,(fr.keep av S.f4).2,S.n1,S.n2⟩ G
theorem Bh(T:Txt σ){fa:Addr}{D:HD}(hp:p∈pats)(hd:9<=d)(B:Mid H fa ca wk wd cs s D 0)(hs:s<=68)(l1:l "feed"=some (.ref fa))(l2:l "heap"=some (.ref D.hp))(l3:l "walker"=some (.ref wk))(l4:l "pattern"=some p)(k:∀l' H',aq σ d rest l' H' K) : aq σ d (.for1 (.nm "lap") (.rng (.bin .add (.cst (.int 1)) (.call "_law_pick" (.cons (.var "feed") (.cons (.cst (.int 3)) .nil))))) [.asg (.tg (.tp2 (.nm "before") (.nm "elder"))) (.tup (.cons (.meth (.var "walker") "found" (.cons (.var "pattern") .nil)) (.cons (.call "_law_lots" (.cons (.var "heap") .nil)) .nil))),.expr (.meth (.var "heap") "merge" (.cons (.call "_law_pick" (.cons (.var "feed") (.cons (.meth (.var "heap") "size" .nil) .nil))) (.cons (.call "_law_pick" (.cons (.var "feed") (.cons (.meth (.var "heap") "size" .nil) .nil))) (.cons (.tup (.cons (.cst (.str "told")) (.cons (.bin .add (.cst (.str "m")) (.prim .str (.var "lap"))) .nil))) .nil)))),.expr (.meth (.var "heap") "settle" .nil),.if1 (.not1 (.call "_law_is_kept" (.cons (.var "heap") (.cons (.var "pattern") (.cons (.var "before") (.cons (.var "elder") (.cons (.meth (.var "walker") "found" (.cons (.var "pattern") .nil)) .nil))))))) [.ret (.cst (.bool false))] []]::rest) l H K:=by
 refine af ((kr (Q:=λv H'=>∃j,v=iv j/\j<3/\Only fa H H'/\Feed H' fa ca cs (s+1)) T B.feed (Og hs) (m:=3) (by decide) λH' j P o f=>(iN j rfl P o f)).room (d':=d) (EK hd)) λf e c=>?_;refine(aa f e (aa _ l1 (c.mono ?_)));rintro _ H1 ⟨j,rfl,P,o1,F1⟩;refine(iN (1+(j:Int)) rfl Oh (Oi P) ?_);rw[show(1+(j:Int)).toNat=1+j by exact Oj,qi];refine dl (src:=none) (λxs l' H'=>(∀y,y∉["lap","before","elder"]->l' y=l y)/\∃D' s' i,i<=3/\Mid H' fa ca wk wd cs s' D' i/\D'.hp=D.hp/\(∃rem:List Nat,xs=rem.map iv/\rem.length+i=1+j/\∀y∈rem,y<10)) (λ_ _ _ _=>trivial) (λv xs l' H' k' h hk=>?_) (λl' H' h=>k l' H') _ _ _
  ⟨λ_ _=>rfl,(md D (s+1) 0 Om (⟨B.at_.only o1 B.f1,B.ok,B.fg,B.pos,F1,by exact On hs,B.M,⟨by rw[o1 _ B.n1.symm];exact B.w.o,by rw[o1 _ B.n2.symm];exact B.w.d⟩,B.f1,B.f2,B.f3,B.f4,B.n1,B.n2⟩) rfl (bb (List.range (1+j)) rfl (by simp) (λy hy=>by obtain Z:=j9.mp hy;exact Oo Z P)))⟩
 refine bQ h λkeep aP=>?_;refine rV aP λD1 s1 i ad S J bx=>?_;refine cL bx λrem ex G F=>?_;rcases rem with _|⟨y,rem⟩
 ·exact(o9 _ _ ex).elim
 ·obtain⟨rfl,rfl⟩:=J1 ex;rw[List.length_cons]at G;have Y:∀z,z∉["lap","before","elder"]->(l'.put "lap" (iv y)) z=l z:=λz hz=>(aj _ _ λe=>hz (by rw[e];decide)).trans (keep z hz);refine(aa _ rfl (zX T hd hp S ad (F y d6) ((Y _ (by decide)).trans l1) ((Y _ (by decide)).trans (J▸l2)) ((Y _ (by decide)).trans l3) ((Y _ (by decide)).trans l4) (ao _ _ _) λl3 H9 D7 kk S7 O=>hk _ _ ⟨λz hz=>(kk z λh=>hz (.tail _ h)).trans (Y z hz),(md D7 _ (i+1) (Ow G P) S7 (O.trans J) (bb rem rfl (Oy G) (λz hz=>F z (d7 _ hz))))⟩))
end
end
theorem w_law(T:Txt σ)(hg:σ.gv "_law_patterns"=some (.tup pats))(H:AH):aq σ 9 m_law.body (bf m_law.params [.scr]) H (mO λv _=>v=.bool true):=by
 refine Be rfl λH1 fa ca cs x1 F1=>?_;refine Bg T (by decide) λH2 D x2 A2 O2 hn2 hM2 F=>?_;obtain F2:=F1.ext x2;have O:fa∉D.adr:=λh=>by have:=F _ h;rw[F1.f]at this;exact sn this
 obtain hca:ca∉D.adr:=λh=>by obtain this:=F _ h;rw[F1.c]at this;exact sn this
 refine af ((kr (Q:=λv H'=>∃j,v=iv j/\j<7/\Only fa H2 H'/\Feed H' fa ca cs (0+1)) T F2 OA (m:=7) (by decide) λH' j hj o f=>(iN j rfl hj o f)).room (d':=9) OB) λfp ep cp=>?_;refine(aa _ hg (aa fp ep (aa _ rfl (cp.mono ?_))));rintro _ H3 ⟨j,rfl,hj,o3,F3⟩;have hpl:pats.length=7:=rfl;obtain⟨p,hp⟩:∃p,pats[j]?=some p:=⟨_,w1 (OC hpl hj)⟩;have hpm:p∈pats:=g9 hp;refine(jh (j:Int) p rfl (by rw[Int.natAbs_natCast];exact m4 hj (by decide)) ?_ (aa _ rfl ?_))
 ·obtain this:=ro id pats hp;rw[List.map_id]at this;exact this
 obtain A3:=A2.only o3 O;refine Bf T (by decide) A3 O2 hn2 F3 OD O hca rfl rfl λl4 H4 J s4 i S h4 h6 ehp eM keep=>?_;have kh:l4 "heap"=some (.ref J.hp):=by rw[keep _ (by decide),ehp];rfl
 refine(aa _ kh (aa _ (aE S.at_.heap rfl T.Heap_settle.some) ((sA T S.at_ S.ok λH5 G B _=>⟨trivial,?_⟩).room OE)));refine jg (S.feed.frm B.frm S.f1 S.f2) λF5 g1 g2=>?_;obtain P:G.hp=J.hp:=B.hp;have an:l4 "heap"=some (.ref G.hp):=by rw[P];exact kh
 refine vF T (by decide) an λH6 wk wd x6 W ad Z=>?_;obtain Y:=S.sb;obtain n5:G.nodes=J.nodes:=B.nodes;obtain n5':G.n=J.n:=j6 List.length n5;refine Bh T (s:=s4) (D:=G) (p:=p) hpm (by decide) ⟨B.at_.ext x6,B.ok,by rw[n5];exact S.lap.FG h6,by rw[n5'];exact S.pos (OF h4),F5.ext x6,by exact OG Y h6,?_,W,g1,g2,eZ B.at_ ad,eZ B.at_ Z,am F5.f ad,am F5.f Z⟩ (OH Y h6)
  ((aj _ _ (by decide)).trans ((keep _ (by decide)).trans rfl)) ((aj _ _ (by decide)).trans an) (ao _ _ _) ((aj _ _ (by decide)).trans ((keep _ (by decide)).trans rfl)) λl7 H7=>?_
 ·obtain this:G.M=J.M:=B.M;exact OI eM this hM2
 ·exact rfl
section
variable{fd:FuncData}
theorem pi:∀{names:List Str}{vals:List Value},vals.length=names.length->∀n∈names,((names.zip vals).lookup n).isSome=true
 |a::names,v::vals,hl,n,h=>by
  rw[List.zip_cons_cons,List.lookup_cons];by_cases e:n=a
  ·rw[beq_iff_eq.mpr e];rfl
  ·rw[beq_false_of_ne e];exact pi (w2 hl) n ((i8.mp h).resolve_left e)
theorem nw{f g:α->Option β}{l:List α}(h:∀x∈l,f x=g x):l.filterMap f=l.filterMap g:=by
 induction l with
 |nil=>rfl
 |cons a l F=>rw[List.filterMap_cons,List.filterMap_cons,h a List.mem_cons_self,F λx B=>h x (List.mem_cons_of_mem _ B)]
theorem pI:∀{names:List Str}{vals:List Value},names.Nodup->vals.length=names.length->(names.filterMap λn=>((names.zip vals).lookup n).map (n,·))=names.zip vals:=by
 intro names;induction names with
 |nil=>exactλ_ _=>rfl
 |cons a names F =>
  intro vals nd hl;rcases vals with _|⟨v,vals⟩
  ·exact nomatch hl
  ·have nd:=y0.mp nd;obtain e1:(((a,v)::names.zip vals).lookup a)=some v:=by rw[List.lookup_cons,beq_self_eq_true]
   rw[List.zip_cons_cons,List.filterMap_cons,e1];refine j6 ((a,v)::·) ((nw λn B=>?_).trans (F nd.2 (w2 hl)));rw[List.lookup_cons,beq_false_of_ne λe:n=a=>nd.1 (e▸B)]
theorem xO{name qn:Str}{body:FuncBody}{gl:Addr}{cl:List (Str×Addr)}{Z G pm:Value}{P:Option Addr}{code Q:Value}{bi:Addr}{B:List Arg}{J:List (Option Expr)}{F:List Expr}{vals:List Value}(hl:vals.length=(B.map Arg.arg).length)(m0:(((B.map Arg.arg).take (B.map Arg.arg).length).filter λn=>(((B.map Arg.arg).zip vals).lookup n).isNone)=[])(Y:((B.map Arg.arg).filterMap λn=>(((B.map Arg.arg).zip vals).lookup n).map (n,·))=(B.map Arg.arg).zip vals) : bindArgs ⟨name,qn,⟨[],B,none,[],J,none,F⟩,body,sc,gl,cl,.none,Z,G,pm,P,code,Q,bi⟩ ⟨vals,[]⟩=pure ((B.map Arg.arg).zip vals):=by
 obtain O:∀k,List.drop k ((none:Option (Array Value)).getD #[]).toList=[]:=λk=>List.drop_nil;refine(if_neg (λz=>?_)).trans ?_
 ·obtain z:=f8 (p9 _ _ |>.mp z).1;exact M1 _ (hl▸z)
 refine(if_neg (λz=>?_)).trans ?_
 ·rw[O]at z;exact n7 ((j6 (λl:List Str=>!l.isEmpty) m0).symm.trans z)
 rw[O,List.zip_nil_right];exact Eq.trans (b:=(pure (List.filterMap (λn=>Option.map (λx=>(n,x)) (List.lookup n ((List.map Arg.arg B).zip vals))) (List.map Arg.arg B++[])):Sem (List (Str×Value)))) (by rfl) (by rw[List.append_nil,Y])
theorem sv{names:List Str}(O:fd.params.posonlyargs.isEmpty=true)(P:fd.params.args.map Arg.arg=names)(Q:fd.params.vararg.isNone=true)(Y:fd.params.kwonlyargs.isEmpty=true)(Z:fd.params.kwarg.isNone=true)(h6:fd.defaults=.none)(nd:names.Nodup){vals:List Value}(hl:vals.length=names.length):bindArgs fd ⟨vals,[]⟩=pure (names.zip vals):=by obtain⟨name,qn,⟨po,ar,va,ko,kdf,kw,G⟩,body,sc,gl,cl,F,kd,J,pm,an,code,ct,bi⟩:=fd;cases(show po=[]from B0.mp O);cases(show va=none from E5.mp Q);cases(show ko=[]from B0.mp Y);cases(show kw=none from E5.mp Z);cases(show F=.none from h6);subst P;refine xO hl ?_ (pI nd hl);rw[List.take_length,List.filter_eq_nil_iff];intro n hn z;obtain B:=pi hl n hn;rw[Option.isNone_iff_eq_none.mp z]at B;exact ag B
theorem zM{d:Data}(h:Hl d=some fd):d=.func fd:=by cases d <;> first|exact jD h|exact j6 Data.func (c9 h)
theorem Bj{d:Data}{vs:Array Value}(h:Pe d=some vs):∃n,d=.seq vs n:=by cases d <;> first|exact jD h|exact⟨_,j6 (Data.seq · _) (c9 h)⟩
theorem zI{d:Data}{vs:Array Value}(h:Hk d=some vs):d=.fields vs:=by cases d <;> first|exact jD h|exact j6 Data.fields (c9 h)
theorem tV{v:Value}{s:Str}(h:Gv v=some s):∃t,v=.str s t:=by cases v <;> first|exact jD h|exact⟨_,j6 (Value.str · _) (c9 h)⟩
theorem tF{v:Value}{s:Addr}(h:AR v=some s):v=.ref s:=by cases v <;> first|exact jD h|exact j6 Value.ref (c9 h)
theorem EY{x:Option α}{f:α->Option β}{b:β}(h:x.bind f=some b):∃a,x=some a/\f a=some b:=by
 rcases x with _|a
 ·exact jD h
 ·exact(aa a rfl h)
theorem uE{m:MFun}{b:FuncBody}(h:zl fd m b=true):∃ys,b=.stmts ys/\iP fd.scope.names m.body ys=true:=by
 cases b with
 |stmts ys=>exact(aa ys rfl h)
 |expr _=>exact ag h
theorem Fq{k:Option NameKind}(h:Cs false k=true):k=some .local\/k=some .cell:=by
 rcases k with _|k
 ·exact ag h
 ·cases k <;> first|exact ag h|exact .inl rfl|exact .inr rfl
theorem Ct{k:NameKind}(h:Cs true (some k)=true):k≠.free:=by rintro rfl;exact ag h
theorem yS{v:Value}(h:ES v=true):v=.none:=by cases v <;> first|exact ag h|rfl
theorem zy{K:Frag}(X:K.In h){q:Str}{v:Value}(e:GY K v=some q):h.CodeRec v q:=by refine af (EY e) λc hc e=>?_;refine af (EY e) λo B e=>?_;refine af (EY e) λvs hv e=>?_;refine af (EY e) λx F e=>?_;refine bR (tV e) λt e=>?_;exact(Rt c o vs t (tF hc) (X _ _ B) (zI hv) (F.trans (j6 some e)))
theorem Cj{K:Frag}(X:K.In h){a:Addr}(e:Ci K a=some fd):∃o,h.get? a=some o/\o.data=.func fd :=(EY e).elim λo e=>(aa o (X _ _ e.1) (zM e.2))
theorem jn:∀{l:List String},l.Nodup->(l.map Str.ofString).Nodup:=λ{l} h=>L6.mpr (L4 (λB e=>B (aZ e)) h)
theorem nb{b:Bool}(h:(!b)=true):b=false:=by cases b;rfl;exact ag h
theorem fnAt_of(X:σ.K.In σ.base){a:Addr}{m:MFun}(e:Ck σ.K a m=true):∃fd,FnAt σ a fd m.params m.body:=by
 have e:(match Ci σ.K a with|some fd=>zK σ.K fd m|none=>false)=true:=e;rcases F:Ci σ.K a with _|fd
 ·rw[F]at e;exact ag e
 ·rw[F]at e;have e:zK σ.K fd m=true:=e;obtain e1:=and_t e;obtain e2:=and_t e1.2;obtain Z:=and_t e2.2;obtain e4:=and_t Z.2;obtain e5:=and_t e4.2;obtain e6:=and_t e5.2;obtain e7:=and_t e6.2;have e8:=and_t e7.2;obtain e9:=and_t e8.2;obtain G:=and_t e9.2;obtain J:=and_t G.2;obtain O:=and_t J.2;obtain P:=and_t O.2;have B:=and_t P.2;obtain Q:=and_t B.2;obtain Y:=and_t Q.2;exact⟨fd,Cj X F,zy X (f8 Y.2),uE e1.1,B0.mp e2.1,u5 Z.1,u5 e4.1,nb e5.1,nb e6.1,f8 e7.1,
   λvals hl=>sv e8.1 (f8 e9.1) G.1 J.1 O.1 (yS P.1) (jn (f8 B.1)) (hl.trans (j8 (f:=Str.ofString)).symm),
   f8 B.1,λp hp=>Fq (q5.mp Q.1 p hp),λx hx=>Ct (q5.mp Y.1 x hx)⟩
theorem yO{K:Frag}{a:Addr}{cvs:Array Value}(h:xx K a=some cvs):∃o:Obj,K.lookup a=some o/\o.cls=.type "tuple"/\∃m,o.data=.seq cvs m:=by
 refine af (EY h) λo B e=>?_;by_cases hc:o.cls=.type "tuple"
 ·rw[if_pos hc]at e;exact(bb o B hc (Bj e))
 ·rw[if_neg hc]at e;exact jD e
end
section
variable{K:Frag}{base:Heap}{sad:Addr}{X:Addr->Prop}
mutual
theorem xz(I:K.In base)(hX:∀b,X b->base.get? b=none):∀(v:V)(c:Value),Dt K v c=true->VR ⟨sad,X⟩ base v c
 | .str _,_,e=>(tV (f8 e)).elim λn e=>⟨n,e⟩
 | .tup vs,c,e=>by
  have e:(match(AR c).bind (xx K)with|some cvs=>xA K vs cvs.toList|none=>false)=true:=e;rcases h:(AR c).bind (xx K)with _|cvs
  ·rw[h]at e;exact ag e
  ·rw[h]at e;refine af (EY h) λa F h=>?_;refine cL (yO h) λo G hc aP=>?_;refine bR aP λm hd=>?_;obtain B:=I _ _ G;exact(md a cvs _ (tF F) (λx=>nn (hX a x) B) (bb o B hc hd) (uh I hX vs cvs.toList e))
 | .none,_,e=>ag e
 | .scr,_,e=>ag e
 | .bool _,_,e=>ag e
 | .int _,_,e=>ag e
 | .ref _,_,e=>ag e
theorem uh(I:K.In base)(hX:∀b,X b->base.get? b=none):∀(vs:List V)(cs:List Value),xA K vs cs=true->VRs ⟨sad,X⟩ base vs cs
 | [],_,e=>B0.mp e
 |v::vs,cs,e=>by
  rcases cs with _|⟨c,cs⟩
  ·exact ag e
  ·obtain e:=and_t e;exact(bc c cs rfl (xz I hX v c e.1) (uh I hX vs cs e.2))
end
theorem ze{x:Option (Option Value)}{f:Option Value->Bool}(e:GU x f=true):∃a,x=some a/\f a=true:=by
 rcases x with _|a
 ·exact ag e
 ·exact(aa a rfl e)
theorem zH{C:Addr}{n:Str}(e:DF K C n=true):FldOK K C n :=
 have e1:=and_t e;have e2:=and_t e1.2;have B:=and_t e2.2;have F:=and_t B.2;have G:=and_t F.2
 ⟨e1.1,e2.1,ze B.1,f8 F.1,G.1,f8 G.2⟩
theorem refCk_ok{v:Option (Option Value)}{f:Addr}(e:lP v f=true):v=some (some (.ref f)):=f8 e
theorem wo{f:Addr}(e:Cl K f=true):typeIn K (.ref f)=some (.type "function"):=f8 e
theorem Cq{f:Addr}(e:Cl K f=true):isFn K (.ref f)=true:=by unfold isFn;rw[wo e];rfl
theorem Ah{C:Addr}{n:Str}{f:Addr}(e:DN K C n f=true):MthOK K C n f:=by obtain e1:=and_t e;obtain e2:=and_t e1.2;obtain B:=and_t e2.2;exact⟨e1.1,refCk_ok e2.1,Cq B.1,B.2⟩
theorem CA{C f:Addr}(e:Hy K C f=true):MkOK K C f:=by obtain e1:=and_t e;obtain e2:=and_t e1.2;obtain B:=and_t e2.2;exact⟨e1.1,refCk_ok e2.1,wo B.1,B.2⟩
theorem yv{v:Option (Option Value)}(e:Aj v=true):v=some none:=f8 e
theorem vh{x:Option Addr}{f:Addr->Bool}{a:Addr}(h:QV x f=true)(e:x=some a):f a=true:=by subst e;exact h
noncomputable def sxOf(prog:Program)(w:World)(K:Frag)(base:Heap)(sad:Addr)(svs:List Int)(t:Tbl)(gx:String)(gval:V):Sx :=⟨prog,w,K,base,sad,svs,λf=>t.fn.lookup f,λc m=>t.meth.lookup (c,m),λc=>t.cls.lookup c,λx=>if x=gx then some gval else none,λc=>(t.flds.lookup c).getD []⟩
theorem QW{b:Bool}(h:(!decide ("__init__"="__init__")||b)=true):b=true:=h
theorem cxOK_of{svs:List Int}{t:Tbl}{gx:String}{gval:V}{ga:Addr}{mg mb:Str->Option Value}{cvs:Array Value}(I:K.In base)(G:base.Ns mainGlobals mg)(B:base.Ns builtinsNs mb)(nl:base.NoLimit)(sy:∃o,base.get? sysModules=some o)(hb:∀x:Str,x≠"__name__"->mb x=bootBuiltins x)(k1:DG K t=true)(k2:DC K t=true)(Z:Ae K t=true)(k4:zJ K t=true)(k5:DB K=true)(k6:lP (nsIn K mainGlobals (Str.ofString gx)) ga=true)(k7:Dt K gval (.ref ga)=true)(Y:base.IsList sad cvs)(hI:IntsAre cvs.toList svs)(hz:cvs.size<=sizeLine)(F:∀p∈bL,Str.ofString p.1≠"__name__"/\bootBuiltins (Str.ofString p.1)=some p.2):CxOK (sxOf prog w K base sad svs t gx gval):=by
 refine⟨I,λc C f O J=>?_,λc C m a O J=>Ah (and_t (vh (q5.mp Z _ (fN J)) O)).1,λc C f O J=>CA (QW (and_t (vh (q5.mp Z _ (fN J)) O)).2),nl,
  (Py mg mb G B (λf a h=>have e:=and_t (q5.mp k1 _ (fN h));⟨mg_of I G (refCk_ok e.1),e.2⟩) (λc C h=>mg_of I G (refCk_ok (q5.mp k2 _ (fN h)))) (λx v h=>?_) (λp hp=>⟨mg_none_of I G (yv (q5.mp k5 p hp)),(hb _ (F p hp).1).trans (F p hp).2⟩)),sy,(aa cvs Y hI),λQ h'=>?_⟩
 ·have J:f∈(t.flds.lookup c).getD []:=J;rcases P:t.flds.lookup c with _|fs
  ·rw[P]at J;exact absurd J i6
  ·rw[P]at J;exact zH (q5.mp (vh (q5.mp k4 _ (fN P)) O) f J)
 ·have h:(if x=gx then some gval else none)=some v:=h;by_cases e:x=gx
  ·rw[if_pos e]at h;obtain rfl:=c9 h;rw[e];exact(aa _ (mg_of I G (refCk_ok k6)) (λX hX=>xz I hX _ _ k7))
  ·rw[if_neg e]at h;exact jD h
 ·obtain⟨o,a1,a2,n,a3⟩:=h';refine cL Y λo2 b1 b2 bK=>?_;refine bR bK λn2 b3=>?_;cases sm (show base.get? sad=some o from a1) b1;cases a3.symm.trans b3;exact hz
end
theorem callTop(C:CxOK σ){f:Addr}{fd:FuncData}{ps:List String}{ms:List MS}(X:FnAt σ f fd ps ms){H:AH}{Q:V->AH->Prop}{d:Nat}(hl:vs.length=ps.length)(h:aq σ d ms (bf ps vs) H (λfl _ H'=>match fl with | .ret v=>Q v H' | .next=>Q .none H')){P:Addr->Prop}{hX:∀b,P b->σ.base.get? b=none}{A:Around}{s:Shared}{cvs:List Value}(hr:Room A (d+1))(R:Rel ⟨σ,P,hX⟩ H s.heap)(J:σ.base.objs.size<=s.heap.objs.size)(V:VRs ⟨σ.sad,P⟩ s.heap vs cvs):codeAny (model σ.prog σ.w) A (.call (.ref f) ⟨cvs,[]⟩) (CRes ⟨σ,P,hX⟩ H s Q) s:=by
 let Γ:Cx:=⟨σ,P,hX⟩
 refine af X.obj λo ho hd=>?_;refine af X.body λys Z ad=>?_;obtain an:cvs.length=ps.length:=by rw[<- hl];exact VRs.length V
 obtain ar:∀b,s.heap.objs.size<=b->s.heap.get? b=none:=λb Z=>i9 Z;have F:∀x,(fd.scope.names.lookup x=some .cell)->∀n,((cellsFrom n fd.scope.names []).lookup x).isSome=true:=λx hx n=>dL _ _ _ _ (mem_of_lookup hx);refine codeAny_call_cells (binds:=(ps.map Str.ofString).zip cvs) (by obtain B:=hr.2.1;exact OM B) (R.base _ _ ho) hd (C.nolim.keeps R.base) (X.cd.keeps R.base) Z (X.bind cvs an) X.clo (λx hx=>?_) (λs₁ I=>?_) X.co X.gen X.kind
 ·obtain hm:=(N5 hx).1;refine af (b9.mp hm) λp hp e=>?_;rcases X.kp p hp with k|k
  ·exact .inl (by rw[<- e];exact k)
  ·exact .inr ⟨by rw[<- e];exact k,by rw[<- e];exact F _ k _⟩
 ·refine rY I.toInCall.same λh₁ tk e1=>?_;have S1:Step Γ dZ H H s s₁:=Step.grow R (by rw[e1]) (by rw[e1]) I.toInCall.keep;have above:∀n c,(callEnvC fd s.heap.objs.size f).cells.lookup n=some c->s.heap.get? c=none:=λn c e=>ar c (j7 (d9 I.toInCall.fresh (I.above n c (mem_of_lookup e))));have G:s.heap.get? (callEnvC fd s.heap.objs.size f).locals=none:=ar _ I.toInCall.fresh;have J:Γ.base.objs.size<=s.heap.objs.size:=J;have F1:Frame Γ (callEnvC fd s.heap.objs.size f) (bf ps vs) H s₁.heap:=by
   refine⟨X.kind,X.glob,X.blt,(aa _ I.toInCall.ns (λx v e k=>?_)),(R.free G).1,(R.free G).2,b8 J I.toInCall.fresh,λn c e=>⟨(R.free (above n c e)).1,(R.free (above n c e)).2,_,I.cell n c e⟩,λx v e k=>?_,λn k=>?_,I.apart⟩
   ·refine cL (jJ (kindOf:=(callEnvC fd s.heap.objs.size f).kindOf) X.nodup V e) λcv h1 Y _=>?_;exact(aa cv (Y k _) (h1.keep S1.tup))
   ·refine cL (jJ (kindOf:=(callEnvC fd s.heap.objs.size f).kindOf) X.nodup V e) λcv h1 _ Y=>?_;rcases k with k|k
    ·refine bR (w3.mp (F _ k (s.heap.objs.size+1))) λc hc=>?_;refine(bc c cv hc ?_ (h1.keep S1.tup));obtain B:=I.cell _ c hc;rwa [Y (by rw[k];simp)]at B
    ·exact absurd rfl (X.nofree _ (mem_of_lookup k))
   ·rcases k with k|k
    ·exact w3.mp (F _ k _)
    ·exact absurd rfl (X.nofree _ (mem_of_lookup k))
  obtain hr':Room (A.deeper (callEnvC fd s.heap.objs.size f)) d:=(da hr.1 (by obtain B:=hr.2.1;exact ON B) (by obtain B:=hr.2.2;exact OO B));refine d8 (Rm ot qO ms (Γ:=Γ) C ad F1 S1.rel hr' h) (λfl s2 Y=>?_) λ_ _ e=>e.elim;refine rV Y λfl' l2 H2 hk O F2 S2=>?_;have S:Step Γ dZ H H2 s s2:=((S1.weaken (own':=dw (callEnvC fd s.heap.objs.size f)) λb h=>h.elim).trans S2).fresh λb Z=>.inr (Z.elim (λe=>e▸G) λ⟨n,e⟩=>above n b e);rcases fl' with _|v
  ·cases fl with
   |next=>exact(bc .none H2 hk VR.none' S)
   |_=>exact O.elim
  ·cases fl with
   |ret c=>exact(bc v H2 hk O S)
   |_=>exact O.elim
noncomputable def S0(w:World)(os:OsState):Shared:=⟨boot_heap w.params,#[],boot_drawn,boot_toks,os⟩
theorem QX(w:World)(os:OsState):topGo treeTable vn w 11 (some (.ref 6)) 12 (S0 w os) (topStub vn)=some ((Sa w os).abs,⟨denote treeTable BO,BO,q0,[topFrame q0]⟩):=by kernel_rfl
theorem EX(w:World)(os:OsState):segRun treeTable vn w 11 (some (.ref 6)) 1 1 (Sa w os).abs (blockOf zk Fm BO q0 [topFrame q0])=some (.next,(Sa w os).abs,BO,q0):=by kernel_rfl
theorem PH(w:World)(s:Shared)(p:Pos):topRun treeTable vn w 11 (some (.ref 6)) 2 s ⟨doneF .next,BO,p,[topFrame q0]⟩=some s:=by kernel_rfl
theorem Cw{p q:Program}{loose:List Str}{Xt Yf:Shared->Bool}{N:Nat}{H₀:Params->Heap}{B:Drawn}{F:Nat}{J:Nat}{P:Option Value}{M:Nat}(O:∀w:World,(fencedOpening treeTable p w N).map (λs=>(s.heap,s.gens,s.drawn,s.toks))=some (H₀ w.params,#[],B,F))(size:∀w:World,((H₀ w.params).isNs mainGlobals&&(#[]:Array GenState).size==0,(H₀ w.params).objs.size,(H₀ w.params).nsMap mainGlobals "__annotations__")=(true,J,P))(Q:∀(w:World)(os:OsState),∃r,topRun treeTable p w J P M ⟨H₀ w.params,#[],B,F,os⟩ (topStub p)=some r/\vc p q loose Xt Yf (H₀ w.params) r=(true,openGood q loose,true))(le:M<=N):LeftO p q loose Xt Yf (λ_=>true) N:=λw=>by
 obtain⟨⟨h,gs,d,k,os⟩,e,e'⟩:=m5.mp (O w);obtain⟨rfl,rfl,rfl,rfl⟩:h=H₀ w.params/\gs=#[]/\d=B/\k=F:=by injection e' with a b;injection b with b c;injection c with c d;exact⟨a,b,c,d⟩
 obtain Y:=j6 (·.1) (size w);obtain Z:=j6 (·.2.1) (size w);obtain z3:=j6 (·.2.2) (size w);obtain⟨G,r,l⟩:=Q w os;obtain l1:=j6 (·.1) l;obtain r:=topRun_mono (N-M) _ _ _ _ r;rw[Nat.add_sub_cancel' le]at r;have t:topFrom treeTable p w N ⟨H₀ w.params,#[],d,k,os⟩=some G:=by unfold topFrom;dsimp only at Y Z z3 ⊢;rw[Y,Z,z3,r];show(match staticsOk (importedModules p.main.body) (H₀ w.params) G.heap&&namesBound p G.heap&&gensDone G&&laidKept (H₀ w.params) G.heap with|true=>_|false=>_)=_;rw[show(staticsOk (importedModules p.main.body) (H₀ w.params) G.heap&&namesBound p G.heap&&gensDone G&&laidKept (H₀ w.params) G.heap)=true from l1]
 unfold openEnds;rw[e];show(topFrom treeTable p w N _).map _=_;rw[t];exact j6 some (j6 (·.2) l)
theorem OT:∀w:World,(fencedOpening treeTable vn w 6352).map (λs=>(s.heap,s.gens,s.drawn,s.toks))=some (boot_heap w.params,#[],boot_drawn,boot_toks):=boot_open rfl rfl λ_=>rfl
theorem Pf(w:World):((boot_heap w.params).isNs mainGlobals&&(#[]:Array GenState).size==0,(boot_heap w.params).objs.size,(boot_heap w.params).nsMap mainGlobals "__annotations__")=(true,11,some (.ref 6)):=by kernel_rfl
theorem GH{os:OsState}{s:SharedT}{p:Pos}(h:PJ w os=some (.next,s,BO,p)):topRun treeTable vn w 11 (some (.ref 6)) (12+(1+(3140+2))) (S0 w os) (topStub vn)=some s.abs:=by refine go_top (QX w os) (piece_block (EX w os) ?_);obtain B:=piece_app (rest:=[]) (segRun_of h) (piece_nil (PH w s.abs p));rw[List.append_nil]at B;exact B
set_option tactic.hygienic true
theorem left4:LeftO vn q4 [] X4 H4.obs H4.val 6352:=Cw OT Pf (λw os=>by obtain⟨⟨f,s,c,p⟩,h,e⟩:=m5.mp (Fv w os);have e1:f=.next:=j6 (·.1) e;have e2:c=BO:=j6 (·.2.1.1) e;subst e1 e2;exact⟨s.abs,GH h,j6 (·.2.2) e⟩) (by decide)
theorem boot_ok:∀p∈bL,Str.ofString p.1≠"__name__"/\bootBuiltins (Str.ofString p.1)=some p.2:=by intro p hp;simp only[bL,List.mem_cons,List.not_mem_nil,or_false]at hp;rcases hp with rfl|rfl|rfl|rfl|rfl|rfl|rfl|rfl|rfl|rfl|rfl|rfl|rfl|rfl <;> exact⟨by decide +kernel,by kernel_rfl⟩
section
variable(X:σ.K.In σ.base)(e:(sO.all λx=>Ck σ.K x.1 x.2)=true)
include X e
theorem aB{c m:String}{f:Addr}{x:MFun}(i:Nat)(hi:sO[i]?=some (f,x))(h:σ.meth c m=some f):HasM σ c m x :=(fnAt_of X (q5.mp e _ (g9 hi))).elim λfd k=>⟨f,fd,h,k⟩
theorem gd{n:String}{f:Addr}{x:MFun}(i:Nat)(hi:sO[i]?=some (f,x))(h:σ.fn n=some f):qA σ n x :=(fnAt_of X (q5.mp e _ (g9 hi))).elim λfd k=>⟨f,fd,h,k⟩
end
theorem txt04{K:Frag}{base:Heap}{sad:Addr}{svs:List Int}(X:K.In base)(e:(sO.all λx=>Ck K x.1 x.2)=true)(C:CxOK (sxOf prog w K base sad svs t04 "_law_patterns" (.tup pats))):Txt (sxOf prog w K base sad svs t04 "_law_patterns" (.tup pats)) where
 ok:=C
 fHeap:=rfl
 fBank:=rfl
 fUnions:=rfl
 fWalker:=rfl
 is_op:=gd X e 0 rfl rfl
 is_variable:=gd X e 1 rfl rfl
 Bank_init:=aB X e 7 rfl rfl
 Bank_size:=aB X e 8 rfl rfl
 Bank_take:=aB X e 9 rfl rfl
 Bank_require:=aB X e 10 rfl rfl
 Bank_op:=aB X e 11 rfl rfl
 Bank_kids:=aB X e 12 rfl rfl
 Walker_init:=aB X e 13 rfl rfl
 Walker_extended:=aB X e 14 rfl rfl
 Walker_found_in:=aB X e 15 rfl rfl
 Walker_found:=aB X e 16 rfl rfl
 Unions_init:=aB X e 17 rfl rfl
 Unions_make:=aB X e 18 rfl rfl
 Unions_size:=aB X e 19 rfl rfl
 Unions_find:=aB X e 20 rfl rfl
 Unions_merge:=aB X e 21 rfl rfl
 Unions_members:=aB X e 22 rfl rfl
 Unions_classes:=aB X e 23 rfl rfl
 Heap_init:=aB X e 24 rfl rfl
 Heap_size:=aB X e 25 rfl rfl
 Heap_node:=aB X e 26 rfl rfl
 Heap_add:=aB X e 27 rfl rfl
 Heap_put:=aB X e 28 rfl rfl
 Heap_look_at:=aB X e 29 rfl rfl
 Heap_find:=aB X e 30 rfl rfl
 Heap_merge:=aB X e 31 rfl rfl
 Heap_join:=aB X e 32 rfl rfl
 Heap_settle:=aB X e 33 rfl rfl
 Heap_classes:=aB X e 34 rfl rfl
 Heap_members:=aB X e 35 rfl rfl
 Heap_nodes_of:=aB X e 36 rfl rfl
 law_pick:=gd X e 2 rfl rfl
 law_tree:=gd X e 3 rfl rfl
 law_lots:=gd X e 4 rfl rfl
 law_below:=gd X e 5 rfl rfl
 law_is_kept:=gd X e 6 rfl rfl
 cBank:=⟨_,rfl⟩
 cUnions:=⟨_,rfl⟩
 cHeap:=⟨_,rfl⟩
 cWalker:=⟨_,rfl⟩
noncomputable def lawD:=(defOf q4 (Str.ofString "law")).get rfl
end Mine
set_option tactic.hygienic true
set_option maxHeartbeats 8000000 in
theorem PySem.Challenge.cw_pq0056_04_holds : PySem.Challenge.rw_pq0056_04.Holds := by
 refine holds_law (by kernel_rfl) λsaid=>?_;refine holds_open (d:=Mine.lawD.1) (kwd:=Mine.lawD.2) (q:=Mine.q4) (loose:=[]) (Xt:=Mine.X4) (XP:=XL Mine.q4 []) (Yf:=Mine.H4.obs) (Ya:=Mine.H4.val) (YP:=Mine.H4.says) (N:=6352) Mine.left4 Mine.H4.of Mine.H4.keeps (λs e=>xl_of s (Bool.and_eq_true_iff.mp e).1) XL.keeps (by rfl) (by rfl) (by rfl) (λs e=>recFacts_of (Bool.and_eq_true_iff.mp e).2) (by rfl) said (by decide +kernel) ⟨rfl,rfl,rfl,rfl,rfl,by decide +kernel⟩ ?hw ?hc
 case hw=>w_witness2
 intro w s₀ s₁ mg mb G Y fa o pm cd doc dV kV ho hd hcd hD hmg hg args vals as hpre hlay hrd hwl hlo;obtain⟨K,KX,ck⟩:=Y;have c1:=Mine.and_t ck;have c2:=Mine.and_t c1.2;have c3:=Mine.and_t c2.2;have c4:=Mine.and_t c3.2;have c5:=Mine.and_t c4.2;have c6:=Mine.and_t c5.2;have c7:=Mine.and_t c6.2;have c8:=Mine.and_t c7.2;refine Ground.open G ?_;intro T B D TE TW;have efa:fa=496:=by
  have:=mg_of KX T.g (Mine.refCk_ok c8.2)
  have hmg:mg (Str.ofString "law")=some (.ref fa):=hmg;rw[this]at hmg;cases hmg;rfl
 subst efa
 wrow_args hpre hlay hrd hwl hlo
 all_goals (
  refine enter_call ?_
  w_top on
  refine codeAny_mono ?_ (λ_ _ g=>GoodW.toG g))
 rename_i svs _ _ _ _ _ _ _ sad cvs _ hL _ _ _ hI _ hlen _;have hcl:cvs.length=svs.length:=hI.length;have C:=Mine.cxOK_of (prog:=PySem.Challenge.rw_pq0056_04.row.prog) (w:=w) (t:=Mine.t04) (gx:="_law_patterns") (gval:=.tup Mine.pats) KX T.g T.b T.nolimit (let⟨_,⟨o,_,_,e,_⟩,_⟩:=(T.seer (by kernel_rfl)).mods;⟨o,e⟩) T.builtins c2.1 c3.1 c4.1 c5.1 c6.1 c7.1 c8.1 hL hI
  (by
    have:cvs.toArray.size=svs.length:=by simpa using hcl
    have h2:(svs.length:Int)<=63:=Int.not_lt.mp hlen;have h3:63<=sizeLine:=by decide
    omega) Mine.boot_ok
 have X:=Mine.txt04 KX c1.1 C;obtain⟨fd,F⟩:=Mine.fnAt_of (σ:=Mine.sxOf PySem.Challenge.rw_pq0056_04.row.prog w K s₁.heap sad svs Mine.t04 "_law_patterns" (.tup Mine.pats)) KX (List.all_eq_true.mp c1.1 (496,Mine.m_law) (List.mem_of_getElem? (i:=37) rfl));have R:Mine.Rel ⟨Mine.sxOf PySem.Challenge.rw_pq0056_04.row.prog w K s₁.heap sad svs Mine.t04 "_law_patterns" (.tup Mine.pats),λ_=>False,λ_ h=>h.elim⟩ (λ_=>none) s₁.heap:=⟨λ_ _ e=>e,(λ_ _ e=>by cases e),(λ_ _ e=>by cases e),λ_ h=>h.elim⟩;have W:=Mine.callTop (vs:=[.scr]) (d:=9) (A:=callerA) (cvs:=[.ref sad]) C F rfl (Mine.w_law X rfl (λ_=>none)) ⟨rfl,by decide,by decide⟩ R (Nat.le_refl _) ⟨_,_,rfl,rfl,rfl⟩;refine codeAny_mono W λr s' hr=>?_;unfold Mine.CRes at hr;split at hr
 ·rename_i v;obtain⟨v',H',rfl,hv,S⟩:=hr;have hv:v=.bool true:=hv;subst hv;exact⟨.inl ⟨.bool true,.bool true,[],rfl,λ_=>rfl,.bool _,by kernel_rfl,λ_=>⟨List.nodup_nil,λ_ h=>nomatch h⟩⟩,λb o e=>S.keep b o e rfl λz=>z,S.os,S.gens.trans hg⟩
 ·exact hr.elim
