import PyProof.Rows.All
import Wide.All
import OpenK.AllK
import Wide.FinOn
import PySem.Challenge.RW_pq0056_03
open PySem PySem.W PyProof.Rows
set_option Elab.async false
set_option autoImplicit false
set_option linter.all false
set_option maxRecDepth 100000
set_option tactic.hygienic false
set_option genInjectivity false
set_option genSizeOf false
noncomputable section
namespace Mine
def p0:=@wpAny_bind
def r5:=@Nat.le_of_eq
def s7:=@Nat.le_trans
def u1:=@List.length_map
def u4:=@wpAny_pure
def u5:=@List.mem_singleton
def w7:=@List.mem_map
def w8:=@Option.some.inj
def w9:=@List.mem_cons_of_mem
def y4:=@List.mem_cons_self
def y6:=@Heap.get?_push_of_some
def y9:=@List.not_mem_nil
def z0:=@Nat.lt_of_le_of_lt
def z5:=@List.getElem?_eq_some_iff
def z6:=@List.mem_of_getElem?
def z7:=@Nat.le_refl
def z8:=@wpAny_mono
def z9:=@of_decide_eq_true
def A4:=@List.mem_cons
def A6:=@List.length_append
def A7:=@Array.getElem?_toList
def A8:=@Nat.le_antisymm
def A9:=@Heap.get?_push_size
def B0:=@Nat.le_of_not_lt
def B6:=@List.getElem?_map
def B7:=@List.map_append
def B8:=@Heap.get?_none_of_le
def B9:=@congrArg
def C0:=@List.mem_iff_getElem?
def C1:=@List.getD_eq_getElem?_getD
def C2:=@List.mem_append
def C3:=@Nat.sub_eq_zero_of_le
def C4:=@List.map_cons
def C6:=@Nat.lt_trans
def C7:=@Bool.false_ne_true
def C8:=@List.nodup_cons
def C9:=@List.mem_append_right
def D3:=@Nat.le_total
def D7:=@Option.map_eq_some_iff
def D8:=@decide_eq_true
def D9:=@Nat.le_of_lt
def E0:=@List.mem_append_left
def E1:=@Nat.zero_le
def E2:=@decide_eq_false
def E3:=@List.mem_range
def E4:=@List.getElem?_eq_getElem
def E5:=@Heap.get?_update_self
def E6:=@wpAny_holding
def E7:=@List.cons_ne_nil
def E8:=@Nat.lt_of_lt_of_le
def E9:=@Nat.ne_of_lt
def G0:=@Heap.SameBut.update
def G1:=@wpAny_call_entry
def G2:=@List.append_nil
def G3:=@List.map_congr_left
def G4:=@List.nodup_append
def G6:=@Nat.le_of_lt_succ
def G7:=@Bool.and_eq_true
def G8:=@Nat.le_add_right
def G9:=@Heap.lt_size
def I4:=@List.mem_filter
def I5:=@Nat.lt_or_gt_of_ne
def I6:=@List.isEmpty_iff
def I7:=@Nat.succ_le_succ
def I8:=@List.map_map
def I9:=@sizeLine_eq
def J0:=@List.all_eq_true
def J1:=@eq_of_beq
def J2:=@Array.length_toList
def J3:=@Nat.not_lt_zero
def J4:=@wpAny_ite_split
def J5:=@List.nodup_nil
def J6:=@List.getElem?_set
def J7:=@wpAny_callSpecial?_slot
def J8:=@List.length_singleton
def J9:=@Int.natCast_nonneg
def K0:=@Nat.pow_le_pow_right
def K1:=@Obj.data_mapFields
def K2:=@List.cons.inj
def K3:=@Nat.lt_succ_self
def K4:=@List.append_assoc
def K5:=@Array.getElem?_eq_some_iff
def K6:=@List.Perm.refl
def K7:=@List.length_eq_zero_iff
def K8:=@List.lookup_cons
def K9:=@List.mem_flatMap
def L0:=@Bool.eq_false_iff
def L3:=@List.pairwise_map
def L4:=@Nat.lt_succ_of_lt
def L5:=@wpAny_setState_of
def L6:=@Array.getElem?_eq_getElem
def L7:=@Heap.get?_update_other
def L8:=@Int.ofNat_lt
def L9:=@beq_iff_eq
def M0:=@Nat.max_eq_left
def M3:=@wpAny_seqItems
def M5:=@Nat.le_max_right
def M6:=@Nat.max_eq_right
def M7:=@wpAny_newObj_type
def M8:=@List.zip_cons_cons
def M9:=@Nat.min_le_right
def N0:=@Str.ofString_eq_toList
def N4:=@PyProof.Rows.F.plain_set_update_loop
def N5:=@Int.toNat_natCast
def N6:=@List.flatMap_cons
def N7:=@Prod.mk.inj
def N8:=@wpAny_truthy_bool
def N9:=@List.length_filter_le
def O6:=@Nat.add_assoc
def O7:=@Nat.add_le_add
def O8:=@wpAny_standAt
def O9:=@Nat.le_max_left
def P0:=@Nat.min_le_left
def P1:=@Nat.succ.inj
def P3:=@List.getElem?_drop
def P4:=@PySem.F.slot_dict_keyiterator_next
def P5:=@Around.under_plainId
def P6:=@Array.mem_toList_iff
def P7:=@Nat.le_succ
def P8:=@Nat.lt_of_not_le
def P9:=@Nat.min_eq_right
def Q0:=@List.findIdx?_eq_some_iff_getElem
def Q1:=@List.filter_congr
def Q2:=@List.perm_ext_iff_of_nodup
def Q3:=@Nat.succ_pos
def Q4:=@Nat.zero_add
def Q5:=@Nat.add_le_add_left
def Q6:=@Nat.add_sub_cancel'
def Q7:=@Nat.min_eq_left
def Q8:=@List.getElem?_eq_none
def Q9:=@List.take_append_drop
def RW:=@Obj.isFreed_of_fields
def RX:=@List.any_eq_true
def RY:=@List.mem_reverse
def RZ:=@List.pairwise_cons
def R4:=@wpAny_rule
def R5:=@Int.ofNat.inj
def R6:=@wpAny_field
def R7:=@wpAny_setField
def Sb:=@wpAny_typeNameOfWhole_keyiter
def Sc:=@List.ext_getElem?
def Sd:=@List.length_range
def Se:=@Nat.le_mul_of_pos_right
def Sf:=@Nat.lt_succ_of_le
def Sg:=@getMethod_builtin
def Sh:=@List.forIn_cons
def Si:=@codeAny_builtin
def Sj:=@List.filterMap_cons
def Sk:=@List.map_eq_nil_iff
def Sl:=@beq_eq_false_iff_ne
def Sm:=@Array.getElem?_eq_none
def Sn:=@Nat.pow_succ
def So:=@List.length_cons
def Sp:=@Calls.spliced_cons
def Ss:=@Int.lt_of_le_of_lt
def Sv:=@Nat.lt_or_eq_of_le
def Sw:=@Nat.sub_le
def Sy:=@wpAny_setField_rec
def Sz:=@wpAny_notOrdered_dict
def SD:=@Nat.le_add_left
def SF:=@wpAny_specialOf
def SH:=@Classical.em
def SK:=@List.getElem?_inj
def SL:=@List.size_toArray
def SN:=@Nat.ne_of_gt
def SP:=@codeAny_mono
def SQ:=@wpAny_dictEntries
def Tc:=@Ne.symm
abbrev b7:=Bool->Shared->Prop
abbrev b6:=Unit->Shared->Prop
abbrev a9:=Value->Shared->Prop
section
variable{p q s:Prop}
theorem ns.{u}{α:Type u}{a:α}{P:Prop}(h:none=some a):P:=nomatch h
theorem sn.{u}{α:Type u}{a:α}{P:Prop}(h:some a=none):P:=nomatch h
def FP{P:Prop}(h:true=false):P:=nomatch h
@[elab_as_elim] theorem rl.{u} {α:Sort u} {a b:α} {P:α->Prop} (h:a=b) (x:P b):P a:=h.symm▸x
universe u v w dy d0
variable{α:Sort u}{β:Sort v}{γ:Sort w}{δ:Sort dy}{ε:Sort d0}{R:Prop}
def cq(h:p/\q)(k:p->q->R):R:=k  h.1 h.2
theorem jb{r:Prop}(h:p/\q/\r)(k:p->q->r->R):R:=k  h.1 h.2.1 h.2.2
theorem Dz{r:Prop}(h:p/\q/\r/\s)(k:p->q->r->s->R):R:=k  h.1 h.2.1 h.2.2.1 h.2.2.2
theorem QT{r t:Prop}(h:p/\q/\r/\s/\t)(k:p->q->r->s->t->R):R:=k  h.1 h.2.1 h.2.2.1 h.2.2.2.1 h.2.2.2.2
def bM{p:α->Prop}(h:∃a,p a)(k:∀a,p a->R):R:=h.elim λa h=>k a h
def ah{p q:α->Prop}(h:∃a,p a/\q a)(k:∀a,p a->q a->R):R:=h.elim λa h=>k a h.1 h.2
theorem bR{p q r:α->Prop}(h:∃a,p a/\q a/\r a)(k:∀a,p a->q a->r a->R):R:=h.elim λa h=>k a h.1 h.2.1 h.2.2
theorem wh{p q r s:α->Prop}(h:∃a,p a/\q a/\r a/\s a)(k:∀a,p a->q a->r a->s a->R):R:=h.elim λa h=>k a h.1 h.2.1 h.2.2.1 h.2.2.2
theorem RN{p q r s t:α->Prop}(h:∃a,p a/\q a/\r a/\s a/\t a)(k:∀a,p a->q a->r a->s a->t a->R):R:=h.elim λa h=>k a h.1 h.2.1 h.2.2.1 h.2.2.2.1 h.2.2.2.2
theorem RO{p q r s t u v:α->Prop}(h:∃a,p a/\q a/\r a/\s a/\t a/\u a/\v a)(k:∀a,p a->q a->r a->s a->t a->u a->v a->R):R:=h.elim λa h=>k a h.1 h.2.1 h.2.2.1 h.2.2.2.1 h.2.2.2.2.1 h.2.2.2.2.2.1 h.2.2.2.2.2.2
def ph{p:α->β->Prop}(h:∃a b,p a b)(k:∀a b,p a b->R):R:=h.elim λa h=>h.elim λb h=>k a b h
def cF{p q:α->β->Prop}(h:∃a b,p a b/\q a b)(k:∀a b,p a b->q a b->R):R:=h.elim λa h=>h.elim λb h=>k a b h.1 h.2
theorem bN{p q r:α->β->Prop}(h:∃a b,p a b/\q a b/\r a b)(k:∀a b,p a b->q a b->r a b->R):R:=h.elim λa h=>h.elim λb h=>k a b h.1 h.2.1 h.2.2
theorem uA{p q r s:α->β->Prop}(h:∃a b,p a b/\q a b/\r a b/\s a b)(k:∀a b,p a b->q a b->r a b->s a b->R):R:=h.elim λa h=>h.elim λb h=>k a b h.1 h.2.1 h.2.2.1 h.2.2.2
theorem pe{p q r s t:α->β->Prop}(h:∃a b,p a b/\q a b/\r a b/\s a b/\t a b)(k:∀a b,p a b->q a b->r a b->s a b->t a b->R):R:=h.elim λa h=>h.elim λb h=>k a b h.1 h.2.1 h.2.2.1 h.2.2.2.1 h.2.2.2.2
theorem Ri{p q r s t u v w:α->β->Prop}(h:∃a b,p a b/\q a b/\r a b/\s a b/\t a b/\u a b/\v a b/\w a b)(k:∀a b,p a b->q a b->r a b->s a b->t a b->u a b->v a b->w a b->R):R:=h.elim λa h=>h.elim λb h=>k a b h.1 h.2.1 h.2.2.1 h.2.2.2.1 h.2.2.2.2.1 h.2.2.2.2.2.1 h.2.2.2.2.2.2.1 h.2.2.2.2.2.2.2
def Pi{p:α->β->γ->Prop}(h:∃a b c,p a b c)(k:∀a b c,p a b c->R):R:=h.elim λa h=>h.elim λb h=>h.elim λc h=>k a b c h
def mx{p q:α->β->γ->Prop}(h:∃a b c,p a b c/\q a b c)(k:∀a b c,p a b c->q a b c->R):R:=h.elim λa h=>h.elim λb h=>h.elim λc h=>k a b c h.1 h.2
theorem GX{p q r:α->β->γ->Prop}(h:∃a b c,p a b c/\q a b c/\r a b c)(k:∀a b c,p a b c->q a b c->r a b c->R):R:=h.elim λa h=>h.elim λb h=>h.elim λc h=>k a b c h.1 h.2.1 h.2.2
theorem uC{p q r s:α->β->γ->Prop}(h:∃a b c,p a b c/\q a b c/\r a b c/\s a b c)(k:∀a b c,p a b c->q a b c->r a b c->s a b c->R):R:=h.elim λa h=>h.elim λb h=>h.elim λc h=>k a b c h.1 h.2.1 h.2.2.1 h.2.2.2
theorem Rj{p q r s t:α->β->γ->Prop}(h:∃a b c,p a b c/\q a b c/\r a b c/\s a b c/\t a b c)(k:∀a b c,p a b c->q a b c->r a b c->s a b c->t a b c->R):R:=h.elim λa h=>h.elim λb h=>h.elim λc h=>k a b c h.1 h.2.1 h.2.2.1 h.2.2.2.1 h.2.2.2.2
theorem Pb{p q r s t u:α->β->γ->Prop}(h:∃a b c,p a b c/\q a b c/\r a b c/\s a b c/\t a b c/\u a b c)(k:∀a b c,p a b c->q a b c->r a b c->s a b c->t a b c->u a b c->R):R:=h.elim λa h=>h.elim λb h=>h.elim λc h=>k a b c h.1 h.2.1 h.2.2.1 h.2.2.2.1 h.2.2.2.2.1 h.2.2.2.2.2
theorem RP{p q r s t u v:α->β->γ->Prop}(h:∃a b c,p a b c/\q a b c/\r a b c/\s a b c/\t a b c/\u a b c/\v a b c)(k:∀a b c,p a b c->q a b c->r a b c->s a b c->t a b c->u a b c->v a b c->R):R:=h.elim λa h=>h.elim λb h=>h.elim λc h=>k a b c h.1 h.2.1 h.2.2.1 h.2.2.2.1 h.2.2.2.2.1 h.2.2.2.2.2.1 h.2.2.2.2.2.2
def Pc{p:α->β->γ->δ->Prop}(h:∃a b c d,p a b c d)(k:∀a b c d,p a b c d->R):R:=h.elim λa h=>h.elim λb h=>h.elim λc h=>h.elim λd h=>k a b c d h
def Rk{p q:α->β->γ->δ->Prop}(h:∃a b c d,p a b c d/\q a b c d)(k:∀a b c d,p a b c d->q a b c d->R):R:=h.elim λa h=>h.elim λb h=>h.elim λc h=>h.elim λd h=>k a b c d h.1 h.2
theorem Pd{p q r:α->β->γ->δ->Prop}(h:∃a b c d,p a b c d/\q a b c d/\r a b c d)(k:∀a b c d,p a b c d->q a b c d->r a b c d->R):R:=h.elim λa h=>h.elim λb h=>h.elim λc h=>h.elim λd h=>k a b c d h.1 h.2.1 h.2.2
theorem Rl{p q r s t:α->β->γ->δ->Prop}(h:∃a b c d,p a b c d/\q a b c d/\r a b c d/\s a b c d/\t a b c d)(k:∀a b c d,p a b c d->q a b c d->r a b c d->s a b c d->t a b c d->R):R:=h.elim λa h=>h.elim λb h=>h.elim λc h=>h.elim λd h=>k a b c d h.1 h.2.1 h.2.2.1 h.2.2.2.1 h.2.2.2.2
theorem Rm{p q r s t u:α->β->γ->δ->Prop}(h:∃a b c d,p a b c d/\q a b c d/\r a b c d/\s a b c d/\t a b c d/\u a b c d)(k:∀a b c d,p a b c d->q a b c d->r a b c d->s a b c d->t a b c d->u a b c d->R):R:=h.elim λa h=>h.elim λb h=>h.elim λc h=>h.elim λd h=>k a b c d h.1 h.2.1 h.2.2.1 h.2.2.2.1 h.2.2.2.2.1 h.2.2.2.2.2
theorem RQ{p q r s t u v:α->β->γ->δ->Prop}(h:∃a b c d,p a b c d/\q a b c d/\r a b c d/\s a b c d/\t a b c d/\u a b c d/\v a b c d)(k:∀a b c d,p a b c d->q a b c d->r a b c d->s a b c d->t a b c d->u a b c d->v a b c d->R):R:=h.elim λa h=>h.elim λb h=>h.elim λc h=>h.elim λd h=>k a b c d h.1 h.2.1 h.2.2.1 h.2.2.2.1 h.2.2.2.2.1 h.2.2.2.2.2.1 h.2.2.2.2.2.2
theorem QU{p q r s t:α->β->γ->δ->ε->Prop}(h:∃a b c d e,p a b c d e/\q a b c d e/\r a b c d e/\s a b c d e/\t a b c d e)(k:∀a b c d e,p a b c d e->q a b c d e->r a b c d e->s a b c d e->t a b c d e->R):R:=h.elim λa h=>h.elim λb h=>h.elim λc h=>h.elim λd h=>h.elim λe h=>k a b c d e h.1 h.2.1 h.2.2.1 h.2.2.2.1 h.2.2.2.2
theorem RR{p q r s t u:α->β->γ->δ->ε->Prop}(h:∃a b c d e,p a b c d e/\q a b c d e/\r a b c d e/\s a b c d e/\t a b c d e/\u a b c d e)(k:∀a b c d e,p a b c d e->q a b c d e->r a b c d e->s a b c d e->t a b c d e->u a b c d e->R):R:=h.elim λa h=>h.elim λb h=>h.elim λc h=>h.elim λd h=>h.elim λe h=>k a b c d e h.1 h.2.1 h.2.2.1 h.2.2.2.1 h.2.2.2.2.1 h.2.2.2.2.2
theorem QV{p q r s t u v:α->β->γ->δ->ε->Prop}(h:∃a b c d e,p a b c d e/\q a b c d e/\r a b c d e/\s a b c d e/\t a b c d e/\u a b c d e/\v a b c d e)(k:∀a b c d e,p a b c d e->q a b c d e->r a b c d e->s a b c d e->t a b c d e->u a b c d e->v a b c d e->R):R:=h.elim λa h=>h.elim λb h=>h.elim λc h=>h.elim λd h=>h.elim λe h=>k a b c d e h.1 h.2.1 h.2.2.1 h.2.2.2.1 h.2.2.2.2.1 h.2.2.2.2.2.1 h.2.2.2.2.2.2
theorem cO{r:Prop}(h0:p)(B:q)(F:r):p/\q/\r:=⟨h0,B,F⟩
theorem sw{r:Prop}(h0:p)(B:q)(F:r)(G:s):p/\q/\r/\s:=⟨h0,B,F,G⟩
theorem Fd{r t:Prop}(h0:p)(B:q)(F:r)(G:s)(J:t):p/\q/\r/\s/\t:=⟨h0,B,F,G,J⟩
def gV{p:α->Prop}(a:α)(h0:p a):∃a,p a:=⟨a,h0⟩
def af{p q:α->Prop}(a:α)(h0:p a)(B:q a):∃a,p a/\q a:=⟨a,h0,B⟩
theorem aK{p q r:α->Prop}(a:α)(h0:p a)(B:q a)(F:r a):∃a,p a/\q a/\r a:=⟨a,h0,B,F⟩
theorem jK{p q r s:α->Prop}(a:α)(h0:p a)(B:q a)(F:r a)(G:s a):∃a,p a/\q a/\r a/\s a:=⟨a,h0,B,F,G⟩
theorem Rn{p q r s t:α->Prop}(a:α)(h0:p a)(B:q a)(F:r a)(G:s a)(J:t a):∃a,p a/\q a/\r a/\s a/\t a:=⟨a,h0,B,F,G,J⟩
theorem RS{p q r s t u:α->Prop}(a:α)(h0:p a)(B:q a)(F:r a)(G:s a)(J:t a)(O:u a):∃a,p a/\q a/\r a/\s a/\t a/\u a:=⟨a,h0,B,F,G,J,O⟩
def uD{p:α->β->Prop}(a:α)(b:β)(h0:p a b):∃a b,p a b:=⟨a,b,h0⟩
def ey{p q:α->β->Prop}(a:α)(b:β)(h0:p a b)(B:q a b):∃a b,p a b/\q a b:=⟨a,b,h0,B⟩
theorem bF{p q r:α->β->Prop}(a:α)(b:β)(h0:p a b)(B:q a b)(F:r a b):∃a b,p a b/\q a b/\r a b:=⟨a,b,h0,B,F⟩
theorem jL{p q r s:α->β->Prop}(a:α)(b:β)(h0:p a b)(B:q a b)(F:r a b)(G:s a b):∃a b,p a b/\q a b/\r a b/\s a b:=⟨a,b,h0,B,F,G⟩
theorem qT{p q r s t:α->β->Prop}(a:α)(b:β)(h0:p a b)(B:q a b)(F:r a b)(G:s a b)(J:t a b):∃a b,p a b/\q a b/\r a b/\s a b/\t a b:=⟨a,b,h0,B,F,G,J⟩
theorem QW{p q r s t u:α->β->Prop}(a:α)(b:β)(h0:p a b)(B:q a b)(F:r a b)(G:s a b)(J:t a b)(O:u a b):∃a b,p a b/\q a b/\r a b/\s a b/\t a b/\u a b:=⟨a,b,h0,B,F,G,J,O⟩
theorem RT{p q r s t u v:α->β->Prop}(a:α)(b:β)(h0:p a b)(B:q a b)(F:r a b)(G:s a b)(J:t a b)(O:u a b)(Q:v a b):∃a b,p a b/\q a b/\r a b/\s a b/\t a b/\u a b/\v a b:=⟨a,b,h0,B,F,G,J,O,Q⟩
def Pe{p:α->β->γ->Prop}(a:α)(b:β)(c:γ)(h0:p a b c):∃a b c,p a b c:=⟨a,b,c,h0⟩
def yW{p q:α->β->γ->Prop}(a:α)(b:β)(c:γ)(h0:p a b c)(B:q a b c):∃a b c,p a b c/\q a b c:=⟨a,b,c,h0,B⟩
theorem pi{p q r s:α->β->γ->Prop}(a:α)(b:β)(c:γ)(h0:p a b c)(B:q a b c)(F:r a b c)(G:s a b c):∃a b c,p a b c/\q a b c/\r a b c/\s a b c:=⟨a,b,c,h0,B,F,G⟩
theorem Pj{p q r s t:α->β->γ->Prop}(a:α)(b:β)(c:γ)(h0:p a b c)(B:q a b c)(F:r a b c)(G:s a b c)(J:t a b c):∃a b c,p a b c/\q a b c/\r a b c/\s a b c/\t a b c:=⟨a,b,c,h0,B,F,G,J⟩
theorem QX{p q r s t u:α->β->γ->Prop}(a:α)(b:β)(c:γ)(h0:p a b c)(B:q a b c)(F:r a b c)(G:s a b c)(J:t a b c)(O:u a b c):∃a b c,p a b c/\q a b c/\r a b c/\s a b c/\t a b c/\u a b c:=⟨a,b,c,h0,B,F,G,J,O⟩
theorem Ro{p q r s t u v:α->β->γ->Prop}(a:α)(b:β)(c:γ)(h0:p a b c)(B:q a b c)(F:r a b c)(G:s a b c)(J:t a b c)(O:u a b c)(Q:v a b c):∃a b c,p a b c/\q a b c/\r a b c/\s a b c/\t a b c/\u a b c/\v a b c:=⟨a,b,c,h0,B,F,G,J,O,Q⟩
def Rp{p:α->β->γ->δ->Prop}(a:α)(b:β)(c:γ)(d:δ)(h0:p a b c d):∃a b c d,p a b c d:=⟨a,b,c,d,h0⟩
def QY{p q:α->β->γ->δ->Prop}(a:α)(b:β)(c:γ)(d:δ)(h0:p a b c d)(B:q a b c d):∃a b c d,p a b c d/\q a b c d:=⟨a,b,c,d,h0,B⟩
theorem RU{p q r:α->β->γ->δ->Prop}(a:α)(b:β)(c:γ)(d:δ)(h0:p a b c d)(B:q a b c d)(F:r a b c d):∃a b c d,p a b c d/\q a b c d/\r a b c d:=⟨a,b,c,d,h0,B,F⟩
theorem Rq{p q r s:α->β->γ->δ->Prop}(a:α)(b:β)(c:γ)(d:δ)(h0:p a b c d)(B:q a b c d)(F:r a b c d)(G:s a b c d):∃a b c d,p a b c d/\q a b c d/\r a b c d/\s a b c d:=⟨a,b,c,d,h0,B,F,G⟩
theorem Rr{p q r s t:α->β->γ->δ->Prop}(a:α)(b:β)(c:γ)(d:δ)(h0:p a b c d)(B:q a b c d)(F:r a b c d)(G:s a b c d)(J:t a b c d):∃a b c d,p a b c d/\q a b c d/\r a b c d/\s a b c d/\t a b c d:=⟨a,b,c,d,h0,B,F,G,J⟩
theorem Rs{p q r s t u:α->β->γ->δ->Prop}(a:α)(b:β)(c:γ)(d:δ)(h0:p a b c d)(B:q a b c d)(F:r a b c d)(G:s a b c d)(J:t a b c d)(O:u a b c d):∃a b c d,p a b c d/\q a b c d/\r a b c d/\s a b c d/\t a b c d/\u a b c d:=⟨a,b,c,d,h0,B,F,G,J,O⟩
theorem Rt{p q r s t u v:α->β->γ->δ->Prop}(a:α)(b:β)(c:γ)(d:δ)(h0:p a b c d)(B:q a b c d)(F:r a b c d)(G:s a b c d)(J:t a b c d)(O:u a b c d)(Q:v a b c d):∃a b c d,p a b c d/\q a b c d/\r a b c d/\s a b c d/\t a b c d/\u a b c d/\v a b c d:=⟨a,b,c,d,h0,B,F,G,J,O,Q⟩
end
section
variable{a b c i:Nat}
set_option genCtorIdx false
inductive LE where|V (i:Nat)|N (k:Nat)|A (x y:LE)|M (k:Nat) (x:LE)|R (x:LE) (k:Nat)
noncomputable def Px:List Nat->Nat->Nat
 | [],_=>0
 |x::_,0=>x
 |_::r,i+1=>Px r i
noncomputable def LE.d(c:List Nat):LE->Nat
 | .V i=>Px c i
 | .N k=>k
 | .A x y=>x.d c+y.d c
 | .M k x=>k*x.d c
 | .R x k=>x.d c*k
noncomputable def HG:List Nat->List Nat->List Nat
 | [],y=>y
 |x::xs,[]=>x::xs
 |x::xs,y::ys=>(x+y)::HG xs ys
noncomputable def FL(k:Nat):List Nat->List Nat
 | []=>[]
 |x::xs=>(k*x)::FL k xs
noncomputable def Pg:Nat->List Nat
 |0=>[1]
 |i+1=>0::Pg i
noncomputable def pD:List Nat->List Nat->Nat
 | [],_=>0
 |_::_,[]=>0
 |x::xs,y::ys=>x*y+pD xs ys
noncomputable def LE.f:LE->Nat×List Nat
 | .V i=>(0,Pg i)
 | .N k=>(k,[])
 | .A x y=>(x.f.1+y.f.1,HG x.f.2 y.f.2)
 | .M k x=>(k*x.f.1,FL k x.f.2)
 | .R x k=>(k*x.f.1,FL k x.f.2)
theorem wL:∀(x y c:List Nat),pD (HG x y) c=pD x c+pD y c
 | [],y,c=>(Q4 _).symm
 |x::xs,[],c=>rfl
 |x::xs,y::ys,[]=>rfl
 |x::xs,y::ys,c::cs=>by show(x+y)*c+pD (HG xs ys) cs=(x*c+pD xs cs)+(y*c+pD ys cs);rw[wL,Nat.add_mul,Nat.add_add_add_comm]
theorem rH(k:Nat):∀(x c:List Nat),pD (FL k x) c=k*pD x c
 | [],c=>rfl
 |x::xs,[]=>rfl
 |x::xs,c::cs=>by show k*x*c+pD (FL k xs) cs=k*(x*c+pD xs cs);rw[rH,Nat.mul_add,Nat.mul_assoc]
theorem wM:∀(i:Nat)(c:List Nat),pD (Pg i) c=Px c i
 |0,[]=>rfl
 |0,x::xs=>Nat.one_mul _
 |i+1,[]=>rfl
 |i+1,x::xs=>by show 0*x+pD (Pg i) xs=_;rw[Nat.zero_mul,Q4,wM];rfl
theorem p5(c:List Nat):∀x:LE,x.d c=x.f.1+pD x.f.2 c
 | .V i=>(wM i c).symm.trans (Q4 _).symm
 | .N _=>rfl
 | .A x y=>by show x.d c+y.d c=x.f.1+y.f.1+pD (HG x.f.2 y.f.2) c;rw[wL,p5 c x,p5 c y,Nat.add_add_add_comm]
 | .M k x=>by show k*x.d c=k*x.f.1+pD (FL k x.f.2) c;rw[rH,p5 c x,Nat.mul_add]
 | .R x k=>by show x.d c*k=k*x.f.1+pD (FL k x.f.2) c;rw[rH,p5 c x,Nat.mul_comm,Nat.mul_add]
noncomputable def HN:List Nat->List Nat->Bool
 | [],_=>true
 |x::xs,[]=>Nat.beq x 0&&HN xs []
 |x::xs,y::ys=>Nat.ble x y&&HN xs ys
theorem wP:∀{x:List Nat}(c:List Nat),HN x []=true->pD x c=0
 | [],c,_=>rfl
 |x::xs,[],_=>rfl
 |x::xs,c::cs,h=>by have h:=(G7 _ _).mp h;show x*c+pD xs cs=0;rw[Nat.eq_of_beq_eq_true h.1,wP cs h.2,Nat.zero_mul]
theorem Af:∀{x y:List Nat}(c:List Nat),HN x y=true->pD x c<=pD y c
 | [],y,c,_=>E1 _
 |x::xs,[],c,h=>r5 (wP c h)
 |x::xs,y::ys,[],_=>z7 _
 |x::xs,y::ys,c::cs,h=>by have h:=(G7 _ _).mp h;exact O7 (Nat.mul_le_mul_right _ (Nat.le_of_ble_eq_true h.1)) (Af cs h.2)
noncomputable def DO(l r:LE):Bool:=Nat.blt r.f.1 l.f.1&&HN r.f.2 l.f.2
theorem jZ{l r:LE}(c:List Nat)(h:DO l r=true):¬l.d c<=r.d c:=by have h:=(G7 _ _).mp h;rw[p5,p5];exact Nat.not_le_of_lt (Nat.add_lt_add_of_lt_of_le (Nat.le_of_ble_eq_true h.1) (Af c h.2))
theorem dw(c:List Nat)(l r:LE)(k:DO l r=true)(h:l.d c<=r.d c):False:=jZ c k h
theorem aZ(c:List Nat)(l r l' r':LE)(k:DO (.A l l') (.A r r')=true)(h:l.d c<=r.d c)(h':l'.d c<=r'.d c):False:=jZ c k (O7 h h')
theorem eD(c:List Nat)(l r l' r' l2 B:LE)(k:DO (.A (.A l l') l2) (.A (.A r r') B)=true)(h:l.d c<=r.d c)(h':l'.d c<=r'.d c)(F:l2.d c<=B.d c):False:=jZ c k (O7 (O7 h h') F)
theorem bP(c:List Nat)(k:Nat)(l r:LE)(h:l.d c<=r.d c):(LE.M k l).d c<=(LE.M k r).d c:=Nat.mul_le_mul_left k h
theorem dT(c:List Nat)(l r l' r':LE)(h:l.d c<=r.d c)(h':l'.d c<=r'.d c):(LE.A l l').d c<=(LE.A r r').d c:=O7 h h'
def dj(c:List Nat)(x y:LE)(k:DO (.A y (.N 1)) x=true):x.d c<=y.d c:=B0 (jZ c k)
theorem ak(c:List Nat)(x y l r:LE)(k:DO (.A (.A y (.N 1)) l) (.A x r)=true)(h:l.d c<=r.d c):x.d c<=y.d c:=B0 λq=>jZ c k (O7 q h)
theorem ao(c:List Nat)(x y l r l' r':LE)(k:DO (.A (.A y (.N 1)) (.A l l')) (.A x (.A r r'))=true)(h:l.d c<=r.d c)(h':l'.d c<=r'.d c):x.d c<=y.d c:=ak c x y _ _ k (dT c l r l' r' h h')
theorem aL(c:List Nat)(x y l r l' r' l2 B:LE)(k:DO (.A (.A y (.N 1)) (.A (.A l l') l2)) (.A x (.A (.A r r') B))=true)(h:l.d c<=r.d c)(h':l'.d c<=r'.d c)(F:l2.d c<=B.d c):x.d c<=y.d c:=ak c x y _ _ k (dT c _ _ l2 B (dT c l r l' r' h h') F)
def bb(x y:Nat):x<=x-y+y:=Nat.le_add_of_sub_le (z7 _)
def bO{x y:Nat}(h:y<=x):x-y+y=x:=Nat.sub_add_cancel h
def vo(x:Nat):2*(x/2)<=x:=Nat.mul_div_le x 2
def vp(x:Nat):x<=2*(x/2)+1:=G6 (Nat.lt_mul_div_succ (b:=2) x (by decide))
open LE
noncomputable abbrev v0:=V 0
noncomputable abbrev v1:=V 1
noncomputable abbrev v2:=V 2
noncomputable abbrev v3:=V 3
noncomputable abbrev v4:=V 4
noncomputable abbrev v5:=V 5
noncomputable abbrev v6:=V 6
noncomputable abbrev v7:=V 7
noncomputable abbrev LE.S(x:LE):LE:=A x (N 1)
def RA:a<55296\/57343<a/\a<1114112->a<1114112:=λh=>h.elim (λz=>C6 z (by decide)) λz=>z.2
def Rc:a<=b->a+1<=b+1:=ak [a,b] (S v0) (S v1) v0 v1 rfl
def RB{d:Nat}:a<=c->b<=d->max a b<=max c d:=λF G=>(D3 a b).elim (λB=>aL [a,b,c,d,(max a b),(max c d)] v4 v5 v1 v3 v3 v5 v4 v1 rfl G (M5 c d) (r5 (M6 B))) (λB=>aL [a,b,c,d,(max a b),(max c d)] v4 v5 v0 v2 v2 v5 v4 v0 rfl F (O9 c d) (r5 (M0 B)))
def Rd:a+(c+1)<b->a<b:=ak [a,b,c] (S v0) v1 (S (A v0 (S v2))) v1 rfl
def RC:a+(b+1)<c->a+1+b<c:=ak [a,b,c] (S (A (S v0) v1)) v2 (S (A v0 (S v1))) v2 rfl
def RD{d:Nat}:a+max b d<c->a+b<c:=λB=>ao [a,b,c,d,(max b d)] (S (A v0 v1)) v2 (S (A v0 v4)) v2 v1 v4 rfl B (O9 b d)
def RE{d:Nat}:a+max d b<c->a+b<c:=λB=>ao [a,b,c,d,(max d b)] (S (A v0 v1)) v2 (S (A v0 v4)) v2 v1 v4 rfl B (M5 d b)
def RF{d e:Nat}:a+min e i<d->b<=e->c<=i->a+min b c<d:=λF G J=>(D3 e i).elim (λB=>aL [a,b,c,d,e,i,(min e i),(min b c)] (S (A v0 v7)) v3 (S (A v0 v6)) v3 v1 v4 (A v7 v4) (A v1 v6) rfl F G (dT [a,b,c,d,e,i,(min e i),(min b c)] v7 v1 v4 v6 (P0 b c) (r5 (Q7 B).symm))) (λB=>aL [a,b,c,d,e,i,(min e i),(min b c)] (S (A v0 v7)) v3 (S (A v0 v6)) v3 v2 v5 (A v7 v5) (A v2 v6) rfl F J (dT [a,b,c,d,e,i,(min e i),(min b c)] v7 v2 v5 v6 (M9 b c) (r5 (P9 B).symm)))
def Re:a+1<=0->False:=dw [a] (S v0) (N 0) rfl
def HS:a+1<=b+1->a<=b:=ak [a,b] v0 v1 (S v0) (S v1) rfl
def FS:max a c<=b->a<=b:=λB=>ao [a,b,c,(max a c)] v0 v1 v3 v1 v0 v3 rfl B (O9 a c)
def CH:max c a<=b->a<=b:=λB=>ao [a,b,c,(max c a)] v0 v1 v3 v1 v0 v3 rfl B (M5 c a)
def Iz:b<=8->a+8<c->a+b<c:=ao [a,b,c] (S (A v0 v1)) v2 v1 (N 8) (S (A v0 (N 8))) v2 rfl
def PB{d:Nat}:c<=8->a+8<d->a+min b c<d:=λB F=>aL [a,b,c,d,(min b c)] (S (A v0 v4)) v3 v2 (N 8) (S (A v0 (N 8))) v3 v4 v2 rfl B F (M9 b c)
def PC:b<=c->a+2*c<990->a+2*b<990:=λB F=>ao [a,b,c] (S (A v0 (M 2 v1))) (N 990) (M 2 v1) (M 2 v2) (S (A v0 (M 2 v2))) (N 990) rfl (bP [a,b,c] 2 v1 v2 B) F
def PD:b<=c->a+10*c<9700->a+10*b<9700:=λB F=>ao [a,b,c] (S (A v0 (M 10 v1))) (N 9700) (M 10 v1) (M 10 v2) (S (A v0 (M 10 v2))) (N 9700) rfl (bP [a,b,c] 10 v1 v2 B) F
def Jd{a:Int}:a.natAbs<(2:Nat)^60->-(2:Int)^64<a:=λh=>Int.neg_lt_of_neg_lt (Ss (Int.natAbs_neg a▸Int.le_natAbs) (L8.mpr (C6 h (by decide:2^60<2^64))))
def Jl{a:Int}:a.natAbs<(2:Nat)^60->a<(2:Int)^64:=λh=>Ss Int.le_natAbs (L8.mpr (C6 h (by decide:2^60<2^64)))
def PE{a:Int}:(0:Int)<a->a≠(0:Int):=λh=>(Int.ne_of_lt h).symm
def PF{a:Int}:(0:Int)<a->(0:Int)<=a:=Int.le_of_lt
def PG{d:Nat}:c+d<=1000->a=c->b=d->a+b<=16777216:=λB F G=>aL [a,b,c,d] (A v0 v1) (N 16777216) (A v2 v3) (N 1000) v0 v2 v1 v3 rfl B (r5 F) (r5 G)
def PH{d:Nat}:c+d<=2^20->a=c->b=d->a+b<=16777216:=λB F G=>aL [a,b,c,d] (A v0 v1) (N 16777216) (A v2 v3) (N 1048576) v0 v2 v1 v3 rfl B (r5 F) (r5 G)
def CI:a+10*c<9700->b=9900->a+64<b:=λB F=>ao [a,b,c] (S (A v0 (N 64))) v1 (S (A v0 (M 10 v2))) (N 9700) (N 9900) v1 rfl B (r5 F.symm)
def CJ:a<=b->b<=8->a+1<=64:=ao [a,b] (S v0) (N 64) v0 v1 v1 (N 8) rfl
def CL:a<=b->b<=8->a<=64:=ao [a,b] v0 (N 64) v0 v1 v1 (N 8) rfl
def PJ{b:Int}:(0:Int)<=b->-(↑a:Int)<=b:=λh=>Int.le_trans (Int.neg_nonpos_of_nonneg (J9 a)) h
def PK{a:Int}:a.toNat<b->a<(↑b:Int):=λh=>Ss (Int.self_le_toNat a) (L8.mpr h)
def PL{a:Int}:(0:Int)<=a->¬a<(0:Int):=Int.not_lt.mpr
def PM{a:Int}:a.toNat<b->¬a<(0:Int)->(0:Int)<=a/\a<(↑b:Int):=λh q=>⟨Int.not_lt.mp q,Ss (Int.self_le_toNat a) (L8.mpr h)⟩
def PN{b:Int}:-b<=(↑a:Int)->-(↑a:Int)<=b:=λh=>Int.neg_le_of_neg_le h
def PQ{a:Int}:((↑b:Int)+a).toNat<b->a<(↑b:Int):=by omega
def PR{a:Int}:((↑b:Int)+a).toNat<b->a<(0:Int):=λh=>Int.not_le.mp λk=>absurd (L8.mpr h) (by rw[Int.toNat_of_nonneg (Int.add_nonneg (J9 b) k)];exact Int.not_lt.mpr (Int.le_add_of_nonneg_right k))
def PS{a:Int}:-a<=(↑b:Int)->a<(0:Int)->(0:Int)<=a+(↑b:Int)/\a+(↑b:Int)<(↑b:Int):=by omega
def PT:a+10*c<9700->b<=200->a+b<9900:=ao [a,b,c] (S (A v0 v1)) (N 9900) (S (A v0 (M 10 v2))) (N 9700) v1 (N 200) rfl
def PU :10<=200:=by decide
def Lz{d e:Nat}:c<=e->e<=8->a+10<d->a+1+min b c<d:=λB F G=>aL [a,b,c,d,e,(min b c)] (S (A (S v0) v5)) v3 v2 v4 v4 (N 8) (A (S (A v0 (N 10))) v5) (A v3 v2) rfl B F (dT [a,b,c,d,e,(min b c)] (S (A v0 (N 10))) v3 v5 v2 G (M9 b c))
def vu :9<=200:=by decide
def LT{a:Int}:a.natAbs<(2:Nat)^60->-(2:Int)^63<=a:=λh=>Int.neg_le_of_neg_le (Int.le_trans (Int.natAbs_neg a▸Int.le_natAbs) (Int.le_of_lt (L8.mpr (C6 h (by decide:2^60<2^63)))))
def LX{a:Int}:a.natAbs<(2:Nat)^60->a<(2:Int)^63:=λh=>Ss Int.le_natAbs (L8.mpr (C6 h (by decide:2^60<2^63)))
def CM:¬(↑a:Int)<(0:Int):=Int.not_lt.mpr (J9 a)
def PV{a:Int}:a<(3:Int)->a.toNat<(3:Nat):=λh=>(Int.toNat_lt' (by decide)).mpr h
def PW{a:Int}:(0:Int)<=a->(↑a.toNat:Int)=a:=Int.toNat_of_nonneg
def PX{a:Int}:(0:Int)<=a->a<(3:Int)->(-9223372036854775808:Int)<=a/\a<(9223372036854775808:Int):=λh k=>⟨Int.le_trans (by decide) h,Int.lt_trans k (by decide)⟩
def PY{a:Int}:¬(0:Int)<=a->a<(0:Int):=Int.not_le.mp
def PZ{b:Int}:a=c->-b<=(↑c:Int)->-(↑a:Int)<=b:=λh k=>h▸Int.neg_le_of_neg_le k
def Qa:b=c->a<=b+1->c<=500->a<=1000:=λB F G=>aL [a,b,c] v0 (N 1000) v1 v2 v0 (S v1) v2 (N 500) rfl (r5 B) F G
def Qc :1≠0:=by decide
def Qd :1<=1:=by decide
def Qe:a=b->1<=b->1<=a:=λB F=>ao [a,b] (N 1) v0 v1 v0 (N 1) v1 rfl (r5 B.symm) F
def FT:a=b->b<=1000->a<=16777216:=λB F=>ao [a,b] v0 (N 16777216) v0 v1 v1 (N 1000) rfl (r5 B) F
def Qf :1<=16777216:=by decide
def Qg{a:Int}:a<(↑b:Int)->b<(2:Nat)^60->a<(2:Int)^63:=λh k=>Int.lt_trans h (L8.mpr (C6 k (by decide:2^60<2^63)))
def Qh{a:Int}:b=c->a<(↑c:Int)->a<(↑b:Int):=λh k=>h▸k
def Qi:a<2^20->a<=16777216:=ak [a] v0 (N 16777216) (S v0) (N 1048576) rfl
def Qj:a=c->c<2^20->b=16777216->a<=b:=λB F G=>aL [a,b,c] v0 v1 v0 v2 (S v2) (N 1048576) (N 16777216) v1 rfl (r5 B) F (r5 G.symm)
def Qk{d:Nat}:c+d<=2^20->a=c->b=16777216->a<=b:=λB F G=>aL [a,b,c,d] v0 v1 (A v2 v3) (N 1048576) v0 v2 (N 16777216) v1 rfl B (r5 F) (r5 G.symm)
def Ql{d e:Nat}:d+e<=2^20->a=d->b=e->c=16777216->a+b<=c+1:=λB F G J=>aL [a,b,c,d,e] (A v0 v1) (S v2) (A v3 v4) (N 1048576) v0 v3 (A v1 (N 16777216)) (A v4 v2) rfl B (r5 F) (dT [a,b,c,d,e] v1 v4 (N 16777216) v2 (r5 G) (r5 J.symm))
def Qm{d e:Nat}:d+e<=2^20->a=d->b=e->c=16777216->a+b<=c:=λB F G J=>aL [a,b,c,d,e] (A v0 v1) v2 (A v3 v4) (N 1048576) v0 v3 (A v1 (N 16777216)) (A v4 v2) rfl B (r5 F) (dT [a,b,c,d,e] v1 v4 (N 16777216) v2 (r5 G) (r5 J.symm))
def Qn:a=c->c<=2^20->b=16777216->a<=b:=λB F G=>aL [a,b,c] v0 v1 v0 v2 v2 (N 1048576) (N 16777216) v1 rfl (r5 B) F (r5 G.symm)
def Qo:a=b+1->a<=b+1:=λB=>ak [a,b] v0 (S v1) v0 (S v1) rfl (r5 B)
def yq:b=c->a<c->a<b:=λB F=>ao [a,b,c] (S v0) v1 v2 v1 (S v0) v2 rfl (r5 B.symm) F
def FU:a<c->c<b->a<b:=ao [a,b,c] (S v0) v1 (S v0) v2 (S v2) v1 rfl
def yr:c=b->a<c->a<b:=λB F=>ao [a,b,c] (S v0) v1 v2 v1 (S v0) v2 rfl (r5 B) F
def Ot:b=16777216->a<2^20->a<=b:=λB F=>ao [a,b] v0 v1 (N 16777216) v1 (S v0) (N 1048576) rfl (r5 B.symm) F
def Qq:a=b->b<=(2:Nat)^20->(↑a:Int)<(2:Int)^63:=λh k=>L8.mpr (z0 (h▸k) (by decide:2^20<2^63))
def Qr:a=b->b<=(2:Nat)^21->(↑a:Int)<(2:Int)^63:=λh k=>L8.mpr (z0 (h▸k) (by decide:2^21<2^63))
def Qt:a=b->b<=16384->a<=16384:=λB F=>ao [a,b] v0 (N 16384) v0 v1 v1 (N 16384) rfl (r5 B) F
def Ou{a:Int}:(0:Int)<=a->a-(0:Int)=(↑a.toNat:Int):=λh=>by rw[Int.sub_zero,Int.toNat_of_nonneg h]
def Ov{a:Int}:¬(0:Int)<a->(0:Int)=(↑a.toNat:Int):=λh=>B9 Int.ofNat (Int.toNat_of_nonpos (Int.not_lt.mp h)).symm
def Ow{a:Int}:(0:Int)<=a->a<=(1000:Int)->(((-9223372036854775808:Int)<=a/\a<(9223372036854775808:Int))/\(-9223372036854775808:Int)<=max a (0:Int)/\max a (0:Int)<(9223372036854775808:Int))/\(max a (0:Int)=(0:Int)\/(-9223372036854775808:Int)<=a/\a<(9223372036854775808:Int)):=λh k=>have b:=And.intro (Int.le_trans (by decide) h) (Ss k (by decide));(Int.max_eq_left h).symm▸⟨⟨b,b⟩,.inr b⟩
def Qu:(0:Int)+(↑a:Int)*(1:Int)=(↑a:Int):=by rw[Int.zero_add,Int.mul_one]
def Qv:a+1≠a:=λq0=>dw [a] (S v0) v0 rfl (r5 q0)
def Qw:b=1->a+2*(c+1)<990->a+b+2*c<990:=λB F=>ao [a,b,c] (S (A (A v0 v1) (M 2 v2))) (N 990) v1 (N 1) (S (A v0 (M 2 (S v2)))) (N 990) rfl (r5 B) F
def Qx:b=1->a+10*(c+1)<9700->a+b+10*c<9700:=λB F=>ao [a,b,c] (S (A (A v0 v1) (M 10 v2))) (N 9700) v1 (N 1) (S (A v0 (M 10 (S v2)))) (N 9700) rfl (r5 B) F
def Ox:a<=b->b<=a->a=b:=λB F=>A8 (ak [a,b] v0 v1 v0 v1 rfl B) (ak [a,b] v1 v0 v1 v0 rfl F)
def Oy:b<a->a-(b+1)<a-b:=λF=>(D3 (b+1) a).elim (λB=>ao [a,b,(a-(b+1)),(a-b)] (S v2) v3 v0 (A v3 v1) (A v2 (S v1)) v0 rfl (bb a b) (r5 (bO B))) (λB=>aL [a,b,(a-(b+1)),(a-b)] (S v2) v3 (S v1) v0 v0 (A v3 v1) v2 (N 0) rfl F (bb a b) (r5 (C3 B)))
def FV:a<b->a+1<=b:=ak [a,b] (S v0) v1 (S v0) v1 rfl
def Qy:¬(¬a=2/\¬a=3)->a=2\/a=3:=λh=>(Decidable.em (a=2)).imp_right λq=>Decidable.byContradiction λz=>h ⟨q,z⟩
def Qz:a+2*(b+1)<990->a<1000:=ak [a,b] (S v0) (N 1000) (S (A v0 (M 2 (S v1)))) (N 990) rfl
def QA:a+2*(b+1)<990->a+1+2*b<990:=ak [a,b] (S (A (S v0) (M 2 v1))) (N 990) (S (A v0 (M 2 (S v1)))) (N 990) rfl
def QB:a+10*(b+1)<9700->a+3+10*b<9700:=ak [a,b] (S (A (A v0 (N 3)) (M 10 v1))) (N 9700) (S (A v0 (M 10 (S v1)))) (N 9700) rfl
def QC:a+2≠a+4:=λq0=>dw [a] (A v0 (N 4)) (A v0 (N 2)) rfl (r5 q0.symm)
def QD:a+3≠a+4:=λq0=>dw [a] (A v0 (N 4)) (A v0 (N 3)) rfl (r5 q0.symm)
def QE:a≠a+4:=λq0=>dw [a] (A v0 (N 4)) v0 rfl (r5 q0.symm)
def QF:a+1≠a+4:=λq0=>dw [a] (A v0 (N 4)) (S v0) rfl (r5 q0.symm)
def Oz:a+2≠a+3:=λq0=>dw [a] (A v0 (N 3)) (A v0 (N 2)) rfl (r5 q0.symm)
def HT:a+2≠a:=λq0=>dw [a] (A v0 (N 2)) v0 rfl (r5 q0)
def HU:a+2≠a+1:=λq0=>dw [a] (A v0 (N 2)) (S v0) rfl (r5 q0)
def HV:a+3≠a:=λq0=>dw [a] (A v0 (N 3)) v0 rfl (r5 q0)
def HW:a+3≠a+1:=λq0=>dw [a] (A v0 (N 3)) (S v0) rfl (r5 q0)
def HX:a≠a+1:=λq0=>dw [a] (S v0) v0 rfl (r5 q0.symm)
def DV:a<b->a≠b+4:=λB=>λq0=>aZ [a,b] (S v0) v1 (A v1 (N 4)) v0 rfl B (r5 q0.symm)
def DW:a<b->a≠b+3:=λB=>λq0=>aZ [a,b] (S v0) v1 (A v1 (N 3)) v0 rfl B (r5 q0.symm)
def Av:a<b->a≠b:=λB=>λq0=>aZ [a,b] (S v0) v1 v1 v0 rfl B (r5 q0.symm)
def DX:a<b->a≠b+1:=λB=>λq0=>aZ [a,b] (S v0) v1 (S v1) v0 rfl B (r5 q0.symm)
def HY:a<b->a≠b+c:=λB=>λq0=>aZ [a,b,c] (S v0) v1 (A v1 v2) v0 rfl B (r5 q0.symm)
def Aw:a<=a+3:=dj [a] v0 (A v0 (N 3))  rfl
def DY:a<=a+4:=dj [a] v0 (A v0 (N 4))  rfl
def Ax:a<=a:=dj [a] v0 v0  rfl
def Ay:a<=a+1:=dj [a] v0 (S v0)  rfl
def HZ:a+4≠a+3:=λq0=>dw [a] (A v0 (N 4)) (A v0 (N 3)) rfl (r5 q0)
def Id:a<=a+2:=dj [a] v0 (A v0 (N 2))  rfl
def Ih:a≠a+3:=λq0=>dw [a] (A v0 (N 3)) v0 rfl (r5 q0.symm)
def Ij:a+1≠a+3:=λq0=>dw [a] (A v0 (N 3)) (S v0) rfl (r5 q0.symm)
def Ik:c<b->a<=a+b-1-c:=λB=>aL [a,b,c,((a+b)-1),(((a+b)-1)-c)] v0 v4 (S v2) v1 (A v0 v1) (S v3) v3 (A v4 v2) rfl B (bb (a+b) 1) (bb ((a+b)-1) c)
def Il:a<=c->c<b->a+b-1-c<b:=by omega
def Ip:¬a≥b->a<=(a+b)/2/\(a+b)/2<b:=λB=>⟨B0 λq0=>eD [a,b,((a+b)/2)] (S v0) v1 (A v0 v1) (S (M 2 v2)) (M 2 (S v2)) (M 2 v0) rfl (P8 B) (vp (a+b)) (bP [a,b,((a+b)/2)] 2 (S v2) v0 q0),B0 λq0=>eD [a,b,((a+b)/2)] (S v0) v1 (M 2 v2) (A v0 v1) (M 2 (S v1)) (M 2 (S v2)) rfl (P8 B) (vo (a+b)) (bP [a,b,((a+b)/2)] 2 (S v1) (S v2) q0)⟩
def Iq:a<b->a<b+c:=ak [a,b,c] (S v0) (A v1 v2) (S v0) v1 rfl
def Az:a<=b->a<b+1:=ak [a,b] (S v0) (S v1) v0 v1 rfl
def Iu:a<b->a<=b:=ak [a,b] v0 v1 (S v0) v1 rfl
def DZ{d e:Nat}:max b e<=i->a+i<d->a+min b c<d:=λB F=>aL [a,b,c,d,e,i,(max b e),(min b c)] (S (A v0 v7)) v3 v6 v5 (S (A v0 v5)) v3 (A v1 v7) (A v6 v1) rfl B F (dT [a,b,c,d,e,i,(max b e),(min b c)] v1 v6 v7 v1 (O9 b e) (P0 b c))
def Ea{d:Nat}:a=d+1->d+(b+1)<c->a+b<c:=λB F=>ao [a,b,c,d] (S (A v0 v1)) v2 v0 (S v3) (S (A v3 (S v1))) v2 rfl (r5 B) F
def Iv{d e:Nat}:max b d<=e->a+e<c->a+b<c:=λB F=>aL [a,b,c,d,e,(max b d)] (S (A v0 v1)) v2 v5 v4 (S (A v0 v4)) v2 v1 v5 rfl B F (O9 b d)
def Iw:2<=a->a<2->False:=aZ [a] (N 2) v0 (S v0) (N 2) rfl
def Ix:2<=a->0<a:=ak [a] (S (N 0)) v0 (N 2) v0 rfl
def Iy:b=c->a=b->0<c->0<a:=λB F G=>aL [a,b,c] (S (N 0)) v0 v2 v1 v1 v0 (S (N 0)) v2 rfl (r5 B.symm) (r5 F.symm) G
def IA:a+9<b->a+8<b:=ak [a,b] (S (A v0 (N 8))) v1 (S (A v0 (N 9))) v1 rfl
def IB:a+1<=8->a<=8:=ak [a] v0 (N 8) (S v0) (N 8) rfl
def IC:a=b->2<=b->2<=a:=λB F=>ao [a,b] (N 2) v0 v1 v0 (N 2) v1 rfl (r5 B.symm) F
def ID:b<=8->a+9<c->a+b<c:=ao [a,b,c] (S (A v0 v1)) v2 v1 (N 8) (S (A v0 (N 9))) v2 rfl
def AA :100<=16777216:=by decide
def Eb:100<=b->a<2->a<=b:=ao [a,b] v0 v1 (N 100) v1 (S v0) (N 2) rfl
def IE:a<2->a<=b+1:=ak [a,b] v0 (S v1) (S v0) (N 2) rfl
def IF:a=c->c<64->100<=b->a<=b:=λB F G=>aL [a,b,c] v0 v1 v0 v2 (S v2) (N 64) (N 100) v1 rfl (r5 B) F G
def IG:b=a->b<2->a<2:=λB F=>ao [a,b] (S v0) (N 2) v0 v1 (S v1) (N 2) rfl (r5 B.symm) F
def II:¬a<2->2<=a:=λB=>ak [a] (N 2) v0 (N 2) v0 rfl (B0 B)
def IJ:a=b->b<64->a<64:=λB F=>ao [a,b] (S v0) (N 64) v0 v1 (S v1) (N 64) rfl (r5 B) F
def IK:b=a->¬b<2->2<=a:=λB F=>ao [a,b] (N 2) v0 v1 v0 (N 2) v1 rfl (r5 B) (B0 F)
def IL:a+20<b->a+1+9<b:=ak [a,b] (S (A (S v0) (N 9))) v1 (S (A v0 (N 20))) v1 rfl
def IM:b=a->¬b<2->1<=a:=λB F=>ao [a,b] (N 1) v0 v1 v0 (N 2) v1 rfl (r5 B) (B0 F)
def Ec:a<b+1->a≠b->a<b:=λF G=>(I5 G).elim (λB=>ak [a,b] (S v0) v1 (S v0) v1 rfl B) (λB=>ao [a,b] (S v0) v1 (M 2 (S v0)) (M 2 (S v1)) (S v1) v0 rfl (bP [a,b] 2 (S v0) (S v1) F) B)
def IN:a-1<=b->a<=b+1:=λB=>ao [a,b,(a-1)] v0 (S v1) v2 v1 v0 (S v2) rfl B (bb a 1)
def Ed:a<=b->a<=b+1:=ak [a,b] v0 (S v1) v0 v1 rfl
def Ee:a<=c->c<=b->a<=b:=ao [a,b,c] v0 v1 v0 v2 v2 v1 rfl
def IO:a-c<=0->c<=b->a<=b:=λB F=>aL [a,b,c,(a-c)] v0 v1 v3 (N 0) v2 v1 v0 (A v3 v2) rfl B F (bb a c)
def IP:b<=c->a<b->(a+b)/2<c:=λB F=>B0 λq0=>eD [a,b,c,((a+b)/2)] (M 2 v1) (M 2 v2) (S v0) v1 (A (M 2 v3) (M 2 (S v2))) (A (A v0 v1) (M 2 (S v3))) rfl (bP [a,b,c,((a+b)/2)] 2 v1 v2 B) F (dT [a,b,c,((a+b)/2)] (M 2 v3) (A v0 v1) (M 2 (S v2)) (M 2 (S v3)) (vo (a+b)) (bP [a,b,c,((a+b)/2)] 2 (S v2) (S v3) q0))
def IQ:a<b->(a+b)/2+1<=b:=λB=>B0 λq0=>eD [a,b,((a+b)/2)] (S v0) v1 (M 2 v2) (A v0 v1) (M 2 (S v1)) (M 2 (S v2)) rfl B (vo (a+b)) (bP [a,b,((a+b)/2)] 2 (S v1) (S v2) q0)
def IR:a-b<=c+1->a-((b+a)/2+1)<=c:=λF=>(D3 (((b+a)/2)+1) a).elim (λB=>aL [a,b,c,(a-b),((b+a)/2),(a-(((b+a)/2)+1))] v5 v2 v3 (S v2) v0 (A v3 v1) (A (A v1 v0) (A (S v4) (A v5 (S v4)))) (A (S (M 2 v4)) (A v0 v0)) rfl F (bb a b) (dT [a,b,c,(a-b),((b+a)/2),(a-(((b+a)/2)+1))] (A v1 v0) (S (M 2 v4)) (A (S v4) (A v5 (S v4))) (A v0 v0) (vp (b+a)) (dT [a,b,c,(a-b),((b+a)/2),(a-(((b+a)/2)+1))] (S v4) v0 (A v5 (S v4)) v0 B (r5 (bO B))))) (λB=>ak [a,b,c,(a-b),((b+a)/2),(a-(((b+a)/2)+1))] v5 v2 v5 (N 0) rfl (r5 (C3 B)))
def IS:a<(b+c)/2+1->¬a=(b+c)/2->a<(b+c)/2:=λF G=>(I5 G).elim (λB=>ak [a,b,c,((b+c)/2)] (S v0) v3 (S v0) v3 rfl B) (λB=>ao [a,b,c,((b+c)/2)] (S v0) v3 (M 2 (S v0)) (M 2 (S v3)) (S v3) v0 rfl (bP [a,b,c,((b+c)/2)] 2 (S v0) (S v3) F) B)
def IT:a<b->a<=(a+b)/2:=λB=>B0 λq0=>eD [a,b,((a+b)/2)] (S v0) v1 (A v0 v1) (S (M 2 v2)) (M 2 (S v2)) (M 2 v0) rfl B (vp (a+b)) (bP [a,b,((a+b)/2)] 2 (S v2) v0 q0)
def IU:(a+b)/2<c->(a+b)/2<=c:=ak [a,b,c,((a+b)/2)] v3 v2 (S v3) v2 rfl
def IV:b-a<=c+1->(a+b)/2-a<=c:=by omega
def Ef:¬b<a->a<=b:=λB=>ak [a,b] v0 v1 v0 v1 rfl (B0 B)
def IW:(a+b)/2<=c->¬c=(a+b)/2->(a+b)/2<c:=λF G=>(I5 G).elim (λB=>ao [a,b,c,((a+b)/2)] (S v3) v2 (M 2 v3) (M 2 v2) (S v2) v3 rfl (bP [a,b,c,((a+b)/2)] 2 v3 v2 F) B) (λB=>ak [a,b,c,((a+b)/2)] (S v3) v2 (S v3) v2 rfl B)
def IX:c<b->¬c<a->a<=b:=λB F=>ao [a,b,c] v0 v1 (S v2) v1 v0 v2 rfl B (B0 F)
def IY:c<=b->¬c<a->a<=b:=λB F=>ao [a,b,c] v0 v1 v2 v1 v0 v2 rfl B (B0 F)
def IZ:a-0<=a:=ak [a,(a-0)] v1 v0 v1 v0 rfl (Sw a 0)
def Ja:a<=b->b<a->False:=aZ [a,b] v0 v1 (S v1) v0 rfl
def AB:a<a->False:=dw [a] (S v0) v0 rfl
def wV:a<b+1->a<=b:=ak [a,b] v0 v1 (S v0) (S v1) rfl
def Jb:a+1<=a->False:=dw [a] (S v0) v0 rfl
def Eg:a<a+1:=dj [a] (S v0) (S v0)  rfl
def Jc:a<b+1->b<a->False:=aZ [a,b] (S v0) (S v1) (S v1) v0 rfl
def Eh:a<0->False:=dw [a] (S v0) (N 0) rfl
def Je:a<=b->a≠b->a<b:=λF G=>(I5 G).elim (λB=>ak [a,b] (S v0) v1 (S v0) v1 rfl B) (λB=>ao [a,b] (S v0) v1 (M 2 v0) (M 2 v1) (S v1) v0 rfl (bP [a,b] 2 v0 v1 F) B)
def AC:a+1+b=a+b+1:=A8 (dj [a,b] (A (S v0) v1) (S (A v0 v1))  rfl ) (dj [a,b] (S (A v0 v1)) (A (S v0) v1)  rfl )
def Jf:b+1<=a->a>0:=ak [a,b] (S (N 0)) v0 (S v1) v0 rfl
def Jg:a+1<=b->a<=b-1:=λB=>ao [a,b,(b-1)] v0 v2 (S v0) v1 v1 (S v2) rfl B (bb b 1)
def Ei:a+1+b=a+(b+1):=A8 (dj [a,b] (A (S v0) v1) (A v0 (S v1))  rfl ) (dj [a,b] (A v0 (S v1)) (A (S v0) v1)  rfl )
def Jh:a-1-b=a-(b+1):=by rw[Nat.sub_sub,Nat.add_comm]
def Ji:¬a-b-(a-b)>0:=(D3 b a).elim (λF=>(D3 (a-b) (a-b)).elim (λB=>λq0=>aZ [a,b,(a-b),((a-b)-(a-b))] (A v3 v2) v2 (S (N 0)) v3 rfl (r5 (bO B)) q0) (λB=>λq0=>aZ [a,b,(a-b),((a-b)-(a-b))] v3 (N 0) (S (N 0)) v3 rfl (r5 (C3 B)) q0)) (λF=>λq0=>eD [a,b,(a-b),((a-b)-(a-b))] v3 v2 v2 (N 0) (S (N 0)) v3 rfl (Sw (a-b) (a-b)) (r5 (C3 F)) q0)
def Jj:a+9<=b->a+9-a<=9/\(a<=b->a+9<=b)/\a<=a+9:=λh=>⟨by rw[Nat.add_sub_cancel_left];decide,λ_=>h,G8 a 9⟩
theorem Jk:a-a<=9/\(a<=b->a<=b)/\a<=a:=⟨by rw[Nat.sub_self];decide,id,z7 a⟩
def Jm{d:Nat}:a-b<=9->c<=10*d->a-b+1+c<=10*(d+1):=ao [a,b,c,d,(a-b)] (A (S v4) v2) (M 10 (S v3)) v4 (N 9) v2 (M 10 v3) rfl
def Jn:a<=c->a-b<=c:=λB=>ao [a,b,c,(a-b)] v3 v2 v0 v2 v3 v0 rfl B (Sw a b)
def Jo:a<=b->a+(b-a)=b:=λF=>(D3 a b).elim (λB=>A8 (ak [a,b,(b-a)] (A v0 v2) v1 (A v2 v0) v1 rfl (r5 (bO B))) (ak [a,b,(b-a)] v1 (A v0 v2) v1 (A v2 v0) rfl (bb b a))) (λB=>A8 (ao [a,b,(b-a)] (A v0 v2) v1 v0 v1 v2 (N 0) rfl F (r5 (C3 B))) (ak [a,b,(b-a)] v1 (A v0 v2) v1 v0 rfl B))
def Jp:¬c<=b->a+1+b-c<=a:=λF=>(D3 c ((a+1)+b)).elim (λB=>ao [a,b,c,(((a+1)+b)-c)] v3 v0 (S v1) v2 (A v3 v2) (A (S v0) v1) rfl (P8 F) (r5 (bO B))) (λB=>ak [a,b,c,(((a+1)+b)-c)] v3 v0 v3 (N 0) rfl (r5 (C3 B)))
def Jq:a<=b->a+(b+1+c-a)=b+1+c:=λF=>(D3 a ((b+1)+c)).elim (λB=>A8 (ak [a,b,c,(((b+1)+c)-a)] (A v0 v3) (A (S v1) v2) (A v3 v0) (A (S v1) v2) rfl (r5 (bO B))) (ak [a,b,c,(((b+1)+c)-a)] (A (S v1) v2) (A v0 v3) (A (S v1) v2) (A v3 v0) rfl (bb ((b+1)+c) a))) (λB=>A8 (ao [a,b,c,(((b+1)+c)-a)] (A v0 v3) (A (S v1) v2) v0 v1 v3 (N 0) rfl F (r5 (C3 B))) (ak [a,b,c,(((b+1)+c)-a)] (A (S v1) v2) (A v0 v3) (A (S v1) v2) v0 rfl B))
def Jr{a:Int}:a<(2:Int)^64->a.toNat<(2:Nat)^64:=λh=>(Int.toNat_lt' (by decide)).mpr h
def Js:a<=b->13+a<=13+b:=ak [a,b] (A (N 13) v0) (A (N 13) v1) v0 v1 rfl
def Jt:a<=10*c->c<=13+b->a<10*(b+15):=λB F=>ao [a,b,c] (S v0) (M 10 (A v1 (N 15))) v0 (M 10 v2) (M 10 v2) (M 10 (A (N 13) v1)) rfl B (bP [a,b,c] 10 v2 (A (N 13) v1) F)
def Ju:a+1<=b+1->a<=b+1:=ak [a,b] v0 (S v1) (S v0) (S v1) rfl
def tD:a<b->a<b+1:=ak [a,b] (S v0) (S v1) (S v0) v1 rfl
def Jv:a<=b-1->0<b->a+1<=b:=λF G=>(D3 1 b).elim (λB=>ao [a,b,(b-1)] (S v0) v1 v0 v2 (S v2) v1 rfl F (r5 (bO B))) (λB=>aL [a,b,(b-1)] (S v0) v1 v0 v2 (S (N 0)) v1 v2 (N 0) rfl F G (r5 (C3 B)))
def AD:a+1<=b->b<=a->False:=aZ [a,b] (S v0) v1 v1 v0 rfl
def Jw:0<a+1:=dj [a] (S (N 0)) (S v0)  rfl
def AE:a+1<b+1->a<b:=ak [a,b] (S v0) v1 (S (S v0)) (S v1) rfl
def Jx:a<b->a+1<b+1:=ak [a,b] (S (S v0)) (S v1) (S v0) v1 rfl
def Jy:a<=b->min a b=a:=λF=>(D3 a b).elim (λB=>A8 (ak [a,b,(min a b)] v2 v0 v2 v0 rfl (P0 a b)) (ak [a,b,(min a b)] v0 v2 v0 v2 rfl (r5 (Q7 B).symm))) (λB=>A8 (ak [a,b,(min a b)] v2 v0 v2 v0 rfl (P0 a b)) (ao [a,b,(min a b)] v0 v2 v0 v1 v1 v2 rfl F (r5 (P9 B).symm)))
def Jz:¬a=b->¬a<b->¬a-b=0:=λF G=>(I5 F).elim (λB=>λq0=>aZ [a,b,(a-b)] v1 v0 (S v0) v1 rfl (B0 G) B) (λB=>λq0=>eD [a,b,(a-b)] v0 (A v2 v1) (S v1) v0 v2 (N 0) rfl (bb a b) B (r5 q0))
def JA:¬b=a->¬b<a->a+(b-a-1)=b-1:=λB F=>by obtain⟨k,rfl⟩:=Nat.exists_eq_add_of_lt (Nat.lt_of_le_of_ne (B0 F) (Tc B));rw[O6,Nat.add_sub_cancel_left,Nat.add_sub_cancel,<- O6,Nat.add_sub_cancel]
def JB:min a b+(b-a+1)=b+1:=by omega
def JC:a*5<7*3->a<7:=λB=>B0 λq0=>aZ [a] (S (R v0 5)) (N 21) (M 3 (S (N 7))) (M 3 (S v0)) rfl B (bP [a] 3 (S (N 7)) (S v0) q0)
def JD:a*5<31*3->a<31:=λB=>B0 λq0=>aZ [a] (S (R v0 5)) (N 93) (M 3 (S (N 31))) (M 3 (S v0)) rfl B (bP [a] 3 (S (N 31)) (S v0) q0)
def JE:a*5<127*3->a<127:=λB=>B0 λq0=>aZ [a] (S (R v0 5)) (N 381) (M 3 (S (N 127))) (M 3 (S v0)) rfl B (bP [a] 3 (S (N 127)) (S v0) q0)
def JF:b>0->a+b<=c->a+1+(b-1)<=c:=λG F=>(D3 1 b).elim (λB=>ao [a,b,c,(b-1)] (A (S v0) v3) v2 (A v0 v1) v2 (S v3) v1 rfl F (r5 (bO B))) (λB=>aL [a,b,c,(b-1)] (A (S v0) v3) v2 (S (N 0)) v1 (A v0 v1) v2 v3 (N 0) rfl G F (r5 (C3 B)))
def Ej:(a<=c->b<=c)->a<=c->a+(b-a)<=c:=λh q=>(D3 a b).elim (λz=>by rw[Q6 z];exact h q) (λz=>by rw[C3 z];exact q)
def Ek{d:Nat}:d<=c->b<d+1-a->a+b<c+1:=λG F=>(D3 a (d+1)).elim (λB=>aL [a,b,c,d,((d+1)-a)] (S (A v0 v1)) (S v2) v3 v2 (S v1) v4 (A v4 v0) (S v3) rfl G F (r5 (bO B))) (λB=>B0 λq0=>aZ [a,b,c,d,((d+1)-a)] (S v1) v4 v4 (N 0) rfl F (r5 (C3 B)))
def El:a<b+1-c->a<=b-c:=λF=>(D3 c (b+1)).elim (λB=>aL [a,b,c,((b+1)-c),(b-c)] v0 v4 (S v0) v3 v1 (A v4 v2) (A v3 v2) (S v1) rfl F (bb b c) (r5 (bO B))) (λB=>ao [a,b,c,((b+1)-c),(b-c)] v0 v4 (S v0) v3 v3 (N 0) rfl F (r5 (C3 B)))
def JG{d:Nat}:d<=c->b<d+1-a->a+b<=c:=λG F=>(D3 a (d+1)).elim (λB=>aL [a,b,c,d,((d+1)-a)] (A v0 v1) v2 v3 v2 (S v1) v4 (A v4 v0) (S v3) rfl G F (r5 (bO B))) (λB=>B0 λq0=>aZ [a,b,c,d,((d+1)-a)] (S v1) v4 v4 (N 0) rfl F (r5 (C3 B)))
def JH{d:Nat}:a<d->d<b+1-c->a<b+1-c:=ao [a,b,c,d,((b+1)-c)] (S v0) v4 (S v0) v3 (S v3) v4 rfl
def En:b<=a->0<a+1-b:=λB=>ao [a,b,((a+1)-b)] (S (N 0)) v2 v1 v0 (S v0) (A v2 v1) rfl B (bb (a+1) b)
def Eo:c<=b->a<b-c+1->a<b+1-c:=λG F=>(D3 c b).elim (λB=>aL [a,b,c,(b-c),((b+1)-c)] (S v0) v4 (S v0) (S v3) (S v1) (A v4 v2) (A v3 v2) v1 rfl F (bb (b+1) c) (r5 (bO B))) (λB=>aL [a,b,c,(b-c),((b+1)-c)] (S v0) v4 v2 v1 (S v0) (S v3) (A (S v1) v3) (A (A v4 v2) (N 0)) rfl G F (dT [a,b,c,(b-c),((b+1)-c)] (S v1) (A v4 v2) v3 (N 0) (bb (b+1) c) (r5 (C3 B))))
def JI:¬a<b-c+1->a=b-c+1+(a-(b-c+1)):=by omega
def JJ{d:Nat}:a=b-c+1+(a-(b-c+1))->a<b-c+1+d->a-(b-c+1)<d:=λB F=>ao [a,b,c,d,(b-c),(a-((b-c)+1))] (S v5) v3 (A (S v4) v5) v0 (S v0) (A (S v4) v3) rfl (r5 B.symm) F
def JK:c<=b->a<c->a<=b:=ao [a,b,c] v0 v1 v2 v1 (S v0) v2 rfl
def JL:a<=13+b->a<b+15:=ak [a,b] (S v0) (A v1 (N 15)) v0 (A (N 13) v1) rfl
def wW:a<b+1->¬a=b->a<b:=λF G=>(I5 G).elim (λB=>ak [a,b] (S v0) v1 (S v0) v1 rfl B) (λB=>ao [a,b] (S v0) v1 (M 2 (S v0)) (M 2 (S v1)) (S v1) v0 rfl (bP [a,b] 2 (S v0) (S v1) F) B)
def JM:c=a->c=b->a=b:=λB F=>A8 (ao [a,b,c] v0 v1 v0 v2 v2 v1 rfl (r5 B.symm) (r5 F)) (ao [a,b,c] v1 v0 v2 v0 v1 v2 rfl (r5 B) (r5 F.symm))
def JN:a=c->¬b<c->a<=b:=λB F=>ao [a,b,c] v0 v1 v0 v2 v2 v1 rfl (r5 B) (B0 F)
def AF:a=b->a<b->False:=λB F=>aZ [a,b] v1 v0 (S v0) v1 rfl (r5 B.symm) F
def JO:a<=64->¬a>50000:=λB=>λq0=>aZ [a] v0 (N 64) (S (N 50000)) v0 rfl B q0
def JP:a*5≥7*3->(a-1)*5<7*3->a=5:=λB F=>A8 (B0 λq0=>eD [a,(a-1)] (S (R v1 5)) (N 21) (M 5 v0) (M 5 (S v1)) (M 5 (S (N 5))) (M 5 v0) rfl F (bP [a,(a-1)] 5 v0 (S v1) (bb a 1)) (bP [a,(a-1)] 5 (S (N 5)) v0 q0)) (B0 λq0=>aZ [a,(a-1)] (N 21) (R v0 5) (M 5 (S v0)) (M 5 (N 5)) rfl B (bP [a,(a-1)] 5 (S v0) (N 5) q0))
def JQ :5*5<31*3:=by decide
def JR:a*5≥31*3->(a-1)*5<31*3->a=19:=λB F=>A8 (B0 λq0=>eD [a,(a-1)] (S (R v1 5)) (N 93) (M 5 v0) (M 5 (S v1)) (M 5 (S (N 19))) (M 5 v0) rfl F (bP [a,(a-1)] 5 v0 (S v1) (bb a 1)) (bP [a,(a-1)] 5 (S (N 19)) v0 q0)) (B0 λq0=>aZ [a,(a-1)] (N 93) (R v0 5) (M 5 (S v0)) (M 5 (N 19)) rfl B (bP [a,(a-1)] 5 (S v0) (N 19) q0))
def JS :19*5<127*3:=by decide
def JT:a*5≥127*3->a<=64->False:=λB F=>aZ [a] (N 381) (R v0 5) (M 5 v0) (M 5 (N 64)) rfl B (bP [a] 5 v0 (N 64) F)
def JU:a*5≥b*3->a*5<7*3->b=7\/b=31\/b=127->False:=λh k z=>absurd (z0 h k) (by rcases z with rfl|rfl|rfl <;> decide)
def JV:a*5<31*3->a<=31:=λB=>B0 λq0=>aZ [a] (S (R v0 5)) (N 93) (M 3 (S (N 31))) (M 3 v0) rfl B (bP [a] 3 (S (N 31)) v0 q0)
def JW:a*5<127*3->a<=127:=λB=>B0 λq0=>aZ [a] (S (R v0 5)) (N 381) (M 3 (S (N 127))) (M 3 v0) rfl B (bP [a] 3 (S (N 127)) v0 q0)
def JX:a<=128->a<=16777216:=ak [a] v0 (N 16777216) v0 (N 128) rfl
def JY{d:Nat}:b<=8->a+9<d->a+min b c<d:=λB F=>aL [a,b,c,d,(min b c)] (S (A v0 v4)) v3 v1 (N 8) (S (A v0 (N 9))) v3 v4 v1 rfl B F (P0 b c)
def JZ:b<a->a-b-1<a:=λG=>(D3 b a).elim (λB=>(D3 1 (a-b)).elim (λF=>ao [a,b,(a-b),((a-b)-1)] (S v3) v0 (A v2 v1) v0 (S v3) v2 rfl (r5 (bO B)) (r5 (bO F))) (λF=>ao [a,b,(a-b),((a-b)-1)] (S v3) v0 (S v1) v0 v3 (N 0) rfl G (r5 (C3 F)))) (λB=>aL [a,b,(a-b),((a-b)-1)] (S v3) v0 (S v1) v0 v3 v2 v2 (N 0) rfl G (Sw (a-b) 1) (r5 (C3 B)))
def Ka:a<10*c->a-b-1<10*c:=λB=>aL [a,b,c,(a-b),((a-b)-1)] (S v4) (M 10 v2) (S v0) (M 10 v2) v3 v0 v4 v3 rfl B (Sw a b) (Sw (a-b) 1)
def Kb:a<c+1->b<a->a-b-1<c:=λF G=>(D3 1 (a-b)).elim (λB=>aL [a,b,c,(a-b),((a-b)-1)] (S v4) v2 (S v0) (S v2) v3 v0 (S v4) v3 rfl F (Sw a b) (r5 (bO B))) (λB=>aL [a,b,c,(a-b),((a-b)-1)] (S v4) v2 (S v0) (S v2) (S v1) v0 v4 (N 0) rfl F G (r5 (C3 B)))
def Kc:a<b->a+1+(b-a-1)=b:=by omega
def Ke:b<=c-a-1->a<c->a+1+b<=c:=λh k=>by rw[Nat.sub_sub]at h;exact Nat.add_le_of_le_sub' k h
def Kf:a<b+1+c->¬a=b->¬a<b->a-(b+1)<c:=λG J O=>(I5 J).elim (λB=>B0 λq0=>aZ [a,b,c,(a-(b+1))] v1 v0 (S v0) v1 rfl (B0 O) B) (λB=>(D3 (b+1) a).elim (λF=>ao [a,b,c,(a-(b+1))] (S v3) v2 (S v0) (A (S v1) v2) (A v3 (S v1)) v0 rfl G (r5 (bO F))) (λF=>aL [a,b,c,(a-(b+1))] (S v3) v2 (S v0) (A (S v1) v2) (S v1) v0 v3 (N 0) rfl G B (r5 (C3 F))))
def Kg:¬b=a->¬b<a->a+1+(b-(a+1))=b:=λG J=>(I5 G).elim (λB=>A8 (B0 λq0=>aZ [a,b,(b-(a+1))] v0 v1 (S v1) v0 rfl (B0 J) B) (ak [a,b,(b-(a+1))] v1 (A (S v0) v2) (S v1) v0 rfl B)) (λB=>(D3 (a+1) b).elim (λF=>A8 (ak [a,b,(b-(a+1))] (A (S v0) v2) v1 (A v2 (S v0)) v1 rfl (r5 (bO F))) (ak [a,b,(b-(a+1))] v1 (A (S v0) v2) v1 (A v2 (S v0)) rfl (bb b (a+1)))) (λF=>A8 (ao [a,b,(b-(a+1))] (A (S v0) v2) v1 (S v0) v1 v2 (N 0) rfl B (r5 (C3 F))) (ak [a,b,(b-(a+1))] v1 (A (S v0) v2) v1 (S v0) rfl F)))
def Kh:a<=100->a<=16777216:=ak [a] v0 (N 16777216) v0 (N 100) rfl
def Ki:a<=b->¬a>b:=λB=>λq0=>aZ [a,b] v0 v1 (S v1) v0 rfl B q0
def Kj:a<=64->a<=100:=ak [a] v0 (N 100) v0 (N 64) rfl
def Kk:10*b<=100000->a<10*b->a<100000:=ao [a,b] (S v0) (N 100000) (M 10 v1) (N 100000) (S v0) (M 10 v1) rfl
def AG:a=b+1->b<64->a<=100:=λB F=>ao [a,b] v0 (N 100) v0 (S v1) (S v1) (N 64) rfl (r5 B) F
def Ep:a=b+1->b<64->a<=64:=λB F=>ao [a,b] v0 (N 64) v0 (S v1) (S v1) (N 64) rfl (r5 B) F
def Kl:a=c+1->(c+1)*5≥b*3->a*5≥b*3:=λB F=>ao [a,b,c] (R v1 3) (R v0 5) (M 5 (S v2)) (M 5 v0) (R v1 3) (R (S v2) 5) rfl (bP [a,b,c] 5 (S v2) v0 (r5 B.symm)) F
def Er{d e:Nat}:c=d->e<d->a=e+1->b=c->a<=b:=λB F G J=>aL [a,b,c,d,e] v0 v1 v3 v2 (S v4) v3 (A v0 v2) (A (S v4) v1) rfl (r5 B.symm) F (dT [a,b,c,d,e] v0 (S v4) v2 v1 (r5 G) (r5 J.symm))
def Km:¬(a+1)*5≥b*3->(a+1)*5<b*3:=λB=>ak [a,b] (S (R (S v0) 5)) (R v1 3) (S (R (S v0) 5)) (R v1 3) rfl (P8 B)
def Kn{a:Int}:a+(1:Int)=a->False:=λh=>Int.ne_of_gt (Int.lt_add_one_of_le (Int.le_refl a)) h
def Ko:¬a*5≥b*3->a*5<b*3:=λB=>ak [a,b] (S (R v0 5)) (R v1 3) (S (R v0 5)) (R v1 3) rfl (P8 B)
def Es:b-a=0->a<=b->a=b:=λB F=>A8 (ak [a,b,(b-a)] v0 v1 v0 v1 rfl F) (ao [a,b,(b-a)] v1 v0 v2 (N 0) v1 (A v2 v0) rfl (r5 B) (bb b a))
def Et:b-a=c+1->a<b:=λF=>(D3 a b).elim (λB=>ao [a,b,c,(b-a)] (S v0) v1 (S v2) v3 (A v3 v0) v1 rfl (r5 F.symm) (r5 (bO B))) (λB=>B0 λq0=>aZ [a,b,c,(b-a)] (S v2) v3 v3 (N 0) rfl (r5 F.symm) (r5 (C3 B)))
def Kp{d:Nat}:a=d+1->d+10<c->b<=8->a+b<c:=λB F G=>aL [a,b,c,d] (S (A v0 v1)) v2 v0 (S v3) (S (A v3 (N 10))) v2 v1 (N 8) rfl (r5 B) F G
def Kq{d:Nat}:b=c->d<b->a<=d->c<64->a<64:=λB F G J=>aL [a,b,c,d] (S v0) (N 64) v1 v2 (S v3) v1 (A v0 (S v2)) (A v3 (N 64)) rfl (r5 B) F (dT [a,b,c,d] v0 v3 (S v2) (N 64) G J)
def AI:a-b=c+1->a-(b+1)=c:=λh=>by rw[<- Nat.sub_sub,h];rfl
def Kr:a+30<b->a+1+1+10<b:=ak [a,b] (S (A (S (S v0)) (N 10))) v1 (S (A v0 (N 30))) v1 rfl
def Ks:c=b->a<=c->a<=b:=λB F=>ao [a,b,c] v0 v1 v2 v1 v0 v2 rfl (r5 B) F
def Kt:b+1=a->0<a:=λB=>ak [a,b] (S (N 0)) v0 (S v1) v0 rfl (r5 B)
def Eu:a+1=b->a=b-1:=λF=>(D3 1 b).elim (λB=>A8 (ao [a,b,(b-1)] v0 v2 (S v0) v1 v1 (S v2) rfl (r5 F) (bb b 1)) (ao [a,b,(b-1)] v2 v0 v1 (S v0) (S v2) v1 rfl (r5 F.symm) (r5 (bO B)))) (λB=>A8 (ao [a,b,(b-1)] v0 v2 (S v0) v1 v1 (N 1) rfl (r5 F) B) (ak [a,b,(b-1)] v2 v0 v2 (N 0) rfl (r5 (C3 B))))
def Ku:a+1<=b->a<b:=ak [a,b] (S v0) v1 (S v0) v1 rfl
def Ew:a=b->a<=b:=λB=>ak [a,b] v0 v1 v0 v1 rfl (r5 B)
def Ey:100<=b->a<=100->a<=b:=ao [a,b] v0 v1 (N 100) v1 v0 (N 100) rfl
def Ez:a=c->c<=b->a<=b:=λB F=>ao [a,b,c] v0 v1 v0 v2 v2 v1 rfl (r5 B) F
def Kv:a<=c->c<=b->a+1<=b+1:=ao [a,b,c] (S v0) (S v1) v0 v2 v2 v1 rfl
def Kw:a+10*b<9700->a+1+20<9900:=ak [a,b] (S (A (S v0) (N 20))) (N 9900) (S (A v0 (M 10 v1))) (N 9700) rfl
def Kx:a<=b->b<64->a<=100:=ao [a,b] v0 (N 100) v0 v1 (S v1) (N 64) rfl
def Ky:a+10*b<9700->a+30<9900:=ak [a,b] (S (A v0 (N 30))) (N 9900) (S (A v0 (M 10 v1))) (N 9700) rfl
def Kz:(0:Int)<=(↑a:Int):=J9 a
def tE :0<=8:=by decide
def KA:a+b<=c->c<=60->a<2^20:=ao [a,b,c] (S v0) (N 1048576) (A v0 v1) v2 v2 (N 60) rfl
def KB:a+(b+c)<2^20->a+b<2^20:=ak [a,b,c] (S (A v0 v1)) (N 1048576) (S (A v0 (A v1 v2))) (N 1048576) rfl
def KC:a+(b+c)<2^20->a+b+c<2^20:=ak [a,b,c] (S (A (A v0 v1) v2)) (N 1048576) (S (A v0 (A v1 v2))) (N 1048576) rfl
def KD:b<=a->¬(↑a:Int)<(↑b:Int):=λh=>Int.not_lt.mpr (Int.ofNat_le.mpr h)
def KE{d:Nat}:a<=d->b<=c->a+b<=c+d:=ao [a,b,c,d] (A v0 v1) (A v2 v3) v0 v3 v1 v2 rfl
def KF:b=1+c->a+1<=a+b:=λB=>ak [a,b,c] (S v0) (A v0 v1) (A (N 1) v2) v1 rfl (r5 B.symm)
def KG:c=1+b->a+b<=a+c:=λB=>ak [a,b,c] (A v0 v1) (A v0 v2) (A (N 1) v1) v2 rfl (r5 B.symm)
def KH{d:Nat}:d=b+c->a+b+c<=a+d:=λB=>ak [a,b,c,d] (A (A v0 v1) v2) (A v0 v3) (A v1 v2) v3 rfl (r5 B.symm)
def KJ:b<=c->a<=b->c<=60->a<=60:=aL [a,b,c] v0 (N 60) v1 v2 v0 v1 v2 (N 60) rfl
def KK:a=b->b<=2^18->a<=1048576:=λB F=>ao [a,b] v0 (N 1048576) v0 v1 v1 (N 262144) rfl (r5 B) F
def EA:¬a=b->¬(↑a:Int)=(↑b:Int):=λh e=>h (R5 e)
def KL:a+(b+1)<2^20->a<2^20:=ak [a,b] (S v0) (N 1048576) (S (A v0 (S v1))) (N 1048576) rfl
def KM:a+(b+1)<2^20->a+1+b<1048576:=ak [a,b] (S (A (S v0) v1)) (N 1048576) (S (A v0 (S v1))) (N 1048576) rfl
def KN:a<=c->b<=c->max a b<=c:=λF G=>(D3 a b).elim (λB=>ao [a,b,c,(max a b)] v3 v2 v1 v2 v3 v1 rfl G (r5 (M6 B))) (λB=>ao [a,b,c,(max a b)] v3 v2 v0 v2 v3 v0 rfl F (r5 (M0 B)))
def KP:a<=1->a+1<=2:=ak [a] (S v0) (N 2) v0 (N 1) rfl
def KQ:a<=2->a<=8:=ak [a] v0 (N 8) v0 (N 2) rfl
def KR:4+a+1<=5+a:=dj [a] (S (A (N 4) v0)) (A (N 5) v0)  rfl
def KS:2<=4+a:=dj [a] (N 2) (A (N 4) v0)  rfl
def KT:a<60->0+a<=500:=ak [a] (A (N 0) v0) (N 500) (S v0) (N 60) rfl
def KU:a<60->0+a<=60:=ak [a] (A (N 0) v0) (N 60) (S v0) (N 60) rfl
def KV:b<=c->a=b->c<=2^18->a<=1048576:=λB F G=>aL [a,b,c] v0 (N 1048576) v1 v2 v0 v1 v2 (N 262144) rfl B (r5 F) G
def KW:a<64->a<=16384:=ak [a] v0 (N 16384) (S v0) (N 64) rfl
def KY{d:Nat}:d+(b+1)<=c->a<=d+1->a+b<=c:=ao [a,b,c,d] (A v0 v1) v2 (A v3 (S v1)) v2 v0 (S v3) rfl
def KZ:18<=18+a:=dj [a] (N 18) (A (N 18) v0)  rfl
def La:18<=a->b<18->a≠b:=λB F=>λq0=>eD [a,b] (N 18) v0 (S v1) (N 18) v0 v1 rfl B F (r5 q0)
def Lb:(↑a:Int)=(↑b:Int)->a=b:=R5
def Lc{d:Nat}:max c d=b->min c d=a->¬c=d->a<b:=λF G J=>(I5 J).elim (λB=>aL [a,b,c,d,(max c d),(min c d)] (S v0) v1 v4 v1 v0 v5 (A v3 (A v5 (S v2))) (A v4 (A v2 v3)) rfl (r5 F) (r5 G.symm) (dT [a,b,c,d,(max c d),(min c d)] v3 v4 (A v5 (S v2)) (A v2 v3) (M5 c d) (dT [a,b,c,d,(max c d),(min c d)] v5 v2 (S v2) v3 (P0 c d) B))) (λB=>aL [a,b,c,d,(max c d),(min c d)] (S v0) v1 v4 v1 v0 v5 (A v2 (A v5 (S v3))) (A v4 (A v3 v2)) rfl (r5 F) (r5 G.symm) (dT [a,b,c,d,(max c d),(min c d)] v2 v4 (A v5 (S v3)) (A v3 v2) (O9 c d) (dT [a,b,c,d,(max c d),(min c d)] v5 v3 (S v3) v2 (M9 c d) B)))
def Ld{d:Nat}:max c d=a->c<b->d<b->a<b:=λF G J=>(D3 c d).elim (λB=>aL [a,b,c,d,(max c d)] (S v0) v1 v0 v4 (S v3) v1 v4 v3 rfl (r5 F.symm) J (r5 (M6 B))) (λB=>aL [a,b,c,d,(max c d)] (S v0) v1 v0 v4 (S v2) v1 v4 v2 rfl (r5 F.symm) G (r5 (M0 B)))
def Le:a≠b->¬(↑a:Int)=(↑b:Int):=λh e=>h (R5 e)
def Lf{d:Nat}:¬a=b->(↑a:Int)=(↑b:Int)->c=d:=λh q=>absurd (R5 q) h
def Lg:a=b->a<=b+c:=λB=>ak [a,b,c] v0 (A v1 v2) v0 v1 rfl (r5 B)
def Lh:a<=c->a<=b+c:=ak [a,b,c] v0 (A v1 v2) v0 v2 rfl
def Li{d:Nat}:b+a+200*c<=d+200*d->d<=60->a<2^19:=λB F=>ao [a,b,c,d] (S v0) (N 524288) (A (A v1 v0) (M 200 v2)) (A v3 (M 200 v3)) (M 201 v3) (M 201 (N 60)) rfl B (bP [a,b,c,d] 201 v3 (N 60) F)
def Lj:17≠18+a+b:=λq0=>dw [a,b] (A (A (N 18) v0) v1) (N 17) rfl (r5 q0.symm)
def EB:16≠18+a+b:=λq0=>dw [a,b] (A (A (N 18) v0) v1) (N 16) rfl (r5 q0.symm)
def lS:a<b->¬a=b:=λB=>λq0=>aZ [a,b] (S v0) v1 v1 v0 rfl B (r5 q0.symm)
def Lk:0<a->a-1+1=a:=λF=>(D3 1 a).elim (λB=>A8 (ak [a,(a-1)] (S v1) v0 (S v1) v0 rfl (r5 (bO B))) (ak [a,(a-1)] v0 (S v1) v0 (S v1) rfl (bb a 1))) (λB=>A8 (ao [a,(a-1)] (S v1) v0 (S (N 0)) v0 v1 (N 0) rfl F (r5 (C3 B))) (ak [a,(a-1)] v0 (S v1) v0 (N 1) rfl B))
def Ll:a+b=b+a:=A8 (dj [a,b] (A v0 v1) (A v1 v0)  rfl ) (dj [a,b] (A v1 v0) (A v0 v1)  rfl )
def Lm{d:Nat}:b+c=d->a+b+c=a+d:=λB=>A8 (ak [a,b,c,d] (A (A v0 v1) v2) (A v0 v3) (A v1 v2) v3 rfl (r5 B)) (ak [a,b,c,d] (A v0 v3) (A (A v0 v1) v2) v3 (A v1 v2) rfl (r5 B.symm))
def Ln:a+b+c=c+b+a:=A8 (dj [a,b,c] (A (A v0 v1) v2) (A (A v2 v1) v0)  rfl ) (dj [a,b,c] (A (A v2 v1) v0) (A (A v0 v1) v2)  rfl )
def Lp{d e:Nat}:b+c=d+e->a+b+c=a+d+e:=λB=>A8 (ak [a,b,c,d,e] (A (A v0 v1) v2) (A (A v0 v3) v4) (A v1 v2) (A v3 v4) rfl (r5 B)) (ak [a,b,c,d,e] (A (A v0 v3) v4) (A (A v0 v1) v2) (A v3 v4) (A v1 v2) rfl (r5 B.symm))
def Lq{d:Nat}:c=d->c<=b->a<d->a<=b:=λB F G=>aL [a,b,c,d] v0 v1 v3 v2 v2 v1 (S v0) v3 rfl (r5 B.symm) F G
def Lr:a=c->c<b->¬a=b:=λB F=>λq0=>eD [a,b,c] v0 v2 (S v2) v1 v1 v0 rfl (r5 B) F (r5 q0.symm)
def Ls{d e:Nat}:a+c=d+(c+e)->d+e=i->i<=2*b->a<=2*b:=λB F G=>aL [a,b,c,d,e,i] v0 (M 2 v1) (A v0 v2) (A v3 (A v2 v4)) (A v3 v4) v5 v5 (M 2 v1) rfl (r5 B) (r5 F) G
def Lu{d e:Nat}:d+1=i->a+b+200*i<=e+200*e->c<=2*e->e<=60->a+(b+c)+200*d<=e+200*e:=λB F G J=>aL [a,b,c,d,e,i] (A (A v0 (A v1 v2)) (M 200 v3)) (A v4 (M 200 v4)) (M 200 (S v3)) (M 200 v5) (A (A v0 v1) (M 200 v5)) (A v4 (M 200 v4)) (A v2 (M 2 v4)) (A (M 2 v4) (M 2 (N 60))) rfl (bP [a,b,c,d,e,i] 200 (S v3) v5 (r5 B)) F (dT [a,b,c,d,e,i] v2 (M 2 v4) (M 2 v4) (M 2 (N 60)) G (bP [a,b,c,d,e,i] 2 v4 (N 60) J))
def Lv{d e:Nat}:b+1=e->a+e<=c+d->a+1+b<=c+d:=λB F=>ao [a,b,c,d,e] (A (S v0) v1) (A v2 v3) (S v1) v4 (A v0 v4) (A v2 v3) rfl (r5 B) F
def EC{d:Nat}:b+1=d->a+d<=c->a+1+b<=c:=λB F=>ao [a,b,c,d] (A (S v0) v1) v2 (S v1) v3 (A v0 v3) v2 rfl (r5 B) F
def Lw{d e:Nat}:e<=2*i->b=d+e->i<=60->a+1=c->a*1000+b<c*1000+d:=λB F G J=>by subst F J;rw[Nat.add_mul,O6,Nat.one_mul,Nat.add_comm 1000 d];exact Nat.add_lt_add_left (Nat.add_lt_add_left (z0 (s7 B (Nat.mul_le_mul_left 2 G)) (by decide)) d) _
def Ly{d:Nat}:a+b+1+200*c<=d+200*d->a+1+b+200*c<=d+200*d:=ak [a,b,c,d] (A (A (S v0) v1) (M 200 v2)) (A v3 (M 200 v3)) (A (S (A v0 v1)) (M 200 v2)) (A v3 (M 200 v3)) rfl
def LA{d:Nat}:a+b+1+200*c<=d+200*d->d<=60->a<2^20:=λB F=>ao [a,b,c,d] (S v0) (N 1048576) (A (S (A v0 v1)) (M 200 v2)) (A v3 (M 200 v3)) (M 201 v3) (M 201 (N 60)) rfl B (bP [a,b,c,d] 201 v3 (N 60) F)
def ED :2<=3:=by decide
def LB{d e:Nat}:e=b+1->a+e+200*c<=d+200*d->a+b+200*c<=d+200*d:=λB F=>ao [a,b,c,d,e] (A (A v0 v1) (M 200 v2)) (A v3 (M 200 v3)) (S v1) v4 (A (A v0 v4) (M 200 v2)) (A v3 (M 200 v3)) rfl (r5 B.symm) F
def LC:c=b+1->a*1000+b+1=a*1000+c:=λB=>A8 (ak [a,b,c] (S (A (R v0 1000) v1)) (A (R v0 1000) v2) (S v1) v2 rfl (r5 B.symm)) (ak [a,b,c] (A (R v0 1000) v2) (S (A (R v0 1000) v1)) v2 (S v1) rfl (r5 B))
def LD{d e:Nat}:e=b+1->a+e+200*c<=d+200*d->a+b+1+200*c<=d+200*d:=λB F=>ao [a,b,c,d,e] (A (S (A v0 v1)) (M 200 v2)) (A v3 (M 200 v3)) (S v1) v4 (A (A v0 v4) (M 200 v2)) (A v3 (M 200 v3)) rfl (r5 B.symm) F
def LF{d e:Nat}:a<c\/a=c/\d=e->c+1=b->a<b:=λh e=>e▸h.elim (λz=>L4 z) λz=>z.1▸K3 _
def LG{d:Nat}:a+b<=c+d->a+b<=c+(d+1):=ak [a,b,c,d] (A v0 v1) (A v2 (S v3)) (A v0 v1) (A v2 v3) rfl
def LH{d:Nat}:a+b<=c+d->a+1+b<=c+(d+1):=ak [a,b,c,d] (A (S v0) v1) (A v2 (S v3)) (A v0 v1) (A v2 v3) rfl
def LJ:¬a=b->¬a<b->1<=a-b:=λF G=>(I5 F).elim (λB=>ao [a,b,(a-b)] (N 1) v2 v1 v0 (S v0) v1 rfl (B0 G) B) (λB=>ao [a,b,(a-b)] (N 1) v2 v0 (A v2 v1) (S v1) v0 rfl (bb a b) B)
def LK:¬b=a->¬a=b:=λF=>(I5 F).elim (λB=>λq0=>aZ [a,b] (S v1) v0 v0 v1 rfl B (r5 q0)) (λB=>λq0=>aZ [a,b] (S v0) v1 v1 v0 rfl B (r5 q0.symm))
def LL:a<60->a+1<=60:=ak [a] (S v0) (N 60) (S v0) (N 60) rfl
def LM:a<c->¬b<c->a<b:=λB F=>ao [a,b,c] (S v0) v1 (S v0) v2 v2 v1 rfl B (B0 F)
def LN:b=a->a<=b:=λB=>ak [a,b] v0 v1 v0 v1 rfl (r5 B.symm)
def LO:a<c->c<b+1->¬a=b:=λB F=>λq0=>eD [a,b,c] (S v0) v2 (S v2) (S v1) v1 v0 rfl B F (r5 q0.symm)
def LP:a-c=0->c=b->¬a<b->a=b:=λB F G=>A8 (aL [a,b,c,(a-c)] v0 v1 v3 (N 0) v2 v1 v0 (A v3 v2) rfl (r5 B) (r5 F) (bb a c)) (ak [a,b,c,(a-c)] v1 v0 v1 v0 rfl (B0 G))
def LQ:a<c->¬b<c->¬a=b:=λB F=>λq0=>eD [a,b,c] (S v0) v2 v2 v1 v1 v0 rfl B (B0 F) (r5 q0.symm)
def LR:b=c->a<c->a≠b:=λB F=>λq0=>eD [a,b,c] v2 v1 (S v0) v2 v1 v0 rfl (r5 B.symm) F (r5 q0.symm)
def LS:a<=2*b->a<=2*(b+1):=ak [a,b] v0 (M 2 (S v1)) v0 (M 2 v1) rfl
def LU{d:Nat}:a+b+200*c<=d+200*d->a+b+200*(c+1)<=d+1+200*(d+1):=ak [a,b,c,d] (A (A v0 v1) (M 200 (S v2))) (A (S v3) (M 200 (S v3))) (A (A v0 v1) (M 200 v2)) (A v3 (M 200 v3)) rfl
def LV{d:Nat}:a+b<=c+d->a+(b+1)<=c+1+d:=ak [a,b,c,d] (A v0 (S v1)) (A (S v2) v3) (A v0 v1) (A v2 v3) rfl
def EE:a+b<=c->a+(b+1)<=c+1:=ak [a,b,c] (A v0 (S v1)) (S v2) (A v0 v1) v2 rfl
def LW:a+(b+1)=a+b+1:=A8 (dj [a,b] (A v0 (S v1)) (S (A v0 v1))  rfl ) (dj [a,b] (S (A v0 v1)) (A v0 (S v1))  rfl )
def LY{d:Nat}:a+b+200*c<=d+200*d->a+b+1+200*(c+1)<=d+1+200*(d+1):=ak [a,b,c,d] (A (S (A v0 v1)) (M 200 (S v2))) (A (S v3) (M 200 (S v3))) (A (A v0 v1) (M 200 v2)) (A v3 (M 200 v3)) rfl
def LZ:a<=a/\a<=a+1:=⟨dj [a] v0 v0  rfl ,dj [a] v0 (S v0)  rfl ⟩
def Ma{d e:Nat}:b<=e+1->c<=e->e<=c+d->e<=b->a<b->a<b/\c<=b/\b<=c+(d+1):=λB F G J O=>⟨ak [a,b,c,d,e] (S v0) v1 (S v0) v1 rfl O,ao [a,b,c,d,e] v2 v1 v2 v4 v4 v1 rfl F J,ao [a,b,c,d,e] v1 (A v2 (S v3)) v1 (S v4) v4 (A v2 v3) rfl B G⟩
def Mb{d e j:Nat}:i<=j+e->j<=i->b<=i+1->c<=j->j<=c+d->i<=b->a<b->a<b/\c<=b/\b<=c+(d+e+1):=λB F G J O Q Y=>⟨ak [a,b,c,d,e,i,j] (S v0) v1 (S v0) v1 rfl Y,aL [a,b,c,d,e,i,j] v2 v1 v6 v5 v2 v6 v5 v1 rfl F J Q,aL [a,b,c,d,e,i,j] v1 (A v2 (S (A v3 v4))) v5 (A v6 v4) v1 (S v5) v6 (A v2 v3) rfl B G O⟩
def Mc:b=1->a+b<=60->a<60:=λB F=>ao [a,b] (S v0) (N 60) (N 1) v1 (A v0 v1) (N 60) rfl (r5 B.symm) F
def Md:5+1<=6+a:=dj [a] (S (N 5)) (A (N 6) v0)  rfl
def EF:6+a+1<=6+(a+1):=dj [a] (S (A (N 6) v0)) (A (N 6) (S v0))  rfl
def Me:c=b+1->a+c<=60->a+b<=60:=λB F=>ao [a,b,c] (A v0 v1) (N 60) (S v1) v2 (A v0 v2) (N 60) rfl (r5 B.symm) F
def Mf:b+(c+1)<=60->a<=b+c->a<60:=ao [a,b,c] (S v0) (N 60) (A v1 (S v2)) (N 60) v0 (A v1 v2) rfl
def EG:5<=6+a:=dj [a] (N 5) (A (N 6) v0)  rfl
def Mg:a+(b+c+1)<=60->a+b<=60:=ak [a,b,c] (A v0 v1) (N 60) (A v0 (S (A v1 v2))) (N 60) rfl
def Mh{d:Nat}:c+(d+b+1)<=60->a<=c+d->a+b<=60:=ao [a,b,c,d] (A v0 v1) (N 60) (A v2 (S (A v3 v1))) (N 60) v0 (A v2 v3) rfl
def Mi{d e:Nat}:b+(c+d+1)<=60->e<=b+c->a<=e+d->a<60:=aL [a,b,c,d,e] (S v0) (N 60) (A v1 (S (A v2 v3))) (N 60) v4 (A v1 v2) v0 (A v4 v3) rfl
def Mj:c<=b->a<c->a<b:=ao [a,b,c] (S v0) v1 v2 v1 (S v0) v2 rfl
def EH:a<b->b=0->False:=λB F=>aZ [a,b] (S v0) v1 v1 (N 0) rfl B (r5 F)
def Ml:(0:Nat)<a->(↑a:Int)≠(0:Int):=λh e=>SN h (R5 e)
def EI:(0:Nat)<a->(0:Int)<(↑a:Int):=Int.natCast_pos.mpr
def Mm{a:Int}:(0:Int)<=a->a<(↑b:Int)->a.toNat<b:=λh q=>L8.mp (by rw[Int.toNat_of_nonneg h];exact q)
def Mn{a:Int}:(0:Int)<=a->a=(↑a.toNat:Int):=λh=>(Int.toNat_of_nonneg h).symm
def EJ:a+b<10000->a<10000:=ak [a,b] (S v0) (N 10000) (S (A v0 v1)) (N 10000) rfl
def Mo:a*2=a+a:=A8 (dj [a] (R v0 2) (A v0 v0)  rfl ) (dj [a] (A v0 v0) (R v0 2)  rfl )
def EK:0<a->2<=a*2:=λB=>ak [a] (N 2) (R v0 2) (M 2 (S (N 0))) (M 2 v0) rfl (bP [a] 2 (S (N 0)) v0 B)
def Mp:(0:Int)<(↑(a+(1:Nat)):Int):=Int.natCast_pos.mpr (Q3 _)
def EL:1<=2+a:=dj [a] (N 1) (A (N 2) v0)  rfl
def Mq:b=c+c->2<=c->a+b<10000->a+1<10000:=λB F G=>aL [a,b,c] (S (S v0)) (N 10000) (A v2 v2) v1 (N 2) v2 (S (A v0 v1)) (N 10000) rfl (r5 B.symm) F G
def Mr:b=c+c->2<=c->a+1+1+1<=a+b:=λB F=>ao [a,b,c] (S (S (S v0))) (A v0 v1) (A v2 v2) v1 (M 2 (N 2)) (M 2 v2) rfl (r5 B.symm) (bP [a,b,c] 2 (N 2) v2 F)
def EM:c=b+b->a+c<10000->2<=b->a+1+b<10000:=λB F G=>aL [a,b,c] (S (A (S v0) v1)) (N 10000) (A v1 v1) v2 (S (A v0 v2)) (N 10000) (N 2) v1 rfl (r5 B.symm) F G
def Ms{d:Nat}:c=d+d->a+1<=b+1+d->2<=d->a+1<=b+c:=λB F G=>aL [a,b,c,d] (S v0) (A v1 v2) (A v3 v3) v2 (S v0) (A (S v1) v3) (N 2) v3 rfl (r5 B.symm) F G
def Mt{d:Nat}:c+d<10000->d=b+b->a+1<=c+1+b->a+b<10000:=λB F G=>aL [a,b,c,d] (S (A v0 v1)) (N 10000) (S (A v2 v3)) (N 10000) (A v1 v1) v3 (S v0) (A (S v2) v1) rfl B (r5 F.symm) G
def Mu{d e:Nat}:a+1<=d+e->d+1<=b+1+e->c=e+e->a+1<=b+c:=λB F G=>aL [a,b,c,d,e] (S v0) (A v1 v2) (S v0) (A v3 v4) (S v3) (A (S v1) v4) (A v4 v4) v2 rfl B F (r5 G.symm)
def Mw:c=b->c<=a->a<=b->a=b:=λB F G=>A8 (ak [a,b,c] v0 v1 v0 v1 rfl G) (ao [a,b,c] v1 v0 v1 v2 v2 v0 rfl (r5 B.symm) F)
def Mx:4<=a->a=a-1+1:=λF=>(D3 1 a).elim (λB=>A8 (ak [a,(a-1)] v0 (S v1) v0 (S v1) rfl (bb a 1)) (ak [a,(a-1)] (S v1) v0 (S v1) v0 rfl (r5 (bO B)))) (λB=>A8 (ak [a,(a-1)] v0 (S v1) v0 (N 1) rfl B) (ao [a,(a-1)] (S v1) v0 (N 4) v0 v1 (N 0) rfl F (r5 (C3 B))))
def My:4<=a->3<=a-1:=λB=>ao [a,(a-1)] (N 3) v1 (N 4) v0 v0 (S v1) rfl B (bb a 1)
def tF:9<=a->1<=a:=ak [a] (N 1) v0 (N 9) v0 rfl
def MA:(0:Int)<=(1:Int)+(↑a:Int):=J9 (1+a)
def MB:a<(3:Nat)->(1:Int)+(↑a:Int)<=(1000:Int):=λh=>Int.ofNat_le.mpr (s7 (Q5 (D9 h) 1) (by decide):1+a<=1000)
def MC:((1:Int)+(↑a:Int)).toNat=(1:Nat)+a:=rfl
def MD:9<=a->4<=a:=ak [a] (N 4) v0 (N 9) v0 rfl
def MF:(0:Int)<=(2:Int)+(↑a:Int):=by omega
def MG:a<(2:Nat)->(2:Int)+(↑a:Int)<=(1000:Int):=by omega
def MH:((2:Int)+(↑a:Int)).toNat=(2:Nat)+a:=by omega
def MI:a<2+b->b<2->a<3:=λB F=>ao [a,b] (S v0) (N 3) (S v0) (A (N 2) v1) (S v1) (N 2) rfl B F
def MJ:a<=10+8*(2+b)->b<2->a<=40:=λB F=>ao [a,b] v0 (N 40) v0 (A (N 10) (M 8 (A (N 2) v1))) (M 8 (S v1)) (M 8 (N 2)) rfl B (bP [a,b] 8 (S v1) (N 2) F)
def MK:a<=b+3*(2+c-1)->b<=2->c<2->a<=8:=by omega
def ML:0<2+a:=dj [a] (S (N 0)) (A (N 2) v0)  rfl
def MM:-(-1:Int)<=(↑(a+(1:Nat)):Int):=by omega
def MN:((↑(a+(1:Nat)):Int)+(-1:Int)).toNat=a:=by omega
def MO:a<=50+2*b->b<3->a<10000:=λB F=>ao [a,b] (S v0) (N 10000) v0 (A (N 50) (M 2 v1)) (M 2 (S v1)) (M 2 (N 3)) rfl B (bP [a,b] 2 (S v1) (N 3) F)
def MP:a<=50+2*b->b<3->a+1<10000:=λB F=>ao [a,b] (S (S v0)) (N 10000) v0 (A (N 50) (M 2 v1)) (M 2 (S v1)) (M 2 (N 3)) rfl B (bP [a,b] 2 (S v1) (N 3) F)
def MQ:a<3->a<2^20:=λB=>ak [a] (S v0) (N 1048576) (S v0) (N 3) rfl B
def MR:a<3->a<100:=λB=>ak [a] (S v0) (N 100) (S v0) (N 3) rfl B
def MT:a<=50+2*b->a+1+1<=50+2*(b+1):=λB=>ak [a,b] (S (S v0)) (A (N 50) (M 2 (S v1))) v0 (A (N 50) (M 2 v1)) rfl B
def MU:a<=40->a<10000:=λB=>ak [a] (S v0) (N 10000) v0 (N 40) rfl B
def MV:a<=40->a+1<=50+2*0:=λB=>ak [a] (S v0) (A (N 50) (N 0)) v0 (N 40) rfl B
def MW:a<1+b->b<3->a<3:=λB F=>ao [a,b] (S v0) (N 3) (S v0) (A (N 1) v1) (S v1) (N 3) rfl B F
def MX:a=1+b->b<3->a<=3:=λB F=>ao [a,b] v0 (N 3) v0 (A (N 1) v1) (S v1) (N 3) rfl (r5 B) F
def MY:a<(10000:Nat)->((11:Int)*(↑a:Int)).natAbs<(2:Nat)^60:=by omega
def MZ:(↑b:Int).natAbs<(2:Nat)^60->¬b<a->(↑a:Int).natAbs<(2:Nat)^60:=by omega
def Na:a<2->a≠3:=λB=>λq0=>aZ [a] (S v0) (N 2) (N 3) v0 rfl B (r5 q0.symm)
def Nb:a<2->a≠4:=λB=>λq0=>aZ [a] (S v0) (N 2) (N 4) v0 rfl B (r5 q0.symm)
def Nc:a<2->a≠2:=λB=>λq0=>aZ [a] (S v0) (N 2) (N 2) v0 rfl B (r5 q0.symm)
def Nf:a=2->a≠3:=λB=>λq0=>aZ [a] v0 (N 2) (N 3) v0 rfl (r5 B) (r5 q0.symm)
def Ng:a=2->a≠4:=λB=>λq0=>aZ [a] v0 (N 2) (N 4) v0 rfl (r5 B) (r5 q0.symm)
def Nh:a<5->¬a=2->¬a=3->¬a<2->a=4:=λG J O Q=>(I5 J).elim (λB=>A8 (ak [a] v0 (N 4) (S v0) (N 2) rfl B) (ao [a] (N 4) v0 (M 3 (N 2)) (M 3 v0) (M 2 (S v0)) (M 2 (N 2)) rfl (bP [a] 3 (N 2) v0 (B0 Q)) (bP [a] 2 (S v0) (N 2) B))) (λB=>(I5 O).elim (λF=>A8 (ak [a] v0 (N 4) (S v0) (N 3) rfl F) (ao [a] (N 4) v0 (M 2 (S (N 2))) (M 2 v0) (S v0) (N 3) rfl (bP [a] 2 (S (N 2)) v0 B) F)) (λF=>A8 (ak [a] v0 (N 4) (S v0) (N 5) rfl G) (ak [a] (N 4) v0 (S (N 3)) v0 rfl F)))
def Ni:a<=b+c->a<=b+(c+1):=λB=>ak [a,b,c] v0 (A v1 (S v2)) v0 (A v1 v2) rfl B
def Nj:a<=b+c->a+1<=b+(c+1):=λB=>ak [a,b,c] (S v0) (A v1 (S v2)) v0 (A v1 v2) rfl B
def Nk:1+a=0+a+1:=A8 (dj [a] (A (N 1) v0) (S (A (N 0) v0))  rfl ) (dj [a] (S (A (N 0) v0)) (A (N 1) v0)  rfl )
def Nl:a<=b+c->a+1<=b+1+c:=λB=>ak [a,b,c] (S v0) (A (S v1) v2) v0 (A v1 v2) rfl B
def EN:a+1<=b->a+1+1<=b*2:=λB=>ak [a,b] (S (S v0)) (R v1 2) (M 2 (S v0)) (M 2 v1) rfl (bP [a,b] 2 (S v0) v1 B)
def EO:a+1<=c->b+1<=c->a+b+1+1<=c*2:=λB F=>ao [a,b,c] (S (S (A v0 v1))) (R v2 2) (S v0) v2 (S v1) v2 rfl B F
def Nm:a<=2->¬a<=1->a=2:=λB F=>A8 (ak [a] v0 (N 2) v0 (N 2) rfl B) (ak [a] (N 2) v0 (S (N 1)) v0 rfl (P8 F))
def Nn:a<=b->b<=8->¬a<=7->a=b:=λB F G=>A8 (ak [a,b] v0 v1 v0 v1 rfl B) (ao [a,b] v1 v0 v1 (N 8) (S (N 7)) v0 rfl F (P8 G))
def Np{d:Nat}:a=b-1->c=a->d<b->c<d->False:=λB F G J=>eD [a,b,c,d,(b-1)] v4 v0 v0 v2 (A (S v3) (A (S v2) v1)) (A v1 (A v3 (S v4))) rfl (r5 B.symm) (r5 F.symm) (dT [a,b,c,d,(b-1)] (S v3) v1 (A (S v2) v1) (A v3 (S v4)) G (dT [a,b,c,d,(b-1)] (S v2) v3 v1 (S v4) J (bb b 1)))
def EP:b=a->¬b<=7->a-1<a:=λF G=>(D3 1 a).elim (λB=>ak [a,b,(a-1)] (S v2) v0 (S v2) v0 rfl (r5 (bO B))) (λB=>aL [a,b,(a-1)] (S v2) v0 v1 v0 (S (N 7)) v1 v2 (N 0) rfl (r5 F) (P8 G) (r5 (C3 B)))
def Nq:a<=1->a+1<=8:=λB=>ak [a] (S v0) (N 8) v0 (N 1) rfl B
def Nr:a<=10+8*c->c<3->b<=2^3->a+b<10000:=λB F G=>aL [a,b,c] (S (A v0 v1)) (N 10000) v0 (A (N 10) (M 8 v2)) (M 8 (S v2)) (M 8 (N 3)) v1 (N 8) rfl B (bP [a,b,c] 8 (S v2) (N 3) F) G
def Nt:9<=b->a<=2->2+a<=b:=λB F=>ao [a,b] (A (N 2) v0) v1 (N 9) v1 v0 (N 2) rfl B F
def Nu:a<=b+3*(c-1)->b<=2->c<3->a<=10:=λB F G=>aL [a,b,c,(c-1)] v0 (N 10) v0 (A v1 (M 3 v3)) v1 (N 2) (A (M 3 (S v2)) (M 3 v3)) (A (M 3 (N 3)) (M 3 v2)) rfl B F (dT [a,b,c,(c-1)] (M 3 (S v2)) (M 3 (N 3)) (M 3 v3) (M 3 v2) (bP [a,b,c,(c-1)] 3 (S v2) (N 3) G) (bP [a,b,c,(c-1)] 3 v3 v2 (Sw c 1)))
def Nv:b+1<=c->c<=2^3->a<=10->a+b<=60:=λB F G=>aL [a,b,c] (A v0 v1) (N 60) (S v1) v2 v2 (N 8) v0 (N 10) rfl B F G
def Nw:9<=b->a<=2->6+a<=b:=λB F=>ao [a,b] (A (N 6) v0) v1 (N 9) v1 v0 (N 2) rfl B F
def Nx:b+1<=c->c<=2^3->a<=10->a+b<=100:=λB F G=>aL [a,b,c] (A v0 v1) (N 100) (S v1) v2 v2 (N 8) v0 (N 10) rfl B F G
def Ny:9<=b->a<=2->a+1<=b:=λB F=>ao [a,b] (S v0) v1 (N 9) v1 v0 (N 2) rfl B F
def Nz{d:Nat}:a+1<=c+d->c<=10+8*b->d<=2^3->a<=10+8*(b+1):=λB F G=>aL [a,b,c,d] v0 (A (N 10) (M 8 (S v1))) (S v0) (A v2 v3) v2 (A (N 10) (M 8 v1)) v3 (N 8) rfl B F G
def NA{d:Nat}:d+1<=2^2->a<=b+(3*(c-1)+d)->0<c->a<=b+3*c:=by omega
def NB{d:Nat}:d+1<=2^0->a<=b+(3*(c-1)+d)->a<=b+3*c:=λB F=>aL [a,b,c,d,(c-1)] v0 (A v1 (M 3 v2)) (S v3) (N 1) v0 (A v1 (A (M 3 v4) v3)) (M 3 v4) (M 3 v2) rfl B F (bP [a,b,c,d,(c-1)] 3 v4 v2 (Sw c 1))
def NC:a<=0->max 0 a+1<=8:=λF=>(D3 0 a).elim (λB=>ao [a,(max 0 a)] (S v1) (N 8) v0 (N 0) v1 v0 rfl F (r5 (M6 B))) (λB=>ak [a,(max 0 a)] (S v1) (N 8) v1 (N 0) rfl (r5 (M0 B)))
def EQ:a<b->b<=0->False:=λB F=>aZ [a,b] (S v0) v1 v1 (N 0) rfl B F
def ES:c<=b+1->a<c->a<=b:=λB F=>ao [a,b,c] v0 v1 v2 (S v1) (S v0) v2 rfl B F
def ET:a+1<=5->a<=5:=λB=>ak [a] v0 (N 5) (S v0) (N 5) rfl B
def ND{d e:Nat}:a<=d->b<=e->e<=c->d<=c->a+b<=c*2:=λB F G J=>aL [a,b,c,d,e] (A v0 v1) (R v2 2) v0 v3 v1 v4 (A v4 v3) (A v2 v2) rfl B F (dT [a,b,c,d,e] v4 v2 v3 v2 G J)
def NE:b<=c+1->c+1<=5->a<b->a<=5:=λB F G=>aL [a,b,c] v0 (N 5) v1 (S v2) (S v2) (N 5) (S v0) v1 rfl B F G
def EU:a=b->1+(a+0)=b+1:=λB=>A8 (ak [a,b] (A (N 1) (A v0 (N 0))) (S v1) v0 v1 rfl (r5 B)) (ak [a,b] (S v1) (A (N 1) (A v0 (N 0))) v1 v0 rfl (r5 B.symm))
def EV{d:Nat}:a=c->b=d->1+(a+(b+0))=c+d+1:=λB F=>A8 (ao [a,b,c,d] (A (N 1) (A v0 (A v1 (N 0)))) (S (A v2 v3)) v0 v2 v1 v3 rfl (r5 B) (r5 F)) (ao [a,b,c,d] (S (A v2 v3)) (A (N 1) (A v0 (A v1 (N 0)))) v2 v0 v3 v1 rfl (r5 B.symm) (r5 F.symm))
def NF:a=b+1->max 0 (max a 0)+1=b+1+1:=by omega
def NG{d:Nat}:a=c+1->b=d+1->max 0 (max a (max b 0))+1=max c d+1+1:=by omega
def NH:a<=2->a+1<=3:=λB=>ak [a] (S v0) (N 3) v0 (N 2) rfl B
def NI:a<=7->a<60:=λB=>ak [a] (S v0) (N 60) v0 (N 7) rfl B
def NJ:9<=a->5+3<=a:=λB=>ak [a] (A (N 5) (N 3)) v0 (N 9) v0 rfl B
def NK:a+1<=2^2->a<=3:=λB=>ak [a] v0 (N 3) (S v0) (N 4) rfl B
def NL:9<=a->7<=a:=λB=>ak [a] (N 7) v0 (N 9) v0 rfl B
def NM:9<=a->a=a-1+1:=λF=>(D3 1 a).elim (λB=>A8 (ak [a,(a-1)] v0 (S v1) v0 (S v1) rfl (bb a 1)) (ak [a,(a-1)] (S v1) v0 (S v1) v0 rfl (r5 (bO B)))) (λB=>A8 (ak [a,(a-1)] v0 (S v1) v0 (N 1) rfl B) (ao [a,(a-1)] (S v1) v0 (N 9) v0 v1 (N 0) rfl F (r5 (C3 B))))
def NO:9<=a->1<=a-1:=λB=>ao [a,(a-1)] (N 1) v1 (N 9) v0 v0 (S v1) rfl B (bb a 1)
def NP:a<min b c->a<b:=λB=>ao [a,b,c,(min b c)] (S v0) v1 (S v0) v3 v3 v1 rfl B (P0 b c)
def NQ:b<=1000->min a b<=16777216:=λB=>ao [a,b,(min a b)] v2 (N 16777216) v1 (N 1000) v2 v1 rfl B (M9 a b)
def NR:b<=(2:Nat)^20->a<b->(↑a:Int)<(2:Int)^63-(1:Int):=by omega
def NS :20<=200:=by decide
def NT{d:Nat}:c<=8->a+20<d->a+1+min b c<d:=λB F=>aL [a,b,c,d,(min b c)] (S (A (S v0) v4)) v3 v2 (N 8) (S (A v0 (N 20))) v3 v4 v2 rfl B F (M9 b c)
def NU:a=b->b<=2^20->a<=16777216:=λB F=>ao [a,b] v0 (N 16777216) v0 v1 v1 (N 1048576) rfl (r5 B) F
def NV{a:Int}:a<=(1000:Int)->a.toNat<=(2:Nat)^24:=by omega
def NW:a+(b+1)<=100->a+b<=100:=λB=>ak [a,b] (A v0 v1) (N 100) (A v0 (S v1)) (N 100) rfl B
def NX:b+(c+1)<=100->a<=b+c->a<100:=λB F=>ao [a,b,c] (S v0) (N 100) (A v1 (S v2)) (N 100) v0 (A v1 v2) rfl B F
def NY:a+(b+c+1)<=100->a+b<=100:=λB=>ak [a,b,c] (A v0 v1) (N 100) (A v0 (S (A v1 v2))) (N 100) rfl B
def NZ{d:Nat}:c+(d+b+1)<=100->a<=c+d->a+b<=100:=λB F=>ao [a,b,c,d] (A v0 v1) (N 100) (A v2 (S (A v3 v1))) (N 100) v0 (A v2 v3) rfl B F
def EW:a≠b->min a b<max a b:=λF=>(I5 F).elim (λB=>aL [a,b,(min a b),(max a b)] (S v2) v3 v2 v0 v1 v3 (S v0) v1 rfl (P0 a b) (M5 a b) B) (λB=>aL [a,b,(min a b),(max a b)] (S v2) v3 v2 v1 v0 v3 (S v1) v0 rfl (M9 a b) (O9 a b) B)
def Oa:a<c->b<c->max a b<c:=λF G=>(D3 a b).elim (λB=>ao [a,b,c,(max a b)] (S v3) v2 (S v1) v2 v3 v1 rfl G (r5 (M6 B))) (λB=>ao [a,b,c,(max a b)] (S v3) v2 (S v0) v2 v3 v0 rfl F (r5 (M0 B)))
def Oc{d:Nat}:d=max a b->d<=c->min a b<=c:=λB F=>aL [a,b,c,d,(max a b),(min a b)] v5 v2 v4 v3 v3 v2 (A v1 v5) (A v4 v1) rfl (r5 B.symm) F (dT [a,b,c,d,(max a b),(min a b)] v1 v4 v5 v1 (M5 a b) (M9 a b))
def Od:c=max a b->min a b<=c:=λB=>aL [a,b,c,(max a b),(min a b)] v4 v2 v3 v2 v1 v3 v4 v1 rfl (r5 B.symm) (M5 a b) (M9 a b)
def Oe:a+(b+1)=c->c<=2->a<=2:=λB F=>ao [a,b,c] v0 (N 2) (A v0 (S v1)) v2 v2 (N 2) rfl (r5 B) F
def Of:a+(b+1)=c->c<=2->a<=100:=λB F=>ao [a,b,c] v0 (N 100) (A v0 (S v1)) v2 v2 (N 2) rfl (r5 B) F
def Og{d:Nat}:b+(c+1)=d->a=b->d<=1000->a<2^18:=λB F G=>aL [a,b,c,d] (S v0) (N 262144) (A v1 (S v2)) v3 v0 v1 v3 (N 1000) rfl (r5 B) (r5 F) G
def Oh:a+(b+1)=c->c<=1000->a<2^18:=λB F=>ao [a,b,c] (S v0) (N 262144) (A v0 (S v1)) v2 v2 (N 1000) rfl (r5 B) F
def Oi:a<=2->a<=40:=λB=>ak [a] v0 (N 40) v0 (N 2) rfl B
def Oj:c<=60->b<c->a<=10->a+b<2^20:=λB F G=>aL [a,b,c] (S (A v0 v1)) (N 1048576) v2 (N 60) (S v1) v2 v0 (N 10) rfl B F G
def Ol:¬a=b->min a b≠max a b:=λF=>(I5 F).elim (λB=>λq0=>eD [a,b,(min a b),(max a b)] v2 v0 v1 v3 (A (S v0) v3) (A v1 v2) rfl (P0 a b) (M5 a b) (dT [a,b,(min a b),(max a b)] (S v0) v1 v3 v2 B (r5 q0.symm))) (λB=>λq0=>eD [a,b,(min a b),(max a b)] v2 v1 v0 v3 (A (S v1) v3) (A v0 v2) rfl (M9 a b) (O9 a b) (dT [a,b,(min a b),(max a b)] (S v1) v0 v3 v2 B (r5 q0.symm)))
def Om:a<=10->b<=60->a+b<=100:=λB F=>ao [a,b] (A v0 v1) (N 100) v0 (N 10) v1 (N 60) rfl B F
def On:a<c+1->c<b->a<b:=λB F=>ao [a,b,c] (S v0) v1 (S v0) (S v2) (S v2) v1 rfl B F
def Oo:a<=100->a+1<=2^20:=λB=>ak [a] (S v0) (N 1048576) v0 (N 100) rfl B
def Op:a<=100->a+1<=1000:=λB=>ak [a] (S v0) (N 1000) v0 (N 100) rfl B
def Oq{d:Nat}:b+(c+1)=d->a+d<=2^18->a+b<2^20:=λB F=>ao [a,b,c,d] (S (A v0 v1)) (N 1048576) (A v1 (S v2)) v3 (A v0 v3) (N 262144) rfl (r5 B) F
def Os{d:Nat}:a+b+200*c<=d+200*d->d<=60->b<2^20:=λB F=>ao [a,b,c,d] (S v1) (N 1048576) (A (A v0 v1) (M 200 v2)) (A v3 (M 200 v3)) (M 201 v3) (M 201 (N 60)) rfl B (bP [a,b,c,d] 201 v3 (N 60) F)
end
variable{a b c i k m j ep:Nat}{s s' s₀:Shared}{h h':Heap}{env:Env}{α β:Type}{E:a9}{w:World}{prog:Program}{cv ck:Value}{es:Array (Int×Value)}{p xs:Array Nat}{P:List (Nat×Nat)}{pos ip:Pos}{tgt:Expr}{ma ca I it dx wk y wd:Addr}{X':Addr->Prop}{cs:List Int}{o:Obj}{cvs:List Value}{sc:Scope}{gens:List Comprehension}{id:Str}{M:Model}{Γ:List String}{θ:String->Nat}
set_option compiler.extract_closed false in
local macro_rules
 | `(tactic| rewrite [$e:term,$r,*])=>`(tactic| (rewrite [$e:term]; rewrite [$r,*]))
 | `(tactic| rewrite [$e:term])=>`(tactic| first | with_reducible_and_instances refine Mine.rl ($e ..) ?_ | fail)
section
set_option genInjectivity true
def jB{a:α}{p:Prop}(h:none=some a):p:=ns h
inductive V where
 |none|scr|bool (b:Bool)|int (i:Int)|str (s:String)|tup (vs:List V)|ref (a:Addr)
end
variable{vs us ps:List V}{kvs:List (V×V)}{x rs:V}
section
set_option genCtorIdx false
set_option genCtorIdx true in
inductive BOp where|add|sub|mul|mod
set_option genCtorIdx true in
inductive COp where|eq|ne|lt|le|gt|is|isin|notin
set_option genCtorIdx true in
inductive Prim where|len|sum|max|tuple|list|listRange|listItems|dict|sorted|sortedItems|sortedSet
mutual
inductive Tgt where
 |nm (x:String)
 |tp (ts:Tgts)
inductive Tgts where
 |nil
 |cons (t:Tgt) (ts:Tgts)
end
noncomputable abbrev Tgt.tp2(a b:Tgt):Tgt:=.tp (.cons a (.cons b .nil))
noncomputable abbrev Tgt.tp3(a b c:Tgt):Tgt:=.tp (.cons a (.cons b (.cons c .nil)))
mutual
inductive ME where
 |cst (v:V)
 |neg (i:Int)
 |var (x:String)
 |tup (es:MEs)
 |lst (es:MEs)
 |dct (ks vs:MEs)
 |bin (op:BOp) (a b:ME)
 |cmp1 (op:COp) (a b:ME)
 |cmp2 (a:ME) (op1:COp) (b:ME) (op2:COp) (c:ME)
 |and2 (a b:ME)
 |or2 (a b:ME)
 |not1 (a:ME)
 |ite (c a b:ME)
 |idx (a i:ME)
 |slc (a:ME) (lo hi:Option Nat)
 |attr (a:ME) (f:String)
 |comp (elt:ME) (g:Gens)
 |call (f:String) (args:MEs)
 |new (c:String) (args:MEs)
 |meth (o:ME) (m:String) (args:MEs)
 |prim (p:Prim) (a:ME)
inductive MEs where
 |nil
 |cons (e:ME) (r:MEs)
inductive Gens where
 |one (t:Tgt) (it:MIt) (c:Option ME)
 |more (t:Tgt) (it:MIt) (r:Gens)
inductive MIt where
 |exp (e:ME)
 |rng (e:ME)
 |zip (a b:ME)
 |enum (a:ME)
end
inductive ATgt where
 |tg (t:Tgt)
 |at(o:ME) (f:String)
 |ix (o i:ME)
inductive MS where
 |expr (e:ME)
 |asg (t:ATgt) (e:ME)
 |ret (e:ME)
 |if1 (c:ME) (a b:List MS)
 |whl (c:ME) (b:List MS)
 |for1 (t:Tgt) (it:MIt) (b:List MS)
 |rais
structure bx where
 params:List String
 body:List MS
end
variable{rest:List MS}{args:MEs}
section
set_option genCtorIdx false
mutual
noncomputable def dX:Tgt->List String
 | .nm x=>[x]
 | .tp ts=>sh ts
noncomputable def sh:Tgts->List String
 | .nil=>[]
 | .cons t ts=>dX t++sh ts
end
noncomputable def eX:Gens->List String
 | .one t _ _=>dX t
 | .more t _ r=>dX t++eX r
end
section
set_option tactic.hygienic true
noncomputable def bZ:List (String×Value):=[("len",.builtin "len"),("sum",.builtin "sum"),("max",.builtin "max"),("abs",.builtin "abs"),("int",.type "int"),("str",.type "str"),("tuple",.type "tuple"),("list",.type "list"),
 ("dict",.type "dict"),("sorted",.builtin "sorted"),("range",.type "range"),("set",.type "set"),("zip",.type "zip"),("enumerate",.type "enumerate")]
noncomputable def Ra:BOp->Operator
 | .add=>.Add | .sub=>.Sub | .mul=>.Mult | .mod=>.Mod
noncomputable def Ht:COp->CmpOp
 | .eq=>.Eq | .ne=>.NotEq | .lt=>.Lt | .le=>.LtE | .gt=>.Gt | .is=>.Is | .isin=>.In | .notin=>.NotIn
end
noncomputable abbrev bq:=List (Str×NameKind)
noncomputable def Pf(nm:bq)(x:String):Bool:=match nm.lookup (Str.ofString x)with
 |some .local=>true
 |some .cell=>true
 |some .free=>true
 |_=>false
noncomputable def HA(nm:bq)(x:Str):Bool:=nm.lookup x==some .globalImplicit
noncomputable def ir(x:Str):Bool:=!(x==("__debug__":Str))&&!(x==("__classdict__":Str))
section
variable{A:Around}{d:Nat}
noncomputable def HB(c:Bool)(nm:bq)(x:String):Bool:=nm.lookup (Str.ofString x)==some .local||(c&&nm.lookup (Str.ofString x)==some .cell)
end
variable{nm:bq}
noncomputable def dU(e:Expr)(k:Str->Bool):Bool:=if h:e.ctorIdx=23 then Expr.Name.elim (motive_1:=λ_=>Bool) e h λid _=>k id else false
noncomputable def gD(e:Expr)(k:(List Expr)->Bool):Bool:=if h:e.ctorIdx=25 then Expr.Tuple.elim (motive_1:=λ_=>Bool) e h λes _ _=>k es else false
noncomputable def gC(e:Expr)(k:Const->Bool):Bool:=if h:e.ctorIdx=19 then Expr.Constant.elim (motive_1:=λ_=>Bool) e h λc _ _=>k c else false
noncomputable def kQ(e:Expr)(k:UnaryOp->Expr->Bool):Bool:=if h:e.ctorIdx=3 then Expr.UnaryOp.elim (motive_1:=λ_=>Bool) e h λo x _=>k o x else false
noncomputable def AK(e:Expr)(k:(List Expr)->Bool):Bool:=if h:e.ctorIdx=24 then Expr.List.elim (motive_1:=λ_=>Bool) e h λes _=>k es else false
noncomputable def AJ(e:Expr)(k:(List (Option Expr))->(List Expr)->Bool):Bool:=if h:e.ctorIdx=6 then Expr.Dict.elim (motive_1:=λ_=>Bool) e h λks vs _=>k ks vs else false
noncomputable def wX(e:Expr)(k:Expr->Operator->Expr->Bool):Bool:=if h:e.ctorIdx=2 then Expr.BinOp.elim (motive_1:=λ_=>Bool) e h λl o r _=>k l o r else false
noncomputable def kP(e:Expr)(k:Expr->(List CmpOp)->(List Expr)->Bool):Bool:=if h:e.ctorIdx=15 then Expr.Compare.elim (motive_1:=λ_=>Bool) e h λl os rs _=>k l os rs else false
noncomputable def og(e:Expr)(k:BoolOp->(List Expr)->Bool):Bool:=if h:e.ctorIdx=0 then Expr.BoolOp.elim (motive_1:=λ_=>Bool) e h λo xs _=>k o xs else false
noncomputable def wY(e:Expr)(k:Expr->Expr->Expr->Bool):Bool:=if h:e.ctorIdx=5 then Expr.IfExp.elim (motive_1:=λ_=>Bool) e h λt x y _=>k t x y else false
noncomputable def fD(e:Expr)(k:Expr->Expr->Bool):Bool:=if h:e.ctorIdx=21 then Expr.Subscript.elim (motive_1:=λ_=>Bool) e h λo i _=>k o i else false
noncomputable def xd(e:Expr)(k:(Option Expr)->(Option Expr)->(Option Expr)->Bool):Bool:=if h:e.ctorIdx=26 then Expr.Slice.elim (motive_1:=λ_=>Bool) e h λl u st _=>k l u st else false
noncomputable def fC(e:Expr)(k:Expr->Str->Pos->Bool):Bool:=if h:e.ctorIdx=20 then Expr.Attribute.elim (motive_1:=λ_=>Bool) e h λo n p=>k o n p else false
noncomputable def oh(e:Expr)(k:Expr->(List Comprehension)->Scope->Bool):Bool:=if h:e.ctorIdx=8 then Expr.ListComp.elim (motive_1:=λ_=>Bool) e h λx gs sc _=>k x gs sc else false
noncomputable def iu(e:Expr)(k:Expr->(List Expr)->(List Keyword)->Pos->Bool):Bool:=if h:e.ctorIdx=16 then Expr.Call.elim (motive_1:=λ_=>Bool) e h λf as ks p=>k f as ks p else false
noncomputable def wZ(e:Stmt)(k:Expr->Bool):Bool:=if h:e.ctorIdx=24 then Stmt.Expr.elim (motive_2:=λ_=>Bool) e h λe _=>k e else false
noncomputable def iT(e:Stmt)(k:(List Expr)->Expr->Bool):Bool:=if h:e.ctorIdx=5 then Stmt.Assign.elim (motive_2:=λ_=>Bool) e h λts e _=>k ts e else false
noncomputable def qB(e:Stmt)(k:(Option Expr)->Bool):Bool:=if h:e.ctorIdx=3 then Stmt.Return.elim (motive_2:=λ_=>Bool) e h λe _=>k e else false
noncomputable def EY(e:Stmt)(k:Expr->(List Stmt)->(List Stmt)->Bool):Bool:=if h:e.ctorIdx=12 then Stmt.If.elim (motive_2:=λ_=>Bool) e h λt a b _=>k t a b else false
noncomputable def tJ(e:Stmt)(k:Expr->(List Stmt)->(List Stmt)->Bool):Bool:=if h:e.ctorIdx=11 then Stmt.While.elim (motive_2:=λ_=>Bool) e h λt a b _=>k t a b else false
noncomputable def AL(e:Stmt)(k:Expr->Expr->(List Stmt)->(List Stmt)->Bool):Bool:=if h:e.ctorIdx=9 then Stmt.For.elim (motive_2:=λ_=>Bool) e h λt i a b _=>k t i a b else false
noncomputable def yV(l:List α)(k:α->Bool):Bool:=match l with | [a]=>k a|_=>false
noncomputable def FW(l:List α)(k:α->α->Bool):Bool:=match l with | []=>false|a::l=>yV l (k a)
mutual
noncomputable def fh(cl:Bool)(nm:bq):Tgt->Expr->Bool
 | .nm x,e=>dU e λid=>id==Str.ofString x&&HB cl nm x
 | .tp ts,e=>gD e λes=>nh cl nm ts es
noncomputable def nh(cl:Bool)(nm:bq):Tgts->List Expr->Bool
 | .nil,es=>es.isEmpty
 | .cons t ts,es=>match es with | []=>false|e::es=>fh cl nm t e&&nh cl nm ts es
end
noncomputable def Pn:V->Const->Bool
 | .none,.none=>true
 | .bool b,.bool c=>b==c
 | .int i,.int j=>i==j
 | .str s,.str t=>Str.ofString s==t
 |_,_=>false
noncomputable def tO:Prim->String
 | .len=>"len" | .sum=>"sum" | .max=>"max" | .tuple=>"tuple" | .list=>"list" | .listRange=>"list" | .listItems=>"list" | .dict=>"dict" | .sorted=>"sorted" | .sortedItems=>"sorted" | .sortedSet=>"sorted"
noncomputable def dP(nm:bq)(x:String)(id:Str):Bool:=id==Str.ofString x&&HA nm id&&ir id
noncomputable def Hq(nm:bq)(x:String)(id:Str):Bool:=id==Str.ofString x&&Pf nm x&&ir id
noncomputable def cU(e:Expr):Bool:=!(iu e λg as ks _=>dU g λ_=>as.isEmpty&&ks.isEmpty)
noncomputable def lP(e:Expr):Bool:=e.ctorIdx != 7
noncomputable def Fo(n:Option Nat)(e:Option Expr):Bool:=match n,e with
 |none,none=>true
 |some n,some e=>gC e λc=>match c with | .int i=>i==(n:Int)|_=>false
 |_,_=>false
noncomputable def ib(nm:bq)(f:String)(e:Expr):Option Expr:=if h:e.ctorIdx=16 then Expr.Call.elim (motive_1:=λ_=>Option Expr) e h λg as ks _=>match as,dU g (λid=>ks.isEmpty&&dP nm f id)with | [x],true=>some x|_,_=>none else none
noncomputable def vc(m:String)(e:Expr):Option Expr:=if h:e.ctorIdx=16 then Expr.Call.elim (motive_1:=λ_=>Option Expr) e h λg as ks p=>match as,ks with
 | [],[]=>if h:g.ctorIdx=20 then Expr.Attribute.elim (motive_1:=λ_=>Option Expr) g h λo n ap=>if(n==Str.ofString m&&(cU o&&(ap.endLine==p.line)))=true then some o else none else none
 |_,_=>none else none
noncomputable def rN(nm:bq):Prim->Expr->Option Expr
 | .listRange,x=>ib nm "range" x
 | .listItems,x=>vc "items" x
 | .sortedItems,x=>vc "items" x
 | .sortedSet,x=>ib nm "set" x
 |_,x=>some x
noncomputable def eF(names outer:bq):bq:=names.map λ(n,k)=>if(k==.free&&outer.lookup n==some .cell)then(n,.cell)else(n,k)
noncomputable def mI(outer:bq)(sc:Scope)(xs:List String):Bool :=
 sc.names.all (λp=>p.2 != .local||(".0"::xs).any λx=>Str.ofString x==p.1) &&
 sc.kind==.function&&sc.names.all (λp=>p.2 != .cell)&&decide ((sc.names.map (·.1)).Nodup)&&sc.names.all (λp=>p.2 != .free||outer.lookup p.1==some .cell||outer.lookup p.1==some .free)
noncomputable def xr:ME->Bool
 | .cst (.str _)=>true
 | .var _=>true
 |_=>false
noncomputable def iJ:MEs->Bool
 | .nil=>true
 | .cons e r=>xr e&&iJ r
mutual
noncomputable def aU(nm:bq):ME->Expr->Bool
 | .cst v,e=>gC e λc=>Pn v c
 | .neg i,e=>kQ e λo x=>decide (o=.USub)&&gC x λc=>match c with | .int j=>i==j|_=>false
 | .var x,e=>dU e λid=>Hq nm x id
 | .tup es,e=>gD e λxs=>dq nm es xs&&decide (xs.length<=1000)
 | .lst es,e=>AK e λxs=>dq nm es xs&&decide (xs.length<=1000)
 | .dct ks vs,e=>AJ e λkeys B=>iJ ks&&(wu nm ks keys&&(dq nm vs B&&(decide (keys.length=B.length)&&decide (keys.length<=15))))
 | .bin op a b,e=>wX e λl o r=>decide (o=Ra op)&&(aU nm a l&&aU nm b r)
 | .cmp1 op a b,e=>kP e λl os rs=>yV os λo=>yV rs λr=>decide (o=Ht op)&&(aU nm a l&&aU nm b r)
 | .cmp2 a o1 b o2 c,e=>kP e λl os rs=>FW os λF G=>FW rs λJ O=>decide (F=Ht o1)&&(decide (G=Ht o2)&&(aU nm a l&&(aU nm b J&&aU nm c O)))
 | .and2 a b,e=>og e λo xs=>FW xs λx y=>decide (o=.And)&&(aU nm a x&&aU nm b y)
 | .or2 a b,e=>og e λo xs=>FW xs λx y=>decide (o=.Or)&&(aU nm a x&&aU nm b y)
 | .not1 a,e=>kQ e λo x=>decide (o=.Not)&&aU nm a x
 | .ite c a b,e=>wY e λt x y=>aU nm c t&&(aU nm a x&&aU nm b y)
 | .idx a i,e=>fD e λo x=>aU nm a o&&aU nm i x
 | .slc a lo hi,e=>fD e λo x=>xd x λl u st=>st.isNone&&(aU nm a o&&(Fo lo l&&Fo hi u))
 | .attr a f,e=>fC e λo n _=>n==Str.ofString f&&(cU o&&aU nm a o)
 | .comp elt g,e=>oh e λx gens sc=>mI nm sc (eX g)&&(aU (eF sc.names nm) elt x&&(jR nm (eF sc.names nm) true g gens&&decide (eX g).Nodup))
 | .call f args,e=>iu e λg as ks _=>dU g λid=>ks.isEmpty&&(dP nm f id&&dq nm args as)
 | .new c args,e=>iu e λg as ks _=>dU g λid=>ks.isEmpty&&(dP nm c id&&dq nm args as)
 | .meth o m args,e=>iu e λg as ks p=>fC g λx n ap=>ks.isEmpty&&(n==Str.ofString m&&(cU x&&(aU nm o x&&(dq nm args as&&(decide (as.length<30)&&(ap.endLine==p.line))))))
 | .prim p a,e=>iu e λg as ks _=>dU g λid=>yV as λx=>ks.isEmpty&&(dP nm (tO p) id&&(match rN nm p x with|some y=>aU nm a y|none=>false))
noncomputable def dq(nm:bq):MEs->List Expr->Bool
 | .nil,xs=>xs.isEmpty
 | .cons e r,xs=>match xs with | []=>false|x::xs=>aU nm e x&&dq nm r xs
noncomputable def wu(nm:bq):MEs->List (Option Expr)->Bool
 | .nil,xs=>xs.isEmpty
 | .cons e r,xs=>match xs with|some x::xs=>aU nm e x&&wu nm r xs|_=>false
noncomputable def jR(outer nm:bq)(first:Bool):Gens->List Comprehension->Bool
 | .one t it c,gs=>yV gs λg=>fh false nm t g.target&&(lv (if first then outer else nm) it g.iter&&(Fp nm c g.ifs&&decide (g.is_async=0)))
 | .more t it r,gs=>match gs with | []=>false|g::gs=>fh false nm t g.target&&(lv (if first then outer else nm) it g.iter&&(g.ifs.isEmpty&&(decide (g.is_async=0)&&jR outer nm false r gs)))
noncomputable def Fp(nm:bq):Option ME->List Expr->Bool
 |none,xs=>xs.isEmpty
 |some c,xs=>yV xs λx=>aU nm c x
noncomputable def lv(nm:bq):MIt->Expr->Bool
 | .exp e,x=>lP x&&aU nm e x
 | .rng e,x=>match ib nm "range" x with|some y=>aU nm e y|none=>false
 |_,_=>false
end
noncomputable def Bj(a b:Expr):Bool:=!(gD a λ_=>gD b λes=>es.all (constantsAlone 8))
noncomputable def Ho(nm:bq)(o:ME)(f:String)(e:Expr):Bool:=fC e λy n _=>n==Str.ofString f&&aU nm o y
noncomputable def Hp(nm:bq)(o i:ME)(e:Expr):Bool:=fD e λy z=>aU nm o y&&aU nm i z
noncomputable def jW(it:MIt)(e:Expr):Bool:=match it with | .zip _ _=>gD e λ_=>true | .enum _=>gD e λ_=>true|_=>true
noncomputable def nY(e:Expr):Bool:=e.ctorIdx != 8&&(e.ctorIdx != 9&&e.ctorIdx != 10)
noncomputable def wr(nm:bq):MIt->Expr->Bool
 | .zip a b,e=>iu e λg as ks _=>dU g λid=>FW as λx y=>ks.isEmpty&&(dP nm "zip" id&&(aU nm a x&&aU nm b y))
 | .enum a,e=>iu e λg as ks _=>dU g λid=>yV as λx=>ks.isEmpty&&(dP nm "enumerate" id&&aU nm a x)
 |it,x=>lv nm it x
mutual
noncomputable def Hr(nm:bq):MS->Stmt->Bool
 | .expr e,y=>wZ y λx=>aU nm e x&&nY x
 | .asg (.tg t) e,y=>iT y λts x=>yV ts λy=>fh true nm t y&&(aU nm e x&&Bj y x)
 | .asg (.at o f) e,y=>iT y λts x=>yV ts λy=>Ho nm o f y&&aU nm e x
 | .asg (.ix o i) e,y=>iT y λts x=>yV ts λy=>Hp nm o i y&&aU nm e x
 | .ret e,y=>qB y λx=>match x with|some x=>aU nm e x|none=>false
 | .if1 c a b,y=>EY y λt ys B=>aU nm c t&&(jd nm a ys&&jd nm b B)
 | .whl c b,y=>tJ y λt ys B=>B.isEmpty&&(aU nm c t&&jd nm b ys)
 | .for1 t it b,y=>AL y λz x ys B=>B.isEmpty&&(fh true nm t z&&(wr nm it x&&(lP x&&(jW it z&&jd nm b ys))))
 | .rais,y=>y.ctorIdx==16
noncomputable def jd(nm:bq):List MS->List Stmt->Bool
 | [],ys=>ys.isEmpty
 |x::xs,ys=>match ys with | []=>false|y::ys=>Hr nm x y&&jd nm xs ys
end
noncomputable abbrev c7:=ME.var "self"
noncomputable abbrev c8:=ME.cst (.int 0)
noncomputable abbrev c9:=ME.var "node"
noncomputable abbrev d5:=ME.var "pattern"
noncomputable abbrev d6:=ME.var "feed"
noncomputable abbrev d7:=ME.var "mine"
noncomputable abbrev d8:=ME.var "n"
noncomputable abbrev d9:=ME.var "homes"
noncomputable abbrev f6:=ME.var "table"
noncomputable abbrev f7:=ME.cst (.int 1)
noncomputable abbrev f8:=ME.cst (.str "cells")
noncomputable abbrev f9:=ME.cst (.int 2)
noncomputable abbrev g7:=ME.var "kid"
noncomputable abbrev g8:=ME.var "op"
noncomputable abbrev g9:=ME.var "c"
noncomputable abbrev h9:=ME.var "found"
noncomputable abbrev i6:=ME.cst (.bool false)
noncomputable abbrev i7:=ME.var "pairs"
noncomputable abbrev i8:=ME.var "tables"
noncomputable abbrev i9:=ME.var "a"
noncomputable abbrev j0:=ME.var "leaves"
noncomputable abbrev j5:=ME.var "heap"
noncomputable abbrev j6:=ME.cst (.bool true)
noncomputable abbrev j7:=ME.var "kept"
noncomputable abbrev j8:=ME.var "gone"
noncomputable abbrev j9:=ME.cst (.str "?")
noncomputable abbrev k6:=ME.var "k"
noncomputable abbrev k7:=ME.var "late"
noncomputable abbrev k8:=ME.var "shapes"
noncomputable abbrev k9:=ME.var "tree"
noncomputable abbrev l6:=ME.cst (.int 3)
noncomputable abbrev l7:=ME.cst (.str "at")
noncomputable abbrev l8:=ME.var "way"
noncomputable abbrev l9:=ME.cst (.str "a")
noncomputable abbrev m4:=ME.var "part"
noncomputable abbrev m6:=ME.var "deep"
noncomputable abbrev m7:=ME.var "high"
noncomputable abbrev m8:=ME.var "classes"
noncomputable abbrev m9:=ME.var "b"
noncomputable abbrev n6:=ME.var "low"
noncomputable abbrev n7:=ME.var "other"
noncomputable abbrev n8:=ME.cst (.str "?x")
noncomputable abbrev n9:=ME.var "some"
noncomputable abbrev o4:=ME.var "home"
noncomputable abbrev o5:=ME.cst (.str "b")
noncomputable abbrev o6:=ME.var "numbers"
noncomputable abbrev o7:=ME.var "substs"
noncomputable abbrev o8:=ME.cst (.int 4)
noncomputable abbrev o9:=ME.var "t"
noncomputable def wR:bx:=⟨["text"],[.ret (.and2 (.cmp1 .ne (.var "text") (.cst (.str ""))) (.cmp1 .eq (.comp (.var "sign") (.one (.nm "sign") (.exp (.var "text")) (some (.or2 (.meth (.var "sign") "isspace" .nil) (.cmp1 .isin (.var "sign") (.cst (.str "()[]{},:"))))))) (.lst .nil)))]⟩
noncomputable def jm:bx:=⟨["t"],[.ret (.and2 (.cmp1 .eq (.prim .len o9) f7) (.cmp1 .eq (.slc (.idx o9 c8) none (some 1)) j9))]⟩
noncomputable def lC:bx:=⟨["self"],[.asg (.at c7 "nodes") (.lst .nil),.asg (.at c7 "numbers") (.dct .nil .nil),.asg (.at c7 "weights") (.lst .nil),.asg (.at c7 "depths") (.lst .nil)]⟩
noncomputable def lE:bx:=⟨["self"],[.ret (.prim .len (.attr c7 "nodes"))]⟩
noncomputable def lF:bx:=⟨["self","op","kids"],[.asg (.tg (.nm "node")) (.bin .add (.tup (.cons g8 .nil)) (.prim .tuple (.var "kids"))),.if1 (.cmp1 .isin c9 (.attr c7 "numbers")) [.ret (.idx (.attr c7 "numbers") c9)] [],.expr (.meth c7 "require" (.cons g8 .nil)),.for1 (.nm "kid") (.exp (.slc c9 (some 1) none)) [.if1 (.not1 (.cmp2 c8 .le g7 .lt (.prim .len (.attr c7 "nodes")))) [.rais] []],.asg (.ix (.attr c7 "numbers") c9) (.prim .len (.attr c7 "nodes")),.expr (.meth (.attr c7 "nodes") "append" (.cons c9 .nil)),.expr (.meth (.attr c7 "weights") "append" (.cons (.bin .add f7 (.prim .sum (.comp (.idx (.attr c7 "weights") g7) (.one (.nm "kid") (.exp (.slc c9 (some 1) none)) none)))) .nil)),.expr (.meth (.attr c7 "depths") "append" (.cons (.bin .add f7 (.prim .max (.bin .add (.comp (.idx (.attr c7 "depths") g7) (.one (.nm "kid") (.exp (.slc c9 (some 1) none)) none)) (.lst (.cons c8 .nil))))) .nil)),.ret (.bin .sub (.prim .len (.attr c7 "nodes")) f7)]⟩
noncomputable def il:bx:=⟨["self","op"],[.if1 (.or2 (.not1 (.call "is_op" (.cons g8 .nil))) (.cmp1 .eq (.idx g8 c8) j9)) [.rais] []]⟩
noncomputable def qv:bx:=⟨["self","n"],[.ret (.idx (.idx (.attr c7 "nodes") d8) c8)]⟩
noncomputable def lD:bx:=⟨["self","n"],[.ret (.slc (.idx (.attr c7 "nodes") d8) (some 1) none)]⟩
noncomputable def jk:bx:=⟨["self","heap"],[.asg (.at c7 "heap") j5]⟩
noncomputable def fy:bx:=⟨["self","table","c","pattern"],[.asg (.tg (.nm "op")) (.idx d5 c8),.if1 (.call "is_variable" (.cons d5 .nil)) [.asg (.tg (.nm "late")) (.prim .dict f6),.asg (.ix k7 g8) g9,.ret (.ite (.cmp1 .eq (.meth f6 "get" (.cons g8 (.cons g9 .nil))) g9) (.lst (.cons k7 .nil)) (.lst .nil))] [],.asg (.tg (.nm "found")) (.lst .nil),.for1 (.nm "node") (.exp (.meth (.attr c7 "heap") "nodes_of" (.cons g9 .nil))) [.if1 (.and2 (.cmp1 .eq (.idx c9 c8) g8) (.cmp1 .eq (.prim .len c9) (.prim .len d5))) [.asg (.tg (.nm "tables")) (.lst (.cons f6 .nil)),.for1 (.tp2 (.nm "kid") (.nm "part")) (.zip (.slc c9 (some 1) none) (.slc d5 (some 1) none)) [.asg (.tg (.nm "tables")) (.comp k7 (.more (.nm "one") (.exp i8) (.one (.nm "late") (.exp (.meth c7 "extended" (.cons (.var "one") (.cons g7 (.cons m4 .nil))))) none)))],.expr (.meth h9 "extend" (.cons i8 .nil))] []],.ret h9]⟩
noncomputable def fz:bx:=⟨["self","c","pattern"],[.asg (.tg (.nm "substs")) (.dct .nil .nil),.for1 (.nm "table") (.exp (.meth c7 "extended" (.cons (.dct .nil .nil) (.cons (.meth (.attr c7 "heap") "find" (.cons g9 .nil)) (.cons d5 .nil))))) [.asg (.ix o7 (.prim .tuple (.prim .sortedItems f6))) j6],.ret (.prim .sorted o7)]⟩
noncomputable def jh:bx:=⟨["self"],[.asg (.at c7 "above") (.lst .nil),.asg (.at c7 "lots") (.lst .nil),.asg (.at c7 "merged") (.lst .nil)]⟩
noncomputable def ji:bx:=⟨["self"],[.expr (.meth (.attr c7 "above") "append" (.cons (.prim .len (.attr c7 "above")) .nil)),.expr (.meth (.attr c7 "lots") "append" (.cons (.lst (.cons (.prim .len (.attr c7 "lots")) .nil)) .nil)),.ret (.bin .sub (.prim .len (.attr c7 "above")) f7)]⟩
noncomputable def jj:bx:=⟨["self"],[.ret (.prim .len (.attr c7 "above"))]⟩
noncomputable def jg:bx:=⟨["self","a"],[.whl (.cmp1 .ne (.idx (.attr c7 "above") i9) i9) [.asg (.tg (.nm "a")) (.idx (.attr c7 "above") i9)],.ret i9]⟩
noncomputable def iq:bx:=⟨["self","a","b"],[.asg (.tg (.tp2 (.nm "kept") (.nm "gone"))) (.prim .sorted (.lst (.cons (.meth c7 "find" (.cons i9 .nil)) (.cons (.meth c7 "find" (.cons m9 .nil)) .nil)))),.if1 (.cmp1 .eq j7 j8) [.ret (.cst .none)] [],.asg (.ix (.attr c7 "above") j8) j7,.expr (.meth (.idx (.attr c7 "lots") j7) "extend" (.cons (.idx (.attr c7 "lots") j8) .nil)),.expr (.meth (.attr c7 "merged") "append" (.cons (.tup (.cons j7 (.cons j8 .nil))) .nil)),.ret (.tup (.cons j7 (.cons j8 .nil)))]⟩
noncomputable def fZ:bx:=⟨["self","a"],[.ret (.prim .sorted (.idx (.attr c7 "lots") (.meth c7 "find" (.cons i9 .nil))))]⟩
noncomputable def lI:bx:=⟨["self"],[.asg (.at c7 "bank") (.new "Bank" .nil),.asg (.at c7 "unions") (.new "Unions" .nil),.asg (.at c7 "edges") (.lst .nil),.asg (.at c7 "forest") (.lst .nil),.asg (.at c7 "known") (.dct .nil .nil),.asg (.at c7 "above") (.dct .nil .nil),.asg (.at c7 "waiting") (.lst .nil)]⟩
noncomputable def lL:bx:=⟨["self"],[.ret (.meth (.attr c7 "bank") "size" .nil)]⟩
noncomputable def lK:bx:=⟨["self","n"],[.ret (.bin .add (.tup (.cons (.meth (.attr c7 "bank") "op" (.cons d8 .nil)) .nil)) (.prim .tuple (.comp (.meth c7 "find" (.cons g7 .nil)) (.one (.nm "kid") (.exp (.meth (.attr c7 "bank") "kids" (.cons d8 .nil))) none))))]⟩
noncomputable def nQ:bx:=⟨["self","op","numbers"],[.asg (.tg (.nm "n")) (.meth (.attr c7 "bank") "take" (.cons g8 (.cons o6 .nil))),.if1 (.cmp1 .lt d8 (.meth (.attr c7 "unions") "size" .nil)) [.ret d8] [],.expr (.meth (.attr c7 "unions") "make" .nil),.asg (.ix (.attr c7 "above") d8) (.lst .nil),.for1 (.nm "c") (.exp (.prim .sortedSet (.comp (.meth c7 "find" (.cons g7 .nil)) (.one (.nm "kid") (.exp o6) none)))) [.expr (.meth (.idx (.attr c7 "above") g9) "append" (.cons d8 .nil))],.expr (.meth c7 "look_at" (.cons d8 .nil)),.ret d8]⟩
noncomputable def nR:bx:=⟨["self","term"],[.ret (.meth c7 "add" (.cons (.idx (.var "term") c8) (.cons (.prim .tuple (.comp (.meth c7 "put" (.cons m4 .nil)) (.one (.nm "part") (.exp (.slc (.var "term") (some 1) none)) none))) .nil)))]⟩
noncomputable def im:bx:=⟨["self","n"],[.asg (.tg (.nm "other")) (.meth (.attr c7 "known") "setdefault" (.cons (.meth c7 "node" (.cons d8 .nil)) (.cons d8 .nil))),.if1 (.cmp1 .ne (.meth c7 "find" (.cons n7 .nil)) (.meth c7 "find" (.cons d8 .nil))) [.expr (.meth c7 "join" (.cons n7 (.cons d8 (.cons (.tup (.cons (.cst (.str "like")) .nil)) .nil))))] []]⟩
noncomputable def lG:bx:=⟨["self","n"],[.ret (.meth (.attr c7 "unions") "find" (.cons d8 .nil))]⟩
noncomputable def ka:bx:=⟨["self","a","b","reason"],[.ret (.meth c7 "join" (.cons i9 (.cons m9 (.cons (.var "reason") .nil))))]⟩
noncomputable def lJ:bx:=⟨["self","a","b","reason"],[.expr (.meth (.attr c7 "edges") "append" (.cons (.tup (.cons i9 (.cons m9 (.cons (.var "reason") .nil)))) .nil)),.asg (.tg (.nm "merged")) (.meth (.attr c7 "unions") "merge" (.cons i9 (.cons m9 .nil))),.if1 (.cmp1 .is (.var "merged") (.cst .none)) [.ret i6] [],.asg (.tg (.tp2 (.nm "kept") (.nm "gone"))) (.var "merged"),.expr (.meth (.attr c7 "forest") "append" (.cons (.bin .sub (.prim .len (.attr c7 "edges")) f7) .nil)),.expr (.meth (.attr c7 "waiting") "extend" (.cons (.idx (.attr c7 "above") j8) .nil)),.asg (.ix (.attr c7 "above") j7) (.bin .add (.idx (.attr c7 "above") j7) (.meth (.attr c7 "above") "pop" (.cons j8 .nil))),.ret j6]⟩
noncomputable def jf:bx:=⟨["self"],[.whl (.cmp1 .gt (.prim .len (.attr c7 "waiting")) c8) [.expr (.meth c7 "look_at" (.cons (.meth (.attr c7 "waiting") "pop" .nil) .nil))]]⟩
noncomputable def io:bx:=⟨["self","c"],[.ret (.meth (.attr c7 "unions") "members" (.cons g9 .nil))]⟩
noncomputable def gQ:bx:=⟨["self","c"],[.ret (.prim .sortedSet (.comp (.meth c7 "node" (.cons d8 .nil)) (.one (.nm "n") (.exp (.meth c7 "members" (.cons g9 .nil))) none)))]⟩
noncomputable def nS:bx:=⟨["feed","wide"],[.asg (.tg (.nm "k")) (.idx d6 l7),.asg (.ix d6 l7) (.bin .add k6 f7),.if1 (.cmp1 .lt k6 (.prim .len (.idx d6 f8))) [.ret (.bin .mod (.idx (.idx d6 f8) k6) (.var "wide"))] [],.ret (.bin .mod (.bin .mod (.bin .add (.bin .add (.bin .add (.bin .mul (.bin .mul (.cst (.int 11)) k6) k6) (.bin .mul l6 k6)) (.bin .mul (.cst (.int 5)) (.prim .len (.idx d6 f8)))) o8) (.cst (.int 103))) (.var "wide"))]⟩
noncomputable def nT:bx:=⟨["feed","deep","leaves"],[.asg (.tg (.nm "way")) (.ite (.cmp1 .gt m6 c8) (.call "_law_draw" (.cons d6 (.cons (.cst (.int 5)) .nil))) c8),.if1 (.or2 (.cmp1 .eq l8 l6) (.cmp1 .eq l8 o8)) [.ret (.tup (.cons (.cst (.str "g")) (.cons (.call "_law_tree" (.cons d6 (.cons (.bin .sub m6 f7) (.cons j0 .nil)))) (.cons (.call "_law_tree" (.cons d6 (.cons (.bin .sub m6 f7) (.cons j0 .nil)))) .nil))))] [],.if1 (.cmp1 .eq l8 f9) [.ret (.tup (.cons (.cst (.str "f")) (.cons (.call "_law_tree" (.cons d6 (.cons (.bin .sub m6 f7) (.cons j0 .nil)))) .nil)))] [],.ret (.tup (.cons (.idx j0 (.call "_law_draw" (.cons d6 (.cons (.prim .len j0) .nil)))) .nil))]⟩
noncomputable def kb:bx:=⟨["mine","tree"],[.asg (.tg (.nm "node")) (.bin .add (.tup (.cons (.idx k9 c8) .nil)) (.prim .tuple (.comp (.call "_law_ranked" (.cons d7 (.cons g7 .nil))) (.one (.nm "kid") (.exp (.slc k9 (some 1) none)) none)))),.if1 (.cmp1 .notin c9 d7) [.expr (.meth d7 "append" (.cons c9 .nil))] [],.ret (.meth d7 "index" (.cons c9 .nil))]⟩
noncomputable def lN:bx:=⟨["mine","pairs"],[.asg (.tg (.tp2 (.nm "homes") (.nm "is_new"))) (.tup (.cons (.prim .listRange (.prim .len d7)) (.cons j6 .nil))),.whl (.var "is_new") [.asg (.tg (.tp3 (.nm "is_new") (.nm "some") (.nm "seen"))) (.tup (.cons i6 (.cons (.prim .list i7) (.cons (.dct .nil .nil) .nil)))),.for1 (.tp2 (.nm "n") (.nm "node")) (.enum d7) [.expr (.meth n9 "append" (.cons (.tup (.cons d8 (.cons (.meth (.var "seen") "setdefault" (.cons (.bin .add (.tup (.cons (.idx c9 c8) .nil)) (.prim .tuple (.comp (.idx d9 k6) (.one (.nm "k") (.exp (.slc c9 (some 1) none)) none)))) (.cons d8 .nil))) .nil))) .nil))],.for1 (.tp2 (.nm "a") (.nm "b")) (.exp n9) [.asg (.tg (.tp2 (.nm "low") (.nm "high"))) (.prim .sorted (.lst (.cons (.idx d9 i9) (.cons (.idx d9 m9) .nil)))),.if1 (.cmp1 .ne n6 m7) [.asg (.tg (.tp2 (.nm "homes") (.nm "is_new"))) (.tup (.cons (.comp (.ite (.cmp1 .eq o4 m7) n6 o4) (.one (.nm "home") (.exp d9) none)) (.cons j6 .nil)))] []]],.ret d9]⟩
noncomputable def kg:bx:=⟨["mine","homes"],[.asg (.tg (.nm "found")) (.dct .nil .nil),.for1 (.tp2 (.nm "n") (.nm "node")) (.enum d7) [.asg (.ix h9 (.bin .add (.tup (.cons (.idx c9 c8) .nil)) (.prim .tuple (.comp (.idx d9 k6) (.one (.nm "k") (.exp (.slc c9 (some 1) none)) none))))) (.idx d9 d8)],.ret h9]⟩
noncomputable def lO:bx:=⟨["pattern"],[.if1 (.cmp1 .eq (.idx (.idx d5 c8) c8) j9) [.ret (.lst (.cons (.idx d5 c8) .nil))] [],.ret (.comp (.var "name") (.more (.nm "kid") (.exp (.slc d5 (some 1) none)) (.one (.nm "name") (.exp (.call "_law_names" (.cons g7 .nil))) none)))]⟩
noncomputable def lM:bx:=⟨["pattern","table","shapes"],[.if1 (.cmp1 .eq (.idx (.idx d5 c8) c8) j9) [.ret (.idx f6 (.idx d5 c8))] [],.asg (.tg (.nm "kids")) (.prim .tuple (.comp (.call "_law_class" (.cons g7 (.cons f6 (.cons k8 .nil)))) (.one (.nm "kid") (.exp (.slc d5 (some 1) none)) none))),.ret (.meth k8 "get" (.cons (.bin .add (.tup (.cons (.idx d5 c8) .nil)) (.var "kids")) (.cons (.neg 1) .nil)))]⟩
noncomputable def qw:bx:=⟨["pattern","shapes","classes"],[.asg (.tg (.nm "tables")) (.lst (.cons (.dct .nil .nil) .nil)),.for1 (.nm "name") (.exp (.prim .sortedSet (.call "_law_names" (.cons d5 .nil)))) [.asg (.tg (.nm "tables")) (.comp (.prim .dict (.bin .add (.prim .listItems f6) (.lst (.cons (.tup (.cons (.var "name") (.cons g9 .nil))) .nil)))) (.more (.nm "table") (.exp i8) (.one (.nm "c") (.exp m8) none)))],.asg (.tg (.nm "found")) (.dct .nil .nil),.for1 (.nm "table") (.exp i8) [.expr (.meth (.meth h9 "setdefault" (.cons (.call "_law_class" (.cons d5 (.cons f6 (.cons k8 .nil)))) (.cons (.lst .nil) .nil))) "append" (.cons (.prim .tuple (.prim .sortedItems f6)) .nil))],.ret h9]⟩
noncomputable def wS:bx:=⟨["script"],[.asg (.tg (.tp3 (.nm "feed") (.nm "heap") (.nm "mine"))) (.tup (.cons (.dct (.cons f8 (.cons l7 .nil)) (.cons (.prim .list (.slc (.var "script") none (some 40))) (.cons c8 .nil))) (.cons (.new "Heap" .nil) (.cons (.lst .nil) .nil)))),.for1 (.nm "lap") (.rng (.bin .add f9 (.call "_law_draw" (.cons d6 (.cons f9 .nil))))) [.asg (.tg (.nm "tree")) (.call "_law_tree" (.cons d6 (.cons (.ite (.cmp1 .gt (.var "lap") c8) f9 c8) (.cons (.lst (.cons l9 (.cons o5 .nil))) .nil)))),.if1 (.cmp1 .ne (.meth j5 "put" (.cons k9 .nil)) (.call "_law_ranked" (.cons d7 (.cons k9 .nil)))) [.ret i6] []],.asg (.tg (.nm "pairs")) (.lst .nil),.for1 (.nm "lap") (.rng (.bin .add f7 (.call "_law_draw" (.cons d6 (.cons l6 .nil))))) [.expr (.meth i7 "append" (.cons (.tup (.cons (.call "_law_draw" (.cons d6 (.cons (.prim .len d7) .nil))) (.cons (.call "_law_draw" (.cons d6 (.cons (.prim .len d7) .nil))) .nil))) .nil)),.expr (.meth j5 "merge" (.cons (.idx (.idx i7 (.neg 1)) c8) (.cons (.idx (.idx i7 (.neg 1)) f7) (.cons (.tup (.cons (.cst (.str "told")) (.cons (.cst (.str "t")) .nil))) .nil))))],.expr (.meth j5 "settle" .nil),.asg (.tg (.nm "homes")) (.call "_law_homes" (.cons d7 (.cons i7 .nil))),.asg (.tg (.tp3 (.nm "shapes") (.nm "classes") (.nm "walker"))) (.tup (.cons (.call "_law_shapes" (.cons d7 (.cons d9 .nil))) (.cons (.prim .sortedSet d9) (.cons (.new "Walker" (.cons j5 .nil)) .nil)))),.for1 (.nm "pattern") (.exp (.tup (.cons (.tup (.cons n8 .nil)) (.cons (.call "_law_tree" (.cons d6 (.cons f9 (.cons (.lst (.cons l9 (.cons o5 (.cons (.cst (.str "c")) .nil)))) .nil)))) (.cons (.call "_law_tree" (.cons d6 (.cons f9 (.cons (.lst (.cons n8 (.cons (.cst (.str "?y")) (.cons l9 (.cons n8 .nil))))) .nil)))) .nil))))) [.asg (.tg (.nm "found")) (.call "_law_due" (.cons d5 (.cons k8 (.cons m8 .nil)))),.for1 (.nm "n") (.rng (.prim .len d7)) [.if1 (.cmp1 .ne (.meth (.var "walker") "found_in" (.cons d8 (.cons d5 .nil))) (.prim .sorted (.meth h9 "get" (.cons (.idx d9 d8) (.cons (.lst .nil) .nil))))) [.ret i6] []]],.ret (.cmp1 .eq (.meth j5 "size" .nil) (.prim .len d7))]⟩
noncomputable def Hz:Data->Option FuncData
 | .func fd=>some fd
 |_=>none
noncomputable def OO:Data->Option (Array Value)
 | .seq vs _=>some vs
 |_=>none
noncomputable def Hy:Data->Option (Array Value)
 | .fields vs=>some vs
 |_=>none
noncomputable def GJ:Value->Option Str
 | .str s _=>some s
 |_=>none
noncomputable def AS:Value->Option Addr
 | .ref a=>some a
 |_=>none
noncomputable def Cj(K:Frag)(a:Addr):Option FuncData:=(K.lookup a).bind λo=>Hz o.data
noncomputable def zm(fd:FuncData)(m:bx):FuncBody->Bool
 | .stmts ys=>jd fd.scope.names m.body ys
 | .expr _=>false
noncomputable def Cw(b:Bool):Option NameKind->Bool
 |some .local=>true
 |some .cell=>true
 |some .free=>false
 |some _=>b
 |none=>b
noncomputable def Hn(K:Frag)(v:Value):Option Str:=(AS v).bind λc=>(K.lookup c).bind λo=>(Hy o.data).bind λvs=>(vs[1]?).bind GJ
noncomputable def Fb:Value->Bool
 | .none=>true
 |_=>false
noncomputable def zS(K:Frag)(fd:FuncData)(m:bx):Bool :=
 zm fd m fd.body&&(fd.closure.isEmpty&&(fd.globals==mainGlobals&&(fd.builtins==builtinsNs&&(!fd.scope.isCoroutine&&(!fd.scope.isGenerator &&
 (decide (fd.scope.kind=.function)&&(fd.params.posonlyargs.isEmpty&&(decide (fd.params.args.map Arg.arg=m.params.map Str.ofString)&&(fd.params.vararg.isNone&&(fd.params.kwonlyargs.isEmpty&&(fd.params.kwarg.isNone &&
 (Fb fd.defaults&&(decide m.params.Nodup&&(m.params.all (λp=>Cw false (fd.scope.names.lookup (Str.ofString p))) &&
 (fd.scope.names.all (λx=>Cw true (some x.2))&&decide (Hn K fd.code=some fd.qualname))))))))))))))))
noncomputable def zR(K:Frag)(a:Addr)(m:bx):Bool:=match Cj K a with|some fd=>zS K fd m|none=>false
noncomputable def xC(K:Frag)(a:Addr):Option (Array Value):=(K.lookup a).bind λo=>if o.cls=.type "tuple" then OO o.data else none
mutual
noncomputable def OX(K:Frag):V->Value->Bool
 | .str s,c=>decide (GJ c=some (Str.ofString s))
 | .tup vs,c=>(match(AS c).bind (xC K)with|some cvs=>xD K vs cvs.toList|none=>false)
 |_,_=>false
noncomputable def xD(K:Frag):List V->List Value->Bool
 | [],cs=>cs.isEmpty
 |v::vs,cs=>(match cs with|c::cs=>OX K v c&&xD K vs cs | []=>false)
end
section
variable{K:Frag}{base:Heap}{sad:Addr}{X:Addr->Prop}
noncomputable def Hi(x:Option (Option Value))(f:Option Value->Bool):Bool:=match x with|some a=>f a|none=>false
noncomputable def DL(K:Frag)(C:Addr)(n:Str):Bool:=plainGet K C n&&(hasDictIn K C&&(Hi (findIn K (.ref C) n) (noGet K) &&
 (decide (findIn K (.ref C) "__setattr__"=some (some (.builtin "object.__setattr__")))&&(plainOver K C&&decide (takerIn K C n=some none)))))
noncomputable def qE(v:Option (Option Value))(f:Addr):Bool:=decide (v=some (some (.ref f)))
noncomputable def Cm(K:Frag)(f:Addr):Bool:=decide (typeIn K (.ref f)=some (.type "function"))
noncomputable def DS(K:Frag)(C:Addr)(n:Str)(f:Addr):Bool:=plainGet K C n&&(qE (findIn K (.ref C) n) f&&(Cm K f&&keepIn K (.ref f)))
noncomputable def HP(K:Frag)(C f:Addr):Bool:=makesIn K C&&(qE (findIn K (.ref C) "__init__") f&&(Cm K f&&keepIn K (.ref C)))
structure Tbl where
 fn:List (String×Addr)
 cls:List (String×Addr)
 meth:List ((String×String)×Addr)
 flds:List (String×List String)
noncomputable def Ap(v:Option (Option Value)):Bool:=decide (v=some none)
noncomputable def DM(K:Frag)(t:Tbl):Bool:=t.fn.all λp=>qE (nsIn K mainGlobals (Str.ofString p.1)) p.2&&keepIn K (.ref p.2)
noncomputable def DG(K:Frag)(t:Tbl):Bool:=t.cls.all λp=>qE (nsIn K mainGlobals (Str.ofString p.1)) p.2
noncomputable def QG(x:Option Addr)(f:Addr->Bool):Bool:=match x with|some a=>f a|none=>true
noncomputable def Ak(K:Frag)(t:Tbl):Bool:=t.meth.all λp=>QG (t.cls.lookup p.1.1) λC=>DS K C (Str.ofString p.1.2) p.2&&(!decide (p.1.2="__init__")||HP K C p.2)
noncomputable def zQ(K:Frag)(t:Tbl):Bool:=t.flds.all λp=>QG (t.cls.lookup p.1) λC=>p.2.all λf=>DL K C (Str.ofString f)
noncomputable def DF(K:Frag):Bool:=bZ.all λp=>Ap (nsIn K mainGlobals (Str.ofString p.1))
def gb[BEq α][LawfulBEq α]{l:List (α×β)}{a:α}{b:β}(h:l.lookup a=some b):(a,b)∈l:=by
 induction l with
 |nil=>exact jB h
 |cons p l B =>
  rw[K8]at h;cases e:a==p.1 with
  |true=>rw[e]at h;obtain rfl:=w8 h;rw[J1 e];exact y4
  |false=>rw[e]at h;exact w9 _ (B h)
end
noncomputable abbrev vE:Program:=PySem.Challenge.pw_pq0056_03
noncomputable def q0:Pos:=⟨0,0,0,0⟩
noncomputable def Fx:Env:={ scope:=vE.main.scope,locals:=mainNs,globals:=mainNs,cells:=[],code:=.ref 13,frame:=some 14 }
noncomputable def zl:List Stmt:=behindTheImports vE
noncomputable def BO:Code:=.body zl Fx
noncomputable def Rw:Obj:={ cls:=.type "tuple",data:=.seq #[] }
noncomputable def Rx:Obj:={ cls:=.none,data:=.fields #[] }
noncomputable def Ry:Obj:={ cls:=.type "code",data:=.fields #[.str (Str.ofString "<module>") 182,.str (Str.ofString "<module>") 183,.str (Str.ofString "/claim/cut.py") 184,.int 1 0,.int 0 0,.int 0 0,.int 0 0,.int 0 0,.ref 11,.bool false,.int 181 0,.ref 12,.none,.none,.none,.none,.int 185 0,.int 1 0,.str (Str.ofString "/claim/cut.py") 186] }
noncomputable def Rz:Obj:={ cls:=.type "frame",slots:=#[some (.ref 13),some (.ref 3),some (.ref 3),none,some (.str (Str.ofString "__main__") 164),none,some (.ref 0)] }
noncomputable def RL(P:Params):BT:=(.node (boot_o_0 P) (.node (boot_o_1 P) (.node (boot_o_3 P) (.node (boot_o_7 P) .nil .nil) (.node Rw .nil .nil)) (.node (boot_o_5 P) (.node (boot_o_9 P) .nil .nil) (.node Ry .nil .nil))) (.node (boot_o_2 P) (.node (boot_o_4 P) (.node (boot_o_8 P) .nil .nil) (.node Rx .nil .nil)) (.node (boot_o_6 P) (.node (boot_o_10 P) .nil .nil) (.node Rz .nil .nil))))
noncomputable def Sa(w:World)(os:OsState):SharedT:=⟨RL w.params,15,(boot_heap w.params).life,#[],boot_drawn,187,os⟩
noncomputable def qL:Pos:=⟨301,0,319,35⟩
noncomputable def Pr(w:World)(os:OsState):Option (Flow×SharedT×Code×Pos):=segRunT treeTable vE w 11 (some (.ref 6)) 1 3140 (Sa w os) (piecesOf zl Fx BO q0 [topFrame q0])
noncomputable def vq(p q:Program)(loose:List Str)(Xt Yf:Shared->Bool)(h0:Heap)(r:Shared) :=((staticsOk (importedModules p.main.body) h0 r.heap&&namesBound p r.heap&&gensDone r&&laidKept h0 r.heap),openSeen q loose (importedModules p.main.body) Xt true r,Yf r)
noncomputable def q4:Program:={ vE with main:={ vE.main with body:=[0,2,3,5,6,7,8,10,12,14,16,17,18,19,20,21,22,23,24].filterMap λi=>vE.main.body[i]? } }
section
set_option tactic.hygienic true
noncomputable def Du:Tbl:=⟨[("is_op",67),("is_variable",74),("_law_draw",442),("_law_tree",449),("_law_ranked",454),("_law_homes",459),("_law_shapes",464),("_law_names",469),("_law_class",474),("_law_due",479)],[("Bank",181),("Walker",219),("Unions",301),("Heap",431)],[(("Bank","__init__"),93),(("Bank","size"),100),(("Bank","take"),105),(("Bank","require"),112),(("Bank","op"),138),(("Bank","kids"),145),(("Walker","__init__"),199),(("Walker","extended"),204),(("Walker","found_in"),211),(("Unions","__init__"),237),(("Unions","make"),244),(("Unions","size"),251),(("Unions","find"),258),(("Unions","merge"),265),(("Unions","members"),272),(("Heap","__init__"),319),(("Heap","size"),326),(("Heap","node"),331),(("Heap","add"),336),(("Heap","put"),341),(("Heap","look_at"),348),(("Heap","find"),355),(("Heap","merge"),369),(("Heap","join"),376),(("Heap","settle"),383),(("Heap","members"),404),(("Heap","nodes_of"),409)],[("Heap",["bank","unions","edges","forest","known","above","waiting"]),("Bank",["nodes","numbers","weights","depths"]),("Unions",["above","lots","merged"]),("Walker",["heap"])]⟩
noncomputable def qk:List (Addr×bx):=[(67,wR),(74,jm),(93,lC),(100,lE),(105,lF),(112,il),(138,qv),(145,lD),(199,jk),(204,fy),(211,fz),(237,jh),(244,ji),(251,jj),(258,jg),(265,iq),(272,fZ),(319,lI),(326,lL),(331,lK),(336,nQ),(341,nR),(348,im),(355,lG),(369,ka),(376,lJ),(383,jf),(404,io),(409,gQ),(442,nS),(449,nT),(454,kb),(459,lN),(464,kg),(469,lO),(474,lM),(479,qw),(486,wS)]
noncomputable def Hj:List Addr:=[2,3,15,17,18,20,21,22,25,30,31,33,34,36,37,38,40,41,43,44,45,46,47,48,51,58,59,60,63,66,67,68,70,71,73,74,75,78,79,87,89,90,92,93,94,96,97,99,100,101,104,105,106,108,109,111,112,113,115,116,118,119,120,123,124,125,127,128,130,131,132,134,135,137,138,139,141,142,144,145,146,148,149,151,152,153,156,157,158,160,161,163,164,165,167,168,170,171,172,174,175,177,178,179,180,181,182,183,193,195,196,198,199,200,203,204,205,207,208,210,211,212,215,216,217,218,219,220,221,231,233,234,236,237,238,240,241,243,244,245,247,248,250,251,252,254,255,257,258,259,261,262,264,265,266,268,269,271,272,273,276,277,278,280,281,283,284,285,287,288,290,291,292,294,295,297,298,299,300,301,302,303,313,315,316,318,319,320,322,323,325,326,327,330,331,332,335,336,337,340,341,342,344,345,347,348,349,351,352,354,355,356,358,359,361,362,363,365,366,368,369,370,372,373,375,376,377,379,380,382,383,384,386,387,389,390,391,393,394,396,397,398,400,401,403,404,405,408,409,410,412,413,415,416,417,420,421,422,424,425,427,428,429,430,431,432,433,434,435,436,437,438,439,440,441,442,443,444,445,446,447,448,449,450,451,452,453,454,455,456,457,458,459,460,461,462,463,464,465,466,467,468,469,470,471,472,473,474,475,476,477,478,479,480,481,482,483,484,485,486]
noncomputable def Hs(K:Frag):Bool:=(qk.all λx=>zR K x.1 x.2)&&(DM K Du&&(DG K Du&&(Ak K Du&&(zQ K Du&&(DF K&&qE (nsIn K mainGlobals (Str.ofString "law")) 486)))))
noncomputable def zU(as:List Addr)(h:Heap):Frag:=as.filterMap λa=>(h.get? a).map λo=>(a,o)
def xY(as:List Addr)(h:Heap):(zU as h).In h:=λa o e=>by obtain⟨b,_,G⟩:=List.mem_filterMap.mp (gb e);obtain⟨o',B,F⟩:=D7.mp G;cases F;exact B
noncomputable def H4:Hook:=⟨Bool,λs=>Hs (zU Hj s.heap),λ_=>true,λ_ h=>∃K:Frag,K.In h/\Hs K=true,λ_ s e=>⟨_,xY Hj s.heap,e⟩,λ_ _ _ x k=>x.elim λK x=>⟨K,x.1.keeps k,x.2⟩⟩
noncomputable def X4(s:Shared):Bool:=xlAt q4 [] s&&recOk (RowW.records (OpenRow.toRowW PySem.Challenge.rw_pq0056_03.row)) s
def FM(w:World)(os:OsState):(Pr w os).map (λx=>(x.1,x.2.2,vq vE q4 [] X4 H4.obs (boot_heap w.params) x.2.1.abs))=some (.next,(BO,qL),(true,openGood q4 [],true)):=by unfold Pr vq;rw[Fast.te10110043849684766642,Fast.te14364793385576792824,Fast.te5923862056798008813,Fast.te4187177175401517315];kernel_rfl
end
section
variable{c:Value}{cs:List Value}{a:Addr}
set_option genInjectivity true
def ai{p:Prop}(h:false=true):p:=nomatch h
def aa{a b:Bool}(h:(a&&b)=true):a=true/\b=true:=by cases a;exact ai h;exact⟨rfl,h⟩
def nn{x:Option α}{a:α}{p:Prop}(h:x=none)(h':x=some a):p:=jB (h.symm.trans h')
def FO{x:Option α}{a:α}(h:x=some a):x≠none:=λe=>nn e h
def sm{x:Option α}{a b:α}(h:x=some a)(h':x=some b):a=b:=w8 (h.symm.trans h')
def Ph{x y:Option α}(h:x≠none)(k:∀o,x=some o->y=some o):y≠none:=by
 rcases x with _|o
 .exact absurd rfl h
 .exact FO (k o rfl)
inductive AO where
 |list (vs:List V)
 |dict (kvs:List (V×V))
 |inst (c:String) (dx:Addr)
@[reducible] noncomputable def bU:DecidableEq V:=λa b=>Classical.propDecidable (a=b)
noncomputable def cr(a b:V):Bool:=@decide (a=b) (bU a b)
def aO(a b:V):cr a b=true↔a=b:=by exact @decide_eq_true_iff (a=b) (bU a b)
theorem dg(a:V):cr a a=true:=(aO a a).mpr rfl
def bo{a b:V}:cr a b=false↔a≠b:=by rw[<- Bool.not_eq_true,aO]
noncomputable abbrev AH:=Addr->Option AO
abbrev b9:=List V->AH->Prop
abbrev b8:=V->AH->Prop
noncomputable def AH.set(H:AH)(a:Addr)(o:AO):AH:=λb=>if b=a then some o else H b
@[simp] theorem AH.set_self (H:AH) (a:Addr) (o:AO):H.set a o a=some o:=by simp[AH.set]
def p6(H:AH){b:Addr}(o:AO)(h:b≠a):H.set a o b=H b:=by simp[AH.set,h]
structure SX where
 a:Addr
 X:Addr->Prop
mutual
noncomputable def VR(sa:SX)(h:Heap):V->Value->Prop
 | .none,v=>v=.none
 | .scr,v=>v=.ref sa.a
 | .bool b,v=>v=.bool b
 | .int i,v=>∃t,v=.int i t
 | .str s,v=>∃t,v=.str (Str.ofString s) t
 | .ref a,v=>v=.ref a
 | .tup vs,v=>∃a cvs n,v=.ref a/\¬sa.X a/\(∃o,h.get? a=some o/\o.cls=.type "tuple"/\o.data=.seq cvs n)/\VRs sa h vs cvs.toList
noncomputable def VRs(sa:SX)(h:Heap):List V->List Value->Prop
 | [],l=>l=[]
 |v::vs,l=>∃c cs,l=c::cs/\VR sa h v c/\VRs sa h vs cs
end
def TupKeep(sa:SX)(h h':Heap):Prop:=∀b o,¬sa.X b->h.get? b=some o->o.cls=.type "tuple"->(∃xs n,o.data=.seq xs n)->h'.get? b=some o
def TupKeep.refl(sa:SX)(h:Heap):TupKeep sa h h:=λ_ _ _ e _ _=>e
theorem TupKeep.trans{sa:SX}{B:Heap}(a:TupKeep sa h h')(b:TupKeep sa h' B):TupKeep sa h B:=λx o n e c d=>b x o n (a x o n e c d) c d
def p7{sa:SX}(k:∀b o,h.get? b=some o->h'.get? b=some o):TupKeep sa h h':=λb o _ e _ _=>k b o e
section
variable{sa:SX}
mutual
theorem VR.keep(k:TupKeep sa h h'):∀{v:V}{c:Value},VR sa h v c->VR sa h' v c
 | .none,_,x=>by unfold VR at *;exact x
 | .scr,_,x=>by unfold VR at *;exact x
 | .bool _,_,x=>by unfold VR at *;exact x
 | .int _,_,x=>by unfold VR at *;exact x
 | .str _,_,x=>by unfold VR at *;exact x
 | .ref _,_,x=>by unfold VR at *;exact x
 | .tup vs,_,x=>by unfold VR at *;refine uC x λa cvs n e nx aX r=>?_;obtain⟨o,B,hc,hd⟩:=aX;exact(pi a cvs n e nx (⟨o,k a o nx B hc ⟨_,_,hd⟩,hc,hd⟩) (VRs.keep k r))
theorem VRs.keep(k:TupKeep sa h h'):∀{vs:List V}{cs:List Value},VRs sa h vs cs->VRs sa h' vs cs
 | [],_,x=>by unfold VRs at *;exact x
 |v::vs,_,x=>by unfold VRs at *;refine bN x λc cs e a b=>?_;exact(bF c cs e (VR.keep k a) (VRs.keep k b))
end
def VRs.nil:VRs sa h [] []:=by rfl
def VRs.cons{v:V}(a:VR sa h v c)(b:VRs sa h vs cs):VRs sa h (v::vs) (c::cs):=by unfold VRs;exact(bF c cs rfl a b)
def VRs.nil_inv(x:VRs sa h [] cs):cs=[]:=x
theorem VRs.cons_inv{v:V}(x:VRs sa h (v::vs) cs):∃c r,cs=c::r/\VR sa h v c/\VRs sa h vs r:=x
theorem VRs.length:∀{vs:List V}{cs:List Value},VRs sa h vs cs->cs.length=vs.length
 | [],_,x=>by rw[x.nil_inv];rfl
 |_::_,_,x=>by refine bN x.cons_inv λc r bV _ b=>?_;subst bV;simp[b.length]
theorem VRs.append:∀{vs ws:List V}{cs ds:List Value},VRs sa h vs cs->VRs sa h ws ds->VRs sa h (vs++ws) (cs++ds)
 | [],_,_,_,x,y=>by rw[x.nil_inv];exact y
 |_::_,_,_,_,x,y=>by refine bN x.cons_inv λc r da a b=>?_;subst da;exact .cons a (b.append y)
def VRs.one{v:V}(x:VR sa h v c):VRs sa h [v] [c]:=.cons x .nil
theorem VRs.get:∀{vs:List V}{cs:List Value},VRs sa h vs cs->∀{i:Nat}{v:V},vs[i]?=some v->∃c,cs[i]?=some c/\VR sa h v c
 | [],_,_,i,v,e=>by simp at e
 |B::vs,_,x,i,v,e=>by
  refine bN x.cons_inv λc r dC a b=>?_;subst dC;rcases i with _|i
  .simp at e;subst e;exact(af c rfl a)
  .simp at e;refine ah (b.get e) λd F G=>?_;exact(af d F G)
theorem VRs.get':∀{vs:List V}{cs:List Value},VRs sa h vs cs->∀{i:Nat}{c:Value},cs[i]?=some c->∃v,vs[i]?=some v/\VR sa h v c
 | [],_,x,i,v,e=>by rw[x.nil_inv]at e;simp at e
 |B::vs,_,x,i,c,e=>by
  refine bN x.cons_inv λJ r eN a b=>?_;subst eN;rcases i with _|i
  .simp at e;subst e;exact(af B rfl a)
  .simp at e;refine ah (b.get' e) λd F G=>?_;exact(af d F G)
theorem VRs.drop:∀{vs:List V}{cs:List Value}(n:Nat),VRs sa h vs cs->VRs sa h (vs.drop n) (cs.drop n)
 |vs,cs,0,x=>by exact x
 | [],_,n+1,x=>by rw[x.nil_inv];exact VRs.nil
 |_::_,_,n+1,x=>by refine bN x.cons_inv λc r B a b=>?_;subst B;exact b.drop n
theorem VRs.take:∀{vs:List V}{cs:List Value}(n:Nat),VRs sa h vs cs->VRs sa h (vs.take n) (cs.take n)
 |vs,cs,0,x=>by exact VRs.nil
 | [],_,n+1,x=>by rw[x.nil_inv];exact VRs.nil
 |_::_,_,n+1,x=>by refine bN x.cons_inv λc r B a b=>?_;subst B;exact VRs.cons a (b.take n)
theorem VRs.dropLast:∀{vs:List V}{cs:List Value},VRs sa h vs cs->VRs sa h vs.dropLast cs.dropLast
 | [],_,x=>by rw[x.nil_inv];exact VRs.nil
 | [v],_,x=>by refine bN x.cons_inv λc r G a b=>?_;subst G;rw[b.nil_inv];exact VRs.nil
 |v::w::vs,_,x=>by refine bN x.cons_inv λc r J a b=>?_;subst J;refine bN b.cons_inv λO r' F a' b'=>?_;subst F;obtain B:=(VRs.cons a' b').dropLast;exact VRs.cons a B
def p8:VR sa h .none .none:=by rfl
def p9(b:Bool):VR sa h (.bool b) (.bool b):=by rfl
def q5(i:Int)(t:Tok):VR sa h (.int i) (.int i t):=by exact⟨t,rfl⟩
def q6(s:String)(t:Tok):VR sa h (.str s) (.str (Str.ofString s) t):=by exact⟨t,rfl⟩
def q7(a:Addr):VR sa h (.ref a) (.ref a):=by rfl
def VR.none_inv(x:VR sa h .none c):c=.none:=x
def VR.scr_inv(x:VR sa h .scr c):c=.ref sa.a:=x
def VR.bool_inv{b:Bool}(x:VR sa h (.bool b) c):c=.bool b:=x
def VR.int_inv{i:Int}(x:VR sa h (.int i) c):∃t,c=.int i t:=x
def VR.str_inv{s:String}(x:VR sa h (.str s) c):∃t,c=.str (Str.ofString s) t:=x
def VR.ref_inv(x:VR sa h (.ref a) c):c=.ref a:=x
theorem VR.tup_inv(x:VR sa h (.tup vs) c):∃a cvs,c=.ref a/\IsTup h a cvs/\VRs sa h vs cvs.toList:=by refine uC x λa cvs n e _ B r=>?_;obtain⟨o,F,hc,hd⟩:=B;exact(bF a cvs e (aK o F hc (gV n hd)) r)
section
variable{c:Value}{P:Value->Prop}
def VR.none_el(x:VR sa h .none c)(k:P .none):P c:=by rw[x.none_inv];exact k
def VR.bool_el{b:Bool}(x:VR sa h (.bool b) c)(k:P (.bool b)):P c:=by rw[x.bool_inv];exact k
def VR.ref_el(x:VR sa h (.ref a) c)(k:P (.ref a)):P c:=by rw[x.ref_inv];exact k
def VR.int_el{i:Int}(x:VR sa h (.int i) c)(k:∀t,P (.int i t)):P c:=by refine bM x.int_inv λt B=>?_;subst B;exact k t
def VR.str_el{i:String}(x:VR sa h (.str i) c)(k:∀t,P (.str (Str.ofString i) t)):P c:=by refine bM x.str_inv λt B=>?_;subst B;exact k t
def VR.tup_el(x:VR sa h (.tup vs) c)(k:∀a cvs,IsTup h a cvs->VRs sa h vs cvs.toList->P (.ref a)):P c:=by refine bN x.tup_inv λa cvs B b d=>?_;subst B;exact k a cvs b d
end
def VRs.nil_el{P:List Value->Prop}(x:VRs sa h [] cs)(k:P []):P cs:=by rw[x.nil_inv];exact k
theorem VRs.one_el{v:V}{P:List Value->Prop}(x:VRs sa h [v] cs)(k:∀c,VR sa h v c->P [c]):P cs:=by refine bN x.cons_inv λc r B a b=>?_;subst B;rw[b.nil_inv];exact k c a
theorem VRs.two_el{v w:V}{P:List Value->Prop}(x:VRs sa h [v,w] cs)(k:∀c d,VR sa h v c->VR sa h w d->P [c,d]):P cs:=by refine bN x.cons_inv λc r B a b=>?_;subst B;apply b.one_el;intro d e;exact k c d a e
theorem q8{cvs:Array Value}(nx:¬sa.X a)(t:IsTup h a cvs)(r:VRs sa h vs cvs.toList):VR sa h (.tup vs) (.ref a):=by refine bR t λo F hc B=>?_;refine bM B λn hd=>?_;exact(pi a cvs n rfl nx (aK o F hc hd) r)
end
section
variable{sa:SX}
mutual
theorem VR.more{T:Addr}(hT:h.get? T=none):∀{v:V}{c:Value},VR sa h v c->VR ⟨sa.a,λb=>sa.X b\/b=T⟩ h v c
 | .none,_,x=>by unfold VR at *;exact x
 | .scr,_,x=>by unfold VR at *;exact x
 | .bool _,_,x=>by unfold VR at *;exact x
 | .int _,_,x=>by unfold VR at *;exact x
 | .str _,_,x=>by unfold VR at *;exact x
 | .ref _,_,x=>by unfold VR at *;exact x
 | .tup vs,_,x=>by unfold VR at *;refine uC x λa cvs n e nx B r=>?_;obtain⟨o,F,hc,hd⟩:=B;exact(pi a cvs n e (λz=>by rcases z with z|z;exact nx z;rw[z,hT]at F;exact ns F) (aK o F hc hd) (VRs.more hT r))
theorem VRs.more{T:Addr}(hT:h.get? T=none):∀{vs:List V}{cs:List Value},VRs sa h vs cs->VRs ⟨sa.a,λb=>sa.X b\/b=T⟩ h vs cs
 | [],_,x=>by unfold VRs at *;exact x
 |v::vs,_,x=>by unfold VRs at *;refine bN x λc cs e a b=>?_;exact(bF c cs e (VR.more hT a) (VRs.more hT b))
end
mutual
theorem VR.less(hX:∀b,X' b->sa.X b):∀{v:V}{c:Value},VR sa h v c->VR ⟨sa.a,X'⟩ h v c
 | .none,_,x=>by unfold VR at *;exact x
 | .scr,_,x=>by unfold VR at *;exact x
 | .bool _,_,x=>by unfold VR at *;exact x
 | .int _,_,x=>by unfold VR at *;exact x
 | .str _,_,x=>by unfold VR at *;exact x
 | .ref _,_,x=>by unfold VR at *;exact x
 | .tup vs,_,x=>by unfold VR at *;refine uC x λa cvs n e nx B r=>?_;obtain⟨o,F,hc,hd⟩:=B;exact(pi a cvs n e (λz=>nx (hX _ z)) ⟨o,F,hc,hd⟩ (VRs.less hX r))
theorem VRs.less(hX:∀b,X' b->sa.X b):∀{vs:List V}{cs:List Value},VRs sa h vs cs->VRs ⟨sa.a,X'⟩ h vs cs
 | [],_,x=>by unfold VRs at *;exact x
 |v::vs,_,x=>by unfold VRs at *;refine bN x λc cs e a b=>?_;exact(bF c cs e (VR.less hX a) (VRs.less hX b))
end
end
mutual
noncomputable def dz:V->Bool
 | .none=>true
 | .int _=>true
 | .str _=>true
 | .tup vs=>bQ vs
 |_=>false
noncomputable def bQ:List V->Bool
 | []=>true
 |v::vs=>dz v&&bQ vs
end
mutual
noncomputable def aB:V->Nat
 | .tup vs=>bJ vs+1
 |_=>0
noncomputable def bJ:List V->Nat
 | []=>0
 |v::vs=>max (aB v) (bJ vs)
end
mutual
noncomputable def xA:V->PyData
 | .none=>.none
 | .bool b=>.bool b
 | .int i=>.int i
 | .str s=>.str (Str.ofString s)
 | .tup vs=>.tuple (dO vs)
 |_=>.none
noncomputable def dO:List V->List PyData
 | []=>[]
 |v::vs=>xA v::dO vs
end
def br{s t:String}(h:Str.ofString s=Str.ofString t):s=t:=by
 rw[N0,N0]at h;obtain B:=B9 (λx:Str=>x.cps.toList) h;simp only at B
 have:∀(l m:List Char),l.map (λc=>c.toNat)=m.map (λc=>c.toNat)->l=m:=by
  intro l;induction l with
  |nil=>intro m e;cases m with|nil=>rfl|cons _ _=>simp at e
  |cons c l G =>
   intro m e;rcases m with _|⟨d,m⟩
   .simp at e
   .simp only[List.map_cons,List.cons.injEq]at e;rw[G m e.2];obtain this:=Char.toNat_inj.mp e.1;rw[this]
 obtain F:=this s.toList t.toList (by simpa using B);exact String.toList_inj.mp F
def tC(s:String):PyData.strOk (Str.ofString s)=true:=by rw[N0];unfold PyData.strOk;simp only[List.all_toArray,List.all_map,List.all_eq_true];intro c _;simp only[Function.comp,decide_eq_true_eq];obtain B:=c.valid;unfold UInt32.isValidChar Nat.isValidChar at B;exact RA B
end
variable{H' H0:AH}
section
variable{c:Value}
section
variable{sa:SX}
def vA{P:V->Prop}{Q:List V->Prop}(none:P .none)(int:∀i,P (.int i))(str:∀s,P (.str s))(tup:∀vs,bQ vs=true->Q vs->P (.tup vs))(nil:Q [])(cons:∀v vs,dz v=true->bQ vs=true->P v->Q vs->Q (v::vs)):(∀v,dz v=true->P v)/\∀vs,bQ vs=true->Q vs :=
 have c:∀v vs,(dz v=true->P v)->(bQ vs=true->Q vs)->bQ (v::vs)=true->Q (v::vs):=λv vs a b p=>have p:=(G7 _ _).mp p;cons v vs p.1 p.2 (a p.1) (b p.2)
 have h:∀v,dz v=true->P v:=λv=>V.rec (motive_1:=λv=>dz v=true->P v) (motive_2:=λvs=>bQ vs=true->Q vs) (λ_=>none) ai (λ_=>ai) (λi _=>int i) (λs _=>str s) (λvs b p=>tup vs p (b p)) (λ_=>ai) (λ_=>nil) c v
 ⟨h,λvs=>List.rec (λ_=>nil) (λv vs B=>c v vs (h v) B) vs⟩
theorem qD:(∀v,dz v=true->∀{c:Value},VR sa h v c->∃as,Reads h c (xA v) as)/\∀vs,bQ vs=true->∀{cs:List Value},VRs sa h vs cs->∃as,ReadsAll h cs (dO vs) as :=
 vA (λx=>x.none_inv▸⟨_,.none⟩) (λ_ _ x=>x.int_el (P:=λc=>∃as,Reads h c _ as) λ_=>⟨_,.int _ _⟩) (λ_ _ x=>x.str_el (P:=λc=>∃as,Reads h c _ as) λ_=>⟨_,.str _ _⟩)
  (λvs _ G c x=>x.tup_el (P:=λc=>∃as,Reads h c _ as) λa cvs ht r=>bR ht λo F hc B=>bM B λn hd=>bM (G r) λas q=>⟨as,reads_tuple_at F hc hd q⟩)
  (λx=>x.nil_inv▸⟨_,.nil⟩)
  (λv vs _ _ a b cs x=>bN x.cons_inv λc r e i j=>bM (a i) λas q=>bM (b j) λO J=>e▸⟨_,.cons q J⟩)
def VR.reads{v:V}(x:VR sa h v c)(p:dz v=true):∃as,Reads h c (xA v) as:=qD.1 v p x
def VRs.reads{cs:List Value}(x:VRs sa h vs cs)(p:bQ vs=true):∃as,ReadsAll h cs (dO vs) as:=qD.2 vs p x
end
def wK:(∀v,dz v=true->(xA v).canLay0=true/\(xA v).depth<=aB v)/\∀vs,bQ vs=true->PyData.canLayAll0 (dO vs)=true/\PyData.depthAll (dO vs)<=bJ vs :=
 vA ⟨rfl,z7 _⟩ (λ_=>⟨rfl,z7 _⟩) (λ_=>⟨tC _,z7 _⟩) (λ_ _ h=>⟨h.1,Rc h.2⟩) ⟨rfl,z7 _⟩
  (λ_ _ _ _ a b=>⟨(G7 _ _).mpr ⟨a.1,b.1⟩,RB a.2 b.2⟩)
def gK(v:V)(p:dz v=true):(xA v).canLay0=true/\(xA v).depth<=aB v:=wK.1 v p
def iG(vs:List V)(p:bQ vs=true):PyData.canLayAll0 (dO vs)=true/\PyData.depthAll (dO vs)<=bJ vs:=wK.2 vs p
def wx:(∀v,dz v=true->∀w,dz w=true->(PyData.eqv (xA v) (xA w)=true↔v=w))/\∀vs,bQ vs=true->∀ws,bQ ws=true->(PyData.eqvAll (dO vs) (dO ws)=true↔vs=ws):=by
 have B:∀{a b:V},(a=b->False)->(false=true↔a=b):=λf=>⟨ai,λe=>(f e).elim⟩;refine vA (λw q=>?_) (λi w q=>?_) (λs w q=>?_) (λvs p F w q=>?_) (λws q=>?_) (λv vs _ _ a b ws q=>?_)
 .cases w with
  |none=>exact⟨λ_=>rfl,λ_=>rfl⟩
  |tup _=>exact B V.noConfusion
  |int _=>exact B V.noConfusion
  |str _=>exact B V.noConfusion
  |_=>exact ai q
 .cases w with
  |int j=>exact⟨λh=>B9 V.int (J1 h),λe=>L9.mpr (V.int.inj e)⟩
  |none=>exact B V.noConfusion
  |tup _=>exact B V.noConfusion
  |str _=>exact B V.noConfusion
  |_=>exact ai q
 .cases w with
  |str t=>exact⟨λh=>B9 V.str (br (J1 h)),λe=>L9.mpr (B9 _ (V.str.inj e))⟩
  |none=>exact B V.noConfusion
  |tup _=>exact B V.noConfusion
  |int _=>exact B V.noConfusion
  |_=>exact ai q
 .cases w with
  |tup ws=>exact(F ws q).trans ⟨B9 V.tup,V.tup.inj⟩
  |none=>exact B V.noConfusion
  |str _=>exact B V.noConfusion
  |int _=>exact B V.noConfusion
  |_=>exact ai q
 .cases ws with
  |nil=>exact⟨λ_=>rfl,λ_=>rfl⟩
  |cons _ _=>exact⟨ai,λe=>(E7 _ _ e.symm).elim⟩
 .cases ws with
  |nil=>exact⟨ai,λe=>(E7 _ _ e).elim⟩
  |cons w ws =>have q:=(G7 _ _).mp q;exact(by rw[List.cons.injEq,<- a w q.1,<- b ws q.2];exact Iff.of_eq (G7 _ _))
theorem ja{v w:V}(p:dz v=true)(q:dz w=true):PyData.eqv (xA v) (xA w)=cr v w:=by
 cases h:cr v w with
 |true=>exact(wx.1 v p w q).mpr ((aO _ _).mp h)
 |false=>exact L0.mpr λx=>bo.mp h ((wx.1 v p w q).mp x)
mutual
noncomputable def aS:V->Bool
 | .int _=>true
 | .str _=>true
 | .tup vs=>bG vs
 |_=>false
noncomputable def bG:List V->Bool
 | []=>true
 |v::vs=>aS v&&bG vs
end
def wI{P:V->Prop}{Q:List V->Prop}(int:∀i,P (.int i))(str:∀s,P (.str s))(tup:∀vs,bG vs=true->Q vs->P (.tup vs))(nil:Q [])(cons:∀v vs,aS v=true->bG vs=true->P v->Q vs->Q (v::vs))(v:V):aS v=true->P v :=V.rec (motive_1:=λv=>aS v=true->P v) (motive_2:=λvs=>bG vs=true->Q vs) ai ai (λ_=>ai) (λi _=>int i) (λs _=>str s) (λvs b p=>tup vs p (b p)) (λ_=>ai) (λ_=>nil) (λv vs a b p=>have p:=(G7 _ _).mp p;cons v vs p.1 p.2 (a p.1) (b p.2)) v
def bt:∀(v:V),aS v=true->dz v=true :=wI (Q:=λvs=>bQ vs=true) (λ_=>rfl) (λ_=>rfl) (λ_ _ h=>h) rfl (λ_ _ _ _ a b=>(G7 _ _).mpr ⟨a,b⟩)
mutual
noncomputable def aI(w:World):V->Int
 | .int i=>hashInt i
 | .str s=>hashStr w (Str.ofString s)
 | .tup vs=>reduceHash (Builtin.Tuple.tupleHashOf (dh w vs))
 |_=>0
noncomputable def dh(w:World):List V->List Int
 | []=>[]
 |v::vs=>aI w v::dh w vs
end
mutual
noncomputable def oU:V->Nat
 | .int _=>1
 | .str _=>1
 | .tup vs=>mL vs+1
 |_=>0
noncomputable def mL:List V->Nat
 | []=>0
 |v::vs=>oU v+mL vs
end
section
variable{sa:SX}
theorem rG{P:V->Value->Prop}{Q:List V->List Value->Prop}(int:∀i t,P (.int i) (.int i t))(str:∀s t,P (.str s) (.str (Str.ofString s) t))(tup:∀vs a cvs,bG vs=true->IsTup h a cvs->VRs sa h vs cvs.toList->Q vs cvs.toList->P (.tup vs) (.ref a))(nil:Q [] [])(cons:∀v vs c cs,aS v=true->bG vs=true->VR sa h v c->VRs sa h vs cs->P v c->Q vs cs->Q (v::vs) (c::cs)){v:V}(p:aS v=true)(r:VR sa h v c):P v c :=
 wI (P:=λv=>∀c,VR sa h v c->P v c) (Q:=λvs=>∀cs,VRs sa h vs cs->Q vs cs) (λi c r=>r.int_el (int i)) (λs c r=>r.str_el (str s)) (λvs p B c r=>r.tup_el λa cvs ht r=>tup vs a cvs p ht r (B _ r)) (λcs r=>r.nil_el nil)
  (λv vs p ps a b cs r=>bN r.cons_inv λc r e i j=>e▸cons v vs c r p ps i j (a c i) (b r j)) v p c r
theorem VR.inj{y:V}(p:aS x=true)(q:aS y=true)(a:VR sa h x c)(b:VR sa h y c):x=y:=by
 refine rG (P:=λx c=>∀y,aS y=true->VR sa h y c->x=y) (Q:=λxs cs=>∀ys,bG ys=true->VRs sa h ys cs->xs=ys) (λi t y q b=>?_) (λs t y q b=>?_) (λvs a cvs p ht r ih y q b=>?_) (λys q b=>?_) (λx xs c cs p ps r rs a b ys q r'=>?_) p a y q b
 .cases y with
  |int j=>exact bM b.int_inv λu e=>Value.noConfusion e λe _=>e▸rfl
  |str s=>exact bM b.str_inv λu e=>Value.noConfusion e
  |tup vs=>exact bN b.tup_inv λ_ _ e _ _=>Value.noConfusion e
  |_=>exact ai q
 .cases y with
  |int j=>exact bM b.int_inv λu e=>Value.noConfusion e
  |str s=>exact bM b.str_inv λu e=>Value.noConfusion e λe _=>br e▸rfl
  |tup vs=>exact bN b.tup_inv λ_ _ e _ _=>Value.noConfusion e
  |_=>exact ai q
 .cases y with
  |int j=>exact bM b.int_inv λu e=>Value.noConfusion e
  |str s=>exact bM b.str_inv λu e=>Value.noConfusion e
  |tup ws =>refine bN b.tup_inv λY O e J r'=>?_;obtain rfl:=Value.ref.inj e;refine bR ht λo ho _ Z=>bM Z λn hd=>bR J λo' G _ F=>bM F λn' B=>?_;obtain rfl:=w8 (ho.symm.trans G);obtain⟨rfl,_⟩:=Data.seq.inj (hd.symm.trans B);exact B9 V.tup (ih ws q r')
  |_=>exact ai q
 .cases ys with
  |nil=>rfl
  |cons _ _=>exact cF b.cons_inv λ_ _ e _=>(E7 _ _ e.symm).elim
 .cases ys with
  |nil=>exact(E7 _ _ r'.nil_inv).elim
  |cons y ys =>have q:=(G7 _ _).mp q;refine bN r'.cons_inv λc' r' e b1 b2=>?_;obtain⟨rfl,rfl⟩:=K2 e;rw[a y q.1 b1,b ys q.2 b2]
theorem VR.pyHash{A:Around}{Q:Int->Shared->Prop}(p:aS x=true)(u:A.units+aB x<cLine)(r:VR sa s.heap x c)(h:Q (aI w x) { s with toks:=s.toks+oU x }):wpAny (model prog w) A (PySem.pyHash c) Q E s:=by
 refine rG (P:=λx c=>∀(A:Around)(n:Nat)(Q:Int->Shared->Prop),A.units+aB x<cLine->Q (aI w x) { s with toks:=n+oU x }->wpAny (model prog w) A (PySem.pyHash c) Q E { s with toks:=n })
  (Q:=λxs cs=>∀(A:Around)(n:Nat)(Q:Array Int->Shared->Prop)(b:Array Int),A.units+bJ xs<cLine->Q (b++(dh w xs).toArray) { s with toks:=n+mL xs }->wpAny (model prog w) A (forIn cs b λx b=>(do let h <- PySem.pyHash x;pure (ForInStep.yield (b.push h)))) Q E { s with toks:=n })
  (λi t A n Q _ h=>wpAny_pyHash_int h) (λ_ t A n Q _ h=>wpAny_pyHash_str h) (λvs a cvs p ht r J A n Q u h=>?_) (λA n Q b _ h=>u4 h) (λx xs c cs p ps r rs a b' A n Q b u h=>?_) p r A s.toks Q u h
 .obtain hT:=ht.typeIs (s:={ s with toks:=n });refine bR ht λo G _ B=>?_;refine bM B λk hd=>?_;refine p0 (wpAny_cRoomFor_or (.inr (Rd u)) ?_);refine p0 (SF hT F.slot_tuple_hash.lookup ?_);rw[if_neg (by rw[beq_builtin_none];exact C7)];refine p0 (SF hT F.slot_tuple_hash.lookup ?_);refine p0 (wpAny_callSpecialIfBoundUnlessNone?_slot hT F.slot_tuple_hash (G1 F.slot_tuple_hash hT F.entry_tuple_hash ?_ (F.args_tuple_hash_1 _)));show wpAny _ _ (Builtin.Tuple.tupleItemsOf (.ref a) >>= _) _ _ _;refine p0 (wpAny_tupleItemsOf G hd ?_);refine p0 ?_;rw[<- Array.forIn_toList];refine J _ _ _ #[] (RC u) ?_;show wpAny _ _ (retInt (Builtin.Tuple.tupleHashOf _)) _ _ _;rw[(by simp:(#[]++(dh w vs).toArray:Array Int).toList=dh w vs)];refine wpAny_ret_mkInt ?_;have h:Q (reduceHash (Builtin.Tuple.tupleHashOf (dh w vs))) { s with toks:=n+mL vs+1 }:=h;unfold reduceHash at h;show wpAny _ _ (if(decide (-(2:Int)^63<=Builtin.Tuple.tupleHashOf (dh w vs))&&decide (Builtin.Tuple.tupleHashOf (dh w vs)<2^63))=true then _ else _) Q E _;by_cases hr:(decide (-(2:Int)^63<=Builtin.Tuple.tupleHashOf (dh w vs))&&decide (Builtin.Tuple.tupleHashOf (dh w vs)<2^63))=true
  .rw[if_pos hr]at h ⊢;exact u4 h
  .rw[if_neg hr]at h ⊢;exact p0 (R4 (u4 h))
 .rw[Sh];refine p0 (p0 (a _ n _ (RD u) (u4 (b' _ _ _ _ (RE u) ?_))));rw[(by apply Array.toList_inj.mp;simp:(b.push (aI w x)++(dh w xs).toArray)=b++(aI w x::dh w xs).toArray),O6];exact h
end
end
section
variable{sa:SX}
theorem VR.eqBool{A:Around}{y:V}{c d:Value}{Q:b7}(B:dz x=true)(F:dz y=true) (O:A.units+min (aB x) (aB y)<cLine) (rx:VR sa s.heap x c) (ry:VR sa s.heap y d) (h:Q (cr x y) s):wpAny (model prog w) A (PySem.eqBool c d) Q E s:=by refine bM (rx.reads B) λas Y=>?_;refine bM (ry.reads F) λJ Z=>?_;obtain G:=gK x B;obtain lb:=gK y F;refine SeqAt.eqAt_reads _ _ A s c d as J Y Z G.1 lb.1 (RF O G.2 lb.2) prog w E Q ?_;rw[ja B F];exact h
def fq{A:Around}{cs:List Value}{f:Value->Option Bool×PUnit->Sem (ForInStep (Option Bool×PUnit))}{Q:Option Bool×PUnit->Shared->Prop}(hf:∀c∈cs,∀(R:ForInStep (Option Bool×PUnit)->Shared->Prop),R (.yield (none,.unit)) s->wpAny (model prog w) A (f c (none,.unit)) R E s)(h:Q (none,.unit) s):wpAny (model prog w) A (forIn cs (none,.unit) f) Q E s:=by
 induction cs with
 |nil=>exact u4 h
 |cons c cs B =>rw[Sh];exact p0 (hf c y4 _ (B λc hc=>hf c (w9 _ hc)))
theorem Ac{P:Nat->Value->Prop}(int:∀n i t,P n (.int i t))(str:∀n s t,P n (.str s t))(tup:∀n a cvs,IsTup s.heap a cvs->(∀c∈cvs.toList,P n c)->P (n+1) (.ref a)){c:Value}{n:Nat}(p:aS x=true)(u:aB x<=n)(r:VR sa s.heap x c):P n c :=
 rG (P:=λx c=>∀n,aB x<=n->P n c) (Q:=λxs cs=>∀n,bJ xs<=n->∀c∈cs,P n c) (λi t n _=>int n i t) (λ_ t n _=>str n _ t)
  (λvs a cvs _ ht _ B n u=>by
   rcases n with _|n
   .exact(Re u).elim
   .exact tup n a cvs ht (B n (HS u)))
  (λ_ _ _ h=>absurd h y9)
  (λ_ _ _ _ _ _ _ _ a b n u=>List.forall_mem_cons.mpr ⟨a n (FS u),b n (CH u)⟩) p r n u
theorem VR.quiet{A:Around}{c:Value}{n:Nat}{Q:b7}(p:aS x=true)(u:aB x<=n)(r:VR sa s.heap x c)(h:Q true s):wpAny (model prog w) A (eqIsQuiet n c) Q E s:=by
 refine Ac (P:=λn c=>∀Q:Bool->Shared->Prop,Q true s->wpAny (model prog w) A (eqIsQuiet n c) Q E s) (λn i t Q h=>?_) (λn x t Q h=>?_) (λn a cvs ht G Q h=>?_) p u r Q h
 .rw[eqIsQuiet_byValue _ rfl];exact u4 h
 .rw[eqIsQuiet_byValue _ rfl];exact u4 h
 .obtain hT:=ht.typeIs (s:=s);refine bR ht λo B _ dC=>?_;refine bM dC λk hd=>?_;unfold eqIsQuiet;refine p0 (SF hT F.slot_tuple_eq.lookup ?_);refine p0 (wpAny_isInstance hT isSubtype_tuple_tuple ?_);refine p0 (M3 B hd ?_);refine p0 ?_;rw[<- Array.forIn_toList];exact fq (λc hc R h=>p0 (G c hc _ (u4 h))) (u4 h)
noncomputable def Bm(sa:SX)(prog:Program)(w:World):@HeapKind prog w V bU :=
 @HeapKind.mk prog w V bU
  (λh x a=>(∃vs,x=.tup vs)/\aS x=true/\aB x<=8/\VR sa h x (.ref a))
  (aI w) oU (λA=>A.units+8<cLine)
  (λhx hy=>VR.inj hx.2.1 hy.2.1 hx.2.2.2 hy.2.2.2)
  (λ{h h' k a d o es ep} x J hd hs=>by
   refine(sw x.1 x.2.1 x.2.2.1 (x.2.2.2.keep λb ob _ e hc ⟨xs,n,hq⟩=>?_));by_cases G:b=d
   .subst G;obtain rfl:ob=o:=w8 (e.symm.trans J);rw[hd]at hq;cases hq
   .exact(hs.2 b G).trans e)
  (λF x h=>VR.pyHash x.2.1 (by obtain B:=x.2.2.1;exact Iz x.2.2.1 F) x.2.2.2 h)
  (λF x y h=>VR.eqBool (bt _ x.2.1) (bt _ y.2.1) (by obtain B:=x.2.2.1;exact PB y.2.2.1 F) x.2.2.2 y.2.2.2 h)
  (λx h=>VR.quiet x.2.1 x.2.2.1 x.2.2.2 h)
noncomputable def kq:V->Value->Bool
 | .int i,v=>Value.isInt i v
 | .str s,v=>Value.isStrOf (Str.ofString s) v
 |_,_=>false
noncomputable def rF:V->Bool
 | .int _=>true
 | .str _=>true
 |_=>false
def bA{k:V}{v:Value}(h:kq k v=true):(∃i t,k=.int i/\v=.int i t)\/(∃s t,k=.str s/\v=.str (Str.ofString s) t):=by
 cases k with
 |int i=>refine bM (Value.isInt_shape h) λt e=>?_;exact .inl (ey i t rfl e)
 |str s=>refine bM (Value.isStrOf_shape h) λt e=>?_;exact .inr (ey s t rfl e)
 |_=>exact ai h
theorem cH{k:V}{v:Value}(hk:rF k=true)(r:VR sa h k v):kq k v=true:=by
 cases k with
 |int i=>apply r.int_el;intro t;simp[kq,Value.isInt]
 |str s=>apply r.str_el;intro t;simp[kq,Value.isStrOf]
 |_=>exact ai hk
def js{k:V}{v:Value}(hk:kq k v=true):VR sa h k v:=by
 rcases bA hk with⟨i,t,rfl,rfl⟩|⟨s,t,rfl,rfl⟩
 .exact q5 _ _
 .exact q6 _ _
noncomputable def bB(prog:Program)(w:World):@KeyKind prog w V bU :=
 @KeyKind.mk prog w V bU kq (aI w)
  (λv a b ha J=>by
   rcases bA ha with⟨i,t,rfl,rfl⟩|⟨s,t,rfl,rfl⟩ <;> rcases bA J with⟨j,u,rfl,e⟩|⟨s',u,rfl,e⟩
   .injection e with e;rw[e]
   .exact Value.noConfusion e
   .exact Value.noConfusion e
   .injection e with e;rw[br e])
  (λk v h=>by rcases bA h with⟨i,t,rfl,rfl⟩|⟨s,t,rfl,rfl⟩ <;> rfl)
  (λ{A E s k v Q} B h=>by
   rcases bA B with⟨i,t,rfl,rfl⟩|⟨x,t,rfl,rfl⟩
   .exact wpAny_pyHash_int h
   .exact wpAny_pyHash_str h)
  (λ{A E s a b u v Q} O B h=>by
   rcases bA O with⟨i,t,rfl,rfl⟩|⟨x,t,rfl,rfl⟩
   .rcases bA B with⟨j,t',rfl,rfl⟩|⟨y,t',rfl,rfl⟩
    .refine wpAny_eqBool_int ?_;have e:(i==j)=@decide (V.int i=V.int j) (bU _ _):=by
      by_cases q:i=j
      .subst q;simp
      .obtain F:V.int i≠V.int j:=λz=>q (by injection z);simp[q]
     rw[e];exact h
    .refine SeqAt.EqAt.int_str (A:=A) (s:=s) i t (Str.ofString y) t' prog w E Q ?_;rw[show @decide (V.int i=V.str y) (bU _ _)=false from @decide_eq_false _ (bU _ _) (λz=>V.noConfusion z)]at h;exact h
   .rcases bA B with⟨j,t',rfl,rfl⟩|⟨y,t',rfl,rfl⟩
    .refine SeqAt.EqAt.str_int (A:=A) (s:=s) (Str.ofString x) t j t' prog w E Q ?_;rw[show @decide (V.str x=V.int j) (bU _ _)=false from @decide_eq_false _ (bU _ _) (λz=>V.noConfusion z)]at h;exact h
    .refine wpAny_eqBool_str ?_;have e:decide (Str.ofString x=Str.ofString y)=@decide (V.str x=V.str y) (bU _ _):=by
      by_cases q:x=y
      .subst q;simp
      .obtain Y:V.str x≠V.str y:=λz=>q (by injection z);obtain G:Str.ofString x≠Str.ofString y:=λz=>q (br z);simp[q];exact G
     rw[e];exact h)
  (λk x t v h=>by
   rcases bA h with⟨i,t',rfl,e⟩|⟨s,t',rfl,e⟩
   .exact Value.noConfusion e
   .injection e with e;subst e;cases v <;> rfl)
end
section
variable{x:AO}
structure Sx where
 prog:Program
 w:World
 K:Frag
 base:Heap
 sad:Addr
 svs:List Int
 fn:String->Option Addr
 meth:String->String->Option Addr
 cls:String->Option Addr
 flds:String->List String
structure Cx extends Sx where
 X:Addr->Prop
 hX:∀b,X b->base.get? b=none
abbrev a8{α:Type}(L:Cx)(A:Around):Sem α->(α->Shared->Prop)->(a9)->Shared->Prop:=wpAny (model L.prog L.w) A
noncomputable abbrev Cx.sa(L:Cx):SX:=⟨L.sad,L.X⟩
noncomputable def ER(L:Cx)(h:Heap):List (V×V)->List DictEntry->Prop
 | [],l=>l=[]
 |(k,v)::r,l=>∃e es,l=e::es/\VR L.sa h k e.key/\e.hash=aI L.w k/\VR L.sa h v e.val/\ER L h r es
noncomputable def cZ:V->Nat
 | .int _=>1
 | .str _=>1
 | .tup vs=>if aS (.tup vs)&&decide (aB (.tup vs)<=8)then 2 else 0
 |_=>0
def dictOK(kvs:List (V×V)):Prop:=(kvs.map (·.1)).Nodup/\∃c,c≠0/\∀p∈kvs,cZ p.1=c
noncomputable abbrev cy(cvs:Array Value)(n:Nat):Obj:={ cls:=.type "list",data:=.seq cvs n }
noncomputable abbrev bg(es:Array DictEntry)(n:Nat):Obj:={ cls:=.type "dict",data:=.dict es n }
def ORel(L:Cx)(h:Heap)(o:Obj):AO->Prop
 | .list vs=>∃cvs n,o=cy cvs n/\VRs L.sa h vs cvs.toList
 | .dict kvs=>∃es n,o=bg es n/\ER L h kvs es.toList/\dictOK kvs
 | .inst c dx=>∃C,L.cls c=some C/\o=instObj C dx
theorem ER.keep{L:Cx}(k:TupKeep L.sa h h'):∀{kvs:List (V×V)}{es:List DictEntry},ER L h kvs es->ER L h' kvs es
 | [],_,x=>x
 |(_,_)::_,_,x=>by refine pe x λe es aX a b c d=>?_;subst aX;exact(qT e es rfl (a.keep k) b (c.keep k) (ER.keep k d))
theorem ORel.keep{L:Cx}(k:TupKeep L.sa h h')(r:ORel L h o x):ORel L h' o x:=by
 rcases x with vs|kvs|⟨c,dx⟩
 .refine cF r λc n e r=>?_;exact(ey c n e (r.keep k))
 .refine bN r λc n e r d=>?_;exact(bF c n e (r.keep k) d)
 .exact r
theorem ORel.notTup{L:Cx}(r:ORel L h o x):o.cls=.type "tuple"->(∃xs n,o.data=.seq xs n)->False:=by
 intro hc ⟨xs,n,hd⟩;rcases x with vs|kvs|⟨c,dx⟩
 .refine cF r λc n bV r=>?_;subst bV;simp at hc
 .refine cF r λc n da r=>?_;subst da;simp at hc
 .refine ah r λC _ dC=>?_;subst dC;simp at hc
theorem ORel.notFreed{L:Cx}(r:ORel L h o x):o.isFreed=false:=by
 rcases x with vs|kvs|⟨c,dx⟩
 .refine cF r λc n eN r=>?_;subst eN;rfl
 .refine cF r λc n B r=>?_;subst B;rfl
 .refine ah r λC _ F=>?_;subst F;rfl
structure aD(L:Cx)(H:AH)(h:Heap):Prop where
 base:∀b o,L.base.get? b=some o->h.get? b=some o
 fresh:∀b o,H b=some o->L.base.get? b=none
 obj:∀a o,H a=some o->∃ob,h.get? a=some ob/\ORel L h ob o
 ex:∀b,L.X b->h.get? b≠none
def aD.nx{L:Cx}{H:AH}(R:aD L H h){b:Addr}(e:h.get? b=none):¬L.X b:=λz=>R.ex b z e
structure ay(L:Cx)(own:Addr->Prop)(H H':AH)(s s':Shared):Prop where
 gens:s'.gens=s.gens
 os:s'.os=s.os
 keep:∀b o,s.heap.get? b=some o->H b=none->¬own b->s'.heap.get? b=some o
 dom:∀b o,H' b=some o->H b≠none\/s.heap.get? b=none
 mono:∀b,H b≠none->H' b≠none
 live:∀b,s.heap.get? b≠none->s'.heap.get? b≠none
 tup:TupKeep L.sa s.heap s'.heap
 rel:aD L H' s'.heap
abbrev eE:Addr->Prop:=λ_=>False
theorem aD.tup_none{L:Cx}{H:AH}(R:aD L H h){b:Addr}(e:h.get? b=some o)(hc:o.cls=.type "tuple")(hd:∃xs n,o.data=.seq xs n):H b=none:=by
 rcases B:H b with _|x
 .rfl
 .refine ah (R.obj b x B) λob e' r=>?_;obtain rfl:o=ob:=w8 (e.symm.trans e');exact(r.notTup hc hd).elim
namespace ay
variable{L:Cx}{own own':Addr->Prop}{H H'':AH}{s'':Shared}
theorem refl(R:aD L H s.heap):ay L own H H s s :=⟨rfl,rfl,(λ_ _ e _ _=>e),(λb o e=>.inl (by simp[e])),(λ_ h=>h),(λ_ h=>h),TupKeep.refl _ _,R⟩
def dom_none(a:ay L own H H' s s'){b:Addr}(e:s.heap.get? b=some o)(h:H b=none):H' b=none:=by
 rcases hh:H' b with _|y
 .rfl
 .rcases a.dom b y hh with z|z <;> simp_all
theorem trans(a:ay L own H H' s s')(b:ay L own H' H'' s' s''):ay L own H H'' s s'':=by
 refine⟨b.gens.trans a.gens,b.os.trans a.os,λx o e hx B=>b.keep x o (a.keep x o e hx B) (a.dom_none e hx) B,λx o e=>?_,
  λx h=>b.mono x (a.mono x h),λx h=>b.live x (a.live x h),a.tup.trans b.tup,b.rel⟩
 rcases b.dom x o e with z|z
 .rcases hh:H' x with _|y
  .exact absurd hh z
  .exact a.dom x y hh
 .rcases hs:s.heap.get? x with _|o'
  .exact .inr rfl
  .exact absurd z (a.live x (by simp[hs]))
def weaken(a:ay L own H H' s s')(h:∀b,own b->own' b):ay L own' H H' s s' :=⟨a.gens,a.os,λx o e hx B=>a.keep x o e hx λz=>B (h x z),a.dom,a.mono,a.live,a.tup,a.rel⟩
def ofNo(a:ay L eE H H' s s'):ay L own H H' s s':=a.weaken λ_ z=>z.elim
end ay
section
variable{L:Cx}{own:Addr->Prop}{H:AH}
def q9(R:aD L H s.heap)(J:s'.gens=s.gens)(O:s'.os=s.os)(k:∀b o,s.heap.get? b=some o->s'.heap.get? b=some o):ay L own H H s s':=by
 refine⟨J,O,λb o e _ _=>k b o e,λb o e=>.inl (by simp[e]),λ_ h=>h,λb h=>?_,p7 k,?_⟩
 .rcases e:s.heap.get? b with _|o
  .exact absurd e h
  .rw[k b o e];simp
 .exact⟨λb o e=>k b o (R.base b o e),R.fresh,λa o e=>by refine ah (R.obj a o e) λob B F=>?_;exact(af ob (k a ob B) (F.keep (p7 k))),λb G=>by
   rcases e:s.heap.get? b with _|o
   .exact absurd e (R.ex b G)
   .rw[k b o e];simp⟩
theorem ay.change(R:aD L H s.heap){a:Addr}{x':AO}{ob':Obj}(Y:s'.gens=s.gens)(Z:s'.os=s.os)(hx:H a=some x) (k:∀b o,b≠a->s.heap.get? b=some o->s'.heap.get? b=some o) (J:s'.heap.get? a=some ob') (r:ORel L s.heap ob' x'):ay L own H (H.set a x') s s':=by
 refine ah (R.obj a x hx) λob h1 h2=>?_;have tk:TupKeep L.sa s.heap s'.heap:=λb o _ e hc hd=>by
  by_cases B:b=a
  .subst B;rw[R.tup_none e hc hd]at hx;exact ns hx
  .exact k b o B e
 refine⟨Y,Z,λb o e B _=>k b o (λz=>by rw[z,hx]at B;exact sn B) e,λb o e=>?_,λb h=>?_,λb h=>?_,tk,⟨λb o e=>?_,λb o e=>?_,λb o e=>?_,λb B=>?_⟩⟩
 .by_cases B:b=a
  .subst B;exact .inl (by simp[hx])
  .rw[p6 _ _ B]at e;exact .inl (by simp[e])
 .by_cases B:b=a
  .subst B;simp
  .rw[p6 _ _ B];exact h
 .by_cases B:b=a
  .subst B;rw[J];simp
  .cases e:s.heap.get? b with
   |none=>exact absurd e h
   |some o=>rw[k b o B e];simp
 .by_cases B:b=a
  .subst B;have:=R.fresh _ _ hx;rw[e]at this;exact sn this
  .exact k b o B (R.base b o e)
 .by_cases B:b=a
  .subst B;exact R.fresh _ _ hx
  .rw[p6 _ _ B]at e;exact R.fresh _ _ e
 .by_cases B:b=a
  .subst B;rw[AH.set_self]at e;obtain rfl:=w8 e;exact(af ob' J (r.keep tk))
  .rw[p6 _ _ B]at e;refine ah (R.obj b o e) λF O Q=>?_;exact(af F (k b F B O) (Q.keep tk))
 .by_cases G:b=a
  .subst G;rw[J];simp
  .cases e:s.heap.get? b with
   |none=>exact absurd e (R.ex b B)
   |some o=>rw[k b o G e];simp
theorem r6(R:aD L H s.heap){a:Addr}{ob:Obj}(hg:s'.gens=s.gens)(ho:s'.os=s.os)(G:s.heap.get? a=none) (k:∀b o,s.heap.get? b=some o->s'.heap.get? b=some o) (ha:s'.heap.get? a=some ob) (r:ORel L s'.heap ob x):ay L own H (H.set a x) s s'/\H a=none:=by
 have Z:H a=none:=by
  rcases e:H a with _|y
  .rfl
  .refine ah (R.obj a y e) λob' O _=>?_;rw[G]at O;exact ns O
 have J:L.base.get? a=none:=by
  rcases e:L.base.get? a with _|y
  .rfl
  .rw[R.base a y e]at G;exact sn G
 refine⟨⟨hg,ho,λb o e _ _=>k b o e,λb o e=>?_,λb h=>?_,λb h=>?_,p7 k,⟨λb o e=>k b o (R.base b o e),λb o e=>?_,λb o e=>?_,λb B=>?_⟩⟩,Z⟩
 .by_cases B:b=a
  .subst B;exact .inr G
  .rw[p6 _ _ B]at e;exact .inl (by simp[e])
 .by_cases B:b=a
  .subst B;simp
  .rw[p6 _ _ B];exact h
 .rcases e:s.heap.get? b with _|o
  .exact absurd e h
  .rw[k b o e];simp
 .by_cases B:b=a
  .subst B;exact J
  .rw[p6 _ _ B]at e;exact R.fresh _ _ e
 .by_cases B:b=a
  .subst B;rw[AH.set_self]at e;obtain rfl:=w8 e;exact(af ob ha r)
  .rw[p6 _ _ B]at e;refine ah (R.obj b o e) λF Q Y=>?_;exact(af F (k b F Q) (Y.keep (p7 k)))
 .rcases e:s.heap.get? b with _|o
  .exact absurd e (R.ex b B)
  .rw[k b o e];simp
end
end
variable{L:Cx}{σ:Sx}
section
set_option genCtorIdx false
noncomputable abbrev Loc:=String->Option V
noncomputable def Loc.put(l:Loc)(x:String)(v:V):Loc:=λy=>if y=x then some v else l y
@[simp] theorem Loc.put_self (l:Loc) (x:String) (v:V):l.put x v x=some v:=by simp[Loc.put]
def r7(l:Loc){x y:String}(v:V)(h:y≠x):l.put x v y=l y:=by simp[Loc.put,h]
structure ae(L:Cx)(env:Env)(loc:Loc)(H:AH)(h:Heap):Prop where
 kind:env.scope.kind=.function
 glob:env.globals=mainGlobals
 blt:env.builtins=builtinsNs
 ns:∃m,h.Ns env.locals m/\∀x v,loc x=some v->env.kindOf (Str.ofString x)=some .local->∃cv,m (Str.ofString x)=some cv/\VR L.sa h v cv
 lH:H env.locals=none
 lB:L.base.get? env.locals=none
 above:L.base.objs.size<=env.locals
 cell:∀n c,env.cells.lookup n=some c->H c=none/\L.base.get? c=none/\∃cv,h.IsCell c cv
 cellv:∀x v,loc x=some v->(env.kindOf (Str.ofString x)=some .cell\/env.kindOf (Str.ofString x)=some .free) ->
  ∃c cv,env.cells.lookup (Str.ofString x)=some c/\h.IsCell c (some cv)/\VR L.sa h v cv
 hasCell:∀n,(env.kindOf n=some .cell\/env.kindOf n=some .free)->∃c,env.cells.lookup n=some c
 apart:env.cells.Pairwise λx y=>x.2≠y.2
def dQ(env:Env):Addr->Prop:=λb=>b=env.locals\/∃n,env.cells.lookup n=some b
section
variable{loc:Loc}{H:AH}{own:Addr->Prop}
theorem ae.step(F:ae L env loc H s.heap)(S:ay L own H H' s s')(hl:∀m,s.heap.Ns env.locals m->s'.heap.Ns env.locals m)(hc:∀n c,env.cells.lookup n=some c->¬own c):ae L env loc H' s'.heap:=by
 refine ah F.ns λm Q hm=>?_;obtain Y:s.heap.get? env.locals≠none:=by refine mx Q λo _ _ e _=>?_;rw[e];simp
 refine⟨F.kind,F.glob,F.blt,(af m (hl m Q) (λx v e k=>?_)),?_,F.lB,F.above,λn c e=>?_,λx v e k=>?_,F.hasCell,F.apart⟩
 .refine ah (hm x v e k) λcv B G=>?_;exact(af cv B (G.keep S.tup))
 .refine mx Q λo _ _ e _=>?_;exact S.dom_none e F.lH
 .refine jb (F.cell n c e) λB G aX=>?_;refine cF aX λcv o J O=>?_;exact(cO (S.dom_none J B) G (ey cv o (S.keep _ _ J B (hc n c e)) O))
 .refine bN (F.cellv x v e k) λc cv B bV O=>?_;obtain⟨o,G,J⟩:=bV;exact(bF c cv B (af o (S.keep _ _ G (F.cell _ _ B).1 (hc _ _ B)) J) (O.keep S.tup))
structure aj(L:Cx)(env:Env)(H H':AH)(s s':Shared):Prop where
 st:ay L (λb=>b=env.locals) H H' s s'
 ns:∀m,s.heap.Ns env.locals m->s'.heap.Ns env.locals m
theorem aj.refl(R:aD L H s.heap):aj L env H H s s:=⟨ay.refl R,λ_ h=>h⟩
theorem aj.trans{H'':AH}{s'':Shared}(a:aj L env H H' s s')(b:aj L env H' H'' s' s''):aj L env H H'' s s'':=⟨a.st.trans b.st,λm h=>b.ns m (a.ns m h)⟩
theorem ay.toE(S:ay L eE H H' s s')(B:H env.locals=none):aj L env H H' s s' :=⟨S.ofNo,λm ⟨o,es,ep,e,r⟩=>(yW o es ep (S.keep _ _ e B (λz=>z)) r)⟩
theorem ae.cell_ne(F:ae L env loc H s.heap){n:Str}{c:Addr}(e:env.cells.lookup n=some c):c≠env.locals:=by rintro rfl;refine ah F.ns λ_ da _=>?_;obtain⟨o,_,_,J,O,_⟩:=da;refine jb (F.cell _ _ e) λ_ _ dC=>?_;refine cF dC λ_ o' B G=>?_;rw[J]at B;obtain rfl:=w8 B;rw[O]at G;cases G
def ae.top(F:ae L env loc H s.heap):∃b,L.base.objs.size<=b/\s.heap.get? b≠none :=⟨env.locals,F.above,by refine ah F.ns λm eN _=>?_;obtain⟨o,_,_,e,_⟩:=eN;rw[e];simp⟩
def ae.estep(F:ae L env loc H s.heap)(S:aj L env H H' s s'):ae L env loc H' s'.heap:=F.step S.st S.ns λ_ _ e=>F.cell_ne e
def ae.stepNo(F:ae L env loc H s.heap)(S:ay L eE H H' s s'):ae L env loc H' s'.heap:=F.estep (S.toE F.lH)
abbrev Hf(L:Cx)(H:AH)(s:Shared)(Q:b8)(cv:Value)(s':Shared):Prop :=∃v H',Q v H'/\VR L.sa s'.heap v cv/\ay L eE H H' s s'
abbrev EPost(L:Cx)(env:Env)(H:AH)(s:Shared)(Q:b8)(cv:Value)(s':Shared):Prop :=∃v H',Q v H'/\VR L.sa s'.heap v cv/\aj L env H H' s s'
abbrev EPosts(L:Cx)(env:Env)(H:AH)(s:Shared)(Q:b9)(cvs:List Value)(s':Shared):Prop :=∃vs H',Q vs H'/\VRs L.sa s'.heap vs cvs/\aj L env H H' s s'
abbrev aG:Value->Shared->Prop:=λ_ _=>False
def Room(A:Around)(d:Nat):Prop:=A.handled=none/\A.depth+2*d<990/\A.units+10*d<9700
def uE(L:Cx)(H:AH)(s:Shared)(Q:b8)(r:Result)(s':Shared):Prop:=match r with
 | .ok (.ret v)=>Hf L H s Q v s'
 |_=>False
def CallS(σ:Sx)(d:Nat)(f:Addr)(vs:List V)(H:AH)(Q:b8):Prop :=∀(X:Addr->Prop)(hX:∀b,X b->σ.base.get? b=none)(A:Around)(s:Shared)(cvs:List Value),Room A d->aD ⟨σ,X,hX⟩ H s.heap->(∃b,σ.base.objs.size<=b/\s.heap.get? b≠none)->VRs ⟨σ.sad,X⟩ s.heap vs cvs->codeAny (model σ.prog σ.w) A (.call (.ref f) ⟨cvs,[]⟩) (uE ⟨σ,X,hX⟩ H s Q) s
theorem CallS.mono{d:Nat}{f:Addr}{Q B:b8}(h:CallS σ d f vs H Q)(q:∀v H',Q v H'->B v H'):CallS σ d f vs H B :=
 λX hX A s cvs r R Γ V=>SP (h X hX A s cvs r R Γ V) λr s' hr=>by
  unfold uE at *;split at hr
  .refine bN hr λv H' a b c=>?_;exact(bF v H' (q v H' a) b c)
  .exact hr.elim
theorem Room.mono{A:Around}{d F:Nat}(r:Room A d)(h:F<=d):Room A F:=(cO r.1 (by obtain B:=r.2.1;exact PC h B) (by obtain B:=r.2.2;exact PD h B))
theorem CallS.room{d B:Nat}{f:Addr}{Q:b8}(h:CallS σ d f vs H Q)(q:d<=B):CallS σ B f vs H Q :=λX hX A s cvs r R Γ V=>h X hX A s cvs (r.mono q) R Γ V
def EPost.mono{Q B:b8}(h:EPost L env H s Q cv s')(q:∀v H',Q v H'->B v H'):EPost L env H s B cv s':=let⟨v,H',a,b,c⟩:=h;(bF v H' (q v H' a) b c)
def EPost.after{H₀:AH}{Q:b8}(S:aj L env H₀ H s₀ s)(h:EPost L env H s Q cv s'):EPost L env H₀ s₀ Q cv s':=let⟨v,H',a,b,c⟩:=h;(bF v H' a b (S.trans c))
def r8:=@EPost.after
def EPosts.after{H₀:AH}{Q:b9}{cv:List Value}(S:aj L env H₀ H s₀ s)(h:EPosts L env H s Q cv s'):EPosts L env H₀ s₀ Q cv s':=let⟨v,H',a,b,c⟩:=h;(bF v H' a b (S.trans c))
end
end
variable{loc l:Loc}
section
set_option genCtorIdx false
noncomputable def ax(kvs:List (V×V))(k:V):Option V:=(kvs.find? λp=>cr p.1 k).map (·.2)
noncomputable def dput(kvs:List (V×V))(k v:V):List (V×V) :=if kvs.any (λp=>cr p.1 k)then kvs.map (λp=>if cr p.1 k then(p.1,v)else p)else kvs++[(k,v)]
noncomputable def ddel(kvs:List (V×V))(k:V):List (V×V):=kvs.filter λp=>!cr p.1 k
def keyFits(kvs:List (V×V))(k:V):Prop:=cZ k≠0/\∀p∈kvs,cZ p.1=cZ k
noncomputable def CF(vs:List V)(n:Int):Option V:=if 0<=n then vs[n.toNat]? else if -n<=vs.length then vs[(vs.length+n).toNat]? else none
mutual
noncomputable def gg:V->V->Bool
 | .int i,.int j=>decide (i<j)
 | .str s,.str t=>decide (s<t)
 | .tup xs,.tup ys=>ft xs ys
 |_,_=>false
noncomputable def ft:List V->List V->Bool
 | [],_::_=>true
 |_,[]=>false
 |x::xs,y::ys=>if cr x y then ft xs ys else gg x y
end
mutual
noncomputable def cG:V->V->Bool
 | .int _,.int _=>true
 | .str _,.str _=>true
 | .tup xs,.tup ys=>fw xs ys
 |_,_=>false
noncomputable def fw:List V->List V->Bool
 |x::xs,y::ys=>cG x y&&fw xs ys
 |_,_=>true
end
noncomputable def ur(x:V):List V->List V
 | []=>[x]
 |y::ys=>if gg y x=true then y::ur x ys else x::y::ys
noncomputable def aH:List V->List V
 | []=>[]
 |x::xs=>ur x (aH xs)
noncomputable def bf:List V->List V
 | []=>[]
 |v::vs=>v::(bf vs).filter λw=>!cr w v
noncomputable def kO:V->Bool
 | .tup []=>false
 |_=>true
def sortable(vs:List V):Prop:=vs.length<64/\(∀x∈vs,aS x=true/\aB x<=8)/\(vs.length<2\/∀x∈vs,kO x=true)/\∀x∈vs,∀y∈vs,cG x y=true
def iy(vs:List V):Prop:=bQ vs=true/\bJ vs<=8
def gF(v:V):Prop:=dz v=true/\aB v<=8
noncomputable def mw(v:V)(vs:List V):Bool:=vs.any λy=>cr y v
noncomputable abbrev aF:List String:=["a","b","c","f","g","h"]
noncomputable abbrev iH:List String:=["a","b","c","f","g","h","?x","?y","abc"]
noncomputable def eM(n:Nat):List V:=(List.range n).map λ(i:Nat)=>V.int (i:Int)
section
variable(H:AH)(Q:b8)
def EX:V->(Int->Prop)->Prop
 | .int i,P=>P i
 |_,_=>False
def OB:V->(List V->Prop)->Prop
 | .tup i,P=>P i
 |_,_=>False
def OA:V->(Addr->Prop)->Prop
 | .ref i,P=>P i
 |_,_=>False
def fresh(o:AO):Prop:=∀c,H c=none->Q (.ref c) (H.set c o)
def xJ:BOp->V->V->Prop
 | .add,v,w=>match v with
  | .int i=>EX w λj=>Q (.int (i+j)) H
  | .tup x=>OB w λy=>x.length+y.length<=1000/\Q (.tup (x++y)) H
  | .ref a=>OA w λb=>∃x y,H a=some (.list x)/\H b=some (.list y)/\x.length+y.length<=2^20/\fresh H Q (.list (x++y))
  |_=>False
 | .sub,v,w=>EX v λi=>EX w λj=>Q (.int (i-j)) H
 | .mul,v,w=>EX v λi=>EX w λj=>i.natAbs<2^60/\j.natAbs<2^60/\Q (.int (i*j)) H
 | .mod,v,w=>EX v λi=>EX w λj=>0<j/\Q (.int (i%j)) H
noncomputable def Hw(v w:V)(Q:Bool->Prop):Prop :=
 match v,w with
 | .ref a,.ref b=>∃x y,H a=some (.list x)/\H b=some (.list y)/\iy x/\iy y/\Q (cr (.tup x) (.tup y))
 |v,w=>gF v/\gF w/\Q (cr v w)
def Pt(v w:V)(Q:Bool->Prop):Prop :=
 match w with
 | .ref a=>(∃vs,H a=some (.list vs)/\gF v/\iy vs/\Q (mw v vs))\/(∃kvs,H a=some (.dict kvs)/\keyFits kvs v/\Q (ax kvs v).isSome)
 | .str t=>t="()[]{},:"/\(∃x,v=.str x/\x∈aF)/\Q false
 |_=>False
noncomputable def fj(op:COp)(v w:V)(Q:Bool->Prop):Prop :=
 match op with
 | .eq=>Hw H v w Q
 | .ne=>Hw H v w λb=>Q (!b)
 | .lt=>∃i j,v=.int i/\w=.int j/\Q (decide (i<j))
 | .le=>∃i j,v=.int i/\w=.int j/\Q (decide (i<=j))
 | .gt=>∃i j,v=.int i/\w=.int j/\Q (decide (j<i))
 | .is=>w=.none/\Q (cr v .none)
 | .isin=>Pt H v w Q
 | .notin=>Pt H v w λb=>Q (!b)
def vb(v i:V):Prop :=
 match v with
 | .tup vs=>∃n x,i=.int n/\n.natAbs<2^60/\CF vs n=some x/\Q x H
 | .str s=>s∈iH/\∃n c,i=.int n/\0<=n/\n<3/\s.toList[n.toNat]?=some c/\Q (.str (String.ofList [c])) H
 | .ref a=>(∃vs n x,H a=some (.list vs)/\i=.int n/\n.natAbs<2^60/\CF vs n=some x/\Q x H)\/(∃kvs x,H a=some (.dict kvs)/\keyFits kvs i/\ax kvs i=some x/\Q x H)
 |_=>False
def GD(L:Sx)(v:V)(lo hi:Option Nat):Prop :=
 match v with
 | .tup vs=>vs.length<=1000/\1<=vs.length/\lo=some 1/\hi=none/\Q (.tup (vs.drop 1)) H
 | .str s=>s∈iH/\lo=none/\hi=some 1/\Q (.str (String.ofList (s.toList.take 1))) H
 | .scr=>lo=none/\∃n,hi=some n/\n<=1000/\fresh H Q (.list ((L.svs.take n).map .int))
 |_=>False
def zj(L:Sx)(v:V)(f:String):Prop :=∃a c dx kvs x,v=.ref a/\H a=some (.inst c dx)/\f∈L.flds c/\H dx=some (.dict kvs)/\ax kvs (.str f)=some x/\Q x H
inductive RK where|inst (c:String)|list|dict|str
def oB(L:Sx)(v:V)(m:String):RK->Prop
 | .inst c=>∃a dx kvs,v=.ref a/\H a=some (.inst c dx)/\H dx=some (.dict kvs)/\(∀p∈kvs,cZ p.1=1)/\ax kvs (.str m)=none/\(L.meth c m).isSome
 | .list=>m∈["append","extend","pop","index"]/\∃a vs,v=.ref a/\H a=some (.list vs)
 | .dict=>m∈["get","setdefault","pop"]/\∃a kvs,v=.ref a/\H a=some (.dict kvs)
 | .str=>m="isspace"/\∃s,v=.str s
def nN(v:V)(m:String)(args:List V):Prop :=
 ∃a vs,v=.ref a/\H a=some (.list vs) /\
  ((m="append"/\∃x,args=[x]/\vs.length<2^20/\Q .none (H.set a (.list (vs++[x])))) \/
   (m="extend"/\∃b ws,args=[.ref b]/\a≠b/\H b=some (.list ws)/\vs.length+ws.length<=2^20/\Q .none (H.set a (.list (vs++ws)))) \/
   (m="pop"/\∃ws x,args=[]/\vs=ws++[x]/\vs.length<=2^20/\Q x (H.set a (.list ws))) \/
   (m="index"/\∃x n,args=[x]/\aS x=true/\aB x<=8/\bG vs=true/\vs.length<=2^20/\vs.findIdx? (λy=>cr y x)=some n/\Q (.int n) H))
def DI(v:V)(m:String)(args:List V):Prop :=
 ∃a kvs,v=.ref a/\H a=some (.dict kvs) /\
  ((m="get"/\∃k dv,args=[k,dv]/\keyFits kvs k/\Q ((ax kvs k).getD dv) H) \/
   (m="setdefault"/\∃k dv,args=[k,dv]/\keyFits kvs k/\kvs.length<2^20/\Q ((ax kvs k).getD dv) (match ax kvs k with|some _=>H|none=>H.set a (.dict (kvs++[(k,dv)])))) \/
   (m="pop"/\∃k x,args=[k]/\cZ k=1/\kvs.length<2^20/\ax kvs k=some x/\Q x (H.set a (.dict (ddel kvs k)))))
def qy(L:Sx)(d:Nat)(k:RK)(v:V)(m:String)(args:List V):Prop :=
 match k with
 | .inst c=>∃f,L.meth c m=some f/\CallS L d f (v::args) H Q
 | .list=>nN H Q v m args
 | .dict=>DI H Q v m args
 | .str=>m="isspace"/\args=[]/\(∃s,v=.str s/\s∈aF)/\Q (.bool false) H
noncomputable def aV(kvs:List (V×V)):List V:=kvs.map λp=>.tup [p.1,p.2]
def bI(kvs:List (V×V)):Prop:=∀p∈kvs,cZ p.1=1
def iA:Prim->V->Prop
 | .len,.tup vs=>vs.length<=2^20/\Q (.int vs.length) H
 | .len,.ref a=>∃vs,H a=some (.list vs)/\vs.length<=2^21/\Q (.int vs.length) H
 | .sum,.ref a=>∃ns:List Int,H a=some (.list (ns.map .int))/\Q (.int ns.sum) H
 | .max,.ref a=>∃(i:Int)(ns:List Int),H a=some (.list ((i::ns).map .int))/\∀M,M∈i::ns->(∀x∈i::ns,x<=M)->Q (.int M) H
 | .tuple,.tup vs=>Q (.tup vs) H
 | .tuple,.ref a=>∃vs,H a=some (.list vs)/\vs.length<=16384/\Q (.tup vs) H
 | .list,.ref a=>∃vs,H a=some (.list vs)/\vs.length<=2^20/\fresh H Q (.list vs)
 | .listRange,.int n=>0<=n/\n<=1000/\fresh H Q (.list (eM n.toNat))
 | .listItems,.ref a=>∃kvs,H a=some (.dict kvs)/\bI kvs/\kvs.length<=1000/\fresh H Q (.list (aV kvs))
 | .dict,.ref a=>∃kvs,(H a=some (.dict kvs)\/(H a=some (.list (aV kvs))/\(kvs.map (·.1)).Nodup))/\bI kvs/\kvs.length<=1000/\fresh H Q (.dict kvs)
 | .sorted,.ref a=>(∃vs,H a=some (.list vs)/\sortable vs/\fresh H Q (.list (aH vs)))\/∃kvs,H a=some (.dict kvs)/\sortable (kvs.map (·.1))/\fresh H Q (.list (aH (kvs.map (·.1))))
 | .sortedItems,.ref a=>∃kvs,H a=some (.dict kvs)/\bI kvs/\sortable (aV kvs)/\fresh H Q (.list (aH (aV kvs)))
 | .sortedSet,.ref a=>∃vs,H a=some (.list vs)/\sortable vs/\fresh H Q (.list (aH (bf vs)))
 |_,_=>False
end
mutual
noncomputable def bz:Tgt->V->Loc->Option Loc
 | .nm x,v,l=>some (l.put x v)
 | .tp ts,v,l=>match v with | .tup vs=>eU ts vs l|_=>none
noncomputable def eU:Tgts->List V->Loc->Option Loc
 | .nil,vs,l=>match vs with | []=>some l|_::_=>none
 | .cons t ts,vs,l=>match vs with | []=>none|v::vs=>(bz t v l).bind λl=>eU ts vs l
end
noncomputable def Loc.drop(l:Loc)(xs:List String):Loc:=λy=>if y∈".0"::xs then none else l y
noncomputable abbrev pN:=Option (Addr×List V)
def dB(s:pN)(H:AH):Prop:=match s with|none=>True|some (a,vs)=>H a=some (.list vs)
noncomputable def fk(src:pN)(step:V->AH->(AH->Prop)->Prop):List V->AH->(AH->Prop)->Prop
 | [],H,K=>dB src H/\K H
 |x::xs,H,K=>dB src H/\step x H λH'=>fk src step xs H' K
inductive Fl where|next|ret (v:V)
noncomputable def kM(src:pN)(step:V->Loc->AH->(Fl->Loc->AH->Prop)->Prop):List V->Loc->AH->(Fl->Loc->AH->Prop)->Prop
 | [],l,H,K=>dB src H/\K .next l H
 |x::xs,l,H,K=>dB src H/\step x l H λfl l' H'=>match fl with | .next=>kM src step xs l' H' K | .ret v=>K (.ret v) l' H'
def jy(v:V)(H:AH)(K:pN->List V->AH->Prop):Prop :=
 match v with
 | .tup vs=>vs.length<=2^20/\K none vs H
 | .str s=>s∈aF/\K none [.str s] H
 | .ref a=>∃vs,H a=some (.list vs)/\vs.length<=2^20/\K (some (a,vs)) vs H
 |_=>False
noncomputable def gP(vs:List V):List V:=vs.zipIdx.map λp=>.tup [.int p.2,p.1]
noncomputable def gR(vs ws:List V):List V:=(vs.zip ws).map λp=>.tup [p.1,p.2]
mutual
noncomputable def aY(L:Sx)(d:Nat):ME->Loc->AH->(b8)->Prop
 | .cst v,_,H,Q=>Q v H
 | .neg i,_,H,Q=>Q (.int (-i)) H
 | .var x,l,H,Q=>∃v,l x=some v/\Q v H
 | .tup es,l,H,Q=>dY L d es l H λvs H'=>Q (.tup vs) H'
 | .lst es,l,H,Q=>dY L d es l H λvs H'=>fresh H' Q (.list vs)
 | .dct ks vs,l,H,Q=>dY L d ks l H λkk _=>dY L d vs l H λB H'=>dictOK (kk.zip B)/\bI (kk.zip B)/\kk.length=B.length/\kk.length<=15/\fresh H' Q (.dict (kk.zip B))
 | .bin op a b,l,H,Q=>aY L d a l H λv H1=>aY L d b l H1 λw H2=>xJ H2 Q op v w
 | .cmp1 op a b,l,H,Q=>aY L d a l H λv H1=>aY L d b l H1 λw H2=>fj H2 op v w λt=>Q (.bool t) H2
 | .cmp2 a o1 b o2 c,l,H,Q=>aY L d a l H λv H1=>aY L d b l H1 λw H2=>fj H2 o1 v w λt =>
   if t=true then aY L d c l H2 λu H3=>fj H3 o2 w u λt'=>Q (.bool t') H3 else Q (.bool false) H2
 | .and2 a b,l,H,Q=>aY L d a l H λv H1=>∃t,v=.bool t/\if t=true then aY L d b l H1 Q else Q (.bool false) H1
 | .or2 a b,l,H,Q=>aY L d a l H λv H1=>∃t,v=.bool t/\if t=true then Q (.bool true) H1 else aY L d b l H1 Q
 | .not1 a,l,H,Q=>aY L d a l H λv H1=>∃t,v=.bool t/\Q (.bool (!t)) H1
 | .ite c a b,l,H,Q=>yT L d c l H λt H1=>if t=true then aY L d a l H1 Q else aY L d b l H1 Q
 | .idx a i,l,H,Q=>aY L d a l H λv H1=>aY L d i l H1 λj H2=>vb H2 Q v j
 | .slc a lo hi,l,H,Q=>aY L d a l H λv H1=>GD H1 Q L v lo hi
 | .attr a f,l,H,Q=>aY L d a l H λv H1=>zj H1 Q L v f
 | .comp elt g,l,H,Q=>GV L d g l H (λH1 K=>fresh H1 (λv H2=>∃c,v=.ref c/\K c H2) (.list []))
   (λc l' H' K=>aY L d elt l' H' λv H''=>∃vs,H'' c=some (.list vs)/\vs.length<2^20/\K (H''.set c (.list (vs++[v])))) λc H'=>Q (.ref c) H'
 | .call f args,l,H,Q=>∃a,L.fn f=some a/\dY L d args l H λvs H1=>CallS L d a vs H1 Q
 | .new c args,l,H,Q=>∃C f F,d=F+1/\L.cls c=some C/\L.meth c "__init__"=some f/\dY L d args l H λvs H1=>∀x dx,H1 x=none->H1 dx=none->x≠dx ->
   CallS L F f (.ref x::vs) ((H1.set dx (.dict [])).set x (.inst c dx)) λr H2=>r=.none/\Q (.ref x) H2
 | .meth o m args,l,H,Q=>aY L d o l H λv H1=>∃k,oB H1 L v m k/\dY L d args l H1 λvs H2=>qy H2 Q L d k v m vs
 | .prim p a,l,H,Q=>aY L d a l H λv H1=>iA H1 Q p v
noncomputable def dY(L:Sx)(d:Nat):MEs->Loc->AH->(b9)->Prop
 | .nil,_,H,Q=>Q [] H
 | .cons e r,l,H,Q=>aY L d e l H λv H1=>dY L d r l H1 λvs H2=>Q (v::vs) H2
noncomputable def yT(L:Sx)(d:Nat):ME->Loc->AH->(Bool->AH->Prop)->Prop
 | .not1 a,l,H,Q=>yT L d a l H λt H1=>Q (!t) H1
 | .and2 a b,l,H,Q=>yT L d a l H λt H1=>if t=true then yT L d b l H1 Q else Q false H1
 | .or2 a b,l,H,Q=>yT L d a l H λt H1=>if t=true then Q true H1 else yT L d b l H1 Q
 | .cmp1 op a b,l,H,Q=>aY L d a l H λv H1=>aY L d b l H1 λw H2=>fj H2 op v w λt=>Q t H2
 | .cmp2 a o1 b o2 c,l,H,Q=>aY L d a l H λv H1=>aY L d b l H1 λw H2=>fj H2 o1 v w λt =>
   if t=true then aY L d c l H2 λu H3=>fj H3 o2 w u λt'=>Q t' H3 else Q false H2
 | .var x,l,H,Q=>∃t,l x=some (.bool t)/\Q t H
 | .call f args,l,H,Q=>∃a,L.fn f=some a/\dY L d args l H λvs H1=>CallS L d a vs H1 λv H2=>∃t,v=.bool t/\Q t H2
 | .meth o m args,l,H,Q=>aY L d o l H λv H1=>∃k,oB H1 L v m k/\dY L d args l H1 λvs H2=>qy H2 (λv H2=>∃t,v=.bool t/\Q t H2) L d k v m vs
 |_,_,_,_=>False
noncomputable def GV(L:Sx)(d:Nat):Gens->Loc->AH->(AH->(Addr->AH->Prop)->Prop)->(Addr->Loc->AH->(AH->Prop)->Prop)->(Addr->AH->Prop)->Prop
 | .one t it c,l,H,mk,emit,K=>lh L d it l H λsrc vs H1=>mk H1 λa H2=>fk src (λx H' k=>∃l',bz t x (l.drop (dX t))=some l'/\yS L d c l' H' λok H''=>if ok=true then emit a l' H'' k else k H'') vs H2 λH3=>K a H3
 | .more t it r,l,H,mk,emit,K=>lh L d it l H λsrc vs H1=>mk H1 λa H2=>fk src (λx H' k=>∃l',bz t x (l.drop (dX t++eX r))=some l'/\Pa L d r l' H' (emit a) k) vs H2 λH3=>K a H3
noncomputable def Pa(L:Sx)(d:Nat):Gens->Loc->AH->(Loc->AH->(AH->Prop)->Prop)->(AH->Prop)->Prop
 | .one t it c,l,H,emit,K=>lh L d it l H λsrc vs H1=>fk src (λx H' k=>∃l',bz t x (l.drop (dX t))=some l'/\yS L d c l' H' λok H''=>if ok=true then emit l' H'' k else k H'') vs H1 K
 | .more t it r,l,H,emit,K=>lh L d it l H λsrc vs H1=>fk src (λx H' k=>∃l',bz t x (l.drop (dX t++eX r))=some l'/\Pa L d r l' H' emit k) vs H1 K
noncomputable def yS(L:Sx)(d:Nat):Option ME->Loc->AH->(Bool->AH->Prop)->Prop
 |none,_,H,Q=>Q true H
 |some c,l,H,Q=>yT L d c l H Q
noncomputable def lh(L:Sx)(d:Nat):MIt->Loc->AH->(pN->List V->AH->Prop)->Prop
 | .exp e,l,H,K=>aY L d e l H λv H1=>jy v H1 K
 | .rng e,l,H,K=>aY L d e l H λv H1=>∃n,v=.int n/\0<=n/\n<=1000/\K none (eM n.toNat) H1
 | .zip a b,l,H,K=>aY L d a l H λv H1=>aY L d b l H1 λw H2=>∃vs ws,v=.tup vs/\w=.tup ws/\vs.length<=1000/\ws.length<=1000/\K none (gR vs ws) H2
 | .enum e,l,H,K=>aY L d e l H λv H1=>∃a vs,v=.ref a/\H1 a=some (.list vs)/\vs.length<=1000/\K (some (a,vs)) (gP vs) H1
end
end
variable{K:Fl->Loc->AH->Prop}{src:pN}
section
variable{m:Str->Option Value}{news':List (Addr×Obj)}
noncomputable def cI(base:Heap)(Γ:Addr)(h:Heap):List (Addr×Obj) :=(List.range h.objs.size).filterMap λb=>if b=Γ\/(base.get? b).isSome=true then none else(h.get? b).map λo=>(b,o)
def gx{base:Heap}{Γ b:Addr}:(b,o)∈cI base Γ h↔h.get? b=some o/\b≠Γ/\base.get? b=none:=by
 unfold cI;rw[List.mem_filterMap];constructor
 .rintro⟨c,_,e⟩;split at e
  .exact ns e
  .rename_i G;refine ah (D7.mp e) λo' B F=>?_;cases F;exact(cO B (λz=>G (.inl z)) (by cases q:base.get? b with|none=>rfl|some _=>exact absurd (.inr (by simp[q])) G))
 .rintro⟨B,F,J⟩;refine(af b (E3.mpr (G9 B)) ?_);rw[if_neg (by simp[F,J]),B];rfl
def bw{base:Heap}{Γ:Addr}:News base Γ h (cI base Γ h):=λp hp=>by obtain⟨a,o⟩:=p;exact gx.mp hp
def qX(base h:Heap)(Γ:Addr):((cI base Γ h).map (·.1)).Nodup:=by
 refine List.Pairwise.map _ (R:=λp q=>p.1≠q.1) (λ_ _ h=>h) ?_;refine List.Pairwise.filterMap _ (S:=λp q:Addr×Obj=>p.1≠q.1) ?_ List.nodup_range;intro a a' F b G b' B;have key:∀{x:Addr}{p:Addr×Obj},(if x=Γ\/(base.get? x).isSome=true then none else(h.get? x).map λo=>(x,o))=some p->p.1=x:=by
  intro x p hp;split at hp
  .exact ns hp
  .refine ah (D7.mp hp) λo _ e=>?_;rw[<- e]
 rw[key G,key B];exact F
section
variable{H:AH}
def ae.fr(F:ae L env loc H s.heap)(R:aD L H s.heap):∃m,s.heap.Ns env.locals m/\Fr L.base env.locals s.heap m:=by refine ah F.ns λm B _=>?_;exact(af m B ⟨B,R.base,F.above⟩)
theorem Ns.uniq{a:Addr}{B:Str->Option Value}(x:h.Ns a m)(y:h.Ns a B):m=B:=by refine uC x λo es ep J O _ Q=>?_;refine uC y λo' G F k1 k2 _ Y=>?_;rw[J]at k1;obtain rfl:=w8 k1;rw[O]at k2;injection k2 with k2;subst k2;funext n;rw[<- Q n,<- Y n]
def wH{B:Addr}(R:aD L H h)(F:Fr L.base B h' m)(G:News L.base B h' news') (P:Addr->Prop) (hs:∀p∈cI L.base B h,¬P p.1->p∈news') (b:Addr) (o:Obj) (e:h.get? b=some o) (J:b≠B) (hp:¬P b):h'.get? b=some o:=by
 cases q:L.base.get? b with
 |some o' =>
  have:=R.base b o' q
  rw[e]at this;obtain rfl:=w8 this;exact F.keep b o q
 |none=>exact(G _ (hs _ (gx.mpr (cO e J q)) hp)).1
def r9(F:ae L env loc H s.heap)(R:aD L H s.heap)(hm:s.heap.Ns env.locals m){tk:Nat} (B:Fr L.base env.locals h' m) (N':News L.base env.locals h' news') (hs:∀p∈cI L.base env.locals s.heap,p∈news'):aj L env H H s { s with heap:=h',toks:=tk }:=by
 have k:=wH R B N' (λ_=>False) (λp hp _=>hs p hp);have G:TupKeep L.sa s.heap h':=λb o _ e hc hd=>by refine k b o e ?_ (λz=>z);rintro rfl;refine GX hm λo' es ep J Q _=>?_;rw[e]at J;obtain rfl:=w8 J;refine ph hd λ_ _ hd=>?_;rw[Q]at hd;cases hd
 refine⟨⟨rfl,rfl,λb o e _ ho=>k b o e ho (λz=>z),λb o e=>.inl (by simp[e]),λ_ h=>h,λb h=>?_,G,⟨B.keep,R.fresh,λa o e=>?_,λb O=>?_⟩⟩,λm' Y=>?_⟩
 .by_cases O:b=env.locals
  .subst O;obtain⟨o,_,_,e,_⟩:=B.ns;rw[e];simp
  .cases e:s.heap.get? b with
   |none=>exact absurd e h
   |some o =>rw[k b o e O (λz=>z)];simp
 .refine ah (R.obj a o e) λob J Q=>?_;exact(af ob (k a ob J (λz=>by rw[z,F.lH]at e;cases e) (λz=>z)) (Q.keep G))
 .by_cases Z:b=env.locals
  .subst Z;obtain⟨o,_,_,e,_⟩:=B.ns;rw[e];simp
  .cases e:s.heap.get? b with
   |none=>exact absurd e (R.ex b O)
   |some o=>rw[k b o e Z (λz=>z)];simp
 .rw[Ns.uniq Y hm];exact B.ns
theorem s0(F:ae L env loc H s.heap)(R:aD L H s.heap)(hm:s.heap.Ns env.locals m){tk:Nat}{D:Addr}{ob:Obj}{x:AO} (Q:Fr L.base env.locals h' m) (G:News L.base env.locals h' news') (hs:∀p∈cI L.base env.locals s.heap,p∈news') (Y:(D,ob)∈news') (O:s.heap.get? D=none) (r:ORel L h' ob x):aj L env H (H.set D x) s { s with heap:=h',toks:=tk }/\H D=none:=by
 have S:=r9 F R hm (tk:=tk) Q G hs;have Z:H D=none:=by
  rcases e:H D with _|y
  .rfl
  .refine ah (R.obj D y e) λob' J _=>?_;rw[O]at J;cases J
 obtain nd:=G _ Y;refine⟨⟨⟨rfl,rfl,S.st.keep,λb o e=>?_,λb h=>?_,S.st.live,S.st.tup,⟨S.st.rel.base,λb o e=>?_,λb o e=>?_,S.st.rel.ex⟩⟩,S.ns⟩,Z⟩
 .by_cases B:b=D
  .subst B;exact .inr O
  .rw[p6 _ _ B]at e;exact .inl (by simp[e])
 .by_cases B:b=D
  .subst B;simp
  .rw[p6 _ _ B];exact h
 .by_cases B:b=D
  .subst B;exact nd.2.2
  .rw[p6 _ _ B]at e;exact R.fresh _ _ e
 .by_cases B:b=D
  .subst B;rw[AH.set_self]at e;obtain rfl:=w8 e;exact(af ob nd.1 r)
  .rw[p6 _ _ B]at e;exact S.st.rel.obj b o e
def ia{F:Addr}{D:Addr}(R:aD L H h)(G:D≠F)(J:L.base.get? D=none)(B:∀p∈cI L.base F h,p.1<D):h.get? D=none:=by
 rcases e:h.get? D with _|o
 .rfl
 .exact absurd (B _ (gx.mpr (cO e G J))) (Nat.lt_irrefl _)
theorem wf{base:Heap}{Γ d:Addr}{o':Obj}(hd:(d,o)∈cI base Γ h):∃news',Upd d o o' (cI base Γ h) news'/\(d,o')∈news'/\∀p∈cI base Γ h,p.1≠d->p∈news':=by
 obtain nd:=qX base h Γ;revert nd hd;generalize cI base Γ h=l;intro hd nd;induction l with
 |nil=>exact absurd hd y9
 |cons p r O =>
  rw[C4,C8]at nd;by_cases hp:p.1=d
  .have e:p=(d,o):=by
    rcases A4.mp hd with e|e
    .exact e.symm
    .exact absurd (w7.mpr ⟨_,e,hp.symm⟩) nd.1
   subst e;refine(aK ((d,o')::r) (.head λq hq z=>nd.1 (w7.mpr (af q hq z))) (.head _) (λq hq B=>?_));rcases A4.mp hq with rfl|hq
   .exact absurd rfl B
   .exact .tail _ hq
  .rcases A4.mp hd with e|e
   .exact absurd (by rw[<- e]) hp
   .refine bR (O e nd.2) λn' F G J=>?_;refine(aK (p::n') (.tail hp F) (.tail _ G) (λq hq B=>?_));rcases A4.mp hq with rfl|hq
    .exact .head _
    .exact .tail _ (J q hq B)
theorem aj.updNews(F:ae L env loc H s.heap)(R:aD L H s.heap)(hm:s.heap.Ns env.locals m){tk:Nat}{d:Addr}{ob':Obj}{x x':AO} (Q:Fr L.base env.locals h' m) (Z:News L.base env.locals h' news') (hs:∀p∈cI L.base env.locals s.heap,p.1≠d->p∈news') (hD:(d,ob')∈news') (hx:H d=some x) (r:ORel L s.heap ob' x'):aj L env H (H.set d x') s { s with heap:=h',toks:=tk }:=by
 have k:=wH R Q Z (λb=>b=d) hs;have hLd:env.locals≠d:=λz=>by rw[<- z,F.lH]at hx;cases hx
 have O:TupKeep L.sa s.heap h':=λb o _ e hc hd=>by
  refine k b o e ?_ ?_
  .rintro rfl;refine GX hm λo' es ep h1 h2 _=>?_;rw[e]at h1;obtain rfl:=w8 h1;refine ph hd λ_ _ hd=>?_;rw[h2]at hd;cases hd
  .rintro rfl;rw[R.tup_none e hc hd]at hx;cases hx
 have nd:=Z _ hD;refine⟨⟨rfl,rfl,λb o e B ho=>k b o e ho (λz=>by rw[z,hx]at B;exact sn B),λb o e=>?_,λb h=>?_,λb h=>?_,O,⟨Q.keep,λb o e=>?_,λb o e=>?_,λb B=>?_⟩⟩,λm' Y=>?_⟩
 .by_cases B:b=d
  .subst B;exact .inl (by simp[hx])
  .rw[p6 _ _ B]at e;exact .inl (by simp[e])
 .by_cases B:b=d
  .subst B;simp
  .rw[p6 _ _ B];exact h
 .show h'.get? _≠none;by_cases B:b=env.locals
  .subst B;refine mx Q.ns λo _ _ e _=>?_;rw[e];simp
  .by_cases G:b=d
   .rw[G,nd.1];simp
   .rcases e:s.heap.get? b with _|o
    .exact absurd e h
    .rw[k b o e B G];simp
 .by_cases B:b=d
  .subst B;exact R.fresh _ _ hx
  .rw[p6 _ _ B]at e;exact R.fresh _ _ e
 .by_cases B:b=d
  .subst B;rw[AH.set_self]at e;obtain rfl:=w8 e;exact(af ob' nd.1 (r.keep O))
  .rw[p6 _ _ B]at e;refine ah (R.obj b o e) λJ h3 h4=>?_;exact(af J (k b J h3 (λz=>by rw[z,F.lH]at e;cases e) B) (h4.keep O))
 .by_cases hL:b=env.locals
  .subst hL;refine mx Q.ns λo _ _ e _=>?_;rw[e];simp
  .by_cases G:b=d
   .rw[G,nd.1];simp
   .rcases e:s.heap.get? b with _|o
    .exact absurd e (R.ex b B)
    .rw[k b o e hL G];simp
 .rw[Ns.uniq Y hm];exact Q.ns
end
end
section
variable{cw:Value}{w:V}
set_option tactic.hygienic true
structure FldOK(K:Frag)(C:Addr)(name:Str):Prop where
 g:plainGet K C name=true
 hd:hasDictIn K C=true
 nf:∃attr,findIn K (.ref C) name=some attr/\noGet K attr=true
 st:findIn K (.ref C) "__setattr__"=some (some (.builtin "object.__setattr__"))
 po:plainOver K C=true
 tk:takerIn K C name=some none
structure MthOK(K:Frag)(C:Addr)(name:Str)(f:Addr):Prop where
 g:plainGet K C name=true
 nf:findIn K (.ref C) name=some (some (.ref f))
 fn:isFn K (.ref f)=true
 kp:keepIn K (.ref f)=true
structure MkOK(K:Frag)(C:Addr)(f:Addr):Prop where
 mks:makesIn K C=true
 nf:findIn K (.ref C) "__init__"=some (some (.ref f))
 fn:typeIn K (.ref f)=some (.type "function")
 kp:keepIn K (.ref C)=true
structure aJ(L:Sx):Prop where
 kin:L.K.In L.base
 fld:∀c C f,L.cls c=some C->f∈L.flds c->FldOK L.K C (Str.ofString f)
 mth:∀c C m a,L.cls c=some C->L.meth c m=some a->MthOK L.K C (Str.ofString m) a
 mks:∀c C f,L.cls c=some C->L.meth c "__init__"=some f->MkOK L.K C f
 nolim:L.base.NoLimit
 ns:∃mg mb,L.base.Ns mainGlobals mg/\L.base.Ns builtinsNs mb/\(∀f a,L.fn f=some a->mg (Str.ofString f)=some (.ref a)/\keepIn L.K (.ref a)=true)/\(∀c C,L.cls c=some C->mg (Str.ofString c)=some (.ref C)) /\
  ∀p∈bZ,mg (Str.ofString p.1)=none/\mb (Str.ofString p.1)=some p.2
 sysm:∃o,L.base.get? sysModules=some o
 scr:∃cvs,L.base.IsList L.sad cvs/\IntsAre cvs.toList L.svs
 scrz:∀cvs,L.base.IsList L.sad cvs->cvs.size<=sizeLine
section
variable{H:AH}{A:Around}{d:Nat}{Q:b8}
theorem aj.toks(R:aD L H s.heap)(t:Nat):aj L env H H s { s with toks:=t } :=⟨q9 (s':={ s with toks:=t }) R rfl rfl λ_ _ e=>e,λ_ h=>h⟩
theorem EPost.int(R:aD L H s.heap){i:Int}{t:Tok}(q:Q (.int i) H):EPost L env H s Q (.int i t) { s with toks:=k }:=(bF _ _ q (q5 _ _) (aj.toks R k))
def t6:=@EPost.int
theorem EPost.same(R:aD L H s.heap){v:V}(q:Q v H)(r:VR L.sa s.heap v cv):EPost L env H s Q cv { s with toks:=k }:=(bF _ _ q r (aj.toks R k))
def t7:=@EPost.same
theorem u0(R:aD L H s.heap){v:V}(q:Q v H)(r:VR L.sa s.heap v cv):EPost L env H s Q cv s:=(bF _ _ q r (aj.refl R))
theorem EPost.push(F:ae L env loc H s.heap)(R:aD L H s.heap){x:AO}{ob:Obj}(q:fresh H Q x)(r:ORel L s.heap ob x) : EPost L env H s Q (.ref s.heap.objs.size) { s with heap:=s.heap.push ob,toks:=k }:=by obtain J:s.heap.get? s.heap.objs.size=none:=B8 (z7 _);obtain B:∀b o,s.heap.get? b=some o->(s.heap.push ob).get? b=some o:=λb o e=>y6 _ e;refine cq (r6 (own:=eE) (s':={ s with heap:=s.heap.push ob,toks:=k }) R rfl rfl J B (A9 _ r.notFreed) (r.keep (p7 B))) λS G=>?_;exact(bF _ _ (q _ G) (q7 _) (S.toE F.lH))
theorem EPost.tuple(F:ae L env loc H s.heap)(R:aD L H s.heap)(q:Q (.tup vs) H)(r:VRs L.sa s.heap vs cvs) : EPost L env H s Q (.ref s.heap.objs.size) { s with heap:=s.heap.push { cls:=.type "tuple",data:=.seq cvs.toArray },toks:=k }:=by obtain B:∀b o,s.heap.get? b=some o->(s.heap.push { cls:=.type "tuple",data:=.seq cvs.toArray }).get? b=some o:=λb o e=>y6 _ e;exact(bF _ _ q (q8 (R.nx (B8 (z7 _))) (aK _ (A9 _ rfl) rfl (gV 0 rfl)) (by exact r.keep (p7 B))) ((q9 (s':={ s with heap:=s.heap.push { cls:=.type "tuple",data:=.seq cvs.toArray },toks:=k }) R rfl rfl B).toE F.lH))
theorem au{a:Addr}(R:aD L H h)(e:H a=some (.list vs)):∃cvs n,h.get? a=some (cy cvs n)/\VRs L.sa h vs cvs.toList:=by refine ah (R.obj a _ e) λob B aX=>?_;refine cF aX λcvs n bV r=>?_;subst bV;exact(ey cvs n B r)
theorem cu{a:Addr}(R:aD L H h)(e:H a=some (.dict kvs)):∃es n,h.get? a=some (bg es n)/\ER L h kvs es.toList/\dictOK kvs:=by refine ah (R.obj a _ e) λob B da=>?_;refine cF da λes n dC r=>?_;subst dC;exact(ey es n B r)
theorem jC{v:V}{c:Value}{P:Int->Prop}{R:Value->Prop}(h:EX v P)(r:VR L.sa s.heap v c)(k:∀i t,P i->R (.int i t)):R c:=by
 cases v with
 |int i=>exact r.int_el λt=>k i t h
 |_=>exact h.elim
def BL(F:ae L env loc H s.heap)(R:aD L H s.heap){ws:List V}(hl:vs.length+ws.length<=1000)(q:Q (.tup (vs++ws)) H)(rv:VR L.sa s.heap (.tup vs) cv)(B:VR L.sa s.heap (.tup ws) cw) : a8 L A (binaryOp .Add cv cw) (EPost L env H s Q) aG s:=by
 refine bN rv.tup_inv λa cvs eN ha J=>?_;subst eN;refine bN B.tup_inv λb dvs Y hb O=>?_;subst Y;refine ah (F.fr R) λm hm G=>?_;have nl:∀{us:List V}{xs:Array Value},xs.toList=[]->VRs L.sa s.heap us xs.toList->us=[]:=λz q=>by rw[z]at q;exact K7.mp q.length.symm
 refine add_tuples G bw (by rw[Array.toArray_toList];exact ha) (by rw[Array.toArray_toList];exact hb) (λz=>?_) (λ_ z=>?_) (λ_ _ h' F' Z=>?_) (by rw[I9];exact PG hl J.length O.length)
 .rw[nl z J,List.nil_append]at q;exact u0 R q B
 .rw[nl z O,G2]at q;exact u0 R q rv
 .obtain S:=r9 F R hm (tk:=s.toks) F' Z λp hp=>.tail _ hp;exact(bF _ _ q (q8 (R.nx (B8 (z7 _))) (aK _ ((Z _ (.head _)).1) rfl (gV 0 rfl)) ((J.append O).keep S.st.tup)) S)
theorem BK(F:ae L env loc H s.heap)(R:aD L H s.heap){a b:Addr}{x y:List V}(h1:H a=some (.list x))(h2:H b=some (.list y))(hl:x.length+y.length<=2^20)(q:fresh H Q (.list (x++y))) : a8 L A (binaryOp .Add (.ref a) (.ref b)) (EPost L env H s Q) aG s:=by refine cF (au R h1) λcvs n ho Y=>?_;refine cF (au R h2) λad n' J Z=>?_;refine ah (F.fr R) λm hm B=>?_;refine kmk_add_lit B bw (aK _ ho rfl (gV _ rfl)) (aK _ J rfl (gV _ rfl)) rfl (λD h' O G lt=>?_) (by rw[I9];exact PH hl Y.length Z.length);obtain nd:=G _ (.head _);refine cq (s0 F R hm (tk:=s.toks) O G (λp hp=>.tail _ hp) (.head _) (ia R nd.2.1 nd.2.2 lt) (x:=.list (x++y)) (ey _ 0 rfl ((Y.append Z).keep (r9 F R hm (tk:=s.toks) O G λp hp=>.tail _ hp).st.tup))) λS hH=>?_;exact(bF _ _ (q _ hH) (q7 _) S)
theorem OG(F:ae L env loc H s.heap)(R:aD L H s.heap)(op:BOp){v:V}(h:xJ H Q op v w)(G:VR L.sa s.heap v cv)(B:VR L.sa s.heap w cw) : a8 L A (binaryOp (Ra op) cv cw) (EPost L env H s Q) aG s:=by
 cases op with
 |sub =>apply jC h G;intro i t h;apply jC h B;intro j u h;exact sub_int (t6 R h)
 |mul =>apply jC h G;intro i t h;apply jC h B;intro j u h;exact mul_int (t6 R h.2.2) (IntMulOk.of_left (intBits_le_64 (by first|exact Jd h.1|exact Jl h.1) (by first|exact Jd h.1|exact Jl h.1)))
 |mod =>apply jC h G;intro i t h;apply jC h B;intro j u h;exact mod_int (PE h.1) (by rw[Int.fmod_eq_emod_of_nonneg _ (PF h.1)];exact t6 R h.2)
 |add =>
  cases v with
  |int i =>apply G.int_el;intro t;apply jC (P:=λj=>Q (.int (i+j)) H) h B;intro j u h;exact wpAny_add_int (t6 R h)
  |tup vs =>
   cases w with
   |tup ws=>exact BL F R h.1 h.2 G B
   |_=>exact h.elim
  |ref a =>
   cases w with
   |ref b =>refine uA h λx y J O Y Z=>?_;apply G.ref_el;apply B.ref_el;exact BK F R J O Y Z
   |_=>exact h.elim
  |_=>exact h.elim
def zJ{v:V}{P:Bool->Prop}(h:Hw H v w P):(∃a b,v=.ref a/\w=.ref b/\∃x y,H a=some (.list x)/\H b=some (.list y)/\iy x/\iy y/\P (cr (.tup x) (.tup y)))\/gF v/\gF w/\P (cr v w):=by
 cases v with
 |ref a=>cases w with
  |ref b=>exact .inl (bF a b rfl rfl h)
  |_=>exact .inr h
 |_=>exact .inr h
theorem QM(R:aD L H s.heap)(hr:Room A d){v:V}{Qb:Bool->Prop}(h:Hw H v w Qb)(rv:VR L.sa s.heap v cv)(J:VR L.sa s.heap w cw){P:a9} (hP:∀b,Qb b->P (.bool b) s):a8 L A (compareOp .Eq cv cw) P aG s:=by
 have hu:=hr.2.2;have hc:cLine=9900:=rfl;rcases zJ h with⟨a,b,rfl,rfl,x,y,h1,h2,B,F,q⟩|⟨B,F,q⟩
 .apply rv.ref_el;apply J.ref_el;refine cF (au R h1) λcvs n ho ra=>?_;refine cF (au R h2) λdvs n' Y rb=>?_;obtain⟨as,Z⟩:=ra.reads B.1;obtain⟨bs,qb⟩:=rb.reads F.1;obtain G:=iG x B.1;obtain lb:=iG y F.1;obtain O:=B.2;obtain Q:=F.2;refine eq_dataH (reads_list_at ho rfl rfl Z) (reads_list_at Y rfl rfl qb) ?_ ?_ (CI hu hc) ?_
  .unfold SeqAt.shaped;rw[show(PyData.list (dO x)).canLay0=true from G.1,show(PyData.list (dO x)).depth=PyData.depthAll (dO x)+1 from rfl,Bool.true_and,decide_eq_true_eq];exact CJ G.2 O
  .unfold SeqAt.shaped;rw[show(PyData.list (dO y)).canLay0=true from lb.1,show(PyData.list (dO y)).depth=PyData.depthAll (dO y)+1 from rfl,Bool.true_and,decide_eq_true_eq];exact CJ lb.2 Q
  .have e:PyData.eqv (.list (dO x)) (.list (dO y))=cr (.tup x) (.tup y):=by rw[<- ja (v:=.tup x) (w:=.tup y) B.1 F.1];simp[xA,PyData.eqv]
   rw[e];exact hP _ q
 .obtain⟨as,Z⟩:=rv.reads B.1;obtain⟨bs,qb⟩:=J.reads F.1;obtain G:=gK v B.1;obtain lb:=gK w F.1;obtain O:=B.2;obtain Q:=F.2;refine eq_dataH Z qb ?_ ?_ (CI hu hc) ?_
  .unfold SeqAt.shaped;simp only[G.1,Bool.true_and,decide_eq_true_eq];exact CL G.2 O
  .unfold SeqAt.shaped;simp only[lb.1,Bool.true_and,decide_eq_true_eq];exact CL lb.2 Q
  .rw[ja B.1 F.1];exact hP _ q
theorem QN(R:aD L H s.heap)(hr:Room A d){v:V}{Qb:Bool->Prop}(h:Hw H v w λb=>Qb (!b))(rv:VR L.sa s.heap v cv)(J:VR L.sa s.heap w cw){P:a9} (hP:∀b,Qb b->P (.bool b) s):a8 L A (compareOp .NotEq cv cw) P aG s:=by
 have hu:=hr.2.2;have hc:cLine=9900:=rfl;rcases zJ h with⟨a,b,rfl,rfl,x,y,h1,h2,B,F,q⟩|⟨B,F,q⟩
 .apply rv.ref_el;apply J.ref_el;refine cF (au R h1) λcvs n ho ra=>?_;refine cF (au R h2) λdvs n' Y rb=>?_;refine bM (ra.reads B.1) λas Z=>?_;refine bM (rb.reads F.1) λbs qb=>?_;have G:=iG x B.1;obtain lb:=iG y F.1;obtain O:=B.2;have Q:=F.2;refine ne_dataH (reads_list_at ho rfl rfl Z) (reads_list_at Y rfl rfl qb) ?_ ?_ (CI hu hc) ?_
  .unfold SeqAt.shaped;rw[show(PyData.list (dO x)).canLay0=true from G.1,show(PyData.list (dO x)).depth=PyData.depthAll (dO x)+1 from rfl,Bool.true_and,decide_eq_true_eq];exact CJ G.2 O
  .unfold SeqAt.shaped;rw[show(PyData.list (dO y)).canLay0=true from lb.1,show(PyData.list (dO y)).depth=PyData.depthAll (dO y)+1 from rfl,Bool.true_and,decide_eq_true_eq];exact CJ lb.2 Q
  .have e:PyData.eqv (.list (dO x)) (.list (dO y))=cr (.tup x) (.tup y):=by rw[<- ja (v:=.tup x) (w:=.tup y) (by exact B.1) (by exact F.1)];simp[xA,PyData.eqv]
   rw[e];exact hP _ q
 .obtain⟨as,Z⟩:=rv.reads B.1;refine bM (J.reads F.1) λbs qb=>?_;obtain G:=gK v B.1;obtain lb:=gK w F.1;obtain O:=B.2;obtain Q:=F.2;refine ne_dataH Z qb ?_ ?_ (CI hu hc) ?_
  .unfold SeqAt.shaped;simp only[G.1,Bool.true_and,decide_eq_true_eq];exact CL G.2 O
  .unfold SeqAt.shaped;simp only[lb.1,Bool.true_and,decide_eq_true_eq];exact CL lb.2 Q
  .rw[ja B.1 F.1];exact hP _ q
end
end
section
variable{k:V}
noncomputable def fX(kvs:List (V×V))(k:V):Option Nat:=kvs.findIdx? λp=>cr p.1 k
def iR(h:fX kvs k=none):∀p∈kvs,p.1≠k:=by intro p hp e;obtain B:=List.findIdx?_eq_none_iff.mp h p hp;rw[bo]at B;exact B e
def dS(h:fX kvs k=some i):∃v,kvs[i]?=some (k,v)/\∀j,j<i->∀p,kvs[j]?=some p->p.1≠k:=by refine ah (Q0.mp h) λhi F G=>?_;obtain e:=(aO _ _).mp F;refine(af ((kvs[i]).2) (by rw[E4 hi,<- e]) (λj J p hp=>?_));obtain⟨O,e'⟩:=z5.mp hp;obtain B:=G j J;rw[e']at B;intro z;exact B ((aO _ _).mpr z)
def iO(h:fX kvs k=none):ax kvs k=none:=by unfold ax;rw[List.find?_eq_none.mpr,Option.map_none];intro p hp z;exact iR h p hp ((aO _ _).mp z)
def fR{v:V}(h:fX kvs k=some i)(G:kvs[i]?=some (k,v)):ax kvs k=some v:=by
 unfold ax
 have:kvs.find? (λp=>cr p.1 k)=some (k,v):=by refine ah (Q0.mp h) λhi J B=>?_;rw[List.find?_eq_some_iff_getElem];refine⟨dg k,i,hi,(z5.mp G).2,λj F=>?_⟩;obtain this:=B j F;simpa using this
 rw[this];rfl
def eR{v:V}(h:ax kvs k=some v):∃i,fX kvs k=some i/\kvs[i]?=some (k,v):=by
 rcases e:fX kvs k with _|i
 .rw[iO e]at h;exact ns h
 .refine ah (dS e) λu B _=>?_;rw[fR e B]at h;obtain rfl:=w8 h;exact(af i rfl B)
def fx(h:ax kvs k=none):fX kvs k=none:=by
 rcases e:fX kvs k with _|i
 .rfl
 .refine ah (dS e) λu B _=>?_;rw[fR e B]at h;exact sn h
def cQ{v:V}(h:ax kvs k=none):dput kvs k v=kvs++[(k,v)]:=by obtain h':=iR (fx h);unfold dput;rw[if_neg];intro z;refine ah (RX.mp z) λp hp e=>?_;exact h' p hp ((aO _ _).mp e)
def sD{u:V}(h:ax kvs k=some u):kvs.any (λp=>cr p.1 k)=true:=by refine ah (eR h) λi _ B=>?_;exact RX.mpr (af _ (z6 B) (dg k))
def je(nd:(kvs.map (·.1)).Nodup){v u:V}(hi:kvs[i]?=some (k,v))(G:kvs[j]?=some (k,u)):i=j:=by
 obtain B:(kvs.map (·.1))[i]?=some k:=by rw[B6,hi];rfl
 obtain F:(kvs.map (·.1))[j]?=some k:=by rw[B6,G];rfl
 exact(SK (z5.mp B).1 nd).mp (B.trans F.symm)
def kJ(nd:(kvs.map (·.1)).Nodup){v u:V}(h:fX kvs k=some i)(G:kvs[i]?=some (k,u)):dput kvs k v=kvs.set i (k,v):=by
 unfold dput;rw[if_pos (sD (fR h G))];apply Sc;intro j;rw[B6,J6];by_cases B:i=j
 .subst B;rw[if_pos rfl,if_pos (z5.mp G).1,G];simp[dg]
 .rw[if_neg B];rcases e:kvs[j]? with _|p
  .rfl
  .obtain F:cr p.1 k=false:=bo.mpr λz=>by obtain⟨a,b⟩:=p;simp only at z;subst z;exact B (je nd G e)
   simp[F]
theorem xO(nd:(kvs.map (·.1)).Nodup):∀{i:Nat}{k u:V},kvs[i]?=some (k,u)->ddel kvs k=kvs.eraseIdx i:=by
 unfold ddel;induction kvs with
 |nil=>intro i k u h;simp at h
 |cons p r B =>
  intro i k u h;rw[C4,C8]at nd;rcases i with _|i
  .simp at h;subst h
   have:r.filter (λp=>!cr p.1 k)=r:=by rw[List.filter_eq_self];intro q hq;rw[bo.mpr];rfl;intro z;exact nd.1 (w7.mpr (af q hq z))
   simp[dg,this]
  .simp at h;obtain hm:k∈r.map (·.1):=w7.mpr (af _ (z6 h) rfl)
   have:cr p.1 k=false:=bo.mpr λz=>nd.1 (z▸hm)
   simp[this,B nd.2 h]
def keyFits.of{v:V}(d:dictOK kvs)(h:ax kvs k=some v):keyFits kvs k:=by refine ah (eR h) λi _ F=>?_;refine cq d λ_ aX=>?_;refine ah aX λc hc hh=>?_;obtain B:=hh _ (z6 F);exact⟨by rw[B];exact hc,λp hp=>by rw[hh p hp,B]⟩
theorem dictOK.dput(d:dictOK kvs)(f:keyFits kvs k)(v:V):dictOK (dput kvs k v):=by
 rcases e:ax kvs k with _|u
 .rw[cQ e];refine⟨?_,cZ k,f.1,λp hp=>?_⟩
  .rw[B7,G4];refine⟨d.1,by simp,?_⟩;intro a ha b G;simp at G;subst G;refine ah (w7.mp ha) λp hp bV=>?_;subst bV;exact iR (fx e) p hp
  .rcases C2.mp hp with hp|hp
   .exact f.2 p hp
   .simp at hp;subst hp;rfl
 .refine ah (eR e) λi J F=>?_;rw[kJ d.1 J F];have e1:(kvs.set i (k,v)).map (·.1)=kvs.map (·.1):=by
   rw[List.map_set];refine Sc λj=>?_;rw[J6];split
   .rename_i O;subst O;rw[B6,F];simp[(List.getElem?_eq_some_iff.mp F).1]
   .rfl
  refine⟨by rw[e1];exact d.1,(af (cZ k) f.1 (λp hp=>?_))⟩;obtain B:p.1∈(kvs.set i (k,v)).map (·.1):=w7.mpr (af p hp rfl);rw[e1]at B;refine ah (w7.mp B) λq hq z=>?_;rw[<- z];exact f.2 q hq
theorem dictOK.ddel(d:dictOK kvs)(k:V):dictOK (ddel kvs k) :=⟨(d.1.sublist (List.Sublist.map _ List.filter_sublist)),let⟨c,B,F⟩:=d.2;⟨c,B,λp hp=>F p (I4.mp hp).1⟩⟩
def dictOK.nil:dictOK []:=⟨by simp,(af 1 (by decide) (λ_ h=>absurd h y9))⟩
theorem ER.length:∀{kvs:List (V×V)}{es:List DictEntry},ER L h kvs es->es.length=kvs.length
 | [],_,x=>by simp[ER]at x;simp[x]
 |(_,_)::_,_,x=>by refine pe x λe es da _ _ _ d=>?_;subst da;simp[d.length]
theorem ER.get:∀{kvs:List (V×V)}{es:List DictEntry},ER L h kvs es->∀{i:Nat}{k v:V},kvs[i]?=some (k,v)->∃e,es[i]?=some e/\VR L.sa h k e.key/\e.hash=aI L.w k/\VR L.sa h v e.val
 | [],_,_,i,k,v,e=>by simp at e
 |(_,_)::_,_,x,i,k,v,e=>by
  refine pe x λe' es dC a b c d=>?_;subst dC;rcases i with _|i
  .simp at e;obtain⟨rfl,rfl⟩:=e;exact(jK e' rfl a b c)
  .simp at e;refine ah (d.get e) λe1 B F=>?_;exact(af e1 B F)
theorem ER.get':∀{kvs:List (V×V)}{es:List DictEntry},ER L h kvs es->∀{i:Nat}{e:DictEntry},es[i]?=some e->∃k v,kvs[i]?=some (k,v)/\VR L.sa h k e.key/\e.hash=aI L.w k/\VR L.sa h v e.val
 | [],_,x,i,e,q=>by simp[ER]at x;simp[x]at q
 |(B,F)::_,_,x,i,e,q=>by
  refine pe x λe' es G a b c d=>?_;subst G;rcases i with _|i
  .simp at q;subst q;exact(jL B F rfl a b c)
  .simp at q;refine cF (d.get' q) λk1 v1 J O=>?_;exact(ey k1 v1 J O)
theorem ER.push:∀{kvs:List (V×V)}{es:List DictEntry},ER L h kvs es->∀{k v:V}{e:DictEntry},VR L.sa h k e.key->e.hash=aI L.w k->VR L.sa h v e.val->ER L h (kvs++[(k,v)]) (es++[e])
 | [],_,x,k,v,e,a,b,c=>by simp[ER]at x;subst x;exact(qT e ([]) rfl a b c rfl)
 |(_,_)::_,_,x,k,v,e,a,b,c=>by refine pe x λe' es B a' b' F d=>?_;subst B;exact(qT e' _ rfl a' b' F (d.push a b c))
theorem ER.set:∀{kvs:List (V×V)}{es:List DictEntry},ER L h kvs es->∀{i:Nat}{k u v:V}{c:Value},kvs[i]?=some (k,u)->VR L.sa h v c->ER L h (kvs.set i (k,v)) (es.modify i λe=>{ e with val:=c })
 | [],_,_,i,k,u,v,c,e,_=>by simp at e
 |(_,_)::_,_,x,i,k,u,v,c,e,r=>by
  refine pe x λe' es B a' b' F d=>?_;subst B;rcases i with _|i
  .simp at e;obtain⟨rfl,rfl⟩:=e;exact(qT _ _ rfl a' b' r d)
  .simp at e;exact(qT e' _ (by rfl) a' b' F (d.set e r))
theorem ER.erase:∀{kvs:List (V×V)}{es:List DictEntry},ER L h kvs es->∀(i:Nat),ER L h (kvs.eraseIdx i) (es.eraseIdx i)
 | [],_,x,i=>by simp[ER]at x;subst x;simp[ER]
 |(_,_)::_,_,x,0=>by refine pe x λe' es B a' b' G d=>?_;subst B;exact d
 |(_,_)::_,_,x,i+1=>by refine pe x λe' es F a' b' G d=>?_;subst F;exact(qT e' _ (by rfl) a' b' G (d.erase i))
def fW(vs:List V):cZ (.tup vs)=if(aS (.tup vs)&&decide (aB (.tup vs)<=8))=true then 2 else 0:=rfl
def db(h:cZ k=1):rF k=true:=by
 cases k with
 |tup vs=>rw[fW]at h;split at h <;> omega
 |int _=>rfl
 |str _=>rfl
 |_=>exact Nat.noConfusion h
def nK(h:cZ k=2):(∃vs,k=.tup vs)/\aS k=true/\aB k<=8:=by
 cases k with
 |tup vs =>
  rw[fW]at h;split at h
  .rename_i q;simp at q;exact⟨⟨vs,rfl⟩,q.1,q.2⟩
  .omega
 |int _=>cases h
 |str _=>cases h
 |_=>exact Nat.noConfusion h
def nJ(h:cZ k≠0):cZ k=1\/cZ k=2:=by
 cases k with
 |tup vs=>rw[fW]at *;split <;> simp_all
 |int _=>exact .inl rfl
 |str _=>exact .inl rfl
 |_=>exact absurd rfl h
def ti(h:cZ k≠0):aS k=true/\aB k<=8:=by
 rcases nJ h with e|e
 .obtain B:=db e;cases k with
  |int _=>exact⟨by simp[aS],by simp[aB]⟩
  |str _=>exact⟨by simp[aS],by simp[aB]⟩
  |_=>exact ai B
 .exact(nK e).2
section
variable{A:Around}
def rT{Q:Int->Shared->Prop}(F:A.units+8<cLine)(hk:cZ k≠0)(rk:VR L.sa s.heap k ck)(h:∀t,Q (aI L.w k) { s with toks:=t }) : a8 L A (pyHash ck) Q E s :=VR.pyHash (ti hk).1 (by obtain B:=(ti hk).2;exact Iz B F) rk (h _)
theorem rS{d:Addr}{es:Array DictEntry}{n:Nat}{Q:Option Nat->Shared->Prop}(hu:A.units+8<cLine) (ho:s.heap.get? d=some (bg es n)) (er:ER L s.heap kvs es.toList) (dk:dictOK kvs) (kf:keyFits kvs k) (rk:VR L.sa s.heap k ck) (h:Q (fX kvs k) s) : a8 L A (dictFind d ck (aI L.w k)) Q E s:=by
 rcases nJ kf.1 with hk|hk
 .obtain hsc:=db hk;have J:=cH hsc rk;refine @wpAny_dictFind_of L.prog L.w V bU (bB L.prog L.w) A E s d _ es n k ck Q J ho rfl ?_ ?_
  .intro e he;obtain⟨i,hi⟩:=C0.mp (P6.mpr he);refine uA (er.get' hi) λF v' h1 h2 h3 _=>?_;exact(af F (cH (db ((kf.2 _ (z6 h1)).trans hk)) h2) h3)
  .have:(es.findIdx? λe=>@KeyKind.is _ _ V bU (bB L.prog L.w) k e.key)=fX kvs k:=by
    rw[show es=es.toList.toArray by rfl,List.findIdx?_toArray];have key:∀(kvs:List (V×V))(l:List DictEntry),(∀p∈kvs,cZ p.1=cZ k)->ER L s.heap kvs l->l.findIdx? (λe=>kq k e.key)=kvs.findIdx? λp=>cr p.1 k:=by
     intro kvs;induction kvs with
     |nil=>intro l _ x;simp[ER]at x;subst x;rfl
     |cons p r ih =>
      intro l hp x;obtain⟨F,v'⟩:=p;refine pe x λe es Y a b c d=>?_;subst Y;obtain G:rF F=true:=db ((hp _ y4).trans hk);have e1:kq k e.key=cr F k:=by
       cases q:cr F k with
       |true =>obtain this:=(aO _ _).mp q;subst this;exact cH G a
       |false =>
        rcases q':kq k e.key with _|_
        .rfl
        .exact absurd (@KeyKind.inj _ _ V bU (bB L.prog L.w) _ _ _ (cH G a) q') (bo.mp q)
      rw[List.findIdx?_cons,List.findIdx?_cons,e1,ih es (λp B=>hp p (w9 _ B)) d]
    exact key kvs es.toList kf.2 er
   rw[this];exact h
 .refine jb (nK hk) λZ h1 h2=>?_;obtain⟨vs,rfl⟩:=Z;refine bN rk.tup_inv λa cvs ad _ _=>?_;subst ad;have key:∀(kvs:List (V×V))(l:List DictEntry),(∀p∈kvs,cZ p.1=2)->ER L s.heap kvs l->∃xs:List (V×Addr×Value),xs.map (λx=>(x.1))=kvs.map (·.1) /\
    l=xs.map (@entryOfKey L.prog L.w V bU (Bm L.sa L.prog L.w))/\∀x∈xs,@HeapKind.is _ _ V bU (Bm L.sa L.prog L.w) s.heap x.1 x.2.1:=by
   intro kvs;induction kvs with
   |nil=>intro l _ x;simp[ER]at x;subst x;exact(aK ([]) rfl rfl (λ_ h=>absurd h y9))
   |cons p r ih =>
    intro l hp x;obtain⟨F,v'⟩:=p;refine pe x λe es ar a b c d=>?_;subst ar;refine bR (ih es (λp B=>hp p (w9 _ B)) d) λxs x1 x2 x3=>?_;refine jb (nK (hp _ y4)) λas k1 k2=>?_;obtain⟨O,rfl⟩:=as;refine bN (id a.tup_inv) λa' _ ea _ _=>?_;refine(aK ((.tup O,a',e.val)::xs) (by simp[x1]) ?_ ?_)
    .rw[x2,C4];congr 1;obtain⟨eh,ek,ev⟩:=e;simp only at ea b;subst ea b;rfl
    .intro x hx;rcases A4.mp hx with rfl|hx
     .exact(sw ⟨O,rfl⟩ k1 k2 (ea▸a))
     .exact x3 x hx
  refine bR (key kvs es.toList (λp hp=>(kf.2 p hp).trans hk) er) λxs x1 x2 x3=>?_;have rel:∀(j:Nat)(u:V),(∃p,xs[j]?=some (u,p))↔∃v,kvs[j]?=some (u,v):=by
   intro j u;obtain this:(xs.map (λx=>x.1))[j]?=(kvs.map (·.1))[j]?:=by rw[x1]
   rw[B6,B6]at this;constructor
   .rintro⟨p,hp⟩;rw[hp]at this;refine ah (D7.mp this.symm) λq hq z=>?_;exact⟨q.2,by rw[hq];obtain⟨q1,q2⟩:=q;simp only at z;rw[z]⟩
   .rintro⟨p,hp⟩;rw[hp]at this;refine ah (D7.mp this) λq hq z=>?_;exact⟨q.2,by rw[hq];obtain⟨q1,q2⟩:=q;simp only at z;rw[z]⟩
  refine @wpAny_dictFind_heap L.prog L.w V bU (Bm L.sa L.prog L.w) A E s d a _ es n xs (.tup vs) Q hu (sw ⟨vs,rfl⟩ h1 h2 rk) ho rfl x2 x3 (by rw[x1];exact dk.1) ?_ ?_
  .intro hno
   have:fX kvs (.tup vs)=none:=by
    rcases e:fX kvs (.tup vs)with _|i
    .rfl
    .refine ah (dS e) λv hv _=>?_;obtain⟨p,hp⟩:=(rel i _).mpr ⟨v,hv⟩;exact absurd hp (hno i p)
   rw[this]at h;exact h
  .intro j p hj;obtain⟨v,hv⟩:=(rel j _).mp ⟨p,hj⟩
   have:fX kvs (.tup vs)=some j:=by
    rcases e:fX kvs (.tup vs)with _|i
    .exact absurd rfl (iR e _ (z6 hv))
    .refine ah (dS e) λv' hv' _=>?_;rw[je dk.1 hv' hv]
   rw[this]at h;exact h
end
end
section
variable{k:V}
section
variable{A:Around}
def QZ(sa:SX)(h:Heap):Option V->Option Value->Prop
 |none,none=>True
 |some v,some c=>VR sa h v c
 |_,_=>False
def DAt(L:Cx)(h:Heap)(d:Addr)(kvs:List (V×V)):Prop:=∃es n,h.get? d=some (bg es n)/\ER L h kvs es.toList/\dictOK kvs
def aD.dat{H:AH}(R:aD L H h){d:Addr}(e:H d=some (.dict kvs)):DAt L h d kvs:=cu R e
def aD.nosys(C:aJ L.toSx){H:AH}(R:aD L H h){d:Addr}{x:AO}(e:H d=some x):(d==sysModules)=false:=by
 rw[Sl];rintro rfl;refine bM C.sysm λo B=>?_
 have:=R.fresh _ _ e
 rw[B]at this;exact sn this
def DAt.typeIs{d:Addr}(x:DAt L s.heap d kvs):s.TypeIs (.ref d) "dict":=let⟨_,_,B,_⟩:=x;(af _ B rfl)
def ER.toksize{es:Array DictEntry}(x:ER L h kvs es.toList):es.size=kvs.length:=x.length
theorem vJ{d:Addr}{Q:Option Value->Shared->Prop}(O:A.units+8<cLine)(D:DAt L s.heap d kvs)(Z:keyFits kvs k)(rk:VR L.sa s.heap k ck) (h:∀t oc,QZ L.sa s.heap (ax kvs k) oc->Q oc { s with toks:=t }):a8 L A (dictGet d ck) Q E s:=by
 refine bN D λes n J G dk=>?_;unfold dictGet
 try with_reducible refine E6 ?_
 refine p0 (rT O Z.1 rk λt=>p0 (rS (s:={ s with toks:=t }) O J G dk Z rk ?_));rcases e:fX kvs k with _|i
 .exact u4 (h t none (by rw[iO e];trivial))
 .refine ah (dS e) λv Y _=>?_;refine wh (G.get Y) λF h1 h2 h3 h4=>?_;refine p0 (SQ (s:={ s with toks:=t }) J rfl (u4 ?_));obtain B:es[i]?=some F:=by rw[<- h1,A7]
  rw[B];exact h t (some F.val) (by rw[fR e Y];exact h4)
theorem Gj{d:Addr}{v:V}{Q:b6}(Z:A.units+8<cLine)(D:DAt L s.heap d kvs)(kf:keyFits kvs k)(rk:VR L.sa s.heap k ck)(rv:VR L.sa s.heap v cv) (hz:kvs.length<=sizeLine) (h:∀t h' B n',h'.get? d=some (bg B n')->ER L s.heap (dput kvs k v) B.toList->Heap.SameBut d s.heap h'->Q () { s with heap:=h',toks:=t }) : a8 L A (dictSet d ck cv) Q E s:=by
 refine bN D λes n F J Y=>?_;have O:es.size<=sizeLine:=by rw[J.toksize];exact hz
 unfold dictSet
 try with_reducible refine E6 ?_
 refine p0 (rT Z kf.1 rk λt=>?_);unfold dictSetHashed
 try with_reducible refine E6 ?_
 refine p0 (rS (s:={ s with toks:=t }) Z F J Y kf rk ?_);rcases e:fX kvs k with _|i
 .refine p0 (R4 (wpAny_updateDictKeys (hz:=O) (s:={ s with toks:=t }) F rfl (h t _ _ _ (E5 _ F rfl) ?_ (G0 ..))));rw[cQ (iO e),Array.toList_push];exact J.push rk rfl rv
 .refine ah (dS e) λu hv _=>?_;refine p0 (R4 (p0 (wpAny_updateDict (s:={ s with toks:=t }) F rfl (wpAny_point (h t _ _ _ (E5 _ F rfl) ?_ (G0 ..))))));rw[kJ Y.1 e hv];obtain G:=J.set hv rv;obtain⟨l⟩:=es;simpa using G
theorem yC{d:Addr}{v:V}{Q:a9}(O:A.units+8<cLine)(D:DAt L s.heap d kvs)(Z:keyFits kvs k)(rk:VR L.sa s.heap k ck)(rv:VR L.sa s.heap v cv) (hz:kvs.length<=sizeLine) (h1:∀t u c,ax kvs k=some u->VR L.sa s.heap u c->Q c { s with toks:=t }) (h2:∀t h' B n',ax kvs k=none->h'.get? d=some (bg B n')->ER L s.heap (kvs++[(k,v)]) B.toList->Heap.SameBut d s.heap h'->Q cv { s with heap:=h',toks:=t }) : a8 L A (dictSetDefault d ck cv) Q E s:=by
 refine bN D λes n G F dk=>?_;obtain J:es.size<=sizeLine:=by rw[F.toksize];exact hz
 unfold dictSetDefault
 try with_reducible refine E6 ?_
 refine p0 (rT O Z.1 rk λt=>p0 (rS (s:={ s with toks:=t }) O G F dk Z rk ?_));rcases e:fX kvs k with _|i
 .refine p0 (R4 (p0 (wpAny_updateDictKeys (hz:=J) (s:={ s with toks:=t }) G rfl (u4 (h2 t _ _ _ (iO e) (E5 _ G rfl) ?_ (G0 ..))))));rw[Array.toList_push];exact F.push rk rfl rv
 .refine ah (dS e) λu Y _=>?_;refine wh (F.get Y) λen k1 k2 k3 k4=>?_;refine p0 (SQ (s:={ s with toks:=t }) G rfl ?_)
  have:es[i]?=some en:=by rw[<- k1,A7]
  rw[this];exact p0 (R4 (u4 (h1 t u _ (fR e Y) k4)))
theorem CZ{d:Addr}{v:V}{Q:Option DictEntry->Shared->Prop}(Z:A.units+8<cLine)(D:DAt L s.heap d kvs)(rk:VR L.sa s.heap k ck)(hv:ax kvs k=some v) (hz:kvs.length<=sizeLine) (h:∀t h' B n' e,VR L.sa s.heap v e.val->h'.get? d=some (bg B n')->ER L s.heap (ddel kvs k) B.toList->Heap.SameBut d s.heap h'->Q (some e) { s with heap:=h',toks:=t }) : a8 L A (Builtin.Dict.takeOut d ck) Q E s:=by
 refine bN D λes n G F J=>?_;obtain kf:=keyFits.of J hv;have O:es.size<=sizeLine:=by rw[F.toksize];exact hz
 refine ah (eR hv) λi e1 e2=>?_;unfold Builtin.Dict.takeOut
 try with_reducible refine E6 ?_
 refine p0 (rT Z kf.1 rk λt=>p0 (rS (s:={ s with toks:=t }) Z G F J kf rk ?_));rw[e1];refine wh (F.get e2) λY k1 k2 k3 k4=>?_;refine p0 (SQ (s:={ s with toks:=t }) G rfl ?_)
 have:es[i]?=some Y:=by rw[<- k1,A7]
 rw[this];refine p0 (wpAny_updateDictKeys (hz:=O) (s:={ s with toks:=t }) G rfl (u4 (h t _ _ _ Y k4 (E5 _ G rfl) ?_ (G0 ..))));rw[xO J.1 e2];obtain this:=F.erase i;obtain⟨l⟩:=es;simpa using this
theorem oC{d:Addr}{Q:b7}(G:A.units+9<cLine)(D:DAt L s.heap d kvs)(hd:(d==sysModules)=false)(F:keyFits kvs k)(rk:VR L.sa s.heap k ck) (h:∀t,Q (ax kvs k).isSome { s with toks:=t }):a8 L A (contains (.ref d) ck) Q E s:=by
 obtain hT:=D.typeIs;unfold contains
 try with_reducible refine E6 ?_
 refine p0 (SF hT slot_dict_contains.lookup ?_);rw[if_neg (by rw[beq_builtin_none];exact C7)];refine p0 (wpAny_callSpecialUnlessNone?_slot (name:=Str.ofString "__contains__") hT slot_dict_contains
  (G1 slot_dict_contains hT entry_dict_contains ?_ (args_dict_contains _ _)))
 show wpAny _ _ (dictGet d ck >>= _) _ _ s;refine p0 (vJ (A:=A.in1) (by assumption) D F rk λt B r=>?_);obtain h':=h t;cases hf:ax kvs k with
 |some v =>
  rw[hf]at r h';rcases B with _|c
  .exact r.elim
  .exact u4 (af _ rfl (N8 h'))
 |none =>
  rw[hf]at r h';cases B with
  |some c=>exact r.elim
  |none =>exact p0 (wpAny_pendingKey_other hd (u4 (af _ rfl (N8 h'))))
def yE{d:Addr}{Q:a9}(B:A.units+9<cLine)(D:DAt L s.heap d kvs)(hd:(d==sysModules)=false)(F:keyFits kvs k)(rk:VR L.sa s.heap k ck) (h:∀t,Q (.bool (ax kvs k).isSome) { s with toks:=t }):a8 L A (compareOp .In ck (.ref d)) Q E s:=by exact p0 (oC B D hd F rk λt=>u4 (h t))
def rV{d:Addr}{Q:a9}(B:A.units+9<cLine)(D:DAt L s.heap d kvs)(hd:(d==sysModules)=false)(F:keyFits kvs k)(rk:VR L.sa s.heap k ck) (h:∀t,Q (.bool (!(ax kvs k).isSome)) { s with toks:=t }):a8 L A (compareOp .NotIn ck (.ref d)) Q E s:=by exact p0 (oC B D hd F rk λt=>u4 (h t))
theorem oD{d:Addr}{v:V}{Q:a9}(J:A.units+9<cLine)(D:DAt L s.heap d kvs)(rk:VR L.sa s.heap k ck)(B:ax kvs k=some v) (h:∀t c,VR L.sa s.heap v c->Q c { s with toks:=t }):a8 L A (getItem (.ref d) ck) Q E s:=by
 have hT:=D.typeIs;have F:=keyFits.of D.choose_spec.choose_spec.2.2 B;unfold getItem
 try with_reducible refine E6 ?_
 refine p0 (wpAny_sequenceKey hT (by decide) ?_);refine p0 (J7 (name:=Str.ofString "__getitem__") hT slot_dict_getitem
  (G1 slot_dict_getitem hT entry_dict_getitem ?_ (args_dict_getitem _ _)))
 show wpAny _ _ (dictGet d ck >>= _) _ _ s;refine p0 (vJ (A:=A.in1) (by assumption) D F rk λt G r=>?_);rw[B]at r;rcases G with _|c
 .exact r.elim
 .exact u4 (af c rfl (u4 (h t c r)))
def oE{d:Addr}{v:V}{Q:b6}(J:A.units+9<cLine)(D:DAt L s.heap d kvs)(F:keyFits kvs k)(rk:VR L.sa s.heap k ck)(G:VR L.sa s.heap v cv) (hz:kvs.length<=sizeLine) (h:∀t h' B n',h'.get? d=some (bg B n')->ER L s.heap (dput kvs k v) B.toList->Heap.SameBut d s.heap h'->Q () { s with heap:=h',toks:=t }) : a8 L A (setItem (.ref d) ck cv) Q E s:=by
 obtain hT:=D.typeIs;unfold setItem
 try with_reducible refine E6 ?_
 refine p0 (wpAny_sequenceKey hT (by decide) ?_);refine p0 (J7 (name:=Str.ofString "__setitem__") hT slot_dict_setitem
  (G1 slot_dict_setitem hT entry_dict_setitem ?_ (args_dict_setitem _ _ _)))
 refine p0 (Sz hT ?_);show wpAny _ _ (dictSet d ck cv >>= _) _ _ s;exact p0 (Gj (A:=A.in1) (by assumption) D F rk G hz λt h' B n' a b c=>u4 (af .none rfl (u4 (h t h' B n' a b c))))
theorem vH{d:Addr}{dv:V}{cd:Value}{Q:a9}(O:A.units+9<cLine)(D:DAt L s.heap d kvs)(hd:(d==sysModules)=false)(G:keyFits kvs k)(rk:VR L.sa s.heap k ck)(J:VR L.sa s.heap dv cd) (h:∀t c,VR L.sa s.heap ((ax kvs k).getD dv) c->Q c { s with toks:=t }):a8 L A (call (.builtin "dict.get") [.ref d,ck,cd]) Q E s:=by
 refine G1 F.slot_dict_get D.typeIs F.entry_dict_get ?_ (F.args_dict_get_3 _ _ _);show wpAny _ _ (dictGet d ck >>= _) _ _ s;refine p0 (vJ (A:=A.in1) (by show A.units+1+8<cLine;assumption) D G rk λt B r=>?_);obtain h':=h t;cases hf:ax kvs k with
 |some v =>
  rw[hf]at r h';rcases B with _|c
  .exact r.elim
  .exact u4 (af c rfl (h' c r))
 |none =>
  rw[hf]at r h';cases B with
  |some c=>exact r.elim
  |none =>show wpAny _ _ (Builtin.Dict.missed d ck >>= _) _ _ _;exact p0 (wpAny_missed_other hd (u4 (af cd rfl (h' cd J))))
def pH{d:Addr}{v:V}{Q:a9}(Z:A.units+9<cLine)(D:DAt L s.heap d kvs)(hd:(d==sysModules)=false)(O:keyFits kvs k)(rk:VR L.sa s.heap k ck)(Y:VR L.sa s.heap v cv) (hz:kvs.length<=sizeLine) (G:∀t u c,ax kvs k=some u->VR L.sa s.heap u c->Q c { s with toks:=t }) (J:∀t h' B n',ax kvs k=none->h'.get? d=some (bg B n')->ER L s.heap (kvs++[(k,v)]) B.toList->Heap.SameBut d s.heap h'->Q cv { s with heap:=h',toks:=t }) : a8 L A (call (.builtin "dict.setdefault") [.ref d,ck,cv]) Q E s:=by refine G1 F.slot_dict_setdefault D.typeIs F.entry_dict_setdefault ?_ (F.args_dict_setdefault_3 _ _ _);refine p0 ?_;refine p0 (Sz D.typeIs ?_);refine u4 ?_;show wpAny _ _ (if(d==sysModules)=true then _ else(dictSetDefault d ck cv >>= _)) _ _ s;rw[if_neg (by rw[hd];exact C7)];exact p0 (yC (A:=A.in1) (by assumption) D O rk Y hz (λt u c a b=>u4 (af c rfl (G t u c a b))) λt h' B n' a b c d=>u4 (af cv rfl (J t h' B n' a b c d)))
def vI{d:Addr}{v:V}{Q:a9}(Y:A.units+9<cLine)(D:DAt L s.heap d kvs)(k1:cZ k=1)(rk:VR L.sa s.heap k ck)(O:ax kvs k=some v) (hz:kvs.length<=sizeLine) (h:∀t h' B n' c,VR L.sa s.heap v c->h'.get? d=some (bg B n')->ER L s.heap (ddel kvs k) B.toList->Heap.SameBut d s.heap h'->Q c { s with heap:=h',toks:=t }) : a8 L A (call (.builtin "dict.pop") [.ref d,ck]) Q E s:=by
 have G:(keyPart ck).isSome=true:=by obtain J:=cH (db k1) rk;rcases bA J with⟨_,_,_,rfl⟩|⟨_,_,_,rfl⟩ <;> rfl
 refine G1 F.slot_dict_pop D.typeIs F.entry_dict_pop ?_ (F.args_dict_pop_2 _ _);refine p0 ?_;refine p0 (Sz D.typeIs ?_);refine u4 ?_;simp only[G,if_true];refine p0 (u4 ?_);refine p0 (CZ (A:=A.in1) (by assumption) D rk O hz λt h' B n' e a b c d=>?_);exact p0 (wpAny_letGo (u4 (af e.val rfl (h t h' B n' e.val a b c d))))
end
end
section
set_option tactic.hygienic true
theorem rL{n:Int}(h:CF vs n=some x):∃j,seqIndex? n vs.length=some j/\vs[j]?=some x/\-(vs.length:Int)<=n/\n<vs.length:=by
 unfold CF at h;unfold seqIndex?;split at h
 .rename_i h0;obtain⟨B,_⟩:=z5.mp h;refine⟨n.toNat,?_,h,by exact PJ h0,by exact PK B⟩;have e1:¬n<0:=by exact PL h0
  simp only[e1,if_false];rw[if_pos (by simp;exact PM B e1)]
 .split at h
  .rename_i h0 F;obtain⟨B,_⟩:=z5.mp h;refine⟨(vs.length+n).toNat,?_,h,by exact PN F,by exact PQ B⟩;obtain e1:n<0:=by exact PR B
   simp only[e1,if_true];rw[if_pos (by simp;exact PS F e1),Int.add_comm]
  .exact ns h
theorem qY(v:V)(pv:dz v=true):∀(vs:List V),bQ vs=true->((dO vs).any λy=>PyData.eqv y (xA v))=mw v vs
 | [],_=>rfl
 |w::vs,p=>by have p:=(G7 _ _).mp p;obtain B:=qY v pv vs p.2;unfold mw at *;simp only[dO,List.any_cons,ja p.1 pv,B]
theorem vl(p:bG vs=true):∀x∈vs,aS x=true:=by
 induction vs with
 |nil=>intro x h;exact absurd h y9
 |cons v r B =>
  have p:=(G7 _ _).mp p;intro x hx;rcases A4.mp hx with rfl|hx
  .exact p.1
  .exact B p.2 x hx
section
variable{H:AH}{A:Around}{d:Nat}{Q:b8}
def dH(hr:Room A d)(hk:k<=200):A.units+k<cLine:=by obtain B:=hr.2.2;exact PT B hk
theorem aj.same(F:ae L env loc H s.heap)(R:aD L H s.heap){d:Addr}{x x':AO}{t:Nat}{ob':Obj}(hx:H d=some x)(G:h'.get? d=some ob')(sb:Heap.SameBut d s.heap h') (r:ORel L s.heap ob' x'):aj L env H (H.set d x') s { s with heap:=h',toks:=t } :=(ay.change (s':={ s with heap:=h',toks:=t }) R rfl rfl hx (λb o B e=>(sb.2 b B).trans e) G r).toE F.lH
theorem OI(C:aJ L.toSx)(R:aD L H s.heap)(hr:Room A d){v w:V}{cw:Value}{Qb:Bool->Prop}(h:Pt H v w Qb)(Y:VR L.sa s.heap v cv)(G:VR L.sa s.heap w cw){P:a9} (B:∀b t,Qb b->P (.bool b) { s with toks:=t }):a8 L A (compareOp .In cv cw) P aG s/\a8 L A (compareOp .NotIn cv cw) (λc s'=>∃b,c=.bool (!b)/\P (.bool b) s') aG s:=by
 cases w with
 |ref b =>
  apply G.ref_el;rcases h with⟨vs,J,F,Q,q⟩|⟨kvs,J,kf,q⟩
  .refine cF (au R J) λcvs n ho ra=>?_;refine bM (Y.reads F.1) λas qa=>?_;obtain⟨bs,qb⟩:=ra.reads Q.1;obtain O:=gK v F.1;obtain lb:=iG vs Q.1;obtain Z:=F.2;obtain hu:=dH hr (k:=10) PU;exact⟨SeqAt.in_list_reads (reads_list_at ho rfl rfl qb) qa lb.1 O.1 (Lz O.2 Z hu) (by rw[qY v F.1 vs Q.1];exact B _ s.toks q),
    SeqAt.notIn_list_reads (reads_list_at ho rfl rfl qb) qa lb.1 O.1 (Lz O.2 Z hu) (by rw[qY v F.1 vs Q.1];exact(af _ rfl (B _ s.toks q)))⟩
  .obtain D:=R.dat J;obtain hs:=R.nosys C J;exact⟨yE (dH hr vu) D hs kf Y λt=>B _ t q,rV (dH hr vu) D hs kf Y λt=>(af _ rfl (B _ t q))⟩
 |str t =>
  apply G.str_el;intro t;refine jb h λaX bV q=>?_;subst aX;obtain⟨x,rfl,hx⟩:=bV;apply Y.str_el;intro u;obtain e:∀x∈aF,(Builtin.Str.occurrences (Str.ofString "()[]{},:") (Str.ofString x) 0 (Str.ofString "()[]{},:").length 1).isEmpty=true:=by decide +kernel
  refine⟨PyProof.Rows.in_str ?_,PyProof.Rows.notIn_str ?_⟩
  .rw[e x hx];exact B false s.toks q
  .rw[e x hx];exact(af false rfl (B false s.toks q))
 |_=>exact h.elim
def Cv{v:V}(B:VR L.sa s.heap v cv):plainIs cv .none=true/\(cv==.none)=cr v .none:=by
 obtain ne:∀{v:V},v≠.none->false=cr v .none:=λh=>(bo.mpr h).symm;cases v with
 |none=>apply B.none_el;exact⟨rfl,by rw[dg];rfl⟩
 |scr=>rw[B.scr_inv];exact⟨rfl,ne (V.noConfusion)⟩
 |bool b=>rw[B.bool_inv];exact⟨rfl,ne (V.noConfusion)⟩
 |int i=>apply B.int_el;intro t;exact⟨rfl,ne (V.noConfusion)⟩
 |str i=>apply B.str_el;intro t;exact⟨rfl,ne (V.noConfusion)⟩
 |ref i=>rw[B.ref_inv];exact⟨rfl,ne (V.noConfusion)⟩
 |tup i=>apply B.tup_el;intro _ _ _ _;exact⟨rfl,ne (V.noConfusion)⟩
theorem tS(C:aJ L.toSx)(F:ae L env loc H s.heap)(R:aD L H s.heap)(hr:Room A d)(op:COp){v w:V}{cw:Value}{Qb:Bool->Prop}(h:fj H op v w Qb)(J:VR L.sa s.heap v cv)(B:VR L.sa s.heap w cw){P:a9} (G:∀b t,Qb b->P (.bool b) { s with toks:=t }):a8 L A (compareOp (Ht op) cv cw) P aG s:=by
 rcases op with _|_|_|_|_|_|_|_
 .exact QM R hr h J B λb q=>G b s.toks q
 .exact QN R hr h J B λb q=>G b s.toks q
 .refine bN h λi j da dC q=>?_;subst da;subst dC;apply J.int_el;intro t;apply B.int_el;intro u;exact wpAny_lt_int (G _ s.toks q)
 .refine bN h λi j eN O q=>?_;subst eN;subst O;apply J.int_el;intro t;apply B.int_el;intro u;exact le_int (G _ s.toks q)
 .refine bN h λi j Q Y q=>?_;subst Q;subst Y;apply J.int_el;intro t;apply B.int_el;intro u;exact gt_int (G _ s.toks q)
 .obtain⟨rfl,q⟩:=h;rw[B.none_inv];obtain hp:=Cv J;exact wpAny_is_plain hp.1 (by rw[hp.2];exact G _ s.toks q)
 .exact(OI C R hr h J B G).1
 .refine z8 (OI C R hr (Qb:=λb=>Qb (!b)) (P:=λc s'=>∀b,c=.bool b->P (.bool (!b)) s') h J B (λb t q b' e=>by injection e with e;subst e;exact G _ t q)).2 ?_ λ_ _ e=>e;rintro _ s' ⟨b,rfl,q⟩;exact q b rfl
theorem OH(C:aJ L.toSx)(F:ae L env loc H s.heap)(R:aD L H s.heap)(hr:Room A d){v i:V}{ci:Value}(h:vb H Q v i)(rv:VR L.sa s.heap v cv)(ri:VR L.sa s.heap i ci) : a8 L A (getItem cv ci) (EPost L env H s Q) aG s:=by
 cases v with
 |tup vs =>obtain⟨n,x,rfl,Z,B,q⟩:=h;apply rv.tup_el;intro a cvs ht G;apply ri.int_el;intro t;refine wh (rL B) λj J h2 h3 h4=>?_;obtain⟨c,O,Y⟩:=G.get h2;have hl:cvs.size=vs.length:=G.length;exact PyProof.Rows.getItem_tuple ht (LT Z) (LX Z) (by rw[hl];exact J) (by rw[<- O];simp) (u0 R q Y)
 |str x =>
  refine cq h λhx ad=>?_;refine pe ad λn c ar h0 h3 hc q=>?_;subst ar;apply rv.str_el;intro t;apply ri.int_el;intro u;have key:∀x∈iH,∀k:Nat,k<3->∀c:Char,x.toList[k]?=some c->(seqIndex? (k:Int) (Str.ofString x).length).bind ((Str.ofString x).cps[·]?)=some c.toNat:=by
   intro x hx k hk c hc;rw[N0];obtain⟨hl,_⟩:=z5.mp hc;unfold seqIndex?;obtain e1:¬((k:Int)<0):=by exact CM
   simp only[e1,if_false];rw[if_pos (by simp[Str.length];assumption)];simp[hc]
  obtain hk:=key x hx n.toNat (PV h3) c hc;rw[show((n.toNat:Nat):Int)=n by exact PW h0]at hk;refine PyProof.Rows.getItem_str (by simp;exact PX h0 h3) hk ?_;refine t7 R q ?_;rw[show(⟨#[c.toNat]⟩:Str)=Str.ofString (String.ofList [c]) by rw[N0];simp];exact q6 _ _
 |ref a =>
  apply rv.ref_el;rcases h with⟨vs,n,x,J,rfl,Z,B,q⟩|⟨kvs,x,J,kf,hx,q⟩
  .refine cF (au R J) λcvs k ho G=>?_;apply ri.int_el;intro t;obtain hl:cvs.size=vs.length:=G.length;unfold CF at B;split at B
   .rename_i h0;refine ah (G.get B) λc O Y=>?_;exact wpAny_getItem_list (aK _ ho rfl (gV _ rfl)) h0 (LX Z) (by rw[<- O];simp) (u0 R q Y)
   .split at B
    .rename_i h0 h2;refine ah (G.get B) λc O Y=>?_;exact wpAny_getItem_list_neg (aK _ ho rfl (gV _ rfl)) (PY h0) (PZ hl h2) (LT Z) (by rw[hl,Int.add_comm,<- O];simp) (u0 R q Y)
    .exact ns B
  .exact oD (dH hr vu) (R.dat J) ri hx λt c r=>t7 R q r
 |_=>exact h.elim
def td(w:World)(x:Str):PyData.keyHash w.params x=hashStr w x:=rfl
theorem yb{v:V}{c:Value}(r:VR L.sa h v c):handedIn c=true:=by
 cases v with
 |none=>rw[r.none_inv];rfl
 |scr=>rw[r.scr_inv];rfl
 |bool b=>rw[r.bool_inv];rfl
 |int i=>apply r.int_el;intro t;rfl
 |str i=>apply r.str_el;intro t;rfl
 |ref i=>rw[r.ref_inv];rfl
 |tup i=>apply r.tup_el;intro _ _ _ _;rfl
theorem ER.isStr{k v:V}{e:DictEntry}(hk:cZ k=1)(r:VR L.sa h k e.key)(f:String):e.key.isStr (Str.ofString f)=cr k (.str f):=by
 obtain B:=cH (db hk) r;rcases bA B with⟨i,t,rfl,e'⟩|⟨x,t,rfl,e'⟩
 .rw[e',bo.mpr (V.noConfusion)];rfl
 .rw[e'];show(Str.ofString x==Str.ofString f)=_;by_cases q:x=f
  .subst q;rw[dg];simp
  .rw[bo.mpr (by intro z;injection z with z;subst z;exact q rfl),Sl]
   exactλz=>q (br z)
theorem ER.getL(f:String):∀{kvs:List (V×V)}{es:List DictEntry},ER L h kvs es->(∀p∈kvs,cZ p.1=1)->∃G,PySem.W.getL (Str.ofString f) es=some G/\QZ L.sa h (ax kvs (.str f)) G
 | [],_,x,_=>by simp[ER]at x;subst x;exact(af none rfl trivial)
 |(k,v)::r,_,x,hk=>by
  refine pe x λe es F a b c d=>?_;subst F;obtain e1:=ER.isStr (v:=v) (hk _ y4) a f;refine ah (ER.getL f d λp hp=>hk p (w9 _ hp)) λG J O=>?_;unfold PySem.W.getL at J ⊢;unfold ax at O ⊢;rw[List.find?_cons,List.find?_cons,e1];cases q:cr k (.str f)with
  |true=>exact(af (some e.val) rfl c)
  |false =>
   simp only;have e2:e.refKey=false:=by obtain B:=cH (db (hk _ y4)) a;unfold DictEntry.refKey;rcases bA B with⟨i,t,_,e'⟩|⟨x,t,_,e'⟩ <;> rw[e']
   rw[List.any_cons,e2,Bool.false_or];exact(af G J O)
theorem ER.putL(f:String){v:V}(F:VR L.sa h v cv)(t:Tok):∀{kvs:List (V×V)}{es:List DictEntry},ER L h kvs es->(∀p∈kvs,cZ p.1=1)->(kvs.map (·.1)).Nodup -> ER L h (dput kvs (.str f) v) (PySem.W.putL (Str.ofString f) (hashStr L.w (Str.ofString f)) (.str (Str.ofString f) t) cv es)
 | [],_,x,_,_=>by simp[ER]at x;subst x;rw[cQ rfl];exact(qT _ ([]) rfl (q6 _ _) (by simp[aI]) F rfl)
 |(k,u)::r,_,x,hk,nd=>by
  refine pe x λe es B a b c d=>?_;subst B;obtain e1:=ER.isStr (v:=u) (hk _ y4) a f;rw[C4,C8]at nd;unfold PySem.W.putL;rw[e1];cases q:cr k (.str f)with
  |true =>
   obtain this:=(aO _ _).mp q;subst this;obtain h0:fX ((.str f,u)::r) (.str f)=some 0:=by unfold fX;rw[List.findIdx?_cons];simp[dg]
   rw[kJ (by rw[C4,C8];exact nd) h0 rfl];exact(qT _ es rfl a b F d)
  |false =>
   obtain G:=ER.putL f F t d (λp hp=>hk p (w9 _ hp)) nd.2
   have:dput ((k,u)::r) (.str f) v=(k,u)::dput r (.str f) v:=by
    unfold dput;rw[List.any_cons,q,Bool.false_or];split
    .rw[C4,q];rfl
    .rfl
   rw[this];exact(qT e _ rfl a b c G)
theorem tP(n:Str)(hs:Int)(k v:Value)(es:List DictEntry):(PySem.W.putL n hs k v es).length<=es.length+1:=by
 induction es with
 |nil=>simp[PySem.W.putL]
 |cons e r B=>unfold PySem.W.putL;split <;> simp <;> assumption
theorem kI{a:Addr}(R:aD L H h)(e:H a=some (.dict kvs)):∃es n,h.get? a=some (dictOf es n)/\ER L h kvs es/\dictOK kvs:=by refine bN (cu R e) λes n B F G=>?_;exact(bF es.toList n (by simpa using B) F G)
def nG{a:Addr}(R:aD L H h){c:String}(e:H a=some (.inst c dx)):∃C,L.cls c=some C/\h.get? a=some (instObj C dx):=by refine ah (R.obj a _ e) λob G B=>?_;refine ah B λC J F=>?_;subst F;exact(af C J G)
theorem aD.kin(C:aJ L.toSx)(R:aD L H h):L.K.In h:=C.kin.keeps R.base
theorem dictOK.str(d:dictOK kvs){f:String}{v:V}(h:ax kvs (.str f)=some v):∀p∈kvs,cZ p.1=1:=λp hp=>(keyFits.of d h).2 p hp
theorem Gh(C:aJ L.toSx)(F:ae L env loc H s.heap)(R:aD L H s.heap){v:V}{f:String}{b:Bool}(h:zj H Q L.toSx v f)(rv:VR L.sa s.heap v cv) : a8 L A (getAttr cv (Str.ofString f) b) (EPost L env H s Q) aG s:=by
 refine RR h λa c dx kvs x B Y Z h3 G q=>?_;subst B;apply rv.ref_el;refine ah (nG R Y) λD hD ho=>?_;refine bN (kI R h3) λes n hd O J=>?_;obtain K:=C.fld c D f hD Z;refine ah (ER.getL f O (J.str G)) λoc l1 l2=>?_;rw[G]at l2;rcases oc with _|cx
 .exact l2.elim
 .refine ah K.nf λattr n1 n2=>?_;exact get_value (aD.kin C R) ⟨ho,rfl,rfl,hd⟩ (plainGet_of K.g).1 (findObj_own (od:=dictOf es n) K.hd n1 n2 ((lookIn_dict _ es n).trans l1)) (yb l2) (t7 R q l2)
theorem yG(C:aJ L.toSx)(F:ae L env loc H s.heap)(R:aD L H s.heap){a:Addr}{c f:String}{v:V}{P:b6}(h1:H a=some (.inst c dx))(h2:f∈L.flds c) (B:H dx=some (.dict kvs)) (hk:∀p∈kvs,cZ p.1=1) (hz:kvs.length<=500) (rv:VR L.sa s.heap v cv) (hP:∀s',aj L env H (H.set dx (.dict (dput kvs (.str f) v))) s s'->P () s') : a8 L A (setAttr (.ref a) (Str.ofString f) cv) P aG s:=by
 refine ah (nG R h1) λD hD ho=>?_;refine bN (kI R B) λes n hd Q Y=>?_;obtain K:=C.fld c D f hD h2;refine ah (ER.getL f Q hk) λoc l1 l2=>?_;refine ah (F.fr R) λm hm O=>?_;obtain G:(dx,(dictOf es n:Obj))∈cI L.base env.locals s.heap:=gx.mpr ⟨hd,(λz=>by rw[z,F.lH]at B;exact ns B),R.fresh _ _ B⟩;refine bR (wf (o':=dictOf (PySem.W.putL (Str.ofString f) (PyData.keyHash L.w.params (Str.ofString f)) (.str (Str.ofString f) (s.toks+1)) cv es) (putN (Str.ofString f) es n)) G) λnews' U m1 m2=>?_;obtain hl:=Q.length;refine W.set_dict O C.kin bw ⟨ho,rfl,rfl,hd⟩ rfl K.st K.po K.tk K.hd (by rw[l1];rfl) rfl U ?_ λh' Z N'=>hP _ ?_
 .obtain J:=tP (Str.ofString f) (PyData.keyHash L.w.params (Str.ofString f)) (.str (Str.ofString f) (s.toks+1)) cv es;exact Qa hl J hz
 .refine aj.updNews F R hm Z N' m2 m1 B (bF _ _ rfl ?_ (Y.dput (k:=.str f) ⟨by show(1:Nat)≠0;exact Qc,λp hp=>hk p hp⟩ v));rw[List.toList_toArray,td];exact ER.putL f rv _ Q hk Y.1
end
end
section
variable{a:Addr}
set_option tactic.hygienic true
section
variable{H:AH}{A:Around}{d:Nat}{Q:b8}
theorem mR:∀{cvs:List Value}{ns:List Int},IntsAre cvs ns->VRs L.sa h (ns.map .int) cvs
 |_,_,.nil=>.nil
 |_,_,.cons n t r=>.cons (q5 n t) (mR r)
theorem nH:∀{cvs:List Value}{ns:List Int},VRs L.sa h (ns.map .int) cvs->IntsAre cvs ns
 |cvs,[],x=>x.nil_inv▸.nil
 |cvs,n::ns,x=>by refine bN (VRs.cons_inv x) λc r aX a b=>?_;subst aX;apply a.int_el;intro t;exact .cons n t (nH b)
theorem VRs.set:∀{vs:List V}{cs:List Value},VRs L.sa h vs cs->∀(i:Nat){v:V}{c:Value},VR L.sa h v c->VRs L.sa h (vs.set i v) (cs.set i c)
 | [],_,x,i,_,_,_=>by rw[x.nil_inv];exact VRs.nil
 |_::_,_,x,0,_,_,r=>by refine bN x.cons_inv λc cs bV a b=>?_;subst bV;exact .cons r b
 |_::_,_,x,i+1,_,_,r=>by refine bN x.cons_inv λc cs da a b=>?_;subst da;exact .cons a (VRs.set b i r)
def BR:Option Nat->Value->Prop
 |none,c=>c=.none
 |some n,c=>∃t,c=.int n t
theorem BR.part{o:Option Nat}{c:Value}(h:BR o c):IsPart c (o.map λ(n:Nat)=>(n:Int)):=by
 rcases o with _|n
 .subst h;exact .none
 .refine bM h λt aX=>?_;subst aX;exact .int _ _
theorem OM(C:aJ L.toSx)(F:ae L env loc H s.heap)(R:aD L H s.heap){v:V}{lc hc:Value}{lo hi:Option Nat}{sl:Addr}(h:GD H Q L.toSx v lo hi)(rv:VR L.sa s.heap v cv)(hs:s.heap.IsSliceOf sl lc hc .none)(Y:BR lo lc)(O:BR hi hc) : a8 L A (getItem cv (.ref sl)) (EPost L env H s Q) aG s:=by
 cases v with
 |tup vs =>refine QT h λG J eN zq6 q=>?_;subst eN;subst zq6;apply rv.tup_el;intro a cvs ht ra;obtain⟨t,rfl⟩:=Y;obtain rfl:hc=.none:=O;obtain hl:cvs.size=vs.length:=ra.length;refine getItem_tuple_from ht hs Qd (Qe hl J) ?_ (by rw[I9];exact FT hl G);exact EPost.tuple F R (k:=s.toks) q (ra.drop 1)
 |str x =>
  refine Dz h λhx zq8 zq9 q=>?_;subst zq8;subst zq9;apply rv.str_el;intro t;obtain rfl:lc=.none:=Y;obtain⟨u,rfl⟩:=O;refine wpAny_getItem_str_slice (l:=none) (u:=some (((1:Nat):Int),u)) (st:=none) hs rfl ?_;obtain key:∀x∈iH,(Builtin.Str.strSliceIndices none (some ((1:Nat):Int)) 1 (Str.ofString x).length=[0])/\(if(1==(Str.ofString x).length)=true then Str.ofString x else⟨([0].filterMap ((Str.ofString x).cps[·]?)).toArray⟩)=Str.ofString (String.ofList (x.toList.take 1)) /\
    (⟨([0].filterMap ((Str.ofString x).cps[·]?)).toArray⟩:Str).length<=1:=by decide +kernel
  refine jb (key x hx) λk1 k2 k3=>?_;unfold sliceMade;have e:slicePicked (Str.ofString x) none (some (((1:Nat):Int),u)) none=[0]:=k1;rw[e];show(if((1:Int)==1&&([0]:List Nat).length==(Str.ofString x).length)=true then _ else _:Made).post _ _;rw[beq_self_eq_true,Bool.true_and,J8];split
  .rename_i hh;rw[if_pos hh]at k2;rw[k2];exact u0 R q (q6 _ _)
  .rename_i hh;rw[if_neg hh]at k2;rw[k2];refine⟨by rw[<- k2];exact s7 k3 (by rw[I9];exact Qf),t7 R q (q6 _ _)⟩
 |scr =>
  obtain⟨rfl,n,rfl,hn,q⟩:=h;rw[rv.scr_inv];refine ah C.scr λcvs hl hi=>?_;refine bR hl λo G J B=>?_;refine bM B λk h3=>?_;obtain Z:s.heap.IsList L.sad cvs:=(aK o (R.base _ _ G) J (gV k h3));refine wpAny_getItem_list_slice Z hs Y.part O.part .none (by decide) ?_ ?_
  .rw[kms_pick_eq];refine EPost.push F R (k:=s.toks) (x:=.list ((L.svs.take n).map .int)) q (ey _ 0 rfl ?_);rw[List.toList_toArray,List.map_take]
   have:kms_pick cvs.toList (none.map λ(n:Nat)=>(n:Int)) ((some n).map λ(n:Nat)=>(n:Int))=cvs.toList.take n:=by
    unfold kms_pick;simp only[Option.map_none,Option.map_some];unfold kms_lo kms_hi;obtain e1:¬(((n:Nat):Int)<0):=by exact CM
    simp only[e1,if_false,Int.toNat_natCast,List.drop_zero,Nat.sub_zero];rcases D3 n cvs.toList.length with hh|hh
    .rw[Q7 hh]
    .rw[P9 hh,List.take_of_length_le (z7 _),List.take_of_length_le hh]
   rw[this];exact(mR hi).take n
  .exact C.scrz cvs (aK o G J (gV k h3))
 |_=>exact h.elim
theorem oH(F:ae L env loc H s.heap)(R:aD L H s.heap){i:Int}{v:V}{B:Value}{P:b6}(G:H a=some (.list vs))(h0:0<=i)(J:i<vs.length)(Y:vs.length<2^60) (Z:VR L.sa s.heap (.int i) B) (rv:VR L.sa s.heap v cv) (Q:∀s',aj L env H (H.set a (.list (vs.set i.toNat v))) s s'->P () s'):a8 L A (setItem (.ref a) B cv) P aG s:=by refine cF (au R G) λcvs n O rs=>?_;apply Z.int_el;intro t;obtain hl:cvs.size=vs.length:=rs.length;refine ki_setAt O h0 (Qg J Y) (Qh hl J) (Q _ (aj.same F R (t:=s.toks) G (E5 _ O rfl) (G0 ..) (ey _ _ rfl ?_)));rw[Array.toList_setIfInBounds];exact rs.set _ rv
def oF(C:aJ L.toSx)(F:ae L env loc H s.heap)(R:aD L H s.heap)(hr:Room A d){k v:V}{P:b6}(B:H a=some (.dict kvs))(G:keyFits kvs k)(hz:kvs.length<2^20) (rk:VR L.sa s.heap k ck) (Q:VR L.sa s.heap v cv) (O:∀s',aj L env H (H.set a (.dict (dput kvs k v))) s s'->P () s'):a8 L A (setItem (.ref a) ck cv) P aG s:=by have D:=R.dat B;exact oE (dH hr vu) D G rk Q (by rw[I9];exact Qi hz) λt h' J n' x y z=>O _ (aj.same F R B x z (bF _ _ rfl y ((D.choose_spec.choose_spec.2.2).dput G v)))
theorem yk(F:ae L env loc H s.heap)(R:aD L H s.heap){c:Value}(G:H a=some (.list vs))(hz:vs.length<2^20)(q:Q .none (H.set a (.list (vs++[x]))))(J:VR L.sa s.heap x c) : a8 L A (call (.builtin "list.append") [.ref a,c]) (EPost L env H s Q) aG s:=by refine cF (au R G) λcvs n B rs=>?_;exact call_meets PySem.F.slot_list_append (af _ B rfl) PySem.F.entry_list_append (PySem.F.args_list_append_2 _ _) (PySem.AutoListH.list_append_list_val_0 a cvs n c (Qj rs.length hz I9)) ⟨B,(bF _ _ q p8 (aj.same F R G (E5 _ B rfl) (G0 ..) (ey _ _ rfl (by rw[Array.toList_push];exact rs.append (VRs.one J)))))⟩
theorem yl(F:ae L env loc H s.heap)(R:aD L H s.heap){b:Addr}{ws:List V}(Z:H a=some (.list vs))(h2:H b=some (.list ws))(hz:vs.length+ws.length<=2^20)(q:Q .none (H.set a (.list (vs++ws)))) : a8 L A (call (.builtin "list.extend") [.ref a,.ref b]) (EPost L env H s Q) aG s:=by
 refine cF (au R Z) λcvs n O rs=>?_;refine cF (au R h2) λB n' Y J=>?_;obtain hl:cvs.size=vs.length:=rs.length;obtain G:B.size=ws.length:=J.length;exact call_meets PySem.F.slot_list_extend (af _ O rfl) PySem.F.entry_list_extend (PySem.F.args_list_extend_2 _ _) (PySem.AutoSeq1.list_extend_list_list_0 a cvs n b B n' (by rw[show Builtin.List.listTooLong (cvs.size+B.size)=false from E2 (Nat.not_lt.mpr (Qm hz hl G I9))];simp) (Qk hz hl I9) (Ql hz hl G I9))
  (cO O Y (bF _ _ q p8 (aj.same F R Z (E5 _ O rfl) (G0 ..) (ey _ _ rfl (by rw[Array.toList_append];exact rs.append J)))))
theorem FK(F:ae L env loc H s.heap)(R:aD L H s.heap){ws:List V}(J:H a=some (.list (ws++[x])))(hz:(ws++[x]).length<=2^20)(q:Q x (H.set a (.list ws))) : a8 L A (call (.builtin "list.pop") [.ref a]) (EPost L env H s Q) aG s:=by
 refine cF (au R J) λcvs n G rs=>?_;obtain hl:cvs.size=ws.length+1:=rs.length.trans A6;refine ah (rs.get (i:=ws.length) (v:=x) List.getElem?_concat_length) λc e1 Y=>?_;have O:(cvs.eraseIdxIfInBounds (cvs.size-1)).toList=cvs.toList.take ws.length:=by rw[hl];obtain⟨l⟩:=cvs;have B:l.length=ws.length+1:=hl;simp;rw[List.eraseIdx_eq_take_drop_succ,List.drop_of_length_le (Qo B)];simp
 obtain S:aj L env H (H.set a (.list ws)) s { s with heap:=s.heap.update a (Obj.mapSeq λxs=>xs.eraseIdxIfInBounds (cvs.size-1)),toks:=s.toks }:=aj.same F R (t:=s.toks) J (E5 _ G rfl) (G0 ..) (ey _ _ rfl (by rw[O];simpa using rs.take ws.length));exact call_meets PySem.F.slot_list_pop (af _ G rfl) PySem.F.entry_list_pop (PySem.F.args_list_pop_1 _) (PySem.MeetsSeq.list_pop_last a cvs n c (by rw[hl,<- e1];simp) (Qn rs.length hz I9)) ⟨G,(bF _ _ q (Y.keep S.st.tup) S)⟩
theorem Ah(F:ae L env loc H s.heap)(R:aD L H s.heap)(hr:Room A d){c:Value}(h1:H a=some (.list vs))(kx:aS x=true)(dx:aB x<=8)(ks:bG vs=true)(hz:vs.length<=2^20)(hi:vs.findIdx? (λy=>cr y x)=some i)(q:Q (.int i) H)(rx:VR L.sa s.heap x c) : a8 L A (call (.builtin "list.index") [.ref a,c]) (EPost L env H s Q) aG s:=by
 refine cF (au R h1) λcvs n ho rs=>?_;obtain hl:cvs.size=vs.length:=rs.length;refine ah (Q0.mp hi) λJ hit hno=>?_;have key:∀(j:Nat)(G:j<cvs.size)(B:j<vs.length),VR L.sa s.heap (vs[j]) (cvs[j]):=by intro j G B;refine ah (rs.get (i:=j) (v:=vs[j]) (E4 B)) λc' h1 h2=>?_;rw[A7,L6 G]at h1;obtain rfl:=w8 h1;exact h2
 obtain km:=vl ks;have O:∀(j:Nat)(G:j<cvs.size)(B:j<vs.length),@decide (VR L.sa s.heap x (cvs[j])) (Classical.propDecidable _)=cr (vs[j]) x:=by
  intro j G B;rcases e:cr (vs[j]) x with _|_
  .exact @decide_eq_false _ (Classical.propDecidable _) λz=>bo.mp e (VR.inj (km _ (List.getElem_mem B)) kx (key j G B) z)
  .obtain Z:=(aO _ _).mp e;exact @decide_eq_true _ (Classical.propDecidable _) (Z▸key j G B)
 refine call_meets PySem.F.slot_list_index (af _ ho rfl) PySem.F.entry_list_index (PySem.F.args_list_index_2 _ _)
  (PySem.SeqAt.list_indexAt a cvs n none #[] c (λy=>@decide (VR L.sa s.heap x y) (Classical.propDecidable _)) i (by exact yq hl J) (by exact NR hz J) (by rw[O i (by exact yq hl J) J];exact hit)
   (λm hm Y=>by rw[O m hm (by exact FU Y J)];simpa using hno m Y)) (cO ho ?_ (t6 R q))
 intro y hy prog w E Q' hq;obtain⟨j,G,rfl⟩:=Array.mem_iff_getElem.mp hy;rw[O j G (by exact yr hl G)]at hq;obtain hu:=dH hr (k:=20) (by exact NS);refine VR.eqBool (bt _ (km _ (List.getElem_mem (by exact yr hl G)))) (bt _ kx) (by exact NT dx hu) (key j G (by exact yr hl G)) rx hq
def xk(C:aJ L.toSx)(F:ae L env loc H s.heap)(R:aD L H s.heap)(hr:Room A d){v:V}{m:String}{args:List V}{B:List Value}(h:nN H Q v m args)(rv:VR L.sa s.heap v cv)(O:VRs L.sa s.heap args B) : a8 L A (call (.builtin ("list."++m)) (cv::B)) (EPost L env H s Q) aG s:=by
 obtain⟨a,vs,rfl,J,h⟩:=h;apply rv.ref_el;rcases h with⟨rfl,x,rfl,hz,q⟩|⟨rfl,b,ws,rfl,Z,Y,hz,q⟩|⟨rfl,ws,x,rfl,rfl,hz,q⟩|⟨rfl,x,i,rfl,kx,dx,ks,hz,hi,q⟩
 .apply O.one_el;intro c G;exact yk F R J hz q G
 .apply O.one_el;intro c G;apply G.ref_el;exact yl F R J Y hz q
 .apply O.nil_el;exact FK F R J hz q
 .apply O.one_el;intro c G;exact Ah F R hr J kx dx ks hz hi q G
theorem xP(C:aJ L.toSx)(F:ae L env loc H s.heap)(R:aD L H s.heap)(hr:Room A d){k dv:V}{J O:Value}(G:H a=some (.dict kvs))(Y:keyFits kvs k)(hz:kvs.length<2^20) (q:Q ((ax kvs k).getD dv) (match ax kvs k with|some _=>H|none=>H.set a (.dict (kvs++[(k,dv)])))) (r1:VR L.sa s.heap k J) (Z:VR L.sa s.heap dv O) : a8 L A (call (.builtin "dict.setdefault") [.ref a,J,O]) (EPost L env H s Q) aG s:=by
 obtain D:=R.dat G;refine pH (dH hr vu) D (R.nosys C G) Y r1 Z (Ot I9 hz) (λt u c B r=>?_) λt h' ad n' B x y z=>?_
 .rw[B]at q;exact t7 R q r
 .rw[B]at q;obtain S:=aj.same (x':=.dict (kvs++[(k,dv)])) (t:=t) F R G x z (bF _ _ rfl y (by rw[<- cQ B];exact D.choose_spec.choose_spec.2.2.dput Y dv));exact(bF _ _ q (Z.keep S.st.tup) S)
def Fw(C:aJ L.toSx)(F:ae L env loc H s.heap)(R:aD L H s.heap)(hr:Room A d){k:V}{B:Value}(G:H a=some (.dict kvs))(k1:cZ k=1)(hz:kvs.length<2^20)(hx:ax kvs k=some x) (q:Q x (H.set a (.dict (ddel kvs k)))) (O:VR L.sa s.heap k B):a8 L A (call (.builtin "dict.pop") [.ref a,B]) (EPost L env H s Q) aG s:=by have D:=R.dat G;refine vI (dH hr vu) D k1 O hx (Ot I9 hz) λt h' J n' c Y x y z=>?_;obtain S:=aj.same (x':=.dict (ddel kvs k)) (t:=t) F R G x z (bF _ _ rfl y (D.choose_spec.choose_spec.2.2.ddel k));exact(bF _ _ q (Y.keep S.st.tup) S)
theorem CY(C:aJ L.toSx)(F:ae L env loc H s.heap)(R:aD L H s.heap)(hr:Room A d){v:V}{m:String}{args:List V}{B:List Value}(h:DI H Q v m args)(rv:VR L.sa s.heap v cv)(Z:VRs L.sa s.heap args B) : a8 L A (call (.builtin ("dict."++m)) (cv::B)) (EPost L env H s Q) aG s:=by
 obtain⟨a,kvs,rfl,J,h⟩:=h;apply rv.ref_el;rcases h with⟨rfl,k,dv,rfl,O,q⟩|⟨rfl,k,dv,rfl,O,hz,q⟩|⟨rfl,k,x,rfl,k1,hz,hx,q⟩
 .apply Z.two_el;intro c1 c2 G Y;exact vH (dH hr vu) (R.dat J) (R.nosys C J) O G Y λt c r=>t7 R q r
 .apply Z.two_el;intro c1 c2 G Y;exact xP C F R hr J O hz q G Y
 .apply Z.one_el;intro c1 G;exact Fw C F R hr J k1 hz hx q G
def yF(R:aD L H s.heap){v:V}(h:∃x,v=.str x/\x∈aF)(q:Q (.bool false) H)(F:VR L.sa s.heap v cv):a8 L A (call (.builtin "str.isspace") [cv]) (EPost L env H s Q) aG s:=by
 refine ah h λx B hx=>?_;subst B;apply F.str_el;intro t;obtain key:∀x∈aF,Txt.isspace (Str.ofString x)=false:=by decide +kernel
 exact SC.isspace (by rw[key x hx];exact u0 R q (p9 _))
end
end
section
variable{a:Addr}
section
variable{H:AH}{A:Around}{d:Nat}{Q:b8}
theorem ub:∀{kvs:List (V×V)}{es:List DictEntry},ER L h kvs es->bI kvs->∃B:List (V×Value),B.map (·.1)=kvs.map (·.1)/\VRs L.sa h (kvs.map (·.2)) (B.map (·.2)) /\ @Pairs L.prog L.w V bU (bB L.prog L.w) es B/\∀e∈es,∃k,kq k e.key=true/\e.hash=aI L.w k
 | [],_,x,_=>by simp[ER]at x;subst x;exact(jK ([]) rfl .nil (@Pairs.nil L.prog L.w V bU _) (λ_ h=>absurd h y9))
 |(k,v)::r,_,x,hk=>by
  refine pe x λe es aX a b c d=>?_;subst aX;refine wh (ub d λp hp=>hk p (w9 _ hp)) λB G J O Q=>?_;have hs:=cH (db (hk _ y4)) a;refine(jK ((k,e.val)::B) (by simp[G]) (VRs.cons c J) (@Pairs.cons L.prog L.w V bU _ e (k,e.val) es B hs rfl O) (λe' F=>?_));rcases A4.mp F with rfl|F
  .exact(af k hs b)
  .exact Q e' F
theorem xo{F:Addr}{es:Array DictEntry}{n:Nat}(ho:h.get? F=some (bg es n))(O:ER L h kvs es.toList)(J:dictOK kvs)(sk:bI kvs) : ∃B:List (V×Value),B.map (·.1)=kvs.map (·.1)/\VRs L.sa h (kvs.map (·.2)) (B.map (·.2))/\@Heap.DictAt L.prog L.w V bU (bB L.prog L.w) h F B n:=by refine wh (ub O sk) λB G Q Y Z=>?_;exact(aK B G Q (QW _ es ho (cO rfl rfl rfl) rfl (λe he=>Z e (P6.mpr he)) Y (by rw[G];exact J.1)))
theorem rY{F:List (V×Value)}{es:List DictEntry}(P:@Pairs L.prog L.w V bU (bB L.prog L.w) es F)(hk:∀e∈es,∃k,kq k e.key=true/\e.hash=aI L.w k) : ∀{kvs:List (V×V)},F.map (·.1)=kvs.map (·.1)->VRs L.sa h (kvs.map (·.2)) (F.map (·.2))->ER L h kvs es:=by
 induction P with
 |nil=>intro kvs e1 _;cases kvs with|nil=>rfl|cons _ _=>simp at e1
 |@cons e kv es O hi Y P Z =>
  intro kvs e1 hr;rcases kvs with _|⟨p,r⟩
  .simp at e1
  .obtain⟨k,v⟩:=p;simp only[List.map_cons,List.cons.injEq]at e1;refine bN (VRs.cons_inv hr) λc cs e2 r1 r2=>?_;simp only[List.map_cons,List.cons.injEq]at e2;refine ah (hk e y4) λk' G J=>?_;obtain B:kv.1=k':=@KeyKind.inj _ _ V bU (bB L.prog L.w) _ _ _ hi G;refine(qT e es rfl ?_ (by rw[J,<- B,e1.1]) (by rw[Y,e2.1];exact r1) (Z (λe Q=>hk e (w9 _ Q)) e1.2 (by rw[e2.2];exact r2)));obtain B:=js (sa:=L.sa) (h:=h) hi;rw[e1.1]at B;exact B
theorem ki(F:ae L env loc H s.heap)(R:aD L H s.heap){m:Str->Option Value}(hm:s.heap.Ns env.locals m){tk:Nat}{D:Addr}{n:Nat} (G:Fr L.base env.locals h' m) (B:News L.base env.locals h' ((D,cy cvs.toArray n)::cI L.base env.locals s.heap)) (lt:∀p∈cI L.base env.locals s.heap,p.1<D) (r:VRs L.sa h' vs cvs) (q:fresh H Q (.list vs)):EPost L env H s Q (.ref D) { s with heap:=h',toks:=tk }:=by obtain nd:=B _ (.head _);obtain O:=ia R nd.2.1 nd.2.2 lt;refine cq (s0 F R hm (tk:=tk) G B (λp hp=>.tail _ hp) (.head _) O (x:=.list vs) (ey _ n rfl r)) λS J=>?_;exact(bF _ _ (q _ J) (q7 _) S)
def Gd{H:AH}{Q:b8}{v:V}(h:iA H Q .len v):(∃a,v=.tup a)\/∃a,v=.ref a:=by
 cases v with
 |tup a=>exact .inl ⟨a,rfl⟩
 |ref a=>exact .inr ⟨a,rfl⟩
 |_=>exact False.elim h
theorem OJ(F:ae L env loc H s.heap)(R:aD L H s.heap){v:V}(h:iA H Q .len v)(G:VR L.sa s.heap v cv):a8 L A (call (.builtin "len") [cv]) (EPost L env H s Q) aG s:=by
 rcases Gd h with⟨vs,rfl⟩|⟨a,rfl⟩
 .have h:vs.length<=2^20/\Q (.int vs.length) H:=h;apply G.tup_el;intro a cvs ht B;obtain hl:cvs.size=vs.length:=B.length;exact PyProof.Rows.len_tuple ht (Qq hl h.1) (by rw[hl];exact t6 R h.2)
 .apply G.ref_el;refine bR h λvs J O q=>?_;refine cF (au R J) λcvs n Y B=>?_;obtain hl:cvs.size=vs.length:=B.length;exact PySem.Calls.call_len_list (aK _ Y rfl (gV _ rfl)) (Qr hl O) (by rw[hl];exact t6 R q)
theorem ON(F:ae L env loc H s.heap)(R:aD L H s.heap)(hr:Room A d){ns:List Int}(h:H a=some (.list (ns.map .int)))(q:Q (.int ns.sum) H) : a8 L A (call (.builtin "sum") [.ref a]) (EPost L env H s Q) aG s:=by refine cF (au R h) λcvs n O Y=>?_;refine ah (F.fr R) λm hm B=>?_;refine PyProof.Rows.LSm.sum_ints (vs:=cvs.toList) B bw hr.1 (aK _ O rfl (gV n (by rfl))) (nH Y) λh' tk t' G J=>?_;exact(bF _ _ q (q5 _ _) (r9 F R hm G J λp hp=>hp))
theorem OK(F:ae L env loc H s.heap)(R:aD L H s.heap)(hr:Room A d){i:Int}{ns:List Int}(h:H a=some (.list ((i::ns).map .int)))(q:∀M,M∈i::ns->(∀x∈i::ns,x<=M)->Q (.int M) H) : a8 L A (call (.builtin "max") [.ref a]) (EPost L env H s Q) aG s:=by refine cF (au R h) λcvs n Z ra=>?_;refine ah (F.fr R) λm hm G=>?_;refine kso_max (vs:=cvs.toList) G bw (aK _ Z rfl (gV n (by simp))) (nH ra) (by simp) hr.1 λh' M t tk J O Y B=>?_;exact(bF _ _ (q M Y B) (q5 _ _) (r9 F R hm J O λp hp=>hp))
def tY(R:aD L H s.heap){c:Value}(B:VR L.sa s.heap (.tup vs) c)(q:Q (.tup vs) H):a8 L A (call (.type "tuple") [c]) (EPost L env H s Q) aG s:=by refine bN B.tup_inv λa cvs eN ht F=>?_;subst eN;exact call_tuple_tup ht (u0 R q B)
theorem rX(F:ae L env loc H s.heap)(R:aD L H s.heap)(h:H a=some (.list vs))(hz:vs.length<=16384)(q:Q (.tup vs) H) : a8 L A (call (.type "tuple") [.ref a]) (EPost L env H s Q) aG s:=by refine cF (au R h) λcvs n Y J=>?_;obtain hl:cvs.size=vs.length:=J.length;refine ah (F.fr R) λm hm G=>?_;refine kde_tupleOf G bw (aK _ Y rfl (gV n rfl)) (Qt hl hz) rfl λD h' O B lt=>?_;obtain S:=r9 F R hm (tk:=s.toks) O B λp hp=>.tail _ hp;exact(bF _ _ q (q8 (R.nx (ia R (B _ (.head _)).2.1 (B _ (.head _)).2.2 lt)) (aK _ ((B _ (.head _)).1) rfl (gV 0 rfl)) (J.keep S.st.tup)) S)
theorem Gi(C:aJ L.toSx)(F:ae L env loc H s.heap)(R:aD L H s.heap)(h:H a=some (.dict kvs))(sk:bI kvs)(hz:kvs.length<=1000)(q:fresh H Q (.dict kvs)) : a8 L A (call (.type "dict") [.ref a]) (EPost L env H s Q) aG s:=by
 letI:DecidableEq V:=bU
 refine bN (cu R h) λes n ho er Z=>?_;refine bR (xo ho er Z sk) λY h1 h2 h3=>?_;obtain hl:Y.length=kvs.length:=by obtain G:=B9 List.length h1;simpa using G
 refine kt_call_dict (R.nosys C h) h3.dictOf (by rw[I9];exact FT hl hz) λh' hd sb=>?_;refine Pb hd λo J ep O hx B hk hp hnd=>?_;obtain hn:s.heap.get? s.heap.objs.size=none:=B8 (z7 _);obtain k:∀b o,s.heap.get? b=some o->h'.get? b=some o:=λb o e=>(sb.2 b (E9 (G9 e))).trans (y6 _ e);have ob:o=bg J ep:=by obtain⟨c1,c2,c3,c4⟩:=o;obtain⟨x1,x2,x3⟩:=hx;simp only at x1 x2 x3 B;subst x1 x2 x3 B;rfl
 obtain⟨S,hH⟩:=r6 (own:=eE) (s':={ s with heap:=h',toks:=s.toks }) R rfl rfl hn k O (x:=.dict kvs)
  (bF _ _ ob (rY hp (λe he=>hk e (P6.mp he)) h1 (h2.keep (p7 k))) Z)
 exact(bF _ _ (q _ hH) (q7 _) (S.toE F.lH))
theorem Gl(F:ae L env loc H s.heap)(R:aD L H s.heap)(h:H a=some (.list vs))(hz:vs.length<=2^20)(q:fresh H Q (.list vs)) : a8 L A (call (.type "list") [.ref a]) (EPost L env H s Q) aG s:=by
 refine cF (au R h) λcvs n Y O=>?_;obtain hl:cvs.size=vs.length:=by rw[<- O.length];simp
 refine ah (F.fr R) λm hm B=>?_;refine list_copyK B bw (aK _ Y rfl (gV n rfl)) (λD c h' G J lt=>?_) (by rw[I9];exact NU hl hz);exact ki (tk:=s.toks) (n:=c) F R hm G (by exact J) lt (O.keep (r9 F R hm (tk:=s.toks) G J λp hp=>.tail _ hp).st.tup) q
theorem tV(F:ae L env loc H s.heap)(R:aD L H s.heap)(hr:Room A d){r:Addr}{n:Int}{t u w:Tok}(Z:PySem.IsRange s.heap r 0 n 1 t u w)(h0:0<=n)(hz:n<=1000)(q:fresh H Q (.list (eM n.toNat))) : a8 L A (call (.type "list") [.ref r]) (EPost L env H s Q) aG s:=by
 refine ah (F.fr R) λm hm G=>?_;have B:Builtin.Range.rangeSize 0 n 1=((n.toNat:Nat):Int):=by rw[rangeSize_one];split <;>(first|(first|exact Ou h0|exact Ov (by assumption))|omega)
 have J:Builtin.Range.small 0 n 1=true:=by delta Builtin.Range.small;rw[B];unfold Builtin.Range.rangeFitsLong;simp;exact Ow h0 hz
 refine kll_range hr.1 G bw Z J B (by exact NV hz) λD us c h' tk O Y lt hi=>?_;refine ki F R hm O Y lt ?_ q;have e:eM n.toNat=(rangeKs 0 n.toNat).map V.int:=by unfold eM rangeKs;rw[I8];apply G3;intro i _;simp
 rw[e];exact mR hi
theorem tU(F:ae L env loc H s.heap)(R:aD L H s.heap)(hr:Room A d){r dd:Addr}(hv:s.heap.IsItemsView r dd)(h:H dd=some (.dict kvs))(sk:bI kvs)(hz:kvs.length<=1000)(q:fresh H Q (.list (aV kvs))) : a8 L A (call (.type "list") [.ref r]) (EPost L env H s Q) aG s:=by
 letI:DecidableEq V:=bU
 refine bN (cu R h) λes n ho er dk=>?_;refine bR (xo ho er dk sk) λZ h1 h2 h3=>?_;have hl:Z.length=kvs.length:=by obtain ad:=B9 List.length h1;simpa using ad
 refine kdx_call hr.1 hv h3 (by rw[I9];exact FT hl hz) λh' tk acc c as k ha Y G B=>?_;obtain hn:s.heap.get? s.heap.objs.size=none:=B8 (z7 _);obtain ar:TupKeep L.sa s.heap h':=p7 k;have r:VRs L.sa h' (aV kvs) acc.toList:=by
  rw[B];have key:∀(j:Nat)(a:Addr),as[j]?=some a->∃p,kvs[j]?=some p/\VR L.sa h' (.tup [p.1,p.2]) (.ref a):=by
   intro j a ha;refine GX (G.pairs j a ha) λck J x e1 e2 e3=>?_;obtain e4:(Z.map (·.1))[j]?=some J:=by rw[B6,e1];rfl
   rw[h1,B6]at e4;refine ah (D7.mp e4) λp hp z=>?_;refine ah ((h2.keep ar).get (i:=j) (v:=p.2) (by rw[B6,hp];rfl)) λc e5 e6=>?_;rw[B6,e1]at e5;obtain rfl:=w8 e5;refine(af p hp (q8 (R.nx (B8 (D9 (G.above a (z6 ha))))) (aK _ e3 rfl (gV 0 rfl)) ?_));obtain e7:VR L.sa h' J ck:=js e2;rw[z];exact VRs.cons e7 (VRs.one e6)
  obtain O:as.length=kvs.length:=Y.trans hl;clear B ha G;have gen:∀(kvs:List (V×V))(as:List Addr),as.length=kvs.length->(∀(j:Nat)(a:Addr),as[j]?=some a->∃p,kvs[j]?=some p/\VR L.sa h' (.tup [p.1,p.2]) (.ref a))->VRs L.sa h' (kvs.map λp=>.tup [p.1,p.2]) (as.map Value.ref):=by
   intro kvs;induction kvs with
   |nil=>intro as hl _;rw[K7.mp hl];exact .nil
   |cons p r ih =>
    intro as hl hk;rcases as with _|⟨a,as⟩
    .simp at hl
    .refine ah (hk 0 a rfl) λp' e1 e2=>?_;simp at e1;subst e1;exact .cons e2 (ih as (by simpa using hl) λj a' hj=>by simpa using hk (j+1) a' (by simpa using hj))
  exact gen kvs as O key
 refine cq (r6 (own:=eE) (s':={ s with heap:=h',toks:=tk }) R rfl rfl hn k ha (x:=.list (aV kvs)) (ey _ _ rfl r)) λS hH=>?_;exact(bF _ _ (q _ hH) (q7 _) (S.toE F.lH))
end
end
section
variable{H:AH}{A:Around}{d:Nat}{Q:b8}
def yc{x:String}(h:Pf nm x=true):nm.lookup (Str.ofString x)=some .local\/nm.lookup (Str.ofString x)=some .cell\/nm.lookup (Str.ofString x)=some .free:=by unfold Pf at h;split at h <;> simp_all
def AV(F:ae L env loc H s.heap){x:String}{p:Pos}{v:V}(hl:Pf env.scope.names x=true)(J:ir (Str.ofString x)=true)(Y:loc x=some v){P:a9}(Q:∀c,VR L.sa s.heap v c->P c s) : a8 L A (eval (.Name (Str.ofString x) p) env) P E s:=by
 unfold ir at J;simp only[Bool.and_eq_true,Bool.not_eq_true']at J;refine wpAny_Name ?_ J.1;rcases yc hl with k|k|k
 .refine ah F.ns λm Z hm=>?_;refine ah (hm x v Y k) λcv B G=>?_;exact wpAny_loadName_local F.kind k Z B (Q cv G)
 .obtain⟨c,cv,B,G,O⟩:=F.cellv x v Y (.inl k);exact wpAny_loadName_cell F.kind k B G (Q cv O)
 .obtain⟨c,cv,B,G,O⟩:=F.cellv x v Y (.inr k);exact wpAny_loadName_free F.kind k B G (Q cv O) J.2
def tT{mg:Str->Option Value}(F:ae L env loc H s.heap)(R:aD L H s.heap)(G:L.base.Ns mainGlobals mg){x:Str}{p:Pos}{c:Value}(hl:HA env.scope.names x=true)(B:ir x=true)(Q:mg x=some c){P:a9}(O:P c s) : a8 L A (eval (.Name x p) env) P E s:=by
 unfold ir at B;simp only[Bool.and_eq_true,Bool.not_eq_true']at B;obtain hk:env.kindOf x=some .globalImplicit:=by unfold HA at hl;exact L9.mp hl
 obtain J:s.heap.Ns env.globals mg:=by rw[F.glob];exact G.keeps R.base
 exact Calls.Name_function_global F.kind hk (Calls.loadGlobal_global J Q O) B.1
def iW{mg mb:Str->Option Value}(F:ae L env loc H s.heap)(R:aD L H s.heap)(G:L.base.Ns mainGlobals mg)(B:L.base.Ns builtinsNs mb){x:Str}{p:Pos}{c:Value}(hl:HA env.scope.names x=true)(J:ir x=true)(hm:mg x=none)(Z:mb x=some c) {P:a9} (Y:P c s):a8 L A (eval (.Name x p) env) P E s:=by
 unfold ir at J;simp only[Bool.and_eq_true,Bool.not_eq_true']at J;obtain hk:env.kindOf x=some .globalImplicit:=by unfold HA at hl;exact L9.mp hl
 obtain Q:s.heap.Ns env.globals mg:=by rw[F.glob];exact G.keeps R.base
 obtain O:s.heap.Ns env.builtins mb:=by rw[F.blt];exact B.keeps R.base
 exact Calls.Name_function_global F.kind hk (Calls.loadGlobal_builtin Q hm O Z Y) J.1
theorem gv:∀{cells:List (Str×Addr)},(cells.Pairwise λx y=>x.2≠y.2)->∀{n n':Str}{c:Addr},cells.lookup n=some c->cells.lookup n'=some c->n=n'
 | [],_,_,_,_,h,_=>by simp at h
 |(k,a)::r,P,n,n',c,h,h'=>by
  rw[RZ]at P;have mem:∀{n:Str}{c:Addr},r.lookup n=some c->(∃B,(B,c)∈r):=by
   intro n c e;have gen:∀(r:List (Str×Addr)),r.lookup n=some c->∃B,(B,c)∈r:=by
    intro r;induction r with
    |nil=>intro e;simp at e
    |cons p r O =>
     intro e;obtain⟨B,a'⟩:=p;rw[K8]at e;split at e
     .obtain rfl:=w8 e;exact⟨B,y4⟩
     .obtain⟨J,hk⟩:=O e;exact⟨J,w9 _ hk⟩
   exact gen r e
  rw[K8]at h h';by_cases F:(n==k)=true <;> by_cases G:(n'==k)=true
  .rw[L9.mp F,L9.mp G]
  .rw[F]at h;rw[L0.mpr G]at h';simp only at h h';obtain rfl:=w8 h;obtain⟨B,hk⟩:=mem h';exact(P.1 _ hk rfl).elim
  .rw[G]at h';rw[L0.mpr F]at h;simp only at h h';obtain rfl:=w8 h';obtain⟨B,hk⟩:=mem h;exact(P.1 _ hk rfl).elim
  .rw[L0.mpr F]at h;rw[L0.mpr G]at h';exact gv P.2 h h'
theorem ay.other{own:Addr->Prop}(R:aD L H s.heap){Γ:Addr}{o':Obj}{t:Nat}(hL:H Γ=none)(Z:L.base.get? Γ=none)(F:own Γ)(ho:s.heap.get? Γ=some o)(O:h'.get? Γ=some o') (J:∀xs n,o.data≠.seq xs n) (sb:Heap.SameBut Γ s.heap h'):ay L own H H s { s with heap:=h',toks:=t }:=by
 have tk:TupKeep L.sa s.heap h':=λb ob _ e hc ⟨xs,n,hd⟩=>by
  by_cases B:b=Γ
  .subst B;rw[ho]at e;obtain rfl:=w8 e;exact absurd hd (J xs n)
  .exact(sb.2 b B).trans e
 have live:∀b,s.heap.get? b≠none->h'.get? b≠none:=λb h=>by
  by_cases B:b=Γ
  .subst B;rw[O];simp
  .rw[sb.2 b B];exact h
 refine⟨rfl,rfl,λb ob e _ hn=>(sb.2 b λz=>hn (z▸F)).trans e,λb ob e=>.inl (by simp[e]),λ_ h=>h,live,tk,⟨λb ob e=>?_,R.fresh,λa ob e=>?_,λb B=>live b (R.ex b B)⟩⟩
 .exact(sb.2 b λz=>by rw[z,Z]at e;exact ns e).trans (R.base b ob e)
 .refine ah (R.obj a ob e) λG Q Y=>?_;exact(af G ((sb.2 a λz=>by rw[z,hL]at e;exact ns e).trans Q) (Y.keep tk))
def oi(c:Bool)(env:Env):Addr->Prop:=λb=>b=env.locals\/(c=true/\∃n,env.cells.lookup n=some b)
theorem mF{c:Bool}{b:Addr}(h:oi c env b):dQ env b:=h.imp id λh=>h.2
theorem xn(F:ae L env loc H s.heap)(R:aD L H s.heap){x:String}{v:V}{c:Value}{J:Bool}(hl:HB J env.scope.names x=true)(rv:VR L.sa s.heap v c){P:b6} (hP:∀s',ae L env (loc.put x v) H s'.heap->ay L (oi J env) H H s s'->P () s'):a8 L A (storeName env (Str.ofString x) c) P E s:=by
 unfold HB at hl;rw[Bool.or_eq_true]at hl;rcases hl with k|k
 .have k:env.kindOf (Str.ofString x)=some .local:=L9.mp k;refine ah F.ns λm hn hm=>?_;refine wpAny_storeName_local k hn (λh' hn' sb=>?_) (by rw[F.kind];rfl);refine GX (id hn) λo es ep ho hd _=>?_;obtain⟨o',es',ep',Y,hd',_⟩:=id hn';have S:ay L (oi J env) H H s { s with heap:=h',toks:=s.toks+1 }:=ay.other R F.lH F.lB (.inl rfl) ho Y (λxs n z=>by rw[hd]at z;cases z) sb;refine hP _ ⟨F.kind,F.glob,F.blt,(af _ hn' (λy u e hy=>?_)),F.lH,F.lB,F.above,λn c e=>?_,λy u e hy=>?_,F.hasCell,F.apart⟩ S
  .by_cases B:y=x
   .subst B;rw[Loc.put_self]at e;obtain rfl:=w8 e;exact(af c (by simp) (rv.keep S.tup))
   .rw[r7 _ _ B]at e;refine ah (hm y u e hy) λcv O Q=>?_;exact(af cv (by rw[if_neg λz=>B (br z)];exact O) (Q.keep S.tup))
  .refine jb (F.cell n c e) λO Q aX=>?_;refine cF aX λcv G Z h4=>?_;exact(cO O Q (ey cv G ((sb.2 c (F.cell_ne e)).trans Z) h4))
  .have B:y≠x:=by rintro rfl;rw[k]at hy;simp at hy
   rw[r7 _ _ B]at e;refine bN (F.cellv y u e hy) λc cv O bV h4=>?_;obtain⟨G,Q,Z⟩:=bV;exact(bF c cv O (af G ((sb.2 c (F.cell_ne O)).trans Q) Z) (h4.keep S.tup))
 .rw[G7]at k;have k':=k;obtain⟨_,k⟩:=k;have k:env.kindOf (Str.ofString x)=some .cell:=L9.mp k;refine bM (F.hasCell _ (.inl k)) λcc hc=>?_;obtain⟨c1,c2,cv0,o0,c3,c4⟩:=F.cell _ _ hc;refine wpAny_storeName_cell F.kind k hc (af o0 c3 c4) λh' ⟨o',Y,hd'⟩ sb=>?_;have S:ay L (oi J env) H H s { s with heap:=h',toks:=s.toks }:=ay.other R c1 c2 (.inr ⟨k'.1,_,hc⟩) c3 Y (λxs n z=>by rw[c4]at z;cases z) sb;have hLc:env.locals≠cc:=λz=>F.cell_ne hc z.symm;refine hP _ ⟨F.kind,F.glob,F.blt,?_,F.lH,F.lB,F.above,λn c e=>?_,λy u e hy=>?_,F.hasCell,F.apart⟩ S
  .refine ah F.ns λm dC hm=>?_;obtain⟨o,es,ep,ho,r⟩:=dC;refine(af m (yW o es ep ((sb.2 _ hLc).trans ho) r) (λy u e hy=>?_));obtain B:y≠x:=by rintro rfl;rw[k]at hy;simp at hy
   rw[r7 _ _ B]at e;refine ah (hm y u e hy) λcv O Q=>?_;exact(af cv O (Q.keep S.tup))
  .by_cases hcc:c=cc
   .subst hcc;exact(cO c1 c2 (ey _ o' Y hd'))
   .refine jb (F.cell n c e) λO Q eN=>?_;refine cF eN λcv G Z h4=>?_;exact(cO O Q (ey cv G ((sb.2 c hcc).trans Z) h4))
  .by_cases B:y=x
   .subst B;rw[Loc.put_self]at e;obtain rfl:=w8 e;exact(bF cc _ hc (af o' Y hd') (rv.keep S.tup))
   .rw[r7 _ _ B]at e;refine bN (F.cellv y u e hy) λc' cv O zq6 h4=>?_;obtain⟨G,Q,Z⟩:=zq6;obtain this:c'≠cc:=by rintro rfl;exact B (br (gv F.apart O hc))
    exact(bF c' cv O (af G ((sb.2 c' this).trans Q) Z) (h4.keep S.tup))
end
def bj{c:Prop}{d:Decidable c}{f:c->Bool}(h:@dite Bool c d f (λ_=>false)=true):∃x:c,f x=true:=by
 cases d with
 |isTrue x=>exact⟨x,h⟩
 |isFalse _=>exact ai h
@[elab_as_elim] theorem bm {e:Expr} {k:Str->Bool} {P:Expr->Prop} (h:dU e k=true) (q:∀id p,k id=true->P (.Name id p)):P e:=by obtain⟨i,h⟩:=bj h;exact Expr.Name.elim (motive_1:=λe=>∀i:e.ctorIdx=23,Expr.Name.elim (motive_1:=λ_=>Bool) e i (λid _=>k id)=true->P e) e i (λid p _ h=>q id p h) i h
@[elab_as_elim] theorem bT {e:Expr} {k:(List Expr)->Bool} {P:Expr->Prop} (h:gD e k=true) (q:∀es n p,k es=true->P (.Tuple es n p)):P e:=by obtain⟨i,h⟩:=bj h;exact Expr.Tuple.elim (motive_1:=λe=>∀i:e.ctorIdx=25,Expr.Tuple.elim (motive_1:=λ_=>Bool) e i (λes _ _=>k es)=true->P e) e i (λes n p _ h=>q es n p h) i h
@[elab_as_elim] theorem dJ {e:Expr} {k:Const->Bool} {P:Expr->Prop} (h:gC e k=true) (q:∀c n p,k c=true->P (.Constant c n p)):P e:=by obtain⟨i,h⟩:=bj h;exact Expr.Constant.elim (motive_1:=λe=>∀i:e.ctorIdx=19,Expr.Constant.elim (motive_1:=λ_=>Bool) e i (λc _ _=>k c)=true->P e) e i (λc n p _ h=>q c n p h) i h
@[elab_as_elim] theorem fP {e:Expr} {k:UnaryOp->Expr->Bool} {P:Expr->Prop} (h:kQ e k=true) (q:∀o x p,k o x=true->P (.UnaryOp o x p)):P e:=by obtain⟨i,h⟩:=bj h;exact Expr.UnaryOp.elim (motive_1:=λe=>∀i:e.ctorIdx=3,Expr.UnaryOp.elim (motive_1:=λ_=>Bool) e i (λo x _=>k o x)=true->P e) e i (λo x p _ h=>q o x p h) i h
@[elab_as_elim] theorem vy {e:Expr} {k:(List Expr)->Bool} {P:Expr->Prop} (h:AK e k=true) (q:∀es p,k es=true->P (.List es p)):P e:=by obtain⟨i,h⟩:=bj h;exact Expr.List.elim (motive_1:=λe=>∀i:e.ctorIdx=24,Expr.List.elim (motive_1:=λ_=>Bool) e i (λes _=>k es)=true->P e) e i (λes p _ h=>q es p h) i h
@[elab_as_elim] theorem vx {e:Expr} {k:(List (Option Expr))->(List Expr)->Bool} {P:Expr->Prop} (h:AJ e k=true) (q:∀ks vs p,k ks vs=true->P (.Dict ks vs p)):P e:=by obtain⟨i,h⟩:=bj h;exact Expr.Dict.elim (motive_1:=λe=>∀i:e.ctorIdx=6,Expr.Dict.elim (motive_1:=λ_=>Bool) e i (λks vs _=>k ks vs)=true->P e) e i (λks vs p _ h=>q ks vs p h) i h
@[elab_as_elim] theorem tG {e:Expr} {k:Expr->Operator->Expr->Bool} {P:Expr->Prop} (h:wX e k=true) (q:∀l o r p,k l o r=true->P (.BinOp l o r p)):P e:=by obtain⟨i,h⟩:=bj h;exact Expr.BinOp.elim (motive_1:=λe=>∀i:e.ctorIdx=2,Expr.BinOp.elim (motive_1:=λ_=>Bool) e i (λl o r _=>k l o r)=true->P e) e i (λl o r p _ h=>q l o r p h) i h
@[elab_as_elim] theorem ei {e:Expr} {k:Expr->(List CmpOp)->(List Expr)->Bool} {P:Expr->Prop} (h:kP e k=true) (q:∀l os rs p,k l os rs=true->P (.Compare l os rs p)):P e:=by obtain⟨i,h⟩:=bj h;exact Expr.Compare.elim (motive_1:=λe=>∀i:e.ctorIdx=15,Expr.Compare.elim (motive_1:=λ_=>Bool) e i (λl os rs _=>k l os rs)=true->P e) e i (λl os rs p _ h=>q l os rs p h) i h
@[elab_as_elim] theorem eS {e:Expr} {k:BoolOp->(List Expr)->Bool} {P:Expr->Prop} (h:og e k=true) (q:∀o xs p,k o xs=true->P (.BoolOp o xs p)):P e:=by obtain⟨i,h⟩:=bj h;exact Expr.BoolOp.elim (motive_1:=λe=>∀i:e.ctorIdx=0,Expr.BoolOp.elim (motive_1:=λ_=>Bool) e i (λo xs _=>k o xs)=true->P e) e i (λo xs p _ h=>q o xs p h) i h
@[elab_as_elim] theorem tH {e:Expr} {k:Expr->Expr->Expr->Bool} {P:Expr->Prop} (h:wY e k=true) (q:∀t x y p,k t x y=true->P (.IfExp t x y p)):P e:=by obtain⟨i,h⟩:=bj h;exact Expr.IfExp.elim (motive_1:=λe=>∀i:e.ctorIdx=5,Expr.IfExp.elim (motive_1:=λ_=>Bool) e i (λt x y _=>k t x y)=true->P e) e i (λt x y p _ h=>q t x y p h) i h
@[elab_as_elim] theorem eK {e:Expr} {k:Expr->Expr->Bool} {P:Expr->Prop} (h:fD e k=true) (q:∀o i p,k o i=true->P (.Subscript o i p)):P e:=by obtain⟨i,h⟩:=bj h;exact Expr.Subscript.elim (motive_1:=λe=>∀i:e.ctorIdx=21,Expr.Subscript.elim (motive_1:=λ_=>Bool) e i (λo i _=>k o i)=true->P e) e i (λo i p _ h=>q o i p h) i h
@[elab_as_elim] theorem tK {e:Expr} {k:(Option Expr)->(Option Expr)->(Option Expr)->Bool} {P:Expr->Prop} (h:xd e k=true) (q:∀l u st p,k l u st=true->P (.Slice l u st p)):P e:=by obtain⟨i,h⟩:=bj h;exact Expr.Slice.elim (motive_1:=λe=>∀i:e.ctorIdx=26,Expr.Slice.elim (motive_1:=λ_=>Bool) e i (λl u st _=>k l u st)=true->P e) e i (λl u st p _ h=>q l u st p h) i h
@[elab_as_elim] theorem eJ {e:Expr} {k:Expr->Str->Pos->Bool} {P:Expr->Prop} (h:fC e k=true) (q:∀o n p,k o n p=true->P (.Attribute o n p)):P e:=by obtain⟨i,h⟩:=bj h;exact Expr.Attribute.elim (motive_1:=λe=>∀i:e.ctorIdx=20,Expr.Attribute.elim (motive_1:=λ_=>Bool) e i (λo n p=>k o n p)=true->P e) e i (λo n p _ h=>q o n p h) i h
@[elab_as_elim] theorem iw {e:Expr} {k:Expr->(List Comprehension)->Scope->Bool} {P:Expr->Prop} (h:oh e k=true) (q:∀x gs sc p,k x gs sc=true->P (.ListComp x gs sc p)):P e:=by obtain⟨i,h⟩:=bj h;exact Expr.ListComp.elim (motive_1:=λe=>∀i:e.ctorIdx=8,Expr.ListComp.elim (motive_1:=λ_=>Bool) e i (λx gs sc _=>k x gs sc)=true->P e) e i (λx gs sc p _ h=>q x gs sc p h) i h
@[elab_as_elim] theorem cM {e:Expr} {k:Expr->(List Expr)->(List Keyword)->Pos->Bool} {P:Expr->Prop} (h:iu e k=true) (q:∀f as ks p,k f as ks p=true->P (.Call f as ks p)):P e:=by obtain⟨i,h⟩:=bj h;exact Expr.Call.elim (motive_1:=λe=>∀i:e.ctorIdx=16,Expr.Call.elim (motive_1:=λ_=>Bool) e i (λf as ks p=>k f as ks p)=true->P e) e i (λf as ks p _ h=>q f as ks p h) i h
@[elab_as_elim] theorem tI {e:Stmt} {k:Expr->Bool} {P:Stmt->Prop} (h:wZ e k=true) (q:∀e p,k e=true->P (.Expr e p)):P e:=by obtain⟨i,h⟩:=bj h;exact Stmt.Expr.elim (motive_2:=λe=>∀i:e.ctorIdx=24,Stmt.Expr.elim (motive_2:=λ_=>Bool) e i (λe _=>k e)=true->P e) e i (λe p _ h=>q e p h) i h
@[elab_as_elim] theorem fO {e:Stmt} {k:(List Expr)->Expr->Bool} {P:Stmt->Prop} (h:iT e k=true) (q:∀ts e p,k ts e=true->P (.Assign ts e p)):P e:=by obtain⟨i,h⟩:=bj h;exact Stmt.Assign.elim (motive_2:=λe=>∀i:e.ctorIdx=5,Stmt.Assign.elim (motive_2:=λ_=>Bool) e i (λts e _=>k ts e)=true->P e) e i (λts e p _ h=>q ts e p h) i h
@[elab_as_elim] theorem pF {e:Stmt} {k:(Option Expr)->Bool} {P:Stmt->Prop} (h:qB e k=true) (q:∀e p,k e=true->P (.Return e p)):P e:=by obtain⟨i,h⟩:=bj h;exact Stmt.Return.elim (motive_2:=λe=>∀i:e.ctorIdx=3,Stmt.Return.elim (motive_2:=λ_=>Bool) e i (λe _=>k e)=true->P e) e i (λe p _ h=>q e p h) i h
@[elab_as_elim] theorem yt {e:Stmt} {k:Expr->(List Stmt)->(List Stmt)->Bool} {P:Stmt->Prop} (h:EY e k=true) (q:∀t a b p,k t a b=true->P (.If t a b p)):P e:=by obtain⟨i,h⟩:=bj h;exact Stmt.If.elim (motive_2:=λe=>∀i:e.ctorIdx=12,Stmt.If.elim (motive_2:=λ_=>Bool) e i (λt a b _=>k t a b)=true->P e) e i (λt a b p _ h=>q t a b p h) i h
@[elab_as_elim] theorem rM {e:Stmt} {k:Expr->(List Stmt)->(List Stmt)->Bool} {P:Stmt->Prop} (h:tJ e k=true) (q:∀t a b p,k t a b=true->P (.While t a b p)):P e:=by obtain⟨i,h⟩:=bj h;exact Stmt.While.elim (motive_2:=λe=>∀i:e.ctorIdx=11,Stmt.While.elim (motive_2:=λ_=>Bool) e i (λt a b _=>k t a b)=true->P e) e i (λt a b p _ h=>q t a b p h) i h
@[elab_as_elim] theorem vz {e:Stmt} {k:Expr->Expr->(List Stmt)->(List Stmt)->Bool} {P:Stmt->Prop} (h:AL e k=true) (q:∀t i a b p,k t i a b=true->P (.For t i a b p)):P e:=by obtain⟨i,h⟩:=bj h;exact Stmt.For.elim (motive_2:=λe=>∀i:e.ctorIdx=9,Stmt.For.elim (motive_2:=λ_=>Bool) e i (λt i a b _=>k t i a b)=true->P e) e i (λt i a b p _ h=>q t i a b p h) i h
def mE{l:List α}{k:α->Bool}(h:yV l k=true):∃a,l=[a]/\k a=true:=by
 rcases l with _|⟨a,l⟩
 .exact ai h
 .rcases l with _|⟨_,_⟩
  .exact(af a rfl h)
  .exact ai h
@[elab_as_elim] theorem eZ {α:Type} {l:List α} {k:α->Bool} {P:List α->Prop} (h:yV l k=true) (q:∀a,k a=true->P [a]):P l:=by obtain⟨a,rfl,h⟩:=mE h;exact q a h
def CN{l:List α}{k:α->α->Bool}(h:FW l k=true):∃a b,l=[a,b]/\k a b=true:=by
 rcases l with _|⟨a,l⟩
 .exact ai h
 .refine ah (mE h) λb bV h=>?_;subst bV;exact(ey a b rfl h)
@[elab_as_elim] theorem gB {α:Type} {l:List α} {k:α->α->Bool} {P:List α->Prop} (h:FW l k=true) (q:∀a b,k a b=true->P [a,b]):P l:=by refine cF (CN h) λa b da h=>?_;subst da;exact q a b h
@[elab_as_elim] theorem pT {cl:Bool} {nm:bq} {t:Tgt} {x:Expr} {P:Expr->Prop} (h:fh cl nm t x=true) (hn:∀id p,P (.Name id p)) (ht:∀es k p,P (.Tuple es k p)):P x:=by
 cases t with
 |nm y=>exact bm h λid p _=>hn id p
 |tp ts=>exact bT h λes k p _=>ht es k p
theorem jv{cl:Bool}:∀{ts:Tgts}{es:List Expr},nh cl nm ts es=true->assignEach es env=es.map λe=>(false,assign e env)
 | .nil,es,h=>by
  rcases es with _|⟨_,_⟩
  .rfl
  .exact ai h
 | .cons t ts,es,h=>by
  rcases es with _|⟨e,es⟩
  .exact ai h
  .obtain h:=aa h;exact(pT (P:=λe=>assignEach (e::es) env=(false,assign e env)::assignEach es env) h.1 (λ_ _=>rfl) λ_ _ _=>rfl).trans (B9 _ (jv h.2))
theorem ju{cl:Bool}:∀{ts:Tgts}{es:List Expr}{vs:List V}{l l':Loc},nh cl nm ts es=true->eU ts vs l=some l'->vs.length=es.length
 | .nil,es,vs,l,l',h,B=>by
  cases es with
  |cons _ _=>exact ai h
  |nil=>cases vs with
   |nil=>rfl
   |cons _ _=>exact jB B
 | .cons t ts,es,vs,l,l',h,B=>by
  rcases es with _|⟨e,es⟩
  .exact ai h
  .rcases vs with _|⟨v,vs⟩
   .exact jB B
   .refine ah (Option.bind_eq_some_iff.mp B) λl1 _ F=>?_;exact B9 (· + 1) (ju (aa h).2 F)
def sR{es:List Expr}(h:assignEach es env=es.map λe=>(false,assign e env)):(assignEach es env).map (·.2)=es.map (λe=>assign e env)/\(assignEach es env).length=es.length/\(assignEach es env).findIdx? (·.1)=none:=by rw[h,I8,u1];exact⟨rfl,rfl,List.findIdx?_eq_none_iff.mpr λx hx=>by refine ah (w7.mp hx) λe _ dC=>?_;subst dC;rfl⟩
section
variable{H:AH}{A:Around}{d:Nat}{Q:b8}
def u2{own:Addr->Prop}(R:aD L H s.heap){t:Nat}(e:Heap.ExtBut s.heap.objs.size s.heap h'):ay L own H H s { s with heap:=h',toks:=t } :=q9 (s':={ s with heap:=h',toks:=t }) R rfl rfl λb o q=>e b o (E9 (G9 q)) q
def ae.ext(F:ae L env loc H s.heap)(R:aD L H s.heap)(e:Heap.ExtBut s.heap.objs.size s.heap h'):ae L env loc H h' :=F.stepNo (s':={ s with heap:=h',toks:=s.toks }) (u2 R e)
abbrev pO(L:Cx)(cl:Bool)(env:Env)(loc':Loc)(H:AH)(s:Shared)(P:b6):Prop:=∀s',ae L env loc' H s'.heap->ay L (oi cl env) H H s s'->P () s'
def BD(L:Cx)(env:Env)(A:Around)(E:a9)(cl:Bool)(t:Tgt):Prop:=∀(x:Expr),fh cl env.scope.names t x=true->∀{loc loc':Loc}{v:V}{c:Value}{H:AH}{s:Shared}{P:b6},ae L env loc H s.heap->aD L H s.heap->bz t v loc=some loc'->VR L.sa s.heap v c ->
  pO L cl env loc' H s P->a8 L A (assign x env c) P E s
def sB(L:Cx)(env:Env)(A:Around)(E:a9)(cl:Bool)(ts:Tgts):Prop:=∀(es:List Expr),nh cl env.scope.names ts es=true->∀{loc loc':Loc}{vs:List V}{cs:List Value}{H:AH}{s:Shared}{P:b6},ae L env loc H s.heap->aD L H s.heap->eU ts vs loc=some loc'->VRs L.sa s.heap vs cs ->
  pO L cl env loc' H s P->a8 L A (assignInOrder (es.map λe=>assign e env) cs) P E s
def AW{cl:Bool}{x:String}:BD L env A E cl (.nm x):=λe hc _ _ _ _ _ _ _ F R G J B=>by
 revert hc;obtain rfl:=w8 G
 refineλhc=>bm hc λid p hk=>?_
 obtain hk:=aa hk;rw[J1 hk.1];exact wpAny_assign_Name (xn F R hk.2 J B)
def vO{cl:Bool}:sB L env A E cl .nil:=λes hc _ _ vs cs H s P F R B J G=>by
 cases vs with
 |cons _ _=>exact jB B
 |nil =>
  obtain rfl:=w8 B;cases es with
  |cons _ _=>exact ai hc
  |nil=>exact u4 (G s F (ay.refl R))
theorem tX{cl:Bool}{t:Tgt}{ts:Tgts}(ht:BD L env A E cl t)(G:sB L env A E cl ts):sB L env A E cl (.cons t ts):=λes hc _ _ vs cs H s P F R J rv hP=>by
 rcases es with _|⟨e,es⟩
 .exact ai hc
 .rcases vs with _|⟨v,vs⟩
  .exact jB J
  .obtain hc:=aa hc;refine ah (Option.bind_eq_some_iff.mp J) λl1 Z h2=>?_;refine bN rv.cons_inv λc r eN r1 rr=>?_;subst eN;exact p0 (E6 (ht e hc.1 F R Z r1 λs1 O B=>G es hc.2 O B.rel h2 (rr.keep B.tup) λs2 Q Y=>hP s2 Q (B.trans Y)))
theorem AX{cl:Bool}(Z:A.handled=none){ts:Tgts}(G:sB L env A E cl ts):BD L env A E cl (.tp ts):=λe hc loc loc' v _ H s P F R B rv hP=>by
 refine bT hc λes n p hk=>?_;cases v with
 |tup vs =>apply rv.tup_el;intro ad cvs ht O;obtain m:=sR (env:=env) (jv hk);obtain hl:es.length=cvs.size:=(ju hk B).symm.trans (O.length.symm.trans J2);refine assign_Tuple_tuple Z ht (m.2.1.trans hl) m.2.2 λh' J=>?_;rw[m.1];obtain S0:ay L (oi cl env) H H s { s with heap:=h' }:=u2 (t:=s.toks) R J;exact G es hk (s:={ s with heap:=h' }) (F.ext R J) S0.rel B (O.keep S0.tup) λs' Q Y=>hP s' Q (S0.trans Y)
 |_=>exact jB B
mutual
theorem tW{cl:Bool}(B:A.handled=none):∀(t:Tgt),BD L env A E cl t
 | .nm x=>AW
 | .tp ts=>AX B (vN B ts)
theorem vN{cl:Bool}(B:A.handled=none):∀(ts:Tgts),sB L env A E cl ts
 | .nil=>vO
 | .cons t ts=>tX (tW B t) (vN B ts)
end
end
def Mv(W:Addr->Prop)(s s':Shared):Prop:=∃h' tk,s'={ s with heap:=h',toks:=tk }/\∀b o,¬W b->s.heap.get? b=some o->h'.get? b=some o
structure Iter(L:Cx)(A:Around)(I:Addr)(W:Addr->Prop)(tgt:Expr)(src:pN)(vs:List V)(St:Nat->Heap->Prop):Prop where
 frame:∀i h h',St i h->(∀b o,W b->h.get? b=some o->h'.get? b=some o)->TupKeep L.sa h h'->St i h'
 wt:∀i h,St i h->∀b o,W b->h.get? b=some o->o.cls=.type "tuple"->L.X b
 lw:∀i h,St i h->∀b,W b->h.get? b≠none
 item:∀i v H s,vs[i]?=some v->aD L H s.heap->dB src H->St i s.heap ->
  a8 L A (pyNext (.ref I)) (λr ac=>∃c,r=some c/\a8 L A (letOwnedTupleGo tgt (.ref I) c) (λ_ s'=>VR L.sa s'.heap v c/\St (i+1) s'.heap/\Mv W s s') aG ac) aG s
 done:∀H s,aD L H s.heap->dB src H->St vs.length s.heap->a8 L A (pyNext (.ref I)) (λr s'=>r=none/\Mv W s s'/\∀b,L.X b->s'.heap.get? b≠none) aG s
 self:∀i s,St i s.heap->a8 L A (pyIter (.ref I)) (λc s'=>c=.ref I/\s'=s) aG s
noncomputable def cD:Expr->Bool
 | .Name ..=>true
 | .Tuple ..=>true
 |_=>false
section
variable{H:AH}{A:Around}{d:Nat}{Q:b8}
theorem ij(ht:cD tgt=true){c:Value}{n:String}(G:s.heap.get? I=some o)(hc:o.cls=.type n)(F:["enumerate","zip","dict_itemiterator","dict_reverseitemiterator","odict_iterator","itertools.zip_longest","itertools.pairwise"].contains n=false) {P:b6} (h:P () s):a8 L A (letOwnedTupleGo tgt (.ref I) c) P E s:=by
 cases tgt with
 |Name id p=>exact u4 h
 |Tuple B k p =>
  cases c with
  |ref a =>
   refine p0 (wpAny_load G ?_);rw[hc];cases hd:o.data with
   |fields vs =>simp only[F,Bool.false_and,Bool.false_eq_true,if_false];exact u4 h
   |_=>exact u4 h
  |_=>exact u4 h
 |_=>exact ai ht
def mC{X:Addr->Prop}(ex:∀b,X b->h.get? b≠none)(k:∀b o,h.get? b=some o->X b->h'.get? b=some o):∀b,X b->h'.get? b≠none:=λb B=>by
 rcases e:h.get? b with _|o
 .exact absurd e (ex b B)
 .rw[k b o e B];simp
theorem yf(ht:cD tgt=true)(hh:A.handled=none){a:Addr}(Q:¬L.X I)(vs:List V) : Iter L A I (λb=>b=I) tgt (some (a,vs)) vs (λi h=>h.IsListIter I a i) where
 frame:=λi h h' ⟨o,B,r⟩ k _=>(af o (k I o rfl B) r)
 wt:=λi h ⟨o,B,hc,_⟩ b o' F G ht=>by subst F;rw[B]at G;obtain rfl:=w8 G;rw[hc]at ht;simp at ht
 lw:=λi h ⟨o,B,_⟩ b F=>by subst F;rw[B];simp
 item:=λi v H s hv R hs st=>by refine cF (au R hs) λcvs n B ra=>?_;refine ah (ra.get hv) λc h5 h6=>?_;refine wpAny_pyNext_list_item st (aK _ B rfl (gV n rfl)) (x:=c) (by rw[<- h5];simp) λh' O sb=>⟨c,rfl,?_⟩;refine bR (id O) λo Q hc hd=>?_;refine bR (id st) λo0 Y Z hd0=>?_;refine ij ht Q hc (by decide) (cO (h6.keep ?_) O (ey h' s.toks rfl (λb o F e=>(sb.2 b F).trans e)));intro b o _ e J hdt;refine(sb.2 b ?_).trans e;rintro rfl;rw[Y]at e;obtain rfl:=w8 e;rw[Z]at J;simp at J
 done:=λH s R hs st=>by refine cF (au R hs) λcvs n B ra=>?_;obtain hl:cvs.size=vs.length:=ra.length;exact wpAny_pyNext_list_end hh st (aK _ B rfl (gV n rfl)) (by simp[hl]) λh' he=>(cO rfl (ey h' s.toks rfl (λb o F e=>he b o F e)) (mC R.ex λb o e hX=>he b o (λz=>Q (z▸hX)) e))
 self:=λi s st=>wpAny_pyIter_listiter st ⟨rfl,rfl⟩
theorem u3(ht:cD tgt=true)(hI:¬L.X I){fp:List Addr}{n:Nat}{Pv:Nat->Value->Prop}{St:Nat->Heap->Prop}(W:Walks L.prog L.w A I fp [I] n Pv St)(hn:vs.length=n) (hc:∀i h,St i h->∃o nm,h.get? I=some o/\o.cls=.type nm/\nm≠"tuple"/\["enumerate","zip","dict_itemiterator","dict_reverseitemiterator","odict_iterator","itertools.zip_longest","itertools.pairwise"].contains nm=false) (as:∀i h h',St i h->(∀b o,b=I->h.get? b=some o->h'.get? b=some o)->TupKeep L.sa h h'->∀b∈fp,∀o,h.get? b=some o->h'.get? b=some o) (hv:∀i v c h,vs[i]?=some v->Pv i c->St i h->VR L.sa h v c):Iter L A I (λb=>b=I) tgt none vs St where
 frame:=λi h h' st k t=>W.frame i h h' st (as i h h' st k t)
 wt:=λi h st b o B e ht=>by subst B;refine uA (hc i h st) λo' nm G Z h3 _=>?_;rw[G]at e;obtain rfl:=w8 e;rw[Z]at ht;injection ht with ht;exact absurd ht h3
 lw:=λi h st b B=>by subst B;refine cF (hc i h st) λo' nm G _=>?_;rw[G];simp
 item:=λi v H s J R hs st=>by
  obtain hi:i<n:=by rw[<- hn];exact(z5.mp J).1
  refine W.item i s _ _ hi st λc h' tk p O k=>⟨c,rfl,?_⟩;refine uA (hc _ _ O) λo nm G Z h3 h4=>?_;refine uA (hc _ _ st) λo0 nm0 Y ad ar h40=>?_;refine ij (s:={ s with heap:=h',toks:=tk }) ht G Z h4 (cO ((hv i v c s.heap J p st).keep ?_) O (ey h' tk rfl (λb o B e=>k b o (by simpa using B) e)));intro b o _ e F hdt;refine k b o ?_ e;intro B;obtain Q:b=I:=by simpa using B
  subst Q;rw[Y]at e;obtain rfl:=w8 e;rw[ad]at F;injection F with F;exact ar F
 done:=λH s R hs st=>W.done s _ _ (by rw[<- hn];exact st) λh' tk k=>(cO rfl (ey h' tk rfl (λb o B e=>k b o (by simpa using B) e)) (mC R.ex λb o e hX=>k b o (λz=>hI (u5.mp z▸hX)) e))
 self:=λi s st=>W.self i s _ _ st ⟨rfl,rfl⟩
theorem vf(ht:cD tgt=true)(hh:A.handled=none){t:Addr}(hI:¬L.X I){cvs:Array Value}(Z:t≠I)(ad:¬L.X t){h₀:Heap}(r:VRs L.sa h₀ vs cvs.toList) : Iter L A I (λb=>b=I) tgt none vs (λi h=>(h.IsTupleIter I t i/\h.IsTuple t cvs)/\VRs L.sa h vs cvs.toList):=by
 obtain W:=Walks.tuple (prog:=L.prog) (w:=L.w) (A:=A) hh I t Z cvs;obtain hl:vs.length=cvs.size:=r.length.symm;have ar:∀(i:Nat)(h h':Heap),h.IsTupleIter I t i->(∀b o,b∉[I]->h.get? b=some o->h'.get? b=some o)->TupKeep L.sa h h':=λi h h' ⟨o,ho,hc,_⟩ k b ob _ e G _=>k b ob (by
  intro B;obtain this:b=I:=by simpa using B
  subst this;rw[ho]at e;obtain rfl:=w8 e;rw[hc]at G;simp at G) e
 refine{ frame:=λi h h' st k tk=>⟨W.frame i h h' st.1 λb B o e=>?_,st.2.keep tk⟩,wt:=?_,lw:=λi h st b B=>by subst B;refine ah st.1.1 λo' F _=>?_;rw[F];simp,item:=?_,done:=?_,self:=λi s st=>W.self i s _ _ st.1 ⟨rfl,rfl⟩ }
 .rcases A4.mp B with rfl|B
  .exact k b o rfl e
  .obtain this:b=t:=by simpa using B
   subst this;refine bR st.1.2 λo' e' hc aX=>?_;refine bM aX λn hd=>?_;rw[e']at e;obtain rfl:=w8 e;exact tk b _ ad e' hc (uD _ _ hd)
 .intro i h st b o B e ht;subst B;refine bR st.1.1 λo' F Y _=>?_;rw[F]at e;obtain rfl:=w8 e;rw[Y]at ht;simp at ht
 .intro i v H s J R hs st;obtain hi:i<cvs.size:=by rw[<- hl];exact(z5.mp J).1
  refine W.item i s _ _ hi st.1 λc h' tk p O k=>(af c rfl ?_);obtain Q:=ar i s.heap h' st.1.1 k;refine bR (id O.1) λo F Y h3=>?_;refine ah (st.2.get J) λc' e1 e2=>?_
  have:c'=c:=by rw[A7]at e1;rw[e1]at p;obtain rfl:=w8 p;rfl
  subst this;exact ij (s:={ s with heap:=h',toks:=tk }) ht F Y (by decide) (cO (e2.keep Q) ⟨O,st.2.keep Q⟩ (ey h' tk rfl (λb o B e=>k b o (by simpa using B) e)))
 .intro H s R hs st;exact W.done s _ _ (by rw[<- hl];exact st.1) λh' tk k=>(cO rfl (ey h' tk rfl (λb o B e=>k b o (by simpa using B) e)) (mC R.ex λb o e hX=>k b o (λz=>hI (u5.mp z▸hX)) e))
theorem ve(ht:cD tgt=true)(hh:A.handled=none)(F:¬L.X I)(n:Nat) : Iter L A I (λb=>b=I) tgt none (eM n) (λi h=>IsRangeIter h I (0+(i:Nat)*1) ((n:Int)-(i:Nat)) 1) :=
 u3 ht F (Walks.range hh I 0 1 n) (by simp[eM]) (λi h st=>(jL _ _ st rfl (by decide) (by decide))) (λi h h' st k _ b G o e=>by
  obtain this:b=I:=by simpa using G
  exact k b o this e) λi v c h B p st=>by
  obtain⟨t,rfl⟩:=p;unfold eM at B;rw[B6]at B;refine ah (D7.mp B) λj J da=>?_;subst da
  have:j=i:=by refine bM (z5.mp J) λO e=>?_;simpa using e.symm
  subst this;obtain e:(0:Int)+(j:Int)*1=j:=by exact Qu
  rw[e];exact q5 _ _
theorem zZ(ht:cD tgt=true)(hh:A.handled=none)(O:¬L.X I){x:String}(hx:x∈aF)(t:Tok) : Iter L A I (λb=>b=I) tgt none [.str x] (λi h=>h.IsStrIter I "str_ascii_iterator" (Str.ofString x) t i):=by
 have key:∀x∈aF,(Str.ofString x).cps.size=1/\∀c,(Str.ofString x).cps[0]?=some c->(⟨#[c]⟩:Str)=Str.ofString x:=by
  intro x hx;obtain J:∀x∈aF,(Str.ofString x).cps.size=1/\(Str.ofString x).cps.toList.map (λc=>(⟨#[c]⟩:Str))=[Str.ofString x]:=by decide +kernel
  refine cq (J x hx) λa b=>?_;refine⟨a,λc hc=>?_⟩;rw[<- A7]at hc;rcases e:(Str.ofString x).cps.toList with _|⟨d,r⟩
  .rw[e]at hc;simp at hc
  .rw[e]at hc b;simp at hc b;rw[<- hc];exact b.1
 refine cq (key x hx) λk1 k2=>?_;refine u3 ht O (Walks.strAscii hh I (Str.ofString x) t) (by simp[k1]) (λi h ⟨o,Y,hc,_⟩=>(jL o _ Y hc (by decide) (by decide))) (λi h h' st k _ b Q o e=>by
  obtain B:b=I:=by simpa using Q
  exact k b o B e) λi v c h F p st=>?_
 refine cF p λG u hc dC=>?_;subst dC;rcases i with _|i
 .simp at F;subst F;rw[k2 G hc];exact q6 _ _
 .simp at F
end
section
variable{H:AH}{A:Around}{d:Nat}{Q:b8}{own own':Addr->Prop}
theorem ay.fresh(S:ay L own' H H' s s')(h:∀b,own' b->own b\/s.heap.get? b=none):ay L own H H' s s' :=⟨S.gens,S.os,(λb o e B F=>S.keep b o e B λz=>(h b z).elim F λq=>by rw[e]at q;exact sn q),S.dom,S.mono,S.live,S.tup,S.rel⟩
def Mv.step{W:Addr->Prop}(R:aD L H s.heap)(M:Mv W s s')(G:∀b,W b->H b=none)(J:∀b,W b->L.base.get? b=none)(wt:∀b o,W b->s.heap.get? b=some o->o.cls=.type "tuple"->L.X b)(ex:∀b,L.X b->s'.heap.get? b≠none) (lw:∀b,W b->s.heap.get? b≠none->s'.heap.get? b≠none):ay L W H H s s':=by
 refine cF M λh' tk aX k=>?_;subst aX;obtain F:TupKeep L.sa s.heap h':=λb o nx e hc _=>k b o (λB=>nx (wt b o B e hc)) e;exact⟨rfl,rfl,λb o e _ Y=>k b o Y e,λb o e=>.inl (FO e),λ_ h=>h,λb h=>(SH (W b)).elim (λB=>lw b B h) λB=>Ph h λo e=>k b o B e,F,
  ⟨λb o e=>k b o (λB=>nn (J b B) e) (R.base b o e),R.fresh,λa o e=>by refine ah (R.obj a o e) λob O Q=>?_;exact(af ob (k a ob (λB=>nn (G a B) e) O) (Q.keep F)),ex⟩⟩
structure WOK(L:Cx)(env:Env)(H:AH)(W:Addr->Prop):Prop where
 h:∀b,W b->H b=none
 b:∀b,W b->L.base.get? b=none
 l:¬W env.locals
 c:∀n c,env.cells.lookup n=some c->¬W c
def md{cl:Bool}{t:Tgt}{x:Expr}(h:fh cl nm t x=true):cD x=true:=pT h (λ_ _=>rfl) λ_ _ _=>rfl
theorem wF{cl:Bool}(hA:A.handled=none){W:Addr->Prop}{St:Nat->Heap->Prop}(Q:Iter L A I W tgt src vs St)(F:ae L env loc H s.heap)(R:aD L H s.heap)(J:WOK L env H W) (hs:dB src H) {i:Nat} (st:St i s.heap) {v:V} (hv:vs[i]?=some v) {t:Tgt} (hc:fh cl env.scope.names t tgt=true) {loc':Loc} (B:bz t v loc=some loc') {P:Shared->Prop} (hP:∀s',ae L env loc' H s'.heap->ay L (λb=>oi cl env b\/W b) H H s s'->St (i+1) s'.heap->P s') : a8 L A (pyNext (.ref I)) (λr ac=>∃c,r=some c/\a8 L A (letOwnedTupleGo tgt (.ref I) c) (λ_ ch=>a8 L A (assign tgt env c) (λ_ G=>P G) aG ch) aG ac) aG s:=by
 refine z8 (Q.item i v H s hv R hs st) (λr ac h₁=>?_) λ_ _ e=>e;obtain⟨c,rfl,h₁⟩:=h₁;refine(af c rfl (z8 h₁ (λ_ ch Y=>?_) λ_ _ e=>e));refine jb Y λrv O M=>?_;have Z:ay L W H H s ch:=M.step R J.h J.b (λb o B e hct=>Q.wt i _ st b o B e hct) (λb hX=>(SH (W b)).elim (λB=>Q.lw _ _ O b B) λB=>by refine cF M λh' tk e' k=>?_;exact e'▸Ph (R.ex b hX) λo e=>k b o B e) λb B _=>Q.lw _ _ O b B;obtain F1:ae L env loc H ch.heap:=F.step Z (λm hm=>by refine mx hm λo es ep e r=>?_;exact(yW o es ep (Z.keep _ _ e F.lH J.l) r)) J.c
 refine tW hA t tgt hc F1 Z.rel B rv λG F3 S3=>hP G F3 ((Z.weaken λ_ h=>.inr h).trans (S3.weaken λ_ h=>.inl h)) ?_;refine Q.frame _ _ _ O (λb o B e=>S3.keep b o e (J.h b B) λz=>?_) S3.tup;rcases mF z with rfl|⟨n,hn⟩
 .exact J.l B
 .exact J.c n b hn B
theorem wE{W:Addr->Prop}{St:Nat->Heap->Prop}(It:Iter L A I W tgt src vs St)(F:ae L env loc H s.heap)(R:aD L H s.heap)(Q:WOK L env H W) (Y:∀b,W b->s₀.heap.get? b=none) (S0:ay L own H' H s₀ s) (hs:dB src H) (st:St vs.length s.heap) {P:Shared->Prop} (hP:∀s',ae L env loc H s'.heap->ay L own H' H s₀ s'->(∀b o,¬W b->s.heap.get? b=some o->s'.heap.get? b=some o)->P s') : a8 L A (pyNext (.ref I)) (λr s'=>r=none/\P s') aG s:=by
 refine z8 (It.done H s R hs st) (λr s' h=>⟨h.1,?_⟩) λ_ _ e=>e;obtain⟨⟨h',tk,rfl,k⟩,ex⟩:=h.2;have O:TupKeep L.sa s.heap h':=λb o nx e hc _=>k b o (λJ=>nx (It.wt _ _ st b o J e hc)) e;obtain rel:aD L H h':=⟨λb o e=>k b o (λJ=>nn (Q.b b J) e) (R.base b o e),R.fresh,λa o e=>by refine ah (R.obj a o e) λob B G=>?_;exact(af ob (k a ob (λJ=>nn (Q.h a J) e) B) (G.keep O)),ex⟩;obtain k0:∀b o,s₀.heap.get? b=some o->∀o',s.heap.get? b=some o'->h'.get? b=some o':=λb o e o' e'=>k b o' (λhw=>nn (Y b hw) e) e';refine hP _ ⟨F.kind,F.glob,F.blt,?_,F.lH,F.lB,F.above,λn c e=>?_,λx v e q=>?_,F.hasCell,F.apart⟩ ⟨S0.gens,S0.os,λb o e J hn=>k0 b o e _ (S0.keep b o e J hn),S0.dom,S0.mono,λb h=>Ph (S0.live b h) λo e=>k b o (λhw=>h (Y b hw)) e,λb o nx e hc hd=>k0 b o e _ (S0.tup b o nx e hc hd),rel⟩ k
 .exact by refine ah F.ns λm dC hm=>?_;obtain⟨o,es,ep,e,r⟩:=dC;exact(af m (yW o es ep (k _ _ Q.l e) r) (λx v e q=>by refine ah (hm x v e q) λcv B G=>?_;exact(af cv B (G.keep O))))
 .exact by refine jb (F.cell n c e) λB G eN=>?_;refine cF eN λcv o Z h4=>?_;exact(cO B G (ey cv o (k _ _ (Q.c _ _ e) Z) h4))
 .exact by refine bN (F.cellv x v e q) λc cv B zq6 h4=>?_;obtain⟨o,G,Z⟩:=zq6;exact(bF c cv B (af o (k _ _ (Q.c _ _ B) G) Z) (h4.keep O))
def ae.mono{B:Loc}(F:ae L env loc H s.heap)(h:∀x v,B x=some v->loc x=some v):ae L env B H s.heap :=⟨F.kind,F.glob,F.blt,(by refine ah F.ns λm G hm=>?_;exact(af m G (λx v e k=>hm x v (h x v e) k))),F.lH,F.lB,F.above,F.cell,λx v e k=>F.cellv x v (h x v e) k,F.hasCell,F.apart⟩
mutual
theorem ls:∀{t:Tgt}{v:V}{l l':Loc},bz t v l=some l'->∀x,x∉dX t->l' x=l x
 | .nm y,v,l,l',h,x,hx=>by obtain rfl:=w8 h;exact r7 _ _ λe=>hx (e▸y4)
 | .tp ts,v,l,l',h,x,hx=>by
  cases v with
  |tup vs=>exact jP (ts:=ts) h x hx
  |_=>exact jB h
theorem jP:∀{ts:Tgts}{vs:List V}{l l':Loc},eU ts vs l=some l'->∀x,x∉sh ts->l' x=l x
 | .nil,vs,l,l',h,x,hx=>by
  rcases vs with _|⟨_,_⟩
  .obtain rfl:=w8 h;rfl
  .exact jB h
 | .cons t ts,vs,l,l',h,x,hx=>by
  rcases vs with _|⟨v,vs⟩
  .exact jB h
  .refine ah (Option.bind_eq_some_iff.mp h) λl1 B F=>?_;exact(jP F x λz=>hx (C9 _ z)).trans (ls B x λz=>hx (E0 _ z))
end
def qc{t:Tgt}{v:V}{l':Loc}{xs:List String}(h:bz t v (l.drop xs)=some l')(hx:∀x∈dX t,x∈xs):∀x u,(l.drop xs) x=some u->l' x=some u:=by
 exactλx u e=>(ls h x λz=>nn (if_pos (w9 _ (hx x z))) e).trans e
end
def nk{c:Prop}{d:Decidable c}{f:c->Option α}{a:α}(h:@dite (Option α) c d f (λ_=>none)=some a):∃x:c,f x=some a:=by
 cases d with
 |isTrue x=>exact⟨x,h⟩
 |isFalse _=>exact jB h
theorem gr{f:String}{x y:Expr}(h:ib nm f x=some y):∃id ip pos,x=.Call (.Name id ip) [y] [] pos/\dP nm f id=true:=by
 refine bM (nk h) λi h=>?_;revert h;refine Expr.Call.elim (motive_1:=λe=>∀i:e.ctorIdx=16,Expr.Call.elim (motive_1:=λ_=>Option Expr) e i (λg as ks _=>match as,dU g (λid=>ks.isEmpty&&dP nm f id)with | [x],true=>some x|_,_=>none)=some y->∃id ip pos,e=.Call (.Name id ip) [y] [] pos/\dP nm f id=true) x i (λg as ks p _ h=>?_) i;obtain h:(match(generalizing:=false) as,dU g (λid=>ks.isEmpty&&dP nm f id)with | [x],true=>some x|_,_=>none)=some y:=h;rcases as with _|⟨a,as⟩
 .exact jB h
 .cases as with
  |cons _ _=>exact jB h
  |nil =>
   rcases q:dU g (λid=>ks.isEmpty&&dP nm f id)with _|_
   .rw[q]at h;exact jB h
   .rw[q]at h;obtain rfl:=w8 h;refine bm q λid ip q=>?_;obtain q:=aa q;rw[I6.mp q.1];exact(yW id ip p rfl q.2)
theorem nF{m:String}{x y:Expr}(h:vc m x=some y):∃ap pos,x=.Call (.Attribute y (Str.ofString m) ap) [] [] pos/\cU y=true/\(ap.endLine==pos.line)=true:=by
 refine bM (nk h) λi h=>?_;revert h;refine Expr.Call.elim (motive_1:=λe=>∀i:e.ctorIdx=16,Expr.Call.elim (motive_1:=λ_=>Option Expr) e i (λg as ks p=>match as,ks with
  | [],[]=>if h:g.ctorIdx=20 then Expr.Attribute.elim (motive_1:=λ_=>Option Expr) g h λo n ap=>if(n==Str.ofString m&&(cU o&&(ap.endLine==p.line)))=true then some o else none else none
  |_,_=>none)=some y->∃ap pos,e=.Call (.Attribute y (Str.ofString m) ap) [] [] pos/\cU y=true/\(ap.endLine==pos.line)=true) x i (λg as ks p _ h=>?_) i
 cases as with
 |cons _ _=>exact jB h
 |nil=>cases ks with
  |cons _ _=>exact jB h
  |nil =>
   refine bM (nk h) λj h=>?_;revert h;refine Expr.Attribute.elim (motive_1:=λg=>∀j:g.ctorIdx=20,Expr.Attribute.elim (motive_1:=λ_=>Option Expr) g j (λo n ap=>if(n==Str.ofString m&&(cU o&&(ap.endLine==p.line)))=true then some o else none)=some y->∃ap pos,Expr.Call g [] [] p=.Call (.Attribute y (Str.ofString m) ap) [] [] pos/\cU y=true/\(ap.endLine==pos.line)=true) g j (λo n ap _ h=>?_) j;replace h:(if(n==Str.ofString m&&(cU o&&(ap.endLine==p.line)))=true then some o else none)=some y:=h;by_cases c:(n==Str.ofString m&&(cU o&&(ap.endLine==p.line)))=true
   .rw[if_pos c]at h;obtain rfl:=w8 h;obtain c:=aa c;rw[J1 c.1];exact(ey ap p rfl (aa c.2))
   .rw[if_neg c]at h;exact jB h
def iz(v:V):Prop:=match v with | .none=>True | .int _=>True | .bool _=>True | .str _=>True|_=>False
noncomputable def gZ(H:AH)(t:Tgt)(v:V)(l:Loc):Option Loc:=match t,v with
 | .nm x,v=>some (l.put x v)
 |t,.ref a=>match H a with|some (.list vs)=>bz t (.tup vs) l|_=>none
 |t,v=>bz t v l
mutual
noncomputable def Rh(L:Sx)(d:Nat):MS->Loc->AH->(Fl->Loc->AH->Prop)->Prop
 | .expr e,l,H,K=>aY L d e l H λv H1=>iz v/\K .next l H1
 | .asg (.tg t) e,l,H,K=>aY L d e l H λv H1=>∃l',gZ H1 t v l=some l'/\K .next l' H1
 | .asg (.at o f) e,l,H,K=>aY L d e l H λv H1=>aY L d o l H1 λov H2=>∃a c dx kvs,ov=.ref a/\H2 a=some (.inst c dx)/\f∈L.flds c/\H2 dx=some (.dict kvs)/\bI kvs/\kvs.length<=500/\K .next l (H2.set dx (.dict (dput kvs (.str f) v)))
 | .asg (.ix o i) e,l,H,K=>aY L d e l H λv H1=>aY L d o l H1 λov H2=>aY L d i l H2 λiv H3=>∃a,ov=.ref a /\
   ((∃vs n,H3 a=some (.list vs)/\iv=.int n/\0<=n/\n<vs.length/\vs.length<2^60/\K .next l (H3.set a (.list (vs.set n.toNat v))))\/(∃kvs,H3 a=some (.dict kvs)/\keyFits kvs iv/\kvs.length<2^20/\K .next l (H3.set a (.dict (dput kvs iv v)))))
 | .ret e,l,H,K=>aY L d e l H λv H1=>K (.ret v) l H1
 | .if1 c a b,l,H,K=>yT L d c l H λt H1=>if t=true then az L d a l H1 K else az L d b l H1 K
 | .whl c b,l,H,K=>∃I:Nat->Loc->AH->Prop,(∃n,I n l H)/\∀n l H,I n l H->yT L d c l H λt H1=>if t=true then az L d b l H1 (λfl l' H'=>match fl with | .next=>∃m,m<n/\I m l' H' | .ret v=>K (.ret v) l' H')else K .next l H1
 | .for1 t it b,l,H,K=>lh L d it l H λsrc vs H1=>kM src (λx l H' k=>∃l',bz t x l=some l'/\az L d b l' H' k) vs l H1 K
 | .rais,_,_,_=>False
noncomputable def az(L:Sx)(d:Nat):List MS->Loc->AH->(Fl->Loc->AH->Prop)->Prop
 | [],l,H,K=>K .next l H
 |x::xs,l,H,K=>Rh L d x l H λfl l' H'=>match fl with | .next=>az L d xs l' H' K | .ret v=>K (.ret v) l' H'
end
section
variable{x:Expr}
section
variable{H:AH}{ch:Shared}{A:Around}{d:Nat}{Q:b8}
theorem aj.adopt(S:aj L env H H' s ch)(hs:∀m,s.heap.Ns env.locals m->s.heap.get? env.locals≠none){G:Str->Option Value}(hm:s.heap.Ns env.locals G){D:Addr}(Y:s.heap.get? D=none){F:Obj}(O:ch.heap.get? D=some F)(Z:F.cls≠.type "tuple")(hH:H' D=none) (hB:L.base.get? D=none) {h':Heap} {t:Nat} {ob:Obj} {x:AO} (J:h'.get? D=some ob) (sb:Heap.SameBut D ch.heap h') (r:ORel L ch.heap ob x):aj L env H (H'.set D x) s { ch with heap:=h',toks:=t }:=by
 have tk:TupKeep L.sa ch.heap h':=λb o _ e hc _=>(sb.2 b λz=>by subst z;rw[O]at e;obtain rfl:=w8 e;exact Z hc).trans e;obtain live:∀b,ch.heap.get? b≠none->h'.get? b≠none:=λb h=>by
  by_cases B:b=D
  .subst B;rw[J];simp
  .rw[sb.2 b B];exact h
 have hL:env.locals≠D:=λz=>hs G hm (z▸Y);refine⟨⟨S.st.gens,S.st.os,λb o e B hn=>(sb.2 b λz=>by rw[z,Y]at e;cases e).trans (S.st.keep b o e B hn),λb o e=>?_,λb h=>?_,λb h=>live b (S.st.live b h),S.st.tup.trans tk,⟨λb o e=>?_,λb o e=>?_,λb o e=>?_,λb h=>live b (S.st.rel.ex b h)⟩⟩,λm hm=>?_⟩
 .by_cases B:b=D
  .subst B;exact .inr Y
  .rw[p6 _ _ B]at e;exact S.st.dom b o e
 .by_cases B:b=D
  .subst B;simp
  .rw[p6 _ _ B];exact S.st.mono b h
 .exact(sb.2 b λz=>by rw[z,hB]at e;cases e).trans (S.st.rel.base b o e)
 .by_cases B:b=D
  .subst B;exact hB
  .rw[p6 _ _ B]at e;exact S.st.rel.fresh b o e
 .by_cases B:b=D
  .subst B;rw[AH.set_self]at e;obtain rfl:=w8 e;exact(af ob J (r.keep tk))
  .rw[p6 _ _ B]at e;refine ah (S.st.rel.obj b o e) λQ h1 h2=>?_;exact(af Q ((sb.2 b B).trans h1) (h2.keep tk))
 .refine mx (S.ns m hm) λo es ep e r=>?_;exact(yW o es ep ((sb.2 _ hL).trans e) r)
def aD.free(R:aD L H s.heap){D:Addr}(B:s.heap.get? D=none):H D=none/\L.base.get? D=none:=by
 constructor
 .rcases e:H D with _|x
  .rfl
  .refine ah (R.obj D x e) λob F _=>?_;rw[B]at F;exact ns F
 .rcases e:L.base.get? D with _|o
  .rfl
  .rw[R.base D o e]at B;exact sn B
def yL(B:Expr)(o i:Value):subscripted B false o i=operate [i,o] (getItem o i)\/subscripted B false o i=operate [o,i] (getItem o i):=by
 cases B with
 |Slice _ _ st _=>cases st with
  |none=>exact .inl rfl
  |some _=>exact .inr rfl
 |_=>exact .inr rfl
theorem dW{F B:Expr}{o i:Value}{T id:String}{P:a9}(hT:s.TypeIs o T)(hl:typeLookup (.type T) "__getitem__"=pure (some (.builtin id)))(h:a8 L A (getItem o i) P E s) : a8 L A (subscriptTail F B o i) P E s:=by refine p0 ?_;rw[getitemInPython_of_ne hT.not_modules];refine p0 (SF hT hl ?_);refine u4 (p0 ?_);rcases yL B o i with e|e <;>(rw[e];exact wpAny_operating (z8 h (λr J G=>p0 (wpAny_letTemporaryGo (u4 G))) λ_ _ x=>x))
theorem vL(C:aJ L.toSx)(F:ae L env loc H s.heap)(R:aD L H s.heap)(hr:Room A d){G B:Expr}{v i:V}{Z:Value}(h:vb H Q v i)(J:VR L.sa s.heap v cv)(ri:VR L.sa s.heap i Z) : a8 L A (subscriptTail G B cv Z) (EPost L env H s Q) aG s:=by
 have g:=OH C F R hr h J ri;cases v with
 |tup vs =>refine bN J.tup_inv λa cvs aX ht _=>?_;subst aX;exact dW ht.typeIs PySem.F.slot_tuple_getitem.lookup g
 |str x =>obtain⟨t,rfl⟩:=J.str_inv;exact dW (typeIs_str _ _ _) PySem.F.slot_str_getitem.lookup g
 |ref a =>
  obtain rfl:=J.ref_inv;rcases h with⟨vs,_,_,O,_⟩|⟨kvs,_,O,_⟩
  .refine cF (au R O) λcvs n Y _=>?_;exact dW (T:="list") (af _ Y rfl) PySem.F.slot_list_getitem.lookup g
  .refine cF (cu R O) λes n Y _=>?_;exact dW (T:="dict") (af _ Y rfl) PySem.F.slot_dict_getitem.lookup g
 |_=>exact(h:False).elim
def vM(C:aJ L.toSx)(F:ae L env loc H s.heap)(R:aD L H s.heap){G B:Expr}{v:V}{O hc:Value}{lo hi:Option Nat}{Y:Addr}(h:GD H Q L.toSx v lo hi)(J:VR L.sa s.heap v cv)(hs:s.heap.IsSliceOf Y O hc .none)(bl:BR lo O)(Z:BR hi hc) : a8 L A (subscriptTail G B cv (.ref Y)) (EPost L env H s Q) aG s:=by
 have g:=OM C F R h J hs bl Z (A:=A);cases v with
 |tup vs =>refine bN J.tup_inv λa cvs da ht _=>?_;subst da;exact dW ht.typeIs PySem.F.slot_tuple_getitem.lookup g
 |str x =>obtain⟨t,rfl⟩:=J.str_inv;exact dW (typeIs_str _ _ _) PySem.F.slot_str_getitem.lookup g
 |scr =>obtain rfl:=J.scr_inv;refine ah C.scr λcvs eN _=>?_;obtain⟨o,h1,h2,_⟩:=eN;exact dW (T:="list") (af o (R.base _ _ h1) h2) PySem.F.slot_list_getitem.lookup g
 |_=>exact(h:False).elim
theorem Gp(F:ae L env loc H s.heap)(R:aD L H s.heap)(r:VRs L.sa s.heap vs cvs)(q:Q (.tup vs) H):EPost L env H s Q (.ref s.heap.objs.size) { s with heap:=s.heap.push { cls:=.type "tuple",data:=.seq cvs.toArray } } :=EPost.tuple F R (k:=s.toks) q r
theorem Gm(F:ae L env loc H s.heap)(R:aD L H s.heap)(r:VRs L.sa s.heap vs cvs)(q:fresh H Q (.list vs)):EPost L env H s Q (.ref s.heap.objs.size) { s with heap:=s.heap.push { cls:=.type "list",data:=.seq cvs.toArray } } :=EPost.push F R (k:=s.toks) q (ey _ 0 rfl r)
noncomputable def Ad:ME->Nat
 | .cst _=>19 | .neg _=>3 | .var _=>23 | .tup _=>25 | .lst _=>24 | .dct _ _=>6 | .bin _ _ _=>2 | .cmp1 _ _ _=>15 | .cmp2 _ _ _ _ _=>15 | .and2 _ _=>0 | .or2 _ _=>0 | .not1 _=>3 | .ite _ _ _=>5
 | .idx _ _=>21 | .slc _ _ _=>21 | .attr _ _=>20 | .comp _ _=>8 | .call _ _=>16 | .new _ _=>16 | .meth _ _ _=>16 | .prim _ _=>16
def Hv{c:Prop}{d:Decidable c}{f:c->Bool}(h:@dite Bool c d f (λ_=>false)=true):c:=(bj h).1
def iL{e:ME}(h:aU nm e x=true):x.ctorIdx=Ad e:=by cases e <;> exact Hv h
def wJ(e:ME):(Ad e != 7&&Ad e != 22)=true:=by cases e <;> rfl
def gk{e:ME}(h:aU nm e x=true):lP x=true:=by show(x.ctorIdx != 7)=true;rw[iL h];exact(aa (wJ e)).1
theorem fA{op:CmpOp}(h:lP x=true):behindInMarks op x=false:=by cases x <;> first|rfl|exact ai h
def gy(h:lP x=true)(env:Env)(v:Value):foldedSetIterable x env v=pure v:=by cases x <;> first|rfl|exact ai h
def cK{e:ME}(h:aU nm e x=true)(rest:List Expr)(env:Env):starEach (x::rest) env=(false,eval x env)::starEach rest env:=by
 have h:(x.ctorIdx != 22)=true:=by rw[iL h];exact(aa (wJ e)).2
 cases x <;> first|rfl|exact ai h
theorem gA{o:Expr}(h:cU o=true)(f:Str)(env:Env)(t:Sem Value):attributeBase o f env t=t:=by
 cases o with
 |Call g as ks p=>cases g with
  |Name id q=>cases as with
   |nil=>cases ks with
    |nil=>exact ai h
    |cons _ _=>rfl
   |cons _ _=>rfl
  |_=>rfl
 |_=>rfl
end
end
section
variable{H:AH}{ch:Shared}{A:Around}{d:Nat}{Q:b8}
theorem dt:∀{es:MEs}{xs:List Expr},dq nm es xs=true->∀(pos:Pos)(env:Env),(backTo pos (starEach xs env)).any (·.1)=false/\(backTo pos (starEach xs env)).all (!·.1)=true/\(starEach xs env).all (!·.1)=true
 | .nil,[],_,pos,env=>⟨rfl,rfl,rfl⟩
 | .nil,_::_,h,_,_=>by exact ai h
 | .cons _ _,[],h,_,_=>by exact ai h
 | .cons e r,x::xs,h,pos,env=>by simp only[dq,Bool.and_eq_true]at h;refine jb (dt h.2 pos env) λa b c=>?_;rw[cK h.1];unfold backTo at *;rw[C4];exact⟨a,b,c⟩
def eA{e:ME}{x:Expr}(h:aU nm e x=true)(xs:List Expr)(pos:Pos)(env:Env):backTo pos (starEach (x::xs) env)=(false,eval x env)::backTo pos (starEach xs env):=by rw[cK h];rfl
theorem vK{es:MEs}{xs:List Expr}(hc:dq nm es xs=true){f:Value}{P:Args->Shared->Prop}(h0:es=.nil->P ⟨[],[]⟩ s) (h:a8 L A (spliced (backTo pos (starEach xs env))) (λvs ac=>P ⟨vs,[]⟩ ac) E s):a8 L A (evalArgs f true (backTo pos (starEach xs env)) []) P E s:=by
 rcases xs with _|⟨x,xs⟩
 .rcases es with _|⟨e,r⟩
  .exact evalArgs_nil3 (h0 rfl)
  .exact ai hc
 .rcases es with _|⟨e,r⟩
  .exact ai hc
  .simp only[dq,Bool.and_eq_true]at hc;rw[eA hc.1]at h ⊢;exact Calls.evalArgs_plain h
def kX{es:MEs}{xs:List Expr}(hc:dq nm es xs=true){f:Addr}{first:List Value}(hk:keepIn L.K (.ref f)=true){P:a9} (h:a8 L A (evalArgs (.ref f) true (backTo pos (starEach xs env)) []) (λa ac=>L.K.In ac.heap/\a8 L A (call (.ref f) (first++a.pos) a.kw) P E ac) E s) : a8 L A (callWith pos (.ref f) first (backTo pos (starEach xs env)) []) P E s:=by obtain hp:=(dt hc pos env).1;exact callWith_of (P:=λh=>L.K.In h) (by rw[hp];rfl) (keeps_K hk) h
def qG{f:Addr}(h:CallS L.toSx d f vs H Q)(F:ae L env loc H s.heap)(R:aD L H s.heap)(hr:Room A d)(G:VRs L.sa s.heap vs cvs):a8 L A (call (.ref f) cvs) (EPost L env H s Q) aG s:=by
 refine wpAny_call (SP (h L.X L.hX A s cvs hr R F.top G) λr s' B=>?_);unfold uE at B;split at B
 .refine bN B λv H' a b c=>?_;exact(bF v H' a b (c.toE F.lH))
 .exact B.elim
theorem OL(C:aJ L.toSx){c:String}{D f:Addr}(F:ae L env loc H s.heap)(R:aD L H s.heap)(hD:L.cls c=some D)(hf:L.meth c "__init__"=some f)(rv:VRs L.sa s.heap vs cvs)(hr:Room A (d+1)) (h:∀x dx,H x=none->H dx=none->x≠dx->CallS L.toSx d f (.ref x::vs) ((H.set dx (.dict [])).set x (.inst c dx)) λr H2=>r=.none/\Q (.ref x) H2) : a8 L A (call (.ref D) cvs) (EPost L env H s Q) aG s:=by
 have M:=C.mks c D f hD hf;obtain X:L.K.In s.heap:=aD.kin C R;refine wpAny_call ?_;obtain⟨hh,g,B,t,os⟩:=s;refine make_core (makes_of X M.mks) (looks_findIn X M.nf) (λself=>bind_fn X self M.fn) (.inl rfl) ?_;obtain n1:hh.get? hh.objs.size=none:=B8 (z7 _);obtain⟨Y,H1⟩:=r6 (own:=eE) (s:=⟨hh,g,B,t,os⟩) (s':=⟨hh.push emptyDict,g,B,t,os⟩) (ob:=emptyDict) (x:=.dict []) R rfl rfl n1 (λb o e=>y6 _ e) (A9 _ rfl) (bF (#[]) 0 rfl rfl dictOK.nil);obtain n2:(hh.push emptyDict).get? (hh.push emptyDict).objs.size=none:=B8 (z7 _);obtain⟨Z,H2⟩:=r6 (own:=eE) (s:=⟨hh.push emptyDict,g,B,t,os⟩) (s':=⟨(hh.push emptyDict).push (instObj D hh.objs.size),g,B,t,os⟩) (ob:=instObj D hh.objs.size) (x:=.inst c hh.objs.size) Y.rel rfl rfl n2
  (λb o e=>y6 _ e) (A9 _ rfl) (af D hD rfl)
 rw[Heap.size_push]at Z H2;obtain G:hh.objs.size+1≠hh.objs.size:=by exact Qv
 have S:=Y.trans Z;obtain J:H (hh.objs.size+1)=none:=by rw[p6 _ _ G]at H2;exact H2
 have O:Room (A.under (.builtin "type.__call__" ⟨.ref D::cvs,[]⟩)) d:=by
  refine(cO hr.1 ?_ ?_)
  .have:=hr.2.1
   have w:(Code.builtin "type.__call__" ⟨.ref D::cvs,[]⟩).weight=1:=rfl;exact Qw w this
  .have:=hr.2.2
   have w:(Code.builtin "type.__call__" ⟨.ref D::cvs,[]⟩).cUnits=1:=rfl;exact Qx w this
 refine SP (h _ _ J H1 G L.X L.hX _ ⟨(hh.push emptyDict).push (instObj D hh.objs.size),g,B,t,os⟩ (.ref (hh.objs.size+1)::cvs) O S.rel (by obtain⟨b,h1,h2⟩:=F.top;exact(af b h1 (S.live b h2))) (VRs.cons (q7 _) (rv.keep S.tup))) λr s' hr=>?_;unfold uE at hr;split at hr
 .refine bN hr λv H' aX b cS=>?_;obtain⟨a1,a2⟩:=aX;subst a1;exact⟨b.none_inv,(bF _ _ a2 (q7 _) ((S.trans cS).toE F.lH))⟩
 .exact hr.elim
end
def aP(L:Cx)(p:Prim):Prop:=∀{env:Env}{loc:Loc}{H:AH}{s:Shared}{A:Around}{d:Nat}{Q:b8}{id:Str}{x y:Expr}{pos ip:Pos},ae L env loc H s.heap->aD L H s.heap->Room A d->dP env.scope.names (tO p) id=true ->
 rN env.scope.names p x=some y->(∀rest,starEach (y::rest) env=(false,eval y env)::starEach rest env) ->
 a8 L A (eval y env) (EPost L env H s λv H1=>iA H1 Q p v) aG s->a8 L A (eval (.Call (.Name id ip) [x] [] pos) env) (EPost L env H s Q) aG s
section
variable{H:AH}{A:Around}{d:Nat}
def bk{t:Sem Value}{R:b8}{P:a9}(h:a8 L A t (EPost L env H s R) aG s)(k:∀v H1 c s1,R v H1->VR L.sa s1.heap v c->aj L env H H1 s s1->P c s1):a8 L A t P aG s :=z8 h (λc s1 ⟨v,H1,a,b,S⟩=>k v H1 c s1 a b S) λ_ _ e=>e
abbrev Hb(L:Cx)(env:Env)(H:AH)(s:Shared)(Q:Bool->AH->Prop)(b:Bool)(s':Shared):Prop:=∃H',Q b H'/\aj L env H H' s s'
theorem rW{Q:b8}{t:Sem Value}{Qb:Bool->AH->Prop}(h:a8 L A t (EPost L env H s Q) aG s)(q:∀v H',Q v H'->∃b,v=.bool b/\Qb b H'){P:b7}(B:∀b H' s',Qb b H'->aj L env H H' s s'->P b s') : a8 L A t (λc ac=>a8 L A (truthy c) P aG ac) aG s :=bk h λv H1 c s1 a r S=>by refine ah (q v H1 a) λb aX F=>?_;subst aX;rw[r.bool_inv];exact N8 (B b H1 s1 F S)
end
section
variable{K:pN->List V->AH->Prop}
set_option tactic.hygienic true
def ItPost(L:Cx)(env:Env)(A:Around)(tgt:Expr)(H:AH)(s:Shared)(K:pN->List V->AH->Prop)(c:Value)(s':Shared):Prop :=∃I W vs src St H',K src vs H'/\c=.ref I/\St 0 s'.heap/\Iter L A I W tgt src vs St/\WOK L env H' W/\(∀b,W b->s.heap.get? b=none)/\dB src H'/\aj L env H H' s s'
section
variable{H:AH}{A:Around}{d:Nat}
def ItPost.after{H₀:AH}{c:Value}(S:aj L env H₀ H s₀ s)(h:ItPost L env A tgt H s K c s'):ItPost L env A tgt H₀ s₀ K c s':=by
 obtain⟨I,W,vs,src,St,H',a,b,G,B,J,O,hs,F⟩:=h;exact⟨I,W,vs,src,St,H',a,b,G,B,J,λx hx=>by
  rcases e:s₀.heap.get? x with _|o
  .rfl
  .exact absurd (O x hx) (S.st.live x (by simp[e])),hs,S.trans F⟩
theorem ItPost.mono{B:pN->List V->AH->Prop}{c:Value}(h:ItPost L env A tgt H s K c s')(q:∀src vs H',K src vs H'->B src vs H'):ItPost L env A tgt H s B c s':=by obtain⟨I,W,vs,src,St,H',a,r⟩:=h;exact⟨I,W,vs,src,St,H',q _ _ _ a,r⟩
theorem ItPost.pushed(F:ae L env loc H s.heap)(R:aD L H s.heap){ob:Obj}{St:Nat->Heap->Prop}{t:Nat}(q:K src vs H)(hs:dB src H)(st:St 0 (s.heap.push ob)) (J:¬L.X s.heap.objs.size->Iter L A s.heap.objs.size (λb=>b=s.heap.objs.size) tgt src vs St):ItPost L env A tgt H s K (.ref s.heap.objs.size) { s with heap:=s.heap.push ob,toks:=t }:=by
 have G:s.heap.get? s.heap.objs.size=none:=B8 (z7 _);obtain S:aj L env H H s { s with heap:=s.heap.push ob,toks:=t }:=(q9 (s':={ s with heap:=s.heap.push ob,toks:=t }) R rfl rfl λb o e=>y6 _ e).toE F.lH;refine cq (R.free G) λf1 f2=>?_;refine⟨_,_,vs,src,St,H,q,rfl,st,J (R.nx G),⟨λb B=>B▸f1,λb B=>B▸f2,λB=>?_,λn c e B=>?_⟩,λb B=>B▸G,hs,S⟩
 .refine ah F.ns λm aX _=>?_;obtain⟨o,_,_,e,_⟩:=aX;rw[B,G]at e;exact ns e
 .refine jb (F.cell n c e) λ_ _ bV=>?_;refine cF bV λ_ o e' _=>?_;rw[B,G]at e';exact ns e'
theorem Gk(hh:A.handled=none)(F:ae L env loc H s.heap)(R:aD L H s.heap)(ht:cD tgt=true){v:V}(h:jy v H K)(O:VR L.sa s.heap v cv) : a8 L A (pyIter cv) (ItPost L env A tgt H s K) aG s:=by
 unfold jy at h;split at h
 .rename_i vs;obtain⟨hz,q⟩:=h;refine uC O λa cvs n da nx dC r=>?_;subst da;obtain⟨o,G,hc,hd⟩:=dC;obtain hT:s.heap.IsTuple a cvs:=⟨o,G,hc,n,hd⟩;obtain J:a≠s.heap.objs.size:=E9 (G9 G);refine wpAny_pyIter_tuple hT (ItPost.pushed (t:=s.toks) F R (St:=λi h=>(h.IsTupleIter s.heap.objs.size a i/\h.IsTuple a cvs)/\VRs L.sa h vs cvs.toList) q trivial ?_ λB=>vf ht hh B J nx r);exact⟨⟨(aK _ (A9 _ rfl) rfl rfl),⟨o,y6 _ G,hc,n,hd⟩⟩,r.keep (p7 λb o e=>y6 _ e)⟩
 .rename_i x;refine cq h λhx q=>?_;apply O.str_el;intro t;obtain key:∀x∈aF,strIterType (Str.ofString x)="str_ascii_iterator":=by decide +kernel
  refine wpAny_pyIter_strU ?_;rw[key x hx];exact ItPost.pushed (t:=s.toks) F R (St:=λi h=>h.IsStrIter s.heap.objs.size "str_ascii_iterator" (Str.ofString x) t i) q trivial (aK _ (A9 _ rfl) rfl rfl) λB=>zZ ht hh B hx t
 .rename_i a;apply O.ref_el;refine bR h λvs Q hz q=>?_;refine cF (au R Q) λcvs n G Y=>?_;refine wpAny_pyIter_list (aK _ G rfl (gV n rfl)) (ItPost.pushed (t:=s.toks) F R (St:=λi h=>h.IsListIter s.heap.objs.size a i) q Q (aK _ (A9 _ rfl) rfl rfl) λB=>yf ht hh B vs)
 .exact h.elim
theorem rU(hh:A.handled=none)(F:ae L env loc H s.heap)(R:aD L H s.heap)(ht:cD tgt=true){r:Addr}{n:Int}{t u w:Tok}(G:PySem.IsRange s.heap r 0 n 1 t u w)(h0:0<=n)(O:n<=1000)(h:K none (eM n.toNat) H) : a8 L A (pyIter (.ref r)) (ItPost L env A tgt H s K) aG s:=by
 have B:Builtin.Range.rangeSize 0 n 1=((n.toNat:Nat):Int):=by rw[rangeSize_one];split <;>(first|exact Ou h0|exact Ov (by assumption))
 have J:Builtin.Range.small 0 n 1=true:=by unfold Builtin.Range.small;rw[B];unfold Builtin.Range.rangeFitsLong;simp;exact Ow h0 O
 refine wpAny_pyIter_range G J (ItPost.pushed (t:=s.toks) F R (St:=λi h=>IsRangeIter h s.heap.objs.size (0+(i:Nat)*1) (((n.toNat:Nat):Int)-(i:Nat)) 1) h trivial ?_ λG=>ve ht hh G n.toNat);rw[B];exact A9 _ rfl
end
end
section
set_option genCtorIdx false
inductive CK where
 |list (elt:Expr)
noncomputable def CK.ex(gens:List Comprehension)(sc:Scope)(pos:Pos):CK->Expr
 | .list elt=>.ListComp elt gens sc pos
def CK.cl(ck:CK)(gens:List Comprehension)(sc:Scope)(pos:Pos):clausesOf (ck.ex gens sc pos)=gens:=by cases ck <;> rfl
def CK.qt(ck:CK){depth:Nat}{it acc:Value}:(Code.compLoop (ck.ex gens sc pos) depth it acc env).quiet=true:=by cases ck <;> rfl
def sA(M:Model)(A:Around)(env:Env)(c:Addr)(E:a9):CK->(Shared->Prop)->Shared->Prop
 | .list elt,P,s=>wpAny M A (eval elt env) (λx ac=>wpAny M A (call (.builtin "list.append") [.ref c,x]) (λ_ ch=>P ch) E ac) E s
section
variable{A:Around}
theorem Pq{F:List Expr}(hi:F.length<=1){k:Bool->Sem Fin}{P:Fin->Shared->Prop}{J O:Shared->Prop}(h:match(generalizing:=false) F with | []=>J s|x::_=>wpAny M A (isTrue x env (eval x env)) (λok B=>if ok=true then J B else O B) E s) (Q:∀s,J s->wpAny M A (k true) P E s) (Y:∀s,O s->wpAny M A (k false) P E s):wpAny M A ((forIn F true λc r=>if r=true then do let ok <- isTrue c env (eval c env);pure (ForInStep.yield ok)else pure (ForInStep.yield r)) >>= k) P E s:=by
 rcases F with _|⟨x,r⟩
 .exact p0 (u4 (Q s h))
 .cases r with
  |cons _ _=>exact absurd hi (by simp)
  |nil =>
   rw[Sh];refine p0 (p0 (p0 (z8 h (λok B G=>u4 (u4 ?_)) λ_ _ e=>e)));rcases ok with _|_
   .exact Y B G
   .exact Q B G
theorem yO(ck:CK){depth:Nat}{it:Value}{c:Addr}{g:Comprehension}(hg:gens[depth]?=some g)(Y:gens[depth+1]?=none)(ha:g.is_async=0)(hi:g.ifs.length<=1){P:Fin->Shared->Prop} (h:wpAny M A (pyNext it) (λr ac=>match r with
   |none=>P (.done .next) ac
   |some v=>wpAny M A (letOwnedTupleGo g.target it v) (λ_ ch=>wpAny M A (assign g.target env v) (λ_ B=>match g.ifs with
     | []=>sA M A env c E ck (λs'=>P (.again (.compLoop (ck.ex gens sc pos) depth it (.ref c) env)) s') B
     |x::_=>wpAny M A (isTrue x env (eval x env)) (λok F=>if ok=true then sA M A env c E ck (λs'=>P (.again (.compLoop (ck.ex gens sc pos) depth it (.ref c) env)) s') F
       else P (.again (.compLoop (ck.ex gens sc pos) depth it (.ref c) env)) F) E B) E ch) E ac) E s) :
  wpAny M A (compTurn (ck.ex gens sc pos) depth it (.ref c) env) P E s:=by
 obtain⟨target,Z,ifs,as⟩:=g;cases(ha:as=0);rcases ck with⟨elt⟩
 all_goals
  unfold compTurn;dsimp only[CK.ex];rw[hg];refine p0 (O8 (p0 (z8 h (λr ac h₁=>?_) λ_ _ e=>e)));rcases r with _|v
  .exact u4 h₁
  .refine p0 (z8 h₁ (λ_ ch G=>p0 (z8 G (λ_ B J=>?_) λ_ _ e=>e)) λ_ _ e=>e);rw[Y];exact Pq hi J (λs h=>p0 (p0 (z8 h (λx F O=>p0 (z8 O (λ_ ad Q=>u4 (u4 Q)) λ_ _ e=>e)) λ_ _ e=>e))) λs h=>u4 h
theorem yP(ck:CK){depth:Nat}{it:Value}{c:Addr}{g O:Comprehension}(hg:gens[depth]?=some g)(a3:gens[depth+1]?=some O)(ha:g.is_async=0)(a2:O.is_async=0)(hi:g.ifs=[])(hs:lP O.iter=true) {P:Fin->Shared->Prop} (h:wpAny M A (pyNext it) (λr ac=>match r with
   |none=>P (.done .next) ac
   |some v=>wpAny M A (letOwnedTupleGo g.target it v) (λ_ ch=>wpAny M A (assign g.target env v) (λ_ B=>wpAny M A (eval O.iter env) (λx F=>wpAny M A (pyIter x) (λav G =>
     wpAny M A (runOwn (.compStart (ck.ex gens sc pos) (depth+1) av (.ref c) env) env) (λ_ J=>P (.again (.compLoop (ck.ex gens sc pos) depth it (.ref c) env)) J) E G) E F) E B) E ch) E ac) E s) :
  wpAny M A (compTurn (ck.ex gens sc pos) depth it (.ref c) env) P E s:=by
 obtain⟨target,iter,ifs,as⟩:=g;obtain⟨a0,a4,a5,a1⟩:=O;cases(ha:as=0);cases(a2:a1=0);cases(hi:ifs=[]);rcases ck with⟨elt⟩
 all_goals
  unfold compTurn;dsimp only[CK.ex];rw[hg];refine p0 (O8 (p0 (z8 h (λr ac h₁=>?_) λ_ _ e=>e)));rcases r with _|v
  .exact u4 h₁
  .refine p0 (z8 h₁ (λ_ ch Q=>p0 (z8 Q (λ_ B Y=>?_) λ_ _ e=>e)) λ_ _ e=>e);rw[a3];refine p0 (u4 ?_);refine p0 (z8 Y (λx F Z=>p0 (O8 ?_)) λ_ _ e=>e);exact p0 (wpAny_of_eq (gy hs env x) (p0 (E6 (z8 Z (λav G ad=>p0 (z8 ad (λ_ J ar=>u4 ar) λ_ _ e=>e)) λ_ _ e=>e))))
end
end
section
variable{H:AH}{A:Around}{d:Nat}{R:Result->Shared->Prop}
def lY(ck:CK){depth:Nat}{c:Addr}{g:Comprehension}(G:gens[depth]?=some g)(ha:g.is_async=0) (self:a8 L A (pyIter (.ref I)) (λc s'=>c=.ref I/\s'=s) aG s) (h0:codeAny (model L.prog L.w) A (.compLoop (ck.ex gens sc pos) depth (.ref I) (.ref c) env) R s) : codeAny (model L.prog L.w) A (.compStart (ck.ex gens sc pos) depth (.ref I) (.ref c) env) R s:=by
 have B:a8 L A (compStart (ck.ex gens sc pos) depth (.ref I) (.ref c) env) (λB s'=>match B with | .done f=>R (.ok f) s' | .again F=>F.quiet=true/\codeAny (model L.prog L.w) A F R s') aG s:=by unfold compStart;rw[ck.cl,G];simp only[Option.elim,ha];refine J4 (λh=>by simp at h) λ_=>?_;refine p0 (wpAny_askSetting ?_);refine J4 (λ_=>u4 ⟨ck.qt,h0⟩) λ_=>?_;refine p0 (R4 ?_);refine p0 (O8 ?_);refine p0 (z8 self (λF s' h'=>?_) λ_ _ e=>e);obtain⟨rfl,rfl⟩:=h';exact u4 ⟨ck.qt,h0⟩
 refine codeAny_of_tree ?_;rcases ck with⟨elt⟩;show wpAny _ _ ((compStart (CK.ex gens sc pos (.list elt)) depth (.ref I) (.ref c) env).onRaise (λx=>do noteFrame x env;standAt theWindowsPlace)) _ _ s;exact wpAny_notedAt (z8 B (λ_ _ h=>h) λ_ _ e=>e.elim)
def WOK.step{own:Addr->Prop}{W:Addr->Prop}(B:WOK L env H W)(S:ay L own H H' s s')(lw:∀b,W b->s.heap.get? b≠none):WOK L env H' W :=
 ⟨λb F=>by
  rcases e:s.heap.get? b with _|o
  .exact absurd e (lw b F)
  .exact S.dom_none e (B.h b F),B.b,B.l,B.c⟩
def jD{b:Addr}(h:oi false env b):b=env.locals:=by
 rcases h with h|⟨h,_⟩
 .exact h
 .exact ai h
theorem AU(ck:CK){depth:Nat}{c:Addr}{W:Addr->Prop}{St:Nat->Heap->Prop}(Q:(Shared->Prop)->Shared->Prop)(hA:A.handled=none) (hturn:∀{P:Fin->Shared->Prop}{s:Shared},a8 L A (pyNext (.ref I)) (λr ac=>match r with
    |none=>P (.done .next) ac
    |some v=>a8 L A (letOwnedTupleGo tgt (.ref I) v) (λ_ ch=>a8 L A (assign tgt env v) (λ_ G=>Q (λs'=>P (.again (.compLoop (ck.ex gens sc pos) depth (.ref I) (.ref c) env)) s') G) aG ch) aG ac) aG s ->
   a8 L A (compTurn (ck.ex gens sc pos) depth (.ref I) (.ref c) env) P aG s)
  (It:Iter L A I W tgt src vs St) {t:Tgt} (hct:fh false env.scope.names t tgt=true) {lb:Loc} {stepW:Loc->AH->(AH->Prop)->Prop}
  (hbody:∀{x:V}{l':Loc}{H1:AH}{s1:Shared}{k:AH->Prop}{Pst:Shared->Prop},bz t x lb=some l'->ae L env l' H1 s1.heap->aD L H1 s1.heap->stepW l' H1 k ->
   (∀s' H2,k H2->ae L env lb H2 s'.heap->ay L (λb=>b=env.locals) H1 H2 s1 s'->Pst s')->Q Pst s1)
  {H₀:AH} {s₀:Shared} {own₀:Addr->Prop} (hown:own₀ env.locals) {Lo:Addr} {Z:Obj} (Y:s.heap.get? Lo=some Z) (O:H Lo=none) (hLn:Lo≠env.locals) (hLW:¬W Lo)
  (F:ae L env lb H s.heap) (hW:WOK L env H W) (hW0:∀b,W b->s₀.heap.get? b=none) (S0:ay L own₀ H₀ H s₀ s) (st:St 0 s.heap) {K:AH->Prop}
  (h:fk src (λx H' k=>∃l',bz t x lb=some l'/\stepW l' H' k) vs H K)
  (hR:∀s' H',K H'->ae L env lb H' s'.heap->ay L own₀ H₀ H' s₀ s'->s'.heap.get? Lo=some Z->R (.ok .next) s') :
  codeAny (model L.prog L.w) A (.compLoop (ck.ex gens sc pos) depth (.ref I) (.ref c) env) R s:=by
 let Inv:Nat->Shared->Prop:=λn s=>∃i H,n=vs.length-i/\i<=vs.length/\fk src (λx H' k=>∃l',bz t x lb=some l'/\stepW l' H' k) (vs.drop i) H K/\ae L env lb H s.heap/\WOK L env H W/\ay L own₀ H₀ H s₀ s/\St i s.heap/\s.heap.get? Lo=some Z/\H Lo=none
 have tree:∀n s,Inv n s->a8 L A (compTurn (ck.ex gens sc pos) depth (.ref I) (.ref c) env) (λfin s'=>match fin with | .done f=>R (.ok f) s' | .again c'=>c'=(.compLoop (ck.ex gens sc pos) depth (.ref I) (.ref c) env)/\∃m,m<n/\Inv m s') aG s:=by
  rintro n s ⟨i,H,rfl,hi,hf,F,hW,S0,st,Y,O⟩;refine hturn ?_;rcases e:vs.drop i with _|⟨x,rest⟩
  .rw[e]at hf;obtain hil:i=vs.length:=by obtain ar:=List.drop_eq_nil_iff.mp e;exact Ox hi ar
   subst hil;refine z8 (wE It F S0.rel hW hW0 S0 hf.1 st (P:=λs'=>ae L env lb H s'.heap/\ay L own₀ H₀ H s₀ s'/\s'.heap.get? Lo=some Z) λs' F' S' k=>(cO F' S' (k Lo Z hLW Y))) (λr s' h'=>?_) λ_ _ e=>e;refine Dz h' λda F' S' hL'=>?_;subst da;exact hR s' H hf.2 F' S' hL'
  .rw[e]at hf;refine cq hf λhs dC=>?_;refine ah dC λl' J hst=>?_;have hx:vs[i]?=some x:=by
    obtain ar:(vs.drop i)[0]?=some x:=by rw[e];rfl
    rwa [P3,Nat.add_zero]at ar
   obtain hlt:i<vs.length:=(z5.mp hx).1;obtain hrest:vs.drop (i+1)=rest:=by rw[<- List.tail_drop,e];rfl
   refine z8 (wF (cl:=false) hA It F S0.rel hW hs st hx hct J (P:=λG=>Q (λs'=>(.compLoop (ck.ex gens sc pos) depth (.ref I) (.ref c) env:Code)=(.compLoop (ck.ex gens sc pos) depth (.ref I) (.ref c) env)/\∃m,m<vs.length-i/\Inv m s') G) λG c0 B ad=>?_) (λr ac h₁=>?_) λ_ _ e=>e
   .refine hbody J c0 B.rel hst λs' H2 hk F' S'=>⟨rfl,vs.length-(i+1),by exact Oy hlt,i+1,H2,rfl,by exact FV hlt,by rw[hrest];exact hk,F',?_,?_,?_,?_,?_⟩
    .exact(hW.step B λb J=>It.lw _ _ st b J).step S' λb J=>It.lw _ _ ad b J
    .obtain a1:ay L (λb=>own₀ b\/W b) H₀ H s₀ s:=S0.weaken λb J=>.inl J;obtain a2:ay L (λb=>own₀ b\/W b) H H s G:=B.weaken λb J=>J.imp (λz=>by rw[jD z];exact hown) id;obtain a3:ay L (λb=>own₀ b\/W b) H H2 G s':=S'.weaken λb J=>.inl (by subst J;exact hown);exact((a1.trans a2).trans a3).fresh λb J=>J.imp id (hW0 b)
    .exact It.frame _ _ _ ad (λb o J e=>S'.keep b o e ((hW.step B λb J=>It.lw _ _ st b J).h b J) λz=>hW.l (z▸J)) S'.tup
    .exact S'.keep _ _ (B.keep _ _ Y O λz=>z.elim (λz=>hLn (jD z)) hLW) O hLn
    .exact S'.dom_none (B.keep _ _ Y O λz=>z.elim (λz=>hLn (jD z)) hLW) O
   .obtain⟨c',rfl,h₁⟩:=h₁;exact h₁
 refine codeAny_loop ck.qt Inv (λn s hI=>?_) vs.length ⟨0,H,by rfl,E1 _,by simpa using h,F,hW,S0,st,Y,O⟩;rcases ck with⟨elt⟩;show wpAny _ A ((compTurn (CK.ex gens sc pos (.list elt)) depth (.ref I) (.ref c) env).onRaise (λx=>do noteFrame x env;theTreesLotGoes x)) _ _ s;exact wpAny_noted (z8 (tree n s hI) (λ_ _ h=>h) λ_ _ e=>e.elim)
end
section
variable{H:AH}{A:Around}{d:Nat}
noncomputable def kF(env:Env)(names:bq):List (Str×Addr):=names.filterMap λp=>if p.2==.free then some (p.1,(env.cells.lookup p.1).getD 0)else none
theorem pu(h:∀p∈sc.names,p.2=.free->∃c,env.cells.lookup p.1=some c):closureFor sc env=pure (kF env sc.names).reverse:=by
 unfold closureFor;obtain gen:∀(names:bq)(cs:List (Str×Addr)),(∀p∈names,p.2=.free->∃c,env.cells.lookup p.1=some c) ->
   forIn names cs (λ(x:Str×NameKind)(r:List (Str×Addr))=>(if(x.2==.free)=true then do let a <- cellOf env x.1;pure (ForInStep.yield ((x.1,a)::r))else pure (ForInStep.yield r):Sem _))=pure ((kF env names).reverse++cs):=by
  intro names;induction names with
  |nil=>intro cs _;rfl
  |cons p r J =>
   intro cs hp;obtain⟨n,k⟩:=p;rw[Sh];by_cases hk:k=.free
   .subst hk;refine bM (hp _ y4 rfl) λc hc=>?_;obtain B:cellOf env n=pure c:=by unfold cellOf;rw[hc]
    simp only[beq_self_eq_true,if_true,B,pure_bind];rw[J _ λp F=>hp p (w9 _ F)];simp[kF,hc]
   .have G:(k==NameKind.free)=false:=Sl.mpr hk;simp only[G,Bool.false_eq_true,if_false,pure_bind];rw[J _ λp F=>hp p (w9 _ F)];obtain B:kF env ((n,k)::r)=kF env r:=by unfold kF;rw[Sj];simp[hk]
    rw[B]
 obtain B:=gen sc.names [] h;rw[G2]at B;dsimp only[bind_pure_comp,map_pure]
 first|(rw[B];rfl)|(erw [B];rfl)|(simp only[B];rfl)
theorem gw:∀{l:List (Str×β)}{n:Str}{v:β},l.lookup n=some v->(n,v)∈l
 | [],_,_,h=>by simp at h
 |(k,a)::r,n,v,h=>by
  rw[K8]at h;by_cases e:(n==k)=true
  .rw[e]at h;obtain rfl:=w8 h;rw[L9.mp e];exact y4
  .rw[L0.mpr e]at h;exact w9 _ (gw h)
theorem jY{f:Str->β}:∀{l:List (Str×β)}{n:Str},(∀p∈l,p.2=f p.1)->(∃v,(n,v)∈l)->l.lookup n=some (f n)
 | [],_,_,⟨_,h⟩=>by exact absurd h y9
 |(k,a)::r,n,hf,⟨v,h⟩=>by
  rw[K8];by_cases e:(n==k)=true
  .rw[e];obtain B:=hf _ y4;simp only at B;rw[B,L9.mp e]
  .rw[L0.mpr e];refine jY (λp hp=>hf p (w9 _ hp)) ⟨v,?_⟩;rcases A4.mp h with h|h
   .injection h with h;subst h;simp at e
   .exact h
theorem kh{names:bq}{p:Str×Addr}:p∈kF env names↔(p.1,NameKind.free)∈names/\p.2=(env.cells.lookup p.1).getD 0:=by
 unfold kF;rw[List.mem_filterMap];constructor
 .rintro⟨⟨n,k⟩,F,B⟩;split at B
  .rename_i hk;obtain rfl:=w8 B;obtain hk:k=.free:=L9.mp hk;subst hk;exact⟨F,rfl⟩
  .exact ns B
 .rintro⟨F,B⟩;exact(af _ F (by simp[<- B]))
noncomputable abbrev Cb(env:Env)(sc:Scope)(Γ:Addr)(b:Addr):Env:={ newEnv sc Γ env.globals (kF env sc.names).reverse env.qual none .none (some env) b with scope:=relabel sc env }
structure jr(outer:bq)(sc:Scope)(xs:List String):Prop where
 loc:∀p∈sc.names,p.2=.local->∃x∈".0"::xs,Str.ofString x=p.1
 kind:sc.kind=.function
 noCell:∀p∈sc.names,p.2≠.cell
 nodup:(sc.names.map (·.1)).Nodup
 outer:∀p∈sc.names,p.2=.free->outer.lookup p.1=some .cell\/outer.lookup p.1=some .free
def vP{outer:bq}{xs:List String}(h:mI outer sc xs=true):jr outer sc xs:=by
 unfold mI at h;simp only[Bool.and_eq_true,List.all_eq_true,Bool.or_eq_true,bne_iff_ne,beq_iff_eq,List.any_eq_true,decide_eq_true_eq]at h;refine cq h λaX O=>?_;obtain⟨⟨⟨B,F⟩,G⟩,J⟩:=aX;refine⟨λp hp e=>?_,F,G,J,λp hp e=>?_⟩
 .rcases B p hp with q|⟨x,hx,e'⟩
  .exact absurd e q
  .exact(af x hx e')
 .rcases O p hp with(q|q)|q
  .exact absurd e q
  .exact .inl q
  .exact .inr q
theorem rK{names:bq}(nd:(names.map (·.1)).Nodup):∀p∈names,names.lookup p.1=some p.2:=by
 induction names with
 |nil=>intro p h;exact absurd h y9
 |cons q r F =>
  intro p hp;rw[C4,C8]at nd;obtain⟨n,k⟩:=q;rw[K8];rcases A4.mp hp with rfl|hp
  .simp
  .obtain B:(p.1==n)=false:=Sl.mpr λe=>nd.1 (e▸w7.mpr (af p hp rfl));rw[B];exact F nd.2 p hp
def ej(F:ae L env loc H s.heap)(sc:Scope):(relabel sc env).names=eF sc.names env.scope.names:=by apply G3;intro p _;rw[F.kind];simp[Env.kindOf]
theorem iD{names outer:bq}{n:Str}{k:NameKind}(h:(eF names outer).lookup n=some k):(∃B,(n,B)∈names/\(k=B\/(B=.free/\k=.cell))):=by
 obtain G:=gw h;refine ah (w7.mp G) λbV O Q=>?_;obtain⟨n',J⟩:=bV;have F:(if(J==NameKind.free&&outer.lookup n'==some NameKind.cell)=true then(n',NameKind.cell)else(n',J))=(n,k):=Q;by_cases hc:(J==NameKind.free&&outer.lookup n'==some NameKind.cell)=true
 .rw[if_pos hc]at F;cases F;simp only[Bool.and_eq_true,beq_iff_eq]at hc;exact(af _ O (.inr ⟨hc.1,rfl⟩))
 .rw[if_neg hc]at F;cases F;exact(af _ O (.inl rfl))
theorem xN(F:ae L env loc H s.heap)(R:aD L H s.heap){xs:List String}(hs:jr env.scope.names sc xs){ob:Obj}{t:Nat}{b:Addr}(hob:ob.cls≠.type "tuple") (hn:h'.Ns s.heap.objs.size λx=>([]:List (Str×Value)).reverse.lookup x) (sb:Heap.SameBut s.heap.objs.size (s.heap.push ob) h') : ae L (Cb env sc s.heap.objs.size b) (loc.drop xs) H h'/\aj L env H H s { s with heap:=h',toks:=t }/\s.heap.get? s.heap.objs.size=none:=by
 obtain hL:s.heap.get? s.heap.objs.size=none:=B8 (z7 _);have k:∀b o,s.heap.get? b=some o->h'.get? b=some o:=λb o e=>(sb.2 b (E9 (G9 e))).trans (y6 _ e);have S:aj L env H H s { s with heap:=h',toks:=t }:=(q9 (s':={ s with heap:=h',toks:=t }) R rfl rfl k).toE F.lH;obtain⟨f1,f2⟩:=R.free hL;have J:∀n c,(kF env sc.names).reverse.lookup n=some c->(n,NameKind.free)∈sc.names/\env.cells.lookup n=some c:=by intro n c e;obtain m:=kh.mp (RY.mp (gw e));refine⟨m.1,?_⟩;obtain⟨c',Y⟩:=F.hasCell n (hs.outer _ m.1 rfl);obtain this:=m.2;simp only at this;rw[Y]at this;rw[Y,this];rfl
 have G:∀n,(n,NameKind.free)∈sc.names->(kF env sc.names).reverse.lookup n=env.cells.lookup n:=by intro n hm;obtain⟨c',Y⟩:=F.hasCell n (hs.outer _ hm rfl);rw[jY (f:=λn=>(env.cells.lookup n).getD 0) (λp hp=>(kh.mp (RY.mp hp)).2) ⟨_,RY.mpr ((kh (p:=(n,(env.cells.lookup n).getD 0))).mpr ⟨hm,rfl⟩)⟩,Y];rfl
 have Q:∀n,((relabel sc env).names.lookup n=some .cell\/(relabel sc env).names.lookup n=some .free)->(n,NameKind.free)∈sc.names:=by
  intro n hk;rw[ej F]at hk;rcases hk with hk|hk
  .obtain⟨Z,O,B|⟨B,_⟩⟩:=iD hk
   .subst B;exact absurd rfl (hs.noCell _ O)
   .subst B;exact O
  .obtain⟨Z,O,B|⟨_,B⟩⟩:=iD hk
   .subst B;exact O
   .cases B
 have ad:∀n,(relabel sc env).names.lookup n=some .local->∃x∈".0"::xs,Str.ofString x=n:=by
  intro n hk;rw[ej F]at hk;refine ah (iD hk) λZ O eN=>?_;obtain B|⟨_,B⟩:=eN
  .subst B;exact hs.loc _ O rfl
  .cases B
 refine⟨⟨hs.kind,F.glob,F.blt,(af _ hn (λx v e hk=>?_)),f1,f2,G6 ?_,λn c e=>?_,λx v e hk=>?_,λn hk=>?_,?_⟩,S,hL⟩
 .refine ah (ad _ hk) λy hy e'=>?_;obtain this:=br e';subst this;unfold Loc.drop at e;rw[if_pos hy]at e;exact ns e
 .obtain O:env.locals<s.heap.objs.size:=by refine ah F.ns λm zq6 _=>?_;obtain⟨o,_,_,e,_⟩:=zq6;exact G9 e
  obtain B:=F.above;exact L4 (z0 B O)
 .refine cq (J n c e) λO B=>?_;refine jb (F.cell n c B) λa1 a2 zq7=>?_;refine cF zq7 λcv o a3 a4=>?_;exact(cO a1 a2 (ey cv o (k _ _ a3) a4))
 .obtain hm:=Q _ hk;have e':loc x=some v:=by
   unfold Loc.drop at e;split at e
   .exact ns e
   .exact e
  refine bN (F.cellv x v e' (hs.outer _ hm rfl)) λc cv O zq8 h4=>?_;obtain⟨o,B,h3⟩:=zq8;exact(bF c cv ((G _ hm).trans O) (af o (k _ _ B) h3) (h4.keep S.st.tup))
 .obtain hm:=Q n hk;refine bM (F.hasCell n (hs.outer _ hm rfl)) λc hc=>?_;exact⟨c,(G n hm).trans hc⟩
 .show List.Pairwise _ (kF env sc.names).reverse;rw[List.pairwise_reverse];obtain nd:=hs.nodup;obtain hO:∀p∈sc.names,p.2=.free->env.scope.names.lookup p.1=some .cell\/env.scope.names.lookup p.1=some .free:=hs.outer;refine List.Pairwise.filterMap (R:=λp q:Str×NameKind=>p.1≠q.1/\p∈sc.names/\q∈sc.names) _ ?_ ?_
  .rintro⟨n,k1⟩ ⟨n',k2⟩ ⟨ar,m1,m2⟩ p hp q hq e;simp only at hp hq;split at hp <;> split at hq
   .rename_i q1 q2;obtain rfl:=w8 hp;obtain rfl:=w8 hq;obtain q1:k1=.free:=L9.mp q1;obtain q2:k2=.free:=L9.mp q2;subst q1 q2;refine bM (F.hasCell n (hO _ m1 rfl)) λc1 e1=>?_;refine bM (F.hasCell n' (hO _ m2 rfl)) λc2 e2=>?_;rw[e1,e2]at e;simp only[Option.getD_some]at e;subst e;exact ar (gv F.apart e1 e2)
   .exact ns hq
   .exact ns hp
   .exact ns hp
  .have:sc.names.Pairwise λp q=>p.1≠q.1:=L3.mp nd
   exact List.Pairwise.imp_of_mem (λm1 m2 h=>(cO h m1 m2)) this
end
section
variable{p:Pos}{as:List Expr}{g:Gens}{x:Expr}{m:String}
section
variable{H:AH}{A:Around}{d:Nat}
noncomputable def Bz:Gens->MIt
 | .one _ it _=>it
 | .more _ it _=>it
noncomputable def xu(σ:Sx)(d:Nat)(l:Loc)(emit:Loc->AH->(AH->Prop)->Prop):Gens->V->AH->(AH->Prop)->Prop
 | .one t it c=>λx H' k=>∃l',bz t x (l.drop (dX t))=some l'/\yS σ d c l' H' λok H''=>if ok=true then emit l' H'' k else k H''
 | .more t it r=>λx H' k=>∃l',bz t x (l.drop (dX t++eX r))=some l'/\Pa σ d r l' H' emit k
def GW{emit:Loc->AH->(AH->Prop)->Prop}{K:AH->Prop}(h:Pa σ d g l H emit K):lh σ d (Bz g) l H λsrc vs H1=>fk src (xu σ d l emit g) vs H1 K:=by cases g <;> exact h
def Dy{mk:AH->(Addr->AH->Prop)->Prop}{emit:Addr->Loc->AH->(AH->Prop)->Prop}{K:Addr->AH->Prop}(h:GV σ d g l H mk emit K) : lh σ d (Bz g) l H λsrc vs H1=>mk H1 λa H2=>fk src (xu σ d l (emit a) g) vs H2 λH3=>K a H3:=by cases g <;> exact h
theorem HF(F:ae L env loc H s.heap){e:ME}(hs:xr e=true)(hc:aU env.scope.names e x=true){Q:b8}(h:aY L.toSx d e loc H Q):∃v,Q v H/\∀{H':AH}{s':Shared}{P:a9},ae L env loc H' s'.heap -> (∀c t,VR L.sa s'.heap v c->P c { s' with toks:=t })->a8 L A (eval x env) P aG s':=by
 cases e with
 |cst v=>cases v with
  |str t =>
   refine(af _ h (λ{H' s' P} G B=>dJ hc λc k p hk=>?_));cases c with
   |str u =>rw[<- J1 hk];exact wpAny_mkText (B _ _ (q6 _ _))
   |_=>exact ai hk
  |_=>exact ai hs
 |var y =>refine ah h λv J q=>?_;refine(af v q (λ{H' s' P} G B=>bm hc λid p hk=>?_));obtain k:=aa hk;rw[J1 (aa k.1).1];exact AV G (aa k.1).2 (by rw[<- J1 (aa k.1).1];exact k.2) J λc r=>B c s'.toks r
 |_=>exact ai hs
theorem xi{lo:Option Nat}{x:Option Expr}(hc:Fo lo x=true){P:a9}(h:∀c t,BR lo c->P c { s with toks:=t }):a8 L A (evalPart x env) P aG s:=by
 rcases lo with _|n
 .rcases x with _|_
  .exact u4 (h .none s.toks rfl)
  .exact ai hc
 .rcases x with _|e
  .exact ai hc
  .rw[evalPart_some];refine dJ hc λc k p hk=>?_;cases c with
   |int i =>rw[J1 hk];exact wpAny_mkInt (h _ _ (gV _ rfl))
   |_=>exact ai hk
abbrev uF(L:Cx)(A:Around)(env:Env)(c:Addr)(ck:CK)(emit:Loc->AH->(AH->Prop)->Prop):Prop:=∀{l':Loc}{H1:AH}{s1:Shared}{k:AH->Prop}{B:Shared->Prop},ae L env l' H1 s1.heap->aD L H1 s1.heap->emit l' H1 k ->
  (∀s' H2,k H2->aj L env H1 H2 s1 s'->B s')->sA (model L.prog L.w) A env c aG ck B s1
def kK{depth:Nat}{g:Comprehension}{gs:List Comprehension}(h:gens.drop depth=g::gs):gens[depth]?=some g/\gens.drop (depth+1)=gs:=by
 constructor
 .obtain B:(gens.drop depth)[0]?=some g:=by rw[h];rfl
  rwa [P3,Nat.add_zero]at B
 .rw[<- List.tail_drop,h];rfl
def pz{xs ys:List String}{l':Loc}(h:∀x u,(l.drop (xs++ys)) x=some u->l' x=some u):∀x u,(l.drop (xs++ys)) x=some u->(l'.drop ys) x=some u:=λx u e=>by
 obtain e':=h x u e;unfold Loc.drop at e ⊢;split at e
 .exact ns e
 .rename_i hx;rw[if_neg λz=>hx ((A4.mp z).elim (λq=>by rw[q];exact y4) λz=>w9 _ (C2.mpr (.inr z)))];exact e'
theorem aj.leave{H2:AH}{B:Shared}{Γ:Addr}(R:aD L H s.heap)(Y:ay L (λb=>b=env.locals\/b=Γ) H H2 s B)(Q:∀m,s.heap.Ns env.locals m->B.heap.Ns env.locals m)(J:s.heap.get? Γ=none)(nL:env.locals≠Γ)(hH:H2 Γ=none){m:Str->Option Value}(hn:B.heap.Ns Γ m) {h':Heap} (sb:Heap.SameBut Γ B.heap h'):aj L env H H2 s { B with heap:=h' }:=by
 have S:ay L (λb=>b=env.locals) H H2 s B:=Y.fresh λb F=>F.imp id (by rintro rfl;exact J);have tk:TupKeep L.sa B.heap h':=λb o _ e hc ⟨xs,n,hd⟩=>(sb.2 b λz=>by subst z;refine GX hn λo' _ _ e' G _=>?_;rw[e]at e';obtain rfl:=w8 e';rw[hd]at G;cases G).trans e
 obtain live:∀b,b≠Γ->B.heap.get? b≠none->h'.get? b≠none:=λb F h=>by rw[sb.2 b F];exact h
 have ne:∀b,s.heap.get? b≠none->b≠Γ:=λb h z=>h (z▸J);refine⟨⟨S.gens,S.os,λb o e F ho=>(sb.2 b (ne b (by simp[e]))).trans (S.keep b o e F ho),S.dom,S.mono,λb h=>live b (ne b h) (S.live b h),S.tup.trans tk,⟨λb o e=>?_,S.rel.fresh,λa o e=>?_,λb F=>live b (by rintro rfl;exact R.nx J F) (S.rel.ex b F)⟩⟩,λm' O=>?_⟩
 .exact(sb.2 b (ne b (by rw[R.base b o e];simp))).trans (S.rel.base b o e)
 .refine ah (S.rel.obj a o e) λob Z h2=>?_;exact(af ob ((sb.2 a λz=>by rw[z,hH]at e;cases e).trans Z) (h2.keep tk))
 .refine mx (Q m' O) λo es ep e r=>?_;exact(yW o es ep ((sb.2 _ nL).trans e) r)
theorem lu{outer:bq}{f:Bool}(h:jR outer nm f g gens=true):∃g₁ gs,gens=g₁::gs/\g₁.is_async=0/\(∃t,fh false nm t g₁.target=true)/\lv (if f then outer else nm) (Bz g) g₁.iter=true:=by
 rcases g with⟨t,it,c⟩|⟨t,it,r⟩
 .refine ah (mE h) λg₁ aX h=>?_;subst aX;obtain h:=aa h;have B:=aa h.2;exact(jL g₁ ([]) rfl (z9 (aa B.2).2) ⟨_,h.1⟩ B.1)
 .cases gens with
  |nil=>exact ai h
  |cons g₁ gs =>have h:=aa h;obtain B:=aa h.2;exact(jL g₁ gs rfl (z9 (aa (aa B.2).2).1) ⟨_,h.1⟩ B.1)
def lx{it:MIt}(h:lv nm it x=true):lP x=true:=by
 cases it with
 |exp e=>exact(aa h).1
 |rng e =>
  rcases q:ib nm "range" x with _|y
  .replace h:(match ib nm "range" x with|some y=>aU nm e y|none=>false)=true:=h;rw[q]at h;exact ai h
  .refine mx (gr q) λ_ _ _ bV _=>?_;subst bV;rfl
 |_=>exact ai h
def SG(L:Cx)(d:Nat)(g:Gens):Prop:=∀{outer:bq}{fst:Bool}{env:Env}{ck:CK}{gens:List Comprehension}{sc:Scope}{pos:Pos}{depth:Nat}{c I:Addr}{A:Around}{emit:Loc->AH->(AH->Prop)->Prop}{W:Addr->Prop}{src:pN}{vs:List V}{St:Nat->Heap->Prop}{g₀:Comprehension}
  {l:Loc} {H H₀:AH} {s s₀:Shared} {K:AH->Prop} {R:Result->Shared->Prop} {own₀:Addr->Prop} {Lo:Addr} {B:Obj},own₀ env.locals->s.heap.get? Lo=some B->H Lo=none->Lo≠env.locals->¬W Lo->jR outer env.scope.names fst g (gens.drop depth)=true->gens[depth]?=some g₀->Room A d->uF L A env c ck emit->Iter L A I W g₀.target src vs St ->
  ae L env (l.drop (eX g)) H s.heap->WOK L env H W->(∀b,W b->s₀.heap.get? b=none)->ay L own₀ H₀ H s₀ s->St 0 s.heap->fk src (xu L.toSx d l emit g) vs H K ->
  (∀s' H',K H'->ae L env (l.drop (eX g)) H' s'.heap->ay L own₀ H₀ H' s₀ s'->s'.heap.get? Lo=some B->R (.ok .next) s') ->
  codeAny (model L.prog L.w) A (.compLoop (ck.ex gens sc pos) depth (.ref I) (.ref c) env) R s
theorem zD{ck:CK}{g₁:Comprehension}{gs:List Comprehension}{pos p:Pos}(G:jr env.scope.names sc (eX g))(a5:nm=eF sc.names env.scope.names)(ha:g₁.is_async=0)(hns:lP g₁.iter=true) (hr:Room A d) (F:ae L env loc H s.heap) (R:aD L H s.heap) {J:Sem Value} {ob:Obj} {x₀:AO} (hob:ob.cls≠.type "tuple") (hfr:ob.isFreed=false) (a7:∀h,ORel L h ob x₀) (a1:∀{s:Shared}{P:a9},P (.ref s.heap.objs.size) { s with heap:=s.heap.push ob }->a8 L A J P aG s) {emit:Addr->Loc->AH->(AH->Prop)->Prop} {K:Addr->AH->Prop} (a3:a8 L A (eval g₁.iter env) (λxv ac=>a8 L A (pyIter xv) (ItPost L env A g₁.target H s λsrc vs H1=>∀D,H1 D=none->fk src (xu L.toSx d loc (emit D) g) vs (H1.set D x₀) λH3=>K D H3) aG ac) aG s) (as:SG L d g) (hgs:jR env.scope.names nm true g (g₁::gs)=true) (hem:∀{Z:Env}{D:Addr},Z.scope.names=nm->uF L A Z D ck (emit D)) {bh:Option (Value->Sem Unit)} {P:a9} (hP:∀D Γ H3 O,K D H3->ay L (λb=>b=env.locals\/b=Γ) H H3 s O->(∀m,s.heap.Ns env.locals m->O.heap.Ns env.locals m)->s.heap.get? Γ=none->env.locals≠Γ->H3 Γ=none->(∃m,O.heap.Ns Γ m)->compPost (model L.prog L.w) A aG bh P (.ref D) Γ (.ok .next) O) : a8 L A (comprehension (ck.ex (g₁::gs) sc pos) sc env p J false (eval g₁.iter env) bh) P aG s:=by
 refine wpAny_comprehension_free (cl:=(kF env sc.names).reverse) (ck.cl _ _ _) (λx=>gy hns env x) (pu λp hp e=>F.hasCell p.1 (G.outer p hp e)) G.kind
  (λx hx e=>by rw[rK G.nodup x hx,e]) ?_
 refine z8 a3 (λxv s1 h1=>z8 h1 (λit s2 h2=>?_) λ_ _ e=>e) λ_ _ e=>e;obtain⟨I,W,vs,src,St,H1,q,rfl,st,It,hW,hn,hs,S⟩:=h2;obtain F2:=F.estep S;obtain R2:=S.st.rel;refine a1 ?_;obtain n2:s2.heap.get? s2.heap.objs.size=none:=B8 (z7 _);obtain⟨S3,hD⟩:=r6 (own:=eE) (s':={ s2 with heap:=s2.heap.push ob }) (x:=x₀) R2 rfl rfl n2 (λb o e=>y6 _ e) (A9 _ hfr) (a7 _);obtain ar:aj L env H1 (H1.set s2.heap.objs.size x₀) s2 { s2 with heap:=s2.heap.push ob }:=S3.toE F2.lH;obtain F3:=F2.estep ar;obtain R3:aD L (H1.set s2.heap.objs.size x₀) (s2.heap.push ob):=S3.rel;refine wpAny_newFunctionEnv (s:={ s2 with heap:=s2.heap.push ob }) G.noCell (by intro x hx;exact absurd hx y9) (λh' a4 sb=>?_) G.kind;refine jb (xN (s:={ s2 with heap:=s2.heap.push ob }) (t:=s2.toks+0) (b:=0) F3 R3 G (by simp) a4 sb) λFC S4 Q=>?_;have hLs:s.heap.get? (s2.heap.push ob).objs.size=none:=by
  rcases e:s.heap.get? (s2.heap.push ob).objs.size with _|o
  .rfl
  .exact absurd Q ((S.trans ar).st.live _ (by rw[e];simp))
 obtain lw:∀b,W b->s2.heap.get? b≠none:=λb Y=>It.lw 0 _ st b Y;obtain W3:WOK L env (H1.set s2.heap.objs.size x₀) W:=hW.step S3 lw;obtain lw3:∀b,W b->(s2.heap.push ob).get? b≠none:=λb Y=>S3.live b (lw b Y);obtain⟨f1,f2⟩:=R3.free Q;have a0:aj L env H (H1.set s2.heap.objs.size x₀) s { s2 with heap:=h',toks:=s2.toks+0 }:=(S.trans ar).trans S4;have hk:∀b o,s2.heap.get? b=some o->h'.get? b=some o:=λb o e=>(sb.2 b (E9 (G9 (y6 ob e)))).trans (y6 _ (y6 _ e));have bc:St 0 h':=It.frame 0 _ _ st (λb o _ e=>hk b o e) (p7 hk);obtain hLlive:h'.get? (s2.heap.push ob).objs.size≠none:=by refine mx a4 λo _ _ e _=>?_;rw[e];simp
 refine lY ck (sc:=sc) (pos:=pos) (gens:=g₁::gs) (depth:=0) (g:=g₁) rfl ha (It.self 0 _ bc) ?_;refine ah ((F3.estep S4).ns) λfe da _=>?_;refine mx da λoL no ol a6 av=>?_;have ad:env.locals≠(s2.heap.push ob).objs.size:=λz=>by refine ah F3.ns λ_ dC _=>?_;refine mx dC λ_ _ _ e _=>?_;rw[z,Q]at e;exact ns e
 refine as (gens:=g₁::gs) (g₀:=g₁) (s:={ s2 with heap:=h',toks:=s2.toks+0 }) (s₀:=s) (H₀:=H) (own₀:=λb=>b=env.locals\/b=(s2.heap.push ob).objs.size) (Lo:=env.locals) (K:=λH3=>K s2.heap.objs.size H3) (.inr rfl) a6 (F3.estep S4).lH ad hW.l (outer:=env.scope.names) (fst:=true) ?_ rfl hr (hem ?_) It FC
  ⟨W3.h,hW.b,?_,?_⟩ hn (a0.st.weaken λb Y=>.inl Y) bc (q _ hD) λs5 H3 hK F5 S5 hL5=>?_
 .obtain e:=(ej F sc).trans a5.symm;exact e▸hgs
 .exact(ej F sc).trans a5.symm
 .intro Y;exact lw3 _ Y Q
 .intro n c e Y;have m:=kh.mp (RY.mp (gw e));obtain⟨c',a2⟩:=F.hasCell n (G.outer _ m.1 rfl);obtain B:=m.2;simp only at B;rw[a2]at B;simp only[Option.getD_some]at B;subst B;exact hW.c n c a2 Y
 .refine hP _ _ H3 s5 hK S5 (λm hm=>?_) hLs ad F5.lH (by refine ah F5.ns λm hm _=>?_;exact⟨m,hm⟩)
  .refine mx (a0.ns m hm) λo es ep e r=>?_;obtain B:o=oL:=w8 (e.symm.trans a6);subst B;exact(yW o es ep hL5 r)
noncomputable def mO(L:Cx)(env:Env)(loc:Loc)(A:Around):List (Option Expr)->List V->Prop
 | [],[]=>True
 |some x::xs,v::vs=>(∀{H':AH}{s':Shared}{P:a9},ae L env loc H' s'.heap->(∀c t,VR L.sa s'.heap v c->P c { s' with toks:=t })->a8 L A (eval x env) P aG s')/\mO L env loc A xs vs
 |_,_=>False
theorem qr(F:ae L env loc H s.heap):∀{ks:MEs}{keys:List (Option Expr)},iJ ks=true->wu env.scope.names ks keys=true->∀{Q:b9},dY L.toSx d ks loc H Q->∃kk,Q kk H/\mO L env loc A keys kk
 | .nil,keys,_,hc,Q,h=>by
  rcases keys with _|⟨_,_⟩
  .exact(af ([]) h trivial)
  .exact ai hc
 | .cons e r,keys,ha,hc,Q,h=>by
  rcases keys with _|⟨o,keys⟩
  .exact ai hc
  .rcases o with _|x
   .exact ai hc
   .refine ah (HF (A:=A) F (aa ha).1 (aa hc).1 h) λv G B=>?_;refine ah (qr F (aa ha).2 (aa hc).2 G) λkk hk hr=>?_;exact(af (v::kk) hk ⟨B,hr⟩)
theorem lA:∀{keys:List (Option Expr)}{kk:List V},mO L env loc A keys kk->keys.all (·.isSome)=true/\keys.length=kk.length
 | [],[],_=>⟨rfl,rfl⟩
 |some _::_,_::_,h=>(lA h.2).imp id (B9 (· + 1))
 |none::_,_,h=>h.elim
 |some _::_,[],h=>h.elim
 | [],_::_,h=>h.elim
theorem ng:∀{kk:List V}{ps:List (Value×Value)},VRs L.sa h kk (ps.map (·.1))->(∀k∈kk,cZ k=1)->∃B:List (V×Value),@Carries L.prog L.w V bU (bB L.prog L.w) ps B/\B.map (·.1)=kk/\B.map (·.2)=ps.map (·.2)
 | [],[],_,_=>(aK ([]) trivial rfl rfl)
 |_::_,[],r,_=>by refine cF (VRs.cons_inv r) λ_ _ e _=>?_;exact(E7 _ _ e.symm).elim
 | [],_::_,r,_=>nomatch VRs.nil_inv r
 |k::kk,p::ps,r,hk=>by refine bN (VRs.cons_inv r) λc cs e Q Y=>?_;cases e;refine bR (ng Y λk F=>hk k (w9 _ F)) λB G J O=>?_;exact(aK ((k,p.2)::B) (cO (cH (db (hk k y4)) Q) rfl G) (B9 (k::·) J) (B9 (p.2::·) O))
theorem xG:∀{kk B:List V},kk.length=B.length->(kk.zip B).map (·.1)=kk/\(kk.zip B).map (·.2)=B
 | [],[],_=>⟨rfl,rfl⟩
 |k::_,v::_,h=>(xG (P1 h)).imp (B9 (k::·)) (B9 (v::·))
 | [],_::_,h=>Nat.noConfusion h
 |_::_,[],h=>Nat.noConfusion h
theorem BY{ks vs:MEs}{keys:List (Option Expr)}{B:List Expr}(ha:iJ ks=true)(hk:wu env.scope.names ks keys=true)(hv:dq env.scope.names vs B=true)(hl:keys.length=B.length)(av:keys.length<=15)(F:ae L env loc H s.heap)(R:aD L H s.heap)(hr:Room A d){Q:b8} (h:dY L.toSx d ks loc H λkk _=>dY L.toSx d vs loc H λJ H'=>dictOK (kk.zip J)/\bI (kk.zip J)/\kk.length=J.length/\kk.length<=15/\fresh H' Q (.dict (kk.zip J))) (IH:∀{H:AH}{s:Shared}{kk:List V}{Q:b9},ae L env loc H s.heap->aD L H s.heap->mO L env loc A keys kk->dY L.toSx d vs loc H Q ->
   a8 L A (evalPairs (pairTrees keys B env p)) (λps s'=>∃J H',Q J H'/\VRs L.sa s'.heap kk (ps.map (·.1))/\VRs L.sa s'.heap J (ps.map (·.2))/\aj L env H H' s s') aG s) :
  a8 L A (eval (.Dict keys B p) env) (EPost L env H s Q) aG s:=by
 letI:DecidableEq V:=bU
 refine ah (qr (A:=A) F ha hk h) λkk h KO=>?_;refine cq (lA KO) λk1 k2=>?_;have n0:s.heap.get? s.heap.objs.size=none:=B8 (z7 _);have S0:aj L env H H s { s with heap:=s.heap.push { cls:=.type "dict",data:=.dict #[] } } :=(q9 (s':={ s with heap:=s.heap.push { cls:=.type "dict",data:=.dict #[] } }) R rfl rfl λb o e=>y6 _ e).toE F.lH
 refine cq (R.free n0) λf1 f2=>?_;obtain F0:=F.estep S0;refine ah F.ns λfe G _=>?_;obtain a0:∀m,s.heap.Ns env.locals m->s.heap.get? env.locals≠none:=λm ⟨o,_,_,e,_⟩=>by rw[e];simp
 rcases keys with _|⟨pb,keys⟩
 .cases B with
  |cons _ _=>exact Nat.noConfusion hl
  |nil =>
   cases kk with
   |cons _ _=>exact Nat.noConfusion k2
   |nil =>
    cases vs with
    |cons _ _=>exact ai hv
    |nil =>exact wpAny_Dict_empty (EPost.push F R (k:=s.toks) (ob:=bg #[] 0) h.2.2.2.2 (bF (#[]) 0 rfl rfl h.1))
 .refine wpAny_Dict_walk (knd:=bB L.prog L.w) k1 hl (by simp) av (z8 (IH F0 S0.st.rel KO h) (λps s1 h1=>?_) λ_ _ e=>e);refine uA h1 λJ H' eN r1 r2 S1=>?_;refine QT eN λhd hsk hkl hk15 q=>?_;refine cq (xG hkl) λz1 z2=>?_;refine bR (ng r1 λk hk=>by rw[<- z1]at hk;refine ah (w7.mp hk) λp hp zq6=>?_;subst zq6;exact hsk p hp) λY c1 c2 c3=>?_;obtain Z:({ s with heap:=s.heap.push { cls:=.type "dict",data:=.dict #[] } }:Shared).heap.get? s.heap.objs.size=some (bg #[] 0):=A9 _ rfl;obtain hne:s.heap.objs.size≠env.locals:=λz=>by refine mx G λo _ _ e _=>?_;rw[<- z,n0]at e;exact ns e
  have ad:s1.heap.get? s.heap.objs.size=some (bg #[] 0):=S1.st.keep _ _ Z f1 hne;refine(aK Y c1 ((QX _ (#[]) 0 ad (cO rfl rfl rfl) rfl (λe he=>by simp at he) (@Pairs.nil _ _ V bU _) (by decide))) (λh' as sb=>?_));obtain nd:(Y.map (·.1)).Nodup:=by rw[c2,<- z1];exact hd.1
  rw[merged_nil_of_nodup Y nd]at as;refine Pb as λo es' ep ho' hx O hk' hp _=>?_;have ob:o=bg es' ep:=by obtain⟨d1,d2,d3,d4⟩:=o;obtain⟨x1,x2,x3⟩:=hx;simp only at x1 x2 x3 O;subst x1 x2 x3 O;rfl
  obtain ar:H' s.heap.objs.size=none:=S1.st.dom_none Z f1;obtain S:=aj.adopt (t:=s1.toks+ps.length) (S0.trans S1) a0 G n0 ad (by simp) ar f2 ho' sb (x:=.dict (kk.zip J)) (bF _ _ ob (rY (kvs:=kk.zip J) hp (λe he=>hk' e (P6.mp he)) (by rw[c2,z1]) (by rw[z2,c3];exact r2)) hd);exact(bF _ _ (q _ ar) (q7 _) S)
def uB(L:Cx)(d:Nat)(args:MEs):Prop:=∀{env:Env}{as:List Expr}{pos:Pos}{loc:Loc}{H:AH}{s:Shared}{A:Around}{Q:b9},dq env.scope.names args as=true->ae L env loc H s.heap->aD L H s.heap->Room A d->dY L.toSx d args loc H Q ->
  a8 L A (spliced (backTo pos (starEach as env))) (λcvs s'=>EPosts L env H s Q cvs s'/\cvs.length=as.length) aG s
def SE(L:Cx)(d:Nat)(e:ME):Prop:=∀{env:Env}{x:Expr}{loc:Loc}{H:AH}{s:Shared}{A:Around}{Q:b8},aU env.scope.names e x=true->ae L env loc H s.heap->aD L H s.heap->Room A d->aY L.toSx d e loc H Q->a8 L A (eval x env) (EPost L env H s Q) aG s
def ST(L:Cx)(d:Nat)(e:ME):Prop:=∀{env:Env}{x:Expr}{loc:Loc}{H:AH}{s:Shared}{A:Around}{Q:Bool->AH->Prop},aU env.scope.names e x=true->ae L env loc H s.heap->aD L H s.heap->Room A d->yT L.toSx d e loc H Q->a8 L A (isTrue x env (eval x env)) (Hb L env H s Q) aG s
def mQ(L:Cx)(d:Nat)(vs:MEs):Prop:=∀{env:Env}{keys:List (Option Expr)}{B:List Expr}{p:Pos}{loc:Loc}{H:AH}{s:Shared}{A:Around}{kk:List V}{Q:b9},dq env.scope.names vs B=true->keys.length=B.length->ae L env loc H s.heap->aD L H s.heap->Room A d->mO L env loc A keys kk->dY L.toSx d vs loc H Q ->
  a8 L A (evalPairs (pairTrees keys B env p)) (λps s'=>∃F H',Q F H'/\VRs L.sa s'.heap kk (ps.map (·.1))/\VRs L.sa s'.heap F (ps.map (·.2))/\aj L env H H' s s') aG s
def BB(L:Cx)(d:Nat)(it:MIt):Prop:=∀{env:Env}{x tgt:Expr}{loc:Loc}{H:AH}{s:Shared}{A:Around}{K:pN->List V->AH->Prop},lv env.scope.names it x=true->cD tgt=true->ae L env loc H s.heap->aD L H s.heap->Room A d->lh L.toSx d it loc H K ->
  a8 L A (eval x env) (λB ac=>a8 L A (pyIter B) (ItPost L env A tgt H s K) aG ac) aG s
end
theorem gi{d:Nat}{H:AH}{A:Around}{G:b9}{f:Value}(J:uB L d args)(ha:dq env.scope.names args as=true)(F:ae L env loc H s.heap)(R:aD L H s.heap)(hr:Room A d) (h:dY L.toSx d args loc H G) {P:Args->Shared->Prop} (k:∀vs H1 cvs s1,G vs H1->VRs L.sa s1.heap vs cvs->aj L env H H1 s s1->P ⟨cvs,[]⟩ s1):a8 L A (evalArgs f true (backTo p (starEach as env)) []) P aG s:=by
 refine vK ha (λe=>?_) (z8 (J (pos:=p) ha F R hr h) (λcvs s1 O=>?_) λ_ _ e=>e)
 .subst e;exact k [] H [] s h .nil (aj.refl R)
 .refine cq O λB _=>?_;refine bN B λvs H1 q r S=>?_;exact k vs H1 cvs s1 q r S
section
variable{d:Nat}(C:aJ L.toSx)(PO:∀p,aP L p)
section
variable{H:AH}{A:Around}
include C
theorem zz{f:String}(J:dP env.scope.names f id=true)(ha:dq env.scope.names args as=true)(Z:uB L d args){Q:b8}(F:ae L env loc H s.heap)(R:aD L H s.heap)(hr:Room A d) (h:∃a,L.fn f=some a/\dY L.toSx d args loc H λvs H1=>CallS L.toSx d a vs H1 Q):a8 L A (eval (.Call (.Name id ip) as [] p) env) (EPost L env H s Q) aG s:=by obtain J:=aa J;refine ah h λa Y h=>?_;refine uA C.ns λmg mb G B hf _=>?_;refine cq (hf f a Y) λhm hk=>?_;refine Call_ (tT F R G (aa J.1).2 J.2 (J1 (aa J.1).1▸hm) ?_);exact kX ha hk (gi Z ha F R hr h λvs H1 cvs s1 O r S=>⟨aD.kin C S.st.rel,z8 (qG O (F.estep S) S.st.rel hr r) (λ_ _ h=>r8 S h) λ_ _ e=>e⟩)
theorem BZ{c:String}(J:dP env.scope.names c id=true)(ha:dq env.scope.names args as=true)(IH:uB L d args){Q:b8}(F:ae L env loc H s.heap)(R:aD L H s.heap)(hr:Room A d) (h:aY L.toSx d (.new c args) loc H Q):a8 L A (eval (.Call (.Name id ip) as [] p) env) (EPost L env H s Q) aG s:=by obtain J:=aa J;refine uC h λD f d' ad O hf h=>?_;subst ad;refine pe C.ns λmg mb G B _ Y _=>?_;refine Call_ (tT F R G (aa J.1).2 J.2 (J1 (aa J.1).1▸Y c D O) ?_);exact kX ha (C.mks c D f O hf).kp (gi IH ha F R hr h λvs H1 cvs s1 Z r S=>⟨aD.kin C S.st.rel,z8 (OL C (F.estep S) S.st.rel O hf r hr Z) (λ_ _ h=>r8 S h) λ_ _ e=>e⟩)
omit C in
theorem Cs{a:Addr}(G:s.heap.get? a=some o)(hc:o.cls=.type "list")(hd:o.dict=none)(hm:m∈["append","extend","pop","index"]){pl:Sem Bool}{P:Value×List Value->Shared->Prop}(B:P (.builtin ("list."++m),[.ref a]) s):a8 L A (getMethod (.ref a) (Str.ofString m) pl) P aG s:=by
 have nd:∀b,Value.ref a=.ref b->∃o,s.heap.get? b=some o/\o.dict=none:=λb e=>by injection e with e;subst e;exact⟨_,G,hd⟩
 have hT:s.TypeIs (.ref a) "list":=⟨_,G,hc⟩;rcases A4.mp hm with rfl|hm
 .exact Sg hT PySem.F.plainAttrs_list PySem.F.slot_list_append PySem.F.type_list_append nd B
 rcases A4.mp hm with rfl|hm
 .exact Sg hT PySem.F.plainAttrs_list PySem.F.slot_list_extend PySem.F.type_list_extend nd B
 rcases A4.mp hm with rfl|hm
 .exact Sg hT PySem.F.plainAttrs_list PySem.F.slot_list_pop PySem.F.type_list_pop nd B
 obtain rfl:=u5.mp hm;exact Sg hT PySem.F.plainAttrs_list PySem.F.slot_list_index PySem.F.type_list_index nd B
omit C in
theorem Cq{a:Addr}(G:s.heap.get? a=some o)(hc:o.cls=.type "dict")(hd:o.dict=none)(hm:m∈["get","setdefault","pop"]){pl:Sem Bool}{P:Value×List Value->Shared->Prop}(B:P (.builtin ("dict."++m),[.ref a]) s):a8 L A (getMethod (.ref a) (Str.ofString m) pl) P aG s:=by
 have nd:∀b,Value.ref a=.ref b->∃o,s.heap.get? b=some o/\o.dict=none:=λb e=>by injection e with e;subst e;exact(af _ G hd)
 obtain hT:s.TypeIs (.ref a) "dict":=(af _ G hc);rcases A4.mp hm with rfl|hm
 .exact Sg hT PySem.F.plainAttrs_dict PySem.F.slot_dict_get PySem.F.type_dict_get nd B
 rcases A4.mp hm with rfl|hm
 .exact Sg hT PySem.F.plainAttrs_dict PySem.F.slot_dict_setdefault PySem.F.type_dict_setdefault nd B
 obtain rfl:=u5.mp hm;exact Sg hT PySem.F.plainAttrs_dict PySem.F.slot_dict_pop PySem.F.type_dict_pop nd B
theorem CB{x:Expr}(ha:dq env.scope.names args as=true)(IH:uB L d args){Q:b8}(F:ae L env loc H s.heap)(R:aD L H s.heap)(hr:Room A d){k:RK}{v:V}(rv:VR L.sa s.heap v cv) (J:oB H L.toSx v m k) (h:dY L.toSx d args loc H λvs H2=>qy H2 Q L.toSx d k v m vs) {pl:Sem Bool}:a8 L A (getMethod cv (Str.ofString m) pl) (λfm ac=>a8 L A (callWith p fm.1 fm.2 (backTo p (starEach as env)) []) (EPost L env H s Q) aG ac) aG s:=by
 rcases k with c|_|_|_
 .refine Pb J λa dx kvs zq9 i1 i2 i3 i4 i5=>?_;subst zq9;apply rv.ref_el;refine ah (nG R i1) λD hD O=>?_;refine bN (kI R i2) λes n hd er dk=>?_;obtain⟨f,hf⟩:=Option.isSome_iff_exists.mp i5;obtain K:=C.mth c D m f hD hf;refine ah (ER.getL m er i3) λoc l1 l2=>?_;rw[i4]at l2;cases oc with
  |some _=>exact l2.elim
  |none =>refine method_fn (od:=some (dictOf es n)) (aD.kin C R) ⟨O,rfl,rfl,hd⟩ (plainGet_of K.g).1 (plainGet_of K.g).2 K.nf (L9.mp K.fn) (by show(lookIn (Str.ofString m) (dictOf es n)).map _=_;rw[lookIn_dict,l1];rfl) ?_;refine kX ha K.kp (gi IH ha F R hr h λvs H2 cvs s2 h2 r B=>?_);refine ah h2 λf' hf' G=>?_;obtain rfl:=w8 (hf.symm.trans hf');exact⟨aD.kin C B.st.rel,z8 (qG G (F.estep B) B.st.rel hr (.cons (q7 _) r)) (λ_ _ h=>r8 B h) λ_ _ e=>e⟩
 .obtain⟨hm,a,vs,rfl,i1⟩:=J;obtain rfl:=rv.ref_inv;obtain⟨cvs,n,O,_⟩:=au R i1;exact Cs O rfl rfl hm (Calls.callWith_builtin (dt ha p env).1 (gi IH ha F R hr h λvs H2 cvs s2 G r B =>
   z8 (xk C (F.estep B) B.st.rel hr G (q7 _) r) (λ_ _ h=>r8 B h) λ_ _ e=>e))
 .obtain⟨hm,a,vs,rfl,i1⟩:=J;obtain rfl:=rv.ref_inv;obtain⟨es,n,O,_⟩:=cu R i1;exact Cq O rfl rfl hm (Calls.callWith_builtin (dt ha p env).1 (gi IH ha F R hr h λvs H2 cvs s2 G r B =>
   z8 (CY C (F.estep B) B.st.rel hr G (q7 _) r) (λ_ _ h=>r8 B h) λ_ _ e=>e))
 .obtain⟨rfl,y,rfl⟩:=J;apply rv.str_el;intro t;refine GM.isspace ?_;show wpAny _ _ (callWith p (.builtin "str.isspace") [.str (Str.ofString y) t] (backTo p (starEach as env)) []) _ _ _;refine Calls.callWith_builtin (dt ha p env).1 (gi IH ha F R hr h λvs H2 cvs s2 h2 r B=>?_);refine Dz h2 λ_ Y Z q=>?_;subst Y;refine ah Z λy' e1 e2=>?_;injection e1 with e1;subst e1;rw[r.nil_inv];exact z8 (yF B.st.rel (af y rfl e2) q (q6 y t)) (λ_ _ h=>r8 B h) λ_ _ e=>e
def zA{o:ME}{ap:Pos}(hb:cU x=true)(ha:dq env.scope.names args as=true)(hl:as.length<30)(G:(ap.endLine==p.line)=true)(ho:aU env.scope.names o x=true)(J:SE L d o)(IH:uB L d args){Q:b8}(F:ae L env loc H s.heap)(R:aD L H s.heap)(hr:Room A d) (h:aY L.toSx d o loc H λv H1=>∃k,oB H1 L.toSx v m k/\dY L.toSx d args loc H1 λvs H2=>qy H2 Q L.toSx d k v m vs):a8 L A (eval (.Call (.Attribute x (Str.ofString m) ap) as [] p) env) (EPost L env H s Q) aG s:=by
 have B:methodCallForm (as.length+0) (backTo p (starEach as env)) (backToKw p (keywordEach [] env))=true:=by unfold methodCallForm;rw[(dt ha p env).2.1];exact D8 hl
 refine MethodCall_ (pl:=do return(<- importBound x env).getD true) (bk (J ho F R hr h) λv H1 cv s1 Y r1 O=>?_) ?_
 .refine ah Y λk Z Y=>?_;exact z8 (CB C (x:=x) ha IH (F.estep O) O.st.rel hr r1 Z Y) (λ_ _ h=>z8 h (λ_ _ h=>r8 O h) λ_ _ e=>e) λ_ _ e=>e
 .show(do let ov <- attributeBase x (Str.ofString m) env (eval x env);standAt ap.atName;methodCall x (Str.ofString m) ap p env ov (as.length+0) (backTo p (starEach as env)) (backToKw p (keywordEach [] env)):Sem Value)=_;rw[gA hb];unfold methodCall;rw[B];unfold calleeOf methodCallPos;rw[G];rfl
end
end
end
section
variable{a b:ME}
variable{d:Nat}
def Gr{v:V}:SE L d (.cst v):=by
 intro env x loc H s A Q hc F R hr h;refine dJ hc λc k p hk=>?_;cases v with
 |none=>cases c with
  |none=>exact u4 (u0 R h p8)
  |_=>exact ai hk
 |bool b=>cases c with
  |bool b'=>obtain rfl:=J1 hk;exact u4 (u0 R h (p9 _))
  |_=>exact ai hk
 |int i=>cases c with
  |int j=>obtain rfl:=J1 hk;exact wpAny_mkInt (t6 R h)
  |_=>exact ai hk
 |str i=>cases c with
  |str j=>obtain rfl:=J1 hk;exact wpAny_mkText (t7 R h (q6 _ _))
  |_=>exact ai hk
 |_=>exact ai hk
def Gx{i:Int}:SE L d (.neg i):=by
 intro env x loc H s A Q hc F R hr h;refine fP hc λo x p hk=>?_;obtain hk:=aa hk;obtain rfl:=z9 hk.1;refine dJ hk.2 λc k p hk=>?_;cases c with
 |int j=>obtain rfl:=J1 hk;exact wpAny_UnaryOp (wpAny_mkInt (neg_int (t7 R h (q5 _ _))))
 |_=>exact ai hk
theorem AY{y:String}:SE L d (.var y):=by intro env x loc H s A Q hc F R hr h;refine bm hc λid p hk=>?_;obtain k:=aa hk;obtain k1:=aa k.1;obtain rfl:=J1 k1.1;refine ah h λv B q=>?_;exact AV F k1.2 k.2 B λc r=>u0 R q r
theorem wO{n:Nat}(h:n=m)(B:decide (m<=1000)=true):n<=sizeLine:=by rw[I9,h];exact s7 (z9 B) (by decide)
theorem GB{es:MEs}(I:uB L d es):SE L d (.tup es):=by intro env x loc H s A Q hc F R hr h;refine bT hc λxs n p hk=>?_;obtain hk:=aa hk;refine wpAny_Tuple_spliced (z8 (I (pos:=p) hk.1 F R hr h) (λcvs s1 B=>?_) λ_ _ e=>e);refine cq B λaX hl=>?_;obtain⟨vs,H1,q,r,S⟩:=aX;exact⟨wO hl hk.2,r8 S (Gp (F.estep S) S.st.rel r q)⟩
theorem Gw{es:MEs}(I:uB L d es):SE L d (.lst es):=by intro env x loc H s A Q hc F R hr h;refine vy hc λxs p hk=>?_;obtain hk:=aa hk;show wpAny _ _ (do standAt p;newList (<- spliced (backTo p (starEach xs env)))) _ _ _;refine p0 (O8 (p0 (z8 (I (pos:=p) hk.1 F R hr h) (λcvs s1 B=>?_) λ_ _ e=>e)));refine cq B λbV hl=>?_;refine bN bV λvs H1 q r S=>?_;exact wpAny_newList (r8 S (Gm (F.estep S) S.st.rel r q)) (wO hl hk.2)
def Gs{ks vs:MEs}(I:mQ L d vs):SE L d (.dct ks vs):=by intro env x loc H s A Q hc F R hr h;refine vx hc λkeys B p hk=>?_;obtain O:=aa hk;obtain Y:=aa O.2;obtain G:=aa Y.2;obtain J:=aa G.2;exact BY O.1 Y.1 G.1 (z9 J.1) (z9 J.2) F R hr h λF R Z h=>I G.1 (z9 J.1) F R hr Z h
theorem Gq{op:BOp}(O:SE L d a)(Y:SE L d b):SE L d (.bin op a b):=by intro env x loc H s A Q hc F R hr h;refine tG hc λl o r p hk=>?_;obtain hk:=aa hk;have J:=aa hk.2;obtain rfl:=z9 hk.1;refine wpAny_BinOp (bk (O J.1 F R hr h) λv H1 c s1 Z r1 B=>?_);refine bk (Y J.2 (F.estep B) B.st.rel hr Z) λu H2 c2 s2 J r2 G=>?_;exact z8 (OG ((F.estep B).estep G) G.st.rel op J (r1.keep G.st.tup) r2) (λ_ _ h=>r8 (B.trans G) h) λ_ _ e=>e
theorem zC(C:aJ L.toSx){op:COp}(J:SE L d a)(O:SE L d b){l r:Expr}{H:AH}{A:Around}(ha:aU env.scope.names a l=true)(hb:aU env.scope.names b r=true)(F:ae L env loc H s.heap)(R:aD L H s.heap)(hr:Room A d){Q:Bool->AH->Prop} (h:aY L.toSx d a loc H λv H1=>aY L.toSx d b loc H1 λw H2=>fj H2 op v w λt=>Q t H2) {P:a9} (k:∀t H2 s2,Q t H2->aj L env H H2 s s2->P (.bool t) s2) : a8 L A (eval l env) (λx s1=>a8 L A (eval r env) (λy s2=>a8 L A (compareOp (Ht op) x y) P aG s2) aG s1) aG s :=
 bk (J ha F R hr h) λv H1 c s1 Y r1 G=>bk (O hb (F.estep G) G.st.rel hr Y) λu H2 c2 s2 Z r2 B =>
  tS C ((F.estep G).estep B) B.st.rel hr op Z (r1.keep B.st.tup) r2 λt j q=>k t H2 _ q ((G.trans B).trans (aj.toks B.st.rel j))
theorem Dc(C:aJ L.toSx){op:COp}(G:SE L d a)(J:SE L d b):SE L d (.cmp1 op a b):=by intro env x loc H s A Q hc F R hr h;refine ei hc λl os rs p hk=>?_;refine eZ hk λo hk=>eZ hk λr hk=>?_;obtain hk:=aa hk;obtain B:=aa hk.2;obtain rfl:=z9 hk.1;exact wpAny_Compare1 (zC C G J B.1 B.2 F R hr h λt H2 s2 q S=>(bF _ H2 q (p9 _) S)) (fA (gk B.2))
theorem Dq(C:aJ L.toSx){op:COp}(G:SE L d a)(J:SE L d b):ST L d (.cmp1 op a b):=by intro env x loc H s A Q hc F R hr h;refine ei hc λl os rs p hk=>?_;refine eZ hk λo hk=>eZ hk λr hk=>?_;obtain hk:=aa hk;obtain B:=aa hk.2;obtain rfl:=z9 hk.1;exact wpAny_isTrue_Compare1 (zC C G J B.1 B.2 F R hr h λt H2 s2 q S=>N8 (af H2 q S)) (fA (gk B.2))
def Dd(C:aJ L.toSx){o1 o2:COp}{c:ME}(Ia:SE L d a)(Ib:SE L d b)(Ic:SE L d c):SE L d (.cmp2 a o1 b o2 c):=by
 intro env x loc H s A Q hc F R hr h;refine ei hc λl os rs p hk=>gB hk λp1 p2 hk=>gB hk λr1 r2 hk=>?_;obtain k1:=aa hk;obtain k2:=aa k1.2;have k3:=aa k2.2;obtain k4:=aa k3.2;obtain rfl:=z9 k1.1;obtain rfl:=z9 k2.1;refine Compare_chain (bk (Ia k3.1 F R hr h) λv H1 c1 s1 h1 q1 Y=>?_) (fA (gk k4.2));refine chain_link (bk (Ib k4.1 (F.estep Y) Y.st.rel hr h1) λu H2 c2 s2 h2 q2 B=>?_);have Z:=(F.estep Y).estep B;refine tS C Z B.st.rel hr o1 h2 (q1.keep B.st.tup) q2 λt k q=>N8 ?_;obtain J:aj L env H2 H2 s2 { s2 with toks:=k }:=aj.toks B.st.rel k;obtain G:=(Y.trans B).trans J;rcases t with _|_
 .exact r8 G (u0 J.st.rel q (p9 _))
 .exact chain_last (bk (Ic k4.2 (Z.estep J) J.st.rel hr q) λw H4 c4 s4 h4 q4 O =>
   tS C ((Z.estep J).estep O) O.st.rel hr o2 h4 (q2.keep O.st.tup) q4 λt k q=>r8 (G.trans O) (t7 O.st.rel q (p9 _)))
def Dr(C:aJ L.toSx){o1 o2:COp}{c:ME}(Ia:SE L d a)(Ib:SE L d b)(Ic:SE L d c):ST L d (.cmp2 a o1 b o2 c):=by
 intro env x loc H s A Q hc F R hr h;refine ei hc λl os rs p hk=>gB hk λp1 p2 hk=>gB hk λr1 r2 hk=>?_;obtain k1:=aa hk;obtain k2:=aa k1.2;have k3:=aa k2.2;obtain k4:=aa k3.2;obtain rfl:=z9 k1.1;obtain rfl:=z9 k2.1;refine isTrue_chain (bk (Ia k3.1 F R hr h) λv H1 c1 s1 h1 q1 O=>?_) (fA (gk k4.2));refine test_link (bk (Ib k4.1 (F.estep O) O.st.rel hr h1) λu H2 c2 s2 h2 q2 B=>?_);have Z:=(F.estep O).estep B;refine tS C Z B.st.rel hr o1 h2 (q1.keep B.st.tup) q2 λt k q=>N8 ?_;have Y:aj L env H2 H2 s2 { s2 with toks:=k }:=aj.toks B.st.rel k;have G:=(O.trans B).trans Y;rcases t with _|_
 .exact(af H2 q G)
 .exact test_last (bk (Ic k4.2 (Z.estep Y) Y.st.rel hr q) λw H4 c4 s4 h4 q4 J =>
   tS C ((Z.estep Y).estep J) J.st.rel hr o2 h4 (q2.keep J.st.tup) q4 λt k q=>N8 (af H4 q ((G.trans J).trans (aj.toks J.st.rel k))))
def qP(G:SE L d a){x:Expr}{H:AH}{A:Around}(hc:aU env.scope.names a x=true)(F:ae L env loc H s.heap)(R:aD L H s.heap)(hr:Room A d){Q:Bool->AH->Prop}(h:aY L.toSx d a loc H λv H1=>∃t,v=.bool t/\Q t H1) {P:Value->Bool->Shared->Prop} (k:∀t H1 s1,Q t H1->aj L env H H1 s s1->P (.bool t) t s1):a8 L A (eval x env) (λc s1=>a8 L A (truthy c) (P c) aG s1) aG s :=bk (G hc F R hr h) λv H1 c s1 B O J=>by obtain⟨t,rfl,B⟩:=B;rw[O.bool_inv];exact N8 (k t H1 s1 B J)
def Da(O:SE L d a)(Y:SE L d b):SE L d (.and2 a b):=by
 intro env x loc H s A Q hc F R hr h;refine eS hc λo xs p hk=>gB hk λy z hk=>?_;obtain hk:=aa hk;have J:=aa hk.2;obtain rfl:=z9 hk.1;refine wpAny_And2 (qP O J.1 F R hr (Q:=λt H1=>if t=true then aY L.toSx d b loc H1 Q else Q (.bool false) H1) h λt H1 s1 G B=>?_);rcases t with _|_
 .exact r8 B (u0 B.st.rel G (p9 _))
 .exact z8 (Y J.2 (F.estep B) B.st.rel hr G) (λ_ _ h=>r8 B h) λ_ _ e=>e
def Gz(O:SE L d a)(Y:SE L d b):SE L d (.or2 a b):=by
 intro env x loc H s A Q hc F R hr h;refine eS hc λo xs p hk=>gB hk λy z hk=>?_;obtain hk:=aa hk;have J:=aa hk.2;obtain rfl:=z9 hk.1;refine wpAny_Or2 (qP O J.1 F R hr (Q:=λt H1=>if t=true then Q (.bool true) H1 else aY L.toSx d b loc H1 Q) h λt H1 s1 G B=>?_);cases t with
 |true=>exact r8 B (u0 B.st.rel G (p9 _))
 |false=>exact z8 (Y J.2 (F.estep B) B.st.rel hr G) (λ_ _ h=>r8 B h) λ_ _ e=>e
def Do(Y:ST L d a)(Z:ST L d b):ST L d (.and2 a b):=by
 intro env x loc H s A Q hc F R hr h;refine eS hc λo xs p hk=>gB hk λy z hk=>?_;obtain hk:=aa hk;have B:=aa hk.2;obtain rfl:=z9 hk.1;refine wpAny_isTrue_BoolOp (wpAny_allTrue_And_cons (z8 (Y B.1 F R hr h) (λt s1 J=>?_) λ_ _ e=>e));obtain⟨H1,J,G⟩:=J;rcases t with _|_
 .exact(af H1 J G)
 .refine wpAny_allTrue_And_cons (z8 (Z B.2 (F.estep G) G.st.rel hr J) (λt s2 B=>?_) λ_ _ e=>e);refine ah B λH2 B O=>?_;rcases t with _|_
  .exact(af H2 B (G.trans O))
  .exact wpAny_allTrue_And_nil (af H2 B (G.trans O))
def GH(Y:ST L d a)(Z:ST L d b):ST L d (.or2 a b):=by
 intro env x loc H s A Q hc F R hr h;refine eS hc λo xs p hk=>gB hk λy z hk=>?_;obtain hk:=aa hk;have B:=aa hk.2;obtain rfl:=z9 hk.1;refine wpAny_isTrue_BoolOp (wpAny_allTrue_Or_cons (z8 (Y B.1 F R hr h) (λt s1 J=>?_) λ_ _ e=>e));obtain⟨H1,J,G⟩:=J;cases t with
 |true=>exact(af H1 J G)
 |false =>
  refine wpAny_allTrue_Or_cons (z8 (Z B.2 (F.estep G) G.st.rel hr J) (λt s2 B=>?_) λ_ _ e=>e);refine ah B λH2 B O=>?_;cases t with
  |true=>exact⟨H2,B,G.trans O⟩
  |false=>exact wpAny_allTrue_Or_nil (af H2 B (G.trans O))
def Df(J:SE L d a):SE L d (.not1 a):=by intro env x loc H s A Q hc F R hr h;refine fP hc λo y p hk=>?_;obtain hk:=aa hk;obtain rfl:=z9 hk.1;refine wpAny_UnaryOp (bk (J hk.2 F R hr h) λv H1 c s1 B O G=>?_);obtain⟨t,rfl,B⟩:=B;rw[O.bool_inv];exact not_value (N8 (r8 G (u0 G.st.rel B (p9 _))))
def Dt(B:ST L d a):ST L d (.not1 a):=by intro env x loc H s A Q hc F R hr h;refine fP hc λo y p hk=>?_;obtain hk:=aa hk;obtain rfl:=z9 hk.1;exact wpAny_isTrue_Not (B hk.2 F R hr h)
def Gv{c:ME}(Z:ST L d c)(O:SE L d a)(Y:SE L d b):SE L d (.ite c a b):=by
 intro env x loc H s A Q hc F R hr h;refine tH hc λt y z p hk=>?_;obtain hk:=aa hk;obtain J:=aa hk.2;refine wpAny_IfExp (z8 (Z hk.1 F R hr h) (λt s1 G=>?_) λ_ _ e=>e);refine ah G λH1 G B=>?_;cases t with
 |true=>exact z8 (O J.1 (F.estep B) B.st.rel hr G) (λ_ _ h=>r8 B h) λ_ _ e=>e
 |false=>exact z8 (Y J.2 (F.estep B) B.st.rel hr G) (λ_ _ h=>r8 B h) λ_ _ e=>e
def Gu(C:aJ L.toSx){i:ME}(J:SE L d a)(O:SE L d i):SE L d (.idx a i):=by
 intro env x loc H s A Q hc F R hr h;refine eK hc λo y p hk=>?_;obtain hk:=aa hk;exact Subscript_ (bk (J hk.1 F R hr h) λv H1 c s1 Y r1 B=>bk (O hk.2 (F.estep B) B.st.rel hr Y) λu H2 c2 s2 Z r2 G =>
  z8 (vL C ((F.estep B).estep G) G.st.rel hr Z (r1.keep G.st.tup) r2) (λ_ _ h=>r8 (B.trans G) h) λ_ _ e=>e)
def aj.pushed{H:AH}(F:ae L env loc H s.heap)(R:aD L H s.heap)(ob:Obj)(t:Nat):aj L env H H s { s with heap:=s.heap.push ob,toks:=t } :=(q9 (s':={ s with heap:=s.heap.push ob,toks:=t }) R rfl rfl λb o e=>y6 _ e).toE F.lH
def GA(C:aJ L.toSx){lo hi:Option Nat}(Ia:SE L d a):SE L d (.slc a lo hi):=by intro env x loc H s A Q hc F R hr h;refine eK hc λo y p hk=>tK hk λlw up st q hk=>?_;obtain hk:=aa hk;obtain Y:=aa hk.2;have Z:=aa Y.2;obtain rfl:=Option.isNone_iff_eq_none.mp hk.1;refine Subscript_ (bk (Ia Y.1 F R hr h) λv H1 c s1 h1 r1 G=>wpAny_Slice (xi Z.1 λlc t1 bl=>xi Z.2 λJ t2 bh=>?_));rw[evalPart_none];obtain O:=F.estep G;obtain B:aj L env H1 H1 s1 { s1 with heap:=s1.heap.push { cls:=.type "slice",data:=.fields #[lc,J,.none] },toks:=t2 }:=aj.pushed O G.st.rel _ _;exact u4 (z8 (vM C (O.estep B) B.st.rel h1 (r1.keep B.st.tup) (Heap.IsSliceOf.new _ _ _ _) bl bh) (λ_ _ h=>r8 (G.trans B) h) λ_ _ e=>e)
theorem Db(C:aJ L.toSx){f:String}(J:SE L d a):SE L d (.attr a f):=by
 intro env x loc H s A Q hc F R hr h;refine eJ hc λo n p hk=>?_;obtain hk:=aa hk;obtain B:=aa hk.2;obtain rfl:=J1 hk.1;show wpAny _ _ (do let o' <- attributeBase o (Str.ofString f) env (eval o env);standAt p.atName;let r <- holding [o'] (getAttr o' (Str.ofString f) true);letTemporaryGo o o' r;pure r) _ _ _;rw[gA B.1];exact p0 (bk (J B.2 F R hr h) λv H1 c s1 O Y G =>
  p0 (O8 (p0 (E6 (z8 (Gh C (F.estep G) G.st.rel O Y) (λr s2 B=>p0 (wpAny_letTemporaryGo (u4 (r8 G B)))) λ_ _ e=>e)))))
def xp(C:aJ L.toSx){f:String}(I:uB L d args):SE L d (.call f args):=by intro env x loc H s A Q hc F R hr h;refine cM hc λg as ks p hk=>bm hk λid ip hk=>?_;obtain hk:=aa hk;obtain B:=aa hk.2;rw[I6.mp hk.1];exact zz C B.1 B.2 I F R hr h
def Gy(C:aJ L.toSx){c:String}(I:uB L d args):SE L d (.new c args):=by intro env x loc H s A Q hc F R hr h;refine cM hc λg as ks p hk=>bm hk λid ip hk=>?_;obtain hk:=aa hk;obtain B:=aa hk.2;rw[I6.mp hk.1];exact BZ C B.1 B.2 I F R hr h
theorem xq(C:aJ L.toSx){o:ME}{m:String}(Z:SE L d o)(I:uB L d args):SE L d (.meth o m args):=by intro env x loc H s A Q hc F R hr h;refine cM hc λg as ks p hk=>eJ hk λy n ap hk=>?_;obtain hk:=aa hk;obtain B:=aa hk.2;obtain G:=aa B.2;obtain J:=aa G.2;obtain O:=aa J.2;obtain Y:=aa O.2;rw[I6.mp hk.1,J1 B.1];exact zA C G.1 O.1 (z9 Y.1) Y.2 J.1 Z I F R hr h
def Dp(C:aJ L.toSx){f:String}(I:uB L d args):ST L d (.call f args):=by intro env x loc H s A Q hc F R hr h;have hc2:=hc;revert hc2;refine cM hc λg as ks p hk hc=>?_;exact wpAny_isTrue_value (rW (xp C I hc F R hr h) (λv H' q=>q) λb H' s' q S=>(af H' q S))
def Ds(C:aJ L.toSx){o:ME}{m:String}(B:SE L d o)(I:uB L d args):ST L d (.meth o m args):=by intro env x loc H s A Q hc F R hr h;have hc2:=hc;revert hc2;refine cM hc λg as ks p hk hc=>?_;exact wpAny_isTrue_value (rW (xq C B I hc F R hr h) (λv H' q=>q) λb H' s' q S=>(af H' q S))
def Dg(PO:∀p,aP L p){p:Prim}(J:SE L d a):SE L d (.prim p a):=by
 intro env x loc H s A Q hc F R hr h;refine cM hc λg as ks pos hk=>bm hk λid ip hk=>eZ hk λy hk=>?_;obtain hk:=aa hk;obtain G:=aa hk.2;rw[I6.mp hk.1];have B:=G.2;rcases e:rN env.scope.names p y with _|z
 .rw[e]at B;exact ai B
 .rw[e]at B;exact PO p F R hr G.1 e (λrest=>cK B rest env) (J B F R hr h)
def Dh:uB L d .nil:=by
 intro env as pos loc H s A Q hc F R hr h;cases as with
 |cons _ _=>exact ai hc
 |nil=>exact u4 ⟨(bF ([]) H h .nil (aj.refl R)),rfl⟩
theorem Ba{e:ME}{r:MEs}(J:SE L d e)(O:uB L d r):uB L d (.cons e r):=by
 intro env as pos loc H s A Q hc F R hr h;rcases as with _|⟨x,xs⟩
 .exact ai hc
 .obtain hc:=aa hc;rw[eA hc.1];refine Sp (bk (J hc.1 F R hr h) λv H1 c s1 Y r1 B=>z8 (O (pos:=pos) hc.2 (F.estep B) B.st.rel hr Y) (λcvs s2 Z=>?_) λ_ _ e=>e);refine cq Z λeN hl=>?_;refine bN eN λvs H2 q r2 G=>?_;exact⟨(bF (v::vs) H2 q (.cons (r1.keep G.st.tup) r2) (B.trans G)),B9 (· + 1) hl⟩
def GE:mQ L d .nil:=by
 intro env keys B p loc H s A kk Q hc hl F R hr G h;cases B with
 |cons _ _=>exact ai hc
 |nil=>cases keys with
  |cons _ _=>exact Nat.noConfusion hl
  |nil=>cases kk with
   |cons _ _=>exact G.elim
   |nil=>exact evalPairs_nil (jL ([]) H h .nil .nil (aj.refl R))
theorem Dk{e:ME}{r:MEs}(Y:SE L d e)(Z:mQ L d r):mQ L d (.cons e r):=by
 intro env keys B p loc H s A kk Q hc hl F R hr G h;rcases B with _|⟨x,B⟩
 .exact ai hc
 .rcases keys with _|⟨o,keys⟩
  .exact Nat.noConfusion hl
  .rcases kk with _|⟨k,kk⟩
   .cases o <;> exact G.elim
   .rcases o with _|y
    .exact G.elim
    .obtain hc:=aa hc;refine pairTrees_cons_walk (G.1 F λc t rk=>?_);obtain S0:aj L env H H s { s with toks:=t }:=aj.toks R t;refine bk (Y hc.1 (F.estep S0) S0.st.rel hr h) λv H1 c1 s1 h1 r1 J=>z8 (Z (p:=p) hc.2 (P1 hl) ((F.estep S0).estep J) J.st.rel hr G.2 h1) (λps s2 h2=>?_) λ_ _ e=>e;refine uA h2 λvv H2 q r2 r3 O=>?_;exact(jL (v::vv) H2 q (.cons ((rk.keep J.st.tup).keep O.st.tup) r2) (.cons (r1.keep O.st.tup) r3) ((S0.trans J).trans O))
def GI{y:String}:ST L d (.var y):=by intro env x loc H s A Q hc F R hr h;have hc2:=hc;revert hc2;refine bm hc λid p hk hc=>?_;refine ah h λt B q=>?_;exact wpAny_isTrue_value (rW (AY (Q:=λv H2=>∃t,v=.bool t/\Q t H2) hc F R hr (af _ B (af t rfl q))) (λv H' q=>q) λb H' s' q S=>(af H' q S))
end
section
variable{t:Tgt}{g:Gens}{it:MIt}
variable{d:Nat}
def pd{H:AH}{K:pN->List V->AH->Prop}{x:Expr}{A:Around}(I:BB L d (Bz g)){cl:Bool}(G:fh cl nm t tgt=true)(B:lv env.scope.names (Bz g) x=true)(F:ae L env loc H s.heap)(R:aD L H s.heap)(hr:Room A d)(h:lh L.toSx d (Bz g) loc H K) : a8 L A (eval x env) (λJ ac=>a8 L A (pyIter J) (ItPost L env A tgt H s K) aG ac) aG s:=I B (md G) F R hr h
noncomputable def CK.acc:CK->Sem Value
 | .list _=>newList []
abbrev my(L:Cx)(env:Env)(A:Around)(H:AH)(s:Shared)(Q:b8)(F:Option (Value->Sem Unit))(P:a9):Prop:=∀D Γ H3 B,Q (.ref D) H3->ay L (λb=>b=env.locals\/b=Γ) H H3 s B->(∀m,s.heap.Ns env.locals m->B.heap.Ns env.locals m)->s.heap.get? Γ=none->env.locals≠Γ->H3 Γ=none->(∃m,B.heap.Ns Γ m)->compPost (model L.prog L.w) A aG F P (.ref D) Γ (.ok .next) B
def SU(L:Cx)(d:Nat)(e:ME):Prop:=∀{env:Env}{ck:CK}{gens:List Comprehension}{sc:Scope}{p:Pos}{loc:Loc}{H:AH}{s:Shared}{A:Around}{Q:b8}{B:Option (Value->Sem Unit)}{P:a9},aU env.scope.names e (ck.ex gens sc p)=true->ae L env loc H s.heap->aD L H s.heap->Room A d->aY L.toSx d e loc H Q->my L env A H s Q B P ->
  a8 L A (comprehension (ck.ex gens sc p) sc env (firstIterPos gens p) ck.acc (firstAsync gens) (firstIter gens env) B) P aG s
def Ca{ck:CK}{p:Pos}{H:AH}{A:Around}{x₀:AO}{ob:Obj}{Q:b8}{Y:Option (Value->Sem Unit)}{P:a9}{emit:Addr->Loc->AH->(AH->Prop)->Prop}(Ig:SG L d g)(Ii:BB L d (Bz g))(a1:mI env.scope.names sc (eX g)=true) (hg:jR env.scope.names (eF sc.names env.scope.names) true g gens=true) (F:ae L env loc H s.heap) (R:aD L H s.heap) (hr:Room A d) (a0:ob.cls≠.type "tuple") (av:ob.isFreed=false) (O:∀h,ORel L h ob x₀) (G:∀{s:Shared}{P:a9},P (.ref s.heap.objs.size) { s with heap:=s.heap.push ob }->a8 L A ck.acc P aG s) (h:GV L.toSx d g loc H (λH1 K=>fresh H1 (λv H2=>∃c,v=.ref c/\K c H2) x₀) emit λc H'=>Q (.ref c) H') (ar:∀{B:Env}{D:Addr},B.scope.names=eF sc.names env.scope.names->uF L A B D ck (emit D)) (hP:my L env A H s Q Y P) : a8 L A (comprehension (ck.ex gens sc p) sc env (firstIterPos gens p) ck.acc (firstAsync gens) (firstIter gens env) Y) P aG s:=by obtain h:=Dy h;refine uA (lu hg) λg₁ gs aX ha bV J=>?_;subst aX;obtain⟨t,ad⟩:=bV;obtain⟨tg,a3,a2,as⟩:=g₁;cases(ha:as=0);refine zD (x₀:=x₀) (ob:=ob) (nm:=eF sc.names env.scope.names) (g:=g) (g₁:=⟨tg,a3,a2,0⟩) (gs:=gs) (vP a1) rfl rfl (lx J) hr F R a0 av O G (emit:=emit) (K:=λD H3=>Q (.ref D) H3) ?_ Ig hg ar hP;refine z8 (pd Ii ad J F R hr h) (λxv s1 h1=>z8 h1 (λc s2 h2=>h2.mono λsrc vs H1 hk D hD=>?_) λ_ _ e=>e) λ_ _ e=>e;refine ah (hk D hD) λc' Z hk=>?_;injection Z with Z;subst Z;exact hk
theorem xw(C:aJ L.toSx){elt:ME}(Ie:SE L d elt)(Ig:SG L d g)(Ii:BB L d (Bz g)):SU L d (.comp elt g):=by
 intro env ck gens sc p loc H s A Q use P hc F R hr h B;cases ck with
 |list y =>obtain h1:=aa hc;obtain G:=aa h1.2;obtain O:=aa G.2;refine Ca (x₀:=.list []) (ob:=cy #[] 0) Ig Ii h1.1 O.1 F R hr (λe=>nomatch e) rfl (λh=>(ey (#[]) 0 rfl .nil)) (λB=>wpAny_newList B) h (λ{cenv D} Z=>?_) B;intro l' H1 s1 k Pst F1 R1 Y B;refine bk (Ie (Z▸G.1) F1 R1 hr Y) λv H2 cv s2 G r2 J=>?_;refine bR G λvs hD hz hk=>?_;refine z8 (xk C (F1.estep J) J.st.rel hr (Q:=λr H3=>r=.none/\k H3) (m:="append") (args:=[v]) (bF D vs rfl hD (.inl ⟨rfl,(jK v rfl hz rfl hk)⟩)) (q7 _) (VRs.one r2)) (λc s3 O=>?_) λ_ _ e=>e;refine bN O λ_ H3 hk _ S3=>?_;exact B s3 H3 hk.2 (J.trans S3)
def Bl{H:AH}{A:Around}{Q:b8}(R:aD L H s.heap):my L env A H s Q none (EPost L env H s Q):=by intro D Γ H3 s5 O G B Y Z J hm;obtain⟨m,F⟩:=hm;exact(af m F (λh' sb=>(bF (.ref D) H3 O (q7 _) (aj.leave R G B Y Z J F sb))))
def De{elt:ME}(U:SU L d (.comp elt g)):SE L d (.comp elt g):=by intro env x loc H s A Q hc F R hr h;have hc2:=hc;revert hc2;exact iw hc λy gens sc p hk hc=>U (ck:=.list y) hc F R hr h (Bl R)
def Bb{e:ME}(I:SE L d e):BB L d (.exp e):=by intro env x tgt loc H s A K hc ht F R hr h;exact bk (I (aa hc).2 F R hr h) λv H1 c s1 G J B=>z8 (Gk hr.1 (F.estep B) B.st.rel ht G J) (λ_ _ h=>ItPost.after B h) λ_ _ e=>e
theorem Bc(C:aJ L.toSx){e:ME}(I:SE L d e):BB L d (.rng e):=by
 intro env x tgt loc H s A K hc ht F R hr h;replace hc:(match ib env.scope.names "range" x with|some y=>aU env.scope.names e y|none=>false)=true:=hc;rcases q:ib env.scope.names "range" x with _|y
 .rw[q]at hc;exact ai hc
 .rw[q]at hc;refine mx (gr q) λid ip p da J=>?_;subst da;obtain J:=aa J;obtain Z:=aa J.1;obtain rfl:=J1 Z.1;refine pe C.ns λmg mb G B _ _ hb=>?_;refine cq (hb ("range",.type "range") (z6 (i:=10) rfl)) λhm hv=>?_;refine Call_ (iW F R G B Z.2 J.2 hm hv ?_);refine PyProof.Rows.callWith_type1 (e:=y) (rest:=[]) ?_ (cK hc [] env);rw[eA hc];refine Sp (bk (I hc F R hr h) λv H1 c s1 h1 r1 O=>Calls.spliced_nil ?_);refine wh h1 λn dC h0 hn q=>?_;subst dC;apply r1.int_el;intro t;refine call_range_1 ?_;have Y:=F.estep O;obtain Q:aj L env H1 H1 s1 { s1 with heap:=s1.heap.push { cls:=.type "range",data:=.fields #[.int 0 s1.toks,.int n t,.int 1 (s1.toks+1)] },toks:=s1.toks+1+1 }:=aj.pushed Y O.st.rel _ _;exact z8 (rU hr.1 (Y.estep Q) Q.st.rel ht (IsRange.new _ _ _ _ _ _ _) h0 hn q) (λ_ _ h=>ItPost.after (O.trans Q) h) λ_ _ e=>e
def SO(L:Cx)(d:Nat)(c:Option ME):Prop:=match c with|none=>True|some e=>ST L d e
def CO{outer:bq}{f:Bool}{B:Option ME}{depth:Nat}{g₀:Comprehension}(hc:jR outer nm f (.one t it B) (gens.drop depth)=true)(G:gens[depth]?=some g₀):fh false nm t g₀.target=true/\Fp nm B g₀.ifs=true/\g₀.is_async=0/\gens[depth+1]?=none:=by refine ah (mE hc) λg₁ e h=>?_;refine cq (kK e) λe1 e2=>?_;obtain rfl:=sm G e1;obtain h:=aa h;obtain F:=aa (aa h.2).2;exact(sw h.1 F.1 (z9 F.2) (Q8 (List.drop_eq_nil_iff.mp e2)))
theorem Am{outer:bq}{f:Bool}{r:Gens}{depth:Nat}{g₀:Comprehension}(hc:jR outer nm f (.more t it r) (gens.drop depth)=true)(G:gens[depth]?=some g₀):fh false nm t g₀.target=true/\g₀.ifs=[]/\g₀.is_async=0/\jR outer nm false r (gens.drop (depth+1))=true:=by
 rcases e:gens.drop depth with _|⟨g₁,gs⟩
 .rw[e]at hc;exact ai hc
 .rw[e]at hc;refine cq (kK e) λe1 e2=>?_;obtain rfl:=sm G e1;obtain h:=aa hc;obtain B:=aa (aa h.2).2;obtain F:=aa B.2;exact(sw h.1 (I6.mp B.1) (z9 F.1) (e2▸F.2))
def FE{B:Option ME}{l:List Expr}(h:Fp nm B l=true):l.length<=1:=by
 rcases B with _|c
 .rw[I6.mp h];exact E1 _
 .refine eZ (k:=λx=>aU nm c x) h λx _=>z7 _
def GC{B:Option ME}(Io:SO L d B):SG L d (.one t it B):=by
 intro outer fst env ck gens sc pos depth c I A emit W src vs St g₀ l H H₀ s s₀ K R own₀ Lo oLo ar hLo hLH hLn hLW hc hg hr ad It F hW hW0 S0 st h hR;refine Dz (CO hc hg) λhct G ha hg'=>?_;refine AU ck (λJ O=>match g₀.ifs with
   | []=>sA (model L.prog L.w) A env c aG ck J O
   |x::_=>a8 L A (isTrue x env (eval x env)) (λok Q=>if ok=true then sA (model L.prog L.w) A env c aG ck J Q else J Q) aG O) hr.1 (λh=>yO ck hg hg' ha (FE G) h) It hct
  (lb:=l.drop (dX t)) (stepW:=λl' H' k=>yS L.toSx d B l' H' λok H''=>if ok=true then emit l' H'' k else k H'') ?_ ar hLo hLH hLn hLW F hW hW0 S0 st h hR
 intro x l' H1 s1 k J hb F1 R1 as hP;have Y:∀(s':Shared)(H2:AH),k H2->aj L env H1 H2 s1 s'->J s':=λs' H2 hk S=>hP s' H2 hk ((F1.estep S).mono (qc hb λ_ h=>h)) S.st;revert G;rcases B with _|Z
 .intro G;rw[I6.mp G];exact ad F1 R1 as Y
 .intro G;refine eZ (k:=λx=>aU env.scope.names Z x) G λy hy=>?_;refine z8 (Io hy F1 R1 hr as) (λok s2 h2=>?_) λ_ _ e=>e;refine ah h2 λH2 h2 S2=>?_;cases ok with
  |true=>exact ad (F1.estep S2) S2.st.rel h2 λs' H3 hk S=>Y s' H3 hk (S2.trans S)
  |false=>exact Y s2 H2 h2 S2
theorem Di(C:aJ L.toSx){r:Gens}(Ir:SG L d r)(Ii:BB L d (Bz r)):SG L d (.more t it r):=by
 intro outer fst env ck gens sc pos depth c I A emit W src vs St g₀ l H H₀ s s₀ K R own₀ Lo oLo a0 hLo hLH hLn hLW hc hg hr hem It F hW hW0 S0 st h hR;refine Dz (Am hc hg) λhct av ha B=>?_;refine uA (lu B) λg' gs' eg ar zq6 J=>?_;obtain⟨t',as⟩:=zq6;have O:=(kK eg).1;refine AU ck (λY a2=>a8 L A (eval g'.iter env) (λx a3=>a8 L A (pyIter x) (λit' a4 =>
   a8 L A (runOwn (.compStart (ck.ex gens sc pos) (depth+1) it' (.ref c) env) env) (λ_ a5=>Y a5) aG a4) aG a3) aG a2) hr.1 (λh=>yP ck hg O ha ar av (lx J) h) It hct
  (lb:=l.drop (dX t++eX r)) (stepW:=λl' H' k=>Pa L.toSx d r l' H' emit k) ?_ a0 hLo hLH hLn hLW F hW hW0 S0 st h hR
 intro x l' H1 s1 k Y hb F1 R1 hst hP;refine cF C.ns λ_ _ zq7 _=>?_;refine mx zq7 λoG _ _ G _=>?_;refine z8 (pd Ii as J F1 R1 hr (GW hst)) (λxv s4 h4=>z8 h4 (λc' s5 h5=>?_) λ_ _ e=>e) λ_ _ e=>e;obtain⟨I',W',vs',src',St',H2,q,rfl,a1,Q,ad,hn',hs',S⟩:=h5;refine wpAny_runOwn (lY ck O ar (Q.self 0 s5 a1) ?_);have Z:H2 mainGlobals=none:=by
  rcases q:H2 mainGlobals with _|y
  .rfl
  .exact nn (S.st.rel.fresh _ _ q) G
 exact Ir (l:=l') (own₀:=λb=>b=env.locals) rfl (S.st.rel.base _ _ G) Z (λz=>nn F1.lB (z▸G)) (λz=>nn (ad.b _ z) G) B O hr hem Q ((F1.estep S).mono λx u e=>by unfold Loc.drop at e;split at e;exact ns e;exact e) ad hn' S.st a1 q λs' H' hk F' S' _ =>
  hP s' H' hk (F'.mono (pz (qc hb λx hx=>C2.mpr (.inl hx)))) S'
noncomputable def GY:ME->Bool | .comp _ _=>true|_=>false
structure SB(L:Cx)(d:Nat)(e:ME):Prop where
 E:SE L d e
 T:ST L d e
 U:GY e=true->SU L d e
def kN{e:ME}(h:∀{loc:Loc}{H:AH}{Q:Bool->AH->Prop},yT L.toSx d e loc H Q->False):ST L d e:=by intro env x loc H s A Q hc F R hr hw;exact(h hw).elim
theorem Gf(C:aJ L.toSx)(PO:∀p,aP L p)(e:ME):SB L d e :=
 ME.rec (motive_1:=SB L d) (motive_2:=λes=>uB L d es/\mQ L d es) (motive_3:=λg=>SG L d g/\BB L d (Bz g)) (motive_4:=BB L d) (motive_5:=SO L d)
  (λ_=>⟨Gr,kN id,ai⟩) (λ_=>⟨Gx,kN id,ai⟩) (λ_=>⟨AY,GI,ai⟩) (λ_ I=>⟨GB I.1,kN id,ai⟩) (λ_ I=>⟨Gw I.1,kN id,ai⟩) (λ_ _ _ I=>⟨Gs I.2,kN id,ai⟩)
  (λ_ _ _ a b=>⟨Gq a.E b.E,kN id,ai⟩) (λ_ _ _ a b=>⟨Dc C a.E b.E,Dq C a.E b.E,ai⟩) (λ_ _ _ _ _ a b c=>⟨Dd C a.E b.E c.E,Dr C a.E b.E c.E,ai⟩) (λ_ _ a b=>⟨Da a.E b.E,Do a.T b.T,ai⟩) (λ_ _ a b=>⟨Gz a.E b.E,GH a.T b.T,ai⟩)
  (λ_ a=>⟨Df a.E,Dt a.T,ai⟩) (λ_ _ _ c a b=>⟨Gv c.T a.E b.E,kN id,ai⟩) (λ_ _ a i=>⟨Gu C a.E i.E,kN id,ai⟩) (λ_ _ _ a=>⟨GA C a.E,kN id,ai⟩) (λ_ _ a=>⟨Db C a.E,kN id,ai⟩) (λ_ _ e g=>⟨De (xw C e.E g.1 g.2),kN id,λ_=>xw C e.E g.1 g.2⟩)
  (λ_ _ I=>⟨xp C I.1,Dp C I.1,ai⟩) (λ_ _ I=>⟨Gy C I.1,kN id,ai⟩) (λ_ _ _ o I=>⟨xq C o.E I.1,Ds C o.E I.1,ai⟩) (λ_ _ a=>⟨Dg PO a.E,kN id,ai⟩)
  ⟨Dh,GE⟩ (λ_ _ e r=>⟨Ba e.E r.1,Dk e.E r.2⟩) (λ_ _ _ i c=>⟨GC c,i⟩) (λ_ _ _ i r=>⟨Di C r.1 r.2,i⟩)
  (λ_ e=>Bb e.E) (λ_ e=>Bc C e.E) (λ_ _ _ _=>λhc=>ai hc) (λ_ _=>λhc=>ai hc) trivial (λ_ e=>e.T) e
def sE(C:aJ L.toSx)(PO:∀p,aP L p)(e:ME):SE L d e:=(Gf C PO e).E
def sT(C:aJ L.toSx)(PO:∀p,aP L p)(e:ME):ST L d e:=(Gf C PO e).T
def RH(C:aJ L.toSx)(PO:∀p,aP L p)(it:MIt):BB L d it:=by
 cases it with
 |exp e=>exact Bb (sE C PO e)
 |rng e=>exact Bc C (sE C PO e)
 |_=>exactλhc=>ai hc
end
section
variable{loc':Loc}{line:Nat}
def Ru(sa:SX)(h:Heap):Flow->Fl->Prop
 | .next,.next=>True
 | .ret c,.ret v=>VR sa h v c
 |_,_=>False
abbrev SPost(L:Cx)(env:Env)(H:AH)(s:Shared)(K:Fl->Loc->AH->Prop)(f:Flow)(s':Shared):Prop :=∃fl loc' H',K fl loc' H'/\Ru L.sa s'.heap f fl/\ae L env loc' H' s'.heap/\ay L (dQ env) H H' s s'
section
variable{H:AH}{A:Around}{d:Nat}
def aj.own(S:aj L env H H' s s'):ay L (dQ env) H H' s s':=S.st.weaken λb h=>.inl h
def SPost.after{H₀:AH}{f:Flow}(S:ay L (dQ env) H₀ H s₀ s)(h:SPost L env H s K f s'):SPost L env H₀ s₀ K f s' :=
 let⟨fl,l,H',a,b,c,e⟩:=h;(pi fl l H' a b c (S.trans e))
theorem SPost.next(q:K .next loc' H')(F:ae L env loc' H' s'.heap)(S:ay L (dQ env) H H' s s'):SPost L env H s K .next s':=(pi .next loc' H' q trivial F S)
def u6:=@SPost.next
def iF{t B:Expr}(h:nY B=true):swapsWithSole [t] B line env=pure false:=by cases B <;> first|rfl|exact ai h
def hF{e:ME}{x:Expr}(h:aU nm e x=true)(hc:GY e=false):nY x=true:=by unfold nY;rw[iL h];cases e <;> first|rfl|exact ai hc.symm
theorem wc{ck:CK}{p:Pos}:∃b,swapsWithSole [.Name id ip] (ck.ex gens sc p) line env=pure b:=by cases ck <;> exact⟨_,rfl⟩
def um{ts:List Expr}{p:Pos}{B:Expr}(h:B.ctorIdx≠25):swappedStores [.Tuple ts k p] B env=pure none:=by cases B <;> first|rfl|exact absurd rfl h
theorem pK(ts es:List Expr)(k J:Nat)(p O:Pos)(env:Env)(G:es.all (constantsAlone 8)=false) : swappedStores [.Tuple ts k p] (.Tuple es J O) env=pure none\/∃line names,(ts.length=2\/ts.length=3)/\swappedStores [.Tuple ts k p] (.Tuple es J O) env=pure (some names) /\ names=ts.filterMap (λ| .Name id pos=>if env.kindOf id==some .local&&pos.line==line then some id else none|_=>none)/\names.length=ts.length/\names.eraseDups.length=names.length:=by
 unfold swappedStores;dsimp only;split
 .exact .inl rfl
 .rename_i B;split
  .exact .inl rfl
  .split
   .exact .inl rfl
   .rename_i F;split
    .exact .inl rfl
    .rw[if_neg (by rw[G];simp)];simp only[Bool.or_eq_true,bne_iff_ne,ne_eq,not_or,Decidable.not_not,Bool.not_eq_true',Bool.or_eq_false_iff,beq_eq_false_iff_ne]at B F;refine .inr (qT _ _ ?_ rfl rfl F.1 F.2);obtain Q:=B.1.1;exact Qy B.1.1
def tL{c:Bool}(S:ay L (oi c env) H H' s s'):ay L (dQ env) H H' s s':=S.weaken λb h=>mF h
theorem Go(B:A.handled=none){ts:Tgts}{x:Expr}(hc:fh true env.scope.names (.tp ts) x=true){a:Addr}(F:ae L env loc H s.heap)(R:aD L H s.heap)(hl:H a=some (.list vs))(G:eU ts vs loc=some loc'){P:b6} (Z:pO L true env loc' H s P):a8 L A (assign x env (.ref a)) P aG s:=by refine bT hc λes n p hk=>?_;refine cF (au R hl) λcvs n ho O=>?_;obtain m:=sR (env:=env) (jv hk);obtain hl:es.length=cvs.size:=(ju hk G).symm.trans (O.length.symm.trans J2);rw[assign_Tuple];refine p0 (O8 ?_);unfold unpack;rw[m.1,m.2.1,m.2.2,hl];refine p0 (E6 (kun_itemsOf B (aK _ ho rfl (gV n rfl)) λh' J=>?_));obtain S0:ay L (oi true env) H H s { s with heap:=h' }:=u2 (t:=s.toks) R J;exact vN B ts es hk (s:={ s with heap:=h' }) (F.ext R J) S0.rel G (O.keep S0.tup) λs' Q Y=>Z s' Q (S0.trans Y)
def Gn(G:A.handled=none){t:Tgt}{x:Expr}(hc:fh true env.scope.names t x=true){v:V}{c:Value}(F:ae L env loc H s.heap)(R:aD L H s.heap)(B:gZ H t v loc=some loc')(O:VR L.sa s.heap v c){P:b6} (J:pO L true env loc' H s P):a8 L A (assign x env c) P aG s:=by
 rcases t with y|ts
 .exact tW G (.nm y) x hc F R B O J
 .cases v with
  |ref a =>
   apply O.ref_el;replace B:(match H a with|some (.list vs)=>eU ts vs loc|_=>none)=some loc':=B;rcases e:H a with _|o
   .rw[e]at B;exact jB B
   .cases o with
    |list vs=>rw[e]at B;exact Go G hc F R e B J
    |_=>rw[e]at B;exact jB B
  |tup vs=>exact tW G (.tp ts) x hc F R (v:=.tup vs) B O J
  |_=>exact jB B
def AQ(l:Loc){x y:String}(u v:V)(h:x≠y):(l.put x u).put y v=(l.put y v).put x u:=by
 funext z;unfold Loc.put;by_cases B:z=y
 .rw[if_pos B,if_pos B,if_neg λe=>h (e.symm.trans B)]
 .rw[if_neg B,if_neg B]
noncomputable def fc:List String->List V->Loc->Loc
 |x::xs,v::vs,l=>fc xs vs (l.put x v)
 |_,_,l=>l
theorem ou{x:String}{v:V}:∀{xs:List String}{vs:List V}{l:Loc},x∉xs->fc xs vs (l.put x v)=(fc xs vs l).put x v
 | [],_,_,_=>rfl
 |_::_,[],_,_=>rfl
 |y::ys,w::ws,l,h=>by show fc ys ws ((l.put x v).put y w)=(fc ys ws (l.put y w)).put x v;rw[AQ l v w λe:x=y=>h (e▸y4)];exact ou λz=>h (w9 _ z)
theorem lV{x:String}{v:V}:∀{xs:List String}{vs:List V}{l:Loc},vs.length=xs.length->fc (xs++[x]) (vs++[v]) l=(fc xs vs l).put x v
 | [],[],_,_=>rfl
 |_::_,[],_,h=>Nat.noConfusion h
 | [],_::_,_,h=>Nat.noConfusion h
 |_::ys,_::ws,l,h=>lV (xs:=ys) (vs:=ws) (P1 h)
theorem ow:∀{xs:List String}{vs:List V}{l:Loc},xs.Nodup->vs.length=xs.length->fc xs.reverse vs.reverse l=fc xs vs l
 | [],[],_,_,_=>rfl
 |_::_,[],_,_,h=>nomatch h
 | [],_::_,_,_,h=>nomatch h
 |x::xs,v::vs,l,nd,h=>by obtain nd:=C8.mp nd;obtain h:=P1 h;rw[List.reverse_cons,List.reverse_cons,lV (by rw[List.length_reverse,List.length_reverse];exact h),ow nd.2 h];exact(ou nd.1).symm
theorem VRs.snoc{sa:SX}{cs:List Value}{v:V}{c:Value}(r:VRs sa h vs cs)(q:VR sa h v c):VRs sa h (vs++[v]) (cs++[c]):=r.append (VRs.one q)
theorem VRs.reverse{sa:SX}:∀{vs:List V}{cs:List Value},VRs sa h vs cs->VRs sa h vs.reverse cs.reverse
 | [],cs,r=>by rw[r.nil_inv];exact .nil
 |v::vs,cs,r=>by refine bN r.cons_inv λc r' aX a b=>?_;subst aX;rw[List.reverse_cons,List.reverse_cons];exact b.reverse.snoc a
theorem xl(Y:A.handled=none):∀{xs:List String}{vs:List V}{cs:List Value}{loc:Loc}{s:Shared}{P:b6},(∀x∈xs,HB true env.scope.names x=true)->VRs L.sa s.heap vs cs->vs.length=xs.length->ae L env loc H s.heap->aD L H s.heap->pO L true env (fc xs vs loc) H s P -> a8 L A (assignInOrder (xs.map λx=>bindName env (Str.ofString x)) cs) P aG s
 | [],[],cs,loc,s,P,_,r,_,F,R,G=>by rw[r.nil_inv];exact u4 (G s F (ay.refl R))
 |_::_,[],_,_,_,_,_,_,h,_,_,_=>nomatch h
 | [],_::_,_,_,_,_,_,_,h,_,_,_=>nomatch h
 |x::xs,v::vs,cs,loc,s,P,hs,r,h,F,R,G=>by refine bN r.cons_inv λc r' bV a b=>?_;subst bV;exact p0 (E6 (wpAny_bindName (xn F R (hs x y4) a λs1 J B=>xl Y (λy hy=>hs y (w9 _ hy)) (b.keep B.tup) (P1 h) J B.rel λs2 O Q=>G s2 O (B.trans Q))))
noncomputable def iS(env:Env)(line:Nat):Expr->Option Str | .Name id pos=>if env.kindOf id==some .local&&pos.line==line then some id else none|_=>none
theorem tu:∀{ts:Tgts}{es:List Expr},nh true env.scope.names ts es=true->(es.filterMap (iS env line)).length=es.length -> ∃xs:List String,es.filterMap (iS env line)=xs.map Str.ofString/\(∀x∈xs,HB true env.scope.names x=true)/\∀{vs:List V}{l l':Loc},eU ts vs l=some l'->l'=fc xs vs l/\vs.length=xs.length
 | .nil,es,hc,hl=>by
  cases es with
  |cons _ _=>exact ai hc
  |nil =>
   refine(aK ([]) rfl (λ_ h=>absurd h y9) (λ{vs l l'} B=>?_));rcases vs with _|⟨_,_⟩
   .exact⟨(w8 B).symm,rfl⟩
   .exact jB B
 | .cons t ts,es,hc,hl=>by
  rcases es with _|⟨e,es⟩
  .exact ai hc
  .obtain hc:=aa hc;rw[Sj]at hl ⊢;obtain F:=List.length_filterMap_le (iS env line) es;cases t with
   |tp J =>revert hl;refine bT hc.1 λxs k p _ hl=>?_;exact absurd hl (E9 (Sf F))
   |nm x =>
    revert hl;refine bm hc.1 λid p hk hl=>?_;obtain hk:=aa hk;obtain rfl:=J1 hk.1;rcases q:(env.kindOf (Str.ofString x)==some .local&&p.line==line)with _|_
    .replace q:iS env line (.Name (Str.ofString x) p)=none:=if_neg (by rw[q];exact C7);rw[q]at hl;exact absurd hl (E9 (Sf F))
    .obtain q:iS env line (.Name (Str.ofString x) p)=some (Str.ofString x):=if_pos q;rw[q]at hl ⊢;refine bR (tu hc.2 (P1 hl)) λxs e1 e2 G=>?_;refine(aK (x::xs) (B9 (Str.ofString x::·) e1) (λy hy=>(A4.mp hy).elim (λe=>e▸hk.2) (e2 y)) (λ{vs l l'} B=>?_));rcases vs with _|⟨v,vs⟩
     .exact jB B
     .exact(G (show eU ts vs (l.put x v)=some l' from B)).imp id (B9 (· + 1))
theorem DJ:∀(n:Nat){l:List Str},l.length<=n->l.eraseDups.length<=l.length
 |_,[],_=>z7 _
 |n+1,a::l,h=>by rw[List.eraseDups_cons];have B:=N9 (λb=>!b==a) l;exact I7 (s7 (DJ n (s7 B (Nat.le_of_succ_le_succ h))) B)
theorem tx:∀{l:List Str},l.eraseDups.length=l.length->l.Nodup
 | [],_=>J5
 |a::l,h=>by rw[List.eraseDups_cons]at h;have h:=P1 h;obtain G:=N9 (λb=>!b==a) l;obtain J:=DJ _ (z7 (l.filter λb=>!b==a).length);obtain O:(l.filter λb=>!b==a).length=l.length:=A8 G (h▸J);have F:=List.length_filter_eq_length_iff.mp O;rw[List.filter_eq_self.mpr F]at h;exact C8.mpr ⟨λhm=>by obtain B:=F a hm;rw[beq_self_eq_true]at B;exact ai B,tx h⟩
theorem yH(J:A.handled=none){ts:Tgts}{es:List Expr}(hc:nh true env.scope.names ts es=true){c:Value}(F:ae L env loc H s.heap)(R:aD L H s.heap)(hb:eU ts vs loc=some loc')(rv:VR L.sa s.heap (.tup vs) c){names:List Str} (hn:names=es.filterMap (iS env line)) (hl:names.length=es.length) (hd:names.Nodup) {P:b6} (hP:pO L true env loc' H s P) : a8 L A (do let items <- unpackItems c names.length none;assignInOrder (names.reverse.map λn=>bindName env n) items.reverse) P aG s:=by
 subst hn;refine bR (tu hc hl) λxs e1 e2 e3=>?_;obtain⟨rfl,B⟩:=e3 hb;apply rv.tup_el;intro ad cvs ht Q;rw[e1]at hd ⊢;rw[u1,<- B,<- Q.length,J2];refine p0 (wpAny_unpackItems_tuple J ht λh' O=>?_);obtain S0:ay L (oi true env) H H s { s with heap:=h' }:=u2 (t:=s.toks) R O;rw[<- List.map_reverse,I8];have G:xs.Nodup:=by unfold List.Nodup at hd ⊢;rw[L3]at hd;exact hd.imp λh e=>h (B9 Str.ofString e)
 exact xl J (s:={ s with heap:=h' }) (λx hx=>e2 x (RY.mp hx)) (Q.keep S0.tup).reverse (by rw[List.length_reverse,List.length_reverse,B]) (F.ext R O) S0.rel λs' Y Z=>hP s' (ow G B▸Y) (S0.trans Z)
end
end
section
variable{H:AH}{A:Around}{d:Nat}
theorem FJ{H2:AH}{B:Shared}{Γ:Addr}{loc':Loc}(R:aD L H s.heap)(S5:ay L (λb=>dQ env b\/b=Γ) H H2 s B)(F:ae L env loc' H2 B.heap)(hL:s.heap.get? Γ=none)(nL:env.locals≠Γ)(Q:∀n c,env.cells.lookup n=some c->c≠Γ)(hH:H2 Γ=none) {m:Str->Option Value} (hn:B.heap.Ns Γ m) {h':Heap} (sb:Heap.SameBut Γ B.heap h'):ae L env loc' H2 h'/\ay L (dQ env) H H2 s { B with heap:=h' }:=by
 have S:ay L (dQ env) H H2 s B:=S5.fresh λb O=>O.imp id (by rintro rfl;exact hL);have tk:TupKeep L.sa B.heap h':=λb o _ e hc hd=>(sb.2 b λz=>by subst z;refine ph hd λxs n hd=>?_;refine GX hn λo' _ _ e' Y _=>?_;obtain rfl:=sm e e';rw[hd]at Y;cases Y).trans e
 have ne:∀b,s.heap.get? b≠none->b≠Γ:=λb h z=>h (z▸hL);have live:∀b,s.heap.get? b≠none->h'.get? b≠none:=λb h=>sb.2 b (ne b h)▸S.live b h;refine⟨⟨F.kind,F.glob,F.blt,?_,F.lH,F.lB,F.above,λn c e=>?_,λx v e q=>?_,F.hasCell,F.apart⟩,
  ⟨S.gens,S.os,λb o e O ho=>(sb.2 b (ne b (FO e))).trans (S.keep b o e O ho),S.dom,S.mono,live,S.tup.trans tk,⟨λb o e=>(sb.2 b (ne b (FO (R.base b o e)))).trans (S.rel.base b o e),S.rel.fresh,λa o e=>?_,λb O=>live b (R.ex b O)⟩⟩⟩
 .refine ah F.ns λm' aX hm=>?_;refine mx aX λo es ep e r=>?_;refine(af m' (yW o es ep ((sb.2 _ nL).trans e) r) (λx v e q=>?_));refine ah (hm x v e q) λcv G J=>?_;exact(af cv G (J.keep tk))
 .refine jb (F.cell n c e) λG J bV=>?_;refine cF bV λcv o Z h4=>?_;exact(cO G J (ey cv o ((sb.2 _ (Q n c e)).trans Z) h4))
 .refine bN (F.cellv x v e q) λc cv G da h4=>?_;refine ah da λo J Z=>?_;exact(bF c cv G (af o ((sb.2 _ (Q _ _ G)).trans J) Z) (h4.keep tk))
 .refine ah (S.rel.obj a o e) λob G J=>?_;exact(af ob ((sb.2 a λz=>nn hH (z▸e)).trans G) (J.keep tk))
theorem Dv(hA:A.handled=none){x:String}(hy:fh true env.scope.names (.nm x) (.Name id ip)=true)(F:ae L env loc H s.heap)(R:aD L H s.heap){Q:b8}(q:∀v H1,Q v H1->∃l',gZ H1 (.nm x) v loc=some l'/\K .next l' H1) {P:a9} (hP:∀c s',SPost L env H s K .next s'->P c s'):my L env A H s Q (some λv=>assignAll v ((assignEach [.Name id ip] env).map (·.2))) P:=by
 intro D Γ H3 O hq Y Z hL nL hH hm;refine bM hm λm hm=>?_;refine ah (q _ _ hq) λl' J hk=>?_;have B:∀n c,env.cells.lookup n=some c->c≠Γ:=λn c e z=>by refine jb (F.cell n c e) λ_ _ dC=>?_;refine cF dC λ_ o e' _=>?_;exact nn hL (z▸e')
 obtain F5:ae L env loc H3 O.heap:=F.step Y Z λn c e z=>z.elim (λz=>F.cell_ne e z) λz=>B n c e z;refine tW hA (.nm x) _ hy F5 Y.rel J (q7 _) λs6 F6 S6=>?_;have G:s6.heap.Ns Γ m:=by refine mx hm λo es ep e r=>?_;refine(yW o es ep (S6.keep Γ o e hH λz=>z.elim (λz=>nL z.symm) λz=>?_) r);refine cq z λ_ eN=>?_;refine bM eN λn hn=>?_;exact B n Γ hn rfl
 refine(af m G (λh' sb=>?_));refine cq (FJ (loc':=l') R ((Y.weaken λb J=>J.imp Or.inl λz=>z).trans (S6.weaken λb J=>.inl (mF J))) F6 hL nL B hH G sb) λF7 S7=>?_;exact hP _ _ (u6 hk F7 S7)
def gY{e:ME}{y x:Expr}(I:SE L d e)(hx:aU env.scope.names e x=true)(F:ae L env loc H s.heap)(R:aD L H s.heap)(hr:Room A d)(hw:swapsWithSole [y] x pos.line env=pure false)(hs:swappedStores [y] x env=pure none)(G:∀v,assignAll v ((assignEach [y] env).map (·.2))=assign y env v){Q:b8}(h:aY L.toSx d e loc H Q) (k:∀v H1 c s1,Q v H1->VR L.sa s1.heap v c->aj L env H H1 s s1->a8 L A (assign y env c) (λ_ s2=>SPost L env H s K .next s2) aG s1):a8 L A (exec (.Assign [y] x pos) env) (SPost L env H s K) aG s:=by rw[exec_Assign_arm];refine p0 (O8 ?_);rw[hw];refine p0 (u4 ?_);rw[if_neg (by decide)];refine p0 (bk (I hx F R hr h) λv H1 c s1 q J B=>?_);rw[hs];refine p0 (u4 ?_);show wpAny _ _ (do assignAll c ((assignEach [y] env).map (·.2));pure Flow.next) _ _ _;rw[G];exact p0 (z8 (k v H1 c s1 q J B) (λ_ s2 h=>u4 h) λ_ _ e=>e)
def uL(O:A.handled=none){t:Tgt}{y:Expr}(hy:fh true env.scope.names t y=true)(F:ae L env loc H s.heap)(v:V)(H1:AH)(c:Value)(s1:Shared)(q:∃l',gZ H1 t v loc=some l'/\K .next l' H1)(Y:VR L.sa s1.heap v c)(B:aj L env H H1 s s1) : a8 L A (assign y env c) (λ_ s2=>SPost L env H s K .next s2) aG s1:=by refine ah q λl' Q hk=>?_;exact Gn O hy (F.estep B) B.st.rel Q Y λs2 G J=>u6 hk G (B.own.trans (tL J))
theorem mV{p:Pos}(v:Value):assignAll v ((assignEach [.Name id p] env).map (·.2))=assign (.Name id p) env v:=rfl
def rm{e:ME}{x:Expr}(h:aU nm e x=true)(hc:GY e=true):∃ck gens sc p,x=CK.ex gens sc p ck:=by
 cases e with
 |comp a g=>exact iw h λy gens sc p _=>(Rp (.list y) gens sc p rfl)
 |_=>exact ai hc
theorem BH(B:∀e,SB L d e){x:String}{e:ME}{v:Expr}(hy:fh true env.scope.names (.nm x) (.Name id ip)=true)(hx:aU env.scope.names e v=true)(F:ae L env loc H s.heap)(R:aD L H s.heap)(hr:Room A d) (h:aY L.toSx d e loc H λv H1=>∃l',gZ H1 (.nm x) v loc=some l'/\K .next l' H1):a8 L A (exec (.Assign [.Name id ip] v pos) env) (SPost L env H s K) aG s:=by
 rcases hc:GY e with _|_
 .exact gY (B e).E hx F R hr (iF (hF hx hc)) rfl mV h (uL hr.1 hy F)
 .refine Pc (rm hx hc) λck gens sc p G=>?_;subst G;obtain⟨b,J⟩:=wc (env:=env) (id:=id) (ip:=ip) (ck:=ck) (gens:=gens) (sc:=sc) (p:=p) (line:=pos.line);rcases b with _|_
  .exact gY (B e).E hx F R hr J rfl mV h (uL hr.1 hy F)
  .rw[exec_Assign_arm];refine p0 (O8 ?_);rw[J];refine p0 (u4 ?_);rw[if_pos rfl];refine p0 ?_;obtain U:=(B e).U hc hx F R hr h (Dv hr.1 hy F R (P:=λc s'=>a8 L A (pure ()) (λ_ s'=>a8 L A (pure Flow.next) (SPost L env H s K) aG s') aG s') (λv H1 q=>q) λc s' h'=>u4 (u4 h'));rcases ck with⟨y⟩;exact p0 U
theorem Ff(B:∀e,SB L d e){ts:Tgts}{e:ME}{es:List Expr}{v:Expr}(hy:fh true env.scope.names (.tp ts) (.Tuple es k ip)=true)(hx:aU env.scope.names e v=true)(G:Bj (.Tuple es k ip) v=true)(F:ae L env loc H s.heap)(R:aD L H s.heap)(hr:Room A d) (h:aY L.toSx d e loc H λv H1=>∃l',gZ H1 (.tp ts) v loc=some l'/\K .next l' H1):a8 L A (exec (.Assign [.Tuple es k ip] v pos) env) (SPost L env H s K) aG s:=by
 have hw:swapsWithSole [.Tuple es k ip] v pos.line env=pure false:=by
  rcases hc:GY e with _|_
  .exact iF (hF hx hc)
  .refine Pc (rm hx hc) λck gens sc p av=>?_;subst av;cases ck <;> rfl
 have plain:swappedStores [.Tuple es k ip] v env=pure none->a8 L A (exec (.Assign [.Tuple es k ip] v pos) env) (SPost L env H s K) aG s:=λhs=>gY (B e).E hx F R hr hw hs (λ_=>rfl) h (uL hr.1 hy F);by_cases J:v.ctorIdx=25
 .cases e with
  |tup as =>
   revert G hw plain;have ar:=hx;revert ar;refine bT hx λxs k' p' _ hx G hw plain=>?_;have Z:xs.all (constantsAlone 8)=false:=by
    have G:(!xs.all (constantsAlone 8))=true:=G;rcases q:xs.all (constantsAlone 8)with _|_
    .rfl
    .rw[q]at G;exact ai G
   rcases pK es xs k k' ip p' env Z with hs|⟨line,names,hl,hs,hn,O,hd⟩
   .exact plain hs
   .rw[exec_Assign_arm];refine p0 (O8 ?_);rw[hw];refine p0 (u4 ?_);rw[if_neg (by decide)];refine p0 (bk (R:=λv H1=>match v with | .tup vs=>∃l',eU ts vs loc=some l'/\K .next l' H1|_=>False) ((B (.tup as)).E hx F R hr h) λv H1 c s1 h1 r1 Y=>?_);obtain⟨vs,rfl⟩:∃vs,v=.tup vs:=by cases v <;> first|exact(gV _ rfl)|exact h1.elim
    refine ah h1 λl' hb hk=>?_;rw[hs];refine p0 (u4 ?_);show wpAny _ _ (do rule "assign.swapped-stores";let items <- unpackItems c names.length none;assignInOrder (names.reverse.map λn=>bindName env n) items.reverse;pure Flow.next) _ _ _;refine p0 (R4 ?_);obtain Q:=yH hr.1 hy (F.estep Y) Y.st.rel hb r1 hn O (tx hd) (P:=λ_ s'=>SPost L env H s K .next s') λs2 F2 S2=>u6 hk F2 (Y.own.trans (tL S2));obtain ad:(do let items <- unpackItems c names.length none;assignInOrder (names.reverse.map λn=>bindName env n) items.reverse;pure .next:Sem Flow)=(do(do let items <- unpackItems c names.length none;assignInOrder (names.reverse.map λn=>bindName env n) items.reverse);pure .next):=by simp only[bind_assoc]
    rw[ad];exact p0 (z8 Q (λ_ s2 h2=>u4 h2) λ_ _ e=>e)
  |_=>exact ai (L9.mpr ((iL hx).symm.trans J))
 .exact plain (um J)
def QL(B:∀e,SB L d e){t:Tgt}{e:ME}{y x:Expr}(hy:fh true env.scope.names t y=true)(hx:aU env.scope.names e x=true)(G:Bj y x=true)(F:ae L env loc H s.heap)(R:aD L H s.heap)(hr:Room A d) (h:aY L.toSx d e loc H λv H1=>∃l',gZ H1 t v loc=some l'/\K .next l' H1):a8 L A (exec (.Assign [y] x pos) env) (SPost L env H s K) aG s:=by
 have J:=hy;revert J G;rcases t with z|ts
 .exact bm hy λid p _ _ hy=>BH B hy hx F R hr h
 .exact bT hy λes k p _ G hy=>Ff B hy hx G F R hr h
end
section
variable{H:AH}{A:Around}{d:Nat}
noncomputable def Cx.wide(L:Cx)(X':Addr->Prop)(B:∀b,X' b->L.base.get? b=none):Cx:=⟨L.toSx,X',B⟩
mutual
theorem VR.wide{sa:SX}(hX:∀b,X' b->sa.X b\/h.get? b=none):∀{v:V}{c:Value},VR sa h v c->VR ⟨sa.a,X'⟩ h v c
 | .none,_,x=>by unfold VR at *;exact x
 | .scr,_,x=>by unfold VR at *;exact x
 | .bool _,_,x=>by unfold VR at *;exact x
 | .int _,_,x=>by unfold VR at *;exact x
 | .str _,_,x=>by unfold VR at *;exact x
 | .ref _,_,x=>by unfold VR at *;exact x
 | .tup vs,_,x=>by unfold VR at *;refine uC x λa cvs n e nx aX F=>?_;obtain⟨o,B,r⟩:=aX;exact(pi a cvs n e (λz=>(hX _ z).elim nx λq=>by rw[B]at q;exact sn q) (af o B r) (VRs.wide hX F))
theorem VRs.wide{sa:SX}(hX:∀b,X' b->sa.X b\/h.get? b=none):∀{vs:List V}{cs:List Value},VRs sa h vs cs->VRs ⟨sa.a,X'⟩ h vs cs
 | [],_,x=>by unfold VRs at *;exact x
 |v::vs,_,x=>by unfold VRs at *;refine bN x λc cs e a b=>?_;exact(bF c cs e (VR.wide hX a) (VRs.wide hX b))
end
def ForPost(L:Cx)(env:Env)(loc:Loc)(A:Around)(tgt:Expr)(H:AH)(s:Shared)(K:pN->List V->AH->Prop)(c:Value)(s':Shared):Prop :=
 ∃(X':Addr->Prop)(B:∀b,X' b->L.base.get? b=none),(∀b,L.X b->X' b)/\(∀b,X' b->L.X b\/s.heap.get? b=none) /\
 ∃I W vs src St H',K src vs H'/\c=.ref I/\St 0 s'.heap/\Iter ⟨L.toSx,X',B⟩ A I W tgt src vs St/\WOK ⟨L.toSx,X',B⟩ env H' W/\(∀b,W b->s.heap.get? b=none)/\dB src H'/\aj L env H H' s s'/\aD ⟨L.toSx,X',B⟩ H' s'.heap/\ae ⟨L.toSx,X',B⟩ env loc H' s'.heap
def ForPost.of{K:pN->List V->AH->Prop}{c:Value}(F:ae L env loc H s.heap)(h:ItPost L env A tgt H s K c s'):ForPost L env loc A tgt H s K c s':=by obtain⟨I,W,vs,src,St,H',a,b,G,B,J,O,hs,S⟩:=h;exact⟨L.X,L.hX,λ_ h=>h,λ_ h=>.inl h,I,W,vs,src,St,H',a,b,G,B,J,O,hs,S,S.st.rel,F.estep S⟩
theorem ae.less{J:∀b,X' b->L.base.get? b=none}(hX:∀b,L.X b->X' b)(F:ae ⟨L.toSx,X',J⟩ env loc H h):ae L env loc H h:=by
 refine⟨F.kind,F.glob,F.blt,?_,F.lH,F.lB,F.above,F.cell,λx v e k=>?_,F.hasCell,F.apart⟩
 .refine ah F.ns λm Q hm=>?_;exact(af m Q (λx v e k=>by refine ah (hm x v e k) λcv B G=>?_;exact(af cv B (VR.less (sa:=⟨L.sad,X'⟩) hX G))))
 .refine bN (F.cellv x v e k) λc cv B G O=>?_;exact(bF c cv B G (VR.less (sa:=⟨L.sad,X'⟩) hX O))
theorem ER.less{B:∀b,X' b->L.base.get? b=none}(hX:∀b,L.X b->X' b):∀{kvs:List (V×V)}{es:List DictEntry},ER ⟨L.toSx,X',B⟩ h kvs es->ER L h kvs es
 | [],_,x=>x
 |(_,_)::_,_,x=>by refine pe x λe es bV a b c d=>?_;subst bV;exact(qT e es rfl (VR.less (sa:=⟨L.sad,X'⟩) hX a) b (VR.less (sa:=⟨L.sad,X'⟩) hX c) (ER.less hX d))
theorem ORel.less{B:∀b,X' b->L.base.get? b=none}(hX:∀b,L.X b->X' b){ob:Obj}{x:AO}(r:ORel ⟨L.toSx,X',B⟩ h ob x):ORel L h ob x:=by
 unfold ORel at *;rcases x with vs|kvs|⟨c,dx⟩
 .refine cF r λcvs n e r=>?_;exact(ey cvs n e (VRs.less (sa:=⟨L.sad,X'⟩) hX r))
 .refine bN r λes n e r q=>?_;exact(bF es n e (ER.less hX r) q)
 .exact r
theorem aD.less{B:∀b,X' b->L.base.get? b=none}(hX:∀b,L.X b->X' b)(R:aD ⟨L.toSx,X',B⟩ H h):aD L H h :=⟨R.base,R.fresh,λa o e=>by refine ah (R.obj a o e) λob F G=>?_;exact(af ob F (ORel.less hX G)),λb J=>R.ex b (hX b J)⟩
theorem ae.wide{J:∀b,X' b->L.base.get? b=none}(hX:∀b,X' b->L.X b\/h.get? b=none)(F:ae L env loc H h):ae ⟨L.toSx,X',J⟩ env loc H h:=by
 refine⟨F.kind,F.glob,F.blt,?_,F.lH,F.lB,F.above,F.cell,λx v e k=>?_,F.hasCell,F.apart⟩
 .refine ah F.ns λm Q hm=>?_;exact(af m Q (λx v e k=>by refine ah (hm x v e k) λcv B G=>?_;exact(af cv B (VR.wide (sa:=L.sa) hX G))))
 .refine bN (F.cellv x v e k) λc cv B G O=>?_;exact(bF c cv B G (VR.wide (sa:=L.sa) hX O))
theorem ER.wide{B:∀b,X' b->L.base.get? b=none}(hX:∀b,X' b->L.X b\/h.get? b=none):∀{kvs:List (V×V)}{es:List DictEntry},ER L h kvs es->ER ⟨L.toSx,X',B⟩ h kvs es
 | [],_,x=>x
 |(_,_)::_,_,x=>by refine pe x λe es da a b c d=>?_;subst da;exact(qT e es rfl (VR.wide (sa:=L.sa) hX a) b (VR.wide (sa:=L.sa) hX c) (ER.wide hX d))
theorem ORel.wide{B:∀b,X' b->L.base.get? b=none}(hX:∀b,X' b->L.X b\/h.get? b=none){ob:Obj}{x:AO}(r:ORel L h ob x):ORel ⟨L.toSx,X',B⟩ h ob x:=by
 unfold ORel at *;rcases x with vs|kvs|⟨c,dx⟩
 .obtain⟨cvs,n,e,r⟩:=r;exact(ey cvs n e (VRs.wide (sa:=L.sa) hX r))
 .refine bN r λes n e r q=>?_;exact(bF es n e (ER.wide hX r) q)
 .exact r
theorem yD(hA:A.handled=none){W:Addr->Prop}{St:Nat->Heap->Prop}(It:Iter L A I W tgt src vs St){t:Tgt}(hct:fh true env.scope.names t tgt=true){body:List Stmt}{stepW:Loc->AH->(Fl->Loc->AH->Prop)->Prop} (ad:∀{l':Loc}{H1:AH}{s1:Shared}{k:Fl->Loc->AH->Prop},ae L env l' H1 s1.heap->aD L H1 s1.heap->stepW l' H1 k->a8 L A (execs body env) (SPost L env H1 s1 k) aG s1) {H₀:AH} (F:ae L env loc H s.heap) (Z:WOK L env H W) (hW0:∀b,W b->s₀.heap.get? b=none) (S0:ay L (dQ env) H₀ H s₀ s) (st:St 0 s.heap) {K:Fl->Loc->AH->Prop} (h:kM src (λx l H' k=>∃l',bz t x l=some l'/\stepW l' H' k) vs loc H K) {R:Result->Shared->Prop} (hR:∀f s',SPost L env H₀ s₀ K f s'->R (.ok f) s') : codeAny (model L.prog L.w) A (.forLoop tgt (.ref I) body [] env) R s:=by
 let Inv:Nat->Shared->Prop:=λn s=>∃i l H,n=vs.length-i/\i<=vs.length/\kM src (λx l H' k=>∃l',bz t x l=some l'/\stepW l' H' k) (vs.drop i) l H K/\ae L env l H s.heap/\WOK L env H W/\ay L (dQ env) H₀ H s₀ s/\St i s.heap
 refine codeAny_forLoop_any Inv (λn s hI=>?_) vs.length (Ro 0 loc H (by rfl) (E1 _) h F Z S0 st);refine RP hI λi l H dC hi hf F Z S0 st=>?_;subst dC;rcases e:vs.drop i with _|⟨x,rest⟩
 .rw[e]at hf;have hil:i=vs.length:=by obtain Y:=List.drop_eq_nil_iff.mp e;exact Ox hi Y
  subst hil;refine z8 (wE It F S0.rel Z hW0 S0 hf.1 st (P:=λs'=>ae L env l H s'.heap/\ay L (dQ env) H₀ H s₀ s') λs' F' S' k=>⟨F',S'⟩) (λr s' h'=>?_) λ_ _ e=>e.elim;refine jb h' λeN F' S'=>?_;subst eN;exact wpAny_execs_nil (hR _ _ (u6 hf.2 F' S'))
 .rw[e]at hf;obtain⟨hs,l',G,hst⟩:=hf;have hx:vs[i]?=some x:=by
   obtain Y:(vs.drop i)[0]?=some x:=by rw[e];rfl
   rwa [P3,Nat.add_zero]at Y
  have hlt:i<vs.length:=(z5.mp hx).1;have ar:vs.drop (i+1)=rest:=by rw[<- List.tail_drop,e];rfl
  refine z8 (wF (cl:=true) hA It F S0.rel Z hs st hx hct G (P:=λB=>a8 L A (execs body env) (λf B=>match f with
      | .next | .cont=>∃m,m<vs.length-i/\Inv m B
      | .brk=>R (.ok .next) B
      | .ret v=>R (.ok (.ret v)) B) aG B) λB c0 O Q=>?_) (λr ac h₁=>?_) λ_ _ e=>e.elim
  .refine z8 (ad c0 O.rel hst) (λf s4 h4=>?_) λ_ _ e=>e;refine uC h4 λfl l4 H4 hk J F4 S4=>?_;obtain W4:WOK L env H4 W:=(Z.step O λb G=>It.lw _ _ st b G).step S4 λb G=>It.lw _ _ Q b G;have S04:ay L (dQ env) H₀ H4 s₀ s4:=by obtain a1:ay L (λb=>dQ env b\/W b) H₀ H s₀ s:=S0.weaken λb G=>.inl G;obtain a2:ay L (λb=>dQ env b\/W b) H H s B:=O.weaken λb G=>G.imp mF id;obtain a3:ay L (λb=>dQ env b\/W b) H H4 B s4:=S4.weaken λb G=>.inl G;exact((a1.trans a2).trans a3).fresh λb G=>G.imp id (hW0 b)
   rcases fl with _|v
   .cases f with
    |next =>refine(af (vs.length-(i+1)) (Oy hlt) (Ro (i+1) l4 H4 rfl (FV hlt) (by rw[ar];exact hk) F4 W4 S04 ?_));exact It.frame _ _ _ Q (λb o G e=>S4.keep b o e ((Z.step O λb G=>It.lw _ _ st b G).h b G) λz=>z.elim (λz=>Z.l (z▸G)) λ⟨n,hn⟩=>Z.c n b hn G) S4.tup
    |ret _=>exact J.elim
    |brk=>exact J.elim
    |cont=>exact J.elim
   .cases f with
    |ret c=>exact hR _ _ (pi (.ret v) l4 H4 hk J F4 S04)
    |next=>exact J.elim
    |brk=>exact J.elim
    |cont=>exact J.elim
  .obtain⟨c',rfl,h₁⟩:=h₁;exact z8 h₁ (λ_ s2 h2=>z8 h2 (λ_ s3 h3=>z8 h3 (λ_ _ h=>h) λ_ _ e=>e.elim) λ_ _ e=>e.elim) λ_ _ e=>e.elim
end
def Hh(L:Cx):Prop:=∀(it:MIt){env:Env}{x tgt:Expr}{loc:Loc}{H:AH}{s:Shared}{A:Around}{d:Nat}{K:pN->List V->AH->Prop},wr env.scope.names it x=true->cD tgt=true->jW it tgt=true->ae L env loc H s.heap->aD L H s.heap->Room A d->lh L.toSx d it loc H K ->
  a8 L A (eval x env) (λB ac=>a8 L A (pyIter B) (ForPost L env loc A tgt H s K) aG ac) aG s
abbrev wm:Prop:=∀(L:Cx),aJ L.toSx->∀p,aP L p
abbrev BA:Prop:=∀(L:Cx),aJ L.toSx->Hh L
section
variable{H:AH}{A:Around}{d:Nat}
def ay.wide{own:Addr->Prop}{B:∀b,X' b->L.base.get? b=none}(hX:∀b,L.X b->X' b)(S:ay L own H H' s s')(R:aD ⟨L.toSx,X',B⟩ H' s'.heap):ay ⟨L.toSx,X',B⟩ own H H' s s' :=⟨S.gens,S.os,S.keep,S.dom,S.mono,S.live,(λb o nx e=>S.tup b o (λz=>nx (hX b z)) e),R⟩
theorem ay.less{own:Addr->Prop}{F:∀b,X' b->L.base.get? b=none}(hX:∀b,L.X b->X' b)(B:∀b,X' b->L.X b\/s.heap.get? b=none)(S:ay ⟨L.toSx,X',F⟩ own H H' s s'):ay L own H H' s s' :=⟨S.gens,S.os,S.keep,S.dom,S.mono,S.live,(λb o nx e=>S.tup b o (λz=>(B b z).elim nx λq=>by rw[e]at q;exact sn q) e),S.rel.less hX⟩
theorem SPost.less{f:Flow}{G:∀b,X' b->L.base.get? b=none}(hX:∀b,L.X b->X' b)(B:∀b,X' b->L.X b\/s.heap.get? b=none)(h:SPost ⟨L.toSx,X',G⟩ env H s K f s'):SPost L env H s K f s':=by refine uC h λfl l H' a b F S=>?_;refine(pi fl l H' a ?_ (F.less hX) (S.less hX B));cases f <;> cases fl <;> first|exact b|exact VR.less (sa:=⟨L.sad,X'⟩) hX b
variable(PA:wm)(FA:BA)
def SS(d:Nat)(m:MS):Prop:=∀{L:Cx}(_:aJ L.toSx){env:Env}{y:Stmt}{loc:Loc}{H:AH}{s:Shared}{A:Around}{K:Fl->Loc->AH->Prop},Hr env.scope.names m y=true->ae L env loc H s.heap->aD L H s.heap->Room A d->Rh L.toSx d m loc H K ->
  a8 L A (exec y env) (SPost L env H s K) aG s
def BC(d:Nat)(ms:List MS):Prop:=∀{L:Cx}(_:aJ L.toSx){env:Env}{ys:List Stmt}{loc:Loc}{H:AH}{s:Shared}{A:Around}{K:Fl->Loc->AH->Prop},jd env.scope.names ms ys=true->ae L env loc H s.heap->aD L H s.heap->Room A d->az L.toSx d ms loc H K ->
  a8 L A (execs ys env) (SPost L env H s K) aG s
def xT{x:Expr}(h:nY x=true)(hk:interactive env=false){Q:Flow->Shared->Prop}(hx:a8 L A (eval x env) (λv s'=>match v with | .ref _=>False|_=>Q .next s') aG s):a8 L A (exec (.Expr x pos) env) Q aG s :=wpAny_Expr hx hk (by cases x <;> first|rfl|exact ai h)
theorem yw{v:V}{sa:SX}{c:Value}{P:Prop}(hp:iz v)(r:VR sa h v c)(q:P):match(generalizing:=false) c with | .ref _=>False|_=>P:=by
 cases v with
 |none=>apply r.none_el;exact q
 |int i=>apply r.int_el;intro t;exact q
 |bool b=>apply r.bool_el;exact q
 |str x=>apply r.str_el;intro t;exact q
 |_=>exact hp.elim
include PA in
theorem Dl(e:ME):SS d (.expr e):=by intro L C env y loc H s A K hc F R hr h;refine tI hc λx pos hk=>?_;obtain hk:=aa hk;exact xT hk.2 (by unfold interactive;rw[F.kind];rfl) (bk (sE C (PA L C) e hk.1 F R hr h) λv H1 c s1 G J B=>yw G.1 J (u6 G.2 (F.estep B) B.own))
include PA in
theorem OT(t:Tgt)(e:ME):SS d (.asg (.tg t) e):=by intro L C env y loc H s A K hc F R hr h;refine fO hc λts x pos hk=>eZ hk λy hk=>?_;obtain hk:=aa hk;obtain B:=aa hk.2;exact QL (λe=>Gf C (PA L C) e) hk.1 B.1 B.2 F R hr h
def oR{e:ME}{y x:Expr}{line:Nat}(hx:aU env.scope.names e x=true)(hy:∀ck gens sc p,swapsWithSole [y] (CK.ex gens sc p ck) line env=pure false):swapsWithSole [y] x line env=pure false:=by
 rcases hc:GY e with _|_
 .exact iF (hF hx hc)
 .refine Pc (rm hx hc) λck gens sc p da=>?_;subst da;exact hy ck gens sc p
include PA in
theorem OQ(o:ME)(f:String)(e:ME):SS d (.asg (.at o f) e):=by intro L C env y loc H s A K hc F R hr h;refine fO hc λts x pos hk=>eZ hk λy hk=>?_;obtain hk:=aa hk;refine eJ hk.1 λz n p hz=>?_;obtain hz:=aa hz;obtain rfl:=J1 hz.1;refine gY (sE C (PA L C) e) hk.2 F R hr (oR hk.2 λck gens sc p=>by cases ck <;> rfl) rfl (λ_=>rfl) h λv H1 c s1 Q r1 B=>?_;show wpAny _ _ (do let ov <- holding [c] (eval z env);standAt p.atName;holding [c,ov] (setAttr ov (Str.ofString f) c);release [c,ov] []) _ _ _;refine p0 (E6 (bk (sE C (PA L C) o hz.2 (F.estep B) B.st.rel hr Q) λov H2 oc s2 Y r2 G=>?_));refine RQ Y λa cc dx kvs dC i1 i2 Z i4 i5 hk=>?_;subst dC;apply r2.ref_el;obtain J:=(F.estep B).estep G;exact p0 (O8 (p0 (E6 (yG C J G.st.rel i1 i2 Z i4 i5 (r1.keep G.st.tup) λs3 O=>wpAny_release (u6 hk (J.estep O) (((B.trans G).trans O).own))))))
include PA in
theorem OS(o i:ME)(e:ME):SS d (.asg (.ix o i) e):=by
 intro L C env y loc H s A K hc F R hr h;refine fO hc λts x pos hk=>eZ hk λy hk=>?_;have hk:=aa hk;refine eK hk.1 λz q p hz=>?_;have hz:=aa hz;refine gY (sE C (PA L C) e) hk.2 F R hr (oR hk.2 λck gens sc p=>by cases ck <;> rfl) rfl (λ_=>rfl) h λv H1 c s1 h1 Z Q=>?_;rw[assign_Subscript];refine p0 (E6 (bk (sE C (PA L C) o hz.1 (F.estep Q) Q.st.rel hr h1) λov H2 oc s2 h2 r2 Y=>?_));obtain F2:=(F.estep Q).estep Y;refine p0 (E6 (bk (sE C (PA L C) i hz.2 F2 Y.st.rel hr h2) λiv H3 ic s3 h3 r3 G=>?_));obtain⟨a,rfl,h3⟩:=h3;apply r2.ref_el;have O:=F2.estep G;obtain B:=(Q.trans Y).trans G;have Z:=(Z.keep Y.st.tup).keep G.st.tup;refine p0 (O8 (p0 (E6 ?_)));rcases h3 with⟨vs,n,j1,rfl,j2,j3,j4,hk⟩|⟨kvs,j1,j2,j3,hk⟩
 .exact oH O G.st.rel j1 j2 j3 j4 r3 Z λs4 J=>wpAny_release (u6 hk (O.estep J) (B.trans J).own)
 .exact oF C O G.st.rel hr j1 j2 j3 r3 Z λs4 J=>wpAny_release (u6 hk (O.estep J) (B.trans J).own)
include PA in
theorem GG(e:ME):SS d (.ret e):=by
 intro L C env y loc H s A K hc F R hr h;refine pF hc λx pos hk=>?_;rcases x with _|x
 .exact ai hk
 .exact wpAny_Return_some (bk (sE C (PA L C) e hk F R hr h) λv H1 c s1 G J B=>(pi (.ret v) loc H1 G J (F.estep B) B.own))
def Dm:SS d .rais:=by intro L C env y loc H s A K hc F R hr h;exact h.elim
def u7{f:Flow}{ac:Shared}{B:AH}(S:aj L env H B s ac)(h:SPost L env B ac K f s'):SPost L env H s K f s':=SPost.after S.own h
include PA in
theorem OR{c:ME}{a b:List MS}(O:BC d a)(Q:BC d b):SS d (.if1 c a b):=by
 intro L C env y loc H s A K hc F R hr h;refine yt hc λx ys Y pos hk=>?_;obtain hk:=aa hk;obtain J:=aa hk.2;refine wpAny_If (z8 (sT C (PA L C) c hk.1 F R hr h) (λt s1 G=>?_) λ_ _ e=>e);refine ah G λH1 G B=>?_;cases t with
 |true=>exact z8 (O C J.1 (F.estep B) B.st.rel hr G) (λ_ _ h=>u7 B h) λ_ _ e=>e
 |false=>exact z8 (Q C J.2 (F.estep B) B.st.rel hr G) (λ_ _ h=>u7 B h) λ_ _ e=>e
include PA in
theorem Bd{c:ME}{b:List MS}(Ib:BC d b):SS d (.whl c b):=by
 intro L C env y loc H s A K hc F R hr h;refine rM hc λx ys zs pos hk=>?_;obtain hk:=aa hk;obtain Y:=aa hk.2;rw[I6.mp hk.1];refine ah h λI h0 hI=>?_;obtain⟨O,h0⟩:=h0;refine wpAny_While (codeAny_whileLoop (λn s'=>∃l H',I n l H'/\ae L env l H' s'.heap/\ay L (dQ env) H H' s s') (λn s' hs=>?_) O (bF loc H h0 F (ay.refl R)));refine bN hs λl H' hn Z S'=>?_;refine z8 (sT C (PA L C) c Y.1 Z S'.rel hr (hI n l H' hn)) (λt s1 Q=>?_) λ_ _ e=>e.elim;refine ah Q λH1 Q G=>?_;cases t with
 |true =>
  refine z8 (Ib C Y.2 (Z.estep G) G.st.rel hr Q) (λf s2 Y=>?_) λ_ _ e=>e.elim;refine uC Y λfl l2 H2 hk B F2 S2=>?_;obtain J:=(S'.trans G.own).trans S2;rcases fl with _|v
  .cases f with
   |next=>refine ah hk λm hm hk=>?_;exact(af m hm (bF l2 H2 hk F2 J))
   |_=>exact B.elim
  .cases f with
   |ret c=>exact(pi (.ret v) l2 H2 hk B F2 J)
   |_=>exact B.elim
 |false=>exact wpAny_execs_nil (u6 Q (Z.estep G) (S'.trans G.own))
include FA in
theorem GF{t:Tgt}{it:MIt}{b:List MS}(Ib:BC d b):SS d (.for1 t it b):=by intro L C env y loc H s A K hc F R hr h;refine vz hc λz x ys zs pos hk=>?_;obtain k1:=aa hk;obtain k2:=aa k1.2;obtain Q:=aa k2.2;have Y:=aa Q.2;have Z:=aa Y.2;rw[I6.mp k1.1];refine wpAny_For (z8 (FA L C it Q.1 (md k2.1) Z.1 F R hr h) (λxv s1 h1=>z8 h1 (λcc s2 h2=>?_) λ_ _ e=>e) λ_ _ e=>e) (λx=>gy Y.1 env x);obtain⟨X',O,hX,B,I,W,vs,src,St,H1,q,rfl,st,It,hW,hn,hs,S,R',F'⟩:=h2;exact yD (L:=⟨L.toSx,X',O⟩) (s₀:=s) (H₀:=H) (stepW:=λl' H' k=>az L.toSx d b l' H' k) hr.1 It k2.1 (λG J hw=>Ib (L:=⟨L.toSx,X',O⟩) C Z.2 G J hr hw) F' hW hn (S.own.wide hX R') st q λf s' hP=>SPost.less hX B hP
def Dn:BC d []:=by
 intro L C env ys loc H s A K hc F R hr h;rcases ys with _|⟨_,_⟩
 .exact wpAny_execs_nil (u6 h F (ay.refl R))
 .exact ai hc
theorem Be{m:MS}{ms:List MS}(Q:SS d m)(G:BC d ms):BC d (m::ms):=by
 intro L C env ys loc H s A K hc F R hr h;rcases ys with _|⟨y,r⟩
 .exact ai hc
 .obtain hc:=aa hc;refine wpAny_execs_cons (z8 (Q C hc.1 F R hr h) (λf s1 Y=>?_) λ_ _ e=>e);refine uC Y λfl l1 H1 hk B O J=>?_;rcases fl with _|v
  .cases f with
   |next=>exact z8 (G C hc.2 O J.rel hr hk) (λ_ _ h=>SPost.after J h) λ_ _ e=>e
   |_=>exact B.elim
  .cases f with
   |ret c=>exact(pi (.ret v) l1 H1 hk B O J)
   |_=>exact B.elim
include PA FA in
theorem Gg(ms:List MS):BC d ms :=MS.rec_1 (motive_1:=SS d) (motive_2:=BC d) (Dl PA) (λt e=>match t with | .tg t=>OT PA t e | .at o f=>OQ PA o f e | .ix o i=>OS PA o i e) (GG PA) (λ_ _ _ a b=>OR PA a b) (λ_ _ b=>Bd PA b) (λ_ _ _ b=>GF FA b) Dm Dn (λ_ _ a b=>Be a b) ms
include PA FA in
theorem RI(ms:List MS)(C:aJ L.toSx){ys:List Stmt}{H:AH}{A:Around}(hc:jd env.scope.names ms ys=true)(F:ae L env loc H s.heap)(R:aD L H s.heap)(hr:Room A d)(h:az L.toSx d ms loc H K) : a8 L A (execs ys env) (SPost L env H s K) aG s:=Gg PA FA ms C hc F R hr h
end
noncomputable def aT(ps:List String)(vs:List V):Loc:=λx=>(ps.zip vs).lookup x
structure FnAt(σ:Sx)(f:Addr)(fd:FuncData)(ps:List String)(ms:List MS):Prop where
 obj:∃o,σ.base.get? f=some o/\o.data=.func fd
 cd:σ.base.CodeRec fd.code fd.qualname
 body:∃ys,fd.body=.stmts ys/\jd fd.scope.names ms ys=true
 clo:fd.closure=[]
 glob:fd.globals=mainGlobals
 blt:fd.builtins=builtinsNs
 co:fd.scope.isCoroutine=false
 gen:fd.scope.isGenerator=false
 kind:fd.scope.kind=.function
 bind:∀vals:List Value,vals.length=ps.length->bindArgs fd ⟨vals,[]⟩=pure ((ps.map Str.ofString).zip vals)
 nodup:ps.Nodup
 kp:∀p∈ps,fd.scope.names.lookup (Str.ofString p)=some .local\/fd.scope.names.lookup (Str.ofString p)=some .cell
 nofree:∀x∈fd.scope.names,x.2≠.free
theorem eV:∀(names:List (Str×NameKind))(n:Nat)(acc:List (Str×Addr))(x:Str),(acc.lookup x).isSome=true->((cellsFrom n names acc).lookup x).isSome=true
 | [],_,_,_,h=>h
 |(name,kind)::r,n,acc,x,h=>by
  unfold cellsFrom;split
  .refine eV r _ _ x ?_;rw[K8];cases B:x==name with
   |true=>rfl
   |false=>exact h
  .exact eV r _ _ x h
theorem fL:∀(names:List (Str×NameKind))(n:Nat)(acc:List (Str×Addr))(x:Str),(x,NameKind.cell)∈names->((cellsFrom n names acc).lookup x).isSome=true
 |(name,kind)::r,n,acc,x,h=>by
  unfold cellsFrom;rcases A4.mp h with e|h
  .refine cq (N7 e) λaX bV=>?_;subst aX;subst bV;exact eV r _ _ _ (by simp)
  .split
   .exact fL r _ _ x h
   .exact fL r _ _ x h
theorem lq{kindOf:Str->Option NameKind}{y:Str}:∀{binds:List (Str×Value)}{m:Str->Option Value},y∉binds.map (·.1)->bindL kindOf binds m y=m y
 | [],m,_=>rfl
 |(n,v)::r,m,h=>by
  simp only[List.map_cons,List.mem_cons,not_or]at h;unfold bindL;rw[lq h.2];split
  .exact if_neg h.1
  .rfl
theorem ln{kindOf:Str->Option NameKind}{y:Str}:∀{binds:List (Str×Value)}{m:Str->Option Value},y∉binds.map (·.1)->bindC kindOf binds m y=m y
 | [],m,_=>rfl
 |(n,v)::r,m,h=>by
  simp only[List.map_cons,List.mem_cons,not_or]at h;unfold bindC;rw[ln h.2];split
  .rfl
  .exact if_neg h.1
def yU{ps:List String}:∀y,y∈((ps.map Str.ofString).zip cvs).map (·.1)->y∈ps.map Str.ofString:=λy h=>by refine ah (w7.mp h) λp hp da=>?_;subst da;exact(List.of_mem_zip hp).1
theorem re{kindOf:Str->Option NameKind}{sa:SX}:∀{ps:List String}{vs:List V}{cvs:List Value},ps.Nodup->VRs sa h vs cvs->∀{x:String}{v:V},aT ps vs x=some v -> ∃cv,VR sa h v cv/\(kindOf (Str.ofString x)=some .local->∀m,bindL kindOf ((ps.map Str.ofString).zip cvs) m (Str.ofString x)=some cv)/\(kindOf (Str.ofString x)≠some .local->∀m,bindC kindOf ((ps.map Str.ofString).zip cvs) m (Str.ofString x)=some cv)
 | [],vs,cvs,_,_,x,v,e=>by simp[aT]at e
 |p::ps,[],cvs,_,_,x,v,e=>by simp[aT]at e
 |p::ps,u::vs,cvs,nd,r,x,v,e=>by
  refine bN (VRs.cons_inv r) λc cs dC O Q=>?_;subst dC;rw[C8]at nd;unfold aT at e;rw[M8,K8]at e;by_cases hx:x=p
  .subst hx;simp only[beq_self_eq_true,Option.some.injEq]at e;subst e;have B:Str.ofString x∉((ps.map Str.ofString).zip cs).map (·.1):=λz=>by refine ah (w7.mp (yU _ z)) λq hq e=>?_;exact nd.1 (br e▸hq)
   refine(aK c O (λhk m=>?_) (λhk m=>?_))
   .rw[C4,M8];unfold bindL;rw[lq B,if_pos hk,if_pos rfl]
   .rw[C4,M8];unfold bindC;rw[ln B,if_neg hk,if_pos rfl]
  .rw[beq_false_of_ne hx]at e;refine bR (re (kindOf:=kindOf) nd.2 Q (x:=x) (v:=v) e) λcv F G J=>?_;exact(aK cv F (λhk m=>by rw[C4,M8];exact G hk _) (λhk m=>by rw[C4,M8];exact J hk _))
theorem sJ(PA:wm)(FA:BA)(C:aJ σ){f:Addr}{fd:FuncData}{ps:List String}{ms:List MS}(X:FnAt σ f fd ps ms){H:AH}{Q:b8}{d:Nat}(hl:vs.length=ps.length) (h:az σ d ms (aT ps vs) H (λfl _ H'=>match fl with | .ret v=>Q v H' | .next=>Q .none H')) {Xs:Addr->Prop} {hX:∀b,Xs b->σ.base.get? b=none} {A:Around} {s:Shared} {cvs:List Value} (hr:Room A (d+1)) (R:aD ⟨σ,Xs,hX⟩ H s.heap) (J:σ.base.objs.size<=s.heap.objs.size) (V:VRs ⟨σ.sad,Xs⟩ s.heap vs cvs):codeAny (model σ.prog σ.w) A (.call (.ref f) ⟨cvs,[]⟩) (uE ⟨σ,Xs,hX⟩ H s Q) s:=by
 let L:Cx:=⟨σ,Xs,hX⟩
 refine ah X.obj λo ho hd=>?_;refine ah X.body λys Z ad=>?_;obtain ar:cvs.length=ps.length:=by rw[<- hl];exact VRs.length V
 obtain as:∀b,s.heap.objs.size<=b->s.heap.get? b=none:=λb Z=>B8 Z;have F:∀x,(fd.scope.names.lookup x=some .cell)->∀n,((cellsFrom n fd.scope.names []).lookup x).isSome=true:=λx hx n=>fL _ _ _ _ (mem_of_lookup hx);refine codeAny_call_cells (binds:=(ps.map Str.ofString).zip cvs) (by obtain B:=hr.2.1;exact Qz B) (R.base _ _ ho) hd (C.nolim.keeps R.base) (X.cd.keeps R.base) Z (X.bind cvs ar) X.clo (λx hx=>?_) (λac I=>?_) X.co X.gen X.kind
 .obtain hm:=(List.of_mem_zip hx).1;refine ah (w7.mp hm) λp hp e=>?_;rcases X.kp p hp with k|k
  .exact .inl (by rw[<- e];exact k)
  .exact .inr ⟨by rw[<- e];exact k,by rw[<- e];exact F _ k _⟩
 .refine ph I.toInCall.same λh₁ tk e1=>?_;have S1:ay L eE H H s ac:=q9 R (by rw[e1]) (by rw[e1]) I.toInCall.keep;have above:∀n c,(callEnvC fd s.heap.objs.size f).cells.lookup n=some c->s.heap.get? c=none:=λn c e=>as c (D9 (z0 I.toInCall.fresh (I.above n c (mem_of_lookup e))));have G:s.heap.get? (callEnvC fd s.heap.objs.size f).locals=none:=as _ I.toInCall.fresh;have J:L.base.objs.size<=s.heap.objs.size:=J;have F1:ae L (callEnvC fd s.heap.objs.size f) (aT ps vs) H ac.heap:=by
   refine⟨X.kind,X.glob,X.blt,(af _ I.toInCall.ns (λx v e k=>?_)),(R.free G).1,(R.free G).2,s7 J I.toInCall.fresh,λn c e=>⟨(R.free (above n c e)).1,(R.free (above n c e)).2,_,I.cell n c e⟩,λx v e k=>?_,λn k=>?_,I.apart⟩
   .refine bR (re (kindOf:=(callEnvC fd s.heap.objs.size f).kindOf) X.nodup V e) λcv h1 Y _=>?_;exact(af cv (Y k _) (h1.keep S1.tup))
   .refine bR (re (kindOf:=(callEnvC fd s.heap.objs.size f).kindOf) X.nodup V e) λcv h1 _ Y=>?_;rcases k with k|k
    .refine bM (Option.isSome_iff_exists.mp (F _ k (s.heap.objs.size+1))) λc hc=>?_;refine(bF c cv hc ?_ (h1.keep S1.tup));obtain B:=I.cell _ c hc;rwa [Y (by rw[k];simp)]at B
    .exact absurd rfl (X.nofree _ (mem_of_lookup k))
   .rcases k with k|k
    .exact Option.isSome_iff_exists.mp (F _ k _)
    .exact absurd rfl (X.nofree _ (mem_of_lookup k))
  obtain hr':Room (A.deeper (callEnvC fd s.heap.objs.size f)) d:=(cO hr.1 (by obtain B:=hr.2.1;exact QA B) (by obtain B:=hr.2.2;exact QB B));refine z8 (RI PA FA ms (L:=L) C ad F1 S1.rel hr' h) (λfl s2 Y=>?_) λ_ _ e=>e.elim;refine uC Y λfl' l2 H2 hk O F2 S2=>?_;have S:ay L eE H H2 s s2:=((S1.weaken (own':=dQ (callEnvC fd s.heap.objs.size f)) λb h=>h.elim).trans S2).fresh λb Z=>.inr (Z.elim (λe=>e▸G) λ⟨n,e⟩=>above n b e);rcases fl' with _|v
  .cases fl with
   |next=>exact(bF .none H2 hk p8 S)
   |_=>exact O.elim
  .cases fl with
   |ret c=>exact(bF v H2 hk O S)
   |_=>exact O.elim
def sK(PA:wm)(FA:BA)(C:aJ σ){f:Addr}{fd:FuncData}{ps:List String}{ms:List MS}(X:FnAt σ f fd ps ms){H:AH}{Q:b8}{d:Nat}(hl:vs.length=ps.length) (h:az σ d ms (aT ps vs) H (λfl _ H'=>match fl with | .ret v=>Q v H' | .next=>Q .none H')):CallS σ (d+1) f vs H Q:=by intro Xs hX A s cvs hr R top V;refine ah top λb B F=>?_;exact sJ PA FA C X hl h hr R (s7 B (B0 λz=>F (B8 (D9 z)))) V
section
variable{x:Expr}{nm b:String}
section
variable{H:AH}{A:Around}{d:Nat}
def Bg(B:∀rest,starEach (x::rest) env=(false,eval x env)::starEach rest env)(pos:Pos):backTo pos (starEach [x] env)=[(false,eval x env)]:=by rw[B];rfl
theorem vC(C:aJ L.toSx)(F:ae L env loc H s.heap)(R:aD L H s.heap)(hb:(nm,Value.builtin b)∈bZ)(J:dP env.scope.names nm id=true)(Y:∀rest,starEach (x::rest) env=(false,eval x env)::starEach rest env) {P:a9} (h:a8 L A (eval x env) (λc ac=>a8 L A (call (.builtin b) [c]) P aG ac) aG s):a8 L A (eval (.Call (.Name id ip) [x] [] pos) env) P aG s:=by have J:=aa J;have Q:=aa J.1;obtain rfl:=J1 Q.1;refine pe C.ns λmg mb G B _ _ O=>?_;refine cq (O (nm,.builtin b) hb) λhm hv=>?_;refine Call_ (iW F R G B Q.2 J.2 hm hv (PyProof.Rows.callWith_builtin1 (e:=x) (rest:=[]) ?_ (Y [])));rw[Bg Y];exact Sp (z8 h (λc s1 Z=>Calls.spliced_nil Z) λ_ _ e=>e)
theorem kS(C:aJ L.toSx)(F:ae L env loc H s.heap)(R:aD L H s.heap)(hb:(nm,Value.type b)∈bZ)(J:dP env.scope.names nm id=true)(Y:∀rest,starEach (x::rest) env=(false,eval x env)::starEach rest env) {P:a9} (h:a8 L A (eval x env) (λc ac=>a8 L A (call (.type b) [c]) P aG ac) aG s):a8 L A (eval (.Call (.Name id ip) [x] [] pos) env) P aG s:=by have J:=aa J;have Q:=aa J.1;obtain rfl:=J1 Q.1;refine pe C.ns λmg mb G B _ _ O=>?_;obtain⟨hm,hv⟩:=O (nm,.type b) hb;refine Call_ (iW F R G B Q.2 J.2 hm hv (PyProof.Rows.callWith_type1 (e:=x) (rest:=[]) ?_ (Y [])));rw[Bg Y];exact Sp (z8 h (λc s1 Z=>Calls.spliced_nil Z) λ_ _ e=>e)
abbrev sx(L:Cx)(env:Env)(loc:Loc)(A:Around)(B:b8)(Q:b8)(f:Value):Prop:=∀{v:V}{H1:AH}{c:Value}{s1:Shared},B v H1->VR L.sa s1.heap v c->ae L env loc H1 s1.heap->aD L H1 s1.heap->a8 L A (call f [c]) (EPost L env H1 s1 Q) aG s1
theorem mH(C:aJ L.toSx)(F:ae L env loc H s.heap)(R:aD L H s.heap)(Y:(nm,Value.builtin b)∈bZ)(J:dP env.scope.names nm id=true)(Z:∀rest,starEach (x::rest) env=(false,eval x env)::starEach rest env){G Q:b8} (h:a8 L A (eval x env) (EPost L env H s G) aG s) (k:sx L env loc A G Q (.builtin b)):a8 L A (eval (.Call (.Name id ip) [x] [] pos) env) (EPost L env H s Q) aG s :=vC C F R Y J Z (bk h λv H1 c s1 O r1 B=>z8 (k O r1 (F.estep B) B.st.rel) (λ_ _ h=>r8 B h) λ_ _ e=>e)
theorem rO(C:aJ L.toSx)(F:ae L env loc H s.heap)(R:aD L H s.heap)(Y:(nm,Value.type b)∈bZ)(J:dP env.scope.names nm id=true)(Z:∀rest,starEach (x::rest) env=(false,eval x env)::starEach rest env){G Q:b8} (h:a8 L A (eval x env) (EPost L env H s G) aG s) (k:sx L env loc A G Q (.type b)):a8 L A (eval (.Call (.Name id ip) [x] [] pos) env) (EPost L env H s Q) aG s :=kS C F R Y J Z (bk h λv H1 c s1 O r1 B=>z8 (k O r1 (F.estep B) B.st.rel) (λ_ _ h=>r8 B h) λ_ _ e=>e)
def bi{p:String×Value}(h:bZ[i]?=some p):p∈bZ:=z6 h
def iK{f:Expr}{as:List Expr}{k:List Keyword}{p:Pos}(rest:List Expr):starEach (.Call f as k p::rest) env=(false,eval (.Call f as k p) env)::starEach rest env:=rfl
theorem Dw(C:aJ L.toSx)(R:aD L H s.heap){a:Addr}(hd:H a=some (.dict kvs))(Q:bI kvs):(∃B,@Heap.DictOf L.prog L.w V bU (bB L.prog L.w) s.heap a B)/\(a==sysModules)=false:=by
 letI:DecidableEq V:=bU
 refine bN (cu R hd) λes n F J G=>?_;refine bR (xo F J G Q) λB _ _ O=>?_;refine⟨⟨B,O.dictOf⟩,Sl.mpr λe=>?_⟩;obtain⟨o,F⟩:=C.sysm;exact nn (R.fresh _ _ hd) (e▸F)
theorem xj(C:aJ L.toSx){y:Expr}{ap:Pos}(Y:cU y=true)(hp:(ap.endLine==pos.line)=true){J:b8}(h:a8 L A (eval y env) (EPost L env H s J) aG s){P:a9} (Q:∀v H1 cv s1,J v H1->VR L.sa s1.heap v cv->aj L env H H1 s s1->∃a kvs,cv=.ref a/\H1 a=some (.dict kvs)/\bI kvs/\P (.ref s1.heap.objs.size) { s1 with heap:=s1.heap.push { cls:=.type "dict_items",data:=.fields #[.ref a] } }) : a8 L A (eval (.Call (.Attribute y (Str.ofString "items") ap) [] [] pos) env) P aG s:=by
 letI:DecidableEq V:=bU
 refine wpAny_Call_method (T:="dict") (id:="dict.items") (gA Y _ _ _) rfl hp F.plainAttrs_dict F.slot_dict_items F.type_dict_items (z8 h (λcv s1 O=>?_) λ_ _ e=>e);refine bN O λv H1 Z r S=>?_;refine uA (Q v H1 cv s1 Z r S) λa kvs aX hd sk hp=>?_;subst aX;obtain⟨⟨G,hm⟩,B⟩:=Dw C S.st.rel hd sk;exact⟨hm.typeIs,hm.mapOf.noDict,method_meetsIn F.slot_dict_items F.entry_dict_items rfl (PySem.evalArgs_none (sw rfl hm.typeIs (F.args_dict_items_1 _) (af _ (meets_dict_items (bB L.prog L.w) a B) ⟨⟨G,hm⟩,hp⟩)))⟩
noncomputable def QJ:Prim->Bool
 | .sum | .max | .list | .listItems | .dict | .sorted | .sortedItems | .sortedSet=>true
 |_=>false
noncomputable def Pu:Prim->Bool
 | .listRange=>true
 |_=>false
def iB{H:AH}{Q:b8}{p:Prim}{v:V}(hp:QJ p=true)(h:iA H Q p v):∃a,v=.ref a:=by
 cases v with
 |ref a=>exact⟨a,rfl⟩
 |_=>cases p <;> first|exact ai hp|exact False.elim h
def Gc{H:AH}{Q:b8}{p:Prim}{v:V}(hp:Pu p=true)(h:iA H Q p v):∃i,v=.int i:=by
 cases v with
 |int a=>exact⟨a,rfl⟩
 |_=>cases p <;> first|exact ai hp|exact False.elim h
def AR{H:AH}{Q:b8}{v:V}(h:iA H Q .tuple v):(∃a,v=.tup a)\/∃a,v=.ref a:=by
 cases v with
 |tup a=>exact .inl ⟨a,rfl⟩
 |ref a=>exact .inr ⟨a,rfl⟩
 |_=>exact False.elim h
theorem FY(C:aJ L.toSx):aP L .len:=by intro env loc H s A d Q id x y pos ip F R hr G pa B h;obtain rfl:=w8 pa;exact mH C F R (bi (i:=0) rfl) G B h λJ r F R=>OJ F R J r
theorem Ga(C:aJ L.toSx):aP L .sum:=by intro env loc H s A d Q id x y pos ip F R hr J pa B h;obtain rfl:=w8 pa;refine mH C F R (bi (i:=1) rfl) J B h λG r F R=>?_;obtain⟨a,rfl⟩:=iB rfl G;refine ah G λns e q=>?_;rw[r.ref_inv];exact ON F R hr e q
theorem FZ(C:aJ L.toSx):aP L .max:=by intro env loc H s A d Q id x y pos ip F R hr J pa B h;obtain rfl:=w8 pa;refine mH C F R (bi (i:=2) rfl) J B h λG r F R=>?_;obtain⟨a,rfl⟩:=iB rfl G;refine cF G λi ns e q=>?_;rw[r.ref_inv];exact OK F R hr e q
theorem AN(C:aJ L.toSx):aP L .tuple:=by
 intro env loc H s A d Q id x y pos ip F R hr J pa G h;obtain rfl:=w8 pa;refine rO C F R (bi (i:=6) rfl) J G h λB r F R=>?_;rcases AR B with⟨a,rfl⟩|⟨a,rfl⟩
 .exact tY R r B
 .refine bR B λvs e hz q=>?_;rw[r.ref_inv];exact rX F R e hz q
theorem CU(C:aJ L.toSx):aP L .list:=by intro env loc H s A d Q id x y pos ip F R hr J pa B h;cases pa;refine rO C F R (bi (i:=7) rfl) J B h λG r F R=>?_;obtain⟨a,rfl⟩:=iB rfl G;obtain⟨vs,e,hz,q⟩:=G;rw[r.ref_inv];exact Gl F R e hz q
theorem rQ(C:aJ L.toSx):aP L .listRange:=by intro env loc H s A d Q id x y pos ip F R hr g0 pa J h;obtain⟨id',ip',Z,rfl,g1⟩:=gr pa;refine kS C F R (nm:="list") (b:="list") (bi (i:=7) rfl) g0 iK (kS C F R (nm:="range") (b:="range") (bi (i:=10) rfl) g1 J (bk h λv H1 c s1 Y r1 B=>?_));obtain⟨n,rfl⟩:=Gc rfl Y;obtain⟨h0,hz,q⟩:=Y;obtain⟨t,rfl⟩:=r1.int_inv;refine call_range_1 ?_;have O:=F.estep B;have G:=aj.pushed O B.st.rel { cls:=.type "range",data:=.fields #[.int 0 s1.toks,.int n t,.int 1 (s1.toks+1)] } (s1.toks+1+1);exact z8 (tV (O.estep G) G.st.rel hr (IsRange.new _ _ _ _ _ _ _) h0 hz q) (λ_ _ h=>r8 (B.trans G) h) λ_ _ e=>e
theorem rP(C:aJ L.toSx):aP L .listItems:=by intro env loc H s A d Q id x y pos ip F R hr g0 pa hst h;obtain⟨ap,Y,rfl,hb,hp⟩:=nF pa;refine kS C F R (nm:="list") (b:="list") (bi (i:=7) rfl) g0 iK (xj C hb hp h λv H1 c s1 O r1 B=>?_);obtain⟨a,rfl⟩:=iB rfl O;obtain⟨kvs,e,Z,hz,q⟩:=O;cases r1.ref_inv;refine⟨a,kvs,rfl,e,Z,?_⟩;have J:=F.estep B;have G:=aj.pushed J B.st.rel { cls:=.type "dict_items",data:=.fields #[.ref a] } s1.toks;exact z8 (tU (J.estep G) G.st.rel hr ⟨_,A9 _ rfl,rfl,rfl⟩ e Z hz q) (λ_ _ h=>r8 (B.trans G) h) λ_ _ e=>e
end
end
def qf:entryFor table "dict.update.loop"=some Builtin.«dict.update.loop»:=entryFor_of_tree (by kernel_rfl)
def kR:plainId "dict.update.loop"=true:=by decide +kernel
def nO:typeLookup (.type "list") "keys"=pure none:=am_miss_of_fast (by kernel_rfl)
section
variable{A:Around}
theorem CE{a:Addr}{xs:Array Value}{n:Nat}{Q:Option Value->Shared->Prop}(hx:s.heap.get? a=some (cy xs n))(J:A.handled=none) (h:∀h' tk,(∀b o,s.heap.get? b=some o->h'.get? b=some o)->Q none { s with heap:=h',toks:=tk }):wpAny (model prog w) A (getAttr? (.ref a) "keys") Q E s:=by
 obtain⟨hp,g,d,tk,os⟩:=s;obtain hT:∀G,(⟨hp,g,d,G,os⟩:Shared).TypeIs (.ref a) "list":=λ_=>(af _ hx rfl);have f1:=sub_AttributeError;obtain f3:=F.slot_list_getattribute.lookup;obtain f4:=F.slot_list_getattribute.bind (.ref a);have O:=am_list_getattr_none;unfold getAttr? getAttrBy? getAttrBy
 repeat (any_goals (first|assumption|exact hT _|((with_reducible show wpAny _ _ (call (Value.builtin "list.__getattribute__") _ _) _ _ _);refine call_meets F.slot_list_getattribute (hT _) am_entry_list_getattribute (F.args_list_getattribute_2 _ _) (meets_getattribute_miss_list a xs n #[] "keys" _ nO (by decide +kernel)) (cO hx J (λh' G e B=>?_)))|wp_step))
 refine ph B.there λt' Z Y=>?_;unfold getattributeRaised
 repeat (any_goals (first|assumption|wp_step))
 exact h _ _ B.keeps
def Bk{l S:Addr}{items:Array Value}{kv:List (V×Value)}{h₀:Heap}{R:Result->Shared->Prop}(hh:A.handled=none)(hl:h₀.IsList l items)(hS0:h₀.get? S=none)(Y:h₀.get? I=none)(F:I≠S) (hn:items.size=kv.length) (hit:∀(i:Nat)(p:V×Value),kv[i]?=some p->∃(t:Addr)(ck:Value),items[i]?=some (.ref t)/\h₀.IsTuple t #[ck,p.2]/\kq p.1 ck=true) (hnd:(kv.map (·.1)).Nodup) (hz:kv.length<=1000) : ∀(k i:Nat)(s:Shared),kv.length-i=k->i<=kv.length->s.heap.IsListIter I l i->@Heap.DictOf prog w V bU (bB prog w) s.heap S (kv.take i)->(∀b o,h₀.get? b=some o->s.heap.get? b=some o) -> (∀s',s'.gens=s.gens->s'.os=s.os->s'.drawn=s.drawn->@Heap.DictOf prog w V bU (bB prog w) s'.heap S kv->(∀b o,h₀.get? b=some o->s'.heap.get? b=some o)->R (.ok (.ret .none)) s') -> codeAny (model prog w) A (.builtin "dict.update.loop" ⟨[.ref S,.ref I,rawInt i,.none],[]⟩) R s:=by
 letI:DecidableEq V:=bU
 intro k;induction k with
 |zero =>
  intro i s hk hi O hS h0 hR;obtain hin:i=kv.length:=by exact Es hk hi
  subst hin;refine Si qf ?_;rw[P5 kR _];refine p0 (wpAny_pyNext_list_end hh O (hl.at λo x=>h0 _ o x) (Sm (by rw[hn];exact z7 _)) λh' he=>?_);refine p0 (u4 ?_);show wpAny _ A.in1 (ret Value.none) _ _ _;refine u4 (hR _ rfl rfl rfl ?_ λb o x=>he b o (λz=>by rw[z,Y]at x;exact ns x) (h0 b o x));rw[List.take_length]at hS;exact hS.extBut he F.symm
 |succ k ih =>
  intro i s hk hi O hS h0 hR;obtain J:i<kv.length:=by exact Et hk
  obtain⟨p,hp⟩:∃p,kv[i]?=some p:=⟨_,E4 J⟩;refine bN (hit i p hp) λt ck e1 e2 e3=>?_;refine Si qf ?_;rw[P5 kR _];refine p0 (wpAny_pyNext_list_item O (hl.at λo x=>h0 _ o x) e1 λh' Z sb=>?_);have Q:∀b o,h₀.get? b=some o->h'.get? b=some o:=λb o x=>(sb.2 b (λz=>by rw[z,Y]at x;exact ns x)).trans (h0 b o x);refine bR (show h'.IsTuple t #[ck,p.2]from e2.at λo x=>Q _ o x) λot ho hc aX=>?_;refine bM aX λnt hd=>?_;obtain hT:Shared.TypeIs { s with heap:=h' } (.ref t) "tuple":=(af _ ho hc);refine p0 (E6 ?_);refine p0 ?_;refine wpAny_tryCatch ?_;refine p0 (wpAny_typeOf hT ?_);refine wpAny_ite_true (by decide) ?_;refine p0 (M3 ho hd (u4 ?_));refine E6 ?_;have htk:kv.take (i+1)=stored (kv.take i) p.1 p.2:=by
   rw[List.take_add_one,hp,stored,if_neg]
   .rfl
   .rw[RX];rintro⟨q,hq,e⟩;obtain e:=z9 e;refine bM (C0.mp hq) λj hj=>?_;have G:j<i:=by obtain B:=(z5.mp hj).1;rw[List.length_take]at B;exact NP B
    rw[List.getElem?_take_of_lt G]at hj;obtain a1:(kv.map (·.1))[j]?=some q.1:=by rw[B6,hj];rfl
    obtain a2:(kv.map (·.1))[i]?=some p.1:=by rw[B6,hp];rfl
    obtain B:=(SK (by rw[u1];exact FU G J) hnd).mp (a1.trans ((B9 some e).trans a2.symm));exact AF B G
  refine wpAny_dictSet_pairs (knd:=bB prog w) (k:=p.1) e3 (hS.sameBut sb F.symm) (λh'' hd' ad=>?_) (by rw[List.length_take,I9];exact NQ hz);refine u4 ⟨plainId_quiet kR _,ih (i+1) _ (by exact AI hk) J (Z.extBut ad.extBut F) (by rw[htk];exact hd') (λb o x=>(ad.2 b (λz=>by rw[z,hS0]at x;exact ns x)).trans (Q b o x)) hR⟩
theorem na{l:Addr}{items:Array Value}{n:Nat}{kv:List (V×Value)}{Q:a9}(hh:A.handled=none)(hl:s.heap.get? l=some (cy items n)) (hn:items.size=kv.length) (hit:∀(i:Nat)(p:V×Value),kv[i]?=some p->∃(t:Addr)(ck:Value),items[i]?=some (.ref t)/\s.heap.IsTuple t #[ck,p.2]/\kq p.1 ck=true) (hnd:(kv.map (·.1)).Nodup) (hz:kv.length<=1000) (h:∀s',s'.gens=s.gens->s'.os=s.os->@Heap.DictOf prog w V bU (bB prog w) s'.heap s.heap.objs.size kv->(∀b o,s.heap.get? b=some o->s'.heap.get? b=some o)->Q (.ref s.heap.objs.size) s') : wpAny (model prog w) A (call (.type "dict") [.ref l]) Q E s:=by
 letI:DecidableEq V:=bU
 refine callType_codes (Q₁:=λobj ac=>obj=.ref s.heap.objs.size/\ac={ s with heap:=s.heap.push { cls:=.type "dict",data:=.dict #[] } }) F.kt_called_dict (F.kt_typeCall_dict_1 _) F.entry_dict_init (kt_code_dict_new _ ⟨rfl,rfl⟩) ?_;rintro obj ac ⟨rfl,rfl⟩;obtain B:@Heap.DictOf prog w V bU (bB prog w) (s.heap.push { cls:=.type "dict",data:=.dict #[] }) s.heap.objs.size []:=Heap.DictOf.new s.heap;obtain G:(s.heap.push { cls:=.type "dict",data:=.dict #[] }).get? l=some (cy items n):=y6 _ hl;have Y:s.heap.get? s.heap.objs.size=none:=B8 (z7 _);refine(cO B.typeIs (F.args_dict_init_2 _ _) ?_);refine p0 ?_;refine p0 (Sz B.typeIs ?_);refine u4 ?_;refine p0 (wpAny_typeOf (T:="list") (af _ G rfl) ?_);refine wpAny_ite_true (by decide) ?_;refine p0 (CE (A:=A.in1.in1) G hh λh2 tk k2=>?_);refine wpAny_ite_true rfl ?_;refine p0 (R4 ?_);refine p0 (wpAny_pyIter_list (items:=items) (aK _ (k2 _ _ G) rfl (gV n rfl)) ?_);obtain Z:=k2 _ _ (A9 s.heap (o:={ cls:=.type "dict",data:=.dict #[] }) rfl);obtain J:=G9 Z;obtain O:@Heap.DictOf prog w V bU (bB prog w) h2 s.heap.objs.size []:=B.keep k2;refine u4 ⟨Code.quiet_builtin _ (by decide +kernel),?_⟩;refine Bk (A:=A.in1) (h₀:=s.heap) hh (aK _ hl rfl (gV n rfl)) Y (B8 (D9 J)) (SN J) hn hit hnd hz kv.length 0 _ (Nat.sub_zero _) (E1 _) (aK _ (A9 _ rfl) rfl rfl) (O.push _) (λb o x=>y6 _ (k2 _ _ (y6 _ x))) λs' g1 g2 _ hd k=>⟨rfl,h s' g1 g2 hd k⟩
end
section
variable{H:AH}{A:Around}{d:Nat}{Q:b8}
theorem qq:∀{kvs:List (V×V)}{l:List Value},VRs L.sa h (aV kvs) l->bI kvs -> ∃B:List (V×Value),B.map (·.1)=kvs.map (·.1)/\VRs L.sa h (kvs.map (·.2)) (B.map (·.2))/\∀(i:Nat)(p:V×Value),B[i]?=some p->∃(t:Addr)(ck:Value),l[i]?=some (.ref t)/\h.IsTuple t #[ck,p.2]/\kq p.1 ck=true
 | [],_,_,_=>(aK ([]) rfl VRs.nil (λ_ _ e=>by simp at e))
 |(k,v)::r,_,x,hk=>by
  refine bN x.cons_inv λc cs e a b=>?_;subst e;refine bR (qq (kvs:=r) b λp hp=>hk p (w9 _ hp)) λB O Q Y=>?_;refine bN a.tup_inv λt cvs e i1 i2=>?_;subst e;refine bN i2.cons_inv λck r1 F Z j2=>?_;refine bN j2.cons_inv λcv r2 G j3 j4=>?_;obtain rfl:=j4.nil_inv;subst G;obtain J:cvs=#[ck,cv]:=Array.toList_inj.mp F;subst J;refine(aK ((k,cv)::B) (B9 _ O) (VRs.cons j3 Q) (λi p hp=>?_));rcases i with _|i
  .obtain rfl:=w8 hp;exact(bF t ck rfl i1 (cH (db (hk _ y4)) Z))
  .exact Y i p hp
theorem CX(F:ae L env loc H s.heap)(R:aD L H s.heap)(hr:A.handled=none){a:Addr}(h:H a=some (.list (aV kvs)))(sk:bI kvs)(nd:(kvs.map (·.1)).Nodup)(hz:kvs.length<=1000)(q:fresh H Q (.dict kvs)) : a8 L A (call (.type "dict") [.ref a]) (EPost L env H s Q) aG s:=by
 letI:DecidableEq V:=bU
 refine cF (au R h) λcvs n ho ra=>?_;refine bR (qq ra sk) λZ O h2 h3=>?_;have hl:Z.length=kvs.length:=by obtain G:=B9 List.length O;simpa using G
 refine na hr ho (by rw[hl,<- u1 (as:=kvs) (λp=>V.tup [p.1,p.2]),<- J2];exact ra.length) (λi p hp=>by rw[<- A7];exact h3 i p hp) (by rw[O];exact nd) (by rw[hl];exact hz) λs' g1 g2 hd k=>?_;refine Pb hd λo J ep Y hx B hk hp hnd=>?_;obtain hn:s.heap.get? s.heap.objs.size=none:=B8 (z7 _);have ob:o=bg J ep:=by obtain⟨c1,c2,c3,c4⟩:=o;obtain⟨x1,x2,x3⟩:=hx;simp only at x1 x2 x3 B;subst x1 x2 x3 B;rfl
 obtain⟨S,hH⟩:=r6 (own:=eE) (s':=s') R g1 g2 hn k Y (x:=.dict kvs)
  (bF _ _ ob (rY hp (λe he=>hk e (P6.mp he)) O (h2.keep (p7 k))) ⟨nd,1,by decide,sk⟩)
 exact(bF _ _ (q _ hH) (q7 _) (S.toE F.lH))
end
section
variable{t:Addr}
section
variable{A:Around}
theorem sv{items:Array Value}{x:Value}{Q:a9}(hit:s.heap.IsTupleIter it t i)(ht:s.heap.IsTuple t items)(hx:items[i]?=some x) (O:∀h',h'.IsTupleIter it t (i+1)->Heap.SameBut it s.heap h'->Q x { s with heap:=h' }):wpAny (model prog w) A (Builtin.SmallTypes.nextOf (.ref it)) Q E s:=by
 refine bR (id hit) λo B hc hd=>?_;refine bR ht λZ J _ aX=>?_;refine bM aX λY G=>?_;refine p0 (J7 (name:=Str.ofString "__next__") hit.typeIs F.slot_tuple_iterator_next
  (G1 F.slot_tuple_iterator_next hit.typeIs F.entry_tuple_iterator_next ?_ (F.args_tuple_iterator_next_1 _)))
 show wpAny _ _ (field (.ref it) 0 >>= _) _ _ s;refine p0 (R6 B hd (x:=.ref t) rfl ?_);rw[if_neg (show ¬((Value.ref t==Value.none)=true)from C7)];refine p0 (R6 B hd (x:=.int i 0) rfl ?_);refine p0 (M3 J G ?_);dsimp only;rw[N5,hx];refine p0 (R7 B hd (by simp) (u4 (af x rfl (u4 (O _ ?_ (G0 ..))))));exact(aK _ (E5 _ B (RW (K1 hd _))) ((Obj.cls_mapFields ..).trans hc) (by rw[K1 hd];simp[rawInt]))
theorem By{items:Array Value}{Q:a9}(hh:A.handled=none)(hit:s.heap.IsTupleIter it t i)(ht:s.heap.IsTuple t items)(hx:items[i]?=none) (O:∀h' e,Heap.ExtBut it s.heap h'->(∃o,h'.get? e=some o/\o.cls=.type "StopIteration")->E (.ref e) { s with heap:=h' }):wpAny (model prog w) A (Builtin.SmallTypes.nextOf (.ref it)) Q E s:=by
 refine bR (id hit) λo G hc hd=>?_;refine bR ht λZ J _ bV=>?_;refine bM bV λY B=>?_;refine p0 (J7 (name:=Str.ofString "__next__") hit.typeIs F.slot_tuple_iterator_next
  (G1 F.slot_tuple_iterator_next hit.typeIs F.entry_tuple_iterator_next ?_ (F.args_tuple_iterator_next_1 _)))
 show wpAny _ _ (field (.ref it) 0 >>= _) _ _ s;refine p0 (R6 G hd (x:=.ref t) rfl ?_);rw[if_neg (show ¬((Value.ref t==Value.none)=true)from C7)];refine p0 (R6 G hd (x:=.int i 0) rfl ?_);refine p0 (M3 J B ?_);dsimp only;rw[N5,hx];refine p0 (R4 (p0 (R7 G hd (by simp) ?_)));refine p0 ?_;refine p0 (M7 ?_ (by size_fits));refine p0 (m:=firstArgMember _ _) (wpAny_of_eq (a:=Value.none) (by first|rfl|(simp only[firstArgMember];rfl)) ?_);refine M7 ?_ (by size_fits);refine p0 (wpAny_handled ?_)
 first|rw[show A.in1.handled=none from hh]|rw[hh]
 refine p0 (u4 (wpAny_throw ?_));exact O _ _ (((G0 ..).extBut.push _).push _) (af _ (A9 _ rfl) rfl)
theorem IsTupleIter.ext{b:Addr}(x:h.IsTupleIter it t i)(hs:Heap.ExtBut b h h')(B:it≠b):h'.IsTupleIter it t i:=by refine ah x λo F r=>?_;exact(af o (hs it o B F) r)
def u8:=@IsTupleIter.ext
theorem IsTuple.ext{b:Addr}{xs:Array Value}(x:h.IsTuple t xs)(hs:Heap.ExtBut b h h')(B:t≠b):h'.IsTuple t xs:=by refine ah x λo F r=>?_;exact(af o (hs t o B F) r)
def u9:=@IsTuple.ext
theorem mz{a:α}{as:List α}{b:β}{f:α->β->Sem (ForInStep β)}{Q:β->Shared->Prop}(h:wpAny M A (f a b) (λr s'=>wpAny M A (match r with | .done b'=>pure b' | .yield b'=>forIn as b' f) Q E s') E s):wpAny M A (forIn (a::as) b f) Q E s:=by rw[Sh];exact p0 h
def Cn{b:β}{f:α->β->Sem (ForInStep β)}{Q:β->Shared->Prop}(h:Q b s):wpAny M A (forIn ([]:List α) b f) Q E s:=by rw[List.forIn_nil];exact u4 h
theorem DC{z TI TO i1 i2 l1 l2:Addr}{k1 k2:Nat}{xs ys:Array Value}{x y a b:Value}{Q:Option Value->Shared->Prop}(D:ZipApart z TI TO i1 i2 l1 l2) (hz:IsZip s.heap z TI TO .none) (hTI:IsPair s.heap TI (.ref i1) (.ref i2)) (hTO:IsPair s.heap TO a b) (h1:s.heap.IsTupleIter i1 l1 k1) (h2:s.heap.IsTupleIter i2 l2 k2) (hl1:s.heap.IsTuple l1 xs) (hl2:s.heap.IsTuple l2 ys) (hx:xs[k1]?=some x) (hy:ys[k2]?=some y) (hQ:∀h',IsZip h' z TI TO (rawInt s.heap.objs.size)->IsPair h' TO x y->h'.IsTupleIter i1 l1 (k1+1)->h'.IsTupleIter i2 l2 (k2+1)->IsPair h' s.heap.objs.size x y -> (∀c o,c≠z->c≠TO->c≠i1->c≠i2->s.heap.get? c=some o->h'.get? c=some o)->Q (some (.ref s.heap.objs.size)) { s with heap:=h' }):wpAny (model prog w) A (pyNext (.ref z)) Q E s:=by
 obtain hT:s.TypeIs (.ref z) "zip":=(af _ hz rfl);refine p0 (wpAny_attempt (J7 (name:=Str.ofString "__next__") hT F.slot_zip_next (G1 F.slot_zip_next hT F.entry_zip_next ?_ (F.args_zip_next_1 _))));show wpAny _ _ (field (.ref z) 2 >>= _) _ _ _;refine p0 (R6 hz rfl (x:=.bool false) rfl ?_);refine p0 (R6 hz rfl (x:=.ref TI) rfl ?_);refine p0 (M3 hTI rfl ?_);refine p0 ?_;refine p0 (R6 hz rfl (x:=.none) rfl (u4 ?_));rw[if_pos rfl];refine p0 (R4 ?_);refine p0 (R6 hz rfl (x:=.ref TO) rfl ?_);refine p0 (Sy hz (by simp) λh₁ av G=>?_);replace av:IsZip h₁ z TI TO .ellipsis:=av;refine p0 ?_;refine mz (p0 (wpAny_onRaise ?_));refine p0 (sv (u8 h1 G.extBut D.i1z) (u9 hl1 G.extBut D.l1z) hx λg3 dr J=>u4 ?_);obtain a1:IsPair g3 TO a b:=J.extBut _ _ D.TOi1 (G.extBut _ _ D.TOz hTO);refine p0 (M3 a1 rfl ?_);refine p0 (wpAny_updateSeq_pair a1 λg5 ar O=>?_);replace ar:IsPair g5 TO x b:=ar;refine p0 (wpAny_letGo (u4 ?_));refine mz (p0 (wpAny_onRaise ?_));refine p0 (sv (u8 (u8 (u8 h2 G.extBut D.i2z) J.extBut D.i12.symm) O.extBut D.TOi2.symm)
  (u9 (u9 (u9 hl2 G.extBut D.l2z) J.extBut D.l2i1) O.extBut D.l2TO) hy λdf hE Z=>u4 ?_)
 obtain a2:IsPair df TO x b:=Z.extBut _ _ D.TOi2 ar;refine p0 (M3 a2 rfl ?_);refine p0 (wpAny_updateSeq_pair a2 λB Y ad=>?_);replace Y:IsPair B TO x y:=Y;refine p0 (wpAny_letGo (u4 ?_));refine Cn ?_;refine p0 (M3 Y rfl ?_);refine p0 (wpAny_newTuple ?_);obtain hsz:B.objs.size=s.heap.objs.size:=by rw[ad.1,Z.1,O.1,J.1,G.1]
 obtain a7:IsZip B z TI TO .ellipsis:=ad.extBut _ _ D.TOz.symm (Z.extBut _ _ D.i2z.symm (O.extBut _ _ D.TOz.symm (J.extBut _ _ D.i1z.symm av)));obtain kt:∀c o,c≠z->c≠TO->c≠i1->c≠i2->s.heap.get? c=some o->B.get? c=some o:=λc o c1 c2 c3 c4 e =>
  ad.extBut _ _ c2 (Z.extBut _ _ c4 (O.extBut _ _ c2 (J.extBut _ _ c3 (G.extBut _ _ c1 e))))
 obtain ll:B.IsTupleIter i1 l1 (k1+1):=u8 (u8 (u8 dr O.extBut D.TOi1.symm) Z.extBut D.i12) ad.extBut D.TOi1.symm;obtain lr:B.IsTupleIter i2 l2 (k2+1):=u8 hE ad.extBut D.TOi2.symm;obtain bc:z<B.objs.size:=G9 a7;refine p0 ?_;have mi:IsZip (B.push { cls:=.type "tuple",data:=.seq #[x,y] }) z TI TO .ellipsis:=y6 _ a7;refine p0 (Sy mi (by simp) λmj a0 a5=>?_);replace a0:IsZip mj z TI TO (rawInt B.objs.size):=a0;refine Sy a0 (by simp) λa3 as a6=>?_;replace as:IsZip a3 z TI TO (rawInt B.objs.size):=as;have up:∀c o,c≠z->B.get? c=some o->a3.get? c=some o:=λc o c1 e=>a6.extBut _ _ c1 (a5.extBut _ _ c1 (y6 _ e));obtain a4:IsPair a3 B.objs.size x y:=a6.extBut _ _ (SN bc) (a5.extBut _ _ (SN bc) (A9 _ rfl));obtain hsz':s.heap.objs.size=B.objs.size:=hsz.symm;refine u4 (af (.ref B.objs.size) rfl (u4 ?_));rw[hsz]at as a4 ⊢;exact hQ a3 as (up _ _ D.TOz Y) (by refine ah ll λo ho r=>?_;exact(af o (up _ o D.i1z ho) r)) (by refine ah lr λo ho r=>?_;exact(af o (up _ o D.i2z ho) r)) a4 λc o c1 c2 c3 c4 e=>up c o c1 (kt c o c1 c2 c3 c4 e)
def DB{z TI TO i1 i2 l1 l2:Addr}{k1 k2:Nat}{xs ys:Array Value}{a b:Value}{Q:Option Value->Shared->Prop}(hh:A.handled=none)(D:ZipApart z TI TO i1 i2 l1 l2) (hz:IsZip s.heap z TI TO .none) (hTI:IsPair s.heap TI (.ref i1) (.ref i2)) (hTO:IsPair s.heap TO a b) (h1:s.heap.IsTupleIter i1 l1 k1) (h2:s.heap.IsTupleIter i2 l2 k2) (hl1:s.heap.IsTuple l1 xs) (hl2:s.heap.IsTuple l2 ys) (hend:xs[k1]?=none\/ys[k2]?=none) (hQ:∀h',h'.get? TO≠none->(∀c o,c≠z->c≠TO->c≠i1->c≠i2->s.heap.get? c=some o->h'.get? c=some o)->Q none { s with heap:=h' }):wpAny (model prog w) A (pyNext (.ref z)) Q E s:=by
 have hT:s.TypeIs (.ref z) "zip":=(af _ hz rfl);refine p0 (wpAny_attempt (J7 (name:=Str.ofString "__next__") hT F.slot_zip_next (G1 F.slot_zip_next hT F.entry_zip_next ?_ (F.args_zip_next_1 _))));have fin:∀h' e,h'.get? TO≠none->(∀c o,c≠z->c≠TO->c≠i1->c≠i2->s.heap.get? c=some o->h'.get? c=some o)->(∃o,h'.get? e=some o/\o.cls=.type "StopIteration") ->
   wpAny (model prog w) A (do if <- isInstance (.ref e) (.type "StopIteration")then pure none else throw (.ref e):Sem (Option Value)) Q E { s with heap:=h' }:=λh' e ht hk ⟨o,ho,hc⟩=>by
  refine p0 (wpAny_isInstance (T:="StopIteration") (b:=true) (af o ho hc) isSubtype_stop ?_);exact u4 (hQ _ ht hk)
 show wpAny _ _ (field (.ref z) 2 >>= _) _ _ _;refine p0 (R6 hz rfl (x:=.bool false) rfl ?_);refine p0 (R6 hz rfl (x:=.ref TI) rfl ?_);refine p0 (M3 hTI rfl ?_);refine p0 ?_;refine p0 (R6 hz rfl (x:=.none) rfl (u4 ?_));rw[if_pos rfl];refine p0 (R4 ?_);refine p0 (R6 hz rfl (x:=.ref TO) rfl ?_);refine p0 (Sy hz (by simp) λh₁ O B=>?_);replace O:IsZip h₁ z TI TO .ellipsis:=O;refine p0 ?_;refine mz (p0 (wpAny_onRaise ?_));rcases hx:xs[k1]? with _|x
 .refine p0 (By hh (u8 h1 B.extBut D.i1z) (u9 hl1 B.extBut D.l1z) hx λa1 e G he=>?_);refine ah he λoe Y as=>?_;have av:IsZip a1 z TI TO .ellipsis:=G _ _ D.i1z.symm O;have a4:e≠z:=λx=>by subst x;rw[av]at Y;obtain rfl:=w8 Y;simp at as
  refine Sy av (by simp) λa3 _ J=>fin a3 e ?_ (λc o c1 _ c3 _ x=>J.extBut _ _ c1 (G _ _ c3 (B.extBut _ _ c1 x))) ⟨oe,J.extBut _ _ a4 Y,as⟩;rw[J.extBut _ _ D.TOz (G _ _ D.TOi1 (B.extBut _ _ D.TOz hTO))];simp
 .obtain hy:ys[k2]?=none:=by rcases hend with h|h;rw[hx]at h;exact sn h;exact h
  refine p0 (sv (u8 h1 B.extBut D.i1z) (u9 hl1 B.extBut D.l1z) hx λa1 dr G=>u4 ?_);obtain ar:IsPair a1 TO a b:=G.extBut _ _ D.TOi1 (B.extBut _ _ D.TOz hTO);refine p0 (M3 ar rfl ?_);refine p0 (wpAny_updateSeq_pair ar λa3 a2 J=>?_);refine p0 (wpAny_letGo (u4 ?_));refine mz (p0 (wpAny_onRaise ?_));refine p0 (By hh (u8 (u8 (u8 h2 B.extBut D.i2z) G.extBut D.i12.symm) J.extBut D.TOi2.symm)
   (u9 (u9 (u9 hl2 B.extBut D.l2z) G.extBut D.l2i1) J.extBut D.l2TO) hy λdf e Z he=>?_)
  refine ah he λoe Y as=>?_;have a0:IsZip df z TI TO .ellipsis:=Z _ _ D.i2z.symm (J.extBut _ _ D.TOz.symm (G.extBut _ _ D.i1z.symm O));have a4:e≠z:=λx=>by subst x;rw[a0]at Y;obtain rfl:=w8 Y;simp at as
  refine Sy a0 (by simp) λmn _ ad=>fin mn e ?_ (λc o c1 c2 c3 c4 x=>ad.extBut _ _ c1 (Z _ _ c4 (J.extBut _ _ c2 (G.extBut _ _ c3 (B.extBut _ _ c1 x))))) ⟨oe,ad.extBut _ _ a4 Y,as⟩;rw[ad.extBut _ _ D.TOz (Z _ _ D.TOi2 a2)];simp
end
end
section
variable{xs:Array Value}
noncomputable abbrev aX(h:Heap)(l1:Addr):Heap:=h.push { cls:=.type "tuple_iterator",data:=.fields #[.ref l1,.int 0 0] }
noncomputable abbrev bV(h:Heap)(l1 l2:Addr):Heap:=(aX h l1).push { cls:=.type "tuple_iterator",data:=.fields #[.ref l2,.int 0 0] }
noncomputable abbrev da(h:Heap)(l1 l2:Addr):Heap:=(bV h l1 l2).push { cls:=.type "tuple",data:=.seq #[.ref h.objs.size,.ref (aX h l1).objs.size] }
noncomputable abbrev dC(h:Heap)(l1 l2:Addr):Heap:=(da h l1 l2).push { cls:=.type "tuple",data:=.seq #[.none,.none] }
noncomputable abbrev eN(h:Heap)(l1 l2:Addr):Heap:=(dC h l1 l2).push { cls:=.type "zip",data:=.fields #[.none,.bool false,.bool false,.ref (bV h l1 l2).objs.size,.ref (da h l1 l2).objs.size] }
theorem Ai(l1 l2:Addr)(xs ys:Array Value) : Meets (Builtin.«zip.__new__» ⟨[.type "zip",.ref l1,.ref l2],[]⟩) (λ_ R s=>s.heap.IsTuple l1 xs/\s.heap.IsTuple l2 ys /\
   R (.ok (.ret (.ref (dC s.heap l1 l2).objs.size))) { s with heap:=eN s.heap l1 l2 }) :=
 .of_wp λprog w A R s h=>by
  obtain⟨hp,g,d,tk,os⟩:=s;refine jb h λG J h=>?_;have O:=sub_zip;have B:Heap.IsTuple (Shared.heap ⟨hp,g,d,tk,os⟩) l1 xs:=G;obtain F:Heap.IsTuple (Shared.heap ⟨hp.push { cls:=.type "tuple_iterator",data:=.fields #[.ref l1,.int 0 0] },g,d,tk,os⟩) l2 ys:=by refine ah J λo Q r=>?_;exact(af o (y6 _ Q) r)
  wp_walk using wpAny_pyIter_tuple B,wpAny_pyIter_tuple F
  exact(af _ rfl h)
section
variable{A:Around}
theorem BX{l1 l2:Addr}{ys:Array Value}{Q:a9}(G:s.heap.IsTuple l1 xs)(J:s.heap.IsTuple l2 ys) (h:∀h',IsZip h' (s.heap.objs.size+4) (s.heap.objs.size+2) (s.heap.objs.size+3) .none->IsPair h' (s.heap.objs.size+2) (.ref s.heap.objs.size) (.ref (s.heap.objs.size+1)) ->
   IsPair h' (s.heap.objs.size+3) .none .none->h'.IsTupleIter s.heap.objs.size l1 0->h'.IsTupleIter (s.heap.objs.size+1) l2 0 ->
   (∀c o,s.heap.get? c=some o->h'.get? c=some o)->Q (.ref (s.heap.objs.size+4)) { s with heap:=h' }) :
  wpAny (model prog w) A (call (.type "zip") [.ref l1,.ref l2]) Q E s:=by
 refine callType_new F.called_zip (by decide) (F.typeCall_zip_2 _ _) (F.newCall_zip_2 _ _) (λobj=>F.args_object_init_3 obj _ _) F.entry_zip_new (Ai l1 l2 xs ys) (cO G J ?_);obtain z1:(aX s.heap l1).objs.size=s.heap.objs.size+1:=Heap.size_push ..;have z2:(bV s.heap l1 l2).objs.size=s.heap.objs.size+2:=by rw[Heap.size_push,z1]
 obtain O:(da s.heap l1 l2).objs.size=s.heap.objs.size+3:=by rw[Heap.size_push,z2]
 obtain z4:(dC s.heap l1 l2).objs.size=s.heap.objs.size+4:=by rw[Heap.size_push,O]
 obtain B:(eN s.heap l1 l2).get? (dC s.heap l1 l2).objs.size=some _:=A9 _ rfl;obtain g4:(eN s.heap l1 l2).get? (da s.heap l1 l2).objs.size=some _:=y6 _ (A9 _ rfl);obtain Z:(eN s.heap l1 l2).get? (bV s.heap l1 l2).objs.size=some _:=y6 _ (y6 _ (A9 _ rfl));obtain Y:(eN s.heap l1 l2).get? (aX s.heap l1).objs.size=some _:=y6 _ (y6 _ (y6 _ (A9 _ rfl)));obtain g1:(eN s.heap l1 l2).get? s.heap.objs.size=some _:=y6 _ (y6 _ (y6 _ (y6 _ (A9 _ rfl))));rw[z2,O,z4]at B;rw[z1,z2]at Z;rw[O]at g4;rw[z1]at Y;rw[z4];exact⟨(af _ B rfl),h _ B Z g4 (aK _ g1 rfl rfl) (aK _ Y rfl rfl) λc o x =>
  y6 _ (y6 _ (y6 _ (y6 _ (y6 _ x))))⟩
end
section
variable{H:AH}{A:Around}{d:Nat}
def yu{ws:List V}{v:V}(h:(gR vs ws)[i]?=some v):∃a b,vs[i]?=some a/\ws[i]?=some b/\v=.tup [a,b]:=by unfold gR at h;rw[B6]at h;refine ah (D7.mp h) λp hp aX=>?_;subst aX;rw[List.getElem?_zip_eq_some]at hp;exact(bF p.1 p.2 hp.1 hp.2 rfl)
def Pk(z TO i1 i2:Addr):Addr->Prop:=λb=>b=z\/b=TO\/b=i1\/b=i2
structure ZSt(sa:SX)(z TI TO i1 i2 l1 l2:Addr)(xs ys:Array Value)(vs ws:List V)(i:Nat)(h:Heap):Prop where
 z:IsZip h z TI TO .none
 p:IsPair h TI (.ref i1) (.ref i2)
 o:∃a b,IsPair h TO a b
 f:h.IsTupleIter i1 l1 i
 g:h.IsTupleIter i2 l2 i
 t:h.IsTuple l1 xs
 u:h.IsTuple l2 ys
 x:VRs sa h vs xs.toList
 y:VRs sa h ws ys.toList
def ky{sa:SX}{l:Addr}(tk:TupKeep sa h h')(m:¬sa.X l)(t:h.IsTuple l xs):h'.IsTuple l xs :=t.elim λo e=>(af o (tk _ _ m e.1 e.2.1 (gV _ e.2.2)) e.2)
theorem nt:¬Value.type "zip"=Value.type "tuple":=by decide
def ZSt.wt{sa:SX}{z TI TO i1 i2 l1 l2:Addr}{ys:Array Value}{ws:List V}(q:ZSt sa z TI TO i1 i2 l1 l2 xs ys vs ws i h)(hX:sa.X TO){c:Addr}(B:Pk z TO i1 i2 c)(e:h.get? c=some o)(ht:o.cls=.type "tuple"):sa.X c:=by
 rcases B with rfl|rfl|rfl|rfl
 .obtain rfl:=w8 (q.z.symm.trans e);exact absurd ht nt
 .exact hX
 .exact q.f.elim λo' a=>by obtain rfl:=w8 (a.1.symm.trans e);rw[a.2.1]at ht;exact absurd ht (by decide)
 .exact q.g.elim λo' a=>by obtain rfl:=w8 (a.1.symm.trans e);rw[a.2.1]at ht;exact absurd ht (by decide)
theorem Aa{F:List Expr}{kk:Nat}(hh:A.handled=none){z TI TO i1 i2 l1 l2:Addr}(D:ZipApart z TI TO i1 i2 l1 l2)(hX:L.X TO)(nz:¬L.X z)(Q:¬L.X TI)(n1:¬L.X i1)(n2:¬L.X i2)(m1:¬L.X l1)(m2:¬L.X l2){ys:Array Value}{ws:List V} : Iter L A z (Pk z TO i1 i2) (.Tuple F kk pos) none (gR vs ws) (ZSt L.sa z TI TO i1 i2 l1 l2 xs ys vs ws) where
 frame:=λi h h' q k tk=>⟨k _ _ (.inl rfl) q.z,tk _ _ Q q.p rfl (uD _ _ rfl),q.o.elim λa e=>e.elim λb e=>(uD a b (k _ _ (.inr (.inl rfl)) e)),q.f.elim λo e=>(af o (k _ _ (.inr (.inr (.inl rfl))) e.1) e.2),q.g.elim λo e=>(af o (k _ _ (.inr (.inr (.inr rfl))) e.1) e.2),ky tk m1 q.t,ky tk m2 q.u,q.x.keep tk,q.y.keep tk⟩
 wt:=λi h q b o Z e ht=>q.wt hX Z e ht
 lw:=λi h q c hc=>by
  rcases hc with rfl|rfl|rfl|rfl
  .rw[q.z];exact sn
  .exact q.o.elim λa e=>e.elim λb e=>by rw[e];exact sn
  .exact q.f.elim λo e=>by rw[e.1];exact sn
  .exact q.g.elim λo e=>by rw[e.1];exact sn
 item:=λi v H s hv R hs q=>by refine bN (yu hv) λp r e1 e2 bV=>?_;subst bV;refine ah (q.x.get e1) λx x1 x2=>?_;refine ah (q.y.get e2) λy y1 y2=>?_;refine ph q.o λa b Y=>?_;refine DC D q.z q.p Y q.f q.g q.t q.u (x:=x) (y:=y) (Array.getElem?_toList.symm.trans x1) (Array.getElem?_toList.symm.trans y1) λh' b1 b2 b3 b4 b5 k=>(af _ rfl ?_);refine wpAny_letOwnedTupleGo_zip b1 λB c1 sb=>?_;have k2:∀c o,¬Pk z TO i1 i2 c->s.heap.get? c=some o->B.get? c=some o:=λc o hc e=>sb.extBut _ _ (λq=>hc (.inl q)) (k c o (λq=>hc (.inl q)) (λq=>hc (.inr (.inl q))) (λq=>hc (.inr (.inr (.inl q)))) (λq=>hc (.inr (.inr (.inr q)))) e);obtain tk:TupKeep L.sa s.heap B:=λc o nx e hc _=>k2 c o (λZ=>nx (q.wt hX Z e hc)) e;exact(cO (q8 (R.nx (B8 (z7 _))) (aK _ (sb.extBut _ _ (SN (G9 q.z)) b5) rfl (gV 0 rfl)) (.cons (x2.keep tk) (.one (y2.keep tk)))) (⟨c1,tk _ _ Q q.p rfl (uD _ _ rfl),(uD _ _ (sb.extBut _ _ D.TOz b2)),u8 b3 sb.extBut D.i1z,u8 b4 sb.extBut D.i2z,ky tk m1 q.t,ky tk m2 q.u,q.x.keep tk,q.y.keep tk⟩) (ey B s.toks rfl k2))
 done:=λH s R hs q=>by
  obtain ad:xs.size=vs.length:=q.x.length;have ar:ys.size=ws.length:=q.y.length;have O:(gR vs ws).length=min vs.length ws.length:=by simp[gR]
  have J:xs[(gR vs ws).length]?=none\/ys[(gR vs ws).length]?=none:=by
   rw[O];rcases D3 vs.length ws.length with h|h
   .exact .inl (Sm (by rw[ad,Q7 h];exact z7 _))
   .exact .inr (Sm (by rw[ar,P9 h];exact z7 _))
  refine ph q.o λa b Y=>?_;refine DB hh D q.z q.p Y q.f q.g q.t q.u J λh' ht k=>(cO rfl (ey h' s.toks rfl (λc o hc e=>k c o (λq=>hc (.inl q)) (λq=>hc (.inr (.inl q))) (λq=>hc (.inr (.inr (.inl q)))) (λq=>hc (.inr (.inr (.inr q)))) e)) (λc hc=>?_));by_cases G:c=TO
  .rw[G];exact ht
  .rcases e:s.heap.get? c with _|o
   .exact absurd e (R.ex c hc)
   .rw[k c o (λq=>nz (q▸hc)) G (λq=>n1 (q▸hc)) (λq=>n2 (q▸hc)) e];exact sn
 self:=λi s st=>wpAny_pyIter_zip st.1 ⟨rfl,rfl⟩
end
end
section
variable{K:pN->List V->AH->Prop}
section
variable{H:AH}{A:Around}{d:Nat}
theorem ForPost.after{H₀:AH}{c:Value}(S:aj L env H₀ H s₀ s)(h:ForPost L env loc A tgt H s K c s'):ForPost L env loc A tgt H₀ s₀ K c s':=by obtain⟨X',B,Q,Y,I,W,vs,src,St,H',a,b,Z,G,hW,hn,hs,O,J,F⟩:=h;obtain nn:∀x,s.heap.get? x=none->s₀.heap.get? x=none:=λx hx=>Decidable.byContradiction λz=>S.st.live x z hx;exact⟨X',B,Q,λx hx=>(Y x hx).imp id (nn x),I,W,vs,src,St,H',a,b,Z,G,hW,λx hx=>nn x (hn x hx),hs,S.trans O,J,F⟩
theorem aD.wide{B:∀b,X' b->L.base.get? b=none}(R:aD L H h)(hX:∀b,X' b->L.X b\/h.get? b=none)(k:∀b o,h.get? b=some o->h'.get? b=some o)(ex:∀b,X' b->h'.get? b≠none):aD ⟨L.toSx,X',B⟩ H h' :=⟨λb o e=>k b o (R.base b o e),R.fresh,λa o e=>by refine ah (R.obj a o e) λob F G=>?_;exact(af ob (k _ _ F) ((ORel.wide hX G).keep (p7 k))),ex⟩
theorem RV(n l1 l2:Nat)(B:l1<n)(F:l2<n):ZipApart (n+4) (n+2) (n+3) n (n+1) l1 l2:=by constructor <;> exact(show(_:Nat)≠_ from by(first|exact QC|exact QD|exact QE|exact QF|exact Oz|exact HT|exact HU|exact HV|exact HW|exact HX|exact DV B|exact DW B|exact Av B|exact DX B|exact DV F|exact DW F|exact Av F|exact DX F))
theorem Rb{n:Nat}(h:b<n):b≠n+k:=by exact HY h
theorem DA(hh:A.handled=none)(F:ae L env loc H s.heap)(R:aD L H s.heap){Z:List Expr}{kk:Nat}{ws:List V}{cw:Value}(rv:VR L.sa s.heap (.tup vs) cv)(a7:VR L.sa s.heap (.tup ws) cw)(q:K none (gR vs ws) H) : a8 L A (call (.type "zip") [cv,cw]) (λxv ac=>a8 L A (pyIter xv) (ForPost L env loc A (.Tuple Z kk pos) H s K) aG ac) aG s:=by
 refine uC rv λl1 xs n1 bV a5 da r1=>?_;subst bV;refine bR da λo1 ho1 ar as=>?_;refine uC a7 λl2 ys n2 dC a6 eN r2=>?_;subst dC;refine bR eN λo2 Y hc2 av=>?_;obtain t1:s.heap.IsTuple l1 xs:=(aK o1 ho1 ar (gV n1 as));obtain t2:s.heap.IsTuple l2 ys:=(aK o2 Y hc2 (gV n2 av));refine BX t1 t2 λh' hz a2 ad a3 a4 k=>?_;refine wpAny_pyIter_zip hz ?_;have fr:∀b,s.heap.objs.size<=b->s.heap.get? b=none:=λb B=>B8 B;obtain nX:∀b,s.heap.objs.size<=b->¬L.X b:=λb B=>R.nx (fr b B);obtain a0:=G9 ho1;obtain a1:=G9 Y
 let X':Addr->Prop:=λb=>L.X b\/b=s.heap.objs.size+3
 have O:∀b,X' b->L.base.get? b=none:=λb B=>B.elim (L.hX b) λe=>by rw[e];exact(R.free (fr _ (by exact Aw))).2
 have J:∀b,X' b->L.X b\/s.heap.get? b=none:=λb B=>B.imp id λe=>by rw[e];exact fr _ Aw
 obtain ex:∀b,X' b->h'.get? b≠none:=λb B=>B.elim (λB=>Ph (R.ex b B) λo e=>k b o e) λe=>e▸FO ad;obtain S:ay L eE H H s { s with heap:=h' }:=q9 R rfl rfl k;obtain R':aD ⟨L.toSx,X',O⟩ H h':=R.wide J k ex;obtain F':ae ⟨L.toSx,X',O⟩ env loc H h':=(F.wide J).stepNo (s':={ s with heap:=h' }) (S.wide (λ_ h=>.inl h) R');obtain D:ZipApart (s.heap.objs.size+4) (s.heap.objs.size+2) (s.heap.objs.size+3) s.heap.objs.size (s.heap.objs.size+1) l1 l2:=RV _ _ _ a0 a1;obtain Q:∀b,s.heap.objs.size<=b->b≠s.heap.objs.size+3->¬X' b:=λb B hn z=>z.elim (nX b B) hn;have G:∀b,Pk (s.heap.objs.size+4) (s.heap.objs.size+3) s.heap.objs.size (s.heap.objs.size+1) b->s.heap.get? b=none:=λb B=>fr b (by rcases B with rfl|rfl|rfl|rfl <;>(first|exact DY|exact Aw|exact Ax|exact Ay));obtain tk:TupKeep L.sa s.heap h':=p7 k;refine⟨X',O,λ_ h=>.inl h,J,_,_,gR vs ws,none,_,H,q,rfl,?_,Aa (L:=⟨L.toSx,X',O⟩) hh D (.inr rfl) (Q _ DY HZ) (Q _ Id Oz) (Q _ Ax Ih) (Q _ Ay Ij) (λz=>z.elim a5 λe=>Rb a0 e) (λz=>z.elim a6 λe=>Rb a1 e) (xs:=xs) (ys:=ys) (vs:=vs) (ws:=ws),⟨λb B=>(R.free (G b B)).1,λb B=>(R.free (G b B)).2,λB=>?_,λn c e B=>?_⟩,G,trivial,S.toE F.lH,R',F'⟩
 .exact⟨hz,a2,(uD _ _ ad),a3,a4,(aK o1 (k _ _ ho1) ar (gV n1 as)),(aK o2 (k _ _ Y) hc2 (gV n2 av)),(VRs.wide (sa:=L.sa) J r1).keep (p7 k),(VRs.wide (sa:=L.sa) J r2).keep (p7 k)⟩
 .refine ah F.ns λm bc _=>?_;refine mx bc λo _ _ e _=>?_;exact nn (G _ B) e
 .refine jb (F.cell n c e) λ_ _ bh=>?_;refine cF bh λ_ o e' _=>?_;exact nn (G _ B) e'
def Co(C:aJ L.toSx)(PO:∀p,aP L p){a b:ME}{x:Expr}(hc:wr env.scope.names (.zip a b) x=true)(ht:jW (.zip a b) tgt=true)(F:ae L env loc H s.heap)(R:aD L H s.heap)(hr:Room A d)(h:lh L.toSx d (.zip a b) loc H K) : a8 L A (eval x env) (λxv ac=>a8 L A (pyIter xv) (ForPost L env loc A tgt H s K) aG ac) aG s:=by refine cM hc λg as ks p hk=>bm hk λid ip hk=>gB hk λy z hk=>bT ht λar kk pos _=>?_;obtain k1:=aa hk;have k2:=aa k1.2;have J:=aa k2.2;obtain g0:=aa k2.1;obtain g1:=aa g0.1;obtain rfl:=J1 g1.1;rw[I6.mp k1.1];refine pe C.ns λmg mb G B _ _ Y=>?_;refine cq (Y ("zip",.type "zip") (bi (i:=12) rfl)) λhm hv=>?_;refine Call_ (iW F R G B g1.2 g0.2 hm hv (PyProof.Rows.callWith_type1 (e:=y) (rest:=[z]) ?_ (cK J.1 [z] env) (by rw[Bg (λrest=>cK J.2 rest env)];rfl)));rw[eA J.1,eA J.2];refine Sp (bk (sE C PO a J.1 F R hr h) λv H1 c s1 h1 r1 O=>Sp (bk (sE C PO b J.2 (F.estep O) O.st.rel hr h1) λu H2 c2 s2 h2 r2 Q=>Calls.spliced_nil ?_));refine pe h2 λvs ws Z ad _ _ q=>?_;subst Z;subst ad;exact z8 (DA hr.1 ((F.estep O).estep Q) Q.st.rel (r1.keep Q.st.tup) r2 q) (λxv s3 h3=>z8 h3 (λ_ _ h=>ForPost.after (O.trans Q) h) λ_ _ e=>e) λ_ _ e=>e
def ql(C:aJ L.toSx)(PO:∀p,aP L p){it:MIt}{x:Expr}(hc:lv env.scope.names it x=true)(ht:cD tgt=true)(F:ae L env loc H s.heap)(R:aD L H s.heap)(hr:Room A d)(h:lh L.toSx d it loc H K) : a8 L A (eval x env) (λJ ac=>a8 L A (pyIter J) (ForPost L env loc A tgt H s K) aG ac) aG s :=z8 (RH C PO it hc ht F R hr h) (λ_ _ B=>z8 B (λ_ _ G=>ForPost.of F G) λ_ _ e=>e) λ_ _ e=>e
end
end
section
variable{H:AH}{A:Around}{d:Nat}
def qg{v:V}(h:(gP vs)[i]?=some v):∃a,vs[i]?=some a/\v=.tup [.int (i:Int),a]:=by unfold gP at h;rw[B6]at h;refine ah (D7.mp h) λp hp aX=>?_;subst aX;rw[List.getElem?_zipIdx]at hp;refine ah (D7.mp hp) λa ha e=>?_;subst e;exact(af a ha (by rw[Q4]))
def qh(vs:List V):(gP vs).length=vs.length:=by unfold gP;rw[u1,List.length_zipIdx]
structure ESt(e it l:Addr)(i:Nat)(h:Heap):Prop where
 e:∃old,IsEnum h e it ((i:Nat):Int) old
 f:h.IsListIter it l i
def ESt.wt{e l:Addr}(q:ESt e it l i h){c:Addr}(B:c=e\/c=it)(x:h.get? c=some o)(ht:o.cls=.type "tuple"):False:=by
 rcases B with rfl|rfl
 .exact q.e.elim λa b=>by obtain rfl:=w8 (b.symm.trans x);exact absurd ht (show ¬Value.type "enumerate"=Value.type "tuple" from by decide)
 .exact q.f.elim λo' a=>by obtain rfl:=w8 (a.1.symm.trans x);rw[a.2.1]at ht;exact absurd ht (by decide)
theorem ye{F:List Expr}{kk:Nat}(hh:A.handled=none){e l:Addr}(G:e≠it)(n1:¬L.X e)(n2:¬L.X it) : Iter L A e (λb=>b=e\/b=it) (.Tuple F kk pos) (some (l,vs)) (gP vs) (ESt e it l) where
 frame:=λi h h' q k tk=>⟨q.e.elim λo x=>⟨o,k _ _ (.inl rfl) x⟩,q.f.elim λo x=>(af o (k _ _ (.inr rfl) x.1) x.2)⟩
 wt:=λi h q b o O x ht=>(q.wt O x ht).elim
 lw:=λi h q c hc=>by
  rcases hc with rfl|rfl
  .exact q.e.elim λo x=>FO x
  .exact q.f.elim λo x=>FO x.1
 item:=λi v H s hv R hs q=>by refine ah (qg hv) λp e1 bV=>?_;subst bV;refine cF (au R hs) λcvs n Q Y=>?_;refine ah (Y.get e1) λc h5 h6=>?_;refine bM q.e λold J=>?_;refine wpAny_pyNext_enum_item J q.f (aK _ Q rfl (gV n rfl)) (x:=c) (Array.getElem?_toList.symm.trans h5) G λh' b1 b2 Z _ k=>(af _ rfl ?_);refine wpAny_letOwnedTupleGo_enum b1 λB c1 sb=>?_;have k2:∀c o,¬(c=e\/c=it)->s.heap.get? c=some o->B.get? c=some o:=λc o hc x=>sb.extBut _ _ (λq=>hc (.inl q)) (k c o (λq=>hc (.inl q)) (λq=>hc (.inr q)) x);obtain tk:TupKeep L.sa s.heap B:=λc o nx x hc _=>k2 c o (λO=>q.wt O x hc) x;exact(cO (q8 (R.nx (B8 (z7 _))) (aK _ (sb.extBut _ _ (SN (G9 J)) Z) rfl (gV 0 rfl)) (.cons (q5 _ _) (.one (h6.keep tk)))) ⟨⟨_,c1⟩,b2.elim λo x=>(af o ((sb.2 _ G.symm).trans x.1) x.2)⟩ (ey B (s.toks+1) rfl k2))
 done:=λH s R hs q=>by refine cF (au R hs) λcvs n Q Y=>?_;obtain hl:cvs.size=vs.length:=Y.length;refine bM q.e λold J=>?_;refine wpAny_pyNext_enum_end hh J q.f (aK _ Q rfl (gV n rfl)) (Sm (by rw[hl,qh];exact z7 _)) λh' k=>(cO rfl (ey h' s.toks rfl (λc o hc x=>k c o (λq=>hc (.inr q)) x)) (mC R.ex λb o x hX=>k b o (λz=>n2 (z▸hX)) x))
 self:=λi s st=>st.e.elim λo x=>wpAny_pyIter_enum x ⟨rfl,rfl⟩
theorem zI(hh:A.handled=none)(F:ae L env loc H s.heap)(R:aD L H s.heap){J:List Expr}{kk:Nat}{l:Addr}(hl:H l=some (.list vs)){K:pN->List V->AH->Prop}(q:K (some (l,vs)) (gP vs) H) : a8 L A (call (.type "enumerate") [.ref l]) (λxv ac=>a8 L A (pyIter xv) (ForPost L env loc A (.Tuple J kk pos) H s K) aG ac) aG s:=by
 refine cF (au R hl) λcvs n Z ra=>?_;refine call_enumerate_list (aK _ Z rfl (gV n rfl)) λh' Y hit _ k=>?_;refine wpAny_pyIter_enum Y ?_;obtain fr:∀b,s.heap.objs.size<=b->s.heap.get? b=none:=λb B=>B8 B;have G:∀b,(b=s.heap.objs.size+1\/b=s.heap.objs.size)->s.heap.get? b=none:=λb B=>fr b (by rcases B with rfl|rfl;exact P7 _;exact z7 _);obtain S:ay L eE H H s { s with heap:=h' }:=q9 R rfl rfl k;refine ForPost.of F ⟨_,_,gP vs,some (l,vs),_,H,q,rfl,⟨(gV _ Y),hit⟩,ye hh (Nat.succ_ne_self _) (R.nx (G _ (.inl rfl))) (R.nx (G _ (.inr rfl))),⟨λb B=>(R.free (G b B)).1,λb B=>(R.free (G b B)).2,λB=>?_,λn c e B=>?_⟩,G,hl,S.toE F.lH⟩
 .refine ah F.ns λm O _=>?_;refine mx O λo _ _ e _=>?_;exact nn (G _ B) e
 .refine jb (F.cell n c e) λ_ _ Q=>?_;refine cF Q λ_ o e' _=>?_;exact nn (G _ B) e'
def zT(C:aJ L.toSx)(PO:∀p,aP L p){a:ME}{x:Expr}{K:pN->List V->AH->Prop}(hc:wr env.scope.names (.enum a) x=true)(ht:jW (.enum a) tgt=true)(F:ae L env loc H s.heap)(R:aD L H s.heap)(hr:Room A d)(h:lh L.toSx d (.enum a) loc H K) : a8 L A (eval x env) (λO ac=>a8 L A (pyIter O) (ForPost L env loc A tgt H s K) aG ac) aG s:=by refine cM hc λg as ks p hk=>bm hk λid ip hk=>eZ hk λy hk=>bT ht λJ kk pos _=>?_;obtain k1:=aa hk;obtain k2:=aa k1.2;rw[I6.mp k1.1];refine kS C F R (bi (i:=13) rfl) k2.1 (λrest=>cK k2.2 rest env) (bk (sE C PO a k2.2 F R hr h) λv H1 c s1 Q Z B=>?_);refine uA Q λb vs G e _ q=>?_;subst G;rw[Z.ref_inv];exact z8 (zI hr.1 (F.estep B) B.st.rel e q) (λO s3 Y=>z8 Y (λ_ _ h=>ForPost.after B h) λ_ _ e=>e) λ_ _ e=>e
end
noncomputable def Ask(r:Nat->Nat)(n:Nat):KasT α->(α->Prop)->Prop
 | .ret a,G=>G a
 | .ask i j k,G=>i<n/\j<n/\Ask r n (k (decide (r i<r j))) G
section
variable{r:Nat->Nat}{n:Nat}
theorem Ask.bind{f:α->KasT β}{G:β->Prop}:∀{t:KasT α},Ask r n t (λa=>Ask r n (f a) G)->Ask r n (t.bind f) G
 | .ret a,h=>h
 | .ask i j k,h=>(cO h.1 h.2.1 (Ask.bind h.2.2))
theorem Ask.mono{G B:α->Prop}(q:∀a,G a->B a):∀{t:KasT α},Ask r n t G->Ask r n t B
 | .ret a,h=>q a h
 | .ask i j k,h=>(cO h.1 h.2.1 (Ask.mono q h.2.2))
theorem Ask.wp{G:α->Prop}{cmp:Nat->Nat->(b7)->Shared->Prop}{I:Shared->Prop}(hc:∀i j (C:b7) s,i<n->j<n->I s->(∀s',I s'->C (decide (r i<r j)) s')->cmp i j C s) : ∀{t:KasT α}{s:Shared}{Q:α->Shared->Prop},Ask r n t G->I s->(∀a s',G a->I s'->Q a s')->t.kasWp cmp Q s
 | .ret a,s,Q,h,B,q=>q a s h B
 | .ask i j k,s,Q,h,B,q=>hc i j _ s h.1 h.2.1 B λs' F=>Ask.wp hc h.2.2 F q
noncomputable def rk(r:Nat->Nat)(p:Array Nat)(i:Nat):Nat:=r (p.getD i 0)
theorem v8{k:Bool->KasT α}{G:α->Prop}(hi:p.getD i 0<n)(F:p.getD j 0<n)(B:rk r p i<rk r p j->Ask r n (k true) G)(J:rk r p j<=rk r p i->Ask r n (k false) G):Ask r n (.ask (p.getD i 0) (p.getD j 0) k) G:=by
 refine(cO hi F ?_);by_cases h:rk r p i<rk r p j
 .rw[show decide (r (p.getD i 0)<r (p.getD j 0))=true from D8 h];exact B h
 .rw[show decide (r (p.getD i 0)<r (p.getD j 0))=false from E2 h];exact J (B0 h)
structure PP(n:Nat)(p:Array Nat):Prop where
 size:p.size=n
 perm:p.toList.Perm (List.range n)
theorem PP.lt(h:PP n p)(hi:i<n):p.getD i 0<n:=by
 obtain B:i<p.size:=by rw[h.size];exact hi
 have:p.getD i 0∈p.toList:=by rw[Array.getD,dif_pos B];exact P6.mpr (Array.getElem_mem B)
 exact E3.mp (h.perm.mem_iff.mp this)
theorem iE{q:Array Nat}(h:p[i]?=q[j]?):rk r p i=rk r q j:=by unfold rk;rw[Array.getD_eq_getD_getElem?,Array.getD_eq_getD_getElem?,h]
theorem PP.rev(h:PP n p)(i j:Nat):PP n (kas_rev p i j) :=⟨by rw[<- h.size];exact mirror_size _ _ _ _,(Array.perm_iff_toList_perm.mp (mirror_perm p i j _)).trans h.perm⟩
theorem PP.bubble(h:PP n p)(k d:Nat):PP n (bubble p k d) :=⟨by rw[<- h.size];exact bubble_size _ _ _,(Array.perm_iff_toList_perm.mp (bubble_perm p k d)).trans h.perm⟩
theorem vG(B:j<=p.size)(k:Nat):rk r (kas_rev p i j) k=if i<=k/\k<j then rk r p (i+j-1-k)else rk r p k:=by
 obtain e:=getElem?_mirror_all (xs:=p) (i:=i) B k;by_cases h:i<=k/\k<j
 .rw[if_pos h]at e ⊢;exact iE e
 .rw[if_neg h]at e ⊢;exact iE e
theorem yB{l:Nat}(hs:k<p.size)(hl:l<=k):(∀i,i<l->rk r (bubble p k (k-l)) i=rk r p i)/\rk r (bubble p k (k-l)) l=rk r p k/\∀i,l<=i->i<k->rk r (bubble p k (k-l)) (i+1)=rk r p i:=by
 obtain e:=getElem?_bubble hs (k-l) (Sw k l);rw[Nat.sub_sub_self hl]at e;refine⟨λi hi=>iE ?_,iE ?_,λi B F=>iE ?_⟩
 .obtain e:=e i;rwa [if_neg (E9 hi),if_neg λz=>Nat.lt_asymm hi z.1]at e
 .obtain e:=e l;rwa [if_pos rfl]at e
 .obtain e:=e (i+1);rwa [if_neg (SN (Sf B)),if_pos ⟨Sf B,F⟩]at e
def Up(r:Nat->Nat)(p:Array Nat)(k:Nat):Prop:=∀i j,i<=j->j<k->rk r p i<=rk r p j
def Down(r:Nat->Nat)(p:Array Nat)(k:Nat):Prop:=∀i j,i<=j->j<k->rk r p j<=rk r p i
theorem eT{f n:Nat}(h:m+(f+1)<=n):m<n:=E8 (Nat.lt_add_of_pos_right (Q3 f)) h
theorem iI{f n:Nat}(h:m+(f+1)<=n):m+1+f<=n:=by rw[Nat.add_right_comm];exact h
theorem mG{n:Nat}(h:m<n):m-1<n:=z0 (Sw m 1) h
def kl(h:1<=m):m-1<m:=Nat.sub_lt h Nat.one_pos
theorem Up.one:Up r p 1:=λi j B F=>by obtain rfl:=Nat.lt_one_iff.mp F;obtain rfl:=Nat.le_zero.mp B;exact z7 _
theorem Up.succ(J:Up r p m)(O:1<=m)(h:rk r p (m-1)<=rk r p m):Up r p (m+1):=λi j B Q=>by
 rcases Sv (G6 Q)with G|rfl
 .exact J i j B G
 .rcases Sv B with F|rfl
  .exact s7 (J i (j-1) (Nat.le_sub_one_of_lt F) (kl O)) h
  .exact z7 _
theorem Down.succ(J:Down r p m)(O:1<=m)(h:rk r p m<=rk r p (m-1)):Down r p (m+1):=λi j B Q=>by
 rcases Sv (G6 Q)with G|rfl
 .exact J i j B G
 .rcases Sv B with F|rfl
  .exact s7 h (J i (j-1) (Nat.le_sub_one_of_lt F) (kl O))
  .exact z7 _
theorem qZ(hp:PP n p){G:Nat->Prop}:∀(f m:Nat),m+f<=n->1<=m->Up r p m->(∀B,1<=B->B<=n->Up r p B->(B=m+f\/(B<n/\rk r p B<rk r p (B-1)))->G B)->Ask r n (kas_asc p f m) G
 |0,m,F,J,Q,O=>O m J F Q (.inl rfl)
 |f+1,m,F,J,Q,O=>v8 (hp.lt (eT F)) (hp.lt (mG (eT F))) (λh=>O m J (D9 (eT F)) Q (.inr ⟨eT F,h⟩))
   λh=>qZ hp f (m+1) (iI F) (Q3 m) (Q.succ J h) λB a b c d=>O B a b c (d.imp (λe=>e.trans (Nat.add_right_comm m 1 f)) id)
theorem qF(F:j<=p.size)(B:∀k,i<=k->k<j->rk r p k=rk r p (j-1))(k:Nat):rk r (kas_rev p i j) k=rk r p k:=by
 rw[vG F];by_cases h:i<=k/\k<j
 .rw[if_pos h,B k h.1 h.2,B _ (Ik h.2) (Il h.1 h.2)]
 .rw[if_neg h]
structure Fall(r:Nat->Nat)(n:Nat)(p:Array Nat)(m q:Nat):Prop where
 pp:PP n p
 le:m<=n
 hq:q+1<=m
 down:Down r p m
 eq:∀k,m-(q+1)<=k->k<m->rk r p k=rk r p (m-1)
theorem Fall.turn{q:Nat}(F:Fall r n p m q)(k:Nat):rk r (kas_rev p (m-(q+1)) m) k=rk r p k:=qF (by rw[F.pp.size];exact F.le) F.eq k
theorem Down.congr{B:Array Nat}(h:Down r p m)(e:∀k,rk r B k=rk r p k):Down r B m:=λi j a b=>by rw[e,e];exact h i j a b
theorem Fall.next{B:Array Nat}{q:Nat}(F:Fall r n p m q)(hm:m<n)(h:rk r p m<=rk r p (m-1))(hp:PP n B)(e:∀k,rk r B k=rk r p k):Fall r n B (m+1) 0 :=⟨hp,hm,I7 (E1 m),(F.down.succ (s7 (Q3 q) F.hq) h).congr e,λk G J=>by rw[A8 (G6 J) G];rfl⟩
theorem Fall.same{q:Nat}(F:Fall r n p m q)(hm:m<n)(h:rk r p m<=rk r p (m-1))(h':rk r p m<=rk r p (m-1)/\rk r p (m-1)<=rk r p m):Fall r n p (m+1) (q+1) :=
 ⟨F.pp,hm,I7 F.hq,F.down.succ (s7 (Q3 q) F.hq) h,λk B G=>by
  rcases Sv (G6 G)with hk|rfl
  .rw[F.eq k (by rwa [Nat.succ_sub_succ]at B) hk];exact A8 h'.2 h'.1
  .rfl⟩
theorem jM{G:Array Nat×Nat×Nat->Prop}:∀(f:Nat)(p:Array Nat)(m q:Nat),m+f<=n->Fall r n p m q->(∀Q O Y,Fall r n Q O Y->G (Q,O,Y))->Ask r n (kas_desc f p m q) G
 |0,p,m,q,_,F,B=>B p m q F
 |f+1,p,m,q,J,F,B=>by
  obtain hm:=eT J;refine v8 (F.pp.lt hm) (F.pp.lt (mG hm)) (λh=>?_) λh=>v8 (F.pp.lt (mG hm)) (F.pp.lt hm) (λh'=>B p m q F) λh'=>jM f p (m+1) (q+1) (iI J) (F.same hm h' ⟨h',h⟩) B;show Ask r n (if q>0 then _ else _) G;by_cases hq:q>0
  .rw[if_pos hq];exact jM f _ (m+1) 0 (iI J) (F.next hm (D9 h) (F.pp.rev _ _) F.turn) B
  .rw[if_neg hq];exact jM f _ (m+1) 0 (iI J) (F.next hm (D9 h) F.pp λ_=>rfl) B
theorem Up.rev(hm:m<=p.size)(h:Down r p m):Up r (kas_rev p 0 m) m:=by intro i j B F;obtain hi:=z0 B F;rw[vG hm,vG hm,if_pos ⟨E1 i,hi⟩,if_pos ⟨E1 j,F⟩,Q4];exact h _ _ (Nat.sub_le_sub_left B _) (z0 (Sw _ i) (kl (z0 (E1 i) hi)))
abbrev Pl(r:Nat->Nat)(n:Nat)(x:Nat×Array Nat):Prop:=PP n x.2/\1<=x.1/\x.1<=n/\Up r x.2 x.1
theorem pQ(hp:PP n p)(B:1<=m)(hm:m<=n)(hd:Down r p m):Ask r n (kas_tail3 m n p) (Pl r n) :=Ask.bind (qZ (hp.rev 0 m) (n-m) m (r5 (Q6 hm)) B (Up.rev (by rw[hp.size];exact hm) hd) λF a b c _=>(sw (hp.rev 0 m) a b c))
theorem jN(hp:PP n p)(B:1<=m)(hm:m<n)(hd:Down r p m)(hl:rk r p m<rk r p (m-1)):Ask r n (kas_descPart m n p) (Pl r n):=by
 refine Ask.bind (jM (n-(m+1)) p (m+1) 0 (r5 (Q6 hm)) ⟨hp,hm,I7 (E1 m),hd.succ B (D9 hl),λk B J=>by rw[A8 (G6 J) B];rfl⟩ λQ O G F=>?_);obtain B:=s7 (Q3 G) F.hq;by_cases hq:G>0
 .rw[if_pos hq];exact pQ (F.pp.rev _ _) B F.le (F.down.congr F.turn)
 .rw[if_neg hq];exact pQ F.pp B F.le F.down
theorem Down.one(h:¬m>1):Down r p m:=λi j B F=>by obtain F:=Nat.lt_one_iff.mp (E8 F (B0 h));subst F;obtain rfl:=Nat.le_zero.mp B;exact z7 _
theorem xI(hp:PP n p)(J:1<=n):Ask r n (kas_count n p) (Pl r n):=by
 refine Ask.bind (qZ hp (n-1) 1 (r5 (Q6 J)) (z7 _) Up.one λm a b c d=>?_);by_cases G:m=n
 .rw[if_pos (L9.mpr G)];exact(sw hp a b c)
 .rw[if_neg (mt L9.mp G)];refine cq (show m<n/\rk r p m<rk r p (m-1)from d.elim (λe=>absurd (e.trans (Q6 J)) G) id) λhm hl=>?_;by_cases F:m>1
  .rw[if_pos F];refine v8 (hp.lt J) (hp.lt (mG hm)) (λh=>(sw hp a b c)) λh=>?_;have B:∀k,0<=k->k<m->rk r p k=rk r p (m-1):=λk _ hk=>A8 (c k (m-1) (Nat.le_sub_one_of_lt hk) (kl a)) (s7 h (c 0 k (E1 _) hk));have hk:=qF (r:=r) (p:=p) (i:=0) (j:=m) (by rw[hp.size];exact b) B;exact jN (hp.rev 0 m) a hm (λi j O Q=>by rw[hk,hk,B i (E1 _) (z0 O Q),B j (E1 _) Q];exact z7 _) (by rw[hk,hk];exact hl)
  .rw[if_neg F];exact jN hp a hm (Down.one F) hl
def Ps{l u:Nat}(h:¬l≥u):l<=(l+u)/2/\(l+u)/2<u:=by exact Ip h
theorem kE(hp:PP n p)(hk:k<n)(hu:Up r p k){G:Nat->Prop}(Z:∀l,l<=k->(∀i,i<l->rk r p i<=rk r p k)->(∀i,l<=i->i<k->rk r p k<rk r p i)->G l) : ∀(f l u:Nat),l<=u->u<=k->u-l<=f->(∀i,i<l->rk r p i<=rk r p k)->(∀i,u<=i->i<k->rk r p k<rk r p i)->Ask r n (kas_place p k f l u) G
 |0,l,u,h1,J,O,Q,Y=>by have e:l=u:=A8 h1 (Nat.sub_eq_zero_iff_le.mp (Nat.le_zero.mp O));subst e;exact Z l J Q Y
 |f+1,l,u,h1,J,O,Q,Y=>by
  show Ask r n (if l≥u then _ else _) G;by_cases B:l≥u
  .rw[if_pos B];obtain rfl:=A8 h1 B;exact Z l J Q Y
  .rw[if_neg B];refine cq (Ps B) λha hb=>?_;have F:=E8 hb J;exact v8 (hp.lt hk) (hp.lt (C6 F hk)) (λh=>kE hp hk hu Z f l _ ha (D9 F) (G6 (E8 (Nat.sub_lt_sub_right ha hb) O)) Q λi a b=>E8 h (hu _ i a b))
    λh=>kE hp hk hu Z f _ u hb J (G6 (E8 (Nat.sub_lt_sub_left (P8 B) (Sf ha)) O)) (λi a=>s7 (hu i _ (G6 a) F) h) Y
abbrev qU(r:Nat->Nat)(n:Nat)(p:Array Nat):Prop:=PP n p/\Up r p n
theorem Up.put{l:Nat}(hs:k<p.size)(hl:l<=k)(J:Up r p k)(Q:∀i,i<l->rk r p i<=rk r p k)(Y:∀i,l<=i->i<k->rk r p k<rk r p i):Up r (bubble p k (k-l)) (k+1):=by
 refine jb (yB (r:=r) hs hl) λb1 b2 O=>?_;intro i j B Z;rcases Nat.lt_trichotomy j l with h|rfl|h
 .rw[b1 j h,b1 i (z0 B h)];exact J i j B (E8 h hl)
 .rw[b2];rcases Sv B with h|rfl
  .rw[b1 i h];exact Q i h
  .rw[b2];exact z7 _
 .rcases j with _|j
  .exact absurd h (J3 l)
  .have G:=G6 h;have F:=Nat.lt_of_succ_lt_succ Z;rw[O j G F];rcases Nat.lt_trichotomy i l with h|rfl|h
   .rw[b1 i h];exact J i j (s7 (D9 h) G) F
   .rw[b2];exact D9 (Y j G F)
   .rcases i with _|i
    .exact absurd h (J3 l)
    .rw[O i (G6 h) (E8 (K3 i) (s7 B F))];exact J i j (Nat.le_of_succ_le_succ B) F
theorem wo:∀(f:Nat)(p:Array Nat)(k:Nat),PP n p->k+f=n->Up r p k->Ask r n (kas_bin f p k) (qU r n)
 |0,p,k,hp,hk,F=>⟨hp,(show k=n from hk)▸F⟩
 |f+1,p,k,hp,hk,F =>
  have B:=eT (r5 hk)
  Ask.bind (kE hp B F (λl hl G J=>wo f _ (k+1) (hp.bubble _ _) ((Nat.add_right_comm k 1 f).trans hk) (Up.put (by rw[hp.size];exact B) hl F G J)) k 0 k (E1 _) (z7 _) (z7 _) (λi hi=>absurd hi (J3 _)) λi a b=>absurd b (Nat.not_lt.mpr a))
end
theorem zi{r:Nat->Nat}{n:Nat}(B:1<=n):Ask r n (kas_sort n) (qU r n):=by
 obtain hp:PP n (List.toArray (List.range n)):=⟨Sd,K6 _⟩;refine Ask.bind (Ask.mono (λx hx=>?_) (xI hp B));refine Dz hx λa b c d=>?_;show Ask r n (if x.1<n then _ else _) _;rw[M0 b];by_cases h:x.1<n
 .rw[if_pos h];exact wo _ _ _ a (Q6 c) d
 .rw[if_neg h];exact⟨a,A8 c (B0 h)▸d⟩
mutual
theorem jI:∀(v:V),gg v v=false
 | .int i=>E2 (Int.lt_irrefl i)
 | .str s=>E2 (String.lt_irrefl s)
 | .tup xs=>mh xs
 | .none=>rfl
 | .bool _=>rfl
 | .ref _=>rfl
 | .scr=>rfl
theorem mh:∀(xs:List V),ft xs xs=false
 | []=>rfl
 |x::xs=>by show(if cr x x=true then ft xs xs else gg x x)=false;rw[if_pos (dg x)];exact mh xs
end
def bE(v:V):cr v v=true:=dg v
def qR{y:V}{xs ys:List V}:ft (x::xs) (y::ys)=if cr x y then ft xs ys else gg x y:=rfl
def mN{xs ys:List V}:ft (x::xs) (x::ys)=ft xs ys:=if_pos (dg x)
def gL{y:V}{xs ys:List V}(h:x≠y):ft (x::xs) (y::ys)=gg x y:=if_neg λe=>h ((aO _ _).mp e)
mutual
theorem mM:∀(v w:V),cG v w=true->gg v w=true\/v=w\/gg w v=true
 | .int i,w,h=>by
  cases w with
  |int j=>exact(Int.lt_trichotomy i j).imp D8 (Or.imp (B9 V.int) D8)
  |_=>exact ai h
 | .str s,w,h=>by
  cases w with
  |str t =>
   by_cases h:s<t
   .exact .inl (D8 h)
   .by_cases h':t<s
    .exact .inr (.inr (D8 h'))
    .exact .inr (.inl (B9 V.str (String.le_antisymm (String.not_lt.mp h') (String.not_lt.mp h))))
  |_=>exact ai h
 | .tup xs,w,h=>by
  cases w with
  |tup ys=>exact(uu xs ys h).imp id (Or.imp (B9 V.tup) id)
  |_=>exact ai h
 | .none,w,h=>ai h
 | .bool _,w,h=>ai h
 | .ref _,w,h=>ai h
 | .scr,w,h=>ai h
theorem uu:∀(xs ys:List V),fw xs ys=true->ft xs ys=true\/xs=ys\/ft ys xs=true
 | [],[],_=>.inr (.inl rfl)
 | [],y::ys,_=>.inl rfl
 |x::xs,[],_=>.inr (.inr rfl)
 |x::xs,y::ys,h=>by
  obtain h:=aa h;by_cases e:x=y
  .subst e;rw[mN,mN];exact(uu xs ys h.2).imp id (Or.imp (B9 (x::·)) id)
  .rw[gL e,gL (Tc e)];exact(mM x y h.1).imp id (Or.imp (λz=>absurd z e) id)
end
mutual
theorem gh:∀(u v w:V),cG u v=true->cG v w=true->gg u v=true->gg v w=true->gg u w=true
 | .int i,v,w,c,d,a,b=>by
  cases v with
  |int j=>cases w with
   |int k=>exact D8 (Int.lt_trans (z9 a) (z9 b))
   |_=>exact ai d
  |_=>exact ai c
 | .str s,v,w,c,d,a,b=>by
  cases v with
  |str t=>cases w with
   |str u=>exact D8 (String.lt_trans (z9 a) (z9 b))
   |_=>exact ai d
  |_=>exact ai c
 | .tup xs,v,w,c,d,a,b=>by
  cases v with
  |tup ys=>cases w with
   |tup B=>exact oV xs ys B c d a b
   |_=>exact ai d
  |_=>exact ai c
 | .none,_,_,h,_,_,_=>ai h
 | .bool _,_,_,h,_,_,_=>ai h
 | .ref _,_,_,h,_,_,_=>ai h
 | .scr,_,_,h,_,_,_=>ai h
theorem oV:∀(us vs ws:List V),fw us vs=true->fw vs ws=true->ft us vs=true->ft vs ws=true->ft us ws=true
 | [],vs,[],_,_,a,b=>by
  rcases vs with _|⟨_,_⟩
  .exact ai a
  .exact ai b
 |u::us,vs,[],_,_,a,b=>by
  rcases vs with _|⟨_,_⟩
  .exact ai a
  .exact ai b
 | [],_,_::_,_,_,_,_=>rfl
 |u::us,vs,w::ws,c,d,a,b=>by
  rcases vs with _|⟨v,vs⟩
  .exact ai a
  .obtain c:=aa c;obtain d:=aa d;by_cases e1:u=v
   .subst e1;rw[mN]at a;by_cases e2:u=w
    .subst e2;rw[mN]at b ⊢;exact oV us vs ws c.2 d.2 a b
    .rw[gL e2]at b ⊢;exact b
   .rw[gL e1]at a;by_cases e2:v=w
    .subst e2;rw[gL e1];exact a
    .rw[gL e2]at b;have t:=gh u v w c.1 d.1 a b;rw[gL λB=>by subst B;rw[jI]at t;exact ai t];exact t
end
theorem et:∀{xs ys:List V},xs.Perm ys->(∀x∈xs,∀y∈xs,cG x y=true)->xs.Pairwise (λa b=>gg b a=false)->ys.Pairwise (λa b=>gg b a=false)->xs=ys
 | [],ys,p,_,_,_=>(List.nil_perm.mp p).symm
 |x::xs,[],p,_,_,_=>by obtain B:=p.length_eq;simp at B
 |x::xs,y::ys,p,hc,hx,hy=>by
  rw[RZ]at hx hy;have e:x=y:=by
   obtain G:x∈y::ys:=p.mem_iff.mp y4;obtain F:y∈x::xs:=p.mem_iff.mpr y4;rcases A4.mp G with e|G
   .exact e
   .rcases A4.mp F with e|F
    .exact e.symm
    .have a:=hy.1 x G;have b:=hx.1 y F;rcases mM x y (hc x y4 y (w9 _ F))with t|t|t
     .rw[a]at t;exact ai t
     .exact t
     .rw[b]at t;exact ai t
  subst e;rw[et (p.cons_inv) (λa ha b J=>hc a (w9 _ ha) b (w9 _ J)) hx.2 hy.2]
def yj{a b c:V}(B:cG a b=true)(G:cG b c=true)(J:cG a c=true)(x:gg b a=false)(y:gg c b=false)(s1:cG b a=true)(s2:cG c b=true)(F:cG c a=true):gg c a=false:=by
 rcases e:gg c a with _|_
 .rfl
 .rcases mM a b B with t|t|t
  .have:=gh c a b F B e t
   rw[y]at this;exact ai this
  .subst t;rw[y]at e;exact ai e
  .rw[x]at t;exact ai t
theorem kZ(x:V):∀ys:List V,(ur x ys).Perm (x::ys)
 | []=>K6 _
 |y::ys=>by
  unfold ur;split
  .exact((kZ x ys).cons y).trans (List.Perm.swap x y ys)
  .exact K6 _
theorem aw:∀vs:List V,(aH vs).Perm vs
 | []=>K6 _
 |x::xs=>(kZ x _).trans ((aw xs).cons x)
theorem mf(x:V):∀ys:List V,(∀a∈x::ys,∀b∈x::ys,cG a b=true)->ys.Pairwise (λa b=>gg b a=false)->(ur x ys).Pairwise (λa b=>gg b a=false)
 | [],_,_=>by simp[ur]
 |y::ys,hc,h=>by
  rw[RZ]at h;unfold ur;split
  .rename_i B;rw[RZ];refine⟨λa ha=>?_,mf x ys (λa ha b O=>hc a (by simp at ha ⊢;exact ha.imp id .inr) b (by simp at O ⊢;exact O.imp id .inr)) h.2⟩;rcases A4.mp ((kZ x ys).mem_iff.mp ha)with e|ha
   .subst e;rcases q:gg a y with _|_
    .rfl
    .have:=gh y a y (hc _ (by simp) _ (by simp)) (hc _ (by simp) _ (by simp)) B q
     rw[jI]at this;exact ai this
   .exact h.1 a ha
  .rename_i B;obtain B:gg y x=false:=L0.mpr B;rw[RZ];refine⟨λa ha=>?_,RZ.mpr h⟩;rcases A4.mp ha with e|ha
   .subst e;exact B
   .obtain F:x∈x::y::ys:=y4;have G:y∈x::y::ys:=by simp
    obtain J:a∈x::y::ys:=by simp[ha]
    exact yj (hc _ F _ G) (hc _ G _ J) (hc _ F _ J) B (h.1 a ha) (hc _ G _ F) (hc _ J _ G) (hc _ J _ F)
theorem dN:∀vs:List V,(∀a∈vs,∀b∈vs,cG a b=true)->(aH vs).Pairwise (λa b=>gg b a=false)
 | [],_=>by simp[aH]
 |x::xs,hc=>by
  refine mf x _ (λa ha b B=>hc a ?_ b ?_) (dN xs λa ha b B=>hc a (w9 _ ha) b (w9 _ B))
  .exact((aw xs).cons x).mem_iff.mp ha
  .exact((aw xs).cons x).mem_iff.mp B
theorem pY{p q:α->Bool}:∀{l:List α},(∀x∈l,p x=true->q x=true)->(∃x∈l,q x=true/\p x=false)->l.countP p<l.countP q
 | [],_,h=>by refine ah h λx hx _=>?_;exact absurd hx y9
 |a::l,hm,h=>by
  obtain B:l.countP p<=l.countP q:=List.countP_mono_left λx hx hp=>hm x (w9 _ hx) hp;by_cases ht:∃x∈l,q x=true/\p x=false
  .obtain J:=pY (λx hx=>hm x (w9 _ hx)) ht;rw[List.countP_cons,List.countP_cons];cases e:p a with
   |true=>simp[hm a List.mem_cons_self e];exact J
   |false=>simp;exact Iq J
  .refine bR h λx hx F G=>?_;rcases A4.mp hx with rfl|hx
   .rw[List.countP_cons,List.countP_cons];simp[F,G];exact Az B
   .exact absurd (aK x hx F G) ht
noncomputable def oY(vs:List V)(i:Nat):Nat:=(List.range vs.length).countP λj=>gg (vs.getD j .none) (vs.getD i .none)
def bS(h:i<vs.length):vs.getD i .none∈vs:=by rw[C1,E4 h];exact List.getElem_mem h
def uw(hc:∀a∈vs,∀b∈vs,cG a b=true)(hi:i<vs.length)(B:j<vs.length):decide (oY vs i<oY vs j)=gg (vs.getD i .none) (vs.getD j .none):=by
 obtain F:=bS hi;obtain G:=bS B;have mono:∀{i j:Nat},i<vs.length->j<vs.length->(gg (vs.getD i .none) (vs.getD j .none)=true\/vs.getD i .none=vs.getD j .none)->oY vs i<=oY vs j:=by
  intro i j hi B h;refine List.countP_mono_left λx hx hp=>?_;obtain hx:=bS (E3.mp hx);rcases h with h|h
  .exact gh _ _ _ (hc _ hx _ (bS hi)) (hc _ (bS hi) _ (bS B)) hp h
  .rw[<- h];exact hp
 cases e:gg (vs.getD i .none) (vs.getD j .none)with
 |true =>refine D8 (pY (λx hx hp=>?_) (aK i (E3.mpr hi) e (jI _)));exact gh _ _ _ (hc _ (bS (E3.mp hx)) _ F) (hc _ F _ G) hp e
 |false =>
  refine E2 (Nat.not_lt.mpr (mono B hi ?_));rcases mM _ _ (hc _ F _ G)with t|t|t
  .rw[e]at t;exact ai t
  .exact .inr t.symm
  .exact .inl t
def uj(hc:∀a∈vs,∀b∈vs,cG a b=true)(h:qU (oY vs) vs.length p):(p.toList.map λi=>vs.getD i .none)=aH vs:=by
 refine cq h λhp Y=>?_;have B:(p.toList.map λi=>vs.getD i .none).Perm vs:=by
  refine(hp.perm.map _).trans ?_
  have:(List.range vs.length).map (λi=>vs.getD i .none)=vs:=by refine List.ext_getElem (by simp) λi F Q=>?_;simp[List.getD_eq_getElem?_getD,Q]
  rw[this]
 refine et (B.trans (aw vs).symm) (λx hx y hy=>hc x (B.mem_iff.mp hx) y (B.mem_iff.mp hy)) ?_ (dN vs hc);rw[List.pairwise_iff_getElem];intro i j hi G J;simp only[List.length_map,Array.length_toList]at hi G;obtain O:=hp.size;simp only[List.getElem_map,Array.getElem_toList];obtain F:=Y i j (Iu J) (yr O G);have e1:p.getD i 0=p[i]:=by simp[Array.getD,hi]
 have e2:p.getD j 0=p[j]:=by simp[Array.getD,G]
 unfold rk at F;rw[e1,e2]at F;obtain l1:p[i]<vs.length:=e1▸hp.lt (yr O hi);obtain l2:p[j]<vs.length:=e2▸hp.lt (yr O G);rw[<- uw hc l2 l1];exact E2 (Nat.not_lt.mpr F)
theorem nP:∀(l m:List Char),(l.map (λc=>c.toNat)<m.map (λc=>c.toNat))↔l<m
 |_,[]=>by simp
 | [],_::_=>by simp
 |a::l,b::m=>by simp only[List.map_cons,List.cons_lt_cons_iff,nP l m,Char.toNat_inj];exact Iff.rfl
theorem lR(s t:String):((Str.ofString s).cps.toList<(Str.ofString t).cps.toList)↔s<t:=by rw[N0,N0];rw[nP];exact Iff.rfl
section
variable{sa:SX}
theorem v9{A:Around}{n m:Nat}{f:Value×Value->Option Fin×PUnit->Sem (ForInStep (Option Fin×PUnit))}{Q:Bool->Prop} (G:∀{x y:V}{c d:Value}{P:a9},cG x y=true->aS x=true->aS y=true->aB x<=n->VR sa s.heap x c->VR sa s.heap y d->P (.bool (gg x y)) s->wpAny (model prog w) A (richCompare .Lt c d) P E s) (Z:A.units+n<cLine) (hf:f=λp _=>(do let e <- PySem.eqBool p.1 p.2;if(!e)=true then(do rule "tuple.compare.by-the-first-pair-that-differs";let v <- richCompare .Lt p.1 p.2;let r <- ret v;pure (ForInStep.done (some r,PUnit.unit)))else pure (ForInStep.yield (none,PUnit.unit)))) : ∀{xs ys:List V}{cs ds:List Value}{R:Option Fin×PUnit->Shared->Prop},fw xs ys=true->bG xs=true->bG ys=true->bJ xs<=n->VRs sa s.heap xs cs->VRs sa s.heap ys ds -> (∀b,ft xs ys=b->R (some (.done (.ret (.bool b))),PUnit.unit) s)->(ft xs ys=decide (xs.length<ys.length)->R (none,PUnit.unit) s)->wpAny (model prog w) A (forIn (cs.zip ds) (none,PUnit.unit) f) R E s
 | [],ys,_,_,R,_,_,_,_,J,O,_,B=>by rw[J.nil_inv,List.zip_nil_left,List.forIn_nil];refine u4 (B ?_);cases ys <;> simp[ft]
 |x::xs,[],_,_,R,_,_,_,_,J,O,_,B=>by rw[O.nil_inv,List.zip_nil_right,List.forIn_nil];exact u4 (B (by simp[ft]))
 |x::xs,y::ys,_,_,R,hc,k1,k2,hd,J,O,F,B=>by
  refine bN J.cons_inv λc cs aX Y a2=>?_;subst aX;refine bN O.cons_inv λd ds bV b1 b2=>?_;subst bV;unfold fw at hc;unfold bG at k1 k2;rw[G7]at hc k1 k2;rw[M8,Sh,hf];refine p0 (p0 (VR.eqBool (bt _ k1.1) (bt _ k2.1) (DZ hd Z) Y b1 ?_));rw[qR]at F B;cases e:cr x y with
  |true =>simp only[e,if_true]at F B;refine u4 ?_;exact v9 (n:=n) (m:=m) (Q:=Q) G Z rfl hc.2 k1.2 k2.2 (CH hd) a2 b2 F (λq=>B (by rw[q];simp))
  |false =>simp only[e,Bool.false_eq_true,if_false]at F B;refine p0 (p0 (R4 (u4 (p0 (G hc.1 k1.1 k2.1 (FS hd) Y b1 ?_)))));exact p0 (u4 (u4 (u4 (F _ rfl))))
theorem VR.lt:∀(n:Nat){A:Around}{E:a9}{s:Shared}{x y:V}{c d:Value}{Q:a9},cG x y=true->aS x=true->aS y=true->aB x<=n->A.units+n<cLine->VR sa s.heap x c->VR sa s.heap y d->Q (.bool (gg x y)) s -> wpAny (model prog w) A (richCompare .Lt c d) Q E s
 |n,A,E,s,.int i,y,c,d,Q,hc,_,_,_,_,B,G,h=>by cases y <;> simp[cG]at hc;apply B.int_el;intro t;apply G.int_el;intro u;refine lt_int ?_;simpa[gg]using h
 |n,A,E,s,.str x,y,c,d,Q,hc,_,_,_,_,B,G,h=>by cases y <;> simp[cG]at hc;apply B.str_el;intro t;apply G.str_el;intro u;refine PySem.P.lt_str ?_;rw[show gg (.str x) (.str _)=_ from rfl]at h;simp only[gg]at h;simpa only[lR]using h
 |0,A,E,s,.tup xs,y,c,d,Q,hc,_,_,hd,_,B,G,h=>by exact(Re hd).elim
 |n+1,A,E,s,.tup xs,y,c,d,Q,hc,k1,k2,hd,hu,B,G,h=>by
  cases y with
  |tup ys =>
   apply B.tup_el;intro a cvs ha ra;apply G.tup_el;intro b dvs hb rb;obtain hT:=ha.typeIs (s:=s);obtain J:=hb.typeIs (s:=s);refine bR ha λo ho _ zq9=>?_;refine bM zq9 λk Y=>?_;refine bR hb λo' ad _ O=>?_;refine bM O λk' Z=>?_;refine wpAny_richCompare_same_room hT J F.slot_tuple_lt (G1 F.slot_tuple_lt hT F.entry_tuple_lt ?_ (F.args_tuple_lt_2 _ _)) (Rd hu);show wpAny _ _ (isInstance (.ref b) (.type "tuple") >>= _) _ _ s;refine p0 (wpAny_isInstance J isSubtype_tuple_tuple ?_);refine p0 (wpAny_tupleItemsOf ho Y ?_);refine p0 (wpAny_tupleItemsOf ad Z ?_);refine p0 ?_;have hA:A.in1.units=A.units+1:=rfl;refine v9 (n:=n) (m:=0) (Q:=λ_=>True) (λ{x y c d P} a1 a2 a3 a4 a5 a6 a7=>VR.lt n a1 a2 a3 a4 (Ea hA hu) a5 a6 a7) (Ea hA hu) ?_ hc k1 k2 (HS hd) ra rb (λb e=>?_) (λe=>?_)
   .rfl
   .subst e;refine u4 (aK _ rfl Value.noConfusion ?_);simpa[gg]using h
   .refine u4 (aK _ rfl (by simp[Builtin.Tuple.tupleCompareSizes]) ?_);obtain e1:=ra.length;obtain e2:=rb.length;rw[J2]at e1 e2;rw[show gg (.tup xs) (.tup ys)=ft xs ys from by simp[gg],e]at h;simpa[Builtin.Tuple.tupleCompareSizes,e1,e2]using h
  |_=>simp[cG]at hc
 |_,_,_,_,.none,y,_,_,_,hc,_,_,_,_,_,_,_=>by cases y <;> simp[cG]at hc
 |_,_,_,_,.bool _,y,_,_,_,hc,_,_,_,_,_,_,_=>by cases y <;> simp[cG]at hc
 |_,_,_,_,.ref _,y,_,_,_,hc,_,_,_,_,_,_,_=>by cases y <;> simp[cG]at hc
 |_,_,_,_,.scr,y,_,_,_,hc,_,_,_,_,_,_,_=>by cases y <;> simp[cG]at hc
end
section
variable{sa:SX}
def AM{A:Around}{y:V}{c d:Value}{P:b7}(b:Bool)(G:b=true->rF x=true)(hc:cG x y=true)(k1:aS x=true)(k2:aS y=true)(J:A.units+aB x<cLine)(B:VR sa s.heap x c)(F:VR sa s.heap y d) (h:P (gg x y) s):wpAny (model prog w) A (oneLt' b c d) P E s:=by
 rcases b with _|_
 .exact kat_one _ _ (VR.lt _ hc k1 k2 (z7 _) J B F h)
 .obtain hx:=G rfl;cases x with
  |int i =>cases y <;> simp[cG]at hc;apply B.int_el;intro t;apply F.int_el;intro u;exact oneLt_int (by simpa[gg]using h)
  |str x =>cases y <;> simp[cG]at hc;apply B.str_el;intro t;apply F.str_el;intro u;refine PyProof.Rows.oneLt_str ?_;simp only[gg]at h;simpa only[lR]using h
  |_=>exact ai hx
theorem wG{A:Around}{b B:Bool}{Q:b7}{n:Nat}(J:A.units+n<cLine):∀{xs ys:List V}{cs ds:List Value}(i:Nat),fw xs ys=true->bG xs=true->bG ys=true->bJ xs<=n->VRs sa s.heap xs cs->VRs sa s.heap ys ds -> ((b&&i==0)=true->∀x,xs.head?=some x->rF x=true)->B=decide (xs.length<ys.length)->Q (ft xs ys) s->KatLex prog w A b B Q (cs.zip ds) i s
 | [],ys,_,_,i,_,_,_,_,F,G,_,hf,h=>by rw[F.nil_inv,List.zip_nil_left];refine kat_nil ?_;rw[hf];cases ys <;> simpa[ft]using h
 |x::xs,[],_,_,i,_,_,_,_,F,G,_,hf,h=>by rw[G.nil_inv,List.zip_nil_right];refine kat_nil ?_;rw[hf];simpa[ft]using h
 |x::xs,y::ys,_,_,i,hc,k1,k2,hd,F,G,hb,hf,h=>by
  refine bN F.cons_inv λc cs eN Y Z=>?_;subst eN;refine bN G.cons_inv λd ds O b1 b2=>?_;subst O;unfold fw at hc;unfold bG at k1 k2;rw[G7]at hc k1 k2;rw[M8];refine kat_cons (VR.eqBool (bt _ k1.1) (bt _ k2.1) (DZ hd J) Y b1 ?_);rw[qR]at h;cases e:cr x y with
  |true =>simp only[e,if_true]at h;exact kat_yes (wG J (i+1) hc.2 k1.2 k2.2 (CH hd) Z b2 (λq=>by simp at q) (by rw[hf];simp) h)
  |false =>simp only[e,Bool.false_eq_true,if_false]at h;exact kat_no (AM _ (λq=>hb q x rfl) hc.1 k1.1 k2.1 (Iv hd J) Y b1 h)
theorem VRs.getD(r:VRs sa h vs cvs)(hi:i<vs.length):VR sa h (vs.getD i .none) (cvs.getD i .none):=by
 obtain e:vs[i]?=some (vs.getD i .none):=by rw[C1,E4 hi];rfl
 refine ah (r.get e) λc F G=>?_;obtain B:cvs.getD i .none=c:=by rw[C1,F];rfl
 rw[B];exact G
def ym{i:Int}{t:Tok}:Looks M h (typeOf (.int i t)) (.type "int"):=.now
def yn{x:Str}{t:Tok}:Looks M h (typeOf (.str x t)) (.type "str"):=.now
theorem yo{v:V}{c:Value}{xs:List V}(e:v=.tup xs)(r:VR sa h v c):Looks M h (typeOf c) (.type "tuple"):=by subst e;apply r.tup_el;intro a cvs B _;obtain⟨o,F,hc,_⟩:=B;exact show Looks M h (typeOf (.ref a)) (.type "tuple")from hc▸(Looks.ld F).andThen .now
noncomputable def vk:V->Nat
 | .int _=>1
 | .str _=>2
 | .tup _=>3
 |_=>0
def sq{y:V}(h:cG x y=true):vk x=vk y/\vk x≠0:=by cases x <;> cases y <;> simp_all [cG,vk]
noncomputable def GO:Nat->Value
 |1=>.type "int"
 |2=>.type "str"
 |_=>.type "tuple"
theorem tr{v:V}{c:Value}(r:VR sa h v c)(hk:vk v≠0):Looks M h (typeOf c) (GO (vk v)):=by
 cases v with
 |int i=>apply r.int_el;intro t;exact ym
 |str i=>apply r.str_el;intro t;exact yn
 |tup xs=>exact yo rfl r
 |_=>exact absurd rfl hk
def ut(k:Nat):(GO k==GO k)=true:=by unfold GO;split <;> decide
theorem qj:∀{vs:List V}{cvs:List Value},VRs sa h vs cvs->(∀x∈vs,vk x=3/\kO x=true)->∃ws G,ws.length=vs.length/\VRs sa h ws G/\KatTups h cvs G/\∀(i:Nat)(x:V),vs[i]?=some x->∃w r,ws[i]?=some w/\x=.tup (w::r)
 | [],_,r,_=>by rw[r.nil_inv];exact(jL ([]) ([]) rfl .nil .nil (λi x e=>by simp at e))
 |v::vs,_,r,hk=>by
  refine bN r.cons_inv λc cs B r1 r2=>?_;subst B;refine uA (qj r2 λx hx=>hk x (w9 _ hx)) λws G Q Y Z h4=>?_;refine cq (hk v y4) λk1 k2=>?_;cases v with
  |tup xs =>
   rcases xs with _|⟨x,xs⟩
   .simp[kO]at k2
   .apply r1.tup_el;intro a cvs F ra;obtain⟨o,ho,hc,n,hd⟩:=F;refine bN ra.cons_inv λf rest e f1 f2=>?_;refine(jL (x::ws) (f::G) (by simp[Q]) (.cons f1 Y) (KatTups.cons ho hc hd (by rw[<- A7,e];rfl) Z) (λi y e=>?_));rcases i with _|i
    .simp at e;subst e;exact(ey x xs rfl rfl)
    .simp at e;refine cF (h4 i y e) λw r J O=>?_;exact(ey w r J O)
  |_=>simp[vk]at k1
theorem yK{A:Around}(so:sortable vs)(h2:2<=vs.length)(hu:A.units+9<cLine)(r:VRs sa s.heap vs cvs){Q:SortKind->Shared->Prop} (h:∀κ,(∀(i j:Nat)(C:b7)(s':Shared),i<vs.length->j<vs.length->VRs sa s'.heap vs cvs->C (gg (vs.getD i .none) (vs.getD j .none)) s'->kas_ask prog w A κ cvs i j C s')->Q κ s) : wpAny (model prog w) A (keyKind' cvs.toArray) Q (λ_ _=>False) s:=by
 refine Dz so λs1 s2 s3 s4=>?_;obtain s3:∀x∈vs,kO x=true:=s3.elim (λe=>by exact(Iw h2 e).elim) id;have hl:=r.length;have h0:0<vs.length:=by exact Ix h2
 have m0:=bS h0;have G:∀x∈vs,vk x=vk (vs.getD 0 .none)/\vk x≠0:=λx hx=>sq (s4 x hx _ m0);have B:∀i j,i<vs.length->j<vs.length->cG (vs.getD i .none) (vs.getD j .none)=true/\aS (vs.getD i .none)=true/\aS (vs.getD j .none)=true/\aB (vs.getD i .none)<=8:=λi j hi F =>
  ⟨s4 _ (bS hi) _ (bS F),(s2 _ (bS hi)).1,(s2 _ (bS F)).1,(s2 _ (bS hi)).2⟩
 by_cases hk:vk (vs.getD 0 .none)=3
 .refine uA (qj r λx hx=>⟨(G x hx).1.trans hk,s3 x hx⟩) λws fs e1 e2 e3 e4=>?_;have key:∀i,i<vs.length->∃w r,ws[i]?=some w/\vs.getD i .none=.tup (w::r):=λi hi=>e4 i _ (by rw[C1,E4 hi];rfl);refine cF (key 0 h0) λw0 r0 a0 b0=>?_;have hw:∀i w,ws[i]?=some w->vk w=vk w0/\vk w≠0:=λi w e=>by
   have hi:i<vs.length:=by rw[<- e1];exact(z5.mp e).1
   refine cF (key i hi) λw' r' a1 b1=>?_;rw[e]at a1;obtain rfl:=w8 a1;obtain this:=(B i 0 hi h0).1;rw[b1,b0]at this;have this:=(G7 _ _).mp this;exact sq this.1
  have O:=e2.length;refine kat_kind (T:=GO (vk w0)) e3 (Iy e1 O h0) (λv hv=>?_) (ut _) (h _ λi j C s' hi F r' hC=>?_)
  .refine bM (C0.mp hv) λi hi=>?_;refine ah (e2.get' hi) λw hw1 hw2=>?_;obtain this:=hw i w hw1;rw[<- this.1];exact tr hw2 this.2
  .unfold kas_ask;refine Dz (B i j hi F) λY q2 q3 q4=>?_;refine cF (key i hi) λwi ri i1 i2=>?_;refine cF (key j F) λwj rj j1 j2=>?_;have Z:=r'.getD hi;obtain ad:=r'.getD F;have J:=hC;rw[i2]at Y q2 q4 Z J;rw[j2]at Y q3 ad J;refine bN Z.tup_inv λa xs ea ar ra=>?_;obtain⟨o,ho,hc,n,hd⟩:=ar;refine bN ad.tup_inv λb ys eb as rb=>?_;obtain⟨o',ho',hc',n',hd'⟩:=as;rw[ea,eb];obtain la:=ra.length;obtain lb:=rb.length;rw[J2]at la lb;refine kat_lt ho hd ho' hd' (wG (n:=8) (IA hu) 0 Y q2 q3 (IB q4) ra rb (λhb x hx=>?_) (by rw[la,lb]) (by simpa[gg]using J));simp at hx;subst hx;obtain this:=hw i _ i1;simp only[beq_self_eq_true,Bool.and_true]at hb;cases wi with
   |int _=>rfl
   |str _=>rfl
   |tup _ =>obtain t:vk w0=3:=this.1.symm;rw[t]at hb;simp[GO]at hb
   |_=>exact absurd rfl this.2
 .refine kas_kind (T:=GO (vk (vs.getD 0 .none))) (IC hl h2) (λv hv=>?_) ?_ (ut _) (h _ λi j C s' hi F r' hC=>?_)
  .obtain⟨i,hi⟩:=C0.mp hv;refine ah (r.get' hi) λx hx1 hx2=>?_;obtain this:=G x (z6 hx1);rw[<- this.1];exact tr hx2 this.2
  .have h1:=(G _ m0).2
   have:vk (vs.getD 0 .none)=1\/vk (vs.getD 0 .none)=2:=by generalize vs.getD 0 .none=z at *;cases z <;> simp_all [vk]
   rcases this with e|e
   .rw[e];decide
   .rw[e];decide
  .unfold kas_ask;refine Dz (B i j hi F) λY q2 q3 q4=>?_;rw[keyLt'_oneType];refine AM true (λ_=>?_) Y q2 q3 (ID q4 hu) (r'.getD hi) (r'.getD F) hC;obtain this:=G _ (bS hi);cases e:vs.getD i .none with
   |int _=>rfl
   |str _=>rfl
   |tup _=>rw[e]at this;exact absurd this.1.symm hk
   |_=>rw[e]at this;exact absurd rfl this.2
end
section
variable{H:AH}{A:Around}{d:Nat}{Q:b8}
theorem vT{P:PySem.Fin->Shared->Prop}{E:a9}{M:Model}{a:Addr}{n:Nat}(O:s.heap.get? a=some (cy cvs.toArray n))(F:cvs.length<2) (h:∀h' c,(∀b o,b≠a->s.heap.get? b=some o->h'.get? b=some o)->h'.get? a=some (cy cvs.toArray c)->P (.done (.ret .none)) { s with heap:=h' }) : wpAny M A (Builtin.«list.sort» ⟨[.ref a],[]⟩) P E s:=by
 obtain ha:a<s.heap.objs.size:=G9 O;obtain J:(100:Nat)<=sizeLine:=by rw[I9];exact AA
 rw[list_sort_plain];refine p0 (listItems_at O rfl ?_);refine p0 (listUpdate_at O rfl ?_ (by rw[SL];exact Eb J F) (E1 _));obtain⟨e1,ho1⟩:∃e1,(s.heap.update a (Obj.mapSeq λ_=>(#[]:Array Value))).get? a=some (seqObj "list" #[] e1):=⟨_,get?_update_seq O λ_=>#[]⟩;refine p0 (seqEpoch_at ho1 rfl ?_);refine p0 (wpAny_newTuple ?_ (Eb J F));refine p0 (wpAny_newList ?_ (E1 _));refine E6 ?_;obtain B:(((s.heap.update a (Obj.mapSeq λ_=>(#[]:Array Value))).push (seqObj "tuple" cvs.toArray 0)).push (seqObj "list" #[] 0)).get? a=some (seqObj "list" #[] e1):=y6 _ (y6 _ ho1);show wpAny M A _ P E { s with heap:=((s.heap.update a (Obj.mapSeq λ_=>(#[]:Array Value))).push (seqObj "tuple" cvs.toArray 0)).push (seqObj "list" #[] 0) };dsimp only;obtain G:cvs.toArray.size<2:=by rw[SL];exact F
 rw[if_pos G,if_pos G];refine p0 (u4 ?_);rw[StateT.run_pure];refine p0 (u4 ?_);dsimp only;have hm:(arrOf (SortSt.mk' general' (cvs.toArray.zip cvs.toArray) #[] 7 none)).map (·.2)=cvs.toArray:=by
  show(cvs.toArray.zip cvs.toArray).map (·.2)=cvs.toArray
  match cvs,F with
  | [],_=>simp
  | [c],_=>simp
  |_::_::_,h=>exact absurd h (by simp)
 rw[hm];refine p0 (seqEpoch_at B rfl ?_);obtain⟨Q,hc2⟩:∃Q,(((((s.heap.update a (Obj.mapSeq λ_=>(#[]:Array Value))).push (seqObj "tuple" cvs.toArray 0)).push (seqObj "list" #[] 0)).update a (Obj.mapSeq λ_=>cvs.toArray)).get? a=some (seqObj "list" cvs.toArray Q)):=⟨_,get?_update_seq B λ_=>cvs.toArray⟩;refine p0 (listUpdate_at B rfl ?_ (E1 _) (by rw[SL];exact IE F));simp only[bne_self_eq_false,Bool.false_eq_true,if_false];refine u4 (h _ Q (λb o Y e=>?_) hc2);exact(L7 _ _ (Tc Y)).trans (y6 _ (y6 _ ((L7 _ _ (Tc Y)).trans e)))
def ux(h:vs.length<2):aH vs=vs:=by
 match vs,h with
 | [],_=>rfl
 | [v],_=>simp[aH,ur]
 |_::_::_,h=>exact absurd h (by simp)
theorem uf(F:ae L env loc H s.heap)(R:aD L H s.heap)(hu:A.units+20<cLine)(r:VRs L.sa s.heap vs cvs)(so:sortable vs)(q:fresh H Q (.list (aH vs))){P:PySem.Fin->Shared->Prop} (hP:∀v s',EPost L env H s Q v s'->P (.done (.ret v)) s') : a8 L A (do let l <- newList cvs;let _ <- holding [l] (call (.builtin "list.sort") [l]);ret l) P aG s:=by
 have hl:=r.length;have J:=so.1;obtain hsl:(100:Nat)<=sizeLine:=by rw[I9];exact AA
 refine p0 (wpAny_newList ?_ (IF hl J hsl));obtain B:(s.heap.push (cy cvs.toArray 0)).get? s.heap.objs.size=some (cy cvs.toArray 0):=A9 _ rfl;obtain hn:s.heap.get? s.heap.objs.size=none:=B8 (z7 _);refine cq (R.free hn) λfH fb=>?_;refine ah (F.fr R) λm hm Fr'=>?_;obtain O:env.locals<s.heap.objs.size:=by refine mx hm λo _ _ e _=>?_;exact G9 e
 have k0:∀b o,s.heap.get? b=some o->(s.heap.push (cy cvs.toArray 0)).get? b=some o:=λb o e=>y6 _ e;refine p0 (E6 ?_);by_cases G:cvs.length<2
 .refine G1 slot_list_sort (af _ B rfl) entry_list_sort (vT (s:={ s with heap:=s.heap.push (cy cvs.toArray 0) }) B G λh' c k ho'=>?_) (args_list_sort _);obtain kk:∀b o,s.heap.get? b=some o->h'.get? b=some o:=λb o e=>k b o (E9 (G9 e)) (k0 b o e);refine(af _ rfl (u4 (hP _ _ ?_)));refine cq (r6 (own:=eE) (s':={ s with heap:=h' }) R rfl rfl hn kk ho' (x:=.list (aH vs)) (ey _ c rfl (by rw[ux (IG hl G)];exact r.keep (p7 kk)))) λS hH=>?_;exact(bF _ _ (q _ hH) (q7 _) (S.toE F.lH))
 .obtain N2:News L.base env.locals (s.heap.push (cy cvs.toArray 0)) ((s.heap.objs.size,listOf cvs.toArray 0)::cI L.base env.locals s.heap):=λp hp=>by
   rcases A4.mp hp with rfl|hp
   .exact(cO B (SN O) fb)
   .exact(bw.grown k0) p hp
  refine kat_lsort (s:={ s with heap:=s.heap.push (cy cvs.toArray 0) }) (vs:=cvs) (Fr'.kept k0) N2 (.head λp hp=>E9 (G9 (bw p hp).1)) (by rfl) (II G) (IJ hl J) λe1 h' F' N'=>?_;obtain S1:=r9 F R hm (tk:=s.toks) F' N' λp hp=>.tail _ hp;have r':=r.keep S1.st.tup;refine yK (s:={ s with heap:=h' }) so (IK hl G) (IL hu) r' λκ Y=>?_;rw[hl];refine Ask.wp (r:=oY vs) (n:=vs.length) (I:=λs'=>s'={ s with heap:=h' }) (λi j C s' hi Z hI hC=>?_) (zi (r:=oY vs) (n:=vs.length) (IM hl G)) rfl (λp s' hp hI=>?_)
  .subst hI;refine Y i j C _ hi Z r' ?_;rw[<- uw so.2.2.2 hi Z];exact hC _ rfl
  .subst hI;refine KasFin.intro F' N' (.head λp hp=>E9 (G9 (bw p hp).1)) λh3 c F3 N3=>?_;refine u4 (hP _ _ ?_);have hsv:=uj so.2.2.2 hp;obtain S3:=r9 F R hm (tk:=s.toks) F3 N3 λp hp=>.tail _ hp;have r3:VRs L.sa h3 (aH vs) (p.toList.map λi=>cvs.getD i .none):=by
    rw[<- hsv];have r3:=r.keep S3.st.tup
    have:∀(l:List Nat),(∀i∈l,i<vs.length)->VRs L.sa h3 (l.map λi=>vs.getD i .none) (l.map λi=>cvs.getD i .none):=by
     intro l;induction l with
     |nil=>intro _;exact .nil
     |cons i l ih=>intro h;exact .cons (r3.getD (h i y4)) (ih λj Z=>h j (w9 _ Z))
    refine this _ λi hi=>?_;exact E3.mp (hp.1.perm.mem_iff.mp hi)
   refine cq (s0 F R hm (tk:=s.toks) F3 N3 (λp hp=>.tail _ hp) (.head _) hn (x:=.list (aH vs)) (ey _ c rfl r3)) λS hH=>?_;exact(bF _ _ (q _ hH) (q7 _) S)
end
section
variable{es:Array DictEntry}
structure Ex(s s':Shared):Prop where
 gens:s'.gens=s.gens
 os:s'.os=s.os
 heap:∀b o,s.heap.get? b=some o->s'.heap.get? b=some o
def Ex.refl(s:Shared):Ex s s:=⟨rfl,rfl,λ_ _ e=>e⟩
theorem Ex.trans{s'':Shared}(a:Ex s s')(b:Ex s' s''):Ex s s'':=⟨b.gens.trans a.gens,b.os.trans a.os,λx o e=>b.heap x o (a.heap x o e)⟩
theorem Ex.push(s:Shared)(o:Obj)(t:Nat):Ex s { s with heap:=s.heap.push o,toks:=t }:=⟨rfl,rfl,λb o e=>y6 _ e⟩
section
variable{A:Around}
theorem ly{T:String}{r:Addr}{n:Nat}{G:(Nat->Value->Prop)->Prop}{R:List Value->Shared->Prop}(hr:r<s.heap.objs.size)(hT:s.TypeIs (.ref r) T)(nl:(Value.type T==Value.type "list")=false)(nt:(Value.type T==Value.type "tuple")=false) (hint:∀(E:a9)(s':Shared)(Q:b7),s'.TypeIs (.ref r) T->Q false s'->wpAny (model prog w) A.in1 (Builtin.List.listLengthHint (.ref r)) Q E s') (hn:n<=sizeLine) (iter:∀(E:a9)(ac:Shared)(Q:a9),Ex s ac->(∀I fp St ch P,G P->Walks prog w A.in1 I fp [I] n P St->St 0 ch.heap->ac.heap.get? I=none->(∀b∈fp,b=I\/s.heap.get? b≠none\/ac.heap.get? b=none)->Ex ac ch->Q (.ref I) ch)->wpAny (model prog w) A.in1 (pyIter (.ref r)) Q E ac) (h:∀s' acc P,G P->Ex s s'->ItemsOf P acc n->R acc.toList s'):wpAny (model prog w) A (collect (.ref r)) R E s:=by
 refine p0 (wpAny_runValue (Si PySem.F.entry_proto_collect ?_));rw[P5 PySem.F.plain_proto_collect _];refine p0 (M7 ?_);refine u4 ⟨plainId_quiet PySem.F.plain_list_iadd _,Si PySem.F.entry_list_iadd ?_⟩;rw[P5 PySem.F.plain_list_iadd _];obtain Z:(s.heap.push { cls:=.type "list",data:=.seq ([]:List Value).toArray }).get? s.heap.objs.size=some { cls:=.type "list",data:=.seq #[] }:=A9 _ rfl;obtain x1:Ex s { s with heap:=s.heap.push { cls:=.type "list",data:=.seq ([]:List Value).toArray } }:=Ex.push s _ s.toks;show wpAny _ A.in1 (Builtin.List.listExtendWith (.ref s.heap.objs.size) (.ref r) (.ref s.heap.objs.size)) _ _ _;refine p0 (wpAny_typeOf (T:=T) (by refine ah hT λo ho hc=>?_;exact(af o (x1.heap _ _ ho) hc)) ?_);obtain h1:Builtin.List.listSameRef (.ref s.heap.objs.size) (.ref r)=false:=by simp[Builtin.List.listSameRef,Nat.ne_of_gt hr]
 simp only[h1,nl,nt,Bool.or_false,Bool.false_eq_true,if_false];refine p0 (iter _ _ _ x1 λI fp St ch P hG W st hI hfp x2=>?_);obtain ad:=x2.heap _ _ Z;obtain hSI:s.heap.objs.size≠I:=λe=>by rw[<- e]at hI;rw[Z]at hI;exact sn hI
 have hSf:s.heap.objs.size∉fp:=λhm=>by
  rcases hfp _ hm with e|e|e
  .exact hSI e
  .exact e (B8 (z7 _))
  .rw[Z]at e;exact sn e
 refine p0 (E6 (hint _ _ _ (by refine ah hT λo ho hc=>?_;exact(af o (x2.heap _ _ (x1.heap _ _ ho)) hc)) ?_));obtain key:∀(J:Shared)(ar:Nat),J.gens=ch.gens->J.os=ch.os->St 0 J.heap->(∀b o,b≠s.heap.objs.size->ch.heap.get? b=some o->J.heap.get? b=some o)->J.heap.get? s.heap.objs.size=some { cls:=.type "list",data:=.seq #[] ar } ->
   codeAny (model prog w) A (.builtin "list.extend.loop" ⟨[.ref s.heap.objs.size,.ref I,.ref s.heap.objs.size],[]⟩) (λq s'=>∃acc c',q=.ok (.ret (.ref s.heap.objs.size))/\Ex s s'/\s'.heap.get? s.heap.objs.size=some { cls:=.type "list",data:=.seq acc c' }/\ItemsOf P acc n) J:=by
  intro J ar eg eo hst hk O;refine codeAny_extend_loopS W.toS hn s.heap.objs.size hSf _ n 0 _ #[] ar rfl (E1 _) hst O (ItemsOf.nil _) λs' acc' c' hm Y B=>?_;refine(jL acc' c' rfl ⟨?_,?_,λb o e=>?_⟩ Y B)
  .rw[hm.gens,eg,x2.gens]
  .rw[hm.os,eo,x2.os]
  .have hb:b≠s.heap.objs.size:=E9 (G9 e);refine hm.heap b o (λas=>?_) (hk b o hb (x2.heap _ _ (x1.heap _ _ e)));rcases A4.mp as with e'|as
   .exact hb e'
   .obtain e2:=x1.heap _ _ e;rw[u5.mp as,hI]at e2;exact ns e2
 obtain fin:∀{q:Result}{s':Shared},(∃acc c',q=.ok (.ret (.ref s.heap.objs.size))/\Ex s s'/\s'.heap.get? s.heap.objs.size=some { cls:=.type "list",data:=.seq acc c' }/\ItemsOf P acc n)->match q with
   | .ok (.ret v)=>wpAny (model prog w) A (match v with | .ref a=>(do match(<- load a).data with | .seq xs _=>pure xs.toList|_=>unsupported "internal:collect")|_=>unsupported "internal:collect") R E s'
   |_=>False:=by
  rintro q s' ⟨acc,c',rfl,x,Y,B⟩;show wpAny _ A (load s.heap.objs.size >>= _) _ _ s';refine p0 (wpAny_load Y ?_);exact u4 (h s' acc P hG x B)
 refine J4 (λ_=>?_) (λ_=>u4 ⟨plainId_quiet PySem.F.plain_extend_loop _,SP (key _ _ rfl rfl st (λb o _ e=>e) ad) λq s' y=>?_⟩)
 .refine p0 (R4 ?_);refine p0 ?_;refine p0 (wpAny_updateSeq ad rfl ?_);obtain O:=E5 (Obj.mapSeq (·.push Value.none)) ad rfl;refine wpAny_updateSeq (hz:=by seq_fits) O rfl ?_;obtain nc:=E5 (Obj.mapSeq (·.pop)) O rfl;refine u4 ⟨plainId_quiet PySem.F.plain_extend_loop _,SP (key _ _ ?_ ?_ ?_ (λb o hb e=>?_) nc) λq s' y=>?_⟩
  .rfl
  .rfl
  .refine W.frame 0 _ _ st λb hb o e=>?_;obtain hbS:b≠s.heap.objs.size:=λh=>hSf (h▸hb);exact(L7 _ _ (Tc hbS)).trans ((L7 _ _ (Tc hbS)).trans e)
  .exact(L7 _ _ (Tc hb)).trans ((L7 _ _ (Tc hb)).trans e)
  .refine uA y λacc c' aX x Y B=>?_;subst aX;show wpAny _ A (load s.heap.objs.size >>= _) _ _ s';refine p0 (wpAny_load Y ?_);exact u4 (h s' acc P hG x B)
 .refine uA y λacc c' bV x Y B=>?_;subst bV;show wpAny _ A (load s.heap.objs.size >>= _) _ _ s';refine p0 (wpAny_load Y ?_);exact u4 (h s' acc P hG x B)
def vF{d:Addr}{Q:a9}(hd:(d==sysModules)=false)(B:s.heap.get? d=some (bg es ep)) (G:Q (.ref s.heap.objs.size) { s with heap:=s.heap.push { cls:=.type "dict_keyiterator",data:=.fields #[.ref d,.int 0 0,.int es.size 0,.int ep 0] } }) : wpAny (model prog w) A (pyIter (.ref d)) Q E s:=by obtain hT:s.TypeIs (.ref d) "dict":=(af _ B rfl);refine wpAny_pyIter_slot hT PySem.F.slot_dict_iter (G1 PySem.F.slot_dict_iter hT PySem.F.entry_dict_iter ?_ (PySem.F.args_dict_iter_1 _));refine p0 ?_;refine p0 (Sz hT ?_);show wpAny _ _ (pure (Value.ref d)) _ _ s;refine u4 ?_;show wpAny _ _ (Builtin.Dict.showsAll d >>= _) _ _ s;unfold Builtin.Dict.showsAll;rw[if_neg (by rw[hd];exact C7)];refine p0 (u4 ?_);refine p0 (SQ B rfl ?_);refine p0 (wpAny_dictEpoch B rfl ?_);refine p0 (M7 (u4 (af _ rfl (bF ("dict_keyiterator") _ (af _ (A9 _ rfl) rfl) PySem.F.slot_dict_keyiterator_next.lookup ?_))));simpa[rawInt]using G
theorem mu{d:Addr}{e:DictEntry}{Q:Option Value->Shared->Prop}(hit:s.heap.IsKeyIter it d i es.size ep)(G:s.heap.get? d=some (bg es ep))(hx:es[i]?=some e) (Y:∀h',h'.IsKeyIter it d (i+1) es.size ep->Heap.SameBut it s.heap h'->Q (some e.key) { s with heap:=h' }) : wpAny (model prog w) A (pyNext (.ref it)) Q E s:=by
 refine bR (id hit) λo O hc hd=>?_;refine p0 (wpAny_attempt (J7 (name:=Str.ofString "__next__") hit.typeIs P4
  (G1 P4 hit.typeIs PySem.F.entry_dict_keyiterator_next ?_ (PySem.F.args_dict_keyiterator_next_1 _))))
 refine p0 (u4 ?_);refine p0 ?_;refine p0 ?_;refine p0 (Sb hit.typeIs (u4 ?_));refine p0 (wpAny_fieldsOf O hd ?_);obtain J:Builtin.Dict_items.ownsTuple "dict_keyiterator"=false:=by decide
 rw[if_neg (by rw[J];exact C7)];show wpAny _ _ (if(Value.ref d==Value.none)=true then _ else _) _ _ s;rw[if_neg (show ¬((Value.ref d==Value.none)=true)from C7)];refine p0 (u4 ?_);refine p0 (SQ G rfl ?_);rw[if_neg (by simp)];refine p0 (u4 ?_);refine p0 (wpAny_dictEpoch G rfl ?_);rw[if_neg (by simp)];refine u4 ?_;dsimp only;rw[if_neg (show ¬((i:Int)<0)from by exact CM),N5,hx];refine p0 ?_;refine p0 (Sb hit.typeIs (u4 ?_));refine p0 (wpAny_isOneOf_keyiter hit.typeIs ?_);show wpAny _ _ (setField (.ref it) 1 (rawInt ((i:Int)+1)) >>= _) _ _ s;refine p0 (R7 O hd (by simp) ?_);obtain B:(s.heap.update it (Obj.mapFields (·.setIfInBounds 1 (rawInt ((i:Int)+1))))).IsKeyIter it d (i+1) es.size ep :=(aK _ (E5 _ O (RW (K1 hd _))) ((Obj.cls_mapFields ..).trans hc) (by rw[K1 hd];simp[rawInt]))
 refine p0 (E6 ?_);refine p0 (wpAny_isOneOf_keyiter (s:={ s with heap:=s.heap.update it (Obj.mapFields (·.setIfInBounds 1 (rawInt ((i:Int)+1)))) }) B.typeIs ?_);exact u4 (u4 (af _ rfl (u4 (Y _ B (G0 ..)))))
theorem oz{d:Addr}{Q:Option Value->Shared->Prop}(hh:A.handled=none)(hit:s.heap.IsKeyIter it d i es.size ep)(B:s.heap.get? d=some (bg es ep))(hx:es[i]?=none) (O:∀h',Heap.ExtBut it s.heap h'->Q none { s with heap:=h' }):wpAny (model prog w) A (pyNext (.ref it)) Q E s:=by
 refine bR (id hit) λo J hc hd=>?_;refine p0 (wpAny_attempt (J7 (name:=Str.ofString "__next__") hit.typeIs P4
  (G1 P4 hit.typeIs PySem.F.entry_dict_keyiterator_next ?_ (PySem.F.args_dict_keyiterator_next_1 _))))
 refine p0 (u4 ?_);refine p0 ?_;refine p0 ?_;refine p0 (Sb hit.typeIs (u4 ?_));refine p0 (wpAny_fieldsOf J hd ?_);obtain G:Builtin.Dict_items.ownsTuple "dict_keyiterator"=false:=by decide
 rw[if_neg (by rw[G];exact C7)];show wpAny _ _ (if(Value.ref d==Value.none)=true then _ else _) _ _ s;rw[if_neg (show ¬((Value.ref d==Value.none)=true)from C7)];refine p0 (u4 ?_);refine p0 (SQ B rfl ?_);rw[if_neg (by simp)];refine p0 (u4 ?_);refine p0 (wpAny_dictEpoch B rfl ?_);rw[if_neg (by simp)];refine u4 ?_;dsimp only;rw[if_neg (show ¬((i:Int)<0)from by exact CM),N5,hx];refine p0 ?_;refine p0 (Sb hit.typeIs (u4 ?_));show wpAny _ _ (setField (.ref it) 0 .none >>= _) _ _ s;refine p0 (R7 J hd (by simp) ?_);show wpAny _ _ (newExc (.type "StopIteration") [] >>= _) _ _ _;refine p0 ?_;refine p0 (M7 ?_ (by size_fits));refine p0 (m:=firstArgMember _ _) (wpAny_of_eq (a:=Value.none) (by first|rfl|(simp only[firstArgMember];rfl)) ?_);refine M7 ?_ (by size_fits);dsimp only[raiseNew];refine p0 (wpAny_handled ?_);rw[show A.in1.handled=none from hh];refine p0 (u4 (wpAny_throw ?_));refine p0 (wpAny_isInstance (T:="StopIteration") (b:=true) (af _ (A9 _ rfl) rfl) isSubtype_stop ?_);exact u4 (O _ (((G0 ..).extBut.push _).push _))
theorem yR(hh:A.handled=none)(I d:Addr)(Y:d≠I)(es:Array DictEntry)(ep:Nat) : Walks prog w A I [I,d] [I] es.size (λi v=>∃e,es[i]?=some e/\v=e.key) (λi h=>h.IsKeyIter I d i es.size ep/\h.get? d=some (bg es ep)) where
 sub:=λb B=>by simp at B;simp[B]
 frame:=λ_ _ _ st hk=>⟨st.1.at λo e=>hk I (y4) o e,hk d (by simp) _ st.2⟩
 item:=λi s Q E hi st F=>by
  have hx:es[i]?=some es[i]:=by simp[hi]
  refine mu st.1 st.2 hx λh' G J=>?_;exact F _ h' s.toks (af _ hx rfl) ⟨G,(J.2 d Y).trans st.2⟩ λb o B e=>J.extBut b o (λh=>B (by simp[h])) e
 done:=λs Q E st F=>oz hh st.1 st.2 (by simp) λh' O=>F h' s.toks λb o B e=>O b o (λh=>B (by simp[h])) e
 self:=λ_ _ _ _ st F=>wpAny_pyIter_keyiter st.1 F
theorem sN{d:Addr}{R:List Value->Shared->Prop}(hh:A.handled=none)(hd:(d==sysModules)=false)(F:s.heap.get? d=some (bg es ep))(Z:es.size<=sizeLine)(h:∀s',Ex s s'->R (es.toList.map (·.key)) s') : wpAny (model prog w) A (collect (.ref d)) R E s:=by
 refine ly (T:="dict") (n:=es.size) (G:=λP=>P=λi v=>∃e,es[i]?=some e/\v=e.key) (G9 F) (af _ F rfl) (by decide) (by decide) (λ_ _ _ hT q=>kdl_hint_dict hT q) Z (λE ac Q x1 Y=>?_) λs' acc P O x B=>?_
 .have ho1:=x1.heap _ _ F;refine vF hd ho1 (Y _ [ac.heap.objs.size,d] _ _ _ rfl (yR (A:=A.in1) hh _ d (E9 (G9 ho1)) es ep) ⟨(aK _ (A9 _ rfl) rfl rfl),y6 _ ho1⟩ (B8 (z7 _)) (λb J=>?_) (Ex.push _ _ _));rcases A4.mp J with e|J
  .exact .inl e
  .rw[u5.mp J];exact .inr (.inl (by rw[F];simp))
 .subst O
  have:acc.toList=es.toList.map (·.key):=by
   apply Sc;intro j;rw[B6,A7,A7];rcases e:acc[j]? with _|v
   .obtain this:es.size<=j:=by rw[<- B.1];simpa using e
    simp[this]
   .refine ah (B.2 j v e) λen e1 da=>?_;subst da;rw[e1];rfl
  rw[this];exact h s' x
end
end
theorem cL:∀(k:Nat)(l:List Nat),l.Nodup->(∀x∈l,x<k)->l.length<=k
 |0,l,_,h=>by
  rcases l with _|⟨x,l⟩
  .exact z7 _
  .exact absurd (h x y4) (J3 _)
 |k+1,l,nd,h=>by
  by_cases hk:k∈l
  .obtain B:=cL k (l.erase k) (nd.erase k) λx hx=>by obtain F:=(List.Nodup.mem_erase_iff nd).mp hx;obtain B:=h x F.2;obtain B:=F.1;exact Ec (by assumption) F.1
   rw[List.length_erase_of_mem hk]at B;exact IN B
  .obtain B:=cL k l nd λx hx=>by obtain B:=h x hx;obtain B:x≠k:=λe=>hk (e▸hx);exact Ec (by assumption) B
   exact Ed B
abbrev Rise(xs:Array Nat):Prop:=xs.toList.Pairwise (· < ·)
theorem Rise.lt(r:Rise xs){x y:Nat}(hi:xs[i]?=some x)(F:xs[j]?=some y)(h:i<j):x<y:=by rw[<- A7]at hi F;obtain⟨a,G⟩:=z5.mp hi;obtain⟨b,J⟩:=z5.mp F;obtain B:=List.pairwise_iff_getElem.mp r i j a b h;rw[G,J]at B;exact B
theorem mY(r:Rise xs)(j:Nat):∀(f lo hi:Nat),lo<=hi->hi<=xs.size->hi-lo<=f->(∀i x,i<lo->xs[i]?=some x->x<j)->(∀i x,hi<=i->xs[i]?=some x->j<=x) -> SetTable.below.go xs j f lo hi<=xs.size/\(∀i x,i<SetTable.below.go xs j f lo hi->xs[i]?=some x->x<j)/\(∀i x,SetTable.below.go xs j f lo hi<=i->xs[i]?=some x->j<=x)
 |0,lo,hi,h1,G,O,Q,Y=>by delta SetTable.below.go;exact⟨by exact Ee h1 G,Q,λi x h=>Y i x (IO O h)⟩
 |f+1,lo,hi,h1,G,O,Q,Y=>by
  have e:SetTable.below.go xs j (f+1) lo hi=if lo<hi then _ else _:=rfl
  rw[e];by_cases B:lo<hi
  .rw[if_pos B];have hm:(lo+hi)/2<xs.size:=by exact IP G B
   have Z:xs[(lo+hi)/2]?=some xs[(lo+hi)/2]:=by simp[hm]
   have hd:xs.getD ((lo+hi)/2) j=xs[(lo+hi)/2]:=by simp[Array.getD,hm]
   simp only[hd];split
   .rename_i hc;refine mY r j f _ hi (IQ B) G (IR O) (λi x F hx=>?_) Y;by_cases e:i=(lo+hi)/2
    .subst e;rw[Z]at hx;obtain rfl:=w8 hx;exact hc
    .exact C6 (r.lt hx Z (IS F e)) hc
   .rename_i hc;refine mY r j f lo _ (IT B) (IU hm) (IV O) Q λi x F hx=>?_;by_cases e:i=(lo+hi)/2
    .subst e;rw[Z]at hx;obtain rfl:=w8 hx;exact Ef hc
    .obtain J:=r.lt Z hx (IW F e);exact IX J hc
  .rw[if_neg B];exact⟨by exact Ee h1 G,Q,λi x h=>Y i x (IY h B)⟩
theorem di(r:Rise xs)(j:Nat):SetTable.below xs j<=xs.size/\(∀i x,i<SetTable.below xs j->xs[i]?=some x->x<j)/\(∀i x,SetTable.below xs j<=i->xs[i]?=some x->j<=x) :=
 mY r j xs.size 0 xs.size (E1 _) (z7 _) IZ (λi x h=>absurd h (J3 _)) λi x h e=>by
  have:xs.size<=i:=h
  simp[Array.getElem?_eq_none this]at e
theorem mX(r:Rise xs)(h:xs[i]?=some j):SetTable.below xs j=i:=by
 refine jb (di r j) λb1 b2 G=>?_;rcases Nat.lt_trichotomy (SetTable.below xs j) i with q|q|q
 .have J:SetTable.below xs j<xs.size:=by obtain B:=(K5.mp h).1;exact FU q B
  obtain F:xs[SetTable.below xs j]?=some xs[SetTable.below xs j]:=by simp[J]
  obtain B:=r.lt F h q;obtain B:=G _ _ (z7 _) F;exact(Ja B (by assumption)).elim
 .exact q
 .obtain B:=b2 i j q h;exact(AB B).elim
theorem uM(r:Rise xs)(h:xs[i]?=some j):SetTable.below xs (j+1)=i+1:=by
 refine jb (di r (j+1)) λb1 b2 G=>?_;obtain hi:=(K5.mp h).1;rcases Nat.lt_trichotomy (SetTable.below xs (j+1)) (i+1)with q|q|q
 .obtain B:=G i j (wV q) h;exact(Jb B).elim
 .exact q
 .obtain F:xs[i+1]?=some xs[i+1]:=by simp
  obtain J:=r.lt h F Eg;obtain O:=b2 _ _ q F;exact(Jc O J).elim
theorem uN(r:Rise xs):SetTable.below xs 0=0:=by
 refine jb (di r 0) λb1 b2 G=>?_;rcases Nat.eq_zero_or_pos (SetTable.below xs 0)with q|q
 .exact q
 .obtain F:xs[0]?=some xs[0]:=by simp
  obtain B:=b2 0 _ q F;exact(Eh B).elim
abbrev lj(xs:Array Nat)(j:Nat):Prop:=j∈xs.toList
theorem qI{t:SetTable}(r:Rise t.place)(h:t.place[i]?=some j):t.slot j=.live i:=by unfold SetTable.slot;simp only[mX r h,h,beq_self_eq_true,if_true]
theorem vR{t:SetTable}(r:Rise t.place)(hd:t.dummies=#[])(h:¬lj t.place j):t.slot j=.empty:=by
 unfold SetTable.slot
 have:(t.place[SetTable.below t.place j]?==some j)=false:=by rw[Sl];intro e;rw[<- A7]at e;exact h (z6 e)
 simp only[this,Bool.false_eq_true,if_false,hd];simp[SetTable.has]
def FR(h:lj xs j):∃i:Nat,xs[i]?=some j:=by refine bM (C0.mp h) λi hi=>?_;exact⟨i,by rw[<- A7];exact hi⟩
def cB(xs:Array α)(p:Nat)(x:α):(SetTable.insertAt xs p x).toList=xs.toList.take p++x::xs.toList.drop p:=by
 unfold SetTable.insertAt;obtain B:xs.toList.length-p<=(xs.toList.drop p).length:=by simp
 simp only[Array.toList_append,Array.toList_push,Array.toList_extract,List.extract_eq_take_drop,Nat.sub_zero,List.drop_zero,List.append_assoc,List.singleton_append];rw[List.take_of_length_le (l:=xs.toList.drop p) (by simp)]
theorem tR(r:Rise xs)(h:¬lj xs j):Rise (SetTable.insertAt xs (SetTable.below xs j) j):=by
 refine jb (di r j) λb1 b2 Q=>?_;unfold Rise;rw[cB,List.pairwise_append];have F:∀a∈xs.toList.take (SetTable.below xs j),a<j:=λa ha=>by
  obtain⟨i,hi⟩:=C0.mp ha;rw[List.getElem?_take]at hi;split at hi
  .rename_i O;exact b2 i a O (by rw[<- A7];exact hi)
  .exact ns hi
 have G:∀a∈xs.toList.drop (SetTable.below xs j),j<a:=λa ha=>by obtain hm:lj xs a:=List.mem_of_mem_drop ha;obtain⟨i,hi⟩:=C0.mp ha;rw[P3]at hi;obtain B:=Q _ a (G8 _ i) (by rw[<- A7];exact hi);obtain B:j≠a:=λe=>h (e▸hm);exact Je (by assumption) B
 refine⟨r.sublist (List.take_sublist _ _),RZ.mpr ⟨λa ha=>G a ha,r.sublist (List.drop_sublist _ _)⟩,λa ha b J=>?_⟩;rcases A4.mp J with e|J
 .rw[e];exact F a ha
 .exact C6 (F a ha) (G b J)
def oa{p:Nat}:lj (SetTable.insertAt xs p j) k↔k=j\/lj xs k:=by
 unfold lj;rw[cB];constructor
 .intro h;rcases C2.mp h with h|h
  .exact .inr (List.mem_of_mem_take h)
  .rcases A4.mp h with h|h
   .exact .inl h
   .exact .inr (List.mem_of_mem_drop h)
 .intro h;rcases h with h|h
  .subst h;simp
  .rw[<- Q9 p xs.toList]at h;rcases C2.mp h with h|h
   .exact E0 _ h
   .exact C9 _ (w9 _ h)
noncomputable def wn(m:Nat)(p:SetTable.Probe):SetTable.Probe :=
 if p.more>0 then{ p with j:=p.j+1,more:=p.more-1 }else
 let(i,perturb):=SetTable.leap m p.i p.perturb
 { p with j:=i,more:=SetTable.runEnd m i-i,i,perturb }
noncomputable def jo(m:Nat):Nat->SetTable.Probe->SetTable.Probe
 |0,p=>p
 |n+1,p=>jo m n (wn m p)
theorem fF(m:Nat):∀(a b:Nat)(p:SetTable.Probe),jo m (a+b) p=jo m b (jo m a p)
 |0,b,p=>by rw[Q4];rfl
 |a+1,b,p=>by rw[show a+1+b=(a+b)+1 by exact AC];exact fF m a b (wn m p)
def pP(m:Nat)(p:SetTable.Probe):(wn m p).dummy=p.dummy:=by unfold wn;split <;> rfl
theorem qK(m:Nat):∀(n:Nat)(p:SetTable.Probe),(jo m n p).dummy=p.dummy
 |0,_=>rfl
 |n+1,p=>(qK m n (wn m p)).trans (pP m p)
noncomputable def dL(m i B:Nat):SetTable.Probe:={ j:=i,more:=SetTable.runEnd m i-i,i,perturb:=B,dummy:=none }
def jn(t:SetTable)(h:Int):t.probeStart h=dL t.mask (SetTable.bits h%(t.mask+1)) (SetTable.bits h):=rfl
noncomputable abbrev cV(m:Nat)(h:Int):SetTable.Probe:=dL m (SetTable.bits h%(m+1)) (SetTable.bits h)
theorem mJ(m:Nat):∀(k:Nat)(p:SetTable.Probe),k<=p.more->jo m k p={ p with j:=p.j+k,more:=p.more-k }
 |0,p,_=>rfl
 |k+1,p,h=>by
  show jo m k (wn m p)=_;obtain e:wn m p={ p with j:=p.j+1,more:=p.more-1 }:=by unfold wn;rw[if_pos (Jf h)]
  rw[e,mJ m k _ (Jg h)];congr 1
  .exact Ei
  .exact Jh
def oN(m i B:Nat):jo m (SetTable.runEnd m i-i+1) (dL m i B)=dL m (SetTable.leap m i B).1 (SetTable.leap m i B).2:=by rw[fF m _ 1,mJ m (SetTable.runEnd m i-i) (dL m i B) (z7 _)];show wn m _=_;unfold wn;rw[if_neg (by show ¬(SetTable.runEnd m i-i-(SetTable.runEnd m i-i)>0);exact Ji)];rfl
def iV(m i:Nat):SetTable.runEnd m i-i<=9/\(i<=m->SetTable.runEnd m i<=m)/\i<=SetTable.runEnd m i:=by unfold SetTable.runEnd;split <;>(first|exact Jj (by assumption)|exact Jk)
noncomputable def cp(m:Nat):Nat->Nat×Nat->Nat×Nat
 |0,x=>x
 |n+1,x=>cp m n (SetTable.leap m x.1 x.2)
theorem fY(m:Nat):∀(a b:Nat)(p:Nat×Nat),cp m (a+b) p=cp m b (cp m a p)
 |0,b,p=>by rw[Q4];rfl
 |a+1,b,p=>by rw[show a+1+b=(a+b)+1 by exact AC];exact fY m a b _
theorem qM(m:Nat):∀(Γ i B:Nat),∃n,n<=10*Γ/\jo m n (dL m i B)=dL m (cp m Γ (i,B)).1 (cp m Γ (i,B)).2
 |0,i,B=>⟨0,z7 _,rfl⟩
 |Γ+1,i,B=>by
  refine ah (qM m Γ (SetTable.leap m i B).1 (SetTable.leap m i B).2) λn G J=>?_;refine(af (SetTable.runEnd m i-i+1+n) ?_ ?_)
  .obtain F:=(iV m i).1;exact Jm F G
  .rw[fF,oN,J];rfl
theorem fN(m:Nat):∀(Γ:Nat)(x:Nat×Nat),(cp m Γ x).2=x.2/32^Γ
 |0,x=>by simp[cp]
 |Γ+1,x=>by show(cp m Γ _).2=_;rw[fN m Γ];show x.2/32/32^Γ=_;rw[Nat.div_div_eq_div_mul,Sn,Nat.mul_comm]
def nM(m:Nat):∀(Γ i:Nat),cp m Γ (i,0)=((cp m Γ (i,0)).1,0):=λΓ i=>by obtain B:=fN m Γ (i,0);simp only[Nat.zero_div]at B;exact Prod.ext rfl B
def rI(m:Nat)(x:Nat×Nat):(SetTable.leap m x.1 x.2).1<=m:=by exact G6 (Nat.mod_lt _ (Q3 m))
theorem tq(m:Nat):∀(Γ:Nat)(x:Nat×Nat),x.1<=m->(cp m Γ x).1<=m
 |0,x,h=>h
 |Γ+1,x,h=>tq m Γ _ (rI m x)
def Fu(m:Nat)(hm:m=7\/m=31\/m=127):(cp m (m+1) (0,0)).1=0/\∀e,e<=m->∃k,k<=m/\(cp m k (0,0)).1=e:=by
 have key:∀m,((cp m (m+1) (0,0)).1==0&&(List.range (m+1)).all λe=>(List.range (m+1)).any λk=>(cp m k (0,0)).1==e)=true->(cp m (m+1) (0,0)).1=0/\∀e,e<=m->∃k,k<=m/\(cp m k (0,0)).1=e:=by intro m h;rw[G7,L9,J0]at h;refine⟨h.1,λe F=>?_⟩;obtain B:=h.2 e (E3.mpr (Az F));rw[RX]at B;refine ah B λk hk F=>?_;exact(af k (by obtain B:=E3.mp hk;exact wV B) (L9.mp F))
 rcases hm with rfl|rfl|rfl
 .exact key 7 (by decide +kernel)
 .exact key 31 (by decide +kernel)
 .exact key 127 (by decide +kernel)
def Hu(m:Nat)(hm:m=7\/m=31\/m=127){e:Nat}(hi:i<=m)(Z:e<=m):∃k,k<=m/\(cp m k (i,0)).1=e:=by
 refine cq (Fu m hm) λO G=>?_;refine ah (G i hi) λa ha Q=>?_;refine ah (G e Z) λb Y J=>?_;obtain F:cp m a (0,0)=(i,0):=by rw[nM,Q]
 obtain h0:cp m (m+1) (0,0)=(0,0):=by rw[nM,O]
 by_cases B:a<=b
 .refine⟨b-a,by exact Jn Y,?_⟩;rw[<- F,<- fY,show a+(b-a)=b by exact Jo B,J]
 .refine⟨m+1+b-a,by exact Jp B,?_⟩;rw[<- F,<- fY,show a+(m+1+b-a)=m+1+b by exact Jq ha,fY,h0,J]
def BM(h:Int):SetTable.bits h<2^64:=by obtain B:=Int.emod_lt_of_pos h (show(0:Int)<2^64 by decide);obtain B:=Int.emod_nonneg h (show(2^64:Int)≠0 by decide);exact Jr (by assumption)
def DQ(m:Nat)(hm:m=7\/m=31\/m=127)(h:Int){e:Nat}(O:e<=m):∃Γ,Γ<=13+m/\(cp m Γ (SetTable.bits h%(m+1),SetTable.bits h)).1=e:=by
 have G:(cp m 13 (SetTable.bits h%(m+1),SetTable.bits h)).2=0:=by rw[fN];refine Nat.div_eq_of_lt (E8 (BM h) ?_);decide
 obtain J:(cp m 13 (SetTable.bits h%(m+1),SetTable.bits h)).1<=m:=tq m _ _ (G6 (Nat.mod_lt _ (Q3 m)));refine ah (Hu m hm J O) λk hk F=>?_;refine(af (13+k) (by exact Js hk) ?_);rw[fY];obtain B:cp m 13 (SetTable.bits h%(m+1),SetTable.bits h)=((cp m 13 (SetTable.bits h%(m+1),SetTable.bits h)).1,0):=by rw[<- G]
 rw[B];exact F
theorem Ft(m:Nat)(hm:m=7\/m=31\/m=127)(h:Int){e:Nat}(J:e<=m):∃n,n<10*SetTable.turns m/\(jo m n (cV m h)).j=e:=by refine ah (DQ m hm h J) λΓ G B=>?_;refine ah (qM m Γ (SetTable.bits h%(m+1)) (SetTable.bits h)) λn O F=>?_;refine⟨n,by exact Jt O G,?_⟩;rw[F];exact B
def Reach(m:Nat)(B:Nat->Prop)(p:SetTable.Probe)(j:Nat):Prop:=∃n,(jo m n p).j=j/\∀i,i<n->B (jo m i p).j
theorem Reach.mono{F B:Nat->Prop}{p:SetTable.Probe}(r:Reach m F p j)(h:∀k,F k->B k):Reach m B p j :=
 let⟨n,a,b⟩:=r;(af n a (λi hi=>h _ (b i hi)))
def xZ(nd:Rise xs)(hz:xs.size<=m):∃e,e<=m/\¬lj xs e:=by
 by_cases hc:∃e,e<=m/\¬lj xs e
 .exact hc
 .obtain hc:∀e,e<=m->lj xs e:=λe B=>Classical.byContradiction λz=>hc (af e B z);exfalso;have key:∀k,k<=m+1->∀(l:List Nat),l.Nodup->(∀e,e<k->e∈l)->k<=l.length:=by
   intro k;induction k with
   |zero=>intro _ l _ _;exact E1 _
   |succ k G =>
    intro hk l nd hl;have hm:=hl k (K3 k);obtain this:=G (Ju hk) (l.erase k) (nd.erase k) λe B=>(List.Nodup.mem_erase_iff nd).mpr ⟨by exact Av B,hl e (tD B)⟩;rw[List.length_erase_of_mem hm]at this
    have:0<l.length:=List.length_pos_of_mem hm
    exact Jv (by assumption) this
  obtain F:=key (m+1) (z7 _) xs.toList (List.Pairwise.imp (λh=>E9 h) nd) λe B=>hc e (wV B);rw[J2]at F;exact AD F hz
section
variable{t:SetTable}
theorem rE(hd:t.dummies=#[])(r:Rise t.place){hashAt:Nat->Int}{h:Int}:∀(f n:Nat)(p:SetTable.Probe),p.dummy=none->n<f->¬lj t.place (jo t.mask n p).j -> ∃k,k<=n/\(∀i,i<k->∃q:Nat,t.place[q]?=some (jo t.mask i p).j/\hashAt q≠h) /\ ((¬lj t.place (jo t.mask k p).j/\SetTable.probe.go t hashAt h f p=some (.empty (jo t.mask k p).j none)) \/
    ∃q:Nat,k<n/\t.place[q]?=some (jo t.mask k p).j/\hashAt q=h/\SetTable.probe.go t hashAt h f p=some (.candidate (jo t.mask k p).j q (jo t.mask (k+1) p)))
 |0,n,p,_,G,_=>absurd G (J3 _)
 |f+1,n,p,hp,G,J=>by
  by_cases B:lj t.place p.j
  .refine bM (FR B) λq hq=>?_;obtain hs:=qI r hq;rcases n with _|n
   .exact absurd B J
   .by_cases hh:hashAt q=h
    .refine(aK 0 (E1 _) (λi hi=>absurd hi (J3 _)) (.inr (jK q (Jw) hq hh ?_)));unfold SetTable.probe.go;rw[hs];simp only[hh,beq_self_eq_true,if_true];rfl
    .obtain⟨k,hk,O,F⟩:=rE hd r f n (wn t.mask p) ((pP _ _).trans hp) (AE G) J;have e:SetTable.probe.go t hashAt h (f+1) p=SetTable.probe.go t hashAt h f (wn t.mask p):=by
      conv=>lhs;unfold SetTable.probe.go
      rw[hs];simp only[beq_eq_false_iff_ne.mpr hh,Bool.false_eq_true,if_false];rfl
     refine(aK (k+1) (Rc hk) (λi hi=>?_) ?_)
     .rcases i with _|i
      .exact(af q hq hh)
      .exact O i (AE hi)
     .rw[e];rcases F with F|⟨Q,a,b,c,d⟩
      .exact .inl F
      .exact .inr (jK Q (Jx a) b c d)
  .refine(aK 0 (E1 _) (λi hi=>absurd hi (J3 _)) (.inl ⟨B,?_⟩));unfold SetTable.probe.go;rw[vR r hd B];simp only[hp];rfl
def eQ{xs:Array α}{p:Nat}(hp:p<=xs.size)(x:α)(i:Nat):(SetTable.insertAt xs p x)[i]?=if i<p then xs[i]? else if i=p then some x else xs[i-1]?:=by
 rw[<- A7,cB,List.getElem?_append];obtain hl:(xs.toList.take p).length=p:=by simp;exact Jy hp
 rw[hl];split
 .rename_i h;rw[List.getElem?_take,if_pos h,A7]
 .rename_i h;split
  .rename_i e;subst e;simp
  .rename_i e;rw[List.getElem?_cons];rw[if_neg (Jz e h),P3,A7];congr 1;exact JA e h
def bX(xs:Array α)(p:Nat)(x:α):(SetTable.insertAt xs p x).size=xs.size+1:=by rw[<- J2,cB];simp;exact JB
structure TOK0(t:SetTable)(es:Array (Int×Value)):Prop where
 dm:t.dummies=#[]
 msk:t.mask=7\/t.mask=31\/t.mask=127
 size:t.place.size=es.size
 rise:Rise t.place
 le:∀j,lj t.place j->j<=t.mask
 reach:∀(i j:Nat)(e:Int×Value),t.place[i]?=some j->es[i]?=some e->Reach t.mask (lj t.place) (cV t.mask e.1) j
structure TOK(t:SetTable)(es:Array (Int×Value)):Prop extends TOK0 t es where
 few:es.size*5<t.mask*3
def Fits.of(T:TOK0 t es)(h:es.size<=t.mask):t.fits es.size=true:=by unfold SetTable.fits SetTable.fill;simp[T.size,T.dm,h]
def TOK.le'(T:TOK t es):es.size<t.mask:=by obtain B:=T.few;rcases T.msk with h|h|h <;> rw[h]at B ⊢ <;>(first|exact JC B|exact JD B|exact JE B)
def xH(m:Nat)(p:SetTable.Probe):Prop:=p.j+p.more<=m
def zg{p:SetTable.Probe}(h:xH m p):xH m (wn m p):=by
 unfold wn;split
 .show p.j+1+(p.more-1)<=m
  have:p.j+p.more<=m:=h
  exact JF (by assumption) this
 .show(SetTable.leap m p.i p.perturb).1+(SetTable.runEnd m (SetTable.leap m p.i p.perturb).1-(SetTable.leap m p.i p.perturb).1)<=m;obtain F:=rI m (p.i,p.perturb);obtain B:=iV m (SetTable.leap m p.i p.perturb).1;obtain this:=B.2.1 F;obtain this:=B.2.2;exact Ej B.2.1 F
def vW(m:Nat)(h:Int):xH m (cV m h):=by have G:SetTable.bits h%(m+1)<=m:=G6 (Nat.mod_lt _ (Q3 m));obtain F:=iV m (SetTable.bits h%(m+1));obtain B:=F.2.1 G;obtain B:=F.2.2;exact Ej F.2.1 G
theorem un:∀(n:Nat){p:SetTable.Probe},xH m p->xH m (jo m n p)
 |0,_,h=>h
 |n+1,_,h=>un n (zg h)
theorem ul(m:Nat)(h:Int)(n:Nat):(jo m n (cV m h)).j<=m:=by obtain B:xH m _:=un n (vW m h);exact s7 (G8 _ _) B
theorem nC(T:TOK0 t es)(hz:es.size<=t.mask)(h:Int):∃n,n<10*SetTable.turns t.mask/\¬lj t.place (jo t.mask n (cV t.mask h)).j:=by refine ah (xZ T.rise (by rw[T.size];exact hz)) λe G J=>?_;refine ah (Ft t.mask T.msk h G) λn B F=>?_;exact(af n B (by rw[F];exact J))
def vD(hd:t.dummies=#[])(j:Nat):t.put j=({ t with place:=SetTable.insertAt t.place (SetTable.below t.place j) j },SetTable.below t.place j):=by
 unfold SetTable.put;obtain B:SetTable.has t.dummies j=false:=by rw[hd];simp[SetTable.has]
 simp only[B,Bool.false_eq_true,if_false]
theorem TOK0.put(T:TOK0 t es){e:Int×Value}(O:j<=t.mask)(Q:¬lj t.place j)(hr:Reach t.mask (lj t.place) (cV t.mask e.1) j) : TOK0 (t.put j).1 (SetTable.insertAt es (t.put j).2 e):=by
 rw[vD T.dm];refine jb (di T.rise j) λb1 _ _=>?_;refine⟨T.dm,T.msk,?_,tR T.rise Q,λk hk=>?_,λi k e' F B=>?_⟩
 .show(SetTable.insertAt _ _ _).size=_;rw[bX,bX,T.size]
 .rcases oa.mp hk with hk|hk
  .rw[hk];exact O
  .exact T.le k hk
 .have mono:∀{p:SetTable.Probe}{k:Nat},Reach t.mask (lj t.place) p k->Reach t.mask (lj (SetTable.insertAt t.place (SetTable.below t.place j) j)) p k:=λr=>r.mono λq hq=>oa.mpr (.inr hq);simp only at F B;rw[eQ b1]at F;rw[eQ (by rw[<- T.size];exact b1)]at B;split at F
  .rename_i G;rw[if_pos G]at B;exact mono (T.reach i k e' F B)
  .rename_i G;rw[if_neg G]at B;split at F
   .rename_i J;rw[if_pos J]at B;obtain rfl:=w8 F;obtain rfl:=w8 B;exact mono hr
   .rename_i J;rw[if_neg J]at B;exact mono (T.reach _ k e' F B)
abbrev uG(owner:Array (Option Nat))(j:Nat):Prop:=∃q:Nat,owner[j]?=some (some q)
structure LInv(m:Nat)(al:List Int)(owner:Array (Option Nat))(k:Nat):Prop where
 size:owner.size=m+1
 at_:∀(j q:Nat),owner[j]?=some (some q)->q<k/\∃hq,al[q]?=some hq/\Reach m (uG owner) (cV m hq) j
 has:∀q,q<k->∃j:Nat,owner[j]?=some (some q)
 one:∀(j j' q:Nat),owner[j]?=some (some q)->owner[j']?=some (some q)->j=j'
def LInv.empty{al:List Int}{owner:Array (Option Nat)}(I:LInv m al owner k)(hk:k<=m):∃e,e<=m/\owner[e]?=some none:=by
 by_cases hc:∃e,e<=m/\owner[e]?=some none
 .exact hc
 .exfalso;have B:∀e,e<m+1->∃q:Nat,owner[e]?=some (some q):=λe O=>by
   have F:e<owner.size:=by rw[I.size];exact O
   rcases h:owner[e]with _|q
   .exact absurd (af e (by exact wV O) (by rw[L6 F,h])) hc
   .exact⟨q,by rw[L6 F,h]⟩
  have Y:=cL k ((List.range (m+1)).map λe=>((owner[e]?).getD none).getD 0) ?_ ?_
  .simp at Y;exact AD Y hk
  .refine List.Pairwise.map _ (R:=λx y=>x<m+1/\y<m+1/\x≠y) ?_ ?_
   .rintro x y ⟨hx,hy,Q⟩ e;refine bM (B x hx) λq hq=>?_;refine bM (B y hy) λZ G=>?_;rw[hq,G]at e;simp only[Option.getD_some]at e;subst e;exact Q (I.one _ _ _ hq G)
   .obtain J:(List.range (m+1)).Pairwise (·≠·):=List.nodup_range;exact List.Pairwise.imp_of_mem (λhx hy h=>⟨E3.mp hx,E3.mp hy,h⟩) J
  .intro x hx;refine ah (w7.mp hx) λe O aX=>?_;subst aX;refine bM (B e (E3.mp O)) λq hq=>?_;rw[hq];exact(I.at_ e q hq).1
theorem uZ{n:Nat}{p:Nat->Bool}:(∃k,k<n/\(List.range n).find? p=some k/\p k=true/\∀i,i<k->p i=false)\/((List.range n).find? p=none/\∀i,i<n->p i=false):=by
 rcases h:(List.range n).find? p with _|k
 .rw[List.find?_eq_none]at h;exact .inr ⟨rfl,λi hi=>L0.mpr (h i (E3.mpr hi))⟩
 .rw[List.find?_range_eq_some]at h;exact .inl (jK k (E3.mp h.2.1) rfl h.1 (λi hi=>by obtain B:=h.2.2 i hi;simpa using B))
theorem qm{owner:Array (Option Nat)}(hs:owner.size=m+1):∀(Γ f i F:Nat),Γ<f->i<=m->(∃x:Nat,(cp m Γ (i,F)).1=x/\owner[x]?=some none) -> ∃j,SetTable.layClean.free m owner f i F=some j/\j<=m/\owner[j]?=some none/\Reach m (uG owner) (dL m i F) j
 |Γ,0,i,F,h,_,_=>absurd h (J3 _)
 |Γ,f+1,i,F,hf,hi,he=>by
  unfold SetTable.layClean.free;obtain O:=iV m i;have G:=O.2.1 hi;have Y:∀k,k<SetTable.runEnd m i+1-i->((owner.getD (i+k) (some 0)).isNone=true↔owner[i+k]?=some none):=λk hk=>by
   have B:i+k<owner.size:=by rw[hs];exact Ek G hk
   obtain e1:owner.getD (i+k) (some 0)=owner[i+k]:=by simp[Array.getD,B]
   rw[e1,L6 B];cases owner[i+k] <;> simp
  have Z:∀k,k<SetTable.runEnd m i+1-i->(owner.getD (i+k) (some 0)).isNone=false->uG owner (jo m k (dL m i F)).j:=λk hk Q=>by
   rw[mJ m k _ (by show k<=SetTable.runEnd m i-i;exact El hk)];have B:i+k<owner.size:=by rw[hs];exact Ek G hk
   have e1:owner.getD (i+k) (some 0)=owner[i+k]:=by simp[Array.getD,B]
   rw[e1]at Q;show uG owner (i+k);rcases h:owner[i+k]with _|q
   .rw[h]at Q;exact FP Q
   .exact⟨q,by rw[L6 B,h]⟩
  rcases uZ (n:=SetTable.runEnd m i+1-i) (p:=λk=>(owner.getD (i+k) (some 0)).isNone)with⟨k,hk,h1,h2,J⟩|⟨h1,h2⟩
  .rw[h1];refine(jK (i+k) rfl (JG G hk) ((Y k hk).mp h2) (af k ?_ (λa ha=>Z a (JH ha hk) (J a ha))));rw[mJ m k _ (by show k<=SetTable.runEnd m i-i;exact El hk)];rfl
  .rw[h1];rcases Γ with _|Γ
   .obtain⟨x,hx,Q⟩:=he
    have:=h2 0 (En O.2.2)
    have J:=(Y 0 (En O.2.2)).mpr (by rw[Nat.add_zero];rw[show i=x from hx];exact Q);simp only[Nat.add_zero]at this J;rw[this]at J;exact ai J
   .refine wh (qm hs Γ f (SetTable.leap m i F).1 (SetTable.leap m i F).2 (AE hf) (rI m (i,F)) he) λj e1 e2 e3 bV=>?_;refine ah bV λn e4 e5=>?_;refine(jK j e1 e2 e3 (af (SetTable.runEnd m i-i+1+n) (by rw[fF,oN];exact e4) (λa ha=>?_)));by_cases hc:a<SetTable.runEnd m i-i+1
    .exact Z a (Eo O.2.2 hc) (h2 a (Eo O.2.2 hc))
    .obtain this:a=SetTable.runEnd m i-i+1+(a-(SetTable.runEnd m i-i+1)):=by exact JI hc
     rw[this,fF,oN];exact e5 _ (JJ this ha)
noncomputable def mB(m:Nat)(acc:Option (Array (Option Nat)×Nat))(h:Int):Option (Array (Option Nat)×Nat):=do
  let(owner,k) <- acc
  let j <- SetTable.layClean.free m owner (SetTable.turns m) (SetTable.bits h%(m+1)) (SetTable.bits h)
  pure (owner.setIfInBounds j (some k),k+1)
def tj(m:Nat)(hashes:Array Int):SetTable.layClean m hashes=(hashes.toList.foldl (mB m) (some (Array.replicate (m+1) none,0))).map (·.1):=by unfold SetTable.layClean;rw[<- Array.foldl_toList];rfl
theorem tn(hm:m=7\/m=31\/m=127){al:List Int}(hl:al.length<=m):∀(rest pre:List Int)(owner:Array (Option Nat)),al=pre++rest->LInv m al owner pre.length -> ∃B,rest.foldl (mB m) (some (owner,pre.length))=some (B,al.length)/\LInv m al B al.length
 | [],pre,owner,e,I=>by rw[G2]at e;subst e;exact(af owner rfl I)
 |h::rest,pre,owner,e,I=>by
  obtain hk:pre.length<al.length:=by rw[e];simp
  refine ah (I.empty (JK hl hk)) λx hx hn=>?_;refine ah (DQ m hm h hx) λΓ hL eL=>?_;refine wh (qm I.size Γ (SetTable.turns m) _ _ (JL hL) (G6 (Nat.mod_lt _ (Q3 m))) (af x eL hn)) λj e1 e2 e3 e4=>?_;obtain Q:j<owner.size:=by rw[I.size];exact Az e2
  have F:∀i:Nat,(owner.setIfInBounds j (some pre.length))[i]?=if j=i then some (some pre.length)else owner[i]?:=λi=>by rw[Array.getElem?_setIfInBounds];simp[Q]
  obtain ad:al[pre.length]?=some h:=by rw[e];simp
  have mono:∀k,uG owner k->uG (owner.setIfInBounds j (some pre.length)) k:=λk ⟨q,hq⟩=>by
   by_cases O:j=k
   .subst O;rw[e3]at hq;cases hq
   .exact⟨q,by rw[F,if_neg O];exact hq⟩
  have I':LInv m al (owner.setIfInBounds j (some pre.length)) (pre++[h]).length:=by
   obtain Y:(pre++[h]).length=pre.length+1:=by rw[A6];rfl
   rw[Y];refine⟨by simp[I.size],λi q hq=>?_,λq hq=>?_,λi i' q G J=>?_⟩
   .rw[F]at hq;split at hq
    .rename_i ar;subst ar;cases hq;exact⟨by exact Eg,h,ad,e4.mono mono⟩
    .refine cq (I.at_ i q hq) λa da=>?_;refine ah da λas b c=>?_;exact⟨by exact tD a,(af as b (c.mono mono))⟩
   .by_cases Z:q=pre.length
    .subst Z;exact⟨j,by rw[F,if_pos rfl]⟩
    .obtain⟨i,hi⟩:=I.has q (wW hq Z);refine⟨i,?_⟩;rw[F,if_neg]
     .exact hi
     .intro z;subst z;rw[e3]at hi;cases hi
   .rw[F]at G J;split at G <;> split at J
    .exact JM (by assumption) (by assumption)
    .rename_i z1 z2;cases G
     have:=(I.at_ i' _ J).1
     exact(AB this).elim
    .rename_i z1 z2;cases J
     have:=(I.at_ i _ G).1
     exact(AB this).elim
    .exact I.one _ _ _ G J
  refine ah (tn hm hl rest (pre++[h]) _ (by rw[e];simp) I') λB f1 f2=>?_;refine(af B ?_ f2);rw[List.foldl_cons];have av:mB m (some (owner,pre.length)) h=some (owner.setIfInBounds j (some pre.length),(pre++[h]).length):=by unfold mB;simp only[Option.bind_eq_bind,Option.bind_some,e1,Option.pure_def,List.length_append,List.length_singleton]
  rw[av];exact f1
def pC(hm:m=7\/m=31\/m=127){hashes:Array Int}(hl:hashes.size<=m):∃owner,SetTable.layClean m hashes=some owner/\LInv m hashes.toList owner hashes.size:=by
 have F:LInv m hashes.toList (Array.replicate (m+1) none) ([]:List Int).length:=by
  refine⟨by simp,λj q h=>?_,λq h=>absurd h (J3 _),λj j' q h=>?_⟩
  .rw[Array.getElem?_replicate]at h;split at h <;> cases h
  .rw[Array.getElem?_replicate]at h;split at h <;> cases h
 refine ah (tn hm (al:=hashes.toList) hl hashes.toList [] _ rfl F) λowner B G=>?_;refine(af owner ?_ (by simpa using G));rw[tj];simp only[List.length_nil]at B;rw[B];rfl
end
theorem bW(es:Array α):∀(l:List Nat),(∀q∈l,q<es.size)->(l.filterMap (es[·]?)).length=l.length/\∀(i q:Nat),l[i]?=some q->(l.filterMap (es[·]?))[i]?=es[q]?
 | [],_=>⟨rfl,λi q h=>by simp at h⟩
 |a::l,h=>by
  obtain⟨F,G⟩:=bW es l λq hq=>h q (w9 _ hq);have B:=h a y4;obtain ha:es[a]?=some es[a]:=by simp[B]
  have e:(a::l).filterMap (es[·]?)=es[a]::l.filterMap (es[·]?):=by rw[Sj,ha]
  rw[e];refine⟨by simp[F],λi q hi=>?_⟩;rcases i with _|i
  .simp at hi;subst hi;exact ha.symm
  .simp at hi;exact G i q hi
def eH(es:Array α):(List.range es.size).filterMap (es[·]?)=es.toList:=by
 refine cq (bW es (List.range es.size) λq hq=>E3.mp hq) λB F=>?_;apply Sc;intro i;rw[Sd]at B;by_cases hi:i<es.size
 .rw[F i i (by simp[hi]),A7]
 .rw[Q8 (JN B hi),Q8 (by simpa using hi)]
def yh{fi mv:Nat}{led plain:Bool}(hm:m=7\/m=31\/m=127)(hl:es.size<=m) : ∃t F,SetTable.laid m fi mv led plain (es.map (·.1))=some (t,F)/\t.mask=m/\t.finger=fi/\t.led=led/\t.plain=plain/\F.toList.Perm (List.range es.size)/\TOK0 t (F.filterMap (es[·]?))/\(F.filterMap (es[·]?)).size=es.size/\(F.filterMap (es[·]?)).toList.Perm es.toList:=by
 refine ah (pC hm (hashes:=es.map (·.1)) (by simpa using hl)) λowner h1 I=>?_;rw[Array.size_map]at I;obtain as:∃live:List (Nat×Nat),live=(List.range (m+1)).filterMap (λj=>(owner.getD j none).map (j,·)):=⟨_,rfl⟩;obtain⟨live,O⟩:=as;have B:∀j q,(j,q)∈live↔owner[j]?=some (some q):=λj q=>by
  rw[O,List.mem_filterMap];constructor
  .rintro⟨a,ha,e⟩;refine ah (D7.mp e) λb Y e'=>?_;cases e';obtain G:j<owner.size:=by rw[I.size];exact E3.mp ha
   simp[Array.getD,G]at Y;rw[L6 G,Y]
  .intro e;refine bM (K5.mp e) λG e'=>?_;refine(af j (E3.mpr (by rw[<- I.size];exact G)) ?_);simp[Array.getD,G,e']
 have Q:live.Pairwise λa b=>a.1<b.1:=by rw[O,List.pairwise_filterMap];refine List.Pairwise.imp (R:=λx y=>x<y) ?_ List.pairwise_lt_range;intro a a' h b Y b' hb';refine ah (D7.mp Y) λ_ _ aX=>?_;subst aX;refine ah (D7.mp hb') λ_ _ bV=>?_;subst bV;exact h
 have hnd:(live.map (·.2)).Nodup:=by refine List.Pairwise.map _ (R:=λa b:Nat×Nat=>a∈live/\b∈live/\a.1<b.1) ?_ (List.Pairwise.imp_of_mem (λha Y h=>(cO ha Y h)) Q);rintro⟨a,q⟩ ⟨b,q'⟩ ⟨ha,Y,G⟩ e;simp only at e G;subst e;obtain this:=I.one _ _ _ ((B _ _).mp ha) ((B _ _).mp Y);exact AF this G
 have J:(live.map (·.2)).Perm (List.range es.size):=by
  refine(Q2 hnd List.nodup_range).mpr λq=>?_;rw[w7,E3];constructor
  .rintro⟨⟨j,q'⟩,h,rfl⟩;exact(I.at_ j q' ((B _ _).mp h)).1
  .intro hq;refine bM (I.has q hq) λj hj=>?_;exact(af (j,q) ((B _ _).mpr hj) rfl)
 obtain G:∀q∈live.map (·.2),q<es.size:=λq hq=>E3.mp (J.mem_iff.mp hq);have Z:live.length=es.size:=by obtain this:=J.length_eq;simpa using this
 refine cq (bW es _ G) λg1 g2=>?_;have ar:((live.map (·.2)).toArray.filterMap (es[·]?)).toList=(live.map (·.2)).filterMap (es[·]?):=by simp
 have hsz:((live.map (·.2)).toArray.filterMap (es[·]?)).size=es.size:=by rw[<- J2,ar,g1,u1,Z]
 have ad:∀j,lj (live.map (·.1)).toArray j↔uG owner j:=λj=>by
  show j∈(live.map (·.1)).toArray.toList↔_;simp only[List.mem_map];constructor
  .rintro⟨⟨a,q⟩,h,rfl⟩;exact⟨q,(B _ _).mp h⟩
  .rintro⟨q,h⟩;exact(af (j,q) ((B _ _).mpr h) rfl)
 refine⟨{ mask:=m,place:=(live.map (·.1)).toArray,dummies:=#[],finger:=fi,led,moves:=mv,plain },(live.map (·.2)).toArray,?_,rfl,rfl,rfl,rfl,by exact J,⟨rfl,hm,?_,?_,?_,?_⟩,hsz,?_⟩
 .unfold SetTable.laid;rw[h1];dsimp only[Option.bind_eq_bind,Option.bind_some,Option.pure_def];rw[<- O]
 .show(live.map (·.1)).toArray.size=_;rw[hsz];simp[Z]
 .show Rise (live.map (·.1)).toArray;unfold Rise;simp only[List.pairwise_map];exact Q
 .intro j hj;obtain⟨q,hq⟩:=(ad j).mp hj
  have:=(K5.mp hq).1
  rw[I.size]at this;exact G6 this
 .intro i j e h1 h2;simp only at h1;rw[<- A7]at h1 h2;rw[ar]at h2;simp only[List.getElem?_map]at h1;refine ah (D7.mp h1) λda hp dC=>?_;obtain⟨j',q⟩:=da;subst dC;rw[g2 i q (by rw[B6,hp];rfl)]at h2;refine cq (I.at_ _ _ ((B _ _).mp (z6 hp))) λ_ eN=>?_;refine ah eN λhq a1 a2=>?_;rw[A7,Array.getElem?_map,h2]at a1;obtain rfl:=w8 a1;exact a2.mono λk hk=>(ad k).mpr hk
 .rw[ar];obtain this:=J.filterMap (es[·]?);rw[eH]at this;exact this
def lW{t:SetTable}(hm:t.mask=7\/t.mask=31\/t.mask=127)(hl:es.size<=64)(hf:es.size*5≥t.mask*3)(hsz:es.size<=t.mask)(Y:(es.size-1)*5<t.mask*3) : ∃t' B,t.relaid (es.map (·.1)) (SetTable.grown es.size)=some (t',B)/\t'.led=t.led/\t'.plain=t.plain/\B.toList.Perm (List.range es.size)/\TOK t' (B.filterMap (es[·]?))/\(B.filterMap (es[·]?)).size=es.size/\(B.filterMap (es[·]?)).toList.Perm es.toList/\SetTable.sizeAbove (SetTable.grown es.size)<=sizeLine:=by
 obtain hg:SetTable.grown es.size=es.size*4:=by unfold SetTable.grown;rw[if_neg (JO hl)]
 have key:∃J,SetTable.sizeAbove (SetTable.grown es.size)-1=J/\(J=7\/J=31\/J=127)/\es.size*5<J*3/\SetTable.sizeAbove (SetTable.grown es.size)<=128:=by
  rw[hg];rcases hm with h|h|h
  .rw[h]at hf Y;obtain G:es.size=5:=by exact JP hf Y
   rw[G];exact(jK 31 (by decide) (.inr (.inl rfl)) JQ (by decide))
  .rw[h]at hf Y;obtain G:es.size=19:=by exact JR hf Y
   rw[G];exact(jK 127 (by decide) (.inr (.inr rfl)) JS (by decide))
  .rw[h]at hf;exact(JT hf hl).elim
 refine wh key λJ e Q F O=>?_;obtain Z:es.size<=J:=by rcases Q with h|h|h <;> rw[h]at F ⊢ <;>(first|exact(JU hf F hm).elim|exact JV F|exact JW F)
 obtain⟨t',B,h1,h2,_,h3,h4,h5,h6,h7,h8⟩:=yh (m:=J) (fi:=t.finger) (mv:=t.movedTo J) (led:=t.led) (plain:=t.plain) Q Z;refine⟨t',B,?_,h3,h4,h5,⟨h6,?_⟩,h7,h8,?_⟩
 .unfold SetTable.relaid;rw[e];exact h1
 .rw[h7,h2];exact F
 .rw[I9];exact JX O
noncomputable def cJ(w:World):Bool:=w.params.followText "set-order"
noncomputable abbrev bC(es:Array (Int×Value))(ep:Nat)(t:SetTable):Obj:={ cls:=.type "set",data:=.set es ep t }
section
variable{A:Around}{sa:SX}
def cW{Q:b7}(h:Q (cJ w) s):wpAny (model prog w) A setsByText Q E s:=by unfold setsByText;exact p0 (wpAny_askSetting (u4 h))
theorem ss{src:Source}{n:Nat}{Q:Nat->Shared->Prop}(B:0<n)(h:∀i d,i<n->Q i { s with drawn:=d }):wpAny (model prog w) A (choose src n) Q E s :=λ_ _ _=>⟨Nat.pos_iff_ne_zero.mp B,h _ _ (Nat.mod_lt _ B)⟩
theorem w1{c:Value}{n:Nat}{Q:b7}(p:aS x=true)(u:aB x<=n)(r:VR sa s.heap x c)(h:Q false s):wpAny (model prog w) A (ofAClassStatement n c) Q E s:=by
 refine Ac (P:=λn c=>∀Q:Bool->Shared->Prop,Q false s->wpAny (model prog w) A (ofAClassStatement n c) Q E s) (λn i t Q h=>?_) (λn x t Q h=>?_) (λn a cvs ht F Q h=>?_) p u r Q h
 .cases n <;> exact u4 h
 .cases n <;> exact u4 h
 .obtain hT:=ht.typeIs (s:=s);refine bR ht λo B _ dC=>?_;refine bM dC λk hd=>?_;unfold ofAClassStatement;refine p0 (wpAny_typeOf hT ?_);refine p0 (u4 ?_);refine p0 (M3 B hd ?_);refine p0 ?_;rw[<- Array.forIn_toList];exact fq (λc hc R h=>p0 (F c hc _ (u4 h))) (u4 h)
theorem w2{c:Value}{n:Nat}{Q:b7}(p:aS x=true)(r:VR sa s.heap x c)(h:∀b,Q b s):wpAny (model prog w) A (hashByValue n c) Q E s:=by
 refine rG (P:=λ_ c=>∀n (Q:b7),(∀b,Q b s)->wpAny (model prog w) A (hashByValue n c) Q E s) (Q:=λ_ cs=>∀c∈cs,∀n (Q:b7),(∀b,Q b s)->wpAny (model prog w) A (hashByValue n c) Q E s)
  (λi t n Q h=>by unfold hashByValue;exact u4 (h _)) (λi t n Q h=>by unfold hashByValue;exact u4 (h _)) (λvs a cvs _ ht _ G n Q h=>?_) (λ_ h=>absurd h y9) (λ_ _ _ _ _ _ _ _ a b=>List.forall_mem_cons.mpr ⟨a,b⟩) p r n Q h
 rcases n with _|n
 .unfold hashByValue;exact u4 (h _)
 .obtain hT:=ht.typeIs (s:=s);refine bR ht λo O _ B=>?_;refine bM B λk hd=>?_;refine p0 (SF hT PySem.F.slot_tuple_hash.lookup ?_);refine p0 (M3 O hd ?_);refine p0 ?_;rw[<- Array.forIn_toList];show wpAny _ _ (forIn cvs.toList _ _) _ _ _;generalize cvs.toList=cs at G ⊢;induction cs with
  |nil=>exact u4 (u4 (h _))
  |cons c cs J =>
   rw[Sh];refine p0 (p0 (G c y4 n _ λb=>?_));rcases b with _|_
   .exact u4 (u4 (u4 (h _)))
   .exact u4 (J λc hc=>G c (w9 _ hc))
abbrev gX(x:V):Prop:=aS x=true/\aB x<=8
def Aq{c:Value}(G:gX x)(Z:VR sa s.heap x c):∀{cs:List Value}{Q:b7},(∀y∈cs,∃u,gX u/\VR sa s.heap u y)->Q false s->wpAny (model prog w) A (searchCouldBeSeen c cs) Q E s:=by
 intro cs Q hc h;refine p0 ?_;obtain B:∀(cs:List Value){R:Option Bool×PUnit->Shared->Prop}{f:Value->Option Bool×PUnit->Sem (ForInStep (Option Bool×PUnit))},(∀y∈cs,∃u,gX u/\VR sa s.heap u y)->R (none,PUnit.unit) s ->
   (∀y J,(∃u,gX u/\VR sa s.heap u y)->J (ForInStep.yield (none,PUnit.unit)) s->wpAny (model prog w) A (f y (none,PUnit.unit)) J E s)->wpAny (model prog w) A (forIn cs (none,PUnit.unit) f) R E s:=by
  intro cs;induction cs with
  |nil=>intro R f _ h _;rw[List.forIn_nil];exact u4 h
  |cons y cs ih =>intro R f hc h hf;rw[Sh];refine p0 (hf y _ (hc y y4) ?_);exact ih (λz hz=>hc z (w9 _ hz)) h hf
 refine B cs hc (u4 h) λy J ⟨u,F,Y⟩ O=>?_;dsimp only;split
 all_goals
  refine J4 (λ_=>u4 O) (λ_=>?_);refine p0 (VR.quiet G.1 G.2 Z ?_);refine p0 (VR.quiet F.1 F.2 Y ?_);refine p0 (w1 G.1 G.2 Z ?_);refine p0 (w1 F.1 F.2 Y ?_);exact u4 O
end
section
set_option tactic.hygienic true
structure ESR(sa:SX)(w:World)(h:Heap)(us:List V)(es:Array (Int×Value)):Prop where
 len:us.length=es.size
 at_:∀(i:Nat)(u:V)(e:Int×Value),us[i]?=some u->es[i]?=some e->e.1=aI w u/\VR sa h u e.2
theorem ESR.get{sa:SX}(r:ESR sa w h us es){u:V}(F:us[i]?=some u):∃e,es[i]?=some e/\e.1=aI w u/\VR sa h u e.2:=by
 obtain hi:=(z5.mp F).1;obtain B:i<es.size:=by rw[<- r.len];exact hi
 exact(af (es[i]) (by simp[B]) (r.at_ i u _ F (by simp[B])))
theorem ESR.get'{sa:SX}(r:ESR sa w h us es){e:Int×Value}(F:es[i]?=some e):∃u,us[i]?=some u/\e.1=aI w u/\VR sa h u e.2:=by
 obtain hi:=(K5.mp F).1;obtain B:i<us.length:=by rw[r.len];exact hi
 exact(af (us[i]) (by simp[B]) (r.at_ i _ e (by simp[B]) F))
theorem ESR.keep{sa:SX}(k:TupKeep sa h h')(r:ESR sa w h us es):ESR sa w h' us es :=⟨r.len,λi u e a b=>⟨(r.at_ i u e a b).1,(r.at_ i u e a b).2.keep k⟩⟩
structure SetR(sa:SX)(w:World)(h:Heap)(a:Addr)(κ:Nat)(us:List V):Prop where
 obj:∃es ep t,h.get? a=some (bC es ep t)/\TOK t es/\t.led=!cJ w/\ESR sa w h us es
 kind:∀u∈us,vk u=κ/\gX u
 nd:us.Nodup
section
variable{A:Around}{sa:SX}
def vX{q:Nat}{e:Int×Value}(h:es[q]?=some e):(es[q]?.map (·.1)).getD 0=e.1:=by rw[h];rfl
def TOK.ent{t:SetTable}(T:TOK t es){q:Nat}(h:t.place[q]?=some j):∃e,es[q]?=some e:=by
 obtain hq:q<es.size:=by rw[<- T.size];exact(K5.mp h).1
 exact⟨_,L6 hq⟩
def pc{c:Prop}[Decidable c]{a b:Sem α}{Q:α->Shared->Prop}{P:Prop}(k:P)(ha:c->P->wpAny M A a Q E s)(B:¬c->P->wpAny M A b Q E s):wpAny M A (if c then a else b) Q E s :=J4 (λh=>ha h k) λh=>B h k
def RM{u:V}(h:vk u=3):∃xs,u=.tup xs:=by cases u <;> first|exact⟨_,rfl⟩|exact absurd h (by decide:¬(0:Nat)=3)|exact absurd h (by decide:¬(1:Nat)=3)|exact absurd h (by decide:¬(2:Nat)=3)
theorem vY{g:Int}(r:ESR sa w s.heap us es)(hk:∀u∈us,vk u=3/\gX u):∀y∈((es.filter λz=>z.1==g).toList.map λz=>z.2),∃u,gX u/\VR sa s.heap u y:=λy hy=>by refine ah (w7.mp hy) λe B aX=>?_;subst aX;obtain⟨i,hi⟩:=Array.mem_iff_getElem?.mp (Array.mem_filter.mp (P6.mp B)).1;refine bR (r.get' hi) λF G O J=>?_;exact(af F ((hk F (z6 G)).2) J)
theorem yI{a:Addr}{t:SetTable}(ho:s.heap.get? a=some (bC es ep t))(T:TOK t es)(r:ESR sa w s.heap us es)(hk:∀u∈us,vk u=3/\gX u){c:Value}(kx:gX x)(rx:VR sa s.heap x c)(hu:A.units+9<cLine){Q:SetFound->Shared->Prop} (Y:x∈us->Q (.there none) s):∀(n B:Nat)(p:SetTable.Probe)(F:Option SetTable.Probe),F.getD (t.probeStart (aI w x))=p->p.dummy=none->n<10*SetTable.turns t.mask->n<B->¬lj t.place (jo t.mask n p).j -> (∀k,k<=n->¬lj t.place (jo t.mask k p).j->(∀i,i<k->∃(q:Nat)(u:V),t.place[q]?=some (jo t.mask i p).j/\us[q]?=some u/\u≠x)->Q (.free (jo t.mask k p).j false) s) -> wpAny (model prog w) A (setSearchFrom a c (aI w x) true B F) Q E s:=by
 intro n;induction n using Nat.strongRecOn with
 |_ n ih =>
  intro B p F hp hpd hn hf he J;rcases B with _|B
  .exact(Eh hf).elim
  .obtain Z:t.fits es.size=true:=Fits.of T.toTOK0 (D9 T.le');have hgw:t.gaveWay=false:=by unfold SetTable.gaveWay;rcases T.msk with h|h|h <;> rw[h] <;> rfl
   obtain⟨k,hk1,hk2,hk3⟩:=rE (hashAt:=_) T.dm T.rise (h:=aI w x) (10*SetTable.turns t.mask) n p hpd hn he;have G:∀i,i<k->∃(q:Nat)(u:V),t.place[q]?=some (jo t.mask i p).j/\us[q]?=some u/\u≠x:=λi hi=>by refine ah (hk2 i hi) λq q1 q2=>?_;refine bM (TOK.ent T q1) λe he=>?_;refine bR (r.get' he) λu e1 e2 e3=>?_;exact(bF q u q1 e1 (λz=>q2 ((vX he).trans (e2.trans (by rw[z])))))
   refine p0 (L5 ho rfl Z ?_);refine wpAny_ite_false (E2 (by rw[hgw];exact C7)) ?_;rw[hp];generalize hpr:t.probe _ (aI w x) p=met;rcases hk3 with⟨h1,h2⟩|⟨q,h1,h2,h3,h4⟩
   .rw[hpr.symm.trans h2];exact u4 (J k hk1 h1 G)
   .rw[hpr.symm.trans h4];refine bM (TOK.ent T h2) λbV ad=>?_;obtain⟨h',y⟩:=bV;refine bR (r.get' ad) λu e1 e2 e3=>?_;obtain ku:=hk u (z6 e1);obtain⟨b,rfl⟩:∃b,y=Value.ref b:=by refine bM (RM ku.1) λxs dC=>?_;subst dC;refine cF e3.tup_inv λb _ eb _=>?_;exact⟨b,eb⟩
    refine pc ?_ (λ_ h=>p0 (Aq kx rx (vY r hk) (wpAny_ite_false rfl h))) (λ_ h=>h);rw[ad];refine p0 (E6 (VR.eqBool (bt _ ku.2.1) (bt _ kx.1) (JY ku.2.2 hu) e3 rx ?_));refine p0 (L5 ho rfl Z ?_);cases hv:cr u x with
    |true=>exact wpAny_ite_true rfl (u4 (Y ((aO _ _).mp hv▸z6 e1)))
    |false =>
     refine wpAny_ite_false rfl ?_;rw[show t.sameMemory t.moves t.mask=some true by unfold SetTable.sameMemory;simp,qI T.rise h2];dsimp only;rw[if_pos rfl];dsimp only;rw[ad];refine p0 (wpAny_isSame_ref_self ?_);rw[if_pos rfl];refine p0 (u4 ?_);refine wpAny_ite_false rfl ?_;refine ih (n-k-1) (JZ h1) B (jo t.mask (k+1) p) _ rfl ((qK _ _ _).trans hpd) (Ka hn) (Kb hf h1) (by rw[<- fF,show k+1+(n-k-1)=n by exact Kc h1];exact he) λk' hk' hn' hb'=>?_;rw[<- fF]at hn' ⊢;refine J (k+1+k') (Ke hk' h1) hn' λi hi=>?_;by_cases ar:i<k
     .exact G i ar
     .by_cases O:i=k
      .rw[O];exact(bF q u h2 e1 (bo.mp hv))
      .obtain f:=hb' (i-(k+1)) (Kf hi O ar);rw[<- fF,show k+1+(i-(k+1))=i by exact Kg O ar]at f;exact f
end
end
section
variable{t:SetTable}{a:Addr}
theorem TOK0.plain(T:TOK0 t es)(b:Bool):TOK0 { t with plain:=b } es:=⟨T.dm,T.msk,T.size,T.rise,T.le,T.reach⟩
def TOK0.plainI(T:TOK0 t es)(c:Bool):TOK0 (if c=true then t else{ t with plain:=false }) es:=by
 cases c with
 |true=>exact T
 |false=>exact T.plain false
def HK(t:SetTable)(c:Bool):(if c=true then t else{ t with plain:=false }).led=t.led/\(if c=true then t else{ t with plain:=false }).mask=t.mask:=by cases c <;> exact⟨rfl,rfl⟩
section
variable{sa:SX}
theorem ESR.insert(r:ESR sa w h us es){p:Nat}(hp:p<=es.size){c:Value}(G:VR sa h x c):ESR sa w h (SetTable.insertAt us.toArray p x).toList (SetTable.insertAt es p (aI w x,c)):=by
 refine⟨by rw[J2,bX,bX,SL,r.len],λi u e a b=>?_⟩;rw[A7,eQ (by rw[SL,r.len];exact hp)]at a;rw[eQ hp]at b;split at a
 .rename_i B;rw[if_pos B]at b;exact r.at_ i u e (by simpa using a) b
 .rename_i B;rw[if_neg B]at b;split at a
  .rename_i F;rw[if_pos F]at b;obtain rfl:=w8 a;obtain rfl:=w8 b;exact⟨rfl,G⟩
  .rename_i F;rw[if_neg F]at b;exact r.at_ _ u e (by simpa using a) b
def lz(us:List V)(p:Nat)(x:V):(SetTable.insertAt us.toArray p x).toList.Perm (x::us):=by rw[cB];refine(List.perm_middle).trans ?_;rw[Q9]
theorem ESR.relay(r:ESR sa w h us es){B:Array Nat}(Y:B.toList.Perm (List.range es.size)):ESR sa w h (B.toList.filterMap (us.toArray[·]?)) (B.filterMap (es[·]?))/\(B.toList.filterMap (us.toArray[·]?)).Perm us:=by
 have J:∀q∈B.toList,q<es.size:=λq hq=>E3.mp (Y.mem_iff.mp hq);have O:us.toArray.size=es.size:=by rw[SL,r.len]
 obtain⟨Q,Z⟩:=bW us.toArray B.toList (by rw[O];exact J);obtain⟨b1,b2⟩:=bW es B.toList J;have G:(B.filterMap (es[·]?)).toList=B.toList.filterMap (es[·]?):=by simp
 refine⟨⟨by rw[Q,<- b1,<- G,J2],λi u e x y=>?_⟩,?_⟩
 .rw[<- A7,G]at y;obtain hi:i<B.toList.length:=by rw[<- Q];exact(z5.mp x).1
  rw[Z i _ (E4 hi)]at x;rw[b2 i _ (E4 hi)]at y;exact r.at_ _ u e (by simpa using x) y
 .obtain F:=Y.filterMap (us.toArray[·]?);rw[<- O,eH]at F;exact F
end
def ee{sa:SX}(F:h.get? a=some (bC es ep t))(sb:Heap.SameBut a h h'):TupKeep sa h h':=λb o _ e hc _=>by
 by_cases B:b=a
 .subst B;rw[F]at e;obtain rfl:=w8 e;simp at hc
 .exact(sb.2 b B).trans e
section
variable{A:Around}{sa:SX}
def fI(T:TOK0 t es):t.tooFull=true↔es.size*5≥t.mask*3:=by unfold SetTable.tooFull SetTable.fill;simp[T.size,T.dm]
def iX{B:Array (Int×Value)}{t':SetTable}{Q:b6}(G:s.heap.get? a=some (bC es ep t))(hz:B.size<=100) (h:∀h',Heap.SameBut a s.heap h'->h'.get? a=some (bC B (ep+1) t')->Q () { s with heap:=h' }):wpAny (model prog w) A (storeSet a B t') Q E s:=by refine wpAny_storeSet_of G rfl (h _ (G0 _ _ _) ?_) (by rw[I9];exact Kh hz);obtain F:=E5 (Obj.putSet B t') G (by rw[putSet_of B t' rfl];rfl);rw[putSet_of B t' rfl]at F;exact F
theorem AT(O:s.heap.get? a=some (bC es ep t))(T:TOK0 t es)(r:ESR sa w s.heap us es)(hl:es.size<=64)(hf:es.size*5≥t.mask*3)(F:es.size<=t.mask)(hb:(es.size-1)*5<t.mask*3){Q:b6} (h:∀h' B J t' G,Heap.SameBut a s.heap h'->h'.get? a=some (bC B J t')->TOK t' B->t'.led=t.led->ESR sa w h' G B->G.Perm us->Q () { s with heap:=h' }) : wpAny (model prog w) A (setRelay a (SetTable.grown es.size)) Q E s:=by
 refine Ri (lW T.msk hl hf F hb) λt' Z e1 e2 _ e4 e5 e6 e7 e8=>?_;refine p0 (L5 O rfl (Fits.of T F) ?_);dsimp only;rw[if_neg (Ki e8),e1];refine p0 ?_;refine J4 (λhc=>?_) (λ_=>u4 ?_)
 .rw[e6]at hc;simp at hc
 dsimp only;refine cq (r.relay e4) λr' p'=>?_;refine iX O (by rw[e6];exact Kj hl) λh' sb Y=>?_;exact h h' _ _ _ _ sb Y e5 e2 (r'.keep (ee O sb)) p'
theorem uI{c:Value}(S:SetR sa w s.heap a 3 us)(hx:vk x=3)(kx:gX x)(rx:VR sa s.heap x c)(hu:A.units+9<cLine)(hroom:us.length<64){Q:b7} (h1:x∈us->Q false s) (hnew:∀h' O,Heap.SameBut a s.heap h'->SetR sa w h' a 3 O->O.Perm (x::us)->Q true { s with heap:=h' }) : wpAny (model prog w) A (setAddHashed a c (aI w x)) Q E s:=by
 obtain⟨⟨es,ep,t,ho,T,hled,r⟩,ad,hnd⟩:=S;obtain hfit:t.fits es.size=true:=Fits.of T.toTOK0 (D9 T.le');obtain⟨b,eb⟩:∃b,c=Value.ref b:=by
  cases x with
  |tup xs=>refine cF rx.tup_inv λb _ eb _=>?_;exact⟨b,eb⟩
  |_=>simp[vk]at hx
 refine E6 (p0 (L5 ho rfl hfit ?_));dsimp only;obtain hbs:byScan c es=false:=by rw[eb];rfl
 simp only[hbs,Bool.false_eq_true,if_false];refine ah (nC T.toTOK0 (D9 T.le') (aI w x)) λn hn he=>?_;have hturn:10*SetTable.turns t.mask<=100000:=by rcases T.msk with h|h|h <;> rw[h] <;> decide
 refine p0 ?_;refine yI ho T r ad kx rx hu (λhm=>?_) n 100000 (t.probeStart (aI w x)) none rfl rfl hn (Kk hturn hn) he λk hk F Y=>?_
 .exact u4 (h1 hm)
 rw[jn]at F Y ⊢;have hnot:x∉us:=λhm=>by
  obtain⟨q,hq⟩:=C0.mp hm;refine bR (r.get hq) λe e1 e2 e3=>?_;have hqp:q<t.place.size:=by rw[T.size];exact(K5.mp e1).1
  have hpl:t.place[q]?=some t.place[q]:=by simp[hqp]
  refine ah (T.reach q _ e hpl e1) λm m1 m2=>?_;rw[e2]at m1 m2;rcases Nat.lt_trichotomy m k with h|h|h
  .refine bN (Y m h) λq' u' f1 f2 f3=>?_;rw[m1]at f1;obtain this:=mX T.rise f1;rw[mX T.rise hpl]at this;subst this;rw[hq]at f2;obtain rfl:=w8 f2;exact f3 rfl
  .subst h;refine F ?_;rw[m1];exact z6 (by rw[A7];exact hpl)
  .exact F (m2 k h)
 obtain ar:Reach t.mask (lj t.place) (cV t.mask (aI w x)) (jo t.mask k (cV t.mask (aI w x))).j:=(af k rfl (λi hi=>by refine bN (Y i hi) λq u f1 _ _=>?_;exact z6 (by rw[A7];exact f1)));obtain T':=T.toTOK0.put (e:=(aI w x,c)) (ul t.mask (aI w x) k) F ar;refine p0 (L5 ho rfl hfit ?_);generalize hj:(jo t.mask k (cV t.mask (aI w x))).j=j at *;have hpe:=vD T.dm j;have hp2:(t.put j).2<=es.size:=by rw[hpe,<- T.size];exact(di T.rise j).1
 have hm':(t.put j).1.mask=t.mask:=by rw[hpe]
 have hl':(t.put j).1.led=t.led:=by rw[hpe]
 have B:(SetTable.insertAt es (t.put j).2 (aI w x,c)).size=es.size+1:=bX _ _ _;have r':=r.insert hp2 rx;have hes:es.size<64:=by rw[<- r.len];exact hroom
 have J:=lz us (t.put j).2 x;have G:∀{O:List V},O.Perm (x::us)->(∀u∈O,vk u=3/\gX u)/\O.Nodup:=λp=>⟨λu hu=>by
  rcases A4.mp (p.mem_iff.mp hu)with e|hu
  .rw[e];exact⟨hx,kx⟩
  .exact ad u hu,p.nodup_iff.mpr (C8.mpr ⟨hnot,hnd⟩)⟩
 have go:∀(bv:Bool),wpAny (model prog w) A (do
   storeSet a (SetTable.insertAt es (t.put j).2 (aI w x,c)) (if bv=true then(t.put j).1 else{ (t.put j).1 with plain:=false })
   if(!false&&(if bv=true then(t.put j).1 else{ (t.put j).1 with plain:=false }).tooFull)=true then do
    setRelay a (SetTable.grown (es.size+1))
    pure true
   else pure true) Q E s:=by
  intro bv;have Tb:=T'.plainI bv;refine cq (HK (t.put j).1 bv) λlb mb=>?_;generalize (if bv=true then(t.put j).1 else{ (t.put j).1 with plain:=false })=tb at *;refine p0 (iX ho (AG B hes) λh' sb ho'=>?_);obtain rb:=r'.keep (ee ho sb);refine J4 (λhc=>?_) (λhc=>?_)
  .have hfull:(es.size+1)*5≥tb.mask*3:=by
    simp only[Bool.not_false,Bool.true_and]at hc;rw[fI Tb,B]at hc
    assumption
   obtain Z:=T.few;obtain hlt:=T.le';rw[<- B];refine p0 (AT (s:={ s with heap:=h' }) ho' Tb rb (Ep B hes) (Kl B hfull) (Er hm' hlt B mb) (by rw[B,mb,hm'];exact Z) λh2 es2 ep2 t2 us2 sb2 ho2 T2 l2 r2 p2=>u4 ?_);obtain pp:=p2.trans J;exact hnew h2 us2 (sb.trans sb2) ⟨(pi es2 ep2 t2 ho2 T2 (by rw[l2,lb,hl',hled]) r2),(G pp).1,(G pp).2⟩ pp
  .have Z:(es.size+1)*5<tb.mask*3:=by simp only[Bool.not_false,Bool.true_and]at hc;rw[fI Tb,B]at hc;exact Km hc
   refine u4 ?_;exact hnew h' _ sb ⟨(pi _ _ tb ho' ⟨Tb,by rw[B];exact Z⟩ (by rw[lb,hl',hled]) rb),(G J).1,(G J).2⟩ J
 refine J4 (λ_=>p0 (w2 kx.1 rx λbv=>?_)) (λ_=>p0 (u4 ?_))
 .exact go bv
 .exact go true
end
end
theorem pA{t:SetTable}(T:TOK0 t es)(hz:es.size<=t.mask)(h:Int):∃j,t.freeSlot h=some (j,false)/\j<=t.mask/\¬lj t.place j/\Reach t.mask (lj t.place) (cV t.mask h) j:=by
 refine ah (nC T hz h) λn Z Q=>?_;refine bR (rE (hashAt:=λ_=>h+1) T.dm T.rise (h:=h) (10*SetTable.turns t.mask) n (cV t.mask h) rfl Z Q) λk Y B F=>?_;rcases F with⟨G,J⟩|⟨q,G,J,O,h4⟩
 .refine(jK ((jo t.mask k (cV t.mask h)).j) ?_ (ul _ _ _) G (af k rfl (λi hi=>?_)))
  .unfold SetTable.freeSlot SetTable.probe;rw[jn,J];rfl
  .refine ah (B i hi) λq f1 _=>?_;exact z6 (by rw[A7];exact f1)
 .exact(Kn O).elim
def tm{t:SetTable}(T:TOK0 t es)(hz:es.size<t.mask)(h:Int)(c:Value):∃j p t',layNew t es h c=(SetTable.insertAt es p (h,c),t',false,false)/\p<=es.size/\TOK0 t' (SetTable.insertAt es p (h,c))/\t'.mask=t.mask/\t'.led=t.led/\j=p:=by
 refine wh (pA T (D9 hz) h) λj Y Z h3 h4=>?_;obtain Q:=T.put (e:=(h,c)) Z h3 h4;obtain B:=vD T.dm j;obtain G:(t.put j).1.mask=t.mask:=by rw[B]
 obtain J:(t.put j).1.led=t.led:=by rw[B]
 obtain O:(t.put j).2<=es.size:=by rw[B,<- T.size];exact(di T.rise j).1
 obtain F:=Fits.of Q (by rw[bX,G];exact FV hz);refine(QX _ ((t.put j).2) ((t.put j).1) ?_ O Q G J rfl);unfold layNew;rw[Y];simp only[SetTable.orStandIn,F,if_true,Bool.not_true]
def pG{t:SetTable}(T:TOK0 t es)(hl:es.size<=64)(hf:es.size*5≥t.mask*3)(J:es.size<=t.mask)(Q:(es.size-1)*5<t.mask*3) : ∃(t':SetTable)(B:Array Nat),relayAll t es (SetTable.grown es.size)=(B.filterMap (es[·]?),t',false)/\t'.led=t.led/\B.toList.Perm (List.range es.size)/\TOK t' (B.filterMap (es[·]?)):=by refine Ri (lW T.msk hl hf J Q) λt' B e1 e2 _ O G Y Z e8=>?_;refine(jL t' B ?_ e2 O G);unfold relayAll;rw[e1];obtain hc:coversAll B es.size=true:=List.isPerm_iff.mpr O;obtain F:=Fits.of G.toTOK0 (D9 G.le');simp only[hc,F,Bool.and_self,if_true]
section
variable{A:Around}{sa:SX}
def tZ(h:vk x≠3)(h0:vk x≠0):rF x=true:=by cases x <;> first|rfl|simp[vk]at h h0
theorem kr{c:Value}(hx:rF x=true)(r:VR sa h x c):c.scannable=true:=by
 cases x with
 |int i=>apply r.int_el;intro t;rfl
 |str i=>apply r.str_el;intro t;rfl
 |_=>exact ai hx
theorem ze{a:Addr}{κ:Nat}{c:Value}(S:SetR sa w s.heap a κ us)(hκ:κ≠3)(hκ0:κ≠0)(hx:vk x=κ)(kx:gX x)(rx:VR sa s.heap x c)(ad:us.length<64){Q:b7} (h1:x∈us->Q false s) (hnew:∀h' O,Heap.SameBut a s.heap h'->SetR sa w h' a κ O->O.Perm (x::us)->Q true { s with heap:=h' }) : wpAny (model prog w) A (setAddHashed a c (aI w x)) Q E s:=by
 letI:DecidableEq V:=bU
 obtain⟨⟨es,ep,t,ho,T,hled,r⟩,G,hnd⟩:=S;obtain hfit:t.fits es.size=true:=Fits.of T.toTOK0 (D9 T.le');have hes:es.size<64:=by rw[<- r.len];exact ad
 have scx:rF x=true:=tZ (by rw[hx];exact hκ) (by rw[hx];exact hκ0);obtain hkey:(bB prog w).is x c=true:=cH scx rx;have scu:∀u∈us,rF u=true:=λu Y=>tZ (by rw[(G u Y).1];exact hκ) (by rw[(G u Y).1];exact hκ0);obtain hel:ElemsOf (bB prog w) es.toList:=λe he=>by obtain⟨i,hi⟩:=C0.mp he;rw[A7]at hi;refine bR (r.get' hi) λu e1 e2 e3=>?_;obtain Y:=scu u (z6 e1);exact⟨(af u (cH Y e3) e2),kr Y e3⟩
 obtain hsc:=kr scx rx;obtain hb:es.size<scanBound:=E8 hes (by decide);refine E6 (p0 (L5 ho rfl hfit ?_));dsimp only;rw[byScan_of hsc hb hel];rw[if_pos rfl];refine p0 ?_;refine p0 (R4 ?_);refine p0 (wpAny_setScan_of (knd:=bB prog w) (k:=x) hkey ho rfl hfit hel ?_);cases hr:List.findIdx? (λe=>(bB prog w).is x e.2) es.toList with
 |some j =>
  refine ah (Q0.mp hr) λhj hpj _=>?_;refine u4 (u4 (h1 ?_));obtain hgj:es[j]?=some es.toList[j]:=by rw[<- A7];exact E4 hj
  refine bR (r.get' hgj) λu e1 e2 e3=>?_;obtain Y:=z6 e1;obtain this:=(bB prog w).inj _ _ _ (cH (scu u Y) e3) hpj;rw[<- this];exact Y
 |none =>
  have hnot:x∉us:=λhm=>by
   obtain⟨q,hq⟩:=C0.mp hm;refine bR (r.get hq) λe e1 e2 e3=>?_
   have:=List.findIdx?_eq_none_iff.mp hr e (z6 (by rw[A7];exact e1))
   rw[show(bB prog w).is x e.2=true from cH scx e3]at this;exact FP this
  refine Pb (tm T.toTOK0 T.le' (aI w x) c) λ_ p t' Z hp T' hm' hl' _=>?_;obtain J:(SetTable.insertAt es p (aI w x,c)).size=es.size+1:=bX _ _ _;obtain r':=r.insert hp rx;obtain B:=lz us p x;have F:∀{O:List V},O.Perm (x::us)->(∀u∈O,vk u=κ/\gX u)/\O.Nodup:=λp=>⟨λu Y=>by
   rcases A4.mp (p.mem_iff.mp Y)with e|Y
   .rw[e];exact⟨hx,kx⟩
   .exact G u Y,p.nodup_iff.mpr (C8.mpr ⟨hnot,hnd⟩)⟩
  have hlay':layNew t es ((bB prog w).hash x) c=(SetTable.insertAt es p (aI w x,c),t',false,false):=Z;have hlay'':=Z;rw[Z];refine p0 (u4 ?_);have go:∀(bv:Bool),∀(tb:SetTable),tb=(if bv=true then t' else{ t' with plain:=false })->∀{g:Bool->Sem Unit},(∀{ac:Shared}{Q':b6},Q' () ac->wpAny (model prog w) A (g false) Q' E ac)->wpAny (model prog w) A (do
    storeSet a (SetTable.insertAt es p (aI w x,c)) tb
    if(!false&&tb.tooFull)=true then do
     g (relayAll tb (SetTable.insertAt es p (aI w x,c)) (SetTable.grown (SetTable.insertAt es p (aI w x,c)).size)).2.2
     storeSet a (relayAll tb (SetTable.insertAt es p (aI w x,c)) (SetTable.grown (SetTable.insertAt es p (aI w x,c)).size)).1 (relayAll tb (SetTable.insertAt es p (aI w x,c)) (SetTable.grown (SetTable.insertAt es p (aI w x,c)).size)).2.1
     pure (some true)
    else pure (some true)) (λo s'=>o=some true/\Q true s') E s:=by
   intro bv tb etb g hg;obtain Tb:=T'.plainI bv;refine cq (HK t' bv) λlb mb=>?_;rw[<- etb]at Tb lb mb;refine p0 (iX ho (AG J hes) λh' sb ho'=>?_);obtain rb:=r'.keep (ee ho sb);refine J4 (λhc=>?_) (λhc=>?_)
   .simp only[Bool.not_false,Bool.true_and]at hc;rw[fI Tb]at hc;obtain hfew:=T.few;obtain hlt:=T.le';refine uA (pG Tb (Ep J hes) hc (Er hm' hlt J mb) (by rw[J,mb,hm'];exact hfew)) λt2 ar e1 e2 e3 e4=>?_;rw[e1];refine cq (rb.relay e3) λr2 p2=>?_;have hs2:(ar.filterMap ((SetTable.insertAt es p (aI w x,c))[·]?)).size=us.length+1:=by rw[<- r2.len,p2.length_eq,B.length_eq];rfl
    refine p0 (hg ?_);refine p0 (iX (s:={ s with heap:=h' }) ho' (by show(ar.filterMap ((SetTable.insertAt es p (aI w x,c))[·]?)).size<=100;exact AG hs2 ad) λh2 sb2 ho2=>u4 ⟨rfl,?_⟩);obtain pp:=p2.trans B;exact hnew h2 _ (sb.trans sb2) ⟨(pi _ _ t2 ho2 e4 (by rw[e2,lb,hl',hled]) (r2.keep (ee ho' sb2))),(F pp).1,(F pp).2⟩ pp
   .simp only[Bool.not_false,Bool.true_and]at hc;rw[fI Tb]at hc;refine u4 ⟨rfl,?_⟩;exact hnew h' _ sb ⟨(pi _ _ tb ho' ⟨Tb,by exact Ko hc⟩ (by rw[lb,hl',hled]) rb),(F B).1,(F B).2⟩ B
  have fin:∀{o:Option Bool}{s':Shared},(o=some true/\Q true s')->wpAny (model prog w) A (match o with|some added=>pure added|none=>setAddHashedIn a c (aI w x) 99999) Q E s':=by rintro o s' ⟨rfl,hq⟩;exact u4 hq
  obtain hgw:∀{ac:Shared}{Q':b6},Q' () ac->wpAny (model prog w) A (pure ():Sem Unit) Q' E ac:=λq=>u4 q;refine J4 (λ_=>p0 (w2 kx.1 rx λbv=>?_)) (λ_=>p0 (u4 ?_))
  .exact z8 (go bv _ rfl hgw) (λo s' hq=>fin hq) λ_ _ e=>e
  .exact z8 (go true _ rfl hgw) (λo s' hq=>fin hq) λ_ _ e=>e
end
section
variable{A:Around}{sa:SX}
def BG{a:Addr}{κ:Nat}{c:Value}(S:SetR sa w s.heap a κ us)(Y:κ≠0)(hx:vk x=κ)(kx:gX x)(rx:VR sa s.heap x c)(hu:A.units+9<cLine)(F:us.length<64){Q:b7} (h1:x∈us->Q false s) (G:x∉us->∀h' B,Heap.SameBut a s.heap h'->SetR sa w h' a κ B->B.Perm (x::us)->Q true { s with heap:=h' }) : wpAny (model prog w) A (setAddHashed a c (aI w x)) Q E s:=by
 have hn:∀{h':Heap}{B:List V},SetR sa w h' a κ B->B.Perm (x::us)->x∉us:=λJ p hm=>by obtain Z:=p.nodup_iff.mp J.nd;exact(C8.mp Z).1 hm
 by_cases O:κ=3
 .subst O;exact uI S hx kx rx hu F h1 λh' B sb J p=>G (hn J p) h' B sb J p
 .exact ze S O Y hx kx rx F h1 λh' B sb J p=>G (hn J p) h' B sb J p
def jq{v:V}(h:vs[i]?=some v)(x:V):x∈vs.take (i+1)↔x=v\/x∈vs.take i:=by rw[List.take_succ,h];simp only[Option.toList_some,List.mem_append,List.mem_singleton];exact or_comm
theorem SetR.keep{a:Addr}{κ:Nat}(S:SetR sa w h a κ us)(k:TupKeep sa h h')(ha:∀o,h.get? a=some o->h'.get? a=some o):SetR sa w h' a κ us :=
 let⟨es,ep,t,B,T,hl,r⟩:=S.obj
 ⟨(pi es ep t (ha _ B) T hl (r.keep k)),S.kind,S.nd⟩
theorem vQ{R:Result->Shared->Prop}{S:Addr}{fp:List Addr}{n:Nat}{P:Nat->Value->Prop}{St:Nat->Heap->Prop}(W:Walks prog w A.in1 I fp [I] n P St)(hSf:S∉fp)(a0:∀i h o,St i h->h.get? I=some o->o.cls≠.type "tuple"){h₀:Heap}(hS0:h₀.get? S=none)(hI0:h₀.get? I=none) {vs:List V} (hP:∀i v,P i v->∃u,vs[i]?=some u/\VR sa h₀ u v) {κ:Nat} (hκ0:κ≠0) (hvs:∀u∈vs,vk u=κ/\gX u) (hn:n=vs.length) (hz:vs.length<64) (hu:A.units+10<cLine) (av:I≠S) : ∀(k i:Nat)(s:Shared)(us:List V),n-i=k->i<=n->St i s.heap->SetR sa w s.heap S κ us->us.length<=i->(∀x,x∈us↔x∈vs.take i)->(∀b o,h₀.get? b=some o->s.heap.get? b=some o) -> (∀s' us,s'.gens=s.gens->s'.os=s.os->SetR sa w s'.heap S κ us->us.length<=n->(∀x,x∈us↔x∈vs)->(∀b o,h₀.get? b=some o->s'.heap.get? b=some o)->R (.ok (.ret .none)) s') -> codeAny (model prog w) A (.builtin "set.update.loop" ⟨[.ref S,.ref I],[]⟩) R s:=by
 obtain oldS:∀{b:Addr}{o:Obj},h₀.get? b=some o->b≠S:=λ{b o} e z=>by rw[z,hS0]at e;exact ns e
 have Q:∀{b:Addr}{o:Obj},h₀.get? b=some o->b≠I:=λ{b o} e z=>by rw[z,hI0]at e;exact ns e
 intro k;induction k with
 |zero =>
  intro i s us hk hi G hS hl B h0 hR;have hin:i=n:=by exact Es hk hi
  subst hin;refine Si PyProof.Rows.F.entry_set_update_loop ?_;rw[P5 N4 _];refine p0 (W.done s _ _ G λh' tk Z=>?_);have kp:∀b o,b≠I->s.heap.get? b=some o->h'.get? b=some o:=λb o hb e=>Z b o (λz=>hb (u5.mp z)) e;have as:TupKeep sa s.heap h':=λb o _ e hc _=>kp b o (λz=>a0 _ _ _ G (z▸e) hc) e;exact u4 (hR _ us rfl rfl (hS.keep as λo e=>kp _ o av.symm e) hl (λx=>by rw[B x,hn,List.take_length]) λb o e=>kp b o (Q e) (h0 b o e))
 |succ k ih =>
  intro i s us hk hi G hS hl B h0 hR;have J:i<n:=by exact Et hk
  refine Si PyProof.Rows.F.entry_set_update_loop ?_;rw[P5 N4 _];refine p0 (W.item i s _ _ J G λv h' tk hPv O Z=>?_);have kp:∀b o,b≠I->s.heap.get? b=some o->h'.get? b=some o:=λb o hb e=>Z b o (λz=>hb (u5.mp z)) e;have as:TupKeep sa s.heap h':=λb o _ e hc _=>kp b o (λz=>a0 _ _ _ G (z▸e) hc) e;have a1:=hS.keep as λo e=>kp _ o av.symm e;have Y:∀b o,h₀.get? b=some o->h'.get? b=some o:=λb o e=>kp b o (Q e) (h0 b o e);refine ah (hP i v hPv) λu ad hu2=>?_;have hu3:VR sa h' u v:=hu2.keep (p7 Y);obtain⟨ku1,ar⟩:=hvs u (z6 ad);refine p0 (E6 ?_);refine E6 ?_;have hA:A.in1.units=A.units+1:=rfl;refine p0 (VR.pyHash (sa:=sa) (s:={ s with heap:=h',toks:=tk }) ar.1 (by obtain this:=ar.2;exact Kp hA hu this) hu3 ?_);refine BG (sa:=sa) (us:=us) (x:=u) (s:={ s with heap:=h',toks:=tk+oU u }) a1 hκ0 ku1 ar hu3 (by assumption) (Kq hn J hl hz) (λhm=>?_) λhnm h2 us2 sb S2 p=>?_
  .refine u4 ⟨plainId_quiet N4 _,ih (i+1) _ us (AI hk) J O a1 (Ed hl) (λx=>?_) Y hR⟩;rw[jq ad,B x];constructor
   .exact .inr
   .rintro(e|e)
    .rw[e];exact(B u).mp hm
    .exact e
  .have hx:∀b,b∈fp->∀o,h'.get? b=some o->h2.get? b=some o:=λb hb o e=>(sb.2 b (λz=>hSf (z▸hb))).trans e;refine u4 ⟨plainId_quiet N4 _,ih (i+1) _ us2 (AI hk) J (W.frame _ _ _ O hx) S2 (by rw[p.length_eq];simp;assumption) (λx=>?_) (λb o e=>(sb.2 b (oldS e)).trans (Y b o e)) hR⟩;rw[jq ad,p.mem_iff,A4,B x]
end
section
variable{A:Around}{sa:SX}
def rh(a:Value){Q₁:a9} (h:Q₁ (.ref s.heap.objs.size) { s with heap:=s.heap.push (bC #[] 0 (.fresh 0 0 (!cJ w))) }) : codeAny (model prog w) A (.call (.builtin "set.__new__") ⟨[.type "set",a],[]⟩) (wants Q₁ E) s:=by
 refine codeAny_of_tree ?_;show wpAny _ A.in1 (do checkBuiltinCall "set.__new__" ⟨[.type "set",a],[]⟩;again (.builtin "set.__new__" ⟨[.type "set",a],[]⟩)) _ _ s;refine p0 (wpAny_of_eq (PySem.F.newCall_set_1 a) (u4 ⟨plainId_quiet PySem.F.plain_set_new _,Si PySem.F.entry_set_new ?_⟩));rw[P5 PySem.F.plain_set_new _];have B:=sub_set_self;obtain⟨hp,g,d,tk,os⟩:=s
 wp_walk
 refine wpAny_askSetting (u4 ?_);refine p0 (wpAny_alloc (u4 ?_));exact u4 h
def yX(prog:Program)(w:World)(s:Shared)(x:Addr)(n:Nat)(P:Nat->Value->Prop):Prop :=
 ∀(A A':Around)(E:a9)(ac:Shared)(Q:a9),A.handled=none->A'.handled=none->(∀b o,s.heap.get? b=some o->ac.heap.get? b=some o) ->
  (∀fp St B,Walks prog w A' ac.heap.objs.size fp [ac.heap.objs.size] n P St->(∀b∈fp,b=ac.heap.objs.size\/s.heap.get? b≠none)->St 0 (ac.heap.push B)->(∀i h o,St i h->h.get? ac.heap.objs.size=some o->o.cls≠.type "tuple") ->
   Q (.ref ac.heap.objs.size) { ac with heap:=ac.heap.push B })->wpAny (model prog w) A (pyIter (.ref x)) Q E ac
def ya{led:Bool}:TOK (SetTable.fresh 0 0 led) #[]:=by
 refine⟨⟨rfl,.inl rfl,rfl,List.Pairwise.nil,λj h=>?_,λi j e h=>?_⟩,show(0:Nat)*5<7*3 by decide⟩
 .exact absurd h y9
 .simp[SetTable.fresh]at h
set_option maxHeartbeats 3200000 in
theorem zy{x:Addr}{T:String}{n:Nat}{P:Nat->Value->Prop}{κ:Nat}{Q:a9}(hT:s.TypeIs (.ref x) T)(hs1:isSubtype (.type T) (.type "set")=pure false)(hs2:isSubtype (.type T) (.type "frozenset")=pure false)(hne:(Value.type T==Value.type "dict")=false) (hh:A.handled=none) (hu:A.units+30<cLine) (O:yX prog w s x n P) (hP:∀i v,P i v->∃u,vs[i]?=some u/\VR sa s.heap u v) (Y:κ≠0) (hvs:∀u∈vs,vk u=κ/\gX u) (hn:n=vs.length) (hz:vs.length<64) (h:∀s' us,Ex s s'->SetR sa w s'.heap s.heap.objs.size κ us->us.length<=vs.length->(∀x,x∈us↔x∈vs)->Q (.ref s.heap.objs.size) s') : wpAny (model prog w) A (call (.type "set") [.ref x]) Q E s:=by
 obtain⟨c,tl,hmro⟩:=PySem.F.called_set.mro;have a5:=PySem.F.called_set.made;have hsub:=PySem.F.called_set.sub;refine wpAny_call (codeAny_of_tree ?_);show wpAny _ _ (callAny (.type "set") _) _ _ _;refine u4 ⟨Code.quiet_builtin _ (by decide +kernel),Si PySem.F.entry_type_call ?_⟩;rw[Around.under_plain (weight_type_call_type "set" [.ref x] []) rfl];have h1:=PySem.F.called_set.notType;have h2:=PySem.F.called_set.canCreate;have hct:=PySem.F.typeCall_set_1 (.ref x)
 repeat (any_goals (first|assumption|wp_step))
 refine SP (rh (.ref x) (E:=E) (Q₁:=λobj ac=>obj=.ref s.heap.objs.size/\ac={ s with heap:=s.heap.push (bC #[] 0 (.fresh 0 0 (!cJ w))) }) ⟨rfl,rfl⟩) λr ac hr=>?_;cases r with
 |error e=>exact hr
 |ok fl =>
  cases fl with
  |ret obj =>
   obtain⟨rfl,rfl⟩:=hr;have hS:(s.heap.push (bC #[] 0 (.fresh 0 0 (!cJ w)))).get? s.heap.objs.size=some (bC #[] 0 (.fresh 0 0 (!cJ w))):=A9 _ rfl;have a0:Shared.TypeIs { s with heap:=s.heap.push (bC #[] 0 (.fresh 0 0 (!cJ w))) } (.ref s.heap.objs.size) "set":=(af _ hS rfl);have hli:=PySem.F.called_set.init.lookup;have hbi:=PySem.F.called_set.init.bind (.ref s.heap.objs.size)
   repeat (any_goals (first|assumption|wp_step))
   refine SP (codeAny_call_builtin (R:=wants (λr ch=>r=.none/\∃us,Ex s ch/\SetR sa w ch.heap s.heap.objs.size κ us/\us.length<=vs.length/\∀x,x∈us↔x∈vs) E) PySem.F.called_set.init.plain PySem.F.entry_set_init (check_set_init_1 a0 ?_)) λZ ch B=>?_
   .have hTx:Shared.TypeIs { s with heap:=s.heap.push (bC #[] 0 (.fresh 0 0 (!cJ w))) } (.ref x) T:=by obtain⟨o,ho,hc⟩:=hT;exact(af o (y6 _ ho) hc)
    have hx:x<s.heap.objs.size:=by obtain⟨o,ho,hc⟩:=hT;exact G9 ho
    unfold Builtin.«set.__init__» noKeywords Builtin.Frozenset.updateFrom;generalize ar:pyIter=PI
    wp_walk
    subst ar;refine O _ A.in1.in1.in1 _ _ _ hh (by simpa using hh) (λb o e=>y6 _ e) λfp St oI W a1 st ad=>?_;refine p0 (wpAny_runValue ?_);have as:SetR sa w ((s.heap.push (bC #[] 0 (.fresh 0 0 (!cJ w)))).push oI) s.heap.objs.size κ [] :=⟨(pi (#[]) 0 _ (y6 _ hS) ya rfl ⟨rfl,λi u e a=>by simp at a⟩),(λu hu=>absurd hu y9),J5⟩
    have G:(s.heap.push (bC #[] 0 (.fresh 0 0 (!cJ w)))).objs.size=s.heap.objs.size+1:=Heap.size_push _ _;have n0:∀b,s.heap.objs.size<=b->s.heap.get? b=none:=λb hb=>B8 hb;refine vQ (sa:=sa) (h₀:=s.heap) W (λhm=>?_) ad (n0 _ (z7 _)) (n0 _ (by rw[G];exact Ay)) hP Y hvs hn hz ?_ (by rw[G];exact Nat.succ_ne_self _) n 0 { s with heap:=(s.heap.push (bC #[] 0 (.fresh 0 0 (!cJ w)))).push oI } [] rfl (E1 _) st as (z7 _) (λx=>by rfl) (λb o e=>?_) λs' us eg eo av a3 a4 a2=>?_
    .rcases a1 _ hm with e|e
     .rw[G]at e;exact absurd e (E9 (K3 _))
     .exact e (n0 _ (z7 _))
    .show A.units+1+1+10<cLine;exact Kr hu
    .exact y6 _ (y6 _ e)
    .show wpAny _ _ _ _ _ _;refine u4 ?_;show wpAny _ _ (ret Value.none) _ _ _;exact u4 ⟨rfl,(jK us ⟨eg,eo,a2⟩ av (Ks hn a3) a4)⟩
   .cases Z with
    |error e=>exact B
    |ok J =>
     cases J with
     |ret r =>
      obtain⟨rfl,us,x1,x2,x3,x4⟩:=B
      repeat (any_goals (first|assumption|wp_step))
      exact h _ us x1 x2 x3 x4
     |_=>exact B.elim
  |_=>exact hr.elim
end
section
variable{a:Addr}
def nu:entryFor table "set.__iter__"=some Builtin.«frozenset.__iter__» :=entryFor_alias (id':="frozenset.__iter__") (by kernel_rfl) rfl (by decide +kernel) (by kernel_rfl)
def lT:Manifest.owners.lookup (String.ofList ['r','o','t','a','r','e','t','i','_','t','e','s'].reverse)=some Manifest.sig_set_iterator:=by kernel_rfl
theorem bD:Slot "set_iterator" "__next__" "set_iterator.__next__" :=
 .of (owner:="set_iterator") (n:="__next__") (by rw[typeLookup_type,builtinLookup_eq_fast];kernel_rfl) (by decide +kernel) (by decide +kernel) (by decide +kernel)
  (by first|exact .inl (by decide +kernel)|exact .inr (by decide +kernel)) (by rw[isSubtype_type];kernel_rfl)
def fS:entryFor table "set_iterator.__next__"=some Builtin.«set_iterator.__next__»:=entryFor_of_tree (by kernel_rfl)
theorem gO(a:Value):argsOk "set_iterator.__next__" ⟨[a],[]⟩:=by unfold argsOk;rw[signature?_of (id:="set_iterator.__next__") (n:=['_','_','t','x','e','n','_','_']) (o:=['r','o','t','a','r','e','t','i','_','t','e','s']) (by kernel_rfl) lT];kernel_rfl
theorem gS:Slot "set_iterator" "__iter__" "set_iterator.__iter__" :=
 .of (owner:="set_iterator") (n:="__iter__") (by rw[typeLookup_type,builtinLookup_eq_fast];kernel_rfl) (by decide +kernel) (by decide +kernel) (by decide +kernel)
  (by first|exact .inl (by decide +kernel)|exact .inr (by decide +kernel)) (by rw[isSubtype_type];kernel_rfl)
def kL:entryFor table "set_iterator.__iter__"=some Builtin.«dict_keyiterator.__iter__» :=entryFor_alias (id':="dict_keyiterator.__iter__") (by kernel_rfl) rfl (by decide +kernel) (by kernel_rfl)
theorem mm(a:Value):argsOk "set_iterator.__iter__" ⟨[a],[]⟩:=by unfold argsOk;rw[signature?_of (id:="set_iterator.__iter__") (n:=['_','_','r','e','t','i','_','_']) (o:=['r','o','t','a','r','e','t','i','_','t','e','s']) (by kernel_rfl) lT];kernel_rfl
theorem jw:∀{l:List α}{i:Nat}(h:i<l.length),(l[i]::l.eraseIdx i).Perm l
 |x::l,0,_=>K6 _
 |x::l,i+1,h=>by exact(List.Perm.swap _ _ _).trans ((jw (Nat.lt_of_succ_lt_succ h)).cons x)
theorem lU(next:Nat->Nat):∀(f k:Nat)(left:List α)(out:Array α),f=left.length->(pickOrder.go next f k left out).toList.Perm (out.toList++left)
 |0,k,left,out,h=>by obtain F:left=[]:=K7.mp h.symm;subst F;show out.toList.Perm _;simp
 |f+1,k,left,out,h=>by obtain B:next k%left.length<left.length:=Nat.mod_lt _ (Kt h);have e:pickOrder.go next (f+1) k left out=(match left[next k%left.length]? with|some x=>pickOrder.go next f (k+1) (left.eraseIdx (next k%left.length)) (out.push x)|none=>out):=rfl;rw[e,E4 B];refine(lU next f (k+1) _ _ (by rw[List.length_eraseIdx_of_lt B];exact Eu h)).trans ?_;rw[Array.toList_push,K4,List.singleton_append];refine List.Perm.append_left _ ?_;exact jw B
def dK(next:Nat->Nat)(xs:Array α):(pickOrder next xs).toList.Perm xs.toList:=by unfold pickOrder;obtain B:=lU next xs.size 0 xs.toList #[] (by simp);simpa using B
section
variable{A:Around}{sa:SX}
theorem gU:∀(n:Nat)(xs:List α){s:Shared}{Q:List α->Shared->Prop},n=xs.length->(∀ys d,ys.Perm xs->Q ys { s with drawn:=d })->wpAny (model prog w) A (drawOrder n xs) Q E s
 |0,xs,s,Q,h,q=>by obtain B:xs=[]:=K7.mp h.symm;subst B;exact u4 (q [] s.drawn (K6 _))
 |n+1,[],s,Q,h,q=>by simp at h
 |n+1,x::xs,s,Q,h,q=>by refine p0 (ss (by simp) λi d hi=>?_);rw[E4 hi];refine p0 (gU n _ (by rw[List.length_eraseIdx_of_lt hi];exact Eu h) λys F p=>u4 (q _ F ?_));exact(p.cons _).trans (jw hi)
def IsSetIter(h:Heap)(it a:Addr)(first:Value)(i n ep:Nat):Prop:=∃o,h.get? it=some o/\o.cls=.type "set_iterator"/\o.data=.fields #[first,.int i 0,.ref a,.int n 0,.int ep 0]
theorem IsSetIter.typeIs{first:Value}{n:Nat}(x:IsSetIter s.heap it a first i n ep):s.TypeIs (.ref it) "set_iterator":=by refine bR x λo B hc _=>?_;exact⟨o,B,hc⟩
def qH{Q:Option Value->Shared->Prop}{vs:Array Value}(hh:A.handled=none)(J:s.heap.get? it=some o)(hd:o.data=.fields vs)(G:j<vs.size)(F:∀h',Heap.ExtBut it s.heap h'->Q none { s with heap:=h' }) : wpAny (model prog w) A.in1 (do setField (.ref it) j .none;raiseNew (<- newExc (.type "StopIteration") []):Sem Fin) (λB s'=>∃v,B=.done (.ret v)/\False) (λe s'=>wpAny (model prog w) A (do if <- isInstance e (.type "StopIteration")then pure none else throw e) Q E s') s:=by refine p0 (R7 J hd G ?_);refine p0 ?_;refine p0 (M7 ?_ (by size_fits));refine p0 (m:=firstArgMember _ _) (wpAny_of_eq (a:=Value.none) (by first|rfl|(simp only[firstArgMember];rfl)) ?_);refine M7 ?_ (by size_fits);refine p0 (wpAny_handled ?_);rw[show A.in1.handled=none from hh];refine p0 (u4 (wpAny_throw ?_));refine p0 (wpAny_isInstance (T:="StopIteration") (b:=true) ⟨_,A9 _ rfl,rfl⟩ isSubtype_stop ?_);exact u4 (F _ (((G0 ..).extBut.push _).push _))
theorem oJ(n:Nat):((n:Int) !=(n:Int))=false:=by simp
theorem gH{t:SetTable}(r:Option (Value×Nat)){Q:Option Value->Shared->Prop}(hh:A.handled=none)(hit:IsSetIter s.heap it a (.int k 0) i es.size ep)(ho:s.heap.get? a=some (bC es ep t))(hf:t.fits es.size=true) (hn:∀{A':Around}{Z:a9}{R:Option (Value×Nat)->Shared->Prop},R r s->wpAny (model prog w) A' (setNext a k i ep) R Z s) (O:∀h',match r with|some x=>IsSetIter h' it a (.int x.2 0) (i+1) es.size ep->Heap.SameBut it s.heap h'->Q (some x.1) { s with heap:=h' } |none=>Heap.ExtBut it s.heap h'->Q none { s with heap:=h' }):wpAny (model prog w) A (pyNext (.ref it)) Q E s:=by
 refine bR (id hit) λo B hc hd=>?_;refine p0 (wpAny_attempt (J7 (name:=Str.ofString "__next__") hit.typeIs bD
  (G1 bD hit.typeIs fS ?_ (gO _))))
 refine p0 (u4 ?_);refine p0 (wpAny_fieldsOf B hd ?_);refine p0 (wpAny_setEntries_of ho rfl hf ?_);refine J4 (λhc=>absurd hc (by rw[oJ];exact C7)) λ_=>?_;refine p0 (hn ?_);rcases r with _|⟨x,Y⟩
 .exact z8 (qH (j:=2) hh B hd (by decide:2<5) O) (λ_ _ h=>ah h λ_ _ f=>f.elim) λ_ _ e=>e
 .refine p0 (R7 B hd (by decide:0<5) ?_);obtain ho1:=E5 (Obj.mapFields (·.setIfInBounds 0 (rawInt (Y:Int)))) B (RW (K1 hd _));obtain F:=K1 hd (·.setIfInBounds 0 (rawInt (Y:Int)));refine p0 (R7 ho1 F (by decide:1<5) ?_);obtain J:=E5 (Obj.mapFields (·.setIfInBounds 1 (rawInt ((i:Int)+1)))) ho1 (RW (K1 F _));obtain G:=K1 F (·.setIfInBounds 1 (rawInt ((i:Int)+1)));refine u4 (af _ rfl (u4 (O _ (aK _ J ?_ G) ((G0 ..).trans (G0 ..)))));rw[Obj.cls_mapFields,Obj.cls_mapFields];exact hc
def qz{t:SetTable}(B:cJ w=true)(F:s.heap.get? a=some (bC es ep t))(hf:t.fits es.size=true){R:Option (Value×Nat)->Shared->Prop} (h:R (((pickOrder (w.params.setOrder a ep) es)[i]?).map λe=>(e.2,k)) s):wpAny (model prog w) A (setNext a k i ep) R E s:=by refine p0 (L5 F rfl hf ?_);refine p0 (cW ?_);rw[B,if_pos rfl];refine wpAny_ite_false (E2 (by rw[bne_self_eq_false];exact C7)) ?_;refine p0 ?_;refine p0 (L5 F rfl hf ?_);refine p0 (cW ?_);rw[B,if_pos rfl];refine p0 (wpAny_askSetting (u4 ?_));exact u4 h
def nW{t:SetTable}(B:cJ w=false)(hp:(!t.plain&&decide (es.size>1))=false)(hl:t.led=true)(F:s.heap.get? a=some (bC es ep t))(hf:t.fits es.size=true){R:Option (Value×Nat)->Shared->Prop} (h:R (match es[SetTable.below t.place k]?,t.place[SetTable.below t.place k]? with|some (_,x),some j=>some (x,j+1)|_,_=>none) s):wpAny (model prog w) A (setNext a k i ep) R E s:=by refine p0 (L5 F rfl hf ?_);dsimp only;refine p0 (cW ?_);rw[B,if_neg C7];refine J4 (λhc=>Bool.noConfusion (hp.symm.trans (hc:(!t.plain&&decide (es.size>1))=true))) λ_=>?_;refine p0 ?_;refine J4 (λhc=>?_) λ_=>u4 (u4 h);rw[hl]at hc;simp at hc
end
end
section
variable{A:Around}{sa:SX}
noncomputable abbrev dA(ps:List Nat):Obj:={ cls:=.type "tuple",data:=.seq (ps.map λ(i:Nat)=>rawInt (i:Int)).toArray 0 }
theorem qd{a p:Addr}{t:SetTable}{ps:List Nat}(r:Option Value){Q:Option Value->Shared->Prop}(hh:A.handled=none)(hit:IsSetIter s.heap it a (.ref p) i es.size ep)(ho:s.heap.get? a=some (bC es ep t))(hf:t.fits es.size=true) (hp:s.heap.get? p=some (dA ps)) (hj:match r with|some x=>∃j e,ps[i]?=some j/\es[j]?=some e/\x=e.2|none=>ps[i]?=none) (Y:∀h',match r with|some x=>IsSetIter h' it a (.ref p) (i+1) es.size ep->Heap.SameBut it s.heap h'->Q (some x) { s with heap:=h' } |none=>Heap.ExtBut it s.heap h'->Q none { s with heap:=h' }):wpAny (model prog w) A (pyNext (.ref it)) Q E s:=by
 refine bR (id hit) λo B hc hd=>?_;refine p0 (wpAny_attempt (J7 (name:=Str.ofString "__next__") hit.typeIs bD
  (G1 bD hit.typeIs fS ?_ (gO _))))
 refine p0 (u4 ?_);refine p0 (wpAny_fieldsOf B hd ?_);refine p0 (wpAny_setEntries_of ho rfl hf ?_);refine J4 (λhc=>absurd hc (by rw[oJ];exact C7)) λ_=>?_;refine p0 (M3 hp rfl ?_);have O:(ps.map λ(i:Nat)=>rawInt (i:Int)).toArray[i]?=(ps[i]?).map λ(i:Nat)=>rawInt (i:Int):=by rw[List.getElem?_toArray,B6]
 dsimp only;rw[N5,O];rcases r with _|x
 .rw[(hj:ps[i]?=none)];refine p0 (R7 B hd (by decide:0<5) ?_);obtain ho1:=E5 (Obj.mapFields (·.setIfInBounds 0 (rawInt 0))) B (RW (K1 hd _));obtain F:=K1 hd (·.setIfInBounds 0 (rawInt 0));refine z8 (qH (s:={ s with heap:=_ }) (j:=2) hh ho1 F (by decide:2<5) λh' x=>Y h' ?_) (λ_ _ h=>ah h λ_ _ f=>f.elim) λ_ _ e=>e
  exactλb o Z e=>x b o Z ((L7 _ _ (Tc Z)).trans e)
 .refine bN hj λj e G he zx=>?_;subst zx;rw[G];refine p0 ?_;refine p0 (L5 ho rfl hf ?_);refine wpAny_ite_false (E2 (by rw[N5,bne_self_eq_false];exact C7)) ?_;rw[N5,he];refine u4 ?_;refine p0 (R7 B hd (by decide:1<5) ?_);obtain J:=E5 (Obj.mapFields (·.setIfInBounds 1 (rawInt ((i:Int)+1)))) B (RW (K1 hd _));refine u4 (af _ rfl (u4 (Y _ (aK _ J ?_ (K1 hd (·.setIfInBounds 1 (rawInt ((i:Int)+1))))) (G0 ..))));rw[Obj.cls_mapFields];exact hc
theorem gG{a:Addr}{first:Value}{n:Nat}{Q:a9}(hit:IsSetIter s.heap it a first i n ep)(h:Q (.ref it) s):wpAny (model prog w) A (pyIter (.ref it)) Q E s:=by refine wpAny_pyIter_slot hit.typeIs gS (G1 gS hit.typeIs kL ?_ (mm _));exact u4 (af _ rfl (bF ("set_iterator") _ hit.typeIs bD.lookup h))
theorem IsSetIter.at_{a:Addr}{first:Value}{n:Nat}(x:IsSetIter h it a first i n ep)(e:∀o,h.get? it=some o->h'.get? it=some o):IsSetIter h' it a first i n ep:=by refine ah x λo B r=>?_;exact(af o (e _ B) r)
noncomputable def kY(t:SetTable):Nat->Nat
 |0=>0
 |i+1=>(t.place.getD i 0)+1
def lZ{t:SetTable}(h:t.place[i]?=some j):kY t (i+1)=j+1:=by show t.place.getD i 0+1=j+1;rw[Array.getD_eq_getD_getElem?,h];rfl
theorem jO{t:SetTable}(T:TOK t es):∀i,i<=es.size->SetTable.below t.place (kY t i)=i
 |0,_=>uN T.rise
 |i+1,hi=>by
  have B:i<t.place.size:=by rw[T.size];exact Ku hi
  obtain F:t.place[i]?=some t.place[i]:=by simp[B]
  rw[lZ F];exact uM T.rise F
theorem wg(G:cJ w=true)(hh:A.handled=none)(I a:Addr)(ar:a≠I)(es:Array (Int×Value))(ep:Nat)(t:SetTable)(hf:t.fits es.size=true) : Walks prog w A I [I,a] [I] es.size (λi v=>((pickOrder (w.params.setOrder a ep) es).toList.map (·.2))[i]?=some v) (λi h=>IsSetIter h I a (.int 0 0) i es.size ep/\h.get? a=some (bC es ep t)) where
 sub:=λb G=>by simp at G;simp[G]
 frame:=λ_ _ _ st hk=>⟨st.1.at_ λo e=>hk I (y4) o e,hk a (by simp) _ st.2⟩
 item:=λi s Q E hi st J=>by
  have B:(pickOrder (w.params.setOrder a ep) es).size=es.size:=by obtain F:=(dK (w.params.setOrder a ep) es).length_eq;simpa using F
  have hx:(pickOrder (w.params.setOrder a ep) es)[i]?=some ((pickOrder (w.params.setOrder a ep) es)[i]'(yq B hi)):=by simp[B,hi]
  refine gH (k:=0) (some (_,0)) hh st.1 st.2 hf (λ{A' E' R} Z=>qz G st.2 hf (by rw[hx];exact Z)) λh' O Y=>?_;exact J _ h' s.toks (by rw[B6,A7,hx];rfl) ⟨O,(Y.2 a ar).trans st.2⟩ λb o G e=>Y.extBut b o (λh=>G (by simp[h])) e
 done:=λs Q E st J=>by
  have B:(pickOrder (w.params.setOrder a ep) es).size=es.size:=by obtain F:=(dK (w.params.setOrder a ep) es).length_eq;simpa using F
  refine gH (k:=0) none hh st.1 st.2 hf (λ{A' E' R} Z=>qz G st.2 hf (by rw[Sm (Ew B)];exact Z)) λh' ad=>J h' s.toks λb o G e=>ad b o (λh=>G (by simp[h])) e
 self:=λ_ _ _ _ st J=>gG st.1 J
theorem uz(F:cJ w=false)(hh:A.handled=none)(I a:Addr)(as:a≠I)(es:Array (Int×Value))(ep:Nat)(t:SetTable)(T:TOK t es)(hp:(!t.plain&&decide (es.size>1))=false)(hl:t.led=true) : Walks prog w A I [I,a] [I] es.size (λi v=>(es.toList.map (·.2))[i]?=some v) (λi h=>IsSetIter h I a (.int (kY t i) 0) i es.size ep/\h.get? a=some (bC es ep t)) where
 sub:=λb F=>by simp at F;simp[F]
 frame:=λ_ _ _ st hk=>⟨st.1.at_ λo e=>hk I (y4) o e,hk a (by simp) _ st.2⟩
 item:=λi s Q E hi st G=>by
  have hf:t.fits es.size=true:=Fits.of T.toTOK0 (D9 T.le');obtain B:=jO T;have ar:i<t.place.size:=by rw[T.size];exact hi
  have hg:t.place[i]?=some t.place[i]:=by simp[ar]
  have J:es[i]?=some (es[i].1,es[i].2):=by simp[hi]
  obtain av:=lZ hg;refine gH (k:=kY t i) (some (_,kY t (i+1))) hh st.1 st.2 hf (λ{A' E' R} Z=>nW F hp hl st.2 hf (by rw[B i (D9 hi),J,hg];rw[av]at Z;exact Z)) λh' O Y=>?_;exact G _ h' s.toks (by rw[B6,A7,J];rfl) ⟨O,(Y.2 a as).trans st.2⟩ λb o F e=>Y.extBut b o (λh=>F (by simp[h])) e
 done:=λs Q E st G=>by have hf:t.fits es.size=true:=Fits.of T.toTOK0 (D9 T.le');have B:=jO T es.size (z7 _);refine gH (k:=kY t es.size) none hh st.1 st.2 hf (λ{A' E' R} Z=>nW F hp hl st.2 hf (by rw[B];simp;exact Z)) λh' ad=>G h' s.toks λb o F e=>ad b o (λh=>F (by simp[h])) e
 self:=λ_ _ _ _ st G=>gG st.1 G
theorem uy(hh:A.handled=none)(I a p:Addr)(hne:a≠I)(hpI:p≠I)(es:Array (Int×Value))(ep:Nat)(t:SetTable)(hf:t.fits es.size=true)(ps:List Nat)(F:ps.Perm (List.range es.size)) : Walks prog w A I [I,a,p] [I] es.size (λi v=>((ps.filterMap (es[·]?)).map (·.2))[i]?=some v) (λi h=>IsSetIter h I a (.ref p) i es.size ep/\h.get? a=some (bC es ep t)/\h.get? p=some (dA ps)) where
 sub:=λb J=>by simp at J;simp[J]
 frame:=λ_ _ _ st hk=>(cO (st.1.at_ λo e=>hk I (y4) o e) (hk a (by simp) _ st.2.1) (hk p (by simp) _ st.2.2))
 item:=λi s Q E hi st O=>by
  have B:ps.length=es.size:=by simpa using F.length_eq
  have Z:∀q∈ps,q<es.size:=λq hq=>E3.mp (F.mem_iff.mp hq);have hj:ps[i]?=some (ps[i]'(yq B hi)):=by simp[B,hi]
  have hq:=Z _ (z6 hj);have he:es[ps[i]'(yq B hi)]?=some (es[ps[i]'(yq B hi)]'hq):=by simp[hq]
  refine qd (some _) hh st.1 st.2.1 hf st.2.2 (bF _ _ hj he rfl) λh' Y G=>?_;exact O _ h' s.toks (by rw[B6,(bW es ps Z).2 i _ hj,he];rfl) (cO Y ((G.2 a hne).trans st.2.1) ((G.2 p hpI).trans st.2.2)) λb o J e=>G.extBut b o (λh=>J (by simp[h])) e
 done:=λs Q E st O=>by
  have B:ps.length=es.size:=by simpa using F.length_eq
  exact qd none hh st.1 st.2.1 hf st.2.2 (by simp;exact Ew B) λh' ad=>O h' s.toks λb o J e=>ad b o (λh=>J (by simp[h])) e
 self:=λ_ _ _ _ st O=>gG st.1 O
end
section
variable{A:Around}{sa:SX}
theorem VRs.perm{cs G:List Value}(p:G.Perm cs):∀{us:List V},VRs sa h us cs->∃B,B.Perm us/\VRs sa h B G:=by
 obtain q:=p.symm;clear p;induction q with
 |nil=>intro us r;exact(af us (K6 _) r)
 |cons c p Z =>
  intro us r;rcases us with _|⟨u,us⟩
  .have:=r.nil_inv;exact(E7 _ _ this).elim
  .refine bN r.cons_inv λc' cs e J F=>?_;cases e;refine ah (Z F) λB p' r'=>?_;exact(af (u::B) (p'.cons u) (.cons J r'))
 |swap c d l =>
  intro us r;rcases us with _|⟨u,us⟩
  .have:=r.nil_inv;exact(E7 _ _ this).elim
  .refine bN r.cons_inv λ_ _ e J F=>?_;cases e;rcases us with _|⟨u',us⟩
   .have:=F.nil_inv;exact(E7 _ _ this).elim
   .refine bN F.cons_inv λ_ _ e r3 r4=>?_;cases e;exact(af (u'::u::us) (List.Perm.swap _ _ _) (.cons r3 (.cons J r4)))
 |trans p q O Q =>intro us r;refine ah (O r) λus1 p1 J=>?_;refine ah (Q J) λY p2 F=>?_;exact(af Y (p2.trans p1) F)
theorem ESR.vrs(r:ESR sa w h us es):VRs sa h us (es.toList.map (·.2)):=by
 have gen:∀(us:List V)(es:List (Int×Value)),us.length=es.length->(∀(i:Nat)(u:V)(e:Int×Value),us[i]?=some u->es[i]?=some e->VR sa h u e.2)->VRs sa h us (es.map (·.2)):=by
  intro us;induction us with
  |nil =>intro es hl _;rw[K7.mp hl.symm];exact .nil
  |cons u us B =>
   intro es hl hk;rcases es with _|⟨e,es⟩
   .simp at hl
   .exact .cons (hk 0 u e rfl rfl) (B es (by simpa using hl) λi F e' a b=>hk (i+1) F e' (by simpa using a) (by simpa using b))
 exact gen us es.toList r.len λi u e a b=>(r.at_ i u e a (by rw[<- A7];exact b)).2
theorem zX{r:Addr}{Q:b7}(hT:s.TypeIs (.ref r) "set")(h:Q false s):wpAny (model prog w) A (Builtin.List.listLengthHint (.ref r)) Q E s:=by refine p0 (SF hT PySem.F.slot_set_len.lookup ?_);generalize G:("set.__len__":String)=id0;wp_delta;rw[show splitId id0=some ("set","__len__")from by subst G;decide +kernel];subst G;refine p0 (wpAny_isInstance (T:="set") (b:=true) hT (by rw[isSubtype_type];kernel_rfl) ?_);refine J4 (λB=>absurd B (by decide)) (λ_=>?_);refine J4 (λ_=>?_) (λB=>absurd (by decide +kernel) B);refine p0 (wpAny_typeOf hT ?_);exact u4 h
def uc{a:Addr}{t:SetTable}{Q:b7}(B:s.heap.get? a=some (bC es ep t))(hf:t.fits es.size=true)(h:Q (!cJ w&&(!t.plain&&decide (es.size>1))) s):wpAny (model prog w) A (setDrawn a) Q E s:=by refine p0 (L5 B rfl hf ?_);exact p0 (cW (u4 h))
theorem sO{a:Addr}{κ:Nat}{R:List Value->Shared->Prop}(hh:A.handled=none)(S:SetR sa w s.heap a κ us)(hz:us.length<=100)(h:∀s' cvs B,Ex s s'->B.Perm us->VRs sa s.heap B cvs->R cvs s'):wpAny (model prog w) A (collect (.ref a)) R E s:=by
 obtain⟨⟨es,ep,t,ho,T,ad,r⟩,hkind,hnd⟩:=S;have hf:t.fits es.size=true:=Fits.of T.toTOK0 (D9 T.le');obtain hsl:(100:Nat)<=sizeLine:=by rw[I9];exact AA
 have Z:es.size<=100:=by rw[<- r.len];exact hz
 refine ly (T:="set") (n:=es.size) (G:=λP=>∃ws:List Value,(∃B,B.Perm us/\VRs sa s.heap B ws)/\ws.length=es.size/\P=λi v=>ws[i]?=some v) (G9 ho) (af _ ho rfl) (by decide) (by decide) (λ_ _ _ hT q=>zX hT q) (Ey hsl Z) (λE ac Q x1 hQ=>?_) λs' acc P hG x Y=>?_
 .have ho1:=x1.heap _ _ ho;have ar:a<ac.heap.objs.size:=G9 ho1;have av:ac.TypeIs (.ref a) "set":=(af _ ho1 rfl);have vrs:=r.vrs;have mk:∀{Γ:List (Int×Value)},Γ.Perm es.toList->∃B,B.Perm us/\VRs sa s.heap B (Γ.map (·.2)):=λp=>VRs.perm (p.map _) vrs;refine wpAny_pyIter_slot av PySem.F.slot_set_iter (G1 PySem.F.slot_set_iter av nu ?_ (PySem.F.args_set_iter_1 _));unfold Builtin.«frozenset.__iter__» Builtin.Frozenset.slot0 slotArgs;simp only[List.isEmpty_nil,Bool.not_true,Bool.false_eq_true,if_false,bind_assoc,List.length_nil,bne_self_eq_false];refine p0 (u4 ?_)
  try dsimp only
  refine p0 (u4 ?_);refine p0 (p0 (wpAny_setEntries_of ho1 rfl hf (u4 ?_)));refine p0 (uc ho1 hf ?_);refine J4 (λhc=>?_) (λhc=>?_)
  .refine p0 (gU _ _ (by simp) λps d O=>?_);refine p0 (wpAny_newTuple ?_ (by show(ps.map _).length<=_;rw[u1,O.length_eq,Sd];exact Ey hsl Z));obtain hpo:(ac.heap.push (dA ps)).get? ac.heap.objs.size=some (dA ps):=A9 _ rfl;obtain ho2:(ac.heap.push (dA ps)).get? a=some (bC es ep t):=y6 _ ho1;refine p0 (wpAny_setEpoch_of (s:={ ac with heap:=ac.heap.push (dA ps),drawn:=d }) ho2 rfl hf ?_);refine p0 (M7 (u4 (af _ rfl (bF ("set_iterator") _ (af _ (A9 _ rfl) rfl) bD.lookup ?_))));obtain as:(ac.heap.push (dA ps)).objs.size=ac.heap.objs.size+1:=Heap.size_push _ _;obtain W:=uy (prog:=prog) (w:=w) (A:=A.in1) hh (ac.heap.push (dA ps)).objs.size a ac.heap.objs.size (by rw[as];exact E9 (L4 ar)) (by rw[as];exact E9 (K3 _)) es ep t hf ps O;refine hQ _ _ _ _ _ (aK _ (mk ((O.filterMap (es[·]?)).trans (by rw[eH]))) ?_ rfl) W (cO (aK _ (A9 _ rfl) rfl rfl) (y6 _ ho2) (y6 _ hpo)) (B8 (by rw[as];exact P7 _)) (λb J=>?_) ⟨rfl,rfl,λb o e=>y6 _ (y6 _ e)⟩
   .obtain hlt:∀q∈ps,q<es.size:=λq hq=>E3.mp (O.mem_iff.mp hq);rw[u1,(bW es ps hlt).1,O.length_eq,Sd]
   .rcases A4.mp J with e|J
    .exact .inl e
    .rcases A4.mp J with e|J
     .rw[e];exact .inr (.inl (by rw[ho];simp))
     .rw[u5.mp J];exact .inr (.inr (B8 (z7 _)))
  .refine p0 (u4 ?_);refine p0 (wpAny_setEpoch_of ho1 rfl hf ?_);refine p0 (M7 (u4 (af _ rfl (bF ("set_iterator") _ (af _ (A9 _ rfl) rfl) bD.lookup ?_))));have a0:∀b∈[ac.heap.objs.size,a],b=ac.heap.objs.size\/s.heap.get? b≠none\/ac.heap.get? b=none:=λb J=>by
    rcases A4.mp J with e|J
    .exact .inl e
    .rw[u5.mp J];exact .inr (.inl (by rw[ho];simp))
   cases J:cJ w with
   |true =>
    have a1:((pickOrder (w.params.setOrder a ep) es).toList.map (·.2)).length=es.size:=by rw[u1,(dK (w.params.setOrder a ep) es).length_eq];simp
    exact hQ _ _ _ _ _ (aK _ (mk (dK (w.params.setOrder a ep) es)) a1 rfl) (wg (A:=A.in1) J hh _ a (E9 ar) es ep t hf) ⟨(aK _ (A9 _ rfl) rfl rfl),y6 _ ho1⟩ (B8 (z7 _)) a0 (Ex.push _ _ _)
   |false =>rw[J]at hc;rw[J]at ad;exact hQ _ _ _ _ _ (aK _ (mk (K6 _)) (u1 _) rfl) (uz (A:=A.in1) J hh _ a (E9 ar) es ep t T (L0.mpr hc) ad) ⟨(aK _ (A9 _ rfl) rfl rfl),y6 _ ho1⟩ (B8 (z7 _)) a0 (Ex.push _ _ _)
 .refine bR hG λws aX hwl bV=>?_;obtain⟨B,p,rr⟩:=aX;subst bV
  have:acc.toList=ws:=by
   apply Sc;intro j;rcases e:acc[j]? with _|v
   .obtain h1:es.size<=j:=by rw[<- Y.1];simpa using e
    rw[A7,e,Q8 (Ez hwl h1)]
   .rw[A7,e];exact(Y.2 j v e).symm
  rw[this];exact h s' ws B x p rr
end
def sortable.perm{ws:List V}(B:sortable vs)(p:ws.Perm vs):sortable ws :=(sw (by rw[p.length_eq];exact B.1) (λx hx=>B.2.1 x (p.mem_iff.mp hx)) (B.2.2.1.imp (λh=>by rw[p.length_eq];exact h) λh x hx=>h x (p.mem_iff.mp hx)) (λx hx y hy=>B.2.2.2 x (p.mem_iff.mp hx) y (p.mem_iff.mp hy)))
def eu{ws:List V}(hc:∀x∈vs,∀y∈vs,cG x y=true)(p:ws.Perm vs):aH ws=aH vs:=by have B:∀x∈ws,∀y∈ws,cG x y=true:=λx hx y hy=>hc x (p.mem_iff.mp hx) y (p.mem_iff.mp hy);refine et ((aw ws).trans (p.trans (aw vs).symm)) (λx hx y hy=>B x ((aw ws).mem_iff.mp hx) y ((aw ws).mem_iff.mp hy)) (dN ws B) (dN vs hc)
theorem bn:∀{vs:List V}{x:V},x∈bf vs↔x∈vs
 | [],x=>by simp[bf]
 |v::vs,x=>by
  unfold bf;rw[A4,A4,I4,bn];constructor
  .rintro(e|⟨h,_⟩)
   .exact .inl e
   .exact .inr h
  .rintro(e|h)
   .exact .inl e
   .by_cases e:x=v
    .exact .inl e
    .exact .inr ⟨h,by rw[bo.mpr e];rfl⟩
theorem cA:∀(vs:List V),(bf vs).Nodup
 | []=>by simp[bf]
 |v::vs=>by refine C8.mpr ⟨λh=>?_,(cA vs).filter _⟩;obtain B:=(I4.mp h).2;rw[bE]at B;exact ai B
theorem de:∀(vs:List V),(bf vs).length<=vs.length
 | []=>by simp[bf]
 |v::vs=>by obtain B:=de vs;obtain F:=N9 (λw=>!cr w v) (bf vs);exact Kv F B
def sortable.dedup(B:sortable vs):sortable (bf vs) :=(sw (z0 (de vs) B.1) (λx hx=>B.2.1 x (bn.mp hx)) (B.2.2.1.imp (λh=>z0 (de vs) h) λh x hx=>h x (bn.mp hx)) (λx hx y hy=>B.2.2.2 x (bn.mp hx) y (bn.mp hy)))
def sortable.kind(B:sortable vs):∃κ,κ≠0/\∀u∈vs,vk u=κ/\gX u:=by
 rcases vs with _|⟨v,vs⟩
 .exact(af 1 (by decide) (λu h=>absurd h y9))
 .refine(af (vk v) ((sq (B.2.2.2 v y4 v y4)).2) (λu F=>⟨(sq (B.2.2.2 u F v y4)).1,B.2.1 u F⟩))
section
variable{H:AH}{A:Around}{d:Nat}{Q:b8}
def Ex.step(x:Ex s s')(R:aD L H s.heap):ay L eE H H s s':=q9 R x.gens x.os x.heap
theorem fu{x:Value}{B:List V}(F:ae L env loc H s.heap)(R:aD L H s.heap)(hr:Room A d)(Y:sortable B)(q:fresh H Q (.list (aH B))) (G:wpAny (model L.prog L.w) A.in1 (collect x) (λcvs s'=>∃vs,VRs L.sa s'.heap vs cvs/\vs.Perm B/\Ex s s') aG s):a8 L A (call (.builtin "sorted") [x]) (EPost L env H s Q) aG s:=by
 refine Calls.call_function_entry kind_sorted plain_sorted entry_sorted (args_sorted1 _) ?_;refine p0 (m:=checkCount "sorted" 1 1 _) (u4 ?_);refine p0 (z8 G (λcvs s' ⟨vs,r,p,x⟩=>?_) λ_ _ e=>e);have O:=(x.step R).toE (env:=env) F.lH;have Z:A.in1.units+20<cLine:=by obtain J:=hr.2.2;exact Kw J
 exact uf (F.estep O) O.st.rel Z r (Y.perm p) (by rw[eu Y.2.2.2 p];exact q) λv s2 h=>(af _ rfl (r8 O h))
theorem ER.keys:∀{kvs:List (V×V)}{es:List DictEntry},ER L h kvs es->VRs L.sa h (kvs.map (·.1)) (es.map (·.key))
 | [],_,x=>by subst x;exact .nil
 |(k,v)::r,_,x=>by refine pe x λe es aX a b c d=>?_;subst aX;exact .cons a d.keys
theorem yd{B:List (V×Value)}{as:List Addr}{lo:Addr}(h1:B.map (·.1)=kvs.map (·.1))(h2:VRs L.sa h' (kvs.map (·.2)) (B.map (·.2)))(hX:∀a,lo<a->¬L.X a) (F:as.length=B.length) (G:@KdxG L.prog L.w V bU (bB L.prog L.w) B lo h' as):VRs L.sa h' (aV kvs) (as.map Value.ref):=by
 letI:DecidableEq V:=bU
 have key:∀(j:Nat)(a:Addr),as[j]?=some a->∃p,kvs[j]?=some p/\VR L.sa h' (.tup [p.1,p.2]) (.ref a):=by
  intro j a ha;refine GX (G.pairs j a ha) λck J x e1 e2 e3=>?_;obtain Y:(B.map (·.1))[j]?=some J:=by rw[B6,e1];rfl
  rw[h1,B6]at Y;refine ah (D7.mp Y) λp hp z=>?_;refine ah (h2.get (i:=j) (v:=p.2) (by rw[B6,hp];rfl)) λc Z e6=>?_;rw[B6,e1]at Z;obtain rfl:=w8 Z;refine(af p hp (q8 (hX a (G.above a (z6 ha))) (aK _ e3 rfl (gV 0 rfl)) ?_));obtain e7:VR L.sa h' J ck:=js e2;rw[z];exact VRs.cons e7 (VRs.one e6)
 obtain O:as.length=kvs.length:=F.trans (by obtain Q:=B9 List.length h1;simpa using Q);clear F G;have gen:∀(kvs:List (V×V))(as:List Addr),as.length=kvs.length->(∀(j:Nat)(a:Addr),as[j]?=some a->∃p,kvs[j]?=some p/\VR L.sa h' (.tup [p.1,p.2]) (.ref a))->VRs L.sa h' (kvs.map λp=>.tup [p.1,p.2]) (as.map Value.ref):=by
  intro kvs;induction kvs with
  |nil=>intro as hl _;rw[K7.mp hl];exact .nil
  |cons p r ih =>
   intro as hl hk;rcases as with _|⟨a,as⟩
   .simp at hl
   .refine ah (hk 0 a rfl) λp' e1 e2=>?_;simp at e1;subst e1;exact .cons e2 (ih as (by simpa using hl) λj a' hj=>by simpa using hk (j+1) a' (by simpa using hj))
 exact gen kvs as O key
theorem pJ{a:Addr}{κ:Nat}(F:ae L env loc H s.heap)(R:aD L H s.heap)(hr:Room A d)(J:sortable vs)(S:SetR L.sa L.w s.heap a κ us)(hm:∀x,x∈us↔x∈vs)(hl:us.length<=vs.length)(q:fresh H Q (.list (aH (bf vs)))) : a8 L A (call (.builtin "sorted") [.ref a]) (EPost L env H s Q) aG s:=by
 obtain B:=J.1;obtain p:us.Perm (bf vs):=(Q2 S.nd (cA vs)).mpr λx=>by rw[hm,bn]
 refine fu F R hr J.dedup q (sO (sa:=L.sa) hr.1 S (Kx hl B) λs' cvs G x O r=>(aK G (r.keep (p7 x.heap)) (O.trans p) x))
theorem xV{l:Addr}{items:Array Value}(hl:s.heap.IsList l items):yX L.prog L.w s l items.size (λi v=>items[i]?=some v):=by
 intro A A' E ac Q hh Y hk hQ;have B:ac.heap.IsList l items:=by refine ah hl λo G r=>?_;exact(af o (hk _ _ G) r)
 obtain Z:l<ac.heap.objs.size:=by refine ah B λo G r=>?_;exact G9 G
 refine wpAny_pyIter_list B (hQ _ _ _ (Walks.list Y _ l (E9 Z) items) (λb O=>?_) ⟨(aK _ (A9 _ rfl) rfl rfl),B.push _⟩ λi h o st e hc=>?_)
 .rcases A4.mp O with e|O
  .exact .inl e
  .rw[u5.mp O];refine ah hl λo G _=>?_;exact .inr (by rw[G];simp)
 .refine cq st λbV _=>?_;refine bR bV λo' J F _=>?_;rw[e]at J;obtain rfl:=w8 J;rw[hc]at F;exact absurd F (by decide)
def Ge{d:Nat}(hr:Room A d):A.units+30<cLine:=by obtain B:=hr.2.2;exact Ky B
theorem CT(C:aJ L.toSx):aP L .dict:=by
 intro env loc H s A d Q id x y pos ip F R hr O pa B h;obtain rfl:=w8 pa;refine rO C F R (bi (i:=8) rfl) O B h λG r F R=>?_;refine bM (iB rfl G) λa aX=>?_;subst aX;refine wh G λkvs e J hz q=>?_;rw[r.ref_inv];rcases e with e|e
 .exact Gi C F R e J hz q
 .exact CX F R hr.1 e.1 J e.2 hz q
theorem ui(F:ae L env loc H s.heap)(R:aD L H s.heap)(hr:Room A d){a:Addr}(e:H a=some (.list vs))(G:sortable vs)(q:fresh H Q (.list (aH vs))):a8 L A (call (.builtin "sorted") [.ref a]) (EPost L env H s Q) aG s:=by refine cF (au R e) λcvs n J B=>?_;obtain k:∀{ob:Obj}{f:Obj->Obj},∀b o,s.heap.get? b=some o->((s.heap.push ob).update s.heap.objs.size f).get? b=some o:=λb o e=>(L7 _ _ (SN (G9 e))).trans (y6 _ e);exact fu F R hr G q (collect_list (vs:=cvs.toList) (aK _ J rfl (gV n rfl)) (aK vs (B.keep (p7 k)) (K6 _) ⟨rfl,rfl,k⟩) (by rw[B.length,I9];exact s7 (D9 G.1) (by decide)))
theorem uh(C:aJ L.toSx)(F:ae L env loc H s.heap)(R:aD L H s.heap)(hr:Room A d){a:Addr}(e:H a=some (.dict kvs))(G:sortable (kvs.map (·.1)))(q:fresh H Q (.list (aH (kvs.map (·.1))))):a8 L A (call (.builtin "sorted") [.ref a]) (EPost L env H s Q) aG s:=by refine bN (cu R e) λes n J B O=>?_;obtain hz:=G.1;rw[u1,<- B.length,J2]at hz;exact fu F R hr G q (sN hr.1 (R.nosys C e) J (by rw[I9];exact s7 (D9 hz) (by decide)) λs' x=>(aK (kvs.map (·.1)) (B.keys.keep (p7 x.heap)) (K6 _) x))
theorem yx(C:aJ L.toSx):aP L .sorted:=by
 intro env loc H s A d Q id x y pos ip F R hr O pa B h;obtain rfl:=w8 pa;refine mH C F R (bi (i:=9) rfl) O B h λJ r F R=>?_;refine bM (iB rfl J) λa eN=>?_;subst eN;rw[r.ref_inv];rcases J with⟨vs,e,G,q⟩|⟨kvs,e,G,q⟩
 .exact ui F R hr e G q
 .exact uh C F R hr e G q
def CA{γ:Type}{f:α->γ}{g:β->γ}{l:List α}{m:List β}(h:l.map f=m.map g):l.length=m.length:=by obtain B:=B9 List.length h;rwa [u1,u1]at B
theorem oq(C:aJ L.toSx):aP L .sortedItems:=by
 letI:DecidableEq V:=bU
 intro env loc H s A d Q id x y pos ip F R hr g0 pa hst h;refine bN (nF pa) λap pos' zq6 hb hp=>?_;subst zq6;refine vC C F R (nm:="sorted") (b:="sorted") (bi (i:=9) rfl) g0 iK (xj C hb hp h λv H1 c s1 B r1 Z=>?_);refine bM (iB rfl B) λa bV=>?_;subst bV;refine wh B λkvs e sk so q=>?_;apply r1.ref_el;refine(jL a kvs rfl e sk ?_);obtain F1:=F.estep Z;have S2:=aj.pushed F1 Z.st.rel { cls:=.type "dict_items",data:=.fields #[.ref a] } s1.toks;obtain F2:=F1.estep S2;have Y:=S2.st.rel;refine bN (cu Y e) λes n ho er dk=>?_;refine bR (xo ho er dk sk) λkv' B h2 h3=>?_;have hl:kv'.length=kvs.length:=CA B;have hz:kvs.length<64:=by obtain O:=so.1;rwa [aV,u1]at O
 refine z8 (fu F2 Y hr so q (kdx_collect hr.1 (aK _ (A9 _ rfl) rfl rfl) h3 (by rw[I9,hl];exact s7 (D9 hz) (by decide)) λh' tk as k J G=>(aK (aV kvs) ?_ (K6 _) ⟨rfl,rfl,k⟩))) (λ_ _ h=>r8 (Z.trans S2) h) λ_ _ e=>e;exact yd B (h2.keep (p7 k)) (λa ha=>Y.nx (B8 (D9 ha))) J G
theorem rR(C:aJ L.toSx):aP L .sortedSet:=by intro env loc H s A d Q id x y pos ip F R hr g0 pa Z h;refine mx (gr pa) λid' ip' pos' zq8 g1=>?_;subst zq8;refine vC C F R (nm:="sorted") (b:="sorted") (bi (i:=9) rfl) g0 iK (kS C F R (nm:="set") (b:="set") (bi (i:=11) rfl) g1 Z (bk h λv H1 c s1 h1 r1 J=>?_));refine bM (iB rfl h1) λa zq9=>?_;subst zq9;refine bR h1 λvs e so q=>?_;apply r1.ref_el;obtain F1:=F.estep J;have R1:=J.st.rel;refine cF (au R1 e) λcvs n ho ra=>?_;refine ah so.kind λκ G ad=>?_;obtain hl:s1.heap.IsList a cvs:=(aK _ ho rfl (gV n rfl));refine zy (sa:=L.sa) (af _ ho rfl) PySem.F.sub_list_set PySem.F.sub_list_frozenset (by decide) hr.1 (Ge hr) (xV (L:=L) hl) (λi v hv=>ra.get' (by rw[A7];exact hv)) G ad (by rw[<- ra.length,J2]) so.1 λs2 us x S2 O Y=>?_;have B:=(x.step R1).toE (env:=env) F1.lH;exact z8 (pJ (F1.estep B) B.st.rel hr so S2 Y O q) (λ_ _ h=>r8 (J.trans B) h) λ_ _ e=>e
theorem gd(C:aJ L.toSx):∀p,aP L p
 | .len=>FY C | .sum=>Ga C | .max=>FZ C | .tuple=>AN C | .list=>CU C | .listRange=>rQ C | .listItems=>rP C
 | .dict=>CT C | .sorted=>yx C | .sortedItems=>oq C | .sortedSet=>rR C
end
def oo:wm:=λL C p=>gd C p
def rD:BA:=λL C=>by
 intro it env x tgt loc H s A d K hc ht hs F R hr h;cases it with
 |zip a b=>exact Co C (gd C) hc hs F R hr h
 |enum a=>exact zT C (gd C) hc hs F R hr h
 |exp e=>exact ql C (gd C) hc ht F R hr h
 |rng e=>exact ql C (gd C) hc ht F R hr h
section
variable{c m:String}{a:Addr}
theorem fJ(i j:Int):cr (.int i) (.int j)=decide (i=j):=by
 cases h:cr (.int i) (.int j)with
 |true=>have:=(aO _ _).mp h;injection this with e;subst e;simp
 |false=>have:=bo.mp h;obtain e:i≠j:=λz=>this (by rw[z]);simp[e]
theorem kz(i j:String):cr (.str i) (.str j)=decide (i=j):=by
 cases h:cr (.str i) (.str j)with
 |true=>have:=(aO _ _).mp h;injection this with e;subst e;simp
 |false=>have:=bo.mp h;obtain e:i≠j:=λz=>this (by rw[z]);simp[e]
noncomputable def fl(ps:List (String×V)):List (V×V):=ps.map λp=>(V.str p.1,p.2)
theorem aM(k v:V)(r:List (V×V))(B:V):ax ((k,v)::r) B=if cr k B=true then some v else ax r B:=by unfold ax;rw[List.find?_cons];simp only;cases cr k B <;> simp
theorem jU(ps:List (String×V))(m:String):ax (fl ps) (.str m)=ps.lookup m:=by
 induction ps with
 |nil=>rfl
 |cons p r F =>
  obtain⟨k,v⟩:=p;show ax ((V.str k,v)::fl r) (.str m)=_;rw[aM,K8,F,kz];by_cases h:k=m
  .subst h;simp
  .obtain B:(m==k)=false:=beq_false_of_ne λz=>h z.symm;simp[h,B]
def jX(ps:List (String×V)):∀p∈fl ps,cZ p.1=1:=λp hp=>by refine ah (w7.mp hp) λq _ aX=>?_;subst aX;rfl
def oO(ps:List (String×V)):bI (fl ps):=jX ps
structure dD(H:AH)(a:Addr)(c:String)(dx:Addr)(ps:List (String×V)):Prop where
 o:H a=some (.inst c dx)
 d:H dx=some (.dict (fl ps))
def Ext(H H':AH):Prop:=∀a o,H a=some o->H' a=some o
def Ext.refl'(H:AH):Ext H H:=λ_ _ e=>e
def w3:=@Ext.refl'
def Ext.trans'{H H'':AH}(x:Ext H H')(y:Ext H' H''):Ext H H'':=λa o e=>y a o (x a o e)
theorem Ext.set{H:AH}(o:AO)(h:H a=none):Ext H (H.set a o):=λb x e=>by
 rw[p6]
 .exact e
 .rintro rfl;rw[h]at e;exact ns e
def w4:=@Ext.set
def dD.ext{H:AH}(x:Ext H H'){ps:List (String×V)}(i:dD H a c dx ps):dD H' a c dx ps:=⟨x _ _ i.o,x _ _ i.d⟩
section
variable{H:AH}{Q:b8}
def mW{f:String}{ps:List (String×V)}(i:dD H a c dx ps)(hf:f∈σ.flds c)(hx:ps.lookup f=some x)(q:Q x H):zj H Q σ (.ref a) f :=⟨a,c,dx,fl ps,x,rfl,i.o,hf,i.d,by rw[jU];exact hx,q⟩
def cC{ps:List (String×V)}(i:dD H a c dx ps)(hx:ps.lookup m=none)(hm:(σ.meth c m).isSome=true):oB H σ (.ref a) m (.inst c) :=(QX a dx (fl ps) rfl i.o i.d (jX ps) (by rw[jU];exact hx) hm)
def MCall(σ:Sx)(d:Nat)(c m:String)(vs:List V)(H:AH)(Q:b8):Prop:=∃f,σ.meth c m=some f/\CallS σ d f vs H Q
def FCall(σ:Sx)(d:Nat)(n:String)(vs:List V)(H:AH)(Q:b8):Prop:=∃f,σ.fn n=some f/\CallS σ d f vs H Q
def HasM(σ:Sx)(c m:String)(x:bx):Prop:=∃f fd,σ.meth c m=some f/\FnAt σ f fd x.params x.body
def ml(σ:Sx)(n:String)(x:bx):Prop:=∃f fd,σ.fn n=some f/\FnAt σ f fd x.params x.body
def HasM.some{x:bx}(h:HasM σ c m x):(σ.meth c m).isSome=true:=by refine cF h λf _ e _=>?_;rw[e];rfl
theorem MCall.mono{d:Nat}{B:b8}(h:MCall σ d c m vs H Q)(q:∀v H',Q v H'->B v H'):MCall σ d c m vs H B:=let⟨f,e,x⟩:=h;⟨f,e,x.mono q⟩
theorem FCall.mono{d:Nat}{n:String}{B:b8}(h:FCall σ d n vs H Q)(q:∀v H',Q v H'->B v H'):FCall σ d n vs H B:=let⟨f,e,x⟩:=h;(af f e (x.mono q))
theorem MCall.room{d B:Nat}(h:MCall σ d c m vs H Q)(q:d<=B):MCall σ B c m vs H Q:=let⟨f,e,x⟩:=h;(af f e (x.room q))
theorem FCall.room{d B:Nat}{n:String}(h:FCall σ d n vs H Q)(q:d<=B):FCall σ B n vs H Q:=let⟨f,e,x⟩:=h;(af f e (x.room q))
abbrev kC(Q:b8):Fl->Loc->AH->Prop:=λfl _ H'=>match fl with | .ret v=>Q v H' | .next=>Q .none H'
def aE(C:aJ σ){x:bx}{d:Nat}(h:HasM σ c m x)(hl:vs.length=x.params.length)(w:az σ d x.body (aT x.params vs) H (kC Q)):MCall σ (d+1) c m vs H Q :=
 let⟨f,fd,e,X⟩:=h;(af f e (sK oo rD C X hl w))
theorem ce(C:aJ σ){n:String}{x:bx}{d:Nat}(h:ml σ n x)(hl:vs.length=x.params.length)(w:az σ d x.body (aT x.params vs) H (kC Q)):FCall σ (d+1) n vs H Q :=
 let⟨f,fd,e,X⟩:=h;(af f e (sK oo rD C X hl w))
end
def jF(l:Loc)(x:String)(v:V)(y:String):(l.put x v) y=if y=x then some v else l y:=rfl
def Cf(l:Loc)(xs:List String)(y:String):(l.drop xs) y=if y∈".0"::xs then none else l y:=rfl
def gW{c:Bool}{A B:Prop}(h:c=true)(x:A):if c=true then A else B:=by rw[if_pos h];exact x
def jc{c:Bool}{A B:Prop}(h:c=false)(x:B):if c=true then A else B:=by rw[if_neg (by rw[h];decide)];exact x
def Pz{p:Prop}[Decidable p](h:¬p):(!decide p)=true:=by rw[E2 h];rfl
def Bp{H:AH}{Q:Bool->AH->Prop}{d:Nat}(h:Q true H):yS σ d none l H Q:=h
def Sq(σ:Sx)(d:Nat)(rest:List MS)(K:Fl->Loc->AH->Prop):Fl->Loc->AH->Prop:=λfl l H=>match fl with | .next=>az σ d rest l H K | .ret v=>K (.ret v) l H
def cE{H:AH}{d:Nat}{t:Tgt}{e:ME}(h:aY σ d e l H λv H1=>∃l',gZ H1 t v l=some l'/\az σ d rest l' H1 K):az σ d (.asg (.tg t) e::rest) l H K:=h
theorem xE{H:AH}{d:Nat}{op:COp}{a b:ME}{x y:List MS}(h:aY σ d a l H λv H1=>aY σ d b l H1 λw H2=>fj H2 op v w λt=>if t=true then az σ d x l H2 (Sq σ d rest K)else az σ d y l H2 (Sq σ d rest K)):az σ d (.if1 (.cmp1 op a b) x y::rest) l H K:=h
end
structure Txt(σ:Sx):Prop where
 ok:aJ σ
 fHeap:σ.flds "Heap"=["bank","unions","edges","forest","known","above","waiting"]
 fBank:σ.flds "Bank"=["nodes","numbers","weights","depths"]
 fUnions:σ.flds "Unions"=["above","lots","merged"]
 fWalker:σ.flds "Walker"=["heap"]
 is_op:ml σ "is_op" wR
 is_variable:ml σ "is_variable" jm
 Bank_init:HasM σ "Bank" "__init__" lC
 Bank_size:HasM σ "Bank" "size" lE
 Bank_take:HasM σ "Bank" "take" lF
 Bank_require:HasM σ "Bank" "require" il
 Bank_op:HasM σ "Bank" "op" qv
 Bank_kids:HasM σ "Bank" "kids" lD
 Walker_init:HasM σ "Walker" "__init__" jk
 Walker_extended:HasM σ "Walker" "extended" fy
 Walker_found_in:HasM σ "Walker" "found_in" fz
 Unions_init:HasM σ "Unions" "__init__" jh
 Unions_make:HasM σ "Unions" "make" ji
 Unions_size:HasM σ "Unions" "size" jj
 Unions_find:HasM σ "Unions" "find" jg
 Unions_merge:HasM σ "Unions" "merge" iq
 Unions_members:HasM σ "Unions" "members" fZ
 Heap_init:HasM σ "Heap" "__init__" lI
 Heap_size:HasM σ "Heap" "size" lL
 Heap_node:HasM σ "Heap" "node" lK
 Heap_add:HasM σ "Heap" "add" nQ
 Heap_put:HasM σ "Heap" "put" nR
 Heap_look_at:HasM σ "Heap" "look_at" im
 Heap_find:HasM σ "Heap" "find" lG
 Heap_merge:HasM σ "Heap" "merge" ka
 Heap_join:HasM σ "Heap" "join" lJ
 Heap_settle:HasM σ "Heap" "settle" jf
 Heap_members:HasM σ "Heap" "members" io
 Heap_nodes_of:HasM σ "Heap" "nodes_of" gQ
 law_draw:ml σ "_law_draw" nS
 law_tree:ml σ "_law_tree" nT
 law_ranked:ml σ "_law_ranked" kb
 law_homes:ml σ "_law_homes" lN
 law_shapes:ml σ "_law_shapes" kg
 law_names:ml σ "_law_names" lO
 law_class:ml σ "_law_class" lM
 law_due:ml σ "_law_due" qw
 cBank:∃C,σ.cls "Bank"=some C
 cUnions:∃C,σ.cls "Unions"=some C
 cHeap:∃C,σ.cls "Heap"=some C
 cWalker:∃C,σ.cls "Walker"=some C
section
variable{b:List MS}{x:String}{i:ME}{a:Addr}
noncomputable abbrev iv(n:Nat):V:=.int (n:Int)
def Ev(σ:Sx)(l:Loc)(H:AH)(e:ME)(v:V):Prop:=∀(d:Nat)(Q:b8),Q v H->aY σ d e l H Q
def Evs(σ:Sx)(l:Loc)(H:AH)(e:MEs)(vs:List V):Prop:=∀(d:Nat)(Q:b9),Q vs H->dY σ d e l H Q
def EvT(σ:Sx)(l:Loc)(H:AH)(e:ME)(b:Bool):Prop:=∀(d:Nat)(Q:Bool->AH->Prop),Q b H->yT σ d e l H Q
section
variable{H:AH}{e e1 e2:ME}{es:MEs}{v w:V}{b:Bool}{d:Nat}{Q:b8}
theorem Ev.var(h:l x=some v):Ev σ l H (.var x) v:=λ_ _ q=>(af v h q)
theorem Ev.cst:Ev σ l H (.cst v) v:=λ_ _ q=>q
theorem Ev.attr{c f:String}{ps:List (String×V)}(B:Ev σ l H e (.ref a))(i:dD H a c dx ps)(hf:f∈σ.flds c)(hx:ps.lookup f=some v):Ev σ l H (.attr e f) v :=λd _ q=>B d _ (mW i hf hx q)
theorem Ev.idx(B:Ev σ l H e v)(hi:Ev σ l H i w){u:V}(h:∀Q,Q u H->vb H Q v w):Ev σ l H (.idx e i) u:=λd _ q=>B d _ (hi d _ (h _ q))
theorem Ev.len(B:Ev σ l H e v)(h:∀Q,Q w H->iA H Q .len v):Ev σ l H (.prim .len e) w:=λd _ q=>B d _ (h _ q)
theorem Ev.bin{op:BOp}{u:V}(B:Ev σ l H e v)(hi:Ev σ l H e2 w)(h:∀Q,Q u H->xJ H Q op v w):Ev σ l H (.bin op e e2) u:=λd _ q=>B d _ (hi d _ (h _ q))
theorem Evs.nil:Evs σ l H .nil []:=λ_ _ q=>q
theorem Evs.cons(B:Ev σ l H e v)(hs:Evs σ l H es vs):Evs σ l H (.cons e es) (v::vs):=λd _ q=>B d _ (hs d _ q)
theorem Ev.tup(hs:Evs σ l H es vs):Ev σ l H (.tup es) (.tup vs):=λd _ q=>hs d _ q
theorem EvT.cmp{op:COp}(B:Ev σ l H e v)(hi:Ev σ l H e2 w)(h:∀Q:Bool->Prop,Q b->fj H op v w Q):EvT σ l H (.cmp1 op e e2) b:=λd _ q=>B d _ (hi d _ (h _ q))
def w6:=@EvT.cmp
theorem Ev.cmpT{op:COp}(B:Ev σ l H e v)(hi:Ev σ l H e2 w)(h:∀Q:Bool->Prop,Q b->fj H op v w Q):EvT σ l H (.cmp1 op e e2) b:=w6 B hi h
theorem Ev.cmp{op:COp}(B:Ev σ l H e v)(hi:Ev σ l H e2 w)(h:∀Q:Bool->Prop,Q b->fj H op v w Q):Ev σ l H (.cmp1 op e e2) (.bool b):=λd _ q=>B d _ (hi d _ (h _ q))
def EvT.not(h:EvT σ l H e b):EvT σ l H (.not1 e) (!b):=λd _ q=>h d _ q
def Sq.nil{fl:Fl}{H:AH}(h:K fl l H):Sq σ d [] K fl l H:=by cases fl <;> exact h
def sd(h:Ev σ l H e v)(k:az σ d rest (l.put x v) H K):az σ d (.asg (.tg (.nm x)) e::rest) l H K:=h d _ (af _ rfl k)
def bY(h:Ev σ l H e v)(k:K (.ret v) l H):az σ d (.ret e::rest) l H K:=h d _ k
def ff{a b:List MS}(h:EvT σ l H e true)(k:az σ d a l H (Sq σ d rest K)):az σ d (.if1 e a b::rest) l H K:=h d _ (by rw[if_pos rfl];exact k)
def dM{a b:List MS}(h:EvT σ l H e false)(k:az σ d b l H (Sq σ d rest K)):az σ d (.if1 e a b::rest) l H K:=h d _ (by rw[if_neg C7];exact k)
theorem vU{c:ME}{b:List MS}(I:Nat->Loc->AH->Prop)(n:Nat)(h0:I n l H)(h:∀n l H,I n l H->(EvT σ l H c true/\∀B,(∀m l' H',m<n->I m l' H'->B .next l' H')->(∀v l' H',K (.ret v) l' H'->B (.ret v) l' H')->az σ d b l H B)\/(EvT σ l H c false/\az σ d rest l H K)) : az σ d (.whl c b::rest) l H K:=(af I ⟨n,h0⟩ (λn l H J=>by
 rcases h n l H J with⟨F,G⟩|⟨F,G⟩
 .refine F d _ ?_;rw[if_pos rfl];exact G _ (λm l' H' hm J=>(af m hm J)) λv l' H' k=>k
 .refine F d _ ?_;rw[if_neg C7];exact G))
variable{op:BOp}{p:Prim}{o:ME}{m f:String}{a:Addr}{c:String}{ps:List (String×V)}
theorem Ev.prim(B:Ev σ l H e v)(h:∀Q,Q w H->iA H Q p v):Ev σ l H (.prim p e) w:=λd _ q=>B d _ (h _ q)
def aA(B:Ev σ l H e v)(k:Q v H):aY σ d e l H Q:=B d Q k
def Bv(h:aY σ d e l H λv H1=>aY σ d i l H1 λj H2=>vb H2 Q v j):aY σ d (.idx e i) l H Q:=h
def dl(h:dY σ d es l H λvs H1=>fresh H1 Q (.list vs)):aY σ d (.lst es) l H Q:=h
def aq{Q:b9}(h:aY σ d e l H λv H1=>dY σ d es l H1 λvs H2=>Q (v::vs) H2):dY σ d (.cons e es) l H Q:=h
def aR{Q:b9}(h:Q [] H):dY σ d .nil l H Q:=h
theorem GQ(h:aY σ d e l H λv H1=>aY σ d o l H1 λov H2=>aY σ d i l H2 λiv H3=>∃a,ov=.ref a /\ ((∃vs n,H3 a=some (.list vs)/\iv=.int n/\0<=n/\n<vs.length/\vs.length<2^60/\az σ d rest l (H3.set a (.list (vs.set n.toNat v))) K)\/(∃kvs,H3 a=some (.dict kvs)/\keyFits kvs iv/\kvs.length<2^20/\az σ d rest l (H3.set a (.dict (dput kvs iv v))) K))):az σ d (.asg (.ix o i) e::rest) l H K:=h
def tA{H:AH}{x:Addr}{o o':AO}(h:H a=some o)(hx:(H.set a o') x=none):H x=none:=by
 by_cases z:x=a
 .rw[z,AH.set_self]at hx;exact sn hx
 .rwa [p6 _ _ z]at hx
def qS{t:Tgt}{b:List MS}(h:aY σ d e l H λv H1=>jy v H1 λsrc vs H1=>kM src (λv l H k=>∃l',bz t v l=some l'/\az σ d b l' H k) vs l H1 (Sq σ d rest K)):az σ d (.for1 t (.exp e) b::rest) l H K:=h
def GP{t:Tgt}{b:List MS}{x y:List V}(G:Ev σ l H e (.tup x))(hi:Ev σ l H e2 (.tup y))(B:x.length<=1000)(F:y.length<=1000)(h:kM none (λv l H k=>∃l',bz t v l=some l'/\az σ d b l' H k) (gR x y) l H (Sq σ d rest K)):az σ d (.for1 t (.zip e e2) b::rest) l H K :=G d _ (hi d _ (qT x y rfl rfl B F h))
def OY{x y:List MS}(hs:Evs σ l H es vs)(h:FCall σ d m vs H λv H2=>∃t,v=.bool t/\if t=true then az σ d x l H2 (Sq σ d rest K)else az σ d y l H2 (Sq σ d rest K)):az σ d (.if1 (.call m es) x y::rest) l H K:=h.elim λa e=>(af a e.1 (hs d _ e.2))
theorem lf{op:COp}{a b x y:ME}(h:aY σ d a l H λv H1=>aY σ d b l H1 λw H2=>fj H2 op v w λt=>if t=true then aY σ d x l H2 Q else aY σ d y l H2 Q):aY σ d (.ite (.cmp1 op a b) x y) l H Q:=h
def Br(h:aY σ d e l H λv H1=>∃t,v=.bool t/\if t=true then aY σ d e2 l H1 Q else Q (.bool false) H1):aY σ d (.and2 e e2) l H Q:=h
theorem Bt{op:COp}(h:aY σ d e l H λv H1=>aY σ d e2 l H1 λw H2=>fj H2 op v w λt=>Q (.bool t) H2):aY σ d (.cmp1 op e e2) l H Q:=h
theorem EvT.cmp2{o1 o2:COp}{B:ME}{u:V}(F:Ev σ l H e v)(hi:Ev σ l H e2 w)(G:Ev σ l H B u)(h:∀Q:Bool->Prop,Q true->fj H o1 v w Q)(h':∀Q:Bool->Prop,Q b->fj H o2 w u Q):EvT σ l H (.cmp2 e o1 e2 o2 B) b:=λd _ q=>F d _ (hi d _ (h _ (gW rfl (G d _ (h' _ q)))))
def bu(h:aY σ d e l H λv H1=>iA H1 Q p v):aY σ d (.prim p e) l H Q:=h
theorem gM(h:aY σ d e l H λv H1=>aY σ d e2 l H1 λw H2=>xJ H2 Q op v w):aY σ d (.bin op e e2) l H Q:=h
theorem gN{k:RK}(B:Ev σ l H o v)(r:oB H σ v m k)(hs:Evs σ l H es vs)(h:qy H Q σ d k v m vs):aY σ d (.meth o m es) l H Q:=B d _ (af k r (hs d _ h))
def aQ(F:Ev σ l H o (.ref a))(i:dD H a c dx ps)(B:ps.lookup m=none)(hm:(σ.meth c m).isSome=true)(hs:Evs σ l H es vs)(h:MCall σ d c m (.ref a::vs) H Q):aY σ d (.meth o m es) l H Q :=gN F (cC i B hm) hs h
def Bs(F:Ev σ l H o (.ref a))(i:dD H a c dx ps)(B:ps.lookup m=none)(hm:(σ.meth c m).isSome=true)(hs:dY σ d es l H λvs H2=>MCall σ d c m (.ref a::vs) H2 Q):aY σ d (.meth o m es) l H Q :=F d _ (af _ (cC i B hm) hs)
def fg(hs:Evs σ l H es vs)(h:FCall σ d m vs H Q):aY σ d (.call m es) l H Q:=h.elim λa e=>(af a e.1 (hs d _ e.2))
def gJ(h:aY σ d e l H λv H1=>iz v/\az σ d rest l H1 K):az σ d (.expr e::rest) l H K:=h
def cN(h:aY σ d e l H λv H1=>K (.ret v) l H1):az σ d (.ret e::rest) l H K:=h
def jz{Q:b8}(ha:H a=some (.list vs))(hz:vs.length<2^20)(k:Q .none (H.set a (.list (vs++[v])))):nN H Q (.ref a) "append" [v]:=(bF a _ rfl ha (.inl ⟨rfl,(aK v rfl hz k)⟩))
theorem iY(F:Ev σ l H o (.ref a))(ha:H a=some (.list vs))(B:aY σ d e l H λv H1=>nN H1 (λr H2=>iz r/\az σ d rest l H2 K) (.ref a) "append" [v]):az σ d (.expr (.meth o "append" (.cons e .nil))::rest) l H K :=F d _ (af .list ⟨by decide,(ey a _ rfl ha)⟩ B)
def jG(F:Ev σ l H o (.ref a))(ha:H a=some (.list vs))(B:Ev σ l H e v)(hz:vs.length<2^20)(k:az σ d rest l (H.set a (.list (vs++[v]))) K):az σ d (.expr (.meth o "append" (.cons e .nil))::rest) l H K :=iY F ha (B d _ (jz ha hz ⟨trivial,k⟩))
def vZ(J:Ev σ l H o (.ref a))(ha:H a=some (.list vs)){b:Addr}{ws:List V}(G:Ev σ l H e (.ref b))(F:H b=some (.list ws))(B:a≠b)(hz:vs.length+ws.length<=2^20)(k:az σ d rest l (H.set a (.list (vs++ws))) K):az σ d (.expr (.meth o "extend" (.cons e .nil))::rest) l H K :=J d _ (af .list ⟨by decide,a,vs,rfl,ha⟩ (G d _ (bF a _ rfl ha (.inr (.inl ⟨rfl,(QW b ws rfl B F hz trivial k)⟩)))))
def wb(B:Ev σ l H e v)(F:Ev σ l H o (.ref a))(hi:Ev σ l H i w)(ha:H a=some (.dict kvs))(hf:keyFits kvs w)(hz:kvs.length<2^20)(k:az σ d rest l (H.set a (.dict (dput kvs w v))) K):az σ d (.asg (.ix o i) e::rest) l H K :=B d _ (F d _ (hi d _ (af a rfl (.inr (jK kvs ha hf hz k)))))
theorem GL(F:Ev σ l H e v)(G:Ev σ l H o (.ref a)){n:Int}(hi:Ev σ l H i (.int n))(ha:H a=some (.list vs))(h0:0<=n)(B:n<vs.length)(hz:vs.length<2^60)(k:az σ d rest l (H.set a (.list (vs.set n.toNat v))) K):az σ d (.asg (.ix o i) e::rest) l H K :=F d _ (G d _ (hi d _ (af a rfl (.inl (QW vs n ha rfl h0 B hz k)))))
def GS{x:V}(B:Ev σ l H o (.ref a))(ha:H a=some (.list (vs++[x])))(hz:vs.length<2^20)(k:Q x (H.set a (.list vs))):aY σ d (.meth o "pop" .nil) l H Q :=gN (k:=.list) B ⟨by decide,a,_,rfl,ha⟩ .nil (bF a _ rfl ha (.inr (.inr (.inl ⟨rfl,(jL vs x rfl rfl (by rw[A6];exact hz) k)⟩))))
def Keep(l:Loc)(x:String)(l':Loc):Prop:=∀y,y≠x->l' y=l y
def Keep.refl:Keep l x l:=λ_ _=>rfl
theorem Keep.put{l':Loc}(h:Keep l x l'):Keep l x (l'.put x v):=λy hy=>(if_neg hy).trans (h y hy)
theorem sY{b:List MS}:∀{xs:List V}{l':Loc},(∀v∈xs,∀(l':Loc)(F:Fl->Loc->AH->Prop),Keep l x l'->(∀B,Keep l x B->F .next B H)->az σ d b (l'.put x v) H F)->dB src H->Keep l x l'->{K:Fl->Loc->AH->Prop}->(∀l',Keep l x l'->K .next l' H) -> kM src (λv l H k=>∃l',bz (.nm x) v l=some l'/\az σ d b l' H k) xs l' H K
 | [],_,_,hs,h,_,k=>⟨hs,k _ h⟩
 |_::_,_,G,hs,h,_,k=>⟨hs,(af _ rfl (G _ y4 _ _ h λ_ h=>sY (λv J=>G v (w9 _ J)) hs h k))⟩
def GK{it:ME}{b:List MS}(hi:Ev σ l H it (.tup vs))(hz:vs.length<=2^20)(G:∀v∈vs,∀(l':Loc)(F:Fl->Loc->AH->Prop),Keep l x l'->(∀B,Keep l x B->F .next B H)->az σ d b (l'.put x v) H F)(k:∀l',Keep l x l'->az σ d rest l' H K):az σ d (.for1 (.nm x) (.exp it) b::rest) l H K :=hi d _ ⟨hz,sY (src:=none) G trivial Keep.refl k⟩
end
end
section
variable{a:Addr}
noncomputable abbrev Nd:=String×List Nat
noncomputable def ag(nd:Nd):V:=.tup (.str nd.1::nd.2.map iv)
noncomputable def nZ(l:List Nd):List (V×V):=l.zipIdx.map λp=>(ag p.1,iv p.2)
structure HD where
 hp:Addr
 hd:Addr
 bp:Addr
 bd:Addr
 up:Addr
 ud:Addr
 ep:Addr
 fp:Addr
 kp:Addr
 ap:Addr
 wp:Addr
 np:Addr
 mp:Addr
 qp:Addr
 dp:Addr
 ua:Addr
 lp:Addr
 gp:Addr
 nodes:List Nd
 nums:List (V×V)
 ws:List Int
 ds:List Int
 par:List Nat
 lots:List (Addr×List Nat)
 mrg:List V
 edg:List V
 frs:List V
 known:List (Nd×Nat)
 ab:List (Nat×Addr×List Nat)
 wait:List Nat
 rep:List Nat
 M:Nat
namespace HD
variable(D:HD)
noncomputable abbrev sNodes(k:List Nd):HD:={ D with nodes:=k }
noncomputable abbrev sNums(k:List (V×V)):HD:={ D with nums:=k }
noncomputable abbrev sWs(k:List Int):HD:={ D with ws:=k }
noncomputable abbrev sDs(k:List Int):HD:={ D with ds:=k }
noncomputable abbrev sPar(k:List Nat):HD:={ D with par:=k }
noncomputable abbrev sLots(k:List (Addr×List Nat)):HD:={ D with lots:=k }
noncomputable abbrev sMrg(k:List V):HD:={ D with mrg:=k }
noncomputable abbrev sEdg(k:List V):HD:={ D with edg:=k }
noncomputable abbrev sFrs(k:List V):HD:={ D with frs:=k }
noncomputable abbrev sKnown(k:List (Nd×Nat)):HD:={ D with known:=k }
noncomputable abbrev sAb(k:List (Nat×Addr×List Nat)):HD:={ D with ab:=k }
noncomputable abbrev sWait(k:List Nat):HD:={ D with wait:=k }
noncomputable abbrev sRep(k:List Nat):HD:={ D with rep:=k }
noncomputable abbrev sM(k:Nat):HD:={ D with M:=k }
noncomputable abbrev n:Nat:=D.nodes.length
noncomputable def r(i:Nat):Nat:=D.rep.getD i 0
noncomputable def pr(i:Nat):Nat:=D.par.getD i 0
noncomputable def roots:List Nat:=(List.range D.n).filter λi=>D.r i=i
noncomputable def mem(c:Nat):List Nat:=(List.range D.n).filter λi=>D.r i=c
noncomputable def op(i:Nat):String:=(D.nodes.getD i ("",[])).1
noncomputable def kids(i:Nat):List Nat:=(D.nodes.getD i ("",[])).2
noncomputable def canon(i:Nat):Nd:=(D.op i,(D.kids i).map D.r)
noncomputable def kv:List (V×V):=D.known.map λp=>(ag p.1,iv p.2)
noncomputable def abv:List (V×V):=D.ab.map λp=>(iv p.1,.ref p.2.1)
noncomputable def tot:Nat:=(D.ab.map λp=>p.2.2.length).sum
noncomputable abbrev fo:Addr×List Nat->Addr×AO:=λp=>(p.1,.list (p.2.map iv))
noncomputable abbrev fa:Nat×Addr×List Nat->Addr×AO:=λp=>(p.2.1,.list (p.2.2.map iv))
noncomputable def hhL(F:List V)(B:List (V×V)):List (Addr×AO) :=
 [(D.hp,.inst "Heap" D.hd),(D.hd,.dict (fl [("bank",.ref D.bp),("unions",.ref D.up),("edges",.ref D.ep),("forest",.ref D.fp),("known",.ref D.kp),("above",.ref D.ap),("waiting",.ref D.wp)])),
  (D.bp,.inst "Bank" D.bd),(D.bd,.dict (fl [("nodes",.ref D.np),("numbers",.ref D.mp),("weights",.ref D.qp),("depths",.ref D.dp)])),
  (D.up,.inst "Unions" D.ud),(D.ud,.dict (fl [("above",.ref D.ua),("lots",.ref D.lp),("merged",.ref D.gp)])),
  (D.np,.list (D.nodes.map ag)),(D.mp,.dict D.nums),(D.qp,.list (D.ws.map .int)),(D.dp,.list (D.ds.map .int)),
  (D.ua,.list (D.par.map iv)),(D.lp,.list F),(D.gp,.list D.mrg),(D.ep,.list D.edg),(D.fp,.list D.frs),
  (D.kp,.dict D.kv),(D.ap,.dict B),(D.wp,.list (D.wait.map iv))]
noncomputable def objs:List (Addr×AO):=D.hhL (D.lots.map λp=>.ref p.1) D.abv++(D.lots.map fo++D.ab.map fa)
noncomputable def adr:List Addr:=D.objs.map (·.1)
structure At(H:AH):Prop where
 all:∀p∈D.objs,H p.1=some p.2
 nd:D.adr.Nodup
structure UOk:Prop where
 nz:D.n<=60
 lpar:D.par.length=D.n
 llots:D.lots.length=D.n
 rle:∀i,i<D.n->D.r i<=i/\D.r (D.r i)=D.r i
 pr:∀i,i<D.n->(D.pr i=i->D.r i=i)/\(D.pr i≠i->D.pr i<i/\D.r (D.pr i)=D.r i)
 lots:∀(i:Nat)(p:Addr×List Nat),D.lots[i]?=some p->D.r i=i->p.2.Perm (D.mem i)
 mrgz:D.mrg.length<2^20
structure Ok:Prop where
 nz:D.n<=60
 lws:D.ws.length=D.n
 lds:D.ds.length=D.n
 lpar:D.par.length=D.n
 llots:D.lots.length=D.n
 lrep:D.rep.length=D.n
 kids:∀(i:Nat)(nd:Nd),D.nodes[i]?=some nd->(∀k∈nd.2,k<i)/\nd.1∈aF/\nd.2.length<=2
 ndn:D.nodes.Nodup
 nums:D.nums=nZ D.nodes
 rle:∀i,i<D.n->D.r i<=i/\D.r (D.r i)=D.r i
 pr:∀i,i<D.n->(D.pr i=i->D.r i=i)/\(D.pr i≠i->D.pr i<i/\D.r (D.pr i)=D.r i)
 lots:∀(i:Nat)(p:Addr×List Nat),D.lots[i]?=some p->D.r i=i->p.2.Perm (D.mem i)
 known:∀p∈D.known,p.2<D.n
 abk:(D.ab.map (·.1)).Nodup/\∀i,i∈D.ab.map (·.1)↔i∈D.roots
 abm:∀p∈D.ab,∀x∈p.2.2,x<D.n
 tot:D.tot<=2*D.n
 wait:∀x∈D.wait,x<D.n
 cnt:D.known.length+D.wait.length+200*D.roots.length<=D.n+200*D.n
 edg:D.edg.length+D.roots.length<=D.n+D.M/\D.frs.length+D.roots.length<=D.n/\D.mrg.length+D.roots.length<=D.n
 Mz:D.M<=100
variable{D}
def At.at_{H:AH}(A:D.At H)(i:Nat){o:AO}(h:D.objs[i]?=some (a,o)):H a=some o:=A.all (a,o) (z6 h)
section
variable{H:AH}(A:D.At H)
include A
def At.heap:dD H D.hp "Heap" D.hd [("bank",.ref D.bp),("unions",.ref D.up),("edges",.ref D.ep),("forest",.ref D.fp),("known",.ref D.kp),("above",.ref D.ap),("waiting",.ref D.wp)]:=⟨A.at_ 0 rfl,A.at_ 1 rfl⟩
def At.bank:dD H D.bp "Bank" D.bd [("nodes",.ref D.np),("numbers",.ref D.mp),("weights",.ref D.qp),("depths",.ref D.dp)]:=⟨A.at_ 2 rfl,A.at_ 3 rfl⟩
def At.uni:dD H D.up "Unions" D.ud [("above",.ref D.ua),("lots",.ref D.lp),("merged",.ref D.gp)]:=⟨A.at_ 4 rfl,A.at_ 5 rfl⟩
theorem At.nodes:H D.np=some (.list (D.nodes.map ag)):=A.at_ 6 rfl
theorem At.nums:H D.mp=some (.dict D.nums):=A.at_ 7 rfl
theorem At.ws:H D.qp=some (.list (D.ws.map .int)):=A.at_ 8 rfl
theorem At.ds:H D.dp=some (.list (D.ds.map .int)):=A.at_ 9 rfl
theorem At.par:H D.ua=some (.list (D.par.map iv)):=A.at_ 10 rfl
theorem At.lots:H D.lp=some (.list (D.lots.map λp=>.ref p.1)):=A.at_ 11 rfl
theorem At.mrg:H D.gp=some (.list D.mrg):=A.at_ 12 rfl
theorem At.edg:H D.ep=some (.list D.edg):=A.at_ 13 rfl
theorem At.frs:H D.fp=some (.list D.frs):=A.at_ 14 rfl
def At.known:H D.kp=some (.dict D.kv):=A.at_ 15 rfl
def At.ab:H D.ap=some (.dict D.abv):=A.at_ 16 rfl
theorem At.wait:H D.wp=some (.list (D.wait.map iv)):=A.at_ 17 rfl
def At.lot:∀p∈D.lots,H p.1=some (.list (p.2.map iv)):=λp hp=>A.all (_,_) (C9 _ (E0 _ (w7.mpr (af p hp rfl))))
def At.abl:∀p∈D.ab,H p.2.1=some (.list (p.2.2.map iv)):=λp hp=>A.all (_,_) (C9 _ (C9 _ (w7.mpr (af p hp rfl))))
def At.ext(x:Ext H H'):D.At H':=⟨λp hp=>x _ _ (A.all p hp),A.nd⟩
end
end HD
def CG(f:α->V)(l:List α){x:α}(h:l[i]?=some x):CF (l.map f) ((i:Nat):Int)=some (f x):=by unfold CF;rw[if_pos Kz];simp[h]
def cf{H:AH}{Q:b8}{f:α->V}{l:List α}{x:α}(h:H a=some (.list (l.map f)))(hi:l[i]?=some x)(B:i<1000)(q:Q (f x) H):vb H Q (.ref a) (iv i) :=.inl (Pj _ (i:Int) (f x) h rfl (by rw[Int.natAbs_natCast];exact E8 B (by decide)) (CG f l hi) q)
def eY{H:AH}{Q:b8}{w:V}(h:H a=some (.dict kvs))(hf:keyFits kvs w)(B:ax kvs w=some x)(q:Q x H):vb H Q (.ref a) w:=.inr (jL kvs x h hf B q)
def cR{l:List α}(d:α)(h:i<l.length):l[i]?=some (l.getD i d):=by rw[C1,E4 h];rfl
def nV(H:AH)(i j:Int)(Q:Bool->Prop)(q:Q (!decide (i=j))):fj H .ne (.int i) (.int j) Q :=(cO ⟨rfl,by exact tE⟩ ⟨rfl,by exact tE⟩ (by rw[fJ];exact q))
def zK(H:AH)(i j:Int)(Q:Bool->Prop)(q:Q (decide (i=j))):fj H .eq (.int i) (.int j) Q :=(cO ⟨rfl,by exact tE⟩ ⟨rfl,by show 0<=8;exact tE⟩ (by rw[fJ];exact q))
def hJ{H:AH}{Q:Bool->Prop}(q:Q (decide (i=j))):fj H .eq (iv i) (iv j) Q:=zK _ _ _ _ (by rw[show decide ((i:Int)=(j:Int))=decide (i=j)from decide_eq_decide.mpr ⟨R5,B9 _⟩];exact q)
section
variable{H:AH}{Q:b8}{D:HD}
def HD.Ok.u(O:D.Ok):D.UOk:=⟨O.nz,O.lpar,O.llots,O.rle,O.pr,O.lots,by obtain B:=O.edg.2.2;obtain B:=O.nz;exact KA (by assumption) B⟩
def EZ(O:D.UOk)(h:i<D.n):D.r i<D.n:=z0 (O.rle i h).1 h
def wQ(O:D.UOk)(h:i<D.n):∃p,D.lots[i]?=some p:=by
 obtain B:i<D.lots.length:=by rw[O.llots];exact h
 exact⟨_,E4 B⟩
def oA(O:D.Ok)(h:i<D.n):D.r i<D.n:=z0 (O.rle i h).1 h
theorem mq{n:Nat}(h:i<n)(B:n<=60):i<1000:=E8 h (s7 B (by decide))
def Ao{a:Nat}(h:a≠b):(!decide ((a:Int)=(b:Int)))=true:=by rw[E2 (show ¬((a:Int)=b) fromλe=>h (R5 e))];rfl
def vt{a:Nat}(h:a=b):(!decide ((a:Int)=(b:Int)))=false:=by rw[D8 (show((a:Int)=b)from B9 Int.ofNat h)];rfl
def fU(T:Txt σ){f:String}(h:f∈["above","lots","merged"]):f∈σ.flds "Unions":=by rw[T.fUnions];exact h
def fH(T:Txt σ){f:String}(h:f∈["bank","unions","edges","forest","known","above","waiting"]):f∈σ.flds "Heap":=by rw[T.fHeap];exact h
def fB(T:Txt σ){f:String}(h:f∈["nodes","numbers","weights","depths"]):f∈σ.flds "Bank":=by rw[T.fBank];exact h
section
variable{e:ME}{f:String}{v:V}
def ny(T:Txt σ)(A:D.At H)(B:Ev σ l H e (.ref D.up))(hf:f∈["above","lots","merged"])(h:[("above",V.ref D.ua),("lots",.ref D.lp),("merged",.ref D.gp)].lookup f=some v):Ev σ l H (.attr e f) v:=B.attr A.uni (fU T hf) h
def mo(T:Txt σ)(A:D.At H)(B:Ev σ l H e (.ref D.bp))(hf:f∈["nodes","numbers","weights","depths"])(h:[("nodes",V.ref D.np),("numbers",.ref D.mp),("weights",.ref D.qp),("depths",.ref D.dp)].lookup f=some v):Ev σ l H (.attr e f) v:=B.attr A.bank (fB T hf) h
def hU(T:Txt σ)(A:D.At H)(B:Ev σ l H e (.ref D.hp))(hf:f∈["bank","unions","edges","forest","known","above","waiting"])(h:[("bank",V.ref D.bp),("unions",.ref D.up),("edges",.ref D.ep),("forest",.ref D.fp),("known",.ref D.kp),("above",.ref D.ap),("waiting",.ref D.wp)].lookup f=some v):Ev σ l H (.attr e f) v:=B.attr A.heap (fH T hf) h
def hV(B:Ev σ l H e (.tup (v::vs)))(hz:vs.length<1000):Ev σ l H (.slc e (some 1) none) (.tup vs):=λd _ q=>B d _ (Fd hz (Q3 _) rfl rfl q)
theorem cY{n:Nat}(B:Ev σ l H e (.ref a))(ha:H a=some (.list vs))(hl:vs.length=n)(hz:n<=2^21):Ev σ l H (.prim .len e) (iv n):=by subst hl;exact B.prim λ_ q=>(aK vs ha hz q)
end
def Fy(O:D.UOk)(T:Txt σ)(A:D.At H){x:Nat}(hx:x<D.n)(B:l "self"=some (.ref D.up))(F:l "a"=some (iv x)):Ev σ l H (.idx (.attr c7 "above") i9) (iv (D.pr x)) :=(ny T A (.var B) (by decide) rfl).idx (.var F) λ_ q=>cf A.par (cR 0 (by rw[O.lpar];exact hx)) (mq hx O.nz) q
def rf(T:Txt σ)(A:D.At H)(O:D.UOk){a:Nat}(ha:a<D.n)(q:Q (iv (D.r a)) H):MCall σ 1 "Unions" "find" [.ref D.up,iv a] H Q:=by
 refine aE T.ok T.Unions_find rfl (vU (λm l H'=>H'=H/\l "self"=some (.ref D.up)/\∃x,x<=m/\x<D.n/\D.r x=D.r a/\l "a"=some (iv x)) a (cO rfl rfl (jK a (z7 _) ha rfl rfl)) ?_);rintro m l _ ⟨rfl,J,x,hx,B,hr,G⟩;obtain p:=O.pr x B;obtain e:=Fy O T A B J G;by_cases F:D.pr x=x
 .exact .inr ⟨e.cmpT (.var G) λ_ q=>nV _ _ _ _ (by rw[vt F];exact q),bY (.var G) (by rw[<- hr,p.1 F]at q;exact q)⟩
 .exact .inl ⟨e.cmpT (.var G) λ_ q=>nV _ _ _ _ (by rw[Ao F];exact q),λY k _=>sd e (k _ _ _ (E8 (p.2 F).1 hx) (cO rfl J (jK _ (z7 _) (C6 (p.2 F).1 B) ((p.2 F).2.trans hr) rfl)))⟩
end
end
variable{N:List Nd}{D':HD}{nd:Nd}
section
variable{x:String}
def Ext.setc{H:AH}{c:Addr}(hc:H0 c=none)(x:Ext H0 H)(o:AO):Ext H0 (H.set c o):=λa y e=>by
 rw[p6]
 .exact x a y e
 .rintro rfl;rw[hc]at e;exact ns e
theorem pX{step:V->AH->(AH->Prop)->Prop}{c:Addr}(B:dB src H0)(f:α->V)(g:α->List V):∀(vs:List α)(ws:List V)(H:AH){K:AH->Prop},Ext H0 H->H c=some (.list ws)->ws.length+(vs.flatMap g).length<2^20 -> (∀x∈vs,∀(H':AH)(ws':List V)(k:AH->Prop),Ext H0 H'->H' c=some (.list ws')->ws'.length+(g x).length<2^20->(∀H'',Ext H0 H''->H'' c=some (.list (ws'++g x))->k H'')->step (f x) H' k) -> (∀H',Ext H0 H'->H' c=some (.list (ws++vs.flatMap g))->K H')->fk src step (vs.map f) H K
 | [],ws,H,K,x,hc,hl,hs,J=>⟨by cases src with
   |none=>trivial
   |some p=>exact x _ _ B,J H x (by simpa using hc)⟩
 |v::vs,ws,H,K,x,hc,hl,hs,J=>by
  have G:ws.length+((g v).length+(vs.flatMap g).length)<2^20:=by simpa[List.flatMap_cons]using hl
  refine⟨by cases src with
   |none=>trivial
   |some p=>exact x _ _ B,hs v y4 H ws _ x hc (KB G) λH'' Q F=>?_⟩
  refine pX B f g vs (ws++g v) H'' Q F (by rw[A6];exact KC G) (λy hy=>hs y (w9 _ hy)) λH' x' O=>J H' x' ?_;rw[O,N6,K4]
def qJ{H:AH}(x:Ext H H')(h:dB src H):dB src H':=by
 rcases src with _|p
 .trivial
 .exact x _ _ h
section
variable{H:AH}{d:Nat}{Q:b8}
def pW{K:Addr->AH->Prop}{e:ME}{cn:Option ME}(xs:List α)(f g:α->V)(p:α->Bool)(hs:dB src H)(hz:xs.length<2^20) (hp:∀v∈xs,∀(H':AH)(J:Bool->AH->Prop),Ext H H'->J (p v) H'->yS σ d cn ((l.drop [x]).put x (f v)) H' J) (he:∀v∈xs,p v=true->∀(H':AH)(J:b8),Ext H H'->(∀H'',Ext H' H''->J (g v) H'')->aY σ d e ((l.drop [x]).put x (f v)) H' J) (q:∀c H',Ext H H'->H c=none->H' c=some (.list ((xs.filter p).map g))->K c H') : fresh H (λv H2=>∃c,v=.ref c/\fk src (λv H' k=>∃l',bz (.nm x) v (l.drop [x])=some l'/\yS σ d cn l' H' λok H''=>if ok=true then aY σ d e l' H'' λv H3=>∃vs,H3 c=some (.list vs)/\vs.length<2^20/\k (H3.set c (.list (vs++[v])))else k H'') (xs.map f) H2 λH3=>K c H3) (.list []):=by
 intro c hc;refine(af c rfl ?_);obtain key:∀(ys:List α)(B:List V)(H2:AH),(∀y∈ys,y∈xs)->Ext H H2->H2 c=some (.list B)->B.length+ys.length<2^20->(∀H3,Ext H H3->H3 c=some (.list (B++(ys.filter p).map g))->K c H3) ->
   fk src (λv H' k=>∃l',bz (.nm x) v (l.drop [x])=some l'/\yS σ d cn l' H' λok H''=>if ok=true then aY σ d e l' H'' λv H3=>∃vs,H3 c=some (.list vs)/\vs.length<2^20/\k (H3.set c (.list (vs++[v])))else k H'') (ys.map f) H2 λH3=>K c H3:=by
  intro ys;induction ys with
  |nil=>exactλB H2 _ F Q _ k=>⟨qJ F hs,k H2 F (by rw[Q];exact B9 (λl=>some (AO.list l)) (G2 B).symm)⟩
  |cons y ys ih =>
   intro B H2 hm F Q hz k;obtain hy:=hm y y4;have O:∀z∈ys,z∈xs:=λz h=>hm z (w9 _ h);have ad:B.length<2^20:=z0 (G8 _ _) hz;refine⟨qJ F hs,(af _ rfl (hp y hy H2 _ F ?_))⟩;cases G:p y with
   |true =>
    refine gW rfl (he y hy G H2 _ F λH3 Y=>(aK B (Y _ _ Q) ad (ih (B++[g y]) _ O ((F.trans' Y).setc hc _) (AH.set_self _ _ _) ?_ λH4 x4 Z=>k H4 x4 ?_)))
    .rw[A6,O6,Nat.add_comm [g y].length];exact hz
    .rw[Z,K4,List.filter_cons_of_pos G];rfl
   |false =>refine jc rfl (ih B H2 O F Q (Nat.lt_of_succ_lt hz) λH4 x4 Z=>k H4 x4 ?_);rw[Z,List.filter_cons_of_neg (by rw[G];decide)]
 exact key xs [] _ (λ_ h=>h) (w4 _ hc) (AH.set_self _ _ _) (by rw[List.length_nil,Q4];exact hz) λH3 Y h3=>q c H3 Y hc h3
def xW(l:List α):l.filter (λ_=>true)=l:=List.filter_eq_self.mpr λ_ _=>rfl
def jS{K:Addr->AH->Prop}{e:ME}(xs:List α)(f g:α->V)(hs:dB src H)(hz:xs.length<2^20) (F:∀v∈xs,∀(H':AH)(B:b8),Ext H H'->(∀H'',Ext H' H''->B (g v) H'')->aY σ d e ((l.drop [x]).put x (f v)) H' B) (q:∀c H',Ext H H'->H c=none->H' c=some (.list (xs.map g))->K c H') : fresh H (λv H2=>∃c,v=.ref c/\fk src (λv H' k=>∃l',bz (.nm x) v (l.drop [x])=some l'/\yS σ d none l' H' λok H''=>if ok=true then aY σ d e l' H'' λv H3=>∃vs,H3 c=some (.list vs)/\vs.length<2^20/\k (H3.set c (.list (vs++[v])))else k H'') (xs.map f) H2 λH3=>K c H3) (.list []) :=pW xs f g (λ_=>true) hs hz (λ_ _ _ _ _ k=>k) (λv G _=>F v G) λc H' x h0 h=>q c H' x h0 (by rw[xW]at h;exact h)
def kA{it e:ME}(xs:List α)(f g:α->V)(hi:Ev σ l H it (.tup (xs.map f)))(hz:xs.length<2^20) (F:∀v∈xs,∀(H':AH)(B:b8),Ext H H'->(∀H'',Ext H' H''->B (g v) H'')->aY σ d e ((l.drop [x]).put x (f v)) H' B) (q:∀c H',Ext H H'->H c=none->H' c=some (.list (xs.map g))->Q (.ref c) H'):aY σ d (.comp e (.one (.nm x) (.exp it) none)) l H Q :=hi d _ ⟨s7 (r5 (u1 f)) (D9 hz),jS (src:=none) xs f g trivial hz F q⟩
def Bu{it e:ME}{cn:Option ME}(h:aY σ d it l H λv H1=>jy v H1 λsrc vs H1=>fresh H1 (λv H2=>∃c,v=.ref c/\fk src (λv H' k=>∃l',bz (.nm x) v (l.drop [x])=some l'/\yS σ d cn l' H' λok H''=>if ok=true then aY σ d e l' H'' λv H3=>∃vs,H3 c=some (.list vs)/\vs.length<2^20/\k (H3.set c (.list (vs++[v])))else k H'') vs H2 λH3=>Q (.ref c) H3) (.list [])):aY σ d (.comp e (.one (.nm x) (.exp it) cn)) l H Q:=h
def kB{it e:ME}(h:aY σ d it l H λv H1=>jy v H1 λsrc vs H1=>fresh H1 (λv H2=>∃c,v=.ref c/\fk src (λv H' k=>∃l',bz (.nm x) v (l.drop [x])=some l'/\yS σ d none l' H' λok H''=>if ok=true then aY σ d e l' H'' λv H3=>∃vs,H3 c=some (.list vs)/\vs.length<2^20/\k (H3.set c (.list (vs++[v])))else k H'') vs H2 λH3=>Q (.ref c) H3) (.list [])):aY σ d (.comp e (.one (.nm x) (.exp it) none)) l H Q:=h
end
def iU(s:String):gF (.str s):=⟨rfl,by exact tE⟩
def uq(l:List Nat):bJ (l.map iv)=0:=by
 induction l with
 |nil=>rfl
 |cons a l B=>show max 0 (bJ (l.map iv))=0;rw[B];rfl
def vB(l:List Nat):bQ (l.map iv)=true:=by
 induction l with
 |nil=>rfl
 |cons a l B=>show(true&&bQ (l.map iv))=true;rw[B];rfl
def vj(l:List Nat):bG (l.map iv)=true:=by
 induction l with
 |nil=>rfl
 |cons a l B=>show(true&&bG (l.map iv))=true;rw[B];rfl
def bL(nd:Nd):aS (ag nd)=true/\aB (ag nd)=1/\cZ (ag nd)=2:=by
 obtain B:aS (ag nd)=true:=by show(true&&bG (nd.2.map iv))=true;rw[vj];rfl
 obtain F:aB (ag nd)=1:=by show max 0 (bJ (nd.2.map iv))+1=1;rw[uq];rfl
 refine(cO B F ?_);unfold ag at *;rw[fW,B,F];rfl
section
variable{H:AH}{Q:b8}{D:HD}
def mD(O:D.Ok)(h:i<D.n):D.nodes[i]?=some (D.op i,D.kids i):=cR ("",[]) h
theorem FI{n:Nat}(h:n<=60):n<=2^21:=s7 h (by decide)
theorem Pm(T:Txt σ)(A:D.At H)(O:D.Ok)(ha:a<D.n)(q:Q (.str (D.op a)) H):MCall σ 1 "Bank" "op" [.ref D.bp,iv a] H Q :=aE T.ok T.Bank_op rfl (bY (((mo T A (.var rfl) (by decide) rfl).idx (.var rfl) λ_ q=>cf A.nodes (mD O ha) (mq ha O.nz) q).idx (w:=iv 0) .cst λ_ q=>(jL 0 _ rfl (by decide) rfl q)) q)
def cT(O:D.Ok)(h:i<D.n):∀k∈D.kids i,k<i:=(O.kids i _ (mD O h)).1
def kids_len(O:D.Ok)(h:i<D.n):(D.kids i).length<=2:=(O.kids i _ (mD O h)).2.2
def vr{f:α->V}{l:List α}(h:l.length<=2):(l.map f).length<1000:=by rw[u1];exact z0 h (by decide)
def Fj(T:Txt σ)(A:D.At H)(O:D.Ok)(ha:a<D.n)(q:Q (.tup ((D.kids a).map iv)) H):MCall σ 1 "Bank" "kids" [.ref D.bp,iv a] H Q :=aE T.ok T.Bank_kids rfl (bY (hV ((mo T A (.var rfl) (by decide) rfl).idx (.var rfl) λ_ q=>cf A.nodes (mD O ha) (mq ha O.nz) q) (vr (kids_len O ha))) q)
def BP(T:Txt σ)(A:D.At H)(O:D.Ok)(q:Q (iv D.n) H):MCall σ 1 "Bank" "size" [.ref D.bp] H Q :=aE T.ok T.Bank_size rfl (bY (cY (mo T A (.var rfl) (by decide) rfl) A.nodes (u1 _) (FI O.nz)) q)
def wq(T:Txt σ)(A:D.At H)(hl:D.par.length=k)(hk:k<=1000)(q:Q (iv k) H):MCall σ 1 "Unions" "size" [.ref D.up] H Q :=aE T.ok T.Unions_size rfl (bY (cY (ny T A (.var rfl) (by decide) rfl) A.par ((u1 _).trans hl) (s7 hk (by decide))) q)
def BU(T:Txt σ)(A:D.At H)(O:D.Ok)(q:Q (iv D.n) H):MCall σ 2 "Heap" "size" [.ref D.hp] H Q :=aE T.ok T.Heap_size rfl (cN (aQ (hU T A (.var rfl) (by decide) rfl) A.bank rfl T.Bank_size.some .nil (BP T A O q)))
def jQ(T:Txt σ)(A:D.At H)(O:D.Ok)(ha:a<D.n)(q:Q (iv (D.r a)) H):MCall σ 2 "Heap" "find" [.ref D.hp,iv a] H Q :=aE T.ok T.Heap_find rfl (cN (aQ (hU T A (.var rfl) (by decide) rfl) A.uni rfl T.Unions_find.some (.cons (.var rfl) .nil) (rf T A O.u ha q)))
theorem zr(T:Txt σ)(A:D.At H)(O:D.Ok)(ha:a<D.n)(q:∀H',Ext H H'->Q (ag (D.canon a)) H'):MCall σ 3 "Heap" "node" [.ref D.hp,iv a] H Q:=by obtain F:=kids_len O ha;obtain J:Ev σ (aT ["self","n"] [.ref D.hp,iv a]) H (.attr c7 "bank") (.ref D.bp):=hU T A (.var rfl) (by decide) rfl;obtain hl:((D.kids a).map (λi=>iv (D.r i))).length<=2:=s7 (r5 (u1 _)) F;refine aE T.ok T.Heap_node rfl (cN (aQ J A.bank rfl T.Bank_op.some (.cons (.var rfl) .nil) ((Pm T A O ha ?_).room (P7 1))));refine bu (kB (aQ J A.bank rfl T.Bank_kids.some (.cons (.var rfl) .nil) ((Fj T A O ha ?_).room (P7 1))));refine⟨s7 (r5 (u1 _)) (s7 F (by decide)),jS (src:=none) (D.kids a) iv (λi=>iv (D.r i)) trivial (z0 F (by decide)) (λi hi H' Z Y k=>aQ (.var rfl) (A.ext Y).heap rfl T.Heap_find.some (.cons (.var rfl) .nil) (jQ T (A.ext Y) O (C6 (cT O ha i hi) ha) (k H' (w3 _)))) λc H' x' _ G=>?_⟩;refine(jK _ G (s7 hl (by decide)) (s7 (Q5 hl 1) (by decide)) ?_);obtain B:=q H' x';unfold ag HD.canon at B;rw[I8]at B;exact B
end
end
theorem ni:∀(l m:List Nat),fw (l.map iv) (m.map iv)=true
 | [],m=>by cases m <;> rfl
 |_::_,[]=>rfl
 |a::l,b::m=>by show(true&&fw (l.map iv) (m.map iv))=true;rw[ni l m];rfl
def dc{l:List Nat}(h:l.length<64):sortable (l.map iv):=by
 refine(sw (by simpa using h) (λx hx=>?_) (.inr λx hx=>?_) (λx hx y hy=>?_))
 .obtain⟨i,_,rfl⟩:=w7.mp hx;exact⟨rfl,E1 _⟩
 .obtain⟨i,_,rfl⟩:=w7.mp hx;rfl
 .obtain⟨i,_,rfl⟩:=w7.mp hx;obtain⟨j,_,rfl⟩:=w7.mp hy;rfl
def Bo{ws:List V}(p:vs.Perm ws)(hc:∀x∈vs,∀y∈vs,cG x y=true)(hs:ws.Pairwise λa b=>gg b a=false):aH vs=ws :=et ((aw vs).trans p) (λx hx y hy=>hc x ((aw vs).mem_iff.mp hx) y ((aw vs).mem_iff.mp hy)) (dN vs hc) hs
def jJ{l m:List Nat}(p:l.Perm m)(hs:m.Pairwise (·<=·)):aH (l.map iv)=m.map iv:=by
 refine Bo (p.map iv) (λx hx y hy=>?_) ?_
 .refine ah (w7.mp hx) λi _ eN=>?_;subst eN;refine ah (w7.mp hy) λj _ B=>?_;subst B;rfl
 .rw[L3];refine hs.imp λ{a b} h=>?_;simp only[gg,decide_eq_false_iff_not];exact KD h
def oM{l:List Nd}(h:l.length<64):sortable (l.map ag):=by
 refine(sw (by simpa using h) (λx hx=>?_) (.inr λx hx=>?_) (λx hx y hy=>?_))
 .refine ah (w7.mp hx) λi _ G=>?_;subst G;obtain B:=bL i;exact⟨B.1,by rw[B.2.1];decide⟩
 .refine ah (w7.mp hx) λi _ J=>?_;subst J;rfl
 .refine ah (w7.mp hx) λi _ O=>?_;subst O;refine ah (w7.mp hy) λj _ F=>?_;subst F;show(true&&fw (i.2.map iv) (j.2.map iv))=true;rw[ni];rfl
theorem sX{p:Nat->Prop}[DecidablePred p](f:Nat->β):∀(l:List Nat),l.flatMap (λa=>if p a then[f a]else[])=(l.filter λa=>decide (p a)).map f
 | []=>rfl
 |a::l=>by rw[N6,sX f l,List.filter_cons];by_cases h:p a <;> simp[h]
def Lst(H:AH)(Q:b8)(vs:List V):Prop:=∀H' c,Ext H H'->H c=none->H' c=some (.list vs)->Q (.ref c) H'
theorem Lst.fresh{H:AH}{Q:b8}(h:Lst H Q vs):fresh H Q (.list vs):=λc hc=>h _ c (w4 _ hc) hc (AH.set_self _ _ _)
namespace HD
variable{D:HD}
def mem_len(c:Nat):(D.mem c).length<=D.n:=by obtain B:=N9 (λi=>decide (D.r i=c)) (List.range D.n);simpa[HD.mem]using B
def mem_lt(h:i∈D.mem c):i<D.n/\D.r i=c:=by unfold HD.mem at h;rw[I4,E3]at h;exact⟨h.1,by simpa using h.2⟩
def mem_rise(c:Nat):(D.mem c).Pairwise (· < ·):=List.Pairwise.filter _ List.pairwise_lt_range
def roots_rise:D.roots.Pairwise (· < ·):=List.Pairwise.filter _ List.pairwise_lt_range
def roots_len:D.roots.length<=D.n:=by obtain B:=N9 (λi=>decide (D.r i=i)) (List.range D.n);simpa[HD.roots]using B
def mem_roots:i∈D.roots↔i<D.n/\D.r i=i:=by unfold HD.roots;rw[I4,E3];simp
noncomputable def NN(D:HD)(c:Nat):List V:=aH (bf ((D.mem c).map λi=>ag (D.canon i)))
end HD
section
variable{H:AH}{Q:b8}{D:HD}
def FN(O:D.Ok)(h:i<D.n):∃p,D.lots[i]?=some p:=by
 obtain B:i<D.lots.length:=by rw[O.llots];exact h
 exact⟨_,E4 B⟩
def gz{H:AH}(x:Ext H H'){c:Addr}(h:H' c=none):H c=none:=by
 rcases z:H c with _|o
 .rfl
 .exact nn h (x _ _ z)
def gq{K:pN->List V->AH->Prop}{a:Addr}(h:H a=some (.list vs))(hz:vs.length<=2^20)(k:K (some (a,vs)) vs H):jy (.ref a) H K:=(aK vs h hz k)
theorem Py{f:α->V}{l:List α}{n:Nat}(h:l.length<=n)(B:n<=60):(l.map f).length<64:=by rw[u1];exact z0 (s7 h B) (by decide)
def xL(T:Txt σ)(A:D.At H)(O:D.Ok)(ha:a<D.n)(q:Lst H Q ((D.mem (D.r a)).map iv)):MCall σ 2 "Unions" "members" [.ref D.up,iv a] H Q:=by
 have hr:=oA O ha;refine bM (FN O hr) λp hp=>?_;have P:=O.lots _ p hp (O.rle a ha).2;refine aE T.ok T.Unions_members rfl (cN (bu (Bv (aA (ny T A (.var rfl) (by decide) rfl) (aQ (.var rfl) A.uni rfl T.Unions_find.some (.cons (.var rfl) .nil) (rf T A O.u ha (cf A.lots hp (mq hr O.nz) (.inl (aK _ (A.lot p (z6 hp)) ?_ ?_)))))))))
 .exact dc (z0 (s7 (s7 (r5 P.length_eq) (D.mem_len _)) O.nz) (by decide))
 .rw[jJ P ((D.mem_rise _).imp D9)];exact q.fresh
def uR(T:Txt σ)(A:D.At H)(O:D.Ok)(ha:a<D.n)(q:Lst H Q ((D.mem (D.r a)).map iv)):MCall σ 3 "Heap" "members" [.ref D.hp,iv a] H Q :=aE T.ok T.Heap_members rfl (cN (aQ (hU T A (.var rfl) (by decide) rfl) A.uni rfl T.Unions_members.some (.cons (.var rfl) .nil) (xL T A O ha q)))
theorem yA(n:Nat):eM n=(List.range n).map iv:=rfl
def Lst.ext(q:Lst H Q vs)(x:Ext H H'):Lst H' Q vs:=λH2 c B h0 h=>q H2 c (x.trans' B) (gz x h0) h
def uS(T:Txt σ)(A:D.At H)(O:D.Ok)(ha:a<D.n)(q:Lst H Q (D.NN (D.r a))):MCall σ 4 "Heap" "nodes_of" [.ref D.hp,iv a] H Q:=by
 obtain B:=D.mem_len (D.r a);refine aE T.ok T.Heap_nodes_of rfl (cN (bu (kB (aQ (.var rfl) A.heap rfl T.Heap_members.some (.cons (.var rfl) .nil) (uR T A O ha λH1 l J Z hl=>gq hl (D9 (C6 (Py B O.nz) (by decide))) ?_)))));obtain G:=A.ext J;refine jS (D.mem (D.r a)) iv (λi=>ag (D.canon i)) hl (z0 (s7 B O.nz) (by decide)) (λi hi H' Q' Y k=>aQ (.var rfl) (G.ext Y).heap rfl T.Heap_node.some (.cons (.var rfl) .nil) (zr T (G.ext Y) O (HD.mem_lt hi).1 λH2 x3=>k H2 x3)) λc H' x' _ F=>?_;obtain e:(D.mem (D.r a)).map (λi=>ag (D.canon i))=((D.mem (D.r a)).map D.canon).map ag:=by rw[I8];rfl
 refine(aK _ F (by rw[e];exact oM (z0 (s7 (r5 (u1 _)) (s7 B O.nz)) (by decide))) ((q.ext (J.trans' x')).fresh))
end
theorem dG{step:V->Loc->AH->(Fl->Loc->AH->Prop)->Prop}(I:List V->Loc->AH->Prop)(hs:∀xs l H,I xs l H->dB src H) (B:∀x xs l H k,I (x::xs) l H->(∀l' H',I xs l' H'->k .next l' H')->step x l H k) (F:∀l H,I [] l H->K .next l H):∀xs l H,I xs l H->kM src step xs l H K
 | [],l,H,h=>⟨hs _ _ _ h,F l H h⟩
 |x::xs,l,H,h=>⟨hs _ _ _ h,B x xs l H _ h λl' H' h'=>dG I hs B F xs l' H' h'⟩
theorem nD{step:V->AH->(AH->Prop)->Prop}{K:AH->Prop}(I:b9)(hs:∀xs H,I xs H->dB src H) (B:∀x xs H k,I (x::xs) H->(∀H',I xs H'->k H')->step x H k) (F:∀H,I [] H->K H):∀xs H,I xs H->fk src step xs H K
 | [],H,h=>⟨hs _ _ h,F H h⟩
 |x::xs,H,h=>⟨hs _ _ h,B x xs H _ h λH' h'=>nD I hs B F xs H' h'⟩
noncomputable abbrev ba:=List (V×V)
noncomputable def Tabs(H:AH):List Addr->List ba->Prop
 | [],[]=>True
 |r::rs,t::ts=>H r=some (.dict t)/\Tabs H rs ts
 |_,_=>False
theorem Tabs.length{H:AH}:∀{rs:List Addr}{ts:List ba},Tabs H rs ts->rs.length=ts.length
 | [],[],_=>rfl
 |_::_,_::_,h=>by simp[Tabs.length h.2]
 | [],_::_,h=>h.elim
 |_::_,[],h=>h.elim
theorem Tabs.append{H:AH}:∀{rs B:List Addr}{ts F:List ba},Tabs H rs ts->Tabs H B F->Tabs H (rs++B) (ts++F)
 | [],_,[],_,_,h'=>h'
 |_::_,_,_::_,_,h,h'=>⟨h.1,h.2.append h'⟩
 | [],_,_::_,_,h,_=>h.elim
 |_::_,_,[],_,h,_=>h.elim
theorem Tabs.keep{H:AH}(k:∀a t,H a=some (.dict t)->H' a=some (.dict t)):∀{rs:List Addr}{ts:List ba},Tabs H rs ts->Tabs H' rs ts
 | [],[],_=>trivial
 |_::_,_::_,h=>⟨k _ _ h.1,Tabs.keep k h.2⟩
 | [],_::_,h=>h.elim
 |_::_,[],h=>h.elim
def Tabs.ext{H:AH}(x:Ext H H'){rs:List Addr}{ts:List ba}(h:Tabs H rs ts):Tabs H' rs ts:=h.keep λ_ _ e=>x _ _ e
def Tabs.setl{H:AH}{c:Addr}{ws:List V}(hc:H c=some (.list vs)){rs:List Addr}{ts:List ba}(h:Tabs H rs ts):Tabs (H.set c (.list ws)) rs ts:=h.keep λa t e=>by
 rw[p6]
 .exact e
 .rintro rfl;rw[hc]at e;exact AO.noConfusion (w8 e)
noncomputable def cj(s:String):Bool:=s=="?x"||s=="?y"
noncomputable def ie(p:V):Bool:=match p with | .tup [.str s]=>cj s|_=>false
mutual
noncomputable def fE:V->Bool
 | .tup (.str op::ps)=>((cj op&&ps.isEmpty)||aF.contains op)&&decide (ps.length<=2)&&gE ps
 |_=>false
noncomputable def gE:List V->Bool
 | []=>true
 |p::ps=>fE p&&gE ps
end
mutual
noncomputable def nv:V->Nat
 | .tup (.str op::ps)=>(if ps.isEmpty then 0 else 1)+tB ps
 |_=>0
noncomputable def tB:List V->Nat
 | []=>0
 |p::ps=>nv p+tB ps
end
mutual
noncomputable def yy:V->Nat
 | .tup (.str op::ps)=>1+mr ps
 |_=>0
noncomputable def mr:List V->Nat
 | []=>0
 |p::ps=>yy p+mr ps
end
mutual
noncomputable def eB(N:Nat->List V):V->Nat->ba->List ba
 | .tup (.str op::ps),c,tb =>
  if ie (.tup (.str op::ps))then(if cr ((ax tb (.str op)).getD (iv c)) (iv c)then[dput tb (.str op) (iv c)]else[])
  else(N c).flatMap λnd=>match nd with
   | .tup (.str op'::ks)=>if op'=op/\ks.length=ps.length then dF N ps ks [tb]else[]
   |_=>[]
 |_,_,_=>[]
noncomputable def dF(N:Nat->List V):List V->List V->List ba->List ba
 |p::ps,.int k::ks,tbs=>dF N ps ks (tbs.flatMap λtb=>eB N p k.toNat tb)
 |_,_,tbs=>tbs
end
noncomputable def fM(N:Nat->List V)(op:String)(ps:List V)(tb:ba)(nd:V):List ba:=match nd with
 | .tup (.str op'::ks)=>if op'=op/\ks.length=ps.length then dF N ps ks [tb]else[]
 |_=>[]
theorem hY(N:Nat->List V){op:String}(h:ie (.tup (.str op::ps))=true)(c:Nat)(tb:ba):eB N (.tup (.str op::ps)) c tb=if cr ((ax tb (.str op)).getD (iv c)) (iv c)then[dput tb (.str op) (iv c)]else[]:=by unfold eB;rw[if_pos h]
theorem fV(N:Nat->List V){op:String}(h:ie (.tup (.str op::ps))=false)(c:Nat)(tb:ba):eB N (.tup (.str op::ps)) c tb=(N c).flatMap (fM N op ps tb):=by unfold eB;rw[if_neg (by rw[h];exact C7)];rfl
def jx(N:Nat->List V)(p:V)(ps:List V)(k:Nat)(ks:List V)(tbs:List ba):dF N (p::ps) (iv k::ks) tbs=dF N ps ks (tbs.flatMap λtb=>eB N p k tb):=by
 conv=>lhs;unfold dF
 rfl
def iQ(N:Nat->List V)(ks:List V)(tbs:List ba):dF N [] ks tbs=tbs:=by rfl
theorem du(f:α->List β)(m:Nat):∀(l:List α),(∀x∈l,(f x).length<=m)->(l.flatMap f).length<=l.length*m
 | [],_=>by simp
 |a::l,h=>by rw[N6,A6,So,Nat.add_mul,Nat.one_mul];obtain B:=h a y4;obtain B:=du f m l λx hx=>h x (w9 _ hx);exact KE (by assumption) B
theorem xh{P:V->Prop}{Q:List V->Prop}(bad:∀p,(∀op ps,p≠.tup (.str op::ps))->P p)(tup:∀op ps,Q ps->P (.tup (.str op::ps)))(nil:Q [])(cons:∀p ps,P p->Q ps->Q (p::ps))(p:V):P p :=
 V.rec (motive_1:=P) (motive_2:=λps=>Q ps/\Q ps.tail) (bad _ λ_ _=>V.noConfusion) (bad _ λ_ _=>V.noConfusion) (λ_=>bad _ λ_ _=>V.noConfusion) (λ_=>bad _ λ_ _=>V.noConfusion) (λ_=>bad _ λ_ _=>V.noConfusion) (λvs h=>by
  rcases SH (∃op ps,vs=.str op::ps)with⟨op,ps,e⟩|z
  .rw[e]at h ⊢;exact tup op ps h.2
  .exact bad _ λop ps e=>z (uD op ps (V.tup.inj e))) (λ_=>bad _ λ_ _=>V.noConfusion) ⟨nil,nil⟩ (λp ps a b=>⟨cons p ps a b.1,b.1⟩) p
theorem sU{N:Nat->List V}{p:V}(h:∀op ps,p≠.tup (.str op::ps))(c:Nat)(tb:ba):eB N p c tb=[]:=by
 unfold eB;split
 .exact absurd rfl (h _ _)
 .rfl
def uX(N:Nat->List V)(p:V)(ps:List V)(tbs:List ba):dF N (p::ps) [] tbs=tbs:=by rfl
def sW(N:Nat->List V)(p:V)(ps ks:List V)(tbs:List ba):(∃k B,dF N (p::ps) ks tbs=dF N ps B (tbs.flatMap λtb=>eB N p k tb))\/dF N (p::ps) ks tbs=tbs:=by
 rcases ks with _|⟨k,ks⟩
 .exact .inr (uX N p ps tbs)
 .cases k with
  |int i=>exact .inl (uD i.toNat ks rfl)
  |_=>exact .inr rfl
theorem wA(N:Nat->List V)(op:String)(ps:List V)(tb:ba)(nd:V):(∃ks,fM N op ps tb nd=dF N ps ks [tb])\/fM N op ps tb nd=[]:=by
 unfold fM;split
 .split
  .exact .inl ⟨_,rfl⟩
  .exact .inr rfl
 .exact .inr rfl
theorem qi(N:Nat->List V){op:String}(tb:ba){nd:V}(h:nd≠.tup [.str op]):fM N op [] tb nd=[]:=by
 delta fM;split
 .exact if_neg λz=>h (by rw[z.1,K7.mp z.2])
 .rfl
theorem sS(N:Nat->List V)(op:String)(tb:ba):∀{l:List V},l.Nodup->(l.flatMap (fM N op [] tb)).length<=1
 | [],_=>E1 _
 |a::l,h=>by
  rw[C8]at h;rw[N6,A6];rcases SH (a=.tup [.str op])with e|e
  .obtain B:l.flatMap (fM N op [] tb)=[]:=List.flatMap_eq_nil_iff.mpr λx hx=>qi N tb λz=>h.1 (by rw[e,<- z];exact hx);rw[B,e];exact r5 (B9 List.length (if_pos ⟨rfl,rfl⟩:fM N op [] tb (.tup [.str op])=[tb]))
  .rw[qi N tb e,List.length_nil,Q4];exact sS N op tb h.2
theorem FQ(op:String)(ps:List V):nv (.tup (.str op::ps))=(if ps.isEmpty then 0 else 1)+tB ps:=by rfl
theorem fT{N:Nat->List V}(G:∀c,(N c).length<=60/\(N c).Nodup):∀(p:V)(c:Nat)(tb:ba),(eB N p c tb).length<=60^nv p :=
 have z (n:Nat):0<60^n:=Nat.pow_pos (by decide)
 xh (Q:=λps=>∀(ks:List V)(tbs:List ba),(dF N ps ks tbs).length<=tbs.length*60^tB ps)
  (λp h c tb=>by rw[sU h];exact E1 _)
  (λop ps B c tb=>by
   rcases h:ie (.tup (.str op::ps))with _|_
   .rw[fV N h];rcases ps with _|⟨q,ps⟩
    .exact s7 (sS N op tb (G c).2) (z _)
    .rw[FQ,show(if(q::ps).isEmpty=true then 0 else 1)=1 from rfl,Nat.pow_add];refine s7 (du _ (60^tB (q::ps)) _ λnd _=>?_) (Nat.mul_le_mul_right _ (G c).1);rcases wA N op (q::ps) tb nd with⟨ks,e⟩|e
     .rw[e];exact s7 (B ks [tb]) (r5 (Nat.one_mul _))
     .rw[e];exact E1 _
   .rw[hY N h];refine s7 ?_ (z _);split <;> simp)
  (λks tbs=>by rw[iQ];exact Se _ (z _))
  (λp ps hp B ks tbs=>by
   rcases sW N p ps ks tbs with⟨k,F,e⟩|e
   .rw[e,(by conv=>lhs;unfold tB:tB (p::ps)=nv p+tB ps),Nat.pow_add,<- Nat.mul_assoc];exact s7 (B F _) (Nat.mul_le_mul_right _ (du _ _ tbs λx _=>hp k x))
   .rw[e];exact Se _ (z _))
variable{tb:ba}
structure cX(k:Nat)(tb:ba):Prop where
 ent:∀p∈tb,(∃s,p.1=.str s)/\∃i:Nat,p.2=iv i
 len:tb.length<=k
def cX.str(h:cX k tb):bI tb:=λp hp=>by refine cq (h.ent p hp) λaX _=>?_;obtain⟨s,e⟩:=aX;rw[e];rfl
def cX.fits(h:cX k tb)(s:String):keyFits tb (.str s):=⟨Nat.one_ne_zero,λp hp=>h.str p hp⟩
def sQ{kvs:ba}{k v:V}{p:V×V}(h:p∈dput kvs k v):p∈kvs\/p=(k,v)\/∃q∈kvs,q.1=p.1/\p.2=v:=by
 unfold dput at h;split at h
 .refine ah (w7.mp h) λq hq e=>?_;by_cases B:cr q.1 k=true
  .rw[if_pos B]at e;rw[<- e];exact .inr (.inr (aK q hq rfl rfl))
  .rw[if_neg B]at e;rw[<- e];exact .inl hq
 .rcases C2.mp h with h|h
  .exact .inl h
  .exact .inr (.inl (u5.mp h))
def sP{kvs:ba}{k v:V}:(dput kvs k v).length<=kvs.length+1:=by unfold dput;split <;> simp
theorem cX.put(h:cX k tb)(s:String)(i:Nat):cX (k+1) (dput tb (.str s) (iv i)):=by
 refine⟨λp hp=>?_,s7 sP (Nat.add_le_add_right h.len 1)⟩;rcases sQ hp with h'|h'|⟨q,hq,e1,e2⟩
 .exact h.ent p h'
 .rw[h'];exact⟨⟨s,rfl⟩,i,rfl⟩
 .exact⟨by rw[<- e1];exact(h.ent q hq).1,i,e2⟩
def cX.mono{B:Nat}(h:cX k tb)(q:k<=B):cX B tb:=⟨h.ent,s7 h.len q⟩
theorem sV{N:Nat->List V}:∀(p:V)(c:Nat){k:Nat}{tb:ba},cX k tb->∀t∈eB N p c tb,cX (k+yy p) t :=
 xh (Q:=λps=>∀(ks:List V){k:Nat}{tbs:List ba},(∀t∈tbs,cX k t)->∀t∈dF N ps ks tbs,cX (k+mr ps) t)
  (λp h c _ _ _ t ht=>by rw[sU h]at ht;exact absurd ht y9)
  (λop ps G c k tb h t ht=>by
   have hz:yy (.tup (.str op::ps))=1+mr ps:=by rfl
   rcases O:ie (.tup (.str op::ps))with _|_
   .rw[fV N O]at ht;refine ah (K9.mp ht) λnd _ ht=>?_;rcases wA N op ps tb nd with⟨ks,e⟩|e
    .rw[e]at ht;exact(G ks (λu B=>u5.mp B▸h) t ht).mono (KG hz)
    .rw[e]at ht;exact absurd ht y9
   .rw[hY N O]at ht;split at ht
    .rw[u5.mp ht];exact(h.put op c).mono (KF hz)
    .exact absurd ht y9)
  (λks k tbs h t ht=>by rw[iQ]at ht;exact(h t ht).mono (G8 _ _))
  (λp ps hp G ks k tbs h t ht=>by
   rcases sW N p ps ks tbs with⟨i,J,e⟩|e
   .rw[e]at ht;exact(G J (λu B=>ah (K9.mp B) λtb F B=>hp i (h tb F) u B) t ht).mono (KH (by conv=>lhs;unfold mr))
   .rw[e]at ht;exact(h t ht).mono (G8 _ _))
section
variable{H:AH}{Q:b8}{D:HD}
def rp(H:AH)(i j:String)(Q:Bool->Prop)(q:Q (decide (i=j))):fj H .eq (.str i) (.str j) Q:=(cO (iU _) (iU _) (by rw[kz];exact q))
theorem Bx{op:String}(h:fE (.tup (.str op::ps))=true):(cj op=true/\ps=[])\/op∈aF :=((Bool.or_eq_true _ _).mp (aa (aa h).1).1).imp (λa=>⟨(aa a).1,I6.mp (aa a).2⟩) λa=>List.contains_iff_mem.mp a
theorem qC{op:String}(h:fE (.tup (.str op::ps))=true):ps.length<=2/\gE ps=true:=⟨z9 (aa (aa h).1).2,(aa h).2⟩
noncomputable def Rg(s:String):Bool:=decide (s∈iH)&&decide (decide (String.ofList (s.toList.take 1)="?")=cj s)
theorem GN{op:String}(h:fE (.tup (.str op::ps))=true):Rg op=true:=by
 obtain k:∀s∈"?x"::"?y"::aF,Rg s=true:=J0.mp (by decide);rcases Bx h with⟨a,_⟩|a
 .rcases(Bool.or_eq_true _ _).mp a with a|a
  .rw[J1 a];exact k _ y4
  .rw[J1 a];exact k _ (w9 _ y4)
 .exact k op (w9 _ (w9 _ a))
theorem pq(T:Txt σ){op:String}(h:fE (.tup (.str op::ps))=true)(q:Q (.bool (ie (.tup (.str op::ps)))) H):FCall σ 1 "is_variable" [.tup (.str op::ps)] H Q:=by
 obtain v:=aa (GN h);have hl:=(qC h).1;have B:=Ev.cmp (σ:=σ) (l:=aT ["t"] [.tup (.str op::ps)]) (H:=H) (op:=.eq) (e:=.prim .len o9) (e2:=.cst (iv 1)) ((Ev.var (v:=.tup (.str op::ps)) rfl).prim (p:=.len) (w:=iv (ps.length+1)) λ_ q=>⟨s7 (I7 hl) (by decide),q⟩) .cst λQ q=>hJ q;refine ce T.ok T.is_variable rfl (cN (Br (aA B (af _ rfl ?_))));cases ps with
 |nil =>have F:Ev σ (aT ["t"] [.tup [.str op]]) H (.slc (.idx o9 (.cst (iv 0))) none (some 1)) (.str (String.ofList (op.toList.take 1))):=λd Q q=>Ev.idx (v:=.tup [.str op]) (w:=iv 0) (u:=.str op) (.var rfl) .cst (λ_ q=>(jL 0 _ rfl (by decide) rfl q)) d _ (sw (z9 v.1) rfl rfl q);exact gW rfl (Ev.cmp (b:=cj op) (op:=.eq) (v:=.str (String.ofList (op.toList.take 1))) (w:=.str "?") F .cst (λQ q=>rp _ _ _ _ (by rw[z9 v.2];exact q)) _ _ q)
 |cons p ps=>exact jc (E2 (λz=>nomatch P1 z)) q
end
structure LI(l:Loc)(wk t fl:Addr)(pat:V)(op:String):Prop where
 self:l "self"=some (.ref wk)
 table:l "table"=some (.ref t)
 pattern:l "pattern"=some pat
 op:l "op"=some (.str op)
 found:l "found"=some (.ref fl)
theorem LI.put{t fl:Addr}{pat:V}{op:String}(h:LI l wk t fl pat op)(x:String)(v:V)(hx:x∉["self","table","pattern","op","found"]):LI (l.put x v) wk t fl pat op:=by simp only[List.mem_cons,List.not_mem_nil,or_false,not_or]at hx;refine QT hx λa b c d e=>?_;exact⟨by rw[jF,if_neg (Tc a)];exact h.self,by rw[jF,if_neg (Tc b)];exact h.table,by rw[jF,if_neg (Tc c)];exact h.pattern,by rw[jF,if_neg (Tc d)];exact h.op,by rw[jF,if_neg (Tc e)];exact h.found⟩
def bH(l:Loc)(x:String)(v:V):(l.put x v) x=some v:=by rw[jF,if_pos rfl]
def am(l:Loc){x y:String}(v:V)(h:y≠x):(l.put x v) y=l y:=by rw[jF,if_neg h]
def dE(l:Loc){xs:List String}{y:String}(h:y∉".0"::xs):(l.drop xs) y=l y:=by rw[Cf,if_neg h]
def aC{H:AH}{a b:Addr}{x:AO}(F:H a=some x)(B:H b=none):a≠b:=by rintro rfl;rw[F]at B;exact sn B
def tM{p:V}(h:gE (p::ps)=true):fE p=true/\gE ps=true:=by unfold gE at h;rw[G7]at h;exact h
theorem me:∀{ps:List V}{m:Nat},bJ ps<=m->∀p∈ps,aB p<=m
 | [],_,_,p,h=>absurd h y9
 |q::ps,m,hm,p,h=>by
  rcases A4.mp h with e|h
  .rw[e];exact FS hm
  .exact me (CH hm) p h
def zF{kvs:ba}{k v:V}(h:ax kvs k=some v):∃p∈kvs,p.2=v:=by unfold ax at h;refine ah (D7.mp h) λp hp e=>?_;exact(af p (List.mem_of_find?_eq_some hp) e)
def cX.get(h:cX k tb)(s:String)(c:Nat):∃i:Nat,(ax tb (.str s)).getD (iv c)=iv i:=by
 rcases e:ax tb (.str s)with _|v
 .exact⟨c,rfl⟩
 .refine ah (zF e) λp hp e2=>?_;refine cq (h.ent p hp) λ_ aX=>?_;refine bM aX λi hi=>?_;exact⟨i,by rw[<- hi,e2];rfl⟩
def ExtB(c:Addr)(H H':AH):Prop:=∀a o,a≠c->H a=some o->H' a=some o
theorem ExtB.set{c:Addr}{H:AH}(x:ExtB c H H')(o:AO):ExtB c H (H'.set c o):=λa y ha e=>by rw[p6 _ _ ha];exact x a y ha e
theorem mU{step:V->AH->(AH->Prop)->Prop}{c:Addr}(f:V->V){H3:AH}(B:∀H,ExtB c H3 H->dB src H):∀(xs ws:List V)(H:AH){K:AH->Prop},ExtB c H3 H->H c=some (.list ws)->ws.length+xs.length<2^20 -> (∀x∈xs,∀(H':AH)(ws':List V)(k:AH->Prop),ExtB c H3 H'->H' c=some (.list ws')->ws'.length<2^20->k (H'.set c (.list (ws'++[f x])))->step x H' k) -> (∀H',ExtB c H3 H'->H' c=some (.list (ws++xs.map f))->K H')->fk src step xs H K
 | [],ws,H,K,x,hc,hl,hs,F=>⟨B H x,F H x (by simpa using hc)⟩
 |v::vs,ws,H,K,x,hc,hl,hs,F=>by simp only[List.length_cons]at hl;refine⟨B H x,hs v y4 H ws _ x hc (KL hl) ?_⟩;refine mU f B vs (ws++[f v]) _ (x.set _) (AH.set_self _ _ _) (by simp;exact KM hl) (λy hy=>hs y (w9 _ hy)) λH' x' G=>F H' x' ?_;rw[G];simp
theorem oS{step:V->AH->(AH->Prop)->Prop}{c tl:Addr}{Q:AH}{rs2:List Addr}{tbs:List ba}(g:ba->List ba)(htl:Q tl=some (.list (rs2.map V.ref)))(hT:Tabs Q rs2 tbs)(hc:Q c=none)(hz:(tbs.flatMap g).length<=2^18){K:AH->Prop} (hs:∀r tb H' (rs:List Addr) k,tb∈tbs->Ext Q H'->H' r=some (.dict tb)->H' c=some (.list (rs.map V.ref))->rs.length+(g tb).length<=2^18->(∀H'' O,ExtB c H' H''->H'' c=some (.list ((rs++O).map V.ref))->Tabs H'' O (g tb)->k H'')->step (.ref r) H' k) (q:∀H' rs,Ext Q H'->H' c=some (.list (rs.map V.ref))->Tabs H' rs (tbs.flatMap g)->K H'):fk (some (tl,rs2.map V.ref)) step (rs2.map V.ref) (Q.set c (.list [])) K:=by
 refine nD (src:=some (tl,rs2.map V.ref)) (λzs H'=>Ext Q H'/\∃rem trem rs done,zs=rem.map V.ref/\Tabs H' rem trem/\(∀tb∈trem,tb∈tbs)/\H' c=some (.list (rs.map V.ref))/\Tabs H' rs done/\done++trem.flatMap g=tbs.flatMap g)
  (λzs H' h=>h.1 _ _ htl) (λx xs H' k h hk'=>?_) (λH' h=>?_) _ _ ⟨w4 _ hc,(Rs rs2 tbs ([]) ([]) rfl (hT.ext (w4 _ hc)) (λ_ h=>h) (AH.set_self _ _ _) trivial rfl)⟩
 .refine cq h λxe da=>?_;refine Rm da λrem trem rs done ez B Y J G F=>?_;rcases rem with _|⟨r1,rem⟩
  .exact(E7 _ _ ez).elim
  rcases trem with _|⟨Z,trem⟩
  .exact B.elim
  refine cq (K2 ez) λaX bV=>?_;subst aX;subst bV;obtain hd:=B9 List.length F;rw[A6,N6,A6,<- G.length,<- O6]at hd;refine hs r1 Z H' rs k (Y Z y4) xe B.1 J (s7 (s7 (G8 _ _) (r5 hd)) hz) λH4 O xb hc6 t5=>?_;obtain kp:∀a t,H' a=some (.dict t)->H4 a=some (.dict t):=λa t e=>xb a _ (λz=>by rw[z,J]at e;exact AO.noConfusion (w8 e)) e;refine hk' _ ⟨λa o e=>xb a o (aC e hc) (xe a o e),(Rs rem trem (rs++O) (done++g Z) rfl ((B.2).keep kp) (λtb htb=>Y tb (w9 _ htb)) hc6 ((G.keep kp).append t5) ?_)⟩;rw[K4,<- N6];exact F
 .refine cq h λxe ar=>?_;refine Rm ar λrem trem rs done ez B Y J G F=>?_;obtain ad:rem=[]:=Sk.mp ez.symm;subst ad;cases trem with
  |cons _ _=>exact B.elim
  |nil =>rw[List.flatMap_nil,G2]at F;subst F;exact q H' rs xe J G
section
variable{D:HD}
def Aj(h:x∈D.NN c):∃i,i∈D.mem c/\x=ag (D.canon i):=by unfold HD.NN at h;obtain B:=bn.mp ((aw _).mem_iff.mp h);refine ah (w7.mp B) λi hi bV=>?_;subst bV;exact(af i hi rfl)
def yY(O:D.Ok)(c:Nat):(D.NN c).length<=60:=by unfold HD.NN;rw[(aw _).length_eq];obtain B:=de ((D.mem c).map λi=>ag (D.canon i));obtain F:=D.mem_len c;obtain G:D.n<=60:=O.nz;simp at B;exact KJ F B G
def pM(O:D.Ok)(c:Nat):(D.NN c).length<=60/\(D.NN c).Nodup:=⟨yY O c,(aw _).nodup_iff.mpr (cA _)⟩
def Hg(σ:Sx)(D:HD)(m:Nat)(p:V):Prop:=∀(H:AH)(Q:b8)(wk wd t:Addr)(tb:ba)(c k:Nat),D.At H->dD H wk "Walker" wd [("heap",.ref D.hp)]->fE p=true->H t=some (.dict tb)->cX k tb->k+yy p<=500->60^nv p<=2^18 ->
  c<D.n->D.r c=c->(∀H' l rs,Ext H H'->H l=none->H' l=some (.list (rs.map V.ref))->Tabs H' rs (eB D.NN p c tb)->Q (.ref l) H')->MCall σ (4+m) "Walker" "extended" [.ref wk,.ref t,iv c,p] H Q
theorem Fi(T:Txt σ)(O:D.Ok){B:V}{tl:Addr}{kk k2:Nat}{rs2:List Addr}{tbs:List ba}{l':Loc}{J:AH}{Q:b8} (ih:Hg σ D m B) (A:D.At J) (W:dD J wk "Walker" wd [("heap",.ref D.hp)]) (a0:fE B=true) (ad:l' "self"=some (.ref wk)) (a1:l' "tables"=some (.ref tl)) (as:l' "kid"=some (iv kk)) (Z:l' "part"=some B) (htl:J tl=some (.list (rs2.map V.ref))) (hT:Tabs J rs2 tbs) (hI:∀tb∈tbs,cX k2 tb) (hk':k2+yy B<=500) (hb:tbs.length*60^nv B<=2^18) (ar:60^nv B<=2^18) (hkn:kk<D.n) (hkr:D.r kk=kk) (q:∀H' c rs,Ext J H'->J c=none->H' c=some (.list (rs.map V.ref))->Tabs H' rs (tbs.flatMap λtb=>eB D.NN B kk tb)->Q (.ref c) H') : aY σ (4+m) (.comp k7 (.more (.nm "one") (.exp i8) (.one (.nm "late") (.exp (.meth c7 "extended" (.cons (.var "one") (.cons g7 (.cons m4 .nil))))) none))) l' J Q:=by
 obtain hl2:=hT.length;obtain hbl:tbs.length<=2^18:=s7 (Se _ (Nat.pow_pos (by decide))) hb;refine(af _ a1 (aK _ htl (by rw[u1];exact KK hl2 hbl) (λc hc=>(af c rfl ?_))));obtain tot:(tbs.flatMap λtb=>eB D.NN B kk tb).length<=2^18:=s7 (du _ (60^nv B) tbs λtb _=>fT (pM O) B kk tb) hb;refine oS (λtb=>eB D.NN B kk tb) htl hT hc tot (λr tb H' rs k hm xe hr F hl hk=>?_) λH' rs xe F hTd=>q H' c rs xe hc F hTd;refine(af _ rfl (af _ ?_ (af _ (cC (W.ext xe) rfl T.Walker_extended.some) (af _ ?_ (af _ ?_ (af _ ?_ (ih _ _ _ _ _ _ _ _ (A.ext xe) (W.ext xe) a0 hr (hI tb hm) hk' ar hkn hkr λH3 l3 G x3 av e3 t5=>?_)))))))
 .rw[am _ _ (by decide),dE _ (by decide)];exact ad
 .rw[bH]
 .rw[am _ _ (by decide),dE _ (by decide)];exact as
 .rw[am _ _ (by decide),dE _ (by decide)];exact Z
 obtain l5:G.length<=2^18:=by rw[t5.length];exact s7 (fT (pM O) B kk tb) ar
 have hne:l3≠c:=λz=>by rw[z,F]at av;exact sn av
 refine aK _ e3 (by rw[u1];exact s7 l5 (by decide)) (mU (src:=some (l3,G.map V.ref)) (c:=c) id (H3:=H3) (λH4 xb=>xb _ _ hne e3) (G.map V.ref) (rs.map V.ref) H3 (λ_ _ _ e=>e) (x3 _ _ F) ?_ (λy hy H4 ws4 k4 xb Y hl4 hk4=>af _ rfl (Bp (gW rfl (af _ (bH _ _ _) (aK _ Y hl4 hk4))))) λH4 xb Y=>hk H4 G (λa o h1 h2=>xb a o h1 (x3 a o h2)) ?_ (t5.keep λa t e=>xb a _ (λz=>by rw[z,x3 _ _ F]at e;exact AO.noConfusion (w8 e)) e))
 .rw[u1,u1,t5.length];exact z0 hl (by decide)
 .rw[Y,List.map_id,B7]
end
section
variable{t:Addr}
section
variable{D:HD}
theorem HQ(op:String)(ps:List V):tB ps<=nv (.tup (.str op::ps)):=SD ..
theorem AP(op:String)(ps:List V):yy (.tup (.str op::ps))=1+mr ps:=by rfl
def As(p:V)(ps:List V):tB (p::ps)=nv p+tB ps:=by conv=>lhs;unfold tB
def yz(p:V)(ps:List V):mr (p::ps)=yy p+mr ps:=by conv=>lhs;unfold mr
def FX(h:a<=b):60^a<=60^b:=K0 (by decide) h
theorem iP(N:Nat->List V)(op:String)(ps:List V)(tb:ba)(nd:Nd):fM N op ps tb (ag nd)=if nd.1=op/\nd.2.length=ps.length then dF N ps (nd.2.map iv) [tb]else[]:=by unfold fM ag;simp only[List.length_map]
structure KI(D:HD)(m:Nat)(wk t fl:Addr)(pat:V)(op:String)(goal:List ba)(H0 H:AH)(l:Loc)(ks:List Nat)(ps:List V)(tl:Addr)(rs:List Addr)(tbs:List ba)(k:Nat):Prop where
 li:LI l wk t fl pat op
 x:Ext H0 H
 len:ks.length=ps.length
 tab:l "tables"=some (.ref tl)
 htl:H tl=some (.list (rs.map .ref))
 T:Tabs H rs tbs
 ne:fl≠tl
 eq:dF D.NN ps (ks.map iv) tbs=goal
 b1:tbs.length*60^tB ps<=2^18
 b2:60^tB ps<=2^18
 I:∀tb∈tbs,cX k tb
 hk:k+mr ps<=500
 ok:gE ps=true
 dep:∀p∈ps,aB p<=m
 rt:∀k∈ks,k<D.n/\D.r k=k
def wl(σ:Sx)(D:HD)(m:Nat):Prop:=∀(p:V),aB p<=m->Hg σ D m p
theorem yi{op:String}(h:aB (.tup (.str op::ps))<=m+1):bJ ps<=m:=s7 (M5 _ _) (Nat.le_of_succ_le_succ h)
noncomputable abbrev DN:List MS:=[.asg (.tg (.nm "tables")) (.comp k7 (.more (.nm "one") (.exp i8) (.one (.nm "late") (.exp (.meth c7 "extended" (.cons (.var "one") (.cons g7 (.cons m4 .nil))))) none)))]
theorem zM(T:Txt σ)(O:D.Ok)(ih:wl σ D m){fl:Addr}{pat:V}{op:String}{goal:List ba}(A:D.At H0)(W:dD H0 wk "Walker" wd [("heap",.ref D.hp)]){o:AO}(hf:H0 fl=some o) (q:∀l H tl rs,LI l wk t fl pat op->Ext H0 H->l "tables"=some (.ref tl)->H tl=some (.list (rs.map .ref))->fl≠tl->Tabs H rs goal->K .next l H) : ∀(ps:List V)(ks:List Nat)(l:Loc)(H:AH)(tl:Addr)(rs:List Addr)(tbs:List ba)(k:Nat),KI D m wk t fl pat op goal H0 H l ks ps tl rs tbs k->kM none (λv l H k=>∃l',bz (.tp2 (.nm "kid") (.nm "part")) v l=some l'/\az σ (4+m) DN l' H k) (gR (ks.map iv) ps) l H K:=by
 intro ps;induction ps with
 |nil =>
  intro ks l H tl rs tbs k I;cases ks with
  |cons _ _=>exact Nat.noConfusion I.len
  |nil=>exact⟨trivial,q l H tl rs I.li I.x I.tab I.htl I.ne (by rw[<- I.eq,List.map_nil,iQ];exact I.T)⟩
 |cons p ps J =>
  intro ks l H tl rs tbs k I;rcases ks with _|⟨k1,ks⟩
  .exact Nat.noConfusion I.len
  .have b1:=I.b1;have b2:=I.b2;rw[As,Nat.pow_add]at b1 b2;have hk:=I.hk;rw[yz,<- O6]at hk;have B:0<60^tB ps:=Nat.pow_pos (by decide);have F:0<60^nv p:=Nat.pow_pos (by decide);have pp:=tM I.ok;obtain Z:=I.rt k1 y4;refine⟨trivial,(af _ rfl (cE (Fi T O (m:=m) (kk:=k1) (k2:=k) (rs2:=rs) (tbs:=tbs) (l':=(l.put "kid" (iv k1)).put "part" p) (ih p (I.dep p y4)) (A.ext I.x) (W.ext I.x) pp.1 I.li.self I.tab rfl rfl I.htl I.T I.I (s7 (G8 _ _) hk) ?_ (s7 (Se _ B) b2) Z.1 Z.2 λH4 c4 Q x4 G e4 t4=>(af _ rfl (J ks _ H4 c4 Q _ (k+yy p) ⟨((I.li.put "kid" _ (by decide)).put "part" _ (by decide)).put "tables" _ (by decide),I.x.trans' x4,P1 I.len,rfl,e4,t4,aC (I.x _ _ hf) G,?_,?_,s7 (Nat.le_mul_of_pos_left _ F) b2,λtb h=>?_,hk,pp.2,λp h=>I.dep p (w9 _ h),λk h=>I.rt k (w9 _ h)⟩)))))⟩
   .refine s7 ?_ b1;rw[<- Nat.mul_assoc];exact Se _ B
   .rw[<- I.eq];exact(jx D.NN p ps k1 (ks.map iv) tbs).symm
   .refine s7 (Nat.mul_le_mul_right _ (du _ (60^nv p) tbs λtb _=>fT (pM O) p k1 tb)) ?_;rw[Nat.mul_assoc];exact b1
   .refine ah (K9.mp h) λY h0 h1=>?_;exact sV p k1 (I.I Y h0) tb h1
def EvT.and{H:AH}{a b:ME}{x y:Bool}(ha:EvT σ l H a x)(B:EvT σ l H b y):EvT σ l H (.and2 a b) (x&&y):=λd _ q=>ha d _ (by cases x;exact jc rfl q;exact gW rfl (B d _ q))
def wz{H:AH}{e:ME}(B:Ev σ l H e (.tup vs))(hz:vs.length<=3):Ev σ l H (.prim .len e) (iv vs.length):=B.prim λ_ q=>⟨s7 hz (by decide),q⟩
noncomputable abbrev DT:List MS:=[.if1 (.and2 (.cmp1 .eq (.idx c9 c8) g8) (.cmp1 .eq (.prim .len c9) (.prim .len d5))) [.asg (.tg (.nm "tables")) (.lst (.cons f6 .nil)),.for1 (.tp2 (.nm "kid") (.nm "part")) (.zip (.slc c9 (some 1) none) (.slc d5 (some 1) none)) DN,.expr (.meth h9 "extend" (.cons i8 .nil))] []]
theorem Ch(T:Txt σ)(O:D.Ok)(ih:wl σ D m){fl:Addr}{op:String}{H:AH}{rs:List Addr}{done:List ba}(A:D.At H)(W:dD H wk "Walker" wd [("heap",.ref D.hp)]) (ad:i<D.n) (li:LI l wk t fl (.tup (.str op::ps)) op) (ht:H t=some (.dict tb)) (hI:cX k tb) (hk:k+mr ps<=500) (hb:60^tB ps<=2^18) (as:ps.length<=2) (hps:gE ps=true) (hd:bJ ps<=m) (hf:H fl=some (.list (rs.map V.ref))) (hT:Tabs H rs done) (hz:done.length+(fM D.NN op ps tb (ag (D.canon i))).length<=2^18) (q:∀l' H' rs',LI l' wk t fl (.tup (.str op::ps)) op->(∀a o,a≠fl->H a=some o->H' a=some o)->H' fl=some (.list (rs'.map V.ref))->Tabs H' rs' (done++fM D.NN op ps tb (ag (D.canon i)))->K .next l' H') : az σ (4+m) DT (l.put "node" (ag (D.canon i))) H K:=by
 obtain ar:=kids_len O ad;have G:=li.put "node" (ag (D.canon i)) (by decide);obtain node:∀{H:AH},Ev σ (l.put "node" (ag (D.canon i))) H c9 (ag (D.canon i)):=.var (bH _ _ _);obtain F:((D.canon i).2.map iv).length=(D.kids i).length:=(u1 _).trans (u1 _);have cm:EvT σ (l.put "node" (ag (D.canon i))) H (.and2 (.cmp1 .eq (.idx c9 c8) g8) (.cmp1 .eq (.prim .len c9) (.prim .len d5))) _ :=EvT.and (w6 (node.idx (w:=iv 0) .cst λ_ q=>(jL 0 (.str (D.op i)) rfl (by decide) rfl q)) (.var G.op) λQ q=>rp _ _ _ Q q) (w6 (wz (vs:=.str (D.canon i).1::(D.canon i).2.map iv) node (I7 (by rw[F];exact ar))) (wz (.var G.pattern) (I7 as)) λQ q=>hJ q)
 have Y:(op=(D.canon i).1->¬(D.canon i).2.length=ps.length)->K .next (l.put "node" (ag (D.canon i))) H:=λh=>by
  obtain e:fM D.NN op ps tb (ag (D.canon i))=[]:=by rw[iP,if_neg λz=>h z.1.symm z.2]
  exact q _ H rs G (λ_ _ _ e=>e) hf (by rw[e,G2];exact hT)
 by_cases J:D.op i=op
 .by_cases B:(D.kids i).length=ps.length
  .have hx:fM D.NN op ps tb (ag (D.canon i))=dF D.NN ps (((D.kids i).map D.r).map iv) [tb]:=by rw[iP];rw(config:={}) [if_pos ⟨J,(u1 _).trans B⟩];rfl
   rw[D8 J,D8 (show(V.str (D.canon i).1::(D.canon i).2.map iv).length=(V.str op::ps).length from B9 (· + 1) (F.trans B))]at cm;refine ff cm (cE (dl (aq (aA (.var G.table) λtl htl=>(af _ rfl ?_)))));have x0:Ext H (H.set tl (.list [.ref t])):=w4 _ htl;obtain hfl:fl≠tl:=aC hf htl;obtain nd2:Ev σ ((l.put "node" (ag (D.canon i))).put "tables" (.ref tl)) (H.set tl (.list [.ref t])) c9 (ag (D.canon i)):=.var rfl;obtain li2:=G.put "tables" (.ref tl) (by decide);refine GP (hV nd2 (by rw[F];exact z0 ar (by decide))) (hV (.var li2.pattern) (z0 as (by decide))) (by rw[F];exact s7 ar (by decide)) (s7 as (by decide)) ?_;refine zM T O ih (goal:=fM D.NN op ps tb (ag (D.canon i))) (A.ext x0) (W.ext x0) (x0 _ _ hf) (λl2 H2 tl2 rs2 li3 x2 htb htl2 hne T2=>?_) ps ((D.kids i).map D.r) _ _ tl [t] [tb] k ⟨li2,w3 _,(u1 _).trans B,rfl,AH.set_self _ _ _,⟨x0 _ _ ht,trivial⟩,hfl,hx.symm,by rw[J8,Nat.one_mul];exact hb,hb,λtb' h'=>by rw[u5.mp h'];exact hI,hk,hps,me hd,λk hk=>?_⟩
   .obtain hf2:=x2 _ _ (x0 _ _ hf);obtain h1:=hT.length;obtain h2:=T2.length;refine vZ (.var li3.found) hf2 (.var htb) htl2 hne ?_ (q _ _ (rs++rs2) li3 (λa o ha e=>(p6 _ _ ha).trans (x2 _ _ (x0 _ _ e))) ((AH.set_self _ _ _).trans (by rw[B7])) ((((hT.ext x0).ext x2).append T2).setl hf2));rw[u1,u1,h1,h2];exact s7 hz (by decide)
   .refine ah (w7.mp hk) λk0 hk0 aX=>?_;subst aX;obtain Z:=C6 (cT O ad k0 hk0) ad;exact⟨oA O Z,(O.rle k0 Z).2⟩
  .rw[E2 (show ¬(V.str (D.canon i).1::(D.canon i).2.map iv).length=(V.str op::ps).length fromλz=>B (F.symm.trans (P1 z))),Bool.and_false]at cm;exact dM cm (Y λ_ z=>B ((u1 _).symm.trans z))
 .rw[E2 J,Bool.false_and]at cm;exact dM cm (Y λz=>absurd z.symm J)
theorem Ci(T:Txt σ){d:Nat}{op:String}{H:AH}{Q:b8}(ho:l "op"=some (.str op))(hc:l "c"=some (iv c))(F:l "table"=some (.ref t))(ht:H t=some (.dict tb))(O:cX k tb)(hk:k<=500) (q:∀H' l rs,Ext H H'->H l=none->H' l=some (.list (rs.map V.ref))->Tabs H' rs (if cr ((ax tb (.str op)).getD (iv c)) (iv c)then[dput tb (.str op) (iv c)]else[])->Q (.ref l) H') : az σ d [.asg (.tg (.nm "late")) (.prim .dict f6),.asg (.ix k7 g8) g9,.ret (.ite (.cmp1 .eq (.meth f6 "get" (.cons g8 (.cons g9 .nil))) g9) (.lst (.cons k7 .nil)) (.lst .nil))] l H (kC Q):=by
 have B:tb.length<=500:=s7 O.len hk;refine cE (bu (aA (.var F) (jK _ (.inl ht) O.str (s7 B (by decide)) (λlt G=>(af _ rfl ?_)))));obtain hne:t≠lt:=aC ht G;refine wb (.var ((am _ _ (by decide)).trans hc)) (.var (bH _ _ _)) (.var ((am _ _ (by decide)).trans ho)) (AH.set_self _ _ _) (O.fits op) (z0 B (by decide)) ?_;obtain Y:Ext H ((H.set lt (.dict tb)).set lt (.dict (dput tb (.str op) (iv c)))):=(w4 _ G).setc G _;obtain Z:((H.set lt (.dict tb)).set lt (.dict (dput tb (.str op) (iv c)))) lt=some (.dict (dput tb (.str op) (iv c))):=AH.set_self _ _ _;generalize (H.set lt (.dict tb)).set lt (.dict (dput tb (.str op) (iv c)))=H1 at *;refine bM (O.get op c) λi hi=>?_;rw[hi,fJ]at q;obtain J:∀r,H1 r=none->H r=none:=λr hr=>gz Y hr;refine cN (lf (gN (k:=.dict) (.var ((am _ _ (by decide)).trans F)) ⟨by decide,(ey t tb rfl (Y _ _ ht))⟩ (.cons (.var ((am _ _ (by decide)).trans ho)) (.cons (.var ((am _ _ (by decide)).trans hc)) .nil)) (bF t tb rfl (Y _ _ ht) (.inl ⟨rfl,(bF _ _ rfl (O.fits op) ?_)⟩))));rw[hi];refine aA (.var ((am _ _ (by decide)).trans hc)) (zK _ _ _ _ ?_);cases hd:decide ((i:Int)=(c:Int))with
 |true =>rw[hd,if_pos rfl]at q;exact gW rfl (dl (aq (aA (.var (bH _ _ _)) λr hr=>q _ r [lt] (Y.trans' (w4 _ hr)) (J r hr) (AH.set_self _ _ _) ⟨(w4 _ hr) _ _ Z,trivial⟩)))
 |false =>rw[hd,if_neg C7]at q;exact jc rfl (dl (aR λr hr=>q _ r [] (Y.trans' (w4 _ hr)) (J r hr) (AH.set_self _ _ _) trivial))
theorem xU(T:Txt σ)(O:D.Ok)(ih:wl σ D m){fl s:Addr}{op:String}(A:D.At H0)(W:dD H0 wk "Walker" wd [("heap",.ref D.hp)]) (ht:H0 t=some (.dict tb)) (hI:cX k tb) (hk:k+mr ps<=500) (hb:60^tB ps<=2^18) (Z:ps.length<=2) (ad:gE ps=true) (hd:bJ ps<=m) (Q:H0 fl=none) (hs:fl≠s) (hz:((D.NN c).flatMap (fM D.NN op ps tb)).length<=2^18) (q:∀l H rs,LI l wk t fl (.tup (.str op::ps)) op->Ext H0 H->H fl=some (.list (rs.map .ref))->Tabs H rs ((D.NN c).flatMap (fM D.NN op ps tb))->K .next l H) : ∀(xs:List V)(l:Loc)(H:AH)(rs:List Addr)(done:List ba),(∀x∈xs,x∈D.NN c)->LI l wk t fl (.tup (.str op::ps)) op->Ext H0 H->H s=some (.list (D.NN c))->H fl=some (.list (rs.map .ref))->Tabs H rs done->done++xs.flatMap (fM D.NN op ps tb)=(D.NN c).flatMap (fM D.NN op ps tb) -> kM (some (s,D.NN c)) (λv l H k=>∃l',bz (.nm "node") v l=some l'/\az σ (4+m) DT l' H k) xs l H K:=by
 intro xs;induction xs with
 |nil=>exactλl H rs done _ li x F hf hT e=>⟨F,q l H rs li x hf (by rw[<- e,List.flatMap_nil,G2];exact hT)⟩
 |cons v xs ar =>intro l H rs done hm li x F hf hT e;refine ah (Aj (hm v y4)) λi Y bV=>?_;subst bV;rw[N6,<- K4]at e;refine⟨F,(af _ rfl (Ch T O ih (A.ext x) (W.ext x) (HD.mem_lt Y).1 li (x _ _ ht) hI hk hb Z ad hd hf hT ?_ λl' H' av as fr J G=>ar l' H' av _ (λz h=>hm z (w9 _ h)) as (λa o e=>fr a o (λz=>nn Q (z▸e)) (x _ _ e)) (fr _ _ hs.symm F) J G e))⟩;obtain B:=B9 List.length e;rw[A6,A6]at B;exact s7 (s7 (G8 _ _) (r5 B)) hz
theorem xg{p:V}(h:fE p=true):∃op ps,p=.tup (.str op::ps):=by
 cases p with
 |tup vs =>
  rcases vs with _|⟨v,vs⟩
  .exact ai h
  .cases v <;> first|exact(uD _ _ rfl)|exact ai h
 |_=>exact ai h
theorem uP(T:Txt σ)(O:D.Ok):∀(m:Nat),wl σ D m:=by
 intro m;induction m with
 |zero =>intro p hp H Q wk wd t tb c k A W B;refine ph (xg B) λop ps da=>?_;subst da;exact absurd hp (Nat.not_succ_le_zero _)
 |succ m ih =>
  intro p hp H Q wk wd t tb c k A W B ht Z hk hb hc hr q;refine ph (xg B) λop ps dC=>?_;subst dC;obtain pp:=qC B;obtain Y:k<=500:=s7 (G8 _ _) hk;obtain pat:∀{H:AH},Ev σ (aT ["self","table","c","pattern"] [.ref wk,.ref t,iv c,.tup (.str op::ps)]) H d5 (.tup (.str op::ps)):=.var rfl;refine aE (d:=4+m) T.ok T.Walker_extended rfl (sd (pat.idx (w:=iv 0) .cst λ_ q=>(jL 0 (.str op) rfl (by decide) rfl q)) (OY (.cons (.var rfl) .nil) ((pq T B ⟨_,rfl,?_⟩).room (s7 (by decide) (G8 4 m)))));cases hv:ie (.tup (.str op::ps))with
  |true=>exact gW rfl (Ci T rfl rfl rfl ht Z Y (by rw[<- hY D.NN hv];exact q))
  |false =>
   obtain J:=s7 (FX (HQ op ps)) hb;rw[AP,<- O6]at hk;obtain tgt:eB D.NN (.tup (.str op::ps)) c tb=(D.NN c).flatMap (fM D.NN op ps tb):=fV D.NN hv c tb;refine jc rfl (cE (dl (aR λfl F=>(af _ rfl ?_))));obtain G:Ext H (H.set fl (.list [])):=w4 _ F;refine qS (aQ ((Ev.var rfl).attr (W.ext G) (by rw[T.fWalker];exact u5.mpr rfl) rfl) (A.ext G).heap rfl T.Heap_nodes_of.some (.cons (.var rfl) .nil) ((uS T (A.ext G) O hc λH2 s x2 hs e2=>?_).room (G8 4 m)));rw[hr]at e2;refine gq e2 (s7 (yY O c) (by decide)) (xU T O ih A W ht Z (s7 (Nat.add_le_add_right (P7 k) _) hk) J pp.1 pp.2 (yi hp) F (aC (AH.set_self _ _ _) hs) ?_ (λl H' rs li x hf hT=>?_) (D.NN c) _ H2 [] [] (λ_ h=>h) ⟨rfl,rfl,rfl,rfl,rfl⟩ (G.trans' x2) e2 (x2 _ _ (AH.set_self _ _ _)) trivial rfl)
   .rw[<- tgt];exact s7 (fT (pM O) _ _ _) hb
   .exact bY (.var li.found) (q H' fl rs x F hf (by rw[tgt];exact hT))
end
end
section
variable{ks:List V}
noncomputable def aW(tb:ba):V:=.tup (aH (aV tb))
def itemOK(v:V):Prop:=∃(s:String)(i:Nat),v=.tup [.str s,iv i]
def itemOK.cmp{y:V}(hx:itemOK x)(hy:itemOK y):cG x y=true:=by refine ph hx λs i aX=>?_;subst aX;refine ph hy λt j bV=>?_;subst bV;rfl
def itemOK.key(hx:itemOK x):aS x=true/\aB x=1/\kO x=true:=by refine ph hx λs i da=>?_;subst da;exact(cO rfl rfl rfl)
def cX.items(h:cX k tb):∀x∈aV tb,itemOK x:=λx hx=>by refine ah (w7.mp hx) λp hp dC=>?_;subst dC;refine cq (h.ent p hp) λbV aX=>?_;obtain⟨s,e1⟩:=bV;refine bM aX λi e2=>?_;exact(uD s i (by rw[e1,e2]))
def cX.sort(h:cX k tb)(hk:k<64):sortable (aV tb) :=(sw (by unfold aV;rw[u1];exact z0 h.len hk) (λx hx=>⟨(h.items x hx).key.1,by rw[(h.items x hx).key.2.1];decide⟩) (.inr λx hx=>(h.items x hx).key.2.2) (λx hx y hy=>(h.items x hx).cmp (h.items y hy)))
theorem gu:∀{l:List V},(∀x∈l,aS x=true)->bG l=true
 | [],_=>rfl
 |x::l,h=>by unfold bG;rw[h x y4,gu λy hy=>h y (w9 _ hy)];rfl
theorem eG{n:Nat}:∀{l:List V},(∀x∈l,aB x<=n)->bJ l<=n
 | [],_=>E1 _
 |x::l,h=>by obtain B:=h x y4;obtain B:=eG (n:=n) λy hy=>h y (w9 _ hy);exact KN (by assumption) B
theorem pV:∀{l m:List V},(∀x∈l,itemOK x)->(∀x∈m,itemOK x)->fw l m=true
 | [],m,_,_=>by cases m <;> rfl
 |_::_,[],_,_=>rfl
 |x::l,y::m,B,F=>by unfold fw;rw[(B x y4).cmp (F y y4),pV (λz hz=>B z (w9 _ hz)) λz hz=>F z (w9 _ hz)];rfl
def substOK(v:V):Prop:=∃l,v=.tup l/\∀x∈l,itemOK x
def cX.subst(h:cX k tb):substOK (aW tb):=(af _ rfl (λx hx=>h.items x ((aw _).mem_iff.mp hx)))
theorem substOK.key{v:V}(h:substOK v):aS v=true/\aB v<=2/\cZ v=2:=by
 refine ah h λl F hl=>?_;subst F;obtain G:aS (.tup l)=true:=by exact gu λx hx=>(hl x hx).key.1
 have J:aB (.tup l)<=2:=by obtain B:=eG (n:=1) λx hx=>r5 (hl x hx).key.2.1;exact KP B
 exact(cO G J (by rw[fW,G,D8 (KQ J:aB (.tup l)<=8)];rfl))
def substOK.cmp{v w:V}(h:substOK v)(g:substOK w):cG v w=true:=by refine ah h λl B hl=>?_;subst B;refine ah g λm F hm=>?_;subst F;unfold cG;exact pV hl hm
noncomputable def gj(ks:List V)(k:V):List V:=if mw k ks then ks else ks++[k]
def oW{k:V}:mw k ks=true↔k∈ks:=by
 delta mw;rw[RX];constructor
 .rintro⟨x,hx,e⟩;rw[aO]at e;subst e;exact hx
 .intro h;exact(af k h (bE k))
def xQ(ks:List V)(k u:V):dput (ks.map λk=>(k,u)) k u=(gj ks k).map λk=>(k,u):=by
 unfold dput gj;have e:(ks.map λk=>(k,u)).any (λp=>cr p.1 k)=mw k ks:=by rw[List.any_map];rfl
 rw[e];cases mw k ks with
 |true =>simp only[if_true,List.map_map];apply G3;intro x _;show(if cr x k=true then(x,u)else(x,u))=(x,u);split <;> rfl
 |false=>simp
theorem mT{k:V}:x∈gj ks k↔x∈ks\/x=k:=by
 unfold gj;cases h:mw k ks with
 |true =>obtain B:=oW.mp h;exact⟨.inl,λz=>z.elim id λe=>e▸B⟩
 |false=>simp
def qW(h:ks.Nodup)(k:V):(gj ks k).Nodup:=by
 unfold gj;cases e:mw k ks with
 |true=>exact h
 |false =>rw[if_neg C7];rw[G4];refine(cO h (by simp) (λx hx y hy=>?_));rw[u5.mp hy];rintro rfl;rw[oW.mpr hx]at e;exact FP e
def uH(ks:List V)(k:V):(gj ks k).length<=ks.length+1:=by unfold gj;split <;> simp
noncomputable def Cp(D:HD)(p:V)(c:Nat):List V:=aH (bf ((eB D.NN p c []).map aW))
theorem CallS.frame{d:Nat}{f:Addr}{H:AH}{Q:b8}{a:Addr}{o:AO}(h0:H a=none)(c:CallS σ d f vs H λv H'=>H' a=none->Q v (H'.set a o)):CallS σ d f vs (H.set a o) Q:=λX hX A s cvs r R Γ V=>by
 obtain B:=R.fresh a o (AH.set_self _ _ _);refine ah (R.obj a o (AH.set_self _ _ _)) λob e1 e2=>?_;have ne:∀{b x},H b=some x->b≠a:=λh z=>by rw[z,h0]at h;exact ns h
 obtain G:aD ⟨σ,X,hX⟩ H s.heap:=⟨R.base,λb x h=>R.fresh b x (by rw[p6 _ _ (ne h)];exact h),λb x h=>R.obj b x (by rw[p6 _ _ (ne h)];exact h),R.ex⟩;refine SP (c X hX A s cvs r G Γ V) λO s' hr=>?_;unfold uE at *;split at hr
 .refine bN hr λv H' q Y S=>?_;have J:H' a=none:=by
   rcases z:H' a with _|y
   .rfl
   .exact(S.dom a y z).elim (λz=>absurd h0 z) λz=>nn z e1
  obtain F:=S.keep a ob e1 h0 id;refine⟨v,H'.set a o,q J,Y,S.gens,S.os,λb x h B _=>S.keep b x h (by
   by_cases z:b=a
   .rw[z,AH.set_self]at B;exact sn B
   .rwa [p6 _ _ z]at B) id,λb x h=>?_,λb h=>?_,S.live,S.tup,⟨S.rel.base,λb x h=>?_,λb x h=>?_,S.rel.ex⟩⟩
  .by_cases z:b=a
   .rw[z,AH.set_self];exact .inl sn
   .rw[p6 _ _ z]at h ⊢;exact S.dom b x h
  .by_cases z:b=a
   .rw[z,AH.set_self];exact sn
   .rw[p6 _ _ z]at h ⊢;exact S.mono b h
  .by_cases z:b=a
   .rw[z];exact B
   .rw[p6 _ _ z]at h;exact S.rel.fresh b x h
  .by_cases z:b=a
   .rw[z,AH.set_self]at h;obtain rfl:=w8 h;rw[z];exact af ob F (e2.keep S.tup)
   .rw[p6 _ _ z]at h;exact S.rel.obj b x h
 .exact hr.elim
theorem MCall.frame{d:Nat}{c m:String}{H:AH}{Q:b8}{a:Addr}{o:AO}(h0:H a=none)(h:MCall σ d c m vs H λv H'=>H' a=none->Q v (H'.set a o)):MCall σ d c m vs (H.set a o) Q:=let⟨f,e,x⟩:=h;⟨f,e,x.frame h0⟩
def AH.swap(H:AH){a b:Addr}(o u:AO)(h:a≠b):(H.set a o).set b u=(H.set b u).set a o:=funext λc=>by
 unfold AH.set;by_cases B:c=b
 .rw[if_pos B,if_neg (λz=>h (z.symm.trans B)),if_pos B]
 .rw[if_neg B,if_neg B]
section
variable{D:HD}
structure FIn(sp:Addr)(H2:AH)(ts:List ba)(l:Loc)(H:AH)(rem:List Addr)(trem:List ba)(ks:List V):Prop where
 hs:l "substs"=some (.ref sp)
 xb:ExtB sp H2 H
 hT:Tabs H2 rem trem
 hm:∀tb∈trem,tb∈ts
 hd:H sp=some (.dict (ks.map λk=>(k,V.bool true)))
 hnd:ks.Nodup
 hok:∀k∈ks,substOK k
 hl:ks.length+trem.length<=ts.length
 iff:∀x,(x∈ks\/x∈trem.map aW)↔x∈ts.map aW
theorem FB{H:AH}{sp r:Addr}{H2:AH}{ts:List ba}{rem:List Addr}{trem:List ba}{d:Nat}(h:FIn sp H2 ts l H (r::rem) (tb::trem) ks)(Y:H2 sp=none)(hI:∀tb∈ts,cX 60 tb)(hz:ts.length<=2^18) (hk:∀l' H' ks',FIn sp H2 ts l' H' rem trem ks'->az σ d rest l' H' K):az σ d (.asg (.ix o7 (.prim .tuple (.prim .sortedItems f6))) j6::rest) (l.put "table" (.ref r)) H K:=by
 have B:=hI tb (h.hm tb y4);obtain ad:H r=some (.dict tb):=h.xb _ _ (λz=>nn Y (z▸h.hT.1)) h.hT.1;refine(af _ ((am _ _ (by decide)).trans h.hs) (af _ (bH _ _ _) (jK tb ad B.str (B.sort (by decide)) (λs1 J=>?_))));obtain Q:sp≠s1:=λz=>by rw[<- z,h.hd]at J;exact sn J
 have O:(aH (aV tb)).length<=16384:=by rw[(aw _).length_eq];exact KW (B.sort (by decide)).1
 obtain G:=B.subst;obtain Z:keyFits (ks.map λk=>(k,V.bool true)) (aW tb):=⟨by rw[G.key.2.2];decide,λq hq=>ah (w7.mp hq) λk' F zq=>by subst zq;rw[G.key.2.2];exact(h.hok k' F).key.2.2⟩;have hl:=h.hl;rw[So]at hl;refine(aK _ (AH.set_self _ _ _) O (af sp rfl (.inr (jK _ ((p6 _ _ Q).trans h.hd) Z (by rw[u1];exact E8 (E8 (z0 (G8 _ _) (K3 _)) hl) (s7 hz (by decide))) (hk _ _ (gj ks (aW tb)) ⟨(am _ _ (by decide)).trans h.hs,λa o ha e=>?_,h.hT.2,λtb' h'=>h.hm tb' (w9 _ h'),?_,qW h.hnd _,λk' F=>?_,?_,λx=>?_⟩)))))
 .rw[p6 _ _ ha];exact(w4 _ J) _ _ (h.xb a o ha e)
 .rw[AH.set_self,xQ];rfl
 .exact(mT.mp F).elim (h.hok k') λh=>h▸G
 .exact KY hl (uH ks (aW tb))
 .rw[<- h.iff x,mT,C4,A4,or_assoc]
theorem uQ(T:Txt σ)(O:D.Ok){p:V}(hp:aB p<=m){H:AH}{Q:b8}(A:D.At H)(W:dD H wk "Walker" wd [("heap",.ref D.hp)])(a1:fE p=true)(hz:yy p<60)(hb:60^nv p<=2^18)(hc:c<D.n) (hso:sortable (bf ((eB D.NN p (D.r c) []).map aW))) (q:Lst H Q (Cp D p (D.r c))):MCall σ (5+m) "Walker" "found_in" [.ref wk,iv c,p] H Q:=by
 refine(aE (d:=4+m) T.ok T.Walker_found_in rfl ?_).room KR;obtain Y:∀{P:V×V->Prop},∀p∈([]:List (V×V)),P p:=λ_ h=>absurd h y9;refine(Fd dictOK.nil Y rfl (by decide) (λsp F=>(af _ rfl (af _ rfl (RS _ (cC (W.ext (w4 _ F)) rfl T.Walker_extended.some) dictOK.nil Y rfl (by decide) (λtp G=>?_))))));have as:tp≠sp:=λz=>by rw[z,AH.set_self]at G;exact sn G
 have a2:H tp=none:=by rw[p6 _ _ as]at G;exact G
 obtain x1:Ext H ((H.set sp (.dict [])).set tp (.dict [])):=(w4 _ F).trans' (w4 _ G);obtain x0:Ext H (H.set tp (.dict [])):=w4 _ a2;refine(af _ rfl (mW (W.ext x1) (by rw[T.fWalker];simp) rfl (af _ (cC (A.ext x1).heap rfl T.Heap_find.some) (af _ rfl ((jQ T (A.ext x1) O hc ⟨_,rfl,?_⟩).room KS)))));rw[AH.swap H _ _ as.symm];refine MCall.frame (σ:=σ) (H:=H.set tp (.dict [])) (a:=sp) (o:=.dict []) (by rw[p6 _ _ as.symm];exact F) ?_;refine uP T O m p hp _ _ _ _ _ _ _ 0 (A.ext x0) (W.ext x0) a1 (AH.set_self _ _ _) ⟨Y,z7 _⟩ (KT hz) hb (oA O hc) (O.rle c hc).2 λH2 l rs x2 hl el tl ad=>?_;obtain av:=tl.length;have hts:(eB D.NN p (D.r c) []).length<=2^18:=s7 (fT (pM O) p (D.r c) []) hb;have hI:∀tb∈eB D.NN p (D.r c) [],cX 60 tb:=λtb htb=>(sV p (D.r c) (k:=0) (tb:=[]) ⟨Y,z7 _⟩ tb htb).mono (KU hz);have a0:l≠sp:=λz=>by rw[z,ad]at el;exact ns el
 refine(aK _ ((p6 _ _ a0).trans el) (by rw[u1];exact KV (fT (pM O) p (D.r c) []) av hb) ?_);refine dG (src:=some (l,rs.map V.ref)) (λxs l' H'=>∃rem trem ks,xs=rem.map V.ref/\FIn sp H2 (eB D.NN p (D.r c) []) l' H' rem trem ks)
  (λxs l' H' h=>mx h λ_ _ _ _ h=>h.xb _ _ a0 el) (λx xs l' H' k h hk=>mx h λrem trem ks ex g=>?_) (λl' H' h=>mx h λrem trem ks ex h=>?_) _ _ _ (yW rs _ [] rfl ⟨rfl,λ_ _ ha e=>(p6 _ _ ha).trans e,tl,λ_ h=>h,AH.set_self _ _ _,J5,λ_ h=>absurd h y9,r5 (Q4 _),λx=>⟨λz=>z.elim (λz=>absurd z y9) id,.inr⟩⟩)
 .rcases rem with _|⟨r1,rem⟩
  .exact(E7 _ _ ex).elim
  rcases trem with _|⟨tb,trem⟩
  .exact g.hT.elim
  refine cq (K2 ex) λda dC=>?_;subst da;subst dC;exact(af _ rfl (FB (rest:=[]) g ad hI hts λl3 H3 ks3 h3=>hk _ _ (yW rem trem ks3 rfl h3)))
 .rcases rem with _|⟨r1,rem⟩
  .rcases trem with _|⟨tb,trem⟩
   .have J:ks.Perm (bf ((eB D.NN p (D.r c) []).map aW)):=(Q2 h.hnd (cA _)).mpr λx=>by rw[bn,<- h.iff x];exact⟨.inl,λz=>z.elim id λz=>absurd z y9⟩
    have B:(ks.map λk=>(k,V.bool true)).map (·.1)=ks:=by rw[I8];exact(G3 λx _=>rfl).trans (List.map_id ks)
    obtain Z:=hso.perm J;refine(af _ h.hs (.inr (aK _ h.hd (by rw[B];exact Z) ?_)));rw[B];rw(config:={}) [eu (λx hx y hy=>Z.2.2.2 x (J.mem_iff.mpr hx) y (J.mem_iff.mpr hy)) J];refine Lst.fresh λH3 c3 x3 h3 e3=>q H3 c3 (Ext.trans' (λa o e=>h.xb a o (aC e F) ((x0.trans' x2) a o e)) x3) ?_ e3;rcases z:H c3 with _|o
    .rfl
    .obtain ar:=h.xb c3 o (aC z F) ((x0.trans' x2) c3 o z);rw[h3]at ar;exact ns ar
   .exact h.hT.elim
  .exact(E7 _ _ ex.symm).elim
end
end
def lQ{H:AH}(x:Ext H H'){a:Addr}(h:H' a=none):H a=none:=by
 rcases z:H a with _|o
 .rfl
 .have:=x _ _ z;rw[h]at this;exact ns this
structure Frm(H H':AH)(A A':List Addr):Prop where
 out:∀x o,H x=some o->x∉A->H' x=some o
 new:∀x∈A',x∈A\/H x=none
def Frm.refl{H:AH}{A:List Addr}:Frm H H A A:=⟨λ_ _ e _=>e,λ_ h=>.inl h⟩
def Ext.frm{H:AH}{A:List Addr}(x:Ext H H'):Frm H H' A A:=⟨λ_ _ e _=>x _ _ e,λ_ h=>.inl h⟩
def Frm.trans{H H'':AH}{A A' B:List Addr}(x:Frm H H' A A')(y:Frm H' H'' A' B):Frm H H'' A B:=by
 refine⟨λa o e ha=>y.out a o (x.out a o e ha) λh'=>?_,λa h=>?_⟩
 .rcases x.new a h' with h|h
  .exact ha h
  .rw[e]at h;exact sn h
 .rcases y.new a h with h|h
  .exact x.new a h
  .by_cases F:a∈A
   .exact .inl F
   .right;rcases z:H a with _|o
    .rfl
    .have:=x.out a o z F;rw[h]at this;exact ns this
def dI{f:α->β}{l:List α}{p B:α}(h:l[k]?=some p)(hf:f B=f p):(l.set k B).map f=l.map f:=by
 rw[List.map_set,hf];refine Sc λj=>?_;rw[J6];split
 .rename_i e;subst e;obtain hl:=(z5.mp h).1;rw[B6,h];simp[hl]
 .rfl
namespace HD
variable{D:HD}{H:AH}
def At.ne(A:D.At H){p q:Addr×AO}(hi:D.objs[i]?=some p)(J:D.objs[j]?=some q)(h:i≠j):p.1≠q.1:=by obtain nd:=A.nd;unfold HD.adr at nd;intro e;obtain⟨a,F⟩:=z5.mp hi;obtain⟨b,G⟩:=z5.mp J;obtain B:=(List.getElem_inj (h₀:=by simpa using a) (h₁:=by simpa using b) nd).mp (by simp[F,G,e]);exact h B
theorem At.set(A:D.At H)(i:Nat){a:Addr}{o o':AO}(e:D.objs[i]?=some (a,o))(e':D'.objs=D.objs.set i (a,o')):D'.At (H.set a o')/\D'.adr=D.adr:=by
 have B:D'.adr=D.adr:=by
  unfold HD.adr;rw[e',List.map_set];refine Sc λj=>?_;rw[J6];split
  .rename_i h;subst h;obtain⟨hl,J⟩:=z5.mp e;rw[B6,e];simp[hl]
  .rfl
 refine⟨⟨λp hp=>?_,B▸A.nd⟩,B⟩;rw[e']at hp;obtain⟨j,F⟩:=C0.mp hp;rw[J6]at F;split at F
 .split at F
  .obtain rfl:=w8 F;exact AH.set_self _ _ _
  .exact ns F
 .rename_i h;obtain G:=A.ne F e (Tc h);rw[p6 _ _ G];exact A.all p (z6 F)
theorem At.mem(A:D.At H){a:Addr}{o:AO}(e:D.objs[i]?=some (a,o)):a∈D.adr:=w7.mpr (af _ (z6 e) rfl)
def At.setF(A:D.At H)(i:Nat){a:Addr}{o o':AO}(e:D.objs[i]?=some (a,o))(e':D'.objs=D.objs.set i (a,o')):D'.At (H.set a o')/\Frm H (H.set a o') D.adr D'.adr:=by
 refine cq (A.set i e e') λA' B=>?_;refine⟨A',λx o hx F=>?_,λx hx=>.inl (B▸hx)⟩;rw[p6]
 .exact hx
 .rintro rfl;exact F (A.mem e)
def At.known'(A:D.At H)(k:List (Nd×Nat)):(D.sKnown k).At (H.set D.kp (.dict (k.map λp=>(ag p.1,iv p.2))))/\Frm H (H.set D.kp (.dict (k.map λp=>(ag p.1,iv p.2)))) D.adr (D.sKnown k).adr:=A.setF 15 rfl rfl
def At.wait'(A:D.At H)(k:List Nat):(D.sWait k).At (H.set D.wp (.list (k.map iv)))/\Frm H (H.set D.wp (.list (k.map iv))) D.adr (D.sWait k).adr:=A.setF 17 rfl rfl
def At.edg'(A:D.At H)(k:List V):(D.sEdg k).At (H.set D.ep (.list k))/\Frm H (H.set D.ep (.list k)) D.adr (D.sEdg k).adr:=A.setF 13 rfl rfl
def At.frs'(A:D.At H)(k:List V):(D.sFrs k).At (H.set D.fp (.list k))/\Frm H (H.set D.fp (.list k)) D.adr (D.sFrs k).adr:=A.setF 14 rfl rfl
def At.mrg'(A:D.At H)(k:List V):(D.sMrg k).At (H.set D.gp (.list k))/\Frm H (H.set D.gp (.list k)) D.adr (D.sMrg k).adr:=A.setF 12 rfl rfl
def At.par'(A:D.At H)(k:List Nat):(D.sPar k).At (H.set D.ua (.list (k.map iv)))/\Frm H (H.set D.ua (.list (k.map iv))) D.adr (D.sPar k).adr:=A.setF 10 rfl rfl
def At.nums'(A:D.At H)(k:List (V×V)):(D.sNums k).At (H.set D.mp (.dict k))/\Frm H (H.set D.mp (.dict k)) D.adr (D.sNums k).adr:=A.setF 7 rfl rfl
def At.nodes'(A:D.At H)(k:List Nd):(D.sNodes k).At (H.set D.np (.list (k.map ag)))/\Frm H (H.set D.np (.list (k.map ag))) D.adr (D.sNodes k).adr:=A.setF 6 rfl rfl
def At.ws'(A:D.At H)(k:List Int):(D.sWs k).At (H.set D.qp (.list (k.map .int)))/\Frm H (H.set D.qp (.list (k.map .int))) D.adr (D.sWs k).adr:=A.setF 8 rfl rfl
def At.ds'(A:D.At H)(k:List Int):(D.sDs k).At (H.set D.dp (.list (k.map .int)))/\Frm H (H.set D.dp (.list (k.map .int))) D.adr (D.sDs k).adr:=A.setF 9 rfl rfl
theorem ga{l m:List α}{n:Nat}(h:l.length=n):(l++m)[n+k]?=m[k]?:=by rw[List.getElem?_append_right (h▸G8 ..),h,Nat.add_sub_cancel_left]
def gl{l m:List α}{x:α}(h:l[k]?=some x):(l++m)[k]?=some x:=by rw[List.getElem?_append_left (z5.mp h).1];exact h
def gm{l:List α}{x:α}(f:α->β)(h:l[k]?=some x):(l.map f)[k]?=some (f x):=by rw[B6,h];rfl
theorem gs{l m:List α}{n:Nat}{x:α}(h:l.length=n):(l++m).set (n+k) x=l++m.set k x:=by rw[List.set_append_right _ _ (h▸G8 ..),h,Nat.add_sub_cancel_left]
def gt{l m:List α}{x y:α}(h:l[k]?=some y):(l++m).set k x=l.set k x++m:=List.set_append_left _ _ (z5.mp h).1
def objs_lot{p:Addr×List Nat}(h:D.lots[k]?=some p):D.objs[18+k]?=some (p.1,.list (p.2.map iv)):=(ga rfl).trans (gl (gm fo h))
def objs_ab{p:Nat×Addr×List Nat}(h:D.ab[k]?=some p):D.objs[18+D.lots.length+k]?=some (p.2.1,.list (p.2.2.map iv)) :=(B9 (D.objs[·]?) (O6 ..)).trans ((ga rfl).trans ((ga (u1 _)).trans (gm fa h)))
theorem At.lot'(A:D.At H){x:Addr}{ns:List Nat}(h:D.lots[k]?=some (x,ns))(ms:List Nat) : (D.sLots (D.lots.set k (x,ms))).At (H.set x (.list (ms.map iv)))/\Frm H (H.set x (.list (ms.map iv))) D.adr (D.sLots (D.lots.set k (x,ms))).adr:=by refine A.setF (18+k) (objs_lot h) ?_;show D.hhL ((D.lots.set k (x,ms)).map λp=>V.ref p.1) D.abv++((D.lots.set k (x,ms)).map fo++D.ab.map fa)=(D.hhL (D.lots.map λp=>V.ref p.1) D.abv++(D.lots.map fo++D.ab.map fa)).set (18+k) _;have e:(D.lots.set k (x,ms)).map (λp=>V.ref p.1)=D.lots.map λp=>V.ref p.1:=dI h rfl;rw[e,List.map_set,gs (n:=18) (l:=D.hhL _ _) rfl,gt (gm fo h)]
theorem At.abl'(A:D.At H){x:Addr}{ns:List Nat}(h:D.ab[k]?=some (i,x,ns))(ms:List Nat) : (D.sAb (D.ab.set k (i,x,ms))).At (H.set x (.list (ms.map iv)))/\Frm H (H.set x (.list (ms.map iv))) D.adr (D.sAb (D.ab.set k (i,x,ms))).adr:=by refine A.setF (18+D.lots.length+k) (objs_ab h) ?_;show D.hhL _ ((D.ab.set k (i,x,ms)).map λp=>(iv p.1,V.ref p.2.1))++(D.lots.map fo++(D.ab.set k (i,x,ms)).map fa)=(D.hhL _ (D.ab.map λp=>(iv p.1,V.ref p.2.1))++(D.lots.map fo++D.ab.map fa)).set (18+D.lots.length+k) _;have e:(D.ab.set k (i,x,ms)).map (λp=>(iv p.1,V.ref p.2.1))=D.ab.map λp=>(iv p.1,V.ref p.2.1):=dI h rfl;rw[e,List.map_set,O6,gs (n:=18) (l:=D.hhL _ _) rfl,gs (u1 _)]
end HD
section
variable{x:Addr}
namespace HD
variable{D:HD}{H:AH}
def ro(D:HD):D.objs.drop 18=D.lots.map fo++D.ab.map fa:=rfl
def At.addL(A:D.At H){a:Addr}{o ob ob':AO}(hx:H x=none)(e:D.objs[i]?=some (a,ob))(hi:i<18)(e1:D'.objs.take 18=(D.objs.take 18).set i (a,ob'))(e2:∀p∈D'.objs.drop 18,p=(x,o)\/p∈D.objs.drop 18) (e3:((D'.objs.drop 18).map (·.1)).Nodup) (h1:H' x=some o) (h2:H' a=some ob') (O:∀b y,b≠a->H b=some y->H' b=some y):D'.At H'/\Frm H H' D.adr D'.adr:=by
 obtain nd:=A.nd;have Q:∀p∈D.objs,p.1≠x:=λp hp z=>by have:=A.all p hp;rw[z,hx]at this;exact ns this
 have tk:∀p∈D'.objs.take 18,p=(a,ob')\/∃j,j≠i/\j<18/\D.objs[j]?=some p:=λp hp=>by
  rw[e1]at hp;refine bM (C0.mp hp) λj B=>?_;rw[J6]at B;split at B
  .split at B
   .obtain rfl:=w8 B;exact .inl rfl
   .exact ns B
  .rename_i h;rw[List.getElem?_take]at B;split at B
   .rename_i G;exact .inr ⟨j,Tc h,G,B⟩
   .exact ns B
 obtain Z:∀p∈D.objs.drop 18,∃j,18<=j/\D.objs[j]?=some p:=λp hp=>by refine bM (C0.mp hp) λj B=>?_;rw[P3]at B;exact⟨18+j,by exact KZ,B⟩
 have J:(D'.objs.take 18).map (·.1)=(D.objs.take 18).map (·.1):=by rw[e1];exact dI (p:=(a,ob)) (by rw[List.getElem?_take,if_pos hi];exact e) rfl
 have e':D'.adr=(D.objs.take 18).map (·.1)++(D'.objs.drop 18).map (·.1):=by rw[<- J,<- B7,Q9];rfl
 have Y:D.adr=(D.objs.take 18).map (·.1)++(D.objs.drop 18).map (·.1):=by rw[<- B7,Q9];rfl
 refine⟨⟨λp hp=>?_,?_⟩,⟨λb y F hn=>O b y ?_ F,λb F=>?_⟩⟩
 .rw[<- Q9 18 D'.objs]at hp;rcases C2.mp hp with hp|hp
  .rcases tk p hp with rfl|⟨j,B,G,hp⟩
   .exact h2
   .exact O _ _ (A.ne hp e B) (A.all p (z6 hp))
  .rcases e2 p hp with rfl|hp
   .exact h1
   .refine ah (Z p hp) λj B hp=>?_;exact O _ _ (A.ne hp e (La B hi)) (A.all p (z6 hp))
 .rw[Y,G4]at nd;rw[e',G4];refine⟨nd.1,e3,λb F c hc=>?_⟩;obtain⟨p,hp,rfl⟩:=w7.mp hc;rcases e2 p hp with rfl|hp
  .refine ah (w7.mp F) λq hq bV=>?_;subst bV;exact Q q (List.mem_of_mem_take hq)
  .exact nd.2.2 b F _ (w7.mpr ⟨p,hp,rfl⟩)
 .rintro rfl;exact hn (A.mem e)
 .rw[e']at F;rcases C2.mp F with F|F
  .exact .inl (by rw[Y];exact E0 _ F)
  .refine ah (w7.mp F) λp hp da=>?_;subst da;rcases e2 p hp with rfl|hp
   .exact .inr hx
   .exact .inl (w7.mpr ⟨p,List.mem_of_mem_drop hp,rfl⟩)
def At.nd18(A:D.At H):((D.objs.drop 18).map (·.1)).Nodup:=by
 obtain nd:=A.nd;have B:D.adr=(D.objs.take 18).map (·.1)++(D.objs.drop 18).map (·.1):=by rw[<- B7,Q9];rfl
 rw[B,G4]at nd;exact nd.2.1
theorem At.fresh(A:D.At H)(hx:H x=none):x∉(D.objs.drop 18).map (·.1):=λhm=>ah (w7.mp hm) λp hp e=>by
 have:=A.all p (List.mem_of_mem_drop hp)
 rw[e,hx]at this;exact ns this
def tw{y:AO}{l m:List (Addr×AO)}(h:x∉(l++m).map (·.1))(nd:((l++m).map (·.1)).Nodup):((l++[(x,y)]++m).map (·.1)).Nodup:=by rw[K4];exact((List.perm_middle (a:=(x,y))).map (·.1)).nodup_iff.mpr (C8.mpr ⟨h,nd⟩)
def At.addLot(A:D.At H)(ns:List Nat)(hx:H x=none)(B:H' x=some (.list (ns.map iv)))(F:H' D.lp=some (.list ((D.lots.map λp=>V.ref p.1)++[.ref x])))(G:∀b y,b≠D.lp->H b=some y->H' b=some y) : (D.sLots (D.lots++[(x,ns)])).At H'/\Frm H H' D.adr (D.sLots (D.lots++[(x,ns)])).adr:=by
 have e:(D.sLots (D.lots++[(x,ns)])).objs.drop 18=D.lots.map fo++[fo (x,ns)]++D.ab.map fa:=B9 (·++D.ab.map fa) B7;refine A.addL (i:=11) (o:=.list (ns.map iv)) (ob':=.list ((D.lots.map λp=>V.ref p.1)++[.ref x])) hx rfl (by decide) ?_ (λp hp=>?_) (e▸tw (A.fresh hx) A.nd18) B F G
 .show D.hhL ((D.lots++[(x,ns)]).map λp=>V.ref p.1) D.abv=D.hhL (_++[.ref x]) D.abv;rw[B7];rfl
 .rw[e]at hp;show p=_\/p∈D.lots.map fo++D.ab.map fa;rcases C2.mp hp with hp|hp
  .exact(C2.mp hp).symm.imp u5.mp (E0 _)
  .exact .inr (C9 _ hp)
theorem At.addAb(A:D.At H)(k:Nat)(ns:List Nat)(hx:H x=none)(B:H' x=some (.list (ns.map iv)))(F:H' D.ap=some (.dict (D.abv++[(iv k,.ref x)])))(G:∀b y,b≠D.ap->H b=some y->H' b=some y) : (D.sAb (D.ab++[(k,x,ns)])).At H'/\Frm H H' D.adr (D.sAb (D.ab++[(k,x,ns)])).adr:=by
 have e:(D.sAb (D.ab++[(k,x,ns)])).objs.drop 18=(D.objs.drop 18)++[fa (k,x,ns)]:=(B9 (D.lots.map fo++·) B7).trans (K4 ..).symm;refine A.addL (i:=16) (o:=.list (ns.map iv)) (ob':=.dict (D.abv++[(iv k,.ref x)])) hx rfl (by decide) ?_ (λp hp=>?_) ?_ B F G
 .show D.hhL _ ((D.ab++[(k,x,ns)]).map λp=>(iv p.1,V.ref p.2.1))=D.hhL _ (_++[(iv k,.ref x)]);rw[B7];rfl
 .rw[e]at hp;exact(C2.mp hp).symm.imp_left u5.mp
 .have n:=tw (x:=x) (y:=.list (ns.map iv)) (l:=D.objs.drop 18) (m:=[]);rw[G2,G2]at n;rw[e];exact n (A.fresh hx) A.nd18
noncomputable def abJoin(ab:List (Nat×Addr×List Nat))(B F:Nat)(x:Addr)(ns:List Nat):List (Nat×Addr×List Nat):=(ab.filter λp=>p.1≠F).map λp=>if p.1=B then(B,x,ns)else p
theorem At.joinAb(A:D.At H)(B F:Nat)(ns:List Nat)(hk:(D.ab.map (·.1)).Nodup)(hx:H x=none)(h1:H' x=some (.list (ns.map iv)))(h2:H' D.ap=some (.dict ((abJoin D.ab B F x ns).map λp=>(iv p.1,.ref p.2.1))))(h3:∀b y,b≠D.ap->H b=some y->H' b=some y) : (D.sAb (abJoin D.ab B F x ns)).At H'/\Frm H H' D.adr (D.sAb (abJoin D.ab B F x ns)).adr:=by
 obtain nd:=A.nd18;obtain O:=A.fresh hx;refine A.addL (D':=(D.sAb (abJoin D.ab B F x ns))) (i:=16) (o:=.list (ns.map iv)) (ob':=.dict ((abJoin D.ab B F x ns).map λp=>(iv p.1,.ref p.2.1))) hx rfl (by decide) rfl (λp hp=>?_) ?_ h1 h2 h3
 .rw[ro]at hp ⊢;rcases C2.mp hp with hp|hp
  .exact .inr (E0 _ hp)
  .refine ah (w7.mp hp) λq hq dC=>?_;subst dC;refine ah (w7.mp hq) λr hr eN=>?_;subst eN;by_cases J:r.1=B
   .rw[if_pos J];exact .inl rfl
   .rw[if_neg J];exact .inr (C9 _ (w7.mpr ⟨r,(I4.mp hr).1,rfl⟩))
 .rw[ro,B7,G4]at nd;rw[ro,B7,C2]at O;rw[ro,B7,G4];have Q:∀y∈(abJoin D.ab B F x ns).map λp=>p.2.1,y=x\/y∈D.ab.map λp=>p.2.1:=λy hy=>by
   obtain⟨q,hq,rfl⟩:=w7.mp hy;refine ah (w7.mp hq) λr hr Z=>?_;subst Z;by_cases J:r.1=B
   .rw[if_pos J];exact .inl rfl
   .rw[if_neg J];exact .inr (w7.mpr ⟨r,(I4.mp hr).1,rfl⟩)
  obtain m1:∀(l:List (Nat×Addr×List Nat)),(l.map λp=>(p.2.1,AO.list (p.2.2.map iv))).map (·.1)=l.map λp=>p.2.1:=λl=>by rw[I8];rfl
  rw[m1]at nd ⊢;rw[m1]at O;refine⟨nd.1,?_,λb hb c hc=>?_⟩
  .unfold abJoin;rw[I8];have key:∀(l:List (Nat×Addr×List Nat)),(l.map (·.1)).Nodup->(l.map λp=>p.2.1).Nodup->x∉(l.map λp=>p.2.1)->(l.map ((λp=>p.2.1)∘λp=>if p.1=B then(B,x,ns)else p)).Nodup:=by
    intro l;induction l with
    |nil=>intro _ _ _;exact J5
    |cons p l ih =>
     intro k1 k2 Y;rw[C4,C8]at k1 k2;rw[C4,A4,not_or]at Y;rw[C4,C8];refine⟨λhm=>?_,ih k1.2 k2.2 Y.2⟩;refine ah (w7.mp hm) λq hq e=>?_;simp only[Function.comp]at e;by_cases hp:p.1=B
     .rw[if_pos hp]at e;by_cases G:q.1=B
      .exact k1.1 (w7.mpr ⟨q,hq,by rw[G,hp]⟩)
      .rw[if_neg G]at e;exact Y.2 (w7.mpr ⟨q,hq,e⟩)
     .rw[if_neg hp]at e;by_cases G:q.1=B
      .rw[if_pos G]at e;exact Y.1 e
      .rw[if_neg G]at e;exact k2.1 (w7.mpr ⟨q,hq,e⟩)
   obtain sub:(D.ab.filter λp=>decide (p.1≠F)).Sublist D.ab:=List.filter_sublist;exact key _ ((sub.map _).nodup hk) ((sub.map _).nodup nd.2.1) λhm=>O (.inr ((sub.map _).subset hm))
  .rcases Q c hc with rfl|hc
   .rintro rfl;exact O (.inl hb)
   .exact nd.2.2 b hb c hc
end HD
end
def eI(h:iv a=iv b):a=b:=by injection h with h;exact Lb h
theorem nU:∀{l m:List Nat},l.map iv=m.map iv->l=m
 | [],[],_=>rfl
 | [],_::_,h=>by simp at h
 |_::_,[],h=>by simp at h
 |a::l,b::m,h=>by simp only[List.map_cons,List.cons.injEq]at h;rw[eI h.1,nU h.2]
def gc{a b:Nd}(h:ag a=ag b):a=b:=by unfold ag at h;injection h with h;simp only[List.cons.injEq]at h;refine cq h λB F=>?_;injection B with B;exact Prod.ext B (nU F)
theorem eO{kvs:ba}{k:V}(h:∀p∈kvs,p.1≠k):ax kvs k=none:=by
 induction kvs with
 |nil=>rfl
 |cons p r B =>obtain⟨a,b⟩:=p;rw[aM,if_neg (by rw[aO];exact h (a,b) y4)];exact B λp hp=>h p (w9 _ hp)
theorem cP{kvs ws:ba}{k:V}(h:ax kvs k=none):ax (kvs++ws) k=ax ws k:=by
 induction kvs with
 |nil=>rfl
 |cons p r F =>
  obtain⟨a,b⟩:=p;rw[aM]at h;split at h
  .exact sn h
  .rename_i B;rw[List.cons_append,aM,if_neg B];exact F h
theorem pZ:∀(l:List Nd)(k:Nat)(nd:Nd),(∃i,l[i]?=some nd/\ax ((l.zipIdx k).map λp=>(ag p.1,iv p.2)) (ag nd)=some (iv (k+i)))\/(nd∉l/\ax ((l.zipIdx k).map λp=>(ag p.1,iv p.2)) (ag nd)=none)
 | [],k,nd=>.inr ⟨by simp,rfl⟩
 |a::l,k,nd=>by
  rw[List.zipIdx_cons,C4,aM];by_cases h:a=nd
  .subst h;exact .inl (af 0 rfl (by rw[if_pos (bE _)];rfl))
  .rw[if_neg (by rw[aO];exactλz=>h (gc z))];rcases pZ l (k+1) nd with⟨i,B,F⟩|⟨B,F⟩
   .exact .inl (af (i+1) (by exact B) (by rw[F];congr 2;exact Ei))
   .exact .inr ⟨by simp;exact⟨λz=>h z.symm,B⟩,F⟩
def pE(f:α->β)(l:List α)(x:α):l.map f++[f x]=(l++[x]).map f:=by rw[B7];rfl
theorem HM{p:String->Bool}(h:aF.all p=true){op:String}(B:op∈aF):p op=true:=J0.mp h op B
noncomputable def HD.take(D:HD)(nd:Nd)(w d:Int):HD:=((((D.sNums (D.nums++[(ag nd,iv D.n)])).sNodes (D.nodes++[nd])).sWs (D.ws++[w])).sDs (D.ds++[d]))
section
variable{H:AH}{Q:b8}{D:HD}
theorem BV(T:Txt σ){op:String}(B:op∈aF)(q:∀H',Ext H H'->Q (.bool true) H'):FCall σ 1 "is_op" [.str op] H Q:=by
 have F:cr (.str op) (.str "")=false:=by rw[kz];exact E2 (z9 (HM (p:=λs=>decide (s≠"")) (by decide) B))
 refine ce T.ok T.is_op rfl (cN (Br (Ev.cmp (op:=.ne) (v:=.str op) (w:=.str "") (b:=true) (.var rfl) .cst (λQ q=>⟨iU _,iU _,by rw[F];exact q⟩) _ _ (af true rfl (gW rfl ?_)))));refine Bt (Bu (af _ rfl ⟨B,?_⟩));refine pW (src:=none) (K:=λc H1=>aY σ 0 (.lst .nil) (aT ["text"] [.str op]) H1 λw H2=>fj H2 .eq (.ref c) w λt=>kC Q (.ret (.bool t)) (aT ["text"] [.str op]) H2) [op] V.str V.str (λ_=>false) trivial (show 1<2^20 by decide) (λs hs H' G x k=>?_) (λ_ _ h=>ai h) λc H' x h0 hc J hc2=>?_
 .obtain rfl:=u5.mp hs;exact gN (k:=.str) (.var rfl) ⟨rfl,s,rfl⟩ .nil (sw rfl rfl ⟨s,rfl,B⟩ (af false rfl (jc rfl (jK _ rfl rfl ⟨s,rfl,B⟩ k))))
 .obtain e2:=(w4 (.list []) hc2) _ _ hc;exact(qT ([]) ([]) e2 (AH.set_self _ _ _) ⟨rfl,E1 _⟩ ⟨rfl,E1 _⟩ (by rw[bE];exact q _ (x.trans' (w4 _ hc2))))
theorem zk{n:Nat}(q:Q (iv n) H):xJ H Q .sub (iv (n+1)) (iv 1):=by show Q (.int (((n+1:Nat):Int)-((1:Nat):Int))) H;rw[show(((n+1:Nat):Int)-((1:Nat):Int))=n from Int.add_sub_cancel (n:Int) ((1:Nat):Int)];exact q
def BJ{i j:Int}(q:Q (.int (i+j)) H):xJ H Q .add (.int i) (.int j):=q
noncomputable def RG(s:String):Bool:=decide (s∈iH)&&(match s.toList[0]? with|some c=>decide (String.ofList [c]≠"?")|none=>false)
def CW{s:String}(h:RG s=true):s∈iH/\∃c,s.toList[0]?=some c/\String.ofList [c]≠"?":=by
 obtain h:=aa h;refine⟨z9 h.1,?_⟩;have h:=h.2;rcases e:s.toList[0]? with _|c
 .rw[e]at h;exact ai h
 .rw[e]at h;exact(af c rfl (z9 h))
theorem xM(T:Txt σ){b:Addr}{op:String}(B:op∈aF)(q:∀H',Ext H H'->Q .none H'):MCall σ 2 "Bank" "require" [.ref b,.str op] H Q:=by
 refine cq (CW (HM (by decide) B)) λhw aX=>?_;refine ah aX λF e1 e2=>?_;refine ah (BV (H:=H) (Q:=λv H2=>∃t,v=.bool t/\(if(!t)=true then(λt H1=>if t=true then az σ 1 [.rais] (aT ["self","op"] [.ref b,.str op]) H1 (Sq σ 1 [] (kC Q))else az σ 1 [] (aT ["self","op"] [.ref b,.str op]) H1 (Sq σ 1 [] (kC Q))) true H2 else yT σ 1 (.cmp1 .eq (.idx g8 c8) j9) (aT ["self","op"] [.ref b,.str op]) H2 λt H1=>if t=true then az σ 1 [.rais] (aT ["self","op"] [.ref b,.str op]) H1 (Sq σ 1 [] (kC Q))else az σ 1 [] (aT ["self","op"] [.ref b,.str op]) H1 (Sq σ 1 [] (kC Q)))) T B λH' x =>
  (af true rfl (jc rfl (w6 (b:=false) ((Ev.var rfl).idx (v:=.str op) (w:=iv 0) .cst λ_ q=>⟨hw,(qT 0 F rfl (by decide) (by decide) e1 q)⟩) .cst (λQ q=>rp _ _ _ _ (by rw[E2 e2];exact q)) _ _ (jc rfl (q H' x)))))) λf e c=>?_
 exact aE T.ok T.Bank_require rfl (af f e (af _ rfl c))
theorem Fm(T:Txt σ)(A:D.At H)(O:D.Ok){op:String}{ks:List Nat}(ho:op∈aF)(hk:ks.length<=2)(J:∀k∈ks,k<D.n)(hn:D.n<60) (q1:∀i,D.nodes[i]?=some (op,ks)->Q (iv i) H) (q2:(op,ks)∉D.nodes->∀H' w d,(D.take (op,ks) w d).At H'->Frm H H' D.adr (D.take (op,ks) w d).adr->Q (iv D.n) H') : MCall σ 3 "Bank" "take" [.ref D.bp,.str op,.tup (ks.map iv)] H Q:=by
 obtain key:=bL (op,ks);have F:keyFits D.nums (ag (op,ks)):=by refine⟨by rw[key.2.2];decide,λp hp=>?_⟩;rw[O.nums]at hp;refine ah (w7.mp hp) λx _ bV=>?_;subst bV;rw[key.2.2];exact(bL _).2.2
 have G:∀{α:Type}(f:Nat->α),(ks.map f).length<=2:=λf=>s7 (r5 (u1 f)) hk;obtain Z:ks.length<2^20:=z0 hk (by decide);refine aE T.ok T.Bank_take rfl (sd (v:=ag (op,ks)) ((Ev.tup (.cons (.var rfl) .nil)).bin (Ev.prim (.var rfl) λ_ q=>q) λ_ q=>⟨s7 (Q5 (G iv) 1) (by decide),q⟩) ?_);have nums:∀{l:Loc}{H:AH},D.At H->l "self"=some (.ref D.bp)->Ev σ l H (.attr c7 "numbers") (.ref D.mp):=λA h=>mo T A (.var h) (by decide) rfl;have cm:EvT σ ((aT ["self","op","kids"] [.ref D.bp,.str op,.tup (ks.map iv)]).put "node" (ag (op,ks))) H (.cmp1 .isin c9 (.attr c7 "numbers")) (ax D.nums (ag (op,ks))).isSome:=w6 (.var rfl) (nums A rfl) λQ q=>.inr (aK _ A.nums F q);rcases pZ D.nodes 0 (op,ks)with⟨i,h1,h2⟩|⟨h1,h2⟩
 .have B:ax D.nums (ag (op,ks))=some (iv i):=by rw[O.nums];rw[Q4]at h2;exact h2
  rw[B]at cm;exact ff cm (bY ((nums A rfl).idx (.var rfl) λ_ q=>eY A.nums F B q) (q1 i h1))
 have B:ax D.nums (ag (op,ks))=none:=by rw[O.nums];exact h2
 rw[B]at cm;refine dM cm (gJ (aQ (.var rfl) A.bank rfl T.Bank_require.some (.cons (.var rfl) .nil) (xM T ho λH1 x1=>⟨trivial,?_⟩)));obtain A1:=A.ext x1;refine GK (hV (.var rfl) (z0 (G iv) (by decide))) (s7 (G iv) (by decide)) (λv hv l' K' kp k=>?_) λl kp=>?_
 .refine ah (w7.mp hv) λr hr da=>?_;subst da;obtain hs:(l'.put "kid" (iv r)) "self"=some (.ref D.bp):=(kp.put _ (by decide)).trans rfl;exact dM (EvT.not (b:=true) (EvT.cmp2 (.cst (v:=iv 0)) (.var rfl) (cY (mo T A1 (.var hs) (by decide) rfl) A1.nodes (u1 _) (FI O.nz)) (λ_ q=>(bF 0 r rfl rfl (by rw[D8 (J9 r)];exact q))) λ_ q=>(bF r _ rfl rfl (by rw[D8 (L8.mpr (J r hr))];exact q)))) (k _ kp.put)
 have hs:l "self"=some (.ref D.bp):=(kp _ (by decide)).trans rfl;have hnode:Ev σ l H1 c9 (ag (op,ks)):=.var ((kp _ (by decide)).trans rfl);obtain hnl:(D.nodes.map ag).length<2^20:=by rw[u1];exact C6 hn (by decide)
 obtain Y:D.nums.length<2^20:=by rw[O.nums];unfold nZ;rw[u1,List.length_zipIdx];exact C6 hn (by decide)
 refine wb (cY (mo T A1 (.var hs) (by decide) rfl) A1.nodes (u1 _) (FI O.nz)) (nums A1 hs) hnode A1.nums F Y ?_;rw[cQ B];refine cq (A1.nums' (D.nums++[(ag (op,ks),iv D.n)])) λB1 f1=>?_;refine jG (mo T B1 (.var hs) (by decide) rfl) B1.nodes (.var ((kp _ (by decide)).trans rfl)) hnl ?_;refine cq (B1.nodes' (D.nodes++[(op,ks)])) λB2 f2=>?_;rw[show D.nodes.map ag++[ag (op,ks)]=(D.nodes++[(op,ks)]).map ag from pE ..];obtain hwl:D.ws.length=D.n:=O.lws;obtain hdl:D.ds.length=D.n:=O.lds;have tup:∀{H:AH},Ev σ l H (.slc c9 (some 1) none) (.tup (ks.map iv)):=hV (.var ((kp _ (by decide)).trans rfl)) (z0 (G iv) (by decide));refine iY (mo T B2 (.var hs) (by decide) rfl) B2.ws (gM (aA .cst (bu (kA ks iv (λi=>.int (D.ws.getD i 0)) tup Z (λi hi H' Q' x k=>aA ((mo T (B2.ext x) (.var ?_) (by decide) rfl).idx (.var rfl) λ_ q=>cf (B2.ext x).ws (cR 0 (by rw[hwl];exact J i hi)) (mq (J i hi) O.nz) q) (k H' (w3 _))) λc3 H3 x3 _ h3=>(af (ks.map λi=>D.ws.getD i 0) (by rw[h3,I8];rfl) ?_)))))
 .exact hs
 obtain B3':=B2.ext x3;refine BJ (jz B3'.ws (by rw[u1,hwl];exact C6 hn (by decide)) ⟨trivial,?_⟩);generalize (1+(ks.map λi=>D.ws.getD i 0).sum:Int)=wv;refine cq (B3'.ws' (D.ws++[wv])) λB3 f3=>?_;rw[show D.ws.map V.int++[V.int wv]=(D.ws++[wv]).map V.int from pE ..];refine iY (mo T B3 (.var hs) (by decide) rfl) B3.ds (gM (aA .cst (bu (gM (kA ks iv (λi=>.int (D.ds.getD i 0)) tup Z (λi hi H' Q' x k=>aA ((mo T (B3.ext x) (.var ?_) (by decide) rfl).idx (.var rfl) λ_ q=>cf (B3.ext x).ds (cR 0 (by rw[hdl];exact J i hi)) (mq (J i hi) O.nz) q) (k H' (w3 _))) λc4 H4 x4 _ h4=>?_)))))
 .exact hs
 intro c5 hc5;refine(jL _ _ ((w4 _ hc5) _ _ h4) (AH.set_self _ _ _) (s7 (Nat.add_le_add_right (G _) 1) (by decide)) (λc6 hc6=>?_));have x6:=x4.trans' ((w4 (.list [.int 0]) hc5).trans' (w4 (.list (ks.map (λi=>V.int (D.ds.getD i 0))++[.int 0])) hc6));have hmax:∃(i:Int)(ns:List Int),ks.map (λi=>V.int (D.ds.getD i 0))++[.int 0]=(i::ns).map V.int:=by
  rcases ks with _|⟨k,ks⟩
  .exact(uD 0 ([]) rfl)
  .exact(uD (D.ds.getD k 0) (ks.map (λi=>D.ds.getD i 0)++[0]) (by rw[C4,C4,B7,I8];rfl))
 refine ph hmax λi0 ns0 emax=>?_;refine(ey i0 ns0 (by rw[<- emax];exact AH.set_self _ _ _) (λM _ _=>?_));obtain B4':=B3.ext x6;refine BJ (jz B4'.ds (by rw[u1,hdl];exact C6 hn (by decide)) ⟨trivial,?_⟩);generalize (1+M:Int)=dv;refine cq (B4'.ds' (D.ds++[dv])) λB4 f4=>?_;rw[show D.ds.map V.int++[V.int dv]=(D.ds++[dv]).map V.int from pE ..];refine bY ((cY (n:=D.n+1) (mo T B4 (.var hs) (by decide) rfl) B4.nodes (by rw[u1];exact A6) (s7 (I7 O.nz) (by decide))).bin (w:=iv 1) (u:=iv D.n) .cst λ_ q=>zk q) ?_;exact q2 h1 _ wv dv ⟨B4.all,B4.nd⟩ (((((x1.frm.trans f1).trans f2).trans (x3.frm.trans f3)).trans (x6.frm.trans f4)))
end
def Bn(a b:Nat):aH [iv a,iv b]=[iv (min a b),iv (max a b)]:=by
 have:[iv a,iv b]=[a,b].map iv:=rfl
 rw[this];rcases D3 a b with h|h
 .rw[jJ (K6 _) (by simpa using h),Q7 h,M6 h];rfl
 .rw[jJ (List.Perm.swap b a []) (by simpa using h),P9 h,M0 h];rfl
section
variable{H:AH}{Q:b8}{D:HD}
def ty{D:HD}{H:AH}(A:D'.At H')(f:Frm H H' D.adr D'.adr)(h0:∀x∈D.adr,x∈D'.adr){x:Addr}(hx:H' x=none):H x=none:=by
 rcases z:H x with _|o
 .rfl
 .by_cases hm:x∈D.adr
  .refine ah (w7.mp (h0 x hm)) λp hp e=>?_;exact nn hx (e▸A.all p hp)
  .exact nn hx (f.out _ _ z hm)
theorem Fk(T:Txt σ)(A:D.At H)(Y:D.par.length=k)(h2:D.lots.length=k)(hk:k<1000) (q:∀H' x,H x=none->((D.sPar (D.par++[k])).sLots (D.lots++[(x,[k])])).At H'->Frm H H' D.adr ((D.sPar (D.par++[k])).sLots (D.lots++[(x,[k])])).adr->Q (iv k) H') : MCall σ 1 "Unions" "make" [.ref D.up] H Q:=by obtain F:k<2^20:=C6 hk (by decide);obtain G:k<=2^21:=s7 (D9 hk) (by decide);obtain lp:(D.par.map iv).length=k:=(u1 _).trans Y;obtain Z:(D.lots.map λp=>V.ref p.1).length=k:=(u1 _).trans h2;refine aE T.ok T.Unions_make rfl (jG (ny T A (.var rfl) (by decide) rfl) A.par (cY (ny T A (.var rfl) (by decide) rfl) A.par lp G) (by rw[lp];exact F) ?_);rw[pE iv D.par k];obtain⟨B,f1⟩:=A.par' (D.par++[k]);refine iY (ny T B (.var rfl) (by decide) rfl) B.lots (dl (aq (aA (cY (ny T B (.var rfl) (by decide) rfl) B.lots Z G) λx hx=>?_)));obtain J:D.lp≠x:=aC B.lots hx;refine jz ((p6 _ _ J).trans B.lots) (by rw[Z];exact F) ⟨trivial,?_⟩;refine cq (B.addLot (x:=x) (H':=((H.set D.ua (.list ((D.par++[k]).map iv))).set x (.list [iv k])).set D.lp (.list ((D.lots.map λp=>V.ref p.1)++[.ref x]))) [k] hx ((p6 _ _ J.symm).trans (AH.set_self _ _ _)) (AH.set_self _ _ _) (λb y hb e=>by rw[p6 _ _ hb];exact(w4 _ hx) _ _ e)) λO f2=>?_;exact bY ((cY (n:=k+1) (ny T O (.var rfl) (by decide) rfl) O.par (by rw[u1];exact List.length_append.trans (B9 (· + 1) Y)) (s7 hk (by decide))).bin (w:=iv 1) .cst λ_ q=>zk q) (q _ x (ty B f1 (λ_ h=>h) hx) O (f1.trans f2))
def pR{a:Addr}{x y:String}{v w:V}(h:H a=some (.list [v,w])):gZ H (.tp2 (.nm x) (.nm y)) (.ref a) l=some ((l.put x v).put y w):=by unfold gZ;simp only[h];rfl
def wT(O:D.UOk)(ha:a<D.n)(G:b<D.n):D.r (min (D.r a) (D.r b))=min (D.r a) (D.r b)/\D.r (max (D.r a) (D.r b))=max (D.r a) (D.r b):=by
 obtain B:=(O.rle a ha).2;obtain F:=(O.rle b G).2;rcases D3 (D.r a) (D.r b)with h|h
 .rw[Q7 h,M6 h];exact⟨B,F⟩
 .rw[P9 h,M0 h];exact⟨F,B⟩
def wN(O:D.UOk){p:Addr×List Nat}(hp:D.lots[k]?=some p)(hr:D.r k=k):p.2.length<=60:=s7 (r5 (O.lots k p hp hr).length_eq) (s7 (D.mem_len k) O.nz)
theorem zw(T:Txt σ)(A:D.At H)(O:D.UOk)(ha:a<D.n)(hb:b<D.n)(q1:D.r a=D.r b->∀H',Ext H H'->Q .none H') (q2:∀k g pk pg,k<g->g<D.n->k=min (D.r a) (D.r b)->g=max (D.r a) (D.r b)->D.lots[k]?=some pk->D.lots[g]?=some pg->∀H',(((D.sPar (D.par.set g k)).sLots (D.lots.set k (pk.1,pk.2++pg.2))).sMrg (D.mrg++[.tup [iv k,iv g]])).At H' ->
   Frm H H' D.adr (((D.sPar (D.par.set g k)).sLots (D.lots.set k (pk.1,pk.2++pg.2))).sMrg (D.mrg++[.tup [iv k,iv g]])).adr->Q (.tup [iv k,iv g]) H') :
  MCall σ 2 "Unions" "merge" [.ref D.up,iv a,iv b] H Q:=by
 refine aE T.ok T.Unions_merge rfl (cE (bu (dl (aq (aQ (.var rfl) A.uni rfl T.Unions_find.some (.cons (.var rfl) .nil) (rf T A O ha (aq (aQ (.var rfl) A.uni rfl T.Unions_find.some (.cons (.var rfl) .nil) (rf T A O hb λc hc=>.inl (aK _ (AH.set_self _ _ _) (dc (l:=[D.r a,D.r b]) (show 2<64 by decide)) (λc2 hc2=>?_)))))))))));have x2:Ext H ((H.set c (.list [iv (D.r a),iv (D.r b)])).set c2 (.list (aH [iv (D.r a),iv (D.r b)]))):=(w4 _ hc).trans' (w4 _ hc2);rw[Bn]at x2 ⊢;have hm:=wT O ha hb;have B:¬D.r a=D.r b->min (D.r a) (D.r b)<max (D.r a) (D.r b):=λY=>Lc rfl rfl Y;have hke:D.r a=D.r b->min (D.r a) (D.r b)=max (D.r a) (D.r b):=λY=>by rw[Y,Nat.min_self,Nat.max_self]
 have G:max (D.r a) (D.r b)<D.n:=Ld rfl (EZ O ha) (EZ O hb);generalize hk:min (D.r a) (D.r b)=k at *;generalize hg:max (D.r a) (D.r b)=g at *;have A1:=A.ext x2;obtain f0:=x2.frm (A:=D.adr);refine(af _ (pR (AH.set_self _ _ _)) ?_);generalize (H.set c (.list [iv (D.r a),iv (D.r b)])).set c2 (.list [iv k,iv g])=H1 at *;obtain cm:=w6 (σ:=σ) (l:=((aT ["self","a","b"] [.ref D.up,iv a,iv b]).put "kept" (iv k)).put "gone" (iv g)) (H:=H1) (op:=.eq) (e:=.var "kept") (e2:=.var "gone") (.var rfl) (.var rfl) (λQ q=>hJ q);by_cases Y:D.r a=D.r b
 .rw[D8 (hke Y)]at cm;exact ff cm (bY .cst (q1 Y _ x2))
 .obtain B:=B Y;obtain ad:k<D.n:=C6 B G;rw[E2 (E9 B)]at cm;obtain⟨pk,F⟩:=wQ O ad;obtain⟨pg,J⟩:=wQ O G;have self:∀{H:AH},Ev σ (((aT ["self","a","b"] [.ref D.up,iv a,iv b]).put "kept" (iv k)).put "gone" (iv g)) H c7 (.ref D.up):=.var rfl;obtain ar:(D.par.map iv).length=D.n:=(u1 _).trans O.lpar;refine dM cm (GL (n:=g) (.var rfl) (ny T A1 self (by decide) rfl) (.var rfl) A1.par (J9 g) (by rw[ar];exact L8.mpr G) (by rw[ar];exact z0 O.nz (by decide)) ?_);rw[show(D.par.map iv).set ((g:Int).toNat) (iv k)=(D.par.set g k).map iv by rw[List.map_set];rfl];refine cq (A1.par' (D.par.set g k)) λZ f1=>?_;obtain hlk:=Z.lot pk (z6 F);obtain hlg:=Z.lot pg (z6 J);obtain hne:pk.1≠pg.1:=Z.ne (HD.objs_lot F) (HD.objs_lot J) (λz=>E9 B (Nat.add_left_cancel z));obtain lot:∀{i:Nat}{p:Addr×List Nat}{x:String},D.lots[i]?=some p->i<D.n->Ev σ (((aT ["self","a","b"] [.ref D.up,iv a,iv b]).put "kept" (iv k)).put "gone" (iv g)) _ (.var x) (iv i)->Ev σ _ _ (.idx (.attr c7 "lots") (.var x)) (.ref p.1):=λh hi hv=>(ny T Z self (by decide) rfl).idx hv λ_ q=>cf Z.lots h (mq hi O.nz) q;refine vZ (lot F ad (.var rfl)) hlk (lot J G (.var rfl)) hlg hne ?_ ?_
  .rw[u1,u1];exact s7 (O7 (wN O F hm.1) (wN O J hm.2)) (by decide)
  rw[<- B7];refine cq (Z.lot' (k:=k) (x:=pk.1) (ns:=pk.2) F (pk.2++pg.2)) λB2 f2=>?_;refine jG (ny T B2 self (by decide) rfl) B2.mrg (.tup (.cons (.var rfl) (.cons (.var rfl) .nil))) O.mrgz ?_;obtain⟨B3,f3⟩:=B2.mrg' (D.mrg++[.tup [iv k,iv g]]);exact bY (.tup (.cons (.var rfl) (.cons (.var rfl) .nil))) (q2 k g pk pg B G rfl rfl F J _ B3 ((f0.trans f1).trans (f2.trans f3)))
end
noncomputable def bK(D:HD)(a b:Nat)(rs:V)(k g:Nat)(pk pg:Addr×List Nat)(uk ug:Addr×List Nat)(x:Addr):HD :=((((((((D.sEdg (D.edg++[.tup [iv a,iv b,rs]])).sPar (D.par.set g k)).sLots (D.lots.set k (pk.1,pk.2++pg.2))).sMrg (D.mrg++[.tup [iv k,iv g]])).sFrs (D.frs++[.int (((D.edg++[V.tup [iv a,iv b,rs]]).length:Int)-1)])).sWait (D.wait++ug.2)).sAb (abJoin' D.ab k g x (uk.2++ug.2))).sRep (D.rep.map λy=>if y=g then k else y))
where abJoin' (ab:List (Nat×Addr×List Nat)) (kept gone:Nat) (x:Addr) (ns:List Nat):=HD.abJoin ab kept gone x ns
structure fK(D:HD)(a b k g:Nat)(pk pg:Addr×List Nat)(uk ug:Addr×List Nat):Prop where
 lt:k<g
 gn:g<D.n
 ke:k=min (D.r a) (D.r b)
 ge:g=max (D.r a) (D.r b)
 rk:D.r k=k
 rg:D.r g=g
 pk:D.lots[k]?=some pk
 pg:D.lots[g]?=some pg
 uk:(k,uk)∈D.ab
 ug:(g,ug)∈D.ab
section
variable{D:HD}
theorem jT:∀{ab:List (Nat×Addr×List Nat)},(ab.map (·.1)).Nodup->∀{k:Nat}{u:Addr×List Nat},(k,u)∈ab->ax (ab.map λp=>(iv p.1,V.ref p.2.1)) (iv k)=some (.ref u.1)
 | [],_,k,u,h=>absurd h y9
 |p::ab,nd,k,u,h=>by
  rw[C4,C8]at nd;rw[C4,aM,fJ];rcases A4.mp h with e|h
  .subst e;simp
  .obtain B:p.1≠k:=λe=>nd.1 (w7.mpr (af (k,u) h e.symm));rw[E2 (Le B)];exact jT nd.2 h
def Cd(ab:List (Nat×Addr×List Nat))(g:Nat):ddel (ab.map λp=>(iv p.1,V.ref p.2.1)) (iv g)=(ab.filter λp=>p.1≠g).map λp=>(iv p.1,V.ref p.2.1):=by
 unfold ddel;rw[List.filter_map];congr 1;apply Q1;intro p _;simp only[Function.comp,fJ];by_cases h:p.1=g
 .simp[h]
 .simp[h];exact EA h
def Ce{ab:List (Nat×Addr×List Nat)}(hk:k∈ab.map (·.1))(x:Addr)(ns:List Nat):dput (ab.map λp=>(iv p.1,V.ref p.2.1)) (iv k) (.ref x)=(ab.map λp=>if p.1=k then(k,x,ns)else p).map λp=>(iv p.1,V.ref p.2.1):=by
 unfold dput
 have:(ab.map λp=>(iv p.1,V.ref p.2.1)).any (λp=>cr p.1 (iv k))=true:=by rw[RX];refine ah (w7.mp hk) λp hp e=>?_;exact(af _ (w7.mpr (af p hp rfl)) (by simp[fJ,e]))
 rw[if_pos this,I8,I8];apply G3;intro p _;simp only[Function.comp,fJ];by_cases h:p.1=k <;> simp[h];exact Lf h
theorem jp:∀{l:List Nat}{x:Nat},x∈l->x<=l.sum
 |a::l,x,h=>by
  rw[List.sum_cons];rcases A4.mp h with e|h
  .exact Lg e
  .obtain B:=jp h;exact Lh B
def gf(O:D.Ok){u:Addr×List Nat}(h:(k,u)∈D.ab):u.2.length<=2*D.n :=s7 (jp (w7.mpr (af (k,u) h rfl))) O.tot
def zc(O:D.Ok):D.ab.length<=D.n:=by obtain B:=cL D.n (D.ab.map (·.1)) O.abk.1 λx hx=>(HD.mem_roots.mp ((O.abk.2 x).mp hx)).1;simpa using B
def jV{ab:List (Nat×Addr×List Nat)}(k:Nat):keyFits (ab.map λp=>(iv p.1,V.ref p.2.1)) (iv k):=⟨Nat.one_ne_zero,λp hp=>by refine ah (w7.mp hp) λq _ aX=>?_;subst aX;rfl⟩
def sj(O:D.Ok)(hk:k<D.n)(hr:D.r k=k):∃u,(k,u)∈D.ab:=by obtain B:=(O.abk.2 k).mpr (HD.mem_roots.mpr ⟨hk,hr⟩);refine ah (w7.mp B) λp hp e=>?_;exact⟨p.2,by rw[<- e];exact hp⟩
variable{H:AH}{Q:b8}
theorem zp(T:Txt σ)(A:D.At H)(O:D.Ok)(ha:a<D.n)(hb:b<D.n) (q1:D.r a=D.r b->∀H',(D.sEdg (D.edg++[.tup [iv a,iv b,rs]])).At H'->Frm H H' D.adr (D.sEdg (D.edg++[.tup [iv a,iv b,rs]])).adr->Q (.bool false) H') (q2:∀k g pk pg uk ug x H',fK D a b k g pk pg uk ug->(bK D a b rs k g pk pg uk ug x).At H'->Frm H H' D.adr (bK D a b rs k g pk pg uk ug x).adr->Q (.bool true) H') : MCall σ 3 "Heap" "join" [.ref D.hp,iv a,iv b,rs] H Q:=by
 obtain hn:D.n<=60:=O.nz;obtain hM:=O.Mz;obtain Z:=O.edg;have hel:D.edg.length<=160:=s7 (s7 (G8 _ _) Z.1) (O7 hn hM);obtain hfl:D.frs.length<=60:=s7 (s7 (G8 _ _) Z.2.1) hn;obtain hwl:D.wait.length<2^19:=Li O.cnt hn;refine aE T.ok T.Heap_join rfl (jG (hU T A (.var rfl) (by decide) rfl) A.edg (.tup (.cons (.var rfl) (.cons (.var rfl) (.cons (.var rfl) .nil)))) (z0 hel (by decide)) ?_);refine cq (A.edg' (D.edg++[.tup [iv a,iv b,rs]])) λB1 f1=>?_;generalize (H.set D.ep (.list (D.edg++[.tup [iv a,iv b,rs]])))=Ha at *;obtain U1:(D.sEdg (D.edg++[.tup [iv a,iv b,rs]])).UOk:=⟨O.nz,O.lpar,O.llots,O.rle,O.pr,O.lots,O.u.mrgz⟩;refine cE (aQ (hU T B1 (.var rfl) (by decide) rfl) B1.uni rfl T.Unions_merge.some (.cons (.var rfl) (.cons (.var rfl) .nil)) (zw T B1 U1 ha hb (λhe H2 x2=>(af _ rfl ?_)) λk g pk pg hkg J hke hge hpk hpg H2 B2 f2=>(af _ rfl ?_)))
 .exact ff (w6 (op:=.is) (v:=.none) (.var rfl) .cst λ_ q=>⟨rfl,by rw[bE];exact q⟩) (bY .cst (q1 he H2 (B1.ext x2) (f1.trans x2.frm)))
 obtain hm:=wT O.u ha hb;rw[<- show k=min (D.r a) (D.r b)from hke,<- show g=max (D.r a) (D.r b)from hge]at hm;have J:g<D.n:=J;obtain hkn:k<D.n:=C6 hkg J;refine bM (sj O hkn hm.1) λuk G=>?_;refine bM (sj O J hm.2) λug F=>?_;obtain lk:uk.2.length<=120:=s7 (gf O G) (Nat.mul_le_mul_left 2 hn);obtain lg:ug.2.length<=120:=s7 (gf O F) (Nat.mul_le_mul_left 2 hn);obtain hab:D.ab.length<=60:=s7 (zc O) hn;obtain⟨ik,hik⟩:=C0.mp G;obtain⟨ig,hig⟩:=C0.mp F;refine dM (w6 (op:=.is) (v:=.tup [iv k,iv g]) (.var rfl) .cst λ_ q=>⟨rfl,by rw[show cr (V.tup [iv k,iv g]) .none=false from bo.mpr V.noConfusion];exact q⟩) ?_;refine cE (aA (.var rfl) (af _ rfl ?_));have self:∀{H:AH},Ev σ ((((aT ["self","a","b","reason"] [V.ref D.hp,iv a,iv b,rs]).put "merged" (.tup [iv k,iv g])).put "kept" (iv k)).put "gone" (iv g)) H c7 (.ref D.hp):=.var rfl;have ad:∀{H:AH},Ev σ ((((aT ["self","a","b","reason"] [V.ref D.hp,iv a,iv b,rs]).put "merged" (.tup [iv k,iv g])).put "kept" (iv k)).put "gone" (iv g)) H j7 (iv k):=.var rfl;have Y:∀{H:AH},Ev σ ((((aT ["self","a","b","reason"] [V.ref D.hp,iv a,iv b,rs]).put "merged" (.tup [iv k,iv g])).put "kept" (iv k)).put "gone" (iv g)) H j8 (iv g):=.var rfl;refine jG (hU T B2 self (by decide) rfl) B2.frs ((cY (hU T B2 self (by decide) rfl) B2.edg rfl (by rw[A6];exact s7 (I7 hel) (by decide))).bin (w:=iv 1) .cst λ_ q=>q) (z0 hfl (by decide)) ?_;refine cq (B2.frs' (D.frs++[.int (((D.edg++[V.tup [iv a,iv b,rs]]).length:Int)-1)])) λB3 f3=>?_;generalize (H2.set D.fp (.list (D.frs++[.int (((D.edg++[V.tup [iv a,iv b,rs]]).length:Int)-1)])))=H3 at *;obtain e3g:=B3.abl (g,ug) F;obtain hnew:D.wp≠ug.1:=B3.ne (i:=17) rfl (HD.objs_ab hig) (λz=>Lj z);refine vZ (hU T B3 self (by decide) rfl) B3.wait ((hU T B3 self (by decide) rfl).idx Y λ_ q=>eY B3.ab (jV g) (jT O.abk.1 F) q) e3g hnew (by rw[u1,u1];exact s7 (O7 (D9 hwl) lg) (by decide)) ?_;rw[<- B7];refine cq (B3.wait' (D.wait++ug.2)) λB f4=>?_;generalize (H3.set D.wp (.list ((D.wait++ug.2).map iv)))=H4 at *;obtain e4k:=B.abl (k,uk) G;obtain e4g:=B.abl (g,ug) F;obtain abk:D.ap≠uk.1:=B.ne (i:=16) rfl (HD.objs_ab hik) (λz=>EB z);obtain abg:D.ap≠ug.1:=B.ne (i:=16) rfl (HD.objs_ab hig) (λz=>EB z);obtain hal:(D.ab.map λp=>(iv p.1,V.ref p.2.1)).length<2^20:=by rw[u1];exact z0 hab (by decide)
 refine GQ (gM (aA ((hU T B self (by decide) rfl).idx ad λ_ q=>eY B.ab (jV k) (jT O.abk.1 G) q) (gN (k:=.dict) (hU T B self (by decide) rfl) ⟨by decide,(ey D.ap _ rfl B.ab)⟩ (.cons Y .nil) (bF D.ap _ rfl B.ab (.inr (.inr ⟨rfl,(qT _ _ rfl rfl hal (jT O.abk.1 F) (jL _ _ ((p6 _ _ abk.symm).trans e4k) ((p6 _ _ abg.symm).trans e4g) ?_ (λx hx=>?_)))⟩))))))
 .rw[u1,u1];exact s7 (O7 lk lg) (by decide)
 rw[<- B7];obtain hxn:=tA B.ab hx;obtain hxa:D.ap≠x:=aC B.ab hxn;obtain hkm:k∈(D.ab.filter λp=>p.1≠g).map (·.1):=w7.mpr (af (k,uk) (I4.mpr ⟨G,D8 (E9 hkg)⟩) rfl);have x5:∀b y,b≠D.ap->H4 b=some y->((AH.set H4 D.ap (.dict (ddel (D.ab.map λp=>(iv p.1,V.ref p.2.1)) (iv g)))).set x (.list ((uk.2++ug.2).map iv))) b=some y:=λb y hb e=>(p6 _ _ (aC e hxn)).trans ((p6 _ _ hb).trans e);have hd5:((AH.set H4 D.ap (.dict (ddel (D.ab.map λp=>(iv p.1,V.ref p.2.1)) (iv g)))).set x (.list ((uk.2++ug.2).map iv))) D.ap=some (.dict ((D.ab.filter λp=>p.1≠g).map λp=>(iv p.1,V.ref p.2.1))):=by rw[p6 _ _ hxa,AH.set_self,Cd]
 obtain n0:D.hp≠D.ap:=B.ne (i:=0) (j:=16) rfl rfl (by decide);obtain n1:D.hd≠D.ap:=B.ne (i:=1) (j:=16) rfl rfl (by decide);obtain hs:dD ((AH.set H4 D.ap (.dict (ddel (D.ab.map λp=>(iv p.1,V.ref p.2.1)) (iv g)))).set x (.list ((uk.2++ug.2).map iv))) D.hp "Heap" D.hd [("bank",.ref D.bp),("unions",.ref D.up),("edges",.ref D.ep),("forest",.ref D.fp),("known",.ref D.kp),("above",.ref D.ap),("waiting",.ref D.wp)]:=⟨x5 _ _ n0 B.heap.o,x5 _ _ n1 B.heap.d⟩;refine aA (self.attr hs (fH T (by decide)) rfl) (aA ad (af D.ap rfl (.inr (jK _ hd5 (jV k) ?_ ?_))))
 .rw[u1];exact z0 (s7 (N9 _ _) hab) (by decide)
 rw[Ce hkm x (uk.2++ug.2)];refine cq (B.joinAb (x:=x) (H':=AH.set ((AH.set H4 D.ap (.dict (ddel (D.ab.map λp=>(iv p.1,V.ref p.2.1)) (iv g)))).set x (.list ((uk.2++ug.2).map iv))) D.ap (.dict (((D.ab.filter λp=>p.1≠g).map λp=>if p.1=k then(k,x,uk.2++ug.2)else p).map λp=>(iv p.1,V.ref p.2.1)))) k g (uk.2++ug.2) O.abk.1 hxn ((p6 _ _ hxa.symm).trans (AH.set_self _ _ _)) (AH.set_self _ _ _) (λb y hb e=>(p6 _ _ hb).trans (x5 b y hb e))) λB5 f5=>?_;exact bY .cst (q2 k g pk pg uk ug x _ ⟨hkg,J,hke,hge,hm.1,hm.2,hpk,hpg,G,F⟩ ⟨B5.all,B5.nd⟩ ((f1.trans f2).trans (f3.trans (f4.trans f5))))
def tc(f:α->β)(l:List α)(i:Nat)(d:α)(e:β)(h:i<l.length):(l.map f).getD i e=f (l.getD i d):=by rw[C1,C1,B6,E4 h];rfl
def zW(l:List Nat)(i j v d:Nat)(h:i<l.length):(l.set i v).getD j d=if i=j then v else l.getD j d:=by
 rw[C1,C1,J6];by_cases e:i=j
 .subst e;simp[h]
 .simp[e]
theorem hZ{p q:α->Bool}:∀(l:List α),(∀x∈l,p x=true->q x=false)->(l.filter p++l.filter q).Perm (l.filter λx=>p x||q x)
 | [],_=>K6 _
 |a::l,h=>by
  obtain B:=hZ l λx hx=>h x (w9 _ hx);obtain ha:=h a y4;rw[List.filter_cons,List.filter_cons,List.filter_cons];cases hp:p a with
  |true =>rw[ha hp];exact B.cons a
  |false =>
   cases hq:q a with
   |true =>exact(List.perm_middle).trans (B.cons a)
   |false=>exact B
section
variable{g:Nat}{pk pg uk ug:Addr×List Nat}{x:Addr}
def mA(O:D.Ok)(J:fK D a b k g pk pg uk ug)(hi:i<D.n):(bK D a b rs k g pk pg uk ug x).r i=if D.r i=g then k else D.r i:=by show(D.rep.map λy=>if y=g then k else y).getD i 0=_;rw[tc _ _ _ 0 _ (by rw[O.lrep];exact hi)];rfl
def ii(O:D.Ok)(J:fK D a b k g pk pg uk ug):(bK D a b rs k g pk pg uk ug x).roots=D.roots.filter λi=>decide (i≠g):=by
 unfold HD.roots;rw[List.filter_filter];apply Q1;intro i hi;obtain hi:i<D.n:=E3.mp hi;have F:=J.lt;rw[mA (rs:=rs) (x:=x) O J hi];by_cases h:D.r i=g
 .rw[if_pos h];obtain B:¬k=i:=λe=>by subst e;rw[J.rk]at h;exact AF h F
  obtain G:¬(D.r i=i/\i≠g):=λz=>z.2 (by rw[<- z.1,h]);simp only[decide_eq_false B];symm;by_cases e:i=g
  .simp[e]
  .simp[e];exactλz=>G ⟨z,e⟩
 .rw[if_neg h];by_cases e:i=g
  .subst e;exact absurd J.rg h
  .simp[e]
def lX(O:D.Ok)(J:fK D a b k g pk pg uk ug):(D.roots.filter λi=>decide (i≠g)).length+1=D.roots.length:=by
 obtain B:g∈D.roots:=HD.mem_roots.mpr ⟨J.gn,J.rg⟩;obtain nd:D.roots.Nodup:=D.roots_rise.imp λh=>E9 h
 have:D.roots.filter (λi=>decide (i≠g))=D.roots.erase g:=by rw[List.Nodup.erase_eq_filter nd];apply Q1;intro y _;simp[bne_iff_ne];by_cases h:y=g <;> simp[h]
 rw[this,List.length_erase_of_mem B];obtain this:=List.length_pos_of_mem B;exact Lk this
def yg(O:D.Ok)(J:fK D a b k g pk pg uk ug)(i:Nat):(bK D a b rs k g pk pg uk ug x).mem i=(List.range D.n).filter λj=>decide ((if D.r j=g then k else D.r j)=i):=by apply Q1;intro j B;rw[mA (rs:=rs) (x:=x) O J (E3.mp B)]
end
end
section
noncomputable abbrev GZ:=List (Nat×Addr×List Nat)
noncomputable def sg(l:GZ):Nat:=(l.map λp=>p.2.2.length).sum
theorem iZ(p:Nat×Addr×List Nat)(l:GZ):sg (p::l)=p.2.2.length+sg l:=by unfold sg;rw[C4,List.sum_cons]
theorem qN:∀{l:GZ}{g:Nat}{u:Addr×List Nat},(l.map (·.1)).Nodup->(g,u)∈l->sg (l.filter λp=>p.1≠g)+u.2.length=sg l
 | [],_,_,_,h=>absurd h y9
 |p::l,g,u,nd,h=>by
  rw[C4,C8]at nd;rw[List.filter_cons,iZ];rcases A4.mp h with e|h
  .subst e
   have:l.filter (λp=>decide (p.1≠g))=l:=by rw[List.filter_eq_self];intro q hq;obtain this:q.1≠g:=λe=>nd.1 (w7.mpr ⟨q,hq,e⟩);simp[this]
   rw[this];simp;exact Ll
  .obtain B:p.1≠g:=λe=>nd.1 (w7.mpr (af (g,u) h e.symm));obtain F:=qN nd.2 h;simp only[B,ne_eq,not_false_eq_true,decide_true,if_true,iZ];simp only[ne_eq]at F;exact Lm F
theorem xy:∀{l:GZ}{k:Nat}{u:Addr×List Nat}(x:Addr)(ns:List Nat),(l.map (·.1)).Nodup->(k,u)∈l->sg (l.map λp=>if p.1=k then(k,x,ns)else p)+u.2.length=sg l+ns.length
 | [],_,_,_,_,_,h=>absurd h y9
 |p::l,k,u,x,ns,nd,h=>by
  rw[C4,C8]at nd;rw[C4,iZ,iZ];rcases A4.mp h with e|h
  .subst e
   have:(l.map λp=>if p.1=k then(k,x,ns)else p)=l:=by refine(G3 λq hq=>?_).trans (List.map_id l);obtain this:q.1≠k:=λe=>nd.1 (w7.mpr (af q hq e));rw[if_neg this];rfl
   rw[this];simp;exact Ln
  .have B:p.1≠k:=λe=>nd.1 (w7.mpr (af (k,u) h e.symm));have F:=xy x ns nd.2 h;rw[if_neg B];exact Lp F
def qu(ab:GZ)(k g:Nat)(x:Addr)(ns:List Nat):(HD.abJoin ab k g x ns).map (·.1)=(ab.filter λp=>p.1≠g).map (·.1):=by
 unfold HD.abJoin;rw[I8];apply G3;intro p _;show(if p.1=k then(k,x,ns)else p).1=p.1;split
 .rename_i h;exact h.symm
 .rfl
variable{D:HD}{g:Nat}{pk pg uk ug:Addr×List Nat}{x:Addr}
def Ab(O:D.Ok)(J:fK D a b k g pk pg uk ug):(bK D a b rs k g pk pg uk ug x).Ok:=by
 obtain hn:D.n<=60:=O.nz;have ad:k<D.n:=C6 J.lt J.gn;have Y:=λ(i:Nat)(hi:i<D.n)=>mA (rs:=rs) (x:=x) O J hi;have G:=J.lt;obtain B:(bK D a b rs k g pk pg uk ug x).roots.length+1=D.roots.length:=by rw[ii O J];exact lX O J
 obtain a1:=gf O J.ug;obtain a0:(k,uk)∈D.ab.filter λp=>decide (p.1≠g):=I4.mpr ⟨J.uk,by simp;exact lS G⟩;obtain as:((D.ab.filter λp=>decide (p.1≠g)).map (·.1)).Nodup:=(List.filter_sublist.map _).nodup O.abk.1;refine⟨O.nz,O.lws,O.lds,?_,?_,?_,O.kids,O.ndn,O.nums,λi hi=>?_,λi hi=>?_,λi p hp hr=>?_,O.known,⟨?_,λi=>?_⟩,λp hp y hy=>?_,?_,λy hy=>?_,?_,(cO ?_ ?_ ?_),O.Mz⟩
 .show(D.par.set g k).length=D.n;rw[List.length_set];exact O.lpar
 .show(D.lots.set k _).length=D.n;rw[List.length_set];exact O.llots
 .show(D.rep.map _).length=D.n;rw[u1];exact O.lrep
 .rw[Y i hi];refine cq (O.rle i hi) λr1 r2=>?_;by_cases h:D.r i=g
  .rw[if_pos h,Y k ad,J.rk,if_neg (lS G)];exact⟨by exact Lq h r1 G,rfl⟩
  .rw[if_neg h,Y _ (oA O hi),r2,if_neg h];exact⟨r1,rfl⟩
 .have hp:(bK D a b rs k g pk pg uk ug x).pr i=if g=i then k else D.pr i:=zW _ _ _ _ _ (by rw[O.lpar];exact J.gn)
  refine cq (O.pr i hi) λp1 p2=>?_;rw[hp,Y i hi];by_cases h:g=i
  .subst h;rw[if_pos rfl,if_pos J.rg];refine⟨λe=>e,λ_=>⟨G,?_⟩⟩;rw[Y k ad,J.rk,if_neg (by assumption)]
  .rw[if_neg h];refine⟨λe=>?_,λe=>?_⟩
   .rw[p1 e,if_neg (λz=>h z.symm)]
   .refine cq (p2 e) λp3 p4=>?_;have av:i<D.n:=hi;exact⟨p3,by rw[Y _ (C6 p3 av),p4]⟩
 .have hi:i<D.n:=by
   have:=(z5.mp hp).1
   obtain Q:(bK D a b rs k g pk pg uk ug x).lots.length=D.n:=by show(D.lots.set k _).length=D.n;rw[List.length_set];exact O.llots
   rw[Q]at this;exact this
  have F:(D.lots.set k (pk.1,pk.2++pg.2))[i]?=some p:=hp;rw[Y i hi]at hr;rw[yg O J];rw[J6]at F;split at F
  .rename_i e;subst e;split at F
   .obtain rfl:=w8 F;refine((O.lots k pk J.pk J.rk).append (O.lots g pg J.pg J.rg)).trans ?_;refine(hZ _ λy _ h=>?_).trans (List.Perm.of_eq ?_)
    .simp only[decide_eq_true_eq]at h;simp;exact Lr h G
    .apply Q1;intro y _;by_cases h:D.r y=g
     .simp[h]
     .simp[h]
   .exact ns F
  .rename_i e;obtain ar:D.r i≠g:=λz=>by rw[if_pos z]at hr;exact e hr
   rw[if_neg ar]at hr;refine(O.lots i p F hr).trans (List.Perm.of_eq ?_);apply Q1;intro y _;by_cases h:D.r y=g
   .obtain this:¬g=i:=λz=>ar (by rw[<- z];exact J.rg);simp[h,this,e]
   .simp[h]
 .show((HD.abJoin D.ab k g x (uk.2++ug.2)).map (·.1)).Nodup;rw[qu];exact as
 .show i∈(HD.abJoin D.ab k g x (uk.2++ug.2)).map (·.1)↔_;rw[qu,ii O J,I4,<- O.abk.2 i];simp only[List.mem_map,List.mem_filter,decide_eq_true_eq];constructor
  .rintro⟨p,⟨Z,Q⟩,rfl⟩;exact⟨⟨p,Z,rfl⟩,Q⟩
  .rintro⟨⟨p,Z,rfl⟩,Q⟩;exact(af p ⟨Z,Q⟩ rfl)
 .have hp:p∈HD.abJoin D.ab k g x (uk.2++ug.2):=hp;refine ah (w7.mp hp) λq hq aX=>?_;subst aX;by_cases h:q.1=k
  .rw[if_pos h]at hy;rcases C2.mp hy with hy|hy
   .exact O.abm _ J.uk y hy
   .exact O.abm _ J.ug y hy
  .rw[if_neg h]at hy;exact O.abm q (I4.mp hq).1 y hy
 .show sg (HD.abJoin D.ab k g x (uk.2++ug.2))<=2*D.n;obtain Z:=qN O.abk.1 J.ug;obtain Q:=xy x (uk.2++ug.2) as a0;obtain h3:sg D.ab<=2*D.n:=O.tot;simp only[List.length_append]at Q;exact Ls Q Z h3
 .have hy:y∈D.wait++ug.2:=hy;rcases C2.mp hy with hy|hy
  .exact O.wait y hy
  .exact O.abm _ J.ug y hy
 .have:=O.cnt
  show D.known.length+(D.wait++ug.2).length+200*(bK D a b rs k g pk pg uk ug x).roots.length<=D.n+200*D.n;rw[A6];exact Lu B this a1 hn
 .have:=O.edg.1
  show(D.edg++[V.tup [iv a,iv b,rs]]).length+(bK D a b rs k g pk pg uk ug x).roots.length<=D.n+D.M;rw[A6,J8];exact Lv B this
 .have:=O.edg.2.1
  show(D.frs++[_]).length+(bK D a b rs k g pk pg uk ug x).roots.length<=D.n;rw[A6,J8];exact EC B this
 .have:=O.edg.2.2
  show(D.mrg++[_]).length+(bK D a b rs k g pk pg uk ug x).roots.length<=D.n;rw[A6,J8];exact EC B this
end
noncomputable def cn(N:List Nd)(f:Nat->Nat)(i:Nat):Nd:=((N.getD i ("",[])).1,(N.getD i ("",[])).2.map f)
def Cong(N:List Nd)(P:List (Nat×Nat))(f:Nat->Nat):Prop:=(∀p∈P,f p.1=f p.2)/\∀i j,i<N.length->j<N.length->cn N f i=cn N f j->f i=f j
def HD.kn(D:HD)(nd:Nd)(m:Nat):Prop:=ax D.kv (ag nd)=some (iv m)
structure Cl(D:HD)(P:List (Nat×Nat))(x u:List Nat):Prop where
 fit:∀f,Cong D.nodes P f->∀i,i<D.n->f (D.r i)=f i
 knw:∀f,Cong D.nodes P f->∀p∈D.known,(p.1.1,p.1.2.map f)=cn D.nodes f p.2
 pn:∀p∈P,p.1<D.n/\p.2<D.n
 told:∀p∈P,D.r p.1=D.r p.2
 S:∀i,i<D.n->i∈x\/i∈D.wait\/∃m,D.kn (D.canon i) m/\m<D.n/\D.r m=D.r i
 U:∀i,i<D.n->i∈u\/∀k∈D.kids i,∃p∈D.ab,p.1=D.r k/\i∈p.2.2
section
variable{D:HD}{x u:List Nat}
theorem Cl.more{y:List Nat}(C:Cl D P x u)(h:∀i∈x,i∈y):Cl D P y u:=⟨C.fit,C.knw,C.pn,C.told,λi hi=>(C.S i hi).imp (h i) id,C.U⟩
def FF(h:D.kn nd m)(h':D.kn nd k):m=k:=eI (sm h h')
theorem Cl.cong(C:Cl D P [] [])(h:D.wait=[]):Cong D.nodes P D.r:=⟨C.told,λi j hi O e=>by have S:∀i,i<D.n->∃m,D.kn (D.canon i) m/\m<D.n/\D.r m=D.r i:=λi hi=>(C.S i hi).elim (λz=>absurd z y9) λz=>z.elim (λz=>by rw[h]at z;exact absurd z y9) id;refine bR (S i hi) λm F _ G=>?_;refine bR (S j O) λk B _ J=>?_;have e':D.canon i=D.canon j:=e;rw[<- e']at B;rw[<- G,FF F B,J]⟩
def DP{f:Nat->Nat}(O:D.Ok)(h:∀i,i<D.n->f (D.r i)=f i)(hi:i<D.n):((D.kids i).map D.r).map f=(D.kids i).map f:=by rw[I8];exact G3 λk hk=>h k (C6 (cT O hi k hk) hi)
def Cl.hit(C:Cl D P x u)(O:D.Ok)(ha:a<D.n)(h:(D.canon a,m)∈D.known){f:Nat->Nat}(F:Cong D.nodes P f):f m=f a:=by refine F.2 m a (O.known _ h) ha ?_;rw[<- C.knw f F _ h];exact B9 (Prod.mk _) (DP O (C.fit f F) ha)
variable{g:Nat}{pk pg uk ug:Addr×List Nat}
def qV{ab:List (Nat×Addr×List Nat)}(nd:(ab.map (·.1)).Nodup){p q:Nat×Addr×List Nat}(hp:p∈ab)(hq:q∈ab)(e:p.1=q.1):p=q:=by
 obtain⟨i,hi⟩:=C0.mp hp;obtain⟨j,G⟩:=C0.mp hq;obtain F:(ab.map (·.1))[i]?=some p.1:=by rw[B6,hi];rfl
 have J:(ab.map (·.1))[j]?=some p.1:=by rw[B6,G,e];rfl
 obtain B:=(SK (z5.mp F).1 nd).mp (F.trans J.symm);subst B;exact w8 (hi.symm.trans G)
theorem th(O:D.Ok)(J:fK D a b k g pk pg uk ug){Y:List (Nat×Nat)}(ha:a<D.n)(hb:b<D.n)(C:Cl D P x [])(hP:∀p∈P,p∈Y)(ad:∀p∈Y,p∈P\/p=(a,b))(hf:∀f,Cong D.nodes Y f->f a=f b)(hx:∀i∈x,i=b/\D.kn (D.canon b) a) : Cl (bK D a b rs k g pk pg uk ug y) Y [] []:=by
 have Q:=λ(i:Nat)(hi:i<D.n)=>mA (rs:=rs) (x:=y) O J hi;have sub:∀f,Cong D.nodes Y f->Cong D.nodes P f:=λf F=>⟨λp hp=>F.1 p (hP p hp),F.2⟩;have Z:∀i j,i<D.n->j<D.n->D.r i=D.r j->(bK D a b rs k g pk pg uk ug y).r i=(bK D a b rs k g pk pg uk ug y).r j:=λi j hi hj e=>by rw[Q i hi,Q j hj,e]
 have ra:(bK D a b rs k g pk pg uk ug y).r a=k/\(bK D a b rs k g pk pg uk ug y).r b=k:=by
  rw[Q a ha,Q b hb];have B:=J.ke;have G:=J.ge;have h3:=J.lt;rcases D3 (D.r a) (D.r b)with h|h
  .rw[Q7 h]at B;rw[M6 h]at G;rw[<- B,<- G,if_pos rfl,if_neg (E9 h3)];exact⟨rfl,rfl⟩
  .rw[P9 h]at B;rw[M0 h]at G;rw[<- B,<- G,if_pos rfl,if_neg (E9 h3)];exact⟨rfl,rfl⟩
 refine⟨λf F i hi=>?_,λf F=>C.knw f (sub f F),λp hp=>?_,λp hp=>?_,λi hi=>.inr ?_,λi hi=>.inr λq hq=>?_⟩
 .have fit:=C.fit f (sub f F);have hi:i<D.n:=hi;rw[Q i hi];by_cases h:D.r i=g
  .rw[if_pos h];obtain e:=hf f F;rw[<- fit a ha,<- fit b hb]at e;rw[<- fit i hi,h];obtain B:=J.ke;obtain G:=J.ge;rcases D3 (D.r a) (D.r b)with h|h
   .rw[Q7 h]at B;rw[M6 h]at G;rw[B,G];exact e
   .rw[P9 h]at B;rw[M0 h]at G;rw[B,G];exact e.symm
  .rw[if_neg h];exact fit i hi
 .exact(ad p hp).elim (C.pn p) λe=>e▸⟨ha,hb⟩
 .refine(ad p hp).elim (λh=>Z _ _ (C.pn p h).1 (C.pn p h).2 (C.told p h)) λe=>?_;rw[e];exact ra.1.trans ra.2.symm
 .have hi:i<D.n:=hi;have key:∀m,D.kn (D.canon i) m->m<D.n->(bK D a b rs k g pk pg uk ug y).r m=(bK D a b rs k g pk pg uk ug y).r i->i∈(bK D a b rs k g pk pg uk ug y).wait\/∃m,(bK D a b rs k g pk pg uk ug y).kn ((bK D a b rs k g pk pg uk ug y).canon i) m/\m<D.n/\(bK D a b rs k g pk pg uk ug y).r m=(bK D a b rs k g pk pg uk ug y).r i:=λm B hm G=>by
   by_cases hz:∃q∈D.kids i,D.r q=g
   .refine ah hz λq hq e=>.inl ?_;obtain U:=(C.U i hi).elim (λz=>absurd z y9) id;refine bR (U q hq) λp hp e2 hm=>?_;obtain as:p=(g,ug):=qV O.abk.1 hp J.ug (e2.trans e);rw[as]at hm;exact C9 _ hm
   .obtain ec:(bK D a b rs k g pk pg uk ug y).canon i=D.canon i:=B9 (Prod.mk _) (G3 λq hq=>by rw[Q q (C6 (cT O hi q hq) hi),if_neg λe=>hz (af q hq e)]);exact .inr (aK m (by rw[ec];exact B) hm G)
  rcases C.S i hi with h|h|⟨m,B,hm,G⟩
  .refine cq (hx i h) λe e2=>?_;subst e;exact key a e2 ha (ra.1.trans ra.2.symm)
  .exact .inl (E0 _ h)
  .exact key m B hm (Z _ _ hm hi G)
 .have hi:i<D.n:=hi;obtain hqn:q<D.n:=C6 (cT O hi q hq) hi;have U:=(C.U i hi).elim (λz=>absurd z y9) id;refine bR (U q hq) λp hp e hm=>?_;rw[Q q hqn];have ar:(k,uk)∈D.ab.filter λp=>decide (p.1≠g):=I4.mpr ⟨J.uk,D8 (E9 J.lt)⟩;by_cases h:D.r q=g
  .have e2:p=(g,ug):=qV O.abk.1 hp J.ug (e.trans h);rw[e2]at hm;rw[if_pos h];exact(aK (k,y,uk.2++ug.2) (w7.mpr (af (k,uk) ar (if_pos rfl))) rfl (C9 _ hm))
  .rw[if_neg h];by_cases h':D.r q=k
   .obtain e2:p=(k,uk):=qV O.abk.1 hp J.uk (e.trans h');rw[e2]at hm;exact(aK (k,y,uk.2++ug.2) (w7.mpr (af (k,uk) ar (if_pos rfl))) h'.symm (E0 _ hm))
   .exact(aK p (w7.mpr (af p (I4.mpr ⟨hp,D8 (by rw[e];exact h)⟩) (if_neg (by rw[e];exact h')))) e hm)
end
structure Grow(D D':HD)(H H':AH):Prop where
 ok:D'.Ok
 at_:D'.At H'
 frm:Frm H H' D.adr D'.adr
 hp:D'.hp=D.hp
 nodes:D'.nodes=D.nodes
 M:D'.M=D.M
theorem Grow.n{D:HD}{H:AH}(g:Grow D D' H H'):D'.n=D.n:=B9 List.length g.nodes
def Grow.refl{D:HD}{H:AH}(O:D.Ok)(A:D.At H)(x:Ext H H'):Grow D D H H':=⟨O,A.ext x,x.frm,rfl,rfl,rfl⟩
theorem Grow.trans{D F:HD}{H H'':AH}(g:Grow D D' H H')(B:Grow D' F H' H''):Grow D F H H'' :=⟨B.ok,B.at_,g.frm.trans B.frm,B.hp.trans g.hp,B.nodes.trans g.nodes,B.M.trans g.M⟩
section
variable{D:HD}{g:Nat}{pk pg uk ug:Addr×List Nat}{x:Addr}
def nI(O:D.Ok)(J:fK D a b k g pk pg uk ug){H:AH}(A:(bK D a b rs k g pk pg uk ug x).At H')(f:Frm H H' D.adr (bK D a b rs k g pk pg uk ug x).adr):Grow D (bK D a b rs k g pk pg uk ug x) H H' :=⟨Ab O J,A,f,rfl,rfl,rfl⟩
def vg(O:D.Ok)(J:fK D a b k g pk pg uk ug):(bK D a b rs k g pk pg uk ug x).roots.length+1=D.roots.length:=by rw[ii O J];exact lX O J
noncomputable def HD.work(D:HD):Nat:=D.roots.length*1000+D.wait.length
def vh(O:D.Ok)(J:fK D a b k g pk pg uk ug):(bK D a b rs k g pk pg uk ug x).work<D.work:=by
 obtain B:=vg (rs:=rs) (x:=x) O J;obtain F:=gf O J.ug;obtain G:=O.nz;have Q:(bK D a b rs k g pk pg uk ug x).wait.length=D.wait.length+ug.2.length:=by show(D.wait++ug.2).length=_;simp
 exact Lw F Q G B
end
section
variable{H:AH}{Q:b8}{D:HD}
theorem eW:∀(l:List (Nd×Nat))(nd:Nd),(∃i,(nd,i)∈l/\ax (l.map λp=>(ag p.1,iv p.2)) (ag nd)=some (iv i))\/ax (l.map λp=>(ag p.1,iv p.2)) (ag nd)=none
 | [],nd=>.inr rfl
 |p::l,nd=>by
  rw[C4,aM];by_cases h:p.1=nd
  .subst h;exact .inl ⟨p.2,y4,by rw[if_pos (bE _)]⟩
  .rw[if_neg (by rw[aO];exactλz=>h (gc z))];rcases eW l nd with⟨i,F,B⟩|B
   .exact .inl ⟨i,w9 _ F,B⟩
   .exact .inr B
def HD.Ok.addKnown(O:D.Ok)(ha:a<D.n)(B:D.known.length+D.wait.length+1+200*D.roots.length<=D.n+200*D.n)(nd:Nd):(D.sKnown (D.known++[(nd,a)])).Ok:=by
 refine⟨O.nz,O.lws,O.lds,O.lpar,O.llots,O.lrep,O.kids,O.ndn,O.nums,O.rle,O.pr,O.lots,λp hp=>?_,O.abk,O.abm,O.tot,O.wait,?_,O.edg,O.Mz⟩
 .rcases C2.mp hp with h|h
  .exact O.known p h
  .rw[u5.mp h];exact ha
 .show(D.known++[(nd,a)]).length+D.wait.length+200*D.roots.length<=D.n+200*D.n;rw[A6];exact Ly B
def pB(D:HD)(nd:Nd):keyFits D.kv (ag nd):=by obtain key:=bL nd;refine⟨by rw[key.2.2];decide,λp hp=>?_⟩;refine ah (w7.mp hp) λx _ aX=>?_;subst aX;rw[key.2.2];exact(bL _).2.2
theorem dR{kvs ws:ba}{k v:V}(h:ax kvs k=some v):ax (kvs++ws) k=some v:=by
 induction kvs with
 |nil=>exact ns h
 |cons p r F =>
  obtain⟨a,b⟩:=p;rw[aM]at h;rw[List.cons_append,aM];split at h
  .rename_i B;rw[if_pos B];exact h
  .rename_i B;rw[if_neg B];exact F h
theorem Cl.addKnown{x:List Nat}(O:D.Ok)(C:Cl D P x [])(ha:a<D.n)(Q:ax D.kv (ag (D.canon a))=none):Cl (D.sKnown (D.known++[(D.canon a,a)])) P x []:=by
 obtain B:(D.sKnown (D.known++[(D.canon a,a)])).kv=D.kv++[(ag (D.canon a),iv a)]:=by show(D.known++[(D.canon a,a)]).map _=_;rw[B7];rfl
 refine⟨C.fit,λf F p hp=>?_,C.pn,C.told,λi hi=>(C.S i hi).imp id λz=>z.imp id λz=>bR z λm G hm J=>?_,C.U⟩
 .rcases C2.mp hp with h|h
  .exact C.knw f F p h
  .rw[u5.mp h];exact B9 (Prod.mk _) (DP O (C.fit f F) ha)
 .refine(aK m ?_ hm J);show ax (D.sKnown (D.known++[(D.canon a,a)])).kv _=_;rw[B];exact dR G
def FH(h:D.kn nd m):(nd,m)∈D.known:=by
 rcases eW D.known nd with⟨i,hi,e⟩|e
 .have e':ax D.kv (ag nd)=some (iv i):=e;exact eI (sm e' h)▸hi
 .exact nn (show ax D.kv (ag nd)=none from e) h
theorem Cl.drop{o:Nat}(C:Cl D P [a] [])(hk:D.kn (D.canon a) o)(B:o<D.n)(e:D.r o=D.r a):Cl D P [] []:=⟨C.fit,C.knw,C.pn,C.told,λi hi=>.inr ((C.S i hi).elim (λz=>by rw[u5.mp z];exact .inr (aK o hk B e)) id),C.U⟩
theorem pS(T:Txt σ)(A:D.At H)(O:D.Ok)(ha:a<D.n)(sl:D.known.length+D.wait.length+1+200*D.roots.length<=D.n+200*D.n) (q:∀H' D',Grow D D' H H'->(∀P,Cl D P [a] []->Cl D' P [] [])->(D'.work<D.work\/D'.work=D.work/\D'.wait.length=D.wait.length)->Q .none H'):MCall σ 4 "Heap" "look_at" [.ref D.hp,iv a] H Q:=by
 refine aE T.ok T.Heap_look_at rfl ?_;obtain hn:D.n<=60:=O.nz;obtain hroots:=D.roots_len;refine(af _ rfl (mW A.heap (fH T (by decide)) rfl (af .dict ⟨by decide,(ey D.kp _ rfl A.known)⟩ (af _ rfl (af _ (cC A.heap rfl T.Heap_node.some) (af _ rfl (zr T A O ha λH1 x1=>(af _ rfl ?_))))))));have A1:=A.ext x1;obtain hkl:D.kv.length<2^20:=by unfold HD.kv;rw[u1];exact LA sl hn
 have go:∀(G:HD)(H2:AH)(o:Nat),Grow D G H H2->o<D.n->G.roots=D.roots->G.wait=D.wait->G.hp=D.hp->G.kn (G.canon a) o->(∀P,Cl D P [a] []->Cl G P [a] []) ->
   ∃l':Loc,gZ H2 (.nm "other") (iv o) (aT ["self","n"] [.ref D.hp,iv a])=some l'/\az σ 3 [.if1 (.cmp1 .ne (.meth c7 "find" (.cons n7 .nil)) (.meth c7 "find" (.cons d8 .nil))) [.expr (.meth c7 "join" (.cons n7 (.cons d8 (.cons (.tup (.cons (.cst (.str "like")) .nil)) .nil))))] []] l' H2 (kC Q):=by
  intro G H2 o g1 ho er ew ehp hk c1;refine(af _ rfl ?_);obtain hn1:G.n=D.n:=g1.n;have hw:G.work=D.work:=by unfold HD.work;rw[er,ew]
  have ho1:o<G.n:=by rw[hn1];exact ho
  have Z:a<G.n:=by rw[hn1];exact ha
  obtain B:=g1.at_;obtain O1:=g1.ok;obtain Y:((aT ["self","n"] [V.ref D.hp,iv a]).put "other" (iv o)) "self"=some (.ref G.hp):=by rw[ehp];rfl
  refine(af _ Y (af _ (cC B.heap rfl T.Heap_find.some) (af _ rfl ((jQ T B O1 ho1 ?_).room ED))));refine(af _ Y (af _ (cC B.heap rfl T.Heap_find.some) (af _ rfl ((jQ T B O1 Z (nV _ _ _ _ ?_)).room ED))));by_cases he:G.r o=G.r a
  .rw[he,D8 rfl];refine jc rfl ?_;exact q H2 G g1 (λP C=>(c1 P C).drop hk ho1 he) (.inr ⟨hw,by rw[ew]⟩)
  .refine gW (Pz (EA he)) ?_;refine(af _ Y (af _ (cC B.heap rfl T.Heap_join.some) (af _ rfl (af _ rfl (zp T B O1 ho1 Z (λz=>absurd z he) λk g pk pg uk ug x H3 J B3 f3=>⟨trivial,?_⟩)))));exact q H3 _ (g1.trans (nI O1 J B3 f3)) (λP C=>th O1 J ho1 Z (c1 P C) (λ_ h=>h) (λ_ h=>.inl h) (λf F=>(c1 P C).hit O1 Z (FH hk) F) λi hi=>⟨u5.mp hi,hk⟩) (.inl (by rw[<- hw];exact vh O1 J))
 refine(bF D.kp _ rfl A1.known (.inr (.inl ⟨rfl,(jL _ _ rfl (pB D _) hkl ?_)⟩)));rcases eW D.known (D.canon a)with⟨i,hi,e⟩|e
 .have e':ax D.kv (ag (D.canon a))=some (iv i):=e;rw[e'];exact go D H1 i (Grow.refl O A x1) (O.known _ hi) rfl rfl rfl e' λ_ C=>C
 .have e':ax D.kv (ag (D.canon a))=none:=e;rw[e'];refine cq (A1.known' (D.known++[(D.canon a,a)])) λB1 f1=>?_;obtain ekv:(D.known++[(D.canon a,a)]).map (λp=>(ag p.1,iv p.2))=D.kv++[(ag (D.canon a),iv a)]:=by unfold HD.kv;simp
  rw[ekv]at B1 f1;exact go (D.sKnown (D.known++[(D.canon a,a)])) _ a ⟨O.addKnown ha sl _,B1,x1.frm.trans f1,rfl,rfl,rfl⟩ ha rfl rfl rfl (by show ax ((D.known++[(D.canon a,a)]).map (λp=>(ag p.1,iv p.2))) (ag (D.canon a))=_;rw[ekv,cP e',aM,if_pos (bE _)]) λP C=>C.addKnown O ha e'
end
section
variable{H:AH}{Q:b8}{D:HD}
def HD.Ok.pop(O:D.Ok){ws:List Nat}{x:Nat}(e:D.wait=ws++[x]):(D.sWait ws).Ok:=by
 obtain hc:=O.cnt;obtain hl:D.wait.length=ws.length+1:=by rw[e];simp
 refine⟨O.nz,O.lws,O.lds,O.lpar,O.llots,O.lrep,O.kids,O.ndn,O.nums,O.rle,O.pr,O.lots,O.known,O.abk,O.abm,O.tot,λy hy=>?_,?_,O.edg,O.Mz⟩
 .exact O.wait y (by rw[e];exact E0 _ hy)
 .show D.known.length+ws.length+200*D.roots.length<=D.n+200*D.n;exact LB hl hc
def GR{d:Nat}:b+a+200*c<=d+200*d->d<=60->a<2^20:=by exact Os
def Cl.pop(C:Cl D P [] []){ws:List Nat}{x:Nat}(e:D.wait=ws++[x]):Cl (D.sWait ws) P [x] []:=⟨C.fit,C.knw,C.pn,C.told,λi hi=>(C.S i hi).elim (λz=>absurd z y9) λz=>z.elim (λz=>by rw[e]at z;exact(C2.mp z).elim (λz=>.inr (.inl z)) .inl) λz=>.inr (.inr z),C.U⟩
def zu(T:Txt σ)(A:D.At H)(O:D.Ok)(q:∀H' D',Grow D D' H H'->(∀P,Cl D P [] []->Cl D' P [] [])->D'.wait=[]->Q .none H'):MCall σ 5 "Heap" "settle" [.ref D.hp] H Q:=by
 refine aE T.ok T.Heap_settle rfl (vU (λm l H'=>l "self"=some (.ref D.hp)/\∃D',Grow D D' H H'/\(∀P,Cl D P [] []->Cl D' P [] [])/\m=D'.work) _ ⟨rfl,(aK D (Grow.refl O A (w3 _)) (λ_ C=>C) rfl)⟩ ?_);rintro m l H1 ⟨hs,F,Z,c1,rfl⟩;obtain Y:=Z.at_;have J:=Z.ok;have hz:F.wait.length<2^20:=GR J.cnt J.nz;have ad:l "self"=some (.ref F.hp):=by rw[Z.hp];exact hs
 obtain ew:=hU (f:="waiting") T Y (.var ad) (by decide) rfl;have hc:EvT σ l H1 (.cmp1 .gt (.prim .len (.attr c7 "waiting")) c8) (decide ((0:Int)<F.wait.length)):=.cmp (cY ew Y.wait (u1 _) (s7 (D9 hz) (by decide))) .cst λ_ q=>(bF _ _ rfl rfl q);rcases List.eq_nil_or_concat F.wait with e|⟨ws,x,e⟩
 .rw[E2 (by rw[e];decide)]at hc;exact .inr ⟨hc,q H1 F Z c1 e⟩
 .rw[List.concat_eq_append]at e;have G:F.wait.length=ws.length+1:=by rw[e,A6];rfl
  rw[D8 (by rw[G];exact Int.natCast_pos.mpr (Q3 _))]at hc;refine .inl ⟨hc,λK' k _=>gJ (Bs (.var ad) Y.heap rfl T.Heap_look_at.some (aq (GS ew (by rw[Y.wait,e,B7];rfl) (by rw[u1];exact C6 (by rw[G];exact K3 _) hz) ?_)))⟩;refine cq (Y.wait' ws) λB f=>?_;obtain ar:(F.sWait ws).work+1=F.work:=LC G;refine(pS (D:=F.sWait ws) T B (J.pop e) (J.wait x (by rw[e];exact C9 _ (.head _))) (LD G J.cnt) λH2 D2 g2 c2 hw=>⟨trivial,k D2.work _ _ (LF hw ar) ⟨hs,(aK D2 (Z.trans (Grow.trans ⟨J.pop e,B,f,rfl,rfl,rfl⟩ g2)) (λP C=>c2 P ((c1 P C).pop e)) rfl)⟩⟩)
def HD.Ok.up(O:D.Ok)(h:D.M<100):(D.sM (D.M+1)).Ok:=by obtain B:=O.edg;refine⟨O.nz,O.lws,O.lds,O.lpar,O.llots,O.lrep,O.kids,O.ndn,O.nums,O.rle,O.pr,O.lots,O.known,O.abk,O.abm,O.tot,O.wait,O.cnt,⟨?_,O.edg.2⟩,h⟩;exact LG B.1
def Cl.tell(C:Cl D P [] [])(ha:a<D.n)(B:b<D.n)(e:D.r a=D.r b):Cl D ((a,b)::P) [] [] :=
 have F:∀{f},Cong D.nodes ((a,b)::P) f->Cong D.nodes P f:=λF=>⟨λp hp=>F.1 p (w9 _ hp),F.2⟩
 ⟨λf h=>C.fit f (F h),λf h=>C.knw f (F h),List.forall_mem_cons.mpr ⟨⟨ha,B⟩,C.pn⟩,List.forall_mem_cons.mpr ⟨e,C.told⟩,C.S,C.U⟩
def zo(T:Txt σ)(A:D.At H)(O:D.Ok)(ha:a<D.n)(B:b<D.n)(hM:D.M<100)(q:∀H' D' v,Grow (D.sM (D.M+1)) D' H H'->(∀P,Cl D P [] []->Cl D' ((a,b)::P) [] [])->v=.bool true\/v=.bool false->Q v H'):MCall σ 4 "Heap" "merge" [.ref D.hp,iv a,iv b,rs] H Q:=by
 refine aE T.ok T.Heap_merge rfl ?_;obtain A0:(D.sM (D.M+1)).At H:=⟨A.all,A.nd⟩;obtain Z:=O.up hM;refine(af _ rfl (af _ (cC A.heap rfl T.Heap_join.some) (af _ rfl (af _ rfl (af _ rfl (zp (D:=D.sM (D.M+1)) T A0 Z ha B (λG H1 Y f1=>?_) λk g pk pg uk ug x H1 J Y f1=>?_))))))
 .refine q H1 _ _ ⟨?_,Y,f1,rfl,rfl,rfl⟩ (λP C=>⟨(C.tell ha B G).fit,(C.tell ha B G).knw,(C.tell ha B G).pn,(C.tell ha B G).told,C.S,C.U⟩) (.inr rfl);refine⟨O.nz,O.lws,O.lds,O.lpar,O.llots,O.lrep,O.kids,O.ndn,O.nums,O.rle,O.pr,O.lots,O.known,O.abk,O.abm,O.tot,O.wait,O.cnt,⟨?_,O.edg.2⟩,hM⟩;obtain G:=O.edg;show(D.edg++[_]).length+D.roots.length<=D.n+(D.M+1);rw[A6];exact LH G.1
 .exact q H1 _ _ (nI (D:=D.sM (D.M+1)) Z J Y f1) (λP C=>th (D:=D.sM (D.M+1)) Z J ha B ⟨C.fit,C.knw,C.pn,C.told,C.S,C.U⟩ (λp h=>w9 _ h) (λp h=>(A4.mp h).symm) (λf F=>F.1 _ y4) λi h=>absurd h y9) (.inl rfl)
end
section
variable{w:Int}{x:Addr}
noncomputable def fQ(D:HD)(nd:Nd)(w d:Int)(x y:Addr):HD :=((((((((D.sNums (D.nums++[(ag nd,iv D.n)])).sNodes (D.nodes++[nd])).sWs (D.ws++[w])).sDs (D.ds++[d])).sPar (D.par++[D.n])).sLots (D.lots++[(x,[D.n])])).sAb (D.ab++[(D.n,y,[])])).sRep (D.rep++[D.n]))
def sZ(l:List Nat)(v i d:Nat):(l++[v]).getD i d=if i=l.length then v else l.getD i d:=by
 rw[C1,C1,List.getElem?_append];by_cases h:i<l.length
 .rw[if_pos h,if_neg (lS h)]
 .rw[if_neg h];by_cases e:i=l.length
  .subst e;simp
  .rw[if_neg e,Q8 (by simp;exact LJ e h),Q8 (Ef h)]
section
variable{D:HD}{w d:Int}{x:Addr}
def kD:(fQ D nd w d x y).n=D.n+1:=by show(D.nodes++[nd]).length=_;simp
theorem jt(O:D.Ok)(i:Nat):(fQ D nd w d x y).r i=if i=D.n then D.n else D.r i:=by show(D.rep++[D.n]).getD i 0=_;rw[sZ,O.lrep];rfl
def mS(O:D.Ok):(fQ D nd w d x y).roots=D.roots++[D.n]:=by
 unfold HD.roots;rw[kD,List.range_succ,List.filter_append];congr 1
 .apply Q1;intro i hi;obtain B:=E3.mp hi;rw[jt O,if_neg (lS B)]
 .simp[jt O]
def zd(O:D.Ok)(c:Nat):(fQ D nd w d x y).mem c=D.mem c++if c=D.n then[D.n]else[]:=by
 unfold HD.mem;rw[kD,List.range_succ,List.filter_append];congr 1
 .apply Q1;intro i hi;obtain B:=E3.mp hi;rw[jt O,if_neg (lS B)]
 .by_cases h:c=D.n
  .simp[jt O,h]
  .rw[if_neg h];simp[jt O];exact LK h
def sC:(fQ D nd w d x y).tot=D.tot:=by show((D.ab++([(D.n,y,[])]:List (Nat×Addr×List Nat))).map λp=>p.2.2.length).sum=_;simp[HD.tot]
def BF(O:D.Ok)(hn:D.n<60)(ho:nd.1∈aF)(hk:nd.2.length<=2)(hks:∀k∈nd.2,k<D.n)(J:nd∉D.nodes):(fQ D nd w d x y).Ok:=by
 obtain er:=mS (nd:=nd) (w:=w) (d:=d) (x:=x) (y:=y) O;have F:=kD (D:=D) (nd:=nd) (w:=w) (d:=d) (x:=x) (y:=y);have R:=λi=>jt (nd:=nd) (w:=w) (d:=d) (x:=x) (y:=y) O i;obtain O1:=O.lws;obtain O2:=O.lds;obtain O3:=O.lpar;obtain Y:=O.llots;obtain O5:=O.lrep;obtain hc:=O.cnt;obtain he:=O.edg;have rl:(fQ D nd w d x y).roots.length=D.roots.length+1:=by rw[er];simp
 refine⟨by rw[F];exact LL hn,?_,?_,?_,?_,?_,λi Q h=>?_,?_,?_,λi hi=>?_,λi hi=>?_,λi p hp hr=>?_,λp hp=>?_,⟨?_,λi=>?_⟩,λp hp z hz=>?_,?_,λz hz=>?_,?_,⟨?_,?_,?_⟩,O.Mz⟩
 .rw[F];show(D.ws++[w]).length=_;simp[O1]
 .rw[F];show(D.ds++[d]).length=_;simp[O2]
 .rw[F];show(D.par++[D.n]).length=_;simp[O3]
 .rw[F];show(D.lots++[(x,[D.n])]).length=_;simp[Y]
 .rw[F];show(D.rep++[D.n]).length=_;simp[O5]
 .have h:(D.nodes++[nd])[i]?=some Q:=h;rw[List.getElem?_append]at h;split at h
  .exact O.kids i Q h
  .rename_i hi;have G:¬i<D.n:=hi;rw[List.getElem?_singleton]at h;split at h
   .obtain rfl:=w8 h;exact(cO (λk hk=>by obtain B:=hks k hk;exact LM B hi) ho hk)
   .exact ns h
 .show(D.nodes++[nd]).Nodup;rw[G4];refine(cO O.ndn (by simp) (λa ha b Z=>?_));rw[u5.mp Z];rintro rfl;exact J ha
 .show D.nums++[(ag nd,iv D.n)]=nZ (D.nodes++[nd]);unfold nZ;rw[List.zipIdx_append,B7,O.nums];simp[nZ]
 .rw[F]at hi;rw[R i];by_cases h:i=D.n
  .rw[if_pos h,R,if_pos rfl];exact⟨by exact LN h,rfl⟩
  .rw[if_neg h,R,if_neg (by obtain B:=oA O (i:=i) (wW hi h);exact lS B)];exact O.rle i (wW hi h)
 .rw[F]at hi;have hp:(fQ D nd w d x y).pr i=if i=D.n then D.n else D.pr i:=by show(D.par++[D.n]).getD i 0=_;rw[sZ,O3];rfl
  rw[hp,R];by_cases h:i=D.n
  .subst h;rw[if_pos rfl,if_pos rfl];exact⟨λ_=>rfl,λz=>absurd rfl z⟩
  .rw[if_neg h,if_neg h];obtain B:=O.pr i (wW hi h);refine⟨B.1,λz=>?_⟩;obtain z2:=B.2 z;rw[R,if_neg (LO z2.1 hi)];exact z2
 .have hp:(D.lots++[(x,[D.n])])[i]?=some p:=hp;rw[zd O];rw[List.getElem?_append]at hp;split at hp
  .rename_i hi;obtain G:i<D.n:=by rw[<- Y];exact hi
   rw[R,if_neg (lS G)]at hr;rw[if_neg (lS G),G2];exact O.lots i p hp hr
  .rename_i hi;have G:¬i<D.n:=by rw[<- Y];exact hi
   rw[List.getElem?_singleton]at hp;split at hp
   .obtain rfl:=w8 hp;obtain B:i=D.n:=by exact LP (by assumption) Y G
    rw[if_pos B];have e0:D.mem i=[]:=by unfold HD.mem;rw[List.filter_eq_nil_iff];intro j hj;obtain hj:=E3.mp hj;obtain B:=oA O hj;simp;exact LQ B G
    rw[e0];exact K6 _
   .exact ns hp
 .rw[F];obtain B:=O.known p hp;exact tD B
 .show((D.ab++([(D.n,y,[])]:List (Nat×Addr×List Nat))).map (·.1)).Nodup;rw[B7,G4];refine(cO O.abk.1 (by simp) (λa ha b Z=>?_));obtain h1:=(HD.mem_roots.mp ((O.abk.2 a).mp ha)).1;obtain h2:b=D.n:=by simpa using Z
  exact LR h2 h1
 .rw[er];show i∈(D.ab++([(D.n,y,[])]:List (Nat×Addr×List Nat))).map (·.1)↔_;rw[B7,C2,C2,O.abk.2 i];rfl
 .have hp:p∈D.ab++[(D.n,y,[])]:=hp;rw[F];rcases C2.mp hp with h|h
  .obtain B:=O.abm p h z hz;exact tD B
  .rw[u5.mp h]at hz;exact absurd hz y9
 .rw[sC,F];obtain B:=O.tot;exact LS B
 .rw[F];obtain B:=O.wait z hz;exact tD B
 .rw[rl,F];exact LU hc
 .rw[rl,F];exact LV he.1
 .rw[rl,F];exact EE he.2.1
 .rw[rl,F];exact EE he.2.2
def HD.Ok.setAb(O:D.Ok){ab:List (Nat×Addr×List Nat)}(B:ab.map (·.1)=D.ab.map (·.1))(F:∀p∈ab,∀z∈p.2.2,z<D.n)(G:(ab.map λp=>p.2.2.length).sum<=2*D.n):(D.sAb ab).Ok :=⟨O.nz,O.lws,O.lds,O.lpar,O.llots,O.lrep,O.kids,O.ndn,O.nums,O.rle,O.pr,O.lots,O.known,by show(ab.map (·.1)).Nodup/\∀i,i∈ab.map (·.1)↔i∈D.roots;rw[B];exact O.abk,F,G,O.wait,O.cnt,O.edg,O.Mz⟩
end
section
variable{D:HD}{w d:Int}{x:Addr}
def uV(nd:Nd)(f:Nat->Nat)(h:i<N.length):cn (N++[nd]) f i=cn N f i:=by unfold cn;rw[C1,List.getElem?_append_left h,<- C1]
def Cong.pre{f:Nat->Nat}(F:Cong (N++[nd]) P f):Cong N P f:=⟨F.1,λi j hi B e=>F.2 i j (by rw[A6];exact Nat.lt_add_right _ hi) (by rw[A6];exact Nat.lt_add_right _ B) (by rw[uV nd f hi,uV nd f B,e])⟩
theorem BE(O:D.Ok)(C:Cl D P [] []):Cl (fQ D nd w d x y) P [D.n] [D.n]:=by
 obtain R:=λi=>jt (nd:=nd) (w:=w) (d:=d) (x:=x) (y:=y) O i;have G:∀i,i<D.n->(fQ D nd w d x y).r i=D.r i:=λi hi=>(R i).trans (if_neg (E9 hi));have lt:∀i,i<(fQ D nd w d x y).n->i=D.n\/i<D.n:=λi hi=>by rw[kD]at hi;exact(Nat.lt_succ_iff_lt_or_eq.mp hi).symm
 have B:∀i,i<D.n->((fQ D nd w d x y).op i,(fQ D nd w d x y).kids i)=(D.op i,D.kids i):=λi hi=>by show((D.nodes++[nd]).getD i ("",[]))=D.nodes.getD i ("",[]);rw[C1,List.getElem?_append_left hi,<- C1]
 have up:∀{i:Nat},i<D.n->i<(fQ D nd w d x y).n:=λh=>by rw[kD];exact L4 h
 refine⟨λf F i hi=>?_,λf F p hp=>?_,λp hp=>⟨up (C.pn p hp).1,up (C.pn p hp).2⟩,λp hp=>?_,λi hi=>(lt i hi).imp u5.mpr λhi=>?_,λi hi=>(lt i hi).imp u5.mpr λhi k hk=>?_⟩
 .rcases lt i hi with h|h
  .rw[R i,if_pos h,h]
  .rw[G i h];exact C.fit f F.pre i h
 .show _=cn (D.nodes++[nd]) f p.2;rw[uV nd f (O.known p hp)];exact C.knw f F.pre p hp
 .rw[G _ (C.pn p hp).1,G _ (C.pn p hp).2];exact C.told p hp
 .have J:(fQ D nd w d x y).canon i=D.canon i:=by obtain e:=B i hi;delta HD.canon;rw[(N7 e).1,(N7 e).2];exact B9 (Prod.mk _) (G3 λk hk=>G k (C6 (cT O hi k hk) hi))
  exact(C.S i hi).elim (λz=>absurd z y9) λz=>z.imp id λz=>bR z λm Q hm Y=>aK m (by rw[J];exact Q) (up hm) (by rw[G m hm,G i hi];exact Y)
 .have e:=(N7 (B i hi)).2;rw[e]at hk;obtain U:=(C.U i hi).elim (λz=>absurd z y9) id;exact bR (U k hk) λp hp e hm=>aK p (E0 _ hp) (by rw[G k (C6 (cT O hi k hk) hi)];exact e) hm
def AbSup(l m:List (Nat×Addr×List Nat)):Prop:=∀p∈l,∃q∈m,q.1=p.1/\∀z∈p.2.2,z∈q.2.2
theorem AbSup.set{l m:List (Nat×Addr×List Nat)}(h:AbSup l m){u:Addr×List Nat}(B:m[j]?=some (c,u))(n:Nat):AbSup l (m.set j (c,u.1,u.2++[n])):=λp hp=>by
 refine bR (h p hp) λq hq e hs=>?_;obtain⟨i,hi⟩:=C0.mp hq;by_cases e2:j=i
 .subst e2;obtain rfl:=w8 (B.symm.trans hi);exact(aK (c,u.1,u.2++[n]) (z6 (i:=j) (by rw[J6,if_pos rfl,if_pos (z5.mp B).1])) e (λz hz=>E0 _ (hs z hz)))
 .exact(aK q (z6 (i:=i) (by rw[J6,if_neg e2];exact hi)) e hs)
def Cl.setAb{ab:List (Nat×Addr×List Nat)}(C:Cl D P [m] [m])(h:AbSup D.ab ab)(hm:∀k∈D.kids m,∃p∈ab,p.1=D.r k/\m∈p.2.2):Cl (D.sAb ab) P [m] []:=⟨C.fit,C.knw,C.pn,C.told,C.S,λi hi=>.inr λk hk=>by
 rcases C.U i hi with z|z
 .rw[u5.mp z]at hk ⊢;exact hm k hk
 .exact bR (z k hk) λp hp e hi=>bR (h p hp) λq hq e2 hs=>aK q hq (e2.trans e) (hs i hi)⟩
end
def Ct{l:List Nat}(h:∀v∈vs,v∈l.map iv):∃cs:List Nat,vs=cs.map iv/\∀c∈cs,c∈l:=by
 induction vs with
 |nil=>exact(af ([]) rfl (λ_ h=>absurd h y9))
 |cons v vs G =>
  refine ah (G λv F=>h v (w9 _ F)) λcs e hc=>?_;refine ah (w7.mp (h v y4)) λc B aX=>?_;subst aX;exact(af (c::cs) (by rw[e];rfl) (λJ h'=>by
   rcases A4.mp h' with rfl|h'
   .exact B
   .exact hc _ h'))
def gT(l:List Nat):∃cs:List Nat,aH (bf (l.map iv))=cs.map iv/\(∀c,c∈cs↔c∈l)/\cs.length<=l.length:=by
 refine ah (Ct (vs:=aH (bf (l.map iv))) (l:=l) λv J=>bn.mp ((aw _).mem_iff.mp J)) λcs e hc=>?_;refine(aK cs e (λc=>⟨hc c,λh=>?_⟩) ?_)
 .obtain B:iv c∈aH (bf (l.map iv)):=(aw _).mem_iff.mpr (bn.mpr (w7.mpr (af c h rfl)));rw[e]at B;exact ah (w7.mp B) λO h' e=>eI e▸h'
 obtain F:=(aw (bf (l.map iv))).length_eq;obtain G:=de (l.map iv);rw[e]at F;simp only[List.length_map]at F G;exact Ez F G
theorem xx(f:α->Nat):∀(l:List α)(k:Nat)(p q:α),l[k]?=some p->f q=f p+1->((l.set k q).map f).sum=(l.map f).sum+1
 | [],k,p,q,h,_=>by simp at h
 |a::l,0,p,q,h,e=>by simp only[List.getElem?_cons_zero,Option.some.injEq]at h;subst h;simp[e];exact AC
 |a::l,k+1,p,q,h,e=>by simp only[List.getElem?_cons_succ]at h;obtain B:=xx f l k p q h e;simp only[List.set_cons_succ,List.map_cons,List.sum_cons,B];exact LW
end
structure Wide(D D':HD)(H H':AH):Prop where
 ok:D'.Ok
 at_:D'.At H'
 frm:Frm H H' D.adr D'.adr
 hp:D'.hp=D.hp
 M:D'.M=D.M
 cl:∀P,Cl D P [] []->Cl D' P [] []
theorem Wide.trans{D F:HD}{H H'':AH}(g:Wide D D' H H')(B:Wide D' F H' H''):Wide D F H H'':=⟨B.ok,B.at_,g.frm.trans B.frm,B.hp.trans g.hp,B.M.trans g.M,λP C=>B.cl P (g.cl P C)⟩
section
variable{H:AH}{Q:b8}{D:HD}
def kj(A:D.At H){x:Addr}(h:H x=none):x∉D.adr:=λhm=>by refine ah (w7.mp hm) λp hp e=>?_;obtain B:=A.all p hp;rw[e,h]at B;exact ns B
theorem zf(T:Txt σ){ks:List Nat}(A:D.At H)(O:D.Ok)(hm:m<D.n)(hk:ks.length<=2)(Y:∀k∈ks,k<D.n)(ht:D.tot+2<=2*D.n)(sl:D.known.length+D.wait.length+1+200*D.roots.length<=D.n+200*D.n) (hkm:D.kids m=ks) (hs:l "self"=some (.ref D.hp)) (hn:l "n"=some (iv m)) (Z:l "numbers"=some (.tup (ks.map iv))) (q:∀l' H' (D':HD),D'.Ok->D'.At H'->Frm H H' D.adr D'.adr->D'.hp=D.hp->D'.nodes=D.nodes->D'.M=D.M->(∀P,Cl D P [m] [m]->Cl D' P [] [])->K (.ret (iv m)) l' H') : az σ 4 [.for1 (.nm "c") (.exp (.prim .sortedSet (.comp (.meth c7 "find" (.cons g7 .nil)) (.one (.nm "kid") (.exp o6) none)))) [.expr (.meth (.idx (.attr c7 "above") g9) "append" (.cons d8 .nil))],.expr (.meth c7 "look_at" (.cons d8 .nil)),.ret d8] l H K:=by
 obtain hk20:ks.length<2^20:=z0 hk (by decide);refine qS (bu (kA ks iv (λi=>iv (D.r i)) (.var Z) hk20 (λi hi H' Q' x k=>aQ (.var ?_) (A.ext x).heap rfl T.Heap_find.some (.cons (.var rfl) .nil) ((jQ T (A.ext x) O (Y i hi) (k H' (w3 _))).room (SD 2 2))) λc H4 x4 _ hc4=>?_))
 .exact hs
 obtain ec:ks.map (λi=>iv (D.r i))=(ks.map D.r).map iv:=by rw[I8];rfl
 rw[ec]at hc4;refine bR (gT (ks.map D.r)) λcs ecs hcs hcl=>?_;refine(aK _ hc4 (dc (by rw[u1];exact z0 hk (by decide))) (λs hs4=>?_));rw[ecs];obtain x5:Ext H (H4.set s (.list (cs.map iv))):=x4.trans' (w4 _ hs4);obtain A5:=A.ext x5;obtain e5:(H4.set s (.list (cs.map iv))) s=some (.list (cs.map iv)):=AH.set_self _ _ _;generalize H4.set s (.list (cs.map iv))=H5 at *;obtain hcr:∀c∈cs,c<D.n/\D.r c=c:=λc hc=>by refine ah (w7.mp ((hcs c).mp hc)) λk hk aX=>?_;subst aX;exact⟨oA O (Y k hk),(O.rle k (Y k hk)).2⟩
 obtain hsna:s∉D.adr:=kj A (lQ x4 hs4);rw[u1]at hcl;obtain J:=s7 hcl hk;refine gq e5 (by rw[u1];exact s7 J (by decide)) (dG (src:=some (s,cs.map iv)) (λxs l' H'=>Keep l "c" l'/\H' s=some (.list (cs.map iv))/\∃G:List Nat,xs=G.map iv/\(∀c∈G,c<D.n/\D.r c=c) /\
   ∃F,(D.sAb F).At H'/\Frm H5 H' D.adr (D.sAb F).adr/\F.map (·.1)=D.ab.map (·.1)/\(∀p∈F,∀z∈p.2.2,z<D.n)/\((F.map λp=>p.2.2.length).sum+G.length<=2*D.n/\AbSup D.ab F/\∀c∈cs,c∈G\/∃p∈F,p.1=c/\m∈p.2.2)) (λ_ _ _ h=>h.2.1) (λv xs l' H' k h hk'=>?_) (λl' H' h=>?_) _ _ _ (cO Keep.refl e5 (aK cs rfl hcr (Rn D.ab A5 Frm.refl rfl O.abm (cO (s7 (Q5 J _) ht) (λp hp=>aK p hp rfl λ_ h=>h) (λc h=>.inl h))))))
 .refine jb h λkp he' aX=>?_;refine bR aX λG ex Q bV=>?_;refine RO bV λF B f k1 k2 k3 k4 k5=>?_;rcases G with _|⟨c,G⟩
  .exact(E7 _ _ ex).elim
  .refine cq (K2 ex) λda dC=>?_;subst da;subst dC;obtain hc:=Q c y4;have Ob:(D.sAb F).Ok:=O.setAb k1 k2 (s7 (G8 _ _) k3);refine bM (sj Ob hc.1 hc.2) λu Z=>?_;obtain⟨j,hj⟩:=C0.mp Z;obtain hul:u.2.length<=120:=s7 (gf Ob Z) (Nat.mul_le_mul_left 2 O.nz);obtain sf:(l'.put "c" (iv c)) "self"=some (.ref D.hp):=(kp.put _ (by decide)).trans hs;refine(af _ rfl (jG ((hU (f:="above") T B (.var sf) (by decide) rfl).idx (.var rfl) λ_ q=>eY B.ab (jV c) (jT Ob.abk.1 Z) q) (B.abl _ Z) (.var ((kp.put _ (by decide)).trans hn)) (by rw[u1];exact z0 hul (by decide)) ?_));rw[pE iv u.2 m];refine cq (B.abl' (i:=c) (x:=u.1) (ns:=u.2) hj (u.2++[m])) λB2 f2=>?_;obtain hsB:s∉(D.sAb F).adr:=λhm=>(f.new s hm).elim hsna λz=>nn z e5;refine hk' _ _ (cO kp.put (f2.out _ _ he' hsB) (aK G rfl (λc' h=>Q c' (w9 _ h)) (Rn _ B2 (f.trans f2) ?_ (λp hp z hz=>?_) (cO ?_ (k4.set hj m) (λc' h=>?_)))))
   .rw[<- k1];exact dI (p:=(c,u.1,u.2)) hj rfl
   .rcases List.mem_or_eq_of_mem_set hp with h|h
    .exact k2 p h z hz
    .subst h;rcases C2.mp hz with h|h
     .exact k2 _ Z z h
     .rw[u5.mp h];exact hm
   .obtain this:=xx (λp:Nat×Addr×List Nat=>p.2.2.length) F j (c,u.1,u.2) (c,u.1,u.2++[m]) hj A6;rw[this,O6,Nat.add_comm 1];exact k3
   .obtain at_:(c,u.1,u.2++[m])∈F.set j (c,u.1,u.2++[m]):=z6 (i:=j) (by rw[J6,if_pos rfl,if_pos (z5.mp hj).1]);rcases k5 c' h with h|⟨p,hp,e,hm'⟩
    .rcases A4.mp h with h|h
     .exact .inr (aK _ at_ h.symm (C9 _ (u5.mpr rfl)))
     .exact .inl h
    .exact bR (AbSup.set (l:=F) (λp hp=>aK p hp rfl λ_ h=>h) hj m p hp) λq hq e2 hs=>.inr (aK q hq (e2.trans e) (hs m hm'))
 .refine jb h λkp _ zq6=>?_;refine bR zq6 λG ex _ zq7=>?_;refine RN zq7 λF B f k1 k2 k3=>?_;refine jb k3 λk3 k4 k5=>?_;have Ob:(D.sAb F).Ok:=O.setAb k1 k2 (s7 (G8 _ _) k3);exact gJ (aQ (.var ((kp _ (by decide)).trans hs)) B.heap rfl T.Heap_look_at.some (.cons (.var ((kp _ (by decide)).trans hn)) .nil) (pS (D:=D.sAb F) T B Ob hm sl λH6 D6 g6 c6 _=>⟨trivial,bY (.var ((kp _ (by decide)).trans hn)) (q _ H6 D6 g6.ok g6.at_ (x5.frm.trans (f.trans g6.frm)) g6.hp g6.nodes g6.M λP C=>c6 P (C.setAb k4 λk hk=>by rw[hkm]at hk;exact(k5 (D.r k) ((hcs _).mpr (w7.mpr (af k hk rfl)))).elim (λz=>by rw[Sk.mp ex.symm]at z;exact absurd z y9) id))⟩))
theorem zn(T:Txt σ)(A:D.At H)(O:D.Ok){op:String}{ks:List Nat}(ho:op∈aF)(hk:ks.length<=2)(J:∀k∈ks,k<D.n)(hn:D.n<60) (q:∀H' D' i,Wide D D' H H'->D'.nodes[i]?=some (op,ks)->(D'.nodes=D.nodes\/D'.nodes=D.nodes++[(op,ks)]/\(op,ks)∉D.nodes)->Q (iv i) H') : MCall σ 5 "Heap" "add" [.ref D.hp,.str op,.tup (ks.map iv)] H Q:=by
 have B:D.n<=1000:=s7 (D9 hn) (by decide);obtain bank:∀{l:Loc}{H:AH}{D':HD},D'.At H->l "self"=some (.ref D'.hp)->Ev σ l H (.attr c7 "bank") (.ref D'.bp):=λA h=>hU T A (.var h) (by decide) rfl;have uni:∀{l:Loc}{H:AH}{D':HD},D'.At H->l "self"=some (.ref D'.hp)->Ev σ l H (.attr c7 "unions") (.ref D'.up):=λA h=>hU T A (.var h) (by decide) rfl;have lt:∀{i:Nat}{H:AH}{X Y:Prop},(if decide (i<D.n)=true then X else Y)->(if decide ((i:Int)<(D.n:Int))=true then X else Y):=λ{i}{_}{X Y} h=>by rw[show decide ((i:Int)<(D.n:Int))=decide (i<D.n)from decide_eq_decide.mpr L8];exact h
 refine aE T.ok T.Heap_add rfl (cE (aQ (bank A rfl) A.bank rfl T.Bank_take.some (.cons (.var rfl) (.cons (.var rfl) .nil)) ((Fm T A O ho hk J hn (λi hi=>⟨_,rfl,?_⟩) λG H1 w d A1 f1=>⟨_,rfl,?_⟩).room (P7 3))))
 .exact xE (aA (.var rfl) (aQ (uni A rfl) A.uni rfl T.Unions_size.some .nil ((wq T A O.lpar B ⟨_,_,rfl,rfl,lt (H:=H) (gW (D8 (z5.mp hi).1) (bY (.var rfl) (q H D i ⟨O,A,Frm.refl,rfl,rfl,λ_ C=>C⟩ hi (.inl rfl))))⟩).room (SD 1 3))))
 refine xE (aA (.var rfl) (aQ (uni A1 rfl) A1.uni rfl T.Unions_size.some .nil ((wq T A1 O.lpar B ⟨_,_,rfl,rfl,lt (H:=H1) (jc (E2 (Nat.lt_irrefl _)) ?_)⟩).room (SD 1 3))));refine gJ (aQ (uni A1 rfl) A1.uni rfl T.Unions_make.some .nil ((Fk T A1 O.lpar O.llots (E8 hn (by decide)) λH2 x hx A2 f2=>⟨trivial,?_⟩).room (SD 1 3)));refine GQ (dl λy hy=>?_);obtain hya:D.ap≠y:=aC A2.ab hy;obtain Z:ax D.abv (iv D.n)=none:=eO λp hp=>by
  unfold HD.abv at hp;refine ah (w7.mp hp) λe he zq8=>?_;subst zq8
  exactλz=>E9 (HD.mem_roots.mp ((O.abk.2 _).mp (w7.mpr ⟨e,he,rfl⟩))).1 (eI z)
 obtain x3:Ext H2 (H2.set y (.list [])):=w4 _ hy;obtain habl:(D.ab.map λp=>(iv p.1,V.ref p.2.1)).length<2^20:=by rw[u1];exact z0 (s7 (zc O) (D9 hn)) (by decide)
 refine aA (hU (D:=(D.take (op,ks) w d).sPar _ |>.sLots _) T (A2.ext x3) (.var rfl) (by decide) rfl) (aA (.var rfl) (af D.ap rfl (.inr (jK _ ((A2.ext x3).ab) (jV D.n) habl ?_))));rw[cQ (kvs:=(((D.take (op,ks) w d).sPar ((D.take (op,ks) w d).par++[D.n])).sLots ((D.take (op,ks) w d).lots++[(x,[D.n])])).abv) Z];refine cq (A2.addAb (x:=y) (H':=(H2.set y (.list [])).set D.ap (.dict ((D.ab.map λp=>(iv p.1,V.ref p.2.1))++[(iv D.n,.ref y)]))) D.n [] hy ((p6 _ _ hya.symm).trans (AH.set_self _ _ _)) (AH.set_self _ _ _) (λb z hb e=>(p6 _ _ hb).trans (x3 _ _ e))) λA3 f3=>?_;have n3:(fQ D (op,ks) w d x y).n=D.n+1:=kD;obtain O3:(fQ D (op,ks) w d x y).Ok:=BF O hn ho hk J G;have t3:(fQ D (op,ks) w d x y).tot=D.tot:=sC;obtain r3:(fQ D (op,ks) w d x y).roots.length=D.roots.length+1:=by rw[mS O,A6];rfl
 refine zf (D:=fQ D (op,ks) w d x y) T ⟨A3.all,A3.nd⟩ O3 (by rw[n3];exact K3 _) hk (λk h=>by rw[n3];exact L4 (J k h)) (by rw[t3,n3,Nat.mul_add];exact Nat.add_le_add_right O.tot 2) ?_ ?_ rfl rfl rfl λl' H' D' o a f hp nod hM hcl=>?_
 .rw[r3,n3];exact LY O.cnt
 .show((D.nodes++[(op,ks)]).getD D.n ("",[])).2=ks;rw[C1,List.getElem?_append_right (z7 _),Nat.sub_self];rfl
 .have F:D'.nodes=D.nodes++[(op,ks)]:=nod;refine q H' D' D.n ⟨o,a,((f1.trans f2).trans f3).trans f,hp,hM,λP C=>hcl P (BE O C)⟩ ?_ (.inr ⟨F,G⟩);rw[F,List.getElem?_append_right (z7 _),Nat.sub_self];rfl
end
section
variable{c:Addr}
set_option genCtorIdx false
inductive Tr where
 |leaf (s:String)
 |f (t:Tr)
 |g (t u:Tr)
noncomputable def Tr.v:Tr->V
 | .leaf s=>.tup [.str s]
 | .f t=>.tup [.str "f",t.v]
 | .g t u=>.tup [.str "g",t.v,u.v]
noncomputable def Tr.ok(Γ:List String):Nat->Tr->Prop
 |_,.leaf s=>s∈Γ
 |h+1,.f t=>t.ok Γ h
 |h+1,.g t u=>t.ok Γ h/\u.ok Γ h
 |0,_=>False
noncomputable def Tr.sz:Tr->Nat
 | .leaf _=>1
 | .f t=>t.sz+1
 | .g t u=>t.sz+u.sz+1
def Added(N:List Nd)(nd:Nd)(B:List Nd)(i:Nat):Prop:=B[i]?=some nd/\(B=N\/B=N++[nd]/\nd∉N)
noncomputable def Built:List Nd->Tr->List Nd->Nat->Prop
 |N,.leaf s,B,i=>Added N (s,[]) B i
 |N,.f t,B,i=>∃F j,Built N t F j/\Added F ("f",[j]) B i
 |N,.g t u,B,i=>∃F j G k,Built N t F j/\Built F u G k/\Added G ("g",[j,k]) B i
def Added.len{B:List Nd}(h:Added N nd B i):i<B.length/\N.length<=B.length/\B.length<=N.length+1:=by
 obtain⟨F,G⟩:=h;refine⟨(z5.mp F).1,?_⟩;rcases G with rfl|⟨rfl,_⟩
 .exact LZ
 .simp
theorem Built.len{t:Tr}:∀{N G:List Nd}{i:Nat},Built N t G i->i<G.length/\N.length<=G.length/\G.length<=N.length+t.sz:=by
 induction t with
 |leaf s=>exactλh=>Added.len h
 |f t a=>exactλh=>cF h λ_ _ F B=>Ma B.len.2.2 (a F).2.1 (a F).2.2 B.len.2.1 B.len.1
 |g t u a b=>exactλh=>Pd h λ_ _ _ _ F B J=>Mb (b B).2.2 (b B).2.1 J.len.2.2 (a F).2.1 (a F).2.2 J.len.2.1 J.len.1
def HD.At.setOut{D:HD}{H:AH}(A:D.At H)(o:AO)(h:c∉D.adr):D.At (H.set c o):=⟨λp hp=>by
 rw[p6]
 .exact A.all p hp
 .rintro rfl;exact h (w7.mpr (af p hp rfl)),A.nd⟩
def Wide.setc{D:HD}{H:AH}(g:Wide D D' H H')(o:AO)(h:c∉D'.adr)(hc:H c=none):Wide D D' H (H'.set c o) :=⟨g.ok,g.at_.setOut o h,⟨λx y e hx=>by rw[p6 _ _ (aC e hc)];exact g.frm.out x y e hx,g.frm.new⟩,g.hp,g.M,g.cl⟩
def Wide.notin{D:HD}{H:AH}(g:Wide D D' H H'){o:AO}(h:c∉D.adr)(hc:H c=some o):c∉D'.adr:=λhm=>by
 rcases g.frm.new c hm with h'|h'
 .exact h h'
 .rw[hc]at h';exact sn h'
def Wide.ext{D:HD}{H H1:AH}(x:Ext H H1)(g:Wide D D' H1 H'):Wide D D' H H':=⟨g.ok,g.at_,x.frm.trans g.frm,g.hp,g.M,g.cl⟩
def HH(σ:Sx)(d:Nat)(l:Loc)(c:Addr)(v:V)(H:AH)(k:AH->Prop):Prop:=∃l',bz (.nm "part") v (l.drop ["part"])=some l'/\yS σ d none l' H λok H2=>if ok=true then aY σ d (.meth c7 "put" (.cons m4 .nil)) l' H2 λv H3=>∃ws,H3 c=some (.list ws)/\ws.length<2^20/\k (H3.set c (.list (ws++[v])))else k H2
theorem ox{D:HD}{H:AH}{Q:b8}(T:Txt σ){d:Nat}{op:String}(A:D.At H)(hz:vs.length<=2)(k:∀c,H c=none->fk none (HH σ d (aT ["self","term"] [.ref D.hp,.tup (.str op::vs)]) c) vs (H.set c (.list [])) λH'=>∃ws,H' c=some (.list ws)/\ws.length<=16384/\MCall σ d "Heap" "add" [.ref D.hp,.str op,.tup ws] H' Q):MCall σ (d+1) "Heap" "put" [.ref D.hp,.tup (.str op::vs)] H Q:=by refine aE T.ok T.Heap_put rfl (af _ rfl (af _ (cC A.heap rfl T.Heap_add.some) (af _ rfl ⟨0,_,rfl,by decide,rfl,_,rfl,s7 (I7 hz) (by decide),SD 1 _,rfl,rfl,s7 hz (by decide),λc hc=>(af c rfl (k c hc))⟩)))
def oy{D:HD}{H:AH}(T:Txt σ){d:Nat}{t:Tr}{J:HD}{ws:List V}{K:AH->Prop}(hs:l "self"=some (.ref D.hp))(W:Wide J D H0 H)(G:H0 c=none)(hc:H c=some (.list ws))(B:c∉D.adr)(hz:ws.length<2^20) (Y:∀Q,(∀H' D' i,Wide D D' H H'->Built D.nodes t D'.nodes i->Q (iv i) H')->MCall σ d "Heap" "put" [.ref D.hp,t.v] H Q) (k:∀H' D' i,Wide J D' H0 H'->H' c=some (.list (ws++[iv i]))->c∉D'.adr->D'.hp=D.hp->Built D.nodes t D'.nodes i->K H'):HH σ d l c t.v H K :=
 (af _ rfl (Bp (gW rfl (af _ ((am _ _ (by decide)).trans ((dE _ (by decide)).trans hs)) (af _ (cC W.at_.heap rfl T.Heap_put.some) (af _ (bH _ _ _) (Y _ λH2 O i F hi =>
  aK _ (F.frm.out _ _ hc B) hz (k _ O i ((W.trans F).setc _ (F.notin B hc) G) (AH.set_self _ _ _) (F.notin B hc) F.hp hi))))))))
def Hm(T:Txt σ)(hL:∀s∈Γ,s∈aF)(t:Tr):∀{h:Nat}{D:HD}{H:AH}{Q:b8},D.At H->D.Ok->t.ok Γ h->D.n+t.sz<=60 -> (∀H' D' i,Wide D D' H H'->Built D.nodes t D'.nodes i->Q (iv i) H')->MCall σ (6+h) "Heap" "put" [.ref D.hp,t.v] H Q:=by
 have Z:∀{D:HD}{H:AH}{c:Addr}{o:AO},D.At H->D.Ok->H c=none->Wide D D H (H.set c o):=λA O hc=>⟨O,A.ext (w4 _ hc),(w4 _ hc).frm,rfl,rfl,λ_ C=>C⟩;induction t with
 |leaf s =>intro h D H Q A O ht hs q;have hsl:s∈aF:=hL s (by cases h <;> exact ht);refine(ox (vs:=[]) T A (by decide) λc hc=>⟨trivial,aK _ (AH.set_self _ _ _) (by decide) ?_⟩).room Md;exact zn T (A.ext (w4 _ hc)) O (ks:=[]) hsl (by decide) (λ_ h=>absurd h y9) (Mc rfl hs) λH' D' i W hi J=>q H' D' i (W.ext (w4 _ hc)) ⟨hi,J⟩
 |f t ih =>
  intro h;rcases h with _|h
  .exactλ_ _ ht=>ht.elim
  intro D H Q A O ht hs q;refine(ox (vs:=[t.v]) T A (P7 1) λc hc=>⟨trivial,oy T rfl (Z A O hc) hc (AH.set_self _ _ _) (kj A hc) (Nat.two_pow_pos 20) (λQ q=>ih (Z A O hc).at_ O ht (Me rfl hs) q) λH2 D2 i F e2 n2 B hi=>⟨trivial,aK _ e2 (by show 1<=16384;decide) ?_⟩⟩).room EF;rw[<- B];exact(zn T F.at_ F.ok (ks:=[i]) (by decide) (P7 1) (λk hk=>u5.mp hk▸hi.len.1) (Mf hs hi.len.2.2) λH' D' i' W G J=>q H' D' i' (F.trans W) (bF _ _ hi G J)).room EG
 |g t u ih ih2 =>
  intro h;rcases h with _|h
  .exactλ_ _ ht=>ht.elim
  intro D H Q A O ht hs q;refine(ox (vs:=[t.v,u.v]) T A (z7 2) λc hc=>⟨trivial,oy T rfl (Z A O hc) hc (AH.set_self _ _ _) (kj A hc) (Nat.two_pow_pos 20) (λQ q=>ih (Z A O hc).at_ O ht.1 (Mg hs) q) λH2 D2 i F e2 n2 B hi =>
   ⟨trivial,oy T (B9 (some∘V.ref) B.symm) F hc e2 n2 (by show 1<2^20;decide) (λQ q=>ih2 F.at_ F.ok ht.2 (Mh hs hi.len.2.2) q) λH4 D4 j W4 e4 n4 hp4 Y=>⟨trivial,aK _ e4 (by show 2<=16384;decide) ?_⟩⟩⟩).room EF
  rw[<- B,<- hp4];exact(zn T W4.at_ W4.ok (ks:=[i,j]) (by decide) (z7 2) (List.forall_mem_cons.mpr ⟨Mj Y.len.2.1 hi.len.1,λk hk=>u5.mp hk▸Y.len.1⟩) (Mi hs hi.len.2.2 Y.len.2.2) λH' D' i' W G J=>q H' D' i' (W4.trans W) (Rq _ _ _ _ hi Y G J)).room EG
end
variable{t:Tr}
section
variable{Γ:List (Addr×AO)}
structure Hold(H0 H:AH)(Γ:List (Addr×AO)):Prop where
 ext:Ext H0 H
 all:∀p∈Γ,H p.1=some p.2/\H0 p.1=none
 nd:(Γ.map (·.1)).Nodup
def Hold.nil{H:AH}:Hold H H []:=⟨w3 H,(λ_ h=>nomatch h),J5⟩
def Hold.new{H:AH}{L1 L2:List (Addr×AO)}(h:Hold H0 H (L1++L2)){c:Addr}(o:AO)(hc:H c=none):Hold H0 (H.set c o) (L1++(L2++[(c,o)])):=by
 rw[<- K4];refine⟨h.ext.trans' (w4 _ hc),λp hp=>?_,?_⟩
 .rcases C2.mp hp with hp|hp
  .obtain B:=h.all p hp;exact⟨(w4 _ hc) _ _ B.1,B.2⟩
  .rw[u5.mp hp];exact⟨AH.set_self _ _ _,lQ h.ext hc⟩
 .rw[B7,G4];refine⟨h.nd,by simp,λa ha b F=>?_⟩;refine ah (w7.mp ha) λp hp aX=>?_;subst aX;obtain F:b=c:=by simpa using F
  rw[F];exact aC (h.all p hp).1 hc
def Hold.upd{H:AH}{L1 L2:List (Addr×AO)}{a:Addr}{o:AO}(h:Hold H0 H (L1++(a,o)::L2))(o':AO):Hold H0 (H.set a o') (L1++(a,o')::L2):=by
 have ha:=h.all (a,o) (by simp);obtain nd:=h.nd;rw[B7,C4]at nd;obtain B:=List.perm_middle.nodup_iff.mp nd;rw[C8]at B;refine⟨h.ext.setc ha.2 o',λp hp=>?_,?_⟩
 .have key:p∈L1++L2->(H.set a o') p.1=some p.2/\H0 p.1=none:=λhm=>by
   obtain F:p.1≠a:=λe=>B.1 (by rw[<- B7];exact w7.mpr (af p hm e));rw[p6 _ _ F];refine h.all p ?_;rcases C2.mp hm with hm|hm
   .exact E0 _ hm
   .exact C9 _ (w9 _ hm)
  rcases C2.mp hp with hp|hp
  .exact key (E0 _ hp)
  .rcases A4.mp hp with rfl|hp
   .exact⟨AH.set_self _ _ _,ha.2⟩
   .exact key (C9 _ hp)
 .rw[B7,C4];exact nd
def ww{ps:List (String×V)}{f:String}(h:ps.lookup f=none)(v:V):dput (fl ps) (.str f) v=fl (ps++[(f,v)]):=by rw[cQ (by rw[jU];exact h)];unfold fl;simp
def Hold.perm{H:AH}{M:List (Addr×AO)}(h:Hold H0 H Γ)(P:Γ.Perm M):Hold H0 H M:=⟨h.ext,λp hp=>h.all p (P.mem_iff.mpr hp),(P.map _).nodup_iff.mp h.nd⟩
def Mk(H0 H:AH)(x:Addr)(c:String)(dx:Addr)(ps:List (String×V))(Γ:List (Addr×AO)):Prop:=Hold H0 H ((dx,.dict (fl ps))::(x,.inst c dx)::Γ)
section
variable{H:AH}{Q:b8}{x:Addr}{c:String}{ps:List (String×V)}{Γ:List (Addr×AO)}
theorem Mk.put(h:Mk H0 H x c dx ps Γ){f:String}(B:ps.lookup f=none)(v:V):Mk H0 (H.set dx (.dict (dput (fl ps) (.str f) v))) x c dx (ps++[(f,v)]) Γ:=by rw[ww B];exact Hold.upd (L1:=[]) h _
theorem Mk.new(h:Mk H0 H x c dx ps Γ){a:Addr}(o:AO)(ha:H a=none):Mk H0 (H.set a o) x c dx ps (Γ++[(a,o)]):=Hold.new (L1:=[(dx,.dict (fl ps)),(x,.inst c dx)]) h o ha
def Mk.back{F:Addr}{G:String}{B:List (String×V)}{R:List (Addr×AO)}(h:Mk H0 H y G F B (((dx,.dict (fl ps))::(x,.inst c dx)::Γ)++R)):Mk H0 H x c dx ps ((F,.dict (fl B))::(y,.inst G F)::(Γ++R)) :=Hold.perm h (List.perm_append_comm_assoc [_,_] [_,_] _)
section
variable{d:Nat}{f:String}
def Mk.at_(h:Mk H0 H x c dx ps Γ)(hs:l "self"=some (.ref x))(hf:f∈σ.flds c)(B:ps.lookup f=none)(hz:Nat.ble ps.length 500=true){v:V}(k:∀H',Mk H0 H' x c dx (ps++[(f,v)]) Γ->az σ d rest l H' K) : aY σ d c7 l H λov H2=>∃a c dx kvs,ov=.ref a/\H2 a=some (.inst c dx)/\f∈σ.flds c/\H2 dx=some (.dict kvs)/\bI kvs/\kvs.length<=500/\az σ d rest l (H2.set dx (.dict (dput kvs (.str f) v))) K :=(af _ hs (Rt x c dx (fl ps) rfl ((h.all _ (w9 _ y4)).1) hf ((h.all _ y4).1) (oO _) (s7 (r5 (u1 _)) (Nat.le_of_ble_eq_true hz)) (k _ (h.put B v))))
def gI(h:Mk H0 H x c dx ps Γ)(hs:l "self"=some (.ref x))(hf:f∈σ.flds c)(B:ps.lookup f=none)(hz:Nat.ble ps.length 500=true)(k:∀a H',Mk H0 H' x c dx (ps++[(f,.ref a)]) (Γ++[(a,.list [])])->az σ d rest l H' K):az σ d (.asg (.at c7 f) (.lst .nil)::rest) l H K :=λa ha=>(h.new (.list []) ha).at_ hs hf B hz (k a)
def vV(h:Mk H0 H x c dx ps Γ)(hs:l "self"=some (.ref x))(hf:f∈σ.flds c)(B:ps.lookup f=none)(hz:Nat.ble ps.length 500=true)(k:∀a H',Mk H0 H' x c dx (ps++[(f,.ref a)]) (Γ++[(a,.dict [])])->az σ d rest l H' K):az σ d (.asg (.at c7 f) (.dct .nil .nil)::rest) l H K :=(Fd ⟨J5,(af 1 (by decide) (λ_ h=>nomatch h))⟩ (λ_ h=>nomatch h) rfl (by decide) (λa ha=>(h.new (.dict []) ha).at_ hs hf B hz (k a)))
end
def rJ{B:Addr}(h:Hold H0 H Γ)(F:String)(hy:H y=none)(G:H B=none)(ne:y≠B):Hold H0 ((H.set B (.dict [])).set y (.inst F B)) (Γ++[(B,.dict (fl [])),(y,.inst F B)]) :=Hold.new (L1:=Γ) (L2:=[(B,AO.dict (fl []))]) (Hold.new (L1:=Γ) (L2:=[]) (by rw[G2];exact h) (.dict (fl [])) G) (.inst F B) (by rw[p6 _ _ ne];exact hy)
def Mk.obj(h:Mk H0 H x c dx ps Γ){B:Addr}(F:String)(hy:H y=none)(G:H B=none)(ne:y≠B):Mk H0 ((H.set B (.dict [])).set y (.inst F B)) y F B [] ((dx,.dict (fl ps))::(x,.inst c dx)::Γ) :=Hold.perm (rJ h F hy G ne) List.perm_append_comm
def MCall.call{d:Nat}{c m:String}{f:Addr}(h:MCall σ d c m vs H Q)(e:σ.meth c m=some f):CallS σ d f vs H Q:=by refine ah h λB e' k=>?_;rw[e]at e';obtain rfl:=w8 e';exact k
theorem Bf{d:Nat}{f:String}{F:String}{m:bx}(h:Mk H0 H x c dx ps Γ)(hs:l "self"=some (.ref x))(hf:f∈σ.flds c)(hn:ps.lookup f=none)(hz:Nat.ble ps.length 500=true) (hc:∃C,σ.cls F=some C) (hm:HasM σ F "__init__" m) {P:Addr->Addr->AH->Prop} (I:∀H y B,Mk H0 H y F B [] ((dx,.dict (fl ps))::(x,.inst c dx)::Γ)->MCall σ d F "__init__" [.ref y] H λr H'=>r=.none/\P y B H') (k:∀y B H',P y B H'->∃J,Mk H0 H' x c dx ps J/\∀H'',Mk H0 H'' x c dx (ps++[(f,.ref y)]) J->az σ (d+1) rest l H'' K):az σ (d+1) (.asg (.at c7 f) (.new F .nil)::rest) l H K:=by refine bM hc λC hC=>?_;refine cF hm λO _ G _=>?_;refine(pi C O d rfl hC G (λy B Q Y Z=>((I _ y B (h.obj F Q Y Z)).mono λr H' q=>⟨q.1,?_⟩).call G));refine ah (k y B H' q.2) λJ g k=>?_;exact g.at_ hs hf hn hz k
theorem sH(T:Txt σ)(h:Mk H0 H x "Bank" dx [] Γ) (q:∀H' n m w d,Mk H0 H' x "Bank" dx [("nodes",.ref n),("numbers",.ref m),("weights",.ref w),("depths",.ref d)] (Γ++[(n,.list [])]++[(m,.dict [])]++[(w,.list [])]++[(d,.list [])])->Q .none H'):MCall σ 1 "Bank" "__init__" [.ref x] H Q :=aE T.ok T.Bank_init rfl (gI h rfl (fB T (by decide)) rfl rfl λn _ h=>vV h rfl (fB T (by decide)) rfl rfl λm _ h=>gI h rfl (fB T (by decide)) rfl rfl λw _ h=>gI h rfl (fB T (by decide)) rfl rfl λd _ h=>q _ n m w d h)
theorem uT(T:Txt σ)(h:Mk H0 H x "Unions" dx [] Γ) (q:∀H' n m w,Mk H0 H' x "Unions" dx [("above",.ref n),("lots",.ref m),("merged",.ref w)] (Γ++[(n,.list [])]++[(m,.list [])]++[(w,.list [])])->Q .none H'):MCall σ 1 "Unions" "__init__" [.ref x] H Q :=aE T.ok T.Unions_init rfl (gI h rfl (fU T (by decide)) rfl rfl λn _ h=>gI h rfl (fU T (by decide)) rfl rfl λm _ h=>gI h rfl (fU T (by decide)) rfl rfl λw _ h=>q _ n m w h)
noncomputable def tv(hp hd bp bd up ud ep fp kp ap wp np mp qp dp ua lp gp:Addr):HD:=⟨hp,hd,bp,bd,up,ud,ep,fp,kp,ap,wp,np,mp,qp,dp,ua,lp,gp,[],[],[],[],[],[],[],[],[],[],[],[],[],0⟩
def CD(hp hd bp bd up ud ep fp kp ap wp np mp qp dp ua lp gp:Addr):(tv hp hd bp bd up ud ep fp kp ap wp np mp qp dp ua lp gp).Ok:=by
 have B:(tv hp hd bp bd up ud ep fp kp ap wp np mp qp dp ua lp gp).n=0:=rfl;refine⟨E1 _,rfl,rfl,rfl,rfl,rfl,?_,J5,rfl,?_,?_,?_,?_,⟨J5,?_⟩,?_,z7 _,?_,z7 _,(cO (z7 _) (z7 _) (z7 _)),?_⟩
 .intro i nd h;simp[tv]at h
 .intro i hi;exact(EH hi B).elim
 .intro i hi;exact(EH hi B).elim
 .intro i p h;simp[tv]at h
 .intro p h;simp[tv]at h
 .intro i;exact Iff.rfl
 .intro p h;simp[tv]at h
 .intro x h;simp[tv]at h
 .show 0<=100;decide
theorem sI(T:Txt σ)(h:Mk H0 H x "Heap" dx [] []) (q:∀H' (D:HD),Ext H0 H'->D.At H'->D.Ok->D.nodes=[]->D.M=0->D.hp=x->(∀a∈D.adr,H0 a=none)->Q .none H'):MCall σ 3 "Heap" "__init__" [.ref x] H Q:=by refine aE T.ok T.Heap_init rfl (Bf (P:=λy B H'=>∃n m w d,Mk H0 H' y "Bank" B [("nodes",.ref n),("numbers",.ref m),("weights",.ref w),("depths",.ref d)] ([(dx,.dict (fl [])),(x,.inst "Heap" dx)]++[(n,.list [])]++[(m,.dict [])]++[(w,.list [])]++[(d,.list [])])) h rfl (fH T (by decide)) rfl rfl T.cBank T.Bank_init (λH y B h=>sH T h λH' n m w d h=>⟨rfl,(Rp n m w d h)⟩) λbp bd H' g=>?_);refine Pc g λnp mp qp dp h=>?_;refine(af _ (Mk.back (Γ:=[]) (R:=[(np,.list []),(mp,.dict []),(qp,.list []),(dp,.list [])]) h) (λH' h=>Bf (P:=λy B H'=>∃n m w,Mk H0 H' y "Unions" B [("above",.ref n),("lots",.ref m),("merged",.ref w)] (_++[(n,.list [])]++[(m,.list [])]++[(w,.list [])])) h rfl (fH T (by decide)) rfl rfl T.cUnions T.Unions_init (λH y B h=>uT T h λH' n m w h=>⟨rfl,(Pe n m w h)⟩) λup ud H' g=>?_));refine Pi g λua lp gp h=>?_;refine(af _ (Mk.back (Γ:=[(bd,_),(bp,_),(np,.list []),(mp,.dict []),(qp,.list []),(dp,.list [])]) (R:=[(ua,.list []),(lp,.list []),(gp,.list [])]) h) (λH' h=>gI h rfl (fH T (by decide)) rfl rfl λep _ h=>gI h rfl (fH T (by decide)) rfl rfl λfp _ h=>vV h rfl (fH T (by decide)) rfl rfl λkp _ h=>vV h rfl (fH T (by decide)) rfl rfl λap _ h=>gI h rfl (fH T (by decide)) rfl rfl λwp H' h=>?_));have h:Hold H0 H' (tv x dx bp bd up ud ep fp kp ap wp np mp qp dp ua lp gp).objs:=Hold.perm h ((List.Perm.swap _ _ _).trans (List.Perm.cons _ (List.Perm.cons _ ((List.perm_append_comm_assoc [_,_] [_,_] _).trans ((List.Perm.swap _ _ _).trans (List.Perm.cons _ (List.Perm.cons _ (List.Perm.swap _ _ _))))))));exact q _ _ h.ext ⟨λp hp=>(h.all p hp).1,h.nd⟩ (CD ..) rfl rfl rfl λa ha=>(w7.mp ha).elim λp e=>e.2▸(h.all p e.1).2
end
end
structure Feed(H:AH)(fa ca:Addr)(cs:List Int)(s:Nat):Prop where
 f:H fa=some (.dict (fl [("cells",.ref ca),("at",iv s)]))
 c:H ca=some (.list (cs.map .int))
 len:cs.length<=60
 ne:fa≠ca
def Only(fa:Addr)(H H':AH):Prop:=∀a,a≠fa->H' a=H a
def Only.refl'{fa:Addr}{H:AH}:Only fa H H:=λ_ _=>rfl
def Only.trans'{fa:Addr}{H H'':AH}(x:Only fa H H')(y:Only fa H' H''):Only fa H H'':=λa h=>(y a h).trans (x a h)
def rB(ps:List (String×V))(s:String):keyFits (fl ps) (.str s):=⟨Nat.one_ne_zero,λp hp=>jX ps p hp⟩
def Al{x:Int}(h:0<m):∃k:Nat,k<m/\V.int (x%(m:Int))=iv k:=by obtain B:0<=x%(m:Int):=Int.emod_nonneg _ (Ml h);obtain F:x%(m:Int)<m:=Int.emod_lt_of_pos _ (EI h);exact(af ((x%(m:Int)).toNat) (Mm B F) (by congr 1;exact Mn B))
section
variable{H:AH}{Q:b8}{e e2:ME}
def rq{i j:Int}(B:Ev σ l H e (.int i))(hi:Ev σ l H e2 (.int j)):Ev σ l H (.bin .add e e2) (.int (i+j)):=B.bin hi λ_ q=>q
def rA{i j:Int}(G:Ev σ l H e (.int i))(hi:Ev σ l H e2 (.int j))(B:i.natAbs<2^60)(F:j.natAbs<2^60):Ev σ l H (.bin .mul e e2) (.int (i*j)):=G.bin hi λ_ q=>cO B F q
def uW{i j:Int}(B:Ev σ l H e (.int i))(hi:Ev σ l H e2 (.int j))(h:0<j):Ev σ l H (.bin .mod e e2) (.int (i%j)):=B.bin hi λ_ q=>⟨h,q⟩
def y0{a b:ME}{x y:Bool}(ha:EvT σ l H a x)(B:EvT σ l H b y):EvT σ l H (.or2 a b) (x||y):=λd _ q=>ha d _ (by cases x;exact jc rfl (B d _ q);exact gW rfl q)
def kH(j:Nat){x:String}(e:l x=some (iv i))(h:i≠j):EvT σ l H (.cmp1 .eq (.var x) (.cst (iv j))) false:=.cmp (.var e) .cst λ_ q=>hJ (E2 h▸q)
def uU(j:Nat){x:String}(e:l x=some (iv i))(h:i=j):EvT σ l H (.cmp1 .eq (.var x) (.cst (iv j))) true:=.cmp (.var e) .cst λ_ q=>hJ (D8 h▸q)
def CV(ca:Addr)(s t:Nat):dput (fl [("cells",.ref ca),("at",iv s)]) (.str "at") (iv t)=fl [("cells",.ref ca),("at",iv t)]:=by unfold dput fl;simp[kz]
def mZ(T:Txt σ){fa:Addr}{s:Nat}(F:Feed H fa ca cs s)(hs:s<10000)(hm:0<m)(q:∀H' k,k<m->Only fa H H'->Feed H' fa ca cs (s+1)->Q (iv k) H'):FCall σ 1 "_law_draw" [.ref fa,iv m] H Q:=by
 have J:=F.len;obtain O:(0:Int)<(m:Int):=EI hm;refine ce T.ok T.law_draw rfl (sd (v:=iv s) ((Ev.var rfl).idx (w:=.str "at") .cst λ_ q=>eY F.f (rB _ _) (by rw[jU];rfl) q) (wb (w:=.str "at") (rq (i:=s) (j:=1) (.var rfl) .cst) (.var rfl) .cst F.f (rB _ _) (show 2<2^20 by decide) ?_));rw[show V.int ((s:Int)+1)=iv (s+1)from rfl,CV];obtain Z:Only fa H (H.set fa (.dict (fl [("cells",.ref ca),("at",iv (s+1))]))):=λa h=>p6 _ _ h;have G:Feed (H.set fa (.dict (fl [("cells",.ref ca),("at",iv (s+1))]))) fa ca cs (s+1):=⟨AH.set_self _ _ _,by rw[p6 _ _ F.ne.symm];exact F.c,F.len,F.ne⟩;generalize (H.set fa (.dict (fl [("cells",.ref ca),("at",iv (s+1))])))=H1 at *;have cells:Ev σ ((aT ["feed","wide"] [.ref fa,iv m]).put "k" (iv s)) H1 (.idx d6 f8) (.ref ca):=(Ev.var rfl).idx (w:=.str "cells") .cst λ_ q=>eY G.f (rB _ _) (by rw[jU];rfl) q;obtain len:Ev σ ((aT ["feed","wide"] [.ref fa,iv m]).put "k" (iv s)) H1 (.prim .len (.idx d6 f8)) (iv cs.length):=cY cells G.c (u1 _) (s7 J (by decide));have Y:EvT σ ((aT ["feed","wide"] [.ref fa,iv m]).put "k" (iv s)) H1 (.cmp1 .lt k6 (.prim .len (.idx d6 f8))) (decide ((s:Int)<(cs.length:Int))):=w6 (.var rfl) len λ_ q=>(bF _ _ rfl rfl q);by_cases h:s<cs.length
 .rw[D8 (L8.mpr h)]at Y;refine ff Y (bY (uW (cells.idx (.var rfl) λ_ q=>cf G.c (cR 0 h) (mq h J) q) (.var rfl) O) ?_);refine ah (Al (x:=cs.getD s 0) hm) λk hk e=>?_;rw[e];exact q H1 k hk Z G
 .rw[E2 λz=>h (L8.mp z)]at Y;obtain B:((s:Int)).natAbs<2^60:=by rw[Int.natAbs_natCast];exact C6 hs (by decide)
  refine dM Y (bY (rest:=[]) (uW (uW (rq (rq (rq (rA (rA (i:=11) .cst (.var rfl) (by decide) B) (.var rfl) (by exact MY hs) B) (rA (i:=3) .cst (.var rfl) (by decide) B)) (rA (i:=5) (j:=cs.length) .cst len (by decide) (by exact MZ B h))) .cst) (j:=103) .cst (by decide)) (.var rfl) O) ?_);refine ah (Al (x:=(11*(s:Int)*s+3*s+5*(cs.length:Int)+4)%103) hm) λk hk e=>?_;rw[e];exact q H1 k hk Z G
def zb(σ:Sx)(fa ca B:Addr)(cs:List Int)(Γ:List String)(h:Nat):Prop:=∀{s:Nat}{H:AH}{Q:b8},Feed H fa ca cs s->H B=some (.list (Γ.map .str))->s+2^(h+1)<10000->h<=2 ->
  (∀H' (t:Tr) s',t.ok Γ h->s'+1<=s+2^(h+1)->Only fa H H'->Feed H' fa ca cs s'->Q t.v H')->FCall σ (2+h) "_law_tree" [.ref fa,iv h,.ref B] H Q
noncomputable abbrev xB:ME:=.call "_law_tree" (.cons d6 (.cons (.bin .sub m6 f7) (.cons j0 .nil)))
noncomputable abbrev OV:MS:=.if1 (.or2 (.cmp1 .eq l8 l6) (.cmp1 .eq l8 o8)) [.ret (.tup (.cons (.cst (.str "g")) (.cons xB (.cons xB .nil))))] []
noncomputable abbrev OU:MS:=.if1 (.cmp1 .eq l8 f9) [.ret (.tup (.cons (.cst (.str "f")) (.cons xB .nil)))] []
def qO(T:Txt σ){fa O:Addr}{d s:Nat}{H:AH}(F:Feed H fa ca cs s)(Q:H O=some (.list (Γ.map .str)))(h0:0<Γ.length)(B:Γ.length<=4)(G:O≠fa)(hs:s<10000)(hf:l "feed"=some (.ref fa))(Y:l "leaves"=some (.ref O))(hw:l "way"=some (iv j))(J:j<2)(hd:1<=d) (k:∀H' y,y∈Γ->Only fa H H'->Feed H' fa ca cs (s+1)->K (.ret (Tr.leaf y).v) l H'):az σ d [OV,OU,.ret (.tup (.cons (.idx j0 (.call "_law_draw" (.cons d6 (.cons (.prim .len j0) .nil)))) .nil))] l H K:=by refine dM (y0 (kH 3 hw (by exact Na J)) (kH 4 hw (by exact Nb J))) (dM (kH 2 hw (by exact Nc J)) (cN (rest:=[]) ?_));refine aq (Bv (aA (.var Y) (fg (.cons (.var hf) (.cons (cY (.var Y) Q (u1 _) (s7 B (by decide))) .nil)) ((mZ T F hs h0 λH' i hi o Z=>?_).room hd))));exact cf (f:=V.str) ((o _ G).trans Q) (cR "" hi) (C6 (E8 hi B) (by decide)) (aR (k H' _ (z6 (cR "" hi)) o Z))
def oT{fa B:Addr}{h s:Nat}{H:AH}{Q:b8}(O:zb σ fa ca B cs Γ h)(hf:l "feed"=some (.ref fa))(hh:l "deep"=some (iv (h+1)))(J:l "leaves"=some (.ref B))(F:Feed H fa ca cs s)(G:H B=some (.list (Γ.map .str)))(hs:s+2^(h+1)<10000)(hz:h+1<=2) (q:∀H' (t:Tr) s',t.ok Γ h->s'+1<=s+2^(h+1)->Only fa H H'->Feed H' fa ca cs s'->Q t.v H'):aY σ (2+h) xB l H Q :=fg (.cons (.var hf) (.cons (.bin (u:=iv h) (.var hh) (w:=iv 1) .cst λQ q=>zk q) (.cons (.var J) .nil))) (O F G hs (Nat.le_of_succ_le hz) q)
def Fn(T:Txt σ){fa la:Addr}(h0:0<Γ.length)(ad:Γ.length<=4)(G:la≠fa)(h:Nat):zb σ fa ca la cs Γ h:=by
 induction h with
 |zero =>intro s H Q F hL hs _ q;refine ce (d:=1) T.ok T.law_tree rfl (cE (lf (aA (.var rfl) (aA .cst (bF _ _ rfl rfl (jc (E2 (by decide)) (aA .cst (af _ rfl ?_))))))));exact qO T F hL h0 ad G (by exact EJ hs) rfl rfl (j:=0) rfl (by decide) (z7 1) λH' y hy o f=>q H' (.leaf y) _ hy (z7 _) o f
 |succ h ih =>
  intro s H Q F hL hs hh q;have e2:2^(h+1+1)=2^(h+1)+2^(h+1):=by rw[Sn];exact Mo
  have p1:2<=2^(h+1):=by rw[Sn];obtain this:=Nat.two_pow_pos h;exact EK this
  refine ce (d:=2+h) T.ok T.law_tree rfl (cE (lf (aA (.var rfl) (aA .cst (bF _ _ rfl rfl (gW (D8 (by exact Mp)) (fg (.cons (.var rfl) (.cons (.cst (v:=iv 5)) .nil)) ((mZ T F (by exact EJ hs) (m:=5) (by decide) λH1 j Y o1 F1=>⟨_,rfl,?_⟩).room (by exact EL)))))))));obtain B:=(o1 _ G).trans hL;by_cases Z:j<2
  .exact qO T F1 B h0 ad G (by exact Mq e2 p1 hs) rfl rfl rfl Z (by exact EL) λH' y hy o f=>q H' (.leaf y) _ hy (by exact Mr e2 p1) (o1.trans' o) f
  by_cases Y:j=2
  .refine dM (y0 (kH 3 rfl (by exact Nf Y)) (kH 4 rfl (by exact Ng Y))) (ff (uU 2 rfl Y) (cN (aq (aA .cst (aq (oT ih rfl rfl rfl F1 B (by exact EM e2 hs p1) hh λH2 t s' ht J o2 F2=>aR (q H2 (.f t) s' ht (by exact Ms e2 J p1) (o1.trans' o2) F2)))))))
  .refine ff (?_:EvT σ _ _ _ true) (cN (aq (aA .cst (aq (oT ih rfl rfl rfl F1 B (by exact EM e2 hs p1) hh λH2 t s' ht J o2 F2=>aq (oT ih rfl rfl rfl F2 ((o2 _ G).trans B) (by exact Mt hs e2 J) hh λH3 u s2 hu hs2 o3 F3=>aR (q H3 (.g t u) s2 ⟨ht,hu⟩ (by exact Mu hs2 J e2) (o1.trans' (o2.trans' o3)) F3)))))));by_cases O:j=3
   .exact y0 (y:=decide (j=4)) (uU 3 rfl O) (.cmp (.var rfl) .cst λ_ q=>hJ q)
   .exact y0 (kH 3 rfl O) (uU 4 rfl (by exact Nh (by assumption) Y O Z))
end
def om(nd:Nd):gF (ag nd):=⟨by show(true&&bQ (nd.2.map iv))=true;rw[vB];rfl,by rw[(bL nd).2.1];decide⟩
theorem jE:∀{l:List V},(∀x∈l,dz x=true)->bQ l=true
 | [],_=>rfl
 |x::l,h=>by unfold bQ;rw[h x y4,jE λy hy=>h y (w9 _ hy)];rfl
def oj{l:List V}(h:∀x∈l,gF x):iy l:=⟨jE λx hx=>(h x hx).1,eG λx hx=>(h x hx).2⟩
def tN(N:List Nd):iy (N.map ag):=oj λx hx=>ah (w7.mp hx) λnd _ e=>e▸om nd
def oX(N:List Nd)(nd:Nd):mw (ag nd) (N.map ag)=true↔nd∈N:=by rw[oW,w7];exact⟨λh=>ah h λx hx e=>gc e▸hx,λh=>(af nd h rfl)⟩
theorem nE:∀(N:List Nd)(nd:Nd),nd∈N->∃i,N[i]?=some nd/\(N.map ag).findIdx? (λy=>cr y (ag nd))=some i
 | [],_,h=>absurd h y9
 |x::N,nd,h=>by
  rw[C4,List.findIdx?_cons];by_cases e:x=nd
  .exact(af 0 (B9 some e) (by rw[if_pos (by rw[aO,e])]))
  .rw[if_neg (by rw[aO];exactλz=>e (gc z))];refine ah (nE N nd ((A4.mp h).elim (λz=>absurd z.symm e) id)) λi B F=>?_;exact(af (i+1) B (by rw[F];rfl))
theorem Added.nodup{B:List Nd}(h:Added N nd B i)(n:N.Nodup):B.Nodup:=h.2.elim (λe=>e▸n) λe=>e.1▸G4.mpr ⟨n,C8.mpr ⟨y9,J5⟩,λa ha b F=>by rw[u5.mp F];rintro rfl;exact e.2 ha⟩
theorem Added.uniq{B F:List Nd}(n:N.Nodup)(h:Added N nd B i)(h':Added N nd F j):B=F/\i=j:=by
 have e:B=F:=by
  have G:=z6 h.1;obtain J:=z6 h'.1;rcases h.2 with a|a <;> rcases h'.2 with b|b
  .rw[a,b]
  .rw[a]at G;exact absurd G b.2
  .rw[b]at J;exact absurd J a.2
  .rw[a.1,b.1]
 subst e;exact⟨rfl,(SK (z5.mp h.1).1 (h.nodup n)).mp (h.1.trans h'.1.symm)⟩
theorem Built.nodup:∀{N G:List Nd}{i:Nat},Built N t G i->N.Nodup->G.Nodup:=by
 induction t with
 |leaf s=>exactλh n=>Added.nodup h n
 |f t a=>exactλh n=>cF h λ_ _ B F=>F.nodup (a B n)
 |g t u a b=>exactλh n=>Pd h λ_ _ _ _ B F J=>J.nodup (b F (a B n))
theorem Built.uniq:∀{N F G:List Nd}{i j:Nat},N.Nodup->Built N t F i->Built N t G j->F=G/\i=j:=by
 induction t with
 |leaf s=>exactλn h h'=>Added.uniq n h h'
 |f t a =>intro N F G i j n h h';refine cF h λ_ _ B J=>cF h' λ_ _ O Q=>?_;obtain⟨rfl,rfl⟩:=a n B O;exact J.uniq (B.nodup n) Q
 |g t u a b =>intro N F G i j n h h';refine Pd h λ_ _ _ _ B J O=>Pd h' λ_ _ _ _ Q Y Z=>?_;obtain⟨rfl,rfl⟩:=a n B Q;obtain⟨rfl,rfl⟩:=b (B.nodup n) J Y;exact O.uniq (J.nodup (B.nodup n)) Z
section
variable{H:AH}{Q:b8}
theorem kW(T:Txt σ){d:Nat}(hm:H ma=some (.list (N.map ag)))(hz:N.length<100)(J:l "mine"=some (.ref ma))(O:l "node"=some (ag nd)) (q:∀H' B i,Added N nd B i->H' ma=some (.list (B.map ag))->ExtB ma H H'->Q (iv i) H') : az σ d [.if1 (.cmp1 .notin c9 d7) [.expr (.meth d7 "append" (.cons c9 .nil))] [],.ret (.meth d7 "index" (.cons c9 .nil))] l H (kC Q):=by
 obtain key:=bL nd;obtain G:EvT σ l H (.cmp1 .notin c9 d7) (!mw (ag nd) (N.map ag)):=w6 (.var O) (.var J) λQ q=>.inl (jK _ hm (om nd) (tN N) q);obtain F:∀(H':AH)(B:List Nd)(i:Nat),B[i]?=some nd->(B.map ag).findIdx? (λy=>cr y (ag nd))=some i->(B=N\/B=N++[nd]/\nd∉N)->H' ma=some (.list (B.map ag))->B.length<200->ExtB ma H H'->az σ d [.ret (.meth d7 "index" (.cons c9 .nil))] l H' (kC Q):=λH' B i a b c e z x =>
  cN (rest:=[]) (gN (k:=.list) (.var J) ⟨by decide,(ey ma _ rfl e)⟩ (.cons (.var O) .nil) (bF ma _ rfl e (.inr (.inr (.inr ⟨rfl,(RT (ag nd) i rfl key.1 (by rw[key.2.1];decide) (gu λy hy=>ah (w7.mp hy) λn _ e=>e▸(bL n).1) (by rw[u1];exact D9 (C6 z (by decide))) b (q H' B i ⟨a,c⟩ e x))⟩)))))
 by_cases h:nd∈N
 .rw[(oX N nd).mpr h]at G;refine dM G ?_;refine ah (nE N nd h) λi a b=>?_;exact F H N i a b (.inl rfl) hm (C6 hz (by decide)) λ_ _ _ e=>e
 .rw[L0.mpr λz=>h ((oX N nd).mp z)]at G;refine ff G (jG (.var J) hm (.var O) (by rw[u1];exact C6 hz (by decide)) ?_);rw[pE ag N nd];refine ah (nE (N++[nd]) nd (C9 _ (u5.mpr rfl))) λi a b=>?_;exact F _ (N++[nd]) i a b (.inr ⟨rfl,h⟩) (AH.set_self _ _ _) (by rw[A6];exact C6 (Nat.add_lt_add_right hz 1) (by decide)) (ExtB.set (λ_ _ _ e=>e) _)
def HI(σ:Sx)(d:Nat)(l:Loc)(c:Addr)(v:V)(H:AH)(k:AH->Prop):Prop:=∃l',bz (.nm "kid") v (l.drop ["kid"])=some l'/\yS σ d none l' H λok H2=>if ok=true then aY σ d (.call "_law_ranked" (.cons d7 (.cons g7 .nil))) l' H2 λv H3=>∃ws,H3 c=some (.list ws)/\ws.length<2^20/\k (H3.set c (.list (ws++[v])))else k H2
noncomputable abbrev OF:List MS:=[.if1 (.cmp1 .notin c9 d7) [.expr (.meth d7 "append" (.cons c9 .nil))] [],.ret (.meth d7 "index" (.cons c9 .nil))]
theorem kT(T:Txt σ){d:Nat}{op:String}(hz:vs.length<=2)(k:∀c,H c=none->∀K:AH->Prop,(∀H' (ks:List Nat),H' c=some (.list (ks.map iv))->ks.length<=2 ->
  az σ d OF ((aT ["mine","tree"] [.ref ma,.tup (.str op::vs)]).put "node" (ag (op,ks))) H' (kC Q)->K H')->fk none (HI σ d (aT ["mine","tree"] [.ref ma,.tup (.str op::vs)]) c) vs (H.set c (.list [])) K):FCall σ (d+1) "_law_ranked" [.ref ma,.tup (.str op::vs)] H Q:=by
 refine ce T.ok T.law_ranked rfl (cE (gM (aA (Ev.tup (.cons (Ev.idx (v:=.tup (.str op::vs)) (w:=iv 0) (.var rfl) .cst λ_ q=>(jL 0 (.str op) rfl (by decide) rfl q)) .nil)) (bu (kB (aA (hV (.var rfl) (z0 hz (by decide))) ⟨s7 hz (by decide),λc hc=>af c rfl (k c hc _ λH' ks e hl w=>?_)⟩))))));exact aK _ e (by rw[u1];exact s7 hl (by decide)) ⟨by rw[u1];exact s7 (Q5 hl 1) (by decide),af _ rfl w⟩
def za(σ:Sx)(ma:Addr)(d:Nat)(t:Tr):Prop:=∀{H:AH}{Q:b8}{N:List Nd},H ma=some (.list (N.map ag))->N.length+t.sz<=100 ->
  (∀H' B i,Built N t B i->H' ma=some (.list (B.map ag))->ExtB ma H H'->Q (iv i) H')->FCall σ d "_law_ranked" [.ref ma,t.v] H Q
def kU{d:Nat}{c:Addr}{ks:List Nat}{K:AH->Prop}(hs:l "mine"=some (.ref ma))(hm:H ma=some (.list (N.map ag)))(hz:N.length+t.sz<=100)(hc:H c=some (.list (ks.map iv)))(hl:ks.length<=2)(B:c≠ma)(Q:za σ ma d t) (k:∀H' F i,Built N t F i->H' ma=some (.list (F.map ag))->H' c=some (.list ((ks++[i]).map iv))->(∀a o,a≠ma->a≠c->H a=some o->H' a=some o)->K H'):HI σ d l c t.v H K :=(af _ rfl (Bp (gW rfl (fg (.cons (.var ((am _ _ (by decide)).trans ((dE _ (by decide)).trans hs))) (.cons (.var (bH _ _ _)) .nil)) (Q hm hz λH2 G i b m x=>aK _ (x _ _ B hc) (by rw[u1];exact z0 hl (by decide)) (k _ G i b ((p6 _ _ B.symm).trans m) ((AH.set_self _ _ _).trans (by rw[pE iv ks i])) λa o J O e=>(p6 _ _ O).trans (x _ _ J e)))))))
def zt(T:Txt σ)(t:Tr):∀{h:Nat},t.ok Γ h->za σ ma (h+1) t:=by
 have J:∀{H:AH}{c:Addr}{o:AO},H ma=some o->H c=none->c≠ma:=λa b z=>by rw[z,a]at b;exact sn b
 obtain xb:∀{H H':AH}{c:Addr}{o:AO},H c=none->ExtB ma (H.set c o) H'->ExtB ma H H':=λhc x a o h e=>x a o h (w4 _ hc _ _ e);induction t with
 |leaf s =>intro h _ H Q N hm hz q;refine(kT (d:=0) T (vs:=[]) (by decide) λc hc K k=>⟨trivial,k _ [] (AH.set_self _ _ _) (by decide) ?_⟩).room (SD 1 h);exact kW T ((p6 _ _ (J hm hc).symm).trans hm) (E8 (K3 _) hz) rfl rfl λH' O i a e x=>q H' O i a e (xb hc x)
 |f t Y =>
  intro h;rcases h with _|h
  .exactλht=>ht.elim
  intro ht H Q N hm hz q;refine kT T (vs:=[t.v]) (P7 1) λc hc K k=>⟨trivial,kU rfl ((p6 _ _ (J hm hc).symm).trans hm) (by simp only[Tr.sz]at hz;exact NW hz) (ks:=[]) (AH.set_self _ _ _) (by decide) (J hm hc) (Y ht) λH2 N2 i b m e x=>⟨trivial,k H2 [i] e (P7 1) ?_⟩⟩;refine kW T m ?_ rfl rfl λH' O i a e y=>q H' O i (ey _ _ b a) e λa o F G=>y a o F (x a o F (λz=>nn hc (z▸G)) (w4 _ hc _ _ G));obtain B:=b.len;simp only[Tr.sz]at hz;exact NX hz B.2.2
 |g t u Y Z =>
  intro h;rcases h with _|h
  .exactλht=>ht.elim
  intro ht H Q N hm hz q;refine kT T (vs:=[t.v,u.v]) (z7 2) λc hc K k=>⟨trivial,kU rfl ((p6 _ _ (J hm hc).symm).trans hm) (by simp only[Tr.sz]at hz;exact NY hz) (ks:=[]) (AH.set_self _ _ _) (by decide) (J hm hc) (Y ht.1) λH2 N2 i b m e x=>⟨trivial,kU rfl m ?_ e (P7 1) (J hm hc) (Z ht.2) λH3 N3 j b2 m2 e2 x2=>⟨trivial,k H3 [i,j] e2 (z7 2) ?_⟩⟩⟩
  .obtain B:=b.len;simp only[Tr.sz]at hz;exact NZ hz B.2.2
  refine kW T m2 ?_ rfl rfl λH' O i a e y=>q H' O i (RU _ _ _ _ b b2 a) e λa o F G=>y a o F (x2 a o F (λz=>nn hc (z▸G)) (x a o F (λz=>nn hc (z▸G)) (w4 _ hc _ _ G)));obtain B:=b.len;obtain B:=b2.len;simp only[Tr.sz]at hz;omega
end
noncomputable abbrev hf(h:List Nat)(i:Nat):Nat:=h.getD i 0
structure HOk(N:List Nd)(P:List (Nat×Nat))(h:List Nat):Prop where
 len:h.length=N.length
 rle:∀i,i<N.length->hf h i<=i/\hf h (hf h i)=hf h i
 fit:∀f,Cong N P f->∀i,i<N.length->f (hf h i)=f i
structure SmOk(N:List Nd)(P:List (Nat×Nat))(h:List Nat)(sm:List (Nat×Nat)):Prop where
 ok:∀p∈sm,(p.1<N.length/\p.2<N.length)/\∀f,Cong N P f->f p.1=f p.2
 told:∀p∈P,p∈sm
 hit:∀i j,i<N.length->j<N.length->cn N (hf h) i=cn N (hf h) j->∃m,(i,m)∈sm/\(j,m)∈sm
def mP(N:List Nd):Prop:=∀i,i<N.length->∀k∈(N.getD i ("",[])).2,k<i
section
variable{h:List Nat}
def HOk.lt(O:HOk N P h)(hi:i<N.length):hf h i<N.length:=z0 (O.rle i hi).1 hi
def HOk.start:HOk N P (List.range N.length):=by
 have e:∀i,i<N.length->hf (List.range N.length) i=i:=λi hi=>by unfold hf;rw[C1,List.getElem?_range hi];rfl
 exact⟨Sd,λi hi=>by rw[e i hi,e i hi];exact⟨z7 _,rfl⟩,λf _ i hi=>by rw[e i hi]⟩
noncomputable def qo(h:List Nat)(x y:Nat):List Nat:=h.map λz=>if z=max x y then min x y else z
def zY(O:HOk N P h)(x y:Nat)(hi:i<N.length):hf (qo h x y) i=if hf h i=max x y then min x y else hf h i:=tc _ _ _ 0 _ (by rw[O.len];exact hi)
def DR{M:Nat->Nat->Prop}{x y:Nat}(B:M x y)(F:M y x):M (min x y) (max x y):=by
 rcases D3 x y with h|h
 .rw[Q7 h,M6 h];exact B
 .rw[P9 h,M0 h];exact F
theorem HOk.join(O:HOk N P h)(ha:a<N.length)(G:b<N.length)(Q:hf h a≠hf h b)(J:∀f,Cong N P f->f a=f b):HOk N P (qo h (hf h a) (hf h b)):=by
 obtain lt:min (hf h a) (hf h b)<max (hf h a) (hf h b):=by exact EW Q
 obtain rt:hf h (min (hf h a) (hf h b))=min (hf h a) (hf h b)/\hf h (max (hf h a) (hf h b))=max (hf h a) (hf h b):=DR (M:=λx y=>hf h x=x/\hf h y=y) ⟨(O.rle a ha).2,(O.rle b G).2⟩ ⟨(O.rle b G).2,(O.rle a ha).2⟩;obtain Y:∀f,Cong N P f->f (min (hf h a) (hf h b))=f (max (hf h a) (hf h b)):=λf F=>by
  obtain e:f (hf h a)=f (hf h b):=by rw[O.fit f F a ha,O.fit f F b G];exact J f F
  exact DR (M:=λx y=>f x=f y) e e.symm
 obtain Z:max (hf h a) (hf h b)<N.length:=by obtain B:=O.lt ha;obtain B:=O.lt G;exact Oa (by assumption) B
 obtain A:=λ(i:Nat)(hi:i<N.length)=>zY O (hf h a) (hf h b) hi;refine⟨by unfold qo;rw[u1];exact O.len,λi hi=>?_,λf F i hi=>?_⟩
 .obtain r:=O.rle i hi;rw[A i hi];by_cases z:hf h i=max (hf h a) (hf h b)
  .rw[if_pos z,A _ (C6 lt Z),rt.1,if_neg (E9 lt)];exact⟨by exact Oc z r.1,rfl⟩
  .rw[if_neg z,A _ (O.lt hi),r.2,if_neg z];exact⟨r.1,rfl⟩
 .rw[A i hi];by_cases z:hf h i=max (hf h a) (hf h b)
  .rw[if_pos z,Y f F,<- z];exact O.fit f F i hi
  .rw[if_neg z];exact O.fit f F i hi
theorem oP(g:Nat->Nat)(B:∀y,g y<=y):∀l:List Nat,(l.map g).sum<=l.sum
 | []=>z7 _
 |a::l=>by rw[C4,List.sum_cons,List.sum_cons];exact O7 (B a) (oP g B l)
theorem oQ(g:Nat->Nat)(B:∀y,g y<=y){x:Nat}(hx:g x<x):∀{l:List Nat},x∈l->(l.map g).sum<l.sum
 |a::l,h=>by
  rw[C4,List.sum_cons,List.sum_cons];rcases A4.mp h with e|h
  .rw[<- e];exact Nat.add_lt_add_of_lt_of_le hx (oP g B l)
  .exact Nat.add_lt_add_of_le_of_lt (B a) (oQ g B hx h)
def HOk.less(O:HOk N P h)(ha:a<N.length)(F:b<N.length)(B:hf h a≠hf h b):(qo h (hf h a) (hf h b)).sum<h.sum:=by
 obtain m:∀i,i<N.length->hf h i∈h:=λi hi=>z6 (cR 0 (by rw[O.len];exact hi));have hm:max (hf h a) (hf h b)∈h:=by
  rcases D3 (hf h a) (hf h b)with z|z
  .rw[M6 z];exact m b F
  .rw[M0 z];exact m a ha
 refine oQ _ (λy=>?_) (x:=max (hf h a) (hf h b)) ?_ hm
 .show(if y=_ then _ else y)<=y;split <;>(first|exact Od (by assumption)|exact Ax)
 .show(if _=_ then _ else _)<_;rw[if_pos rfl];exact EW B
def SmOk.cong{sm:List (Nat×Nat)}(S:SmOk N P h sm)(e:∀p∈sm,hf h p.1=hf h p.2):Cong N P (hf h):=⟨λp hp=>e p (S.told p hp),λi j hi G z=>ah (S.hit i j hi G z) λm B F=>(e _ B).trans (e _ F).symm⟩
def Fs(O:HOk N P h)(K:mP N){f:Nat->Nat}(F:Cong N P f)(hi:i<N.length)(B:j<N.length)(e:cn N (hf h) i=cn N (hf h) j):f i=f j:=by
 obtain g:∀i,i<N.length->cn N f i=((cn N (hf h) i).1,(cn N (hf h) i).2.map f):=λi hi=>by unfold cn;rw[I8];exact B9 (Prod.mk _) (G3 λk hk=>(O.fit f F k (C6 (K i hi k hk) hi)).symm)
 exact F.2 i j hi B (by rw[g i hi,g j B,e])
theorem HOk.eq(O:HOk N P h)(C:Cong N P (hf h)){r:Nat->Nat}(R:∀i,i<N.length->r i<=i/\r (r i)=r i)(F:∀f,Cong N P f->∀i,i<N.length->f (r i)=f i)(B:Cong N P r)(hi:i<N.length):hf h i=r i:=by obtain a:=O.fit r B i hi;obtain b:=F _ C i hi;obtain c:=(R _ (O.lt hi)).1;obtain d:=(O.rle (r i) (z0 (R i hi).1 hi)).1;exact A8 (b▸d) (a▸c)
end
noncomputable abbrev pv(p:Nat×Nat):V:=.tup [iv p.1,iv p.2]
noncomputable abbrev Ae(p:Nd×Nat):V×V:=(ag p.1,iv p.2)
section
variable{H:AH}{d:Nat}{e:ME}
theorem EvT.var{x:String}{b:Bool}(h:l x=some (.bool b)):EvT σ l H (.var x) b:=λ_ _ q=>af b h q
def Bq{x y:String}{b:List MS}{a:Addr}{f:α->V}{vs:List α}(Z:Ev σ l H e (.ref a))(ha:H a=some (.list (vs.map f)))(hz:vs.length<=1000)(I:Nat->Loc->AH->Prop)(h0:I 0 l H)(hs:∀i l H,I i l H->H a=some (.list (vs.map f))) (step:∀i v l H k,vs[i]?=some v->I i l H->(∀l' H',I (i+1) l' H'->k .next l' H')->az σ d b ((l.put x (iv i)).put y (f v)) H k) (Y:∀l H,I vs.length l H->az σ d rest l H K):az σ d (.for1 (.tp2 (.nm x) (.nm y)) (.enum e) b::rest) l H K:=by
 have O:(gP (vs.map f)).length=vs.length:=by rw[qh,u1]
 refine Z d _ (jL a _ rfl ha (by rw[u1];exact hz) (dG (src:=some (a,vs.map f)) (λxs l H=>∃i,xs=(gP (vs.map f)).drop i/\i<=vs.length/\I i l H) (λ_ l H z=>bR z λi _ _ z=>hs i l H z) (λv xs l H k z hk=>?_) (λl H z=>?_) _ l H (aK 0 rfl (E1 _) h0)))
 .refine bR z λi ex hi F=>?_;have Q:(gP (vs.map f))[i]?=some v:=by
   obtain B:((gP (vs.map f)).drop i)[0]?=some v:=by rw[<- ex];rfl
   rwa [P3,Nat.add_zero]at B
  obtain J:i<vs.length:=by rw[<- O];exact(z5.mp Q).1
  refine ah (qg Q) λw hw e=>?_;rw[B6]at hw;refine ah (D7.mp hw) λu hu e2=>?_;subst e;subst e2;exact af _ rfl (step i u l H k hu F λl' H' G=>hk l' H' (aK (i+1) (by rw[<- List.tail_drop,<- ex];rfl) J G))
 .refine bR z λi ex hi F=>?_;obtain B:i=vs.length:=by obtain B:=List.drop_eq_nil_iff.mp ex.symm;exact Mw O B hi
  subst B;exact Y l H F
noncomputable abbrev HE:ME:=.bin .add (.tup (.cons (.idx c9 c8) .nil)) (.prim .tuple (.comp (.idx d9 k6) (.one (.nm "k") (.exp (.slc c9 (some 1) none)) none)))
def Bw{ha:Addr}{h:List Nat}{Q:b8}(J:l "node"=some (ag nd))(O:l "homes"=some (.ref ha))(hh:H ha=some (.list (h.map iv)))(hz:nd.2.length<=2)(hk:∀k∈nd.2,k<h.length)(G:h.length<=60)(q:∀H',Ext H H'->Q (ag (nd.1,nd.2.map (hf h))) H'):aY σ d HE l H Q:=by
 refine gM (aA (Ev.tup (.cons (Ev.idx (v:=ag nd) (w:=iv 0) (u:=.str nd.1) (.var J) .cst λ_ q=>(jL 0 _ rfl (by decide) rfl q)) .nil)) (bu (kA nd.2 iv (λk=>iv (hf h k)) (hV (v:=.str nd.1) (.var J) (vr hz)) (z0 hz (by decide)) (λk F H' Y x q=>aA (Ev.idx (.var ?_) (.var rfl) λ_ q=>cf (x _ _ hh) (cR 0 (hk k F)) (mq (hk k F) G) q) (q H' (w3 _))) λc H' x _ e=>aK _ e (by rw[u1];exact s7 hz (by decide)) ⟨by rw[u1];exact s7 (Q5 hz 1) (by decide),?_⟩)))
 .exact O
 .obtain B:=q H' x;unfold ag at B;rw[I8]at B;exact B
structure SmI(N:List Nd)(P:List (Nat×Nat))(h:List Nat)(H0:AH)(ma ha sa se:Addr)(l0:Loc)(i:Nat)(l:Loc)(H:AH)(qs:List (Nat×Nat))(kk:List (Nd×Nat)):Prop where
 loc:∀y,y≠"n"->y≠"node"->l y=l0 y
 x:Ext H0 H
 s:H sa=some (.list (qs.map pv))
 e:H se=some (.dict (kk.map Ae))
 k1:∀p∈kk,p.2<i/\p.1=cn N (hf h) p.2
 k2:∀j,j<i->∃m,ax (kk.map Ae) (ag (cn N (hf h) j))=some (iv m)/\(j,m)∈qs
 s1:∀p∈qs,p∈P\/(p.1<i/\p.2<i/\cn N (hf h) p.1=cn N (hf h) p.2)
 s2:∀p∈P,p∈qs
 z1:qs.length=P.length+i
 z2:kk.length<=i
def vi(kk:List (Nd×Nat))(nd:Nd):keyFits (kk.map Ae) (ag nd):=by refine⟨by rw[(bL nd).2.2];decide,λp hp=>?_⟩;refine ah (w7.mp hp) λx _ z=>?_;subst z;rw[(bL nd).2.2];exact(bL _).2.2
def yZ(N:List Nd):Prop:=N.length<=60/\∀nd∈N,nd.2.length<=2
def DH{f:Nat->Nat}(h:N[i]?=some nd):cn N f i=(nd.1,nd.2.map f):=by unfold cn;rw[C1,h];rfl
noncomputable abbrev RJ:List MS:=[.expr (.meth n9 "append" (.cons (.tup (.cons d8 (.cons (.meth (.var "seen") "setdefault" (.cons HE (.cons d8 .nil))) .nil))) .nil))]
theorem Dj{h:List Nat}{ha sa se:Addr}{l0:Loc}{qs:List (Nat×Nat)}{kk:List (Nd×Nat)}(I:SmI N P h H0 ma ha sa se l0 i l H qs kk)(hi:N[i]?=some nd)(O:HOk N P h)(Kd:mP N)(No:yZ N)(hP:P.length<=10)(hh:H0 ha=some (.list (h.map iv))) (h1:l0 "some"=some (.ref sa)) (h2:l0 "seen"=some (.ref se)) (h3:l0 "homes"=some (.ref ha)) (n1:H0 sa=none) (n2:H0 se=none) (n3:sa≠se) (k:∀l' H' qs' B,SmI N P h H0 ma ha sa se l0 (i+1) l' H' qs' B->K .next l' H'):az σ d RJ ((l.put "n" (iv i)).put "node" (ag nd)) H K:=by
 have G:i<N.length:=(z5.mp hi).1;have F:=No.1;have lo:∀y,y≠"n"->y≠"node"->((l.put "n" (iv i)).put "node" (ag nd)) y=l0 y:=λy a b=>(am _ _ b).trans ((am _ _ a).trans (I.loc y a b));obtain gn:N.getD i ("",[])=nd:=by rw[C1,hi];rfl
 obtain hk:∀k∈nd.2,k<h.length:=λk hk=>by rw[O.len];exact C6 (Kd i G k (by rw[gn];exact hk)) G
 obtain hz:=No.2 nd (z6 hi);obtain hsm:(qs.map pv).length<2^20:=by rw[u1,I.z1];exact Oj F G hP
 obtain hkk:(kk.map Ae).length<2^20:=by rw[u1];exact z0 (s7 I.z2 (s7 (D9 G) F)) (by decide)
 obtain ec:cn N (hf h) i=(nd.1,nd.2.map (hf h)):=DH hi;have Y:∀(H2:AH)(m:Nat)(B:List (Nd×Nat)),H2 sa=some (.list (qs.map pv))->H2 se=some (.dict (B.map Ae))->Ext H0 H2->(∀p∈B,p.2<i+1/\p.1=cn N (hf h) p.2)->(∀j m,ax (kk.map Ae) (ag (cn N (hf h) j))=some (iv m)->ax (B.map Ae) (ag (cn N (hf h) j))=some (iv m)) ->
   ax (B.map Ae) (ag (cn N (hf h) i))=some (iv m)->B.length<=i+1->nN H2 (λr H3=>iz r/\az σ d [] ((l.put "n" (iv i)).put "node" (ag nd)) H3 K) (.ref sa) "append" [pv (i,m)]:=λH2 m B a b x f1 f2 f3 f4=>by
  have hm:m<i+1/\cn N (hf h) i=cn N (hf h) m:=by
   rcases eW B (cn N (hf h) i)with⟨m',c1,J⟩|c
   .obtain rfl:=eI (sm f3 J);exact f1 _ c1
   .exact nn c f3
  refine jz a hsm ⟨trivial,k _ _ (qs++[(i,m)]) B ⟨lo,x.setc n1 _,(AH.set_self _ _ _).trans (by rw[pE pv qs (i,m)]),(p6 _ _ n3.symm).trans b,f1,λj Q=>?_,λp hp=>?_,λp hp=>E0 _ (I.s2 p hp),?_,f4⟩⟩
  .rcases Nat.lt_succ_iff_lt_or_eq.mp Q with Q|Q
   .exact ah (I.k2 j Q) λm' c1 J=>af m' (f2 j m' c1) (E0 _ J)
   .rw[Q];exact af m f3 (C9 _ (u5.mpr rfl))
  .rcases C2.mp hp with hp|hp
   .exact(I.s1 p hp).imp id λz=>(cO (L4 z.1) (L4 z.2.1) z.2.2)
   .rw[u5.mp hp];exact .inr ⟨K3 i,hm⟩
  .rw[A6,I.z1];rfl
 refine iY (.var ((lo _ (by decide) (by decide)).trans h1)) I.s (aq (aA (.var rfl) (aq (af _ ((lo _ (by decide) (by decide)).trans h2) (af .dict ⟨by decide,(ey se _ rfl I.e)⟩ (aq (Bw (bH _ _ _) ((lo _ (by decide) (by decide)).trans h3) (I.x _ _ hh) hz hk (by rw[O.len];exact F) λH1 Z=>aq (aA (.var rfl) (aR (bF se _ rfl (Z _ _ I.e) (.inr (.inl ⟨rfl,jL _ _ rfl (vi kk _) hkk ?_⟩))))))))))));rw[<- ec];obtain x2:=I.x.trans' Z;rcases eW kk (cn N (hf h) i)with⟨m,c1,J⟩|c
 .have J:ax (kk.map Ae) (ag (cn N (hf h) i))=some (iv m):=J;rw[J];exact aR (Y H1 m kk (Z _ _ I.s) (Z _ _ I.e) x2 (λp hp=>⟨L4 (I.k1 p hp).1,(I.k1 p hp).2⟩) (λ_ _ h=>h) J (Nat.le_succ_of_le I.z2))
 .have c:ax (kk.map Ae) (ag (cn N (hf h) i))=none:=c;rw[c];refine aR (Y _ i (kk++[(cn N (hf h) i,i)]) ((p6 _ _ n3).trans (Z _ _ I.s)) ((AH.set_self _ _ _).trans (by rw[pE Ae kk (cn N (hf h) i,i)])) (x2.setc n2 _) (λp hp=>?_) (λj m Q=>?_) ?_ ?_)
  .rcases C2.mp hp with hp|hp
   .exact⟨L4 (I.k1 p hp).1,(I.k1 p hp).2⟩
   .rw[u5.mp hp];exact⟨K3 i,rfl⟩
  .rw[B7];exact dR Q
  .rw[B7,cP c];exact(aM ..).trans (if_pos (bE _))
  .rw[A6];exact I7 I.z2
end
section
variable{H:AH}{d:Nat}
noncomputable abbrev Rf:List MS:=[.asg (.tg (.tp2 (.nm "low") (.nm "high"))) (.prim .sorted (.lst (.cons (.idx d9 i9) (.cons (.idx d9 m9) .nil)))),.if1 (.cmp1 .ne n6 m7) [.asg (.tg (.tp2 (.nm "homes") (.nm "is_new"))) (.tup (.cons (.comp (.ite (.cmp1 .eq o4 m7) n6 o4) (.one (.nm "home") (.exp d9) none)) (.cons j6 .nil)))] []]
def CS{h:List Nat}{x:Addr}(O:HOk N P h)(Z:N.length<=60)(ha:a<N.length)(hb:b<N.length)(Q:l "homes"=some (.ref x))(hh:H x=some (.list (h.map iv)))(h2:l "a"=some (iv a))(Y:l "b"=some (iv b)) (k1:hf h a=hf h b->∀l' H',(∀y,y∉["low","high"]->l' y=l y)->Ext H H'->K .next l' H') (k2:hf h a≠hf h b->∀l' H' y,(∀y,y∉["low","high","homes","is_new"]->l' y=l y)->l' "homes"=some (.ref y)->l' "is_new"=some (.bool true)->Ext H H'->H' y=some (.list ((qo h (hf h a) (hf h b)).map iv))->K .next l' H'):az σ d Rf l H K:=by
 obtain hz:h.length<=60:=by rw[O.len];exact Z
 obtain at_:∀{y:String}{i:Nat},l y=some (iv i)->i<N.length->Ev σ l H (.idx d9 (.var y)) (iv (hf h i)):=λe hi=>(Ev.var Q).idx (.var e) λ_ q=>cf hh (cR 0 (by rw[O.len];exact hi)) (mq hi Z) q;refine cE (bu (dl (aq (aA (at_ h2 ha) (aq (aA (at_ Y hb) (aR λc hc=>.inl (aK _ (AH.set_self _ _ _) (dc (l:=[hf h a,hf h b]) (show 2<64 by decide)) λJ hc2=>?_))))))));have B:Ext H ((H.set c (.list [iv (hf h a),iv (hf h b)])).set J (.list (aH [iv (hf h a),iv (hf h b)]))):=(w4 _ hc).trans' (w4 _ hc2);rw[Bn]at B ⊢;refine af _ (pR (AH.set_self _ _ _)) ?_;generalize (H.set c (.list [iv (hf h a),iv (hf h b)])).set J (.list [iv (min (hf h a) (hf h b)),iv (max (hf h a) (hf h b))])=H1 at *;obtain F:EvT σ ((l.put "low" (iv (min (hf h a) (hf h b)))).put "high" (iv (max (hf h a) (hf h b)))) H1 (.cmp1 .ne n6 m7) _:=.cmp (.var rfl) (.var rfl) λ_ q=>nV _ _ _ _ q;obtain lo:∀y,y∉["low","high"]->((l.put "low" (iv (min (hf h a) (hf h b)))).put "high" (iv (max (hf h a) (hf h b)))) y=l y:=λy hy=>(am _ _ λz=>hy (by rw[z];exact .tail _ (.head _))).trans (am _ _ λz=>hy (by rw[z];exact .head _));by_cases G:hf h a=hf h b
 .rw[vt (by rw[G,Nat.min_self,Nat.max_self])]at F;exact dM F (k1 G _ _ lo B)
 .rw[Ao (by exact Ol G)]at F;obtain hl:((l.put "low" (iv (min (hf h a) (hf h b)))).put "high" (iv (max (hf h a) (hf h b)))) "homes"=some (.ref x):=(lo _ (by decide)).trans Q;refine ff F (cE (aq (kB (aA (.var hl) (gq (B _ _ hh) (by rw[u1];exact s7 hz (by decide)) ?_)))));refine jS (src:=some (x,h.map iv)) h iv (λy=>iv (if y=max (hf h a) (hf h b)then min (hf h a) (hf h b)else y)) (B _ _ hh) (z0 hz (by decide)) (λy hy H' Q' x3 q=>lf (aA (.var (bH _ _ _)) (aA (.var rfl) (hJ ?_)))) λc3 H3 x3 Y e3=>aq (aA .cst (aR (af _ rfl ?_)))
  .by_cases z:y=max (hf h a) (hf h b)
   .rw[if_pos z]at q;exact gW (D8 z) (aA (.var rfl) (q H' (w3 _)))
   .rw[if_neg z]at q;exact jc (E2 z) (aA (.var (bH _ _ _)) (q H' (w3 _)))
  .refine k2 G _ H3 c3 (λy hy=>?_) rfl rfl (B.trans' x3) ?_
   .refine(am _ _ λz=>hy (by rw[z];decide)).trans ((am _ _ λz=>hy (by rw[z];decide)).trans (lo y λz=>hy ?_));rcases A4.mp z with z|z
    .rw[z];decide
    .rw[u5.mp z];decide
   .rw[e3];unfold qo;rw[I8];rfl
structure PrI(N:List Nd)(P:List (Nat×Nat))(h:List Nat)(l0:Loc)(H0:AH)(qs rest:List (Nat×Nat))(l:Loc)(H:AH)(h':List Nat)(b:Bool)(y:Addr):Prop where
 loc:∀z,z∉["a","b","low","high","homes","is_new"]->l z=l0 z
 hm:l "homes"=some (.ref y)
 nw:l "is_new"=some (.bool b)
 x:Ext H0 H
 hy:H y=some (.list (h'.map iv))
 ok:HOk N P h'
 f:b=false->h'=h/\∀p∈qs,p∈rest\/hf h p.1=hf h p.2
 t:b=true->h'.sum<h.sum
 sub:∀p∈rest,p∈qs
def CR{h:List Nat}{qs:List (Nat×Nat)}{sa x:Addr}(O:HOk N P h)(hn:N.length<=60)(S:SmOk N P h qs)(hz:qs.length<=100)(hs:H sa=some (.list (qs.map pv)))(Q:l "homes"=some (.ref x))(Y:l "is_new"=some (.bool false))(Z:l "some"=some (.ref sa))(hh:H x=some (.list (h.map iv))) (k:∀l' H' h' b y,PrI N P h l H qs [] l' H' h' b y->az σ d rest l' H' K):az σ d (.for1 (.tp2 (.nm "a") (.nm "b")) (.exp n9) Rf::rest) l H K:=by
 refine qS (aA (.var Z) (gq hs (by rw[u1];exact s7 hz (by decide)) (dG (src:=some (sa,qs.map pv)) (λxs l' H'=>∃rest h' b y,xs=rest.map pv/\PrI N P h l H qs rest l' H' h' b y) (λxs l' H' z=>Pc z λ_ _ _ _ z=>z.2.x _ _ hs) (λv xs l' H' k' z hk=>?_) (λl' H' z=>?_) _ _ _ (QY qs h false x rfl ⟨λ_ _=>rfl,Q,Y,w3 _,hh,O,λ_=>⟨rfl,λp hp=>.inl hp⟩,λz=>ai z,λ_ h=>h⟩))))
 .refine Rk z λrest h' b y ex I=>?_;rcases rest with _|⟨p,rest⟩
  .exact(E7 _ _ ex).elim
  refine cq (K2 ex) λaX bV=>?_;subst aX;subst bV;have hp:=S.ok p (I.sub p y4);have B:∀q∈rest,q∈qs:=λq h=>I.sub q (w9 _ h);have lo:∀z,z∉["a","b","low","high","homes","is_new"]->((l'.put "a" (iv p.1)).put "b" (iv p.2)) z=l z:=λz hz=>(am _ _ λe=>hz (by rw[e];decide)).trans ((am _ _ λe=>hz (by rw[e];decide)).trans (I.loc z hz));refine af _ rfl (CS I.ok hn hp.1.1 hp.1.2 (l:=(l'.put "a" (iv p.1)).put "b" (iv p.2)) I.hm I.hy rfl rfl (λe l2 H2 kp F=>hk _ _ (QY rest h' b y rfl ⟨λz hz=>(kp z λm=>hz ?_).trans (lo z hz),(kp _ (by decide)).trans I.hm,(kp _ (by decide)).trans I.nw,I.x.trans' F,F _ _ I.hy,I.ok,λG=>⟨(I.f G).1,λq hq=>?_⟩,I.t,B⟩)) λe l2 H2 y2 kp e1 e2 F J=>hk _ _ (QY rest _ true y2 rfl ⟨λz hz=>(kp z λm=>hz ?_).trans (lo z hz),e1,e2,I.x.trans' F,J,I.ok.join hp.1.1 hp.1.2 e hp.2,λz=>ai z.symm,λ_=>?_,B⟩))
  .rcases A4.mp m with m|m
   .rw[m];decide
   .rw[u5.mp m];decide
  .rcases(I.f G).2 q hq with m|m
   .rcases A4.mp m with m|m
    .rw[m,<- (I.f G).1];exact .inr e
    .exact .inl m
   .exact .inr m
  .exact w9 _ (w9 _ m)
  .obtain this:=I.ok.less hp.1.1 hp.1.2 e;cases b with
   |true=>exact C6 this (I.t rfl)
   |false=>rw[<- (I.f rfl).1];exact this
 .refine Rk z λrest h' b y ex I=>?_
  have:rest=[]:=Sk.mp ex.symm
  subst this;exact k _ _ _ _ _ I
structure WI(N:List Nd)(P:List (Nat×Nat))(ma pa:Addr)(H0:AH)(m:Nat)(l:Loc)(H:AH)(h:List Nat)(b:Bool)(x:Addr):Prop where
 m:m=2*h.sum+if b then 1 else 0
 l1:l "mine"=some (.ref ma)
 l2:l "pairs"=some (.ref pa)
 hm:l "homes"=some (.ref x)
 nw:l "is_new"=some (.bool b)
 xt:Ext H0 H
 hx:H x=some (.list (h.map iv))
 ok:HOk N P h
 c:b=false->Cong N P (hf h)
theorem BS(T:Txt σ){Q:b8}{pa:Addr}(hm:H ma=some (.list (N.map ag)))(hp:H pa=some (.list (P.map pv)))(No:yZ N)(Kd:mP N)(hP:P.length<=10)(hPn:∀p∈P,p.1<N.length/\p.2<N.length) (q:∀h H' x,Ext H H'->H' x=some (.list (h.map iv))->HOk N P h->Cong N P (hf h)->Q (.ref x) H'):FCall σ 1 "_law_homes" [.ref ma,.ref pa] H Q:=by
 have O:=No.1;refine ce T.ok T.law_homes rfl (cE (aq (bu (aA (cY (.var rfl) hm (u1 _) (s7 O (by decide))) (cO (J9 _) (Int.ofNat_le.mpr (s7 O (by decide))) (λx hx=>aq (aA .cst (aR (af _ rfl ?_)))))))));rw[N5,yA];refine vU (λm l H'=>∃h b x,WI N P ma pa H m l H' h b x) _ (Pe (List.range N.length) true x ⟨rfl,rfl,rfl,rfl,rfl,w4 _ hx,AH.set_self _ _ _,HOk.start,λz=>ai z.symm⟩) λm l H1 z=>?_;refine Pi z λh b x I=>?_;rcases b with _|_
 .exact .inr ⟨.var I.nw,bY (.var I.hm) (q h H1 x I.xt I.hx I.ok (I.c rfl))⟩
 .refine .inl ⟨.var I.nw,λK' k _=>cE (aq (aA .cst (aq (bu (aA (.var I.l2) (aK _ (I.xt _ _ hp) (by rw[u1];exact s7 hP (by decide)) λsa Y=>aq ?_))))))⟩;refine Fd dictOK.nil (λ_ h=>absurd h y9) rfl (by decide) λse J=>aR (af _ rfl ?_);have n3:sa≠se:=λz=>by rw[<- z,AH.set_self]at J;exact sn J
  have n2:H1 se=none:=by rwa [p6 _ _ n3.symm]at J
  obtain x1:Ext H1 ((H1.set sa (.list (P.map pv))).set se (.dict [])):=(w4 _ Y).setc n2 _;obtain e1:((H1.set sa (.list (P.map pv))).set se (.dict [])) sa=some (.list (P.map pv)):=(p6 _ _ n3).trans (AH.set_self _ _ _);obtain e2:((H1.set sa (.list (P.map pv))).set se (.dict [])) se=some (.dict []):=AH.set_self _ _ _;refine Bq (a:=ma) (f:=ag) (vs:=N) (.var I.l1) (x1 _ _ (I.xt _ _ hm)) (s7 O (by decide)) (λi l' H'=>∃qs kk,SmI N P h H1 ma x sa se (((l.put "is_new" (.bool false)).put "some" (.ref sa)).put "seen" (.ref se)) i l' H' qs kk) (uD P ([]) ⟨λ_ _ _=>rfl,x1,e1,e2,λ_ h=>absurd h y9,λ_ h=>absurd h (J3 _),λp hp=>.inl hp,λ_ h=>h,rfl,z7 _⟩) (λi l' H' z=>ph z λ_ _ B=>B.x _ _ (I.xt _ _ hm)) (λi nd l' H' k' hi z hk=>?_) λl2 H2 z=>?_
  .exact ph z λqs kk B=>Dj B hi I.ok Kd No hP I.hx rfl rfl I.hm Y n2 n3 λl3 H3 qs3 kk3 G=>hk l3 H3 (uD qs3 kk3 G)
  .refine ph z λqs kk B=>?_;have S:SmOk N P h qs:=⟨λp hp=>(B.s1 p hp).elim (λm=>⟨hPn p m,λf F=>F.1 p m⟩) λm=>⟨⟨m.1,m.2.1⟩,λf F=>Fs I.ok Kd F m.1 m.2.1 m.2.2⟩,B.s2,λi j hi hj e=>ah (B.k2 i hi) λm c1 c2=>ah (B.k2 j hj) λm' c3 c4=>by rw[<- e]at c3;obtain rfl:=eI (sm c1 c3);exact af m c2 c4⟩
   refine CR (rest:=[]) (x:=x) I.ok O S (by rw[B.z1];exact Om hP O) B.s ((B.loc _ (by decide) (by decide)).trans I.hm) ((B.loc _ (by decide) (by decide)).trans rfl) ((B.loc _ (by decide) (by decide)).trans rfl) (B.x _ _ I.hx) λl3 H3 h3 Z y3 G=>?_;have cg:Z=false->Cong N P (hf h3):=λe=>by rw[(G.f e).1];exact S.cong λp hp=>((G.f e).2 p hp).elim (λz=>absurd z y9) id
   refine k _ l3 H3 ?_ (Pe h3 Z y3 ⟨rfl,(G.loc _ (by decide)).trans ((B.loc _ (by decide) (by decide)).trans I.l1),(G.loc _ (by decide)).trans ((B.loc _ (by decide) (by decide)).trans I.l2),G.hm,G.nw,I.xt.trans' (B.x.trans' G.x),G.hy,G.ok,cg⟩);rw[I.m,if_pos rfl];rcases Z with _|_
   .rw[(G.f rfl).1];simp
   .have:=G.t rfl;simp;assumption
end
theorem iM(k v B:V):∀kvs:ba,ax (kvs.map λp=>if cr p.1 k then(p.1,v)else p) B=(ax kvs B).map λu=>if cr k B then v else u
 | []=>rfl
 |(a,b)::r=>by
  show ax ((if cr a k=true then(a,v)else(a,b))::r.map λp=>if cr p.1 k then(p.1,v)else p) B=_;rw[aM a b];by_cases h:a=k
  .subst h;rw[if_pos (bE a),aM];by_cases h':cr a B=true
   .rw[if_pos h',if_pos h'];show some v=some (if cr a B then v else b);rw[if_pos h']
   .rw[if_neg h',if_neg h'];exact iM a v B r
  .rw[if_neg (λz=>h ((aO _ _).mp z):¬cr a k=true),aM];by_cases h':cr a B=true
   .rw[if_pos h',if_pos h'];show some b=some (if cr k B then v else b)
    rw[if_neg];rw[aO]at h' ⊢;exactλz=>h (h'.trans z.symm)
   .rw[if_neg h',if_neg h'];exact iM k v B r
def nj(kvs:ba)(k v:V):ax (dput kvs k v) k=some v:=by
 rcases h:ax kvs k with _|u
 .rw[cQ h,cP h,aM,if_pos (bE k)]
 .unfold dput;split
  .rw[iM,h];show some (if cr k k then v else u)=_;rw[if_pos (bE k)]
  .rename_i z;exfalso;refine z ?_;rcases y:kvs.any (λp=>cr p.1 k)with _|_
   .exact nn (eO λp hp e=>C7 (y.symm.trans (RX.mpr (af p hp (by rw[e];exact bE k))))) h
   .rfl
def rn{k B:V}(h:k≠B)(kvs:ba)(v:V):ax (dput kvs k v) B=ax kvs B:=by
 obtain F:¬cr k B=true:=by rw[aO];exact h
 unfold dput;split
 .rw[iM];rcases ax kvs B with _|u
  .rfl
  .show some (if cr k B then v else u)=_;rw[if_neg F]
 .rcases z:ax kvs B with _|u
  .rw[cP z,aM,if_neg F];rfl
  .exact dR z
structure Shp(N:List Nd)(h:List Nat)(n:Nat)(kvs:ba):Prop where
 get:∀i,i<n->ax kvs (ag (cn N (hf h) i))=some (iv (hf h i))
 key:∀p∈kvs,∃i,i<n/\p.1=ag (cn N (hf h) i)
 len:kvs.length<=n
theorem Shp.fits{h:List Nat}{n:Nat}{kvs:ba}(S:Shp N h n kvs){k:V}(hk:cZ k=2):keyFits kvs k:=⟨by rw[hk];decide,λp hp=>ah (S.key p hp) λi _ e=>by rw[e,hk];exact(bL _).2.2⟩
section
variable{H:AH}{d:Nat}
theorem zv(T:Txt σ){Q:b8}{ha:Addr}{h:List Nat}(hm:H ma=some (.list (N.map ag)))(hh:H ha=some (.list (h.map iv)))(Z:yZ N)(Kd:mP N)(O:HOk N P h)(C:Cong N P (hf h)) (q:∀kvs H' x,Ext H H'->H' x=some (.dict kvs)->Shp N h N.length kvs->Q (.ref x) H'):FCall σ 1 "_law_shapes" [.ref ma,.ref ha] H Q:=by
 have J:=Z.1;obtain hl:h.length<=60:=by rw[O.len];exact J
 refine ce T.ok T.law_shapes rfl (cE (Fd dictOK.nil (λ_ h=>absurd h y9) rfl (by decide) λx hx=>af _ rfl ?_));refine Bq (a:=ma) (f:=ag) (vs:=N) (.var rfl) (w4 _ hx _ _ hm) (s7 J (by decide)) (λi l' H'=>(∀y,y≠"n"->y≠"node"->l' y=((aT ["mine","homes"] [.ref ma,.ref ha]).put "found" (.ref x)) y)/\Ext H H'/\∃kvs,H' x=some (.dict kvs)/\Shp N h i kvs) (cO (λ_ _ _=>rfl) (w4 _ hx) (af ([]) (AH.set_self _ _ _) ⟨λ_ h=>absurd h (J3 _),λ_ h=>absurd h y9,z7 _⟩)) (λi l' H' z=>z.2.1 _ _ hm) (λi nd l' H' k' hi z hk=>?_) λl2 H2 z=>jb z λkp x2 z=>ah z λkvs e S=>bY (rest:=[]) (.var ((kp _ (by decide) (by decide)).trans rfl)) (q kvs H2 x x2 e S);refine jb z λkp Y z=>ah z λkvs e S=>?_;have B:i<N.length:=(z5.mp hi).1;have lo:∀y,y≠"n"->y≠"node"->((l'.put "n" (iv i)).put "node" (ag nd)) y=((aT ["mine","homes"] [.ref ma,.ref ha]).put "found" (.ref x)) y:=λy a b=>(am _ _ b).trans ((am _ _ a).trans (kp y a b));have gn:N.getD i ("",[])=nd:=by rw[C1,hi];rfl
 have ec:cn N (hf h) i=(nd.1,nd.2.map (hf h)):=DH hi;refine GQ (aA ((Ev.var ((lo _ (by decide) (by decide)).trans rfl)).idx (.var rfl) λ_ q=>cf (Y _ _ hh) (cR 0 (by rw[O.len];exact B)) (mq B J) q) (aA (.var ((lo _ (by decide) (by decide)).trans rfl)) (Bw (bH _ _ _) ((lo _ (by decide) (by decide)).trans rfl) (Y _ _ hh) (Z.2 nd (z6 hi)) (λk hk=>by rw[O.len];exact C6 (Kd i B k (by rw[gn];exact hk)) B) hl λH3 x3=>af x rfl (.inr (jK kvs (x3 _ _ e) (S.fits (bL _).2.2) (z0 (s7 S.len (s7 (D9 B) J)) (by decide)) (hk _ _ (cO lo ((Y.trans' x3).setc hx _) (af _ (AH.set_self _ _ _) ⟨λj F=>?_,λp hp=>?_,?_⟩))))))))
 .rw[<- ec];by_cases z:cn N (hf h) i=cn N (hf h) j
  .obtain G:hf h i=hf h j:=C.2 i j B (by exact On F B) z;rw[z,nj];exact B9 (λk=>some (iv k)) G
  .rw[rn λe=>z (gc e)];rcases Nat.lt_succ_iff_lt_or_eq.mp F with F|F
   .exact S.get j F
   .exact absurd (by rw[F]) z
 .rcases sQ hp with m|m|⟨q,hq,e1,_⟩
  .exact ah (S.key p m) λj F e=>af j (L4 F) e
  .rw[m];exact(af i (K3 i) (by rw[ec]))
  .exact ah (S.key q hq) λj F e=>af j (L4 F) (e1.symm.trans e)
 .exact s7 sP (I7 S.len)
end
section
variable{kvs:ba}
noncomputable def Tr.op:Tr->String
 | .leaf s=>s
 | .f _=>"f"
 | .g _ _=>"g"
noncomputable def Tr.kids:Tr->List Tr
 | .leaf _=>[]
 | .f t=>[t]
 | .g t u=>[t,u]
def Tr.v_eq(t:Tr):t.v=.tup (.str t.op::t.kids.map Tr.v):=by cases t <;> rfl
def y5{P:Tr->Prop}(h:∀t:Tr,(∀k∈t.kids,P k)->P t)(t:Tr):P t:=by
 induction t with
 |leaf s=>exact h _ λ_ z=>absurd z y9
 |f t a=>exact h _ λk z=>u5.mp z▸a
 |g t u a b=>exact h _ λk z=>(A4.mp z).elim (λe=>e▸a) λz=>u5.mp z▸b
noncomputable def Tr.ht:Tr->Nat
 | .leaf _=>0
 | .f t=>t.ht+1
 | .g t u=>max t.ht u.ht+1
def Tr.ht_lt{k:Tr}(h:k∈t.kids):k.ht<t.ht:=by
 rcases t with s|t|⟨t,u⟩
 .exact absurd h y9
 .obtain rfl:=u5.mp (show k∈[t]from h);exact K3 _
 .rcases A4.mp h with rfl|h
  .exact Sf (O9 _ _)
  .obtain rfl:=u5.mp h;exact Sf (M5 _ _)
def Tr.kids_len(t:Tr):t.kids.length<=2:=by cases t <;> first|exact z7 _|exact E1 _|exact P7 1
noncomputable def Tr.pat:Tr->Prop
 | .leaf s=>s∈iH/\(cj s=true\/s∈aF)
 | .f t=>t.pat
 | .g t u=>t.pat/\u.pat
noncomputable def Tr.isv(t:Tr):Bool:=cj t.op
def Tr.pat_kid{k:Tr}(h:t.pat)(hk:k∈t.kids):k.pat:=by
 rcases t with s|t|⟨t,u⟩
 .exact absurd hk y9
 .obtain rfl:=u5.mp (show k∈[t]from hk);exact h
 .rcases A4.mp hk with rfl|hk
  .exact h.1
  .obtain rfl:=u5.mp hk;exact h.2
def y7(h:t.isv=true):t.kids=[]:=by
 rcases t with s|t|⟨t,u⟩
 .rfl
 .exact ai (show false=true from h)
 .exact ai (show false=true from h)
noncomputable def Tr.names:Tr->List String
 | .leaf s=>if cj s then[s]else[]
 | .f t=>t.names
 | .g t u=>t.names++u.names
def Tr.names_v(h:t.isv=true):t.names=[t.op]:=by
 rcases t with s|t|⟨t,u⟩
 .exact if_pos h
 .exact ai (show false=true from h)
 .exact ai (show false=true from h)
def Tr.names_n(h:t.isv=false):t.names=t.kids.flatMap Tr.names:=by
 rcases t with s|t|⟨t,u⟩
 .exact if_neg (by rw[show cj s=false from h];exact C7)
 .exact(G2 _).symm
 .exact B9 (t.names++·) (G2 _).symm
noncomputable def lk(kvs:ba)(op:String)(ks:List Int):Int:=match ax kvs (.tup (.str op::ks.map .int))with
 |some (.int i)=>i
 |_=>-1
noncomputable def Tr.cls(kvs:ba)(θ:String->Nat):Tr->Int
 | .leaf s=>if cj s then(θ s:Int)else lk kvs s []
 | .f t=>lk kvs "f" [t.cls kvs θ]
 | .g t u=>lk kvs "g" [t.cls kvs θ,u.cls kvs θ]
def Tr.cls_v(h:t.isv=true):t.cls kvs θ=(θ t.op:Int):=by
 rcases t with s|t|⟨t,u⟩
 .exact if_pos h
 .exact ai (show false=true from h)
 .exact ai (show false=true from h)
def Tr.cls_n(h:t.isv=false):t.cls kvs θ=lk kvs t.op (t.kids.map (Tr.cls kvs θ)):=by
 rcases t with s|t|⟨t,u⟩
 .exact if_neg (by rw[show cj s=false from h];exact C7)
 .rfl
 .rfl
section
variable{H:AH}{d:Nat}{Q:b8}
noncomputable def OE(s:String):Bool:=decide (s∈iH)&&(match s.toList[0]? with|some c=>decide (decide (String.ofList [c]="?")=cj s)|none=>false)
def Tr.pat_op(h:t.pat):OE t.op=true:=by
 have k:∀s∈"?x"::"?y"::aF,OE s=true:=J0.mp (by decide);rcases t with s|t|⟨t,u⟩
 .rcases h.2 with a|a
  .rcases(Bool.or_eq_true _ _).mp a with a|a
   .rw[J1 a];exact k _ y4
   .rw[J1 a];exact k _ (.tail _ (.head _))
  .exact k s (.tail _ (.tail _ a))
 .exact k "f" (by decide)
 .exact k "g" (by decide)
theorem Pw(op:String)(ks:List Int):cZ (.tup (.str op::ks.map .int))=2:=by
 obtain B:bG (ks.map V.int)=true:=gu λx hx=>ah (w7.mp hx) λi _ e=>e▸rfl;obtain F:bJ (ks.map V.int)<=0:=eG λx hx=>ah (w7.mp hx) λi _ e=>e▸z7 0;obtain G:aS (.tup (.str op::ks.map .int))=true:=by show(true&&bG (ks.map V.int))=true;rw[B];rfl
 obtain J:aB (.tup (.str op::ks.map .int))<=8:=by show max 0 (bJ (ks.map V.int))+1<=8;exact NC F
 rw[fW,G,D8 J];rfl
def zE{k v:V}(h:ax kvs k=some v):∃p∈kvs,p.1=k:=by
 rcases SH (∃p∈kvs,p.1=k)with z|z
 .exact z
 .exact nn (eO λp hp e=>z (af p hp e)) h
theorem Shp.val{h:List Nat}{k v:V}{n:Nat}(S:Shp N h n kvs)(e:ax kvs k=some v):∃i,i<n/\k=ag (cn N (hf h) i)/\v=iv (hf h i):=by refine ah (zE e) λp hp e1=>?_;refine ah (S.key p hp) λi hi e2=>?_;obtain B:=e1.symm.trans e2;exact(aK i hi B (Mine.sm (B▸e) (S.get i hi)))
theorem Shp.lk{h:List Nat}{n:Nat}(S:Shp N h n kvs)(op:String)(ks:List Int):(ax kvs (.tup (.str op::ks.map .int))).getD (.int (-1))=.int (lk kvs op ks):=by
 unfold Mine.lk;rcases e:ax kvs (.tup (.str op::ks.map .int))with _|v
 .rfl
 .refine bR (S.val e) λi _ _ z=>?_;subst z;rfl
def rz(h:t.pat)(hl:l "pattern"=some t.v):EvT σ l H (.cmp1 .eq (.idx (.idx d5 c8) c8) j9) t.isv:=by
 obtain z:=aa (t.pat_op h);obtain z2:=z.2;rcases e:t.op.toList[0]? with _|c
 .rw[e]at z2;exact ai z2
 rw[e]at z2;obtain v:Ev σ l H d5 (.tup (.str t.op::t.kids.map Tr.v)):=.var (hl.trans (B9 some t.v_eq));exact w6 ((v.idx (u:=.str t.op) (w:=iv 0) .cst λ_ q=>(jL 0 _ rfl (by decide) rfl q)).idx (w:=iv 0) .cst λ_ q=>⟨z9 z.1,qT 0 c rfl (by decide) (by decide) e q⟩) .cst λQ q=>rp _ _ _ _ (by rw[z9 z2];exact q)
def zL(hl:l "pattern"=some t.v):Ev σ l H (.idx d5 c8) (.str t.op) :=Ev.idx (v:=.tup (.str t.op::t.kids.map Tr.v)) (w:=iv 0) (.var (hl.trans (B9 some t.v_eq))) .cst λ_ q=>(jL 0 _ rfl (by decide) rfl q)
def wy(hl:l "pattern"=some t.v):Ev σ l H (.slc d5 (some 1) none) (.tup (t.kids.map Tr.v)) :=hV (v:=.str t.op) (.var (hl.trans (B9 some t.v_eq))) (vr t.kids_len)
def BQ(T:Txt σ){J sa:Addr}{h:List Nat}(S:Shp N h N.length kvs)(Y:bI tb)(t:Tr):∀{d:Nat}{H:AH}{Q:b8},t.pat->t.ht<=d->d<=5->H J=some (.dict tb)->H sa=some (.dict kvs)->(∀s∈t.names,ax tb (.str s)=some (iv (θ s)))->(∀H',Ext H H'->Q (.int (t.cls kvs θ)) H')->FCall σ (d+1) "_law_class" [t.v,.ref J,.ref sa] H Q:=by
 induction t using y5 with
 |h t O =>
  intro d H Q hp hd G ht hs F q;cases B:t.isv with
  |true =>rw[t.names_v B]at F;rw[t.cls_v B]at q;exact ce T.ok T.law_class rfl (ff (B▸rz hp rfl) (bY ((Ev.var rfl).idx (zL rfl) λ_ q=>eY ht ⟨Nat.one_ne_zero,Y⟩ (F _ (u5.mpr rfl)) q) (q H (w3 _))))
  |false =>
   rw[t.cls_n B]at q;rw[t.names_n B]at F;refine ce T.ok T.law_class rfl (dM (B▸rz hp rfl) (cE (bu (kA t.kids Tr.v (λk=>.int (k.cls kvs θ)) (wy rfl) (z0 t.kids_len (by decide)) (λk hk H' Z x q=>?_) λc H1 x _ e=>aK _ e (by rw[u1];exact s7 t.kids_len (by decide)) (af _ rfl ?_)))))
   .obtain lt:=Tr.ht_lt hk;rcases d with _|d
    .exact(EQ lt hd).elim
    exact fg (.cons (.var (bH _ _ _)) (.cons (.var rfl) (.cons (.var rfl) .nil))) (O k hk (t.pat_kid hp hk) (by exact ES hd lt) (by exact ET G) (x _ _ ht) (x _ _ hs) (λs hs=>F s (K9.mpr (af k hk hs))) q)
   .refine cN (rest:=[]) (gN (k:=.dict) (.var rfl) ⟨by decide,(ey sa kvs rfl (x _ _ hs))⟩ (.cons ((Ev.tup (.cons (zL rfl) .nil)).bin (.var (bH _ _ _)) λ_ q=>⟨by rw[u1];exact s7 (Q5 t.kids_len 1) (by decide),q⟩) (.cons (v:=.int (-1)) (λ_ _ q=>q) .nil)) (bF sa kvs rfl (x _ _ hs) (.inl ⟨rfl,bF _ _ rfl (S.fits ?_) ?_⟩)))
    .have:=Pw t.op (t.kids.map (Tr.cls kvs θ))
     rwa [I8]at this
    .obtain this:=S.lk t.op (t.kids.map (Tr.cls kvs θ));rw[I8]at this;exact this▸q H1 x
def Tr.names_len(t:Tr):t.names.length<=2^t.ht:=by
 induction t with
 |leaf s=>show(if cj s then[s]else[]).length<=1;split <;> simp
 |f t a=>exact s7 a (K0 (by decide) (P7 _))
 |g t u a b =>obtain B:2^t.ht<=2^max t.ht u.ht:=K0 (by decide) (O9 _ _);obtain F:2^u.ht<=2^max t.ht u.ht:=K0 (by decide) (M5 _ _);show(t.names++u.names).length<=2^(max t.ht u.ht+1);rw[A6,Sn];exact ND a b F B
theorem BW(T:Txt σ)(t:Tr):∀{d:Nat}{H:AH}{Q:b8},t.pat->t.ht<=d->d<=5->Lst H Q (t.names.map .str)->FCall σ (d+1) "_law_names" [t.v] H Q:=by
 induction t using y5 with
 |h t ih =>
  intro d H Q hp hd F q;cases Y:t.isv with
  |true =>rw[t.names_v Y]at q;exact ce T.ok T.law_names rfl (ff (Y▸rz hp rfl) (cN (dl (aq (aA (zL rfl) (aR q.fresh))))))
  |false =>
   obtain pw:(2:Nat)^t.ht<=2^5:=K0 (by decide) (s7 hd F);have nl:=s7 t.names_len pw;rw[t.names_n Y]at q nl;have e:(t.kids.flatMap λk=>k.names.map V.str)=(t.kids.flatMap Tr.names).map V.str:=by rw[List.map_flatMap]
   refine ce T.ok T.law_names rfl (dM (Y▸rz hp rfl) (cN (rest:=[]) (wy rfl d _ ⟨by rw[u1];exact s7 t.kids_len (by decide),λc hc=>af c rfl ?_⟩)));refine pX (src:=none) (H0:=H) trivial Tr.v (λk=>k.names.map V.str) t.kids [] _ (w4 _ hc) (AH.set_self _ _ _) (by rw[e,List.length_nil,Q4,u1];exact z0 nl (by decide)) (λk hk H1 ws K x1 G J kk=>?_) λH' x' Z=>q H' c x' hc (by rw[Z,List.nil_append,e]);obtain lt:=Tr.ht_lt hk;rcases d with _|d
   .exact(EQ lt hd).elim
   refine af _ rfl (fg (.cons (.var (bH _ _ _)) .nil) (ih k hk (t.pat_kid hp hk) (by exact ES hd lt) (by exact ET F) λH2 l2 x2 O e2=>aK _ e2 (by rw[u1];exact s7 (s7 k.names_len (K0 (by decide) (show k.ht<=5 by exact NE hd F lt))) (by decide)) ?_));obtain hc2:=x2 _ _ G;obtain as:l2≠c:=λz=>by rw[z,G]at O;exact sn O
   rw[u1]at J;refine mU (src:=some (l2,_)) (c:=c) id (H3:=H2) (λH4 xb=>xb _ _ as e2) _ ws H2 (λ_ _ _ e=>e) hc2 (by rw[u1];exact J) (λy hy H4 ws4 k4 xb B ar ad=>af _ rfl (Bp (gW rfl (af _ (bH _ _ _) (aK _ B ar ad))))) λH4 xb B=>kk H4 (λa o e=>xb a o (aC e hc) ((x1.trans' x2) a o e)) ?_;rw[List.map_id]at B;exact B
end
end
noncomputable abbrev row(cs:List Nat)(s:String)(tb:ba):List ba:=cs.map λc=>tb++[(.str s,iv c)]
noncomputable def be(cs:List Nat)(ns:List String):List ba:=ns.foldl (λts s=>ts.flatMap (row cs s)) [[]]
def fG(cs:List Nat)(ns:List String)(s:String):be cs (ns++[s])=(be cs ns).flatMap (row cs s):=by unfold be;rw[List.foldl_append];rfl
noncomputable abbrev mc(ns:List String)(θ:String->Nat):ba:=ns.map λs=>(.str s,iv (θ s))
def yM{ns:List String}{B:String->Nat}(h:∀s∈ns,θ s=B s):mc ns θ=mc ns B:=G3 λs hs=>by rw[h s hs]
def oK{P:List α->Prop}(h0:P [])(h:∀l x,P l->P (l++[x]))(l:List α):P l:=by
 rw[<- List.reverse_reverse l];induction l.reverse with
 |nil=>exact h0
 |cons x l B=>rw[List.reverse_cons];exact h _ x B
def cz(cs:List Nat)(ns:List String):ns.Nodup->∀tb,tb∈be cs ns↔∃θ:String->Nat,(∀s∈ns,θ s∈cs)/\tb=mc ns θ:=by
 induction ns using oK with
 |h0=>exactλ_ tb=>⟨λh=>(af (λ_=>0) (λ_ h=>absurd h y9) (u5.mp h)),λh=>ah h λ_ _ e=>u5.mpr e⟩
 |h ns s G =>
  intro nd tb;obtain F:=G4.mp nd;rw[fG,K9];constructor
  .refineλh=>ah h λO h0 J=>?_
   refine ah ((G F.1 O).mp h0) λθ B e=>?_;refine ah (w7.mp J) λc hc e1=>?_;have ne:∀x∈ns,x≠s:=λx hx=>F.2.2 x hx s (u5.mpr rfl);refine(af (λx=>if x=s then c else θ x) (λx hx=>?_) ?_)
   .show(if x=s then c else θ x)∈cs;rcases C2.mp hx with hx|hx
    .rw[if_neg (ne x hx)];exact B x hx
    .rw[if_pos (u5.mp hx)];exact hc
   .rw[<- e1,e,mc,mc,B7];exact congr (B9 _ (G3 λx hx=>by rw[if_neg (ne x hx)])) (by rw[C4,if_pos rfl];rfl)
  .refineλh=>ah h λθ B e=>(af (mc ns θ) ((G F.1 _).mpr (af θ (λx hx=>B x (E0 _ hx)) rfl)) (w7.mpr (af (θ s) (B s (C9 _ (u5.mpr rfl))) (by rw[e,mc,mc,B7];rfl))))
def jH(cs:List Nat)(ns:List String):(be cs ns).length=cs.length^ns.length:=by
 induction ns using oK with
 |h0=>rfl
 |h ns s B =>
  rw[fG,A6,J8,Sn,<- B];generalize be cs ns=ts;induction ts with
  |nil=>rw[List.flatMap_nil,List.length_nil,Nat.zero_mul]
  |cons t ts B=>rw[N6,A6,B,u1,So,Nat.add_mul,Nat.one_mul,Nat.add_comm]
def si{cs:List Nat}(hc:cs.Nodup)(ns:List String):(be cs ns).Nodup:=by
 induction ns using oK with
 |h0=>exact C8.mpr ⟨y9,J5⟩
 |h ns s B =>
  rw[fG];generalize be cs ns=ts at B;induction ts with
  |nil=>exact J5
  |cons t ts i2 =>
   rw[C8]at B;rw[N6,G4];refine⟨?_,i2 B.2,λx hx y hy e=>?_⟩
   .unfold row;refine(L3.mpr (hc.imp λ{a b} h e=>h ?_));exact eI (N7 (K2 (List.append_cancel_left e)).1).2
   .refine ah (w7.mp hx) λc _ e1=>ah (K9.mp hy) λt' h' G=>ah (w7.mp G) λJ _ e2=>?_;rw[<- e1,<- e2]at e;obtain F:=(List.append_inj' e rfl).1;rw[F]at B;exact B.1 h'
theorem xz{ns:List String}{s:String}(h:s∈ns):ax (mc ns θ) (.str s)=some (iv (θ s)):=by
 induction ns with
 |nil=>exact absurd h y9
 |cons a r B =>
  show ax ((V.str a,iv (θ a))::mc r θ) (.str s)=_;rw[aM,kz];by_cases e:a=s
  .rw[if_pos (D8 e),e]
  .rw[if_neg (by rw[E2 e];exact C7)];exact B ((A4.mp h).elim (λz=>absurd z.symm e) id)
def mK(ns:List String)(θ:String->Nat):cX ns.length (mc ns θ):=⟨λp hp=>ah (w7.mp hp) λs _ e=>e▸⟨⟨s,rfl⟩,θ s,rfl⟩,r5 (u1 _)⟩
def vn{tb':ba}(h:aW tb=aW tb')(p:V×V)(hp:p∈tb):p∈tb':=by obtain e:aH (aV tb)=aH (aV tb'):=V.tup.inj h;obtain m:V.tup [p.1,p.2]∈aV tb':=(aw _).mem_iff.mp (e▸(aw _).mem_iff.mpr (w7.mpr (af p hp rfl)));refine ah (w7.mp m) λq hq e=>?_;obtain e:=K2 (V.tup.inj e);obtain e2:=(K2 e.2).1;obtain B:q=p:=Prod.ext e.1 e2;exact B▸hq
def vm{ns:List String}{F:String->Nat}(h:aW (mc ns θ)=aW (mc ns F))(nd:ns.Nodup):mc ns θ=mc ns F:=yM λs hs=>by obtain B:=vn h _ (w7.mpr (af s hs rfl));refine ah (w7.mp B) λs' _ e=>?_;obtain e:=N7 e;obtain e1:s'=s:=V.str.inj e.1;rw[e1]at e;exact(eI e.2).symm
def vd{tb':ba}(T:cX k tb')(h:tb.Perm tb'):aW tb=aW tb' :=B9 V.tup (eu (λx hx y hy=>(T.items x hx).cmp (T.items y hy)) (h.map _))
def pI{l:List String}(h:l.length<64):sortable (l.map V.str) :=sw (by rw[u1];exact h) (λx hx=>ah (w7.mp hx) λs _ e=>e▸⟨rfl,E1 _⟩) (.inr λx hx=>ah (w7.mp hx) λs _ e=>e▸rfl) λx hx y hy=>ah (w7.mp hx) λs _ e=>ah (w7.mp hy) λt _ e'=>by rw[<- e,<- e'];rfl
def rZ(l:List String):∃ns:List String,aH (bf (l.map .str))=ns.map .str/\ns.Nodup/\∀s,s∈ns↔s∈l:=by
 have mem:∀v,v∈aH (bf (l.map V.str))↔v∈l.map V.str:=λv=>(aw _).mem_iff.trans bn;have nd:(aH (bf (l.map V.str))).Nodup:=(aw _).nodup_iff.mpr (cA _);generalize aH (bf (l.map V.str))=vs at mem nd;have ex:∃ns:List String,vs=ns.map .str:=by
  obtain h:∀v∈vs,∃s,v=V.str s:=λv B=>ah (w7.mp ((mem v).mp B)) λs _ e=>⟨s,e.symm⟩;clear mem nd;induction vs with
  |nil=>exact⟨[],rfl⟩
  |cons v vs F=>exact bM (F λv B=>h v (w9 _ B)) λns e=>bM (h v y4) λs e'=>⟨s::ns,by rw[e,e'];rfl⟩
 refine bM ex λns e=>?_;subst e;exact(aK ns rfl ((L3.mp nd).imp λh e=>h (B9 V.str e)) (λs=>⟨λh=>ah (w7.mp ((mem _).mp (w7.mpr ⟨s,h,rfl⟩))) λs' h' e=>V.str.inj e▸h',λh=>ah (w7.mp ((mem _).mpr (w7.mpr ⟨s,h,rfl⟩))) λs' h' e=>V.str.inj e▸h'⟩))
section
variable{H:AH}{d:Nat}
noncomputable abbrev QK:ME:=.comp (.prim .dict (.bin .add (.prim .listItems f6) (.lst (.cons (.tup (.cons (.var "name") (.cons g9 .nil))) .nil)))) (.more (.nm "table") (.exp i8) (.one (.nm "c") (.exp m8) none))
def tf(tb:ba)(k v:V):aV (tb++[(k,v)])=aV tb++[.tup [k,v]]:=by unfold aV;rw[B7];rfl
theorem GT{Q:b8}{cs:List Nat}{ns:List String}{s:String}{tl:Addr}{rs:List Addr}{tbs:List ba}(h1:l "tables"=some (.ref tl))(h2:l "classes"=some (.ref ca))(h3:l "name"=some (.str s))(htl:H tl=some (.list (rs.map V.ref)))(hca:H ca=some (.list (cs.map iv)))(hT:Tabs H rs tbs) (hz:tbs.length<=1000) (J:cs.length<=60) (hns:ns.length<=100) (hs:s∉ns) (hnd:ns.Nodup) (hk:∀tb∈tbs,tb.map (·.1)=ns.map V.str) (q:∀H' c G,Ext H H'->H' c=some (.list (G.map V.ref))->Tabs H' G (tbs.flatMap (row cs s))->Q (.ref c) H'):aY σ d QK l H Q:=by
 obtain hrl:=hT.length;have rl:∀tb:ba,(row cs s tb).length<=60:=λtb=>by rw[u1];exact J
 have tot:(tbs.flatMap (row cs s)).length<=2^18:=s7 (du _ 60 tbs λtb _=>rl tb) (s7 (Nat.mul_le_mul_right 60 hz) (by decide));refine af _ h1 (aK _ htl (by rw[u1,hrl];exact s7 hz (by decide)) λc hc=>af c rfl (oS (row cs s) htl hT hc tot (λr tb H1 rs1 k hm xe hr F hl hk'=>?_) λH' G x' F hTd=>q H' c G x' F hTd));obtain ek:=hk tb hm;obtain hst:bI tb:=λp hp=>by
  have:p.1∈ns.map V.str:=ek▸w7.mpr (af p hp rfl)
  exact ah (w7.mp this) λs _ e=>e▸rfl
 have Z:tb.length<=100:=by rw[<- u1 (·.1),ek,u1];exact hns
 have O:=xe _ _ hca;obtain nca:ca≠c:=aC hca hc;obtain nr:r≠c:=λz=>by rw[z,F]at hr;exact AO.noConfusion (w8 hr)
 refine af _ rfl (af _ ((am _ _ (by decide)).trans ((dE _ (by decide)).trans h2)) (aK _ O (by rw[u1];exact s7 J (by decide)) (nD (src:=some (ca,cs.map iv)) (λxs H2=>∃dn rem B,xs=rem.map iv/\dn++rem=cs/\ExtB c H1 H2/\H2 c=some (.list ((rs1++B).map V.ref))/\Tabs H2 B (row dn s tb)) (λ_ _ z=>mx z λ_ _ _ _ z=>z.2.1 _ _ nca O) (λv xs H2 k2 z hk2=>?_) (λH2 z=>?_) _ H1 (Pj ([]) cs ([]) rfl rfl (λ_ _ _ e=>e) (by rw[G2];exact F) trivial))))
 .refine Rj z λdn rem B ex ed xb hc2 t5=>?_;rcases rem with _|⟨cc,rem⟩
  .exact(E7 _ _ ex).elim
  refine cq (K2 ex) λaX bV=>?_;subst aX;subst bV;obtain hl5:=t5.length;have hdl:=B9 List.length ed;rw[A6,So]at hdl;rw[u1]at hl5;refine af _ rfl (Bp (gW rfl (bu (gM (bu (aA (.var ((am _ _ (by decide)).trans ((dE _ (by decide)).trans (bH _ _ _)))) (jK tb (xb _ _ nr hr) hst (s7 Z (by decide)) λa1 ha1=>dl (aq (aA (.tup (.cons (.var ((am _ _ (by decide)).trans ((dE _ (by decide)).trans ((am _ _ (by decide)).trans ((dE _ (by decide)).trans h3))))) (.cons (.var (bH _ _ _)) .nil))) (aR λa2 Y=>?_))))))))));obtain n12:a1≠a2:=λz=>by rw[<- z,AH.set_self]at Y;exact sn Y
  have kn:((tb++[(V.str s,iv cc)]).map (·.1))=(ns++[s]).map V.str:=by rw[B7,ek,B7];rfl
  refine jL _ _ ((p6 _ _ n12).trans (AH.set_self _ _ _)) (AH.set_self _ _ _) (by show(aV tb).length+1<=_;unfold aV;rw[u1];exact Oo Z) λa3 ha3=>?_;refine jK (tb++[(.str s,iv cc)]) (.inr ⟨by rw[tf];exact AH.set_self _ _ _,?_⟩) (λp hp=>?_) (by rw[A6,J8];exact Op Z) λa4 ha4=>?_
  .rw[kn];exact L3.mpr ((G4.mpr ⟨hnd,C8.mpr ⟨y9,J5⟩,λa ha b hb=>by rw[u5.mp hb];rintro rfl;exact hs ha⟩:(ns++[s]).Nodup).imp λh e=>h (V.str.inj e))
  .have:p.1∈(ns++[s]).map V.str:=kn▸w7.mpr ⟨p,hp,rfl⟩
   exact ah (w7.mp this) λs _ e=>e▸rfl
  have x4:=(((w4 _ ha1).trans' (w4 _ Y)).trans' (w4 _ ha3)).trans' (w4 (.dict (tb++[(.str s,iv cc)])) ha4);obtain c4:=x4 _ _ hc2;refine aK _ c4 (by rw[u1,A6,hl5];rw[u1]at hl;exact Oq hdl hl) (hk2 _ (Pj (dn++[cc]) rem (B++[a4]) rfl (by rw[K4];exact ed) (ExtB.set (λa o h e=>x4 _ _ (xb a o h e)) _) ?_ ?_))
  .rw[AH.set_self,<- K4,B7 (l₁:=rs1++B)];rfl
  .refine Tabs.setl c4 ?_;show Tabs _ _ ((dn++[cc]).map _);rw[B7];exact(t5.ext x4).append ⟨AH.set_self _ _ _,trivial⟩
 .refine Rj z λdn rem B ex ed xb hc2 t5=>?_;obtain this:rem=[]:=Sk.mp ex.symm;subst this;rw[G2]at ed;subst ed;exact hk' H2 B xb hc2 t5
noncomputable abbrev θof(tb:ba)(s:String):Nat:=match ax tb (.str s)with
 |some (.int i)=>i.toNat
 |_=>0
noncomputable abbrev kG(kvs:ba)(t:Tr)(tb:ba):Int:=t.cls kvs (θof tb)
noncomputable def eP(kvs:ba)(t:Tr)(dn:List ba)(z:Int):List V:=(dn.filter λtb=>decide (kG kvs t tb=z)).map aW
noncomputable abbrev Fz(p:Int×Addr×List V):V×V:=(.int p.1,.ref p.2.1)
structure FdI(kvs:ba)(t:Tr)(H0:AH)(fa:Addr)(dn:List ba)(H:AH)(fd:List (Int×Addr×List V))(m:Nat):Prop where
 x:Ext H0 H
 d:H fa=some (.dict (fd.map Fz))
 k:(fd.map (·.1)).Nodup
 an:(fd.map (·.2.1)).Nodup
 a:∀p∈fd,H p.2.1=some (.list p.2.2)/\H0 p.2.1=none/\p.2.1≠fa
 v:∀p∈fd,p.2.2=eP kvs t dn p.1
 n:∀z,(∃p∈fd,p.1=z)\/eP kvs t dn z=[]
 z:fd.length<=m
def qe(kvs:ba)(t:Tr)(dn:List ba)(tb:ba)(z:Int):eP kvs t (dn++[tb]) z=eP kvs t dn z++if kG kvs t tb=z then[aW tb]else[]:=by
 unfold eP;rw[List.filter_append,B7];congr 1;by_cases h:kG kvs t tb=z
 .rw[if_pos h];simp[List.filter_cons,h]
 .rw[if_neg h];simp[List.filter_cons,h]
theorem uY:∀{fd:List (Int×Addr×List V)},(fd.map (·.1)).Nodup->∀{p:Int×Addr×List V},p∈fd->ax (fd.map Fz) (.int p.1)=some (.ref p.2.1)
 | [],_,p,h=>absurd h y9
 |q::fd,nd,p,h=>by
  rw[C4,C8]at nd;rw[C4,aM,fJ];rcases A4.mp h with e|h
  .rw[e];exact if_pos (D8 rfl)
  .rw[E2 λe=>nd.1 (w7.mpr (af p h e.symm))];exact uY nd.2 h
def wC{fd:List (Int×Addr×List V)}{z:Int}(h:∀p∈fd,p.1≠z):ax (fd.map Fz) (.int z)=none:=eO λp hp e=>ah (w7.mp hp) λq hq e'=>h q hq (V.int.inj ((B9 Prod.fst e').trans e))
def wB(fd:List (Int×Addr×List V))(z:Int):keyFits (fd.map Fz) (.int z):=⟨Nat.one_ne_zero,λp hp=>ah (w7.mp hp) λq _ e=>e▸rfl⟩
def nq(kvs:ba)(t:Tr)(dn:List ba)(z:Int):(eP kvs t dn z).length<=dn.length:=by unfold eP;rw[u1];exact N9 _ _
theorem FdI.add{kvs:ba}{fa:Addr}{dn:List ba}{H:AH}{fd:List (Int×Addr×List V)}(I:FdI kvs t H0 fa dn H fd m){z:Int}(Y:∀p∈fd,p.1≠z)(hy:H y=some (.list []))(O:H0 y=none)(Q:∀p∈fd,p.2.1≠y)(F:y≠fa)(J:H0 fa=none) : FdI kvs t H0 fa dn (H.set fa (.dict (fd.map Fz++[(.int z,.ref y)]))) (fd++[(z,y,[])]) (m+1):=by
 obtain hz:eP kvs t dn z=[]:=(I.n z).elim (λh=>ah h λp hp e=>absurd e (Y p hp)) id;refine⟨I.x.setc J _,?_,?_,?_,λp hp=>?_,λp hp=>?_,λw=>?_,?_⟩
 .rw[AH.set_self,B7];rfl
 .rw[B7,G4];exact⟨I.k,C8.mpr ⟨y9,J5⟩,λa ha b G=>ah (w7.mp ha) λq hq e=>e▸(show b=z from u5.mp G)▸Y q hq⟩
 .rw[B7,G4];exact⟨I.an,C8.mpr ⟨y9,J5⟩,λa ha b G=>ah (w7.mp ha) λq hq e=>e▸(show b=y from u5.mp G)▸Q q hq⟩
 .rcases C2.mp hp with h|h
  .obtain B:=I.a p h;exact⟨(p6 _ _ B.2.2).trans B.1,B.2⟩
  .rw[u5.mp h];exact(cO ((p6 _ _ F).trans hy) O F)
 .rcases C2.mp hp with h|h
  .exact I.v p h
  .rw[u5.mp h];exact hz.symm
 .exact(I.n w).imp (λh=>ah h λp hp e=>af p (E0 _ hp) e) id
 .rw[A6];exact I7 I.z
theorem FdI.app{kvs:ba}{fa:Addr}{dn:List ba}{H:AH}{fd:List (Int×Addr×List V)}(I:FdI kvs t H0 fa dn H fd m){p:Int×Addr×List V}(G:fd[j]?=some p)(e:p.1=kG kvs t tb) : FdI kvs t H0 fa (dn++[tb]) (H.set p.2.1 (.list (p.2.2++[aW tb]))) (fd.set j (p.1,p.2.1,p.2.2++[aW tb])) m:=by
 obtain hp:=z6 G;obtain ap:=I.a p hp;have Y:=(z5.mp G).1;have mem:∀q∈fd.set j (p.1,p.2.1,p.2.2++[aW tb]),q=(p.1,p.2.1,p.2.2++[aW tb])\/q∈fd/\q.2.1≠p.2.1/\q.1≠p.1:=λq hq=>by
  refine bM (C0.mp hq) λi hi=>?_;rw[J6]at hi;split at hi
  .exact .inl (w8 hi).symm
  .rename_i F;obtain g:∀{β:Type}(f:Int×Addr×List V->β),(fd.map f).Nodup->f q≠f p:=λf nd e=>by
    obtain Q:(fd.map f)[i]?=some (f q):=by rw[B6,hi];rfl
    obtain O:(fd.map f)[j]?=some (f q):=by rw[B6,G,e];rfl
    exact F ((SK (z5.mp O).1 nd).mp (O.trans Q.symm))
   exact .inr (cO (z6 hi) (g _ I.an) (g _ I.k))
 have J:∀{β:Type}(f:Int×Addr×List V->β),f (p.1,p.2.1,p.2.2++[aW tb])=f p->(fd.set j (p.1,p.2.1,p.2.2++[aW tb])).map f=fd.map f:=λf h=>dI G h;refine⟨I.x.setc ap.2.1 _,?_,?_,?_,λq hq=>?_,λq hq=>?_,λw=>?_,?_⟩
 .rw[p6 _ _ ap.2.2.symm,J Fz rfl];exact I.d
 .rw[J _ rfl];exact I.k
 .rw[J _ rfl];exact I.an
 .rcases mem q hq with h|h
  .rw[h];exact⟨AH.set_self _ _ _,ap.2⟩
  .obtain B:=I.a q h.1;exact⟨(p6 _ _ h.2.1).trans B.1,B.2⟩
 .rw[qe];rcases mem q hq with h|h
  .rw[h,if_pos e.symm,<- I.v p hp]
  .rw[if_neg λz=>h.2.2 (z.symm.trans e.symm),G2];exact I.v q h.1
 .rw[qe];by_cases z:kG kvs t tb=w
  .exact .inl (af (p.1,p.2.1,p.2.2++[aW tb]) (z6 (i:=j) (by rw[J6,if_pos rfl,if_pos Y])) (e.trans z))
  .rw[if_neg z,G2];refine(I.n w).imp (λh=>ah h λq hq e2=>?_) id;refine bM (C0.mp hq) λi hi=>?_;obtain F:j≠i:=λy=>by subst y;obtain rfl:=w8 (G.symm.trans hi);exact z (e.symm.trans e2)
   exact(af q (z6 (i:=i) (by rw[J6,if_neg F];exact hi)) e2)
 .rw[List.length_set];exact I.z
end
def FdI.ext{kvs:ba}{fa:Addr}{dn:List ba}{H:AH}{fd:List (Int×Addr×List V)}(I:FdI kvs t H0 fa dn H fd m)(x:Ext H H'):FdI kvs t H0 fa dn H' fd m:=⟨I.x.trans' x,x _ _ I.d,I.k,I.an,λp hp=>⟨x _ _ (I.a p hp).1,(I.a p hp).2⟩,I.v,I.n,I.z⟩
section
variable{H:AH}{d:Nat}
noncomputable abbrev Po:MS:=.expr (.meth (.meth h9 "setdefault" (.cons (.call "_law_class" (.cons d5 (.cons f6 (.cons k8 .nil)))) (.cons (.lst .nil) .nil))) "append" (.cons (.prim .tuple (.prim .sortedItems f6)) .nil))
theorem zH(T:Txt σ){h:List Nat}{kvs:ba}{fa sa r:Addr}{dn:List ba}{fd:List (Int×Addr×List V)}(I:FdI kvs t H0 fa dn H fd m)(S:Shp N h N.length kvs)(hp:t.pat)(hd:t.ht<d)(ar:d<=6)(av:H0 fa=none)(hm:m<2^18)(as:dn.length<2^18) (h1:l "found"=some (.ref fa)) (h2:l "pattern"=some t.v) (h3:l "shapes"=some (.ref sa)) (h4:l "table"=some (.ref r)) (a0:H0 sa=some (.dict kvs)) (hr:H0 r=some (.dict tb)) (Y:cX 40 tb) (hn:∀s∈t.names,ax tb (.str s)=some (iv (θof tb s))) (k:∀H' ad,FdI kvs t H0 fa (dn++[tb]) H' ad (m+1)->az σ d rest l H' K):az σ d (Po::rest) l H K:=by
 obtain G:∀(H2:AH)(F:List (Int×Addr×List V))(p:Int×Addr×List V),FdI kvs t H0 fa dn H2 F (m+1)->p∈F->p.1=kG kvs t tb->∃k,oB H2 σ (.ref p.2.1) "append" k/\dY σ d (.cons (.prim .tuple (.prim .sortedItems f6)) .nil) l H2 λvs H3=>qy H3 (λv H1=>iz v/\az σ d rest l H1 K) σ d k (.ref p.2.1) "append" vs:=λH2 F p Q hp e=>by
  have e2:=(Q.a p hp).1;obtain⟨j,hj⟩:=C0.mp hp;refine af .list ⟨by decide,(ey p.2.1 p.2.2 rfl e2)⟩ (aq (bu (bu (aA (.var h4) (jK tb (Q.x _ _ hr) Y.str (Y.sort (by decide)) (λs1 O=>aK _ (AH.set_self _ _ _) ?_ (aR (show nN (H2.set s1 (.list (aH (aV tb)))) (λv H1=>iz v/\az σ d rest l H1 K) (.ref p.2.1) "append" [aW tb]from jz (w4 _ O _ _ e2) ?_ ⟨trivial,k _ _ ((Q.ext (w4 _ O)).app hj e)⟩))))))))
  .rw[(aw _).length_eq];exact s7 (D9 (Y.sort (by decide)).1) (by decide)
  .rw[Q.v p hp];exact z0 (nq ..) (C6 as (by decide))
 rcases d with _|d
 .exact absurd hd (J3 _)
 refine gJ (af _ h1 (af .dict ⟨by decide,(ey fa _ rfl I.d)⟩ (aq (fg (.cons (.var h2) (.cons (.var h4) (.cons (.var h3) .nil))) (BQ T S Y.str t hp (G6 hd) (Nat.le_of_succ_le_succ ar) (I.x _ _ hr) (I.x _ _ a0) hn λH1 Z=>aq (dl (aR λy hy=>aR ?_)))))));obtain B:=(I.ext Z).ext (w4 (.list []) hy);refine bF fa _ rfl B.d (.inr (.inl ⟨rfl,jL _ _ rfl (wB fd _) (by rw[u1];exact z0 I.z (C6 hm (by decide))) ?_⟩));rcases SH (∃p∈fd,p.1=kG kvs t tb)with z|z
 .refine ah z λp hp e=>?_;obtain g:=uY I.k hp;rw[e]at g;rw[g];exact G _ fd p ⟨B.x,B.d,B.k,B.an,B.a,B.v,B.n,Nat.le_succ_of_le B.z⟩ hp e
 .obtain J:∀p∈fd,p.1≠kG kvs t tb:=λp hp e=>z (af p hp e);rw[wC J];refine G _ (fd++[(kG kvs t tb,y,[])]) (kG kvs t tb,y,[]) (B.add J (AH.set_self _ _ _) (gz (I.x.trans' Z) hy) (λp hp e=>?_) (λe=>?_) av) (C9 _ (u5.mpr rfl)) rfl
  .exact nn hy (e▸((I.ext Z).a p hp).1)
  .exact nn hy (e▸(I.ext Z).d)
def qQ{ns:List String}(nd:ns.Nodup)(h:∀s∈ns,cj s=true):ns.length<=2:=by
 obtain v:∀{s},cj s=true->s="?x"\/s="?y":=λh=>((Bool.or_eq_true _ _).mp h).imp J1 J1;rcases ns with _|⟨a,_|⟨b,_|⟨c,ns⟩⟩⟩
 .exact E1 _
 .exact P7 1
 .exact z7 2
 .rw[C8,C8]at nd;obtain ab:a≠b:=λe=>nd.1 (e▸y4);obtain B:a≠c:=λe=>nd.1 (e▸.tail _ (.head _));obtain F:b≠c:=λe=>nd.2.1 (e▸.head _);obtain ha:=v (h a (.head _));obtain G:=v (h b (.tail _ (.head _)));obtain hc:=v (h c (.tail _ (.tail _ (.head _))));rcases ha with rfl|rfl <;> rcases G with rfl|rfl <;> rcases hc with rfl|rfl <;> first|exact absurd rfl ab|exact absurd rfl B|exact absurd rfl F
def Tr.names_var(s:String):s∈t.names->cj s=true:=by
 induction t with
 |leaf u =>
  intro h;cases e:cj u with
  |true=>rw[show(Tr.leaf u).names=[u]from if_pos e]at h;rw[u5.mp h];exact e
  |false=>rw[show(Tr.leaf u).names=[]from if_neg (by rw[e];exact C7)]at h;exact absurd h y9
 |f t a=>exact a
 |g t u a b=>exactλh=>(C2.mp h).elim a b
structure DueOk(kvs:ba)(t:Tr)(cs:List Nat)(ns:List String)(H:AH)(x:Addr)(fv:ba):Prop where
 nd:ns.Nodup
 mem:∀s,s∈ns↔s∈t.names
 d:H x=some (.dict fv)
 fits:∀z,keyFits fv (.int z)
 get:∀z,(∃a,ax fv (.int z)=some (.ref a)/\H a=some (.list (eP kvs t (be cs ns) z)))\/(ax fv (.int z)=none/\eP kvs t (be cs ns) z=[])
theorem Hl(T:Txt σ){Q:b8}{h:List Nat}{kvs:ba}{cs:List Nat}{sa:Addr}(S:Shp N h N.length kvs)(hp:t.pat)(ht:t.ht<=4)(hcs:cs.length<=20)(hsa:H sa=some (.dict kvs))(hca:H ca=some (.list (cs.map iv))) (q:∀H' x ns fv,Ext H H'->DueOk kvs t cs ns H' x fv->Q (.ref x) H'):FCall σ 7 "_law_due" [t.v,.ref sa,.ref ca] H Q:=by
 refine ce T.ok T.law_due rfl (cE (dl (aq (Fd dictOK.nil (λ_ h=>absurd h y9) rfl (by decide) λJ he0=>aR λt0 ht0=>af _ rfl ?_))));have x1:Ext H ((H.set J (.dict (([]:List V).zip ([]:List V)))).set t0 (.list [.ref J])):=(w4 _ he0).trans' (w4 _ ht0);obtain e1:((H.set J (.dict (([]:List V).zip ([]:List V)))).set t0 (.list [.ref J])) t0=some (.list ([J].map V.ref)):=AH.set_self _ _ _;obtain e2:Tabs ((H.set J (.dict (([]:List V).zip ([]:List V)))).set t0 (.list [.ref J])) [J] [[]]:=⟨w4 _ ht0 _ _ (AH.set_self _ _ _),trivial⟩;generalize (H.set J (.dict (([]:List V).zip ([]:List V)))).set t0 (.list [.ref J])=H1 at *;refine qS (bu (fg (.cons (.var rfl) .nil) ((BW T t hp (z7 _) (Nat.le_succ_of_le ht) λH2 nl x2 _ en=>?_).room (I7 (s7 ht (by decide))))));obtain nz:t.names.length<64:=z0 (s7 t.names_len (K0 (by decide) ht)) (by decide);refine aK _ en (pI nz) λsl hsl=>?_;refine bR (rZ t.names) λns ens nd mem=>?_;rw[ens];obtain n2:ns.length<=2:=qQ nd λs hs=>t.names_var s ((mem s).mp hs);have x3:Ext H1 (H2.set sl (.list (ns.map V.str))):=x2.trans' (w4 _ hsl);have e3:(H2.set sl (.list (ns.map V.str))) sl=some (.list (ns.map V.str)):=AH.set_self _ _ _;generalize H2.set sl (.list (ns.map V.str))=H3 at *;have tz:∀dn,dn.length<=2->(be cs dn).length<=1000:=λdn h=>by rw[jH];exact s7 (Nat.pow_le_pow_left hcs _) (s7 (K0 (by decide) h) (by decide))
 refine gq e3 (by rw[u1];exact s7 n2 (by decide)) (dG (src:=some (sl,ns.map V.str)) (λxs l' H'=>(∀y,y∉["name","tables"]->l' y=aT ["pattern","shapes","classes"] [t.v,.ref sa,.ref ca] y)/\Ext H3 H'/\∃dn rem tl rs,xs=rem.map V.str/\dn++rem=ns/\l' "tables"=some (.ref tl)/\H' tl=some (.list (rs.map V.ref))/\Tabs H' rs (be cs dn)) (λ_ _ _ z=>z.2.1 _ _ e3) (λv xs l' H' k z hk=>?_) (λl' H' z=>?_) _ _ _ (cO (λy hy=>am _ _ λe=>hy (by rw[e];decide)) (w3 _) (Rr ([]) ns t0 ([J]) rfl rfl rfl (x3 _ _ e1) (e2.ext x3))))
 .refine jb z λkp x4 z=>?_;refine Rl z λdn rem tl rs ex G htl hl hT=>?_;rcases rem with _|⟨s,rem⟩
  .exact(E7 _ _ ex).elim
  obtain⟨rfl,rfl⟩:=K2 ex;have Z:=nd;rw[<- G,G4]at Z;obtain B:=B9 List.length G;rw[A6,So]at B;have lo:∀y,y∉["name","tables"]->(l'.put "name" (.str s)) y=aT ["pattern","shapes","classes"] [t.v,.ref sa,.ref ca] y:=λy hy=>(am _ _ λe=>hy (by rw[e];decide)).trans (kp y hy);refine af _ rfl (cE (GT (l:=l'.put "name" (.str s)) (ns:=dn) htl ((lo _ (by decide)).trans rfl) rfl hl (x4 _ _ (x3 _ _ (x1 _ _ hca))) hT (tz dn (by exact Oe B n2)) (s7 hcs (by decide)) (by exact Of B n2) (λh=>Z.2.2 s h s (.head _) rfl) Z.1 (λtb htb=>ah ((cz cs dn Z.1 tb).mp htb) λθ _ e=>by rw[e,I8];rfl) λH4 c4 rs4 x5 hl4 hT4=>af _ rfl (hk _ _ (cO (λy hy=>(am _ _ λe=>hy (by rw[e];decide)).trans (lo y hy)) (x4.trans' x5) (Rr (dn++[s]) rem c4 rs4 rfl (by rw[K4];exact G) rfl hl4 (by rw[fG];exact hT4))))))
 .refine jb z λkp x4 z=>?_;refine Rl z λdn rem tl rs ex G htl hl hT=>?_
  have:rem=[]:=Sk.mp ex.symm
  subst this;rw[G2]at G;subst G;obtain hrl:=hT.length;have ad:=tz dn n2;refine cE (Fd dictOK.nil (λ_ h=>absurd h y9) rfl (by decide) λfa hfa=>af _ rfl ?_);have xf:Ext H' (H'.set fa (.dict [])):=w4 _ hfa;have lo:∀y,y∉["name","tables","found"]->(l'.put "found" (.ref fa)) y=aT ["pattern","shapes","classes"] [t.v,.ref sa,.ref ca] y:=λy hy=>(am _ _ λe=>hy (by rw[e];decide)).trans (kp y λh=>hy (by rcases A4.mp h with e|e;rw[e];decide;rw[u5.mp e];decide));have xa:=((x1.trans' x3).trans' x4);refine qS (aA (.var ((am _ _ (by decide)).trans htl)) (gq (xf _ _ hl) (by rw[u1,hrl];exact s7 ad (by decide)) (dG (src:=some (tl,rs.map V.ref)) (λxs l2 H2=>(∀y,y≠"table"->l2 y=(l'.put "found" (.ref fa)) y)/\∃F rem trem fd m,xs=rem.map V.ref/\F++trem=be cs dn/\Tabs H' rem trem/\FdI kvs t H' fa F H2 fd m/\m=F.length) (λ_ _ _ z=>?_) (λv xs l2 H2 k z hk=>?_) (λl2 H2 z=>?_) _ _ _ ⟨λ_ _=>rfl,[],rs,be cs dn,[],0,rfl,rfl,hT,⟨xf,AH.set_self _ _ _,J5,J5,λ_ h=>absurd h y9,λ_ h=>absurd h y9,λ_=>.inr rfl,z7 _⟩,rfl⟩)))
  .refine cq z λ_ da=>?_;refine QU da λ_ _ _ _ _ _ _ _ I _=>?_;exact I.x _ _ hl
  .refine cq z λY dC=>?_;refine QU dC λF rem trem fd m ex G O I hm=>?_;rcases rem with _|⟨r,rem⟩
   .exact(E7 _ _ ex).elim
   rcases trem with _|⟨tb,trem⟩
   .exact O.elim
   obtain⟨rfl,rfl⟩:=K2 ex;obtain B:=B9 List.length G;rw[A6,So]at B;refine ah ((cz cs dn nd tb).mp (G▸C9 _ y4)) λθ hθ e=>?_;obtain lo2:∀y,y∉["name","tables","found","table"]->(l2.put "table" (.ref r)) y=aT ["pattern","shapes","classes"] [t.v,.ref sa,.ref ca] y:=λy hy=>(am _ _ λe=>hy (by rw[e];decide)).trans ((Y y λe=>hy (by rw[e];decide)).trans (lo y λh=>hy (E0 (as:=["name","tables","found"]) ["table"] h)));refine af _ rfl (zH T I S hp (z0 ht (by decide:4<6)) (z7 6) hfa (by exact Og B hm ad) (by exact Oh B ad) ((am _ _ (by decide)).trans ((Y _ (by decide)).trans rfl)) ((lo2 _ (by decide)).trans rfl) ((lo2 _ (by decide)).trans rfl) rfl (xa _ _ hsa) O.1 (by rw[e];exact(mK dn θ).mono (by exact Oi n2)) (λs hs=>?_) λH3 fd3 I3=>hk _ _ ⟨λy hy=>(am _ _ hy).trans (Y y hy),F++[tb],rem,trem,fd3,m+1,rfl,by rw[K4];exact G,O.2,I3,by rw[A6,hm];rfl⟩);obtain g:=xz (θ:=θ) ((mem s).mpr hs);rw[<- e]at g;rw[g];exact B9 (λk=>some (V.int k)) (by unfold θof;rw[g];rfl)
  .refine cq z λY zq7=>?_;refine QU zq7 λF rem trem fd m ex G O I hm=>?_;obtain this:rem=[]:=Sk.mp ex.symm;subst this;cases trem with
   |cons _ _=>exact O.elim
   |nil =>
    rw[G2]at G;subst G;refine bY (rest:=[]) (.var ((Y _ (by decide)).trans rfl)) (q H2 fa dn (fd.map Fz) (xa.trans' I.x) ⟨nd,mem,I.d,wB fd,λz=>?_⟩);rcases SH (∃p∈fd,p.1=z)with y|y
    .refine ah y λp hp e=>.inl (af p.2.1 ?_ ?_)
     .rw[<- e];exact uY I.k hp
     .rw[(I.a p hp).1,I.v p hp,e]
    .exact .inr ⟨wC λp hp e=>y (af p hp e),(I.n z).elim (λh=>absurd h y) id⟩
end
structure TS(D:HD)(tb:ba):Prop where
 nd:(tb.map (·.1)).Nodup
 ent:∀p∈tb,∃(s:String)(i:Nat),p=(.str s,iv i)/\i<D.n/\D.r i=i
def Ag(tb:ba)(θ:String->Nat):Prop:=∀s v,(V.str s,v)∈tb->v=iv (θ s)
structure Exd(D:HD)(ns:List String)(tb tb':ba):Prop where
 ts:TS D tb'
 sub:∀p∈tb,p∈tb'
 dom:∀s,(∃v,(V.str s,v)∈tb')↔(∃v,(V.str s,v)∈tb)\/s∈ns
theorem Exd.refl{D:HD}(h:TS D tb):Exd D [] tb tb:=⟨h,λ_ h=>h,λs=>⟨.inl,λz=>z.elim id λz=>absurd z y9⟩⟩
def Exd.trans{D:HD}{ns ms:List String}{a b c:ba}(x:Exd D ns a b)(y:Exd D ms b c):Exd D (ns++ms) a c:=⟨y.ts,λp h=>y.sub p (x.sub p h),λs=>by rw[y.dom,x.dom,C2,or_assoc]⟩
def Ag.sub{tb':ba}(h:Ag tb' θ)(s:∀p∈tb,p∈tb'):Ag tb θ:=λx v B=>h x v (s _ B)
def wU(nd:(tb.map (·.1)).Nodup){p q:V×V}(hp:p∈tb)(hq:q∈tb)(e:p.1=q.1):p=q:=by
 obtain⟨i,hi⟩:=C0.mp hp;obtain⟨j,G⟩:=C0.mp hq;obtain F:(tb.map (·.1))[i]?=some p.1:=by rw[B6,hi];rfl
 have J:(tb.map (·.1))[j]?=some p.1:=by rw[B6,G,e];rfl
 obtain B:=(SK (z5.mp F).1 nd).mp (F.trans J.symm);subst B;exact w8 (hi.symm.trans G)
def iN{kvs:ba}{k v:V}(h:ax kvs k=some v):(k,v)∈kvs:=by refine ah (D7.mp h) λp hp e=>?_;have e1:p.1=k:=(aO _ _).mp (List.find?_some (p:=λp:V×V=>cr p.1 k) hp);obtain B:p=(k,v):=Prod.ext e1 e;exact B▸List.mem_of_find?_eq_some hp
theorem tt(nd:(tb.map (·.1)).Nodup){k v:V}(h:(k,v)∈tb):ax tb k=some v:=by
 rcases e:ax tb k with _|u
 .exfalso;induction tb with
  |nil=>exact absurd h y9
  |cons q r B =>
   obtain⟨a,b⟩:=q;rw[aM]at e;by_cases z:cr a k=true
   .rw[if_pos z]at e;exact sn e
   .rw[if_neg z]at e;rcases A4.mp h with h|h
    .exact z ((aO _ _).mpr (N7 h).1.symm)
    .rw[C4,C8]at nd;exact B nd.2 h e
 .exact B9 some (N7 (wU nd (iN e) h rfl)).2
def xR(nd:(tb.map (·.1)).Nodup){k v:V}(h:ax tb k=some v):dput tb k v=tb:=by
 obtain hm:=iN h;unfold dput;rw[if_pos (RX.mpr ⟨_,hm,bE k⟩)];refine(G3 λp hp=>?_).trans (List.map_id tb);by_cases e:cr p.1 k=true
 .rw[if_pos e];exact(wU nd hp hm ((aO _ _).mp e)).symm▸rfl
 .rw[if_neg e];rfl
section
variable{D:HD}
def nA{tb':ba}(B:t.isv=true)(hc:c<D.n)(hr:D.r c=c)(h:TS D tb):tb'∈(if cr ((ax tb (.str t.op)).getD (iv c)) (iv c)then[dput tb (.str t.op) (iv c)]else[])↔((ax tb (.str t.op)=none/\tb'=tb++[(.str t.op,iv c)])\/(ax tb (.str t.op)=some (iv c)/\tb'=tb)):=by
 rcases e:ax tb (.str t.op)with _|v
 .rw[show((none:Option V).getD (iv c))=iv c from rfl,if_pos (bE _),cQ e,u5];exact⟨λh=>.inl ⟨rfl,h⟩,λz=>z.elim (λz=>z.2) λz=>ns z.1⟩
 .show tb'∈(if cr v (iv c)then _ else _)↔_;by_cases z:v=iv c
  .subst z;rw[if_pos (bE _),xR h.nd e,u5];exact⟨λh=>.inr ⟨rfl,h⟩,λz=>z.elim (λz=>sn z.1) λz=>z.2⟩
  .rw[if_neg (by rw[aO];exact z)];exact⟨λh=>absurd h y9,λy=>y.elim (λy=>sn y.1) λy=>absurd (w8 y.1) z⟩
structure Fit(D:HD)(h:List Nat)(kvs:ba):Prop where
 o:D.Ok
 hr:∀i,i<D.n->hf h i=D.r i
 s:Shp D.nodes h D.n kvs
variable{h:List Nat}{kvs:ba}
theorem Fit.cn(F:Fit D h kvs)(hi:i<D.n):cn D.nodes (hf h) i=D.canon i:=B9 (Prod.mk _) (G3 λk hk=>F.hr k (C6 (cT F.o hi k hk) hi))
def qA(nd:Nd):ag nd=.tup (.str nd.1::(nd.2.map Int.ofNat).map .int):=by unfold ag;rw[I8];rfl
def Fit.hit(F:Fit D h kvs)(hi:i<D.n):lk kvs (D.canon i).1 ((D.canon i).2.map Int.ofNat)=(D.r i:Int):=by
 have:=F.s.get i hi
 rw[F.cn hi,qA,F.hr i hi]at this;unfold lk;rw[this]
theorem y8:∀{l m:List Int},l.map V.int=m.map V.int->l=m
 | [],[],_=>rfl
 | [],_::_,h=>(E7 _ _ h.symm).elim
 |_::_,[],h=>(E7 _ _ h).elim
 |a::l,b::m,h=>by rw[V.int.inj (K2 h).1,y8 (K2 h).2]
theorem Fit.inv(F:Fit D h kvs){op:String}{ks:List Int}(hc:0<=lk kvs op ks):∃i,i<D.n/\(D.r i:Int)=lk kvs op ks/\op=(D.canon i).1/\ks=(D.canon i).2.map Int.ofNat:=by
 unfold lk at hc ⊢;rcases e:ax kvs (.tup (.str op::ks.map .int))with _|v
 .rw[e]at hc;exact absurd hc (by decide)
 .refine bR (F.s.val e) λi hi B G=>?_;rw[F.cn hi,qA]at B;obtain B:=K2 (V.tup.inj B);subst G;exact⟨i,hi,B9 Int.ofNat (F.hr i hi).symm,V.str.inj B.1,y8 B.2⟩
def Fe(hi:i<D.n):ag (D.canon i)∈D.NN (D.r i):=(aw _).mem_iff.mpr (bn.mpr (w7.mpr ⟨i,I4.mpr ⟨E3.mpr hi,D8 rfl⟩,rfl⟩))
def pj(D:HD)(k:Nat):Prop:=k<D.n/\D.r k=k
def DE(D:HD)(kvs:ba)(t:Tr):Prop:=∀c tb tb',pj D c->TS D tb->tb'∈eB D.NN t.v c tb->Exd D t.names tb tb'/\∀θ,Ag tb' θ->t.cls kvs θ=(c:Int)
theorem ue:∀(us:List Tr),(∀u∈us,DE D kvs u)->∀(ks:List Nat)(tbs:List ba)(tb':ba),ks.length=us.length->(∀k∈ks,pj D k)->(∀tb∈tbs,TS D tb)->tb'∈dF D.NN (us.map Tr.v) (ks.map iv) tbs->∃tb∈tbs,Exd D (us.flatMap Tr.names) tb tb'/\∀θ,Ag tb' θ->us.map (Tr.cls kvs θ)=ks.map Int.ofNat
 | [],_,ks,tbs,tb',hl,_,ht,h=>by obtain B:ks=[]:=K7.mp hl;subst B;exact⟨tb',h,.refl (ht _ h),λ_ _=>rfl⟩
 |u::us,Y,[],tbs,tb',hl,_,_,_=>Nat.noConfusion hl
 |u::us,Y,k::ks,tbs,tb',hl,hk,ht,h=>by rw[C4,C4,jx]at h;obtain Z:=Y u y4;have rk:=hk k y4;refine bR (ue us (λv hv=>Y v (w9 _ hv)) ks _ tb' (P1 hl) (λk Q=>hk k (w9 _ Q)) (λG J=>ah (K9.mp J) λtb F O=>(Z k tb G rk (ht tb F) O).1.ts) h) λG J x2 c2=>?_;refine ah (K9.mp J) λtb F O=>?_;obtain B:=Z k tb G rk (ht tb F) O;exact(aK tb F (B.1.trans x2) (λθ a=>by rw[C4,C4,B.2 θ (a.sub x2.sub),c2 θ a];rfl))
theorem vS(F:Fit D h kvs)(t:Tr):DE D kvs t:=by
 induction t using y5 with
 |h t ih =>
  intro c tb tb' hc ht hm;rw[t.v_eq]at hm;cases B:t.isv with
  |true =>
   have G:ie (.tup (.str t.op::t.kids.map Tr.v))=true:=by rw[y7 B];exact B
   rw[hY D.NN G,nA B hc.1 hc.2 ht]at hm;rw[t.names_v B];rcases hm with⟨e,rfl⟩|⟨e,rfl⟩
   .refine⟨⟨⟨?_,λp hp=>?_⟩,λp hp=>E0 _ hp,λs=>?_⟩,λθ a=>?_⟩
    .rw[B7,G4];exact⟨ht.nd,C8.mpr ⟨y9,J5⟩,λa ha b hb e2=>ah (w7.mp ha) λq hq Z=>by
      have e4:b=.str t.op:=u5.mp hb
      have:=tt ht.nd (k:=.str t.op) (v:=q.2) (by rw[<- e4,<- e2,<- Z];exact hq)
      exact nn e this⟩
    .rcases C2.mp hp with hp|hp
     .exact ht.ent p hp
     .exact(ey t.op c (u5.mp hp) hc)
    .constructor
     .refineλz=>bM z λv B=>(C2.mp B).imp (λh=>⟨v,h⟩) λh=>?_
      exact u5.mpr (V.str.inj (N7 (u5.mp h)).1)
     .exactλz=>z.elim (λz=>bM z λv B=>⟨v,E0 _ B⟩) λz=>⟨iv c,C9 _ (by rw[u5.mp z];exact u5.mpr rfl)⟩
    .rw[t.cls_v B];exact B9 Int.ofNat (eI (a t.op (iv c) (C9 _ (u5.mpr rfl)))).symm
   .have hm:=iN e;refine⟨⟨ht,λ_ h=>h,λs=>⟨.inl,λz=>z.elim id λz=>⟨iv c,by rw[u5.mp z];exact hm⟩⟩⟩,λθ a=>?_⟩;rw[t.cls_v B];exact B9 Int.ofNat (eI (a t.op (iv c) hm)).symm
  |false =>
   have G:ie (.tup (.str t.op::t.kids.map Tr.v))=false:=by
    rcases t with s|t|⟨t,u⟩
    .exact B
    .rfl
    .rfl
   rw[fV D.NN G]at hm;rw[t.names_n B];refine ah (K9.mp hm) λnd hnd hm=>?_;refine ah (Aj hnd) λi hi e=>?_;subst e;obtain hi:=HD.mem_lt hi;rw[iP]at hm;split at hm
   .rename_i J;refine bR (ue t.kids ih (D.canon i).2 [tb] tb' (by rw[J.2,u1]) (λk hk=>?_) (λtb h=>u5.mp h▸ht) hm) λtb1 h1 x Y=>?_
    .refine ah (w7.mp hk) λQ O e=>?_;subst e;obtain this:=C6 (cT F.o hi.1 Q O) hi.1;exact⟨oA F.o this,(F.o.rle Q this).2⟩
    .obtain rfl:=u5.mp h1;refine⟨x,λθ a=>?_⟩;rw[t.cls_n B,Y θ a,<- J.1,F.hit hi.1,hi.2]
   .exact absurd hm y9
def DD(D:HD)(kvs:ba)(θ:String->Nat)(t:Tr):Prop:=∀c tb,pj D c->TS D tb->Ag tb θ->t.cls kvs θ=(c:Int)->∃tb'∈eB D.NN t.v c tb,Ag tb' θ
theorem sL(F:Fit D h kvs):∀(us:List Tr),(∀u∈us,DD D kvs θ u)->∀(ks:List Nat)(tbs:List ba)(tb:ba),(∀k∈ks,pj D k)->tb∈tbs->TS D tb->Ag tb θ->us.map (Tr.cls kvs θ)=ks.map Int.ofNat->∃tb'∈dF D.NN (us.map Tr.v) (ks.map iv) tbs,Ag tb' θ
 | [],_,ks,tbs,tb,_,h,_,a,e=>⟨tb,by rw[List.map_nil,iQ];exact h,a⟩
 |u::us,_,[],_,_,_,_,_,_,e=>(E7 _ _ e).elim
 |u::us,J,k::ks,tbs,tb,hk,h,t,a,e=>by have e:=K2 e;have rk:=hk k y4;refine ah (J u y4 k tb rk t a e.1) λB G O=>?_;rw[C4,C4,jx];exact sL F us (λv Q=>J v (w9 _ Q)) ks _ B (λk h=>hk k (w9 _ h)) (K9.mpr (af tb h G)) (vS F u k tb B rk t G).1.ts O e.2
def Fq(F:Fit D h kvs)(t:Tr):DD D kvs θ t:=by
 induction t using y5 with
 |h t ih =>
  intro c tb hc ht ha e;rw[t.v_eq];cases B:t.isv with
  |true =>
   obtain G:ie (.tup (.str t.op::t.kids.map Tr.v))=true:=by rw[y7 B];exact B
   rw[t.cls_v B]at e;have e:θ t.op=c:=R5 e;rw[hY D.NN G];rcases g:ax tb (.str t.op)with _|v
   .refine⟨tb++[(.str t.op,iv c)],g▸(nA B hc.1 hc.2 ht).mpr (.inl ⟨g,rfl⟩),λs v B=>?_⟩;rcases C2.mp B with B|B
    .exact ha s v B
    .have:=N7 (u5.mp B)
     rw[this.2,V.str.inj this.1,e]
   .obtain Y:=ha t.op v (iN g);rw[e]at Y;subst Y;exact(af tb (g▸(nA B hc.1 hc.2 ht).mpr (.inr ⟨g,rfl⟩)) ha)
  |false =>
   have G:ie (.tup (.str t.op::t.kids.map Tr.v))=false:=by
    cases t with
    |leaf s=>exact B
    |f t=>rfl
    |g t u=>rfl
   rw[t.cls_n B]at e;refine wh (F.inv (by rw[e];exact J9 c)) λi hi J eo Q=>?_;rw[e]at J;obtain J:D.r i=c:=R5 J;rw[fV D.NN G];have hl:(D.canon i).2.length=(t.kids.map Tr.v).length:=by obtain this:=B9 List.length Q;rw[u1,u1]at this;rw[u1,this]
   refine ah (sL F t.kids ih (D.canon i).2 [tb] tb (λk hk=>?_) y4 ht ha Q) λtb' h1 a1=>(af tb' (K9.mpr (af (ag (D.canon i)) (J▸Fe hi) ?_)) a1)
   .refine ah (w7.mp hk) λZ O e=>?_;subst e;obtain this:=C6 (cT F.o hi Z O) hi;exact⟨oA F.o this,(F.o.rle Z this).2⟩
   .rw[iP];rw(config:={}) [if_pos ⟨eo.symm,hl⟩];exact h1
def pU(t:Tr){F:String->Nat}(e:∀s∈t.names,θ s=F s):t.cls kvs θ=t.cls kvs F:=by
 induction t using y5 with
 |h t G =>
  cases B:t.isv with
  |true=>rw[t.cls_v B,t.cls_v B,e t.op (by rw[t.names_v B];exact u5.mpr rfl)]
  |false =>rw[t.cls_n B,t.cls_n B];rw[t.names_n B]at e;exact B9 _ (G3 λk hk=>G k hk λs hs=>e s (K9.mpr ⟨k,hk,hs⟩))
def θof_tbl{ns:List String}{s:String}(h:s∈ns):θof (mc ns θ) s=θ s:=by unfold θof;rw[xz h];rfl
theorem qx{ns:List String}{tb':ba}(nd:ns.Nodup)(mem:∀s,s∈ns↔s∈t.names)(x:Exd D t.names [] tb')(a:Ag tb' θ):aW tb'=aW (mc ns θ):=by
 obtain key:∀{tb:ba},(tb.map (·.1)).Nodup->tb.Nodup:=λh=>(L3.mp h).imp λh e=>h (B9 _ e);refine vd (mK ns θ) ((Q2 (key x.ts.nd) (key ?_)).mpr λp=>⟨λhp=>?_,λhp=>?_⟩)
 .rw[I8];exact L3.mpr (nd.imp λh e=>h (V.str.inj e))
 .refine ph (x.ts.ent p hp) λs i e=>?_;obtain hs:=((x.dom s).mp ⟨_,e.1▸hp⟩).elim (λz=>bM z λ_ z=>absurd z y9) id;exact w7.mpr ⟨s,(mem s).mpr hs,by rw[e.1,a s (iv i) (e.1▸hp)]⟩
 .refine ah (w7.mp hp) λs hs e=>?_;refine bM ((x.dom s).mpr (.inr ((mem s).mp hs))) λv B=>?_;rw[<- e,<- a s v B];exact B
def we(D:HD):TS D []:=⟨J5,λ_ h=>absurd h y9⟩
def xX(F:Fit D h kvs){ns:List String}{cs:List Nat}(hc:pj D c)(nd:ns.Nodup)(mem:∀s,s∈ns↔s∈t.names)(Z:∀i,i∈cs↔pj D i)(Y:cs.Nodup):(eP kvs t (be cs ns) c).Perm (bf ((eB D.NN t.v c []).map aW)):=by
 have B:∀θ:String->Nat,kG kvs t (mc ns θ)=t.cls kvs θ:=λθ=>pU t λs hs=>θof_tbl ((mem s).mpr hs);have dn:(eP kvs t (be cs ns) c).Nodup:=by obtain n1:=(List.Pairwise.filter (λtb=>decide (kG kvs t tb=c)) (si Y ns));refine L3.mpr (n1.imp_of_mem λ{a b} ha hb ad e=>ad ?_);refine ah ((cz cs ns nd a).mp (I4.mp ha).1) λθ _ ea=>?_;refine ah ((cz cs ns nd b).mp (I4.mp hb).1) λθ' _ eb=>?_;rw[ea,eb]at e ⊢;exact vm e nd
 refine(Q2 dn (cA _)).mpr λx=>?_;rw[bn];constructor
 .refineλhx=>ah (w7.mp hx) λtb G e=>?_
  obtain G:=I4.mp G;refine ah ((cz cs ns nd tb).mp G.1) λθ hθ e1=>?_;obtain ec:=z9 G.2;rw[e1,B]at ec;refine ah (Fq F t (θ:=θ) c [] hc (we D) (λ_ _ h=>absurd h y9) ec) λtb' Q a=>?_;exact w7.mpr ⟨tb',Q,by rw[qx nd mem (vS F t c [] tb' hc (we D) Q).1 a,<- e,e1]⟩
 .refineλhx=>ah (w7.mp hx) λtb' Q e=>?_
  have S:=vS F t c [] tb' hc (we D) Q;have a:Ag tb' (θof tb'):=λs v J=>by
   refine ph (S.1.ts.ent _ J) λs' i e=>?_;obtain e2:=(N7 e.1).2;subst e2;obtain O:θof tb' s=i:=by unfold θof;rw[tt S.1.ts.nd J];rfl
   rw[O]
  obtain em:=qx nd mem S.1 a;refine w7.mpr ⟨mc ns (θof tb'),I4.mpr ⟨(cz cs ns nd _).mpr (af (θof tb') (λs hs=>?_) rfl),D8 (by rw[B];exact S.2 _ a)⟩,by rw[<- em,e]⟩;refine bM ((S.1.dom s).mpr (.inr ((mem s).mp hs))) λv J=>?_;refine ph (S.1.ts.ent _ J) λs' i e=>?_;rw[<- show i=θof tb' s from eI ((N7 e.1).2.symm.trans (a s v J))];exact(Z i).mpr e.2
end
noncomputable def wa(N:List Nd):Nat:=(if("a",[])∈N then 1 else 0)+if("b",[])∈N then 1 else 0
noncomputable def Tr.inner:Tr->Nat
 | .leaf _=>0
 | .f t=>t.inner+1
 | .g t u=>t.inner+u.inner+1
def Fc(N:List Nd):wa N<=2:=by unfold wa;split <;> split <;> decide
theorem lm{B:List Nd}{op:String}{ks:List Nat}(h:Added N (op,ks) B i)(hk:ks≠[])(G:N.length<=wa N+k):B.length<=wa B+(k+1):=by
 rcases h.2 with e|e
 .rw[e];exact Ni G
 .obtain m:∀s:String,(s,([]:List Nat))∈B↔(s,[])∈N:=λs=>by rw[e.1,C2,u5];exact⟨λz=>z.elim id λz=>absurd (N7 z).2.symm hk,.inl⟩
  obtain F:wa B=wa N:=by unfold wa;simp only[m]
  rw[F,e.1,A6,J8];exact Nj G
theorem uJ{B:List Nd}{s:String}(h:Added N (s,[]) B i)(hs:s∈["a","b"])(F:N.length<=wa N+k):B.length<=wa B+k:=by
 rcases h.2 with e|e
 .rw[e];exact F
 .have:wa B=wa N+1:=by
   obtain ne:("a":String)≠"b":=by decide
   rw[e.1];unfold wa;rcases A4.mp hs with rfl|hs
   .rw[if_neg e.2,if_pos (C9 _ (u5.mpr rfl))]
    have:("b",([]:List Nat))∈N++[("a",[])]↔("b",[])∈N:=by rw[C2,u5];exact⟨λz=>z.elim id λz=>absurd (N7 z).1.symm ne,.inl⟩
    simp only[this];exact Nk
   .obtain rfl:=u5.mp hs;rw[if_neg e.2,if_pos (C9 _ (u5.mpr rfl))]
    have:("a",([]:List Nat))∈N++[("b",[])]↔("a",[])∈N:=by rw[C2,u5];exact⟨λz=>z.elim id λz=>absurd (N7 z).1 ne,.inl⟩
    simp only[this]
  rw[this,e.1,A6,J8];exact Nl F
def sG:∀{h:Nat}{N B:List Nd}{i k:Nat},t.ok ["a","b"] h->Built N t B i->N.length<=wa N+k->B.length<=wa B+(k+t.inner):=by
 induction t with
 |leaf s =>intro h N B i k ht G F;exact uJ G (by cases h <;> exact ht) F
 |f t a =>
  intro h N B i k ht G F;rcases h with _|h
  .exact ht.elim
  .exact cF G λ_ _ J O=>lm O (E7 _ _) (a ht J F)
 |g t u a b =>
  intro h N B i k ht G F;rcases h with _|h
  .exact ht.elim
  .exact Pd G λ_ _ _ _ J O Q=>(O6 k t.inner u.inner▸lm Q (E7 _ _) (b ht.2 O (a ht.1 J F)):_<=_+(k+(t.inner+u.inner)+1))
def te:∀{h:Nat},t.ok Γ h->t.inner+1<=2^h:=by
 induction t with
 |leaf s=>exactλ_=>Nat.two_pow_pos _
 |f t a =>
  intro h ht;rcases h with _|h
  .exact ht.elim
  .obtain B:=a ht;rw[Sn];exact EN B
 |g t u a b =>
  intro h ht;rcases h with _|h
  .exact ht.elim
  .obtain B:=a ht.1;obtain B:=b ht.2;rw[Sn];exact EO (by assumption) B
section
variable{D:HD}{h:List Nat}{kvs:ba}
def He(D:HD)(z:Int):Prop:=∀i,i<D.n->∀k∈(D.canon i).2,(k:Int)≠z
theorem Fit.bad(F:Fit D h kvs){op:String}{ks:List Int}{z:Int}(hz:z∈ks)(b:He D z):lk kvs op ks=-1:=by
 rcases SH (0<=lk kvs op ks)with c|c
 .refine wh (F.inv c) λi hi _ _ e=>?_;rw[e]at hz;exact ah (w7.mp hz) λk hk e=>absurd e (b i hi k hk)
 .unfold lk at c ⊢;rcases e:ax kvs (.tup (.str op::ks.map .int))with _|v
  .rfl
  .refine bR (F.s.val e) λi _ _ B=>?_;subst B;rw[e]at c;exact absurd (J9 _) c
def Fit.cbad(F:Fit D h kvs){w:Nat}(b:He D w)(t:Tr):t.names≠[]->He D (t.cls kvs λ_=>w)/\(t.isv=false->t.cls kvs (λ_=>w)=-1):=by
 obtain b1:He D (-1):=λi _ k _ e=>absurd (e▸J9 k:(0:Int)<=-1) (by decide);induction t using y5 with
 |h t O =>
  intro J;cases G:t.isv with
  |true=>rw[t.cls_v G];exact⟨b,λz=>ai z.symm⟩
  |false =>
   rw[t.names_n G]at J
   have:∃k∈t.kids,k.names≠[]:=by
    rcases SH (∃k∈t.kids,k.names≠[])with z|z
    .exact z
    .exact absurd (List.flatMap_eq_nil_iff.mpr λk hk=>Classical.byContradiction λy=>z (af k hk y)) J
   refine ah this λk hk B=>?_;obtain e:t.cls kvs (λ_=>w)=-1:=by rw[t.cls_n G];exact F.bad (w7.mpr (af k hk rfl)) (O k hk B).1
   rw[e];exact⟨b1,λ_=>rfl⟩
theorem uK{l:List Nat}{n:Nat}(nd:l.Nodup)(h:∀x∈l,x<n)(hl:n<=l.length)(i:Nat)(hi:i<n):i∈l:=Classical.byContradiction λz=>by obtain B:=cL n (i::l) (C8.mpr ⟨z,nd⟩) λx hx=>(A4.mp hx).elim (λe=>e▸hi) (h x);rw[So]at B;exact AD B hl
def Cg(F:Fit D h kvs){ns:List String}{cs:List Nat}(Y:D.n<=8)(nd:ns.Nodup)(mem:∀s,s∈ns↔s∈t.names)(B:∀i,i∈cs↔pj D i)(J:cs.Nodup):(eP kvs t (be cs ns) c).length<64:=by
 have cl:cs.length<=D.n:=cL D.n cs J λx hx=>((B x).mp hx).1;obtain tl:=jH cs ns;have n2:ns.length<=2:=qQ nd λs hs=>t.names_var s ((mem s).mp hs);have le:(eP kvs t (be cs ns) c).length<=cs.length^ns.length:=tl▸nq ..;by_cases h1:ns.length<=1
 .refine z0 (s7 le (s7 (Nat.pow_le_pow_left (s7 cl Y) _) (K0 (by decide) h1))) (by decide)
 obtain e2:ns.length=2:=by exact Nm n2 h1
 rw[e2]at le tl;by_cases Q:cs.length<=7
 .exact z0 (s7 le (Nat.pow_le_pow_left Q 2)) (by decide)
 have O:cs.length=D.n:=by exact Nn cl Y Q
 have all:∀i,i<D.n->D.r i=i:=λi hi=>((B i).mp (uK J (λx hx=>((B x).mp hx).1) (r5 O.symm) i hi)).2;obtain b:He D ((D.n-1:Nat):Int):=λi hi k hk e=>by refine ah (w7.mp hk) λk0 Z ek=>?_;obtain lt:=cT F.o hi k0 Z;rw[all k0 (C6 lt hi)]at ek;obtain e:=R5 e;exact Np e ek hi lt
 obtain ad:t.names≠[]:=λz=>by
  rcases ns with _|⟨a,ns⟩
  .exact absurd e2 (by decide)
  .obtain G:=(mem a).mp (.head _);rw[z]at G;exact absurd G y9
 have hv:t.isv=false:=by
  cases hv:t.isv with
  |false=>rfl
  |true =>
   exfalso;rcases ns with _|⟨a,_|⟨b,ns⟩⟩
   .exact absurd e2 (by decide)
   .exact absurd e2 (show ¬ 1=2 by decide)
   .obtain ha:=(mem a).mp (.head _);obtain hb:=(mem b).mp (.tail _ (.head _));rw[t.names_v hv]at ha hb;rw[C8]at nd;exact nd.1 (by rw[u5.mp ha,u5.mp hb];exact .head _)
 have cb:=(F.cbad b t ad).2 hv;have lt:(eP kvs t (be cs ns) c).length<(be cs ns).length:=by unfold eP;rw[u1,List.length_filter_lt_length_iff_exists];refine⟨mc ns λ_=>D.n-1,(cz cs ns nd _).mpr (af _ (λs _=>(B _).mpr ⟨by exact EP O Q,all _ (by exact EP O Q)⟩) rfl),λz=>?_⟩;obtain z:=z9 z;rw[show kG kvs t (mc ns λ_=>D.n-1)=t.cls kvs (λ_=>D.n-1)from pU t λs hs=>θof_tbl (ns:=ns) ((mem s).mpr hs),cb]at z;exact absurd (z▸J9 c:(0:Int)<=-1) (by decide)
 rw[tl,O]at lt;exact E8 lt (Nat.pow_le_pow_left Y 2)
def zG(F:Fit D h kvs){ns:List String}{cs:List Nat}(O:D.n<=8)(nd:ns.Nodup)(mem:∀s,s∈ns↔s∈t.names)(G:∀i,i∈cs↔pj D i)(B:cs.Nodup):sortable (eP kvs t (be cs ns) c):=by
 have sub:∀x∈eP kvs t (be cs ns) c,∃θ,x=aW (mc ns θ):=λx hx=>ah (w7.mp hx) λtb J e=>ah ((cz cs ns nd tb).mp (I4.mp J).1) λθ _ e1=>⟨θ,by rw[<- e,e1]⟩;have ok:∀x∈eP kvs t (be cs ns) c,substOK x:=λx hx=>bM (sub x hx) λθ e=>e▸(mK ns θ).subst;refine sw (Cg F O nd mem G B) (λx hx=>⟨(ok x hx).key.1,s7 (ok x hx).key.2.1 (by decide)⟩) ?_ λx hx y hy=>(ok x hx).cmp (ok y hy);rcases ns with _|⟨a,ns⟩
 .exact .inl (z0 (nq ..) (by rw[jH];exact z7 2))
 .refine .inr λx hx=>bM (sub x hx) λθ e=>?_;rw[e];obtain hl:(aH (aV (mc (a::ns) θ))).length=(a::ns).length:=by rw[(aw _).length_eq];unfold aV;rw[u1,u1]
  show kO (.tup (aH (aV (mc (a::ns) θ))))=true;rcases z:aH (aV (mc (a::ns) θ))with _|⟨b,l⟩
  .rw[z]at hl;exact Nat.noConfusion hl
  .rfl
theorem xS{ns:List String}{cs:List Nat}(nd:ns.Nodup):iy (aH (eP kvs t (be cs ns) c)):=oj λx hx=>by
 refine ah (w7.mp ((aw _).mem_iff.mp hx)) λtb F e=>ah ((cz cs ns nd tb).mp (I4.mp F).1) λθ _ e1=>?_;rw[<- e,e1];have it:∀y∈aH (aV (mc ns θ)),gF y/\aB y<=1:=λy hy=>ph ((mK ns θ).items y ((aw _).mem_iff.mp hy)) λs i e=>by subst e;exact⟨⟨rfl,show 1<=8 by decide⟩,z7 1⟩
 refine⟨jE λy hy=>(it y hy).1.1,?_⟩;obtain B:=eG (n:=1) λy hy=>(it y hy).2;exact Nq B
end
section
variable{s:Nat}
def HD.At.extB{D:HD}{H:AH}(A:D.At H){c:Addr}(x:ExtB c H H')(h:c∉D.adr):D.At H':=⟨λp hp=>x _ _ (λe=>h (w7.mpr (af p hp e))) (A.all p hp),A.nd⟩
def HD.At.only{D:HD}{H:AH}(A:D.At H){fa:Addr}(o:Only fa H H')(h:fa∉D.adr):D.At H':=A.extB (λa y ha e=>(o a ha).trans e) h
def Frm.keep{H:AH}{A A':List Addr}(f:Frm H H' A A'){x:Addr}{o:AO}(h:H x=some o)(hx:x∉A):H' x=some o/\x∉A':=by
 refine⟨f.out x o h hx,λhm=>?_⟩;rcases f.new x hm with h'|h'
 .exact hx h'
 .exact nn h' h
structure Mid(H:AH)(fa ca ma:Addr)(cs:List Int)(s:Nat)(D:HD)(P:List (Nat×Nat)):Prop where
 at_:D.At H
 ok:D.Ok
 cl:Cl D P [] []
 feed:Feed H fa ca cs s
 m:H ma=some (.list (D.nodes.map ag))
 f1:fa∉D.adr
 f2:ca∉D.adr
 f3:ma∉D.adr
 n1:fa≠ma
 n2:ca≠ma
def Feed.keep{H:AH}{fa:Addr}(F:Feed H fa ca cs s)(B:∀o,H fa=some o->H' fa=some o)(G:∀o,H ca=some o->H' ca=some o):Feed H' fa ca cs s:=⟨B _ F.f,G _ F.c,F.len,F.ne⟩
theorem Mid.ext{H:AH}{fa:Addr}{D:HD}(M:Mid H fa ca ma cs s D P)(x:Ext H H'):Mid H' fa ca ma cs s D P:=⟨M.at_.ext x,M.ok,M.cl,M.feed.keep (x _) (x _),x _ _ M.m,M.f1,M.f2,M.f3,M.n1,M.n2⟩
theorem Mid.only{H:AH}{fa:Addr}{s':Nat}{D:HD}(M:Mid H fa ca ma cs s D P)(o:Only fa H H')(F:Feed H' fa ca cs s'):Mid H' fa ca ma cs s' D P:=⟨M.at_.only o M.f1,M.ok,M.cl,F,(o _ M.n1.symm).trans M.m,M.f1,M.f2,M.f3,M.n1,M.n2⟩
theorem Cl.nil{D:HD}(O:D.Ok)(h:D.nodes=[]):Cl D [] [] []:=by have n:D.n=0:=B9 List.length h;exact⟨λf _ i hi=>absurd (n▸hi) (J3 _),λf _ p hp=>absurd (n▸O.known p hp) (J3 _),λ_ h=>absurd h y9,λ_ h=>absurd h y9,λi hi=>absurd (n▸hi) (J3 _),λi hi=>absurd (n▸hi) (J3 _)⟩
section
variable{H:AH}{d:Nat}{Q:b8}
def FCall.call{m:String}{f:Addr}(h:FCall σ d m vs H Q)(e:σ.fn m=some f):CallS σ d f vs H Q:=by refine ah h λB e' k=>?_;rw[e]at e';obtain rfl:=w8 e';exact k
theorem FD{x:String}{b:List MS}{n:Nat}(I:Nat->Loc->AH->Prop)(h0:I 0 l H)(step:∀i l H k,i<n->I i l H->(∀l' H',I (i+1) l' H'->k .next l' H')->az σ d b (l.put x (iv i)) H k)(O:∀l H,I n l H->K .next l H) : kM none (λv l H k=>∃l',bz (.nm x) v l=some l'/\az σ d b l' H k) (eM n) l H K:=by
 refine dG (src:=none) (λxs l H=>∃i,xs=((List.range n).map iv).drop i/\i<=n/\I i l H) (λ_ _ _ _=>trivial) (λv xs l H k z hk=>?_) (λl H z=>?_) _ l H (aK 0 rfl (E1 _) h0)
 .refine bR z λi ex hi F=>?_;have J:((List.range n).map iv)[i]?=some v:=by
   obtain this:(((List.range n).map iv).drop i)[0]?=some v:=by rw[<- ex];rfl
   rwa [P3,Nat.add_zero]at this
  have B:i<n:=by obtain this:=(z5.mp J).1;rwa [u1,Sd]at this
  rw[B6,List.getElem?_range B]at J;obtain rfl:=w8 J;exact af _ rfl (step i l H k B F λl' H' G=>hk l' H' (aK (i+1) (by rw[<- List.tail_drop,<- ex];rfl) B G))
 .refine bR z λi ex hi F=>?_
  have:=List.drop_eq_nil_iff.mp ex.symm
  rw[u1,Sd]at this;obtain rfl:i=n:=A8 hi this;exact O l H F
def QO(T:Txt σ)(hd:4<=d)(l1:l "script"=some .scr)(k:∀H' fa ca ma cs D,Mid H' fa ca ma cs 0 D []->D.nodes=[]->D.M=0->az σ d rest (((l.put "feed" (.ref fa)).put "heap" (.ref D.hp)).put "mine" (.ref ma)) H' K) : az σ d (.asg (.tg (.tp3 (.nm "feed") (.nm "heap") (.nm "mine"))) (.tup (.cons (.dct (.cons f8 (.cons l7 .nil)) (.cons (.prim .list (.slc (.var "script") none (some 40))) (.cons c8 .nil))) (.cons (.new "Heap" .nil) (.cons (.lst .nil) .nil))))::rest) l H K:=by
 refine bM T.cHeap λC eC=>?_;refine cF T.Heap_init λf _ ef _=>?_;have J:(σ.svs.take 40).length<=40:=by rw[List.length_take];exact P0 _ _
 refine af _ l1 ⟨rfl,(aK 40 rfl (by decide) (λsa hsa=>aK _ (AH.set_self _ _ _) (by rw[u1];exact s7 J (by decide)) λca hca=>?_))⟩;refine Fd ⟨show[V.str "cells",V.str "at"].Nodup by simp,(af 1 (by decide) (jX [("cells",V.ref ca),("at",iv 0)]))⟩ (jX [("cells",V.ref ca),("at",iv 0)]) rfl (by decide) λfa B=>?_;refine pi C f (d-1) (by exact Mx hd) eC ef λx dx h1 h2 h3=>((sI T (rJ Hold.nil "Heap" h1 h2 h3) λH' D x1 A O Y hM Q G=>?_).call ef).room (by exact My hd);refine⟨rfl,λma F=>af _ rfl ?_⟩;obtain xf:=x1 _ _ (AH.set_self _ fa _);obtain xc:=x1 _ _ (w4 _ B _ _ (AH.set_self _ ca _));obtain xm:Ext H' (H'.set ma (.list [])):=w4 _ F;obtain Z:fa≠ca:=λz=>by rw[z,AH.set_self]at B;exact sn B
 rw[<- Q];exact k _ fa ca ma (σ.svs.take 40) D ⟨A.ext xm,O,Cl.nil O Y,⟨xm _ _ xf,xm _ _ xc,s7 J (by decide),Z⟩,by rw[AH.set_self,Y];rfl,λh=>nn (G _ h) (AH.set_self _ _ _),λh=>nn (G _ h) (w4 _ B _ _ (AH.set_self _ _ _)),kj A F,aC xf F,aC xc F⟩ Y hM
theorem Mid.extB{H:AH}{fa:Addr}{s':Nat}{D:HD}(M:Mid H fa ca ma cs s D P)(x:ExtB fa H H')(F:Feed H' fa ca cs s'):Mid H' fa ca ma cs s' D P:=⟨M.at_.extB x M.f1,M.ok,M.cl,F,x _ _ M.n1.symm M.m,M.f1,M.f2,M.f3,M.n1,M.n2⟩
def sr(T:Txt σ){fa:Addr}{h:Nat}{e:ME}{es:MEs}(F:Feed H fa ca cs s)(hf:l "feed"=some (.ref fa))(Z:Ev σ l H e (iv h))(Y:Evs σ l H es (Γ.map .str))(h0:0<Γ.length)(G:Γ.length<=4)(hs:s+2^(h+1)<10000)(hh:h<=2)(hd:2+h<=d) (q:∀H' (t:Tr) s',t.ok Γ h->s'+1<=s+2^(h+1)->ExtB fa H H'->Feed H' fa ca cs s'->Q t.v H'):aY σ d (.call "_law_tree" (.cons d6 (.cons e (.cons (.lst es) .nil)))) l H Q:=by refine cF T.law_tree λf _ O _=>?_;refine af f O (aq (aA (.var hf) (aq (aA Z (aq (dl (Y _ _ λla B=>aR ?_)))))));obtain J:la≠fa:=(aC F.f B).symm;obtain x:=w4 (.list (Γ.map .str)) B;exact((Fn T h0 G J h (F.keep (x _) (x _)) (AH.set_self _ _ _) hs hh λH' t s' a b o f=>q H' t s' a b (λa y ha e=>(o a ha).trans (x _ _ e)) f).room hd).call O
def DU:∀{h:Nat},t.ok Γ h->t.sz+1<=2^(h+1):=by
 induction t with
 |leaf s=>exactλ{h} _=>by show 2<=2^(h+1);rw[Sn];obtain B:=Nat.two_pow_pos h;exact EK B
 |f t a =>
  intro h ht;rcases h with _|h
  .exact ht.elim
  .obtain B:=a ht;rw[Sn];exact EN B
 |g t u a b =>
  intro h ht;rcases h with _|h
  .exact ht.elim
  .obtain B:=a ht.1;obtain B:=b ht.2;rw[Sn];exact EO (by assumption) B
structure Fill(l0:Loc)(fa ca ma:Addr)(cs:List Int)(hp:Addr)(i:Nat)(l:Loc)(H:AH)(s:Nat)(D:HD):Prop where
 loc:∀y,y∉["lap","tree"]->l y=l0 y
 mid:Mid H fa ca ma cs s D []
 hp:D.hp=hp
 M:D.M=0
 sb:s<=10+8*i
 few:D.nodes.length<=wa D.nodes+3*(i-1)
 pos:0<i->0<D.n
noncomputable abbrev DK:List MS:=[.asg (.tg (.nm "tree")) (.call "_law_tree" (.cons d6 (.cons (.ite (.cmp1 .gt (.var "lap") c8) f9 c8) (.cons (.lst (.cons l9 (.cons o5 .nil))) .nil)))),.if1 (.cmp1 .ne (.meth j5 "put" (.cons k9 .nil)) (.call "_law_ranked" (.cons d7 (.cons k9 .nil)))) [.ret i6] []]
def zN(T:Txt σ)(hd:9<=d){l0:Loc}{fa hp:Addr}{D:HD}(I:Fill l0 fa ca ma cs hp i l H s D)(hi:i<3)(h1:l0 "feed"=some (.ref fa))(h2:l0 "heap"=some (.ref hp))(h3:l0 "mine"=some (.ref ma)) (k:∀l' H' s' D',Fill l0 fa ca ma cs hp (i+1) l' H' s' D'->K .next l' H'):az σ d DK (l.put "lap" (iv i)) H K:=by
 have lo:∀y,y∉["lap","tree"]->(l.put "lap" (iv i)) y=l0 y:=λy hy=>(am _ _ λe=>hy (by rw[e];decide)).trans (I.loc y hy);obtain hw:=Fc D.nodes;have J:=I.few;have ad:=I.sb;have hM:=I.mid;have Y:∃h,(h=if 0<i then 2 else 0)/\h<=2/\Ev σ (l.put "lap" (iv i)) H (.ite (.cmp1 .gt (.var "lap") c8) f9 c8) (iv h):=by
  by_cases z:0<i
  .exact⟨2,(if_pos z).symm,z7 2,λd Q q=>lf (aA (.var rfl) (aA .cst (bF _ _ rfl rfl (gW (D8 (Int.natCast_pos.mpr z)) (aA .cst q)))))⟩
  .exact⟨0,(if_neg z).symm,E1 2,λd Q q=>lf (aA (.var rfl) (aA .cst (bF _ _ rfl rfl (jc (E2 λy=>z (Int.natCast_pos.mp y)) (aA .cst q)))))⟩
 refine bR Y λh eh F ev=>?_;have pw:2^(h+1)<=2^3:=K0 (by decide) (I7 F);refine cE (sr T (Γ:=["a","b"]) hM.feed ((lo _ (by decide)).trans h1) ev (.cons .cst (.cons .cst .nil)) (by decide) (by decide) (by exact Nr ad hi pw) F (by exact Nt hd F) λH1 t s1 ht hs1 x1 F1=>af _ rfl ?_);have B:=hM.extB x1 F1;have ar:=DU ht;obtain hhp:((l.put "lap" (iv i)).put "tree" t.v) "heap"=some (.ref D.hp):=(am _ _ (by decide)).trans ((lo _ (by decide)).trans (by rw[I.hp];exact h2));have Z:D.n<=10:=by exact Nu J hw hi
 refine xE (aQ (.var hhp) B.at_.heap rfl T.Heap_put.some (.cons (.var rfl) .nil) ((Hm T (by decide) t (h:=h) B.at_ B.ok ht (by exact Nv ar pw Z) λH2 D2 i2 W b=>?_).room (by exact Nw hd F)));have O:=W.frm.keep B.m B.f3;refine fg (.cons (.var ((am _ _ (by decide)).trans ((lo _ (by decide)).trans h3))) (.cons (.var rfl) .nil)) ((zt T t ht O.1 (by exact Nx ar pw Z) λH3 N3 j b3 m3 x3=>?_).room (by exact Ny hd F));refine cq (b.uniq B.ok.ndn b3) λaX bV=>?_;subst aX;subst bV;refine nV _ _ _ _ ?_;rw[vt rfl];have k1:=W.frm.keep B.feed.f B.f1;have k2:=W.frm.keep B.feed.c B.f2;refine jc rfl (k _ H3 s1 D2 ⟨λy hy=>(am _ _ λe=>hy (by rw[e];decide)).trans (lo y hy),⟨W.at_.extB x3 O.2,W.ok,W.cl _ B.cl,F1.keep (λo e=>x3 _ _ B.n1 ((k1.1▸F1.f▸e:H2 fa=some o))) (λo e=>x3 _ _ B.n2 (k2.1▸F1.c▸e:H2 ca=some o)),m3,k1.2,k2.2,O.2,B.n1,B.n2⟩,W.hp.trans I.hp,W.M.trans I.M,by exact Nz hs1 ad pw,?_,λ_=>z0 (E1 _) b.len.1⟩);obtain sm:=sG ht b J;obtain G:=te ht;by_cases z:0<i
 .rw[eh,if_pos z]at G;exact NA G sm z
 .rw[eh,if_neg z]at G;exact NB G sm
end
end
section
variable{H:AH}{d:Nat}{Q:b8}
theorem oZ{t:Tgt}{e:ME}{b:List MS}(h:aY σ d e l H λv H1=>∃n,v=.int n/\0<=n/\n<=1000/\kM none (λv l H k=>∃l',bz t v l=some l'/\az σ d b l' H k) (eM n.toNat) l H1 (Sq σ d rest K)):az σ d (.for1 t (.rng e) b::rest) l H K:=h
def QP(T:Txt σ)(hd:9<=d){fa:Addr}{D:HD}(M:Mid H fa ca ma cs 0 D [])(hN:D.nodes=[])(hM:D.M=0)(F:l "feed"=some (.ref fa))(Y:l "heap"=some (.ref D.hp))(Z:l "mine"=some (.ref ma)) (k:∀l' H' s' D',(∀y,y∉["lap","tree"]->l' y=l y)->Mid H' fa ca ma cs s' D' []->D'.hp=D.hp->D'.M=0->s'<=40->D'.n<=8->0<D'.n->az σ d rest l' H' K) : az σ d (.for1 (.nm "lap") (.rng (.bin .add f9 (.call "_law_draw" (.cons d6 (.cons f9 .nil))))) DK::rest) l H K:=by refine oZ (gM (aA .cst (fg (.cons (.var F) (.cons (.cst (v:=iv 2)) .nil)) ((mZ T M.feed (by decide) (m:=2) (by decide) λH1 j B o1 J=>?_).room (by exact tF hd)))));have Q:=M.only o1 J;refine BJ (jK _ rfl (by exact MF) (by exact MG B) ?_);rw[show((2:Int)+(j:Int)).toNat=2+j by exact MH];refine FD (λi l' H'=>∃s' D',Fill l fa ca ma cs D.hp i l' H' s' D') (uD 1 D ⟨λ_ _=>rfl,Q,rfl,hM,by decide,by rw[hN];exact E1 _,λz=>absurd z (Nat.lt_irrefl 0)⟩) (λi l' H' k' hi z hk=>ph z λs' D' I=>zN T hd I (by exact MI hi B) F Y Z λl2 H2 s2 G O=>hk l2 H2 (uD s2 G O)) λl' H' z=>ph z λs' D' I=>?_;obtain hw:=Fc D'.nodes;obtain hf:=I.few;obtain hs:=I.sb;exact k l' H' s' D' I.loc I.mid I.hp I.M (by exact MJ hs B) (by exact MK hf hw B) (I.pos (by exact ML))
theorem Ev.neg{i:Int}:Ev σ l H (.neg i) (.int (-i)):=λ_ _ q=>q
def Ar(vs:List V)(x:V):CF (vs++[x]) (-1)=some x:=by unfold CF;rw[if_neg (by decide),if_pos (by rw[A6,J8];exact MM)];rw[show(((vs++[x]).length:Int)+-1).toNat=vs.length by rw[A6,J8];exact MN];rw[List.getElem?_append_right (z7 _),Nat.sub_self];rfl
structure Tell(l0:Loc)(fa ca ma pa:Addr)(cs:List Int)(N:List Nd)(hp:Addr)(i:Nat)(l:Loc)(H:AH)(s:Nat)(D:HD)(P:List (Nat×Nat)):Prop where
 loc:∀y,y∉["lap"]->l y=l0 y
 mid:Mid H fa ca ma cs s D P.reverse
 hp:D.hp=hp
 nodes:D.nodes=N
 M:D.M=i
 sb:s<=50+2*i
 p:H pa=some (.list (P.map pv))
 len:P.length=i
 f4:pa∉D.adr
 n3:pa≠fa
 n4:pa≠ca
 n5:pa≠ma
noncomputable abbrev Fa:List MS:=[.expr (.meth i7 "append" (.cons (.tup (.cons (.call "_law_draw" (.cons d6 (.cons (.prim .len d7) .nil))) (.cons (.call "_law_draw" (.cons d6 (.cons (.prim .len d7) .nil))) .nil))) .nil)),.expr (.meth j5 "merge" (.cons (.idx (.idx i7 (.neg 1)) c8) (.cons (.idx (.idx i7 (.neg 1)) f7) (.cons (.tup (.cons (.cst (.str "told")) (.cons (.cst (.str "t")) .nil))) .nil))))]
def xF(T:Txt σ){fa:Addr}{s:Nat}{D:HD}(M:Mid H fa ca ma cs s D P)(hs:s<10000)(hp:0<D.n)(hd:1<=d)(B:l "feed"=some (.ref fa))(G:l "mine"=some (.ref ma))(q:∀H' k,k<D.n->Only fa H H'->Mid H' fa ca ma cs (s+1) D P->Q (iv k) H') : aY σ d (.call "_law_draw" (.cons d6 (.cons (.prim .len d7) .nil))) l H Q :=fg (.cons (.var B) (.cons (cY (.var G) M.m (u1 _) (s7 M.ok.nz (by decide))) .nil)) ((mZ T M.feed hs hp λH' k hk o F=>q H' k hk o (M.only o F)).room hd)
theorem Bi(T:Txt σ)(hd:9<=d){l0:Loc}{fa pa hp:Addr}{s:Nat}{D:HD}(I:Tell l0 fa ca ma pa cs N hp i l H s D P)(hi:i<3)(hn:0<D.n)(h1:l0 "feed"=some (.ref fa))(h2:l0 "heap"=some (.ref hp))(h3:l0 "mine"=some (.ref ma))(h4:l0 "pairs"=some (.ref pa)) (k:∀l' H' s' D' P',Tell l0 fa ca ma pa cs N hp (i+1) l' H' s' D' P'->K .next l' H'):az σ d Fa (l.put "lap" (iv i)) H K:=by have lo:∀y,y∉["lap"]->(l.put "lap" (iv i)) y=l0 y:=λy hy=>(am _ _ λe=>hy (by rw[e];decide)).trans (I.loc y hy);have J:=I.sb;refine iY (.var ((lo _ (by decide)).trans h4)) I.p (aq (xF T I.mid (by exact MO J hi) hn (by exact tF hd) ((lo _ (by decide)).trans h1) ((lo _ (by decide)).trans h3) λH1 a ha o1 M1=>aq (xF T M1 (by exact MP J hi) hn (by exact tF hd) ((lo _ (by decide)).trans h1) ((lo _ (by decide)).trans h3) λH2 b hb o2 B=>aR ?_)));have p2:H2 pa=some (.list (P.map pv)):=(o2 _ I.n3).trans ((o1 _ I.n3).trans I.p);refine(show nN H2 (λr H3=>iz r/\az σ d _ (l.put "lap" (iv i)) H3 K) (.ref pa) "append" [pv (a,b)]from jz p2 (by rw[u1,I.len];exact MQ hi) ⟨trivial,?_⟩);rw[pE pv P (a,b)];obtain Z:(H2.set pa (.list ((P++[(a,b)]).map pv))) pa=some (.list ((P++[(a,b)]).map pv)):=AH.set_self _ _ _;have Q:ExtB pa H2 (H2.set pa (.list ((P++[(a,b)]).map pv))):=ExtB.set (λ_ _ _ e=>e) _;generalize H2.set pa (.list ((P++[(a,b)]).map pv))=H3 at *;obtain Y:=B.at_.extB Q I.f4;have O:=B.feed.keep (Q _ · I.n3.symm) (Q _ · I.n4.symm);obtain m3:=Q _ _ I.n5.symm B.m;obtain F:Ev σ (l.put "lap" (iv i)) H3 (.idx i7 (.neg 1)) (pv (a,b)):=(Ev.var ((lo _ (by decide)).trans h4)).idx (w:=.int (-1)) (.neg (i:=1)) λ_ q=>.inl (Pj _ (-1) _ Z rfl (by decide) (by rw[B7];exact Ar _ _) q);refine gJ (aQ (.var ((lo _ (by decide)).trans (by rw[I.hp];exact h2))) Y.heap rfl T.Heap_merge.some (.cons (F.idx (w:=iv 0) .cst λ_ q=>(jL 0 (iv a) rfl (by decide) rfl q)) (.cons (F.idx (w:=iv 1) .cst λ_ q=>(jL 1 (iv b) rfl (by decide) rfl q)) (.cons (.tup (.cons .cst (.cons .cst .nil))) .nil))) ((zo T Y B.ok ha hb (by rw[I.M];exact MR hi) λH4 D4 v G c hv=>⟨by rcases hv with rfl|rfl <;> trivial,?_⟩).room (by exact MD hd)));obtain kf:=G.frm.keep O.f B.f1;obtain kc:=G.frm.keep O.c B.f2;obtain km:=G.frm.keep m3 B.f3;obtain kp:=G.frm.keep Z I.f4;refine k _ H4 _ D4 (P++[(a,b)]) ⟨lo,⟨G.at_,G.ok,by rw[List.reverse_append];exact c _ B.cl,⟨kf.1,kc.1,O.len,O.ne⟩,by rw[G.nodes];exact km.1,kf.2,kc.2,km.2,B.n1,B.n2⟩,G.hp.trans I.hp,G.nodes.trans I.nodes,G.M.trans (B9 (· + 1) I.M),by exact MT J,kp.1,by rw[A6,I.len];rfl,kp.2,I.n3,I.n4,I.n5⟩
def QQ(T:Txt σ)(hd:9<=d){fa:Addr}{D:HD}{s:Nat}(M:Mid H fa ca ma cs s D [])(hM:D.M=0)(hs:s<=40)(hn:0<D.n)(J:l "feed"=some (.ref fa))(h2:l "heap"=some (.ref D.hp))(h3:l "mine"=some (.ref ma)) (k:∀l' H' s' D' pa P,(∀y,y∉["lap","pairs"]->l' y=l y)->l' "pairs"=some (.ref pa)->Tell (l.put "pairs" (.ref pa)) fa ca ma pa cs D.nodes D.hp P.length l' H' s' D' P->P.length<=3->az σ d rest l' H' K) : az σ d (.asg (.tg (.nm "pairs")) (.lst .nil)::.for1 (.nm "lap") (.rng (.bin .add f7 (.call "_law_draw" (.cons d6 (.cons l6 .nil))))) Fa::rest) l H K:=by refine cE (dl (aR λpa B=>af _ rfl ?_));obtain x0:Ext H (H.set pa (.list [])):=w4 _ B;obtain e0:(H.set pa (.list [])) pa=some (.list []):=AH.set_self _ _ _;generalize H.set pa (.list [])=H1 at *;obtain G:=M.ext x0;refine oZ (gM (aA .cst (fg (.cons (.var ((am _ _ (by decide)).trans J)) (.cons (.cst (v:=iv 3)) .nil)) ((mZ T G.feed (by exact MU hs) (m:=3) (by decide) λH2 j F o2 Q=>?_).room (by exact tF hd)))));obtain Z:=G.only o2 Q;have n3:=(aC M.feed.f B).symm;refine BJ (jK _ rfl (by exact MA) (by exact MB F) ?_);rw[show((1:Int)+(j:Int)).toNat=1+j by exact MC];refine FD (λi l' H'=>∃s' D' P,Tell (l.put "pairs" (.ref pa)) fa ca ma pa cs D.nodes D.hp i l' H' s' D' P) (Pe (s+1) D ([]) ⟨λ_ _=>rfl,Z,rfl,rfl,hM,by exact MV hs,(o2 _ n3).trans e0,rfl,kj M.at_ B,n3,(aC M.feed.c B).symm,(aC M.m B).symm⟩) (λi l' H' k' hi z hk=>Pi z λs' D' P I=>Bi T hd I (by exact MW hi F) (by show 0<D'.nodes.length;rw[I.nodes];exact hn) ((am _ _ (by decide)).trans J) ((am _ _ (by decide)).trans h2) ((am _ _ (by decide)).trans h3) rfl λl2 H2 s2 O P2 Y=>hk l2 H2 (Pe s2 O P2 Y)) λl' H' z=>Pi z λs' D' P I=>?_;have hl:=I.len;refine k l' H' s' D' pa P (λy hy=>(I.loc y λe=>hy (by rw[u5.mp e];decide)).trans (am _ _ λe=>hy (by rw[e];decide))) ((I.loc _ (by decide)).trans rfl) (hl▸I) (by exact MX hl F)
end
def CQ(h:t.pat):fE t.v=true:=by
 obtain Γ:∀s,s∈aF->aF.contains s=true:=λs h=>List.contains_iff_mem.mpr h;induction t with
 |leaf s =>
  show(((cj s&&true)||aF.contains s)&&true&&true)=true;rcases h.2 with a|a
  .rw[a];rfl
  .rw[Γ s a,Bool.or_true];rfl
 |f t a =>show(true&&true&&(fE t.v&&true))=true;rw[a h];rfl
 |g t u a b =>show(true&&true&&(fE t.v&&(fE u.v&&true)))=true;rw[a h.1,b h.2];rfl
def HR(t:Tr):nv t.v=t.inner:=by
 induction t with
 |leaf s=>rfl
 |f t a=>show 1+(nv t.v+0)=t.inner+1;exact EU a
 |g t u a b=>show 1+(nv t.v+(nv u.v+0))=t.inner+u.inner+1;exact EV a b
def Gb(t:Tr):yy t.v=t.sz:=by
 induction t with
 |leaf s=>rfl
 |f t a=>show 1+(yy t.v+0)=t.sz+1;exact EU a
 |g t u a b=>show 1+(yy t.v+(yy u.v+0))=t.sz+u.sz+1;exact EV a b
def Fv(t:Tr):aB t.v=t.ht+1:=by
 induction t with
 |leaf s=>rfl
 |f t a=>show max 0 (max (aB t.v) 0)+1=t.ht+1+1;exact NF a
 |g t u a b=>show max 0 (max (aB t.v) (max (aB u.v) 0))+1=max t.ht u.ht+1+1;exact NG a b
def Au(B:∀s∈Γ,s∈iH/\(cj s=true\/s∈aF)):∀{h:Nat},t.ok Γ h->t.pat/\t.ht<=h:=by
 induction t with
 |leaf s=>exactλ{h} ht=>⟨B s (by cases h <;> exact ht),E1 _⟩
 |f t a =>
  intro h ht;rcases h with _|h
  .exact ht.elim
  .exact⟨(a ht).1,I7 (a ht).2⟩
 |g t u a b =>
  intro h ht;rcases h with _|h
  .exact ht.elim
  .exact⟨⟨(a ht.1).1,(b ht.2).1⟩,I7 (Nat.max_le.mpr ⟨(a ht.1).2,(b ht.2).2⟩)⟩
def Cong.rev{f:Nat->Nat}(F:Cong N P f):Cong N P.reverse f:=⟨λp hp=>F.1 p (RY.mp hp),F.2⟩
def Cong.rev'{f:Nat->Nat}(F:Cong N P.reverse f):Cong N P f:=⟨λp hp=>F.1 p (RY.mpr hp),F.2⟩
structure Rdy(H:AH)(wk wd ha sa ma xa:Addr)(D:HD)(h:List Nat)(kvs:ba)(cls:List Nat):Prop where
 at_:D.At H
 f:Fit D h kvs
 w:dD H wk "Walker" wd [("heap",.ref D.hp)]
 hh:H ha=some (.list (h.map iv))
 s:H sa=some (.dict kvs)
 m:H ma=some (.list (D.nodes.map ag))
 c:H xa=some (.list (cls.map iv))
 cs:∀i,i∈cls↔pj D i
 nd:cls.Nodup
 few:D.n<=8
 hl:h.length=D.n
theorem Rdy.ext{H:AH}{ha sa xa:Addr}{D:HD}{h:List Nat}{kvs:ba}{cls:List Nat}(R:Rdy H wk wd ha sa ma xa D h kvs cls)(x:Ext H H'):Rdy H' wk wd ha sa ma xa D h kvs cls:=⟨R.at_.ext x,R.f,R.w.ext x,x _ _ R.hh,x _ _ R.s,x _ _ R.m,x _ _ R.c,R.cs,R.nd,R.few,R.hl⟩
section
variable{H:AH}{d:Nat}{Q:b8}
noncomputable abbrev Hk:List MS:=[.if1 (.cmp1 .ne (.meth (.var "walker") "found_in" (.cons d8 (.cons d5 .nil))) (.prim .sorted (.meth h9 "get" (.cons (.idx d9 d8) (.cons (.lst .nil) .nil))))) [.ret i6] []]
theorem BI(T:Txt σ)(hd:9<=d){ha sa xa:Addr}{D:HD}{h:List Nat}{kvs fv:ba}{cls:List Nat}{ns:List String}(R:Rdy H wk wd ha sa ma xa D h kvs cls)(hp:t.pat)(ht:t.ht<=2)(hz:t.sz<=7)(ad:t.inner<=3)(E:DueOk kvs t cls ns H y fv)(hi:i<D.n) (h1:l "walker"=some (.ref wk)) (h2:l "pattern"=some t.v) (h3:l "found"=some (.ref y)) (h4:l "homes"=some (.ref ha)) (h5:l "n"=some (iv i)) (k:∀H',Ext H H'->K .next l H'):az σ d Hk l H K:=by
 have O:=R.f.o;obtain rt:pj D (D.r i):=⟨oA O hi,(O.rle i hi).2⟩;have pm:=xX R.f (t:=t) rt E.nd E.mem R.cs R.nd;have so:=zG R.f (t:=t) (c:=D.r i) R.few E.nd E.mem R.cs R.nd;obtain Q:60^nv t.v<=2^18:=s7 (K0 (by decide) (by rw[HR];exact ad)) (by decide:60^3<=2^18);refine xE (aQ (.var h1) R.w rfl T.Walker_found_in.some (.cons (.var h5) (.cons (.var h2) .nil)) ((uQ T O (m:=3) (by rw[Fv];exact NH ht) R.at_ R.w (CQ hp) (by rw[Gb];exact NI hz) Q hi (so.perm pm.symm) λH1 a1 F ha1 e1=>?_).room (by exact NJ hd)));obtain R1:=R.ext F;obtain ex:aH (bf ((eB D.NN t.v (D.r i) []).map aW))=aH (eP kvs t (be cls ns) (D.r i)):=eu so.2.2.2 pm.symm;obtain Y:H1 a1=some (.list (aH (eP kvs t (be cls ns) (D.r i)))):=ex▸e1;have er:hf h i=D.r i:=R.f.hr i hi;refine bu (af _ h3 (af .dict ⟨by decide,(ey y fv rfl (F _ _ E.d))⟩ (aq (aA ((Ev.var h4).idx (.var h5) λ_ q=>cf R1.hh (cR 0 (by rw[R.hl];exact hi)) (mq hi O.nz) q) (aq (dl (aR λb G=>aR (bF y fv rfl (w4 _ G _ _ (F _ _ E.d)) (.inl ⟨rfl,bF _ _ rfl (E.fits _) ?_⟩)))))))));have B:∀{H2:AH}{J:Addr},Ext H1 H2->H2 J=some (.list (eP kvs t (be cls ns) (D.r i)))->iA H2 (λw H3=>fj H3 .ne (.ref a1) w λb=>if b=true then az σ d [.ret i6] l H3 (Sq σ d [] K)else az σ d [] l H3 (Sq σ d [] K)) .sorted (.ref J):=λ{H2 J} x2 e2=>.inl (aK _ e2 so λa3 Z=>by obtain x3:=x2.trans' (w4 (.list (aH (eP kvs t (be cls ns) (D.r i)))) Z);obtain pl:=xS (kvs:=kvs) (t:=t) (cs:=cls) (c:=D.r i) E.nd;exact qT _ _ (x3 _ _ Y) (AH.set_self _ _ _) pl pl (by rw[bE];exact jc rfl (k _ (F.trans' x3))))
 rcases E.get (D.r i)with⟨a,g,ea⟩|⟨g,eL⟩
 .obtain g:ax fv (iv (hf h i))=some (.ref a):=er.symm▸g;rw[g];exact B (w4 _ G) (w4 _ G _ _ (F _ _ ea))
 .obtain g:ax fv (iv (hf h i))=none:=er.symm▸g;rw[g];exact B (w4 _ G) ((AH.set_self _ _ _).trans (by rw[eL]))
end
section
variable{H:AH}{d:Nat}{Q:b8}
noncomputable abbrev OD:List MS:=[.asg (.tg (.nm "found")) (.call "_law_due" (.cons d5 (.cons k8 (.cons m8 .nil)))),.for1 (.nm "n") (.rng (.prim .len d7)) Hk]
structure PatOk(t:Tr):Prop where
 p:t.pat
 h:t.ht<=2
 z:t.sz<=7
 i:t.inner<=3
def PatOk.of(F:∀s∈Γ,s∈iH/\(cj s=true\/s∈aF))(h:t.ok Γ 2):PatOk t:=⟨(Au F h).1,(Au F h).2,by obtain B:=DU h;omega,by obtain B:=te h;exact NK B⟩
theorem CP(T:Txt σ)(hd:9<=d){ha sa xa:Addr}{D:HD}{h:List Nat}{kvs:ba}{cls:List Nat}(R:Rdy H wk wd ha sa ma xa D h kvs cls)(p:PatOk t) (Y:l "walker"=some (.ref wk)) (J:l "pattern"=some t.v) (Z:l "homes"=some (.ref ha)) (h4:l "shapes"=some (.ref sa)) (h5:l "classes"=some (.ref xa)) (h6:l "mine"=some (.ref ma)) (k:∀l' H',(∀y,y∉["found","n"]->l' y=l y)->Ext H H'->K .next l' H'):az σ d OD l H K:=by obtain O:=R.f.o;obtain B:cls.length<=20:=s7 (cL D.n cls R.nd λx hx=>((R.cs x).mp hx).1) (s7 R.few (by decide));refine cE (fg (.cons (.var J) (.cons (.var h4) (.cons (.var h5) .nil))) ((Hl T R.f.s p.p (s7 p.h (by decide)) B R.s R.c λH1 y ns fv Q E=>⟨_,rfl,?_⟩).room (by exact NL hd)));obtain G:=R.ext Q;refine oZ (aA (cY (.var ((am _ _ (by decide)).trans h6)) G.m (u1 _) (s7 O.nz (by decide))) (jK _ rfl (J9 _) (Int.ofNat_le.mpr (s7 O.nz (by decide))) ?_));rw[N5];refine FD (λi l' H'=>(∀z,z≠"n"->l' z=(l.put "found" (.ref y)) z)/\Ext H1 H') ⟨λ_ _=>rfl,w3 _⟩ (λi l' H' k' hi z hk=>?_) λl' H' z=>k l' H' (λy hy=>(z.1 y λe=>hy (by rw[e];decide)).trans (am _ _ λe=>hy (by rw[e];decide))) (Q.trans' z.2);obtain lo:∀z,z∉["found","n"]->(l'.put "n" (iv i)) z=l z:=λF hz=>(am _ _ λe=>hz (by rw[e];decide)).trans ((z.1 F λe=>hz (by rw[e];decide)).trans (am _ _ λe=>hz (by rw[e];decide)));refine BI T hd (G.ext z.2) p.p p.h p.z p.i ⟨E.nd,E.mem,z.2 _ _ E.d,E.fits,λw=>(E.get w).imp (λq=>ah q λa g e=>(af a g (z.2 _ _ e))) id⟩ hi ((lo _ (by decide)).trans Y) ((lo _ (by decide)).trans J) ((am _ _ (by decide)).trans ((z.1 _ (by decide)).trans rfl)) ((lo _ (by decide)).trans Z) rfl λH2 x2=>hk _ _ ⟨λF hz=>(am _ _ hz).trans (z.1 F hz),z.2.trans' x2⟩
theorem yv(T:Txt σ)(hd:9<=d){ha sa xa:Addr}{D:HD}{h:List Nat}{kvs:ba}{cls:List Nat}(R:Rdy H wk wd ha sa ma xa D h kvs cls)(ts:List Tr)(hp:∀t∈ts,PatOk t)(l0:Loc) (J:l "walker"=some (.ref wk)) (O:l "homes"=some (.ref ha)) (Q:l "shapes"=some (.ref sa)) (Y:l "classes"=some (.ref xa)) (Z:l "mine"=some (.ref ma)) (k:∀l' H',(∀y,y∉["found","n","pattern"]->l' y=l y)->Ext H H'->K .next l' H'):kM none (λv l H k=>∃l',bz (.nm "pattern") v l=some l'/\az σ d OD l' H k) (ts.map Tr.v) l H K:=by
 refine dG (src:=none) (λxs l' H'=>(∀z,z∉["found","n","pattern"]->l' z=l z)/\Ext H H'/\∃us:List Tr,xs=us.map Tr.v/\∀t∈us,PatOk t) (λ_ _ _ _=>trivial) (λv xs l' H' k' z hk=>?_) (λl' H' z=>k l' H' z.1 z.2.1) _ _ _ (cO (λ_ _=>rfl) (w3 _) (af ts rfl hp));refine jb z λkp G z=>ah z λus ex F=>?_;rcases us with _|⟨t,us⟩
 .exact(E7 _ _ ex).elim
 refine cq (K2 ex) λaX bV=>?_;subst aX;subst bV;have lo:∀z,z∉["found","n","pattern"]->(l'.put "pattern" t.v) z=l z:=λz' hz=>(am _ _ λe=>hz (by rw[e];decide)).trans (kp z' hz);exact af _ rfl (CP T hd (R.ext G) (F t y4) ((lo _ (by decide)).trans J) rfl ((lo _ (by decide)).trans O) ((lo _ (by decide)).trans Q) ((lo _ (by decide)).trans Y) ((lo _ (by decide)).trans Z) λl2 H2 B x2=>hk _ _ (cO (λy hy=>(B y λe=>hy (E0 (as:=["found","n"]) ["pattern"] e)).trans (lo y hy)) (G.trans' x2) (af us rfl (λt h=>F t (w9 _ h)))))
def pt(T:Txt σ){x:Addr}{v:V}(h:Hold H0 H [(dx,.dict (fl [])),(x,.inst "Walker" dx)])(q:∀H',Hold H0 H' [(dx,.dict (fl [("heap",v)])),(x,.inst "Walker" dx)]->Q .none H'):MCall σ 1 "Walker" "__init__" [.ref x,v] H Q:=by refine aE T.ok T.Walker_init rfl ?_;refine(af _ rfl (af _ rfl (Rt x ("Walker") dx (fl []) rfl ((h.all (x,.inst "Walker" dx) (by simp)).1) (by rw[T.fWalker];simp) ((h.all (dx,.dict (fl [])) (y4)).1) (oO _) (by simp[fl]) ?_)));rw[ww (by rfl)];exact q _ (h.upd (L1:=[]) (.dict (fl [("heap",v)])))
def yJ{l cs:List Nat}(e:aH (bf (l.map iv))=cs.map iv):cs.Nodup:=by obtain B:(cs.map iv).Nodup:=e▸(aw _).nodup_iff.mpr (cA _);exact(L3.mp B).imp λh z=>h (B9 iv z)
def QR(T:Txt σ)(hd:9<=d){D:HD}{h:List Nat}{ha:Addr}(A:D.At H)(O:D.Ok)(C:Cl D P.reverse [] [])(hw:D.wait=[])(few:D.n<=8)(G:HOk D.nodes P h)(HC:Cong D.nodes P (hf h))(hh:H ha=some (.list (h.map iv)))(hm:H ma=some (.list (D.nodes.map ag))) (h1:l "heap"=some (.ref D.hp)) (h2:l "mine"=some (.ref ma)) (h3:l "homes"=some (.ref ha)) (k:∀H' wk wd sa xa kvs cls,Ext H H'->Rdy H' wk wd ha sa ma xa D h kvs cls->az σ d rest (((l.put "shapes" (.ref sa)).put "classes" (.ref xa)).put "walker" (.ref wk)) H' K) : az σ d (.asg (.tg (.tp3 (.nm "shapes") (.nm "classes") (.nm "walker"))) (.tup (.cons (.call "_law_shapes" (.cons d7 (.cons d9 .nil))) (.cons (.prim .sortedSet d9) (.cons (.new "Walker" (.cons j5 .nil)) .nil))))::rest) l H K:=by
 refine bM T.cWalker λC' eC=>?_;refine cF T.Walker_init λf _ ef _=>?_;obtain No:yZ D.nodes:=⟨O.nz,λnd hnd=>bM (C0.mp hnd) λi hi=>(O.kids i nd hi).2.2⟩;obtain Kd:mP D.nodes:=λi hi k hk=>cT O hi k hk;have hr:∀i,i<D.n->hf h i=D.r i:=λi hi=>G.eq HC O.rle (λf F=>C.fit f F.rev) (C.cong hw).rev' hi;refine cE (aq (fg (.cons (.var h2) (.cons (.var h3) .nil)) ((zv T hm hh No Kd G HC λkvs H1 sa Q e1 S=>aq (bu (aA (.var h3) ?_))).room (by exact tF hd))));refine bR (gT h) λcls J ad hcl=>?_;obtain hz:h.length<=60:=by rw[G.len];exact O.nz
 refine aK _ (Q _ _ hh) (dc (z0 hz (by decide))) λxa a0=>aq ?_;rw[J];refine pi C' f (d-1) (by exact NM hd) eC ef (af _ h1 λwk wd as av ar=>((pt T (rJ Hold.nil "Walker" as av ar) λH3 Z=>?_).call ef).room (by exact NO hd));obtain Y:Ext H1 H3:=(w4 (.list (cls.map iv)) a0).trans' Z.ext;obtain e3:=Z.ext _ _ (AH.set_self _ xa _);refine⟨rfl,aR (af _ rfl (k H3 wk wd sa xa kvs cls (Q.trans' Y) ⟨A.ext (Q.trans' Y),⟨O,hr,S⟩,⟨(Z.all (wk,.inst "Walker" wd) (by simp)).1,(Z.all (wd,.dict (fl [("heap",.ref D.hp)])) (y4)).1⟩,(Q.trans' Y) _ _ hh,Y _ _ e1,(Q.trans' Y) _ _ hm,e3,λi=>?_,yJ J,few,G.len⟩))⟩;rw[ad];constructor
 .intro hi;refine bM (C0.mp hi) λj hj=>?_;obtain jl:j<D.n:=by obtain B:=(z5.mp hj).1;rwa [G.len]at B
  obtain B:hf h j=i:=by show h.getD j 0=i;rw[C1,hj];rfl
  rw[hr j jl]at B;exact B▸⟨oA O jl,(O.rle j jl).2⟩
 .intro hi;obtain B:=hr i hi.1;rw[hi.2]at B;exact B▸z6 (cR 0 (by rw[G.len];exact hi.1))
end
def Rdy.feed{H:AH}{ha sa xa fa:Addr}{D:HD}{h:List Nat}{kvs:ba}{cls:List Nat}{s:Nat}(R:Rdy H wk wd ha sa ma xa D h kvs cls)(F:Feed H fa ca cs s)(nf:fa∉D.adr)(x:ExtB fa H H'):Rdy H' wk wd ha sa ma xa D h kvs cls:=by obtain ne:∀{a:Addr}{o:AO},H a=some o->o≠.dict (fl [("cells",.ref ca),("at",iv s)])->a≠fa:=λe h z=>h (w8 ((z▸e:H fa=_).symm.trans F.f));obtain B:∀{vs:List V},AO.list vs≠.dict (fl [("cells",.ref ca),("at",iv s)]):=λz=>AO.noConfusion z;exact⟨R.at_.extB x nf,R.f,⟨x _ _ (ne R.w.o λz=>AO.noConfusion z) R.w.o,x _ _ (ne R.w.d λz=>nomatch (K2 (AO.dict.inj z)).2) R.w.d⟩,x _ _ (ne R.hh B) R.hh,x _ _ (ne R.s λz=>by obtain e:=AO.dict.inj z;exact ah (R.f.s.key (V.str "cells",.ref ca) (by rw[e];exact y4)) λi _ e=>V.noConfusion e) R.s,x _ _ (ne R.m B) R.m,x _ _ (ne R.c B) R.c,R.cs,R.nd,R.few,R.hl⟩
def OZ(T:Txt σ)(H:AH):az σ 9 wS.body (aT wS.params [.scr]) H (kC λv _=>v=.bool true):=by
 refine QO T (by decide) rfl λH1 fa ca ma cs D1 M1 hN hM1=>?_;refine QP T (z7 9) M1 hN hM1 rfl rfl rfl λl2 H2 s2 D2 O M2 hp2 hM2 hs2 few pos=>?_;have a1:l2 "feed"=some (.ref fa):=(O _ (by decide)).trans rfl;have a2:l2 "heap"=some (.ref D2.hp):=(O _ (by decide)).trans (by rw[hp2];rfl);have a3:l2 "mine"=some (.ref ma):=(O _ (by decide)).trans rfl;refine QQ T (z7 9) M2 hM2 hs2 pos a1 a2 a3 λY H4 s4 D4 pa P Q e4 I hP=>?_;have F:=I.mid;have b1:Y "feed"=some (.ref fa):=(Q _ (by decide)).trans a1;have b2:Y "heap"=some (.ref D4.hp):=(Q _ (by decide)).trans (by rw[I.hp];exact a2);have Z:Y "mine"=some (.ref ma):=(Q _ (by decide)).trans a3;refine gJ (aQ (.var b2) F.at_.heap rfl T.Heap_settle.some .nil ((zu T F.at_ F.ok λH5 D5 B c5 w5=>⟨trivial,?_⟩).room (by decide)));have C5:=c5 _ F.cl;have kf:=B.frm.keep F.feed.f F.f1;obtain kc:=B.frm.keep F.feed.c F.f2;obtain km:=B.frm.keep F.m F.f3;obtain kp:=B.frm.keep I.p I.f4;obtain F5:Feed H5 fa ca cs s4:=⟨kf.1,kc.1,F.feed.len,F.feed.ne⟩;obtain n5:D5.n=D2.n:=B9 List.length (B.nodes.trans I.nodes);have m5:H5 ma=some (.list (D5.nodes.map ag)):=by rw[B.nodes];exact km.1
 obtain No:yZ D5.nodes:=⟨B.ok.nz,λnd hnd=>bM (C0.mp hnd) λi hi=>(B.ok.kids i nd hi).2.2⟩;refine cE (fg (.cons (.var Z) (.cons (.var e4) .nil)) ((BS T m5 kp.1 No (λi hi k hk=>cT B.ok hi k hk) (s7 hP (by decide)) (λp hp=>C5.pn p (RY.mpr hp)) λh H6 ha x6 e6 HO HC=>⟨_,rfl,?_⟩).room (by decide)));refine QR T (z7 9) (B.at_.ext x6) B.ok C5 w5 (by rw[n5];exact few) HO HC e6 (x6 _ _ m5) ((am _ _ (by decide)).trans (by rw[B.hp];exact b2)) ((am _ _ (by decide)).trans Z) (bH _ _ _) λH7 wk wd sa xa kvs cls x7 R=>?_;obtain QV:=x6.trans' x7;have F7:=F5.keep (QV _) (QV _);have hsb:=I.sb;have fd:((((Y.put "homes" (.ref ha)).put "shapes" (.ref sa)).put "classes" (.ref xa)).put "walker" (.ref wk)) "feed"=some (.ref fa):=b1;refine qS (aq (aA (.tup (.cons (.cst (v:=.str "?x")) .nil)) (aq (sr T (Γ:=["a","b","c"]) F7 fd (.cst (v:=iv 2)) (.cons .cst (.cons .cst (.cons .cst .nil))) (by decide) (by decide) (by omega) (z7 2) (by decide) λH8 t8 s8 ht8 hs8 x8 F8=>aq (sr T (Γ:=["?x","?y","a","?x"]) F8 fd (.cst (v:=iv 2)) (.cons .cst (.cons .cst (.cons .cst (.cons .cst .nil)))) (by decide) (by decide) (by omega) (z7 2) (by decide) λH9 t9 s9 ht9 hs9 x9 F9=>aR ⟨show 3<=2^20 by decide,?_⟩)))));obtain R8:=R.feed F7 kf.2 x8;have R9:=R8.feed F8 kf.2 x9;refine yv T (z7 9) R9 [.leaf "?x",t8,t9] (λt ht=>?_) Y rfl rfl rfl rfl Z λl10 H10 J x10=>?_
 .rcases A4.mp ht with rfl|ht
  .exact .of (Γ:=["?x"]) (by decide) (u5.mpr rfl)
  rcases A4.mp ht with rfl|ht
  .exact .of (Γ:=["a","b","c"]) (by decide) ht8
  .obtain rfl:=u5.mp ht;exact .of (Γ:=["?x","?y","a","?x"]) (by decide) ht9
 .obtain G:=R9.ext x10;refine cN (Bt (aQ (.var ((J _ (by decide)).trans (by rw[B.hp];exact b2))) G.at_.heap rfl T.Heap_size.some .nil ((BU T G.at_ G.f.o (aA (cY (.var ((J "mine" (by decide)).trans Z)) G.m (u1 _) (s7 G.f.o.nz (by decide))) (hJ ?_))).room (by decide))));rw[D8 rfl]
section
variable{fd:FuncData}
theorem pf:∀{names:List Str}{vals:List Value},vals.length=names.length->∀n∈names,((names.zip vals).lookup n).isSome=true
 |a::names,v::vals,hl,n,h=>by
  rw[M8,K8];by_cases e:n=a
  .rw[L9.mpr e];rfl
  .rw[beq_false_of_ne e];exact pf (P1 hl) n ((A4.mp h).resolve_left e)
def nB{f g:α->Option β}{l:List α}(h:∀x∈l,f x=g x):l.filterMap f=l.filterMap g:=by
 induction l with
 |nil=>rfl
 |cons a l B=>rw[Sj,Sj,h a y4,B λx hx=>h x (w9 _ hx)]
theorem pL:∀{names:List Str}{vals:List Value},names.Nodup->vals.length=names.length->(names.filterMap λn=>((names.zip vals).lookup n).map (n,·))=names.zip vals:=by
 intro names;induction names with
 |nil=>exactλ_ _=>rfl
 |cons a names F =>
  intro vals nd hl;rcases vals with _|⟨v,vals⟩
  .exact nomatch hl
  .have nd:=C8.mp nd;obtain e1:(((a,v)::names.zip vals).lookup a)=some v:=by rw[K8,beq_self_eq_true]
   rw[M8,Sj,e1];refine B9 ((a,v)::·) ((nB λn B=>?_).trans (F nd.2 (P1 hl)));rw[K8,beq_false_of_ne λe:n=a=>nd.1 (e▸B)]
theorem xK{name qn:Str}{body:FuncBody}{gl:Addr}{cl:List (Str×Addr)}{Z G pm:Value}{an:Option Addr}{code Q:Value}{bi:Addr}{B:List Arg}{J:List (Option Expr)}{F:List Expr}{vals:List Value} (hl:vals.length=(B.map Arg.arg).length) (m0:(((B.map Arg.arg).take (B.map Arg.arg).length).filter λn=>(((B.map Arg.arg).zip vals).lookup n).isNone)=[]) (Y:((B.map Arg.arg).filterMap λn=>(((B.map Arg.arg).zip vals).lookup n).map (n,·))=(B.map Arg.arg).zip vals) : bindArgs ⟨name,qn,⟨[],B,none,[],J,none,F⟩,body,sc,gl,cl,.none,Z,G,pm,an,code,Q,bi⟩ ⟨vals,[]⟩=pure ((B.map Arg.arg).zip vals):=by
 obtain O:∀k,List.drop k ((none:Option (Array Value)).getD #[]).toList=[]:=λk=>List.drop_nil;refine(if_neg (λz=>?_)).trans ?_
 .obtain z:=z9 (G7 _ _ |>.mp z).1;exact Nat.lt_irrefl _ (hl▸z)
 refine(if_neg (λz=>?_)).trans ?_
 .rw[O]at z;exact C7 ((B9 (λl:List Str=>!l.isEmpty) m0).symm.trans z)
 rw[O,List.zip_nil_right];exact Eq.trans (b:=(pure (List.filterMap (λn=>Option.map (λx=>(n,x)) (List.lookup n ((List.map Arg.arg B).zip vals))) (List.map Arg.arg B++[])):Sem (List (Str×Value)))) (by rfl) (by rw[G2,Y])
theorem sF{names:List Str}(O:fd.params.posonlyargs.isEmpty=true)(Q:fd.params.args.map Arg.arg=names)(Y:fd.params.vararg.isNone=true)(Z:fd.params.kwonlyargs.isEmpty=true)(h5:fd.params.kwarg.isNone=true)(h6:fd.defaults=.none) (nd:names.Nodup) {vals:List Value} (hl:vals.length=names.length):bindArgs fd ⟨vals,[]⟩=pure (names.zip vals):=by obtain⟨name,qn,⟨po,ar,va,ko,kdf,kw,G⟩,body,sc,gl,cl,F,kd,J,pm,an,code,ct,bi⟩:=fd;cases(show po=[]from I6.mp O);cases(show va=none from Option.isNone_iff_eq_none.mp Y);cases(show ko=[]from I6.mp Z);cases(show kw=none from Option.isNone_iff_eq_none.mp h5);cases(show F=.none from h6);subst Q;refine xK hl ?_ (pL nd hl);rw[List.take_length,List.filter_eq_nil_iff];intro n hn z;obtain B:=pf hl n hn;rw[Option.isNone_iff_eq_none.mp z]at B;exact ai B
def zV{d:Data}(h:Hz d=some fd):d=.func fd:=by cases d <;> first|exact jB h|exact B9 Data.func (w8 h)
theorem AZ{d:Data}{vs:Array Value}(h:OO d=some vs):∃n,d=.seq vs n:=by cases d <;> first|exact jB h|exact⟨_,B9 (Data.seq · _) (w8 h)⟩
def zP{d:Data}{vs:Array Value}(h:Hy d=some vs):d=.fields vs:=by cases d <;> first|exact jB h|exact B9 Data.fields (w8 h)
def uo{v:Value}{s:Str}(h:GJ v=some s):∃t,v=.str s t:=by cases v <;> first|exact jB h|exact⟨_,B9 (Value.str · _) (w8 h)⟩
def tQ{v:Value}{s:Addr}(h:AS v=some s):v=.ref s:=by cases v <;> first|exact jB h|exact B9 Value.ref (w8 h)
def Fh{x:Option α}{f:α->Option β}{b:β}(h:x.bind f=some b):∃a,x=some a/\f a=some b:=by
 rcases x with _|a
 .exact jB h
 .exact(af a rfl h)
def uO{m:bx}{b:FuncBody}(h:zm fd m b=true):∃ys,b=.stmts ys/\jd fd.scope.names m.body ys=true:=by
 cases b with
 |stmts ys=>exact(af ys rfl h)
 |expr _=>exact ai h
def FG{k:Option NameKind}(h:Cw false k=true):k=some .local\/k=some .cell:=by
 rcases k with _|k
 .exact ai h
 .cases k <;> first|exact ai h|exact .inl rfl|exact .inr rfl
def Cy{k:NameKind}(h:Cw true (some k)=true):k≠.free:=by rintro rfl;exact ai h
def yQ{v:Value}(h:Fb v=true):v=.none:=by cases v <;> first|exact ai h|rfl
def zB{K:Frag}(X:K.In h){q:Str}{v:Value}(e:Hn K v=some q):h.CodeRec v q:=by refine ah (Fh e) λc hc e=>?_;refine ah (Fh e) λo B e=>?_;refine ah (Fh e) λvs F e=>?_;refine ah (Fh e) λx hx e=>?_;refine bM (uo e) λt e=>?_;exact(Rq c o vs t (tQ hc) (X _ _ B) (zP F) (hx.trans (B9 some e)))
def Ck{K:Frag}(X:K.In h){a:Addr}(e:Cj K a=some fd):∃o,h.get? a=some o/\o.data=.func fd :=(Fh e).elim λo e=>(af o (X _ _ e.1) (zV e.2))
def jA:∀{l:List String},l.Nodup->(l.map Str.ofString).Nodup:=λ{l} h=>L3.mpr (List.Pairwise.imp (λB e=>B (br e)) h)
def nb{b:Bool}(h:(!b)=true):b=false:=by cases b;rfl;exact ai h
def rC(X:σ.K.In σ.base){a:Addr}{m:bx}(e:zR σ.K a m=true):∃fd,FnAt σ a fd m.params m.body:=by
 have e:(match Cj σ.K a with|some fd=>zS σ.K fd m|none=>false)=true:=e;rcases F:Cj σ.K a with _|fd
 .rw[F]at e;exact ai e
 .rw[F]at e;have e:zS σ.K fd m=true:=e;obtain e1:=aa e;obtain e2:=aa e1.2;obtain e3:=aa e2.2;obtain e4:=aa e3.2;obtain e5:=aa e4.2;obtain e6:=aa e5.2;obtain e7:=aa e6.2;have e8:=aa e7.2;obtain e9:=aa e8.2;obtain G:=aa e9.2;obtain J:=aa G.2;obtain O:=aa J.2;obtain Q:=aa O.2;have B:=aa Q.2;obtain Y:=aa B.2;obtain Z:=aa Y.2;exact⟨fd,Ck X F,zB X (z9 Z.2),uO e1.1,I6.mp e2.1,J1 e3.1,J1 e4.1,nb e5.1,nb e6.1,z9 e7.1,
   λvals hl=>sF e8.1 (z9 e9.1) G.1 J.1 O.1 (yQ Q.1) (jA (z9 B.1)) (hl.trans (u1 (f:=Str.ofString)).symm),
   z9 B.1,λp hp=>FG (J0.mp Y.1 p hp),λx hx=>Cy (J0.mp Z.1 x hx)⟩
def yN{K:Frag}{a:Addr}{cvs:Array Value}(h:xC K a=some cvs):∃o:Obj,K.lookup a=some o/\o.cls=.type "tuple"/\∃m,o.data=.seq cvs m:=by
 refine ah (Fh h) λo B e=>?_;by_cases hc:o.cls=.type "tuple"
 .rw[if_pos hc]at e;exact(aK o B hc (AZ e))
 .rw[if_neg hc]at e;exact jB e
end
section
variable{K:Frag}{base:Heap}{sad:Addr}{X:Addr->Prop}
mutual
theorem Dx(I:K.In base)(hX:∀b,X b->base.get? b=none):∀(v:V)(c:Value),OX K v c=true->VR ⟨sad,X⟩ base v c
 | .str _,_,e=>(uo (z9 e)).elim λn e=>⟨n,e⟩
 | .tup vs,c,e=>by
  have e:(match(AS c).bind (xC K)with|some cvs=>xD K vs cvs.toList|none=>false)=true:=e;rcases h:(AS c).bind (xC K)with _|cvs
  .rw[h]at e;exact ai e
  .rw[h]at e;refine ah (Fh h) λa ha h=>?_;refine bR (yN h) λo F hc aX=>?_;refine bM aX λm hd=>?_;obtain B:=I _ _ F;exact(pi a cvs _ (tQ ha) (λx=>nn (hX a x) B) (aK o B hc hd) (uv I hX vs cvs.toList e))
 | .none,_,e=>ai e
 | .scr,_,e=>ai e
 | .bool _,_,e=>ai e
 | .int _,_,e=>ai e
 | .ref _,_,e=>ai e
theorem uv(I:K.In base)(hX:∀b,X b->base.get? b=none):∀(vs:List V)(cs:List Value),xD K vs cs=true->VRs ⟨sad,X⟩ base vs cs
 | [],_,e=>I6.mp e
 |v::vs,cs,e=>by
  rcases cs with _|⟨c,cs⟩
  .exact ai e
  .obtain e:=aa e;exact(bF c cs rfl (Dx I hX v c e.1) (uv I hX vs cs e.2))
end
def zh{x:Option (Option Value)}{f:Option Value->Bool}(e:Hi x f=true):∃a,x=some a/\f a=true:=by
 rcases x with _|a
 .exact ai e
 .exact(af a rfl e)
theorem zO{C:Addr}{n:Str}(e:DL K C n=true):FldOK K C n :=
 have e1:=aa e;have e2:=aa e1.2;have B:=aa e2.2;have F:=aa B.2;have G:=aa F.2
 ⟨e1.1,e2.1,zh B.1,z9 F.1,G.1,z9 G.2⟩
def iC{v:Option (Option Value)}{f:Addr}(e:qE v f=true):v=some (some (.ref f)):=z9 e
def wD{f:Addr}(e:Cm K f=true):typeIn K (.ref f)=some (.type "function"):=z9 e
def Cu{f:Addr}(e:Cm K f=true):isFn K (.ref f)=true:=by unfold isFn;rw[wD e];rfl
theorem An{C:Addr}{n:Str}{f:Addr}(e:DS K C n f=true):MthOK K C n f:=by obtain e1:=aa e;obtain e2:=aa e1.2;obtain B:=aa e2.2;exact⟨e1.1,iC e2.1,Cu B.1,B.2⟩
def CC{C f:Addr}(e:HP K C f=true):MkOK K C f:=by obtain e1:=aa e;obtain e2:=aa e1.2;obtain B:=aa e2.2;exact⟨e1.1,iC e2.1,wD B.1,B.2⟩
def yp{v:Option (Option Value)}(e:Ap v=true):v=some none:=z9 e
def vw{x:Option Addr}{f:Addr->Bool}{a:Addr}(h:QG x f=true)(e:x=some a):f a=true:=by subst e;exact h
noncomputable def Bh(prog:Program)(w:World)(K:Frag)(base:Heap)(sad:Addr)(svs:List Int)(t:Tbl):Sx :=⟨prog,w,K,base,sad,svs,λf=>t.fn.lookup f,λc m=>t.meth.lookup (c,m),λc=>t.cls.lookup c,λc=>(t.flds.lookup c).getD []⟩
def QH{b:Bool}(h:(!decide ("__init__"="__init__")||b)=true):b=true:=h
theorem Cc{svs:List Int}{t:Tbl}{mg mb:Str->Option Value}{cvs:Array Value}(I:K.In base)(G:base.Ns mainGlobals mg)(B:base.Ns builtinsNs mb)(nl:base.NoLimit)(sy:∃o,base.get? sysModules=some o) (hb:∀x:Str,x≠"__name__"->mb x=bootBuiltins x) (k1:DM K t=true) (k2:DG K t=true) (k3:Ak K t=true) (k4:zQ K t=true) (k5:DF K=true) (Z:base.IsList sad cvs) (hI:IntsAre cvs.toList svs) (hz:cvs.size<=sizeLine) (F:∀p∈bZ,Str.ofString p.1≠"__name__"/\bootBuiltins (Str.ofString p.1)=some p.2):aJ (Bh prog w K base sad svs t):=by
 refine⟨I,λc C f O J=>?_,λc C m a O J=>An (aa (vw (J0.mp k3 _ (gb J)) O)).1,λc C f O J=>CC (QH (aa (vw (J0.mp k3 _ (gb J)) O)).2),nl,
  (qT mg mb G B (λf a h=>have e:=aa (J0.mp k1 _ (gb h));⟨mg_of I G (iC e.1),e.2⟩) (λc C h=>mg_of I G (iC (J0.mp k2 _ (gb h)))) (λp hp=>⟨mg_none_of I G (yp (J0.mp k5 p hp)),(hb _ (F p hp).1).trans (F p hp).2⟩)),sy,(af cvs Z hI),λY h'=>?_⟩
 .have J:f∈(t.flds.lookup c).getD []:=J;rcases Q:t.flds.lookup c with _|fs
  .rw[Q]at J;exact absurd J y9
  .rw[Q]at J;exact zO (J0.mp (vw (J0.mp k4 _ (gb Q)) O) f J)
 .obtain⟨o,a1,a2,n,a3⟩:=h';refine bR Z λo2 b1 b2 da=>?_;refine bM da λn2 b3=>?_;cases sm (show base.get? sad=some o from a1) b1;cases a3.symm.trans b3;exact hz
end
noncomputable def S0(w:World)(os:OsState):Shared:=⟨boot_heap w.params,#[],boot_drawn,boot_toks,os⟩
def QI(w:World)(os:OsState):topGo treeTable vE w 11 (some (.ref 6)) 12 (S0 w os) (topStub vE)=some ((Sa w os).abs,⟨denote treeTable BO,BO,q0,[topFrame q0]⟩):=by kernel_rfl
def Fg(w:World)(os:OsState):segRun treeTable vE w 11 (some (.ref 6)) 1 1 (Sa w os).abs (blockOf zl Fx BO q0 [topFrame q0])=some (.next,(Sa w os).abs,BO,q0):=by kernel_rfl
def Pp(w:World)(s:Shared)(p:Pos):topRun treeTable vE w 11 (some (.ref 6)) 2 s ⟨doneF .next,BO,p,[topFrame q0]⟩=some s:=by kernel_rfl
theorem Cz{p q:Program}{loose:List Str}{Xt Yf:Shared->Bool}{N:Nat}{H₀:Params->Heap}{B:Drawn}{F:Nat}{G:Nat}{O:Option Value}{M:Nat} (J:∀w:World,(fencedOpening treeTable p w N).map (λs=>(s.heap,s.gens,s.drawn,s.toks))=some (H₀ w.params,#[],B,F)) (size:∀w:World,((H₀ w.params).isNs mainGlobals&&(#[]:Array GenState).size==0,(H₀ w.params).objs.size,(H₀ w.params).nsMap mainGlobals "__annotations__")=(true,G,O)) (Q:∀(w:World)(os:OsState),∃r,topRun treeTable p w G O M ⟨H₀ w.params,#[],B,F,os⟩ (topStub p)=some r/\vq p q loose Xt Yf (H₀ w.params) r=(true,openGood q loose,true)) (le:M<=N):LeftO p q loose Xt Yf (λ_=>true) N:=λw=>by
 obtain⟨⟨h,gs,d,k,os⟩,e,e'⟩:=D7.mp (J w);obtain⟨rfl,rfl,rfl,rfl⟩:h=H₀ w.params/\gs=#[]/\d=B/\k=F:=by injection e' with a b;injection b with b c;injection c with c d;exact⟨a,b,c,d⟩
 obtain z1:=B9 (·.1) (size w);obtain z2:=B9 (·.2.1) (size w);obtain Y:=B9 (·.2.2) (size w);obtain⟨s1,r,l⟩:=Q w os;obtain l1:=B9 (·.1) l;obtain r:=topRun_mono (N-M) _ _ _ _ r;rw[Q6 le]at r;have t:topFrom treeTable p w N ⟨H₀ w.params,#[],d,k,os⟩=some s1:=by unfold topFrom;dsimp only at z1 z2 Y ⊢;rw[z1,z2,Y,r];show(match staticsOk (importedModules p.main.body) (H₀ w.params) s1.heap&&namesBound p s1.heap&&gensDone s1&&laidKept (H₀ w.params) s1.heap with|true=>_|false=>_)=_;rw[show(staticsOk (importedModules p.main.body) (H₀ w.params) s1.heap&&namesBound p s1.heap&&gensDone s1&&laidKept (H₀ w.params) s1.heap)=true from l1]
 unfold openEnds;rw[e];show(topFrom treeTable p w N _).map _=_;rw[t];exact B9 some (B9 (·.2) l)
def OC:∀w:World,(fencedOpening treeTable vE w 6352).map (λs=>(s.heap,s.gens,s.drawn,s.toks))=some (boot_heap w.params,#[],boot_drawn,boot_toks):=boot_open rfl rfl λ_=>rfl
def OP(w:World):((boot_heap w.params).isNs mainGlobals&&(#[]:Array GenState).size==0,(boot_heap w.params).objs.size,(boot_heap w.params).nsMap mainGlobals "__annotations__")=(true,11,some (.ref 6)):=by kernel_rfl
def GU{os:OsState}{s:SharedT}{p:Pos}(h:Pr w os=some (.next,s,BO,p)):topRun treeTable vE w 11 (some (.ref 6)) (12+(1+(3140+2))) (S0 w os) (topStub vE)=some s.abs:=by refine go_top (QI w os) (piece_block (Fg w os) ?_);obtain B:=piece_app (rest:=[]) (segRun_of h) (piece_nil (Pp w s.abs p));rw[G2]at B;exact B
set_option tactic.hygienic true
def HL:LeftO vE q4 [] X4 H4.obs H4.val 6352:=Cz OC OP (λw os=>by obtain⟨⟨f,s,c,p⟩,h,e⟩:=D7.mp (FM w os);have e1:f=.next:=B9 (·.1) e;have e2:c=BO:=B9 (·.2.1.1) e;subst e1 e2;exact⟨s.abs,GU h,B9 (·.2.2) e⟩) (by decide)
def BN:∀p∈bZ,Str.ofString p.1≠"__name__"/\bootBuiltins (Str.ofString p.1)=some p.2:=by intro p hp;simp only[bZ,List.mem_cons,List.not_mem_nil,or_false]at hp;rcases hp with rfl|rfl|rfl|rfl|rfl|rfl|rfl|rfl|rfl|rfl|rfl|rfl|rfl|rfl <;> exact⟨by decide +kernel,by kernel_rfl⟩
section
variable(X:σ.K.In σ.base)(e:(qk.all λx=>zR σ.K x.1 x.2)=true)
include X e
def aN{c m:String}{f:Addr}{x:bx}(i:Nat)(hi:qk[i]?=some (f,x))(h:σ.meth c m=some f):HasM σ c m x :=(rC X (J0.mp e _ (z6 hi))).elim λfd k=>⟨f,fd,h,k⟩
theorem dZ{n:String}{f:Addr}{x:bx}(i:Nat)(hi:qk[i]?=some (f,x))(h:σ.fn n=some f):ml σ n x :=(rC X (J0.mp e _ (z6 hi))).elim λfd k=>⟨f,fd,h,k⟩
end
theorem OW{K:Frag}{base:Heap}{sad:Addr}{svs:List Int}(X:K.In base)(e:(qk.all λx=>zR K x.1 x.2)=true)(C:aJ (Bh prog w K base sad svs Du)):Txt (Bh prog w K base sad svs Du) where
 ok:=C
 fHeap:=rfl
 fBank:=rfl
 fUnions:=rfl
 fWalker:=rfl
 is_op:=dZ X e 0 rfl rfl
 is_variable:=dZ X e 1 rfl rfl
 Bank_init:=aN X e 2 rfl rfl
 Bank_size:=aN X e 3 rfl rfl
 Bank_take:=aN X e 4 rfl rfl
 Bank_require:=aN X e 5 rfl rfl
 Bank_op:=aN X e 6 rfl rfl
 Bank_kids:=aN X e 7 rfl rfl
 Walker_init:=aN X e 8 rfl rfl
 Walker_extended:=aN X e 9 rfl rfl
 Walker_found_in:=aN X e 10 rfl rfl
 Unions_init:=aN X e 11 rfl rfl
 Unions_make:=aN X e 12 rfl rfl
 Unions_size:=aN X e 13 rfl rfl
 Unions_find:=aN X e 14 rfl rfl
 Unions_merge:=aN X e 15 rfl rfl
 Unions_members:=aN X e 16 rfl rfl
 Heap_init:=aN X e 17 rfl rfl
 Heap_size:=aN X e 18 rfl rfl
 Heap_node:=aN X e 19 rfl rfl
 Heap_add:=aN X e 20 rfl rfl
 Heap_put:=aN X e 21 rfl rfl
 Heap_look_at:=aN X e 22 rfl rfl
 Heap_find:=aN X e 23 rfl rfl
 Heap_merge:=aN X e 24 rfl rfl
 Heap_join:=aN X e 25 rfl rfl
 Heap_settle:=aN X e 26 rfl rfl
 Heap_members:=aN X e 27 rfl rfl
 Heap_nodes_of:=aN X e 28 rfl rfl
 law_draw:=dZ X e 29 rfl rfl
 law_tree:=dZ X e 30 rfl rfl
 law_ranked:=dZ X e 31 rfl rfl
 law_homes:=dZ X e 32 rfl rfl
 law_shapes:=dZ X e 33 rfl rfl
 law_names:=dZ X e 34 rfl rfl
 law_class:=dZ X e 35 rfl rfl
 law_due:=dZ X e 36 rfl rfl
 cBank:=⟨_,rfl⟩
 cUnions:=⟨_,rfl⟩
 cHeap:=⟨_,rfl⟩
 cWalker:=⟨_,rfl⟩
def QS{svs:List Int}(h:cvs.length=svs.length)(q:¬(63:Int)<(svs.length:Int)):cvs.toArray.size<=sizeLine:=by have B:(svs.length:Int)<=(63:Nat):=Int.not_lt.mp q;exact s7 (s7 (r5 (List.size_toArray.trans h)) (Int.ofNat_le.mp B)) (by decide)
def Hx{K:Frag}{sad:Addr}{svs:List Int}(G:K.In s.heap)(c:(qk.all λx=>zR K x.1 x.2)=true)(C:aJ (Bh prog w K s.heap sad svs Du)){P:Result->Shared->Prop}(k:∀s',(∀b o,s.heap.get? b=some o->s'.heap.get? b=some o)->s'.os=s.os->s'.gens=s.gens->P (.ok (.ret (.bool true))) s'):codeAny (model prog w) callerA (.call (.ref 486) ⟨[.ref sad],[]⟩) P s:=by
 obtain⟨fd,F⟩:=rC (σ:=Bh prog w K s.heap sad svs Du) G (J0.mp c (486,wS) (z6 (i:=37) rfl));refine SP (sJ oo rD (vs:=[.scr]) (d:=9) (A:=callerA) (cvs:=[.ref sad]) (Xs:=λ_=>False) (hX:=λ_ h=>False.elim h) C F rfl (OZ (OW G c C) (λ_=>none)) ⟨rfl,by decide,by decide⟩ ⟨λ_ _ e=>e,(λ_ _ e=>jB e),(λ_ _ e=>jB e),λ_ h=>False.elim h⟩ (z7 _) ⟨_,_,rfl,rfl,rfl⟩) λr s' hr=>?_;unfold uE at hr;split at hr
 .rename_i v;obtain⟨J,H',rfl,B,S⟩:=hr;have B:v=.bool true:=B;subst B;exact k s' (λb o e=>S.keep b o e rfl λz=>z) S.os S.gens
 .exact hr.elim
noncomputable def HJ:=(defOf q4 (Str.ofString "law")).get rfl
end Mine
set_option tactic.hygienic true
set_option maxHeartbeats 8000000 in
theorem PySem.Challenge.cw_pq0056_03_holds : PySem.Challenge.rw_pq0056_03.Holds := by
 refine holds_law (by kernel_rfl) λsaid=>?_;refine holds_open (d:=Mine.HJ.1) (kwd:=Mine.HJ.2) (q:=Mine.q4) (loose:=[]) (Xt:=Mine.X4) (XP:=XL Mine.q4 []) (Yf:=Mine.H4.obs) (Ya:=Mine.H4.val) (YP:=Mine.H4.says) (N:=6352) Mine.HL Mine.H4.of Mine.H4.keeps (λs e=>xl_of s (Bool.and_eq_true_iff.mp e).1) XL.keeps (by rfl) (by rfl) (by rfl) (λs e=>recFacts_of (Bool.and_eq_true_iff.mp e).2) (by rfl) said (by decide +kernel) ⟨rfl,rfl,rfl,rfl,rfl,by decide +kernel⟩ ?hw ?hc
 case hw=>w_witness2
 intro w s₀ ac mg mb G Y fa o pm cd doc dV kV ho hd hcd hD hmg hg args vals as hpre hlay hrd hwl hlo;obtain⟨K,KX,ck⟩:=Y;have c1:=Mine.aa ck;have c2:=Mine.aa c1.2;have c3:=Mine.aa c2.2;have c4:=Mine.aa c3.2;have c5:=Mine.aa c4.2;have c6:=Mine.aa c5.2;refine Ground.open G ?_;intro T B D TE TW;have efa:fa=486:=by
  have:=mg_of KX T.g (Mine.iC c6.2)
  have hmg:mg (Str.ofString "law")=some (.ref fa):=hmg;rw[this]at hmg;cases hmg;rfl
 subst efa
 wrow_args hpre hlay hrd hwl hlo
 all_goals (
  refine enter_call ?_
  w_top on
  refine codeAny_mono ?_ (λ_ _ g=>GoodW.toG g))
 rename_i svs _ _ _ _ _ _ _ sad cvs _ hL _ _ _ hI _ hlen _;exact Mine.Hx (prog:=PySem.Challenge.rw_pq0056_03.row.prog) (w:=w) KX c1.1 (Mine.Cc (prog:=PySem.Challenge.rw_pq0056_03.row.prog) (w:=w) (t:=Mine.Du) KX T.g T.b T.nolimit (let⟨_,⟨o,_,_,e,_⟩,_⟩:=(T.seer (by kernel_rfl)).mods;⟨o,e⟩) T.builtins c2.1 c3.1 c4.1 c5.1 c6.1 hL hI (Mine.QS hI.length hlen) Mine.BN) λs' k o g=>⟨.inl ⟨.bool true,.bool true,[],rfl,λ_=>rfl,.bool _,by kernel_rfl,λ_=>⟨List.nodup_nil,λ_ h=>nomatch h⟩⟩,k,o,g.trans hg⟩
