import PyProof.Rows.All
import Wide.All
import OpenK.AllK
import Wide.FinOn
import PySem.Challenge.RW_pq0056_01
open PySem PySem.W PyProof.Rows
set_option Elab.async false
set_option autoImplicit false
set_option linter.all false
set_option maxRecDepth 100000
set_option tactic.hygienic false
set_option genInjectivity false
set_option genSizeOf false
noncomputable section
namespace Mine
def r5:=@wpAny_bind
def u0:=@Nat.le_trans
def u4:=@Nat.le_of_eq
def u7:=@List.length_map
def v9:=@wpAny_pure
def w3:=@List.mem_map
def w4:=@Option.some.inj
def y7:=@List.mem_cons_self
def y9:=@List.mem_cons_of_mem
def z5:=@Heap.get?_push_of_some
def A4:=@List.mem_singleton
def A6:=@Nat.lt_of_le_of_lt
def A7:=@List.not_mem_nil
def A8:=@Nat.le_refl
def A9:=@List.getElem?_eq_some_iff
def B0:=@List.mem_of_getElem?
def B6:=@wpAny_mono
def B7:=@List.length_append
def B8:=@of_decide_eq_true
def B9:=@Array.getElem?_toList
def C0:=@List.mem_cons
def C2:=@Heap.get?_push_size
def C3:=@congrArg
def C4:=@Nat.le_of_not_lt
def C5:=@List.getElem?_map
def C6:=@Heap.get?_none_of_le
def C7:=@List.map_append
def C8:=@Nat.le_antisymm
def C9:=@List.getD_eq_getElem?_getD
def D0:=@Bool.false_ne_true
def D5:=@Nat.le_of_lt
def D8:=@List.mem_iff_getElem?
def D9:=@List.mem_append
def E0:=@Nat.succ_le_succ
def E1:=@Nat.zero_le
def E2:=@List.map_cons
def E3:=@Option.map_eq_some_iff
def E4:=@decide_eq_true
def E5:=@Nat.sub_eq_zero_of_le
def E6:=@decide_eq_false
def E7:=@Nat.lt_trans
def E8:=@List.nodup_cons
def E9:=@Nat.lt_of_lt_of_le
def F8:=@List.mem_range
def F9:=@Nat.le_total
def G0:=@List.cons_ne_nil
def G1:=@List.mem_append_right
def G2:=@List.getElem?_eq_getElem
def G3:=@List.mem_append_left
def G4:=@Heap.get?_update_self
def G5:=@Nat.le_add_right
def G6:=@wpAny_holding
def G7:=@Nat.ne_of_lt
def G8:=@Nat.le_of_lt_succ
def G9:=@Heap.SameBut.update
def H8:=@List.append_nil
def H9:=@wpAny_call_entry
def I1:=@Bool.and_eq_true
def I4:=@Heap.lt_size
def I5:=@List.map_congr_left
def I6:=@Nat.add_le_add_left
def I7:=@Nat.pow_le_pow_right
def I8:=@List.mem_filter
def I9:=@List.cons.inj
def J0:=@List.map_map
def J1:=@List.nodup_append
def J2:=@List.isEmpty_iff
def J3:=@eq_of_beq
def J4:=@Nat.not_lt_zero
def J5:=@List.all_eq_true
def J6:=@List.mem_flatMap
def J7:=@Array.length_toList
def J8:=@wpAny_ite_split
def J9:=@sizeLine_eq
def K0:=@Bool.eq_false_iff
def K1:=@List.pairwise_map
def K2:=@wpAny_callSpecial?_slot
def K3:=@Int.natCast_nonneg
def K4:=@Nat.lt_or_gt_of_ne
def K5:=@Obj.data_mapFields
def K6:=@Nat.lt_succ_self
def K7:=@List.append_assoc
def K8:=@List.flatMap_cons
def K9:=@Nat.add_le_add
def L0:=@Int.ofNat_lt
def L3:=@Nat.le_max_left
def L4:=@Array.getElem?_eq_some_iff
def L5:=@List.Perm.refl
def L6:=@List.length_eq_zero_iff
def L7:=@List.lookup_cons
def L8:=@List.nodup_nil
def L9:=@Nat.le_max_right
def M0:=@List.getElem?_set
def M7:=@Nat.lt_succ_of_lt
def M8:=@wpAny_setState_of
def M9:=@Nat.add_le_add_right
def N0:=@Array.getElem?_eq_getElem
def N1:=@Heap.get?_update_other
def N4:=@beq_iff_eq
def N5:=@Nat.max_eq_left
def N6:=@wpAny_seqItems
def N7:=@Nat.max_eq_right
def N8:=@List.length_filter_le
def N9:=@wpAny_newObj_type
def O6:=@List.zip_cons_cons
def O7:=@Nat.add_assoc
def O8:=@Nat.min_le_left
def O9:=@Nat.min_eq_right
def P0:=@Nat.succ.inj
def P1:=@Nat.succ_pos
def P3:=@Str.ofString_eq_toList
def P5:=@PyProof.Rows.F.plain_set_update_loop
def P7:=@List.filter_congr
def P8:=@wpAny_truthy_bool
def P9:=@List.length_singleton
def QX:=@wpAny_standAt
def QY:=@Nat.le_add_left
def QZ:=@Nat.min_eq_left
def Q0:=@Nat.zero_add
def Q1:=@List.getElem?_drop
def Q2:=@List.pairwise_cons
def Q3:=@PySem.F.slot_dict_keyiterator_next
def Q4:=@Around.under_plainId
def Q5:=@Array.mem_toList_iff
def Q6:=@List.length_cons
def Q7:=@Nat.min_le_right
def Q8:=@Nat.mul_le_mul_right
def Q9:=@List.findIdx?_eq_some_iff_getElem
def Ra:=@Int.ofNat.inj
def Rb:=@List.perm_ext_iff_of_nodup
def Rc:=@Nat.add_sub_cancel'
def Rd:=@Nat.mul_le_mul_left
def Re:=@List.getElem?_eq_none
def Rf:=@List.take_append_drop
def Rg:=@Obj.isFreed_of_fields
def Rh:=@List.any_eq_true
def Ri:=@wpAny_rule
def Rj:=@Prod.mk.inj
def Rk:=@wpAny_field
def Rl:=@wpAny_setField
def Rm:=@wpAny_typeNameOfWhole_keyiter
def Rn:=@Int.toNat_natCast
def Ro:=@List.ext_getElem?
def Rp:=@List.length_range
def Rq:=@Nat.le_mul_of_pos_right
def Rr:=@Nat.lt_succ_of_le
def Rs:=@getMethod_builtin
def Rt:=@List.forIn_cons
def Ru:=@codeAny_builtin
def Rw:=@List.filterMap_cons
def Rx:=@beq_eq_false_iff_ne
def Ry:=@Array.getElem?_eq_none
def Rz:=@Nat.le_succ
def RA:=@Calls.spliced_cons
def RC:=@Int.lt_of_le_of_lt
def RD:=@Nat.lt_or_eq_of_le
def RE:=@wpAny_setField_rec
def RF:=@wpAny_notOrdered_dict
def RH:=@wpAny_specialOf
def RJ:=@List.size_toArray
def RL:=@Nat.add_comm
def RM:=@Nat.ne_of_gt
def RN:=@codeAny_mono
def RO:=@wpAny_dictEntries
def RQ:=@Nat.sub_le
def R5:=@Ne.symm
abbrev b7:=Bool->Shared->Prop
abbrev b6:=Unit->Shared->Prop
abbrev a9:=Value->Shared->Prop
section
variable{p q s:Prop}
theorem ns.{u}{α:Type u}{a:α}{P:Prop}(h:none=some a):P:=nomatch h
theorem sn.{u}{α:Type u}{a:α}{P:Prop}(h:some a=none):P:=nomatch h
def Gs{P:Prop}(h:true=false):P:=nomatch h
@[elab_as_elim] theorem rl.{u} {α:Sort u} {a b:α} {P:α->Prop} (h:a=b) (x:P b):P a:=h.symm▸x
universe u v w dy d0
variable{α:Sort u}{β:Sort v}{γ:Sort w}{δ:Sort dy}{ε:Sort d0}{R:Prop}
def cf(h:p/\q)(k:p->q->R):R:=k  h.1 h.2
theorem ia{r:Prop}(h:p/\q/\r)(k:p->q->r->R):R:=k  h.1 h.2.1 h.2.2
theorem Ee{r:Prop}(h:p/\q/\r/\s)(k:p->q->r->s->R):R:=k  h.1 h.2.1 h.2.2.1 h.2.2.2
theorem Qa{r t:Prop}(h:p/\q/\r/\s/\t)(k:p->q->r->s->t->R):R:=k  h.1 h.2.1 h.2.2.1 h.2.2.2.1 h.2.2.2.2
def bL{p:α->Prop}(h:∃a,p a)(k:∀a,p a->R):R:=h.elim λa h=>k a h
def ah{p q:α->Prop}(h:∃a,p a/\q a)(k:∀a,p a->q a->R):R:=h.elim λa h=>k a h.1 h.2
theorem bE{p q r:α->Prop}(h:∃a,p a/\q a/\r a)(k:∀a,p a->q a->r a->R):R:=h.elim λa h=>k a h.1 h.2.1 h.2.2
theorem sH{p q r s:α->Prop}(h:∃a,p a/\q a/\r a/\s a)(k:∀a,p a->q a->r a->s a->R):R:=h.elim λa h=>k a h.1 h.2.1 h.2.2.1 h.2.2.2
theorem Qc{p q r s t:α->Prop}(h:∃a,p a/\q a/\r a/\s a/\t a)(k:∀a,p a->q a->r a->s a->t a->R):R:=h.elim λa h=>k a h.1 h.2.1 h.2.2.1 h.2.2.2.1 h.2.2.2.2
theorem QO{p q r s t u v:α->Prop}(h:∃a,p a/\q a/\r a/\s a/\t a/\u a/\v a)(k:∀a,p a->q a->r a->s a->t a->u a->v a->R):R:=h.elim λa h=>k a h.1 h.2.1 h.2.2.1 h.2.2.2.1 h.2.2.2.2.1 h.2.2.2.2.2.1 h.2.2.2.2.2.2
def sI{p:α->β->Prop}(h:∃a b,p a b)(k:∀a b,p a b->R):R:=h.elim λa h=>h.elim λb h=>k a b h
def cG{p q:α->β->Prop}(h:∃a b,p a b/\q a b)(k:∀a b,p a b->q a b->R):R:=h.elim λa h=>h.elim λb h=>k a b h.1 h.2
theorem bM{p q r:α->β->Prop}(h:∃a b,p a b/\q a b/\r a b)(k:∀a b,p a b->q a b->r a b->R):R:=h.elim λa h=>h.elim λb h=>k a b h.1 h.2.1 h.2.2
theorem sJ{p q r s:α->β->Prop}(h:∃a b,p a b/\q a b/\r a b/\s a b)(k:∀a b,p a b->q a b->r a b->s a b->R):R:=h.elim λa h=>h.elim λb h=>k a b h.1 h.2.1 h.2.2.1 h.2.2.2
theorem pD{p q r s t:α->β->Prop}(h:∃a b,p a b/\q a b/\r a b/\s a b/\t a b)(k:∀a b,p a b->q a b->r a b->s a b->t a b->R):R:=h.elim λa h=>h.elim λb h=>k a b h.1 h.2.1 h.2.2.1 h.2.2.2.1 h.2.2.2.2
theorem Qn{p q r s t u:α->β->Prop}(h:∃a b,p a b/\q a b/\r a b/\s a b/\t a b/\u a b)(k:∀a b,p a b->q a b->r a b->s a b->t a b->u a b->R):R:=h.elim λa h=>h.elim λb h=>k a b h.1 h.2.1 h.2.2.1 h.2.2.2.1 h.2.2.2.2.1 h.2.2.2.2.2
theorem Qo{p q r s t u v w:α->β->Prop}(h:∃a b,p a b/\q a b/\r a b/\s a b/\t a b/\u a b/\v a b/\w a b)(k:∀a b,p a b->q a b->r a b->s a b->t a b->u a b->v a b->w a b->R):R:=h.elim λa h=>h.elim λb h=>k a b h.1 h.2.1 h.2.2.1 h.2.2.2.1 h.2.2.2.2.1 h.2.2.2.2.2.1 h.2.2.2.2.2.2.1 h.2.2.2.2.2.2.2
def Qq{p:α->β->γ->Prop}(h:∃a b c,p a b c)(k:∀a b c,p a b c->R):R:=h.elim λa h=>h.elim λb h=>h.elim λc h=>k a b c h
def nC{p q:α->β->γ->Prop}(h:∃a b c,p a b c/\q a b c)(k:∀a b c,p a b c->q a b c->R):R:=h.elim λa h=>h.elim λb h=>h.elim λc h=>k a b c h.1 h.2
theorem Ef{p q r:α->β->γ->Prop}(h:∃a b c,p a b c/\q a b c/\r a b c)(k:∀a b c,p a b c->q a b c->r a b c->R):R:=h.elim λa h=>h.elim λb h=>h.elim λc h=>k a b c h.1 h.2.1 h.2.2
theorem uV{p q r s:α->β->γ->Prop}(h:∃a b c,p a b c/\q a b c/\r a b c/\s a b c)(k:∀a b c,p a b c->q a b c->r a b c->s a b c->R):R:=h.elim λa h=>h.elim λb h=>h.elim λc h=>k a b c h.1 h.2.1 h.2.2.1 h.2.2.2
theorem NZ{p q r s t:α->β->γ->Prop}(h:∃a b c,p a b c/\q a b c/\r a b c/\s a b c/\t a b c)(k:∀a b c,p a b c->q a b c->r a b c->s a b c->t a b c->R):R:=h.elim λa h=>h.elim λb h=>h.elim λc h=>k a b c h.1 h.2.1 h.2.2.1 h.2.2.2.1 h.2.2.2.2
theorem Oa{p q r s t u:α->β->γ->Prop}(h:∃a b c,p a b c/\q a b c/\r a b c/\s a b c/\t a b c/\u a b c)(k:∀a b c,p a b c->q a b c->r a b c->s a b c->t a b c->u a b c->R):R:=h.elim λa h=>h.elim λb h=>h.elim λc h=>k a b c h.1 h.2.1 h.2.2.1 h.2.2.2.1 h.2.2.2.2.1 h.2.2.2.2.2
theorem QP{p q r s t u v:α->β->γ->Prop}(h:∃a b c,p a b c/\q a b c/\r a b c/\s a b c/\t a b c/\u a b c/\v a b c)(k:∀a b c,p a b c->q a b c->r a b c->s a b c->t a b c->u a b c->v a b c->R):R:=h.elim λa h=>h.elim λb h=>h.elim λc h=>k a b c h.1 h.2.1 h.2.2.1 h.2.2.2.1 h.2.2.2.2.1 h.2.2.2.2.2.1 h.2.2.2.2.2.2
def HK{p:α->β->γ->δ->Prop}(h:∃a b c d,p a b c d)(k:∀a b c d,p a b c d->R):R:=h.elim λa h=>h.elim λb h=>h.elim λc h=>h.elim λd h=>k a b c d h
theorem Qr{p q r s t:α->β->γ->δ->Prop}(h:∃a b c d,p a b c d/\q a b c d/\r a b c d/\s a b c d/\t a b c d)(k:∀a b c d,p a b c d->q a b c d->r a b c d->s a b c d->t a b c d->R):R:=h.elim λa h=>h.elim λb h=>h.elim λc h=>h.elim λd h=>k a b c d h.1 h.2.1 h.2.2.1 h.2.2.2.1 h.2.2.2.2
theorem Qt{p q r s t u:α->β->γ->δ->Prop}(h:∃a b c d,p a b c d/\q a b c d/\r a b c d/\s a b c d/\t a b c d/\u a b c d)(k:∀a b c d,p a b c d->q a b c d->r a b c d->s a b c d->t a b c d->u a b c d->R):R:=h.elim λa h=>h.elim λb h=>h.elim λc h=>h.elim λd h=>k a b c d h.1 h.2.1 h.2.2.1 h.2.2.2.1 h.2.2.2.2.1 h.2.2.2.2.2
theorem QQ{p q r s t u v:α->β->γ->δ->Prop}(h:∃a b c d,p a b c d/\q a b c d/\r a b c d/\s a b c d/\t a b c d/\u a b c d/\v a b c d)(k:∀a b c d,p a b c d->q a b c d->r a b c d->s a b c d->t a b c d->u a b c d->v a b c d->R):R:=h.elim λa h=>h.elim λb h=>h.elim λc h=>h.elim λd h=>k a b c d h.1 h.2.1 h.2.2.1 h.2.2.2.1 h.2.2.2.2.1 h.2.2.2.2.2.1 h.2.2.2.2.2.2
def Oi{p:α->β->γ->δ->ε->Prop}(h:∃a b c d e,p a b c d e)(k:∀a b c d e,p a b c d e->R):R:=h.elim λa h=>h.elim λb h=>h.elim λc h=>h.elim λd h=>h.elim λe h=>k a b c d e h
theorem QR{p q r s t u:α->β->γ->δ->ε->Prop}(h:∃a b c d e,p a b c d e/\q a b c d e/\r a b c d e/\s a b c d e/\t a b c d e/\u a b c d e)(k:∀a b c d e,p a b c d e->q a b c d e->r a b c d e->s a b c d e->t a b c d e->u a b c d e->R):R:=h.elim λa h=>h.elim λb h=>h.elim λc h=>h.elim λd h=>h.elim λe h=>k a b c d e h.1 h.2.1 h.2.2.1 h.2.2.2.1 h.2.2.2.2.1 h.2.2.2.2.2
theorem cH{r:Prop}(h0:p)(B:q)(F:r):p/\q/\r:=⟨h0,B,F⟩
theorem qZ{r:Prop}(h0:p)(B:q)(F:r)(G:s):p/\q/\r/\s:=⟨h0,B,F,G⟩
theorem FE{r t:Prop}(h0:p)(B:q)(F:r)(G:s)(J:t):p/\q/\r/\s/\t:=⟨h0,B,F,G,J⟩
def gE{p:α->Prop}(a:α)(h0:p a):∃a,p a:=⟨a,h0⟩
def af{p q:α->Prop}(a:α)(h0:p a)(B:q a):∃a,p a/\q a:=⟨a,h0,B⟩
theorem aN{p q r:α->Prop}(a:α)(h0:p a)(B:q a)(F:r a):∃a,p a/\q a/\r a:=⟨a,h0,B,F⟩
theorem iw{p q r s:α->Prop}(a:α)(h0:p a)(B:q a)(F:r a)(G:s a):∃a,p a/\q a/\r a/\s a:=⟨a,h0,B,F,G⟩
theorem Oj{p q r s t:α->Prop}(a:α)(h0:p a)(B:q a)(F:r a)(G:s a)(J:t a):∃a,p a/\q a/\r a/\s a/\t a:=⟨a,h0,B,F,G,J⟩
theorem QS{p q r s t u:α->Prop}(a:α)(h0:p a)(B:q a)(F:r a)(G:s a)(J:t a)(O:u a):∃a,p a/\q a/\r a/\s a/\t a/\u a:=⟨a,h0,B,F,G,J,O⟩
def zy{p:α->β->Prop}(a:α)(b:β)(h0:p a b):∃a b,p a b:=⟨a,b,h0⟩
def eU{p q:α->β->Prop}(a:α)(b:β)(h0:p a b)(B:q a b):∃a b,p a b/\q a b:=⟨a,b,h0,B⟩
theorem bR{p q r:α->β->Prop}(a:α)(b:β)(h0:p a b)(B:q a b)(F:r a b):∃a b,p a b/\q a b/\r a b:=⟨a,b,h0,B,F⟩
theorem kB{p q r s:α->β->Prop}(a:α)(b:β)(h0:p a b)(B:q a b)(F:r a b)(G:s a b):∃a b,p a b/\q a b/\r a b/\s a b:=⟨a,b,h0,B,F,G⟩
theorem re{p q r s t:α->β->Prop}(a:α)(b:β)(h0:p a b)(B:q a b)(F:r a b)(G:s a b)(J:t a b):∃a b,p a b/\q a b/\r a b/\s a b/\t a b:=⟨a,b,h0,B,F,G,J⟩
theorem Oc{p q r s t u:α->β->Prop}(a:α)(b:β)(h0:p a b)(B:q a b)(F:r a b)(G:s a b)(J:t a b)(O:u a b):∃a b,p a b/\q a b/\r a b/\s a b/\t a b/\u a b:=⟨a,b,h0,B,F,G,J,O⟩
theorem QT{p q r s t u v:α->β->Prop}(a:α)(b:β)(h0:p a b)(B:q a b)(F:r a b)(G:s a b)(J:t a b)(O:u a b)(Q:v a b):∃a b,p a b/\q a b/\r a b/\s a b/\t a b/\u a b/\v a b:=⟨a,b,h0,B,F,G,J,O,Q⟩
def Qd{p:α->β->γ->Prop}(a:α)(b:β)(c:γ)(h0:p a b c):∃a b c,p a b c:=⟨a,b,c,h0⟩
def zz{p q:α->β->γ->Prop}(a:α)(b:β)(c:γ)(h0:p a b c)(B:q a b c):∃a b c,p a b c/\q a b c:=⟨a,b,c,h0,B⟩
theorem QU{p q r:α->β->γ->Prop}(a:α)(b:β)(c:γ)(h0:p a b c)(B:q a b c)(F:r a b c):∃a b c,p a b c/\q a b c/\r a b c:=⟨a,b,c,h0,B,F⟩
theorem pF{p q r s:α->β->γ->Prop}(a:α)(b:β)(c:γ)(h0:p a b c)(B:q a b c)(F:r a b c)(G:s a b c):∃a b c,p a b c/\q a b c/\r a b c/\s a b c:=⟨a,b,c,h0,B,F,G⟩
theorem Od{p q r s t:α->β->γ->Prop}(a:α)(b:β)(c:γ)(h0:p a b c)(B:q a b c)(F:r a b c)(G:s a b c)(J:t a b c):∃a b c,p a b c/\q a b c/\r a b c/\s a b c/\t a b c:=⟨a,b,c,h0,B,F,G,J⟩
theorem Qe{p q r s t u:α->β->γ->Prop}(a:α)(b:β)(c:γ)(h0:p a b c)(B:q a b c)(F:r a b c)(G:s a b c)(J:t a b c)(O:u a b c):∃a b c,p a b c/\q a b c/\r a b c/\s a b c/\t a b c/\u a b c:=⟨a,b,c,h0,B,F,G,J,O⟩
theorem Qu{p q r s t u v:α->β->γ->Prop}(a:α)(b:β)(c:γ)(h0:p a b c)(B:q a b c)(F:r a b c)(G:s a b c)(J:t a b c)(O:u a b c)(Q:v a b c):∃a b c,p a b c/\q a b c/\r a b c/\s a b c/\t a b c/\u a b c/\v a b c:=⟨a,b,c,h0,B,F,G,J,O,Q⟩
def Ol{p:α->β->γ->δ->Prop}(a:α)(b:β)(c:γ)(d:δ)(h0:p a b c d):∃a b c d,p a b c d:=⟨a,b,c,d,h0⟩
theorem QV{p q r s:α->β->γ->δ->Prop}(a:α)(b:β)(c:γ)(d:δ)(h0:p a b c d)(B:q a b c d)(F:r a b c d)(G:s a b c d):∃a b c d,p a b c d/\q a b c d/\r a b c d/\s a b c d:=⟨a,b,c,d,h0,B,F,G⟩
theorem Qv{p q r s t:α->β->γ->δ->Prop}(a:α)(b:β)(c:γ)(d:δ)(h0:p a b c d)(B:q a b c d)(F:r a b c d)(G:s a b c d)(J:t a b c d):∃a b c d,p a b c d/\q a b c d/\r a b c d/\s a b c d/\t a b c d:=⟨a,b,c,d,h0,B,F,G,J⟩
theorem Qw{p q r s t u:α->β->γ->δ->Prop}(a:α)(b:β)(c:γ)(d:δ)(h0:p a b c d)(B:q a b c d)(F:r a b c d)(G:s a b c d)(J:t a b c d)(O:u a b c d):∃a b c d,p a b c d/\q a b c d/\r a b c d/\s a b c d/\t a b c d/\u a b c d:=⟨a,b,c,d,h0,B,F,G,J,O⟩
theorem Qx{p q r s t u v:α->β->γ->δ->Prop}(a:α)(b:β)(c:γ)(d:δ)(h0:p a b c d)(B:q a b c d)(F:r a b c d)(G:s a b c d)(J:t a b c d)(O:u a b c d)(Q:v a b c d):∃a b c d,p a b c d/\q a b c d/\r a b c d/\s a b c d/\t a b c d/\u a b c d/\v a b c d:=⟨a,b,c,d,h0,B,F,G,J,O,Q⟩
end
section
variable{a b c i:Nat}
set_option genCtorIdx false
inductive LE where|V (i:Nat)|N (k:Nat)|A (x y:LE)|M (k:Nat) (x:LE)|R (x:LE) (k:Nat)
noncomputable def OA:List Nat->Nat->Nat
 | [],_=>0
 |x::_,0=>x
 |_::r,i+1=>OA r i
noncomputable def LE.d(c:List Nat):LE->Nat
 | .V i=>OA c i
 | .N k=>k
 | .A x y=>x.d c+y.d c
 | .M k x=>k*x.d c
 | .R x k=>x.d c*k
noncomputable def ID:List Nat->List Nat->List Nat
 | [],y=>y
 |x::xs,[]=>x::xs
 |x::xs,y::ys=>(x+y)::ID xs ys
noncomputable def Go(k:Nat):List Nat->List Nat
 | []=>[]
 |x::xs=>(k*x)::Go k xs
noncomputable def Og:Nat->List Nat
 |0=>[1]
 |i+1=>0::Og i
noncomputable def pN:List Nat->List Nat->Nat
 | [],_=>0
 |_::_,[]=>0
 |x::xs,y::ys=>x*y+pN xs ys
noncomputable def LE.f:LE->Nat×List Nat
 | .V i=>(0,Og i)
 | .N k=>(k,[])
 | .A x y=>(x.f.1+y.f.1,ID x.f.2 y.f.2)
 | .M k x=>(k*x.f.1,Go k x.f.2)
 | .R x k=>(k*x.f.1,Go k x.f.2)
theorem xd:∀(x y c:List Nat),pN (ID x y) c=pN x c+pN y c
 | [],y,c=>(Q0 _).symm
 |x::xs,[],c=>rfl
 |x::xs,y::ys,[]=>rfl
 |x::xs,y::ys,c::cs=>by show(x+y)*c+pN (ID xs ys) cs=(x*c+pN xs cs)+(y*c+pN ys cs);rw[xd,Nat.add_mul,Nat.add_add_add_comm]
theorem rN(k:Nat):∀(x c:List Nat),pN (Go k x) c=k*pN x c
 | [],c=>rfl
 |x::xs,[]=>rfl
 |x::xs,c::cs=>by show k*x*c+pN (Go k xs) cs=k*(x*c+pN xs cs);rw[rN,Nat.mul_add,Nat.mul_assoc]
theorem xf:∀(i:Nat)(c:List Nat),pN (Og i) c=OA c i
 |0,[]=>rfl
 |0,x::xs=>Nat.one_mul _
 |i+1,[]=>rfl
 |i+1,x::xs=>by show 0*x+pN (Og i) xs=_;rw[Nat.zero_mul,Q0,xf];rfl
theorem r6(c:List Nat):∀x:LE,x.d c=x.f.1+pN x.f.2 c
 | .V i=>(xf i c).symm.trans (Q0 _).symm
 | .N _=>rfl
 | .A x y=>by show x.d c+y.d c=x.f.1+y.f.1+pN (ID x.f.2 y.f.2) c;rw[xd,r6 c x,r6 c y,Nat.add_add_add_comm]
 | .M k x=>by show k*x.d c=k*x.f.1+pN (Go k x.f.2) c;rw[rN,r6 c x,Nat.mul_add]
 | .R x k=>by show x.d c*k=k*x.f.1+pN (Go k x.f.2) c;rw[rN,r6 c x,Nat.mul_comm,Nat.mul_add]
noncomputable def IJ:List Nat->List Nat->Bool
 | [],_=>true
 |x::xs,[]=>Nat.beq x 0&&IJ xs []
 |x::xs,y::ys=>Nat.ble x y&&IJ xs ys
theorem xk:∀{x:List Nat}(c:List Nat),IJ x []=true->pN x c=0
 | [],c,_=>rfl
 |x::xs,[],_=>rfl
 |x::xs,c::cs,h=>by have h:=(I1 _ _).mp h;show x*c+pN xs cs=0;rw[Nat.eq_of_beq_eq_true h.1,xk cs h.2,Nat.zero_mul]
theorem AG:∀{x y:List Nat}(c:List Nat),IJ x y=true->pN x c<=pN y c
 | [],y,c,_=>E1 _
 |x::xs,[],c,h=>u4 (xk c h)
 |x::xs,y::ys,[],_=>A8 _
 |x::xs,y::ys,c::cs,h=>by have h:=(I1 _ _).mp h;exact K9 (Q8 _ (Nat.le_of_ble_eq_true h.1)) (AG cs h.2)
noncomputable def EC(l r:LE):Bool:=Nat.blt r.f.1 l.f.1&&IJ r.f.2 l.f.2
theorem kN{l r:LE}(c:List Nat)(h:EC l r=true):¬l.d c<=r.d c:=by have h:=(I1 _ _).mp h;rw[r6,r6];exact Nat.not_le_of_lt (Nat.add_lt_add_of_lt_of_le (Nat.le_of_ble_eq_true h.1) (AG c h.2))
theorem dz(c:List Nat)(l r:LE)(k:EC l r=true)(h:l.d c<=r.d c):False:=kN c k h
theorem bG(c:List Nat)(l r l' r':LE)(k:EC (.A l l') (.A r r')=true)(h:l.d c<=r.d c)(h':l'.d c<=r'.d c):False:=kN c k (K9 h h')
theorem fu(c:List Nat)(l r l' r' l2 B:LE)(k:EC (.A (.A l l') l2) (.A (.A r r') B)=true)(h:l.d c<=r.d c)(h':l'.d c<=r'.d c)(F:l2.d c<=B.d c):False:=kN c k (K9 (K9 h h') F)
theorem da(c:List Nat)(k:Nat)(l r:LE)(h:l.d c<=r.d c):(LE.M k l).d c<=(LE.M k r).d c:=Rd k h
theorem fE(c:List Nat)(l r l' r':LE)(h:l.d c<=r.d c)(h':l'.d c<=r'.d c):(LE.A l l').d c<=(LE.A r r').d c:=K9 h h'
def fD(c:List Nat)(x y:LE)(k:EC (.A y (.N 1)) x=true):x.d c<=y.d c:=C4 (kN c k)
theorem az(c:List Nat)(x y l r:LE)(k:EC (.A (.A y (.N 1)) l) (.A x r)=true)(h:l.d c<=r.d c):x.d c<=y.d c:=C4 λq=>kN c k (K9 q h)
theorem aA(c:List Nat)(x y l r l' r':LE)(k:EC (.A (.A y (.N 1)) (.A l l')) (.A x (.A r r'))=true)(h:l.d c<=r.d c)(h':l'.d c<=r'.d c):x.d c<=y.d c:=az c x y _ _ k (fE c l r l' r' h h')
theorem bu(c:List Nat)(x y l r l' r' l2 B:LE)(k:EC (.A (.A y (.N 1)) (.A (.A l l') l2)) (.A x (.A (.A r r') B))=true)(h:l.d c<=r.d c)(h':l'.d c<=r'.d c)(F:l2.d c<=B.d c):x.d c<=y.d c:=az c x y _ _ k (fE c _ _ l2 B (fE c l r l' r' h h') F)
def bN(x y:Nat):x<=x-y+y:=Nat.le_add_of_sub_le (A8 _)
def cq{x y:Nat}(h:y<=x):x-y+y=x:=Nat.sub_add_cancel h
def vI(x:Nat):2*(x/2)<=x:=Nat.mul_div_le x 2
theorem vJ(x:Nat):x<=2*(x/2)+1:=G8 (Nat.lt_mul_div_succ (b:=2) x (by decide))
open LE
noncomputable abbrev v0:=V 0
noncomputable abbrev v1:=V 1
noncomputable abbrev v2:=V 2
noncomputable abbrev v3:=V 3
noncomputable abbrev v4:=V 4
noncomputable abbrev v5:=V 5
noncomputable abbrev v6:=V 6
noncomputable abbrev v7:=V 7
noncomputable abbrev LE.S(x:LE):LE:=A x (N 1)
theorem QD:a<55296\/57343<a/\a<1114112->a<1114112:=λh=>h.elim (λz=>E7 z (by decide)) λz=>z.2
def Qi:a<=b->a+1<=b+1:=az [a,b] (S v0) (S v1) v0 v1 rfl
def QE{d:Nat}:a<=c->b<=d->max a b<=max c d:=λF G=>(F9 a b).elim (λB=>bu [a,b,c,d,(max a b),(max c d)] v4 v5 v1 v3 v3 v5 v4 v1 rfl G (L9 c d) (u4 (N7 B))) (λB=>bu [a,b,c,d,(max a b),(max c d)] v4 v5 v0 v2 v2 v5 v4 v0 rfl F (L3 c d) (u4 (N5 B)))
def Qj:a+(c+1)<b->a<b:=az [a,b,c] (S v0) v1 (S (A v0 (S v2))) v1 rfl
def QF:a+(b+1)<c->a+1+b<c:=az [a,b,c] (S (A (S v0) v1)) v2 (S (A v0 (S v1))) v2 rfl
def QG{d:Nat}:a+max b d<c->a+b<c:=λB=>aA [a,b,c,d,(max b d)] (S (A v0 v1)) v2 (S (A v0 v4)) v2 v1 v4 rfl B (L3 b d)
def QH{d:Nat}:a+max d b<c->a+b<c:=λB=>aA [a,b,c,d,(max d b)] (S (A v0 v1)) v2 (S (A v0 v4)) v2 v1 v4 rfl B (L9 d b)
def QI{d e:Nat}:a+min e i<d->b<=e->c<=i->a+min b c<d:=λF G J=>(F9 e i).elim (λB=>bu [a,b,c,d,e,i,(min e i),(min b c)] (S (A v0 v7)) v3 (S (A v0 v6)) v3 v1 v4 (A v7 v4) (A v1 v6) rfl F G (fE [a,b,c,d,e,i,(min e i),(min b c)] v7 v1 v4 v6 (O8 b c) (u4 (QZ B).symm))) (λB=>bu [a,b,c,d,e,i,(min e i),(min b c)] (S (A v0 v7)) v3 (S (A v0 v6)) v3 v2 v5 (A v7 v5) (A v2 v6) rfl F J (fE [a,b,c,d,e,i,(min e i),(min b c)] v7 v2 v5 v6 (Q7 b c) (u4 (O9 B).symm)))
def Qk:a+1<=0->False:=dz [a] (S v0) (N 0) rfl
def IO:a+1<=b+1->a<=b:=az [a,b] v0 v1 (S v0) (S v1) rfl
def Gw:max a c<=b->a<=b:=λB=>aA [a,b,c,(max a c)] v0 v1 v3 v1 v0 v3 rfl B (L3 a c)
def Dn:max c a<=b->a<=b:=λB=>aA [a,b,c,(max c a)] v0 v1 v3 v1 v0 v3 rfl B (L9 c a)
def Ji:b<=8->a+8<c->a+b<c:=aA [a,b,c] (S (A v0 v1)) v2 v1 (N 8) (S (A v0 (N 8))) v2 rfl
def OE{d:Nat}:c<=8->a+8<d->a+min b c<d:=λB F=>bu [a,b,c,d,(min b c)] (S (A v0 v4)) v3 v2 (N 8) (S (A v0 (N 8))) v3 v4 v2 rfl B F (Q7 b c)
def OF:b<=c->a+2*c<990->a+2*b<990:=λB F=>aA [a,b,c] (S (A v0 (M 2 v1))) (N 990) (M 2 v1) (M 2 v2) (S (A v0 (M 2 v2))) (N 990) rfl (da [a,b,c] 2 v1 v2 B) F
def OG:b<=c->a+10*c<9700->a+10*b<9700:=λB F=>aA [a,b,c] (S (A v0 (M 10 v1))) (N 9700) (M 10 v1) (M 10 v2) (S (A v0 (M 10 v2))) (N 9700) rfl (da [a,b,c] 10 v1 v2 B) F
theorem JL{a:Int}:a.natAbs<(2:Nat)^60->-(2:Int)^64<a:=λh=>Int.neg_lt_of_neg_lt (RC (Int.natAbs_neg a▸Int.le_natAbs) (L0.mpr (E7 h (by decide:2^60<2^64))))
theorem JT{a:Int}:a.natAbs<(2:Nat)^60->a<(2:Int)^64:=λh=>RC Int.le_natAbs (L0.mpr (E7 h (by decide:2^60<2^64)))
def Kf{a:Int}:(0:Int)<a->a≠(0:Int):=λh=>(Int.ne_of_lt h).symm
def Ku{a:Int}:(0:Int)<a->(0:Int)<=a:=Int.le_of_lt
def OI{d:Nat}:c+d<=1000->a=c->b=d->a+b<=16777216:=λB F G=>bu [a,b,c,d] (A v0 v1) (N 16777216) (A v2 v3) (N 1000) v0 v2 v1 v3 rfl B (u4 F) (u4 G)
def OJ{d:Nat}:c+d<=2^20->a=c->b=d->a+b<=16777216:=λB F G=>bu [a,b,c,d] (A v0 v1) (N 16777216) (A v2 v3) (N 1048576) v0 v2 v1 v3 rfl B (u4 F) (u4 G)
def Do:a+10*c<9700->b=9900->a+64<b:=λB F=>aA [a,b,c] (S (A v0 (N 64))) v1 (S (A v0 (M 10 v2))) (N 9700) (N 9900) v1 rfl B (u4 F.symm)
def Dp:a<=b->b<=8->a+1<=64:=aA [a,b] (S v0) (N 64) v0 v1 v1 (N 8) rfl
def Dq:a<=b->b<=8->a<=64:=aA [a,b] v0 (N 64) v0 v1 v1 (N 8) rfl
def OK{b:Int}:(0:Int)<=b->-(↑a:Int)<=b:=λh=>Int.le_trans (Int.neg_nonpos_of_nonneg (K3 a)) h
def OL{a:Int}:a.toNat<b->a<(↑b:Int):=λh=>RC (Int.self_le_toNat a) (L0.mpr h)
def OM{a:Int}:(0:Int)<=a->¬a<(0:Int):=Int.not_lt.mpr
def ON{a:Int}:a.toNat<b->¬a<(0:Int)->(0:Int)<=a/\a<(↑b:Int):=λh q=>⟨Int.not_lt.mp q,RC (Int.self_le_toNat a) (L0.mpr h)⟩
def OO{b:Int}:-b<=(↑a:Int)->-(↑a:Int)<=b:=λh=>Int.neg_le_of_neg_le h
theorem OP{a:Int}:((↑b:Int)+a).toNat<b->a<(↑b:Int):=by omega
theorem OQ{a:Int}:((↑b:Int)+a).toNat<b->a<(0:Int):=λh=>Int.not_le.mp λk=>absurd (L0.mpr h) (by rw[Int.toNat_of_nonneg (Int.add_nonneg (K3 b) k)];exact Int.not_lt.mpr (Int.le_add_of_nonneg_right k))
theorem OR{a:Int}:-a<=(↑b:Int)->a<(0:Int)->(0:Int)<=a+(↑b:Int)/\a+(↑b:Int)<(↑b:Int):=by omega
def OS:a+10*c<9700->b<=200->a+b<9900:=aA [a,b,c] (S (A v0 v1)) (N 9900) (S (A v0 (M 10 v2))) (N 9700) v1 (N 200) rfl
theorem OT :10<=200:=by decide
def Mu{d e:Nat}:c<=e->e<=8->a+10<d->a+1+min b c<d:=λB F G=>bu [a,b,c,d,e,(min b c)] (S (A (S v0) v5)) v3 v2 v4 v4 (N 8) (A (S (A v0 (N 10))) v5) (A v3 v2) rfl B F (fE [a,b,c,d,e,(min b c)] (S (A v0 (N 10))) v3 v5 v2 G (Q7 b c))
theorem vM :9<=200:=by decide
theorem MP{a:Int}:a.natAbs<(2:Nat)^60->-(2:Int)^63<=a:=λh=>Int.neg_le_of_neg_le (Int.le_trans (Int.natAbs_neg a▸Int.le_natAbs) (Int.le_of_lt (L0.mpr (E7 h (by decide:2^60<2^63)))))
theorem MU{a:Int}:a.natAbs<(2:Nat)^60->a<(2:Int)^63:=λh=>RC Int.le_natAbs (L0.mpr (E7 h (by decide:2^60<2^63)))
def Dr:¬(↑a:Int)<(0:Int):=Int.not_lt.mpr (K3 a)
theorem OU{a:Int}:a<(3:Int)->a.toNat<(3:Nat):=λh=>(Int.toNat_lt' (by decide)).mpr h
def OV{a:Int}:(0:Int)<=a->(↑a.toNat:Int)=a:=Int.toNat_of_nonneg
theorem OW{a:Int}:(0:Int)<=a->a<(3:Int)->(-9223372036854775808:Int)<=a/\a<(9223372036854775808:Int):=λh k=>⟨Int.le_trans (by decide) h,Int.lt_trans k (by decide)⟩
def OX{a:Int}:¬(0:Int)<=a->a<(0:Int):=Int.not_le.mp
def OY{b:Int}:a=c->-b<=(↑c:Int)->-(↑a:Int)<=b:=λh k=>h▸Int.neg_le_of_neg_le k
def OZ:b=c->a<=b+1->c<=500->a<=1000:=λB F G=>bu [a,b,c] v0 (N 1000) v1 v2 v0 (S v1) v2 (N 500) rfl (u4 B) F G
theorem Pa :1≠0:=by decide
theorem Pb :1<=1:=by decide
def Pc:a=b->1<=b->1<=a:=λB F=>aA [a,b] (N 1) v0 v1 v0 (N 1) v1 rfl (u4 B.symm) F
def Gx:a=b->b<=1000->a<=16777216:=λB F=>aA [a,b] v0 (N 16777216) v0 v1 v1 (N 1000) rfl (u4 B) F
theorem Pd :1<=16777216:=by decide
theorem Pe{a:Int}:a<(↑b:Int)->b<(2:Nat)^60->a<(2:Int)^63:=λh k=>Int.lt_trans h (L0.mpr (E7 k (by decide:2^60<2^63)))
def Pf{a:Int}:b=c->a<(↑c:Int)->a<(↑b:Int):=λh k=>h▸k
def Pg:a<2^20->a<=16777216:=az [a] v0 (N 16777216) (S v0) (N 1048576) rfl
def Ph:a=c->c<2^20->b=16777216->a<=b:=λB F G=>bu [a,b,c] v0 v1 v0 v2 (S v2) (N 1048576) (N 16777216) v1 rfl (u4 B) F (u4 G.symm)
def Pi{d:Nat}:c+d<=2^20->a=c->b=16777216->a<=b:=λB F G=>bu [a,b,c,d] v0 v1 (A v2 v3) (N 1048576) v0 v2 (N 16777216) v1 rfl B (u4 F) (u4 G.symm)
def Pj{d e:Nat}:d+e<=2^20->a=d->b=e->c=16777216->a+b<=c+1:=λB F G J=>bu [a,b,c,d,e] (A v0 v1) (S v2) (A v3 v4) (N 1048576) v0 v3 (A v1 (N 16777216)) (A v4 v2) rfl B (u4 F) (fE [a,b,c,d,e] v1 v4 (N 16777216) v2 (u4 G) (u4 J.symm))
def Pk{d e:Nat}:d+e<=2^20->a=d->b=e->c=16777216->a+b<=c:=λB F G J=>bu [a,b,c,d,e] (A v0 v1) v2 (A v3 v4) (N 1048576) v0 v3 (A v1 (N 16777216)) (A v4 v2) rfl B (u4 F) (fE [a,b,c,d,e] v1 v4 (N 16777216) v2 (u4 G) (u4 J.symm))
def Pl:a=c->c<=2^20->b=16777216->a<=b:=λB F G=>bu [a,b,c] v0 v1 v0 v2 v2 (N 1048576) (N 16777216) v1 rfl (u4 B) F (u4 G.symm)
def Pm:a=b+1->a<=b+1:=λB=>az [a,b] v0 (S v1) v0 (S v1) rfl (u4 B)
def yS:b=c->a<c->a<b:=λB F=>aA [a,b,c] (S v0) v1 v2 v1 (S v0) v2 rfl (u4 B.symm) F
def Ds:a<c->c<b->a<b:=aA [a,b,c] (S v0) v1 (S v0) v2 (S v2) v1 rfl
def yT:c=b->a<c->a<b:=λB F=>aA [a,b,c] (S v0) v1 v2 v1 (S v0) v2 rfl (u4 B) F
def Nr:b=16777216->a<2^20->a<=b:=λB F=>aA [a,b] v0 v1 (N 16777216) v1 (S v0) (N 1048576) rfl (u4 B.symm) F
theorem Pn:a=b->b<=(2:Nat)^20->(↑a:Int)<(2:Int)^63:=λh k=>L0.mpr (A6 (h▸k) (by decide:2^20<2^63))
theorem Po:a=b->b<=(2:Nat)^21->(↑a:Int)<(2:Int)^63:=λh k=>L0.mpr (A6 (h▸k) (by decide:2^21<2^63))
def Pp:a=b->b<=16384->a<=16384:=λB F=>aA [a,b] v0 (N 16384) v0 v1 v1 (N 16384) rfl (u4 B) F
theorem Pq{a:Int}:(0:Int)<=a->a-(0:Int)=(↑a.toNat:Int):=λh=>by rw[Int.sub_zero,Int.toNat_of_nonneg h]
def Pr{a:Int}:¬(0:Int)<a->(0:Int)=(↑a.toNat:Int):=λh=>C3 Int.ofNat (Int.toNat_of_nonpos (Int.not_lt.mp h)).symm
theorem Ps{a:Int}:(0:Int)<=a->a<=(1000:Int)->(((-9223372036854775808:Int)<=a/\a<(9223372036854775808:Int))/\(-9223372036854775808:Int)<=max a (0:Int)/\max a (0:Int)<(9223372036854775808:Int))/\(max a (0:Int)=(0:Int)\/(-9223372036854775808:Int)<=a/\a<(9223372036854775808:Int)):=λh k=>have b:=And.intro (Int.le_trans (by decide) h) (RC k (by decide));(Int.max_eq_left h).symm▸⟨⟨b,b⟩,.inr b⟩
theorem Pt:(0:Int)+(↑a:Int)*(1:Int)=(↑a:Int):=by rw[Int.zero_add,Int.mul_one]
def Pu:a+1≠a:=λq0=>dz [a] (S v0) v0 rfl (u4 q0)
def Pw:b=1->a+2*(c+1)<990->a+b+2*c<990:=λB F=>aA [a,b,c] (S (A (A v0 v1) (M 2 v2))) (N 990) v1 (N 1) (S (A v0 (M 2 (S v2)))) (N 990) rfl (u4 B) F
def Px:b=1->a+10*(c+1)<9700->a+b+10*c<9700:=λB F=>aA [a,b,c] (S (A (A v0 v1) (M 10 v2))) (N 9700) v1 (N 1) (S (A v0 (M 10 (S v2)))) (N 9700) rfl (u4 B) F
def Nt:a<=b->b<=a->a=b:=λB F=>C8 (az [a,b] v0 v1 v0 v1 rfl B) (az [a,b] v1 v0 v1 v0 rfl F)
def Nu:b<a->a-(b+1)<a-b:=λF=>(F9 (b+1) a).elim (λB=>aA [a,b,(a-(b+1)),(a-b)] (S v2) v3 v0 (A v3 v1) (A v2 (S v1)) v0 rfl (bN a b) (u4 (cq B))) (λB=>bu [a,b,(a-(b+1)),(a-b)] (S v2) v3 (S v1) v0 v0 (A v3 v1) v2 (N 0) rfl F (bN a b) (u4 (E5 B)))
def Gy:a<b->a+1<=b:=az [a,b] (S v0) v1 (S v0) v1 rfl
def Py:a+2*(b+1)<990->a<1000:=az [a,b] (S v0) (N 1000) (S (A v0 (M 2 (S v1)))) (N 990) rfl
def Pz:a+2*(b+1)<990->a+1+2*b<990:=az [a,b] (S (A (S v0) (M 2 v1))) (N 990) (S (A v0 (M 2 (S v1)))) (N 990) rfl
def PB:a+10*(b+1)<9700->a+3+10*b<9700:=az [a,b] (S (A (A v0 (N 3)) (M 10 v1))) (N 9700) (S (A v0 (M 10 (S v1)))) (N 9700) rfl
def PC:a+2≠a+4:=λq0=>dz [a] (A v0 (N 4)) (A v0 (N 2)) rfl (u4 q0.symm)
def PD:a+3≠a+4:=λq0=>dz [a] (A v0 (N 4)) (A v0 (N 3)) rfl (u4 q0.symm)
def PE:a≠a+4:=λq0=>dz [a] (A v0 (N 4)) v0 rfl (u4 q0.symm)
def PF:a+1≠a+4:=λq0=>dz [a] (A v0 (N 4)) (S v0) rfl (u4 q0.symm)
def Nv:a+2≠a+3:=λq0=>dz [a] (A v0 (N 3)) (A v0 (N 2)) rfl (u4 q0.symm)
def IP:a+2≠a:=λq0=>dz [a] (A v0 (N 2)) v0 rfl (u4 q0)
def IQ:a+2≠a+1:=λq0=>dz [a] (A v0 (N 2)) (S v0) rfl (u4 q0)
def IR:a+3≠a:=λq0=>dz [a] (A v0 (N 3)) v0 rfl (u4 q0)
def IS:a+3≠a+1:=λq0=>dz [a] (A v0 (N 3)) (S v0) rfl (u4 q0)
def IT:a≠a+1:=λq0=>dz [a] (S v0) v0 rfl (u4 q0.symm)
def EI:a<b->a≠b+4:=λB=>λq0=>bG [a,b] (S v0) v1 (A v1 (N 4)) v0 rfl B (u4 q0.symm)
def EJ:a<b->a≠b+3:=λB=>λq0=>bG [a,b] (S v0) v1 (A v1 (N 3)) v0 rfl B (u4 q0.symm)
def AV:a<b->a≠b:=λB=>λq0=>bG [a,b] (S v0) v1 v1 v0 rfl B (u4 q0.symm)
def EK:a<b->a≠b+1:=λB=>λq0=>bG [a,b] (S v0) v1 (S v1) v0 rfl B (u4 q0.symm)
def IU:a<b->a≠b+c:=λB=>λq0=>bG [a,b,c] (S v0) v1 (A v1 v2) v0 rfl B (u4 q0.symm)
def AW:a<=a+3:=fD [a] v0 (A v0 (N 3))  rfl
def EL:a<=a+4:=fD [a] v0 (A v0 (N 4))  rfl
def AX:a<=a:=fD [a] v0 v0  rfl
def AY:a<=a+1:=fD [a] v0 (S v0)  rfl
def IV:a+4≠a+3:=λq0=>dz [a] (A v0 (N 4)) (A v0 (N 3)) rfl (u4 q0)
def IW:a<=a+2:=fD [a] v0 (A v0 (N 2))  rfl
def IX:a≠a+3:=λq0=>dz [a] (A v0 (N 3)) v0 rfl (u4 q0.symm)
def IY:a+1≠a+3:=λq0=>dz [a] (A v0 (N 3)) (S v0) rfl (u4 q0.symm)
def IZ:c<b->a<=a+b-1-c:=λB=>bu [a,b,c,((a+b)-1),(((a+b)-1)-c)] v0 v4 (S v2) v1 (A v0 v1) (S v3) v3 (A v4 v2) rfl B (bN (a+b) 1) (bN ((a+b)-1) c)
theorem Ja:a<=c->c<b->a+b-1-c<b:=by omega
def Jb:¬a≥b->a<=(a+b)/2/\(a+b)/2<b:=λB=>⟨C4 λq0=>fu [a,b,((a+b)/2)] (S v0) v1 (A v0 v1) (S (M 2 v2)) (M 2 (S v2)) (M 2 v0) rfl (Nat.lt_of_not_le B) (vJ (a+b)) (da [a,b,((a+b)/2)] 2 (S v2) v0 q0),C4 λq0=>fu [a,b,((a+b)/2)] (S v0) v1 (M 2 v2) (A v0 v1) (M 2 (S v1)) (M 2 (S v2)) rfl (Nat.lt_of_not_le B) (vI (a+b)) (da [a,b,((a+b)/2)] 2 (S v1) (S v2) q0)⟩
def Jc:a<b->a<b+c:=az [a,b,c] (S v0) (A v1 v2) (S v0) v1 rfl
def AZ:a<=b->a<b+1:=az [a,b] (S v0) (S v1) v0 v1 rfl
def Jd:a<b->a<=b:=az [a,b] v0 v1 (S v0) v1 rfl
def EM{d e:Nat}:max b e<=i->a+i<d->a+min b c<d:=λB F=>bu [a,b,c,d,e,i,(max b e),(min b c)] (S (A v0 v7)) v3 v6 v5 (S (A v0 v5)) v3 (A v1 v7) (A v6 v1) rfl B F (fE [a,b,c,d,e,i,(max b e),(min b c)] v1 v6 v7 v1 (L3 b e) (O8 b c))
def EN{d:Nat}:a=d+1->d+(b+1)<c->a+b<c:=λB F=>aA [a,b,c,d] (S (A v0 v1)) v2 v0 (S v3) (S (A v3 (S v1))) v2 rfl (u4 B) F
def Je{d e:Nat}:max b d<=e->a+e<c->a+b<c:=λB F=>bu [a,b,c,d,e,(max b d)] (S (A v0 v1)) v2 v5 v4 (S (A v0 v4)) v2 v1 v5 rfl B F (L3 b d)
def Jf:2<=a->a<2->False:=bG [a] (N 2) v0 (S v0) (N 2) rfl
def Jg:2<=a->0<a:=az [a] (S (N 0)) v0 (N 2) v0 rfl
def Jh:b=c->a=b->0<c->0<a:=λB F G=>bu [a,b,c] (S (N 0)) v0 v2 v1 v1 v0 (S (N 0)) v2 rfl (u4 B.symm) (u4 F.symm) G
def Jj:a+9<b->a+8<b:=az [a,b] (S (A v0 (N 8))) v1 (S (A v0 (N 9))) v1 rfl
def Jk:a+1<=8->a<=8:=az [a] v0 (N 8) (S v0) (N 8) rfl
def Jl:a=b->2<=b->2<=a:=λB F=>aA [a,b] (N 2) v0 v1 v0 (N 2) v1 rfl (u4 B.symm) F
def Jm:b<=8->a+9<c->a+b<c:=aA [a,b,c] (S (A v0 v1)) v2 v1 (N 8) (S (A v0 (N 9))) v2 rfl
theorem Ba :100<=16777216:=by decide
def EO:100<=b->a<2->a<=b:=aA [a,b] v0 v1 (N 100) v1 (S v0) (N 2) rfl
def Jn:a<2->a<=b+1:=az [a,b] v0 (S v1) (S v0) (N 2) rfl
def Jo:a=c->c<64->100<=b->a<=b:=λB F G=>bu [a,b,c] v0 v1 v0 v2 (S v2) (N 64) (N 100) v1 rfl (u4 B) F G
def Jp:b=a->b<2->a<2:=λB F=>aA [a,b] (S v0) (N 2) v0 v1 (S v1) (N 2) rfl (u4 B.symm) F
def Jq:¬a<2->2<=a:=λB=>az [a] (N 2) v0 (N 2) v0 rfl (C4 B)
def Jr:a=b->b<64->a<64:=λB F=>aA [a,b] (S v0) (N 64) v0 v1 (S v1) (N 64) rfl (u4 B) F
def Js:b=a->¬b<2->2<=a:=λB F=>aA [a,b] (N 2) v0 v1 v0 (N 2) v1 rfl (u4 B) (C4 F)
def Jt:a+20<b->a+1+9<b:=az [a,b] (S (A (S v0) (N 9))) v1 (S (A v0 (N 20))) v1 rfl
def Ju:b=a->¬b<2->1<=a:=λB F=>aA [a,b] (N 1) v0 v1 v0 (N 2) v1 rfl (u4 B) (C4 F)
def EP:a<b+1->a≠b->a<b:=λF G=>(K4 G).elim (λB=>az [a,b] (S v0) v1 (S v0) v1 rfl B) (λB=>aA [a,b] (S v0) v1 (M 2 (S v0)) (M 2 (S v1)) (S v1) v0 rfl (da [a,b] 2 (S v0) (S v1) F) B)
def Jv:a-1<=b->a<=b+1:=λB=>aA [a,b,(a-1)] v0 (S v1) v2 v1 v0 (S v2) rfl B (bN a 1)
def EQ:a<=b->a<=b+1:=az [a,b] v0 (S v1) v0 v1 rfl
def ES:a<=c->c<=b->a<=b:=aA [a,b,c] v0 v1 v0 v2 v2 v1 rfl
def Jw:a-c<=0->c<=b->a<=b:=λB F=>bu [a,b,c,(a-c)] v0 v1 v3 (N 0) v2 v1 v0 (A v3 v2) rfl B F (bN a c)
def Jx:b<=c->a<b->(a+b)/2<c:=λB F=>C4 λq0=>fu [a,b,c,((a+b)/2)] (M 2 v1) (M 2 v2) (S v0) v1 (A (M 2 v3) (M 2 (S v2))) (A (A v0 v1) (M 2 (S v3))) rfl (da [a,b,c,((a+b)/2)] 2 v1 v2 B) F (fE [a,b,c,((a+b)/2)] (M 2 v3) (A v0 v1) (M 2 (S v2)) (M 2 (S v3)) (vI (a+b)) (da [a,b,c,((a+b)/2)] 2 (S v2) (S v3) q0))
def Jy:a<b->(a+b)/2+1<=b:=λB=>C4 λq0=>fu [a,b,((a+b)/2)] (S v0) v1 (M 2 v2) (A v0 v1) (M 2 (S v1)) (M 2 (S v2)) rfl B (vI (a+b)) (da [a,b,((a+b)/2)] 2 (S v1) (S v2) q0)
def Jz:a-b<=c+1->a-((b+a)/2+1)<=c:=λF=>(F9 (((b+a)/2)+1) a).elim (λB=>bu [a,b,c,(a-b),((b+a)/2),(a-(((b+a)/2)+1))] v5 v2 v3 (S v2) v0 (A v3 v1) (A (A v1 v0) (A (S v4) (A v5 (S v4)))) (A (S (M 2 v4)) (A v0 v0)) rfl F (bN a b) (fE [a,b,c,(a-b),((b+a)/2),(a-(((b+a)/2)+1))] (A v1 v0) (S (M 2 v4)) (A (S v4) (A v5 (S v4))) (A v0 v0) (vJ (b+a)) (fE [a,b,c,(a-b),((b+a)/2),(a-(((b+a)/2)+1))] (S v4) v0 (A v5 (S v4)) v0 B (u4 (cq B))))) (λB=>az [a,b,c,(a-b),((b+a)/2),(a-(((b+a)/2)+1))] v5 v2 v5 (N 0) rfl (u4 (E5 B)))
def JA:a<(b+c)/2+1->¬a=(b+c)/2->a<(b+c)/2:=λF G=>(K4 G).elim (λB=>az [a,b,c,((b+c)/2)] (S v0) v3 (S v0) v3 rfl B) (λB=>aA [a,b,c,((b+c)/2)] (S v0) v3 (M 2 (S v0)) (M 2 (S v3)) (S v3) v0 rfl (da [a,b,c,((b+c)/2)] 2 (S v0) (S v3) F) B)
def JB:a<b->a<=(a+b)/2:=λB=>C4 λq0=>fu [a,b,((a+b)/2)] (S v0) v1 (A v0 v1) (S (M 2 v2)) (M 2 (S v2)) (M 2 v0) rfl B (vJ (a+b)) (da [a,b,((a+b)/2)] 2 (S v2) v0 q0)
def JC:(a+b)/2<c->(a+b)/2<=c:=az [a,b,c,((a+b)/2)] v3 v2 (S v3) v2 rfl
theorem JD:b-a<=c+1->(a+b)/2-a<=c:=by omega
def ET:¬b<a->a<=b:=λB=>az [a,b] v0 v1 v0 v1 rfl (C4 B)
def JE:(a+b)/2<=c->¬c=(a+b)/2->(a+b)/2<c:=λF G=>(K4 G).elim (λB=>aA [a,b,c,((a+b)/2)] (S v3) v2 (M 2 v3) (M 2 v2) (S v2) v3 rfl (da [a,b,c,((a+b)/2)] 2 v3 v2 F) B) (λB=>az [a,b,c,((a+b)/2)] (S v3) v2 (S v3) v2 rfl B)
def JF:c<b->¬c<a->a<=b:=λB F=>aA [a,b,c] v0 v1 (S v2) v1 v0 v2 rfl B (C4 F)
def JG:c<=b->¬c<a->a<=b:=λB F=>aA [a,b,c] v0 v1 v2 v1 v0 v2 rfl B (C4 F)
def JH:a-0<=a:=az [a,(a-0)] v1 v0 v1 v0 rfl (RQ a 0)
def JI:a<=b->b<a->False:=bG [a,b] v0 v1 (S v1) v0 rfl
def Bb:a<a->False:=dz [a] (S v0) v0 rfl
def xr:a<b+1->a<=b:=az [a,b] v0 v1 (S v0) (S v1) rfl
def JJ:a+1<=a->False:=dz [a] (S v0) v0 rfl
def EU:a<a+1:=fD [a] (S v0) (S v0)  rfl
def JK:a<b+1->b<a->False:=bG [a,b] (S v0) (S v1) (S v1) v0 rfl
def EV:a<0->False:=dz [a] (S v0) (N 0) rfl
def JM:a<=b->a≠b->a<b:=λF G=>(K4 G).elim (λB=>az [a,b] (S v0) v1 (S v0) v1 rfl B) (λB=>aA [a,b] (S v0) v1 (M 2 v0) (M 2 v1) (S v1) v0 rfl (da [a,b] 2 v0 v1 F) B)
def Bc:a+1+b=a+b+1:=C8 (fD [a,b] (A (S v0) v1) (S (A v0 v1))  rfl ) (fD [a,b] (S (A v0 v1)) (A (S v0) v1)  rfl )
def JN:b+1<=a->a>0:=az [a,b] (S (N 0)) v0 (S v1) v0 rfl
def JO:a+1<=b->a<=b-1:=λB=>aA [a,b,(b-1)] v0 v2 (S v0) v1 v1 (S v2) rfl B (bN b 1)
def EW:a+1+b=a+(b+1):=C8 (fD [a,b] (A (S v0) v1) (A v0 (S v1))  rfl ) (fD [a,b] (A v0 (S v1)) (A (S v0) v1)  rfl )
theorem JP:a-1-b=a-(b+1):=by rw[Nat.sub_sub,RL]
def JQ:¬a-b-(a-b)>0:=(F9 b a).elim (λF=>(F9 (a-b) (a-b)).elim (λB=>λq0=>bG [a,b,(a-b),((a-b)-(a-b))] (A v3 v2) v2 (S (N 0)) v3 rfl (u4 (cq B)) q0) (λB=>λq0=>bG [a,b,(a-b),((a-b)-(a-b))] v3 (N 0) (S (N 0)) v3 rfl (u4 (E5 B)) q0)) (λF=>λq0=>fu [a,b,(a-b),((a-b)-(a-b))] v3 v2 v2 (N 0) (S (N 0)) v3 rfl (RQ (a-b) (a-b)) (u4 (E5 F)) q0)
theorem JR:a+9<=b->a+9-a<=9/\(a<=b->a+9<=b)/\a<=a+9:=λh=>⟨by rw[Nat.add_sub_cancel_left];decide,λ_=>h,G5 a 9⟩
theorem JS:a-a<=9/\(a<=b->a<=b)/\a<=a:=⟨by rw[Nat.sub_self];decide,id,A8 a⟩
def JU{d:Nat}:a-b<=9->c<=10*d->a-b+1+c<=10*(d+1):=aA [a,b,c,d,(a-b)] (A (S v4) v2) (M 10 (S v3)) v4 (N 9) v2 (M 10 v3) rfl
def JV:a<=c->a-b<=c:=λB=>aA [a,b,c,(a-b)] v3 v2 v0 v2 v3 v0 rfl B (RQ a b)
def JW:a<=b->a+(b-a)=b:=λF=>(F9 a b).elim (λB=>C8 (az [a,b,(b-a)] (A v0 v2) v1 (A v2 v0) v1 rfl (u4 (cq B))) (az [a,b,(b-a)] v1 (A v0 v2) v1 (A v2 v0) rfl (bN b a))) (λB=>C8 (aA [a,b,(b-a)] (A v0 v2) v1 v0 v1 v2 (N 0) rfl F (u4 (E5 B))) (az [a,b,(b-a)] v1 (A v0 v2) v1 v0 rfl B))
def JX:¬c<=b->a+1+b-c<=a:=λF=>(F9 c ((a+1)+b)).elim (λB=>aA [a,b,c,(((a+1)+b)-c)] v3 v0 (S v1) v2 (A v3 v2) (A (S v0) v1) rfl (Nat.lt_of_not_le F) (u4 (cq B))) (λB=>az [a,b,c,(((a+1)+b)-c)] v3 v0 v3 (N 0) rfl (u4 (E5 B)))
def JY:a<=b->a+(b+1+c-a)=b+1+c:=λF=>(F9 a ((b+1)+c)).elim (λB=>C8 (az [a,b,c,(((b+1)+c)-a)] (A v0 v3) (A (S v1) v2) (A v3 v0) (A (S v1) v2) rfl (u4 (cq B))) (az [a,b,c,(((b+1)+c)-a)] (A (S v1) v2) (A v0 v3) (A (S v1) v2) (A v3 v0) rfl (bN ((b+1)+c) a))) (λB=>C8 (aA [a,b,c,(((b+1)+c)-a)] (A v0 v3) (A (S v1) v2) v0 v1 v3 (N 0) rfl F (u4 (E5 B))) (az [a,b,c,(((b+1)+c)-a)] (A (S v1) v2) (A v0 v3) (A (S v1) v2) v0 rfl B))
theorem JZ{a:Int}:a<(2:Int)^64->a.toNat<(2:Nat)^64:=λh=>(Int.toNat_lt' (by decide)).mpr h
def Kb:a<=b->13+a<=13+b:=az [a,b] (A (N 13) v0) (A (N 13) v1) v0 v1 rfl
def Kc:a<=10*c->c<=13+b->a<10*(b+15):=λB F=>aA [a,b,c] (S v0) (M 10 (A v1 (N 15))) v0 (M 10 v2) (M 10 v2) (M 10 (A (N 13) v1)) rfl B (da [a,b,c] 10 v2 (A (N 13) v1) F)
def Ke:a+1<=b+1->a<=b+1:=az [a,b] v0 (S v1) (S v0) (S v1) rfl
def tW:a<b->a<b+1:=az [a,b] (S v0) (S v1) (S v0) v1 rfl
def Kg:a<=b-1->0<b->a+1<=b:=λF G=>(F9 1 b).elim (λB=>aA [a,b,(b-1)] (S v0) v1 v0 v2 (S v2) v1 rfl F (u4 (cq B))) (λB=>bu [a,b,(b-1)] (S v0) v1 v0 v2 (S (N 0)) v1 v2 (N 0) rfl F G (u4 (E5 B)))
def EX:a+1<=b->b<=a->False:=bG [a,b] (S v0) v1 v1 v0 rfl
def Kh:0<a+1:=fD [a] (S (N 0)) (S v0)  rfl
def Bd:a+1<b+1->a<b:=az [a,b] (S v0) v1 (S (S v0)) (S v1) rfl
def Ki:a<b->a+1<b+1:=az [a,b] (S (S v0)) (S v1) (S v0) v1 rfl
def Kj:a<=b->min a b=a:=λF=>(F9 a b).elim (λB=>C8 (az [a,b,(min a b)] v2 v0 v2 v0 rfl (O8 a b)) (az [a,b,(min a b)] v0 v2 v0 v2 rfl (u4 (QZ B).symm))) (λB=>C8 (az [a,b,(min a b)] v2 v0 v2 v0 rfl (O8 a b)) (aA [a,b,(min a b)] v0 v2 v0 v1 v1 v2 rfl F (u4 (O9 B).symm)))
def Kk:¬a=b->¬a<b->¬a-b=0:=λF G=>(K4 F).elim (λB=>λq0=>bG [a,b,(a-b)] v1 v0 (S v0) v1 rfl (C4 G) B) (λB=>λq0=>fu [a,b,(a-b)] v0 (A v2 v1) (S v1) v0 v2 (N 0) rfl (bN a b) B (u4 q0))
theorem Kl:¬b=a->¬b<a->a+(b-a-1)=b-1:=λB F=>by obtain⟨k,rfl⟩:=Nat.exists_eq_add_of_lt (Nat.lt_of_le_of_ne (C4 F) (R5 B));rw[O7,Nat.add_sub_cancel_left,Nat.add_sub_cancel,<- O7,Nat.add_sub_cancel]
theorem Km:min a b+(b-a+1)=b+1:=by omega
def Kn:a*5<7*3->a<7:=λB=>C4 λq0=>bG [a] (S (R v0 5)) (N 21) (M 3 (S (N 7))) (M 3 (S v0)) rfl B (da [a] 3 (S (N 7)) (S v0) q0)
def Ko:a*5<31*3->a<31:=λB=>C4 λq0=>bG [a] (S (R v0 5)) (N 93) (M 3 (S (N 31))) (M 3 (S v0)) rfl B (da [a] 3 (S (N 31)) (S v0) q0)
def Kq:a*5<127*3->a<127:=λB=>C4 λq0=>bG [a] (S (R v0 5)) (N 381) (M 3 (S (N 127))) (M 3 (S v0)) rfl B (da [a] 3 (S (N 127)) (S v0) q0)
def Kr:b>0->a+b<=c->a+1+(b-1)<=c:=λG F=>(F9 1 b).elim (λB=>aA [a,b,c,(b-1)] (A (S v0) v3) v2 (A v0 v1) v2 (S v3) v1 rfl F (u4 (cq B))) (λB=>bu [a,b,c,(b-1)] (A (S v0) v3) v2 (S (N 0)) v1 (A v0 v1) v2 v3 (N 0) rfl G F (u4 (E5 B)))
theorem EY:(a<=c->b<=c)->a<=c->a+(b-a)<=c:=λh q=>(F9 a b).elim (λz=>by rw[Rc z];exact h q) (λz=>by rw[E5 z];exact q)
def EZ{d:Nat}:d<=c->b<d+1-a->a+b<c+1:=λG F=>(F9 a (d+1)).elim (λB=>bu [a,b,c,d,((d+1)-a)] (S (A v0 v1)) (S v2) v3 v2 (S v1) v4 (A v4 v0) (S v3) rfl G F (u4 (cq B))) (λB=>C4 λq0=>bG [a,b,c,d,((d+1)-a)] (S v1) v4 v4 (N 0) rfl F (u4 (E5 B)))
def Fa:a<b+1-c->a<=b-c:=λF=>(F9 c (b+1)).elim (λB=>bu [a,b,c,((b+1)-c),(b-c)] v0 v4 (S v0) v3 v1 (A v4 v2) (A v3 v2) (S v1) rfl F (bN b c) (u4 (cq B))) (λB=>aA [a,b,c,((b+1)-c),(b-c)] v0 v4 (S v0) v3 v3 (N 0) rfl F (u4 (E5 B)))
def Ks{d:Nat}:d<=c->b<d+1-a->a+b<=c:=λG F=>(F9 a (d+1)).elim (λB=>bu [a,b,c,d,((d+1)-a)] (A v0 v1) v2 v3 v2 (S v1) v4 (A v4 v0) (S v3) rfl G F (u4 (cq B))) (λB=>C4 λq0=>bG [a,b,c,d,((d+1)-a)] (S v1) v4 v4 (N 0) rfl F (u4 (E5 B)))
def Kt{d:Nat}:a<d->d<b+1-c->a<b+1-c:=aA [a,b,c,d,((b+1)-c)] (S v0) v4 (S v0) v3 (S v3) v4 rfl
def Fb:b<=a->0<a+1-b:=λB=>aA [a,b,((a+1)-b)] (S (N 0)) v2 v1 v0 (S v0) (A v2 v1) rfl B (bN (a+1) b)
def Fc:c<=b->a<b-c+1->a<b+1-c:=λG F=>(F9 c b).elim (λB=>bu [a,b,c,(b-c),((b+1)-c)] (S v0) v4 (S v0) (S v3) (S v1) (A v4 v2) (A v3 v2) v1 rfl F (bN (b+1) c) (u4 (cq B))) (λB=>bu [a,b,c,(b-c),((b+1)-c)] (S v0) v4 v2 v1 (S v0) (S v3) (A (S v1) v3) (A (A v4 v2) (N 0)) rfl G F (fE [a,b,c,(b-c),((b+1)-c)] (S v1) (A v4 v2) v3 (N 0) (bN (b+1) c) (u4 (E5 B))))
theorem Kv:¬a<b-c+1->a=b-c+1+(a-(b-c+1)):=by omega
def Kw{d:Nat}:a=b-c+1+(a-(b-c+1))->a<b-c+1+d->a-(b-c+1)<d:=λB F=>aA [a,b,c,d,(b-c),(a-((b-c)+1))] (S v5) v3 (A (S v4) v5) v0 (S v0) (A (S v4) v3) rfl (u4 B.symm) F
def Kx:c<=b->a<c->a<=b:=aA [a,b,c] v0 v1 v2 v1 (S v0) v2 rfl
def Ky:a<=13+b->a<b+15:=az [a,b] (S v0) (A v1 (N 15)) v0 (A (N 13) v1) rfl
def xt:a<b+1->¬a=b->a<b:=λF G=>(K4 G).elim (λB=>az [a,b] (S v0) v1 (S v0) v1 rfl B) (λB=>aA [a,b] (S v0) v1 (M 2 (S v0)) (M 2 (S v1)) (S v1) v0 rfl (da [a,b] 2 (S v0) (S v1) F) B)
def Kz:c=a->c=b->a=b:=λB F=>C8 (aA [a,b,c] v0 v1 v0 v2 v2 v1 rfl (u4 B.symm) (u4 F)) (aA [a,b,c] v1 v0 v2 v0 v1 v2 rfl (u4 B) (u4 F.symm))
def KA:a=c->¬b<c->a<=b:=λB F=>aA [a,b,c] v0 v1 v0 v2 v2 v1 rfl (u4 B) (C4 F)
def Be:a=b->a<b->False:=λB F=>bG [a,b] v1 v0 (S v0) v1 rfl (u4 B.symm) F
def KB:a<=64->¬a>50000:=λB=>λq0=>bG [a] v0 (N 64) (S (N 50000)) v0 rfl B q0
def KC:a*5≥7*3->(a-1)*5<7*3->a=5:=λB F=>C8 (C4 λq0=>fu [a,(a-1)] (S (R v1 5)) (N 21) (M 5 v0) (M 5 (S v1)) (M 5 (S (N 5))) (M 5 v0) rfl F (da [a,(a-1)] 5 v0 (S v1) (bN a 1)) (da [a,(a-1)] 5 (S (N 5)) v0 q0)) (C4 λq0=>bG [a,(a-1)] (N 21) (R v0 5) (M 5 (S v0)) (M 5 (N 5)) rfl B (da [a,(a-1)] 5 (S v0) (N 5) q0))
theorem KD :5*5<31*3:=by decide
def KE:a*5≥31*3->(a-1)*5<31*3->a=19:=λB F=>C8 (C4 λq0=>fu [a,(a-1)] (S (R v1 5)) (N 93) (M 5 v0) (M 5 (S v1)) (M 5 (S (N 19))) (M 5 v0) rfl F (da [a,(a-1)] 5 v0 (S v1) (bN a 1)) (da [a,(a-1)] 5 (S (N 19)) v0 q0)) (C4 λq0=>bG [a,(a-1)] (N 93) (R v0 5) (M 5 (S v0)) (M 5 (N 19)) rfl B (da [a,(a-1)] 5 (S v0) (N 19) q0))
theorem KF :19*5<127*3:=by decide
def KG:a*5≥127*3->a<=64->False:=λB F=>bG [a] (N 381) (R v0 5) (M 5 v0) (M 5 (N 64)) rfl B (da [a] 5 v0 (N 64) F)
theorem KH:a*5≥b*3->a*5<7*3->b=7\/b=31\/b=127->False:=λh k z=>absurd (A6 h k) (by rcases z with rfl|rfl|rfl <;> decide)
def KJ:a*5<31*3->a<=31:=λB=>C4 λq0=>bG [a] (S (R v0 5)) (N 93) (M 3 (S (N 31))) (M 3 v0) rfl B (da [a] 3 (S (N 31)) v0 q0)
def KK:a*5<127*3->a<=127:=λB=>C4 λq0=>bG [a] (S (R v0 5)) (N 381) (M 3 (S (N 127))) (M 3 v0) rfl B (da [a] 3 (S (N 127)) v0 q0)
def KL:a<=128->a<=16777216:=az [a] v0 (N 16777216) v0 (N 128) rfl
def KM{d:Nat}:b<=8->a+9<d->a+min b c<d:=λB F=>bu [a,b,c,d,(min b c)] (S (A v0 v4)) v3 v1 (N 8) (S (A v0 (N 9))) v3 v4 v1 rfl B F (O8 b c)
def KN:b<a->a-b-1<a:=λG=>(F9 b a).elim (λB=>(F9 1 (a-b)).elim (λF=>aA [a,b,(a-b),((a-b)-1)] (S v3) v0 (A v2 v1) v0 (S v3) v2 rfl (u4 (cq B)) (u4 (cq F))) (λF=>aA [a,b,(a-b),((a-b)-1)] (S v3) v0 (S v1) v0 v3 (N 0) rfl G (u4 (E5 F)))) (λB=>bu [a,b,(a-b),((a-b)-1)] (S v3) v0 (S v1) v0 v3 v2 v2 (N 0) rfl G (RQ (a-b) 1) (u4 (E5 B)))
def KP:a<10*c->a-b-1<10*c:=λB=>bu [a,b,c,(a-b),((a-b)-1)] (S v4) (M 10 v2) (S v0) (M 10 v2) v3 v0 v4 v3 rfl B (RQ a b) (RQ (a-b) 1)
def KQ:a<c+1->b<a->a-b-1<c:=λF G=>(F9 1 (a-b)).elim (λB=>bu [a,b,c,(a-b),((a-b)-1)] (S v4) v2 (S v0) (S v2) v3 v0 (S v4) v3 rfl F (RQ a b) (u4 (cq B))) (λB=>bu [a,b,c,(a-b),((a-b)-1)] (S v4) v2 (S v0) (S v2) (S v1) v0 v4 (N 0) rfl F G (u4 (E5 B)))
theorem KR:a<b->a+1+(b-a-1)=b:=by omega
theorem KS:b<=c-a-1->a<c->a+1+b<=c:=λh k=>by rw[Nat.sub_sub]at h;exact Nat.add_le_of_le_sub' k h
def KT:a<b+1+c->¬a=b->¬a<b->a-(b+1)<c:=λG J O=>(K4 J).elim (λB=>C4 λq0=>bG [a,b,c,(a-(b+1))] v1 v0 (S v0) v1 rfl (C4 O) B) (λB=>(F9 (b+1) a).elim (λF=>aA [a,b,c,(a-(b+1))] (S v3) v2 (S v0) (A (S v1) v2) (A v3 (S v1)) v0 rfl G (u4 (cq F))) (λF=>bu [a,b,c,(a-(b+1))] (S v3) v2 (S v0) (A (S v1) v2) (S v1) v0 v3 (N 0) rfl G B (u4 (E5 F))))
def KU:¬b=a->¬b<a->a+1+(b-(a+1))=b:=λG J=>(K4 G).elim (λB=>C8 (C4 λq0=>bG [a,b,(b-(a+1))] v0 v1 (S v1) v0 rfl (C4 J) B) (az [a,b,(b-(a+1))] v1 (A (S v0) v2) (S v1) v0 rfl B)) (λB=>(F9 (a+1) b).elim (λF=>C8 (az [a,b,(b-(a+1))] (A (S v0) v2) v1 (A v2 (S v0)) v1 rfl (u4 (cq F))) (az [a,b,(b-(a+1))] v1 (A (S v0) v2) v1 (A v2 (S v0)) rfl (bN b (a+1)))) (λF=>C8 (aA [a,b,(b-(a+1))] (A (S v0) v2) v1 (S v0) v1 v2 (N 0) rfl B (u4 (E5 F))) (az [a,b,(b-(a+1))] v1 (A (S v0) v2) v1 (S v0) rfl F)))
def KV:a<=100->a<=16777216:=az [a] v0 (N 16777216) v0 (N 100) rfl
def KW:a<=b->¬a>b:=λB=>λq0=>bG [a,b] v0 v1 (S v1) v0 rfl B q0
def KY:a<=64->a<=100:=az [a] v0 (N 100) v0 (N 64) rfl
def KZ:10*b<=100000->a<10*b->a<100000:=aA [a,b] (S v0) (N 100000) (M 10 v1) (N 100000) (S v0) (M 10 v1) rfl
def Bf:a=b+1->b<64->a<=100:=λB F=>aA [a,b] v0 (N 100) v0 (S v1) (S v1) (N 64) rfl (u4 B) F
def Fd:a=b+1->b<64->a<=64:=λB F=>aA [a,b] v0 (N 64) v0 (S v1) (S v1) (N 64) rfl (u4 B) F
def La:a=c+1->(c+1)*5≥b*3->a*5≥b*3:=λB F=>aA [a,b,c] (R v1 3) (R v0 5) (M 5 (S v2)) (M 5 v0) (R v1 3) (R (S v2) 5) rfl (da [a,b,c] 5 (S v2) v0 (u4 B.symm)) F
def Fe{d e:Nat}:c=d->e<d->a=e+1->b=c->a<=b:=λB F G J=>bu [a,b,c,d,e] v0 v1 v3 v2 (S v4) v3 (A v0 v2) (A (S v4) v1) rfl (u4 B.symm) F (fE [a,b,c,d,e] v0 (S v4) v2 v1 (u4 G) (u4 J.symm))
def Lb:¬(a+1)*5≥b*3->(a+1)*5<b*3:=λB=>az [a,b] (S (R (S v0) 5)) (R v1 3) (S (R (S v0) 5)) (R v1 3) rfl (Nat.lt_of_not_le B)
def Lc{a:Int}:a+(1:Int)=a->False:=λh=>Int.ne_of_gt (Int.lt_add_one_of_le (Int.le_refl a)) h
def Ld:¬a*5≥b*3->a*5<b*3:=λB=>az [a,b] (S (R v0 5)) (R v1 3) (S (R v0 5)) (R v1 3) rfl (Nat.lt_of_not_le B)
def Ff:b-a=0->a<=b->a=b:=λB F=>C8 (az [a,b,(b-a)] v0 v1 v0 v1 rfl F) (aA [a,b,(b-a)] v1 v0 v2 (N 0) v1 (A v2 v0) rfl (u4 B) (bN b a))
def Fg:b-a=c+1->a<b:=λF=>(F9 a b).elim (λB=>aA [a,b,c,(b-a)] (S v0) v1 (S v2) v3 (A v3 v0) v1 rfl (u4 F.symm) (u4 (cq B))) (λB=>C4 λq0=>bG [a,b,c,(b-a)] (S v2) v3 v3 (N 0) rfl (u4 F.symm) (u4 (E5 B)))
def Le{d:Nat}:a=d+1->d+10<c->b<=8->a+b<c:=λB F G=>bu [a,b,c,d] (S (A v0 v1)) v2 v0 (S v3) (S (A v3 (N 10))) v2 v1 (N 8) rfl (u4 B) F G
def Lf{d:Nat}:b=c->d<b->a<=d->c<64->a<64:=λB F G J=>bu [a,b,c,d] (S v0) (N 64) v1 v2 (S v3) v1 (A v0 (S v2)) (A v3 (N 64)) rfl (u4 B) F (fE [a,b,c,d] v0 v3 (S v2) (N 64) G J)
theorem Bg:a-b=c+1->a-(b+1)=c:=λh=>by rw[<- Nat.sub_sub,h];rfl
def Lg:a+30<b->a+1+1+10<b:=az [a,b] (S (A (S (S v0)) (N 10))) v1 (S (A v0 (N 30))) v1 rfl
def Lh:c=b->a<=c->a<=b:=λB F=>aA [a,b,c] v0 v1 v2 v1 v0 v2 rfl (u4 B) F
def Li:b+1=a->0<a:=λB=>az [a,b] (S (N 0)) v0 (S v1) v0 rfl (u4 B)
def Fh:a+1=b->a=b-1:=λF=>(F9 1 b).elim (λB=>C8 (aA [a,b,(b-1)] v0 v2 (S v0) v1 v1 (S v2) rfl (u4 F) (bN b 1)) (aA [a,b,(b-1)] v2 v0 v1 (S v0) (S v2) v1 rfl (u4 F.symm) (u4 (cq B)))) (λB=>C8 (aA [a,b,(b-1)] v0 v2 (S v0) v1 v1 (N 1) rfl (u4 F) B) (az [a,b,(b-1)] v2 v0 v2 (N 0) rfl (u4 (E5 B))))
def Lj:a+1<=b->a<b:=az [a,b] (S v0) v1 (S v0) v1 rfl
def Fi:a=b->a<=b:=λB=>az [a,b] v0 v1 v0 v1 rfl (u4 B)
def Fj:100<=b->a<=100->a<=b:=aA [a,b] v0 v1 (N 100) v1 v0 (N 100) rfl
def Fk:a=c->c<=b->a<=b:=λB F=>aA [a,b,c] v0 v1 v0 v2 v2 v1 rfl (u4 B) F
def Lk:a<=c->c<=b->a+1<=b+1:=aA [a,b,c] (S v0) (S v1) v0 v2 v2 v1 rfl
def Ll:a+10*b<9700->a+1+20<9900:=az [a,b] (S (A (S v0) (N 20))) (N 9900) (S (A v0 (M 10 v1))) (N 9700) rfl
def Lm:a<=b->b<64->a<=100:=aA [a,b] v0 (N 100) v0 v1 (S v1) (N 64) rfl
def Ln:a+10*b<9700->a+30<9900:=az [a,b] (S (A v0 (N 30))) (N 9900) (S (A v0 (M 10 v1))) (N 9700) rfl
def Lp:(0:Int)<=(↑a:Int):=K3 a
theorem qI :0<=8:=by decide
def Lq:a+b<=c->c<=60->a<2^20:=aA [a,b,c] (S v0) (N 1048576) (A v0 v1) v2 v2 (N 60) rfl
def Lr:a+(b+c)<2^20->a+b<2^20:=az [a,b,c] (S (A v0 v1)) (N 1048576) (S (A v0 (A v1 v2))) (N 1048576) rfl
def Ls:a+(b+c)<2^20->a+b+c<2^20:=az [a,b,c] (S (A (A v0 v1) v2)) (N 1048576) (S (A v0 (A v1 v2))) (N 1048576) rfl
def Lu:b<=a->¬(↑a:Int)<(↑b:Int):=λh=>Int.not_lt.mpr (Int.ofNat_le.mpr h)
def Lv{d:Nat}:a=b->b=c->a<=d->d<c->False:=λB F G J=>fu [a,b,c,d] v1 v0 v2 v1 (A v0 (S v3)) (A v3 v2) rfl (u4 B.symm) (u4 F.symm) (fE [a,b,c,d] v0 v3 (S v3) v2 G J)
def Lw:a<=b->b<=60->a<=1048576:=aA [a,b] v0 (N 1048576) v0 v1 v1 (N 60) rfl
def Ly{d:Nat}:a<=d->b<=c->a+b<=c+d:=aA [a,b,c,d] (A v0 v1) (A v2 v3) v0 v3 v1 v2 rfl
def Lz:b=1+c->a+1<=a+b:=λB=>az [a,b,c] (S v0) (A v0 v1) (A (N 1) v2) v1 rfl (u4 B.symm)
def LA:c=1+b->a+b<=a+c:=λB=>az [a,b,c] (A v0 v1) (A v0 v2) (A (N 1) v1) v2 rfl (u4 B.symm)
def LB{d:Nat}:d=b+c->a+b+c<=a+d:=λB=>az [a,b,c,d] (A (A v0 v1) v2) (A v0 v3) (A v1 v2) v3 rfl (u4 B.symm)
def LC:b<=c->a<=b->c<=60->a<=60:=bu [a,b,c] v0 (N 60) v1 v2 v0 v1 v2 (N 60) rfl
def LD:a=b->b<=2^18->a<=1048576:=λB F=>aA [a,b] v0 (N 1048576) v0 v1 v1 (N 262144) rfl (u4 B) F
def Fm:¬a=b->¬(↑a:Int)=(↑b:Int):=λh e=>h (Ra e)
def LF:a+(b+1)<2^20->a<2^20:=az [a,b] (S v0) (N 1048576) (S (A v0 (S v1))) (N 1048576) rfl
def LG:a+(b+1)<2^20->a+1+b<1048576:=az [a,b] (S (A (S v0) v1)) (N 1048576) (S (A v0 (S v1))) (N 1048576) rfl
def LH:a<=c->b<=c->max a b<=c:=λF G=>(F9 a b).elim (λB=>aA [a,b,c,(max a b)] v3 v2 v1 v2 v3 v1 rfl G (u4 (N7 B))) (λB=>aA [a,b,c,(max a b)] v3 v2 v0 v2 v3 v0 rfl F (u4 (N5 B)))
def LJ:a<=1->a+1<=2:=az [a] (S v0) (N 2) v0 (N 1) rfl
def LK:a<=2->a<=8:=az [a] v0 (N 8) v0 (N 2) rfl
def LL:4+a+1<=5+a:=fD [a] (S (A (N 4) v0)) (A (N 5) v0)  rfl
def LM:2<=4+a:=fD [a] (N 2) (A (N 4) v0)  rfl
def LN:a<60->0+a<=500:=az [a] (A (N 0) v0) (N 500) (S v0) (N 60) rfl
def LO:a<60->0+a<=60:=az [a] (A (N 0) v0) (N 60) (S v0) (N 60) rfl
def LP:b<=c->a=b->c<=2^18->a<=1048576:=λB F G=>bu [a,b,c] v0 (N 1048576) v1 v2 v0 v1 v2 (N 262144) rfl B (u4 F) G
def LQ:a<64->a<=16384:=az [a] v0 (N 16384) (S v0) (N 64) rfl
def LR{d:Nat}:d+(b+1)<=c->a<=d+1->a+b<=c:=aA [a,b,c,d] (A v0 v1) v2 (A v3 (S v1)) v2 v0 (S v3) rfl
def LS:5+a+1<=6+a:=fD [a] (S (A (N 5) v0)) (A (N 6) v0)  rfl
def LT:2<=5+a:=fD [a] (N 2) (A (N 5) v0)  rfl
def LU:a<=b->b<=60->a<=60:=aA [a,b] v0 (N 60) v0 v1 v1 (N 60) rfl
def LV:a<=64->a<=2^20:=az [a] v0 (N 1048576) v0 (N 64) rfl
def LW:18<=18+a:=fD [a] (N 18) (A (N 18) v0)  rfl
def LX:18<=a->b<18->a≠b:=λB F=>λq0=>fu [a,b] (N 18) v0 (S v1) (N 18) v0 v1 rfl B F (u4 q0)
def LY:(↑a:Int)=(↑b:Int)->a=b:=Ra
def LZ{d:Nat}:max c d=b->min c d=a->¬c=d->a<b:=λF G J=>(K4 J).elim (λB=>bu [a,b,c,d,(max c d),(min c d)] (S v0) v1 v4 v1 v0 v5 (A v3 (A v5 (S v2))) (A v4 (A v2 v3)) rfl (u4 F) (u4 G.symm) (fE [a,b,c,d,(max c d),(min c d)] v3 v4 (A v5 (S v2)) (A v2 v3) (L9 c d) (fE [a,b,c,d,(max c d),(min c d)] v5 v2 (S v2) v3 (O8 c d) B))) (λB=>bu [a,b,c,d,(max c d),(min c d)] (S v0) v1 v4 v1 v0 v5 (A v2 (A v5 (S v3))) (A v4 (A v3 v2)) rfl (u4 F) (u4 G.symm) (fE [a,b,c,d,(max c d),(min c d)] v2 v4 (A v5 (S v3)) (A v3 v2) (L3 c d) (fE [a,b,c,d,(max c d),(min c d)] v5 v3 (S v3) v2 (Q7 c d) B)))
def Ma{d:Nat}:max c d=a->c<b->d<b->a<b:=λF G J=>(F9 c d).elim (λB=>bu [a,b,c,d,(max c d)] (S v0) v1 v0 v4 (S v3) v1 v4 v3 rfl (u4 F.symm) J (u4 (N7 B))) (λB=>bu [a,b,c,d,(max c d)] (S v0) v1 v0 v4 (S v2) v1 v4 v2 rfl (u4 F.symm) G (u4 (N5 B)))
def Mb:a≠b->¬(↑a:Int)=(↑b:Int):=λh e=>h (Ra e)
def Mc{d:Nat}:¬a=b->(↑a:Int)=(↑b:Int)->c=d:=λh q=>absurd (Ra q) h
def Md:a=b->a<=b+c:=λB=>az [a,b,c] v0 (A v1 v2) v0 v1 rfl (u4 B)
def Me:a<=c->a<=b+c:=az [a,b,c] v0 (A v1 v2) v0 v2 rfl
def Mf{d:Nat}:b+a+200*c<=d+200*d->d<=60->a<2^19:=λB F=>aA [a,b,c,d] (S v0) (N 524288) (A (A v1 v0) (M 200 v2)) (A v3 (M 200 v3)) (M 201 v3) (M 201 (N 60)) rfl B (da [a,b,c,d] 201 v3 (N 60) F)
def Mg:17≠18+a+b:=λq0=>dz [a,b] (A (A (N 18) v0) v1) (N 17) rfl (u4 q0.symm)
def Fn:16≠18+a+b:=λq0=>dz [a,b] (A (A (N 18) v0) v1) (N 16) rfl (u4 q0.symm)
def mA:a<b->¬a=b:=λB=>λq0=>bG [a,b] (S v0) v1 v1 v0 rfl B (u4 q0.symm)
def Mh:0<a->a-1+1=a:=λF=>(F9 1 a).elim (λB=>C8 (az [a,(a-1)] (S v1) v0 (S v1) v0 rfl (u4 (cq B))) (az [a,(a-1)] v0 (S v1) v0 (S v1) rfl (bN a 1))) (λB=>C8 (aA [a,(a-1)] (S v1) v0 (S (N 0)) v0 v1 (N 0) rfl F (u4 (E5 B))) (az [a,(a-1)] v0 (S v1) v0 (N 1) rfl B))
def Mi:a+b=b+a:=C8 (fD [a,b] (A v0 v1) (A v1 v0)  rfl ) (fD [a,b] (A v1 v0) (A v0 v1)  rfl )
def Mj{d:Nat}:b+c=d->a+b+c=a+d:=λB=>C8 (az [a,b,c,d] (A (A v0 v1) v2) (A v0 v3) (A v1 v2) v3 rfl (u4 B)) (az [a,b,c,d] (A v0 v3) (A (A v0 v1) v2) v3 (A v1 v2) rfl (u4 B.symm))
def Ml:a+b+c=c+b+a:=C8 (fD [a,b,c] (A (A v0 v1) v2) (A (A v2 v1) v0)  rfl ) (fD [a,b,c] (A (A v2 v1) v0) (A (A v0 v1) v2)  rfl )
def Mm{d e:Nat}:b+c=d+e->a+b+c=a+d+e:=λB=>C8 (az [a,b,c,d,e] (A (A v0 v1) v2) (A (A v0 v3) v4) (A v1 v2) (A v3 v4) rfl (u4 B)) (az [a,b,c,d,e] (A (A v0 v3) v4) (A (A v0 v1) v2) (A v3 v4) (A v1 v2) rfl (u4 B.symm))
def Mn{d:Nat}:c=d->c<=b->a<d->a<=b:=λB F G=>bu [a,b,c,d] v0 v1 v3 v2 v2 v1 (S v0) v3 rfl (u4 B.symm) F G
def Mo:a=c->c<b->¬a=b:=λB F=>λq0=>fu [a,b,c] v0 v2 (S v2) v1 v1 v0 rfl (u4 B) F (u4 q0.symm)
def Mp{d e:Nat}:a+c=d+(c+e)->d+e=i->i<=2*b->a<=2*b:=λB F G=>bu [a,b,c,d,e,i] v0 (M 2 v1) (A v0 v2) (A v3 (A v2 v4)) (A v3 v4) v5 v5 (M 2 v1) rfl (u4 B) (u4 F) G
def Mq{d e:Nat}:d+1=i->a+b+200*i<=e+200*e->c<=2*e->e<=60->a+(b+c)+200*d<=e+200*e:=λB F G J=>bu [a,b,c,d,e,i] (A (A v0 (A v1 v2)) (M 200 v3)) (A v4 (M 200 v4)) (M 200 (S v3)) (M 200 v5) (A (A v0 v1) (M 200 v5)) (A v4 (M 200 v4)) (A v2 (M 2 v4)) (A (M 2 v4) (M 2 (N 60))) rfl (da [a,b,c,d,e,i] 200 (S v3) v5 (u4 B)) F (fE [a,b,c,d,e,i] v2 (M 2 v4) (M 2 v4) (M 2 (N 60)) G (da [a,b,c,d,e,i] 2 v4 (N 60) J))
def Mr{d e:Nat}:b+1=e->a+e<=c+d->a+1+b<=c+d:=λB F=>aA [a,b,c,d,e] (A (S v0) v1) (A v2 v3) (S v1) v4 (A v0 v4) (A v2 v3) rfl (u4 B) F
def Fo{d:Nat}:b+1=d->a+d<=c->a+1+b<=c:=λB F=>aA [a,b,c,d] (A (S v0) v1) v2 (S v1) v3 (A v0 v3) v2 rfl (u4 B) F
theorem Ms{d e:Nat}:e<=2*i->b=d+e->i<=60->a+1=c->a*1000+b<c*1000+d:=λB F G J=>by subst F J;rw[Nat.add_mul,O7,Nat.one_mul,RL 1000 d];exact Nat.add_lt_add_left (Nat.add_lt_add_left (A6 (u0 B (Rd 2 G)) (by decide)) d) _
def Mt{d:Nat}:a+b+1+200*c<=d+200*d->a+1+b+200*c<=d+200*d:=az [a,b,c,d] (A (A (S v0) v1) (M 200 v2)) (A v3 (M 200 v3)) (A (S (A v0 v1)) (M 200 v2)) (A v3 (M 200 v3)) rfl
def Mw{d:Nat}:a+b+1+200*c<=d+200*d->d<=60->a<2^20:=λB F=>aA [a,b,c,d] (S v0) (N 1048576) (A (S (A v0 v1)) (M 200 v2)) (A v3 (M 200 v3)) (M 201 v3) (M 201 (N 60)) rfl B (da [a,b,c,d] 201 v3 (N 60) F)
theorem Fp :2<=3:=by decide
def Mx{d e:Nat}:e=b+1->a+e+200*c<=d+200*d->a+b+200*c<=d+200*d:=λB F=>aA [a,b,c,d,e] (A (A v0 v1) (M 200 v2)) (A v3 (M 200 v3)) (S v1) v4 (A (A v0 v4) (M 200 v2)) (A v3 (M 200 v3)) rfl (u4 B.symm) F
def My:c=b+1->a*1000+b+1=a*1000+c:=λB=>C8 (az [a,b,c] (S (A (R v0 1000) v1)) (A (R v0 1000) v2) (S v1) v2 rfl (u4 B.symm)) (az [a,b,c] (A (R v0 1000) v2) (S (A (R v0 1000) v1)) v2 (S v1) rfl (u4 B))
def MA{d e:Nat}:e=b+1->a+e+200*c<=d+200*d->a+b+1+200*c<=d+200*d:=λB F=>aA [a,b,c,d,e] (A (S (A v0 v1)) (M 200 v2)) (A v3 (M 200 v3)) (S v1) v4 (A (A v0 v4) (M 200 v2)) (A v3 (M 200 v3)) rfl (u4 B.symm) F
def MB{d e:Nat}:a<c\/a=c/\d=e->c+1=b->a<b:=λh e=>e▸h.elim (λz=>M7 z) λz=>z.1▸K6 _
def MC{d:Nat}:a+b<=c+d->a+b<=c+(d+1):=az [a,b,c,d] (A v0 v1) (A v2 (S v3)) (A v0 v1) (A v2 v3) rfl
def MD{d:Nat}:a+b<=c+d->a+1+b<=c+(d+1):=az [a,b,c,d] (A (S v0) v1) (A v2 (S v3)) (A v0 v1) (A v2 v3) rfl
def MF:¬a=b->¬a<b->1<=a-b:=λF G=>(K4 F).elim (λB=>aA [a,b,(a-b)] (N 1) v2 v1 v0 (S v0) v1 rfl (C4 G) B) (λB=>aA [a,b,(a-b)] (N 1) v2 v0 (A v2 v1) (S v1) v0 rfl (bN a b) B)
def MG:¬b=a->¬a=b:=λF=>(K4 F).elim (λB=>λq0=>bG [a,b] (S v1) v0 v0 v1 rfl B (u4 q0)) (λB=>λq0=>bG [a,b] (S v0) v1 v1 v0 rfl B (u4 q0.symm))
def MH:a<60->a+1<=60:=az [a] (S v0) (N 60) (S v0) (N 60) rfl
def MI:a<c->¬b<c->a<b:=λB F=>aA [a,b,c] (S v0) v1 (S v0) v2 v2 v1 rfl B (C4 F)
def MJ:b=a->a<=b:=λB=>az [a,b] v0 v1 v0 v1 rfl (u4 B.symm)
def MK:a<c->c<b+1->¬a=b:=λB F=>λq0=>fu [a,b,c] (S v0) v2 (S v2) (S v1) v1 v0 rfl B F (u4 q0.symm)
def ML:a-c=0->c=b->¬a<b->a=b:=λB F G=>C8 (bu [a,b,c,(a-c)] v0 v1 v3 (N 0) v2 v1 v0 (A v3 v2) rfl (u4 B) (u4 F) (bN a c)) (az [a,b,c,(a-c)] v1 v0 v1 v0 rfl (C4 G))
def MM:a<c->¬b<c->¬a=b:=λB F=>λq0=>fu [a,b,c] (S v0) v2 v2 v1 v1 v0 rfl B (C4 F) (u4 q0.symm)
def MN:b=c->a<c->a≠b:=λB F=>λq0=>fu [a,b,c] v2 v1 (S v0) v2 v1 v0 rfl (u4 B.symm) F (u4 q0.symm)
def MO:a<=2*b->a<=2*(b+1):=az [a,b] v0 (M 2 (S v1)) v0 (M 2 v1) rfl
def MQ{d:Nat}:a+b+200*c<=d+200*d->a+b+200*(c+1)<=d+1+200*(d+1):=az [a,b,c,d] (A (A v0 v1) (M 200 (S v2))) (A (S v3) (M 200 (S v3))) (A (A v0 v1) (M 200 v2)) (A v3 (M 200 v3)) rfl
def MR{d:Nat}:a+b<=c+d->a+(b+1)<=c+1+d:=az [a,b,c,d] (A v0 (S v1)) (A (S v2) v3) (A v0 v1) (A v2 v3) rfl
def Fq:a+b<=c->a+(b+1)<=c+1:=az [a,b,c] (A v0 (S v1)) (S v2) (A v0 v1) v2 rfl
def MT:a+(b+1)=a+b+1:=C8 (fD [a,b] (A v0 (S v1)) (S (A v0 v1))  rfl ) (fD [a,b] (S (A v0 v1)) (A v0 (S v1))  rfl )
def MV{d:Nat}:a+b+200*c<=d+200*d->a+b+1+200*(c+1)<=d+1+200*(d+1):=az [a,b,c,d] (A (S (A v0 v1)) (M 200 (S v2))) (A (S v3) (M 200 (S v3))) (A (A v0 v1) (M 200 v2)) (A v3 (M 200 v3)) rfl
def Fs:a<b->b=0->False:=λB F=>bG [a,b] (S v0) v1 v1 (N 0) rfl B (u4 F)
def MW:(0:Nat)<a->(↑a:Int)≠(0:Int):=λh e=>RM h (Ra e)
def Ft:(0:Nat)<a->(0:Int)<(↑a:Int):=Int.natCast_pos.mpr
theorem MX{a:Int}:(0:Int)<=a->a<(↑b:Int)->a.toNat<b:=λh q=>L0.mp (by rw[Int.toNat_of_nonneg h];exact q)
def MY{a:Int}:(0:Int)<=a->a=(↑a.toNat:Int):=λh=>(Int.toNat_of_nonneg h).symm
def MZ:c=b->c<=a->a<=b->a=b:=λB F G=>C8 (az [a,b,c] v0 v1 v0 v1 rfl G) (aA [a,b,c] v1 v0 v1 v2 v2 v0 rfl (u4 B.symm) F)
def Na:a<=0->max 0 a+1<=8:=λF=>(F9 0 a).elim (λB=>aA [a,(max 0 a)] (S v1) (N 8) v0 (N 0) v1 v0 rfl F (u4 (N7 B))) (λB=>az [a,(max 0 a)] (S v1) (N 8) v1 (N 0) rfl (u4 (N5 B)))
def Fu:a<b->b<=0->False:=λB F=>bG [a,b] (S v0) v1 v1 (N 0) rfl B F
def Fv:c<=b+1->a<c->a<=b:=λB F=>aA [a,b,c] v0 v1 v2 (S v1) (S v0) v2 rfl B F
def Fw:a+1<=5->a<=5:=λB=>az [a] v0 (N 5) (S v0) (N 5) rfl B
def Nb{d e:Nat}:a<=d->b<=e->e<=c->d<=c->a+b<=c*2:=λB F G J=>bu [a,b,c,d,e] (A v0 v1) (R v2 2) v0 v3 v1 v4 (A v4 v3) (A v2 v2) rfl B F (fE [a,b,c,d,e] v4 v2 v3 v2 G J)
def Nc:a<min b c->a<b:=λB=>aA [a,b,c,(min b c)] (S v0) v1 (S v0) v3 v3 v1 rfl B (O8 b c)
def Nf:b<=1000->min a b<=16777216:=λB=>aA [a,b,(min a b)] v2 (N 16777216) v1 (N 1000) v2 v1 rfl B (Q7 a b)
theorem Ng:b<=(2:Nat)^20->a<b->(↑a:Int)<(2:Int)^63-(1:Int):=by omega
theorem Nh :20<=200:=by decide
def Ni{d:Nat}:c<=8->a+20<d->a+1+min b c<d:=λB F=>bu [a,b,c,d,(min b c)] (S (A (S v0) v4)) v3 v2 (N 8) (S (A v0 (N 20))) v3 v4 v2 rfl B F (Q7 b c)
def Nj:a≠b->min a b<max a b:=λF=>(K4 F).elim (λB=>bu [a,b,(min a b),(max a b)] (S v2) v3 v2 v0 v1 v3 (S v0) v1 rfl (O8 a b) (L9 a b) B) (λB=>bu [a,b,(min a b),(max a b)] (S v2) v3 v2 v1 v0 v3 (S v1) v0 rfl (Q7 a b) (L3 a b) B)
def Nk:c=max a b->min a b<=c:=λB=>bu [a,b,c,(max a b),(min a b)] v4 v2 v3 v2 v1 v3 v4 v1 rfl (u4 B.symm) (L9 a b) (Q7 a b)
def Nl:a<c+1->c<b->a<b:=λB F=>aA [a,b,c] (S v0) v1 (S v0) (S v2) (S v2) v1 rfl B F
def Nm:a<=100->a+1<=2^20:=λB=>az [a] (S v0) (N 1048576) v0 (N 100) rfl B
def Nn:a<=100->a+1<=1000:=λB=>az [a] (S v0) (N 1000) v0 (N 100) rfl B
def Np{d:Nat}:b+(c+1)=d->a+d<=2^18->a+b<2^20:=λB F=>aA [a,b,c,d] (S (A v0 v1)) (N 1048576) (A v1 (S v2)) v3 (A v0 v3) (N 262144) rfl (u4 B) F
def Nq{d:Nat}:a+b+200*c<=d+200*d->d<=60->b<2^20:=λB F=>aA [a,b,c,d] (S v1) (N 1048576) (A (A v0 v1) (M 200 v2)) (A v3 (M 200 v3)) (M 201 v3) (M 201 (N 60)) rfl B (da [a,b,c,d] 201 v3 (N 60) F)
theorem OH{a:Int}:(0:Int)<a->a<(1000:Int)->a.natAbs<(1073741824:Nat):=by omega
end
variable{a b c i k m j ep:Nat}{s s' s₀:Shared}{h h':Heap}{env:Env}{α β:Type}{E:a9}{w:World}{prog:Program}{x:String}{cv ck:Value}{es:Array (Int×Value)}{P:List (Nat×Nat)}{p xs:Array Nat}{na ca wa ha I it dx wk wd y:Addr}{cs:List Int}{pos ip:Pos}{tgt:Expr}{X':Addr->Prop}{o:Obj}{θ:String->Nat}{sc:Scope}{cvs:List Value}{gens:List Comprehension}{id:Str}{M:Model}
set_option compiler.extract_closed false in
local macro_rules
 | `(tactic| rewrite [$e:term,$r,*])=>`(tactic| (rewrite [$e:term]; rewrite [$r,*]))
 | `(tactic| rewrite [$e:term])=>`(tactic| first | with_reducible_and_instances refine Mine.rl ($e ..) ?_ | fail)
section
set_option genInjectivity true
theorem kb{a:α}{p:Prop}(h:none=some a):p:=ns h
inductive V where
 |none|scr|bool (b:Bool)|int (i:Int)|str (s:String)|tup (vs:List V)|ref (a:Addr)
end
variable{vs us ps:List V}{kvs:List (V×V)}{rs:V}
section
set_option genCtorIdx false
set_option genCtorIdx true in
inductive BOp where|add|sub|mul|fdiv|mod
set_option genCtorIdx true in
inductive COp where|eq|ne|lt|le|gt|ge|is|isin|notin
set_option genCtorIdx true in
inductive Prim where|len|sum|max|int|tuple|listItems|dict|sorted|sortedItems|sortedSet
mutual
inductive Tgt where
 |nm (x:String)
 |tp (ts:Tgts)
inductive Tgts where
 |nil
 |cons (t:Tgt) (ts:Tgts)
end
noncomputable abbrev Tgt.tp2(a b:Tgt):Tgt:=.tp (.cons a (.cons b .nil))
mutual
inductive ME where
 |cst (v:V)
 |neg (i:Int)
 |var (x:String)
 |tup (es:MEs)
 |lst (es:MEs)
 |dct (ks vs:MEs)
 |bin (op:BOp) (a b:ME)
 |cmp1 (op:COp) (a b:ME)
 |cmp2 (a:ME) (op1:COp) (b:ME) (op2:COp) (c:ME)
 |and2 (a b:ME)
 |or2 (a b:ME)
 |not1 (a:ME)
 |ite (c a b:ME)
 |idx (a i:ME)
 |slc (a:ME) (lo hi:Option Nat)
 |attr (a:ME) (f:String)
 |comp (elt:ME) (g:Gens)
 |call (f:String) (args:MEs)
 |new (c:String) (args:MEs)
 |meth (o:ME) (m:String) (args:MEs)
 |prim (p:Prim) (a:ME)
inductive MEs where
 |nil
 |cons (e:ME) (r:MEs)
inductive Gens where
 |one (t:Tgt) (it:MIt) (c:Option ME)
 |more (t:Tgt) (it:MIt) (r:Gens)
inductive MIt where
 |exp (e:ME)
 |rng (e:ME)
 |zip (a b:ME)
 |enum (a:ME)
end
inductive ATgt where
 |tg (t:Tgt)
 |at(o:ME) (f:String)
 |ix (o i:ME)
inductive MS where
 |expr (e:ME)
 |asg (t:ATgt) (e:ME)
 |ret (e:ME)
 |if1 (c:ME) (a b:List MS)
 |whl (c:ME) (b:List MS)
 |for1 (t:Tgt) (it:MIt) (b:List MS)
 |rais
structure bn where
 params:List String
 body:List MS
end
variable{rest:List MS}{args:MEs}
section
set_option genCtorIdx false
mutual
noncomputable def dU:Tgt->List String
 | .nm x=>[x]
 | .tp ts=>sv ts
noncomputable def sv:Tgts->List String
 | .nil=>[]
 | .cons t ts=>dU t++sv ts
end
noncomputable def fk:Gens->List String
 | .one t _ _=>dU t
 | .more t _ r=>dU t++fk r
end
section
set_option tactic.hygienic true
noncomputable def cj:List (String×Value):=[("len",.builtin "len"),("sum",.builtin "sum"),("max",.builtin "max"),("abs",.builtin "abs"),("int",.type "int"),("str",.type "str"),("tuple",.type "tuple"),("list",.type "list"),
 ("dict",.type "dict"),("sorted",.builtin "sorted"),("range",.type "range"),("set",.type "set"),("zip",.type "zip"),("enumerate",.type "enumerate")]
noncomputable def Qg:BOp->Operator
 | .add=>.Add | .sub=>.Sub | .mul=>.Mult | .fdiv=>.FloorDiv | .mod=>.Mod
noncomputable def Ip:COp->CmpOp
 | .eq=>.Eq | .ne=>.NotEq | .lt=>.Lt | .le=>.LtE | .gt=>.Gt | .ge=>.GtE | .is=>.Is | .isin=>.In | .notin=>.NotIn
end
noncomputable abbrev bj:=List (Str×NameKind)
noncomputable def Oe(nm:bj)(x:String):Bool:=match nm.lookup (Str.ofString x)with
 |some .local=>true
 |some .cell=>true
 |some .free=>true
 |_=>false
noncomputable def IA(nm:bj)(x:Str):Bool:=nm.lookup x==some .globalImplicit
noncomputable def iP(x:Str):Bool:=!(x==("__debug__":Str))&&!(x==("__classdict__":Str))
section
variable{A:Around}{d:Nat}
noncomputable def IB(c:Bool)(nm:bj)(x:String):Bool:=nm.lookup (Str.ofString x)==some .local||(c&&nm.lookup (Str.ofString x)==some .cell)
end
variable{nm:bj}
noncomputable def dS(e:Expr)(k:Str->Bool):Bool:=if h:e.ctorIdx=23 then Expr.Name.elim (motive_1:=λ_=>Bool) e h λid _=>k id else false
noncomputable def gX(e:Expr)(k:(List Expr)->Bool):Bool:=if h:e.ctorIdx=25 then Expr.Tuple.elim (motive_1:=λ_=>Bool) e h λes _ _=>k es else false
noncomputable def gV(e:Expr)(k:Const->Bool):Bool:=if h:e.ctorIdx=19 then Expr.Constant.elim (motive_1:=λ_=>Bool) e h λc _ _=>k c else false
noncomputable def lI(e:Expr)(k:UnaryOp->Expr->Bool):Bool:=if h:e.ctorIdx=3 then Expr.UnaryOp.elim (motive_1:=λ_=>Bool) e h λo x _=>k o x else false
noncomputable def Bi(e:Expr)(k:(List Expr)->Bool):Bool:=if h:e.ctorIdx=24 then Expr.List.elim (motive_1:=λ_=>Bool) e h λes _=>k es else false
noncomputable def Bh(e:Expr)(k:(List (Option Expr))->(List Expr)->Bool):Bool:=if h:e.ctorIdx=6 then Expr.Dict.elim (motive_1:=λ_=>Bool) e h λks vs _=>k ks vs else false
noncomputable def xu(e:Expr)(k:Expr->Operator->Expr->Bool):Bool:=if h:e.ctorIdx=2 then Expr.BinOp.elim (motive_1:=λ_=>Bool) e h λl o r _=>k l o r else false
noncomputable def lG(e:Expr)(k:Expr->(List CmpOp)->(List Expr)->Bool):Bool:=if h:e.ctorIdx=15 then Expr.Compare.elim (motive_1:=λ_=>Bool) e h λl os rs _=>k l os rs else false
noncomputable def oK(e:Expr)(k:BoolOp->(List Expr)->Bool):Bool:=if h:e.ctorIdx=0 then Expr.BoolOp.elim (motive_1:=λ_=>Bool) e h λo xs _=>k o xs else false
noncomputable def xy(e:Expr)(k:Expr->Expr->Expr->Bool):Bool:=if h:e.ctorIdx=5 then Expr.IfExp.elim (motive_1:=λ_=>Bool) e h λt x y _=>k t x y else false
noncomputable def fO(e:Expr)(k:Expr->Expr->Bool):Bool:=if h:e.ctorIdx=21 then Expr.Subscript.elim (motive_1:=λ_=>Bool) e h λo i _=>k o i else false
noncomputable def xA(e:Expr)(k:(Option Expr)->(Option Expr)->(Option Expr)->Bool):Bool:=if h:e.ctorIdx=26 then Expr.Slice.elim (motive_1:=λ_=>Bool) e h λl u st _=>k l u st else false
noncomputable def fN(e:Expr)(k:Expr->Str->Pos->Bool):Bool:=if h:e.ctorIdx=20 then Expr.Attribute.elim (motive_1:=λ_=>Bool) e h λo n p=>k o n p else false
noncomputable def oM(e:Expr)(k:Expr->(List Comprehension)->Scope->Bool):Bool:=if h:e.ctorIdx=8 then Expr.ListComp.elim (motive_1:=λ_=>Bool) e h λx gs sc _=>k x gs sc else false
noncomputable def iQ(e:Expr)(k:Expr->(List Expr)->(List Keyword)->Pos->Bool):Bool:=if h:e.ctorIdx=16 then Expr.Call.elim (motive_1:=λ_=>Bool) e h λf as ks p=>k f as ks p else false
noncomputable def xz(e:Stmt)(k:Expr->Bool):Bool:=if h:e.ctorIdx=24 then Stmt.Expr.elim (motive_2:=λ_=>Bool) e h λe _=>k e else false
noncomputable def jn(e:Stmt)(k:(List Expr)->Expr->Bool):Bool:=if h:e.ctorIdx=5 then Stmt.Assign.elim (motive_2:=λ_=>Bool) e h λts e _=>k ts e else false
noncomputable def qJ(e:Stmt)(k:(Option Expr)->Bool):Bool:=if h:e.ctorIdx=3 then Stmt.Return.elim (motive_2:=λ_=>Bool) e h λe _=>k e else false
noncomputable def Fx(e:Stmt)(k:Expr->(List Stmt)->(List Stmt)->Bool):Bool:=if h:e.ctorIdx=12 then Stmt.If.elim (motive_2:=λ_=>Bool) e h λt a b _=>k t a b else false
noncomputable def ub(e:Stmt)(k:Expr->(List Stmt)->(List Stmt)->Bool):Bool:=if h:e.ctorIdx=11 then Stmt.While.elim (motive_2:=λ_=>Bool) e h λt a b _=>k t a b else false
noncomputable def Bj(e:Stmt)(k:Expr->Expr->(List Stmt)->(List Stmt)->Bool):Bool:=if h:e.ctorIdx=9 then Stmt.For.elim (motive_2:=λ_=>Bool) e h λt i a b _=>k t i a b else false
noncomputable def zw(l:List α)(k:α->Bool):Bool:=match l with | [a]=>k a|_=>false
noncomputable def Gz(l:List α)(k:α->α->Bool):Bool:=match l with | []=>false|a::l=>zw l (k a)
mutual
noncomputable def fC(cl:Bool)(nm:bj):Tgt->Expr->Bool
 | .nm x,e=>dS e λid=>id==Str.ofString x&&IB cl nm x
 | .tp ts,e=>gX e λes=>nP cl nm ts es
noncomputable def nP(cl:Bool)(nm:bj):Tgts->List Expr->Bool
 | .nil,es=>es.isEmpty
 | .cons t ts,es=>match es with | []=>false|e::es=>fC cl nm t e&&nP cl nm ts es
end
noncomputable def Oq:V->Const->Bool
 | .none,.none=>true
 | .bool b,.bool c=>b==c
 | .int i,.int j=>i==j
 | .str s,.str t=>Str.ofString s==t
 |_,_=>false
noncomputable def ul:Prim->String
 | .len=>"len" | .sum=>"sum" | .max=>"max" | .int=>"int" | .tuple=>"tuple" | .listItems=>"list" | .dict=>"dict" | .sorted=>"sorted" | .sortedItems=>"sorted" | .sortedSet=>"sorted"
noncomputable def dN(nm:bj)(x:String)(id:Str):Bool:=id==Str.ofString x&&IA nm id&&iP id
noncomputable def Ij(nm:bj)(x:String)(id:Str):Bool:=id==Str.ofString x&&Oe nm x&&iP id
noncomputable def cQ(e:Expr):Bool:=!(iQ e λg as ks _=>dS g λ_=>as.isEmpty&&ks.isEmpty)
noncomputable def my(e:Expr):Bool:=e.ctorIdx != 7
noncomputable def FQ(n:Option Nat)(e:Option Expr):Bool:=match n,e with
 |none,none=>true
 |some n,some e=>gV e λc=>match c with | .int i=>i==(n:Int)|_=>false
 |_,_=>false
noncomputable def jW(nm:bj)(f:String)(e:Expr):Option Expr:=if h:e.ctorIdx=16 then Expr.Call.elim (motive_1:=λ_=>Option Expr) e h λg as ks _=>match as,dS g (λid=>ks.isEmpty&&dN nm f id)with | [x],true=>some x|_,_=>none else none
noncomputable def vy(m:String)(e:Expr):Option Expr:=if h:e.ctorIdx=16 then Expr.Call.elim (motive_1:=λ_=>Option Expr) e h λg as ks p=>match as,ks with
 | [],[]=>if h:g.ctorIdx=20 then Expr.Attribute.elim (motive_1:=λ_=>Option Expr) g h λo n ap=>if(n==Str.ofString m&&(cQ o&&(ap.endLine==p.line)))=true then some o else none else none
 |_,_=>none else none
noncomputable def rV(nm:bj):Prim->Expr->Option Expr
 | .listItems,x=>vy "items" x
 | .sortedItems,x=>vy "items" x
 | .sortedSet,x=>jW nm "set" x
 |_,x=>some x
noncomputable def eD(names outer:bj):bj:=names.map λ(n,k)=>if(k==.free&&outer.lookup n==some .cell)then(n,.cell)else(n,k)
noncomputable def nj(outer:bj)(sc:Scope)(xs:List String):Bool :=
 sc.names.all (λp=>p.2 != .local||(".0"::xs).any λx=>Str.ofString x==p.1) &&
 sc.kind==.function&&sc.names.all (λp=>p.2 != .cell)&&decide ((sc.names.map (·.1)).Nodup)&&sc.names.all (λp=>p.2 != .free||outer.lookup p.1==some .cell||outer.lookup p.1==some .free)
noncomputable def xO:ME->Bool
 | .cst (.str _)=>true
 | .var _=>true
 |_=>false
noncomputable def jc:MEs->Bool
 | .nil=>true
 | .cons e r=>xO e&&jc r
mutual
noncomputable def aX(nm:bj):ME->Expr->Bool
 | .cst v,e=>gV e λc=>Oq v c
 | .neg i,e=>lI e λo x=>decide (o=.USub)&&gV x λc=>match c with | .int j=>i==j|_=>false
 | .var x,e=>dS e λid=>Ij nm x id
 | .tup es,e=>gX e λxs=>du nm es xs&&decide (xs.length<=1000)
 | .lst es,e=>Bi e λxs=>du nm es xs&&decide (xs.length<=1000)
 | .dct ks vs,e=>Bh e λkeys B=>jc ks&&(wN nm ks keys&&(du nm vs B&&(decide (keys.length=B.length)&&decide (keys.length<=15))))
 | .bin op a b,e=>xu e λl o r=>decide (o=Qg op)&&(aX nm a l&&aX nm b r)
 | .cmp1 op a b,e=>lG e λl os rs=>zw os λo=>zw rs λr=>decide (o=Ip op)&&(aX nm a l&&aX nm b r)
 | .cmp2 a o1 b o2 c,e=>lG e λl os rs=>Gz os λF G=>Gz rs λJ O=>decide (F=Ip o1)&&(decide (G=Ip o2)&&(aX nm a l&&(aX nm b J&&aX nm c O)))
 | .and2 a b,e=>oK e λo xs=>Gz xs λx y=>decide (o=.And)&&(aX nm a x&&aX nm b y)
 | .or2 a b,e=>oK e λo xs=>Gz xs λx y=>decide (o=.Or)&&(aX nm a x&&aX nm b y)
 | .not1 a,e=>lI e λo x=>decide (o=.Not)&&aX nm a x
 | .ite c a b,e=>xy e λt x y=>aX nm c t&&(aX nm a x&&aX nm b y)
 | .idx a i,e=>fO e λo x=>aX nm a o&&aX nm i x
 | .slc a lo hi,e=>fO e λo x=>xA x λl u st=>st.isNone&&(aX nm a o&&(FQ lo l&&FQ hi u))
 | .attr a f,e=>fN e λo n _=>n==Str.ofString f&&(cQ o&&aX nm a o)
 | .comp elt g,e=>oM e λx gens sc=>nj nm sc (fk g)&&(aX (eD sc.names nm) elt x&&(kI nm (eD sc.names nm) true g gens&&decide (fk g).Nodup))
 | .call f args,e=>iQ e λg as ks _=>dS g λid=>ks.isEmpty&&(dN nm f id&&du nm args as)
 | .new c args,e=>iQ e λg as ks _=>dS g λid=>ks.isEmpty&&(dN nm c id&&du nm args as)
 | .meth o m args,e=>iQ e λg as ks p=>fN g λx n ap=>ks.isEmpty&&(n==Str.ofString m&&(cQ x&&(aX nm o x&&(du nm args as&&(decide (as.length<30)&&(ap.endLine==p.line))))))
 | .prim p a,e=>iQ e λg as ks _=>dS g λid=>zw as λx=>ks.isEmpty&&(dN nm (ul p) id&&(match rV nm p x with|some y=>aX nm a y|none=>false))
noncomputable def du(nm:bj):MEs->List Expr->Bool
 | .nil,xs=>xs.isEmpty
 | .cons e r,xs=>match xs with | []=>false|x::xs=>aX nm e x&&du nm r xs
noncomputable def wN(nm:bj):MEs->List (Option Expr)->Bool
 | .nil,xs=>xs.isEmpty
 | .cons e r,xs=>match xs with|some x::xs=>aX nm e x&&wN nm r xs|_=>false
noncomputable def kI(outer nm:bj)(first:Bool):Gens->List Comprehension->Bool
 | .one t it c,gs=>zw gs λg=>fC false nm t g.target&&(lX (if first then outer else nm) it g.iter&&(FR nm c g.ifs&&decide (g.is_async=0)))
 | .more t it r,gs=>match gs with | []=>false|g::gs=>fC false nm t g.target&&(lX (if first then outer else nm) it g.iter&&(g.ifs.isEmpty&&(decide (g.is_async=0)&&kI outer nm false r gs)))
noncomputable def FR(nm:bj):Option ME->List Expr->Bool
 |none,xs=>xs.isEmpty
 |some c,xs=>zw xs λx=>aX nm c x
noncomputable def lX(nm:bj):MIt->Expr->Bool
 | .exp e,x=>my x&&aX nm e x
 | .rng e,x=>match jW nm "range" x with|some y=>aX nm e y|none=>false
 |_,_=>false
end
noncomputable def BK(a b:Expr):Bool:=!(gX a λ_=>gX b λes=>es.all (constantsAlone 8))
noncomputable def Id(nm:bj)(o:ME)(f:String)(e:Expr):Bool:=fN e λy n _=>n==Str.ofString f&&aX nm o y
noncomputable def Ih(nm:bj)(o i:ME)(e:Expr):Bool:=fO e λy z=>aX nm o y&&aX nm i z
noncomputable def kL(it:MIt)(e:Expr):Bool:=match it with | .zip _ _=>gX e λ_=>true | .enum _=>gX e λ_=>true|_=>true
noncomputable def oF(e:Expr):Bool:=e.ctorIdx != 8&&(e.ctorIdx != 9&&e.ctorIdx != 10)
noncomputable def wM(nm:bj):MIt->Expr->Bool
 | .zip a b,e=>iQ e λg as ks _=>dS g λid=>Gz as λx y=>ks.isEmpty&&(dN nm "zip" id&&(aX nm a x&&aX nm b y))
 | .enum a,e=>iQ e λg as ks _=>dS g λid=>zw as λx=>ks.isEmpty&&(dN nm "enumerate" id&&aX nm a x)
 |it,x=>lX nm it x
mutual
noncomputable def Ik(nm:bj):MS->Stmt->Bool
 | .expr e,y=>xz y λx=>aX nm e x&&oF x
 | .asg (.tg t) e,y=>jn y λts x=>zw ts λy=>fC true nm t y&&(aX nm e x&&BK y x)
 | .asg (.at o f) e,y=>jn y λts x=>zw ts λy=>Id nm o f y&&aX nm e x
 | .asg (.ix o i) e,y=>jn y λts x=>zw ts λy=>Ih nm o i y&&aX nm e x
 | .ret e,y=>qJ y λx=>match x with|some x=>aX nm e x|none=>false
 | .if1 c a b,y=>Fx y λt ys B=>aX nm c t&&(jy nm a ys&&jy nm b B)
 | .whl c b,y=>ub y λt ys B=>B.isEmpty&&(aX nm c t&&jy nm b ys)
 | .for1 t it b,y=>Bj y λz x ys B=>B.isEmpty&&(fC true nm t z&&(wM nm it x&&(my x&&(kL it z&&jy nm b ys))))
 | .rais,y=>y.ctorIdx==16
noncomputable def jy(nm:bj):List MS->List Stmt->Bool
 | [],ys=>ys.isEmpty
 |x::xs,ys=>match ys with | []=>false|y::ys=>Ik nm x y&&jy nm xs ys
end
noncomputable abbrev c7:=ME.var "self"
noncomputable abbrev c8:=ME.var "world"
noncomputable abbrev c9:=ME.var "pattern"
noncomputable abbrev d5:=ME.cst (.int 0)
noncomputable abbrev d6:=ME.cst (.int 1)
noncomputable abbrev d7:=ME.var "feed"
noncomputable abbrev d8:=ME.var "node"
noncomputable abbrev d9:=ME.var "n"
noncomputable abbrev f7:=ME.cst (.str "homes")
noncomputable abbrev f8:=ME.cst (.bool false)
noncomputable abbrev f9:=ME.cst (.str "nodes")
noncomputable abbrev g7:=ME.var "op"
noncomputable abbrev g8:=ME.var "heap"
noncomputable abbrev g9:=ME.var "table"
noncomputable abbrev i6:=ME.cst (.str "turn")
noncomputable abbrev i7:=ME.var "a"
noncomputable abbrev i8:=ME.cst (.int 2)
noncomputable abbrev i9:=ME.var "kid"
noncomputable abbrev j0:=ME.var "c"
noncomputable abbrev j5:=ME.cst (.str "cells")
noncomputable abbrev j6:=ME.var "kids"
noncomputable abbrev j7:=ME.var "many"
noncomputable abbrev j8:=ME.cst (.int 4)
noncomputable abbrev j9:=ME.cst (.str "g")
noncomputable abbrev k6:=ME.var "lap"
noncomputable abbrev k7:=ME.var "kept"
noncomputable abbrev k8:=ME.var "gone"
noncomputable abbrev k9:=ME.var "found"
noncomputable abbrev l7:=ME.var "first"
noncomputable abbrev l8:=ME.var "pairs"
noncomputable abbrev l9:=ME.var "way"
noncomputable abbrev m5:=ME.cst (.bool true)
noncomputable abbrev m6:=ME.var "late"
noncomputable abbrev m7:=ME.var "b"
noncomputable abbrev m8:=ME.var "floors"
noncomputable abbrev m9:=ME.cst (.str "?")
noncomputable abbrev n5:=ME.cst (.str "f")
noncomputable abbrev n7:=ME.var "tables"
noncomputable abbrev n8:=ME.var "lot"
noncomputable abbrev o3:=ME.cst (.str "a")
noncomputable abbrev o6:=ME.cst (.str "b")
noncomputable abbrev o7:=ME.var "more"
noncomputable abbrev o8:=ME.cst (.int 3)
noncomputable abbrev o9:=ME.var "places"
noncomputable abbrev p0:=ME.var "other"
noncomputable abbrev p5:=ME.cst (.int 5040)
noncomputable abbrev p6:=ME.var "lots"
noncomputable abbrev p7:=ME.var "pair"
noncomputable abbrev p8:=ME.cst (.str "h")
noncomputable abbrev p9:=ME.var "numbers"
noncomputable abbrev q5:=ME.var "substs"
noncomputable abbrev q7:=ME.cst (.int 7)
noncomputable abbrev q8:=ME.var "script"
noncomputable abbrev q9:=ME.var "t"
noncomputable def xm:bn:=⟨["text"],[.ret (.and2 (.cmp1 .ne (.var "text") (.cst (.str ""))) (.cmp1 .eq (.comp (.var "sign") (.one (.nm "sign") (.exp (.var "text")) (some (.or2 (.meth (.var "sign") "isspace" .nil) (.cmp1 .isin (.var "sign") (.cst (.str "()[]{},:"))))))) (.lst .nil)))]⟩
noncomputable def jH:bn:=⟨["t"],[.ret (.and2 (.cmp1 .eq (.prim .len q9) d6) (.cmp1 .eq (.slc (.idx q9 d5) none (some 1)) m9))]⟩
noncomputable def me:bn:=⟨["self"],[.asg (.at c7 "nodes") (.lst .nil),.asg (.at c7 "numbers") (.dct .nil .nil),.asg (.at c7 "weights") (.lst .nil),.asg (.at c7 "depths") (.lst .nil)]⟩
noncomputable def mh:bn:=⟨["self"],[.ret (.prim .len (.attr c7 "nodes"))]⟩
noncomputable def ml:bn:=⟨["self","op","kids"],[.asg (.tg (.nm "node")) (.bin .add (.tup (.cons g7 .nil)) (.prim .tuple j6)),.if1 (.cmp1 .isin d8 (.attr c7 "numbers")) [.ret (.idx (.attr c7 "numbers") d8)] [],.expr (.meth c7 "require" (.cons g7 .nil)),.for1 (.nm "kid") (.exp (.slc d8 (some 1) none)) [.if1 (.not1 (.cmp2 d5 .le i9 .lt (.prim .len (.attr c7 "nodes")))) [.rais] []],.asg (.ix (.attr c7 "numbers") d8) (.prim .len (.attr c7 "nodes")),.expr (.meth (.attr c7 "nodes") "append" (.cons d8 .nil)),.expr (.meth (.attr c7 "weights") "append" (.cons (.bin .add d6 (.prim .sum (.comp (.idx (.attr c7 "weights") i9) (.one (.nm "kid") (.exp (.slc d8 (some 1) none)) none)))) .nil)),.expr (.meth (.attr c7 "depths") "append" (.cons (.bin .add d6 (.prim .max (.bin .add (.comp (.idx (.attr c7 "depths") i9) (.one (.nm "kid") (.exp (.slc d8 (some 1) none)) none)) (.lst (.cons d5 .nil))))) .nil)),.ret (.bin .sub (.prim .len (.attr c7 "nodes")) d6)]⟩
noncomputable def iI:bn:=⟨["self","op"],[.if1 (.or2 (.not1 (.call "is_op" (.cons g7 .nil))) (.cmp1 .eq (.idx g7 d5) m9)) [.rais] []]⟩
noncomputable def qC:bn:=⟨["self","n"],[.ret (.idx (.idx (.attr c7 "nodes") d9) d5)]⟩
noncomputable def mf:bn:=⟨["self","n"],[.ret (.slc (.idx (.attr c7 "nodes") d9) (some 1) none)]⟩
noncomputable def jG:bn:=⟨["self","heap"],[.asg (.at c7 "heap") g8]⟩
noncomputable def fK:bn:=⟨["self","table","c","pattern"],[.asg (.tg (.nm "op")) (.idx c9 d5),.if1 (.call "is_variable" (.cons c9 .nil)) [.asg (.tg (.nm "late")) (.prim .dict g9),.asg (.ix m6 g7) j0,.ret (.ite (.cmp1 .eq (.meth g9 "get" (.cons g7 (.cons j0 .nil))) j0) (.lst (.cons m6 .nil)) (.lst .nil))] [],.asg (.tg (.nm "found")) (.lst .nil),.for1 (.nm "node") (.exp (.meth (.attr c7 "heap") "nodes_of" (.cons j0 .nil))) [.if1 (.and2 (.cmp1 .eq (.idx d8 d5) g7) (.cmp1 .eq (.prim .len d8) (.prim .len c9))) [.asg (.tg (.nm "tables")) (.lst (.cons g9 .nil)),.for1 (.tp2 (.nm "kid") (.nm "part")) (.zip (.slc d8 (some 1) none) (.slc c9 (some 1) none)) [.asg (.tg (.nm "tables")) (.comp m6 (.more (.nm "one") (.exp n7) (.one (.nm "late") (.exp (.meth c7 "extended" (.cons (.var "one") (.cons i9 (.cons (.var "part") .nil))))) none)))],.expr (.meth k9 "extend" (.cons n7 .nil))] []],.ret k9]⟩
noncomputable def fL:bn:=⟨["self","c","pattern"],[.asg (.tg (.nm "substs")) (.dct .nil .nil),.for1 (.nm "table") (.exp (.meth c7 "extended" (.cons (.dct .nil .nil) (.cons (.meth (.attr c7 "heap") "find" (.cons j0 .nil)) (.cons c9 .nil))))) [.asg (.ix q5 (.prim .tuple (.prim .sortedItems g9))) m5],.ret (.prim .sorted q5)]⟩
noncomputable def iN:bn:=⟨["self","pattern"],[.ret (.comp (.tup (.cons j0 (.cons (.var "subst") .nil))) (.more (.nm "c") (.exp (.meth (.attr c7 "heap") "classes" .nil)) (.one (.nm "subst") (.exp (.meth c7 "found_in" (.cons j0 (.cons c9 .nil)))) none)))]⟩
noncomputable def jD:bn:=⟨["self"],[.asg (.at c7 "above") (.lst .nil),.asg (.at c7 "lots") (.lst .nil),.asg (.at c7 "merged") (.lst .nil)]⟩
noncomputable def jE:bn:=⟨["self"],[.expr (.meth (.attr c7 "above") "append" (.cons (.prim .len (.attr c7 "above")) .nil)),.expr (.meth (.attr c7 "lots") "append" (.cons (.lst (.cons (.prim .len (.attr c7 "lots")) .nil)) .nil)),.ret (.bin .sub (.prim .len (.attr c7 "above")) d6)]⟩
noncomputable def jF:bn:=⟨["self"],[.ret (.prim .len (.attr c7 "above"))]⟩
noncomputable def jC:bn:=⟨["self","a"],[.whl (.cmp1 .ne (.idx (.attr c7 "above") i7) i7) [.asg (.tg (.nm "a")) (.idx (.attr c7 "above") i7)],.ret i7]⟩
noncomputable def iM:bn:=⟨["self","a","b"],[.asg (.tg (.tp2 (.nm "kept") (.nm "gone"))) (.prim .sorted (.lst (.cons (.meth c7 "find" (.cons i7 .nil)) (.cons (.meth c7 "find" (.cons m7 .nil)) .nil)))),.if1 (.cmp1 .eq k7 k8) [.ret (.cst .none)] [],.asg (.ix (.attr c7 "above") k8) k7,.expr (.meth (.idx (.attr c7 "lots") k7) "extend" (.cons (.idx (.attr c7 "lots") k8) .nil)),.expr (.meth (.attr c7 "merged") "append" (.cons (.tup (.cons k7 (.cons k8 .nil))) .nil)),.ret (.tup (.cons k7 (.cons k8 .nil)))]⟩
noncomputable def gx:bn:=⟨["self","a"],[.ret (.prim .sorted (.idx (.attr c7 "lots") (.meth c7 "find" (.cons i7 .nil))))]⟩
noncomputable def gw:bn:=⟨["self"],[.ret (.comp i7 (.one (.nm "a") (.rng (.prim .len (.attr c7 "above"))) (some (.cmp1 .eq (.idx (.attr c7 "above") i7) i7))))]⟩
noncomputable def mo:bn:=⟨["self"],[.asg (.at c7 "bank") (.new "Bank" .nil),.asg (.at c7 "unions") (.new "Unions" .nil),.asg (.at c7 "edges") (.lst .nil),.asg (.at c7 "forest") (.lst .nil),.asg (.at c7 "known") (.dct .nil .nil),.asg (.at c7 "above") (.dct .nil .nil),.asg (.at c7 "waiting") (.lst .nil)]⟩
noncomputable def mu:bn:=⟨["self"],[.ret (.meth (.attr c7 "bank") "size" .nil)]⟩
noncomputable def mr:bn:=⟨["self","n"],[.ret (.bin .add (.tup (.cons (.meth (.attr c7 "bank") "op" (.cons d9 .nil)) .nil)) (.prim .tuple (.comp (.meth c7 "find" (.cons i9 .nil)) (.one (.nm "kid") (.exp (.meth (.attr c7 "bank") "kids" (.cons d9 .nil))) none))))]⟩
noncomputable def oA:bn:=⟨["self","op","numbers"],[.asg (.tg (.nm "n")) (.meth (.attr c7 "bank") "take" (.cons g7 (.cons p9 .nil))),.if1 (.cmp1 .lt d9 (.meth (.attr c7 "unions") "size" .nil)) [.ret d9] [],.expr (.meth (.attr c7 "unions") "make" .nil),.asg (.ix (.attr c7 "above") d9) (.lst .nil),.for1 (.nm "c") (.exp (.prim .sortedSet (.comp (.meth c7 "find" (.cons i9 .nil)) (.one (.nm "kid") (.exp p9) none)))) [.expr (.meth (.idx (.attr c7 "above") j0) "append" (.cons d9 .nil))],.expr (.meth c7 "look_at" (.cons d9 .nil)),.ret d9]⟩
noncomputable def iK:bn:=⟨["self","n"],[.asg (.tg (.nm "other")) (.meth (.attr c7 "known") "setdefault" (.cons (.meth c7 "node" (.cons d9 .nil)) (.cons d9 .nil))),.if1 (.cmp1 .ne (.meth c7 "find" (.cons p0 .nil)) (.meth c7 "find" (.cons d9 .nil))) [.expr (.meth c7 "join" (.cons p0 (.cons d9 (.cons (.tup (.cons (.cst (.str "like")) .nil)) .nil))))] []]⟩
noncomputable def mm:bn:=⟨["self","n"],[.ret (.meth (.attr c7 "unions") "find" (.cons d9 .nil))]⟩
noncomputable def kO:bn:=⟨["self","a","b","reason"],[.ret (.meth c7 "join" (.cons i7 (.cons m7 (.cons (.var "reason") .nil))))]⟩
noncomputable def mq:bn:=⟨["self","a","b","reason"],[.expr (.meth (.attr c7 "edges") "append" (.cons (.tup (.cons i7 (.cons m7 (.cons (.var "reason") .nil)))) .nil)),.asg (.tg (.nm "merged")) (.meth (.attr c7 "unions") "merge" (.cons i7 (.cons m7 .nil))),.if1 (.cmp1 .is (.var "merged") (.cst .none)) [.ret f8] [],.asg (.tg (.tp2 (.nm "kept") (.nm "gone"))) (.var "merged"),.expr (.meth (.attr c7 "forest") "append" (.cons (.bin .sub (.prim .len (.attr c7 "edges")) d6) .nil)),.expr (.meth (.attr c7 "waiting") "extend" (.cons (.idx (.attr c7 "above") k8) .nil)),.asg (.ix (.attr c7 "above") k7) (.bin .add (.idx (.attr c7 "above") k7) (.meth (.attr c7 "above") "pop" (.cons k8 .nil))),.ret m5]⟩
noncomputable def jB:bn:=⟨["self"],[.whl (.cmp1 .gt (.prim .len (.attr c7 "waiting")) d5) [.expr (.meth c7 "look_at" (.cons (.meth (.attr c7 "waiting") "pop" .nil) .nil))]]⟩
noncomputable def iJ:bn:=⟨["self"],[.ret (.meth (.attr c7 "unions") "classes" .nil)]⟩
noncomputable def iL:bn:=⟨["self","c"],[.ret (.meth (.attr c7 "unions") "members" (.cons j0 .nil))]⟩
noncomputable def ii:bn:=⟨["self","c"],[.ret (.prim .sortedSet (.comp (.meth c7 "node" (.cons d9 .nil)) (.one (.nm "n") (.exp (.meth c7 "members" (.cons j0 .nil))) none)))]⟩
noncomputable def oB:bn:=⟨["feed","wide"],[.asg (.ix d7 i6) (.bin .add (.idx d7 i6) d6),.if1 (.cmp1 .le (.idx d7 i6) (.prim .len (.idx d7 j5))) [.ret (.bin .mod (.idx (.idx d7 j5) (.bin .sub (.idx d7 i6) d6)) (.var "wide"))] [],.ret (.bin .mod (.bin .add (.bin .add (.bin .mul q7 (.idx d7 i6)) (.bin .fdiv (.bin .mul (.idx d7 i6) (.idx d7 i6)) (.cst (.int 5)))) j8) (.var "wide"))]⟩
noncomputable def mw:bn:=⟨["world"],[.asg (.tg (.nm "is_done")) f8,.whl (.not1 (.var "is_done")) [.asg (.tg (.tp2 (.nm "is_done") (.nm "table"))) (.tup (.cons m5 (.cons (.dct .nil .nil) .nil))),.for1 (.tp2 (.nm "n") (.tp2 (.nm "op") (.nm "kids"))) (.enum (.idx c8 f9)) [.asg (.tg (.nm "first")) (.meth g9 "setdefault" (.cons (.bin .add (.tup (.cons g7 .nil)) (.prim .tuple (.comp (.idx (.idx c8 f7) i9) (.one (.nm "kid") (.exp j6) none)))) (.cons d9 .nil))),.if1 (.cmp1 .ne (.idx (.idx c8 f7) l7) (.idx (.idx c8 f7) d9)) [.expr (.call "_law_one" (.cons c8 (.cons l7 (.cons d9 .nil)))),.asg (.tg (.nm "is_done")) f8] []]]]⟩
noncomputable def qE:bn:=⟨["world","a","b"],[.asg (.tg (.tp2 (.nm "low") (.nm "high"))) (.prim .sorted (.lst (.cons (.idx (.idx c8 f7) i7) (.cons (.idx (.idx c8 f7) m7) .nil)))),.asg (.ix c8 f7) (.comp (.ite (.cmp1 .eq (.var "home") (.var "high")) (.var "low") (.var "home")) (.one (.nm "home") (.exp (.idx c8 f7)) none))]⟩
noncomputable def qF:bn:=⟨["heap","world","op","kids"],[.asg (.tg (.nm "node")) (.tup (.cons g7 (.cons (.prim .tuple j6) .nil))),.if1 (.cmp1 .notin d8 (.idx c8 f9)) [.expr (.meth (.idx c8 f9) "append" (.cons d8 .nil)),.expr (.meth (.idx c8 f7) "append" (.cons (.prim .len (.idx c8 f7)) .nil))] [],.ret (.cmp1 .eq (.meth g8 "add" (.cons g7 (.cons j6 .nil))) (.meth (.idx c8 f9) "index" (.cons d8 .nil)))]⟩
noncomputable def jI:bn:=⟨["feed","floors","has_kids"],[.asg (.tg (.nm "way")) (.ite (.var "has_kids") (.bin .add j8 (.call "_law_draw" (.cons d7 (.cons o8 .nil)))) (.call "_law_draw" (.cons d7 (.cons (.ite (.cmp1 .gt m8 d6) (.cst (.int 8)) j8) .nil)))),.if1 (.cmp1 .lt l9 j8) [.ret (.tup (.cons (.idx (.tup (.cons (.cst (.str "?x")) (.cons (.cst (.str "?y")) (.cons o3 (.cons o6 .nil))))) l9) .nil))] [],.if1 (.cmp1 .lt l9 q7) [.asg (.tg (.tp2 (.nm "op") (.nm "many"))) (.idx (.tup (.cons (.tup (.cons n5 (.cons d6 .nil))) (.cons (.tup (.cons j9 (.cons i8 .nil))) (.cons (.tup (.cons j9 (.cons i8 .nil))) .nil)))) (.bin .sub l9 j8)),.ret (.bin .add (.tup (.cons g7 .nil)) (.prim .tuple (.comp (.call "_law_pattern" (.cons d7 (.cons (.bin .sub m8 d6) (.cons f8 .nil)))) (.one (.nm "lap") (.rng j7) none))))] [],.ret (.tup (.cons p8 (.cons (.call "_law_pattern" (.cons d7 (.cons (.bin .sub m8 d6) (.cons f8 .nil)))) .nil)))]⟩
noncomputable def mx:bn:=⟨["pattern"],[.if1 (.cmp1 .eq (.prim .len c9) d6) [.ret (.ite (.cmp1 .eq (.idx (.idx c9 d5) d5) m9) (.lst (.cons (.idx c9 d5) .nil)) (.lst .nil))] [],.asg (.tg (.nm "found")) (.lst .nil),.for1 (.nm "kid") (.exp (.slc c9 (some 1) none)) [.asg (.tg (.nm "found")) (.bin .add k9 (.call "_law_names" (.cons i9 .nil)))],.ret k9]⟩
noncomputable def oC:bn:=⟨["pattern","places","table"],[.if1 (.and2 (.cmp1 .eq (.prim .len c9) d6) (.cmp1 .isin (.idx c9 d5) o9)) [.ret (.idx o9 (.idx c9 d5))] [],.asg (.tg (.nm "kids")) (.comp (.call "_law_home" (.cons i9 (.cons o9 (.cons g9 .nil)))) (.one (.nm "kid") (.exp (.slc c9 (some 1) none)) none)),.ret (.ite (.cmp1 .isin (.neg 1) j6) (.neg 1) (.meth g9 "get" (.cons (.bin .add (.tup (.cons (.idx c9 d5) .nil)) (.prim .tuple j6)) (.cons (.neg 1) .nil))))]⟩
noncomputable def qD:bn:=⟨["pattern","world"],[.asg (.tg (.nm "table")) (.dct .nil .nil),.for1 (.tp2 (.nm "n") (.tp2 (.nm "op") (.nm "kids"))) (.enum (.idx c8 f9)) [.asg (.ix g9 (.bin .add (.tup (.cons g7 .nil)) (.prim .tuple (.comp (.idx (.idx c8 f7) i9) (.one (.nm "kid") (.exp j6) none))))) (.idx (.idx c8 f7) d9)],.asg (.tg (.nm "lots")) (.lst (.cons (.dct .nil .nil) .nil)),.for1 (.nm "name") (.exp (.prim .sortedSet (.call "_law_names" (.cons c9 .nil)))) [.asg (.tg (.nm "lots")) (.comp (.prim .dict (.bin .add (.prim .listItems n8) (.lst (.cons (.tup (.cons (.var "name") (.cons j0 .nil))) .nil)))) (.more (.nm "lot") (.exp p6) (.one (.nm "c") (.exp (.prim .sortedSet (.idx c8 f7))) none)))],.asg (.tg (.nm "found")) (.comp (.tup (.cons (.call "_law_home" (.cons c9 (.cons n8 (.cons g9 .nil)))) (.cons (.prim .tuple (.prim .sortedItems n8)) .nil))) (.one (.nm "lot") (.exp p6) none)),.ret (.prim .sorted (.comp p7 (.one (.nm "pair") (.exp k9) (some (.cmp1 .ge (.idx p7 d5) d5)))))]⟩
noncomputable def xo:bn:=⟨["script"],[.asg (.tg (.nm "feed")) (.dct (.cons j5 (.cons i6 .nil)) (.cons (.comp (.bin .mod (.prim .int (.var "cell")) p5) (.one (.nm "cell") (.exp (.slc q8 none (some 50))) none)) (.cons d5 .nil))),.asg (.tg (.tp2 (.nm "heap") (.nm "world"))) (.tup (.cons (.new "Heap" .nil) (.cons (.dct (.cons f9 (.cons f7 .nil)) (.cons (.lst .nil) (.cons (.lst .nil) .nil))) .nil))),.if1 (.or2 (.not1 (.call "_law_put" (.cons g8 (.cons c8 (.cons o3 (.cons (.lst .nil) .nil)))))) (.not1 (.call "_law_put" (.cons g8 (.cons c8 (.cons o6 (.cons (.lst .nil) .nil))))))) [.ret f8] [],.asg (.tg (.tp2 (.nm "more") (.nm "pairs"))) (.tup (.cons (.bin .add o8 (.call "_law_draw" (.cons d7 (.cons (.cst (.int 5)) .nil)))) (.cons (.bin .add d6 (.call "_law_draw" (.cons d7 (.cons j8 .nil)))) .nil))),.for1 (.nm "lap") (.rng o7) [.asg (.tg (.nm "many")) (.bin .add d6 (.call "_law_draw" (.cons d7 (.cons i8 .nil)))),.asg (.tg (.nm "kids")) (.comp (.call "_law_draw" (.cons d7 (.cons (.prim .len (.idx c8 f9)) .nil))) (.one (.nm "k") (.rng j7) none)),.if1 (.not1 (.call "_law_put" (.cons g8 (.cons c8 (.cons (.idx (.tup (.cons n5 (.cons j9 .nil))) (.bin .sub j7 d6)) (.cons j6 .nil)))))) [.ret f8] [],.for1 (.nm "turn") (.rng (.ite (.cmp1 .eq k6 d6) (.bin .fdiv l8 i8) (.ite (.cmp1 .eq k6 (.bin .sub o7 d6)) (.bin .sub l8 (.bin .fdiv l8 i8)) d5))) [.asg (.tg (.tp2 (.nm "a") (.nm "b"))) (.tup (.cons (.call "_law_draw" (.cons d7 (.cons (.prim .len (.idx c8 f9)) .nil))) (.cons (.call "_law_draw" (.cons d7 (.cons (.prim .len (.idx c8 f9)) .nil))) .nil))),.expr (.meth g8 "merge" (.cons i7 (.cons m7 (.cons (.tup (.cons (.cst (.str "told")) (.cons (.cst (.str "pair")) .nil))) .nil)))),.expr (.call "_law_one" (.cons c8 (.cons i7 (.cons m7 .nil))))]],.expr (.meth g8 "settle" .nil),.expr (.call "_law_close" (.cons c8 .nil)),.asg (.tg (.nm "walker")) (.new "Walker" (.cons g8 .nil)),.for1 (.nm "lap") (.rng i8) [.asg (.tg (.nm "pattern")) (.call "_law_pattern" (.cons d7 (.cons o8 (.cons (.cmp1 .eq k6 d5) .nil)))),.if1 (.or2 (.cmp1 .ne (.meth (.var "walker") "found" (.cons c9 .nil)) (.call "_law_due" (.cons c9 (.cons c8 .nil)))) (.cmp1 .ne (.meth g8 "size" .nil) (.prim .len (.idx c8 f9)))) [.ret f8] []],.ret m5]⟩
noncomputable def Iz:Data->Option FuncData
 | .func fd=>some fd
 |_=>none
noncomputable def NM:Data->Option (Array Value)
 | .seq vs _=>some vs
 |_=>none
noncomputable def Iy:Data->Option (Array Value)
 | .fields vs=>some vs
 |_=>none
noncomputable def Hs:Value->Option Str
 | .str s _=>some s
 |_=>none
noncomputable def Bt:Value->Option Addr
 | .ref a=>some a
 |_=>none
noncomputable def CP(K:Frag)(a:Addr):Option FuncData:=(K.lookup a).bind λo=>Iz o.data
noncomputable def zP(fd:FuncData)(m:bn):FuncBody->Bool
 | .stmts ys=>jy fd.scope.names m.body ys
 | .expr _=>false
noncomputable def Dc(b:Bool):Option NameKind->Bool
 |some .local=>true
 |some .cell=>true
 |some .free=>false
 |some _=>b
 |none=>b
noncomputable def HZ(K:Frag)(v:Value):Option Str:=(Bt v).bind λc=>(K.lookup c).bind λo=>(Iy o.data).bind λvs=>(vs[1]?).bind Hs
noncomputable def Fz:Value->Bool
 | .none=>true
 |_=>false
noncomputable def Aq(K:Frag)(fd:FuncData)(m:bn):Bool :=
 zP fd m fd.body&&(fd.closure.isEmpty&&(fd.globals==mainGlobals&&(fd.builtins==builtinsNs&&(!fd.scope.isCoroutine&&(!fd.scope.isGenerator &&
 (decide (fd.scope.kind=.function)&&(fd.params.posonlyargs.isEmpty&&(decide (fd.params.args.map Arg.arg=m.params.map Str.ofString)&&(fd.params.vararg.isNone&&(fd.params.kwonlyargs.isEmpty&&(fd.params.kwarg.isNone &&
 (Fz fd.defaults&&(decide m.params.Nodup&&(m.params.all (λp=>Dc false (fd.scope.names.lookup (Str.ofString p))) &&
 (fd.scope.names.all (λx=>Dc true (some x.2))&&decide (HZ K fd.code=some fd.qualname))))))))))))))))
noncomputable def Ap(K:Frag)(a:Addr)(m:bn):Bool:=match CP K a with|some fd=>Aq K fd m|none=>false
noncomputable def xV(K:Frag)(a:Addr):Option (Array Value):=(K.lookup a).bind λo=>if o.cls=.type "tuple" then NM o.data else none
mutual
noncomputable def NV(K:Frag):V->Value->Bool
 | .str s,c=>decide (Hs c=some (Str.ofString s))
 | .tup vs,c=>(match(Bt c).bind (xV K)with|some cvs=>xX K vs cvs.toList|none=>false)
 |_,_=>false
noncomputable def xX(K:Frag):List V->List Value->Bool
 | [],cs=>cs.isEmpty
 |v::vs,cs=>(match cs with|c::cs=>NV K v c&&xX K vs cs | []=>false)
end
section
variable{K:Frag}{base:Heap}{sad:Addr}{X:Addr->Prop}
noncomputable def HU(x:Option (Option Value))(f:Option Value->Bool):Bool:=match x with|some a=>f a|none=>false
noncomputable def Ey(K:Frag)(C:Addr)(n:Str):Bool:=plainGet K C n&&(hasDictIn K C&&(HU (findIn K (.ref C) n) (noGet K) &&
 (decide (findIn K (.ref C) "__setattr__"=some (some (.builtin "object.__setattr__")))&&(plainOver K C&&decide (takerIn K C n=some none)))))
noncomputable def qP(v:Option (Option Value))(f:Addr):Bool:=decide (v=some (some (.ref f)))
noncomputable def CS(K:Frag)(f:Addr):Bool:=decide (typeIn K (.ref f)=some (.type "function"))
noncomputable def EG(K:Frag)(C:Addr)(n:Str)(f:Addr):Bool:=plainGet K C n&&(qP (findIn K (.ref C) n) f&&(CS K f&&keepIn K (.ref f)))
noncomputable def IK(K:Frag)(C f:Addr):Bool:=makesIn K C&&(qP (findIn K (.ref C) "__init__") f&&(CS K f&&keepIn K (.ref C)))
structure Tbl where
 fn:List (String×Addr)
 cls:List (String×Addr)
 meth:List ((String×String)×Addr)
 flds:List (String×List String)
noncomputable def AS(v:Option (Option Value)):Bool:=decide (v=some none)
noncomputable def Ez(K:Frag)(t:Tbl):Bool:=t.fn.all λp=>qP (nsIn K mainGlobals (Str.ofString p.1)) p.2&&keepIn K (.ref p.2)
noncomputable def Er(K:Frag)(t:Tbl):Bool:=t.cls.all λp=>qP (nsIn K mainGlobals (Str.ofString p.1)) p.2
noncomputable def PG(x:Option Addr)(f:Addr->Bool):Bool:=match x with|some a=>f a|none=>true
noncomputable def AM(K:Frag)(t:Tbl):Bool:=t.meth.all λp=>PG (t.cls.lookup p.1.1) λC=>EG K C (Str.ofString p.1.2) p.2&&(!decide (p.1.2="__init__")||IK K C p.2)
noncomputable def Ao(K:Frag)(t:Tbl):Bool:=t.flds.all λp=>PG (t.cls.lookup p.1) λC=>p.2.all λf=>Ey K C (Str.ofString f)
noncomputable def El(K:Frag):Bool:=cj.all λp=>AS (nsIn K mainGlobals (Str.ofString p.1))
theorem gy[BEq α][LawfulBEq α]{l:List (α×β)}{a:α}{b:β}(h:l.lookup a=some b):(a,b)∈l:=by
 induction l with
 |nil=>exact kb h
 |cons p l B =>
  rw[L7]at h;cases e:a==p.1 with
  |true=>rw[e]at h;obtain rfl:=w4 h;rw[J3 e];exact y7
  |false=>rw[e]at h;exact y9 _ (B h)
end
noncomputable abbrev vV:Program:=PySem.Challenge.pw_pq0056_01
noncomputable def q0:Pos:=⟨0,0,0,0⟩
noncomputable def Gc:Env:={ scope:=vV.main.scope,locals:=mainNs,globals:=mainNs,cells:=[],code:=.ref 13,frame:=some 14 }
noncomputable def zO:List Stmt:=behindTheImports vV
noncomputable def Cu:Code:=.body zO Gc
noncomputable def Qz:Obj:={ cls:=.type "tuple",data:=.seq #[] }
noncomputable def QA:Obj:={ cls:=.none,data:=.fields #[] }
noncomputable def QB:Obj:={ cls:=.type "code",data:=.fields #[.str (Str.ofString "<module>") 182,.str (Str.ofString "<module>") 183,.str (Str.ofString "/claim/cut.py") 184,.int 1 0,.int 0 0,.int 0 0,.int 0 0,.int 0 0,.ref 11,.bool false,.int 181 0,.ref 12,.none,.none,.none,.none,.int 185 0,.int 1 0,.str (Str.ofString "/claim/cut.py") 186] }
noncomputable def QC:Obj:={ cls:=.type "frame",slots:=#[some (.ref 13),some (.ref 3),some (.ref 3),none,some (.str (Str.ofString "__main__") 164),none,some (.ref 0)] }
noncomputable def QM(P:Params):BT:=(.node (boot_o_0 P) (.node (boot_o_1 P) (.node (boot_o_3 P) (.node (boot_o_7 P) .nil .nil) (.node Qz .nil .nil)) (.node (boot_o_5 P) (.node (boot_o_9 P) .nil .nil) (.node QB .nil .nil))) (.node (boot_o_2 P) (.node (boot_o_4 P) (.node (boot_o_8 P) .nil .nil) (.node QA .nil .nil)) (.node (boot_o_6 P) (.node (boot_o_10 P) .nil .nil) (.node QC .nil .nil))))
noncomputable def Sa(w:World)(os:OsState):SharedT:=⟨QM w.params,15,(boot_heap w.params).life,#[],boot_drawn,187,os⟩
noncomputable def qL:Pos:=⟨295,0,317,15⟩
noncomputable def Ow(w:World)(os:OsState):Option (Flow×SharedT×Code×Pos):=segRunT treeTable vV w 11 (some (.ref 6)) 1 3140 (Sa w os) (piecesOf zO Gc Cu q0 [topFrame q0])
noncomputable def vK(p q:Program)(loose:List Str)(Xt Yf:Shared->Bool)(h0:Heap)(r:Shared) :=((staticsOk (importedModules p.main.body) h0 r.heap&&namesBound p r.heap&&gensDone r&&laidKept h0 r.heap),openSeen q loose (importedModules p.main.body) Xt true r,Yf r)
noncomputable def q4:Program:={ vV with main:={ vV.main with body:=[0,2,3,5,6,7,9,11,13,15,16,17,18,19,20,21,22,23].filterMap λi=>vV.main.body[i]? } }
section
set_option tactic.hygienic true
noncomputable def DV:Tbl:=⟨[("is_op",67),("is_variable",74),("_law_draw",441),("_law_close",446),("_law_one",451),("_law_put",458),("_law_pattern",463),("_law_names",470),("_law_home",475),("_law_due",480)],[("Bank",178),("Walker",216),("Unions",298),("Heap",430)],[(("Bank","__init__"),88),(("Bank","size"),95),(("Bank","take"),100),(("Bank","require"),107),(("Bank","op"),135),(("Bank","kids"),142),(("Walker","__init__"),196),(("Walker","extended"),201),(("Walker","found_in"),208),(("Walker","found"),213),(("Unions","__init__"),234),(("Unions","make"),241),(("Unions","size"),248),(("Unions","find"),255),(("Unions","merge"),262),(("Unions","members"),269),(("Unions","classes"),274),(("Heap","__init__"),316),(("Heap","size"),323),(("Heap","node"),328),(("Heap","add"),333),(("Heap","look_at"),347),(("Heap","find"),354),(("Heap","merge"),368),(("Heap","join"),375),(("Heap","settle"),382),(("Heap","classes"),396),(("Heap","members"),403),(("Heap","nodes_of"),408)],[("Heap",["bank","unions","edges","forest","known","above","waiting"]),("Bank",["nodes","numbers","weights","depths"]),("Unions",["above","lots","merged"]),("Walker",["heap"])]⟩
noncomputable def qw:List (Addr×bn):=[(67,xm),(74,jH),(88,me),(95,mh),(100,ml),(107,iI),(135,qC),(142,mf),(196,jG),(201,fK),(208,fL),(213,iN),(234,jD),(241,jE),(248,jF),(255,jC),(262,iM),(269,gx),(274,gw),(316,mo),(323,mu),(328,mr),(333,oA),(347,iK),(354,mm),(368,kO),(375,mq),(382,jB),(396,iJ),(403,iL),(408,ii),(441,oB),(446,mw),(451,qE),(458,qF),(463,jI),(470,mx),(475,oC),(480,qD),(485,xo)]
noncomputable def HV:List Addr:=[3,66,67,73,74,87,88,94,95,99,100,106,107,134,135,141,142,177,178,195,196,200,201,207,208,212,213,215,216,233,234,240,241,247,248,254,255,261,262,268,269,273,274,297,298,315,316,322,323,327,328,332,333,346,347,353,354,367,368,374,375,381,382,395,396,402,403,407,408,429,430,440,441,445,446,450,451,457,458,462,463,469,470,474,475,479,480,484,485]
noncomputable def Il(K:Frag):Bool:=(qw.all λx=>Ap K x.1 x.2)&&(Ez K DV&&(Er K DV&&(AM K DV&&(Ao K DV&&(El K&&qP (nsIn K mainGlobals (Str.ofString "law")) 485)))))
noncomputable def As(as:List Addr)(h:Heap):Frag:=as.filterMap λa=>(h.get? a).map λo=>(a,o)
theorem yz(as:List Addr)(h:Heap):(As as h).In h:=λa o e=>by obtain⟨b,_,G⟩:=List.mem_filterMap.mp (gy e);obtain⟨o',B,F⟩:=E3.mp G;cases F;exact B
noncomputable def H4:Hook:=⟨Bool,λs=>Il (As HV s.heap),λ_=>true,λ_ h=>∃K:Frag,K.In h/\Il K=true,λ_ s e=>⟨_,yz HV s.heap,e⟩,λ_ _ _ x k=>x.elim λK x=>⟨K,x.1.keeps k,x.2⟩⟩
noncomputable def X4(s:Shared):Bool:=xlAt q4 [] s&&recOk (RowW.records (OpenRow.toRowW PySem.Challenge.rw_pq0056_01.row)) s
theorem Gp(w:World)(os:OsState):(Ow w os).map (λx=>(x.1,x.2.2,vK vV q4 [] X4 H4.obs (boot_heap w.params) x.2.1.abs))=some (.next,(Cu,qL),(true,openGood q4 [],true)):=by unfold Ow vK;rw[Fast.te10110043849684766642,Fast.te14364793385576792824,Fast.te5923862056798008813,Fast.te4187177175401517315];kernel_rfl
end
section
variable{c:Value}{cs:List Value}{a:Addr}
set_option genInjectivity true
def ai{p:Prop}(h:false=true):p:=nomatch h
theorem aa{a b:Bool}(h:(a&&b)=true):a=true/\b=true:=by cases a;exact ai h;exact⟨rfl,h⟩
def nn{x:Option α}{a:α}{p:Prop}(h:x=none)(h':x=some a):p:=kb (h.symm.trans h')
def Gr{x:Option α}{a:α}(h:x=some a):x≠none:=λe=>nn e h
def sm{x:Option α}{a b:α}(h:x=some a)(h':x=some b):a=b:=w4 (h.symm.trans h')
theorem Oh{x y:Option α}(h:x≠none)(k:∀o,x=some o->y=some o):y≠none:=by
 rcases x with _|o
 .exact absurd rfl h
 .exact Gr (k o rfl)
inductive AO where
 |list (vs:List V)
 |dict (kvs:List (V×V))
 |inst (c:String) (dx:Addr)
@[reducible] noncomputable def bX:DecidableEq V:=λa b=>Classical.propDecidable (a=b)
noncomputable def cu(a b:V):Bool:=@decide (a=b) (bX a b)
theorem aP(a b:V):cu a b=true↔a=b:=by exact @decide_eq_true_iff (a=b) (bX a b)
theorem de(a:V):cu a a=true:=(aP a a).mpr rfl
theorem bg{a b:V}:cu a b=false↔a≠b:=by rw[<- Bool.not_eq_true,aP]
noncomputable abbrev AH:=Addr->Option AO
abbrev b9:=List V->AH->Prop
abbrev b8:=V->AH->Prop
noncomputable def AH.set(H:AH)(a:Addr)(o:AO):AH:=λb=>if b=a then some o else H b
@[simp] theorem AH.set_self (H:AH) (a:Addr) (o:AO):H.set a o a=some o:=by simp[AH.set]
theorem r7(H:AH){b:Addr}(o:AO)(h:b≠a):H.set a o b=H b:=by simp[AH.set,h]
structure SX where
 a:Addr
 X:Addr->Prop
mutual
noncomputable def VR(sa:SX)(h:Heap):V->Value->Prop
 | .none,v=>v=.none
 | .scr,v=>v=.ref sa.a
 | .bool b,v=>v=.bool b
 | .int i,v=>∃t,v=.int i t
 | .str s,v=>∃t,v=.str (Str.ofString s) t
 | .ref a,v=>v=.ref a
 | .tup vs,v=>∃a cvs n,v=.ref a/\¬sa.X a/\(∃o,h.get? a=some o/\o.cls=.type "tuple"/\o.data=.seq cvs n)/\VRs sa h vs cvs.toList
noncomputable def VRs(sa:SX)(h:Heap):List V->List Value->Prop
 | [],l=>l=[]
 |v::vs,l=>∃c cs,l=c::cs/\VR sa h v c/\VRs sa h vs cs
end
def TupKeep(sa:SX)(h h':Heap):Prop:=∀b o,¬sa.X b->h.get? b=some o->o.cls=.type "tuple"->(∃xs n,o.data=.seq xs n)->h'.get? b=some o
def TupKeep.refl(sa:SX)(h:Heap):TupKeep sa h h:=λ_ _ _ e _ _=>e
theorem TupKeep.trans{sa:SX}{B:Heap}(a:TupKeep sa h h')(b:TupKeep sa h' B):TupKeep sa h B:=λx o n e c d=>b x o n (a x o n e c d) c d
def r8{sa:SX}(k:∀b o,h.get? b=some o->h'.get? b=some o):TupKeep sa h h':=λb o _ e _ _=>k b o e
section
variable{sa:SX}
mutual
theorem VR.keep(k:TupKeep sa h h'):∀{v:V}{c:Value},VR sa h v c->VR sa h' v c
 | .none,_,x=>by unfold VR at *;exact x
 | .scr,_,x=>by unfold VR at *;exact x
 | .bool _,_,x=>by unfold VR at *;exact x
 | .int _,_,x=>by unfold VR at *;exact x
 | .str _,_,x=>by unfold VR at *;exact x
 | .ref _,_,x=>by unfold VR at *;exact x
 | .tup vs,_,x=>by unfold VR at *;refine uV x λa cvs n e nx aW r=>?_;obtain⟨o,ho,hc,hd⟩:=aW;exact(pF a cvs n e nx (⟨o,k a o nx ho hc ⟨_,_,hd⟩,hc,hd⟩) (VRs.keep k r))
theorem VRs.keep(k:TupKeep sa h h'):∀{vs:List V}{cs:List Value},VRs sa h vs cs->VRs sa h' vs cs
 | [],_,x=>by unfold VRs at *;exact x
 |v::vs,_,x=>by unfold VRs at *;refine bM x λc cs e a b=>?_;exact(bR c cs e (VR.keep k a) (VRs.keep k b))
end
theorem VRs.nil:VRs sa h [] []:=by rfl
theorem VRs.cons{v:V}(a:VR sa h v c)(b:VRs sa h vs cs):VRs sa h (v::vs) (c::cs):=by unfold VRs;exact(bR c cs rfl a b)
def VRs.nil_inv(x:VRs sa h [] cs):cs=[]:=x
theorem VRs.cons_inv{v:V}(x:VRs sa h (v::vs) cs):∃c r,cs=c::r/\VR sa h v c/\VRs sa h vs r:=x
theorem VRs.length:∀{vs:List V}{cs:List Value},VRs sa h vs cs->cs.length=vs.length
 | [],_,x=>by rw[x.nil_inv];rfl
 |_::_,_,x=>by refine bM x.cons_inv λc r bS _ b=>?_;subst bS;simp[b.length]
theorem VRs.append:∀{vs ws:List V}{cs ds:List Value},VRs sa h vs cs->VRs sa h ws ds->VRs sa h (vs++ws) (cs++ds)
 | [],_,_,_,x,y=>by rw[x.nil_inv];exact y
 |_::_,_,_,_,x,y=>by refine bM x.cons_inv λc r cI a b=>?_;subst cI;exact .cons a (b.append y)
def VRs.one{v:V}(x:VR sa h v c):VRs sa h [v] [c]:=.cons x .nil
theorem VRs.get:∀{vs:List V}{cs:List Value},VRs sa h vs cs->∀{i:Nat}{v:V},vs[i]?=some v->∃c,cs[i]?=some c/\VR sa h v c
 | [],_,_,i,v,e=>by simp at e
 |B::vs,_,x,i,v,e=>by
  refine bM x.cons_inv λc r cW a b=>?_;subst cW;rcases i with _|i
  .simp at e;subst e;exact(af c rfl a)
  .simp at e;refine ah (b.get e) λd F G=>?_;exact(af d F G)
theorem VRs.get':∀{vs:List V}{cs:List Value},VRs sa h vs cs->∀{i:Nat}{c:Value},cs[i]?=some c->∃v,vs[i]?=some v/\VR sa h v c
 | [],_,x,i,v,e=>by rw[x.nil_inv]at e;simp at e
 |B::vs,_,x,i,c,e=>by
  refine bM x.cons_inv λJ r eJ a b=>?_;subst eJ;rcases i with _|i
  .simp at e;subst e;exact(af B rfl a)
  .simp at e;refine ah (b.get' e) λd F G=>?_;exact(af d F G)
theorem VRs.drop:∀{vs:List V}{cs:List Value}(n:Nat),VRs sa h vs cs->VRs sa h (vs.drop n) (cs.drop n)
 |vs,cs,0,x=>by exact x
 | [],_,n+1,x=>by rw[x.nil_inv];exact VRs.nil
 |_::_,_,n+1,x=>by refine bM x.cons_inv λc r B a b=>?_;subst B;exact b.drop n
theorem VRs.take:∀{vs:List V}{cs:List Value}(n:Nat),VRs sa h vs cs->VRs sa h (vs.take n) (cs.take n)
 |vs,cs,0,x=>by exact VRs.nil
 | [],_,n+1,x=>by rw[x.nil_inv];exact VRs.nil
 |_::_,_,n+1,x=>by refine bM x.cons_inv λc r B a b=>?_;subst B;exact VRs.cons a (b.take n)
theorem VRs.dropLast:∀{vs:List V}{cs:List Value},VRs sa h vs cs->VRs sa h vs.dropLast cs.dropLast
 | [],_,x=>by rw[x.nil_inv];exact VRs.nil
 | [v],_,x=>by refine bM x.cons_inv λc r G a b=>?_;subst G;rw[b.nil_inv];exact VRs.nil
 |v::w::vs,_,x=>by refine bM x.cons_inv λc r J a b=>?_;subst J;refine bM b.cons_inv λO r' F a' b'=>?_;subst F;obtain B:=(VRs.cons a' b').dropLast;exact VRs.cons a B
theorem r9:VR sa h .none .none:=by rfl
theorem s8(b:Bool):VR sa h (.bool b) (.bool b):=by rfl
theorem s9(i:Int)(t:Tok):VR sa h (.int i) (.int i t):=by exact⟨t,rfl⟩
theorem t6(s:String)(t:Tok):VR sa h (.str s) (.str (Str.ofString s) t):=by exact⟨t,rfl⟩
theorem t7(a:Addr):VR sa h (.ref a) (.ref a):=by rfl
def VR.none_inv(x:VR sa h .none c):c=.none:=x
def VR.scr_inv(x:VR sa h .scr c):c=.ref sa.a:=x
def VR.bool_inv{b:Bool}(x:VR sa h (.bool b) c):c=.bool b:=x
def VR.int_inv{i:Int}(x:VR sa h (.int i) c):∃t,c=.int i t:=x
def VR.str_inv{s:String}(x:VR sa h (.str s) c):∃t,c=.str (Str.ofString s) t:=x
def VR.ref_inv(x:VR sa h (.ref a) c):c=.ref a:=x
theorem VR.tup_inv(x:VR sa h (.tup vs) c):∃a cvs,c=.ref a/\IsTup h a cvs/\VRs sa h vs cvs.toList:=by refine uV x λa cvs n e _ B r=>?_;obtain⟨o,ho,hc,hd⟩:=B;exact(bR a cvs e (aN o ho hc (gE n hd)) r)
section
variable{c:Value}{P:Value->Prop}
theorem VR.none_el(x:VR sa h .none c)(k:P .none):P c:=by rw[x.none_inv];exact k
theorem VR.bool_el{b:Bool}(x:VR sa h (.bool b) c)(k:P (.bool b)):P c:=by rw[x.bool_inv];exact k
theorem VR.ref_el(x:VR sa h (.ref a) c)(k:P (.ref a)):P c:=by rw[x.ref_inv];exact k
theorem VR.int_el{i:Int}(x:VR sa h (.int i) c)(k:∀t,P (.int i t)):P c:=by refine bL x.int_inv λt B=>?_;subst B;exact k t
theorem VR.str_el{i:String}(x:VR sa h (.str i) c)(k:∀t,P (.str (Str.ofString i) t)):P c:=by refine bL x.str_inv λt B=>?_;subst B;exact k t
theorem VR.tup_el(x:VR sa h (.tup vs) c)(k:∀a cvs,IsTup h a cvs->VRs sa h vs cvs.toList->P (.ref a)):P c:=by refine bM x.tup_inv λa cvs B b d=>?_;subst B;exact k a cvs b d
end
theorem VRs.nil_el{P:List Value->Prop}(x:VRs sa h [] cs)(k:P []):P cs:=by rw[x.nil_inv];exact k
theorem VRs.one_el{v:V}{P:List Value->Prop}(x:VRs sa h [v] cs)(k:∀c,VR sa h v c->P [c]):P cs:=by refine bM x.cons_inv λc r B a b=>?_;subst B;rw[b.nil_inv];exact k c a
theorem VRs.two_el{v w:V}{P:List Value->Prop}(x:VRs sa h [v,w] cs)(k:∀c d,VR sa h v c->VR sa h w d->P [c,d]):P cs:=by refine bM x.cons_inv λc r B a b=>?_;subst B;apply b.one_el;intro d e;exact k c d a e
theorem t8{cvs:Array Value}(nx:¬sa.X a)(t:IsTup h a cvs)(r:VRs sa h vs cvs.toList):VR sa h (.tup vs) (.ref a):=by refine bE t λo ho hc B=>?_;refine bL B λn hd=>?_;exact(pF a cvs n rfl nx (aN o ho hc hd) r)
end
section
variable{sa:SX}
mutual
theorem VR.more{T:Addr}(hT:h.get? T=none):∀{v:V}{c:Value},VR sa h v c->VR ⟨sa.a,λb=>sa.X b\/b=T⟩ h v c
 | .none,_,x=>by unfold VR at *;exact x
 | .scr,_,x=>by unfold VR at *;exact x
 | .bool _,_,x=>by unfold VR at *;exact x
 | .int _,_,x=>by unfold VR at *;exact x
 | .str _,_,x=>by unfold VR at *;exact x
 | .ref _,_,x=>by unfold VR at *;exact x
 | .tup vs,_,x=>by unfold VR at *;refine uV x λa cvs n e nx B r=>?_;obtain⟨o,ho,hc,hd⟩:=B;exact(pF a cvs n e (λz=>by rcases z with z|z;exact nx z;rw[z,hT]at ho;exact ns ho) (aN o ho hc hd) (VRs.more hT r))
theorem VRs.more{T:Addr}(hT:h.get? T=none):∀{vs:List V}{cs:List Value},VRs sa h vs cs->VRs ⟨sa.a,λb=>sa.X b\/b=T⟩ h vs cs
 | [],_,x=>by unfold VRs at *;exact x
 |v::vs,_,x=>by unfold VRs at *;refine bM x λc cs e a b=>?_;exact(bR c cs e (VR.more hT a) (VRs.more hT b))
end
mutual
theorem VR.less(hX:∀b,X' b->sa.X b):∀{v:V}{c:Value},VR sa h v c->VR ⟨sa.a,X'⟩ h v c
 | .none,_,x=>by unfold VR at *;exact x
 | .scr,_,x=>by unfold VR at *;exact x
 | .bool _,_,x=>by unfold VR at *;exact x
 | .int _,_,x=>by unfold VR at *;exact x
 | .str _,_,x=>by unfold VR at *;exact x
 | .ref _,_,x=>by unfold VR at *;exact x
 | .tup vs,_,x=>by unfold VR at *;refine uV x λa cvs n e nx B r=>?_;obtain⟨o,ho,hc,hd⟩:=B;exact(pF a cvs n e (λz=>nx (hX _ z)) ⟨o,ho,hc,hd⟩ (VRs.less hX r))
theorem VRs.less(hX:∀b,X' b->sa.X b):∀{vs:List V}{cs:List Value},VRs sa h vs cs->VRs ⟨sa.a,X'⟩ h vs cs
 | [],_,x=>by unfold VRs at *;exact x
 |v::vs,_,x=>by unfold VRs at *;refine bM x λc cs e a b=>?_;exact(bR c cs e (VR.less hX a) (VRs.less hX b))
end
end
mutual
noncomputable def dA:V->Bool
 | .none=>true
 | .int _=>true
 | .str _=>true
 | .tup vs=>bO vs
 |_=>false
noncomputable def bO:List V->Bool
 | []=>true
 |v::vs=>dA v&&bO vs
end
mutual
noncomputable def aD:V->Nat
 | .tup vs=>bx vs+1
 |_=>0
noncomputable def bx:List V->Nat
 | []=>0
 |v::vs=>max (aD v) (bx vs)
end
mutual
noncomputable def xU:V->PyData
 | .none=>.none
 | .bool b=>.bool b
 | .int i=>.int i
 | .str s=>.str (Str.ofString s)
 | .tup vs=>.tuple (dL vs)
 |_=>.none
noncomputable def dL:List V->List PyData
 | []=>[]
 |v::vs=>xU v::dL vs
end
theorem bo{s t:String}(h:Str.ofString s=Str.ofString t):s=t:=by
 rw[P3,P3]at h;obtain B:=C3 (λx:Str=>x.cps.toList) h;simp only at B
 have:∀(l m:List Char),l.map (λc=>c.toNat)=m.map (λc=>c.toNat)->l=m:=by
  intro l;induction l with
  |nil=>intro m e;cases m with|nil=>rfl|cons _ _=>simp at e
  |cons c l G =>
   intro m e;rcases m with _|⟨d,m⟩
   .simp at e
   .simp only[List.map_cons,List.cons.injEq]at e;rw[G m e.2];obtain this:=Char.toNat_inj.mp e.1;rw[this]
 obtain F:=this s.toList t.toList (by simpa using B);exact String.toList_inj.mp F
theorem tV(s:String):PyData.strOk (Str.ofString s)=true:=by rw[P3];unfold PyData.strOk;simp only[List.all_toArray,List.all_map,List.all_eq_true];intro c _;simp only[Function.comp,decide_eq_true_eq];obtain B:=c.valid;unfold UInt32.isValidChar Nat.isValidChar at B;exact QD B
end
variable{H' H0:AH}
section
variable{c:Value}
section
variable{sa:SX}
def vR{P:V->Prop}{Q:List V->Prop}(none:P .none)(int:∀i,P (.int i))(str:∀s,P (.str s))(tup:∀vs,bO vs=true->Q vs->P (.tup vs))(nil:Q [])(cons:∀v vs,dA v=true->bO vs=true->P v->Q vs->Q (v::vs)):(∀v,dA v=true->P v)/\∀vs,bO vs=true->Q vs :=
 have c:∀v vs,(dA v=true->P v)->(bO vs=true->Q vs)->bO (v::vs)=true->Q (v::vs):=λv vs a b p=>have p:=(I1 _ _).mp p;cons v vs p.1 p.2 (a p.1) (b p.2)
 have h:∀v,dA v=true->P v:=λv=>V.rec (motive_1:=λv=>dA v=true->P v) (motive_2:=λvs=>bO vs=true->Q vs) (λ_=>none) ai (λ_=>ai) (λi _=>int i) (λs _=>str s) (λvs b p=>tup vs p (b p)) (λ_=>ai) (λ_=>nil) c v
 ⟨h,λvs=>List.rec (λ_=>nil) (λv vs B=>c v vs (h v) B) vs⟩
theorem qN:(∀v,dA v=true->∀{c:Value},VR sa h v c->∃as,Reads h c (xU v) as)/\∀vs,bO vs=true->∀{cs:List Value},VRs sa h vs cs->∃as,ReadsAll h cs (dL vs) as :=
 vR (λx=>x.none_inv▸⟨_,.none⟩) (λ_ _ x=>x.int_el (P:=λc=>∃as,Reads h c _ as) λ_=>⟨_,.int _ _⟩) (λ_ _ x=>x.str_el (P:=λc=>∃as,Reads h c _ as) λ_=>⟨_,.str _ _⟩)
  (λvs _ F c x=>x.tup_el (P:=λc=>∃as,Reads h c _ as) λa cvs ht r=>bE ht λo ho hc B=>bL B λn hd=>bL (F r) λas q=>⟨as,reads_tuple_at ho hc hd q⟩)
  (λx=>x.nil_inv▸⟨_,.nil⟩)
  (λv vs _ _ a b cs x=>bM x.cons_inv λc r e i j=>bL (a i) λas q=>bL (b j) λJ G=>e▸⟨_,.cons q G⟩)
def VR.reads{v:V}(x:VR sa h v c)(p:dA v=true):∃as,Reads h c (xU v) as:=qN.1 v p x
def VRs.reads{cs:List Value}(x:VRs sa h vs cs)(p:bO vs=true):∃as,ReadsAll h cs (dL vs) as:=qN.2 vs p x
end
def xc:(∀v,dA v=true->(xU v).canLay0=true/\(xU v).depth<=aD v)/\∀vs,bO vs=true->PyData.canLayAll0 (dL vs)=true/\PyData.depthAll (dL vs)<=bx vs :=
 vR ⟨rfl,A8 _⟩ (λ_=>⟨rfl,A8 _⟩) (λ_=>⟨tV _,A8 _⟩) (λ_ _ h=>⟨h.1,Qi h.2⟩) ⟨rfl,A8 _⟩
  (λ_ _ _ _ a b=>⟨(I1 _ _).mpr ⟨a.1,b.1⟩,QE a.2 b.2⟩)
def hV(v:V)(p:dA v=true):(xU v).canLay0=true/\(xU v).depth<=aD v:=xc.1 v p
def iZ(vs:List V)(p:bO vs=true):PyData.canLayAll0 (dL vs)=true/\PyData.depthAll (dL vs)<=bx vs:=xc.2 vs p
theorem wP:(∀v,dA v=true->∀w,dA w=true->(PyData.eqv (xU v) (xU w)=true↔v=w))/\∀vs,bO vs=true->∀ws,bO ws=true->(PyData.eqvAll (dL vs) (dL ws)=true↔vs=ws):=by
 have B:∀{a b:V},(a=b->False)->(false=true↔a=b):=λf=>⟨ai,λe=>(f e).elim⟩;refine vR (λw q=>?_) (λi w q=>?_) (λs w q=>?_) (λvs p F w q=>?_) (λws q=>?_) (λv vs _ _ a b ws q=>?_)
 .cases w with
  |none=>exact⟨λ_=>rfl,λ_=>rfl⟩
  |tup _=>exact B V.noConfusion
  |int _=>exact B V.noConfusion
  |str _=>exact B V.noConfusion
  |_=>exact ai q
 .cases w with
  |int j=>exact⟨λh=>C3 V.int (J3 h),λe=>N4.mpr (V.int.inj e)⟩
  |none=>exact B V.noConfusion
  |tup _=>exact B V.noConfusion
  |str _=>exact B V.noConfusion
  |_=>exact ai q
 .cases w with
  |str t=>exact⟨λh=>C3 V.str (bo (J3 h)),λe=>N4.mpr (C3 _ (V.str.inj e))⟩
  |none=>exact B V.noConfusion
  |tup _=>exact B V.noConfusion
  |int _=>exact B V.noConfusion
  |_=>exact ai q
 .cases w with
  |tup ws=>exact(F ws q).trans ⟨C3 V.tup,V.tup.inj⟩
  |none=>exact B V.noConfusion
  |str _=>exact B V.noConfusion
  |int _=>exact B V.noConfusion
  |_=>exact ai q
 .cases ws with
  |nil=>exact⟨λ_=>rfl,λ_=>rfl⟩
  |cons _ _=>exact⟨ai,λe=>(G0 _ _ e.symm).elim⟩
 .cases ws with
  |nil=>exact⟨ai,λe=>(G0 _ _ e).elim⟩
  |cons w ws =>have q:=(I1 _ _).mp q;exact(by rw[List.cons.injEq,<- a w q.1,<- b ws q.2];exact Iff.of_eq (I1 _ _))
theorem jt{v w:V}(p:dA v=true)(q:dA w=true):PyData.eqv (xU v) (xU w)=cu v w:=by
 cases h:cu v w with
 |true=>exact(wP.1 v p w q).mpr ((aP _ _).mp h)
 |false=>exact K0.mpr λx=>bg.mp h ((wP.1 v p w q).mp x)
mutual
noncomputable def aQ:V->Bool
 | .int _=>true
 | .str _=>true
 | .tup vs=>bz vs
 |_=>false
noncomputable def bz:List V->Bool
 | []=>true
 |v::vs=>aQ v&&bz vs
end
def wZ{P:V->Prop}{Q:List V->Prop}(int:∀i,P (.int i))(str:∀s,P (.str s))(tup:∀vs,bz vs=true->Q vs->P (.tup vs))(nil:Q [])(cons:∀v vs,aQ v=true->bz vs=true->P v->Q vs->Q (v::vs))(v:V):aQ v=true->P v :=V.rec (motive_1:=λv=>aQ v=true->P v) (motive_2:=λvs=>bz vs=true->Q vs) ai ai (λ_=>ai) (λi _=>int i) (λs _=>str s) (λvs b p=>tup vs p (b p)) (λ_=>ai) (λ_=>nil) (λv vs a b p=>have p:=(I1 _ _).mp p;cons v vs p.1 p.2 (a p.1) (b p.2)) v
def bq:∀(v:V),aQ v=true->dA v=true :=wZ (Q:=λvs=>bO vs=true) (λ_=>rfl) (λ_=>rfl) (λ_ _ h=>h) rfl (λ_ _ _ _ a b=>(I1 _ _).mpr ⟨a,b⟩)
mutual
noncomputable def aL(w:World):V->Int
 | .int i=>hashInt i
 | .str s=>hashStr w (Str.ofString s)
 | .tup vs=>reduceHash (Builtin.Tuple.tupleHashOf (dg w vs))
 |_=>0
noncomputable def dg(w:World):List V->List Int
 | []=>[]
 |v::vs=>aL w v::dg w vs
end
mutual
noncomputable def pu:V->Nat
 | .int _=>1
 | .str _=>1
 | .tup vs=>nu vs+1
 |_=>0
noncomputable def nu:List V->Nat
 | []=>0
 |v::vs=>pu v+nu vs
end
section
variable{sa:SX}
theorem rM{P:V->Value->Prop}{Q:List V->List Value->Prop}(int:∀i t,P (.int i) (.int i t))(str:∀s t,P (.str s) (.str (Str.ofString s) t))(tup:∀vs a cvs,bz vs=true->IsTup h a cvs->VRs sa h vs cvs.toList->Q vs cvs.toList->P (.tup vs) (.ref a))(nil:Q [] [])(cons:∀v vs c cs,aQ v=true->bz vs=true->VR sa h v c->VRs sa h vs cs->P v c->Q vs cs->Q (v::vs) (c::cs)){v:V}(p:aQ v=true)(r:VR sa h v c):P v c :=
 wZ (P:=λv=>∀c,VR sa h v c->P v c) (Q:=λvs=>∀cs,VRs sa h vs cs->Q vs cs) (λi c r=>r.int_el (int i)) (λs c r=>r.str_el (str s)) (λvs p B c r=>r.tup_el λa cvs ht r=>tup vs a cvs p ht r (B _ r)) (λcs r=>r.nil_el nil)
  (λv vs p ps a b cs r=>bM r.cons_inv λc r e i j=>e▸cons v vs c r p ps i j (a c i) (b r j)) v p c r
theorem VR.inj{x y:V}(p:aQ x=true)(q:aQ y=true)(a:VR sa h x c)(b:VR sa h y c):x=y:=by
 refine rM (P:=λx c=>∀y,aQ y=true->VR sa h y c->x=y) (Q:=λxs cs=>∀ys,bz ys=true->VRs sa h ys cs->xs=ys) (λi t y q b=>?_) (λs t y q b=>?_) (λvs a cvs p ht r ih y q b=>?_) (λys q b=>?_) (λx xs c cs p ps r rs a b ys q r'=>?_) p a y q b
 .cases y with
  |int j=>exact bL b.int_inv λu e=>Value.noConfusion e λe _=>e▸rfl
  |str s=>exact bL b.str_inv λu e=>Value.noConfusion e
  |tup vs=>exact bM b.tup_inv λ_ _ e _ _=>Value.noConfusion e
  |_=>exact ai q
 .cases y with
  |int j=>exact bL b.int_inv λu e=>Value.noConfusion e
  |str s=>exact bL b.str_inv λu e=>Value.noConfusion e λe _=>bo e▸rfl
  |tup vs=>exact bM b.tup_inv λ_ _ e _ _=>Value.noConfusion e
  |_=>exact ai q
 .cases y with
  |int j=>exact bL b.int_inv λu e=>Value.noConfusion e
  |str s=>exact bL b.str_inv λu e=>Value.noConfusion e
  |tup ws =>refine bM b.tup_inv λY O e J r'=>?_;obtain rfl:=Value.ref.inj e;refine bE ht λo ho _ Z=>bL Z λn hd=>bE J λo' G _ F=>bL F λn' B=>?_;obtain rfl:=w4 (ho.symm.trans G);obtain⟨rfl,_⟩:=Data.seq.inj (hd.symm.trans B);exact C3 V.tup (ih ws q r')
  |_=>exact ai q
 .cases ys with
  |nil=>rfl
  |cons _ _=>exact cG b.cons_inv λ_ _ e _=>(G0 _ _ e.symm).elim
 .cases ys with
  |nil=>exact(G0 _ _ r'.nil_inv).elim
  |cons y ys =>have q:=(I1 _ _).mp q;refine bM r'.cons_inv λc' r' e b1 b2=>?_;obtain⟨rfl,rfl⟩:=I9 e;rw[a y q.1 b1,b ys q.2 b2]
theorem VR.pyHash{A:Around}{x:V}{Q:Int->Shared->Prop}(p:aQ x=true)(u:A.units+aD x<cLine)(r:VR sa s.heap x c)(h:Q (aL w x) { s with toks:=s.toks+pu x }):wpAny (model prog w) A (PySem.pyHash c) Q E s:=by
 refine rM (P:=λx c=>∀(A:Around)(n:Nat)(Q:Int->Shared->Prop),A.units+aD x<cLine->Q (aL w x) { s with toks:=n+pu x }->wpAny (model prog w) A (PySem.pyHash c) Q E { s with toks:=n })
  (Q:=λxs cs=>∀(A:Around)(n:Nat)(Q:Array Int->Shared->Prop)(b:Array Int),A.units+bx xs<cLine->Q (b++(dg w xs).toArray) { s with toks:=n+nu xs }->wpAny (model prog w) A (forIn cs b λx b=>(do let h <- PySem.pyHash x;pure (ForInStep.yield (b.push h)))) Q E { s with toks:=n })
  (λi t A n Q _ h=>wpAny_pyHash_int h) (λ_ t A n Q _ h=>wpAny_pyHash_str h) (λvs a cvs p ht r G A n Q u h=>?_) (λA n Q b _ h=>v9 h) (λx xs c cs p ps r rs a b' A n Q b u h=>?_) p r A s.toks Q u h
 .obtain hT:=ht.typeIs (s:={ s with toks:=n });refine bE ht λo ho _ B=>?_;refine bL B λk hd=>?_;refine r5 (wpAny_cRoomFor_or (.inr (Qj u)) ?_);refine r5 (RH hT F.slot_tuple_hash.lookup ?_);rw[if_neg (by rw[beq_builtin_none];exact D0)];refine r5 (RH hT F.slot_tuple_hash.lookup ?_);refine r5 (wpAny_callSpecialIfBoundUnlessNone?_slot hT F.slot_tuple_hash (H9 F.slot_tuple_hash hT F.entry_tuple_hash ?_ (F.args_tuple_hash_1 _)));show wpAny _ _ (Builtin.Tuple.tupleItemsOf (.ref a) >>= _) _ _ _;refine r5 (wpAny_tupleItemsOf ho hd ?_);refine r5 ?_;rw[<- Array.forIn_toList];refine G _ _ _ #[] (QF u) ?_;show wpAny _ _ (retInt (Builtin.Tuple.tupleHashOf _)) _ _ _;rw[(by simp:(#[]++(dg w vs).toArray:Array Int).toList=dg w vs)];refine wpAny_ret_mkInt ?_;have h:Q (reduceHash (Builtin.Tuple.tupleHashOf (dg w vs))) { s with toks:=n+nu vs+1 }:=h;unfold reduceHash at h;show wpAny _ _ (if(decide (-(2:Int)^63<=Builtin.Tuple.tupleHashOf (dg w vs))&&decide (Builtin.Tuple.tupleHashOf (dg w vs)<2^63))=true then _ else _) Q E _;by_cases hr:(decide (-(2:Int)^63<=Builtin.Tuple.tupleHashOf (dg w vs))&&decide (Builtin.Tuple.tupleHashOf (dg w vs)<2^63))=true
  .rw[if_pos hr]at h ⊢;exact v9 h
  .rw[if_neg hr]at h ⊢;exact r5 (Ri (v9 h))
 .rw[Rt];refine r5 (r5 (a _ n _ (QG u) (v9 (b' _ _ _ _ (QH u) ?_))));rw[(by apply Array.toList_inj.mp;simp:(b.push (aL w x)++(dg w xs).toArray)=b++(aL w x::dg w xs).toArray),O7];exact h
end
end
section
variable{sa:SX}
theorem VR.eqBool{A:Around}{x y:V}{c d:Value}{Q:b7}(B:dA x=true)(F:dA y=true) (O:A.units+min (aD x) (aD y)<cLine) (rx:VR sa s.heap x c) (ry:VR sa s.heap y d) (h:Q (cu x y) s):wpAny (model prog w) A (PySem.eqBool c d) Q E s:=by refine bL (rx.reads B) λas Y=>?_;refine bL (ry.reads F) λJ Z=>?_;obtain G:=hV x B;obtain lb:=hV y F;refine SeqAt.eqAt_reads _ _ A s c d as J Y Z G.1 lb.1 (QI O G.2 lb.2) prog w E Q ?_;rw[jt B F];exact h
theorem fq{A:Around}{cs:List Value}{f:Value->Option Bool×PUnit->Sem (ForInStep (Option Bool×PUnit))}{Q:Option Bool×PUnit->Shared->Prop}(hf:∀c∈cs,∀(R:ForInStep (Option Bool×PUnit)->Shared->Prop),R (.yield (none,.unit)) s->wpAny (model prog w) A (f c (none,.unit)) R E s)(h:Q (none,.unit) s):wpAny (model prog w) A (forIn cs (none,.unit) f) Q E s:=by
 induction cs with
 |nil=>exact v9 h
 |cons c cs B =>rw[Rt];exact r5 (hf c y7 _ (B λc hc=>hf c (y9 _ hc)))
theorem AC{P:Nat->Value->Prop}(int:∀n i t,P n (.int i t))(str:∀n s t,P n (.str s t))(tup:∀n a cvs,IsTup s.heap a cvs->(∀c∈cvs.toList,P n c)->P (n+1) (.ref a)){x:V}{c:Value}{n:Nat}(p:aQ x=true)(u:aD x<=n)(r:VR sa s.heap x c):P n c :=
 rM (P:=λx c=>∀n,aD x<=n->P n c) (Q:=λxs cs=>∀n,bx xs<=n->∀c∈cs,P n c) (λi t n _=>int n i t) (λ_ t n _=>str n _ t)
  (λvs a cvs _ ht _ B n u=>by
   rcases n with _|n
   .exact(Qk u).elim
   .exact tup n a cvs ht (B n (IO u)))
  (λ_ _ _ h=>absurd h A7)
  (λ_ _ _ _ _ _ _ _ a b n u=>List.forall_mem_cons.mpr ⟨a n (Gw u),b n (Dn u)⟩) p r n u
theorem VR.quiet{A:Around}{x:V}{c:Value}{n:Nat}{Q:b7}(p:aQ x=true)(u:aD x<=n)(r:VR sa s.heap x c)(h:Q true s):wpAny (model prog w) A (eqIsQuiet n c) Q E s:=by
 refine AC (P:=λn c=>∀Q:Bool->Shared->Prop,Q true s->wpAny (model prog w) A (eqIsQuiet n c) Q E s) (λn i t Q h=>?_) (λn x t Q h=>?_) (λn a cvs ht B Q h=>?_) p u r Q h
 .rw[eqIsQuiet_byValue _ rfl];exact v9 h
 .rw[eqIsQuiet_byValue _ rfl];exact v9 h
 .obtain hT:=ht.typeIs (s:=s);refine bE ht λo ho _ cW=>?_;refine bL cW λk hd=>?_;unfold eqIsQuiet;refine r5 (RH hT F.slot_tuple_eq.lookup ?_);refine r5 (wpAny_isInstance hT isSubtype_tuple_tuple ?_);refine r5 (N6 ho hd ?_);refine r5 ?_;rw[<- Array.forIn_toList];exact fq (λc hc R h=>r5 (B c hc _ (v9 h))) (v9 h)
noncomputable def BN(sa:SX)(prog:Program)(w:World):@HeapKind prog w V bX :=
 @HeapKind.mk prog w V bX
  (λh x a=>(∃vs,x=.tup vs)/\aQ x=true/\aD x<=8/\VR sa h x (.ref a))
  (aL w) pu (λA=>A.units+8<cLine)
  (λJ O=>VR.inj J.2.1 O.2.1 J.2.2.2 O.2.2.2)
  (λ{h h' k a d o es ep} x ho hd hs=>by
   refine(qZ x.1 x.2.1 x.2.2.1 (x.2.2.2.keep λb ob _ e hc ⟨xs,n,hq⟩=>?_));by_cases G:b=d
   .subst G;obtain rfl:ob=o:=w4 (e.symm.trans ho);rw[hd]at hq;cases hq
   .exact(hs.2 b G).trans e)
  (λF x h=>VR.pyHash x.2.1 (by obtain B:=x.2.2.1;exact Ji x.2.2.1 F) x.2.2.2 h)
  (λF x y h=>VR.eqBool (bq _ x.2.1) (bq _ y.2.1) (by obtain B:=x.2.2.1;exact OE y.2.2.1 F) x.2.2.2 y.2.2.2 h)
  (λx h=>VR.quiet x.2.1 x.2.2.1 x.2.2.2 h)
noncomputable def kS:V->Value->Bool
 | .int i,v=>Value.isInt i v
 | .str s,v=>Value.isStrOf (Str.ofString s) v
 |_,_=>false
noncomputable def rL:V->Bool
 | .int _=>true
 | .str _=>true
 |_=>false
theorem bA{k:V}{v:Value}(h:kS k v=true):(∃i t,k=.int i/\v=.int i t)\/(∃s t,k=.str s/\v=.str (Str.ofString s) t):=by
 cases k with
 |int i=>refine bL (Value.isInt_shape h) λt e=>?_;exact .inl (eU i t rfl e)
 |str s=>refine bL (Value.isStrOf_shape h) λt e=>?_;exact .inr (eU s t rfl e)
 |_=>exact ai h
theorem cF{k:V}{v:Value}(hk:rL k=true)(r:VR sa h k v):kS k v=true:=by
 cases k with
 |int i=>apply r.int_el;intro t;simp[kS,Value.isInt]
 |str s=>apply r.str_el;intro t;simp[kS,Value.isStrOf]
 |_=>exact ai hk
theorem jP{k:V}{v:Value}(hk:kS k v=true):VR sa h k v:=by
 rcases bA hk with⟨i,t,rfl,rfl⟩|⟨s,t,rfl,rfl⟩
 .exact s9 _ _
 .exact t6 _ _
noncomputable def bB(prog:Program)(w:World):@KeyKind prog w V bX :=
 @KeyKind.mk prog w V bX kS (aL w)
  (λv a b ha J=>by
   rcases bA ha with⟨i,t,rfl,rfl⟩|⟨s,t,rfl,rfl⟩ <;> rcases bA J with⟨j,u,rfl,e⟩|⟨s',u,rfl,e⟩
   .injection e with e;rw[e]
   .exact Value.noConfusion e
   .exact Value.noConfusion e
   .injection e with e;rw[bo e])
  (λk v h=>by rcases bA h with⟨i,t,rfl,rfl⟩|⟨s,t,rfl,rfl⟩ <;> rfl)
  (λ{A E s k v Q} B h=>by
   rcases bA B with⟨i,t,rfl,rfl⟩|⟨x,t,rfl,rfl⟩
   .exact wpAny_pyHash_int h
   .exact wpAny_pyHash_str h)
  (λ{A E s a b u v Q} O B h=>by
   rcases bA O with⟨i,t,rfl,rfl⟩|⟨x,t,rfl,rfl⟩
   .rcases bA B with⟨j,t',rfl,rfl⟩|⟨y,t',rfl,rfl⟩
    .refine wpAny_eqBool_int ?_;have e:(i==j)=@decide (V.int i=V.int j) (bX _ _):=by
      by_cases q:i=j
      .subst q;simp
      .obtain F:V.int i≠V.int j:=λz=>q (by injection z);simp[q]
     rw[e];exact h
    .refine SeqAt.EqAt.int_str (A:=A) (s:=s) i t (Str.ofString y) t' prog w E Q ?_;rw[show @decide (V.int i=V.str y) (bX _ _)=false from @decide_eq_false _ (bX _ _) (λz=>V.noConfusion z)]at h;exact h
   .rcases bA B with⟨j,t',rfl,rfl⟩|⟨y,t',rfl,rfl⟩
    .refine SeqAt.EqAt.str_int (A:=A) (s:=s) (Str.ofString x) t j t' prog w E Q ?_;rw[show @decide (V.str x=V.int j) (bX _ _)=false from @decide_eq_false _ (bX _ _) (λz=>V.noConfusion z)]at h;exact h
    .refine wpAny_eqBool_str ?_;have e:decide (Str.ofString x=Str.ofString y)=@decide (V.str x=V.str y) (bX _ _):=by
      by_cases q:x=y
      .subst q;simp
      .obtain Y:V.str x≠V.str y:=λz=>q (by injection z);obtain G:Str.ofString x≠Str.ofString y:=λz=>q (bo z);simp[q];exact G
     rw[e];exact h)
  (λk x t v h=>by
   rcases bA h with⟨i,t',rfl,e⟩|⟨s,t',rfl,e⟩
   .exact Value.noConfusion e
   .injection e with e;subst e;cases v <;> rfl)
end
section
variable{x:AO}
structure Sx where
 prog:Program
 w:World
 K:Frag
 base:Heap
 sad:Addr
 svs:List Int
 fn:String->Option Addr
 meth:String->String->Option Addr
 cls:String->Option Addr
 flds:String->List String
structure Cx extends Sx where
 X:Addr->Prop
 hX:∀b,X b->base.get? b=none
abbrev a8{α:Type}(L:Cx)(A:Around):Sem α->(α->Shared->Prop)->(a9)->Shared->Prop:=wpAny (model L.prog L.w) A
noncomputable abbrev Cx.sa(L:Cx):SX:=⟨L.sad,L.X⟩
noncomputable def ER(L:Cx)(h:Heap):List (V×V)->List DictEntry->Prop
 | [],l=>l=[]
 |(k,v)::r,l=>∃e es,l=e::es/\VR L.sa h k e.key/\e.hash=aL L.w k/\VR L.sa h v e.val/\ER L h r es
noncomputable def cV:V->Nat
 | .int _=>1
 | .str _=>1
 | .tup vs=>if aQ (.tup vs)&&decide (aD (.tup vs)<=8)then 2 else 0
 |_=>0
def dictOK(kvs:List (V×V)):Prop:=(kvs.map (·.1)).Nodup/\∃c,c≠0/\∀p∈kvs,cV p.1=c
noncomputable abbrev cE(cvs:Array Value)(n:Nat):Obj:={ cls:=.type "list",data:=.seq cvs n }
noncomputable abbrev bb(es:Array DictEntry)(n:Nat):Obj:={ cls:=.type "dict",data:=.dict es n }
def ORel(L:Cx)(h:Heap)(o:Obj):AO->Prop
 | .list vs=>∃cvs n,o=cE cvs n/\VRs L.sa h vs cvs.toList
 | .dict kvs=>∃es n,o=bb es n/\ER L h kvs es.toList/\dictOK kvs
 | .inst c dx=>∃C,L.cls c=some C/\o=instObj C dx
theorem ER.keep{L:Cx}(k:TupKeep L.sa h h'):∀{kvs:List (V×V)}{es:List DictEntry},ER L h kvs es->ER L h' kvs es
 | [],_,x=>x
 |(_,_)::_,_,x=>by refine pD x λe es aW a b c d=>?_;subst aW;exact(re e es rfl (a.keep k) b (c.keep k) (ER.keep k d))
theorem ORel.keep{L:Cx}(k:TupKeep L.sa h h')(r:ORel L h o x):ORel L h' o x:=by
 rcases x with vs|kvs|⟨c,dx⟩
 .refine cG r λc n e r=>?_;exact(eU c n e (r.keep k))
 .refine bM r λc n e r d=>?_;exact(bR c n e (r.keep k) d)
 .exact r
theorem ORel.notTup{L:Cx}(r:ORel L h o x):o.cls=.type "tuple"->(∃xs n,o.data=.seq xs n)->False:=by
 intro hc ⟨xs,n,hd⟩;rcases x with vs|kvs|⟨c,dx⟩
 .refine cG r λc n bS r=>?_;subst bS;simp at hc
 .refine cG r λc n cI r=>?_;subst cI;simp at hc
 .refine ah r λC _ cW=>?_;subst cW;simp at hc
theorem ORel.notFreed{L:Cx}(r:ORel L h o x):o.isFreed=false:=by
 rcases x with vs|kvs|⟨c,dx⟩
 .refine cG r λc n eJ r=>?_;subst eJ;rfl
 .refine cG r λc n B r=>?_;subst B;rfl
 .refine ah r λC _ F=>?_;subst F;rfl
structure aF(L:Cx)(H:AH)(h:Heap):Prop where
 base:∀b o,L.base.get? b=some o->h.get? b=some o
 fresh:∀b o,H b=some o->L.base.get? b=none
 obj:∀a o,H a=some o->∃ob,h.get? a=some ob/\ORel L h ob o
 ex:∀b,L.X b->h.get? b≠none
def aF.nx{L:Cx}{H:AH}(R:aF L H h){b:Addr}(e:h.get? b=none):¬L.X b:=λz=>R.ex b z e
structure ax(L:Cx)(own:Addr->Prop)(H H':AH)(s s':Shared):Prop where
 gens:s'.gens=s.gens
 os:s'.os=s.os
 keep:∀b o,s.heap.get? b=some o->H b=none->¬own b->s'.heap.get? b=some o
 dom:∀b o,H' b=some o->H b≠none\/s.heap.get? b=none
 mono:∀b,H b≠none->H' b≠none
 live:∀b,s.heap.get? b≠none->s'.heap.get? b≠none
 tup:TupKeep L.sa s.heap s'.heap
 rel:aF L H' s'.heap
abbrev eA:Addr->Prop:=λ_=>False
theorem aF.tup_none{L:Cx}{H:AH}(R:aF L H h){b:Addr}(e:h.get? b=some o)(hc:o.cls=.type "tuple")(hd:∃xs n,o.data=.seq xs n):H b=none:=by
 rcases B:H b with _|x
 .rfl
 .refine ah (R.obj b x B) λob e' r=>?_;obtain rfl:o=ob:=w4 (e.symm.trans e');exact(r.notTup hc hd).elim
namespace ax
variable{L:Cx}{own own':Addr->Prop}{H H'':AH}{s'':Shared}
theorem refl(R:aF L H s.heap):ax L own H H s s :=⟨rfl,rfl,(λ_ _ e _ _=>e),(λb o e=>.inl (by simp[e])),(λ_ h=>h),(λ_ h=>h),TupKeep.refl _ _,R⟩
theorem dom_none(a:ax L own H H' s s'){b:Addr}(e:s.heap.get? b=some o)(h:H b=none):H' b=none:=by
 rcases B:H' b with _|y
 .rfl
 .rcases a.dom b y B with z|z <;> simp_all
theorem trans(a:ax L own H H' s s')(b:ax L own H' H'' s' s''):ax L own H H'' s s'':=by
 refine⟨b.gens.trans a.gens,b.os.trans a.os,λx o e F ho=>b.keep x o (a.keep x o e F ho) (a.dom_none e F) ho,λx o e=>?_,
  λx h=>b.mono x (a.mono x h),λx h=>b.live x (a.live x h),a.tup.trans b.tup,b.rel⟩
 rcases b.dom x o e with z|z
 .rcases B:H' x with _|y
  .exact absurd B z
  .exact a.dom x y B
 .rcases hs:s.heap.get? x with _|o'
  .exact .inr rfl
  .exact absurd z (a.live x (by simp[hs]))
def weaken(a:ax L own H H' s s')(h:∀b,own b->own' b):ax L own' H H' s s' :=⟨a.gens,a.os,λx o e B ho=>a.keep x o e B λz=>ho (h x z),a.dom,a.mono,a.live,a.tup,a.rel⟩
def ofNo(a:ax L eA H H' s s'):ax L own H H' s s':=a.weaken λ_ z=>z.elim
end ax
section
variable{L:Cx}{own:Addr->Prop}{H:AH}
theorem t9(R:aF L H s.heap)(J:s'.gens=s.gens)(ho:s'.os=s.os)(k:∀b o,s.heap.get? b=some o->s'.heap.get? b=some o):ax L own H H s s':=by
 refine⟨J,ho,λb o e _ _=>k b o e,λb o e=>.inl (by simp[e]),λ_ h=>h,λb h=>?_,r8 k,?_⟩
 .rcases e:s.heap.get? b with _|o
  .exact absurd e h
  .rw[k b o e];simp
 .exact⟨λb o e=>k b o (R.base b o e),R.fresh,λa o e=>by refine ah (R.obj a o e) λob B F=>?_;exact(af ob (k a ob B) (F.keep (r8 k))),λb G=>by
   rcases e:s.heap.get? b with _|o
   .exact absurd e (R.ex b G)
   .rw[k b o e];simp⟩
theorem ax.change(R:aF L H s.heap){a:Addr}{x':AO}{ob':Obj}(Z:s'.gens=s.gens)(ho:s'.os=s.os)(G:H a=some x) (k:∀b o,b≠a->s.heap.get? b=some o->s'.heap.get? b=some o) (O:s'.heap.get? a=some ob') (r:ORel L s.heap ob' x'):ax L own H (H.set a x') s s':=by
 refine ah (R.obj a x G) λob h1 h2=>?_;have tk:TupKeep L.sa s.heap s'.heap:=λb o _ e hc hd=>by
  by_cases B:b=a
  .subst B;rw[R.tup_none e hc hd]at G;exact ns G
  .exact k b o B e
 refine⟨Z,ho,λb o e B _=>k b o (λz=>by rw[z,G]at B;exact sn B) e,λb o e=>?_,λb h=>?_,λb h=>?_,tk,⟨λb o e=>?_,λb o e=>?_,λb o e=>?_,λb B=>?_⟩⟩
 .by_cases B:b=a
  .subst B;exact .inl (by simp[G])
  .rw[r7 _ _ B]at e;exact .inl (by simp[e])
 .by_cases B:b=a
  .subst B;simp
  .rw[r7 _ _ B];exact h
 .by_cases B:b=a
  .subst B;rw[O];simp
  .cases e:s.heap.get? b with
   |none=>exact absurd e h
   |some o=>rw[k b o B e];simp
 .by_cases B:b=a
  .subst B;have:=R.fresh _ _ G;rw[e]at this;exact sn this
  .exact k b o B (R.base b o e)
 .by_cases B:b=a
  .subst B;exact R.fresh _ _ G
  .rw[r7 _ _ B]at e;exact R.fresh _ _ e
 .by_cases B:b=a
  .subst B;rw[AH.set_self]at e;obtain rfl:=w4 e;exact(af ob' O (r.keep tk))
  .rw[r7 _ _ B]at e;refine ah (R.obj b o e) λF Q Y=>?_;exact(af F (k b F B Q) (Y.keep tk))
 .by_cases J:b=a
  .subst J;rw[O];simp
  .cases e:s.heap.get? b with
   |none=>exact absurd e (R.ex b B)
   |some o=>rw[k b o J e];simp
theorem u1(R:aF L H s.heap){a:Addr}{ob:Obj}(hg:s'.gens=s.gens)(ho:s'.os=s.os)(G:s.heap.get? a=none) (k:∀b o,s.heap.get? b=some o->s'.heap.get? b=some o) (ha:s'.heap.get? a=some ob) (r:ORel L s'.heap ob x):ax L own H (H.set a x) s s'/\H a=none:=by
 have Z:H a=none:=by
  rcases e:H a with _|y
  .rfl
  .refine ah (R.obj a y e) λob' O _=>?_;rw[G]at O;exact ns O
 have J:L.base.get? a=none:=by
  rcases e:L.base.get? a with _|y
  .rfl
  .rw[R.base a y e]at G;exact sn G
 refine⟨⟨hg,ho,λb o e _ _=>k b o e,λb o e=>?_,λb h=>?_,λb h=>?_,r8 k,⟨λb o e=>k b o (R.base b o e),λb o e=>?_,λb o e=>?_,λb B=>?_⟩⟩,Z⟩
 .by_cases B:b=a
  .subst B;exact .inr G
  .rw[r7 _ _ B]at e;exact .inl (by simp[e])
 .by_cases B:b=a
  .subst B;simp
  .rw[r7 _ _ B];exact h
 .rcases e:s.heap.get? b with _|o
  .exact absurd e h
  .rw[k b o e];simp
 .by_cases B:b=a
  .subst B;exact J
  .rw[r7 _ _ B]at e;exact R.fresh _ _ e
 .by_cases B:b=a
  .subst B;rw[AH.set_self]at e;obtain rfl:=w4 e;exact(af ob ha r)
  .rw[r7 _ _ B]at e;refine ah (R.obj b o e) λF Q Y=>?_;exact(af F (k b F Q) (Y.keep (r8 k)))
 .rcases e:s.heap.get? b with _|o
  .exact absurd e (R.ex b B)
  .rw[k b o e];simp
end
end
variable{σ:Sx}{L:Cx}
section
set_option genCtorIdx false
noncomputable abbrev Loc:=String->Option V
noncomputable def Loc.put(l:Loc)(x:String)(v:V):Loc:=λy=>if y=x then some v else l y
@[simp] theorem Loc.put_self (l:Loc) (x:String) (v:V):l.put x v x=some v:=by simp[Loc.put]
theorem u2(l:Loc){y:String}(v:V)(h:y≠x):l.put x v y=l y:=by simp[Loc.put,h]
structure ae(L:Cx)(env:Env)(loc:Loc)(H:AH)(h:Heap):Prop where
 kind:env.scope.kind=.function
 glob:env.globals=mainGlobals
 blt:env.builtins=builtinsNs
 ns:∃m,h.Ns env.locals m/\∀x v,loc x=some v->env.kindOf (Str.ofString x)=some .local->∃cv,m (Str.ofString x)=some cv/\VR L.sa h v cv
 lH:H env.locals=none
 lB:L.base.get? env.locals=none
 above:L.base.objs.size<=env.locals
 cell:∀n c,env.cells.lookup n=some c->H c=none/\L.base.get? c=none/\∃cv,h.IsCell c cv
 cellv:∀x v,loc x=some v->(env.kindOf (Str.ofString x)=some .cell\/env.kindOf (Str.ofString x)=some .free) ->
  ∃c cv,env.cells.lookup (Str.ofString x)=some c/\h.IsCell c (some cv)/\VR L.sa h v cv
 hasCell:∀n,(env.kindOf n=some .cell\/env.kindOf n=some .free)->∃c,env.cells.lookup n=some c
 apart:env.cells.Pairwise λx y=>x.2≠y.2
def dO(env:Env):Addr->Prop:=λb=>b=env.locals\/∃n,env.cells.lookup n=some b
section
variable{loc:Loc}{H:AH}{own:Addr->Prop}
theorem ae.step(F:ae L env loc H s.heap)(S:ax L own H H' s s')(hl:∀m,s.heap.Ns env.locals m->s'.heap.Ns env.locals m)(hc:∀n c,env.cells.lookup n=some c->¬own c):ae L env loc H' s'.heap:=by
 refine ah F.ns λm Q hm=>?_;obtain Y:s.heap.get? env.locals≠none:=by refine nC Q λo _ _ e _=>?_;rw[e];simp
 refine⟨F.kind,F.glob,F.blt,(af m (hl m Q) (λx v e k=>?_)),?_,F.lB,F.above,λn c e=>?_,λx v e k=>?_,F.hasCell,F.apart⟩
 .refine ah (hm x v e k) λcv B G=>?_;exact(af cv B (G.keep S.tup))
 .refine nC Q λo _ _ e _=>?_;exact S.dom_none e F.lH
 .refine ia (F.cell n c e) λB G aW=>?_;refine cG aW λcv o J O=>?_;exact(cH (S.dom_none J B) G (eU cv o (S.keep _ _ J B (hc n c e)) O))
 .refine bM (F.cellv x v e k) λc cv B bS O=>?_;obtain⟨o,G,J⟩:=bS;exact(bR c cv B (af o (S.keep _ _ G (F.cell _ _ B).1 (hc _ _ B)) J) (O.keep S.tup))
structure aj(L:Cx)(env:Env)(H H':AH)(s s':Shared):Prop where
 st:ax L (λb=>b=env.locals) H H' s s'
 ns:∀m,s.heap.Ns env.locals m->s'.heap.Ns env.locals m
theorem aj.refl(R:aF L H s.heap):aj L env H H s s:=⟨ax.refl R,λ_ h=>h⟩
theorem aj.trans{H'':AH}{s'':Shared}(a:aj L env H H' s s')(b:aj L env H' H'' s' s''):aj L env H H'' s s'':=⟨a.st.trans b.st,λm h=>b.ns m (a.ns m h)⟩
theorem ax.toE(S:ax L eA H H' s s')(B:H env.locals=none):aj L env H H' s s' :=⟨S.ofNo,λm ⟨o,es,ep,e,r⟩=>(zz o es ep (S.keep _ _ e B (λz=>z)) r)⟩
theorem ae.cell_ne(F:ae L env loc H s.heap){n:Str}{c:Addr}(e:env.cells.lookup n=some c):c≠env.locals:=by rintro rfl;refine ah F.ns λ_ cI _=>?_;obtain⟨o,_,_,J,O,_⟩:=cI;refine ia (F.cell _ _ e) λ_ _ cW=>?_;refine cG cW λ_ o' B G=>?_;rw[J]at B;obtain rfl:=w4 B;rw[O]at G;cases G
theorem ae.top(F:ae L env loc H s.heap):∃b,L.base.objs.size<=b/\s.heap.get? b≠none :=⟨env.locals,F.above,by refine ah F.ns λm eJ _=>?_;obtain⟨o,_,_,e,_⟩:=eJ;rw[e];simp⟩
def ae.estep(F:ae L env loc H s.heap)(S:aj L env H H' s s'):ae L env loc H' s'.heap:=F.step S.st S.ns λ_ _ e=>F.cell_ne e
def ae.stepNo(F:ae L env loc H s.heap)(S:ax L eA H H' s s'):ae L env loc H' s'.heap:=F.estep (S.toE F.lH)
abbrev HR(L:Cx)(H:AH)(s:Shared)(Q:b8)(cv:Value)(s':Shared):Prop :=∃v H',Q v H'/\VR L.sa s'.heap v cv/\ax L eA H H' s s'
abbrev EPost(L:Cx)(env:Env)(H:AH)(s:Shared)(Q:b8)(cv:Value)(s':Shared):Prop :=∃v H',Q v H'/\VR L.sa s'.heap v cv/\aj L env H H' s s'
abbrev EPosts(L:Cx)(env:Env)(H:AH)(s:Shared)(Q:b9)(cvs:List Value)(s':Shared):Prop :=∃vs H',Q vs H'/\VRs L.sa s'.heap vs cvs/\aj L env H H' s s'
abbrev aI:Value->Shared->Prop:=λ_ _=>False
def Room(A:Around)(d:Nat):Prop:=A.handled=none/\A.depth+2*d<990/\A.units+10*d<9700
def uW(L:Cx)(H:AH)(s:Shared)(Q:b8)(r:Result)(s':Shared):Prop:=match r with
 | .ok (.ret v)=>HR L H s Q v s'
 |_=>False
def CallS(σ:Sx)(d:Nat)(f:Addr)(vs:List V)(H:AH)(Q:b8):Prop :=∀(X:Addr->Prop)(hX:∀b,X b->σ.base.get? b=none)(A:Around)(s:Shared)(cvs:List Value),Room A d->aF ⟨σ,X,hX⟩ H s.heap->(∃b,σ.base.objs.size<=b/\s.heap.get? b≠none)->VRs ⟨σ.sad,X⟩ s.heap vs cvs->codeAny (model σ.prog σ.w) A (.call (.ref f) ⟨cvs,[]⟩) (uW ⟨σ,X,hX⟩ H s Q) s
theorem CallS.mono{d:Nat}{f:Addr}{Q B:b8}(h:CallS σ d f vs H Q)(q:∀v H',Q v H'->B v H'):CallS σ d f vs H B :=
 λX hX A s cvs r R Γ V=>RN (h X hX A s cvs r R Γ V) λr s' hr=>by
  unfold uW at *;split at hr
  .refine bM hr λv H' a b c=>?_;exact(bR v H' (q v H' a) b c)
  .exact hr.elim
theorem Room.mono{A:Around}{d F:Nat}(r:Room A d)(h:F<=d):Room A F:=(cH r.1 (by obtain B:=r.2.1;exact OF h B) (by obtain B:=r.2.2;exact OG h B))
theorem CallS.room{d B:Nat}{f:Addr}{Q:b8}(h:CallS σ d f vs H Q)(q:d<=B):CallS σ B f vs H Q :=λX hX A s cvs r R Γ V=>h X hX A s cvs (r.mono q) R Γ V
def EPost.mono{Q B:b8}(h:EPost L env H s Q cv s')(q:∀v H',Q v H'->B v H'):EPost L env H s B cv s':=let⟨v,H',a,b,c⟩:=h;(bR v H' (q v H' a) b c)
def EPost.after{H₀:AH}{Q:b8}(S:aj L env H₀ H s₀ s)(h:EPost L env H s Q cv s'):EPost L env H₀ s₀ Q cv s':=let⟨v,H',a,b,c⟩:=h;(bR v H' a b (S.trans c))
def u3:=@EPost.after
def EPosts.after{H₀:AH}{Q:b9}{cv:List Value}(S:aj L env H₀ H s₀ s)(h:EPosts L env H s Q cv s'):EPosts L env H₀ s₀ Q cv s':=let⟨v,H',a,b,c⟩:=h;(bR v H' a b (S.trans c))
end
end
variable{loc l:Loc}
section
set_option genCtorIdx false
noncomputable def ay(kvs:List (V×V))(k:V):Option V:=(kvs.find? λp=>cu p.1 k).map (·.2)
noncomputable def dput(kvs:List (V×V))(k v:V):List (V×V) :=if kvs.any (λp=>cu p.1 k)then kvs.map (λp=>if cu p.1 k then(p.1,v)else p)else kvs++[(k,v)]
noncomputable def ddel(kvs:List (V×V))(k:V):List (V×V):=kvs.filter λp=>!cu p.1 k
def keyFits(kvs:List (V×V))(k:V):Prop:=cV k≠0/\∀p∈kvs,cV p.1=cV k
noncomputable def Dl(vs:List V)(n:Int):Option V:=if 0<=n then vs[n.toNat]? else if -n<=vs.length then vs[(vs.length+n).toNat]? else none
mutual
noncomputable def fA:V->V->Bool
 | .int i,.int j=>decide (i<j)
 | .str s,.str t=>decide (s<t)
 | .tup xs,.tup ys=>eT xs ys
 |_,_=>false
noncomputable def eT:List V->List V->Bool
 | [],_::_=>true
 |_,[]=>false
 |x::xs,y::ys=>if cu x y then eT xs ys else fA x y
end
mutual
noncomputable def cy:V->V->Bool
 | .int _,.int _=>true
 | .str _,.str _=>true
 | .tup xs,.tup ys=>fG xs ys
 |_,_=>false
noncomputable def fG:List V->List V->Bool
 |x::xs,y::ys=>cy x y&&fG xs ys
 |_,_=>true
end
noncomputable def uJ(x:V):List V->List V
 | []=>[x]
 |y::ys=>if fA y x=true then y::uJ x ys else x::y::ys
noncomputable def aH:List V->List V
 | []=>[]
 |x::xs=>uJ x (aH xs)
noncomputable def aM:List V->List V
 | []=>[]
 |v::vs=>v::(aM vs).filter λw=>!cu w v
noncomputable def lF:V->Bool
 | .tup []=>false
 |_=>true
def sortable(vs:List V):Prop:=vs.length<64/\(∀x∈vs,aQ x=true/\aD x<=8)/\(vs.length<2\/∀x∈vs,lF x=true)/\∀x∈vs,∀y∈vs,cy x y=true
def iS(vs:List V):Prop:=bO vs=true/\bx vs<=8
def gf(v:V):Prop:=dA v=true/\aD v<=8
noncomputable def lQ(v:V)(vs:List V):Bool:=vs.any λy=>cu y v
noncomputable abbrev aG:List String:=["a","b","c","f","g","h"]
noncomputable abbrev jN:List String:=["a","b","c","f","g","h","?x","?y","abc"]
noncomputable def kr(n:Nat):List V:=(List.range n).map λ(i:Nat)=>V.int (i:Int)
section
variable(H:AH)(Q:b8)
def Ce:V->(Int->Prop)->Prop
 | .int i,P=>P i
 |_,_=>False
def Nx:V->(List V->Prop)->Prop
 | .tup i,P=>P i
 |_,_=>False
def Nw:V->(Addr->Prop)->Prop
 | .ref i,P=>P i
 |_,_=>False
def fresh(o:AO):Prop:=∀c,H c=none->Q (.ref c) (H.set c o)
def yf:BOp->V->V->Prop
 | .add,v,w=>match v with
  | .int i=>Ce w λj=>Q (.int (i+j)) H
  | .tup x=>Nx w λy=>x.length+y.length<=1000/\Q (.tup (x++y)) H
  | .ref a=>Nw w λb=>∃x y,H a=some (.list x)/\H b=some (.list y)/\x.length+y.length<=2^20/\fresh H Q (.list (x++y))
  |_=>False
 | .sub,v,w=>Ce v λi=>Ce w λj=>Q (.int (i-j)) H
 | .mul,v,w=>Ce v λi=>Ce w λj=>i.natAbs<2^60/\j.natAbs<2^60/\Q (.int (i*j)) H
 | .fdiv,v,w=>Ce v λi=>Ce w λj=>0<j/\j<1000/\Q (.int (i/j)) H
 | .mod,v,w=>Ce v λi=>Ce w λj=>0<j/\Q (.int (i%j)) H
noncomputable def Iv(v w:V)(Q:Bool->Prop):Prop :=
 match v,w with
 | .ref a,.ref b=>∃x y,H a=some (.list x)/\H b=some (.list y)/\iS x/\iS y/\Q (cu (.tup x) (.tup y))
 |v,w=>gf v/\gf w/\Q (cu v w)
def Ox(v w:V)(Q:Bool->Prop):Prop :=
 match w with
 | .ref a=>(∃vs,H a=some (.list vs)/\gf v/\iS vs/\Q (lQ v vs))\/(∃kvs,H a=some (.dict kvs)/\keyFits kvs v/\Q (ay kvs v).isSome)
 | .str t=>t="()[]{},:"/\(∃x,v=.str x/\x∈aG)/\Q false
 |_=>False
noncomputable def eZ(op:COp)(v w:V)(Q:Bool->Prop):Prop :=
 match op with
 | .eq=>Iv H v w Q
 | .ne=>Iv H v w λb=>Q (!b)
 | .lt=>∃i j,v=.int i/\w=.int j/\Q (decide (i<j))
 | .le=>∃i j,v=.int i/\w=.int j/\Q (decide (i<=j))
 | .gt=>∃i j,v=.int i/\w=.int j/\Q (decide (j<i))
 | .ge=>∃i j,v=.int i/\w=.int j/\Q (decide (j<=i))
 | .is=>w=.none/\Q (cu v .none)
 | .isin=>Ox H v w Q
 | .notin=>Ox H v w λb=>Q (!b)
def vx(v i:V):Prop :=
 match v with
 | .tup vs=>∃n x,i=.int n/\n.natAbs<2^60/\Dl vs n=some x/\Q x H
 | .str s=>s∈jN/\∃n c,i=.int n/\0<=n/\n<3/\s.toList[n.toNat]?=some c/\Q (.str (String.ofList [c])) H
 | .ref a=>(∃vs n x,H a=some (.list vs)/\i=.int n/\n.natAbs<2^60/\Dl vs n=some x/\Q x H)\/(∃kvs x,H a=some (.dict kvs)/\keyFits kvs i/\ay kvs i=some x/\Q x H)
 |_=>False
def Hm(L:Sx)(v:V)(lo hi:Option Nat):Prop :=
 match v with
 | .tup vs=>vs.length<=1000/\1<=vs.length/\lo=some 1/\hi=none/\Q (.tup (vs.drop 1)) H
 | .str s=>s∈jN/\lo=none/\hi=some 1/\Q (.str (String.ofList (s.toList.take 1))) H
 | .scr=>lo=none/\∃n,hi=some n/\n<=1000/\fresh H Q (.list ((L.svs.take n).map .int))
 |_=>False
def zK(L:Sx)(v:V)(f:String):Prop :=∃a c dx kvs x,v=.ref a/\H a=some (.inst c dx)/\f∈L.flds c/\H dx=some (.dict kvs)/\ay kvs (.str f)=some x/\Q x H
inductive RK where|inst (c:String)|list|dict|str
def qO(L:Sx)(v:V)(m:String):RK->Prop
 | .inst c=>∃a dx kvs,v=.ref a/\H a=some (.inst c dx)/\H dx=some (.dict kvs)/\(∀p∈kvs,cV p.1=1)/\ay kvs (.str m)=none/\(L.meth c m).isSome
 | .list=>m∈["append","extend","pop","index"]/\∃a vs,v=.ref a/\H a=some (.list vs)
 | .dict=>m∈["get","setdefault","pop"]/\∃a kvs,v=.ref a/\H a=some (.dict kvs)
 | .str=>m="isspace"/\∃s,v=.str s
def xj(v:V)(m:String)(args:List V):Prop :=
 ∃a vs,v=.ref a/\H a=some (.list vs) /\
  ((m="append"/\∃x,args=[x]/\vs.length<2^20/\Q .none (H.set a (.list (vs++[x])))) \/
   (m="extend"/\∃b ws,args=[.ref b]/\a≠b/\H b=some (.list ws)/\vs.length+ws.length<=2^20/\Q .none (H.set a (.list (vs++ws)))) \/
   (m="pop"/\∃ws x,args=[]/\vs=ws++[x]/\vs.length<=2^20/\Q x (H.set a (.list ws))) \/
   (m="index"/\∃x n,args=[x]/\aQ x=true/\aD x<=8/\bz vs=true/\vs.length<=2^20/\vs.findIdx? (λy=>cu y x)=some n/\Q (.int n) H))
def Et(v:V)(m:String)(args:List V):Prop :=
 ∃a kvs,v=.ref a/\H a=some (.dict kvs) /\
  ((m="get"/\∃k dv,args=[k,dv]/\keyFits kvs k/\Q ((ay kvs k).getD dv) H) \/
   (m="setdefault"/\∃k dv,args=[k,dv]/\keyFits kvs k/\kvs.length<2^20/\Q ((ay kvs k).getD dv) (match ay kvs k with|some _=>H|none=>H.set a (.dict (kvs++[(k,dv)])))) \/
   (m="pop"/\∃k x,args=[k]/\cV k=1/\kvs.length<2^20/\ay kvs k=some x/\Q x (H.set a (.dict (ddel kvs k)))))
def tN(L:Sx)(d:Nat)(k:RK)(v:V)(m:String)(args:List V):Prop :=
 match k with
 | .inst c=>∃f,L.meth c m=some f/\CallS L d f (v::args) H Q
 | .list=>xj H Q v m args
 | .dict=>Et H Q v m args
 | .str=>m="isspace"/\args=[]/\(∃s,v=.str s/\s∈aG)/\Q (.bool false) H
noncomputable def aY(kvs:List (V×V)):List V:=kvs.map λp=>.tup [p.1,p.2]
def br(kvs:List (V×V)):Prop:=∀p∈kvs,cV p.1=1
def iT:Prim->V->Prop
 | .len,.tup vs=>vs.length<=2^20/\Q (.int vs.length) H
 | .len,.ref a=>∃vs,H a=some (.list vs)/\vs.length<=2^21/\Q (.int vs.length) H
 | .sum,.ref a=>∃ns:List Int,H a=some (.list (ns.map .int))/\Q (.int ns.sum) H
 | .max,.ref a=>∃(i:Int)(ns:List Int),H a=some (.list ((i::ns).map .int))/\∀M,M∈i::ns->(∀x∈i::ns,x<=M)->Q (.int M) H
 | .int,.int i=>Q (.int i) H
 | .tuple,.tup vs=>Q (.tup vs) H
 | .tuple,.ref a=>∃vs,H a=some (.list vs)/\vs.length<=16384/\Q (.tup vs) H
 | .listItems,.ref a=>∃kvs,H a=some (.dict kvs)/\br kvs/\kvs.length<=1000/\fresh H Q (.list (aY kvs))
 | .dict,.ref a=>∃kvs,(H a=some (.dict kvs)\/(H a=some (.list (aY kvs))/\(kvs.map (·.1)).Nodup))/\br kvs/\kvs.length<=1000/\fresh H Q (.dict kvs)
 | .sorted,.ref a=>(∃vs,H a=some (.list vs)/\sortable vs/\fresh H Q (.list (aH vs)))\/∃kvs,H a=some (.dict kvs)/\sortable (kvs.map (·.1))/\fresh H Q (.list (aH (kvs.map (·.1))))
 | .sortedItems,.ref a=>∃kvs,H a=some (.dict kvs)/\br kvs/\sortable (aY kvs)/\fresh H Q (.list (aH (aY kvs)))
 | .sortedSet,.ref a=>∃vs,H a=some (.list vs)/\sortable vs/\fresh H Q (.list (aH (aM vs)))
 |_,_=>False
end
mutual
noncomputable def bm:Tgt->V->Loc->Option Loc
 | .nm x,v,l=>some (l.put x v)
 | .tp ts,v,l=>match v with | .tup vs=>eX ts vs l|_=>none
noncomputable def eX:Tgts->List V->Loc->Option Loc
 | .nil,vs,l=>match vs with | []=>some l|_::_=>none
 | .cons t ts,vs,l=>match vs with | []=>none|v::vs=>(bm t v l).bind λl=>eX ts vs l
end
noncomputable def Loc.drop(l:Loc)(xs:List String):Loc:=λy=>if y∈".0"::xs then none else l y
noncomputable abbrev pX:=Option (Addr×List V)
def dC(s:pX)(H:AH):Prop:=match s with|none=>True|some (a,vs)=>H a=some (.list vs)
noncomputable def fh(src:pX)(step:V->AH->(AH->Prop)->Prop):List V->AH->(AH->Prop)->Prop
 | [],H,K=>dC src H/\K H
 |x::xs,H,K=>dC src H/\step x H λH'=>fh src step xs H' K
inductive Fl where|next|ret (v:V)
noncomputable def og(src:pX)(step:V->Loc->AH->(Fl->Loc->AH->Prop)->Prop):List V->Loc->AH->(Fl->Loc->AH->Prop)->Prop
 | [],l,H,K=>dC src H/\K .next l H
 |x::xs,l,H,K=>dC src H/\step x l H λfl l' H'=>match fl with | .next=>og src step xs l' H' K | .ret v=>K (.ret v) l' H'
def iF(v:V)(H:AH)(K:pX->List V->AH->Prop):Prop :=
 match v with
 | .tup vs=>vs.length<=2^20/\K none vs H
 | .str s=>s∈aG/\K none [.str s] H
 | .ref a=>∃vs,H a=some (.list vs)/\vs.length<=2^20/\K (some (a,vs)) vs H
 |_=>False
noncomputable def ie(vs:List V):List V:=vs.zipIdx.map λp=>.tup [.int p.2,p.1]
noncomputable def ij(vs ws:List V):List V:=(vs.zip ws).map λp=>.tup [p.1,p.2]
mutual
noncomputable def ba(L:Sx)(d:Nat):ME->Loc->AH->(b8)->Prop
 | .cst v,_,H,Q=>Q v H
 | .neg i,_,H,Q=>Q (.int (-i)) H
 | .var x,l,H,Q=>∃v,l x=some v/\Q v H
 | .tup es,l,H,Q=>dM L d es l H λvs H'=>Q (.tup vs) H'
 | .lst es,l,H,Q=>dM L d es l H λvs H'=>fresh H' Q (.list vs)
 | .dct ks vs,l,H,Q=>dM L d ks l H λkk _=>dM L d vs l H λB H'=>dictOK (kk.zip B)/\br (kk.zip B)/\kk.length=B.length/\kk.length<=15/\fresh H' Q (.dict (kk.zip B))
 | .bin op a b,l,H,Q=>ba L d a l H λv H1=>ba L d b l H1 λw H2=>yf H2 Q op v w
 | .cmp1 op a b,l,H,Q=>ba L d a l H λv H1=>ba L d b l H1 λw H2=>eZ H2 op v w λt=>Q (.bool t) H2
 | .cmp2 a o1 b o2 c,l,H,Q=>ba L d a l H λv H1=>ba L d b l H1 λw H2=>eZ H2 o1 v w λt =>
   if t=true then ba L d c l H2 λu H3=>eZ H3 o2 w u λt'=>Q (.bool t') H3 else Q (.bool false) H2
 | .and2 a b,l,H,Q=>ba L d a l H λv H1=>∃t,v=.bool t/\if t=true then ba L d b l H1 Q else Q (.bool false) H1
 | .or2 a b,l,H,Q=>ba L d a l H λv H1=>∃t,v=.bool t/\if t=true then Q (.bool true) H1 else ba L d b l H1 Q
 | .not1 a,l,H,Q=>ba L d a l H λv H1=>∃t,v=.bool t/\Q (.bool (!t)) H1
 | .ite c a b,l,H,Q=>sD L d c l H λt H1=>if t=true then ba L d a l H1 Q else ba L d b l H1 Q
 | .idx a i,l,H,Q=>ba L d a l H λv H1=>ba L d i l H1 λj H2=>vx H2 Q v j
 | .slc a lo hi,l,H,Q=>ba L d a l H λv H1=>Hm H1 Q L v lo hi
 | .attr a f,l,H,Q=>ba L d a l H λv H1=>zK H1 Q L v f
 | .comp elt g,l,H,Q=>HI L d g l H (λH1 K=>fresh H1 (λv H2=>∃c,v=.ref c/\K c H2) (.list []))
   (λc l' H' K=>ba L d elt l' H' λv H''=>∃vs,H'' c=some (.list vs)/\vs.length<2^20/\K (H''.set c (.list (vs++[v])))) λc H'=>Q (.ref c) H'
 | .call f args,l,H,Q=>∃a,L.fn f=some a/\dM L d args l H λvs H1=>CallS L d a vs H1 Q
 | .new c args,l,H,Q=>∃C f F,d=F+1/\L.cls c=some C/\L.meth c "__init__"=some f/\dM L d args l H λvs H1=>∀x dx,H1 x=none->H1 dx=none->x≠dx ->
   CallS L F f (.ref x::vs) ((H1.set dx (.dict [])).set x (.inst c dx)) λr H2=>r=.none/\Q (.ref x) H2
 | .meth o m args,l,H,Q=>ba L d o l H λv H1=>∃k,qO H1 L v m k/\dM L d args l H1 λvs H2=>tN H2 Q L d k v m vs
 | .prim p a,l,H,Q=>ba L d a l H λv H1=>iT H1 Q p v
noncomputable def dM(L:Sx)(d:Nat):MEs->Loc->AH->(b9)->Prop
 | .nil,_,H,Q=>Q [] H
 | .cons e r,l,H,Q=>ba L d e l H λv H1=>dM L d r l H1 λvs H2=>Q (v::vs) H2
noncomputable def sD(L:Sx)(d:Nat):ME->Loc->AH->(Bool->AH->Prop)->Prop
 | .not1 a,l,H,Q=>sD L d a l H λt H1=>Q (!t) H1
 | .and2 a b,l,H,Q=>sD L d a l H λt H1=>if t=true then sD L d b l H1 Q else Q false H1
 | .or2 a b,l,H,Q=>sD L d a l H λt H1=>if t=true then Q true H1 else sD L d b l H1 Q
 | .cmp1 op a b,l,H,Q=>ba L d a l H λv H1=>ba L d b l H1 λw H2=>eZ H2 op v w λt=>Q t H2
 | .cmp2 a o1 b o2 c,l,H,Q=>ba L d a l H λv H1=>ba L d b l H1 λw H2=>eZ H2 o1 v w λt =>
   if t=true then ba L d c l H2 λu H3=>eZ H3 o2 w u λt'=>Q t' H3 else Q false H2
 | .var x,l,H,Q=>∃t,l x=some (.bool t)/\Q t H
 | .call f args,l,H,Q=>∃a,L.fn f=some a/\dM L d args l H λvs H1=>CallS L d a vs H1 λv H2=>∃t,v=.bool t/\Q t H2
 | .meth o m args,l,H,Q=>ba L d o l H λv H1=>∃k,qO H1 L v m k/\dM L d args l H1 λvs H2=>tN H2 (λv H2=>∃t,v=.bool t/\Q t H2) L d k v m vs
 |_,_,_,_=>False
noncomputable def HI(L:Sx)(d:Nat):Gens->Loc->AH->(AH->(Addr->AH->Prop)->Prop)->(Addr->Loc->AH->(AH->Prop)->Prop)->(Addr->AH->Prop)->Prop
 | .one t it c,l,H,mk,emit,K=>lR L d it l H λsrc vs H1=>mk H1 λa H2=>fh src (λx H' k=>∃l',bm t x (l.drop (dU t))=some l'/\ya L d c l' H' λok H''=>if ok=true then emit a l' H'' k else k H'') vs H2 λH3=>K a H3
 | .more t it r,l,H,mk,emit,K=>lR L d it l H λsrc vs H1=>mk H1 λa H2=>fh src (λx H' k=>∃l',bm t x (l.drop (dU t++fk r))=some l'/\NY L d r l' H' (emit a) k) vs H2 λH3=>K a H3
noncomputable def NY(L:Sx)(d:Nat):Gens->Loc->AH->(Loc->AH->(AH->Prop)->Prop)->(AH->Prop)->Prop
 | .one t it c,l,H,emit,K=>lR L d it l H λsrc vs H1=>fh src (λx H' k=>∃l',bm t x (l.drop (dU t))=some l'/\ya L d c l' H' λok H''=>if ok=true then emit l' H'' k else k H'') vs H1 K
 | .more t it r,l,H,emit,K=>lR L d it l H λsrc vs H1=>fh src (λx H' k=>∃l',bm t x (l.drop (dU t++fk r))=some l'/\NY L d r l' H' emit k) vs H1 K
noncomputable def ya(L:Sx)(d:Nat):Option ME->Loc->AH->(Bool->AH->Prop)->Prop
 |none,_,H,Q=>Q true H
 |some c,l,H,Q=>sD L d c l H Q
noncomputable def lR(L:Sx)(d:Nat):MIt->Loc->AH->(pX->List V->AH->Prop)->Prop
 | .exp e,l,H,K=>ba L d e l H λv H1=>iF v H1 K
 | .rng e,l,H,K=>ba L d e l H λv H1=>∃n,v=.int n/\0<=n/\n<=1000/\K none (kr n.toNat) H1
 | .zip a b,l,H,K=>ba L d a l H λv H1=>ba L d b l H1 λw H2=>∃vs ws,v=.tup vs/\w=.tup ws/\vs.length<=1000/\ws.length<=1000/\K none (ij vs ws) H2
 | .enum e,l,H,K=>ba L d e l H λv H1=>∃a vs,v=.ref a/\H1 a=some (.list vs)/\vs.length<=1000/\K (some (a,vs)) (ie vs) H1
end
end
variable{K:Fl->Loc->AH->Prop}{src:pX}
section
variable{m:Str->Option Value}{news':List (Addr×Obj)}
noncomputable def dh(base:Heap)(Γ:Addr)(h:Heap):List (Addr×Obj) :=(List.range h.objs.size).filterMap λb=>if b=Γ\/(base.get? b).isSome=true then none else(h.get? b).map λo=>(b,o)
theorem gQ{base:Heap}{Γ b:Addr}:(b,o)∈dh base Γ h↔h.get? b=some o/\b≠Γ/\base.get? b=none:=by
 unfold dh;rw[List.mem_filterMap];constructor
 .rintro⟨c,_,e⟩;split at e
  .exact ns e
  .rename_i G;refine ah (E3.mp e) λo' B F=>?_;cases F;exact(cH B (λz=>G (.inl z)) (by cases q:base.get? b with|none=>rfl|some _=>exact absurd (.inr (by simp[q])) G))
 .rintro⟨B,F,J⟩;refine(af b (F8.mpr (I4 B)) ?_);rw[if_neg (by simp[F,J]),B];rfl
theorem bT{base:Heap}{Γ:Addr}:News base Γ h (dh base Γ h):=λp hp=>by obtain⟨a,o⟩:=p;exact gQ.mp hp
theorem rn(base h:Heap)(Γ:Addr):((dh base Γ h).map (·.1)).Nodup:=by
 refine List.Pairwise.map _ (R:=λp q=>p.1≠q.1) (λ_ _ h=>h) ?_;refine List.Pairwise.filterMap _ (S:=λp q:Addr×Obj=>p.1≠q.1) ?_ List.nodup_range;intro a a' F b G b' B;have key:∀{x:Addr}{p:Addr×Obj},(if x=Γ\/(base.get? x).isSome=true then none else(h.get? x).map λo=>(x,o))=some p->p.1=x:=by
  intro x p hp;split at hp
  .exact ns hp
  .refine ah (E3.mp hp) λo _ e=>?_;rw[<- e]
 rw[key G,key B];exact F
section
variable{H:AH}
theorem ae.fr(F:ae L env loc H s.heap)(R:aF L H s.heap):∃m,s.heap.Ns env.locals m/\Fr L.base env.locals s.heap m:=by refine ah F.ns λm B _=>?_;exact(af m B ⟨B,R.base,F.above⟩)
theorem Ns.uniq{a:Addr}{B:Str->Option Value}(x:h.Ns a m)(y:h.Ns a B):m=B:=by refine uV x λo es ep J O _ Q=>?_;refine uV y λo' G F k1 k2 _ Y=>?_;rw[J]at k1;obtain rfl:=w4 k1;rw[O]at k2;injection k2 with k2;subst k2;funext n;rw[<- Q n,<- Y n]
theorem wY{B:Addr}(R:aF L H h)(F:Fr L.base B h' m)(G:News L.base B h' news') (P:Addr->Prop) (hs:∀p∈dh L.base B h,¬P p.1->p∈news') (b:Addr) (o:Obj) (e:h.get? b=some o) (J:b≠B) (hp:¬P b):h'.get? b=some o:=by
 cases q:L.base.get? b with
 |some o' =>
  have:=R.base b o' q
  rw[e]at this;obtain rfl:=w4 this;exact F.keep b o q
 |none=>exact(G _ (hs _ (gQ.mpr (cH e J q)) hp)).1
theorem u5(F:ae L env loc H s.heap)(R:aF L H s.heap)(hm:s.heap.Ns env.locals m){tk:Nat} (B:Fr L.base env.locals h' m) (N':News L.base env.locals h' news') (hs:∀p∈dh L.base env.locals s.heap,p∈news'):aj L env H H s { s with heap:=h',toks:=tk }:=by
 have k:=wY R B N' (λ_=>False) (λp hp _=>hs p hp);have G:TupKeep L.sa s.heap h':=λb o _ e hc hd=>by refine k b o e ?_ (λz=>z);rintro rfl;refine Ef hm λo' es ep J Q _=>?_;rw[e]at J;obtain rfl:=w4 J;refine sI hd λ_ _ hd=>?_;rw[Q]at hd;cases hd
 refine⟨⟨rfl,rfl,λb o e _ ho=>k b o e ho (λz=>z),λb o e=>.inl (by simp[e]),λ_ h=>h,λb h=>?_,G,⟨B.keep,R.fresh,λa o e=>?_,λb O=>?_⟩⟩,λm' Y=>?_⟩
 .by_cases O:b=env.locals
  .subst O;obtain⟨o,_,_,e,_⟩:=B.ns;rw[e];simp
  .cases e:s.heap.get? b with
   |none=>exact absurd e h
   |some o =>rw[k b o e O (λz=>z)];simp
 .refine ah (R.obj a o e) λob J Q=>?_;exact(af ob (k a ob J (λz=>by rw[z,F.lH]at e;cases e) (λz=>z)) (Q.keep G))
 .by_cases Z:b=env.locals
  .subst Z;obtain⟨o,_,_,e,_⟩:=B.ns;rw[e];simp
  .cases e:s.heap.get? b with
   |none=>exact absurd e (R.ex b O)
   |some o=>rw[k b o e Z (λz=>z)];simp
 .rw[Ns.uniq Y hm];exact B.ns
theorem u6(F:ae L env loc H s.heap)(R:aF L H s.heap)(hm:s.heap.Ns env.locals m){tk:Nat}{D:Addr}{ob:Obj}{x:AO} (Q:Fr L.base env.locals h' m) (G:News L.base env.locals h' news') (hs:∀p∈dh L.base env.locals s.heap,p∈news') (Y:(D,ob)∈news') (O:s.heap.get? D=none) (r:ORel L h' ob x):aj L env H (H.set D x) s { s with heap:=h',toks:=tk }/\H D=none:=by
 have S:=u5 F R hm (tk:=tk) Q G hs;have Z:H D=none:=by
  rcases e:H D with _|y
  .rfl
  .refine ah (R.obj D y e) λob' J _=>?_;rw[O]at J;cases J
 obtain nd:=G _ Y;refine⟨⟨⟨rfl,rfl,S.st.keep,λb o e=>?_,λb h=>?_,S.st.live,S.st.tup,⟨S.st.rel.base,λb o e=>?_,λb o e=>?_,S.st.rel.ex⟩⟩,S.ns⟩,Z⟩
 .by_cases B:b=D
  .subst B;exact .inr O
  .rw[r7 _ _ B]at e;exact .inl (by simp[e])
 .by_cases B:b=D
  .subst B;simp
  .rw[r7 _ _ B];exact h
 .by_cases B:b=D
  .subst B;exact nd.2.2
  .rw[r7 _ _ B]at e;exact R.fresh _ _ e
 .by_cases B:b=D
  .subst B;rw[AH.set_self]at e;obtain rfl:=w4 e;exact(af ob nd.1 r)
  .rw[r7 _ _ B]at e;exact S.st.rel.obj b o e
theorem ma{F:Addr}{D:Addr}(R:aF L H h)(G:D≠F)(J:L.base.get? D=none)(B:∀p∈dh L.base F h,p.1<D):h.get? D=none:=by
 rcases e:h.get? D with _|o
 .rfl
 .exact absurd (B _ (gQ.mpr (cH e G J))) (Nat.lt_irrefl _)
theorem wE{base:Heap}{Γ d:Addr}{o':Obj}(hd:(d,o)∈dh base Γ h):∃news',Upd d o o' (dh base Γ h) news'/\(d,o')∈news'/\∀p∈dh base Γ h,p.1≠d->p∈news':=by
 obtain nd:=rn base h Γ;revert nd hd;generalize dh base Γ h=l;intro hd nd;induction l with
 |nil=>exact absurd hd A7
 |cons p r O =>
  rw[E2,E8]at nd;by_cases hp:p.1=d
  .have e:p=(d,o):=by
    rcases C0.mp hd with e|e
    .exact e.symm
    .exact absurd (w3.mpr ⟨_,e,hp.symm⟩) nd.1
   subst e;refine(aN ((d,o')::r) (.head λq hq z=>nd.1 (w3.mpr (af q hq z))) (.head _) (λq hq B=>?_));rcases C0.mp hq with rfl|hq
   .exact absurd rfl B
   .exact .tail _ hq
  .rcases C0.mp hd with e|e
   .exact absurd (by rw[<- e]) hp
   .refine bE (O e nd.2) λn' F G J=>?_;refine(aN (p::n') (.tail hp F) (.tail _ G) (λq hq B=>?_));rcases C0.mp hq with rfl|hq
    .exact .head _
    .exact .tail _ (J q hq B)
theorem aj.updNews(F:ae L env loc H s.heap)(R:aF L H s.heap)(hm:s.heap.Ns env.locals m){tk:Nat}{d:Addr}{ob':Obj}{x x':AO} (Y:Fr L.base env.locals h' m) (N':News L.base env.locals h' news') (hs:∀p∈dh L.base env.locals s.heap,p.1≠d->p∈news') (hD:(d,ob')∈news') (O:H d=some x) (r:ORel L s.heap ob' x'):aj L env H (H.set d x') s { s with heap:=h',toks:=tk }:=by
 have k:=wY R Y N' (λb=>b=d) hs;have hLd:env.locals≠d:=λz=>by rw[<- z,F.lH]at O;cases O
 have Q:TupKeep L.sa s.heap h':=λb o _ e hc hd=>by
  refine k b o e ?_ ?_
  .rintro rfl;refine Ef hm λo' es ep h1 h2 _=>?_;rw[e]at h1;obtain rfl:=w4 h1;refine sI hd λ_ _ hd=>?_;rw[h2]at hd;cases hd
  .rintro rfl;rw[R.tup_none e hc hd]at O;cases O
 have nd:=N' _ hD;refine⟨⟨rfl,rfl,λb o e B ho=>k b o e ho (λz=>by rw[z,O]at B;exact sn B),λb o e=>?_,λb h=>?_,λb h=>?_,Q,⟨Y.keep,λb o e=>?_,λb o e=>?_,λb B=>?_⟩⟩,λm' Z=>?_⟩
 .by_cases B:b=d
  .subst B;exact .inl (by simp[O])
  .rw[r7 _ _ B]at e;exact .inl (by simp[e])
 .by_cases B:b=d
  .subst B;simp
  .rw[r7 _ _ B];exact h
 .show h'.get? _≠none;by_cases B:b=env.locals
  .subst B;refine nC Y.ns λo _ _ e _=>?_;rw[e];simp
  .by_cases G:b=d
   .rw[G,nd.1];simp
   .rcases e:s.heap.get? b with _|o
    .exact absurd e h
    .rw[k b o e B G];simp
 .by_cases B:b=d
  .subst B;exact R.fresh _ _ O
  .rw[r7 _ _ B]at e;exact R.fresh _ _ e
 .by_cases B:b=d
  .subst B;rw[AH.set_self]at e;obtain rfl:=w4 e;exact(af ob' nd.1 (r.keep Q))
  .rw[r7 _ _ B]at e;refine ah (R.obj b o e) λJ h3 h4=>?_;exact(af J (k b J h3 (λz=>by rw[z,F.lH]at e;cases e) B) (h4.keep Q))
 .by_cases hL:b=env.locals
  .subst hL;refine nC Y.ns λo _ _ e _=>?_;rw[e];simp
  .by_cases G:b=d
   .rw[G,nd.1];simp
   .rcases e:s.heap.get? b with _|o
    .exact absurd e (R.ex b B)
    .rw[k b o e hL G];simp
 .rw[Ns.uniq Z hm];exact Y.ns
end
end
section
variable{cw:Value}{w:V}
set_option tactic.hygienic true
structure FldOK(K:Frag)(C:Addr)(name:Str):Prop where
 g:plainGet K C name=true
 hd:hasDictIn K C=true
 nf:∃attr,findIn K (.ref C) name=some attr/\noGet K attr=true
 st:findIn K (.ref C) "__setattr__"=some (some (.builtin "object.__setattr__"))
 po:plainOver K C=true
 tk:takerIn K C name=some none
structure MthOK(K:Frag)(C:Addr)(name:Str)(f:Addr):Prop where
 g:plainGet K C name=true
 nf:findIn K (.ref C) name=some (some (.ref f))
 fn:isFn K (.ref f)=true
 kp:keepIn K (.ref f)=true
structure MkOK(K:Frag)(C:Addr)(f:Addr):Prop where
 mks:makesIn K C=true
 nf:findIn K (.ref C) "__init__"=some (some (.ref f))
 fn:typeIn K (.ref f)=some (.type "function")
 kp:keepIn K (.ref C)=true
structure aO(L:Sx):Prop where
 kin:L.K.In L.base
 fld:∀c C f,L.cls c=some C->f∈L.flds c->FldOK L.K C (Str.ofString f)
 mth:∀c C m a,L.cls c=some C->L.meth c m=some a->MthOK L.K C (Str.ofString m) a
 mks:∀c C f,L.cls c=some C->L.meth c "__init__"=some f->MkOK L.K C f
 nolim:L.base.NoLimit
 ns:∃mg mb,L.base.Ns mainGlobals mg/\L.base.Ns builtinsNs mb/\(∀f a,L.fn f=some a->mg (Str.ofString f)=some (.ref a)/\keepIn L.K (.ref a)=true)/\(∀c C,L.cls c=some C->mg (Str.ofString c)=some (.ref C)) /\
  ∀p∈cj,mg (Str.ofString p.1)=none/\mb (Str.ofString p.1)=some p.2
 sysm:∃o,L.base.get? sysModules=some o
 scr:∃cvs,L.base.IsList L.sad cvs/\IntsAre cvs.toList L.svs
 scrz:∀cvs,L.base.IsList L.sad cvs->cvs.size<=sizeLine
section
variable{H:AH}{A:Around}{d:Nat}{Q:b8}
theorem aj.toks(R:aF L H s.heap)(t:Nat):aj L env H H s { s with toks:=t } :=⟨t9 (s':={ s with toks:=t }) R rfl rfl λ_ _ e=>e,λ_ h=>h⟩
theorem EPost.int(R:aF L H s.heap){i:Int}{t:Tok}(q:Q (.int i) H):EPost L env H s Q (.int i t) { s with toks:=k }:=(bR _ _ q (s9 _ _) (aj.toks R k))
def u8:=@EPost.int
theorem EPost.same(R:aF L H s.heap){v:V}(q:Q v H)(r:VR L.sa s.heap v cv):EPost L env H s Q cv { s with toks:=k }:=(bR _ _ q r (aj.toks R k))
def u9:=@EPost.same
theorem v8(R:aF L H s.heap){v:V}(q:Q v H)(r:VR L.sa s.heap v cv):EPost L env H s Q cv s:=(bR _ _ q r (aj.refl R))
theorem EPost.push(F:ae L env loc H s.heap)(R:aF L H s.heap){x:AO}{ob:Obj}(q:fresh H Q x)(r:ORel L s.heap ob x) : EPost L env H s Q (.ref s.heap.objs.size) { s with heap:=s.heap.push ob,toks:=k }:=by obtain J:s.heap.get? s.heap.objs.size=none:=C6 (A8 _);obtain B:∀b o,s.heap.get? b=some o->(s.heap.push ob).get? b=some o:=λb o e=>z5 _ e;refine cf (u1 (own:=eA) (s':={ s with heap:=s.heap.push ob,toks:=k }) R rfl rfl J B (C2 _ r.notFreed) (r.keep (r8 B))) λS G=>?_;exact(bR _ _ (q _ G) (t7 _) (S.toE F.lH))
theorem EPost.tuple(F:ae L env loc H s.heap)(R:aF L H s.heap)(q:Q (.tup vs) H)(r:VRs L.sa s.heap vs cvs) : EPost L env H s Q (.ref s.heap.objs.size) { s with heap:=s.heap.push { cls:=.type "tuple",data:=.seq cvs.toArray },toks:=k }:=by obtain B:∀b o,s.heap.get? b=some o->(s.heap.push { cls:=.type "tuple",data:=.seq cvs.toArray }).get? b=some o:=λb o e=>z5 _ e;exact(bR _ _ q (t8 (R.nx (C6 (A8 _))) (aN _ (C2 _ rfl) rfl (gE 0 rfl)) (by exact r.keep (r8 B))) ((t9 (s':={ s with heap:=s.heap.push { cls:=.type "tuple",data:=.seq cvs.toArray },toks:=k }) R rfl rfl B).toE F.lH))
theorem ao{a:Addr}(R:aF L H h)(e:H a=some (.list vs)):∃cvs n,h.get? a=some (cE cvs n)/\VRs L.sa h vs cvs.toList:=by refine ah (R.obj a _ e) λob B aW=>?_;refine cG aW λcvs n bS r=>?_;subst bS;exact(eU cvs n B r)
theorem cz{a:Addr}(R:aF L H h)(e:H a=some (.dict kvs)):∃es n,h.get? a=some (bb es n)/\ER L h kvs es.toList/\dictOK kvs:=by refine ah (R.obj a _ e) λob B cI=>?_;refine cG cI λes n cW r=>?_;subst cW;exact(eU es n B r)
theorem gW{v:V}{c:Value}{P:Int->Prop}{R:Value->Prop}(h:Ce v P)(r:VR L.sa s.heap v c)(k:∀i t,P i->R (.int i t)):R c:=by
 cases v with
 |int i=>exact r.int_el λt=>k i t h
 |_=>exact h.elim
theorem Cq(F:ae L env loc H s.heap)(R:aF L H s.heap){ws:List V}(hl:vs.length+ws.length<=1000)(q:Q (.tup (vs++ws)) H)(rv:VR L.sa s.heap (.tup vs) cv)(B:VR L.sa s.heap (.tup ws) cw) : a8 L A (binaryOp .Add cv cw) (EPost L env H s Q) aI s:=by
 refine bM rv.tup_inv λa cvs eJ ha J=>?_;subst eJ;refine bM B.tup_inv λb dvs Y hb O=>?_;subst Y;refine ah (F.fr R) λm hm G=>?_;have nl:∀{us:List V}{xs:Array Value},xs.toList=[]->VRs L.sa s.heap us xs.toList->us=[]:=λz q=>by rw[z]at q;exact L6.mp q.length.symm
 refine add_tuples G bT (by rw[Array.toArray_toList];exact ha) (by rw[Array.toArray_toList];exact hb) (λz=>?_) (λ_ z=>?_) (λ_ _ h' F' Z=>?_) (by rw[J9];exact OI hl J.length O.length)
 .rw[nl z J,List.nil_append]at q;exact v8 R q B
 .rw[nl z O,H8]at q;exact v8 R q rv
 .obtain S:=u5 F R hm (tk:=s.toks) F' Z λp hp=>.tail _ hp;exact(bR _ _ q (t8 (R.nx (C6 (A8 _))) (aN _ ((Z _ (.head _)).1) rfl (gE 0 rfl)) ((J.append O).keep S.st.tup)) S)
theorem Cp(F:ae L env loc H s.heap)(R:aF L H s.heap){a b:Addr}{x y:List V}(h1:H a=some (.list x))(h2:H b=some (.list y))(hl:x.length+y.length<=2^20)(q:fresh H Q (.list (x++y))) : a8 L A (binaryOp .Add (.ref a) (.ref b)) (EPost L env H s Q) aI s:=by refine cG (ao R h1) λcvs n ho Y=>?_;refine cG (ao R h2) λad n' J Z=>?_;refine ah (F.fr R) λm hm B=>?_;refine kmk_add_lit B bT (aN _ ho rfl (gE _ rfl)) (aN _ J rfl (gE _ rfl)) rfl (λD h' O G lt=>?_) (by rw[J9];exact OJ hl Y.length Z.length);obtain nd:=G _ (.head _);refine cf (u6 F R hm (tk:=s.toks) O G (λp hp=>.tail _ hp) (.head _) (ma R nd.2.1 nd.2.2 lt) (x:=.list (x++y)) (eU _ 0 rfl ((Y.append Z).keep (u5 F R hm (tk:=s.toks) O G λp hp=>.tail _ hp).st.tup))) λS hH=>?_;exact(bR _ _ (q _ hH) (t7 _) S)
theorem ND(F:ae L env loc H s.heap)(R:aF L H s.heap)(op:BOp){v:V}(h:yf H Q op v w)(G:VR L.sa s.heap v cv)(B:VR L.sa s.heap w cw) : a8 L A (binaryOp (Qg op) cv cw) (EPost L env H s Q) aI s:=by
 cases op with
 |sub =>apply gW h G;intro i t h;apply gW h B;intro j u h;exact sub_int (u8 R h)
 |mul =>apply gW h G;intro i t h;apply gW h B;intro j u h;exact mul_int (u8 R h.2.2) (IntMulOk.of_left (intBits_le_64 (by first|exact JL h.1|exact JT h.1) (by first|exact JL h.1|exact JT h.1)))
 |fdiv =>apply gW h G;intro i t h;apply gW h B;intro j u h;exact floordiv_int (Kf h.1) (by rw[Int.fdiv_eq_ediv_of_nonneg _ (Ku h.1)];exact u8 R h.2.2) (.inl (PyProof.noPylong_small (OH h.1 h.2.1)))
 |mod =>apply gW h G;intro i t h;apply gW h B;intro j u h;exact mod_int (Kf h.1) (by rw[Int.fmod_eq_emod_of_nonneg _ (Ku h.1)];exact u8 R h.2)
 |add =>
  cases v with
  |int i =>apply G.int_el;intro t;apply gW (P:=λj=>Q (.int (i+j)) H) h B;intro j u h;exact wpAny_add_int (u8 R h)
  |tup vs =>
   cases w with
   |tup ws=>exact Cq F R h.1 h.2 G B
   |_=>exact h.elim
  |ref a =>
   cases w with
   |ref b =>refine sJ h λx y J O Y Z=>?_;apply G.ref_el;apply B.ref_el;exact Cp F R J O Y Z
   |_=>exact h.elim
  |_=>exact h.elim
theorem Ai{v:V}{P:Bool->Prop}(h:Iv H v w P):(∃a b,v=.ref a/\w=.ref b/\∃x y,H a=some (.list x)/\H b=some (.list y)/\iS x/\iS y/\P (cu (.tup x) (.tup y)))\/gf v/\gf w/\P (cu v w):=by
 cases v with
 |ref a=>cases w with
  |ref b=>exact .inl (bR a b rfl rfl h)
  |_=>exact .inr h
 |_=>exact .inr h
theorem PQ(R:aF L H s.heap)(hr:Room A d){v:V}{Qb:Bool->Prop}(h:Iv H v w Qb)(rv:VR L.sa s.heap v cv)(J:VR L.sa s.heap w cw){P:a9} (hP:∀b,Qb b->P (.bool b) s):a8 L A (compareOp .Eq cv cw) P aI s:=by
 have hu:=hr.2.2;have hc:cLine=9900:=rfl;rcases Ai h with⟨a,b,rfl,rfl,x,y,h1,h2,B,F,q⟩|⟨B,F,q⟩
 .apply rv.ref_el;apply J.ref_el;refine cG (ao R h1) λcvs n ho ra=>?_;refine cG (ao R h2) λdvs n' Y rb=>?_;obtain⟨as,Z⟩:=ra.reads B.1;obtain⟨bs,qb⟩:=rb.reads F.1;obtain G:=iZ x B.1;obtain lb:=iZ y F.1;obtain O:=B.2;obtain Q:=F.2;refine eq_dataH (reads_list_at ho rfl rfl Z) (reads_list_at Y rfl rfl qb) ?_ ?_ (Do hu hc) ?_
  .unfold SeqAt.shaped;rw[show(PyData.list (dL x)).canLay0=true from G.1,show(PyData.list (dL x)).depth=PyData.depthAll (dL x)+1 from rfl,Bool.true_and,decide_eq_true_eq];exact Dp G.2 O
  .unfold SeqAt.shaped;rw[show(PyData.list (dL y)).canLay0=true from lb.1,show(PyData.list (dL y)).depth=PyData.depthAll (dL y)+1 from rfl,Bool.true_and,decide_eq_true_eq];exact Dp lb.2 Q
  .have e:PyData.eqv (.list (dL x)) (.list (dL y))=cu (.tup x) (.tup y):=by rw[<- jt (v:=.tup x) (w:=.tup y) B.1 F.1];simp[xU,PyData.eqv]
   rw[e];exact hP _ q
 .obtain⟨as,Z⟩:=rv.reads B.1;obtain⟨bs,qb⟩:=J.reads F.1;obtain G:=hV v B.1;obtain lb:=hV w F.1;obtain O:=B.2;obtain Q:=F.2;refine eq_dataH Z qb ?_ ?_ (Do hu hc) ?_
  .unfold SeqAt.shaped;simp only[G.1,Bool.true_and,decide_eq_true_eq];exact Dq G.2 O
  .unfold SeqAt.shaped;simp only[lb.1,Bool.true_and,decide_eq_true_eq];exact Dq lb.2 Q
  .rw[jt B.1 F.1];exact hP _ q
theorem PR(R:aF L H s.heap)(hr:Room A d){v:V}{Qb:Bool->Prop}(h:Iv H v w λb=>Qb (!b))(rv:VR L.sa s.heap v cv)(J:VR L.sa s.heap w cw){P:a9} (hP:∀b,Qb b->P (.bool b) s):a8 L A (compareOp .NotEq cv cw) P aI s:=by
 have hu:=hr.2.2;have hc:cLine=9900:=rfl;rcases Ai h with⟨a,b,rfl,rfl,x,y,h1,h2,B,F,q⟩|⟨B,F,q⟩
 .apply rv.ref_el;apply J.ref_el;refine cG (ao R h1) λcvs n ho ra=>?_;refine cG (ao R h2) λdvs n' Y rb=>?_;refine bL (ra.reads B.1) λas Z=>?_;refine bL (rb.reads F.1) λbs qb=>?_;have G:=iZ x B.1;obtain lb:=iZ y F.1;obtain O:=B.2;have Q:=F.2;refine ne_dataH (reads_list_at ho rfl rfl Z) (reads_list_at Y rfl rfl qb) ?_ ?_ (Do hu hc) ?_
  .unfold SeqAt.shaped;rw[show(PyData.list (dL x)).canLay0=true from G.1,show(PyData.list (dL x)).depth=PyData.depthAll (dL x)+1 from rfl,Bool.true_and,decide_eq_true_eq];exact Dp G.2 O
  .unfold SeqAt.shaped;rw[show(PyData.list (dL y)).canLay0=true from lb.1,show(PyData.list (dL y)).depth=PyData.depthAll (dL y)+1 from rfl,Bool.true_and,decide_eq_true_eq];exact Dp lb.2 Q
  .have e:PyData.eqv (.list (dL x)) (.list (dL y))=cu (.tup x) (.tup y):=by rw[<- jt (v:=.tup x) (w:=.tup y) (by exact B.1) (by exact F.1)];simp[xU,PyData.eqv]
   rw[e];exact hP _ q
 .obtain⟨as,Z⟩:=rv.reads B.1;refine bL (J.reads F.1) λbs qb=>?_;obtain G:=hV v B.1;obtain lb:=hV w F.1;obtain O:=B.2;obtain Q:=F.2;refine ne_dataH Z qb ?_ ?_ (Do hu hc) ?_
  .unfold SeqAt.shaped;simp only[G.1,Bool.true_and,decide_eq_true_eq];exact Dq G.2 O
  .unfold SeqAt.shaped;simp only[lb.1,Bool.true_and,decide_eq_true_eq];exact Dq lb.2 Q
  .rw[jt B.1 F.1];exact hP _ q
end
end
section
variable{k:V}
noncomputable def gu(kvs:List (V×V))(k:V):Option Nat:=kvs.findIdx? λp=>cu p.1 k
theorem jk(h:gu kvs k=none):∀p∈kvs,p.1≠k:=by intro p hp e;obtain B:=List.findIdx?_eq_none_iff.mp h p hp;rw[bg]at B;exact B e
theorem dR(h:gu kvs k=some i):∃v,kvs[i]?=some (k,v)/\∀j,j<i->∀p,kvs[j]?=some p->p.1≠k:=by refine ah (Q9.mp h) λhi F G=>?_;obtain e:=(aP _ _).mp F;refine(af ((kvs[i]).2) (by rw[G2 hi,<- e]) (λj J p hp=>?_));obtain⟨O,e'⟩:=A9.mp hp;obtain B:=G j J;rw[e']at B;intro z;exact B ((aP _ _).mpr z)
theorem jh(h:gu kvs k=none):ay kvs k=none:=by unfold ay;rw[List.find?_eq_none.mpr,Option.map_none];intro p hp z;exact jk h p hp ((aP _ _).mp z)
theorem gi{v:V}(h:gu kvs k=some i)(G:kvs[i]?=some (k,v)):ay kvs k=some v:=by
 unfold ay
 have:kvs.find? (λp=>cu p.1 k)=some (k,v):=by refine ah (Q9.mp h) λhi J B=>?_;rw[List.find?_eq_some_iff_getElem];refine⟨de k,i,hi,(A9.mp G).2,λj F=>?_⟩;obtain this:=B j F;simpa using this
 rw[this];rfl
theorem eO{v:V}(h:ay kvs k=some v):∃i,gu kvs k=some i/\kvs[i]?=some (k,v):=by
 rcases e:gu kvs k with _|i
 .rw[jh e]at h;exact ns h
 .refine ah (dR e) λu B _=>?_;rw[gi e B]at h;obtain rfl:=w4 h;exact(af i rfl B)
theorem fJ(h:ay kvs k=none):gu kvs k=none:=by
 rcases e:gu kvs k with _|i
 .rfl
 .refine ah (dR e) λu B _=>?_;rw[gi e B]at h;exact sn h
theorem cP{v:V}(h:ay kvs k=none):dput kvs k v=kvs++[(k,v)]:=by obtain h':=jk (fJ h);unfold dput;rw[if_neg];intro z;refine ah (Rh.mp z) λp hp e=>?_;exact h' p hp ((aP _ _).mp e)
theorem sQ{u:V}(h:ay kvs k=some u):kvs.any (λp=>cu p.1 k)=true:=by refine ah (eO h) λi _ B=>?_;exact Rh.mpr (af _ (B0 B) (de k))
theorem jA(nd:(kvs.map (·.1)).Nodup){v u:V}(hi:kvs[i]?=some (k,v))(G:kvs[j]?=some (k,u)):i=j:=by
 obtain B:(kvs.map (·.1))[i]?=some k:=by rw[C5,hi];rfl
 obtain F:(kvs.map (·.1))[j]?=some k:=by rw[C5,G];rfl
 exact(List.getElem?_inj (A9.mp B).1 nd).mp (B.trans F.symm)
theorem lq(nd:(kvs.map (·.1)).Nodup){v u:V}(h:gu kvs k=some i)(G:kvs[i]?=some (k,u)):dput kvs k v=kvs.set i (k,v):=by
 unfold dput;rw[if_pos (sQ (gi h G))];apply Ro;intro j;rw[C5,M0];by_cases B:i=j
 .subst B;rw[if_pos rfl,if_pos (A9.mp G).1,G];simp[de]
 .rw[if_neg B];rcases e:kvs[j]? with _|p
  .rfl
  .obtain F:cu p.1 k=false:=bg.mpr λz=>by obtain⟨a,b⟩:=p;simp only at z;subst z;exact B (jA nd G e)
   simp[F]
theorem yl(nd:(kvs.map (·.1)).Nodup):∀{i:Nat}{k u:V},kvs[i]?=some (k,u)->ddel kvs k=kvs.eraseIdx i:=by
 unfold ddel;induction kvs with
 |nil=>intro i k u h;simp at h
 |cons p r B =>
  intro i k u h;rw[E2,E8]at nd;rcases i with _|i
  .simp at h;subst h
   have:r.filter (λp=>!cu p.1 k)=r:=by rw[List.filter_eq_self];intro q hq;rw[bg.mpr];rfl;intro z;exact nd.1 (w3.mpr (af q hq z))
   simp[de,this]
  .simp at h;obtain hm:k∈r.map (·.1):=w3.mpr (af _ (B0 h) rfl)
   have:cu p.1 k=false:=bg.mpr λz=>nd.1 (z▸hm)
   simp[this,B nd.2 h]
theorem keyFits.of{v:V}(d:dictOK kvs)(h:ay kvs k=some v):keyFits kvs k:=by refine ah (eO h) λi _ G=>?_;refine cf d λ_ aW=>?_;refine ah aW λc hc F=>?_;obtain B:=F _ (B0 G);exact⟨by rw[B];exact hc,λp hp=>by rw[F p hp,B]⟩
theorem dictOK.dput(d:dictOK kvs)(f:keyFits kvs k)(v:V):dictOK (dput kvs k v):=by
 rcases e:ay kvs k with _|u
 .rw[cP e];refine⟨?_,cV k,f.1,λp hp=>?_⟩
  .rw[C7,J1];refine⟨d.1,by simp,?_⟩;intro a ha b G;simp at G;subst G;refine ah (w3.mp ha) λp hp bS=>?_;subst bS;exact jk (fJ e) p hp
  .rcases D9.mp hp with hp|hp
   .exact f.2 p hp
   .simp at hp;subst hp;rfl
 .refine ah (eO e) λi J F=>?_;rw[lq d.1 J F];have e1:(kvs.set i (k,v)).map (·.1)=kvs.map (·.1):=by
   rw[List.map_set];refine Ro λj=>?_;rw[M0];split
   .rename_i O;subst O;rw[C5,F];simp[(List.getElem?_eq_some_iff.mp F).1]
   .rfl
  refine⟨by rw[e1];exact d.1,(af (cV k) f.1 (λp hp=>?_))⟩;obtain B:p.1∈(kvs.set i (k,v)).map (·.1):=w3.mpr (af p hp rfl);rw[e1]at B;refine ah (w3.mp B) λq hq z=>?_;rw[<- z];exact f.2 q hq
theorem dictOK.ddel(d:dictOK kvs)(k:V):dictOK (ddel kvs k) :=⟨(d.1.sublist (List.Sublist.map _ List.filter_sublist)),let⟨c,B,F⟩:=d.2;⟨c,B,λp hp=>F p (I8.mp hp).1⟩⟩
theorem dictOK.nil:dictOK []:=⟨by simp,(af 1 (by decide) (λ_ h=>absurd h A7))⟩
theorem ER.length:∀{kvs:List (V×V)}{es:List DictEntry},ER L h kvs es->es.length=kvs.length
 | [],_,x=>by simp[ER]at x;simp[x]
 |(_,_)::_,_,x=>by refine pD x λe es cI _ _ _ d=>?_;subst cI;simp[d.length]
theorem ER.get:∀{kvs:List (V×V)}{es:List DictEntry},ER L h kvs es->∀{i:Nat}{k v:V},kvs[i]?=some (k,v)->∃e,es[i]?=some e/\VR L.sa h k e.key/\e.hash=aL L.w k/\VR L.sa h v e.val
 | [],_,_,i,k,v,e=>by simp at e
 |(_,_)::_,_,x,i,k,v,e=>by
  refine pD x λe' es cW a b c d=>?_;subst cW;rcases i with _|i
  .simp at e;obtain⟨rfl,rfl⟩:=e;exact(iw e' rfl a b c)
  .simp at e;refine ah (d.get e) λe1 B F=>?_;exact(af e1 B F)
theorem ER.get':∀{kvs:List (V×V)}{es:List DictEntry},ER L h kvs es->∀{i:Nat}{e:DictEntry},es[i]?=some e->∃k v,kvs[i]?=some (k,v)/\VR L.sa h k e.key/\e.hash=aL L.w k/\VR L.sa h v e.val
 | [],_,x,i,e,q=>by simp[ER]at x;simp[x]at q
 |(B,F)::_,_,x,i,e,q=>by
  refine pD x λe' es G a b c d=>?_;subst G;rcases i with _|i
  .simp at q;subst q;exact(kB B F rfl a b c)
  .simp at q;refine cG (d.get' q) λk1 v1 J O=>?_;exact(eU k1 v1 J O)
theorem ER.push:∀{kvs:List (V×V)}{es:List DictEntry},ER L h kvs es->∀{k v:V}{e:DictEntry},VR L.sa h k e.key->e.hash=aL L.w k->VR L.sa h v e.val->ER L h (kvs++[(k,v)]) (es++[e])
 | [],_,x,k,v,e,a,b,c=>by simp[ER]at x;subst x;exact(re e ([]) rfl a b c rfl)
 |(_,_)::_,_,x,k,v,e,a,b,c=>by refine pD x λe' es B a' b' F d=>?_;subst B;exact(re e' _ rfl a' b' F (d.push a b c))
theorem ER.set:∀{kvs:List (V×V)}{es:List DictEntry},ER L h kvs es->∀{i:Nat}{k u v:V}{c:Value},kvs[i]?=some (k,u)->VR L.sa h v c->ER L h (kvs.set i (k,v)) (es.modify i λe=>{ e with val:=c })
 | [],_,_,i,k,u,v,c,e,_=>by simp at e
 |(_,_)::_,_,x,i,k,u,v,c,e,r=>by
  refine pD x λe' es B a' b' F d=>?_;subst B;rcases i with _|i
  .simp at e;obtain⟨rfl,rfl⟩:=e;exact(re _ _ rfl a' b' r d)
  .simp at e;exact(re e' _ (by rfl) a' b' F (d.set e r))
theorem ER.erase:∀{kvs:List (V×V)}{es:List DictEntry},ER L h kvs es->∀(i:Nat),ER L h (kvs.eraseIdx i) (es.eraseIdx i)
 | [],_,x,i=>by simp[ER]at x;subst x;simp[ER]
 |(_,_)::_,_,x,0=>by refine pD x λe' es B a' b' G d=>?_;subst B;exact d
 |(_,_)::_,_,x,i+1=>by refine pD x λe' es F a' b' G d=>?_;subst F;exact(re e' _ (by rfl) a' b' G (d.erase i))
def gr(vs:List V):cV (.tup vs)=if(aQ (.tup vs)&&decide (aD (.tup vs)<=8))=true then 2 else 0:=rfl
theorem cZ(h:cV k=1):rL k=true:=by
 cases k with
 |tup vs=>rw[gr]at h;split at h <;> omega
 |int _=>rfl
 |str _=>rfl
 |_=>exact Nat.noConfusion h
theorem ou(h:cV k=2):(∃vs,k=.tup vs)/\aQ k=true/\aD k<=8:=by
 cases k with
 |tup vs =>
  rw[gr]at h;split at h
  .rename_i q;simp at q;exact⟨⟨vs,rfl⟩,q.1,q.2⟩
  .omega
 |int _=>cases h
 |str _=>cases h
 |_=>exact Nat.noConfusion h
theorem oq(h:cV k≠0):cV k=1\/cV k=2:=by
 cases k with
 |tup vs=>rw[gr]at *;split <;> simp_all
 |int _=>exact .inl rfl
 |str _=>exact .inl rfl
 |_=>exact absurd rfl h
theorem tF(h:cV k≠0):aQ k=true/\aD k<=8:=by
 rcases oq h with e|e
 .obtain B:=cZ e;cases k with
  |int _=>exact⟨by simp[aQ],by simp[aD]⟩
  |str _=>exact⟨by simp[aQ],by simp[aD]⟩
  |_=>exact ai B
 .exact(ou e).2
section
variable{A:Around}
theorem se{Q:Int->Shared->Prop}(F:A.units+8<cLine)(hk:cV k≠0)(rk:VR L.sa s.heap k ck)(h:∀t,Q (aL L.w k) { s with toks:=t }) : a8 L A (pyHash ck) Q E s :=VR.pyHash (tF hk).1 (by obtain B:=(tF hk).2;exact Ji B F) rk (h _)
theorem sd{d:Addr}{es:Array DictEntry}{n:Nat}{Q:Option Nat->Shared->Prop}(hu:A.units+8<cLine) (ho:s.heap.get? d=some (bb es n)) (er:ER L s.heap kvs es.toList) (dk:dictOK kvs) (kf:keyFits kvs k) (rk:VR L.sa s.heap k ck) (h:Q (gu kvs k) s) : a8 L A (dictFind d ck (aL L.w k)) Q E s:=by
 rcases oq kf.1 with hk|hk
 .obtain hsc:=cZ hk;have J:=cF hsc rk;refine @wpAny_dictFind_of L.prog L.w V bX (bB L.prog L.w) A E s d _ es n k ck Q J ho rfl ?_ ?_
  .intro e he;obtain⟨i,hi⟩:=D8.mp (Q5.mpr he);refine sJ (er.get' hi) λF v' h1 h2 h3 _=>?_;exact(af F (cF (cZ ((kf.2 _ (B0 h1)).trans hk)) h2) h3)
  .have:(es.findIdx? λe=>@KeyKind.is _ _ V bX (bB L.prog L.w) k e.key)=gu kvs k:=by
    rw[show es=es.toList.toArray by rfl,List.findIdx?_toArray];have key:∀(kvs:List (V×V))(l:List DictEntry),(∀p∈kvs,cV p.1=cV k)->ER L s.heap kvs l->l.findIdx? (λe=>kS k e.key)=kvs.findIdx? λp=>cu p.1 k:=by
     intro kvs;induction kvs with
     |nil=>intro l _ x;simp[ER]at x;subst x;rfl
     |cons p r ih =>
      intro l hp x;obtain⟨F,v'⟩:=p;refine pD x λe es Y a b c d=>?_;subst Y;obtain G:rL F=true:=cZ ((hp _ y7).trans hk);have e1:kS k e.key=cu F k:=by
       cases q:cu F k with
       |true =>obtain this:=(aP _ _).mp q;subst this;exact cF G a
       |false =>
        rcases q':kS k e.key with _|_
        .rfl
        .exact absurd (@KeyKind.inj _ _ V bX (bB L.prog L.w) _ _ _ (cF G a) q') (bg.mp q)
      rw[List.findIdx?_cons,List.findIdx?_cons,e1,ih es (λp B=>hp p (y9 _ B)) d]
    exact key kvs es.toList kf.2 er
   rw[this];exact h
 .refine ia (ou hk) λZ h1 h2=>?_;obtain⟨vs,rfl⟩:=Z;refine bM rk.tup_inv λa cvs ad _ _=>?_;subst ad;have key:∀(kvs:List (V×V))(l:List DictEntry),(∀p∈kvs,cV p.1=2)->ER L s.heap kvs l->∃xs:List (V×Addr×Value),xs.map (λx=>(x.1))=kvs.map (·.1) /\
    l=xs.map (@entryOfKey L.prog L.w V bX (BN L.sa L.prog L.w))/\∀x∈xs,@HeapKind.is _ _ V bX (BN L.sa L.prog L.w) s.heap x.1 x.2.1:=by
   intro kvs;induction kvs with
   |nil=>intro l _ x;simp[ER]at x;subst x;exact(aN ([]) rfl rfl (λ_ h=>absurd h A7))
   |cons p r ih =>
    intro l hp x;obtain⟨F,v'⟩:=p;refine pD x λe es an a b c d=>?_;subst an;refine bE (ih es (λp B=>hp p (y9 _ B)) d) λxs x1 x2 x3=>?_;refine ia (ou (hp _ y7)) λar k1 k2=>?_;obtain⟨O,rfl⟩:=ar;refine bM (id a.tup_inv) λa' _ ea _ _=>?_;refine(aN ((.tup O,a',e.val)::xs) (by simp[x1]) ?_ ?_)
    .rw[x2,E2];congr 1;obtain⟨eh,ek,ev⟩:=e;simp only at ea b;subst ea b;rfl
    .intro x hx;rcases C0.mp hx with rfl|hx
     .exact(qZ ⟨O,rfl⟩ k1 k2 (ea▸a))
     .exact x3 x hx
  refine bE (key kvs es.toList (λp hp=>(kf.2 p hp).trans hk) er) λxs x1 x2 x3=>?_;have rel:∀(j:Nat)(u:V),(∃p,xs[j]?=some (u,p))↔∃v,kvs[j]?=some (u,v):=by
   intro j u;obtain this:(xs.map (λx=>x.1))[j]?=(kvs.map (·.1))[j]?:=by rw[x1]
   rw[C5,C5]at this;constructor
   .rintro⟨p,hp⟩;rw[hp]at this;refine ah (E3.mp this.symm) λq hq z=>?_;exact⟨q.2,by rw[hq];obtain⟨q1,q2⟩:=q;simp only at z;rw[z]⟩
   .rintro⟨p,hp⟩;rw[hp]at this;refine ah (E3.mp this) λq hq z=>?_;exact⟨q.2,by rw[hq];obtain⟨q1,q2⟩:=q;simp only at z;rw[z]⟩
  refine @wpAny_dictFind_heap L.prog L.w V bX (BN L.sa L.prog L.w) A E s d a _ es n xs (.tup vs) Q hu (qZ ⟨vs,rfl⟩ h1 h2 rk) ho rfl x2 x3 (by rw[x1];exact dk.1) ?_ ?_
  .intro hno
   have:gu kvs (.tup vs)=none:=by
    rcases e:gu kvs (.tup vs)with _|i
    .rfl
    .refine ah (dR e) λv hv _=>?_;obtain⟨p,hp⟩:=(rel i _).mpr ⟨v,hv⟩;exact absurd hp (hno i p)
   rw[this]at h;exact h
  .intro j p hj;obtain⟨v,hv⟩:=(rel j _).mp ⟨p,hj⟩
   have:gu kvs (.tup vs)=some j:=by
    rcases e:gu kvs (.tup vs)with _|i
    .exact absurd rfl (jk e _ (B0 hv))
    .refine ah (dR e) λv' hv' _=>?_;rw[jA dk.1 hv' hv]
   rw[this]at h;exact h
end
end
section
variable{k:V}
section
variable{A:Around}
def Qf(sa:SX)(h:Heap):Option V->Option Value->Prop
 |none,none=>True
 |some v,some c=>VR sa h v c
 |_,_=>False
def DAt(L:Cx)(h:Heap)(d:Addr)(kvs:List (V×V)):Prop:=∃es n,h.get? d=some (bb es n)/\ER L h kvs es.toList/\dictOK kvs
def aF.dat{H:AH}(R:aF L H h){d:Addr}(e:H d=some (.dict kvs)):DAt L h d kvs:=cz R e
theorem aF.nosys(C:aO L.toSx){H:AH}(R:aF L H h){d:Addr}{x:AO}(e:H d=some x):(d==sysModules)=false:=by rw[Rx];rintro rfl;refine bL C.sysm λo ho=>?_;obtain B:=R.fresh _ _ e;rw[ho]at B;exact sn B
def DAt.typeIs{d:Addr}(x:DAt L s.heap d kvs):s.TypeIs (.ref d) "dict":=let⟨_,_,ho,_⟩:=x;(af _ ho rfl)
def ER.toksize{es:Array DictEntry}(x:ER L h kvs es.toList):es.size=kvs.length:=x.length
theorem wb{d:Addr}{Q:Option Value->Shared->Prop}(J:A.units+8<cLine)(D:DAt L s.heap d kvs)(Y:keyFits kvs k)(rk:VR L.sa s.heap k ck) (h:∀t Z,Qf L.sa s.heap (ay kvs k) Z->Q Z { s with toks:=t }):a8 L A (dictGet d ck) Q E s:=by
 refine bM D λes n ho G dk=>?_;unfold dictGet
 try with_reducible refine G6 ?_
 refine r5 (se J Y.1 rk λt=>r5 (sd (s:={ s with toks:=t }) J ho G dk Y rk ?_));rcases e:gu kvs k with _|i
 .exact v9 (h t none (by rw[jh e];trivial))
 .refine ah (dR e) λv O _=>?_;refine sH (G.get O) λF h1 h2 h3 h4=>?_;refine r5 (RO (s:={ s with toks:=t }) ho rfl (v9 ?_));obtain B:es[i]?=some F:=by rw[<- h1,B9]
  rw[B];exact h t (some F.val) (by rw[gi e O];exact h4)
theorem GR{d:Addr}{v:V}{Q:b6}(Y:A.units+8<cLine)(D:DAt L s.heap d kvs)(kf:keyFits kvs k)(rk:VR L.sa s.heap k ck)(rv:VR L.sa s.heap v cv) (hz:kvs.length<=sizeLine) (h:∀t h' B n',h'.get? d=some (bb B n')->ER L s.heap (dput kvs k v) B.toList->Heap.SameBut d s.heap h'->Q () { s with heap:=h',toks:=t }) : a8 L A (dictSet d ck cv) Q E s:=by
 refine bM D λes n ho G O=>?_;have J:es.size<=sizeLine:=by rw[G.toksize];exact hz
 unfold dictSet
 try with_reducible refine G6 ?_
 refine r5 (se Y kf.1 rk λt=>?_);unfold dictSetHashed
 try with_reducible refine G6 ?_
 refine r5 (sd (s:={ s with toks:=t }) Y ho G O kf rk ?_);rcases e:gu kvs k with _|i
 .refine r5 (Ri (wpAny_updateDictKeys (hz:=J) (s:={ s with toks:=t }) ho rfl (h t _ _ _ (G4 _ ho rfl) ?_ (G9 ..))));rw[cP (jh e),Array.toList_push];exact G.push rk rfl rv
 .refine ah (dR e) λu Z _=>?_;refine r5 (Ri (r5 (wpAny_updateDict (s:={ s with toks:=t }) ho rfl (wpAny_point (h t _ _ _ (G4 _ ho rfl) ?_ (G9 ..))))));rw[lq O.1 e Z];obtain F:=G.set Z rv;obtain⟨l⟩:=es;simpa using F
theorem zc{d:Addr}{v:V}{Q:a9}(O:A.units+8<cLine)(D:DAt L s.heap d kvs)(Z:keyFits kvs k)(rk:VR L.sa s.heap k ck)(rv:VR L.sa s.heap v cv) (hz:kvs.length<=sizeLine) (h1:∀t u c,ay kvs k=some u->VR L.sa s.heap u c->Q c { s with toks:=t }) (h2:∀t h' B n',ay kvs k=none->h'.get? d=some (bb B n')->ER L s.heap (kvs++[(k,v)]) B.toList->Heap.SameBut d s.heap h'->Q cv { s with heap:=h',toks:=t }) : a8 L A (dictSetDefault d ck cv) Q E s:=by
 refine bM D λes n ho G dk=>?_;obtain J:es.size<=sizeLine:=by rw[G.toksize];exact hz
 unfold dictSetDefault
 try with_reducible refine G6 ?_
 refine r5 (se O Z.1 rk λt=>r5 (sd (s:={ s with toks:=t }) O ho G dk Z rk ?_));rcases e:gu kvs k with _|i
 .refine r5 (Ri (r5 (wpAny_updateDictKeys (hz:=J) (s:={ s with toks:=t }) ho rfl (v9 (h2 t _ _ _ (jh e) (G4 _ ho rfl) ?_ (G9 ..))))));rw[Array.toList_push];exact G.push rk rfl rv
 .refine ah (dR e) λu Y _=>?_;refine sH (G.get Y) λen k1 k2 k3 k4=>?_;refine r5 (RO (s:={ s with toks:=t }) ho rfl ?_);obtain F:es[i]?=some en:=by rw[<- k1,B9]
  rw[F];exact r5 (Ri (v9 (h1 t u _ (gi e Y) k4)))
theorem DB{d:Addr}{v:V}{Q:Option DictEntry->Shared->Prop}(Z:A.units+8<cLine)(D:DAt L s.heap d kvs)(rk:VR L.sa s.heap k ck)(hv:ay kvs k=some v) (hz:kvs.length<=sizeLine) (h:∀t h' F n' e,VR L.sa s.heap v e.val->h'.get? d=some (bb F n')->ER L s.heap (ddel kvs k) F.toList->Heap.SameBut d s.heap h'->Q (some e) { s with heap:=h',toks:=t }) : a8 L A (Builtin.Dict.takeOut d ck) Q E s:=by
 refine bM D λes n ho G J=>?_;obtain kf:=keyFits.of J hv;obtain O:es.size<=sizeLine:=by rw[G.toksize];exact hz
 refine ah (eO hv) λi e1 e2=>?_;unfold Builtin.Dict.takeOut
 try with_reducible refine G6 ?_
 refine r5 (se Z kf.1 rk λt=>r5 (sd (s:={ s with toks:=t }) Z ho G J kf rk ?_));rw[e1];refine sH (G.get e2) λY k1 k2 k3 k4=>?_;refine r5 (RO (s:={ s with toks:=t }) ho rfl ?_);obtain B:es[i]?=some Y:=by rw[<- k1,B9]
 rw[B];refine r5 (wpAny_updateDictKeys (hz:=O) (s:={ s with toks:=t }) ho rfl (v9 (h t _ _ _ Y k4 (G4 _ ho rfl) ?_ (G9 ..))));rw[yl J.1 e2];obtain B:=G.erase i;obtain⟨l⟩:=es;simpa using B
theorem oU{d:Addr}{Q:b7}(G:A.units+9<cLine)(D:DAt L s.heap d kvs)(hd:(d==sysModules)=false)(F:keyFits kvs k)(rk:VR L.sa s.heap k ck) (h:∀t,Q (ay kvs k).isSome { s with toks:=t }):a8 L A (contains (.ref d) ck) Q E s:=by
 obtain hT:=D.typeIs;unfold contains
 try with_reducible refine G6 ?_
 refine r5 (RH hT slot_dict_contains.lookup ?_);rw[if_neg (by rw[beq_builtin_none];exact D0)];refine r5 (wpAny_callSpecialUnlessNone?_slot (name:=Str.ofString "__contains__") hT slot_dict_contains
  (H9 slot_dict_contains hT entry_dict_contains ?_ (args_dict_contains _ _)))
 show wpAny _ _ (dictGet d ck >>= _) _ _ s;refine r5 (wb (A:=A.in1) (by assumption) D F rk λt B r=>?_);obtain h':=h t;cases hf:ay kvs k with
 |some v =>
  rw[hf]at r h';rcases B with _|c
  .exact r.elim
  .exact v9 (af _ rfl (P8 h'))
 |none =>
  rw[hf]at r h';cases B with
  |some c=>exact r.elim
  |none =>exact r5 (wpAny_pendingKey_other hd (v9 (af _ rfl (P8 h'))))
theorem ze{d:Addr}{Q:a9}(B:A.units+9<cLine)(D:DAt L s.heap d kvs)(hd:(d==sysModules)=false)(F:keyFits kvs k)(rk:VR L.sa s.heap k ck) (h:∀t,Q (.bool (ay kvs k).isSome) { s with toks:=t }):a8 L A (compareOp .In ck (.ref d)) Q E s:=by exact r5 (oU B D hd F rk λt=>v9 (h t))
theorem sh{d:Addr}{Q:a9}(B:A.units+9<cLine)(D:DAt L s.heap d kvs)(hd:(d==sysModules)=false)(F:keyFits kvs k)(rk:VR L.sa s.heap k ck) (h:∀t,Q (.bool (!(ay kvs k).isSome)) { s with toks:=t }):a8 L A (compareOp .NotIn ck (.ref d)) Q E s:=by exact r5 (oU B D hd F rk λt=>v9 (h t))
theorem oV{d:Addr}{v:V}{Q:a9}(J:A.units+9<cLine)(D:DAt L s.heap d kvs)(rk:VR L.sa s.heap k ck)(B:ay kvs k=some v) (h:∀t c,VR L.sa s.heap v c->Q c { s with toks:=t }):a8 L A (getItem (.ref d) ck) Q E s:=by
 have hT:=D.typeIs;have F:=keyFits.of D.choose_spec.choose_spec.2.2 B;unfold getItem
 try with_reducible refine G6 ?_
 refine r5 (wpAny_sequenceKey hT (by decide) ?_);refine r5 (K2 (name:=Str.ofString "__getitem__") hT slot_dict_getitem
  (H9 slot_dict_getitem hT entry_dict_getitem ?_ (args_dict_getitem _ _)))
 show wpAny _ _ (dictGet d ck >>= _) _ _ s;refine r5 (wb (A:=A.in1) (by assumption) D F rk λt G r=>?_);rw[B]at r;rcases G with _|c
 .exact r.elim
 .exact v9 (af c rfl (v9 (h t c r)))
theorem oW{d:Addr}{v:V}{Q:b6}(J:A.units+9<cLine)(D:DAt L s.heap d kvs)(F:keyFits kvs k)(rk:VR L.sa s.heap k ck)(G:VR L.sa s.heap v cv) (hz:kvs.length<=sizeLine) (h:∀t h' B n',h'.get? d=some (bb B n')->ER L s.heap (dput kvs k v) B.toList->Heap.SameBut d s.heap h'->Q () { s with heap:=h',toks:=t }) : a8 L A (setItem (.ref d) ck cv) Q E s:=by
 obtain hT:=D.typeIs;unfold setItem
 try with_reducible refine G6 ?_
 refine r5 (wpAny_sequenceKey hT (by decide) ?_);refine r5 (K2 (name:=Str.ofString "__setitem__") hT slot_dict_setitem
  (H9 slot_dict_setitem hT entry_dict_setitem ?_ (args_dict_setitem _ _ _)))
 refine r5 (RF hT ?_);show wpAny _ _ (dictSet d ck cv >>= _) _ _ s;exact r5 (GR (A:=A.in1) (by assumption) D F rk G hz λt h' B n' a b c=>v9 (af .none rfl (v9 (h t h' B n' a b c))))
theorem vY{d:Addr}{dv:V}{cd:Value}{Q:a9}(O:A.units+9<cLine)(D:DAt L s.heap d kvs)(hd:(d==sysModules)=false)(G:keyFits kvs k)(rk:VR L.sa s.heap k ck)(J:VR L.sa s.heap dv cd) (h:∀t c,VR L.sa s.heap ((ay kvs k).getD dv) c->Q c { s with toks:=t }):a8 L A (call (.builtin "dict.get") [.ref d,ck,cd]) Q E s:=by
 refine H9 F.slot_dict_get D.typeIs F.entry_dict_get ?_ (F.args_dict_get_3 _ _ _);show wpAny _ _ (dictGet d ck >>= _) _ _ s;refine r5 (wb (A:=A.in1) (by assumption) D G rk λt B r=>?_);obtain h':=h t;cases hf:ay kvs k with
 |some v =>
  rw[hf]at r h';rcases B with _|c
  .exact r.elim
  .exact v9 (af c rfl (h' c r))
 |none =>
  rw[hf]at r h';cases B with
  |some c=>exact r.elim
  |none =>show wpAny _ _ (Builtin.Dict.missed d ck >>= _) _ _ _;exact r5 (wpAny_missed_other hd (v9 (af cd rfl (h' cd J))))
theorem pR{d:Addr}{v:V}{Q:a9}(Z:A.units+9<cLine)(D:DAt L s.heap d kvs)(hd:(d==sysModules)=false)(O:keyFits kvs k)(rk:VR L.sa s.heap k ck)(Y:VR L.sa s.heap v cv) (hz:kvs.length<=sizeLine) (G:∀t u c,ay kvs k=some u->VR L.sa s.heap u c->Q c { s with toks:=t }) (J:∀t h' B n',ay kvs k=none->h'.get? d=some (bb B n')->ER L s.heap (kvs++[(k,v)]) B.toList->Heap.SameBut d s.heap h'->Q cv { s with heap:=h',toks:=t }) : a8 L A (call (.builtin "dict.setdefault") [.ref d,ck,cv]) Q E s:=by refine H9 F.slot_dict_setdefault D.typeIs F.entry_dict_setdefault ?_ (F.args_dict_setdefault_3 _ _ _);refine r5 ?_;refine r5 (RF D.typeIs ?_);refine v9 ?_;show wpAny _ _ (if(d==sysModules)=true then _ else(dictSetDefault d ck cv >>= _)) _ _ s;rw[if_neg (by rw[hd];exact D0)];exact r5 (zc (A:=A.in1) (by assumption) D O rk Y hz (λt u c a b=>v9 (af c rfl (G t u c a b))) λt h' B n' a b c d=>v9 (af cv rfl (J t h' B n' a b c d)))
theorem vZ{d:Addr}{v:V}{Q:a9}(Y:A.units+9<cLine)(D:DAt L s.heap d kvs)(k1:cV k=1)(rk:VR L.sa s.heap k ck)(O:ay kvs k=some v) (hz:kvs.length<=sizeLine) (h:∀t h' B n' c,VR L.sa s.heap v c->h'.get? d=some (bb B n')->ER L s.heap (ddel kvs k) B.toList->Heap.SameBut d s.heap h'->Q c { s with heap:=h',toks:=t }) : a8 L A (call (.builtin "dict.pop") [.ref d,ck]) Q E s:=by
 have G:(keyPart ck).isSome=true:=by obtain J:=cF (cZ k1) rk;rcases bA J with⟨_,_,_,rfl⟩|⟨_,_,_,rfl⟩ <;> rfl
 refine H9 F.slot_dict_pop D.typeIs F.entry_dict_pop ?_ (F.args_dict_pop_2 _ _);refine r5 ?_;refine r5 (RF D.typeIs ?_);refine v9 ?_;simp only[G,if_true];refine r5 (v9 ?_);refine r5 (DB (A:=A.in1) (by assumption) D rk O hz λt h' B n' e a b c d=>?_);exact r5 (wpAny_letGo (v9 (af e.val rfl (h t h' B n' e.val a b c d))))
end
end
section
set_option tactic.hygienic true
theorem rS{n:Int}{x:V}(h:Dl vs n=some x):∃j,seqIndex? n vs.length=some j/\vs[j]?=some x/\-(vs.length:Int)<=n/\n<vs.length:=by
 unfold Dl at h;unfold seqIndex?;split at h
 .rename_i h0;obtain⟨B,_⟩:=A9.mp h;refine⟨n.toNat,?_,h,by exact OK h0,by exact OL B⟩;have e1:¬n<0:=by exact OM h0
  simp only[e1,if_false];rw[if_pos (by simp;exact ON B e1)]
 .split at h
  .rename_i h0 F;obtain⟨B,_⟩:=A9.mp h;refine(iw ((vs.length+n).toNat) ?_ h (by exact OO F) (by exact OP B));obtain e1:n<0:=by exact OQ B
   simp only[e1,if_true];rw[if_pos (by simp;exact OR F e1),Int.add_comm]
  .exact ns h
theorem ro(v:V)(F:dA v=true):∀(vs:List V),bO vs=true->((dL vs).any λy=>PyData.eqv y (xU v))=lQ v vs
 | [],_=>rfl
 |w::vs,p=>by obtain p:=(I1 _ _).mp p;obtain B:=ro v F vs p.2;unfold lQ at *;simp only[dL,List.any_cons,jt p.1 F,B]
theorem vF(p:bz vs=true):∀x∈vs,aQ x=true:=by
 induction vs with
 |nil=>intro x h;exact absurd h A7
 |cons v r F =>
  obtain p:=(I1 _ _).mp p;intro x B;rcases C0.mp B with rfl|B
  .exact p.1
  .exact F p.2 x B
section
variable{H:AH}{A:Around}{d:Nat}{Q:b8}
theorem dF(hr:Room A d)(hk:k<=200):A.units+k<cLine:=by obtain B:=hr.2.2;exact OS B hk
theorem aj.same(F:ae L env loc H s.heap)(R:aF L H s.heap){d:Addr}{x x':AO}{t:Nat}{ob':Obj}(J:H d=some x)(G:h'.get? d=some ob')(sb:Heap.SameBut d s.heap h') (r:ORel L s.heap ob' x'):aj L env H (H.set d x') s { s with heap:=h',toks:=t } :=(ax.change (s':={ s with heap:=h',toks:=t }) R rfl rfl J (λb o B e=>(sb.2 b B).trans e) G r).toE F.lH
theorem NF(C:aO L.toSx)(R:aF L H s.heap)(hr:Room A d){v w:V}{cw:Value}{Qb:Bool->Prop}(h:Ox H v w Qb)(Y:VR L.sa s.heap v cv)(G:VR L.sa s.heap w cw){P:a9} (B:∀b t,Qb b->P (.bool b) { s with toks:=t }):a8 L A (compareOp .In cv cw) P aI s/\a8 L A (compareOp .NotIn cv cw) (λc s'=>∃b,c=.bool (!b)/\P (.bool b) s') aI s:=by
 cases w with
 |ref b =>
  apply G.ref_el;rcases h with⟨vs,J,F,Q,q⟩|⟨kvs,J,kf,q⟩
  .refine cG (ao R J) λcvs n ho ra=>?_;refine bL (Y.reads F.1) λas qa=>?_;obtain⟨bs,qb⟩:=ra.reads Q.1;obtain O:=hV v F.1;obtain lb:=iZ vs Q.1;obtain Z:=F.2;obtain hu:=dF hr (k:=10) OT;exact⟨SeqAt.in_list_reads (reads_list_at ho rfl rfl qb) qa lb.1 O.1 (Mu O.2 Z hu) (by rw[ro v F.1 vs Q.1];exact B _ s.toks q),
    SeqAt.notIn_list_reads (reads_list_at ho rfl rfl qb) qa lb.1 O.1 (Mu O.2 Z hu) (by rw[ro v F.1 vs Q.1];exact(af _ rfl (B _ s.toks q)))⟩
  .obtain D:=R.dat J;obtain hs:=R.nosys C J;exact⟨ze (dF hr vM) D hs kf Y λt=>B _ t q,sh (dF hr vM) D hs kf Y λt=>(af _ rfl (B _ t q))⟩
 |str t =>
  apply G.str_el;intro t;refine ia h λaW bS q=>?_;subst aW;refine ah bS λx aW hx=>?_;subst aW;apply Y.str_el;intro u;obtain e:∀x∈aG,(Builtin.Str.occurrences (Str.ofString "()[]{},:") (Str.ofString x) 0 (Str.ofString "()[]{},:").length 1).isEmpty=true:=by decide +kernel
  refine⟨PyProof.Rows.in_str ?_,PyProof.Rows.notIn_str ?_⟩
  .rw[e x hx];exact B false s.toks q
  .rw[e x hx];exact(af false rfl (B false s.toks q))
 |_=>exact h.elim
theorem Db{v:V}(B:VR L.sa s.heap v cv):plainIs cv .none=true/\(cv==.none)=cu v .none:=by
 obtain ne:∀{v:V},v≠.none->false=cu v .none:=λh=>(bg.mpr h).symm;cases v with
 |none=>apply B.none_el;exact⟨rfl,by rw[de];rfl⟩
 |scr=>rw[B.scr_inv];exact⟨rfl,ne (V.noConfusion)⟩
 |bool b=>rw[B.bool_inv];exact⟨rfl,ne (V.noConfusion)⟩
 |int i=>apply B.int_el;intro t;exact⟨rfl,ne (V.noConfusion)⟩
 |str i=>apply B.str_el;intro t;exact⟨rfl,ne (V.noConfusion)⟩
 |ref i=>rw[B.ref_inv];exact⟨rfl,ne (V.noConfusion)⟩
 |tup i=>apply B.tup_el;intro _ _ _ _;exact⟨rfl,ne (V.noConfusion)⟩
theorem uq(C:aO L.toSx)(F:ae L env loc H s.heap)(R:aF L H s.heap)(hr:Room A d)(op:COp){v w:V}{cw:Value}{Qb:Bool->Prop}(h:eZ H op v w Qb)(J:VR L.sa s.heap v cv)(B:VR L.sa s.heap w cw){P:a9} (G:∀b t,Qb b->P (.bool b) { s with toks:=t }):a8 L A (compareOp (Ip op) cv cw) P aI s:=by
 rcases op with _|_|_|_|_|_|_|_|_
 .exact PQ R hr h J B λb q=>G b s.toks q
 .exact PR R hr h J B λb q=>G b s.toks q
 .refine bM h λi j cI cW q=>?_;subst cI;subst cW;apply J.int_el;intro t;apply B.int_el;intro u;exact wpAny_lt_int (G _ s.toks q)
 .refine bM h λi j eJ Y q=>?_;subst eJ;subst Y;apply J.int_el;intro t;apply B.int_el;intro u;exact le_int (G _ s.toks q)
 .refine bM h λi j O Q q=>?_;subst O;subst Q;apply J.int_el;intro t;apply B.int_el;intro u;exact gt_int (G _ s.toks q)
 .refine bM h λi j O Q q=>?_;subst O;subst Q;apply J.int_el;intro t;apply B.int_el;intro u;exact ge_int (G _ s.toks q)
 .obtain⟨rfl,q⟩:=h;rw[B.none_inv];obtain hp:=Db J;exact wpAny_is_plain hp.1 (by rw[hp.2];exact G _ s.toks q)
 .exact(NF C R hr h J B G).1
 .refine B6 (NF C R hr (Qb:=λb=>Qb (!b)) (P:=λc s'=>∀b,c=.bool b->P (.bool (!b)) s') h J B (λb t q b' e=>by injection e with e;subst e;exact G _ t q)).2 ?_ λ_ _ e=>e;rintro _ s' ⟨b,rfl,q⟩;exact q b rfl
theorem NE(C:aO L.toSx)(F:ae L env loc H s.heap)(R:aF L H s.heap)(hr:Room A d){v i:V}{ci:Value}(h:vx H Q v i)(rv:VR L.sa s.heap v cv)(ri:VR L.sa s.heap i ci) : a8 L A (getItem cv ci) (EPost L env H s Q) aI s:=by
 cases v with
 |tup vs =>refine sJ h λn x cI Z B q=>?_;subst cI;apply rv.tup_el;intro a cvs ht G;apply ri.int_el;intro t;refine sH (rS B) λj J h2 h3 h4=>?_;refine ah (G.get h2) λc O Y=>?_;obtain hl:cvs.size=vs.length:=G.length;exact PyProof.Rows.getItem_tuple ht (MP Z) (MU Z) (by rw[hl];exact J) (by rw[<- O];simp) (v8 R q Y)
 |str x =>
  refine cf h λhx ad=>?_;refine pD ad λn c an h0 h3 hc q=>?_;subst an;apply rv.str_el;intro t;apply ri.int_el;intro u;have key:∀x∈jN,∀k:Nat,k<3->∀c:Char,x.toList[k]?=some c->(seqIndex? (k:Int) (Str.ofString x).length).bind ((Str.ofString x).cps[·]?)=some c.toNat:=by
   intro x hx k hk c hc;rw[P3];obtain⟨hl,_⟩:=A9.mp hc;unfold seqIndex?;obtain e1:¬((k:Int)<0):=by exact Dr
   simp only[e1,if_false];rw[if_pos (by simp[Str.length];assumption)];simp[hc]
  obtain hk:=key x hx n.toNat (OU h3) c hc;rw[show((n.toNat:Nat):Int)=n by exact OV h0]at hk;refine PyProof.Rows.getItem_str (by simp;exact OW h0 h3) hk ?_;refine u9 R q ?_;rw[show(⟨#[c.toNat]⟩:Str)=Str.ofString (String.ofList [c]) by rw[P3];simp];exact t6 _ _
 |ref a =>
  apply rv.ref_el;rcases h with⟨vs,n,x,J,rfl,Z,B,q⟩|⟨kvs,x,J,kf,hx,q⟩
  .refine cG (ao R J) λcvs k ho G=>?_;apply ri.int_el;intro t;obtain hl:cvs.size=vs.length:=G.length;unfold Dl at B;split at B
   .rename_i h0;refine ah (G.get B) λc O Y=>?_;exact wpAny_getItem_list (aN _ ho rfl (gE _ rfl)) h0 (MU Z) (by rw[<- O];simp) (v8 R q Y)
   .split at B
    .rename_i h0 h2;refine ah (G.get B) λc O Y=>?_;exact wpAny_getItem_list_neg (aN _ ho rfl (gE _ rfl)) (OX h0) (OY hl h2) (MP Z) (by rw[hl,Int.add_comm,<- O];simp) (v8 R q Y)
    .exact ns B
  .exact oV (dF hr vM) (R.dat J) ri hx λt c r=>u9 R q r
 |_=>exact h.elim
def tC(w:World)(x:Str):PyData.keyHash w.params x=hashStr w x:=rfl
theorem yC{v:V}{c:Value}(r:VR L.sa h v c):handedIn c=true:=by
 cases v with
 |none=>rw[r.none_inv];rfl
 |scr=>rw[r.scr_inv];rfl
 |bool b=>rw[r.bool_inv];rfl
 |int i=>apply r.int_el;intro t;rfl
 |str i=>apply r.str_el;intro t;rfl
 |ref i=>rw[r.ref_inv];rfl
 |tup i=>apply r.tup_el;intro _ _ _ _;rfl
theorem ER.isStr{k v:V}{e:DictEntry}(hk:cV k=1)(r:VR L.sa h k e.key)(f:String):e.key.isStr (Str.ofString f)=cu k (.str f):=by
 obtain B:=cF (cZ hk) r;rcases bA B with⟨i,t,rfl,e'⟩|⟨x,t,rfl,e'⟩
 .rw[e',bg.mpr (V.noConfusion)];rfl
 .rw[e'];show(Str.ofString x==Str.ofString f)=_;by_cases q:x=f
  .subst q;rw[de];simp
  .rw[bg.mpr (by intro z;injection z with z;subst z;exact q rfl),Rx]
   exactλz=>q (bo z)
theorem ER.getL(f:String):∀{kvs:List (V×V)}{es:List DictEntry},ER L h kvs es->(∀p∈kvs,cV p.1=1)->∃G,PySem.W.getL (Str.ofString f) es=some G/\Qf L.sa h (ay kvs (.str f)) G
 | [],_,x,_=>by simp[ER]at x;subst x;exact(af none rfl trivial)
 |(k,v)::r,_,x,hk=>by
  refine pD x λe es F a b c d=>?_;subst F;obtain e1:=ER.isStr (v:=v) (hk _ y7) a f;refine ah (ER.getL f d λp hp=>hk p (y9 _ hp)) λG J O=>?_;unfold PySem.W.getL at J ⊢;unfold ay at O ⊢;rw[List.find?_cons,List.find?_cons,e1];cases q:cu k (.str f)with
  |true=>exact(af (some e.val) rfl c)
  |false =>
   simp only;have e2:e.refKey=false:=by obtain B:=cF (cZ (hk _ y7)) a;unfold DictEntry.refKey;rcases bA B with⟨i,t,_,e'⟩|⟨x,t,_,e'⟩ <;> rw[e']
   rw[List.any_cons,e2,Bool.false_or];exact(af G J O)
theorem ER.putL(f:String){v:V}(F:VR L.sa h v cv)(t:Tok):∀{kvs:List (V×V)}{es:List DictEntry},ER L h kvs es->(∀p∈kvs,cV p.1=1)->(kvs.map (·.1)).Nodup -> ER L h (dput kvs (.str f) v) (PySem.W.putL (Str.ofString f) (hashStr L.w (Str.ofString f)) (.str (Str.ofString f) t) cv es)
 | [],_,x,_,_=>by simp[ER]at x;subst x;rw[cP rfl];exact(re _ ([]) rfl (t6 _ _) (by simp[aL]) F rfl)
 |(k,u)::r,_,x,hk,nd=>by
  refine pD x λe es B a b c d=>?_;subst B;obtain e1:=ER.isStr (v:=u) (hk _ y7) a f;rw[E2,E8]at nd;unfold PySem.W.putL;rw[e1];cases q:cu k (.str f)with
  |true =>
   obtain this:=(aP _ _).mp q;subst this;obtain h0:gu ((.str f,u)::r) (.str f)=some 0:=by unfold gu;rw[List.findIdx?_cons];simp[de]
   rw[lq (by rw[E2,E8];exact nd) h0 rfl];exact(re _ es rfl a b F d)
  |false =>
   obtain G:=ER.putL f F t d (λp hp=>hk p (y9 _ hp)) nd.2
   have:dput ((k,u)::r) (.str f) v=(k,u)::dput r (.str f) v:=by
    unfold dput;rw[List.any_cons,q,Bool.false_or];split
    .rw[E2,q];rfl
    .rfl
   rw[this];exact(re e _ rfl a b c G)
theorem um(n:Str)(hs:Int)(k v:Value)(es:List DictEntry):(PySem.W.putL n hs k v es).length<=es.length+1:=by
 induction es with
 |nil=>simp[PySem.W.putL]
 |cons e r B=>unfold PySem.W.putL;split <;> simp <;> assumption
theorem ln{a:Addr}(R:aF L H h)(e:H a=some (.dict kvs)):∃es n,h.get? a=some (dictOf es n)/\ER L h kvs es/\dictOK kvs:=by refine bM (cz R e) λes n B F G=>?_;exact(bR es.toList n (by simpa using B) F G)
theorem oj{a:Addr}(R:aF L H h){c:String}(e:H a=some (.inst c dx)):∃C,L.cls c=some C/\h.get? a=some (instObj C dx):=by refine ah (R.obj a _ e) λob G B=>?_;refine ah B λC J F=>?_;subst F;exact(af C J G)
theorem aF.kin(C:aO L.toSx)(R:aF L H h):L.K.In h:=C.kin.keeps R.base
theorem dictOK.str(d:dictOK kvs){f:String}{v:V}(h:ay kvs (.str f)=some v):∀p∈kvs,cV p.1=1:=λp hp=>(keyFits.of d h).2 p hp
theorem GP(C:aO L.toSx)(F:ae L env loc H s.heap)(R:aF L H s.heap){v:V}{f:String}{b:Bool}(h:zK H Q L.toSx v f)(rv:VR L.sa s.heap v cv) : a8 L A (getAttr cv (Str.ofString f) b) (EPost L env H s Q) aI s:=by
 refine QR h λa c dx kvs x B Y Z h3 G q=>?_;subst B;apply rv.ref_el;refine ah (oj R Y) λD hD ho=>?_;refine bM (ln R h3) λes n hd O J=>?_;obtain K:=C.fld c D f hD Z;refine ah (ER.getL f O (J.str G)) λoc l1 l2=>?_;rw[G]at l2;rcases oc with _|cx
 .exact l2.elim
 .refine ah K.nf λattr n1 n2=>?_;exact get_value (aF.kin C R) ⟨ho,rfl,rfl,hd⟩ (plainGet_of K.g).1 (findObj_own (od:=dictOf es n) K.hd n1 n2 ((lookIn_dict _ es n).trans l1)) (yC l2) (u9 R q l2)
theorem zg(C:aO L.toSx)(F:ae L env loc H s.heap)(R:aF L H s.heap){a:Addr}{c f:String}{v:V}{P:b6}(h1:H a=some (.inst c dx))(h2:f∈L.flds c) (B:H dx=some (.dict kvs)) (hk:∀p∈kvs,cV p.1=1) (hz:kvs.length<=500) (rv:VR L.sa s.heap v cv) (hP:∀s',aj L env H (H.set dx (.dict (dput kvs (.str f) v))) s s'->P () s') : a8 L A (setAttr (.ref a) (Str.ofString f) cv) P aI s:=by
 refine ah (oj R h1) λD hD ho=>?_;refine bM (ln R B) λes n hd Q Y=>?_;obtain K:=C.fld c D f hD h2;refine ah (ER.getL f Q hk) λoc l1 l2=>?_;refine ah (F.fr R) λm hm O=>?_;obtain G:(dx,(dictOf es n:Obj))∈dh L.base env.locals s.heap:=gQ.mpr ⟨hd,(λz=>by rw[z,F.lH]at B;exact ns B),R.fresh _ _ B⟩;refine bE (wE (o':=dictOf (PySem.W.putL (Str.ofString f) (PyData.keyHash L.w.params (Str.ofString f)) (.str (Str.ofString f) (s.toks+1)) cv es) (putN (Str.ofString f) es n)) G) λnews' U m1 m2=>?_;obtain hl:=Q.length;refine W.set_dict O C.kin bT ⟨ho,rfl,rfl,hd⟩ rfl K.st K.po K.tk K.hd (by rw[l1];rfl) rfl U ?_ λh' Z N'=>hP _ ?_
 .obtain J:=um (Str.ofString f) (PyData.keyHash L.w.params (Str.ofString f)) (.str (Str.ofString f) (s.toks+1)) cv es;exact OZ hl J hz
 .refine aj.updNews F R hm Z N' m2 m1 B (bR _ _ rfl ?_ (Y.dput (k:=.str f) ⟨by show(1:Nat)≠0;exact Pa,λp hp=>hk p hp⟩ v));rw[List.toList_toArray,tC];exact ER.putL f rv _ Q hk Y.1
end
end
section
variable{a:Addr}{x:V}
set_option tactic.hygienic true
section
variable{H:AH}{A:Around}{d:Nat}{Q:b8}
theorem sO:∀{cvs:List Value}{ns:List Int},IntsAre cvs ns->VRs L.sa h (ns.map .int) cvs
 |_,_,.nil=>.nil
 |_,_,.cons n t r=>.cons (s9 n t) (sO r)
theorem om:∀{cvs:List Value}{ns:List Int},VRs L.sa h (ns.map .int) cvs->IntsAre cvs ns
 |cvs,[],x=>x.nil_inv▸.nil
 |cvs,n::ns,x=>by refine bM (VRs.cons_inv x) λc r aW a b=>?_;subst aW;apply a.int_el;intro t;exact .cons n t (om b)
theorem VRs.set:∀{vs:List V}{cs:List Value},VRs L.sa h vs cs->∀(i:Nat){v:V}{c:Value},VR L.sa h v c->VRs L.sa h (vs.set i v) (cs.set i c)
 | [],_,x,i,_,_,_=>by rw[x.nil_inv];exact VRs.nil
 |_::_,_,x,0,_,_,r=>by refine bM x.cons_inv λc cs bS a b=>?_;subst bS;exact .cons r b
 |_::_,_,x,i+1,_,_,r=>by refine bM x.cons_inv λc cs cI a b=>?_;subst cI;exact .cons a (VRs.set b i r)
def BR:Option Nat->Value->Prop
 |none,c=>c=.none
 |some n,c=>∃t,c=.int n t
theorem BR.part{o:Option Nat}{c:Value}(h:BR o c):IsPart c (o.map λ(n:Nat)=>(n:Int)):=by
 rcases o with _|n
 .subst h;exact .none
 .refine bL h λt aW=>?_;subst aW;exact .int _ _
theorem NK(C:aO L.toSx)(F:ae L env loc H s.heap)(R:aF L H s.heap){v:V}{lc hc:Value}{lo hi:Option Nat}{sl:Addr}(h:Hm H Q L.toSx v lo hi)(rv:VR L.sa s.heap v cv)(hs:s.heap.IsSliceOf sl lc hc .none)(Z:BR lo lc)(Y:BR hi hc) : a8 L A (getItem cv (.ref sl)) (EPost L env H s Q) aI s:=by
 cases v with
 |tup vs =>refine Qa h λJ O eJ zq6 q=>?_;subst eJ;subst zq6;apply rv.tup_el;intro a cvs ht ra;obtain⟨t,rfl⟩:=Z;obtain rfl:hc=.none:=Y;obtain hl:cvs.size=vs.length:=ra.length;refine getItem_tuple_from ht hs Pb (Pc hl O) ?_ (by rw[J9];exact Gx hl J);exact EPost.tuple F R (k:=s.toks) q (ra.drop 1)
 |str x =>
  refine Ee h λhx zq8 zq9 q=>?_;subst zq8;subst zq9;apply rv.str_el;intro t;obtain rfl:lc=.none:=Z;obtain⟨u,rfl⟩:=Y;refine wpAny_getItem_str_slice (l:=none) (u:=some (((1:Nat):Int),u)) (st:=none) hs rfl ?_;obtain key:∀x∈jN,(Builtin.Str.strSliceIndices none (some ((1:Nat):Int)) 1 (Str.ofString x).length=[0])/\(if(1==(Str.ofString x).length)=true then Str.ofString x else⟨([0].filterMap ((Str.ofString x).cps[·]?)).toArray⟩)=Str.ofString (String.ofList (x.toList.take 1)) /\
    (⟨([0].filterMap ((Str.ofString x).cps[·]?)).toArray⟩:Str).length<=1:=by decide +kernel
  refine ia (key x hx) λk1 k2 k3=>?_;unfold sliceMade;have e:slicePicked (Str.ofString x) none (some (((1:Nat):Int),u)) none=[0]:=k1;rw[e];show(if((1:Int)==1&&([0]:List Nat).length==(Str.ofString x).length)=true then _ else _:Made).post _ _;rw[beq_self_eq_true,Bool.true_and,P9];split
  .rename_i B;rw[if_pos B]at k2;rw[k2];exact v8 R q (t6 _ _)
  .rename_i B;rw[if_neg B]at k2;rw[k2];refine⟨by rw[<- k2];exact u0 k3 (by rw[J9];exact Pd),u9 R q (t6 _ _)⟩
 |scr =>
  obtain⟨rfl,n,rfl,hn,q⟩:=h;rw[rv.scr_inv];refine ah C.scr λcvs hl hi=>?_;refine bE hl λo J O G=>?_;refine bL G λk h3=>?_;obtain ad:s.heap.IsList L.sad cvs:=(aN o (R.base _ _ J) O (gE k h3));refine wpAny_getItem_list_slice ad hs Z.part Y.part .none (by decide) ?_ ?_
  .rw[kms_pick_eq];refine EPost.push F R (k:=s.toks) (x:=.list ((L.svs.take n).map .int)) q (eU _ 0 rfl ?_);rw[List.toList_toArray,List.map_take]
   have:kms_pick cvs.toList (none.map λ(n:Nat)=>(n:Int)) ((some n).map λ(n:Nat)=>(n:Int))=cvs.toList.take n:=by
    unfold kms_pick;simp only[Option.map_none,Option.map_some];unfold kms_lo kms_hi;obtain e1:¬(((n:Nat):Int)<0):=by exact Dr
    simp only[e1,if_false,Int.toNat_natCast,List.drop_zero,Nat.sub_zero];rcases F9 n cvs.toList.length with B|B
    .rw[QZ B]
    .rw[O9 B,List.take_of_length_le (A8 _),List.take_of_length_le B]
   rw[this];exact(sO hi).take n
  .exact C.scrz cvs (aN o J O (gE k h3))
 |_=>exact h.elim
theorem oY(F:ae L env loc H s.heap)(R:aF L H s.heap){i:Int}{v:V}{B:Value}{P:b6}(G:H a=some (.list vs))(h0:0<=i)(J:i<vs.length)(Q:vs.length<2^60) (Y:VR L.sa s.heap (.int i) B) (Z:VR L.sa s.heap v cv) (O:∀s',aj L env H (H.set a (.list (vs.set i.toNat v))) s s'->P () s'):a8 L A (setItem (.ref a) B cv) P aI s:=by refine cG (ao R G) λcvs n ho rs=>?_;apply Y.int_el;intro t;obtain hl:cvs.size=vs.length:=rs.length;refine ki_setAt ho h0 (Pe J Q) (Pf hl J) (O _ (aj.same F R (t:=s.toks) G (G4 _ ho rfl) (G9 ..) (eU _ _ rfl ?_)));rw[Array.toList_setIfInBounds];exact rs.set _ Z
theorem oX(C:aO L.toSx)(F:ae L env loc H s.heap)(R:aF L H s.heap)(hr:Room A d){k v:V}{P:b6}(B:H a=some (.dict kvs))(G:keyFits kvs k)(hz:kvs.length<2^20) (rk:VR L.sa s.heap k ck) (Q:VR L.sa s.heap v cv) (O:∀s',aj L env H (H.set a (.dict (dput kvs k v))) s s'->P () s'):a8 L A (setItem (.ref a) ck cv) P aI s:=by have D:=R.dat B;exact oW (dF hr vM) D G rk Q (by rw[J9];exact Pg hz) λt h' J n' x y z=>O _ (aj.same F R B x z (bR _ _ rfl y ((D.choose_spec.choose_spec.2.2).dput G v)))
theorem yM(F:ae L env loc H s.heap)(R:aF L H s.heap){c:Value}(B:H a=some (.list vs))(hz:vs.length<2^20)(q:Q .none (H.set a (.list (vs++[x]))))(G:VR L.sa s.heap x c) : a8 L A (call (.builtin "list.append") [.ref a,c]) (EPost L env H s Q) aI s:=by refine cG (ao R B) λcvs n ho rs=>?_;exact call_meets PySem.F.slot_list_append (af _ ho rfl) PySem.F.entry_list_append (PySem.F.args_list_append_2 _ _) (PySem.AutoListH.list_append_list_val_0 a cvs n c (Ph rs.length hz J9)) ⟨ho,(bR _ _ q r9 (aj.same F R B (G4 _ ho rfl) (G9 ..) (eU _ _ rfl (by rw[Array.toList_push];exact rs.append (VRs.one G)))))⟩
theorem yN(F:ae L env loc H s.heap)(R:aF L H s.heap){b:Addr}{ws:List V}(Y:H a=some (.list vs))(Z:H b=some (.list ws))(hz:vs.length+ws.length<=2^20)(q:Q .none (H.set a (.list (vs++ws)))) : a8 L A (call (.builtin "list.extend") [.ref a,.ref b]) (EPost L env H s Q) aI s:=by
 refine cG (ao R Y) λcvs n ho rs=>?_;refine cG (ao R Z) λB n' O J=>?_;obtain hl:cvs.size=vs.length:=rs.length;obtain G:B.size=ws.length:=J.length;exact call_meets PySem.F.slot_list_extend (af _ ho rfl) PySem.F.entry_list_extend (PySem.F.args_list_extend_2 _ _) (PySem.AutoSeq1.list_extend_list_list_0 a cvs n b B n' (by rw[show Builtin.List.listTooLong (cvs.size+B.size)=false from E6 (Nat.not_lt.mpr (Pk hz hl G J9))];simp) (Pi hz hl J9) (Pj hz hl G J9))
  (cH ho O (bR _ _ q r9 (aj.same F R Y (G4 _ ho rfl) (G9 ..) (eU _ _ rfl (by rw[Array.toList_append];exact rs.append J)))))
theorem Gn(F:ae L env loc H s.heap)(R:aF L H s.heap){ws:List V}(G:H a=some (.list (ws++[x])))(hz:(ws++[x]).length<=2^20)(q:Q x (H.set a (.list ws))) : a8 L A (call (.builtin "list.pop") [.ref a]) (EPost L env H s Q) aI s:=by
 refine cG (ao R G) λcvs n ho rs=>?_;obtain hl:cvs.size=ws.length+1:=rs.length.trans B7;refine ah (rs.get (i:=ws.length) (v:=x) List.getElem?_concat_length) λc e1 O=>?_;have J:(cvs.eraseIdxIfInBounds (cvs.size-1)).toList=cvs.toList.take ws.length:=by rw[hl];obtain⟨l⟩:=cvs;have B:l.length=ws.length+1:=hl;simp;rw[List.eraseIdx_eq_take_drop_succ,List.drop_of_length_le (Pm B)];simp
 obtain S:aj L env H (H.set a (.list ws)) s { s with heap:=s.heap.update a (Obj.mapSeq λxs=>xs.eraseIdxIfInBounds (cvs.size-1)),toks:=s.toks }:=aj.same F R (t:=s.toks) G (G4 _ ho rfl) (G9 ..) (eU _ _ rfl (by rw[J];simpa using rs.take ws.length));exact call_meets PySem.F.slot_list_pop (af _ ho rfl) PySem.F.entry_list_pop (PySem.F.args_list_pop_1 _) (PySem.MeetsSeq.list_pop_last a cvs n c (by rw[hl,<- e1];simp) (Pl rs.length hz J9)) ⟨ho,(bR _ _ q (O.keep S.st.tup) S)⟩
theorem AI(F:ae L env loc H s.heap)(R:aF L H s.heap)(hr:Room A d){c:Value}(h1:H a=some (.list vs))(kx:aQ x=true)(dx:aD x<=8)(ks:bz vs=true)(hz:vs.length<=2^20)(hi:vs.findIdx? (λy=>cu y x)=some i)(q:Q (.int i) H)(rx:VR L.sa s.heap x c) : a8 L A (call (.builtin "list.index") [.ref a,c]) (EPost L env H s Q) aI s:=by
 refine cG (ao R h1) λcvs n ho rs=>?_;obtain hl:cvs.size=vs.length:=rs.length;refine ah (Q9.mp hi) λJ hit hno=>?_;have key:∀(j:Nat)(G:j<cvs.size)(B:j<vs.length),VR L.sa s.heap (vs[j]) (cvs[j]):=by intro j G B;refine ah (rs.get (i:=j) (v:=vs[j]) (G2 B)) λc' h1 h2=>?_;rw[B9,N0 G]at h1;obtain rfl:=w4 h1;exact h2
 obtain km:=vF ks;have O:∀(j:Nat)(G:j<cvs.size)(B:j<vs.length),@decide (VR L.sa s.heap x (cvs[j])) (Classical.propDecidable _)=cu (vs[j]) x:=by
  intro j G B;rcases e:cu (vs[j]) x with _|_
  .exact @decide_eq_false _ (Classical.propDecidable _) λz=>bg.mp e (VR.inj (km _ (List.getElem_mem B)) kx (key j G B) z)
  .obtain Z:=(aP _ _).mp e;exact @decide_eq_true _ (Classical.propDecidable _) (Z▸key j G B)
 refine call_meets PySem.F.slot_list_index (af _ ho rfl) PySem.F.entry_list_index (PySem.F.args_list_index_2 _ _)
  (PySem.SeqAt.list_indexAt a cvs n none #[] c (λy=>@decide (VR L.sa s.heap x y) (Classical.propDecidable _)) i (by exact yS hl J) (by exact Ng hz J) (by rw[O i (by exact yS hl J) J];exact hit)
   (λm hm Y=>by rw[O m hm (by exact Ds Y J)];simpa using hno m Y)) (cH ho ?_ (u8 R q))
 intro y hy prog w E Q' hq;obtain⟨j,G,rfl⟩:=Array.mem_iff_getElem.mp hy;rw[O j G (by exact yT hl G)]at hq;obtain hu:=dF hr (k:=20) (by exact Nh);refine VR.eqBool (bq _ (km _ (List.getElem_mem (by exact yT hl G)))) (bq _ kx) (by exact Ni dx hu) (key j G (by exact yT hl G)) rx hq
theorem xI(C:aO L.toSx)(F:ae L env loc H s.heap)(R:aF L H s.heap)(hr:Room A d){v:V}{m:String}{args:List V}{B:List Value}(h:xj H Q v m args)(rv:VR L.sa s.heap v cv)(O:VRs L.sa s.heap args B) : a8 L A (call (.builtin ("list."++m)) (cv::B)) (EPost L env H s Q) aI s:=by
 obtain⟨a,vs,rfl,J,h⟩:=h;apply rv.ref_el;rcases h with⟨rfl,x,rfl,hz,q⟩|⟨rfl,b,ws,rfl,Z,Y,hz,q⟩|⟨rfl,ws,x,rfl,rfl,hz,q⟩|⟨rfl,x,i,rfl,kx,dx,ks,hz,hi,q⟩
 .apply O.one_el;intro c G;exact yM F R J hz q G
 .apply O.one_el;intro c G;apply G.ref_el;exact yN F R J Y hz q
 .apply O.nil_el;exact Gn F R J hz q
 .apply O.one_el;intro c G;exact AI F R hr J kx dx ks hz hi q G
theorem ym(C:aO L.toSx)(F:ae L env loc H s.heap)(R:aF L H s.heap)(hr:Room A d){k dv:V}{J O:Value}(G:H a=some (.dict kvs))(Y:keyFits kvs k)(hz:kvs.length<2^20) (q:Q ((ay kvs k).getD dv) (match ay kvs k with|some _=>H|none=>H.set a (.dict (kvs++[(k,dv)])))) (r1:VR L.sa s.heap k J) (Z:VR L.sa s.heap dv O) : a8 L A (call (.builtin "dict.setdefault") [.ref a,J,O]) (EPost L env H s Q) aI s:=by
 obtain D:=R.dat G;refine pR (dF hr vM) D (R.nosys C G) Y r1 Z (Nr J9 hz) (λt u c B r=>?_) λt h' ad n' B x y z=>?_
 .rw[B]at q;exact u9 R q r
 .rw[B]at q;obtain S:=aj.same (x':=.dict (kvs++[(k,dv)])) (t:=t) F R G x z (bR _ _ rfl y (by rw[<- cP B];exact D.choose_spec.choose_spec.2.2.dput Y dv));exact(bR _ _ q (Z.keep S.st.tup) S)
theorem Gb(C:aO L.toSx)(F:ae L env loc H s.heap)(R:aF L H s.heap)(hr:Room A d){k:V}{B:Value}(G:H a=some (.dict kvs))(k1:cV k=1)(hz:kvs.length<2^20)(O:ay kvs k=some x) (q:Q x (H.set a (.dict (ddel kvs k)))) (Y:VR L.sa s.heap k B):a8 L A (call (.builtin "dict.pop") [.ref a,B]) (EPost L env H s Q) aI s:=by have D:=R.dat G;refine vZ (dF hr vM) D k1 Y O (Nr J9 hz) λt h' J n' c Z x y z=>?_;obtain S:=aj.same (x':=.dict (ddel kvs k)) (t:=t) F R G x z (bR _ _ rfl y (D.choose_spec.choose_spec.2.2.ddel k));exact(bR _ _ q (Z.keep S.st.tup) S)
theorem DA(C:aO L.toSx)(F:ae L env loc H s.heap)(R:aF L H s.heap)(hr:Room A d){v:V}{m:String}{args:List V}{B:List Value}(h:Et H Q v m args)(rv:VR L.sa s.heap v cv)(Z:VRs L.sa s.heap args B) : a8 L A (call (.builtin ("dict."++m)) (cv::B)) (EPost L env H s Q) aI s:=by
 obtain⟨a,kvs,rfl,J,h⟩:=h;apply rv.ref_el;rcases h with⟨rfl,k,dv,rfl,O,q⟩|⟨rfl,k,dv,rfl,O,hz,q⟩|⟨rfl,k,x,rfl,k1,hz,hx,q⟩
 .apply Z.two_el;intro c1 c2 G Y;exact vY (dF hr vM) (R.dat J) (R.nosys C J) O G Y λt c r=>u9 R q r
 .apply Z.two_el;intro c1 c2 G Y;exact ym C F R hr J O hz q G Y
 .apply Z.one_el;intro c1 G;exact Gb C F R hr J k1 hz hx q G
theorem zf(R:aF L H s.heap){v:V}(h:∃x,v=.str x/\x∈aG)(q:Q (.bool false) H)(G:VR L.sa s.heap v cv):a8 L A (call (.builtin "str.isspace") [cv]) (EPost L env H s Q) aI s:=by
 refine ah h λx B F=>?_;subst B;apply G.str_el;intro t;obtain key:∀x∈aG,Txt.isspace (Str.ofString x)=false:=by decide +kernel
 exact SC.isspace (by rw[key x F];exact v8 R q (s8 _))
end
end
section
variable{a:Addr}
section
variable{H:AH}{A:Around}{d:Nat}{Q:b8}
theorem uy:∀{kvs:List (V×V)}{es:List DictEntry},ER L h kvs es->br kvs->∃B:List (V×Value),B.map (·.1)=kvs.map (·.1)/\VRs L.sa h (kvs.map (·.2)) (B.map (·.2)) /\ @Pairs L.prog L.w V bX (bB L.prog L.w) es B/\∀e∈es,∃k,kS k e.key=true/\e.hash=aL L.w k
 | [],_,x,_=>by simp[ER]at x;subst x;exact(iw ([]) rfl .nil (@Pairs.nil L.prog L.w V bX _) (λ_ h=>absurd h A7))
 |(k,v)::r,_,x,hk=>by
  refine pD x λe es aW a b c d=>?_;subst aW;refine sH (uy d λp hp=>hk p (y9 _ hp)) λB G J O Q=>?_;have hs:=cF (cZ (hk _ y7)) a;refine(iw ((k,e.val)::B) (by simp[G]) (VRs.cons c J) (@Pairs.cons L.prog L.w V bX _ e (k,e.val) es B hs rfl O) (λe' F=>?_));rcases C0.mp F with rfl|F
  .exact(af k hs b)
  .exact Q e' F
theorem xL{F:Addr}{es:Array DictEntry}{n:Nat}(ho:h.get? F=some (bb es n))(O:ER L h kvs es.toList)(J:dictOK kvs)(sk:br kvs) : ∃B:List (V×Value),B.map (·.1)=kvs.map (·.1)/\VRs L.sa h (kvs.map (·.2)) (B.map (·.2))/\@Heap.DictAt L.prog L.w V bX (bB L.prog L.w) h F B n:=by refine sH (uy O sk) λB G Q Y Z=>?_;exact(aN B G Q (Oc _ es ho (cH rfl rfl rfl) rfl (λe he=>Z e (Q5.mpr he)) Y (by rw[G];exact J.1)))
theorem sq{F:List (V×Value)}{es:List DictEntry}(P:@Pairs L.prog L.w V bX (bB L.prog L.w) es F)(hk:∀e∈es,∃k,kS k e.key=true/\e.hash=aL L.w k) : ∀{kvs:List (V×V)},F.map (·.1)=kvs.map (·.1)->VRs L.sa h (kvs.map (·.2)) (F.map (·.2))->ER L h kvs es:=by
 induction P with
 |nil=>intro kvs e1 _;cases kvs with|nil=>rfl|cons _ _=>simp at e1
 |@cons e kv es O hi Y P Z =>
  intro kvs e1 hr;rcases kvs with _|⟨p,r⟩
  .simp at e1
  .obtain⟨k,v⟩:=p;simp only[List.map_cons,List.cons.injEq]at e1;refine bM (VRs.cons_inv hr) λc cs e2 r1 r2=>?_;simp only[List.map_cons,List.cons.injEq]at e2;refine ah (hk e y7) λk' G J=>?_;obtain B:kv.1=k':=@KeyKind.inj _ _ V bX (bB L.prog L.w) _ _ _ hi G;refine(re e es rfl ?_ (by rw[J,<- B,e1.1]) (by rw[Y,e2.1];exact r1) (Z (λe Q=>hk e (y9 _ Q)) e1.2 (by rw[e2.2];exact r2)));obtain B:=jP (sa:=L.sa) (h:=h) hi;rw[e1.1]at B;exact B
theorem GK{H:AH}{Q:b8}{v:V}(h:iT H Q .len v):(∃a,v=.tup a)\/∃a,v=.ref a:=by
 cases v with
 |tup a=>exact .inl ⟨a,rfl⟩
 |ref a=>exact .inr ⟨a,rfl⟩
 |_=>exact False.elim h
theorem NH(F:ae L env loc H s.heap)(R:aF L H s.heap){v:V}(h:iT H Q .len v)(G:VR L.sa s.heap v cv):a8 L A (call (.builtin "len") [cv]) (EPost L env H s Q) aI s:=by
 rcases GK h with⟨vs,rfl⟩|⟨a,rfl⟩
 .have h:vs.length<=2^20/\Q (.int vs.length) H:=h;apply G.tup_el;intro a cvs ht B;obtain hl:cvs.size=vs.length:=B.length;exact PyProof.Rows.len_tuple ht (Pn hl h.1) (by rw[hl];exact u8 R h.2)
 .apply G.ref_el;refine bE h λvs J O q=>?_;refine cG (ao R J) λcvs n ho B=>?_;obtain hl:cvs.size=vs.length:=B.length;exact PySem.Calls.call_len_list (aN _ ho rfl (gE _ rfl)) (Po hl O) (by rw[hl];exact u8 R q)
theorem NL(F:ae L env loc H s.heap)(R:aF L H s.heap)(hr:Room A d){ns:List Int}(h:H a=some (.list (ns.map .int)))(q:Q (.int ns.sum) H) : a8 L A (call (.builtin "sum") [.ref a]) (EPost L env H s Q) aI s:=by refine cG (ao R h) λcvs n ho O=>?_;refine ah (F.fr R) λm hm B=>?_;refine PyProof.Rows.LSm.sum_ints (vs:=cvs.toList) B bT hr.1 (aN _ ho rfl (gE n (by rfl))) (om O) λh' tk t' G J=>?_;exact(bR _ _ q (s9 _ _) (u5 F R hm G J λp hp=>hp))
theorem NI(F:ae L env loc H s.heap)(R:aF L H s.heap)(hr:Room A d){i:Int}{ns:List Int}(h:H a=some (.list ((i::ns).map .int)))(q:∀M,M∈i::ns->(∀x∈i::ns,x<=M)->Q (.int M) H) : a8 L A (call (.builtin "max") [.ref a]) (EPost L env H s Q) aI s:=by refine cG (ao R h) λcvs n ho Z=>?_;refine ah (F.fr R) λm hm G=>?_;refine kso_max (vs:=cvs.toList) G bT (aN _ ho rfl (gE n (by simp))) (om Z) (by simp) hr.1 λh' M t tk J O Y B=>?_;exact(bR _ _ (q M Y B) (s9 _ _) (u5 F R hm J O λp hp=>hp))
theorem NG(R:aF L H s.heap){i:Int}{c:Value}(B:VR L.sa s.heap (.int i) c)(q:Q (.int i) H):a8 L A (call (.type "int") [c]) (EPost L env H s Q) aI s:=by apply B.int_el;intro t;exact call_int_int (v8 R q (s9 _ _))
theorem uw(R:aF L H s.heap){c:Value}(B:VR L.sa s.heap (.tup vs) c)(q:Q (.tup vs) H):a8 L A (call (.type "tuple") [c]) (EPost L env H s Q) aI s:=by refine bM B.tup_inv λa cvs eJ ht F=>?_;subst eJ;exact call_tuple_tup ht (v8 R q B)
theorem sj(F:ae L env loc H s.heap)(R:aF L H s.heap)(h:H a=some (.list vs))(hz:vs.length<=16384)(q:Q (.tup vs) H) : a8 L A (call (.type "tuple") [.ref a]) (EPost L env H s Q) aI s:=by refine cG (ao R h) λcvs n ho J=>?_;obtain hl:cvs.size=vs.length:=J.length;refine ah (F.fr R) λm hm G=>?_;refine kde_tupleOf G bT (aN _ ho rfl (gE n rfl)) (Pp hl hz) rfl λD h' O B lt=>?_;obtain S:=u5 F R hm (tk:=s.toks) O B λp hp=>.tail _ hp;exact(bR _ _ q (t8 (R.nx (ma R (B _ (.head _)).2.1 (B _ (.head _)).2.2 lt)) (aN _ ((B _ (.head _)).1) rfl (gE 0 rfl)) (J.keep S.st.tup)) S)
theorem GQ(C:aO L.toSx)(F:ae L env loc H s.heap)(R:aF L H s.heap)(h:H a=some (.dict kvs))(sk:br kvs)(hz:kvs.length<=1000)(q:fresh H Q (.dict kvs)) : a8 L A (call (.type "dict") [.ref a]) (EPost L env H s Q) aI s:=by
 letI:DecidableEq V:=bX
 refine bM (cz R h) λes n ho er Z=>?_;refine bE (xL ho er Z sk) λY h1 h2 h3=>?_;obtain hl:Y.length=kvs.length:=by obtain G:=C3 List.length h1;simpa using G
 refine kt_call_dict (R.nosys C h) h3.dictOf (by rw[J9];exact Gx hl hz) λh' hd sb=>?_;refine Oa hd λo J ep O hx B hk hp hnd=>?_;obtain hn:s.heap.get? s.heap.objs.size=none:=C6 (A8 _);obtain k:∀b o,s.heap.get? b=some o->h'.get? b=some o:=λb o e=>(sb.2 b (G7 (I4 e))).trans (z5 _ e);have ob:o=bb J ep:=by obtain⟨c1,c2,c3,c4⟩:=o;obtain⟨x1,x2,x3⟩:=hx;simp only at x1 x2 x3 B;subst x1 x2 x3 B;rfl
 obtain⟨S,hH⟩:=u1 (own:=eA) (s':={ s with heap:=h',toks:=s.toks }) R rfl rfl hn k O (x:=.dict kvs)
  (bR _ _ ob (sq hp (λe he=>hk e (Q5.mp he)) h1 (h2.keep (r8 k))) Z)
 exact(bR _ _ (q _ hH) (t7 _) (S.toE F.lH))
theorem ut(F:ae L env loc H s.heap)(R:aF L H s.heap)(hr:Room A d){r dd:Addr}(hv:s.heap.IsItemsView r dd)(h:H dd=some (.dict kvs))(sk:br kvs)(hz:kvs.length<=1000)(q:fresh H Q (.list (aY kvs))) : a8 L A (call (.type "list") [.ref r]) (EPost L env H s Q) aI s:=by
 letI:DecidableEq V:=bX
 refine bM (cz R h) λes n ho er dk=>?_;refine bE (xL ho er dk sk) λY h1 h2 h3=>?_;have hl:Y.length=kvs.length:=by obtain Z:=C3 List.length h1;simpa using Z
 refine kdx_call hr.1 hv h3 (by rw[J9];exact Gx hl hz) λh' tk acc c as k ha hlen G B=>?_;obtain hn:s.heap.get? s.heap.objs.size=none:=C6 (A8 _);obtain ad:TupKeep L.sa s.heap h':=r8 k;have r:VRs L.sa h' (aY kvs) acc.toList:=by
  rw[B];have key:∀(j:Nat)(a:Addr),as[j]?=some a->∃p,kvs[j]?=some p/\VR L.sa h' (.tup [p.1,p.2]) (.ref a):=by
   intro j a ha;refine Ef (G.pairs j a ha) λck J x e1 e2 e3=>?_;obtain e4:(Y.map (·.1))[j]?=some J:=by rw[C5,e1];rfl
   rw[h1,C5]at e4;refine ah (E3.mp e4) λp hp z=>?_;refine ah ((h2.keep ad).get (i:=j) (v:=p.2) (by rw[C5,hp];rfl)) λc e5 e6=>?_;rw[C5,e1]at e5;obtain rfl:=w4 e5;refine(af p hp (t8 (R.nx (C6 (D5 (G.above a (B0 ha))))) (aN _ e3 rfl (gE 0 rfl)) ?_));obtain e7:VR L.sa h' J ck:=jP e2;rw[z];exact VRs.cons e7 (VRs.one e6)
  obtain O:as.length=kvs.length:=hlen.trans hl;clear B ha G;have gen:∀(kvs:List (V×V))(as:List Addr),as.length=kvs.length->(∀(j:Nat)(a:Addr),as[j]?=some a->∃p,kvs[j]?=some p/\VR L.sa h' (.tup [p.1,p.2]) (.ref a))->VRs L.sa h' (kvs.map λp=>.tup [p.1,p.2]) (as.map Value.ref):=by
   intro kvs;induction kvs with
   |nil=>intro as hl _;rw[L6.mp hl];exact .nil
   |cons p r ih =>
    intro as hl hk;rcases as with _|⟨a,as⟩
    .simp at hl
    .refine ah (hk 0 a rfl) λp' e1 e2=>?_;simp at e1;subst e1;exact .cons e2 (ih as (by simpa using hl) λj a' hj=>by simpa using hk (j+1) a' (by simpa using hj))
  exact gen kvs as O key
 refine cf (u1 (own:=eA) (s':={ s with heap:=h',toks:=tk }) R rfl rfl hn k ha (x:=.list (aY kvs)) (eU _ _ rfl r)) λS hH=>?_;exact(bR _ _ (q _ hH) (t7 _) (S.toE F.lH))
end
end
section
variable{H:AH}{A:Around}{d:Nat}{Q:b8}
theorem yD(h:Oe nm x=true):nm.lookup (Str.ofString x)=some .local\/nm.lookup (Str.ofString x)=some .cell\/nm.lookup (Str.ofString x)=some .free:=by unfold Oe at h;split at h <;> simp_all
theorem Bw(F:ae L env loc H s.heap){p:Pos}{v:V}(hl:Oe env.scope.names x=true)(ho:iP (Str.ofString x)=true)(Q:loc x=some v){P:a9}(O:∀c,VR L.sa s.heap v c->P c s) : a8 L A (eval (.Name (Str.ofString x) p) env) P E s:=by
 unfold iP at ho;simp only[Bool.and_eq_true,Bool.not_eq_true']at ho;refine wpAny_Name ?_ ho.1;rcases yD hl with k|k|k
 .refine ah F.ns λm Y hm=>?_;refine ah (hm x v Q k) λcv B G=>?_;exact wpAny_loadName_local F.kind k Y B (O cv G)
 .obtain⟨c,cv,B,G,J⟩:=F.cellv x v Q (.inl k);exact wpAny_loadName_cell F.kind k B G (O cv J)
 .obtain⟨c,cv,B,G,J⟩:=F.cellv x v Q (.inr k);exact wpAny_loadName_free F.kind k B G (O cv J) ho.2
theorem ur{mg:Str->Option Value}(F:ae L env loc H s.heap)(R:aF L H s.heap)(G:L.base.Ns mainGlobals mg){x:Str}{p:Pos}{c:Value}(hl:IA env.scope.names x=true)(ho:iP x=true)(O:mg x=some c){P:a9}(J:P c s) : a8 L A (eval (.Name x p) env) P E s:=by
 unfold iP at ho;simp only[Bool.and_eq_true,Bool.not_eq_true']at ho;obtain hk:env.kindOf x=some .globalImplicit:=by unfold IA at hl;exact N4.mp hl
 obtain B:s.heap.Ns env.globals mg:=by rw[F.glob];exact G.keeps R.base
 exact Calls.Name_function_global F.kind hk (Calls.loadGlobal_global B O J) ho.1
theorem jq{mg mb:Str->Option Value}(F:ae L env loc H s.heap)(R:aF L H s.heap)(G:L.base.Ns mainGlobals mg)(B:L.base.Ns builtinsNs mb){x:Str}{p:Pos}{c:Value}(hl:IA env.scope.names x=true)(ho:iP x=true)(hm:mg x=none)(Y:mb x=some c) {P:a9} (Q:P c s):a8 L A (eval (.Name x p) env) P E s:=by
 unfold iP at ho;simp only[Bool.and_eq_true,Bool.not_eq_true']at ho;obtain hk:env.kindOf x=some .globalImplicit:=by unfold IA at hl;exact N4.mp hl
 obtain O:s.heap.Ns env.globals mg:=by rw[F.glob];exact G.keeps R.base
 obtain J:s.heap.Ns env.builtins mb:=by rw[F.blt];exact B.keeps R.base
 exact Calls.Name_function_global F.kind hk (Calls.loadGlobal_builtin O hm J Y Q) ho.1
theorem gO:∀{cells:List (Str×Addr)},(cells.Pairwise λx y=>x.2≠y.2)->∀{n n':Str}{c:Addr},cells.lookup n=some c->cells.lookup n'=some c->n=n'
 | [],_,_,_,_,h,_=>by simp at h
 |(k,a)::r,P,n,n',c,h,h'=>by
  rw[Q2]at P;have mem:∀{n:Str}{c:Addr},r.lookup n=some c->(∃B,(B,c)∈r):=by
   intro n c e;have gen:∀(r:List (Str×Addr)),r.lookup n=some c->∃B,(B,c)∈r:=by
    intro r;induction r with
    |nil=>intro e;simp at e
    |cons p r O =>
     intro e;obtain⟨B,a'⟩:=p;rw[L7]at e;split at e
     .obtain rfl:=w4 e;exact⟨B,y7⟩
     .obtain⟨J,hk⟩:=O e;exact⟨J,y9 _ hk⟩
   exact gen r e
  rw[L7]at h h';by_cases F:(n==k)=true <;> by_cases G:(n'==k)=true
  .rw[N4.mp F,N4.mp G]
  .rw[F]at h;rw[K0.mpr G]at h';simp only at h h';obtain rfl:=w4 h;obtain⟨B,hk⟩:=mem h';exact(P.1 _ hk rfl).elim
  .rw[G]at h';rw[K0.mpr F]at h;simp only at h h';obtain rfl:=w4 h';obtain⟨B,hk⟩:=mem h;exact(P.1 _ hk rfl).elim
  .rw[K0.mpr F]at h;rw[K0.mpr G]at h';exact gO P.2 h h'
theorem ax.other{own:Addr->Prop}(R:aF L H s.heap){Γ:Addr}{o':Obj}{t:Nat}(hL:H Γ=none)(Z:L.base.get? Γ=none)(F:own Γ)(ho:s.heap.get? Γ=some o)(O:h'.get? Γ=some o') (J:∀xs n,o.data≠.seq xs n) (sb:Heap.SameBut Γ s.heap h'):ax L own H H s { s with heap:=h',toks:=t }:=by
 have tk:TupKeep L.sa s.heap h':=λb ob _ e hc ⟨xs,n,hd⟩=>by
  by_cases B:b=Γ
  .subst B;rw[ho]at e;obtain rfl:=w4 e;exact absurd hd (J xs n)
  .exact(sb.2 b B).trans e
 have live:∀b,s.heap.get? b≠none->h'.get? b≠none:=λb h=>by
  by_cases B:b=Γ
  .subst B;rw[O];simp
  .rw[sb.2 b B];exact h
 refine⟨rfl,rfl,λb ob e _ hn=>(sb.2 b λz=>hn (z▸F)).trans e,λb ob e=>.inl (by simp[e]),λ_ h=>h,live,tk,⟨λb ob e=>?_,R.fresh,λa ob e=>?_,λb B=>live b (R.ex b B)⟩⟩
 .exact(sb.2 b λz=>by rw[z,Z]at e;exact ns e).trans (R.base b ob e)
 .refine ah (R.obj a ob e) λG Q Y=>?_;exact(af G ((sb.2 a λz=>by rw[z,hL]at e;exact ns e).trans Q) (Y.keep tk))
def oN(c:Bool)(env:Env):Addr->Prop:=λb=>b=env.locals\/(c=true/\∃n,env.cells.lookup n=some b)
theorem mZ{c:Bool}{b:Addr}(h:oN c env b):dO env b:=h.imp id λh=>h.2
theorem xK(F:ae L env loc H s.heap)(R:aF L H s.heap){v:V}{c:Value}{J:Bool}(hl:IB J env.scope.names x=true)(rv:VR L.sa s.heap v c){P:b6} (hP:∀s',ae L env (loc.put x v) H s'.heap->ax L (oN J env) H H s s'->P () s'):a8 L A (storeName env (Str.ofString x) c) P E s:=by
 unfold IB at hl;rw[Bool.or_eq_true]at hl;rcases hl with k|k
 .have k:env.kindOf (Str.ofString x)=some .local:=N4.mp k;refine ah F.ns λm hn hm=>?_;refine wpAny_storeName_local k hn (λh' hn' sb=>?_) (by rw[F.kind];rfl);refine Ef (id hn) λo es ep ho hd _=>?_;obtain⟨o',es',ep',Y,hd',_⟩:=id hn';have S:ax L (oN J env) H H s { s with heap:=h',toks:=s.toks+1 }:=ax.other R F.lH F.lB (.inl rfl) ho Y (λxs n z=>by rw[hd]at z;cases z) sb;refine hP _ ⟨F.kind,F.glob,F.blt,(af _ hn' (λy u e Z=>?_)),F.lH,F.lB,F.above,λn c e=>?_,λy u e Z=>?_,F.hasCell,F.apart⟩ S
  .by_cases B:y=x
   .subst B;rw[Loc.put_self]at e;obtain rfl:=w4 e;exact(af c (by simp) (rv.keep S.tup))
   .rw[u2 _ _ B]at e;refine ah (hm y u e Z) λcv O Q=>?_;exact(af cv (by rw[if_neg λz=>B (bo z)];exact O) (Q.keep S.tup))
  .refine ia (F.cell n c e) λO Q aW=>?_;refine cG aW λcv G h3 h4=>?_;exact(cH O Q (eU cv G ((sb.2 c (F.cell_ne e)).trans h3) h4))
  .have B:y≠x:=by rintro rfl;rw[k]at Z;simp at Z
   rw[u2 _ _ B]at e;refine bM (F.cellv y u e Z) λc cv O bS h4=>?_;obtain⟨G,Q,h3⟩:=bS;exact(bR c cv O (af G ((sb.2 c (F.cell_ne O)).trans Q) h3) (h4.keep S.tup))
 .rw[I1]at k;have k':=k;obtain⟨_,k⟩:=k;have k:env.kindOf (Str.ofString x)=some .cell:=N4.mp k;refine bL (F.hasCell _ (.inl k)) λcc hc=>?_;obtain⟨c1,c2,cv0,o0,c3,c4⟩:=F.cell _ _ hc;refine wpAny_storeName_cell F.kind k hc (af o0 c3 c4) λh' ⟨o',Y,hd'⟩ sb=>?_;have S:ax L (oN J env) H H s { s with heap:=h',toks:=s.toks }:=ax.other R c1 c2 (.inr ⟨k'.1,_,hc⟩) c3 Y (λxs n z=>by rw[c4]at z;cases z) sb;have hLc:env.locals≠cc:=λz=>F.cell_ne hc z.symm;refine hP _ ⟨F.kind,F.glob,F.blt,?_,F.lH,F.lB,F.above,λn c e=>?_,λy u e Z=>?_,F.hasCell,F.apart⟩ S
  .refine ah F.ns λm cW hm=>?_;obtain⟨o,es,ep,ho,r⟩:=cW;refine(af m (zz o es ep ((sb.2 _ hLc).trans ho) r) (λy u e Z=>?_));obtain B:y≠x:=by rintro rfl;rw[k]at Z;simp at Z
   rw[u2 _ _ B]at e;refine ah (hm y u e Z) λcv O Q=>?_;exact(af cv O (Q.keep S.tup))
  .by_cases hcc:c=cc
   .subst hcc;exact(cH c1 c2 (eU _ o' Y hd'))
   .refine ia (F.cell n c e) λO Q eJ=>?_;refine cG eJ λcv G h3 h4=>?_;exact(cH O Q (eU cv G ((sb.2 c hcc).trans h3) h4))
  .by_cases B:y=x
   .subst B;rw[Loc.put_self]at e;obtain rfl:=w4 e;exact(bR cc _ hc (af o' Y hd') (rv.keep S.tup))
   .rw[u2 _ _ B]at e;refine bM (F.cellv y u e Z) λc' cv O zq6 h4=>?_;obtain⟨G,Q,h3⟩:=zq6;obtain this:c'≠cc:=by rintro rfl;exact B (bo (gO F.apart O hc))
    exact(bR c' cv O (af G ((sb.2 c' this).trans Q) h3) (h4.keep S.tup))
end
theorem be{c:Prop}{d:Decidable c}{f:c->Bool}(h:@dite Bool c d f (λ_=>false)=true):∃x:c,f x=true:=by
 cases d with
 |isTrue x=>exact⟨x,h⟩
 |isFalse _=>exact ai h
@[elab_as_elim] theorem bf {e:Expr} {k:Str->Bool} {P:Expr->Prop} (h:dS e k=true) (q:∀id p,k id=true->P (.Name id p)):P e:=by obtain⟨i,h⟩:=be h;exact Expr.Name.elim (motive_1:=λe=>∀i:e.ctorIdx=23,Expr.Name.elim (motive_1:=λ_=>Bool) e i (λid _=>k id)=true->P e) e i (λid p _ h=>q id p h) i h
@[elab_as_elim] theorem bW {e:Expr} {k:(List Expr)->Bool} {P:Expr->Prop} (h:gX e k=true) (q:∀es n p,k es=true->P (.Tuple es n p)):P e:=by obtain⟨i,h⟩:=be h;exact Expr.Tuple.elim (motive_1:=λe=>∀i:e.ctorIdx=25,Expr.Tuple.elim (motive_1:=λ_=>Bool) e i (λes _ _=>k es)=true->P e) e i (λes n p _ h=>q es n p h) i h
@[elab_as_elim] theorem dG {e:Expr} {k:Const->Bool} {P:Expr->Prop} (h:gV e k=true) (q:∀c n p,k c=true->P (.Constant c n p)):P e:=by obtain⟨i,h⟩:=be h;exact Expr.Constant.elim (motive_1:=λe=>∀i:e.ctorIdx=19,Expr.Constant.elim (motive_1:=λ_=>Bool) e i (λc _ _=>k c)=true->P e) e i (λc n p _ h=>q c n p h) i h
@[elab_as_elim] theorem gd {e:Expr} {k:UnaryOp->Expr->Bool} {P:Expr->Prop} (h:lI e k=true) (q:∀o x p,k o x=true->P (.UnaryOp o x p)):P e:=by obtain⟨i,h⟩:=be h;exact Expr.UnaryOp.elim (motive_1:=λe=>∀i:e.ctorIdx=3,Expr.UnaryOp.elim (motive_1:=λ_=>Bool) e i (λo x _=>k o x)=true->P e) e i (λo x p _ h=>q o x p h) i h
@[elab_as_elim] theorem vP {e:Expr} {k:(List Expr)->Bool} {P:Expr->Prop} (h:Bi e k=true) (q:∀es p,k es=true->P (.List es p)):P e:=by obtain⟨i,h⟩:=be h;exact Expr.List.elim (motive_1:=λe=>∀i:e.ctorIdx=24,Expr.List.elim (motive_1:=λ_=>Bool) e i (λes _=>k es)=true->P e) e i (λes p _ h=>q es p h) i h
@[elab_as_elim] theorem vO {e:Expr} {k:(List (Option Expr))->(List Expr)->Bool} {P:Expr->Prop} (h:Bh e k=true) (q:∀ks vs p,k ks vs=true->P (.Dict ks vs p)):P e:=by obtain⟨i,h⟩:=be h;exact Expr.Dict.elim (motive_1:=λe=>∀i:e.ctorIdx=6,Expr.Dict.elim (motive_1:=λ_=>Bool) e i (λks vs _=>k ks vs)=true->P e) e i (λks vs p _ h=>q ks vs p h) i h
@[elab_as_elim] theorem tX {e:Expr} {k:Expr->Operator->Expr->Bool} {P:Expr->Prop} (h:xu e k=true) (q:∀l o r p,k l o r=true->P (.BinOp l o r p)):P e:=by obtain⟨i,h⟩:=be h;exact Expr.BinOp.elim (motive_1:=λe=>∀i:e.ctorIdx=2,Expr.BinOp.elim (motive_1:=λ_=>Bool) e i (λl o r _=>k l o r)=true->P e) e i (λl o r p _ h=>q l o r p h) i h
@[elab_as_elim] theorem ee {e:Expr} {k:Expr->(List CmpOp)->(List Expr)->Bool} {P:Expr->Prop} (h:lG e k=true) (q:∀l os rs p,k l os rs=true->P (.Compare l os rs p)):P e:=by obtain⟨i,h⟩:=be h;exact Expr.Compare.elim (motive_1:=λe=>∀i:e.ctorIdx=15,Expr.Compare.elim (motive_1:=λ_=>Bool) e i (λl os rs _=>k l os rs)=true->P e) e i (λl os rs p _ h=>q l os rs p h) i h
@[elab_as_elim] theorem eR {e:Expr} {k:BoolOp->(List Expr)->Bool} {P:Expr->Prop} (h:oK e k=true) (q:∀o xs p,k o xs=true->P (.BoolOp o xs p)):P e:=by obtain⟨i,h⟩:=be h;exact Expr.BoolOp.elim (motive_1:=λe=>∀i:e.ctorIdx=0,Expr.BoolOp.elim (motive_1:=λ_=>Bool) e i (λo xs _=>k o xs)=true->P e) e i (λo xs p _ h=>q o xs p h) i h
@[elab_as_elim] theorem tY {e:Expr} {k:Expr->Expr->Expr->Bool} {P:Expr->Prop} (h:xy e k=true) (q:∀t x y p,k t x y=true->P (.IfExp t x y p)):P e:=by obtain⟨i,h⟩:=be h;exact Expr.IfExp.elim (motive_1:=λe=>∀i:e.ctorIdx=5,Expr.IfExp.elim (motive_1:=λ_=>Bool) e i (λt x y _=>k t x y)=true->P e) e i (λt x y p _ h=>q t x y p h) i h
@[elab_as_elim] theorem eH {e:Expr} {k:Expr->Expr->Bool} {P:Expr->Prop} (h:fO e k=true) (q:∀o i p,k o i=true->P (.Subscript o i p)):P e:=by obtain⟨i,h⟩:=be h;exact Expr.Subscript.elim (motive_1:=λe=>∀i:e.ctorIdx=21,Expr.Subscript.elim (motive_1:=λ_=>Bool) e i (λo i _=>k o i)=true->P e) e i (λo i p _ h=>q o i p h) i h
@[elab_as_elim] theorem uc {e:Expr} {k:(Option Expr)->(Option Expr)->(Option Expr)->Bool} {P:Expr->Prop} (h:xA e k=true) (q:∀l u st p,k l u st=true->P (.Slice l u st p)):P e:=by obtain⟨i,h⟩:=be h;exact Expr.Slice.elim (motive_1:=λe=>∀i:e.ctorIdx=26,Expr.Slice.elim (motive_1:=λ_=>Bool) e i (λl u st _=>k l u st)=true->P e) e i (λl u st p _ h=>q l u st p h) i h
@[elab_as_elim] theorem eG {e:Expr} {k:Expr->Str->Pos->Bool} {P:Expr->Prop} (h:fN e k=true) (q:∀o n p,k o n p=true->P (.Attribute o n p)):P e:=by obtain⟨i,h⟩:=be h;exact Expr.Attribute.elim (motive_1:=λe=>∀i:e.ctorIdx=20,Expr.Attribute.elim (motive_1:=λ_=>Bool) e i (λo n p=>k o n p)=true->P e) e i (λo n p _ h=>q o n p h) i h
@[elab_as_elim] theorem iR {e:Expr} {k:Expr->(List Comprehension)->Scope->Bool} {P:Expr->Prop} (h:oM e k=true) (q:∀x gs sc p,k x gs sc=true->P (.ListComp x gs sc p)):P e:=by obtain⟨i,h⟩:=be h;exact Expr.ListComp.elim (motive_1:=λe=>∀i:e.ctorIdx=8,Expr.ListComp.elim (motive_1:=λ_=>Bool) e i (λx gs sc _=>k x gs sc)=true->P e) e i (λx gs sc p _ h=>q x gs sc p h) i h
@[elab_as_elim] theorem cL {e:Expr} {k:Expr->(List Expr)->(List Keyword)->Pos->Bool} {P:Expr->Prop} (h:iQ e k=true) (q:∀f as ks p,k f as ks p=true->P (.Call f as ks p)):P e:=by obtain⟨i,h⟩:=be h;exact Expr.Call.elim (motive_1:=λe=>∀i:e.ctorIdx=16,Expr.Call.elim (motive_1:=λ_=>Bool) e i (λf as ks p=>k f as ks p)=true->P e) e i (λf as ks p _ h=>q f as ks p h) i h
@[elab_as_elim] theorem tZ {e:Stmt} {k:Expr->Bool} {P:Stmt->Prop} (h:xz e k=true) (q:∀e p,k e=true->P (.Expr e p)):P e:=by obtain⟨i,h⟩:=be h;exact Stmt.Expr.elim (motive_2:=λe=>∀i:e.ctorIdx=24,Stmt.Expr.elim (motive_2:=λ_=>Bool) e i (λe _=>k e)=true->P e) e i (λe p _ h=>q e p h) i h
@[elab_as_elim] theorem gc {e:Stmt} {k:(List Expr)->Expr->Bool} {P:Stmt->Prop} (h:jn e k=true) (q:∀ts e p,k ts e=true->P (.Assign ts e p)):P e:=by obtain⟨i,h⟩:=be h;exact Stmt.Assign.elim (motive_2:=λe=>∀i:e.ctorIdx=5,Stmt.Assign.elim (motive_2:=λ_=>Bool) e i (λts e _=>k ts e)=true->P e) e i (λts e p _ h=>q ts e p h) i h
@[elab_as_elim] theorem pP {e:Stmt} {k:(Option Expr)->Bool} {P:Stmt->Prop} (h:qJ e k=true) (q:∀e p,k e=true->P (.Return e p)):P e:=by obtain⟨i,h⟩:=be h;exact Stmt.Return.elim (motive_2:=λe=>∀i:e.ctorIdx=3,Stmt.Return.elim (motive_2:=λ_=>Bool) e i (λe _=>k e)=true->P e) e i (λe p _ h=>q e p h) i h
@[elab_as_elim] theorem yU {e:Stmt} {k:Expr->(List Stmt)->(List Stmt)->Bool} {P:Stmt->Prop} (h:Fx e k=true) (q:∀t a b p,k t a b=true->P (.If t a b p)):P e:=by obtain⟨i,h⟩:=be h;exact Stmt.If.elim (motive_2:=λe=>∀i:e.ctorIdx=12,Stmt.If.elim (motive_2:=λ_=>Bool) e i (λt a b _=>k t a b)=true->P e) e i (λt a b p _ h=>q t a b p h) i h
@[elab_as_elim] theorem rT {e:Stmt} {k:Expr->(List Stmt)->(List Stmt)->Bool} {P:Stmt->Prop} (h:ub e k=true) (q:∀t a b p,k t a b=true->P (.While t a b p)):P e:=by obtain⟨i,h⟩:=be h;exact Stmt.While.elim (motive_2:=λe=>∀i:e.ctorIdx=11,Stmt.While.elim (motive_2:=λ_=>Bool) e i (λt a b _=>k t a b)=true->P e) e i (λt a b p _ h=>q t a b p h) i h
@[elab_as_elim] theorem vQ {e:Stmt} {k:Expr->Expr->(List Stmt)->(List Stmt)->Bool} {P:Stmt->Prop} (h:Bj e k=true) (q:∀t i a b p,k t i a b=true->P (.For t i a b p)):P e:=by obtain⟨i,h⟩:=be h;exact Stmt.For.elim (motive_2:=λe=>∀i:e.ctorIdx=9,Stmt.For.elim (motive_2:=λ_=>Bool) e i (λt i a b _=>k t i a b)=true->P e) e i (λt i a b p _ h=>q t i a b p h) i h
theorem mY{l:List α}{k:α->Bool}(h:zw l k=true):∃a,l=[a]/\k a=true:=by
 rcases l with _|⟨a,l⟩
 .exact ai h
 .rcases l with _|⟨_,_⟩
  .exact(af a rfl h)
  .exact ai h
@[elab_as_elim] theorem fv {α:Type} {l:List α} {k:α->Bool} {P:List α->Prop} (h:zw l k=true) (q:∀a,k a=true->P [a]):P l:=by obtain⟨a,rfl,h⟩:=mY h;exact q a h
theorem Dt{l:List α}{k:α->α->Bool}(h:Gz l k=true):∃a b,l=[a,b]/\k a b=true:=by
 rcases l with _|⟨a,l⟩
 .exact ai h
 .refine ah (mY h) λb bS h=>?_;subst bS;exact(eU a b rfl h)
@[elab_as_elim] theorem gU {α:Type} {l:List α} {k:α->α->Bool} {P:List α->Prop} (h:Gz l k=true) (q:∀a b,k a b=true->P [a,b]):P l:=by refine cG (Dt h) λa b cI h=>?_;subst cI;exact q a b h
@[elab_as_elim] theorem qf {cl:Bool} {nm:bj} {t:Tgt} {x:Expr} {P:Expr->Prop} (h:fC cl nm t x=true) (hn:∀id p,P (.Name id p)) (ht:∀es k p,P (.Tuple es k p)):P x:=by
 cases t with
 |nm y=>exact bf h λid p _=>hn id p
 |tp ts=>exact bW h λes k p _=>ht es k p
theorem jT{cl:Bool}:∀{ts:Tgts}{es:List Expr},nP cl nm ts es=true->assignEach es env=es.map λe=>(false,assign e env)
 | .nil,es,h=>by
  rcases es with _|⟨_,_⟩
  .rfl
  .exact ai h
 | .cons t ts,es,h=>by
  rcases es with _|⟨e,es⟩
  .exact ai h
  .obtain h:=aa h;exact(qf (P:=λe=>assignEach (e::es) env=(false,assign e env)::assignEach es env) h.1 (λ_ _=>rfl) λ_ _ _=>rfl).trans (C3 _ (jT h.2))
theorem jR{cl:Bool}:∀{ts:Tgts}{es:List Expr}{vs:List V}{l l':Loc},nP cl nm ts es=true->eX ts vs l=some l'->vs.length=es.length
 | .nil,es,vs,l,l',h,B=>by
  cases es with
  |cons _ _=>exact ai h
  |nil=>cases vs with
   |nil=>rfl
   |cons _ _=>exact kb B
 | .cons t ts,es,vs,l,l',h,B=>by
  rcases es with _|⟨e,es⟩
  .exact ai h
  .rcases vs with _|⟨v,vs⟩
   .exact kb B
   .refine ah (Option.bind_eq_some_iff.mp B) λl1 _ F=>?_;exact C3 (· + 1) (jR (aa h).2 F)
theorem tr{es:List Expr}(h:assignEach es env=es.map λe=>(false,assign e env)):(assignEach es env).map (·.2)=es.map (λe=>assign e env)/\(assignEach es env).length=es.length/\(assignEach es env).findIdx? (·.1)=none:=by rw[h,J0,u7];exact⟨rfl,rfl,List.findIdx?_eq_none_iff.mpr λx B=>by refine ah (w3.mp B) λe _ cW=>?_;subst cW;rfl⟩
section
variable{H:AH}{A:Around}{d:Nat}{Q:b8}
def w1{own:Addr->Prop}(R:aF L H s.heap){t:Nat}(e:Heap.ExtBut s.heap.objs.size s.heap h'):ax L own H H s { s with heap:=h',toks:=t } :=t9 (s':={ s with heap:=h',toks:=t }) R rfl rfl λb o q=>e b o (G7 (I4 q)) q
def ae.ext(F:ae L env loc H s.heap)(R:aF L H s.heap)(e:Heap.ExtBut s.heap.objs.size s.heap h'):ae L env loc H h' :=F.stepNo (s':={ s with heap:=h',toks:=s.toks }) (w1 R e)
abbrev pY(L:Cx)(cl:Bool)(env:Env)(loc':Loc)(H:AH)(s:Shared)(P:b6):Prop:=∀s',ae L env loc' H s'.heap->ax L (oN cl env) H H s s'->P () s'
def Ci(L:Cx)(env:Env)(A:Around)(E:a9)(cl:Bool)(t:Tgt):Prop:=∀(x:Expr),fC cl env.scope.names t x=true->∀{loc loc':Loc}{v:V}{c:Value}{H:AH}{s:Shared}{P:b6},ae L env loc H s.heap->aF L H s.heap->bm t v loc=some loc'->VR L.sa s.heap v c ->
  pY L cl env loc' H s P->a8 L A (assign x env c) P E s
def sN(L:Cx)(env:Env)(A:Around)(E:a9)(cl:Bool)(ts:Tgts):Prop:=∀(es:List Expr),nP cl env.scope.names ts es=true->∀{loc loc':Loc}{vs:List V}{cs:List Value}{H:AH}{s:Shared}{P:b6},ae L env loc H s.heap->aF L H s.heap->eX ts vs loc=some loc'->VRs L.sa s.heap vs cs ->
  pY L cl env loc' H s P->a8 L A (assignInOrder (es.map λe=>assign e env) cs) P E s
theorem Bx{cl:Bool}:Ci L env A E cl (.nm x):=λe hc _ _ _ _ _ _ _ F R G J B=>by
 revert hc;obtain rfl:=w4 G
 refineλhc=>bf hc λid p hk=>?_
 obtain hk:=aa hk;rw[J3 hk.1];exact wpAny_assign_Name (xK F R hk.2 J B)
theorem wh{cl:Bool}:sN L env A E cl .nil:=λes hc _ _ vs cs H s P F R B J G=>by
 cases vs with
 |cons _ _=>exact kb B
 |nil =>
  obtain rfl:=w4 B;cases es with
  |cons _ _=>exact ai hc
  |nil=>exact v9 (G s F (ax.refl R))
theorem uv{cl:Bool}{t:Tgt}{ts:Tgts}(ht:Ci L env A E cl t)(G:sN L env A E cl ts):sN L env A E cl (.cons t ts):=λes hc _ _ vs cs H s P F R J rv hP=>by
 rcases es with _|⟨e,es⟩
 .exact ai hc
 .rcases vs with _|⟨v,vs⟩
  .exact kb J
  .obtain hc:=aa hc;refine ah (Option.bind_eq_some_iff.mp J) λl1 Z h2=>?_;refine bM rv.cons_inv λc r eJ r1 rr=>?_;subst eJ;exact r5 (G6 (ht e hc.1 F R Z r1 λs1 O B=>G es hc.2 O B.rel h2 (rr.keep B.tup) λs2 Q Y=>hP s2 Q (B.trans Y)))
theorem By{cl:Bool}(Z:A.handled=none){ts:Tgts}(G:sN L env A E cl ts):Ci L env A E cl (.tp ts):=λe hc loc loc' v _ H s P F R B rv hP=>by
 refine bW hc λes n p hk=>?_;cases v with
 |tup vs =>apply rv.tup_el;intro ad cvs ht O;obtain m:=tr (env:=env) (jT hk);obtain hl:es.length=cvs.size:=(jR hk B).symm.trans (O.length.symm.trans J7);refine assign_Tuple_tuple Z ht (m.2.1.trans hl) m.2.2 λh' J=>?_;rw[m.1];obtain S0:ax L (oN cl env) H H s { s with heap:=h' }:=w1 (t:=s.toks) R J;exact G es hk (s:={ s with heap:=h' }) (F.ext R J) S0.rel B (O.keep S0.tup) λs' Q Y=>hP s' Q (S0.trans Y)
 |_=>exact kb B
mutual
theorem uu{cl:Bool}(B:A.handled=none):∀(t:Tgt),Ci L env A E cl t
 | .nm x=>Bx
 | .tp ts=>By B (wg B ts)
theorem wg{cl:Bool}(B:A.handled=none):∀(ts:Tgts),sN L env A E cl ts
 | .nil=>wh
 | .cons t ts=>uv (uu B t) (wg B ts)
end
end
def Mv(W:Addr->Prop)(s s':Shared):Prop:=∃h' tk,s'={ s with heap:=h',toks:=tk }/\∀b o,¬W b->s.heap.get? b=some o->h'.get? b=some o
structure Iter(L:Cx)(A:Around)(I:Addr)(W:Addr->Prop)(tgt:Expr)(src:pX)(vs:List V)(St:Nat->Heap->Prop):Prop where
 frame:∀i h h',St i h->(∀b o,W b->h.get? b=some o->h'.get? b=some o)->TupKeep L.sa h h'->St i h'
 wt:∀i h,St i h->∀b o,W b->h.get? b=some o->o.cls=.type "tuple"->L.X b
 lw:∀i h,St i h->∀b,W b->h.get? b≠none
 item:∀i v H s,vs[i]?=some v->aF L H s.heap->dC src H->St i s.heap ->
  a8 L A (pyNext (.ref I)) (λr ac=>∃c,r=some c/\a8 L A (letOwnedTupleGo tgt (.ref I) c) (λ_ s'=>VR L.sa s'.heap v c/\St (i+1) s'.heap/\Mv W s s') aI ac) aI s
 done:∀H s,aF L H s.heap->dC src H->St vs.length s.heap->a8 L A (pyNext (.ref I)) (λr s'=>r=none/\Mv W s s'/\∀b,L.X b->s'.heap.get? b≠none) aI s
 self:∀i s,St i s.heap->a8 L A (pyIter (.ref I)) (λc s'=>c=.ref I/\s'=s) aI s
noncomputable def cC:Expr->Bool
 | .Name ..=>true
 | .Tuple ..=>true
 |_=>false
section
variable{H:AH}{A:Around}{d:Nat}{Q:b8}
theorem iH(ht:cC tgt=true){c:Value}{n:String}(ho:s.heap.get? I=some o)(hc:o.cls=.type n)(F:["enumerate","zip","dict_itemiterator","dict_reverseitemiterator","odict_iterator","itertools.zip_longest","itertools.pairwise"].contains n=false) {P:b6} (h:P () s):a8 L A (letOwnedTupleGo tgt (.ref I) c) P E s:=by
 cases tgt with
 |Name id p=>exact v9 h
 |Tuple B k p =>
  cases c with
  |ref a =>
   refine r5 (wpAny_load ho ?_);rw[hc];cases hd:o.data with
   |fields vs =>simp only[F,Bool.false_and,Bool.false_eq_true,if_false];exact v9 h
   |_=>exact v9 h
  |_=>exact v9 h
 |_=>exact ai ht
theorem mX{X:Addr->Prop}(ex:∀b,X b->h.get? b≠none)(k:∀b o,h.get? b=some o->X b->h'.get? b=some o):∀b,X b->h'.get? b≠none:=λb B=>by
 rcases e:h.get? b with _|o
 .exact absurd e (ex b B)
 .rw[k b o e B];simp
theorem yH(ht:cC tgt=true)(hh:A.handled=none){a:Addr}(O:¬L.X I)(vs:List V) : Iter L A I (λb=>b=I) tgt (some (a,vs)) vs (λi h=>h.IsListIter I a i) where
 frame:=λi h h' ⟨o,ho,r⟩ k _=>(af o (k I o rfl ho) r)
 wt:=λi h ⟨o,ho,hc,_⟩ b o' B F ht=>by subst B;rw[ho]at F;obtain rfl:=w4 F;rw[hc]at ht;simp at ht
 lw:=λi h ⟨o,ho,_⟩ b B=>by subst B;rw[ho];simp
 item:=λi v H s hv R hs st=>by refine cG (ao R hs) λcvs n ho Z=>?_;refine ah (Z.get hv) λc h5 h6=>?_;refine wpAny_pyNext_list_item st (aN _ ho rfl (gE n rfl)) (x:=c) (by rw[<- h5];simp) λh' J sb=>⟨c,rfl,?_⟩;refine bE (id J) λo O hc hd=>?_;refine bE (id st) λo0 Q Y hd0=>?_;refine iH ht O hc (by decide) (cH (h6.keep ?_) J (eU h' s.toks rfl (λb o B e=>(sb.2 b B).trans e)));intro b o _ e G hdt;refine(sb.2 b ?_).trans e;rintro rfl;rw[Q]at e;obtain rfl:=w4 e;rw[Y]at G;simp at G
 done:=λH s R hs st=>by refine cG (ao R hs) λcvs n ho Z=>?_;obtain hl:cvs.size=vs.length:=Z.length;exact wpAny_pyNext_list_end hh st (aN _ ho rfl (gE n rfl)) (by simp[hl]) λh' he=>(cH rfl (eU h' s.toks rfl (λb o B e=>he b o B e)) (mX R.ex λb o e hX=>he b o (λz=>O (z▸hX)) e))
 self:=λi s st=>wpAny_pyIter_listiter st ⟨rfl,rfl⟩
theorem w2(ht:cC tgt=true)(hI:¬L.X I){fp:List Addr}{n:Nat}{Pv:Nat->Value->Prop}{St:Nat->Heap->Prop}(W:Walks L.prog L.w A I fp [I] n Pv St)(hn:vs.length=n) (hc:∀i h,St i h->∃o nm,h.get? I=some o/\o.cls=.type nm/\nm≠"tuple"/\["enumerate","zip","dict_itemiterator","dict_reverseitemiterator","odict_iterator","itertools.zip_longest","itertools.pairwise"].contains nm=false) (ar:∀i h h',St i h->(∀b o,b=I->h.get? b=some o->h'.get? b=some o)->TupKeep L.sa h h'->∀b∈fp,∀o,h.get? b=some o->h'.get? b=some o) (hv:∀i v c h,vs[i]?=some v->Pv i c->St i h->VR L.sa h v c):Iter L A I (λb=>b=I) tgt none vs St where
 frame:=λi h h' st k t=>W.frame i h h' st (ar i h h' st k t)
 wt:=λi h st b o B e ht=>by subst B;refine sJ (hc i h st) λo' nm G Z h3 _=>?_;rw[G]at e;obtain rfl:=w4 e;rw[Z]at ht;injection ht with ht;exact absurd ht h3
 lw:=λi h st b B=>by subst B;refine cG (hc i h st) λo' nm G _=>?_;rw[G];simp
 item:=λi v H s J R hs st=>by
  obtain hi:i<n:=by rw[<- hn];exact(A9.mp J).1
  refine W.item i s _ _ hi st λc h' tk p O k=>⟨c,rfl,?_⟩;refine sJ (hc _ _ O) λo nm G Z h3 h4=>?_;refine sJ (hc _ _ st) λo0 nm0 Y ad an h40=>?_;refine iH (s:={ s with heap:=h',toks:=tk }) ht G Z h4 (cH ((hv i v c s.heap J p st).keep ?_) O (eU h' tk rfl (λb o B e=>k b o (by simpa using B) e)));intro b o _ e F hdt;refine k b o ?_ e;intro B;obtain Q:b=I:=by simpa using B
  subst Q;rw[Y]at e;obtain rfl:=w4 e;rw[ad]at F;injection F with F;exact an F
 done:=λH s R hs st=>W.done s _ _ (by rw[<- hn];exact st) λh' tk k=>(cH rfl (eU h' tk rfl (λb o B e=>k b o (by simpa using B) e)) (mX R.ex λb o e hX=>k b o (λz=>hI (A4.mp z▸hX)) e))
 self:=λi s st=>W.self i s _ _ st ⟨rfl,rfl⟩
theorem vB(ht:cC tgt=true)(hh:A.handled=none){t:Addr}(hI:¬L.X I){cvs:Array Value}(Z:t≠I)(ad:¬L.X t){h₀:Heap}(r:VRs L.sa h₀ vs cvs.toList) : Iter L A I (λb=>b=I) tgt none vs (λi h=>(h.IsTupleIter I t i/\h.IsTuple t cvs)/\VRs L.sa h vs cvs.toList):=by
 obtain W:=Walks.tuple (prog:=L.prog) (w:=L.w) (A:=A) hh I t Z cvs;obtain hl:vs.length=cvs.size:=r.length.symm;have an:∀(i:Nat)(h h':Heap),h.IsTupleIter I t i->(∀b o,b∉[I]->h.get? b=some o->h'.get? b=some o)->TupKeep L.sa h h':=λi h h' ⟨o,ho,hc,_⟩ k b ob _ e G _=>k b ob (by
  intro B;obtain this:b=I:=by simpa using B
  subst this;rw[ho]at e;obtain rfl:=w4 e;rw[hc]at G;simp at G) e
 refine{ frame:=λi h h' st k tk=>⟨W.frame i h h' st.1 λb B o e=>?_,st.2.keep tk⟩,wt:=?_,lw:=λi h st b B=>by subst B;refine ah st.1.1 λo' F _=>?_;rw[F];simp,item:=?_,done:=?_,self:=λi s st=>W.self i s _ _ st.1 ⟨rfl,rfl⟩ }
 .rcases C0.mp B with rfl|B
  .exact k b o rfl e
  .obtain this:b=t:=by simpa using B
   subst this;refine bE st.1.2 λo' e' hc aW=>?_;refine bL aW λn hd=>?_;rw[e']at e;obtain rfl:=w4 e;exact tk b _ ad e' hc (zy _ _ hd)
 .intro i h st b o B e ht;subst B;refine bE st.1.1 λo' F Y _=>?_;rw[F]at e;obtain rfl:=w4 e;rw[Y]at ht;simp at ht
 .intro i v H s J R hs st;obtain hi:i<cvs.size:=by rw[<- hl];exact(A9.mp J).1
  refine W.item i s _ _ hi st.1 λc h' tk p O k=>(af c rfl ?_);obtain Q:=an i s.heap h' st.1.1 k;refine bE (id O.1) λo F Y h3=>?_;refine ah (st.2.get J) λc' e1 e2=>?_
  have:c'=c:=by rw[B9]at e1;rw[e1]at p;obtain rfl:=w4 p;rfl
  subst this;exact iH (s:={ s with heap:=h',toks:=tk }) ht F Y (by decide) (cH (e2.keep Q) ⟨O,st.2.keep Q⟩ (eU h' tk rfl (λb o B e=>k b o (by simpa using B) e)))
 .intro H s R hs st;exact W.done s _ _ (by rw[<- hl];exact st.1) λh' tk k=>(cH rfl (eU h' tk rfl (λb o B e=>k b o (by simpa using B) e)) (mX R.ex λb o e hX=>k b o (λz=>hI (A4.mp z▸hX)) e))
theorem vA(ht:cC tgt=true)(J:A.handled=none)(F:¬L.X I)(n:Nat) : Iter L A I (λb=>b=I) tgt none (kr n) (λi h=>IsRangeIter h I (0+(i:Nat)*1) ((n:Int)-(i:Nat)) 1) :=
 w2 ht F (Walks.range J I 0 1 n) (by simp[kr]) (λi h st=>(kB _ _ st rfl (by decide) (by decide))) (λi h h' st k _ b G o e=>by
  obtain this:b=I:=by simpa using G
  exact k b o this e) λi v c h B p st=>by
  obtain⟨t,rfl⟩:=p;unfold kr at B;rw[C5]at B;refine ah (E3.mp B) λj O cI=>?_;subst cI
  have:j=i:=by refine bL (A9.mp O) λQ e=>?_;simpa using e.symm
  subst this;obtain e:(0:Int)+(j:Int)*1=j:=by exact Pt
  rw[e];exact s9 _ _
theorem Az(ht:cC tgt=true)(Z:A.handled=none)(Q:¬L.X I)(G:x∈aG)(t:Tok) : Iter L A I (λb=>b=I) tgt none [.str x] (λi h=>h.IsStrIter I "str_ascii_iterator" (Str.ofString x) t i):=by
 have key:∀x∈aG,(Str.ofString x).cps.size=1/\∀c,(Str.ofString x).cps[0]?=some c->(⟨#[c]⟩:Str)=Str.ofString x:=by
  intro x G;obtain O:∀x∈aG,(Str.ofString x).cps.size=1/\(Str.ofString x).cps.toList.map (λc=>(⟨#[c]⟩:Str))=[Str.ofString x]:=by decide +kernel
  refine cf (O x G) λa b=>?_;refine⟨a,λc hc=>?_⟩;rw[<- B9]at hc;rcases e:(Str.ofString x).cps.toList with _|⟨d,r⟩
  .rw[e]at hc;simp at hc
  .rw[e]at hc b;simp at hc b;rw[<- hc];exact b.1
 refine cf (key x G) λk1 k2=>?_;refine w2 ht Q (Walks.strAscii Z I (Str.ofString x) t) (by simp[k1]) (λi h ⟨o,ho,hc,_⟩=>(kB o _ ho hc (by decide) (by decide))) (λi h h' st k _ b Y o e=>by
  obtain B:b=I:=by simpa using Y
  exact k b o B e) λi v c h F p st=>?_
 refine cG p λJ u hc cW=>?_;subst cW;rcases i with _|i
 .simp at F;subst F;rw[k2 J hc];exact t6 _ _
 .simp at F
end
section
variable{H:AH}{A:Around}{d:Nat}{Q:b8}{own own':Addr->Prop}
theorem ax.fresh(S:ax L own' H H' s s')(h:∀b,own' b->own b\/s.heap.get? b=none):ax L own H H' s s' :=⟨S.gens,S.os,(λb o e B F=>S.keep b o e B λz=>(h b z).elim F λq=>by rw[e]at q;exact sn q),S.dom,S.mono,S.live,S.tup,S.rel⟩
theorem Mv.step{W:Addr->Prop}(R:aF L H s.heap)(M:Mv W s s')(G:∀b,W b->H b=none)(J:∀b,W b->L.base.get? b=none)(wt:∀b o,W b->s.heap.get? b=some o->o.cls=.type "tuple"->L.X b)(ex:∀b,L.X b->s'.heap.get? b≠none) (lw:∀b,W b->s.heap.get? b≠none->s'.heap.get? b≠none):ax L W H H s s':=by
 refine cG M λh' tk aW k=>?_;subst aW;obtain F:TupKeep L.sa s.heap h':=λb o nx e hc _=>k b o (λB=>nx (wt b o B e hc)) e;exact⟨rfl,rfl,λb o e _ Y=>k b o Y e,λb o e=>.inl (Gr e),λ_ h=>h,λb h=>(Classical.em (W b)).elim (λB=>lw b B h) λB=>Oh h λo e=>k b o B e,F,
  ⟨λb o e=>k b o (λB=>nn (J b B) e) (R.base b o e),R.fresh,λa o e=>by refine ah (R.obj a o e) λob O Q=>?_;exact(af ob (k a ob (λB=>nn (G a B) e) O) (Q.keep F)),ex⟩⟩
structure WOK(L:Cx)(env:Env)(H:AH)(W:Addr->Prop):Prop where
 h:∀b,W b->H b=none
 b:∀b,W b->L.base.get? b=none
 l:¬W env.locals
 c:∀n c,env.cells.lookup n=some c->¬W c
def mI{cl:Bool}{t:Tgt}{x:Expr}(h:fC cl nm t x=true):cC x=true:=qf h (λ_ _=>rfl) λ_ _ _=>rfl
theorem wW{cl:Bool}(hA:A.handled=none){W:Addr->Prop}{St:Nat->Heap->Prop}(Q:Iter L A I W tgt src vs St)(F:ae L env loc H s.heap)(R:aF L H s.heap)(J:WOK L env H W) (hs:dC src H) {i:Nat} (st:St i s.heap) {v:V} (hv:vs[i]?=some v) {t:Tgt} (hc:fC cl env.scope.names t tgt=true) {loc':Loc} (B:bm t v loc=some loc') {P:Shared->Prop} (hP:∀s',ae L env loc' H s'.heap->ax L (λb=>oN cl env b\/W b) H H s s'->St (i+1) s'.heap->P s') : a8 L A (pyNext (.ref I)) (λr ac=>∃c,r=some c/\a8 L A (letOwnedTupleGo tgt (.ref I) c) (λ_ bt=>a8 L A (assign tgt env c) (λ_ G=>P G) aI bt) aI ac) aI s:=by
 refine B6 (Q.item i v H s hv R hs st) (λr ac h₁=>?_) λ_ _ e=>e;obtain⟨c,rfl,h₁⟩:=h₁;refine(af c rfl (B6 h₁ (λ_ bt Y=>?_) λ_ _ e=>e));refine ia Y λrv O M=>?_;have Z:ax L W H H s bt:=M.step R J.h J.b (λb o B e hct=>Q.wt i _ st b o B e hct) (λb hX=>(Classical.em (W b)).elim (λB=>Q.lw _ _ O b B) λB=>by refine cG M λh' tk e' k=>?_;exact e'▸Oh (R.ex b hX) λo e=>k b o B e) λb B _=>Q.lw _ _ O b B;obtain F1:ae L env loc H bt.heap:=F.step Z (λm hm=>by refine nC hm λo es ep e r=>?_;exact(zz o es ep (Z.keep _ _ e F.lH J.l) r)) J.c
 refine uu hA t tgt hc F1 Z.rel B rv λG F3 S3=>hP G F3 ((Z.weaken λ_ h=>.inr h).trans (S3.weaken λ_ h=>.inl h)) ?_;refine Q.frame _ _ _ O (λb o B e=>S3.keep b o e (J.h b B) λz=>?_) S3.tup;rcases mZ z with rfl|⟨n,hn⟩
 .exact J.l B
 .exact J.c n b hn B
theorem wV{W:Addr->Prop}{St:Nat->Heap->Prop}(It:Iter L A I W tgt src vs St)(F:ae L env loc H s.heap)(R:aF L H s.heap)(Q:WOK L env H W) (Y:∀b,W b->s₀.heap.get? b=none) (S0:ax L own H' H s₀ s) (hs:dC src H) (st:St vs.length s.heap) {P:Shared->Prop} (hP:∀s',ae L env loc H s'.heap->ax L own H' H s₀ s'->(∀b o,¬W b->s.heap.get? b=some o->s'.heap.get? b=some o)->P s') : a8 L A (pyNext (.ref I)) (λr s'=>r=none/\P s') aI s:=by
 refine B6 (It.done H s R hs st) (λr s' h=>⟨h.1,?_⟩) λ_ _ e=>e;obtain⟨⟨h',tk,rfl,k⟩,ex⟩:=h.2;have O:TupKeep L.sa s.heap h':=λb o nx e hc _=>k b o (λJ=>nx (It.wt _ _ st b o J e hc)) e;obtain rel:aF L H h':=⟨λb o e=>k b o (λJ=>nn (Q.b b J) e) (R.base b o e),R.fresh,λa o e=>by refine ah (R.obj a o e) λob B G=>?_;exact(af ob (k a ob (λJ=>nn (Q.h a J) e) B) (G.keep O)),ex⟩;obtain k0:∀b o,s₀.heap.get? b=some o->∀o',s.heap.get? b=some o'->h'.get? b=some o':=λb o e o' e'=>k b o' (λhw=>nn (Y b hw) e) e';refine hP _ ⟨F.kind,F.glob,F.blt,?_,F.lH,F.lB,F.above,λn c e=>?_,λx v e q=>?_,F.hasCell,F.apart⟩ ⟨S0.gens,S0.os,λb o e J hn=>k0 b o e _ (S0.keep b o e J hn),S0.dom,S0.mono,λb h=>Oh (S0.live b h) λo e=>k b o (λhw=>h (Y b hw)) e,λb o nx e hc hd=>k0 b o e _ (S0.tup b o nx e hc hd),rel⟩ k
 .exact by refine ah F.ns λm cW hm=>?_;obtain⟨o,es,ep,e,r⟩:=cW;exact(af m (zz o es ep (k _ _ Q.l e) r) (λx v e q=>by refine ah (hm x v e q) λcv B G=>?_;exact(af cv B (G.keep O))))
 .exact by refine ia (F.cell n c e) λB G eJ=>?_;refine cG eJ λcv o Z h4=>?_;exact(cH B G (eU cv o (k _ _ (Q.c _ _ e) Z) h4))
 .exact by refine bM (F.cellv x v e q) λc cv B zq6 h4=>?_;obtain⟨o,G,Z⟩:=zq6;exact(bR c cv B (af o (k _ _ (Q.c _ _ B) G) Z) (h4.keep O))
theorem ae.mono{B:Loc}(F:ae L env loc H s.heap)(h:∀x v,B x=some v->loc x=some v):ae L env B H s.heap :=⟨F.kind,F.glob,F.blt,(by refine ah F.ns λm G hm=>?_;exact(af m G (λx v e k=>hm x v (h x v e) k))),F.lH,F.lB,F.above,F.cell,λx v e k=>F.cellv x v (h x v e) k,F.hasCell,F.apart⟩
mutual
theorem lV:∀{t:Tgt}{v:V}{l l':Loc},bm t v l=some l'->∀x,x∉dU t->l' x=l x
 | .nm y,v,l,l',h,x,B=>by obtain rfl:=w4 h;exact u2 _ _ λe=>B (e▸y7)
 | .tp ts,v,l,l',h,x,B=>by
  cases v with
  |tup vs=>exact kG (ts:=ts) h x B
  |_=>exact kb h
theorem kG:∀{ts:Tgts}{vs:List V}{l l':Loc},eX ts vs l=some l'->∀x,x∉sv ts->l' x=l x
 | .nil,vs,l,l',h,x,B=>by
  rcases vs with _|⟨_,_⟩
  .obtain rfl:=w4 h;rfl
  .exact kb h
 | .cons t ts,vs,l,l',h,x,B=>by
  rcases vs with _|⟨v,vs⟩
  .exact kb h
  .refine ah (Option.bind_eq_some_iff.mp h) λl1 F G=>?_;exact(kG G x λz=>B (G1 _ z)).trans (lV F x λz=>B (G3 _ z))
end
theorem qm{t:Tgt}{v:V}{l':Loc}{xs:List String}(h:bm t v (l.drop xs)=some l')(B:∀x∈dU t,x∈xs):∀x u,(l.drop xs) x=some u->l' x=some u:=by
 exactλx u e=>(lV h x λz=>nn (if_pos (y9 _ (B x z))) e).trans e
end
theorem nS{c:Prop}{d:Decidable c}{f:c->Option α}{a:α}(h:@dite (Option α) c d f (λ_=>none)=some a):∃x:c,f x=some a:=by
 cases d with
 |isTrue x=>exact⟨x,h⟩
 |isFalse _=>exact kb h
theorem jX{f:String}{x y:Expr}(h:jW nm f x=some y):∃id ip pos,x=.Call (.Name id ip) [y] [] pos/\dN nm f id=true:=by
 refine bL (nS h) λi h=>?_;revert h;refine Expr.Call.elim (motive_1:=λe=>∀i:e.ctorIdx=16,Expr.Call.elim (motive_1:=λ_=>Option Expr) e i (λg as ks _=>match as,dS g (λid=>ks.isEmpty&&dN nm f id)with | [x],true=>some x|_,_=>none)=some y->∃id ip pos,e=.Call (.Name id ip) [y] [] pos/\dN nm f id=true) x i (λg as ks p _ h=>?_) i;obtain h:(match(generalizing:=false) as,dS g (λid=>ks.isEmpty&&dN nm f id)with | [x],true=>some x|_,_=>none)=some y:=h;rcases as with _|⟨a,as⟩
 .exact kb h
 .cases as with
  |cons _ _=>exact kb h
  |nil =>
   rcases q:dS g (λid=>ks.isEmpty&&dN nm f id)with _|_
   .rw[q]at h;exact kb h
   .rw[q]at h;obtain rfl:=w4 h;refine bf q λid ip q=>?_;obtain q:=aa q;rw[J2.mp q.1];exact(zz id ip p rfl q.2)
theorem oi{m:String}{x y:Expr}(h:vy m x=some y):∃ap pos,x=.Call (.Attribute y (Str.ofString m) ap) [] [] pos/\cQ y=true/\(ap.endLine==pos.line)=true:=by
 refine bL (nS h) λi h=>?_;revert h;refine Expr.Call.elim (motive_1:=λe=>∀i:e.ctorIdx=16,Expr.Call.elim (motive_1:=λ_=>Option Expr) e i (λg as ks p=>match as,ks with
  | [],[]=>if h:g.ctorIdx=20 then Expr.Attribute.elim (motive_1:=λ_=>Option Expr) g h λo n ap=>if(n==Str.ofString m&&(cQ o&&(ap.endLine==p.line)))=true then some o else none else none
  |_,_=>none)=some y->∃ap pos,e=.Call (.Attribute y (Str.ofString m) ap) [] [] pos/\cQ y=true/\(ap.endLine==pos.line)=true) x i (λg as ks p _ h=>?_) i
 cases as with
 |cons _ _=>exact kb h
 |nil=>cases ks with
  |cons _ _=>exact kb h
  |nil =>
   refine bL (nS h) λj h=>?_;revert h;refine Expr.Attribute.elim (motive_1:=λg=>∀j:g.ctorIdx=20,Expr.Attribute.elim (motive_1:=λ_=>Option Expr) g j (λo n ap=>if(n==Str.ofString m&&(cQ o&&(ap.endLine==p.line)))=true then some o else none)=some y->∃ap pos,Expr.Call g [] [] p=.Call (.Attribute y (Str.ofString m) ap) [] [] pos/\cQ y=true/\(ap.endLine==pos.line)=true) g j (λo n ap _ h=>?_) j;replace h:(if(n==Str.ofString m&&(cQ o&&(ap.endLine==p.line)))=true then some o else none)=some y:=h;by_cases c:(n==Str.ofString m&&(cQ o&&(ap.endLine==p.line)))=true
   .rw[if_pos c]at h;obtain rfl:=w4 h;obtain c:=aa c;rw[J3 c.1];exact(eU ap p rfl (aa c.2))
   .rw[if_neg c]at h;exact kb h
def rU(v:V):Prop:=match v with | .none=>True | .int _=>True | .bool _=>True | .str _=>True|_=>False
noncomputable def eW(H:AH)(t:Tgt)(v:V)(l:Loc):Option Loc:=match t,v with
 | .nm x,v=>some (l.put x v)
 |t,.ref a=>match H a with|some (.list vs)=>bm t (.tup vs) l|_=>none
 |t,v=>bm t v l
mutual
noncomputable def Qm(L:Sx)(d:Nat):MS->Loc->AH->(Fl->Loc->AH->Prop)->Prop
 | .expr e,l,H,K=>ba L d e l H λv H1=>rU v/\K .next l H1
 | .asg (.tg t) e,l,H,K=>ba L d e l H λv H1=>∃l',eW H1 t v l=some l'/\K .next l' H1
 | .asg (.at o f) e,l,H,K=>ba L d e l H λv H1=>ba L d o l H1 λov H2=>∃a c dx kvs,ov=.ref a/\H2 a=some (.inst c dx)/\f∈L.flds c/\H2 dx=some (.dict kvs)/\br kvs/\kvs.length<=500/\K .next l (H2.set dx (.dict (dput kvs (.str f) v)))
 | .asg (.ix o i) e,l,H,K=>ba L d e l H λv H1=>ba L d o l H1 λov H2=>ba L d i l H2 λiv H3=>∃a,ov=.ref a /\
   ((∃vs n,H3 a=some (.list vs)/\iv=.int n/\0<=n/\n<vs.length/\vs.length<2^60/\K .next l (H3.set a (.list (vs.set n.toNat v))))\/(∃kvs,H3 a=some (.dict kvs)/\keyFits kvs iv/\kvs.length<2^20/\K .next l (H3.set a (.dict (dput kvs iv v)))))
 | .ret e,l,H,K=>ba L d e l H λv H1=>K (.ret v) l H1
 | .if1 c a b,l,H,K=>sD L d c l H λt H1=>if t=true then au L d a l H1 K else au L d b l H1 K
 | .whl c b,l,H,K=>∃I:Nat->Loc->AH->Prop,(∃n,I n l H)/\∀n l H,I n l H->sD L d c l H λt H1=>if t=true then au L d b l H1 (λfl l' H'=>match fl with | .next=>∃m,m<n/\I m l' H' | .ret v=>K (.ret v) l' H')else K .next l H1
 | .for1 t it b,l,H,K=>lR L d it l H λsrc vs H1=>og src (λx l H' k=>∃l',bm t x l=some l'/\au L d b l' H' k) vs l H1 K
 | .rais,_,_,_=>False
noncomputable def au(L:Sx)(d:Nat):List MS->Loc->AH->(Fl->Loc->AH->Prop)->Prop
 | [],l,H,K=>K .next l H
 |x::xs,l,H,K=>Qm L d x l H λfl l' H'=>match fl with | .next=>au L d xs l' H' K | .ret v=>K (.ret v) l' H'
end
section
variable{x:Expr}
section
variable{H:AH}{bt:Shared}{A:Around}{d:Nat}{Q:b8}
theorem aj.adopt(S:aj L env H H' s bt)(hs:∀m,s.heap.Ns env.locals m->s.heap.get? env.locals≠none){G:Str->Option Value}(hm:s.heap.Ns env.locals G){D:Addr}(Y:s.heap.get? D=none){F:Obj}(O:bt.heap.get? D=some F)(Z:F.cls≠.type "tuple")(hH:H' D=none) (hB:L.base.get? D=none) {h':Heap} {t:Nat} {ob:Obj} {x:AO} (J:h'.get? D=some ob) (sb:Heap.SameBut D bt.heap h') (r:ORel L bt.heap ob x):aj L env H (H'.set D x) s { bt with heap:=h',toks:=t }:=by
 have tk:TupKeep L.sa bt.heap h':=λb o _ e hc _=>(sb.2 b λz=>by subst z;rw[O]at e;obtain rfl:=w4 e;exact Z hc).trans e;obtain live:∀b,bt.heap.get? b≠none->h'.get? b≠none:=λb h=>by
  by_cases B:b=D
  .subst B;rw[J];simp
  .rw[sb.2 b B];exact h
 have hL:env.locals≠D:=λz=>hs G hm (z▸Y);refine⟨⟨S.st.gens,S.st.os,λb o e B hn=>(sb.2 b λz=>by rw[z,Y]at e;cases e).trans (S.st.keep b o e B hn),λb o e=>?_,λb h=>?_,λb h=>live b (S.st.live b h),S.st.tup.trans tk,⟨λb o e=>?_,λb o e=>?_,λb o e=>?_,λb h=>live b (S.st.rel.ex b h)⟩⟩,λm hm=>?_⟩
 .by_cases B:b=D
  .subst B;exact .inr Y
  .rw[r7 _ _ B]at e;exact S.st.dom b o e
 .by_cases B:b=D
  .subst B;simp
  .rw[r7 _ _ B];exact S.st.mono b h
 .exact(sb.2 b λz=>by rw[z,hB]at e;cases e).trans (S.st.rel.base b o e)
 .by_cases B:b=D
  .subst B;exact hB
  .rw[r7 _ _ B]at e;exact S.st.rel.fresh b o e
 .by_cases B:b=D
  .subst B;rw[AH.set_self]at e;obtain rfl:=w4 e;exact(af ob J (r.keep tk))
  .rw[r7 _ _ B]at e;refine ah (S.st.rel.obj b o e) λQ h1 h2=>?_;exact(af Q ((sb.2 b B).trans h1) (h2.keep tk))
 .refine nC (S.ns m hm) λo es ep e r=>?_;exact(zz o es ep ((sb.2 _ hL).trans e) r)
theorem aF.free(R:aF L H s.heap){D:Addr}(B:s.heap.get? D=none):H D=none/\L.base.get? D=none:=by
 constructor
 .rcases e:H D with _|x
  .rfl
  .refine ah (R.obj D x e) λob F _=>?_;rw[B]at F;exact ns F
 .rcases e:L.base.get? D with _|o
  .rfl
  .rw[R.base D o e]at B;exact sn B
theorem zl(B:Expr)(o i:Value):subscripted B false o i=operate [i,o] (getItem o i)\/subscripted B false o i=operate [o,i] (getItem o i):=by
 cases B with
 |Slice _ _ st _=>cases st with
  |none=>exact .inl rfl
  |some _=>exact .inr rfl
 |_=>exact .inr rfl
theorem dT{F B:Expr}{o i:Value}{T id:String}{P:a9}(hT:s.TypeIs o T)(hl:typeLookup (.type T) "__getitem__"=pure (some (.builtin id)))(h:a8 L A (getItem o i) P E s) : a8 L A (subscriptTail F B o i) P E s:=by refine r5 ?_;rw[getitemInPython_of_ne hT.not_modules];refine r5 (RH hT hl ?_);refine v9 (r5 ?_);rcases zl B o i with e|e <;>(rw[e];exact wpAny_operating (B6 h (λr J G=>r5 (wpAny_letTemporaryGo (v9 G))) λ_ _ x=>x))
theorem we(C:aO L.toSx)(F:ae L env loc H s.heap)(R:aF L H s.heap)(hr:Room A d){G B:Expr}{v i:V}{Y:Value}(h:vx H Q v i)(J:VR L.sa s.heap v cv)(Z:VR L.sa s.heap i Y) : a8 L A (subscriptTail G B cv Y) (EPost L env H s Q) aI s:=by
 have g:=NE C F R hr h J Z;cases v with
 |tup vs =>refine bM J.tup_inv λa cvs aW ht _=>?_;subst aW;exact dT ht.typeIs PySem.F.slot_tuple_getitem.lookup g
 |str x =>obtain⟨t,rfl⟩:=J.str_inv;exact dT (typeIs_str _ _ _) PySem.F.slot_str_getitem.lookup g
 |ref a =>
  obtain rfl:=J.ref_inv;rcases h with⟨vs,_,_,O,_⟩|⟨kvs,_,O,_⟩
  .refine cG (ao R O) λcvs n ho _=>?_;exact dT (T:="list") (af _ ho rfl) PySem.F.slot_list_getitem.lookup g
  .refine cG (cz R O) λes n ho _=>?_;exact dT (T:="dict") (af _ ho rfl) PySem.F.slot_dict_getitem.lookup g
 |_=>exact(h:False).elim
theorem wf(C:aO L.toSx)(F:ae L env loc H s.heap)(R:aF L H s.heap){G B:Expr}{v:V}{O hc:Value}{lo hi:Option Nat}{Y:Addr}(h:Hm H Q L.toSx v lo hi)(J:VR L.sa s.heap v cv)(hs:s.heap.IsSliceOf Y O hc .none)(bl:BR lo O)(Z:BR hi hc) : a8 L A (subscriptTail G B cv (.ref Y)) (EPost L env H s Q) aI s:=by
 have g:=NK C F R h J hs bl Z (A:=A);cases v with
 |tup vs =>refine bM J.tup_inv λa cvs cI ht _=>?_;subst cI;exact dT ht.typeIs PySem.F.slot_tuple_getitem.lookup g
 |str x =>obtain⟨t,rfl⟩:=J.str_inv;exact dT (typeIs_str _ _ _) PySem.F.slot_str_getitem.lookup g
 |scr =>obtain rfl:=J.scr_inv;refine ah C.scr λcvs eJ _=>?_;obtain⟨o,h1,h2,_⟩:=eJ;exact dT (T:="list") (af o (R.base _ _ h1) h2) PySem.F.slot_list_getitem.lookup g
 |_=>exact(h:False).elim
theorem GW(F:ae L env loc H s.heap)(R:aF L H s.heap)(r:VRs L.sa s.heap vs cvs)(q:Q (.tup vs) H):EPost L env H s Q (.ref s.heap.objs.size) { s with heap:=s.heap.push { cls:=.type "tuple",data:=.seq cvs.toArray } } :=EPost.tuple F R (k:=s.toks) q r
theorem GT(F:ae L env loc H s.heap)(R:aF L H s.heap)(r:VRs L.sa s.heap vs cvs)(q:fresh H Q (.list vs)):EPost L env H s Q (.ref s.heap.objs.size) { s with heap:=s.heap.push { cls:=.type "list",data:=.seq cvs.toArray } } :=EPost.push F R (k:=s.toks) q (eU _ 0 rfl r)
noncomputable def AE:ME->Nat
 | .cst _=>19 | .neg _=>3 | .var _=>23 | .tup _=>25 | .lst _=>24 | .dct _ _=>6 | .bin _ _ _=>2 | .cmp1 _ _ _=>15 | .cmp2 _ _ _ _ _=>15 | .and2 _ _=>0 | .or2 _ _=>0 | .not1 _=>3 | .ite _ _ _=>5
 | .idx _ _=>21 | .slc _ _ _=>21 | .attr _ _=>20 | .comp _ _=>8 | .call _ _=>16 | .new _ _=>16 | .meth _ _ _=>16 | .prim _ _=>16
def Iu{c:Prop}{d:Decidable c}{f:c->Bool}(h:@dite Bool c d f (λ_=>false)=true):c:=(be h).1
theorem jd{e:ME}(h:aX nm e x=true):x.ctorIdx=AE e:=by cases e <;> exact Iu h
theorem xa(e:ME):(AE e != 7&&AE e != 22)=true:=by cases e <;> rfl
theorem gG{e:ME}(h:aX nm e x=true):my x=true:=by show(x.ctorIdx != 7)=true;rw[jd h];exact(aa (xa e)).1
theorem fM{op:CmpOp}(h:my x=true):behindInMarks op x=false:=by cases x <;> first|rfl|exact ai h
theorem gR(h:my x=true)(env:Env)(v:Value):foldedSetIterable x env v=pure v:=by cases x <;> first|rfl|exact ai h
theorem cK{e:ME}(h:aX nm e x=true)(rest:List Expr)(env:Env):starEach (x::rest) env=(false,eval x env)::starEach rest env:=by
 have h:(x.ctorIdx != 22)=true:=by rw[jd h];exact(aa (xa e)).2
 cases x <;> first|rfl|exact ai h
theorem gS{o:Expr}(h:cQ o=true)(f:Str)(env:Env)(t:Sem Value):attributeBase o f env t=t:=by
 cases o with
 |Call g as ks p=>cases g with
  |Name id q=>cases as with
   |nil=>cases ks with
    |nil=>exact ai h
    |cons _ _=>rfl
   |cons _ _=>rfl
  |_=>rfl
 |_=>rfl
end
end
section
variable{H:AH}{bt:Shared}{A:Around}{d:Nat}{Q:b8}
theorem dw:∀{es:MEs}{xs:List Expr},du nm es xs=true->∀(pos:Pos)(env:Env),(backTo pos (starEach xs env)).any (·.1)=false/\(backTo pos (starEach xs env)).all (!·.1)=true/\(starEach xs env).all (!·.1)=true
 | .nil,[],_,pos,env=>⟨rfl,rfl,rfl⟩
 | .nil,_::_,h,_,_=>by exact ai h
 | .cons _ _,[],h,_,_=>by exact ai h
 | .cons e r,x::xs,h,pos,env=>by simp only[du,Bool.and_eq_true]at h;refine ia (dw h.2 pos env) λa b c=>?_;rw[cK h.1];unfold backTo at *;rw[E2];exact⟨a,b,c⟩
theorem ey{e:ME}{x:Expr}(h:aX nm e x=true)(xs:List Expr)(pos:Pos)(env:Env):backTo pos (starEach (x::xs) env)=(false,eval x env)::backTo pos (starEach xs env):=by rw[cK h];rfl
theorem wc{es:MEs}{xs:List Expr}(hc:du nm es xs=true){f:Value}{P:Args->Shared->Prop}(h0:es=.nil->P ⟨[],[]⟩ s) (h:a8 L A (spliced (backTo pos (starEach xs env))) (λvs ac=>P ⟨vs,[]⟩ ac) E s):a8 L A (evalArgs f true (backTo pos (starEach xs env)) []) P E s:=by
 rcases xs with _|⟨x,xs⟩
 .rcases es with _|⟨e,r⟩
  .exact evalArgs_nil3 (h0 rfl)
  .exact ai hc
 .rcases es with _|⟨e,r⟩
  .exact ai hc
  .simp only[du,Bool.and_eq_true]at hc;rw[ey hc.1]at h ⊢;exact Calls.evalArgs_plain h
theorem lL{es:MEs}{xs:List Expr}(hc:du nm es xs=true){f:Addr}{first:List Value}(hk:keepIn L.K (.ref f)=true){P:a9} (h:a8 L A (evalArgs (.ref f) true (backTo pos (starEach xs env)) []) (λa ac=>L.K.In ac.heap/\a8 L A (call (.ref f) (first++a.pos) a.kw) P E ac) E s) : a8 L A (callWith pos (.ref f) first (backTo pos (starEach xs env)) []) P E s:=by obtain hp:=(dw hc pos env).1;exact callWith_of (P:=λh=>L.K.In h) (by rw[hp];rfl) (keeps_K hk) h
theorem qR{f:Addr}(h:CallS L.toSx d f vs H Q)(F:ae L env loc H s.heap)(R:aF L H s.heap)(hr:Room A d)(G:VRs L.sa s.heap vs cvs):a8 L A (call (.ref f) cvs) (EPost L env H s Q) aI s:=by
 refine wpAny_call (RN (h L.X L.hX A s cvs hr R F.top G) λr s' B=>?_);unfold uW at B;split at B
 .refine bM B λv H' a b c=>?_;exact(bR v H' a b (c.toE F.lH))
 .exact B.elim
theorem NJ(C:aO L.toSx){c:String}{D f:Addr}(F:ae L env loc H s.heap)(R:aF L H s.heap)(hD:L.cls c=some D)(hf:L.meth c "__init__"=some f)(rv:VRs L.sa s.heap vs cvs)(hr:Room A (d+1)) (h:∀x dx,H x=none->H dx=none->x≠dx->CallS L.toSx d f (.ref x::vs) ((H.set dx (.dict [])).set x (.inst c dx)) λr H2=>r=.none/\Q (.ref x) H2) : a8 L A (call (.ref D) cvs) (EPost L env H s Q) aI s:=by
 have M:=C.mks c D f hD hf;obtain X:L.K.In s.heap:=aF.kin C R;refine wpAny_call ?_;obtain⟨B,g,G,t,os⟩:=s;refine make_core (makes_of X M.mks) (looks_findIn X M.nf) (λself=>bind_fn X self M.fn) (.inl rfl) ?_;obtain n1:B.get? B.objs.size=none:=C6 (A8 _);obtain⟨Z,H1⟩:=u1 (own:=eA) (s:=⟨B,g,G,t,os⟩) (s':=⟨B.push emptyDict,g,G,t,os⟩) (ob:=emptyDict) (x:=.dict []) R rfl rfl n1 (λb o e=>z5 _ e) (C2 _ rfl) (bR (#[]) 0 rfl rfl dictOK.nil);obtain n2:(B.push emptyDict).get? (B.push emptyDict).objs.size=none:=C6 (A8 _);obtain⟨S2,H2⟩:=u1 (own:=eA) (s:=⟨B.push emptyDict,g,G,t,os⟩) (s':=⟨(B.push emptyDict).push (instObj D B.objs.size),g,G,t,os⟩) (ob:=instObj D B.objs.size) (x:=.inst c B.objs.size) Z.rel rfl rfl n2
  (λb o e=>z5 _ e) (C2 _ rfl) (af D hD rfl)
 rw[Heap.size_push]at S2 H2;obtain J:B.objs.size+1≠B.objs.size:=by exact Pu
 have S:=Z.trans S2;obtain O:H (B.objs.size+1)=none:=by rw[r7 _ _ J]at H2;exact H2
 have Y:Room (A.under (.builtin "type.__call__" ⟨.ref D::cvs,[]⟩)) d:=by
  refine(cH hr.1 ?_ ?_)
  .have:=hr.2.1
   have w:(Code.builtin "type.__call__" ⟨.ref D::cvs,[]⟩).weight=1:=rfl;exact Pw w this
  .have:=hr.2.2
   have w:(Code.builtin "type.__call__" ⟨.ref D::cvs,[]⟩).cUnits=1:=rfl;exact Px w this
 refine RN (h _ _ O H1 J L.X L.hX _ ⟨(B.push emptyDict).push (instObj D B.objs.size),g,G,t,os⟩ (.ref (B.objs.size+1)::cvs) Y S.rel (by obtain⟨b,h1,h2⟩:=F.top;exact(af b h1 (S.live b h2))) (VRs.cons (t7 _) (rv.keep S.tup))) λr s' hr=>?_;unfold uW at hr;split at hr
 .refine bM hr λv H' aW b cS=>?_;obtain⟨a1,a2⟩:=aW;subst a1;exact⟨b.none_inv,(bR _ _ a2 (t7 _) ((S.trans cS).toE F.lH))⟩
 .exact hr.elim
end
def aU(L:Cx)(p:Prim):Prop:=∀{env:Env}{loc:Loc}{H:AH}{s:Shared}{A:Around}{d:Nat}{Q:b8}{id:Str}{x y:Expr}{pos ip:Pos},ae L env loc H s.heap->aF L H s.heap->Room A d->dN env.scope.names (ul p) id=true ->
 rV env.scope.names p x=some y->(∀rest,starEach (y::rest) env=(false,eval y env)::starEach rest env) ->
 a8 L A (eval y env) (EPost L env H s λv H1=>iT H1 Q p v) aI s->a8 L A (eval (.Call (.Name id ip) [x] [] pos) env) (EPost L env H s Q) aI s
section
variable{H:AH}{A:Around}{d:Nat}
def bk{t:Sem Value}{R:b8}{P:a9}(h:a8 L A t (EPost L env H s R) aI s)(k:∀v H1 c B,R v H1->VR L.sa B.heap v c->aj L env H H1 s B->P c B):a8 L A t P aI s :=B6 h (λc B ⟨v,H1,a,b,S⟩=>k v H1 c B a b S) λ_ _ e=>e
abbrev HQ(L:Cx)(env:Env)(H:AH)(s:Shared)(Q:Bool->AH->Prop)(b:Bool)(s':Shared):Prop:=∃H',Q b H'/\aj L env H H' s s'
theorem si{Q:b8}{t:Sem Value}{Qb:Bool->AH->Prop}(h:a8 L A t (EPost L env H s Q) aI s)(q:∀v H',Q v H'->∃b,v=.bool b/\Qb b H'){P:b7}(B:∀b H' s',Qb b H'->aj L env H H' s s'->P b s') : a8 L A t (λc ac=>a8 L A (truthy c) P aI ac) aI s :=bk h λv H1 c G a r S=>by refine ah (q v H1 a) λb aW F=>?_;subst aW;rw[r.bool_inv];exact P8 (B b H1 G F S)
end
section
variable{K:pX->List V->AH->Prop}
set_option tactic.hygienic true
def ItPost(L:Cx)(env:Env)(A:Around)(tgt:Expr)(H:AH)(s:Shared)(K:pX->List V->AH->Prop)(c:Value)(s':Shared):Prop :=∃I W vs src St H',K src vs H'/\c=.ref I/\St 0 s'.heap/\Iter L A I W tgt src vs St/\WOK L env H' W/\(∀b,W b->s.heap.get? b=none)/\dC src H'/\aj L env H H' s s'
section
variable{H:AH}{A:Around}{d:Nat}
theorem ItPost.after{H₀:AH}{c:Value}(S:aj L env H₀ H s₀ s)(h:ItPost L env A tgt H s K c s'):ItPost L env A tgt H₀ s₀ K c s':=by
 obtain⟨I,W,vs,src,St,H',a,b,G,B,J,O,hs,F⟩:=h;exact⟨I,W,vs,src,St,H',a,b,G,B,J,λx Q=>by
  rcases e:s₀.heap.get? x with _|o
  .rfl
  .exact absurd (O x Q) (S.st.live x (by simp[e])),hs,S.trans F⟩
theorem ItPost.mono{B:pX->List V->AH->Prop}{c:Value}(h:ItPost L env A tgt H s K c s')(q:∀src vs H',K src vs H'->B src vs H'):ItPost L env A tgt H s B c s':=by obtain⟨I,W,vs,src,St,H',a,r⟩:=h;exact⟨I,W,vs,src,St,H',q _ _ _ a,r⟩
theorem ItPost.pushed(F:ae L env loc H s.heap)(R:aF L H s.heap){ob:Obj}{St:Nat->Heap->Prop}{t:Nat}(q:K src vs H)(hs:dC src H)(st:St 0 (s.heap.push ob)) (J:¬L.X s.heap.objs.size->Iter L A s.heap.objs.size (λb=>b=s.heap.objs.size) tgt src vs St):ItPost L env A tgt H s K (.ref s.heap.objs.size) { s with heap:=s.heap.push ob,toks:=t }:=by
 have G:s.heap.get? s.heap.objs.size=none:=C6 (A8 _);obtain S:aj L env H H s { s with heap:=s.heap.push ob,toks:=t }:=(t9 (s':={ s with heap:=s.heap.push ob,toks:=t }) R rfl rfl λb o e=>z5 _ e).toE F.lH;refine cf (R.free G) λf1 f2=>?_;refine⟨_,_,vs,src,St,H,q,rfl,st,J (R.nx G),⟨λb B=>B▸f1,λb B=>B▸f2,λB=>?_,λn c e B=>?_⟩,λb B=>B▸G,hs,S⟩
 .refine ah F.ns λm aW _=>?_;obtain⟨o,_,_,e,_⟩:=aW;rw[B,G]at e;exact ns e
 .refine ia (F.cell n c e) λ_ _ bS=>?_;refine cG bS λ_ o e' _=>?_;rw[B,G]at e';exact ns e'
theorem GS(G:A.handled=none)(F:ae L env loc H s.heap)(R:aF L H s.heap)(ht:cC tgt=true){v:V}(h:iF v H K)(O:VR L.sa s.heap v cv) : a8 L A (pyIter cv) (ItPost L env A tgt H s K) aI s:=by
 unfold iF at h;split at h
 .rename_i vs;obtain⟨hz,q⟩:=h;refine uV O λa cvs n cI nx cW r=>?_;subst cI;obtain⟨o,ho,hc,hd⟩:=cW;obtain hT:s.heap.IsTuple a cvs:=⟨o,ho,hc,n,hd⟩;obtain J:a≠s.heap.objs.size:=G7 (I4 ho);refine wpAny_pyIter_tuple hT (ItPost.pushed (t:=s.toks) F R (St:=λi h=>(h.IsTupleIter s.heap.objs.size a i/\h.IsTuple a cvs)/\VRs L.sa h vs cvs.toList) q trivial ?_ λB=>vB ht G B J nx r);exact⟨⟨(aN _ (C2 _ rfl) rfl rfl),⟨o,z5 _ ho,hc,n,hd⟩⟩,r.keep (r8 λb o e=>z5 _ e)⟩
 .rename_i x;refine cf h λY q=>?_;apply O.str_el;intro t;obtain key:∀x∈aG,strIterType (Str.ofString x)="str_ascii_iterator":=by decide +kernel
  refine wpAny_pyIter_strU ?_;rw[key x Y];exact ItPost.pushed (t:=s.toks) F R (St:=λi h=>h.IsStrIter s.heap.objs.size "str_ascii_iterator" (Str.ofString x) t i) q trivial (aN _ (C2 _ rfl) rfl rfl) λB=>Az ht G B Y t
 .rename_i a;apply O.ref_el;refine bE h λvs Q hz q=>?_;refine cG (ao R Q) λcvs n ho Z=>?_;refine wpAny_pyIter_list (aN _ ho rfl (gE n rfl)) (ItPost.pushed (t:=s.toks) F R (St:=λi h=>h.IsListIter s.heap.objs.size a i) q Q (aN _ (C2 _ rfl) rfl rfl) λB=>yH ht G B vs)
 .exact h.elim
theorem sg(O:A.handled=none)(F:ae L env loc H s.heap)(R:aF L H s.heap)(ht:cC tgt=true){r:Addr}{n:Int}{t u w:Tok}(G:PySem.IsRange s.heap r 0 n 1 t u w)(h0:0<=n)(Q:n<=1000)(h:K none (kr n.toNat) H) : a8 L A (pyIter (.ref r)) (ItPost L env A tgt H s K) aI s:=by
 have B:Builtin.Range.rangeSize 0 n 1=((n.toNat:Nat):Int):=by rw[rangeSize_one];split <;>(first|exact Pq h0|exact Pr (by assumption))
 have J:Builtin.Range.small 0 n 1=true:=by unfold Builtin.Range.small;rw[B];unfold Builtin.Range.rangeFitsLong;simp;exact Ps h0 Q
 refine wpAny_pyIter_range G J (ItPost.pushed (t:=s.toks) F R (St:=λi h=>IsRangeIter h s.heap.objs.size (0+(i:Nat)*1) (((n.toNat:Nat):Int)-(i:Nat)) 1) h trivial ?_ λG=>vA ht O G n.toNat);rw[B];exact C2 _ rfl
end
end
section
set_option genCtorIdx false
inductive CK where
 |list (elt:Expr)
noncomputable def CK.ex(gens:List Comprehension)(sc:Scope)(pos:Pos):CK->Expr
 | .list elt=>.ListComp elt gens sc pos
theorem CK.cl(ck:CK)(gens:List Comprehension)(sc:Scope)(pos:Pos):clausesOf (ck.ex gens sc pos)=gens:=by cases ck <;> rfl
theorem CK.qt(ck:CK){depth:Nat}{it acc:Value}:(Code.compLoop (ck.ex gens sc pos) depth it acc env).quiet=true:=by cases ck <;> rfl
def sL(M:Model)(A:Around)(env:Env)(c:Addr)(E:a9):CK->(Shared->Prop)->Shared->Prop
 | .list elt,P,s=>wpAny M A (eval elt env) (λx ac=>wpAny M A (call (.builtin "list.append") [.ref c,x]) (λ_ bt=>P bt) E ac) E s
section
variable{A:Around}
theorem Ov{F:List Expr}(hi:F.length<=1){k:Bool->Sem Fin}{P:Fin->Shared->Prop}{J O:Shared->Prop}(h:match(generalizing:=false) F with | []=>J s|x::_=>wpAny M A (isTrue x env (eval x env)) (λok B=>if ok=true then J B else O B) E s) (Q:∀s,J s->wpAny M A (k true) P E s) (Y:∀s,O s->wpAny M A (k false) P E s):wpAny M A ((forIn F true λc r=>if r=true then do let ok <- isTrue c env (eval c env);pure (ForInStep.yield ok)else pure (ForInStep.yield r)) >>= k) P E s:=by
 rcases F with _|⟨x,r⟩
 .exact r5 (v9 (Q s h))
 .cases r with
  |cons _ _=>exact absurd hi (by simp)
  |nil =>
   rw[Rt];refine r5 (r5 (r5 (B6 h (λok B G=>v9 (v9 ?_)) λ_ _ e=>e)));rcases ok with _|_
   .exact Y B G
   .exact Q B G
theorem zo(ck:CK){depth:Nat}{it:Value}{c:Addr}{g:Comprehension}(hg:gens[depth]?=some g)(Y:gens[depth+1]?=none)(ha:g.is_async=0)(hi:g.ifs.length<=1){P:Fin->Shared->Prop} (h:wpAny M A (pyNext it) (λr ac=>match r with
   |none=>P (.done .next) ac
   |some v=>wpAny M A (letOwnedTupleGo g.target it v) (λ_ bt=>wpAny M A (assign g.target env v) (λ_ B=>match g.ifs with
     | []=>sL M A env c E ck (λs'=>P (.again (.compLoop (ck.ex gens sc pos) depth it (.ref c) env)) s') B
     |x::_=>wpAny M A (isTrue x env (eval x env)) (λok F=>if ok=true then sL M A env c E ck (λs'=>P (.again (.compLoop (ck.ex gens sc pos) depth it (.ref c) env)) s') F
       else P (.again (.compLoop (ck.ex gens sc pos) depth it (.ref c) env)) F) E B) E bt) E ac) E s) :
  wpAny M A (compTurn (ck.ex gens sc pos) depth it (.ref c) env) P E s:=by
 obtain⟨target,Z,ifs,as⟩:=g;cases(ha:as=0);rcases ck with⟨elt⟩
 all_goals
  unfold compTurn;dsimp only[CK.ex];rw[hg];refine r5 (QX (r5 (B6 h (λr ac h₁=>?_) λ_ _ e=>e)));rcases r with _|v
  .exact v9 h₁
  .refine r5 (B6 h₁ (λ_ bt G=>r5 (B6 G (λ_ B J=>?_) λ_ _ e=>e)) λ_ _ e=>e);rw[Y];exact Ov hi J (λs h=>r5 (r5 (B6 h (λx F O=>r5 (B6 O (λ_ ad Q=>v9 (v9 Q)) λ_ _ e=>e)) λ_ _ e=>e))) λs h=>v9 h
theorem zp(ck:CK){depth:Nat}{it:Value}{c:Addr}{g O:Comprehension}(hg:gens[depth]?=some g)(a2:gens[depth+1]?=some O)(ha:g.is_async=0)(a1:O.is_async=0)(hi:g.ifs=[])(hs:my O.iter=true) {P:Fin->Shared->Prop} (h:wpAny M A (pyNext it) (λr ac=>match r with
   |none=>P (.done .next) ac
   |some v=>wpAny M A (letOwnedTupleGo g.target it v) (λ_ bt=>wpAny M A (assign g.target env v) (λ_ B=>wpAny M A (eval O.iter env) (λx F=>wpAny M A (pyIter x) (λar G =>
     wpAny M A (runOwn (.compStart (ck.ex gens sc pos) (depth+1) ar (.ref c) env) env) (λ_ J=>P (.again (.compLoop (ck.ex gens sc pos) depth it (.ref c) env)) J) E G) E F) E B) E bt) E ac) E s) :
  wpAny M A (compTurn (ck.ex gens sc pos) depth it (.ref c) env) P E s:=by
 obtain⟨target,iter,ifs,as⟩:=g;obtain⟨av,a3,a4,a0⟩:=O;cases(ha:as=0);cases(a1:a0=0);cases(hi:ifs=[]);rcases ck with⟨elt⟩
 all_goals
  unfold compTurn;dsimp only[CK.ex];rw[hg];refine r5 (QX (r5 (B6 h (λr ac h₁=>?_) λ_ _ e=>e)));rcases r with _|v
  .exact v9 h₁
  .refine r5 (B6 h₁ (λ_ bt Q=>r5 (B6 Q (λ_ B Y=>?_) λ_ _ e=>e)) λ_ _ e=>e);rw[a2];refine r5 (v9 ?_);refine r5 (B6 Y (λx F Z=>r5 (QX ?_)) λ_ _ e=>e);exact r5 (wpAny_of_eq (gR hs env x) (r5 (G6 (B6 Z (λar G ad=>r5 (B6 ad (λ_ J an=>v9 an) λ_ _ e=>e)) λ_ _ e=>e))))
end
end
section
variable{H:AH}{A:Around}{d:Nat}{R:Result->Shared->Prop}
theorem mG(ck:CK){depth:Nat}{c:Addr}{g:Comprehension}(G:gens[depth]?=some g)(ha:g.is_async=0) (self:a8 L A (pyIter (.ref I)) (λc s'=>c=.ref I/\s'=s) aI s) (h0:codeAny (model L.prog L.w) A (.compLoop (ck.ex gens sc pos) depth (.ref I) (.ref c) env) R s) : codeAny (model L.prog L.w) A (.compStart (ck.ex gens sc pos) depth (.ref I) (.ref c) env) R s:=by
 have B:a8 L A (compStart (ck.ex gens sc pos) depth (.ref I) (.ref c) env) (λB s'=>match B with | .done f=>R (.ok f) s' | .again F=>F.quiet=true/\codeAny (model L.prog L.w) A F R s') aI s:=by unfold compStart;rw[ck.cl,G];simp only[Option.elim,ha];refine J8 (λh=>by simp at h) λ_=>?_;refine r5 (wpAny_askSetting ?_);refine J8 (λ_=>v9 ⟨ck.qt,h0⟩) λ_=>?_;refine r5 (Ri ?_);refine r5 (QX ?_);refine r5 (B6 self (λF s' h'=>?_) λ_ _ e=>e);obtain⟨rfl,rfl⟩:=h';exact v9 ⟨ck.qt,h0⟩
 refine codeAny_of_tree ?_;rcases ck with⟨elt⟩;show wpAny _ _ ((compStart (CK.ex gens sc pos (.list elt)) depth (.ref I) (.ref c) env).onRaise (λx=>do noteFrame x env;standAt theWindowsPlace)) _ _ s;exact wpAny_notedAt (B6 B (λ_ _ h=>h) λ_ _ e=>e.elim)
theorem WOK.step{own:Addr->Prop}{W:Addr->Prop}(B:WOK L env H W)(S:ax L own H H' s s')(lw:∀b,W b->s.heap.get? b≠none):WOK L env H' W :=
 ⟨λb F=>by
  rcases e:s.heap.get? b with _|o
  .exact absurd e (lw b F)
  .exact S.dom_none e (B.h b F),B.b,B.l,B.c⟩
theorem kg{b:Addr}(h:oN false env b):b=env.locals:=by
 rcases h with h|⟨h,_⟩
 .exact h
 .exact ai h
theorem Bv(ck:CK){depth:Nat}{c:Addr}{W:Addr->Prop}{St:Nat->Heap->Prop}(Q:(Shared->Prop)->Shared->Prop)(hA:A.handled=none) (hturn:∀{P:Fin->Shared->Prop}{s:Shared},a8 L A (pyNext (.ref I)) (λr ac=>match r with
    |none=>P (.done .next) ac
    |some v=>a8 L A (letOwnedTupleGo tgt (.ref I) v) (λ_ bt=>a8 L A (assign tgt env v) (λ_ G=>Q (λs'=>P (.again (.compLoop (ck.ex gens sc pos) depth (.ref I) (.ref c) env)) s') G) aI bt) aI ac) aI s ->
   a8 L A (compTurn (ck.ex gens sc pos) depth (.ref I) (.ref c) env) P aI s)
  (It:Iter L A I W tgt src vs St) {t:Tgt} (hct:fC false env.scope.names t tgt=true) {lb:Loc} {stepW:Loc->AH->(AH->Prop)->Prop}
  (hbody:∀{x:V}{l':Loc}{H1:AH}{s1:Shared}{k:AH->Prop}{Pst:Shared->Prop},bm t x lb=some l'->ae L env l' H1 s1.heap->aF L H1 s1.heap->stepW l' H1 k ->
   (∀s' H2,k H2->ae L env lb H2 s'.heap->ax L (λb=>b=env.locals) H1 H2 s1 s'->Pst s')->Q Pst s1)
  {H₀:AH} {s₀:Shared} {own₀:Addr->Prop} (hown:own₀ env.locals) {Lo:Addr} {Z:Obj} (Y:s.heap.get? Lo=some Z) (O:H Lo=none) (hLn:Lo≠env.locals) (hLW:¬W Lo)
  (F:ae L env lb H s.heap) (hW:WOK L env H W) (hW0:∀b,W b->s₀.heap.get? b=none) (S0:ax L own₀ H₀ H s₀ s) (st:St 0 s.heap) {K:AH->Prop}
  (h:fh src (λx H' k=>∃l',bm t x lb=some l'/\stepW l' H' k) vs H K)
  (hR:∀s' H',K H'->ae L env lb H' s'.heap->ax L own₀ H₀ H' s₀ s'->s'.heap.get? Lo=some Z->R (.ok .next) s') :
  codeAny (model L.prog L.w) A (.compLoop (ck.ex gens sc pos) depth (.ref I) (.ref c) env) R s:=by
 let Inv:Nat->Shared->Prop:=λn s=>∃i H,n=vs.length-i/\i<=vs.length/\fh src (λx H' k=>∃l',bm t x lb=some l'/\stepW l' H' k) (vs.drop i) H K/\ae L env lb H s.heap/\WOK L env H W/\ax L own₀ H₀ H s₀ s/\St i s.heap/\s.heap.get? Lo=some Z/\H Lo=none
 have tree:∀n s,Inv n s->a8 L A (compTurn (ck.ex gens sc pos) depth (.ref I) (.ref c) env) (λfin s'=>match fin with | .done f=>R (.ok f) s' | .again c'=>c'=(.compLoop (ck.ex gens sc pos) depth (.ref I) (.ref c) env)/\∃m,m<n/\Inv m s') aI s:=by
  rintro n s ⟨i,H,rfl,hi,hf,F,hW,S0,st,Y,O⟩;refine hturn ?_;rcases e:vs.drop i with _|⟨x,rest⟩
  .rw[e]at hf;obtain hil:i=vs.length:=by obtain an:=List.drop_eq_nil_iff.mp e;exact Nt hi an
   subst hil;refine B6 (wV It F S0.rel hW hW0 S0 hf.1 st (P:=λs'=>ae L env lb H s'.heap/\ax L own₀ H₀ H s₀ s'/\s'.heap.get? Lo=some Z) λs' F' S' k=>(cH F' S' (k Lo Z hLW Y))) (λr s' h'=>?_) λ_ _ e=>e;refine Ee h' λcI F' S' hL'=>?_;subst cI;exact hR s' H hf.2 F' S' hL'
  .rw[e]at hf;refine cf hf λhs cW=>?_;refine ah cW λl' J hst=>?_;have hx:vs[i]?=some x:=by
    obtain an:(vs.drop i)[0]?=some x:=by rw[e];rfl
    rwa [Q1,Nat.add_zero]at an
   obtain hlt:i<vs.length:=(A9.mp hx).1;obtain hrest:vs.drop (i+1)=rest:=by rw[<- List.tail_drop,e];rfl
   refine B6 (wW (cl:=false) hA It F S0.rel hW hs st hx hct J (P:=λG=>Q (λs'=>(.compLoop (ck.ex gens sc pos) depth (.ref I) (.ref c) env:Code)=(.compLoop (ck.ex gens sc pos) depth (.ref I) (.ref c) env)/\∃m,m<vs.length-i/\Inv m s') G) λG ch B ad=>?_) (λr ac h₁=>?_) λ_ _ e=>e
   .refine hbody J ch B.rel hst λs' H2 hk F' S'=>⟨rfl,vs.length-(i+1),by exact Nu hlt,i+1,H2,rfl,by exact Gy hlt,by rw[hrest];exact hk,F',?_,?_,?_,?_,?_⟩
    .exact(hW.step B λb J=>It.lw _ _ st b J).step S' λb J=>It.lw _ _ ad b J
    .obtain a1:ax L (λb=>own₀ b\/W b) H₀ H s₀ s:=S0.weaken λb J=>.inl J;obtain a2:ax L (λb=>own₀ b\/W b) H H s G:=B.weaken λb J=>J.imp (λz=>by rw[kg z];exact hown) id;obtain a3:ax L (λb=>own₀ b\/W b) H H2 G s':=S'.weaken λb J=>.inl (by subst J;exact hown);exact((a1.trans a2).trans a3).fresh λb J=>J.imp id (hW0 b)
    .exact It.frame _ _ _ ad (λb o J e=>S'.keep b o e ((hW.step B λb J=>It.lw _ _ st b J).h b J) λz=>hW.l (z▸J)) S'.tup
    .exact S'.keep _ _ (B.keep _ _ Y O λz=>z.elim (λz=>hLn (kg z)) hLW) O hLn
    .exact S'.dom_none (B.keep _ _ Y O λz=>z.elim (λz=>hLn (kg z)) hLW) O
   .obtain⟨c',rfl,h₁⟩:=h₁;exact h₁
 refine codeAny_loop ck.qt Inv (λn s hI=>?_) vs.length ⟨0,H,by rfl,E1 _,by simpa using h,F,hW,S0,st,Y,O⟩;rcases ck with⟨elt⟩;show wpAny _ A ((compTurn (CK.ex gens sc pos (.list elt)) depth (.ref I) (.ref c) env).onRaise (λx=>do noteFrame x env;theTreesLotGoes x)) _ _ s;exact wpAny_noted (B6 (tree n s hI) (λ_ _ h=>h) λ_ _ e=>e.elim)
end
section
variable{H:AH}{A:Around}{d:Nat}
noncomputable def lm(env:Env)(names:bj):List (Str×Addr):=names.filterMap λp=>if p.2==.free then some (p.1,(env.cells.lookup p.1).getD 0)else none
theorem pI(h:∀p∈sc.names,p.2=.free->∃c,env.cells.lookup p.1=some c):closureFor sc env=pure (lm env sc.names).reverse:=by
 unfold closureFor;obtain gen:∀(names:bj)(cs:List (Str×Addr)),(∀p∈names,p.2=.free->∃c,env.cells.lookup p.1=some c) ->
   forIn names cs (λ(x:Str×NameKind)(r:List (Str×Addr))=>(if(x.2==.free)=true then do let a <- cellOf env x.1;pure (ForInStep.yield ((x.1,a)::r))else pure (ForInStep.yield r):Sem _))=pure ((lm env names).reverse++cs):=by
  intro names;induction names with
  |nil=>intro cs _;rfl
  |cons p r J =>
   intro cs hp;obtain⟨n,k⟩:=p;rw[Rt];by_cases hk:k=.free
   .subst hk;refine bL (hp _ y7 rfl) λc hc=>?_;obtain B:cellOf env n=pure c:=by unfold cellOf;rw[hc]
    simp only[beq_self_eq_true,if_true,B,pure_bind];rw[J _ λp F=>hp p (y9 _ F)];simp[lm,hc]
   .have G:(k==NameKind.free)=false:=Rx.mpr hk;simp only[G,Bool.false_eq_true,if_false,pure_bind];rw[J _ λp F=>hp p (y9 _ F)];obtain B:lm env ((n,k)::r)=lm env r:=by unfold lm;rw[Rw];simp[hk]
    rw[B]
 obtain B:=gen sc.names [] h;rw[H8]at B;dsimp only[bind_pure_comp,map_pure]
 first|(rw[B];rfl)|(erw [B];rfl)|(simp only[B];rfl)
theorem gP:∀{l:List (Str×β)}{n:Str}{v:β},l.lookup n=some v->(n,v)∈l
 | [],_,_,h=>by simp at h
 |(k,a)::r,n,v,h=>by
  rw[L7]at h;by_cases e:(n==k)=true
  .rw[e]at h;obtain rfl:=w4 h;rw[N4.mp e];exact y7
  .rw[K0.mpr e]at h;exact y9 _ (gP h)
theorem kM{f:Str->β}:∀{l:List (Str×β)}{n:Str},(∀p∈l,p.2=f p.1)->(∃v,(n,v)∈l)->l.lookup n=some (f n)
 | [],_,_,⟨_,h⟩=>by exact absurd h A7
 |(k,a)::r,n,hf,⟨v,h⟩=>by
  rw[L7];by_cases e:(n==k)=true
  .rw[e];obtain B:=hf _ y7;simp only at B;rw[B,N4.mp e]
  .rw[K0.mpr e];refine kM (λp hp=>hf p (y9 _ hp)) ⟨v,?_⟩;rcases C0.mp h with h|h
   .injection h with h;subst h;simp at e
   .exact h
theorem kP{names:bj}{p:Str×Addr}:p∈lm env names↔(p.1,NameKind.free)∈names/\p.2=(env.cells.lookup p.1).getD 0:=by
 unfold lm;rw[List.mem_filterMap];constructor
 .rintro⟨⟨n,k⟩,F,B⟩;split at B
  .rename_i hk;obtain rfl:=w4 B;obtain hk:k=.free:=N4.mp hk;subst hk;exact⟨F,rfl⟩
  .exact ns B
 .rintro⟨F,B⟩;exact(af _ F (by simp[<- B]))
noncomputable abbrev CH(env:Env)(sc:Scope)(Γ:Addr)(b:Addr):Env:={ newEnv sc Γ env.globals (lm env sc.names).reverse env.qual none .none (some env) b with scope:=relabel sc env }
structure jO(outer:bj)(sc:Scope)(xs:List String):Prop where
 loc:∀p∈sc.names,p.2=.local->∃x∈".0"::xs,Str.ofString x=p.1
 kind:sc.kind=.function
 noCell:∀p∈sc.names,p.2≠.cell
 nodup:(sc.names.map (·.1)).Nodup
 outer:∀p∈sc.names,p.2=.free->outer.lookup p.1=some .cell\/outer.lookup p.1=some .free
theorem wl{outer:bj}{xs:List String}(h:nj outer sc xs=true):jO outer sc xs:=by
 unfold nj at h;simp only[Bool.and_eq_true,List.all_eq_true,Bool.or_eq_true,bne_iff_ne,beq_iff_eq,List.any_eq_true,decide_eq_true_eq]at h;refine cf h λaW O=>?_;obtain⟨⟨⟨B,F⟩,G⟩,J⟩:=aW;refine⟨λp hp e=>?_,F,G,J,λp hp e=>?_⟩
 .rcases B p hp with q|⟨x,Q,e'⟩
  .exact absurd e q
  .exact(af x Q e')
 .rcases O p hp with(q|q)|q
  .exact absurd e q
  .exact .inl q
  .exact .inr q
theorem rR{names:bj}(nd:(names.map (·.1)).Nodup):∀p∈names,names.lookup p.1=some p.2:=by
 induction names with
 |nil=>intro p h;exact absurd h A7
 |cons q r F =>
  intro p hp;rw[E2,E8]at nd;obtain⟨n,k⟩:=q;rw[L7];rcases C0.mp hp with rfl|hp
  .simp
  .obtain B:(p.1==n)=false:=Rx.mpr λe=>nd.1 (e▸w3.mpr (af p hp rfl));rw[B];exact F nd.2 p hp
theorem ei(F:ae L env loc H s.heap)(sc:Scope):(relabel sc env).names=eD sc.names env.scope.names:=by apply I5;intro p _;rw[F.kind];simp[Env.kindOf]
theorem iV{names outer:bj}{n:Str}{k:NameKind}(h:(eD names outer).lookup n=some k):(∃B,(n,B)∈names/\(k=B\/(B=.free/\k=.cell))):=by
 obtain G:=gP h;refine ah (w3.mp G) λbS O Q=>?_;obtain⟨n',J⟩:=bS;have F:(if(J==NameKind.free&&outer.lookup n'==some NameKind.cell)=true then(n',NameKind.cell)else(n',J))=(n,k):=Q;by_cases hc:(J==NameKind.free&&outer.lookup n'==some NameKind.cell)=true
 .rw[if_pos hc]at F;cases F;simp only[Bool.and_eq_true,beq_iff_eq]at hc;exact(af _ O (.inr ⟨hc.1,rfl⟩))
 .rw[if_neg hc]at F;cases F;exact(af _ O (.inl rfl))
theorem yk(F:ae L env loc H s.heap)(R:aF L H s.heap){xs:List String}(hs:jO env.scope.names sc xs){ob:Obj}{t:Nat}{b:Addr}(hob:ob.cls≠.type "tuple") (hn:h'.Ns s.heap.objs.size λx=>([]:List (Str×Value)).reverse.lookup x) (sb:Heap.SameBut s.heap.objs.size (s.heap.push ob) h') : ae L (CH env sc s.heap.objs.size b) (loc.drop xs) H h'/\aj L env H H s { s with heap:=h',toks:=t }/\s.heap.get? s.heap.objs.size=none:=by
 obtain hL:s.heap.get? s.heap.objs.size=none:=C6 (A8 _);have k:∀b o,s.heap.get? b=some o->h'.get? b=some o:=λb o e=>(sb.2 b (G7 (I4 e))).trans (z5 _ e);have S:aj L env H H s { s with heap:=h',toks:=t }:=(t9 (s':={ s with heap:=h',toks:=t }) R rfl rfl k).toE F.lH;obtain⟨f1,f2⟩:=R.free hL;have J:∀n c,(lm env sc.names).reverse.lookup n=some c->(n,NameKind.free)∈sc.names/\env.cells.lookup n=some c:=by intro n c e;obtain m:=kP.mp (List.mem_reverse.mp (gP e));refine⟨m.1,?_⟩;obtain⟨c',Y⟩:=F.hasCell n (hs.outer _ m.1 rfl);obtain this:=m.2;simp only at this;rw[Y]at this;rw[Y,this];rfl
 have G:∀n,(n,NameKind.free)∈sc.names->(lm env sc.names).reverse.lookup n=env.cells.lookup n:=by intro n hm;obtain⟨c',Y⟩:=F.hasCell n (hs.outer _ hm rfl);rw[kM (f:=λn=>(env.cells.lookup n).getD 0) (λp hp=>(kP.mp (List.mem_reverse.mp hp)).2) ⟨_,List.mem_reverse.mpr ((kP (p:=(n,(env.cells.lookup n).getD 0))).mpr ⟨hm,rfl⟩)⟩,Y];rfl
 have Q:∀n,((relabel sc env).names.lookup n=some .cell\/(relabel sc env).names.lookup n=some .free)->(n,NameKind.free)∈sc.names:=by
  intro n hk;rw[ei F]at hk;rcases hk with hk|hk
  .obtain⟨Z,O,B|⟨B,_⟩⟩:=iV hk
   .subst B;exact absurd rfl (hs.noCell _ O)
   .subst B;exact O
  .obtain⟨Z,O,B|⟨_,B⟩⟩:=iV hk
   .subst B;exact O
   .cases B
 have ad:∀n,(relabel sc env).names.lookup n=some .local->∃x∈".0"::xs,Str.ofString x=n:=by
  intro n hk;rw[ei F]at hk;refine ah (iV hk) λZ O eJ=>?_;obtain B|⟨_,B⟩:=eJ
  .subst B;exact hs.loc _ O rfl
  .cases B
 refine⟨⟨hs.kind,F.glob,F.blt,(af _ hn (λx v e hk=>?_)),f1,f2,G8 ?_,λn c e=>?_,λx v e hk=>?_,λn hk=>?_,?_⟩,S,hL⟩
 .refine ah (ad _ hk) λy hy e'=>?_;obtain this:=bo e';subst this;unfold Loc.drop at e;rw[if_pos hy]at e;exact ns e
 .obtain O:env.locals<s.heap.objs.size:=by refine ah F.ns λm zq6 _=>?_;obtain⟨o,_,_,e,_⟩:=zq6;exact I4 e
  obtain B:=F.above;exact M7 (A6 B O)
 .refine cf (J n c e) λO B=>?_;refine ia (F.cell n c B) λa1 a2 zq7=>?_;refine cG zq7 λcv o a3 a4=>?_;exact(cH a1 a2 (eU cv o (k _ _ a3) a4))
 .obtain hm:=Q _ hk;have e':loc x=some v:=by
   unfold Loc.drop at e;split at e
   .exact ns e
   .exact e
  refine bM (F.cellv x v e' (hs.outer _ hm rfl)) λc cv O zq8 h4=>?_;obtain⟨o,B,h3⟩:=zq8;exact(bR c cv ((G _ hm).trans O) (af o (k _ _ B) h3) (h4.keep S.st.tup))
 .obtain hm:=Q n hk;refine bL (F.hasCell n (hs.outer _ hm rfl)) λc hc=>?_;exact⟨c,(G n hm).trans hc⟩
 .show List.Pairwise _ (lm env sc.names).reverse;rw[List.pairwise_reverse];obtain nd:=hs.nodup;obtain hO:∀p∈sc.names,p.2=.free->env.scope.names.lookup p.1=some .cell\/env.scope.names.lookup p.1=some .free:=hs.outer;refine List.Pairwise.filterMap (R:=λp q:Str×NameKind=>p.1≠q.1/\p∈sc.names/\q∈sc.names) _ ?_ ?_
  .rintro⟨n,k1⟩ ⟨n',k2⟩ ⟨an,m1,m2⟩ p hp q hq e;simp only at hp hq;split at hp <;> split at hq
   .rename_i q1 q2;obtain rfl:=w4 hp;obtain rfl:=w4 hq;obtain q1:k1=.free:=N4.mp q1;obtain q2:k2=.free:=N4.mp q2;subst q1 q2;refine bL (F.hasCell n (hO _ m1 rfl)) λc1 e1=>?_;refine bL (F.hasCell n' (hO _ m2 rfl)) λc2 e2=>?_;rw[e1,e2]at e;simp only[Option.getD_some]at e;subst e;exact an (gO F.apart e1 e2)
   .exact ns hq
   .exact ns hp
   .exact ns hp
  .have:sc.names.Pairwise λp q=>p.1≠q.1:=K1.mp nd
   exact List.Pairwise.imp_of_mem (λm1 m2 h=>(cH h m1 m2)) this
end
section
variable{p:Pos}{as:List Expr}{g:Gens}{x:Expr}{m:String}
section
variable{H:AH}{A:Around}{d:Nat}
noncomputable def Cc:Gens->MIt
 | .one _ it _=>it
 | .more _ it _=>it
noncomputable def xP(σ:Sx)(d:Nat)(l:Loc)(emit:Loc->AH->(AH->Prop)->Prop):Gens->V->AH->(AH->Prop)->Prop
 | .one t it c=>λx H' k=>∃l',bm t x (l.drop (dU t))=some l'/\ya σ d c l' H' λok H''=>if ok=true then emit l' H'' k else k H''
 | .more t it r=>λx H' k=>∃l',bm t x (l.drop (dU t++fk r))=some l'/\NY σ d r l' H' emit k
theorem HJ{emit:Loc->AH->(AH->Prop)->Prop}{K:AH->Prop}(h:NY σ d g l H emit K):lR σ d (Cc g) l H λsrc vs H1=>fh src (xP σ d l emit g) vs H1 K:=by cases g <;> exact h
theorem Ed{mk:AH->(Addr->AH->Prop)->Prop}{emit:Addr->Loc->AH->(AH->Prop)->Prop}{K:Addr->AH->Prop}(h:HI σ d g l H mk emit K) : lR σ d (Cc g) l H λsrc vs H1=>mk H1 λa H2=>fh src (xP σ d l (emit a) g) vs H2 λH3=>K a H3:=by cases g <;> exact h
theorem IC(F:ae L env loc H s.heap){e:ME}(hs:xO e=true)(hc:aX env.scope.names e x=true){Q:b8}(h:ba L.toSx d e loc H Q):∃v,Q v H/\∀{H':AH}{s':Shared}{P:a9},ae L env loc H' s'.heap -> (∀c t,VR L.sa s'.heap v c->P c { s' with toks:=t })->a8 L A (eval x env) P aI s':=by
 cases e with
 |cst v=>cases v with
  |str t =>
   refine(af _ h (λ{H' s' P} G B=>dG hc λc k p hk=>?_));cases c with
   |str u =>rw[<- J3 hk];exact wpAny_mkText (B _ _ (t6 _ _))
   |_=>exact ai hk
  |_=>exact ai hs
 |var y =>refine ah h λv J q=>?_;refine(af v q (λ{H' s' P} G B=>bf hc λid p hk=>?_));obtain k:=aa hk;rw[J3 (aa k.1).1];exact Bw G (aa k.1).2 (by rw[<- J3 (aa k.1).1];exact k.2) J λc r=>B c s'.toks r
 |_=>exact ai hs
theorem xG{lo:Option Nat}{x:Option Expr}(hc:FQ lo x=true){P:a9}(h:∀c t,BR lo c->P c { s with toks:=t }):a8 L A (evalPart x env) P aI s:=by
 rcases lo with _|n
 .rcases x with _|_
  .exact v9 (h .none s.toks rfl)
  .exact ai hc
 .rcases x with _|e
  .exact ai hc
  .rw[evalPart_some];refine dG hc λc k p hk=>?_;cases c with
   |int i =>rw[J3 hk];exact wpAny_mkInt (h _ _ (gE _ rfl))
   |_=>exact ai hk
abbrev uX(L:Cx)(A:Around)(env:Env)(c:Addr)(ck:CK)(emit:Loc->AH->(AH->Prop)->Prop):Prop:=∀{l':Loc}{H1:AH}{F:Shared}{k:AH->Prop}{B:Shared->Prop},ae L env l' H1 F.heap->aF L H1 F.heap->emit l' H1 k ->
  (∀s' H2,k H2->aj L env H1 H2 F s'->B s')->sL (model L.prog L.w) A env c aI ck B F
theorem ls{depth:Nat}{g:Comprehension}{gs:List Comprehension}(h:gens.drop depth=g::gs):gens[depth]?=some g/\gens.drop (depth+1)=gs:=by
 constructor
 .obtain B:(gens.drop depth)[0]?=some g:=by rw[h];rfl
  rwa [Q1,Nat.add_zero]at B
 .rw[<- List.tail_drop,h];rfl
theorem pJ{xs ys:List String}{l':Loc}(h:∀x u,(l.drop (xs++ys)) x=some u->l' x=some u):∀x u,(l.drop (xs++ys)) x=some u->(l'.drop ys) x=some u:=λx u e=>by
 obtain e':=h x u e;unfold Loc.drop at e ⊢;split at e
 .exact ns e
 .rename_i B;rw[if_neg λz=>B ((C0.mp z).elim (λq=>by rw[q];exact y7) λz=>y9 _ (D9.mpr (.inr z)))];exact e'
theorem aj.leave{H2:AH}{B:Shared}{Γ:Addr}(R:aF L H s.heap)(Y:ax L (λb=>b=env.locals\/b=Γ) H H2 s B)(Q:∀m,s.heap.Ns env.locals m->B.heap.Ns env.locals m)(J:s.heap.get? Γ=none)(nL:env.locals≠Γ)(hH:H2 Γ=none){m:Str->Option Value}(hn:B.heap.Ns Γ m) {h':Heap} (sb:Heap.SameBut Γ B.heap h'):aj L env H H2 s { B with heap:=h' }:=by
 have S:ax L (λb=>b=env.locals) H H2 s B:=Y.fresh λb F=>F.imp id (by rintro rfl;exact J);have tk:TupKeep L.sa B.heap h':=λb o _ e hc ⟨xs,n,hd⟩=>(sb.2 b λz=>by subst z;refine Ef hn λo' _ _ e' G _=>?_;rw[e]at e';obtain rfl:=w4 e';rw[hd]at G;cases G).trans e
 obtain live:∀b,b≠Γ->B.heap.get? b≠none->h'.get? b≠none:=λb F h=>by rw[sb.2 b F];exact h
 have ne:∀b,s.heap.get? b≠none->b≠Γ:=λb h z=>h (z▸J);refine⟨⟨S.gens,S.os,λb o e F ho=>(sb.2 b (ne b (by simp[e]))).trans (S.keep b o e F ho),S.dom,S.mono,λb h=>live b (ne b h) (S.live b h),S.tup.trans tk,⟨λb o e=>?_,S.rel.fresh,λa o e=>?_,λb F=>live b (by rintro rfl;exact R.nx J F) (S.rel.ex b F)⟩⟩,λm' O=>?_⟩
 .exact(sb.2 b (ne b (by rw[R.base b o e];simp))).trans (S.rel.base b o e)
 .refine ah (S.rel.obj a o e) λob Z h2=>?_;exact(af ob ((sb.2 a λz=>by rw[z,hH]at e;cases e).trans Z) (h2.keep tk))
 .refine nC (Q m' O) λo es ep e r=>?_;exact(zz o es ep ((sb.2 _ nL).trans e) r)
theorem lW{outer:bj}{f:Bool}(h:kI outer nm f g gens=true):∃g₁ gs,gens=g₁::gs/\g₁.is_async=0/\(∃t,fC false nm t g₁.target=true)/\lX (if f then outer else nm) (Cc g) g₁.iter=true:=by
 rcases g with⟨t,it,c⟩|⟨t,it,r⟩
 .refine ah (mY h) λg₁ aW h=>?_;subst aW;obtain h:=aa h;have B:=aa h.2;exact(kB g₁ ([]) rfl (B8 (aa B.2).2) ⟨_,h.1⟩ B.1)
 .cases gens with
  |nil=>exact ai h
  |cons g₁ gs =>have h:=aa h;obtain B:=aa h.2;exact(kB g₁ gs rfl (B8 (aa (aa B.2).2).1) ⟨_,h.1⟩ B.1)
theorem lY{it:MIt}(h:lX nm it x=true):my x=true:=by
 cases it with
 |exp e=>exact(aa h).1
 |rng e =>
  rcases q:jW nm "range" x with _|y
  .replace h:(match jW nm "range" x with|some y=>aX nm e y|none=>false)=true:=h;rw[q]at h;exact ai h
  .refine nC (jX q) λ_ _ _ bS _=>?_;subst bS;rfl
 |_=>exact ai h
def SG(L:Cx)(d:Nat)(g:Gens):Prop:=∀{outer:bj}{fst:Bool}{env:Env}{ck:CK}{gens:List Comprehension}{sc:Scope}{pos:Pos}{depth:Nat}{c I:Addr}{A:Around}{emit:Loc->AH->(AH->Prop)->Prop}{W:Addr->Prop}{src:pX}{vs:List V}{St:Nat->Heap->Prop}{g₀:Comprehension}
  {l:Loc} {H H₀:AH} {s s₀:Shared} {K:AH->Prop} {R:Result->Shared->Prop} {own₀:Addr->Prop} {Lo:Addr} {B:Obj},own₀ env.locals->s.heap.get? Lo=some B->H Lo=none->Lo≠env.locals->¬W Lo->kI outer env.scope.names fst g (gens.drop depth)=true->gens[depth]?=some g₀->Room A d->uX L A env c ck emit->Iter L A I W g₀.target src vs St ->
  ae L env (l.drop (fk g)) H s.heap->WOK L env H W->(∀b,W b->s₀.heap.get? b=none)->ax L own₀ H₀ H s₀ s->St 0 s.heap->fh src (xP L.toSx d l emit g) vs H K ->
  (∀s' H',K H'->ae L env (l.drop (fk g)) H' s'.heap->ax L own₀ H₀ H' s₀ s'->s'.heap.get? Lo=some B->R (.ok .next) s') ->
  codeAny (model L.prog L.w) A (.compLoop (ck.ex gens sc pos) depth (.ref I) (.ref c) env) R s
theorem Ac{ck:CK}{g₁:Comprehension}{gs:List Comprehension}{pos p:Pos}(J:jO env.scope.names sc (fk g))(a5:nm=eD sc.names env.scope.names)(ha:g₁.is_async=0)(hns:my g₁.iter=true) (hr:Room A d) (F:ae L env loc H s.heap) (R:aF L H s.heap) {O:Sem Value} {ob:Obj} {x₀:AO} (hob:ob.cls≠.type "tuple") (hfr:ob.isFreed=false) (a7:∀h,ORel L h ob x₀) (a1:∀{s:Shared}{P:a9},P (.ref s.heap.objs.size) { s with heap:=s.heap.push ob }->a8 L A O P aI s) {emit:Addr->Loc->AH->(AH->Prop)->Prop} {K:Addr->AH->Prop} (a3:a8 L A (eval g₁.iter env) (λxv ac=>a8 L A (pyIter xv) (ItPost L env A g₁.target H s λsrc vs H1=>∀D,H1 D=none->fh src (xP L.toSx d loc (emit D) g) vs (H1.set D x₀) λH3=>K D H3) aI ac) aI s) (as:SG L d g) (hgs:kI env.scope.names nm true g (g₁::gs)=true) (hem:∀{ad:Env}{D:Addr},ad.scope.names=nm->uX L A ad D ck (emit D)) {bf:Option (Value->Sem Unit)} {P:a9} (hP:∀D Γ H3 Q,K D H3->ax L (λb=>b=env.locals\/b=Γ) H H3 s Q->(∀m,s.heap.Ns env.locals m->Q.heap.Ns env.locals m)->s.heap.get? Γ=none->env.locals≠Γ->H3 Γ=none->(∃m,Q.heap.Ns Γ m)->compPost (model L.prog L.w) A aI bf P (.ref D) Γ (.ok .next) Q) : a8 L A (comprehension (ck.ex (g₁::gs) sc pos) sc env p O false (eval g₁.iter env) bf) P aI s:=by
 refine wpAny_comprehension_free (cl:=(lm env sc.names).reverse) (ck.cl _ _ _) (λx=>gR hns env x) (pI λp hp e=>F.hasCell p.1 (J.outer p hp e)) J.kind
  (λx hx e=>by rw[rR J.nodup x hx,e]) ?_
 refine B6 a3 (λxv s1 h1=>B6 h1 (λit B h2=>?_) λ_ _ e=>e) λ_ _ e=>e;obtain⟨I,W,vs,src,St,H1,q,rfl,st,It,hW,hn,hs,S⟩:=h2;obtain F2:=F.estep S;obtain R2:=S.st.rel;refine a1 ?_;obtain n2:B.heap.get? B.heap.objs.size=none:=C6 (A8 _);obtain⟨S3,hD⟩:=u1 (own:=eA) (s':={ B with heap:=B.heap.push ob }) (x:=x₀) R2 rfl rfl n2 (λb o e=>z5 _ e) (C2 _ hfr) (a7 _);obtain ar:aj L env H1 (H1.set B.heap.objs.size x₀) B { B with heap:=B.heap.push ob }:=S3.toE F2.lH;obtain F3:=F2.estep ar;obtain R3:aF L (H1.set B.heap.objs.size x₀) (B.heap.push ob):=S3.rel;refine wpAny_newFunctionEnv (s:={ B with heap:=B.heap.push ob }) J.noCell (by intro x hx;exact absurd hx A7) (λh' a4 sb=>?_) J.kind;refine ia (yk (s:={ B with heap:=B.heap.push ob }) (t:=B.toks+0) (b:=0) F3 R3 J (by simp) a4 sb) λFC S4 Y=>?_;have hLs:s.heap.get? (B.heap.push ob).objs.size=none:=by
  rcases e:s.heap.get? (B.heap.push ob).objs.size with _|o
  .rfl
  .exact absurd Y ((S.trans ar).st.live _ (by rw[e];simp))
 obtain lw:∀b,W b->B.heap.get? b≠none:=λb Z=>It.lw 0 _ st b Z;obtain W3:WOK L env (H1.set B.heap.objs.size x₀) W:=hW.step S3 lw;obtain lw3:∀b,W b->(B.heap.push ob).get? b≠none:=λb Z=>S3.live b (lw b Z);obtain⟨f1,f2⟩:=R3.free Y;have a0:aj L env H (H1.set B.heap.objs.size x₀) s { B with heap:=h',toks:=B.toks+0 }:=(S.trans ar).trans S4;have hk:∀b o,B.heap.get? b=some o->h'.get? b=some o:=λb o e=>(sb.2 b (G7 (I4 (z5 ob e)))).trans (z5 _ (z5 _ e));have bc:St 0 h':=It.frame 0 _ _ st (λb o _ e=>hk b o e) (r8 hk);obtain hLlive:h'.get? (B.heap.push ob).objs.size≠none:=by refine nC a4 λo _ _ e _=>?_;rw[e];simp
 refine mG ck (sc:=sc) (pos:=pos) (gens:=g₁::gs) (depth:=0) (g:=g₁) rfl ha (It.self 0 _ bc) ?_;refine ah ((F3.estep S4).ns) λet cI _=>?_;refine nC cI λoL no pb a6 av=>?_;have an:env.locals≠(B.heap.push ob).objs.size:=λz=>by refine ah F3.ns λ_ cW _=>?_;refine nC cW λ_ _ _ e _=>?_;rw[z,Y]at e;exact ns e
 refine as (gens:=g₁::gs) (g₀:=g₁) (s:={ B with heap:=h',toks:=B.toks+0 }) (s₀:=s) (H₀:=H) (own₀:=λb=>b=env.locals\/b=(B.heap.push ob).objs.size) (Lo:=env.locals) (K:=λH3=>K B.heap.objs.size H3) (.inr rfl) a6 (F3.estep S4).lH an hW.l (outer:=env.scope.names) (fst:=true) ?_ rfl hr (hem ?_) It FC
  ⟨W3.h,hW.b,?_,?_⟩ hn (a0.st.weaken λb Z=>.inl Z) bc (q _ hD) λs5 H3 hK F5 S5 hL5=>?_
 .obtain e:=(ei F sc).trans a5.symm;exact e▸hgs
 .exact(ei F sc).trans a5.symm
 .intro Z;exact lw3 _ Z Y
 .intro n c e Z;have m:=kP.mp (List.mem_reverse.mp (gP e));obtain⟨c',a2⟩:=F.hasCell n (J.outer _ m.1 rfl);obtain G:=m.2;simp only at G;rw[a2]at G;simp only[Option.getD_some]at G;subst G;exact hW.c n c a2 Z
 .refine hP _ _ H3 s5 hK S5 (λm hm=>?_) hLs an F5.lH (by refine ah F5.ns λm hm _=>?_;exact⟨m,hm⟩)
  .refine nC (a0.ns m hm) λo es ep e r=>?_;obtain G:o=oL:=w4 (e.symm.trans a6);subst G;exact(zz o es ep hL5 r)
noncomputable def nE(L:Cx)(env:Env)(loc:Loc)(A:Around):List (Option Expr)->List V->Prop
 | [],[]=>True
 |some x::xs,v::vs=>(∀{H':AH}{s':Shared}{P:a9},ae L env loc H' s'.heap->(∀c t,VR L.sa s'.heap v c->P c { s' with toks:=t })->a8 L A (eval x env) P aI s')/\nE L env loc A xs vs
 |_,_=>False
theorem qA(F:ae L env loc H s.heap):∀{ks:MEs}{keys:List (Option Expr)},jc ks=true->wN env.scope.names ks keys=true->∀{Q:b9},dM L.toSx d ks loc H Q->∃kk,Q kk H/\nE L env loc A keys kk
 | .nil,keys,_,hc,Q,h=>by
  rcases keys with _|⟨_,_⟩
  .exact(af ([]) h trivial)
  .exact ai hc
 | .cons e r,keys,ha,hc,Q,h=>by
  rcases keys with _|⟨o,keys⟩
  .exact ai hc
  .rcases o with _|x
   .exact ai hc
   .refine ah (IC (A:=A) F (aa ha).1 (aa hc).1 h) λv G B=>?_;refine ah (qA F (aa ha).2 (aa hc).2 G) λkk hk hr=>?_;exact(af (v::kk) hk ⟨B,hr⟩)
theorem md:∀{keys:List (Option Expr)}{kk:List V},nE L env loc A keys kk->keys.all (·.isSome)=true/\keys.length=kk.length
 | [],[],_=>⟨rfl,rfl⟩
 |some _::_,_::_,h=>(md h.2).imp id (C3 (· + 1))
 |none::_,_,h=>h.elim
 |some _::_,[],h=>h.elim
 | [],_::_,h=>h.elim
theorem nO:∀{kk:List V}{ps:List (Value×Value)},VRs L.sa h kk (ps.map (·.1))->(∀k∈kk,cV k=1)->∃B:List (V×Value),@Carries L.prog L.w V bX (bB L.prog L.w) ps B/\B.map (·.1)=kk/\B.map (·.2)=ps.map (·.2)
 | [],[],_,_=>(aN ([]) trivial rfl rfl)
 |_::_,[],r,_=>by refine cG (VRs.cons_inv r) λ_ _ e _=>?_;exact(G0 _ _ e.symm).elim
 | [],_::_,r,_=>nomatch VRs.nil_inv r
 |k::kk,p::ps,r,hk=>by refine bM (VRs.cons_inv r) λc cs e Q Y=>?_;cases e;refine bE (nO Y λk F=>hk k (y9 _ F)) λB G J O=>?_;exact(aN ((k,p.2)::B) (cH (cF (cZ (hk k y7)) Q) rfl G) (C3 (k::·) J) (C3 (p.2::·) O))
theorem yb:∀{kk B:List V},kk.length=B.length->(kk.zip B).map (·.1)=kk/\(kk.zip B).map (·.2)=B
 | [],[],_=>⟨rfl,rfl⟩
 |k::_,v::_,h=>(yb (P0 h)).imp (C3 (k::·)) (C3 (v::·))
 | [],_::_,h=>Nat.noConfusion h
 |_::_,[],h=>Nat.noConfusion h
theorem CD{ks vs:MEs}{keys:List (Option Expr)}{B:List Expr}(ha:jc ks=true)(hk:wN env.scope.names ks keys=true)(hv:du env.scope.names vs B=true)(hl:keys.length=B.length)(hlen:keys.length<=15)(F:ae L env loc H s.heap)(R:aF L H s.heap)(hr:Room A d){Q:b8} (h:dM L.toSx d ks loc H λkk _=>dM L.toSx d vs loc H λJ H'=>dictOK (kk.zip J)/\br (kk.zip J)/\kk.length=J.length/\kk.length<=15/\fresh H' Q (.dict (kk.zip J))) (IH:∀{H:AH}{s:Shared}{kk:List V}{Q:b9},ae L env loc H s.heap->aF L H s.heap->nE L env loc A keys kk->dM L.toSx d vs loc H Q ->
   a8 L A (evalPairs (pairTrees keys B env p)) (λps s'=>∃J H',Q J H'/\VRs L.sa s'.heap kk (ps.map (·.1))/\VRs L.sa s'.heap J (ps.map (·.2))/\aj L env H H' s s') aI s) :
  a8 L A (eval (.Dict keys B p) env) (EPost L env H s Q) aI s:=by
 letI:DecidableEq V:=bX
 refine ah (qA (A:=A) F ha hk h) λkk h KO=>?_;refine cf (md KO) λk1 k2=>?_;have n0:s.heap.get? s.heap.objs.size=none:=C6 (A8 _);have S0:aj L env H H s { s with heap:=s.heap.push { cls:=.type "dict",data:=.dict #[] } } :=(t9 (s':={ s with heap:=s.heap.push { cls:=.type "dict",data:=.dict #[] } }) R rfl rfl λb o e=>z5 _ e).toE F.lH
 refine cf (R.free n0) λf1 f2=>?_;obtain F0:=F.estep S0;refine ah F.ns λet G _=>?_;obtain as:∀m,s.heap.Ns env.locals m->s.heap.get? env.locals≠none:=λm ⟨o,_,_,e,_⟩=>by rw[e];simp
 rcases keys with _|⟨pv,keys⟩
 .cases B with
  |cons _ _=>exact Nat.noConfusion hl
  |nil =>
   cases kk with
   |cons _ _=>exact Nat.noConfusion k2
   |nil =>
    cases vs with
    |cons _ _=>exact ai hv
    |nil =>exact wpAny_Dict_empty (EPost.push F R (k:=s.toks) (ob:=bb #[] 0) h.2.2.2.2 (bR (#[]) 0 rfl rfl h.1))
 .refine wpAny_Dict_walk (knd:=bB L.prog L.w) k1 hl (by simp) hlen (B6 (IH F0 S0.st.rel KO h) (λps s1 h1=>?_) λ_ _ e=>e);refine sJ h1 λJ H' eJ r1 r2 S1=>?_;refine Qa eJ λhd hsk hkl hk15 q=>?_;refine cf (yb hkl) λz1 z2=>?_;refine bE (nO r1 λk hk=>by rw[<- z1]at hk;refine ah (w3.mp hk) λp hp zq6=>?_;subst zq6;exact hsk p hp) λY c1 c2 c3=>?_;obtain Z:({ s with heap:=s.heap.push { cls:=.type "dict",data:=.dict #[] } }:Shared).heap.get? s.heap.objs.size=some (bb #[] 0):=C2 _ rfl;obtain hne:s.heap.objs.size≠env.locals:=λz=>by refine nC G λo _ _ e _=>?_;rw[<- z,n0]at e;exact ns e
  have ad:s1.heap.get? s.heap.objs.size=some (bb #[] 0):=S1.st.keep _ _ Z f1 hne;refine(aN Y c1 ((Qe _ (#[]) 0 ad (cH rfl rfl rfl) rfl (λe he=>by simp at he) (@Pairs.nil _ _ V bX _) (by decide))) (λh' ar sb=>?_));obtain nd:(Y.map (·.1)).Nodup:=by rw[c2,<- z1];exact hd.1
  rw[merged_nil_of_nodup Y nd]at ar;refine Oa ar λo es' ep ho' hx O hk' hp _=>?_;have ob:o=bb es' ep:=by obtain⟨d1,d2,d3,d4⟩:=o;obtain⟨x1,x2,x3⟩:=hx;simp only at x1 x2 x3 O;subst x1 x2 x3 O;rfl
  obtain an:H' s.heap.objs.size=none:=S1.st.dom_none Z f1;obtain S:=aj.adopt (t:=s1.toks+ps.length) (S0.trans S1) as G n0 ad (by simp) an f2 ho' sb (x:=.dict (kk.zip J)) (bR _ _ ob (sq (kvs:=kk.zip J) hp (λe he=>hk' e (Q5.mp he)) (by rw[c2,z1]) (by rw[z2,c3];exact r2)) hd);exact(bR _ _ (q _ an) (t7 _) S)
def uU(L:Cx)(d:Nat)(args:MEs):Prop:=∀{env:Env}{as:List Expr}{pos:Pos}{loc:Loc}{H:AH}{s:Shared}{A:Around}{Q:b9},du env.scope.names args as=true->ae L env loc H s.heap->aF L H s.heap->Room A d->dM L.toSx d args loc H Q ->
  a8 L A (spliced (backTo pos (starEach as env))) (λcvs s'=>EPosts L env H s Q cvs s'/\cvs.length=as.length) aI s
def SE(L:Cx)(d:Nat)(e:ME):Prop:=∀{env:Env}{x:Expr}{loc:Loc}{H:AH}{s:Shared}{A:Around}{Q:b8},aX env.scope.names e x=true->ae L env loc H s.heap->aF L H s.heap->Room A d->ba L.toSx d e loc H Q->a8 L A (eval x env) (EPost L env H s Q) aI s
def ST(L:Cx)(d:Nat)(e:ME):Prop:=∀{env:Env}{x:Expr}{loc:Loc}{H:AH}{s:Shared}{A:Around}{Q:Bool->AH->Prop},aX env.scope.names e x=true->ae L env loc H s.heap->aF L H s.heap->Room A d->sD L.toSx d e loc H Q->a8 L A (isTrue x env (eval x env)) (HQ L env H s Q) aI s
def nF(L:Cx)(d:Nat)(vs:MEs):Prop:=∀{env:Env}{keys:List (Option Expr)}{B:List Expr}{p:Pos}{loc:Loc}{H:AH}{s:Shared}{A:Around}{kk:List V}{Q:b9},du env.scope.names vs B=true->keys.length=B.length->ae L env loc H s.heap->aF L H s.heap->Room A d->nE L env loc A keys kk->dM L.toSx d vs loc H Q ->
  a8 L A (evalPairs (pairTrees keys B env p)) (λps s'=>∃F H',Q F H'/\VRs L.sa s'.heap kk (ps.map (·.1))/\VRs L.sa s'.heap F (ps.map (·.2))/\aj L env H H' s s') aI s
def Cg(L:Cx)(d:Nat)(it:MIt):Prop:=∀{env:Env}{x tgt:Expr}{loc:Loc}{H:AH}{s:Shared}{A:Around}{K:pX->List V->AH->Prop},lX env.scope.names it x=true->cC tgt=true->ae L env loc H s.heap->aF L H s.heap->Room A d->lR L.toSx d it loc H K ->
  a8 L A (eval x env) (λB ac=>a8 L A (pyIter B) (ItPost L env A tgt H s K) aI ac) aI s
end
theorem gD{d:Nat}{H:AH}{A:Around}{J:b9}{f:Value}(O:uU L d args)(ha:du env.scope.names args as=true)(F:ae L env loc H s.heap)(R:aF L H s.heap)(hr:Room A d) (h:dM L.toSx d args loc H J) {P:Args->Shared->Prop} (k:∀vs H1 cvs B,J vs H1->VRs L.sa B.heap vs cvs->aj L env H H1 s B->P ⟨cvs,[]⟩ B):a8 L A (evalArgs f true (backTo p (starEach as env)) []) P aI s:=by
 refine wc ha (λe=>?_) (B6 (O (pos:=p) ha F R hr h) (λcvs B Q=>?_) λ_ _ e=>e)
 .subst e;exact k [] H [] s h .nil (aj.refl R)
 .refine cf Q λG _=>?_;refine bM G λvs H1 q r S=>?_;exact k vs H1 cvs B q r S
section
variable{d:Nat}(C:aO L.toSx)(PO:∀p,aU L p)
section
variable{H:AH}{A:Around}
include C
theorem zX{f:String}(J:dN env.scope.names f id=true)(ha:du env.scope.names args as=true)(Z:uU L d args){Q:b8}(F:ae L env loc H s.heap)(R:aF L H s.heap)(hr:Room A d) (h:∃a,L.fn f=some a/\dM L.toSx d args loc H λvs H1=>CallS L.toSx d a vs H1 Q):a8 L A (eval (.Call (.Name id ip) as [] p) env) (EPost L env H s Q) aI s:=by obtain J:=aa J;refine ah h λa Y h=>?_;refine sJ C.ns λmg mb G B hf _=>?_;refine cf (hf f a Y) λhm hk=>?_;refine Call_ (ur F R G (aa J.1).2 J.2 (J3 (aa J.1).1▸hm) ?_);exact lL ha hk (gD Z ha F R hr h λvs H1 cvs s1 O r S=>⟨aF.kin C S.st.rel,B6 (qR O (F.estep S) S.st.rel hr r) (λ_ _ h=>u3 S h) λ_ _ e=>e⟩)
theorem CE{c:String}(J:dN env.scope.names c id=true)(ha:du env.scope.names args as=true)(IH:uU L d args){Q:b8}(F:ae L env loc H s.heap)(R:aF L H s.heap)(hr:Room A d) (h:ba L.toSx d (.new c args) loc H Q):a8 L A (eval (.Call (.Name id ip) as [] p) env) (EPost L env H s Q) aI s:=by obtain J:=aa J;refine uV h λD f d' ad O hf h=>?_;subst ad;refine pD C.ns λmg mb G B _ Y _=>?_;refine Call_ (ur F R G (aa J.1).2 J.2 (J3 (aa J.1).1▸Y c D O) ?_);exact lL ha (C.mks c D f O hf).kp (gD IH ha F R hr h λvs H1 cvs s1 Z r S=>⟨aF.kin C S.st.rel,B6 (NJ C (F.estep S) S.st.rel O hf r hr Z) (λ_ _ h=>u3 S h) λ_ _ e=>e⟩)
omit C in
theorem CW{a:Addr}(ho:s.heap.get? a=some o)(hc:o.cls=.type "list")(hd:o.dict=none)(hm:m∈["append","extend","pop","index"]){pl:Sem Bool}{P:Value×List Value->Shared->Prop}(B:P (.builtin ("list."++m),[.ref a]) s):a8 L A (getMethod (.ref a) (Str.ofString m) pl) P aI s:=by
 have nd:∀b,Value.ref a=.ref b->∃o,s.heap.get? b=some o/\o.dict=none:=λb e=>by injection e with e;subst e;exact⟨_,ho,hd⟩
 have hT:s.TypeIs (.ref a) "list":=⟨_,ho,hc⟩;rcases C0.mp hm with rfl|hm
 .exact Rs hT PySem.F.plainAttrs_list PySem.F.slot_list_append PySem.F.type_list_append nd B
 rcases C0.mp hm with rfl|hm
 .exact Rs hT PySem.F.plainAttrs_list PySem.F.slot_list_extend PySem.F.type_list_extend nd B
 rcases C0.mp hm with rfl|hm
 .exact Rs hT PySem.F.plainAttrs_list PySem.F.slot_list_pop PySem.F.type_list_pop nd B
 obtain rfl:=A4.mp hm;exact Rs hT PySem.F.plainAttrs_list PySem.F.slot_list_index PySem.F.type_list_index nd B
omit C in
theorem CV{a:Addr}(ho:s.heap.get? a=some o)(hc:o.cls=.type "dict")(hd:o.dict=none)(hm:m∈["get","setdefault","pop"]){pl:Sem Bool}{P:Value×List Value->Shared->Prop}(B:P (.builtin ("dict."++m),[.ref a]) s):a8 L A (getMethod (.ref a) (Str.ofString m) pl) P aI s:=by
 have nd:∀b,Value.ref a=.ref b->∃o,s.heap.get? b=some o/\o.dict=none:=λb e=>by injection e with e;subst e;exact(af _ ho hd)
 obtain hT:s.TypeIs (.ref a) "dict":=(af _ ho hc);rcases C0.mp hm with rfl|hm
 .exact Rs hT PySem.F.plainAttrs_dict PySem.F.slot_dict_get PySem.F.type_dict_get nd B
 rcases C0.mp hm with rfl|hm
 .exact Rs hT PySem.F.plainAttrs_dict PySem.F.slot_dict_setdefault PySem.F.type_dict_setdefault nd B
 obtain rfl:=A4.mp hm;exact Rs hT PySem.F.plainAttrs_dict PySem.F.slot_dict_pop PySem.F.type_dict_pop nd B
theorem Dh{x:Expr}(ha:du env.scope.names args as=true)(Z:uU L d args){Q:b8}(F:ae L env loc H s.heap)(R:aF L H s.heap)(hr:Room A d){k:RK}{v:V}(rv:VR L.sa s.heap v cv) (J:qO H L.toSx v m k) (h:dM L.toSx d args loc H λvs H2=>tN H2 Q L.toSx d k v m vs) {pl:Sem Bool}:a8 L A (getMethod cv (Str.ofString m) pl) (λfm ac=>a8 L A (callWith p fm.1 fm.2 (backTo p (starEach as env)) []) (EPost L env H s Q) aI ac) aI s:=by
 rcases k with c|_|_|_
 .refine Oa J λa dx kvs zq9 i1 i2 i3 i4 i5=>?_;subst zq9;apply rv.ref_el;refine ah (oj R i1) λD hD ho=>?_;refine bM (ln R i2) λes n hd er dk=>?_;obtain⟨f,hf⟩:=Option.isSome_iff_exists.mp i5;obtain K:=C.mth c D m f hD hf;refine ah (ER.getL m er i3) λoc l1 l2=>?_;rw[i4]at l2;cases oc with
  |some _=>exact l2.elim
  |none =>refine method_fn (od:=some (dictOf es n)) (aF.kin C R) ⟨ho,rfl,rfl,hd⟩ (plainGet_of K.g).1 (plainGet_of K.g).2 K.nf (N4.mp K.fn) (by show(lookIn (Str.ofString m) (dictOf es n)).map _=_;rw[lookIn_dict,l1];rfl) ?_;refine lL ha K.kp (gD Z ha F R hr h λvs H2 cvs s2 h2 r B=>?_);refine ah h2 λf' hf' G=>?_;obtain rfl:=w4 (hf.symm.trans hf');exact⟨aF.kin C B.st.rel,B6 (qR G (F.estep B) B.st.rel hr (.cons (t7 _) r)) (λ_ _ h=>u3 B h) λ_ _ e=>e⟩
 .obtain⟨hm,a,vs,rfl,i1⟩:=J;obtain rfl:=rv.ref_inv;obtain⟨cvs,n,ho,_⟩:=ao R i1;exact CW ho rfl rfl hm (Calls.callWith_builtin (dw ha p env).1 (gD Z ha F R hr h λvs H2 cvs s2 G r B =>
   B6 (xI C (F.estep B) B.st.rel hr G (t7 _) r) (λ_ _ h=>u3 B h) λ_ _ e=>e))
 .obtain⟨hm,a,vs,rfl,i1⟩:=J;obtain rfl:=rv.ref_inv;obtain⟨es,n,ho,_⟩:=cz R i1;exact CV ho rfl rfl hm (Calls.callWith_builtin (dw ha p env).1 (gD Z ha F R hr h λvs H2 cvs s2 G r B =>
   B6 (DA C (F.estep B) B.st.rel hr G (t7 _) r) (λ_ _ h=>u3 B h) λ_ _ e=>e))
 .obtain⟨rfl,y,rfl⟩:=J;apply rv.str_el;intro t;refine GM.isspace ?_;show wpAny _ _ (callWith p (.builtin "str.isspace") [.str (Str.ofString y) t] (backTo p (starEach as env)) []) _ _ _;refine Calls.callWith_builtin (dw ha p env).1 (gD Z ha F R hr h λvs H2 cvs s2 h2 r B=>?_);refine Ee h2 λ_ O Y q=>?_;subst O;refine ah Y λy' e1 e2=>?_;injection e1 with e1;subst e1;rw[r.nil_inv];exact B6 (zf B.st.rel (af y rfl e2) q (t6 y t)) (λ_ _ h=>u3 B h) λ_ _ e=>e
theorem zY{o:ME}{ap:Pos}(hb:cQ x=true)(ha:du env.scope.names args as=true)(hl:as.length<30)(G:(ap.endLine==p.line)=true)(ho:aX env.scope.names o x=true)(J:SE L d o)(IH:uU L d args){Q:b8}(F:ae L env loc H s.heap)(R:aF L H s.heap)(hr:Room A d) (h:ba L.toSx d o loc H λv H1=>∃k,qO H1 L.toSx v m k/\dM L.toSx d args loc H1 λvs H2=>tN H2 Q L.toSx d k v m vs):a8 L A (eval (.Call (.Attribute x (Str.ofString m) ap) as [] p) env) (EPost L env H s Q) aI s:=by
 have B:methodCallForm (as.length+0) (backTo p (starEach as env)) (backToKw p (keywordEach [] env))=true:=by unfold methodCallForm;rw[(dw ha p env).2.1];exact E4 hl
 refine MethodCall_ (pl:=do return(<- importBound x env).getD true) (bk (J ho F R hr h) λv H1 cv s1 Y r1 O=>?_) ?_
 .refine ah Y λk Z Y=>?_;exact B6 (Dh C (x:=x) ha IH (F.estep O) O.st.rel hr r1 Z Y) (λ_ _ h=>B6 h (λ_ _ h=>u3 O h) λ_ _ e=>e) λ_ _ e=>e
 .show(do let ov <- attributeBase x (Str.ofString m) env (eval x env);standAt ap.atName;methodCall x (Str.ofString m) ap p env ov (as.length+0) (backTo p (starEach as env)) (backToKw p (keywordEach [] env)):Sem Value)=_;rw[gS hb];unfold methodCall;rw[B];unfold calleeOf methodCallPos;rw[G];rfl
end
end
end
section
variable{a b:ME}
variable{d:Nat}
theorem GY{v:V}:SE L d (.cst v):=by
 intro env x loc H s A Q hc F R hr h;refine dG hc λc k p hk=>?_;cases v with
 |none=>cases c with
  |none=>exact v9 (v8 R h r9)
  |_=>exact ai hk
 |bool b=>cases c with
  |bool b'=>obtain rfl:=J3 hk;exact v9 (v8 R h (s8 _))
  |_=>exact ai hk
 |int i=>cases c with
  |int j=>obtain rfl:=J3 hk;exact wpAny_mkInt (u8 R h)
  |_=>exact ai hk
 |str i=>cases c with
  |str j=>obtain rfl:=J3 hk;exact wpAny_mkText (u9 R h (t6 _ _))
  |_=>exact ai hk
 |_=>exact ai hk
theorem Hg{i:Int}:SE L d (.neg i):=by
 intro env x loc H s A Q hc F R hr h;refine gd hc λo x p hk=>?_;obtain hk:=aa hk;obtain rfl:=B8 hk.1;refine dG hk.2 λc k p hk=>?_;cases c with
 |int j=>obtain rfl:=J3 hk;exact wpAny_UnaryOp (wpAny_mkInt (neg_int (u9 R h (s9 _ _))))
 |_=>exact ai hk
theorem Bz{y:String}:SE L d (.var y):=by intro env x loc H s A Q hc F R hr h;refine bf hc λid p hk=>?_;obtain k:=aa hk;obtain k1:=aa k.1;obtain rfl:=J3 k1.1;refine ah h λv B q=>?_;exact Bw F k1.2 k.2 B λc r=>v8 R q r
theorem xi{n:Nat}(h:n=m)(B:decide (m<=1000)=true):n<=sizeLine:=by rw[J9,h];exact u0 (B8 B) (by decide)
theorem Hk{es:MEs}(I:uU L d es):SE L d (.tup es):=by intro env x loc H s A Q hc F R hr h;refine bW hc λxs n p hk=>?_;obtain hk:=aa hk;refine wpAny_Tuple_spliced (B6 (I (pos:=p) hk.1 F R hr h) (λcvs G B=>?_) λ_ _ e=>e);refine cf B λaW hl=>?_;obtain⟨vs,H1,q,r,S⟩:=aW;exact⟨xi hl hk.2,u3 S (GW (F.estep S) S.st.rel r q)⟩
theorem Hf{es:MEs}(I:uU L d es):SE L d (.lst es):=by intro env x loc H s A Q hc F R hr h;refine vP hc λxs p hk=>?_;obtain hk:=aa hk;show wpAny _ _ (do standAt p;newList (<- spliced (backTo p (starEach xs env)))) _ _ _;refine r5 (QX (r5 (B6 (I (pos:=p) hk.1 F R hr h) (λcvs G B=>?_) λ_ _ e=>e)));refine cf B λbS hl=>?_;refine bM bS λvs H1 q r S=>?_;exact wpAny_newList (u3 S (GT (F.estep S) S.st.rel r q)) (xi hl hk.2)
theorem GZ{ks vs:MEs}(I:nF L d vs):SE L d (.dct ks vs):=by intro env x loc H s A Q hc F R hr h;refine vO hc λkeys B p hk=>?_;obtain O:=aa hk;obtain Y:=aa O.2;obtain G:=aa Y.2;obtain J:=aa G.2;exact CD O.1 Y.1 G.1 (B8 J.1) (B8 J.2) F R hr h λF R Z h=>I G.1 (B8 J.1) F R hr Z h
theorem GX{op:BOp}(O:SE L d a)(Y:SE L d b):SE L d (.bin op a b):=by intro env x loc H s A Q hc F R hr h;refine tX hc λl o r p hk=>?_;obtain hk:=aa hk;have J:=aa hk.2;obtain rfl:=B8 hk.1;refine wpAny_BinOp (bk (O J.1 F R hr h) λv H1 c s1 Z r1 B=>?_);refine bk (Y J.2 (F.estep B) B.st.rel hr Z) λu H2 c2 s2 J r2 G=>?_;exact B6 (ND ((F.estep B).estep G) G.st.rel op J (r1.keep G.st.tup) r2) (λ_ _ h=>u3 (B.trans G) h) λ_ _ e=>e
theorem Ab(C:aO L.toSx){op:COp}(Y:SE L d a)(Z:SE L d b){l r:Expr}{H:AH}{A:Around}(ha:aX env.scope.names a l=true)(hb:aX env.scope.names b r=true)(F:ae L env loc H s.heap)(R:aF L H s.heap)(hr:Room A d){Q:Bool->AH->Prop} (h:ba L.toSx d a loc H λv H1=>ba L.toSx d b loc H1 λw H2=>eZ H2 op v w λt=>Q t H2) {P:a9} (k:∀t H2 G,Q t H2->aj L env H H2 s G->P (.bool t) G) : a8 L A (eval l env) (λx O=>a8 L A (eval r env) (λy G=>a8 L A (compareOp (Ip op) x y) P aI G) aI O) aI s :=
 bk (Y ha F R hr h) λv H1 c O h1 r1 J=>bk (Z hb (F.estep J) J.st.rel hr h1) λu H2 c2 G h2 r2 B =>
  uq C ((F.estep J).estep B) B.st.rel hr op h2 (r1.keep B.st.tup) r2 λt j q=>k t H2 _ q ((J.trans B).trans (aj.toks B.st.rel j))
theorem DE(C:aO L.toSx){op:COp}(G:SE L d a)(J:SE L d b):SE L d (.cmp1 op a b):=by intro env x loc H s A Q hc F R hr h;refine ee hc λl os rs p hk=>?_;refine fv hk λo hk=>fv hk λr hk=>?_;obtain hk:=aa hk;obtain B:=aa hk.2;obtain rfl:=B8 hk.1;exact wpAny_Compare1 (Ab C G J B.1 B.2 F R hr h λt H2 O q S=>(bR _ H2 q (s8 _) S)) (fM (gG B.2))
theorem DR(C:aO L.toSx){op:COp}(G:SE L d a)(J:SE L d b):ST L d (.cmp1 op a b):=by intro env x loc H s A Q hc F R hr h;refine ee hc λl os rs p hk=>?_;refine fv hk λo hk=>fv hk λr hk=>?_;obtain hk:=aa hk;obtain B:=aa hk.2;obtain rfl:=B8 hk.1;exact wpAny_isTrue_Compare1 (Ab C G J B.1 B.2 F R hr h λt H2 O q S=>P8 (af H2 q S)) (fM (gG B.2))
theorem DF(C:aO L.toSx){o1 o2:COp}{c:ME}(Ia:SE L d a)(Ib:SE L d b)(Ic:SE L d c):SE L d (.cmp2 a o1 b o2 c):=by
 intro env x loc H s A Q hc F R hr h;refine ee hc λl os rs p hk=>gU hk λp1 p2 hk=>gU hk λr1 r2 hk=>?_;obtain k1:=aa hk;obtain k2:=aa k1.2;have k3:=aa k2.2;obtain k4:=aa k3.2;obtain rfl:=B8 k1.1;obtain rfl:=B8 k2.1;refine Compare_chain (bk (Ia k3.1 F R hr h) λv H1 c1 s1 h1 q1 Y=>?_) (fM (gG k4.2));refine chain_link (bk (Ib k4.1 (F.estep Y) Y.st.rel hr h1) λu H2 c2 s2 h2 q2 B=>?_);have Z:=(F.estep Y).estep B;refine uq C Z B.st.rel hr o1 h2 (q1.keep B.st.tup) q2 λt k q=>P8 ?_;obtain J:aj L env H2 H2 s2 { s2 with toks:=k }:=aj.toks B.st.rel k;obtain G:=(Y.trans B).trans J;rcases t with _|_
 .exact u3 G (v8 J.st.rel q (s8 _))
 .exact chain_last (bk (Ic k4.2 (Z.estep J) J.st.rel hr q) λw H4 c4 s4 h4 q4 O =>
   uq C ((Z.estep J).estep O) O.st.rel hr o2 h4 (q2.keep O.st.tup) q4 λt k q=>u3 (G.trans O) (u9 O.st.rel q (s8 _)))
theorem DS(C:aO L.toSx){o1 o2:COp}{c:ME}(Ia:SE L d a)(Ib:SE L d b)(Ic:SE L d c):ST L d (.cmp2 a o1 b o2 c):=by
 intro env x loc H s A Q hc F R hr h;refine ee hc λl os rs p hk=>gU hk λp1 p2 hk=>gU hk λr1 r2 hk=>?_;obtain k1:=aa hk;obtain k2:=aa k1.2;have k3:=aa k2.2;obtain k4:=aa k3.2;obtain rfl:=B8 k1.1;obtain rfl:=B8 k2.1;refine isTrue_chain (bk (Ia k3.1 F R hr h) λv H1 c1 s1 h1 q1 O=>?_) (fM (gG k4.2));refine test_link (bk (Ib k4.1 (F.estep O) O.st.rel hr h1) λu H2 c2 s2 h2 q2 B=>?_);have Z:=(F.estep O).estep B;refine uq C Z B.st.rel hr o1 h2 (q1.keep B.st.tup) q2 λt k q=>P8 ?_;have Y:aj L env H2 H2 s2 { s2 with toks:=k }:=aj.toks B.st.rel k;have G:=(O.trans B).trans Y;rcases t with _|_
 .exact(af H2 q G)
 .exact test_last (bk (Ic k4.2 (Z.estep Y) Y.st.rel hr q) λw H4 c4 s4 h4 q4 J =>
   uq C ((Z.estep Y).estep J) J.st.rel hr o2 h4 (q2.keep J.st.tup) q4 λt k q=>P8 (af H4 q ((G.trans J).trans (aj.toks J.st.rel k))))
theorem qY(J:SE L d a){x:Expr}{H:AH}{A:Around}(hc:aX env.scope.names a x=true)(F:ae L env loc H s.heap)(R:aF L H s.heap)(hr:Room A d){Q:Bool->AH->Prop}(h:ba L.toSx d a loc H λv H1=>∃t,v=.bool t/\Q t H1) {P:Value->Bool->Shared->Prop} (k:∀t H1 B,Q t H1->aj L env H H1 s B->P (.bool t) t B):a8 L A (eval x env) (λc B=>a8 L A (truthy c) (P c) aI B) aI s :=bk (J hc F R hr h) λv H1 c B G Y O=>by obtain⟨t,rfl,G⟩:=G;rw[Y.bool_inv];exact P8 (k t H1 B G O)
theorem DC(O:SE L d a)(Y:SE L d b):SE L d (.and2 a b):=by
 intro env x loc H s A Q hc F R hr h;refine eR hc λo xs p hk=>gU hk λy z hk=>?_;obtain hk:=aa hk;have J:=aa hk.2;obtain rfl:=B8 hk.1;refine wpAny_And2 (qY O J.1 F R hr (Q:=λt H1=>if t=true then ba L.toSx d b loc H1 Q else Q (.bool false) H1) h λt H1 Z G B=>?_);rcases t with _|_
 .exact u3 B (v8 B.st.rel G (s8 _))
 .exact B6 (Y J.2 (F.estep B) B.st.rel hr G) (λ_ _ h=>u3 B h) λ_ _ e=>e
theorem Hi(O:SE L d a)(Y:SE L d b):SE L d (.or2 a b):=by
 intro env x loc H s A Q hc F R hr h;refine eR hc λo xs p hk=>gU hk λy z hk=>?_;obtain hk:=aa hk;have J:=aa hk.2;obtain rfl:=B8 hk.1;refine wpAny_Or2 (qY O J.1 F R hr (Q:=λt H1=>if t=true then Q (.bool true) H1 else ba L.toSx d b loc H1 Q) h λt H1 Z G B=>?_);cases t with
 |true=>exact u3 B (v8 B.st.rel G (s8 _))
 |false=>exact B6 (Y J.2 (F.estep B) B.st.rel hr G) (λ_ _ h=>u3 B h) λ_ _ e=>e
theorem DP(Y:ST L d a)(Z:ST L d b):ST L d (.and2 a b):=by
 intro env x loc H s A Q hc F R hr h;refine eR hc λo xs p hk=>gU hk λy z hk=>?_;obtain hk:=aa hk;have B:=aa hk.2;obtain rfl:=B8 hk.1;refine wpAny_isTrue_BoolOp (wpAny_allTrue_And_cons (B6 (Y B.1 F R hr h) (λt s1 J=>?_) λ_ _ e=>e));obtain⟨H1,J,G⟩:=J;rcases t with _|_
 .exact(af H1 J G)
 .refine wpAny_allTrue_And_cons (B6 (Z B.2 (F.estep G) G.st.rel hr J) (λt s2 B=>?_) λ_ _ e=>e);refine ah B λH2 B O=>?_;rcases t with _|_
  .exact(af H2 B (G.trans O))
  .exact wpAny_allTrue_And_nil (af H2 B (G.trans O))
theorem Hq(Y:ST L d a)(Z:ST L d b):ST L d (.or2 a b):=by
 intro env x loc H s A Q hc F R hr h;refine eR hc λo xs p hk=>gU hk λy z hk=>?_;obtain hk:=aa hk;have B:=aa hk.2;obtain rfl:=B8 hk.1;refine wpAny_isTrue_BoolOp (wpAny_allTrue_Or_cons (B6 (Y B.1 F R hr h) (λt s1 J=>?_) λ_ _ e=>e));obtain⟨H1,J,G⟩:=J;cases t with
 |true=>exact(af H1 J G)
 |false =>
  refine wpAny_allTrue_Or_cons (B6 (Z B.2 (F.estep G) G.st.rel hr J) (λt s2 B=>?_) λ_ _ e=>e);refine ah B λH2 B O=>?_;cases t with
  |true=>exact⟨H2,B,G.trans O⟩
  |false=>exact wpAny_allTrue_Or_nil (af H2 B (G.trans O))
theorem DH(J:SE L d a):SE L d (.not1 a):=by intro env x loc H s A Q hc F R hr h;refine gd hc λo y p hk=>?_;obtain hk:=aa hk;obtain rfl:=B8 hk.1;refine wpAny_UnaryOp (bk (J hk.2 F R hr h) λv H1 c Y B O G=>?_);obtain⟨t,rfl,B⟩:=B;rw[O.bool_inv];exact not_value (P8 (u3 G (v8 G.st.rel B (s8 _))))
theorem DU(B:ST L d a):ST L d (.not1 a):=by intro env x loc H s A Q hc F R hr h;refine gd hc λo y p hk=>?_;obtain hk:=aa hk;obtain rfl:=B8 hk.1;exact wpAny_isTrue_Not (B hk.2 F R hr h)
theorem He{c:ME}(Z:ST L d c)(O:SE L d a)(Y:SE L d b):SE L d (.ite c a b):=by
 intro env x loc H s A Q hc F R hr h;refine tY hc λt y z p hk=>?_;obtain hk:=aa hk;obtain J:=aa hk.2;refine wpAny_IfExp (B6 (Z hk.1 F R hr h) (λt s1 G=>?_) λ_ _ e=>e);refine ah G λH1 G B=>?_;cases t with
 |true=>exact B6 (O J.1 (F.estep B) B.st.rel hr G) (λ_ _ h=>u3 B h) λ_ _ e=>e
 |false=>exact B6 (Y J.2 (F.estep B) B.st.rel hr G) (λ_ _ h=>u3 B h) λ_ _ e=>e
theorem Hb(C:aO L.toSx){i:ME}(J:SE L d a)(O:SE L d i):SE L d (.idx a i):=by
 intro env x loc H s A Q hc F R hr h;refine eH hc λo y p hk=>?_;obtain hk:=aa hk;exact Subscript_ (bk (J hk.1 F R hr h) λv H1 c s1 Y r1 B=>bk (O hk.2 (F.estep B) B.st.rel hr Y) λu H2 c2 s2 Z r2 G =>
  B6 (we C ((F.estep B).estep G) G.st.rel hr Z (r1.keep G.st.tup) r2) (λ_ _ h=>u3 (B.trans G) h) λ_ _ e=>e)
def aj.pushed{H:AH}(F:ae L env loc H s.heap)(R:aF L H s.heap)(ob:Obj)(t:Nat):aj L env H H s { s with heap:=s.heap.push ob,toks:=t } :=(t9 (s':={ s with heap:=s.heap.push ob,toks:=t }) R rfl rfl λb o e=>z5 _ e).toE F.lH
theorem Hj(C:aO L.toSx){lo hi:Option Nat}(Ia:SE L d a):SE L d (.slc a lo hi):=by intro env x loc H s A Q hc F R hr h;refine eH hc λo y p hk=>uc hk λlw up st q hk=>?_;obtain hk:=aa hk;obtain Z:=aa hk.2;have h3:=aa Z.2;obtain rfl:=Option.isNone_iff_eq_none.mp hk.1;refine Subscript_ (bk (Ia Z.1 F R hr h) λv H1 c O h1 r1 G=>wpAny_Slice (xG h3.1 λlc t1 bl=>xG h3.2 λJ t2 bh=>?_));rw[evalPart_none];obtain Y:=F.estep G;obtain B:aj L env H1 H1 O { O with heap:=O.heap.push { cls:=.type "slice",data:=.fields #[lc,J,.none] },toks:=t2 }:=aj.pushed Y G.st.rel _ _;exact v9 (B6 (wf C (Y.estep B) B.st.rel h1 (r1.keep B.st.tup) (Heap.IsSliceOf.new _ _ _ _) bl bh) (λ_ _ h=>u3 (G.trans B) h) λ_ _ e=>e)
theorem DD(C:aO L.toSx){f:String}(J:SE L d a):SE L d (.attr a f):=by
 intro env x loc H s A Q hc F R hr h;refine eG hc λo n p hk=>?_;obtain hk:=aa hk;obtain B:=aa hk.2;obtain rfl:=J3 hk.1;show wpAny _ _ (do let o' <- attributeBase o (Str.ofString f) env (eval o env);standAt p.atName;let r <- holding [o'] (getAttr o' (Str.ofString f) true);letTemporaryGo o o' r;pure r) _ _ _;rw[gS B.1];exact r5 (bk (J B.2 F R hr h) λv H1 c Z O Y G =>
  r5 (QX (r5 (G6 (B6 (GP C (F.estep G) G.st.rel O Y) (λr s2 B=>r5 (wpAny_letTemporaryGo (v9 (u3 G B)))) λ_ _ e=>e)))))
theorem xM(C:aO L.toSx){f:String}(I:uU L d args):SE L d (.call f args):=by intro env x loc H s A Q hc F R hr h;refine cL hc λg as ks p hk=>bf hk λid ip hk=>?_;obtain hk:=aa hk;obtain B:=aa hk.2;rw[J2.mp hk.1];exact zX C B.1 B.2 I F R hr h
theorem Hh(C:aO L.toSx){c:String}(I:uU L d args):SE L d (.new c args):=by intro env x loc H s A Q hc F R hr h;refine cL hc λg as ks p hk=>bf hk λid ip hk=>?_;obtain hk:=aa hk;obtain B:=aa hk.2;rw[J2.mp hk.1];exact CE C B.1 B.2 I F R hr h
theorem xN(C:aO L.toSx){o:ME}{m:String}(Z:SE L d o)(I:uU L d args):SE L d (.meth o m args):=by intro env x loc H s A Q hc F R hr h;refine cL hc λg as ks p hk=>eG hk λy n ap hk=>?_;obtain hk:=aa hk;obtain B:=aa hk.2;obtain G:=aa B.2;obtain J:=aa G.2;obtain O:=aa J.2;obtain Y:=aa O.2;rw[J2.mp hk.1,J3 B.1];exact zY C G.1 O.1 (B8 Y.1) Y.2 J.1 Z I F R hr h
theorem DQ(C:aO L.toSx){f:String}(I:uU L d args):ST L d (.call f args):=by intro env x loc H s A Q hc F R hr h;have hc2:=hc;revert hc2;refine cL hc λg as ks p hk hc=>?_;exact wpAny_isTrue_value (si (xM C I hc F R hr h) (λv H' q=>q) λb H' s' q S=>(af H' q S))
theorem DT(C:aO L.toSx){o:ME}{m:String}(B:SE L d o)(I:uU L d args):ST L d (.meth o m args):=by intro env x loc H s A Q hc F R hr h;have hc2:=hc;revert hc2;refine cL hc λg as ks p hk hc=>?_;exact wpAny_isTrue_value (si (xN C B I hc F R hr h) (λv H' q=>q) λb H' s' q S=>(af H' q S))
theorem DI(PO:∀p,aU L p){p:Prim}(J:SE L d a):SE L d (.prim p a):=by
 intro env x loc H s A Q hc F R hr h;refine cL hc λg as ks pos hk=>bf hk λid ip hk=>fv hk λy hk=>?_;obtain hk:=aa hk;obtain G:=aa hk.2;rw[J2.mp hk.1];have B:=G.2;rcases e:rV env.scope.names p y with _|z
 .rw[e]at B;exact ai B
 .rw[e]at B;exact PO p F R hr G.1 e (λrest=>cK B rest env) (J B F R hr h)
theorem DJ:uU L d .nil:=by
 intro env as pos loc H s A Q hc F R hr h;cases as with
 |cons _ _=>exact ai hc
 |nil=>exact v9 ⟨(bR ([]) H h .nil (aj.refl R)),rfl⟩
theorem BB{e:ME}{r:MEs}(J:SE L d e)(O:uU L d r):uU L d (.cons e r):=by
 intro env as pos loc H s A Q hc F R hr h;rcases as with _|⟨x,xs⟩
 .exact ai hc
 .obtain hc:=aa hc;rw[ey hc.1];refine RA (bk (J hc.1 F R hr h) λv H1 c s1 Y r1 B=>B6 (O (pos:=pos) hc.2 (F.estep B) B.st.rel hr Y) (λcvs s2 Z=>?_) λ_ _ e=>e);refine cf Z λeJ hl=>?_;refine bM eJ λvs H2 q r2 G=>?_;exact⟨(bR (v::vs) H2 q (.cons (r1.keep G.st.tup) r2) (B.trans G)),C3 (· + 1) hl⟩
theorem Hn:nF L d .nil:=by
 intro env keys B p loc H s A kk Q hc hl F R hr G h;cases B with
 |cons _ _=>exact ai hc
 |nil=>cases keys with
  |cons _ _=>exact Nat.noConfusion hl
  |nil=>cases kk with
   |cons _ _=>exact G.elim
   |nil=>exact evalPairs_nil (kB ([]) H h .nil .nil (aj.refl R))
theorem DL{e:ME}{r:MEs}(Y:SE L d e)(Z:nF L d r):nF L d (.cons e r):=by
 intro env keys B p loc H s A kk Q hc hl F R hr G h;rcases B with _|⟨x,B⟩
 .exact ai hc
 .rcases keys with _|⟨o,keys⟩
  .exact Nat.noConfusion hl
  .rcases kk with _|⟨k,kk⟩
   .cases o <;> exact G.elim
   .rcases o with _|y
    .exact G.elim
    .obtain hc:=aa hc;refine pairTrees_cons_walk (G.1 F λc t rk=>?_);obtain S0:aj L env H H s { s with toks:=t }:=aj.toks R t;refine bk (Y hc.1 (F.estep S0) S0.st.rel hr h) λv H1 c1 s1 h1 r1 J=>B6 (Z (p:=p) hc.2 (P0 hl) ((F.estep S0).estep J) J.st.rel hr G.2 h1) (λps s2 h2=>?_) λ_ _ e=>e;refine sJ h2 λvv H2 q r2 r3 O=>?_;exact(kB (v::vv) H2 q (.cons ((rk.keep J.st.tup).keep O.st.tup) r2) (.cons (r1.keep O.st.tup) r3) ((S0.trans J).trans O))
theorem Hr{y:String}:ST L d (.var y):=by intro env x loc H s A Q hc F R hr h;have hc2:=hc;revert hc2;refine bf hc λid p hk hc=>?_;refine ah h λt B q=>?_;exact wpAny_isTrue_value (si (Bz (Q:=λv H2=>∃t,v=.bool t/\Q t H2) hc F R hr (af _ B (af t rfl q))) (λv H' q=>q) λb H' s' q S=>(af H' q S))
end
section
variable{t:Tgt}{g:Gens}{it:MIt}
variable{d:Nat}
def pC{H:AH}{K:pX->List V->AH->Prop}{x:Expr}{A:Around}(I:Cg L d (Cc g)){cl:Bool}(G:fC cl nm t tgt=true)(B:lX env.scope.names (Cc g) x=true)(F:ae L env loc H s.heap)(R:aF L H s.heap)(hr:Room A d)(h:lR L.toSx d (Cc g) loc H K) : a8 L A (eval x env) (λJ ac=>a8 L A (pyIter J) (ItPost L env A tgt H s K) aI ac) aI s:=I B (mI G) F R hr h
noncomputable def CK.acc:CK->Sem Value
 | .list _=>newList []
abbrev mT(L:Cx)(env:Env)(A:Around)(H:AH)(s:Shared)(Q:b8)(F:Option (Value->Sem Unit))(P:a9):Prop:=∀D Γ H3 B,Q (.ref D) H3->ax L (λb=>b=env.locals\/b=Γ) H H3 s B->(∀m,s.heap.Ns env.locals m->B.heap.Ns env.locals m)->s.heap.get? Γ=none->env.locals≠Γ->H3 Γ=none->(∃m,B.heap.Ns Γ m)->compPost (model L.prog L.w) A aI F P (.ref D) Γ (.ok .next) B
def SU(L:Cx)(d:Nat)(e:ME):Prop:=∀{env:Env}{ck:CK}{gens:List Comprehension}{sc:Scope}{p:Pos}{loc:Loc}{H:AH}{s:Shared}{A:Around}{Q:b8}{B:Option (Value->Sem Unit)}{P:a9},aX env.scope.names e (ck.ex gens sc p)=true->ae L env loc H s.heap->aF L H s.heap->Room A d->ba L.toSx d e loc H Q->mT L env A H s Q B P ->
  a8 L A (comprehension (ck.ex gens sc p) sc env (firstIterPos gens p) ck.acc (firstAsync gens) (firstIter gens env) B) P aI s
theorem CG{ck:CK}{p:Pos}{H:AH}{A:Around}{x₀:AO}{ob:Obj}{Q:b8}{Y:Option (Value->Sem Unit)}{P:a9}{emit:Addr->Loc->AH->(AH->Prop)->Prop}(Ig:SG L d g)(Ii:Cg L d (Cc g))(a0:nj env.scope.names sc (fk g)=true) (hg:kI env.scope.names (eD sc.names env.scope.names) true g gens=true) (F:ae L env loc H s.heap) (R:aF L H s.heap) (hr:Room A d) (av:ob.cls≠.type "tuple") (ar:ob.isFreed=false) (O:∀h,ORel L h ob x₀) (G:∀{s:Shared}{P:a9},P (.ref s.heap.objs.size) { s with heap:=s.heap.push ob }->a8 L A ck.acc P aI s) (h:HI L.toSx d g loc H (λH1 K=>fresh H1 (λv H2=>∃c,v=.ref c/\K c H2) x₀) emit λc H'=>Q (.ref c) H') (an:∀{B:Env}{D:Addr},B.scope.names=eD sc.names env.scope.names->uX L A B D ck (emit D)) (hP:mT L env A H s Q Y P) : a8 L A (comprehension (ck.ex gens sc p) sc env (firstIterPos gens p) ck.acc (firstAsync gens) (firstIter gens env) Y) P aI s:=by obtain h:=Ed h;refine sJ (lW hg) λg₁ gs aW ha bS J=>?_;subst aW;obtain⟨t,ad⟩:=bS;obtain⟨tg,a2,a1,as⟩:=g₁;cases(ha:as=0);refine Ac (x₀:=x₀) (ob:=ob) (nm:=eD sc.names env.scope.names) (g:=g) (g₁:=⟨tg,a2,a1,0⟩) (gs:=gs) (wl a0) rfl rfl (lY J) hr F R av ar O G (emit:=emit) (K:=λD H3=>Q (.ref D) H3) ?_ Ig hg an hP;refine B6 (pC Ii ad J F R hr h) (λxv s1 h1=>B6 h1 (λc s2 h2=>h2.mono λsrc vs H1 hk D hD=>?_) λ_ _ e=>e) λ_ _ e=>e;refine ah (hk D hD) λc' Z hk=>?_;injection Z with Z;subst Z;exact hk
theorem xQ(C:aO L.toSx){elt:ME}(Ie:SE L d elt)(Ig:SG L d g)(Ii:Cg L d (Cc g)):SU L d (.comp elt g):=by
 intro env ck gens sc p loc H s A Q use P hc F R hr h B;cases ck with
 |list y =>obtain h1:=aa hc;obtain G:=aa h1.2;obtain O:=aa G.2;refine CG (x₀:=.list []) (ob:=cE #[] 0) Ig Ii h1.1 O.1 F R hr (λe=>nomatch e) rfl (λh=>(eU (#[]) 0 rfl .nil)) (λB=>wpAny_newList B) h (λ{cenv D} Z=>?_) B;intro l' H1 s1 k Pst F1 R1 Y B;refine bk (Ie (Z▸G.1) F1 R1 hr Y) λv H2 cv s2 G r2 J=>?_;refine bE G λvs hD hz hk=>?_;refine B6 (xI C (F1.estep J) J.st.rel hr (Q:=λr H3=>r=.none/\k H3) (m:="append") (args:=[v]) (bR D vs rfl hD (.inl ⟨rfl,(iw v rfl hz rfl hk)⟩)) (t7 _) (VRs.one r2)) (λc s3 O=>?_) λ_ _ e=>e;refine bM O λ_ H3 hk _ S3=>?_;exact B s3 H3 hk.2 (J.trans S3)
theorem BM{H:AH}{A:Around}{Q:b8}(R:aF L H s.heap):mT L env A H s Q none (EPost L env H s Q):=by intro D Γ H3 s5 O G B Y Z J hm;obtain⟨m,F⟩:=hm;exact(af m F (λh' sb=>(bR (.ref D) H3 O (t7 _) (aj.leave R G B Y Z J F sb))))
theorem DG{elt:ME}(U:SU L d (.comp elt g)):SE L d (.comp elt g):=by intro env x loc H s A Q hc F R hr h;have hc2:=hc;revert hc2;exact iR hc λy gens sc p hk hc=>U (ck:=.list y) hc F R hr h (BM R)
theorem BC{e:ME}(I:SE L d e):Cg L d (.exp e):=by intro env x tgt loc H s A K hc ht F R hr h;exact bk (I (aa hc).2 F R hr h) λv H1 c O G J B=>B6 (GS hr.1 (F.estep B) B.st.rel ht G J) (λ_ _ h=>ItPost.after B h) λ_ _ e=>e
theorem BD(C:aO L.toSx){e:ME}(I:SE L d e):Cg L d (.rng e):=by
 intro env x tgt loc H s A K hc ht F R hr h;replace hc:(match jW env.scope.names "range" x with|some y=>aX env.scope.names e y|none=>false)=true:=hc;rcases q:jW env.scope.names "range" x with _|y
 .rw[q]at hc;exact ai hc
 .rw[q]at hc;refine nC (jX q) λid ip p cI O=>?_;subst cI;obtain O:=aa O;obtain g1:=aa O.1;obtain rfl:=J3 g1.1;refine pD C.ns λmg mb G B _ _ hb=>?_;refine cf (hb ("range",.type "range") (B0 (i:=10) rfl)) λhm hv=>?_;refine Call_ (jq F R G B g1.2 O.2 hm hv ?_);refine PyProof.Rows.callWith_type1 (e:=y) (rest:=[]) ?_ (cK hc [] env);rw[ey hc];refine RA (bk (I hc F R hr h) λv H1 c J h1 r1 Q=>Calls.spliced_nil ?_);refine sH h1 λn cW h0 hn q=>?_;subst cW;apply r1.int_el;intro t;refine call_range_1 ?_;have Z:=F.estep Q;obtain Y:aj L env H1 H1 J { J with heap:=J.heap.push { cls:=.type "range",data:=.fields #[.int 0 J.toks,.int n t,.int 1 (J.toks+1)] },toks:=J.toks+1+1 }:=aj.pushed Z Q.st.rel _ _;exact B6 (sg hr.1 (Z.estep Y) Y.st.rel ht (IsRange.new _ _ _ _ _ _ _) h0 hn q) (λ_ _ h=>ItPost.after (Q.trans Y) h) λ_ _ e=>e
def SO(L:Cx)(d:Nat)(c:Option ME):Prop:=match c with|none=>True|some e=>ST L d e
theorem Du{outer:bj}{f:Bool}{B:Option ME}{depth:Nat}{g₀:Comprehension}(hc:kI outer nm f (.one t it B) (gens.drop depth)=true)(G:gens[depth]?=some g₀):fC false nm t g₀.target=true/\FR nm B g₀.ifs=true/\g₀.is_async=0/\gens[depth+1]?=none:=by refine ah (mY hc) λg₁ e h=>?_;refine cf (ls e) λe1 e2=>?_;obtain rfl:=sm G e1;obtain h:=aa h;obtain F:=aa (aa h.2).2;exact(qZ h.1 F.1 (B8 F.2) (Re (List.drop_eq_nil_iff.mp e2)))
theorem AP{outer:bj}{f:Bool}{r:Gens}{depth:Nat}{g₀:Comprehension}(hc:kI outer nm f (.more t it r) (gens.drop depth)=true)(G:gens[depth]?=some g₀):fC false nm t g₀.target=true/\g₀.ifs=[]/\g₀.is_async=0/\kI outer nm false r (gens.drop (depth+1))=true:=by
 rcases e:gens.drop depth with _|⟨g₁,gs⟩
 .rw[e]at hc;exact ai hc
 .rw[e]at hc;refine cf (ls e) λe1 e2=>?_;obtain rfl:=sm G e1;obtain h:=aa hc;obtain B:=aa (aa h.2).2;obtain F:=aa B.2;exact(qZ h.1 (J2.mp B.1) (B8 F.1) (e2▸F.2))
theorem Gh{B:Option ME}{l:List Expr}(h:FR nm B l=true):l.length<=1:=by
 rcases B with _|c
 .rw[J2.mp h];exact E1 _
 .refine fv (k:=λx=>aX nm c x) h λx _=>A8 _
theorem Hl{B:Option ME}(Io:SO L d B):SG L d (.one t it B):=by
 intro outer fst env ck gens sc pos depth c I A emit W src vs St g₀ l H H₀ s s₀ K R own₀ Lo oLo an hLo hLH hLn hLW hc hg hr ad It F hW hW0 S0 st h hR;refine Ee (Du hc hg) λhct G ha hg'=>?_;refine Bv ck (λJ O=>match g₀.ifs with
   | []=>sL (model L.prog L.w) A env c aI ck J O
   |x::_=>a8 L A (isTrue x env (eval x env)) (λok Q=>if ok=true then sL (model L.prog L.w) A env c aI ck J Q else J Q) aI O) hr.1 (λh=>zo ck hg hg' ha (Gh G) h) It hct
  (lb:=l.drop (dU t)) (stepW:=λl' H' k=>ya L.toSx d B l' H' λok H''=>if ok=true then emit l' H'' k else k H'') ?_ an hLo hLH hLn hLW F hW hW0 S0 st h hR
 intro x l' H1 s1 k J hb F1 R1 ar hP;have Y:∀(s':Shared)(H2:AH),k H2->aj L env H1 H2 s1 s'->J s':=λs' H2 hk S=>hP s' H2 hk ((F1.estep S).mono (qm hb λ_ h=>h)) S.st;revert G;rcases B with _|Z
 .intro G;rw[J2.mp G];exact ad F1 R1 ar Y
 .intro G;refine fv (k:=λx=>aX env.scope.names Z x) G λy hy=>?_;refine B6 (Io hy F1 R1 hr ar) (λok s2 h2=>?_) λ_ _ e=>e;refine ah h2 λH2 h2 S2=>?_;cases ok with
  |true=>exact ad (F1.estep S2) S2.st.rel h2 λs' H3 hk S=>Y s' H3 hk (S2.trans S)
  |false=>exact Y s2 H2 h2 S2
theorem DK(C:aO L.toSx){r:Gens}(Ir:SG L d r)(Ii:Cg L d (Cc r)):SG L d (.more t it r):=by
 intro outer fst env ck gens sc pos depth c I A emit W src vs St g₀ l H H₀ s s₀ K R own₀ Lo oLo av hLo hLH hLn hLW hc hg hr hem It F hW hW0 S0 st h hR;refine Ee (AP hc hg) λhct as ha B=>?_;refine sJ (lW B) λg' gs' eg an zq6 J=>?_;obtain⟨t',ar⟩:=zq6;have O:=(ls eg).1;refine Bv ck (λY a1=>a8 L A (eval g'.iter env) (λx a2=>a8 L A (pyIter x) (λit' a3 =>
   a8 L A (runOwn (.compStart (ck.ex gens sc pos) (depth+1) it' (.ref c) env) env) (λ_ a4=>Y a4) aI a3) aI a2) aI a1) hr.1 (λh=>zp ck hg O ha an as (lY J) h) It hct
  (lb:=l.drop (dU t++fk r)) (stepW:=λl' H' k=>NY L.toSx d r l' H' emit k) ?_ av hLo hLH hLn hLW F hW hW0 S0 st h hR
 intro x l' H1 s1 k Y hb F1 R1 hst hP;refine cG C.ns λ_ _ zq7 _=>?_;refine nC zq7 λoG _ _ G _=>?_;refine B6 (pC Ii ar J F1 R1 hr (HJ hst)) (λxv s4 h4=>B6 h4 (λc' s5 h5=>?_) λ_ _ e=>e) λ_ _ e=>e;obtain⟨I',W',vs',src',St',H2,q,rfl,a0,Q,ad,hn',hs',S⟩:=h5;refine wpAny_runOwn (mG ck O an (Q.self 0 s5 a0) ?_);have Z:H2 mainGlobals=none:=by
  rcases q:H2 mainGlobals with _|y
  .rfl
  .exact nn (S.st.rel.fresh _ _ q) G
 exact Ir (l:=l') (own₀:=λb=>b=env.locals) rfl (S.st.rel.base _ _ G) Z (λz=>nn F1.lB (z▸G)) (λz=>nn (ad.b _ z) G) B O hr hem Q ((F1.estep S).mono λx u e=>by unfold Loc.drop at e;split at e;exact ns e;exact e) ad hn' S.st a0 q λs' H' hk F' S' _ =>
  hP s' H' hk (F'.mono (pJ (qm hb λx hx=>D9.mpr (.inl hx)))) S'
noncomputable def HM:ME->Bool | .comp _ _=>true|_=>false
structure SB(L:Cx)(d:Nat)(e:ME):Prop where
 E:SE L d e
 T:ST L d e
 U:HM e=true->SU L d e
theorem lA{e:ME}(h:∀{loc:Loc}{H:AH}{Q:Bool->AH->Prop},sD L.toSx d e loc H Q->False):ST L d e:=by intro env x loc H s A Q hc F R hr hw;exact(h hw).elim
theorem GN(C:aO L.toSx)(PO:∀p,aU L p)(e:ME):SB L d e :=
 ME.rec (motive_1:=SB L d) (motive_2:=λes=>uU L d es/\nF L d es) (motive_3:=λg=>SG L d g/\Cg L d (Cc g)) (motive_4:=Cg L d) (motive_5:=SO L d)
  (λ_=>⟨GY,lA id,ai⟩) (λ_=>⟨Hg,lA id,ai⟩) (λ_=>⟨Bz,Hr,ai⟩) (λ_ I=>⟨Hk I.1,lA id,ai⟩) (λ_ I=>⟨Hf I.1,lA id,ai⟩) (λ_ _ _ I=>⟨GZ I.2,lA id,ai⟩)
  (λ_ _ _ a b=>⟨GX a.E b.E,lA id,ai⟩) (λ_ _ _ a b=>⟨DE C a.E b.E,DR C a.E b.E,ai⟩) (λ_ _ _ _ _ a b c=>⟨DF C a.E b.E c.E,DS C a.E b.E c.E,ai⟩) (λ_ _ a b=>⟨DC a.E b.E,DP a.T b.T,ai⟩) (λ_ _ a b=>⟨Hi a.E b.E,Hq a.T b.T,ai⟩)
  (λ_ a=>⟨DH a.E,DU a.T,ai⟩) (λ_ _ _ c a b=>⟨He c.T a.E b.E,lA id,ai⟩) (λ_ _ a i=>⟨Hb C a.E i.E,lA id,ai⟩) (λ_ _ _ a=>⟨Hj C a.E,lA id,ai⟩) (λ_ _ a=>⟨DD C a.E,lA id,ai⟩) (λ_ _ e g=>⟨DG (xQ C e.E g.1 g.2),lA id,λ_=>xQ C e.E g.1 g.2⟩)
  (λ_ _ I=>⟨xM C I.1,DQ C I.1,ai⟩) (λ_ _ I=>⟨Hh C I.1,lA id,ai⟩) (λ_ _ _ o I=>⟨xN C o.E I.1,DT C o.E I.1,ai⟩) (λ_ _ a=>⟨DI PO a.E,lA id,ai⟩)
  ⟨DJ,Hn⟩ (λ_ _ e r=>⟨BB e.E r.1,DL e.E r.2⟩) (λ_ _ _ i c=>⟨Hl c,i⟩) (λ_ _ _ i r=>⟨DK C r.1 r.2,i⟩)
  (λ_ e=>BC e.E) (λ_ e=>BD C e.E) (λ_ _ _ _=>λhc=>ai hc) (λ_ _=>λhc=>ai hc) trivial (λ_ e=>e.T) e
def sE(C:aO L.toSx)(PO:∀p,aU L p)(e:ME):SE L d e:=(GN C PO e).E
def sT(C:aO L.toSx)(PO:∀p,aU L p)(e:ME):ST L d e:=(GN C PO e).T
theorem QK(C:aO L.toSx)(PO:∀p,aU L p)(it:MIt):Cg L d it:=by
 cases it with
 |exp e=>exact BC (sE C PO e)
 |rng e=>exact BD C (sE C PO e)
 |_=>exactλhc=>ai hc
end
section
variable{loc':Loc}{line:Nat}
def Qy(sa:SX)(h:Heap):Flow->Fl->Prop
 | .next,.next=>True
 | .ret c,.ret v=>VR sa h v c
 |_,_=>False
abbrev SPost(L:Cx)(env:Env)(H:AH)(s:Shared)(K:Fl->Loc->AH->Prop)(f:Flow)(s':Shared):Prop :=∃fl loc' H',K fl loc' H'/\Qy L.sa s'.heap f fl/\ae L env loc' H' s'.heap/\ax L (dO env) H H' s s'
section
variable{H:AH}{A:Around}{d:Nat}
def aj.own(S:aj L env H H' s s'):ax L (dO env) H H' s s':=S.st.weaken λb h=>.inl h
def SPost.after{H₀:AH}{f:Flow}(S:ax L (dO env) H₀ H s₀ s)(h:SPost L env H s K f s'):SPost L env H₀ s₀ K f s' :=
 let⟨fl,l,H',a,b,c,e⟩:=h;(pF fl l H' a b c (S.trans e))
theorem SPost.next(q:K .next loc' H')(F:ae L env loc' H' s'.heap)(S:ax L (dO env) H H' s s'):SPost L env H s K .next s':=(pF .next loc' H' q trivial F S)
def w5:=@SPost.next
theorem iY{t B:Expr}(h:oF B=true):swapsWithSole [t] B line env=pure false:=by cases B <;> first|rfl|exact ai h
theorem iA{e:ME}{x:Expr}(h:aX nm e x=true)(hc:HM e=false):oF x=true:=by unfold oF;rw[jd h];cases e <;> first|rfl|exact ai hc.symm
theorem wC{ck:CK}{p:Pos}:∃b,swapsWithSole [.Name id ip] (ck.ex gens sc p) line env=pure b:=by cases ck <;> exact⟨_,rfl⟩
theorem uG{ts:List Expr}{p:Pos}{B:Expr}(h:B.ctorIdx≠25):swappedStores [.Tuple ts k p] B env=pure none:=by cases B <;> first|rfl|exact absurd rfl h
theorem pU(ts es:List Expr)(k F:Nat)(p G:Pos)(env:Env)(B:es.all (constantsAlone 8)=false) : swappedStores [.Tuple ts k p] (.Tuple es F G) env=pure none\/∃line names,(ts.length=2\/ts.length=3)/\swappedStores [.Tuple ts k p] (.Tuple es F G) env=pure (some names) /\ names=ts.filterMap (λ| .Name id pos=>if env.kindOf id==some .local&&pos.line==line then some id else none|_=>none)/\names.length=ts.length/\names.eraseDups.length=names.length:=by
 unfold swappedStores;dsimp only;split
 .exact .inl rfl
 .rename_i O;split
  .exact .inl rfl
  .split
   .exact .inl rfl
   .rename_i Q;split
    .exact .inl rfl
    .rw[if_neg (by rw[B];simp)];obtain g:=Bool.or_eq_false_iff.mp (K0.mpr Q);obtain J:=(Bool.or_eq_false_iff.mp (Bool.or_eq_false_iff.mp (K0.mpr O)).1).1;exact .inr (re _ _ ((Bool.or_eq_true_iff.mp (Bool.not_inj (y:=true) J)).imp J3 J3) rfl rfl (bne_eq_false_iff_eq.mp g.1) (bne_eq_false_iff_eq.mp g.2))
def ue{c:Bool}(S:ax L (oN c env) H H' s s'):ax L (dO env) H H' s s':=S.weaken λb h=>mZ h
theorem GV(B:A.handled=none){ts:Tgts}{x:Expr}(hc:fC true env.scope.names (.tp ts) x=true){a:Addr}(F:ae L env loc H s.heap)(R:aF L H s.heap)(hl:H a=some (.list vs))(G:eX ts vs loc=some loc'){P:b6} (Z:pY L true env loc' H s P):a8 L A (assign x env (.ref a)) P aI s:=by refine bW hc λes n p hk=>?_;refine cG (ao R hl) λcvs n ho O=>?_;obtain m:=tr (env:=env) (jT hk);obtain hl:es.length=cvs.size:=(jR hk G).symm.trans (O.length.symm.trans J7);rw[assign_Tuple];refine r5 (QX ?_);unfold unpack;rw[m.1,m.2.1,m.2.2,hl];refine r5 (G6 (kun_itemsOf B (aN _ ho rfl (gE n rfl)) λh' J=>?_));obtain S0:ax L (oN true env) H H s { s with heap:=h' }:=w1 (t:=s.toks) R J;exact wg B ts es hk (s:={ s with heap:=h' }) (F.ext R J) S0.rel G (O.keep S0.tup) λs' Q Y=>Z s' Q (S0.trans Y)
theorem GU(G:A.handled=none){t:Tgt}{x:Expr}(hc:fC true env.scope.names t x=true){v:V}{c:Value}(F:ae L env loc H s.heap)(R:aF L H s.heap)(B:eW H t v loc=some loc')(O:VR L.sa s.heap v c){P:b6} (J:pY L true env loc' H s P):a8 L A (assign x env c) P aI s:=by
 rcases t with y|ts
 .exact uu G (.nm y) x hc F R B O J
 .cases v with
  |ref a =>
   apply O.ref_el;replace B:(match H a with|some (.list vs)=>eX ts vs loc|_=>none)=some loc':=B;rcases e:H a with _|o
   .rw[e]at B;exact kb B
   .cases o with
    |list vs=>rw[e]at B;exact GV G hc F R e B J
    |_=>rw[e]at B;exact kb B
  |tup vs=>exact uu G (.tp ts) x hc F R (v:=.tup vs) B O J
  |_=>exact kb B
theorem Br(l:Loc){y:String}(u v:V)(h:x≠y):(l.put x u).put y v=(l.put y v).put x u:=by
 funext z;unfold Loc.put;by_cases B:z=y
 .rw[if_pos B,if_pos B,if_neg λe=>h (e.symm.trans B)]
 .rw[if_neg B,if_neg B]
noncomputable def fy:List String->List V->Loc->Loc
 |x::xs,v::vs,l=>fy xs vs (l.put x v)
 |_,_,l=>l
theorem oQ{v:V}:∀{xs:List String}{vs:List V}{l:Loc},x∉xs->fy xs vs (l.put x v)=(fy xs vs l).put x v
 | [],_,_,_=>rfl
 |_::_,[],_,_=>rfl
 |y::ys,w::ws,l,h=>by show fy ys ws ((l.put x v).put y w)=(fy ys ws (l.put y w)).put x v;rw[Br l v w λe:x=y=>h (e▸y7)];exact oQ λz=>h (y9 _ z)
theorem mD{v:V}:∀{xs:List String}{vs:List V}{l:Loc},vs.length=xs.length->fy (xs++[x]) (vs++[v]) l=(fy xs vs l).put x v
 | [],[],_,_=>rfl
 |_::_,[],_,h=>Nat.noConfusion h
 | [],_::_,_,h=>Nat.noConfusion h
 |_::ys,_::ws,l,h=>mD (xs:=ys) (vs:=ws) (P0 h)
theorem oR:∀{xs:List String}{vs:List V}{l:Loc},xs.Nodup->vs.length=xs.length->fy xs.reverse vs.reverse l=fy xs vs l
 | [],[],_,_,_=>rfl
 |_::_,[],_,_,h=>nomatch h
 | [],_::_,_,_,h=>nomatch h
 |x::xs,v::vs,l,nd,h=>by obtain nd:=E8.mp nd;obtain h:=P0 h;rw[List.reverse_cons,List.reverse_cons,mD (by rw[List.length_reverse,List.length_reverse];exact h),oR nd.2 h];exact(oQ nd.1).symm
theorem VRs.snoc{sa:SX}{cs:List Value}{v:V}{c:Value}(r:VRs sa h vs cs)(q:VR sa h v c):VRs sa h (vs++[v]) (cs++[c]):=r.append (VRs.one q)
theorem VRs.reverse{sa:SX}:∀{vs:List V}{cs:List Value},VRs sa h vs cs->VRs sa h vs.reverse cs.reverse
 | [],cs,r=>by rw[r.nil_inv];exact .nil
 |v::vs,cs,r=>by refine bM r.cons_inv λc r' aW a b=>?_;subst aW;rw[List.reverse_cons,List.reverse_cons];exact b.reverse.snoc a
theorem xJ(Y:A.handled=none):∀{xs:List String}{vs:List V}{cs:List Value}{loc:Loc}{s:Shared}{P:b6},(∀x∈xs,IB true env.scope.names x=true)->VRs L.sa s.heap vs cs->vs.length=xs.length->ae L env loc H s.heap->aF L H s.heap->pY L true env (fy xs vs loc) H s P -> a8 L A (assignInOrder (xs.map λx=>bindName env (Str.ofString x)) cs) P aI s
 | [],[],cs,loc,s,P,_,r,_,F,R,G=>by rw[r.nil_inv];exact v9 (G s F (ax.refl R))
 |_::_,[],_,_,_,_,_,_,h,_,_,_=>nomatch h
 | [],_::_,_,_,_,_,_,_,h,_,_,_=>nomatch h
 |x::xs,v::vs,cs,loc,s,P,hs,r,h,F,R,G=>by refine bM r.cons_inv λc r' bS a b=>?_;subst bS;exact r5 (G6 (wpAny_bindName (xK F R (hs x y7) a λs1 J B=>xJ Y (λy Z=>hs y (y9 _ Z)) (b.keep B.tup) (P0 h) J B.rel λs2 O Q=>G s2 O (B.trans Q))))
noncomputable def jm(env:Env)(line:Nat):Expr->Option Str | .Name id pos=>if env.kindOf id==some .local&&pos.line==line then some id else none|_=>none
theorem tO:∀{ts:Tgts}{es:List Expr},nP true env.scope.names ts es=true->(es.filterMap (jm env line)).length=es.length -> ∃xs:List String,es.filterMap (jm env line)=xs.map Str.ofString/\(∀x∈xs,IB true env.scope.names x=true)/\∀{vs:List V}{l l':Loc},eX ts vs l=some l'->l'=fy xs vs l/\vs.length=xs.length
 | .nil,es,hc,hl=>by
  cases es with
  |cons _ _=>exact ai hc
  |nil =>
   refine(aN ([]) rfl (λ_ h=>absurd h A7) (λ{vs l l'} B=>?_));rcases vs with _|⟨_,_⟩
   .exact⟨(w4 B).symm,rfl⟩
   .exact kb B
 | .cons t ts,es,hc,hl=>by
  rcases es with _|⟨e,es⟩
  .exact ai hc
  .obtain hc:=aa hc;rw[Rw]at hl ⊢;obtain F:=List.length_filterMap_le (jm env line) es;cases t with
   |tp O =>revert hl;refine bW hc.1 λxs k p _ hl=>?_;exact absurd hl (G7 (Rr F))
   |nm x =>
    revert hl;refine bf hc.1 λid p hk hl=>?_;obtain hk:=aa hk;obtain rfl:=J3 hk.1;rcases q:(env.kindOf (Str.ofString x)==some .local&&p.line==line)with _|_
    .replace q:jm env line (.Name (Str.ofString x) p)=none:=if_neg (by rw[q];exact D0);rw[q]at hl;exact absurd hl (G7 (Rr F))
    .obtain q:jm env line (.Name (Str.ofString x) p)=some (Str.ofString x):=if_pos q;rw[q]at hl ⊢;refine bE (tO hc.2 (P0 hl)) λxs e1 e2 G=>?_;refine(aN (x::xs) (C3 (Str.ofString x::·) e1) (λy J=>(C0.mp J).elim (λe=>e▸hk.2) (e2 y)) (λ{vs l l'} B=>?_));rcases vs with _|⟨v,vs⟩
     .exact kb B
     .exact(G (show eX ts vs (l.put x v)=some l' from B)).imp id (C3 (· + 1))
theorem Eu:∀(n:Nat){l:List Str},l.length<=n->l.eraseDups.length<=l.length
 |_,[],_=>A8 _
 |n+1,a::l,h=>by rw[List.eraseDups_cons];have B:=N8 (λb=>!b==a) l;exact E0 (u0 (Eu n (u0 B (Nat.le_of_succ_le_succ h))) B)
theorem tR:∀{l:List Str},l.eraseDups.length=l.length->l.Nodup
 | [],_=>L8
 |a::l,h=>by rw[List.eraseDups_cons]at h;have h:=P0 h;obtain G:=N8 (λb=>!b==a) l;obtain J:=Eu _ (A8 (l.filter λb=>!b==a).length);obtain O:(l.filter λb=>!b==a).length=l.length:=C8 G (h▸J);have F:=List.length_filter_eq_length_iff.mp O;rw[List.filter_eq_self.mpr F]at h;exact E8.mpr ⟨λhm=>by obtain B:=F a hm;rw[beq_self_eq_true]at B;exact ai B,tR h⟩
theorem zh(J:A.handled=none){ts:Tgts}{es:List Expr}(hc:nP true env.scope.names ts es=true){c:Value}(F:ae L env loc H s.heap)(R:aF L H s.heap)(hb:eX ts vs loc=some loc')(rv:VR L.sa s.heap (.tup vs) c){names:List Str} (hn:names=es.filterMap (jm env line)) (hl:names.length=es.length) (hd:names.Nodup) {P:b6} (hP:pY L true env loc' H s P) : a8 L A (do let items <- unpackItems c names.length none;assignInOrder (names.reverse.map λn=>bindName env n) items.reverse) P aI s:=by
 subst hn;refine bE (tO hc hl) λxs e1 e2 e3=>?_;obtain⟨rfl,B⟩:=e3 hb;apply rv.tup_el;intro ad cvs ht Q;rw[e1]at hd ⊢;rw[u7,<- B,<- Q.length,J7];refine r5 (wpAny_unpackItems_tuple J ht λh' O=>?_);obtain S0:ax L (oN true env) H H s { s with heap:=h' }:=w1 (t:=s.toks) R O;rw[<- List.map_reverse,J0];have G:xs.Nodup:=by unfold List.Nodup at hd ⊢;rw[K1]at hd;exact hd.imp λh e=>h (C3 Str.ofString e)
 exact xJ J (s:={ s with heap:=h' }) (λx hx=>e2 x (List.mem_reverse.mp hx)) (Q.keep S0.tup).reverse (by rw[List.length_reverse,List.length_reverse,B]) (F.ext R O) S0.rel λs' Y Z=>hP s' (oR G B▸Y) (S0.trans Z)
end
end
section
variable{H:AH}{A:Around}{d:Nat}
theorem Gm{H2:AH}{B:Shared}{Γ:Addr}{loc':Loc}(R:aF L H s.heap)(S5:ax L (λb=>dO env b\/b=Γ) H H2 s B)(F:ae L env loc' H2 B.heap)(hL:s.heap.get? Γ=none)(nL:env.locals≠Γ)(Q:∀n c,env.cells.lookup n=some c->c≠Γ)(hH:H2 Γ=none) {m:Str->Option Value} (hn:B.heap.Ns Γ m) {h':Heap} (sb:Heap.SameBut Γ B.heap h'):ae L env loc' H2 h'/\ax L (dO env) H H2 s { B with heap:=h' }:=by
 have S:ax L (dO env) H H2 s B:=S5.fresh λb O=>O.imp id (by rintro rfl;exact hL);have tk:TupKeep L.sa B.heap h':=λb o _ e hc hd=>(sb.2 b λz=>by subst z;refine sI hd λxs n hd=>?_;refine Ef hn λo' _ _ e' Y _=>?_;obtain rfl:=sm e e';rw[hd]at Y;cases Y).trans e
 have ne:∀b,s.heap.get? b≠none->b≠Γ:=λb h z=>h (z▸hL);have live:∀b,s.heap.get? b≠none->h'.get? b≠none:=λb h=>sb.2 b (ne b h)▸S.live b h;refine⟨⟨F.kind,F.glob,F.blt,?_,F.lH,F.lB,F.above,λn c e=>?_,λx v e q=>?_,F.hasCell,F.apart⟩,
  ⟨S.gens,S.os,λb o e O ho=>(sb.2 b (ne b (Gr e))).trans (S.keep b o e O ho),S.dom,S.mono,live,S.tup.trans tk,⟨λb o e=>(sb.2 b (ne b (Gr (R.base b o e)))).trans (S.rel.base b o e),S.rel.fresh,λa o e=>?_,λb O=>live b (R.ex b O)⟩⟩⟩
 .refine ah F.ns λm' aW hm=>?_;refine nC aW λo es ep e r=>?_;refine(af m' (zz o es ep ((sb.2 _ nL).trans e) r) (λx v e q=>?_));refine ah (hm x v e q) λcv G J=>?_;exact(af cv G (J.keep tk))
 .refine ia (F.cell n c e) λG J bS=>?_;refine cG bS λcv o Z h4=>?_;exact(cH G J (eU cv o ((sb.2 _ (Q n c e)).trans Z) h4))
 .refine bM (F.cellv x v e q) λc cv G cI h4=>?_;refine ah cI λo J Z=>?_;exact(bR c cv G (af o ((sb.2 _ (Q _ _ G)).trans J) Z) (h4.keep tk))
 .refine ah (S.rel.obj a o e) λob G J=>?_;exact(af ob ((sb.2 a λz=>nn hH (z▸e)).trans G) (J.keep tk))
theorem DX(hA:A.handled=none)(hy:fC true env.scope.names (.nm x) (.Name id ip)=true)(F:ae L env loc H s.heap)(R:aF L H s.heap){Q:b8}(q:∀v H1,Q v H1->∃l',eW H1 (.nm x) v loc=some l'/\K .next l' H1) {P:a9} (hP:∀c s',SPost L env H s K .next s'->P c s'):mT L env A H s Q (some λv=>assignAll v ((assignEach [.Name id ip] env).map (·.2))) P:=by
 intro D Γ H3 O hq Y Z hL nL hH hm;refine bL hm λm hm=>?_;refine ah (q _ _ hq) λl' J hk=>?_;have B:∀n c,env.cells.lookup n=some c->c≠Γ:=λn c e z=>by refine ia (F.cell n c e) λ_ _ cW=>?_;refine cG cW λ_ o e' _=>?_;exact nn hL (z▸e')
 obtain F5:ae L env loc H3 O.heap:=F.step Y Z λn c e z=>z.elim (λz=>F.cell_ne e z) λz=>B n c e z;refine uu hA (.nm x) _ hy F5 Y.rel J (t7 _) λs6 F6 S6=>?_;have G:s6.heap.Ns Γ m:=by refine nC hm λo es ep e r=>?_;refine(zz o es ep (S6.keep Γ o e hH λz=>z.elim (λz=>nL z.symm) λz=>?_) r);refine cf z λ_ eJ=>?_;refine bL eJ λn hn=>?_;exact B n Γ hn rfl
 refine(af m G (λh' sb=>?_));refine cf (Gm (loc':=l') R ((Y.weaken λb J=>J.imp Or.inl λz=>z).trans (S6.weaken λb J=>.inl (mZ J))) F6 hL nL B hH G sb) λF7 S7=>?_;exact hP _ _ (w5 hk F7 S7)
theorem iz{e:ME}{y x:Expr}(I:SE L d e)(Y:aX env.scope.names e x=true)(F:ae L env loc H s.heap)(R:aF L H s.heap)(hr:Room A d)(hw:swapsWithSole [y] x pos.line env=pure false)(hs:swappedStores [y] x env=pure none)(O:∀v,assignAll v ((assignEach [y] env).map (·.2))=assign y env v){Q:b8}(h:ba L.toSx d e loc H Q) (k:∀v H1 c B,Q v H1->VR L.sa B.heap v c->aj L env H H1 s B->a8 L A (assign y env c) (λ_ G=>SPost L env H s K .next G) aI B):a8 L A (exec (.Assign [y] x pos) env) (SPost L env H s K) aI s:=by rw[exec_Assign_arm];refine r5 (QX ?_);rw[hw];refine r5 (v9 ?_);rw[if_neg (by decide)];refine r5 (bk (I Y F R hr h) λv H1 c B q Z J=>?_);rw[hs];refine r5 (v9 ?_);show wpAny _ _ (do assignAll c ((assignEach [y] env).map (·.2));pure Flow.next) _ _ _;rw[O];exact r5 (B6 (k v H1 c B q Z J) (λ_ G h=>v9 h) λ_ _ e=>e)
theorem vc(Y:A.handled=none){t:Tgt}{y:Expr}(hy:fC true env.scope.names t y=true)(F:ae L env loc H s.heap)(v:V)(H1:AH)(c:Value)(G:Shared)(q:∃l',eW H1 t v loc=some l'/\K .next l' H1)(r1:VR L.sa G.heap v c)(B:aj L env H H1 s G) : a8 L A (assign y env c) (λ_ J=>SPost L env H s K .next J) aI G:=by refine ah q λl' Z hk=>?_;exact GU Y hy (F.estep B) B.st.rel Z r1 λJ O Q=>w5 hk O (B.own.trans (ue Q))
theorem nJ{p:Pos}(v:Value):assignAll v ((assignEach [.Name id p] env).map (·.2))=assign (.Name id p) env v:=rfl
theorem rC{e:ME}{x:Expr}(h:aX nm e x=true)(hc:HM e=true):∃ck gens sc p,x=CK.ex gens sc p ck:=by
 cases e with
 |comp a g=>exact iR h λy gens sc p _=>(Ol (.list y) gens sc p rfl)
 |_=>exact ai hc
theorem Cn(B:∀e,SB L d e){e:ME}{v:Expr}(J:fC true env.scope.names (.nm x) (.Name id ip)=true)(G:aX env.scope.names e v=true)(F:ae L env loc H s.heap)(R:aF L H s.heap)(hr:Room A d) (h:ba L.toSx d e loc H λv H1=>∃l',eW H1 (.nm x) v loc=some l'/\K .next l' H1):a8 L A (exec (.Assign [.Name id ip] v pos) env) (SPost L env H s K) aI s:=by
 rcases hc:HM e with _|_
 .exact iz (B e).E G F R hr (iY (iA G hc)) rfl nJ h (vc hr.1 J F)
 .refine HK (rC G hc) λck gens sc p O=>?_;subst O;obtain⟨b,Q⟩:=wC (env:=env) (id:=id) (ip:=ip) (ck:=ck) (gens:=gens) (sc:=sc) (p:=p) (line:=pos.line);rcases b with _|_
  .exact iz (B e).E G F R hr Q rfl nJ h (vc hr.1 J F)
  .rw[exec_Assign_arm];refine r5 (QX ?_);rw[Q];refine r5 (v9 ?_);rw[if_pos rfl];refine r5 ?_;obtain U:=(B e).U hc G F R hr h (DX hr.1 J F R (P:=λc s'=>a8 L A (pure ()) (λ_ s'=>a8 L A (pure Flow.next) (SPost L env H s K) aI s') aI s') (λv H1 q=>q) λc s' h'=>v9 (v9 h'));rcases ck with⟨y⟩;exact r5 U
theorem FG(B:∀e,SB L d e){ts:Tgts}{e:ME}{es:List Expr}{v:Expr}(hy:fC true env.scope.names (.tp ts) (.Tuple es k ip)=true)(J:aX env.scope.names e v=true)(G:BK (.Tuple es k ip) v=true)(F:ae L env loc H s.heap)(R:aF L H s.heap)(hr:Room A d) (h:ba L.toSx d e loc H λv H1=>∃l',eW H1 (.tp ts) v loc=some l'/\K .next l' H1):a8 L A (exec (.Assign [.Tuple es k ip] v pos) env) (SPost L env H s K) aI s:=by
 have hw:swapsWithSole [.Tuple es k ip] v pos.line env=pure false:=by
  rcases hc:HM e with _|_
  .exact iY (iA J hc)
  .refine HK (rC J hc) λck gens sc p as=>?_;subst as;cases ck <;> rfl
 have plain:swappedStores [.Tuple es k ip] v env=pure none->a8 L A (exec (.Assign [.Tuple es k ip] v pos) env) (SPost L env H s K) aI s:=λhs=>iz (B e).E J F R hr hw hs (λ_=>rfl) h (vc hr.1 hy F);by_cases O:v.ctorIdx=25
 .cases e with
  |tup ar =>
   revert G hw plain;have an:=J;revert an;refine bW J λxs k' p' _ J G hw plain=>?_;have Z:xs.all (constantsAlone 8)=false:=by
    have G:(!xs.all (constantsAlone 8))=true:=G;rcases q:xs.all (constantsAlone 8)with _|_
    .rfl
    .rw[q]at G;exact ai G
   rcases pU es xs k k' ip p' env Z with hs|⟨line,names,hl,hs,hn,hlen,hd⟩
   .exact plain hs
   .rw[exec_Assign_arm];refine r5 (QX ?_);rw[hw];refine r5 (v9 ?_);rw[if_neg (by decide)];refine r5 (bk (R:=λv H1=>match v with | .tup vs=>∃l',eX ts vs loc=some l'/\K .next l' H1|_=>False) ((B (.tup ar)).E J F R hr h) λv H1 c s1 h1 r1 Y=>?_);obtain⟨vs,rfl⟩:∃vs,v=.tup vs:=by cases v <;> first|exact(gE _ rfl)|exact h1.elim
    refine ah h1 λl' hb hk=>?_;rw[hs];refine r5 (v9 ?_);show wpAny _ _ (do rule "assign.swapped-stores";let items <- unpackItems c names.length none;assignInOrder (names.reverse.map λn=>bindName env n) items.reverse;pure Flow.next) _ _ _;refine r5 (Ri ?_);obtain Q:=zh hr.1 hy (F.estep Y) Y.st.rel hb r1 hn hlen (tR hd) (P:=λ_ s'=>SPost L env H s K .next s') λs2 F2 S2=>w5 hk F2 (Y.own.trans (ue S2));obtain ad:(do let items <- unpackItems c names.length none;assignInOrder (names.reverse.map λn=>bindName env n) items.reverse;pure .next:Sem Flow)=(do(do let items <- unpackItems c names.length none;assignInOrder (names.reverse.map λn=>bindName env n) items.reverse);pure .next):=by simp only[bind_assoc]
    rw[ad];exact r5 (B6 Q (λ_ s2 h2=>v9 h2) λ_ _ e=>e)
  |_=>exact ai (N4.mpr ((jd J).symm.trans O))
 .exact plain (uG O)
theorem PN(B:∀e,SB L d e){t:Tgt}{e:ME}{y x:Expr}(J:fC true env.scope.names t y=true)(Q:aX env.scope.names e x=true)(G:BK y x=true)(F:ae L env loc H s.heap)(R:aF L H s.heap)(hr:Room A d) (h:ba L.toSx d e loc H λv H1=>∃l',eW H1 t v loc=some l'/\K .next l' H1):a8 L A (exec (.Assign [y] x pos) env) (SPost L env H s K) aI s:=by
 have O:=J;revert O G;rcases t with z|ts
 .exact bf J λid p _ _ J=>Cn B J Q F R hr h
 .exact bW J λes k p _ G J=>FG B J Q G F R hr h
end
section
variable{H:AH}{A:Around}{d:Nat}
noncomputable def Cx.wide(L:Cx)(X':Addr->Prop)(B:∀b,X' b->L.base.get? b=none):Cx:=⟨L.toSx,X',B⟩
mutual
theorem VR.wide{sa:SX}(hX:∀b,X' b->sa.X b\/h.get? b=none):∀{v:V}{c:Value},VR sa h v c->VR ⟨sa.a,X'⟩ h v c
 | .none,_,x=>by unfold VR at *;exact x
 | .scr,_,x=>by unfold VR at *;exact x
 | .bool _,_,x=>by unfold VR at *;exact x
 | .int _,_,x=>by unfold VR at *;exact x
 | .str _,_,x=>by unfold VR at *;exact x
 | .ref _,_,x=>by unfold VR at *;exact x
 | .tup vs,_,x=>by unfold VR at *;refine uV x λa cvs n e nx aW B=>?_;refine ah aW λo ho r=>?_;exact(pF a cvs n e (λz=>(hX _ z).elim nx λq=>by rw[ho]at q;exact sn q) (af o ho r) (VRs.wide hX B))
theorem VRs.wide{sa:SX}(hX:∀b,X' b->sa.X b\/h.get? b=none):∀{vs:List V}{cs:List Value},VRs sa h vs cs->VRs ⟨sa.a,X'⟩ h vs cs
 | [],_,x=>by unfold VRs at *;exact x
 |v::vs,_,x=>by unfold VRs at *;refine bM x λc cs e a b=>?_;exact(bR c cs e (VR.wide hX a) (VRs.wide hX b))
end
def ForPost(L:Cx)(env:Env)(loc:Loc)(A:Around)(tgt:Expr)(H:AH)(s:Shared)(K:pX->List V->AH->Prop)(c:Value)(s':Shared):Prop :=
 ∃(X':Addr->Prop)(B:∀b,X' b->L.base.get? b=none),(∀b,L.X b->X' b)/\(∀b,X' b->L.X b\/s.heap.get? b=none) /\
 ∃I W vs src St H',K src vs H'/\c=.ref I/\St 0 s'.heap/\Iter ⟨L.toSx,X',B⟩ A I W tgt src vs St/\WOK ⟨L.toSx,X',B⟩ env H' W/\(∀b,W b->s.heap.get? b=none)/\dC src H'/\aj L env H H' s s'/\aF ⟨L.toSx,X',B⟩ H' s'.heap/\ae ⟨L.toSx,X',B⟩ env loc H' s'.heap
theorem ForPost.of{K:pX->List V->AH->Prop}{c:Value}(F:ae L env loc H s.heap)(h:ItPost L env A tgt H s K c s'):ForPost L env loc A tgt H s K c s':=by obtain⟨I,W,vs,src,St,H',a,b,G,B,J,O,hs,S⟩:=h;exact⟨L.X,L.hX,λ_ h=>h,λ_ h=>.inl h,I,W,vs,src,St,H',a,b,G,B,J,O,hs,S,S.st.rel,F.estep S⟩
theorem ae.less{J:∀b,X' b->L.base.get? b=none}(hX:∀b,L.X b->X' b)(F:ae ⟨L.toSx,X',J⟩ env loc H h):ae L env loc H h:=by
 refine⟨F.kind,F.glob,F.blt,?_,F.lH,F.lB,F.above,F.cell,λx v e k=>?_,F.hasCell,F.apart⟩
 .refine ah F.ns λm Q hm=>?_;exact(af m Q (λx v e k=>by refine ah (hm x v e k) λcv B G=>?_;exact(af cv B (VR.less (sa:=⟨L.sad,X'⟩) hX G))))
 .refine bM (F.cellv x v e k) λc cv B G O=>?_;exact(bR c cv B G (VR.less (sa:=⟨L.sad,X'⟩) hX O))
theorem ER.less{B:∀b,X' b->L.base.get? b=none}(hX:∀b,L.X b->X' b):∀{kvs:List (V×V)}{es:List DictEntry},ER ⟨L.toSx,X',B⟩ h kvs es->ER L h kvs es
 | [],_,x=>x
 |(_,_)::_,_,x=>by refine pD x λe es bS a b c d=>?_;subst bS;exact(re e es rfl (VR.less (sa:=⟨L.sad,X'⟩) hX a) b (VR.less (sa:=⟨L.sad,X'⟩) hX c) (ER.less hX d))
theorem ORel.less{B:∀b,X' b->L.base.get? b=none}(hX:∀b,L.X b->X' b){ob:Obj}{x:AO}(r:ORel ⟨L.toSx,X',B⟩ h ob x):ORel L h ob x:=by
 unfold ORel at *;rcases x with vs|kvs|⟨c,dx⟩
 .refine cG r λcvs n e r=>?_;exact(eU cvs n e (VRs.less (sa:=⟨L.sad,X'⟩) hX r))
 .refine bM r λes n e r q=>?_;exact(bR es n e (ER.less hX r) q)
 .exact r
theorem aF.less{B:∀b,X' b->L.base.get? b=none}(hX:∀b,L.X b->X' b)(R:aF ⟨L.toSx,X',B⟩ H h):aF L H h :=⟨R.base,R.fresh,λa o e=>by refine ah (R.obj a o e) λob F G=>?_;exact(af ob F (ORel.less hX G)),λb J=>R.ex b (hX b J)⟩
theorem ae.wide{J:∀b,X' b->L.base.get? b=none}(hX:∀b,X' b->L.X b\/h.get? b=none)(F:ae L env loc H h):ae ⟨L.toSx,X',J⟩ env loc H h:=by
 refine⟨F.kind,F.glob,F.blt,?_,F.lH,F.lB,F.above,F.cell,λx v e k=>?_,F.hasCell,F.apart⟩
 .refine ah F.ns λm Q hm=>?_;exact(af m Q (λx v e k=>by refine ah (hm x v e k) λcv B G=>?_;exact(af cv B (VR.wide (sa:=L.sa) hX G))))
 .refine bM (F.cellv x v e k) λc cv B G O=>?_;exact(bR c cv B G (VR.wide (sa:=L.sa) hX O))
theorem ER.wide{B:∀b,X' b->L.base.get? b=none}(hX:∀b,X' b->L.X b\/h.get? b=none):∀{kvs:List (V×V)}{es:List DictEntry},ER L h kvs es->ER ⟨L.toSx,X',B⟩ h kvs es
 | [],_,x=>x
 |(_,_)::_,_,x=>by refine pD x λe es cI a b c d=>?_;subst cI;exact(re e es rfl (VR.wide (sa:=L.sa) hX a) b (VR.wide (sa:=L.sa) hX c) (ER.wide hX d))
theorem ORel.wide{B:∀b,X' b->L.base.get? b=none}(hX:∀b,X' b->L.X b\/h.get? b=none){ob:Obj}{x:AO}(r:ORel L h ob x):ORel ⟨L.toSx,X',B⟩ h ob x:=by
 unfold ORel at *;rcases x with vs|kvs|⟨c,dx⟩
 .refine cG r λcvs n e r=>?_;exact(eU cvs n e (VRs.wide (sa:=L.sa) hX r))
 .refine bM r λes n e r q=>?_;exact(bR es n e (ER.wide hX r) q)
 .exact r
theorem zd(hA:A.handled=none){W:Addr->Prop}{St:Nat->Heap->Prop}(It:Iter L A I W tgt src vs St){t:Tgt}(hct:fC true env.scope.names t tgt=true){body:List Stmt}{stepW:Loc->AH->(Fl->Loc->AH->Prop)->Prop} (ad:∀{l':Loc}{H1:AH}{s1:Shared}{k:Fl->Loc->AH->Prop},ae L env l' H1 s1.heap->aF L H1 s1.heap->stepW l' H1 k->a8 L A (execs body env) (SPost L env H1 s1 k) aI s1) {H₀:AH} (F:ae L env loc H s.heap) (Z:WOK L env H W) (hW0:∀b,W b->s₀.heap.get? b=none) (S0:ax L (dO env) H₀ H s₀ s) (st:St 0 s.heap) {K:Fl->Loc->AH->Prop} (h:og src (λx l H' k=>∃l',bm t x l=some l'/\stepW l' H' k) vs loc H K) {R:Result->Shared->Prop} (hR:∀f s',SPost L env H₀ s₀ K f s'->R (.ok f) s') : codeAny (model L.prog L.w) A (.forLoop tgt (.ref I) body [] env) R s:=by
 let Inv:Nat->Shared->Prop:=λn s=>∃i l H,n=vs.length-i/\i<=vs.length/\og src (λx l H' k=>∃l',bm t x l=some l'/\stepW l' H' k) (vs.drop i) l H K/\ae L env l H s.heap/\WOK L env H W/\ax L (dO env) H₀ H s₀ s/\St i s.heap
 refine codeAny_forLoop_any Inv (λn s hI=>?_) vs.length (Qu 0 loc H (by rfl) (E1 _) h F Z S0 st);refine QP hI λi l H cW hi hf F Z S0 st=>?_;subst cW;rcases e:vs.drop i with _|⟨x,rest⟩
 .rw[e]at hf;obtain hil:i=vs.length:=by obtain Y:=List.drop_eq_nil_iff.mp e;exact Nt hi Y
  subst hil;refine B6 (wV It F S0.rel Z hW0 S0 hf.1 st (P:=λs'=>ae L env l H s'.heap/\ax L (dO env) H₀ H s₀ s') λs' F' S' k=>⟨F',S'⟩) (λr s' h'=>?_) λ_ _ e=>e.elim;refine ia h' λeJ F' S'=>?_;subst eJ;exact wpAny_execs_nil (hR _ _ (w5 hf.2 F' S'))
 .rw[e]at hf;refine cf hf λhs aW=>?_;refine ah aW λl' G hst=>?_;have hx:vs[i]?=some x:=by
   obtain Y:(vs.drop i)[0]?=some x:=by rw[e];rfl
   rwa [Q1,Nat.add_zero]at Y
  have hlt:i<vs.length:=(A9.mp hx).1;have an:vs.drop (i+1)=rest:=by rw[<- List.tail_drop,e];rfl
  refine B6 (wW (cl:=true) hA It F S0.rel Z hs st hx hct G (P:=λB=>a8 L A (execs body env) (λf B=>match f with
      | .next | .cont=>∃m,m<vs.length-i/\Inv m B
      | .brk=>R (.ok .next) B
      | .ret v=>R (.ok (.ret v)) B) aI B) λB ch O Q=>?_) (λr ac h₁=>?_) λ_ _ e=>e.elim
  .refine B6 (ad ch O.rel hst) (λf s4 h4=>?_) λ_ _ e=>e;refine uV h4 λfl l4 H4 hk J F4 S4=>?_;obtain W4:WOK L env H4 W:=(Z.step O λb G=>It.lw _ _ st b G).step S4 λb G=>It.lw _ _ Q b G;have S04:ax L (dO env) H₀ H4 s₀ s4:=by obtain a1:ax L (λb=>dO env b\/W b) H₀ H s₀ s:=S0.weaken λb G=>.inl G;obtain a2:ax L (λb=>dO env b\/W b) H H s B:=O.weaken λb G=>G.imp mZ id;obtain a3:ax L (λb=>dO env b\/W b) H H4 B s4:=S4.weaken λb G=>.inl G;exact((a1.trans a2).trans a3).fresh λb G=>G.imp id (hW0 b)
   rcases fl with _|v
   .cases f with
    |next =>refine(af (vs.length-(i+1)) (Nu hlt) (Qu (i+1) l4 H4 rfl (Gy hlt) (by rw[an];exact hk) F4 W4 S04 ?_));exact It.frame _ _ _ Q (λb o G e=>S4.keep b o e ((Z.step O λb G=>It.lw _ _ st b G).h b G) λz=>z.elim (λz=>Z.l (z▸G)) λ⟨n,hn⟩=>Z.c n b hn G) S4.tup
    |ret _=>exact J.elim
    |brk=>exact J.elim
    |cont=>exact J.elim
   .cases f with
    |ret c=>exact hR _ _ (pF (.ret v) l4 H4 hk J F4 S04)
    |next=>exact J.elim
    |brk=>exact J.elim
    |cont=>exact J.elim
  .obtain⟨c',rfl,h₁⟩:=h₁;exact B6 h₁ (λ_ s2 h2=>B6 h2 (λ_ s3 h3=>B6 h3 (λ_ _ h=>h) λ_ _ e=>e.elim) λ_ _ e=>e.elim) λ_ _ e=>e.elim
end
def HT(L:Cx):Prop:=∀(it:MIt){env:Env}{x tgt:Expr}{loc:Loc}{H:AH}{s:Shared}{A:Around}{d:Nat}{K:pX->List V->AH->Prop},wM env.scope.names it x=true->cC tgt=true->kL it tgt=true->ae L env loc H s.heap->aF L H s.heap->Room A d->lR L.toSx d it loc H K ->
  a8 L A (eval x env) (λB ac=>a8 L A (pyIter B) (ForPost L env loc A tgt H s K) aI ac) aI s
abbrev wI:Prop:=∀(L:Cx),aO L.toSx->∀p,aU L p
abbrev Cf:Prop:=∀(L:Cx),aO L.toSx->HT L
section
variable{H:AH}{A:Around}{d:Nat}
def ax.wide{own:Addr->Prop}{B:∀b,X' b->L.base.get? b=none}(hX:∀b,L.X b->X' b)(S:ax L own H H' s s')(R:aF ⟨L.toSx,X',B⟩ H' s'.heap):ax ⟨L.toSx,X',B⟩ own H H' s s' :=⟨S.gens,S.os,S.keep,S.dom,S.mono,S.live,(λb o nx e=>S.tup b o (λz=>nx (hX b z)) e),R⟩
theorem ax.less{own:Addr->Prop}{F:∀b,X' b->L.base.get? b=none}(hX:∀b,L.X b->X' b)(B:∀b,X' b->L.X b\/s.heap.get? b=none)(S:ax ⟨L.toSx,X',F⟩ own H H' s s'):ax L own H H' s s' :=⟨S.gens,S.os,S.keep,S.dom,S.mono,S.live,(λb o nx e=>S.tup b o (λz=>(B b z).elim nx λq=>by rw[e]at q;exact sn q) e),S.rel.less hX⟩
theorem SPost.less{f:Flow}{G:∀b,X' b->L.base.get? b=none}(hX:∀b,L.X b->X' b)(B:∀b,X' b->L.X b\/s.heap.get? b=none)(h:SPost ⟨L.toSx,X',G⟩ env H s K f s'):SPost L env H s K f s':=by refine uV h λfl l H' a b F S=>?_;refine(pF fl l H' a ?_ (F.less hX) (S.less hX B));cases f <;> cases fl <;> first|exact b|exact VR.less (sa:=⟨L.sad,X'⟩) hX b
variable(PA:wI)(FA:Cf)
def SS(d:Nat)(m:MS):Prop:=∀{L:Cx}(_:aO L.toSx){env:Env}{y:Stmt}{loc:Loc}{H:AH}{s:Shared}{A:Around}{K:Fl->Loc->AH->Prop},Ik env.scope.names m y=true->ae L env loc H s.heap->aF L H s.heap->Room A d->Qm L.toSx d m loc H K ->
  a8 L A (exec y env) (SPost L env H s K) aI s
def Ch(d:Nat)(ms:List MS):Prop:=∀{L:Cx}(_:aO L.toSx){env:Env}{ys:List Stmt}{loc:Loc}{H:AH}{s:Shared}{A:Around}{K:Fl->Loc->AH->Prop},jy env.scope.names ms ys=true->ae L env loc H s.heap->aF L H s.heap->Room A d->au L.toSx d ms loc H K ->
  a8 L A (execs ys env) (SPost L env H s K) aI s
theorem yu{x:Expr}(h:oF x=true)(hk:interactive env=false){Q:Flow->Shared->Prop}(B:a8 L A (eval x env) (λv s'=>match v with | .ref _=>False|_=>Q .next s') aI s):a8 L A (exec (.Expr x pos) env) Q aI s :=wpAny_Expr B hk (by cases x <;> first|rfl|exact ai h)
theorem yW{v:V}{sa:SX}{c:Value}{P:Prop}(hp:rU v)(r:VR sa h v c)(q:P):match(generalizing:=false) c with | .ref _=>False|_=>P:=by
 cases v with
 |none=>apply r.none_el;exact q
 |int i=>apply r.int_el;intro t;exact q
 |bool b=>apply r.bool_el;exact q
 |str x=>apply r.str_el;intro t;exact q
 |_=>exact hp.elim
include PA in
theorem DM(e:ME):SS d (.expr e):=by intro L C env y loc H s A K hc F R hr h;refine tZ hc λx pos hk=>?_;obtain hk:=aa hk;exact yu hk.2 (by unfold interactive;rw[F.kind];rfl) (bk (sE C (PA L C) e hk.1 F R hr h) λv H1 c O G J B=>yW G.1 J (w5 G.2 (F.estep B) B.own))
include PA in
theorem NS(t:Tgt)(e:ME):SS d (.asg (.tg t) e):=by intro L C env y loc H s A K hc F R hr h;refine gc hc λts x pos hk=>fv hk λy hk=>?_;obtain hk:=aa hk;obtain B:=aa hk.2;exact PN (λe=>GN C (PA L C) e) hk.1 B.1 B.2 F R hr h
theorem pq{e:ME}{y x:Expr}{line:Nat}(B:aX env.scope.names e x=true)(F:∀ck gens sc p,swapsWithSole [y] (CK.ex gens sc p ck) line env=pure false):swapsWithSole [y] x line env=pure false:=by
 rcases hc:HM e with _|_
 .exact iY (iA B hc)
 .refine HK (rC B hc) λck gens sc p cI=>?_;subst cI;exact F ck gens sc p
include PA in
theorem NP(o:ME)(f:String)(e:ME):SS d (.asg (.at o f) e):=by intro L C env y loc H s A K hc F R hr h;refine gc hc λts x pos hk=>fv hk λy hk=>?_;obtain hk:=aa hk;refine eG hk.1 λz n p hz=>?_;obtain hz:=aa hz;obtain rfl:=J3 hz.1;refine iz (sE C (PA L C) e) hk.2 F R hr (pq hk.2 λck gens sc p=>by cases ck <;> rfl) rfl (λ_=>rfl) h λv H1 c s1 Q r1 B=>?_;show wpAny _ _ (do let ov <- holding [c] (eval z env);standAt p.atName;holding [c,ov] (setAttr ov (Str.ofString f) c);release [c,ov] []) _ _ _;refine r5 (G6 (bk (sE C (PA L C) o hz.2 (F.estep B) B.st.rel hr Q) λov H2 oc s2 Y r2 G=>?_));refine QQ Y λa cc dx kvs cW i1 i2 Z i4 i5 hk=>?_;subst cW;apply r2.ref_el;obtain J:=(F.estep B).estep G;exact r5 (QX (r5 (G6 (zg C J G.st.rel i1 i2 Z i4 i5 (r1.keep G.st.tup) λs3 O=>wpAny_release (w5 hk (J.estep O) (((B.trans G).trans O).own))))))
include PA in
theorem NR(o i:ME)(e:ME):SS d (.asg (.ix o i) e):=by
 intro L C env y loc H s A K hc F R hr h;refine gc hc λts x pos hk=>fv hk λy hk=>?_;have hk:=aa hk;refine eH hk.1 λz q p hz=>?_;have hz:=aa hz;refine iz (sE C (PA L C) e) hk.2 F R hr (pq hk.2 λck gens sc p=>by cases ck <;> rfl) rfl (λ_=>rfl) h λv H1 c s1 h1 Z Q=>?_;rw[assign_Subscript];refine r5 (G6 (bk (sE C (PA L C) o hz.1 (F.estep Q) Q.st.rel hr h1) λov H2 oc s2 h2 r2 Y=>?_));obtain F2:=(F.estep Q).estep Y;refine r5 (G6 (bk (sE C (PA L C) i hz.2 F2 Y.st.rel hr h2) λiv H3 ic s3 h3 r3 G=>?_));obtain⟨a,rfl,h3⟩:=h3;apply r2.ref_el;have O:=F2.estep G;obtain B:=(Q.trans Y).trans G;have Z:=(Z.keep Y.st.tup).keep G.st.tup;refine r5 (QX (r5 (G6 ?_)));rcases h3 with⟨vs,n,j1,rfl,j2,j3,j4,hk⟩|⟨kvs,j1,j2,j3,hk⟩
 .exact oY O G.st.rel j1 j2 j3 j4 r3 Z λs4 J=>wpAny_release (w5 hk (O.estep J) (B.trans J).own)
 .exact oX C O G.st.rel hr j1 j2 j3 r3 Z λs4 J=>wpAny_release (w5 hk (O.estep J) (B.trans J).own)
include PA in
theorem Hp(e:ME):SS d (.ret e):=by
 intro L C env y loc H s A K hc F R hr h;refine pP hc λx pos hk=>?_;rcases x with _|x
 .exact ai hk
 .exact wpAny_Return_some (bk (sE C (PA L C) e hk F R hr h) λv H1 c O G J B=>(pF (.ret v) loc H1 G J (F.estep B) B.own))
theorem DN:SS d .rais:=by intro L C env y loc H s A K hc F R hr h;exact h.elim
def w6{f:Flow}{ac:Shared}{B:AH}(S:aj L env H B s ac)(h:SPost L env B ac K f s'):SPost L env H s K f s':=SPost.after S.own h
include PA in
theorem NQ{c:ME}{a b:List MS}(O:Ch d a)(Q:Ch d b):SS d (.if1 c a b):=by
 intro L C env y loc H s A K hc F R hr h;refine yU hc λx ys Z pos hk=>?_;obtain hk:=aa hk;obtain J:=aa hk.2;refine wpAny_If (B6 (sT C (PA L C) c hk.1 F R hr h) (λt Y G=>?_) λ_ _ e=>e);refine ah G λH1 G B=>?_;cases t with
 |true=>exact B6 (O C J.1 (F.estep B) B.st.rel hr G) (λ_ _ h=>w6 B h) λ_ _ e=>e
 |false=>exact B6 (Q C J.2 (F.estep B) B.st.rel hr G) (λ_ _ h=>w6 B h) λ_ _ e=>e
include PA in
theorem BE{c:ME}{b:List MS}(Ib:Ch d b):SS d (.whl c b):=by
 intro L C env y loc H s A K hc F R hr h;refine rT hc λx ys zs pos hk=>?_;obtain hk:=aa hk;obtain Y:=aa hk.2;rw[J2.mp hk.1];refine ah h λI h0 hI=>?_;obtain⟨O,h0⟩:=h0;refine wpAny_While (codeAny_whileLoop (λn s'=>∃l H',I n l H'/\ae L env l H' s'.heap/\ax L (dO env) H H' s s') (λn s' hs=>?_) O (bR loc H h0 F (ax.refl R)));refine bM hs λl H' hn Z S'=>?_;refine B6 (sT C (PA L C) c Y.1 Z S'.rel hr (hI n l H' hn)) (λt s1 Q=>?_) λ_ _ e=>e.elim;refine ah Q λH1 Q G=>?_;cases t with
 |true =>
  refine B6 (Ib C Y.2 (Z.estep G) G.st.rel hr Q) (λf s2 Y=>?_) λ_ _ e=>e.elim;refine uV Y λfl l2 H2 hk B F2 S2=>?_;obtain J:=(S'.trans G.own).trans S2;rcases fl with _|v
  .cases f with
   |next=>refine ah hk λm hm hk=>?_;exact(af m hm (bR l2 H2 hk F2 J))
   |_=>exact B.elim
  .cases f with
   |ret c=>exact(pF (.ret v) l2 H2 hk B F2 J)
   |_=>exact B.elim
 |false=>exact wpAny_execs_nil (w5 Q (Z.estep G) (S'.trans G.own))
include FA in
theorem Ho{t:Tgt}{it:MIt}{b:List MS}(Ib:Ch d b):SS d (.for1 t it b):=by intro L C env y loc H s A K hc F R hr h;refine vQ hc λz x ys zs pos hk=>?_;obtain k1:=aa hk;obtain k2:=aa k1.2;obtain Q:=aa k2.2;have Y:=aa Q.2;have Z:=aa Y.2;rw[J2.mp k1.1];refine wpAny_For (B6 (FA L C it Q.1 (mI k2.1) Z.1 F R hr h) (λxv s1 h1=>B6 h1 (λcc s2 h2=>?_) λ_ _ e=>e) λ_ _ e=>e) (λx=>gR Y.1 env x);obtain⟨X',O,hX,B,I,W,vs,src,St,H1,q,rfl,st,It,hW,hn,hs,S,R',F'⟩:=h2;exact zd (L:=⟨L.toSx,X',O⟩) (s₀:=s) (H₀:=H) (stepW:=λl' H' k=>au L.toSx d b l' H' k) hr.1 It k2.1 (λG J hw=>Ib (L:=⟨L.toSx,X',O⟩) C Z.2 G J hr hw) F' hW hn (S.own.wide hX R') st q λf s' hP=>SPost.less hX B hP
theorem DO:Ch d []:=by
 intro L C env ys loc H s A K hc F R hr h;rcases ys with _|⟨_,_⟩
 .exact wpAny_execs_nil (w5 h F (ax.refl R))
 .exact ai hc
theorem BF{m:MS}{ms:List MS}(Q:SS d m)(G:Ch d ms):Ch d (m::ms):=by
 intro L C env ys loc H s A K hc F R hr h;rcases ys with _|⟨y,r⟩
 .exact ai hc
 .obtain hc:=aa hc;refine wpAny_execs_cons (B6 (Q C hc.1 F R hr h) (λf Z Y=>?_) λ_ _ e=>e);refine uV Y λfl l1 H1 hk B O J=>?_;rcases fl with _|v
  .cases f with
   |next=>exact B6 (G C hc.2 O J.rel hr hk) (λ_ _ h=>SPost.after J h) λ_ _ e=>e
   |_=>exact B.elim
  .cases f with
   |ret c=>exact(pF (.ret v) l1 H1 hk B O J)
   |_=>exact B.elim
include PA FA in
theorem GO(ms:List MS):Ch d ms :=MS.rec_1 (motive_1:=SS d) (motive_2:=Ch d) (DM PA) (λt e=>match t with | .tg t=>NS PA t e | .at o f=>NP PA o f e | .ix o i=>NR PA o i e) (Hp PA) (λ_ _ _ a b=>NQ PA a b) (λ_ _ b=>BE PA b) (λ_ _ _ b=>Ho FA b) DN DO (λ_ _ a b=>BF a b) ms
include PA FA in
theorem QL(ms:List MS)(C:aO L.toSx){ys:List Stmt}{H:AH}{A:Around}(hc:jy env.scope.names ms ys=true)(F:ae L env loc H s.heap)(R:aF L H s.heap)(hr:Room A d)(h:au L.toSx d ms loc H K) : a8 L A (execs ys env) (SPost L env H s K) aI s:=GO PA FA ms C hc F R hr h
end
noncomputable def aR(ps:List String)(vs:List V):Loc:=λx=>(ps.zip vs).lookup x
structure FnAt(σ:Sx)(f:Addr)(fd:FuncData)(ps:List String)(ms:List MS):Prop where
 obj:∃o,σ.base.get? f=some o/\o.data=.func fd
 cd:σ.base.CodeRec fd.code fd.qualname
 body:∃ys,fd.body=.stmts ys/\jy fd.scope.names ms ys=true
 clo:fd.closure=[]
 glob:fd.globals=mainGlobals
 blt:fd.builtins=builtinsNs
 co:fd.scope.isCoroutine=false
 gen:fd.scope.isGenerator=false
 kind:fd.scope.kind=.function
 bind:∀vals:List Value,vals.length=ps.length->bindArgs fd ⟨vals,[]⟩=pure ((ps.map Str.ofString).zip vals)
 nodup:ps.Nodup
 kp:∀p∈ps,fd.scope.names.lookup (Str.ofString p)=some .local\/fd.scope.names.lookup (Str.ofString p)=some .cell
 nofree:∀x∈fd.scope.names,x.2≠.free
theorem eY:∀(names:List (Str×NameKind))(n:Nat)(acc:List (Str×Addr))(x:Str),(acc.lookup x).isSome=true->((cellsFrom n names acc).lookup x).isSome=true
 | [],_,_,_,h=>h
 |(name,kind)::r,n,acc,x,h=>by
  unfold cellsFrom;split
  .refine eY r _ _ x ?_;rw[L7];cases B:x==name with
   |true=>rfl
   |false=>exact h
  .exact eY r _ _ x h
theorem fX:∀(names:List (Str×NameKind))(n:Nat)(acc:List (Str×Addr))(x:Str),(x,NameKind.cell)∈names->((cellsFrom n names acc).lookup x).isSome=true
 |(name,kind)::r,n,acc,x,h=>by
  unfold cellsFrom;rcases C0.mp h with e|h
  .refine cf (Rj e) λaW bS=>?_;subst aW;subst bS;exact eY r _ _ _ (by simp)
  .split
   .exact fX r _ _ x h
   .exact fX r _ _ x h
theorem lU{kindOf:Str->Option NameKind}{y:Str}:∀{binds:List (Str×Value)}{m:Str->Option Value},y∉binds.map (·.1)->bindL kindOf binds m y=m y
 | [],m,_=>rfl
 |(n,v)::r,m,h=>by
  simp only[List.map_cons,List.mem_cons,not_or]at h;unfold bindL;rw[lU h.2];split
  .exact if_neg h.1
  .rfl
theorem lT{kindOf:Str->Option NameKind}{y:Str}:∀{binds:List (Str×Value)}{m:Str->Option Value},y∉binds.map (·.1)->bindC kindOf binds m y=m y
 | [],m,_=>rfl
 |(n,v)::r,m,h=>by
  simp only[List.map_cons,List.mem_cons,not_or]at h;unfold bindC;rw[lT h.2];split
  .rfl
  .exact if_neg h.1
theorem zv{ps:List String}:∀y,y∈((ps.map Str.ofString).zip cvs).map (·.1)->y∈ps.map Str.ofString:=λy h=>by refine ah (w3.mp h) λp hp cI=>?_;subst cI;exact(List.of_mem_zip hp).1
theorem rq{kindOf:Str->Option NameKind}{sa:SX}:∀{ps:List String}{vs:List V}{cvs:List Value},ps.Nodup->VRs sa h vs cvs->∀{x:String}{v:V},aR ps vs x=some v -> ∃cv,VR sa h v cv/\(kindOf (Str.ofString x)=some .local->∀m,bindL kindOf ((ps.map Str.ofString).zip cvs) m (Str.ofString x)=some cv)/\(kindOf (Str.ofString x)≠some .local->∀m,bindC kindOf ((ps.map Str.ofString).zip cvs) m (Str.ofString x)=some cv)
 | [],vs,cvs,_,_,x,v,e=>by simp[aR]at e
 |p::ps,[],cvs,_,_,x,v,e=>by simp[aR]at e
 |p::ps,u::vs,cvs,nd,r,x,v,e=>by
  refine bM (VRs.cons_inv r) λc cs cW O Q=>?_;subst cW;rw[E8]at nd;unfold aR at e;rw[O6,L7]at e;by_cases B:x=p
  .subst B;simp only[beq_self_eq_true,Option.some.injEq]at e;subst e;have ho:Str.ofString x∉((ps.map Str.ofString).zip cs).map (·.1):=λz=>by refine ah (w3.mp (zv _ z)) λq hq e=>?_;exact nd.1 (bo e▸hq)
   refine(aN c O (λhk m=>?_) (λhk m=>?_))
   .rw[E2,O6];unfold bindL;rw[lU ho,if_pos hk,if_pos rfl]
   .rw[E2,O6];unfold bindC;rw[lT ho,if_neg hk,if_pos rfl]
  .rw[beq_false_of_ne B]at e;refine bE (rq (kindOf:=kindOf) nd.2 Q (x:=x) (v:=v) e) λcv F G J=>?_;exact(aN cv F (λhk m=>by rw[E2,O6];exact G hk _) (λhk m=>by rw[E2,O6];exact J hk _))
theorem sW(PA:wI)(FA:Cf)(C:aO σ){f:Addr}{fd:FuncData}{ps:List String}{ms:List MS}(X:FnAt σ f fd ps ms){H:AH}{Q:b8}{d:Nat}(hl:vs.length=ps.length) (h:au σ d ms (aR ps vs) H (λfl _ H'=>match fl with | .ret v=>Q v H' | .next=>Q .none H')) {Xs:Addr->Prop} {hX:∀b,Xs b->σ.base.get? b=none} {A:Around} {s:Shared} {cvs:List Value} (hr:Room A (d+1)) (R:aF ⟨σ,Xs,hX⟩ H s.heap) (J:σ.base.objs.size<=s.heap.objs.size) (V:VRs ⟨σ.sad,Xs⟩ s.heap vs cvs):codeAny (model σ.prog σ.w) A (.call (.ref f) ⟨cvs,[]⟩) (uW ⟨σ,Xs,hX⟩ H s Q) s:=by
 let L:Cx:=⟨σ,Xs,hX⟩
 refine ah X.obj λo ho hd=>?_;refine ah X.body λys Z ad=>?_;obtain hlen:cvs.length=ps.length:=by rw[<- hl];exact VRs.length V
 obtain an:∀b,s.heap.objs.size<=b->s.heap.get? b=none:=λb Z=>C6 Z;have F:∀x,(fd.scope.names.lookup x=some .cell)->∀n,((cellsFrom n fd.scope.names []).lookup x).isSome=true:=λx hx n=>fX _ _ _ _ (mem_of_lookup hx);refine codeAny_call_cells (binds:=(ps.map Str.ofString).zip cvs) (by obtain B:=hr.2.1;exact Py B) (R.base _ _ ho) hd (C.nolim.keeps R.base) (X.cd.keeps R.base) Z (X.bind cvs hlen) X.clo (λx hx=>?_) (λac I=>?_) X.co X.gen X.kind
 .obtain hm:=(List.of_mem_zip hx).1;refine ah (w3.mp hm) λp hp e=>?_;rcases X.kp p hp with k|k
  .exact .inl (by rw[<- e];exact k)
  .exact .inr ⟨by rw[<- e];exact k,by rw[<- e];exact F _ k _⟩
 .refine sI I.toInCall.same λh₁ tk e1=>?_;have S1:ax L eA H H s ac:=t9 R (by rw[e1]) (by rw[e1]) I.toInCall.keep;have above:∀n c,(callEnvC fd s.heap.objs.size f).cells.lookup n=some c->s.heap.get? c=none:=λn c e=>an c (D5 (A6 I.toInCall.fresh (I.above n c (mem_of_lookup e))));have G:s.heap.get? (callEnvC fd s.heap.objs.size f).locals=none:=an _ I.toInCall.fresh;have J:L.base.objs.size<=s.heap.objs.size:=J;have F1:ae L (callEnvC fd s.heap.objs.size f) (aR ps vs) H ac.heap:=by
   refine⟨X.kind,X.glob,X.blt,(af _ I.toInCall.ns (λx v e k=>?_)),(R.free G).1,(R.free G).2,u0 J I.toInCall.fresh,λn c e=>⟨(R.free (above n c e)).1,(R.free (above n c e)).2,_,I.cell n c e⟩,λx v e k=>?_,λn k=>?_,I.apart⟩
   .refine bE (rq (kindOf:=(callEnvC fd s.heap.objs.size f).kindOf) X.nodup V e) λcv h1 Y _=>?_;exact(af cv (Y k _) (h1.keep S1.tup))
   .refine bE (rq (kindOf:=(callEnvC fd s.heap.objs.size f).kindOf) X.nodup V e) λcv h1 _ Y=>?_;rcases k with k|k
    .refine bL (Option.isSome_iff_exists.mp (F _ k (s.heap.objs.size+1))) λc hc=>?_;refine(bR c cv hc ?_ (h1.keep S1.tup));obtain B:=I.cell _ c hc;rwa [Y (by rw[k];simp)]at B
    .exact absurd rfl (X.nofree _ (mem_of_lookup k))
   .rcases k with k|k
    .exact Option.isSome_iff_exists.mp (F _ k _)
    .exact absurd rfl (X.nofree _ (mem_of_lookup k))
  obtain hr':Room (A.deeper (callEnvC fd s.heap.objs.size f)) d:=(cH hr.1 (by obtain B:=hr.2.1;exact Pz B) (by obtain B:=hr.2.2;exact PB B));refine B6 (QL PA FA ms (L:=L) C ad F1 S1.rel hr' h) (λfl s2 Y=>?_) λ_ _ e=>e.elim;refine uV Y λfl' l2 H2 hk O F2 S2=>?_;have S:ax L eA H H2 s s2:=((S1.weaken (own':=dO (callEnvC fd s.heap.objs.size f)) λb h=>h.elim).trans S2).fresh λb Z=>.inr (Z.elim (λe=>e▸G) λ⟨n,e⟩=>above n b e);rcases fl' with _|v
  .cases fl with
   |next=>exact(bR .none H2 hk r9 S)
   |_=>exact O.elim
  .cases fl with
   |ret c=>exact(bR v H2 hk O S)
   |_=>exact O.elim
theorem sX(PA:wI)(FA:Cf)(C:aO σ){f:Addr}{fd:FuncData}{ps:List String}{ms:List MS}(X:FnAt σ f fd ps ms){H:AH}{Q:b8}{d:Nat}(hl:vs.length=ps.length) (h:au σ d ms (aR ps vs) H (λfl _ H'=>match fl with | .ret v=>Q v H' | .next=>Q .none H')):CallS σ (d+1) f vs H Q:=by intro Xs hX A s cvs hr R top V;refine ah top λb B F=>?_;exact sW PA FA C X hl h hr R (u0 B (C4 λz=>F (C6 (D5 z)))) V
section
variable{x:Expr}{nm b:String}
section
variable{H:AH}{A:Around}{d:Nat}
theorem BH(B:∀rest,starEach (x::rest) env=(false,eval x env)::starEach rest env)(pos:Pos):backTo pos (starEach [x] env)=[(false,eval x env)]:=by rw[B];rfl
theorem vT(C:aO L.toSx)(F:ae L env loc H s.heap)(R:aF L H s.heap)(hb:(nm,Value.builtin b)∈cj)(J:dN env.scope.names nm id=true)(Y:∀rest,starEach (x::rest) env=(false,eval x env)::starEach rest env) {P:a9} (h:a8 L A (eval x env) (λc ac=>a8 L A (call (.builtin b) [c]) P aI ac) aI s):a8 L A (eval (.Call (.Name id ip) [x] [] pos) env) P aI s:=by have J:=aa J;have Q:=aa J.1;obtain rfl:=J3 Q.1;refine pD C.ns λmg mb G B _ _ O=>?_;refine cf (O (nm,.builtin b) hb) λhm hv=>?_;refine Call_ (jq F R G B Q.2 J.2 hm hv (PyProof.Rows.callWith_builtin1 (e:=x) (rest:=[]) ?_ (Y [])));rw[BH Y];exact RA (B6 h (λc s1 Z=>Calls.spliced_nil Z) λ_ _ e=>e)
theorem rW(C:aO L.toSx)(F:ae L env loc H s.heap)(R:aF L H s.heap)(hb:(nm,Value.type b)∈cj)(J:dN env.scope.names nm id=true)(Y:∀rest,starEach (x::rest) env=(false,eval x env)::starEach rest env) {P:a9} (h:a8 L A (eval x env) (λc ac=>a8 L A (call (.type b) [c]) P aI ac) aI s):a8 L A (eval (.Call (.Name id ip) [x] [] pos) env) P aI s:=by have J:=aa J;have Q:=aa J.1;obtain rfl:=J3 Q.1;refine pD C.ns λmg mb G B _ _ O=>?_;obtain⟨hm,hv⟩:=O (nm,.type b) hb;refine Call_ (jq F R G B Q.2 J.2 hm hv (PyProof.Rows.callWith_type1 (e:=x) (rest:=[]) ?_ (Y [])));rw[BH Y];exact RA (B6 h (λc s1 Z=>Calls.spliced_nil Z) λ_ _ e=>e)
abbrev sK(L:Cx)(env:Env)(loc:Loc)(A:Around)(F:b8)(Q:b8)(f:Value):Prop:=∀{v:V}{H1:AH}{c:Value}{B:Shared},F v H1->VR L.sa B.heap v c->ae L env loc H1 B.heap->aF L H1 B.heap->a8 L A (call f [c]) (EPost L env H1 B Q) aI B
theorem ni(C:aO L.toSx)(F:ae L env loc H s.heap)(R:aF L H s.heap)(Y:(nm,Value.builtin b)∈cj)(J:dN env.scope.names nm id=true)(Z:∀rest,starEach (x::rest) env=(false,eval x env)::starEach rest env){G Q:b8} (h:a8 L A (eval x env) (EPost L env H s G) aI s) (k:sK L env loc A G Q (.builtin b)):a8 L A (eval (.Call (.Name id ip) [x] [] pos) env) (EPost L env H s Q) aI s :=vT C F R Y J Z (bk h λv H1 c s1 O r1 B=>B6 (k O r1 (F.estep B) B.st.rel) (λ_ _ h=>u3 B h) λ_ _ e=>e)
theorem rX(C:aO L.toSx)(F:ae L env loc H s.heap)(R:aF L H s.heap)(Y:(nm,Value.type b)∈cj)(J:dN env.scope.names nm id=true)(Z:∀rest,starEach (x::rest) env=(false,eval x env)::starEach rest env){G Q:b8} (h:a8 L A (eval x env) (EPost L env H s G) aI s) (k:sK L env loc A G Q (.type b)):a8 L A (eval (.Call (.Name id ip) [x] [] pos) env) (EPost L env H s Q) aI s :=rW C F R Y J Z (bk h λv H1 c s1 O r1 B=>B6 (k O r1 (F.estep B) B.st.rel) (λ_ _ h=>u3 B h) λ_ _ e=>e)
def bi{p:String×Value}(h:cj[i]?=some p):p∈cj:=B0 h
def lj{f:Expr}{as:List Expr}{k:List Keyword}{p:Pos}(rest:List Expr):starEach (.Call f as k p::rest) env=(false,eval (.Call f as k p) env)::starEach rest env:=rfl
theorem DY(C:aO L.toSx)(R:aF L H s.heap){a:Addr}(hd:H a=some (.dict kvs))(O:br kvs):(∃B,@Heap.DictOf L.prog L.w V bX (bB L.prog L.w) s.heap a B)/\(a==sysModules)=false:=by
 letI:DecidableEq V:=bX
 refine bM (cz R hd) λes n ho G F=>?_;refine bE (xL ho G F O) λB _ _ J=>?_;refine⟨⟨B,J.dictOf⟩,Rx.mpr λe=>?_⟩;obtain⟨o,ho⟩:=C.sysm;exact nn (R.fresh _ _ hd) (e▸ho)
theorem xH(C:aO L.toSx){y:Expr}{ap:Pos}(Z:cQ y=true)(hp:(ap.endLine==pos.line)=true){O:b8}(h:a8 L A (eval y env) (EPost L env H s O) aI s){P:a9} (Y:∀v H1 cv B,O v H1->VR L.sa B.heap v cv->aj L env H H1 s B->∃a kvs,cv=.ref a/\H1 a=some (.dict kvs)/\br kvs/\P (.ref B.heap.objs.size) { B with heap:=B.heap.push { cls:=.type "dict_items",data:=.fields #[.ref a] } }) : a8 L A (eval (.Call (.Attribute y (Str.ofString "items") ap) [] [] pos) env) P aI s:=by
 letI:DecidableEq V:=bX
 refine wpAny_Call_method (T:="dict") (id:="dict.items") (gS Z _ _ _) rfl hp F.plainAttrs_dict F.slot_dict_items F.type_dict_items (B6 h (λcv B Q=>?_) λ_ _ e=>e);refine bM Q λv H1 hv r S=>?_;refine sJ (Y v H1 cv B hv r S) λa kvs aW hd sk hp=>?_;subst aW;obtain⟨⟨J,hm⟩,G⟩:=DY C S.st.rel hd sk;exact⟨hm.typeIs,hm.mapOf.noDict,method_meetsIn F.slot_dict_items F.entry_dict_items rfl (PySem.evalArgs_none (qZ rfl hm.typeIs (F.args_dict_items_1 _) (af _ (meets_dict_items (bB L.prog L.w) a G) ⟨⟨J,hm⟩,hp⟩)))⟩
noncomputable def PM:Prim->Bool
 | .sum | .max | .listItems | .dict | .sorted | .sortedItems | .sortedSet=>true
 |_=>false
noncomputable def Oy:Prim->Bool
 | .int=>true
 |_=>false
theorem kq{H:AH}{Q:b8}{p:Prim}{v:V}(hp:PM p=true)(h:iT H Q p v):∃a,v=.ref a:=by
 cases v with
 |ref a=>exact⟨a,rfl⟩
 |_=>cases p <;> first|exact ai hp|exact False.elim h
theorem GJ{H:AH}{Q:b8}{p:Prim}{v:V}(hp:Oy p=true)(h:iT H Q p v):∃i,v=.int i:=by
 cases v with
 |int a=>exact⟨a,rfl⟩
 |_=>cases p <;> first|exact ai hp|exact False.elim h
theorem Bs{H:AH}{Q:b8}{v:V}(h:iT H Q .tuple v):(∃a,v=.tup a)\/∃a,v=.ref a:=by
 cases v with
 |tup a=>exact .inl ⟨a,rfl⟩
 |ref a=>exact .inr ⟨a,rfl⟩
 |_=>exact False.elim h
theorem GF(C:aO L.toSx):aU L .len:=by intro env loc H s A d Q id x y pos ip F R hr G O B h;obtain rfl:=w4 O;exact ni C F R (bi (i:=0) rfl) G B h λJ r F R=>NH F R J r
theorem GH(C:aO L.toSx):aU L .sum:=by intro env loc H s A d Q id x y pos ip F R hr J O B h;obtain rfl:=w4 O;refine ni C F R (bi (i:=1) rfl) J B h λG r F R=>?_;obtain⟨a,rfl⟩:=kq rfl G;refine ah G λns e q=>?_;rw[r.ref_inv];exact NL F R hr e q
theorem GG(C:aO L.toSx):aU L .max:=by intro env loc H s A d Q id x y pos ip F R hr J O B h;obtain rfl:=w4 O;refine ni C F R (bi (i:=2) rfl) J B h λG r F R=>?_;obtain⟨a,rfl⟩:=kq rfl G;refine cG G λi ns e q=>?_;rw[r.ref_inv];exact NI F R hr e q
theorem GE(C:aO L.toSx):aU L .int:=by intro env loc H s A d Q id x y pos ip F R hr O Y B h;obtain rfl:=w4 Y;refine rX C F R (bi (i:=4) rfl) O B h λJ r F R=>?_;refine bL (GJ rfl J) λa G=>?_;subst G;exact NG R r J
theorem Bp(C:aO L.toSx):aU L .tuple:=by
 intro env loc H s A d Q id x y pos ip F R hr J O G h;obtain rfl:=w4 O;refine rX C F R (bi (i:=6) rfl) J G h λB r F R=>?_;rcases Bs B with⟨a,rfl⟩|⟨a,rfl⟩
 .exact uw R r B
 .refine bE B λvs e hz q=>?_;rw[r.ref_inv];exact sj F R e hz q
theorem rY(C:aO L.toSx):aU L .listItems:=by intro env loc H s A d Q id x y pos ip F R hr g0 pa hst h;obtain⟨ap,Y,rfl,hb,hp⟩:=oi pa;refine rW C F R (nm:="list") (b:="list") (bi (i:=7) rfl) g0 lj (xH C hb hp h λv H1 c s1 O r1 B=>?_);obtain⟨a,rfl⟩:=kq rfl O;obtain⟨kvs,e,Z,hz,q⟩:=O;cases r1.ref_inv;refine⟨a,kvs,rfl,e,Z,?_⟩;have J:=F.estep B;have G:=aj.pushed J B.st.rel { cls:=.type "dict_items",data:=.fields #[.ref a] } s1.toks;exact B6 (ut (J.estep G) G.st.rel hr ⟨_,C2 _ rfl,rfl,rfl⟩ e Z hz q) (λ_ _ h=>u3 (B.trans G) h) λ_ _ e=>e
end
end
theorem qq:entryFor table "dict.update.loop"=some Builtin.«dict.update.loop»:=entryFor_of_tree (by kernel_rfl)
theorem lK:plainId "dict.update.loop"=true:=by decide +kernel
theorem oy:typeLookup (.type "list") "keys"=pure none:=am_miss_of_fast (by kernel_rfl)
section
variable{A:Around}
theorem Dk{a:Addr}{xs:Array Value}{n:Nat}{Q:Option Value->Shared->Prop}(J:s.heap.get? a=some (cE xs n))(O:A.handled=none) (h:∀h' tk,(∀b o,s.heap.get? b=some o->h'.get? b=some o)->Q none { s with heap:=h',toks:=tk }):wpAny (model prog w) A (getAttr? (.ref a) "keys") Q E s:=by
 obtain⟨hp,g,d,tk,os⟩:=s;obtain hT:∀G,(⟨hp,g,d,G,os⟩:Shared).TypeIs (.ref a) "list":=λ_=>(af _ J rfl);have f1:=sub_AttributeError;obtain f3:=F.slot_list_getattribute.lookup;obtain f4:=F.slot_list_getattribute.bind (.ref a);have f5:=am_list_getattr_none;unfold getAttr? getAttrBy? getAttrBy
 repeat (any_goals (first|assumption|exact hT _|((with_reducible show wpAny _ _ (call (Value.builtin "list.__getattribute__") _ _) _ _ _);refine call_meets F.slot_list_getattribute (hT _) am_entry_list_getattribute (F.args_list_getattribute_2 _ _) (meets_getattribute_miss_list a xs n #[] "keys" _ oy (by decide +kernel)) (cH J O (λh' G e B=>?_)))|wp_step))
 refine sI B.there λt' Z Y=>?_;unfold getattributeRaised
 repeat (any_goals (first|assumption|wp_step))
 exact h _ _ B.keeps
theorem BL{l S:Addr}{items:Array Value}{kv:List (V×Value)}{h₀:Heap}{R:Result->Shared->Prop}(hh:A.handled=none)(hl:h₀.IsList l items)(hS0:h₀.get? S=none)(Y:h₀.get? I=none)(F:I≠S) (hn:items.size=kv.length) (hit:∀(i:Nat)(p:V×Value),kv[i]?=some p->∃(t:Addr)(ck:Value),items[i]?=some (.ref t)/\h₀.IsTuple t #[ck,p.2]/\kS p.1 ck=true) (hnd:(kv.map (·.1)).Nodup) (hz:kv.length<=1000) : ∀(k i:Nat)(s:Shared),kv.length-i=k->i<=kv.length->s.heap.IsListIter I l i->@Heap.DictOf prog w V bX (bB prog w) s.heap S (kv.take i)->(∀b o,h₀.get? b=some o->s.heap.get? b=some o) -> (∀s',s'.gens=s.gens->s'.os=s.os->s'.drawn=s.drawn->@Heap.DictOf prog w V bX (bB prog w) s'.heap S kv->(∀b o,h₀.get? b=some o->s'.heap.get? b=some o)->R (.ok (.ret .none)) s') -> codeAny (model prog w) A (.builtin "dict.update.loop" ⟨[.ref S,.ref I,rawInt i,.none],[]⟩) R s:=by
 letI:DecidableEq V:=bX
 intro k;induction k with
 |zero =>
  intro i s hk hi O hS h0 hR;obtain hin:i=kv.length:=by exact Ff hk hi
  subst hin;refine Ru qq ?_;rw[Q4 lK _];refine r5 (wpAny_pyNext_list_end hh O (hl.at λo x=>h0 _ o x) (Ry (by rw[hn];exact A8 _)) λh' he=>?_);refine r5 (v9 ?_);show wpAny _ A.in1 (ret Value.none) _ _ _;refine v9 (hR _ rfl rfl rfl ?_ λb o x=>he b o (λz=>by rw[z,Y]at x;exact ns x) (h0 b o x));rw[List.take_length]at hS;exact hS.extBut he F.symm
 |succ k ih =>
  intro i s hk hi O hS h0 hR;obtain J:i<kv.length:=by exact Fg hk
  obtain⟨p,hp⟩:∃p,kv[i]?=some p:=⟨_,G2 J⟩;refine bM (hit i p hp) λt ck e1 e2 e3=>?_;refine Ru qq ?_;rw[Q4 lK _];refine r5 (wpAny_pyNext_list_item O (hl.at λo x=>h0 _ o x) e1 λh' Z sb=>?_);have Q:∀b o,h₀.get? b=some o->h'.get? b=some o:=λb o x=>(sb.2 b (λz=>by rw[z,Y]at x;exact ns x)).trans (h0 b o x);refine bE (show h'.IsTuple t #[ck,p.2]from e2.at λo x=>Q _ o x) λot ho hc aW=>?_;refine bL aW λnt hd=>?_;obtain hT:Shared.TypeIs { s with heap:=h' } (.ref t) "tuple":=(af _ ho hc);refine r5 (G6 ?_);refine r5 ?_;refine wpAny_tryCatch ?_;refine r5 (wpAny_typeOf hT ?_);refine wpAny_ite_true (by decide) ?_;refine r5 (N6 ho hd (v9 ?_));refine G6 ?_;have htk:kv.take (i+1)=stored (kv.take i) p.1 p.2:=by
   rw[List.take_add_one,hp,stored,if_neg]
   .rfl
   .rw[Rh];rintro⟨q,hq,e⟩;obtain e:=B8 e;refine bL (D8.mp hq) λj hj=>?_;have G:j<i:=by obtain B:=(A9.mp hj).1;rw[List.length_take]at B;exact Nc B
    rw[List.getElem?_take_of_lt G]at hj;obtain a1:(kv.map (·.1))[j]?=some q.1:=by rw[C5,hj];rfl
    obtain a2:(kv.map (·.1))[i]?=some p.1:=by rw[C5,hp];rfl
    obtain B:=(List.getElem?_inj (by rw[u7];exact Ds G J) hnd).mp (a1.trans ((C3 some e).trans a2.symm));exact Be B G
  refine wpAny_dictSet_pairs (knd:=bB prog w) (k:=p.1) e3 (hS.sameBut sb F.symm) (λh'' hd' ad=>?_) (by rw[List.length_take,J9];exact Nf hz);refine v9 ⟨plainId_quiet lK _,ih (i+1) _ (by exact Bg hk) J (Z.extBut ad.extBut F) (by rw[htk];exact hd') (λb o x=>(ad.2 b (λz=>by rw[z,hS0]at x;exact ns x)).trans (Q b o x)) hR⟩
theorem nN{l:Addr}{items:Array Value}{n:Nat}{kv:List (V×Value)}{Q:a9}(hh:A.handled=none)(hl:s.heap.get? l=some (cE items n)) (hn:items.size=kv.length) (hit:∀(i:Nat)(p:V×Value),kv[i]?=some p->∃(t:Addr)(ck:Value),items[i]?=some (.ref t)/\s.heap.IsTuple t #[ck,p.2]/\kS p.1 ck=true) (hnd:(kv.map (·.1)).Nodup) (hz:kv.length<=1000) (h:∀s',s'.gens=s.gens->s'.os=s.os->@Heap.DictOf prog w V bX (bB prog w) s'.heap s.heap.objs.size kv->(∀b o,s.heap.get? b=some o->s'.heap.get? b=some o)->Q (.ref s.heap.objs.size) s') : wpAny (model prog w) A (call (.type "dict") [.ref l]) Q E s:=by
 letI:DecidableEq V:=bX
 refine callType_codes (Q₁:=λobj ac=>obj=.ref s.heap.objs.size/\ac={ s with heap:=s.heap.push { cls:=.type "dict",data:=.dict #[] } }) F.kt_called_dict (F.kt_typeCall_dict_1 _) F.entry_dict_init (kt_code_dict_new _ ⟨rfl,rfl⟩) ?_;rintro obj ac ⟨rfl,rfl⟩;obtain B:@Heap.DictOf prog w V bX (bB prog w) (s.heap.push { cls:=.type "dict",data:=.dict #[] }) s.heap.objs.size []:=Heap.DictOf.new s.heap;obtain G:(s.heap.push { cls:=.type "dict",data:=.dict #[] }).get? l=some (cE items n):=z5 _ hl;have Y:s.heap.get? s.heap.objs.size=none:=C6 (A8 _);refine(cH B.typeIs (F.args_dict_init_2 _ _) ?_);refine r5 ?_;refine r5 (RF B.typeIs ?_);refine v9 ?_;refine r5 (wpAny_typeOf (T:="list") (af _ G rfl) ?_);refine wpAny_ite_true (by decide) ?_;refine r5 (Dk (A:=A.in1.in1) G hh λh2 tk k2=>?_);refine wpAny_ite_true rfl ?_;refine r5 (Ri ?_);refine r5 (wpAny_pyIter_list (items:=items) (aN _ (k2 _ _ G) rfl (gE n rfl)) ?_);obtain Z:=k2 _ _ (C2 s.heap (o:={ cls:=.type "dict",data:=.dict #[] }) rfl);obtain J:=I4 Z;obtain O:@Heap.DictOf prog w V bX (bB prog w) h2 s.heap.objs.size []:=B.keep k2;refine v9 ⟨Code.quiet_builtin _ (by decide +kernel),?_⟩;refine BL (A:=A.in1) (h₀:=s.heap) hh (aN _ hl rfl (gE n rfl)) Y (C6 (D5 J)) (RM J) hn hit hnd hz kv.length 0 _ (Nat.sub_zero _) (E1 _) (aN _ (C2 _ rfl) rfl rfl) (O.push _) (λb o x=>z5 _ (k2 _ _ (z5 _ x))) λs' g1 g2 _ hd k=>⟨rfl,h s' g1 g2 hd k⟩
end
section
variable{H:AH}{A:Around}{d:Nat}{Q:b8}
theorem qz:∀{kvs:List (V×V)}{l:List Value},VRs L.sa h (aY kvs) l->br kvs -> ∃B:List (V×Value),B.map (·.1)=kvs.map (·.1)/\VRs L.sa h (kvs.map (·.2)) (B.map (·.2))/\∀(i:Nat)(p:V×Value),B[i]?=some p->∃(t:Addr)(ck:Value),l[i]?=some (.ref t)/\h.IsTuple t #[ck,p.2]/\kS p.1 ck=true
 | [],_,_,_=>(aN ([]) rfl VRs.nil (λ_ _ e=>by simp at e))
 |(k,v)::r,_,x,hk=>by
  refine bM x.cons_inv λc cs e a b=>?_;subst e;refine bE (qz (kvs:=r) b λp hp=>hk p (y9 _ hp)) λB O Q Y=>?_;refine bM a.tup_inv λt cvs e i1 i2=>?_;subst e;refine bM i2.cons_inv λck r1 F Z j2=>?_;refine bM j2.cons_inv λcv r2 G j3 j4=>?_;obtain rfl:=j4.nil_inv;subst G;obtain J:cvs=#[ck,cv]:=Array.toList_inj.mp F;subst J;refine(aN ((k,cv)::B) (C3 _ O) (VRs.cons j3 Q) (λi p hp=>?_));rcases i with _|i
  .obtain rfl:=w4 hp;exact(bR t ck rfl i1 (cF (cZ (hk _ y7)) Z))
  .exact Y i p hp
theorem Dz(F:ae L env loc H s.heap)(R:aF L H s.heap)(hr:A.handled=none){a:Addr}(h:H a=some (.list (aY kvs)))(sk:br kvs)(nd:(kvs.map (·.1)).Nodup)(hz:kvs.length<=1000)(q:fresh H Q (.dict kvs)) : a8 L A (call (.type "dict") [.ref a]) (EPost L env H s Q) aI s:=by
 letI:DecidableEq V:=bX
 refine cG (ao R h) λcvs n ho ra=>?_;refine bE (qz ra sk) λZ O h2 h3=>?_;have hl:Z.length=kvs.length:=by obtain G:=C3 List.length O;simpa using G
 refine nN hr ho (by rw[hl,<- u7 (as:=kvs) (λp=>V.tup [p.1,p.2]),<- J7];exact ra.length) (λi p hp=>by rw[<- B9];exact h3 i p hp) (by rw[O];exact nd) (by rw[hl];exact hz) λs' g1 g2 hd k=>?_;refine Oa hd λo J ep Y hx B hk hp hnd=>?_;obtain hn:s.heap.get? s.heap.objs.size=none:=C6 (A8 _);have ob:o=bb J ep:=by obtain⟨c1,c2,c3,c4⟩:=o;obtain⟨x1,x2,x3⟩:=hx;simp only at x1 x2 x3 B;subst x1 x2 x3 B;rfl
 obtain⟨S,hH⟩:=u1 (own:=eA) (s':=s') R g1 g2 hn k Y (x:=.dict kvs)
  (bR _ _ ob (sq hp (λe he=>hk e (Q5.mp he)) O (h2.keep (r8 k))) ⟨nd,1,by decide,sk⟩)
 exact(bR _ _ (q _ hH) (t7 _) (S.toE F.lH))
end
section
variable{t:Addr}
section
variable{A:Around}
theorem sF{items:Array Value}{x:Value}{Q:a9}(hit:s.heap.IsTupleIter it t i)(ht:s.heap.IsTuple t items)(O:items[i]?=some x) (J:∀h',h'.IsTupleIter it t (i+1)->Heap.SameBut it s.heap h'->Q x { s with heap:=h' }):wpAny (model prog w) A (Builtin.SmallTypes.nextOf (.ref it)) Q E s:=by
 refine bE (id hit) λo ho hc hd=>?_;refine bE ht λZ G _ aW=>?_;refine bL aW λY B=>?_;refine r5 (K2 (name:=Str.ofString "__next__") hit.typeIs F.slot_tuple_iterator_next
  (H9 F.slot_tuple_iterator_next hit.typeIs F.entry_tuple_iterator_next ?_ (F.args_tuple_iterator_next_1 _)))
 show wpAny _ _ (field (.ref it) 0 >>= _) _ _ s;refine r5 (Rk ho hd (x:=.ref t) rfl ?_);rw[if_neg (show ¬((Value.ref t==Value.none)=true)from D0)];refine r5 (Rk ho hd (x:=.int i 0) rfl ?_);refine r5 (N6 G B ?_);dsimp only;rw[Rn,O];refine r5 (Rl ho hd (by simp) (v9 (af x rfl (v9 (J _ ?_ (G9 ..))))));exact(aN _ (G4 _ ho (Rg (K5 hd _))) ((Obj.cls_mapFields ..).trans hc) (by rw[K5 hd];simp[rawInt]))
theorem Cb{items:Array Value}{Q:a9}(J:A.handled=none)(hit:s.heap.IsTupleIter it t i)(ht:s.heap.IsTuple t items)(Y:items[i]?=none) (O:∀h' e,Heap.ExtBut it s.heap h'->(∃o,h'.get? e=some o/\o.cls=.type "StopIteration")->E (.ref e) { s with heap:=h' }):wpAny (model prog w) A (Builtin.SmallTypes.nextOf (.ref it)) Q E s:=by
 refine bE (id hit) λo ho hc hd=>?_;refine bE ht λol G _ bS=>?_;refine bL bS λZ B=>?_;refine r5 (K2 (name:=Str.ofString "__next__") hit.typeIs F.slot_tuple_iterator_next
  (H9 F.slot_tuple_iterator_next hit.typeIs F.entry_tuple_iterator_next ?_ (F.args_tuple_iterator_next_1 _)))
 show wpAny _ _ (field (.ref it) 0 >>= _) _ _ s;refine r5 (Rk ho hd (x:=.ref t) rfl ?_);rw[if_neg (show ¬((Value.ref t==Value.none)=true)from D0)];refine r5 (Rk ho hd (x:=.int i 0) rfl ?_);refine r5 (N6 G B ?_);dsimp only;rw[Rn,Y];refine r5 (Ri (r5 (Rl ho hd (by simp) ?_)));refine r5 ?_;refine r5 (N9 ?_ (by size_fits));refine r5 (m:=firstArgMember _ _) (wpAny_of_eq (a:=Value.none) (by first|rfl|(simp only[firstArgMember];rfl)) ?_);refine N9 ?_ (by size_fits);refine r5 (wpAny_handled ?_)
 first|rw[show A.in1.handled=none from J]|rw[J]
 refine r5 (v9 (wpAny_throw ?_));exact O _ _ (((G9 ..).extBut.push _).push _) (af _ (C2 _ rfl) rfl)
theorem IsTupleIter.ext{b:Addr}(x:h.IsTupleIter it t i)(hs:Heap.ExtBut b h h')(B:it≠b):h'.IsTupleIter it t i:=by refine ah x λo ho r=>?_;exact(af o (hs it o B ho) r)
def w7:=@IsTupleIter.ext
theorem IsTuple.ext{b:Addr}{xs:Array Value}(x:h.IsTuple t xs)(hs:Heap.ExtBut b h h')(B:t≠b):h'.IsTuple t xs:=by refine ah x λo ho r=>?_;exact(af o (hs t o B ho) r)
def w8:=@IsTuple.ext
theorem mU{a:α}{as:List α}{b:β}{f:α->β->Sem (ForInStep β)}{Q:β->Shared->Prop}(h:wpAny M A (f a b) (λr s'=>wpAny M A (match r with | .done b'=>pure b' | .yield b'=>forIn as b' f) Q E s') E s):wpAny M A (forIn (a::as) b f) Q E s:=by rw[Rt];exact r5 h
theorem CT{b:β}{f:α->β->Sem (ForInStep β)}{Q:β->Shared->Prop}(h:Q b s):wpAny M A (forIn ([]:List α) b f) Q E s:=by rw[List.forIn_nil];exact v9 h
theorem Ei{z TI TO i1 i2 l1 l2:Addr}{k1 k2:Nat}{xs ys:Array Value}{x y a b:Value}{Q:Option Value->Shared->Prop}(D:ZipApart z TI TO i1 i2 l1 l2) (hz:IsZip s.heap z TI TO .none) (hTI:IsPair s.heap TI (.ref i1) (.ref i2)) (hTO:IsPair s.heap TO a b) (h1:s.heap.IsTupleIter i1 l1 k1) (h2:s.heap.IsTupleIter i2 l2 k2) (hl1:s.heap.IsTuple l1 xs) (hl2:s.heap.IsTuple l2 ys) (hx:xs[k1]?=some x) (hy:ys[k2]?=some y) (hQ:∀h',IsZip h' z TI TO (rawInt s.heap.objs.size)->IsPair h' TO x y->h'.IsTupleIter i1 l1 (k1+1)->h'.IsTupleIter i2 l2 (k2+1)->IsPair h' s.heap.objs.size x y -> (∀c o,c≠z->c≠TO->c≠i1->c≠i2->s.heap.get? c=some o->h'.get? c=some o)->Q (some (.ref s.heap.objs.size)) { s with heap:=h' }):wpAny (model prog w) A (pyNext (.ref z)) Q E s:=by
 obtain hT:s.TypeIs (.ref z) "zip":=(af _ hz rfl);refine r5 (wpAny_attempt (K2 (name:=Str.ofString "__next__") hT F.slot_zip_next (H9 F.slot_zip_next hT F.entry_zip_next ?_ (F.args_zip_next_1 _))));show wpAny _ _ (field (.ref z) 2 >>= _) _ _ _;refine r5 (Rk hz rfl (x:=.bool false) rfl ?_);refine r5 (Rk hz rfl (x:=.ref TI) rfl ?_);refine r5 (N6 hTI rfl ?_);refine r5 ?_;refine r5 (Rk hz rfl (x:=.none) rfl (v9 ?_));rw[if_pos rfl];refine r5 (Ri ?_);refine r5 (Rk hz rfl (x:=.ref TO) rfl ?_);refine r5 (RE hz (by simp) λh₁ as G=>?_);replace as:IsZip h₁ z TI TO .ellipsis:=as;refine r5 ?_;refine mU (r5 (wpAny_onRaise ?_));refine r5 (sF (w7 h1 G.extBut D.i1z) (w8 hl1 G.extBut D.l1z) hx λeN df J=>v9 ?_);obtain a0:IsPair eN TO a b:=J.extBut _ _ D.TOi1 (G.extBut _ _ D.TOz hTO);refine r5 (N6 a0 rfl ?_);refine r5 (wpAny_updateSeq_pair a0 λg5 an O=>?_);replace an:IsPair g5 TO x b:=an;refine r5 (wpAny_letGo (v9 ?_));refine mU (r5 (wpAny_onRaise ?_));refine r5 (sF (w7 (w7 (w7 h2 G.extBut D.i2z) J.extBut D.i12.symm) O.extBut D.TOi2.symm)
  (w8 (w8 (w8 hl2 G.extBut D.l2z) J.extBut D.l2i1) O.extBut D.l2TO) hy λc0 hE Z=>v9 ?_)
 obtain a1:IsPair c0 TO x b:=Z.extBut _ _ D.TOi2 an;refine r5 (N6 a1 rfl ?_);refine r5 (wpAny_updateSeq_pair a1 λB Y ad=>?_);replace Y:IsPair B TO x y:=Y;refine r5 (wpAny_letGo (v9 ?_));refine CT ?_;refine r5 (N6 Y rfl ?_);refine r5 (wpAny_newTuple ?_);obtain hsz:B.objs.size=s.heap.objs.size:=by rw[ad.1,Z.1,O.1,J.1,G.1]
 obtain a6:IsZip B z TI TO .ellipsis:=ad.extBut _ _ D.TOz.symm (Z.extBut _ _ D.i2z.symm (O.extBut _ _ D.TOz.symm (J.extBut _ _ D.i1z.symm as)));obtain jl:∀c o,c≠z->c≠TO->c≠i1->c≠i2->s.heap.get? c=some o->B.get? c=some o:=λc o c1 c2 c3 c4 e =>
  ad.extBut _ _ c2 (Z.extBut _ _ c4 (O.extBut _ _ c2 (J.extBut _ _ c3 (G.extBut _ _ c1 e))))
 obtain kt:B.IsTupleIter i1 l1 (k1+1):=w7 (w7 (w7 df O.extBut D.TOi1.symm) Z.extBut D.i12) ad.extBut D.TOi1.symm;obtain lr:B.IsTupleIter i2 l2 (k2+1):=w7 hE ad.extBut D.TOi2.symm;obtain a7:z<B.objs.size:=I4 a6;refine r5 ?_;have l6:IsZip (B.push { cls:=.type "tuple",data:=.seq #[x,y] }) z TI TO .ellipsis:=z5 _ a6;refine r5 (RE l6 (by simp) λmi av a4=>?_);replace av:IsZip mi z TI TO (rawInt B.objs.size):=av;refine RE av (by simp) λa2 ar a5=>?_;replace ar:IsZip a2 z TI TO (rawInt B.objs.size):=ar;have up:∀c o,c≠z->B.get? c=some o->a2.get? c=some o:=λc o c1 e=>a5.extBut _ _ c1 (a4.extBut _ _ c1 (z5 _ e));obtain a3:IsPair a2 B.objs.size x y:=a5.extBut _ _ (RM a7) (a4.extBut _ _ (RM a7) (C2 _ rfl));obtain hsz':s.heap.objs.size=B.objs.size:=hsz.symm;refine v9 (af (.ref B.objs.size) rfl (v9 ?_));rw[hsz]at ar a3 ⊢;exact hQ a2 ar (up _ _ D.TOz Y) (by refine ah kt λo ho r=>?_;exact(af o (up _ o D.i1z ho) r)) (by refine ah lr λo ho r=>?_;exact(af o (up _ o D.i2z ho) r)) a3 λc o c1 c2 c3 c4 e=>up c o c1 (jl c o c1 c2 c3 c4 e)
theorem Eh{z TI TO i1 i2 l1 l2:Addr}{k1 k2:Nat}{xs ys:Array Value}{a b:Value}{Q:Option Value->Shared->Prop}(hh:A.handled=none)(D:ZipApart z TI TO i1 i2 l1 l2) (hz:IsZip s.heap z TI TO .none) (hTI:IsPair s.heap TI (.ref i1) (.ref i2)) (hTO:IsPair s.heap TO a b) (h1:s.heap.IsTupleIter i1 l1 k1) (h2:s.heap.IsTupleIter i2 l2 k2) (hl1:s.heap.IsTuple l1 xs) (hl2:s.heap.IsTuple l2 ys) (hend:xs[k1]?=none\/ys[k2]?=none) (hQ:∀h',h'.get? TO≠none->(∀c o,c≠z->c≠TO->c≠i1->c≠i2->s.heap.get? c=some o->h'.get? c=some o)->Q none { s with heap:=h' }):wpAny (model prog w) A (pyNext (.ref z)) Q E s:=by
 have hT:s.TypeIs (.ref z) "zip":=(af _ hz rfl);refine r5 (wpAny_attempt (K2 (name:=Str.ofString "__next__") hT F.slot_zip_next (H9 F.slot_zip_next hT F.entry_zip_next ?_ (F.args_zip_next_1 _))));have fin:∀h' e,h'.get? TO≠none->(∀c o,c≠z->c≠TO->c≠i1->c≠i2->s.heap.get? c=some o->h'.get? c=some o)->(∃o,h'.get? e=some o/\o.cls=.type "StopIteration") ->
   wpAny (model prog w) A (do if <- isInstance (.ref e) (.type "StopIteration")then pure none else throw (.ref e):Sem (Option Value)) Q E { s with heap:=h' }:=λh' e ht hk ⟨o,ho,hc⟩=>by
  refine r5 (wpAny_isInstance (T:="StopIteration") (b:=true) (af o ho hc) isSubtype_stop ?_);exact v9 (hQ _ ht hk)
 show wpAny _ _ (field (.ref z) 2 >>= _) _ _ _;refine r5 (Rk hz rfl (x:=.bool false) rfl ?_);refine r5 (Rk hz rfl (x:=.ref TI) rfl ?_);refine r5 (N6 hTI rfl ?_);refine r5 ?_;refine r5 (Rk hz rfl (x:=.none) rfl (v9 ?_));rw[if_pos rfl];refine r5 (Ri ?_);refine r5 (Rk hz rfl (x:=.ref TO) rfl ?_);refine r5 (RE hz (by simp) λh₁ O B=>?_);replace O:IsZip h₁ z TI TO .ellipsis:=O;refine r5 ?_;refine mU (r5 (wpAny_onRaise ?_));rcases hx:xs[k1]? with _|x
 .refine r5 (Cb hh (w7 h1 B.extBut D.i1z) (w8 hl1 B.extBut D.l1z) hx λa0 e G he=>?_);refine ah he λoe Y ar=>?_;have as:IsZip a0 z TI TO .ellipsis:=G _ _ D.i1z.symm O;have a3:e≠z:=λx=>by subst x;rw[as]at Y;obtain rfl:=w4 Y;simp at ar
  refine RE as (by simp) λa2 _ J=>fin a2 e ?_ (λc o c1 _ c3 _ x=>J.extBut _ _ c1 (G _ _ c3 (B.extBut _ _ c1 x))) ⟨oe,J.extBut _ _ a3 Y,ar⟩;rw[J.extBut _ _ D.TOz (G _ _ D.TOi1 (B.extBut _ _ D.TOz hTO))];simp
 .obtain hy:ys[k2]?=none:=by rcases hend with h|h;rw[hx]at h;exact sn h;exact h
  refine r5 (sF (w7 h1 B.extBut D.i1z) (w8 hl1 B.extBut D.l1z) hx λa0 df G=>v9 ?_);obtain an:IsPair a0 TO a b:=G.extBut _ _ D.TOi1 (B.extBut _ _ D.TOz hTO);refine r5 (N6 an rfl ?_);refine r5 (wpAny_updateSeq_pair an λa2 a1 J=>?_);refine r5 (wpAny_letGo (v9 ?_));refine mU (r5 (wpAny_onRaise ?_));refine r5 (Cb hh (w7 (w7 (w7 h2 B.extBut D.i2z) G.extBut D.i12.symm) J.extBut D.TOi2.symm)
   (w8 (w8 (w8 hl2 B.extBut D.l2z) G.extBut D.l2i1) J.extBut D.l2TO) hy λc0 e Z he=>?_)
  refine ah he λoe Y ar=>?_;have av:IsZip c0 z TI TO .ellipsis:=Z _ _ D.i2z.symm (J.extBut _ _ D.TOz.symm (G.extBut _ _ D.i1z.symm O));have a3:e≠z:=λx=>by subst x;rw[av]at Y;obtain rfl:=w4 Y;simp at ar
  refine RE av (by simp) λmj _ ad=>fin mj e ?_ (λc o c1 c2 c3 c4 x=>ad.extBut _ _ c1 (Z _ _ c4 (J.extBut _ _ c2 (G.extBut _ _ c3 (B.extBut _ _ c1 x))))) ⟨oe,ad.extBut _ _ a3 Y,ar⟩;rw[ad.extBut _ _ D.TOz (Z _ _ D.TOi2 a1)];simp
end
end
section
variable{xs:Array Value}
noncomputable abbrev aW(h:Heap)(l1:Addr):Heap:=h.push { cls:=.type "tuple_iterator",data:=.fields #[.ref l1,.int 0 0] }
noncomputable abbrev bS(h:Heap)(l1 l2:Addr):Heap:=(aW h l1).push { cls:=.type "tuple_iterator",data:=.fields #[.ref l2,.int 0 0] }
noncomputable abbrev cI(h:Heap)(l1 l2:Addr):Heap:=(bS h l1 l2).push { cls:=.type "tuple",data:=.seq #[.ref h.objs.size,.ref (aW h l1).objs.size] }
noncomputable abbrev cW(h:Heap)(l1 l2:Addr):Heap:=(cI h l1 l2).push { cls:=.type "tuple",data:=.seq #[.none,.none] }
noncomputable abbrev eJ(h:Heap)(l1 l2:Addr):Heap:=(cW h l1 l2).push { cls:=.type "zip",data:=.fields #[.none,.bool false,.bool false,.ref (bS h l1 l2).objs.size,.ref (cI h l1 l2).objs.size] }
theorem AK(l1 l2:Addr)(xs ys:Array Value) : Meets (Builtin.«zip.__new__» ⟨[.type "zip",.ref l1,.ref l2],[]⟩) (λ_ R s=>s.heap.IsTuple l1 xs/\s.heap.IsTuple l2 ys /\
   R (.ok (.ret (.ref (cW s.heap l1 l2).objs.size))) { s with heap:=eJ s.heap l1 l2 }) :=
 .of_wp λprog w A R s h=>by
  obtain⟨hp,g,d,tk,os⟩:=s;refine ia h λG J h=>?_;have O:=sub_zip;have B:Heap.IsTuple (Shared.heap ⟨hp,g,d,tk,os⟩) l1 xs:=G;obtain F:Heap.IsTuple (Shared.heap ⟨hp.push { cls:=.type "tuple_iterator",data:=.fields #[.ref l1,.int 0 0] },g,d,tk,os⟩) l2 ys:=by refine ah J λo ho r=>?_;exact(af o (z5 _ ho) r)
  wp_walk using wpAny_pyIter_tuple B,wpAny_pyIter_tuple F
  exact(af _ rfl h)
section
variable{A:Around}
theorem CC{l1 l2:Addr}{ys:Array Value}{Q:a9}(G:s.heap.IsTuple l1 xs)(J:s.heap.IsTuple l2 ys) (h:∀h',IsZip h' (s.heap.objs.size+4) (s.heap.objs.size+2) (s.heap.objs.size+3) .none->IsPair h' (s.heap.objs.size+2) (.ref s.heap.objs.size) (.ref (s.heap.objs.size+1)) ->
   IsPair h' (s.heap.objs.size+3) .none .none->h'.IsTupleIter s.heap.objs.size l1 0->h'.IsTupleIter (s.heap.objs.size+1) l2 0 ->
   (∀c o,s.heap.get? c=some o->h'.get? c=some o)->Q (.ref (s.heap.objs.size+4)) { s with heap:=h' }) :
  wpAny (model prog w) A (call (.type "zip") [.ref l1,.ref l2]) Q E s:=by
 refine callType_new F.called_zip (by decide) (F.typeCall_zip_2 _ _) (F.newCall_zip_2 _ _) (λobj=>F.args_object_init_3 obj _ _) F.entry_zip_new (AK l1 l2 xs ys) (cH G J ?_);obtain O:(aW s.heap l1).objs.size=s.heap.objs.size+1:=Heap.size_push ..;have Y:(bS s.heap l1 l2).objs.size=s.heap.objs.size+2:=by rw[Heap.size_push,O]
 obtain Z:(cI s.heap l1 l2).objs.size=s.heap.objs.size+3:=by rw[Heap.size_push,Y]
 obtain z4:(cW s.heap l1 l2).objs.size=s.heap.objs.size+4:=by rw[Heap.size_push,Z]
 obtain B:(eJ s.heap l1 l2).get? (cW s.heap l1 l2).objs.size=some _:=C2 _ rfl;obtain g4:(eJ s.heap l1 l2).get? (cI s.heap l1 l2).objs.size=some _:=z5 _ (C2 _ rfl);obtain g3:(eJ s.heap l1 l2).get? (bS s.heap l1 l2).objs.size=some _:=z5 _ (z5 _ (C2 _ rfl));obtain g2:(eJ s.heap l1 l2).get? (aW s.heap l1).objs.size=some _:=z5 _ (z5 _ (z5 _ (C2 _ rfl)));obtain g1:(eJ s.heap l1 l2).get? s.heap.objs.size=some _:=z5 _ (z5 _ (z5 _ (z5 _ (C2 _ rfl))));rw[Y,Z,z4]at B;rw[O,Y]at g3;rw[Z]at g4;rw[O]at g2;rw[z4];exact⟨(af _ B rfl),h _ B g3 g4 (aN _ g1 rfl rfl) (aN _ g2 rfl rfl) λc o x =>
  z5 _ (z5 _ (z5 _ (z5 _ (z5 _ x))))⟩
end
section
variable{H:AH}{A:Around}{d:Nat}
theorem yV{ws:List V}{v:V}(h:(ij vs ws)[i]?=some v):∃a b,vs[i]?=some a/\ws[i]?=some b/\v=.tup [a,b]:=by unfold ij at h;rw[C5]at h;refine ah (E3.mp h) λp hp aW=>?_;subst aW;rw[List.getElem?_zip_eq_some]at hp;exact(bR p.1 p.2 hp.1 hp.2 rfl)
def Om(z TO i1 i2:Addr):Addr->Prop:=λb=>b=z\/b=TO\/b=i1\/b=i2
structure ZSt(sa:SX)(z TI TO i1 i2 l1 l2:Addr)(xs ys:Array Value)(vs ws:List V)(i:Nat)(h:Heap):Prop where
 z:IsZip h z TI TO .none
 p:IsPair h TI (.ref i1) (.ref i2)
 o:∃a b,IsPair h TO a b
 f:h.IsTupleIter i1 l1 i
 g:h.IsTupleIter i2 l2 i
 t:h.IsTuple l1 xs
 u:h.IsTuple l2 ys
 x:VRs sa h vs xs.toList
 y:VRs sa h ws ys.toList
def kW{sa:SX}{l:Addr}(tk:TupKeep sa h h')(m:¬sa.X l)(t:h.IsTuple l xs):h'.IsTuple l xs :=t.elim λo e=>(af o (tk _ _ m e.1 e.2.1 (gE _ e.2.2)) e.2)
theorem nt:¬Value.type "zip"=Value.type "tuple":=by decide
theorem ZSt.wt{sa:SX}{z TI TO i1 i2 l1 l2:Addr}{ys:Array Value}{ws:List V}(q:ZSt sa z TI TO i1 i2 l1 l2 xs ys vs ws i h)(hX:sa.X TO){c:Addr}(B:Om z TO i1 i2 c)(e:h.get? c=some o)(ht:o.cls=.type "tuple"):sa.X c:=by
 rcases B with rfl|rfl|rfl|rfl
 .obtain rfl:=w4 (q.z.symm.trans e);exact absurd ht nt
 .exact hX
 .exact q.f.elim λo' a=>by obtain rfl:=w4 (a.1.symm.trans e);rw[a.2.1]at ht;exact absurd ht (by decide)
 .exact q.g.elim λo' a=>by obtain rfl:=w4 (a.1.symm.trans e);rw[a.2.1]at ht;exact absurd ht (by decide)
theorem AA{F:List Expr}{kk:Nat}(hh:A.handled=none){z TI TO i1 i2 l1 l2:Addr}(D:ZipApart z TI TO i1 i2 l1 l2)(hX:L.X TO)(nz:¬L.X z)(O:¬L.X TI)(n1:¬L.X i1)(n2:¬L.X i2)(m1:¬L.X l1)(m2:¬L.X l2){ys:Array Value}{ws:List V} : Iter L A z (Om z TO i1 i2) (.Tuple F kk pos) none (ij vs ws) (ZSt L.sa z TI TO i1 i2 l1 l2 xs ys vs ws) where
 frame:=λi h h' q k tk=>⟨k _ _ (.inl rfl) q.z,tk _ _ O q.p rfl (zy _ _ rfl),q.o.elim λa e=>e.elim λb e=>(zy a b (k _ _ (.inr (.inl rfl)) e)),q.f.elim λo e=>(af o (k _ _ (.inr (.inr (.inl rfl))) e.1) e.2),q.g.elim λo e=>(af o (k _ _ (.inr (.inr (.inr rfl))) e.1) e.2),kW tk m1 q.t,kW tk m2 q.u,q.x.keep tk,q.y.keep tk⟩
 wt:=λi h q b o Y e ht=>q.wt hX Y e ht
 lw:=λi h q c hc=>by
  rcases hc with rfl|rfl|rfl|rfl
  .rw[q.z];exact sn
  .exact q.o.elim λa e=>e.elim λb e=>by rw[e];exact sn
  .exact q.f.elim λo e=>by rw[e.1];exact sn
  .exact q.g.elim λo e=>by rw[e.1];exact sn
 item:=λi v H s hv R hs q=>by refine bM (yV hv) λp r e1 e2 bS=>?_;subst bS;refine ah (q.x.get e1) λx x1 x2=>?_;refine ah (q.y.get e2) λy y1 y2=>?_;refine sI q.o λa b Q=>?_;refine Ei D q.z q.p Q q.f q.g q.t q.u (x:=x) (y:=y) (Array.getElem?_toList.symm.trans x1) (Array.getElem?_toList.symm.trans y1) λh' b1 b2 b3 b4 b5 k=>(af _ rfl ?_);refine wpAny_letOwnedTupleGo_zip b1 λB c1 sb=>?_;have k2:∀c o,¬Om z TO i1 i2 c->s.heap.get? c=some o->B.get? c=some o:=λc o hc e=>sb.extBut _ _ (λq=>hc (.inl q)) (k c o (λq=>hc (.inl q)) (λq=>hc (.inr (.inl q))) (λq=>hc (.inr (.inr (.inl q)))) (λq=>hc (.inr (.inr (.inr q)))) e);obtain tk:TupKeep L.sa s.heap B:=λc o nx e hc _=>k2 c o (λY=>nx (q.wt hX Y e hc)) e;exact(cH (t8 (R.nx (C6 (A8 _))) (aN _ (sb.extBut _ _ (RM (I4 q.z)) b5) rfl (gE 0 rfl)) (.cons (x2.keep tk) (.one (y2.keep tk)))) (⟨c1,tk _ _ O q.p rfl (zy _ _ rfl),(zy _ _ (sb.extBut _ _ D.TOz b2)),w7 b3 sb.extBut D.i1z,w7 b4 sb.extBut D.i2z,kW tk m1 q.t,kW tk m2 q.u,q.x.keep tk,q.y.keep tk⟩) (eU B s.toks rfl k2))
 done:=λH s R hs q=>by
  obtain Z:xs.size=vs.length:=q.x.length;have ad:ys.size=ws.length:=q.y.length;have hlen:(ij vs ws).length=min vs.length ws.length:=by simp[ij]
  have J:xs[(ij vs ws).length]?=none\/ys[(ij vs ws).length]?=none:=by
   rw[hlen];rcases F9 vs.length ws.length with h|h
   .exact .inl (Ry (by rw[Z,QZ h];exact A8 _))
   .exact .inr (Ry (by rw[ad,O9 h];exact A8 _))
  refine sI q.o λa b Q=>?_;refine Eh hh D q.z q.p Q q.f q.g q.t q.u J λh' ht k=>(cH rfl (eU h' s.toks rfl (λc o hc e=>k c o (λq=>hc (.inl q)) (λq=>hc (.inr (.inl q))) (λq=>hc (.inr (.inr (.inl q)))) (λq=>hc (.inr (.inr (.inr q)))) e)) (λc hc=>?_));by_cases G:c=TO
  .rw[G];exact ht
  .rcases e:s.heap.get? c with _|o
   .exact absurd e (R.ex c hc)
   .rw[k c o (λq=>nz (q▸hc)) G (λq=>n1 (q▸hc)) (λq=>n2 (q▸hc)) e];exact sn
 self:=λi s st=>wpAny_pyIter_zip st.1 ⟨rfl,rfl⟩
end
end
section
variable{K:pX->List V->AH->Prop}
section
variable{H:AH}{A:Around}{d:Nat}
theorem ForPost.after{H₀:AH}{c:Value}(S:aj L env H₀ H s₀ s)(h:ForPost L env loc A tgt H s K c s'):ForPost L env loc A tgt H₀ s₀ K c s':=by obtain⟨X',F,Y,Z,I,W,vs,src,St,H',a,b,c',J,hW,hn,hs,Q,O,G⟩:=h;obtain nn:∀x,s.heap.get? x=none->s₀.heap.get? x=none:=λx B=>Decidable.byContradiction λz=>S.st.live x z B;exact⟨X',F,Y,λx B=>(Z x B).imp id (nn x),I,W,vs,src,St,H',a,b,c',J,hW,λx B=>nn x (hn x B),hs,S.trans Q,O,G⟩
theorem aF.wide{B:∀b,X' b->L.base.get? b=none}(R:aF L H h)(hX:∀b,X' b->L.X b\/h.get? b=none)(k:∀b o,h.get? b=some o->h'.get? b=some o)(ex:∀b,X' b->h'.get? b≠none):aF ⟨L.toSx,X',B⟩ H h' :=⟨λb o e=>k b o (R.base b o e),R.fresh,λa o e=>by refine ah (R.obj a o e) λob F G=>?_;exact(af ob (k _ _ F) ((ORel.wide hX G).keep (r8 k))),ex⟩
theorem QW(n l1 l2:Nat)(B:l1<n)(F:l2<n):ZipApart (n+4) (n+2) (n+3) n (n+1) l1 l2:=by constructor <;> exact(show(_:Nat)≠_ from by(first|exact PC|exact PD|exact PE|exact PF|exact Nv|exact IP|exact IQ|exact IR|exact IS|exact IT|exact EI B|exact EJ B|exact AV B|exact EK B|exact EI F|exact EJ F|exact AV F|exact EK F))
theorem Qh{n:Nat}(h:b<n):b≠n+k:=by exact IU h
theorem Eg(hh:A.handled=none)(F:ae L env loc H s.heap)(R:aF L H s.heap){Z:List Expr}{kk:Nat}{ws:List V}{cw:Value}(rv:VR L.sa s.heap (.tup vs) cv)(a6:VR L.sa s.heap (.tup ws) cw)(q:K none (ij vs ws) H) : a8 L A (call (.type "zip") [cv,cw]) (λxv ac=>a8 L A (pyIter xv) (ForPost L env loc A (.Tuple Z kk pos) H s K) aI ac) aI s:=by
 refine uV rv λl1 xs n1 bS a4 cI r1=>?_;subst bS;refine bE cI λo1 ho1 an ar=>?_;refine uV a6 λl2 ys n2 cW a5 eJ r2=>?_;subst cW;refine bE eJ λo2 Y hc2 as=>?_;obtain t1:s.heap.IsTuple l1 xs:=(aN o1 ho1 an (gE n1 ar));obtain t2:s.heap.IsTuple l2 ys:=(aN o2 Y hc2 (gE n2 as));refine CC t1 t2 λh' hz a1 ad a2 a3 k=>?_;refine wpAny_pyIter_zip hz ?_;have fr:∀b,s.heap.objs.size<=b->s.heap.get? b=none:=λb B=>C6 B;obtain nX:∀b,s.heap.objs.size<=b->¬L.X b:=λb B=>R.nx (fr b B);obtain av:=I4 ho1;obtain a0:=I4 Y
 let X':Addr->Prop:=λb=>L.X b\/b=s.heap.objs.size+3
 have O:∀b,X' b->L.base.get? b=none:=λb B=>B.elim (L.hX b) λe=>by rw[e];exact(R.free (fr _ (by exact AW))).2
 have J:∀b,X' b->L.X b\/s.heap.get? b=none:=λb B=>B.imp id λe=>by rw[e];exact fr _ AW
 obtain ex:∀b,X' b->h'.get? b≠none:=λb B=>B.elim (λB=>Oh (R.ex b B) λo e=>k b o e) λe=>e▸Gr ad;obtain S:ax L eA H H s { s with heap:=h' }:=t9 R rfl rfl k;obtain R':aF ⟨L.toSx,X',O⟩ H h':=R.wide J k ex;obtain F':ae ⟨L.toSx,X',O⟩ env loc H h':=(F.wide J).stepNo (s':={ s with heap:=h' }) (S.wide (λ_ h=>.inl h) R');obtain D:ZipApart (s.heap.objs.size+4) (s.heap.objs.size+2) (s.heap.objs.size+3) s.heap.objs.size (s.heap.objs.size+1) l1 l2:=QW _ _ _ av a0;obtain Q:∀b,s.heap.objs.size<=b->b≠s.heap.objs.size+3->¬X' b:=λb B hn z=>z.elim (nX b B) hn;have G:∀b,Om (s.heap.objs.size+4) (s.heap.objs.size+3) s.heap.objs.size (s.heap.objs.size+1) b->s.heap.get? b=none:=λb B=>fr b (by rcases B with rfl|rfl|rfl|rfl <;>(first|exact EL|exact AW|exact AX|exact AY));obtain tk:TupKeep L.sa s.heap h':=r8 k;refine⟨X',O,λ_ h=>.inl h,J,_,_,ij vs ws,none,_,H,q,rfl,?_,AA (L:=⟨L.toSx,X',O⟩) hh D (.inr rfl) (Q _ EL IV) (Q _ IW Nv) (Q _ AX IX) (Q _ AY IY) (λz=>z.elim a4 λe=>Qh av e) (λz=>z.elim a5 λe=>Qh a0 e) (xs:=xs) (ys:=ys) (vs:=vs) (ws:=ws),⟨λb B=>(R.free (G b B)).1,λb B=>(R.free (G b B)).2,λB=>?_,λn c e B=>?_⟩,G,trivial,S.toE F.lH,R',F'⟩
 .exact⟨hz,a1,(zy _ _ ad),a2,a3,(aN o1 (k _ _ ho1) an (gE n1 ar)),(aN o2 (k _ _ Y) hc2 (gE n2 as)),(VRs.wide (sa:=L.sa) J r1).keep (r8 k),(VRs.wide (sa:=L.sa) J r2).keep (r8 k)⟩
 .refine ah F.ns λm a7 _=>?_;refine nC a7 λo _ _ e _=>?_;exact nn (G _ B) e
 .refine ia (F.cell n c e) λ_ _ bc=>?_;refine cG bc λ_ o e' _=>?_;exact nn (G _ B) e'
theorem CU(C:aO L.toSx)(PO:∀p,aU L p){a b:ME}{x:Expr}(hc:wM env.scope.names (.zip a b) x=true)(ht:kL (.zip a b) tgt=true)(F:ae L env loc H s.heap)(R:aF L H s.heap)(hr:Room A d)(h:lR L.toSx d (.zip a b) loc H K) : a8 L A (eval x env) (λxv ac=>a8 L A (pyIter xv) (ForPost L env loc A tgt H s K) aI ac) aI s:=by refine cL hc λg as ks p hk=>bf hk λid ip hk=>gU hk λy z hk=>bW ht λan kk pos _=>?_;obtain k1:=aa hk;have k2:=aa k1.2;have J:=aa k2.2;obtain g0:=aa k2.1;obtain g1:=aa g0.1;obtain rfl:=J3 g1.1;rw[J2.mp k1.1];refine pD C.ns λmg mb G B _ _ Y=>?_;refine cf (Y ("zip",.type "zip") (bi (i:=12) rfl)) λhm hv=>?_;refine Call_ (jq F R G B g1.2 g0.2 hm hv (PyProof.Rows.callWith_type1 (e:=y) (rest:=[z]) ?_ (cK J.1 [z] env) (by rw[BH (λrest=>cK J.2 rest env)];rfl)));rw[ey J.1,ey J.2];refine RA (bk (sE C PO a J.1 F R hr h) λv H1 c s1 h1 r1 O=>RA (bk (sE C PO b J.2 (F.estep O) O.st.rel hr h1) λu H2 c2 s2 h2 r2 Q=>Calls.spliced_nil ?_));refine pD h2 λvs ws Z ad _ _ q=>?_;subst Z;subst ad;exact B6 (Eg hr.1 ((F.estep O).estep Q) Q.st.rel (r1.keep Q.st.tup) r2 q) (λxv s3 h3=>B6 h3 (λ_ _ h=>ForPost.after (O.trans Q) h) λ_ _ e=>e) λ_ _ e=>e
def qx(C:aO L.toSx)(PO:∀p,aU L p){it:MIt}{x:Expr}(hc:lX env.scope.names it x=true)(ht:cC tgt=true)(F:ae L env loc H s.heap)(R:aF L H s.heap)(hr:Room A d)(h:lR L.toSx d it loc H K) : a8 L A (eval x env) (λJ ac=>a8 L A (pyIter J) (ForPost L env loc A tgt H s K) aI ac) aI s :=B6 (QK C PO it hc ht F R hr h) (λ_ _ B=>B6 B (λ_ _ G=>ForPost.of F G) λ_ _ e=>e) λ_ _ e=>e
end
end
section
variable{H:AH}{A:Around}{d:Nat}
theorem qr{v:V}(h:(ie vs)[i]?=some v):∃a,vs[i]?=some a/\v=.tup [.int (i:Int),a]:=by unfold ie at h;rw[C5]at h;refine ah (E3.mp h) λp hp aW=>?_;subst aW;rw[List.getElem?_zipIdx]at hp;refine ah (E3.mp hp) λa ha e=>?_;subst e;exact(af a ha (by rw[Q0]))
theorem qs(vs:List V):(ie vs).length=vs.length:=by unfold ie;rw[u7,List.length_zipIdx]
structure ESt(e it l:Addr)(i:Nat)(h:Heap):Prop where
 e:∃old,IsEnum h e it ((i:Nat):Int) old
 f:h.IsListIter it l i
theorem ESt.wt{e l:Addr}(q:ESt e it l i h){c:Addr}(B:c=e\/c=it)(x:h.get? c=some o)(ht:o.cls=.type "tuple"):False:=by
 rcases B with rfl|rfl
 .exact q.e.elim λa b=>by obtain rfl:=w4 (b.symm.trans x);exact absurd ht (show ¬Value.type "enumerate"=Value.type "tuple" from by decide)
 .exact q.f.elim λo' a=>by obtain rfl:=w4 (a.1.symm.trans x);rw[a.2.1]at ht;exact absurd ht (by decide)
theorem yG{F:List Expr}{kk:Nat}(hh:A.handled=none){e l:Addr}(G:e≠it)(n1:¬L.X e)(n2:¬L.X it) : Iter L A e (λb=>b=e\/b=it) (.Tuple F kk pos) (some (l,vs)) (ie vs) (ESt e it l) where
 frame:=λi h h' q k tk=>⟨q.e.elim λo x=>⟨o,k _ _ (.inl rfl) x⟩,q.f.elim λo x=>(af o (k _ _ (.inr rfl) x.1) x.2)⟩
 wt:=λi h q b o O x ht=>(q.wt O x ht).elim
 lw:=λi h q c hc=>by
  rcases hc with rfl|rfl
  .exact q.e.elim λo x=>Gr x
  .exact q.f.elim λo x=>Gr x.1
 item:=λi v H s hv R hs q=>by refine ah (qr hv) λp e1 bS=>?_;subst bS;refine cG (ao R hs) λcvs n ho Q=>?_;refine ah (Q.get e1) λc h5 h6=>?_;refine bL q.e λold J=>?_;refine wpAny_pyNext_enum_item J q.f (aN _ ho rfl (gE n rfl)) (x:=c) (Array.getElem?_toList.symm.trans h5) G λh' b1 b2 Y _ k=>(af _ rfl ?_);refine wpAny_letOwnedTupleGo_enum b1 λB Z sb=>?_;have k2:∀c o,¬(c=e\/c=it)->s.heap.get? c=some o->B.get? c=some o:=λc o hc x=>sb.extBut _ _ (λq=>hc (.inl q)) (k c o (λq=>hc (.inl q)) (λq=>hc (.inr q)) x);obtain tk:TupKeep L.sa s.heap B:=λc o nx x hc _=>k2 c o (λO=>q.wt O x hc) x;exact(cH (t8 (R.nx (C6 (A8 _))) (aN _ (sb.extBut _ _ (RM (I4 J)) Y) rfl (gE 0 rfl)) (.cons (s9 _ _) (.one (h6.keep tk)))) ⟨⟨_,Z⟩,b2.elim λo x=>(af o ((sb.2 _ G.symm).trans x.1) x.2)⟩ (eU B (s.toks+1) rfl k2))
 done:=λH s R hs q=>by refine cG (ao R hs) λcvs n ho Q=>?_;obtain hl:cvs.size=vs.length:=Q.length;refine bL q.e λold J=>?_;refine wpAny_pyNext_enum_end hh J q.f (aN _ ho rfl (gE n rfl)) (Ry (by rw[hl,qs];exact A8 _)) λh' k=>(cH rfl (eU h' s.toks rfl (λc o hc x=>k c o (λq=>hc (.inr q)) x)) (mX R.ex λb o x hX=>k b o (λz=>n2 (z▸hX)) x))
 self:=λi s st=>st.e.elim λo x=>wpAny_pyIter_enum x ⟨rfl,rfl⟩
theorem Ah(Z:A.handled=none)(F:ae L env loc H s.heap)(R:aF L H s.heap){J:List Expr}{kk:Nat}{l:Addr}(hl:H l=some (.list vs)){K:pX->List V->AH->Prop}(q:K (some (l,vs)) (ie vs) H) : a8 L A (call (.type "enumerate") [.ref l]) (λxv ac=>a8 L A (pyIter xv) (ForPost L env loc A (.Tuple J kk pos) H s K) aI ac) aI s:=by
 refine cG (ao R hl) λcvs n ho ra=>?_;refine call_enumerate_list (aN _ ho rfl (gE n rfl)) λh' Y hit _ k=>?_;refine wpAny_pyIter_enum Y ?_;obtain fr:∀b,s.heap.objs.size<=b->s.heap.get? b=none:=λb B=>C6 B;have G:∀b,(b=s.heap.objs.size+1\/b=s.heap.objs.size)->s.heap.get? b=none:=λb B=>fr b (by rcases B with rfl|rfl;exact Rz _;exact A8 _);obtain S:ax L eA H H s { s with heap:=h' }:=t9 R rfl rfl k;refine ForPost.of F ⟨_,_,ie vs,some (l,vs),_,H,q,rfl,⟨(gE _ Y),hit⟩,yG Z (Nat.succ_ne_self _) (R.nx (G _ (.inl rfl))) (R.nx (G _ (.inr rfl))),⟨λb B=>(R.free (G b B)).1,λb B=>(R.free (G b B)).2,λB=>?_,λn c e B=>?_⟩,G,hl,S.toE F.lH⟩
 .refine ah F.ns λm O _=>?_;refine nC O λo _ _ e _=>?_;exact nn (G _ B) e
 .refine ia (F.cell n c e) λ_ _ Q=>?_;refine cG Q λ_ o e' _=>?_;exact nn (G _ B) e'
theorem Ar(C:aO L.toSx)(PO:∀p,aU L p){a:ME}{x:Expr}{K:pX->List V->AH->Prop}(hc:wM env.scope.names (.enum a) x=true)(ht:kL (.enum a) tgt=true)(F:ae L env loc H s.heap)(R:aF L H s.heap)(hr:Room A d)(h:lR L.toSx d (.enum a) loc H K) : a8 L A (eval x env) (λO ac=>a8 L A (pyIter O) (ForPost L env loc A tgt H s K) aI ac) aI s:=by refine cL hc λg as ks p hk=>bf hk λid ip hk=>fv hk λy hk=>bW ht λJ kk pos _=>?_;obtain k1:=aa hk;obtain k2:=aa k1.2;rw[J2.mp k1.1];refine rW C F R (bi (i:=13) rfl) k2.1 (λrest=>cK k2.2 rest env) (bk (sE C PO a k2.2 F R hr h) λv H1 c s1 Q Z B=>?_);refine sJ Q λb vs G e _ q=>?_;subst G;rw[Z.ref_inv];exact B6 (Ah hr.1 (F.estep B) B.st.rel e q) (λO s3 Y=>B6 Y (λ_ _ h=>ForPost.after B h) λ_ _ e=>e) λ_ _ e=>e
end
noncomputable def Ask(r:Nat->Nat)(n:Nat):KasT α->(α->Prop)->Prop
 | .ret a,G=>G a
 | .ask i j k,G=>i<n/\j<n/\Ask r n (k (decide (r i<r j))) G
section
variable{r:Nat->Nat}{n:Nat}
theorem Ask.bind{f:α->KasT β}{G:β->Prop}:∀{t:KasT α},Ask r n t (λa=>Ask r n (f a) G)->Ask r n (t.bind f) G
 | .ret a,h=>h
 | .ask i j k,h=>(cH h.1 h.2.1 (Ask.bind h.2.2))
theorem Ask.mono{G B:α->Prop}(q:∀a,G a->B a):∀{t:KasT α},Ask r n t G->Ask r n t B
 | .ret a,h=>q a h
 | .ask i j k,h=>(cH h.1 h.2.1 (Ask.mono q h.2.2))
theorem Ask.wp{G:α->Prop}{cmp:Nat->Nat->(b7)->Shared->Prop}{I:Shared->Prop}(hc:∀i j (C:b7) s,i<n->j<n->I s->(∀s',I s'->C (decide (r i<r j)) s')->cmp i j C s) : ∀{t:KasT α}{s:Shared}{Q:α->Shared->Prop},Ask r n t G->I s->(∀a s',G a->I s'->Q a s')->t.kasWp cmp Q s
 | .ret a,s,Q,h,B,q=>q a s h B
 | .ask i j k,s,Q,h,B,q=>hc i j _ s h.1 h.2.1 B λs' F=>Ask.wp hc h.2.2 F q
noncomputable def rk(r:Nat->Nat)(p:Array Nat)(i:Nat):Nat:=r (p.getD i 0)
theorem w9{k:Bool->KasT α}{G:α->Prop}(hi:p.getD i 0<n)(F:p.getD j 0<n)(B:rk r p i<rk r p j->Ask r n (k true) G)(J:rk r p j<=rk r p i->Ask r n (k false) G):Ask r n (.ask (p.getD i 0) (p.getD j 0) k) G:=by
 refine(cH hi F ?_);by_cases h:rk r p i<rk r p j
 .rw[show decide (r (p.getD i 0)<r (p.getD j 0))=true from E4 h];exact B h
 .rw[show decide (r (p.getD i 0)<r (p.getD j 0))=false from E6 h];exact J (C4 h)
structure PP(n:Nat)(p:Array Nat):Prop where
 size:p.size=n
 perm:p.toList.Perm (List.range n)
theorem PP.lt(h:PP n p)(hi:i<n):p.getD i 0<n:=by
 obtain B:i<p.size:=by rw[h.size];exact hi
 have:p.getD i 0∈p.toList:=by rw[Array.getD,dif_pos B];exact Q5.mpr (Array.getElem_mem B)
 exact F8.mp (h.perm.mem_iff.mp this)
theorem iW{q:Array Nat}(h:p[i]?=q[j]?):rk r p i=rk r q j:=by unfold rk;rw[Array.getD_eq_getD_getElem?,Array.getD_eq_getD_getElem?,h]
theorem PP.rev(h:PP n p)(i j:Nat):PP n (kas_rev p i j) :=⟨by rw[<- h.size];exact mirror_size _ _ _ _,(Array.perm_iff_toList_perm.mp (mirror_perm p i j _)).trans h.perm⟩
theorem PP.bubble(h:PP n p)(k d:Nat):PP n (bubble p k d) :=⟨by rw[<- h.size];exact bubble_size _ _ _,(Array.perm_iff_toList_perm.mp (bubble_perm p k d)).trans h.perm⟩
theorem vX(B:j<=p.size)(k:Nat):rk r (kas_rev p i j) k=if i<=k/\k<j then rk r p (i+j-1-k)else rk r p k:=by
 obtain e:=getElem?_mirror_all (xs:=p) (i:=i) B k;by_cases h:i<=k/\k<j
 .rw[if_pos h]at e ⊢;exact iW e
 .rw[if_neg h]at e ⊢;exact iW e
theorem zb{l:Nat}(hs:k<p.size)(hl:l<=k):(∀i,i<l->rk r (bubble p k (k-l)) i=rk r p i)/\rk r (bubble p k (k-l)) l=rk r p k/\∀i,l<=i->i<k->rk r (bubble p k (k-l)) (i+1)=rk r p i:=by
 obtain e:=getElem?_bubble hs (k-l) (RQ k l);rw[Nat.sub_sub_self hl]at e;refine⟨λi hi=>iW ?_,iW ?_,λi B F=>iW ?_⟩
 .obtain e:=e i;rwa [if_neg (G7 hi),if_neg λz=>Nat.lt_asymm hi z.1]at e
 .obtain e:=e l;rwa [if_pos rfl]at e
 .obtain e:=e (i+1);rwa [if_neg (RM (Rr B)),if_pos ⟨Rr B,F⟩]at e
def Up(r:Nat->Nat)(p:Array Nat)(k:Nat):Prop:=∀i j,i<=j->j<k->rk r p i<=rk r p j
def Down(r:Nat->Nat)(p:Array Nat)(k:Nat):Prop:=∀i j,i<=j->j<k->rk r p j<=rk r p i
theorem eV{f n:Nat}(h:m+(f+1)<=n):m<n:=E9 (Nat.lt_add_of_pos_right (P1 f)) h
theorem jb{f n:Nat}(h:m+(f+1)<=n):m+1+f<=n:=by rw[Nat.add_right_comm];exact h
theorem nh{n:Nat}(h:m<n):m-1<n:=A6 (RQ m 1) h
def kR(h:1<=m):m-1<m:=Nat.sub_lt h Nat.one_pos
theorem Up.one:Up r p 1:=λi j B F=>by obtain rfl:=Nat.lt_one_iff.mp F;obtain rfl:=Nat.le_zero.mp B;exact A8 _
theorem Up.succ(J:Up r p m)(O:1<=m)(h:rk r p (m-1)<=rk r p m):Up r p (m+1):=λi j B Q=>by
 rcases RD (G8 Q)with G|rfl
 .exact J i j B G
 .rcases RD B with F|rfl
  .exact u0 (J i (j-1) (Nat.le_sub_one_of_lt F) (kR O)) h
  .exact A8 _
theorem Down.succ(J:Down r p m)(O:1<=m)(h:rk r p m<=rk r p (m-1)):Down r p (m+1):=λi j B Q=>by
 rcases RD (G8 Q)with G|rfl
 .exact J i j B G
 .rcases RD B with F|rfl
  .exact u0 h (J i (j-1) (Nat.le_sub_one_of_lt F) (kR O))
  .exact A8 _
theorem rp(hp:PP n p){G:Nat->Prop}:∀(f m:Nat),m+f<=n->1<=m->Up r p m->(∀B,1<=B->B<=n->Up r p B->(B=m+f\/(B<n/\rk r p B<rk r p (B-1)))->G B)->Ask r n (kas_asc p f m) G
 |0,m,F,J,Q,O=>O m J F Q (.inl rfl)
 |f+1,m,F,J,Q,O=>w9 (hp.lt (eV F)) (hp.lt (nh (eV F))) (λh=>O m J (D5 (eV F)) Q (.inr ⟨eV F,h⟩))
   λh=>rp hp f (m+1) (jb F) (P1 m) (Q.succ J h) λB a b c d=>O B a b c (d.imp (λe=>e.trans (Nat.add_right_comm m 1 f)) id)
theorem qQ(F:j<=p.size)(B:∀k,i<=k->k<j->rk r p k=rk r p (j-1))(k:Nat):rk r (kas_rev p i j) k=rk r p k:=by
 rw[vX F];by_cases h:i<=k/\k<j
 .rw[if_pos h,B k h.1 h.2,B _ (IZ h.2) (Ja h.1 h.2)]
 .rw[if_neg h]
structure Fall(r:Nat->Nat)(n:Nat)(p:Array Nat)(m q:Nat):Prop where
 pp:PP n p
 le:m<=n
 hq:q+1<=m
 down:Down r p m
 eq:∀k,m-(q+1)<=k->k<m->rk r p k=rk r p (m-1)
theorem Fall.turn{q:Nat}(F:Fall r n p m q)(k:Nat):rk r (kas_rev p (m-(q+1)) m) k=rk r p k:=qQ (by rw[F.pp.size];exact F.le) F.eq k
theorem Down.congr{B:Array Nat}(h:Down r p m)(e:∀k,rk r B k=rk r p k):Down r B m:=λi j a b=>by rw[e,e];exact h i j a b
theorem Fall.next{B:Array Nat}{q:Nat}(F:Fall r n p m q)(hm:m<n)(h:rk r p m<=rk r p (m-1))(hp:PP n B)(e:∀k,rk r B k=rk r p k):Fall r n B (m+1) 0 :=⟨hp,hm,E0 (E1 m),(F.down.succ (u0 (P1 q) F.hq) h).congr e,λk G J=>by rw[C8 (G8 J) G];rfl⟩
theorem Fall.same{q:Nat}(F:Fall r n p m q)(hm:m<n)(h:rk r p m<=rk r p (m-1))(h':rk r p m<=rk r p (m-1)/\rk r p (m-1)<=rk r p m):Fall r n p (m+1) (q+1) :=
 ⟨F.pp,hm,E0 F.hq,F.down.succ (u0 (P1 q) F.hq) h,λk B G=>by
  rcases RD (G8 G)with hk|rfl
  .rw[F.eq k (by rwa [Nat.succ_sub_succ]at B) hk];exact C8 h'.2 h'.1
  .rfl⟩
theorem kC{G:Array Nat×Nat×Nat->Prop}:∀(f:Nat)(p:Array Nat)(m q:Nat),m+f<=n->Fall r n p m q->(∀Q O Y,Fall r n Q O Y->G (Q,O,Y))->Ask r n (kas_desc f p m q) G
 |0,p,m,q,_,F,B=>B p m q F
 |f+1,p,m,q,J,F,B=>by
  obtain hm:=eV J;refine w9 (F.pp.lt hm) (F.pp.lt (nh hm)) (λh=>?_) λh=>w9 (F.pp.lt (nh hm)) (F.pp.lt hm) (λh'=>B p m q F) λh'=>kC f p (m+1) (q+1) (jb J) (F.same hm h' ⟨h',h⟩) B;show Ask r n (if q>0 then _ else _) G;by_cases hq:q>0
  .rw[if_pos hq];exact kC f _ (m+1) 0 (jb J) (F.next hm (D5 h) (F.pp.rev _ _) F.turn) B
  .rw[if_neg hq];exact kC f _ (m+1) 0 (jb J) (F.next hm (D5 h) F.pp λ_=>rfl) B
theorem Up.rev(hm:m<=p.size)(h:Down r p m):Up r (kas_rev p 0 m) m:=by intro i j B F;obtain hi:=A6 B F;rw[vX hm,vX hm,if_pos ⟨E1 i,hi⟩,if_pos ⟨E1 j,F⟩,Q0];exact h _ _ (Nat.sub_le_sub_left B _) (A6 (RQ _ i) (kR (A6 (E1 i) hi)))
abbrev On(r:Nat->Nat)(n:Nat)(x:Nat×Array Nat):Prop:=PP n x.2/\1<=x.1/\x.1<=n/\Up r x.2 x.1
theorem qc(hp:PP n p)(B:1<=m)(hm:m<=n)(hd:Down r p m):Ask r n (kas_tail3 m n p) (On r n) :=Ask.bind (rp (hp.rev 0 m) (n-m) m (u4 (Rc hm)) B (Up.rev (by rw[hp.size];exact hm) hd) λF a b c _=>(qZ (hp.rev 0 m) a b c))
theorem kD(hp:PP n p)(B:1<=m)(hm:m<n)(hd:Down r p m)(hl:rk r p m<rk r p (m-1)):Ask r n (kas_descPart m n p) (On r n):=by
 refine Ask.bind (kC (n-(m+1)) p (m+1) 0 (u4 (Rc hm)) ⟨hp,hm,E0 (E1 m),hd.succ B (D5 hl),λk B J=>by rw[C8 (G8 J) B];rfl⟩ λQ O G F=>?_);obtain B:=u0 (P1 G) F.hq;by_cases hq:G>0
 .rw[if_pos hq];exact qc (F.pp.rev _ _) B F.le (F.down.congr F.turn)
 .rw[if_neg hq];exact qc F.pp B F.le F.down
theorem Down.one(h:¬m>1):Down r p m:=λi j B F=>by obtain F:=Nat.lt_one_iff.mp (E9 F (C4 h));subst F;obtain rfl:=Nat.le_zero.mp B;exact A8 _
theorem ye(hp:PP n p)(J:1<=n):Ask r n (kas_count n p) (On r n):=by
 refine Ask.bind (rp hp (n-1) 1 (u4 (Rc J)) (A8 _) Up.one λm a b c d=>?_);by_cases G:m=n
 .rw[if_pos (N4.mpr G)];exact(qZ hp a b c)
 .rw[if_neg (mt N4.mp G)];refine cf (show m<n/\rk r p m<rk r p (m-1)from d.elim (λe=>absurd (e.trans (Rc J)) G) id) λhm hl=>?_;by_cases F:m>1
  .rw[if_pos F];refine w9 (hp.lt J) (hp.lt (nh hm)) (λh=>(qZ hp a b c)) λh=>?_;have B:∀k,0<=k->k<m->rk r p k=rk r p (m-1):=λk _ hk=>C8 (c k (m-1) (Nat.le_sub_one_of_lt hk) (kR a)) (u0 h (c 0 k (E1 _) hk));have hk:=qQ (r:=r) (p:=p) (i:=0) (j:=m) (by rw[hp.size];exact b) B;exact kD (hp.rev 0 m) a hm (λi j O Q=>by rw[hk,hk,B i (E1 _) (A6 O Q),B j (E1 _) Q];exact A8 _) (by rw[hk,hk];exact hl)
  .rw[if_neg F];exact kD hp a hm (Down.one F) hl
theorem CX{l u:Nat}(h:¬l≥u):l<=(l+u)/2/\(l+u)/2<u:=by exact Jb h
theorem lh(hp:PP n p)(hk:k<n)(hu:Up r p k){G:Nat->Prop}(Z:∀l,l<=k->(∀i,i<l->rk r p i<=rk r p k)->(∀i,l<=i->i<k->rk r p k<rk r p i)->G l) : ∀(f l u:Nat),l<=u->u<=k->u-l<=f->(∀i,i<l->rk r p i<=rk r p k)->(∀i,u<=i->i<k->rk r p k<rk r p i)->Ask r n (kas_place p k f l u) G
 |0,l,u,h1,J,O,Q,Y=>by have e:l=u:=C8 h1 (Nat.sub_eq_zero_iff_le.mp (Nat.le_zero.mp O));subst e;exact Z l J Q Y
 |f+1,l,u,h1,J,O,Q,Y=>by
  show Ask r n (if l≥u then _ else _) G;by_cases B:l≥u
  .rw[if_pos B];obtain rfl:=C8 h1 B;exact Z l J Q Y
  .rw[if_neg B];refine cf (CX B) λha hb=>?_;have F:=E9 hb J;exact w9 (hp.lt hk) (hp.lt (E7 F hk)) (λh=>lh hp hk hu Z f l _ ha (D5 F) (G8 (E9 (Nat.sub_lt_sub_right ha hb) O)) Q λi a b=>E9 h (hu _ i a b))
    λh=>lh hp hk hu Z f _ u hb J (G8 (E9 (Nat.sub_lt_sub_left (Nat.lt_of_not_le B) (Rr ha)) O)) (λi a=>u0 (hu i _ (G8 a) F) h) Y
abbrev rf(r:Nat->Nat)(n:Nat)(p:Array Nat):Prop:=PP n p/\Up r p n
theorem Up.put{l:Nat}(hs:k<p.size)(hl:l<=k)(J:Up r p k)(Q:∀i,i<l->rk r p i<=rk r p k)(Y:∀i,l<=i->i<k->rk r p k<rk r p i):Up r (bubble p k (k-l)) (k+1):=by
 refine ia (zb (r:=r) hs hl) λb1 b2 O=>?_;intro i j B Z;rcases Nat.lt_trichotomy j l with h|rfl|h
 .rw[b1 j h,b1 i (A6 B h)];exact J i j B (E9 h hl)
 .rw[b2];rcases RD B with h|rfl
  .rw[b1 i h];exact Q i h
  .rw[b2];exact A8 _
 .rcases j with _|j
  .exact absurd h (J4 l)
  .have G:=G8 h;have F:=Nat.lt_of_succ_lt_succ Z;rw[O j G F];rcases Nat.lt_trichotomy i l with h|rfl|h
   .rw[b1 i h];exact J i j (u0 (D5 h) G) F
   .rw[b2];exact D5 (Y j G F)
   .rcases i with _|i
    .exact absurd h (J4 l)
    .rw[O i (G8 h) (E9 (K6 i) (u0 B F))];exact J i j (Nat.le_of_succ_le_succ B) F
theorem wK:∀(f:Nat)(p:Array Nat)(k:Nat),PP n p->k+f=n->Up r p k->Ask r n (kas_bin f p k) (rf r n)
 |0,p,k,hp,hk,F=>⟨hp,(show k=n from hk)▸F⟩
 |f+1,p,k,hp,hk,F =>
  have B:=eV (u4 hk)
  Ask.bind (lh hp B F (λl hl G J=>wK f _ (k+1) (hp.bubble _ _) ((Nat.add_right_comm k 1 f).trans hk) (Up.put (by rw[hp.size];exact B) hl F G J)) k 0 k (E1 _) (A8 _) (A8 _) (λi hi=>absurd hi (J4 _)) λi a b=>absurd b (Nat.not_lt.mpr a))
end
theorem zJ{r:Nat->Nat}{n:Nat}(B:1<=n):Ask r n (kas_sort n) (rf r n):=by
 obtain hp:PP n (List.toArray (List.range n)):=⟨Rp,L5 _⟩;refine Ask.bind (Ask.mono (λx F=>?_) (ye hp B));refine Ee F λa b c d=>?_;show Ask r n (if x.1<n then _ else _) _;rw[N5 b];by_cases h:x.1<n
 .rw[if_pos h];exact wK _ _ _ a (Rc c) d
 .rw[if_neg h];exact⟨a,C8 c (C4 h)▸d⟩
mutual
theorem kz:∀(v:V),fA v v=false
 | .int i=>E6 (Int.lt_irrefl i)
 | .str s=>E6 (String.lt_irrefl s)
 | .tup xs=>mM xs
 | .none=>rfl
 | .bool _=>rfl
 | .ref _=>rfl
 | .scr=>rfl
theorem mM:∀(xs:List V),eT xs xs=false
 | []=>rfl
 |x::xs=>by show(if cu x x=true then eT xs xs else fA x x)=false;rw[if_pos (de x)];exact mM xs
end
def bH(v:V):cu v v=true:=de v
def lP{x y:V}{xs ys:List V}:eT (x::xs) (y::ys)=if cu x y then eT xs ys else fA x y:=rfl
def kX{x:V}{xs ys:List V}:eT (x::xs) (x::ys)=eT xs ys:=if_pos (de x)
def fV{x y:V}{xs ys:List V}(h:x≠y):eT (x::xs) (y::ys)=fA x y:=if_neg λe=>h ((aP _ _).mp e)
mutual
theorem ny:∀(v w:V),cy v w=true->fA v w=true\/v=w\/fA w v=true
 | .int i,w,h=>by
  cases w with
  |int j=>exact(Int.lt_trichotomy i j).imp E4 (Or.imp (C3 V.int) E4)
  |_=>exact ai h
 | .str s,w,h=>by
  cases w with
  |str t =>
   by_cases h:s<t
   .exact .inl (E4 h)
   .by_cases h':t<s
    .exact .inr (.inr (E4 h'))
    .exact .inr (.inl (C3 V.str (String.le_antisymm (String.not_lt.mp h') (String.not_lt.mp h))))
  |_=>exact ai h
 | .tup xs,w,h=>by
  cases w with
  |tup ys=>exact(uL xs ys h).imp id (Or.imp (C3 V.tup) id)
  |_=>exact ai h
 | .none,w,h=>ai h
 | .bool _,w,h=>ai h
 | .ref _,w,h=>ai h
 | .scr,w,h=>ai h
theorem uL:∀(xs ys:List V),fG xs ys=true->eT xs ys=true\/xs=ys\/eT ys xs=true
 | [],[],_=>.inr (.inl rfl)
 | [],y::ys,_=>.inl rfl
 |x::xs,[],_=>.inr (.inr rfl)
 |x::xs,y::ys,h=>by
  obtain h:=aa h;by_cases e:x=y
  .subst e;rw[kX,kX];exact(uL xs ys h.2).imp id (Or.imp (C3 (x::·)) id)
  .rw[fV e,fV (R5 e)];exact(ny x y h.1).imp id (Or.imp (λz=>absurd z e) id)
end
mutual
theorem gC:∀(u v w:V),cy u v=true->cy v w=true->fA u v=true->fA v w=true->fA u w=true
 | .int i,v,w,c,d,a,b=>by
  cases v with
  |int j=>cases w with
   |int k=>exact E4 (Int.lt_trans (B8 a) (B8 b))
   |_=>exact ai d
  |_=>exact ai c
 | .str s,v,w,c,d,a,b=>by
  cases v with
  |str t=>cases w with
   |str u=>exact E4 (String.lt_trans (B8 a) (B8 b))
   |_=>exact ai d
  |_=>exact ai c
 | .tup xs,v,w,c,d,a,b=>by
  cases v with
  |tup ys=>cases w with
   |tup B=>exact pz xs ys B c d a b
   |_=>exact ai d
  |_=>exact ai c
 | .none,_,_,h,_,_,_=>ai h
 | .bool _,_,_,h,_,_,_=>ai h
 | .ref _,_,_,h,_,_,_=>ai h
 | .scr,_,_,h,_,_,_=>ai h
theorem pz:∀(us vs ws:List V),fG us vs=true->fG vs ws=true->eT us vs=true->eT vs ws=true->eT us ws=true
 | [],vs,[],_,_,a,b=>by
  rcases vs with _|⟨_,_⟩
  .exact ai a
  .exact ai b
 |u::us,vs,[],_,_,a,b=>by
  rcases vs with _|⟨_,_⟩
  .exact ai a
  .exact ai b
 | [],_,_::_,_,_,_,_=>rfl
 |u::us,vs,w::ws,c,d,a,b=>by
  rcases vs with _|⟨v,vs⟩
  .exact ai a
  .obtain c:=aa c;obtain d:=aa d;by_cases e1:u=v
   .subst e1;rw[kX]at a;by_cases e2:u=w
    .subst e2;rw[kX]at b ⊢;exact pz us vs ws c.2 d.2 a b
    .rw[fV e2]at b ⊢;exact b
   .rw[fV e1]at a;by_cases e2:v=w
    .subst e2;rw[fV e1];exact a
    .rw[fV e2]at b;have t:=gC u v w c.1 d.1 a b;rw[fV λB=>by subst B;rw[kz]at t;exact ai t];exact t
end
theorem eu:∀{xs ys:List V},xs.Perm ys->(∀x∈xs,∀y∈xs,cy x y=true)->xs.Pairwise (λa b=>fA b a=false)->ys.Pairwise (λa b=>fA b a=false)->xs=ys
 | [],ys,p,_,_,_=>(List.nil_perm.mp p).symm
 |x::xs,[],p,_,_,_=>by obtain B:=p.length_eq;simp at B
 |x::xs,y::ys,p,hc,G,J=>by
  rw[Q2]at G J;have e:x=y:=by
   obtain O:x∈y::ys:=p.mem_iff.mp y7;obtain F:y∈x::xs:=p.mem_iff.mpr y7;rcases C0.mp O with e|O
   .exact e
   .rcases C0.mp F with e|F
    .exact e.symm
    .have a:=J.1 x O;have b:=G.1 y F;rcases ny x y (hc x y7 y (y9 _ F))with t|t|t
     .rw[a]at t;exact ai t
     .exact t
     .rw[b]at t;exact ai t
  subst e;rw[eu (p.cons_inv) (λa ha b Q=>hc a (y9 _ ha) b (y9 _ Q)) G.2 J.2]
theorem yL{a b c:V}(B:cy a b=true)(G:cy b c=true)(J:cy a c=true)(x:fA b a=false)(y:fA c b=false)(O:cy b a=true)(Q:cy c b=true)(F:cy c a=true):fA c a=false:=by
 rcases e:fA c a with _|_
 .rfl
 .rcases ny a b B with t|t|t
  .have:=gC c a b F B e t
   rw[y]at this;exact ai this
  .subst t;rw[y]at e;exact ai e
  .rw[x]at t;exact ai t
theorem lO(x:V):∀ys:List V,(uJ x ys).Perm (x::ys)
 | []=>L5 _
 |y::ys=>by
  unfold uJ;split
  .exact((lO x ys).cons y).trans (List.Perm.swap x y ys)
  .exact L5 _
theorem am:∀vs:List V,(aH vs).Perm vs
 | []=>L5 _
 |x::xs=>(lO x _).trans ((am xs).cons x)
theorem mL(x:V):∀ys:List V,(∀a∈x::ys,∀b∈x::ys,cy a b=true)->ys.Pairwise (λa b=>fA b a=false)->(uJ x ys).Pairwise (λa b=>fA b a=false)
 | [],_,_=>by simp[uJ]
 |y::ys,hc,h=>by
  rw[Q2]at h;unfold uJ;split
  .rename_i B;rw[Q2];refine⟨λa ha=>?_,mL x ys (λa ha b O=>hc a (by simp at ha ⊢;exact ha.imp id .inr) b (by simp at O ⊢;exact O.imp id .inr)) h.2⟩;rcases C0.mp ((lO x ys).mem_iff.mp ha)with e|ha
   .subst e;rcases q:fA a y with _|_
    .rfl
    .have:=gC y a y (hc _ (by simp) _ (by simp)) (hc _ (by simp) _ (by simp)) B q
     rw[kz]at this;exact ai this
   .exact h.1 a ha
  .rename_i B;obtain B:fA y x=false:=K0.mpr B;rw[Q2];refine⟨λa ha=>?_,Q2.mpr h⟩;rcases C0.mp ha with e|ha
   .subst e;exact B
   .obtain F:x∈x::y::ys:=y7;have G:y∈x::y::ys:=by simp
    obtain J:a∈x::y::ys:=by simp[ha]
    exact yL (hc _ F _ G) (hc _ G _ J) (hc _ F _ J) B (h.1 a ha) (hc _ G _ F) (hc _ J _ G) (hc _ J _ F)
theorem cT:∀vs:List V,(∀a∈vs,∀b∈vs,cy a b=true)->(aH vs).Pairwise (λa b=>fA b a=false)
 | [],_=>by simp[aH]
 |x::xs,hc=>by
  refine mL x _ (λa ha b B=>hc a ?_ b ?_) (cT xs λa ha b B=>hc a (y9 _ ha) b (y9 _ B))
  .exact((am xs).cons x).mem_iff.mp ha
  .exact((am xs).cons x).mem_iff.mp B
theorem qk{p q:α->Bool}:∀{l:List α},(∀x∈l,p x=true->q x=true)->(∃x∈l,q x=true/\p x=false)->l.countP p<l.countP q
 | [],_,h=>by refine ah h λx B _=>?_;exact absurd B A7
 |a::l,hm,h=>by
  obtain F:l.countP p<=l.countP q:=List.countP_mono_left λx B hp=>hm x (y9 _ B) hp;by_cases ht:∃x∈l,q x=true/\p x=false
  .obtain O:=qk (λx B=>hm x (y9 _ B)) ht;rw[List.countP_cons,List.countP_cons];cases e:p a with
   |true=>simp[hm a List.mem_cons_self e];exact O
   |false=>simp;exact Jc O
  .refine bE h λx B G J=>?_;rcases C0.mp B with rfl|B
   .rw[List.countP_cons,List.countP_cons];simp[G,J];exact AZ F
   .exact absurd (aN x B G J) ht
noncomputable def pA(vs:List V)(i:Nat):Nat:=(List.range vs.length).countP λj=>fA (vs.getD j .none) (vs.getD i .none)
theorem bV(h:i<vs.length):vs.getD i .none∈vs:=by rw[C9,G2 h];exact List.getElem_mem h
theorem uO(hc:∀a∈vs,∀b∈vs,cy a b=true)(hi:i<vs.length)(F:j<vs.length):decide (pA vs i<pA vs j)=fA (vs.getD i .none) (vs.getD j .none):=by
 obtain G:=bV hi;obtain J:=bV F;have mono:∀{i j:Nat},i<vs.length->j<vs.length->(fA (vs.getD i .none) (vs.getD j .none)=true\/vs.getD i .none=vs.getD j .none)->pA vs i<=pA vs j:=by
  intro i j hi F h;refine List.countP_mono_left λx B hp=>?_;obtain B:=bV (F8.mp B);rcases h with h|h
  .exact gC _ _ _ (hc _ B _ (bV hi)) (hc _ (bV hi) _ (bV F)) hp h
  .rw[<- h];exact hp
 cases e:fA (vs.getD i .none) (vs.getD j .none)with
 |true =>refine E4 (qk (λx B hp=>?_) (aN i (F8.mpr hi) e (kz _)));exact gC _ _ _ (hc _ (bV (F8.mp B)) _ G) (hc _ G _ J) hp e
 |false =>
  refine E6 (Nat.not_lt.mpr (mono F hi ?_));rcases ny _ _ (hc _ G _ J)with t|t|t
  .rw[e]at t;exact ai t
  .exact .inr t.symm
  .exact .inl t
theorem uE(hc:∀a∈vs,∀b∈vs,cy a b=true)(h:rf (pA vs) vs.length p):(p.toList.map λi=>vs.getD i .none)=aH vs:=by
 refine cf h λhp Y=>?_;have B:(p.toList.map λi=>vs.getD i .none).Perm vs:=by
  refine(hp.perm.map _).trans ?_
  have:(List.range vs.length).map (λi=>vs.getD i .none)=vs:=by refine List.ext_getElem (by simp) λi F Q=>?_;simp[List.getD_eq_getElem?_getD,Q]
  rw[this]
 refine eu (B.trans (am vs).symm) (λx Z y hy=>hc x (B.mem_iff.mp Z) y (B.mem_iff.mp hy)) ?_ (cT vs hc);rw[List.pairwise_iff_getElem];intro i j hi G J;simp only[List.length_map,Array.length_toList]at hi G;obtain O:=hp.size;simp only[List.getElem_map,Array.getElem_toList];obtain F:=Y i j (Jd J) (yT O G);have e1:p.getD i 0=p[i]:=by simp[Array.getD,hi]
 have e2:p.getD j 0=p[j]:=by simp[Array.getD,G]
 unfold rk at F;rw[e1,e2]at F;obtain l1:p[i]<vs.length:=e1▸hp.lt (yT O hi);obtain l2:p[j]<vs.length:=e2▸hp.lt (yT O G);rw[<- uO hc l2 l1];exact E6 (Nat.not_lt.mpr F)
theorem oz:∀(l m:List Char),(l.map (λc=>c.toNat)<m.map (λc=>c.toNat))↔l<m
 |_,[]=>by simp
 | [],_::_=>by simp
 |a::l,b::m=>by simp only[List.map_cons,List.cons_lt_cons_iff,oz l m,Char.toNat_inj];exact Iff.rfl
theorem mz(s t:String):((Str.ofString s).cps.toList<(Str.ofString t).cps.toList)↔s<t:=by rw[P3,P3];rw[oz];exact Iff.rfl
section
variable{sa:SX}
theorem x7{A:Around}{n m:Nat}{f:Value×Value->Option Fin×PUnit->Sem (ForInStep (Option Fin×PUnit))}{Q:Bool->Prop} (G:∀{x y:V}{c d:Value}{P:a9},cy x y=true->aQ x=true->aQ y=true->aD x<=n->VR sa s.heap x c->VR sa s.heap y d->P (.bool (fA x y)) s->wpAny (model prog w) A (richCompare .Lt c d) P E s) (Z:A.units+n<cLine) (hf:f=λp _=>(do let e <- PySem.eqBool p.1 p.2;if(!e)=true then(do rule "tuple.compare.by-the-first-pair-that-differs";let v <- richCompare .Lt p.1 p.2;let r <- ret v;pure (ForInStep.done (some r,PUnit.unit)))else pure (ForInStep.yield (none,PUnit.unit)))) : ∀{xs ys:List V}{cs ds:List Value}{R:Option Fin×PUnit->Shared->Prop},fG xs ys=true->bz xs=true->bz ys=true->bx xs<=n->VRs sa s.heap xs cs->VRs sa s.heap ys ds -> (∀b,eT xs ys=b->R (some (.done (.ret (.bool b))),PUnit.unit) s)->(eT xs ys=decide (xs.length<ys.length)->R (none,PUnit.unit) s)->wpAny (model prog w) A (forIn (cs.zip ds) (none,PUnit.unit) f) R E s
 | [],ys,_,_,R,_,_,_,_,J,O,_,B=>by rw[J.nil_inv,List.zip_nil_left,List.forIn_nil];refine v9 (B ?_);cases ys <;> simp[eT]
 |x::xs,[],_,_,R,_,_,_,_,J,O,_,B=>by rw[O.nil_inv,List.zip_nil_right,List.forIn_nil];exact v9 (B (by simp[eT]))
 |x::xs,y::ys,_,_,R,hc,k1,k2,hd,J,O,F,B=>by
  refine bM J.cons_inv λc cs aW Y a2=>?_;subst aW;refine bM O.cons_inv λd ds bS b1 b2=>?_;subst bS;unfold fG at hc;unfold bz at k1 k2;rw[I1]at hc k1 k2;rw[O6,Rt,hf];refine r5 (r5 (VR.eqBool (bq _ k1.1) (bq _ k2.1) (EM hd Z) Y b1 ?_));rw[lP]at F B;cases e:cu x y with
  |true =>simp only[e,if_true]at F B;refine v9 ?_;exact x7 (n:=n) (m:=m) (Q:=Q) G Z rfl hc.2 k1.2 k2.2 (Dn hd) a2 b2 F (λq=>B (by rw[q];simp))
  |false =>simp only[e,Bool.false_eq_true,if_false]at F B;refine r5 (r5 (Ri (v9 (r5 (G hc.1 k1.1 k2.1 (Gw hd) Y b1 ?_)))));exact r5 (v9 (v9 (v9 (F _ rfl))))
theorem VR.lt:∀(n:Nat){A:Around}{E:a9}{s:Shared}{x y:V}{c d:Value}{Q:a9},cy x y=true->aQ x=true->aQ y=true->aD x<=n->A.units+n<cLine->VR sa s.heap x c->VR sa s.heap y d->Q (.bool (fA x y)) s -> wpAny (model prog w) A (richCompare .Lt c d) Q E s
 |n,A,E,s,.int i,y,c,d,Q,hc,_,_,_,_,B,G,h=>by cases y <;> simp[cy]at hc;apply B.int_el;intro t;apply G.int_el;intro u;refine lt_int ?_;simpa[fA]using h
 |n,A,E,s,.str x,y,c,d,Q,hc,_,_,_,_,B,G,h=>by cases y <;> simp[cy]at hc;apply B.str_el;intro t;apply G.str_el;intro u;refine PySem.P.lt_str ?_;rw[show fA (.str x) (.str _)=_ from rfl]at h;simp only[fA]at h;simpa only[mz]using h
 |0,A,E,s,.tup xs,y,c,d,Q,hc,_,_,hd,_,B,G,h=>by exact(Qk hd).elim
 |n+1,A,E,s,.tup xs,y,c,d,Q,hc,k1,k2,hd,hu,B,G,h=>by
  cases y with
  |tup ys =>
   apply B.tup_el;intro a cvs ha ra;apply G.tup_el;intro b dvs hb rb;obtain hT:=ha.typeIs (s:=s);obtain J:=hb.typeIs (s:=s);refine bE ha λo ho _ zq9=>?_;refine bL zq9 λk Y=>?_;refine bE hb λo' ad _ O=>?_;refine bL O λk' Z=>?_;refine wpAny_richCompare_same_room hT J F.slot_tuple_lt (H9 F.slot_tuple_lt hT F.entry_tuple_lt ?_ (F.args_tuple_lt_2 _ _)) (Qj hu);show wpAny _ _ (isInstance (.ref b) (.type "tuple") >>= _) _ _ s;refine r5 (wpAny_isInstance J isSubtype_tuple_tuple ?_);refine r5 (wpAny_tupleItemsOf ho Y ?_);refine r5 (wpAny_tupleItemsOf ad Z ?_);refine r5 ?_;have hA:A.in1.units=A.units+1:=rfl;refine x7 (n:=n) (m:=0) (Q:=λ_=>True) (λ{x y c d P} a1 a2 a3 a4 a5 a6 a7=>VR.lt n a1 a2 a3 a4 (EN hA hu) a5 a6 a7) (EN hA hu) ?_ hc k1 k2 (IO hd) ra rb (λb e=>?_) (λe=>?_)
   .rfl
   .subst e;refine v9 (aN _ rfl Value.noConfusion ?_);simpa[fA]using h
   .refine v9 (aN _ rfl (by simp[Builtin.Tuple.tupleCompareSizes]) ?_);obtain e1:=ra.length;obtain e2:=rb.length;rw[J7]at e1 e2;rw[show fA (.tup xs) (.tup ys)=eT xs ys from by simp[fA],e]at h;simpa[Builtin.Tuple.tupleCompareSizes,e1,e2]using h
  |_=>simp[cy]at hc
 |_,_,_,_,.none,y,_,_,_,hc,_,_,_,_,_,_,_=>by cases y <;> simp[cy]at hc
 |_,_,_,_,.bool _,y,_,_,_,hc,_,_,_,_,_,_,_=>by cases y <;> simp[cy]at hc
 |_,_,_,_,.ref _,y,_,_,_,hc,_,_,_,_,_,_,_=>by cases y <;> simp[cy]at hc
 |_,_,_,_,.scr,y,_,_,_,hc,_,_,_,_,_,_,_=>by cases y <;> simp[cy]at hc
end
section
variable{sa:SX}
theorem Bk{A:Around}{x y:V}{c d:Value}{P:b7}(b:Bool)(G:b=true->rL x=true)(hc:cy x y=true)(k1:aQ x=true)(k2:aQ y=true)(J:A.units+aD x<cLine)(B:VR sa s.heap x c)(F:VR sa s.heap y d) (h:P (fA x y) s):wpAny (model prog w) A (oneLt' b c d) P E s:=by
 rcases b with _|_
 .exact kat_one _ _ (VR.lt _ hc k1 k2 (A8 _) J B F h)
 .obtain O:=G rfl;cases x with
  |int i =>cases y <;> simp[cy]at hc;apply B.int_el;intro t;apply F.int_el;intro u;exact oneLt_int (by simpa[fA]using h)
  |str x =>cases y <;> simp[cy]at hc;apply B.str_el;intro t;apply F.str_el;intro u;refine PyProof.Rows.oneLt_str ?_;simp only[fA]at h;simpa only[mz]using h
  |_=>exact ai O
theorem wX{A:Around}{b B:Bool}{Q:b7}{n:Nat}(J:A.units+n<cLine):∀{xs ys:List V}{cs ds:List Value}(i:Nat),fG xs ys=true->bz xs=true->bz ys=true->bx xs<=n->VRs sa s.heap xs cs->VRs sa s.heap ys ds -> ((b&&i==0)=true->∀x,xs.head?=some x->rL x=true)->B=decide (xs.length<ys.length)->Q (eT xs ys) s->KatLex prog w A b B Q (cs.zip ds) i s
 | [],ys,_,_,i,_,_,_,_,F,G,_,hf,h=>by rw[F.nil_inv,List.zip_nil_left];refine kat_nil ?_;rw[hf];cases ys <;> simpa[eT]using h
 |x::xs,[],_,_,i,_,_,_,_,F,G,_,hf,h=>by rw[G.nil_inv,List.zip_nil_right];refine kat_nil ?_;rw[hf];simpa[eT]using h
 |x::xs,y::ys,_,_,i,hc,k1,k2,hd,F,G,hb,hf,h=>by
  refine bM F.cons_inv λc cs eJ Y Z=>?_;subst eJ;refine bM G.cons_inv λd ds O b1 b2=>?_;subst O;unfold fG at hc;unfold bz at k1 k2;rw[I1]at hc k1 k2;rw[O6];refine kat_cons (VR.eqBool (bq _ k1.1) (bq _ k2.1) (EM hd J) Y b1 ?_);rw[lP]at h;cases e:cu x y with
  |true =>simp only[e,if_true]at h;exact kat_yes (wX J (i+1) hc.2 k1.2 k2.2 (Dn hd) Z b2 (λq=>by simp at q) (by rw[hf];simp) h)
  |false =>simp only[e,Bool.false_eq_true,if_false]at h;exact kat_no (Bk _ (λq=>hb q x rfl) hc.1 k1.1 k2.1 (Je hd J) Y b1 h)
theorem VRs.getD(r:VRs sa h vs cvs)(hi:i<vs.length):VR sa h (vs.getD i .none) (cvs.getD i .none):=by
 obtain e:vs[i]?=some (vs.getD i .none):=by rw[C9,G2 hi];rfl
 refine ah (r.get e) λc F G=>?_;obtain B:cvs.getD i .none=c:=by rw[C9,F];rfl
 rw[B];exact G
def yO{i:Int}{t:Tok}:Looks M h (typeOf (.int i t)) (.type "int"):=.now
def yP{x:Str}{t:Tok}:Looks M h (typeOf (.str x t)) (.type "str"):=.now
theorem yQ{v:V}{c:Value}{xs:List V}(e:v=.tup xs)(r:VR sa h v c):Looks M h (typeOf c) (.type "tuple"):=by subst e;apply r.tup_el;intro a cvs B _;obtain⟨o,ho,hc,_⟩:=B;exact show Looks M h (typeOf (.ref a)) (.type "tuple")from hc▸(Looks.ld ho).andThen .now
noncomputable def vk:V->Nat
 | .int _=>1
 | .str _=>2
 | .tup _=>3
 |_=>0
theorem sA{x y:V}(h:cy x y=true):vk x=vk y/\vk x≠0:=by cases x <;> cases y <;> simp_all [cy,vk]
noncomputable def Hy:Nat->Value
 |1=>.type "int"
 |2=>.type "str"
 |_=>.type "tuple"
theorem tK{v:V}{c:Value}(r:VR sa h v c)(hk:vk v≠0):Looks M h (typeOf c) (Hy (vk v)):=by
 cases v with
 |int i=>apply r.int_el;intro t;exact yO
 |str i=>apply r.str_el;intro t;exact yP
 |tup xs=>exact yQ rfl r
 |_=>exact absurd rfl hk
theorem uK(k:Nat):(Hy k==Hy k)=true:=by unfold Hy;split <;> decide
theorem qv:∀{vs:List V}{cvs:List Value},VRs sa h vs cvs->(∀x∈vs,vk x=3/\lF x=true)->∃ws G,ws.length=vs.length/\VRs sa h ws G/\KatTups h cvs G/\∀(i:Nat)(x:V),vs[i]?=some x->∃w r,ws[i]?=some w/\x=.tup (w::r)
 | [],_,r,_=>by rw[r.nil_inv];exact(kB ([]) ([]) rfl .nil .nil (λi x e=>by simp at e))
 |v::vs,_,r,hk=>by
  refine bM r.cons_inv λc cs B r1 r2=>?_;subst B;refine sJ (qv r2 λx hx=>hk x (y9 _ hx)) λws G Q Y Z h4=>?_;refine cf (hk v y7) λk1 k2=>?_;cases v with
  |tup xs =>
   rcases xs with _|⟨x,xs⟩
   .simp[lF]at k2
   .apply r1.tup_el;intro a cvs F ra;obtain⟨o,ho,hc,n,hd⟩:=F;refine bM ra.cons_inv λf rest e f1 f2=>?_;refine(kB (x::ws) (f::G) (by simp[Q]) (.cons f1 Y) (KatTups.cons ho hc hd (by rw[<- B9,e];rfl) Z) (λi y e=>?_));rcases i with _|i
    .simp at e;subst e;exact(eU x xs rfl rfl)
    .simp at e;refine cG (h4 i y e) λw r J O=>?_;exact(eU w r J O)
  |_=>simp[vk]at k1
theorem zk{A:Around}(so:sortable vs)(h2:2<=vs.length)(hu:A.units+9<cLine)(r:VRs sa s.heap vs cvs){Q:SortKind->Shared->Prop} (h:∀κ,(∀(i j:Nat)(C:b7)(s':Shared),i<vs.length->j<vs.length->VRs sa s'.heap vs cvs->C (fA (vs.getD i .none) (vs.getD j .none)) s'->kas_ask prog w A κ cvs i j C s')->Q κ s) : wpAny (model prog w) A (keyKind' cvs.toArray) Q (λ_ _=>False) s:=by
 refine Ee so λs1 s2 s3 s4=>?_;obtain s3:∀x∈vs,lF x=true:=s3.elim (λe=>by exact(Jf h2 e).elim) id;have hl:=r.length;have h0:0<vs.length:=by exact Jg h2
 have m0:=bV h0;have G:∀x∈vs,vk x=vk (vs.getD 0 .none)/\vk x≠0:=λx O=>sA (s4 x O _ m0);have B:∀i j,i<vs.length->j<vs.length->cy (vs.getD i .none) (vs.getD j .none)=true/\aQ (vs.getD i .none)=true/\aQ (vs.getD j .none)=true/\aD (vs.getD i .none)<=8:=λi j hi F =>
  ⟨s4 _ (bV hi) _ (bV F),(s2 _ (bV hi)).1,(s2 _ (bV F)).1,(s2 _ (bV hi)).2⟩
 by_cases hk:vk (vs.getD 0 .none)=3
 .refine sJ (qv r λx O=>⟨(G x O).1.trans hk,s3 x O⟩) λws fs e1 e2 e3 e4=>?_;have key:∀i,i<vs.length->∃w r,ws[i]?=some w/\vs.getD i .none=.tup (w::r):=λi hi=>e4 i _ (by rw[C9,G2 hi];rfl);refine cG (key 0 h0) λw0 r0 a0 b0=>?_;have hw:∀i w,ws[i]?=some w->vk w=vk w0/\vk w≠0:=λi w e=>by
   have hi:i<vs.length:=by rw[<- e1];exact(A9.mp e).1
   refine cG (key i hi) λw' r' a1 b1=>?_;rw[e]at a1;obtain rfl:=w4 a1;obtain this:=(B i 0 hi h0).1;rw[b1,b0]at this;have this:=(I1 _ _).mp this;exact sA this.1
  have hlen:=e2.length;refine kat_kind (T:=Hy (vk w0)) e3 (Jh e1 hlen h0) (λv hv=>?_) (uK _) (h _ λi j C s' hi F r' hC=>?_)
  .refine bL (D8.mp hv) λi hi=>?_;refine ah (e2.get' hi) λw hw1 hw2=>?_;obtain this:=hw i w hw1;rw[<- this.1];exact tK hw2 this.2
  .unfold kas_ask;refine Ee (B i j hi F) λY q2 q3 q4=>?_;refine cG (key i hi) λwi ri i1 i2=>?_;refine cG (key j F) λwj rj j1 j2=>?_;have Z:=r'.getD hi;obtain ad:=r'.getD F;have J:=hC;rw[i2]at Y q2 q4 Z J;rw[j2]at Y q3 ad J;refine bM Z.tup_inv λa xs ea an ra=>?_;obtain⟨o,ho,hc,n,hd⟩:=an;refine bM ad.tup_inv λb ys eb ar rb=>?_;obtain⟨o',ho',hc',n',hd'⟩:=ar;rw[ea,eb];obtain la:=ra.length;obtain lb:=rb.length;rw[J7]at la lb;refine kat_lt ho hd ho' hd' (wX (n:=8) (Jj hu) 0 Y q2 q3 (Jk q4) ra rb (λhb x O=>?_) (by rw[la,lb]) (by simpa[fA]using J));simp at O;subst O;obtain this:=hw i _ i1;simp only[beq_self_eq_true,Bool.and_true]at hb;cases wi with
   |int _=>rfl
   |str _=>rfl
   |tup _ =>obtain t:vk w0=3:=this.1.symm;rw[t]at hb;simp[Hy]at hb
   |_=>exact absurd rfl this.2
 .refine kas_kind (T:=Hy (vk (vs.getD 0 .none))) (Jl hl h2) (λv hv=>?_) ?_ (uK _) (h _ λi j C s' hi F r' hC=>?_)
  .obtain⟨i,hi⟩:=D8.mp hv;refine ah (r.get' hi) λx hx1 hx2=>?_;obtain this:=G x (B0 hx1);rw[<- this.1];exact tK hx2 this.2
  .have h1:=(G _ m0).2
   have:vk (vs.getD 0 .none)=1\/vk (vs.getD 0 .none)=2:=by generalize vs.getD 0 .none=z at *;cases z <;> simp_all [vk]
   rcases this with e|e
   .rw[e];decide
   .rw[e];decide
  .unfold kas_ask;refine Ee (B i j hi F) λY q2 q3 q4=>?_;rw[keyLt'_oneType];refine Bk true (λ_=>?_) Y q2 q3 (Jm q4 hu) (r'.getD hi) (r'.getD F) hC;obtain this:=G _ (bV hi);cases e:vs.getD i .none with
   |int _=>rfl
   |str _=>rfl
   |tup _=>rw[e]at this;exact absurd this.1.symm hk
   |_=>rw[e]at this;exact absurd rfl this.2
end
section
variable{H:AH}{A:Around}{d:Nat}{Q:b8}
theorem wq{P:PySem.Fin->Shared->Prop}{E:a9}{M:Model}{a:Addr}{n:Nat}(ho:s.heap.get? a=some (cE cvs.toArray n))(F:cvs.length<2) (h:∀h' c,(∀b o,b≠a->s.heap.get? b=some o->h'.get? b=some o)->h'.get? a=some (cE cvs.toArray c)->P (.done (.ret .none)) { s with heap:=h' }) : wpAny M A (Builtin.«list.sort» ⟨[.ref a],[]⟩) P E s:=by
 obtain ha:a<s.heap.objs.size:=I4 ho;obtain J:(100:Nat)<=sizeLine:=by rw[J9];exact Ba
 rw[list_sort_plain];refine r5 (listItems_at ho rfl ?_);refine r5 (listUpdate_at ho rfl ?_ (by rw[RJ];exact EO J F) (E1 _));obtain⟨e1,ho1⟩:∃e1,(s.heap.update a (Obj.mapSeq λ_=>(#[]:Array Value))).get? a=some (seqObj "list" #[] e1):=⟨_,get?_update_seq ho λ_=>#[]⟩;refine r5 (seqEpoch_at ho1 rfl ?_);refine r5 (wpAny_newTuple ?_ (EO J F));refine r5 (wpAny_newList ?_ (E1 _));refine G6 ?_;obtain B:(((s.heap.update a (Obj.mapSeq λ_=>(#[]:Array Value))).push (seqObj "tuple" cvs.toArray 0)).push (seqObj "list" #[] 0)).get? a=some (seqObj "list" #[] e1):=z5 _ (z5 _ ho1);show wpAny M A _ P E { s with heap:=((s.heap.update a (Obj.mapSeq λ_=>(#[]:Array Value))).push (seqObj "tuple" cvs.toArray 0)).push (seqObj "list" #[] 0) };dsimp only;obtain G:cvs.toArray.size<2:=by rw[RJ];exact F
 rw[if_pos G,if_pos G];refine r5 (v9 ?_);rw[StateT.run_pure];refine r5 (v9 ?_);dsimp only;have hm:(arrOf (SortSt.mk' general' (cvs.toArray.zip cvs.toArray) #[] 7 none)).map (·.2)=cvs.toArray:=by
  show(cvs.toArray.zip cvs.toArray).map (·.2)=cvs.toArray
  match cvs,F with
  | [],_=>simp
  | [c],_=>simp
  |_::_::_,h=>exact absurd h (by simp)
 rw[hm];refine r5 (seqEpoch_at B rfl ?_);obtain⟨O,hc2⟩:∃O,(((((s.heap.update a (Obj.mapSeq λ_=>(#[]:Array Value))).push (seqObj "tuple" cvs.toArray 0)).push (seqObj "list" #[] 0)).update a (Obj.mapSeq λ_=>cvs.toArray)).get? a=some (seqObj "list" cvs.toArray O)):=⟨_,get?_update_seq B λ_=>cvs.toArray⟩;refine r5 (listUpdate_at B rfl ?_ (E1 _) (by rw[RJ];exact Jn F));simp only[bne_self_eq_false,Bool.false_eq_true,if_false];refine v9 (h _ O (λb o Q e=>?_) hc2);exact(N1 _ _ (R5 Q)).trans (z5 _ (z5 _ ((N1 _ _ (R5 Q)).trans e)))
theorem uQ(h:vs.length<2):aH vs=vs:=by
 match vs,h with
 | [],_=>rfl
 | [v],_=>simp[aH,uJ]
 |_::_::_,h=>exact absurd h (by simp)
theorem uB(F:ae L env loc H s.heap)(R:aF L H s.heap)(hu:A.units+20<cLine)(r:VRs L.sa s.heap vs cvs)(so:sortable vs)(q:fresh H Q (.list (aH vs))){P:PySem.Fin->Shared->Prop} (hP:∀v s',EPost L env H s Q v s'->P (.done (.ret v)) s') : a8 L A (do let l <- newList cvs;let _ <- holding [l] (call (.builtin "list.sort") [l]);ret l) P aI s:=by
 have hl:=r.length;have J:=so.1;obtain hsl:(100:Nat)<=sizeLine:=by rw[J9];exact Ba
 refine r5 (wpAny_newList ?_ (Jo hl J hsl));obtain B:(s.heap.push (cE cvs.toArray 0)).get? s.heap.objs.size=some (cE cvs.toArray 0):=C2 _ rfl;obtain hn:s.heap.get? s.heap.objs.size=none:=C6 (A8 _);refine cf (R.free hn) λfH fb=>?_;refine ah (F.fr R) λm hm ad=>?_;obtain O:env.locals<s.heap.objs.size:=by refine nC hm λo _ _ e _=>?_;exact I4 e
 have k0:∀b o,s.heap.get? b=some o->(s.heap.push (cE cvs.toArray 0)).get? b=some o:=λb o e=>z5 _ e;refine r5 (G6 ?_);by_cases G:cvs.length<2
 .refine H9 slot_list_sort (af _ B rfl) entry_list_sort (wq (s:={ s with heap:=s.heap.push (cE cvs.toArray 0) }) B G λh' c k ho'=>?_) (args_list_sort _);obtain kk:∀b o,s.heap.get? b=some o->h'.get? b=some o:=λb o e=>k b o (G7 (I4 e)) (k0 b o e);refine(af _ rfl (v9 (hP _ _ ?_)));refine cf (u1 (own:=eA) (s':={ s with heap:=h' }) R rfl rfl hn kk ho' (x:=.list (aH vs)) (eU _ c rfl (by rw[uQ (Jp hl G)];exact r.keep (r8 kk)))) λS hH=>?_;exact(bR _ _ (q _ hH) (t7 _) (S.toE F.lH))
 .obtain N2:News L.base env.locals (s.heap.push (cE cvs.toArray 0)) ((s.heap.objs.size,listOf cvs.toArray 0)::dh L.base env.locals s.heap):=λp hp=>by
   rcases C0.mp hp with rfl|hp
   .exact(cH B (RM O) fb)
   .exact(bT.grown k0) p hp
  refine kat_lsort (s:={ s with heap:=s.heap.push (cE cvs.toArray 0) }) (vs:=cvs) (ad.kept k0) N2 (.head λp hp=>G7 (I4 (bT p hp).1)) (by rfl) (Jq G) (Jr hl J) λe1 h' F' N'=>?_;obtain S1:=u5 F R hm (tk:=s.toks) F' N' λp hp=>.tail _ hp;have r':=r.keep S1.st.tup;refine zk (s:={ s with heap:=h' }) so (Js hl G) (Jt hu) r' λκ Y=>?_;rw[hl];refine Ask.wp (r:=pA vs) (n:=vs.length) (I:=λs'=>s'={ s with heap:=h' }) (λi j C s' hi Z hI hC=>?_) (zJ (r:=pA vs) (n:=vs.length) (Ju hl G)) rfl (λp s' hp hI=>?_)
  .subst hI;refine Y i j C _ hi Z r' ?_;rw[<- uO so.2.2.2 hi Z];exact hC _ rfl
  .subst hI;refine KasFin.intro F' N' (.head λp hp=>G7 (I4 (bT p hp).1)) λh3 c F3 N3=>?_;refine v9 (hP _ _ ?_);have hsv:=uE so.2.2.2 hp;obtain S3:=u5 F R hm (tk:=s.toks) F3 N3 λp hp=>.tail _ hp;have r3:VRs L.sa h3 (aH vs) (p.toList.map λi=>cvs.getD i .none):=by
    rw[<- hsv];have r3:=r.keep S3.st.tup
    have:∀(l:List Nat),(∀i∈l,i<vs.length)->VRs L.sa h3 (l.map λi=>vs.getD i .none) (l.map λi=>cvs.getD i .none):=by
     intro l;induction l with
     |nil=>intro _;exact .nil
     |cons i l ih=>intro h;exact .cons (r3.getD (h i y7)) (ih λj Z=>h j (y9 _ Z))
    refine this _ λi hi=>?_;exact F8.mp (hp.1.perm.mem_iff.mp hi)
   refine cf (u6 F R hm (tk:=s.toks) F3 N3 (λp hp=>.tail _ hp) (.head _) hn (x:=.list (aH vs)) (eU _ c rfl r3)) λS hH=>?_;exact(bR _ _ (q _ hH) (t7 _) S)
end
section
variable{es:Array DictEntry}
structure Ex(s s':Shared):Prop where
 gens:s'.gens=s.gens
 os:s'.os=s.os
 heap:∀b o,s.heap.get? b=some o->s'.heap.get? b=some o
def Ex.refl(s:Shared):Ex s s:=⟨rfl,rfl,λ_ _ e=>e⟩
theorem Ex.trans{s'':Shared}(a:Ex s s')(b:Ex s' s''):Ex s s'':=⟨b.gens.trans a.gens,b.os.trans a.os,λx o e=>b.heap x o (a.heap x o e)⟩
theorem Ex.push(s:Shared)(o:Obj)(t:Nat):Ex s { s with heap:=s.heap.push o,toks:=t }:=⟨rfl,rfl,λb o e=>z5 _ e⟩
section
variable{A:Around}
theorem lZ{T:String}{r:Addr}{n:Nat}{G:(Nat->Value->Prop)->Prop}{R:List Value->Shared->Prop}(hr:r<s.heap.objs.size)(hT:s.TypeIs (.ref r) T)(nl:(Value.type T==Value.type "list")=false)(nt:(Value.type T==Value.type "tuple")=false) (hint:∀(E:a9)(s':Shared)(Q:b7),s'.TypeIs (.ref r) T->Q false s'->wpAny (model prog w) A.in1 (Builtin.List.listLengthHint (.ref r)) Q E s') (hn:n<=sizeLine) (iter:∀(E:a9)(ac:Shared)(Q:a9),Ex s ac->(∀I fp St bt P,G P->Walks prog w A.in1 I fp [I] n P St->St 0 bt.heap->ac.heap.get? I=none->(∀b∈fp,b=I\/s.heap.get? b≠none\/ac.heap.get? b=none)->Ex ac bt->Q (.ref I) bt)->wpAny (model prog w) A.in1 (pyIter (.ref r)) Q E ac) (h:∀s' acc P,G P->Ex s s'->ItemsOf P acc n->R acc.toList s'):wpAny (model prog w) A (collect (.ref r)) R E s:=by
 refine r5 (wpAny_runValue (Ru PySem.F.entry_proto_collect ?_));rw[Q4 PySem.F.plain_proto_collect _];refine r5 (N9 ?_);refine v9 ⟨plainId_quiet PySem.F.plain_list_iadd _,Ru PySem.F.entry_list_iadd ?_⟩;rw[Q4 PySem.F.plain_list_iadd _];obtain Z:(s.heap.push { cls:=.type "list",data:=.seq ([]:List Value).toArray }).get? s.heap.objs.size=some { cls:=.type "list",data:=.seq #[] }:=C2 _ rfl;obtain x1:Ex s { s with heap:=s.heap.push { cls:=.type "list",data:=.seq ([]:List Value).toArray } }:=Ex.push s _ s.toks;show wpAny _ A.in1 (Builtin.List.listExtendWith (.ref s.heap.objs.size) (.ref r) (.ref s.heap.objs.size)) _ _ _;refine r5 (wpAny_typeOf (T:=T) (by refine ah hT λo ho hc=>?_;exact(af o (x1.heap _ _ ho) hc)) ?_);obtain h1:Builtin.List.listSameRef (.ref s.heap.objs.size) (.ref r)=false:=by simp[Builtin.List.listSameRef,Nat.ne_of_gt hr]
 simp only[h1,nl,nt,Bool.or_false,Bool.false_eq_true,if_false];refine r5 (iter _ _ _ x1 λI fp St bt P hG W st hI hfp x2=>?_);obtain ad:=x2.heap _ _ Z;obtain hSI:s.heap.objs.size≠I:=λe=>by rw[<- e]at hI;rw[Z]at hI;exact sn hI
 have hSf:s.heap.objs.size∉fp:=λhm=>by
  rcases hfp _ hm with e|e|e
  .exact hSI e
  .exact e (C6 (A8 _))
  .rw[Z]at e;exact sn e
 refine r5 (G6 (hint _ _ _ (by refine ah hT λo ho hc=>?_;exact(af o (x2.heap _ _ (x1.heap _ _ ho)) hc)) ?_));obtain key:∀(J:Shared)(an:Nat),J.gens=bt.gens->J.os=bt.os->St 0 J.heap->(∀b o,b≠s.heap.objs.size->bt.heap.get? b=some o->J.heap.get? b=some o)->J.heap.get? s.heap.objs.size=some { cls:=.type "list",data:=.seq #[] an } ->
   codeAny (model prog w) A (.builtin "list.extend.loop" ⟨[.ref s.heap.objs.size,.ref I,.ref s.heap.objs.size],[]⟩) (λq s'=>∃acc c',q=.ok (.ret (.ref s.heap.objs.size))/\Ex s s'/\s'.heap.get? s.heap.objs.size=some { cls:=.type "list",data:=.seq acc c' }/\ItemsOf P acc n) J:=by
  intro J an eg eo hst hk O;refine codeAny_extend_loopS W.toS hn s.heap.objs.size hSf _ n 0 _ #[] an rfl (E1 _) hst O (ItemsOf.nil _) λs' acc' c' hm Y B=>?_;refine(kB acc' c' rfl ⟨?_,?_,λb o e=>?_⟩ Y B)
  .rw[hm.gens,eg,x2.gens]
  .rw[hm.os,eo,x2.os]
  .have hb:b≠s.heap.objs.size:=G7 (I4 e);refine hm.heap b o (λar=>?_) (hk b o hb (x2.heap _ _ (x1.heap _ _ e)));rcases C0.mp ar with e'|ar
   .exact hb e'
   .obtain e2:=x1.heap _ _ e;rw[A4.mp ar,hI]at e2;exact ns e2
 obtain fin:∀{q:Result}{s':Shared},(∃acc c',q=.ok (.ret (.ref s.heap.objs.size))/\Ex s s'/\s'.heap.get? s.heap.objs.size=some { cls:=.type "list",data:=.seq acc c' }/\ItemsOf P acc n)->match q with
   | .ok (.ret v)=>wpAny (model prog w) A (match v with | .ref a=>(do match(<- load a).data with | .seq xs _=>pure xs.toList|_=>unsupported "internal:collect")|_=>unsupported "internal:collect") R E s'
   |_=>False:=by
  rintro q s' ⟨acc,c',rfl,x,Y,B⟩;show wpAny _ A (load s.heap.objs.size >>= _) _ _ s';refine r5 (wpAny_load Y ?_);exact v9 (h s' acc P hG x B)
 refine J8 (λ_=>?_) (λ_=>v9 ⟨plainId_quiet PySem.F.plain_extend_loop _,RN (key _ _ rfl rfl st (λb o _ e=>e) ad) λq s' y=>?_⟩)
 .refine r5 (Ri ?_);refine r5 ?_;refine r5 (wpAny_updateSeq ad rfl ?_);obtain O:=G4 (Obj.mapSeq (·.push Value.none)) ad rfl;refine wpAny_updateSeq (hz:=by seq_fits) O rfl ?_;obtain m3:=G4 (Obj.mapSeq (·.pop)) O rfl;refine v9 ⟨plainId_quiet PySem.F.plain_extend_loop _,RN (key _ _ ?_ ?_ ?_ (λb o hb e=>?_) m3) λq s' y=>?_⟩
  .rfl
  .rfl
  .refine W.frame 0 _ _ st λb hb o e=>?_;obtain hbS:b≠s.heap.objs.size:=λh=>hSf (h▸hb);exact(N1 _ _ (R5 hbS)).trans ((N1 _ _ (R5 hbS)).trans e)
  .exact(N1 _ _ (R5 hb)).trans ((N1 _ _ (R5 hb)).trans e)
  .refine sJ y λacc c' aW x Y B=>?_;subst aW;show wpAny _ A (load s.heap.objs.size >>= _) _ _ s';refine r5 (wpAny_load Y ?_);exact v9 (h s' acc P hG x B)
 .refine sJ y λacc c' bS x Y B=>?_;subst bS;show wpAny _ A (load s.heap.objs.size >>= _) _ _ s';refine r5 (wpAny_load Y ?_);exact v9 (h s' acc P hG x B)
theorem vW{d:Addr}{Q:a9}(hd:(d==sysModules)=false)(ho:s.heap.get? d=some (bb es ep)) (B:Q (.ref s.heap.objs.size) { s with heap:=s.heap.push { cls:=.type "dict_keyiterator",data:=.fields #[.ref d,.int 0 0,.int es.size 0,.int ep 0] } }) : wpAny (model prog w) A (pyIter (.ref d)) Q E s:=by obtain hT:s.TypeIs (.ref d) "dict":=(af _ ho rfl);refine wpAny_pyIter_slot hT PySem.F.slot_dict_iter (H9 PySem.F.slot_dict_iter hT PySem.F.entry_dict_iter ?_ (PySem.F.args_dict_iter_1 _));refine r5 ?_;refine r5 (RF hT ?_);show wpAny _ _ (pure (Value.ref d)) _ _ s;refine v9 ?_;show wpAny _ _ (Builtin.Dict.showsAll d >>= _) _ _ s;unfold Builtin.Dict.showsAll;rw[if_neg (by rw[hd];exact D0)];refine r5 (v9 ?_);refine r5 (RO ho rfl ?_);refine r5 (wpAny_dictEpoch ho rfl ?_);refine r5 (N9 (v9 (af _ rfl (bR ("dict_keyiterator") _ (af _ (C2 _ rfl) rfl) PySem.F.slot_dict_keyiterator_next.lookup ?_))));simpa[rawInt]using B
theorem mS{d:Addr}{e:DictEntry}{Q:Option Value->Shared->Prop}(hit:s.heap.IsKeyIter it d i es.size ep)(G:s.heap.get? d=some (bb es ep))(Y:es[i]?=some e) (O:∀h',h'.IsKeyIter it d (i+1) es.size ep->Heap.SameBut it s.heap h'->Q (some e.key) { s with heap:=h' }) : wpAny (model prog w) A (pyNext (.ref it)) Q E s:=by
 refine bE (id hit) λo ho hc hd=>?_;refine r5 (wpAny_attempt (K2 (name:=Str.ofString "__next__") hit.typeIs Q3
  (H9 Q3 hit.typeIs PySem.F.entry_dict_keyiterator_next ?_ (PySem.F.args_dict_keyiterator_next_1 _))))
 refine r5 (v9 ?_);refine r5 ?_;refine r5 ?_;refine r5 (Rm hit.typeIs (v9 ?_));refine r5 (wpAny_fieldsOf ho hd ?_);obtain J:Builtin.Dict_items.ownsTuple "dict_keyiterator"=false:=by decide
 rw[if_neg (by rw[J];exact D0)];show wpAny _ _ (if(Value.ref d==Value.none)=true then _ else _) _ _ s;rw[if_neg (show ¬((Value.ref d==Value.none)=true)from D0)];refine r5 (v9 ?_);refine r5 (RO G rfl ?_);rw[if_neg (by simp)];refine r5 (v9 ?_);refine r5 (wpAny_dictEpoch G rfl ?_);rw[if_neg (by simp)];refine v9 ?_;dsimp only;rw[if_neg (show ¬((i:Int)<0)from by exact Dr),Rn,Y];refine r5 ?_;refine r5 (Rm hit.typeIs (v9 ?_));refine r5 (wpAny_isOneOf_keyiter hit.typeIs ?_);show wpAny _ _ (setField (.ref it) 1 (rawInt ((i:Int)+1)) >>= _) _ _ s;refine r5 (Rl ho hd (by simp) ?_);obtain B:(s.heap.update it (Obj.mapFields (·.setIfInBounds 1 (rawInt ((i:Int)+1))))).IsKeyIter it d (i+1) es.size ep :=(aN _ (G4 _ ho (Rg (K5 hd _))) ((Obj.cls_mapFields ..).trans hc) (by rw[K5 hd];simp[rawInt]))
 refine r5 (G6 ?_);refine r5 (wpAny_isOneOf_keyiter (s:={ s with heap:=s.heap.update it (Obj.mapFields (·.setIfInBounds 1 (rawInt ((i:Int)+1)))) }) B.typeIs ?_);exact v9 (v9 (af _ rfl (v9 (O _ B (G9 ..)))))
theorem oS{d:Addr}{Q:Option Value->Shared->Prop}(O:A.handled=none)(hit:s.heap.IsKeyIter it d i es.size ep)(B:s.heap.get? d=some (bb es ep))(Y:es[i]?=none) (J:∀h',Heap.ExtBut it s.heap h'->Q none { s with heap:=h' }):wpAny (model prog w) A (pyNext (.ref it)) Q E s:=by
 refine bE (id hit) λo ho hc hd=>?_;refine r5 (wpAny_attempt (K2 (name:=Str.ofString "__next__") hit.typeIs Q3
  (H9 Q3 hit.typeIs PySem.F.entry_dict_keyiterator_next ?_ (PySem.F.args_dict_keyiterator_next_1 _))))
 refine r5 (v9 ?_);refine r5 ?_;refine r5 ?_;refine r5 (Rm hit.typeIs (v9 ?_));refine r5 (wpAny_fieldsOf ho hd ?_);obtain G:Builtin.Dict_items.ownsTuple "dict_keyiterator"=false:=by decide
 rw[if_neg (by rw[G];exact D0)];show wpAny _ _ (if(Value.ref d==Value.none)=true then _ else _) _ _ s;rw[if_neg (show ¬((Value.ref d==Value.none)=true)from D0)];refine r5 (v9 ?_);refine r5 (RO B rfl ?_);rw[if_neg (by simp)];refine r5 (v9 ?_);refine r5 (wpAny_dictEpoch B rfl ?_);rw[if_neg (by simp)];refine v9 ?_;dsimp only;rw[if_neg (show ¬((i:Int)<0)from by exact Dr),Rn,Y];refine r5 ?_;refine r5 (Rm hit.typeIs (v9 ?_));show wpAny _ _ (setField (.ref it) 0 .none >>= _) _ _ s;refine r5 (Rl ho hd (by simp) ?_);show wpAny _ _ (newExc (.type "StopIteration") [] >>= _) _ _ _;refine r5 ?_;refine r5 (N9 ?_ (by size_fits));refine r5 (m:=firstArgMember _ _) (wpAny_of_eq (a:=Value.none) (by first|rfl|(simp only[firstArgMember];rfl)) ?_);refine N9 ?_ (by size_fits);dsimp only[raiseNew];refine r5 (wpAny_handled ?_);rw[show A.in1.handled=none from O];refine r5 (v9 (wpAny_throw ?_));refine r5 (wpAny_isInstance (T:="StopIteration") (b:=true) (af _ (C2 _ rfl) rfl) isSubtype_stop ?_);exact v9 (J _ (((G9 ..).extBut.push _).push _))
theorem zu(hh:A.handled=none)(I d:Addr)(Y:d≠I)(es:Array DictEntry)(ep:Nat) : Walks prog w A I [I,d] [I] es.size (λi v=>∃e,es[i]?=some e/\v=e.key) (λi h=>h.IsKeyIter I d i es.size ep/\h.get? d=some (bb es ep)) where
 sub:=λb B=>by simp at B;simp[B]
 frame:=λ_ _ _ st hk=>⟨st.1.at λo e=>hk I (y7) o e,hk d (by simp) _ st.2⟩
 item:=λi s Q E hi st F=>by
  have Z:es[i]?=some es[i]:=by simp[hi]
  refine mS st.1 st.2 Z λh' G J=>?_;exact F _ h' s.toks (af _ Z rfl) ⟨G,(J.2 d Y).trans st.2⟩ λb o B e=>J.extBut b o (λh=>B (by simp[h])) e
 done:=λs Q E st F=>oS hh st.1 st.2 (by simp) λh' O=>F h' s.toks λb o B e=>O b o (λh=>B (by simp[h])) e
 self:=λ_ _ _ _ st F=>wpAny_pyIter_keyiter st.1 F
theorem tc{d:Addr}{R:List Value->Shared->Prop}(Y:A.handled=none)(hd:(d==sysModules)=false)(ho:s.heap.get? d=some (bb es ep))(Z:es.size<=sizeLine)(h:∀s',Ex s s'->R (es.toList.map (·.key)) s') : wpAny (model prog w) A (collect (.ref d)) R E s:=by
 refine lZ (T:="dict") (n:=es.size) (G:=λP=>P=λi v=>∃e,es[i]?=some e/\v=e.key) (I4 ho) (af _ ho rfl) (by decide) (by decide) (λ_ _ _ hT q=>kdl_hint_dict hT q) Z (λE ac Q x1 O=>?_) λs' acc P J x B=>?_
 .have ho1:=x1.heap _ _ ho;refine vW hd ho1 (O _ [ac.heap.objs.size,d] _ _ _ rfl (zu (A:=A.in1) Y _ d (G7 (I4 ho1)) es ep) ⟨(aN _ (C2 _ rfl) rfl rfl),z5 _ ho1⟩ (C6 (A8 _)) (λb F=>?_) (Ex.push _ _ _));rcases C0.mp F with e|F
  .exact .inl e
  .rw[A4.mp F];exact .inr (.inl (by rw[ho];simp))
 .subst J
  have:acc.toList=es.toList.map (·.key):=by
   apply Ro;intro j;rw[C5,B9,B9];rcases e:acc[j]? with _|v
   .obtain this:es.size<=j:=by rw[<- B.1];simpa using e
    simp[this]
   .refine ah (B.2 j v e) λen e1 cI=>?_;subst cI;rw[e1];rfl
  rw[this];exact h s' x
end
end
theorem eB:∀(k:Nat)(l:List Nat),l.Nodup->(∀x∈l,x<k)->l.length<=k
 |0,l,_,h=>by
  rcases l with _|⟨x,l⟩
  .exact A8 _
  .exact absurd (h x y7) (J4 _)
 |k+1,l,nd,h=>by
  by_cases hk:k∈l
  .obtain B:=eB k (l.erase k) (nd.erase k) λx G=>by obtain F:=(List.Nodup.mem_erase_iff nd).mp G;obtain B:=h x F.2;obtain B:=F.1;exact EP (by assumption) F.1
   rw[List.length_erase_of_mem hk]at B;exact Jv B
  .obtain B:=eB k l nd λx G=>by obtain B:=h x G;obtain B:x≠k:=λe=>hk (e▸G);exact EP (by assumption) B
   exact EQ B
abbrev Rise(xs:Array Nat):Prop:=xs.toList.Pairwise (· < ·)
theorem Rise.lt(r:Rise xs){x y:Nat}(hi:xs[i]?=some x)(F:xs[j]?=some y)(h:i<j):x<y:=by rw[<- B9]at hi F;obtain⟨a,G⟩:=A9.mp hi;obtain⟨b,J⟩:=A9.mp F;obtain B:=List.pairwise_iff_getElem.mp r i j a b h;rw[G,J]at B;exact B
theorem nM(r:Rise xs)(j:Nat):∀(f lo hi:Nat),lo<=hi->hi<=xs.size->hi-lo<=f->(∀i x,i<lo->xs[i]?=some x->x<j)->(∀i x,hi<=i->xs[i]?=some x->j<=x) -> SetTable.below.go xs j f lo hi<=xs.size/\(∀i x,i<SetTable.below.go xs j f lo hi->xs[i]?=some x->x<j)/\(∀i x,SetTable.below.go xs j f lo hi<=i->xs[i]?=some x->j<=x)
 |0,lo,hi,h1,J,Q,Y,Z=>by delta SetTable.below.go;exact⟨by exact ES h1 J,Y,λi x h=>Z i x (Jw Q h)⟩
 |f+1,lo,hi,h1,J,Q,Y,Z=>by
  have e:SetTable.below.go xs j (f+1) lo hi=if lo<hi then _ else _:=rfl
  rw[e];by_cases B:lo<hi
  .rw[if_pos B];have hm:(lo+hi)/2<xs.size:=by exact Jx J B
   have hg:xs[(lo+hi)/2]?=some xs[(lo+hi)/2]:=by simp[hm]
   have hd:xs.getD ((lo+hi)/2) j=xs[(lo+hi)/2]:=by simp[Array.getD,hm]
   simp only[hd];split
   .rename_i hc;refine nM r j f _ hi (Jy B) J (Jz Q) (λi x F G=>?_) Z;by_cases e:i=(lo+hi)/2
    .subst e;rw[hg]at G;obtain rfl:=w4 G;exact hc
    .exact E7 (r.lt G hg (JA F e)) hc
   .rename_i hc;refine nM r j f lo _ (JB B) (JC hm) (JD Q) Y λi x F G=>?_;by_cases e:i=(lo+hi)/2
    .subst e;rw[hg]at G;obtain rfl:=w4 G;exact ET hc
    .obtain O:=r.lt hg G (JE F e);exact JF O hc
  .rw[if_neg B];exact⟨by exact ES h1 J,Y,λi x h=>Z i x (JG h B)⟩
theorem di(r:Rise xs)(j:Nat):SetTable.below xs j<=xs.size/\(∀i x,i<SetTable.below xs j->xs[i]?=some x->x<j)/\(∀i x,SetTable.below xs j<=i->xs[i]?=some x->j<=x) :=
 nM r j xs.size 0 xs.size (E1 _) (A8 _) JH (λi x h=>absurd h (J4 _)) λi x h e=>by
  have:xs.size<=i:=h
  simp[Array.getElem?_eq_none this]at e
theorem nK(r:Rise xs)(h:xs[i]?=some j):SetTable.below xs j=i:=by
 refine ia (di r j) λb1 b2 G=>?_;rcases Nat.lt_trichotomy (SetTable.below xs j) i with q|q|q
 .have J:SetTable.below xs j<xs.size:=by obtain B:=(L4.mp h).1;exact Ds q B
  obtain F:xs[SetTable.below xs j]?=some xs[SetTable.below xs j]:=by simp[J]
  obtain B:=r.lt F h q;obtain B:=G _ _ (A8 _) F;exact(JI B (by assumption)).elim
 .exact q
 .obtain B:=b2 i j q h;exact(Bb B).elim
theorem vd(r:Rise xs)(h:xs[i]?=some j):SetTable.below xs (j+1)=i+1:=by
 refine ia (di r (j+1)) λb1 b2 G=>?_;obtain hi:=(L4.mp h).1;rcases Nat.lt_trichotomy (SetTable.below xs (j+1)) (i+1)with q|q|q
 .obtain B:=G i j (xr q) h;exact(JJ B).elim
 .exact q
 .obtain F:xs[i+1]?=some xs[i+1]:=by simp
  obtain J:=r.lt h F EU;obtain O:=b2 _ _ q F;exact(JK O J).elim
theorem ve(r:Rise xs):SetTable.below xs 0=0:=by
 refine ia (di r 0) λb1 b2 G=>?_;rcases Nat.eq_zero_or_pos (SetTable.below xs 0)with q|q
 .exact q
 .obtain F:xs[0]?=some xs[0]:=by simp
  obtain B:=b2 0 _ q F;exact(EV B).elim
abbrev lS(xs:Array Nat)(j:Nat):Prop:=j∈xs.toList
theorem qT{t:SetTable}(r:Rise t.place)(h:t.place[i]?=some j):t.slot j=.live i:=by unfold SetTable.slot;simp only[nK r h,h,beq_self_eq_true,if_true]
theorem wn{t:SetTable}(r:Rise t.place)(hd:t.dummies=#[])(h:¬lS t.place j):t.slot j=.empty:=by
 unfold SetTable.slot
 have:(t.place[SetTable.below t.place j]?==some j)=false:=by rw[Rx];intro e;rw[<- B9]at e;exact h (B0 e)
 simp only[this,Bool.false_eq_true,if_false,hd];simp[SetTable.has]
theorem Gv(h:lS xs j):∃i:Nat,xs[i]?=some j:=by refine bL (D8.mp h) λi hi=>?_;exact⟨i,by rw[<- B9];exact hi⟩
theorem cA(xs:Array α)(p:Nat)(x:α):(SetTable.insertAt xs p x).toList=xs.toList.take p++x::xs.toList.drop p:=by
 unfold SetTable.insertAt;obtain B:xs.toList.length-p<=(xs.toList.drop p).length:=by simp
 simp only[Array.toList_append,Array.toList_push,Array.toList_extract,List.extract_eq_take_drop,Nat.sub_zero,List.drop_zero,List.append_assoc,List.singleton_append];rw[List.take_of_length_le (l:=xs.toList.drop p) (by simp)]
theorem uo(r:Rise xs)(h:¬lS xs j):Rise (SetTable.insertAt xs (SetTable.below xs j) j):=by
 refine ia (di r j) λb1 b2 Q=>?_;unfold Rise;rw[cA,List.pairwise_append];have F:∀a∈xs.toList.take (SetTable.below xs j),a<j:=λa ha=>by
  obtain⟨i,hi⟩:=D8.mp ha;rw[List.getElem?_take]at hi;split at hi
  .rename_i O;exact b2 i a O (by rw[<- B9];exact hi)
  .exact ns hi
 have G:∀a∈xs.toList.drop (SetTable.below xs j),j<a:=λa ha=>by obtain hm:lS xs a:=List.mem_of_mem_drop ha;obtain⟨i,hi⟩:=D8.mp ha;rw[Q1]at hi;obtain B:=Q _ a (G5 _ i) (by rw[<- B9];exact hi);obtain B:j≠a:=λe=>h (e▸hm);exact JM (by assumption) B
 refine⟨r.sublist (List.take_sublist _ _),Q2.mpr ⟨λa ha=>G a ha,r.sublist (List.drop_sublist _ _)⟩,λa ha b J=>?_⟩;rcases C0.mp J with e|J
 .rw[e];exact F a ha
 .exact E7 (F a ha) (G b J)
theorem oJ{p:Nat}:lS (SetTable.insertAt xs p j) k↔k=j\/lS xs k:=by
 unfold lS;rw[cA];constructor
 .intro h;rcases D9.mp h with h|h
  .exact .inr (List.mem_of_mem_take h)
  .rcases C0.mp h with h|h
   .exact .inl h
   .exact .inr (List.mem_of_mem_drop h)
 .intro h;rcases h with h|h
  .subst h;simp
  .rw[<- Rf p xs.toList]at h;rcases D9.mp h with h|h
   .exact G3 _ h
   .exact G1 _ (y9 _ h)
noncomputable def wJ(m:Nat)(p:SetTable.Probe):SetTable.Probe :=
 if p.more>0 then{ p with j:=p.j+1,more:=p.more-1 }else
 let(i,perturb):=SetTable.leap m p.i p.perturb
 { p with j:=i,more:=SetTable.runEnd m i-i,i,perturb }
noncomputable def jK(m:Nat):Nat->SetTable.Probe->SetTable.Probe
 |0,p=>p
 |n+1,p=>jK m n (wJ m p)
theorem fQ(m:Nat):∀(a b:Nat)(p:SetTable.Probe),jK m (a+b) p=jK m b (jK m a p)
 |0,b,p=>by rw[Q0];rfl
 |a+1,b,p=>by rw[show a+1+b=(a+b)+1 by exact Bc];exact fQ m a b (wJ m p)
theorem pZ(m:Nat)(p:SetTable.Probe):(wJ m p).dummy=p.dummy:=by unfold wJ;split <;> rfl
theorem qV(m:Nat):∀(n:Nat)(p:SetTable.Probe),(jK m n p).dummy=p.dummy
 |0,_=>rfl
 |n+1,p=>(qV m n (wJ m p)).trans (pZ m p)
noncomputable def dI(m i B:Nat):SetTable.Probe:={ j:=i,more:=SetTable.runEnd m i-i,i,perturb:=B,dummy:=none }
def jJ(t:SetTable)(h:Int):t.probeStart h=dI t.mask (SetTable.bits h%(t.mask+1)) (SetTable.bits h):=rfl
noncomputable abbrev cR(m:Nat)(h:Int):SetTable.Probe:=dI m (SetTable.bits h%(m+1)) (SetTable.bits h)
theorem nk(m:Nat):∀(k:Nat)(p:SetTable.Probe),k<=p.more->jK m k p={ p with j:=p.j+k,more:=p.more-k }
 |0,p,_=>rfl
 |k+1,p,h=>by
  show jK m k (wJ m p)=_;obtain e:wJ m p={ p with j:=p.j+1,more:=p.more-1 }:=by unfold wJ;rw[if_pos (JN h)]
  rw[e,nk m k _ (JO h)];congr 1
  .exact EW
  .exact JP
theorem pf(m i B:Nat):jK m (SetTable.runEnd m i-i+1) (dI m i B)=dI m (SetTable.leap m i B).1 (SetTable.leap m i B).2:=by rw[fQ m _ 1,nk m (SetTable.runEnd m i-i) (dI m i B) (A8 _)];show wJ m _=_;unfold wJ;rw[if_neg (by show ¬(SetTable.runEnd m i-i-(SetTable.runEnd m i-i)>0);exact JQ)];rfl
theorem jp(m i:Nat):SetTable.runEnd m i-i<=9/\(i<=m->SetTable.runEnd m i<=m)/\i<=SetTable.runEnd m i:=by unfold SetTable.runEnd;split <;>(first|exact JR (by assumption)|exact JS)
noncomputable def cp(m:Nat):Nat->Nat×Nat->Nat×Nat
 |0,x=>x
 |n+1,x=>cp m n (SetTable.leap m x.1 x.2)
theorem gv(m:Nat):∀(a b:Nat)(p:Nat×Nat),cp m (a+b) p=cp m b (cp m a p)
 |0,b,p=>by rw[Q0];rfl
 |a+1,b,p=>by rw[show a+1+b=(a+b)+1 by exact Bc];exact gv m a b _
theorem qW(m:Nat):∀(Γ i B:Nat),∃n,n<=10*Γ/\jK m n (dI m i B)=dI m (cp m Γ (i,B)).1 (cp m Γ (i,B)).2
 |0,i,B=>⟨0,A8 _,rfl⟩
 |Γ+1,i,B=>by
  refine ah (qW m Γ (SetTable.leap m i B).1 (SetTable.leap m i B).2) λn G J=>?_;refine(af (SetTable.runEnd m i-i+1+n) ?_ ?_)
  .obtain F:=(jp m i).1;exact JU F G
  .rw[fQ,pf,J];rfl
theorem gb(m:Nat):∀(Γ:Nat)(x:Nat×Nat),(cp m Γ x).2=x.2/32^Γ
 |0,x=>by simp[cp]
 |Γ+1,x=>by show(cp m Γ _).2=_;rw[gb m Γ];show x.2/32/32^Γ=_;rw[Nat.div_div_eq_div_mul,Nat.pow_succ,Nat.mul_comm]
theorem ox(m:Nat):∀(Γ i:Nat),cp m Γ (i,0)=((cp m Γ (i,0)).1,0):=λΓ i=>by obtain B:=gb m Γ (i,0);simp only[Nat.zero_div]at B;exact Prod.ext rfl B
theorem rO(m:Nat)(x:Nat×Nat):(SetTable.leap m x.1 x.2).1<=m:=by exact G8 (Nat.mod_lt _ (P1 m))
theorem tJ(m:Nat):∀(Γ:Nat)(x:Nat×Nat),x.1<=m->(cp m Γ x).1<=m
 |0,x,h=>h
 |Γ+1,x,h=>tJ m Γ _ (rO m x)
theorem FY(m:Nat)(hm:m=7\/m=31\/m=127):(cp m (m+1) (0,0)).1=0/\∀e,e<=m->∃k,k<=m/\(cp m k (0,0)).1=e:=by
 have key:∀m,((cp m (m+1) (0,0)).1==0&&(List.range (m+1)).all λe=>(List.range (m+1)).any λk=>(cp m k (0,0)).1==e)=true->(cp m (m+1) (0,0)).1=0/\∀e,e<=m->∃k,k<=m/\(cp m k (0,0)).1=e:=by intro m h;rw[I1,N4,J5]at h;refine⟨h.1,λe F=>?_⟩;obtain B:=h.2 e (F8.mpr (AZ F));rw[Rh]at B;refine ah B λk hk F=>?_;exact(af k (by obtain B:=F8.mp hk;exact xr B) (N4.mp F))
 rcases hm with rfl|rfl|rfl
 .exact key 7 (by decide +kernel)
 .exact key 31 (by decide +kernel)
 .exact key 127 (by decide +kernel)
theorem Iq(m:Nat)(hm:m=7\/m=31\/m=127){e:Nat}(hi:i<=m)(Z:e<=m):∃k,k<=m/\(cp m k (i,0)).1=e:=by
 refine cf (FY m hm) λO G=>?_;refine ah (G i hi) λa ha Q=>?_;refine ah (G e Z) λb Y J=>?_;obtain F:cp m a (0,0)=(i,0):=by rw[ox,Q]
 obtain h0:cp m (m+1) (0,0)=(0,0):=by rw[ox,O]
 by_cases B:a<=b
 .refine⟨b-a,by exact JV Y,?_⟩;rw[<- F,<- gv,show a+(b-a)=b by exact JW B,J]
 .refine⟨m+1+b-a,by exact JX B,?_⟩;rw[<- F,<- gv,show a+(m+1+b-a)=m+1+b by exact JY ha,gv,h0,J]
theorem Cs(h:Int):SetTable.bits h<2^64:=by obtain B:=Int.emod_lt_of_pos h (show(0:Int)<2^64 by decide);obtain B:=Int.emod_nonneg h (show(2^64:Int)≠0 by decide);exact JZ (by assumption)
theorem EE(m:Nat)(hm:m=7\/m=31\/m=127)(h:Int){e:Nat}(O:e<=m):∃Γ,Γ<=13+m/\(cp m Γ (SetTable.bits h%(m+1),SetTable.bits h)).1=e:=by
 have G:(cp m 13 (SetTable.bits h%(m+1),SetTable.bits h)).2=0:=by rw[gb];refine Nat.div_eq_of_lt (E9 (Cs h) ?_);decide
 obtain J:(cp m 13 (SetTable.bits h%(m+1),SetTable.bits h)).1<=m:=tJ m _ _ (G8 (Nat.mod_lt _ (P1 m)));refine ah (Iq m hm J O) λk hk F=>?_;refine(af (13+k) (by exact Kb hk) ?_);rw[gv];obtain B:cp m 13 (SetTable.bits h%(m+1),SetTable.bits h)=((cp m 13 (SetTable.bits h%(m+1),SetTable.bits h)).1,0):=by rw[<- G]
 rw[B];exact F
theorem FX(m:Nat)(hm:m=7\/m=31\/m=127)(h:Int){e:Nat}(J:e<=m):∃n,n<10*SetTable.turns m/\(jK m n (cR m h)).j=e:=by refine ah (EE m hm h J) λΓ G B=>?_;refine ah (qW m Γ (SetTable.bits h%(m+1)) (SetTable.bits h)) λn O F=>?_;refine⟨n,by exact Kc O G,?_⟩;rw[F];exact B
def Reach(m:Nat)(Cd:Nat->Prop)(p:SetTable.Probe)(j:Nat):Prop:=∃n,(jK m n p).j=j/\∀i,i<n->Cd (jK m i p).j
theorem Reach.mono{Cd B:Nat->Prop}{p:SetTable.Probe}(r:Reach m Cd p j)(h:∀k,Cd k->B k):Reach m B p j :=
 let⟨n,a,b⟩:=r;(af n a (λi hi=>h _ (b i hi)))
theorem yA(nd:Rise xs)(hz:xs.size<=m):∃e,e<=m/\¬lS xs e:=by
 by_cases hc:∃e,e<=m/\¬lS xs e
 .exact hc
 .obtain hc:∀e,e<=m->lS xs e:=λe B=>Classical.byContradiction λz=>hc (af e B z);exfalso;have key:∀k,k<=m+1->∀(l:List Nat),l.Nodup->(∀e,e<k->e∈l)->k<=l.length:=by
   intro k;induction k with
   |zero=>intro _ l _ _;exact E1 _
   |succ k G =>
    intro hk l nd hl;have hm:=hl k (K6 k);obtain this:=G (Ke hk) (l.erase k) (nd.erase k) λe B=>(List.Nodup.mem_erase_iff nd).mpr ⟨by exact AV B,hl e (tW B)⟩;rw[List.length_erase_of_mem hm]at this
    have:0<l.length:=List.length_pos_of_mem hm
    exact Kg (by assumption) this
  obtain F:=key (m+1) (A8 _) xs.toList (List.Pairwise.imp (λh=>G7 h) nd) λe B=>hc e (xr B);rw[J7]at F;exact EX F hz
section
variable{t:SetTable}
theorem rK(hd:t.dummies=#[])(r:Rise t.place){hashAt:Nat->Int}{h:Int}:∀(f n:Nat)(p:SetTable.Probe),p.dummy=none->n<f->¬lS t.place (jK t.mask n p).j -> ∃k,k<=n/\(∀i,i<k->∃q:Nat,t.place[q]?=some (jK t.mask i p).j/\hashAt q≠h) /\ ((¬lS t.place (jK t.mask k p).j/\SetTable.probe.go t hashAt h f p=some (.empty (jK t.mask k p).j none)) \/
    ∃q:Nat,k<n/\t.place[q]?=some (jK t.mask k p).j/\hashAt q=h/\SetTable.probe.go t hashAt h f p=some (.candidate (jK t.mask k p).j q (jK t.mask (k+1) p)))
 |0,n,p,_,G,_=>absurd G (J4 _)
 |f+1,n,p,hp,G,J=>by
  by_cases ho:lS t.place p.j
  .refine bL (Gv ho) λq hq=>?_;obtain hs:=qT r hq;rcases n with _|n
   .exact absurd ho J
   .by_cases B:hashAt q=h
    .refine(aN 0 (E1 _) (λi hi=>absurd hi (J4 _)) (.inr (iw q (Kh) hq B ?_)));unfold SetTable.probe.go;rw[hs];simp only[B,beq_self_eq_true,if_true];rfl
    .obtain⟨k,hk,O,F⟩:=rK hd r f n (wJ t.mask p) ((pZ _ _).trans hp) (Bd G) J;have e:SetTable.probe.go t hashAt h (f+1) p=SetTable.probe.go t hashAt h f (wJ t.mask p):=by
      conv=>lhs;unfold SetTable.probe.go
      rw[hs];simp only[beq_eq_false_iff_ne.mpr B,Bool.false_eq_true,if_false];rfl
     refine(aN (k+1) (Qi hk) (λi hi=>?_) ?_)
     .rcases i with _|i
      .exact(af q hq B)
      .exact O i (Bd hi)
     .rw[e];rcases F with F|⟨Q,a,b,c,d⟩
      .exact .inl F
      .exact .inr (iw Q (Ki a) b c d)
  .refine(aN 0 (E1 _) (λi hi=>absurd hi (J4 _)) (.inl ⟨ho,?_⟩));unfold SetTable.probe.go;rw[wn r hd ho];simp only[hp];rfl
theorem eM{xs:Array α}{p:Nat}(hp:p<=xs.size)(x:α)(i:Nat):(SetTable.insertAt xs p x)[i]?=if i<p then xs[i]? else if i=p then some x else xs[i-1]?:=by
 rw[<- B9,cA,List.getElem?_append];obtain hl:(xs.toList.take p).length=p:=by simp;exact Kj hp
 rw[hl];split
 .rename_i h;rw[List.getElem?_take,if_pos h,B9]
 .rename_i h;split
  .rename_i e;subst e;simp
  .rename_i e;rw[List.getElem?_cons];rw[if_neg (Kk e h),Q1,B9];congr 1;exact Kl e h
theorem bZ(xs:Array α)(p:Nat)(x:α):(SetTable.insertAt xs p x).size=xs.size+1:=by rw[<- J7,cA];simp;exact Km
structure TOK0(t:SetTable)(es:Array (Int×Value)):Prop where
 dm:t.dummies=#[]
 msk:t.mask=7\/t.mask=31\/t.mask=127
 size:t.place.size=es.size
 rise:Rise t.place
 le:∀j,lS t.place j->j<=t.mask
 reach:∀(i j:Nat)(e:Int×Value),t.place[i]?=some j->es[i]?=some e->Reach t.mask (lS t.place) (cR t.mask e.1) j
structure TOK(t:SetTable)(es:Array (Int×Value)):Prop extends TOK0 t es where
 few:es.size*5<t.mask*3
theorem Fits.of(T:TOK0 t es)(h:es.size<=t.mask):t.fits es.size=true:=by unfold SetTable.fits SetTable.fill;simp[T.size,T.dm,h]
theorem TOK.le'(T:TOK t es):es.size<t.mask:=by obtain B:=T.few;rcases T.msk with h|h|h <;> rw[h]at B ⊢ <;>(first|exact Kn B|exact Ko B|exact Kq B)
def yc(m:Nat)(p:SetTable.Probe):Prop:=p.j+p.more<=m
theorem zH{p:SetTable.Probe}(h:yc m p):yc m (wJ m p):=by
 unfold wJ;split
 .show p.j+1+(p.more-1)<=m
  have:p.j+p.more<=m:=h
  exact Kr (by assumption) this
 .show(SetTable.leap m p.i p.perturb).1+(SetTable.runEnd m (SetTable.leap m p.i p.perturb).1-(SetTable.leap m p.i p.perturb).1)<=m;obtain F:=rO m (p.i,p.perturb);obtain B:=jp m (SetTable.leap m p.i p.perturb).1;obtain this:=B.2.1 F;obtain this:=B.2.2;exact EY B.2.1 F
theorem ww(m:Nat)(h:Int):yc m (cR m h):=by obtain G:SetTable.bits h%(m+1)<=m:=G8 (Nat.mod_lt _ (P1 m));obtain F:=jp m (SetTable.bits h%(m+1));obtain B:=F.2.1 G;obtain B:=F.2.2;exact EY F.2.1 G
theorem uH:∀(n:Nat){p:SetTable.Probe},yc m p->yc m (jK m n p)
 |0,_,h=>h
 |n+1,_,h=>uH n (zH h)
theorem uF(m:Nat)(h:Int)(n:Nat):(jK m n (cR m h)).j<=m:=by obtain B:yc m _:=uH n (ww m h);exact u0 (G5 _ _) B
theorem nZ(T:TOK0 t es)(hz:es.size<=t.mask)(h:Int):∃n,n<10*SetTable.turns t.mask/\¬lS t.place (jK t.mask n (cR t.mask h)).j:=by refine ah (yA T.rise (by rw[T.size];exact hz)) λe G J=>?_;refine ah (FX t.mask T.msk h G) λn B F=>?_;exact(af n B (by rw[F];exact J))
theorem vU(hd:t.dummies=#[])(j:Nat):t.put j=({ t with place:=SetTable.insertAt t.place (SetTable.below t.place j) j },SetTable.below t.place j):=by
 unfold SetTable.put;obtain B:SetTable.has t.dummies j=false:=by rw[hd];simp[SetTable.has]
 simp only[B,Bool.false_eq_true,if_false]
theorem TOK0.put(T:TOK0 t es){e:Int×Value}(O:j<=t.mask)(Q:¬lS t.place j)(hr:Reach t.mask (lS t.place) (cR t.mask e.1) j) : TOK0 (t.put j).1 (SetTable.insertAt es (t.put j).2 e):=by
 rw[vU T.dm];refine ia (di T.rise j) λb1 _ _=>?_;refine⟨T.dm,T.msk,?_,uo T.rise Q,λk hk=>?_,λi k e' F B=>?_⟩
 .show(SetTable.insertAt _ _ _).size=_;rw[bZ,bZ,T.size]
 .rcases oJ.mp hk with hk|hk
  .rw[hk];exact O
  .exact T.le k hk
 .have mono:∀{p:SetTable.Probe}{k:Nat},Reach t.mask (lS t.place) p k->Reach t.mask (lS (SetTable.insertAt t.place (SetTable.below t.place j) j)) p k:=λr=>r.mono λq hq=>oJ.mpr (.inr hq);simp only at F B;rw[eM b1]at F;rw[eM (by rw[<- T.size];exact b1)]at B;split at F
  .rename_i G;rw[if_pos G]at B;exact mono (T.reach i k e' F B)
  .rename_i G;rw[if_neg G]at B;split at F
   .rename_i J;rw[if_pos J]at B;obtain rfl:=w4 F;obtain rfl:=w4 B;exact mono hr
   .rename_i J;rw[if_neg J]at B;exact mono (T.reach _ k e' F B)
abbrev uY(owner:Array (Option Nat))(j:Nat):Prop:=∃q:Nat,owner[j]?=some (some q)
structure LInv(m:Nat)(al:List Int)(owner:Array (Option Nat))(k:Nat):Prop where
 size:owner.size=m+1
 at_:∀(j q:Nat),owner[j]?=some (some q)->q<k/\∃hq,al[q]?=some hq/\Reach m (uY owner) (cR m hq) j
 has:∀q,q<k->∃j:Nat,owner[j]?=some (some q)
 one:∀(j j' q:Nat),owner[j]?=some (some q)->owner[j']?=some (some q)->j=j'
theorem LInv.empty{al:List Int}{owner:Array (Option Nat)}(I:LInv m al owner k)(hk:k<=m):∃e,e<=m/\owner[e]?=some none:=by
 by_cases hc:∃e,e<=m/\owner[e]?=some none
 .exact hc
 .exfalso;have B:∀e,e<m+1->∃q:Nat,owner[e]?=some (some q):=λe Q=>by
   have F:e<owner.size:=by rw[I.size];exact Q
   rcases h:owner[e]with _|q
   .exact absurd (af e (by exact xr Q) (by rw[N0 F,h])) hc
   .exact⟨q,by rw[N0 F,h]⟩
  have h2:=eB k ((List.range (m+1)).map λe=>((owner[e]?).getD none).getD 0) ?_ ?_
  .simp at h2;exact EX h2 hk
  .refine List.Pairwise.map _ (R:=λx y=>x<m+1/\y<m+1/\x≠y) ?_ ?_
   .rintro x y ⟨J,Z,Y⟩ e;refine bL (B x J) λq hq=>?_;refine bL (B y Z) λq' G=>?_;rw[hq,G]at e;simp only[Option.getD_some]at e;subst e;exact Y (I.one _ _ _ hq G)
   .obtain O:(List.range (m+1)).Pairwise (·≠·):=List.nodup_range;exact List.Pairwise.imp_of_mem (λJ Z h=>⟨F8.mp J,F8.mp Z,h⟩) O
  .intro x J;refine ah (w3.mp J) λe Q aW=>?_;subst aW;refine bL (B e (F8.mp Q)) λq hq=>?_;rw[hq];exact(I.at_ e q hq).1
theorem vu{n:Nat}{p:Nat->Bool}:(∃k,k<n/\(List.range n).find? p=some k/\p k=true/\∀i,i<k->p i=false)\/((List.range n).find? p=none/\∀i,i<n->p i=false):=by
 rcases h:(List.range n).find? p with _|k
 .rw[List.find?_eq_none]at h;exact .inr ⟨rfl,λi hi=>K0.mpr (h i (F8.mpr hi))⟩
 .rw[List.find?_range_eq_some]at h;exact .inl (iw k (F8.mp h.2.1) rfl h.1 (λi hi=>by obtain B:=h.2.2 i hi;simpa using B))
theorem qy{owner:Array (Option Nat)}(hs:owner.size=m+1):∀(Γ f i F:Nat),Γ<f->i<=m->(∃x:Nat,(cp m Γ (i,F)).1=x/\owner[x]?=some none) -> ∃j,SetTable.layClean.free m owner f i F=some j/\j<=m/\owner[j]?=some none/\Reach m (uY owner) (dI m i F) j
 |Γ,0,i,F,h,_,_=>absurd h (J4 _)
 |Γ,f+1,i,F,hf,hi,he=>by
  unfold SetTable.layClean.free;obtain O:=jp m i;have G:=O.2.1 hi;have Y:∀k,k<SetTable.runEnd m i+1-i->((owner.getD (i+k) (some 0)).isNone=true↔owner[i+k]?=some none):=λk hk=>by
   have B:i+k<owner.size:=by rw[hs];exact EZ G hk
   obtain e1:owner.getD (i+k) (some 0)=owner[i+k]:=by simp[Array.getD,B]
   rw[e1,N0 B];cases owner[i+k] <;> simp
  have Cd:∀k,k<SetTable.runEnd m i+1-i->(owner.getD (i+k) (some 0)).isNone=false->uY owner (jK m k (dI m i F)).j:=λk hk Q=>by
   rw[nk m k _ (by exact Fa hk)];have B:i+k<owner.size:=by rw[hs];exact EZ G hk
   obtain e1:owner.getD (i+k) (some 0)=owner[i+k]:=by simp[Array.getD,B]
   rw[e1]at Q;show uY owner (i+k);rcases h:owner[i+k]with _|q
   .rw[h]at Q;exact Gs Q
   .exact⟨q,by rw[N0 B,h]⟩
  rcases vu (n:=SetTable.runEnd m i+1-i) (p:=λk=>(owner.getD (i+k) (some 0)).isNone)with⟨k,hk,h1,Z,J⟩|⟨h1,Z⟩
  .rw[h1];refine(iw (i+k) rfl (Ks G hk) ((Y k hk).mp Z) (af k ?_ (λa ha=>Cd a (Kt ha hk) (J a ha))));rw[nk m k _ (by exact Fa hk)];rfl
  .rw[h1];rcases Γ with _|Γ
   .obtain⟨x,hx,Q⟩:=he
    have:=Z 0 (Fb O.2.2)
    have J:=(Y 0 (Fb O.2.2)).mpr (by rw[Nat.add_zero];rw[show i=x from hx];exact Q);simp only[Nat.add_zero]at this J;rw[this]at J;exact ai J
   .refine sH (qy hs Γ f (SetTable.leap m i F).1 (SetTable.leap m i F).2 (Bd hf) (rO m (i,F)) he) λj e1 e2 e3 bS=>?_;refine ah bS λn e4 e5=>?_;refine(iw j e1 e2 e3 (af (SetTable.runEnd m i-i+1+n) (by rw[fQ,pf];exact e4) (λa ha=>?_)));by_cases hc:a<SetTable.runEnd m i-i+1
    .exact Cd a (Fc O.2.2 hc) (Z a (Fc O.2.2 hc))
    .obtain this:a=SetTable.runEnd m i-i+1+(a-(SetTable.runEnd m i-i+1)):=by exact Kv hc
     rw[this,fQ,pf];exact e5 _ (Kw this ha)
noncomputable def mW(m:Nat)(acc:Option (Array (Option Nat)×Nat))(h:Int):Option (Array (Option Nat)×Nat):=do
  let(owner,k) <- acc
  let j <- SetTable.layClean.free m owner (SetTable.turns m) (SetTable.bits h%(m+1)) (SetTable.bits h)
  pure (owner.setIfInBounds j (some k),k+1)
theorem tG(m:Nat)(hashes:Array Int):SetTable.layClean m hashes=(hashes.toList.foldl (mW m) (some (Array.replicate (m+1) none,0))).map (·.1):=by unfold SetTable.layClean;rw[<- Array.foldl_toList];rfl
theorem tI(hm:m=7\/m=31\/m=127){al:List Int}(hl:al.length<=m):∀(rest pre:List Int)(owner:Array (Option Nat)),al=pre++rest->LInv m al owner pre.length -> ∃B,rest.foldl (mW m) (some (owner,pre.length))=some (B,al.length)/\LInv m al B al.length
 | [],pre,owner,e,I=>by rw[H8]at e;subst e;exact(af owner rfl I)
 |h::rest,pre,owner,e,I=>by
  obtain hk:pre.length<al.length:=by rw[e];simp
  refine ah (I.empty (Kx hl hk)) λx hx hn=>?_;refine ah (EE m hm h hx) λΓ hL eL=>?_;refine sH (qy I.size Γ (SetTable.turns m) _ _ (Ky hL) (G8 (Nat.mod_lt _ (P1 m))) (af x eL hn)) λj e1 e2 e3 e4=>?_;obtain Q:j<owner.size:=by rw[I.size];exact AZ e2
  have F:∀i:Nat,(owner.setIfInBounds j (some pre.length))[i]?=if j=i then some (some pre.length)else owner[i]?:=λi=>by rw[Array.getElem?_setIfInBounds];simp[Q]
  obtain Z:al[pre.length]?=some h:=by rw[e];simp
  have mono:∀k,uY owner k->uY (owner.setIfInBounds j (some pre.length)) k:=λk ⟨q,hq⟩=>by
   by_cases O:j=k
   .subst O;rw[e3]at hq;cases hq
   .exact⟨q,by rw[F,if_neg O];exact hq⟩
  have I':LInv m al (owner.setIfInBounds j (some pre.length)) (pre++[h]).length:=by
   obtain hlen:(pre++[h]).length=pre.length+1:=by rw[B7];rfl
   rw[hlen];refine⟨by simp[I.size],λi q hq=>?_,λq hq=>?_,λi i' q G J=>?_⟩
   .rw[F]at hq;split at hq
    .rename_i ad;subst ad;cases hq;exact⟨by exact EU,(af h Z (e4.mono mono))⟩
    .refine cf (I.at_ i q hq) λa cI=>?_;refine ah cI λan b c=>?_;exact⟨by exact tW a,(af an b (c.mono mono))⟩
   .by_cases Y:q=pre.length
    .subst Y;exact⟨j,by rw[F,if_pos rfl]⟩
    .obtain⟨i,hi⟩:=I.has q (xt hq Y);refine⟨i,?_⟩;rw[F,if_neg]
     .exact hi
     .intro z;subst z;rw[e3]at hi;cases hi
   .rw[F]at G J;split at G <;> split at J
    .exact Kz (by assumption) (by assumption)
    .rename_i z1 z2;cases G
     have:=(I.at_ i' _ J).1
     exact(Bb this).elim
    .rename_i z1 z2;cases J
     have:=(I.at_ i _ G).1
     exact(Bb this).elim
    .exact I.one _ _ _ G J
  refine ah (tI hm hl rest (pre++[h]) _ (by rw[e];simp) I') λB f1 f2=>?_;refine(af B ?_ f2);rw[List.foldl_cons];have ar:mW m (some (owner,pre.length)) h=some (owner.setIfInBounds j (some pre.length),(pre++[h]).length):=by delta mW;simp only[Option.bind_eq_bind,Option.bind_some,e1,Option.pure_def,List.length_append,List.length_singleton]
  rw[ar];exact f1
theorem pM(hm:m=7\/m=31\/m=127){hashes:Array Int}(hl:hashes.size<=m):∃owner,SetTable.layClean m hashes=some owner/\LInv m hashes.toList owner hashes.size:=by
 have F:LInv m hashes.toList (Array.replicate (m+1) none) ([]:List Int).length:=by
  refine⟨by simp,λj q h=>?_,λq h=>absurd h (J4 _),λj j' q h=>?_⟩
  .rw[Array.getElem?_replicate]at h;split at h <;> cases h
  .rw[Array.getElem?_replicate]at h;split at h <;> cases h
 refine ah (tI hm (al:=hashes.toList) hl hashes.toList [] _ rfl F) λowner B G=>?_;refine(af owner ?_ (by simpa using G));rw[tG];simp only[List.length_nil]at B;rw[B];rfl
end
theorem bY(es:Array α):∀(l:List Nat),(∀q∈l,q<es.size)->(l.filterMap (es[·]?)).length=l.length/\∀(i q:Nat),l[i]?=some q->(l.filterMap (es[·]?))[i]?=es[q]?
 | [],_=>⟨rfl,λi q h=>by simp at h⟩
 |a::l,h=>by
  obtain⟨F,G⟩:=bY es l λq hq=>h q (y9 _ hq);have B:=h a y7;obtain ha:es[a]?=some es[a]:=by simp[B]
  have e:(a::l).filterMap (es[·]?)=es[a]::l.filterMap (es[·]?):=by rw[Rw,ha]
  rw[e];refine⟨by simp[F],λi q hi=>?_⟩;rcases i with _|i
  .simp at hi;subst hi;exact ha.symm
  .simp at hi;exact G i q hi
theorem eF(es:Array α):(List.range es.size).filterMap (es[·]?)=es.toList:=by
 refine cf (bY es (List.range es.size) λq hq=>F8.mp hq) λB F=>?_;apply Ro;intro i;rw[Rp]at B;by_cases hi:i<es.size
 .rw[F i i (by simp[hi]),B9]
 .rw[Re (KA B hi),Re (by simpa using hi)]
theorem yJ{fi mv:Nat}{led plain:Bool}(hm:m=7\/m=31\/m=127)(hl:es.size<=m) : ∃t F,SetTable.laid m fi mv led plain (es.map (·.1))=some (t,F)/\t.mask=m/\t.finger=fi/\t.led=led/\t.plain=plain/\F.toList.Perm (List.range es.size)/\TOK0 t (F.filterMap (es[·]?))/\(F.filterMap (es[·]?)).size=es.size/\(F.filterMap (es[·]?)).toList.Perm es.toList:=by
 refine ah (pM hm (hashes:=es.map (·.1)) (by simpa using hl)) λowner h1 I=>?_;rw[Array.size_map]at I;obtain an:∃live:List (Nat×Nat),live=(List.range (m+1)).filterMap (λj=>(owner.getD j none).map (j,·)):=⟨_,rfl⟩;obtain⟨live,O⟩:=an;have B:∀j q,(j,q)∈live↔owner[j]?=some (some q):=λj q=>by
  rw[O,List.mem_filterMap];constructor
  .rintro⟨a,ha,e⟩;refine ah (E3.mp e) λb Y e'=>?_;cases e';obtain G:j<owner.size:=by rw[I.size];exact F8.mp ha
   simp[Array.getD,G]at Y;rw[N0 G,Y]
  .intro e;refine bL (L4.mp e) λG e'=>?_;refine(af j (F8.mpr (by rw[<- I.size];exact G)) ?_);simp[Array.getD,G,e']
 have Q:live.Pairwise λa b=>a.1<b.1:=by rw[O,List.pairwise_filterMap];refine List.Pairwise.imp (R:=λx y=>x<y) ?_ List.pairwise_lt_range;intro a a' h b Y b' hb';refine ah (E3.mp Y) λ_ _ aW=>?_;subst aW;refine ah (E3.mp hb') λ_ _ bS=>?_;subst bS;exact h
 have hnd:(live.map (·.2)).Nodup:=by refine List.Pairwise.map _ (R:=λa b:Nat×Nat=>a∈live/\b∈live/\a.1<b.1) ?_ (List.Pairwise.imp_of_mem (λha Y h=>(cH ha Y h)) Q);rintro⟨a,q⟩ ⟨b,q'⟩ ⟨ha,Y,G⟩ e;simp only at e G;subst e;obtain this:=I.one _ _ _ ((B _ _).mp ha) ((B _ _).mp Y);exact Be this G
 have J:(live.map (·.2)).Perm (List.range es.size):=by
  refine(Rb hnd List.nodup_range).mpr λq=>?_;rw[w3,F8];constructor
  .rintro⟨⟨j,q'⟩,h,rfl⟩;exact(I.at_ j q' ((B _ _).mp h)).1
  .intro hq;refine bL (I.has q hq) λj hj=>?_;exact(af (j,q) ((B _ _).mpr hj) rfl)
 obtain G:∀q∈live.map (·.2),q<es.size:=λq hq=>F8.mp (J.mem_iff.mp hq);have hlen:live.length=es.size:=by obtain this:=J.length_eq;simpa using this
 refine cf (bY es _ G) λg1 g2=>?_;have ad:((live.map (·.2)).toArray.filterMap (es[·]?)).toList=(live.map (·.2)).filterMap (es[·]?):=by simp
 have hsz:((live.map (·.2)).toArray.filterMap (es[·]?)).size=es.size:=by rw[<- J7,ad,g1,u7,hlen]
 have Z:∀j,lS (live.map (·.1)).toArray j↔uY owner j:=λj=>by
  show j∈(live.map (·.1)).toArray.toList↔_;simp only[List.mem_map];constructor
  .rintro⟨⟨a,q⟩,h,rfl⟩;exact⟨q,(B _ _).mp h⟩
  .rintro⟨q,h⟩;exact(af (j,q) ((B _ _).mpr h) rfl)
 refine⟨{ mask:=m,place:=(live.map (·.1)).toArray,dummies:=#[],finger:=fi,led,moves:=mv,plain },(live.map (·.2)).toArray,?_,rfl,rfl,rfl,rfl,by exact J,⟨rfl,hm,?_,?_,?_,?_⟩,hsz,?_⟩
 .unfold SetTable.laid;rw[h1];dsimp only[Option.bind_eq_bind,Option.bind_some,Option.pure_def];rw[<- O]
 .show(live.map (·.1)).toArray.size=_;rw[hsz];simp[hlen]
 .show Rise (live.map (·.1)).toArray;unfold Rise;simp only[List.pairwise_map];exact Q
 .intro j hj;obtain⟨q,hq⟩:=(Z j).mp hj
  have:=(L4.mp hq).1
  rw[I.size]at this;exact G8 this
 .intro i j e h1 h2;simp only at h1;rw[<- B9]at h1 h2;rw[ad]at h2;simp only[List.getElem?_map]at h1;refine ah (E3.mp h1) λcI hp cW=>?_;obtain⟨j',q⟩:=cI;subst cW;rw[g2 i q (by rw[C5,hp];rfl)]at h2;refine cf (I.at_ _ _ ((B _ _).mp (B0 hp))) λ_ eJ=>?_;refine ah eJ λhq a1 a2=>?_;rw[B9,Array.getElem?_map,h2]at a1;obtain rfl:=w4 a1;exact a2.mono λk hk=>(Z k).mpr hk
 .rw[ad];obtain this:=J.filterMap (es[·]?);rw[eF]at this;exact this
theorem mE{t:SetTable}(hm:t.mask=7\/t.mask=31\/t.mask=127)(hl:es.size<=64)(hf:es.size*5≥t.mask*3)(hsz:es.size<=t.mask)(Y:(es.size-1)*5<t.mask*3) : ∃t' B,t.relaid (es.map (·.1)) (SetTable.grown es.size)=some (t',B)/\t'.led=t.led/\t'.plain=t.plain/\B.toList.Perm (List.range es.size)/\TOK t' (B.filterMap (es[·]?))/\(B.filterMap (es[·]?)).size=es.size/\(B.filterMap (es[·]?)).toList.Perm es.toList/\SetTable.sizeAbove (SetTable.grown es.size)<=sizeLine:=by
 obtain hg:SetTable.grown es.size=es.size*4:=by unfold SetTable.grown;rw[if_neg (KB hl)]
 have key:∃J,SetTable.sizeAbove (SetTable.grown es.size)-1=J/\(J=7\/J=31\/J=127)/\es.size*5<J*3/\SetTable.sizeAbove (SetTable.grown es.size)<=128:=by
  rw[hg];rcases hm with h|h|h
  .rw[h]at hf Y;obtain G:es.size=5:=by exact KC hf Y
   rw[G];exact(iw 31 (by decide) (.inr (.inl rfl)) KD (by decide))
  .rw[h]at hf Y;obtain G:es.size=19:=by exact KE hf Y
   rw[G];exact(iw 127 (by decide) (.inr (.inr rfl)) KF (by decide))
  .rw[h]at hf;exact(KG hf hl).elim
 refine sH key λJ e Q F O=>?_;obtain Z:es.size<=J:=by rcases Q with h|h|h <;> rw[h]at F ⊢ <;>(first|exact(KH hf F hm).elim|exact KJ F|exact KK F)
 obtain⟨t',B,h1,h2,_,h3,h4,h5,h6,h7,h8⟩:=yJ (m:=J) (fi:=t.finger) (mv:=t.movedTo J) (led:=t.led) (plain:=t.plain) Q Z;refine⟨t',B,?_,h3,h4,h5,⟨h6,?_⟩,h7,h8,?_⟩
 .unfold SetTable.relaid;rw[e];exact h1
 .rw[h7,h2];exact F
 .rw[J9];exact KL O
noncomputable def cJ(w:World):Bool:=w.params.followText "set-order"
noncomputable abbrev bC(es:Array (Int×Value))(ep:Nat)(t:SetTable):Obj:={ cls:=.type "set",data:=.set es ep t }
section
variable{A:Around}{sa:SX}
theorem cU{Q:b7}(h:Q (cJ w) s):wpAny (model prog w) A setsByText Q E s:=by unfold setsByText;exact r5 (wpAny_askSetting (v9 h))
theorem sC{src:Source}{n:Nat}{Q:Nat->Shared->Prop}(B:0<n)(h:∀i d,i<n->Q i { s with drawn:=d }):wpAny (model prog w) A (choose src n) Q E s :=λ_ _ _=>⟨Nat.pos_iff_ne_zero.mp B,h _ _ (Nat.mod_lt _ B)⟩
theorem x8{x:V}{c:Value}{n:Nat}{Q:b7}(p:aQ x=true)(u:aD x<=n)(r:VR sa s.heap x c)(h:Q false s):wpAny (model prog w) A (ofAClassStatement n c) Q E s:=by
 refine AC (P:=λn c=>∀Q:Bool->Shared->Prop,Q false s->wpAny (model prog w) A (ofAClassStatement n c) Q E s) (λn i t Q h=>?_) (λn x t Q h=>?_) (λn a cvs ht B Q h=>?_) p u r Q h
 .cases n <;> exact v9 h
 .cases n <;> exact v9 h
 .obtain hT:=ht.typeIs (s:=s);refine bE ht λo ho _ cW=>?_;refine bL cW λk hd=>?_;unfold ofAClassStatement;refine r5 (wpAny_typeOf hT ?_);refine r5 (v9 ?_);refine r5 (N6 ho hd ?_);refine r5 ?_;rw[<- Array.forIn_toList];exact fq (λc hc R h=>r5 (B c hc _ (v9 h))) (v9 h)
theorem x9{x:V}{c:Value}{n:Nat}{Q:b7}(p:aQ x=true)(r:VR sa s.heap x c)(h:∀b,Q b s):wpAny (model prog w) A (hashByValue n c) Q E s:=by
 refine rM (P:=λ_ c=>∀n (Q:b7),(∀b,Q b s)->wpAny (model prog w) A (hashByValue n c) Q E s) (Q:=λ_ cs=>∀c∈cs,∀n (Q:b7),(∀b,Q b s)->wpAny (model prog w) A (hashByValue n c) Q E s)
  (λi t n Q h=>by unfold hashByValue;exact v9 (h _)) (λi t n Q h=>by unfold hashByValue;exact v9 (h _)) (λvs a cvs _ ht _ G n Q h=>?_) (λ_ h=>absurd h A7) (λ_ _ _ _ _ _ _ _ a b=>List.forall_mem_cons.mpr ⟨a,b⟩) p r n Q h
 rcases n with _|n
 .unfold hashByValue;exact v9 (h _)
 .obtain hT:=ht.typeIs (s:=s);refine bE ht λo ho _ B=>?_;refine bL B λk hd=>?_;refine r5 (RH hT PySem.F.slot_tuple_hash.lookup ?_);refine r5 (N6 ho hd ?_);refine r5 ?_;rw[<- Array.forIn_toList];show wpAny _ _ (forIn cvs.toList _ _) _ _ _;generalize cvs.toList=cs at G ⊢;induction cs with
  |nil=>exact v9 (v9 (h _))
  |cons c cs J =>
   rw[Rt];refine r5 (r5 (G c y7 n _ λb=>?_));rcases b with _|_
   .exact v9 (v9 (v9 (h _)))
   .exact v9 (J λc hc=>G c (y9 _ hc))
abbrev iy(x:V):Prop:=aQ x=true/\aD x<=8
theorem AT{x:V}{c:Value}(G:iy x)(Z:VR sa s.heap x c):∀{cs:List Value}{Q:b7},(∀y∈cs,∃u,iy u/\VR sa s.heap u y)->Q false s->wpAny (model prog w) A (searchCouldBeSeen c cs) Q E s:=by
 intro cs Q hc h;refine r5 ?_;obtain B:∀(cs:List Value){R:Option Bool×PUnit->Shared->Prop}{f:Value->Option Bool×PUnit->Sem (ForInStep (Option Bool×PUnit))},(∀y∈cs,∃u,iy u/\VR sa s.heap u y)->R (none,PUnit.unit) s ->
   (∀y J,(∃u,iy u/\VR sa s.heap u y)->J (ForInStep.yield (none,PUnit.unit)) s->wpAny (model prog w) A (f y (none,PUnit.unit)) J E s)->wpAny (model prog w) A (forIn cs (none,PUnit.unit) f) R E s:=by
  intro cs;induction cs with
  |nil=>intro R f _ h _;rw[List.forIn_nil];exact v9 h
  |cons y cs ih =>intro R f hc h hf;rw[Rt];refine r5 (hf y _ (hc y y7) ?_);exact ih (λz hz=>hc z (y9 _ hz)) h hf
 refine B cs hc (v9 h) λy J ⟨u,F,Y⟩ O=>?_;dsimp only;split
 all_goals
  refine J8 (λ_=>v9 O) (λ_=>?_);refine r5 (VR.quiet G.1 G.2 Z ?_);refine r5 (VR.quiet F.1 F.2 Y ?_);refine r5 (x8 G.1 G.2 Z ?_);refine r5 (x8 F.1 F.2 Y ?_);exact v9 O
end
section
set_option tactic.hygienic true
structure ESR(sa:SX)(w:World)(h:Heap)(us:List V)(es:Array (Int×Value)):Prop where
 len:us.length=es.size
 at_:∀(i:Nat)(u:V)(e:Int×Value),us[i]?=some u->es[i]?=some e->e.1=aL w u/\VR sa h u e.2
theorem ESR.get{sa:SX}(r:ESR sa w h us es){u:V}(F:us[i]?=some u):∃e,es[i]?=some e/\e.1=aL w u/\VR sa h u e.2:=by
 obtain hi:=(A9.mp F).1;obtain B:i<es.size:=by rw[<- r.len];exact hi
 exact(af (es[i]) (by simp[B]) (r.at_ i u _ F (by simp[B])))
theorem ESR.get'{sa:SX}(r:ESR sa w h us es){e:Int×Value}(F:es[i]?=some e):∃u,us[i]?=some u/\e.1=aL w u/\VR sa h u e.2:=by
 obtain hi:=(L4.mp F).1;obtain B:i<us.length:=by rw[r.len];exact hi
 exact(af (us[i]) (by simp[B]) (r.at_ i _ e (by simp[B]) F))
theorem ESR.keep{sa:SX}(k:TupKeep sa h h')(r:ESR sa w h us es):ESR sa w h' us es :=⟨r.len,λi u e a b=>⟨(r.at_ i u e a b).1,(r.at_ i u e a b).2.keep k⟩⟩
structure SetR(sa:SX)(w:World)(h:Heap)(a:Addr)(κ:Nat)(us:List V):Prop where
 obj:∃es ep t,h.get? a=some (bC es ep t)/\TOK t es/\t.led=!cJ w/\ESR sa w h us es
 kind:∀u∈us,vk u=κ/\iy u
 nd:us.Nodup
section
variable{A:Around}{sa:SX}
theorem wx{q:Nat}{e:Int×Value}(h:es[q]?=some e):(es[q]?.map (·.1)).getD 0=e.1:=by rw[h];rfl
theorem TOK.ent{t:SetTable}(T:TOK t es){q:Nat}(h:t.place[q]?=some j):∃e,es[q]?=some e:=by
 obtain hq:q<es.size:=by rw[<- T.size];exact(L4.mp h).1
 exact⟨_,N0 hq⟩
def pB{c:Prop}[Decidable c]{a b:Sem α}{Q:α->Shared->Prop}{P:Prop}(k:P)(ha:c->P->wpAny M A a Q E s)(B:¬c->P->wpAny M A b Q E s):wpAny M A (if c then a else b) Q E s :=J8 (λh=>ha h k) λh=>B h k
theorem QN{u:V}(h:vk u=3):∃xs,u=.tup xs:=by cases u <;> first|exact⟨_,rfl⟩|exact absurd h (by decide:¬(0:Nat)=3)|exact absurd h (by decide:¬(1:Nat)=3)|exact absurd h (by decide:¬(2:Nat)=3)
theorem wy{g:Int}(r:ESR sa w s.heap us es)(hk:∀u∈us,vk u=3/\iy u):∀y∈((es.filter λz=>z.1==g).toList.map λz=>z.2),∃u,iy u/\VR sa s.heap u y:=λy O=>by refine ah (w3.mp O) λe B aW=>?_;subst aW;obtain⟨i,hi⟩:=Array.mem_iff_getElem?.mp (Array.mem_filter.mp (Q5.mp B)).1;refine bE (r.get' hi) λF G Q J=>?_;exact(af F ((hk F (B0 G)).2) J)
theorem zi{a:Addr}{t:SetTable}(ho:s.heap.get? a=some (bC es ep t))(T:TOK t es)(r:ESR sa w s.heap us es)(hk:∀u∈us,vk u=3/\iy u){x:V}{c:Value}(kx:iy x)(rx:VR sa s.heap x c)(hu:A.units+9<cLine){Q:SetFound->Shared->Prop} (Y:x∈us->Q (.there none) s):∀(n B:Nat)(p:SetTable.Probe)(F:Option SetTable.Probe),F.getD (t.probeStart (aL w x))=p->p.dummy=none->n<10*SetTable.turns t.mask->n<B->¬lS t.place (jK t.mask n p).j -> (∀k,k<=n->¬lS t.place (jK t.mask k p).j->(∀i,i<k->∃(q:Nat)(u:V),t.place[q]?=some (jK t.mask i p).j/\us[q]?=some u/\u≠x)->Q (.free (jK t.mask k p).j false) s) -> wpAny (model prog w) A (setSearchFrom a c (aL w x) true B F) Q E s:=by
 intro n;induction n using Nat.strongRecOn with
 |_ n ih =>
  intro B p F hp hpd hn hf he J;rcases B with _|B
  .exact(EV hf).elim
  .obtain Z:t.fits es.size=true:=Fits.of T.toTOK0 (D5 T.le');have hgw:t.gaveWay=false:=by unfold SetTable.gaveWay;rcases T.msk with h|h|h <;> rw[h] <;> rfl
   obtain⟨k,hk1,hk2,hk3⟩:=rK (hashAt:=_) T.dm T.rise (h:=aL w x) (10*SetTable.turns t.mask) n p hpd hn he;have G:∀i,i<k->∃(q:Nat)(u:V),t.place[q]?=some (jK t.mask i p).j/\us[q]?=some u/\u≠x:=λi hi=>by refine ah (hk2 i hi) λq q1 q2=>?_;refine bL (TOK.ent T q1) λe he=>?_;refine bE (r.get' he) λu e1 e2 e3=>?_;exact(bR q u q1 e1 (λz=>q2 ((wx he).trans (e2.trans (by rw[z])))))
   refine r5 (M8 ho rfl Z ?_);refine wpAny_ite_false (E6 (by rw[hgw];exact D0)) ?_;rw[hp];generalize hpr:t.probe _ (aL w x) p=met;rcases hk3 with⟨h1,h2⟩|⟨q,h1,h2,h3,h4⟩
   .rw[hpr.symm.trans h2];exact v9 (J k hk1 h1 G)
   .rw[hpr.symm.trans h4];refine bL (TOK.ent T h2) λbS ad=>?_;obtain⟨h',y⟩:=bS;refine bE (r.get' ad) λu e1 e2 e3=>?_;obtain ku:=hk u (B0 e1);obtain⟨b,rfl⟩:∃b,y=Value.ref b:=by refine bL (QN ku.1) λxs cW=>?_;subst cW;refine cG e3.tup_inv λb _ eb _=>?_;exact⟨b,eb⟩
    refine pB ?_ (λ_ h=>r5 (AT kx rx (wy r hk) (wpAny_ite_false rfl h))) (λ_ h=>h);rw[ad];refine r5 (G6 (VR.eqBool (bq _ ku.2.1) (bq _ kx.1) (KM ku.2.2 hu) e3 rx ?_));refine r5 (M8 ho rfl Z ?_);cases hv:cu u x with
    |true=>exact wpAny_ite_true rfl (v9 (Y ((aP _ _).mp hv▸B0 e1)))
    |false =>
     refine wpAny_ite_false rfl ?_;rw[show t.sameMemory t.moves t.mask=some true by unfold SetTable.sameMemory;simp,qT T.rise h2];dsimp only;rw[if_pos rfl];dsimp only;rw[ad];refine r5 (wpAny_isSame_ref_self ?_);rw[if_pos rfl];refine r5 (v9 ?_);refine wpAny_ite_false rfl ?_;refine ih (n-k-1) (KN h1) B (jK t.mask (k+1) p) _ rfl ((qV _ _ _).trans hpd) (KP hn) (KQ hf h1) (by rw[<- fQ,show k+1+(n-k-1)=n by exact KR h1];exact he) λk' hk' hn' hb'=>?_;rw[<- fQ]at hn' ⊢;refine J (k+1+k') (KS hk' h1) hn' λi hi=>?_;by_cases an:i<k
     .exact G i an
     .by_cases O:i=k
      .rw[O];exact(bR q u h2 e1 (bg.mp hv))
      .obtain f:=hb' (i-(k+1)) (KT hi O an);rw[<- fQ,show k+1+(i-(k+1))=i by exact KU O an]at f;exact f
end
end
section
variable{t:SetTable}{a:Addr}
theorem TOK0.plain(T:TOK0 t es)(b:Bool):TOK0 { t with plain:=b } es:=⟨T.dm,T.msk,T.size,T.rise,T.le,T.reach⟩
theorem TOK0.plainI(T:TOK0 t es)(c:Bool):TOK0 (if c=true then t else{ t with plain:=false }) es:=by
 cases c with
 |true=>exact T
 |false=>exact T.plain false
theorem IF(t:SetTable)(c:Bool):(if c=true then t else{ t with plain:=false }).led=t.led/\(if c=true then t else{ t with plain:=false }).mask=t.mask:=by cases c <;> exact⟨rfl,rfl⟩
section
variable{sa:SX}
theorem ESR.insert(r:ESR sa w h us es){p:Nat}(hp:p<=es.size){x:V}{c:Value}(G:VR sa h x c):ESR sa w h (SetTable.insertAt us.toArray p x).toList (SetTable.insertAt es p (aL w x,c)):=by
 refine⟨by rw[J7,bZ,bZ,RJ,r.len],λi u e a b=>?_⟩;rw[B9,eM (by rw[RJ,r.len];exact hp)]at a;rw[eM hp]at b;split at a
 .rename_i B;rw[if_pos B]at b;exact r.at_ i u e (by simpa using a) b
 .rename_i B;rw[if_neg B]at b;split at a
  .rename_i F;rw[if_pos F]at b;obtain rfl:=w4 a;obtain rfl:=w4 b;exact⟨rfl,G⟩
  .rename_i F;rw[if_neg F]at b;exact r.at_ _ u e (by simpa using a) b
theorem mc(us:List V)(p:Nat)(x:V):(SetTable.insertAt us.toArray p x).toList.Perm (x::us):=by rw[cA];refine(List.perm_middle).trans ?_;rw[Rf]
theorem ESR.relay(r:ESR sa w h us es){B:Array Nat}(ho:B.toList.Perm (List.range es.size)):ESR sa w h (B.toList.filterMap (us.toArray[·]?)) (B.filterMap (es[·]?))/\(B.toList.filterMap (us.toArray[·]?)).Perm us:=by
 have J:∀q∈B.toList,q<es.size:=λq hq=>F8.mp (ho.mem_iff.mp hq);have O:us.toArray.size=es.size:=by rw[RJ,r.len]
 obtain⟨Q,Y⟩:=bY us.toArray B.toList (by rw[O];exact J);obtain⟨b1,b2⟩:=bY es B.toList J;have G:(B.filterMap (es[·]?)).toList=B.toList.filterMap (es[·]?):=by simp
 refine⟨⟨by rw[Q,<- b1,<- G,J7],λi u e x y=>?_⟩,?_⟩
 .rw[<- B9,G]at y;obtain hi:i<B.toList.length:=by rw[<- Q];exact(A9.mp x).1
  rw[Y i _ (G2 hi)]at x;rw[b2 i _ (G2 hi)]at y;exact r.at_ _ u e (by simpa using x) y
 .obtain F:=ho.filterMap (us.toArray[·]?);rw[<- O,eF]at F;exact F
end
theorem dZ{sa:SX}(ho:h.get? a=some (bC es ep t))(sb:Heap.SameBut a h h'):TupKeep sa h h':=λb o _ e hc _=>by
 by_cases B:b=a
 .subst B;rw[ho]at e;obtain rfl:=w4 e;simp at hc
 .exact(sb.2 b B).trans e
section
variable{A:Around}{sa:SX}
theorem fS(T:TOK0 t es):t.tooFull=true↔es.size*5≥t.mask*3:=by unfold SetTable.tooFull SetTable.fill;simp[T.size,T.dm]
theorem jr{B:Array (Int×Value)}{t':SetTable}{Q:b6}(ho:s.heap.get? a=some (bC es ep t))(hz:B.size<=100) (h:∀h',Heap.SameBut a s.heap h'->h'.get? a=some (bC B (ep+1) t')->Q () { s with heap:=h' }):wpAny (model prog w) A (storeSet a B t') Q E s:=by refine wpAny_storeSet_of ho rfl (h _ (G9 _ _ _) ?_) (by rw[J9];exact KV hz);obtain F:=G4 (Obj.putSet B t') ho (by rw[putSet_of B t' rfl];rfl);rw[putSet_of B t' rfl]at F;exact F
theorem Bu(ho:s.heap.get? a=some (bC es ep t))(T:TOK0 t es)(r:ESR sa w s.heap us es)(hl:es.size<=64)(hf:es.size*5≥t.mask*3)(F:es.size<=t.mask)(hb:(es.size-1)*5<t.mask*3){Q:b6} (h:∀h' B J t' G,Heap.SameBut a s.heap h'->h'.get? a=some (bC B J t')->TOK t' B->t'.led=t.led->ESR sa w h' G B->G.Perm us->Q () { s with heap:=h' }) : wpAny (model prog w) A (setRelay a (SetTable.grown es.size)) Q E s:=by
 refine Qo (mE T.msk hl hf F hb) λt' Y e1 e2 _ e4 e5 Z e7 e8=>?_;refine r5 (M8 ho rfl (Fits.of T F) ?_);dsimp only;rw[if_neg (KW e8),e1];refine r5 ?_;refine J8 (λhc=>?_) (λ_=>v9 ?_)
 .rw[Z]at hc;simp at hc
 dsimp only;refine cf (r.relay e4) λr' p'=>?_;refine jr ho (by rw[Z];exact KY hl) λh' sb O=>?_;exact h h' _ _ _ _ sb O e5 e2 (r'.keep (dZ ho sb)) p'
theorem vb{x:V}{c:Value}(S:SetR sa w s.heap a 3 us)(hx:vk x=3)(kx:iy x)(rx:VR sa s.heap x c)(hu:A.units+9<cLine)(hroom:us.length<64){Q:b7} (h1:x∈us->Q false s) (hnew:∀h' O,Heap.SameBut a s.heap h'->SetR sa w h' a 3 O->O.Perm (x::us)->Q true { s with heap:=h' }) : wpAny (model prog w) A (setAddHashed a c (aL w x)) Q E s:=by
 obtain⟨⟨es,ep,t,ho,T,hled,r⟩,ad,hnd⟩:=S;obtain hfit:t.fits es.size=true:=Fits.of T.toTOK0 (D5 T.le');obtain⟨b,eb⟩:∃b,c=Value.ref b:=by
  cases x with
  |tup xs=>refine cG rx.tup_inv λb _ eb _=>?_;exact⟨b,eb⟩
  |_=>simp[vk]at hx
 refine G6 (r5 (M8 ho rfl hfit ?_));dsimp only;obtain hbs:byScan c es=false:=by rw[eb];rfl
 simp only[hbs,Bool.false_eq_true,if_false];refine ah (nZ T.toTOK0 (D5 T.le') (aL w x)) λn hn he=>?_;have hturn:10*SetTable.turns t.mask<=100000:=by rcases T.msk with h|h|h <;> rw[h] <;> decide
 refine r5 ?_;refine zi ho T r ad kx rx hu (λhm=>?_) n 100000 (t.probeStart (aL w x)) none rfl rfl hn (KZ hturn hn) he λk hk F Y=>?_
 .exact v9 (h1 hm)
 rw[jJ]at F Y ⊢;have hnot:x∉us:=λhm=>by
  obtain⟨q,hq⟩:=D8.mp hm;refine bE (r.get hq) λe e1 e2 e3=>?_;have hqp:q<t.place.size:=by rw[T.size];exact(L4.mp e1).1
  have hpl:t.place[q]?=some t.place[q]:=by simp[hqp]
  refine ah (T.reach q _ e hpl e1) λm m1 m2=>?_;rw[e2]at m1 m2;rcases Nat.lt_trichotomy m k with h|h|h
  .refine bM (Y m h) λq' u' f1 f2 f3=>?_;rw[m1]at f1;obtain this:=nK T.rise f1;rw[nK T.rise hpl]at this;subst this;rw[hq]at f2;obtain rfl:=w4 f2;exact f3 rfl
  .subst h;refine F ?_;rw[m1];exact B0 (by rw[B9];exact hpl)
  .exact F (m2 k h)
 obtain an:Reach t.mask (lS t.place) (cR t.mask (aL w x)) (jK t.mask k (cR t.mask (aL w x))).j:=(af k rfl (λi hi=>by refine bM (Y i hi) λq u f1 _ _=>?_;exact B0 (by rw[B9];exact f1)));obtain T':=T.toTOK0.put (e:=(aL w x,c)) (uF t.mask (aL w x) k) F an;refine r5 (M8 ho rfl hfit ?_);generalize hj:(jK t.mask k (cR t.mask (aL w x))).j=j at *;have hpe:=vU T.dm j;have hp2:(t.put j).2<=es.size:=by rw[hpe,<- T.size];exact(di T.rise j).1
 have hm':(t.put j).1.mask=t.mask:=by rw[hpe]
 have hl':(t.put j).1.led=t.led:=by rw[hpe]
 have B:(SetTable.insertAt es (t.put j).2 (aL w x,c)).size=es.size+1:=bZ _ _ _;have r':=r.insert hp2 rx;have hes:es.size<64:=by rw[<- r.len];exact hroom
 have J:=mc us (t.put j).2 x;have G:∀{O:List V},O.Perm (x::us)->(∀u∈O,vk u=3/\iy u)/\O.Nodup:=λp=>⟨λu hu=>by
  rcases C0.mp (p.mem_iff.mp hu)with e|hu
  .rw[e];exact⟨hx,kx⟩
  .exact ad u hu,p.nodup_iff.mpr (E8.mpr ⟨hnot,hnd⟩)⟩
 have go:∀(bv:Bool),wpAny (model prog w) A (do
   storeSet a (SetTable.insertAt es (t.put j).2 (aL w x,c)) (if bv=true then(t.put j).1 else{ (t.put j).1 with plain:=false })
   if(!false&&(if bv=true then(t.put j).1 else{ (t.put j).1 with plain:=false }).tooFull)=true then do
    setRelay a (SetTable.grown (es.size+1))
    pure true
   else pure true) Q E s:=by
  intro bv;have Tb:=T'.plainI bv;refine cf (IF (t.put j).1 bv) λlb mb=>?_;generalize (if bv=true then(t.put j).1 else{ (t.put j).1 with plain:=false })=tb at *;refine r5 (jr ho (Bf B hes) λh' sb ho'=>?_);obtain rb:=r'.keep (dZ ho sb);refine J8 (λhc=>?_) (λhc=>?_)
  .have hfull:(es.size+1)*5≥tb.mask*3:=by
    simp only[Bool.not_false,Bool.true_and]at hc;rw[fS Tb,B]at hc
    assumption
   obtain Z:=T.few;obtain hlt:=T.le';rw[<- B];refine r5 (Bu (s:={ s with heap:=h' }) ho' Tb rb (Fd B hes) (La B hfull) (Fe hm' hlt B mb) (by rw[B,mb,hm'];exact Z) λh2 es2 ep2 t2 us2 sb2 ho2 T2 l2 r2 p2=>v9 ?_);obtain pp:=p2.trans J;exact hnew h2 us2 (sb.trans sb2) ⟨(pF es2 ep2 t2 ho2 T2 (by rw[l2,lb,hl',hled]) r2),(G pp).1,(G pp).2⟩ pp
  .have Z:(es.size+1)*5<tb.mask*3:=by simp only[Bool.not_false,Bool.true_and]at hc;rw[fS Tb,B]at hc;exact Lb hc
   refine v9 ?_;exact hnew h' _ sb ⟨(pF _ _ tb ho' ⟨Tb,by rw[B];exact Z⟩ (by rw[lb,hl',hled]) rb),(G J).1,(G J).2⟩ J
 refine J8 (λ_=>r5 (x9 kx.1 rx λbv=>?_)) (λ_=>r5 (v9 ?_))
 .exact go bv
 .exact go true
end
end
theorem pK{t:SetTable}(T:TOK0 t es)(hz:es.size<=t.mask)(h:Int):∃j,t.freeSlot h=some (j,false)/\j<=t.mask/\¬lS t.place j/\Reach t.mask (lS t.place) (cR t.mask h) j:=by
 refine ah (nZ T hz h) λn Z Q=>?_;refine bE (rK (hashAt:=λ_=>h+1) T.dm T.rise (h:=h) (10*SetTable.turns t.mask) n (cR t.mask h) rfl Z Q) λk Y B F=>?_;rcases F with⟨G,J⟩|⟨q,G,J,O,h4⟩
 .refine(iw ((jK t.mask k (cR t.mask h)).j) ?_ (uF _ _ _) G (af k rfl (λi hi=>?_)))
  .unfold SetTable.freeSlot SetTable.probe;rw[jJ,J];rfl
  .refine ah (B i hi) λq f1 _=>?_;exact B0 (by rw[B9];exact f1)
 .exact(Lc O).elim
theorem tH{t:SetTable}(T:TOK0 t es)(hz:es.size<t.mask)(h:Int)(c:Value):∃j p t',layNew t es h c=(SetTable.insertAt es p (h,c),t',false,false)/\p<=es.size/\TOK0 t' (SetTable.insertAt es p (h,c))/\t'.mask=t.mask/\t'.led=t.led/\j=p:=by
 refine sH (pK T (D5 hz) h) λj Y Z h3 h4=>?_;obtain Q:=T.put (e:=(h,c)) Z h3 h4;obtain B:=vU T.dm j;obtain G:(t.put j).1.mask=t.mask:=by rw[B]
 obtain J:(t.put j).1.led=t.led:=by rw[B]
 obtain O:(t.put j).2<=es.size:=by rw[B,<- T.size];exact(di T.rise j).1
 obtain F:=Fits.of Q (by rw[bZ,G];exact Gy hz);refine(Qe _ ((t.put j).2) ((t.put j).1) ?_ O Q G J rfl);unfold layNew;rw[Y];simp only[SetTable.orStandIn,F,if_true,Bool.not_true]
theorem pQ{t:SetTable}(T:TOK0 t es)(hl:es.size<=64)(hf:es.size*5≥t.mask*3)(J:es.size<=t.mask)(Q:(es.size-1)*5<t.mask*3) : ∃(t':SetTable)(B:Array Nat),relayAll t es (SetTable.grown es.size)=(B.filterMap (es[·]?),t',false)/\t'.led=t.led/\B.toList.Perm (List.range es.size)/\TOK t' (B.filterMap (es[·]?)):=by refine Qo (mE T.msk hl hf J Q) λt' B e1 e2 _ O G Y Z e8=>?_;refine(kB t' B ?_ e2 O G);unfold relayAll;rw[e1];obtain hc:coversAll B es.size=true:=List.isPerm_iff.mpr O;obtain F:=Fits.of G.toTOK0 (D5 G.le');simp only[hc,F,Bool.and_self,if_true]
section
variable{A:Around}{sa:SX}
theorem ux{x:V}(h:vk x≠3)(h0:vk x≠0):rL x=true:=by cases x <;> first|rfl|simp[vk]at h h0
theorem kT{x:V}{c:Value}(B:rL x=true)(r:VR sa h x c):c.scannable=true:=by
 cases x with
 |int i=>apply r.int_el;intro t;rfl
 |str i=>apply r.str_el;intro t;rfl
 |_=>exact ai B
theorem zF{a:Addr}{κ:Nat}{x:V}{c:Value}(S:SetR sa w s.heap a κ us)(hκ:κ≠3)(hκ0:κ≠0)(hx:vk x=κ)(kx:iy x)(rx:VR sa s.heap x c)(ad:us.length<64){Q:b7} (h1:x∈us->Q false s) (hnew:∀h' O,Heap.SameBut a s.heap h'->SetR sa w h' a κ O->O.Perm (x::us)->Q true { s with heap:=h' }) : wpAny (model prog w) A (setAddHashed a c (aL w x)) Q E s:=by
 letI:DecidableEq V:=bX
 obtain⟨⟨es,ep,t,ho,T,hled,r⟩,G,hnd⟩:=S;obtain hfit:t.fits es.size=true:=Fits.of T.toTOK0 (D5 T.le');have hes:es.size<64:=by rw[<- r.len];exact ad
 have scx:rL x=true:=ux (by rw[hx];exact hκ) (by rw[hx];exact hκ0);obtain hkey:(bB prog w).is x c=true:=cF scx rx;have scu:∀u∈us,rL u=true:=λu Y=>ux (by rw[(G u Y).1];exact hκ) (by rw[(G u Y).1];exact hκ0);obtain hel:ElemsOf (bB prog w) es.toList:=λe he=>by obtain⟨i,hi⟩:=D8.mp he;rw[B9]at hi;refine bE (r.get' hi) λu e1 e2 e3=>?_;obtain Y:=scu u (B0 e1);exact⟨(af u (cF Y e3) e2),kT Y e3⟩
 obtain hsc:=kT scx rx;obtain hb:es.size<scanBound:=E9 hes (by decide);refine G6 (r5 (M8 ho rfl hfit ?_));dsimp only;rw[byScan_of hsc hb hel];rw[if_pos rfl];refine r5 ?_;refine r5 (Ri ?_);refine r5 (wpAny_setScan_of (knd:=bB prog w) (k:=x) hkey ho rfl hfit hel ?_);cases hr:List.findIdx? (λe=>(bB prog w).is x e.2) es.toList with
 |some j =>
  refine ah (Q9.mp hr) λhj hpj _=>?_;refine v9 (v9 (h1 ?_));obtain hgj:es[j]?=some es.toList[j]:=by rw[<- B9];exact G2 hj
  refine bE (r.get' hgj) λu e1 e2 e3=>?_;obtain Y:=B0 e1;obtain this:=(bB prog w).inj _ _ _ (cF (scu u Y) e3) hpj;rw[<- this];exact Y
 |none =>
  have hnot:x∉us:=λhm=>by
   obtain⟨q,hq⟩:=D8.mp hm;refine bE (r.get hq) λe e1 e2 e3=>?_
   have:=List.findIdx?_eq_none_iff.mp hr e (B0 (by rw[B9];exact e1))
   rw[show(bB prog w).is x e.2=true from cF scx e3]at this;exact Gs this
  refine Oa (tH T.toTOK0 T.le' (aL w x) c) λ_ p t' Z hp T' hm' hl' _=>?_;obtain J:(SetTable.insertAt es p (aL w x,c)).size=es.size+1:=bZ _ _ _;obtain r':=r.insert hp rx;obtain B:=mc us p x;have F:∀{O:List V},O.Perm (x::us)->(∀u∈O,vk u=κ/\iy u)/\O.Nodup:=λp=>⟨λu Y=>by
   rcases C0.mp (p.mem_iff.mp Y)with e|Y
   .rw[e];exact⟨hx,kx⟩
   .exact G u Y,p.nodup_iff.mpr (E8.mpr ⟨hnot,hnd⟩)⟩
  have hlay':layNew t es ((bB prog w).hash x) c=(SetTable.insertAt es p (aL w x,c),t',false,false):=Z;have hlay'':=Z;rw[Z];refine r5 (v9 ?_);have go:∀(bv:Bool),∀(tb:SetTable),tb=(if bv=true then t' else{ t' with plain:=false })->∀{g:Bool->Sem Unit},(∀{ac:Shared}{Q':b6},Q' () ac->wpAny (model prog w) A (g false) Q' E ac)->wpAny (model prog w) A (do
    storeSet a (SetTable.insertAt es p (aL w x,c)) tb
    if(!false&&tb.tooFull)=true then do
     g (relayAll tb (SetTable.insertAt es p (aL w x,c)) (SetTable.grown (SetTable.insertAt es p (aL w x,c)).size)).2.2
     storeSet a (relayAll tb (SetTable.insertAt es p (aL w x,c)) (SetTable.grown (SetTable.insertAt es p (aL w x,c)).size)).1 (relayAll tb (SetTable.insertAt es p (aL w x,c)) (SetTable.grown (SetTable.insertAt es p (aL w x,c)).size)).2.1
     pure (some true)
    else pure (some true)) (λo s'=>o=some true/\Q true s') E s:=by
   intro bv tb etb g hg;obtain Tb:=T'.plainI bv;refine cf (IF t' bv) λlb mb=>?_;rw[<- etb]at Tb lb mb;refine r5 (jr ho (Bf J hes) λh' sb ho'=>?_);obtain rb:=r'.keep (dZ ho sb);refine J8 (λhc=>?_) (λhc=>?_)
   .simp only[Bool.not_false,Bool.true_and]at hc;rw[fS Tb]at hc;obtain hfew:=T.few;obtain hlt:=T.le';refine sJ (pQ Tb (Fd J hes) hc (Fe hm' hlt J mb) (by rw[J,mb,hm'];exact hfew)) λt2 an e1 e2 e3 e4=>?_;rw[e1];refine cf (rb.relay e3) λr2 p2=>?_;have hs2:(an.filterMap ((SetTable.insertAt es p (aL w x,c))[·]?)).size=us.length+1:=by rw[<- r2.len,p2.length_eq,B.length_eq];rfl
    refine r5 (hg ?_);refine r5 (jr (s:={ s with heap:=h' }) ho' (by show(an.filterMap ((SetTable.insertAt es p (aL w x,c))[·]?)).size<=100;exact Bf hs2 ad) λh2 sb2 ho2=>v9 ⟨rfl,?_⟩);obtain pp:=p2.trans B;exact hnew h2 _ (sb.trans sb2) ⟨(pF _ _ t2 ho2 e4 (by rw[e2,lb,hl',hled]) (r2.keep (dZ ho' sb2))),(F pp).1,(F pp).2⟩ pp
   .simp only[Bool.not_false,Bool.true_and]at hc;rw[fS Tb]at hc;refine v9 ⟨rfl,?_⟩;exact hnew h' _ sb ⟨(pF _ _ tb ho' ⟨Tb,by exact Ld hc⟩ (by rw[lb,hl',hled]) rb),(F B).1,(F B).2⟩ B
  have fin:∀{o:Option Bool}{s':Shared},(o=some true/\Q true s')->wpAny (model prog w) A (match o with|some added=>pure added|none=>setAddHashedIn a c (aL w x) 99999) Q E s':=by rintro o s' ⟨rfl,hq⟩;exact v9 hq
  obtain hgw:∀{ac:Shared}{Q':b6},Q' () ac->wpAny (model prog w) A (pure ():Sem Unit) Q' E ac:=λq=>v9 q;refine J8 (λ_=>r5 (x9 kx.1 rx λbv=>?_)) (λ_=>r5 (v9 ?_))
  .exact B6 (go bv _ rfl hgw) (λo s' hq=>fin hq) λ_ _ e=>e
  .exact B6 (go true _ rfl hgw) (λo s' hq=>fin hq) λ_ _ e=>e
end
section
variable{A:Around}{sa:SX}
theorem Cm{a:Addr}{κ:Nat}{x:V}{c:Value}(S:SetR sa w s.heap a κ us)(Y:κ≠0)(hx:vk x=κ)(kx:iy x)(rx:VR sa s.heap x c)(hu:A.units+9<cLine)(F:us.length<64){Q:b7} (h1:x∈us->Q false s) (G:x∉us->∀h' B,Heap.SameBut a s.heap h'->SetR sa w h' a κ B->B.Perm (x::us)->Q true { s with heap:=h' }) : wpAny (model prog w) A (setAddHashed a c (aL w x)) Q E s:=by
 have hn:∀{h':Heap}{B:List V},SetR sa w h' a κ B->B.Perm (x::us)->x∉us:=λJ p hm=>by obtain Z:=p.nodup_iff.mp J.nd;exact(E8.mp Z).1 hm
 by_cases O:κ=3
 .subst O;exact vb S hx kx rx hu F h1 λh' B sb J p=>G (hn J p) h' B sb J p
 .exact zF S O Y hx kx rx F h1 λh' B sb J p=>G (hn J p) h' B sb J p
theorem jM{v:V}(h:vs[i]?=some v)(x:V):x∈vs.take (i+1)↔x=v\/x∈vs.take i:=by rw[List.take_succ,h];simp only[Option.toList_some,List.mem_append,List.mem_singleton];exact or_comm
theorem SetR.keep{a:Addr}{κ:Nat}(S:SetR sa w h a κ us)(k:TupKeep sa h h')(ha:∀o,h.get? a=some o->h'.get? a=some o):SetR sa w h' a κ us :=
 let⟨es,ep,t,ho,T,hl,r⟩:=S.obj
 ⟨(pF es ep t (ha _ ho) T hl (r.keep k)),S.kind,S.nd⟩
theorem wm{R:Result->Shared->Prop}{S:Addr}{fp:List Addr}{n:Nat}{P:Nat->Value->Prop}{St:Nat->Heap->Prop}(W:Walks prog w A.in1 I fp [I] n P St)(hSf:S∉fp)(av:∀i h o,St i h->h.get? I=some o->o.cls≠.type "tuple"){h₀:Heap}(hS0:h₀.get? S=none)(hI0:h₀.get? I=none) {vs:List V} (hP:∀i v,P i v->∃u,vs[i]?=some u/\VR sa h₀ u v) {κ:Nat} (hκ0:κ≠0) (hvs:∀u∈vs,vk u=κ/\iy u) (hn:n=vs.length) (hz:vs.length<64) (hu:A.units+10<cLine) (as:I≠S) : ∀(k i:Nat)(s:Shared)(us:List V),n-i=k->i<=n->St i s.heap->SetR sa w s.heap S κ us->us.length<=i->(∀x,x∈us↔x∈vs.take i)->(∀b o,h₀.get? b=some o->s.heap.get? b=some o) -> (∀s' us,s'.gens=s.gens->s'.os=s.os->SetR sa w s'.heap S κ us->us.length<=n->(∀x,x∈us↔x∈vs)->(∀b o,h₀.get? b=some o->s'.heap.get? b=some o)->R (.ok (.ret .none)) s') -> codeAny (model prog w) A (.builtin "set.update.loop" ⟨[.ref S,.ref I],[]⟩) R s:=by
 obtain oldS:∀{b:Addr}{o:Obj},h₀.get? b=some o->b≠S:=λ{b o} e z=>by rw[z,hS0]at e;exact ns e
 have Q:∀{b:Addr}{o:Obj},h₀.get? b=some o->b≠I:=λ{b o} e z=>by rw[z,hI0]at e;exact ns e
 intro k;induction k with
 |zero =>
  intro i s us hk hi G hS hl B h0 hR;have hin:i=n:=by exact Ff hk hi
  subst hin;refine Ru PyProof.Rows.F.entry_set_update_loop ?_;rw[Q4 P5 _];refine r5 (W.done s _ _ G λh' tk Z=>?_);have kp:∀b o,b≠I->s.heap.get? b=some o->h'.get? b=some o:=λb o hb e=>Z b o (λz=>hb (A4.mp z)) e;have ar:TupKeep sa s.heap h':=λb o _ e hc _=>kp b o (λz=>av _ _ _ G (z▸e) hc) e;exact v9 (hR _ us rfl rfl (hS.keep ar λo e=>kp _ o as.symm e) hl (λx=>by rw[B x,hn,List.take_length]) λb o e=>kp b o (Q e) (h0 b o e))
 |succ k ih =>
  intro i s us hk hi G hS hl B h0 hR;have J:i<n:=by exact Fg hk
  refine Ru PyProof.Rows.F.entry_set_update_loop ?_;rw[Q4 P5 _];refine r5 (W.item i s _ _ J G λv h' tk hPv O Z=>?_);have kp:∀b o,b≠I->s.heap.get? b=some o->h'.get? b=some o:=λb o hb e=>Z b o (λz=>hb (A4.mp z)) e;have ar:TupKeep sa s.heap h':=λb o _ e hc _=>kp b o (λz=>av _ _ _ G (z▸e) hc) e;have a0:=hS.keep ar λo e=>kp _ o as.symm e;have Y:∀b o,h₀.get? b=some o->h'.get? b=some o:=λb o e=>kp b o (Q e) (h0 b o e);refine ah (hP i v hPv) λu ad hu2=>?_;have hu3:VR sa h' u v:=hu2.keep (r8 Y);obtain⟨ku1,an⟩:=hvs u (B0 ad);refine r5 (G6 ?_);refine G6 ?_;have hA:A.in1.units=A.units+1:=rfl;refine r5 (VR.pyHash (sa:=sa) (s:={ s with heap:=h',toks:=tk }) an.1 (by obtain this:=an.2;exact Le hA hu this) hu3 ?_);refine Cm (sa:=sa) (us:=us) (x:=u) (s:={ s with heap:=h',toks:=tk+pu u }) a0 hκ0 ku1 an hu3 (by assumption) (Lf hn J hl hz) (λhm=>?_) λhnm h2 us2 sb S2 p=>?_
  .refine v9 ⟨plainId_quiet P5 _,ih (i+1) _ us (Bg hk) J O a0 (EQ hl) (λx=>?_) Y hR⟩;rw[jM ad,B x];constructor
   .exact .inr
   .rintro(e|e)
    .rw[e];exact(B u).mp hm
    .exact e
  .have hx:∀b,b∈fp->∀o,h'.get? b=some o->h2.get? b=some o:=λb hb o e=>(sb.2 b (λz=>hSf (z▸hb))).trans e;refine v9 ⟨plainId_quiet P5 _,ih (i+1) _ us2 (Bg hk) J (W.frame _ _ _ O hx) S2 (by rw[p.length_eq];simp;assumption) (λx=>?_) (λb o e=>(sb.2 b (oldS e)).trans (Y b o e)) hR⟩;rw[jM ad,p.mem_iff,C0,B x]
end
section
variable{A:Around}{sa:SX}
theorem rB(a:Value){Q₁:a9} (h:Q₁ (.ref s.heap.objs.size) { s with heap:=s.heap.push (bC #[] 0 (.fresh 0 0 (!cJ w))) }) : codeAny (model prog w) A (.call (.builtin "set.__new__") ⟨[.type "set",a],[]⟩) (wants Q₁ E) s:=by
 refine codeAny_of_tree ?_;show wpAny _ A.in1 (do checkBuiltinCall "set.__new__" ⟨[.type "set",a],[]⟩;again (.builtin "set.__new__" ⟨[.type "set",a],[]⟩)) _ _ s;refine r5 (wpAny_of_eq (PySem.F.newCall_set_1 a) (v9 ⟨plainId_quiet PySem.F.plain_set_new _,Ru PySem.F.entry_set_new ?_⟩));rw[Q4 PySem.F.plain_set_new _];have B:=sub_set_self;obtain⟨hp,g,d,tk,os⟩:=s
 wp_walk
 refine wpAny_askSetting (v9 ?_);refine r5 (wpAny_alloc (v9 ?_));exact v9 h
def zA(prog:Program)(w:World)(s:Shared)(x:Addr)(n:Nat)(P:Nat->Value->Prop):Prop :=
 ∀(A A':Around)(E:a9)(ac:Shared)(Q:a9),A.handled=none->A'.handled=none->(∀b o,s.heap.get? b=some o->ac.heap.get? b=some o) ->
  (∀fp St B,Walks prog w A' ac.heap.objs.size fp [ac.heap.objs.size] n P St->(∀b∈fp,b=ac.heap.objs.size\/s.heap.get? b≠none)->St 0 (ac.heap.push B)->(∀i h o,St i h->h.get? ac.heap.objs.size=some o->o.cls≠.type "tuple") ->
   Q (.ref ac.heap.objs.size) { ac with heap:=ac.heap.push B })->wpAny (model prog w) A (pyIter (.ref x)) Q E ac
theorem yB{led:Bool}:TOK (SetTable.fresh 0 0 led) #[]:=by
 refine⟨⟨rfl,.inl rfl,rfl,List.Pairwise.nil,λj h=>?_,λi j e h=>?_⟩,show(0:Nat)*5<7*3 by decide⟩
 .exact absurd h A7
 .simp[SetTable.fresh]at h
set_option maxHeartbeats 3200000 in
theorem zW{x:Addr}{T:String}{n:Nat}{P:Nat->Value->Prop}{κ:Nat}{Q:a9}(hT:s.TypeIs (.ref x) T)(hs1:isSubtype (.type T) (.type "set")=pure false)(hs2:isSubtype (.type T) (.type "frozenset")=pure false)(hne:(Value.type T==Value.type "dict")=false) (hh:A.handled=none) (hu:A.units+30<cLine) (O:zA prog w s x n P) (hP:∀i v,P i v->∃u,vs[i]?=some u/\VR sa s.heap u v) (Y:κ≠0) (hvs:∀u∈vs,vk u=κ/\iy u) (hn:n=vs.length) (hz:vs.length<64) (h:∀s' us,Ex s s'->SetR sa w s'.heap s.heap.objs.size κ us->us.length<=vs.length->(∀x,x∈us↔x∈vs)->Q (.ref s.heap.objs.size) s') : wpAny (model prog w) A (call (.type "set") [.ref x]) Q E s:=by
 obtain⟨c,tl,hmro⟩:=PySem.F.called_set.mro;have a4:=PySem.F.called_set.made;have hsub:=PySem.F.called_set.sub;refine wpAny_call (codeAny_of_tree ?_);show wpAny _ _ (callAny (.type "set") _) _ _ _;refine v9 ⟨Code.quiet_builtin _ (by decide +kernel),Ru PySem.F.entry_type_call ?_⟩;rw[Around.under_plain (weight_type_call_type "set" [.ref x] []) rfl];have h1:=PySem.F.called_set.notType;have h2:=PySem.F.called_set.canCreate;have hct:=PySem.F.typeCall_set_1 (.ref x)
 repeat (any_goals (first|assumption|wp_step))
 refine RN (rB (.ref x) (E:=E) (Q₁:=λobj ac=>obj=.ref s.heap.objs.size/\ac={ s with heap:=s.heap.push (bC #[] 0 (.fresh 0 0 (!cJ w))) }) ⟨rfl,rfl⟩) λr ac hr=>?_;cases r with
 |error e=>exact hr
 |ok fl =>
  cases fl with
  |ret obj =>
   obtain⟨rfl,rfl⟩:=hr;have hS:(s.heap.push (bC #[] 0 (.fresh 0 0 (!cJ w)))).get? s.heap.objs.size=some (bC #[] 0 (.fresh 0 0 (!cJ w))):=C2 _ rfl;have av:Shared.TypeIs { s with heap:=s.heap.push (bC #[] 0 (.fresh 0 0 (!cJ w))) } (.ref s.heap.objs.size) "set":=(af _ hS rfl);have hli:=PySem.F.called_set.init.lookup;have hbi:=PySem.F.called_set.init.bind (.ref s.heap.objs.size)
   repeat (any_goals (first|assumption|wp_step))
   refine RN (codeAny_call_builtin (R:=wants (λr bt=>r=.none/\∃us,Ex s bt/\SetR sa w bt.heap s.heap.objs.size κ us/\us.length<=vs.length/\∀x,x∈us↔x∈vs) E) PySem.F.called_set.init.plain PySem.F.entry_set_init (check_set_init_1 av ?_)) λZ bt B=>?_
   .have hTx:Shared.TypeIs { s with heap:=s.heap.push (bC #[] 0 (.fresh 0 0 (!cJ w))) } (.ref x) T:=by obtain⟨o,ho,hc⟩:=hT;exact(af o (z5 _ ho) hc)
    have hx:x<s.heap.objs.size:=by obtain⟨o,ho,hc⟩:=hT;exact I4 ho
    unfold Builtin.«set.__init__» noKeywords Builtin.Frozenset.updateFrom;generalize an:pyIter=PI
    wp_walk
    subst an;refine O _ A.in1.in1.in1 _ _ _ hh (by simpa using hh) (λb o e=>z5 _ e) λfp St oI W a0 st ad=>?_;refine r5 (wpAny_runValue ?_);have ar:SetR sa w ((s.heap.push (bC #[] 0 (.fresh 0 0 (!cJ w)))).push oI) s.heap.objs.size κ [] :=⟨(pF (#[]) 0 _ (z5 _ hS) yB rfl ⟨rfl,λi u e a=>by simp at a⟩),(λu hu=>absurd hu A7),L8⟩
    have G:(s.heap.push (bC #[] 0 (.fresh 0 0 (!cJ w)))).objs.size=s.heap.objs.size+1:=Heap.size_push _ _;have n0:∀b,s.heap.objs.size<=b->s.heap.get? b=none:=λb hb=>C6 hb;refine wm (sa:=sa) (h₀:=s.heap) W (λhm=>?_) ad (n0 _ (A8 _)) (n0 _ (by rw[G];exact AY)) hP Y hvs hn hz ?_ (by rw[G];exact Nat.succ_ne_self _) n 0 { s with heap:=(s.heap.push (bC #[] 0 (.fresh 0 0 (!cJ w)))).push oI } [] rfl (E1 _) st ar (A8 _) (λx=>by rfl) (λb o e=>?_) λs' us eg eo as a2 a3 a1=>?_
    .rcases a0 _ hm with e|e
     .rw[G]at e;exact absurd e (G7 (K6 _))
     .exact e (n0 _ (A8 _))
    .show A.units+1+1+10<cLine;exact Lg hu
    .exact z5 _ (z5 _ e)
    .show wpAny _ _ _ _ _ _;refine v9 ?_;show wpAny _ _ (ret Value.none) _ _ _;exact v9 ⟨rfl,(iw us ⟨eg,eo,a1⟩ as (Lh hn a2) a3)⟩
   .cases Z with
    |error e=>exact B
    |ok J =>
     cases J with
     |ret r =>
      obtain⟨rfl,us,x1,x2,x3,x4⟩:=B
      repeat (any_goals (first|assumption|wp_step))
      exact h _ us x1 x2 x3 x4
     |_=>exact B.elim
  |_=>exact hr.elim
end
section
variable{a:Addr}
theorem nU:entryFor table "set.__iter__"=some Builtin.«frozenset.__iter__» :=entryFor_alias (id':="frozenset.__iter__") (by kernel_rfl) rfl (by decide +kernel) (by kernel_rfl)
theorem mB:Manifest.owners.lookup (String.ofList ['r','o','t','a','r','e','t','i','_','t','e','s'].reverse)=some Manifest.sig_set_iterator:=by kernel_rfl
theorem bD:Slot "set_iterator" "__next__" "set_iterator.__next__" :=
 .of (owner:="set_iterator") (n:="__next__") (by rw[typeLookup_type,builtinLookup_eq_fast];kernel_rfl) (by decide +kernel) (by decide +kernel) (by decide +kernel)
  (by first|exact .inl (by decide +kernel)|exact .inr (by decide +kernel)) (by rw[isSubtype_type];kernel_rfl)
theorem gj:entryFor table "set_iterator.__next__"=some Builtin.«set_iterator.__next__»:=entryFor_of_tree (by kernel_rfl)
theorem ib(a:Value):argsOk "set_iterator.__next__" ⟨[a],[]⟩:=by unfold argsOk;rw[signature?_of (id:="set_iterator.__next__") (n:=['_','_','t','x','e','n','_','_']) (o:=['r','o','t','a','r','e','t','i','_','t','e','s']) (by kernel_rfl) mB];kernel_rfl
theorem il:Slot "set_iterator" "__iter__" "set_iterator.__iter__" :=
 .of (owner:="set_iterator") (n:="__iter__") (by rw[typeLookup_type,builtinLookup_eq_fast];kernel_rfl) (by decide +kernel) (by decide +kernel) (by decide +kernel)
  (by first|exact .inl (by decide +kernel)|exact .inr (by decide +kernel)) (by rw[isSubtype_type];kernel_rfl)
theorem lu:entryFor table "set_iterator.__iter__"=some Builtin.«dict_keyiterator.__iter__» :=entryFor_alias (id':="dict_keyiterator.__iter__") (by kernel_rfl) rfl (by decide +kernel) (by kernel_rfl)
theorem mP(a:Value):argsOk "set_iterator.__iter__" ⟨[a],[]⟩:=by unfold argsOk;rw[signature?_of (id:="set_iterator.__iter__") (n:=['_','_','r','e','t','i','_','_']) (o:=['r','o','t','a','r','e','t','i','_','t','e','s']) (by kernel_rfl) mB];kernel_rfl
theorem jU:∀{l:List α}{i:Nat}(h:i<l.length),(l[i]::l.eraseIdx i).Perm l
 |x::l,0,_=>L5 _
 |x::l,i+1,h=>by exact(List.Perm.swap _ _ _).trans ((jU (Nat.lt_of_succ_lt_succ h)).cons x)
theorem mC(next:Nat->Nat):∀(f k:Nat)(left:List α)(out:Array α),f=left.length->(pickOrder.go next f k left out).toList.Perm (out.toList++left)
 |0,k,left,out,h=>by obtain F:left=[]:=L6.mp h.symm;subst F;show out.toList.Perm _;simp
 |f+1,k,left,out,h=>by obtain B:next k%left.length<left.length:=Nat.mod_lt _ (Li h);have e:pickOrder.go next (f+1) k left out=(match left[next k%left.length]? with|some x=>pickOrder.go next f (k+1) (left.eraseIdx (next k%left.length)) (out.push x)|none=>out):=rfl;rw[e,G2 B];refine(mC next f (k+1) _ _ (by rw[List.length_eraseIdx_of_lt B];exact Fh h)).trans ?_;rw[Array.toList_push,K7,List.singleton_append];refine List.Perm.append_left _ ?_;exact jU B
theorem dH(next:Nat->Nat)(xs:Array α):(pickOrder next xs).toList.Perm xs.toList:=by unfold pickOrder;obtain B:=mC next xs.size 0 xs.toList #[] (by simp);simpa using B
section
variable{A:Around}{sa:SX}
theorem io:∀(n:Nat)(xs:List α){s:Shared}{Q:List α->Shared->Prop},n=xs.length->(∀ys d,ys.Perm xs->Q ys { s with drawn:=d })->wpAny (model prog w) A (drawOrder n xs) Q E s
 |0,xs,s,Q,h,q=>by obtain B:xs=[]:=L6.mp h.symm;subst B;exact v9 (q [] s.drawn (L5 _))
 |n+1,[],s,Q,h,q=>by simp at h
 |n+1,x::xs,s,Q,h,q=>by refine r5 (sC (by simp) λi d hi=>?_);rw[G2 hi];refine r5 (io n _ (by rw[List.length_eraseIdx_of_lt hi];exact Fh h) λys F p=>v9 (q _ F ?_));exact(p.cons _).trans (jU hi)
def IsSetIter(h:Heap)(it a:Addr)(first:Value)(i n ep:Nat):Prop:=∃o,h.get? it=some o/\o.cls=.type "set_iterator"/\o.data=.fields #[first,.int i 0,.ref a,.int n 0,.int ep 0]
theorem IsSetIter.typeIs{first:Value}{n:Nat}(x:IsSetIter s.heap it a first i n ep):s.TypeIs (.ref it) "set_iterator":=by refine bE x λo ho hc _=>?_;exact⟨o,ho,hc⟩
theorem qS{Q:Option Value->Shared->Prop}{vs:Array Value}(G:A.handled=none)(ho:s.heap.get? it=some o)(hd:o.data=.fields vs)(J:j<vs.size)(F:∀h',Heap.ExtBut it s.heap h'->Q none { s with heap:=h' }) : wpAny (model prog w) A.in1 (do setField (.ref it) j .none;raiseNew (<- newExc (.type "StopIteration") []):Sem Fin) (λB s'=>∃v,B=.done (.ret v)/\False) (λe s'=>wpAny (model prog w) A (do if <- isInstance e (.type "StopIteration")then pure none else throw e) Q E s') s:=by refine r5 (Rl ho hd J ?_);refine r5 ?_;refine r5 (N9 ?_ (by size_fits));refine r5 (m:=firstArgMember _ _) (wpAny_of_eq (a:=Value.none) (by first|rfl|(simp only[firstArgMember];rfl)) ?_);refine N9 ?_ (by size_fits);refine r5 (wpAny_handled ?_);rw[show A.in1.handled=none from G];refine r5 (v9 (wpAny_throw ?_));refine r5 (wpAny_isInstance (T:="StopIteration") (b:=true) ⟨_,C2 _ rfl,rfl⟩ isSubtype_stop ?_);exact v9 (F _ (((G9 ..).extBut.push _).push _))
theorem oZ(n:Nat):((n:Int) !=(n:Int))=false:=by simp
theorem hF{t:SetTable}(r:Option (Value×Nat)){Q:Option Value->Shared->Prop}(hh:A.handled=none)(hit:IsSetIter s.heap it a (.int k 0) i es.size ep)(ho:s.heap.get? a=some (bC es ep t))(hf:t.fits es.size=true) (hn:∀{A':Around}{Z:a9}{R:Option (Value×Nat)->Shared->Prop},R r s->wpAny (model prog w) A' (setNext a k i ep) R Z s) (O:∀h',match r with|some x=>IsSetIter h' it a (.int x.2 0) (i+1) es.size ep->Heap.SameBut it s.heap h'->Q (some x.1) { s with heap:=h' } |none=>Heap.ExtBut it s.heap h'->Q none { s with heap:=h' }):wpAny (model prog w) A (pyNext (.ref it)) Q E s:=by
 refine bE (id hit) λo B hc hd=>?_;refine r5 (wpAny_attempt (K2 (name:=Str.ofString "__next__") hit.typeIs bD
  (H9 bD hit.typeIs gj ?_ (ib _))))
 refine r5 (v9 ?_);refine r5 (wpAny_fieldsOf B hd ?_);refine r5 (wpAny_setEntries_of ho rfl hf ?_);refine J8 (λhc=>absurd hc (by rw[oZ];exact D0)) λ_=>?_;refine r5 (hn ?_);rcases r with _|⟨x,Y⟩
 .exact B6 (qS (j:=2) hh B hd (by decide:2<5) O) (λ_ _ h=>ah h λ_ _ f=>f.elim) λ_ _ e=>e
 .refine r5 (Rl B hd (by decide:0<5) ?_);obtain ho1:=G4 (Obj.mapFields (·.setIfInBounds 0 (rawInt (Y:Int)))) B (Rg (K5 hd _));obtain F:=K5 hd (·.setIfInBounds 0 (rawInt (Y:Int)));refine r5 (Rl ho1 F (by decide:1<5) ?_);obtain J:=G4 (Obj.mapFields (·.setIfInBounds 1 (rawInt ((i:Int)+1)))) ho1 (Rg (K5 F _));obtain G:=K5 F (·.setIfInBounds 1 (rawInt ((i:Int)+1)));refine v9 (af _ rfl (v9 (O _ (aN _ J ?_ G) ((G9 ..).trans (G9 ..)))));rw[Obj.cls_mapFields,Obj.cls_mapFields];exact hc
theorem qH{t:SetTable}(B:cJ w=true)(ho:s.heap.get? a=some (bC es ep t))(hf:t.fits es.size=true){R:Option (Value×Nat)->Shared->Prop} (h:R (((pickOrder (w.params.setOrder a ep) es)[i]?).map λe=>(e.2,k)) s):wpAny (model prog w) A (setNext a k i ep) R E s:=by refine r5 (M8 ho rfl hf ?_);refine r5 (cU ?_);rw[B,if_pos rfl];refine wpAny_ite_false (E6 (by rw[bne_self_eq_false];exact D0)) ?_;refine r5 ?_;refine r5 (M8 ho rfl hf ?_);refine r5 (cU ?_);rw[B,if_pos rfl];refine r5 (wpAny_askSetting (v9 ?_));exact v9 h
theorem oE{t:SetTable}(B:cJ w=false)(hp:(!t.plain&&decide (es.size>1))=false)(hl:t.led=true)(ho:s.heap.get? a=some (bC es ep t))(hf:t.fits es.size=true){R:Option (Value×Nat)->Shared->Prop} (h:R (match es[SetTable.below t.place k]?,t.place[SetTable.below t.place k]? with|some (_,x),some j=>some (x,j+1)|_,_=>none) s):wpAny (model prog w) A (setNext a k i ep) R E s:=by refine r5 (M8 ho rfl hf ?_);dsimp only;refine r5 (cU ?_);rw[B,if_neg D0];refine J8 (λhc=>Bool.noConfusion (hp.symm.trans (hc:(!t.plain&&decide (es.size>1))=true))) λ_=>?_;refine r5 ?_;refine J8 (λhc=>?_) λ_=>v9 (v9 h);rw[hl]at hc;simp at hc
end
end
section
variable{A:Around}{sa:SX}
noncomputable abbrev dB(ps:List Nat):Obj:={ cls:=.type "tuple",data:=.seq (ps.map λ(i:Nat)=>rawInt (i:Int)).toArray 0 }
theorem qo{a p:Addr}{t:SetTable}{ps:List Nat}(r:Option Value){Q:Option Value->Shared->Prop}(hh:A.handled=none)(hit:IsSetIter s.heap it a (.ref p) i es.size ep)(ho:s.heap.get? a=some (bC es ep t))(hf:t.fits es.size=true) (hp:s.heap.get? p=some (dB ps)) (hj:match r with|some x=>∃j e,ps[i]?=some j/\es[j]?=some e/\x=e.2|none=>ps[i]?=none) (Y:∀h',match r with|some x=>IsSetIter h' it a (.ref p) (i+1) es.size ep->Heap.SameBut it s.heap h'->Q (some x) { s with heap:=h' } |none=>Heap.ExtBut it s.heap h'->Q none { s with heap:=h' }):wpAny (model prog w) A (pyNext (.ref it)) Q E s:=by
 refine bE (id hit) λo B hc hd=>?_;refine r5 (wpAny_attempt (K2 (name:=Str.ofString "__next__") hit.typeIs bD
  (H9 bD hit.typeIs gj ?_ (ib _))))
 refine r5 (v9 ?_);refine r5 (wpAny_fieldsOf B hd ?_);refine r5 (wpAny_setEntries_of ho rfl hf ?_);refine J8 (λhc=>absurd hc (by rw[oZ];exact D0)) λ_=>?_;refine r5 (N6 hp rfl ?_);have O:(ps.map λ(i:Nat)=>rawInt (i:Int)).toArray[i]?=(ps[i]?).map λ(i:Nat)=>rawInt (i:Int):=by rw[List.getElem?_toArray,C5]
 dsimp only;rw[Rn,O];rcases r with _|x
 .rw[(hj:ps[i]?=none)];refine r5 (Rl B hd (by decide:0<5) ?_);obtain ho1:=G4 (Obj.mapFields (·.setIfInBounds 0 (rawInt 0))) B (Rg (K5 hd _));obtain F:=K5 hd (·.setIfInBounds 0 (rawInt 0));refine B6 (qS (s:={ s with heap:=_ }) (j:=2) hh ho1 F (by decide:2<5) λh' x=>Y h' ?_) (λ_ _ h=>ah h λ_ _ f=>f.elim) λ_ _ e=>e
  exactλb o Z e=>x b o Z ((N1 _ _ (R5 Z)).trans e)
 .refine bM hj λj e G he zx=>?_;subst zx;rw[G];refine r5 ?_;refine r5 (M8 ho rfl hf ?_);refine wpAny_ite_false (E6 (by rw[Rn,bne_self_eq_false];exact D0)) ?_;rw[Rn,he];refine v9 ?_;refine r5 (Rl B hd (by decide:1<5) ?_);obtain J:=G4 (Obj.mapFields (·.setIfInBounds 1 (rawInt ((i:Int)+1)))) B (Rg (K5 hd _));refine v9 (af _ rfl (v9 (Y _ (aN _ J ?_ (K5 hd (·.setIfInBounds 1 (rawInt ((i:Int)+1))))) (G9 ..))));rw[Obj.cls_mapFields];exact hc
theorem gZ{a:Addr}{first:Value}{n:Nat}{Q:a9}(hit:IsSetIter s.heap it a first i n ep)(h:Q (.ref it) s):wpAny (model prog w) A (pyIter (.ref it)) Q E s:=by refine wpAny_pyIter_slot hit.typeIs il (H9 il hit.typeIs lu ?_ (mP _));exact v9 (af _ rfl (bR ("set_iterator") _ hit.typeIs bD.lookup h))
theorem IsSetIter.at_{a:Addr}{first:Value}{n:Nat}(x:IsSetIter h it a first i n ep)(e:∀o,h.get? it=some o->h'.get? it=some o):IsSetIter h' it a first i n ep:=by refine ah x λo ho r=>?_;exact(af o (e _ ho) r)
noncomputable def lM(t:SetTable):Nat->Nat
 |0=>0
 |i+1=>(t.place.getD i 0)+1
theorem mH{t:SetTable}(h:t.place[i]?=some j):lM t (i+1)=j+1:=by show t.place.getD i 0+1=j+1;rw[Array.getD_eq_getD_getElem?,h];rfl
theorem kF{t:SetTable}(T:TOK t es):∀i,i<=es.size->SetTable.below t.place (lM t i)=i
 |0,_=>ve T.rise
 |i+1,hi=>by
  have B:i<t.place.size:=by rw[T.size];exact Lj hi
  obtain F:t.place[i]?=some t.place[i]:=by simp[B]
  rw[mH F];exact vd T.rise F
theorem wF(F:cJ w=true)(hh:A.handled=none)(I a:Addr)(ad:a≠I)(es:Array (Int×Value))(ep:Nat)(t:SetTable)(hf:t.fits es.size=true) : Walks prog w A I [I,a] [I] es.size (λi v=>((pickOrder (w.params.setOrder a ep) es).toList.map (·.2))[i]?=some v) (λi h=>IsSetIter h I a (.int 0 0) i es.size ep/\h.get? a=some (bC es ep t)) where
 sub:=λb F=>by simp at F;simp[F]
 frame:=λ_ _ _ st hk=>⟨st.1.at_ λo e=>hk I (y7) o e,hk a (by simp) _ st.2⟩
 item:=λi s Q E hi st G=>by
  have hlen:(pickOrder (w.params.setOrder a ep) es).size=es.size:=by obtain B:=(dH (w.params.setOrder a ep) es).length_eq;simpa using B
  have hx:(pickOrder (w.params.setOrder a ep) es)[i]?=some ((pickOrder (w.params.setOrder a ep) es)[i]'(yS hlen hi)):=by simp[hlen,hi]
  refine hF (k:=0) (some (_,0)) hh st.1 st.2 hf (λ{A' E' R} Y=>qH F st.2 hf (by rw[hx];exact Y)) λh' J O=>?_;exact G _ h' s.toks (by rw[C5,B9,hx];rfl) ⟨J,(O.2 a ad).trans st.2⟩ λb o F e=>O.extBut b o (λh=>F (by simp[h])) e
 done:=λs Q E st G=>by
  have hlen:(pickOrder (w.params.setOrder a ep) es).size=es.size:=by obtain B:=(dH (w.params.setOrder a ep) es).length_eq;simpa using B
  refine hF (k:=0) none hh st.1 st.2 hf (λ{A' E' R} Y=>qH F st.2 hf (by rw[Ry (Fi hlen)];exact Y)) λh' Z=>G h' s.toks λb o F e=>Z b o (λh=>F (by simp[h])) e
 self:=λ_ _ _ _ st G=>gZ st.1 G
theorem uS(F:cJ w=false)(hh:A.handled=none)(I a:Addr)(ar:a≠I)(es:Array (Int×Value))(ep:Nat)(t:SetTable)(T:TOK t es)(hp:(!t.plain&&decide (es.size>1))=false)(hl:t.led=true) : Walks prog w A I [I,a] [I] es.size (λi v=>(es.toList.map (·.2))[i]?=some v) (λi h=>IsSetIter h I a (.int (lM t i) 0) i es.size ep/\h.get? a=some (bC es ep t)) where
 sub:=λb F=>by simp at F;simp[F]
 frame:=λ_ _ _ st hk=>⟨st.1.at_ λo e=>hk I (y7) o e,hk a (by simp) _ st.2⟩
 item:=λi s Q E hi st G=>by
  have hf:t.fits es.size=true:=Fits.of T.toTOK0 (D5 T.le');obtain B:=kF T;have an:i<t.place.size:=by rw[T.size];exact hi
  have hg:t.place[i]?=some t.place[i]:=by simp[an]
  have J:es[i]?=some (es[i].1,es[i].2):=by simp[hi]
  obtain as:=mH hg;refine hF (k:=lM t i) (some (_,lM t (i+1))) hh st.1 st.2 hf (λ{A' E' R} Z=>oE F hp hl st.2 hf (by rw[B i (D5 hi),J,hg];rw[as]at Z;exact Z)) λh' O Y=>?_;exact G _ h' s.toks (by rw[C5,B9,J];rfl) ⟨O,(Y.2 a ar).trans st.2⟩ λb o F e=>Y.extBut b o (λh=>F (by simp[h])) e
 done:=λs Q E st G=>by have hf:t.fits es.size=true:=Fits.of T.toTOK0 (D5 T.le');have B:=kF T es.size (A8 _);refine hF (k:=lM t es.size) none hh st.1 st.2 hf (λ{A' E' R} Z=>oE F hp hl st.2 hf (by rw[B];simp;exact Z)) λh' ad=>G h' s.toks λb o F e=>ad b o (λh=>F (by simp[h])) e
 self:=λ_ _ _ _ st G=>gZ st.1 G
theorem uR(hh:A.handled=none)(I a p:Addr)(hne:a≠I)(hpI:p≠I)(es:Array (Int×Value))(ep:Nat)(t:SetTable)(hf:t.fits es.size=true)(ps:List Nat)(B:ps.Perm (List.range es.size)) : Walks prog w A I [I,a,p] [I] es.size (λi v=>((ps.filterMap (es[·]?)).map (·.2))[i]?=some v) (λi h=>IsSetIter h I a (.ref p) i es.size ep/\h.get? a=some (bC es ep t)/\h.get? p=some (dB ps)) where
 sub:=λb G=>by simp at G;simp[G]
 frame:=λ_ _ _ st hk=>(cH (st.1.at_ λo e=>hk I (y7) o e) (hk a (by simp) _ st.2.1) (hk p (by simp) _ st.2.2))
 item:=λi s Q E hi st J=>by
  have hlen:ps.length=es.size:=by simpa using B.length_eq
  have Y:∀q∈ps,q<es.size:=λq hq=>F8.mp (B.mem_iff.mp hq);have hj:ps[i]?=some (ps[i]'(yS hlen hi)):=by simp[hlen,hi]
  have hq:=Y _ (B0 hj);have he:es[ps[i]'(yS hlen hi)]?=some (es[ps[i]'(yS hlen hi)]'hq):=by simp[hq]
  refine qo (some _) hh st.1 st.2.1 hf st.2.2 (bR _ _ hj he rfl) λh' O F=>?_;exact J _ h' s.toks (by rw[C5,(bY es ps Y).2 i _ hj,he];rfl) (cH O ((F.2 a hne).trans st.2.1) ((F.2 p hpI).trans st.2.2)) λb o G e=>F.extBut b o (λh=>G (by simp[h])) e
 done:=λs Q E st J=>by
  have hlen:ps.length=es.size:=by simpa using B.length_eq
  exact qo none hh st.1 st.2.1 hf st.2.2 (by simp;exact Fi hlen) λh' Z=>J h' s.toks λb o G e=>Z b o (λh=>G (by simp[h])) e
 self:=λ_ _ _ _ st J=>gZ st.1 J
end
section
variable{A:Around}{sa:SX}
theorem VRs.perm{cs G:List Value}(p:G.Perm cs):∀{us:List V},VRs sa h us cs->∃B,B.Perm us/\VRs sa h B G:=by
 obtain q:=p.symm;clear p;induction q with
 |nil=>intro us r;exact(af us (L5 _) r)
 |cons c p Z =>
  intro us r;rcases us with _|⟨u,us⟩
  .have:=r.nil_inv;exact(G0 _ _ this).elim
  .refine bM r.cons_inv λc' cs e J F=>?_;cases e;refine ah (Z F) λB p' r'=>?_;exact(af (u::B) (p'.cons u) (.cons J r'))
 |swap c d l =>
  intro us r;rcases us with _|⟨u,us⟩
  .have:=r.nil_inv;exact(G0 _ _ this).elim
  .refine bM r.cons_inv λ_ _ e J F=>?_;cases e;rcases us with _|⟨u',us⟩
   .have:=F.nil_inv;exact(G0 _ _ this).elim
   .refine bM F.cons_inv λ_ _ e r3 r4=>?_;cases e;exact(af (u'::u::us) (List.Perm.swap _ _ _) (.cons r3 (.cons J r4)))
 |trans p q O Q =>intro us r;refine ah (O r) λus1 p1 J=>?_;refine ah (Q J) λY p2 F=>?_;exact(af Y (p2.trans p1) F)
theorem ESR.vrs(r:ESR sa w h us es):VRs sa h us (es.toList.map (·.2)):=by
 have gen:∀(us:List V)(es:List (Int×Value)),us.length=es.length->(∀(i:Nat)(u:V)(e:Int×Value),us[i]?=some u->es[i]?=some e->VR sa h u e.2)->VRs sa h us (es.map (·.2)):=by
  intro us;induction us with
  |nil =>intro es hl _;rw[L6.mp hl.symm];exact .nil
  |cons u us B =>
   intro es hl hk;rcases es with _|⟨e,es⟩
   .simp at hl
   .exact .cons (hk 0 u e rfl rfl) (B es (by simpa using hl) λi F e' a b=>hk (i+1) F e' (by simpa using a) (by simpa using b))
 exact gen us es.toList r.len λi u e a b=>(r.at_ i u e a (by rw[<- B9];exact b)).2
theorem Aw{r:Addr}{Q:b7}(hT:s.TypeIs (.ref r) "set")(h:Q false s):wpAny (model prog w) A (Builtin.List.listLengthHint (.ref r)) Q E s:=by refine r5 (RH hT PySem.F.slot_set_len.lookup ?_);generalize G:("set.__len__":String)=id0;wp_delta;rw[show splitId id0=some ("set","__len__")from by subst G;decide +kernel];subst G;refine r5 (wpAny_isInstance (T:="set") (b:=true) hT (by rw[isSubtype_type];kernel_rfl) ?_);refine J8 (λB=>absurd B (by decide)) (λ_=>?_);refine J8 (λ_=>?_) (λB=>absurd (by decide +kernel) B);refine r5 (wpAny_typeOf hT ?_);exact v9 h
theorem uz{a:Addr}{t:SetTable}{Q:b7}(ho:s.heap.get? a=some (bC es ep t))(hf:t.fits es.size=true)(h:Q (!cJ w&&(!t.plain&&decide (es.size>1))) s):wpAny (model prog w) A (setDrawn a) Q E s:=by refine r5 (M8 ho rfl hf ?_);exact r5 (cU (v9 h))
theorem te{a:Addr}{κ:Nat}{R:List Value->Shared->Prop}(hh:A.handled=none)(S:SetR sa w s.heap a κ us)(hz:us.length<=100)(h:∀s' cvs B,Ex s s'->B.Perm us->VRs sa s.heap B cvs->R cvs s'):wpAny (model prog w) A (collect (.ref a)) R E s:=by
 obtain⟨⟨es,ep,t,ho,T,ad,r⟩,hkind,hnd⟩:=S;have hf:t.fits es.size=true:=Fits.of T.toTOK0 (D5 T.le');obtain a1:(100:Nat)<=sizeLine:=by rw[J9];exact Ba
 have Z:es.size<=100:=by rw[<- r.len];exact hz
 refine lZ (T:="set") (n:=es.size) (G:=λP=>∃ws:List Value,(∃B,B.Perm us/\VRs sa s.heap B ws)/\ws.length=es.size/\P=λi v=>ws[i]?=some v) (I4 ho) (af _ ho rfl) (by decide) (by decide) (λ_ _ _ hT q=>Aw hT q) (Fj a1 Z) (λE ac Q x1 hQ=>?_) λs' acc P hG x Y=>?_
 .have ho1:=x1.heap _ _ ho;have an:a<ac.heap.objs.size:=I4 ho1;have as:ac.TypeIs (.ref a) "set":=(af _ ho1 rfl);have vrs:=r.vrs;have mk:∀{Γ:List (Int×Value)},Γ.Perm es.toList->∃B,B.Perm us/\VRs sa s.heap B (Γ.map (·.2)):=λp=>VRs.perm (p.map _) vrs;refine wpAny_pyIter_slot as PySem.F.slot_set_iter (H9 PySem.F.slot_set_iter as nU ?_ (PySem.F.args_set_iter_1 _));unfold Builtin.«frozenset.__iter__» Builtin.Frozenset.slot0 slotArgs;simp only[List.isEmpty_nil,Bool.not_true,Bool.false_eq_true,if_false,bind_assoc,List.length_nil,bne_self_eq_false];refine r5 (v9 ?_)
  try dsimp only
  refine r5 (v9 ?_);refine r5 (r5 (wpAny_setEntries_of ho1 rfl hf (v9 ?_)));refine r5 (uz ho1 hf ?_);refine J8 (λhc=>?_) (λhc=>?_)
  .refine r5 (io _ _ (by simp) λps d O=>?_);refine r5 (wpAny_newTuple ?_ (by show(ps.map _).length<=_;rw[u7,O.length_eq,Rp];exact Fj a1 Z));obtain hpo:(ac.heap.push (dB ps)).get? ac.heap.objs.size=some (dB ps):=C2 _ rfl;obtain a0:(ac.heap.push (dB ps)).get? a=some (bC es ep t):=z5 _ ho1;refine r5 (wpAny_setEpoch_of (s:={ ac with heap:=ac.heap.push (dB ps),drawn:=d }) a0 rfl hf ?_);refine r5 (N9 (v9 (af _ rfl (bR ("set_iterator") _ (af _ (C2 _ rfl) rfl) bD.lookup ?_))));obtain ar:(ac.heap.push (dB ps)).objs.size=ac.heap.objs.size+1:=Heap.size_push _ _;obtain W:=uR (prog:=prog) (w:=w) (A:=A.in1) hh (ac.heap.push (dB ps)).objs.size a ac.heap.objs.size (by rw[ar];exact G7 (M7 an)) (by rw[ar];exact G7 (K6 _)) es ep t hf ps O;refine hQ _ _ _ _ _ (aN _ (mk ((O.filterMap (es[·]?)).trans (by rw[eF]))) ?_ rfl) W (cH (aN _ (C2 _ rfl) rfl rfl) (z5 _ a0) (z5 _ hpo)) (C6 (by rw[ar];exact Rz _)) (λb J=>?_) ⟨rfl,rfl,λb o e=>z5 _ (z5 _ e)⟩
   .obtain hlt:∀q∈ps,q<es.size:=λq hq=>F8.mp (O.mem_iff.mp hq);rw[u7,(bY es ps hlt).1,O.length_eq,Rp]
   .rcases C0.mp J with e|J
    .exact .inl e
    .rcases C0.mp J with e|J
     .rw[e];exact .inr (.inl (by rw[ho];simp))
     .rw[A4.mp J];exact .inr (.inr (C6 (A8 _)))
  .refine r5 (v9 ?_);refine r5 (wpAny_setEpoch_of ho1 rfl hf ?_);refine r5 (N9 (v9 (af _ rfl (bR ("set_iterator") _ (af _ (C2 _ rfl) rfl) bD.lookup ?_))));have av:∀b∈[ac.heap.objs.size,a],b=ac.heap.objs.size\/s.heap.get? b≠none\/ac.heap.get? b=none:=λb J=>by
    rcases C0.mp J with e|J
    .exact .inl e
    .rw[A4.mp J];exact .inr (.inl (by rw[ho];simp))
   cases J:cJ w with
   |true =>
    have hlen:((pickOrder (w.params.setOrder a ep) es).toList.map (·.2)).length=es.size:=by rw[u7,(dH (w.params.setOrder a ep) es).length_eq];simp
    exact hQ _ _ _ _ _ (aN _ (mk (dH (w.params.setOrder a ep) es)) hlen rfl) (wF (A:=A.in1) J hh _ a (G7 an) es ep t hf) ⟨(aN _ (C2 _ rfl) rfl rfl),z5 _ ho1⟩ (C6 (A8 _)) av (Ex.push _ _ _)
   |false =>rw[J]at hc;rw[J]at ad;exact hQ _ _ _ _ _ (aN _ (mk (L5 _)) (u7 _) rfl) (uS (A:=A.in1) J hh _ a (G7 an) es ep t T (K0.mpr hc) ad) ⟨(aN _ (C2 _ rfl) rfl rfl),z5 _ ho1⟩ (C6 (A8 _)) av (Ex.push _ _ _)
 .refine bE hG λws aW hwl bS=>?_;obtain⟨B,p,rr⟩:=aW;subst bS
  have:acc.toList=ws:=by
   apply Ro;intro j;rcases e:acc[j]? with _|v
   .obtain h1:es.size<=j:=by rw[<- Y.1];simpa using e
    rw[B9,e,Re (Fk hwl h1)]
   .rw[B9,e];exact(Y.2 j v e).symm
  rw[this];exact h s' ws B x p rr
end
theorem sortable.perm{ws:List V}(so:sortable vs)(p:ws.Perm vs):sortable ws :=(qZ (by rw[p.length_eq];exact so.1) (λx B=>so.2.1 x (p.mem_iff.mp B)) (so.2.2.1.imp (λh=>by rw[p.length_eq];exact h) λh x B=>h x (p.mem_iff.mp B)) (λx B y F=>so.2.2.2 x (p.mem_iff.mp B) y (p.mem_iff.mp F)))
theorem gg{ws:List V}(hc:∀x∈vs,∀y∈vs,cy x y=true)(p:ws.Perm vs):aH ws=aH vs:=by have B:∀x∈ws,∀y∈ws,cy x y=true:=λx F y G=>hc x (p.mem_iff.mp F) y (p.mem_iff.mp G);refine eu ((am ws).trans (p.trans (am vs).symm)) (λx F y G=>B x ((am ws).mem_iff.mp F) y ((am ws).mem_iff.mp G)) (cT ws B) (cT vs hc)
theorem aZ:∀{vs:List V}{x:V},x∈aM vs↔x∈vs
 | [],x=>by simp[aM]
 |v::vs,x=>by
  unfold aM;rw[C0,C0,I8,aZ];constructor
  .rintro(e|⟨h,_⟩)
   .exact .inl e
   .exact .inr h
  .rintro(e|h)
   .exact .inl e
   .by_cases e:x=v
    .exact .inl e
    .exact .inr ⟨h,by rw[bg.mpr e];rfl⟩
theorem bJ:∀(vs:List V),(aM vs).Nodup
 | []=>by simp[aM]
 |v::vs=>by refine E8.mpr ⟨λh=>?_,(bJ vs).filter _⟩;obtain B:=(I8.mp h).2;rw[bH]at B;exact ai B
theorem dc:∀(vs:List V),(aM vs).length<=vs.length
 | []=>by simp[aM]
 |v::vs=>by obtain B:=dc vs;obtain F:=N8 (λw=>!cu w v) (aM vs);exact Lk F B
def sortable.dedup(so:sortable vs):sortable (aM vs) :=(qZ (A6 (dc vs) so.1) (λx B=>so.2.1 x (aZ.mp B)) (so.2.2.1.imp (λh=>A6 (dc vs) h) λh x B=>h x (aZ.mp B)) (λx B y F=>so.2.2.2 x (aZ.mp B) y (aZ.mp F)))
theorem sortable.kind(so:sortable vs):∃κ,κ≠0/\∀u∈vs,vk u=κ/\iy u:=by
 rcases vs with _|⟨v,vs⟩
 .exact(af 1 (by decide) (λu h=>absurd h A7))
 .refine(af (vk v) ((sA (so.2.2.2 v y7 v y7)).2) (λu B=>⟨(sA (so.2.2.2 u B v y7)).1,so.2.1 u B⟩))
section
variable{H:AH}{A:Around}{d:Nat}{Q:b8}
def Ex.step(x:Ex s s')(R:aF L H s.heap):ax L eA H H s s':=t9 R x.gens x.os x.heap
theorem fF{x:Value}{B:List V}(F:ae L env loc H s.heap)(R:aF L H s.heap)(hr:Room A d)(so:sortable B)(q:fresh H Q (.list (aH B))) (G:wpAny (model L.prog L.w) A.in1 (collect x) (λcvs s'=>∃vs,VRs L.sa s'.heap vs cvs/\vs.Perm B/\Ex s s') aI s):a8 L A (call (.builtin "sorted") [x]) (EPost L env H s Q) aI s:=by
 refine Calls.call_function_entry kind_sorted plain_sorted entry_sorted (args_sorted1 _) ?_;refine r5 (m:=checkCount "sorted" 1 1 _) (v9 ?_);refine r5 (B6 G (λcvs s' ⟨vs,r,p,x⟩=>?_) λ_ _ e=>e);have O:=(x.step R).toE (env:=env) F.lH;have Y:A.in1.units+20<cLine:=by obtain J:=hr.2.2;exact Ll J
 exact uB (F.estep O) O.st.rel Y r (so.perm p) (by rw[gg so.2.2.2 p];exact q) λv Z h=>(af _ rfl (u3 O h))
theorem ER.keys:∀{kvs:List (V×V)}{es:List DictEntry},ER L h kvs es->VRs L.sa h (kvs.map (·.1)) (es.map (·.key))
 | [],_,x=>by subst x;exact .nil
 |(k,v)::r,_,x=>by refine pD x λe es aW a b c d=>?_;subst aW;exact .cons a d.keys
theorem yF{B:List (V×Value)}{as:List Addr}{lo:Addr}(Z:B.map (·.1)=kvs.map (·.1))(h2:VRs L.sa h' (kvs.map (·.2)) (B.map (·.2)))(hX:∀a,lo<a->¬L.X a) (hlen:as.length=B.length) (G:@KdxG L.prog L.w V bX (bB L.prog L.w) B lo h' as):VRs L.sa h' (aY kvs) (as.map Value.ref):=by
 letI:DecidableEq V:=bX
 have key:∀(j:Nat)(a:Addr),as[j]?=some a->∃p,kvs[j]?=some p/\VR L.sa h' (.tup [p.1,p.2]) (.ref a):=by
  intro j a ha;refine Ef (G.pairs j a ha) λck F x e1 e2 e3=>?_;obtain Q:(B.map (·.1))[j]?=some F:=by rw[C5,e1];rfl
  rw[Z,C5]at Q;refine ah (E3.mp Q) λp hp z=>?_;refine ah (h2.get (i:=j) (v:=p.2) (by rw[C5,hp];rfl)) λc Y e6=>?_;rw[C5,e1]at Y;obtain rfl:=w4 Y;refine(af p hp (t8 (hX a (G.above a (B0 ha))) (aN _ e3 rfl (gE 0 rfl)) ?_));obtain e7:VR L.sa h' F ck:=jP e2;rw[z];exact VRs.cons e7 (VRs.one e6)
 obtain J:as.length=kvs.length:=hlen.trans (by obtain O:=C3 List.length Z;simpa using O);clear hlen G;have gen:∀(kvs:List (V×V))(as:List Addr),as.length=kvs.length->(∀(j:Nat)(a:Addr),as[j]?=some a->∃p,kvs[j]?=some p/\VR L.sa h' (.tup [p.1,p.2]) (.ref a))->VRs L.sa h' (kvs.map λp=>.tup [p.1,p.2]) (as.map Value.ref):=by
  intro kvs;induction kvs with
  |nil=>intro as hl _;rw[L6.mp hl];exact .nil
  |cons p r ih =>
   intro as hl hk;rcases as with _|⟨a,as⟩
   .simp at hl
   .refine ah (hk 0 a rfl) λp' e1 e2=>?_;simp at e1;subst e1;exact .cons e2 (ih as (by simpa using hl) λj a' hj=>by simpa using hk (j+1) a' (by simpa using hj))
 exact gen kvs as J key
theorem pT{a:Addr}{κ:Nat}(F:ae L env loc H s.heap)(R:aF L H s.heap)(hr:Room A d)(so:sortable vs)(S:SetR L.sa L.w s.heap a κ us)(hm:∀x,x∈us↔x∈vs)(hl:us.length<=vs.length)(q:fresh H Q (.list (aH (aM vs)))) : a8 L A (call (.builtin "sorted") [.ref a]) (EPost L env H s Q) aI s:=by
 obtain B:=so.1;obtain p:us.Perm (aM vs):=(Rb S.nd (bJ vs)).mpr λx=>by rw[hm,aZ]
 refine fF F R hr so.dedup q (te (sa:=L.sa) hr.1 S (Lm hl B) λs' cvs G x J r=>(aN G (r.keep (r8 x.heap)) (J.trans p) x))
theorem yw{l:Addr}{items:Array Value}(hl:s.heap.IsList l items):zA L.prog L.w s l items.size (λi v=>items[i]?=some v):=by
 intro A A' E ac Q hh O hk Z;have B:ac.heap.IsList l items:=by refine ah hl λo ho r=>?_;exact(af o (hk _ _ ho) r)
 obtain Y:l<ac.heap.objs.size:=by refine ah B λo ho r=>?_;exact I4 ho
 refine wpAny_pyIter_list B (Z _ _ _ (Walks.list O _ l (G7 Y) items) (λb J=>?_) ⟨(aN _ (C2 _ rfl) rfl rfl),B.push _⟩ λi h o st e hc=>?_)
 .rcases C0.mp J with e|J
  .exact .inl e
  .rw[A4.mp J];refine ah hl λo ho _=>?_;exact .inr (by rw[ho];simp)
 .refine cf st λbS _=>?_;refine bE bS λo' G F _=>?_;rw[e]at G;obtain rfl:=w4 G;rw[hc]at F;exact absurd F (by decide)
theorem GL{d:Nat}(hr:Room A d):A.units+30<cLine:=by obtain B:=hr.2.2;exact Ln B
theorem Dw(C:aO L.toSx):aU L .dict:=by
 intro env loc H s A d Q id x y pos ip F R hr O Y B h;obtain rfl:=w4 Y;refine rX C F R (bi (i:=8) rfl) O B h λG r F R=>?_;refine bL (kq rfl G) λa aW=>?_;subst aW;refine sH G λkvs e J hz q=>?_;rw[r.ref_inv];rcases e with e|e
 .exact GQ C F R e J hz q
 .exact Dz F R hr.1 e.1 J e.2 hz q
theorem uD(F:ae L env loc H s.heap)(R:aF L H s.heap)(hr:Room A d){a:Addr}(e:H a=some (.list vs))(so:sortable vs)(q:fresh H Q (.list (aH vs))):a8 L A (call (.builtin "sorted") [.ref a]) (EPost L env H s Q) aI s:=by refine cG (ao R e) λcvs n ho B=>?_;obtain k:∀{ob:Obj}{f:Obj->Obj},∀b o,s.heap.get? b=some o->((s.heap.push ob).update s.heap.objs.size f).get? b=some o:=λb o e=>(N1 _ _ (RM (I4 e))).trans (z5 _ e);exact fF F R hr so q (collect_list (vs:=cvs.toList) (aN _ ho rfl (gE n rfl)) (aN vs (B.keep (r8 k)) (L5 _) ⟨rfl,rfl,k⟩) (by rw[B.length,J9];exact u0 (D5 so.1) (by decide)))
theorem uC(C:aO L.toSx)(F:ae L env loc H s.heap)(R:aF L H s.heap)(hr:Room A d){a:Addr}(e:H a=some (.dict kvs))(so:sortable (kvs.map (·.1)))(q:fresh H Q (.list (aH (kvs.map (·.1))))):a8 L A (call (.builtin "sorted") [.ref a]) (EPost L env H s Q) aI s:=by refine bM (cz R e) λes n ho B G=>?_;obtain hz:=so.1;rw[u7,<- B.length,J7]at hz;exact fF F R hr so q (tc hr.1 (R.nosys C e) ho (by rw[J9];exact u0 (D5 hz) (by decide)) λs' x=>(aN (kvs.map (·.1)) (B.keys.keep (r8 x.heap)) (L5 _) x))
theorem yX(C:aO L.toSx):aU L .sorted:=by
 intro env loc H s A d Q id x y pos ip F R hr J O B h;obtain rfl:=w4 O;refine ni C F R (bi (i:=9) rfl) J B h λG r F R=>?_;refine bL (kq rfl G) λa eJ=>?_;subst eJ;rw[r.ref_inv];rcases G with⟨vs,e,so,q⟩|⟨kvs,e,so,q⟩
 .exact uD F R hr e so q
 .exact uC C F R hr e so q
theorem Dg{γ:Type}{f:α->γ}{g:β->γ}{l:List α}{m:List β}(h:l.map f=m.map g):l.length=m.length:=by obtain B:=C3 List.length h;rwa [u7,u7]at B
theorem oP(C:aO L.toSx):aU L .sortedItems:=by
 letI:DecidableEq V:=bX
 intro env loc H s A d Q id x y pos ip F R hr g0 pa hst h;refine bM (oi pa) λap pos' an hb hp=>?_;subst an;refine vT C F R (nm:="sorted") (b:="sorted") (bi (i:=9) rfl) g0 lj (xH C hb hp h λv H1 c s1 B r1 Y=>?_);refine bL (kq rfl B) λa bS=>?_;subst bS;refine sH B λkvs e sk so q=>?_;apply r1.ref_el;refine(kB a kvs rfl e sk ?_);obtain F1:=F.estep Y;have Z:=aj.pushed F1 Y.st.rel { cls:=.type "dict_items",data:=.fields #[.ref a] } s1.toks;obtain F2:=F1.estep Z;have O:=Z.st.rel;refine bM (cz O e) λes n ho er dk=>?_;refine bE (xL ho er dk sk) λad B h2 h3=>?_;have hl:ad.length=kvs.length:=Dg B;have hz:kvs.length<64:=by obtain J:=so.1;rwa [aY,u7]at J
 refine B6 (fF F2 O hr so q (kdx_collect hr.1 (aN _ (C2 _ rfl) rfl rfl) h3 (by rw[J9,hl];exact u0 (D5 hz) (by decide)) λh' tk as k hlen G=>(aN (aY kvs) ?_ (L5 _) ⟨rfl,rfl,k⟩))) (λ_ _ h=>u3 (Y.trans Z) h) λ_ _ e=>e;exact yF B (h2.keep (r8 k)) (λa ha=>O.nx (C6 (D5 ha))) hlen G
theorem rZ(C:aO L.toSx):aU L .sortedSet:=by intro env loc H s A d Q id x y pos ip F R hr g0 pa Z h;refine nC (jX pa) λid' ip' pos' an g1=>?_;subst an;refine vT C F R (nm:="sorted") (b:="sorted") (bi (i:=9) rfl) g0 lj (rW C F R (nm:="set") (b:="set") (bi (i:=11) rfl) g1 Z (bk h λv H1 c s1 h1 r1 J=>?_));refine bL (kq rfl h1) λa ar=>?_;subst ar;refine bE h1 λvs e so q=>?_;apply r1.ref_el;obtain F1:=F.estep J;have R1:=J.st.rel;refine cG (ao R1 e) λcvs n ho ra=>?_;refine ah so.kind λκ G ad=>?_;obtain hl:s1.heap.IsList a cvs:=(aN _ ho rfl (gE n rfl));refine zW (sa:=L.sa) (af _ ho rfl) PySem.F.sub_list_set PySem.F.sub_list_frozenset (by decide) hr.1 (GL hr) (yw (L:=L) hl) (λi v hv=>ra.get' (by rw[B9];exact hv)) G ad (by rw[<- ra.length,J7]) so.1 λs2 us x S2 O Y=>?_;have B:=(x.step R1).toE (env:=env) F1.lH;exact B6 (pT (F1.estep B) B.st.rel hr so S2 Y O q) (λ_ _ h=>u3 (J.trans B) h) λ_ _ e=>e
theorem gA(C:aO L.toSx):∀p,aU L p
 | .len=>GF C | .sum=>GH C | .max=>GG C | .int=>GE C | .tuple=>Bp C | .listItems=>rY C
 | .dict=>Dw C | .sorted=>yX C | .sortedItems=>oP C | .sortedSet=>rZ C
end
def oO:wI:=λL C p=>gA C p
theorem rJ:Cf:=λL C=>by
 intro it env x tgt loc H s A d K hc ht hs F R hr h;cases it with
 |zip a b=>exact CU C (gA C) hc hs F R hr h
 |enum a=>exact Ar C (gA C) hc hs F R hr h
 |exp e=>exact qx C (gA C) hc ht F R hr h
 |rng e=>exact qx C (gA C) hc ht F R hr h
section
variable{c m:String}{a:Addr}
theorem hY(i j:Int):cu (.int i) (.int j)=decide (i=j):=by
 cases h:cu (.int i) (.int j)with
 |true=>have:=(aP _ _).mp h;injection this with e;subst e;simp
 |false=>have:=bg.mp h;obtain e:i≠j:=λz=>this (by rw[z]);simp[e]
theorem jv(i j:String):cu (.str i) (.str j)=decide (i=j):=by
 cases h:cu (.str i) (.str j)with
 |true=>have:=(aP _ _).mp h;injection this with e;subst e;simp
 |false=>have:=bg.mp h;obtain e:i≠j:=λz=>this (by rw[z]);simp[e]
noncomputable def fl(ps:List (String×V)):List (V×V):=ps.map λp=>(V.str p.1,p.2)
theorem aT(k v:V)(r:List (V×V))(B:V):ay ((k,v)::r) B=if cu k B=true then some v else ay r B:=by unfold ay;rw[List.find?_cons];simp only;cases cu k B <;> simp
theorem fI(ps:List (String×V))(m:String):ay (fl ps) (.str m)=ps.lookup m:=by
 induction ps with
 |nil=>rfl
 |cons p r F =>
  obtain⟨k,v⟩:=p;show ay ((V.str k,v)::fl r) (.str m)=_;rw[aT,L7,F,jv];by_cases h:k=m
  .subst h;simp
  .obtain B:(m==k)=false:=beq_false_of_ne λz=>h z.symm;simp[h,B]
theorem gM(ps:List (String×V)):∀p∈fl ps,cV p.1=1:=λp hp=>by refine ah (w3.mp hp) λq _ aW=>?_;subst aW;rfl
def ph(ps:List (String×V)):br (fl ps):=gM ps
structure dt(H:AH)(a:Addr)(c:String)(dx:Addr)(ps:List (String×V)):Prop where
 o:H a=some (.inst c dx)
 d:H dx=some (.dict (fl ps))
def Ext(H H':AH):Prop:=∀a o,H a=some o->H' a=some o
def Ext.refl'(H:AH):Ext H H:=λ_ _ e=>e
def y0:=@Ext.refl'
def Ext.trans'{H H'':AH}(x:Ext H H')(y:Ext H' H''):Ext H H'':=λa o e=>y a o (x a o e)
theorem Ext.set{H:AH}(o:AO)(h:H a=none):Ext H (H.set a o):=λb x e=>by
 rw[r7]
 .exact e
 .rintro rfl;rw[h]at e;exact ns e
def y3:=@Ext.set
def dt.ext{H:AH}(x:Ext H H'){ps:List (String×V)}(i:dt H a c dx ps):dt H' a c dx ps:=⟨x _ _ i.o,x _ _ i.d⟩
section
variable{H:AH}{Q:b8}
theorem kE{f:String}{ps:List (String×V)}{x:V}(i:dt H a c dx ps)(hf:f∈σ.flds c)(B:ps.lookup f=some x)(q:Q x H):zK H Q σ (.ref a) f :=⟨a,c,dx,fl ps,x,rfl,i.o,hf,i.d,by rw[fI];exact B,q⟩
theorem cB{ps:List (String×V)}(i:dt H a c dx ps)(B:ps.lookup m=none)(hm:(σ.meth c m).isSome=true):qO H σ (.ref a) m (.inst c) :=(Qe a dx (fl ps) rfl i.o i.d (gM ps) (by rw[fI];exact B) hm)
def MCall(σ:Sx)(d:Nat)(c m:String)(vs:List V)(H:AH)(Q:b8):Prop:=∃f,σ.meth c m=some f/\CallS σ d f vs H Q
def FCall(σ:Sx)(d:Nat)(n:String)(vs:List V)(H:AH)(Q:b8):Prop:=∃f,σ.fn n=some f/\CallS σ d f vs H Q
def HasM(σ:Sx)(c m:String)(x:bn):Prop:=∃f fd,σ.meth c m=some f/\FnAt σ f fd x.params x.body
def mO(σ:Sx)(n:String)(x:bn):Prop:=∃f fd,σ.fn n=some f/\FnAt σ f fd x.params x.body
theorem HasM.some{x:bn}(h:HasM σ c m x):(σ.meth c m).isSome=true:=by refine cG h λf _ e _=>?_;rw[e];rfl
theorem MCall.mono{d:Nat}{B:b8}(h:MCall σ d c m vs H Q)(q:∀v H',Q v H'->B v H'):MCall σ d c m vs H B:=let⟨f,e,x⟩:=h;⟨f,e,x.mono q⟩
theorem FCall.mono{d:Nat}{n:String}{B:b8}(h:FCall σ d n vs H Q)(q:∀v H',Q v H'->B v H'):FCall σ d n vs H B:=let⟨f,e,x⟩:=h;(af f e (x.mono q))
theorem MCall.room{d B:Nat}(h:MCall σ d c m vs H Q)(q:d<=B):MCall σ B c m vs H Q:=let⟨f,e,x⟩:=h;(af f e (x.room q))
theorem FCall.room{d B:Nat}{n:String}(h:FCall σ d n vs H Q)(q:d<=B):FCall σ B n vs H Q:=let⟨f,e,x⟩:=h;(af f e (x.room q))
abbrev nD(Q:b8):Fl->Loc->AH->Prop:=λfl _ H'=>match fl with | .ret v=>Q v H' | .next=>Q .none H'
def aE(C:aO σ){x:bn}{d:Nat}(h:HasM σ c m x)(hl:vs.length=x.params.length)(w:au σ d x.body (aR x.params vs) H (nD Q)):MCall σ (d+1) c m vs H Q :=
 let⟨f,fd,e,X⟩:=h;(af f e (sX oO rJ C X hl w))
theorem bU(C:aO σ){n:String}{x:bn}{d:Nat}(h:mO σ n x)(hl:vs.length=x.params.length)(w:au σ d x.body (aR x.params vs) H (nD Q)):FCall σ (d+1) n vs H Q :=
 let⟨f,fd,e,X⟩:=h;(af f e (sX oO rJ C X hl w))
end
def kl(l:Loc)(x:String)(v:V)(y:String):(l.put x v) y=if y=x then some v else l y:=rfl
def CM(l:Loc)(xs:List String)(y:String):(l.drop xs) y=if y∈".0"::xs then none else l y:=rfl
theorem ir{c:Bool}{A B:Prop}(h:c=true)(x:A):if c=true then A else B:=by rw[if_pos h];exact x
theorem fZ{c:Bool}{A B:Prop}(h:c=false)(x:B):if c=true then A else B:=by rw[if_neg (by rw[h];decide)];exact x
theorem OD{p:Prop}[Decidable p](h:¬p):(!decide p)=true:=by rw[E6 h];rfl
def Ea{H:AH}{Q:Bool->AH->Prop}{d:Nat}(h:Q true H):ya σ d none l H Q:=h
def Sq(σ:Sx)(d:Nat)(rest:List MS)(K:Fl->Loc->AH->Prop):Fl->Loc->AH->Prop:=λfl l H=>match fl with | .next=>au σ d rest l H K | .ret v=>K (.ret v) l H
def ce{H:AH}{d:Nat}{t:Tgt}{e:ME}(h:ba σ d e l H λv H1=>∃l',eW H1 t v l=some l'/\au σ d rest l' H1 K):au σ d (.asg (.tg t) e::rest) l H K:=h
theorem FB{H:AH}{d:Nat}{op:COp}{a b:ME}{x y:List MS}(h:ba σ d a l H λv H1=>ba σ d b l H1 λw H2=>eZ H2 op v w λt=>if t=true then au σ d x l H2 (Sq σ d rest K)else au σ d y l H2 (Sq σ d rest K)):au σ d (.if1 (.cmp1 op a b) x y::rest) l H K:=h
end
structure Txt(σ:Sx):Prop where
 ok:aO σ
 fHeap:σ.flds "Heap"=["bank","unions","edges","forest","known","above","waiting"]
 fBank:σ.flds "Bank"=["nodes","numbers","weights","depths"]
 fUnions:σ.flds "Unions"=["above","lots","merged"]
 fWalker:σ.flds "Walker"=["heap"]
 is_op:mO σ "is_op" xm
 is_variable:mO σ "is_variable" jH
 Bank_init:HasM σ "Bank" "__init__" me
 Bank_size:HasM σ "Bank" "size" mh
 Bank_take:HasM σ "Bank" "take" ml
 Bank_require:HasM σ "Bank" "require" iI
 Bank_op:HasM σ "Bank" "op" qC
 Bank_kids:HasM σ "Bank" "kids" mf
 Walker_init:HasM σ "Walker" "__init__" jG
 Walker_extended:HasM σ "Walker" "extended" fK
 Walker_found_in:HasM σ "Walker" "found_in" fL
 Walker_found:HasM σ "Walker" "found" iN
 Unions_init:HasM σ "Unions" "__init__" jD
 Unions_make:HasM σ "Unions" "make" jE
 Unions_size:HasM σ "Unions" "size" jF
 Unions_find:HasM σ "Unions" "find" jC
 Unions_merge:HasM σ "Unions" "merge" iM
 Unions_members:HasM σ "Unions" "members" gx
 Unions_classes:HasM σ "Unions" "classes" gw
 Heap_init:HasM σ "Heap" "__init__" mo
 Heap_size:HasM σ "Heap" "size" mu
 Heap_node:HasM σ "Heap" "node" mr
 Heap_add:HasM σ "Heap" "add" oA
 Heap_look_at:HasM σ "Heap" "look_at" iK
 Heap_find:HasM σ "Heap" "find" mm
 Heap_merge:HasM σ "Heap" "merge" kO
 Heap_join:HasM σ "Heap" "join" mq
 Heap_settle:HasM σ "Heap" "settle" jB
 Heap_classes:HasM σ "Heap" "classes" iJ
 Heap_members:HasM σ "Heap" "members" iL
 Heap_nodes_of:HasM σ "Heap" "nodes_of" ii
 law_draw:mO σ "_law_draw" oB
 law_close:mO σ "_law_close" mw
 law_one:mO σ "_law_one" qE
 law_put:mO σ "_law_put" qF
 law_pattern:mO σ "_law_pattern" jI
 law_names:mO σ "_law_names" mx
 law_home:mO σ "_law_home" oC
 law_due:mO σ "_law_due" qD
 cBank:∃C,σ.cls "Bank"=some C
 cUnions:∃C,σ.cls "Unions"=some C
 cHeap:∃C,σ.cls "Heap"=some C
 cWalker:∃C,σ.cls "Walker"=some C
section
variable{b:List MS}{i:ME}{a:Addr}
noncomputable abbrev iv(n:Nat):V:=.int (n:Int)
def Ev(σ:Sx)(l:Loc)(H:AH)(e:ME)(v:V):Prop:=∀(d:Nat)(Q:b8),Q v H->ba σ d e l H Q
def Evs(σ:Sx)(l:Loc)(H:AH)(e:MEs)(vs:List V):Prop:=∀(d:Nat)(Q:b9),Q vs H->dM σ d e l H Q
def EvT(σ:Sx)(l:Loc)(H:AH)(e:ME)(b:Bool):Prop:=∀(d:Nat)(Q:Bool->AH->Prop),Q b H->sD σ d e l H Q
section
variable{H:AH}{e e1 e2:ME}{es:MEs}{v w:V}{b:Bool}{d:Nat}{Q:b8}
theorem Ev.var(h:l x=some v):Ev σ l H (.var x) v:=λ_ _ q=>(af v h q)
def y4:=@Ev.var
theorem Ev.cst:Ev σ l H (.cst v) v:=λ_ _ q=>q
theorem Ev.attr{c f:String}{ps:List (String×V)}(B:Ev σ l H e (.ref a))(i:dt H a c dx ps)(hf:f∈σ.flds c)(F:ps.lookup f=some v):Ev σ l H (.attr e f) v :=λd _ q=>B d _ (kE i hf F q)
theorem Ev.idx(B:Ev σ l H e v)(hi:Ev σ l H i w){u:V}(h:∀Q,Q u H->vx H Q v w):Ev σ l H (.idx e i) u:=λd _ q=>B d _ (hi d _ (h _ q))
theorem Ev.len(B:Ev σ l H e v)(h:∀Q,Q w H->iT H Q .len v):Ev σ l H (.prim .len e) w:=λd _ q=>B d _ (h _ q)
theorem Ev.bin{op:BOp}{u:V}(B:Ev σ l H e v)(hi:Ev σ l H e2 w)(h:∀Q,Q u H->yf H Q op v w):Ev σ l H (.bin op e e2) u:=λd _ q=>B d _ (hi d _ (h _ q))
theorem Evs.nil:Evs σ l H .nil []:=λ_ _ q=>q
theorem Evs.cons(B:Ev σ l H e v)(hs:Evs σ l H es vs):Evs σ l H (.cons e es) (v::vs):=λd _ q=>B d _ (hs d _ q)
theorem Ev.tup(hs:Evs σ l H es vs):Ev σ l H (.tup es) (.tup vs):=λd _ q=>hs d _ q
theorem EvT.cmp{op:COp}(B:Ev σ l H e v)(hi:Ev σ l H e2 w)(h:∀Q:Bool->Prop,Q b->eZ H op v w Q):EvT σ l H (.cmp1 op e e2) b:=λd _ q=>B d _ (hi d _ (h _ q))
def y5:=@EvT.cmp
theorem Ev.cmpT{op:COp}(B:Ev σ l H e v)(hi:Ev σ l H e2 w)(h:∀Q:Bool->Prop,Q b->eZ H op v w Q):EvT σ l H (.cmp1 op e e2) b:=y5 B hi h
theorem Ev.cmp{op:COp}(B:Ev σ l H e v)(hi:Ev σ l H e2 w)(h:∀Q:Bool->Prop,Q b->eZ H op v w Q):Ev σ l H (.cmp1 op e e2) (.bool b):=λd _ q=>B d _ (hi d _ (h _ q))
def y6(h:EvT σ l H e b):EvT σ l H (.not1 e) (!b):=λd _ q=>h d _ q
theorem Sq.nil{fl:Fl}{H:AH}(h:K fl l H):Sq σ d [] K fl l H:=by cases fl <;> exact h
def lN(h:Ev σ l H e v)(k:au σ d rest (l.put x v) H K):au σ d (.asg (.tg (.nm x)) e::rest) l H K:=h d _ (af _ rfl k)
def cb(h:Ev σ l H e v)(k:K (.ret v) l H):au σ d (.ret e::rest) l H K:=h d _ k
theorem fz{a b:List MS}(h:EvT σ l H e true)(k:au σ d a l H (Sq σ d rest K)):au σ d (.if1 e a b::rest) l H K:=h d _ (by rw[if_pos rfl];exact k)
theorem dJ{a b:List MS}(h:EvT σ l H e false)(k:au σ d b l H (Sq σ d rest K)):au σ d (.if1 e a b::rest) l H K:=h d _ (by rw[if_neg D0];exact k)
theorem wr{c:ME}{b:List MS}(I:Nat->Loc->AH->Prop)(n:Nat)(h0:I n l H)(h:∀n l H,I n l H->(EvT σ l H c true/\∀B,(∀m l' H',m<n->I m l' H'->B .next l' H')->(∀v l' H',K (.ret v) l' H'->B (.ret v) l' H')->au σ d b l H B)\/(EvT σ l H c false/\au σ d rest l H K)) : au σ d (.whl c b::rest) l H K:=(af I ⟨n,h0⟩ (λn l H J=>by
 rcases h n l H J with⟨F,G⟩|⟨F,G⟩
 .refine F d _ ?_;rw[if_pos rfl];exact G _ (λm l' H' hm J=>(af m hm J)) λv l' H' k=>k
 .refine F d _ ?_;rw[if_neg D0];exact G))
variable{op:BOp}{p:Prim}{o:ME}{m f:String}{a:Addr}{c:String}{ps:List (String×V)}
theorem Ev.prim(B:Ev σ l H e v)(h:∀Q,Q w H->iT H Q p v):Ev σ l H (.prim p e) w:=λd _ q=>B d _ (h _ q)
def aB(B:Ev σ l H e v)(k:Q v H):ba σ d e l H Q:=B d Q k
def HE(h:ba σ d e l H λv H1=>ba σ d i l H1 λj H2=>vx H2 Q v j):ba σ d (.idx e i) l H Q:=h
def dK(h:dM σ d es l H λvs H1=>fresh H1 Q (.list vs)):ba σ d (.lst es) l H Q:=h
def aC{Q:b9}(h:ba σ d e l H λv H1=>dM σ d es l H1 λvs H2=>Q (v::vs) H2):dM σ d (.cons e es) l H Q:=h
def bQ{Q:b9}(h:Q [] H):dM σ d .nil l H Q:=h
theorem Eb(h:ba σ d e l H λv H1=>ba σ d o l H1 λov H2=>ba σ d i l H2 λiv H3=>∃a,ov=.ref a /\ ((∃vs n,H3 a=some (.list vs)/\iv=.int n/\0<=n/\n<vs.length/\vs.length<2^60/\au σ d rest l (H3.set a (.list (vs.set n.toNat v))) K)\/(∃kvs,H3 a=some (.dict kvs)/\keyFits kvs iv/\kvs.length<2^20/\au σ d rest l (H3.set a (.dict (dput kvs iv v))) K))):au σ d (.asg (.ix o i) e::rest) l H K:=h
theorem tT{H:AH}{x:Addr}{o o':AO}(h:H a=some o)(B:(H.set a o') x=none):H x=none:=by
 by_cases z:x=a
 .rw[z,AH.set_self]at B;exact sn B
 .rwa [r7 _ _ z]at B
def xY{t:Tgt}{b:List MS}(h:ba σ d e l H λv H1=>iF v H1 λsrc vs H1=>og src (λv l H k=>∃l',bm t v l=some l'/\au σ d b l' H k) vs l H1 (Sq σ d rest K)):au σ d (.for1 t (.exp e) b::rest) l H K:=h
def Hz{t:Tgt}{b:List MS}{x y:List V}(G:Ev σ l H e (.tup x))(hi:Ev σ l H e2 (.tup y))(B:x.length<=1000)(F:y.length<=1000)(h:og none (λv l H k=>∃l',bm t v l=some l'/\au σ d b l' H k) (ij x y) l H (Sq σ d rest K)):au σ d (.for1 t (.zip e e2) b::rest) l H K :=G d _ (hi d _ (re x y rfl rfl B F h))
def NW{x y:List MS}(hs:Evs σ l H es vs)(h:FCall σ d m vs H λv H2=>∃t,v=.bool t/\if t=true then au σ d x l H2 (Sq σ d rest K)else au σ d y l H2 (Sq σ d rest K)):au σ d (.if1 (.call m es) x y::rest) l H K:=h.elim λa e=>(af a e.1 (hs d _ e.2))
theorem wG{op:COp}{a b x y:ME}(h:ba σ d a l H λv H1=>ba σ d b l H1 λw H2=>eZ H2 op v w λt=>if t=true then ba σ d x l H2 Q else ba σ d y l H2 Q):ba σ d (.ite (.cmp1 op a b) x y) l H Q:=h
def BS(h:ba σ d e l H λv H1=>∃t,v=.bool t/\if t=true then ba σ d e2 l H1 Q else Q (.bool false) H1):ba σ d (.and2 e e2) l H Q:=h
theorem BV{op:COp}(h:ba σ d e l H λv H1=>ba σ d e2 l H1 λw H2=>eZ H2 op v w λt=>Q (.bool t) H2):ba σ d (.cmp1 op e e2) l H Q:=h
theorem EvT.cmp2{o1 o2:COp}{B:ME}{u:V}(F:Ev σ l H e v)(hi:Ev σ l H e2 w)(G:Ev σ l H B u)(h:∀Q:Bool->Prop,Q true->eZ H o1 v w Q)(h':∀Q:Bool->Prop,Q b->eZ H o2 w u Q):EvT σ l H (.cmp2 e o1 e2 o2 B) b:=λd _ q=>F d _ (hi d _ (h _ (ir rfl (G d _ (h' _ q)))))
def bP(h:ba σ d e l H λv H1=>iT H1 Q p v):ba σ d (.prim p e) l H Q:=h
theorem eI(h:ba σ d e l H λv H1=>ba σ d e2 l H1 λw H2=>yf H2 Q op v w):ba σ d (.bin op e e2) l H Q:=h
theorem hZ{k:RK}(ho:Ev σ l H o v)(r:qO H σ v m k)(hs:Evs σ l H es vs)(h:tN H Q σ d k v m vs):ba σ d (.meth o m es) l H Q:=ho d _ (af k r (hs d _ h))
def aS(ho:Ev σ l H o (.ref a))(i:dt H a c dx ps)(B:ps.lookup m=none)(hm:(σ.meth c m).isSome=true)(hs:Evs σ l H es vs)(h:MCall σ d c m (.ref a::vs) H Q):ba σ d (.meth o m es) l H Q :=hZ ho (cB i B hm) hs h
def BU(ho:Ev σ l H o (.ref a))(i:dt H a c dx ps)(B:ps.lookup m=none)(hm:(σ.meth c m).isSome=true)(hs:dM σ d es l H λvs H2=>MCall σ d c m (.ref a::vs) H2 Q):ba σ d (.meth o m es) l H Q :=ho d _ (af _ (cB i B hm) hs)
def eE(hs:Evs σ l H es vs)(h:FCall σ d m vs H Q):ba σ d (.call m es) l H Q:=h.elim λa e=>(af a e.1 (hs d _ e.2))
def eS(h:ba σ d e l H λv H1=>rU v/\au σ d rest l H1 K):au σ d (.expr e::rest) l H K:=h
def cM(h:ba σ d e l H λv H1=>K (.ret v) l H1):au σ d (.ret e::rest) l H K:=h
def rP{Q:b8}(ha:H a=some (.list vs))(hz:vs.length<2^20)(k:Q .none (H.set a (.list (vs++[v])))):xj H Q (.ref a) "append" [v]:=(bR a _ rfl ha (.inl ⟨rfl,(aN v rfl hz k)⟩))
theorem nq(ho:Ev σ l H o (.ref a))(ha:H a=some (.list vs))(B:ba σ d e l H λv H1=>xj H1 (λr H2=>rU r/\au σ d rest l H2 K) (.ref a) "append" [v]):au σ d (.expr (.meth o "append" (.cons e .nil))::rest) l H K :=ho d _ (af .list ⟨by decide,(eU a _ rfl ha)⟩ B)
def iX(ho:Ev σ l H o (.ref a))(ha:H a=some (.list vs))(B:Ev σ l H e v)(hz:vs.length<2^20)(k:au σ d rest l (H.set a (.list (vs++[v]))) K):au σ d (.expr (.meth o "append" (.cons e .nil))::rest) l H K :=nq ho ha (B d _ (rP ha hz ⟨trivial,k⟩))
theorem wz(ho:Ev σ l H o (.ref a))(ha:H a=some (.list vs)){b:Addr}{ws:List V}(G:Ev σ l H e (.ref b))(F:H b=some (.list ws))(B:a≠b)(hz:vs.length+ws.length<=2^20)(k:au σ d rest l (H.set a (.list (vs++ws))) K):au σ d (.expr (.meth o "extend" (.cons e .nil))::rest) l H K :=ho d _ (af .list ⟨by decide,a,vs,rfl,ha⟩ (G d _ (bR a _ rfl ha (.inr (.inl ⟨rfl,(Oc b ws rfl B F hz trivial k)⟩)))))
def wA(B:Ev σ l H e v)(ho:Ev σ l H o (.ref a))(hi:Ev σ l H i w)(ha:H a=some (.dict kvs))(hf:keyFits kvs w)(hz:kvs.length<2^20)(k:au σ d rest l (H.set a (.dict (dput kvs w v))) K):au σ d (.asg (.ix o i) e::rest) l H K :=B d _ (ho d _ (hi d _ (af a rfl (.inr (iw kvs ha hf hz k)))))
theorem Hu(F:Ev σ l H e v)(ho:Ev σ l H o (.ref a)){n:Int}(hi:Ev σ l H i (.int n))(ha:H a=some (.list vs))(h0:0<=n)(B:n<vs.length)(hz:vs.length<2^60)(k:au σ d rest l (H.set a (.list (vs.set n.toNat v))) K):au σ d (.asg (.ix o i) e::rest) l H K :=F d _ (ho d _ (hi d _ (af a rfl (.inl (Oc vs n ha rfl h0 B hz k)))))
theorem HF{x:V}(ho:Ev σ l H o (.ref a))(ha:H a=some (.list (vs++[x])))(hz:vs.length<2^20)(k:Q x (H.set a (.list vs))):ba σ d (.meth o "pop" .nil) l H Q :=hZ (k:=.list) ho ⟨by decide,a,_,rfl,ha⟩ .nil (bR a _ rfl ha (.inr (.inr (.inl ⟨rfl,(kB vs x rfl rfl (by rw[B7];exact hz) k)⟩))))
def Keep(l:Loc)(x:String)(l':Loc):Prop:=∀y,y≠x->l' y=l y
def Keep.refl:Keep l x l:=λ_ _=>rfl
theorem Keep.put{l':Loc}(h:Keep l x l'):Keep l x (l'.put x v):=λy B=>(if_neg B).trans (h y B)
theorem ty{b:List MS}:∀{xs:List V}{l':Loc},(∀v∈xs,∀(l':Loc)(F:Fl->Loc->AH->Prop),Keep l x l'->(∀B,Keep l x B->F .next B H)->au σ d b (l'.put x v) H F)->dC src H->Keep l x l'->{K:Fl->Loc->AH->Prop}->(∀l',Keep l x l'->K .next l' H) -> og src (λv l H k=>∃l',bm (.nm x) v l=some l'/\au σ d b l' H k) xs l' H K
 | [],_,_,hs,h,_,k=>⟨hs,k _ h⟩
 |_::_,_,G,hs,h,_,k=>⟨hs,(af _ rfl (G _ y7 _ _ h λ_ h=>ty (λv J=>G v (y9 _ J)) hs h k))⟩
def Ht{it:ME}{b:List MS}(hi:Ev σ l H it (.tup vs))(hz:vs.length<=2^20)(G:∀v∈vs,∀(l':Loc)(F:Fl->Loc->AH->Prop),Keep l x l'->(∀B,Keep l x B->F .next B H)->au σ d b (l'.put x v) H F)(k:∀l',Keep l x l'->au σ d rest l' H K):au σ d (.for1 (.nm x) (.exp it) b::rest) l H K :=hi d _ ⟨hz,ty (src:=none) G trivial Keep.refl k⟩
end
end
section
variable{a:Addr}
noncomputable abbrev Nd:=String×List Nat
noncomputable def ak(nd:Nd):V:=.tup (.str nd.1::nd.2.map iv)
noncomputable def oH(l:List Nd):List (V×V):=l.zipIdx.map λp=>(ak p.1,iv p.2)
structure HD where
 hp:Addr
 hd:Addr
 bp:Addr
 bd:Addr
 up:Addr
 ud:Addr
 ep:Addr
 fp:Addr
 kp:Addr
 ap:Addr
 wp:Addr
 np:Addr
 mp:Addr
 qp:Addr
 dp:Addr
 ua:Addr
 lp:Addr
 gp:Addr
 nodes:List Nd
 nums:List (V×V)
 ws:List Int
 ds:List Int
 par:List Nat
 lots:List (Addr×List Nat)
 mrg:List V
 edg:List V
 frs:List V
 known:List (Nd×Nat)
 ab:List (Nat×Addr×List Nat)
 wait:List Nat
 rep:List Nat
 M:Nat
namespace HD
variable(D:HD)
noncomputable abbrev sNodes(k:List Nd):HD:={ D with nodes:=k }
noncomputable abbrev sNums(k:List (V×V)):HD:={ D with nums:=k }
noncomputable abbrev sWs(k:List Int):HD:={ D with ws:=k }
noncomputable abbrev sDs(k:List Int):HD:={ D with ds:=k }
noncomputable abbrev sPar(k:List Nat):HD:={ D with par:=k }
noncomputable abbrev sLots(k:List (Addr×List Nat)):HD:={ D with lots:=k }
noncomputable abbrev sMrg(k:List V):HD:={ D with mrg:=k }
noncomputable abbrev sEdg(k:List V):HD:={ D with edg:=k }
noncomputable abbrev sFrs(k:List V):HD:={ D with frs:=k }
noncomputable abbrev sKnown(k:List (Nd×Nat)):HD:={ D with known:=k }
noncomputable abbrev sAb(k:List (Nat×Addr×List Nat)):HD:={ D with ab:=k }
noncomputable abbrev sWait(k:List Nat):HD:={ D with wait:=k }
noncomputable abbrev sRep(k:List Nat):HD:={ D with rep:=k }
noncomputable abbrev sM(k:Nat):HD:={ D with M:=k }
noncomputable abbrev n:Nat:=D.nodes.length
noncomputable def r(i:Nat):Nat:=D.rep.getD i 0
noncomputable def pr(i:Nat):Nat:=D.par.getD i 0
noncomputable def roots:List Nat:=(List.range D.n).filter λi=>D.r i=i
noncomputable def mem(c:Nat):List Nat:=(List.range D.n).filter λi=>D.r i=c
noncomputable def op(i:Nat):String:=(D.nodes.getD i ("",[])).1
noncomputable def kids(i:Nat):List Nat:=(D.nodes.getD i ("",[])).2
noncomputable def canon(i:Nat):Nd:=(D.op i,(D.kids i).map D.r)
noncomputable def kv:List (V×V):=D.known.map λp=>(ak p.1,iv p.2)
noncomputable def abv:List (V×V):=D.ab.map λp=>(iv p.1,.ref p.2.1)
noncomputable def tot:Nat:=(D.ab.map λp=>p.2.2.length).sum
noncomputable abbrev fo:Addr×List Nat->Addr×AO:=λp=>(p.1,.list (p.2.map iv))
noncomputable abbrev fa:Nat×Addr×List Nat->Addr×AO:=λp=>(p.2.1,.list (p.2.2.map iv))
noncomputable def hhL(F:List V)(B:List (V×V)):List (Addr×AO) :=
 [(D.hp,.inst "Heap" D.hd),(D.hd,.dict (fl [("bank",.ref D.bp),("unions",.ref D.up),("edges",.ref D.ep),("forest",.ref D.fp),("known",.ref D.kp),("above",.ref D.ap),("waiting",.ref D.wp)])),
  (D.bp,.inst "Bank" D.bd),(D.bd,.dict (fl [("nodes",.ref D.np),("numbers",.ref D.mp),("weights",.ref D.qp),("depths",.ref D.dp)])),
  (D.up,.inst "Unions" D.ud),(D.ud,.dict (fl [("above",.ref D.ua),("lots",.ref D.lp),("merged",.ref D.gp)])),
  (D.np,.list (D.nodes.map ak)),(D.mp,.dict D.nums),(D.qp,.list (D.ws.map .int)),(D.dp,.list (D.ds.map .int)),
  (D.ua,.list (D.par.map iv)),(D.lp,.list F),(D.gp,.list D.mrg),(D.ep,.list D.edg),(D.fp,.list D.frs),
  (D.kp,.dict D.kv),(D.ap,.dict B),(D.wp,.list (D.wait.map iv))]
noncomputable def objs:List (Addr×AO):=D.hhL (D.lots.map λp=>.ref p.1) D.abv++(D.lots.map fo++D.ab.map fa)
noncomputable def adr:List Addr:=D.objs.map (·.1)
structure At(H:AH):Prop where
 all:∀p∈D.objs,H p.1=some p.2
 nd:D.adr.Nodup
structure UOk:Prop where
 nz:D.n<=60
 lpar:D.par.length=D.n
 llots:D.lots.length=D.n
 rle:∀i,i<D.n->D.r i<=i/\D.r (D.r i)=D.r i
 pr:∀i,i<D.n->(D.pr i=i->D.r i=i)/\(D.pr i≠i->D.pr i<i/\D.r (D.pr i)=D.r i)
 lots:∀(i:Nat)(p:Addr×List Nat),D.lots[i]?=some p->D.r i=i->p.2.Perm (D.mem i)
 mrgz:D.mrg.length<2^20
structure Ok:Prop where
 nz:D.n<=60
 lws:D.ws.length=D.n
 lds:D.ds.length=D.n
 lpar:D.par.length=D.n
 llots:D.lots.length=D.n
 lrep:D.rep.length=D.n
 kids:∀(i:Nat)(nd:Nd),D.nodes[i]?=some nd->(∀k∈nd.2,k<i)/\nd.1∈aG/\nd.2.length<=2
 ndn:D.nodes.Nodup
 nums:D.nums=oH D.nodes
 rle:∀i,i<D.n->D.r i<=i/\D.r (D.r i)=D.r i
 pr:∀i,i<D.n->(D.pr i=i->D.r i=i)/\(D.pr i≠i->D.pr i<i/\D.r (D.pr i)=D.r i)
 lots:∀(i:Nat)(p:Addr×List Nat),D.lots[i]?=some p->D.r i=i->p.2.Perm (D.mem i)
 known:∀p∈D.known,p.2<D.n
 abk:(D.ab.map (·.1)).Nodup/\∀i,i∈D.ab.map (·.1)↔i∈D.roots
 abm:∀p∈D.ab,∀x∈p.2.2,x<D.n
 tot:D.tot<=2*D.n
 wait:∀x∈D.wait,x<D.n
 cnt:D.known.length+D.wait.length+200*D.roots.length<=D.n+200*D.n
 edg:D.edg.length+D.roots.length<=D.n+D.M/\D.frs.length+D.roots.length<=D.n/\D.mrg.length+D.roots.length<=D.n
 Mz:D.M<=100
variable{D}
def At.at_{H:AH}(A:D.At H)(i:Nat){o:AO}(h:D.objs[i]?=some (a,o)):H a=some o:=A.all (a,o) (B0 h)
section
variable{H:AH}(A:D.At H)
include A
def At.heap:dt H D.hp "Heap" D.hd [("bank",.ref D.bp),("unions",.ref D.up),("edges",.ref D.ep),("forest",.ref D.fp),("known",.ref D.kp),("above",.ref D.ap),("waiting",.ref D.wp)]:=⟨A.at_ 0 rfl,A.at_ 1 rfl⟩
def At.bank:dt H D.bp "Bank" D.bd [("nodes",.ref D.np),("numbers",.ref D.mp),("weights",.ref D.qp),("depths",.ref D.dp)]:=⟨A.at_ 2 rfl,A.at_ 3 rfl⟩
def At.uni:dt H D.up "Unions" D.ud [("above",.ref D.ua),("lots",.ref D.lp),("merged",.ref D.gp)]:=⟨A.at_ 4 rfl,A.at_ 5 rfl⟩
theorem At.nodes:H D.np=some (.list (D.nodes.map ak)):=A.at_ 6 rfl
theorem At.nums:H D.mp=some (.dict D.nums):=A.at_ 7 rfl
theorem At.ws:H D.qp=some (.list (D.ws.map .int)):=A.at_ 8 rfl
theorem At.ds:H D.dp=some (.list (D.ds.map .int)):=A.at_ 9 rfl
theorem At.par:H D.ua=some (.list (D.par.map iv)):=A.at_ 10 rfl
theorem At.lots:H D.lp=some (.list (D.lots.map λp=>.ref p.1)):=A.at_ 11 rfl
theorem At.mrg:H D.gp=some (.list D.mrg):=A.at_ 12 rfl
theorem At.edg:H D.ep=some (.list D.edg):=A.at_ 13 rfl
theorem At.frs:H D.fp=some (.list D.frs):=A.at_ 14 rfl
def At.known:H D.kp=some (.dict D.kv):=A.at_ 15 rfl
def At.ab:H D.ap=some (.dict D.abv):=A.at_ 16 rfl
theorem At.wait:H D.wp=some (.list (D.wait.map iv)):=A.at_ 17 rfl
def At.lot:∀p∈D.lots,H p.1=some (.list (p.2.map iv)):=λp hp=>A.all (_,_) (G1 _ (G3 _ (w3.mpr (af p hp rfl))))
def At.abl:∀p∈D.ab,H p.2.1=some (.list (p.2.2.map iv)):=λp hp=>A.all (_,_) (G1 _ (G1 _ (w3.mpr (af p hp rfl))))
def At.ext(x:Ext H H'):D.At H':=⟨λp hp=>x _ _ (A.all p hp),A.nd⟩
end
end HD
theorem Dm(f:α->V)(l:List α){x:α}(h:l[i]?=some x):Dl (l.map f) ((i:Nat):Int)=some (f x):=by unfold Dl;rw[if_pos Lp];simp[h]
theorem cY{H:AH}{Q:b8}{f:α->V}{l:List α}{x:α}(h:H a=some (.list (l.map f)))(hi:l[i]?=some x)(B:i<1000)(q:Q (f x) H):vx H Q (.ref a) (iv i) :=.inl (Od _ (i:Int) (f x) h rfl (by rw[Int.natAbs_natCast];exact E9 B (by decide)) (Dm f l hi) q)
def cX{H:AH}{Q:b8}{w x:V}(h:H a=some (.dict kvs))(hf:keyFits kvs w)(B:ay kvs w=some x)(q:Q x H):vx H Q (.ref a) w:=.inr (kB kvs x h hf B q)
theorem eK{l:List α}(d:α)(h:i<l.length):l[i]?=some (l.getD i d):=by rw[C9,G2 h];rfl
theorem oD(H:AH)(i j:Int)(Q:Bool->Prop)(q:Q (!decide (i=j))):eZ H .ne (.int i) (.int j) Q :=(cH ⟨rfl,by exact qI⟩ ⟨rfl,by exact qI⟩ (by rw[hY];exact q))
theorem rF(H:AH)(i j:Int)(Q:Bool->Prop)(q:Q (decide (i=j))):eZ H .eq (.int i) (.int j) Q :=(cH ⟨rfl,by exact qI⟩ ⟨rfl,by show 0<=8;exact qI⟩ (by rw[hY];exact q))
theorem gJ{H:AH}{Q:Bool->Prop}(q:Q (decide (i=j))):eZ H .eq (iv i) (iv j) Q:=rF _ _ _ _ (by rw[show decide ((i:Int)=(j:Int))=decide (i=j)from decide_eq_decide.mpr ⟨Ra,C3 _⟩];exact q)
section
variable{H:AH}{Q:b8}{D:HD}
theorem HD.Ok.u(O:D.Ok):D.UOk:=⟨O.nz,O.lpar,O.llots,O.rle,O.pr,O.lots,by obtain B:=O.edg.2.2;obtain B:=O.nz;exact Lq (by assumption) B⟩
def Fy(O:D.UOk)(h:i<D.n):D.r i<D.n:=A6 (O.rle i h).1 h
theorem xl(O:D.UOk)(h:i<D.n):∃p,D.lots[i]?=some p:=by
 obtain B:i<D.lots.length:=by rw[O.llots];exact h
 exact⟨_,G2 B⟩
def oT(O:D.Ok)(h:i<D.n):D.r i<D.n:=A6 (O.rle i h).1 h
theorem pO{n:Nat}(h:i<n)(B:n<=60):i<1000:=E9 h (u0 B (by decide))
theorem AR{a:Nat}(h:a≠b):(!decide ((a:Int)=(b:Int)))=true:=by rw[E6 (show ¬((a:Int)=b) fromλe=>h (Ra e))];rfl
theorem vL{a:Nat}(h:a=b):(!decide ((a:Int)=(b:Int)))=false:=by rw[E4 (show((a:Int)=b)from C3 Int.ofNat h)];rfl
theorem fU(T:Txt σ){f:String}(h:f∈["above","lots","merged"]):f∈σ.flds "Unions":=by rw[T.fUnions];exact h
theorem fH(T:Txt σ){f:String}(h:f∈["bank","unions","edges","forest","known","above","waiting"]):f∈σ.flds "Heap":=by rw[T.fHeap];exact h
theorem fB(T:Txt σ){f:String}(h:f∈["nodes","numbers","weights","depths"]):f∈σ.flds "Bank":=by rw[T.fBank];exact h
section
variable{e:ME}{f:String}{v:V}
def lx(T:Txt σ)(A:D.At H)(B:Ev σ l H e (.ref D.up))(hf:f∈["above","lots","merged"])(h:[("above",V.ref D.ua),("lots",.ref D.lp),("merged",.ref D.gp)].lookup f=some v):Ev σ l H (.attr e f) v:=B.attr A.uni (fU T hf) h
def mQ(T:Txt σ)(A:D.At H)(B:Ev σ l H e (.ref D.bp))(hf:f∈["nodes","numbers","weights","depths"])(h:[("nodes",V.ref D.np),("numbers",.ref D.mp),("weights",.ref D.qp),("depths",.ref D.dp)].lookup f=some v):Ev σ l H (.attr e f) v:=B.attr A.bank (fB T hf) h
def iq(T:Txt σ)(A:D.At H)(B:Ev σ l H e (.ref D.hp))(hf:f∈["bank","unions","edges","forest","known","above","waiting"])(h:[("bank",V.ref D.bp),("unions",.ref D.up),("edges",.ref D.ep),("forest",.ref D.fp),("known",.ref D.kp),("above",.ref D.ap),("waiting",.ref D.wp)].lookup f=some v):Ev σ l H (.attr e f) v:=B.attr A.heap (fH T hf) h
def lv(B:Ev σ l H e (.tup (v::vs)))(hz:vs.length<1000):Ev σ l H (.slc e (some 1) none) (.tup vs):=λd _ q=>B d _ (FE hz (P1 _) rfl rfl q)
theorem dj{n:Nat}(B:Ev σ l H e (.ref a))(ha:H a=some (.list vs))(hl:vs.length=n)(hz:n<=2^21):Ev σ l H (.prim .len e) (iv n):=by subst hl;exact B.prim λ_ q=>(aN vs ha hz q)
end
theorem Ge(O:D.UOk)(T:Txt σ)(A:D.At H){x:Nat}(B:x<D.n)(F:l "self"=some (.ref D.up))(G:l "a"=some (iv x)):Ev σ l H (.idx (.attr c7 "above") i7) (iv (D.pr x)) :=(lx T A (.var F) (by decide) rfl).idx (.var G) λ_ q=>cY A.par (eK 0 (by rw[O.lpar];exact B)) (pO B O.nz) q
theorem rA(T:Txt σ)(A:D.At H)(O:D.UOk){a:Nat}(ha:a<D.n)(q:Q (iv (D.r a)) H):MCall σ 1 "Unions" "find" [.ref D.up,iv a] H Q:=by
 refine aE T.ok T.Unions_find rfl (wr (λm l H'=>H'=H/\l "self"=some (.ref D.up)/\∃x,x<=m/\x<D.n/\D.r x=D.r a/\l "a"=some (iv x)) a (cH rfl rfl (iw a (A8 _) ha rfl rfl)) ?_);rintro m l _ ⟨rfl,J,x,Y,B,hr,G⟩;obtain p:=O.pr x B;obtain e:=Ge O T A B J G;by_cases F:D.pr x=x
 .exact .inr ⟨e.cmpT (.var G) λ_ q=>oD _ _ _ _ (by rw[vL F];exact q),cb (.var G) (by rw[<- hr,p.1 F]at q;exact q)⟩
 .exact .inl ⟨e.cmpT (.var G) λ_ q=>oD _ _ _ _ (by rw[AR F];exact q),λZ k _=>lN e (k _ _ _ (E9 (p.2 F).1 Y) (cH rfl J (iw _ (A8 _) (E7 (p.2 F).1 B) ((p.2 F).2.trans hr) rfl)))⟩
end
end
variable{N:List Nd}{D':HD}{nd:Nd}
section
variable{it:ME}
theorem Ext.setc{H:AH}{c:Addr}(hc:H0 c=none)(x:Ext H0 H)(o:AO):Ext H0 (H.set c o):=λa y e=>by
 rw[r7]
 .exact x a y e
 .rintro rfl;rw[hc]at e;exact ns e
theorem qi{step:V->AH->(AH->Prop)->Prop}{c:Addr}(hsrc:dC src H0)(f:α->V)(g:α->List V):∀(vs:List α)(ws:List V)(H:AH){K:AH->Prop},Ext H0 H->H c=some (.list ws)->ws.length+(vs.flatMap g).length<2^20 -> (∀x∈vs,∀(H':AH)(ws':List V)(k:AH->Prop),Ext H0 H'->H' c=some (.list ws')->ws'.length+(g x).length<2^20->(∀H'',Ext H0 H''->H'' c=some (.list (ws'++g x))->k H'')->step (f x) H' k) -> (∀H',Ext H0 H'->H' c=some (.list (ws++vs.flatMap g))->K H')->fh src step (vs.map f) H K
 | [],ws,H,K,x,hc,hl,hs,G=>⟨by cases src with
   |none=>trivial
   |some p=>exact x _ _ hsrc,G H x (by simpa using hc)⟩
 |v::vs,ws,H,K,x,hc,hl,hs,G=>by
  have F:ws.length+((g v).length+(vs.flatMap g).length)<2^20:=by simpa[List.flatMap_cons]using hl
  refine⟨by cases src with
   |none=>trivial
   |some p=>exact x _ _ hsrc,hs v y7 H ws _ x hc (Lr F) λH'' O B=>?_⟩
  refine qi hsrc f g vs (ws++g v) H'' O B (by rw[B7];exact Ls F) (λy Q=>hs y (y9 _ Q)) λH' x' J=>G H' x' ?_;rw[J,K8,K7]
theorem qU{H:AH}(x:Ext H H')(h:dC src H):dC src H':=by
 rcases src with _|p
 .trivial
 .exact x _ _ h
section
variable{H:AH}{d:Nat}{Q:b8}
theorem je{K:Addr->AH->Prop}{e:ME}{cn:Option ME}(xs:List α)(f g:α->V)(p:α->Bool)(hs:dC src H)(hz:xs.length<2^20) (hp:∀v∈xs,∀(H':AH)(J:Bool->AH->Prop),Ext H H'->J (p v) H'->ya σ d cn ((l.drop [x]).put x (f v)) H' J) (he:∀v∈xs,p v=true->∀(H':AH)(J:b8),Ext H H'->(∀H'',Ext H' H''->J (g v) H'')->ba σ d e ((l.drop [x]).put x (f v)) H' J) (q:∀c H',Ext H H'->H c=none->H' c=some (.list ((xs.filter p).map g))->K c H') : fresh H (λv H2=>∃c,v=.ref c/\fh src (λv H' k=>∃l',bm (.nm x) v (l.drop [x])=some l'/\ya σ d cn l' H' λok H''=>if ok=true then ba σ d e l' H'' λv H3=>∃vs,H3 c=some (.list vs)/\vs.length<2^20/\k (H3.set c (.list (vs++[v])))else k H'') (xs.map f) H2 λH3=>K c H3) (.list []):=by
 intro c hc;refine(af c rfl ?_);obtain key:∀(ys:List α)(B:List V)(H2:AH),(∀y∈ys,y∈xs)->Ext H H2->H2 c=some (.list B)->B.length+ys.length<2^20->(∀H3,Ext H H3->H3 c=some (.list (B++(ys.filter p).map g))->K c H3) ->
   fh src (λv H' k=>∃l',bm (.nm x) v (l.drop [x])=some l'/\ya σ d cn l' H' λok H''=>if ok=true then ba σ d e l' H'' λv H3=>∃vs,H3 c=some (.list vs)/\vs.length<2^20/\k (H3.set c (.list (vs++[v])))else k H'') (ys.map f) H2 λH3=>K c H3:=by
  intro ys;induction ys with
  |nil=>exactλB H2 _ F Q _ k=>⟨qU F hs,k H2 F (by rw[Q];exact C3 (λl=>some (AO.list l)) (H8 B).symm)⟩
  |cons y ys ih =>
   intro B H2 hm F Q hz k;obtain hy:=hm y y7;have O:∀z∈ys,z∈xs:=λz h=>hm z (y9 _ h);have ad:B.length<2^20:=A6 (G5 _ _) hz;refine⟨qU F hs,(af _ rfl (hp y hy H2 _ F ?_))⟩;cases G:p y with
   |true =>
    refine ir rfl (he y hy G H2 _ F λH3 Y=>(aN B (Y _ _ Q) ad (ih (B++[g y]) _ O ((F.trans' Y).setc hc _) (AH.set_self _ _ _) ?_ λH4 x4 Z=>k H4 x4 ?_)))
    .rw[B7,O7,RL [g y].length];exact hz
    .rw[Z,K7,List.filter_cons_of_pos G];rfl
   |false =>refine fZ rfl (ih B H2 O F Q (Nat.lt_of_succ_lt hz) λH4 x4 Z=>k H4 x4 ?_);rw[Z,List.filter_cons_of_neg (by rw[G];decide)]
 exact key xs [] _ (λ_ h=>h) (y3 _ hc) (AH.set_self _ _ _) (by rw[List.length_nil,Q0];exact hz) λH3 Y h3=>q c H3 Y hc h3
def yx(l:List α):l.filter (λ_=>true)=l:=List.filter_eq_self.mpr λ_ _=>rfl
theorem ff{K:Addr->AH->Prop}{e:ME}(xs:List α)(f g:α->V)(hs:dC src H)(hz:xs.length<2^20) (F:∀v∈xs,∀(H':AH)(B:b8),Ext H H'->(∀H'',Ext H' H''->B (g v) H'')->ba σ d e ((l.drop [x]).put x (f v)) H' B) (q:∀c H',Ext H H'->H c=none->H' c=some (.list (xs.map g))->K c H') : fresh H (λv H2=>∃c,v=.ref c/\fh src (λv H' k=>∃l',bm (.nm x) v (l.drop [x])=some l'/\ya σ d none l' H' λok H''=>if ok=true then ba σ d e l' H'' λv H3=>∃vs,H3 c=some (.list vs)/\vs.length<2^20/\k (H3.set c (.list (vs++[v])))else k H'') (xs.map f) H2 λH3=>K c H3) (.list []) :=je xs f g (λ_=>true) hs hz (λ_ _ _ _ _ k=>k) (λv G _=>F v G) λc H' x h0 h=>q c H' x h0 (by rw[yx]at h;exact h)
def nA{e:ME}(xs:List α)(f g:α->V)(hi:Ev σ l H it (.tup (xs.map f)))(hz:xs.length<2^20) (F:∀v∈xs,∀(H':AH)(B:b8),Ext H H'->(∀H'',Ext H' H''->B (g v) H'')->ba σ d e ((l.drop [x]).put x (f v)) H' B) (q:∀c H',Ext H H'->H c=none->H' c=some (.list (xs.map g))->Q (.ref c) H'):ba σ d (.comp e (.one (.nm x) (.exp it) none)) l H Q :=hi d _ ⟨u0 (u4 (u7 f)) (D5 hz),ff (src:=none) xs f g trivial hz F q⟩
theorem BW{e:ME}{cn:Option ME}(h:ba σ d it l H λv H1=>∃n,v=.int n/\0<=n/\n<=1000/\fresh H1 (λv H2=>∃c,v=.ref c/\fh none (λv H' k=>∃l',bm (.nm x) v (l.drop [x])=some l'/\ya σ d cn l' H' λok H''=>if ok=true then ba σ d e l' H'' λv H3=>∃vs,H3 c=some (.list vs)/\vs.length<2^20/\k (H3.set c (.list (vs++[v])))else k H'') (kr n.toNat) H2 λH3=>Q (.ref c) H3) (.list [])):ba σ d (.comp e (.one (.nm x) (.rng it) cn)) l H Q:=h
def uT{e:ME}{cn:Option ME}(h:ba σ d it l H λv H1=>iF v H1 λsrc vs H1=>fresh H1 (λv H2=>∃c,v=.ref c/\fh src (λv H' k=>∃l',bm (.nm x) v (l.drop [x])=some l'/\ya σ d cn l' H' λok H''=>if ok=true then ba σ d e l' H'' λv H3=>∃vs,H3 c=some (.list vs)/\vs.length<2^20/\k (H3.set c (.list (vs++[v])))else k H'') vs H2 λH3=>Q (.ref c) H3) (.list [])):ba σ d (.comp e (.one (.nm x) (.exp it) cn)) l H Q:=h
def ja{e:ME}(h:ba σ d it l H λv H1=>iF v H1 λsrc vs H1=>fresh H1 (λv H2=>∃c,v=.ref c/\fh src (λv H' k=>∃l',bm (.nm x) v (l.drop [x])=some l'/\ya σ d none l' H' λok H''=>if ok=true then ba σ d e l' H'' λv H3=>∃vs,H3 c=some (.list vs)/\vs.length<2^20/\k (H3.set c (.list (vs++[v])))else k H'') vs H2 λH3=>Q (.ref c) H3) (.list [])):ba σ d (.comp e (.one (.nm x) (.exp it) none)) l H Q:=h
end
theorem qM(i:Int):gf (.int i):=⟨rfl,by exact qI⟩
theorem jo(s:String):gf (.str s):=⟨rfl,by exact qI⟩
theorem mJ(l:List Nat):bx (l.map iv)=0:=by
 induction l with
 |nil=>rfl
 |cons a l B=>show max 0 (bx (l.map iv))=0;rw[B];rfl
theorem vS(l:List Nat):bO (l.map iv)=true:=by
 induction l with
 |nil=>rfl
 |cons a l B=>show(true&&bO (l.map iv))=true;rw[B];rfl
theorem ow(l:List Nat):bz (l.map iv)=true:=by
 induction l with
 |nil=>rfl
 |cons a l B=>show(true&&bz (l.map iv))=true;rw[B];rfl
theorem cD(nd:Nd):aQ (ak nd)=true/\aD (ak nd)=1/\cV (ak nd)=2:=by
 obtain B:aQ (ak nd)=true:=by show(true&&bz (nd.2.map iv))=true;rw[ow];rfl
 obtain F:aD (ak nd)=1:=by show max 0 (bx (nd.2.map iv))+1=1;rw[mJ];rfl
 refine(cH B F ?_);unfold ak at *;rw[gr,B,F];rfl
section
variable{H:AH}{Q:b8}{D:HD}
def kQ(O:D.Ok)(h:i<D.n):D.nodes[i]?=some (D.op i,D.kids i):=eK ("",[]) h
theorem De{n:Nat}(h:n<=60):n<=2^21:=u0 h (by decide)
theorem Op(T:Txt σ)(A:D.At H)(O:D.Ok)(ha:a<D.n)(q:Q (.str (D.op a)) H):MCall σ 1 "Bank" "op" [.ref D.bp,iv a] H Q :=aE T.ok T.Bank_op rfl (cb (((mQ T A (.var rfl) (by decide) rfl).idx (.var rfl) λ_ q=>cY A.nodes (kQ O ha) (pO ha O.nz) q).idx (w:=iv 0) .cst λ_ q=>(kB 0 _ rfl (by decide) rfl q)) q)
def dE(O:D.Ok)(h:i<D.n):∀k∈D.kids i,k<i:=(O.kids i _ (kQ O h)).1
def kids_len(O:D.Ok)(h:i<D.n):(D.kids i).length<=2:=(O.kids i _ (kQ O h)).2.2
theorem AJ{f:α->V}{l:List α}(h:l.length<=2):(l.map f).length<1000:=by rw[u7];exact A6 h (by decide)
theorem FM(T:Txt σ)(A:D.At H)(O:D.Ok)(ha:a<D.n)(q:Q (.tup ((D.kids a).map iv)) H):MCall σ 1 "Bank" "kids" [.ref D.bp,iv a] H Q :=aE T.ok T.Bank_kids rfl (cb (lv ((mQ T A (.var rfl) (by decide) rfl).idx (.var rfl) λ_ q=>cY A.nodes (kQ O ha) (pO ha O.nz) q) (AJ (kids_len O ha))) q)
theorem Cv(T:Txt σ)(A:D.At H)(O:D.Ok)(q:Q (iv D.n) H):MCall σ 1 "Bank" "size" [.ref D.bp] H Q :=aE T.ok T.Bank_size rfl (cb (dj (mQ T A (.var rfl) (by decide) rfl) A.nodes (u7 _) (De O.nz)) q)
theorem wL(T:Txt σ)(A:D.At H)(hl:D.par.length=k)(hk:k<=1000)(q:Q (iv k) H):MCall σ 1 "Unions" "size" [.ref D.up] H Q :=aE T.ok T.Unions_size rfl (cb (dj (lx T A (.var rfl) (by decide) rfl) A.par ((u7 _).trans hl) (u0 hk (by decide))) q)
theorem Cz(T:Txt σ)(A:D.At H)(O:D.Ok)(q:Q (iv D.n) H):MCall σ 2 "Heap" "size" [.ref D.hp] H Q :=aE T.ok T.Heap_size rfl (cM (aS (iq T A (.var rfl) (by decide) rfl) A.bank rfl T.Bank_size.some .nil (Cv T A O q)))
theorem kH(T:Txt σ)(A:D.At H)(O:D.Ok)(ha:a<D.n)(q:Q (iv (D.r a)) H):MCall σ 2 "Heap" "find" [.ref D.hp,iv a] H Q :=aE T.ok T.Heap_find rfl (cM (aS (iq T A (.var rfl) (by decide) rfl) A.uni rfl T.Unions_find.some (.cons (.var rfl) .nil) (rA T A O.u ha q)))
theorem zT(T:Txt σ)(A:D.At H)(O:D.Ok)(ha:a<D.n)(q:∀H',Ext H H'->Q (ak (D.canon a)) H'):MCall σ 3 "Heap" "node" [.ref D.hp,iv a] H Q:=by obtain F:=kids_len O ha;obtain J:Ev σ (aR ["self","n"] [.ref D.hp,iv a]) H (.attr c7 "bank") (.ref D.bp):=iq T A (.var rfl) (by decide) rfl;obtain hl:((D.kids a).map (λi=>iv (D.r i))).length<=2:=u0 (u4 (u7 _)) F;refine aE T.ok T.Heap_node rfl (cM (aS J A.bank rfl T.Bank_op.some (.cons (.var rfl) .nil) ((Op T A O ha ?_).room (Rz 1))));refine bP (ja (aS J A.bank rfl T.Bank_kids.some (.cons (.var rfl) .nil) ((FM T A O ha ?_).room (Rz 1))));refine⟨u0 (u4 (u7 _)) (u0 F (by decide)),ff (src:=none) (D.kids a) iv (λi=>iv (D.r i)) trivial (A6 F (by decide)) (λi hi H' Z Y k=>aS (.var rfl) (A.ext Y).heap rfl T.Heap_find.some (.cons (.var rfl) .nil) (kH T (A.ext Y) O (E7 (dE O ha i hi) ha) (k H' (y0 _)))) λc H' x' _ G=>?_⟩;refine(iw _ G (u0 hl (by decide)) (u0 (I6 hl 1) (by decide)) ?_);obtain B:=q H' x';unfold ak HD.canon at B;rw[J0]at B;exact B
end
end
theorem nQ:∀(l m:List Nat),fG (l.map iv) (m.map iv)=true
 | [],m=>by cases m <;> rfl
 |_::_,[]=>rfl
 |a::l,b::m=>by show(true&&fG (l.map iv) (m.map iv))=true;rw[nQ l m];rfl
theorem db{l:List Nat}(h:l.length<64):sortable (l.map iv):=by
 refine(qZ (by simpa using h) (λx B=>?_) (.inr λx B=>?_) (λx B y F=>?_))
 .obtain⟨i,_,rfl⟩:=w3.mp B;exact⟨rfl,E1 _⟩
 .obtain⟨i,_,rfl⟩:=w3.mp B;rfl
 .obtain⟨i,_,rfl⟩:=w3.mp B;obtain⟨j,_,rfl⟩:=w3.mp F;rfl
def uP{ws:List V}(p:vs.Perm ws)(hc:∀x∈vs,∀y∈vs,cy x y=true)(hs:ws.Pairwise λa b=>fA b a=false):aH vs=ws :=eu ((am vs).trans p) (λx B y F=>hc x ((am vs).mem_iff.mp B) y ((am vs).mem_iff.mp F)) (cT vs hc) hs
theorem kA{l m:List Nat}(p:l.Perm m)(hs:m.Pairwise (·<=·)):aH (l.map iv)=m.map iv:=by
 refine uP (p.map iv) (λx F y G=>?_) ?_
 .refine ah (w3.mp F) λi _ eJ=>?_;subst eJ;refine ah (w3.mp G) λj _ B=>?_;subst B;rfl
 .rw[K1];refine hs.imp λ{a b} h=>?_;simp only[fA,decide_eq_false_iff_not];exact Lu h
theorem pe{l:List Nd}(h:l.length<64):sortable (l.map ak):=by
 refine(qZ (by simpa using h) (λx F=>?_) (.inr λx F=>?_) (λx F y Y=>?_))
 .refine ah (w3.mp F) λi _ J=>?_;subst J;obtain B:=cD i;exact⟨B.1,by rw[B.2.1];decide⟩
 .refine ah (w3.mp F) λi _ O=>?_;subst O;rfl
 .refine ah (w3.mp F) λi _ Q=>?_;subst Q;refine ah (w3.mp Y) λj _ G=>?_;subst G;show(true&&fG (i.2.map iv) (j.2.map iv))=true;rw[nQ];rfl
theorem tx{p:Nat->Prop}[DecidablePred p](f:Nat->β):∀(l:List Nat),l.flatMap (λa=>if p a then[f a]else[])=(l.filter λa=>decide (p a)).map f
 | []=>rfl
 |a::l=>by rw[K8,tx f l,List.filter_cons];by_cases h:p a <;> simp[h]
def Lst(H:AH)(Q:b8)(vs:List V):Prop:=∀H' c,Ext H H'->H c=none->H' c=some (.list vs)->Q (.ref c) H'
theorem Lst.fresh{H:AH}{Q:b8}(h:Lst H Q vs):fresh H Q (.list vs):=λc hc=>h _ c (y3 _ hc) hc (AH.set_self _ _ _)
namespace HD
variable{D:HD}
theorem mem_len(c:Nat):(D.mem c).length<=D.n:=by obtain B:=N8 (λi=>decide (D.r i=c)) (List.range D.n);simpa[HD.mem]using B
theorem mem_lt(h:i∈D.mem c):i<D.n/\D.r i=c:=by unfold HD.mem at h;rw[I8,F8]at h;exact⟨h.1,by simpa using h.2⟩
def mem_rise(c:Nat):(D.mem c).Pairwise (· < ·):=List.Pairwise.filter _ List.pairwise_lt_range
def roots_rise:D.roots.Pairwise (· < ·):=List.Pairwise.filter _ List.pairwise_lt_range
theorem roots_len:D.roots.length<=D.n:=by obtain B:=N8 (λi=>decide (D.r i=i)) (List.range D.n);simpa[HD.roots]using B
theorem mem_roots:i∈D.roots↔i<D.n/\D.r i=i:=by unfold HD.roots;rw[I8,F8];simp
noncomputable def NN(D:HD)(c:Nat):List V:=aH (aM ((D.mem c).map λi=>ak (D.canon i)))
end HD
section
variable{H:AH}{Q:b8}{D:HD}
theorem GD(O:D.Ok)(h:i<D.n):D.pr i=i↔D.r i=i:=by
 refine cf (O.pr i h) λG J=>?_;refine⟨G,λe=>?_⟩;by_cases hp:D.pr i=i
 .exact hp
 .refine cf (J hp) λF Q=>?_;obtain B:=(O.rle (D.pr i) (Ds F h)).1;exact(Lv Q e B F).elim
theorem Gq(O:D.Ok)(h:i<D.n):∃p,D.lots[i]?=some p:=by
 obtain B:i<D.lots.length:=by rw[O.llots];exact h
 exact⟨_,G2 B⟩
theorem eQ{H:AH}(x:Ext H H'){c:Addr}(h:H' c=none):H c=none:=by
 rcases z:H c with _|o
 .rfl
 .exact nn h (x _ _ z)
theorem FZ{Q:Bool->AH->Prop}{H:AH}(k:Q (decide (i=j)) H):Q (decide ((i:Int)=(j:Int))) H:=by rw[show decide ((i:Int)=(j:Int))=decide (i=j)from decide_eq_decide.mpr ⟨Ra,C3 _⟩];exact k
def dY{K:pX->List V->AH->Prop}{a:Addr}(h:H a=some (.list vs))(hz:vs.length<=2^20)(k:K (some (a,vs)) vs H):iF (.ref a) H K:=(aN vs h hz k)
theorem OC{f:α->V}{l:List α}{n:Nat}(h:l.length<=n)(B:n<=60):(l.map f).length<64:=by rw[u7];exact A6 (u0 h B) (by decide)
theorem yi(T:Txt σ)(A:D.At H)(O:D.Ok)(ha:a<D.n)(q:Lst H Q ((D.mem (D.r a)).map iv)):MCall σ 2 "Unions" "members" [.ref D.up,iv a] H Q:=by
 have hr:=oT O ha;refine bL (Gq O hr) λp hp=>?_;have P:=O.lots _ p hp (O.rle a ha).2;refine aE T.ok T.Unions_members rfl (cM (bP (HE (aB (lx T A (.var rfl) (by decide) rfl) (aS (.var rfl) A.uni rfl T.Unions_find.some (.cons (.var rfl) .nil) (rA T A O.u ha (cY A.lots hp (pO hr O.nz) (.inl (aN _ (A.lot p (B0 hp)) ?_ ?_)))))))))
 .exact db (A6 (u0 (u0 (u4 P.length_eq) (D.mem_len _)) O.nz) (by decide))
 .rw[kA P ((D.mem_rise _).imp D5)];exact q.fresh
theorem vj(T:Txt σ)(A:D.At H)(O:D.Ok)(ha:a<D.n)(q:Lst H Q ((D.mem (D.r a)).map iv)):MCall σ 3 "Heap" "members" [.ref D.hp,iv a] H Q :=aE T.ok T.Heap_members rfl (cM (aS (iq T A (.var rfl) (by decide) rfl) A.uni rfl T.Unions_members.some (.cons (.var rfl) .nil) (yi T A O ha q)))
theorem yh(T:Txt σ)(A:D.At H)(O:D.Ok)(q:Lst H Q (D.roots.map iv)):MCall σ 1 "Unions" "classes" [.ref D.up] H Q:=by
 refine aE T.ok T.Unions_classes rfl (cM (BW (aB (dj (lx T A (.var rfl) (by decide) rfl) A.par ((u7 _).trans O.lpar) (De O.nz)) (iw (D.n:Int) rfl (K3 _) (Int.ofNat_le.mpr (u0 O.nz (by decide))) ?_))));refine je (src:=none) (List.range D.n) iv iv (λi=>decide (D.pr i=i)) trivial (by rw[Rp];exact A6 O.nz (by decide)) (λi hi H' F x k=>?_) (λi hi _ H' F x k=>(af _ rfl (k H' (y0 _)))) λc H' x h0 h=>q H' c x h0 ?_
 .have B:=F8.mp hi;exact y5 (((lx (f:="above") T (A.ext x) (.var rfl) (by decide) rfl).idx (.var rfl) λ_ q=>cY (A.ext x).par (eK 0 (by rw[O.lpar];exact B)) (pO B O.nz) q)) (.var rfl) (λ_ q=>rF _ _ _ _ q) _ F (FZ k)
 .rw[h];exact C3 (λl=>some (AO.list (l.map iv))) (P7 λi hi=>decide_eq_decide.mpr (GD O (F8.mp hi)))
theorem vi(T:Txt σ)(A:D.At H)(O:D.Ok)(q:Lst H Q (D.roots.map iv)):MCall σ 2 "Heap" "classes" [.ref D.hp] H Q :=aE T.ok T.Heap_classes rfl (cM (aS (iq T A (.var rfl) (by decide) rfl) A.uni rfl T.Unions_classes.some .nil (yh T A O q)))
def Lst.ext(q:Lst H Q vs)(x:Ext H H'):Lst H' Q vs:=λH2 c B h0 h=>q H2 c (x.trans' B) (eQ x h0) h
theorem vl(T:Txt σ)(A:D.At H)(O:D.Ok)(ha:a<D.n)(q:Lst H Q (D.NN (D.r a))):MCall σ 4 "Heap" "nodes_of" [.ref D.hp,iv a] H Q:=by
 obtain B:=D.mem_len (D.r a);refine aE T.ok T.Heap_nodes_of rfl (cM (bP (ja (aS (.var rfl) A.heap rfl T.Heap_members.some (.cons (.var rfl) .nil) (vj T A O ha λH1 l J Z hl=>dY hl (D5 (E7 (OC B O.nz) (by decide))) ?_)))));obtain G:=A.ext J;refine ff (D.mem (D.r a)) iv (λi=>ak (D.canon i)) hl (A6 (u0 B O.nz) (by decide)) (λi hi H' Q' Y k=>aS (.var rfl) (G.ext Y).heap rfl T.Heap_node.some (.cons (.var rfl) .nil) (zT T (G.ext Y) O (HD.mem_lt hi).1 λH2 x3=>k H2 x3)) λc H' x' _ F=>?_;obtain e:(D.mem (D.r a)).map (λi=>ak (D.canon i))=((D.mem (D.r a)).map D.canon).map ak:=by rw[J0];rfl
 refine(aN _ F (by rw[e];exact pe (A6 (u0 (u4 (u7 _)) (u0 B O.nz)) (by decide))) ((q.ext (J.trans' x')).fresh))
end
theorem fj{step:V->Loc->AH->(Fl->Loc->AH->Prop)->Prop}(I:List V->Loc->AH->Prop)(hs:∀xs l H,I xs l H->dC src H) (B:∀x xs l H k,I (x::xs) l H->(∀l' H',I xs l' H'->k .next l' H')->step x l H k) (F:∀l H,I [] l H->K .next l H):∀xs l H,I xs l H->og src step xs l H K
 | [],l,H,h=>⟨hs _ _ _ h,F l H h⟩
 |x::xs,l,H,h=>⟨hs _ _ _ h,B x xs l H _ h λl' H' h'=>fj I hs B F xs l' H' h'⟩
theorem oa{step:V->AH->(AH->Prop)->Prop}{K:AH->Prop}(I:b9)(hs:∀xs H,I xs H->dC src H) (B:∀x xs H k,I (x::xs) H->(∀H',I xs H'->k H')->step x H k) (F:∀H,I [] H->K H):∀xs H,I xs H->fh src step xs H K
 | [],H,h=>⟨hs _ _ h,F H h⟩
 |x::xs,H,h=>⟨hs _ _ h,B x xs H _ h λH' h'=>oa I hs B F xs H' h'⟩
noncomputable abbrev bw:=List (V×V)
noncomputable def Tabs(H:AH):List Addr->List bw->Prop
 | [],[]=>True
 |r::rs,t::ts=>H r=some (.dict t)/\Tabs H rs ts
 |_,_=>False
theorem Tabs.length{H:AH}:∀{rs:List Addr}{ts:List bw},Tabs H rs ts->rs.length=ts.length
 | [],[],_=>rfl
 |_::_,_::_,h=>by simp[Tabs.length h.2]
 | [],_::_,h=>h.elim
 |_::_,[],h=>h.elim
theorem Tabs.append{H:AH}:∀{rs B:List Addr}{ts F:List bw},Tabs H rs ts->Tabs H B F->Tabs H (rs++B) (ts++F)
 | [],_,[],_,_,h'=>h'
 |_::_,_,_::_,_,h,h'=>⟨h.1,h.2.append h'⟩
 | [],_,_::_,_,h,_=>h.elim
 |_::_,_,[],_,h,_=>h.elim
theorem Tabs.keep{H:AH}(k:∀a t,H a=some (.dict t)->H' a=some (.dict t)):∀{rs:List Addr}{ts:List bw},Tabs H rs ts->Tabs H' rs ts
 | [],[],_=>trivial
 |_::_,_::_,h=>⟨k _ _ h.1,Tabs.keep k h.2⟩
 | [],_::_,h=>h.elim
 |_::_,[],h=>h.elim
def Tabs.ext{H:AH}(x:Ext H H'){rs:List Addr}{ts:List bw}(h:Tabs H rs ts):Tabs H' rs ts:=h.keep λ_ _ e=>x _ _ e
theorem Tabs.setl{H:AH}{c:Addr}{ws:List V}(hc:H c=some (.list vs)){rs:List Addr}{ts:List bw}(h:Tabs H rs ts):Tabs (H.set c (.list ws)) rs ts:=h.keep λa t e=>by
 rw[r7]
 .exact e
 .rintro rfl;rw[hc]at e;exact AO.noConfusion (w4 e)
noncomputable def bI(s:String):Bool:=s=="?x"||s=="?y"
noncomputable def iE(p:V):Bool:=match p with | .tup [.str s]=>bI s|_=>false
mutual
noncomputable def fx:V->Bool
 | .tup (.str op::ps)=>((bI op&&ps.isEmpty)||aG.contains op)&&decide (ps.length<=2)&&gY ps
 |_=>false
noncomputable def gY:List V->Bool
 | []=>true
 |p::ps=>fx p&&gY ps
end
mutual
noncomputable def nv:V->Nat
 | .tup (.str op::ps)=>(if ps.isEmpty then 0 else 1)+tU ps
 |_=>0
noncomputable def tU:List V->Nat
 | []=>0
 |p::ps=>nv p+tU ps
end
mutual
noncomputable def yY:V->Nat
 | .tup (.str op::ps)=>1+mR ps
 |_=>0
noncomputable def mR:List V->Nat
 | []=>0
 |p::ps=>yY p+mR ps
end
mutual
noncomputable def dq(N:Nat->List V):V->Nat->bw->List bw
 | .tup (.str op::ps),c,tb =>
  if iE (.tup (.str op::ps))then(if cu ((ay tb (.str op)).getD (iv c)) (iv c)then[dput tb (.str op) (iv c)]else[])
  else(N c).flatMap λnd=>match nd with
   | .tup (.str op'::ks)=>if op'=op/\ks.length=ps.length then dD N ps ks [tb]else[]
   |_=>[]
 |_,_,_=>[]
noncomputable def dD(N:Nat->List V):List V->List V->List bw->List bw
 |p::ps,.int k::ks,tbs=>dD N ps ks (tbs.flatMap λtb=>dq N p k.toNat tb)
 |_,_,tbs=>tbs
end
noncomputable def fY(N:Nat->List V)(op:String)(ps:List V)(tb:bw)(nd:V):List bw:=match nd with
 | .tup (.str op'::ks)=>if op'=op/\ks.length=ps.length then dD N ps ks [tb]else[]
 |_=>[]
theorem iB(N:Nat->List V){op:String}(h:iE (.tup (.str op::ps))=true)(c:Nat)(tb:bw):dq N (.tup (.str op::ps)) c tb=if cu ((ay tb (.str op)).getD (iv c)) (iv c)then[dput tb (.str op) (iv c)]else[]:=by unfold dq;rw[if_pos h]
theorem gq(N:Nat->List V){op:String}(h:iE (.tup (.str op::ps))=false)(c:Nat)(tb:bw):dq N (.tup (.str op::ps)) c tb=(N c).flatMap (fY N op ps tb):=by unfold dq;rw[if_neg (by rw[h];exact D0)];rfl
theorem jV(N:Nat->List V)(p:V)(ps:List V)(k:Nat)(ks:List V)(tbs:List bw):dD N (p::ps) (iv k::ks) tbs=dD N ps ks (tbs.flatMap λtb=>dq N p k tb):=by
 conv=>lhs;unfold dD
 rfl
theorem jj(N:Nat->List V)(ks:List V)(tbs:List bw):dD N [] ks tbs=tbs:=by rfl
theorem cr(f:α->List β)(m:Nat):∀(l:List α),(∀x∈l,(f x).length<=m)->(l.flatMap f).length<=l.length*m
 | [],_=>by simp
 |a::l,h=>by rw[K8,B7,Q6,Nat.add_mul,Nat.one_mul];obtain B:=h a y7;obtain B:=cr f m l λx F=>h x (y9 _ F);exact Ly (by assumption) B
theorem xD{P:V->Prop}{Q:List V->Prop}(B:∀p,(∀op ps,p≠.tup (.str op::ps))->P p)(tup:∀op ps,Q ps->P (.tup (.str op::ps)))(nil:Q [])(cons:∀p ps,P p->Q ps->Q (p::ps))(p:V):P p :=
 V.rec (motive_1:=P) (motive_2:=λps=>Q ps/\Q ps.tail) (B _ λ_ _=>V.noConfusion) (B _ λ_ _=>V.noConfusion) (λ_=>B _ λ_ _=>V.noConfusion) (λ_=>B _ λ_ _=>V.noConfusion) (λ_=>B _ λ_ _=>V.noConfusion) (λvs h=>by
  rcases Classical.em (∃op ps,vs=.str op::ps)with⟨op,ps,e⟩|z
  .rw[e]at h ⊢;exact tup op ps h.2
  .exact B _ λop ps e=>z (zy op ps (V.tup.inj e))) (λ_=>B _ λ_ _=>V.noConfusion) ⟨nil,nil⟩ (λp ps a b=>⟨cons p ps a b.1,b.1⟩) p
theorem tv{N:Nat->List V}{p:V}(h:∀op ps,p≠.tup (.str op::ps))(c:Nat)(tb:bw):dq N p c tb=[]:=by
 unfold dq;split
 .exact absurd rfl (h _ _)
 .rfl
theorem vt(N:Nat->List V)(p:V)(ps:List V)(tbs:List bw):dD N (p::ps) [] tbs=tbs:=by rfl
theorem tw(N:Nat->List V)(p:V)(ps ks:List V)(tbs:List bw):(∃k B,dD N (p::ps) ks tbs=dD N ps B (tbs.flatMap λtb=>dq N p k tb))\/dD N (p::ps) ks tbs=tbs:=by
 rcases ks with _|⟨k,ks⟩
 .exact .inr (vt N p ps tbs)
 .cases k with
  |int i=>exact .inl (zy i.toNat ks rfl)
  |_=>exact .inr rfl
theorem wT(N:Nat->List V)(op:String)(ps:List V)(tb:bw)(nd:V):(∃ks,fY N op ps tb nd=dD N ps ks [tb])\/fY N op ps tb nd=[]:=by
 unfold fY;split
 .split
  .exact .inl ⟨_,rfl⟩
  .exact .inr rfl
 .exact .inr rfl
theorem qu(N:Nat->List V){op:String}(tb:bw){nd:V}(h:nd≠.tup [.str op]):fY N op [] tb nd=[]:=by
 delta fY;split
 .exact if_neg λz=>h (by rw[z.1,L6.mp z.2])
 .rfl
theorem tu(N:Nat->List V)(op:String)(tb:bw):∀{l:List V},l.Nodup->(l.flatMap (fY N op [] tb)).length<=1
 | [],_=>E1 _
 |a::l,h=>by
  rw[E8]at h;rw[K8,B7];rcases Classical.em (a=.tup [.str op])with e|e
  .obtain B:l.flatMap (fY N op [] tb)=[]:=List.flatMap_eq_nil_iff.mpr λx F=>qu N tb λz=>h.1 (by rw[e,<- z];exact F);rw[B,e];exact u4 (C3 List.length (if_pos ⟨rfl,rfl⟩:fY N op [] tb (.tup [.str op])=[tb]))
  .rw[qu N tb e,List.length_nil,Q0];exact tu N op tb h.2
theorem Gu(op:String)(ps:List V):nv (.tup (.str op::ps))=(if ps.isEmpty then 0 else 1)+tU ps:=by rfl
theorem gk{N:Nat->List V}(G:∀c,(N c).length<=60/\(N c).Nodup):∀(p:V)(c:Nat)(tb:bw),(dq N p c tb).length<=60^nv p :=
 have z (n:Nat):0<60^n:=Nat.pow_pos (by decide)
 xD (Q:=λps=>∀(ks:List V)(tbs:List bw),(dD N ps ks tbs).length<=tbs.length*60^tU ps)
  (λp h c tb=>by rw[tv h];exact E1 _)
  (λop ps B c tb=>by
   rcases h:iE (.tup (.str op::ps))with _|_
   .rw[gq N h];rcases ps with _|⟨q,ps⟩
    .exact u0 (tu N op tb (G c).2) (z _)
    .rw[Gu,show(if(q::ps).isEmpty=true then 0 else 1)=1 from rfl,Nat.pow_add];refine u0 (cr _ (60^tU (q::ps)) _ λnd _=>?_) (Q8 _ (G c).1);rcases wT N op (q::ps) tb nd with⟨ks,e⟩|e
     .rw[e];exact u0 (B ks [tb]) (u4 (Nat.one_mul _))
     .rw[e];exact E1 _
   .rw[iB N h];refine u0 ?_ (z _);split <;> simp)
  (λks tbs=>by rw[jj];exact Rq _ (z _))
  (λp ps hp B ks tbs=>by
   rcases tw N p ps ks tbs with⟨k,F,e⟩|e
   .rw[e,(by conv=>lhs;unfold tU:tU (p::ps)=nv p+tU ps),Nat.pow_add,<- Nat.mul_assoc];exact u0 (B F _) (Q8 _ (cr _ _ tbs λx _=>hp k x))
   .rw[e];exact Rq _ (z _))
variable{tb:bw}
structure cN(k:Nat)(tb:bw):Prop where
 ent:∀p∈tb,(∃s,p.1=.str s)/\∃i:Nat,p.2=iv i
 len:tb.length<=k
theorem cN.str(h:cN k tb):br tb:=λp hp=>by refine cf (h.ent p hp) λaW _=>?_;obtain⟨s,e⟩:=aW;rw[e];rfl
def cN.fits(h:cN k tb)(s:String):keyFits tb (.str s):=⟨Nat.one_ne_zero,λp hp=>h.str p hp⟩
theorem ti{kvs:bw}{k v:V}{p:V×V}(h:p∈dput kvs k v):p∈kvs\/p=(k,v)\/∃q∈kvs,q.1=p.1/\p.2=v:=by
 unfold dput at h;split at h
 .refine ah (w3.mp h) λq hq e=>?_;by_cases B:cu q.1 k=true
  .rw[if_pos B]at e;rw[<- e];exact .inr (.inr (aN q hq rfl rfl))
  .rw[if_neg B]at e;rw[<- e];exact .inl hq
 .rcases D9.mp h with h|h
  .exact .inl h
  .exact .inr (.inl (A4.mp h))
theorem th{kvs:bw}{k v:V}:(dput kvs k v).length<=kvs.length+1:=by unfold dput;split <;> simp
theorem cN.put(h:cN k tb)(s:String)(i:Nat):cN (k+1) (dput tb (.str s) (iv i)):=by
 refine⟨λp hp=>?_,u0 th (M9 h.len 1)⟩;rcases ti hp with h'|h'|⟨q,hq,e1,e2⟩
 .exact h.ent p h'
 .rw[h'];exact⟨⟨s,rfl⟩,i,rfl⟩
 .exact⟨by rw[<- e1];exact(h.ent q hq).1,i,e2⟩
def cN.mono{B:Nat}(h:cN k tb)(q:k<=B):cN B tb:=⟨h.ent,u0 h.len q⟩
theorem nV{N:Nat->List V}:∀(p:V)(c:Nat){k:Nat}{tb:bw},cN k tb->∀t∈dq N p c tb,cN (k+yY p) t :=
 xD (Q:=λps=>∀(ks:List V){k:Nat}{tbs:List bw},(∀t∈tbs,cN k t)->∀t∈dD N ps ks tbs,cN (k+mR ps) t)
  (λp h c _ _ _ t ht=>by rw[tv h]at ht;exact absurd ht A7)
  (λop ps G c k tb h t ht=>by
   have hz:yY (.tup (.str op::ps))=1+mR ps:=by rfl
   rcases O:iE (.tup (.str op::ps))with _|_
   .rw[gq N O]at ht;refine ah (J6.mp ht) λnd _ ht=>?_;rcases wT N op ps tb nd with⟨ks,e⟩|e
    .rw[e]at ht;exact(G ks (λu B=>A4.mp B▸h) t ht).mono (LA hz)
    .rw[e]at ht;exact absurd ht A7
   .rw[iB N O]at ht;split at ht
    .rw[A4.mp ht];exact(h.put op c).mono (Lz hz)
    .exact absurd ht A7)
  (λks k tbs h t ht=>by rw[jj]at ht;exact(h t ht).mono (G5 _ _))
  (λp ps hp G ks k tbs h t ht=>by
   rcases tw N p ps ks tbs with⟨i,J,e⟩|e
   .rw[e]at ht;exact(G J (λu B=>ah (J6.mp B) λtb F B=>hp i (h tb F) u B) t ht).mono (LB (by conv=>lhs;unfold mR))
   .rw[e]at ht;exact(h t ht).mono (G5 _ _))
section
variable{H:AH}{Q:b8}{D:HD}
theorem rG(H:AH)(i j:String)(Q:Bool->Prop)(q:Q (decide (i=j))):eZ H .eq (.str i) (.str j) Q:=(cH (jo _) (jo _) (by rw[jv];exact q))
theorem BY{op:String}(h:fx (.tup (.str op::ps))=true):(bI op=true/\ps=[])\/op∈aG :=((Bool.or_eq_true _ _).mp (aa (aa h).1).1).imp (λa=>⟨(aa a).1,J2.mp (aa a).2⟩) λa=>List.contains_iff_mem.mp a
theorem qK{op:String}(h:fx (.tup (.str op::ps))=true):ps.length<=2/\gY ps=true:=⟨B8 (aa (aa h).1).2,(aa h).2⟩
noncomputable def Ql(s:String):Bool:=decide (s∈jN)&&decide (decide (String.ofList (s.toList.take 1)="?")=bI s)
theorem Hx{op:String}(h:fx (.tup (.str op::ps))=true):Ql op=true:=by
 obtain k:∀s∈"?x"::"?y"::aG,Ql s=true:=J5.mp (by decide);rcases BY h with⟨a,_⟩|a
 .rcases(Bool.or_eq_true _ _).mp a with a|a
  .rw[J3 a];exact k _ y7
  .rw[J3 a];exact k _ (y9 _ y7)
 .exact k op (y9 _ (y9 _ a))
theorem pG(T:Txt σ){op:String}(h:fx (.tup (.str op::ps))=true)(q:Q (.bool (iE (.tup (.str op::ps)))) H):FCall σ 1 "is_variable" [.tup (.str op::ps)] H Q:=by
 obtain v:=aa (Hx h);have hl:=(qK h).1;have B:=Ev.cmp (σ:=σ) (l:=aR ["t"] [.tup (.str op::ps)]) (H:=H) (op:=.eq) (e:=.prim .len q9) (e2:=.cst (iv 1)) ((y4 (v:=.tup (.str op::ps)) rfl).prim (p:=.len) (w:=iv (ps.length+1)) λ_ q=>⟨u0 (E0 hl) (by decide),q⟩) .cst λQ q=>gJ q;refine bU T.ok T.is_variable rfl (cM (BS (aB B (af _ rfl ?_))));cases ps with
 |nil =>have F:Ev σ (aR ["t"] [.tup [.str op]]) H (.slc (.idx q9 (.cst (iv 0))) none (some 1)) (.str (String.ofList (op.toList.take 1))):=λd Q q=>Ev.idx (v:=.tup [.str op]) (w:=iv 0) (u:=.str op) (.var rfl) .cst (λ_ q=>(kB 0 _ rfl (by decide) rfl q)) d _ (qZ (B8 v.1) rfl rfl q);exact ir rfl (Ev.cmp (b:=bI op) (op:=.eq) (v:=.str (String.ofList (op.toList.take 1))) (w:=.str "?") F .cst (λQ q=>rG _ _ _ _ (by rw[B8 v.2];exact q)) _ _ q)
 |cons p ps=>exact fZ (E6 (λz=>nomatch P0 z)) q
end
structure LI(l:Loc)(wk t fl:Addr)(pat:V)(op:String):Prop where
 self:l "self"=some (.ref wk)
 table:l "table"=some (.ref t)
 pattern:l "pattern"=some pat
 op:l "op"=some (.str op)
 found:l "found"=some (.ref fl)
theorem LI.put{t fl:Addr}{pat:V}{op:String}(h:LI l wk t fl pat op)(x:String)(v:V)(B:x∉["self","table","pattern","op","found"]):LI (l.put x v) wk t fl pat op:=by simp only[List.mem_cons,List.not_mem_nil,or_false,not_or]at B;refine Qa B λa b c d e=>?_;exact⟨by rw[kl,if_neg (R5 a)];exact h.self,by rw[kl,if_neg (R5 b)];exact h.table,by rw[kl,if_neg (R5 c)];exact h.pattern,by rw[kl,if_neg (R5 d)];exact h.op,by rw[kl,if_neg (R5 e)];exact h.found⟩
theorem aq(l:Loc)(x:String)(v:V):(l.put x v) x=some v:=by rw[kl,if_pos rfl]
theorem ag(l:Loc){y:String}(v:V)(h:y≠x):(l.put x v) y=l y:=by rw[kl,if_neg h]
theorem bF(l:Loc){xs:List String}{y:String}(h:y∉".0"::xs):(l.drop xs) y=l y:=by rw[CM,if_neg h]
theorem aw{H:AH}{a b:Addr}{x:AO}(F:H a=some x)(B:H b=none):a≠b:=by rintro rfl;rw[F]at B;exact sn B
theorem uj{p:V}(h:gY (p::ps)=true):fx p=true/\gY ps=true:=by unfold gY at h;rw[I1]at h;exact h
theorem mK:∀{ps:List V}{m:Nat},bx ps<=m->∀p∈ps,aD p<=m
 | [],_,_,p,h=>absurd h A7
 |q::ps,m,hm,p,h=>by
  rcases C0.mp h with e|h
  .rw[e];exact Gw hm
  .exact mK (Dn hm) p h
theorem Ad{kvs:bw}{k v:V}(h:ay kvs k=some v):∃p∈kvs,p.2=v:=by unfold ay at h;refine ah (E3.mp h) λp hp e=>?_;exact(af p (List.mem_of_find?_eq_some hp) e)
theorem cN.get(h:cN k tb)(s:String)(c:Nat):∃i:Nat,(ay tb (.str s)).getD (iv c)=iv i:=by
 rcases e:ay tb (.str s)with _|v
 .exact⟨c,rfl⟩
 .refine ah (Ad e) λp hp e2=>?_;refine cf (h.ent p hp) λ_ aW=>?_;refine bL aW λi hi=>?_;exact⟨i,by rw[<- hi,e2];rfl⟩
def ExtB(c:Addr)(H H':AH):Prop:=∀a o,a≠c->H a=some o->H' a=some o
theorem ExtB.set{c:Addr}{H:AH}(x:ExtB c H H')(o:AO):ExtB c H (H'.set c o):=λa y ha e=>by rw[r7 _ _ ha];exact x a y ha e
theorem nI{step:V->AH->(AH->Prop)->Prop}{c:Addr}(f:V->V){H3:AH}(hsrc:∀H,ExtB c H3 H->dC src H):∀(xs ws:List V)(H:AH){K:AH->Prop},ExtB c H3 H->H c=some (.list ws)->ws.length+xs.length<2^20 -> (∀x∈xs,∀(H':AH)(ws':List V)(k:AH->Prop),ExtB c H3 H'->H' c=some (.list ws')->ws'.length<2^20->k (H'.set c (.list (ws'++[f x])))->step x H' k) -> (∀H',ExtB c H3 H'->H' c=some (.list (ws++xs.map f))->K H')->fh src step xs H K
 | [],ws,H,K,x,hc,hl,hs,B=>⟨hsrc H x,B H x (by simpa using hc)⟩
 |v::vs,ws,H,K,x,hc,hl,hs,B=>by simp only[List.length_cons]at hl;refine⟨hsrc H x,hs v y7 H ws _ x hc (LF hl) ?_⟩;refine nI f hsrc vs (ws++[f v]) _ (x.set _) (AH.set_self _ _ _) (by simp;exact LG hl) (λy G=>hs y (y9 _ G)) λH' x' F=>B H' x' ?_;rw[F];simp
theorem pt{step:V->AH->(AH->Prop)->Prop}{c tl:Addr}{Q:AH}{rs2:List Addr}{tbs:List bw}(g:bw->List bw)(htl:Q tl=some (.list (rs2.map V.ref)))(hT:Tabs Q rs2 tbs)(hc:Q c=none)(hz:(tbs.flatMap g).length<=2^18){K:AH->Prop} (hs:∀r tb H' (rs:List Addr) k,tb∈tbs->Ext Q H'->H' r=some (.dict tb)->H' c=some (.list (rs.map V.ref))->rs.length+(g tb).length<=2^18->(∀H'' O,ExtB c H' H''->H'' c=some (.list ((rs++O).map V.ref))->Tabs H'' O (g tb)->k H'')->step (.ref r) H' k) (q:∀H' rs,Ext Q H'->H' c=some (.list (rs.map V.ref))->Tabs H' rs (tbs.flatMap g)->K H'):fh (some (tl,rs2.map V.ref)) step (rs2.map V.ref) (Q.set c (.list [])) K:=by
 refine oa (src:=some (tl,rs2.map V.ref)) (λzs H'=>Ext Q H'/\∃rem trem rs done,zs=rem.map V.ref/\Tabs H' rem trem/\(∀tb∈trem,tb∈tbs)/\H' c=some (.list (rs.map V.ref))/\Tabs H' rs done/\done++trem.flatMap g=tbs.flatMap g)
  (λzs H' h=>h.1 _ _ htl) (λx xs H' k h hk'=>?_) (λH' h=>?_) _ _ ⟨y3 _ hc,(Qw rs2 tbs ([]) ([]) rfl (hT.ext (y3 _ hc)) (λ_ h=>h) (AH.set_self _ _ _) trivial rfl)⟩
 .refine cf h λxe cI=>?_;refine Qt cI λrem trem rs done ez B Y J G F=>?_;rcases rem with _|⟨r1,rem⟩
  .exact(G0 _ _ ez).elim
  rcases trem with _|⟨Z,trem⟩
  .exact B.elim
  refine cf (I9 ez) λaW bS=>?_;subst aW;subst bS;obtain hd:=C3 List.length F;rw[B7,K8,B7,<- G.length,<- O7]at hd;refine hs r1 Z H' rs k (Y Z y7) xe B.1 J (u0 (u0 (G5 _ _) (u4 hd)) hz) λH4 O xb hc6 t5=>?_;obtain kp:∀a t,H' a=some (.dict t)->H4 a=some (.dict t):=λa t e=>xb a _ (λz=>by rw[z,J]at e;exact AO.noConfusion (w4 e)) e;refine hk' _ ⟨λa o e=>xb a o (aw e hc) (xe a o e),(Qw rem trem (rs++O) (done++g Z) rfl ((B.2).keep kp) (λtb htb=>Y tb (y9 _ htb)) hc6 ((G.keep kp).append t5) ?_)⟩;rw[K7,<- K8];exact F
 .refine cf h λxe an=>?_;refine Qt an λrem trem rs done ez B Y J G F=>?_;obtain ad:rem=[]:=List.map_eq_nil_iff.mp ez.symm;subst ad;cases trem with
  |cons _ _=>exact B.elim
  |nil =>rw[List.flatMap_nil,H8]at F;subst F;exact q H' rs xe J G
section
variable{D:HD}
theorem AL{x:V}(h:x∈D.NN c):∃i,i∈D.mem c/\x=ak (D.canon i):=by unfold HD.NN at h;obtain B:=aZ.mp ((am _).mem_iff.mp h);refine ah (w3.mp B) λi hi bS=>?_;subst bS;exact(af i hi rfl)
theorem zB(O:D.Ok)(c:Nat):(D.NN c).length<=60:=by unfold HD.NN;rw[(am _).length_eq];obtain B:=dc ((D.mem c).map λi=>ak (D.canon i));obtain F:=D.mem_len c;obtain G:D.n<=60:=O.nz;simp at B;exact LC F B G
def pW(O:D.Ok)(c:Nat):(D.NN c).length<=60/\(D.NN c).Nodup:=⟨zB O c,(am _).nodup_iff.mpr (bJ _)⟩
def HS(σ:Sx)(D:HD)(m:Nat)(p:V):Prop:=∀(H:AH)(Q:b8)(wk wd t:Addr)(tb:bw)(c k:Nat),D.At H->dt H wk "Walker" wd [("heap",.ref D.hp)]->fx p=true->H t=some (.dict tb)->cN k tb->k+yY p<=500->60^nv p<=2^18 ->
  c<D.n->D.r c=c->(∀H' l rs,Ext H H'->H l=none->H' l=some (.list (rs.map V.ref))->Tabs H' rs (dq D.NN p c tb)->Q (.ref l) H')->MCall σ (4+m) "Walker" "extended" [.ref wk,.ref t,iv c,p] H Q
theorem FK(T:Txt σ)(O:D.Ok){B:V}{tl:Addr}{kk k2:Nat}{rs2:List Addr}{tbs:List bw}{l':Loc}{J:AH}{Q:b8} (ih:HS σ D m B) (A:D.At J) (W:dt J wk "Walker" wd [("heap",.ref D.hp)]) (av:fx B=true) (ad:l' "self"=some (.ref wk)) (a0:l' "tables"=some (.ref tl)) (ar:l' "kid"=some (iv kk)) (Z:l' "part"=some B) (htl:J tl=some (.list (rs2.map V.ref))) (hT:Tabs J rs2 tbs) (hI:∀tb∈tbs,cN k2 tb) (hk':k2+yY B<=500) (hb:tbs.length*60^nv B<=2^18) (an:60^nv B<=2^18) (hkn:kk<D.n) (hkr:D.r kk=kk) (q:∀H' c rs,Ext J H'->J c=none->H' c=some (.list (rs.map V.ref))->Tabs H' rs (tbs.flatMap λtb=>dq D.NN B kk tb)->Q (.ref c) H') : ba σ (4+m) (.comp m6 (.more (.nm "one") (.exp n7) (.one (.nm "late") (.exp (.meth c7 "extended" (.cons (.var "one") (.cons i9 (.cons (.var "part") .nil))))) none))) l' J Q:=by
 obtain hl2:=hT.length;obtain hbl:tbs.length<=2^18:=u0 (Rq _ (Nat.pow_pos (by decide))) hb;refine(af _ a0 (aN _ htl (by rw[u7];exact LD hl2 hbl) (λc hc=>(af c rfl ?_))));obtain tot:(tbs.flatMap λtb=>dq D.NN B kk tb).length<=2^18:=u0 (cr _ (60^nv B) tbs λtb _=>gk (pW O) B kk tb) hb;refine pt (λtb=>dq D.NN B kk tb) htl hT hc tot (λr tb H' rs k hm xe hr F hl hk=>?_) λH' rs xe F hTd=>q H' c rs xe hc F hTd;refine(af _ rfl (af _ ?_ (af _ (cB (W.ext xe) rfl T.Walker_extended.some) (af _ ?_ (af _ ?_ (af _ ?_ (ih _ _ _ _ _ _ _ _ (A.ext xe) (W.ext xe) av hr (hI tb hm) hk' an hkn hkr λH3 l3 G x3 as e3 t5=>?_)))))))
 .rw[ag _ _ (by decide),bF _ (by decide)];exact ad
 .rw[aq]
 .rw[ag _ _ (by decide),bF _ (by decide)];exact ar
 .rw[ag _ _ (by decide),bF _ (by decide)];exact Z
 obtain l5:G.length<=2^18:=by rw[t5.length];exact u0 (gk (pW O) B kk tb) an
 have hne:l3≠c:=λz=>by rw[z,F]at as;exact sn as
 refine aN _ e3 (by rw[u7];exact u0 l5 (by decide)) (nI (src:=some (l3,G.map V.ref)) (c:=c) id (H3:=H3) (λH4 xb=>xb _ _ hne e3) (G.map V.ref) (rs.map V.ref) H3 (λ_ _ _ e=>e) (x3 _ _ F) ?_ (λy hy H4 ws4 k4 xb Y hl4 hk4=>af _ rfl (Ea (ir rfl (af _ (aq _ _ _) (aN _ Y hl4 hk4))))) λH4 xb Y=>hk H4 G (λa o h1 h2=>xb a o h1 (x3 a o h2)) ?_ (t5.keep λa t e=>xb a _ (λz=>by rw[z,x3 _ _ F]at e;exact AO.noConfusion (w4 e)) e))
 .rw[u7,u7,t5.length];exact A6 hl (by decide)
 .rw[Y,List.map_id,C7]
end
section
variable{t:Addr}
section
variable{D:HD}
theorem IN(op:String)(ps:List V):tU ps<=nv (.tup (.str op::ps)):=QY ..
theorem Bq(op:String)(ps:List V):yY (.tup (.str op::ps))=1+mR ps:=by rfl
theorem AU(p:V)(ps:List V):tU (p::ps)=nv p+tU ps:=by conv=>lhs;unfold tU
theorem yZ(p:V)(ps:List V):mR (p::ps)=yY p+mR ps:=by conv=>lhs;unfold mR
theorem GC(h:a<=b):60^a<=60^b:=I7 (by decide) h
theorem ji(N:Nat->List V)(op:String)(ps:List V)(tb:bw)(nd:Nd):fY N op ps tb (ak nd)=if nd.1=op/\nd.2.length=ps.length then dD N ps (nd.2.map iv) [tb]else[]:=by unfold fY ak;simp only[List.length_map]
structure KI(D:HD)(m:Nat)(wk t fl:Addr)(pat:V)(op:String)(goal:List bw)(H0 H:AH)(l:Loc)(ks:List Nat)(ps:List V)(tl:Addr)(rs:List Addr)(tbs:List bw)(k:Nat):Prop where
 li:LI l wk t fl pat op
 x:Ext H0 H
 len:ks.length=ps.length
 tab:l "tables"=some (.ref tl)
 htl:H tl=some (.list (rs.map .ref))
 T:Tabs H rs tbs
 ne:fl≠tl
 eq:dD D.NN ps (ks.map iv) tbs=goal
 b1:tbs.length*60^tU ps<=2^18
 b2:60^tU ps<=2^18
 I:∀tb∈tbs,cN k tb
 hk:k+mR ps<=500
 ok:gY ps=true
 dep:∀p∈ps,aD p<=m
 rt:∀k∈ks,k<D.n/\D.r k=k
def wH(σ:Sx)(D:HD)(m:Nat):Prop:=∀(p:V),aD p<=m->HS σ D m p
theorem yK{op:String}(h:aD (.tup (.str op::ps))<=m+1):bx ps<=m:=u0 (L9 _ _) (Nat.le_of_succ_le_succ h)
noncomputable abbrev EB:List MS:=[.asg (.tg (.nm "tables")) (.comp m6 (.more (.nm "one") (.exp n7) (.one (.nm "late") (.exp (.meth c7 "extended" (.cons (.var "one") (.cons i9 (.cons (.var "part") .nil))))) none)))]
theorem Al(T:Txt σ)(O:D.Ok)(ih:wH σ D m){fl:Addr}{pat:V}{op:String}{goal:List bw}(A:D.At H0)(W:dt H0 wk "Walker" wd [("heap",.ref D.hp)]){o:AO}(hf:H0 fl=some o) (q:∀l H tl rs,LI l wk t fl pat op->Ext H0 H->l "tables"=some (.ref tl)->H tl=some (.list (rs.map .ref))->fl≠tl->Tabs H rs goal->K .next l H) : ∀(ps:List V)(ks:List Nat)(l:Loc)(H:AH)(tl:Addr)(rs:List Addr)(tbs:List bw)(k:Nat),KI D m wk t fl pat op goal H0 H l ks ps tl rs tbs k->og none (λv l H k=>∃l',bm (.tp2 (.nm "kid") (.nm "part")) v l=some l'/\au σ (4+m) EB l' H k) (ij (ks.map iv) ps) l H K:=by
 intro ps;induction ps with
 |nil =>
  intro ks l H tl rs tbs k I;cases ks with
  |cons _ _=>exact Nat.noConfusion I.len
  |nil=>exact⟨trivial,q l H tl rs I.li I.x I.tab I.htl I.ne (by rw[<- I.eq,List.map_nil,jj];exact I.T)⟩
 |cons p ps J =>
  intro ks l H tl rs tbs k I;rcases ks with _|⟨k1,ks⟩
  .exact Nat.noConfusion I.len
  .have b1:=I.b1;have b2:=I.b2;rw[AU,Nat.pow_add]at b1 b2;have hk:=I.hk;rw[yZ,<- O7]at hk;have B:0<60^tU ps:=Nat.pow_pos (by decide);have F:0<60^nv p:=Nat.pow_pos (by decide);have pp:=uj I.ok;obtain Z:=I.rt k1 y7;refine⟨trivial,(af _ rfl (ce (FK T O (m:=m) (kk:=k1) (k2:=k) (rs2:=rs) (tbs:=tbs) (l':=(l.put "kid" (iv k1)).put "part" p) (ih p (I.dep p y7)) (A.ext I.x) (W.ext I.x) pp.1 I.li.self I.tab rfl rfl I.htl I.T I.I (u0 (G5 _ _) hk) ?_ (u0 (Rq _ B) b2) Z.1 Z.2 λH4 c4 Q x4 G e4 t4=>(af _ rfl (J ks _ H4 c4 Q _ (k+yY p) ⟨((I.li.put "kid" _ (by decide)).put "part" _ (by decide)).put "tables" _ (by decide),I.x.trans' x4,P0 I.len,rfl,e4,t4,aw (I.x _ _ hf) G,?_,?_,u0 (Nat.le_mul_of_pos_left _ F) b2,λtb h=>?_,hk,pp.2,λp h=>I.dep p (y9 _ h),λk h=>I.rt k (y9 _ h)⟩)))))⟩
   .refine u0 ?_ b1;rw[<- Nat.mul_assoc];exact Rq _ B
   .rw[<- I.eq];exact(jV D.NN p ps k1 (ks.map iv) tbs).symm
   .refine u0 (Q8 _ (cr _ (60^nv p) tbs λtb _=>gk (pW O) p k1 tb)) ?_;rw[Nat.mul_assoc];exact b1
   .refine ah (J6.mp h) λY h0 h1=>?_;exact nV p k1 (I.I Y h0) tb h1
theorem EvT.and{H:AH}{a b:ME}{x y:Bool}(ha:EvT σ l H a x)(B:EvT σ l H b y):EvT σ l H (.and2 a b) (x&&y):=λd _ q=>ha d _ (by cases x;exact fZ rfl q;exact ir rfl (B d _ q))
theorem rH{H:AH}{e:ME}(B:Ev σ l H e (.tup vs))(hz:vs.length<=3):Ev σ l H (.prim .len e) (iv vs.length):=B.prim λ_ q=>⟨u0 hz (by decide),q⟩
noncomputable abbrev EH:List MS:=[.if1 (.and2 (.cmp1 .eq (.idx d8 d5) g7) (.cmp1 .eq (.prim .len d8) (.prim .len c9))) [.asg (.tg (.nm "tables")) (.lst (.cons g9 .nil)),.for1 (.tp2 (.nm "kid") (.nm "part")) (.zip (.slc d8 (some 1) none) (.slc c9 (some 1) none)) EB,.expr (.meth k9 "extend" (.cons n7 .nil))] []]
theorem CN(T:Txt σ)(O:D.Ok)(ih:wH σ D m){fl:Addr}{op:String}{H:AH}{rs:List Addr}{done:List bw}(A:D.At H)(W:dt H wk "Walker" wd [("heap",.ref D.hp)]) (Z:i<D.n) (li:LI l wk t fl (.tup (.str op::ps)) op) (ht:H t=some (.dict tb)) (hI:cN k tb) (hk:k+mR ps<=500) (hb:60^tU ps<=2^18) (an:ps.length<=2) (hps:gY ps=true) (hd:bx ps<=m) (hf:H fl=some (.list (rs.map V.ref))) (hT:Tabs H rs done) (hz:done.length+(fY D.NN op ps tb (ak (D.canon i))).length<=2^18) (q:∀l' H' rs',LI l' wk t fl (.tup (.str op::ps)) op->(∀a o,a≠fl->H a=some o->H' a=some o)->H' fl=some (.list (rs'.map V.ref))->Tabs H' rs' (done++fY D.NN op ps tb (ak (D.canon i)))->K .next l' H') : au σ (4+m) EH (l.put "node" (ak (D.canon i))) H K:=by
 obtain ad:=kids_len O Z;have F:=li.put "node" (ak (D.canon i)) (by decide);obtain node:∀{H:AH},Ev σ (l.put "node" (ak (D.canon i))) H d8 (ak (D.canon i)):=.var (aq _ _ _);obtain B:((D.canon i).2.map iv).length=(D.kids i).length:=(u7 _).trans (u7 _);have cm:EvT σ (l.put "node" (ak (D.canon i))) H (.and2 (.cmp1 .eq (.idx d8 d5) g7) (.cmp1 .eq (.prim .len d8) (.prim .len c9))) _ :=EvT.and (y5 (node.idx (w:=iv 0) .cst λ_ q=>(kB 0 (.str (D.op i)) rfl (by decide) rfl q)) (.var F.op) λQ q=>rG _ _ _ Q q) (y5 (rH (vs:=.str (D.canon i).1::(D.canon i).2.map iv) node (E0 (by rw[B];exact ad))) (rH (.var F.pattern) (E0 an)) λQ q=>gJ q)
 have J:(op=(D.canon i).1->¬(D.canon i).2.length=ps.length)->K .next (l.put "node" (ak (D.canon i))) H:=λh=>by
  obtain e:fY D.NN op ps tb (ak (D.canon i))=[]:=by rw[ji,if_neg λz=>h z.1.symm z.2]
  exact q _ H rs F (λ_ _ _ e=>e) hf (by rw[e,H8];exact hT)
 by_cases G:D.op i=op
 .by_cases hlen:(D.kids i).length=ps.length
  .have hx:fY D.NN op ps tb (ak (D.canon i))=dD D.NN ps (((D.kids i).map D.r).map iv) [tb]:=by rw[ji];rw(config:={}) [if_pos ⟨G,(u7 _).trans hlen⟩];rfl
   rw[E4 G,E4 (show(V.str (D.canon i).1::(D.canon i).2.map iv).length=(V.str op::ps).length from C3 (· + 1) (B.trans hlen))]at cm;refine fz cm (ce (dK (aC (aB (.var F.table) λtl htl=>(af _ rfl ?_)))));have x0:Ext H (H.set tl (.list [.ref t])):=y3 _ htl;obtain hfl:fl≠tl:=aw hf htl;obtain nd2:Ev σ ((l.put "node" (ak (D.canon i))).put "tables" (.ref tl)) (H.set tl (.list [.ref t])) d8 (ak (D.canon i)):=.var rfl;obtain li2:=F.put "tables" (.ref tl) (by decide);refine Hz (lv nd2 (by rw[B];exact A6 ad (by decide))) (lv (.var li2.pattern) (A6 an (by decide))) (by rw[B];exact u0 ad (by decide)) (u0 an (by decide)) ?_;refine Al T O ih (goal:=fY D.NN op ps tb (ak (D.canon i))) (A.ext x0) (W.ext x0) (x0 _ _ hf) (λl2 H2 tl2 rs2 li3 x2 htb htl2 hne T2=>?_) ps ((D.kids i).map D.r) _ _ tl [t] [tb] k ⟨li2,y0 _,(u7 _).trans hlen,rfl,AH.set_self _ _ _,⟨x0 _ _ ht,trivial⟩,hfl,hx.symm,by rw[P9,Nat.one_mul];exact hb,hb,λtb' h'=>by rw[A4.mp h'];exact hI,hk,hps,mK hd,λk hk=>?_⟩
   .obtain hf2:=x2 _ _ (x0 _ _ hf);obtain h1:=hT.length;obtain h2:=T2.length;refine wz (.var li3.found) hf2 (.var htb) htl2 hne ?_ (q _ _ (rs++rs2) li3 (λa o ha e=>(r7 _ _ ha).trans (x2 _ _ (x0 _ _ e))) ((AH.set_self _ _ _).trans (by rw[C7])) ((((hT.ext x0).ext x2).append T2).setl hf2));rw[u7,u7,h1,h2];exact u0 hz (by decide)
   .refine ah (w3.mp hk) λk0 hk0 aW=>?_;subst aW;obtain Y:=E7 (dE O Z k0 hk0) Z;exact⟨oT O Y,(O.rle k0 Y).2⟩
  .rw[E6 (show ¬(V.str (D.canon i).1::(D.canon i).2.map iv).length=(V.str op::ps).length fromλz=>hlen (B.symm.trans (P0 z))),Bool.and_false]at cm;exact dJ cm (J λ_ z=>hlen ((u7 _).symm.trans z))
 .rw[E6 G,Bool.false_and]at cm;exact dJ cm (J λz=>absurd z.symm G)
theorem CO(T:Txt σ){d:Nat}{op:String}{H:AH}{Q:b8}(ho:l "op"=some (.str op))(hc:l "c"=some (iv c))(B:l "table"=some (.ref t))(ht:H t=some (.dict tb))(J:cN k tb)(hk:k<=500) (q:∀H' l rs,Ext H H'->H l=none->H' l=some (.list (rs.map V.ref))->Tabs H' rs (if cu ((ay tb (.str op)).getD (iv c)) (iv c)then[dput tb (.str op) (iv c)]else[])->Q (.ref l) H') : au σ d [.asg (.tg (.nm "late")) (.prim .dict g9),.asg (.ix m6 g7) j0,.ret (.ite (.cmp1 .eq (.meth g9 "get" (.cons g7 (.cons j0 .nil))) j0) (.lst (.cons m6 .nil)) (.lst .nil))] l H (nD Q):=by
 have hlen:tb.length<=500:=u0 J.len hk;refine ce (bP (aB (.var B) (iw _ (.inl ht) J.str (u0 hlen (by decide)) (λlt F=>(af _ rfl ?_)))));obtain Z:t≠lt:=aw ht F;refine wA (.var ((ag _ _ (by decide)).trans hc)) (.var (aq _ _ _)) (.var ((ag _ _ (by decide)).trans ho)) (AH.set_self _ _ _) (J.fits op) (A6 hlen (by decide)) ?_;obtain O:Ext H ((H.set lt (.dict tb)).set lt (.dict (dput tb (.str op) (iv c)))):=(y3 _ F).setc F _;obtain Y:((H.set lt (.dict tb)).set lt (.dict (dput tb (.str op) (iv c)))) lt=some (.dict (dput tb (.str op) (iv c))):=AH.set_self _ _ _;generalize (H.set lt (.dict tb)).set lt (.dict (dput tb (.str op) (iv c)))=H1 at *;refine bL (J.get op c) λi hi=>?_;rw[hi,hY]at q;obtain G:∀r,H1 r=none->H r=none:=λr hr=>eQ O hr;refine cM (wG (hZ (k:=.dict) (.var ((ag _ _ (by decide)).trans B)) ⟨by decide,(eU t tb rfl (O _ _ ht))⟩ (.cons (.var ((ag _ _ (by decide)).trans ho)) (.cons (.var ((ag _ _ (by decide)).trans hc)) .nil)) (bR t tb rfl (O _ _ ht) (.inl ⟨rfl,(bR _ _ rfl (J.fits op) ?_)⟩))));rw[hi];refine aB (.var ((ag _ _ (by decide)).trans hc)) (rF _ _ _ _ ?_);cases hd:decide ((i:Int)=(c:Int))with
 |true =>rw[hd,if_pos rfl]at q;exact ir rfl (dK (aC (aB (.var (aq _ _ _)) λr hr=>q _ r [lt] (O.trans' (y3 _ hr)) (G r hr) (AH.set_self _ _ _) ⟨(y3 _ hr) _ _ Y,trivial⟩)))
 |false =>rw[hd,if_neg D0]at q;exact fZ rfl (dK (bQ λr hr=>q _ r [] (O.trans' (y3 _ hr)) (G r hr) (AH.set_self _ _ _) trivial))
theorem yv(T:Txt σ)(O:D.Ok)(ih:wH σ D m){fl s:Addr}{op:String}(A:D.At H0)(W:dt H0 wk "Walker" wd [("heap",.ref D.hp)]) (ht:H0 t=some (.dict tb)) (hI:cN k tb) (hk:k+mR ps<=500) (hb:60^tU ps<=2^18) (Z:ps.length<=2) (ad:gY ps=true) (hd:bx ps<=m) (Q:H0 fl=none) (hs:fl≠s) (hz:((D.NN c).flatMap (fY D.NN op ps tb)).length<=2^18) (q:∀l H rs,LI l wk t fl (.tup (.str op::ps)) op->Ext H0 H->H fl=some (.list (rs.map .ref))->Tabs H rs ((D.NN c).flatMap (fY D.NN op ps tb))->K .next l H) : ∀(xs:List V)(l:Loc)(H:AH)(rs:List Addr)(done:List bw),(∀x∈xs,x∈D.NN c)->LI l wk t fl (.tup (.str op::ps)) op->Ext H0 H->H s=some (.list (D.NN c))->H fl=some (.list (rs.map .ref))->Tabs H rs done->done++xs.flatMap (fY D.NN op ps tb)=(D.NN c).flatMap (fY D.NN op ps tb) -> og (some (s,D.NN c)) (λv l H k=>∃l',bm (.nm "node") v l=some l'/\au σ (4+m) EH l' H k) xs l H K:=by
 intro xs;induction xs with
 |nil=>exactλl H rs done _ li x F hf hT e=>⟨F,q l H rs li x hf (by rw[<- e,List.flatMap_nil,H8];exact hT)⟩
 |cons v xs an =>intro l H rs done hm li x F hf hT e;refine ah (AL (hm v y7)) λi Y bS=>?_;subst bS;rw[K8,<- K7]at e;refine⟨F,(af _ rfl (CN T O ih (A.ext x) (W.ext x) (HD.mem_lt Y).1 li (x _ _ ht) hI hk hb Z ad hd hf hT ?_ λl' H' as ar fr J G=>an l' H' as _ (λz h=>hm z (y9 _ h)) ar (λa o e=>fr a o (λz=>nn Q (z▸e)) (x _ _ e)) (fr _ _ hs.symm F) J G e))⟩;obtain B:=C3 List.length e;rw[B7,B7]at B;exact u0 (u0 (G5 _ _) (u4 B)) hz
theorem xC{p:V}(h:fx p=true):∃op ps,p=.tup (.str op::ps):=by
 cases p with
 |tup vs =>
  rcases vs with _|⟨v,vs⟩
  .exact ai h
  .cases v <;> first|exact(zy _ _ rfl)|exact ai h
 |_=>exact ai h
theorem vg(T:Txt σ)(O:D.Ok):∀(m:Nat),wH σ D m:=by
 intro m;induction m with
 |zero =>intro p hp H Q wk wd t tb c k A W B;refine sI (xC B) λop ps cI=>?_;subst cI;exact absurd hp (Nat.not_succ_le_zero _)
 |succ m ih =>
  intro p hp H Q wk wd t tb c k A W B ht Z hk hb hc hr q;refine sI (xC B) λop ps cW=>?_;subst cW;obtain pp:=qK B;obtain Y:k<=500:=u0 (G5 _ _) hk;obtain pat:∀{H:AH},Ev σ (aR ["self","table","c","pattern"] [.ref wk,.ref t,iv c,.tup (.str op::ps)]) H c9 (.tup (.str op::ps)):=.var rfl;refine aE (d:=4+m) T.ok T.Walker_extended rfl (lN (pat.idx (w:=iv 0) .cst λ_ q=>(kB 0 (.str op) rfl (by decide) rfl q)) (NW (.cons (.var rfl) .nil) ((pG T B ⟨_,rfl,?_⟩).room (u0 (by decide) (G5 4 m)))));cases hv:iE (.tup (.str op::ps))with
  |true=>exact ir rfl (CO T rfl rfl rfl ht Z Y (by rw[<- iB D.NN hv];exact q))
  |false =>
   obtain J:=u0 (GC (IN op ps)) hb;rw[Bq,<- O7]at hk;obtain tgt:dq D.NN (.tup (.str op::ps)) c tb=(D.NN c).flatMap (fY D.NN op ps tb):=gq D.NN hv c tb;refine fZ rfl (ce (dK (bQ λfl F=>(af _ rfl ?_))));obtain G:Ext H (H.set fl (.list [])):=y3 _ F;refine xY (aS ((y4 rfl).attr (W.ext G) (by rw[T.fWalker];exact A4.mpr rfl) rfl) (A.ext G).heap rfl T.Heap_nodes_of.some (.cons (.var rfl) .nil) ((vl T (A.ext G) O hc λH2 s x2 hs e2=>?_).room (G5 4 m)));rw[hr]at e2;refine dY e2 (u0 (zB O c) (by decide)) (yv T O ih A W ht Z (u0 (M9 (Rz k) _) hk) J pp.1 pp.2 (yK hp) F (aw (AH.set_self _ _ _) hs) ?_ (λl H' rs li x hf hT=>?_) (D.NN c) _ H2 [] [] (λ_ h=>h) ⟨rfl,rfl,rfl,rfl,rfl⟩ (G.trans' x2) e2 (x2 _ _ (AH.set_self _ _ _)) trivial rfl)
   .rw[<- tgt];exact u0 (gk (pW O) _ _ _) hb
   .exact cb (.var li.found) (q H' fl rs x F hf (by rw[tgt];exact hT))
end
end
section
variable{ks:List V}
noncomputable def aJ(tb:bw):V:=.tup (aH (aY tb))
def itemOK(v:V):Prop:=∃(s:String)(i:Nat),v=.tup [.str s,iv i]
theorem itemOK.cmp{x y:V}(B:itemOK x)(F:itemOK y):cy x y=true:=by refine sI B λs i aW=>?_;subst aW;refine sI F λt j bS=>?_;subst bS;rfl
theorem itemOK.key{x:V}(B:itemOK x):aQ x=true/\aD x=1/\lF x=true:=by refine sI B λs i cI=>?_;subst cI;exact(cH rfl rfl rfl)
theorem cN.items(h:cN k tb):∀x∈aY tb,itemOK x:=λx B=>by refine ah (w3.mp B) λp hp cW=>?_;subst cW;refine cf (h.ent p hp) λbS aW=>?_;obtain⟨s,e1⟩:=bS;refine bL aW λi e2=>?_;exact(zy s i (by rw[e1,e2]))
theorem cN.sort(h:cN k tb)(hk:k<64):sortable (aY tb) :=(qZ (by unfold aY;rw[u7];exact A6 h.len hk) (λx B=>⟨(h.items x B).key.1,by rw[(h.items x B).key.2.1];decide⟩) (.inr λx B=>(h.items x B).key.2.2) (λx B y F=>(h.items x B).cmp (h.items y F)))
theorem gN:∀{l:List V},(∀x∈l,aQ x=true)->bz l=true
 | [],_=>rfl
 |x::l,h=>by unfold bz;rw[h x y7,gN λy B=>h y (y9 _ B)];rfl
theorem fT{n:Nat}:∀{l:List V},(∀x∈l,aD x<=n)->bx l<=n
 | [],_=>E1 _
 |x::l,h=>by obtain B:=h x y7;obtain B:=fT (n:=n) λy F=>h y (y9 _ F);exact LH (by assumption) B
theorem qh:∀{l m:List V},(∀x∈l,itemOK x)->(∀x∈m,itemOK x)->fG l m=true
 | [],m,_,_=>by cases m <;> rfl
 |_::_,[],_,_=>rfl
 |x::l,y::m,B,F=>by unfold fG;rw[(B x y7).cmp (F y y7),qh (λz hz=>B z (y9 _ hz)) λz hz=>F z (y9 _ hz)];rfl
def substOK(v:V):Prop:=∃l,v=.tup l/\∀x∈l,itemOK x
def cN.subst(h:cN k tb):substOK (aJ tb):=(af _ rfl (λx B=>h.items x ((am _).mem_iff.mp B)))
theorem substOK.key{v:V}(h:substOK v):aQ v=true/\aD v<=2/\cV v=2:=by
 refine ah h λl G hl=>?_;subst G;obtain J:aQ (.tup l)=true:=by exact gN λx F=>(hl x F).key.1
 have O:aD (.tup l)<=2:=by obtain B:=fT (n:=1) λx F=>u4 (hl x F).key.2.1;exact LJ B
 exact(cH J O (by rw[gr,J,E4 (LK O:aD (.tup l)<=8)];rfl))
theorem substOK.cmp{v w:V}(h:substOK v)(g:substOK w):cy v w=true:=by refine ah h λl B hl=>?_;subst B;refine ah g λm F hm=>?_;subst F;unfold cy;exact qh hl hm
noncomputable def gF(ks:List V)(k:V):List V:=if lQ k ks then ks else ks++[k]
theorem kY{k:V}:lQ k ks=true↔k∈ks:=by
 delta lQ;rw[Rh];constructor
 .rintro⟨x,B,e⟩;rw[aP]at e;subst e;exact B
 .intro h;exact(af k h (bH k))
theorem yn(ks:List V)(k u:V):dput (ks.map λk=>(k,u)) k u=(gF ks k).map λk=>(k,u):=by
 unfold dput gF;have e:(ks.map λk=>(k,u)).any (λp=>cu p.1 k)=lQ k ks:=by rw[List.any_map];rfl
 rw[e];cases lQ k ks with
 |true =>simp only[if_true,List.map_map];apply I5;intro x _;show(if cu x k=true then(x,u)else(x,u))=(x,u);split <;> rfl
 |false=>simp
theorem nH{k x:V}:x∈gF ks k↔x∈ks\/x=k:=by
 unfold gF;cases h:lQ k ks with
 |true =>obtain B:=kY.mp h;exact⟨.inl,λz=>z.elim id λe=>e▸B⟩
 |false=>simp
theorem rm(h:ks.Nodup)(k:V):(gF ks k).Nodup:=by
 unfold gF;cases e:lQ k ks with
 |true=>exact h
 |false =>rw[if_neg D0];rw[J1];refine(cH h (by simp) (λx B y F=>?_));rw[A4.mp F];rintro rfl;rw[kY.mpr B]at e;exact Gs e
theorem uZ(ks:List V)(k:V):(gF ks k).length<=ks.length+1:=by unfold gF;split <;> simp
noncomputable def gL(D:HD)(p:V)(c:Nat):List V:=aH (aM ((dq D.NN p c []).map aJ))
theorem CallS.frame{d:Nat}{f:Addr}{H:AH}{Q:b8}{a:Addr}{o:AO}(h0:H a=none)(c:CallS σ d f vs H λv H'=>H' a=none->Q v (H'.set a o)):CallS σ d f vs (H.set a o) Q:=λX hX A s cvs r R Γ V=>by
 obtain B:=R.fresh a o (AH.set_self _ _ _);refine ah (R.obj a o (AH.set_self _ _ _)) λob e1 e2=>?_;have ne:∀{b x},H b=some x->b≠a:=λh z=>by rw[z,h0]at h;exact ns h
 obtain G:aF ⟨σ,X,hX⟩ H s.heap:=⟨R.base,λb x h=>R.fresh b x (by rw[r7 _ _ (ne h)];exact h),λb x h=>R.obj b x (by rw[r7 _ _ (ne h)];exact h),R.ex⟩;refine RN (c X hX A s cvs r G Γ V) λO s' hr=>?_;unfold uW at *;split at hr
 .refine bM hr λv H' q Y S=>?_;have J:H' a=none:=by
   rcases z:H' a with _|y
   .rfl
   .exact(S.dom a y z).elim (λz=>absurd h0 z) λz=>nn z e1
  obtain F:=S.keep a ob e1 h0 id;refine⟨v,H'.set a o,q J,Y,S.gens,S.os,λb x h B _=>S.keep b x h (by
   by_cases z:b=a
   .rw[z,AH.set_self]at B;exact sn B
   .rwa [r7 _ _ z]at B) id,λb x h=>?_,λb h=>?_,S.live,S.tup,⟨S.rel.base,λb x h=>?_,λb x h=>?_,S.rel.ex⟩⟩
  .by_cases z:b=a
   .rw[z,AH.set_self];exact .inl sn
   .rw[r7 _ _ z]at h ⊢;exact S.dom b x h
  .by_cases z:b=a
   .rw[z,AH.set_self];exact sn
   .rw[r7 _ _ z]at h ⊢;exact S.mono b h
  .by_cases z:b=a
   .rw[z];exact B
   .rw[r7 _ _ z]at h;exact S.rel.fresh b x h
  .by_cases z:b=a
   .rw[z,AH.set_self]at h;obtain rfl:=w4 h;rw[z];exact af ob F (e2.keep S.tup)
   .rw[r7 _ _ z]at h;exact S.rel.obj b x h
 .exact hr.elim
theorem MCall.frame{d:Nat}{c m:String}{H:AH}{Q:b8}{a:Addr}{o:AO}(h0:H a=none)(h:MCall σ d c m vs H λv H'=>H' a=none->Q v (H'.set a o)):MCall σ d c m vs (H.set a o) Q:=let⟨f,e,x⟩:=h;⟨f,e,x.frame h0⟩
theorem AH.swap(H:AH){a b:Addr}(o u:AO)(h:a≠b):(H.set a o).set b u=(H.set b u).set a o:=funext λc=>by
 unfold AH.set;by_cases B:c=b
 .rw[if_pos B,if_neg (λz=>h (z.symm.trans B)),if_pos B]
 .rw[if_neg B,if_neg B]
section
variable{D:HD}
structure FIn(sp:Addr)(H2:AH)(ts:List bw)(l:Loc)(H:AH)(rem:List Addr)(trem:List bw)(ks:List V):Prop where
 hs:l "substs"=some (.ref sp)
 xb:ExtB sp H2 H
 hT:Tabs H2 rem trem
 hm:∀tb∈trem,tb∈ts
 hd:H sp=some (.dict (ks.map λk=>(k,V.bool true)))
 hnd:ks.Nodup
 hok:∀k∈ks,substOK k
 hl:ks.length+trem.length<=ts.length
 iff:∀x,(x∈ks\/x∈trem.map aJ)↔x∈ts.map aJ
theorem Gg{H:AH}{sp r:Addr}{H2:AH}{ts:List bw}{rem:List Addr}{trem:List bw}{d:Nat}(h:FIn sp H2 ts l H (r::rem) (tb::trem) ks)(Y:H2 sp=none)(hI:∀tb∈ts,cN 60 tb)(hz:ts.length<=2^18) (hk:∀l' H' ks',FIn sp H2 ts l' H' rem trem ks'->au σ d rest l' H' K):au σ d (.asg (.ix q5 (.prim .tuple (.prim .sortedItems g9))) m5::rest) (l.put "table" (.ref r)) H K:=by
 have B:=hI tb (h.hm tb y7);obtain ad:H r=some (.dict tb):=h.xb _ _ (λz=>nn Y (z▸h.hT.1)) h.hT.1;refine(af _ ((ag _ _ (by decide)).trans h.hs) (af _ (aq _ _ _) (iw tb ad B.str (B.sort (by decide)) (λs1 J=>?_))));obtain Q:sp≠s1:=λz=>by rw[<- z,h.hd]at J;exact sn J
 have O:(aH (aY tb)).length<=16384:=by rw[(am _).length_eq];exact LQ (B.sort (by decide)).1
 obtain G:=B.subst;obtain Z:keyFits (ks.map λk=>(k,V.bool true)) (aJ tb):=⟨by rw[G.key.2.2];decide,λq hq=>ah (w3.mp hq) λk' F zq=>by subst zq;rw[G.key.2.2];exact(h.hok k' F).key.2.2⟩;have hl:=h.hl;rw[Q6]at hl;refine(aN _ (AH.set_self _ _ _) O (af sp rfl (.inr (iw _ ((r7 _ _ Q).trans h.hd) Z (by rw[u7];exact E9 (E9 (A6 (G5 _ _) (K6 _)) hl) (u0 hz (by decide))) (hk _ _ (gF ks (aJ tb)) ⟨(ag _ _ (by decide)).trans h.hs,λa o ha e=>?_,h.hT.2,λtb' h'=>h.hm tb' (y9 _ h'),?_,rm h.hnd _,λk' F=>?_,?_,λx=>?_⟩)))))
 .rw[r7 _ _ ha];exact(y3 _ J) _ _ (h.xb a o ha e)
 .rw[AH.set_self,yn];rfl
 .exact(nH.mp F).elim (h.hok k') λh=>h▸G
 .exact LR hl (uZ ks (aJ tb))
 .rw[<- h.iff x,nH,E2,C0,or_assoc]
theorem vh(T:Txt σ)(O:D.Ok){p:V}(hp:aD p<=m){H:AH}{Q:b8}(A:D.At H)(W:dt H wk "Walker" wd [("heap",.ref D.hp)])(av:fx p=true)(hz:yY p<60)(hb:60^nv p<=2^18)(hc:c<D.n) (hso:sortable (aM ((dq D.NN p (D.r c) []).map aJ))) (q:Lst H Q (gL D p (D.r c))):MCall σ (5+m) "Walker" "found_in" [.ref wk,iv c,p] H Q:=by
 refine(aE (d:=4+m) T.ok T.Walker_found_in rfl ?_).room LL;obtain Y:∀{P:V×V->Prop},∀p∈([]:List (V×V)),P p:=λ_ h=>absurd h A7;refine(FE dictOK.nil Y rfl (by decide) (λsp F=>(af _ rfl (af _ rfl (QS _ (cB (W.ext (y3 _ F)) rfl T.Walker_extended.some) dictOK.nil Y rfl (by decide) (λtp G=>?_))))));have ar:tp≠sp:=λz=>by rw[z,AH.set_self]at G;exact sn G
 have a0:H tp=none:=by rw[r7 _ _ ar]at G;exact G
 obtain x1:Ext H ((H.set sp (.dict [])).set tp (.dict [])):=(y3 _ F).trans' (y3 _ G);obtain x0:Ext H (H.set tp (.dict [])):=y3 _ a0;refine(af _ rfl (kE (W.ext x1) (by rw[T.fWalker];simp) rfl (af _ (cB (A.ext x1).heap rfl T.Heap_find.some) (af _ rfl ((kH T (A.ext x1) O hc ⟨_,rfl,?_⟩).room LM)))));rw[AH.swap H _ _ ar.symm];refine MCall.frame (σ:=σ) (H:=H.set tp (.dict [])) (a:=sp) (o:=.dict []) (by rw[r7 _ _ ar.symm];exact F) ?_;refine vg T O m p hp _ _ _ _ _ _ _ 0 (A.ext x0) (W.ext x0) av (AH.set_self _ _ _) ⟨Y,A8 _⟩ (LN hz) hb (oT O hc) (O.rle c hc).2 λH2 l rs x2 hl el tl ad=>?_;obtain hlen:=tl.length;have hts:(dq D.NN p (D.r c) []).length<=2^18:=u0 (gk (pW O) p (D.r c) []) hb;have hI:∀tb∈dq D.NN p (D.r c) [],cN 60 tb:=λtb htb=>(nV p (D.r c) (k:=0) (tb:=[]) ⟨Y,A8 _⟩ tb htb).mono (LO hz);have as:l≠sp:=λz=>by rw[z,ad]at el;exact ns el
 refine(aN _ ((r7 _ _ as).trans el) (by rw[u7];exact LP (gk (pW O) p (D.r c) []) hlen hb) ?_);refine fj (src:=some (l,rs.map V.ref)) (λxs l' H'=>∃rem trem ks,xs=rem.map V.ref/\FIn sp H2 (dq D.NN p (D.r c) []) l' H' rem trem ks)
  (λxs l' H' h=>nC h λ_ _ _ _ h=>h.xb _ _ as el) (λx xs l' H' k h hk=>nC h λrem trem ks ex g=>?_) (λl' H' h=>nC h λrem trem ks ex h=>?_) _ _ _ (zz rs _ [] rfl ⟨rfl,λ_ _ ha e=>(r7 _ _ ha).trans e,tl,λ_ h=>h,AH.set_self _ _ _,L8,λ_ h=>absurd h A7,u4 (Q0 _),λx=>⟨λz=>z.elim (λz=>absurd z A7) id,.inr⟩⟩)
 .rcases rem with _|⟨r1,rem⟩
  .exact(G0 _ _ ex).elim
  rcases trem with _|⟨tb,trem⟩
  .exact g.hT.elim
  refine cf (I9 ex) λcI cW=>?_;subst cI;subst cW;exact(af _ rfl (Gg (rest:=[]) g ad hI hts λl3 H3 ks3 h3=>hk _ _ (zz rem trem ks3 rfl h3)))
 .rcases rem with _|⟨r1,rem⟩
  .rcases trem with _|⟨tb,trem⟩
   .have J:ks.Perm (aM ((dq D.NN p (D.r c) []).map aJ)):=(Rb h.hnd (bJ _)).mpr λx=>by rw[aZ,<- h.iff x];exact⟨.inl,λz=>z.elim id λz=>absurd z A7⟩
    have B:(ks.map λk=>(k,V.bool true)).map (·.1)=ks:=by rw[J0];exact(I5 λx _=>rfl).trans (List.map_id ks)
    obtain Z:=hso.perm J;refine(af _ h.hs (.inr (aN _ h.hd (by rw[B];exact Z) ?_)));rw[B];rw(config:={}) [gg (λx hx y hy=>Z.2.2.2 x (J.mem_iff.mpr hx) y (J.mem_iff.mpr hy)) J];refine Lst.fresh λH3 c3 x3 h3 e3=>q H3 c3 (Ext.trans' (λa o e=>h.xb a o (aw e F) ((x0.trans' x2) a o e)) x3) ?_ e3;rcases z:H c3 with _|o
    .rfl
    .obtain an:=h.xb c3 o (aw z F) ((x0.trans' x2) c3 o z);rw[h3]at an;exact ns an
   .exact h.hT.elim
  .exact(G0 _ _ ex.symm).elim
end
end
noncomputable def ly(D:HD)(p:V):List V:=D.roots.flatMap λc=>(gL D p c).map λs=>.tup [iv c,s]
structure Askable(D:HD)(p:V):Prop where
 pat:fx p=true
 sz:yY p<60
 big:60^nv p<=2^18
 so:∀c∈D.roots,sortable (aM ((dq D.NN p c []).map aJ))
def tA(D:HD)(p:V)(c:Nat):(gL D p c).length=(aM ((dq D.NN p c []).map aJ)).length:=(am _).length_eq
theorem iO{H:AH}(x:Ext H H'){a:Addr}(h:H' a=none):H a=none:=by
 rcases z:H a with _|o
 .rfl
 .have:=x _ _ z;rw[h]at this;exact ns this
section
variable{D:HD}
theorem Cy(T:Txt σ)(O:D.Ok){p:V}(hp:aD p<=m){H:AH}{Q:b8}(A:D.At H)(W:dt H wk "Walker" wd [("heap",.ref D.hp)])(K:Askable D p)(q:Lst H Q (ly D p)):MCall σ (6+m) "Walker" "found" [.ref wk,p] H Q:=by
 refine(aE (d:=5+m) T.ok T.Walker_found rfl ?_).room LS;obtain hn:D.n<=60:=O.nz;obtain ad:=D.roots_len;refine(af _ rfl (kE W (by rw[T.fWalker];simp) rfl (af _ (cB A.heap rfl T.Heap_classes.some) ((vi T A O λH1 l1 x1 hl1 e1=>⟨_,e1,by rw[u7];exact Lw ad hn,λc hc=>(af c rfl ?_)⟩).room LT))));obtain A1:=A.ext x1;obtain W1:=W.ext x1;have J:∀c∈D.roots,((gL D p c).map λs=>V.tup [iv c,s]).length<=64:=λc hc=>by rw[u7,tA];exact D5 (K.so c hc).1
 obtain tot:(ly D p).length<=60*64:=u0 (cr _ 64 D.roots J) (Q8 _ (LU ad hn));refine qi (src:=some (l1,_)) (H0:=H1) (hsrc:=e1) iv (λc=>(gL D p c).map λs=>.tup [iv c,s]) D.roots [] _ (y3 _ hc) (AH.set_self _ _ _) ?_ (λi hi H' ws' k x2 B hl' hk=>?_) λH' x' B=>?_
 .rw[List.length_nil,Q0];exact A6 tot (by decide)
 .obtain⟨hin,Y⟩:=HD.mem_roots.mp hi;refine(af _ rfl (af _ ?_ (af _ (cB (W1.ext x2) rfl T.Walker_found_in.some) (af _ (aq _ _ _) (af _ ?_ (vh T O hp (A1.ext x2) (W1.ext x2) K.pat K.sz K.big hin (by rw[Y];exact K.so i hi) λH3 l3 x3 Z e3=>?_))))))
  .rw[ag _ _ (by decide),bF _ (by decide)];rfl
  .rw[ag _ _ (by decide),bF _ (by decide)];rfl
  rw[Y]at e3;obtain F:=J i hi;rw[u7]at F hl';refine(aN _ e3 (LV F) ?_);have hc3:=x3 _ _ B;have hne:l3≠c:=λz=>by rw[z,B]at Z;exact sn Z
  refine nI (src:=some (l3,_)) (c:=c) (λs=>.tup [iv i,s]) (H3:=H3) (λH4 xb=>xb _ _ hne e3) _ ws' H3 (λ_ _ _ e=>e) hc3 (by assumption) (λy hy H4 ws4 k4 xb G hl4 hk4=>?_) λH4 xb G=>?_
  .refine(af _ rfl ?_);refine Ea (ir rfl ?_);refine(af _ ?_ (af _ (aq _ _ _) (aN _ G hl4 hk4)));rw[ag _ _ (by decide),bF _ (by decide)];exact aq _ _ _
  .exact hk H4 (λa o e=>xb a o (aw e hc) ((x2.trans' x3) a o e)) G
 .rw[List.nil_append]at B;exact q H' c (x1.trans' x') (iO x1 hc) B
end
structure Frm(H H':AH)(A A':List Addr):Prop where
 out:∀x o,H x=some o->x∉A->H' x=some o
 new:∀x∈A',x∈A\/H x=none
def Frm.refl{H:AH}{A:List Addr}:Frm H H A A:=⟨λ_ _ e _=>e,λ_ h=>.inl h⟩
def Ext.frm{H:AH}{A:List Addr}(x:Ext H H'):Frm H H' A A:=⟨λ_ _ e _=>x _ _ e,λ_ h=>.inl h⟩
theorem Frm.trans{H H'':AH}{A A' B:List Addr}(x:Frm H H' A A')(y:Frm H' H'' A' B):Frm H H'' A B:=by
 refine⟨λa o e ha=>y.out a o (x.out a o e ha) λh'=>?_,λa h=>?_⟩
 .rcases x.new a h' with h|h
  .exact ha h
  .rw[e]at h;exact sn h
 .rcases y.new a h with h|h
  .exact x.new a h
  .by_cases F:a∈A
   .exact .inl F
   .right;rcases z:H a with _|o
    .rfl
    .have:=x.out a o z F;rw[h]at this;exact ns this
theorem eP{f:α->β}{l:List α}{p B:α}(h:l[k]?=some p)(hf:f B=f p):(l.set k B).map f=l.map f:=by
 rw[List.map_set,hf];refine Ro λj=>?_;rw[M0];split
 .rename_i e;subst e;obtain hl:=(A9.mp h).1;rw[C5,h];simp[hl]
 .rfl
namespace HD
variable{D:HD}{H:AH}
theorem At.ne(A:D.At H){p q:Addr×AO}(hi:D.objs[i]?=some p)(J:D.objs[j]?=some q)(h:i≠j):p.1≠q.1:=by obtain nd:=A.nd;unfold HD.adr at nd;intro e;obtain⟨a,F⟩:=A9.mp hi;obtain⟨b,G⟩:=A9.mp J;obtain B:=(List.getElem_inj (h₀:=by simpa using a) (h₁:=by simpa using b) nd).mp (by simp[F,G,e]);exact h B
theorem At.set(A:D.At H)(i:Nat){a:Addr}{o o':AO}(e:D.objs[i]?=some (a,o))(e':D'.objs=D.objs.set i (a,o')):D'.At (H.set a o')/\D'.adr=D.adr:=by
 have B:D'.adr=D.adr:=by
  unfold HD.adr;rw[e',List.map_set];refine Ro λj=>?_;rw[M0];split
  .rename_i h;subst h;obtain⟨hl,J⟩:=A9.mp e;rw[C5,e];simp[hl]
  .rfl
 refine⟨⟨λp hp=>?_,B▸A.nd⟩,B⟩;rw[e']at hp;obtain⟨j,F⟩:=D8.mp hp;rw[M0]at F;split at F
 .split at F
  .obtain rfl:=w4 F;exact AH.set_self _ _ _
  .exact ns F
 .rename_i h;obtain G:=A.ne F e (R5 h);rw[r7 _ _ G];exact A.all p (B0 F)
theorem At.mem(A:D.At H){a:Addr}{o:AO}(e:D.objs[i]?=some (a,o)):a∈D.adr:=w3.mpr (af _ (B0 e) rfl)
theorem At.setF(A:D.At H)(i:Nat){a:Addr}{o o':AO}(e:D.objs[i]?=some (a,o))(e':D'.objs=D.objs.set i (a,o')):D'.At (H.set a o')/\Frm H (H.set a o') D.adr D'.adr:=by
 refine cf (A.set i e e') λA' F=>?_;refine⟨A',λx o B G=>?_,λx B=>.inl (F▸B)⟩;rw[r7]
 .exact B
 .rintro rfl;exact G (A.mem e)
def At.known'(A:D.At H)(k:List (Nd×Nat)):(D.sKnown k).At (H.set D.kp (.dict (k.map λp=>(ak p.1,iv p.2))))/\Frm H (H.set D.kp (.dict (k.map λp=>(ak p.1,iv p.2)))) D.adr (D.sKnown k).adr:=A.setF 15 rfl rfl
def At.wait'(A:D.At H)(k:List Nat):(D.sWait k).At (H.set D.wp (.list (k.map iv)))/\Frm H (H.set D.wp (.list (k.map iv))) D.adr (D.sWait k).adr:=A.setF 17 rfl rfl
def At.edg'(A:D.At H)(k:List V):(D.sEdg k).At (H.set D.ep (.list k))/\Frm H (H.set D.ep (.list k)) D.adr (D.sEdg k).adr:=A.setF 13 rfl rfl
def At.frs'(A:D.At H)(k:List V):(D.sFrs k).At (H.set D.fp (.list k))/\Frm H (H.set D.fp (.list k)) D.adr (D.sFrs k).adr:=A.setF 14 rfl rfl
def At.mrg'(A:D.At H)(k:List V):(D.sMrg k).At (H.set D.gp (.list k))/\Frm H (H.set D.gp (.list k)) D.adr (D.sMrg k).adr:=A.setF 12 rfl rfl
def At.par'(A:D.At H)(k:List Nat):(D.sPar k).At (H.set D.ua (.list (k.map iv)))/\Frm H (H.set D.ua (.list (k.map iv))) D.adr (D.sPar k).adr:=A.setF 10 rfl rfl
def At.nums'(A:D.At H)(k:List (V×V)):(D.sNums k).At (H.set D.mp (.dict k))/\Frm H (H.set D.mp (.dict k)) D.adr (D.sNums k).adr:=A.setF 7 rfl rfl
def At.nodes'(A:D.At H)(k:List Nd):(D.sNodes k).At (H.set D.np (.list (k.map ak)))/\Frm H (H.set D.np (.list (k.map ak))) D.adr (D.sNodes k).adr:=A.setF 6 rfl rfl
def At.ws'(A:D.At H)(k:List Int):(D.sWs k).At (H.set D.qp (.list (k.map .int)))/\Frm H (H.set D.qp (.list (k.map .int))) D.adr (D.sWs k).adr:=A.setF 8 rfl rfl
def At.ds'(A:D.At H)(k:List Int):(D.sDs k).At (H.set D.dp (.list (k.map .int)))/\Frm H (H.set D.dp (.list (k.map .int))) D.adr (D.sDs k).adr:=A.setF 9 rfl rfl
theorem ga{l m:List α}{n:Nat}(h:l.length=n):(l++m)[n+k]?=m[k]?:=by rw[List.getElem?_append_right (h▸G5 ..),h,Nat.add_sub_cancel_left]
theorem gl{l m:List α}{x:α}(h:l[k]?=some x):(l++m)[k]?=some x:=by rw[List.getElem?_append_left (A9.mp h).1];exact h
theorem gm{l:List α}{x:α}(f:α->β)(h:l[k]?=some x):(l.map f)[k]?=some (f x):=by rw[C5,h];rfl
theorem gs{l m:List α}{n:Nat}{x:α}(h:l.length=n):(l++m).set (n+k) x=l++m.set k x:=by rw[List.set_append_right _ _ (h▸G5 ..),h,Nat.add_sub_cancel_left]
def gt{l m:List α}{x y:α}(h:l[k]?=some y):(l++m).set k x=l.set k x++m:=List.set_append_left _ _ (A9.mp h).1
def objs_lot{p:Addr×List Nat}(h:D.lots[k]?=some p):D.objs[18+k]?=some (p.1,.list (p.2.map iv)):=(ga rfl).trans (gl (gm fo h))
theorem objs_ab{p:Nat×Addr×List Nat}(h:D.ab[k]?=some p):D.objs[18+D.lots.length+k]?=some (p.2.1,.list (p.2.2.map iv)) :=(C3 (D.objs[·]?) (O7 ..)).trans ((ga rfl).trans ((ga (u7 _)).trans (gm fa h)))
theorem At.lot'(A:D.At H){x:Addr}{ns:List Nat}(h:D.lots[k]?=some (x,ns))(ms:List Nat) : (D.sLots (D.lots.set k (x,ms))).At (H.set x (.list (ms.map iv)))/\Frm H (H.set x (.list (ms.map iv))) D.adr (D.sLots (D.lots.set k (x,ms))).adr:=by refine A.setF (18+k) (objs_lot h) ?_;show D.hhL ((D.lots.set k (x,ms)).map λp=>V.ref p.1) D.abv++((D.lots.set k (x,ms)).map fo++D.ab.map fa)=(D.hhL (D.lots.map λp=>V.ref p.1) D.abv++(D.lots.map fo++D.ab.map fa)).set (18+k) _;have e:(D.lots.set k (x,ms)).map (λp=>V.ref p.1)=D.lots.map λp=>V.ref p.1:=eP h rfl;rw[e,List.map_set,gs (n:=18) (l:=D.hhL _ _) rfl,gt (gm fo h)]
theorem At.abl'(A:D.At H){x:Addr}{ns:List Nat}(h:D.ab[k]?=some (i,x,ns))(ms:List Nat) : (D.sAb (D.ab.set k (i,x,ms))).At (H.set x (.list (ms.map iv)))/\Frm H (H.set x (.list (ms.map iv))) D.adr (D.sAb (D.ab.set k (i,x,ms))).adr:=by refine A.setF (18+D.lots.length+k) (objs_ab h) ?_;show D.hhL _ ((D.ab.set k (i,x,ms)).map λp=>(iv p.1,V.ref p.2.1))++(D.lots.map fo++(D.ab.set k (i,x,ms)).map fa)=(D.hhL _ (D.ab.map λp=>(iv p.1,V.ref p.2.1))++(D.lots.map fo++D.ab.map fa)).set (18+D.lots.length+k) _;have e:(D.ab.set k (i,x,ms)).map (λp=>(iv p.1,V.ref p.2.1))=D.ab.map λp=>(iv p.1,V.ref p.2.1):=eP h rfl;rw[e,List.map_set,O7,gs (n:=18) (l:=D.hhL _ _) rfl,gs (u7 _)]
end HD
section
variable{x:Addr}
namespace HD
variable{D:HD}{H:AH}
theorem rE(D:HD):D.objs.drop 18=D.lots.map fo++D.ab.map fa:=rfl
theorem At.addL(A:D.At H){a:Addr}{o ob ob':AO}(hx:H x=none)(e:D.objs[i]?=some (a,ob))(hi:i<18)(e1:D'.objs.take 18=(D.objs.take 18).set i (a,ob'))(e2:∀p∈D'.objs.drop 18,p=(x,o)\/p∈D.objs.drop 18) (e3:((D'.objs.drop 18).map (·.1)).Nodup) (h1:H' x=some o) (h2:H' a=some ob') (Q:∀b y,b≠a->H b=some y->H' b=some y):D'.At H'/\Frm H H' D.adr D'.adr:=by
 obtain nd:=A.nd;obtain Y:∀p∈D.objs,p.1≠x:=λp hp z=>by obtain G:=A.all p hp;rw[z,hx]at G;exact ns G
 have tk:∀p∈D'.objs.take 18,p=(a,ob')\/∃j,j≠i/\j<18/\D.objs[j]?=some p:=λp hp=>by
  rw[e1]at hp;refine bL (D8.mp hp) λj B=>?_;rw[M0]at B;split at B
  .split at B
   .obtain rfl:=w4 B;exact .inl rfl
   .exact ns B
  .rename_i h;rw[List.getElem?_take]at B;split at B
   .rename_i J;exact .inr (aN j (R5 h) J B)
   .exact ns B
 obtain dr:∀p∈D.objs.drop 18,∃j,18<=j/\D.objs[j]?=some p:=λp hp=>by refine bL (D8.mp hp) λj B=>?_;rw[Q1]at B;exact(af (18+j) (by exact LW) B)
 have O:(D'.objs.take 18).map (·.1)=(D.objs.take 18).map (·.1):=by rw[e1];exact eP (p:=(a,ob)) (by rw[List.getElem?_take,if_pos hi];exact e) rfl
 have e':D'.adr=(D.objs.take 18).map (·.1)++(D'.objs.drop 18).map (·.1):=by rw[<- O,<- C7,Rf];rfl
 have Z:D.adr=(D.objs.take 18).map (·.1)++(D.objs.drop 18).map (·.1):=by rw[<- C7,Rf];rfl
 refine⟨⟨λp hp=>?_,?_⟩,⟨λb y F hn=>Q b y ?_ F,λb F=>?_⟩⟩
 .rw[<- Rf 18 D'.objs]at hp;rcases D9.mp hp with hp|hp
  .rcases tk p hp with rfl|⟨j,B,J,hp⟩
   .exact h2
   .exact Q _ _ (A.ne hp e B) (A.all p (B0 hp))
  .rcases e2 p hp with rfl|hp
   .exact h1
   .refine ah (dr p hp) λj B hp=>?_;exact Q _ _ (A.ne hp e (LX B hi)) (A.all p (B0 hp))
 .rw[Z,J1]at nd;rw[e',J1];refine⟨nd.1,e3,λb F c hc=>?_⟩;refine ah (w3.mp hc) λp hp aW=>?_;subst aW;rcases e2 p hp with rfl|hp
  .refine ah (w3.mp F) λq hq bS=>?_;subst bS;exact Y q (List.mem_of_mem_take hq)
  .exact nd.2.2 b F _ (w3.mpr (af p hp rfl))
 .rintro rfl;exact hn (A.mem e)
 .rw[e']at F;rcases D9.mp F with F|F
  .exact .inl (by rw[Z];exact G3 _ F)
  .refine ah (w3.mp F) λp hp cI=>?_;subst cI;rcases e2 p hp with rfl|hp
   .exact .inr hx
   .exact .inl (w3.mpr (af p (List.mem_of_mem_drop hp) rfl))
theorem At.nd18(A:D.At H):((D.objs.drop 18).map (·.1)).Nodup:=by
 obtain nd:=A.nd;have B:D.adr=(D.objs.take 18).map (·.1)++(D.objs.drop 18).map (·.1):=by rw[<- C7,Rf];rfl
 rw[B,J1]at nd;exact nd.2.1
theorem At.fresh(A:D.At H)(B:H x=none):x∉(D.objs.drop 18).map (·.1):=λhm=>ah (w3.mp hm) λp hp e=>by
 have:=A.all p (List.mem_of_mem_drop hp)
 rw[e,B]at this;exact ns this
theorem tQ{y:AO}{l m:List (Addr×AO)}(h:x∉(l++m).map (·.1))(nd:((l++m).map (·.1)).Nodup):((l++[(x,y)]++m).map (·.1)).Nodup:=by rw[K7];exact((List.perm_middle (a:=(x,y))).map (·.1)).nodup_iff.mpr (E8.mpr ⟨h,nd⟩)
theorem At.addLot(A:D.At H)(ns:List Nat)(B:H x=none)(F:H' x=some (.list (ns.map iv)))(G:H' D.lp=some (.list ((D.lots.map λp=>V.ref p.1)++[.ref x])))(J:∀b y,b≠D.lp->H b=some y->H' b=some y) : (D.sLots (D.lots++[(x,ns)])).At H'/\Frm H H' D.adr (D.sLots (D.lots++[(x,ns)])).adr:=by
 obtain e:(D.sLots (D.lots++[(x,ns)])).objs.drop 18=D.lots.map fo++[fo (x,ns)]++D.ab.map fa:=C3 (·++D.ab.map fa) C7;refine A.addL (i:=11) (o:=.list (ns.map iv)) (ob':=.list ((D.lots.map λp=>V.ref p.1)++[.ref x])) B rfl (by decide) ?_ (λp hp=>?_) (e▸tQ (A.fresh B) A.nd18) F G J
 .show D.hhL ((D.lots++[(x,ns)]).map λp=>V.ref p.1) D.abv=D.hhL (_++[.ref x]) D.abv;rw[C7];rfl
 .rw[e]at hp;show p=_\/p∈D.lots.map fo++D.ab.map fa;rcases D9.mp hp with hp|hp
  .exact(D9.mp hp).symm.imp A4.mp (G3 _)
  .exact .inr (G1 _ hp)
theorem At.addAb(A:D.At H)(k:Nat)(ns:List Nat)(B:H x=none)(F:H' x=some (.list (ns.map iv)))(G:H' D.ap=some (.dict (D.abv++[(iv k,.ref x)])))(J:∀b y,b≠D.ap->H b=some y->H' b=some y) : (D.sAb (D.ab++[(k,x,ns)])).At H'/\Frm H H' D.adr (D.sAb (D.ab++[(k,x,ns)])).adr:=by
 have e:(D.sAb (D.ab++[(k,x,ns)])).objs.drop 18=(D.objs.drop 18)++[fa (k,x,ns)]:=(C3 (D.lots.map fo++·) C7).trans (K7 ..).symm;refine A.addL (i:=16) (o:=.list (ns.map iv)) (ob':=.dict (D.abv++[(iv k,.ref x)])) B rfl (by decide) ?_ (λp hp=>?_) ?_ F G J
 .show D.hhL _ ((D.ab++[(k,x,ns)]).map λp=>(iv p.1,V.ref p.2.1))=D.hhL _ (_++[(iv k,.ref x)]);rw[C7];rfl
 .rw[e]at hp;exact(D9.mp hp).symm.imp_left A4.mp
 .obtain n:=tQ (x:=x) (y:=.list (ns.map iv)) (l:=D.objs.drop 18) (m:=[]);rw[H8,H8]at n;rw[e];exact n (A.fresh B) A.nd18
noncomputable def abJoin(ab:List (Nat×Addr×List Nat))(B F:Nat)(x:Addr)(ns:List Nat):List (Nat×Addr×List Nat):=(ab.filter λp=>p.1≠F).map λp=>if p.1=B then(B,x,ns)else p
theorem At.joinAb(A:D.At H)(B F:Nat)(ns:List Nat)(hk:(D.ab.map (·.1)).Nodup)(hx:H x=none)(h1:H' x=some (.list (ns.map iv)))(h2:H' D.ap=some (.dict ((abJoin D.ab B F x ns).map λp=>(iv p.1,.ref p.2.1))))(h3:∀b y,b≠D.ap->H b=some y->H' b=some y) : (D.sAb (abJoin D.ab B F x ns)).At H'/\Frm H H' D.adr (D.sAb (abJoin D.ab B F x ns)).adr:=by
 obtain nd:=A.nd18;obtain O:=A.fresh hx;refine A.addL (D':=(D.sAb (abJoin D.ab B F x ns))) (i:=16) (o:=.list (ns.map iv)) (ob':=.dict ((abJoin D.ab B F x ns).map λp=>(iv p.1,.ref p.2.1))) hx rfl (by decide) rfl (λp hp=>?_) ?_ h1 h2 h3
 .rw[rE]at hp ⊢;rcases D9.mp hp with hp|hp
  .exact .inr (G3 _ hp)
  .refine ah (w3.mp hp) λq hq cW=>?_;subst cW;refine ah (w3.mp hq) λr hr eJ=>?_;subst eJ;by_cases J:r.1=B
   .rw[if_pos J];exact .inl rfl
   .rw[if_neg J];exact .inr (G1 _ (w3.mpr ⟨r,(I8.mp hr).1,rfl⟩))
 .rw[rE,C7,J1]at nd;rw[rE,C7,D9]at O;rw[rE,C7,J1];have Q:∀y∈(abJoin D.ab B F x ns).map λp=>p.2.1,y=x\/y∈D.ab.map λp=>p.2.1:=λy hy=>by
   refine ah (w3.mp hy) λq hq bS=>?_;subst bS;refine ah (w3.mp hq) λr hr Z=>?_;subst Z;by_cases J:r.1=B
   .rw[if_pos J];exact .inl rfl
   .rw[if_neg J];exact .inr (w3.mpr ⟨r,(I8.mp hr).1,rfl⟩)
  obtain m1:∀(l:List (Nat×Addr×List Nat)),(l.map λp=>(p.2.1,AO.list (p.2.2.map iv))).map (·.1)=l.map λp=>p.2.1:=λl=>by rw[J0];rfl
  rw[m1]at nd ⊢;rw[m1]at O;refine⟨nd.1,?_,λb hb c hc=>?_⟩
  .unfold abJoin;rw[J0];have key:∀(l:List (Nat×Addr×List Nat)),(l.map (·.1)).Nodup->(l.map λp=>p.2.1).Nodup->x∉(l.map λp=>p.2.1)->(l.map ((λp=>p.2.1)∘λp=>if p.1=B then(B,x,ns)else p)).Nodup:=by
    intro l;induction l with
    |nil=>intro _ _ _;exact L8
    |cons p l ih =>
     intro k1 k2 Y;rw[E2,E8]at k1 k2;rw[E2,C0,not_or]at Y;rw[E2,E8];refine⟨λhm=>?_,ih k1.2 k2.2 Y.2⟩;refine ah (w3.mp hm) λq hq e=>?_;simp only[Function.comp]at e;by_cases hp:p.1=B
     .rw[if_pos hp]at e;by_cases G:q.1=B
      .exact k1.1 (w3.mpr ⟨q,hq,by rw[G,hp]⟩)
      .rw[if_neg G]at e;exact Y.2 (w3.mpr ⟨q,hq,e⟩)
     .rw[if_neg hp]at e;by_cases G:q.1=B
      .rw[if_pos G]at e;exact Y.1 e
      .rw[if_neg G]at e;exact k2.1 (w3.mpr ⟨q,hq,e⟩)
   obtain sub:(D.ab.filter λp=>decide (p.1≠F)).Sublist D.ab:=List.filter_sublist;exact key _ ((sub.map _).nodup hk) ((sub.map _).nodup nd.2.1) λhm=>O (.inr ((sub.map _).subset hm))
  .rcases Q c hc with rfl|hc
   .rintro rfl;exact O (.inl hb)
   .exact nd.2.2 b hb c hc
end HD
end
theorem dQ(h:iv a=iv b):a=b:=by injection h with h;exact LY h
theorem jY:∀{l m:List Nat},l.map iv=m.map iv->l=m
 | [],[],_=>rfl
 | [],_::_,h=>by simp at h
 |_::_,[],h=>by simp at h
 |a::l,b::m,h=>by simp only[List.map_cons,List.cons.injEq]at h;rw[dQ h.1,jY h.2]
theorem lC{a b:Nd}(h:ak a=ak b):a=b:=by unfold ak at h;injection h with h;simp only[List.cons.injEq]at h;refine cf h λB F=>?_;injection B with B;exact Prod.ext B (jY F)
theorem gI{kvs:bw}{k:V}(h:∀p∈kvs,p.1≠k):ay kvs k=none:=by
 induction kvs with
 |nil=>rfl
 |cons p r B =>obtain⟨a,b⟩:=p;rw[aT,if_neg (by rw[aP];exact h (a,b) y7)];exact B λp hp=>h p (y9 _ hp)
theorem cO{kvs ws:bw}{k:V}(h:ay kvs k=none):ay (kvs++ws) k=ay ws k:=by
 induction kvs with
 |nil=>rfl
 |cons p r F =>
  obtain⟨a,b⟩:=p;rw[aT]at h;split at h
  .exact sn h
  .rename_i B;rw[List.cons_append,aT,if_neg B];exact F h
theorem ql:∀(l:List Nd)(k:Nat)(nd:Nd),(∃i,l[i]?=some nd/\ay ((l.zipIdx k).map λp=>(ak p.1,iv p.2)) (ak nd)=some (iv (k+i)))\/(nd∉l/\ay ((l.zipIdx k).map λp=>(ak p.1,iv p.2)) (ak nd)=none)
 | [],k,nd=>.inr ⟨by simp,rfl⟩
 |a::l,k,nd=>by
  rw[List.zipIdx_cons,E2,aT];by_cases h:a=nd
  .subst h;exact .inl (af 0 rfl (by rw[if_pos (bH _)];rfl))
  .rw[if_neg (by rw[aP];exactλz=>h (lC z))];rcases ql l (k+1) nd with⟨i,B,F⟩|⟨B,F⟩
   .exact .inl (af (i+1) (by exact B) (by rw[F];congr 2;exact EW))
   .exact .inr ⟨by simp;exact⟨λz=>h z.symm,B⟩,F⟩
theorem tL(f:α->β)(l:List α)(x:α):l.map f++[f x]=(l++[x]).map f:=by rw[C7];rfl
theorem II{p:String->Bool}(h:aG.all p=true){op:String}(ho:op∈aG):p op=true:=J5.mp h op ho
noncomputable def HD.take(D:HD)(nd:Nd)(w d:Int):HD:=((((D.sNums (D.nums++[(ak nd,iv D.n)])).sNodes (D.nodes++[nd])).sWs (D.ws++[w])).sDs (D.ds++[d]))
section
variable{H:AH}{Q:b8}{D:HD}
theorem CA(T:Txt σ){op:String}(ho:op∈aG)(q:∀H',Ext H H'->Q (.bool true) H'):FCall σ 1 "is_op" [.str op] H Q:=by
 have B:cu (.str op) (.str "")=false:=by rw[jv];exact E6 (B8 (II (p:=λs=>decide (s≠"")) (by decide) ho))
 refine bU T.ok T.is_op rfl (cM (BS (Ev.cmp (op:=.ne) (v:=.str op) (w:=.str "") (b:=true) (.var rfl) .cst (λQ q=>⟨jo _,jo _,by rw[B];exact q⟩) _ _ (af true rfl (ir rfl ?_)))));refine BV (uT (af _ rfl ⟨ho,?_⟩));refine je (src:=none) (K:=λc H1=>ba σ 0 (.lst .nil) (aR ["text"] [.str op]) H1 λw H2=>eZ H2 .eq (.ref c) w λt=>nD Q (.ret (.bool t)) (aR ["text"] [.str op]) H2) [op] V.str V.str (λ_=>false) trivial (show 1<2^20 by decide) (λs hs H' F x k=>?_) (λ_ _ h=>ai h) λc H' x h0 hc G hc2=>?_
 .obtain rfl:=A4.mp hs;exact hZ (k:=.str) (.var rfl) ⟨rfl,s,rfl⟩ .nil (qZ rfl rfl ⟨s,rfl,ho⟩ (af false rfl (fZ rfl (iw _ rfl rfl ⟨s,rfl,ho⟩ k))))
 .obtain e2:=(y3 (.list []) hc2) _ _ hc;exact(re ([]) ([]) e2 (AH.set_self _ _ _) ⟨rfl,E1 _⟩ ⟨rfl,E1 _⟩ (by rw[bH];exact q _ (x.trans' (y3 _ hc2))))
theorem sR{n:Nat}(q:Q (iv n) H):yf H Q .sub (iv (n+1)) (iv 1):=by show Q (.int (((n+1:Nat):Int)-((1:Nat):Int))) H;rw[show(((n+1:Nat):Int)-((1:Nat):Int))=n from Int.add_sub_cancel (n:Int) ((1:Nat):Int)];exact q
def zM{i j:Int}(q:Q (.int (i+j)) H):yf H Q .add (.int i) (.int j):=q
noncomputable def QJ(s:String):Bool:=decide (s∈jN)&&(match s.toList[0]? with|some c=>decide (String.ofList [c]≠"?")|none=>false)
theorem Dy{s:String}(h:QJ s=true):s∈jN/\∃c,s.toList[0]?=some c/\String.ofList [c]≠"?":=by
 obtain h:=aa h;refine⟨B8 h.1,?_⟩;have h:=h.2;rcases e:s.toList[0]? with _|c
 .rw[e]at h;exact ai h
 .rw[e]at h;exact(af c rfl (B8 h))
theorem yj(T:Txt σ){b:Addr}{op:String}(ho:op∈aG)(q:∀H',Ext H H'->Q .none H'):MCall σ 2 "Bank" "require" [.ref b,.str op] H Q:=by
 refine cf (Dy (II (by decide) ho)) λhw aW=>?_;refine ah aW λB e1 e2=>?_;refine ah (CA (H:=H) (Q:=λv H2=>∃t,v=.bool t/\(if(!t)=true then(λt H1=>if t=true then au σ 1 [.rais] (aR ["self","op"] [.ref b,.str op]) H1 (Sq σ 1 [] (nD Q))else au σ 1 [] (aR ["self","op"] [.ref b,.str op]) H1 (Sq σ 1 [] (nD Q))) true H2 else sD σ 1 (.cmp1 .eq (.idx g7 d5) m9) (aR ["self","op"] [.ref b,.str op]) H2 λt H1=>if t=true then au σ 1 [.rais] (aR ["self","op"] [.ref b,.str op]) H1 (Sq σ 1 [] (nD Q))else au σ 1 [] (aR ["self","op"] [.ref b,.str op]) H1 (Sq σ 1 [] (nD Q)))) T ho λH' x =>
  (af true rfl (fZ rfl (y5 (b:=false) ((y4 rfl).idx (v:=.str op) (w:=iv 0) .cst λ_ q=>⟨hw,(re 0 B rfl (by decide) (by decide) e1 q)⟩) .cst (λQ q=>rG _ _ _ _ (by rw[E6 e2];exact q)) _ _ (fZ rfl (q H' x)))))) λf e c=>?_
 exact aE T.ok T.Bank_require rfl (af f e (af _ rfl c))
theorem FP(T:Txt σ)(A:D.At H)(O:D.Ok){op:String}{ks:List Nat}(ho:op∈aG)(hk:ks.length<=2)(J:∀k∈ks,k<D.n)(hn:D.n<60)(hna:H na=some (.list (ks.map iv))) (q1:∀i,D.nodes[i]?=some (op,ks)->Q (iv i) H) (q2:(op,ks)∉D.nodes->∀H' w d,(D.take (op,ks) w d).At H'->Frm H H' D.adr (D.take (op,ks) w d).adr->Q (iv D.n) H') : MCall σ 3 "Bank" "take" [.ref D.bp,.str op,.ref na] H Q:=by
 obtain key:=cD (op,ks);have G:keyFits D.nums (ak (op,ks)):=by refine⟨by rw[key.2.2];decide,λp hp=>?_⟩;rw[O.nums]at hp;refine ah (w3.mp hp) λx _ bS=>?_;subst bS;rw[key.2.2];exact(cD _).2.2
 have B:∀{α:Type}(f:Nat->α),(ks.map f).length<=2:=λf=>u0 (u4 (u7 f)) hk;obtain Z:ks.length<2^20:=A6 hk (by decide);refine aE T.ok T.Bank_take rfl (lN (v:=ak (op,ks)) ((Ev.tup (.cons (.var rfl) .nil)).bin (Ev.prim (.var rfl) λ_ q=>aN _ hna (u0 (B iv) (by decide)) q) λ_ q=>⟨u0 (I6 (B iv) 1) (by decide),q⟩) ?_);have nums:∀{l:Loc}{H:AH},D.At H->l "self"=some (.ref D.bp)->Ev σ l H (.attr c7 "numbers") (.ref D.mp):=λA h=>mQ T A (.var h) (by decide) rfl;have cm:EvT σ ((aR ["self","op","kids"] [.ref D.bp,.str op,.ref na]).put "node" (ak (op,ks))) H (.cmp1 .isin d8 (.attr c7 "numbers")) (ay D.nums (ak (op,ks))).isSome:=y5 (.var rfl) (nums A rfl) λQ q=>.inr (aN _ A.nums G q);rcases ql D.nodes 0 (op,ks)with⟨i,h1,h2⟩|⟨h1,h2⟩
 .have F:ay D.nums (ak (op,ks))=some (iv i):=by rw[O.nums];rw[Q0]at h2;exact h2
  rw[F]at cm;exact fz cm (cb ((nums A rfl).idx (.var rfl) λ_ q=>cX A.nums G F q) (q1 i h1))
 have F:ay D.nums (ak (op,ks))=none:=by rw[O.nums];exact h2
 rw[F]at cm;refine dJ cm (eS (aS (.var rfl) A.bank rfl T.Bank_require.some (.cons (.var rfl) .nil) (yj T ho λH1 x1=>⟨trivial,?_⟩)));obtain A1:=A.ext x1;refine Ht (lv (.var rfl) (A6 (B iv) (by decide))) (u0 (B iv) (by decide)) (λv hv l' K' kp k=>?_) λl kp=>?_
 .refine ah (w3.mp hv) λr hr cI=>?_;subst cI;obtain hs:(l'.put "kid" (iv r)) "self"=some (.ref D.bp):=(kp.put _ (by decide)).trans rfl;exact dJ (y6 (b:=true) (EvT.cmp2 (.cst (v:=iv 0)) (.var rfl) (dj (mQ T A1 (.var hs) (by decide) rfl) A1.nodes (u7 _) (De O.nz)) (λ_ q=>(bR 0 r rfl rfl (by rw[E4 (K3 r)];exact q))) λ_ q=>(bR r _ rfl rfl (by rw[E4 (L0.mpr (J r hr))];exact q)))) (k _ kp.put)
 have hs:l "self"=some (.ref D.bp):=(kp _ (by decide)).trans rfl;have hnode:Ev σ l H1 d8 (ak (op,ks)):=.var ((kp _ (by decide)).trans rfl);obtain hnl:(D.nodes.map ak).length<2^20:=by rw[u7];exact E7 hn (by decide)
 obtain Y:D.nums.length<2^20:=by rw[O.nums];unfold oH;rw[u7,List.length_zipIdx];exact E7 hn (by decide)
 refine wA (dj (mQ T A1 (.var hs) (by decide) rfl) A1.nodes (u7 _) (De O.nz)) (nums A1 hs) hnode A1.nums G Y ?_;rw[cP F];refine cf (A1.nums' (D.nums++[(ak (op,ks),iv D.n)])) λB1 f1=>?_;refine iX (mQ T B1 (.var hs) (by decide) rfl) B1.nodes (.var ((kp _ (by decide)).trans rfl)) hnl ?_;refine cf (B1.nodes' (D.nodes++[(op,ks)])) λB2 f2=>?_;rw[show D.nodes.map ak++[ak (op,ks)]=(D.nodes++[(op,ks)]).map ak from tL ..];obtain hwl:D.ws.length=D.n:=O.lws;obtain hdl:D.ds.length=D.n:=O.lds;have tup:∀{H:AH},Ev σ l H (.slc d8 (some 1) none) (.tup (ks.map iv)):=lv (.var ((kp _ (by decide)).trans rfl)) (A6 (B iv) (by decide));refine nq (mQ T B2 (.var hs) (by decide) rfl) B2.ws (eI (aB .cst (bP (nA ks iv (λi=>.int (D.ws.getD i 0)) tup Z (λi hi H' Q' x k=>aB ((mQ T (B2.ext x) (.var ?_) (by decide) rfl).idx (.var rfl) λ_ q=>cY (B2.ext x).ws (eK 0 (by rw[hwl];exact J i hi)) (pO (J i hi) O.nz) q) (k H' (y0 _))) λc3 H3 x3 _ h3=>(af (ks.map λi=>D.ws.getD i 0) (by rw[h3,J0];rfl) ?_)))))
 .exact hs
 obtain B3':=B2.ext x3;refine zM (rP B3'.ws (by rw[u7,hwl];exact E7 hn (by decide)) ⟨trivial,?_⟩);generalize (1+(ks.map λi=>D.ws.getD i 0).sum:Int)=wv;refine cf (B3'.ws' (D.ws++[wv])) λB3 f3=>?_;rw[show D.ws.map V.int++[V.int wv]=(D.ws++[wv]).map V.int from tL ..];refine nq (mQ T B3 (.var hs) (by decide) rfl) B3.ds (eI (aB .cst (bP (eI (nA ks iv (λi=>.int (D.ds.getD i 0)) tup Z (λi hi H' Q' x k=>aB ((mQ T (B3.ext x) (.var ?_) (by decide) rfl).idx (.var rfl) λ_ q=>cY (B3.ext x).ds (eK 0 (by rw[hdl];exact J i hi)) (pO (J i hi) O.nz) q) (k H' (y0 _))) λc4 H4 x4 _ h4=>?_)))))
 .exact hs
 intro c5 hc5;refine(kB _ _ ((y3 _ hc5) _ _ h4) (AH.set_self _ _ _) (u0 (M9 (B _) 1) (by decide)) (λc6 hc6=>?_));have x6:=x4.trans' ((y3 (.list [.int 0]) hc5).trans' (y3 (.list (ks.map (λi=>V.int (D.ds.getD i 0))++[.int 0])) hc6));have hmax:∃(i:Int)(ns:List Int),ks.map (λi=>V.int (D.ds.getD i 0))++[.int 0]=(i::ns).map V.int:=by
  rcases ks with _|⟨k,ks⟩
  .exact(zy 0 ([]) rfl)
  .exact(zy (D.ds.getD k 0) (ks.map (λi=>D.ds.getD i 0)++[0]) (by rw[E2,E2,C7,J0];rfl))
 refine sI hmax λi0 ns0 emax=>?_;refine(eU i0 ns0 (by rw[<- emax];exact AH.set_self _ _ _) (λM _ _=>?_));obtain B4':=B3.ext x6;refine zM (rP B4'.ds (by rw[u7,hdl];exact E7 hn (by decide)) ⟨trivial,?_⟩);generalize (1+M:Int)=dv;refine cf (B4'.ds' (D.ds++[dv])) λB4 f4=>?_;rw[show D.ds.map V.int++[V.int dv]=(D.ds++[dv]).map V.int from tL ..];refine cb ((dj (n:=D.n+1) (mQ T B4 (.var hs) (by decide) rfl) B4.nodes (by rw[u7];exact B7) (u0 (E0 O.nz) (by decide))).bin (w:=iv 1) (u:=iv D.n) .cst λ_ q=>sR q) ?_;exact q2 h1 _ wv dv ⟨B4.all,B4.nd⟩ (((((x1.frm.trans f1).trans f2).trans (x3.frm.trans f3)).trans (x6.frm.trans f4)))
end
theorem BP(a b:Nat):aH [iv a,iv b]=[iv (min a b),iv (max a b)]:=by
 have:[iv a,iv b]=[a,b].map iv:=rfl
 rw[this];rcases F9 a b with h|h
 .rw[kA (L5 _) (by simpa using h),QZ h,N7 h];rfl
 .rw[kA (List.Perm.swap b a []) (by simpa using h),O9 h,N5 h];rfl
section
variable{H:AH}{Q:b8}{D:HD}
theorem tS{D:HD}{H:AH}(A:D'.At H')(f:Frm H H' D.adr D'.adr)(h0:∀x∈D.adr,x∈D'.adr){x:Addr}(B:H' x=none):H x=none:=by
 rcases z:H x with _|o
 .rfl
 .by_cases hm:x∈D.adr
  .refine ah (w3.mp (h0 x hm)) λp hp e=>?_;exact nn B (e▸A.all p hp)
  .exact nn B (f.out _ _ z hm)
theorem FN(T:Txt σ)(A:D.At H)(Z:D.par.length=k)(h2:D.lots.length=k)(hk:k<1000) (q:∀H' x,H x=none->((D.sPar (D.par++[k])).sLots (D.lots++[(x,[k])])).At H'->Frm H H' D.adr ((D.sPar (D.par++[k])).sLots (D.lots++[(x,[k])])).adr->Q (iv k) H') : MCall σ 1 "Unions" "make" [.ref D.up] H Q:=by obtain F:k<2^20:=E7 hk (by decide);obtain G:k<=2^21:=u0 (D5 hk) (by decide);obtain lp:(D.par.map iv).length=k:=(u7 _).trans Z;obtain ll:(D.lots.map λp=>V.ref p.1).length=k:=(u7 _).trans h2;refine aE T.ok T.Unions_make rfl (iX (lx T A (.var rfl) (by decide) rfl) A.par (dj (lx T A (.var rfl) (by decide) rfl) A.par lp G) (by rw[lp];exact F) ?_);rw[tL iv D.par k];obtain⟨B,f1⟩:=A.par' (D.par++[k]);refine nq (lx T B (.var rfl) (by decide) rfl) B.lots (dK (aC (aB (dj (lx T B (.var rfl) (by decide) rfl) B.lots ll G) λx O=>?_)));obtain J:D.lp≠x:=aw B.lots O;refine rP ((r7 _ _ J).trans B.lots) (by rw[ll];exact F) ⟨trivial,?_⟩;refine cf (B.addLot (x:=x) (H':=((H.set D.ua (.list ((D.par++[k]).map iv))).set x (.list [iv k])).set D.lp (.list ((D.lots.map λp=>V.ref p.1)++[.ref x]))) [k] O ((r7 _ _ J.symm).trans (AH.set_self _ _ _)) (AH.set_self _ _ _) (λb y hb e=>by rw[r7 _ _ hb];exact(y3 _ O) _ _ e)) λY f2=>?_;exact cb ((dj (n:=k+1) (lx T Y (.var rfl) (by decide) rfl) Y.par (by rw[u7];exact List.length_append.trans (C3 (· + 1) Z)) (u0 hk (by decide))).bin (w:=iv 1) .cst λ_ q=>sR q) (q _ x (tS B f1 (λ_ h=>h) O) Y (f1.trans f2))
theorem qd{a:Addr}{y:String}{v w:V}(h:H a=some (.list [v,w])):eW H (.tp2 (.nm x) (.nm y)) (.ref a) l=some ((l.put x v).put y w):=by unfold eW;simp only[h];rfl
theorem xp(O:D.UOk)(ha:a<D.n)(G:b<D.n):D.r (min (D.r a) (D.r b))=min (D.r a) (D.r b)/\D.r (max (D.r a) (D.r b))=max (D.r a) (D.r b):=by
 obtain B:=(O.rle a ha).2;obtain F:=(O.rle b G).2;rcases F9 (D.r a) (D.r b)with h|h
 .rw[QZ h,N7 h];exact⟨B,F⟩
 .rw[O9 h,N5 h];exact⟨F,B⟩
def xg(O:D.UOk){p:Addr×List Nat}(hp:D.lots[k]?=some p)(hr:D.r k=k):p.2.length<=60:=u0 (u4 (O.lots k p hp hr).length_eq) (u0 (D.mem_len k) O.nz)
theorem zV(T:Txt σ)(A:D.At H)(O:D.UOk)(ha:a<D.n)(hb:b<D.n)(q1:D.r a=D.r b->∀H',Ext H H'->Q .none H') (q2:∀k g pk pg,k<g->g<D.n->k=min (D.r a) (D.r b)->g=max (D.r a) (D.r b)->D.lots[k]?=some pk->D.lots[g]?=some pg->∀H',(((D.sPar (D.par.set g k)).sLots (D.lots.set k (pk.1,pk.2++pg.2))).sMrg (D.mrg++[.tup [iv k,iv g]])).At H' ->
   Frm H H' D.adr (((D.sPar (D.par.set g k)).sLots (D.lots.set k (pk.1,pk.2++pg.2))).sMrg (D.mrg++[.tup [iv k,iv g]])).adr->Q (.tup [iv k,iv g]) H') :
  MCall σ 2 "Unions" "merge" [.ref D.up,iv a,iv b] H Q:=by
 refine aE T.ok T.Unions_merge rfl (ce (bP (dK (aC (aS (.var rfl) A.uni rfl T.Unions_find.some (.cons (.var rfl) .nil) (rA T A O ha (aC (aS (.var rfl) A.uni rfl T.Unions_find.some (.cons (.var rfl) .nil) (rA T A O hb λc hc=>.inl (aN _ (AH.set_self _ _ _) (db (l:=[D.r a,D.r b]) (show 2<64 by decide)) (λc2 hc2=>?_)))))))))));have x2:Ext H ((H.set c (.list [iv (D.r a),iv (D.r b)])).set c2 (.list (aH [iv (D.r a),iv (D.r b)]))):=(y3 _ hc).trans' (y3 _ hc2);rw[BP]at x2 ⊢;have hm:=xp O ha hb;have B:¬D.r a=D.r b->min (D.r a) (D.r b)<max (D.r a) (D.r b):=λY=>LZ rfl rfl Y;have hke:D.r a=D.r b->min (D.r a) (D.r b)=max (D.r a) (D.r b):=λY=>by rw[Y,Nat.min_self,Nat.max_self]
 have G:max (D.r a) (D.r b)<D.n:=Ma rfl (Fy O ha) (Fy O hb);generalize hk:min (D.r a) (D.r b)=k at *;generalize hg:max (D.r a) (D.r b)=g at *;have A1:=A.ext x2;obtain f0:=x2.frm (A:=D.adr);refine(af _ (qd (AH.set_self _ _ _)) ?_);generalize (H.set c (.list [iv (D.r a),iv (D.r b)])).set c2 (.list [iv k,iv g])=H1 at *;obtain cm:=y5 (σ:=σ) (l:=((aR ["self","a","b"] [.ref D.up,iv a,iv b]).put "kept" (iv k)).put "gone" (iv g)) (H:=H1) (op:=.eq) (e:=.var "kept") (e2:=.var "gone") (.var rfl) (.var rfl) (λQ q=>gJ q);by_cases Y:D.r a=D.r b
 .rw[E4 (hke Y)]at cm;exact fz cm (cb .cst (q1 Y _ x2))
 .obtain B:=B Y;obtain ad:k<D.n:=E7 B G;rw[E6 (G7 B)]at cm;obtain⟨pk,F⟩:=xl O ad;obtain⟨pg,J⟩:=xl O G;have self:∀{H:AH},Ev σ (((aR ["self","a","b"] [.ref D.up,iv a,iv b]).put "kept" (iv k)).put "gone" (iv g)) H c7 (.ref D.up):=.var rfl;obtain an:(D.par.map iv).length=D.n:=(u7 _).trans O.lpar;refine dJ cm (Hu (n:=g) (.var rfl) (lx T A1 self (by decide) rfl) (.var rfl) A1.par (K3 g) (by rw[an];exact L0.mpr G) (by rw[an];exact A6 O.nz (by decide)) ?_);rw[show(D.par.map iv).set ((g:Int).toNat) (iv k)=(D.par.set g k).map iv by rw[List.map_set];rfl];refine cf (A1.par' (D.par.set g k)) λZ f1=>?_;obtain hlk:=Z.lot pk (B0 F);obtain hlg:=Z.lot pg (B0 J);obtain hne:pk.1≠pg.1:=Z.ne (HD.objs_lot F) (HD.objs_lot J) (λz=>G7 B (Nat.add_left_cancel z));obtain lot:∀{i:Nat}{p:Addr×List Nat}{x:String},D.lots[i]?=some p->i<D.n->Ev σ (((aR ["self","a","b"] [.ref D.up,iv a,iv b]).put "kept" (iv k)).put "gone" (iv g)) _ (.var x) (iv i)->Ev σ _ _ (.idx (.attr c7 "lots") (.var x)) (.ref p.1):=λh hi hv=>(lx T Z self (by decide) rfl).idx hv λ_ q=>cY Z.lots h (pO hi O.nz) q;refine wz (lot F ad (.var rfl)) hlk (lot J G (.var rfl)) hlg hne ?_ ?_
  .rw[u7,u7];exact u0 (K9 (xg O F hm.1) (xg O J hm.2)) (by decide)
  rw[<- C7];refine cf (Z.lot' (k:=k) (x:=pk.1) (ns:=pk.2) F (pk.2++pg.2)) λB2 f2=>?_;refine iX (lx T B2 self (by decide) rfl) B2.mrg (.tup (.cons (.var rfl) (.cons (.var rfl) .nil))) O.mrgz ?_;obtain⟨B3,f3⟩:=B2.mrg' (D.mrg++[.tup [iv k,iv g]]);exact cb (.tup (.cons (.var rfl) (.cons (.var rfl) .nil))) (q2 k g pk pg B G rfl rfl F J _ B3 ((f0.trans f1).trans (f2.trans f3)))
end
noncomputable def bK(D:HD)(a b:Nat)(rs:V)(k g:Nat)(pk pg:Addr×List Nat)(uk ug:Addr×List Nat)(x:Addr):HD :=((((((((D.sEdg (D.edg++[.tup [iv a,iv b,rs]])).sPar (D.par.set g k)).sLots (D.lots.set k (pk.1,pk.2++pg.2))).sMrg (D.mrg++[.tup [iv k,iv g]])).sFrs (D.frs++[.int (((D.edg++[V.tup [iv a,iv b,rs]]).length:Int)-1)])).sWait (D.wait++ug.2)).sAb (abJoin' D.ab k g x (uk.2++ug.2))).sRep (D.rep.map λy=>if y=g then k else y))
where abJoin' (ab:List (Nat×Addr×List Nat)) (kept gone:Nat) (x:Addr) (ns:List Nat):=HD.abJoin ab kept gone x ns
structure fW(D:HD)(a b k g:Nat)(pk pg:Addr×List Nat)(uk ug:Addr×List Nat):Prop where
 lt:k<g
 gn:g<D.n
 ke:k=min (D.r a) (D.r b)
 ge:g=max (D.r a) (D.r b)
 rk:D.r k=k
 rg:D.r g=g
 pk:D.lots[k]?=some pk
 pg:D.lots[g]?=some pg
 uk:(k,uk)∈D.ab
 ug:(g,ug)∈D.ab
section
variable{D:HD}
theorem kJ:∀{ab:List (Nat×Addr×List Nat)},(ab.map (·.1)).Nodup->∀{k:Nat}{u:Addr×List Nat},(k,u)∈ab->ay (ab.map λp=>(iv p.1,V.ref p.2.1)) (iv k)=some (.ref u.1)
 | [],_,k,u,h=>absurd h A7
 |p::ab,nd,k,u,h=>by
  rw[E2,E8]at nd;rw[E2,aT,hY];rcases C0.mp h with e|h
  .subst e;simp
  .obtain B:p.1≠k:=λe=>nd.1 (w3.mpr (af (k,u) h e.symm));rw[E6 (Mb B)];exact kJ nd.2 h
theorem CJ(ab:List (Nat×Addr×List Nat))(g:Nat):ddel (ab.map λp=>(iv p.1,V.ref p.2.1)) (iv g)=(ab.filter λp=>p.1≠g).map λp=>(iv p.1,V.ref p.2.1):=by
 unfold ddel;rw[List.filter_map];congr 1;apply P7;intro p _;simp only[Function.comp,hY];by_cases h:p.1=g
 .simp[h]
 .simp[h];exact Fm h
theorem CL{ab:List (Nat×Addr×List Nat)}(hk:k∈ab.map (·.1))(x:Addr)(ns:List Nat):dput (ab.map λp=>(iv p.1,V.ref p.2.1)) (iv k) (.ref x)=(ab.map λp=>if p.1=k then(k,x,ns)else p).map λp=>(iv p.1,V.ref p.2.1):=by
 unfold dput
 have:(ab.map λp=>(iv p.1,V.ref p.2.1)).any (λp=>cu p.1 (iv k))=true:=by rw[Rh];refine ah (w3.mp hk) λp hp e=>?_;exact(af _ (w3.mpr (af p hp rfl)) (by simp[hY,e]))
 rw[if_pos this,J0,J0];apply I5;intro p _;simp only[Function.comp,hY];by_cases h:p.1=k <;> simp[h];exact Mc h
theorem jL:∀{l:List Nat}{x:Nat},x∈l->x<=l.sum
 |a::l,x,h=>by
  rw[List.sum_cons];rcases C0.mp h with e|h
  .exact Md e
  .obtain B:=jL h;exact Me B
def gB(O:D.Ok){u:Addr×List Nat}(h:(k,u)∈D.ab):u.2.length<=2*D.n :=u0 (jL (w3.mpr (af (k,u) h rfl))) O.tot
theorem zD(O:D.Ok):D.ab.length<=D.n:=by obtain B:=eB D.n (D.ab.map (·.1)) O.abk.1 λx F=>(HD.mem_roots.mp ((O.abk.2 x).mp F)).1;simpa using B
theorem kK{ab:List (Nat×Addr×List Nat)}(k:Nat):keyFits (ab.map λp=>(iv p.1,V.ref p.2.1)) (iv k):=⟨Nat.one_ne_zero,λp hp=>by refine ah (w3.mp hp) λq _ aW=>?_;subst aW;rfl⟩
theorem sx(O:D.Ok)(hk:k<D.n)(hr:D.r k=k):∃u,(k,u)∈D.ab:=by obtain B:=(O.abk.2 k).mpr (HD.mem_roots.mpr ⟨hk,hr⟩);refine ah (w3.mp B) λp hp e=>?_;exact⟨p.2,by rw[<- e];exact hp⟩
variable{H:AH}{Q:b8}
theorem zR(T:Txt σ)(A:D.At H)(O:D.Ok)(ha:a<D.n)(hb:b<D.n) (q1:D.r a=D.r b->∀H',(D.sEdg (D.edg++[.tup [iv a,iv b,rs]])).At H'->Frm H H' D.adr (D.sEdg (D.edg++[.tup [iv a,iv b,rs]])).adr->Q (.bool false) H') (q2:∀k g pk pg uk ug x H',fW D a b k g pk pg uk ug->(bK D a b rs k g pk pg uk ug x).At H'->Frm H H' D.adr (bK D a b rs k g pk pg uk ug x).adr->Q (.bool true) H') : MCall σ 3 "Heap" "join" [.ref D.hp,iv a,iv b,rs] H Q:=by
 obtain hn:D.n<=60:=O.nz;obtain hM:=O.Mz;obtain Z:=O.edg;have hel:D.edg.length<=160:=u0 (u0 (G5 _ _) Z.1) (K9 hn hM);obtain hfl:D.frs.length<=60:=u0 (u0 (G5 _ _) Z.2.1) hn;obtain hwl:D.wait.length<2^19:=Mf O.cnt hn;refine aE T.ok T.Heap_join rfl (iX (iq T A (.var rfl) (by decide) rfl) A.edg (.tup (.cons (.var rfl) (.cons (.var rfl) (.cons (.var rfl) .nil)))) (A6 hel (by decide)) ?_);refine cf (A.edg' (D.edg++[.tup [iv a,iv b,rs]])) λB1 f1=>?_;generalize (H.set D.ep (.list (D.edg++[.tup [iv a,iv b,rs]])))=Ha at *;obtain U1:(D.sEdg (D.edg++[.tup [iv a,iv b,rs]])).UOk:=⟨O.nz,O.lpar,O.llots,O.rle,O.pr,O.lots,O.u.mrgz⟩;refine ce (aS (iq T B1 (.var rfl) (by decide) rfl) B1.uni rfl T.Unions_merge.some (.cons (.var rfl) (.cons (.var rfl) .nil)) (zV T B1 U1 ha hb (λhe H2 x2=>(af _ rfl ?_)) λk g pk pg hkg J hke hge hpk hpg H2 B2 f2=>(af _ rfl ?_)))
 .exact fz (y5 (op:=.is) (v:=.none) (.var rfl) .cst λ_ q=>⟨rfl,by rw[bH];exact q⟩) (cb .cst (q1 he H2 (B1.ext x2) (f1.trans x2.frm)))
 obtain hm:=xp O.u ha hb;rw[<- show k=min (D.r a) (D.r b)from hke,<- show g=max (D.r a) (D.r b)from hge]at hm;have J:g<D.n:=J;obtain hkn:k<D.n:=E7 hkg J;refine bL (sx O hkn hm.1) λuk G=>?_;refine bL (sx O J hm.2) λug F=>?_;obtain lk:uk.2.length<=120:=u0 (gB O G) (Rd 2 hn);obtain lg:ug.2.length<=120:=u0 (gB O F) (Rd 2 hn);obtain hab:D.ab.length<=60:=u0 (zD O) hn;obtain⟨ik,hik⟩:=D8.mp G;obtain⟨ig,hig⟩:=D8.mp F;refine dJ (y5 (op:=.is) (v:=.tup [iv k,iv g]) (.var rfl) .cst λ_ q=>⟨rfl,by rw[show cu (V.tup [iv k,iv g]) .none=false from bg.mpr V.noConfusion];exact q⟩) ?_;refine ce (aB (.var rfl) (af _ rfl ?_));have self:∀{H:AH},Ev σ ((((aR ["self","a","b","reason"] [V.ref D.hp,iv a,iv b,rs]).put "merged" (.tup [iv k,iv g])).put "kept" (iv k)).put "gone" (iv g)) H c7 (.ref D.hp):=.var rfl;have ad:∀{H:AH},Ev σ ((((aR ["self","a","b","reason"] [V.ref D.hp,iv a,iv b,rs]).put "merged" (.tup [iv k,iv g])).put "kept" (iv k)).put "gone" (iv g)) H k7 (iv k):=.var rfl;have Y:∀{H:AH},Ev σ ((((aR ["self","a","b","reason"] [V.ref D.hp,iv a,iv b,rs]).put "merged" (.tup [iv k,iv g])).put "kept" (iv k)).put "gone" (iv g)) H k8 (iv g):=.var rfl;refine iX (iq T B2 self (by decide) rfl) B2.frs ((dj (iq T B2 self (by decide) rfl) B2.edg rfl (by rw[B7];exact u0 (E0 hel) (by decide))).bin (w:=iv 1) .cst λ_ q=>q) (A6 hfl (by decide)) ?_;refine cf (B2.frs' (D.frs++[.int (((D.edg++[V.tup [iv a,iv b,rs]]).length:Int)-1)])) λB3 f3=>?_;generalize (H2.set D.fp (.list (D.frs++[.int (((D.edg++[V.tup [iv a,iv b,rs]]).length:Int)-1)])))=H3 at *;obtain e3g:=B3.abl (g,ug) F;obtain hnew:D.wp≠ug.1:=B3.ne (i:=17) rfl (HD.objs_ab hig) (λz=>Mg z);refine wz (iq T B3 self (by decide) rfl) B3.wait ((iq T B3 self (by decide) rfl).idx Y λ_ q=>cX B3.ab (kK g) (kJ O.abk.1 F) q) e3g hnew (by rw[u7,u7];exact u0 (K9 (D5 hwl) lg) (by decide)) ?_;rw[<- C7];refine cf (B3.wait' (D.wait++ug.2)) λB f4=>?_;generalize (H3.set D.wp (.list ((D.wait++ug.2).map iv)))=H4 at *;obtain e4k:=B.abl (k,uk) G;obtain e4g:=B.abl (g,ug) F;obtain abk:D.ap≠uk.1:=B.ne (i:=16) rfl (HD.objs_ab hik) (λz=>Fn z);obtain abg:D.ap≠ug.1:=B.ne (i:=16) rfl (HD.objs_ab hig) (λz=>Fn z);obtain hal:(D.ab.map λp=>(iv p.1,V.ref p.2.1)).length<2^20:=by rw[u7];exact A6 hab (by decide)
 refine Eb (eI (aB ((iq T B self (by decide) rfl).idx ad λ_ q=>cX B.ab (kK k) (kJ O.abk.1 G) q) (hZ (k:=.dict) (iq T B self (by decide) rfl) ⟨by decide,(eU D.ap _ rfl B.ab)⟩ (.cons Y .nil) (bR D.ap _ rfl B.ab (.inr (.inr ⟨rfl,(re _ _ rfl rfl hal (kJ O.abk.1 F) (kB _ _ ((r7 _ _ abk.symm).trans e4k) ((r7 _ _ abg.symm).trans e4g) ?_ (λx hx=>?_)))⟩))))))
 .rw[u7,u7];exact u0 (K9 lk lg) (by decide)
 rw[<- C7];obtain hxn:=tT B.ab hx;obtain hxa:D.ap≠x:=aw B.ab hxn;obtain hkm:k∈(D.ab.filter λp=>p.1≠g).map (·.1):=w3.mpr (af (k,uk) (I8.mpr ⟨G,E4 (G7 hkg)⟩) rfl);have x5:∀b y,b≠D.ap->H4 b=some y->((AH.set H4 D.ap (.dict (ddel (D.ab.map λp=>(iv p.1,V.ref p.2.1)) (iv g)))).set x (.list ((uk.2++ug.2).map iv))) b=some y:=λb y hb e=>(r7 _ _ (aw e hxn)).trans ((r7 _ _ hb).trans e);have hd5:((AH.set H4 D.ap (.dict (ddel (D.ab.map λp=>(iv p.1,V.ref p.2.1)) (iv g)))).set x (.list ((uk.2++ug.2).map iv))) D.ap=some (.dict ((D.ab.filter λp=>p.1≠g).map λp=>(iv p.1,V.ref p.2.1))):=by rw[r7 _ _ hxa,AH.set_self,CJ]
 obtain n0:D.hp≠D.ap:=B.ne (i:=0) (j:=16) rfl rfl (by decide);obtain n1:D.hd≠D.ap:=B.ne (i:=1) (j:=16) rfl rfl (by decide);obtain hs:dt ((AH.set H4 D.ap (.dict (ddel (D.ab.map λp=>(iv p.1,V.ref p.2.1)) (iv g)))).set x (.list ((uk.2++ug.2).map iv))) D.hp "Heap" D.hd [("bank",.ref D.bp),("unions",.ref D.up),("edges",.ref D.ep),("forest",.ref D.fp),("known",.ref D.kp),("above",.ref D.ap),("waiting",.ref D.wp)]:=⟨x5 _ _ n0 B.heap.o,x5 _ _ n1 B.heap.d⟩;refine aB (self.attr hs (fH T (by decide)) rfl) (aB ad (af D.ap rfl (.inr (iw _ hd5 (kK k) ?_ ?_))))
 .rw[u7];exact A6 (u0 (N8 _ _) hab) (by decide)
 rw[CL hkm x (uk.2++ug.2)];refine cf (B.joinAb (x:=x) (H':=AH.set ((AH.set H4 D.ap (.dict (ddel (D.ab.map λp=>(iv p.1,V.ref p.2.1)) (iv g)))).set x (.list ((uk.2++ug.2).map iv))) D.ap (.dict (((D.ab.filter λp=>p.1≠g).map λp=>if p.1=k then(k,x,uk.2++ug.2)else p).map λp=>(iv p.1,V.ref p.2.1)))) k g (uk.2++ug.2) O.abk.1 hxn ((r7 _ _ hxa.symm).trans (AH.set_self _ _ _)) (AH.set_self _ _ _) (λb y hb e=>(r7 _ _ hb).trans (x5 b y hb e))) λB5 f5=>?_;exact cb .cst (q2 k g pk pg uk ug x _ ⟨hkg,J,hke,hge,hm.1,hm.2,hpk,hpg,G,F⟩ ⟨B5.all,B5.nd⟩ ((f1.trans f2).trans (f3.trans (f4.trans f5))))
theorem tB(f:α->β)(l:List α)(i:Nat)(d:α)(e:β)(h:i<l.length):(l.map f).getD i e=f (l.getD i d):=by rw[C9,C9,C5,G2 h];rfl
theorem Av(l:List Nat)(i j v d:Nat)(h:i<l.length):(l.set i v).getD j d=if i=j then v else l.getD j d:=by
 rw[C9,C9,M0];by_cases e:i=j
 .subst e;simp[h]
 .simp[e]
theorem iC{p q:α->Bool}:∀(l:List α),(∀x∈l,p x=true->q x=false)->(l.filter p++l.filter q).Perm (l.filter λx=>p x||q x)
 | [],_=>L5 _
 |a::l,h=>by
  obtain B:=iC l λx F=>h x (y9 _ F);obtain ha:=h a y7;rw[List.filter_cons,List.filter_cons,List.filter_cons];cases hp:p a with
  |true =>rw[ha hp];exact B.cons a
  |false =>
   cases hq:q a with
   |true =>exact(List.perm_middle).trans (B.cons a)
   |false=>exact B
section
variable{g:Nat}{pk pg uk ug:Addr×List Nat}{x:Addr}
theorem mV(O:D.Ok)(J:fW D a b k g pk pg uk ug)(hi:i<D.n):(bK D a b rs k g pk pg uk ug x).r i=if D.r i=g then k else D.r i:=by show(D.rep.map λy=>if y=g then k else y).getD i 0=_;rw[tB _ _ _ 0 _ (by rw[O.lrep];exact hi)];rfl
theorem iG(O:D.Ok)(J:fW D a b k g pk pg uk ug):(bK D a b rs k g pk pg uk ug x).roots=D.roots.filter λi=>decide (i≠g):=by
 unfold HD.roots;rw[List.filter_filter];apply P7;intro i hi;obtain hi:i<D.n:=F8.mp hi;have F:=J.lt;rw[mV (rs:=rs) (x:=x) O J hi];by_cases h:D.r i=g
 .rw[if_pos h];obtain B:¬k=i:=λe=>by subst e;rw[J.rk]at h;exact Be h F
  obtain G:¬(D.r i=i/\i≠g):=λz=>z.2 (by rw[<- z.1,h]);simp only[decide_eq_false B];symm;by_cases e:i=g
  .simp[e]
  .simp[e];exactλz=>G ⟨z,e⟩
 .rw[if_neg h];by_cases e:i=g
  .subst e;exact absurd J.rg h
  .simp[e]
theorem mF(O:D.Ok)(J:fW D a b k g pk pg uk ug):(D.roots.filter λi=>decide (i≠g)).length+1=D.roots.length:=by
 obtain B:g∈D.roots:=HD.mem_roots.mpr ⟨J.gn,J.rg⟩;obtain nd:D.roots.Nodup:=D.roots_rise.imp λh=>G7 h
 have:D.roots.filter (λi=>decide (i≠g))=D.roots.erase g:=by rw[List.Nodup.erase_eq_filter nd];apply P7;intro y _;simp[bne_iff_ne];by_cases h:y=g <;> simp[h]
 rw[this,List.length_erase_of_mem B];obtain this:=List.length_pos_of_mem B;exact Mh this
theorem yI(O:D.Ok)(J:fW D a b k g pk pg uk ug)(i:Nat):(bK D a b rs k g pk pg uk ug x).mem i=(List.range D.n).filter λj=>decide ((if D.r j=g then k else D.r j)=i):=by apply P7;intro j B;rw[mV (rs:=rs) (x:=x) O J (F8.mp B)]
end
end
section
noncomputable abbrev HP:=List (Nat×Addr×List Nat)
noncomputable def ss(l:HP):Nat:=(l.map λp=>p.2.2.length).sum
theorem js(p:Nat×Addr×List Nat)(l:HP):ss (p::l)=p.2.2.length+ss l:=by unfold ss;rw[E2,List.sum_cons]
theorem qX:∀{l:HP}{g:Nat}{u:Addr×List Nat},(l.map (·.1)).Nodup->(g,u)∈l->ss (l.filter λp=>p.1≠g)+u.2.length=ss l
 | [],_,_,_,h=>absurd h A7
 |p::l,g,u,nd,h=>by
  rw[E2,E8]at nd;rw[List.filter_cons,js];rcases C0.mp h with e|h
  .subst e
   have:l.filter (λp=>decide (p.1≠g))=l:=by rw[List.filter_eq_self];intro q hq;obtain this:q.1≠g:=λe=>nd.1 (w3.mpr ⟨q,hq,e⟩);simp[this]
   rw[this];simp;exact Mi
  .obtain B:p.1≠g:=λe=>nd.1 (w3.mpr (af (g,u) h e.symm));obtain F:=qX nd.2 h;simp only[B,ne_eq,not_false_eq_true,decide_true,if_true,js];simp only[ne_eq]at F;exact Mj F
theorem xS:∀{l:HP}{k:Nat}{u:Addr×List Nat}(x:Addr)(ns:List Nat),(l.map (·.1)).Nodup->(k,u)∈l->ss (l.map λp=>if p.1=k then(k,x,ns)else p)+u.2.length=ss l+ns.length
 | [],_,_,_,_,_,h=>absurd h A7
 |p::l,k,u,x,ns,nd,h=>by
  rw[E2,E8]at nd;rw[E2,js,js];rcases C0.mp h with e|h
  .subst e
   have:(l.map λp=>if p.1=k then(k,x,ns)else p)=l:=by refine(I5 λq hq=>?_).trans (List.map_id l);obtain this:q.1≠k:=λe=>nd.1 (w3.mpr (af q hq e));rw[if_neg this];rfl
   rw[this];simp;exact Ml
  .have B:p.1≠k:=λe=>nd.1 (w3.mpr (af (k,u) h e.symm));have F:=xS x ns nd.2 h;rw[if_neg B];exact Mm F
theorem qB(ab:HP)(k g:Nat)(x:Addr)(ns:List Nat):(HD.abJoin ab k g x ns).map (·.1)=(ab.filter λp=>p.1≠g).map (·.1):=by
 unfold HD.abJoin;rw[J0];apply I5;intro p _;show(if p.1=k then(k,x,ns)else p).1=p.1;split
 .rename_i h;exact h.symm
 .rfl
variable{D:HD}{g:Nat}{pk pg uk ug:Addr×List Nat}{x:Addr}
theorem AB(O:D.Ok)(J:fW D a b k g pk pg uk ug):(bK D a b rs k g pk pg uk ug x).Ok:=by
 obtain hn:D.n<=60:=O.nz;have hkn:k<D.n:=E7 J.lt J.gn;have Z:=λ(i:Nat)(hi:i<D.n)=>mV (rs:=rs) (x:=x) O J hi;have Q:=J.lt;obtain F:(bK D a b rs k g pk pg uk ug x).roots.length+1=D.roots.length:=by rw[iG O J];exact mF O J
 obtain lug:=gB O J.ug;obtain hkf:(k,uk)∈D.ab.filter λp=>decide (p.1≠g):=I8.mpr ⟨J.uk,by simp;exact mA Q⟩;obtain ndf:((D.ab.filter λp=>decide (p.1≠g)).map (·.1)).Nodup:=(List.filter_sublist.map _).nodup O.abk.1;refine⟨O.nz,O.lws,O.lds,?_,?_,?_,O.kids,O.ndn,O.nums,λi hi=>?_,λi hi=>?_,λi p hp hr=>?_,O.known,⟨?_,λi=>?_⟩,λp hp y B=>?_,?_,λy B=>?_,?_,(cH ?_ ?_ ?_),O.Mz⟩
 .show(D.par.set g k).length=D.n;rw[List.length_set];exact O.lpar
 .show(D.lots.set k _).length=D.n;rw[List.length_set];exact O.llots
 .show(D.rep.map _).length=D.n;rw[u7];exact O.lrep
 .rw[Z i hi];refine cf (O.rle i hi) λr1 r2=>?_;by_cases h:D.r i=g
  .rw[if_pos h,Z k hkn,J.rk,if_neg (mA Q)];exact⟨by exact Mn h r1 Q,rfl⟩
  .rw[if_neg h,Z _ (oT O hi),r2,if_neg h];exact⟨r1,rfl⟩
 .have hp:(bK D a b rs k g pk pg uk ug x).pr i=if g=i then k else D.pr i:=Av _ _ _ _ _ (by rw[O.lpar];exact J.gn)
  refine cf (O.pr i hi) λp1 p2=>?_;rw[hp,Z i hi];by_cases h:g=i
  .subst h;rw[if_pos rfl,if_pos J.rg];refine⟨λe=>e,λ_=>⟨Q,?_⟩⟩;rw[Z k hkn,J.rk,if_neg (by assumption)]
  .rw[if_neg h];refine⟨λe=>?_,λe=>?_⟩
   .rw[p1 e,if_neg (λz=>h z.symm)]
   .refine cf (p2 e) λp3 p4=>?_;have hi':i<D.n:=hi;exact⟨p3,by rw[Z _ (E7 p3 hi'),p4]⟩
 .have hi:i<D.n:=by
   have:=(A9.mp hp).1
   obtain Y:(bK D a b rs k g pk pg uk ug x).lots.length=D.n:=by show(D.lots.set k _).length=D.n;rw[List.length_set];exact O.llots
   rw[Y]at this;exact this
  have G:(D.lots.set k (pk.1,pk.2++pg.2))[i]?=some p:=hp;rw[Z i hi]at hr;rw[yI O J];rw[M0]at G;split at G
  .rename_i e;subst e;split at G
   .obtain rfl:=w4 G;refine((O.lots k pk J.pk J.rk).append (O.lots g pg J.pg J.rg)).trans ?_;refine(iC _ λy _ h=>?_).trans (List.Perm.of_eq ?_)
    .simp only[decide_eq_true_eq]at h;simp;exact Mo h Q
    .apply P7;intro y _;by_cases h:D.r y=g
     .simp[h]
     .simp[h]
   .exact ns G
  .rename_i e;obtain hrg:D.r i≠g:=λz=>by rw[if_pos z]at hr;exact e hr
   rw[if_neg hrg]at hr;refine(O.lots i p G hr).trans (List.Perm.of_eq ?_);apply P7;intro y _;by_cases h:D.r y=g
   .obtain this:¬g=i:=λz=>hrg (by rw[<- z];exact J.rg);simp[h,this,e]
   .simp[h]
 .show((HD.abJoin D.ab k g x (uk.2++ug.2)).map (·.1)).Nodup;rw[qB];exact ndf
 .show i∈(HD.abJoin D.ab k g x (uk.2++ug.2)).map (·.1)↔_;rw[qB,iG O J,I8,<- O.abk.2 i];simp only[List.mem_map,List.mem_filter,decide_eq_true_eq];constructor
  .rintro⟨p,⟨h1,Y⟩,rfl⟩;exact⟨⟨p,h1,rfl⟩,Y⟩
  .rintro⟨⟨p,h1,rfl⟩,Y⟩;exact(af p ⟨h1,Y⟩ rfl)
 .have hp:p∈HD.abJoin D.ab k g x (uk.2++ug.2):=hp;refine ah (w3.mp hp) λq hq aW=>?_;subst aW;by_cases h:q.1=k
  .rw[if_pos h]at B;rcases D9.mp B with B|B
   .exact O.abm _ J.uk y B
   .exact O.abm _ J.ug y B
  .rw[if_neg h]at B;exact O.abm q (I8.mp hq).1 y B
 .show ss (HD.abJoin D.ab k g x (uk.2++ug.2))<=2*D.n;obtain h1:=qX O.abk.1 J.ug;obtain Y:=xS x (uk.2++ug.2) ndf hkf;obtain h3:ss D.ab<=2*D.n:=O.tot;simp only[List.length_append]at Y;exact Mp Y h1 h3
 .have B:y∈D.wait++ug.2:=B;rcases D9.mp B with B|B
  .exact O.wait y B
  .exact O.abm _ J.ug y B
 .have:=O.cnt
  show D.known.length+(D.wait++ug.2).length+200*(bK D a b rs k g pk pg uk ug x).roots.length<=D.n+200*D.n;rw[B7];exact Mq F this lug hn
 .have:=O.edg.1
  show(D.edg++[V.tup [iv a,iv b,rs]]).length+(bK D a b rs k g pk pg uk ug x).roots.length<=D.n+D.M;rw[B7,P9];exact Mr F this
 .have:=O.edg.2.1
  show(D.frs++[_]).length+(bK D a b rs k g pk pg uk ug x).roots.length<=D.n;rw[B7,P9];exact Fo F this
 .have:=O.edg.2.2
  show(D.mrg++[_]).length+(bK D a b rs k g pk pg uk ug x).roots.length<=D.n;rw[B7,P9];exact Fo F this
end
noncomputable def cn(N:List Nd)(f:Nat->Nat)(i:Nat):Nd:=((N.getD i ("",[])).1,(N.getD i ("",[])).2.map f)
def Cong(N:List Nd)(P:List (Nat×Nat))(f:Nat->Nat):Prop:=(∀p∈P,f p.1=f p.2)/\∀i j,i<N.length->j<N.length->cn N f i=cn N f j->f i=f j
def HD.kn(D:HD)(nd:Nd)(m:Nat):Prop:=ay D.kv (ak nd)=some (iv m)
structure Cl(D:HD)(P:List (Nat×Nat))(x u:List Nat):Prop where
 fit:∀f,Cong D.nodes P f->∀i,i<D.n->f (D.r i)=f i
 knw:∀f,Cong D.nodes P f->∀p∈D.known,(p.1.1,p.1.2.map f)=cn D.nodes f p.2
 pn:∀p∈P,p.1<D.n/\p.2<D.n
 told:∀p∈P,D.r p.1=D.r p.2
 S:∀i,i<D.n->i∈x\/i∈D.wait\/∃m,D.kn (D.canon i) m/\m<D.n/\D.r m=D.r i
 U:∀i,i<D.n->i∈u\/∀k∈D.kids i,∃p∈D.ab,p.1=D.r k/\i∈p.2.2
section
variable{D:HD}{x u:List Nat}
theorem Cl.more{y:List Nat}(C:Cl D P x u)(h:∀i∈x,i∈y):Cl D P y u:=⟨C.fit,C.knw,C.pn,C.told,λi hi=>(C.S i hi).imp (h i) id,C.U⟩
def Gj(h:D.kn nd m)(h':D.kn nd k):m=k:=dQ (sm h h')
theorem Cl.cong(C:Cl D P [] [])(h:D.wait=[]):Cong D.nodes P D.r:=⟨C.told,λi j hi O e=>by have S:∀i,i<D.n->∃m,D.kn (D.canon i) m/\m<D.n/\D.r m=D.r i:=λi hi=>(C.S i hi).elim (λz=>absurd z A7) λz=>z.elim (λz=>by rw[h]at z;exact absurd z A7) id;refine bE (S i hi) λm F _ G=>?_;refine bE (S j O) λk B _ J=>?_;have e':D.canon i=D.canon j:=e;rw[<- e']at B;rw[<- G,Gj F B,J]⟩
theorem ED{f:Nat->Nat}(O:D.Ok)(h:∀i,i<D.n->f (D.r i)=f i)(hi:i<D.n):((D.kids i).map D.r).map f=(D.kids i).map f:=by rw[J0];exact I5 λk hk=>h k (E7 (dE O hi k hk) hi)
theorem Cl.hit(C:Cl D P x u)(O:D.Ok)(ha:a<D.n)(h:(D.canon a,m)∈D.known){f:Nat->Nat}(F:Cong D.nodes P f):f m=f a:=by refine F.2 m a (O.known _ h) ha ?_;rw[<- C.knw f F _ h];exact C3 (Prod.mk _) (ED O (C.fit f F) ha)
variable{g:Nat}{pk pg uk ug:Addr×List Nat}
theorem rh{ab:List (Nat×Addr×List Nat)}(nd:(ab.map (·.1)).Nodup){p q:Nat×Addr×List Nat}(hp:p∈ab)(hq:q∈ab)(e:p.1=q.1):p=q:=by
 obtain⟨i,hi⟩:=D8.mp hp;obtain⟨j,G⟩:=D8.mp hq;obtain F:(ab.map (·.1))[i]?=some p.1:=by rw[C5,hi];rfl
 have J:(ab.map (·.1))[j]?=some p.1:=by rw[C5,G,e];rfl
 obtain B:=(List.getElem?_inj (A9.mp F).1 nd).mp (F.trans J.symm);subst B;exact w4 (hi.symm.trans G)
theorem tE(O:D.Ok)(J:fW D a b k g pk pg uk ug){Y:List (Nat×Nat)}(ha:a<D.n)(hb:b<D.n)(C:Cl D P x [])(hP:∀p∈P,p∈Y)(ad:∀p∈Y,p∈P\/p=(a,b))(hf:∀f,Cong D.nodes Y f->f a=f b)(hx:∀i∈x,i=b/\D.kn (D.canon b) a) : Cl (bK D a b rs k g pk pg uk ug y) Y [] []:=by
 have Q:=λ(i:Nat)(hi:i<D.n)=>mV (rs:=rs) (x:=y) O J hi;have sub:∀f,Cong D.nodes Y f->Cong D.nodes P f:=λf F=>⟨λp hp=>F.1 p (hP p hp),F.2⟩;have Z:∀i j,i<D.n->j<D.n->D.r i=D.r j->(bK D a b rs k g pk pg uk ug y).r i=(bK D a b rs k g pk pg uk ug y).r j:=λi j hi hj e=>by rw[Q i hi,Q j hj,e]
 have ra:(bK D a b rs k g pk pg uk ug y).r a=k/\(bK D a b rs k g pk pg uk ug y).r b=k:=by
  rw[Q a ha,Q b hb];have B:=J.ke;have G:=J.ge;have h3:=J.lt;rcases F9 (D.r a) (D.r b)with h|h
  .rw[QZ h]at B;rw[N7 h]at G;rw[<- B,<- G,if_pos rfl,if_neg (G7 h3)];exact⟨rfl,rfl⟩
  .rw[O9 h]at B;rw[N5 h]at G;rw[<- B,<- G,if_pos rfl,if_neg (G7 h3)];exact⟨rfl,rfl⟩
 refine⟨λf F i hi=>?_,λf F=>C.knw f (sub f F),λp hp=>?_,λp hp=>?_,λi hi=>.inr ?_,λi hi=>.inr λq hq=>?_⟩
 .have fit:=C.fit f (sub f F);have hi:i<D.n:=hi;rw[Q i hi];by_cases h:D.r i=g
  .rw[if_pos h];obtain e:=hf f F;rw[<- fit a ha,<- fit b hb]at e;rw[<- fit i hi,h];obtain B:=J.ke;obtain G:=J.ge;rcases F9 (D.r a) (D.r b)with h|h
   .rw[QZ h]at B;rw[N7 h]at G;rw[B,G];exact e
   .rw[O9 h]at B;rw[N5 h]at G;rw[B,G];exact e.symm
  .rw[if_neg h];exact fit i hi
 .exact(ad p hp).elim (C.pn p) λe=>e▸⟨ha,hb⟩
 .refine(ad p hp).elim (λh=>Z _ _ (C.pn p h).1 (C.pn p h).2 (C.told p h)) λe=>?_;rw[e];exact ra.1.trans ra.2.symm
 .have hi:i<D.n:=hi;have key:∀m,D.kn (D.canon i) m->m<D.n->(bK D a b rs k g pk pg uk ug y).r m=(bK D a b rs k g pk pg uk ug y).r i->i∈(bK D a b rs k g pk pg uk ug y).wait\/∃m,(bK D a b rs k g pk pg uk ug y).kn ((bK D a b rs k g pk pg uk ug y).canon i) m/\m<D.n/\(bK D a b rs k g pk pg uk ug y).r m=(bK D a b rs k g pk pg uk ug y).r i:=λm B hm G=>by
   by_cases hz:∃q∈D.kids i,D.r q=g
   .refine ah hz λq hq e=>.inl ?_;obtain U:=(C.U i hi).elim (λz=>absurd z A7) id;refine bE (U q hq) λp hp e2 hm=>?_;obtain ar:p=(g,ug):=rh O.abk.1 hp J.ug (e2.trans e);rw[ar]at hm;exact G1 _ hm
   .obtain ec:(bK D a b rs k g pk pg uk ug y).canon i=D.canon i:=C3 (Prod.mk _) (I5 λq hq=>by rw[Q q (E7 (dE O hi q hq) hi),if_neg λe=>hz (af q hq e)]);exact .inr (aN m (by rw[ec];exact B) hm G)
  rcases C.S i hi with h|h|⟨m,B,hm,G⟩
  .refine cf (hx i h) λe e2=>?_;subst e;exact key a e2 ha (ra.1.trans ra.2.symm)
  .exact .inl (G3 _ h)
  .exact key m B hm (Z _ _ hm hi G)
 .have hi:i<D.n:=hi;obtain hqn:q<D.n:=E7 (dE O hi q hq) hi;have U:=(C.U i hi).elim (λz=>absurd z A7) id;refine bE (U q hq) λp hp e hm=>?_;rw[Q q hqn];have an:(k,uk)∈D.ab.filter λp=>decide (p.1≠g):=I8.mpr ⟨J.uk,E4 (G7 J.lt)⟩;by_cases h:D.r q=g
  .have e2:p=(g,ug):=rh O.abk.1 hp J.ug (e.trans h);rw[e2]at hm;rw[if_pos h];exact(aN (k,y,uk.2++ug.2) (w3.mpr (af (k,uk) an (if_pos rfl))) rfl (G1 _ hm))
  .rw[if_neg h];by_cases h':D.r q=k
   .obtain e2:p=(k,uk):=rh O.abk.1 hp J.uk (e.trans h');rw[e2]at hm;exact(aN (k,y,uk.2++ug.2) (w3.mpr (af (k,uk) an (if_pos rfl))) h'.symm (G3 _ hm))
   .exact(aN p (w3.mpr (af p (I8.mpr ⟨hp,E4 (by rw[e];exact h)⟩) (if_neg (by rw[e];exact h')))) e hm)
end
structure Grow(D D':HD)(H H':AH):Prop where
 ok:D'.Ok
 at_:D'.At H'
 frm:Frm H H' D.adr D'.adr
 hp:D'.hp=D.hp
 nodes:D'.nodes=D.nodes
 M:D'.M=D.M
theorem Grow.n{D:HD}{H:AH}(g:Grow D D' H H'):D'.n=D.n:=C3 List.length g.nodes
def Grow.refl{D:HD}{H:AH}(O:D.Ok)(A:D.At H)(x:Ext H H'):Grow D D H H':=⟨O,A.ext x,x.frm,rfl,rfl,rfl⟩
theorem Grow.trans{D F:HD}{H H'':AH}(g:Grow D D' H H')(B:Grow D' F H' H''):Grow D F H H'' :=⟨B.ok,B.at_,g.frm.trans B.frm,B.hp.trans g.hp,B.nodes.trans g.nodes,B.M.trans g.M⟩
section
variable{D:HD}{g:Nat}{pk pg uk ug:Addr×List Nat}{x:Addr}
def oo(O:D.Ok)(J:fW D a b k g pk pg uk ug){H:AH}(A:(bK D a b rs k g pk pg uk ug x).At H')(f:Frm H H' D.adr (bK D a b rs k g pk pg uk ug x).adr):Grow D (bK D a b rs k g pk pg uk ug x) H H' :=⟨AB O J,A,f,rfl,rfl,rfl⟩
theorem vC(O:D.Ok)(J:fW D a b k g pk pg uk ug):(bK D a b rs k g pk pg uk ug x).roots.length+1=D.roots.length:=by rw[iG O J];exact mF O J
noncomputable def HD.work(D:HD):Nat:=D.roots.length*1000+D.wait.length
theorem vD(O:D.Ok)(J:fW D a b k g pk pg uk ug):(bK D a b rs k g pk pg uk ug x).work<D.work:=by
 obtain B:=vC (rs:=rs) (x:=x) O J;obtain F:=gB O J.ug;obtain G:=O.nz;have Q:(bK D a b rs k g pk pg uk ug x).wait.length=D.wait.length+ug.2.length:=by show(D.wait++ug.2).length=_;simp
 exact Ms F Q G B
end
section
variable{H:AH}{Q:b8}{D:HD}
theorem gH:∀(l:List (Nd×Nat))(nd:Nd),(∃i,(nd,i)∈l/\ay (l.map λp=>(ak p.1,iv p.2)) (ak nd)=some (iv i))\/ay (l.map λp=>(ak p.1,iv p.2)) (ak nd)=none
 | [],nd=>.inr rfl
 |p::l,nd=>by
  rw[E2,aT];by_cases h:p.1=nd
  .subst h;exact .inl ⟨p.2,y7,by rw[if_pos (bH _)]⟩
  .rw[if_neg (by rw[aP];exactλz=>h (lC z))];rcases gH l nd with⟨i,F,B⟩|B
   .exact .inl ⟨i,y9 _ F,B⟩
   .exact .inr B
theorem HD.Ok.addKnown(O:D.Ok)(ha:a<D.n)(B:D.known.length+D.wait.length+1+200*D.roots.length<=D.n+200*D.n)(nd:Nd):(D.sKnown (D.known++[(nd,a)])).Ok:=by
 refine⟨O.nz,O.lws,O.lds,O.lpar,O.llots,O.lrep,O.kids,O.ndn,O.nums,O.rle,O.pr,O.lots,λp hp=>?_,O.abk,O.abm,O.tot,O.wait,?_,O.edg,O.Mz⟩
 .rcases D9.mp hp with h|h
  .exact O.known p h
  .rw[A4.mp h];exact ha
 .show(D.known++[(nd,a)]).length+D.wait.length+200*D.roots.length<=D.n+200*D.n;rw[B7];exact Mt B
theorem pL(D:HD)(nd:Nd):keyFits D.kv (ak nd):=by obtain key:=cD nd;refine⟨by rw[key.2.2];decide,λp hp=>?_⟩;refine ah (w3.mp hp) λx _ aW=>?_;subst aW;rw[key.2.2];exact(cD _).2.2
theorem dP{kvs ws:bw}{k v:V}(h:ay kvs k=some v):ay (kvs++ws) k=some v:=by
 induction kvs with
 |nil=>exact ns h
 |cons p r F =>
  obtain⟨a,b⟩:=p;rw[aT]at h;rw[List.cons_append,aT];split at h
  .rename_i B;rw[if_pos B];exact h
  .rename_i B;rw[if_neg B];exact F h
theorem Cl.addKnown{x:List Nat}(O:D.Ok)(C:Cl D P x [])(ha:a<D.n)(Q:ay D.kv (ak (D.canon a))=none):Cl (D.sKnown (D.known++[(D.canon a,a)])) P x []:=by
 obtain B:(D.sKnown (D.known++[(D.canon a,a)])).kv=D.kv++[(ak (D.canon a),iv a)]:=by show(D.known++[(D.canon a,a)]).map _=_;rw[C7];rfl
 refine⟨C.fit,λf F p hp=>?_,C.pn,C.told,λi hi=>(C.S i hi).imp id λz=>z.imp id λz=>bE z λm G hm J=>?_,C.U⟩
 .rcases D9.mp hp with h|h
  .exact C.knw f F p h
  .rw[A4.mp h];exact C3 (Prod.mk _) (ED O (C.fit f F) ha)
 .refine(aN m ?_ hm J);show ay (D.sKnown (D.known++[(D.canon a,a)])).kv _=_;rw[B];exact dP G
theorem Gl(h:D.kn nd m):(nd,m)∈D.known:=by
 rcases gH D.known nd with⟨i,hi,e⟩|e
 .have e':ay D.kv (ak nd)=some (iv i):=e;exact dQ (sm e' h)▸hi
 .exact nn (show ay D.kv (ak nd)=none from e) h
theorem Cl.drop{o:Nat}(C:Cl D P [a] [])(hk:D.kn (D.canon a) o)(ho:o<D.n)(e:D.r o=D.r a):Cl D P [] []:=⟨C.fit,C.knw,C.pn,C.told,λi hi=>.inr ((C.S i hi).elim (λz=>by rw[A4.mp z];exact .inr (aN o hk ho e)) id),C.U⟩
theorem qe(T:Txt σ)(A:D.At H)(O:D.Ok)(ha:a<D.n)(sl:D.known.length+D.wait.length+1+200*D.roots.length<=D.n+200*D.n) (q:∀H' D',Grow D D' H H'->(∀P,Cl D P [a] []->Cl D' P [] [])->(D'.work<D.work\/D'.work=D.work/\D'.wait.length=D.wait.length)->Q .none H'):MCall σ 4 "Heap" "look_at" [.ref D.hp,iv a] H Q:=by
 refine aE T.ok T.Heap_look_at rfl ?_;obtain hn:D.n<=60:=O.nz;obtain hroots:=D.roots_len;refine(af _ rfl (kE A.heap (fH T (by decide)) rfl (af .dict ⟨by decide,(eU D.kp _ rfl A.known)⟩ (af _ rfl (af _ (cB A.heap rfl T.Heap_node.some) (af _ rfl (zT T A O ha λH1 x1=>(af _ rfl ?_))))))));have A1:=A.ext x1;obtain hkl:D.kv.length<2^20:=by unfold HD.kv;rw[u7];exact Mw sl hn
 have go:∀(G:HD)(H2:AH)(o:Nat),Grow D G H H2->o<D.n->G.roots=D.roots->G.wait=D.wait->G.hp=D.hp->G.kn (G.canon a) o->(∀P,Cl D P [a] []->Cl G P [a] []) ->
   ∃l':Loc,eW H2 (.nm "other") (iv o) (aR ["self","n"] [.ref D.hp,iv a])=some l'/\au σ 3 [.if1 (.cmp1 .ne (.meth c7 "find" (.cons p0 .nil)) (.meth c7 "find" (.cons d9 .nil))) [.expr (.meth c7 "join" (.cons p0 (.cons d9 (.cons (.tup (.cons (.cst (.str "like")) .nil)) .nil))))] []] l' H2 (nD Q):=by
  intro G H2 o g1 ho er ew ehp hk c1;refine(af _ rfl ?_);obtain hn1:G.n=D.n:=g1.n;have hw:G.work=D.work:=by unfold HD.work;rw[er,ew]
  have ho1:o<G.n:=by rw[hn1];exact ho
  have Z:a<G.n:=by rw[hn1];exact ha
  obtain B:=g1.at_;obtain O1:=g1.ok;obtain Y:((aR ["self","n"] [V.ref D.hp,iv a]).put "other" (iv o)) "self"=some (.ref G.hp):=by rw[ehp];rfl
  refine(af _ Y (af _ (cB B.heap rfl T.Heap_find.some) (af _ rfl ((kH T B O1 ho1 ?_).room Fp))));refine(af _ Y (af _ (cB B.heap rfl T.Heap_find.some) (af _ rfl ((kH T B O1 Z (oD _ _ _ _ ?_)).room Fp))));by_cases he:G.r o=G.r a
  .rw[he,E4 rfl];refine fZ rfl ?_;exact q H2 G g1 (λP C=>(c1 P C).drop hk ho1 he) (.inr ⟨hw,by rw[ew]⟩)
  .refine ir (OD (Fm he)) ?_;refine(af _ Y (af _ (cB B.heap rfl T.Heap_join.some) (af _ rfl (af _ rfl (zR T B O1 ho1 Z (λz=>absurd z he) λk g pk pg uk ug x H3 J B3 f3=>⟨trivial,?_⟩)))));exact q H3 _ (g1.trans (oo O1 J B3 f3)) (λP C=>tE O1 J ho1 Z (c1 P C) (λ_ h=>h) (λ_ h=>.inl h) (λf F=>(c1 P C).hit O1 Z (Gl hk) F) λi hi=>⟨A4.mp hi,hk⟩) (.inl (by rw[<- hw];exact vD O1 J))
 refine(bR D.kp _ rfl A1.known (.inr (.inl ⟨rfl,(kB _ _ rfl (pL D _) hkl ?_)⟩)));rcases gH D.known (D.canon a)with⟨i,hi,e⟩|e
 .have e':ay D.kv (ak (D.canon a))=some (iv i):=e;rw[e'];exact go D H1 i (Grow.refl O A x1) (O.known _ hi) rfl rfl rfl e' λ_ C=>C
 .have e':ay D.kv (ak (D.canon a))=none:=e;rw[e'];refine cf (A1.known' (D.known++[(D.canon a,a)])) λB1 f1=>?_;obtain ekv:(D.known++[(D.canon a,a)]).map (λp=>(ak p.1,iv p.2))=D.kv++[(ak (D.canon a),iv a)]:=by unfold HD.kv;simp
  rw[ekv]at B1 f1;exact go (D.sKnown (D.known++[(D.canon a,a)])) _ a ⟨O.addKnown ha sl _,B1,x1.frm.trans f1,rfl,rfl,rfl⟩ ha rfl rfl rfl (by show ay ((D.known++[(D.canon a,a)]).map (λp=>(ak p.1,iv p.2))) (ak (D.canon a))=_;rw[ekv,cO e',aT,if_pos (bH _)]) λP C=>C.addKnown O ha e'
end
section
variable{H:AH}{Q:b8}{D:HD}
theorem HD.Ok.pop(O:D.Ok){ws:List Nat}{x:Nat}(e:D.wait=ws++[x]):(D.sWait ws).Ok:=by
 obtain hc:=O.cnt;obtain hl:D.wait.length=ws.length+1:=by rw[e];simp
 refine⟨O.nz,O.lws,O.lds,O.lpar,O.llots,O.lrep,O.kids,O.ndn,O.nums,O.rle,O.pr,O.lots,O.known,O.abk,O.abm,O.tot,λy B=>?_,?_,O.edg,O.Mz⟩
 .exact O.wait y (by rw[e];exact G3 _ B)
 .show D.known.length+ws.length+200*D.roots.length<=D.n+200*D.n;exact Mx hl hc
theorem HB{d:Nat}:b+a+200*c<=d+200*d->d<=60->a<2^20:=by exact Nq
theorem Cl.pop(C:Cl D P [] []){ws:List Nat}{x:Nat}(e:D.wait=ws++[x]):Cl (D.sWait ws) P [x] []:=⟨C.fit,C.knw,C.pn,C.told,λi hi=>(C.S i hi).elim (λz=>absurd z A7) λz=>z.elim (λz=>by rw[e]at z;exact(D9.mp z).elim (λz=>.inr (.inl z)) .inl) λz=>.inr (.inr z),C.U⟩
theorem zU(T:Txt σ)(A:D.At H)(O:D.Ok)(q:∀H' D',Grow D D' H H'->(∀P,Cl D P [] []->Cl D' P [] [])->D'.wait=[]->Q .none H'):MCall σ 5 "Heap" "settle" [.ref D.hp] H Q:=by
 refine aE T.ok T.Heap_settle rfl (wr (λm l H'=>l "self"=some (.ref D.hp)/\∃D',Grow D D' H H'/\(∀P,Cl D P [] []->Cl D' P [] [])/\m=D'.work) _ ⟨rfl,(aN D (Grow.refl O A (y0 _)) (λ_ C=>C) rfl)⟩ ?_);rintro m l H1 ⟨hs,F,Z,c1,rfl⟩;obtain Y:=Z.at_;have J:=Z.ok;have hz:F.wait.length<2^20:=HB J.cnt J.nz;have ad:l "self"=some (.ref F.hp):=by rw[Z.hp];exact hs
 obtain ew:=iq (f:="waiting") T Y (.var ad) (by decide) rfl;have hc:EvT σ l H1 (.cmp1 .gt (.prim .len (.attr c7 "waiting")) d5) (decide ((0:Int)<F.wait.length)):=.cmp (dj ew Y.wait (u7 _) (u0 (D5 hz) (by decide))) .cst λ_ q=>(bR _ _ rfl rfl q);rcases List.eq_nil_or_concat F.wait with e|⟨ws,x,e⟩
 .rw[E6 (by rw[e];decide)]at hc;exact .inr ⟨hc,q H1 F Z c1 e⟩
 .rw[List.concat_eq_append]at e;have G:F.wait.length=ws.length+1:=by rw[e,B7];rfl
  rw[E4 (by rw[G];exact Int.natCast_pos.mpr (P1 _))]at hc;refine .inl ⟨hc,λK' k _=>eS (BU (.var ad) Y.heap rfl T.Heap_look_at.some (aC (HF ew (by rw[Y.wait,e,C7];rfl) (by rw[u7];exact E7 (by rw[G];exact K6 _) hz) ?_)))⟩;refine cf (Y.wait' ws) λB f=>?_;obtain an:(F.sWait ws).work+1=F.work:=My G;refine(qe (D:=F.sWait ws) T B (J.pop e) (J.wait x (by rw[e];exact G1 _ (.head _))) (MA G J.cnt) λH2 D2 g2 c2 hw=>⟨trivial,k D2.work _ _ (MB hw an) ⟨hs,(aN D2 (Z.trans (Grow.trans ⟨J.pop e,B,f,rfl,rfl,rfl⟩ g2)) (λP C=>c2 P ((c1 P C).pop e)) rfl)⟩⟩)
theorem HD.Ok.up(O:D.Ok)(h:D.M<100):(D.sM (D.M+1)).Ok:=by obtain B:=O.edg;refine⟨O.nz,O.lws,O.lds,O.lpar,O.llots,O.lrep,O.kids,O.ndn,O.nums,O.rle,O.pr,O.lots,O.known,O.abk,O.abm,O.tot,O.wait,O.cnt,⟨?_,O.edg.2⟩,h⟩;exact MC B.1
def Cl.tell(C:Cl D P [] [])(ha:a<D.n)(B:b<D.n)(e:D.r a=D.r b):Cl D ((a,b)::P) [] [] :=
 have F:∀{f},Cong D.nodes ((a,b)::P) f->Cong D.nodes P f:=λF=>⟨λp hp=>F.1 p (y9 _ hp),F.2⟩
 ⟨λf h=>C.fit f (F h),λf h=>C.knw f (F h),List.forall_mem_cons.mpr ⟨⟨ha,B⟩,C.pn⟩,List.forall_mem_cons.mpr ⟨e,C.told⟩,C.S,C.U⟩
theorem zQ(T:Txt σ)(A:D.At H)(O:D.Ok)(ha:a<D.n)(B:b<D.n)(hM:D.M<100)(q:∀H' D' v,Grow (D.sM (D.M+1)) D' H H'->(∀P,Cl D P [] []->Cl D' ((a,b)::P) [] [])->v=.bool true\/v=.bool false->Q v H'):MCall σ 4 "Heap" "merge" [.ref D.hp,iv a,iv b,rs] H Q:=by
 refine aE T.ok T.Heap_merge rfl ?_;obtain A0:(D.sM (D.M+1)).At H:=⟨A.all,A.nd⟩;obtain Z:=O.up hM;refine(af _ rfl (af _ (cB A.heap rfl T.Heap_join.some) (af _ rfl (af _ rfl (af _ rfl (zR (D:=D.sM (D.M+1)) T A0 Z ha B (λG H1 Y f1=>?_) λk g pk pg uk ug x H1 J Y f1=>?_))))))
 .refine q H1 _ _ ⟨?_,Y,f1,rfl,rfl,rfl⟩ (λP C=>⟨(C.tell ha B G).fit,(C.tell ha B G).knw,(C.tell ha B G).pn,(C.tell ha B G).told,C.S,C.U⟩) (.inr rfl);refine⟨O.nz,O.lws,O.lds,O.lpar,O.llots,O.lrep,O.kids,O.ndn,O.nums,O.rle,O.pr,O.lots,O.known,O.abk,O.abm,O.tot,O.wait,O.cnt,⟨?_,O.edg.2⟩,hM⟩;obtain G:=O.edg;show(D.edg++[_]).length+D.roots.length<=D.n+(D.M+1);rw[B7];exact MD G.1
 .exact q H1 _ _ (oo (D:=D.sM (D.M+1)) Z J Y f1) (λP C=>tE (D:=D.sM (D.M+1)) Z J ha B ⟨C.fit,C.knw,C.pn,C.told,C.S,C.U⟩ (λp h=>y9 _ h) (λp h=>(C0.mp h).symm) (λf F=>F.1 _ y7) λi h=>absurd h A7) (.inl rfl)
end
section
variable{w:Int}{x:Addr}
noncomputable def gh(D:HD)(nd:Nd)(w d:Int)(x y:Addr):HD :=((((((((D.sNums (D.nums++[(ak nd,iv D.n)])).sNodes (D.nodes++[nd])).sWs (D.ws++[w])).sDs (D.ds++[d])).sPar (D.par++[D.n])).sLots (D.lots++[(x,[D.n])])).sAb (D.ab++[(D.n,y,[])])).sRep (D.rep++[D.n]))
theorem oh(l:List Nat)(v i d:Nat):(l++[v]).getD i d=if i=l.length then v else l.getD i d:=by
 rw[C9,C9,List.getElem?_append];by_cases h:i<l.length
 .rw[if_pos h,if_neg (mA h)]
 .rw[if_neg h];by_cases e:i=l.length
  .subst e;simp
  .rw[if_neg e,Re (by simp;exact MF e h),Re (ET h)]
section
variable{D:HD}{w d:Int}{x:Addr}
theorem lf:(gh D nd w d x y).n=D.n+1:=by show(D.nodes++[nd]).length=_;simp
theorem jQ(O:D.Ok)(i:Nat):(gh D nd w d x y).r i=if i=D.n then D.n else D.r i:=by show(D.rep++[D.n]).getD i 0=_;rw[oh,O.lrep];rfl
theorem nG(O:D.Ok):(gh D nd w d x y).roots=D.roots++[D.n]:=by
 unfold HD.roots;rw[lf,List.range_succ,List.filter_append];congr 1
 .apply P7;intro i hi;obtain B:=F8.mp hi;rw[jQ O,if_neg (mA B)]
 .simp[jQ O]
theorem zE(O:D.Ok)(c:Nat):(gh D nd w d x y).mem c=D.mem c++if c=D.n then[D.n]else[]:=by
 unfold HD.mem;rw[lf,List.range_succ,List.filter_append];congr 1
 .apply P7;intro i hi;obtain B:=F8.mp hi;rw[jQ O,if_neg (mA B)]
 .by_cases h:c=D.n
  .simp[jQ O,h]
  .rw[if_neg h];simp[jQ O];exact MG h
theorem sP:(gh D nd w d x y).tot=D.tot:=by show((D.ab++([(D.n,y,[])]:List (Nat×Addr×List Nat))).map λp=>p.2.2.length).sum=_;simp[HD.tot]
theorem Ck(O:D.Ok)(hn:D.n<60)(ho:nd.1∈aG)(hk:nd.2.length<=2)(hks:∀k∈nd.2,k<D.n)(J:nd∉D.nodes):(gh D nd w d x y).Ok:=by
 obtain er:=nG (nd:=nd) (w:=w) (d:=d) (x:=x) (y:=y) O;have F:=lf (D:=D) (nd:=nd) (w:=w) (d:=d) (x:=x) (y:=y);have R:=λi=>jQ (nd:=nd) (w:=w) (d:=d) (x:=x) (y:=y) O i;obtain O1:=O.lws;obtain O2:=O.lds;obtain O3:=O.lpar;obtain Y:=O.llots;obtain O5:=O.lrep;obtain hc:=O.cnt;obtain he:=O.edg;have rl:(gh D nd w d x y).roots.length=D.roots.length+1:=by rw[er];simp
 refine⟨by rw[F];exact MH hn,?_,?_,?_,?_,?_,λi Q h=>?_,?_,?_,λi hi=>?_,λi hi=>?_,λi p hp hr=>?_,λp hp=>?_,⟨?_,λi=>?_⟩,λp hp z hz=>?_,?_,λz hz=>?_,?_,⟨?_,?_,?_⟩,O.Mz⟩
 .rw[F];show(D.ws++[w]).length=_;simp[O1]
 .rw[F];show(D.ds++[d]).length=_;simp[O2]
 .rw[F];show(D.par++[D.n]).length=_;simp[O3]
 .rw[F];show(D.lots++[(x,[D.n])]).length=_;simp[Y]
 .rw[F];show(D.rep++[D.n]).length=_;simp[O5]
 .have h:(D.nodes++[nd])[i]?=some Q:=h;rw[List.getElem?_append]at h;split at h
  .exact O.kids i Q h
  .rename_i hi;have G:¬i<D.n:=hi;rw[List.getElem?_singleton]at h;split at h
   .obtain rfl:=w4 h;exact(cH (λk hk=>by obtain B:=hks k hk;exact MI B hi) ho hk)
   .exact ns h
 .show(D.nodes++[nd]).Nodup;rw[J1];refine(cH O.ndn (by simp) (λa ha b Z=>?_));rw[A4.mp Z];rintro rfl;exact J ha
 .show D.nums++[(ak nd,iv D.n)]=oH (D.nodes++[nd]);unfold oH;rw[List.zipIdx_append,C7,O.nums];simp[oH]
 .rw[F]at hi;rw[R i];by_cases h:i=D.n
  .rw[if_pos h,R,if_pos rfl];exact⟨by exact MJ h,rfl⟩
  .rw[if_neg h,R,if_neg (by obtain B:=oT O (i:=i) (xt hi h);exact mA B)];exact O.rle i (xt hi h)
 .rw[F]at hi;have hp:(gh D nd w d x y).pr i=if i=D.n then D.n else D.pr i:=by show(D.par++[D.n]).getD i 0=_;rw[oh,O3];rfl
  rw[hp,R];by_cases h:i=D.n
  .subst h;rw[if_pos rfl,if_pos rfl];exact⟨λ_=>rfl,λz=>absurd rfl z⟩
  .rw[if_neg h,if_neg h];obtain B:=O.pr i (xt hi h);refine⟨B.1,λz=>?_⟩;obtain z2:=B.2 z;rw[R,if_neg (MK z2.1 hi)];exact z2
 .have hp:(D.lots++[(x,[D.n])])[i]?=some p:=hp;rw[zE O];rw[List.getElem?_append]at hp;split at hp
  .rename_i hi;obtain G:i<D.n:=by rw[<- Y];exact hi
   rw[R,if_neg (mA G)]at hr;rw[if_neg (mA G),H8];exact O.lots i p hp hr
  .rename_i hi;have G:¬i<D.n:=by rw[<- Y];exact hi
   rw[List.getElem?_singleton]at hp;split at hp
   .obtain rfl:=w4 hp;obtain B:i=D.n:=by exact ML (by assumption) Y G
    rw[if_pos B];have e0:D.mem i=[]:=by unfold HD.mem;rw[List.filter_eq_nil_iff];intro j hj;obtain hj:=F8.mp hj;obtain B:=oT O hj;simp;exact MM B G
    rw[e0];exact L5 _
   .exact ns hp
 .rw[F];obtain B:=O.known p hp;exact tW B
 .show((D.ab++([(D.n,y,[])]:List (Nat×Addr×List Nat))).map (·.1)).Nodup;rw[C7,J1];refine(cH O.abk.1 (by simp) (λa ha b Z=>?_));obtain h1:=(HD.mem_roots.mp ((O.abk.2 a).mp ha)).1;obtain h2:b=D.n:=by simpa using Z
  exact MN h2 h1
 .rw[er];show i∈(D.ab++([(D.n,y,[])]:List (Nat×Addr×List Nat))).map (·.1)↔_;rw[C7,D9,D9,O.abk.2 i];rfl
 .have hp:p∈D.ab++[(D.n,y,[])]:=hp;rw[F];rcases D9.mp hp with h|h
  .obtain B:=O.abm p h z hz;exact tW B
  .rw[A4.mp h]at hz;exact absurd hz A7
 .rw[sP,F];obtain B:=O.tot;exact MO B
 .rw[F];obtain B:=O.wait z hz;exact tW B
 .rw[rl,F];exact MQ hc
 .rw[rl,F];exact MR he.1
 .rw[rl,F];exact Fq he.2.1
 .rw[rl,F];exact Fq he.2.2
theorem HD.Ok.setAb(O:D.Ok){ab:List (Nat×Addr×List Nat)}(B:ab.map (·.1)=D.ab.map (·.1))(F:∀p∈ab,∀z∈p.2.2,z<D.n)(G:(ab.map λp=>p.2.2.length).sum<=2*D.n):(D.sAb ab).Ok :=⟨O.nz,O.lws,O.lds,O.lpar,O.llots,O.lrep,O.kids,O.ndn,O.nums,O.rle,O.pr,O.lots,O.known,by show(ab.map (·.1)).Nodup/\∀i,i∈ab.map (·.1)↔i∈D.roots;rw[B];exact O.abk,F,G,O.wait,O.cnt,O.edg,O.Mz⟩
end
section
variable{D:HD}{w d:Int}{x:Addr}
theorem vo(nd:Nd)(f:Nat->Nat)(h:i<N.length):cn (N++[nd]) f i=cn N f i:=by unfold cn;rw[C9,List.getElem?_append_left h,<- C9]
theorem Cong.pre{f:Nat->Nat}(F:Cong (N++[nd]) P f):Cong N P f:=⟨F.1,λi j hi B e=>F.2 i j (by rw[B7];exact Nat.lt_add_right _ hi) (by rw[B7];exact Nat.lt_add_right _ B) (by rw[vo nd f hi,vo nd f B,e])⟩
theorem Cj(O:D.Ok)(C:Cl D P [] []):Cl (gh D nd w d x y) P [D.n] [D.n]:=by
 obtain R:=λi=>jQ (nd:=nd) (w:=w) (d:=d) (x:=x) (y:=y) O i;have G:∀i,i<D.n->(gh D nd w d x y).r i=D.r i:=λi hi=>(R i).trans (if_neg (G7 hi));have lt:∀i,i<(gh D nd w d x y).n->i=D.n\/i<D.n:=λi hi=>by rw[lf]at hi;exact(Nat.lt_succ_iff_lt_or_eq.mp hi).symm
 have B:∀i,i<D.n->((gh D nd w d x y).op i,(gh D nd w d x y).kids i)=(D.op i,D.kids i):=λi hi=>by show((D.nodes++[nd]).getD i ("",[]))=D.nodes.getD i ("",[]);rw[C9,List.getElem?_append_left hi,<- C9]
 have up:∀{i:Nat},i<D.n->i<(gh D nd w d x y).n:=λh=>by rw[lf];exact M7 h
 refine⟨λf F i hi=>?_,λf F p hp=>?_,λp hp=>⟨up (C.pn p hp).1,up (C.pn p hp).2⟩,λp hp=>?_,λi hi=>(lt i hi).imp A4.mpr λhi=>?_,λi hi=>(lt i hi).imp A4.mpr λhi k hk=>?_⟩
 .rcases lt i hi with h|h
  .rw[R i,if_pos h,h]
  .rw[G i h];exact C.fit f F.pre i h
 .show _=cn (D.nodes++[nd]) f p.2;rw[vo nd f (O.known p hp)];exact C.knw f F.pre p hp
 .rw[G _ (C.pn p hp).1,G _ (C.pn p hp).2];exact C.told p hp
 .have J:(gh D nd w d x y).canon i=D.canon i:=by obtain e:=B i hi;delta HD.canon;rw[(Rj e).1,(Rj e).2];exact C3 (Prod.mk _) (I5 λk hk=>G k (E7 (dE O hi k hk) hi))
  exact(C.S i hi).elim (λz=>absurd z A7) λz=>z.imp id λz=>bE z λm Q hm Y=>aN m (by rw[J];exact Q) (up hm) (by rw[G m hm,G i hi];exact Y)
 .have e:=(Rj (B i hi)).2;rw[e]at hk;obtain U:=(C.U i hi).elim (λz=>absurd z A7) id;exact bE (U k hk) λp hp e hm=>aN p (G3 _ hp) (by rw[G k (E7 (dE O hi k hk) hi)];exact e) hm
def AbSup(l m:List (Nat×Addr×List Nat)):Prop:=∀p∈l,∃q∈m,q.1=p.1/\∀z∈p.2.2,z∈q.2.2
theorem AbSup.set{l m:List (Nat×Addr×List Nat)}(h:AbSup l m){u:Addr×List Nat}(B:m[j]?=some (c,u))(n:Nat):AbSup l (m.set j (c,u.1,u.2++[n])):=λp hp=>by
 refine bE (h p hp) λq hq e hs=>?_;obtain⟨i,hi⟩:=D8.mp hq;by_cases e2:j=i
 .subst e2;obtain rfl:=w4 (B.symm.trans hi);exact(aN (c,u.1,u.2++[n]) (B0 (i:=j) (by rw[M0,if_pos rfl,if_pos (A9.mp B).1])) e (λz hz=>G3 _ (hs z hz)))
 .exact(aN q (B0 (i:=i) (by rw[M0,if_neg e2];exact hi)) e hs)
theorem Cl.setAb{ab:List (Nat×Addr×List Nat)}(C:Cl D P [m] [m])(h:AbSup D.ab ab)(hm:∀k∈D.kids m,∃p∈ab,p.1=D.r k/\m∈p.2.2):Cl (D.sAb ab) P [m] []:=⟨C.fit,C.knw,C.pn,C.told,C.S,λi hi=>.inr λk hk=>by
 rcases C.U i hi with z|z
 .rw[A4.mp z]at hk ⊢;exact hm k hk
 .exact bE (z k hk) λp hp e hi=>bE (h p hp) λq hq e2 hs=>aN q hq (e2.trans e) (hs i hi)⟩
end
theorem CY{l:List Nat}(h:∀v∈vs,v∈l.map iv):∃cs:List Nat,vs=cs.map iv/\∀c∈cs,c∈l:=by
 induction vs with
 |nil=>exact(af ([]) rfl (λ_ h=>absurd h A7))
 |cons v vs G =>
  refine ah (G λv F=>h v (y9 _ F)) λcs e hc=>?_;refine ah (w3.mp (h v y7)) λc B aW=>?_;subst aW;exact(af (c::cs) (by rw[e];rfl) (λJ h'=>by
   rcases C0.mp h' with rfl|h'
   .exact B
   .exact hc _ h'))
theorem im(l:List Nat):∃cs:List Nat,aH (aM (l.map iv))=cs.map iv/\(∀c,c∈cs↔c∈l)/\cs.length<=l.length:=by
 refine ah (CY (vs:=aH (aM (l.map iv))) (l:=l) λv J=>aZ.mp ((am _).mem_iff.mp J)) λcs e hc=>?_;refine(aN cs e (λc=>⟨hc c,λh=>?_⟩) ?_)
 .obtain B:iv c∈aH (aM (l.map iv)):=(am _).mem_iff.mpr (aZ.mpr (w3.mpr (af c h rfl)));rw[e]at B;exact ah (w3.mp B) λO h' e=>dQ e▸h'
 obtain F:=(am (aM (l.map iv))).length_eq;obtain G:=dc (l.map iv);rw[e]at F;simp only[List.length_map]at F G;exact Fk F G
theorem xR(f:α->Nat):∀(l:List α)(k:Nat)(p q:α),l[k]?=some p->f q=f p+1->((l.set k q).map f).sum=(l.map f).sum+1
 | [],k,p,q,h,_=>by simp at h
 |a::l,0,p,q,h,e=>by simp only[List.getElem?_cons_zero,Option.some.injEq]at h;subst h;simp[e];exact Bc
 |a::l,k+1,p,q,h,e=>by simp only[List.getElem?_cons_succ]at h;obtain B:=xR f l k p q h e;simp only[List.set_cons_succ,List.map_cons,List.sum_cons,B];exact MT
end
structure Wide(D D':HD)(H H':AH):Prop where
 ok:D'.Ok
 at_:D'.At H'
 frm:Frm H H' D.adr D'.adr
 hp:D'.hp=D.hp
 M:D'.M=D.M
 cl:∀P,Cl D P [] []->Cl D' P [] []
theorem Wide.trans{D F:HD}{H H'':AH}(g:Wide D D' H H')(B:Wide D' F H' H''):Wide D F H H'':=⟨B.ok,B.at_,g.frm.trans B.frm,B.hp.trans g.hp,B.M.trans g.M,λP C=>B.cl P (g.cl P C)⟩
section
variable{H:AH}{Q:b8}{D:HD}
theorem gT(A:D.At H){x:Addr}(h:H x=none):x∉D.adr:=λhm=>by refine ah (w3.mp hm) λp hp e=>?_;obtain B:=A.all p hp;rw[e,h]at B;exact ns B
theorem zG(T:Txt σ){ks:List Nat}(A:D.At H)(O:D.Ok)(hm:m<D.n)(hk:ks.length<=2)(Z:∀k∈ks,k<D.n)(ht:D.tot+2<=2*D.n)(sl:D.known.length+D.wait.length+1+200*D.roots.length<=D.n+200*D.n) (hkm:D.kids m=ks) (hs:l "self"=some (.ref D.hp)) (hn:l "n"=some (iv m)) {na:Addr} (hu:l "numbers"=some (.ref na)) (hna:H na=some (.list (ks.map iv))) (q:∀l' H' (D':HD),D'.Ok->D'.At H'->Frm H H' D.adr D'.adr->D'.hp=D.hp->D'.nodes=D.nodes->D'.M=D.M->(∀P,Cl D P [m] [m]->Cl D' P [] [])->K (.ret (iv m)) l' H') : au σ 4 [.for1 (.nm "c") (.exp (.prim .sortedSet (.comp (.meth c7 "find" (.cons i9 .nil)) (.one (.nm "kid") (.exp p9) none)))) [.expr (.meth (.idx (.attr c7 "above") j0) "append" (.cons d9 .nil))],.expr (.meth c7 "look_at" (.cons d9 .nil)),.ret d9] l H K:=by
 obtain Y:ks.length<2^20:=A6 hk (by decide);refine xY (bP (ja (aB (.var hu) (dY hna (by rw[u7];exact D5 Y) (ff (src:=some (na,ks.map iv)) ks iv (λi=>iv (D.r i)) hna Y (λi hi H' Q' x k=>aS (.var ?_) (A.ext x).heap rfl T.Heap_find.some (.cons (.var rfl) .nil) ((kH T (A.ext x) O (Z i hi) (k H' (y0 _))).room (QY 2 2))) λc H4 x4 _ hc4=>?_)))))
 .exact hs
 obtain ec:ks.map (λi=>iv (D.r i))=(ks.map D.r).map iv:=by rw[J0];rfl
 rw[ec]at hc4;refine bE (im (ks.map D.r)) λcs ecs hcs hcl=>?_;refine(aN _ hc4 (db (by rw[u7];exact A6 hk (by decide))) (λs hs4=>?_));rw[ecs];obtain x5:Ext H (H4.set s (.list (cs.map iv))):=x4.trans' (y3 _ hs4);obtain A5:=A.ext x5;obtain e5:(H4.set s (.list (cs.map iv))) s=some (.list (cs.map iv)):=AH.set_self _ _ _;generalize H4.set s (.list (cs.map iv))=H5 at *;obtain hcr:∀c∈cs,c<D.n/\D.r c=c:=λc hc=>by refine ah (w3.mp ((hcs c).mp hc)) λk hk aW=>?_;subst aW;exact⟨oT O (Z k hk),(O.rle k (Z k hk)).2⟩
 obtain hsna:s∉D.adr:=gT A (iO x4 hs4);rw[u7]at hcl;obtain J:=u0 hcl hk;refine dY e5 (by rw[u7];exact u0 J (by decide)) (fj (src:=some (s,cs.map iv)) (λxs l' H'=>Keep l "c" l'/\H' s=some (.list (cs.map iv))/\∃G:List Nat,xs=G.map iv/\(∀c∈G,c<D.n/\D.r c=c) /\
   ∃F,(D.sAb F).At H'/\Frm H5 H' D.adr (D.sAb F).adr/\F.map (·.1)=D.ab.map (·.1)/\(∀p∈F,∀z∈p.2.2,z<D.n)/\((F.map λp=>p.2.2.length).sum+G.length<=2*D.n/\AbSup D.ab F/\∀c∈cs,c∈G\/∃p∈F,p.1=c/\m∈p.2.2)) (λ_ _ _ h=>h.2.1) (λv xs l' H' k h hk'=>?_) (λl' H' h=>?_) _ _ _ (cH Keep.refl e5 (aN cs rfl hcr (Oj D.ab A5 Frm.refl rfl O.abm (cH (u0 (I6 J _) ht) (λp hp=>aN p hp rfl λ_ h=>h) (λc h=>.inl h))))))
 .refine ia h λkp he' aW=>?_;refine bE aW λG ex Q bS=>?_;refine QO bS λF B f k1 k2 k3 k4 k5=>?_;rcases G with _|⟨c,G⟩
  .exact(G0 _ _ ex).elim
  .refine cf (I9 ex) λcI cW=>?_;subst cI;subst cW;obtain hc:=Q c y7;have Ob:(D.sAb F).Ok:=O.setAb k1 k2 (u0 (G5 _ _) k3);refine bL (sx Ob hc.1 hc.2) λu hu=>?_;obtain⟨j,hj⟩:=D8.mp hu;obtain hul:u.2.length<=120:=u0 (gB Ob hu) (Rd 2 O.nz);obtain sf:(l'.put "c" (iv c)) "self"=some (.ref D.hp):=(kp.put _ (by decide)).trans hs;refine(af _ rfl (iX ((iq (f:="above") T B (.var sf) (by decide) rfl).idx (.var rfl) λ_ q=>cX B.ab (kK c) (kJ Ob.abk.1 hu) q) (B.abl _ hu) (.var ((kp.put _ (by decide)).trans hn)) (by rw[u7];exact A6 hul (by decide)) ?_));rw[tL iv u.2 m];refine cf (B.abl' (i:=c) (x:=u.1) (ns:=u.2) hj (u.2++[m])) λB2 f2=>?_;obtain hsB:s∉(D.sAb F).adr:=λhm=>(f.new s hm).elim hsna λz=>nn z e5;refine hk' _ _ (cH kp.put (f2.out _ _ he' hsB) (aN G rfl (λc' h=>Q c' (y9 _ h)) (Oj _ B2 (f.trans f2) ?_ (λp hp z hz=>?_) (cH ?_ (k4.set hj m) (λc' h=>?_)))))
   .rw[<- k1];exact eP (p:=(c,u.1,u.2)) hj rfl
   .rcases List.mem_or_eq_of_mem_set hp with h|h
    .exact k2 p h z hz
    .subst h;rcases D9.mp hz with h|h
     .exact k2 _ hu z h
     .rw[A4.mp h];exact hm
   .obtain this:=xR (λp:Nat×Addr×List Nat=>p.2.2.length) F j (c,u.1,u.2) (c,u.1,u.2++[m]) hj B7;rw[this,O7,RL 1];exact k3
   .obtain at_:(c,u.1,u.2++[m])∈F.set j (c,u.1,u.2++[m]):=B0 (i:=j) (by rw[M0,if_pos rfl,if_pos (A9.mp hj).1]);rcases k5 c' h with h|⟨p,hp,e,hm'⟩
    .rcases C0.mp h with h|h
     .exact .inr (aN _ at_ h.symm (G1 _ (A4.mpr rfl)))
     .exact .inl h
    .exact bE (AbSup.set (l:=F) (λp hp=>aN p hp rfl λ_ h=>h) hj m p hp) λq hq e2 hs=>.inr (aN q hq (e2.trans e) (hs m hm'))
 .refine ia h λkp _ zq6=>?_;refine bE zq6 λG ex _ zq7=>?_;refine Qc zq7 λF B f k1 k2 k3=>?_;refine ia k3 λk3 k4 k5=>?_;have Ob:(D.sAb F).Ok:=O.setAb k1 k2 (u0 (G5 _ _) k3);exact eS (aS (.var ((kp _ (by decide)).trans hs)) B.heap rfl T.Heap_look_at.some (.cons (.var ((kp _ (by decide)).trans hn)) .nil) (qe (D:=D.sAb F) T B Ob hm sl λH6 D6 g6 c6 _=>⟨trivial,cb (.var ((kp _ (by decide)).trans hn)) (q _ H6 D6 g6.ok g6.at_ (x5.frm.trans (f.trans g6.frm)) g6.hp g6.nodes g6.M λP C=>c6 P (C.setAb k4 λk hk=>by rw[hkm]at hk;exact(k5 (D.r k) ((hcs _).mpr (w3.mpr (af k hk rfl)))).elim (λz=>by rw[List.map_eq_nil_iff.mp ex.symm]at z;exact absurd z A7) id))⟩))
theorem HX(T:Txt σ)(A:D.At H)(O:D.Ok){op:String}{ks:List Nat}(ho:op∈aG)(hk:ks.length<=2)(J:∀k∈ks,k<D.n)(hn:D.n<60)(hna:H na=some (.list (ks.map iv)))(hnn:na∉D.adr) (q:∀H' D' i,Wide D D' H H'->D'.nodes[i]?=some (op,ks)->(D'.nodes=D.nodes\/D'.nodes=D.nodes++[(op,ks)]/\(op,ks)∉D.nodes)->Q (iv i) H') : MCall σ 5 "Heap" "add" [.ref D.hp,.str op,.ref na] H Q:=by
 have B:D.n<=1000:=u0 (D5 hn) (by decide);obtain bank:∀{l:Loc}{H:AH}{D':HD},D'.At H->l "self"=some (.ref D'.hp)->Ev σ l H (.attr c7 "bank") (.ref D'.bp):=λA h=>iq T A (.var h) (by decide) rfl;have uni:∀{l:Loc}{H:AH}{D':HD},D'.At H->l "self"=some (.ref D'.hp)->Ev σ l H (.attr c7 "unions") (.ref D'.up):=λA h=>iq T A (.var h) (by decide) rfl;have lt:∀{i:Nat}{H:AH}{X Y:Prop},(if decide (i<D.n)=true then X else Y)->(if decide ((i:Int)<(D.n:Int))=true then X else Y):=λ{i}{_}{X Y} h=>by rw[show decide ((i:Int)<(D.n:Int))=decide (i<D.n)from decide_eq_decide.mpr L0];exact h
 refine aE T.ok T.Heap_add rfl (ce (aS (bank A rfl) A.bank rfl T.Bank_take.some (.cons (.var rfl) (.cons (.var rfl) .nil)) ((FP T A O ho hk J hn hna (λi hi=>⟨_,rfl,?_⟩) λG H1 w d A1 f1=>⟨_,rfl,?_⟩).room (Rz 3))))
 .exact FB (aB (.var rfl) (aS (uni A rfl) A.uni rfl T.Unions_size.some .nil ((wL T A O.lpar B ⟨_,_,rfl,rfl,lt (H:=H) (ir (E4 (A9.mp hi).1) (cb (.var rfl) (q H D i ⟨O,A,Frm.refl,rfl,rfl,λ_ C=>C⟩ hi (.inl rfl))))⟩).room (QY 1 3))))
 refine FB (aB (.var rfl) (aS (uni A1 rfl) A1.uni rfl T.Unions_size.some .nil ((wL T A1 O.lpar B ⟨_,_,rfl,rfl,lt (H:=H1) (fZ (E6 (Nat.lt_irrefl _)) ?_)⟩).room (QY 1 3))));refine eS (aS (uni A1 rfl) A1.uni rfl T.Unions_make.some .nil ((FN T A1 O.lpar O.llots (E9 hn (by decide)) λH2 x hx A2 f2=>⟨trivial,?_⟩).room (QY 1 3)));refine Eb (dK λy hy=>?_);obtain hya:D.ap≠y:=aw A2.ab hy;obtain Z:ay D.abv (iv D.n)=none:=gI λp hp=>by
  unfold HD.abv at hp;refine ah (w3.mp hp) λe he zq8=>?_;subst zq8
  exactλz=>G7 (HD.mem_roots.mp ((O.abk.2 _).mp (w3.mpr ⟨e,he,rfl⟩))).1 (dQ z)
 obtain x3:Ext H2 (H2.set y (.list [])):=y3 _ hy;obtain habl:(D.ab.map λp=>(iv p.1,V.ref p.2.1)).length<2^20:=by rw[u7];exact A6 (u0 (zD O) (D5 hn)) (by decide)
 refine aB (iq (D:=(D.take (op,ks) w d).sPar _ |>.sLots _) T (A2.ext x3) (.var rfl) (by decide) rfl) (aB (.var rfl) (af D.ap rfl (.inr (iw _ ((A2.ext x3).ab) (kK D.n) habl ?_))));rw[cP (kvs:=(((D.take (op,ks) w d).sPar ((D.take (op,ks) w d).par++[D.n])).sLots ((D.take (op,ks) w d).lots++[(x,[D.n])])).abv) Z];refine cf (A2.addAb (x:=y) (H':=(H2.set y (.list [])).set D.ap (.dict ((D.ab.map λp=>(iv p.1,V.ref p.2.1))++[(iv D.n,.ref y)]))) D.n [] hy ((r7 _ _ hya.symm).trans (AH.set_self _ _ _)) (AH.set_self _ _ _) (λb z hb e=>(r7 _ _ hb).trans (x3 _ _ e))) λA3 f3=>?_;have n3:(gh D (op,ks) w d x y).n=D.n+1:=lf;obtain O3:(gh D (op,ks) w d x y).Ok:=Ck O hn ho hk J G;have t3:(gh D (op,ks) w d x y).tot=D.tot:=sP;obtain r3:(gh D (op,ks) w d x y).roots.length=D.roots.length+1:=by rw[nG O,B7];rfl
 refine zG (D:=gh D (op,ks) w d x y) T ⟨A3.all,A3.nd⟩ O3 (by rw[n3];exact K6 _) hk (λk h=>by rw[n3];exact M7 (J k h)) (by rw[t3,n3,Nat.mul_add];exact M9 O.tot 2) ?_ ?_ rfl rfl rfl (((f1.trans f2).trans f3).out _ _ hna hnn) λl' H' D' o a f hp nod hM hcl=>?_
 .rw[r3,n3];exact MV O.cnt
 .show((D.nodes++[(op,ks)]).getD D.n ("",[])).2=ks;rw[C9,List.getElem?_append_right (A8 _),Nat.sub_self];rfl
 .have F:D'.nodes=D.nodes++[(op,ks)]:=nod;refine q H' D' D.n ⟨o,a,((f1.trans f2).trans f3).trans f,hp,hM,λP C=>hcl P (Cj O C)⟩ ?_ (.inr ⟨F,G⟩);rw[F,List.getElem?_append_right (A8 _),Nat.sub_self];rfl
end
section
variable{Γ:List (Addr×AO)}
structure Hold(H0 H:AH)(Γ:List (Addr×AO)):Prop where
 ext:Ext H0 H
 all:∀p∈Γ,H p.1=some p.2/\H0 p.1=none
 nd:(Γ.map (·.1)).Nodup
def Hold.nil{H:AH}:Hold H H []:=⟨y0 H,(λ_ h=>nomatch h),L8⟩
theorem Hold.new{H:AH}{L1 L2:List (Addr×AO)}(h:Hold H0 H (L1++L2)){c:Addr}(o:AO)(hc:H c=none):Hold H0 (H.set c o) (L1++(L2++[(c,o)])):=by
 rw[<- K7];refine⟨h.ext.trans' (y3 _ hc),λp hp=>?_,?_⟩
 .rcases D9.mp hp with hp|hp
  .obtain B:=h.all p hp;exact⟨(y3 _ hc) _ _ B.1,B.2⟩
  .rw[A4.mp hp];exact⟨AH.set_self _ _ _,iO h.ext hc⟩
 .rw[C7,J1];refine⟨h.nd,by simp,λa ha b F=>?_⟩;refine ah (w3.mp ha) λp hp aW=>?_;subst aW;obtain F:b=c:=by simpa using F
  rw[F];exact aw (h.all p hp).1 hc
theorem Hold.upd{H:AH}{L1 L2:List (Addr×AO)}{a:Addr}{o:AO}(h:Hold H0 H (L1++(a,o)::L2))(o':AO):Hold H0 (H.set a o') (L1++(a,o')::L2):=by
 have ha:=h.all (a,o) (by simp);obtain nd:=h.nd;rw[C7,E2]at nd;obtain B:=List.perm_middle.nodup_iff.mp nd;rw[E8]at B;refine⟨h.ext.setc ha.2 o',λp hp=>?_,?_⟩
 .have key:p∈L1++L2->(H.set a o') p.1=some p.2/\H0 p.1=none:=λhm=>by
   obtain F:p.1≠a:=λe=>B.1 (by rw[<- C7];exact w3.mpr (af p hm e));rw[r7 _ _ F];refine h.all p ?_;rcases D9.mp hm with hm|hm
   .exact G3 _ hm
   .exact G1 _ (y9 _ hm)
  rcases D9.mp hp with hp|hp
  .exact key (G3 _ hp)
  .rcases C0.mp hp with rfl|hp
   .exact⟨AH.set_self _ _ _,ha.2⟩
   .exact key (G1 _ hp)
 .rw[C7,E2];exact nd
theorem wO{ps:List (String×V)}{f:String}(h:ps.lookup f=none)(v:V):dput (fl ps) (.str f) v=fl (ps++[(f,v)]):=by rw[cP (by rw[fI];exact h)];unfold fl;simp
def Hold.perm{H:AH}{M:List (Addr×AO)}(h:Hold H0 H Γ)(P:Γ.Perm M):Hold H0 H M:=⟨h.ext,λp hp=>h.all p (P.mem_iff.mpr hp),(P.map _).nodup_iff.mp h.nd⟩
def Mk(H0 H:AH)(x:Addr)(c:String)(dx:Addr)(ps:List (String×V))(Γ:List (Addr×AO)):Prop:=Hold H0 H ((dx,.dict (fl ps))::(x,.inst c dx)::Γ)
section
variable{H:AH}{Q:b8}{x:Addr}{c:String}{ps:List (String×V)}{Γ:List (Addr×AO)}
theorem Mk.put(h:Mk H0 H x c dx ps Γ){f:String}(B:ps.lookup f=none)(v:V):Mk H0 (H.set dx (.dict (dput (fl ps) (.str f) v))) x c dx (ps++[(f,v)]) Γ:=by rw[wO B];exact Hold.upd (L1:=[]) h _
theorem Mk.new(h:Mk H0 H x c dx ps Γ){a:Addr}(o:AO)(ha:H a=none):Mk H0 (H.set a o) x c dx ps (Γ++[(a,o)]):=Hold.new (L1:=[(dx,.dict (fl ps)),(x,.inst c dx)]) h o ha
def Mk.back{F:Addr}{G:String}{B:List (String×V)}{R:List (Addr×AO)}(h:Mk H0 H y G F B (((dx,.dict (fl ps))::(x,.inst c dx)::Γ)++R)):Mk H0 H x c dx ps ((F,.dict (fl B))::(y,.inst G F)::(Γ++R)) :=Hold.perm h (List.perm_append_comm_assoc [_,_] [_,_] _)
section
variable{d:Nat}{f:String}
def Mk.at_(h:Mk H0 H x c dx ps Γ)(hs:l "self"=some (.ref x))(hf:f∈σ.flds c)(B:ps.lookup f=none)(hz:Nat.ble ps.length 500=true){v:V}(k:∀H',Mk H0 H' x c dx (ps++[(f,v)]) Γ->au σ d rest l H' K) : ba σ d c7 l H λov H2=>∃a c dx kvs,ov=.ref a/\H2 a=some (.inst c dx)/\f∈σ.flds c/\H2 dx=some (.dict kvs)/\br kvs/\kvs.length<=500/\au σ d rest l (H2.set dx (.dict (dput kvs (.str f) v))) K :=(af _ hs (Qx x c dx (fl ps) rfl ((h.all _ (y9 _ y7)).1) hf ((h.all _ y7).1) (ph _) (u0 (u4 (u7 _)) (Nat.le_of_ble_eq_true hz)) (k _ (h.put B v))))
def hJ(h:Mk H0 H x c dx ps Γ)(hs:l "self"=some (.ref x))(hf:f∈σ.flds c)(B:ps.lookup f=none)(hz:Nat.ble ps.length 500=true)(k:∀a H',Mk H0 H' x c dx (ps++[(f,.ref a)]) (Γ++[(a,.list [])])->au σ d rest l H' K):au σ d (.asg (.at c7 f) (.lst .nil)::rest) l H K :=λa ha=>(h.new (.list []) ha).at_ hs hf B hz (k a)
theorem wu(h:Mk H0 H x c dx ps Γ)(hs:l "self"=some (.ref x))(hf:f∈σ.flds c)(B:ps.lookup f=none)(hz:Nat.ble ps.length 500=true)(k:∀a H',Mk H0 H' x c dx (ps++[(f,.ref a)]) (Γ++[(a,.dict [])])->au σ d rest l H' K):au σ d (.asg (.at c7 f) (.dct .nil .nil)::rest) l H K :=(FE ⟨L8,(af 1 (by decide) (λ_ h=>nomatch h))⟩ (λ_ h=>nomatch h) rfl (by decide) (λa ha=>(h.new (.dict []) ha).at_ hs hf B hz (k a)))
end
theorem rQ{B:Addr}(h:Hold H0 H Γ)(F:String)(J:H y=none)(G:H B=none)(ne:y≠B):Hold H0 ((H.set B (.dict [])).set y (.inst F B)) (Γ++[(B,.dict (fl [])),(y,.inst F B)]) :=Hold.new (L1:=Γ) (L2:=[(B,AO.dict (fl []))]) (Hold.new (L1:=Γ) (L2:=[]) (by rw[H8];exact h) (.dict (fl [])) G) (.inst F B) (by rw[r7 _ _ ne];exact J)
def Mk.obj(h:Mk H0 H x c dx ps Γ){B:Addr}(F:String)(J:H y=none)(G:H B=none)(ne:y≠B):Mk H0 ((H.set B (.dict [])).set y (.inst F B)) y F B [] ((dx,.dict (fl ps))::(x,.inst c dx)::Γ) :=Hold.perm (rQ h F J G ne) List.perm_append_comm
theorem MCall.call{d:Nat}{c m:String}{f:Addr}(h:MCall σ d c m vs H Q)(e:σ.meth c m=some f):CallS σ d f vs H Q:=by refine ah h λB e' k=>?_;rw[e]at e';obtain rfl:=w4 e';exact k
theorem BG{d:Nat}{f:String}{F:String}{m:bn}(h:Mk H0 H x c dx ps Γ)(hs:l "self"=some (.ref x))(hf:f∈σ.flds c)(hn:ps.lookup f=none)(hz:Nat.ble ps.length 500=true) (hc:∃C,σ.cls F=some C) (hm:HasM σ F "__init__" m) {P:Addr->Addr->AH->Prop} (I:∀H y B,Mk H0 H y F B [] ((dx,.dict (fl ps))::(x,.inst c dx)::Γ)->MCall σ d F "__init__" [.ref y] H λr H'=>r=.none/\P y B H') (k:∀y B H',P y B H'->∃J,Mk H0 H' x c dx ps J/\∀H'',Mk H0 H'' x c dx (ps++[(f,.ref y)]) J->au σ (d+1) rest l H'' K):au σ (d+1) (.asg (.at c7 f) (.new F .nil)::rest) l H K:=by refine bL hc λC hC=>?_;refine cG hm λO _ G _=>?_;refine(pF C O d rfl hC G (λy B Q Y Z=>((I _ y B (h.obj F Q Y Z)).mono λr H' q=>⟨q.1,?_⟩).call G));refine ah (k y B H' q.2) λJ g k=>?_;exact g.at_ hs hf hn hz k
theorem sU(T:Txt σ)(h:Mk H0 H x "Bank" dx [] Γ) (q:∀H' n m w d,Mk H0 H' x "Bank" dx [("nodes",.ref n),("numbers",.ref m),("weights",.ref w),("depths",.ref d)] (Γ++[(n,.list [])]++[(m,.dict [])]++[(w,.list [])]++[(d,.list [])])->Q .none H'):MCall σ 1 "Bank" "__init__" [.ref x] H Q :=aE T.ok T.Bank_init rfl (hJ h rfl (fB T (by decide)) rfl rfl λn _ h=>wu h rfl (fB T (by decide)) rfl rfl λm _ h=>hJ h rfl (fB T (by decide)) rfl rfl λw _ h=>hJ h rfl (fB T (by decide)) rfl rfl λd _ h=>q _ n m w d h)
theorem vm(T:Txt σ)(h:Mk H0 H x "Unions" dx [] Γ) (q:∀H' n m w,Mk H0 H' x "Unions" dx [("above",.ref n),("lots",.ref m),("merged",.ref w)] (Γ++[(n,.list [])]++[(m,.list [])]++[(w,.list [])])->Q .none H'):MCall σ 1 "Unions" "__init__" [.ref x] H Q :=aE T.ok T.Unions_init rfl (hJ h rfl (fU T (by decide)) rfl rfl λn _ h=>hJ h rfl (fU T (by decide)) rfl rfl λm _ h=>hJ h rfl (fU T (by decide)) rfl rfl λw _ h=>q _ n m w h)
noncomputable def tP(hp hd bp bd up ud ep fp kp ap wp np mp qp dp ua lp gp:Addr):HD:=⟨hp,hd,bp,bd,up,ud,ep,fp,kp,ap,wp,np,mp,qp,dp,ua,lp,gp,[],[],[],[],[],[],[],[],[],[],[],[],[],0⟩
theorem Dj(hp hd bp bd up ud ep fp kp ap wp np mp qp dp ua lp gp:Addr):(tP hp hd bp bd up ud ep fp kp ap wp np mp qp dp ua lp gp).Ok:=by
 have B:(tP hp hd bp bd up ud ep fp kp ap wp np mp qp dp ua lp gp).n=0:=rfl;refine⟨E1 _,rfl,rfl,rfl,rfl,rfl,?_,L8,rfl,?_,?_,?_,?_,⟨L8,?_⟩,?_,A8 _,?_,A8 _,(cH (A8 _) (A8 _) (A8 _)),?_⟩
 .intro i nd h;simp[tP]at h
 .intro i hi;exact(Fs hi B).elim
 .intro i hi;exact(Fs hi B).elim
 .intro i p h;simp[tP]at h
 .intro p h;simp[tP]at h
 .intro i;exact Iff.rfl
 .intro p h;simp[tP]at h
 .intro x h;simp[tP]at h
 .show 0<=100;decide
theorem sV(T:Txt σ)(h:Mk H0 H x "Heap" dx [] []) (q:∀H' (D:HD),Ext H0 H'->D.At H'->D.Ok->D.nodes=[]->D.M=0->D.hp=x->(∀a∈D.adr,H0 a=none)->Q .none H'):MCall σ 3 "Heap" "__init__" [.ref x] H Q:=by refine aE T.ok T.Heap_init rfl (BG (P:=λy B H'=>∃n m w d,Mk H0 H' y "Bank" B [("nodes",.ref n),("numbers",.ref m),("weights",.ref w),("depths",.ref d)] ([(dx,.dict (fl [])),(x,.inst "Heap" dx)]++[(n,.list [])]++[(m,.dict [])]++[(w,.list [])]++[(d,.list [])])) h rfl (fH T (by decide)) rfl rfl T.cBank T.Bank_init (λH y B h=>sU T h λH' n m w d h=>⟨rfl,(Ol n m w d h)⟩) λbp bd H' g=>?_);refine HK g λnp mp qp dp h=>?_;refine(af _ (Mk.back (Γ:=[]) (R:=[(np,.list []),(mp,.dict []),(qp,.list []),(dp,.list [])]) h) (λH' h=>BG (P:=λy B H'=>∃n m w,Mk H0 H' y "Unions" B [("above",.ref n),("lots",.ref m),("merged",.ref w)] (_++[(n,.list [])]++[(m,.list [])]++[(w,.list [])])) h rfl (fH T (by decide)) rfl rfl T.cUnions T.Unions_init (λH y B h=>vm T h λH' n m w h=>⟨rfl,(Qd n m w h)⟩) λup ud H' g=>?_));refine Qq g λua lp gp h=>?_;refine(af _ (Mk.back (Γ:=[(bd,_),(bp,_),(np,.list []),(mp,.dict []),(qp,.list []),(dp,.list [])]) (R:=[(ua,.list []),(lp,.list []),(gp,.list [])]) h) (λH' h=>hJ h rfl (fH T (by decide)) rfl rfl λep _ h=>hJ h rfl (fH T (by decide)) rfl rfl λfp _ h=>wu h rfl (fH T (by decide)) rfl rfl λkp _ h=>wu h rfl (fH T (by decide)) rfl rfl λap _ h=>hJ h rfl (fH T (by decide)) rfl rfl λwp H' h=>?_));have h:Hold H0 H' (tP x dx bp bd up ud ep fp kp ap wp np mp qp dp ua lp gp).objs:=Hold.perm h ((List.Perm.swap _ _ _).trans (List.Perm.cons _ (List.Perm.cons _ ((List.perm_append_comm_assoc [_,_] [_,_] _).trans ((List.Perm.swap _ _ _).trans (List.Perm.cons _ (List.Perm.cons _ (List.Perm.swap _ _ _))))))));exact q _ _ h.ext ⟨λp hp=>(h.all p hp).1,h.nd⟩ (Dj ..) rfl rfl rfl λa ha=>(w3.mp ha).elim λp e=>e.2▸(h.all p e.1).2
end
end
section
variable{s:Nat}{j:Int}
structure Feed(H:AH)(fa ca:Addr)(cs:List Int)(s:Nat):Prop where
 f:H fa=some (.dict (fl [("cells",.ref ca),("turn",iv s)]))
 c:H ca=some (.list (cs.map .int))
 len:cs.length<=60
 ne:fa≠ca
def Only(fa:Addr)(H H':AH):Prop:=∀a,a≠fa->H' a=H a
theorem Only.refl'{fa:Addr}{H:AH}:Only fa H H:=λ_ _=>rfl
theorem Only.trans'{fa:Addr}{H H'':AH}(x:Only fa H H')(y:Only fa H' H''):Only fa H H'':=λa h=>(y a h).trans (x a h)
def gK(ps:List (String×V))(s:String):keyFits (fl ps) (.str s):=⟨Nat.one_ne_zero,λp hp=>gM ps p hp⟩
theorem AN{x:Int}(h:0<m):∃k:Nat,k<m/\V.int (x%(m:Int))=iv k:=by obtain B:0<=x%(m:Int):=Int.emod_nonneg _ (MW h);obtain F:x%(m:Int)<m:=Int.emod_lt_of_pos _ (Ft h);exact(af ((x%(m:Int)).toNat) (MX B F) (by congr 1;exact MY B))
theorem Of(h:a+b<=9990):a<9999:=A6 (u0 (G5 a b) h) (by decide)
theorem En{n:Nat}(h:s<=c+k*i)(g:i<=n):s<=c+k*n:=u0 h (I6 (Rd k g) c)
def HN{t:Nat}(h:t<=s+k)(g:s<=c+k*i):t<=c+k*(i+1):=u0 h (u0 (M9 g k) (u4 (O7 c (k*i) k)))
theorem HW{t:Nat}(h:t<=s+k):t<=s+k*2:=En (i:=1) (HN h (A8 s)) (by decide)
section
variable{H:AH}{Q:b8}{e e2:ME}
def vq{i:Int}(B:Ev σ l H e (.int i))(hi:Ev σ l H e2 (.int j)):Ev σ l H (.bin .add e e2) (.int (i+j)):=B.bin hi λ_ q=>q
def Aj{i:Int}(G:Ev σ l H e (.int i))(hi:Ev σ l H e2 (.int j))(B:i.natAbs<2^60)(F:j.natAbs<2^60):Ev σ l H (.bin .mul e e2) (.int (i*j)):=G.bin hi λ_ q=>cH B F q
def vr{i:Int}(B:Ev σ l H e (.int i))(hi:Ev σ l H e2 (.int j))(h:0<j):Ev σ l H (.bin .mod e e2) (.int (i%j)):=B.bin hi λ_ q=>⟨h,q⟩
def FV(j:Nat)(e:l x=some (iv i))(h:i≠j):EvT σ l H (.cmp1 .eq (.var x) (.cst (iv j))) false:=.cmp (.var e) .cst λ_ q=>gJ (E6 h▸q)
def FU(j:Nat)(e:l x=some (iv i))(h:i=j):EvT σ l H (.cmp1 .eq (.var x) (.cst (iv j))) true:=.cmp (.var e) .cst λ_ q=>gJ (E4 h▸q)
theorem Dx(ca:Addr)(s t:Nat):dput (fl [("cells",.ref ca),("turn",iv s)]) (.str "turn") (iv t)=fl [("cells",.ref ca),("turn",iv t)]:=by unfold dput fl;simp[jv]
def wQ{i:Int}(F:Ev σ l H e (.int i))(hi:Ev σ l H e2 (.int j))(h:0<j)(B:j<1000):Ev σ l H (.bin .fdiv e e2) (.int (i/j)):=F.bin hi λ_ q=>cH h B q
theorem jS(T:Txt σ){fa:Addr}(F:Feed H fa ca cs s)(hs:s<9999)(hm:0<m)(q:∀H' k,k<m->Only fa H H'->Feed H' fa ca cs (s+1)->Q (iv k) H'):FCall σ 1 "_law_draw" [.ref fa,iv m] H Q:=by
 have J:=F.len;obtain O:(0:Int)<(m:Int):=Ft hm;refine bU T.ok T.law_draw rfl (wA (w:=.str "turn") (vq (i:=s) (j:=1) ((y4 rfl).idx (w:=.str "turn") .cst λ_ q=>cX F.f (gK _ _) (by rw[fI];rfl) q) .cst) (.var rfl) .cst F.f (gK _ _) (show 2<2^20 by decide) ?_);rw[show V.int ((s:Int)+1)=iv (s+1)from rfl,Dx];obtain Z:Only fa H (H.set fa (.dict (fl [("cells",.ref ca),("turn",iv (s+1))]))):=λa h=>r7 _ _ h;have G:Feed (H.set fa (.dict (fl [("cells",.ref ca),("turn",iv (s+1))]))) fa ca cs (s+1):=⟨AH.set_self _ _ _,by rw[r7 _ _ F.ne.symm];exact F.c,F.len,F.ne⟩;generalize (H.set fa (.dict (fl [("cells",.ref ca),("turn",iv (s+1))])))=H1 at *;have cells:Ev σ (aR ["feed","wide"] [.ref fa,iv m]) H1 (.idx d7 j5) (.ref ca):=(y4 rfl).idx (w:=.str "cells") .cst λ_ q=>cX G.f (gK _ _) (by rw[fI];rfl) q;have turn:Ev σ (aR ["feed","wide"] [.ref fa,iv m]) H1 (.idx d7 i6) (iv (s+1)):=(y4 rfl).idx (w:=.str "turn") .cst λ_ q=>cX G.f (gK _ _) (by rw[fI];rfl) q;obtain len:Ev σ (aR ["feed","wide"] [.ref fa,iv m]) H1 (.prim .len (.idx d7 j5)) (iv cs.length):=dj cells G.c (u7 _) (u0 J (by decide));have Y:EvT σ (aR ["feed","wide"] [.ref fa,iv m]) H1 (.cmp1 .le (.idx d7 i6) (.prim .len (.idx d7 j5))) (decide (((s+1:Nat):Int)<=(cs.length:Int))):=y5 turn len λ_ q=>(bR _ _ rfl rfl q);by_cases h:s<cs.length
 .rw[E4 (Int.ofNat_le.mpr h)]at Y;refine fz Y (cb (vr (cells.idx (turn.bin .cst λ_ q=>sR q) λ_ q=>cY G.c (eK 0 h) (pO h J) q) (.var rfl) O) ?_);refine ah (AN (x:=cs.getD s 0) hm) λk hk e=>?_;rw[e];exact q H1 k hk Z G
 .rw[E6 λz=>h (Int.ofNat_le.mp z)]at Y;obtain B:(((s+1:Nat):Int)).natAbs<2^60:=by rw[Int.natAbs_natCast];exact E7 (Nat.succ_lt_succ hs) (by decide)
  refine dJ Y (cb (rest:=[]) (vr (vq (vq (Aj (i:=7) .cst turn (by decide) B) (wQ (j:=5) (Aj turn turn B B) .cst (by decide) (by decide))) (.cst (v:=.int 4))) (.var rfl) O) ?_);refine ah (AN (x:=7*((s+1:Nat):Int)+((s+1:Nat):Int)*((s+1:Nat):Int)/5+4) hm) λk hk e=>?_;rw[e];exact q H1 k hk Z G
end
end
inductive Tr where
 |leaf (s:String)
 |f (o:String) (t:Tr)
 |g (t u:Tr)
noncomputable def Tr.v:Tr->V
 | .leaf s=>.tup [.str s]
 | .f o t=>.tup [.str o,t.v]
 | .g t u=>.tup [.str "g",t.v,u.v]
noncomputable def Tr.op:Tr->String
 | .leaf s=>s
 | .f o _=>o
 | .g _ _=>"g"
noncomputable def Tr.kids:Tr->List Tr
 | .leaf _=>[]
 | .f _ t=>[t]
 | .g t u=>[t,u]
theorem Tr.v_eq(t:Tr):t.v=.tup (.str t.op::t.kids.map Tr.v):=by cases t <;> rfl
theorem y8{P:Tr->Prop}(h:∀t:Tr,(∀k∈t.kids,P k)->P t)(t:Tr):P t:=by
 induction t with
 |leaf s=>exact h _ λ_ z=>absurd z A7
 |f o t a=>exact h _ λk z=>A4.mp z▸a
 |g t u a b=>exact h _ λk z=>(C0.mp z).elim (λe=>e▸a) λz=>A4.mp z▸b
noncomputable def Tr.ht:Tr->Nat
 | .leaf _=>0
 | .f _ t=>t.ht+1
 | .g t u=>max t.ht u.ht+1
theorem Tr.ht_lt{t k:Tr}(h:k∈t.kids):k.ht<t.ht:=by
 rcases t with s|⟨o,t⟩|⟨t,u⟩
 .exact absurd h A7
 .obtain rfl:=A4.mp (show k∈[t]from h);exact K6 _
 .rcases C0.mp h with rfl|h
  .exact Rr (L3 _ _)
  .obtain rfl:=A4.mp h;exact Rr (L9 _ _)
theorem Tr.kids_len(t:Tr):t.kids.length<=2:=by cases t <;> first|exact A8 _|exact E1 _|exact Rz 1
noncomputable def Tr.pat:Tr->Prop
 | .leaf s=>s∈jN/\(bI s=true\/s∈aG)
 | .f o t=>(o="f"\/o="h")/\t.pat
 | .g t u=>t.pat/\u.pat
noncomputable def Tr.isv:Tr->Bool
 | .leaf s=>bI s
 | .f _ _=>false
 | .g _ _=>false
theorem Tr.pat_kid{t k:Tr}(h:t.pat)(hk:k∈t.kids):k.pat:=by
 rcases t with s|⟨o,t⟩|⟨t,u⟩
 .exact absurd hk A7
 .obtain rfl:=A4.mp (show k∈[t]from hk);exact h.2
 .rcases C0.mp hk with rfl|hk
  .exact h.1
  .obtain rfl:=A4.mp hk;exact h.2
theorem z0{t:Tr}(h:t.isv=true):t.kids=[]:=by
 rcases t with s|⟨o,t⟩|⟨t,u⟩
 .rfl
 .exact ai (show false=true from h)
 .exact ai (show false=true from h)
noncomputable def Tr.names:Tr->List String
 | .leaf s=>if bI s then[s]else[]
 | .f _ t=>t.names
 | .g t u=>t.names++u.names
theorem Tr.names_v{t:Tr}(h:t.isv=true):t.names=[t.op]:=by
 rcases t with s|⟨o,t⟩|⟨t,u⟩
 .exact if_pos h
 .exact ai (show false=true from h)
 .exact ai (show false=true from h)
theorem Tr.names_n{t:Tr}(h:t.isv=false):t.names=t.kids.flatMap Tr.names:=by
 rcases t with s|⟨o,t⟩|⟨t,u⟩
 .exact if_neg (by rw[show bI s=false from h];exact D0)
 .exact(H8 _).symm
 .exact C3 (t.names++·) (H8 _).symm
noncomputable def lk(kvs:bw)(op:String)(ks:List Int):Int:=match ay kvs (.tup (.str op::ks.map .int))with
 |some (.int i)=>i
 |_=>-1
noncomputable def Tr.cls(kvs:bw)(θ:String->Nat):Tr->Int
 | .leaf s=>if bI s then(θ s:Int)else lk kvs s []
 | .f o t=>lk kvs o [t.cls kvs θ]
 | .g t u=>lk kvs "g" [t.cls kvs θ,u.cls kvs θ]
theorem Tr.cls_v{kvs:bw}{t:Tr}(h:t.isv=true):t.cls kvs θ=(θ t.op:Int):=by
 rcases t with s|⟨o,t⟩|⟨t,u⟩
 .exact if_pos h
 .exact ai (show false=true from h)
 .exact ai (show false=true from h)
theorem Tr.cls_n{kvs:bw}{t:Tr}(h:t.isv=false):t.cls kvs θ=lk kvs t.op (t.kids.map (Tr.cls kvs θ)):=by
 rcases t with s|⟨o,t⟩|⟨t,u⟩
 .exact if_neg (by rw[show bI s=false from h];exact D0)
 .rfl
 .rfl
section
variable{H:AH}{d:Nat}{Q:b8}
noncomputable def NB(s:String):Bool:=decide (s∈jN)&&(match s.toList[0]? with|some c=>decide (decide (String.ofList [c]="?")=bI s)|none=>false)
theorem Tr.pat_op{t:Tr}(h:t.pat):NB t.op=true:=by
 obtain k:∀s∈"?x"::"?y"::aG,NB s=true:=J5.mp (by decide);rcases t with s|⟨o,t⟩|⟨t,u⟩
 .rcases h.2 with a|a
  .rcases(Bool.or_eq_true _ _).mp a with a|a
   .rw[J3 a];exact k _ y7
   .rw[J3 a];exact k _ (.tail _ (.head _))
  .exact k s (.tail _ (.tail _ a))
 .rcases h.1 with rfl|rfl
  .exact k "f" (by decide)
  .exact k "h" (by decide)
 .exact k "g" (by decide)
end
variable{t:Tr}
section
variable{H:AH}{d:Nat}{Q:b8}
theorem qj{e it:ME}(R:Addr->Nat->List V->AH->Prop)(hi:Ev σ l H it (iv k))(hk:k<=1000)(h0:∀c,H c=none->R c 0 [] (H.set c (.list []))) (hs:∀c i vs H',i<k->R c i vs H'->H' c=some (.list vs)->∀O:V->AH->Prop,(∀v H'',H'' c=some (.list vs)->R c (i+1) (vs++[v]) (H''.set c (.list (vs++[v])))->O v H'')->ba σ d e ((l.drop [x]).put x (iv i)) H' O) (hq:∀c vs H',vs.length=k->R c k vs H'->H' c=some (.list vs)->Q (.ref c) H'):ba σ d (.comp e (.one (.nm x) (.rng it) none)) l H Q:=by
 refine hi d _ (iw (k:Int) rfl (K3 _) (Int.ofNat_le.mpr hk) λc hc=>(af c rfl ?_));have G:∀(m i:Nat),i+m=k->∀(vs:List V)(H':AH),vs.length=i->R c i vs H'->H' c=some (.list vs)->fh none (λJ H' k=>∃l',bm (.nm x) J (l.drop [x])=some l'/\ya σ d none l' H' λok H''=>if ok=true then ba σ d e l' H'' λv H''=>∃vs,H'' c=some (.list vs)/\vs.length<2^20/\k (H''.set c (.list (vs++[v])))else k H'') ((List.range' i m).map λ(i:Nat)=>V.int (i:Int)) H' λH3=>Q (.ref c) H3:=by
  intro m;induction m with
  |zero=>intro i hi vs H' hl hr hc;exact⟨trivial,hq c vs H' (hl.trans hi) (hi▸hr) hc⟩
  |succ m ih =>intro i hi vs H' hl hr hc;refine⟨trivial,(af _ rfl (Ea (ir rfl ?_)))⟩;obtain F:i<k:=hi▸Nat.lt_add_of_pos_right (P1 m);exact hs c i vs H' F hr hc _ λv H'' Y Z=>aN vs Y (by rw[hl];exact E9 F (u0 hk (by decide))) (ih (i+1) ((Nat.succ_add i m).trans hi) (vs++[v]) _ (by rw[B7,hl];rfl) Z (AH.set_self _ _ _))
 obtain B:=G k 0 (Q0 k) [] (H.set c (.list [])) rfl (h0 c hc) (AH.set_self _ _ _);rw[<- List.range_eq_range']at B;exact B
end
def Kp(fa:Addr)(H H':AH):Prop:=∀a o,a≠fa->H a=some o->H' a=some o
theorem Kp.refl'{fa:Addr}{H:AH}:Kp fa H H:=λ_ _ _ e=>e
theorem Kp.trans'{fa:Addr}{H H'':AH}(x:Kp fa H H')(y:Kp fa H' H''):Kp fa H H'':=λa o n e=>y a o n (x a o n e)
theorem Only.kp{fa:Addr}{H:AH}(x:Only fa H H'):Kp fa H H':=λa _ n e=>(x a n).trans e
section
variable{H:AH}{d:Nat}{Q:b8}{e a b:ME}{v:V}
def Ev.ite_t(hc:EvT σ l H e true)(h:Ev σ l H a v):Ev σ l H (.ite e a b) v:=λd _ q=>hc d _ (ir rfl (h d _ q))
def Ev.ite_f(hc:EvT σ l H e false)(h:Ev σ l H b v):Ev σ l H (.ite e a b) v:=λd _ q=>hc d _ (fZ rfl (h d _ q))
theorem wS(n:Nat)(B:l x=some (iv i)):EvT σ l H (.cmp1 .lt (.var x) (.cst (iv n))) (decide (i<n)):=.cmp (.var B) .cst λ_ q=>(bR _ _ rfl rfl (by rw[show decide ((i:Int)<(n:Int))=decide (i<n)from decide_eq_decide.mpr L0];exact q))
theorem Ew(n:Nat)(B:l x=some (iv i)):EvT σ l H (.cmp1 .gt (.var x) (.cst (iv n))) (decide (n<i)):=.cmp (.var B) .cst λ_ q=>(bR _ _ rfl rfl (by rw[show decide ((n:Int)<(i:Int))=decide (n<i)from decide_eq_decide.mpr L0];exact q))
noncomputable abbrev PJ:MS:=.if1 (.cmp1 .lt l9 j8) [.ret (.tup (.cons (.idx (.tup (.cons (.cst (.str "?x")) (.cons (.cst (.str "?y")) (.cons o3 (.cons o6 .nil))))) l9) .nil))] []
theorem uh{w:Nat}(hw:l "way"=some (iv w))(h:w<4)(q:∀t:Tr,t.pat->t.ht=0->K (.ret t.v) l H):au σ d (PJ::rest) l H K:=by
 have lt:=wS (σ:=σ) (H:=H) 4 hw;rw[E4 h]at lt;have get:∃s,["?x","?y","a","b"][w]?=some s/\Tr.pat (.leaf s):=by
  have k:∀s∈["?x","?y","a","b"],s∈jN/\(bI s=true\/s∈aG):=by decide
  exact⟨_,G2 h,k _ (List.getElem_mem h)⟩
 obtain⟨s,hs,hp⟩:=get;refine fz lt (cb (v:=.tup [.str s]) (.tup (.cons (.idx (v:=.tup (["?x","?y","a","b"].map .str)) (w:=iv w) (.tup (.cons .cst (.cons .cst (.cons .cst (.cons .cst .nil))))) (.var hw) λ_ q=>?_) .nil)) (q (.leaf s) hp rfl));refine kB (w:Int) (.str s) rfl ?_ ?_ q
 .rw[Int.natAbs_natCast];exact E7 h (by decide)
 .rcases w with _|_|_|_|w
  .cases hs;rfl
  .cases hs;rfl
  .cases hs;rfl
  .cases hs;rfl
  .exact absurd h (Nat.not_lt.mpr (QY 4 w))
end
noncomputable def pc:Nat->Nat
 |0=>1
 |n+1=>pc n*2+1
def yd(σ:Sx)(fa ca:Addr)(cs:List Int)(n:Nat):Prop:=∀{s:Nat}{H:AH}{Q:b8},Feed H fa ca cs s->s+pc n<=9990 ->
  (∀H' (t:Tr) s',t.pat->t.ht<=n->s'<=s+pc n->Kp fa H H'->Feed H' fa ca cs s'->Q t.v H')->FCall σ (2+n) "_law_pattern" [.ref fa,iv (n+1),.bool false] H Q
noncomputable abbrev Bl:ME:=.call "_law_pattern" (.cons d7 (.cons (.bin .sub m8 d6) (.cons f8 .nil)))
section
variable{H:AH}{d:Nat}{Q:b8}{fa:Addr}{n s:Nat}
theorem xE(G:yd σ fa ca cs n)(hf:l "feed"=some (.ref fa))(B:l "floors"=some (iv (n+2)))(F:Feed H fa ca cs s)(hs:s+pc n<=9990)(hd:2+n<=d) (q:∀H' (t:Tr) s',t.pat->t.ht<=n->s'<=s+pc n->Kp fa H H'->Feed H' fa ca cs s'->Q t.v H'):ba σ d Bl l H Q :=eE (.cons (.var hf) (.cons ((y4 B).bin .cst λ_ q=>sR q) (.cons .cst .nil))) ((G F hs q).room hd)
theorem NA(O:yd σ fa ca cs n)(hf:l "feed"=some (.ref fa))(J:l "floors"=some (iv (n+2)))(F:Feed H fa ca cs s)(hs:s+pc n<=9990)(hd:2+n<=d) (q:∀H' (t:Tr) s',t.pat->t.ht<=n->s'<=s+pc n->Kp fa H H'->Feed H' fa ca cs s'->K (.ret (Tr.f "h" t).v) l H'):au σ d [.ret (.tup (.cons p8 (.cons Bl .nil)))] l H K:=by refine cM (rest:=[]) (aC (aB .cst (aC (xE O hf J F hs hd λH' t s' hp ht B hk G=>bQ ?_))));exact q H' t s' hp ht B hk G
theorem Bn{op:String}(hk:k<=2)(ho:l "op"=some (.str op))(hm:l "many"=some (iv k))(ih:yd σ fa ca cs n)(hf:l "feed"=some (.ref fa))(hh:l "floors"=some (iv (n+2)))(F:Feed H fa ca cs s)(hs:s+pc n*2<=9990)(hd:2+n<=d) (q:∀H' (ts:List Tr) s',ts.length=k->(∀t∈ts,t.pat/\t.ht<=n)->s'<=s+pc n*k->Kp fa H H'->Feed H' fa ca cs s'->K (.ret (.tup (.str op::ts.map Tr.v))) l H') : au σ d [.ret (.bin .add (.tup (.cons g7 .nil)) (.prim .tuple (.comp Bl (.one (.nm "lap") (.rng j7) none))))] l H K:=by
 refine cM (rest:=[]) (eI (aB (.tup (.cons (.var ho) .nil)) (bP ?_)));refine qj (λc i vs H'=>c≠fa/\H c=none/\∃(ts:List Tr)(s':Nat),vs=ts.map Tr.v/\ts.length=i/\(∀t∈ts,t.pat/\t.ht<=n)/\s'<=s+pc n*i/\Kp fa H H'/\Feed H' fa ca cs s') (.var hm) (u0 hk (by decide)) (λc hc=>?_) (λc i vs H' hi hR hc Q' hQ=>?_) λc vs H' hl hR hc=>?_
 .obtain O:c≠fa:=λz=>by rw[z,F.f]at hc;exact sn hc
  obtain Y:c≠ca:=λz=>by rw[z,F.c]at hc;exact sn hc
  obtain kp:Kp fa H (H.set c (.list [])):=λa o _ e=>by rw[r7 _ _ (λz=>by rw[z,hc]at e;exact ns e)];exact e
  exact(cH O hc (Oc ([]) s rfl rfl (λt h=>absurd h A7) (A8 _) kp ⟨by rw[r7 _ _ O.symm];exact F.f,kp _ _ F.ne.symm F.c,F.len,F.ne⟩))
 .refine ia hR λO B aW=>?_;refine Qn aW λts s' bS hl hp G kp F'=>?_;subst bS;refine xE ih (by rw[ag _ _ (by decide),bF _ (by decide)];exact hf) (by rw[ag _ _ (by decide),bF _ (by decide)];exact hh) F' (u0 (En (HN (A8 _) G) (u0 hi hk)) hs) hd λH2 t s2 hp2 ht2 hs2 Q Z=>?_;refine hQ t.v H2 (Q c _ O hc) (cH O B (Oc (ts++[t]) s2 (by rw[C7];rfl) (by rw[B7,hl];rfl) (λu hu=>?_) (HN hs2 G) (λa o na e=>?_) ?_))
  .rcases D9.mp hu with h|h
   .exact hp u h
   .rw[A4.mp h];exact⟨hp2,ht2⟩
  .rw[r7 _ _ (λz=>by rw[z,B]at e;exact ns e)];exact Q a o na (kp a o na e)
  .obtain Y:ca≠c:=λz=>by rw[<- z,F.c]at B;exact sn B
   exact⟨by rw[r7 _ _ O.symm];exact Z.f,by rw[r7 _ _ Y];exact Z.c,Z.len,Z.ne⟩
 .refine ia hR λ_ _ cI=>?_;refine Qn cI λts s' cW J hp G kp F'=>?_;subst cW;refine aN _ hc (by rw[u7,J];exact u0 hk (by decide)) ?_;refine⟨?_,q H' ts s' J hp G kp F'⟩;rw[u7,J];exact u0 (I6 hk 1) (by decide)
end
section
variable{H:AH}{d:Nat}{Q:b8}{fa:Addr}{n s:Nat}
noncomputable abbrev GB:MS:=.ret (.bin .add (.tup (.cons g7 .nil)) (.prim .tuple (.comp Bl (.one (.nm "lap") (.rng j7) none))))
noncomputable abbrev GA:MS:=.asg (.tg (.tp2 (.nm "op") (.nm "many"))) (.idx (.tup (.cons (.tup (.cons n5 (.cons d6 .nil))) (.cons (.tup (.cons j9 (.cons i8 .nil))) (.cons (.tup (.cons j9 (.cons i8 .nil))) .nil)))) (.bin .sub l9 j8))
theorem Bm{w:Nat}{op:String}(hw:l "way"=some (iv w))(J:V.int ((w:Int)-4)=iv j)(O:Dl [.tup [.str "f",.int 1],.tup [.str "g",.int 2],.tup [.str "g",.int 2]] (j:Int)=some (.tup [.str op,iv k]))(hk:k<=2)(B:j<3) (Q:yd σ fa ca cs n) (hf:l "feed"=some (.ref fa)) (G:l "floors"=some (iv (n+2))) (F:Feed H fa ca cs s) (hs:s+pc n*2<=9990) (hd:2+n<=d) (q:∀l' H' (ts:List Tr) s',ts.length=k->(∀t∈ts,t.pat/\t.ht<=n)->s'<=s+pc n*k->Kp fa H H'->Feed H' fa ca cs s'->K (.ret (.tup (.str op::ts.map Tr.v))) l' H'):au σ d [GA,GB] l H K:=by refine ce (aB (v:=.tup [.str op,iv k]) (.idx (v:=.tup [.tup [.str "f",.int 1],.tup [.str "g",.int 2],.tup [.str "g",.int 2]]) (w:=iv j) (.tup (.cons (.tup (.cons .cst (.cons .cst .nil))) (.cons (.tup (.cons .cst (.cons .cst .nil))) (.cons (.tup (.cons .cst (.cons .cst .nil))) .nil)))) ((y4 hw).bin (.cst (v:=.int 4)) λ_ q=>by rw[<- J]at q;exact q) λ_ q=>kB (j:Int) _ rfl (by rw[Int.natAbs_natCast];exact E7 B (by decide)) O q) (af _ rfl ?_));exact Bn hk ((ag _ _ (by decide)).trans (aq _ _ _)) (aq _ _ _) Q ((ag _ _ (by decide)).trans ((ag _ _ (by decide)).trans hf)) ((ag _ _ (by decide)).trans ((ag _ _ (by decide)).trans G)) F hs hd (λH' ts s' a b c e f=>q _ H' ts s' a b c e f)
noncomputable abbrev Nz:MS:=.ret (.tup (.cons p8 (.cons Bl .nil)))
theorem ui{w:Nat}(hw:l "way"=some (iv w))(h4:4<=w)(h8:w<8)(Y:yd σ fa ca cs n)(hf:l "feed"=some (.ref fa))(Q:l "floors"=some (iv (n+2)))(F:Feed H fa ca cs s)(hs:s+pc n*2<=9990)(hd:2+n<=d) (q:∀l' H' (t:Tr) s',t.pat->t.ht<=n+1->t.kids≠[]->s'<=s+pc n*2->Kp fa H H'->Feed H' fa ca cs s'->K (.ret t.v) l' H') : au σ d [.if1 (.cmp1 .lt l9 q7) [GA,GB] [],Nz] l H K:=by
 have lt:=wS (σ:=σ) (H:=H) 7 hw;by_cases O:w<7
 .rw[E4 O]at lt;have J:∀j,V.int ((w:Int)-4)=iv j->j<3->Dl [.tup [.str "f",.int 1],.tup [.str "g",.int 2],.tup [.str "g",.int 2]] (j:Int)=some (.tup [.str "g",iv 2])->au σ d [GA,GB] l H (Sq σ d [Nz] K):=λj hj Z hn=>by
   refine Bm hw hj hn (A8 2) Z Y hf Q F hs hd λl' H' ts s' hl hp B kp G=>?_;rcases ts with _|⟨t,_|⟨u,_|⟨_,_⟩⟩⟩
   .cases hl
   .cases hl
   .have a:=hp t (.head _);have b:=hp u (.tail _ (.head _));exact q l' H' (.g t u) s' ⟨a.1,b.1⟩ (E0 (Nat.max_le.mpr ⟨a.2,b.2⟩)) (G0 _ _) B kp G
   .cases hl
  refine fz lt ?_;rcases Nat.eq_or_lt_of_le h4 with rfl|h5
  .refine Bm (j:=0) (k:=1) (op:="f") hw rfl rfl (by decide) (by decide) Y hf Q F hs hd λl' H' ts s' hl hp B kp G=>?_;rcases ts with _|⟨t,_|⟨_,_⟩⟩
   .cases hl
   .have a:=hp t (.head _);exact q l' H' (.f "f" t) s' ⟨.inl rfl,a.1⟩ (E0 a.2) (G0 _ _) (En B (by decide)) kp G
   .cases hl
  .rcases Nat.eq_or_lt_of_le (show 5<=w from h5)with rfl|h6
   .exact J 1 rfl (by decide) rfl
   .obtain rfl:w=6:=C8 (G8 O) h6;exact J 2 rfl (by decide) rfl
 .rw[E6 O]at lt;refine dJ lt (NA (n:=n) Y hf Q F (u0 (HW (A8 _)) hs) hd λH' t s' hp ht B kp G=>q l H' (.f "h" t) s' ⟨.inr rfl,hp⟩ (E0 ht) (G0 _ _) (HW B) kp G)
end
section
variable{fa:Addr}
theorem Ep(T:Txt σ):∀n,yd σ fa ca cs n:=by
 intro n;induction n with
 |zero =>intro s H Q F hs q;obtain gt:EvT σ (aR ["feed","floors","has_kids"] [.ref fa,iv 1,.bool false]) H (.cmp1 .gt m8 d6) false:=Ew (i:=1) 1 rfl;refine bU (d:=1) T.ok T.law_pattern rfl (ce (af false rfl (fZ rfl (eE (.cons (.var rfl) (.cons (.ite_f gt .cst) .nil)) (jS T F (m:=4) (Of hs) (by decide) λH' w hw O G=>(af _ rfl ?_))))));exact uh (aq _ _ _) hw λt hp ht=>q H' t (s+1) hp (u4 ht) (A8 _) O.kp G
 |succ n Z =>
  intro s H Q F hs q;have gt:EvT σ (aR ["feed","floors","has_kids"] [.ref fa,iv (n+1+1),.bool false]) H (.cmp1 .gt m8 d6) true:=by obtain B:=Ew (σ:=σ) (H:=H) (l:=aR ["feed","floors","has_kids"] [.ref fa,iv (n+1+1),.bool false]) (x:="floors") (i:=n+1+1) 1 rfl;rw[E4 (Nat.succ_lt_succ (P1 n))]at B;exact B
  refine FCall.room (bU (d:=n+2) T.ok T.law_pattern rfl (ce (af false rfl (fZ rfl (eE (.cons (.var rfl) (.cons (.ite_t gt .cst) .nil)) (FCall.room (jS T F (m:=8) (Of hs) (by decide) λH' w hw O G=>(af _ rfl ?_)) (QY 1 _))))))) (E0 (u4 (RL n 2)));by_cases h:w<4
  .exact uh (aq _ _ _) h λt hp ht=>q H' t (s+1) hp (ht▸E1 _) (I6 (QY 1 _) s) O.kp G
  .obtain lt:=wS (σ:=σ) (H:=H') (l:=(aR ["feed","floors","has_kids"] [.ref fa,iv (n+1+1),.bool false]).put "way" (iv w)) (x:="way") (i:=w) 4 (aq _ _ _);rw[E6 h]at lt;refine dJ lt (ui (n:=n) (aq _ _ _) (C4 h) hw Z ((ag _ _ (by decide)).trans rfl) ((ag _ _ (by decide)).trans rfl) G (u0 (u4 (Nat.succ_add s _)) hs) (u4 (RL 2 n)) λl' H2 t s' hp ht _ J kp Y=>?_);exact q H2 t s' hp ht (u0 J (u4 (Nat.succ_add s _))) (O.kp.trans' kp) Y
end
section
variable{fa:Addr}
theorem FO(T:Txt σ){s:Nat}{H:AH}{Q:b8}(F:Feed H fa ca cs s)(hs:s+7<=9990) (q:∀H' (t:Tr) s',t.pat->t.ht<=2->t.kids≠[]->s'<=s+7->Kp fa H H'->Feed H' fa ca cs s'->Q t.v H'):FCall σ 4 "_law_pattern" [.ref fa,iv 3,.bool true] H Q:=by refine bU (d:=3) T.ok T.law_pattern rfl (ce (af true rfl (ir rfl (eI (aB .cst (eE (.cons (.var rfl) (.cons .cst .nil)) (FCall.room (jS T F (m:=3) (Of hs) (by decide) λH' w hw O G=>?_) (by decide))))))));show ∃l',eW H' (.nm "way") (iv (4+w)) (aR ["feed","floors","has_kids"] [.ref fa,iv 3,.bool true])=some l'/\_;refine(af _ rfl ?_);obtain lt:=wS (σ:=σ) (H:=H') (l:=(aR ["feed","floors","has_kids"] [.ref fa,iv 3,.bool true]).put "way" (iv (4+w))) (x:="way") (i:=4+w) 4 (aq _ _ _);rw[E6 (Nat.not_lt.mpr (G5 4 w))]at lt;refine dJ lt (ui (n:=1) (w:=4+w) (aq _ _ _) (G5 4 w) (E7 (Nat.add_lt_add_left hw 4) (by decide)) (Ep T 1) ((ag _ _ (by decide)).trans rfl) ((ag _ _ (by decide)).trans rfl) G (u0 (u4 (Nat.succ_add s 6)) hs) (by decide) λl' H2 t s' hp ht hk B kp J=>?_);exact q H2 t s' hp ht hk (u0 B (u4 (Nat.succ_add s 6))) (O.kp.trans' kp) J
end
noncomputable abbrev hf(h:List Nat)(i:Nat):Nat:=h.getD i 0
structure HOk(N:List Nd)(P:List (Nat×Nat))(h:List Nat):Prop where
 len:h.length=N.length
 rle:∀i,i<N.length->hf h i<=i/\hf h (hf h i)=hf h i
 fit:∀f,Cong N P f->∀i,i<N.length->f (hf h i)=f i
 td:∀p∈P,p.1<N.length/\p.2<N.length/\hf h p.1=hf h p.2
section
variable{h:List Nat}
def HOk.lt(O:HOk N P h)(hi:i<N.length):hf h i<N.length:=A6 (O.rle i hi).1 hi
def HOk.start:HOk [] [] []:=⟨rfl,λ_ h=>absurd h (J4 _),λ_ _ _ h=>absurd h (J4 _),λ_ h=>absurd h A7⟩
theorem HOk.add(O:HOk N P h)(nd:Nd):HOk (N++[nd]) P (h++[h.length]):=by
 obtain e:∀i,hf (h++[h.length]) i=if i=h.length then h.length else hf h i:=λi=>oh h _ i 0
 have lt:∀i,i<(N++[nd]).length->i=h.length\/i<N.length:=λi hi=>by rw[B7]at hi;rw[O.len];exact(Nat.lt_succ_iff_lt_or_eq.mp hi).symm
 have old:∀i,i<N.length->hf (h++[h.length]) i=hf h i:=λi hi=>(e i).trans (if_neg λz=>by rw[z,O.len]at hi;exact Nat.lt_irrefl _ hi);obtain new:hf (h++[h.length]) h.length=h.length:=(e _).trans (if_pos rfl);obtain up:∀{i},i<N.length->i<(N++[nd]).length:=λhi=>by rw[B7];exact M7 hi
 refine⟨by rw[B7,B7,O.len];rfl,λi hi=>?_,λf F i hi=>?_,λp hp=>?_⟩
 .rcases lt i hi with z|z
  .rw[z,new,new];exact⟨A8 _,rfl⟩
  .rw[old i z,old _ (O.lt z)];exact O.rle i z
 .rcases lt i hi with z|z
  .rw[z,new]
  .rw[old i z];exact O.fit f F.pre i z
 .refine ia (O.td p hp) λB G J=>?_;rw[old _ B,old _ G];exact(cH (up B) (up G) J)
noncomputable def iD(h:List Nat)(x y:Nat):List Nat:=h.map λz=>if z=max x y then min x y else z
theorem Ax(O:HOk N P h)(x y:Nat)(hi:i<N.length):hf (iD h x y) i=if hf h i=max x y then min x y else hf h i:=tB _ _ _ 0 _ (by rw[O.len];exact hi)
theorem EF{M:Nat->Nat->Prop}{x y:Nat}(B:M x y)(F:M y x):M (min x y) (max x y):=by
 rcases F9 x y with h|h
 .rw[QZ h,N7 h];exact B
 .rw[O9 h,N5 h];exact F
theorem HOk.join{B:List (Nat×Nat)}(O:HOk N P h)(ha:a<N.length)(G:b<N.length)(hP:∀p∈P,p∈B)(Q:∀p∈B,p∈P\/p=(a,b))(Y:∀f,Cong N B f->f a=f b):HOk N B (iD h (hf h a) (hf h b)):=by
 have sub:∀f,Cong N B f->Cong N P f:=λf F=>⟨λp hp=>F.1 p (hP p hp),F.2⟩;obtain rt:hf h (min (hf h a) (hf h b))=min (hf h a) (hf h b)/\hf h (max (hf h a) (hf h b))=max (hf h a) (hf h b):=EF (M:=λx y=>hf h x=x/\hf h y=y) ⟨(O.rle a ha).2,(O.rle b G).2⟩ ⟨(O.rle b G).2,(O.rle a ha).2⟩;obtain fe:∀f,Cong N B f->f (min (hf h a) (hf h b))=f (max (hf h a) (hf h b)):=λf F=>by
  obtain e:f (hf h a)=f (hf h b):=by rw[O.fit f (sub f F) a ha,O.fit f (sub f F) b G];exact Y f F
  exact EF (M:=λx y=>f x=f y) e e.symm
 obtain mn:min (hf h a) (hf h b)<N.length:=A6 (O8 _ _) (O.lt ha);obtain A:=λ(i:Nat)(hi:i<N.length)=>Ax O (hf h a) (hf h b) hi;have J:∀i j,i<N.length->j<N.length->hf h i=hf h j->hf (iD h (hf h a) (hf h b)) i=hf (iD h (hf h a) (hf h b)) j:=λi j hi hj e=>by rw[A i hi,A j hj,e]
 refine⟨by unfold iD;rw[u7];exact O.len,λi hi=>?_,λf F i hi=>?_,λp hp=>?_⟩
 .obtain r:=O.rle i hi;rw[A i hi];by_cases z:hf h i=max (hf h a) (hf h b)
  .rw[if_pos z,A _ mn,rt.1];obtain le:min (hf h a) (hf h b)<=max (hf h a) (hf h b):=u0 (O8 _ _) (L3 _ _);refine⟨u0 (z▸le) r.1,?_⟩;split <;> rfl
  .rw[if_neg z,A _ (O.lt hi),r.2,if_neg z];exact⟨r.1,rfl⟩
 .rw[A i hi];by_cases z:hf h i=max (hf h a) (hf h b)
  .rw[if_pos z,fe f F,<- z];exact O.fit f (sub f F) i hi
  .rw[if_neg z];exact O.fit f (sub f F) i hi
 .rcases Q p hp with z|z
  .refine ia (O.td p z) λZ h2 h3=>?_;exact(cH Z h2 (J _ _ Z h2 h3))
  .rw[z];refine(cH ha G ?_);rw[A a ha,A b G];rcases F9 (hf h a) (hf h b)with y|y
   .rw[N7 y,QZ y,if_pos rfl];split <;> rfl
   .rw[N5 y,O9 y,if_pos rfl];split <;> rfl
theorem pi(g:Nat->Nat)(B:∀y,g y<=y):∀l:List Nat,(l.map g).sum<=l.sum
 | []=>A8 _
 |a::l=>by rw[E2,List.sum_cons,List.sum_cons];exact K9 (B a) (pi g B l)
theorem pj(g:Nat->Nat)(B:∀y,g y<=y){x:Nat}(F:g x<x):∀{l:List Nat},x∈l->(l.map g).sum<l.sum
 |a::l,h=>by
  rw[E2,List.sum_cons,List.sum_cons];rcases C0.mp h with e|h
  .rw[<- e];exact Nat.add_lt_add_of_lt_of_le F (pi g B l)
  .exact Nat.add_lt_add_of_le_of_lt (B a) (pj g B F h)
theorem HOk.less(O:HOk N P h)(ha:a<N.length)(F:b<N.length)(B:hf h a≠hf h b):(iD h (hf h a) (hf h b)).sum<h.sum:=by
 obtain m:∀i,i<N.length->hf h i∈h:=λi hi=>B0 (eK 0 (by rw[O.len];exact hi));have hm:max (hf h a) (hf h b)∈h:=by
  rcases F9 (hf h a) (hf h b)with z|z
  .rw[N7 z];exact m b F
  .rw[N5 z];exact m a ha
 refine pj _ (λy=>?_) (x:=max (hf h a) (hf h b)) ?_ hm
 .show(if y=_ then _ else y)<=y;split <;>(first|exact Nk (by assumption)|exact AX)
 .show(if _=_ then _ else _)<_;rw[if_pos rfl];exact Nj B
def kZ(N:List Nd):Prop:=∀i,i<N.length->∀k∈(N.getD i ("",[])).2,k<i
theorem FW(O:HOk N P h)(K:kZ N){f:Nat->Nat}(F:Cong N P f)(hi:i<N.length):cn N f i=((cn N (hf h) i).1,(cn N (hf h) i).2.map f):=by unfold cn;rw[J0];exact C3 (Prod.mk _) (I5 λk hk=>(O.fit f F k (E7 (K i hi k hk) hi)).symm)
theorem HOk.eq(O:HOk N P h)(C:Cong N P (hf h)){r:Nat->Nat}(R:∀i,i<N.length->r i<=i/\r (r i)=r i)(F:∀f,Cong N P f->∀i,i<N.length->f (r i)=f i)(B:Cong N P r)(hi:i<N.length):hf h i=r i:=by obtain a:=O.fit r B i hi;obtain b:=F _ C i hi;obtain c:=(R _ (O.lt hi)).1;obtain d:=(O.rle (r i) (A6 (R i hi).1 hi)).1;exact C8 (b▸d) (a▸c)
end
section
variable{h:List Nat}
theorem jf(k v B:V):∀kvs:bw,ay (kvs.map λp=>if cu p.1 k then(p.1,v)else p) B=(ay kvs B).map λu=>if cu k B then v else u
 | []=>rfl
 |(a,b)::r=>by
  show ay ((if cu a k=true then(a,v)else(a,b))::r.map λp=>if cu p.1 k then(p.1,v)else p) B=_;rw[aT a b];by_cases h:a=k
  .subst h;rw[if_pos (bH a),aT];by_cases h':cu a B=true
   .rw[if_pos h',if_pos h'];show some v=some (if cu a B then v else b);rw[if_pos h']
   .rw[if_neg h',if_neg h'];exact jf a v B r
  .rw[if_neg (λz=>h ((aP _ _).mp z):¬cu a k=true),aT];by_cases h':cu a B=true
   .rw[if_pos h',if_pos h'];show some b=some (if cu k B then v else b)
    rw[if_neg];rw[aP]at h' ⊢;exactλz=>h (h'.trans z.symm)
   .rw[if_neg h',if_neg h'];exact jf k v B r
theorem nR(kvs:bw)(k v:V):ay (dput kvs k v) k=some v:=by
 rcases h:ay kvs k with _|u
 .rw[cP h,cO h,aT,if_pos (bH k)]
 .unfold dput;split
  .rw[jf,h];show some (if cu k k then v else u)=_;rw[if_pos (bH k)]
  .rename_i z;exfalso;refine z ?_;rcases y:kvs.any (λp=>cu p.1 k)with _|_
   .exact nn (gI λp hp e=>D0 (y.symm.trans (Rh.mpr (af p hp (by rw[e];exact bH k))))) h
   .rfl
theorem rD{k B:V}(h:k≠B)(kvs:bw)(v:V):ay (dput kvs k v) B=ay kvs B:=by
 obtain F:¬cu k B=true:=by rw[aP];exact h
 unfold dput;split
 .rw[jf];rcases ay kvs B with _|u
  .rfl
  .show some (if cu k B then v else u)=_;rw[if_neg F]
 .rcases z:ay kvs B with _|u
  .rw[cO z,aT,if_neg F];rfl
  .exact dP z
structure Shp(N:List Nd)(h:List Nat)(n:Nat)(kvs:bw):Prop where
 get:∀i,i<n->ay kvs (ak (cn N (hf h) i))=some (iv (hf h i))
 key:∀p∈kvs,∃i,i<n/\p.1=ak (cn N (hf h) i)
 len:kvs.length<=n
theorem Shp.fits{n:Nat}{kvs:bw}(S:Shp N h n kvs){k:V}(hk:cV k=2):keyFits kvs k:=⟨by rw[hk];decide,λp hp=>ah (S.key p hp) λi _ e=>by rw[e,hk];exact(cD _).2.2⟩
theorem ki:∀{l:List V},(∀x∈l,dA x=true)->bO l=true
 | [],_=>rfl
 |x::l,h=>by unfold bO;rw[h x y7,ki λy B=>h y (y9 _ B)];rfl
def kj{l:List V}(h:∀x∈l,gf x):iS l:=⟨ki λx B=>(h x B).1,fT λx B=>(h x B).2⟩
noncomputable abbrev mN(nd:Nd):V:=.tup [.str nd.1,.tup (nd.2.map iv)]
structure Wd(H:AH)(wa na ha:Addr)(N:List Nd)(h:List Nat):Prop where
 w:H wa=some (.dict (fl [("nodes",.ref na),("homes",.ref ha)]))
 n:H na=some (.list (N.map mN))
 h:H ha=some (.list (h.map iv))
 ne:na≠ha
def Wd.ext{H:AH}(W:Wd H wa na ha N h)(x:Ext H H'):Wd H' wa na ha N h:=⟨x _ _ W.w,x _ _ W.n,x _ _ W.h,W.ne⟩
def zC(N:List Nd):Prop:=N.length<=60/\∀nd∈N,nd.2.length<=2
theorem Es{f:Nat->Nat}(h:N[i]?=some nd):cn N f i=(nd.1,nd.2.map f):=by unfold cn;rw[C9,h];rfl
theorem Shp.step{kvs:bw}(S:Shp N h i kvs)(C:Cong N P (hf h))(F:i<N.length):Shp N h (i+1) (dput kvs (ak (cn N (hf h) i)) (iv (hf h i))):=by
 refine⟨λj B=>?_,λp hp=>?_,u0 th (E0 S.len)⟩
 .by_cases z:cn N (hf h) i=cn N (hf h) j
  .obtain G:hf h i=hf h j:=C.2 i j F (by exact Nl B F) z;rw[z,nR];exact C3 (λk=>some (iv k)) G
  .rw[rD λe=>z (lC e)];rcases Nat.lt_succ_iff_lt_or_eq.mp B with B|B
   .exact S.get j B
   .exact absurd (by rw[B]) z
 .rcases ti hp with m|m|⟨q,hq,e1,_⟩
  .exact ah (S.key p m) λj B e=>af j (M7 B) e
  .rw[m];exact(af i (K6 i) rfl)
  .exact ah (S.key q hq) λj B e=>af j (M7 B) (e1.symm.trans e)
def Shp.nil(N:List Nd)(h:List Nat):Shp N h 0 []:=⟨λ_ h=>absurd h (J4 _),λ_ h=>absurd h A7,A8 _⟩
theorem Shp.ex(C:Cong N P (hf h)):∀i,i<=N.length->∃kvs,Shp N h i kvs
 |0,_=>⟨_,Shp.nil N h⟩
 |i+1,hi=>bL (Shp.ex C i (Nat.le_of_succ_le hi)) λ_ S=>(gE _ (S.step C hi))
noncomputable abbrev AF(p:Nd×Nat):V×V:=(ak p.1,iv p.2)
theorem vE(kk:List (Nd×Nat))(nd:Nd):keyFits (kk.map AF) (ak nd):=by refine⟨by rw[(cD nd).2.2];decide,λp hp=>?_⟩;refine ah (w3.mp hp) λx _ z=>?_;subst z;rw[(cD nd).2.2];exact(cD _).2.2
section
variable{H:AH}{d:Nat}{e:ME}{h:List Nat}
theorem EvT.var{b:Bool}(h:l x=some (.bool b)):EvT σ l H (.var x) b:=λ_ _ q=>af b h q
noncomputable abbrev ft:ME:=.idx c8 f7
noncomputable abbrev lE:ME:=.idx c8 f9
theorem Wd.homes(W:Wd H wa na ha N h)(hw:l "world"=some (.ref wa)):Ev σ l H ft (.ref ha):=(y4 hw).idx .cst λ_ q=>cX W.w (gK _ _) (by rw[fI];rfl) q
theorem Wd.nodes(W:Wd H wa na ha N h)(hw:l "world"=some (.ref wa)):Ev σ l H lE (.ref na):=(y4 hw).idx .cst λ_ q=>cX W.w (gK _ _) (by rw[fI];rfl) q
def Wd.home(W:Wd H wa na ha N h)(hw:l "world"=some (.ref wa))(F:l x=some (iv i))(hi:i<h.length)(B:h.length<=60):Ev σ l H (.idx ft (.var x)) (iv (hf h i)) :=(W.homes hw).idx (.var F) λ_ q=>cY W.h (eK 0 hi) (pO hi B) q
theorem BQ{t:Tgt}{b:List MS}{a:Addr}{f:α->V}{vs:List α}(F:α->Loc->Loc)(hb:∀v l,bm t (f v) l=some (F v l))(he:Ev σ l H e (.ref a))(ha:H a=some (.list (vs.map f)))(hz:vs.length<=1000)(I:Nat->Loc->AH->Prop)(h0:I 0 l H)(hs:∀i l H,I i l H->H a=some (.list (vs.map f))) (step:∀i v l H k,vs[i]?=some v->I i l H->(∀l' H',I (i+1) l' H'->k .next l' H')->au σ d b (F v (l.put x (iv i))) H k) (Z:∀l H,I vs.length l H->au σ d rest l H K):au σ d (.for1 (.tp2 (.nm x) t) (.enum e) b::rest) l H K:=by
 have Q:(ie (vs.map f)).length=vs.length:=by rw[qs,u7]
 refine he d _ (kB a _ rfl ha (by rw[u7];exact hz) (fj (src:=some (a,vs.map f)) (λxs l H=>∃i,xs=(ie (vs.map f)).drop i/\i<=vs.length/\I i l H) (λ_ l H z=>bE z λi _ _ z=>hs i l H z) (λv xs l H k z hk=>?_) (λl H z=>?_) _ l H (aN 0 rfl (E1 _) h0)))
 .refine bE z λi ex hi G=>?_;have Y:(ie (vs.map f))[i]?=some v:=by
   obtain B:((ie (vs.map f)).drop i)[0]?=some v:=by rw[<- ex];rfl
   rwa [Q1,Nat.add_zero]at B
  obtain O:i<vs.length:=by rw[<- Q];exact(A9.mp Y).1
  refine ah (qr Y) λw hw e=>?_;rw[C5]at hw;refine ah (E3.mp hw) λu hu e2=>?_;subst e;subst e2;refine af (F u (l.put x (iv i))) ?_ (step i u l H k hu G λl' H' J=>hk l' H' (aN (i+1) (by rw[<- List.tail_drop,<- ex];rfl) O J));show(bm t (f u) (l.put x (iv i))).bind (λl=>some l)=_;rw[hb];rfl
 .refine bE z λi ex hi G=>?_;obtain B:i=vs.length:=by obtain B:=List.drop_eq_nil_iff.mp ex.symm;exact MZ Q B hi
  subst B;exact Z l H G
noncomputable abbrev Gi:ME:=.bin .add (.tup (.cons g7 .nil)) (.prim .tuple (.comp (.idx ft i9) (.one (.nm "kid") (.exp j6) none)))
theorem BX{Q:b8}(W:Wd H wa na ha N h)(J:l "op"=some (.str nd.1))(O:l "kids"=some (.tup (nd.2.map iv)))(Y:l "world"=some (.ref wa))(hz:nd.2.length<=2)(hk:∀k∈nd.2,k<h.length)(F:h.length<=60)(q:∀H',Ext H H'->Q (ak (nd.1,nd.2.map (hf h))) H'):ba σ d Gi l H Q:=by refine eI (aB (Ev.tup (.cons (.var J) .nil)) (bP (nA nd.2 iv (λk=>iv (hf h k)) (.var O) (A6 hz (by decide)) (λk G H' Z x q=>aB ((W.ext x).home ((ag _ _ (by decide)).trans ((bF _ (by decide)).trans Y)) (aq _ _ _) (hk k G) F) (q H' (y0 _))) λc H' x _ e=>aN _ e (by rw[u7];exact u0 hz (by decide)) ⟨by rw[u7];exact u0 (I6 hz 1) (by decide),?_⟩)));obtain B:=q H' x;unfold ak at B;rw[J0]at B;exact B
noncomputable abbrev zL(nd:Nd)(l:Loc):Loc:=(l.put "op" (.str nd.1)).put "kids" (.tup (nd.2.map iv))
theorem zN(nd:Nd)(l:Loc):bm (.tp2 (.nm "op") (.nm "kids")) (mN nd) l=some (zL nd l):=rfl
theorem za(na ha B:Addr):dput (fl [("nodes",.ref na),("homes",.ref ha)]) (.str "homes") (.ref B)=fl [("nodes",.ref na),("homes",.ref B)]:=by unfold dput fl;simp[jv]
theorem Eo(T:Txt σ){Q:b8}(W:Wd H wa na ha N h)(hz:h.length<=60)(J:a<h.length)(O:b<h.length)(q:∀H' y,H y=none->ExtB wa H H'->Wd H' wa na y N (iD h (hf h a) (hf h b))->Q .none H'):FCall σ 1 "_law_one" [.ref wa,iv a,iv b] H Q:=by
 refine bU T.ok T.law_one rfl (ce (bP (dK (aC (aB (W.home rfl rfl J hz) (aC (aB (W.home rfl rfl O hz) (bQ λc hc=>.inl (aN _ (AH.set_self _ _ _) (db (l:=[hf h a,hf h b]) (show 2<64 by decide)) λc2 hc2=>?_)))))))));have G:Ext H ((H.set c (.list [iv (hf h a),iv (hf h b)])).set c2 (.list (aH [iv (hf h a),iv (hf h b)]))):=(y3 _ hc).trans' (y3 _ hc2);rw[BP]at G ⊢;refine af _ (qd (AH.set_self _ _ _)) ?_;generalize (H.set c (.list [iv (hf h a),iv (hf h b)])).set c2 (.list [iv (min (hf h a) (hf h b)),iv (max (hf h a) (hf h b))])=H1 at *;have B:=W.ext G;refine Eb (ja (aB (B.homes rfl) (dY B.h (by rw[u7];exact u0 hz (by decide)) ?_)));refine ff (src:=some (ha,h.map iv)) h iv (λy=>iv (if y=max (hf h a) (hf h b)then min (hf h a) (hf h b)else y)) B.h (A6 hz (by decide)) (λy hy H' Q' Z q=>wG (aB (.var (aq _ _ _)) (aB (.var rfl) (gJ ?_)))) λc3 H3 Z h3 e3=>?_
 .by_cases z:y=max (hf h a) (hf h b)
  .rw[if_pos z]at q;exact ir (E4 z) (aB (.var rfl) (q H' (y0 _)))
  .rw[if_neg z]at q;exact fZ (E6 z) (aB (.var (aq _ _ _)) (q H' (y0 _)))
 .obtain F:=B.ext Z;obtain nw:∀{x:Addr}{vs:List V},H3 x=some (.list vs)->x≠wa:=λe z=>by rw[z,F.w]at e;exact AO.noConfusion (w4 e)
  obtain Y:na≠c3:=aw B.n h3;refine aB (.var rfl) (aB .cst (af wa rfl (.inr (iw _ F.w (gK _ _) (show 2<2^20 by decide) ?_))));rw[za];refine q _ c3 (eQ G h3) (ExtB.set (λ_ _ _ e=>(G.trans' Z) _ _ e) _) ⟨AH.set_self _ _ _,(r7 _ _ (nw F.n)).trans F.n,(r7 _ _ (nw e3)).trans ?_,Y⟩;rw[e3];unfold iD;rw[J0];rfl
end
end
section
variable{H:AH}{d:Nat}
structure LpI(N:List Nd)(P:List (Nat×Nat))(h0:List Nat)(H0:AH)(wa na ta:Addr)(l0:Loc)(i:Nat)(l:Loc)(H:AH)(ha:Addr)(h:List Nat)(b:Bool)(kk:List (Nd×Nat)):Prop where
 loc:∀y,y∉["n","op","kids","first","is_done"]->l y=l0 y
 dn:l "is_done"=some (.bool b)
 x:ExtB wa H0 H
 w:Wd H wa na ha N h
 t:H ta=some (.dict (kk.map AF))
 ok:HOk N P h
 k1:∀p∈kk,p.2<i/\∀f,Cong N P f->(p.1.1,p.1.2.map f)=cn N f p.2
 z:kk.length<=i
 f:b=true->h=h0/\∀j,j<i->∃m,ay (kk.map AF) (ak (cn N (hf h) j))=some (iv m)/\hf h m=hf h j
 s:b=false->h.sum<h0.sum
noncomputable abbrev FS:List MS:=[.asg (.tg (.nm "first")) (.meth g9 "setdefault" (.cons Gi (.cons d9 .nil))),.if1 (.cmp1 .ne (.idx ft l7) (.idx ft d9)) [.expr (.call "_law_one" (.cons c8 (.cons l7 (.cons d9 .nil)))),.asg (.tg (.nm "is_done")) f8] []]
theorem vn(T:Txt σ)(hd:1<=d){h0 h:List Nat}{ta:Addr}{l0:Loc}{b:Bool}{kk:List (Nd×Nat)}(I:LpI N P h0 H0 wa na ta l0 i l H ha h b kk)(hi:N[i]?=some nd)(Kd:kZ N)(No:zC N)(h1:l0 "world"=some (.ref wa))(h2:l0 "table"=some (.ref ta))(nt:H0 ta=none)(nwt:ta≠wa) (k:∀l' H' ha' h' b' B,LpI N P h0 H0 wa na ta l0 (i+1) l' H' ha' h' b' B->K .next l' H'):au σ d FS (zL nd (l.put "n" (iv i))) H K:=by
 have G:i<N.length:=(A9.mp hi).1;have J:h.length<=60:=by rw[I.ok.len];exact No.1
 have Y:i<h.length:=by rw[I.ok.len];exact G
 have lo:∀y,y∉["n","op","kids","first","is_done"]->(zL nd (l.put "n" (iv i))) y=l0 y:=λy O=>(ag _ _ λe=>O (by rw[e];decide)).trans ((ag _ _ λe=>O (by rw[e];decide)).trans ((ag _ _ λe=>O (by rw[e];decide)).trans (I.loc y O)));have gn:N.getD i ("",[])=nd:=by rw[C9,hi];rfl
 have hk:∀k∈nd.2,k<h.length:=λk hk=>by rw[I.ok.len];exact E7 (Kd i G k (by rw[gn];exact hk)) G
 have ec:cn N (hf h) i=(nd.1,nd.2.map (hf h)):=Es hi;have hkk:(kk.map AF).length<2^20:=by rw[u7];exact A6 (u0 I.z (u0 (D5 G) No.1)) (by decide)
 have fin:∀(H2:AH)(m:Nat)(B:List (Nd×Nat)),ExtB wa H0 H2->Wd H2 wa na ha N h->H2 ta=some (.dict (B.map AF))->m<i+1->(∀f,Cong N P f->f m=f i)->(∀p∈B,p.2<i+1/\∀f,Cong N P f->(p.1.1,p.1.2.map f)=cn N f p.2)->B.length<=i+1 ->
   (∀j v,ay (kk.map AF) (ak (cn N (hf h) j))=some v->ay (B.map AF) (ak (cn N (hf h) j))=some v)->ay (B.map AF) (ak (cn N (hf h) i))=some (iv m) ->
   au σ d [.if1 (.cmp1 .ne (.idx ft l7) (.idx ft d9)) [.expr (.call "_law_one" (.cons c8 (.cons l7 (.cons d9 .nil)))),.asg (.tg (.nm "is_done")) f8] []] ((zL nd (l.put "n" (iv i))).put "first" (iv m)) H2 K:=λH2 m B x W t hm hfe k1 z up at_=>by
  have ad:m<h.length:=E9 hm Y;have hmn:m<N.length:=by rw[<- I.ok.len];exact ad
  have an:∀y,y∉["n","op","kids","first","is_done"]->((zL nd (l.put "n" (iv i))).put "first" (iv m)) y=l0 y:=λy O=>(ag _ _ λe=>O (by rw[e];decide)).trans (lo y O);have hw:((zL nd (l.put "n" (iv i))).put "first" (iv m)) "world"=some (.ref wa):=(an _ (by decide)).trans h1;obtain cm:EvT σ ((zL nd (l.put "n" (iv i))).put "first" (iv m)) H2 (.cmp1 .ne (.idx ft l7) (.idx ft d9)) _:=.cmp (W.home hw rfl ad J) (W.home hw rfl Y J) λ_ q=>oD _ _ _ _ q;by_cases he:hf h m=hf h i
  .rw[vL he]at cm;refine dJ cm (k _ H2 ha h b B ⟨an,I.dn,x,W,t,I.ok,k1,z,λe=>⟨(I.f e).1,λj Z=>?_⟩,I.s⟩);rcases Nat.lt_succ_iff_lt_or_eq.mp Z with Z|Z
   .exact ah ((I.f e).2 j Z) λm' c1 c2=>af m' (up j _ c1) c2
   .rw[Z];exact af m at_ he
  .rw[AR he]at cm;refine fz cm (eS (eE (.cons (.var hw) (.cons (.var rfl) (.cons (.var rfl) .nil))) ((Eo T W J ad Y λH3 y O x3 W3=>⟨trivial,?_⟩).room hd)));refine lN (rest:=[]) .cst (k _ H3 y (iD h (hf h m) (hf h i)) false B ⟨λy O=>(ag _ _ λe=>O (by rw[e];decide)).trans (an y O),aq _ _ _,λa o na e=>x3 a o na (x a o na e),W3,x3 _ _ nwt t,I.ok.join hmn G (λ_ h=>h) (λ_ h=>.inl h) hfe,k1,z,λe=>ai e,λ_=>?_⟩);obtain Q:=I.ok.less hmn G he;cases b with
   |true=>rw[<- (I.f rfl).1];exact Q
   |false=>exact E7 Q (I.s rfl)
 refine ce (af _ ((lo _ (by decide)).trans h2) (af .dict ⟨by decide,(eU ta _ rfl I.t)⟩ (aC (BX (nd:=nd) I.w rfl rfl ((lo _ (by decide)).trans h1) (No.2 nd (B0 hi)) hk J λH1 x1=>aC (aB (.var rfl) (bQ (bR ta _ rfl (x1 _ _ I.t) (.inr (.inl ⟨rfl,kB _ _ rfl (vE kk _) hkk ?_⟩)))))))));rw[<- ec];have X1:ExtB wa H0 H1:=λa o na e=>x1 _ _ (I.x a o na e);obtain key:∀f,Cong N P f->cn N f i=((cn N (hf h) i).1,(cn N (hf h) i).2.map f):=λf F=>FW I.ok Kd F G;rcases gH kk (cn N (hf h) i)with⟨m,c1,c2⟩|c
 .have c2:ay (kk.map AF) (ak (cn N (hf h) i))=some (iv m):=c2;rw[c2];refine af _ rfl (fin H1 m kk X1 (I.w.ext x1) (x1 _ _ I.t) (M7 (I.k1 _ c1).1) (λf F=>?_) (λp hp=>⟨M7 (I.k1 p hp).1,(I.k1 p hp).2⟩) (Nat.le_succ_of_le I.z) (λ_ _ h=>h) c2);exact F.2 m i (E7 (I.k1 _ c1).1 G) G (((I.k1 _ c1).2 f F).symm.trans (key f F).symm)
 .have c:ay (kk.map AF) (ak (cn N (hf h) i))=none:=c;rw[c];obtain ne:∀{x:Addr}{vs:List V},H1 x=some (.list vs)->x≠ta:=λe z=>by rw[z,x1 _ _ I.t]at e;exact AO.noConfusion (w4 e)
  have W1:=I.w.ext x1;refine af _ rfl (fin _ i (kk++[(cn N (hf h) i,i)]) (λa o na e=>(r7 _ _ λz=>nn (z▸nt) e).trans (X1 a o na e)) ⟨(r7 _ _ nwt.symm).trans W1.w,(r7 _ _ (ne W1.n)).trans W1.n,(r7 _ _ (ne W1.h)).trans W1.h,W1.ne⟩ ((AH.set_self _ _ _).trans (by rw[tL AF kk (cn N (hf h) i,i)])) (K6 i) (λ_ _=>rfl) (λp hp=>?_) ?_ (λj v Z=>?_) ?_)
  .rcases D9.mp hp with hp|hp
   .exact⟨M7 (I.k1 p hp).1,(I.k1 p hp).2⟩
   .rw[A4.mp hp];exact⟨K6 i,λf F=>(key f F).symm⟩
  .rw[B7];exact E0 I.z
  .rw[C7];exact dP Z
  .rw[C7,cO c];exact(aT ..).trans (if_pos (bH _))
structure CWI(N:List Nd)(P:List (Nat×Nat))(wa na:Addr)(H0:AH)(m:Nat)(l:Loc)(H:AH)(ha:Addr)(h:List Nat)(b:Bool):Prop where
 m:m=2*h.sum+if b then 0 else 1
 l1:l "world"=some (.ref wa)
 dn:l "is_done"=some (.bool b)
 x:ExtB wa H0 H
 w:Wd H wa na ha N h
 ok:HOk N P h
 c:b=true->Cong N P (hf h)
theorem Cw(T:Txt σ){Q:b8}{h:List Nat}(W:Wd H wa na ha N h)(O:HOk N P h)(Kd:kZ N)(No:zC N) (q:∀H' F h',ExtB wa H H'->Wd H' wa na F N h'->HOk N P h'->Cong N P (hf h')->Q .none H'):FCall σ 2 "_law_close" [.ref wa] H Q:=by
 refine bU T.ok T.law_close rfl (lN .cst ?_);refine wr (λm l H'=>∃ha h b,CWI N P wa na H m l H' ha h b) _ (Qd ha h false ⟨rfl,rfl,rfl,λ_ _ _ e=>e,W,O,λz=>ai z⟩) λm l H1 z=>?_;refine Qq z λJ Z b I=>?_;rcases b with _|_
 .refine .inl ⟨y6 (b:=false) (.var I.dn),λK' k _=>ce (aC (aB .cst (aC (FE dictOK.nil (λ_ h=>absurd h A7) rfl (by decide) λta G=>bQ (af _ rfl ?_)))))⟩;obtain x1:Ext H1 (H1.set ta (.dict (([]:List V).zip ([]:List V)))):=y3 _ G;obtain Y:=I.w.ext x1;obtain ar:ta≠wa:=(aw I.w.w G).symm;refine BQ (a:=na) (f:=mN) (vs:=N) zL zN (Y.nodes I.l1) Y.n (u0 No.1 (by decide)) (λi l' H'=>∃F h' b kk,LpI N P Z H1 wa na ta ((l.put "is_done" (.bool true)).put "table" (.ref ta)) i l' H' F h' b kk) (Ol J Z true ([]) ⟨λ_ _=>rfl,rfl,λa o _ e=>x1 a o e,Y,AH.set_self _ _ _,I.ok,λ_ h=>absurd h A7,A8 _,λ_=>⟨rfl,λ_ h=>absurd h (J4 _)⟩,λe=>ai e.symm⟩) (λi l' H' z=>HK z λ_ _ _ _ B=>B.w.n) (λi nd l' H' k' hi z hk=>?_) λl2 H2 z=>?_
  .exact HK z λF h' b kk B=>vn T (A8 1) B hi Kd No I.l1 rfl G ar λl3 H3 ad h3 b3 an I3=>hk l3 H3 (Ol ad h3 b3 an I3)
  .refine HK z λF h' b kk B=>?_;obtain cg:b=true->Cong N P (hf h'):=λe=>⟨λp hp=>(B.ok.td p hp).2.2,λi j hi hj e2=>by refine ah ((B.f e).2 i hi) λm c1 c2=>?_;refine ah ((B.f e).2 j hj) λm' c3 c4=>?_;rw[<- e2]at c3;obtain rfl:=dQ (sm c1 c3);exact c2.symm.trans c4⟩;refine k _ l2 H2 ?_ (Qd F h' b ⟨rfl,(B.loc _ (by decide)).trans I.l1,B.dn,λa o na e=>B.x a o na (I.x a o na e),B.w,B.ok,cg⟩);rw[I.m,if_neg D0];rcases b with _|_
   .exact Nat.succ_lt_succ (Nat.mul_lt_mul_of_pos_left (B.s rfl) (by decide))
   .rw[(B.f rfl).1];exact K6 _
 .exact .inr ⟨y6 (b:=true) (.var I.dn),q H1 J Z I.x I.w I.ok (I.c rfl)⟩
end
section
variable{kvs:bw}
section
variable{H:AH}{d:Nat}{Q:b8}
theorem Oz(op:String)(ks:List Int):cV (.tup (.str op::ks.map .int))=2:=by
 obtain F:bz (ks.map V.int)=true:=gN λx B=>ah (w3.mp B) λi _ e=>e▸rfl;obtain G:bx (ks.map V.int)<=0:=fT λx B=>ah (w3.mp B) λi _ e=>e▸A8 0;obtain J:aQ (.tup (.str op::ks.map .int))=true:=by show(true&&bz (ks.map V.int))=true;rw[F];rfl
 obtain O:aD (.tup (.str op::ks.map .int))<=8:=by show max 0 (bx (ks.map V.int))+1<=8;exact Na G
 rw[gr,J,E4 O];rfl
theorem tf{k v:V}(h:ay kvs k=some v):∃p∈kvs,p.1=k:=by
 rcases Classical.em (∃p∈kvs,p.1=k)with z|z
 .exact z
 .exact nn (gI λp hp e=>z (af p hp e)) h
theorem Shp.val{h:List Nat}{k v:V}{n:Nat}(S:Shp N h n kvs)(e:ay kvs k=some v):∃i,i<n/\k=ak (cn N (hf h) i)/\v=iv (hf h i):=by refine ah (tf e) λp hp e1=>?_;refine ah (S.key p hp) λi hi e2=>?_;obtain B:=e1.symm.trans e2;exact(aN i hi B (Mine.sm (B▸e) (S.get i hi)))
theorem Shp.lk{h:List Nat}{n:Nat}(S:Shp N h n kvs)(op:String)(ks:List Int):(ay kvs (.tup (.str op::ks.map .int))).getD (.int (-1))=.int (lk kvs op ks):=by
 unfold Mine.lk;rcases e:ay kvs (.tup (.str op::ks.map .int))with _|v
 .rfl
 .refine bE (S.val e) λi _ _ z=>?_;subst z;rfl
theorem lD(nd:Nd):ak nd=.tup (.str nd.1::(nd.2.map Int.ofNat).map .int):=by rw[J0];rfl
theorem z6:∀{l m:List Int},l.map V.int=m.map V.int->l=m
 | [],[],_=>rfl
 | [],_::_,h=>(G0 _ _ h.symm).elim
 |_::_,[],h=>(G0 _ _ h).elim
 |a::l,b::m,h=>by rw[V.int.inj (I9 h).1,z6 (I9 h).2]
theorem Shp.neg{h:List Nat}{n:Nat}(S:Shp N h n kvs){op:String}{ks:List Int}(hm:-1∈ks):Mine.lk kvs op ks=-1:=by
 unfold Mine.lk;rcases e:ay kvs (.tup (.str op::ks.map .int))with _|v
 .rfl
 .refine bE (S.val e) λi _ B _=>?_;rw[lD]at B;rw[z6 (I9 (V.tup.inj B)).2]at hm;exact ah (w3.mp hm) λk _ e=>absurd (e▸K3 k:(0:Int)<=-1) (by decide)
theorem Ak(hl:l "pattern"=some t.v):EvT σ l H (.cmp1 .eq (.prim .len c9) d6) t.kids.isEmpty:=by
 obtain hz:(V.str t.op::t.kids.map Tr.v).length<=3:=by rw[Q6,u7];exact E0 t.kids_len
 refine y5 (w:=iv 1) (rH (.var (hl.trans (C3 some t.v_eq))) hz) .cst λ_ q=>gJ ?_;have e:decide ((V.str t.op::t.kids.map Tr.v).length=1)=t.kids.isEmpty:=by
  rcases t.kids with _|⟨k,ks⟩
  .rfl
  .exact E6 λz=>by rw[E2,Q6,Q6]at z;exact absurd (P0 z) (Nat.succ_ne_zero _)
 rw[e];exact q
theorem tt(hl:l "pattern"=some t.v):Ev σ l H (.idx c9 d5) (.str t.op) :=Ev.idx (v:=.tup (.str t.op::t.kids.map Tr.v)) (w:=iv 0) (.var (hl.trans (C3 some t.v_eq))) .cst λ_ q=>(kB 0 _ rfl (by decide) rfl q)
def wR(hl:l "pattern"=some t.v):Ev σ l H (.slc c9 (some 1) none) (.tup (t.kids.map Tr.v)) :=lv (v:=.str t.op) (.var (hl.trans (C3 some t.v_eq))) (AJ t.kids_len)
theorem z7(h:t.kids=[]):t.isv=bI t.op:=by
 rcases t with s|⟨o,t⟩|⟨t,u⟩
 .rfl
 .exact absurd h (G0 _ _)
 .exact absurd h (G0 _ _)
theorem Gd(h:t.pat)(hk:t.kids=[])(hl:l "pattern"=some t.v):EvT σ l H (.cmp1 .eq (.idx (.idx c9 d5) d5) m9) t.isv:=by
 obtain z:=aa (t.pat_op h);obtain B:=z.2;rw[z7 hk];rcases e:t.op.toList[0]? with _|c
 .rw[e]at B;exact ai B
 rw[e]at B;exact y5 ((tt hl).idx (w:=iv 0) .cst λ_ q=>⟨B8 z.1,re 0 c rfl (by decide) (by decide) e q⟩) .cst λQ q=>rG _ _ _ _ (by rw[B8 B];exact q)
theorem Tr.names_len(t:Tr):t.names.length<=2^t.ht:=by
 induction t with
 |leaf s=>show(if bI s then[s]else[]).length<=1;split <;> simp
 |f o t a=>exact u0 a (I7 (by decide) (Rz _))
 |g t u a b =>obtain B:2^t.ht<=2^max t.ht u.ht:=I7 (by decide) (L3 _ _);obtain F:2^u.ht<=2^max t.ht u.ht:=I7 (by decide) (L9 _ _);show(t.names++u.names).length<=2^(max t.ht u.ht+1);rw[B7,Nat.pow_succ];exact Nb a b F B
theorem z8(hk:t.kids=[]):t.names=if t.isv=true then[t.op]else[]:=by
 rcases t with s|⟨o,t⟩|⟨t,u⟩
 .rfl
 .exact absurd hk (G0 _ _)
 .exact absurd hk (G0 _ _)
theorem z9(hk:t.kids≠[]):t.names=t.kids.flatMap Tr.names:=by
 rcases t with s|⟨o,t⟩|⟨t,u⟩
 .exact absurd rfl hk
 .exact(H8 _).symm
 .exact C3 (t.names++·) (H8 _).symm
theorem EA{l:List α}(h:l≠[]):l.isEmpty=false:=by cases l;exact absurd rfl h;rfl
theorem CB(T:Txt σ)(t:Tr):∀{d:Nat}{H:AH}{Q:b8},t.pat->t.ht<=d->d<=5->Lst H Q (t.names.map .str)->FCall σ (d+1) "_law_names" [t.v] H Q:=by
 induction t using y8 with
 |h t ih =>
  intro d H Q hp hd F q;obtain one:=Ak (σ:=σ) (H:=H) (l:=aR ["pattern"] [t.v]) (t:=t) rfl;by_cases hk:t.kids=[]
  .rw[hk]at one;rw[z8 hk]at q;refine bU T.ok T.law_names rfl (fz one (cM (rest:=[]) (Gd hp hk rfl d _ ?_)));cases hv:t.isv with
   |true=>rw[hv]at q;exact ir rfl (dK (aC (aB (tt rfl) (bQ q.fresh))))
   |false=>rw[hv]at q;exact fZ rfl (dK (bQ q.fresh))
  .rw[EA hk]at one;obtain pw:(2:Nat)^t.ht<=2^5:=I7 (by decide) (u0 hd F);obtain nl:=u0 t.names_len pw;rw[z9 hk]at q nl;refine bU T.ok T.law_names rfl (dJ one (ce (dK (bQ λc hc=>af _ rfl (xY (aB (wR rfl) ⟨by rw[u7];exact u0 t.kids_len (by decide),?_⟩))))));refine fj (src:=none) (λxs l' H'=>(∀y,y≠"kid"->y≠"found"->l' y=aR ["pattern"] [t.v] y)/\Ext H H'/\∃dn rem a,xs=rem.map Tr.v/\dn++rem=t.kids/\l' "found"=some (.ref a)/\H' a=some (.list ((dn.flatMap Tr.names).map .str))/\H a=none) (λ_ _ _ _=>trivial) (λv xs l' H' k z J=>?_) (λl' H' z=>?_) _ _ _ (cH (λy _ h=>ag _ _ h) (y3 _ hc) (Od ([]) t.kids c rfl rfl rfl (AH.set_self _ _ _) hc))
   .refine ia z λkp x aW=>?_;refine NZ aW λdn rem a ex B hf ha hn=>?_;rcases rem with _|⟨u,rem⟩
    .exact(G0 _ _ ex).elim
    refine cf (I9 ex) λbS cI=>?_;subst bS;subst cI;have O:u∈t.kids:=B▸G1 _ y7;obtain lt:=Tr.ht_lt O;rcases d with _|d
    .exact(Fu lt hd).elim
    have dl:(dn.flatMap Tr.names).length+u.names.length<=2^5:=by refine u0 ?_ nl;rw[<- B,List.flatMap_append,K8,B7,B7,<- O7];exact G5 _ _
    refine af _ rfl (ce (eI (aB (.var ((ag _ _ (by decide)).trans hf)) (eE (.cons (.var (aq _ _ _)) .nil) (ih u O (t.pat_kid hp O) (by exact Fv hd lt) (by exact Fw F) λH2 b Y hb eb=>?_)))));refine kB _ _ (Y _ _ ha) eb (by rw[u7,u7];exact u0 dl (by decide)) λc2 hc2=>af _ rfl (J _ _ (cH (λy Z h2=>(ag _ _ h2).trans ((ag _ _ Z).trans (kp y Z h2))) ((x.trans' Y).trans' (y3 _ hc2)) (Od (dn++[u]) rem c2 rfl (by rw[K7];exact B) rfl ?_ (eQ (x.trans' Y) hc2))));rw[AH.set_self,List.flatMap_append,K8,List.flatMap_nil,H8,C7]
   .refine ia z λkp x cW=>?_;refine NZ cW λdn rem a ex B hf ha hn=>?_;obtain G:rem=[]:=List.map_eq_nil_iff.mp ex.symm;subst G;rw[H8]at B;subst B;exact cb (rest:=[]) (.var hf) (q H' a x hn ha)
end
end
section
variable{s:Nat}{h:List Nat}
theorem xZ{a b:Nd}(h:mN a=mN b):a=b:=by obtain h:=I9 (V.tup.inj h);exact Prod.ext (V.str.inj h.1) (jY (V.tup.inj (I9 h.2).1))
theorem nB(nd:Nd):aQ (mN nd)=true/\aD (mN nd)=2/\gf (mN nd):=by
 obtain d:aD (mN nd)=2:=by show max 0 (max (bx (nd.2.map iv)+1) 0)+1=2;rw[mJ];rfl
 refine(qZ ?_ d ?_ (by rw[d];decide))
 .show(true&&(bz (nd.2.map iv)&&true))=true;rw[ow];rfl
 .show(true&&(bO (nd.2.map iv)&&true))=true;rw[vS];rfl
def Bo(N:List Nd):iS (N.map mN):=kj λx B=>ah (w3.mp B) λnd _ e=>e▸(nB nd).2.2
theorem xW(N:List Nd)(nd:Nd):lQ (mN nd) (N.map mN)=true↔nd∈N:=by rw[kY,w3];exact⟨λh=>ah h λx B e=>xZ e▸B,λh=>(af nd h rfl)⟩
theorem Ay:∀(N:List Nd)(nd:Nd),nd∈N->∃i,N[i]?=some nd/\(N.map mN).findIdx? (λy=>cu y (mN nd))=some i
 | [],_,h=>absurd h A7
 |x::N,nd,h=>by
  rw[E2,List.findIdx?_cons];by_cases e:x=nd
  .exact(af 0 (C3 some e) (by rw[if_pos (by rw[aP,e])]))
  .rw[if_neg (by rw[aP];exactλz=>e (xZ z))];refine ah (Ay N nd ((C0.mp h).elim (λz=>absurd z.symm e) id)) λi B F=>?_;exact(af (i+1) B (by rw[F];rfl))
def HD.At.extB{D:HD}{H:AH}(A:D.At H){c:Addr}(x:ExtB c H H')(h:c∉D.adr):D.At H':=⟨λp hp=>x _ _ (λe=>h (w3.mpr (af p hp e))) (A.all p hp),A.nd⟩
theorem Frm.keep{H:AH}{A A':List Addr}(f:Frm H H' A A'){x:Addr}{o:AO}(h:H x=some o)(B:x∉A):H' x=some o/\x∉A':=by
 refine⟨f.out x o h B,λhm=>?_⟩;rcases f.new x hm with h'|h'
 .exact B h'
 .exact nn h' h
theorem Feed.keep{H:AH}{fa:Addr}(F:Feed H fa ca cs s)(B:∀o,H fa=some o->H' fa=some o)(G:∀o,H ca=some o->H' ca=some o):Feed H' fa ca cs s:=⟨B _ F.f,G _ F.c,F.len,F.ne⟩
structure Mid(H:AH)(fa ca wa na ha:Addr)(cs:List Int)(s:Nat)(D:HD)(P:List (Nat×Nat))(h:List Nat):Prop where
 at_:D.At H
 ok:D.Ok
 cl:Cl D P [] []
 feed:Feed H fa ca cs s
 w:Wd H wa na ha D.nodes h
 ho:HOk D.nodes P h
 f1:fa∉D.adr
 f2:ca∉D.adr
 f3:wa∉D.adr
 f4:na∉D.adr
 f5:ha∉D.adr
 n1:fa≠wa
 n2:ca≠na
 n3:ca≠ha
section
variable{H:AH}{fa:Addr}{s s':Nat}{D:HD}{h:List Nat}
theorem Mid.ext(M:Mid H fa ca wa na ha cs s D P h)(x:Ext H H'):Mid H' fa ca wa na ha cs s D P h:=⟨M.at_.ext x,M.ok,M.cl,M.feed.keep (x _) (x _),M.w.ext x,M.ho,M.f1,M.f2,M.f3,M.f4,M.f5,M.n1,M.n2,M.n3⟩
theorem Feed.nel(F:Feed H fa ca cs s){x:Addr}(e:H x=some (.list vs)):x≠fa:=λz=>by rw[z,F.f]at e;exact AO.noConfusion (w4 e)
theorem Wd.nel(W:Wd H wa na ha N h){x:Addr}(e:H x=some (.list vs)):x≠wa:=λz=>by rw[z,W.w]at e;exact AO.noConfusion (w4 e)
theorem Mid.kp(M:Mid H fa ca wa na ha cs s D P h)(x:Kp fa H H')(F:Feed H' fa ca cs s'):Mid H' fa ca wa na ha cs s' D P h:=⟨M.at_.extB x M.f1,M.ok,M.cl,F,⟨x _ _ M.n1.symm M.w.w,x _ _ (M.feed.nel M.w.n) M.w.n,x _ _ (M.feed.nel M.w.h) M.w.h,M.w.ne⟩,M.ho,M.f1,M.f2,M.f3,M.f4,M.f5,M.n1,M.n2,M.n3⟩
theorem Mid.hlen(M:Mid H fa ca wa na ha cs s D P h):h.length=D.n:=M.ho.len
def AD(O:D.Ok):kZ D.nodes:=λi hi k hk=>dE O hi k hk
def IL(O:D.Ok):zC D.nodes:=⟨O.nz,λnd hnd=>bL (D8.mp hnd) λi hi=>(O.kids i nd hi).2.2⟩
end
section
variable{H:AH}{fa ka:Addr}{s:Nat}{D:HD}{h:List Nat}{op:String}{ks:List Nat}{Q:b8}
noncomputable abbrev PL:List MS:=[.ret (.cmp1 .eq (.meth g8 "add" (.cons g7 (.cons j6 .nil))) (.meth lE "index" (.cons d8 .nil)))]
theorem xF(T:Txt σ){G:List Nd}{h':List Nat}(A:D.At H)(O:D.Ok)(C:Cl D P [] [])(F:Feed H fa ca cs s)(W:Wd H wa na ha G h')(HO:HOk G P h')(f1:fa∉D.adr)(f2:ca∉D.adr)(f3:wa∉D.adr)(f4:na∉D.adr)(f5:ha∉D.adr)(n1:fa≠wa)(n2:ca≠na)(n3:ca≠ha) (hN:(G=D.nodes/\(op,ks)∈D.nodes)\/(G=D.nodes++[(op,ks)]/\(op,ks)∉D.nodes)) (hn:D.n<60) (ho:op∈aG) (an:ks.length<=2) (av:∀k∈ks,k<D.n) (ar:H ka=some (.list (ks.map iv))) (as:ka∉D.adr) (h1:l "heap"=some (.ref D.hp)) (h2:l "world"=some (.ref wa)) (h3:l "op"=some (.str op)) (h4:l "kids"=some (.ref ka)) (h5:l "node"=some (mN (op,ks))) (q:∀H' D',Mid H' fa ca wa na ha cs s D' P h'->D'.hp=D.hp->D'.M=D.M->D'.nodes=G->Q (.bool true) H'):au σ 5 PL l H (nD Q):=by
 refine cM (rest:=[]) (BV (aS (.var h1) A.heap rfl T.Heap_add.some (.cons (.var h3) (.cons (.var h4) .nil)) (HX T A O ho an av hn ar as λH1 D1 i B hi Y=>?_)));have J:D1.nodes=G:=by
  rcases hN with⟨e,m⟩|⟨e,m⟩
  .rcases Y with z|z
   .rw[z,e]
   .exact absurd m z.2
  .rcases Y with z|z
   .rw[z]at hi;exact absurd (B0 hi) m
   .rw[z.1,e]
 obtain kw:=B.frm.keep W.w f3;obtain kn:=B.frm.keep W.n f4;obtain kh:=B.frm.keep W.h f5;obtain kf:=B.frm.keep F.f f1;obtain kc:=B.frm.keep F.c f2;obtain Z:Wd H1 wa na ha G h':=⟨kw.1,kn.1,kh.1,W.ne⟩;rw[J]at hi;refine ah (Ay G (op,ks) (B0 hi)) λj hj ej=>?_;obtain nd:G.Nodup:=J▸B.ok.ndn;obtain ad:i=j:=(List.getElem?_inj (A9.mp hi).1 nd).mp (hi.trans hj.symm);subst ad;obtain hz:G.length<=60:=J▸B.ok.nz;obtain key:=nB (op,ks);refine hZ (k:=.list) (Z.nodes h2) ⟨by decide,eU na _ rfl Z.n⟩ (.cons (.var h5) .nil) (bR na _ rfl Z.n (.inr (.inr (.inr ⟨rfl,QT (mN (op,ks)) i rfl key.1 (by rw[key.2.1];decide) (gN λy hy=>ah (w3.mp hy) λn _ e=>e▸(nB n).1) (by rw[u7];exact u0 hz (by decide)) ej (gJ ?_)⟩))));rw[E4 rfl];exact q H1 D1 ⟨B.at_,B.ok,B.cl P C,⟨kf.1,kc.1,F.len,F.ne⟩,J▸Z,J▸HO,kf.2,kc.2,kw.2,kn.2,kh.2,n1,n2,n3⟩ B.hp B.M J
theorem zS(T:Txt σ)(M:Mid H fa ca wa na ha cs s D P h)(hn:D.n<60)(ho:op∈aG)(F:ks.length<=2)(Z:∀k∈ks,k<D.n)(G:H ka=some (.list (ks.map iv)))(Y:ka∉D.adr)(k1:ka≠na)(k2:ka≠ha) (q:∀H' D' h',Mid H' fa ca wa na ha cs s D' P h'->D'.hp=D.hp->D'.M=D.M->(D'.nodes=D.nodes/\(op,ks)∈D.nodes\/D'.nodes=D.nodes++[(op,ks)]/\(op,ks)∉D.nodes)->Q (.bool true) H'):FCall σ 6 "_law_put" [.ref D.hp,.ref wa,.str op,.ref ka] H Q:=by
 obtain hl:=M.hlen;refine bU (d:=5) T.ok T.law_put rfl (lN (v:=mN (op,ks)) (.tup (.cons (.var rfl) (.cons (.prim (.var rfl) λ_ q=>aN _ G (by rw[u7];exact u0 F (by decide)) q) .nil))) ?_);obtain cm:EvT σ ((aR ["heap","world","op","kids"] [.ref D.hp,.ref wa,.str op,.ref ka]).put "node" (mN (op,ks))) H (.cmp1 .notin d8 lE) (!lQ (mN (op,ks)) (D.nodes.map mN)):=y5 (.var rfl) (M.w.nodes rfl) λQ q=>.inl (iw _ M.w.n (nB _).2.2 (Bo _) q);by_cases hm:(op,ks)∈D.nodes
 .rw[(xW _ _).mpr hm]at cm;exact dJ cm (xF T M.at_ M.ok M.cl M.feed M.w M.ho M.f1 M.f2 M.f3 M.f4 M.f5 M.n1 M.n2 M.n3 (.inl ⟨rfl,hm⟩) hn ho F Z G Y rfl rfl rfl rfl rfl λH' D' m a b c=>q H' D' h m a b (.inl ⟨c,hm⟩))
 .rw[K0.mpr λz=>hm ((xW _ _).mp z)]at cm;refine fz cm (iX (M.w.nodes rfl) M.w.n (.var rfl) (by rw[u7];exact E9 hn (by decide)) ?_);rw[tL mN D.nodes (op,ks)];have J:ExtB na H (H.set na (.list ((D.nodes++[(op,ks)]).map mN))):=ExtB.set (λ_ _ _ e=>e) _;obtain e1:(H.set na (.list ((D.nodes++[(op,ks)]).map mN))) na=some (.list ((D.nodes++[(op,ks)]).map mN)):=AH.set_self _ _ _;generalize H.set na (.list ((D.nodes++[(op,ks)]).map mN))=H1 at *;have B:Wd H1 wa na ha (D.nodes++[(op,ks)]) h:=⟨J _ _ (M.w.nel M.w.n).symm M.w.w,e1,J _ _ M.w.ne.symm M.w.h,M.w.ne⟩;refine iX (B.homes rfl) B.h (dj (B.homes rfl) B.h (u7 _) (by rw[hl];exact u0 (D5 hn) (by decide))) (by rw[u7,hl];exact E9 hn (by decide)) ?_;rw[tL iv h h.length];have O:ExtB ha H1 (H1.set ha (.list ((h++[h.length]).map iv))):=ExtB.set (λ_ _ _ e=>e) _;obtain e2:(H1.set ha (.list ((h++[h.length]).map iv))) ha=some (.list ((h++[h.length]).map iv)):=AH.set_self _ _ _;generalize H1.set ha (.list ((h++[h.length]).map iv))=H2 at *;obtain W2:Wd H2 wa na ha (D.nodes++[(op,ks)]) (h++[h.length]):=⟨O _ _ (B.nel B.h).symm B.w,O _ _ B.ne B.n,e2,B.ne⟩;obtain F2:Feed H2 fa ca cs s:=⟨O _ _ (M.feed.nel M.w.h).symm (J _ _ (M.feed.nel M.w.n).symm M.feed.f),O _ _ M.n3 (J _ _ M.n2 M.feed.c),M.feed.len,M.feed.ne⟩;exact xF T ((M.at_.extB J M.f4).extB O M.f5) M.ok M.cl F2 W2 (M.ho.add _) M.f1 M.f2 M.f3 M.f4 M.f5 M.n1 M.n2 M.n3 (.inr ⟨rfl,hm⟩) hn ho F Z (O _ _ k2 (J _ _ k1 G)) Y rfl rfl rfl rfl rfl λH' D' m a b c=>q H' D' _ m a b (.inr ⟨c,hm⟩)
end
end
noncomputable abbrev row(cs:List Nat)(s:String)(tb:bw):List bw:=cs.map λc=>tb++[(.str s,iv c)]
noncomputable def aV(cs:List Nat)(ns:List String):List bw:=ns.foldl (λts s=>ts.flatMap (row cs s)) [[]]
theorem fR(cs:List Nat)(ns:List String)(s:String):aV cs (ns++[s])=(aV cs ns).flatMap (row cs s):=by unfold aV;rw[List.foldl_append];rfl
noncomputable abbrev iu(ns:List String)(θ:String->Nat):bw:=ns.map λs=>(.str s,iv (θ s))
theorem zm{ns:List String}{B:String->Nat}(h:∀s∈ns,θ s=B s):iu ns θ=iu ns B:=I5 λs hs=>by rw[h s hs]
theorem pd{P:List α->Prop}(h0:P [])(h:∀l x,P l->P (l++[x]))(l:List α):P l:=by
 rw[<- List.reverse_reverse l];induction l.reverse with
 |nil=>exact h0
 |cons x l B=>rw[List.reverse_cons];exact h _ x B
theorem dW(cs:List Nat)(ns:List String):ns.Nodup->∀tb,tb∈aV cs ns↔∃θ:String->Nat,(∀s∈ns,θ s∈cs)/\tb=iu ns θ:=by
 induction ns using pd with
 |h0=>exactλ_ tb=>⟨λh=>(af (λ_=>0) (λ_ h=>absurd h A7) (A4.mp h)),λh=>ah h λ_ _ e=>A4.mpr e⟩
 |h ns s J =>
  intro nd tb;obtain G:=J1.mp nd;rw[fR,J6];constructor
  .refineλh=>ah h λQ h0 O=>?_
   refine ah ((J G.1 Q).mp h0) λθ F e=>?_;refine ah (w3.mp O) λc hc e1=>?_;have ne:∀x∈ns,x≠s:=λx B=>G.2.2 x B s (A4.mpr rfl);refine(af (λx=>if x=s then c else θ x) (λx B=>?_) ?_)
   .show(if x=s then c else θ x)∈cs;rcases D9.mp B with B|B
    .rw[if_neg (ne x B)];exact F x B
    .rw[if_pos (A4.mp B)];exact hc
   .rw[<- e1,e,iu,iu,C7];exact congr (C3 _ (I5 λx B=>by rw[if_neg (ne x B)])) (by rw[E2,if_pos rfl];rfl)
  .refineλh=>ah h λθ F e=>(af (iu ns θ) ((J G.1 _).mpr (af θ (λx B=>F x (G3 _ B)) rfl)) (w3.mpr (af (θ s) (F s (G1 _ (A4.mpr rfl))) (by rw[e,iu,iu,C7];rfl))))
theorem ky(cs:List Nat)(ns:List String):(aV cs ns).length=cs.length^ns.length:=by
 induction ns using pd with
 |h0=>rfl
 |h ns s B =>
  rw[fR,B7,P9,Nat.pow_succ,<- B];generalize aV cs ns=ts;induction ts with
  |nil=>rw[List.flatMap_nil,List.length_nil,Nat.zero_mul]
  |cons t ts B=>rw[K8,B7,B,u7,Q6,Nat.add_mul,Nat.one_mul,RL]
theorem sw{cs:List Nat}(hc:cs.Nodup)(ns:List String):(aV cs ns).Nodup:=by
 induction ns using pd with
 |h0=>exact E8.mpr ⟨A7,L8⟩
 |h ns s B =>
  rw[fR];generalize aV cs ns=ts at B;induction ts with
  |nil=>exact L8
  |cons t ts i2 =>
   rw[E8]at B;rw[K8,J1];refine⟨?_,i2 B.2,λx J y O e=>?_⟩
   .unfold row;refine(K1.mpr (hc.imp λ{a b} h e=>h ?_));exact dQ (Rj (I9 (List.append_cancel_left e)).1).2
   .refine ah (w3.mp J) λc _ e1=>ah (J6.mp O) λt' h' G=>ah (w3.mp G) λQ _ e2=>?_;rw[<- e1,<- e2]at e;obtain F:=(List.append_inj' e rfl).1;rw[F]at B;exact B.1 h'
theorem xT{ns:List String}{s:String}(h:s∈ns):ay (iu ns θ) (.str s)=some (iv (θ s)):=by
 induction ns with
 |nil=>exact absurd h A7
 |cons a r B =>
  show ay ((V.str a,iv (θ a))::iu r θ) (.str s)=_;rw[aT,jv];by_cases e:a=s
  .rw[if_pos (E4 e),e]
  .rw[if_neg (by rw[E6 e];exact D0)];exact B ((C0.mp h).elim (λz=>absurd z.symm e) id)
theorem hU(ns:List String)(θ:String->Nat):cN ns.length (iu ns θ):=⟨λp hp=>ah (w3.mp hp) λs _ e=>e▸⟨⟨s,rfl⟩,θ s,rfl⟩,u4 (u7 _)⟩
theorem vH{tb':bw}(h:aJ tb=aJ tb')(p:V×V)(hp:p∈tb):p∈tb':=by obtain e:aH (aY tb)=aH (aY tb'):=V.tup.inj h;obtain m:V.tup [p.1,p.2]∈aY tb':=(am _).mem_iff.mp (e▸(am _).mem_iff.mpr (w3.mpr (af p hp rfl)));refine ah (w3.mp m) λq hq e=>?_;obtain e:=I9 (V.tup.inj e);obtain e2:=(I9 e.2).1;obtain B:q=p:=Prod.ext e.1 e2;exact B▸hq
theorem vG{ns:List String}{F:String->Nat}(h:aJ (iu ns θ)=aJ (iu ns F))(nd:ns.Nodup):iu ns θ=iu ns F:=zm λs hs=>by obtain B:=vH h _ (w3.mpr (af s hs rfl));refine ah (w3.mp B) λs' _ e=>?_;obtain e:=Rj e;obtain e1:s'=s:=V.str.inj e.1;rw[e1]at e;exact(dQ e.2).symm
def vz{tb':bw}(T:cN k tb')(h:tb.Perm tb'):aJ tb=aJ tb' :=C3 V.tup (gg (λx B y F=>(T.items x B).cmp (T.items y F)) (h.map _))
theorem pS{l:List String}(h:l.length<64):sortable (l.map V.str) :=qZ (by rw[u7];exact h) (λx B=>ah (w3.mp B) λs _ e=>e▸⟨rfl,E1 _⟩) (.inr λx B=>ah (w3.mp B) λs _ e=>e▸rfl) λx B y F=>ah (w3.mp B) λs _ e=>ah (w3.mp F) λt _ e'=>by rw[<- e,<- e'];rfl
theorem kU(l:List String):∃ns:List String,aH (aM (l.map .str))=ns.map .str/\ns.Nodup/\∀s,s∈ns↔s∈l:=by
 have mem:∀v,v∈aH (aM (l.map V.str))↔v∈l.map V.str:=λv=>(am _).mem_iff.trans aZ;obtain nd:(aH (aM (l.map V.str))).Nodup:=(am _).nodup_iff.mpr (bJ _);generalize aH (aM (l.map V.str))=vs at mem nd;have ex:∃ns:List String,vs=ns.map .str:=by
  obtain h:∀v∈vs,∃s,v=V.str s:=λv B=>ah (w3.mp ((mem v).mp B)) λs _ e=>⟨s,e.symm⟩;clear mem nd;induction vs with
  |nil=>exact⟨[],rfl⟩
  |cons v vs F=>exact bL (F λv B=>h v (y9 _ B)) λns e=>bL (h v y7) λs e'=>⟨s::ns,by rw[e,e'];rfl⟩
 refine bL ex λns e=>?_;subst e;exact(aN ns rfl ((K1.mp nd).imp λh e=>h (C3 V.str e)) (λs=>⟨λh=>ah (w3.mp ((mem _).mp (w3.mpr ⟨s,h,rfl⟩))) λs' h' e=>V.str.inj e▸h',λh=>ah (w3.mp ((mem _).mpr (w3.mpr ⟨s,h,rfl⟩))) λs' h' e=>V.str.inj e▸h'⟩))
section
variable{H:AH}{d:Nat}
noncomputable abbrev NC:ME:=.comp (.prim .dict (.bin .add (.prim .listItems n8) (.lst (.cons (.tup (.cons (.var "name") (.cons j0 .nil))) .nil)))) (.more (.nm "lot") (.exp p6) (.one (.nm "c") (.exp (.prim .sortedSet ft)) none))
theorem tD(tb:bw)(k v:V):aY (tb++[(k,v)])=aY tb++[.tup [k,v]]:=by unfold aY;rw[C7];rfl
theorem HG{Q:b8}{cs:List Nat}{ns:List String}{s:String}{tl:Addr}{h:List Nat}{rs:List Addr}{tbs:List bw}(W:Wd H wa na ha N h)(ecs:aH (aM (h.map iv))=cs.map iv)(h60:h.length<=60)(h1:l "lots"=some (.ref tl))(h2:l "world"=some (.ref wa))(h3:l "name"=some (.str s))(htl:H tl=some (.list (rs.map V.ref)))(hT:Tabs H rs tbs) (hz:tbs.length<=1000) (J:cs.length<=60) (hns:ns.length<=100) (hs:s∉ns) (hnd:ns.Nodup) (hk:∀tb∈tbs,tb.map (·.1)=ns.map V.str) (q:∀H' c G,Ext H H'->H' c=some (.list (G.map V.ref))->Tabs H' G (tbs.flatMap (row cs s))->Q (.ref c) H'):ba σ d NC l H Q:=by
 obtain hrl:=hT.length;have rl:∀tb:bw,(row cs s tb).length<=60:=λtb=>by rw[u7];exact J
 have tot:(tbs.flatMap (row cs s)).length<=2^18:=u0 (cr _ 60 tbs λtb _=>rl tb) (u0 (Q8 60 hz) (by decide));refine af _ h1 (aN _ htl (by rw[u7,hrl];exact u0 hz (by decide)) λc hc=>af c rfl (pt (row cs s) htl hT hc tot (λr tb H1 rs1 k hm xe hr F hl hk'=>?_) λH' G x' F hTd=>q H' c G x' F hTd));obtain ek:=hk tb hm;obtain hst:br tb:=λp hp=>by
  have:p.1∈ns.map V.str:=ek▸w3.mpr (af p hp rfl)
  exact ah (w3.mp this) λs _ e=>e▸rfl
 have Z:tb.length<=100:=by rw[<- u7 (·.1),ek,u7];exact hns
 obtain W1:=W.ext xe;refine af _ rfl (bP (aB (W1.homes ((ag _ _ (by decide)).trans ((bF _ (by decide)).trans h2))) (aN _ W1.h (db (A6 h60 (by decide))) λsl hsl=>?_)));rw[ecs];have xs:Ext H1 (H1.set sl (.list (cs.map iv))):=y3 _ hsl;obtain O:(H1.set sl (.list (cs.map iv))) sl=some (.list (cs.map iv)):=AH.set_self _ _ _;obtain nsl:sl≠c:=(aw F hsl).symm;have hr':=xs _ _ hr;have hcl':=xs _ _ F;generalize H1.set sl (.list (cs.map iv))=H1' at *;obtain nr:r≠c:=λz=>by rw[z,F]at hr;exact AO.noConfusion (w4 hr)
 refine dY O (by rw[u7];exact u0 J (by decide)) (oa (src:=some (sl,cs.map iv)) (λxs H2=>∃dn rem B,xs=rem.map iv/\dn++rem=cs/\ExtB c H1' H2/\H2 c=some (.list ((rs1++B).map V.ref))/\Tabs H2 B (row dn s tb)) (λ_ _ z=>NZ z λ_ _ _ _ _ z _ _=>z _ _ nsl O) (λv xs H2 k2 z hk2=>?_) (λH2 z=>?_) _ H1' (Od ([]) cs ([]) rfl rfl (λ_ _ _ e=>e) (by rw[H8];exact hcl') trivial))
 .refine NZ z λdn rem B ex ed xb hc2 t5=>?_;rcases rem with _|⟨cc,rem⟩
  .exact(G0 _ _ ex).elim
  refine cf (I9 ex) λaW bS=>?_;subst aW;subst bS;obtain hl5:=t5.length;have hdl:=C3 List.length ed;rw[B7,Q6]at hdl;rw[u7]at hl5;refine af _ rfl (Ea (ir rfl (bP (eI (bP (aB (.var ((ag _ _ (by decide)).trans ((bF _ (by decide)).trans (aq _ _ _)))) (iw tb (xb _ _ nr hr') hst (u0 Z (by decide)) λa1 ha1=>dK (aC (aB (.tup (.cons (.var ((ag _ _ (by decide)).trans ((bF _ (by decide)).trans ((ag _ _ (by decide)).trans ((bF _ (by decide)).trans h3))))) (.cons (.var (aq _ _ _)) .nil))) (bQ λa2 Y=>?_))))))))));obtain n12:a1≠a2:=λz=>by rw[<- z,AH.set_self]at Y;exact sn Y
  have kn:((tb++[(V.str s,iv cc)]).map (·.1))=(ns++[s]).map V.str:=by rw[C7,ek,C7];rfl
  refine kB _ _ ((r7 _ _ n12).trans (AH.set_self _ _ _)) (AH.set_self _ _ _) (by show(aY tb).length+1<=_;unfold aY;rw[u7];exact Nm Z) λa3 ha3=>?_;refine iw (tb++[(.str s,iv cc)]) (.inr ⟨by rw[tD];exact AH.set_self _ _ _,?_⟩) (λp hp=>?_) (by rw[B7,P9];exact Nn Z) λa4 ha4=>?_
  .rw[kn];exact K1.mpr ((J1.mpr ⟨hnd,E8.mpr ⟨A7,L8⟩,λa ha b hb=>by rw[A4.mp hb];rintro rfl;exact hs ha⟩:(ns++[s]).Nodup).imp λh e=>h (V.str.inj e))
  .have:p.1∈(ns++[s]).map V.str:=kn▸w3.mpr (af p hp rfl)
   exact ah (w3.mp this) λs _ e=>e▸rfl
  have x4:=(((y3 _ ha1).trans' (y3 _ Y)).trans' (y3 _ ha3)).trans' (y3 (.dict (tb++[(.str s,iv cc)])) ha4);obtain c4:=x4 _ _ hc2;refine aN _ c4 (by rw[u7,B7,hl5];rw[u7]at hl;exact Np hdl hl) (hk2 _ (Od (dn++[cc]) rem (B++[a4]) rfl (by rw[K7];exact ed) (ExtB.set (λa o h e=>x4 _ _ (xb a o h e)) _) ?_ ?_))
  .rw[AH.set_self,<- K7,C7 (l₁:=rs1++B)];rfl
  .refine Tabs.setl c4 ?_;show Tabs _ _ ((dn++[cc]).map _);rw[C7];exact(t5.ext x4).append ⟨AH.set_self _ _ _,trivial⟩
 .refine NZ z λdn rem B ex ed xb hc2 t5=>?_;obtain this:rem=[]:=List.map_eq_nil_iff.mp ex.symm;subst this;rw[H8]at ed;subst ed;exact hk' H2 B (λa o na e=>xb a o na (xs a o e)) hc2 t5
end
section
variable{H:AH}{d:Nat}{Q:b8}
theorem Ev.neg{i:Int}:Ev σ l H (.neg i) (.int (-i)):=λ_ _ q=>q
theorem uM(i:Int)(ks:List Int):lQ (.int i) (ks.map .int)=true↔i∈ks:=by rw[kY,w3];exact⟨λh=>ah h λx B e=>V.int.inj e▸B,λh=>(af i h rfl)⟩
theorem CZ(h:t.isv=false)(x:Bool)(B:t.kids=[]->x=true->bI t.op=true):(t.kids.isEmpty&&x)=false:=by
 by_cases hk:t.kids=[]
 .rw[z7 hk]at h;rcases x with _|_
  .exact Bool.and_false _
  .exact absurd ((B hk rfl).symm.trans h) (by decide)
 .rw[EA hk];rfl
theorem FL(T:Txt σ){ta sa:Addr}{kvs:bw}{h:List Nat}(S:Shp N h N.length kvs)(sk:br tb)(O:∀s,(ay tb (.str s)).isSome=true->bI s=true)(t:Tr):∀{d:Nat}{H:AH}{Q:b8},t.pat->t.ht<=d->d<=5->H ta=some (.dict tb)->H sa=some (.dict kvs)->(∀s∈t.names,ay tb (.str s)=some (iv (θ s)))->(∀H',Ext H H'->Q (.int (t.cls kvs θ)) H')->FCall σ (d+1) "_law_home" [t.v,.ref ta,.ref sa] H Q:=by
 induction t using y8 with
 |h t Z =>
  intro d H Q hp hd J ht hs G q;have fits:∀s,keyFits tb (.str s):=λs=>⟨Nat.one_ne_zero,sk⟩;have B:EvT σ (aR ["pattern","places","table"] [t.v,.ref ta,.ref sa]) H (.and2 (.cmp1 .eq (.prim .len c9) d6) (.cmp1 .isin (.idx c9 d5) o9)) (t.kids.isEmpty&&(ay tb (.str t.op)).isSome):=.and (Ak rfl) (.cmp (tt rfl) (.var rfl) λQ q=>.inr (aN _ ht (fits _) q));cases F:t.isv with
  |true =>rw[t.names_v F]at G;rw[t.cls_v F]at q;have g:=G _ (A4.mpr rfl);rw[z0 F,g]at B;exact bU T.ok T.law_home rfl (fz B (cb ((y4 rfl).idx (tt rfl) λ_ q=>cX ht (fits _) g q) (q H (y0 _))))
  |false =>
   rw[t.cls_n F]at q;rw[t.names_n F]at G;rw[CZ F _ λ_ e=>O _ e]at B;refine bU T.ok T.law_home rfl (dJ B (ce (nA t.kids Tr.v (λk=>.int (k.cls kvs θ)) (wR rfl) (A6 t.kids_len (by decide)) (λk hk H' Q' x q=>?_) λc H1 x _ e=>af _ rfl ?_)))
   .obtain lt:=Tr.ht_lt hk;rcases d with _|d
    .exact(Fu lt hd).elim
    exact eE (.cons (.var (aq _ _ _)) (.cons (.var rfl) (.cons (.var rfl) .nil))) (Z k hk (t.pat_kid hp hk) (by exact Fv hd lt) (by exact Fw J) (x _ _ ht) (x _ _ hs) (λs hs=>G s (J6.mpr (af k hk hs))) q)
   .obtain e:H1 c=some (.list ((t.kids.map (Tr.cls kvs θ)).map .int)):=by rw[J0];exact e
    obtain hl:((t.kids.map (Tr.cls kvs θ)).map V.int).length<=2:=by rw[u7,u7];exact t.kids_len
    refine cM (rest:=[]) (wG (aB .neg (aB (.var (aq _ _ _)) (.inl (iw _ e (qM _) (kj λx Y=>ah (w3.mp Y) λi _ e=>e▸qM i) ?_)))));by_cases hm:(-1:Int)∈t.kids.map (Tr.cls kvs θ)
    .rw[S.neg hm]at q;exact ir ((uM _ _).mpr hm) (aB .neg (q H1 x))
    .refine fZ (K0.mpr λz=>hm ((uM _ _).mp z)) (hZ (k:=.dict) (.var rfl) ⟨by decide,(eU sa kvs rfl (x _ _ hs))⟩ (.cons ((Ev.tup (.cons (tt rfl) .nil)).bin (.prim (.var (aq _ _ _)) λ_ q=>aN _ e (u0 hl (by decide)) q) λ_ q=>⟨u0 (I6 hl 1) (by decide),q⟩) (.cons .neg .nil)) (bR sa kvs rfl (x _ _ hs) (.inl ⟨rfl,bR _ _ rfl (S.fits (Oz _ _)) ?_⟩)));exact(S.lk t.op (t.kids.map (Tr.cls kvs θ)))▸q H1 x
end
noncomputable abbrev θof(tb:bw)(s:String):Nat:=match ay tb (.str s)with
 |some (.int i)=>i.toNat
 |_=>0
noncomputable abbrev sY(kvs:bw)(t:Tr)(tb:bw):Int:=t.cls kvs (θof tb)
noncomputable def fP(kvs:bw)(t:Tr)(tb:bw):V:=.tup [.int (sY kvs t tb),aJ tb]
noncomputable def jx(kvs:bw)(t:Tr)(tbs:List bw):List V:=(tbs.filter λtb=>decide (0<=sY kvs t tb)).map (fP kvs t)
theorem ju{ns:List String}(nd:ns.Nodup)(h:∀s∈ns,bI s=true):ns.length<=2:=by
 obtain v:∀{s},bI s=true->s="?x"\/s="?y":=λh=>((Bool.or_eq_true _ _).mp h).imp J3 J3;rcases ns with _|⟨a,_|⟨b,_|⟨c,ns⟩⟩⟩
 .exact E1 _
 .exact Rz 1
 .exact A8 2
 .rw[E8,E8]at nd;obtain ab:a≠b:=λe=>nd.1 (e▸y7);obtain B:a≠c:=λe=>nd.1 (e▸.tail _ (.head _));obtain F:b≠c:=λe=>nd.2.1 (e▸.head _);obtain ha:=v (h a (.head _));obtain G:=v (h b (.tail _ (.head _)));obtain hc:=v (h c (.tail _ (.tail _ (.head _))));rcases ha with rfl|rfl <;> rcases G with rfl|rfl <;> rcases hc with rfl|rfl <;> first|exact absurd rfl ab|exact absurd rfl B|exact absurd rfl F
theorem Tr.names_var(s:String):s∈t.names->bI s=true:=by
 induction t with
 |leaf u =>
  intro h;cases e:bI u with
  |true=>rw[show(Tr.leaf u).names=[u]from if_pos e]at h;rw[A4.mp h];exact e
  |false=>rw[show(Tr.leaf u).names=[]from if_neg (by rw[e];exact D0)]at h;exact absurd h A7
 |f o t a=>exact a
 |g t u a b=>exactλh=>(D9.mp h).elim a b
section
variable{H:AH}{d:Nat}{h:List Nat}
noncomputable abbrev PZ:MS:=.for1 (.tp2 (.nm "n") (.tp2 (.nm "op") (.nm "kids"))) (.enum lE) [.asg (.ix g9 Gi) (.idx ft d9)]
theorem yt(hw:l "world"=some (.ref wa))(W:Wd H wa na ha N h)(Y:zC N)(Kd:kZ N)(O:HOk N P h)(C:Cong N P (hf h)) (k:∀kvs l' H' x,(∀y,y∉["n","op","kids","table"]->l' y=l y)->l' "table"=some (.ref x)->Ext H H'->H' x=some (.dict kvs)->Shp N h N.length kvs->au σ d rest l' H' K):au σ d (.asg (.tg (.nm "table")) (.dct .nil .nil)::PZ::rest) l H K:=by
 have J:=Y.1;obtain hl:h.length<=60:=by rw[O.len];exact J
 refine ce (FE dictOK.nil (λ_ h=>absurd h A7) rfl (by decide) λx hx=>af _ rfl ?_);obtain Q:Ext H (H.set x (.dict (([]:List V).zip ([]:List V)))):=y3 _ hx;refine BQ (a:=na) (f:=mN) (vs:=N) zL zN ((W.ext Q).nodes ((ag _ _ (by decide)).trans hw)) (W.ext Q).n (u0 J (by decide)) (λi l' H'=>(∀y,y∉["n","op","kids"]->l' y=(l.put "table" (.ref x)) y)/\Ext H H'/\∃kvs,H' x=some (.dict kvs)/\Shp N h i kvs) (cH (λ_ _=>rfl) Q (af ([]) (AH.set_self _ _ _) (Shp.nil N h))) (λi l' H' z=>(W.ext z.2.1).n) (λi nd l' H' k' hi z hk=>?_) λl2 H2 z=>ia z λkp x2 z=>ah z λkvs e S=>k kvs l2 H2 x (λy F=>(kp y λm=>F (G3 (as:=["n","op","kids"]) ["table"] m)).trans (ag _ _ λe=>F (by rw[e];decide))) ((kp _ (by decide)).trans (aq _ _ _)) x2 e S;refine ia z λkp x1 z=>ah z λkvs e S=>?_;have B:i<N.length:=(A9.mp hi).1;have lo:∀y,y∉["n","op","kids"]->(zL nd (l'.put "n" (iv i))) y=(l.put "table" (.ref x)) y:=λy F=>(ag _ _ λe=>F (by rw[e];decide)).trans ((ag _ _ λe=>F (by rw[e];decide)).trans ((ag _ _ λe=>F (by rw[e];decide)).trans (kp y F)));obtain G:(zL nd (l'.put "n" (iv i))) "world"=some (.ref wa):=(lo _ (by decide)).trans ((ag _ _ (by decide)).trans hw);obtain gn:N.getD i ("",[])=nd:=by rw[C9,hi];rfl
 obtain ec:cn N (hf h) i=(nd.1,nd.2.map (hf h)):=Es hi;obtain Z:=W.ext x1;refine Eb (aB (Z.home G rfl (by rw[O.len];exact B) hl) (aB (.var ((lo _ (by decide)).trans (aq _ _ _))) (BX (nd:=nd) Z rfl rfl G (Y.2 nd (B0 hi)) (λk hk=>by rw[O.len];exact E7 (Kd i B k (by rw[gn];exact hk)) B) hl λH3 x3=>af x rfl (.inr (iw kvs (x3 _ _ e) (S.fits (cD _).2.2) (A6 (u0 S.len (u0 (D5 B) J)) (by decide)) (hk _ _ (cH lo ((x1.trans' x3).setc hx _) (af _ (AH.set_self _ _ _) (ec▸S.step C B)))))))))
noncomputable abbrev OB:List MS:=[.asg (.tg (.nm "lots")) NC]
theorem Af(T:Txt σ){cs:List Nat}(hd:5<=d)(hp:t.pat)(ht:t.ht<=4)(hw:l "world"=some (.ref wa))(hpt:l "pattern"=some t.v)(W:Wd H wa na ha N h)(h60:h.length<=60)(ecs:aH (aM (h.map iv))=cs.map iv)(Y:cs.length<=20) (k:∀ns l' H' tl rs,ns.Nodup->(∀s,s∈ns↔s∈t.names)->(∀y,y∉["name","lots"]->l' y=l y)->l' "lots"=some (.ref tl)->Ext H H'->H' tl=some (.list (rs.map V.ref))->Tabs H' rs (aV cs ns)->au σ d rest l' H' K) : au σ d (.asg (.tg (.nm "lots")) (.lst (.cons (.dct .nil .nil) .nil))::.for1 (.nm "name") (.exp (.prim .sortedSet (.call "_law_names" (.cons c9 .nil)))) OB::rest) l H K:=by
 refine ce (dK (aC (FE dictOK.nil (λ_ h=>absurd h A7) rfl (by decide) λB he0=>bQ λQ Z=>af _ rfl ?_)));obtain x1:Ext H ((H.set B (.dict (([]:List V).zip ([]:List V)))).set Q (.list [.ref B])):=(y3 _ he0).trans' (y3 _ Z);obtain e1:((H.set B (.dict (([]:List V).zip ([]:List V)))).set Q (.list [.ref B])) Q=some (.list ([B].map V.ref)):=AH.set_self _ _ _;obtain e2:Tabs ((H.set B (.dict (([]:List V).zip ([]:List V)))).set Q (.list [.ref B])) [B] [[]]:=⟨y3 _ Z _ _ (AH.set_self _ _ _),trivial⟩;generalize (H.set B (.dict (([]:List V).zip ([]:List V)))).set Q (.list [.ref B])=H1 at *;refine xY (bP (eE (.cons (.var ((ag _ _ (by decide)).trans hpt)) .nil) ((CB T t hp (A8 _) (Nat.le_succ_of_le ht) λH2 nl x2 _ en=>?_).room (u0 (E0 ht) hd))));obtain nz:t.names.length<64:=A6 (u0 t.names_len (I7 (by decide) ht)) (by decide);refine aN _ en (pS nz) λsl hsl=>?_;refine bE (kU t.names) λns ens nd mem=>?_;rw[ens];obtain n2:ns.length<=2:=ju nd λs hs=>t.names_var s ((mem s).mp hs);have x3:Ext H1 (H2.set sl (.list (ns.map V.str))):=x2.trans' (y3 _ hsl);have e3:(H2.set sl (.list (ns.map V.str))) sl=some (.list (ns.map V.str)):=AH.set_self _ _ _;generalize H2.set sl (.list (ns.map V.str))=H3 at *;have tz:∀dn,dn.length<=2->(aV cs dn).length<=1000:=λdn h=>by rw[ky];exact u0 (Nat.pow_le_pow_left Y _) (u0 (I7 (by decide) h) (by decide))
 refine dY e3 (by rw[u7];exact u0 n2 (by decide)) (fj (src:=some (sl,ns.map V.str)) (λxs l' H'=>(∀y,y∉["name","lots"]->l' y=l y)/\Ext H3 H'/\∃dn rem tl rs,xs=rem.map V.str/\dn++rem=ns/\l' "lots"=some (.ref tl)/\H' tl=some (.list (rs.map V.ref))/\Tabs H' rs (aV cs dn)) (λ_ _ _ z=>z.2.1 _ _ e3) (λv xs l' H' k z hk=>?_) (λl' H' z=>?_) _ _ _ (cH (λy J=>ag _ _ λe=>J (by rw[e];decide)) (y0 _) (Qv ([]) ns Q ([B]) rfl rfl (aq _ _ _) (x3 _ _ e1) (e2.ext x3))))
 .refine ia z λkp x4 z=>?_;refine Qr z λdn rem tl rs ex O htl hl hT=>?_;rcases rem with _|⟨s,rem⟩
  .exact(G0 _ _ ex).elim
  refine cf (I9 ex) λaW bS=>?_;subst aW;subst bS;have F:=nd;rw[<- O,J1]at F;obtain G:=C3 List.length O;rw[B7,Q6]at G;have lo:∀y,y∉["name","lots"]->(l'.put "name" (.str s)) y=l y:=λy J=>(ag _ _ λe=>J (by rw[e];decide)).trans (kp y J);obtain WW:=W.ext ((x1.trans' x3).trans' x4);refine af _ rfl (ce (HG (l:=l'.put "name" (.str s)) (ns:=dn) WW ecs h60 ((ag _ _ (by decide)).trans htl) ((lo _ (by decide)).trans hw) rfl hl hT (tz dn (u0 (Nat.le.intro G) n2)) (u0 Y (by decide)) (u0 (Nat.le.intro G) (u0 n2 (by decide))) (λh=>F.2.2 s h s y7 rfl) F.1 (λtb htb=>?_) λH4 c rs' x5 e5 hT'=>af _ rfl (hk _ _ (cH (λy J=>(ag _ _ λe=>J (by rw[e];decide)).trans (lo y J)) (x4.trans' x5) (Qv (dn++[s]) rem c rs' rfl (by rw[K7];exact O) (aq _ _ _) e5 (by rw[fR];exact hT'))))));refine ah ((dW cs dn F.1 tb).mp htb) λθ _ e=>?_;rw[e,J0];rfl
 .refine ia z λkp x4 z=>?_;refine Qr z λdn rem tl rs ex O htl hl hT=>?_
  have:rem=[]:=List.map_eq_nil_iff.mp ex.symm
  subst this;rw[H8]at O;subst O;exact k dn l' H' tl rs nd mem kp htl ((x1.trans' x3).trans' x4) hl hT
end
theorem Tabs.zip{H:AH}:∀{rs:List Addr}{ts:List bw},Tabs H rs ts->∀p∈rs.zip ts,H p.1=some (.dict p.2)
 | [],[],_,p,h=>absurd h A7
 |r::rs,t::ts,hT,p,h=>(C0.mp (show p∈(r,t)::rs.zip ts from h)).elim (λe=>e▸hT.1) λh=>Tabs.zip hT.2 p h
 | [],_::_,h,_,_=>h.elim
 |_::_,[],h,_,_=>h.elim
section
variable{H:AH}{d:Nat}{h:List Nat}
noncomputable abbrev Ot:ME:=.comp (.tup (.cons (.call "_law_home" (.cons c9 (.cons n8 (.cons g9 .nil)))) (.cons (.prim .tuple (.prim .sortedItems n8)) .nil))) (.one (.nm "lot") (.exp p6) none)
noncomputable abbrev PX:ME:=.prim .sorted (.comp p7 (.one (.nm "pair") (.exp k9) (some (.cmp1 .ge (.idx p7 d5) d5))))
theorem yE{ns:List String}(mem:∀s,s∈ns↔s∈t.names)(s:String)(e:(ay (iu ns θ) (.str s)).isSome=true):bI s=true:=by
 rcases g:ay (iu ns θ) (.str s)with _|v
 .rw[g]at e;exact ai e
 .refine ah (tf g) λp hp e1=>ah (w3.mp hp) λu F e2=>?_;obtain B:u=s:=V.str.inj ((C3 Prod.fst e2).trans e1);exact t.names_var s ((mem s).mp (B▸F))
theorem yq(T:Txt σ){cs:List Nat}{ns:List String}{kvs:bw}{ta tl:Addr}{rs:List Addr}{Q:b8}(S:Shp N h N.length kvs)(hp:t.pat)(ht:t.ht<=4)(hd:5<=d)(nd:ns.Nodup)(mem:∀s,s∈ns↔s∈t.names)(hz:(aV cs ns).length<=1000) (h1:l "pattern"=some t.v) (h2:l "table"=some (.ref ta)) (h3:l "lots"=some (.ref tl)) (O:H ta=some (.dict kvs)) (htl:H tl=some (.list (rs.map V.ref))) (hT:Tabs H rs (aV cs ns)) (q:∀c H',Ext H H'->H' c=some (.list ((aV cs ns).map (fP kvs t)))->Q (.ref c) H'):ba σ d Ot l H Q:=by
 have hl:=hT.length;have e1:(rs.zip (aV cs ns)).map (λp=>V.ref p.1)=rs.map V.ref:=by rw[show(λp:Addr×bw=>V.ref p.1)=V.ref∘Prod.fst from rfl,<- J0,List.map_fst_zip (u4 hl)]
 have e2:(rs.zip (aV cs ns)).map (λp=>fP kvs t p.2)=(aV cs ns).map (fP kvs t):=by rw[show(λp:Addr×bw=>fP kvs t p.2)=fP kvs t∘Prod.snd from rfl,<- J0,List.map_snd_zip (u4 hl.symm)]
 obtain Y:(rs.zip (aV cs ns)).length<=1000:=by rw[List.length_zip];exact u0 (Q7 _ _) hz
 refine ja (aB (.var h3) (dY htl (by rw[u7,hl];exact u0 hz (by decide)) ?_));rw[<- e1];refine ff (src:=some (tl,(rs.zip (aV cs ns)).map (λp=>V.ref p.1))) (rs.zip (aV cs ns)) (λp=>V.ref p.1) (λp=>fP kvs t p.2) (by rw[e1];exact htl) (A6 Y (by decide)) (λp B H' Q' x k=>?_) λc H' x _ e=>q c H' x (by rw[e,e2]);obtain lo:∀y,y≠"lot"->y≠".0"->((l.drop ["lot"]).put "lot" (.ref p.1)) y=l y:=λy a b=>(ag _ _ a).trans (bF _ λm=>(C0.mp m).elim b λm=>a (A4.mp m));refine ah ((dW cs ns nd p.2).mp (List.of_mem_zip B).2) λθ _ G=>?_;have F:cN ns.length p.2:=G▸hU ns θ;have n2:ns.length<=2:=ju nd λs hs=>t.names_var s ((mem s).mp hs);have hr:H' p.1=some (.dict p.2):=x _ _ (hT.zip p B);refine aC (eE (.cons (.var ((lo _ (by decide) (by decide)).trans h1)) (.cons (.var (aq _ _ _)) (.cons (.var ((lo _ (by decide) (by decide)).trans h2)) .nil))) ((FL T (θ:=θof p.2) S F.str (λs e=>?_) t hp (A8 _) (Nat.le_succ_of_le ht) hr (x _ _ O) (λs hs=>?_) λH1 Z=>?_).room (u0 (E0 ht) hd)))
 .rw[G]at e;exact yE mem s e
 .obtain g:=xT (θ:=θ) ((mem s).mpr hs);rw[<- G]at g;rw[g];exact C3 (λk=>some (V.int k)) (by unfold θof;rw[g];rfl)
 .refine aC (bP (bP (aB (.var (aq _ _ _)) (iw p.2 (Z _ _ hr) F.str (F.sort (A6 n2 (by decide))) λs1 J=>aN _ (AH.set_self _ _ _) ?_ (bQ (k _ (Z.trans' (y3 _ J))))))));rw[(am _).length_eq];exact u0 (D5 (F.sort (A6 n2 (by decide))).1) (by decide)
def CF{i j:Int}{Q:Bool->Prop}(q:Q (decide (j<=i))):eZ H .ge (.int i) (.int j) Q:=(bR i j rfl rfl q)
theorem vp{kvs:bw}{tbs:List bw}{c:Addr}{Q:b8}(F:l "found"=some (.ref c))(hc:H c=some (.list (tbs.map (fP kvs t))))(hz:tbs.length<=1000)(so:sortable (jx kvs t tbs))(q:∀x H',Ext H H'->H' x=some (.list (aH (jx kvs t tbs)))->Q (.ref x) H'):ba σ d PX l H Q:=by refine bP (uT (aB (.var F) (dY hc (by rw[u7];exact u0 hz (by decide)) ?_)));refine je (src:=some (c,tbs.map (fP kvs t))) (K:=λa H2=>iT H2 Q .sorted (.ref a)) tbs (fP kvs t) (fP kvs t) (λtb=>decide (0<=sY kvs t tb)) hc (A6 hz (by decide)) (λtb _ H' B _ k=>y5 (op:=.ge) (w:=.int 0) ((y4 (aq _ _ _)).idx (v:=fP kvs t tb) (w:=iv 0) (u:=.int (sY kvs t tb)) .cst λ_ q=>kB 0 _ rfl (by decide) rfl q) .cst (λ_ q=>CF q) _ _ k) (λtb _ _ H' B _ k=>aB (.var (aq _ _ _)) (k H' (y0 _))) λa H' x _ e=>?_;exact .inl (aN _ e so λb G=>q b _ (x.trans' (y3 _ G)) (AH.set_self _ _ _))
theorem HY(T:Txt σ){Q:b8}{cs:List Nat}(W:Wd H wa na ha N h)(O:HOk N P h)(C:Cong N P (hf h))(Kd:kZ N)(No:zC N)(hp:t.pat)(ht:t.ht<=4)(J:aH (aM (h.map iv))=cs.map iv)(F:cs.length<=20) (so:∀kvs ns,Shp N h N.length kvs->ns.Nodup->(∀s,s∈ns↔s∈t.names)->sortable (jx kvs t (aV cs ns))) (q:∀kvs ns H' x,Shp N h N.length kvs->ns.Nodup->(∀s,s∈ns↔s∈t.names)->Ext H H'->H' x=some (.list (aH (jx kvs t (aV cs ns))))->Q (.ref x) H'):FCall σ 6 "_law_due" [t.v,.ref wa] H Q:=by
 obtain Y:h.length<=60:=by rw[O.len];exact No.1
 refine bU (d:=5) T.ok T.law_due rfl (yt (P:=P) rfl W No Kd O C λkvs l1 H1 ta B e1 x1 Z S=>?_);refine Af T (A8 5) hp ht ((B _ (by decide)).trans rfl) ((B _ (by decide)).trans rfl) (W.ext x1) Y J F λns l2 H2 tl rs nd mem G e2 x2 htl hT=>?_;have hz:(aV cs ns).length<=1000:=by rw[ky];exact u0 (Nat.pow_le_pow_left F _) (u0 (I7 (by decide) (ju nd λs hs=>t.names_var s ((mem s).mp hs))) (by decide))
 refine ce (yq T S hp ht (A8 5) nd mem hz ((G _ (by decide)).trans ((B _ (by decide)).trans rfl)) ((G _ (by decide)).trans e1) e2 (x2 _ _ Z) htl hT λc H3 x3 e3=>af _ rfl ?_);exact cM (rest:=[]) (vp (aq _ _ _) e3 hz (so kvs ns S nd mem) λx H4 x4 e4=>q kvs ns H4 x S nd mem (((x1.trans' x2).trans' x3).trans' x4) e4)
end
section
variable{cs:List Nat}
structure TS(D:HD)(tb:bw):Prop where
 nd:(tb.map (·.1)).Nodup
 ent:∀p∈tb,∃(s:String)(i:Nat),p=(.str s,iv i)/\i<D.n/\D.r i=i
def Ag(tb:bw)(θ:String->Nat):Prop:=∀s v,(V.str s,v)∈tb->v=iv (θ s)
structure Exd(D:HD)(ns:List String)(tb tb':bw):Prop where
 ts:TS D tb'
 sub:∀p∈tb,p∈tb'
 dom:∀s,(∃v,(V.str s,v)∈tb')↔(∃v,(V.str s,v)∈tb)\/s∈ns
theorem Exd.refl{D:HD}(h:TS D tb):Exd D [] tb tb:=⟨h,λ_ h=>h,λs=>⟨.inl,λz=>z.elim id λz=>absurd z A7⟩⟩
theorem Exd.trans{D:HD}{ns ms:List String}{a b c:bw}(x:Exd D ns a b)(y:Exd D ms b c):Exd D (ns++ms) a c:=⟨y.ts,λp h=>y.sub p (x.sub p h),λs=>by rw[y.dom,x.dom,D9,or_assoc]⟩
def Ag.sub{tb':bw}(h:Ag tb' θ)(s:∀p∈tb,p∈tb'):Ag tb θ:=λx v B=>h x v (s _ B)
theorem xq(nd:(tb.map (·.1)).Nodup){p q:V×V}(hp:p∈tb)(hq:q∈tb)(e:p.1=q.1):p=q:=by
 obtain⟨i,hi⟩:=D8.mp hp;obtain⟨j,G⟩:=D8.mp hq;obtain F:(tb.map (·.1))[i]?=some p.1:=by rw[C5,hi];rfl
 obtain J:(tb.map (·.1))[j]?=some p.1:=by rw[C5,G,e];rfl
 obtain B:=(List.getElem?_inj (A9.mp F).1 nd).mp (F.trans J.symm);subst B;exact w4 (hi.symm.trans G)
theorem jg{kvs:bw}{k v:V}(h:ay kvs k=some v):(k,v)∈kvs:=by refine ah (E3.mp h) λp hp e=>?_;obtain e1:p.1=k:=(aP _ _).mp (List.find?_some (p:=λp:V×V=>cu p.1 k) hp);obtain B:p=(k,v):=Prod.ext e1 e;exact B▸List.mem_of_find?_eq_some hp
theorem tM(nd:(tb.map (·.1)).Nodup){k v:V}(h:(k,v)∈tb):ay tb k=some v:=by
 rcases e:ay tb k with _|u
 .exfalso;induction tb with
  |nil=>exact absurd h A7
  |cons q r B =>
   obtain⟨a,b⟩:=q;rw[aT]at e;by_cases z:cu a k=true
   .rw[if_pos z]at e;exact sn e
   .rw[if_neg z]at e;rcases C0.mp h with h|h
    .exact z ((aP _ _).mpr (Rj h).1.symm)
    .rw[E2,E8]at nd;exact B nd.2 h e
 .exact C3 some (Rj (xq nd (jg e) h rfl)).2
theorem yo(nd:(tb.map (·.1)).Nodup){k v:V}(h:ay tb k=some v):dput tb k v=tb:=by
 obtain hm:=jg h;unfold dput;rw[if_pos (Rh.mpr (af _ hm (bH k)))];refine(I5 λp hp=>?_).trans (List.map_id tb);by_cases e:cu p.1 k=true
 .rw[if_pos e];exact(xq nd hp hm ((aP _ _).mp e)).symm▸rfl
 .rw[if_neg e];rfl
section
variable{D:HD}
theorem nW{tb':bw}(B:t.isv=true)(hc:c<D.n)(hr:D.r c=c)(h:TS D tb):tb'∈(if cu ((ay tb (.str t.op)).getD (iv c)) (iv c)then[dput tb (.str t.op) (iv c)]else[])↔((ay tb (.str t.op)=none/\tb'=tb++[(.str t.op,iv c)])\/(ay tb (.str t.op)=some (iv c)/\tb'=tb)):=by
 rcases e:ay tb (.str t.op)with _|v
 .rw[show((none:Option V).getD (iv c))=iv c from rfl,if_pos (bH _),cP e,A4];exact⟨λh=>.inl ⟨rfl,h⟩,λz=>z.elim (λz=>z.2) λz=>ns z.1⟩
 .show tb'∈(if cu v (iv c)then _ else _)↔_;by_cases z:v=iv c
  .subst z;rw[if_pos (bH _),yo h.nd e,A4];exact⟨λh=>.inr ⟨rfl,h⟩,λz=>z.elim (λz=>sn z.1) λz=>z.2⟩
  .rw[if_neg (by rw[aP];exact z)];exact⟨λh=>absurd h A7,λy=>y.elim (λy=>sn y.1) λy=>absurd (w4 y.1) z⟩
structure Fit(D:HD)(h:List Nat)(kvs:bw):Prop where
 o:D.Ok
 hr:∀i,i<D.n->hf h i=D.r i
 s:Shp D.nodes h D.n kvs
variable{h:List Nat}{kvs:bw}
theorem Fit.cn(F:Fit D h kvs)(hi:i<D.n):cn D.nodes (hf h) i=D.canon i:=C3 (Prod.mk _) (I5 λk hk=>F.hr k (E7 (dE F.o hi k hk) hi))
theorem Fit.hit(F:Fit D h kvs)(hi:i<D.n):lk kvs (D.canon i).1 ((D.canon i).2.map Int.ofNat)=(D.r i:Int):=by obtain B:=F.s.get i hi;rw[F.cn hi,lD,F.hr i hi]at B;unfold lk;rw[B]
theorem Fit.inv(F:Fit D h kvs){op:String}{ks:List Int}(hc:0<=lk kvs op ks):∃i,i<D.n/\(D.r i:Int)=lk kvs op ks/\op=(D.canon i).1/\ks=(D.canon i).2.map Int.ofNat:=by
 unfold lk at hc ⊢;rcases e:ay kvs (.tup (.str op::ks.map .int))with _|v
 .rw[e]at hc;exact absurd hc (by decide)
 .refine bE (F.s.val e) λi hi B G=>?_;rw[F.cn hi,lD]at B;obtain B:=I9 (V.tup.inj B);subst G;exact(iw i hi (C3 Int.ofNat (F.hr i hi).symm) (V.str.inj B.1) (z6 B.2))
def FF(hi:i<D.n):ak (D.canon i)∈D.NN (D.r i):=(am _).mem_iff.mpr (aZ.mpr (w3.mpr (af i (I8.mpr ⟨F8.mpr hi,E4 rfl⟩) rfl)))
def jw(D:HD)(k:Nat):Prop:=k<D.n/\D.r k=k
def Ek(D:HD)(kvs:bw)(t:Tr):Prop:=∀c tb tb',jw D c->TS D tb->tb'∈dq D.NN t.v c tb->Exd D t.names tb tb'/\∀θ,Ag tb' θ->t.cls kvs θ=(c:Int)
theorem uA:∀(us:List Tr),(∀u∈us,Ek D kvs u)->∀(ks:List Nat)(tbs:List bw)(tb':bw),ks.length=us.length->(∀k∈ks,jw D k)->(∀tb∈tbs,TS D tb)->tb'∈dD D.NN (us.map Tr.v) (ks.map iv) tbs->∃tb∈tbs,Exd D (us.flatMap Tr.names) tb tb'/\∀θ,Ag tb' θ->us.map (Tr.cls kvs θ)=ks.map Int.ofNat
 | [],_,ks,tbs,tb',hl,_,ht,h=>by obtain B:ks=[]:=L6.mp hl;subst B;exact(aN tb' h (.refl (ht _ h)) (λ_ _=>rfl))
 |u::us,Y,[],tbs,tb',hl,_,_,_=>Nat.noConfusion hl
 |u::us,Y,k::ks,tbs,tb',hl,hk,ht,h=>by rw[E2,E2,jV]at h;obtain Z:=Y u y7;obtain rk:=hk k y7;refine bE (uA us (λv hv=>Y v (y9 _ hv)) ks _ tb' (P0 hl) (λk Q=>hk k (y9 _ Q)) (λG J=>ah (J6.mp J) λtb F O=>(Z k tb G rk (ht tb F) O).1.ts) h) λG J x2 c2=>?_;refine ah (J6.mp J) λtb F O=>?_;obtain B:=Z k tb G rk (ht tb F) O;exact(aN tb F (B.1.trans x2) (λθ a=>by rw[E2,E2,B.2 θ (a.sub x2.sub),c2 θ a];rfl))
theorem wo(F:Fit D h kvs)(t:Tr):Ek D kvs t:=by
 induction t using y8 with
 |h t ih =>
  intro c tb tb' hc ht hm;rw[t.v_eq]at hm;cases B:t.isv with
  |true =>
   obtain J:iE (.tup (.str t.op::t.kids.map Tr.v))=true:=by rw[z0 B];exact(z7 (z0 B)).symm.trans B
   rw[iB D.NN J,nW B hc.1 hc.2 ht]at hm;rw[t.names_v B];rcases hm with⟨e,rfl⟩|⟨e,rfl⟩
   .refine⟨⟨⟨?_,λp hp=>?_⟩,λp hp=>G3 _ hp,λs=>?_⟩,λθ a=>?_⟩
    .rw[C7,J1];exact⟨ht.nd,E8.mpr ⟨A7,L8⟩,λa ha b hb e2=>ah (w3.mp ha) λq hq e3=>by obtain e4:b=.str t.op:=A4.mp hb;obtain G:=tM ht.nd (k:=.str t.op) (v:=q.2) (by rw[<- e4,<- e2,<- e3];exact hq);exact nn e G⟩
    .rcases D9.mp hp with hp|hp
     .exact ht.ent p hp
     .exact(eU t.op c (A4.mp hp) hc)
    .constructor
     .refineλz=>bL z λv B=>(D9.mp B).imp (λh=>(gE v h)) λh=>?_
      exact A4.mpr (V.str.inj (Rj (A4.mp h)).1)
     .exactλz=>z.elim (λz=>bL z λv B=>(gE v (G3 _ B))) λz=>⟨iv c,G1 _ (by rw[A4.mp z];exact A4.mpr rfl)⟩
    .rw[t.cls_v B];exact C3 Int.ofNat (dQ (a t.op (iv c) (G1 _ (A4.mpr rfl)))).symm
   .have hm:=jg e;refine⟨⟨ht,λ_ h=>h,λs=>⟨.inl,λz=>z.elim id λz=>⟨iv c,by rw[A4.mp z];exact hm⟩⟩⟩,λθ a=>?_⟩;rw[t.cls_v B];exact C3 Int.ofNat (dQ (a t.op (iv c) hm)).symm
  |false =>
   have J:iE (.tup (.str t.op::t.kids.map Tr.v))=false:=by
    rcases t with s|⟨o,t⟩|⟨t,u⟩
    .exact B
    .rfl
    .rfl
   rw[gq D.NN J]at hm;rw[t.names_n B];refine ah (J6.mp hm) λnd hnd hm=>?_;refine ah (AL hnd) λi hi e=>?_;subst e;obtain hi:=HD.mem_lt hi;rw[ji]at hm;split at hm
   .rename_i O;refine bE (uA t.kids ih (D.canon i).2 [tb] tb' (by rw[O.2,u7]) (λk hk=>?_) (λtb h=>A4.mp h▸ht) hm) λtb1 h1 x Z=>?_
    .refine ah (w3.mp hk) λY Q e=>?_;subst e;obtain G:=E7 (dE F.o hi.1 Y Q) hi.1;exact⟨oT F.o G,(F.o.rle Y G).2⟩
    .obtain rfl:=A4.mp h1;refine⟨x,λθ a=>?_⟩;rw[t.cls_n B,Z θ a,<- O.1,F.hit hi.1,hi.2]
   .exact absurd hm A7
def Ej(D:HD)(kvs:bw)(θ:String->Nat)(t:Tr):Prop:=∀c tb,jw D c->TS D tb->Ag tb θ->t.cls kvs θ=(c:Int)->∃tb'∈dq D.NN t.v c tb,Ag tb' θ
theorem sZ(F:Fit D h kvs):∀(us:List Tr),(∀u∈us,Ej D kvs θ u)->∀(ks:List Nat)(tbs:List bw)(tb:bw),(∀k∈ks,jw D k)->tb∈tbs->TS D tb->Ag tb θ->us.map (Tr.cls kvs θ)=ks.map Int.ofNat->∃tb'∈dD D.NN (us.map Tr.v) (ks.map iv) tbs,Ag tb' θ
 | [],_,ks,tbs,tb,_,h,_,a,e=>(af tb (by rw[List.map_nil,jj];exact h) a)
 |u::us,_,[],_,_,_,_,_,_,e=>(G0 _ _ e).elim
 |u::us,J,k::ks,tbs,tb,hk,h,t,a,e=>by obtain e:=I9 e;obtain rk:=hk k y7;refine ah (J u y7 k tb rk t a e.1) λB G O=>?_;rw[E2,E2,jV];exact sZ F us (λv Q=>J v (y9 _ Q)) ks _ B (λk h=>hk k (y9 _ h)) (J6.mpr (af tb h G)) (wo F u k tb B rk t G).1.ts O e.2
theorem FT(F:Fit D h kvs)(t:Tr):Ej D kvs θ t:=by
 induction t using y8 with
 |h t ih =>
  intro c tb hc ht ha e;rw[t.v_eq];cases G:t.isv with
  |true =>
   obtain J:iE (.tup (.str t.op::t.kids.map Tr.v))=true:=by rw[z0 G];exact(z7 (z0 G)).symm.trans G
   rw[t.cls_v G]at e;obtain e:θ t.op=c:=Ra e;rw[iB D.NN J];rcases g:ay tb (.str t.op)with _|v
   .refine(af (tb++[(.str t.op,iv c)]) (g▸(nW G hc.1 hc.2 ht).mpr (.inl ⟨g,rfl⟩)) (λs v G=>?_));rcases D9.mp G with G|G
    .exact ha s v G
    .obtain B:=Rj (A4.mp G);rw[B.2,V.str.inj B.1,e]
   .obtain Z:=ha t.op v (jg g);rw[e]at Z;subst Z;exact(af tb (g▸(nW G hc.1 hc.2 ht).mpr (.inr ⟨g,rfl⟩)) ha)
  |false =>
   have J:iE (.tup (.str t.op::t.kids.map Tr.v))=false:=by
    rcases t with s|⟨o,t⟩|⟨t,u⟩
    .exact G
    .rfl
    .rfl
   rw[t.cls_n G]at e;refine sH (F.inv (by rw[e];exact K3 c)) λi hi O eo Y=>?_;rw[e]at O;obtain O:D.r i=c:=Ra O;rw[gq D.NN J];have hl:(D.canon i).2.length=(t.kids.map Tr.v).length:=by obtain B:=C3 List.length Y;rw[u7,u7]at B;rw[u7,B]
   refine ah (sZ F t.kids ih (D.canon i).2 [tb] tb (λk hk=>?_) y7 ht ha Y) λtb' h1 a1=>(af tb' (J6.mpr (af (ak (D.canon i)) (O▸FF hi) ?_)) a1)
   .refine ah (w3.mp hk) λk0 Q e=>?_;subst e;obtain B:=E7 (dE F.o hi k0 Q) hi;exact⟨oT F.o B,(F.o.rle k0 B).2⟩
   .rw[ji];rw(config:={}) [if_pos ⟨eo.symm,hl⟩];exact h1
theorem qg(t:Tr){F:String->Nat}(e:∀s∈t.names,θ s=F s):t.cls kvs θ=t.cls kvs F:=by
 induction t using y8 with
 |h t G =>
  cases B:t.isv with
  |true=>rw[t.cls_v B,t.cls_v B,e t.op (by rw[t.names_v B];exact A4.mpr rfl)]
  |false =>rw[t.cls_n B,t.cls_n B];rw[t.names_n B]at e;exact C3 _ (I5 λk hk=>G k hk λs hs=>e s (J6.mpr (af k hk hs)))
theorem θof_tbl{ns:List String}{s:String}(h:s∈ns):θof (iu ns θ) s=θ s:=by unfold θof;rw[xT h];rfl
theorem qG{ns:List String}{tb':bw}(nd:ns.Nodup)(mem:∀s,s∈ns↔s∈t.names)(x:Exd D t.names [] tb')(a:Ag tb' θ):aJ tb'=aJ (iu ns θ):=by
 obtain key:∀{tb:bw},(tb.map (·.1)).Nodup->tb.Nodup:=λh=>(K1.mp h).imp λh e=>h (C3 _ e);refine vz (hU ns θ) ((Rb (key x.ts.nd) (key ?_)).mpr λp=>⟨λhp=>?_,λhp=>?_⟩)
 .rw[J0];exact K1.mpr (nd.imp λh e=>h (V.str.inj e))
 .refine sI (x.ts.ent p hp) λs i e=>?_;obtain hs:=((x.dom s).mp ⟨_,e.1▸hp⟩).elim (λz=>bL z λ_ z=>absurd z A7) id;exact w3.mpr ⟨s,(mem s).mpr hs,by rw[e.1,a s (iv i) (e.1▸hp)]⟩
 .refine ah (w3.mp hp) λs hs e=>?_;refine bL ((x.dom s).mpr (.inr ((mem s).mp hs))) λv B=>?_;rw[<- e,<- a s v B];exact B
def wD(D:HD):TS D []:=⟨L8,λ_ h=>absurd h A7⟩
theorem lz(F:Fit D h kvs){ns:List String}(hc:jw D c)(nd:ns.Nodup)(mem:∀s,s∈ns↔s∈t.names)(O:∀i,i∈cs↔jw D i)(x:V):x∈aM ((dq D.NN t.v c []).map aJ)↔∃θ:String->Nat,(∀s∈ns,θ s∈cs)/\t.cls kvs θ=(c:Int)/\x=aJ (iu ns θ):=by
 rw[aZ];constructor
 .refineλQ=>ah (w3.mp Q) λtb' J e=>?_
  have S:=wo F t c [] tb' hc (wD D) J;have a:Ag tb' (θof tb'):=λs v B=>by
   refine sI (S.1.ts.ent _ B) λs' i e=>?_;obtain e2:=(Rj e.1).2;subst e2;obtain G:θof tb' s=i:=by unfold θof;rw[tM S.1.ts.nd B];rfl
   rw[G]
  refine aN (θof tb') (λs hs=>?_) (S.2 _ a) (by rw[<- qG nd mem S.1 a,e]);refine bL ((S.1.dom s).mpr (.inr ((mem s).mp hs))) λv B=>?_;refine sI (S.1.ts.ent _ B) λs' i e=>?_;rw[<- show i=θof tb' s from dQ ((Rj e.1).2.symm.trans (a s v B))];exact(O i).mpr e.2
 .refineλQ=>bE Q λθ Z Y e=>?_
  refine ah (FT F t (θ:=θ) c [] hc (wD D) (λ_ _ h=>absurd h A7) Y) λtb' J a=>?_;exact w3.mpr (af tb' J (by rw[qG nd mem (wo F t c [] tb' hc (wD D) J).1 a,e]))
theorem fg{ns:List String}(nd:ns.Nodup)(mem:∀s,s∈ns↔s∈t.names)(x:V):x∈jx kvs t (aV cs ns)↔∃θ:String->Nat,(∀s∈ns,θ s∈cs)/\0<=t.cls kvs θ/\x=.tup [.int (t.cls kvs θ),aJ (iu ns θ)]:=by
 obtain B:∀θ:String->Nat,sY kvs t (iu ns θ)=t.cls kvs θ:=λθ=>qg t λs hs=>θof_tbl ((mem s).mpr hs);delta jx;rw[w3];constructor
 .refineλJ=>ah J λtb F e=>?_
  have F:=I8.mp F;refine ah ((dW cs ns nd tb).mp F.1) λθ G e1=>?_;obtain h0:=B8 F.2;rw[e1,B]at h0;exact aN θ G h0 (by rw[<- e,e1];unfold fP;rw[B])
 .refineλJ=>bE J λθ G h0 e=>?_
  exact(af (iu ns θ) (I8.mpr ⟨(dW cs ns nd _).mpr (af θ G rfl),E4 (by rw[B];exact h0)⟩) (by rw[e];unfold fP;rw[B]))
theorem Aa(F:Fit D h kvs){ns:List String}(mem:∀s,s∈ns↔s∈t.names)(B:∀i,i∈cs↔jw D i)(J:∀s∈ns,θ s∈cs)(h0:0<=t.cls kvs θ):∃c,jw D c/\t.cls kvs θ=(c:Int):=by
 cases G:t.isv with
 |true=>exact af (θ t.op) ((B _).mp (J _ ((mem _).mpr (by rw[t.names_v G];exact A4.mpr rfl)))) (t.cls_v G)
 |false =>rw[t.cls_n G]at h0 ⊢;refine sH (F.inv h0) λi hi O _ _=>af (D.r i) ⟨oT F.o hi,(F.o.rle i hi).2⟩ O.symm
theorem uf{p x:V}:x∈ly D p↔∃c,jw D c/\∃s∈aM ((dq D.NN p c []).map aJ),x=.tup [iv c,s]:=by
 unfold ly gL;rw[J6];constructor
 .refineλB=>ah B λc hc hm=>ah (w3.mp hm) λs hs e=>?_
  exact af c (HD.mem_roots.mp hc) (af s ((am _).mem_iff.mp hs) e.symm)
 .refineλB=>ah B λc hc hm=>ah hm λs hs e=>?_
  exact(af c (HD.mem_roots.mpr hc) (w3.mpr (af s ((am _).mem_iff.mpr hs) e.symm)))
theorem jz(F:Fit D h kvs){ns:List String}(nd:ns.Nodup)(mem:∀s,s∈ns↔s∈t.names)(G:∀i,i∈cs↔jw D i)(x:V):x∈jx kvs t (aV cs ns)↔x∈ly D t.v:=by
 rw[fg nd mem,uf];constructor
 .refineλO=>bE O λθ B h0 e=>?_
  refine ah (Aa F mem G B h0) λc hc J=>?_;exact af c hc (af (aJ (iu ns θ)) ((lz F hc nd mem G _).mpr (aN θ B J rfl)) (by rw[e,J]))
 .refineλO=>ah O λc hc hm=>ah hm λs hs e=>?_
  refine bE ((lz F hc nd mem G s).mp hs) λθ B J es=>?_;exact aN θ B (by rw[J];exact K3 c) (by rw[e,es,J])
end
end
noncomputable def gz(c:Nat)(s:V):V:=.tup [iv c,s]
theorem lJ{d:Nat}{s t:V}(h:gz c s=gz d t):c=d/\s=t:=by obtain h:=I9 (V.tup.inj h);exact⟨dQ h.1,(I9 h.2).1⟩
theorem BO{s t:V}(h:fA s t=false):fA (gz c s) (gz c t)=false:=by
 show eT [iv c,s] [iv c,t]=false;rw[kX,lP];by_cases e:cu s t=true
 .rw[if_pos e];rfl
 .rw[if_neg e];exact h
theorem zr{d:Nat}{s t:V}(h:c<d):fA (gz d s) (gz c t)=false:=by show eT [iv d,s] [iv c,t]=false;rw[fV λe=>G7 h (dQ e).symm];exact E6 λz=>Nat.lt_asymm h (L0.mp z)
theorem rz{g:Nat->List V}(Q:∀c,(g c).Pairwise λa b=>fA b a=false)(Y:∀c,(g c).Nodup){l:List Nat}(h:l.Pairwise (· < ·)):(l.flatMap λc=>(g c).map (gz c)).Pairwise (λa b=>fA b a=false)/\(l.flatMap λc=>(g c).map (gz c)).Nodup:=by
 induction l with
 |nil=>exact⟨List.Pairwise.nil,L8⟩
 |cons c l Z =>
  rw[Q2]at h;refine cf (Z h.2) λi1 i2=>?_;rw[K8];have B:∀a∈(g c).map (gz c),∀b∈l.flatMap (λc=>(g c).map (gz c)),∃d s t,c<d/\a=gz c s/\b=gz d t:=λa ha b F =>
   ah (w3.mp ha) λs _ e=>ah (J6.mp F) λd hd F=>ah (w3.mp F) λt _ e'=>QU d s t (h.1 d hd) e.symm e'.symm
  refine⟨List.pairwise_append.mpr ⟨K1.mpr ((Q c).imp λz=>BO z),i1,λa ha b F=>?_⟩,J1.mpr ⟨K1.mpr ((Y c).imp λz e=>z (lJ e).2),i2,λa ha b F e=>?_⟩⟩
  .refine Ef (B a ha b F) λd s t G J O=>?_;rw[J,O];exact zr G
  .refine Ef (B a ha b F) λd s t G J O=>?_;rw[J,O]at e;exact G7 G (lJ e).1
theorem sr{l:List α}:∀{m:List α},l.Nodup->(∀x∈l,x∈m)->l.length<=m.length:=by
 induction l with
 |nil=>exactλ_ _=>E1 _
 |cons a l G =>intro m nd h;rw[E8]at nd;refine sI (List.append_of_mem (h a y7)) λs t e=>?_;subst e;obtain B:=G (m:=s++t) nd.2 λx F=>(D9.mp (h x (y9 _ F))).elim (G3 _) λz=>(C0.mp z).elim (λe=>absurd (e▸F) nd.1) (G1 _);rw[B7,Q6];rw[B7]at B;exact E0 B
section
variable{D:HD}{h:List Nat}{kvs:bw}{ns:List String}{cs:List Nat}
def sG(D:HD)(m:Nat):Prop:=(D.nodes.filter λnd=>!nd.2.isEmpty).length<=m
noncomputable def HL(D:HD)(p:Nat):List Nat:=(D.nodes.filter λnd=>!nd.2.isEmpty).map λnd=>D.r (nd.2.getD p 0)
theorem NU(F:Fit D h kvs){p:Nat}{z:Nat}(hi:i<D.n)(hp:((D.canon i).2.map Int.ofNat)[p]?=some (z:Int)):z∈HL D p:=by
 rw[C5]at hp;refine ah (E3.mp hp) λy B e=>?_;obtain e:y=z:=Ra e;subst e;have B:((D.kids i).map D.r)[p]?=some y:=B;rw[C5]at B;refine ah (E3.mp B) λk hk e=>?_;refine w3.mpr (af (D.op i,D.kids i) (I8.mpr ⟨B0 (kQ F.o hi),?_⟩) ?_)
 .show(!(D.kids i).isEmpty)=true;rcases z:D.kids i with _|⟨a,l⟩
  .rw[z]at hk;exact ns hk
  .rfl
 .show D.r ((D.kids i).getD p 0)=y;rw[C9,hk];exact e
theorem Cd(F:Fit D h kvs)(t:Tr):t.isv=false->∀s∈t.names,∃p,∀θ,0<=t.cls kvs θ->θ s∈HL D p:=by
 induction t using y8 with
 |h t Y =>
  intro Q s hs;rw[t.names_n Q]at hs;refine ah (J6.mp hs) λk hk G=>?_;refine bL (D8.mp hk) λp hp=>?_;cases B:k.isv with
  |true =>refine⟨p,λθ h0=>?_⟩;rw[t.cls_n Q]at h0;refine sH (F.inv h0) λi hi _ _ J=>NU F hi (p:=p) ?_;rw[<- J,C5,hp];rw[k.names_v B]at G;rw[A4.mp G];exact C3 some (k.cls_v B)
  |false =>refine bL (Y k hk B s G) λZ O=>⟨Z,λθ h0=>O θ ?_⟩;rw[t.cls_n Q]at h0;refine sH (F.inv h0) λi _ _ _ J=>?_;obtain m:k.cls kvs θ∈(D.canon i).2.map Int.ofNat:=J▸w3.mpr (af k hk rfl);exact ah (w3.mp m) λz _ e=>e▸K3 z
theorem nT(nd:ns.Nodup)(B:cs.Nodup):(jx kvs t (aV cs ns)).Nodup:=by obtain n1:=(List.Pairwise.filter (λtb=>decide (0<=sY kvs t tb)) (sw B ns));refine K1.mpr (n1.imp_of_mem λ{a b} ha O F e=>F ?_);refine ah ((dW cs ns nd a).mp (I8.mp ha).1) λθ _ G=>?_;refine ah ((dW cs ns nd b).mp (I8.mp O).1) λQ _ J=>?_;have e:aJ a=aJ b:=(I9 (I9 (V.tup.inj e)).2).1;rw[G,J]at e ⊢;exact vG e nd
theorem Ae(kvs:bw)(t:Tr)(tbs:List bw):(jx kvs t tbs).length<=tbs.length:=by unfold jx;rw[u7];exact N8 _ _
theorem tq(F:Fit D h kvs)(h9:D.n<=9)(fw:sG D 7)(nd:ns.Nodup)(mem:∀s,s∈ns↔s∈t.names)(Q:∀i,i∈cs↔jw D i)(B:cs.Nodup):(jx kvs t (aV cs ns)).length<64:=by
 obtain cl:cs.length<=D.n:=eB D.n cs B λx Y=>((Q x).mp Y).1;have n2:ns.length<=2:=ju nd λs hs=>t.names_var s ((mem s).mp hs);have tl:=ky cs ns;by_cases J:ns.length<=1
 .refine A6 (u0 (Ae ..) (tl▸u0 (Nat.pow_le_pow_left (u0 cl h9) _) (I7 (by decide) J))) (by decide)
 rcases ns with _|⟨a,_|⟨b,_|⟨c,ns⟩⟩⟩
 .exact absurd (E1 1) J
 .exact absurd (A8 1) J
 .have ha:=(mem a).mp (.head _);have O:=(mem b).mp (.tail _ (.head _));have G:t.isv=false:=by
   rcases G:t.isv with _|_
   .rfl
   .rw[t.names_v G]at ha O;rw[E8]at nd;exact absurd (by rw[A4.mp ha,A4.mp O];exact .head _) nd.1
  refine bL (Cd F t G a ha) λp hp=>bL (Cd F t G b O) λq hq=>?_;have len:∀p,(HL D p).length<=7:=λp=>by unfold HL;rw[u7];exact fw
  obtain le:=sr (m:=(HL D p).flatMap λu=>(HL D q).map λv=>V.tup [.int (sY kvs t [(.str a,iv u),(.str b,iv v)]),aJ [(.str a,iv u),(.str b,iv v)]]) (nT (kvs:=kvs) (t:=t) nd B) λx Y=>by refine bE ((fg nd mem x).mp Y) λθ hθ h0 e=>?_;refine J6.mpr ⟨θ a,hp θ h0,w3.mpr (af (θ b) (hq θ h0) ?_)⟩;obtain Z:sY kvs t (iu [a,b] θ)=t.cls kvs θ:=qg t λs hs=>θof_tbl ((mem s).mpr hs);rw[e,<- Z];rfl
  refine A6 (u0 le (u0 (cr _ 7 _ λu _=>by rw[u7];exact len q) (Q8 7 (len p)))) (by decide)
 .exact absurd n2 (Nat.not_le.mpr (QY 3 ns.length))
theorem xB(ns:List String)(θ:String->Nat)(i:Int):aQ (.tup [.int i,aJ (iu ns θ)])=true/\aD (.tup [.int i,aJ (iu ns θ)])<=8:=by
 obtain k:=(hU ns θ).subst.key;refine⟨?_,?_⟩
 .show(true&&(aQ (aJ (iu ns θ))&&true))=true;rw[k.1];rfl
 .show max 0 (max (aD (aJ (iu ns θ))) 0)+1<=8;exact E0 (Nat.max_le.mpr ⟨E1 _,Nat.max_le.mpr ⟨u0 k.2.1 (by decide),E1 _⟩⟩)
theorem tm(nd:ns.Nodup)(mem:∀s,s∈ns↔s∈t.names):∀x∈jx kvs t (aV cs ns),∀y∈jx kvs t (aV cs ns),cy x y=true:=λx F y G=>by refine bE ((fg nd mem x).mp F) λθ _ _ e=>bE ((fg nd mem y).mp G) λB _ _ e'=>?_;rw[e,e'];show(true&&(cy (aJ (iu ns θ)) (aJ (iu ns B))&&true))=true;rw[(hU ns θ).subst.cmp (hU ns B).subst];rfl
theorem yp(F:Fit D h kvs)(O:D.n<=9)(fw:sG D 7)(nd:ns.Nodup)(mem:∀s,s∈ns↔s∈t.names)(G:∀i,i∈cs↔jw D i)(B:cs.Nodup):sortable (jx kvs t (aV cs ns)) :=qZ (tq F O fw nd mem G B) (λx J=>bE ((fg nd mem x).mp J) λθ _ _ e=>e▸xB ns θ _) (.inr λx J=>bE ((fg nd mem x).mp J) λθ _ _ e=>e▸rfl) (tm nd mem)
theorem yr(nd:ns.Nodup)(mem:∀s,s∈ns↔s∈t.names):iS (aH (jx kvs t (aV cs ns))):=kj λx F=>by
 refine bE ((fg nd mem x).mp ((am _).mem_iff.mp F)) λθ _ _ e=>?_;rw[e];obtain it:∀y∈aH (aY (iu ns θ)),gf y:=λy B=>sI ((hU ns θ).items y ((am _).mem_iff.mp B)) λs i e=>by subst e;exact⟨rfl,show 1<=8 by decide⟩
 refine⟨?_,(xB ns θ _).2⟩;show(true&&(bO (aH (aY (iu ns θ)))&&true))=true;rw[ki λy B=>(it y B).1];rfl
theorem yy(F:Fit D h kvs)(nd:ns.Nodup)(mem:∀s,s∈ns↔s∈t.names)(J:∀i,i∈cs↔jw D i)(G:cs.Nodup):aH (jx kvs t (aV cs ns))=ly D t.v:=by
 obtain hc:∀c,(gL D t.v c).Pairwise λa b=>fA b a=false:=λc=>cT _ λa ha b Q=>by refine ah (w3.mp (aZ.mp ha)) λu Y e=>ah (w3.mp (aZ.mp Q)) λw hw e'=>?_;rw[<- e,<- e'];obtain O:∀u∈dq D.NN t.v c [],cN (0+yY t.v) u:=nV t.v c ⟨λ_ h=>absurd h A7,A8 0⟩;exact((O u Y).subst).cmp ((O w hw).subst)
 obtain B:=rz hc (λc=>(am _).nodup_iff.mpr (bJ _)) D.roots_rise;exact uP ((Rb (nT nd G) B.2).mpr λx=>jz F nd mem J x) (tm nd mem) B.1
theorem vw(F:Fit D h kvs)(O:D.n<=9)(fw:sG D 7)(nd:ns.Nodup)(mem:∀s,s∈ns↔s∈t.names)(G:∀i,i∈cs↔jw D i)(J:cs.Nodup)(hc:jw D c):sortable (aM ((dq D.NN t.v c []).map aJ)):=by
 obtain M:=lz F hc nd mem G;have ok:∀x∈aM ((dq D.NN t.v c []).map aJ),substOK x:=λx B=>bE ((M x).mp B) λθ _ _ e=>e▸(hU ns θ).subst;refine qZ ?_ (λx B=>⟨(ok x B).key.1,u0 (ok x B).key.2.1 (by decide)⟩) ?_ λx B y Q=>(ok x B).cmp (ok y Q)
 .refine A6 ?_ (tq (t:=t) F O fw nd mem G J);rw[<- u7 (gz c)];refine sr (K1.mpr ((bJ _).imp λz e=>z (lJ e).2)) λx B=>?_;exact(jz F nd mem G x).mpr (uf.mpr (ah (w3.mp B) λs hs e=>af c hc (af s hs e.symm)))
 .rcases ns with _|⟨a,ns⟩
  .refine .inl (A6 (sr (m:=[aJ []]) (bJ _) λx B=>?_) (by decide:1<2));exact bE ((M x).mp B) λθ _ _ e=>e▸A4.mpr rfl
  .refine .inr λx B=>bE ((M x).mp B) λθ _ _ e=>?_;rw[e];obtain hl:(aH (aY (iu (a::ns) θ))).length=(a::ns).length:=by rw[(am _).length_eq];unfold aY;rw[u7,u7]
   show lF (.tup (aH (aY (iu (a::ns) θ))))=true;rcases z:aH (aY (iu (a::ns) θ))with _|⟨b,l⟩
   .rw[z]at hl;exact Nat.noConfusion hl
   .rfl
end
theorem Cl.nil{D:HD}(O:D.Ok)(h:D.nodes=[]):Cl D [] [] []:=by obtain n:D.n=0:=C3 List.length h;exact⟨λf _ i hi=>absurd (n▸hi) (J4 _),λf _ p hp=>absurd (n▸O.known p hp) (J4 _),λ_ h=>absurd h A7,λ_ h=>absurd h A7,λi hi=>absurd (n▸hi) (J4 _),λi hi=>absurd (n▸hi) (J4 _)⟩
section
variable{H:AH}{d:Nat}{Q:b8}
theorem FCall.call{m:String}{f:Addr}(h:FCall σ d m vs H Q)(e:σ.fn m=some f):CallS σ d f vs H Q:=by refine ah h λB e' k=>?_;rw[e]at e';obtain rfl:=w4 e';exact k
theorem Ou{b:List MS}{n:Nat}(I:Nat->Loc->AH->Prop)(h0:I 0 l H)(step:∀i l H k,i<n->I i l H->(∀l' H',I (i+1) l' H'->k .next l' H')->au σ d b (l.put x (iv i)) H k)(O:∀l H,I n l H->K .next l H) : og none (λv l H k=>∃l',bm (.nm x) v l=some l'/\au σ d b l' H k) (kr n) l H K:=by
 refine fj (src:=none) (λxs l H=>∃i,xs=((List.range n).map iv).drop i/\i<=n/\I i l H) (λ_ _ _ _=>trivial) (λv xs l H k z hk=>?_) (λl H z=>?_) _ l H (aN 0 rfl (E1 _) h0)
 .refine bE z λi ex hi F=>?_;have J:((List.range n).map iv)[i]?=some v:=by
   obtain this:(((List.range n).map iv).drop i)[0]?=some v:=by rw[<- ex];rfl
   rwa [Q1,Nat.add_zero]at this
  have B:i<n:=by obtain this:=(A9.mp J).1;rwa [u7,Rp]at this
  rw[C5,List.getElem?_range B]at J;obtain rfl:=w4 J;exact af _ rfl (step i l H k B F λl' H' G=>hk l' H' (aN (i+1) (by rw[<- List.tail_drop,<- ex];rfl) B G))
 .refine bE z λi ex hi F=>?_
  have:=List.drop_eq_nil_iff.mp ex.symm
  rw[u7,Rp]at this;obtain rfl:i=n:=C8 hi this;exact O l H F
theorem wB{e:ME}{b:List MS}{n:Nat}(F:Ev σ l H e (iv n))(G:n<=1000)(I:Nat->Loc->AH->Prop)(h0:I 0 l H)(step:∀i l H k,i<n->I i l H->(∀l' H',I (i+1) l' H'->k .next l' H')->au σ d b (l.put x (iv i)) H k)(B:∀l H,I n l H->au σ d rest l H K):au σ d (.for1 (.nm x) (.rng e) b::rest) l H K :=F d _ (iw (n:Int) rfl (K3 _) (Int.ofNat_le.mpr G) (Ou I h0 step B))
theorem PS(l1:l "script"=some .scr)(k:∀H' fa ca cs,Ext H H'->Feed H' fa ca cs 0->au σ d rest (l.put "feed" (.ref fa)) H' K) : au σ d (.asg (.tg (.nm "feed")) (.dct (.cons j5 (.cons i6 .nil)) (.cons (.comp (.bin .mod (.prim .int (.var "cell")) p5) (.one (.nm "cell") (.exp (.slc q8 none (some 50))) none)) (.cons d5 .nil)))::rest) l H K:=by
 have hlen:(σ.svs.take 50).length<=50:=by rw[List.length_take];exact O8 _ _
 have slc:ba σ d (.slc q8 none (some 50)) l H λv H1=>iF v H1 λsrc vs H1=>fresh H1 (λv H2=>∃c,v=.ref c/\fh src (λv H' k=>∃l',bm (.nm "cell") v (l.drop ["cell"])=some l'/\ya σ d none l' H' λok H''=>if ok=true then ba σ d (.bin .mod (.prim .int (.var "cell")) p5) l' H'' λv H3=>∃vs,H3 c=some (.list vs)/\vs.length<2^20/\k (H3.set c (.list (vs++[v])))else k H'') vs H2 λH3=>dM σ d (.cons d5 .nil) l H3 λB H'=>dictOK ([V.str "cells",V.str "turn"].zip (.ref c::B))/\br ([V.str "cells",V.str "turn"].zip (.ref c::B))/\2=(V.ref c::B).length/\2<=15/\fresh H' (λv H1=>∃l',eW H1 (.nm "feed") v l=some l'/\au σ d rest l' H1 K) (.dict ([V.str "cells",V.str "turn"].zip (.ref c::B)))) (.list []):=by
  refine af _ l1 ⟨rfl,(aN 50 rfl (by decide) (λsa G=>dY (AH.set_self _ _ _) (by rw[u7];exact u0 hlen (by decide)) ?_))⟩;refine ff (K:=λc H3=>dM σ d (.cons d5 .nil) l H3 λB H'=>dictOK ([V.str "cells",V.str "turn"].zip (.ref c::B))/\br ([V.str "cells",V.str "turn"].zip (.ref c::B))/\2=(V.ref c::B).length/\2<=15/\fresh H' (λv H1=>∃l',eW H1 (.nm "feed") v l=some l'/\au σ d rest l' H1 K) (.dict ([V.str "cells",V.str "turn"].zip (.ref c::B)))) (src:=some (sa,(σ.svs.take 50).map .int)) (σ.svs.take 50) .int (λi=>.int (i%5040)) (AH.set_self _ _ _) (A6 hlen (by decide)) (λv O H' J x q=>aB (vr (i:=v) (j:=5040) (.prim (.var (aq _ _ _)) λ_ q=>q) .cst (by decide)) (q H' (y0 _))) λca H' x h0 e=>aC (aB .cst (bQ ?_));refine FE ⟨show[V.str "cells",V.str "turn"].Nodup by simp,(af 1 (by decide) (gM [("cells",V.ref ca),("turn",iv 0)]))⟩ (gM [("cells",V.ref ca),("turn",iv 0)]) rfl (by decide) λfa F=>af _ rfl ?_;obtain e':H' ca=some (.list (((σ.svs.take 50).map (· % 5040)).map .int)):=by rw[e,J0];rfl
  exact k _ fa ca ((σ.svs.take 50).map (· % 5040)) (((y3 _ G).trans' x).trans' (y3 _ F)) ⟨AH.set_self _ _ _,y3 _ F _ _ e',by rw[u7];exact u0 hlen (by decide),(aw e' F).symm⟩
 exact slc
theorem PT(T:Txt σ)(hd:4<=d){fa:Addr}(F:Feed H fa ca cs 0)(k:∀H' wa na ha D,Mid H' fa ca wa na ha cs 0 D [] []->D.nodes=[]->D.M=0->au σ d rest ((l.put "heap" (.ref D.hp)).put "world" (.ref wa)) H' K) : au σ d (.asg (.tg (.tp2 (.nm "heap") (.nm "world"))) (.tup (.cons (.new "Heap" .nil) (.cons (.dct (.cons f9 (.cons f7 .nil)) (.cons (.lst .nil) (.cons (.lst .nil) .nil))) .nil)))::rest) l H K:=by refine bL T.cHeap λC eC=>?_;refine cG T.Heap_init λf _ ef _=>?_;refine pF C f (d-1) (Nat.sub_add_cancel (u0 (by decide) hd)).symm eC ef λx dx h1 h2 h3=>((sV T (rQ Hold.nil "Heap" h1 h2 h3) λH' D x1 A O Z hM hhp G=>?_).call ef).room (Nat.le_sub_of_add_le hd);refine⟨rfl,λna J ha B=>?_⟩;refine FE ⟨show[V.str "nodes",V.str "homes"].Nodup by simp,(af 1 (by decide) (gM [("nodes",V.ref na),("homes",V.ref ha)]))⟩ (gM [("nodes",V.ref na),("homes",V.ref ha)]) rfl (by decide) λwa Q=>af _ rfl ?_;have Y:Ext H' (H'.set na (.list [])):=y3 _ J;obtain xh:=y3 (.list []) B;obtain xw:=y3 (.dict (fl [("nodes",.ref na),("homes",.ref ha)])) Q;obtain xx:=(Y.trans' xh).trans' xw;obtain X:=x1.trans' xx;obtain A':=A.ext xx;obtain en:(((H'.set na (.list [])).set ha (.list [])).set wa (.dict (fl [("nodes",.ref na),("homes",.ref ha)]))) na=some (.list []):=(xh.trans' xw) _ _ (AH.set_self _ _ _);obtain eh:(((H'.set na (.list [])).set ha (.list [])).set wa (.dict (fl [("nodes",.ref na),("homes",.ref ha)]))) ha=some (.list []):=xw _ _ (AH.set_self _ _ _);obtain F':Feed (((H'.set na (.list [])).set ha (.list [])).set wa (.dict (fl [("nodes",.ref na),("homes",.ref ha)]))) fa ca cs 0:=F.keep (X _) (X _);obtain fb:∀{a:Addr}{o:AO},H a=some o->(((H'.set na (.list [])).set ha (.list []))) a=some o:=λe=>(x1.trans' (Y.trans' xh)) _ _ e;obtain fc:∀{a:Addr}{o:AO},H a=some o->(H'.set na (.list [])) a=some o:=λe=>(x1.trans' Y) _ _ e;rw[<- hhp];exact k _ wa na ha D ⟨A',O,Cl.nil O Z,F',⟨AH.set_self _ _ _,by rw[Z];exact en,eh,aw (AH.set_self H' na (.list [])) B⟩,Z▸HOk.start,λh=>nn (G _ h) F.f,λh=>nn (G _ h) F.c,gT (A.ext (Y.trans' xh)) Q,gT A J,gT (A.ext Y) B,aw (fb F.f) Q,aw (x1 _ _ F.c) J,aw (fc F.c) B⟩ Z hM
end
def Putd(D D':HD)(nd:Nd):Prop:=D'.nodes=D.nodes/\nd∈D.nodes\/D'.nodes=D.nodes++[nd]/\nd∉D.nodes
theorem Putd.len{D:HD}(h:Putd D D' nd):D.n<=D'.n/\D'.n<=D.n+1/\0<D'.n:=by
 rcases h with h|h
 .have e:D'.n=D.n:=C3 List.length h.1;rw[e];exact⟨A8 _,Rz _,List.length_pos_of_mem h.2⟩
 .have e:D'.n=D.n+1:=(C3 List.length h.1).trans (by rw[B7];rfl);rw[e];exact⟨Rz _,A8 _,P1 _⟩
theorem Putd.few{D:HD}(h:Putd D D' nd)(f:sG D m):sG D' (m+1):=by
 unfold sG at *;rcases h with h|h
 .rw[h.1];exact Nat.le_succ_of_le f
 .rw[h.1,List.filter_append,B7];exact K9 f (u0 (N8 _ _) (A8 1))
theorem Putd.few0{D:HD}{s:String}(h:Putd D D' (s,[]))(f:sG D m):sG D' m:=by
 unfold sG at *;rcases h with h|h
 .rw[h.1];exact f
 .rw[h.1,List.filter_append,B7];exact f
section
variable{H:AH}{d:Nat}{fa:Addr}{s:Nat}{D:HD}{h:List Nat}
def HA{e:ME}{a b:List MS}(h:sD σ d e l H λt H1=>if t=true then au σ d a l H1 (Sq σ d rest K)else au σ d b l H1 (Sq σ d rest K)):au σ d (.if1 e a b::rest) l H K:=h
def FD{a b:ME}{Q:Bool->AH->Prop}(h:sD σ d a l H λt H1=>if t=true then Q true H1 else sD σ d b l H1 Q):sD σ d (.or2 a b) l H Q:=h
theorem Ca(T:Txt σ)(hd:6<=d){op:String}(M:Mid H fa ca wa na ha cs s D P h)(Y:D.n<60)(ho:op∈aG)(J:l "heap"=some (.ref D.hp))(O:l "world"=some (.ref wa)){Q:Bool->AH->Prop}(q:∀H' D' h',Mid H' fa ca wa na ha cs s D' P h'->D'.hp=D.hp->D'.M=D.M->Putd D D' (op,[])->Q false H') : sD σ d (.not1 (.call "_law_put" (.cons g8 (.cons c8 (.cons (.cst (.str op)) (.cons (.lst .nil) .nil)))))) l H Q:=by refine cG T.law_put λf _ F _=>?_;refine af f F (aC (aB (.var J) (aC (aB (.var O) (aC (aB .cst (aC (dK (bQ λka B=>bQ ?_)))))))));obtain x:Ext H (H.set ka (.list [])):=y3 _ B;exact((zS T (M.ext x) Y ho (ks:=[]) (E1 2) (λ_ h=>absurd h A7) (AH.set_self _ _ _) (gT M.at_ B) (aw M.w.n B).symm (aw M.w.h B).symm λH' D' h' G a b c=>⟨true,rfl,q H' D' h' G a b c⟩).room hd).call F
theorem PU(T:Txt σ)(hd:6<=d)(M:Mid H fa ca wa na ha cs s D P h)(Q:D.nodes=[])(J:l "heap"=some (.ref D.hp))(O:l "world"=some (.ref wa)) (k:∀H' D' h',Mid H' fa ca wa na ha cs s D' P h'->D'.hp=D.hp->D'.M=D.M->D'.n<=2->0<D'.n->sG D' 0->au σ d rest l H' K) : au σ d (.if1 (.or2 (.not1 (.call "_law_put" (.cons g8 (.cons c8 (.cons o3 (.cons (.lst .nil) .nil)))))) (.not1 (.call "_law_put" (.cons g8 (.cons c8 (.cons o6 (.cons (.lst .nil) .nil))))))) [.ret f8] []::rest) l H K:=by have Y:D.n=0:=C3 List.length Q;refine HA (FD (Ca (op:="a") T hd M (by rw[Y];decide) (by decide) J O λH1 Z g1 M1 B b1 F=>fZ rfl ?_));have l1:Z.n<=1:=u0 F.len.2.1 (u4 (C3 (· + 1) Y));refine Ca (op:="b") T hd M1 (A6 l1 (by decide)) (by decide) (B▸J) O λH2 D2 g2 M2 a2 b2 G=>fZ rfl ?_;obtain l2:=G.len;exact k H2 D2 g2 M2 (a2.trans B) (b2.trans b1) (u0 l2.2.1 (E0 l1)) l2.2.2 (G.few0 (F.few0 (by unfold sG;rw[Q];exact A8 0)))
noncomputable abbrev tj:ME:=.call "_law_draw" (.cons d7 (.cons (.prim .len lE) .nil))
theorem sB(T:Txt σ){Q:b8}(M:Mid H fa ca wa na ha cs s D P h)(hs:s<9999)(hp:0<D.n)(hd:1<=d)(B:l "feed"=some (.ref fa))(G:l "world"=some (.ref wa))(q:∀H' k,k<D.n->Only fa H H'->Mid H' fa ca wa na ha cs (s+1) D P h->Q (iv k) H'):ba σ d tj l H Q :=eE (.cons (.var B) (.cons (dj (M.w.nodes G) M.w.n (u7 _) (u0 M.ok.nz (by decide))) .nil)) ((jS T M.feed hs hp λH' k hk o F=>q H' k hk o (M.kp o.kp F)).room hd)
theorem Ec(T:Txt σ){Q:b8}(M:Mid H fa ca wa na ha cs s D P h)(hs:s+k<=9990)(hk:k<=2)(hp:0<D.n)(hd:1<=d)(h1:l "feed"=some (.ref fa))(h2:l "world"=some (.ref wa))(h3:l "many"=some (iv k)) (q:∀c H' (ks:List Nat),ks.length=k->(∀x∈ks,x<D.n)->Mid H' fa ca wa na ha cs (s+k) D P h->H c=none->H' c=some (.list (ks.map iv))->Q (.ref c) H'):ba σ d (.comp tj (.one (.nm "k") (.rng j7) none)) l H Q:=by
 refine qj (λc i vs H'=>H c=none/\∃ks:List Nat,vs=ks.map iv/\ks.length=i/\(∀x∈ks,x<D.n)/\Kp fa H H'/\Feed H' fa ca cs (s+i)) (.var h3) (u0 hk (by decide)) (λc hc=>?_) (λc i vs H' hi Y hc Q' hQ=>?_) λc vs H' hl Y hc=>?_
 .have F:=M.feed;have x:Ext H (H.set c (.list [])):=y3 _ hc;exact⟨hc,(Oj ([]) rfl rfl (λ_ h=>absurd h A7) (λa o _ e=>x a o e) (F.keep (x _) (x _)))⟩
 .refine cf Y λB aW=>?_;refine Qc aW λks bS hl G kp O=>?_;subst bS;refine sB T (M.kp kp O) (Of (b:=0) (u0 (I6 (D5 hi) s) hs)) hp hd ((ag _ _ (by decide)).trans ((bF _ (by decide)).trans h1)) ((ag _ _ (by decide)).trans ((bF _ (by decide)).trans h2)) λH2 x hx o2 J=>?_;obtain nc:c≠fa:=(aw M.feed.f B).symm;refine hQ (iv x) H2 ((o2 c nc).trans hc) ⟨B,(Oj (ks++[x]) (by rw[C7];rfl) (by rw[B7,hl];rfl) (λy hy=>?_) (λa o n e=>?_) ?_)⟩
  .exact(D9.mp hy).elim (G y) λe=>A4.mp e▸hx
  .rw[r7 _ _ (aw e B)];exact(o2 a n).trans (kp a o n e)
  .have nf:fa≠c:=nc.symm;obtain ad:ca≠c:=aw M.feed.c B;exact⟨(r7 _ _ nf).trans J.feed.f,(r7 _ _ ad).trans J.feed.c,J.feed.len,J.feed.ne⟩
 .refine cf Y λB cI=>?_;refine Qc cI λks cW Z G kp O=>?_;subst cW;exact q c H' ks Z G (M.kp kp O) B hc
theorem Mid.merge{H1 H2:AH}{B:HD}(M:Mid H fa ca wa na ha cs s D P h)(J:a<D.n)(O:b<D.n)(G:Grow (D.sM (D.M+1)) B H H1)(c:∀P,Cl D P [] []->Cl B ((a,b)::P) [] [])(Z:H1 y=none)(x:ExtB wa H1 H2)(W:Wd H2 wa na y D.nodes (iD h (hf h a) (hf h b))):Mid H2 fa ca wa na y cs s B ((a,b)::P) (iD h (hf h a) (hf h b)):=by obtain kf:=G.frm.keep M.feed.f M.f1;obtain Q:=G.frm.keep M.feed.c M.f2;obtain kw:=G.frm.keep M.w.w M.f3;obtain kn:=G.frm.keep M.w.n M.f4;obtain Y:B.nodes=D.nodes:=G.nodes;exact⟨G.at_.extB x kw.2,G.ok,c P M.cl,⟨x _ _ M.n1 kf.1,x _ _ (M.w.nel M.feed.c) Q.1,M.feed.len,M.feed.ne⟩,Y▸W,Y▸M.ho.join J O (λp hp=>y9 _ hp) (λp hp=>(C0.mp hp).symm) (λf F=>F.1 (a,b) y7),kf.2,Q.2,kw.2,kn.2,gT G.at_ Z,M.n1,M.n2,aw Q.1 Z⟩
end
section
variable{p:Nat}
section
variable{H:AH}{d:Nat}{fa hp:Addr}{s:Nat}{D:HD}{h:List Nat}
structure Trn(l0:Loc)(fa ca wa na:Addr)(cs:List Int)(N:List Nd)(hp:Addr)(m0 s0 i:Nat)(l:Loc)(H:AH)(ha:Addr)(s:Nat)(D:HD)(P:List (Nat×Nat))(h:List Nat):Prop where
 loc:∀y,y∉["turn","a","b"]->l y=l0 y
 mid:Mid H fa ca wa na ha cs s D P h
 hp:D.hp=hp
 nodes:D.nodes=N
 M:D.M=m0+i
 sb:s<=s0+2*i
noncomputable abbrev Hv:List MS:=[.asg (.tg (.tp2 (.nm "a") (.nm "b"))) (.tup (.cons tj (.cons tj .nil))),.expr (.meth g8 "merge" (.cons i7 (.cons m7 (.cons (.tup (.cons (.cst (.str "told")) (.cons (.cst (.str "pair")) .nil))) .nil)))),.expr (.call "_law_one" (.cons c8 (.cons i7 (.cons m7 .nil))))]
theorem DW(T:Txt σ)(hd:4<=d){l0:Loc}{m0 s0:Nat}(I:Trn l0 fa ca wa na cs N hp m0 s0 i l H ha s D P h)(hi:i<4)(hm:m0<=90)(hs:s0<=1000)(hn:0<D.n)(h1:l0 "feed"=some (.ref fa))(h2:l0 "heap"=some (.ref hp))(Z:l0 "world"=some (.ref wa)) (k:∀l' H' ad s' D' P' h',Trn l0 fa ca wa na cs N hp m0 s0 (i+1) l' H' ad s' D' P' h'->K .next l' H'):au σ d Hv (l.put "turn" (iv i)) H K:=by have sb:s<=1000+2*4:=u0 (En I.sb (D5 hi)) (M9 hs (2*4));obtain Y:1<=d:=u0 (by decide) hd;have lo:∀y,y∉["turn","a","b"]->(l.put "turn" (iv i)) y=l0 y:=λy F=>(ag _ _ λe=>F (by rw[e];decide)).trans (I.loc y F);refine ce (aC (sB T I.mid (A6 sb (by decide)) hn Y ((lo _ (by decide)).trans h1) ((lo _ (by decide)).trans Z) λH1 a J _ M1=>aC (sB T M1 (A6 (E0 sb) (by decide)) hn Y ((lo _ (by decide)).trans h1) ((lo _ (by decide)).trans Z) λH2 b O _ B=>bQ (af _ rfl ?_))));have Q:∀y,y∉["turn","a","b"]->(((l.put "turn" (iv i)).put "a" (iv a)).put "b" (iv b)) y=l0 y:=λy F=>(ag _ _ λe=>F (by rw[e];decide)).trans ((ag _ _ λe=>F (by rw[e];decide)).trans (lo y F));refine eS (aS (.var ((Q _ (by decide)).trans (by rw[I.hp];exact h2))) B.at_.heap rfl T.Heap_merge.some (.cons (.var ((ag _ _ (by decide)).trans (aq _ _ _))) (.cons (.var (aq _ _ _)) (.cons (.tup (.cons .cst (.cons .cst .nil))) .nil))) ((zQ T B.at_ B.ok J O (by rw[I.M];exact A6 (K9 hm (D5 hi)) (by decide)) λH4 D4 v G c hv=>⟨by rcases hv with rfl|rfl <;> trivial,?_⟩).room hd));obtain kw:=G.frm.keep B.w.w B.f3;obtain kn:=G.frm.keep B.w.n B.f4;obtain kh:=G.frm.keep B.w.h B.f5;obtain hl:=B.hlen;refine eS (eE (.cons (.var ((Q _ (by decide)).trans Z)) (.cons (.var ((ag _ _ (by decide)).trans (aq _ _ _))) (.cons (.var (aq _ _ _)) .nil))) ((Eo T ⟨kw.1,kn.1,kh.1,B.w.ne⟩ (by rw[hl];exact B.ok.nz) (by rw[hl];exact J) (by rw[hl];exact O) λH5 y F x5 W5=>⟨trivial,?_⟩).room Y));exact k _ H5 y _ D4 _ _ ⟨Q,B.merge J O G c F x5 W5,G.hp.trans I.hp,G.nodes.trans I.nodes,G.M.trans (by show D.M+1=_;rw[I.M];rfl),HN (A8 _) I.sb⟩
noncomputable abbrev Hw:ME:=.ite (.cmp1 .eq k6 d6) (.bin .fdiv l8 i8) (.ite (.cmp1 .eq k6 (.bin .sub o7 d6)) (.bin .sub l8 (.bin .fdiv l8 i8)) d5)
theorem Gf(F:l "lap"=some (iv i))(J:l "pairs"=some (iv p))(O:l "more"=some (iv m))(hp:p<=4):∃k,k<=4/\Ev σ l H Hw (iv k):=by
 obtain CX:Ev σ l H (.bin .fdiv l8 i8) (iv (p/2)):=wQ (i:=(p:Int)) (j:=2) (.var J) .cst (by decide) (by decide);by_cases e:i=1
 .exact(af (p/2) (u0 (Nat.div_le_self p 2) hp) (.ite_t (FU 1 F e) CX))
 .obtain G:EvT σ l H (.cmp1 .eq k6 d6) false:=FV 1 F e;obtain B:EvT σ l H (.cmp1 .eq k6 (.bin .sub o7 d6)) (decide ((i:Int)=(m:Int)-1)):=.cmp (.var F) ((y4 O).bin (w:=.int 1) (u:=.int ((m:Int)-1)) .cst λ_ q=>q) λ_ q=>rF _ _ _ _ q;by_cases e2:(i:Int)=(m:Int)-1
  .rw[E4 e2]at B;refine(af (p-p/2) (u0 (RQ p _) hp) (.ite_f G (.ite_t B ((y4 J).bin CX λQ q=>?_))));show Q (.int ((p:Int)-((p/2:Nat):Int))) H;rw[<- Int.ofNat_sub (Nat.div_le_self p 2)];exact q
  .rw[E6 e2]at B;exact(af 0 (E1 _) (.ite_f G (.ite_f B .cst)))
theorem BJ(T:Txt σ)(hd:4<=d)(M:Mid H fa ca wa na ha cs s D P h)(hm:D.M<=90)(hs:s<=1000)(hn:0<D.n)(h1:l "feed"=some (.ref fa))(h2:l "heap"=some (.ref D.hp))(h3:l "world"=some (.ref wa))(h4:l "lap"=some (iv i))(h5:l "pairs"=some (iv p))(h6:l "more"=some (iv m))(hp:p<=4) (k:∀l' H' B s' D' G h',(∀y,y∉["turn","a","b"]->l' y=l y)->Mid H' fa ca wa na B cs s' D' G h'->D'.hp=D.hp->D'.nodes=D.nodes->D'.M<=D.M+4->s'<=s+8->au σ d rest l' H' K):au σ d (.for1 (.nm "turn") (.rng Hw) Hv::rest) l H K:=by
 refine ah (Gf (σ:=σ) (H:=H) h4 h5 h6 hp) λn F Z=>?_;refine wB Z (u0 F (by decide)) (λj l' H'=>∃B s' D' G h',Trn l fa ca wa na cs D.nodes D.hp D.M s j l' H' B s' D' G h') ⟨ha,s,D,P,h,λ_ _=>rfl,M,rfl,rfl,rfl,A8 _⟩ (λj l' H' k' hj z hk=>?_) λl' H' z=>?_
 .refine Oi z λB s' D' G h' I=>?_;exact DW T hd I (E9 hj F) hm hs (by show 0<D'.nodes.length;rw[I.nodes];exact hn) h1 h2 h3 λl2 H2 J s2 O Y g2 Q=>hk l2 H2 ⟨J,s2,O,Y,g2,Q⟩
 .refine Oi z λB s' D' G h' I=>?_;exact k l' H' B s' D' G h' I.loc I.mid I.hp I.nodes (u0 (u4 I.M) (I6 F _)) (En I.sb F)
structure Fil(l0:Loc)(fa ca wa na:Addr)(cs:List Int)(hp:Addr)(i:Nat)(l:Loc)(H:AH)(ha:Addr)(s:Nat)(D:HD)(P:List (Nat×Nat))(h:List Nat):Prop where
 loc:∀y,y∉["lap","many","kids","turn","a","b"]->l y=l0 y
 mid:Mid H fa ca wa na ha cs s D P h
 hp:D.hp=hp
 M:D.M<=4*i
 sb:s<=2+11*i
 n:D.n<=2+i
 fw:sG D i
 pos:0<D.n
noncomputable abbrev Iw:List MS:=[.asg (.tg (.nm "many")) (.bin .add d6 (.call "_law_draw" (.cons d7 (.cons i8 .nil)))),.asg (.tg (.nm "kids")) (.comp tj (.one (.nm "k") (.rng j7) none)),.if1 (.not1 (.call "_law_put" (.cons g8 (.cons c8 (.cons (.idx (.tup (.cons n5 (.cons j9 .nil))) (.bin .sub j7 d6)) (.cons j6 .nil)))))) [.ret f8] [],.for1 (.nm "turn") (.rng Hw) Hv]
theorem CR(T:Txt σ)(hd:6<=d){l0:Loc}(I:Fil l0 fa ca wa na cs hp i l H ha s D P h)(hi:i<7)(h1:l0 "feed"=some (.ref fa))(h2:l0 "heap"=some (.ref hp))(h3:l0 "world"=some (.ref wa))(h5:l0 "pairs"=some (iv p))(h6:l0 "more"=some (iv m))(hp4:p<=4) (k:∀l' H' ha' s' D' P' h',Fil l0 fa ca wa na cs hp (i+1) l' H' ha' s' D' P' h'->K .next l' H'):au σ d Iw (l.put "lap" (iv i)) H K:=by
 have lo:∀y,y∉["lap","many","kids","turn","a","b"]->(l.put "lap" (iv i)) y=l0 y:=λy F=>(ag _ _ λe=>F (by rw[e];decide)).trans (I.loc y F);obtain hM:=I.mid;have O:s<=2+11*7:=En I.sb (D5 hi);have d1:1<=d:=u0 (by decide) hd;refine ce (eI (aB .cst (eE (.cons (.var ((lo _ (by decide)).trans h1)) (.cons (.cst (v:=iv 2)) .nil)) ((jS T hM.feed (A6 O (by decide)) (m:=2) (by decide) λH1 j J o1 F1=>zM ⟨_,rfl,?_⟩).room d1))));have Y:=hM.kp o1.kp F1;rw[show V.int ((1:Int)+(j:Int))=iv (j+1)from C3 iv (RL 1 j)];have sk:s+1+(j+1)<=2+11*7+1+2:=K9 (E0 O) J;have G:∀y,y∉["lap","many","kids","turn","a","b"]->((l.put "lap" (iv i)).put "many" (iv (j+1))) y=l0 y:=λy F=>(ag _ _ λe=>F (by rw[e];decide)).trans (lo y F);refine ce (Ec T Y (k:=j+1) (u0 sk (by decide)) J I.pos d1 ((G _ (by decide)).trans h1) ((G _ (by decide)).trans h3) (aq _ _ _) λc H2 ks hl hks M2 hc e2=>af _ rfl ?_);have B:∀y,y∉["lap","many","kids","turn","a","b"]->(((l.put "lap" (iv i)).put "many" (iv (j+1))).put "kids" (.ref c)) y=l0 y:=λy F=>(ag _ _ λe=>F (by rw[e];decide)).trans (G y F);have op:∃o,o∈aG/\Ev σ (((l.put "lap" (iv i)).put "many" (iv (j+1))).put "kids" (.ref c)) H2 (.idx (.tup (.cons n5 (.cons j9 .nil))) (.bin .sub j7 d6)) (.str o):=by
  have sub:Ev σ (((l.put "lap" (iv i)).put "many" (iv (j+1))).put "kids" (.ref c)) H2 (.bin .sub j7 d6) (iv j):=(y4 ((ag _ _ (by decide)).trans (aq _ _ _))).bin (w:=.int 1) .cst λQ q=>sR q;rcases j with _|_|j
  .exact⟨"f",by decide,(Ev.tup (.cons .cst (.cons .cst .nil))).idx sub λ_ q=>kB 0 _ rfl (by decide) rfl q⟩
  .exact⟨"g",by decide,(Ev.tup (.cons .cst (.cons .cst .nil))).idx sub λ_ q=>kB 1 _ rfl (by decide) rfl q⟩
  .exact absurd J (Nat.not_lt.mpr (QY 2 j))
 refine ah op λo ho Z=>?_;refine cG T.law_put λf _ ef _=>?_;refine HA (af f ef (aC (aB (.var ((B _ (by decide)).trans (by rw[<- I.hp]at h2;exact h2))) (aC (aB (.var ((B _ (by decide)).trans h3)) (aC (aB Z (aC (aB (.var (aq _ _ _)) (bQ ?_))))))))));refine((zS T M2 (A6 (u0 I.n (I6 (D5 hi) 2)) (by decide)) ho (ks:=ks) (u0 (u4 hl) J) hks e2 (gT Y.at_ hc) (aw Y.w.n hc).symm (aw Y.w.h hc).symm λH3 D3 g3 M3 a3 b3 c3=>⟨true,rfl,fZ rfl ?_⟩).room hd).call ef;have l3:=Putd.len c3;have mb:D3.M<=4*i:=u0 (u4 b3) I.M;refine BJ (i:=i) (p:=p) (m:=m) (rest:=[]) T (u0 (by decide) hd) M3 (u0 mb (u0 (Rd 4 (D5 hi)) (by decide))) (u0 sk (by decide)) l3.2.2 ((B _ (by decide)).trans h1) ((B _ (by decide)).trans (by rw[a3,I.hp];exact h2)) ((B _ (by decide)).trans h3) ((ag _ _ (by decide)).trans ((ag _ _ (by decide)).trans (aq _ _ _))) ((B _ (by decide)).trans h5) ((B _ (by decide)).trans h6) hp4 λl4 H4 ha4 s4 D4 P4 g4 kp4 M4 a4 b4 m4 q4=>?_;obtain n4:D4.n=D3.n:=C3 List.length b4;refine k l4 H4 ha4 s4 D4 P4 g4 ⟨λy F=>(kp4 y λe=>F (G1 ["lap","many","kids"] e)).trans (B y F),M4,a4.trans (a3.trans I.hp),u0 m4 (M9 mb 4),HN (k:=11) (u0 q4 (M9 (I6 J (s+1)) 8)) I.sb,u0 (u4 n4) (u0 l3.2.1 (E0 I.n)),?_,E9 l3.2.2 (u4 n4.symm)⟩;unfold sG;rw[b4];exact Putd.few c3 I.fw
theorem PV(T:Txt σ)(hd:6<=d)(M:Mid H fa ca wa na ha cs s D P h)(hs:s<=2)(hM:D.M=0)(n2:D.n<=2)(pos:0<D.n)(fw:sG D 0)(hm:m<=7)(h1:l "feed"=some (.ref fa))(h2:l "heap"=some (.ref D.hp))(h3:l "world"=some (.ref wa))(h5:l "pairs"=some (iv p))(O:l "more"=some (iv m))(J:p<=4) (k:∀l' H' B s' D' F h',(∀y,y∉["lap","many","kids","turn","a","b"]->l' y=l y)->Mid H' fa ca wa na B cs s' D' F h'->D'.hp=D.hp->D'.n<=9->sG D' 7->s'<=79->au σ d rest l' H' K):au σ d (.for1 (.nm "lap") (.rng o7) Iw::rest) l H K:=by
 refine wB (.var O) (u0 hm (by decide)) (λi l' H'=>∃B s' D' F h',Fil l fa ca wa na cs D.hp i l' H' B s' D' F h') ⟨ha,s,D,P,h,λ_ _=>rfl,M,rfl,u4 hM,hs,n2,fw,pos⟩ (λi l' H' k' hi z hk=>?_) λl' H' z=>?_
 .refine Oi z λB s' D' F h' I=>?_;exact CR T hd I (E9 hi hm) h1 h2 h3 h5 O J λl2 H2 G s2 Q Z g2 Y=>hk l2 H2 ⟨G,s2,Q,Z,g2,Y⟩
 .refine Oi z λB s' D' F h' I=>?_;exact k l' H' B s' D' F h' I.loc I.mid I.hp (u0 I.n (I6 hm 2)) (u0 I.fw hm) (En I.sb hm)
end
end
section
variable{s:Nat}{h:List Nat}
theorem Dv(h:t.pat):fx t.v=true:=by
 obtain Γ:∀s,s∈aG->aG.contains s=true:=λs h=>List.contains_iff_mem.mpr h;induction t with
 |leaf s =>
  show(((bI s&&true)||aG.contains s)&&true&&true)=true;rcases h.2 with a|a
  .rw[a];rfl
  .rw[Γ s a,Bool.or_true];rfl
 |f o t a =>show(((bI o&&false)||aG.contains o)&&true&&(fx t.v&&true))=true;rw[a h.2];rcases h.1 with rfl|rfl <;> rfl
 |g t u a b =>show(true&&true&&(fx t.v&&(fx u.v&&true)))=true;rw[a h.1,b h.2];rfl
theorem ng{x y:Nat}(B:x+1<=2^a)(F:y+1<=2^b)(ha:a<=c)(G:b<=c):1+(x+(y+0))+1<=2^(c+1):=by obtain h:=K9 (u0 B (I7 (by decide) ha)) (u0 F (I7 (by decide) G));rw[Nat.pow_succ,Nat.mul_two];show 1+(x+y)+1<=_;rw[RL 1,<- Nat.add_right_comm x 1 y];exact h
theorem IM(t:Tr):nv t.v+1<=2^t.ht:=by
 induction t with
 |leaf s=>exact A8 1
 |f o t a=>exact ng a (y:=0) (Nat.two_pow_pos 0) (A8 _) (E1 _)
 |g t u a b=>exact ng a b (L3 _ _) (L9 _ _)
theorem GI(t:Tr):yY t.v+1<=2^(t.ht+1):=by
 induction t with
 |leaf s=>exact A8 2
 |f o t a=>exact ng a (y:=0) (Nat.two_pow_pos 0) (A8 _) (E1 _)
 |g t u a b=>exact ng a b (E0 (L3 _ _)) (E0 (L9 _ _))
theorem Ga(t:Tr):aD t.v<=t.ht+1:=by
 induction t with
 |leaf s=>exact A8 1
 |f o t a=>exact E0 (Nat.max_le.mpr ⟨E1 _,Nat.max_le.mpr ⟨a,E1 _⟩⟩)
 |g t u a b=>exact E0 (Nat.max_le.mpr ⟨E1 _,Nat.max_le.mpr ⟨u0 a (E0 (L3 _ _)),Nat.max_le.mpr ⟨u0 b (E0 (L9 _ _)),E1 _⟩⟩⟩)
theorem zj{l cs:List Nat}(e:aH (aM (l.map iv))=cs.map iv):cs.Nodup:=by obtain B:(cs.map iv).Nodup:=e▸(am _).nodup_iff.mpr (bJ _);exact(K1.mp B).imp λh z=>h (C3 iv z)
structure Rdy(H:AH)(fa ca wa na ha wk wd:Addr)(cs:List Int)(s:Nat)(D:HD)(P:List (Nat×Nat))(h:List Nat):Prop where
 at_:D.At H
 ok:D.Ok
 hr:∀i,i<D.n->hf h i=D.r i
 w:Wd H wa na ha D.nodes h
 ho:HOk D.nodes P h
 hc:Cong D.nodes P (hf h)
 k:dt H wk "Walker" wd [("heap",.ref D.hp)]
 feed:Feed H fa ca cs s
 f1:fa∉D.adr
 n1:fa≠wa
 few:sG D 7
 n9:D.n<=9
section
variable{H:AH}{fa:Addr}{s s':Nat}{D:HD}{h:List Nat}
theorem Rdy.ext(R:Rdy H fa ca wa na ha wk wd cs s D P h)(x:Ext H H'):Rdy H' fa ca wa na ha wk wd cs s D P h:=⟨R.at_.ext x,R.ok,R.hr,R.w.ext x,R.ho,R.hc,R.k.ext x,R.feed.keep (x _) (x _),R.f1,R.n1,R.few,R.n9⟩
theorem Rdy.kp(R:Rdy H fa ca wa na ha wk wd cs s D P h)(x:Kp fa H H')(F:Feed H' fa ca cs s'):Rdy H' fa ca wa na ha wk wd cs s' D P h:=by obtain ne:∀{a:Addr}{o:AO},H a=some o->o≠.dict (fl [("cells",.ref ca),("turn",iv s)])->a≠fa:=λe h z=>h (w4 ((z▸e:H fa=_).symm.trans R.feed.f));exact⟨R.at_.extB x R.f1,R.ok,R.hr,⟨x _ _ R.n1.symm R.w.w,x _ _ (R.feed.nel R.w.n) R.w.n,x _ _ (R.feed.nel R.w.h) R.w.h,R.w.ne⟩,R.ho,R.hc,⟨x _ _ (ne R.k.o λz=>AO.noConfusion z) R.k.o,x _ _ (ne R.k.d λz=>G0 _ _ (I9 (AO.dict.inj z)).2.symm) R.k.d⟩,F,R.f1,R.n1,R.few,R.n9⟩
theorem Rdy.cls(R:Rdy H fa ca wa na ha wk wd cs s D P h):∃cl:List Nat,aH (aM (h.map iv))=cl.map iv/\(∀i,i∈cl↔jw D i)/\cl.Nodup/\cl.length<=20:=by
 refine bE (im h) λcl B G F=>?_;have hl:h.length=D.n:=R.ho.len;refine iw cl B (λi=>?_) (zj B) (u0 F (by rw[hl];exact u0 R.n9 (by decide)));rw[G];constructor
 .intro hi;refine bL (D8.mp hi) λj O=>?_;obtain J:j<D.n:=hl▸(A9.mp O).1;obtain e:hf h j=i:=by show h.getD j 0=i;rw[C9,O];rfl
  rw[R.hr j J]at e;exact e▸⟨oT R.ok J,(R.ok.rle j J).2⟩
 .intro hi;obtain e:=R.hr i hi.1;rw[hi.2]at e;exact e▸B0 (eK 0 (by rw[hl];exact hi.1))
end
section
variable{H:AH}{d:Nat}{fa:Addr}{s:Nat}{D:HD}{h:List Nat}
theorem BZ{op:COp}{a b:ME}{Q:Bool->AH->Prop}(h:ba σ d a l H λv H1=>ba σ d b l H1 λw H2=>eZ H2 op v w λt=>Q t H2):sD σ d (.cmp1 op a b) l H Q:=h
noncomputable abbrev FH:MS:=.if1 (.or2 (.cmp1 .ne (.meth (.var "walker") "found" (.cons c9 .nil)) (.call "_law_due" (.cons c9 (.cons c8 .nil)))) (.cmp1 .ne (.meth g8 "size" .nil) (.prim .len lE))) [.ret f8] []
theorem ask(T:Txt σ)(R:Rdy H fa ca wa na ha wk wd cs s D P h)(hp:t.pat)(ht:t.ht<=2)(h1:l "walker"=some (.ref wk))(h2:l "pattern"=some t.v)(h3:l "heap"=some (.ref D.hp))(h4:l "world"=some (.ref wa))(k:∀H',Ext H H'->K .next l H'):au σ 9 [FH] l H K:=by refine sH R.cls λcl Y G B Z=>?_;refine bE (kU t.names) λns0 _ ad O=>?_;refine bL (Shp.ex R.hc D.n (A8 _)) λJ S0=>?_;obtain F0:Fit D h J:=⟨R.ok,R.hr,S0⟩;obtain an:nv t.v+1<=4:=u0 (IM t) (I7 (by decide) ht);obtain ps:yY t.v+1<=8:=u0 (GI t) (I7 (by decide) (E0 ht));obtain Ka:Askable D t.v:=⟨Dv hp,E9 ps (by decide),u0 (I7 (by decide) (Nat.le_of_succ_le_succ an)) (by decide:60^3<=2^18),λc hc=>vw F0 R.n9 R.few ad O G B (HD.mem_roots.mp hc)⟩;refine HA (FD (BZ (aS (.var h1) R.k rfl T.Walker_found.some (.cons (.var h2) .nil) (Cy T R.ok (m:=3) (u0 (Ga t) (E0 ht)) R.at_ R.k Ka λH1 a1 x1 ha1 e1=>?_))));obtain R1:=R.ext x1;refine eE (.cons (.var h2) (.cons (.var h4) .nil)) ((HY T R1.w R.ho R.hc (AD R.ok) (IL R.ok) hp (u0 ht (by decide)) Y Z (λkvs ns S nd mem=>yp (D:=D) ⟨R.ok,R.hr,S⟩ R.n9 R.few nd mem G B) λkvs ns H2 a2 S nd mem x2 e2=>?_).room (by decide));obtain F:Fit D h kvs:=⟨R.ok,R.hr,S⟩;obtain pl:=yr (kvs:=kvs) (t:=t) (cs:=cl) nd mem;rw[yy F nd mem G B]at e2 pl;refine re _ _ (x2 _ _ e1) e2 pl pl ?_;rw[bH];refine fZ rfl (BZ ?_);obtain Q:=R1.ext x2;refine aS (.var h3) Q.at_.heap rfl T.Heap_size.some .nil ((Cz T Q.at_ R.ok (aB (dj (Q.w.nodes h4) Q.w.n (u7 _) (u0 R.ok.nz (by decide))) (oD _ _ _ _ ?_))).room (by decide));rw[vL rfl];exact fZ rfl (k H2 (x1.trans' x2))
noncomputable abbrev Oo:List MS:=[.asg (.tg (.nm "pattern")) (.call "_law_pattern" (.cons d7 (.cons o8 (.cons (.cmp1 .eq k6 d5) .nil)))),FH]
theorem Co(T:Txt σ)(R:Rdy H fa ca wa na ha wk wd cs s D P h)(hs:s<=200)(h0:l "feed"=some (.ref fa))(Y:l "walker"=some (.ref wk))(Z:l "heap"=some (.ref D.hp))(h4:l "world"=some (.ref wa))(h5:l "lap"=some (iv i)) (k:∀l' H' s',(∀y,y≠"pattern"->l' y=l y)->Rdy H' fa ca wa na ha wk wd cs s' D P h->s'<=s+7->K .next l' H'):au σ 9 Oo l H K:=by
 have G:∀H' (t:Tr) s',t.pat->t.ht<=2->s'<=s+7->Kp fa H H'->Feed H' fa ca cs s'->∃l',eW H' (.nm "pattern") t.v l=some l'/\au σ 9 [FH] l' H' K:=λH' t s' hp ht B kp F=>by obtain J:=R.kp kp F;exact(af _ rfl (ask T J hp ht ((ag _ _ (by decide)).trans Y) (aq _ _ _) ((ag _ _ (by decide)).trans Z) ((ag _ _ (by decide)).trans h4) λH2 x=>k _ H2 s' (λy hy=>ag _ _ hy) (J.ext x) B))
 obtain Q:Ev σ l H (.cmp1 .eq k6 d5) (.bool (decide (i=0))):=.cmp (.var h5) .cst λ_ q=>gJ (j:=0) q;refine ce (eE (.cons (.var h0) (.cons .cst (.cons Q .nil))) ?_);obtain O:s+7<=9990:=u0 (M9 hs 7) (by decide);by_cases e:i=0
 .rw[E4 e];exact(FO T R.feed O λH' t s' hp ht _ B kp F=>G H' t s' hp ht B kp F).room (by decide)
 .rw[E6 e];exact(Ep (fa:=fa) (ca:=ca) (cs:=cs) T 2 R.feed O λH' t s' hp ht B kp F=>G H' t s' hp ht B kp F).room (by decide)
theorem pH(T:Txt σ){Q:b8}{x:Addr}{v:V}(h:Hold H0 H [(dx,.dict (fl [])),(x,.inst "Walker" dx)])(q:∀H',Hold H0 H' [(dx,.dict (fl [("heap",v)])),(x,.inst "Walker" dx)]->Q .none H'):MCall σ 1 "Walker" "__init__" [.ref x,v] H Q:=by refine aE T.ok T.Walker_init rfl ?_;refine(af _ rfl (af _ rfl (Qx x ("Walker") dx (fl []) rfl ((h.all (x,.inst "Walker" dx) (by simp)).1) (by rw[T.fWalker];simp) ((h.all (dx,.dict (fl [])) (y7)).1) (ph _) (by simp[fl]) ?_)));rw[wO (by rfl)];exact q _ (h.upd (L1:=[]) (.dict (fl [("heap",v)])))
theorem PW(T:Txt σ)(hd:5<=d)(M:Mid H fa ca wa na ha cs s D P h)(n9:D.n<=9)(fw:sG D 7)(h2:l "heap"=some (.ref D.hp))(h4:l "world"=some (.ref wa)) (k:∀H' O wk wd D' h',D'.hp=D.hp->Rdy H' fa ca wa na O wk wd cs s D' P h'->au σ d rest (l.put "walker" (.ref wk)) H' K) : au σ d (.expr (.meth g8 "settle" .nil)::.expr (.call "_law_close" (.cons c8 .nil))::.asg (.tg (.nm "walker")) (.new "Walker" (.cons g8 .nil))::rest) l H K:=by refine eS (aS (.var h2) M.at_.heap rfl T.Heap_settle.some .nil ((zU T M.at_ M.ok λH1 F G c w=>⟨trivial,?_⟩).room hd));obtain C1:=c _ M.cl;have kf:=G.frm.keep M.feed.f M.f1;obtain kc:=G.frm.keep M.feed.c M.f2;have kw:=G.frm.keep M.w.w M.f3;obtain kn:=G.frm.keep M.w.n M.f4;obtain kh:=G.frm.keep M.w.h M.f5;have F1:Feed H1 fa ca cs s:=⟨kf.1,kc.1,M.feed.len,M.feed.ne⟩;have W1:Wd H1 wa na ha F.nodes h:=G.nodes▸⟨kw.1,kn.1,kh.1,M.w.ne⟩;refine eS (eE (.cons (.var h4) .nil) ((Cw T W1 (G.nodes▸M.ho) (AD G.ok) (IL G.ok) λH2 Q g x2 W2 HO HC=>⟨trivial,?_⟩).room (u0 (by decide) hd)));obtain F2:Feed H2 fa ca cs s:=F1.keep (λo=>x2 _ o M.n1) (λo=>x2 _ o (W1.nel F1.c));obtain A2:=G.at_.extB x2 kw.2;refine bL T.cWalker λC' eC=>?_;refine cG T.Walker_init λf _ ef _=>?_;refine ce (pF C' f (d-1) (Nat.sub_add_cancel (u0 (by decide) hd)).symm eC ef (af _ h2 λwk wd Z ad Y=>((pH T (rQ Hold.nil "Walker" Z ad Y) λH3 J=>?_).call ef).room (Nat.le_sub_of_add_le (u0 (by decide) hd))));obtain B:Ext H2 H3:=J.ext;obtain n1:F.n=D.n:=C3 List.length G.nodes;refine⟨rfl,af _ rfl (k H3 Q wk wd F g G.hp ⟨A2.ext B,G.ok,λi hi=>HO.eq HC G.ok.rle C1.fit (C1.cong w) hi,W2.ext B,HO,HC,⟨(J.all (wk,.inst "Walker" wd) (by simp)).1,by rw[G.hp];exact(J.all (wd,.dict (fl [("heap",.ref D.hp)])) (y7)).1⟩,F2.keep (B _) (B _),kf.2,M.n1,by unfold sG;rw[G.nodes];exact fw,u0 (u4 n1) n9⟩)⟩
theorem NX(T:Txt σ)(H:AH):au σ 9 xo.body (aR xo.params [.scr]) H (nD λv _=>v=.bool true):=by refine PS rfl λH1 fa ca cs _ F1=>?_;refine PT T (by decide) F1 λH2 wa na ha D2 M2 Q O=>?_;refine PU T (by decide) M2 Q rfl rfl λH3 D3 h3 M3 a3 b3 n3 p3 f3=>?_;refine ce (aC (eI (aB .cst (eE (.cons (.var rfl) (.cons (.cst (v:=iv 5)) .nil)) ((jS T M3.feed (by decide) (m:=5) (by decide) λH4 j hj o4 F4=>zM (aC (eI (aB .cst (eE (.cons (.var rfl) (.cons (.cst (v:=iv 4)) .nil)) ((jS T F4 (by decide) (m:=4) (by decide) λH5 j2 Z o5 F5=>zM (bQ ⟨_,rfl,?_⟩)).room (by decide))))))).room (by decide))))));obtain M5:=(M3.kp o4.kp F4).kp o5.kp F5;rw[show V.int ((3:Int)+(j:Int))=iv (3+j)from rfl,show V.int ((1:Int)+(j2:Int))=iv (1+j2)from rfl];refine PV T (by decide) (m:=3+j) (p:=1+j2) M5 (A8 2) (b3.trans O) n3 p3 f3 (I6 (G8 hj) 3) rfl (by rw[a3];rfl) rfl rfl rfl (I6 (G8 Z) 1) λJ H6 ha6 s6 D6 P6 h6 B M6 a6 n6 f6 q6=>?_;obtain e0:J "feed"=some (.ref fa):=(B _ (by decide)).trans rfl;have e1:J "heap"=some (.ref D6.hp):=(B _ (by decide)).trans (by rw[a6,a3];rfl);have e2:J "world"=some (.ref wa):=(B _ (by decide)).trans rfl;refine PW T (by decide) M6 n6 f6 e1 e2 λH7 Y wk wd D7 h7 a7 R7=>?_;refine wB (n:=2) .cst (by decide) (λi l' H'=>(∀y,y∉["lap","pattern"]->l' y=(J.put "walker" (.ref wk)) y)/\∃s',Rdy H' fa ca wa na Y wk wd cs s' D7 P6 h7/\s'<=79+7*i) ⟨λ_ _=>rfl,(af s6 R7 q6)⟩ (λi l' H' k' hi z hk=>?_) λl' H' z=>cb (rest:=[]) .cst rfl;refine cf z λkp aW=>?_;refine ah aW λs' R' F=>?_;have lo:∀y,y∉["lap","pattern"]->(l'.put "lap" (iv i)) y=(J.put "walker" (.ref wk)) y:=λy G=>(ag _ _ λe=>G (by rw[e];decide)).trans (kp y G);exact Co T R' (u0 (En F (D5 hi)) (by decide)) ((lo _ (by decide)).trans ((ag _ _ (by decide)).trans e0)) ((lo _ (by decide)).trans (aq _ _ _)) ((lo _ (by decide)).trans ((ag _ _ (by decide)).trans (by rw[a7];exact e1))) ((lo _ (by decide)).trans ((ag _ _ (by decide)).trans e2)) (aq _ _ _) λl2 H2 s2 kp2 R2 q2=>hk l2 H2 ⟨λy G=>(kp2 y λe=>G (by rw[e];decide)).trans (lo y G),(af s2 R2 (HN q2 F))⟩
end
end
section
variable{fd:FuncData}
theorem pE:∀{names:List Str}{vals:List Value},vals.length=names.length->∀n∈names,((names.zip vals).lookup n).isSome=true
 |a::names,v::vals,hl,n,h=>by
  rw[O6,L7];by_cases e:n=a
  .rw[N4.mpr e];rfl
  .rw[beq_false_of_ne e];exact pE (P0 hl) n ((C0.mp h).resolve_left e)
theorem nY{f g:α->Option β}{l:List α}(h:∀x∈l,f x=g x):l.filterMap f=l.filterMap g:=by
 induction l with
 |nil=>rfl
 |cons a l F=>rw[Rw,Rw,h a y7,F λx B=>h x (y9 _ B)]
theorem pV:∀{names:List Str}{vals:List Value},names.Nodup->vals.length=names.length->(names.filterMap λn=>((names.zip vals).lookup n).map (n,·))=names.zip vals:=by
 intro names;induction names with
 |nil=>exactλ_ _=>rfl
 |cons a names F =>
  intro vals nd hl;rcases vals with _|⟨v,vals⟩
  .exact nomatch hl
  .have nd:=E8.mp nd;obtain e1:(((a,v)::names.zip vals).lookup a)=some v:=by rw[L7,beq_self_eq_true]
   rw[O6,Rw,e1];refine C3 ((a,v)::·) ((nY λn B=>?_).trans (F nd.2 (P0 hl)));rw[L7,beq_false_of_ne λe:n=a=>nd.1 (e▸B)]
theorem yg{name qn:Str}{body:FuncBody}{gl:Addr}{cl:List (Str×Addr)}{kd G pm:Value}{Q:Option Addr}{code Y:Value}{bi:Addr}{B:List Arg}{J:List (Option Expr)}{F:List Expr}{vals:List Value} (hl:vals.length=(B.map Arg.arg).length) (m0:(((B.map Arg.arg).take (B.map Arg.arg).length).filter λn=>(((B.map Arg.arg).zip vals).lookup n).isNone)=[]) (Z:((B.map Arg.arg).filterMap λn=>(((B.map Arg.arg).zip vals).lookup n).map (n,·))=(B.map Arg.arg).zip vals) : bindArgs ⟨name,qn,⟨[],B,none,[],J,none,F⟩,body,sc,gl,cl,.none,kd,G,pm,Q,code,Y,bi⟩ ⟨vals,[]⟩=pure ((B.map Arg.arg).zip vals):=by
 obtain O:∀k,List.drop k ((none:Option (Array Value)).getD #[]).toList=[]:=λk=>List.drop_nil;refine(if_neg (λz=>?_)).trans ?_
 .obtain z:=B8 (I1 _ _ |>.mp z).1;exact Nat.lt_irrefl _ (hl▸z)
 refine(if_neg (λz=>?_)).trans ?_
 .rw[O]at z;exact D0 ((C3 (λl:List Str=>!l.isEmpty) m0).symm.trans z)
 rw[O,List.zip_nil_right];exact Eq.trans (b:=(pure (List.filterMap (λn=>Option.map (λx=>(n,x)) (List.lookup n ((List.map Arg.arg B).zip vals))) (List.map Arg.arg B++[])):Sem (List (Str×Value)))) (by rfl) (by rw[H8,Z])
theorem sS{names:List Str}(O:fd.params.posonlyargs.isEmpty=true)(Q:fd.params.args.map Arg.arg=names)(Y:fd.params.vararg.isNone=true)(Z:fd.params.kwonlyargs.isEmpty=true)(h5:fd.params.kwarg.isNone=true)(h6:fd.defaults=.none) (nd:names.Nodup) {vals:List Value} (hl:vals.length=names.length):bindArgs fd ⟨vals,[]⟩=pure (names.zip vals):=by obtain⟨name,qn,⟨po,ar,va,ko,kdf,kw,G⟩,body,sc,gl,cl,F,kd,J,pm,an,code,ct,bi⟩:=fd;cases(show po=[]from J2.mp O);cases(show va=none from Option.isNone_iff_eq_none.mp Y);cases(show ko=[]from J2.mp Z);cases(show kw=none from Option.isNone_iff_eq_none.mp h5);cases(show F=.none from h6);subst Q;refine yg hl ?_ (pV nd hl);rw[List.take_length,List.filter_eq_nil_iff];intro n hn z;obtain B:=pE hl n hn;rw[Option.isNone_iff_eq_none.mp z]at B;exact ai B
theorem Au{d:Data}(h:Iz d=some fd):d=.func fd:=by cases d <;> first|exact kb h|exact C3 Data.func (w4 h)
theorem BA{d:Data}{vs:Array Value}(h:NM d=some vs):∃n,d=.seq vs n:=by cases d <;> first|exact kb h|exact⟨_,C3 (Data.seq · _) (w4 h)⟩
theorem An{d:Data}{vs:Array Value}(h:Iy d=some vs):d=.fields vs:=by cases d <;> first|exact kb h|exact C3 Data.fields (w4 h)
theorem uI{v:Value}{s:Str}(h:Hs v=some s):∃t,v=.str s t:=by cases v <;> first|exact kb h|exact⟨_,C3 (Value.str · _) (w4 h)⟩
theorem un{v:Value}{s:Addr}(h:Bt v=some s):v=.ref s:=by cases v <;> first|exact kb h|exact C3 Value.ref (w4 h)
theorem FJ{x:Option α}{f:α->Option β}{b:β}(h:x.bind f=some b):∃a,x=some a/\f a=some b:=by
 rcases x with _|a
 .exact kb h
 .exact(af a rfl h)
theorem vf{m:bn}{b:FuncBody}(h:zP fd m b=true):∃ys,b=.stmts ys/\jy fd.scope.names m.body ys=true:=by
 cases b with
 |stmts ys=>exact(af ys rfl h)
 |expr _=>exact ai h
theorem Gk{k:Option NameKind}(h:Dc false k=true):k=some .local\/k=some .cell:=by
 rcases k with _|k
 .exact ai h
 .cases k <;> first|exact ai h|exact .inl rfl|exact .inr rfl
theorem Dd{k:NameKind}(h:Dc true (some k)=true):k≠.free:=by rintro rfl;exact ai h
theorem zt{v:Value}(h:Fz v=true):v=.none:=by cases v <;> first|exact ai h|rfl
theorem zZ{K:Frag}(X:K.In h){q:Str}{v:Value}(e:HZ K v=some q):h.CodeRec v q:=by refine ah (FJ e) λc hc e=>?_;refine ah (FJ e) λo ho e=>?_;refine ah (FJ e) λvs B e=>?_;refine ah (FJ e) λx F e=>?_;refine bL (uI e) λt e=>?_;exact(QV c o vs t (un hc) (X _ _ ho) (An B) (F.trans (C3 some e)))
def CQ{K:Frag}(X:K.In h){a:Addr}(e:CP K a=some fd):∃o,h.get? a=some o/\o.data=.func fd :=(FJ e).elim λo e=>(af o (X _ _ e.1) (Au e.2))
def jZ:∀{l:List String},l.Nodup->(l.map Str.ofString).Nodup:=λ{l} h=>K1.mpr (List.Pairwise.imp (λB e=>B (bo e)) h)
theorem nb{b:Bool}(h:(!b)=true):b=false:=by cases b;rfl;exact ai h
theorem rI(X:σ.K.In σ.base){a:Addr}{m:bn}(e:Ap σ.K a m=true):∃fd,FnAt σ a fd m.params m.body:=by
 have e:(match CP σ.K a with|some fd=>Aq σ.K fd m|none=>false)=true:=e;rcases F:CP σ.K a with _|fd
 .rw[F]at e;exact ai e
 .rw[F]at e;have e:Aq σ.K fd m=true:=e;obtain e1:=aa e;obtain e2:=aa e1.2;obtain e3:=aa e2.2;obtain e4:=aa e3.2;obtain e5:=aa e4.2;obtain e6:=aa e5.2;obtain e7:=aa e6.2;have e8:=aa e7.2;obtain e9:=aa e8.2;obtain G:=aa e9.2;obtain J:=aa G.2;obtain O:=aa J.2;obtain Q:=aa O.2;have B:=aa Q.2;obtain Y:=aa B.2;obtain Z:=aa Y.2;exact⟨fd,CQ X F,zZ X (B8 Z.2),vf e1.1,J2.mp e2.1,J3 e3.1,J3 e4.1,nb e5.1,nb e6.1,B8 e7.1,
   λvals hl=>sS e8.1 (B8 e9.1) G.1 J.1 O.1 (zt Q.1) (jZ (B8 B.1)) (hl.trans (u7 (f:=Str.ofString)).symm),
   B8 B.1,λp hp=>Gk (J5.mp Y.1 p hp),λx hx=>Dd (J5.mp Z.1 x hx)⟩
theorem zn{K:Frag}{a:Addr}{cvs:Array Value}(h:xV K a=some cvs):∃o:Obj,K.lookup a=some o/\o.cls=.type "tuple"/\∃m,o.data=.seq cvs m:=by
 refine ah (FJ h) λo ho e=>?_;by_cases hc:o.cls=.type "tuple"
 .rw[if_pos hc]at e;exact(aN o ho hc (BA e))
 .rw[if_neg hc]at e;exact kb e
end
section
variable{K:Frag}{base:Heap}{sad:Addr}{X:Addr->Prop}
mutual
theorem DZ(I:K.In base)(hX:∀b,X b->base.get? b=none):∀(v:V)(c:Value),NV K v c=true->VR ⟨sad,X⟩ base v c
 | .str _,_,e=>(uI (B8 e)).elim λn e=>⟨n,e⟩
 | .tup vs,c,e=>by
  have e:(match(Bt c).bind (xV K)with|some cvs=>xX K vs cvs.toList|none=>false)=true:=e;rcases h:(Bt c).bind (xV K)with _|cvs
  .rw[h]at e;exact ai e
  .rw[h]at e;refine ah (FJ h) λa ha h=>?_;refine bE (zn h) λo ho hc aW=>?_;refine bL aW λm hd=>?_;obtain B:=I _ _ ho;exact(pF a cvs _ (un ha) (λx=>nn (hX a x) B) (aN o B hc hd) (uN I hX vs cvs.toList e))
 | .none,_,e=>ai e
 | .scr,_,e=>ai e
 | .bool _,_,e=>ai e
 | .int _,_,e=>ai e
 | .ref _,_,e=>ai e
theorem uN(I:K.In base)(hX:∀b,X b->base.get? b=none):∀(vs:List V)(cs:List Value),xX K vs cs=true->VRs ⟨sad,X⟩ base vs cs
 | [],_,e=>J2.mp e
 |v::vs,cs,e=>by
  rcases cs with _|⟨c,cs⟩
  .exact ai e
  .obtain e:=aa e;exact(bR c cs rfl (DZ I hX v c e.1) (uN I hX vs cs e.2))
end
theorem zI{x:Option (Option Value)}{f:Option Value->Bool}(e:HU x f=true):∃a,x=some a/\f a=true:=by
 rcases x with _|a
 .exact ai e
 .exact(af a rfl e)
theorem Am{C:Addr}{n:Str}(e:Ey K C n=true):FldOK K C n :=
 have e1:=aa e;have e2:=aa e1.2;have B:=aa e2.2;have F:=aa B.2;have G:=aa F.2
 ⟨e1.1,e2.1,zI B.1,B8 F.1,G.1,B8 G.2⟩
def iU{v:Option (Option Value)}{f:Addr}(e:qP v f=true):v=some (some (.ref f)):=B8 e
def wU{f:Addr}(e:CS K f=true):typeIn K (.ref f)=some (.type "function"):=B8 e
theorem Da{f:Addr}(e:CS K f=true):isFn K (.ref f)=true:=by unfold isFn;rw[wU e];rfl
theorem AQ{C:Addr}{n:Str}{f:Addr}(e:EG K C n f=true):MthOK K C n f:=by obtain e1:=aa e;obtain e2:=aa e1.2;obtain B:=aa e2.2;exact⟨e1.1,iU e2.1,Da B.1,B.2⟩
theorem Di{C f:Addr}(e:IK K C f=true):MkOK K C f:=by obtain e1:=aa e;obtain e2:=aa e1.2;obtain B:=aa e2.2;exact⟨e1.1,iU e2.1,wU B.1,B.2⟩
def yR{v:Option (Option Value)}(e:AS v=true):v=some none:=B8 e
theorem vN{x:Option Addr}{f:Addr->Bool}{a:Addr}(h:PG x f=true)(e:x=some a):f a=true:=by subst e;exact h
noncomputable def BI(prog:Program)(w:World)(K:Frag)(base:Heap)(sad:Addr)(svs:List Int)(t:Tbl):Sx :=⟨prog,w,K,base,sad,svs,λf=>t.fn.lookup f,λc m=>t.meth.lookup (c,m),λc=>t.cls.lookup c,λc=>(t.flds.lookup c).getD []⟩
def PH{b:Bool}(h:(!decide ("__init__"="__init__")||b)=true):b=true:=h
theorem CI{svs:List Int}{t:Tbl}{mg mb:Str->Option Value}{cvs:Array Value}(I:K.In base)(G:base.Ns mainGlobals mg)(B:base.Ns builtinsNs mb)(nl:base.NoLimit)(sy:∃o,base.get? sysModules=some o) (hb:∀x:Str,x≠"__name__"->mb x=bootBuiltins x) (k1:Ez K t=true) (k2:Er K t=true) (k3:AM K t=true) (k4:Ao K t=true) (k5:El K=true) (Z:base.IsList sad cvs) (hI:IntsAre cvs.toList svs) (hz:cvs.size<=sizeLine) (F:∀p∈cj,Str.ofString p.1≠"__name__"/\bootBuiltins (Str.ofString p.1)=some p.2):aO (BI prog w K base sad svs t):=by
 refine⟨I,λc C f O J=>?_,λc C m a O J=>AQ (aa (vN (J5.mp k3 _ (gy J)) O)).1,λc C f O J=>Di (PH (aa (vN (J5.mp k3 _ (gy J)) O)).2),nl,
  (re mg mb G B (λf a h=>have e:=aa (J5.mp k1 _ (gy h));⟨mg_of I G (iU e.1),e.2⟩) (λc C h=>mg_of I G (iU (J5.mp k2 _ (gy h)))) (λp hp=>⟨mg_none_of I G (yR (J5.mp k5 p hp)),(hb _ (F p hp).1).trans (F p hp).2⟩)),sy,(af cvs Z hI),λY h'=>?_⟩
 .have J:f∈(t.flds.lookup c).getD []:=J;rcases Q:t.flds.lookup c with _|fs
  .rw[Q]at J;exact absurd J A7
  .rw[Q]at J;exact Am (J5.mp (vN (J5.mp k4 _ (gy Q)) O) f J)
 .obtain⟨o,a1,a2,n,a3⟩:=h';refine bE Z λo2 b1 b2 cI=>?_;refine bL cI λn2 b3=>?_;cases sm (show base.get? sad=some o from a1) b1;cases a3.symm.trans b3;exact hz
end
noncomputable def S0(w:World)(os:OsState):Shared:=⟨boot_heap w.params,#[],boot_drawn,boot_toks,os⟩
theorem PK(w:World)(os:OsState):topGo treeTable vV w 11 (some (.ref 6)) 12 (S0 w os) (topStub vV)=some ((Sa w os).abs,⟨denote treeTable Cu,Cu,q0,[topFrame q0]⟩):=by kernel_rfl
theorem FI(w:World)(os:OsState):segRun treeTable vV w 11 (some (.ref 6)) 1 1 (Sa w os).abs (blockOf zO Gc Cu q0 [topFrame q0])=some (.next,(Sa w os).abs,Cu,q0):=by kernel_rfl
theorem Os(w:World)(s:Shared)(p:Pos):topRun treeTable vV w 11 (some (.ref 6)) 2 s ⟨doneF .next,Cu,p,[topFrame q0]⟩=some s:=by kernel_rfl
theorem Df{p q:Program}{loose:List Str}{Xt Yf:Shared->Bool}{N:Nat}{H₀:Params->Heap}{B:Drawn}{F:Nat}{J:Nat}{Q:Option Value}{M:Nat} (O:∀w:World,(fencedOpening treeTable p w N).map (λs=>(s.heap,s.gens,s.drawn,s.toks))=some (H₀ w.params,#[],B,F)) (size:∀w:World,((H₀ w.params).isNs mainGlobals&&(#[]:Array GenState).size==0,(H₀ w.params).objs.size,(H₀ w.params).nsMap mainGlobals "__annotations__")=(true,J,Q)) (Y:∀(w:World)(os:OsState),∃r,topRun treeTable p w J Q M ⟨H₀ w.params,#[],B,F,os⟩ (topStub p)=some r/\vK p q loose Xt Yf (H₀ w.params) r=(true,openGood q loose,true)) (le:M<=N):LeftO p q loose Xt Yf (λ_=>true) N:=λw=>by
 obtain⟨⟨h,gs,d,k,os⟩,e,e'⟩:=E3.mp (O w);obtain⟨rfl,rfl,rfl,rfl⟩:h=H₀ w.params/\gs=#[]/\d=B/\k=F:=by injection e' with a b;injection b with b c;injection c with c d;exact⟨a,b,c,d⟩
 obtain Z:=C3 (·.1) (size w);obtain z2:=C3 (·.2.1) (size w);obtain z3:=C3 (·.2.2) (size w);obtain⟨G,r,l⟩:=Y w os;obtain l1:=C3 (·.1) l;obtain r:=topRun_mono (N-M) _ _ _ _ r;rw[Rc le]at r;have t:topFrom treeTable p w N ⟨H₀ w.params,#[],d,k,os⟩=some G:=by unfold topFrom;dsimp only at Z z2 z3 ⊢;rw[Z,z2,z3,r];show(match staticsOk (importedModules p.main.body) (H₀ w.params) G.heap&&namesBound p G.heap&&gensDone G&&laidKept (H₀ w.params) G.heap with|true=>_|false=>_)=_;rw[show(staticsOk (importedModules p.main.body) (H₀ w.params) G.heap&&namesBound p G.heap&&gensDone G&&laidKept (H₀ w.params) G.heap)=true from l1]
 unfold openEnds;rw[e];show(topFrom treeTable p w N _).map _=_;rw[t];exact C3 some (C3 (·.2) l)
def Ny:∀w:World,(fencedOpening treeTable vV w 6352).map (λs=>(s.heap,s.gens,s.drawn,s.toks))=some (boot_heap w.params,#[],boot_drawn,boot_toks):=boot_open rfl rfl λ_=>rfl
theorem NO(w:World):((boot_heap w.params).isNs mainGlobals&&(#[]:Array GenState).size==0,(boot_heap w.params).objs.size,(boot_heap w.params).nsMap mainGlobals "__annotations__")=(true,11,some (.ref 6)):=by kernel_rfl
theorem HH{os:OsState}{s:SharedT}{p:Pos}(h:Ow w os=some (.next,s,Cu,p)):topRun treeTable vV w 11 (some (.ref 6)) (12+(1+(3140+2))) (S0 w os) (topStub vV)=some s.abs:=by refine go_top (PK w os) (piece_block (FI w os) ?_);obtain B:=piece_app (rest:=[]) (segRun_of h) (piece_nil (Os w s.abs p));rw[H8]at B;exact B
set_option tactic.hygienic true
theorem IG:LeftO vV q4 [] X4 H4.obs H4.val 6352:=Df Ny NO (λw os=>by obtain⟨⟨f,s,c,p⟩,h,e⟩:=E3.mp (Gp w os);have e1:f=.next:=C3 (·.1) e;have e2:c=Cu:=C3 (·.2.1.1) e;subst e1 e2;exact⟨s.abs,HH h,C3 (·.2.2) e⟩) (by decide)
theorem Ct:∀p∈cj,Str.ofString p.1≠"__name__"/\bootBuiltins (Str.ofString p.1)=some p.2:=by intro p hp;simp only[cj,List.mem_cons,List.not_mem_nil,or_false]at hp;rcases hp with rfl|rfl|rfl|rfl|rfl|rfl|rfl|rfl|rfl|rfl|rfl|rfl|rfl|rfl <;> exact⟨by decide +kernel,by kernel_rfl⟩
section
variable(X:σ.K.In σ.base)(e:(qw.all λx=>Ap σ.K x.1 x.2)=true)
include X e
def aK{c m:String}{f:Addr}{x:bn}(i:Nat)(hi:qw[i]?=some (f,x))(h:σ.meth c m=some f):HasM σ c m x :=(rI X (J5.mp e _ (B0 hi))).elim λfd k=>⟨f,fd,h,k⟩
theorem dX{n:String}{f:Addr}{x:bn}(i:Nat)(hi:qw[i]?=some (f,x))(h:σ.fn n=some f):mO σ n x :=(rI X (J5.mp e _ (B0 hi))).elim λfd k=>⟨f,fd,h,k⟩
end
theorem NT{K:Frag}{base:Heap}{sad:Addr}{svs:List Int}(X:K.In base)(e:(qw.all λx=>Ap K x.1 x.2)=true)(C:aO (BI prog w K base sad svs DV)):Txt (BI prog w K base sad svs DV) where
 ok:=C
 fHeap:=rfl
 fBank:=rfl
 fUnions:=rfl
 fWalker:=rfl
 is_op:=dX X e 0 rfl rfl
 is_variable:=dX X e 1 rfl rfl
 Bank_init:=aK X e 2 rfl rfl
 Bank_size:=aK X e 3 rfl rfl
 Bank_take:=aK X e 4 rfl rfl
 Bank_require:=aK X e 5 rfl rfl
 Bank_op:=aK X e 6 rfl rfl
 Bank_kids:=aK X e 7 rfl rfl
 Walker_init:=aK X e 8 rfl rfl
 Walker_extended:=aK X e 9 rfl rfl
 Walker_found_in:=aK X e 10 rfl rfl
 Walker_found:=aK X e 11 rfl rfl
 Unions_init:=aK X e 12 rfl rfl
 Unions_make:=aK X e 13 rfl rfl
 Unions_size:=aK X e 14 rfl rfl
 Unions_find:=aK X e 15 rfl rfl
 Unions_merge:=aK X e 16 rfl rfl
 Unions_members:=aK X e 17 rfl rfl
 Unions_classes:=aK X e 18 rfl rfl
 Heap_init:=aK X e 19 rfl rfl
 Heap_size:=aK X e 20 rfl rfl
 Heap_node:=aK X e 21 rfl rfl
 Heap_add:=aK X e 22 rfl rfl
 Heap_look_at:=aK X e 23 rfl rfl
 Heap_find:=aK X e 24 rfl rfl
 Heap_merge:=aK X e 25 rfl rfl
 Heap_join:=aK X e 26 rfl rfl
 Heap_settle:=aK X e 27 rfl rfl
 Heap_classes:=aK X e 28 rfl rfl
 Heap_members:=aK X e 29 rfl rfl
 Heap_nodes_of:=aK X e 30 rfl rfl
 law_draw:=dX X e 31 rfl rfl
 law_close:=dX X e 32 rfl rfl
 law_one:=dX X e 33 rfl rfl
 law_put:=dX X e 34 rfl rfl
 law_pattern:=dX X e 35 rfl rfl
 law_names:=dX X e 36 rfl rfl
 law_home:=dX X e 37 rfl rfl
 law_due:=dX X e 38 rfl rfl
 cBank:=⟨_,rfl⟩
 cUnions:=⟨_,rfl⟩
 cHeap:=⟨_,rfl⟩
 cWalker:=⟨_,rfl⟩
theorem PY{svs:List Int}(h:cvs.length=svs.length)(q:¬(63:Int)<(svs.length:Int)):cvs.toArray.size<=sizeLine:=by have B:(svs.length:Int)<=(63:Nat):=Int.not_lt.mp q;exact u0 (u0 (u4 (List.size_toArray.trans h)) (Int.ofNat_le.mp B)) (by decide)
theorem Ix{K:Frag}{sad:Addr}{svs:List Int}(G:K.In s.heap)(c:(qw.all λx=>Ap K x.1 x.2)=true)(C:aO (BI prog w K s.heap sad svs DV)){P:Result->Shared->Prop}(k:∀s',(∀b o,s.heap.get? b=some o->s'.heap.get? b=some o)->s'.os=s.os->s'.gens=s.gens->P (.ok (.ret (.bool true))) s'):codeAny (model prog w) callerA (.call (.ref 485) ⟨[.ref sad],[]⟩) P s:=by
 obtain⟨fd,F⟩:=rI (σ:=BI prog w K s.heap sad svs DV) G (J5.mp c (485,xo) (B0 (i:=39) rfl));refine RN (sW oO rJ (vs:=[.scr]) (d:=9) (A:=callerA) (cvs:=[.ref sad]) (Xs:=λ_=>False) (hX:=λ_ h=>False.elim h) C F rfl (NX (NT G c C) (λ_=>none)) ⟨rfl,by decide,by decide⟩ ⟨λ_ _ e=>e,(λ_ _ e=>kb e),(λ_ _ e=>kb e),λ_ h=>False.elim h⟩ (A8 _) ⟨_,_,rfl,rfl,rfl⟩) λr s' hr=>?_;unfold uW at hr;split at hr
 .rename_i v;obtain⟨J,H',rfl,B,S⟩:=hr;have B:v=.bool true:=B;subst B;exact k s' (λb o e=>S.keep b o e rfl λz=>z) S.os S.gens
 .exact hr.elim
noncomputable def IE:=(defOf q4 (Str.ofString "law")).get rfl
end Mine
set_option tactic.hygienic true
set_option maxHeartbeats 8000000 in
theorem PySem.Challenge.cw_pq0056_01_holds : PySem.Challenge.rw_pq0056_01.Holds := by
 refine holds_law (by kernel_rfl) λsaid=>?_;refine holds_open (d:=Mine.IE.1) (kwd:=Mine.IE.2) (q:=Mine.q4) (loose:=[]) (Xt:=Mine.X4) (XP:=XL Mine.q4 []) (Yf:=Mine.H4.obs) (Ya:=Mine.H4.val) (YP:=Mine.H4.says) (N:=6352) Mine.IG Mine.H4.of Mine.H4.keeps (λs e=>xl_of s (Bool.and_eq_true_iff.mp e).1) XL.keeps (by rfl) (by rfl) (by rfl) (λs e=>recFacts_of (Bool.and_eq_true_iff.mp e).2) (by rfl) said (by decide +kernel) ⟨rfl,rfl,rfl,rfl,rfl,by decide +kernel⟩ ?hw ?hc
 case hw=>w_witness2
 intro w s₀ ac mg mb G Y fa o pm cd doc dV kV ho hd hcd hD hmg hg args vals as hpre hlay hrd hwl hlo;obtain⟨K,KX,ck⟩:=Y;have c1:=Mine.aa ck;have c2:=Mine.aa c1.2;have c3:=Mine.aa c2.2;have c4:=Mine.aa c3.2;have c5:=Mine.aa c4.2;have c6:=Mine.aa c5.2;refine Ground.open G ?_;intro T B D TE TW;have efa:fa=485:=by
  have:=mg_of KX T.g (Mine.iU c6.2)
  have hmg:mg (Str.ofString "law")=some (.ref fa):=hmg;rw[this]at hmg;cases hmg;rfl
 subst efa
 wrow_args hpre hlay hrd hwl hlo
 all_goals (
  refine enter_call ?_
  w_top on
  refine codeAny_mono ?_ (λ_ _ g=>GoodW.toG g))
 rename_i svs _ _ _ _ _ _ _ sad cvs _ hL _ _ _ hI _ hlen _;exact Mine.Ix (prog:=PySem.Challenge.rw_pq0056_01.row.prog) (w:=w) KX c1.1 (Mine.CI (prog:=PySem.Challenge.rw_pq0056_01.row.prog) (w:=w) (t:=Mine.DV) KX T.g T.b T.nolimit (let⟨_,⟨o,_,_,e,_⟩,_⟩:=(T.seer (by kernel_rfl)).mods;⟨o,e⟩) T.builtins c2.1 c3.1 c4.1 c5.1 c6.1 hL hI (Mine.PY hI.length hlen) Mine.Ct) λs' k o g=>⟨.inl ⟨.bool true,.bool true,[],rfl,λ_=>rfl,.bool _,by kernel_rfl,λ_=>⟨List.nodup_nil,λ_ h=>nomatch h⟩⟩,k,o,g.trans hg⟩
